import PyProof.Rows.All
import Wide.All
import OpenK.AllK
import Wide.FinOn
import PyProof.InstStoreFacts
import PyProof.ExcInit
import PyProof.ExcBaseAll.ValueError
import KE.KxBytes
import KE.KUnpack
import KE.KLam
import KE.KDictOf
import KE.KBytesCut
import KE.BytesMake
import KE.BitLaws
import Lean
import PySem.Challenge.RW_nu0101_01
set_option Elab.async false
set_option maxRecDepth 100000
namespace Fsx
def KX:=@List.length_cons
def K3:=@PySem.wpAny_bind
def Ti:=@List.length_nil
def T8:=@if_neg
def UQ:=@if_pos
def dT:=@decide_true
def df:=@PySem.wpAny_pure
def dq:=@decide_false
def dt:=@List.getElem?_eq_some_iff
def du:=@PySem.Heap.get?_push_of_some
def dv:=@Bool.and_eq_true
def dy:=@Option.map_eq_some_iff
def d6:=@List.getElem?_eq_getElem
def eA:=@List.mem_singleton
def eC:=@List.prefix_refl
def eD:=@Int.toNat_natCast
def eI:=@List.mem_append
def eJ:=@List.mem_map
def eP:=@List.length_map
def eQ:=@PySem.Heap.get?_push_size
def eR:=@List.length_append
def el:=@Nat.zero_le
def ew:=@Option.isSome_some
def fA:=@List.getElem?_eq_none
def fg:=@List.mem_cons
def fp:=@List.getD_eq_getElem?_getD
def fw:=@List.getElem?_map
def fx:=@Option.isSome_none
def f8:=@PySem.builtinLookup_eq_fast
def gL:=@List.map_append
def gN:=@PySem.wpAny_specialOf
def gl:=@List.nodup_cons
def hV:=@Array.length_toList
def hW:=@List.prefix_append
def ij:=@List.map_cons
def il:=@PySem.sizeLine_eq
def ip:=@decide_eq_true_eq
def iq:=@List.perm_append_comm_assoc
def ix:=@Nat.le_refl
def jU:=@List.all_eq_true
def jV:=@PySem.wpAny_mono
def jp:=@Bool.false_eq_true
def kA:=@List.mem_filterMap
def kS:=@PySem.wpAny_of_eq
def ke:=@beq_iff_eq
def kf:=@PySem.typeLookup_type
def kt:=@List.append_assoc
def ky:=@PySem.wpAny_holding
def kz:=@List.nodup_append
def lL:=@List.length_replicate
def lf:=@List.getElem?_append_left
def lv:=@Nat.le_trans
def lw:=@PySem.Heap.get?_update_other
def lx:=@PySem.Heap.get?_update_self
def mA:=@List.getElem?_append_right
def mB:=@List.drop_left
def mI:=@Bool.not_eq_true'
def mM:=@Option.some.inj
def me:=@List.filterMap_cons
def mi:=@Int.eq_ofNat_of_zero_le
def mm:=@List.eraseIdx_eq_take_drop_succ
def mn:=@List.mem_of_getElem?
def mo:=@List.mem_append_left
def mr:=@List.zip_cons_cons
def mv:=@List.getElem?_set_self
def mx:=@List.take_append_drop
def my:=@List.mem_append_right
def na:=@List.perm_append_comm
def nw:=@List.length_set
def nz:=@List.append_nil
def n0:=@List.any_append
def oI:=@List.getElem?_drop
def oP:=@List.cons_append
def og:=@List.perm_middle
def oo:=@Bool.not_eq_true
def pA:=@List.length_eq_zero_iff
def pE:=@PySem.Around.under_plainId
def pd:=@List.mem_range
def pf:=@PySem.isSubtype_type
def pg:=@PySem.Heap.size_after_update
def pj:=@PySem.W.typeIs_bytes
def pv:=@PySem.MeetsSeq.plain_remove_loop
def pz:=@PySem.Heap.SameBut.update
def qA:=@decide_eq_false
def qB:=@Bool.or_eq_true
def qC:=@List.forIn_cons
def qD:=@List.length_singleton
def qE:=@List.length_drop
def qF:=@PySem.wpAny_isInstance
def qG:=@List.lookup_cons
def qH:=@List.map_nil
def qI:=@List.map_map
def qJ:=@PySem.Heap.lt_size
def qK:=@List.getElem?_set_ne
def qL:=@List.take_succ_cons
def qM:=@if_false
def qN:=@List.getElem?_concat_length
def qO:=@List.take_of_length_le
def qP:=@Nat.lt_succ_self
def qQ:=@Option.bind_some
def qR:=@List.Sublist.nodup
def qS:=@List.getElem?_take
def qT:=@if_true
def qU:=@List.nil_append
def qV:=@List.foldl_append
def qW:=@PySem.wpAny_field
def qX:=@PySem.wpAny_loadName_local
def qY:=@Array.size_append
def qZ:=@Nat.ne_of_lt
def qa:=@List.any_cons
def qb:=@List.toList_toArray
def qc:=@List.mem_map_of_mem
def qd:=@List.any_eq_true
def qe:=@List.getElem_mem
def qf:=@List.getElem?_replicate
def qg:=@List.forIn_nil
def qh:=@List.getElem_cons_drop
def qi:=@List.drop_eq_nil_of_le
def qj:=@PySem.Code.quiet_builtin
def qk:=@Bool.eq_iff_iff
def ql:=@PySem.codeAny_builtin
def qm:=@Bool.not_true
def qo:=@Array.getElem?_toList
def qp:=@PySem.wpAny_storeName_local
def qr:=@List.take_add_one
def qs:=@Nat.lt_succ_of_lt
def qt:=@List.ext_getElem?
def qu:=@Option.some.injEq
def qv:=@PySem.wpAny_truthy_bool
def qw:=@PySem.wpAny_newObj_type
def qx:=@List.zip_nil_left
def qy:=@decide_eq_true
def qz:=@List.mem_of_mem_drop
def q0:=@List.mem_of_mem_take
def q5:=@PySem.codeAny_call_builtin
def q6:=@PySem.W.Looks.ld
def q7:=@List.drop_length
def q8:=@Option.getD_some
def q9:=@PySem.entryFor_of_tree
def rA:=@PySem.wpAny_call_entry
def rB:=@List.filter_cons
def rC:=@List.pairwise_iff_getElem
def rD:=@List.drop_eq_getElem_cons
def rE:=@beq_eq_false_iff_ne
def rF:=@Array.toList_append
def rG:=@congrArg
def rH:=@List.all_cons
def rI:=@PySem.plainId_quiet
def rJ:=@PySem.wpAny_standAt
def rK:=@List.mem_filter
def rL:=@List.find?_cons
def rM:=@List.set_cons_succ
def rN:=@PySem.wpAny_load
def rO:=@PySem.wpAny_callSpecial?_slot
def rP:=@PyProof.Rows.F.plain_set_update_loop
def rQ:=@Nat.add_zero
def rR:=@iff_of_false
def rS:=@PySem.wpAny_loadPart
def rT:=@PySem.F.bm_sub
def rU:=@PySem.MeetsSeq.entry_remove_loop
def rV:=@PySem.getMethod_builtin
def rW:=@List.set_getElem_self
def rX:=@PySem.F.slot_dict_get
def rY:=@List.length_take
def rZ:=@List.take_length
def re:=@Nat.le_add_right
def rh:=@PySem.wpAny_Name
def rj:=@List.map_take
def rm:=@PySem.Sem.wp_mono
def ru:=@Int.ofNat_eq_natCast
def rz:=@Array.toArray_toList
def r8:=@PySem.leftWithCleanup_false_of_bare
def r9:=@Bool.and_eq_true_iff
def sA:=@Nat.two_pow_pos
def sC:=@List.range_succ
def sD:=@PySem.codeAny_of_tree
def sF:=@Nat.min_eq_left
def sG:=@Nat.not_lt_zero
def sH:=@Int.toNat_of_nonneg
def sI:=@Nat.testBit_two_pow
def sJ:=@List.drop_succ_cons
def sK:=@PySem.Value.isStrOf_shape
def sL:=@PySem.codeAny_mono
def sM:=@Int.cast_ofNat_Int
def sN:=@List.set_cons_zero
def sO:=@Int.fdiv_eq_ediv_of_nonneg
def sP:=@PySem.typeIs_int
def sQ:=@PySem.Heap.size_push
def sR:=@Array.getElem?_eq_some_iff
def sS:=@bne_iff_ne
def sU:=@PySem.wpAny_rule
def sV:=@Array.toList_setIfInBounds
def sW:=@PySem.wpAny_call
def sX:=@List.lookup_append
def sY:=@List.zip_nil_right
def sZ:=@PySem.F.excBase_ValueError
def sf:=@List.mem_or_eq_of_mem_set
def sh:=@PySem.F.slot_dict_delitem
def si:=@List.getElem?_eq_none_iff
def sj:=@Function.comp_def
def sk:=@List.drop_sublist
def sm:=@List.size_toArray
def sq:=@Bool.not_eq_false
def sv:=@Nat.le_succ
def sx:=@PySem.wpAny_sequenceKey
def sy:=@Decidable.not_not
def s6:=@PySem.wpAny_alloc
def s7:=@List.filter_congr
def s9:=@PySem.Value.isInt_shape
def tA:=@PySem.W.looks_mroIn
def tB:=@Bool.true_and
def tC:=@List.eq_of_mem_replicate
def tD:=@List.length_erase_of_mem
def tE:=@Array.size_setIfInBounds
def tF:=@UInt8.toNat_ofNat_of_lt'
def tG:=@PySem.rangeSize_one
def tH:=@List.length_filterMap_le
def tI:=@decide_eq_false_iff_not
def tJ:=@Nat.add_sub_cancel_left
def tK:=@Option.getD_none
def tL:=@List.getElem?_cons_succ
def tM:=@PySem.wpAny_lookBehind
def tN:=@List.eraseIdx_cons_zero
def tO:=@List.eraseIdx_cons_succ
def tP:=@PySem.wpAny_ite
def tQ:=@PySem.slot_list_setitem
def tR:=@List.length_eraseIdx_le
def tS:=@Option.bind_eq_some_iff
def tT:=@PySem.wpAny_list_append_plain
def tU:=@PySem.F.plainAttrs_list
def tV:=@List.isEmpty_iff
def tW:=@Nat.add_comm
def tX:=@List.set_set
def tY:=@Nat.zero_add
def tZ:=@Nat.sub_zero
def tc:=@PySem.W.putName_dict
def td:=@PySem.F.entry_dict_get
def te:=@PySem.W.looks_findIn
def tf:=@PySem.wpAny_pyNext_list_item
def th:=@List.all_append
def tj:=@List.foldl_cons
def tn:=@PySem.F.bm_bind
def to:=@PySem.wpAny_loadPart'
def tp:=@Option.map_some
def tv:=@List.set_append_right
def tw:=@List.length_filter_le
def tz:=@PySem.F.slot_int_rmul
def t4:=@Bool.not_false
def t6:=@List.set_append_left
def t7:=@Bool.false_and
def t8:=@List.take_zero
def t9:=@List.getElem?_append
def uA:=@List.drop_zero
def uB:=@PySem.W.looks_clsIn
def uC:=@PySem.wpAny_seqItems
def uD:=@eq_true
def uE:=@List.filter_sublist
def uF:=@List.filter_eq_self
def uG:=@PySem.wpAt_of_wpAny
def uH:=@List.map_drop
def uI:=@Bool.or_false
def uJ:=@PySem.W.Looks.of_pure
def uK:=@Nat.not_lt
def uL:=@PySem.Sem.wp_bind'
def uM:=@PySem.wpAny_typeOf
def uN:=@PySem.call_meetsIn
def uO:=@Int.le_refl
end Fsx
namespace Fsx
theorem κ:(0:Int)<48:=by decide
theorem μ:(48:Int)<1073741824:=by decide
end Fsx
namespace Fsx
open PySem
local macro_rules |`(⋯)=>`(by first|decide+kernel|omega)
inductive V where
 |none
 |bool (b:Bool)
 |int (i:Int)
 |str (s:Str)
 |bytes (l:List Int)
 |tup (l:List V)
 |fl (l:List V)
 |fn (i:Nat)
 |cls (i:Nat)
 |bi (s:String)
 |ty (s:String)
 |ref (a:Nat)
 |clo (body:Expr) (scope:Scope) (cells:List (Str×Nat))
 |Ck (a b:Int)
 |dX (n:Nat)
 deriving Inhabited
inductive O where
 |inst (c:Nat) (fs:List (Str×V))
 |list (l:List V)
 |U' (l:List (Int×V))
 |dO (l:List (Str×V))
 |ba (l:List Int)
 |cell (v:Option V)
 deriving Inhabited
abbrev Hp:=List O
abbrev Loc:=List (Str×V)
inductive Res (α:Type) where
 |ok (a:α) (h:Hp)
 |exc (c:Nat) (h:Hp)
 |stuck
def Res.bind {α β:Type}:Res α->(α->Hp->Res β)->Res β
 | .ok a h,f=>f a h
 | .exc c h,_=>.exc c h
 | .stuck,_=>.stuck
def Res.some {α:Type}(h:Hp):Option α->Res α
 | .some a=>.ok a h
 | .none=>.stuck
inductive Fl where
 |next|brk|cont
 |ret (v:V)
inductive Out (α:Type) where
 |ok (a:α) (loc:Loc) (h:Hp)
 |exc (c:Nat) (loc:Loc) (h:Hp)
 |stuck
abbrev SR:=Out Fl
def Res.toS {α β:Type}(loc:Loc):Res α->(α->Hp->Out β)->Out β
 | .ok a h,f=>f a h
 | .exc c h,_=>.exc c loc h
 | .stuck,_=>.stuck
def lk {α:Type}(x:Str):List (Str×α)->Option α
 |[]=>none
 |(y,v)::r=>if x=y then some v else lk x r
def pt {α:Type}(x:Str) (v:α):List (Str×α)->List (Str×α)
 |[]=>[(x,v)]
 |(y,w)::r=>if x=y then (y,v)::r else (y,w)::pt x v r
def OO:Nat->List Stmt->Option Stmt
 |_,[]=>none
 |0,s::_=>some s
 |n+1,_::r=>OO n r
def Mm:Const->Option V
 | .none=>some .none
 | .bool b=>some (.bool b)
 | .int i=>some (.int i)
 | .str s=>some (.str s)
 | .bytes b=>if b.length<=1000 then some (.bytes (b.map λx=>(x.toNat:Int))) else none
 |_=>none
def VV:Expr->Option V
 | .Constant c _ _=>Mm c
 |_=>none
structure Rz where
 params:List Str
 dflts:List (Option V)
 body:List Stmt
 names:List (Str×NameKind)
 lam:Bool
def BH:Scope->Bool
 |⟨.function,ns,false,false,_⟩=>ns.all λp=>p.1 !="__debug__"&&p.1 !="__classdict__"&&(p.2 != .local||ns.lookup p.1==some .local)
 |_=>false
def makers:List Nat:=[46,49,50,51,52]
def Nc (lam:Bool):Stmt->Option Rz
 | .FunctionDef _ ⟨[],as,none,[],[],none,ds⟩ body [] _ [] scope _ _ _=>if BH scope then some ⟨as.map (·.arg),ds.map VV,body,scope.names,lam⟩ else none
 |_=>none
def top:List Stmt:=PySem.Challenge.pw_nu0101_01.main.body
def U5:List (Nat×Str×Nat):=[(24,"__init__",0),(24,"most_blocks",1),(24,"most_size",2),(24,"words",3),(24,"octets",4),(24,"row_of",5),(24,"bit_of",6),(26,"__init__",0),(26,"take_row",2),(26,"put_row",3),(26,"stat",4),(26,"read",5)]
def UW:List (Nat×Str×Nat):=[(26,"write",6),(26,"truncate",7),(26,"update",8),(26,"hold",9),(26,"put",10),(27,"__init__",0),(27,"need_number",1),(27,"kind_at",2),(27,"get",3),(27,"allocate",4),(27,"update",5),(27,"share",6)]
def Ud:List (Nat×Str×Nat):=[(27,"put",7),(27,"take_block",9),(27,"free_bit",10),(27,"clear_block",11),(27,"give_block",12),(27,"free_blocks",13),(27,"block_of",14),(27,"named_block",15),(27,"read",16),(27,"write",17),(27,"write_part",18),(27,"truncate",19)]
def Tu:List (Nat×Str×Nat):=[(27,"names_in",20),(29,"__init__",0),(29,"is_free",1),(29,"octets",2),(29,"fill",6),(29,"clear",7),(30,"__init__",0),(30,"need_block",1),(30,"need_held",2),(30,"get",3),(30,"make_room",4),(30,"release",5)]
def UO:List (Nat×Str×Nat):=[(30,"pin",6),(30,"unpin",7),(30,"write",8),(30,"flush",9),(30,"peek",10),(30,"poke",11),(32,"__init__",0),(32,"need_power",1),(32,"need_block",2),(32,"read",3),(32,"write",4),(32,"flush",6)]
def VD:List (Nat×Str×Nat):=[(32,"after",9),(32,"copy",10),(38,"__init__",0),(38,"is_own",1),(38,"has_room",2),(38,"left",3),(38,"begin",4),(38,"write",5),(38,"end",6),(38,"commit",7),(38,"fill_log",8),(38,"write_head",9)]
def U2:List (Nat×Str×Nat):=[(38,"install",10)]
def Kx:List (Nat×Str×Nat):=U5++UW++Ud++Tu++UO++VD++U2
def Ob:List Nat:=[19,20,21,22,23,25,37,40,41,42,43,44,45,46,47,48,49,50,51,52]
def YR (i j:Nat):Bool:=Kx.any λp=>p.1==i&&p.2.2==j
def MV (i j:Nat):Option Rz:=match OO i top with
 |some (.ClassDef _ _ _ body _ _ _ _ _ _ _)=>if YR i j then (OO j body).bind (Nc false) else none
 |some s=>if j==0&&Ob.any (· ==i) then Nc (makers.any (· ==i)) s else none
 |none=>none
def J0 (i:Nat) (x:Str):List (Nat×Str×Nat)->Option Nat
 |[]=>none
 |(k,y,j)::r=>if k=i/\x=y then some j else J0 i x r
def Fc (c:Nat):Bool:=[24,26,27,29,30,32,38].contains c
def AZ (i:Nat) (x:Str):Option Nat:=J0 i x Kx
def UI:List (Str×V):=[("MAGIC",.int 270544960),("FREE",.int 0),("DIRECTORY",.int 1),("FILE",.int 2),("DEVICE",.int 3),("FIRST_LOG",.int 2),("DIRECT",.int 12),("HEAD",.int 12),("PIECE",.int 16),("SUPER_WORDS",.int 9),("MOST_A_PIECE",.int 4),("NUMBER",.int 4)]
def U8:List (Str×V):=[("MOST_EACH",.int 10),("SPARE",.int 4),("BadArgument",.cls 3),("BadDisk",.cls 4),("NoRoom",.cls 5),("Super",.cls 24),("Node",.cls 26),("Nodes",.cls 27),("Buffer",.cls 29),("Cache",.cls 30),("Disk",.cls 32),("Journal",.cls 38)]
def Uw:List (Str×V):=[("half_at",.fn 19),("word_at",.fn 20),("put_half",.fn 21),("put_word",.fn 22),("rounded_up",.fn 23),("read_super",.fn 25),("packed_head",.fn 37),("_law_disk",.fn 40),("_law_open",.fn 41),("_law_done",.fn 42),("_law_room",.fn 43),("_law_put",.fn 44)]
def Ug:List (Str×V):=[("_law_plan",.fn 45),("_law_call_right",.fn 46),("_law_same",.fn 47),("_law_is_refused",.fn 48),("_law_sizes_right",.fn 49),("_law_refusals_right",.fn 50),("_law_freed_right",.fn 51)]
def globT:List (Str×V):=UI++U8++Uw++Ug
def Yg:List (Str×V):=[("len",.bi "len"),("min",.bi "min"),("max",.bi "max"),("abs",.bi "abs"),("sum",.bi "sum"),("isinstance",.bi "isinstance"),("range",.ty "range"),("list",.ty "list"),("bytes",.ty "bytes"),("bytearray",.ty "bytearray"),("dict",.ty "dict"),("set",.ty "set")]
def X1:List (Str×V):=[("int",.ty "int"),("str",.ty "str"),("enumerate",.ty "enumerate")]
def cA:List (Str×V):=Yg++X1
def glob (x:Str):Option V:=match lk x globT with
 |some v=>some v
 |none=>lk x cA
inductive Callee where
 |fn (i j:Nat)
 |clo (body:Expr) (scope:Scope) (cells:List (Str×Nat))
abbrev AN:=Callee->List V->Hp->Res V
structure Cx where
 names:List (Str×NameKind)
 cells:List (Str×Nat)
 lam:Bool
def lid:Nat:=1000000
def getVar (cx:Cx) (loc:Loc) (x:Str) (h:Hp):Option V:=
 match lk x cx.names with
 |some .local=>lk x loc
 |some .cell|some .free=>match lk x cx.cells with
  |some a=>match h[a]? with
   |some (.cell v)=>v
   |_=>none
  |none=>none
 |some .globalImplicit=>glob x
 |_=>none
def Bc (cx:Cx) (loc:Loc) (x:Str) (v:V) (h:Hp):Option (Loc×Hp):=
 match lk x cx.names with
 |some .local=>some (pt x v loc,h)
 |some .cell=>match lk x cx.cells with
  |some a=>match h[a]? with
   |some (.cell _)=>some (loc,h.set a (.cell (some v)))
   |_=>none
  |none=>none
 |_=>none
def BD:V->Bool
 | .int _=>true
 | .str x=>decide (x.length<=100)&&x.cps.all (· <0x110000)
 |_=>false
def eqB:V->V->Bool
 | .int a,.int b=>a==b
 | .str a,.str b=>a==b
 |_,_=>false
def Il:List V->List V->Bool
 |[],[]=>true
 |a::r,b::t=>eqB a b&&Il r t
 |_,_=>false
def Cv (a b:List V):Option Bool:=if a.all BD&&b.all BD then some (Il a b) else none
def itemsOf (v:V) (h:Hp):Option (List V):=match v with
 | .fl l=>some l
 | .ref a=>match h[a]? with
  |some (.list l)=>some l
  |_=>none
 |_=>none
def Oj (a b:V) (h:Hp):Option Bool:=match a,b with
 | .tup l,.tup m=>Cv l m
 | .bytes x,.bytes y=>some (x==y)
 | .int x,.int y=>some (x==y)
 | .str x,.str y=>if BD (.str x)&&BD (.str y) then some (x==y) else none
 |a,b=>match itemsOf a h,itemsOf b h with
  |some l,some m=>Cv l m
  |_,_=>none
def Cd:V->V->Bool
 | .int a,.int b=>a==b
 | .str a,.str b=>a==b
 |_,_=>false
def isKey:V->Bool
 | .int _=>true
 | .str _=>true
 |_=>false
def Bm {α:Type}(k:Int):List (Int×α)->Option α
 |[]=>none
 |(j,v)::r=>if j=k then some v else Bm k r
def Ar {α:Type}(k:Int) (v:α):List (Int×α)->List (Int×α)
 |[]=>[(k,v)]
 |(j,w)::r=>if j=k then (j,v)::r else (j,w)::Ar k v r
def Cw {α:Type}(k:Int):List (Int×α)->List (Int×α)
 |[]=>[]
 |(j,w)::r=>if j=k then r else (j,w)::Cw k r
def EZ (v:V) (l:List V):Option Bool:=if BD v&&l.all BD then some (l.any λy=>eqB y v) else none
def sliceOf {α:Type}(l:List α) (lo:Nat) (hi:Nat):List α:=(l.take hi).drop lo
def Ft (v:V) (x:Str) (h:Hp):Res V:=match v with
 | .ref a=>match h[a]? with
  |some (.inst _ fs)=>Res.some h (lk x fs)
  |_=>.stuck
 |_=>.stuck
def Oc:List (Nat×List Str):=[(24,["block","blocks","inodes","log","direct","row","rows","indirect","log_start","inode_start","bitmap_start","data_start"]),(26,["nodes","number","holders","kind","major","minor","links","size","places"]),(27,["journal","cache","super","table"])]
def N7:List (Nat×List Str):=[(29,["number","data","holders","pins"]),(30,["disk","most","size","row","by_number","hits","reads","writes"]),(32,["blocks","size","kept","latest","unflushed","writes","flushes","last","last_flush","is_dead"]),(38,["cache","start","size","places","most","each","numbers","noted","calls","commits"])]
def MB:List (Nat×List Str):=Oc++N7
def GN (c:Nat) (x:Str):List (Nat×List Str)->Bool
 |[]=>false
 |(k,l)::r=>(k==c&&l.any (· ==x))||GN c x r
def AP (c:Nat) (x:Str):Bool:=GN c x MB
def DV (v:V) (x:Str) (w:V) (h:Hp):Option Hp:=match v with
 | .ref a=>match h[a]? with
  |some (.inst c fs)=>match lk x fs with
   |some _=>some (h.set a (.inst c (pt x w fs)))
   |none=>if AP c x&&decide (fs.length<100) then some (h.set a (.inst c (pt x w fs))) else none
  |_=>none
 |_=>none
def EF (f:Nat->Nat->Nat) (a b:Int):Option V:=if 0<=a/\0<=b then some (.int (f a.toNat b.toNat)) else none
def rep {α:Type}(l:List α):Nat->List α
 |0=>[]
 |n+1=>l++rep l n
def intOf:V->Option Int
 | .int i=>some i
 | .bool b=>some (if b then 1 else 0)
 |_=>none
def binI (op:Operator) (a b:Int):Option V:=match op with
 | .Add=>some (.int (a+b))
 | .Sub=>some (.int (a-b))
 | .Mult=>if a.natAbs<9223372036854775808∨b.natAbs<9223372036854775808 then some (.int (a*b)) else none
 | .FloorDiv=>if 0<b/\b<1073741824 then some (.int (a / b)) else none
 | .Mod=>if 0<b then some (.int (a%b)) else none
 | .Pow=>if 0<=b/\b<64/\0<=a/\a<64 then some (.int (a^b.toNat)) else none
 | .LShift=>if 0<=b/\b<64/\0<=a/\a<1099511627776 then some (.int (a*2^b.toNat)) else none
 | .RShift=>if 0<=b/\b<64/\0<=a then some (.int (a / 2^b.toNat)) else none
 | .BitAnd=>EF (· &&& ·) a b
 | .BitOr=>EF (· ||| ·) a b
 | .BitXor=>if b=1 then some (.int (a+1-2*(a%2))) else none
 |_=>none
def UF (op:CmpOp) (i j:Int):Option Bool:=match op with
 | .Eq=>some (i==j)
 | .NotEq=>some (i !=j)
 | .Lt=>some (decide (i<j))
 | .LtE=>some (decide (i<=j))
 | .Gt=>some (decide (j<i))
 | .GtE=>some (decide (j<=i))
 |_=>none
def CJ (op:Operator) (a b:V) (h:Hp):Res V:=match a,b with
 | .int i,.int j=>Res.some h (binI op i j)
 | .bool _,.bool _=>match op,intOf a,intOf b with
  | .Add,some i,some j=>.ok (.int (i+j)) h
  |_,_,_=>.stuck
 | .int i,.bool _=>match op,intOf b with
  | .Add,some j=>.ok (.int (i+j)) h
  |_,_=>.stuck
 | .str x,.str y=>match op with
  | .Add=>if (x++y).length<=lid then .ok (.str (x++y)) h else .stuck
  |_=>.stuck
 | .bytes x,.bytes y=>match op with
  | .Add=>if x.length+y.length<=lid then .ok (.bytes (x++y)) h else .stuck
  |_=>.stuck
 | .ref p,.ref q=>match op,h[p]?,h[q]? with
  | .Add,some (.list l),some (.list m)=>if l.length+m.length<=lid then .ok (.ref h.length) (h++[.list (l++m)]) else .stuck
  |_,_,_=>.stuck
 | .ref p,.int k=>match op,h[p]? with
  | .Mult,some (.list l)=>if 0<=k/\k<=3/\l.length<=1000 then .ok (.ref h.length) (h++[.list (rep l k.toNat)]) else .stuck
  |_,_=>.stuck
 |_,_=>.stuck
def Hx (i j:Nat) (h:Hp):Option Bool:=if i=j then some true else match h[i]? with
 |some (.inst _ _)=>some false
 |_=>none
def Ao (op:CmpOp) (a b:V) (h:Hp):Option Bool:=match op with
 | .Eq=>Oj a b h
 | .NotEq=>(Oj a b h).map (!·)
 | .Lt=>match a,b with| .int i,.int j=>some (decide (i<j))|_,_=>none
 | .LtE=>match a,b with| .int i,.int j=>some (decide (i<=j))|_,_=>none
 | .Gt=>match a,b with| .int i,.int j=>some (decide (j<i))|_,_=>none
 | .GtE=>match a,b with| .int i,.int j=>some (decide (j<=i))|_,_=>none
 | .Is=>match a,b with
  | .none,.none=>some true
  | .ref i,.ref j=>Hx i j h
  | .none,.ref _=>some false
  | .ref _,.none=>some false
  | .int _,.none=>some false
  | .str _,.none=>some false
  |_,_=>none
 | .IsNot=>match a,b with
  | .none,.none=>some false
  | .ref i,.ref j=>(Hx i j h).map (!·)
  | .none,.ref _=>some true
  | .ref _,.none=>some true
  | .int _,.none=>some true
  | .str _,.none=>some true
  |_,_=>none
 | .In=>inV a b h
 | .NotIn=>(inV a b h).map (!·)
where
 inV (a b:V) (h:Hp):Option Bool:=match b with
  | .tup l=>EZ a l
  | .ref p=>match h[p]? with
   |some (.list l)=>EZ a l
   |some (.U' d)=>(match a with| .int k=>some (Bm k d).isSome|_=>none)
   |_=>none
  |_=>none
def GW:Operator->V->V->Option V
 | .Add,.int i,.int j=>some (.int (i+j))
 | .Sub,.int i,.int j=>some (.int (i-j))
 |_,_,_=>none
def BA:V->Option Bool
 | .bool b=>some b
 | .none=>some false
 |_=>none
def A9 (i:Int):Bool:=decide (0<=i)&&decide (i<256)
def Bt:List V->Option (List Int)
 |[]=>some []
 | .int i::r=>(Bt r).map (i:: ·)
 |_=>none
def BM (o i:V) (h:Hp):Option V:=match o,i with
 | .bytes l,.int k=>if 0<=k then (l[k.toNat]?).map .int else none
 | .tup l,.int k=>if 0<=k then l[k.toNat]? else none
 | .ref a,k=>match h[a]?,k with
  |some (.list l),.int k=>if 0<=k then l[k.toNat]? else none
  |some (.ba l),.int k=>if 0<=k then (l[k.toNat]?).map .int else none
  |some (.dO d),.str k=>lk k d
  |_,_=>none
 |_,_=>none
def Ew:V->Option Nat
 | .none=>some 0
 | .int k=>if 0<=k then some k.toNat else none
 |_=>none
def Eb (n:Nat):V->Option Nat
 | .none=>some n
 | .int k=>if 0<=k then some k.toNat else none
 |_=>none
def EG (o lo hi:V) (h:Hp):Res V:=match Ew lo with
 |none=>.stuck
 |some p=>match o with
  | .bytes l=>match Eb l.length hi with
   |some q=>.ok (.bytes (sliceOf l p q)) h
   |none=>.stuck
  | .tup l=>match lo,hi with
   | .int _,.none=>if 1<=p/\p<=l.length then .ok (.tup (l.drop p)) h else .stuck
   |_,_=>.stuck
  | .fl l=>match Eb l.length hi with
   |some q=>.ok (.ref h.length) (h++[.list (sliceOf l p q)])
   |none=>.stuck
  | .ref a=>match h[a]? with
   |some (.ba l)=>match Eb l.length hi with
    |some q=>.ok (.ref h.length) (h++[.ba (sliceOf l p q)])
    |none=>.stuck
   |_=>.stuck
  |_=>.stuck
def Go (o i v:V) (h:Hp):Option Hp:=match o with
 | .ref a=>match h[a]?,i,v with
  |some (.ba l),.int k,.int x=>if 0<=k/\k.toNat<l.length/\A9 x=true then some (h.set a (.ba (l.set k.toNat x))) else none
  |some (.list l),.int k,v=>if 0<=k/\k.toNat<l.length then some (h.set a (.list (l.set k.toNat v))) else none
  |some (.U' d),.int k,v=>if d.length<lid then some (h.set a (.U' (Ar k v d))) else none
  |some (.dO d),.str k,v=>if (lk k d).isSome then some (h.set a (.dO (pt k v d))) else none
  |_,_,_=>none
 |_=>none
def EJ (o lo hi v:V) (h:Hp):Option Hp:=match o,Ew lo,v with
 | .ref a,some p,.bytes m=>match h[a]? with
  |some (.ba l)=>match Eb l.length hi with
   |some q=>if p<=q/\q<=l.length/\m.length=q-p then some (h.set a (.ba (l.take p++m++l.drop q))) else none
   |none=>none
  |_=>none
 |_,_,_=>none
def Iy (o i:V) (h:Hp):Option Hp:=match o,i with
 | .ref a,i=>match h[a]?,i with
  |some (.list l),.int k=>if 0<=k/\k.toNat<l.length then some (h.set a (.list (l.eraseIdx k.toNat))) else none
  |some (.U' d),.int k=>if (Bm k d).isSome then some (h.set a (.U' (Cw k d))) else none
  |_,_=>none
 |_,_=>none
def Iq (v:V) (h:Hp):Option Int:=match v with
 | .bytes l=>some l.length
 | .tup l=>some l.length
 | .fl l=>some l.length
 | .dX n=>some n
 | .ref a=>match h[a]? with
  |some (.list l)=>some l.length
  |some (.ba l)=>some l.length
  |_=>none
 |_=>none
def Fm:List Int->Int
 |[]=>0
 |a::r=>a+Fm r
def C7 (s:String) (args:List V) (h:Hp):Option V:=match args with
 |[v]=>if s="len" then (Iq v h).map .int
   else if s="abs" then (match v with| .int i=>some (.int i.natAbs)|_=>none)
   else if s="sum" then ((itemsOf v h).bind Bt).map λl=>.int (Fm l)
   else none
 |[.int a,.int b]=>if s="min" then some (.int (if b<a then b else a)) else if s="max" then some (.int (if a<b then b else a)) else none
 |[.int _,.ty t]=>if s="isinstance"/\t="int" then some (.bool true) else none
 |_=>none
def DG (σ:List V) (v:V):List V:=if σ.any λy=>Cd y v then σ else σ++[v]
def distinct (l:List V):Nat:=(l.foldl DG []).length
def Hk (a:Int):Nat->List V
 |0=>[]
 |n+1=>.int a::Hk (a+1) n
def Ap (s:String) (args:List V) (h:Hp):Res V:=match args with
 |[]=>if s="bytearray" then .ok (.ref h.length) (h++[.ba []]) else .stuck
 |[.int n]=>
   if s="bytes" then (if 0<=n/\n<=1000000 then .ok (.bytes (List.replicate n.toNat 0)) h else .stuck)
   else if s="bytearray" then (if 0<=n/\n<=1000000 then .ok (.ref h.length) (h++[.ba (List.replicate n.toNat 0)]) else .stuck)
   else if s="range" then (if n.natAbs<=lid then .ok (.Ck 0 n) h else .stuck)
   else if s="str" then (if n.natAbs<1000000000 then .ok (.str (Str.ofString (toString n))) h else .stuck)
   else .stuck
 |[.bool b]=>if s="int" then .ok (.int (if b then 1 else 0)) h else .stuck
 |[.int a,.int b]=>if s="range"/\a.natAbs<=lid/\b.natAbs<=lid then .ok (.Ck a b) h else .stuck
 |[.bytes l]=>if s="bytes" then .ok (.bytes l) h else if s="bytearray" then .ok (.ref h.length) (h++[.ba l]) else .stuck
 |[.Ck a b]=>if s="list"/\(b-a).toNat<=lid then .ok (.ref h.length) (h++[.list (Hk a (b-a).toNat)]) else .stuck
 |[.ref p]=>match h[p]? with
  |some (.list l)=>
    if s="list" then .ok (.ref h.length) (h++[.list l])
    else if s="bytes" then (match Bt l with|some m=>if m.all A9 then .ok (.bytes m) h else .stuck|none=>.stuck)
    else if s="set" then (if l.all isKey&&decide (l.length<=1000) then .ok (.dX (distinct l)) h else .stuck)
    else .stuck
  |some (.ba l)=>if s="bytes" then .ok (.bytes l) h else .stuck
  |some (.U' d)=>if s="dict" then .ok (.ref h.length) (h++[.U' d]) else .stuck
  |_=>.stuck
 |_=>.stuck
def Cs (h:Hp) (a:Nat):Bool:=match h[a]? with
 |some (.inst 29 _)=>true
 |_=>false
def CB (h:Hp) (b:Nat):List V->Option (List V)
 |[]=>none
 | .ref a::r=>if a=b then some r else if Cs h a then (CB h b r).map (.ref a:: ·) else none
 |_=>none
inductive Mt where
 |own (i j:Nat)
 |FM|d7|dY|bext
def Hi (v:V) (x:Str) (h:Hp):Option Mt:=match v with
 | .ref a=>match h[a]? with
  |some (.inst c _)=>(AZ c x).map (Mt.own c)
  |some (.list _)=>if x="append" then some .FM else if x="remove" then some .d7 else none
  |some (.U' _)=>if x="get" then some .dY else none
  |some (.ba _)=>if x="extend" then some .bext else none
  |_=>none
 |_=>none
def Aw (K:AN) (m:Mt) (o:V) (args:List V) (h:Hp):Res V:=match m with
 | .own i j=>K (.fn i j) (o::args) h
 | .FM=>match o,args with
  | .ref a,[v]=>match h[a]? with
   |some (.list l)=>if l.length<lid then .ok .none (h.set a (.list (l++[v]))) else .stuck
   |_=>.stuck
  |_,_=>.stuck
 | .d7=>match o,args with
  | .ref a,[.ref b]=>match h[a]? with
   |some (.list l)=>match (if Cs h b then CB h b l else none) with
    |some l'=>.ok .none (h.set a (.list l'))
    |none=>.stuck
   |_=>.stuck
  |_,_=>.stuck
 | .dY=>match o,args with
  | .ref a,[.int k]=>match h[a]? with
   |some (.U' d)=>.ok ((Bm k d).getD .none) h
   |_=>.stuck
  | .ref a,[.int k,w]=>match h[a]? with
   |some (.U' d)=>.ok ((Bm k d).getD w) h
   |_=>.stuck
  |_,_=>.stuck
 | .bext=>match o,args with
  | .ref a,[.bytes m]=>match h[a]? with
   |some (.ba l)=>if l.length+m.length<=lid then .ok .none (h.set a (.ba (l++m))) else .stuck
   |_=>.stuck
  | .ref a,[.ref b]=>match h[a]?,h[b]? with
   |some (.ba l),some (.ba m)=>if l.length+m.length<=lid then .ok .none (h.set a (.ba (l++m))) else .stuck
   |_,_=>.stuck
  |_,_=>.stuck
def Ch (K:AN) (f:V) (args:List V) (h:Hp):Res V:=match f with
 | .fn i=>K (.fn i 0) args h
 | .cls i=>match AZ i "__init__" with
  |some j=>(K (.fn i j) (.ref h.length::args) (h++[.inst i []])).bind λr h'=>match r with| .none=>.ok (.ref h.length) h'|_=>.stuck
  |none=>.stuck
 | .clo body scope cells=>match args with
  |[]=>K (.clo body scope cells) [] h
  |_=>.stuck
 | .bi s=>Res.some h (C7 s args h)
 | .ty s=>Ap s args h
 |_=>.stuck
inductive Src where
 |lst (a:Nat)
 |enm (a:Nat)
 |Ck (a b:Int)
def Src.next (s:Src) (i:Nat) (h:Hp):Option (Option V):=match s with
 | .lst a=>match h[a]? with
  |some (.list l)=>some l[i]?
  |_=>none
 | .enm a=>match h[a]? with
  |some (.list l)=>some ((l[i]?).map λv=>.tup [.int i,v])
  |_=>none
 | .Ck a b=>some (if a+i<b then some (.int (a+i)) else none)
def Src.len (s:Src) (h:Hp):Nat:=match s with
 | .lst a| .enm a=>match h[a]? with
  |some (.list l)=>l.length
  |_=>0
 | .Ck a b=>(b-a).toNat
def Bo (s:Src) (turn:V->Loc->Hp->SR):Nat->Nat->Loc->Hp->SR
 |0,_,_,_=>.stuck
 |n+1,i,loc,h=>match s.next i h with
  |none=>.stuck
  |some none=>.ok .next loc h
  |some (some v)=>match turn v loc h with
   | .ok .next loc h=>Bo s turn n (i+1) loc h
   | .ok .cont loc h=>Bo s turn n (i+1) loc h
   | .ok .brk loc h=>.ok .next loc h
   | .ok (.ret v) loc h=>.ok (.ret v) loc h
   | .exc _ _ _=>.stuck
   | .stuck=>.stuck
def Al (t:Loc->Hp->Res Bool) (b:Loc->Hp->SR):Nat->Loc->Hp->SR
 |0,_,_=>.stuck
 |n+1,loc,h=>match t loc h with
  | .ok false h=>.ok .next loc h
  | .ok true h=>match b loc h with
   | .ok .next loc h=>Al t b n loc h
   | .ok .cont loc h=>Al t b n loc h
   | .ok .brk loc h=>.ok .next loc h
   | .ok (.ret v) loc h=>.ok (.ret v) loc h
   | .exc _ _ _=>.stuck
   | .stuck=>.stuck
  | .exc _ _=>.stuck
  | .stuck=>.stuck
def BG (s:Src) (turn:V->Loc->Hp->Res (Loc×Option V)):Nat->Nat->List V->Loc->Hp->Res (List V)
 |0,_,_,_,_=>.stuck
 |n+1,i,acc,loc,h=>match s.next i h with
  |none=>.stuck
  |some none=>.ok acc h
  |some (some v)=>match turn v loc h with
   | .ok (loc,some w) h=>if acc.length<lid then BG s turn n (i+1) (acc++[w]) loc h else .stuck
   | .ok (loc,none) h=>BG s turn n (i+1) acc loc h
   | .exc _ _=>.stuck
   | .stuck=>.stuck
def AH:List (Str×NameKind)->List (Str×Nat)->Hp->List (Str×Nat)×Hp
 |[],cs,h=>(cs,h)
 |(x,k)::r,cs,h=>if k= .cell then AH r ((x,h.length)::cs) (h++[.cell none]) else AH r cs h
def AW:List (Str×NameKind)->List (Str×Nat)->Option (List (Str×Nat))
 |[],_=>some []
 |(x,k)::r,cs=>if k= .free then (match lk x cs,AW r cs with|some a,some t=>some (t++[(x,a)])|_,_=>none) else AW r cs
def srcOf (v:V) (h:Hp):Option Src:=match v with
 | .Ck a b=>some (.Ck a b)
 | .ref a=>match h[a]? with
  |some (.list _)=>some (.lst a)
  |_=>none
 |_=>none
def BN:List (Hp->Res V)->List (Hp->Res V)->Hp->Res (List (Str×V))
 |[],[],h=>.ok [] h
 |k::ks,v::vs,h=>(k h).bind λa h=>(v h).bind λb h=>(BN ks vs h).bind λd h=>match a with
   | .str x=>if (lk x d).isSome then .stuck else .ok ((x,b)::d) h
   |_=>.stuck
 |_,_,_=>.stuck
def CW:Expr->Bool
 | .Call (.Name _ _) [] [] _=>false
 |_=>true
def noStar:List Expr->Bool
 |[]=>true
 | .Starred _ _::_=>false
 |_::r=>noStar r
mutual
def AX (K:AN):Expr->Cx->Loc->Hp->Res V
 | .Constant c _ _,_,_,h=>Res.some h (Mm c)
 | .Name x _,cx,loc,h=>Res.some h (getVar cx loc x h)
 | .Attribute e x _,cx,loc,h=>if CW e then (AX K e cx loc h).bind λv h=>Ft v x h else .stuck
 | .BinOp l op r _,cx,loc,h=>(AX K l cx loc h).bind λa h=>(AX K r cx loc h).bind λb h=>CJ op a b h
 | .UnaryOp op e _,cx,loc,h=>(AX K e cx loc h).bind λa h=>match op,a with
  | .Not,a=>(match BA a with|some b=>.ok (.bool (!b)) h|none=>.stuck)
  | .USub,.int i=>.ok (.int (-i)) h
  |_,_=>.stuck
 | .BoolOp op es _,cx,loc,h=>E5 K op es cx loc h
 | .Compare l ops rs _,cx,loc,h=>if lastMarks ops rs then .stuck else (AX K l cx loc h).bind λa h=>(Ax K ops rs a cx loc h).bind λb h=>.ok (.bool b) h
 | .IfExp t b o _,cx,loc,h=>(HE K t cx loc h (AX K t cx loc h)).bind λc h=>if c then AX K b cx loc h else AX K o cx loc h
 | .Tuple es _ _,cx,loc,h=>(G2 K es cx loc h).bind λvs h=>if vs.length<=1000 then .ok (.tup vs) h else .stuck
 | .List es _,cx,loc,h=>(G2 K es cx loc h).bind λvs h=>if vs.length<=1000 then .ok (.ref h.length) (h++[.list vs]) else .stuck
 | .Dict ks vs _,cx,loc,h=>match ks with
  |[]=>.ok (.ref h.length) (h++[.U' []])
  |_=>if ks.all (·.isSome)&&ks.length==vs.length&&decide (ks.length<=15) then (BN (CR K ks cx loc) (each K vs cx loc) h).bind λd h=>.ok (.ref h.length) (h++[.dO d]) else .stuck
 | .Lambda ⟨[],[],none,[],[],none,[]⟩ body scope _,cx,_,h=>match cx.lam&&BH scope,AW scope.names cx.cells with
  |true,some cs=>.ok (.clo body scope cs) h
  |_,_=>.stuck
 | .ListComp elt [⟨.Name tx _,it,ifs,0⟩] scope _,cx,loc,h=>match BH scope,AW scope.names cx.cells with
  |true,some cs=>(AX K it cx loc h).bind λv h=>match srcOf v h with
   |some s=>
    let (cells,h1):=AH scope.names cs h
    let iK:Cx:=⟨scope.names,cells,cx.lam⟩
    (BG s (λv loc h=>match Bc iK loc tx v h with
     |some (loc,h)=>(Cq K ifs iK loc h).bind λc h=>if c then (AX K elt iK loc h).bind λw h=>.ok (loc,some w) h else .ok (loc,none) h
     |none=>.stuck) (s.len h+1) 0 [] [] h1).bind λl h=>.ok (.ref h.length) (h++[.list l])
   |none=>.stuck
  |_,_=>.stuck
 | .Subscript e (.Slice lo hi none _) _,cx,loc,h=>(AX K e cx loc h).bind λo h=>(KV K lo cx loc h).bind λp h=>(KV K hi cx loc h).bind λq h=>EG o p q h
 | .Subscript e i _,cx,loc,h=>(AX K e cx loc h).bind λo h=>(AX K i cx loc h).bind λk h=>Res.some h (BM o k h)
 | .Call (.Attribute e x apos) args [] pos,cx,loc,h=>if CW e&&noStar args&&decide (args.length<30)&&(apos.endLine==pos.line) then (AX K e cx loc h).bind λo h=>match Hi o x h with
  |some m=>(G2 K args cx loc h).bind λvs h=>Aw K m o vs h
  |none=>.stuck
  else .stuck
 | .Call f args [] _,cx,loc,h=>if noStar args then (AX K f cx loc h).bind λf h=>(G2 K args cx loc h).bind λvs h=>Ch K f vs h else .stuck
 |_,_,_,_=>.stuck
def KV (K:AN):Option Expr->Cx->Loc->Hp->Res V
 |none,_,_,h=>.ok .none h
 |some e,cx,loc,h=>AX K e cx loc h
def G2 (K:AN):List Expr->Cx->Loc->Hp->Res (List V)
 |[],_,_,h=>.ok [] h
 |e::r,cx,loc,h=>(AX K e cx loc h).bind λv h=>(G2 K r cx loc h).bind λvs h=>.ok (v::vs) h
def CR (K:AN):List (Option Expr)->Cx->Loc->List (Hp->Res V)
 |[],_,_=>[]
 |e::r,cx,loc=>(λh=>KV K e cx loc h)::CR K r cx loc
def each (K:AN):List Expr->Cx->Loc->List (Hp->Res V)
 |[],_,_=>[]
 |e::r,cx,loc=>(λh=>AX K e cx loc h)::each K r cx loc
def E5 (K:AN):BoolOp->List Expr->Cx->Loc->Hp->Res V
 |_,[],_,_,_=>.stuck
 |_,[e],cx,loc,h=>AX K e cx loc h
 |op,e::r,cx,loc,h=>(AX K e cx loc h).bind λv h=>match op,BA v with
  | .And,some false=>.ok v h
  | .Or,some true=>.ok v h
  |_,some _=>E5 K op r cx loc h
  |_,none=>.stuck
def Ax (K:AN):List CmpOp->List Expr->V->Cx->Loc->Hp->Res Bool
 |[op],[e],a,cx,loc,h=>(AX K e cx loc h).bind λb h=>Res.some h (Ao op a b h)
 |op::ops,e::es,a,cx,loc,h=>(AX K e cx loc h).bind λb h=>match Ao op a b h with
  |some true=>Ax K ops es b cx loc h
  |some false=>.ok false h
  |none=>.stuck
 |_,_,_,_,_,_=>.stuck
def HE (K:AN):Expr->Cx->Loc->Hp->Res V->Res Bool
 | .UnaryOp .Not e _,cx,loc,h,_=>(HE K e cx loc h (AX K e cx loc h)).bind λb h=>.ok (!b) h
 | .BoolOp op es _,cx,loc,h,_=>LV K op es cx loc h
 | .Compare l ops rs _,cx,loc,h,_=>if lastMarks ops rs then .stuck else (AX K l cx loc h).bind λa h=>Ax K ops rs a cx loc h
 | .IfExp _ _ _ _,_,_,_,_=>.stuck
 |_,_,_,_,whole=>whole.bind λv h=>Res.some h (BA v)
def LV (K:AN):BoolOp->List Expr->Cx->Loc->Hp->Res Bool
 |op,[],_,_,h=>.ok (match op with| .And=>true| .Or=>false) h
 |op,e::r,cx,loc,h=>(HE K e cx loc h (AX K e cx loc h)).bind λb h=>match op,b with
  | .And,false=>.ok false h
  | .Or,true=>.ok true h
  |_,_=>LV K op r cx loc h
def Cq (K:AN):List Expr->Cx->Loc->Hp->Res Bool
 |[],_,_,h=>.ok true h
 |e::r,cx,loc,h=>(HE K e cx loc h (AX K e cx loc h)).bind λb h=>if b then Cq K r cx loc h else .ok false h
def Bb (K:AN):Expr->V->Cx->Loc->Hp->SR
 | .Name x _,v,cx,loc,h=>match Bc cx loc x v h with
  |some (loc,h)=>.ok .next loc h
  |none=>.stuck
 | .Attribute e x _,v,cx,loc,h=>(AX K e cx loc h).toS loc λo h=>match DV o x v h with
  |some h=>.ok .next loc h
  |none=>.stuck
 | .Subscript e (.Slice lo hi none _) _,v,cx,loc,h=>(AX K e cx loc h).toS loc λo h=>(KV K lo cx loc h).toS loc λp h=>(KV K hi cx loc h).toS loc λq h=>match EJ o p q v h with
  |some h=>.ok .next loc h
  |none=>.stuck
 | .Subscript e i _,v,cx,loc,h=>(AX K e cx loc h).toS loc λo h=>(AX K i cx loc h).toS loc λk h=>match Go o k v h with
  |some h=>.ok .next loc h
  |none=>.stuck
 | .Tuple es _ _,v,cx,loc,h=>match (match v with| .tup l=>some l|v=>itemsOf v h) with
  |some l=>if l.length=es.length then BX K es l cx loc h else .stuck
  |none=>.stuck
 |_,_,_,_,_=>.stuck
def BX (K:AN):List Expr->List V->Cx->Loc->Hp->SR
 |[],[],_,loc,h=>.ok .next loc h
 |e::es,v::vs,cx,loc,h=>match Bb K e v cx loc h with
  | .ok .next loc h=>BX K es vs cx loc h
  |_=>.stuck
 |_,_,_,_,_=>.stuck
end
def E3 (K:AN) (e:Expr) (cx:Cx) (loc:Loc) (h:Hp):Res Src:=
 match e with
 | .Call (.Name x _) [a] [] _=>match getVar cx loc x h with
  |some (.ty t)=>if t="enumerate" then (AX K a cx loc h).bind λv h=>match srcOf v h with
    |some (.lst a)=>.ok (.enm a) h
    |_=>.stuck
   else (AX K e cx loc h).bind λv h=>Res.some h (srcOf v h)
  |_=>(AX K e cx loc h).bind λv h=>Res.some h (srcOf v h)
 |_=>(AX K e cx loc h).bind λv h=>Res.some h (srcOf v h)
def Jt:Expr->Bool
 | .Call .. =>true
 |_=>false
def Jh:Expr->Expr->Bool
 | .Tuple _ _ _,.Tuple vs _ _=> !(vs.all (PySem.constantsAlone 8))||vs.all (PySem.foldedForSure 8)
 | .List _ _,_=>false
 |_,_=>true
def JQ:Expr->Src->Bool
 | .Name _ _,.enm _=>false
 | .Name _ _,_=>true
 | .Tuple _ _ _,_=>true
 |_,_=>false
def An (i:Nat):Bool:=i==3||i==4||i==5
mutual
def CP (K:AN) (N:Nat):Stmt->Cx->Loc->Hp->SR
 | .Expr e _,cx,loc,h=>if Jt e then (AX K e cx loc h).toS loc λ_ h=>.ok .next loc h else .stuck
 | .Assign [t] e _,cx,loc,h=>if Jh t e then (AX K e cx loc h).toS loc λv h=>Bb K t v cx loc h else .stuck
 | .AugAssign (.Attribute e x _) op r _,cx,loc,h=>(AX K e cx loc h).toS loc λo h=>(Ft o x h).toS loc λold h=>(AX K r cx loc h).toS loc λv h=>
   match GW op old v with
    |some new=>(match DV o x new h with
     |some h=>.ok .next loc h
     |none=>.stuck)
    |none=>.stuck
 | .If t b o _,cx,loc,h=>(HE K t cx loc h (AX K t cx loc h)).toS loc λc h=>if c then BK K N b cx loc h else BK K N o cx loc h
 | .While t b [] _,cx,loc,h=>Al (λloc h=>HE K t cx loc h (AX K t cx loc h)) (λloc h=>BK K N b cx loc h) N loc h
 | .For t it b [] _,cx,loc,h=>(E3 K it cx loc h).toS loc λs h=>
   if JQ t s then Bo s (λv loc h=>match Bb K t v cx loc h with
    | .ok .next loc h=>BK K N b cx loc h
    |_=>.stuck) (s.len h+1) 0 loc h else .stuck
 | .Return none _,_,loc,h=>.ok (.ret .none) loc h
 | .Return (some e) _,cx,loc,h=>(AX K e cx loc h).toS loc λv h=>.ok (.ret v) loc h
 | .Raise (some (.Call (.Name c _) [a] [] _)) none _,cx,loc,h=>match getVar cx loc c h with
  |some (.cls i)=>if An i then (AX K a cx loc h).toS loc λv h=>match v with
    | .str _=>.exc i loc h
    |_=>.stuck
   else .stuck
  |_=>.stuck
 | .Try b hs [] fin _,cx,loc,h=>
   let main:SR:=match BK K N b cx loc h with
    | .exc c loc h=>C4 c hs cx loc h
    |r=>r
   match fin with
   |[]=>main
   |_=>match main with
    | .ok f loc h=>match BK K N fin cx loc h with
     | .ok .next loc h=>.ok f loc h
     |_=>.stuck
    |_=>.stuck
 | .Delete [.Subscript e i _] _,cx,loc,h=>(AX K e cx loc h).toS loc λo h=>(AX K i cx loc h).toS loc λk h=>match Iy o k h with
  |some h=>.ok .next loc h
  |none=>.stuck
 | .Pass _,_,loc,h=>.ok .next loc h
 | .Break _,_,loc,h=>.ok .brk loc h
 | .Continue _,_,loc,h=>.ok .cont loc h
 |_,_,_,_=>.stuck
def BK (K:AN) (N:Nat):List Stmt->Cx->Loc->Hp->SR
 |[],_,loc,h=>.ok .next loc h
 |s::r,cx,loc,h=>match CP K N s cx loc h with
  | .ok .next loc h=>BK K N r cx loc h
  |r=>r
def C4 (c:Nat):List ExceptHandler->Cx->Loc->Hp->SR
 |[],_,_,_=>.stuck
 | .ExceptHandler (some (.Name x _)) none body _::r,cx,loc,h=>match getVar cx loc x h with
  |some (.cls i)=>if An i&&An c then if i=c then (match body with
    |[.Return (some (.Constant k _ _)) _]=>(match Mm k with|some v=>.ok (.ret v) loc h|none=>.stuck)
    |_=>.stuck) else C4 c r cx loc h else .stuck
  |_=>.stuck
 |_,_,_,_=>.stuck
end
def Ct (ps:List Str) (ds:List (Option V)) (args:List V):Option (List (Str×V)):=
 if args.length<=ps.length/\ps.length<=args.length+ds.length then
  let more:=(ds.drop (ds.length+args.length-ps.length)).filterMap id
  let all:=args++more
  if all.length=ps.length then some (ps.zip all) else none
 else none
def storeAll (cx:Cx):List (Str×V)->Loc->Hp->Option (Loc×Hp)
 |[],loc,h=>some (loc,h)
 |(x,v)::r,loc,h=>match Bc cx loc x v h with
  |some (loc,h)=>storeAll cx r loc h
  |none=>none
def AO:Nat:=100000
def Dj (K:AN) (fd:Rz) (args:List V) (h:Hp):Res V:=match Ct fd.params fd.dflts args with
 |none=>.stuck
 |some bs=>
  let (cells,h1):=AH fd.names [] h
  match storeAll ⟨fd.names,cells,fd.lam⟩ bs [] h1 with
  |none=>.stuck
  |some (loc,h2)=>match BK K AO fd.body ⟨fd.names,cells,fd.lam⟩ loc h2 with
   | .ok (.ret v) _ h=>.ok v h
   | .ok .next _ h=>.ok .none h
   | .ok _ _ _=>.stuck
   | .exc c _ h=>.exc c h
   | .stuck=>.stuck
def call:Nat->AN
 |0,_,_,_=>.stuck
 |n+1,.fn i j,args,h=>match MV i j with
  |some fd=>Dj (call n) fd args h
  |none=>.stuck
 |n+1,.clo body scope cells,_,h=>
  let (cs,h1):=AH scope.names cells h
  AX (call n) body ⟨scope.names,cs,false⟩ [] h1
mutual
inductive IE where
 |k (v:V)
 |v (x:Str)
 |c (x:Str)
 |at (x:Str) (e:IE)
 |bi (op:Operator) (a b:IE)
 |nt (e:IE)
 |ng (e:IE)
 |bo (op:BoolOp) (es:List IE)
 |cm (a:IE) (ops:List CmpOp) (es:List IE)
 |it (t:IT) (a b:IE)
 |tu (es:List IE)
 |li (es:List IE)
 |d0
 |sd (ks vs:List IE)
 |la (b:Expr) (s:Scope)
 |lc (e:IE) (c:Bool) (x:Str) (src:IE) (ts:List IT) (nm:List (Str×NameKind))
 |su (e i:IE)
 |sl (e:IE) (lo hi:Option IE)
 |mc (e:IE) (x:Str) (as:List IE)
 |cf (f:IE) (as:List IE)
inductive IT where
 |nt (t:IT)
 |al (op:BoolOp) (ts:List IT)
 |cm (a:IE) (ops:List CmpOp) (es:List IE)
 |e (e:IE)
end
inductive IG where
 |n (c:Bool) (x:Str)
 |a (x:Str) (e:IE)
 |s (e i:IE)
 |sl (e:IE) (lo hi:Option IE)
 |t (gs:List IG)
inductive IS where
 |ex (e:IE)
 |as (g:IG) (e:IE)
 |au (e:IE) (x:Str) (op:Operator) (r:IE)
 |if_ (t:IT) (a b:List IS)
 |wh (t:IT) (b:List IS)
 |fo (g:IG) (enm:Bool) (src:IE) (b:List IS)
 |rt (e:IE)
 |rs (c:Nat) (e:IE)
 |tr (b:List IS) (hs:List (Nat×V)) (fin:List IS)
 |de (e i:IE)
 |br
 |no
def FU (c:Bool) (cs:List (Str×Nat)) (loc:Loc) (x:Str) (v:V) (h:Hp):Option (Loc×Hp):=match c with
 |true=>(match lk x cs with
  |some a=>(match h[a]? with
   |some (.cell _)=>some (loc,h.set a (.cell (some v)))
   |_=>none)
  |none=>none)
 |false=>some (pt x v loc,h)
def JJ (nm:List (Str×NameKind)) (x:Str):Option Bool:=match lk x nm with
 |some .local=>some false
 |some .cell=>some true
 |_=>none
variable {nm:List (Str×NameKind)}{x:Str}
theorem KD {c:Bool}(e:JJ nm x=some c) (cs:List (Str×Nat)) (lam:Bool) (loc:Loc) (v:V) (h:Hp):Bc ⟨nm,cs,lam⟩ loc x v h=FU c cs loc x v h:=by
 unfold JJ at e;unfold Bc FU;split at e
 ·rename_i q;cases e;simp only[q];try rfl
 ·rename_i q;cases e;simp only[q];try rfl
 ·cases e
mutual
def AU (K:AN):IE->List (Str×Nat)->Loc->Hp->Res V
 | .k v,_,_,h=>.ok v h
 | .v x,_,loc,h=>Res.some h (lk x loc)
 | .c x,cs,_,h=>Res.some h (match lk x cs with|some a=>(match h[a]? with|some (.cell v)=>v|_=>none)|none=>none)
 | .at x e,cs,loc,h=>(AU K e cs loc h).bind λv h=>Ft v x h
 | .bi op a b,cs,loc,h=>(AU K a cs loc h).bind λa h=>(AU K b cs loc h).bind λb h=>CJ op a b h
 | .nt e,cs,loc,h=>(AU K e cs loc h).bind λa h=>match BA a with|some b=>.ok (.bool (!b)) h|none=>.stuck
 | .ng e,cs,loc,h=>(AU K e cs loc h).bind λa h=>match a with| .int i=>.ok (.int (-i)) h|_=>.stuck
 | .bo op es,cs,loc,h=>R3 K op es cs loc h
 | .cm a ops es,cs,loc,h=>(AU K a cs loc h).bind λa h=>(NN K ops es a cs loc h).bind λb h=>.ok (.bool b) h
 | .it t a b,cs,loc,h=>(itR K t cs loc h).bind λc h=>if c then AU K a cs loc h else AU K b cs loc h
 | .tu es,cs,loc,h=>(Kg K es cs loc h).bind λvs h=>if vs.length<=1000 then .ok (.tup vs) h else .stuck
 | .li es,cs,loc,h=>(Kg K es cs loc h).bind λvs h=>if vs.length<=1000 then .ok (.ref h.length) (h++[.list vs]) else .stuck
 | .d0,_,_,h=>.ok (.ref h.length) (h++[.U' []])
 | .sd ks vs,cs,loc,h=>(BN (KR K ks cs loc) (KR K vs cs loc) h).bind λd h=>.ok (.ref h.length) (h++[.dO d])
 | .la b s,cs,_,h=>match AW s.names cs with|some cs=>.ok (.clo b s cs) h|none=>.stuck
 | .lc e c x src ts nm,cs,loc,h=>match AW nm cs with
  |some c1=>(AU K src cs loc h).bind λv h=>match srcOf v h with
   |some r=>
    let (c2,h1):=AH nm c1 h
    (BG r (λv loc h=>match FU c c2 loc x v h with
     |some (loc,h)=>(Rb K ts c2 loc h).bind λc h=>if c then (AU K e c2 loc h).bind λw h=>.ok (loc,some w) h else .ok (loc,none) h
     |none=>.stuck) (r.len h+1) 0 [] [] h1).bind λl h=>.ok (.ref h.length) (h++[.list l])
   |none=>.stuck
  |none=>.stuck
 | .su e i,cs,loc,h=>(AU K e cs loc h).bind λo h=>(AU K i cs loc h).bind λk h=>Res.some h (BM o k h)
 | .sl e lo hi,cs,loc,h=>(AU K e cs loc h).bind λo h=>(M8 K lo cs loc h).bind λp h=>(M8 K hi cs loc h).bind λq h=>EG o p q h
 | .mc e x as,cs,loc,h=>(AU K e cs loc h).bind λo h=>match Hi o x h with
  |some m=>(Kg K as cs loc h).bind λvs h=>Aw K m o vs h
  |none=>.stuck
 | .cf f as,cs,loc,h=>(AU K f cs loc h).bind λf h=>(Kg K as cs loc h).bind λvs h=>Ch K f vs h
def M8 (K:AN):Option IE->List (Str×Nat)->Loc->Hp->Res V
 |none,_,_,h=>.ok .none h
 |some e,cs,loc,h=>AU K e cs loc h
def Kg (K:AN):List IE->List (Str×Nat)->Loc->Hp->Res (List V)
 |[],_,_,h=>.ok [] h
 |e::r,cs,loc,h=>(AU K e cs loc h).bind λv h=>(Kg K r cs loc h).bind λvs h=>.ok (v::vs) h
def KR (K:AN):List IE->List (Str×Nat)->Loc->List (Hp->Res V)
 |[],_,_=>[]
 |e::r,cs,loc=>(λh=>AU K e cs loc h)::KR K r cs loc
def R3 (K:AN):BoolOp->List IE->List (Str×Nat)->Loc->Hp->Res V
 |_,[],_,_,_=>.stuck
 |_,[e],cs,loc,h=>AU K e cs loc h
 |op,e::r,cs,loc,h=>(AU K e cs loc h).bind λv h=>match op,BA v with
  | .And,some false=>.ok v h
  | .Or,some true=>.ok v h
  |_,some _=>R3 K op r cs loc h
  |_,none=>.stuck
def NN (K:AN):List CmpOp->List IE->V->List (Str×Nat)->Loc->Hp->Res Bool
 |[op],[e],a,cs,loc,h=>(AU K e cs loc h).bind λb h=>Res.some h (Ao op a b h)
 |op::ops,e::es,a,cs,loc,h=>(AU K e cs loc h).bind λb h=>match Ao op a b h with
  |some true=>NN K ops es b cs loc h
  |some false=>.ok false h
  |none=>.stuck
 |_,_,_,_,_,_=>.stuck
def itR (K:AN):IT->List (Str×Nat)->Loc->Hp->Res Bool
 | .nt t,cs,loc,h=>(itR K t cs loc h).bind λb h=>.ok (!b) h
 | .al op ts,cs,loc,h=>Sq K op ts cs loc h
 | .cm a ops es,cs,loc,h=>(AU K a cs loc h).bind λa h=>NN K ops es a cs loc h
 | .e e,cs,loc,h=>(AU K e cs loc h).bind λv h=>Res.some h (BA v)
def Sq (K:AN):BoolOp->List IT->List (Str×Nat)->Loc->Hp->Res Bool
 |op,[],_,_,h=>.ok (match op with| .And=>true| .Or=>false) h
 |op,t::r,cs,loc,h=>(itR K t cs loc h).bind λb h=>match op,b with
  | .And,false=>.ok false h
  | .Or,true=>.ok true h
  |_,_=>Sq K op r cs loc h
def Rb (K:AN):List IT->List (Str×Nat)->Loc->Hp->Res Bool
 |[],_,_,h=>.ok true h
 |t::r,cs,loc,h=>(itR K t cs loc h).bind λb h=>if b then Rb K r cs loc h else .ok false h
end
def A7 {α β:Type}(f:α->Option β):List α->Option (List β)
 |[]=>some []
 |a::r=>match f a,A7 f r with|some b,some t=>some (b::t)|_,_=>none
def PM {α β:Type}(f:α->Option β):Option α->Option (Option β)
 |none=>some none
 |some a=>(f a).map some
def Gz (nm:List (Str×NameKind)) (x:Str):Option IE:=match lk x nm with
 |some .local=>some (.v x)
 |some .cell=>some (.c x)
 |some .free=>some (.c x)
 |some .globalImplicit=>(match glob x with|some v=>some (.k v)|none=>none)
 |_=>none
def cT (f:Expr->Option IE):Nat->Expr->Option IT
 |0,_=>none
 |n+1,.UnaryOp .Not e _=>(cT f n e).map .nt
 |n+1,.BoolOp op es _=>(A7 (cT f n) es).map (.al op)
 |_+1,.Compare l ops rs _=>if lastMarks ops rs then none else (match f l,A7 f rs with|some a,some es=>some (.cm a ops es)|_,_=>none)
 |_+1,.IfExp _ _ _ _=>none
 |_+1,e=>(f e).map .e
def cE (lam:Bool):Nat->List (Str×NameKind)->Expr->Option IE
 |0,_,_=>none
 |_+1,_,.Constant c _ _=>(match Mm c with|some v=>some (.k v)|none=>none)
 |_+1,nm,.Name x _=>Gz nm x
 |n+1,nm,.Attribute e x _=>if CW e then (cE lam n nm e).map (.at x) else none
 |n+1,nm,.BinOp l op r _=>(match cE lam n nm l,cE lam n nm r with|some a,some b=>some (.bi op a b)|_,_=>none)
 |n+1,nm,.UnaryOp .Not e _=>(cE lam n nm e).map .nt
 |n+1,nm,.UnaryOp .USub e _=>(cE lam n nm e).map .ng
 |n+1,nm,.BoolOp op es _=>(A7 (cE lam n nm) es).map (.bo op)
 |n+1,nm,.Compare l ops rs _=>if lastMarks ops rs then none else (match cE lam n nm l,A7 (cE lam n nm) rs with|some a,some es=>some (.cm a ops es)|_,_=>none)
 |n+1,nm,.IfExp t b o _=>(match cT (cE lam n nm) n t,cE lam n nm b,cE lam n nm o with|some t,some a,some b=>some (.it t a b)|_,_,_=>none)
 |n+1,nm,.Tuple es _ _=>(A7 (cE lam n nm) es).map .tu
 |n+1,nm,.List es _=>(A7 (cE lam n nm) es).map .li
 |n+1,nm,.Dict ks vs _=>(match ks with
  |[]=>some .d0
  |_=>if ks.all (·.isSome)&&ks.length==vs.length&&decide (ks.length<=15) then (match A7 (λk=>match k with|some e=>cE lam n nm e|none=>none) ks,A7 (cE lam n nm) vs with|some a,some b=>some (.sd a b)|_,_=>none) else none)
 |_+1,_,.Lambda ⟨[],[],none,[],[],none,[]⟩ body scope _=>if lam&&BH scope then some (.la body scope) else none
 |n+1,nm,.ListComp elt [⟨.Name tx _,it,ifs,0⟩] scope _=>if BH scope then (match JJ scope.names tx,cE lam n scope.names elt,cE lam n nm it,A7 (cT (cE lam n scope.names) n) ifs with|some c,some e,some s,some ts=>some (.lc e c tx s ts scope.names)|_,_,_,_=>none) else none
 |n+1,nm,.Subscript e (.Slice lo hi none _) _=>(match cE lam n nm e,PM (cE lam n nm) lo,PM (cE lam n nm) hi with|some e,some a,some b=>some (.sl e a b)|_,_,_=>none)
 |n+1,nm,.Subscript e i _=>(match cE lam n nm e,cE lam n nm i with|some a,some b=>some (.su a b)|_,_=>none)
 |n+1,nm,.Call (.Attribute e x apos) args [] pos=>if CW e&&noStar args&&decide (args.length<30)&&(apos.endLine==pos.line) then (match cE lam n nm e,A7 (cE lam n nm) args with|some a,some b=>some (.mc a x b)|_,_=>none) else none
 |n+1,nm,.Call f args [] _=>if noStar args then (match cE lam n nm f,A7 (cE lam n nm) args with|some a,some b=>some (.cf a b)|_,_=>none) else none
 |_,_,_=>none
def Ot (lam:Bool) (nm:List (Str×NameKind)) (e:Expr) (i:IE):Prop:=∀K cs loc h,AX K e ⟨nm,cs,lam⟩ loc h=AU K i cs loc h
def dJ (lam:Bool) (nm:List (Str×NameKind)) (e:Expr) (i:IT):Prop:=∀K cs loc h,HE K e ⟨nm,cs,lam⟩ loc h (AX K e ⟨nm,cs,lam⟩ loc h)=itR K i cs loc h
variable {f:Expr->Option IE}{lam:Bool}
theorem IK (hf:∀e i,f e=some i->Ot lam nm e i):∀{es:List Expr}{is:List IE},A7 f es=some is->∀K cs loc h,G2 K es ⟨nm,cs,lam⟩ loc h=Kg K is cs loc h
 |[],is,e,K,cs,loc,h=>by cases e;simp only[G2,Kg]
 |a::r,is,e,K,cs,loc,h=>by
  simp only[A7] at e;split at e
  ·rename_i b t ha ht;cases e;simp only[G2,Kg,hf _ _ ha K cs loc,IK hf ht K cs loc]
  ·cases e
theorem JT (hf:∀e i,f e=some i->Ot lam nm e i):∀{es:List Expr}{is:List IE},A7 f es=some is->∀K cs loc,each K es ⟨nm,cs,lam⟩ loc=KR K is cs loc
 |[],is,e,K,cs,loc=>by cases e;simp only[each,KR]
 |a::r,is,e,K,cs,loc=>by
  simp only[A7] at e;split at e
  ·rename_i b t ha ht;cases e;simp only[each,KR,hf _ _ ha K cs loc,JT hf ht K cs loc]
  ·cases e
theorem IR (hf:∀e i,f e=some i->Ot lam nm e i):∀{es:List (Option Expr)}{is:List IE},A7 (λk=>match k with|some e=>f e|none=>none) es=some is->∀K cs loc,CR K es ⟨nm,cs,lam⟩ loc=KR K is cs loc
 |[],is,e,K,cs,loc=>by cases e;simp only[CR,KR]
 |none::r,is,e,K,cs,loc=>by simp [A7] at e
 |some a::r,is,e,K,cs,loc=>by
  simp only[A7] at e;split at e
  ·rename_i b t ha ht;cases e;simp only[CR,KR,KV,hf _ _ ha K cs loc,IR hf ht K cs loc]
  ·cases e
theorem JV (hf:∀e i,f e=some i->Ot lam nm e i):∀{es:List Expr}{is:List IE},A7 f es=some is->∀K op cs loc h,E5 K op es ⟨nm,cs,lam⟩ loc h=R3 K op is cs loc h
 |[],is,e,K,op,cs,loc,h=>by cases e;simp only[E5,R3]
 |[a],is,e,K,op,cs,loc,h=>by
  simp only[A7] at e;split at e
  ·rename_i b t ha ht;cases e;cases ht;simp only[E5,R3,hf _ _ ha K cs loc]
  ·cases e
 |a::a'::r,is,e,K,op,cs,loc,h=>by
  rw[A7] at e;split at e
  ·rename_i b t ha ht;cases e;have ih:=JV hf ht K;obtain⟨b',t',rfl⟩:∃b' t',t=b'::t':=by
    simp only[A7] at ht;split at ht
    ·cases ht;exact⟨_,_,rfl⟩
    ·cases ht
   rw[E5,R3,hf _ _ ha K cs loc]
   ·congr 1;funext v h
    cases op<;>cases BA v<;>(try rename_i b;cases b)<;>simp only[ih]
   ·exact nofun
   ·exact nofun
  ·cases e
theorem FZ (hf:∀e i,f e=some i->Ot lam nm e i):∀{es:List Expr}{is:List IE}(ops:List CmpOp),A7 f es=some is->∀K a cs loc h,Ax K ops es a ⟨nm,cs,lam⟩ loc h=NN K ops is a cs loc h
 |[],is,ops,e,K,a,cs,loc,h=>by
  cases e;cases ops with
  |nil=>simp only[Ax,NN]
  |cons o ops=>cases ops<;>simp only[Ax,NN]
 |x::r,is,ops,e,K,a,cs,loc,h=>by
  rw[A7] at e;split at e
  ·rename_i b t ha ht;cases e;have ih:=λops=>FZ hf ops ht K;cases ops with
   |nil=>simp only[Ax,NN]
   |cons o ops=>
    cases ops with
    |nil=>
     cases r with
     |nil=>cases ht;simp only[Ax,NN,hf _ _ ha K cs loc]
     |cons y r=>
      obtain⟨b',t',rfl⟩:∃b' t',t=b'::t':=by
       simp only[A7] at ht;split at ht
       ·cases ht;exact⟨_,_,rfl⟩
       ·cases ht
      simp only[Ax,NN,hf _ _ ha K cs loc]
      try rfl
    |cons o' ops=>
     simp only[Ax,NN,hf _ _ ha K cs loc,ih]
     try rfl
  ·cases e
theorem HK (hf:∀e i,f e=some i->Ot lam nm e i){o:Option Expr}{i:Option IE}(e:PM f o=some i) (K cs loc h):KV K o ⟨nm,cs,lam⟩ loc h=M8 K i cs loc h:=by
 cases o with
 |none=>cases e;simp only[KV,M8]
 |some a=>
  obtain⟨b,hb,rfl⟩:=dy.mp e;simp only[KV,M8,hf _ _ hb K cs loc]
theorem JG (hf:∀e i,f e=some i->Ot lam nm e i):∀n e i,cT f n e=some i->dJ lam nm e i
 |0,_,_,e=>by cases e
 |n+1,e,i,h=>by
  have tests:∀{es:List Expr}{is:List IT},A7 (cT f n) es=some is->∀K op cs loc h,LV K op es ⟨nm,cs,lam⟩ loc h=Sq K op is cs loc h:=by
   intro es
   induction es with
   |nil=>intro is q K op cs loc h;cases q;simp only[LV,Sq];try rfl
   |cons a r ih=>
    intro is q K op cs loc h;rw[A7] at q;split at q
    ·rename_i b t ha ht;cases q;rw[LV,Sq,JG hf n _ _ ha K cs loc]
     congr 1;funext b h
     cases op<;>cases b<;>simp only[ih ht]
    ·cases q
  intro K cs loc hp;rw[cT.eq_def] at h;split at h
  ·cases h
  ·cases ‹_+1=_›;obtain⟨t,ht,rfl⟩:=dy.mp h;rw[HE,itR,JG hf n _ _ ht K cs loc]
  ·cases ‹_+1=_›;obtain⟨t,ht,rfl⟩:=dy.mp h;rw[HE,itR,tests ht K]
  ·split at h
   ·cases h
   ·rename_i hm;split at h
    ·rename_i a es ha hes;cases h;rw[HE,T8 hm,itR,hf _ _ ha K cs loc]
     congr 1;funext a h
     exact FZ hf _ hes K a cs loc h
    ·cases h
  ·cases h
  ·rename_i e n1 n2 n3 n4;obtain⟨t,ht,rfl⟩:=dy.mp h;rw[HE,itR,hf _ _ ht K cs loc]
   all_goals assumption
theorem O2 {lam:Bool}:∀n nm e i,cE lam n nm e=some i->Ot lam nm e i
 |0,_,_,_,h=>by cases h
 |n+1,nm,e,i,h=>by
  have ih:=λnm=>O2 (lam:=lam) n nm;intro K cs loc hp;rw[cE.eq_def] at h;split at h<;>(try cases ‹_+1=_›)
  ·split at h
   ·rename_i v hv;cases h;simp only[AX,AU,hv,Res.some]
   ·cases h
  ·unfold Gz at h;simp only[AX,getVar];split at h
   ·rename_i q;cases h;simp only[q,AU]
   ·rename_i q;cases h;simp only[q,AU];try rfl
   ·rename_i q;cases h;simp only[q,AU];try rfl
   ·rename_i q;split at h
    ·rename_i v hv;cases h;simp only[q,hv,AU,Res.some]
    ·cases h
   ·cases h
  ·split at h
   ·rename_i hb;obtain⟨a,ha,rfl⟩:=dy.mp h;simp only[AX,hb,qT,AU,ih _ _ _ ha K cs loc]
   ·cases h
  ·split at h
   ·rename_i a b ha hb;cases h;simp only[AX,AU,ih _ _ _ ha K cs loc,ih _ _ _ hb K cs loc]
   ·cases h
  ·obtain⟨a,ha,rfl⟩:=dy.mp h;simp only[AX,AU,ih _ _ _ ha K cs loc]
   try first|rfl|(congr 1;funext a h;cases BA a<;>rfl)
  ·obtain⟨a,ha,rfl⟩:=dy.mp h;simp only[AX,AU,ih _ _ _ ha K cs loc]
   first|rfl|(congr 1;funext a h;cases a<;>rfl)
  ·obtain⟨a,ha,rfl⟩:=dy.mp h;simp only[AX,AU,JV (ih _) ha K]
  ·split at h
   ·cases h
   ·rename_i hm;split at h
    ·rename_i a es ha hes;cases h;simp only[AX,T8 hm,AU,ih _ _ _ ha K cs loc,FZ (ih _) _ hes K]
    ·cases h
  ·split at h
   ·rename_i t a b ht ha hb;cases h;simp only[AX,AU,JG (ih _) _ _ _ ht K cs loc,ih _ _ _ ha K cs loc,ih _ _ _ hb K cs loc]
   ·cases h
  ·obtain⟨a,ha,rfl⟩:=dy.mp h;simp only[AX,AU,IK (ih _) ha K]
  ·obtain⟨a,ha,rfl⟩:=dy.mp h;simp only[AX,AU,IK (ih _) ha K]
  ·split at h
   ·cases h;simp only[AX,AU]
   ·rename_i hne;split at h
    ·rename_i hc;split at h
     ·rename_i a b ha hb;cases h;rw[AX]
      rotate_left
      ·exact hne
      ·rw[UQ hc,AU,IR (ih _) ha K cs loc,JT (ih _) hb K cs loc]
     ·cases h
    ·cases h
  ·split at h
   ·rename_i hc;cases h;simp only[AX,hc,AU];cases AW _ cs<;>rfl
   ·cases h
  ·split at h
   ·rename_i hc;split at h
    ·rename_i c e s ts hk he hs hts;cases h;simp only[AX,hc,AU];cases hf:AW _ cs with
     |none=>rfl
     |some c1=>
      dsimp only;rw[ih _ _ _ hs K cs loc]
      congr 1;funext v h
      cases srcOf v h with
      |none=>rfl
      |some r=>
       dsimp only
       congr 2
       funext v loc h
       have ts:∀{ifs:List Expr}{is:List IT}{nm:List (Str×NameKind)},A7 (cT (cE lam n nm) n) ifs=some is->∀c2 loc h,Cq K ifs ⟨nm,c2,lam⟩ loc h=Rb K is c2 loc h:=by
        intro ifs
        induction ifs with
        |nil=>intro is nm q c2 loc h;cases q;simp only[Cq,Rb]
        |cons a r ihl=>
         intro is nm q c2 loc h;rw[A7] at q;split at q
         ·rename_i b t ha ht;cases q;rw[Cq,Rb,JG (ih _) _ _ _ ha K c2 loc]
          congr 1;funext b h;cases b<;>simp only[ihl ht]
         ·cases q
       simp only[KD hk,ts hts,ih _ _ _ he K]
       first|done|rfl
    ·cases h
   ·cases h
  ·split at h
   ·rename_i e a b he ha hb;cases h;simp only[AX,AU,ih _ _ _ he K cs loc,HK (ih _) ha K cs loc,HK (ih _) hb K cs loc]
   ·cases h
  ·split at h
   ·rename_i a b ha hb;cases h;rw[AX]
    ·simp only[AU,ih _ _ _ ha K cs loc,ih _ _ _ hb K cs loc]
    ·assumption
   ·cases h
  ·split at h
   ·rename_i hc;split at h
    ·rename_i a b ha hb;cases h;rw[AX,UQ hc,AU,ih _ _ _ ha K cs loc]
     congr 1;funext o h
     cases Hi o _ h with
     |none=>rfl
     |some m=>simp only[IK (ih _) hb K cs loc]
    ·cases h
   ·cases h
  ·split at h
   ·rename_i hc;split at h
    ·rename_i a b ha hb;cases h;rw[AX]
     ·rw[UQ hc,AU,ih _ _ _ ha K cs loc]
      congr 1;funext o h
      rw[IK (ih _) hb K cs loc]
     ·assumption
    ·cases h
   ·cases h
  ·cases h
mutual
def EM (K:AN):IG->V->List (Str×Nat)->Loc->Hp->SR
 | .n c x,v,cs,loc,h=>match FU c cs loc x v h with
  |some (loc,h)=>.ok .next loc h
  |none=>.stuck
 | .a x e,v,cs,loc,h=>(AU K e cs loc h).toS loc λo h=>match DV o x v h with
  |some h=>.ok .next loc h
  |none=>.stuck
 | .s e i,v,cs,loc,h=>(AU K e cs loc h).toS loc λo h=>(AU K i cs loc h).toS loc λk h=>match Go o k v h with
  |some h=>.ok .next loc h
  |none=>.stuck
 | .sl e lo hi,v,cs,loc,h=>(AU K e cs loc h).toS loc λo h=>(M8 K lo cs loc h).toS loc λp h=>(M8 K hi cs loc h).toS loc λq h=>match EJ o p q v h with
  |some h=>.ok .next loc h
  |none=>.stuck
 | .t gs,v,cs,loc,h=>match (match v with| .tup l=>some l|v=>itemsOf v h) with
  |some l=>if l.length=gs.length then F6 K gs l cs loc h else .stuck
  |none=>.stuck
def F6 (K:AN):List IG->List V->List (Str×Nat)->Loc->Hp->SR
 |[],[],_,loc,h=>.ok .next loc h
 |g::gs,v::vs,cs,loc,h=>match EM K g v cs loc h with
  | .ok .next loc h=>F6 K gs vs cs loc h
  |_=>.stuck
 |_,_,_,_,_=>.stuck
end
def E6 (K:AN) (enm:Bool) (e:IE) (cs:List (Str×Nat)) (loc:Loc) (h:Hp):Res Src:=
 if enm then (AU K e cs loc h).bind λv h=>match srcOf v h with
  |some (.lst a)=>.ok (.enm a) h
  |_=>.stuck
 else (AU K e cs loc h).bind λv h=>Res.some h (srcOf v h)
def L9 (c:Nat):List (Nat×V)->Loc->Hp->SR
 |[],_,_=>.stuck
 |(i,v)::r,loc,h=>if An c then (if i=c then .ok (.ret v) loc h else L9 c r loc h) else .stuck
def Hd:IG->Src->Bool
 | .n _ _,.enm _=>false
 | .n _ _,_=>true
 | .t _,_=>true
 |_,_=>false
mutual
def DH (K:AN) (cs:List (Str×Nat)):IS->Loc->Hp->SR
 | .ex e,loc,h=>(AU K e cs loc h).toS loc λ_ h=>.ok .next loc h
 | .as g e,loc,h=>(AU K e cs loc h).toS loc λv h=>EM K g v cs loc h
 | .au e x op r,loc,h=>(AU K e cs loc h).toS loc λo h=>(Ft o x h).toS loc λold h=>(AU K r cs loc h).toS loc λv h=>
   match GW op old v with
    |some new=>(match DV o x new h with
     |some h=>.ok .next loc h
     |none=>.stuck)
    |none=>.stuck
 | .if_ t a b,loc,h=>(itR K t cs loc h).toS loc λc h=>if c then A8 K cs a loc h else A8 K cs b loc h
 | .wh t b,loc,h=>Al (λloc h=>itR K t cs loc h) (λloc h=>A8 K cs b loc h) AO loc h
 | .fo g enm e b,loc,h=>(E6 K enm e cs loc h).toS loc λs h=>
   if Hd g s then Bo s (λv loc h=>match EM K g v cs loc h with
    | .ok .next loc h=>A8 K cs b loc h
    |_=>.stuck) (s.len h+1) 0 loc h else .stuck
 | .rt e,loc,h=>(AU K e cs loc h).toS loc λv h=>.ok (.ret v) loc h
 | .rs c e,loc,h=>(AU K e cs loc h).toS loc λv h=>match v with
    | .str _=>.exc c loc h
    |_=>.stuck
 | .tr b hs fin,loc,h=>
   let main:SR:=match A8 K cs b loc h with
    | .exc c loc h=>L9 c hs loc h
    |r=>r
   match fin with
   |[]=>main
   |_=>match main with
    | .ok f loc h=>match A8 K cs fin loc h with
     | .ok .next loc h=>.ok f loc h
     |_=>.stuck
    |_=>.stuck
 | .de e i,loc,h=>(AU K e cs loc h).toS loc λo h=>(AU K i cs loc h).toS loc λk h=>match Iy o k h with
  |some h=>.ok .next loc h
  |none=>.stuck
 | .br,loc,h=>.ok .brk loc h
 | .no,_,_=>.stuck
def A8 (K:AN) (cs:List (Str×Nat)):List IS->Loc->Hp->SR
 |[],loc,h=>.ok .next loc h
 |s::r,loc,h=>match DH K cs s loc h with
  | .ok .next loc h=>A8 K cs r loc h
  |r=>r
end
def cG (f:Expr->Option IE) (nm:List (Str×NameKind)):Nat->Expr->Option IG
 |0,_=>none
 |_+1,.Name x _=>(match JJ nm x with|some c=>some (.n c x)|none=>none)
 |_+1,.Attribute e x _=>(f e).map (.a x)
 |_+1,.Subscript e (.Slice lo hi none _) _=>(match f e,PM f lo,PM f hi with|some e,some a,some b=>some (.sl e a b)|_,_,_=>none)
 |_+1,.Subscript e i _=>(match f e,f i with|some a,some b=>some (.s a b)|_,_=>none)
 |n+1,.Tuple es _ _=>(A7 (cG f nm n) es).map .t
 |_,_=>none
def T6 (f:Expr->Option IE) (nm:List (Str×NameKind)) (e:Expr):Option (Bool×IE):=match e with
 | .Call (.Name x _) [a] [] _=>(match Gz nm x with
  |some (.k (.ty t))=>if t="enumerate" then (f a).map λa=>(true,a) else (f e).map λa=>(false,a)
  |some (.k _)=>(f e).map λa=>(false,a)
  |_=>none)
 |e=>(f e).map λa=>(false,a)
def cH (nm:List (Str×NameKind)):ExceptHandler->Option (Nat×V)
 | .ExceptHandler (some (.Name x _)) none [.Return (some (.Constant k _ _)) _] _=>(match Gz nm x,Mm k with
  |some (.k (.cls i)),some v=>if An i then some (i,v) else none
  |_,_=>none)
 |_=>none
def YK (nm:List (Str×NameKind)) (hs:List ExceptHandler):Option (List (Nat×V)):=match hs with
 |[.ExceptHandler (some (.Name _ _)) none [.Raise _ _ _] _]=>some []
 |hs=>A7 (cH nm) hs
def cS (f:Expr->Option IE) (nm:List (Str×NameKind)):Nat->Stmt->Option IS
 |0,_=>none
 |_+1,.Expr e _=>if Jt e then (f e).map .ex else none
 |n+1,.Assign [t] e _=>if Jh t e then (match cG f nm n t,f e with|some g,some a=>some (.as g a)|_,_=>none) else none
 |_+1,.AugAssign (.Attribute e x _) op r _=>(match f e,f r with|some a,some b=>some (.au a x op b)|_,_=>none)
 |n+1,.If t a b _=>(match cT f n t,A7 (cS f nm n) a,A7 (cS f nm n) b with|some t,some a,some b=>some (.if_ t a b)|_,_,_=>none)
 |n+1,.While t b [] _=>(match cT f n t,A7 (cS f nm n) b with|some t,some b=>some (.wh t b)|_,_=>none)
 |n+1,.For t it b [] _=>(match cG f nm n t,T6 f nm it,A7 (cS f nm n) b with|some g,some (m,e),some b=>some (.fo g m e b)|_,_,_=>none)
 |_+1,.Return none _=>some (.rt (.k .none))
 |_+1,.Return (some e) _=>(f e).map .rt
 |_+1,.Raise (some (.Call (.Name x _) [a] [] _)) none _=>(match Gz nm x,a with
  |some (.k (.cls _)),.JoinedStr _ _=>some .no
  |some (.k (.cls i)),a=>(match f a with|some a=>if An i then some (.rs i a) else none|none=>none)
  |none,_=>if lk x nm=some .globalImplicit then some .no else none
  |_,_=>none)
 |n+1,.Try b hs [] fin _=>(match A7 (cS f nm n) b,YK nm hs,A7 (cS f nm n) fin with|some b,some hs,some fin=>some (.tr b hs fin)|_,_,_=>none)
 |_+1,.Delete [.Subscript e i _] _=>(match f e,f i with|some a,some b=>some (.de a b)|_,_=>none)
 |_+1,.Break _=>some .br
 |_,_=>none
variable {v:V}
theorem NJ (hf:∀e i,f e=some i->Ot lam nm e i):∀n e g,cG f nm n e=some g->(∀K v cs loc h,Bb K e v ⟨nm,cs,lam⟩ loc h=EM K g v cs loc h)/\∀s,JQ e s=Hd g s
 |0,_,_,e=>by cases e
 |n+1,e,g,hg=>by
  have ih:=NJ hf n;have lst:∀{es:List Expr}{gs:List IG},A7 (cG f nm n) es=some gs->es.length=gs.length/\∀K l cs loc h,BX K es l ⟨nm,cs,lam⟩ loc h=F6 K gs l cs loc h:=by
   intro es
   induction es with
   |nil=>intro gs q;cases q;exact⟨rfl,λK l cs loc h=>by cases l<;>simp only[BX,F6]⟩
   |cons a r ihl=>
    intro gs q;rw[A7] at q;split at q
    ·rename_i b t ha ht;cases q;refine⟨by simp [(ihl ht).1],λK l cs loc h=>?_⟩;cases l with
     |nil=>simp only[BX,F6]
     |cons v l=>
      rw[BX,F6,(ih _ _ ha).1 K];cases EM K b v cs loc h with
      |ok fl l' h'=>cases fl<;>first|exact (ihl ht).2 K l cs l' h'|rfl
      |exc c l' h'=>rfl
      |stuck=>rfl
    ·cases q
  rw[cG.eq_def] at hg;split at hg<;>(try cases ‹_+1=_›)
  ·split at hg
   ·rename_i c hk;cases hg;refine⟨λK v cs loc h=>?_,λs=>by cases s<;>rfl⟩;simp only[Bb,EM,KD hk];try rfl
   ·cases hg
  ·obtain⟨a,ha,rfl⟩:=dy.mp hg;refine⟨λK v cs loc h=>?_,λs=>by cases s<;>rfl⟩;simp only[Bb,EM,hf _ _ ha K cs loc];try rfl
  ·split at hg
   ·rename_i e a b he ha hb;cases hg;refine⟨λK v cs loc h=>?_,λs=>by cases s<;>rfl⟩;simp only[Bb,EM,hf _ _ he K cs loc,HK hf ha K cs loc,HK hf hb K cs loc];try rfl
   ·cases hg
  ·split at hg
   ·rename_i a b ha hb;cases hg;refine⟨λK v cs loc h=>?_,λs=>by cases s<;>rfl⟩;rw[Bb]
    ·simp only[EM,hf _ _ ha K cs loc,hf _ _ hb K cs loc];try rfl
    ·assumption
   ·cases hg
  ·obtain⟨gs,hgs,rfl⟩:=dy.mp hg;refine⟨λK v cs loc h=>?_,λs=>by cases s<;>rfl⟩
   have:=lst hgs
   simp only[Bb,EM,this.1,this.2]
   try rfl
  ·cases hg
theorem EO (e:Gz nm x=some (.k v)) (cs:List (Str×Nat)) (loc:Loc) (h:Hp):getVar ⟨nm,cs,lam⟩ loc x h=some v:=by
 unfold Gz at e;unfold getVar;split at e
 ·cases e
 ·cases e
 ·cases e
 ·rename_i q;simp only[q];split at e
  ·rename_i w hw;cases e;exact hw
  ·cases e
 ·cases e
theorem SM (hf:∀e i,f e=some i->Ot lam nm e i){e:Expr}{m:Bool}{i:IE}(q:T6 f nm e=some (m,i)) (K:AN) (cs:List (Str×Nat)) (loc:Loc) (h:Hp):E3 K e ⟨nm,cs,lam⟩ loc h=E6 K m i cs loc h:=by
 have dflt:∀{e:Expr}{i:IE},f e=some i->(AX K e ⟨nm,cs,lam⟩ loc h).bind (λv h=>Res.some h (srcOf v h))=E6 K false i cs loc h:=λq=>by rw[hf _ _ q K cs loc];rfl
 unfold T6 at q;split at q
 ·rename_i x p a p';simp only[E3];split at q
  ·rename_i t ht;rw[EO ht];dsimp only;split at q
   ·rename_i gC;obtain⟨b,hb,q⟩:=dy.mp q;cases q;rw[UQ gC,hf _ _ hb K cs loc];rfl
   ·rename_i gC;obtain⟨b,hb,q⟩:=dy.mp q;cases q;rw[T8 gC];exact dflt hb
  ·rename_i v hn hv;obtain⟨b,hb,q⟩:=dy.mp q;cases q;rw[EO hv];cases v<;>first|exact dflt hb|exact absurd rfl (hn _)
  ·cases q
 ·rename_i hne;obtain⟨b,hb,q⟩:=dy.mp q;cases q;rw[E3]
  ·exact dflt hb
  ·exact hne
theorem TC:∀{hs:List ExceptHandler}{is:List (Nat×V)},A7 (cH nm) hs=some is->∀c cs loc h,C4 c hs ⟨nm,cs,lam⟩ loc h=L9 c is loc h
 |[],is,q,c,cs,loc,h=>by cases q;simp only[C4,L9]
 |a::r,is,q,c,cs,loc,h=>by
  rw[A7] at q;split at q
  ·rename_i b t ha ht;cases q;unfold cH at ha;split at ha
   ·split at ha
    ·rename_i i v hi hv;split at ha
     ·rename_i he;cases ha;rw[C4,EO hi];simp only[he,tB,L9,hv,TC ht c cs loc h]
     ·cases ha
    ·cases ha
   ·cases ha
  ·cases q
theorem UB {hs:List ExceptHandler}{is:List (Nat×V)}(q:YK nm hs=some is) (c:Nat) (cs:List (Str×Nat)) (loc:Loc) (h:Hp):C4 c hs ⟨nm,cs,lam⟩ loc h=L9 c is loc h:=by
 unfold YK at q;split at q
 ·cases q;rw[C4];simp only[L9];split
  ·split
   ·split<;>rfl
   ·rfl
  ·rfl
  ·nofun
 ·exact TC q c cs loc h
theorem Tq (hf:∀e i,f e=some i->Ot lam nm e i):∀n s i,cS f nm n s=some i->∀K cs loc h,CP K AO s ⟨nm,cs,lam⟩ loc h=DH K cs i loc h
 |0,_,_,e=>by cases e
 |n+1,s,i,q=>by
  have ih:=Tq hf n;have LD:∀{b:List Stmt}{ib:List IS},A7 (cS f nm n) b=some ib->∀K cs loc h,BK K AO b ⟨nm,cs,lam⟩ loc h=A8 K cs ib loc h:=by
   intro b
   induction b with
   |nil=>intro ib q K cs loc h;cases q;simp only[BK,A8]
   |cons a r ihl=>
    intro ib q K cs loc h;rw[A7] at q;split at q
    ·rename_i b t ha ht;cases q;rw[BK,A8,ih _ _ ha K cs loc];cases DH K cs b loc h with
     |ok fl l' h'=>cases fl<;>first|exact ihl ht K cs l' h'|rfl
     |exc c l' h'=>rfl
     |stuck=>rfl
    ·cases q
  intro K cs loc h;rw[cS.eq_def] at q;split at q<;>(try cases ‹_+1=_›)
  ·split at q
   ·rename_i hc;obtain⟨a,ha,rfl⟩:=dy.mp q;rw[CP,UQ hc,DH,hf _ _ ha K cs loc]
   ·cases q
  ·split at q
   ·rename_i hc;split at q
    ·rename_i g a hg ha;cases q;rw[CP,UQ hc,DH,hf _ _ ha K cs loc]
     congr 1;funext v h
     exact (NJ hf _ _ _ hg).1 K v cs loc h
    ·cases q
   ·cases q
  ·split at q
   ·rename_i a b ha hb;cases q;simp only[CP,DH,hf _ _ ha K cs loc,hf _ _ hb K cs loc];try rfl
   ·cases q
  ·split at q
   ·rename_i t a b ht ha hb;cases q;simp only[CP,DH,JG hf _ _ _ ht K cs loc,LD ha,LD hb]
   ·cases q
  ·rename_i t0 b0 p0;split at q
   ·rename_i t b ht hb;cases q;have e1:(λloc h=>HE K t0 ⟨nm,cs,lam⟩ loc h (AX K t0 ⟨nm,cs,lam⟩ loc h))=λloc h=>itR K t cs loc h:=by funext loc h;exact JG hf _ _ _ ht K cs loc h
    have e2:(λloc h=>BK K AO b0 ⟨nm,cs,lam⟩ loc h)=λloc h=>A8 K cs b loc h:=by funext loc h;exact LD hb K cs loc h
    rw[CP,DH,e1,e2]
   ·cases q
  ·rename_i t0 i0 b0 p0;split at q
   ·rename_i g m e b hg he hb;cases q;rw[CP,DH,SM hf he]
    congr 1;funext s h
    rw[(NJ hf _ _ _ hg).2];have e1:(λv loc h=>match Bb K t0 v ⟨nm,cs,lam⟩ loc h with| .ok .next loc h=>BK K AO b0 ⟨nm,cs,lam⟩ loc h|_=>.stuck)=λv loc h=>(match EM K g v cs loc h with| .ok .next loc h=>A8 K cs b loc h|_=>.stuck:SR):=by
     funext v loc h
     rw[(NJ hf _ _ _ hg).1 K v cs loc h];cases EM K g v cs loc h with
     |ok fl l' h'=>cases fl<;>first|exact LD hb K cs l' h'|rfl
     |exc c l' h'=>rfl
     |stuck=>rfl
    split
    ·exact rG (λt=>Bo s t (s.len h+1) 0 loc h) e1
    ·rfl
   ·cases q
  ·cases q;simp only[CP,DH,AU,Res.toS]
  ·obtain⟨a,ha,rfl⟩:=dy.mp q;rw[CP,DH,hf _ _ ha K cs loc]
  ·split at q
   ·rename_i j l p hi;cases q;rw[CP,EO hi];simp only[AX,Res.toS,DH,ite_self]
   ·rename_i i a hi _;split at q
    ·rename_i ha;split at q
     ·rename_i he;cases q;rw[CP,EO hi];dsimp only;rw[UQ he,DH,hf _ _ ha K cs loc];try rfl
     ·cases q
    ·cases q
   ·rename_i hn;split at q
    ·rename_i hx;cases q;rw[CP,DH];unfold Gz at hn;rw[hx] at hn;dsimp only at hn;unfold getVar;dsimp only;rw[hx];dsimp only;split at hn
     ·cases hn
     ·rename_i hg;rw[hg]
    ·cases q
   ·cases q
  ·rename_i b0 hs0 iL p0;split at q
   ·rename_i b hs fin hb kT dg;cases q;have main:(match BK K AO b0 ⟨nm,cs,lam⟩ loc h with| .exc c loc h=>C4 c hs0 ⟨nm,cs,lam⟩ loc h|r=>r)=(match A8 K cs b loc h with| .exc c loc h=>L9 c hs loc h|r=>r:SR):=by
     rw[LD hb];cases A8 K cs b loc h<;>first|rfl|exact UB kT _ _ _ _
    cases iL with
    |nil=>cases dg;simp only[CP,DH];exact main
    |cons x r=>
     obtain⟨y,t,rfl⟩:∃y t,fin=y::t:=by
      simp only[A7] at dg;split at dg
      ·cases dg;exact⟨_,_,rfl⟩
      ·cases dg
     rw[CP,DH]
     ·refine (rG (λm:SR=>match m with| .ok f loc h=>(match BK K AO (x::r) ⟨nm,cs,lam⟩ loc h with| .ok .next loc h=>.ok f loc h|_=>.stuck:SR)|_=>.stuck) main).trans ?_;generalize (match A8 K cs b loc h with| .exc c loc h=>L9 c hs loc h|r=>r:SR)=m;cases m with
      |ok fl l' h'=>
       dsimp only;rw[LD dg]
      |exc c l' h'=>rfl
      |stuck=>rfl
     ·nofun
     ·nofun
   ·cases q
  ·split at q
   ·rename_i a b ha hb;cases q;simp only[CP,DH,hf _ _ ha K cs loc,hf _ _ hb K cs loc];try rfl
   ·cases q
  ·cases q;simp only[CP,DH]
  ·cases q
abbrev PE:=Nat->Hp->Prop
def W {α:Type}(r:Res α) (Q:α->Hp->Prop) (E:PE):Prop:=match r with
 | .ok a h=>Q a h
 | .exc c h=>E c h
 | .stuck=>False
def WS {α:Type}(r:Out α) (Q:α->Loc->Hp->Prop) (E:Nat->Loc->Hp->Prop):Prop:=match r with
 | .ok a l h=>Q a l h
 | .exc c l h=>E c l h
 | .stuck=>False
def WO {α:Type}(o:Option α) (Q:α->Prop):Prop:=match o with
 |some a=>Q a
 |none=>False
def R5 (A:Loc->Hp->Prop) (S:Fl->Loc->Hp->Prop):Fl->Loc->Hp->Prop:=λf l h=>match f with
 | .next=>A l h
 |f=>S f l h
def RW (Q:V->Hp->Prop):Fl->Loc->Hp->Prop:=λf _ h=>match f with
 | .ret v=>Q v h
 | .next=>Q .none h
 |_=>False
theorem J9 {a b:String}(h:Str.ofString a=Str.ofString b):a=b:=by
 have h1:(Str.ofString a).cps.toList=(Str.ofString b).cps.toList:=by rw[h]
 simp only[Str.ofString,cpsOfBytes_string] at h1;have hc:Function.Injective Char.toNat:=by
  intro x y hxy;exact Char.ext (UInt32.toNat_inj.mp hxy)
 have:=(List.map_inj_right (f:=Char.toNat) (λx y e=>hc e)).mp h1
 exact String.toList_inj.mp this
theorem ofString_eq {a b:String}:(Str.ofString a=Str.ofString b)=(a=b):=propext ⟨J9,λh=>by rw[h]⟩
variable {E:PE}{K:AN}{P:V->Hp->Prop}{S:Fl->Loc->Hp->Prop}{SE:Nat->Loc->Hp->Prop}{a e:IE}{b:List IS}{c:Nat}{cs:List (Str×Nat)}{gs:List IG}{h:Hp}{l:List V}{loc:Loc}{op:CmpOp}{s:Scope}{t:IT}
section
variable {α β:Type}{Q:α->Hp->Prop}{T:Bool->Hp->Prop}{L:List V->Hp->Prop}{A:Loc->Hp->Prop}
theorem FN {a:α}:W (.ok a h) Q E=Q a h:=rfl
theorem Se:W (.exc c h:Res α) Q E=E c h:=rfl
theorem Xq:W (.stuck:Res α) Q E=False:=rfl
theorem Ad {r:Res α}{f:α->Hp->Res β}{Q:β->Hp->Prop}:W (r.bind f) Q E=W r (λa h=>W (f a h) Q E) E:=by cases r<;>rfl
theorem Bd {o:Option α}:W (Res.some h o) Q E=WO o (λa=>Q a h):=by cases o<;>rfl
theorem DR {a:α}{Q:α->Prop}:WO (some a) Q=Q a:=rfl
theorem Ea {o:Option α}{f:α->β}{Q:β->Prop}:WO (o.map f) Q=WO o (λa=>Q (f a)):=by cases o<;>rfl
theorem Qs {r:Res α}{Q':α->Hp->Prop}{E':PE}(w:W r Q E) (q:∀a h,Q a h->Q' a h) (e:∀c h,E c h->E' c h):W r Q' E':=by cases r<;>first|exact q _ _ w|exact e _ _ w|exact w
theorem Nn {r:Res α}(w:W r Q (λ_ _=>False)):∃a h,r= .ok a h/\Q a h:=by cases r<;>first|exact ⟨_,_,rfl,w⟩|exact w.elim
theorem Au:R5 A S .next loc h=A loc h:=rfl
theorem Nv:R5 A S (.ret v) loc h=S (.ret v) loc h:=rfl
theorem Nt:R5 A S .brk loc h=S .brk loc h:=rfl
theorem QX:RW P (.ret v) loc h=P v h:=rfl
theorem NQ:RW P .next loc h=P .none h:=rfl
theorem Ht {a:α}{Q:α->Loc->Hp->Prop}:WS (.ok a loc h) Q SE=Q a loc h:=rfl
theorem YN {Q:α->Loc->Hp->Prop}:WS (.exc c loc h:Out α) Q SE=SE c loc h:=rfl
theorem C9 {r:Res α}{f:α->Hp->Out β}{Q:β->Loc->Hp->Prop}:WS (r.toS loc f) Q SE=W r (λa h=>WS (f a h) Q SE) (λc h=>SE c loc h):=by cases r<;>rfl
theorem Xk {r:Out α}{Q Q':α->Loc->Hp->Prop}{jW:Nat->Loc->Hp->Prop}(w:WS r Q SE) (q:∀a l h,Q a l h->Q' a l h) (e:∀c l h,SE c l h->jW c l h):WS r Q' jW:=by cases r<;>first|exact q _ _ _ w|exact e _ _ _ w|exact w
theorem Xm:W (AU K (.k v) cs loc h) P E=P v h:=by simp only[AU,FN]
theorem Zm:W (AU K (.v x) cs loc h) P E=WO (lk x loc) (λv=>P v h):=by simp only[AU,Bd]
theorem Yr:W (AU K (.c x) cs loc h) P E=WO (match lk x cs with|some a=>(match h[a]? with|some (.cell v)=>v|_=>none)|none=>none) (λv=>P v h):=by simp only[AU,Bd];try rfl
theorem Wj:W (AU K (.at x e) cs loc h) P E=W (AU K e cs loc h) (λo h=>W (Ft o x h) P E) E:=by simp only[AU,Ad]
theorem XR {op:Operator}{b:IE}:W (AU K (.bi op a b) cs loc h) P E=W (AU K a cs loc h) (λa h=>W (AU K b cs loc h) (λb h=>W (CJ op a b h) P E) E) E:=by simp only[AU,Ad]
theorem VW:W (AU K (.nt a) cs loc h) P E=W (AU K a cs loc h) (λa h=>WO (BA a) (λb=>P (.bool (!b)) h)) E:=by
 simp only[AU,Ad];congr 1;funext a h;cases BA a<;>rfl
theorem T5:W (AU K (.ng a) cs loc h) P E=W (AU K a cs loc h) (λa h=>match a with| .int i=>P (.int (-i)) h|_=>False) E:=by
 simp only[AU,Ad];congr 1;funext a h;cases a<;>rfl
theorem Va {b:IE}:W (AU K (.cm a [op] [b]) cs loc h) P E=W (AU K a cs loc h) (λa h=>W (AU K b cs loc h) (λb h=>WO (Ao op a b h) λc=>P (.bool c) h) E) E:=by
 simp only[AU,NN,Ad,Bd,FN]
theorem MR {b:IE}:W (AU K (.it t a b) cs loc h) P E=W (itR K t cs loc h) (λc h=>if c then W (AU K a cs loc h) P E else W (AU K b cs loc h) P E) E:=by
 simp only[AU,Ad];congr 1;funext c h;cases c<;>rfl
theorem TR {op:BoolOp}:W (AU K (.bo op [e]) cs loc h) P E=W (AU K e cs loc h) P E:=by simp only[AU,R3]
theorem w_and {e':IE}{r:List IE}:W (AU K (.bo .And (e::e'::r)) cs loc h) P E=W (AU K e cs loc h) (λv h=>WO (BA v) λb=>if b then W (AU K (.bo .And (e'::r)) cs loc h) P E else P v h) E:=by
 rw[AU,R3,Ad]
 ·congr 1;funext v h
  cases BA v with
  |none=>rfl
  |some b=>cases b<;>simp only[AU]<;>rfl
 ·nofun
theorem w_or {e':IE}{r:List IE}:W (AU K (.bo .Or (e::e'::r)) cs loc h) P E=W (AU K e cs loc h) (λv h=>WO (BA v) λb=>if b then P v h else W (AU K (.bo .Or (e'::r)) cs loc h) P E) E:=by
 rw[AU,R3,Ad]
 ·congr 1;funext v h
  cases BA v with
  |none=>rfl
  |some b=>cases b<;>simp only[AU]<;>rfl
 ·nofun
theorem V1 {es:List IE}:W (AU K (.tu es) cs loc h) P E=W (Kg K es cs loc h) (λvs h=>if vs.length<=1000 then P (.tup vs) h else False) E:=by
 simp only[AU,Ad];congr 1;funext vs h;split<;>rfl
theorem Vq {es:List IE}:W (AU K (.li es) cs loc h) P E=W (Kg K es cs loc h) (λvs h=>if vs.length<=1000 then P (.ref h.length) (h++[.list vs]) else False) E:=by
 simp only[AU,Ad];congr 1;funext vs h;split<;>rfl
theorem XB:W (AU K .d0 cs loc h) P E=P (.ref h.length) (h++[.U' []]):=by simp only[AU,FN]
theorem Ws {b:Expr}:W (AU K (.la b s) cs loc h) P E=WO (AW s.names cs) (λcs=>P (.clo b s cs) h):=by
 simp only[AU];cases AW s.names cs<;>rfl
theorem XQ {i:IE}:W (AU K (.su e i) cs loc h) P E=W (AU K e cs loc h) (λo h=>W (AU K i cs loc h) (λk h=>WO (BM o k h) λv=>P v h) E) E:=by simp only[AU,Ad,Bd]
theorem WP {lo hi:Option IE}:W (AU K (.sl e lo hi) cs loc h) P E=W (AU K e cs loc h) (λo h=>W (M8 K lo cs loc h) (λp h=>W (M8 K hi cs loc h) (λq h=>W (EG o p q h) P E) E) E) E:=by simp only[AU,Ad]
theorem Wo {as:List IE}:W (AU K (.mc e x as) cs loc h) P E=W (AU K e cs loc h) (λo h=>WO (Hi o x h) λm=>W (Kg K as cs loc h) (λvs h=>W (Aw K m o vs h) P E) E) E:=by
 simp only[AU,Ad];congr 1;funext o h;cases Hi o x h<;>simp only[Ad]<;>rfl
theorem Wu {f:IE}{as:List IE}:W (AU K (.cf f as) cs loc h) P E=W (AU K f cs loc h) (λf h=>W (Kg K as cs loc h) (λvs h=>W (Ch K f vs h) P E) E) E:=by simp only[AU,Ad]
theorem XW:W (M8 K none cs loc h) P E=P .none h:=by simp only[M8,FN]
theorem VX:W (M8 K (some e) cs loc h) P E=W (AU K e cs loc h) P E:=by simp only[M8]
theorem TW:W (Kg K [] cs loc h) L E=L [] h:=by simp only[Kg,FN]
theorem O7 {r:List IE}:W (Kg K (e::r) cs loc h) L E=W (AU K e cs loc h) (λv h=>W (Kg K r cs loc h) (λvs h=>L (v::vs) h) E) E:=by simp only[Kg,Ad,FN]
theorem VU:W (itR K (.nt t) cs loc h) T E=W (itR K t cs loc h) (λb h=>T (!b) h) E:=by simp only[itR,Ad,FN]
theorem W4 {b:IE}:W (itR K (.cm a [op] [b]) cs loc h) T E=W (AU K a cs loc h) (λa h=>W (AU K b cs loc h) (λb h=>WO (Ao op a b h) λc=>T c h) E) E:=by simp only[itR,NN,Ad,Bd]
theorem SY {op':CmpOp}{b c:IE}:W (itR K (.cm a [op,op'] [b,c]) cs loc h) T E=W (AU K a cs loc h) (λa h=>W (AU K b cs loc h) (λb h=>WO (Ao op a b h) λr=>if r then W (AU K c cs loc h) (λc h=>WO (Ao op' b c h) λr=>T r h) E else T false h) E) E:=by
 simp only[itR,NN,Ad];congr 1;funext a h;congr 1;funext b h;cases Ao op a b h with
 |none=>rfl
 |some r=>cases r<;>simp only[Ad,Bd]<;>rfl
theorem Zd:W (itR K (.e e) cs loc h) T E=W (AU K e cs loc h) (λv h=>WO (BA v) λb=>T b h) E:=by simp only[itR,Ad,Bd]
theorem Ta {op:BoolOp}:W (itR K (.al op []) cs loc h) T E=T (match op with| .And=>true| .Or=>false) h:=by simp only[itR,Sq,FN];try rfl
theorem Sm {r:List IT}:W (itR K (.al .And (t::r)) cs loc h) T E=W (itR K t cs loc h) (λb h=>if b then W (itR K (.al .And r) cs loc h) T E else T false h) E:=by
 simp only[itR,Sq,Ad];congr 1;funext b h;cases b<;>rfl
theorem Wc {r:List IT}:W (itR K (.al .Or (t::r)) cs loc h) T E=W (itR K t cs loc h) (λb h=>if b then T true h else W (itR K (.al .Or r) cs loc h) T E) E:=by
 simp only[itR,Sq,Ad];congr 1;funext b h;cases b<;>rfl
theorem Yp:WS (EM K (.n false x) v cs loc h) S SE=S .next (pt x v loc) h:=by simp only[EM,FU,Ht]
theorem bM:WS (EM K (.n true x) v cs loc h) S SE=WO (FU true cs loc x v h) (λq=>S .next q.1 q.2):=by
 simp only[EM];cases FU true cs loc x v h<;>rfl
theorem bT:WS (EM K (.a x e) v cs loc h) S SE=W (AU K e cs loc h) (λo h=>WO (DV o x v h) λh=>S .next loc h) (λc h=>SE c loc h):=by
 simp only[EM,C9];congr 1;funext o h;cases DV o x v h<;>rfl
theorem aP {i:IE}:WS (EM K (.s e i) v cs loc h) S SE=W (AU K e cs loc h) (λo h=>W (AU K i cs loc h) (λk h=>WO (Go o k v h) λh=>S .next loc h) (λc h=>SE c loc h)) (λc h=>SE c loc h):=by
 simp only[EM,C9];congr 1;funext o h;congr 1;funext k h;cases Go o k v h<;>rfl
theorem W8 {lo hi:Option IE}:WS (EM K (.sl e lo hi) v cs loc h) S SE=W (AU K e cs loc h) (λo h=>W (M8 K lo cs loc h) (λp h=>W (M8 K hi cs loc h) (λq h=>WO (EJ o p q v h) λh=>S .next loc h) (λc h=>SE c loc h)) (λc h=>SE c loc h)) (λc h=>SE c loc h):=by
 simp only[EM,C9];congr 1;funext o h;congr 1;funext p h;congr 1;funext q h;cases EJ o p q v h<;>rfl
theorem aD:WS (EM K (.t gs) (.tup l) cs loc h) S SE=if l.length=gs.length then WS (F6 K gs l cs loc h) S SE else False:=by
 simp only[EM];split<;>rfl
theorem cz {a:Nat}(e:h[a]? =some (.list l)):WS (EM K (.t gs) (.ref a) cs loc h) S SE=if l.length=gs.length then WS (F6 K gs l cs loc h) S SE else False:=by
 simp only[EM,itemsOf,e];split<;>rfl
theorem TL:WS (F6 K [] [] cs loc h) S SE=S .next loc h:=by simp only[F6,Ht]
theorem RQ {g:IG}{vs:List V}:WS (F6 K (g::gs) (v::vs) cs loc h) S SE=WS (EM K g v cs loc h) (R5 (λloc h=>WS (F6 K gs vs cs loc h) S SE) λ_ _ _=>False) (λ_ _ _=>False):=by
 rw[F6];cases EM K g v cs loc h with
 |ok f l h=>cases f<;>rfl
 |exc c l h=>rfl
 |stuck=>rfl
theorem RE:WS (A8 K cs [] loc h) S SE=S .next loc h:=by simp only[A8,Ht]
theorem He {s:IS}{r:List IS}:WS (A8 K cs (s::r) loc h) S SE=WS (DH K cs s loc h) (R5 (λloc h=>WS (A8 K cs r loc h) S SE) S) SE:=by
 rw[A8];cases DH K cs s loc h with
 |ok f l h=>cases f<;>rfl
 |exc c l h=>rfl
 |stuck=>rfl
theorem V8:WS (DH K cs (.ex e) loc h) S SE=W (AU K e cs loc h) (λ_ h=>S .next loc h) (λc h=>SE c loc h):=by simp only[DH,C9,Ht]
theorem WY {g:IG}:WS (DH K cs (.as g e) loc h) S SE=W (AU K e cs loc h) (λv h=>WS (EM K g v cs loc h) S SE) (λc h=>SE c loc h):=by simp only[DH,C9]
theorem WE {r:IE}{op:Operator}:WS (DH K cs (.au e x op r) loc h) S SE=W (AU K e cs loc h) (λo h=>W (Ft o x h) (λold h=>W (AU K r cs loc h) (λv h=>WO (GW op old v) λn=>WO (DV o x n h) λh=>S .next loc h) (λc h=>SE c loc h)) (λc h=>SE c loc h)) (λc h=>SE c loc h):=by
 simp only[DH,C9];congr 1;funext o h;congr 1;funext old h;congr 1;funext v h;cases GW op old v with
 |none=>rfl
 |some n=>rw [DR];cases h5:DV o x n h<;>simp only[h5]<;>rfl
theorem Wv {a:List IS}:WS (DH K cs (.if_ t a b) loc h) S SE=W (itR K t cs loc h) (λc h=>if c then WS (A8 K cs a loc h) S SE else WS (A8 K cs b loc h) S SE) (λc h=>SE c loc h):=by
 simp only[DH,C9];congr 1;funext c h;cases c<;>rfl
theorem W6:WS (DH K cs (.rt e) loc h) S SE=W (AU K e cs loc h) (λv h=>S (.ret v) loc h) (λc h=>SE c loc h):=by simp only[DH,C9,Ht]
theorem Vh:WS (DH K cs (.rs c e) loc h) S SE=W (AU K e cs loc h) (λv h=>match v with| .str _=>SE c loc h|_=>False) (λc h=>SE c loc h):=by
 simp only[DH,C9];congr 1;funext v h;cases v<;>rfl
theorem XS {i:IE}:WS (DH K cs (.de e i) loc h) S SE=W (AU K e cs loc h) (λo h=>W (AU K i cs loc h) (λk h=>WO (Iy o k h) λh=>S .next loc h) (λc h=>SE c loc h)) (λc h=>SE c loc h):=by
 simp only[DH,C9];congr 1;funext o h;congr 1;funext k h;cases Iy o k h<;>rfl
theorem Wd:WS (DH K cs .br loc h) S SE=S .brk loc h:=by simp only[DH,Ht]
end
variable {I:Loc->Hp->Prop}{args:List V}{bs:List (Str×V)}{hs:List (Nat×V)}
theorem Ur {n i j:Nat}{fd:Rz}{ir:List IS}{h1 h2:Hp}(loc:Loc) (e:MV i j=some fd) (c:A7 (cS (cE fd.lam 30 fd.names) fd.names 30) fd.body=some ir) (hb:Ct fd.params fd.dflts args=some bs) (hc:AH fd.names [] h=(cs,h1)) (hs:storeAll ⟨fd.names,cs,fd.lam⟩ bs [] h1=some (loc,h2)):W (call (n+1) (.fn i j) args h) P E=WS (A8 (call n) cs ir loc h2) (RW P) (λc _ h=>E c h):=by
 have LD:∀{b:List Stmt}{ib:List IS},A7 (cS (cE fd.lam 30 fd.names) fd.names 30) b=some ib->∀loc h,BK (call n) AO b ⟨fd.names,cs,fd.lam⟩ loc h=A8 (call n) cs ib loc h:=by
  intro b
  induction b with
  |nil=>intro ib q loc h;cases q;simp only[BK,A8]
  |cons a r ihl=>
   intro ib q loc h;rw[A7] at q;split at q
   ·rename_i b t ha ht;cases q;rw[BK,A8,Tq (O2 30 _) _ _ _ ha (call n) cs loc h];cases DH (call n) cs b loc h with
    |ok fl l' h'=>cases fl<;>first|exact ihl ht l' h'|rfl
    |exc c l' h'=>rfl
    |stuck=>rfl
   ·cases q
 have e1:call (n+1) (.fn i j) args h=Dj (call n) fd args h:=by
  show (match MV i j with|some fd=>Dj (call n) fd args h|none=>.stuck)=_;rw[e]
 rw[e1];unfold Dj;rw[hb];dsimp only;rw[hc];dsimp only;rw[hs];dsimp only;rw[LD c];cases A8 (call n) cs ir loc h2 with
 |ok f l h=>cases f<;>rfl
 |exc c l h=>rfl
 |stuck=>rfl
theorem AV {n i j:Nat}{fd:Rz}{ir:List IS}(loc:Loc) (e:MV i j=some fd) (c:A7 (cS (cE fd.lam 30 fd.names) fd.names 30) fd.body=some ir) (hb:Ct fd.params fd.dflts args=some bs) (hc:AH fd.names [] h=([],h)) (hs:storeAll ⟨fd.names,[],fd.lam⟩ bs [] h=some (loc,h)):W (call (n+1) (.fn i j) args h) P E=WS (A8 (call n) [] ir loc h) (RW P) (λc _ h=>E c h):=Ur loc e c hb hc hs
theorem seq {s:IS}{r:List IS}(k:∀A:Loc->Hp->Prop,(∀l h,WS (A8 K cs r l h) S SE->A l h)->WS (DH K cs s loc h) (R5 A S) SE):WS (A8 K cs (s::r) loc h) S SE:=by
 rw[He];exact k _ λ_ _ x=>x
theorem XO {n:Nat}{b:Expr}{c0:List (Str×Nat)}{h1:Hp}{i:IE}(c:cE false 30 s.names b=some i) (hc:AH s.names c0 h=(cs,h1)):W (call (n+1) (.clo b s c0) args h) P E=W (AU (call n) i cs [] h1) P E:=by
 have e1:call (n+1) (.clo b s c0) args h=AX (call n) b ⟨s.names,(AH s.names c0 h).1,false⟩ [] (AH s.names c0 h).2:=rfl;rw[e1,hc,O2 30 _ _ _ c]
def Pg (K:AN) (cs:List (Str×Nat)) (g:IG) (b:List IS):V->Loc->Hp->SR:=λv loc h=>match EM K g v cs loc h with
 | .ok .next loc h=>A8 K cs b loc h
 |_=>.stuck
theorem Vi {g:IG}{m:Bool}:WS (DH K cs (.fo g m e b) loc h) S SE=W (E6 K m e cs loc h) (λs h=>if Hd g s then WS (Bo s (Pg K cs g b) (s.len h+1) 0 loc h) S SE else False) (λc h=>SE c loc h):=by
 rw[DH,C9];congr 1;funext s h;split<;>rfl
theorem Ph {g:IG}:WS (Pg K cs g b v loc h) S SE=WS (EM K g v cs loc h) (R5 (λloc h=>WS (A8 K cs b loc h) S SE) λ_ _ _=>False) (λ_ _ _=>False):=by
 unfold Pg;cases EM K g v cs loc h with
 |ok f l h=>cases f<;>rfl
 |exc c l h=>rfl
 |stuck=>rfl
theorem UD {Q:Src->Hp->Prop}:W (E6 K false e cs loc h) Q E=W (AU K e cs loc h) (λv h=>WO (srcOf v h) λs=>Q s h) E:=by
 unfold E6;rw[T8 ⋯,Ad];simp only[Bd]
theorem UE {Q:Src->Hp->Prop}:W (E6 K true e cs loc h) Q E=W (AU K e cs loc h) (λv h=>match srcOf v h with|some (.lst a)=>Q (.enm a) h|_=>False) E:=by
 unfold E6;rw[UQ rfl,Ad];congr 1;funext v h;cases srcOf v h with
 |none=>rfl
 |some s=>cases s<;>rfl
theorem PX:WS (DH K cs (.wh t b) loc h) S SE=WS (Al (λloc h=>itR K t cs loc h) (λloc h=>A8 K cs b loc h) AO loc h) S SE:=by rw[DH]
def lp (I:Loc->Hp->Prop) (S:Fl->Loc->Hp->Prop):Fl->Loc->Hp->Prop:=λf l h=>match f with
 | .next=>I l h
 | .cont=>I l h
 | .brk=>S .next l h
 | .ret v=>S (.ret v) l h
theorem NH:lp I S .next loc h=I loc h:=rfl
theorem Pz:lp I S .brk loc h=S .next loc h:=rfl
theorem P8:lp I S (.ret v) loc h=S (.ret v) loc h:=rfl
theorem CH {s:Src}{turn:V->Loc->Hp->SR}(I:Nat->Loc->Hp->Prop) (N:Nat)
  (step:∀i loc h,i<N->I i loc h->∃v,s.next i h=some (some v)/\WS (turn v loc h) (lp (I (i+1)) S) (λ_ _ _=>False)) (done:∀loc h,I N loc h->s.next N h=some none/\S .next loc h):
  ∀k i loc h,N<k+i->i<=N->I i loc h->WS (Bo s turn k i loc h) S SE
 |0,i,loc,h,a,b,_=>by omega
 |k+1,i,loc,h,a,b,q=>by
  rw[Bo];by_cases hi:i=N
  ·subst hi;obtain⟨e,d⟩:=done loc h q;rw[e];exact d
  ·obtain⟨v,e,d⟩:=step i loc h ⋯ q;rw[e];dsimp only;cases ht:turn v loc h with
   |ok f l h'=>
    rw[ht] at d;cases f with
    |next=>exact CH I N step done k (i+1) l h' ⋯ ⋯ d
    |cont=>exact CH I N step done k (i+1) l h' ⋯ ⋯ d
    |brk=>exact d
    |ret v=>exact d
   |exc c l h'=>rw [ht] at d;exact d.elim
   |stuck=>rw [ht] at d;exact d.elim
theorem Ek {t:Loc->Hp->Res Bool}{b:Loc->Hp->SR}(I:Nat->Loc->Hp->Prop)
  (step:∀n loc h,I n loc h->W (t loc h) (λc h=>if c then ∃m,n=m+1/\WS (b loc h) (lp (λl h=>∃m',m'<=m/\I m' l h) S) (λ_ _ _=>False) else S .next loc h) (λ_ _=>False)):
  ∀k n loc h,n<k->I n loc h->WS (Al t b k loc h) S SE
 |0,n,loc,h,a,_=>by omega
 |k+1,n,loc,h,a,q=>by
  rw[Al];have d:=step n loc h q;cases ht:t loc h with
  |ok c h1=>
   rw[ht] at d;cases c with
   |false=>exact d
   |true=>
    obtain⟨m,hm,d⟩:=d;dsimp only;cases hb:b loc h1 with
    |ok f l h'=>
     rw[hb] at d;cases f with
     |next=>obtain ⟨m',e,d⟩:=d;exact Ek I step k m' l h' ⋯ d
     |cont=>obtain ⟨m',e,d⟩:=d;exact Ek I step k m' l h' ⋯ d
     |brk=>exact d
     |ret v=>exact d
    |exc c l h'=>rw [hb] at d;exact d.elim
    |stuck=>rw [hb] at d;exact d.elim
  |exc c h1=>rw [ht] at d;exact d.elim
  |stuck=>rw [ht] at d;exact d.elim
theorem W0:WS (DH K cs (.tr b hs []) loc h) S SE=WS (A8 K cs b loc h) S (λc l h=>WS (L9 c hs l h) S SE):=by
 rw[DH];cases A8 K cs b loc h<;>rfl
theorem VP {f:IS}{r:List IS}:WS (DH K cs (.tr b hs (f::r)) loc h) S SE=
  WS (A8 K cs b loc h) (λfl l h=>WS (A8 K cs (f::r) l h) (λf' l h=>match f' with| .next=>S fl l h|_=>False) λ_ _ _=>False) (λc l h=>WS (L9 c hs l h) (λfl l h=>WS (A8 K cs (f::r) l h) (λf' l h=>match f' with| .next=>S fl l h|_=>False) λ_ _ _=>False) λ_ _ _=>False):=by
 have key:∀m:SR,WS (match m with| .ok f0 loc h=>(match A8 K cs (f::r) loc h with| .ok .next loc h=>.ok f0 loc h|_=>.stuck:SR)|_=>.stuck) S SE=WS m (λfl l h=>WS (A8 K cs (f::r) l h) (λf' l h=>match f' with| .next=>S fl l h|_=>False) λ_ _ _=>False) λ_ _ _=>False:=by
  intro m;cases m with
  |ok fl l h=>
   dsimp only;rw[Ht];cases A8 K cs (f::r) l h with
   |ok f' l h=>cases f'<;>rfl
   |exc c l h=>rfl
   |stuck=>rfl
  |exc c l h=>rfl
  |stuck=>rfl
 rw[DH]
 ·refine (key _).trans ?_;cases A8 K cs b loc h<;>rfl
 ·nofun
theorem AD {α:Type}{x y:Str}{v:α}:∀{l:List (Str×α)},lk y (pt x v l)=if y=x then some v else lk y l
 |[]=>by
  unfold pt lk;split<;>rfl
 |(z,w)::r=>by
  unfold pt;by_cases h:x=z
  ·rw[UQ h];subst h;unfold lk;split<;>rfl
  ·rw[T8 h,lk,AD (l:=r),lk];by_cases hy:y=z
   ·subst hy;rw[UQ rfl,UQ rfl,T8 (Ne.symm h)]
   ·rw[T8 hy,T8 hy]
def Am (c:Nat) (x:Str) (v:V) (fs:List (Str×V)):Option (List (Str×V)):=match lk x fs with
 |some _=>some (pt x v fs)
 |none=>if AP c x&&decide (fs.length<100) then some (pt x v fs) else none
def WI (r:Option O) (Q:Nat->List (Str×V)->Prop):Prop:=match r with|some (.inst c fs)=>Q c fs|_=>False
def WL (r:Option O) (Q:List V->Prop):Prop:=match r with|some (.list l)=>Q l|_=>False
def WD (r:Option O) (Q:List (Int×V)->Prop):Prop:=match r with|some (.U' l)=>Q l|_=>False
def WA (r:Option O) (Q:List Int->Prop):Prop:=match r with|some (.ba l)=>Q l|_=>False
def WT (r:Option O) (Q:List (Str×V)->Prop):Prop:=match r with|some (.dO l)=>Q l|_=>False
def WK (r:Option O) (I:Nat->List (Str×V)->Prop) (L:List V->Prop) (D:List (Int×V)->Prop) (A:List Int->Prop) (T:List (Str×V)->Prop):Prop:=match r with
 |some (.inst c fs)=>I c fs
 |some (.list l)=>L l
 |some (.U' d)=>D d
 |some (.ba m)=>A m
 |some (.dO d)=>T d
 |_=>False
variable {F:List (Str×V)->Prop}{r:Option O}
section
variable {a b:Int}{i j k n:Nat}{y:Str}{w:V}{vs:List V}{fs:List (Str×V)}{d:List (Int×V)}{m:List Int}{e:List (Str×V)}
variable {Q:V->Prop}{B:Bool->Prop}{G:Hp->Prop}{M:Mt->Prop}{N:Nat->Prop}{Z:Int->Prop}
theorem Vx:WO (lk x ((y,v)::fs)) Q=if x=y then Q v else WO (lk x fs) Q:=by rw[lk];split<;>rfl
theorem Sa:WO (lk x (pt y v fs)) Q=if x=y then Q v else WO (lk x fs) Q:=by rw[AD];split<;>rfl
theorem VJ {Q:Nat->List (Str×V)->Prop}:WI (some (.inst c fs)) Q=Q c fs:=rfl
theorem XN {Q:List V->Prop}:WL (some (.list l)) Q=Q l:=rfl
theorem Vc {Q:List (Int×V)->Prop}:WD (some (.U' d)) Q=Q d:=rfl
theorem Vr {Q:List Int->Prop}:WA (some (.ba m)) Q=Q m:=rfl
theorem V2 {Q:List (Str×V)->Prop}:WT (some (.dO e)) Q=Q e:=rfl
section
variable {I:Nat->List (Str×V)->Prop}{L:List V->Prop}{D:List (Int×V)->Prop}{A:List Int->Prop}{T:List (Str×V)->Prop}
theorem Vu:WK (some (.inst c fs)) I L D A T=I c fs:=rfl
theorem Xf:WK (some (.list l)) I L D A T=L l:=rfl
theorem XX:WK (some (.U' d)) I L D A T=D d:=rfl
theorem V5:WK (some (.ba m)) I L D A T=A m:=rfl
theorem Wy:WK (some (.dO e)) I L D A T=T e:=rfl
end
theorem RO (h0:h[i]? =r):W (Ft (.ref i) x h) P E=WI r (λ_ fs=>WO (lk x fs) (λv=>P v h)):=by
 subst h0;show W (match h[i]? with|some (.inst _ fs)=>Res.some h (lk x fs)|_=>.stuck) P E=_;cases h[i]? with
 |none=>rfl
 |some o=>cases o<;>first|exact Bd|rfl
theorem RM (h0:h[i]? =r):WO (DV (.ref i) x v h) G=WI r (λc fs=>WO (Am c x v fs) (λf=>G (h.set i (.inst c f)))):=by
 subst h0;unfold DV Am;dsimp only;cases h[i]? with
 |none=>rfl
 |some o=>
  cases o<;>try rfl
  rename_i c fs;dsimp only;rw[VJ];cases lk x fs with
  |some _=>rfl
  |none=>dsimp only;split<;>rfl
theorem CC:WO (Am c x v fs) F=if (lk x fs).isSome then F (pt x v fs) else if AP c x then if fs.length<100 then F (pt x v fs) else False else False:=by
 unfold Am;cases lk x fs with
 |some _=>rfl
 |none=>cases AP c x<;>by_cases hl:fs.length<100<;>simp [hl,WO]
theorem Sz (h0:h[i]? =r):WO (Hi (.ref i) x h) M=WK r (λc _=>WO (AZ c x) (λj=>M (.own c j))) (λ_=>if x="append" then M .FM else if x="remove" then M .d7 else False) (λ_=>if x="get" then M .dY else False) (λ_=>if x="extend" then M .bext else False) (λ_=>False):=by
 subst h0;simp only[Hi];cases h[i]? with
 |none=>rfl
 |some o=>cases o<;>first|exact Ea|rfl|(dsimp only[WK];split<;>first|rfl|(split<;>rfl))
theorem TP:W (Aw K (.own i j) v vs h) P E=W (K (.fn i j) (v::vs) h) P E:=rfl
theorem TS (h0:h[i]? =r):W (Aw K .FM (.ref i) [v] h) P E=WL r (λl=>if l.length<lid then P .none (h.set i (.list (l++[v]))) else False):=by
 subst h0;simp only[Aw];cases h[i]? with
 |none=>rfl
 |some o=>cases o<;>first|rfl|(dsimp only[WL];split<;>rfl)
theorem RJ (h0:h[i]? =r):W (Aw K .dY (.ref i) [.int a] h) P E=WD r (λd=>P ((Bm a d).getD .none) h):=by
 subst h0;simp only[Aw];cases h[i]? with
 |none=>rfl
 |some o=>cases o<;>rfl
theorem QK (h0:h[i]? =r):W (Aw K .dY (.ref i) [.int a,v] h) P E=WD r (λd=>P ((Bm a d).getD v) h):=by
 subst h0;simp only[Aw];cases h[i]? with
 |none=>rfl
 |some o=>cases o<;>rfl
theorem Pq (h0:h[i]? =r):W (Aw K .bext (.ref i) [.bytes m] h) P E=WA r (λl=>if l.length+m.length<=lid then P .none (h.set i (.ba (l++m))) else False):=by
 subst h0;simp only[Aw];cases h[i]? with
 |none=>rfl
 |some o=>cases o<;>first|rfl|(dsimp only[WA];split<;>rfl)
theorem VS:W (Ch K (.fn i) vs h) P E=W (K (.fn i 0) vs h) P E:=rfl
theorem WB {s:String}:W (Ch K (.bi s) vs h) P E=WO (C7 s vs h) (λv=>P v h):=Bd
theorem XY {s:String}:W (Ch K (.ty s) vs h) P E=W (Ap s vs h) P E:=rfl
theorem Tc {e:Expr}{c:List (Str×Nat)}:W (Ch K (.clo e s c) [] h) P E=W (K (.clo e s c) [] h) P E:=rfl
theorem TG:W (Ch K (.cls i) vs h) P E=WO (AZ i "__init__") λj=>W (K (.fn i j) (.ref h.length::vs) (h++[.inst i []])) (λr h'=>match r with| .none=>P (.ref h.length) h'|_=>False) E:=by
 simp only[Ch];cases AZ i "__init__" with
 |none=>rfl
 |some j=>
  show W (Res.bind _ _) P E=_;rw[Ad,DR];congr 1;funext r h';cases r<;>rfl
theorem Sk:WO (C7 "len" [v] h) Q=WO (Iq v h) (λn=>Q (.int n)):=Ea
theorem Tb:WO (C7 "abs" [.int a] h) Q=Q (.int a.natAbs):=rfl
theorem TQ:WO (C7 "min" [.int a,.int b] h) Q=Q (.int (if b<a then b else a)):=rfl
theorem TY:WO (C7 "max" [.int a,.int b] h) Q=Q (.int (if a<b then b else a)):=rfl
theorem Sr:WO (C7 "isinstance" [.int a,.ty "int"] h) Q=Q (.bool true):=rfl
theorem Qz:WO (Iq (.bytes m) h) Z=Z (m.length:Int):=rfl
theorem Qg:WO (Iq (.fl l) h) Z=Z (l.length:Int):=rfl
theorem PC:WO (Iq (.dX n) h) Z=Z (n:Int):=rfl
theorem Pk (h0:h[i]? =r):WO (Iq (.ref i) h) Z=WK r (λ_ _=>False) (λl=>Z (l.length:Int)) (λ_=>False) (λm=>Z (m.length:Int)) (λ_=>False):=by
 subst h0;simp only[Iq];cases h[i]? with
 |none=>rfl
 |some o=>cases o<;>rfl
theorem Vt:WO (Ao .Eq (.int a) (.int b) h) B=B (decide (a=b)):=rfl
theorem V0:WO (Ao .NotEq (.int a) (.int b) h) B=B (!decide (a=b)):=rfl
theorem Wn:WO (Ao .Lt (.int a) (.int b) h) B=B (decide (a<b)):=rfl
theorem Wm:WO (Ao .LtE (.int a) (.int b) h) B=B (decide (a<=b)):=rfl
theorem Wl:WO (Ao .Gt (.int a) (.int b) h) B=B (decide (b<a)):=rfl
theorem Vd:WO (Ao .GtE (.int a) (.int b) h) B=B (decide (b<=a)):=rfl
theorem SZ:WO (Ao .Is .none .none h) B=B true:=rfl
theorem Tj:WO (Ao .Is (.ref i) .none h) B=B false:=rfl
theorem Sc:WO (Ao .Is (.int a) .none h) B=B false:=rfl
theorem Sw:WO (Ao .Is (.str x) .none h) B=B false:=rfl
theorem PA:WO (Ao .IsNot .none .none h) B=B false:=rfl
theorem QH:WO (Ao .IsNot (.ref i) .none h) B=B true:=rfl
theorem Ol:WO (Ao .IsNot (.int a) .none h) B=B true:=rfl
theorem PN:WO (Ao .IsNot (.str x) .none h) B=B true:=rfl
theorem TX (h0:h[i]? =r):WO (Ao .Is (.ref i) (.ref j) h) B=if i=j then B true else WI r (λ_ _=>B false):=by
 subst h0;show WO (Hx i j h) B=_;unfold Hx;split
 ·rfl
 ·cases h[i]? with
  |none=>rfl
  |some o=>cases o<;>rfl
theorem Pe (h0:h[i]? =r):WO (Ao .IsNot (.ref i) (.ref j) h) B=if i=j then B false else WI r (λ_ _=>B true):=by
 subst h0;show WO ((Hx i j h).map (!·)) B=_;unfold Hx;split
 ·rfl
 ·cases h[i]? with
  |none=>rfl
  |some o=>cases o<;>rfl
theorem Tg (h0:h[i]? =r):WO (Ao .In (.int a) (.ref i) h) B=WK r (λ_ _=>False) (λl=>WO (EZ (.int a) l) B) (λd=>B (Bm a d).isSome) (λ_=>False) (λ_=>False):=by
 subst h0;show WO (match h[i]? with|some (.list l)=>EZ (.int a) l|some (.U' d)=>some (Bm a d).isSome|_=>none) B=_;cases h[i]? with
 |none=>rfl
 |some o=>cases o<;>rfl
theorem Pu (h0:h[i]? =r):WO (Ao .NotIn (.int a) (.ref i) h) B=WK r (λ_ _=>False) (λl=>WO (EZ (.int a) l) (λb=>B (!b))) (λd=>B (!(Bm a d).isSome)) (λ_=>False) (λ_=>False):=by
 subst h0;show WO (Option.map _ (match h[i]? with|some (.list l)=>EZ (.int a) l|some (.U' d)=>some (Bm a d).isSome|_=>none)) B=_;cases h[i]? with
 |none=>rfl
 |some o=>cases o<;>first|exact Ea|rfl
theorem TA:WO (Ao .In v (.tup l) h) B=WO (EZ v l) B:=rfl
theorem Qe:WO (Ao .NotIn v (.tup l) h) B=WO (EZ v l) (λb=>B (!b)):=Ea
theorem Sn:W (CJ .Add (.int a) (.int b) h) P E=P (.int (a+b)) h:=rfl
theorem TH:W (CJ .Sub (.int a) (.int b) h) P E=P (.int (a-b)) h:=rfl
theorem TF (e:(-1000000000000<a/\a<1000000000000)∨(-1000000000000<b/\b<1000000000000)):W (CJ .Mult (.int a) (.int b) h) P E=P (.int (a*b)) h:=by
 show W (Res.some h (binI .Mult a b)) P E=_;rw[show binI .Mult a b=some (.int (a*b)) from UQ ⋯];rfl
theorem Sl (e:0<b) (e':b<1073741824):W (CJ .FloorDiv (.int a) (.int b) h) P E=P (.int (a / b)) h:=by
 show W (Res.some h (binI .FloorDiv a b)) P E=_;rw[show binI .FloorDiv a b=some (.int (a / b)) from UQ ⟨e,e'⟩];rfl
theorem Tf (e:0<b):W (CJ .Mod (.int a) (.int b) h) P E=P (.int (a%b)) h:=by
 show W (Res.some h (binI .Mod a b)) P E=_;rw[show binI .Mod a b=some (.int (a%b)) from UQ e];rfl
section
variable {q:Option V}
theorem Xa (e:binI .BitOr a b=q):W (CJ .BitOr (.int a) (.int b) h) P E=WO q (λv=>P v h):=by subst e;exact Bd
theorem Th (e:binI .BitAnd a b=q):W (CJ .BitAnd (.int a) (.int b) h) P E=WO q (λv=>P v h):=by subst e;exact Bd
theorem Sv (e:binI .BitXor a b=q):W (CJ .BitXor (.int a) (.int b) h) P E=WO q (λv=>P v h):=by subst e;exact Bd
theorem Sj (e:binI .LShift a b=q):W (CJ .LShift (.int a) (.int b) h) P E=WO q (λv=>P v h):=by subst e;exact Bd
theorem Ss (e:binI .RShift a b=q):W (CJ .RShift (.int a) (.int b) h) P E=WO q (λv=>P v h):=by subst e;exact Bd
theorem Td (e:binI .Pow a b=q):W (CJ .Pow (.int a) (.int b) h) P E=WO q (λv=>P v h):=by subst e;exact Bd
def WU (o:Option V) (Q:V->Prop):Prop:=WO o Q
theorem W7:WU (some v) Q=Q v:=rfl
theorem Pf {i:V}(e:BM v i h=q):WO (BM v i h) Q=WU q Q:=by subst e;rfl
end
structure Bx (P:V->Hp->Prop) (E:PE) where
 n:Nat
def WC (P:V->Hp->Prop) (E:PE) (_:Bx P E) (r:Res V):Prop:=W r P E
theorem TT {b:Bx P E}:WC P E b (.ok v h)=P v h:=rfl
theorem Pd {b:Bx P E}:WC P E b (.exc c h)=E c h:=rfl
theorem Pp {q:Res V}{f:Callee}(e:call n f vs h=q):W (call n f vs h) P E=WC P E ⟨0⟩ q:=by subst e;rfl
theorem Ps:WO (GW .Add (.int a) (.int b)) Q=Q (.int (a+b)):=rfl
theorem PV:WO (GW .Sub (.int a) (.int b)) Q=Q (.int (a-b)):=rfl
theorem To {b:Bool}:WO (BA (.bool b)) B=B b:=rfl
theorem Sd:WO (BA .none) B=B false:=rfl
theorem PB (h0:h[i]? =r):WO (Go (.ref i) (.int a) v h) G=WK r (λ_ _=>False) (λl=>if 0<=a/\a.toNat<l.length then G (h.set i (.list (l.set a.toNat v))) else False) (λd=>if d.length<lid then G (h.set i (.U' (Ar a v d))) else False)
  (λm=>match v with| .int b=>(if 0<=a/\a.toNat<m.length/\A9 b=true then G (h.set i (.ba (m.set a.toNat b))) else False)|_=>False) (λ_=>False):=by
 subst h0;simp only[Go];cases h[i]? with
 |none=>rfl
 |some o=>cases o<;>(try rfl)<;>cases v<;>(try rfl)<;>(dsimp only[WK];split<;>rfl)
theorem PW (h0:h[i]? =r):WO (Iy (.ref i) (.int a) h) G=WK r (λ_ _=>False) (λl=>if 0<=a/\a.toNat<l.length then G (h.set i (.list (l.eraseIdx a.toNat))) else False) (λd=>if (Bm a d).isSome then G (h.set i (.U' (Cw a d))) else False) (λ_=>False) (λ_=>False):=by
 subst h0;simp only[Iy];cases h[i]? with
 |none=>rfl
 |some o=>cases o<;>(try rfl)<;>(dsimp only[WK];split<;>rfl)
end
def BB (H:Hp) (L:List (Nat×O)):Prop:=(L.map (·.1)).Nodup/\∀p∈L,H[p.1]? =some p.2
section
variable {a b c d e f g h i j k l:V}{Q:V->Prop}{N:Nat->Prop}
def SF (a b c d e f g h i j k l:V):List (Str×V):=[("block",a),("blocks",b),("inodes",c),("log",d),("direct",e),("row",f),("rows",g),("indirect",h),("log_start",i),("inode_start",j),("bitmap_start",k),("data_start",l)]
theorem ZS:WO (lk "block" (SF a b c d e f g h i j k l)) Q=Q a:=rfl
theorem bX:WO (Am 24 "block" v (SF a b c d e f g h i j k l)) F=F (SF v b c d e f g h i j k l):=rfl
theorem Zj:WO (lk "blocks" (SF a b c d e f g h i j k l)) Q=Q b:=rfl
theorem cX:WO (Am 24 "blocks" v (SF a b c d e f g h i j k l)) F=F (SF a v c d e f g h i j k l):=rfl
theorem Zs:WO (lk "inodes" (SF a b c d e f g h i j k l)) Q=Q c:=rfl
theorem Z4:WO (Am 24 "inodes" v (SF a b c d e f g h i j k l)) F=F (SF a b v d e f g h i j k l):=rfl
theorem bv:WO (lk "log" (SF a b c d e f g h i j k l)) Q=Q d:=rfl
theorem Ze:WO (Am 24 "log" v (SF a b c d e f g h i j k l)) F=F (SF a b c v e f g h i j k l):=rfl
theorem bE:WO (lk "direct" (SF a b c d e f g h i j k l)) Q=Q e:=rfl
theorem Yt:WO (Am 24 "direct" v (SF a b c d e f g h i j k l)) F=F (SF a b c d v f g h i j k l):=rfl
theorem Zq:WO (lk "row" (SF a b c d e f g h i j k l)) Q=Q f:=rfl
theorem Zy:WO (Am 24 "row" v (SF a b c d e f g h i j k l)) F=F (SF a b c d e v g h i j k l):=rfl
theorem ZZ:WO (lk "rows" (SF a b c d e f g h i j k l)) Q=Q g:=rfl
theorem be:WO (Am 24 "rows" v (SF a b c d e f g h i j k l)) F=F (SF a b c d e f v h i j k l):=rfl
theorem aV:WO (lk "indirect" (SF a b c d e f g h i j k l)) Q=Q h:=rfl
theorem cg:WO (Am 24 "indirect" v (SF a b c d e f g h i j k l)) F=F (SF a b c d e f g v i j k l):=rfl
theorem cY:WO (lk "log_start" (SF a b c d e f g h i j k l)) Q=Q i:=rfl
theorem ax:WO (Am 24 "log_start" v (SF a b c d e f g h i j k l)) F=F (SF a b c d e f g h v j k l):=rfl
theorem aK:WO (lk "inode_start" (SF a b c d e f g h i j k l)) Q=Q j:=rfl
theorem cR:WO (Am 24 "inode_start" v (SF a b c d e f g h i j k l)) F=F (SF a b c d e f g h i v k l):=rfl
theorem XK:WO (lk "bitmap_start" (SF a b c d e f g h i j k l)) Q=Q k:=rfl
theorem Wk:WO (Am 24 "bitmap_start" v (SF a b c d e f g h i j k l)) F=F (SF a b c d e f g h i j v l):=rfl
theorem Vl:WO (lk "data_start" (SF a b c d e f g h i j k l)) Q=Q l:=rfl
theorem Vb:WO (Am 24 "data_start" v (SF a b c d e f g h i j k l)) F=F (SF a b c d e f g h i j k v):=rfl
def NF (a b c d e f g h i:V):List (Str×V):=[("nodes",a),("number",b),("holders",c),("kind",d),("major",e),("minor",f),("links",g),("size",h),("places",i)]
theorem aX:WO (lk "nodes" (NF a b c d e f g h i)) Q=Q a:=rfl
theorem ZJ:WO (Am 26 "nodes" v (NF a b c d e f g h i)) F=F (NF v b c d e f g h i):=rfl
theorem ak:WO (lk "number" (NF a b c d e f g h i)) Q=Q b:=rfl
theorem Zc:WO (Am 26 "number" v (NF a b c d e f g h i)) F=F (NF a v c d e f g h i):=rfl
theorem bF:WO (lk "holders" (NF a b c d e f g h i)) Q=Q c:=rfl
theorem cN:WO (Am 26 "holders" v (NF a b c d e f g h i)) F=F (NF a b v d e f g h i):=rfl
theorem cU:WO (lk "kind" (NF a b c d e f g h i)) Q=Q d:=rfl
theorem bz:WO (Am 26 "kind" v (NF a b c d e f g h i)) F=F (NF a b c v e f g h i):=rfl
theorem Zt:WO (lk "major" (NF a b c d e f g h i)) Q=Q e:=rfl
theorem an:WO (Am 26 "major" v (NF a b c d e f g h i)) F=F (NF a b c d v f g h i):=rfl
theorem bO:WO (lk "minor" (NF a b c d e f g h i)) Q=Q f:=rfl
theorem Z5:WO (Am 26 "minor" v (NF a b c d e f g h i)) F=F (NF a b c d e v g h i):=rfl
theorem Zr:WO (lk "links" (NF a b c d e f g h i)) Q=Q g:=rfl
theorem ZT:WO (Am 26 "links" v (NF a b c d e f g h i)) F=F (NF a b c d e f v h i):=rfl
theorem Z8:WO (lk "size" (NF a b c d e f g h i)) Q=Q h:=rfl
theorem bJ:WO (Am 26 "size" v (NF a b c d e f g h i)) F=F (NF a b c d e f g v i):=rfl
theorem aN:WO (lk "places" (NF a b c d e f g h i)) Q=Q i:=rfl
theorem ZX:WO (Am 26 "places" v (NF a b c d e f g h i)) F=F (NF a b c d e f g h v):=rfl
def NS (a b c d:V):List (Str×V):=[("journal",a),("cache",b),("super",c),("table",d)]
theorem ZN:WO (lk "journal" (NS a b c d)) Q=Q a:=rfl
theorem aw:WO (Am 27 "journal" v (NS a b c d)) F=F (NS v b c d):=rfl
theorem Zg:WO (lk "cache" (NS a b c d)) Q=Q b:=rfl
theorem bQ:WO (Am 27 "cache" v (NS a b c d)) F=F (NS a v c d):=rfl
theorem Y4:WO (lk "super" (NS a b c d)) Q=Q c:=rfl
theorem Zl:WO (Am 27 "super" v (NS a b c d)) F=F (NS a b v d):=rfl
theorem ZP:WO (lk "table" (NS a b c d)) Q=Q d:=rfl
theorem cI:WO (Am 27 "table" v (NS a b c d)) F=F (NS a b c v):=rfl
def BF (a b c d:V):List (Str×V):=[("number",a),("data",b),("holders",c),("pins",d)]
theorem Y5:WO (lk "number" (BF a b c d)) Q=Q a:=rfl
theorem ZG:WO (Am 29 "number" v (BF a b c d)) F=F (BF v b c d):=rfl
theorem bV:WO (lk "data" (BF a b c d)) Q=Q b:=rfl
theorem aE:WO (Am 29 "data" v (BF a b c d)) F=F (BF a v c d):=rfl
theorem Zk:WO (lk "holders" (BF a b c d)) Q=Q c:=rfl
theorem Y6:WO (Am 29 "holders" v (BF a b c d)) F=F (BF a b v d):=rfl
theorem Yx:WO (lk "pins" (BF a b c d)) Q=Q d:=rfl
theorem ZH:WO (Am 29 "pins" v (BF a b c d)) F=F (BF a b c v):=rfl
def CF (a b c d e f g h:V):List (Str×V):=[("disk",a),("most",b),("size",c),("row",d),("by_number",e),("hits",f),("reads",g),("writes",h)]
theorem Y8:WO (lk "disk" (CF a b c d e f g h)) Q=Q a:=rfl
theorem Yy:WO (Am 30 "disk" v (CF a b c d e f g h)) F=F (CF v b c d e f g h):=rfl
theorem aG:WO (lk "most" (CF a b c d e f g h)) Q=Q b:=rfl
theorem aO:WO (Am 30 "most" v (CF a b c d e f g h)) F=F (CF a v c d e f g h):=rfl
theorem Zb:WO (lk "size" (CF a b c d e f g h)) Q=Q c:=rfl
theorem cP:WO (Am 30 "size" v (CF a b c d e f g h)) F=F (CF a b v d e f g h):=rfl
theorem cJ:WO (lk "row" (CF a b c d e f g h)) Q=Q d:=rfl
theorem Z3:WO (Am 30 "row" v (CF a b c d e f g h)) F=F (CF a b c v e f g h):=rfl
theorem bZ:WO (lk "by_number" (CF a b c d e f g h)) Q=Q e:=rfl
theorem bR:WO (Am 30 "by_number" v (CF a b c d e f g h)) F=F (CF a b c d v f g h):=rfl
theorem cB:WO (lk "hits" (CF a b c d e f g h)) Q=Q f:=rfl
theorem ac:WO (Am 30 "hits" v (CF a b c d e f g h)) F=F (CF a b c d e v g h):=rfl
theorem aU:WO (lk "reads" (CF a b c d e f g h)) Q=Q g:=rfl
theorem aH:WO (Am 30 "reads" v (CF a b c d e f g h)) F=F (CF a b c d e f v h):=rfl
theorem ZD:WO (lk "writes" (CF a b c d e f g h)) Q=Q h:=rfl
theorem ZL:WO (Am 30 "writes" v (CF a b c d e f g h)) F=F (CF a b c d e f g v):=rfl
def DF (a b c d e f g h i j:V):List (Str×V):=[("blocks",a),("size",b),("kept",c),("latest",d),("unflushed",e),("writes",f),("flushes",g),("last",h),("last_flush",i),("is_dead",j)]
theorem bK:WO (lk "blocks" (DF a b c d e f g h i j)) Q=Q a:=rfl
theorem Za:WO (Am 32 "blocks" v (DF a b c d e f g h i j)) F=F (DF v b c d e f g h i j):=rfl
theorem Z2:WO (lk "size" (DF a b c d e f g h i j)) Q=Q b:=rfl
theorem bP:WO (Am 32 "size" v (DF a b c d e f g h i j)) F=F (DF a v c d e f g h i j):=rfl
theorem cQ:WO (lk "kept" (DF a b c d e f g h i j)) Q=Q c:=rfl
theorem Zx:WO (Am 32 "kept" v (DF a b c d e f g h i j)) F=F (DF a b v d e f g h i j):=rfl
theorem aj:WO (lk "latest" (DF a b c d e f g h i j)) Q=Q d:=rfl
theorem aF:WO (Am 32 "latest" v (DF a b c d e f g h i j)) F=F (DF a b c v e f g h i j):=rfl
theorem aA:WO (lk "unflushed" (DF a b c d e f g h i j)) Q=Q e:=rfl
theorem b9:WO (Am 32 "unflushed" v (DF a b c d e f g h i j)) F=F (DF a b c d v f g h i j):=rfl
theorem Y9:WO (lk "writes" (DF a b c d e f g h i j)) Q=Q f:=rfl
theorem cW:WO (Am 32 "writes" v (DF a b c d e f g h i j)) F=F (DF a b c d e v g h i j):=rfl
theorem bI:WO (lk "flushes" (DF a b c d e f g h i j)) Q=Q g:=rfl
theorem aJ:WO (Am 32 "flushes" v (DF a b c d e f g h i j)) F=F (DF a b c d e f v h i j):=rfl
theorem Z9:WO (lk "last" (DF a b c d e f g h i j)) Q=Q h:=rfl
theorem Zh:WO (Am 32 "last" v (DF a b c d e f g h i j)) F=F (DF a b c d e f g v i j):=rfl
theorem ZA:WO (lk "last_flush" (DF a b c d e f g h i j)) Q=Q i:=rfl
theorem Zz:WO (Am 32 "last_flush" v (DF a b c d e f g h i j)) F=F (DF a b c d e f g h v j):=rfl
theorem bW:WO (lk "is_dead" (DF a b c d e f g h i j)) Q=Q j:=rfl
theorem cZ:WO (Am 32 "is_dead" v (DF a b c d e f g h i j)) F=F (DF a b c d e f g h i v):=rfl
def JF (a b c d e f g h i j:V):List (Str×V):=[("cache",a),("start",b),("size",c),("places",d),("most",e),("each",f),("numbers",g),("noted",h),("calls",i),("commits",j)]
theorem ar:WO (lk "cache" (JF a b c d e f g h i j)) Q=Q a:=rfl
theorem Y0:WO (Am 38 "cache" v (JF a b c d e f g h i j)) F=F (JF v b c d e f g h i j):=rfl
theorem Yz:WO (lk "start" (JF a b c d e f g h i j)) Q=Q b:=rfl
theorem Zu:WO (Am 38 "start" v (JF a b c d e f g h i j)) F=F (JF a v c d e f g h i j):=rfl
theorem ZK:WO (lk "size" (JF a b c d e f g h i j)) Q=Q c:=rfl
theorem Zp:WO (Am 38 "size" v (JF a b c d e f g h i j)) F=F (JF a b v d e f g h i j):=rfl
theorem ZB:WO (lk "places" (JF a b c d e f g h i j)) Q=Q d:=rfl
theorem bA:WO (Am 38 "places" v (JF a b c d e f g h i j)) F=F (JF a b c v e f g h i j):=rfl
theorem ZO:WO (lk "most" (JF a b c d e f g h i j)) Q=Q e:=rfl
theorem aM:WO (Am 38 "most" v (JF a b c d e f g h i j)) F=F (JF a b c d v f g h i j):=rfl
theorem aC:WO (lk "each" (JF a b c d e f g h i j)) Q=Q f:=rfl
theorem Zn:WO (Am 38 "each" v (JF a b c d e f g h i j)) F=F (JF a b c d e v g h i j):=rfl
theorem ZV:WO (lk "numbers" (JF a b c d e f g h i j)) Q=Q g:=rfl
theorem Zo:WO (Am 38 "numbers" v (JF a b c d e f g h i j)) F=F (JF a b c d e f v h i j):=rfl
theorem ZF:WO (lk "noted" (JF a b c d e f g h i j)) Q=Q h:=rfl
theorem aW:WO (Am 38 "noted" v (JF a b c d e f g h i j)) F=F (JF a b c d e f g v i j):=rfl
theorem bU:WO (lk "calls" (JF a b c d e f g h i j)) Q=Q i:=rfl
theorem Z0:WO (Am 38 "calls" v (JF a b c d e f g h i j)) F=F (JF a b c d e f g h v j):=rfl
theorem aq:WO (lk "commits" (JF a b c d e f g h i j)) Q=Q j:=rfl
theorem Y1:WO (Am 38 "commits" v (JF a b c d e f g h i j)) F=F (JF a b c d e f g h i v):=rfl
theorem mt {c j:Nat}(e:AZ c x=some j):WO (AZ c x) N=N j:=by rw[e];rfl
theorem m0:WO (AZ 24 "__init__") N=N 0:=mt ⋯
theorem m1:WO (AZ 24 "most_blocks") N=N 1:=mt ⋯
theorem m2:WO (AZ 24 "most_size") N=N 2:=mt ⋯
theorem m3:WO (AZ 24 "words") N=N 3:=mt ⋯
theorem m4:WO (AZ 24 "octets") N=N 4:=mt ⋯
theorem m5:WO (AZ 24 "row_of") N=N 5:=mt ⋯
theorem m6:WO (AZ 24 "bit_of") N=N 6:=mt ⋯
theorem m7:WO (AZ 26 "__init__") N=N 0:=mt ⋯
theorem m8:WO (AZ 26 "take_row") N=N 2:=mt ⋯
theorem m9:WO (AZ 26 "put_row") N=N 3:=mt ⋯
theorem Yw:WO (AZ 26 "stat") N=N 4:=mt ⋯
theorem ZI:WO (AZ 26 "read") N=N 5:=mt ⋯
theorem Y2:WO (AZ 26 "write") N=N 6:=mt ⋯
theorem ZE:WO (AZ 26 "truncate") N=N 7:=mt ⋯
theorem Zi:WO (AZ 26 "update") N=N 8:=mt ⋯
theorem bY:WO (AZ 26 "hold") N=N 9:=mt ⋯
theorem bG:WO (AZ 26 "put") N=N 10:=mt ⋯
theorem aR:WO (AZ 27 "__init__") N=N 0:=mt ⋯
theorem bD:WO (AZ 27 "need_number") N=N 1:=mt ⋯
theorem cF:WO (AZ 27 "kind_at") N=N 2:=mt ⋯
theorem ZR:WO (AZ 27 "get") N=N 3:=mt ⋯
theorem cL:WO (AZ 27 "allocate") N=N 4:=mt ⋯
theorem Ys:WO (AZ 27 "update") N=N 5:=mt ⋯
theorem Yq:WO (AZ 27 "share") N=N 6:=mt ⋯
theorem Y7:WO (AZ 27 "put") N=N 7:=mt ⋯
theorem az:WO (AZ 27 "take_block") N=N 9:=mt ⋯
theorem Y3:WO (AZ 27 "free_bit") N=N 10:=mt ⋯
theorem Zf:WO (AZ 27 "clear_block") N=N 11:=mt ⋯
theorem ch:WO (AZ 27 "give_block") N=N 12:=mt ⋯
theorem bB:WO (AZ 27 "free_blocks") N=N 13:=mt ⋯
theorem Z1:WO (AZ 27 "block_of") N=N 14:=mt ⋯
theorem ZC:WO (AZ 27 "named_block") N=N 15:=mt ⋯
theorem ay:WO (AZ 27 "read") N=N 16:=mt ⋯
theorem aQ:WO (AZ 27 "write") N=N 17:=mt ⋯
theorem ZW:WO (AZ 27 "write_part") N=N 18:=mt ⋯
theorem aS:WO (AZ 27 "truncate") N=N 19:=mt ⋯
theorem ZU:WO (AZ 27 "names_in") N=N 20:=mt ⋯
theorem bw:WO (AZ 29 "__init__") N=N 0:=mt ⋯
theorem bf:WO (AZ 29 "is_free") N=N 1:=mt ⋯
theorem bq:WO (AZ 29 "octets") N=N 2:=mt ⋯
theorem av:WO (AZ 29 "fill") N=N 6:=mt ⋯
theorem bj:WO (AZ 29 "clear") N=N 7:=mt ⋯
theorem ZM:WO (AZ 30 "__init__") N=N 0:=mt ⋯
theorem cK:WO (AZ 30 "need_block") N=N 1:=mt ⋯
theorem ZY:WO (AZ 30 "need_held") N=N 2:=mt ⋯
theorem cV:WO (AZ 30 "get") N=N 3:=mt ⋯
theorem aZ:WO (AZ 30 "make_room") N=N 4:=mt ⋯
theorem bN:WO (AZ 30 "release") N=N 5:=mt ⋯
theorem aL:WO (AZ 30 "pin") N=N 6:=mt ⋯
theorem aa:WO (AZ 30 "unpin") N=N 7:=mt ⋯
theorem bp:WO (AZ 30 "write") N=N 8:=mt ⋯
theorem ah:WO (AZ 30 "flush") N=N 9:=mt ⋯
theorem ZQ:WO (AZ 30 "peek") N=N 10:=mt ⋯
theorem ce:WO (AZ 30 "poke") N=N 11:=mt ⋯
theorem aI:WO (AZ 32 "__init__") N=N 0:=mt ⋯
theorem bt:WO (AZ 32 "need_power") N=N 1:=mt ⋯
theorem bS:WO (AZ 32 "need_block") N=N 2:=mt ⋯
theorem Yv:WO (AZ 32 "read") N=N 3:=mt ⋯
theorem aY:WO (AZ 32 "write") N=N 4:=mt ⋯
theorem am:WO (AZ 32 "flush") N=N 6:=mt ⋯
theorem bu:WO (AZ 32 "after") N=N 9:=mt ⋯
theorem cO:WO (AZ 32 "copy") N=N 10:=mt ⋯
theorem Yu:WO (AZ 38 "__init__") N=N 0:=mt ⋯
theorem Zv:WO (AZ 38 "is_own") N=N 1:=mt ⋯
theorem aT:WO (AZ 38 "has_room") N=N 2:=mt ⋯
theorem bh:WO (AZ 38 "left") N=N 3:=mt ⋯
theorem aB:WO (AZ 38 "begin") N=N 4:=mt ⋯
theorem Z6:WO (AZ 38 "write") N=N 5:=mt ⋯
theorem cM:WO (AZ 38 "end") N=N 6:=mt ⋯
theorem Zw:WO (AZ 38 "commit") N=N 7:=mt ⋯
theorem bL:WO (AZ 38 "fill_log") N=N 8:=mt ⋯
theorem cD:WO (AZ 38 "write_head") N=N 9:=mt ⋯
theorem Z7:WO (AZ 38 "install") N=N 10:=mt ⋯
theorem Kh:AP 24 "block"=true/\AP 24 "blocks"=true/\AP 24 "inodes"=true/\AP 24 "log"=true/\AP 24 "direct"=true/\AP 24 "row"=true/\AP 24 "rows"=true/\AP 24 "indirect"=true/\AP 24 "log_start"=true/\AP 24 "inode_start"=true/\AP 24 "bitmap_start"=true/\AP 24 "data_start"=true/\AP 26 "nodes"=true/\AP 26 "number"=true/\AP 26 "holders"=true/\AP 26 "kind"=true/\AP 26 "major"=true/\AP 26 "minor"=true/\AP 26 "links"=true/\AP 26 "size"=true/\AP 26 "places"=true/\AP 27 "journal"=true/\AP 27 "cache"=true/\AP 27 "super"=true/\AP 27 "table"=true/\AP 29 "number"=true/\AP 29 "data"=true/\AP 29 "holders"=true/\AP 29 "pins"=true/\AP 30 "disk"=true/\AP 30 "most"=true/\AP 30 "size"=true/\AP 30 "row"=true/\AP 30 "by_number"=true/\AP 30 "hits"=true/\AP 30 "reads"=true/\AP 30 "writes"=true/\AP 32 "blocks"=true/\AP 32 "size"=true/\AP 32 "kept"=true/\AP 32 "latest"=true/\AP 32 "unflushed"=true/\AP 32 "writes"=true/\AP 32 "flushes"=true/\AP 32 "last"=true/\AP 32 "last_flush"=true/\AP 32 "is_dead"=true/\AP 38 "cache"=true/\AP 38 "start"=true/\AP 38 "size"=true/\AP 38 "places"=true/\AP 38 "most"=true/\AP 38 "each"=true/\AP 38 "numbers"=true/\AP 38 "noted"=true/\AP 38 "calls"=true/\AP 38 "commits"=true:=by decide+kernel
end
theorem FM {H:Hp}{a:Nat}{x y:O}(h:H[a]? =some y):(H++[x])[a]? =some y:=by
 obtain⟨hl,e⟩:=dt.mp h;rw[lf hl];exact h
theorem N0 {H:Hp}{x:O}:(H++[x])[H.length]? =some x:=qN
theorem Qt {H:Hp}{x y:O}:(H++[x]).set H.length y=H++[y]:=by
 rw[tv _ _ (ix _)];simp
section
variable {a b:Int}{i:Nat}{m:List Int}
theorem WQ:W (Ap "bytearray" [.int a] h) P E=if 0<=a/\a<=1000000 then P (.ref h.length) (h++[.ba (List.replicate a.toNat 0)]) else False:=by
 show W (if 0<=a/\a<=1000000 then .ok (.ref h.length) (h++[.ba (List.replicate a.toNat 0)]) else .stuck) P E=_;split<;>rfl
theorem Wb:W (Ap "bytearray" [] h) P E=P (.ref h.length) (h++[.ba []]):=rfl
theorem XV:W (Ap "bytearray" [.bytes m] h) P E=P (.ref h.length) (h++[.ba m]):=rfl
theorem y_by:W (Ap "bytes" [.int a] h) P E=if 0<=a/\a<=1000000 then P (.bytes (List.replicate a.toNat 0)) h else False:=by
 show W (if 0<=a/\a<=1000000 then .ok (.bytes (List.replicate a.toNat 0)) h else .stuck) P E=_;split<;>rfl
theorem TN:W (Ap "bytes" [.bytes m] h) P E=P (.bytes m) h:=rfl
theorem So (h0:h[i]? =r):W (Ap "bytes" [.ref i] h) P E=WK r (λ_ _=>False) (λl=>match Bt l with|some m=>if m.all A9 then P (.bytes m) h else False|none=>False) (λ_=>False) (λm=>P (.bytes m) h) (λ_=>False):=by
 subst h0;simp only[Ap];cases h[i]? with
 |none=>rfl
 |some o=>
  cases o<;>try rfl
  rename_i l;dsimp only[WK];show W (match Bt l with|some m=>if m.all A9 then .ok (.bytes m) h else .stuck|none=>.stuck) P E=_;cases Bt l with
  |none=>rfl
  |some m=>dsimp only;split<;>rfl
theorem Sg:W (Ap "range" [.int a] h) P E=if a.natAbs<=lid then P (.Ck 0 a) h else False:=by
 show W (if a.natAbs<=lid then .ok (.Ck 0 a) h else .stuck) P E=_;split<;>rfl
theorem P2:W (Ap "range" [.int a,.int b] h) P E=if a.natAbs<=lid/\b.natAbs<=lid then P (.Ck a b) h else False:=by
 show W (if "range"="range"/\a.natAbs<=lid/\b.natAbs<=lid then .ok (.Ck a b) h else .stuck) P E=_;by_cases q:a.natAbs<=lid/\b.natAbs<=lid
 ·rw[UQ q,UQ ⟨rfl,q⟩];rfl
 ·rw[T8 q,T8 (λz=>q z.2)];rfl
theorem P9:W (Ap "list" [.Ck a b] h) P E=if (b-a).toNat<=lid then P (.ref h.length) (h++[.list (Hk a (b-a).toNat)]) else False:=by
 show W (if "list"="list"/\(b-a).toNat<=lid then .ok (.ref h.length) (h++[.list (Hk a (b-a).toNat)]) else .stuck) P E=_;by_cases q:(b-a).toNat<=lid
 ·rw[UQ q,UQ ⟨rfl,q⟩];rfl
 ·rw[T8 q,T8 (λz=>q z.2)];rfl
theorem Tp (h0:h[i]? =r):W (Ap "list" [.ref i] h) P E=WL r (λl=>P (.ref h.length) (h++[.list l])):=by
 subst h0;simp only[Ap];cases h[i]? with
 |none=>rfl
 |some o=>cases o<;>rfl
theorem QE (h0:h[i]? =r):W (Ap "dict" [.ref i] h) P E=WD r (λd=>P (.ref h.length) (h++[.U' d])):=by
 subst h0;simp only[Ap];cases h[i]? with
 |none=>rfl
 |some o=>cases o<;>rfl
theorem Si (h0:h[i]? =r):W (Ap "set" [.ref i] h) P E=WL r (λl=>if l.all isKey&&decide (l.length<=1000) then P (.dX (distinct l)) h else False):=by
 subst h0;simp only[Ap];cases h[i]? with
 |none=>rfl
 |some o=>
  cases o<;>try rfl
  rename_i l;show W (if l.all isKey&&decide (l.length<=1000) then .ok (.dX (distinct l)) h else .stuck) P E=_;dsimp only[WL];split<;>rfl
theorem Te {b:Bool}:W (Ap "int" [.bool b] h) P E=P (.int (if b then 1 else 0)) h:=rfl
theorem Tm:W (Ap "str" [.int a] h) P E=if a.natAbs<1000000000 then P (.str (Str.ofString (toString a))) h else False:=by
 show W (if a.natAbs<1000000000 then .ok (.str (Str.ofString (toString a))) h else .stuck) P E=_;split<;>rfl
end
section
variable {Q:Src->Hp->Prop}{i:Nat}{a b:Int}
def S0 (v:V) (h:Hp) (Q:Src->Hp->Prop):Prop:=WO (srcOf v h) λs=>Q s h
def S1 (v:V) (h:Hp) (Q:Src->Hp->Prop):Prop:=match srcOf v h with|some (.lst a)=>Q (.enm a) h|_=>False
theorem QL:W (E6 K false e cs loc h) Q E=W (AU K e cs loc h) (λv h=>S0 v h Q) E:=UD
theorem Ou:W (E6 K true e cs loc h) Q E=W (AU K e cs loc h) (λv h=>S1 v h Q) E:=UE
theorem Sx:S0 (.Ck a b) h Q=Q (.Ck a b) h:=rfl
theorem TJ (h0:h[i]? =r):S0 (.ref i) h Q=WL r (λ_=>Q (.lst i) h):=by
 subst h0;unfold S0 srcOf;dsimp only;cases h[i]? with
 |none=>rfl
 |some o=>cases o<;>rfl
theorem Sf (h0:h[i]? =r):S1 (.ref i) h Q=WL r (λ_=>Q (.enm i) h):=by
 subst h0;unfold S1 srcOf;dsimp only;cases h[i]? with
 |none=>rfl
 |some o=>cases o<;>rfl
end
variable {A:List V->Loc->Hp->Prop}{Q:Loc×Option V->Hp->Prop}{turn:V->Loc->Hp->Res (Loc×Option V)}
section
variable {c2:List (Str×Nat)}
def Rq (K:AN) (e:IE) (c:Bool) (x:Str) (ts:List IT) (c2:List (Str×Nat)):V->Loc->Hp->Res (Loc×Option V):=λv loc h=>match FU c c2 loc x v h with
 |some (loc,h)=>(Rb K ts c2 loc h).bind λb h=>if b then (AU K e c2 loc h).bind λw h=>.ok (loc,some w) h else .ok (loc,none) h
 |none=>.stuck
theorem Wh {c:Bool}{src:IE}{ts:List IT}:W (AU K (.lc e c x src ts nm) cs loc h) P E=WO (AW nm cs) λc1=>W (AU K src cs loc h) (λv h=>S0 v h λr h=>
  W (BG r (Rq K e c x ts (AH nm c1 h).1) (r.len h+1) 0 [] [] (AH nm c1 h).2) (λl h=>P (.ref h.length) (h++[.list l])) E) E:=by
 simp only[AU];cases AW nm cs with
 |none=>rfl
 |some c1=>
  dsimp only;rw[Ad,DR];congr 1;funext v h;unfold S0;cases srcOf v h with
  |none=>rfl
  |some r=>rw [DR,Ad];rfl
theorem Wi:W (Rq K e false x [] c2 v loc h) Q E=W (AU K e c2 (pt x v loc) h) (λw h=>Q (pt x v loc,some w) h) E:=by
 simp only[Rq,FU,Rb,Ad,FN,qT]
theorem XE:W (Rq K e false x [t] c2 v loc h) Q E=W (itR K t c2 (pt x v loc) h) (λb h=>if b then W (AU K e c2 (pt x v loc) h) (λw h=>Q (pt x v loc,some w) h) E else Q (pt x v loc,none) h) E:=by
 simp only[Rq,FU,Rb,Ad];congr 1;funext b h;cases b
 ·rfl
 ·simp only[FN,qT,Ad]
theorem YS:W (Rq K e true x [] c2 v loc h) Q E=WO (FU true c2 loc x v h) λq=>W (AU K e c2 q.1 q.2) (λw h=>Q (q.1,some w) h) E:=by
 simp only[Rq];cases FU true c2 loc x v h with
 |none=>rfl
 |some q=>simp only[Rb,Ad,FN,qT,DR]
def cp (A:List V->Loc->Hp->Prop) (acc:List V):Loc×Option V->Hp->Prop:=λp h=>match p.2 with
 |some w=>acc.length<lid/\A (acc++[w]) p.1 h
 |none=>A acc p.1 h
theorem Vj {acc:List V}{w:V}:cp A acc (loc,some w) h=(acc.length<lid/\A (acc++[w]) loc h):=rfl
theorem W3 {acc:List V}:cp A acc (loc,none) h=A acc loc h:=rfl
theorem Da {s:Src}{turn:V->Loc->Hp->Res (Loc×Option V)}{Q:List V->Hp->Prop}(I:Nat->List V->Loc->Hp->Prop) (N:Nat)
  (step:∀i acc loc h,i<N->I i acc loc h->∃v,s.next i h=some (some v)/\W (turn v loc h) (cp (I (i+1)) acc) (λ_ _=>False)) (done:∀acc loc h,I N acc loc h->s.next N h=some none/\Q acc h):
  ∀k i acc loc h,N<k+i->i<=N->I i acc loc h->W (BG s turn k i acc loc h) Q E
 |0,i,acc,loc,h,a,b,_=>by omega
 |k+1,i,acc,loc,h,a,b,q=>by
  rw[BG];by_cases hi:i=N
  ·subst hi;obtain⟨e,d⟩:=done acc loc h q;rw[e];exact d
  ·obtain⟨v,e,d⟩:=step i acc loc h ⋯ q;rw[e];dsimp only;cases ht:turn v loc h with
   |ok p h'=>
    rw[ht] at d;obtain⟨l',o⟩:=p;cases o with
    |some w=>
     obtain⟨d1,d2⟩:=d;dsimp only;rw[UQ d1];exact Da I N step done k (i+1) _ l' h' ⋯ ⋯ d2
    |none=>exact Da I N step done k (i+1) _ l' h' ⋯ ⋯ d
   |exc c h'=>rw [ht] at d;exact d.elim
   |stuck=>rw [ht] at d;exact d.elim
end
end Fsx
namespace Fsx
open PySem
local macro_rules |`(⋯)=>`(by first|decide+kernel|omega)
local macro_rules | `(tactic| simp! only [$as,*]) => `(tactic| simp only [↓He,↓RE,↓Wv,↓V8,↓WY,↓WE,↓W6,↓Vh,↓XS,↓Wd,↓Yp,↓bM,↓bT,↓aP,↓W8,↓aD,↓TL,↓RQ,↓VU,↓W4,↓SY,↓Zd,↓Ta,↓Sm,↓Wc,↓Xm,↓Zm,↓Yr,↓Wj,↓XR,↓VW,↓T5,↓Va,↓MR,↓TR,↓w_and,↓w_or,↓V1,↓Vq,↓XB,↓Ws,↓XQ,↓WP,↓Wo,↓Wu,↓XW,↓VX,↓TW,↓O7,↓FN,↓Se,↓DR,↓Au,↓Nv,↓Nt,↓QX,↓NQ,↓VJ,↓XN,↓Vc,↓Vr,↓V2,↓Vu,↓Xf,↓XX,↓V5,↓Wy,↓W7,↓TT,↓Pd,↓Vx,↓Sa,↓RO,↓RM,↓Sz,↓TP,↓TS,↓RJ,↓QK,↓Pq,↓VS,↓WB,↓XY,↓Tc,↓TG,↓Sk,↓Tb,↓TQ,↓TY,↓Sr,↓Qz,↓Qg,↓PC,↓Pk,↓Vt,↓V0,↓Wn,↓Wm,↓Wl,↓Vd,↓SZ,↓Tj,↓Sc,↓Sw,↓PA,↓QH,↓Ol,↓PN,↓TX,↓Pe,↓Tg,↓Pu,↓TA,↓Qe,↓Sn,↓TH,↓TF,↓Sl,↓Tf,↓Xa,↓Th,↓Sv,↓Sj,↓Ss,↓Td,↓Pf,↓Pp,↓Ps,↓PV,↓To,↓Sd,↓PB,↓PW,↓WQ,↓Wb,↓XV,↓y_by,↓TN,↓So,↓Sg,↓P2,↓P9,↓Tp,↓QE,↓Si,↓Te,↓Tm,↓Vi,↓QL,↓Ou,↓Sx,↓TJ,↓Sf,Hd,Src.len,↓Ph,↓NH,↓Pz,↓P8,↓Wh,↓Wi,↓XE,↓Vj,↓W3,AW,AH,↓ZS,↓bX,↓Zj,↓cX,↓Zs,↓Z4,↓bv,↓Ze,↓bE,↓Yt,↓Zq,↓Zy,↓ZZ,↓be,↓aV,↓cg,↓cY,↓ax,↓aK,↓cR,↓XK,↓Wk,↓Vl,↓Vb,↓aX,↓ZJ,↓ak,↓Zc,↓bF,↓cN,↓cU,↓bz,↓Zt,↓an,↓bO,↓Z5,↓Zr,↓ZT,↓Z8,↓bJ,↓aN,↓ZX,↓ZN,↓aw,↓Zg,↓bQ,↓Y4,↓Zl,↓ZP,↓cI,↓Y5,↓ZG,↓bV,↓aE,↓Zk,↓Y6,↓Yx,↓ZH,↓Y8,↓Yy,↓aG,↓aO,↓Zb,↓cP,↓cJ,↓Z3,↓bZ,↓bR,↓cB,↓ac,↓aU,↓aH,↓ZD,↓ZL,↓bK,↓Za,↓Z2,↓bP,↓cQ,↓Zx,↓aj,↓aF,↓aA,↓b9,↓Y9,↓cW,↓bI,↓aJ,↓Z9,↓Zh,↓ZA,↓Zz,↓bW,↓cZ,↓ar,↓Y0,↓Yz,↓Zu,↓ZK,↓Zp,↓ZB,↓bA,↓ZO,↓aM,↓aC,↓Zn,↓ZV,↓Zo,↓ZF,↓aW,↓bU,↓Z0,↓aq,↓Y1,↓m0,↓m1,↓m2,↓m3,↓m4,↓m5,↓m6,↓m7,↓m8,↓m9,↓Yw,↓ZI,↓Y2,↓ZE,↓Zi,↓bY,↓bG,↓aR,↓bD,↓cF,↓ZR,↓cL,↓Ys,↓Yq,↓Y7,↓az,↓Y3,↓Zf,↓ch,↓bB,↓Z1,↓ZC,↓ay,↓aQ,↓ZW,↓aS,↓ZU,↓bw,↓bf,↓bq,↓av,↓bj,↓ZM,↓cK,↓ZY,↓cV,↓aZ,↓bN,↓aL,↓aa,↓bp,↓ah,↓ZQ,↓ce,↓aI,↓bt,↓bS,↓Yv,↓aY,↓am,↓bu,↓cO,↓Yu,↓Zv,↓aT,↓bh,↓aB,↓Z6,↓cM,↓Zw,↓bL,↓cD,↓Z7,ofString_eq,String.reduceEq,↓reduceIte,jp,Bool.true_eq_false,ip,mI,tI,qm,t4,not_true_eq_false,not_false_eq_true,reduceCtorEq,Int.reduceLT,Int.reduceLE,Nat.reduceLT,Nat.reduceAdd,Nat.reduceLeDiff,Int.reduceNeg,and_self,or_true,true_or,$as,*])
def Cc (l:List Int):Prop:=∀x∈l,0<=x/\x<256
def hv (l:List Int) (i:Nat):Int:=l.getD i 0+256*l.getD (i+1) 0
def wv (l:List Int) (i:Nat):Int:=hv l i+65536*hv l (i+2)
def ph (l:List Int) (i:Nat) (v:Int):List Int:=(l.set i (v%256)).set (i+1) (v / 256%256)
def pw (l:List Int) (i:Nat) (v:Int):List Int:=ph (ph l i (v%65536)) (i+2) (v / 65536%65536)
variable {l:List Int}
theorem Cc.get (o:Cc l) (i:Nat):0<=l.getD i 0/\l.getD i 0<256:=by
 rw[fp];cases h:l[i]? with
 |none=>simp
 |some x=>exact o x (mn h)
theorem Cc.hv {l:List Int}(o:Cc l) (i:Nat):0<=hv l i/\hv l i<65536:=by
 have:=o.get i;have:=o.get (i+1);unfold Fsx.hv;omega
theorem Un (a b:Nat) (k:Nat) (h:a<2^k):a|||b*2^k=a+b*2^k:=by
 rw[Nat.or_comm,Nat.mul_comm,←Nat.two_pow_add_eq_or_of_lt h,tW]
theorem No {a b:Int}{k:Nat}(ha:0<=a) (ha':a<2^k) (hb:0<=b):binI .BitOr a (b*2^k)=some (.int (a+b*2^k)):=by
 have h2:(0:Int)<=b*2^k:=Int.mul_nonneg hb (Int.pow_nonneg ⋯);show EF (· ||| ·) a (b*2^k)=_;unfold EF;rw[UQ ⟨ha,h2⟩]
 congr 2
 obtain⟨n,rfl⟩:=mi ha;obtain⟨m,rfl⟩:=mi hb;have e:((m:Int)*2^k).toNat=m*2^k:=by
  rw[show (m:Int)*2^k=((m*2^k:Nat):Int) by push_cast;rfl,eD]
 have hn:n<2^k:=by exact_mod_cast ha'
 rw[e,eD];show ((n|||m*2^k:Nat):Int)=_;rw[Un n m k hn]
 push_cast;rfl
theorem Dm {a:Int}(k:Nat) (ha:0<=a):binI .BitAnd a (2^k-1)=some (.int (a%2^k)):=by
 have h1:(0:Int)<=2^k-1:=by have:=Int.pow_pos (n:=2) (m:=k) ⋯;omega
 show EF (· &&& ·) a (2^k-1)=_;unfold EF;rw[UQ ⟨ha,h1⟩]
 congr 2
 obtain⟨n,rfl⟩:=mi ha;have hp:=sA k;have e:((2:Int)^k-1).toNat=2^k-1:=by
  rw[show (2:Int)^k-1=((2^k-1:Nat):Int) by rw[Int.ofNat_sub hp];push_cast;rfl,eD]
 rw[e,eD];show ((n&&&(2^k-1):Nat):Int)=_;rw[Nat.and_two_pow_sub_one_eq_mod]
 push_cast;rfl
theorem H6 {a:Int}(k:Nat) (hk:k<64) (ha:0<=a) (ha':a<1099511627776):binI .LShift a k=some (.int (a*2^k)):=by
 show (if 0<=(k:Int)/\(k:Int)<64/\0<=a/\a<1099511627776 then some (V.int (a*2^(k:Int).toNat)) else none)=_;rw[UQ ⟨by omega,by omega,ha,ha'⟩,eD]
theorem Fy {a:Int}(k:Nat) (hk:k<64) (ha:0<=a):binI .RShift a k=some (.int (a / 2^k)):=by
 show (if 0<=(k:Int)/\(k:Int)<64/\0<=a then some (V.int (a / 2^(k:Int).toNat)) else none)=_;rw[UQ ⟨by omega,by omega,ha⟩,eD]
variable {H:Hp}
theorem DA {α:Type}{r:Res α}{x:α}(w:W r (λv h=>v=x/\h=H) (λ_ _=>False)):r= .ok x H:=by
 obtain⟨a,h,rfl,rfl,rfl⟩:=Nn w;rfl
variable {i:Nat}
theorem PH (h:i<l.length):l[i]? =some (l.getD i 0):=by
 rw[fp,d6 h];rfl
def UG (o:V) (l:List Int) (H:Hp):Prop:=(o= .bytes l/\True)∨∃a,o= .ref a/\H[a]? =some (.ba l)
theorem SN {o:V}(q:UG o l H) (hi:i<l.length):BM o (.int i) H=some (.int (l.getD i 0)):=by
 rcases q with ⟨rfl,_⟩|⟨a,rfl,h⟩
 ·show (if 0<=(i:Int) then (l[(i:Int).toNat]?).map V.int else none)=_;rw[UQ ⋯,eD,PH hi];rfl
 ·show (match H[a]?,V.int (i:Int) with|some (.list l),.int k=>if 0<=k then l[k.toNat]? else none|some (.ba l),.int k=>if 0<=k then (l[k.toNat]?).map .int else none|some (.dO d),.str k=>lk k d|_,_=>none)=_;rw[h];dsimp only;rw[UQ ⋯,eD,PH hi];rfl
variable {n:Nat}
theorem DP {o:V}(q:UG o l H) (ol:Cc l) (hi:i+1<l.length):call (n+1) (.fn 19 0) [o,.int i] H= .ok (.int (hv l i)) H:=by
 refine DA ?_;rw[AV [("octets",o),("at",.int i)] rfl rfl rfl rfl rfl];have h0:=SN q (i:=i) ⋯;have h1:BM o (.int ((i:Int)+1)) H=some (.int (l.getD (i+1) 0)):=by exact_mod_cast SN q (i:=i+1) hi
 have g0:=ol.get i;have g1:=ol.get (i+1);have e1:binI .LShift (l.getD (i+1) 0) 8=some (.int (l.getD (i+1) 0*2^8)):=H6 8 ⋯ g1.1 ⋯;have e2:=No (k:=8) (a:=l.getD i 0) (b:=l.getD (i+1) 0) g0.1 ⋯ g1.1;simp! only[h0,h1,e1,e2];refine⟨?_,trivial⟩;unfold hv;congr 1;omega
theorem Er {o:V}(q:UG o l H) (ol:Cc l) (hi:i+3<l.length):call (n+2) (.fn 20 0) [o,.int i] H= .ok (.int (wv l i)) H:=by
 refine DA ?_;rw[AV [("octets",o),("at",.int i)] rfl rfl rfl rfl rfl];have h0:=DP (n:=n) q ol (i:=i) ⋯;have h1:call (n+1) (.fn 19 0) [o,.int ((i:Int)+2)] H= .ok (.int (hv l (i+2))) H:=by exact_mod_cast DP (n:=n) q ol (i:=i+2) ⋯
 have g0:=ol.hv i;have g1:=ol.hv (i+2);have e1:binI .LShift (hv l (i+2)) 16=some (.int (hv l (i+2)*2^16)):=H6 16 ⋯ g1.1 ⋯;have e2:=No (k:=16) (a:=hv l i) (b:=hv l (i+2)) g0.1 ⋯ g1.1;simp! only[h0,h1,e1,e2];refine⟨?_,trivial⟩;unfold wv;congr 1;omega
variable {a:Nat}
theorem SU {x y:O}(h:H[a]? =some y):(H.set a x)[a]? =some x:=by
 obtain⟨hl,_⟩:=dt.mp h;rw[mv hl]
theorem R7 {b:Nat}{x:O}(h:a≠b):(H.set a x)[b]? =H[b]? :=by rw[qK h]
theorem IB (v:Int):A9 (v%256)=true:=by
 unfold A9
 have:=Int.emod_nonneg v (show (256:Int)≠0 by decide)
 have:=Int.emod_lt_of_pos v (show (0:Int)<256 by decide)
 simp;omega
variable {v:Int}
theorem Dk (h:H[a]? =some (.ba l)) (hi:i+1<l.length) (hv:0<=v):call (n+1) (.fn 21 0) [.ref a,.int i,.int v] H= .ok .none (H.set a (.ba (ph l i v))):=by
 refine DA ?_;rw[AV [("octets",.ref a),("at",.int i),("value",.int v)] rfl rfl rfl rfl rfl];have e1:binI .BitAnd v 255=some (.int (v%256)):=Dm 8 hv;have e2:binI .RShift v 8=some (.int (v / 256)):=Fy 8 ⋯ hv;have e3:binI .BitAnd (v / 256) 255=some (.int (v / 256%256)):=Dm 8 ⋯;have t1:((i:Int)+1).toNat=i+1:=by omega
 have c1:(0<=(i:Int)/\i<l.length/\A9 (v%256)=true)=True:=uD ⟨by omega,by omega,IB v⟩;have c2:(0<=(i:Int)+1/\i+1<l.length/\A9 (v / 256%256)=true)=True:=uD ⟨by omega,by omega,IB _⟩;simp! only[h,e1,e2,e3,c1,c2,t1,eD,SU h,nw,tX];exact⟨trivial,rfl⟩
theorem Av:(ph l i v).length=l.length:=by unfold ph;simp
theorem BI:(pw l i v).length=l.length:=by unfold pw;rw[Av,Av]
theorem Dl (h:H[a]? =some (.ba l)) (hi:i+3<l.length) (hv:0<=v):call (n+2) (.fn 22 0) [.ref a,.int i,.int v] H= .ok .none (H.set a (.ba (pw l i v))):=by
 refine DA ?_;rw[AV [("octets",.ref a),("at",.int i),("value",.int v)] rfl rfl rfl rfl rfl];have e1:binI .BitAnd v 65535=some (.int (v%65536)):=Dm 16 hv;have e2:binI .RShift v 16=some (.int (v / 65536)):=Fy 16 ⋯ hv;have e3:binI .BitAnd (v / 65536) 65535=some (.int (v / 65536%65536)):=Dm 16 ⋯;have p1:=Dk (n:=n) (i:=i) (v:=v%65536) h ⋯ ⋯;have p2:call (n+1) (.fn 21 0) [.ref a,.int ((i:Int)+2),.int (v / 65536%65536)] (H.set a (.ba (ph l i (v%65536))))= .ok .none ((H.set a (.ba (ph l i (v%65536)))).set a (.ba (pw l i v))):=by
  rw[show ((i:Int)+2)=((i+2:Nat):Int) by omega];exact Dk (SU h) (by rw[Av];omega) ⋯
 simp! only[e1,e2,e3,p1,p2,tX]
theorem Hl {a b:Int}(hb:0<b) (hb':b<1073741824):call (n+1) (.fn 23 0) [.int a,.int b] H= .ok (.int ((a+b-1) / b)) H:=by
 refine DA ?_;rw[AV [("count",.int a),("size",.int b)] rfl rfl rfl rfl rfl];simp! only[hb,hb']
theorem Fu {j:Nat}(h:i<l.length):(l.set i v).getD j 0=if i=j then v else l.getD j 0:=by
 rw[fp,fp,List.getElem?_set];split
 ·subst_vars;simp [h]
 ·rfl
theorem Dy {j:Nat}(h:i+1<l.length):(ph l i v).getD j 0=if j=i then v%256 else if j=i+1 then v / 256%256 else l.getD j 0:=by
 unfold ph;rw[Fu (by simpa using h),Fu ⋯];split<;>split<;>(try split)<;>first|rfl|omega
theorem Xb {j:Nat}(h:i+1<l.length) (h0:0<=v) (h1:v<65536):hv (ph l i v) j=if j=i then v else if j+1=i∨j=i+1 then hv (ph l i v) j else hv l j:=by
 split
 ·subst_vars;unfold hv;rw[Dy h,Dy h,UQ rfl,T8 ⋯,UQ rfl];omega
 ·split
  ·rfl
  ·unfold hv;rw[Dy h,Dy h,T8 ⋯,T8 ⋯,T8 ⋯,T8 ⋯]
theorem Cc.ph {l:List Int}(o:Cc l) (i:Nat) (v:Int):Cc (ph l i v):=by
 have s:∀{l:List Int} (o:Cc l) (i:Nat) (v:Int),0<=v->v<256->Cc (l.set i v):=λo i v a b x hx=>by
  rcases sf hx with h|h
  ·exact o x h
  ·subst h;exact⟨a,b⟩
 exact s (s o i _ ⋯ ⋯) _ _ ⋯ ⋯
theorem Cc.pw {l:List Int}(o:Cc l) (i:Nat) (v:Int):Cc (pw l i v):=(o.ph i _).ph _ _
theorem Su (h:i+3<l.length) (h0:0<=v) (h1:v<4294967296):wv (pw l i v) i=v:=by
 have e:∀j,(pw l i v).getD j 0=if j=i+2 then v / 65536%65536%256 else if j=i+3 then v / 65536%65536 / 256%256 else if j=i then v%65536%256 else if j=i+1 then v%65536 / 256%256 else l.getD j 0:=λj=>by
  unfold pw;rw[Dy (by rw[Av];omega),Dy ⋯]
 unfold wv hv;rw[e,e,e,e,T8 ⋯,T8 ⋯,UQ rfl,T8 ⋯,T8 ⋯,T8 ⋯,UQ rfl,UQ rfl,T8 ⋯,UQ rfl];omega
theorem GY {j:Nat}(h:i+3<l.length) (hj:j<i∨i+4<=j):(pw l i v).getD j 0=l.getD j 0:=by
 unfold pw;rw[Dy (by rw[Av];omega),Dy ⋯,T8 ⋯,T8 ⋯,T8 ⋯,T8 ⋯]
theorem NT {j:Nat}(h:i+1<l.length) (hj:j<i∨i+2<=j):(ph l i v).getD j 0=l.getD j 0:=by
 rw[Dy h,T8 ⋯,T8 ⋯]
def Hu (d:Int):Int:=12+4*(d+1)
def P0 (b ino lg d:Int):Int:=2+lg+(ino+b / Hu d-1) / (b / Hu d)
def NM (b bl ino lg d:Int):Int:=P0 b ino lg d+(bl+8*b-1) / (8*b)
def RY (b bl ino lg d:Int):Prop:=(¬(d<1)/\¬(b<Hu d)/\¬(b<36))/\b%16=0/\(¬(ino<2)/\¬(lg<2)/\¬(bl<1))/\¬(bl<=NM b bl ino lg d)
def SO (b bl ino lg d:Int):O:=.inst 24 (SF (.int b) (.int bl) (.int ino) (.int lg) (.int d) (.int (Hu d)) (.int (b / Hu d)) (.int (b / 4)) (.int 2) (.int (2+lg)) (.int (P0 b ino lg d)) (.int (NM b bl ino lg d)))
theorem Xu:((0:Nat)<100)=True:=by decide
variable {Q:V->Hp->Prop}
theorem C5 {b bl ino lg d:Int}{E:PE}(h:H[a]? =some (.inst 24 [])) (hd:d.natAbs<1000000) (hb:b.natAbs<1000000) (q:RY b bl ino lg d->Q .none (H.set a (SO b bl ino lg d))) (e:¬RY b bl ino lg d->∀o,E 3 (H.set a o)):W (call (n+2) (.fn 24 0) [.ref a,.int b,.int bl,.int ino,.int lg,.int d] H) Q E:=by
 have hself:H.set a (.inst 24 [])=H:=by
  obtain⟨hl,e⟩:=dt.mp h;rw[←e];exact rW hl
 have e0:¬RY b bl ino lg d->E 3 H:=λz=>by have:=e z (.inst 24 []);rwa [hself] at this
 rw[AV [("self",.ref a),("block",.int b),("blocks",.int bl),("inodes",.int ino),("log",.int lg),("direct",.int d)] rfl rfl rfl rfl rfl];by_cases c1:d<1
 ·simp! only[c1];exact e0 λz=>z.1.1 c1
 by_cases c2:b<12+4*(d+1)
 ·simp! only[c1,c2];exact e0 λz=>z.1.2.1 c2
 by_cases c3:b<4*9
 ·simp! only[c1,c2,c3];exact e0 λz=>z.1.2.2 ⋯
 by_cases c4:b%16=0
 rotate_left
 ·simp! only[c1,c2,c3,c4];exact e0 λz=>c4 z.2.1
 by_cases c5:ino<2
 ·simp! only[c1,c2,c3,c4,c5];exact e0 λz=>z.2.2.1.1 c5
 by_cases c6:lg<2
 ·simp! only[c1,c2,c3,c4,c5,c6];exact e0 λz=>z.2.2.1.2.1 c6
 by_cases c7:bl<1
 ·simp! only[c1,c2,c3,c4,c5,c6,c7];exact e0 λz=>z.2.2.1.2.2 c7
 have rp:(0:Int)<12+4*(d+1):=by omega
 have rq:(12+4*(d+1):Int)<1073741824:=by omega
 have r0:0<b / (12+4*(d+1)):=by
  have:=Int.ediv_le_ediv rp (show 12+4*(d+1)<=b by omega)
  rw[Int.ediv_self ⋯] at this;omega
 have r1:b / (12+4*(d+1))<1073741824:=by
  have:=Int.ediv_le_self (12+4*(d+1)) (show 0<=b by omega)
  omega
 have b1:(0:Int)<8*b:=by omega
 have b2:(8*b:Int)<1073741824:=by omega
 have u1:=λH=>Hl (n:=n) (H:=H) (a:=ino) r0 r1;have u2:=λH=>Hl (n:=n) (H:=H) (a:=bl) b1 b2;simp! only[c1,c2,c3,c4,c5,c6,c7,h,SU h,tX,↓CC,lk,fx,ew,Kh,Ti,KX,rp,rq,u1,u2,eq_self,pt];split
 ·rename_i z;exact e (λw=>w.2.2.2 z) _
 ·rename_i z;exact q ⟨⟨c1,c2,by omega⟩,c4,⟨c5,c6,c7⟩,z⟩
def SP (sp:Int):O:=SO 48 (14+sp) 4 9 2
theorem Tl (sp:Int) (h:2<=sp) (h':sp<=13):SP sp= .inst 24 (SF (.int 48) (.int (14+sp)) (.int 4) (.int 9) (.int 2) (.int 24) (.int 2) (.int 12) (.int 2) (.int 11) (.int 13) (.int 14)):=by
 unfold SP SO;have e1:Hu 2=24:=by decide
 have e2:P0 48 4 9 2=13:=by decide
 have e3:NM 48 (14+sp) 4 9 2=14:=by unfold NM;rw[e2];omega
 rw[e1,e2,e3];rfl
theorem Pj {s:Nat}{b bm:Int}{x1 x2 x3 x4 x5 x6 x7 x8 x9 gD:V}{k:Nat}(h:H[s]? =some (.inst 24 (SF (.int b) x1 x2 x3 x4 x5 x6 x7 x8 x9 (.int bm) gD))) (hb:0<b) (hb':b<1073741824):
  call (n+1) (.fn 24 6) [.ref s,.int k] H= .ok (.tup [.int (bm+(k / 8:Nat) / b),.int ((k / 8:Nat)%b),.int (2^(k%8):Nat)]) H:=by
 refine DA ?_;rw[AV [("self",.ref s),("number",.int k)] rfl rfl rfl rfl rfl];have e1:binI .RShift (k:Int) 3=some (.int ((k / 8:Nat):Int)):=Fy 3 ⋯ ⋯;have e2:binI .BitAnd (k:Int) 7=some (.int ((k%8:Nat):Int)):=Dm 3 ⋯;have e3:binI .LShift 1 ((k%8:Nat):Int)=some (.int ((2^(k%8):Nat):Int)):=by
  have:=H6 (a:=1) (k%8) ⋯ ⋯ ⋯
  rw[this];congr 2;push_cast;omega
 simp! only[h,hb,hb',e1,e2,e3,KX,Ti]
variable {k:Int}
theorem QR {s:Nat}{r rs i:Int}{x0 x1 x2 x3 x4 x7 x8 iM gD:V}(h:H[s]? =some (.inst 24 (SF x0 x1 x2 x3 x4 (.int r) (.int rs) x7 x8 (.int i) iM gD))) (hr:0<rs) (hr':rs<1073741824) (hr2: -1000000000000<r/\r<1000000000000):
  call (n+1) (.fn 24 5) [.ref s,.int k] H= .ok (.tup [.int (i+k / rs),.int (k%rs*r)]) H:=by
 refine DA ?_;rw[AV [("self",.ref s),("number",.int k)] rfl rfl rfl rfl rfl];simp! only[h,hr,hr',hr2,KX,Ti]
theorem EQ {s:Nat}{d i:Int}{x0 x1 x2 x3 x5 x6 x8 x9 iM gD:V}(h:H[s]? =some (.inst 24 (SF x0 x1 x2 x3 (.int d) x5 x6 (.int i) x8 x9 iM gD))):
  call (n+1) (.fn 24 1) [.ref s] H= .ok (.int (d+i)) H:=by
 refine DA ?_;rw[AV [("self",.ref s)] rfl rfl rfl rfl rfl];simp! only[h]
theorem Qa {x y z:O}:(H++[x]++[z]).set H.length y=H++[y]++[z]:=by
 rw[t6 _ _ (by simp),Qt]
theorem AK {x:Str}{loc:Loc}{v:V}{Q:V->Prop}(e:lk x loc=some v):WO (lk x loc) Q=Q v:=by rw[e];rfl
theorem NU {s:Nat}{ino lg ls is bs d:V}{x0 x5 x6 x7:V}{b' d':Int}(h:H[s]? =some (.inst 24 (SF x0 (.int b') ino lg d x5 x6 x7 ls is bs (.int d')))):
  call (n+1) (.fn 24 3) [.ref s] H= .ok (.ref H.length) (H++[.list [.int 270544960,.int b',.int (b'-d'),ino,lg,ls,is,bs,d]]):=by
 refine DA ?_;rw[AV [("self",.ref s)] rfl rfl rfl rfl rfl];simp! only[h,KX,Ti]
def Jm:List Int->Nat->List Int->List Int
 |[],_,l=>l
 |w::r,i,l=>Jm r (i+4) (pw l i w)
theorem Jw:∀{ws:List Int}{i:Nat}{l:List Int},(Jm ws i l).length=l.length
 |[],_,_=>rfl
 |w::r,i,l=>by rw[Jm,Jw,BI]
theorem Cc.Jm:∀{ws:List Int}{i:Nat}{l:List Int},Cc l->Cc (Jm ws i l)
 |[],_,_,o=>o
 |w::r,i,l,o=>Cc.Jm (ws:=r) (o.pw i w)
theorem Cc.zeros (n:Nat):Cc (List.replicate n 0):=λx hx=>by rw[tC hx];omega
theorem Lj:∀{ws:List Int}{i k:Nat}{l:List Int},k<ws.length->Jm (ws.take (k+1)) i l=pw (Jm (ws.take k) i l) (i+4*k) (ws.getD k 0)
 |w::r,i,0,l,_=>by simp [Jm]
 |w::r,i,k+1,l,h=>by
  rw[qL,Jm,Lj (by simpa using h),qL,Jm];rw[show i+4+4*k=i+4*(k+1) by omega];rfl
theorem GI {s:Nat}{ino lg ls is bs d b' d' b:Int}{x5 x6 x7:V}{E:PE}(h:H[s]? =some (.inst 24 (SF (.int b) (.int b') (.int ino) (.int lg) (.int d) x5 x6 x7 (.int ls) (.int is) (.int bs) (.int d')))) (hb:36<=b) (hb':b<=1000000) (hw:∀x∈[270544960,b',b'-d',ino,lg,ls,is,bs,d],0<=x/\x<4294967296) (q:∀o o',Q (.bytes (Jm [270544960,b',b'-d',ino,lg,ls,is,bs,d] 0 (List.replicate b.toNat 0))) (H++[o]++[o'])):
  W (call (n+3) (.fn 24 4) [.ref s] H) Q E:=by
 rw[AV [("self",.ref s)] rfl rfl rfl rfl rfl];have w:=NU (n:=n+1) (FM (x:=.ba (List.replicate b.toNat 0)) h);refine seq λA hA=>?_;have b0:0<=b:=by omega
 simp! only[h,b0,hb'];apply hA;refine seq λA hA=>?_;simp! only[FM h,w,N0];refine CH (λi loc h=>lk "found" loc=some (.ref H.length)/\h=H++[.ba (Jm (([270544960,b',b'-d',ino,lg,ls,is,bs,d]:List Int).take i) 0 (List.replicate b.toNat 0))]++[.list [.int 270544960,.int b',.int (b'-d'),.int ino,.int lg,.int ls,.int is,.int bs,.int d]]) 9 ?_ ?_ _ 0 _ _ (qP 9) (el 9) ⟨by simp only[AD,qT],rfl⟩
 ·rintro i loc h hi ⟨hl,rfl⟩;obtain⟨w,hw1,kU⟩:∃w,([270544960,b',b'-d',ino,lg,ls,is,bs,d]:List Int)[i]? =some w/\([V.int 270544960,.int b',.int (b'-d'),.int ino,.int lg,.int ls,.int is,.int bs,.int d]:List V)[i]? =some (.int w):=by
   rcases i with _|_|_|_|_|_|_|_|_|i
   all_goals first|exact ⟨_,rfl,rfl⟩|omega
  refine⟨.tup [.int i,.int w],?_,?_⟩
  ·simp only[Src.next];rw[show (H++[O.ba (List.replicate b.toNat 0)]).length=(H++[O.ba (Jm (([270544960,b',b'-d',ino,lg,ls,is,bs,d]:List Int).take i) 0 (List.replicate b.toNat 0))]).length by simp,N0];dsimp only;rw[kU];rfl
  ·have kW:=hw w (mn hw1);have p:=Dl (n:=n) (i:=4*i) (v:=w) (H:=H++[.ba (Jm (([270544960,b',b'-d',ino,lg,ls,is,bs,d]:List Int).take i) 0 (List.replicate b.toNat 0))]++[.list [.int 270544960,.int b',.int (b'-d'),.int ino,.int lg,.int ls,.int is,.int bs,.int d]]) (FM N0) (by rw[Jw,lL];omega) kW.1;rw[show ((4*i:Nat):Int)=4*(i:Int) by omega,Qa] at p;simp! only[↓AK hl,p,KX,Ti,AD];refine⟨hl,?_⟩;rw[Lj hi,tY]
   have:w=([270544960,b',b'-d',ino,lg,ls,is,bs,d]:List Int).getD i 0:=by rw[fp,hw1];rfl
   rw[this]
 ·rintro loc h ⟨hl,rfl⟩;refine⟨?_,?_⟩
  ·simp only[Src.next];rw[show (H++[O.ba (List.replicate b.toNat 0)]).length=(H++[O.ba (Jm (([270544960,b',b'-d',ino,lg,ls,is,bs,d]:List Int).take 9) 0 (List.replicate b.toNat 0))]).length by simp,N0];rfl
  ·rw[Au];apply hA;simp! only[↓AK hl,FM (N0 (H:=H)),KX,Ti];exact q _ _
theorem CD {K:AN}{cs:List (Str×Nat)}{loc:Loc}{h:Hp}{S:Fl->Loc->Hp->Prop}{SE:Nat->Loc->Hp->Prop}{a r:List IS}(q:∀A:Loc->Hp->Prop,(∀l h,WS (A8 K cs r l h) S SE->A l h)->WS (A8 K cs a loc h) (R5 A S) SE):WS (A8 K cs (a++r) loc h) S SE:=by
 have key:∀(a:List IS) loc h,WS (A8 K cs (a++r) loc h) S SE=WS (A8 K cs a loc h) (R5 (λl h=>WS (A8 K cs r l h) S SE) S) SE:=by
  intro a
  induction a with
  |nil=>intro loc h;rw[RE];rfl
  |cons s a ih=>
   intro loc h;rw[oP,He,He]
   congr 1;funext f l h
   cases f<;>first|exact ih l h|rfl
 rw[key];exact q _ λ_ _ x=>x
abbrev HL:=List (Nat×O)
section
variable {L M:HL}{x y:O}
theorem BB.get (o:BB H L) (m:(a,x)∈L):H[a]? =some x:=o.2 _ m
theorem BB.at (o:BB H L) (k:Nat) (e:L[k]? =some (a,x)):H[a]? =some x:=o.2 _ (mn e)
theorem BB.perm (o:BB H L) (p:L.Perm M):BB H M:=⟨(p.map _).nodup_iff.mp o.1,λq hq=>o.2 q (p.mem_iff.mpr hq)⟩
theorem BB.Yn (o:BB H ((a,x)::L)) (y:O):BB (H.set a y) ((a,y)::L):=by
 refine⟨o.1,λp hp=>?_⟩;rcases fg.mp hp with rfl|hp
 ·exact SU (o.2 _ (.head _))
 ·have h1:=(gl.mp o.1).1;rw[R7 (λe=>h1 (eJ.mpr ⟨p,hp,e.symm⟩))];exact o.2 p (.tail _ hp)
theorem BB.set (o:BB H L) (k:Nat) (e:L[k]? =some (a,x)) (y:O):BB (H.set a y) (L.set k (a,y)):=by
 obtain⟨hk,e'⟩:=dt.mp e;have e1:L=L.take k++(a,x)::L.drop (k+1):=by rw[←e',qh,mx]
 rw[show L.set k (a,y)=L.take k++(a,y)::L.drop (k+1) by rw[List.set_eq_take_append_cons_drop,UQ hk]];rw[e1] at o;exact ((o.perm og).Yn y).perm og.symm
theorem BB.new (o:BB H L) (x:O):BB (H++[x]) ((H.length,x)::L):=by
 refine⟨gl.mpr ⟨λh=>?_,o.1⟩,λp hp=>?_⟩
 ·obtain⟨p,hp,e⟩:=eJ.mp h
  have:=o.2 p hp
  rw[e,fA (ix _)] at this;cases this
 ·rcases fg.mp hp with rfl|hp
  ·exact N0
  ·exact FM (o.2 p hp)
theorem BB.Qq (o:BB H L) (x:O):BB (H++[x]) L:=⟨(o.new x).1.of_cons,λp hp=>(o.new x).2 p (.tail _ hp)⟩
theorem BB.drop {p:Nat×O}(o:BB H (p::L)):BB H L:=⟨o.1.of_cons,λq hq=>o.2 q (.tail _ hq)⟩
end
theorem Dc {l:List V}(h:H[a]? =some (.list l)):(Src.lst a).next i H=some l[i]? :=by simp only[Src.next,h]
theorem HC {l:List V}(h:H[a]? =some (.list l)):(Src.enm a).next i H=some ((l[i]?).map λv=>.tup [.int i,v]):=by simp only[Src.next,h]
section
variable {α β:Type}
theorem Nh {f:α->β}{k:Int}:∀{l:List (Int×α)},Bm k (l.map λp=>(p.1,f p.2))=(Bm k l).map f
 |[]=>rfl
 |(j,v)::r=>by
  rw[ij,Bm,Bm,Nh (l:=r)];split<;>rfl
theorem L4 {f:α->β}{k:Int}{v:α}:∀{l:List (Int×α)},Ar k (f v) (l.map λp=>(p.1,f p.2))=(Ar k v l).map λp=>(p.1,f p.2)
 |[]=>rfl
 |(j,w)::r=>by
  rw[ij,Ar,Ar];dsimp only;rw[L4 (l:=r)];split<;>rfl
theorem Bk {k j:Int}{v:α}:∀{l:List (Int×α)},Bm j (Ar k v l)=if j=k then some v else Bm j l
 |[]=>by
  simp only[Ar,Bm];split<;>split<;>first|rfl|omega
 |(i,w)::r=>by
  rw[Ar];split
  ·rw[Bm,Bm];subst_vars;by_cases h:i=j
   ·rw[UQ h,UQ h.symm]
   ·rw[T8 h,T8 (λe=>h e.symm),T8 h]
  ·rw[Bm,Bm,Bk (l:=r)];split<;>split<;>first|rfl|omega
end
abbrev BL:=List (Int×List Int)
def dm (L:BL):List (Int×V):=L.map λp=>(p.1,.bytes p.2)
def um (L:BL):List V:=L.map λp=>.tup [.int p.1,.bytes p.2]
variable {L:BL}
theorem P6:(dm L).length=L.length:=eP ..
theorem Pc:(um L).length=L.length:=eP ..
variable {x:List Int}
theorem Pv:Ar k (.bytes x) (dm L)=dm (Ar k x L):=L4 (f:=V.bytes)
theorem XL:Bm k (dm L)=(Bm k L).map .bytes:=Nh (f:=V.bytes)
theorem Us:um L++[.tup [.int k,.bytes x]]=um (L++[(k,x)]):=by unfold um;rw[gL];rfl
abbrev DO (kp lt uf:Nat) (N w f:Int):O:=.inst 32 (DF (.int N) (.int 48) (.ref kp) (.ref lt) (.ref uf) (.int w) (.int f) .none .none (.bool false))
abbrev DC (a kp lt uf:Nat) (N w f:Int) (K L U:BL):HL:=[(a,DO kp lt uf N w f),(kp,.U' (dm K)),(lt,.U' (dm L)),(uf,.list (um U))]
def Lb (L:BL) (k:Int):List Int:=(Bm k L).getD (List.replicate 48 0)
section
variable {F:HL}{kp lt uf:Nat}{N w f:Int}{K U:BL}
theorem FP (h:H[a]? =some (DO kp lt uf N w f)):call (n+1) (.fn 32 1) [.ref a] H= .ok .none H:=by
 refine DA ?_;rw[AV [("self",.ref a)] rfl rfl rfl rfl rfl];simp! only[h]
theorem IC (h:H[a]? =some (DO kp lt uf N w f)) (h0:0<=k) (h1:k<N):call (n+1) (.fn 32 2) [.ref a,.int k] H= .ok .none H:=by
 refine DA ?_;rw[AV [("self",.ref a),("number",.int k)] rfl rfl rfl rfl rfl];simp! only[h,h0,h1,dT]
theorem JC (h:H[a]? =some (DO kp lt uf N w f)) (hl:H[lt]? =some (.U' (dm L))) (h0:0<=k) (h1:k<N):call (n+2) (.fn 32 3) [.ref a,.int k] H= .ok (.bytes (Lb L k)) H:=by
 refine DA ?_;rw[AV [("self",.ref a),("number",.int k)] rfl rfl rfl rfl rfl];have e:((Option.map V.bytes (Bm k L)).getD (.bytes (List.replicate (48:Int).toNat 0)))= .bytes (Lb L k):=by unfold Lb;cases Bm k L<;>rfl
 simp! only[h,hl,FP (n:=n) h,IC (n:=n) h h0 h1,XL,e,Int.reduceLE]
theorem Fk (o:BB H (DC a kp lt uf N w f K L U++F)) (h0:0<=k) (h1:k<N) (hx:x.length=48) (hL:L.length<lid) (hU:U.length<lid):
  ∃H',call (n+2) (.fn 32 4) [.ref a,.int k,.bytes x] H= .ok .none H'/\BB H' (DC a kp lt uf N (w+1) f K (Ar k x L) (U++[(k,x)])++F):=by
 have o1:=o.set 0 rfl (DO kp lt uf N (w+1) f);have o2:=o1.set 2 rfl (.U' (dm (Ar k x L)));have o3:=o2.set 3 rfl (.list (um (U++[(k,x)])));refine⟨_,DA ?_,o3⟩;rw[AV [("self",.ref a),("number",.int k),("octets",.bytes x)] rfl rfl rfl rfl rfl];have h:=o.at 0 rfl;have hx':(x.length:Int)=48:=by omega
 simp! only[h,FP (n:=n) h,IC (n:=n) h h0 h1,hx',KX,Ti,o1.at 0 rfl,o1.at 2 rfl,o2.at 0 rfl,o2.at 3 rfl,P6,Pc,hL,hU,Pv,Us]
end
def app (U K:BL):BL:=U.foldl (λK p=>Ar p.1 p.2 K) K
theorem DT {α:Type}{k:Int}{v:α}:∀{l:List (Int×α)},(Ar k v l).length<=l.length+1
 |[]=>ix _
 |(j,w)::r=>by
  rw[Ar];split
  ·simp
  ·simpa using DT (l:=r)
theorem Nx:∀{U K:BL},(app U K).length<=K.length+U.length
 |[],K=>ix _
 |p::U,K=>by
  have h1:=Nx (U:=U) (K:=Ar p.1 p.2 K);have h2:=DT (k:=p.1) (v:=p.2) (l:=K);have h3:(app (p::U) K).length=(app U (Ar p.1 p.2 K)).length:=rfl;rw[h3,KX];omega
theorem Qw {U K:BL}{p:Int×List Int}(h:U[i]? =some p):app (U.take (i+1)) K=Ar p.1 p.2 (app (U.take i) K):=by
 unfold app;rw[qr,h,qV];rfl
section
variable {F:HL}{kp lt uf:Nat}{N w f:Int}{K U:BL}{E:PE}
theorem Hf (o:BB H (DC a kp lt uf N w f K L U++F)) (hK:K.length+U.length<lid) (q:∀H' eU,BB H' (DC a kp lt eU N w (f+1) (app U K) L []++F)->Q .none H'):W (call (n+2) (.fn 32 6) [.ref a] H) Q E:=by
 rw[AV [("self",.ref a)] rfl rfl rfl rfl rfl];have h:=o.at 0 rfl;have o1:=o.set 0 rfl (DO kp lt uf N w (f+1));refine CD (a:=[_,_,_]) λA hA=>?_;simp! only[h,FP (n:=n) h];apply hA;clear hA A;refine seq λA hA=>?_;simp! only[o1.at 0 rfl,o1.at 3 rfl];refine CH (λi loc h=>lk "self" loc=some (.ref a)/\BB h (DC a kp lt uf N w (f+1) (app (U.take i) K) L U++F)) U.length ?_ ?_ _ 0 _ _ ?_ (el _) ⟨rfl,o1⟩
 ·rintro i loc h hi ⟨hl,o2⟩;obtain⟨p,hp⟩:∃p,U[i]? =some p:=⟨_,d6 hi⟩;refine⟨.tup [.int p.1,.bytes p.2],?_,?_⟩
  ·rw[Dc (o2.at 3 rfl)];unfold um;rw[fw,hp];rfl
  ·have ln:(dm (app (U.take i) K)).length<lid:=by
    have:=Nx (U:=U.take i) (K:=K)
    rw[rY] at this;rw[P6];omega
   simp! only[↓AK hl,AD,o2.at 0 rfl,o2.at 1 rfl,KX,Ti,ln,Pv];refine⟨hl,?_⟩;rw[Qw hp];exact o2.set 1 rfl _
 ·rintro loc h ⟨hl,o2⟩;refine⟨?_,?_⟩
  ·rw[Dc (o2.at 3 rfl)];unfold um;rw[fw,fA (ix _)];rfl
  ·rw[Au];apply hA;rw[rZ] at o2;have o3:=o2.new (.list []);simp! only[↓AK hl,FM (o2.at 0 rfl),Ti];have o4:=o3.set 1 rfl (DO kp lt h.length N w (f+1));exact q _ _ ((o4.perm (M:=(uf,.list (um U))::(DC a kp lt h.length N w (f+1) (app U K) L []++F)) (by
    show ((h.length,O.list [])::(a,DO kp lt h.length N w (f+1))::(kp,O.U' (dm (app U K)))::(lt,O.U' (dm L))::(uf,O.list (um U))::F).Perm _;refine (iq [_] [_,_,_,_] F).trans ?_;exact iq [_,_,_] [_] _)).drop)
 ·rw[Pc];omega
end
theorem BB.lt {L:HL}{x:O}(o:BB H L) (m:(a,x)∈L):a<H.length:=(dt.mp (o.2 _ m)).1
theorem BB.Uq {L:HL}{k:Nat}(o:BB H L) (e:H.length=k) (x:O):BB (H++[x]) ((k,x)::L):=e▸o.new x
section
variable {F:HL}{kp lt uf:Nat}{N w f:Int}{K U:BL}{E:PE}
theorem JU (o:BB H ((a,.inst 32 [])::F)) (hN:1<=N) (q:∀H' kp lt uf,BB H' (DC a kp lt uf N 0 0 [] [] []++F)->Q .none H'):W (call (n+1) (.fn 32 0) [.ref a,.int N,.int 48] H) Q E:=by
 rw[AV [("self",.ref a),("blocks",.int N),("size",.int 48)] rfl rfl rfl rfl rfl];have l0:=o.lt (.head _);have l1:=qs l0;have l2:=qs l1;have l3:=qs l2;have c1:¬N<1:=by omega
 simp! only[c1,o.at 0 rfl,↓CC,lk,pt,Kh,fx,ew,Ti,KX,eR,nw,l0,l1,l2,l3,lf,mv,t6,tX];have o1:=((((o.set 0 rfl (DO H.length (H.length+1) (H.length+2) N 0 0)).Uq (k:=H.length) (by simp) (.U' (dm []))).Uq (k:=H.length+1) (by simp) (.U' (dm []))).Uq (k:=H.length+2) (by simp) (.list (um [])));refine q _ H.length (H.length+1) (H.length+2) (BB.perm ?_ (L:=[(H.length+2,.list (um [])),(H.length+1,.U' (dm [])),(H.length,.U' (dm [])),(a,DO H.length (H.length+1) (H.length+2) N 0 0)]++F) (List.Perm.append_right F ?_))
 ·exact o1
 ·exact (List.reverse_perm [_,_,_,_]).symm
end
end Fsx
namespace Fsx
open PySem
local macro_rules |`(⋯)=>`(by first|decide+kernel|omega)
structure Bg (G:Hp->Prop) where
 n:Nat
def HS (G:Hp->Prop) (_:Bg G) (h:Hp) (i:Nat) (x:O):Prop:=G (h.set i x)
structure Bn (G:Nat->Hp->Prop) where
 n:Nat
def HN (G:Nat->Hp->Prop) (_:Bn G) (h:Hp) (x:O):Prop:=G h.length (h++[x])
variable {E:PE}{S:Fl->Loc->Hp->Prop}{SE:Nat->Loc->Hp->Prop}{cs:List (Str×Nat)}{h:Hp}{i j n:Nat}{loc:Loc}{nm:List (Str×NameKind)}{r':Option O}{v:V}
section
variable {K:AN}{r:Option O}{a b:Int}{k c:Nat}{x y:Str}{w:V}{vs:List V}{fs:List (Str×V)}{l:List V}{m:List Int}
variable {P:V->Hp->Prop}{G:Hp->Prop}{Q:V->Prop}{F:List (Str×V)->Prop}{B:Bool->Prop}
theorem VB (h0:h[i]? =r):WO (DV (.ref i) x v h) G=WI r (λc fs=>WO (Am c x v fs) (λf=>HS G ⟨0⟩ h i (.inst c f))):=RM h0
def WG (k:Int) (d:List (Int×V)) (v:V) (Q:V->Prop):Prop:=Q ((Bm k d).getD v)
def WH (o:Option V) (v:V) (Q:V->Prop):Prop:=Q (o.getD v)
theorem YE {d:List (Int×V)}{q:Option V}(e:Bm a d=q):WG a d v Q=WH q v Q:=by subst e;rfl
theorem X4:WH (some w) v Q=Q w:=rfl
theorem YH:WH none v Q=Q v:=rfl
theorem UV (h0:h[i]? =r):W (Aw K .dY (.ref i) [.int a] h) P E=WD r (λd=>WG a d .none λv=>P v h):=RJ h0
theorem Tw (h0:h[i]? =r):W (Aw K .dY (.ref i) [.int a,v] h) P E=WD r (λd=>WG a d v λv=>P v h):=QK h0
theorem Vv (h0:h[i]? =r):W (Aw K .FM (.ref i) [v] h) P E=WL r (λl=>if l.length<lid then HS (λh=>P .none h) ⟨0⟩ h i (.list (l++[v])) else False):=TS h0
theorem Uu (h0:h[i]? =r):W (Aw K .bext (.ref i) [.bytes m] h) P E=WA r (λl=>if l.length+m.length<=lid then HS (λh=>P .none h) ⟨0⟩ h i (.ba (l++m)) else False):=Pq h0
theorem Tv (h0:h[i]? =r) (h1:h[j]? =r'):W (Aw K .bext (.ref i) [.ref j] h) P E=WA r (λl=>WA r' λm=>if l.length+m.length<=lid then HS (λh=>P .none h) ⟨0⟩ h i (.ba (l++m)) else False):=by
 subst h0 h1;simp only[Aw];cases h[i]? with
 |none=>rfl
 |some o=>cases o<;>(try rfl)<;>(cases h[j]? with
  |none=>rfl
  |some o=>cases o<;>first|rfl|(dsimp only[WA];split<;>rfl))
theorem Uv (h0:h[i]? =r):W (Aw K .d7 (.ref i) [.ref j] h) P E=WL r (λl=>WO (if Cs h j then CB h j l else none) λl=>HS (λh=>P .none h) ⟨0⟩ h i (.list l)):=by
 subst h0;simp only[Aw];cases h[i]? with
 |none=>rfl
 |some o=>cases o<;>(try rfl)<;>(dsimp only[WL];split<;>rename_i q<;>rw [q]<;>rfl)
theorem VI (h0:h[i]? =r):WO (Go (.ref i) (.int a) v h) G=WK r (λ_ _=>False) (λl=>if 0<=a/\a.toNat<l.length then HS G ⟨0⟩ h i (.list (l.set a.toNat v)) else False) (λd=>if d.length<lid then HS G ⟨0⟩ h i (.U' (Ar a v d)) else False)
  (λm=>match v with| .int b=>(if 0<=a/\a.toNat<m.length/\A9 b=true then HS G ⟨0⟩ h i (.ba (m.set a.toNat b)) else False)|_=>False) (λ_=>False):=PB h0
theorem U9 (h0:h[i]? =r):WO (Go (.ref i) (.str x) v h) G=WT r (λd=>if (lk x d).isSome then HS G ⟨0⟩ h i (.dO (pt x v d)) else False):=by
 subst h0;simp only[Go];cases h[i]? with
 |none=>rfl
 |some o=>cases o<;>(try rfl)<;>(dsimp only[WT];split<;>rfl)
theorem Ub (h0:h[i]? =r):WO (Iy (.ref i) (.int a) h) G=WK r (λ_ _=>False) (λl=>if 0<=a/\a.toNat<l.length then HS G ⟨0⟩ h i (.list (l.eraseIdx a.toNat)) else False) (λd=>if (Bm a d).isSome then HS G ⟨0⟩ h i (.U' (Cw a d)) else False) (λ_=>False) (λ_=>False):=PW h0
theorem R0 {lo hi:V}(h0:h[i]? =r):WO (EJ (.ref i) lo hi (.bytes m) h) G=WA r (λl=>WO (Ew lo) λp=>WO (Eb l.length hi) λq=>if p<=q/\q<=l.length/\m.length=q-p then HS G ⟨0⟩ h i (.ba (l.take p++m++l.drop q)) else False):=by
 subst h0;cases hp:Ew lo with
 |none=>
  simp only[EJ,hp];cases h[i]? with
  |none=>rfl
  |some o=>cases o<;>rfl
 |some p=>
  simp only[EJ,hp];cases h[i]? with
  |none=>rfl
  |some o=>
   cases o<;>(try rfl);rename_i l;dsimp only[WA,WO];cases Eb l.length hi with
   |none=>rfl
   |some q=>
    by_cases z:p<=q/\q<=l.length/\m.length=q-p
    ·simp only[UQ z];try rfl
    ·simp only[T8 z]
theorem YW {Q:Nat->Prop}:WO (Ew .none) Q=Q 0:=rfl
theorem Xy {Q:Nat->Prop}(e:0<=a):WO (Ew (.int a)) Q=Q a.toNat:=by rw[show Ew (.int a)=some a.toNat from UQ e];rfl
theorem Xv {Q:Nat->Prop}:WO (Eb n .none) Q=Q n:=rfl
theorem YD {Q:Nat->Prop}(e:0<=a):WO (Eb n (.int a)) Q=Q a.toNat:=by rw[show Eb n (.int a)=some a.toNat from UQ e];rfl
theorem Vw:W (Ch K (.cls i) vs h) P E=WO (AZ i "__init__") λj=>HN (λo h=>W (K (.fn i j) (.ref o::vs) h) (λr h'=>match r with| .none=>P (.ref o) h'|_=>False) E) ⟨0⟩ h (.inst i []):=TG
theorem YU {es:List IE}:W (AU K (.li es) cs loc h) P E=W (Kg K es cs loc h) (λvs h=>if vs.length<=1000 then HN (λo h=>P (.ref o) h) ⟨0⟩ h (.list vs) else False) E:=Vq
theorem YA:W (AU K .d0 cs loc h) P E=HN (λo h=>P (.ref o) h) ⟨0⟩ h (.U' []):=XB
def WX (h:Hp) (i:Nat) (Q:Option V->Prop):Prop:=match h[i]? with|some (.cell v)=>Q v|_=>False
def cb (r:Option O) (Q:Option V->Prop):Prop:=match r with|some (.cell v)=>Q v|_=>False
theorem Yd {Q:Option V->Prop}(h0:h[i]? =r):WX h i Q=cb r Q:=by subst h0;rfl
theorem Wa {Q:Option V->Prop}{v:Option V}:cb (some (.cell v)) Q=Q v:=rfl
theorem Ym:WS (EM K (.n true x) v cs loc h) S SE=WO (lk x cs) λa=>WX h a λ_=>HS (λh=>S .next loc h) ⟨0⟩ h a (.cell (some v)):=by
 rw[bM];unfold FU;cases lk x cs with
 |none=>rfl
 |some a=>dsimp only[WO,WX];cases h[a]? with
  |none=>rfl
  |some o=>cases o<;>rfl
theorem co:W (AU K (.c x) cs loc h) P E=WO (lk x cs) λa=>WX h a λo=>WO o λv=>P v h:=by
 rw[Yr];cases lk x cs with
 |none=>rfl
 |some a=>dsimp only[WO,WX];cases h[a]? with
  |none=>rfl
  |some o=>cases o<;>rfl
theorem Wg {Q:Nat->Prop}:WO (lk x ((y,i)::cs)) Q=if x=y then Q i else WO (lk x cs) Q:=by rw[lk];split<;>rfl
theorem Vn {t:List (Str×Nat)}{Q:Nat->Prop}:WO (lk x (((y,i)::t)++cs)) Q=if x=y then Q i else WO (lk x (t++cs)) Q:=by rw[oP,lk];split<;>rfl
theorem V7 {Q:Nat->Prop}:WO (lk x ([]++cs)) Q=WO (lk x cs) Q:=rfl
theorem W5 {Q:List (Str×Nat)->Prop}:WO (AW [] cs) Q=Q []:=rfl
theorem YJ {q:NameKind}{Q:List (Str×Nat)->Prop}:WO (AW ((x,q)::nm) cs) Q=if q= .free then WO (lk x cs) λa=>WO (AW nm cs) λt=>Q (t++[(x,a)]) else WO (AW nm cs) Q:=by
 rw[AW];split
 ·cases lk x cs with
  |none=>rfl
  |some a=>cases AW nm cs<;>rfl
 ·rfl
theorem X3:W (Ap "bytearray" [.int a] h) P E=if 0<=a/\a<=1000000 then HN (λo h=>P (.ref o) h) ⟨0⟩ h (.ba (List.replicate a.toNat 0)) else False:=WQ
theorem XJ:W (Ap "bytearray" [] h) P E=HN (λo h=>P (.ref o) h) ⟨0⟩ h (.ba []):=rfl
theorem Wf:W (Ap "bytearray" [.bytes m] h) P E=HN (λo h=>P (.ref o) h) ⟨0⟩ h (.ba m):=rfl
theorem Ts:W (Ap "list" [.Ck a b] h) P E=if (b-a).toNat<=lid then HN (λo h=>P (.ref o) h) ⟨0⟩ h (.list (Hk a (b-a).toNat)) else False:=P9
theorem VY (h0:h[i]? =r):W (Ap "list" [.ref i] h) P E=WL r (λl=>HN (λo h=>P (.ref o) h) ⟨0⟩ h (.list l)):=Tp h0
theorem VE (h0:h[i]? =r):W (Ap "dict" [.ref i] h) P E=WD r (λl=>HN (λo h=>P (.ref o) h) ⟨0⟩ h (.U' l)):=QE h0
theorem Yc {e:IE}{cc:Bool}{src:IE}{ts:List IT}:W (AU K (.lc e cc x src ts nm) cs loc h) P E=WO (AW nm cs) λc1=>W (AU K src cs loc h) (λv h=>S0 v h λr h=>
  W (BG r (Rq K e cc x ts (AH nm c1 h).1) (r.len h+1) 0 [] [] (AH nm c1 h).2) (λl h=>HN (λo h=>P (.ref o) h) ⟨0⟩ h (.list l)) E) E:=Wh
theorem Tx (h0:h[i]? =r) (h1:h[j]? =r'):W (CJ .Add (.ref i) (.ref j) h) P E=WL r λl=>WL r' λm=>if l.length+m.length<=lid then HN (λo h=>P (.ref o) h) ⟨0⟩ h (.list (l++m)) else False:=by
 subst h0 h1;simp only[CJ];cases h[i]? with
 |none=>rfl
 |some o=>cases o<;>(try rfl)<;>(cases h[j]? with
  |none=>rfl
  |some o=>cases o<;>first|rfl|(dsimp only[WL];split<;>rfl))
theorem Tz (h0:h[i]? =r):W (CJ .Mult (.ref i) (.int a) h) P E=WL r λl=>if 0<=a/\a<=3/\l.length<=1000 then HN (λo h=>P (.ref o) h) ⟨0⟩ h (.list (rep l a.toNat)) else False:=by
 subst h0;simp only[CJ];cases h[i]? with
 |none=>rfl
 |some o=>cases o<;>(try rfl)<;>(dsimp only[WL];split<;>rfl)
theorem VL {m':List Int}:W (CJ .Add (.bytes m) (.bytes m') h) P E=if m.length+m'.length<=lid then P (.bytes (m++m')) h else False:=by
 show W (if m.length+m'.length<=lid then .ok (.bytes (m++m')) h else .stuck) P E=_;split<;>rfl
theorem UU:W (CJ .Add (.str x) (.str y) h) P E=if (x++y).length<=lid then P (.str (x++y)) h else False:=by
 show W (if (x++y).length<=lid then .ok (.str (x++y)) h else .stuck) P E=_;split<;>rfl
theorem V9 {lo hi:V}:W (EG (.bytes m) lo hi h) P E=WO (Ew lo) λp=>WO (Eb m.length hi) λq=>P (.bytes (sliceOf m p q)) h:=by
 cases hp:Ew lo<;>simp only[EG,hp]<;>(try rfl);cases Eb m.length hi<;>rfl
theorem WZ {lo hi:V}:W (EG (.fl l) lo hi h) P E=WO (Ew lo) λp=>WO (Eb l.length hi) λq=>HN (λo h=>P (.ref o) h) ⟨0⟩ h (.list (sliceOf l p q)):=by
 cases hp:Ew lo<;>simp only[EG,hp]<;>(try rfl);cases Eb l.length hi<;>rfl
theorem W9 {lo hi:V}(h0:h[i]? =r):W (EG (.ref i) lo hi h) P E=WA r λl=>WO (Ew lo) λp=>WO (Eb l.length hi) λq=>HN (λo h=>P (.ref o) h) ⟨0⟩ h (.ba (sliceOf l p q)):=by
 subst h0;cases hp:Ew lo with
 |none=>
  simp only[EG,hp];cases h[i]? with
  |none=>rfl
  |some o=>cases o<;>rfl
 |some p=>
  simp only[EG,hp];cases h[i]? with
  |none=>rfl
  |some o=>
   cases o<;>(try rfl);rename_i l;dsimp only[WA,WO];cases Eb l.length hi<;>rfl
theorem XF:W (EG (.tup (v::l)) (.int 1) .none h) P E=P (.tup l) h:=by
 simp only[EG,Ew];show W (if 1<=(1:Int).toNat/\(1:Int).toNat<=(v::l).length then _ else _) P E=_;rw[UQ ⟨by decide,Nat.succ_le_succ (el _)⟩];rfl
theorem X0:W (AU K (.ng (.k (.int a))) cs loc h) P E=P (.int (-a)) h:=by rw[T5,Xm]
theorem Vz {ks vs:List IE}:W (AU K (.sd ks vs) cs loc h) P E=W (BN (KR K ks cs loc) (KR K vs cs loc) h) (λd h=>HN (λo h=>P (.ref o) h) ⟨0⟩ h (.dO d)) E:=by
 simp only[AU,Ad];try rfl
theorem W2:WS (L9 c [] loc h) S SE=False:=by simp only[L9];try rfl
theorem DW {q:List (Nat×V)}(e:An c=true):WS (L9 c ((i,v)::q) loc h) S SE=if i=c then S (.ret v) loc h else WS (L9 c q loc h) S SE:=by
 simp only[L9,e,qT];split<;>rfl
theorem dD:An 3=true:=rfl
theorem dI:An 4=true:=rfl
theorem dH:An 5=true:=rfl
theorem Xh {I:Loc->Hp->Prop}:lp I S (.ret v) loc h=S (.ret v) loc h:=rfl
end
section
variable {K:AN}{P:V->Hp->Prop}{B:Bool->Prop}{r:Option O}{l m:List V}
theorem Vs {op op':CmpOp}{a b c:IE}:W (AU K (.cm a [op,op'] [b,c]) cs loc h) P E=W (AU K a cs loc h) (λa h=>W (AU K b cs loc h) (λb h=>WO (Ao op a b h) λr=>if r then W (AU K c cs loc h) (λc h=>WO (Ao op' b c h) λr=>P (.bool r) h) E else P (.bool false) h) E) E:=by
 simp only[AU,NN,Ad];congr 1;funext a h;congr 1;funext b h;cases Ao op a b h with
 |none=>rfl
 |some r=>cases r<;>simp only[Ad,Bd,FN]<;>rfl
theorem Sh (h0:h[i]? =r) (h1:h[j]? =r'):WO (Ao .Eq (.ref i) (.ref j) h) B=WL r λl=>WL r' λm=>WO (Cv l m) B:=by
 subst h0 h1;show WO (match itemsOf (.ref i) h,itemsOf (.ref j) h with|some l,some m=>Cv l m|_,_=>none) B=_;simp only[itemsOf];cases h[i]? with
 |none=>rfl
 |some o=>cases o<;>(try rfl)<;>(cases h[j]? with
  |none=>rfl
  |some o=>cases o<;>rfl)
theorem Wz (h0:h[i]? =r) (h1:h[j]? =r'):WO (Ao .NotEq (.ref i) (.ref j) h) B=WL r λl=>WL r' λm=>WO (Cv l m) λb=>B (!b):=by
 have:=Sh (B:=λb=>B (!b)) h0 h1
 rw[←this];exact Ea
end
def cellsOf (nm:List (Str×NameKind)):List Str:=nm.filterMap λp=>if p.2= .cell then some p.1 else none
def NC:List Str->List (Str×Nat)->Hp->(List (Str×Nat)->Hp->Prop)->Prop
 |[],cs,h,K=>K cs h
 |x::r,cs,h,K=>HN (λa h=>NC r ((x,a)::cs) h K) ⟨0⟩ h (.cell none)
def SA (cs:List (Str×Nat)):List (Str×V×Bool)->Loc->Hp->(Loc->Hp->Prop)->Prop
 |[],loc,h,K=>K loc h
 |(x,v,false)::r,loc,h,K=>SA cs r (pt x v loc) h K
 |(x,v,true)::r,loc,h,K=>WO (lk x cs) λa=>WX h a λ_=>HS (λh=>SA cs r loc h K) ⟨0⟩ h a (.cell (some v))
theorem O9:∀{nm:List (Str×NameKind)}{cs:List (Str×Nat)}{h:Hp}{K:List (Str×Nat)->Hp->Prop},NC (cellsOf nm) cs h K=K (AH nm cs h).1 (AH nm cs h).2
 |[],_,_,_=>rfl
 |(x,k)::r,cs,h,K=>by
  unfold cellsOf AH;by_cases e:k= .cell
  ·rw[me,UQ e,UQ e];exact O9 (nm:=r)
  ·rw[me,T8 e,T8 e];exact O9 (nm:=r)
theorem QO {nm:List (Str×NameKind)}{cs:List (Str×Nat)}{lam:Bool}:∀{bs:List (Str×V×Bool)}{loc:Loc}{h:Hp}{K:Loc->Hp->Prop},bs.map (λp=>JJ nm p.1)=bs.map (λp=>some p.2.2)->SA cs bs loc h K=WO (storeAll ⟨nm,cs,lam⟩ (bs.map λp=>(p.1,p.2.1)) loc h) λq=>K q.1 q.2
 |[],_,_,_,_=>rfl
 |(x,v,b)::r,loc,h,K,e=>by
  rw[ij,ij] at e;have e1:=(List.cons.inj e).1;have e2:=(List.cons.inj e).2;rw[ij,storeAll,KD e1];cases b with
  |false=>rw [SA,QO e2];rfl
  |true=>
   rw[SA];unfold FU;cases lk x cs with
   |none=>rfl
   |some a=>
    dsimp only[WO,WX];cases h[a]? with
    |none=>rfl
    |some o=>cases o<;>first|rfl|exact QO e2
variable {args:List V}
theorem MH {fd:Rz}{ir:List IS}{P:V->Hp->Prop}(xs:List Str) (bs:List (Str×V×Bool)) (e:MV i j=some fd) (c:A7 (cS (cE fd.lam 30 fd.names) fd.names 30) fd.body=some ir) (hb:Ct fd.params fd.dflts args=some (bs.map λp=>(p.1,p.2.1))) (hx:cellsOf fd.names=xs) (hk:bs.map (λp=>JJ fd.names p.1)=bs.map λp=>some p.2.2):
  W (call (n+1) (.fn i j) args h) P E=NC xs [] h λcs h=>SA cs bs [] h λloc h=>WS (A8 (call n) cs ir loc h) (RW P) (λc _ h=>E c h):=by
 subst hx;rw[O9,QO (lam:=fd.lam) hk];cases hs:storeAll ⟨fd.names,(AH fd.names [] h).1,fd.lam⟩ (bs.map λp=>(p.1,p.2.1)) [] (AH fd.names [] h).2 with
 |none=>
  have:call (n+1) (.fn i j) args h= .stuck:=by
   show (match MV i j with|some fd=>Dj (call n) fd args h|none=>.stuck)=_;rw[e];dsimp only;unfold Dj;rw[hb];dsimp only;rw[hs]
  rw[this];rfl
 |some q=>exact Ur q.1 e c hb rfl hs
section
variable {x:Str}{xs:List Str}{r:List (Str×V×Bool)}{K:List (Str×Nat)->Hp->Prop}{L:Loc->Hp->Prop}
theorem Ut:NC [] cs h K=K cs h:=rfl
theorem OQ:NC (x::xs) cs h K=HN (λa h=>NC xs ((x,a)::cs) h K) ⟨0⟩ h (.cell none):=rfl
theorem Qd:SA cs [] loc h L=L loc h:=rfl
theorem U6:SA cs ((x,v,false)::r) loc h L=SA cs r (pt x v loc) h L:=rfl
theorem Yk:SA cs ((x,v,true)::r) loc h L=WO (lk x cs) λa=>WX h a λ_=>HS (λh=>SA cs r loc h L) ⟨0⟩ h a (.cell (some v)):=rfl
end
variable {F:HL}{H:Hp}{P:HL->Prop}{a:Nat}
section
variable {P':HL->Prop}{M:HL}{L:HL}{k:Nat}{x y:O}
def Ow (P:HL->Prop) (F:HL) (H:Hp):Prop:=∃C,P C/\BB H (C++F)
theorem Ow.perm (o:Ow P F H) (p:F.Perm M):Ow P M H:=o.imp λC q=>⟨q.1,q.2.perm (p.append_left C)⟩
theorem Ow.mono (o:Ow P F H) (p:∀C,P C->P' C):Ow P' F H:=o.imp λC q=>⟨p C q.1,q.2⟩
theorem Ow.at (o:Ow P F H) (k:Nat) (e:F[k]? =some (a,x)):H[a]? =some x:=by
 obtain⟨C,_,q⟩:=o;exact q.2 _ (my _ (mn e))
theorem Ow.set (o:Ow P F H) (k:Nat) (e:F[k]? =some (a,x)) (y:O):Ow P (F.set k (a,y)) (H.set a y):=by
 obtain⟨C,p,q⟩:=o;refine⟨C,p,?_⟩
 have:=q.set (C.length+k) (by rw[mA (re ..),tJ];exact e) y
 rwa [tv _ _ (re ..),tJ] at this
theorem Ow.new (o:Ow P F H) (x:O):Ow P ((H.length,x)::F) (H++[x]):=by
 obtain⟨C,p,q⟩:=o;exact⟨C,p,(q.new x).perm og.symm⟩
theorem Ow.drop {p:Nat×O}(o:Ow P (p::F) H):Ow P F H:=by
 obtain⟨C,p,q⟩:=o;exact⟨C,p,(q.perm og).drop⟩
theorem Ow.drops (o:Ow P (L++F) H):Ow P F H:=by
 induction L with
 |nil=>exact o
 |cons p L ih=>exact ih o.drop
theorem BB.drops (o:BB H (L++F)):BB H F:=by
 induction L with
 |nil=>exact o
 |cons p L ih=>exact ih o.drop
theorem Ow.hs {G:Hp->Prop}{b:Bg G}(o:Ow P F H) (k:Nat) (e:F[k]? =some (a,y)) (q:∀H,Ow P (F.set k (a,x)) H->G H):HS G b H a x:=q _ (o.set k e x)
theorem Ow.hn {G:Nat->Hp->Prop}{b:Bn G}(o:Ow P F H) (q:∀a H,Ow P ((a,x)::F) H->G a H):HN G b H x:=q _ _ (o.new x)
theorem BB.hs {G:Hp->Prop}{b:Bg G}(o:BB H F) (k:Nat) (e:F[k]? =some (a,y)) (q:∀H,BB H (F.set k (a,x))->G H):HS G b H a x:=q _ (o.set k e x)
theorem BB.hn {G:Nat->Hp->Prop}{b:Bn G}(o:BB H F) (q:∀a H,BB H ((a,x)::F)->G a H):HN G b H x:=q _ _ (o.new x)
theorem BB.out (o:BB H (L++F)) (p:P L):Ow P F H:=⟨L,p,o⟩
theorem BB.up (o:BB H F) (k:Nat) (e:F[k]? =some (a,x)):BB H ((a,x)::F.eraseIdx k):=by
 obtain⟨hk,e'⟩:=dt.mp e;refine o.perm ?_;rw[mm];have e1:F.Perm (F.take k++(a,x)::F.drop (k+1)):=by rw[←e',qh,mx]
 exact e1.trans og
theorem Ow.up (o:Ow P F H) (k:Nat) (e:F[k]? =some (a,x)):Ow P ((a,x)::F.eraseIdx k) H:=by
 obtain⟨hk,e'⟩:=dt.mp e;refine o.perm ?_;rw[mm];have e1:F.Perm (F.take k++(a,x)::F.drop (k+1)):=by rw[←e',qh,mx]
 exact e1.trans og
theorem BB.ne {b:Nat}(o:BB H ((a,x)::F)) (k:Nat) (e:F[k]? =some (b,y)):a≠b:=λh=>(gl.mp o.1).1 (eJ.mpr ⟨_,mn e,h.symm⟩)
theorem Ow.ne {b:Nat}(o:Ow P ((a,x)::F) H) (k:Nat) (e:F[k]? =some (b,y)):a≠b:=by
 obtain⟨C,_,q⟩:=o;exact BB.ne (q.perm og|>.perm (na.cons _)) k (by rw[lf (dt.mp e).1];exact e)
end
variable {α:Type}
theorem I9 {l:List α}(h:l.Nodup){x:α}(a:l[i]? =some x) (b:l[j]? =some x):i=j:=by
 obtain⟨h1,e1⟩:=dt.mp a;obtain⟨h2,e2⟩:=dt.mp b;have key:∀{i j:Nat} (h1:i<l.length) (h2:j<l.length),i<j->l[i]≠l[j]:=λh1 h2 hij=>rC.mp h _ _ h1 h2 hij;rcases Nat.lt_trichotomy i j with hij|hij|hij
 ·exact absurd (e1.trans e2.symm) (key h1 h2 hij)
 ·exact hij
 ·exact absurd (e2.trans e1.symm) (key h2 h1 hij)
variable {A:HL}
theorem BB.sel {T:HL}(o:BB H (A++T)) (is:List Nat) (hn:is.Nodup):BB H (is.filterMap (A[·]?)++T):=by
 have sub:∀p∈is.filterMap (A[·]?),p∈A:=λp hp=>by
  obtain⟨i,_,e⟩:=kA.mp hp;exact mn e
 obtain⟨o1,o2⟩:=o;rw[gL,kz] at o1;refine⟨?_,λp hp=>o2 p ?_⟩
 ·rw[gL,kz];refine⟨?_,o1.2.1,λa ha=>o1.2.2 a ?_⟩
  ·rw[List.map_filterMap];refine List.Pairwise.filterMap _ (λi j hij b hb c hc e=>hij ?_) hn;obtain⟨x,hx,rfl⟩:=dy.mp hb;obtain⟨y,hy,rfl⟩:=dy.mp hc;refine I9 o1.1 (x:=x.1) ?_ ?_
   ·rw[fw,hx];rfl
   ·rw[fw,hy,e];rfl
  ·obtain⟨p,hp,rfl⟩:=eJ.mp ha;exact eJ.mpr ⟨p,sub p hp,rfl⟩
 ·rcases eI.mp hp with h|h
  ·exact mo _ (sub p h)
  ·exact my _ h
theorem Ow.sel {P:HL->Prop}{H:Hp}{A T:HL}(o:Ow P (A++T) H) (is:List Nat) (hn:is.Nodup):Ow P (is.filterMap (A[·]?)++T) H:=by
 obtain⟨C,p,q⟩:=o;refine⟨C,p,BB.perm (L:=is.filterMap (A[·]?)++(T++C)) (BB.sel (q.perm (M:=A++(T++C)) ?_) is hn) ?_⟩
 ·exact na.trans (by rw[kt])
 ·rw[←kt];exact na
variable {turn:V->Loc->Hp->SR}
theorem Vy {s:Src}{k:Nat}(e:s.next i h=some none):WS (Bo s turn (k+1) i loc h) S SE=S .next loc h:=by
 rw[Bo,e];rfl
section
variable {K:AN}{r:Option O}{a b:Int}{k c:Nat}{x y:Str}{w:V}{vs l m:List V}{bx fL:List Int}
variable {P:V->Hp->Prop}{Q:V->Prop}{B:Bool->Prop}{q:Option Bool}
theorem VQ:WO (Ao .Eq (.bytes bx) (.bytes fL) h) B=B (decide (bx=fL)):=by
 show B (bx==fL)=_
 congr 1;rw[qk];simp
theorem Vk:WO (Ao .NotEq (.bytes bx) (.bytes fL) h) B=B (!decide (bx=fL)):=by
 show B (!(bx==fL))=_
 congr 2;rw[qk];simp
theorem WN:WO (Ao .Eq (.tup l) (.tup m) h) B=WO (Cv l m) B:=rfl
theorem WV:WO (Ao .NotEq (.tup l) (.tup m) h) B=WO (Cv l m) λb=>B (!b):=Ea
theorem Ve (e:Oj (.str x) (.str y) h=q):WO (Ao .Eq (.str x) (.str y) h) B=WO q B:=by subst e;rfl
theorem WF (e:Oj (.str x) (.str y) h=q):WO (Ao .NotEq (.str x) (.str y) h) B=WO q λb=>B (!b):=by subst e;exact Ea
theorem Xd (h0:h[j]? =r):WO (Ao .Eq (.fl l) (.ref j) h) B=WL r λm=>WO (Cv l m) B:=by
 subst h0;show WO (match itemsOf (.fl l) h,itemsOf (.ref j) h with|some l,some m=>Cv l m|_,_=>none) B=_;simp only[itemsOf];cases h[j]? with
 |none=>rfl
 |some o=>cases o<;>rfl
theorem Tt (e:EZ v l=q):WO (EZ v l) B=WO q B:=by subst e;rfl
theorem YX {p q:Bool}:W (CJ .Add (.bool p) (.bool q) h) P E=P (.int ((if p then 1 else 0)+if q then 1 else 0)) h:=rfl
theorem Yl {q:Bool}:W (CJ .Add (.int a) (.bool q) h) P E=P (.int (a+if q then 1 else 0)) h:=rfl
theorem X7 {gs:List IG}(h0:h[i]? =r):WS (EM K (.t gs) (.ref i) cs loc h) S SE=WL r λl=>if l.length=gs.length then WS (F6 K gs l cs loc h) S SE else False:=by
 subst h0;simp only[EM,itemsOf];cases h[i]? with
 |none=>rfl
 |some o=>cases o<;>first|rfl|(dsimp only[WL];split<;>rfl)
theorem Xe {e:IE}{c2:List (Str×Nat)}{Q:Loc×Option V->Hp->Prop}:W (Rq K e true x [] c2 v loc h) Q E=WO (lk x c2) λa=>WX h a λ_=>HS (λh=>W (AU K e c2 loc h) (λw h=>Q (loc,some w) h) E) ⟨0⟩ h a (.cell (some v)):=by
 rw[YS];unfold FU;cases lk x c2 with
 |none=>rfl
 |some a=>dsimp only[WO,WX];cases h[a]? with
  |none=>rfl
  |some o=>cases o<;>rfl
theorem VZ (h0:h[i]? =r):WO (C7 "sum" [.ref i] h) Q=WL r λl=>WO (Bt l) λm=>Q (.int (Fm m)):=by
 subst h0;show WO (((itemsOf (.ref i) h).bind Bt).map λl=>V.int (Fm l)) Q=_;simp only[itemsOf];cases h[i]? with
 |none=>rfl
 |some o=>cases o<;>first|rfl|exact Ea
theorem Yh:W (BN (KR K [] cs loc) (KR K [] cs loc) h) (α:=List (Str×V)) Q' E=Q' [] h:=by simp only[KR,BN,FN]
theorem X5 {ks ws:List IE}{e:IE}{Q:List (Str×V)->Hp->Prop}:W (BN (KR K (.k (.str x)::ks) cs loc) (KR K (e::ws) cs loc) h) Q E=W (AU K e cs loc h) (λb h=>W (BN (KR K ks cs loc) (KR K ws cs loc) h) (λd h=>if (lk x d).isSome then False else Q ((x,b)::d) h) E) E:=by
 simp only[KR,BN,Ad,Xm]
 congr 1;funext b h;congr 1;funext d h;split<;>rfl
theorem UL {d:List (Str×V)}(h0:h[i]? =some (.dO d)) (e:lk x d=some v):BM (.ref i) (.str x) h=some v:=by
 show (match h[i]?,V.str x with|some (.list l),.int k=>if 0<=k then l[k.toNat]? else none|some (.ba l),.int k=>if 0<=k then (l[k.toNat]?).map .int else none|some (.dO d),.str k=>lk k d|_,_=>none)=_;rw[h0];exact e
theorem Qr {L:List Int}:EZ (.int a) (L.map .int)=some (decide (a∈L)):=by
 have h:∀l:List Int,(l.map V.int).all BD=true:=λl=>by rw[jU];intro v hv;obtain⟨i,_,rfl⟩:=eJ.mp hv;rfl
 unfold EZ;rw[h];show some _=_
 congr 1
 rw[qk,ip,List.any_map,qd];constructor
 ·rintro⟨y,hy,e⟩
  have:y=a:=by simpa [Function.comp,eqB] using e
  exact this▸hy
 ·exact λh=>⟨a,h,by simp [Function.comp,eqB]⟩
end
abbrev MD (own:List Int) (bl:Nat) (nm:Bool):O:=.dO [("octets",.bytes own),("blocks",.ref bl),("names",.bool nm)]
section
variable {a b c:V}
theorem S9:lk "octets" [("octets",a),("blocks",b),("names",c)]=some a:=by simp [lk]
theorem Sp:lk "blocks" [("octets",a),("blocks",b),("names",c)]=some b:=by simp [lk,ofString_eq]
theorem TO:lk "names" [("octets",a),("blocks",b),("names",c)]=some c:=by simp [lk,ofString_eq]
theorem Vp:pt "octets" v [("octets",a),("blocks",b),("names",c)]=([("octets",v),("blocks",b),("names",c)]:List (Str×V)):=by simp [pt]
theorem XC:pt "blocks" v [("octets",a),("blocks",b),("names",c)]=([("octets",a),("blocks",v),("names",c)]:List (Str×V)):=by simp [pt,ofString_eq]
theorem W1:pt "names" v [("octets",a),("blocks",b),("names",c)]=([("octets",a),("blocks",b),("names",v)]:List (Str×V)):=by simp [pt,ofString_eq]
end
section
variable {own:List Int}{bl:Nat}{nm:Bool}
theorem UZ (h0:h[i]? =some (MD own bl nm)):BM (.ref i) (.str "octets") h=some (.bytes own):=UL h0 S9
theorem IH (h0:h[i]? =some (MD own bl nm)):BM (.ref i) (.str "blocks") h=some (.ref bl):=UL h0 Sp
theorem MZ (h0:h[i]? =some (MD own bl nm)):BM (.ref i) (.str "names") h=some (.bool nm):=UL h0 TO
end
def str0 (a b:String):Option Bool:=Oj (.str (Str.ofString a)) (.str (Str.ofString b)) []
theorem Rv {x y:Str}:Oj (.str x) (.str y) h=Oj (.str x) (.str y) []:=rfl
theorem dA:Oj (.str "argument") (.str "argument") []=some true:=by decide+kernel
theorem cu:Oj (.str "room") (.str "room") []=some true:=by decide+kernel
theorem ci:Oj (.str "disk") (.str "disk") []=some true:=by decide+kernel
local macro_rules | `(tactic| simp! only [$as,*]) => `(tactic| simp -dsimp only [↓He,↓RE,↓Wv,↓V8,↓WY,↓WE,↓W6,↓Vh,↓XS,↓Wd,↓Ut,↓OQ,↓Qd,↓U6,↓Yk,↓W0,↓VP,↓W2,↓DW,dD,dI,dH,↓Yp,↓Ym,↓Yd,↓Wa,↓co,↓bT,↓aP,↓W8,↓aD,↓TL,↓RQ,↓VU,↓W4,↓SY,↓Zd,↓Ta,↓Sm,↓Wc,↓Xm,↓Zm, ↓Wj,↓XR,↓VW,↓X0,↓T5,↓Va,↓Vs,↓Sh,↓Wz,↓MR,↓TR,↓w_and,↓w_or,↓V1,↓YU,↓YA,↓Ws,↓XQ,↓WP,↓Wo,↓Wu,↓XW,↓VX,↓TW,↓O7,↓FN,↓Se,↓DR,↓Au,↓Nv,↓Nt,↓QX,↓NQ,↓VJ,↓XN,↓Vc,↓Vr,↓V2,↓Vu,↓Xf,↓XX,↓V5,↓Wy,↓W7,↓TT,↓Pd,↓Vx,↓Sa,↓RO,↓VB,↓Sz,↓TP,↓Vv,↓UV,↓Tw,↓YE,↓X4,↓YH,↓Uu,↓Tv,↓Uv,↓VS,↓WB,↓XY,↓Tc,↓Vw,↓Sk,↓Tb,↓TQ,↓TY,↓Sr,↓Qz,↓Qg,↓PC,↓Pk,↓Vt,↓VQ,↓Vk,↓WN,↓WV,↓Ve,↓WF,↓Xd,↓Tt,↓YX,↓Yl,↓Yh,↓X5,↓Vz,↓X7,↓Xe,↓VZ,S9,Sp,TO,Vp,XC,W1,Rv,dA,cu,ci,↓V0,↓Wn,↓Wm,↓Wl,↓Vd,↓SZ,↓Tj,↓Sc,↓Sw,↓PA,↓QH,↓Ol,↓PN,↓TX,↓Pe,↓Tg,↓Pu,↓TA,↓Qe,↓Sn,↓Tx,↓Tz,↓VL,↓UU,↓V9,↓WZ,↓W9,↓XF,↓TH,↓TF,↓Sl,↓Tf,↓Xa,↓Th,↓Sv,↓Sj,↓Ss,↓Td,↓Pf,↓Pp,↓Ps,↓PV,↓To,↓Sd,↓VI,↓U9,↓R0,↓YW,↓Xy,↓Xv,↓YD,↓Ub,↓X3,↓XJ,↓Wf,↓y_by,↓TN,↓So,↓Sg,↓P2,↓Ts,↓VY,↓VE,↓Si,↓Te,↓Tm,↓Vi,↓QL,↓Ou,↓Sx,↓TJ,↓Sf,Hd,Src.len,↓Ph,↓NH,↓Pz,↓P8,↓Yc,↓Wi,↓XE,↓Vj,↓W3,↓Vn,↓V7,↓Wg,↓W5,↓YJ,qU,AH,↓ZS,↓bX,↓Zj,↓cX,↓Zs,↓Z4,↓bv,↓Ze,↓bE,↓Yt,↓Zq,↓Zy,↓ZZ,↓be,↓aV,↓cg,↓cY,↓ax,↓aK,↓cR,↓XK,↓Wk,↓Vl,↓Vb,↓aX,↓ZJ,↓ak,↓Zc,↓bF,↓cN,↓cU,↓bz,↓Zt,↓an,↓bO,↓Z5,↓Zr,↓ZT,↓Z8,↓bJ,↓aN,↓ZX,↓ZN,↓aw,↓Zg,↓bQ,↓Y4,↓Zl,↓ZP,↓cI,↓Y5,↓ZG,↓bV,↓aE,↓Zk,↓Y6,↓Yx,↓ZH,↓Y8,↓Yy,↓aG,↓aO,↓Zb,↓cP,↓cJ,↓Z3,↓bZ,↓bR,↓cB,↓ac,↓aU,↓aH,↓ZD,↓ZL,↓bK,↓Za,↓Z2,↓bP,↓cQ,↓Zx,↓aj,↓aF,↓aA,↓b9,↓Y9,↓cW,↓bI,↓aJ,↓Z9,↓Zh,↓ZA,↓Zz,↓bW,↓cZ,↓ar,↓Y0,↓Yz,↓Zu,↓ZK,↓Zp,↓ZB,↓bA,↓ZO,↓aM,↓aC,↓Zn,↓ZV,↓Zo,↓ZF,↓aW,↓bU,↓Z0,↓aq,↓Y1,↓m0,↓m1,↓m2,↓m3,↓m4,↓m5,↓m6,↓m7,↓m8,↓m9,↓Yw,↓ZI,↓Y2,↓ZE,↓Zi,↓bY,↓bG,↓aR,↓bD,↓cF,↓ZR,↓cL,↓Ys,↓Yq,↓Y7,↓az,↓Y3,↓Zf,↓ch,↓bB,↓Z1,↓ZC,↓ay,↓aQ,↓ZW,↓aS,↓ZU,↓bw,↓bf,↓bq,↓av,↓bj,↓ZM,↓cK,↓ZY,↓cV,↓aZ,↓bN,↓aL,↓aa,↓bp,↓ah,↓ZQ,↓ce,↓aI,↓bt,↓bS,↓Yv,↓aY,↓am,↓bu,↓cO,↓Yu,↓Zv,↓aT,↓bh,↓aB,↓Z6,↓cM,↓Zw,↓bL,↓cD,↓Z7,ofString_eq,String.reduceEq,↓reduceIte,jp,Bool.true_eq_false,ip,mI,tI,qm,t4,not_true_eq_false,not_false_eq_true,reduceCtorEq,Int.reduceLT,Int.reduceLE,Nat.reduceLT,Nat.reduceAdd,Nat.reduceLeDiff,Int.reduceNeg,and_self,or_true,true_or,$as,*])
variable {K L:BL}{Q:V->Hp->Prop}{f k:Int}{kp lt uf:Nat}{x:List Int}
section
variable {N w:Int}{U:BL}
theorem Do {a b:Int}:(Src.Ck a b).next i H=some (if a+i<b then some (.int (a+i)) else none):=rfl
theorem MY {z:Nat}(o:BB H ((z,.list [])::(DC a kp lt uf N w f K L []++F))) (hN:1<=N) (q:∀H' b gE lt' eU,BB H' (DC b gE lt' eU N 0 0 K K []++(DC a kp lt uf N w f K L []++F))->Q (.ref b) H'):W (call (n+2) (.fn 32 9) [.ref a,.ref z] H) Q E:=by
 rw[AV [("self",.ref a),("chosen",.ref z)] rfl rfl rfl rfl rfl];simp! only[o.at 1 rfl];refine o.hn λb H o=>?_;refine JU o hN λH pB pC kX o=>?_;simp! only[o.at 0 rfl,o.at 5 rfl,o.at 6 rfl];refine o.hn λkb H o=>?_;simp! only[o.at 1 rfl];refine o.hs 1 rfl λH o=>?_;simp! only[o.at 5 rfl,o.at 6 rfl,o.at 9 rfl,↓Vy,Dc (o.at 5 rfl),HC (o.at 9 rfl),um,qH,List.getElem?_nil,Option.map_none,o.at 1 rfl,o.at 0 rfl];refine o.hn λlb H o=>?_;simp! only[o.at 2 rfl];refine o.hs 2 rfl λH o=>?_;simp! only[];refine q _ b kb lb kX ?_;exact o.sel (A:=[_,_,_,_,_,_,_,_,_,_,_]) (T:=F) [2,1,0,5,7,8,9,10] ⋯
theorem Og (o:BB H (DC a kp lt uf N w f K L []++F)) (hN:1<=N) (q:∀H' b gE lt' eU,BB H' (DC b gE lt' eU N 0 0 K K []++(DC a kp lt uf N w f K L []++F))->Q (.ref b) H'):W (call (n+3) (.fn 32 10) [.ref a] H) Q E:=by
 rw[AV [("self",.ref a)] rfl rfl rfl rfl rfl];simp! only[o.at 0 rfl,o.at 3 rfl,um,qH,Ti,sM,Int.natAbs_zero,el,Int.sub_self,Int.toNat_zero,Hk];refine o.hn λz H o=>?_;simp! only[];refine MY o hN λH b gE lt' eU o=>?_;exact q _ _ _ _ _ o
end
section
variable {v:α}
theorem Ri:∀{D:List (Int×α)},Bm k D=some v->(k,v)∈D
 |[],h=>by cases h
 |(j,w)::r,h=>by
  rw[Bm] at h;split at h
  ·cases h;subst_vars;exact .head _
  ·exact .tail _ (Ri h)
theorem Hj:∀{D:List (Int×α)},k∉D.map (·.1)->Bm k D=none
 |[],_=>rfl
 |(j,w)::r,h=>by
  rw[Bm,T8 (λe=>h (by subst e;exact .head _)),Hj (λe=>h (.tail _ e))]
theorem F7:∀{D:List (Int×α)},(D.map (·.1)).Nodup->(k,v)∈D->Bm k D=some v
 |(j,w)::r,n,h=>by
  rw[Bm];rcases fg.mp h with e|h
  ·cases e;rw[UQ rfl]
  ·rw[T8 (λe=>(gl.mp n).1 (by subst e;exact eJ.mpr ⟨_,h,rfl⟩)),F7 (gl.mp n).2 h]
theorem LM:∀{D:List (Int×α)},k∉D.map (·.1)->Ar k v D=D++[(k,v)]
 |[],_=>rfl
 |(j,w)::r,h=>by
  rw[Ar,T8 (λe=>h (by subst e;exact .head _)),LM (λe=>h (.tail _ e))];rfl
theorem Gg:∀{D:List (Int×α)},Bm k D=some v->D.Perm ((k,v)::Cw k D)
 |[],h=>by cases h
 |(j,w)::r,h=>by
  rw[Bm] at h;rw[Cw];split at h
  ·cases h;subst_vars;rw[UQ rfl]
  ·rename_i z;rw[T8 z];exact ((Gg h).cons _).trans (.swap ..)
end
theorem sub_len {α:Type} [BEq α] [LawfulBEq α]:∀{l m:List α},l.Nodup->(∀x∈l,x∈m)->l.length<=m.length
 |[],m,_,_=>el _
 |a::l,m,n,s=>by
  have h1:=s a (.head _);have n1:=gl.mp n;have h2:=sub_len (l:=l) (m:=m.erase a) n1.2 λx hx=>(List.mem_erase_of_ne (by rintro rfl;exact n1.1 hx)).mpr (s x (.tail _ hx));have h3:=tD h1;have h4:=List.length_pos_of_mem h1;rw[KX];omega
abbrev BO (k:Int) (d:Nat) (h p:Int):O:=.inst 29 (BF (.int k) (.ref d) (.int h) (.int p))
variable {y:List Int}
section
variable {b d:Nat}{h p:Int}
theorem QU (o:BB H ((b,.inst 29 [])::F)) (q:∀H d,BB H ((b,BO k d 0 0)::(d,.ba x)::F)->Q .none H):W (call (n+1) (.fn 29 0) [.ref b,.int k,.bytes x] H) Q E:=by
 rw[AV [("self",.ref b),("number",.int k),("octets",.bytes x)] rfl rfl rfl rfl rfl];simp! only[o.at 0 rfl,↓CC,lk,pt,Kh,fx,ew,Ti];refine o.hs 0 rfl λH o=>?_;simp! only[];refine o.hn λd H o=>?_;simp! only[o.at 1 rfl,↓CC,lk,pt,Kh,fx,ew,Ti,KX];refine o.hs 1 rfl λH o=>?_;simp! only[o.at 1 rfl,↓CC,lk,pt,Kh,fx,ew,Ti,KX];refine o.hs 1 rfl λH o=>?_;simp! only[o.at 1 rfl,↓CC,lk,pt,Kh,fx,ew,Ti,KX];refine o.hs 1 rfl λH o=>?_;simp! only[];exact q _ d (o.sel (A:=[_,_]) [1,0] ⋯)
theorem P3 (hb:H[b]? =some (BO k d h p)):call (n+1) (.fn 29 1) [.ref b] H= .ok (.bool (decide (h=0)&&decide (p=0))) H:=by
 refine DA ?_;rw[AV [("self",.ref b)] rfl rfl rfl rfl rfl];by_cases e:h=0
 ·simp! only[hb,e,dT,tB]
 ·simp! only[hb,e,dq,t7]
theorem Hh (hb:H[b]? =some (BO k d h p)) (hd:H[d]? =some (.ba x)):call (n+1) (.fn 29 2) [.ref b] H= .ok (.bytes x) H:=by
 refine DA ?_;rw[AV [("self",.ref b)] rfl rfl rfl rfl rfl];simp! only[hb,hd]
theorem Ql (o:Ow P ((b,BO k d h p)::(d,.ba x)::F) H) (e:y.length=x.length) (q:∀H,Ow P ((b,BO k d h p)::(d,.ba y)::F) H->Q .none H):W (call (n+1) (.fn 29 6) [.ref b,.bytes y] H) Q E:=by
 rw[AV [("self",.ref b),("octets",.bytes y)] rfl rfl rfl rfl rfl];simp! only[o.at 0 rfl,o.at 1 rfl,e,dT,el,tZ,ix,t8,q7,nz,qU];refine o.hs 1 rfl λH o=>?_;simp! only[];exact q _ o
theorem Of (o:Ow P ((b,BO k d h p)::(d,.ba x)::F) H) (hx:x.length<=1000) (q:∀H,Ow P ((b,BO k d h p)::(d,.ba (List.replicate x.length 0))::F) H->Q .none H):W (call (n+1) (.fn 29 7) [.ref b] H) Q E:=by
 rw[AV [("self",.ref b)] rfl rfl rfl rfl rfl];have h1:(0:Int)<=x.length:=by omega
 have h2:(x.length:Int)<=1000000:=by omega
 simp! only[o.at 0 rfl,o.at 1 rfl,h1,h2,dT,el,tZ,ix,t8,q7,nz,qU,eD,lL];refine o.hs 1 rfl λH o=>?_;simp! only[];exact q _ o
end
structure Pm where
 (dk c rw bn j sp:Nat)
structure Bf where
 (a d:Nat)
 k:Int
 x:List Int
 p:Int
abbrev BW:=Int->List Int
def Ci (x:List Int):Prop:=x.length=48/\Cc x
def pn (P:List Int) (k:Int):Int:=if k∈P then 1 else 0
def upd (B:BW) (k:Int) (x:List Int):BW:=λi=>if i=k then x else B i
variable {B:BW}
theorem H7:upd B k (B k)=B:=by funext i;unfold upd;split<;>simp_all
abbrev CO (p:Pm) (hi rd wr:Int):O:=.inst 30 (CF (.ref p.dk) (.int 14) (.int 48) (.ref p.rw) (.ref p.bn) (.int hi) (.int rd) (.int wr))
abbrev bC (b:Bf):HL:=[(b.a,BO b.k b.d 0 b.p),(b.d,.ba b.x)]
abbrev cC (p:Pm) (kp lt uf:Nat) (w f hi rd wr:Int) (K L U:BL) (D:List (Int×V)) (R:List Nat) (bs:List Bf):HL:=
 (p.c,CO p hi rd wr)::(p.rw,.list (R.map .ref))::(p.bn,.U' D)::(DC p.dk kp lt uf (14+p.sp) w f K L U++bs.flatMap bC)
structure Fs (sp:Nat) (B:BW) (P Dt:List Int) (u m:Nat) (hd:List (Int×Nat)) (K L U:BL) (D:List (Int×V)) (R:List Nat) (bs:List Bf):Prop where
 lu:app U K=L
 ul:U.length<=u
 kn:(L.map (·.1)).Nodup
 kr:∀q∈L,0<=q.1/\q.1<14+sp
 rp:R.Perm (hd.map (·.2)++bs.map (·.a))
 dp:D.Perm (hd.map (λq=>(q.1,.ref q.2))++bs.map λb=>(b.k,.ref b.a))
 nd:(hd.map (·.1)++bs.map (·.k)).Nodup
 ln:hd.length+bs.length<=m
 bx:∀b∈bs,b.x=B b.k/\b.p=pn P b.k/\0<=b.k/\b.k<14+sp
 pc:∀k∈P,k∈hd.map (·.1)++bs.map (·.k)
 dl:∀k,k∉Dt->Lb L k=B k
 ds:∀k∈Dt,k∈P
 bk:∀k,Ci (B k)
 pl:P.length<=8
 hs:2<=sp/\sp<=13
 hm:m<=14
def CK (p:Pm) (B:BW) (P Dt:List Int) (u m:Nat) (hd:List (Int×Nat)):HL->Prop:=λC=>∃kp lt uf w f hi rd wr K L U D R bs,C=cC p kp lt uf w f hi rd wr K L U D R bs/\Fs p.sp B P Dt u m hd K L U D R bs
theorem Oz:∀{U K:BL},K.length<=(app U K).length
 |[],K=>ix _
 |q::U,K=>by
  refine lv ?_ (Oz (U:=U) (K:=Ar q.1 q.2 K));generalize q.1=k,q.2=v
  induction K with
  |nil=>exact el _
  |cons a r ih=>obtain ⟨j,w⟩:=a;rw[Ar];split<;>simp_all
theorem dC:∀(n:Nat) (l:List Int),l.Nodup->(∀x∈l,0<=x/\x<n)->l.length<=n:=λn l h s=>by
 have:=sub_len (m:=(List.range n).map Int.ofNat) h λx hx=>eJ.mpr ⟨x.toNat,pd.mpr (by have:=s x hx;omega),sH (s x hx).1⟩
 simpa using this
variable {D:List (Int×V)}{Dt:List Int}{R:List Nat}{ad m:Nat}{bs':List Bf}{hd:List (Int×Nat)}{p:Pm}
section
variable {u sp:Nat}{w hi rd wr:Int}{U:BL}{bs:List Bf}{P:List Int}{b:Bf}
theorem Fs.len (c:Fs sp B P Dt u m hd K L U D R bs):L.length<=27:=by
 have:=dC (14+sp) _ c.kn (λx hx=>by obtain⟨q,hq,rfl⟩:=eJ.mp hx;have:=c.kr q hq;omega)
 have:=c.hs
 rw[eP] at*;omega
theorem Fs.Yb (c:Fs sp B P Dt u m hd K L U D R bs):K.length<=27:=by
 have:=c.len;rw[←c.lu] at this;exact lv Oz this
theorem LP {B X:HL}:((A++(B++X))++F).Perm (B++((A++X)++F)):=
 ((iq A B X).append_right F).trans (by rw[kt])
theorem GV (pm:bs.Perm (b::bs')):(cC p kp lt uf w f hi rd wr K L U D R bs++F).Perm (bC b++(cC p kp lt uf w f hi rd wr K L U D R bs'++F)):=by
 have h1:(bs.flatMap bC).Perm (bC b++bs'.flatMap bC):=pm.flatMap_right bC;exact (List.Perm.append_right F (h1.append_left ([_,_,_]++DC p.dk kp lt uf (14+p.sp) w f K L U))).trans (LP (A:=[_,_,_]++DC p.dk kp lt uf (14+p.sp) w f K L U))
theorem Fs.dn (c:Fs sp B P Dt u m hd K L U D R bs):(D.map (·.1)).Nodup:=by
 refine ((c.dp.map (·.1)).nodup_iff).mpr ?_
 have:=c.nd
 simpa [gL,qI,sj] using this
theorem Fs.lk (c:Fs sp B P Dt u m hd K L U D R bs) (h:b∈bs):Bm b.k D=some (.ref b.a):=F7 c.dn ((c.dp.mem_iff).mpr (my _ (eJ.mpr ⟨b,h,rfl⟩)))
theorem Fs.ck (c:Fs sp B P Dt u m hd K L U D R bs) (h:k∉hd.map (·.1)++bs.map (·.k)):Bm k D=none:=by
 refine Hj λe=>h ?_
 have:=((c.dp.map (·.1)).mem_iff).mp e
 simpa [gL,qI,sj] using this
theorem Fs.Xs (c:Fs sp B P Dt u m [(k,ad)] K L U D R bs):Bm k D=some (.ref ad):=F7 c.dn ((c.dp.mem_iff).mpr (.head _))
theorem Fs.rl (c:Fs sp B P Dt u m hd K L U D R bs):R.length=hd.length+bs.length:=by
 have:=c.rp.length_eq;simpa using this
theorem Fs.X9 (c:Fs sp B P Dt u m hd K L U D R bs):D.length=hd.length+bs.length:=by
 have:=c.dp.length_eq;simpa using this
theorem Uf (o:BB H (cC p kp lt uf w f hi rd wr K L U D R bs++F)):(bs.map (·.a)).Nodup:=by
 have h:=o.1;rw[gL,kz] at h;have h:=(kz.mp (gL▸(gl.mp (gl.mp (gl.mp h.1).2).2).2)).2.1;refine qR ?_ h;clear h;clear h o
 induction bs with
 |nil=>exact .refl _
 |cons b r ih=>exact (ih.cons _).cons₂ _
theorem Df {a:α}{l:List α}(h:a∈l):∃l',l.Perm (a::l'):=by
 obtain⟨s,t,rfl⟩:=List.append_of_mem h;exact⟨s++t,og⟩
theorem MC (h:H[p.c]? =some (CO p hi rd wr)) (iN:H[p.dk]? =some (DO kp lt uf (14+p.sp) w f)) (h0:0<=k) (h1:k<14+p.sp):call (n+1) (.fn 30 1) [.ref p.c,.int k] H= .ok .none H:=by
 refine DA ?_;rw[AV [("self",.ref p.c),("number",.int k)] rfl rfl rfl rfl rfl];simp! only[h,iN,h0,h1,dT]
theorem N1 (c:Fs p.sp B P Dt u 14 [] K L U D R bs) (o:BB H (cC p kp lt uf w f hi rd wr K L U D R bs++F)) (q:∀H D R bs',(∀b∈bs',b∈bs)->Fs p.sp B P Dt u 13 [] K L U D R bs'->BB H (cC p kp lt uf w f hi rd wr K L U D R bs'++F)->Q .none H):W (call (n+2) (.fn 30 4) [.ref p.c] H) Q E:=by
 rw[AV [("self",.ref p.c)] rfl rfl rfl rfl rfl];refine seq λA hA=>?_;have rl:=c.rl;by_cases hf:R.length<14
 ·have hf':(R.length:Int)<14:=by omega
  simp! only[o.at 0 rfl,o.at 1 rfl,eP,hf',dT];exact q _ _ _ _ (λb h=>h) {c with ln:=by have:=c.ln;simp at rl ⊢;omega,hm:=by omega} o
 ·have hf':¬(R.length:Int)<14:=by omega
  have hR:R.length=14:=by have:=c.ln;simp at rl this;omega
  simp! only[o.at 0 rfl,o.at 1 rfl,eP,hf',dq];apply hA;clear hA A;refine seq λA _=>?_;simp! only[o.at 0 rfl,o.at 1 rfl];refine CH (λi loc h=>lk "self" loc=some (.ref p.c)/\h=H/\∀j,j<i->∃b∈bs,R[j]? =some b.a/\b.k∈P) 14 ?_ ?_ _ 0 _ _ (by simp [hR]) (el _) ⟨rfl,rfl,λj h=>by omega⟩
  ·rintro i loc h hi ⟨hl,rfl,hp⟩;have jX:R[i]? =some R[i]:=d6 ⋯;obtain⟨b,hb,hba⟩:∃b∈bs,b.a=R[i]:=by
    have:=(c.rp.mem_iff).mp (qe (l:=R) (n:=i) ⋯)
    simpa using this
   refine⟨.tup [.int i,.ref b.a],?_,?_⟩
   ·rw[HC (o.at 1 rfl),fw,jX,hba];rfl
   ·obtain⟨bs',pm⟩:=Df hb;have o1:=o.perm (GV pm);have hfr:=P3 (n:=n) (o1.at 0 rfl);obtain⟨pD,gF,_⟩:=c.bx b hb;by_cases hP:b.k∈P
    ·have e1:b.p=1:=by rw[gF,pn,UQ hP]
     have hb0:=o1.at 0 rfl;rw[e1] at hfr hb0;replace hfr:call (n+1) (.fn 29 1) [.ref b.a] h= .ok (.bool false) h:=hfr;simp! only[hb0,hfr,KX,Ti];refine⟨?_,trivial,λj hj=>?_⟩
     ·simpa [AD,ofString_eq] using hl
     ·by_cases e:j=i
      ·subst e;exact⟨b,hb,by rw[jX,hba],hP⟩
      ·exact hp j ⋯
    ·have e1:b.p=0:=by rw[gF,pn,T8 hP]
     have hb0:=o1.at 0 rfl;rw[e1] at hfr hb0;replace hfr:call (n+1) (.fn 29 1) [.ref b.a] h= .ok (.bool true) h:=hfr;simp! only[hb0,hfr,KX,Ti,↓AK hl,o1.at 2 rfl,o1.at 4 rfl,c.lk hb,ew];refine o1.hs 4 rfl λH o2=>?_;have c1:(0<=(i:Int)/\i<R.length)=True:=uD ⟨by omega,by omega⟩;simp! only[↓AK hl,o2.at 2 rfl,o2.at 3 rfl,eP,eD,c1];refine o2.hs 3 rfl λH o3=>?_;simp! only[];rw[mm,←rj,←uH,←gL,←mm] at o3;have nd:=(pm.map (·.k)).nodup_iff.mp (show (bs.map (·.k)).Nodup from c.nd);have hd1:(Cw b.k D).Perm (bs'.map λb=>(b.k,.ref b.a)):=((Gg (c.lk hb)).symm.trans (c.dp.trans (pm.map _))).cons_inv;have hr1:(R.eraseIdx i).Perm (bs'.map (·.a)):=by
      have h1:R.Perm (b.a::R.eraseIdx i):=by
       rw[mm,hba];have e2:R.Perm (R.take i++R[i]::R.drop (i+1)):=by rw[qh,mx]
       exact e2.trans og
      exact (h1.symm.trans (c.rp.trans (pm.map _))).cons_inv
     refine q _ _ _ bs' (λb' h=>pm.mem_iff.mpr (.tail _ h)) {c with rp:=hr1,dp:=hd1,nd:=(gl.mp nd).2,ln:= ?_,bx:=λb' h=>c.bx b' (pm.mem_iff.mpr (.tail _ h)),pc:=λk hk=>?_,hm:=by omega} (BB.drops (L:=[_,_]) o3)
     ·have:=pm.length_eq;have:=c.ln;simp at*;omega
     ·have:=(pm.map (·.k)).mem_iff.mp (c.pc k hk)
      rcases fg.mp this with rfl|h
      ·exact absurd hk hP
      ·exact h
  ·rintro loc h ⟨_,_,hp⟩;exfalso;have all:∀b∈bs,b.k∈P:=λb hb=>by
    have h1:b.a∈R:=(c.rp.mem_iff).mpr (eJ.mpr ⟨b,hb,rfl⟩);obtain⟨j,hj,e⟩:=List.mem_iff_getElem.mp h1;obtain⟨b',hb',e',hP⟩:=hp j ⋯;rw[d6 hj,e] at e';obtain⟨bs',pm⟩:=Df hb;rcases fg.mp (pm.mem_iff.mp hb') with rfl|hm
    ·exact hP
    ·exact absurd (eJ.mpr ⟨b',hm,(mM e').symm⟩) (gl.mp ((pm.map (·.a)).nodup_iff.mp (Uf o))).1
   have:=sub_len (m:=P) c.nd λx hx=>by
    obtain⟨b,hb,rfl⟩:=eJ.mp hx;exact all b hb
   have:=c.pl
   simp at*;omega
end
variable {dd:Nat}
section
variable {C:HL}{u sp:Nat}{w hi rd wr:Int}{U:BL}{bs:List Bf}{P eH:List Int}{b:Bf}
theorem BB.sw (o:BB H (C++(A++F))):BB H (A++(C++F)):=o.perm (iq _ _ _)
theorem Fs.out (c:Fs sp B P Dt u m [] K L U D R bs) (pm:bs.Perm (b::bs')):Fs sp B P Dt u m [(b.k,b.a)] K L U D R bs':=
 {c with rp:=c.rp.trans (pm.map _),dp:=c.dp.trans (pm.map _),nd:=(show ((b::bs').map (·.k)).Nodup from (pm.map (·.k)).nodup_iff.mp (show (bs.map (·.k)).Nodup from c.nd)),ln:=by have:=c.ln;have:=pm.length_eq;simp at*;omega,bx:=λb' h=>c.bx b' (pm.mem_iff.mpr (.tail _ h)),pc:=λk h=>(pm.map (·.k)).mem_iff.mp (c.pc k h)}
theorem Eo (hc:H[p.c]? =some (CO p hi rd wr)) (hn:H[p.bn]? =some (.U' D)) (hb:H[ad]? =some (BO k dd 1 f)) (e:Bm k D=some (.ref ad)):call (n+1) (.fn 30 2) [.ref p.c,.ref ad] H= .ok .none H:=by
 refine DA ?_;rw[AV [("self",.ref p.c),("buffer",.ref ad)] rfl rfl rfl rfl rfl];simp! only[hc,hn,hb,e,q8,↓w_or,dq,(by decide:decide ((1:Int)=0)=false)]
theorem Gc (o:Ow (CK p B P Dt u 14 []) F H) (h0:0<=k) (h1:k<14+p.sp) (q:∀H ad dd,Ow (CK p B P Dt u 14 [(k,ad)]) ((ad,BO k dd 1 (pn P k))::(dd,.ba (B k))::F) H->Q (.ref ad) H):W (call (n+3) (.fn 30 3) [.ref p.c,.int k] H) Q E:=by
 obtain⟨_,⟨kp,lt,uf,w,f,hi,rd,wr,K,L,U,D,R,bs,rfl,c⟩,o⟩:=o;rw[AV [("self",.ref p.c),("number",.int k)] rfl rfl rfl rfl rfl];have nb:=MC (n:=n+1) (o.at 0 rfl) (o.at 3 rfl) h0 h1;by_cases hk:k∈bs.map (·.k)
 ·obtain⟨b,hb,rfl⟩:=eJ.mp hk;obtain⟨bs',pm⟩:=Df hb;have o1:=o.perm (GV pm);simp! only[o1.at 2 rfl,nb,o1.at 4 rfl,c.lk hb,q8];refine o1.hs 2 rfl λH o2=>?_;simp! only[o2.at 0 rfl];refine o2.hs 0 rfl λH o3=>?_;simp! only[];obtain⟨e1,e2,_⟩:=c.bx b hb;refine q _ b.a b.d ⟨cC p kp lt uf w f (hi+1) rd wr K L U D R bs',⟨_,_,_,_,_,_,_,_,_,_,_,_,_,_,rfl,c.out pm⟩,?_⟩;have o4:=o3.sw (C:=[_,_]) (A:=cC p kp lt uf w f (hi+1) rd wr K L U D R bs');rw[←e1,←e2];exact o4
 ·have c0:=c.ck (k:=k) hk;have d0:k∉Dt:=λh=>hk (c.pc k (c.ds k h));simp! only[o.at 0 rfl,nb,o.at 2 rfl,c0,tK];refine N1 c o λH D R bs' sub c o=>?_;have hk':k∉bs'.map (·.k):=λh=>hk (by obtain⟨b,hb,e⟩:=eJ.mp h;exact eJ.mpr ⟨b,sub b hb,e⟩);have dr:=JC (n:=n) (k:=k) (o.at 3 rfl) (o.at 5 rfl) h0 h1;rw[c.dl k d0] at dr;simp! only[o.at 0 rfl,o.at 3 rfl,dr];refine o.hn λad H o=>?_;refine QU o λH dd o=>?_;simp! only[o.at 2 rfl];refine o.hs 2 rfl λH o=>?_;have ld:D.length<lid:=by have:=c.X9;have:=c.ln;simp at*;unfold lid;omega
  have lr:R.length<lid:=by have:=c.rl;have:=c.ln;simp at*;unfold lid;omega
  simp! only[o.at 2 rfl,o.at 4 rfl,ld];refine o.hs 4 rfl λH o=>?_;simp! only[o.at 2 rfl,o.at 3 rfl,eP,lr];refine o.hs 3 rfl λH o=>?_;simp! only[o.at 0 rfl];refine o.hs 0 rfl λH o=>?_;simp! only[];have kD:k∉D.map (·.1):=λh=>by
   have:=(c.dp.map (·.1)).mem_iff.mp h
   exact hk' (by simpa [qI,sj] using this)
  have kP:k∉P:=λh=>hk' (c.pc k h);refine q _ ad dd ⟨cC p kp lt uf w f hi (rd+1) wr K L U (Ar k (.ref ad) D) (R++[ad]) bs',⟨_,_,_,_,_,_,_,_,_,_,_,_,_,_,rfl,?_⟩,?_⟩
  ·refine {c with rp:=(na).trans ((c.rp).cons _),dp:= ?_,nd:=gl.mpr ⟨hk',c.nd⟩,ln:= ?_,pc:=λk h=>.tail _ (c.pc k h),hm:=by omega}
   ·rw[LM kD];exact (na).trans ((c.dp).cons _)
   ·have:=c.ln;simp at*;omega
  ·have e:pn P k=0:=T8 kP;rw[show R.map V.ref++[V.ref ad]=(R++[ad]).map V.ref by rw[gL];rfl] at o;rw[e];have o4:=o.sw (C:=[_,_]) (A:=cC p kp lt uf w f hi (rd+1) wr K L U (Ar k (.ref ad) D) (R++[ad]) bs');exact o4
theorem LI {h':Int}{pi:Int}(h:H[ad]? =some (BO k dd h' pi)):Cs H ad=true:=by unfold Cs;rw[h];rfl
theorem Lz (H:Hp) (b:Nat):∀{R:List Nat},b∈R->(∀a∈R,Cs H a=true)->CB H b (R.map .ref)=some ((R.erase b).map .ref)
 |a::r,h,s=>by
  rw[ij,CB,List.erase_cons];by_cases e:a=b
  ·subst e;rw[UQ rfl];simp
  ·have h':b∈r:=by rcases fg.mp h with rfl|h;exact absurd rfl e;exact h
   rw[T8 e,UQ (s a (.head _)),Lz H b h' λa ha=>s a (.tail _ ha)];simp [e]
theorem Fs.Rg (c:Fs sp B P Dt u m [(k,ad)] K L U D R bs) (hx:Ci x) (hk:k∈Dt∨x=B k) (h0:0<=k) (h1:k<14+sp) (rp:R'.Perm R):Fs sp (upd B k x) P Dt u m [] K L U D R' (⟨ad,dd,k,x,pn P k⟩::bs):=by
 have nk:∀b∈bs,b.k≠k:=λb hb e=>(gl.mp c.nd).1 (eJ.mpr ⟨b,hb,e⟩);refine {c with rp:=rp.trans c.rp,dp:=c.dp,nd:=c.nd,ln:=by have:=c.ln;simp at*;omega,bx:=λb hb=>?_,pc:=c.pc,dl:=λi hi=>?_,bk:=λi=>?_}
 ·rcases fg.mp hb with rfl|hb
  ·exact⟨by unfold upd;rw[UQ rfl],rfl,h0,h1⟩
  ·unfold upd;rw[T8 (nk b hb)];exact c.bx b hb
 ·unfold upd;split
  ·subst_vars
   rcases hk with h|h
   ·exact absurd h hi
   ·rw[h];exact c.dl _ hi
  ·exact c.dl i hi
 ·unfold upd;split
  ·exact hx
  ·exact c.bk i
theorem DX (o:Ow (CK p B P Dt u 14 [(k,ad)]) ((ad,BO k dd 1 (pn P k))::(dd,.ba x)::F) H) (h0:0<=k) (h1:k<14+p.sp) (hx:Ci x) (hk:k∈Dt∨x=B k) (q:∀H,Ow (CK p (upd B k x) P Dt u 14 []) F H->Q .none H):W (call (n+2) (.fn 30 5) [.ref p.c,.ref ad] H) Q E:=by
 obtain⟨_,⟨kp,lt,uf,w,f,hi,rd,wr,K,L,U,D,R,bs,rfl,c⟩,o⟩:=o;have o1:=o.sw (A:=[_,_]);rw[AV [("self",.ref p.c),("buffer",.ref ad)] rfl rfl rfl rfl rfl];have nh:=Eo (n:=n) (o1.at 2 rfl) (o1.at 4 rfl) (o1.at 0 rfl) c.Xs;simp! only[o1.at 0 rfl,o1.at 2 rfl,nh];refine o1.hs 0 rfl λH o1=>?_;have gG:∀a∈R,Cs H a=true:=λa ha=>by
  rcases fg.mp (c.rp.mem_iff.mp ha) with rfl|h
  ·exact LI (o1.at 0 rfl)
  ·obtain⟨b,hb,rfl⟩:=eJ.mp h;obtain⟨bs',pm⟩:=Df hb;have o2:BB H ([_,_]++(cC p kp lt uf w f hi rd wr K L U D R bs++F)):=o1;exact LI ((o2.sw.perm (GV pm)).at 0 rfl)
 have adR:ad∈R:=c.rp.mem_iff.mpr (.head _);have er:=Lz H ad adR gG;have ib:=gG ad adR;have lr:(R.erase ad).length<lid:=by
  have:=c.rl;have:=c.ln;have:=tD adR;simp at*;unfold lid;omega
 simp! only[o1.at 0 rfl,o1.at 2 rfl,o1.at 3 rfl,ib,er,(by decide:decide ((1:Int)-1=0)=true)];refine o1.hs 3 rfl λH o1=>?_;simp! only[o1.at 2 rfl,o1.at 3 rfl,eP,lr];refine o1.hs 3 rfl λH o1=>?_;simp! only[];rw[show (R.erase ad).map V.ref++[V.ref ad]=(R.erase ad++[ad]).map V.ref by rw[gL];rfl] at o1;refine q _ ⟨cC p kp lt uf w f hi rd wr K L U D (R.erase ad++[ad]) (⟨ad,dd,k,x,pn P k⟩::bs),⟨_,_,_,_,_,_,_,_,_,_,_,_,_,_,rfl,c.Rg hx hk h0 h1 ?_⟩,?_⟩
 ·exact na.trans (List.perm_cons_erase adR).symm
 ·have o2:BB H (bC ⟨ad,dd,k,x,pn P k⟩++(cC p kp lt uf w f hi rd wr K L U D (R.erase ad++[ad]) bs++F)):=o1;exact o2.perm (GV (.refl _)).symm
end
section
variable {C:HL}{u sp:Nat}{w hi rd wr:Int}{U:BL}{bs:List Bf}{P eH:List Int}{b:Bf}
theorem Uc {i:Int}(h:i≠k):pn (P++[k]) i=pn P i:=by unfold pn;simp [h]
theorem Fs.nk (c:Fs sp B P Dt u m [(k,ad)] K L U D R bs):∀b∈bs,b.k≠k:=λb hb e=>(gl.mp c.nd).1 (eJ.mpr ⟨b,hb,e⟩)
theorem OI (o:Ow (CK p B P Dt u 14 [(k,ad)]) ((ad,BO k dd 1 (pn P k))::F) H) (hk:k∉P) (hP:P.length<=7) (q:∀H,Ow (CK p B (P++[k]) (Dt++[k]) u 14 [(k,ad)]) ((ad,BO k dd 1 (pn (P++[k]) k))::F) H->Q .none H):W (call (n+2) (.fn 30 6) [.ref p.c,.ref ad] H) Q E:=by
 obtain⟨_,⟨kp,lt,uf,w,f,hi,rd,wr,K,L,U,D,R,bs,rfl,c⟩,o⟩:=o;have o1:=o.sw (A:=[_]);rw[AV [("self",.ref p.c),("buffer",.ref ad)] rfl rfl rfl rfl rfl];have nh:=Eo (n:=n) (o1.at 1 rfl) (o1.at 3 rfl) (o1.at 0 rfl) c.Xs;simp! only[o1.at 0 rfl,o1.at 1 rfl,nh];refine o1.hs 0 rfl λH o1=>?_;simp! only[];refine q _ ⟨cC p kp lt uf w f hi rd wr K L U D R bs,⟨_,_,_,_,_,_,_,_,_,_,_,_,_,_,rfl,{c with bx:=λb hb=>?_,pc:=λi hi=>?_,dl:=λi hi=>c.dl i λh=>hi (mo _ h),ds:=λi hi=>?_,pl:=by simp;omega}⟩,?_⟩
 ·rw[Uc (c.nk b hb)];exact c.bx b hb
 ·rcases eI.mp hi with h|h
  ·exact c.pc i h
  ·cases eA.mp h;exact .head _
 ·rcases eI.mp hi with h|h
  ·exact mo _ (c.ds i h)
  ·exact my _ h
 ·have e:pn (P++[k]) k=pn P k+1:=by unfold pn;simp [hk]
  rw[e];have o2:BB H ([(ad,BO k dd 1 (pn P k+1))]++(cC p kp lt uf w f hi rd wr K L U D R bs++F)):=o1;exact o2.sw
theorem Kw (o:Ow (CK p B (k::P) [] u 14 []) F H) (hk:k∉P) (q:∀H,Ow (CK p B P [] u 14 []) F H->Q .none H):W (call (n+1) (.fn 30 7) [.ref p.c,.int k] H) Q E:=by
 obtain⟨_,⟨kp,lt,uf,w,f,hi,rd,wr,K,L,U,D,R,bs,rfl,c⟩,o⟩:=o;rw[AV [("self",.ref p.c),("number",.int k)] rfl rfl rfl rfl rfl];obtain⟨b,hb,rfl⟩:=eJ.mp (show k∈bs.map (·.k) from c.pc k (.head _));obtain⟨bs',pm⟩:=Df hb;have o1:=o.perm (GV pm);obtain⟨e1,e2,e3⟩:=c.bx b hb;have e4:b.p=1:=by rw[e2,pn,UQ (.head _)]
 have hb0:=o1.at 0 rfl;rw[e4] at hb0;simp! only[o1.at 2 rfl,o1.at 4 rfl,c.lk hb,hb0,(by decide:decide ((1:Int)=0)=false)];refine o1.hs 0 rfl λH o1=>?_;simp! only[];have nd:=(pm.map (·.k)).nodup_iff.mp (show (bs.map (·.k)).Nodup from c.nd);refine q _ ⟨cC p kp lt uf w f hi rd wr K L U D R (⟨b.a,b.d,b.k,b.x,0⟩::bs'),⟨_,_,_,_,_,_,_,_,_,_,_,_,_,_,rfl,{c with rp:=c.rp.trans (pm.map _),dp:=c.dp.trans (pm.map _),nd:=nd,ln:= ?_,bx:=λb' hb'=>?_,pc:=λi hi=>(pm.map (·.k)).mem_iff.mp (c.pc i (.tail _ hi)),ds:=λi hi=>(by cases hi),pl:=by have:=c.pl;simp at this;omega}⟩,?_⟩
 ·have:=c.ln;have:=pm.length_eq;simp at*;omega
 ·rcases fg.mp hb' with rfl|hb'
  ·exact⟨e1,by rw[pn,T8 hk],e3⟩
  ·have hx:=c.bx b' (pm.mem_iff.mpr (.tail _ hb'));have ne:b'.k≠b.k:=λe=>(gl.mp nd).1 (eJ.mpr ⟨b',hb',e⟩);have e5:pn (b.k::P) b'.k=pn P b'.k:=by unfold pn;simp [ne]
   rwa [e5] at hx
 ·have o2:BB H (bC ⟨b.a,b.d,b.k,b.x,0⟩++(cC p kp lt uf w f hi rd wr K L U D R bs'++F)):=o1;exact o2.perm (GV (.refl _)).symm
theorem SL {i:Int}:Lb (Ar k x L) i=if i=k then x else Lb L i:=by
 unfold Lb;rw[Bk];split<;>rfl
theorem Dr {α:Type}{k:Int}{v:α}:∀{l:List (Int×α)},(Ar k v l).map (·.1)=if k∈l.map (·.1) then l.map (·.1) else l.map (·.1)++[k]
 |[]=>by simp [Ar]
 |(j,w)::r=>by
  rw[Ar];by_cases h:j=k
  ·rw[UQ h,UQ (by subst h;exact .head _)];rfl
  ·rw[T8 h,ij,Dr (l:=r)];by_cases h2:k∈r.map (·.1)
   ·rw[UQ h2,UQ (.tail _ h2)];rfl
   ·rw[T8 h2,T8 (λe=>by rcases fg.mp e with rfl|e;exact h rfl;exact h2 e)];rfl
theorem Fs.put (c:Fs sp B P Dt u m [(k,ad)] K L U D R bs) (hx:Ci x) (h0:0<=k) (h1:k<14+sp) (hD:∀i∈Dt,i≠k->i∈eH) (gH:∀i∈eH,i∈P):Fs sp (upd B k x) P eH (u+1) m [(k,ad)] K (Ar k x L) (U++[(k,x)]) D R bs:=by
 refine {c with lu:= ?_,ul:=by have:=c.ul;simp;omega,kn:= ?_,kr:= ?_,bx:=λb hb=>?_,dl:=λi hi=>?_,ds:=gH,bk:=λi=>?_}
 ·have:=c.lu;unfold app at*;rw[qV,this];rfl
 ·rw[Dr];split
  ·exact c.kn
  ·rename_i h;exact kz.mpr ⟨c.kn,by simp,λa ha b hb e=>by cases eA.mp hb;subst e;exact h ha⟩
 ·have h2:∀i:Int,i∈(Ar k x L).map (·.1)->0<=i/\i<14+sp:=λi hi=>by
   rw[Dr] at hi;have h3:∀i:Int,i∈L.map (·.1)->0<=i/\i<14+sp:=λi hi=>by obtain⟨q,hq,rfl⟩:=eJ.mp hi;exact c.kr q hq
   split at hi
   ·exact h3 i hi
   ·rcases eI.mp hi with h|h
    ·exact h3 i h
    ·cases eA.mp h;exact⟨h0,h1⟩
  exact λq hq=>h2 _ (eJ.mpr ⟨q,hq,rfl⟩)
 ·unfold upd;rw[T8 (c.nk b hb)];exact c.bx b hb
 ·rw[SL];unfold upd;split
  ·rfl
  ·rename_i h;exact c.dl i λh'=>hi (hD i h' h)
 ·unfold upd;split
  ·exact hx
  ·exact c.bk i
theorem LJ (o:Ow (CK p B P Dt u 14 [(k,ad)]) ((ad,BO k dd 1 (pn P k))::(dd,.ba x)::F) H) (h0:0<=k) (h1:k<14+p.sp) (hx:Ci x) (hu:u<1000) (hD:∀i∈Dt,i≠k->i∈eH) (gH:∀i∈eH,i∈P) (q:∀H,Ow (CK p (upd B k x) P eH (u+1) 14 [(k,ad)]) ((ad,BO k dd 1 (pn P k))::(dd,.ba x)::F) H->Q .none H):W (call (n+3) (.fn 30 8) [.ref p.c,.ref ad] H) Q E:=by
 obtain⟨_,⟨kp,lt,uf,w,f,hi,rd,wr,K,L,U,D,R,bs,rfl,c⟩,o⟩:=o;have o1:=o.sw (A:=[_,_]);rw[AV [("self",.ref p.c),("buffer",.ref ad)] rfl rfl rfl rfl rfl];have nh:=Eo (n:=n+1) (o1.at 2 rfl) (o1.at 4 rfl) (o1.at 0 rfl) c.Xs;have bo:=Hh (n:=n+1) (o1.at 0 rfl) (o1.at 1 rfl);simp! only[o1.at 0 rfl,o1.at 2 rfl,nh,o1.at 5 rfl,bo];have ll:L.length<lid:=by have:=c.len;unfold lid;omega
 have lu:U.length<lid:=by have:=c.ul;unfold lid;omega
 obtain⟨H2,e,o2⟩:=Fk (n:=n) (o1.sel (A:=[_,_,_,_,_,_,_,_,_]) [5,6,7,8,0,1,2,3,4] ⋯) h0 h1 hx.1 ll lu;simp! only[e,o2.at 6 rfl];refine o2.hs 6 rfl λH o2=>?_;simp! only[];refine q _ ⟨cC p kp lt uf (w+1) f hi rd (wr+1) K (Ar k x L) (U++[(k,x)]) D R bs,⟨_,_,_,_,_,_,_,_,_,_,_,_,_,_,rfl,c.put hx h0 h1 hD gH⟩,?_⟩;have o3:=o2.sel (A:=[_,_,_,_,_,_,_,_,_]) [4,5,6,7,8,0,1,2,3] ⋯;have o4:BB H ([(ad,BO k dd 1 (pn P k)),(dd,.ba x)]++(cC p kp lt uf (w+1) f hi rd (wr+1) K (Ar k x L) (U++[(k,x)]) D R bs++F)):=o3;exact o4.sw
theorem ER (o:Ow (CK p B P Dt u 14 hd) F H) (hu:u<1000) (q:∀H,Ow (CK p B P Dt 0 14 hd) F H->Q .none H):W (call (n+3) (.fn 30 9) [.ref p.c] H) Q E:=by
 obtain⟨_,⟨kp,lt,uf,w,f,hi,rd,wr,K,L,U,D,R,bs,rfl,c⟩,o⟩:=o;rw[AV [("self",.ref p.c)] rfl rfl rfl rfl rfl];simp! only[o.at 0 rfl,o.at 3 rfl];have lu:K.length+U.length<lid:=by have:=c.ul;have:=c.Yb;unfold lid;omega
 refine Hf (o.sel (A:=[_,_,_,_,_,_,_]) [3,4,5,6,0,1,2] ⋯) lu λH eU o=>?_;simp! only[];refine q _ ⟨cC p kp lt eU w (f+1) hi rd wr L L [] D R bs,⟨_,_,_,_,_,_,_,_,_,_,_,_,_,_,rfl,{c with lu:=rfl,ul:=ix _}⟩,?_⟩;rw[c.lu] at o;exact o.sel (A:=[_,_,_,_,_,_,_]) [4,5,6,0,1,2,3] ⋯
theorem IU (o:Ow (CK p B P Dt u 14 []) F H) (h0:0<=k) (h1:k<14+p.sp) (hB:Ci (B k)) (q:∀H,Ow (CK p B P Dt u 14 []) F H->Q (.bytes (B k)) H):W (call (n+4) (.fn 30 10) [.ref p.c,.int k] H) Q E:=by
 have hc:∃hi rd wr,H[p.c]? =some (CO p hi rd wr):=by
  obtain⟨_,⟨kp,lt,uf,w,f,hi,rd,wr,K,L,U,D,R,bs,rfl,c⟩,o⟩:=o;exact⟨_,_,_,o.at 0 rfl⟩
 obtain⟨_,_,_,hc⟩:=hc;rw[AV [("self",.ref p.c),("number",.int k)] rfl rfl rfl rfl rfl];simp! only[hc];refine Gc o h0 h1 λH ad dd o=>?_;have hc:∃hi rd wr,H[p.c]? =some (CO p hi rd wr):=by
  obtain⟨_,⟨kp,lt,uf,w,f,hi,rd,wr,K,L,U,D,R,bs,rfl,c⟩,o⟩:=o;exact⟨_,_,_,o.at 0 rfl⟩
 obtain⟨_,_,_,hc⟩:=hc;have bo:=Hh (n:=n+2) (o.at 0 rfl) (o.at 1 rfl);simp! only[o.at 0 rfl,bo,hc];refine DX o h0 h1 hB (.inr rfl) λH o=>?_;simp! only[];rw[H7] at o;exact q _ o
theorem Fn (o:Ow (CK p B P Dt u 14 []) F H) (h0:0<=k) (h1:k<14+p.sp) (hB:Ci (B k)) (hx:Ci x) (hu:u<1000) (hD:∀i∈Dt,i≠k->i∈eH) (gH:∀i∈eH,i∈P) (q:∀H,Ow (CK p (upd B k x) P eH (u+1) 14 []) F H->Q .none H):W (call (n+4) (.fn 30 11) [.ref p.c,.int k,.bytes x] H) Q E:=by
 have hc:∀{hd F H P Dt B u},Ow (CK p B P Dt u 14 hd) F H->∃hi rd wr,H[p.c]? =some (CO p hi rd wr):=by
  rintro _ _ _ _ _ _ _ ⟨_,⟨kp,lt,uf,w,f,hi,rd,wr,K,L,U,D,R,bs,rfl,c⟩,o⟩;exact⟨_,_,_,o.at 0 rfl⟩
 obtain⟨_,_,_,h⟩:=hc o;rw[AV [("self",.ref p.c),("number",.int k),("octets",.bytes x)] rfl rfl rfl rfl rfl];simp! only[h];refine Gc o h0 h1 λH ad dd o=>?_;simp! only[o.at 0 rfl];refine Ql o (by rw[hx.1,hB.1]) λH o=>?_;obtain⟨_,_,_,h⟩:=hc o;simp! only[h];refine LJ o h0 h1 hx hu hD gH λH o=>?_;obtain⟨_,_,_,h⟩:=hc o;simp! only[h];refine DX o h0 h1 hx (.inr (by unfold upd;rw[UQ rfl])) λH o=>?_;simp! only[];refine q _ ?_;have e:upd (upd B k x) k x=upd B k x:=by funext i;unfold upd;split<;>rfl
 rwa [e] at o
end
def nt (J:List Int) (k:Int):List Int:=if k∈J then J else J++[k]
abbrev JO (p:Pm) (nu no:Nat) (cl cm:Int):O:=.inst 38 (JF (.ref p.c) (.int 2) (.int 9) (.int 8) (.int 8) (.int 8) (.ref nu) (.ref no) (.int cl) (.int cm))
abbrev jC (p:Pm) (nu no:Nat) (cl cm:Int) (J:List Int) (nd:List (Int×V)):HL:=[(p.j,JO p nu no cl cm),(nu,.list (J.map .int)),(no,.U' nd)]
def Nd (J:List Int) (nd:List (Int×V)):Prop:=(∀k,(Bm k nd).isSome=decide (k∈J))/\nd.length<=J.length/\J.Nodup/\J.length<=8
def JP (p:Pm) (B:BW) (J:List Int) (cl:Int) (hd:List (Int×Nat)):HL->Prop:=λC=>∃nu no cm nd C',C=jC p nu no cl cm J nd++C'/\Nd J nd/\(∀k∈J,0<=k/\k<14+p.sp/\¬(2<=k/\k<11))/\CK p B J J 0 14 hd C'
variable {J:List Int}{cl:Int}
section
variable {C:HL}{nu no u:Nat}{cm:Int}{P:List Int}{nd:List (Int×V)}
theorem JP.out (o:Ow (JP p B J cl hd) F H):∃nu no cm nd,Nd J nd/\(∀k∈J,0<=k/\k<14+p.sp/\¬(2<=k/\k<11))/\Ow (CK p B J J 0 14 hd) (jC p nu no cl cm J nd++F) H:=by
 obtain⟨_,⟨nu,no,cm,nd,C',rfl,h1,h2,h3⟩,o⟩:=o;exact⟨nu,no,cm,nd,h1,h2,C',h3,o.perm (iq (jC p nu no cl cm J nd) C' F)⟩
theorem JP.Rg (h1:Nd J nd) (h2:∀k∈J,0<=k/\k<14+p.sp/\¬(2<=k/\k<11)) (o:Ow (CK p B J J 0 14 hd) (jC p nu no cl cm J nd++F) H):Ow (JP p B J cl hd) F H:=by
 obtain⟨C',h3,o⟩:=o;exact⟨jC p nu no cl cm J nd++C',⟨nu,no,cm,nd,C',rfl,h1,h2,h3⟩,o.perm (iq C' (jC p nu no cl cm J nd) F)⟩
theorem CK.c (o:Ow (CK p B P Dt u 14 hd) F H):∃hi rd wr,H[p.c]? =some (CO p hi rd wr):=by
 obtain⟨_,⟨kp,lt,uf,w,f,hi,rd,wr,K,L,U,D,R,bs,rfl,c⟩,o⟩:=o;exact⟨_,_,_,o.at 0 rfl⟩
theorem CK.b (o:Ow (CK p B P Dt u 14 hd) F H) (k:Int):Ci (B k):=by
 obtain⟨_,⟨kp,lt,uf,w,f,hi,rd,wr,K,L,U,D,R,bs,rfl,c⟩,o⟩:=o;exact c.bk k
theorem Ui (h:H[p.j]? =some (JO p nu no cl cm)):call (n+1) (.fn 38 1) [.ref p.j,.int k] H= .ok (.bool (decide (2<=k)&&decide (k<11))) H:=by
 refine DA ?_;rw[AV [("self",.ref p.j),("number",.int k)] rfl rfl rfl rfl rfl];by_cases e:2<=k
 ·simp! only[h,e,dT,tB,Int.reduceAdd]
 ·simp! only[h,e,dq,t7]
theorem QB (h:H[p.j]? =some (JO p nu no 0 cm)) (hn:H[nu]? =some (.list [])):call (n+1) (.fn 38 2) [.ref p.j] H= .ok (.bool true) H:=by
 refine DA ?_;rw[AV [("self",.ref p.j)] rfl rfl rfl rfl rfl];simp! only[h,hn,Ti,sM,Int.reduceAdd,Int.reduceMul,dT]
theorem left (h:H[p.j]? =some (JO p nu no cl cm)) (hn:H[nu]? =some (.list (J.map .int))):call (n+1) (.fn 38 3) [.ref p.j] H= .ok (.int (8-J.length)) H:=by
 refine DA ?_;rw[AV [("self",.ref p.j)] rfl rfl rfl rfl rfl];simp! only[h,hn,eP]
theorem UM (o:Ow (JP p B [] 0 []) F H) (q:∀H,Ow (JP p B [] 1 []) F H->Q .none H):W (call (n+2) (.fn 38 4) [.ref p.j] H) Q E:=by
 obtain⟨nu,no,cm,nd,h1,h2,o⟩:=JP.out o;rw[AV [("self",.ref p.j)] rfl rfl rfl rfl rfl];have hr:=QB (n:=n) (o.at 0 rfl) (o.at 1 rfl);simp! only[o.at 0 rfl,hr];refine o.hs 0 rfl λH o=>?_;simp! only[];exact q _ (JP.Rg h1 h2 o)
theorem Nd.put (h:Nd J nd) (hk:k∉J) (hl:J.length<=7) (v:V):Nd (J++[k]) (Ar k v nd):=by
 refine⟨λi=>?_,?_,?_,by simp;omega⟩
 ·rw[Bk];by_cases e:i=k
  ·rw[UQ e];subst e;simp
  ·rw[T8 e,h.1];simp [e]
 ·have:=DT (k:=k) (v:=v) (l:=nd);have:=h.2.1;simp;omega
 ·exact kz.mpr ⟨h.2.2.1,by simp,λa ha b hb e=>by cases eA.mp hb;subst e;exact hk ha⟩
theorem Gh (o:Ow (JP p B J 1 [(k,ad)]) ((ad,BO k dd 1 (pn J k))::F) H) (h0:0<=k) (h1:k<14+p.sp) (hk:¬(2<=k/\k<11)) (hJ:k∈J∨J.length<=7) (q:∀H,Ow (JP p B (nt J k) 1 [(k,ad)]) ((ad,BO k dd 1 (pn (nt J k) k))::F) H->Q .none H):W (call (n+3) (.fn 38 5) [.ref p.j,.ref ad] H) Q E:=by
 obtain⟨nu,no,cm,nd,n1,n2,o⟩:=JP.out o;rw[AV [("self",.ref p.j),("buffer",.ref ad)] rfl rfl rfl rfl rfl];have io:=Ui (n:=n+1) (k:=k) (o.at 0 rfl);rw[show (decide (2<=k)&&decide (k<11))=false by simp;omega] at io;have nk:=n1.1 k;by_cases e:k∈J
 ·have nh:call (n+2) (.fn 30 2) [.ref p.c,.ref ad] H= .ok .none H:=by
   obtain⟨_,⟨kp,lt,uf,w,f,hi,rd,wr,K,L,U,D,R,bs,rfl,c⟩,o⟩:=o;have o1:=o.sw (A:=[_,_,_,_]);exact Eo (o1.at 4 rfl) (o1.at 6 rfl) (o1.at 3 rfl) c.Xs
  rw[qy e] at nk;obtain⟨_,_,_,hc⟩:=CK.c o;simp! only[o.at 0 rfl,o.at 3 rfl,o.at 2 rfl,io,nk,nh,hc,(by decide:decide ((1:Int)=0)=false)];have e1:nt J k=J:=UQ e;rw[e1] at q;exact q _ (JP.Rg n1 n2 o)
 ·have hl:J.length<=7:=hJ.resolve_left e;rw[qA e] at nk;obtain⟨_,_,_,hc⟩:=CK.c o;have hl':¬(8:Int)<=J.length:=by omega
  simp! only[o.at 0 rfl,o.at 1 rfl,o.at 3 rfl,o.at 2 rfl,io,nk,hc,eP,hl',dq,(by decide:decide ((1:Int)=0)=false)];have e1:nt J k=J++[k]:=T8 e;rw[e1] at q;refine OI (o.sel (A:=[_,_,_,_]) [3,0,1,2] ⋯) e hl λH o=>?_;have ln:nd.length<lid:=by have:=n1.2.1;unfold lid;omega
  have lj:J.length<lid:=by unfold lid;omega
  simp! only[o.at 0 rfl,o.at 1 rfl,o.at 2 rfl,o.at 3 rfl,eP,ln];refine o.hs 3 rfl λH o=>?_;simp! only[o.at 0 rfl,o.at 1 rfl,o.at 2 rfl,eP,lj];refine o.hs 2 rfl λH o=>?_;simp! only[];refine q _ (JP.Rg (nu:=nu) (no:=no) (cm:=cm) (n1.put e hl (.int J.length)) (λi hi=>?_) ?_)
  ·rcases eI.mp hi with h|h
   ·exact n2 i h
   ·cases eA.mp h;exact⟨h0,h1,hk⟩
  ·rw[show J.map V.int++[V.int k]=(J++[k]).map V.int by rw[gL];rfl] at o;exact o.sel (A:=[_,_,_,_]) [1,2,3,0] ⋯
end
theorem T7 {fd:Rz}{ir:List IS}{P:V->Hp->Prop}(x:Str){bs:List (Str×V)}(loc:Loc) (e:MV i j=some fd) (c:A7 (cS (cE fd.lam 30 fd.names) fd.names 30) fd.body=some ir) (hb:Ct fd.params fd.dflts args=some bs) (hc:AH fd.names [] h=([(x,h.length)],h++[.cell none])) (hs:storeAll ⟨fd.names,[(x,h.length)],fd.lam⟩ bs [] (h++[.cell none])=some (loc,h++[.cell none])):
  W (call (n+1) (.fn i j) args h) P E=HN (λa h=>WS (A8 (call n) [(x,a)] ir loc h) (RW P) (λc _ h=>E c h)) ⟨0⟩ h (.cell none):=Ur loc e c hb hc hs
theorem Dv:∀{m:List Int},Bt (m.map .int)=some m
 |[]=>rfl
 |a::r=>by rw[ij,Bt,Dv];rfl
theorem Cc.all {m:List Int}(o:Cc m):m.all A9=true:=by
 rw[jU];intro x hx;have:=o x hx;unfold A9;simp;omega
variable {l:List Int}
theorem Cc.app {m:List Int}(o:Cc l) (o':Cc m):Cc (l++m):=λx hx=>(eI.mp hx).elim (o x) (o' x)
section
variable {C:HL}{nu no u:Nat}{cm:Int}{P:List Int}{nd:List (Int×V)}{T:HL->Prop}
theorem Lk (o:Ow T ((nu,.list (J.map .int))::F) H) (hJ:J.length<=8) (h0:∀k∈J,0<=k) (q:∀H x,Ci x->Ow T ((nu,.list (J.map .int))::F) H->Q (.bytes x) H):W (call (n+1) (.fn 37 0) [.ref nu,.int 48] H) Q E:=by
 rw[T7 "value" [("numbers",.ref nu),("size",.int 48)] rfl rfl rfl rfl rfl];refine o.hn λvc H o=>?_;have c1:¬(48:Int)<4*(J.length+1):=by omega
 refine CD (a:=[_,_]) λA hA=>?_;simp! only[o.at 1 rfl,eP,c1,dq];refine o.hn λfo H o=>?_;simp! only[];apply hA;clear hA A;refine seq λA hA=>?_;simp! only[o.at 2 rfl,eP,KX,Ti];refine o.hn λl1 H o=>?_;simp! only[o.at 3 rfl];refine o.hn λl2 H o=>?_;have c2:1+J.length<=lid:=by unfold lid;omega
 simp! only[o.at 0 rfl,o.at 1 rfl,eP,KX,Ti,c2];refine o.hn λl3 H o=>?_;simp! only[o.at 0 rfl,↓AK (rfl:lk "found" (pt "found" (.ref fo) [("numbers",.ref nu),("size",.int 48)])=_)];refine CH (λi loc h=>lk "found" loc=some (.ref fo)/\lk "size" loc=some (.int 48)/\∃x v,x.length=4*i/\Cc x/\Ow T ((fo,.ba x)::(vc,.cell v)::(l3,.list (.int J.length::J.map .int))::(nu,.list (J.map .int))::F) h) (J.length+1) ?_ ?_ _ 0 _ _ (by simp) (el _) ⟨rfl,rfl,[],none,rfl,(λx h=>nomatch h),?_⟩
 ·rintro i loc h hi ⟨l1,l2,x,v,hx,ox,o⟩;obtain⟨w,hw,hw0⟩:∃w:Int,(V.int J.length::J.map V.int)[i]? =some (.int w)/\0<=w:=by
   cases i with
   |zero=>exact ⟨_,rfl,by omega⟩
   |succ i=>
    refine⟨J[i]'⋯,?_,h0 _ (qe _)⟩;rw[tL,fw,d6 ⋯];rfl
  refine⟨.int w,by rw[Dc (o.at 2 rfl),hw],?_⟩;simp! only[o.at 1 rfl];refine o.hs 1 rfl λH o=>?_;simp! only[↓AK l1,o.at 0 rfl,(by decide:((4:Int).natAbs<=lid)=True)];refine Da (λi acc loc h=>h=H/\∃m:List Int,acc=m.map .int/\m.length=i/\Cc m) 4 ?_ ?_ _ 0 _ _ _ ⋯ (el _) ⟨rfl,[],rfl,rfl,λx h=>nomatch h⟩
  ·rintro j acc loc h hj ⟨rfl,m,rfl,hm,om⟩;refine⟨.int j,by rw[Do,UQ ⋯];congr 3<;>omega,?_⟩;have e1:binI .RShift w (8*(j:Int))=some (.int (w / 2^(8*j))):=by
    have:=Fy (a:=w) (8*j) ⋯ hw0
    rw[←this];congr 1
   have e2:binI .BitAnd (w / 2^(8*j)) 255=some (.int (w / 2^(8*j)%256)):=Dm 8 (Int.ediv_nonneg hw0 (by exact_mod_cast el (2^(8*j))));simp! only[o.at 1 rfl,e1,e2,eP,hm];refine⟨by unfold lid;omega,trivial,m++[w / 2^(8*j)%256],by rw[gL];rfl,by simp [hm],om.app λx hx=>by cases eA.mp hx;omega⟩
  ·rintro acc loc h ⟨rfl,m,rfl,hm,om⟩;refine⟨by rw[Do,T8 ⋯],?_⟩;refine o.hn λl4 H o=>?_;have c3:x.length+m.length<=lid:=by unfold lid;omega
   simp! only[o.at 0 rfl,o.at 1 rfl,Dv,om.all,c3];refine o.hs 1 rfl λH o=>?_;simp! only[];exact⟨l1,l2,_,_,by rw[eR];omega,ox.app om,o.drop⟩
 ·rintro loc h ⟨l1,l2,x,v,hx,ox,o⟩;refine⟨by rw[Dc (o.at 2 rfl),fA (by simp)],?_⟩;rw[Au];apply hA;clear hA A;have c4:0<=(48:Int)-x.length:=by omega
  have c5:(48:Int)-x.length<=1000000:=by omega
  have c6:x.length+(48-(x.length:Int)).toNat<=lid:=by unfold lid;omega
  simp! only[↓AK l1,↓AK l2,o.at 0 rfl,c4,c5,lL,c6];exact q _ _ ⟨by simp;omega,ox.app (Cc.zeros _)⟩ o.drop.drop.drop
 ·exact o.sel (A:=[_,_,_,_,_,_]) [3,4,0,5] ⋯
end
def Ag (B B':BW):Prop:=∀n,¬(2<=n/\n<11)->B' n=B n
variable {B':BW}
theorem Ag.upd {B B':BW}{k:Int}{x:List Int}(a:Ag B B') (hk:2<=k/\k<11):Ag B (upd B' k x):=λn hn=>by
 unfold Fsx.upd;rw[T8 (by rintro rfl;exact hn hk)];exact a n hn
def JK (p:Pm) (J:List Int):Prop:=∀k∈J,0<=k/\k<14+p.sp/\¬(2<=k/\k<11)
section
variable {C:HL}{nu no u:Nat}{cm:Int}{P:List Int}{nd:List (Int×V)}{T:HL->Prop}
theorem CK.sp (o:Ow (CK p B P Dt u 14 hd) F H):2<=p.sp/\p.sp<=13:=by
 obtain⟨_,⟨kp,lt,uf,w,f,hi,rd,wr,K,L,U,D,R,bs,rfl,c⟩,o⟩:=o;exact c.hs
theorem Pa (jk:JK p J) (jl:J.length<=8) (o:Ow (CK p B J J 0 14 []) (jC p nu no cl cm J nd++F) H) (q:∀H B',Ag B B'->Ow (CK p B' J J 0 14 []) (jC p nu no cl cm J nd++F) H->Q .none H):W (call (n+5) (.fn 38 8) [.ref p.j] H) Q E:=by
 rw[AV [("self",.ref p.j)] rfl rfl rfl rfl rfl];refine seq λA hA=>?_;simp! only[o.at 0 rfl,o.at 1 rfl];refine CH (λi loc h=>lk "self" loc=some (.ref p.j)/\∃B',Ag B B'/\Ow (CK p B' J J i 14 []) (jC p nu no cl cm J nd++F) h) J.length ?_ ?_ _ 0 _ _ (by simp) (el _) ⟨rfl,B,λ_ _=>rfl,o⟩
 ·rintro i loc h hi ⟨l1,B',ag,o⟩;have jk:=jk J[i] (qe _);refine⟨.tup [.int i,.int J[i]],by rw[HC (o.at 1 rfl),fw,d6 hi];rfl,?_⟩;obtain⟨_,_,_,hc⟩:=CK.c o;simp! only[KX,Ti,↓AK l1,o.at 0 rfl,hc];refine IU o jk.1 jk.2.1 (CK.b o _) λH o=>?_;simp! only[];have hs:=CK.sp o;refine Fn (eH:=J) o ⋯ ⋯ (CK.b o _) (CK.b o _) ⋯ (λi h _=>h) (λi h=>h) λH o=>?_;simp! only[];exact⟨by simpa [AD,ofString_eq] using l1,_,ag.upd ⋯,o⟩
 ·rintro loc h ⟨l1,B',ag,o⟩;refine⟨by rw[HC (o.at 1 rfl),fA (by simp)];rfl,?_⟩;rw[Au];apply hA;clear hA A;obtain⟨_,_,_,hc⟩:=CK.c o;simp! only[↓AK l1,o.at 0 rfl,hc];refine ER o ⋯ λH o=>?_;simp! only[];exact q _ _ ag o
theorem IV {l:Nat}{M:List Int}(i:Nat) (hi:F[i]? =some (p.j,JO p nu no cl cm)) (hs:M.length<=8) (h0:∀k∈M,0<=k) (o:Ow (CK p B P Dt 0 14 []) ((l,.list (M.map .int))::F) H) (q:∀H x,Ow (CK p (upd B 2 x) P Dt 0 14 []) ((l,.list (M.map .int))::F) H->Q .none H):W (call (n+5) (.fn 38 9) [.ref p.j,.ref l] H) Q E:=by
 rw[AV [("self",.ref p.j),("numbers",.ref l)] rfl rfl rfl rfl rfl];obtain⟨_,_,_,hc⟩:=CK.c o;have sp:=CK.sp o;simp! only[o.at (i+1) hi,hc];refine Lk o hs h0 λH x hx o=>?_;simp! only[];have ds:∀i∈Dt,i∈P:=by
  obtain⟨_,⟨kp,lt,uf,w,f,hi,rd,wr,K,L,U,D,R,bs,rfl,c⟩,o⟩:=o;exact c.ds
 refine Fn (eH:=Dt) o ⋯ ⋯ (CK.b o _) hx ⋯ (λi h _=>h) ds λH o=>?_;obtain⟨_,_,_,hc⟩:=CK.c o;simp! only[o.at (i+1) hi,hc];refine ER o ⋯ λH o=>?_;simp! only[];exact q _ _ o
theorem install (jk:JK p J) (jl:J.length<=8) (o:Ow (CK p B J J 0 14 []) (jC p nu no cl cm J nd++F) H) (q:∀H,Ow (CK p B J [] 0 14 []) (jC p nu no cl cm J nd++F) H->Q .none H):W (call (n+5) (.fn 38 10) [.ref p.j,.ref nu,.bool false] H) Q E:=by
 rw[AV [("self",.ref p.j),("numbers",.ref nu),("from_log",.bool false)] rfl rfl rfl rfl rfl];refine seq λA hA=>?_;simp! only[o.at 0 rfl,o.at 1 rfl];refine CH (λi loc h=>lk "self" loc=some (.ref p.j)/\lk "from_log" loc=some (.bool false)/\Ow (CK p B J (J.drop i) i 14 []) (jC p nu no cl cm J nd++F) h) J.length ?_ ?_ _ 0 _ _ (by simp) (el _) ⟨rfl,rfl,o⟩
 ·rintro i loc h hi ⟨l1,l2,o⟩;have jk:=jk J[i] (qe _);refine⟨.tup [.int i,.int J[i]],by rw[HC (o.at 1 rfl),fw,d6 hi];rfl,?_⟩;obtain⟨_,_,_,hc⟩:=CK.c o;simp! only[KX,Ti,↓AK l1,↓AK l2,o.at 0 rfl,hc,↓MR];refine IU o jk.1 jk.2.1 (CK.b o _) λH o=>?_;obtain⟨_,_,_,hc⟩:=CK.c o;simp! only[↓AK l1,o.at 0 rfl,hc];have ed:J.drop i=J[i]::J.drop (i+1):=rD hi;refine Fn (eH:=J.drop (i+1)) o jk.1 jk.2.1 (CK.b o _) (CK.b o _) ⋯ (λj h e=>?_) (λj h=>qz h) λH o=>?_
  ·rw[ed] at h;rcases fg.mp h with h|h
   ·exact absurd h e
   ·exact h
  ·simp! only[];rw[H7] at o;exact⟨by simpa [AD,ofString_eq] using l1,by simpa [AD,ofString_eq] using l2,o⟩
 ·rintro loc h ⟨l1,l2,o⟩;refine⟨by rw[HC (o.at 1 rfl),fA (by simp)];rfl,?_⟩;rw[Au];apply hA;clear hA A;obtain⟨_,_,_,hc⟩:=CK.c o;simp! only[↓AK l1,o.at 0 rfl,hc];refine ER o ⋯ λH o=>?_;simp! only[];rw[q7] at o;exact q _ o
theorem commit (jk:JK p J) (n1:Nd J nd) (o:Ow (CK p B J J 0 14 []) (jC p nu no cl cm J nd++F) H) (q:∀H B',Ag B B'->Ow (JP p B' [] cl []) F H->Q .none H):W (call (n+6) (.fn 38 7) [.ref p.j] H) Q E:=by
 rw[AV [("self",.ref p.j)] rfl rfl rfl rfl rfl];have jl:=n1.2.2.2;refine CD (a:=[_,_,_,_]) λA hA=>?_;simp! only[o.at 0 rfl];refine Pa jk jl o λH B1 a1 o=>?_;simp! only[o.at 0 rfl];refine IV 1 rfl jl (λk hk=>(jk k hk).1) (o.sel (A:=[_,_,_]) [1,2,0] ⋯) λH x o=>?_;simp! only[o.at 2 rfl];refine install jk jl (o.sel (A:=[_,_,_]) [2,0,1] ⋯) λH o=>?_;simp! only[o.at 0 rfl,Ti];refine o.hn λe H o=>?_;simp! only[];refine IV (M:=[]) 0 rfl ⋯ (λk hk=>nomatch hk) o λH x' o=>?_;simp! only[];apply hA;clear hA A;replace o:=o.drop;have a2:Ag B (upd (upd B1 2 x) 2 x'):=(a1.upd ⋯).upd ⋯;generalize upd (upd B1 2 x) 2 x'=B2 at o a2;refine seq λA hA=>?_;simp! only[o.at 0 rfl,o.at 1 rfl];refine CH (λi loc h=>lk "self" loc=some (.ref p.j)/\Ow (CK p B2 (J.drop i) [] 0 14 []) (jC p nu no cl cm J nd++F) h) J.length ?_ ?_ _ 0 _ _ (by simp) (el _) ⟨rfl,o⟩
 ·rintro i loc h hi ⟨l1,o⟩;refine⟨.int J[i],by rw[Dc (o.at 1 rfl),fw,d6 hi];rfl,?_⟩;obtain⟨_,_,_,hc⟩:=CK.c o;have ed:J.drop i=J[i]::J.drop (i+1):=rD hi;simp! only[↓AK l1,o.at 0 rfl,hc];rw[ed] at o;have nn:=(gl.mp (ed▸(qR (sk i J) n1.2.2.1))).1;refine Kw o nn λH o=>?_;simp! only[];exact⟨by simpa [AD,ofString_eq] using l1,o⟩
 ·rintro loc h ⟨l1,o⟩;refine⟨by rw[Dc (o.at 1 rfl),fA (by simp)],?_⟩;rw[Au];apply hA;clear hA A;rw[q7] at o;simp! only[Ti];refine o.hn λgr H o=>?_;simp! only[↓AK l1,o.at 1 rfl];refine o.hs 1 rfl λH o=>?_;simp! only[];refine o.hn λgv H o=>?_;simp! only[↓AK l1,o.at 2 rfl];refine o.hs 2 rfl λH o=>?_;simp! only[↓AK l1,o.at 2 rfl];refine o.hs 2 rfl λH o=>?_;simp! only[];refine q _ _ a2 (JP.Rg (nu:=gr) (no:=gv) (cm:=cm+1) (nd:=[]) ⟨λk=>rfl,ix _,List.Pairwise.nil,el _⟩ (λk hk=>nomatch hk) ?_);exact o.sel (A:=[_,_,_,_,_]) [2,1,0] ⋯
theorem WM (o:Ow (JP p B J 1 []) F H) (q:∀H B',Ag B B'->Ow (JP p B' [] 0 []) F H->Q .none H):W (call (n+7) (.fn 38 6) [.ref p.j] H) Q E:=by
 obtain⟨nu,no,cm,nd,n1,n2,o⟩:=JP.out o;rw[AV [("self",.ref p.j)] rfl rfl rfl rfl rfl];simp! only[o.at 0 rfl,(by decide:decide ((1:Int)=0)=false)];refine o.hs 0 rfl λH o=>?_;simp! only[o.at 0 rfl,o.at 1 rfl,(by decide:decide ((1:Int)-1=0)=true),Ti];refine o.hn λe H o=>?_;have ev:WO (Cv (J.map .int) []) (λb=>(!b)=decide (J≠[])):=by
  have:(J.map V.int).all BD=true:=by rw[jU];intro v hv;obtain⟨i,_,rfl⟩:=eJ.mp hv;rfl
  unfold Cv;rw[this];cases J<;>rfl
 cases hq:Cv (J.map V.int) [] with
 |none=>rw [hq] at ev;exact ev.elim
 |some b=>
  rw[hq,DR] at ev;simp! only[o.at 0 rfl,o.at 2 rfl,hq];by_cases hJ:J=[]
  ·have eb:b=true:=by rw[qA (by simp [hJ])] at ev;simpa using ev
   subst hJ;simp! only[eb];exact q _ B (λ_ _=>rfl) (JP.Rg n1 n2 o.drop)
  ·have eb:b=false:=by rw[qy hJ] at ev;simpa using ev
   simp! only[eb,o.at 1 rfl];refine commit n2 n1 o.drop λH B' a o=>?_;simp! only[];exact q _ _ a o
end
def tk (X:List Int) (k:Nat):Bool:=(X.getD (k / 8) 0).toNat.testBit (k%8)
theorem Ni:∀x<256,∀j<8,x.testBit j=true->2^j<=x/\∀i<8,(x-2^j).testBit i=(x.testBit i&&i !=j):=by decide+kernel
theorem Oq:∀x<256,∀j<8,x|||2^j<256:=by decide+kernel
theorem J7 {x:Int}(h:0<=x) (j:Nat):binI .BitAnd x ((2^j:Nat):Int)=some (.int (if x.toNat.testBit j then ((2^j:Nat):Int) else 0)):=by
 show EF (· &&& ·) x _=_;unfold EF;rw[UQ ⟨h,Int.natCast_nonneg _⟩]
 congr 2
 show ((x.toNat&&&(((2^j:Nat):Int)).toNat:Nat):Int)=_;rw[eD]
 have:x.toNat&&&2^j=if x.toNat.testBit j then 2^j else 0:=by
  apply Nat.eq_of_testBit_eq;intro i;rw[Nat.testBit_and,sI];split
  ·rename_i z;rw[sI];by_cases e:j=i
   ·subst e;simp [z]
   ·simp [e]
  ·rename_i z;by_cases e:j=i
   ·subst e;simp [z]
   ·simp [e]
 rw[this];split<;>rfl
theorem SV {x:Int}(h:0<=x) (j:Nat):binI .BitOr x ((2^j:Nat):Int)=some (.int ((x.toNat|||2^j:Nat):Int)):=by
 show EF (· ||| ·) x _=_;unfold EF;rw[UQ ⟨h,Int.natCast_nonneg _⟩];rfl
def Ey (X:List Int) (k:Nat):List Int:=X.set (k / 8) (((X.getD (k / 8) 0).toNat|||2^(k%8):Nat):Int)
def I6 (X:List Int) (k:Nat):List Int:=X.set (k / 8) (X.getD (k / 8) 0-((2^(k%8):Nat):Int))
theorem Cc.set {l:List Int}(o:Cc l) (i:Nat) {v:Int}(a:0<=v) (b:v<256):Cc (l.set i v):=λx hx=>by
 rcases sf hx with h|h
 ·exact o x h
 ·subst h;exact⟨a,b⟩
variable {X:List Int}
section
variable {k:Nat}
theorem Lh (h:Ci X) (k:Nat):Ci (Ey X k):=by
 have g:=h.2.get (k / 8);refine⟨by unfold Ey;rw[nw];exact h.1,h.2.set _ ⋯ ?_⟩
 have:=Oq (X.getD (k / 8) 0).toNat ⋯ (k%8) ⋯
 exact_mod_cast this
theorem DL (h:Ci X) (hk:k<384):tk (Ey X k) i=(i==k||tk X i):=by
 unfold tk Ey;rw[Fu (by rw[h.1];omega)];split
 ·rename_i e;rw[eD,Nat.testBit_or,sI,e,Bool.or_comm]
  congr 1
  rw[qk];simp;omega
 ·have:(i==k)=false:=by simp;rintro rfl;contradiction
  rw[this,Bool.false_or]
theorem HU (h:Ci X) (t:tk X k=true):∃y:Nat,X.getD (k / 8) 0-((2^(k%8):Nat):Int)=y/\y<256/\y=(X.getD (k / 8) 0).toNat-2^(k%8):=by
 have g:=h.2.get (k / 8)
 have:=(Ni (X.getD (k / 8) 0).toNat ⋯ (k%8) ⋯ t).1
 exact⟨(X.getD (k / 8) 0).toNat-2^(k%8),by omega,Nat.lt_of_le_of_lt (Nat.sub_le _ _) ⋯,rfl⟩
theorem Qj (h:Ci X) (t:tk X k=true):Ci (I6 X k):=by
 obtain⟨y,e,l,_⟩:=HU h t;refine⟨by unfold I6;rw[nw];exact h.1,h.2.set _ ?_ ?_⟩<;>omega
theorem HR (h:Ci X) (hk:k<384) (t:tk X k=true):tk (I6 X k) i=(i !=k&&tk X i):=by
 obtain⟨y,e,l,e2⟩:=HU h t;have g:=h.2.get (k / 8);unfold I6;rw[e];unfold tk;rw[Fu (by rw[h.1];omega)];split
 ·rename_i e';rw[eD,e2,(Ni _ ⋯ (k%8) ⋯ t).2 (i%8) ⋯,e',Bool.and_comm]
  congr 1
  rw[qk];simp;omega
 ·have:(i !=k)=true:=by simp;rintro rfl;contradiction
  rw[this,tB]
end
theorem ae {t:Loc->Hp->Res Bool}{b:Loc->Hp->SR}{k:Nat}(q:W (t loc h) (λc h=>if c then WS (b loc h) (lp (λloc h=>WS (Al t b k loc h) S SE) S) (λ_ _ _=>False) else S .next loc h) (λ_ _=>False)):WS (Al t b (k+1) loc h) S SE:=by
 rw[Al];cases ht:t loc h with
 |ok c h1=>
  rw[ht] at q;cases c with
  |false=>exact q
  |true=>
   dsimp only;have q':WS (b loc h1) (lp (λloc h=>WS (Al t b k loc h) S SE) S) (λ_ _ _=>False):=q;cases hb:b loc h1 with
   |ok f l h'=>
    rw[hb] at q';cases f<;>exact q'
   |exc c l h'=>rw [hb] at q';exact q'.elim
   |stuck=>rw [hb] at q';exact q'.elim
 |exc c h1=>rw [ht] at q;exact q.elim
 |stuck=>rw [ht] at q;exact q.elim
theorem JP.cj (o:Ow (JP p B J cl hd) F H):∃f g,H[p.c]? =some (.inst 30 f)/\H[p.j]? =some (.inst 38 g):=by
 obtain⟨nu,no,cm,nd,n1,n2,o⟩:=JP.out o;obtain⟨_,_,_,h⟩:=CK.c o;exact⟨_,_,h,o.at 0 rfl⟩
theorem JP.b (o:Ow (JP p B J cl hd) F H) (k:Int):Ci (B k):=by
 obtain⟨nu,no,cm,nd,n1,n2,o⟩:=JP.out o;exact CK.b o k
theorem JP.sp (o:Ow (JP p B J cl hd) F H):2<=p.sp/\p.sp<=13:=by
 obtain⟨nu,no,cm,nd,n1,n2,o⟩:=JP.out o;exact CK.sp o
theorem Gm (o:Ow (JP p B J cl []) F H) (h0:0<=k) (h1:k<14+p.sp) (q:∀H ad dd,Ow (JP p B J cl [(k,ad)]) ((ad,BO k dd 1 (pn J k))::(dd,.ba (B k))::F) H->Q (.ref ad) H):W (call (n+3) (.fn 30 3) [.ref p.c,.int k] H) Q E:=by
 obtain⟨nu,no,cm,nd,n1,n2,o⟩:=JP.out o;refine Gc o h0 h1 λH ad dd o=>q _ ad dd (JP.Rg n1 n2 (o.sel (A:=[_,_,_,_,_]) [2,3,4,0,1] ⋯))
theorem M0 (o:Ow (JP p B J cl [(k,ad)]) ((ad,BO k dd 1 (pn J k))::(dd,.ba x)::F) H) (h0:0<=k) (h1:k<14+p.sp) (hx:Ci x) (hk:k∈J∨x=B k) (q:∀H,Ow (JP p (upd B k x) J cl []) F H->Q .none H):W (call (n+2) (.fn 30 5) [.ref p.c,.ref ad] H) Q E:=by
 obtain⟨nu,no,cm,nd,n1,n2,o⟩:=JP.out o;exact DX (o.sel (A:=[_,_,_,_,_]) [3,4,0,1,2] ⋯) h0 h1 hx hk λH o=>q _ (JP.Rg n1 n2 o)
theorem E8 (o:Ow (JP p B J cl [(k,ad)]) ((ad,BO k dd 1 (pn J k))::(dd,.ba (B k))::F) H) (h0:0<=k) (h1:k<14+p.sp) (q:∀H,Ow (JP p B J cl []) F H->Q .none H):W (call (n+2) (.fn 30 5) [.ref p.c,.ref ad] H) Q E:=
 M0 o h0 h1 (JP.b o k) (.inr rfl) λH o=>q _ (by rwa [H7] at o)
theorem Co:(nt J k).length<=J.length+1:=by unfold nt;split;omega;simp
theorem IJ {i:Int}(h:i∈J):i∈nt J k:=by unfold nt;split;exact h;exact mo _ h
theorem Bi:k∈nt J k:=by unfold nt;split<;>simp_all
abbrev Bu (p:Pm) (s tb:Nat):O:=.inst 27 (NS (.ref p.j) (.ref p.c) (.ref s) (.ref tb))
abbrev CM (sp:Nat):O:=.inst 24 (SF (.int 48) (.int (14+sp)) (.int 4) (.int 9) (.int 2) (.int 24) (.int 2) (.int 12) (.int 2) (.int 11) (.int 13) (.int 14))
abbrev Jj:List Int:=List.replicate 48 0
theorem KB:Ci Jj:=⟨lL ..,Cc.zeros _⟩
theorem O3 {a:V}{l:List V}:BM (.tup (a::l)) (.int 0) h=some a:=rfl
theorem YC {a b:V}{l:List V}:BM (.tup (a::b::l)) (.int 1) h=some b:=rfl
theorem subB (h:H[a]? =some (.ba l)) (hi:i<l.length):BM (.ref a) (.int i) H=some (.int (l.getD i 0)):=SN (.inr ⟨a,rfl,h⟩) hi
theorem YL:∀k:Nat,k<100->(Str.ofString "the block "++Str.ofString (toString (k:Int))).length<=lid/\(Str.ofString "the block "++Str.ofString (toString (k:Int))++Str.ofString " is free").length<=lid:=by decide+kernel
theorem strN:∀k:Nat,k<100->(Str.ofString "no block of data has the number "++Str.ofString (toString (k:Int))).length<=lid:=by decide+kernel
variable {ns s tb:Nat}
section
variable {sp:Nat}{k:Nat}
theorem LT (h:H[s]? =some (CM sp)) (hk:k<384):call (n+1) (.fn 24 6) [.ref s,.int k] H= .ok (.tup [.int 13,.int (k / 8:Nat),.int (2^(k%8):Nat)]) H:=by
 have:=Pj (n:=n) (k:=k) h ⋯ ⋯
 rw[this,show (13:Int)+((k / 8:Nat):Int) / 48=13 by omega,show ((k / 8:Nat):Int)%48=(k / 8:Nat) by omega]
theorem PR (hn:H[ns]? =some (Bu p s tb)) (hs:H[s]? =some (CM sp)) (hd:H[dd]? =some (.ba X)) (hx:Ci X) (kY:sp<=13):
  ∃k,14<=k/\k<=14+sp/\(∀j,14<=j->j<k->tk X j=true)/\(k<14+sp->tk X k=false)/\call (n+2) (.fn 27 10) [.ref ns,.ref dd,.int 13,.int 14] H= .ok (.int k) H:=by
 have key:W (call (n+2) (.fn 27 10) [.ref ns,.ref dd,.int 13,.int 14] H) (λv h=>h=H/\∃k:Nat,v= .int k/\14<=k/\k<=14+sp/\(∀j,14<=j->j<k->tk X j=true)/\(k<14+sp->tk X k=false)) (λ_ _=>False):=by
  rw[AV [("self",.ref ns),("data",.ref dd),("place",.int 13),("number",.int 14)] rfl rfl rfl rfl rfl];refine seq λA hA=>?_;rw[PX];refine Ek (λm loc h=>h=H/\lk "self" loc=some (.ref ns)/\lk "data" loc=some (.ref dd)/\lk "place" loc=some (.int 13)/\∃k:Nat,lk "number" loc=some (.int k)/\14<=k/\k+m=14+sp/\∀j,14<=j->j<k->tk X j=true) ?_ _ sp _ _ (by unfold AO;omega) ⟨rfl,rfl,rfl,rfl,14,rfl,by omega,by omega,λj h1 h2=>by omega⟩;rintro m loc h ⟨rfl,l1,l2,l3,k,l4,k1,k2,k3⟩;by_cases hk:k<14+sp
  ·have c1:(k:Int)<14+sp:=by omega
   have b1:=LT (n:=n) (k:=k) hs ⋯;have sb:=subB (i:=k / 8) hd (by rw[hx.1];omega);have ab:=J7 (x:=X.getD (k / 8) 0) (hx.2.get _).1 (k%8);simp! only[↓AK l1,↓AK l2,↓AK l3,↓AK l4,hn,hs,c1,dT];refine⟨m-1,by omega,?_⟩;by_cases ht:tk X k=true
   ·have ht':(X.getD (k / 8) 0).toNat.testBit (k%8)=true:=ht;have p2:¬((2^(k%8):Nat):Int)=0:=by have:=sA (k%8);omega
    simp! only[↓AK l1,↓AK l2,↓AK l3,↓AK l4,hn,hs,b1,KX,Ti,sb,ab,ht',p2,dq];refine⟨m-1,ix _,trivial,?_,?_,?_,k+1,?_,by omega,by omega,λj h1 h2=>?_⟩
    ·simpa [AD,ofString_eq] using l1
    ·simpa [AD,ofString_eq] using l2
    ·simpa [AD,ofString_eq] using l3
    ·simp [AD]
    ·by_cases e:j=k
     ·subst e;exact ht
     ·exact k3 j h1 ⋯
   ·have ht':(X.getD (k / 8) 0).toNat.testBit (k%8)=false:=by simpa [tk] using ht
    simp! only[↓AK l1,↓AK l2,↓AK l3,↓AK l4,hn,hs,b1,KX,Ti,sb,ab,ht',dT];exact⟨trivial,k,rfl,k1,by omega,k3,λ_=>by simpa using ht⟩
  ·have c1:¬(k:Int)<14+sp:=by omega
   simp! only[↓AK l1,↓AK l2,↓AK l3,↓AK l4,hn,hs,c1,dq];apply hA;simp! only[↓AK l4];exact⟨trivial,k,rfl,k1,by omega,k3,λh=>absurd h hk⟩
 obtain⟨v,h,e,rfl,k,rfl,q⟩:=Nn key;exact⟨k,q.1,q.2.1,q.2.2.1,q.2.2.2,e⟩
theorem K7 (o:Ow (JP p B J 1 []) ((ns,Bu p s tb)::F) H) (h0:11<=k) (h1:k<14+p.sp) (hJ:(k:Int)∈J∨J.length<=7) (q:∀H,Ow (JP p (upd B k Jj) (nt J k) 1 []) ((ns,Bu p s tb)::F) H->Q .none H):W (call (n+4) (.fn 27 11) [.ref ns,.int k] H) Q E:=by
 rw[AV [("self",.ref ns),("number",.int k)] rfl rfl rfl rfl rfl];obtain⟨_,_,hc,hj⟩:=JP.cj o;simp! only[o.at 0 rfl,hc];refine Gm o ⋯ ⋯ λH ad dd o=>?_;simp! only[o.at 0 rfl];have bl:=(JP.b o (k:Int)).1;refine Of o ⋯ λH o=>?_;obtain⟨_,_,hc,hj⟩:=JP.cj o;simp! only[o.at 2 rfl,hj];refine Gh o ⋯ ⋯ ⋯ hJ λH o=>?_;obtain⟨_,_,hc,hj⟩:=JP.cj o;simp! only[o.at 2 rfl,hc];rw[bl] at o;refine M0 o ⋯ ⋯ KB (.inl Bi) λH o=>?_;simp! only[];exact q _ o
theorem D5 (o:Ow (JP p B J 1 []) ((ns,Bu p s tb)::(s,CM p.sp)::F) H) (hJ:((13:Int)∈J/\J.length<=7)∨J.length<=6) (q:∀H k,14<=k->k<14+p.sp->tk (B 13) k=false->Ow (JP p (upd (upd B 13 (Ey (B 13) k)) k Jj) (nt (nt J 13) k) 1 []) ((ns,Bu p s tb)::(s,CM p.sp)::F) H->Q (.int k) H) (e:∀H,(∀k,14<=k->k<14+p.sp->tk (B 13) k=true)->Ow (JP p B J 1 []) ((ns,Bu p s tb)::(s,CM p.sp)::F) H->E 5 H):W (call (n+5) (.fn 27 9) [.ref ns] H) Q E:=by
 rw[AV [("self",.ref ns)] rfl rfl rfl rfl rfl];obtain⟨_,_,hc,hj⟩:=JP.cj o;have hs:=JP.sp o;refine CD (a:=[_]) λA hA=>?_;simp! only[o.at 0 rfl,o.at 1 rfl];apply hA;clear hA A;refine seq λA hA=>?_;rw[PX];show WS (Al _ _ (99999+1) _ _) _ _;refine ae ?_;have c1:(14:Int)<14+p.sp:=by omega
 have b1:=LT (n:=n+3) (k:=14) (o.at 1 rfl) ⋯;simp! only[o.at 0 rfl,o.at 1 rfl,c1,dT,show call (n+4) (.fn 24 6) [.ref s,.int 14] H=_ from b1,O3,hc];refine Gm o ⋯ ⋯ λH ad dd o=>?_;have bx:=JP.b o 13;obtain⟨k,k1,k2,k3,k4,fb⟩:=PR (n:=n+2) (o.at 2 rfl) (o.at 3 rfl) (o.at 1 rfl) bx hs.2;obtain⟨_,_,hc,hj⟩:=JP.cj o;have b2:=LT (n:=n+3) (k:=k) (o.at 3 rfl) ⋯;by_cases hk:k<14+p.sp
 ·have c2:(k:Int)<14+p.sp:=by omega
  have sb:=subB (i:=k / 8) (o.at 1 rfl) (by rw[bx.1];omega);have ob:=SV (x:=(B 13).getD (k / 8) 0) (bx.2.get _).1 (k%8);have bb:=Lh bx k;have c3:(0<=((k / 8:Nat):Int)/\k / 8<(B 13).length/\A9 (((B 13).getD (k / 8) 0).toNat|||2^(k%8):Nat)=true)=True:=by
   have:=Oq ((B 13).getD (k / 8) 0).toNat (by have:=bx.2.get (k / 8);omega) (k%8) ⋯
   refine uD ⟨by omega,by rw[bx.1];omega,?_⟩;unfold A9;simp;exact_mod_cast this
  simp! only[o.at 0 rfl,o.at 1 rfl,o.at 2 rfl,o.at 3 rfl,fb,c2,dT,b2,O3,KX,Ti,sb,ob,eD,c3];refine o.hs 1 rfl λH o=>?_;obtain⟨_,_,hc,hj⟩:=JP.cj o;simp! only[o.at 2 rfl,hj];refine Gh o ⋯ ⋯ ⋯ (by rcases hJ with h|h;exact .inl h.1;exact .inr ⋯) λH o=>?_;obtain⟨_,_,hc,hj⟩:=JP.cj o;simp! only[o.at 2 rfl,hc];refine M0 o ⋯ ⋯ bb (.inl Bi) λH o=>?_;simp! only[o.at 0 rfl];have jl:(nt J 13).length<=7:=by rcases hJ with h|h;rw[nt,UQ h.1];exact h.2;have:=Co (J:=J) (k:=13);omega
  refine K7 (k:=k) o ⋯ ⋯ (.inr jl) λH o=>?_;simp! only[];exact q _ k k1 hk (k4 hk) o
 ·have c2:¬(k:Int)<14+p.sp:=by omega
  simp! only[o.at 0 rfl,o.at 1 rfl,o.at 2 rfl,o.at 3 rfl,fb,c2,dq,hc];refine E8 o ⋯ ⋯ λH o=>?_;simp! only[c2,dq];show WS (Al _ _ (99998+1) _ _) _ _;refine ae ?_;simp! only[o.at 0 rfl,o.at 1 rfl,c2,dq];apply hA;simp! only[];exact e _ (λj h1 h2=>k3 j h1 ⋯) o
theorem Fq (o:Ow (JP p B J 1 []) ((ns,Bu p s tb)::(s,CM p.sp)::F) H) (h0:14<=k) (h1:k<14+p.sp) (hJ:(13:Int)∈J∨J.length<=7) (q:tk (B 13) k=true->∀H,Ow (JP p (upd B 13 (I6 (B 13) k)) (nt J 13) 1 []) ((ns,Bu p s tb)::(s,CM p.sp)::F) H->Q .none H) (e:tk (B 13) k=false->∀H,Ow (JP p B J 1 []) ((ns,Bu p s tb)::(s,CM p.sp)::F) H->E 4 H):W (call (n+5) (.fn 27 12) [.ref ns,.int k] H) Q E:=by
 rw[AV [("self",.ref ns),("number",.int k)] rfl rfl rfl rfl rfl];obtain⟨_,_,hc,hj⟩:=JP.cj o;have hs:=JP.sp o;have c0:(14:Int)<=k:=by omega
 have c1:(k:Int)<14+p.sp:=by omega
 have b1:=LT (n:=n+3) (k:=k) (o.at 1 rfl) ⋯;simp! only[o.at 0 rfl,o.at 1 rfl,c0,c1,dT,b1,KX,Ti,hc];refine Gm o ⋯ ⋯ λH ad dd o=>?_;obtain⟨_,_,hc,hj⟩:=JP.cj o;have bx:=JP.b o 13;have sb:=subB (i:=k / 8) (o.at 1 rfl) (by rw[bx.1];omega);have ab:=J7 (x:=(B 13).getD (k / 8) 0) (bx.2.get _).1 (k%8);by_cases ht:tk (B 13) k=true
 ·have ht':((B 13).getD (k / 8) 0).toNat.testBit (k%8)=true:=ht;have p2:¬((2^(k%8):Nat):Int)=0:=by have:=sA (k%8);omega
  have bb:=Qj bx ht;have c3:(0<=((k / 8:Nat):Int)/\k / 8<(B 13).length/\A9 ((B 13).getD (k / 8) 0-(2^(k%8):Nat))=true)=True:=by
   obtain⟨y,ey,yl,_⟩:=HU bx ht;refine uD ⟨by omega,by rw[bx.1];omega,?_⟩;rw[ey];unfold A9;simp;omega
  simp! only[o.at 0 rfl,o.at 1 rfl,o.at 2 rfl,sb,ab,ht',p2,dq,eD,c3];refine o.hs 1 rfl λH o=>?_;obtain⟨_,_,hc,hj⟩:=JP.cj o;simp! only[o.at 2 rfl,hj];refine Gh o ⋯ ⋯ ⋯ hJ λH o=>?_;obtain⟨_,_,hc,hj⟩:=JP.cj o;simp! only[o.at 2 rfl,hc];refine M0 o ⋯ ⋯ bb (.inl Bi) λH o=>?_;simp! only[p2,dq];exact q ht _ o
 ·have ht':((B 13).getD (k / 8) 0).toNat.testBit (k%8)=false:=by simpa [tk] using ht
  simp! only[o.at 0 rfl,o.at 1 rfl,o.at 2 rfl,sb,ab,ht',dT,hc];refine E8 o ⋯ ⋯ λH o=>?_;have sl:=YL k ⋯;have sn:(k:Int).natAbs<1000000000:=by omega
  simp! only[dT,sl.1,sl.2,sn];exact e (by simpa using ht) _ o
theorem J8 (o:Ow (JP p B J 1 []) ((ns,Bu p s tb)::(s,CM p.sp)::F) H) (h0:¬(14<=k/\k<14+p.sp)) (h1:k<100) (e:∀H,Ow (JP p B J 1 []) ((ns,Bu p s tb)::(s,CM p.sp)::F) H->E 4 H):W (call (n+5) (.fn 27 12) [.ref ns,.int k] H) Q E:=by
 rw[AV [("self",.ref ns),("number",.int k)] rfl rfl rfl rfl rfl];have sl:=strN k h1;have sn:(k:Int).natAbs<1000000000:=by omega
 by_cases c0:(14:Int)<=k
 ·have c1:¬(k:Int)<14+p.sp:=by omega
  simp! only[o.at 0 rfl,o.at 1 rfl,c0,c1,dT,dq,sl,sn];exact e _ o
 ·simp! only[o.at 0 rfl,o.at 1 rfl,c0,dT,dq,sl,sn];exact e _ o
end
abbrev NO (ns:Nat) (num hold kind links size:Int) (pl:Nat):O:=.inst 26 (NF (.ref ns) (.int num) (.int hold) (.int kind) (.int 0) (.int 0) (.int links) (.int size) (.ref pl))
abbrev gP (g:Nat->Int):O:=.list [.int (g 0),.int (g 1),.int (g 14)]
def cf (X:List Int):Nat->Nat
 |0=>0
 |n+1=>cf X n+if tk X (14+n) then 0 else 1
theorem GL {X:List Int}:∀{n:Nat},(∀k,14<=k->k<14+n->tk X k=true)->cf X n=0
 |0,_=>rfl
 |n+1,h=>by rw[cf,GL (λk a b=>h k a ⋯),UQ (h _ ⋯ ⋯)]
theorem Js {X Y:List Int}{k:Nat}(h:∀i,i≠k->tk Y i=tk X i) (hx:tk X k=false) (hy:tk Y k=true) (hk:14<=k):∀n,cf Y n+(if k<14+n then 1 else 0)=cf X n
 |0=>by rw[T8 ⋯];rfl
 |n+1=>by
  have ih:=Js h hx hy hk n;rw[cf,cf];by_cases e:k=14+n
  ·subst e;rw[hx,hy] at*;simp at*;omega
  ·rw[h (14+n) ⋯];by_cases e1:k<14+n
   ·rw[UQ e1] at ih;rw[UQ (show k<14+(n+1) by omega)];split<;>omega
   ·rw[T8 e1] at ih;rw[T8 (show ¬k<14+(n+1) by omega)];split<;>omega
theorem Ga {l:List V}(h:H[a]? =some (.list l)) (hi:l[i]? =some v):BM (.ref a) (.int i) H=some v:=by
 show (match H[a]?,V.int (i:Int) with|some (.list l),.int k=>if 0<=k then l[k.toNat]? else none|some (.ba l),.int k=>if 0<=k then (l[k.toNat]?).map .int else none|some (.dO d),.str k=>lk k d|_,_=>none)=_;rw[h];dsimp only;rw[UQ ⋯,eD,hi]
structure Tk (sp:Nat) (B:BW) (J:List Int) (k:Nat) (B':BW) (J':List Int):Prop where
 a:14<=k
 b:k<14+sp
 f:tk (B 13) k=false
 B:B'=upd (upd B 13 (Ey (B 13) k)) k Jj
 J:J'=nt (nt J 13) k
def Full (sp:Nat) (B:BW):Prop:=∀k,14<=k->k<14+sp->tk (B 13) k=true
variable {g:Nat->Int}{hold kind links size:Int}{nd pl:Nat}
section
variable {sp:Nat}{num:Int}
theorem Bz (o:Ow (JP p B J cl []) ((ns,Bu p s tb)::(s,CM p.sp)::F) H) (q:∀H,Ow (JP p B J cl []) ((ns,Bu p s tb)::(s,CM p.sp)::F) H->Q (.int (cf (B 13) p.sp)) H):W (call (n+4) (.fn 27 13) [.ref ns] H) Q E:=by
 rw[AV [("self",.ref ns)] rfl rfl rfl rfl rfl];have hs:=JP.sp o;refine CD (a:=[_,_]) λA hA=>?_;have c1:(14+(p.sp:Int)).natAbs<=lid:=by unfold lid;omega
 simp! only[o.at 0 rfl,o.at 1 rfl,(by decide:((14:Int).natAbs<=lid)=True),c1];refine CH (λi loc h=>lk "self" loc=some (.ref ns)/\lk "found" loc=some (.int (cf (B 13) i))/\Ow (JP p B J cl []) ((ns,Bu p s tb)::(s,CM p.sp)::F) h) p.sp ?_ ?_ _ 0 _ _ ⋯ (el _) ⟨rfl,rfl,o⟩
 ·rintro i loc h hi ⟨l1,l2,o⟩;refine⟨.int ((14+i:Nat):Int),by rw[Do,UQ ⋯];rfl,?_⟩;have b1:=LT (n:=n+2) (k:=14+i) (o.at 1 rfl) ⋯;obtain⟨_,_,hc,hj⟩:=JP.cj o;simp! only[↓AK l1,o.at 0 rfl,o.at 1 rfl,b1,KX,Ti,hc];refine Gm o ⋯ ⋯ λH ad dd o=>?_;obtain⟨_,_,hc,hj⟩:=JP.cj o;have bx:=JP.b o 13;have sb:=subB (i:=(14+i) / 8) (o.at 1 rfl) (by rw[bx.1];omega);have ab:=J7 (x:=(B 13).getD ((14+i) / 8) 0) (bx.2.get _).1 ((14+i)%8);by_cases ht:tk (B 13) (14+i)=true
  ·have ht':((B 13).getD ((14+i) / 8) 0).toNat.testBit ((14+i)%8)=true:=ht;have p2:¬((2^((14+i)%8):Nat):Int)=0:=by have:=sA ((14+i)%8);omega
   simp! only[↓AK l1,o.at 0 rfl,o.at 1 rfl,o.at 2 rfl,sb,ab,ht',p2,dq,hc];refine E8 o ⋯ ⋯ λH o=>?_;simp! only[];refine⟨by simpa [AD,ofString_eq] using l1,?_,o⟩;rw[cf,UQ ht];simpa [AD,ofString_eq] using l2
  ·have ht':((B 13).getD ((14+i) / 8) 0).toNat.testBit ((14+i)%8)=false:=by simpa [tk] using ht
   simp! only[↓AK l1,↓AK l2,o.at 0 rfl,o.at 1 rfl,o.at 2 rfl,sb,ab,ht',dT,hc];refine E8 o ⋯ ⋯ λH o=>?_;simp! only[];refine⟨by simpa [AD,ofString_eq] using l1,?_,o⟩;rw[cf,T8 (by simpa using ht)];simp [AD]
 ·rintro loc h ⟨l1,l2,o⟩;refine⟨by rw[Do,T8 ⋯],?_⟩;rw[Au];apply hA;simp! only[↓AK l2];exact q _ o
theorem Oi (o:Ow (JP p B J cl []) ((ns,Bu p s tb)::F) H) (h0:14<=k) (h1:k<14+p.sp) (hi:i<12) (q:∀H,Ow (JP p B J cl []) ((ns,Bu p s tb)::F) H->Q (.int (wv (B k) (4*i))) H):W (call (n+4) (.fn 27 15) [.ref ns,.int k,.int i,.bool false] H) Q E:=by
 rw[AV [("self",.ref ns),("names",.int k),("index",.int i),("make",.bool false)] rfl rfl rfl rfl rfl];obtain⟨_,_,hc,hj⟩:=JP.cj o;simp! only[o.at 0 rfl,hc];refine Gm o ⋯ ⋯ λH ad dd o=>?_;obtain⟨_,_,hc,hj⟩:=JP.cj o;have bx:=JP.b o k;have wa:call (n+3) (.fn 20 0) [.ref dd,.int (4*(i:Int))] H= .ok (.int (wv (B k) (4*i))) H:=Er (n:=n+1) (i:=4*i) (.inr ⟨dd,rfl,o.at 1 rfl⟩) bx.2 (by rw[bx.1];omega);simp! only[o.at 0 rfl,o.at 2 rfl,wa,hc];refine E8 o ⋯ ⋯ λH o=>?_;by_cases e:wv (B k) (4*i)=0
 ·simp! only[e,dT];rw[e] at q;exact q _ o
 ·simp! only[e,dq];exact q _ o
theorem II (o:Ow (JP p B J 1 []) ((ns,Bu p s tb)::(s,CM p.sp)::F) H) (h0:14<=k) (h1:k<14+p.sp) (hi:i<12) (hJ:((13:Int)∈J/\k∈J/\J.length<=7)∨J.length<=5) (jY:tk (B 13) k.toNat=true) (q1:wv (B k) (4*i)≠0->∀H,Ow (JP p B J 1 []) ((ns,Bu p s tb)::(s,CM p.sp)::F) H->Q (.int (wv (B k) (4*i))) H) (q2:wv (B k) (4*i)=0->∀H m B1 J1,Tk p.sp B J m B1 J1->Ow (JP p (upd B1 k (pw (B1 k) (4*i) m)) (nt J1 k) 1 []) ((ns,Bu p s tb)::(s,CM p.sp)::F) H->Q (.int m) H) (e:wv (B k) (4*i)=0->∀H,Full p.sp B->Ow (JP p B J 1 []) ((ns,Bu p s tb)::(s,CM p.sp)::F) H->E 5 H):W (call (n+6) (.fn 27 15) [.ref ns,.int k,.int i,.bool true] H) Q E:=by
 rw[AV [("self",.ref ns),("names",.int k),("index",.int i),("make",.bool true)] rfl rfl rfl rfl rfl];obtain⟨_,_,hc,hj⟩:=JP.cj o;simp! only[o.at 0 rfl,hc];refine Gm o ⋯ ⋯ λH ad dd o=>?_;obtain⟨_,_,hc,hj⟩:=JP.cj o;have bx:=JP.b o k;have wa:call (n+5) (.fn 20 0) [.ref dd,.int (4*(i:Int))] H= .ok (.int (wv (B k) (4*i))) H:=Er (n:=n+3) (i:=4*i) (.inr ⟨dd,rfl,o.at 1 rfl⟩) bx.2 (by rw[bx.1];omega);simp! only[o.at 0 rfl,o.at 2 rfl,wa,hc];refine E8 o ⋯ ⋯ λH o=>?_;by_cases ez:wv (B k) (4*i)=0
 ·simp! only[ez,dT,o.at 0 rfl];refine D5 o (by rcases hJ with h|h;exact .inl ⟨h.1,h.2.2⟩;exact .inr ⋯) (λH m m1 m2 m3 o=>?_) (λH hf o=>e ez H hf o);obtain⟨_,_,hc,hj⟩:=JP.cj o;simp! only[o.at 0 rfl,hc];refine Gm o ⋯ ⋯ λH ad dd o=>?_;have mk:(m:Int)≠k:=by rintro rfl;rw[eD,m3] at jY;cases jY
  have bx:=JP.b o k;have pa:=Dl (n:=n+3) (i:=4*i) (v:=m) (o.at 1 rfl) (by rw[bx.1];omega) ⋯;rw[show ((4*i:Nat):Int)=4*(i:Int) by omega] at pa;simp! only[o.at 0 rfl,pa];replace o:=o.set 1 rfl (.ba (pw (upd (upd B 13 (Ey (B 13) m)) m Jj k) (4*i) m));generalize H.set dd _=H at o;obtain⟨_,_,hc,hj⟩:=JP.cj o;simp! only[o.at 0 rfl,o.at 2 rfl,hj];have jl:k∈nt (nt J 13) m∨(nt (nt J 13) m).length<=7:=by
   rcases hJ with h|h
   ·left;unfold nt;rw[UQ h.1];split
    ·exact h.2.1
    ·exact mo _ h.2.1
   ·right;have:=Co (J:=J) (k:=13);have:=Co (J:=nt J 13) (k:=m);omega
  refine Gh o ⋯ ⋯ ⋯ jl λH o=>?_;obtain⟨_,_,hc,hj⟩:=JP.cj o;simp! only[o.at 0 rfl,o.at 2 rfl,hc];refine M0 o ⋯ ⋯ ⟨by rw[BI];exact bx.1,bx.2.pw _ _⟩ (.inl Bi) λH o=>?_;exact q2 ez _ m _ _ ⟨m1,m2,m3,rfl,rfl⟩ o
 ·simp! only[ez,dq];exact q1 ez _ o
end
def gu (g:Nat->Int) (i:Nat) (k:Int):Nat->Int:=λj=>if j=i then k else g j
structure Fi (sp:Nat) (B:BW) (g:Nat->Int):Prop where
 r:∀i,i<15->g i=0∨(14<=g i/\g i<14+sp)
 w:g 14≠0->∀i,i<12->wv (B (g 14)) (4*i)=g (i+2)
 z:g 14=0->∀i,2<=i->i<14->g i=0
inductive St (sp:Nat) (B:BW) (J:List Int) (g:Nat->Int) (i:Nat):BW->List Int->(Nat->Int)->Prop where
 |d {k B1 J1} (h:i<2∨i=14) (z:g i=0) (t:Tk sp B J k B1 J1):St sp B J g i B1 J1 (gu g i k)
 |n {k B1 J1} (h:2<=i) (h':i<14) (z:g i=0) (y:g 14≠0) (t:Tk sp B J k B1 J1):St sp B J g i (upd B1 (g 14) (pw (B1 (g 14)) (4*(i-2)) k)) (nt J1 (g 14)) (gu g i k)
inductive Mk (sp:Nat) (B:BW) (J:List Int) (g:Nat->Int) (i:Nat):BW->List Int->(Nat->Int)->Prop where
 |a (h:g i≠0):Mk sp B J g i B J g
 |b {B' J' g'} (h:i<2∨g 14≠0) (s:St sp B J g i B' J' g'):Mk sp B J g i B' J' g'
 |c {B1 J1 g1 B' J' g'} (h:2<=i) (h':g 14=0) (s:St sp B J g 14 B1 J1 g1) (s':St sp B1 J1 g1 i B' J' g'):Mk sp B J g i B' J' g'
inductive Mf (sp:Nat) (B:BW) (J:List Int) (g:Nat->Int) (i:Nat):BW->List Int->(Nat->Int)->Prop where
 |a (h:g i=0) (f:Full sp B):Mf sp B J g i B J g
 |c {B1 J1 g1} (h:2<=i) (h':g 14=0) (s:St sp B J g 14 B1 J1 g1) (f:Full sp B1):Mf sp B J g i B1 J1 g1
section
variable {sp:Nat}{num:Int}
abbrev nF (p:Pm) (ns s tb nd pl:Nat) (num hold kind links size:Int) (g:Nat->Int) (F:HL):HL:=(ns,Bu p s tb)::(s,CM p.sp)::(nd,NO ns num hold kind links size pl)::(pl,gP g)::F
theorem OP (o:Ow (JP p B J cl []) (nF p ns s tb nd pl num hold kind links size g F) H) (fi:Fi p.sp B g) (hi:i<14) (q:∀H,Ow (JP p B J cl []) (nF p ns s tb nd pl num hold kind links size g F) H->Q (.int (g i)) H):W (call (n+5) (.fn 27 14) [.ref ns,.ref nd,.int i,.bool false] H) Q E:=by
 rw[AV [("self",.ref ns),("node",.ref nd),("index",.int i),("make",.bool false)] rfl rfl rfl rfl rfl];have mb:=EQ (n:=n+3) (o.at 1 rfl);by_cases h2:i<2
 ·have c1:(i:Int)<2:=by omega
  have sl:BM (.ref pl) (.int i) H=some (.int (g i)):=Ga (o.at 3 rfl) (by rcases i with _|_|i;rfl;rfl;omega);by_cases e:g i=0
  ·simp! only[o.at 0 rfl,o.at 1 rfl,o.at 2 rfl,c1,dT,sl,e];rw[e] at q;exact q _ o
  ·simp! only[o.at 0 rfl,o.at 1 rfl,o.at 2 rfl,c1,dT,sl,e,dq];exact q _ o
 ·have c1:¬(i:Int)<2:=by omega
  have c2:¬(2+12:Int)<=i:=by omega
  have sl:BM (.ref pl) (.int 2) H=some (.int (g 14)):=Ga (i:=2) (o.at 3 rfl) rfl;by_cases e:g 14=0
  ·simp! only[o.at 0 rfl,o.at 1 rfl,o.at 2 rfl,c1,c2,mb,dT,dq,sl,e]
   have:=q _ o
   rwa [fi.z e i ⋯ hi] at this
  ·have c3:(i:Int)-2=((i-2:Nat):Int):=by omega
   simp! only[o.at 0 rfl,o.at 1 rfl,o.at 2 rfl,c1,c2,mb,dT,dq,sl,e,c3];have r:=(fi.r 14 ⋯).resolve_left e;refine Oi o r.1 r.2 ⋯ λH o=>?_;rw[fi.w e (i-2) ⋯,show i-2+2=i by omega];exact q _ o
theorem Mj (o:Ow (JP p B J 1 []) (nF p ns s tb nd pl num hold kind links size g F) H) (fi:Fi p.sp B g) (ft:g 14≠0->tk (B 13) (g 14).toNat=true) (hi:i<14) (hJ:J.length<=4) (q:∀H B' J' g',Mk p.sp B J g i B' J' g'->Ow (JP p B' J' 1 []) (nF p ns s tb nd pl num hold kind links size g' F) H->Q (.int (g' i)) H) (e:∀H B' J' g',Mf p.sp B J g i B' J' g'->Ow (JP p B' J' 1 []) (nF p ns s tb nd pl num hold kind links size g' F) H->E 5 H):W (call (n+7) (.fn 27 14) [.ref ns,.ref nd,.int i,.bool true] H) Q E:=by
 rw[AV [("self",.ref ns),("node",.ref nd),("index",.int i),("make",.bool true)] rfl rfl rfl rfl rfl];have mb:=EQ (n:=n+5) (o.at 1 rfl);have bx:=JP.b o 13;have sp:=JP.sp o;by_cases h2:i<2
 ·have c1:(i:Int)<2:=by omega
  have sl:BM (.ref pl) (.int i) H=some (.int (g i)):=Ga (o.at 3 rfl) (by rcases i with _|_|i;rfl;rfl;omega);by_cases ez:g i=0
  ·simp! only[o.at 0 rfl,o.at 1 rfl,o.at 2 rfl,c1,dT,sl,ez];refine D5 o (.inr ⋯) (λH k k1 k2 k3 o=>?_) λH hf o=>e _ _ _ _ (.a ez hf) o;have c4:(0<=(i:Int)/\i<3)=True:=uD ⟨by omega,by omega⟩;simp! only[o.at 2 rfl,o.at 3 rfl,KX,Ti,eD,c4];refine o.hs 3 rfl λH o=>?_;have sl:BM (.ref pl) (.int i) H=some (.int k):=Ga (o.at 3 rfl) (by rcases i with _|_|i;rfl;rfl;omega);simp! only[o.at 2 rfl,sl]
   have:=q H _ _ _ (.b (.inl h2) (.d (.inl h2) ez ⟨k1,k2,k3,rfl,rfl⟩)) (by
    rcases i with _|_|i
    ·exact o
    ·exact o
    ·omega)
   rwa [gu,UQ rfl] at this
  ·simp! only[o.at 0 rfl,o.at 1 rfl,o.at 2 rfl,c1,dT,sl,ez,dq];exact q _ _ _ _ (.a ez) o
 ·have c1:¬(i:Int)<2:=by omega
  have c2:¬(2+12:Int)<=i:=by omega
  have c3:(i:Int)-2=((i-2:Nat):Int):=by omega
  have ei:i-2+2=i:=by omega
  have sl:BM (.ref pl) (.int 2) H=some (.int (g 14)):=Ga (i:=2) (o.at 3 rfl) rfl;have ge:∀g k,gP (gu g i k)=gP g:=λg k=>by unfold gP gu;rw[T8 ⋯,T8 ⋯,T8 ⋯]
  by_cases ez:g 14=0
  ·simp! only[o.at 0 rfl,o.at 1 rfl,o.at 2 rfl,c1,c2,mb,dT,dq,sl,ez];refine D5 o (.inr ⋯) (λH m k1 k2 k3 o=>?_) λH hf o=>e _ _ _ _ (.a (fi.z ez i ⋯ hi) hf) o;simp! only[o.at 2 rfl,o.at 3 rfl,KX,Ti,(by decide:(Int.toNat 2<3)=True)];refine o.hs 3 rfl λH o=>?_;have sl:BM (.ref pl) (.int 2) H=some (.int m):=Ga (i:=2) (o.at 3 rfl) rfl;simp! only[o.at 0 rfl,o.at 2 rfl,sl,c3];have t:Tk p.sp B J m (upd (upd B 13 (Ey (B 13) m)) m Jj) (nt (nt J 13) m):=⟨k1,k2,k3,rfl,rfl⟩;have s1:=St.d (i:=14) (.inr rfl) ez t;have dj:upd (upd B 13 (Ey (B 13) m)) m Jj 13=Ey (B 13) m:=by unfold upd;rw[T8 ⋯,UQ rfl]
   have bm:upd (upd B 13 (Ey (B 13) m)) m Jj m=Jj:=by unfold upd;rw[UQ rfl]
   have wz:wv (upd (upd B 13 (Ey (B 13) m)) m Jj m) (4*(i-2))=0:=by
    rw[bm];unfold wv hv Jj
    have:∀j,(List.replicate 48 (0:Int)).getD j 0=0:=λj=>by
     rw[fp,qf];split<;>rfl
    rw[this,this,this,this];rfl
   have jl:(13:Int)∈nt (nt J 13) m/\(m:Int)∈nt (nt J 13) m/\(nt (nt J 13) m).length<=7:=by
    refine⟨?_,Bi,by have:=Co (J:=J) (k:=13);have:=Co (J:=nt J 13) (k:=m);omega⟩;exact IJ Bi
   have gm:gu g 14 m 14=m:=UQ rfl;refine II o ⋯ ⋯ ⋯ (.inl jl) ?_ (λh=>absurd wz h) (λh H m2 B1 J1 t2 o=>?_) λh H hf o=>?_
   ·rw[eD,dj,DL bx ⋯];simp
   ·have:=q H _ _ _ (.c ⋯ ez s1 (.n (k:=m2) ⋯ hi (by unfold gu;rw[T8 ⋯];exact fi.z ez i ⋯ hi) (by rw[gm];omega) t2)) (by
     unfold nF;rw[ge,gm] at*;exact o)
    rwa [gu,UQ rfl] at this
   ·exact e _ _ _ _ (.c ⋯ ez s1 hf) o
  ·simp! only[o.at 0 rfl,o.at 1 rfl,o.at 2 rfl,c1,c2,mb,dT,dq,sl,ez,c3];have r:=(fi.r 14 ⋯).resolve_left ez;have wi:=fi.w ez (i-2) ⋯;rw[ei] at wi;refine II o r.1 r.2 ⋯ (.inr ⋯) (ft ez) (λh H o=>?_) (λh H m B1 J1 t o=>?_) λh H hf o=>?_
   ·rw[wi];rw[wi] at h;exact q _ _ _ _ (.a h) o
   ·rw[wi] at h
    have:=q H _ _ _ (.b (.inr ez) (.n ⋯ hi h ez t)) (by unfold nF;rw[ge];exact o)
    rwa [gu,UQ rfl] at this
   ·rw[wi] at h;exact e _ _ _ _ (.a h hf) o
end
structure FS (sp:Nat) (B:BW) (G:Nat->Nat->Int):Prop where
 f:∀n,Fi sp B (G n)
 t:∀n i,i<15->G n i≠0->tk (B 13) (G n i).toNat=true
 d:∀n i m j,i<15->j<15->G n i≠0->G n i=G m j->n=m/\i=j
def Gu (G:Nat->Nat->Int) (n:Nat) (g:Nat->Int):Nat->Nat->Int:=λm=>if m=n then g else G m
def CT (B:BW) (g:Nat->Int) (q:Nat):Int:=if g (q / 48)=0 then 0 else (B (g (q / 48))).getD (q%48) 0
theorem DN (j:Nat):Jj.getD j 0=0:=by
 unfold Jj;rw[fp,qf];split<;>rfl
theorem IZ (i:Nat):wv Jj i=0:=by unfold wv hv;rw[DN,DN,DN,DN];rfl
theorem RT {v:Int}(h:4*i+3<l.length) (e:i≠j):wv (pw l (4*i) v) (4*j)=wv l (4*j):=by
 unfold wv hv;rw[GY h ⋯,GY h ⋯,GY h ⋯,GY h ⋯]
variable {G:Nat->Nat->Int}{J':List Int}{g':Nat->Int}
section
variable {sp:Nat}{B1:BW}{J1:List Int}{k:Nat}
theorem Tk.MP (t:Tk sp B J k B1 J1):B1 13=Ey (B 13) k:=by
 have:=t.a;rw[t.B];unfold upd;rw[T8 ⋯,UQ rfl]
theorem Tk.YZ (t:Tk sp B J k B1 J1):B1 k=Jj:=by rw[t.B];unfold upd;rw[UQ rfl]
theorem Tk.at (t:Tk sp B J k B1 J1){b:Int}(h:b≠13) (h':b≠k):B1 b=B b:=by rw[t.B];unfold upd;rw[T8 h',T8 h]
theorem FS.Ck (fs:FS sp B G) (hj:j<15) (h:G m j≠0):14<=G m j/\G m j<14+sp:=((fs.f m).r j hj).resolve_left h
theorem FS.fresh (fs:FS sp B G) (t:Tk sp B J k B1 J1) (hj:j<15) (h:G m j≠0):G m j≠k:=λe=>by
 have:=fs.t m j hj h
 rw[e,eD,t.f] at this;cases this
theorem FS.at (fs:FS sp B G) (t:Tk sp B J k B1 J1) {m j:Nat}(hj:j<15) (h:G m j≠0):B1 (G m j)=B (G m j):=
 t.at (by have:=fs.Ck hj h;omega) (fs.fresh t hj h)
theorem FS.dist (fs:FS sp B G) (t:Tk sp B J k B1 J1) (hi:i<15) (z:G n i=0):∀m j m' j',j<15->j'<15->Gu G n (gu (G n) i k) m j≠0->Gu G n (gu (G n) i k) m j=Gu G n (gu (G n) i k) m' j'->m=m'/\j=j':=by
 have v:∀m j,Gu G n (gu (G n) i k) m j=if m=n/\j=i then (k:Int) else G m j:=λm j=>by
  unfold Gu gu;by_cases h:m=n
  ·subst h;by_cases h2:j=i<;>simp [h2]
  ·simp [h]
 have ka:=t.a;intro m j m' j' hj hj' h0 h1;rw[v] at h0;rw[v,v] at h1;split at h1<;>split at h1
 ·rename_i a b;exact⟨a.1.trans b.1.symm,a.2.trans b.2.symm⟩
 ·exact absurd h1.symm (fs.fresh t hj' ⋯)
 ·rw[T8 (by assumption)] at h0;exact absurd h1 (fs.fresh t hj h0)
 ·rw[T8 (by assumption)] at h0;exact fs.d m j m' j' hj hj' h0 h1
theorem Kb (bx:Ci (B 13)) (t:Tk sp B J k B1 J1) (hs:sp<=13) (e:B' 13=B1 13):cf (B' 13) sp+1=cf (B 13) sp:=by
 have h:=Js (X:=B 13) (Y:=B1 13) (k:=k) (λi hi=>by rw[t.MP,DL bx (by have:=t.b;omega)];simp [hi]) t.f (by rw[t.MP,DL bx (by have:=t.b;omega)];simp) t.a sp;rw[UQ t.b,←e] at h;exact h
theorem St.ok (fs:FS sp B G) (bk:∀k,Ci (B k)) (hs:sp<=13) (hi:i<15) (s:St sp B J (G n) i B' J' g'):
  FS sp B' (Gu G n g')/\(∀m q,q<672->CT B' (Gu G n g' m) q=CT B (G m) q)/\cf (B' 13) sp+1=cf (B 13) sp/\∀b:Int,b<13->B' b=B b:=by
 have gs:∀g,Gu G n g n=g:=λg=>UQ rfl;have go:∀g m,m≠n->Gu G n g m=G m:=λg m h=>T8 h;cases s with
 | @d k B1 J1 h z t=>
  have ka:=t.a;have tb:∀j,tk (B' 13) j=(j==k||tk (B 13) j):=λj=>by rw[t.MP,DL (bk 13) (by have:=t.b;omega)]
  refine⟨⟨λm=>?_,λm j hj h0=>?_,fs.dist t hi z⟩,λm q hq=>?_,Kb (bk 13) t hs rfl,λb hb=>t.at ⋯ ⋯⟩
  ·by_cases hm:m=n
   ·subst hm;rw[gs];refine⟨λj hj=>?_,λh0 j hj=>?_,λh0 j h2 dz=>?_⟩
    ·unfold gu;split
     ·right;have:=t.b;omega
     ·exact (fs.f m).r j hj
    ·unfold gu at*;by_cases e:14=i
     ·rw[UQ e,t.YZ,IZ,T8 ⋯];exact ((fs.f m).z (e▸z) (j+2) ⋯ ⋯).symm
     ·rw[T8 e] at*;rw[fs.at t ⋯ h0,T8 ⋯];exact (fs.f m).w h0 j hj
    ·unfold gu at*;split at h0
     ·omega
     ·rw[T8 ⋯];exact (fs.f m).z h0 j h2 dz
   ·rw[go _ _ hm];refine⟨(fs.f m).r,λh0 j hj=>?_,(fs.f m).z⟩;rw[fs.at t ⋯ h0];exact (fs.f m).w h0 j hj
  ·rw[tb];by_cases hm:m=n
   ·subst hm;rw[gs] at*;unfold gu at*;split
    ·simp
    ·rename_i e;rw[T8 e] at h0;rw[fs.t m j hj h0];simp
   ·rw[go _ _ hm] at*;rw[fs.t m j hj h0];simp
  ·unfold CT;by_cases hm:m=n
   ·subst hm;rw[gs];unfold gu;by_cases e:q / 48=i
    ·rw[UQ e,T8 ⋯,t.YZ,DN,e,UQ z]
    ·rw[T8 e];split
     ·rfl
     ·rw[fs.at t ⋯ (by assumption)]
   ·rw[go _ _ hm];split
    ·rfl
    ·rw[fs.at t ⋯ (by assumption)]
 | @n k B1 J1 h h' z y t=>
  have ka:=t.a;have rg:=fs.Ck (m:=n) (j:=14) ⋯ y;have fr:=fs.fresh t (m:=n) (j:=14) ⋯ y;have dj:upd B1 (G n 14) (pw (B1 (G n 14)) (4*(i-2)) k) 13=B1 13:=by unfold upd;rw[T8 ⋯]
  have kZ:upd B1 (G n 14) (pw (B1 (G n 14)) (4*(i-2)) k) k=Jj:=by unfold upd;rw[T8 (λe=>fr e.symm),t.YZ]
  have bn:upd B1 (G n 14) (pw (B1 (G n 14)) (4*(i-2)) k) (G n 14)=pw (B (G n 14)) (4*(i-2)) k:=by unfold upd;rw[UQ rfl,fs.at t ⋯ y]
  have bo:∀m j,j<15->G m j≠0->¬(m=n/\j=14)->upd B1 (G n 14) (pw (B1 (G n 14)) (4*(i-2)) k) (G m j)=B (G m j):=λm j hj h0 hn=>by
   unfold upd;rw[T8 (λe=>hn (fs.d m j n 14 hj ⋯ h0 e)),fs.at t hj h0]
  have tb:∀j,tk (upd B1 (G n 14) (pw (B1 (G n 14)) (4*(i-2)) k) 13) j=(j==k||tk (B 13) j):=λj=>by rw[dj,t.MP,DL (bk 13) (by have:=t.b;omega)]
  refine⟨⟨λm=>?_,λm j hj h0=>?_,fs.dist t hi z⟩,λm q hq=>?_,Kb (bk 13) t hs dj,λb hb=>?_⟩
  ·by_cases hm:m=n
   ·subst hm;rw[gs];refine⟨λj hj=>?_,λh0 j hj=>?_,λh0 j h2 dz=>?_⟩
    ·unfold gu;split
     ·right;have:=t.b;omega
     ·exact (fs.f m).r j hj
    ·unfold gu at*;rw[T8 ⋯] at*;rw[bn];by_cases e:j+2=i
     ·rw[UQ e,show i-2=j by omega];exact Su (by rw[(bk _).1];omega) ⋯ (by have:=t.b;omega)
     ·rw[T8 e,RT (by rw[(bk _).1];omega) ⋯];exact (fs.f m).w h0 j hj
    ·unfold gu at h0;rw[T8 ⋯] at h0;exact absurd h0 y
   ·rw[go _ _ hm];refine⟨(fs.f m).r,λh0 j hj=>?_,(fs.f m).z⟩;rw[bo m 14 ⋯ h0 (λe=>hm e.1)];exact (fs.f m).w h0 j hj
  ·rw[tb];by_cases hm:m=n
   ·subst hm;rw[gs] at*;unfold gu at*;split
    ·simp
    ·rename_i e;rw[T8 e] at h0;rw[fs.t m j hj h0];simp
   ·rw[go _ _ hm] at*;rw[fs.t m j hj h0];simp
  ·unfold CT;by_cases hm:m=n
   ·subst hm;rw[gs];unfold gu;by_cases e:q / 48=i
    ·rw[UQ e,T8 ⋯,kZ,DN,e,UQ z]
    ·rw[T8 e];split
     ·rfl
     ·rw[bo m (q / 48) ⋯ (by assumption) ⋯]
   ·rw[go _ _ hm];split
    ·rfl
    ·rw[bo m (q / 48) ⋯ (by assumption) ⋯]
  ·unfold upd;rw[T8 ⋯];exact t.at ⋯ ⋯
end
variable {nb nn:Bool}{t:Nat}
section
variable {sp:Nat}{B1:BW}{J1:List Int}{k:Nat}
theorem Aj {x k:Int}:x∈nt J k↔x=k∨x∈J:=by
 unfold nt;split
 ·constructor
  ·exact .inr
  ·rintro (rfl|h)<;>assumption
 ·rw[eI,eA];exact Or.comm
theorem Ay {k:Int}:(nt J k).length=J.length+if k∈J then 0 else 1:=by unfold nt;split<;>simp
theorem Tk.LD (bk:∀k,Ci (B k)) (t:Tk sp B J k B1 J1):∀b,Ci (B1 b):=λb=>by
 rw[t.B];unfold upd;split
 ·exact KB
 ·split
  ·exact Lh (bk 13) k
  ·exact bk b
theorem St.LD (bk:∀k,Ci (B k)) (s:St sp B J g i B' J' g'):∀b,Ci (B' b):=by
 cases s with
 |d h z t=>exact t.LD bk
 |n h h' z y t=>
  intro b;unfold upd;split
  ·have:=t.LD bk (g 14);exact⟨by rw[BI];exact this.1,this.2.pw _ _⟩
  ·exact t.LD bk b
theorem O8:Gu (Gu G n g) n g'=Gu G n g':=by funext m;unfold Gu;split<;>rfl
theorem Du:Gu G n (G n)=G:=by funext m;unfold Gu;split<;>simp_all
structure JW (J:List Int) (g:Nat->Int) (cur t:Nat) (nb nn:Bool):Prop where
 b:(13:Int)∈J↔nb=true
 n:(g 14≠0/\g 14∈J)↔nn=true
 l:J.length=nb.toNat+nn.toNat+t
 e:∀j∈J,j=13∨(g 14≠0/\j=g 14)∨∃i,i<cur/\g i≠0/\j=g i
theorem JW.new (fs:FS sp B G) (w:JW J (G n) i t nb nn) (hi:i<14) (tt:Tk sp B J k B1 J1):(k:Int)∉J:=λh=>by
 have:=tt.a
 rcases w.e _ h with e|⟨h0,e⟩|⟨j,hj,h0,e⟩
 ·omega
 ·exact fs.fresh tt ⋯ h0 e.symm
 ·exact fs.fresh tt ⋯ h0 e.symm
theorem JW.old (fs:FS sp B G) (w:JW J (G n) i t nb nn) (hi:i<14) (h:G n i≠0):G n i∉J:=λhm=>by
 have r:=fs.Ck ⋯ h;rcases w.e _ hm with e|⟨h0,e⟩|⟨j,hj,h0,e⟩
 ·omega
 ·have:=(fs.d n i n 14 ⋯ ⋯ h e).2;omega
 ·have:=(fs.d n i n j ⋯ ⋯ h e).2;omega
theorem Mk.ok (fs:FS sp B G) (bk:∀k,Ci (B k)) (hs:sp<=13) (hi:i<14) (w:JW J (G n) i t nb nn) (s:Mk sp B J (G n) i B' J' g'):
  FS sp B' (Gu G n g')/\(∀m q,q<672->CT B' (Gu G n g' m) q=CT B (G m) q)/\(∀b:Int,b<13->B' b=B b)/\g' i≠0/\(∀k,Ci (B' k))/\
  ((G n i≠0/\cf (B' 13) sp=cf (B 13) sp/\g'=G n/\JW (nt J' (g' i)) g' (i+1) (t+1) nb nn)∨
   (G n i=0/\(i<2∨G n 14≠0)/\cf (B' 13) sp+1=cf (B 13) sp/\(∃k:Nat,k≠0/\g'=gu (G n) i k)/\JW (nt J' (g' i)) g' (i+1) (t+1) true (nn||decide (1<i)))∨
   (G n i=0/\2<=i/\G n 14=0/\cf (B' 13) sp+2=cf (B 13) sp/\(∃m k:Nat,m≠0/\k≠0/\g'=gu (gu (G n) 14 m) i k)/\JW (nt J' (g' i)) g' (i+1) (t+1) true true)):=by
 have gs:∀g,Gu G n g n=g:=λg=>UQ rfl;cases s with
 |a h=>
  have ni:=w.old fs hi h;have r:=fs.Ck ⋯ h;rw[Du];refine⟨fs,λ_ _ _=>rfl,λ_ _=>rfl,h,bk,.inl ⟨h,rfl,rfl,?_,?_,?_,λj hj=>?_⟩⟩
  ·rw[Aj,←w.b];exact or_iff_right ⋯
  ·rw[Aj,←w.n];refine and_congr_right λh0=>or_iff_right λe=>?_
   have:=(fs.d n 14 n i ⋯ ⋯ h0 e).2;omega
  ·rw[Ay,T8 ni,w.l];omega
  ·rcases Aj.mp hj with rfl|hj
   ·exact .inr (.inr ⟨i,by omega,h,rfl⟩)
   ·exact (w.e j hj).imp id (.imp id λ⟨j',u,v⟩=>⟨j',by omega,v⟩)
 |b h s=>
  obtain⟨f1,f2,f3,f4⟩:=s.ok fs bk hs ⋯;have bl:=s.LD bk;refine⟨f1,f2,f4,?_,bl,.inr (.inl ⟨?_,h,f3,?_,?_⟩)⟩
  ·cases s with
   | @d k B1 J1 h z t=>have:=t.a;unfold gu;rw[UQ rfl];omega
   | @n k B1 J1 h h' z y t=>have:=t.a;unfold gu;rw[UQ rfl];omega
  ·cases s<;>assumption
  ·cases s with
   | @d k B1 J1 h z t=>have:=t.a;exact⟨k,by omega,rfl⟩
   | @n k B1 J1 h h' z y t=>have:=t.a;exact⟨k,by omega,rfl⟩
  ·cases s with
   | @d k B1 J1 h' z tt=>
    have ka:=tt.a;have kJ:=w.new fs hi tt;have i2:i<2:=by omega
    have e1:gu (G n) i k i=k:=UQ rfl;have e2:gu (G n) i k 14=G n 14:=T8 ⋯;rw[e1,tt.J];refine⟨?_,?_,?_,λj hj=>?_⟩
    ·simp [Aj]
    ·rw[e2,Aj,Aj,Aj]
     have:(nn||decide (1<i))=nn:=by simp;omega
     rw[this,←w.n];refine and_congr_right λh0=>?_
     have:=fs.fresh tt (m:=n) (j:=14) ⋯ h0
     have:=fs.Ck (m:=n) (j:=14) ⋯ h0
     constructor
     ·rintro (h|h|h|h)<;>first|exact h|omega
     ·exact λh=>.inr (.inr (.inr h))
    ·have:(nn||decide (1<i))=nn:=by simp;omega
     rw[this,Ay,UQ Bi,Ay,Ay,T8 (show ¬(k:Int)∈nt J 13 by rw[Aj];rintro (h|h);omega;exact kJ h),w.l];by_cases dh:(13:Int)∈J
     ·rw[UQ dh,w.b.mp dh];simp;omega
     ·have:nb=false:=by rw[←oo,←w.b];exact dh
      rw[T8 dh,this];simp;omega
    ·rcases Aj.mp hj with rfl|hj
     ·exact .inr (.inr ⟨i,by omega,by rw[e1];omega,e1.symm⟩)
     ·rcases Aj.mp hj with rfl|hj
      ·exact .inr (.inr ⟨i,by omega,by rw[e1];omega,e1.symm⟩)
      ·rcases Aj.mp hj with rfl|hj
       ·exact .inl rfl
       ·rw[e2];refine (w.e j hj).imp id (.imp id λ⟨j',u,v⟩=>⟨j',by omega,?_⟩);unfold gu;rw[T8 ⋯];exact v
   | @n k B1 J1 h2 h' z y tt=>
    have ka:=tt.a;have kJ:=w.new fs hi tt;have e1:gu (G n) i k i=k:=UQ rfl;have e2:gu (G n) i k 14=G n 14:=T8 ⋯;have fr:=fs.fresh tt (m:=n) (j:=14) ⋯ y;have rg:=fs.Ck (m:=n) (j:=14) ⋯ y;have en:(nn||decide (1<i))=true:=by simp;omega
    rw[e1,tt.J,en];refine⟨?_,?_,?_,λj hj=>?_⟩
    ·simp [Aj]
    ·rw[e2];simp [Aj,y]
    ·rw[Ay,UQ (Aj.mpr (.inr Bi)),Ay,Ay,Ay,T8 (show ¬(k:Int)∈nt J 13 by rw[Aj];rintro (h|h);omega;exact kJ h),w.l];have m1:G n 14∈nt (nt J 13) k↔G n 14∈J:=by
      rw[Aj,Aj];constructor
      ·rintro (h|h|h)<;>first|exact h|omega
      ·exact λh=>.inr (.inr h)
     simp only[m1];have hn:G n 14∈J↔nn=true:=by rw[←w.n];simp [y]
     by_cases dh:(13:Int)∈J<;>by_cases dz:G n 14∈J
     ·rw[UQ dh,UQ dz,w.b.mp dh,hn.mp dz];simp;omega
     ·have:nn=false:=by rw[←oo,←hn];exact dz
      rw[UQ dh,T8 dz,w.b.mp dh,this];simp;omega
     ·have:nb=false:=by rw[←oo,←w.b];exact dh
      rw[T8 dh,UQ dz,this,hn.mp dz];simp;omega
     ·have:nb=false:=by rw[←oo,←w.b];exact dh
      have:nn=false:=by rw[←oo,←hn];exact dz
      subst nb nn;rw[T8 dh,T8 dz];simp;omega
    ·rcases Aj.mp hj with rfl|hj
     ·exact .inr (.inr ⟨i,by omega,by rw[e1];omega,e1.symm⟩)
     ·rcases Aj.mp hj with rfl|hj
      ·exact .inr (.inl ⟨by rw[e2];exact y,e2.symm⟩)
      ·rcases Aj.mp hj with rfl|hj
       ·exact .inr (.inr ⟨i,by omega,by rw[e1];omega,e1.symm⟩)
       ·rcases Aj.mp hj with rfl|hj
        ·exact .inl rfl
        ·rw[e2];refine (w.e j hj).imp id (.imp id λ⟨j',u,v⟩=>⟨j',by omega,?_⟩);unfold gu;rw[T8 ⋯];exact v
 | @c B1 J1 g1 _ _ _ h h' s s'=>
  obtain⟨f1,f2,f3,f4⟩:=s.ok fs bk hs ⋯;have bl:=s.LD bk;have pF:=f1;have s2:=s';rw[←gs g1] at s2;obtain⟨p1,p2,p3,p4⟩:=s2.ok f1 bl hs ⋯;rw[O8] at p1 p2;have iO:=s'.LD bl;have z0:=(fs.f n).z h' i h hi;cases s with
  | @n k B1 J1 hh h1 z y t=>exact absurd h' y
  | @d m B1 J1 hh z tt=>
   cases s' with
   | @d k B2 J2 h2 z2 t2=>omega
   | @n k B2 J2 h2 h3 z2 y t2=>
    have ma:=tt.a;have ka:=t2.a;have e1:gu (gu (G n) 14 m) i k i=k:=UQ rfl;have e2:gu (G n) 14 m 14=m:=UQ rfl;have e3:gu (gu (G n) 14 m) i k 14=m:=by rw[gu,T8 ⋯,e2]
    have mJ:=w.new fs hi tt;have km:k≠m:=λe=>by
     have:=t2.f;rw[tt.MP,DL (bk 13) (by have:=tt.b;omega),e] at this;simp at this
    have kJ:(k:Int)∉J:=λhk=>by
     have h5:tk (B1 13) k=true:=by
      rw[tt.MP,DL (bk 13) (by have:=tt.b;omega)];rcases w.e _ hk with e|⟨h0,e⟩|⟨j,hj,h0,e⟩
      ·omega
      ·exact absurd h' h0
      ·have:=fs.t n j ⋯ h0;rw[←e,eD] at this;rw[this];simp
     rw[t2.f] at h5;cases h5
    refine⟨p1,λm q hq=>(p2 m q hq).trans (f2 m q hq),λb hb=>(p4 b hb).trans (f4 b hb),by rw[e1];omega,iO,.inr (.inr ⟨z0,h,h',by omega,⟨m,k,by omega,by omega,rfl⟩,?_⟩)⟩;rw[e1,e2,t2.J,tt.J];have kg:nn=false:=by rw[←oo,←w.n];exact λh=>h.1 h'
    refine⟨?_,?_,?_,λj hj=>?_⟩
    ·simp [Aj]
    ·rw[e3];simp [Aj];omega
    ·have q1:(13:Int)∈nt (nt J 13) m:=IJ Bi;have q2:(m:Int)∈nt (nt (nt (nt J 13) m) 13) k:=IJ (IJ Bi);have q3:¬(k:Int)∈nt (nt (nt J 13) m) 13:=by
      rw[Aj,Aj,Aj];rintro (h|h|h|h)
      ·omega
      ·omega
      ·omega
      ·exact kJ h
     have q4:¬(m:Int)∈nt J 13:=by rw[Aj];rintro (h|h);omega;exact mJ h
     rw[Ay,UQ (IJ Bi),Ay,UQ q2,Ay,T8 q3,Ay,UQ q1,Ay,T8 q4,Ay,w.l,kg];by_cases dh:(13:Int)∈J
     ·rw[UQ dh,w.b.mp dh];simp;omega
     ·have:nb=false:=by rw[←oo,←w.b];exact dh
      rw[T8 dh,this];simp;omega
    ·rw[Aj,Aj,Aj,Aj,Aj,Aj] at hj;have a1:∃i',i'<i+1/\gu (gu (G n) 14 m) i k i'≠0/\(k:Int)=gu (gu (G n) 14 m) i k i':=⟨i,by omega,by rw[e1];omega,e1.symm⟩;have a2:gu (gu (G n) 14 m) i k 14≠0/\(m:Int)=gu (gu (G n) 14 m) i k 14:=by rw[e3];exact⟨by omega,rfl⟩
     rcases hj with rfl|rfl|rfl|rfl|rfl|rfl|hj
     ·exact .inr (.inr a1)
     ·exact .inr (.inl a2)
     ·exact .inr (.inr a1)
     ·exact .inl rfl
     ·exact .inr (.inl a2)
     ·exact .inl rfl
     ·refine (w.e j hj).imp id (Or.imp (λh=>absurd h' h.1) λ⟨j',u,v⟩=>⟨j',by omega,?_⟩);unfold gu;rw[T8 ⋯,T8 ⋯];exact v
theorem Mf.ok (fs:FS sp B G) (bk:∀k,Ci (B k)) (hs:sp<=13) (hi:i<14) (s:Mf sp B J (G n) i B' J' g'):
  FS sp B' (Gu G n g')/\(∀m q,q<672->CT B' (Gu G n g' m) q=CT B (G m) q)/\(∀b:Int,b<13->B' b=B b)/\(∀k,Ci (B' k))/\J'.length<=J.length+2/\G n i=0/\cf (B' 13) sp=0/\
  ((cf (B 13) sp=0/\g'=G n)∨(2<=i/\G n 14=0/\cf (B 13) sp=1/\∃m:Nat,m≠0/\g'=gu (G n) 14 m)):=by
 cases s with
 |a h f=>rw [Du];exact⟨fs,λ_ _ _=>rfl,λ_ _=>rfl,bk,by omega,h,GL f,.inl ⟨GL f,rfl⟩⟩
 |c h h' s f=>
  obtain⟨f1,f2,f3,f4⟩:=s.ok fs bk hs ⋯;have bl:=s.LD bk;have z:=GL f;cases s with
  |n hh h1 z y t=>exact absurd h' y
  | @d m B1 J1 hh z0 tt=>
   refine⟨f1,f2,f4,bl,?_,(fs.f n).z h' i h hi,z,.inr ⟨h,h',by omega,m,by have:=tt.a;omega,rfl⟩⟩;rw[tt.J];have:=Co (J:=J) (k:=13);have:=Co (J:=nt J 13) (k:=m);omega
end
theorem Ul {s:Src}{k:Nat}(e:s.next i h=some (some v)) (q:WS (turn v loc h) (lp (λloc h=>WS (Bo s turn k (i+1) loc h) S SE) S) (λ_ _ _=>False)):WS (Bo s turn (k+1) i loc h) S SE:=by
 rw[Bo,e];dsimp only;cases ht:turn v loc h with
 |ok f l h'=>rw [ht] at q;cases f<;>exact q
 |exc c l h'=>rw [ht] at q;exact q.elim
 |stuck=>rw [ht] at q;exact q.elim
def Cj (x:List Int) (at':Nat) (kind links size:Int) (g:Nat->Int):List Int:=
 pw (pw (pw (pw (ph (ph (ph (ph x at' kind) (at'+2) 0) (at'+4) 0) (at'+6) links) (at'+8) size) (at'+12) (g 0)) (at'+16) (g 1)) (at'+20) (g 14)
theorem Q8:(Cj x a kind links size g).length=x.length:=by unfold Cj;simp only[BI,Av]
theorem Ci.Cj {x:List Int}(h:Ci x) (a:Nat) (kind links size:Int) (g:Nat->Int):Ci (Cj x a kind links size g):=
 ⟨by rw[Q8];exact h.1,((((((((h.2.ph _ _).ph _ _).ph _ _).ph _ _).pw _ _).pw _ _).pw _ _).pw _ _)⟩
section
variable {v:Int}
theorem FY (h:i+3<l.length) (e:j+2<=i∨i+4<=j):hv (pw l i v) j=hv l j:=by unfold hv;rw[GY h ⋯,GY h ⋯]
theorem UA (h:i+3<l.length) (e:j+4<=i∨i+4<=j):wv (pw l i v) j=wv l j:=by unfold wv;rw[FY h ⋯,FY h ⋯]
theorem FX (h:i+1<l.length) (e:j+2<=i∨i+2<=j):hv (ph l i v) j=hv l j:=by unfold hv;rw[NT h ⋯,NT h ⋯]
theorem YM (h:i+1<l.length) (e:j+4<=i∨i+2<=j):wv (ph l i v) j=wv l j:=by unfold wv;rw[FX h ⋯,FX h ⋯]
theorem VK (h:i+1<l.length) (h0:0<=v) (h1:v<65536):hv (ph l i v) i=v:=by rw[Xb h h0 h1,UQ rfl]
end
structure RI (x:List Int) (a:Nat) (kind links size:Int) (g:Nat->Int):Prop where
 k:hv x a=kind
 m:hv x (a+2)=0
 n:hv x (a+4)=0
 l:hv x (a+6)=links
 s:wv x (a+8)=size
 p0:wv x (a+12)=g 0
 p1:wv x (a+16)=g 1
 p2:wv x (a+20)=g 14
section
variable {b:Nat}{kind' links' size':Int}
theorem RI.own (h:a+23<x.length) (k:0<=kind/\kind<65536) (l:0<=links/\links<65536) (s:0<=size/\size<4294967296) (p:∀i,i<15->0<=g i/\g i<4294967296):RI (Cj x a kind links size g) a kind links size g:=by
 have p0:=p 0 ⋯;have p1:=p 1 ⋯;have p2:=p 14 ⋯;unfold Cj;constructor
 all_goals repeat first
  |rw [FY (by (try simp only[BI,Av]);omega) ⋯]
  |rw [UA (by (try simp only[BI,Av]);omega) ⋯]
  |rw [FX (by (try simp only[BI,Av]);omega) ⋯]
  |rw [VK (by (try simp only[BI,Av]);omega) ⋯ ⋯]
  |rw [Su (by (try simp only[BI,Av]);omega) ⋯ ⋯]
theorem RI.ne (h:a+23<x.length) (e:b+24<=a∨a+24<=b) (r:RI x b kind' links' size' g'):RI (Cj x a kind links size g) b kind' links' size' g':=by
 have hh:∀j,j+2<=a∨a+24<=j->hv (Cj x a kind links size g) j=hv x j:=λj hj=>by
  unfold Cj;rw[FY (by (try simp only[BI,Av]);omega) ⋯,FY (by (try simp only[BI,Av]);omega) ⋯,FY (by (try simp only[BI,Av]);omega) ⋯,FY (by (try simp only[BI,Av]);omega) ⋯,FX (by (try simp only[BI,Av]);omega) ⋯,FX (by (try simp only[BI,Av]);omega) ⋯,FX (by (try simp only[BI,Av]);omega) ⋯,FX (by (try simp only[BI,Av]);omega) ⋯]
 have wh:∀j,j+4<=a∨a+24<=j->wv (Cj x a kind links size g) j=wv x j:=λj hj=>by unfold wv;rw[hh _ ⋯,hh _ ⋯]
 obtain⟨k,m,n,l,s,p0,p1,p2⟩:=r;constructor
 ·rwa [hh _ ⋯]
 ·rwa [hh _ ⋯]
 ·rwa [hh _ ⋯]
 ·rwa [hh _ ⋯]
 ·rwa [wh _ ⋯]
 ·rwa [wh _ ⋯]
 ·rwa [wh _ ⋯]
 ·rwa [wh _ ⋯]
end
def Bs (num:Nat):Int:=11+(num / 2:Nat)
def rat (num:Nat):Nat:=num%2*24
variable {num:Nat}
section
variable {sp:Nat}
theorem Uj (h:H[s]? =some (CM sp)):call (n+1) (.fn 24 5) [.ref s,.int num] H= .ok (.tup [.int (Bs num),.int (rat num)]) H:=by
 have:=QR (n:=n) (k:=(num:Int)) h ⋯ ⋯ ⋯
 rw[this];unfold Bs rat;congr 4<;>omega
theorem Ry {at':Nat}(o:Ow P ((dd,.ba x)::(nd,NO ns num hold kind links size pl)::(pl,gP g)::F) H) (hx:at'+23<x.length) (h1:0<=kind) (h2:0<=links) (h3:0<=size) (hp:∀i,i<15->0<=g i) (q:∀H,Ow P ((dd,.ba (Cj x at' kind links size g))::(nd,NO ns num hold kind links size pl)::(pl,gP g)::F) H->Q .none H):W (call (n+3) (.fn 26 3) [.ref nd,.ref dd,.int at'] H) Q E:=by
 rw[AV [("self",.ref nd),("octets",.ref dd),("at",.int at')] rfl rfl rfl rfl rfl];refine CD (a:=[_,_,_,_,_]) λA hA=>?_;have c1:=Dk (n:=n+1) (v:=kind) (o.at 0 rfl) (i:=at') ⋯ h1;simp! only[o.at 1 rfl,c1];replace o:=o.set 0 rfl (.ba (ph x at' kind));generalize H.set dd _=H at o;have c1:=Dk (n:=n+1) (v:=0) (o.at 0 rfl) (i:=at'+2) (by rw[Av];omega) ⋯;rw[show ((at'+2:Nat):Int)=(at':Int)+2 by omega] at c1;simp! only[o.at 1 rfl,c1];replace o:=o.set 0 rfl (.ba (ph (ph x at' kind) (at'+2) 0));generalize H.set dd _=H at o;have c1:=Dk (n:=n+1) (v:=0) (o.at 0 rfl) (i:=at'+4) (by rw[Av,Av];omega) ⋯;rw[show ((at'+4:Nat):Int)=(at':Int)+4 by omega] at c1;simp! only[o.at 1 rfl,c1];replace o:=o.set 0 rfl (.ba (ph (ph (ph x at' kind) (at'+2) 0) (at'+4) 0));generalize H.set dd _=H at o;have c1:=Dk (n:=n+1) (v:=links) (o.at 0 rfl) (i:=at'+6) (by (try simp only[BI,Av]);omega) h2;rw[show ((at'+6:Nat):Int)=(at':Int)+6 by omega] at c1;simp! only[o.at 1 rfl,c1];replace o:=o.set 0 rfl (.ba (ph (ph (ph (ph x at' kind) (at'+2) 0) (at'+4) 0) (at'+6) links));generalize H.set dd _=H at o;have c1:=Dl (n:=n) (v:=size) (o.at 0 rfl) (i:=at'+8) (by (try simp only[BI,Av]);omega) h3;rw[show ((at'+8:Nat):Int)=(at':Int)+8 by omega] at c1;simp! only[o.at 1 rfl,c1];replace o:=o.set 0 rfl (.ba (pw (ph (ph (ph (ph x at' kind) (at'+2) 0) (at'+4) 0) (at'+6) links) (at'+8) size));generalize H.set dd _=H at o;apply hA;clear hA A;simp! only[o.at 1 rfl,o.at 2 rfl,KX,Ti,Nat.reduceAdd];refine Ul (v:=.tup [.int (0:Nat),.int (g 0)]) (by rw[HC (o.at 2 rfl)];rfl) ?_;have c1:=Dl (n:=n) (v:=g 0) (o.at 0 rfl) (i:=at'+12) (by (try simp only[BI,Av]);omega) (hp 0 ⋯);rw[show ((at'+12:Nat):Int)=(at':Int)+12+4*(0:Nat) by omega] at c1;simp! only[KX,Ti,c1];replace o:=o.set 0 rfl (.ba (pw (pw (ph (ph (ph (ph x at' kind) (at'+2) 0) (at'+4) 0) (at'+6) links) (at'+8) size) (at'+12) (g 0)));generalize H.set dd _=H at o;refine Ul (v:=.tup [.int (1:Nat),.int (g 1)]) (by rw[HC (o.at 2 rfl)];rfl) ?_;have c1:=Dl (n:=n) (v:=g 1) (o.at 0 rfl) (i:=at'+16) (by (try simp only[BI,Av]);omega) (hp 1 ⋯);rw[show ((at'+16:Nat):Int)=(at':Int)+12+4*(1:Nat) by omega] at c1;simp! only[KX,Ti,c1];replace o:=o.set 0 rfl (.ba (pw (pw (pw (ph (ph (ph (ph x at' kind) (at'+2) 0) (at'+4) 0) (at'+6) links) (at'+8) size) (at'+12) (g 0)) (at'+16) (g 1)));generalize H.set dd _=H at o;refine Ul (v:=.tup [.int (2:Nat),.int (g 14)]) (by rw[HC (o.at 2 rfl)];rfl) ?_;have c1:=Dl (n:=n) (v:=g 14) (o.at 0 rfl) (i:=at'+20) (by (try simp only[BI,Av]);omega) (hp 14 ⋯);rw[show ((at'+20:Nat):Int)=(at':Int)+12+4*(2:Nat) by omega] at c1;simp! only[KX,Ti,c1];replace o:=o.set 0 rfl (.ba (pw (pw (pw (pw (ph (ph (ph (ph x at' kind) (at'+2) 0) (at'+4) 0) (at'+6) links) (at'+8) size) (at'+12) (g 0)) (at'+16) (g 1)) (at'+20) (g 14)));generalize H.set dd _=H at o;refine (Vy (by rw[HC (o.at 2 rfl)];rfl)).mpr ?_;simp! only[];exact q _ o
theorem update (o:Ow (JP p B J 1 []) (nF p ns s tb nd pl num hold kind links size g F) H) (hn:num<=3) (h1:0<=kind) (h2:0<=links) (h3:0<=size) (hp:∀i,i<15->0<=g i) (hJ:Bs num∈J∨J.length<=7) (q:∀H,Ow (JP p (upd B (Bs num) (Cj (B (Bs num)) (rat num) kind links size g)) (nt J (Bs num)) 1 []) (nF p ns s tb nd pl num hold kind links size g F) H->Q .none H):W (call (n+4) (.fn 27 5) [.ref ns,.ref nd] H) Q E:=by
 rw[AV [("self",.ref ns),("node",.ref nd)] rfl rfl rfl rfl rfl];have hs:=JP.sp o;have r1:=Uj (n:=n+2) (num:=num) (o.at 1 rfl);obtain⟨_,_,hc,hj⟩:=JP.cj o;simp! only[o.at 0 rfl,o.at 1 rfl,o.at 2 rfl,r1,KX,Ti,hc];have rk:11<=Bs num/\Bs num<=12:=by unfold Bs;omega
 refine Gm o ⋯ ⋯ λH ad dd o=>?_;have bx:=JP.b o (Bs num);simp! only[o.at 0 rfl,o.at 4 rfl];refine Ry (o.sel (A:=[_,_,_,_,_,_]) [1,4,5,0,2,3] ⋯) (by rw[bx.1];unfold rat;omega) h1 h2 h3 hp λH o=>?_;obtain⟨_,_,hc,hj⟩:=JP.cj o;simp! only[o.at 4 rfl,hj];refine Gh (o.sel (A:=[_,_,_,_,_,_]) [3,0,4,5,1,2] ⋯) ⋯ ⋯ ⋯ hJ λH o=>?_;obtain⟨_,_,hc,hj⟩:=JP.cj o;simp! only[o.at 2 rfl,hc];refine M0 o ⋯ ⋯ (bx.Cj _ _ _ _ _) (.inl Bi) λH o=>?_;simp! only[];exact q _ o
end
structure RS where
 (done free:Nat)
 M:List Nat
 (nm nb nn:Bool)
 t:Nat
def RS.w (s:RS):Nat:=s.nb.toNat+s.nn.toNat+s.t
def Eu (off cnt:Nat) (s:RS):RS×Bool:=
 let i:=(off+s.done) / 48
 let d:=s.done+min (48-(off+s.done)%48) (cnt-s.done)
 if i∈s.M then ({s with done:=d,t:=s.t+1},true)
 else if s.free=0 then (s,false)
 else if 1<i/\s.nm=false then
  if s.free=1 then ({s with free:=0,nm:=true},false)
  else (⟨d,s.free-2,s.M++[i],true,true,true,s.t+1⟩,true)
 else (⟨d,s.free-1,s.M++[i],s.nm,true,s.nn||decide (1<i),s.t+1⟩,true)
def Jp (off cnt:Nat):Nat->RS->RS
 |0,s=>s
 |f+1,s=>if s.done<cnt/\s.w<5 then (if (Eu off cnt s).2 then Jp off cnt f (Eu off cnt s).1 else (Eu off cnt s).1) else s
structure Rel (sp:Nat) (s:RS) (B:BW) (g:Nat->Int):Prop where
 f:s.free=cf (B 13) sp
 m:∀i,i<14->(i∈s.M↔g i≠0)
 n:s.nm=true↔g 14≠0
 d:s.M.Nodup
 l:∀i∈s.M,i<14
def MQ (x:List Int) (st:Nat) (ys:List Int):List Int:=x.take st++ys++x.drop (st+ys.length)
theorem Ef {m:List Int}:(l++m).getD i 0=if i<l.length then l.getD i 0 else m.getD (i-l.length) 0:=by
 simp only[fp,t9];split<;>rfl
theorem Di {k:Nat}:(l.take k).getD i 0=if i<k then l.getD i 0 else 0:=by
 simp only[fp,qS];split<;>rfl
theorem Ds {k:Nat}:(l.drop k).getD i 0=l.getD (k+i) 0:=by
 simp only[fp,oI]
theorem JL (h:l.length<=i):l.getD i 0=0:=by
 rw[fp,fA h];rfl
variable {st:Nat}{ys:List Int}
theorem SJ (h:st+ys.length<=x.length):(MQ x st ys).length=x.length:=by unfold MQ;simp;omega
theorem Rh (h:st+ys.length<=x.length):(MQ x st ys).getD i 0=if st<=i/\i<st+ys.length then ys.getD (i-st) 0 else x.getD i 0:=by
 have e1:min st x.length=st:=by omega
 unfold MQ;rw[Ef,Ef,Di,Ds,eR,rY,e1];by_cases a:i<st
 ·rw[UQ ⋯,UQ a,UQ a,T8 ⋯]
 ·by_cases b:i<st+ys.length
  ·rw[UQ b,T8 a,UQ ⟨by omega,b⟩]
  ·rw[T8 b,T8 ⋯];congr 1;omega
theorem Ci.MQ {x ys:List Int}{st:Nat}(b:Ci x) (h:st+ys.length<=48) (o:Cc ys):Ci (MQ x st ys):=by
 refine⟨by rw[SJ (by rw[b.1];exact h)];exact b.1,λy hy=>?_⟩;unfold Fsx.MQ at hy;rcases eI.mp hy with hy|hy
 ·rcases eI.mp hy with hy|hy
  ·exact b.2 y (q0 hy)
  ·exact o y hy
 ·exact b.2 y (qz hy)
section
variable {sp:Nat}{B1:BW}{J1:List Int}{k:Nat}
theorem FS.low (fs:FS sp B G) (e:∀b:Int,13<=b->B' b=B b):FS sp B' G/\∀m q,q<672->CT B' (G m) q=CT B (G m) q:=by
 refine⟨⟨λm=>⟨(fs.f m).r,λh0 j hj=>?_,(fs.f m).z⟩,λm j hj h0=>?_,fs.d⟩,λm q hq=>?_⟩
 ·have:=fs.Ck (m:=m) ⋯ h0
  rw[e _ ⋯];exact (fs.f m).w h0 j hj
 ·rw[e _ ⋯];exact fs.t m j hj h0
 ·unfold CT;split
  ·rfl
  ·rename_i h0;have:=fs.Ck (m:=m) ⋯ h0;rw[e _ ⋯]
theorem FS.data (fs:FS sp B G) (hi:i<14) (h0:G n i≠0):FS sp (upd B (G n i) y) G/\(∀m q,q<672->CT (upd B (G n i) y) (G m) q=if m=n/\q / 48=i then y.getD (q%48) 0 else CT B (G m) q)/\upd B (G n i) y 13=B 13/\∀b:Int,b<13->upd B (G n i) y b=B b:=by
 have rg:=fs.Ck ⋯ h0;have dj:∀b:Int,b<=13->upd B (G n i) y b=B b:=λb hb=>by unfold upd;rw[T8 ⋯]
 have ot:∀m j,j<15->G m j≠0->¬(m=n/\j=i)->upd B (G n i) y (G m j)=B (G m j):=λm j hj h1 hn=>by
  unfold upd;rw[T8 (λe=>hn (fs.d m j n i hj ⋯ h1 e))]
 refine⟨⟨λm=>⟨(fs.f m).r,λh1 j hj=>?_,(fs.f m).z⟩,λm j hj h1=>?_,fs.d⟩,λm q hq=>?_,dj 13 ⋯,λb hb=>dj b ⋯⟩
 ·rw[ot m 14 ⋯ h1 ⋯];exact (fs.f m).w h1 j hj
 ·rw[dj 13 ⋯];exact fs.t m j hj h1
 ·unfold CT;by_cases e:m=n/\q / 48=i
  ·rw[UQ e,e.1,e.2,T8 h0];unfold upd;rw[UQ rfl]
  ·rw[T8 e];split
   ·rfl
   ·rename_i h1;rw[ot m (q / 48) ⋯ h1 e]
end
variable {oc:List Int}{off:Nat}
section
variable {sp done:Nat}
theorem FW {d:Nat}(h:a+d<=l.length):(sliceOf l a (a+d)).length=d:=by unfold sliceOf;simp;omega
theorem KW {d:Nat}(h:j<d):(sliceOf l a (a+d)).getD j 0=l.getD (a+j) 0:=by
 unfold sliceOf;rw[Ds,Di,UQ ⋯]
theorem Cc.sl (o:Cc l) (a b:Nat):Cc (sliceOf l a b):=λx hx=>o x (q0 (qz hx))
theorem Md (o:Ow (JP p B J 1 []) (nF p ns s tb nd pl num hold kind links size (G num) F) H) (fs:FS p.sp B G) (ho:off<672) (hd:done<oc.length) (hc:Cc oc) (w:JW J (G num) (off / 48) t nb nn) (hJ:J.length<=4) (q:∀H B' J' g',Mk p.sp B J (G num) (off / 48) B' J' g'->Ow (JP p (upd B' (g' (off / 48)) (MQ (B' (g' (off / 48))) (off%48) (sliceOf oc done (done+min (48-off%48) (oc.length-done))))) (nt J' (g' (off / 48))) 1 []) (nF p ns s tb nd pl num hold kind links size g' F) H->Q (.int (min (48-off%48) (oc.length-done):Nat)) H) (e:∀H B' J' g',Mf p.sp B J (G num) (off / 48) B' J' g'->Ow (JP p B' J' 1 []) (nF p ns s tb nd pl num hold kind links size g' F) H->Q (.int 0) H):W (call (n+8) (.fn 27 18) [.ref ns,.ref nd,.int off,.bytes oc,.int done] H) Q E:=by
 rw[AV [("self",.ref ns),("node",.ref nd),("offset",.int off),("octets",.bytes oc),("done",.int done)] rfl rfl rfl rfl rfl];have sp:=JP.sp o;have bk:=JP.b o;refine seq λA hA=>?_;simp! only[o.at 0 rfl,o.at 1 rfl,κ,μ];have e1:(off:Int) / 48=((off / 48:Nat):Int):=by omega
 rw[e1];refine Mj o (fs.f num) (fs.t num 14 ⋯) ⋯ hJ (λH B' J' g' mk o=>?_) (λH B' J' g' mf o=>?_)
 ·simp! only[];apply hA;clear hA A;obtain⟨f1,f2,f3,f4,f5,f6⟩:=Mk.ok fs bk sp.2 ⋯ w mk;have rg:14<=g' (off / 48)/\g' (off / 48)<14+p.sp:=by
   have:=f1.Ck (m:=num) (j:=off / 48) ⋯ (by unfold Gu;rw[UQ rfl];exact f4)
   unfold Gu at this;rwa [UQ rfl] at this
  have jl:(nt J' (g' (off / 48))).length<=7:=by
   have l:=w.l;rcases f6 with ⟨_,_,_,w'⟩|⟨_,_,_,_,w'⟩|⟨_,_,_,_,_,w'⟩<;>rw [w'.l]<;>have hb:∀b:Bool,b.toNat<=1:=by decide
   all_goals have:=hb nb;have:=hb nn;have:=hb (nn||decide (1<off / 48));have:true.toNat=1:=rfl;omega
  have gI:J'.length<=7:=by rw[Ay] at jl;omega
  obtain⟨_,_,hc',hj⟩:=JP.cj o;have e2:(off:Int)%48=((off%48:Nat):Int):=by omega
  have e3:(if (oc.length:Int)-done<48-((off%48:Nat):Int) then (oc.length:Int)-done else 48-((off%48:Nat):Int))=((min (48-off%48) (oc.length-done):Nat):Int):=by split<;>omega
  generalize hm:min (48-off%48) (oc.length-done)=d at*;simp! only[o.at 0 rfl,o.at 1 rfl,κ,e2,e3,hc'];refine Gm o ⋯ ⋯ λH ad dd o=>?_;have bx:=JP.b o (g' (off / 48));have p0:(0:Int)<=((off%48:Nat):Int):=by omega
  have p1:(0:Int)<=((off%48:Nat):Int)+d:=by omega
  have p2:(0:Int)<=(done:Int):=by omega
  have p3:(0:Int)<=(done:Int)+d:=by omega
  have t1:((done:Int)+d).toNat=done+d:=by omega
  have t2:(((off%48:Nat):Int)+d).toNat=off%48+d:=by omega
  have sl:=FW (l:=oc) (a:=done) (d:=d) ⋯;have c1:(off%48<=off%48+d/\off%48+d<=(B' (g' (off / 48))).length/\d=off%48+d-off%48)=True:=uD ⟨by omega,by rw[bx.1];omega,by omega⟩;simp! only[o.at 0 rfl,o.at 1 rfl,e2,e3,p0,p1,p2,p3,t1,t2,eD,sl,c1];refine o.hs 1 rfl λH o=>?_;obtain⟨_,_,hc',hj⟩:=JP.cj o;simp! only[o.at 2 rfl,hj];refine Gh o ⋯ ⋯ ⋯ (.inr gI) λH o=>?_;obtain⟨_,_,hc',hj⟩:=JP.cj o;simp! only[o.at 2 rfl,hc'];have es:List.take (off%48) (B' (g' (off / 48)))++sliceOf oc done (done+d)++List.drop (off%48+d) (B' (g' (off / 48)))=MQ (B' (g' (off / 48))) (off%48) (sliceOf oc done (done+d)):=by unfold MQ;rw[sl]
  rw[es] at o;refine M0 o ⋯ ⋯ (bx.MQ (by rw[sl];omega) (hc.sl _ _)) (.inl Bi) λH o=>?_;simp! only[e2,e3];exact q _ _ _ _ mk o
 ·simp! only[];exact e _ _ _ _ mf o
end
structure WR (sp:Nat) (B0:BW) (G:Nat->Nat->Int) (num off:Nat) (oc:List Int) (s:RS) (B:BW) (g:Nat->Int):Prop where
 fs:FS sp B (Gu G num g)
 ct:∀m q,q<672->CT B (Gu G num g m) q=if m=num/\off<=q/\q<off+s.done then oc.getD (q-off) 0 else CT B0 (G m) q
 rel:Rel sp s B g
 lo:∀b:Int,b<13->B b=B0 b
 bk:∀k,Ci (B k)
variable {B0:BW}
section
variable {sp:Nat}{s:RS}
theorem Rel.put (r:Rel sp s B g) (hi:i<14) (z:g i=0){k:Nat}(hk:k≠0){s':RS}(hM:s'.M=s.M++[i]) (hf:s'.free=cf (B' 13) sp) (hn:s'.nm=s.nm):Rel sp s' B' (gu g i k):=by
 have nm:i∉s.M:=λh=>(r.m i hi).mp h z;refine⟨hf,λj hj=>?_,?_,?_,λj hj=>?_⟩
 ·rw[hM,eI,eA,r.m j hj];unfold gu;by_cases e:j=i
  ·rw[UQ e];exact iff_of_true (.inr e) ⋯
  ·rw[T8 e];exact or_iff_left e
 ·rw[hn,r.n];unfold gu;rw[T8 ⋯]
 ·rw[hM];exact kz.mpr ⟨r.d,by simp,λa ha b hb e=>by cases eA.mp hb;subst e;exact nm ha⟩
 ·rw[hM] at hj;rcases eI.mp hj with h|h
  ·exact r.l j h
  ·cases eA.mp h;exact hi
theorem Rel.name (r:Rel sp s B g){k:Nat}(hk:k≠0){s':RS}(hM:s'.M=s.M) (hf:s'.free=cf (B' 13) sp) (hn:s'.nm=true):Rel sp s' B' (gu g 14 k):=by
 refine⟨hf,λj hj=>?_,?_,by rw[hM];exact r.d,by rw[hM];exact r.l⟩
 ·rw[hM,r.m j hj];unfold gu;rw[T8 ⋯]
 ·rw[hn];unfold gu;rw[UQ rfl];exact iff_of_true rfl ⋯
theorem WR.data (hs:sp<=13) {s':RS}(w:WR sp B0 G num off oc s B g) (hd:s.done<oc.length) (ho:off+oc.length<=672) (hc:Cc oc)
  (f1:FS sp B' (Gu G num g')) (f2:∀m q,q<672->CT B' (Gu G num g' m) q=CT B (Gu G num g m) q) (f3:∀b:Int,b<13->B' b=B b) (f4:g' ((off+s.done) / 48)≠0) (f5:∀k,Ci (B' k))
  (hs':s'.done=s.done+min (48-(off+s.done)%48) (oc.length-s.done)) (r:Rel sp s' B' g'):
  WR sp B0 G num off oc s' (upd B' (g' ((off+s.done) / 48)) (MQ (B' (g' ((off+s.done) / 48))) ((off+s.done)%48) (sliceOf oc s.done (s.done+min (48-(off+s.done)%48) (oc.length-s.done))))) g':=by
 have gs:Gu G num g' num=g':=UQ rfl;have sl:=FW (l:=oc) (a:=s.done) (d:=min (48-(off+s.done)%48) (oc.length-s.done)) ⋯;have key:=f1.data (n:=num) (i:=(off+s.done) / 48) (y:=MQ (B' (g' ((off+s.done) / 48))) ((off+s.done)%48) (sliceOf oc s.done (s.done+min (48-(off+s.done)%48) (oc.length-s.done)))) ⋯ (by rw[gs];exact f4);rw[gs] at key;obtain⟨k1,k2,k3,k4⟩:=key;have fL:=(f5 (g' ((off+s.done) / 48))).MQ (st:=(off+s.done)%48) (ys:=sliceOf oc s.done (s.done+min (48-(off+s.done)%48) (oc.length-s.done))) (by rw[sl];omega) (hc.sl _ _)
 refine⟨k1,λm q hq=>?_,⟨by rw[k3];exact r.f,r.m,r.n,r.d,r.l⟩,λb hb=>by rw[k4 b hb,f3 b hb,w.lo b hb],λk=>by unfold upd;split;exact fL;exact f5 k⟩;have jZ:=w.ct m q hq;rw[k2 m q hq,hs'];generalize ja:min (48-(off+s.done)%48) (oc.length-s.done)=d at*;by_cases e:m=num/\q / 48=(off+s.done) / 48
 ·rw[UQ e,Rh (by rw[sl,(f5 _).1];omega),sl];by_cases e2:(off+s.done)%48<=q%48/\q%48<(off+s.done)%48+d
  ·rw[UQ e2,UQ ⟨e.1,by omega,by omega⟩,KW ⋯];congr 1;omega
  ·rw[T8 e2];have h1:(B' (g' ((off+s.done) / 48))).getD (q%48) 0=CT B (Gu G num g m) q:=by
    rw[←f2 m q hq,e.1,gs];unfold CT;rw[e.2,T8 f4]
   rw[h1,jZ];by_cases e3:m=num/\off<=q/\q<off+s.done
   ·rw[UQ e3,UQ ⟨e3.1,e3.2.1,by omega⟩]
   ·rw[T8 e3,T8 ⋯]
 ·rw[T8 e,f2 m q hq,jZ];by_cases e3:m=num/\off<=q/\q<off+s.done
  ·rw[UQ e3,UQ ⟨e3.1,e3.2.1,by omega⟩]
  ·rw[T8 e3,T8 ⋯]
theorem WR.step (hs:sp<=13) (w:WR sp B0 G num off oc s B g) (hd:s.done<oc.length) (ho:off+oc.length<=672) (hc:Cc oc) (jw:JW J g ((off+s.done) / 48) s.t s.nb s.nn) (mk:Mk sp B J g ((off+s.done) / 48) B' J' g'):
  (Eu off oc.length s).2=true/\(Eu off oc.length s).1.t=s.t+1/\(Eu off oc.length s).1.done=s.done+min (48-(off+s.done)%48) (oc.length-s.done)/\
  WR sp B0 G num off oc (Eu off oc.length s).1 (upd B' (g' ((off+s.done) / 48)) (MQ (B' (g' ((off+s.done) / 48))) ((off+s.done)%48) (sliceOf oc s.done (s.done+min (48-(off+s.done)%48) (oc.length-s.done))))) g'/\
  JW (nt J' (g' ((off+s.done) / 48))) g' ((off+s.done) / 48+1) (Eu off oc.length s).1.t (Eu off oc.length s).1.nb (Eu off oc.length s).1.nn:=by
 have gs:∀g,Gu G num g num=g:=λg=>UQ rfl;have hi:(off+s.done) / 48<14:=by omega
 have mk':=mk;have jb:=jw;rw[←gs g] at mk' jb;obtain⟨f1,f2,f3,f4,f5,f6⟩:=Mk.ok w.fs w.bk hs hi jb mk';rw[O8] at f1 f2;rw[gs] at f6;have rf:=w.rel.f;rcases f6 with ⟨c1,c2,c3,c4⟩|⟨c1,c2,c3,⟨k,hk,c4⟩,c5⟩|⟨c1,c2,c3,c4,⟨m,k,hm,hk,c5⟩,c6⟩
 ·have e:Eu off oc.length s=({s with done:=s.done+min (48-(off+s.done)%48) (oc.length-s.done),t:=s.t+1},true):=by
   unfold Eu;dsimp only;rw[UQ ((w.rel.m _ hi).mpr c1)]
  rw[e];refine⟨rfl,rfl,rfl,w.data hs hd ho hc f1 f2 f3 f4 f5 rfl ?_,c4⟩;subst c3;exact⟨by rw[c2];exact w.rel.f,w.rel.m,w.rel.n,w.rel.d,w.rel.l⟩
 ·have hM:(off+s.done) / 48∉s.M:=λh=>(w.rel.m _ hi).mp h c1;have hn:¬(1<(off+s.done) / 48/\s.nm=false):=λh=>by
   have:=w.rel.n
   rcases c2 with c2|c2
   ·omega
   ·rw[this.mpr c2] at h;exact absurd h.2 ⋯
  have e:Eu off oc.length s=(⟨s.done+min (48-(off+s.done)%48) (oc.length-s.done),s.free-1,s.M++[(off+s.done) / 48],s.nm,true,s.nn||decide (1<(off+s.done) / 48),s.t+1⟩,true):=by
   unfold Eu;dsimp only;rw[T8 hM,T8 ⋯,T8 hn]
  rw[e];refine⟨rfl,rfl,rfl,w.data hs hd ho hc f1 f2 f3 f4 f5 rfl ?_,c5⟩;subst c4;exact w.rel.put hi c1 hk rfl (by dsimp only;omega) rfl
 ·have hM:(off+s.done) / 48∉s.M:=λh=>(w.rel.m _ hi).mp h c1;have hn:s.nm=false:=by rw[←oo,w.rel.n];exact λh=>h c3
  have e:Eu off oc.length s=(⟨s.done+min (48-(off+s.done)%48) (oc.length-s.done),s.free-2,s.M++[(off+s.done) / 48],true,true,true,s.t+1⟩,true):=by
   unfold Eu;dsimp only;rw[T8 hM,T8 ⋯,UQ ⟨by omega,hn⟩,T8 ⋯]
  rw[e];refine⟨rfl,rfl,rfl,w.data hs hd ho hc f1 f2 f3 f4 f5 rfl ?_,c6⟩;subst c5;have r1:Rel sp {s with free:=cf (B 13) sp,nm:=true} B (gu g 14 m):=w.rel.name hm rfl rfl rfl;exact r1.put hi (by unfold gu;rw[T8 ⋯];exact c1) hk rfl (by dsimp only;omega) rfl
theorem WR.stop (hs:sp<=13) (w:WR sp B0 G num off oc s B g) (hd:s.done<oc.length) (ho:off+oc.length<=672) (mf:Mf sp B J g ((off+s.done) / 48) B' J' g'):
  (Eu off oc.length s).2=false/\(Eu off oc.length s).1.done=s.done/\WR sp B0 G num off oc (Eu off oc.length s).1 B' g'/\J'.length<=J.length+2:=by
 have gs:∀g,Gu G num g num=g:=λg=>UQ rfl;have hi:(off+s.done) / 48<14:=by omega
 have jc:=mf;rw[←gs g] at jc;obtain⟨f1,f2,f3,f5,f4,c1,c0,f6⟩:=Mf.ok w.fs w.bk hs hi jc;rw[O8] at f1 f2;rw[gs] at f6 c1;have rf:=w.rel.f;have hM:(off+s.done) / 48∉s.M:=λh=>(w.rel.m _ hi).mp h c1;have wr:∀{s':RS},s'.done=s.done->Rel sp s' B' g'->WR sp B0 G num off oc s' B' g':=λh r=>
  ⟨f1,λm q hq=>by rw[f2 m q hq,w.ct m q hq,h],r,λb hb=>by rw[f3 b hb,w.lo b hb],f5⟩
 rcases f6 with ⟨c2,c3⟩|⟨c2,c3,c4,m,hm,c5⟩
 ·have e:Eu off oc.length s=(s,false):=by unfold Eu;dsimp only;rw[T8 hM,UQ ⋯]
  rw[e];refine⟨rfl,rfl,wr rfl ?_,f4⟩;subst c3;exact⟨show s.free=_ by omega,w.rel.m,w.rel.n,w.rel.d,w.rel.l⟩
 ·have hn:s.nm=false:=by rw[←oo,w.rel.n];exact λh=>h c3
  have e:Eu off oc.length s=({s with free:=0,nm:=true},false):=by
   unfold Eu;dsimp only;rw[T8 hM,T8 ⋯,UQ ⟨by omega,hn⟩,UQ ⋯]
  rw[e];refine⟨rfl,rfl,wr rfl ?_,f4⟩;subst c5;exact w.rel.name hm rfl (by dsimp only;omega) rfl
end
section
variable {sp:Nat}{hold kind links size:Nat}{s0 R:RS}
theorem JE (h:H[s]? =some (CM sp)):call (n+2) (.fn 24 2) [.ref s] H= .ok (.int 672) H:=by
 refine DA ?_;rw[AV [("self",.ref s)] rfl rfl rfl rfl rfl];have mb:=EQ (n:=n) h;simp! only[h,mb,(by decide:(-1000000000000<(48:Int)/\(48:Int)<1000000000000)),(by decide:(48:Int)*(2+12)=672)]
theorem XD (o:Ow (JP p B J cl hd) F H):call (n+1) (.fn 38 3) [.ref p.j] H= .ok (.int (8-J.length)) H:=by
 obtain⟨nu,no,cm,nd,n1,n2,o⟩:=JP.out o;exact left (o.at 0 rfl) (o.at 1 rfl)
theorem OE {off:Int}(o:Ow P ((ns,Bu p s tb)::(s,CM p.sp)::F) H) (h:off<0) (e:E 3 H):W (call (n+2) (.fn 27 17) [.ref ns,.ref nd,.int off,.bytes oc] H) Q E:=by
 rw[AV [("self",.ref ns),("node",.ref nd),("offset",.int off),("octets",.bytes oc)] rfl rfl rfl rfl rfl];simp! only[h,dT];exact e
theorem N6 (o:Ow P ((ns,Bu p s tb)::(s,CM p.sp)::F) H) (h:672<off+oc.length) (e:E 5 H):W (call (n+3) (.fn 27 17) [.ref ns,.ref nd,.int off,.bytes oc] H) Q E:=by
 rw[AV [("self",.ref ns),("node",.ref nd),("offset",.int off),("octets",.bytes oc)] rfl rfl rfl rfl rfl];have c0:¬(off:Int)<0:=by omega
 have c1:(672:Int)<off+oc.length:=by omega
 simp! only[c0,c1,o.at 0 rfl,o.at 1 rfl,JE (n:=n) (o.at 1 rfl),dT,dq];exact e
theorem Ma (o:Ow (JP p B0 [] 1 []) (nF p ns s tb nd pl num hold kind links size (G num) F) H) (fs:FS p.sp B0 G) (ho:off+oc.length<=672) (hc:Cc oc) (hn:num<=3) (rel:Rel p.sp s0 B0 (G num)) (h0:s0.done=0) (ht:s0.t=0) (hnb:s0.nb=false) (hnn:s0.nn=false) (hR:Jp off oc.length 6 s0=R) (q:∀H B J g,WR p.sp B0 G num off oc R B g->R.done<=oc.length->Ow (JP p (upd B (Bs num) (Cj (B (Bs num)) (rat num) kind links (if 0<R.done/\size<off+R.done then off+R.done else size:Nat) g)) J 1 []) (nF p ns s tb nd pl num hold kind links (if 0<R.done/\size<off+R.done then off+R.done else size:Nat) g F) H->Q (.int R.done) H):
  W (call (n+9) (.fn 27 17) [.ref ns,.ref nd,.int off,.bytes oc] H) Q E:=by
 rw[AV [("self",.ref ns),("node",.ref nd),("offset",.int off),("octets",.bytes oc)] rfl rfl rfl rfl rfl];have c0:¬(off:Int)<0:=by omega
 have c1:¬(672:Int)<off+oc.length:=by omega
 have hs:=JP.sp o;refine CD (a:=[_,_,_]) λA hA=>?_;simp! only[c0,c1,o.at 0 rfl,o.at 1 rfl,JE (n:=n+6) (o.at 1 rfl),dT,dq];apply hA;clear hA A;refine seq λA hA=>?_;rw[PX];have fin:∀loc h,lk "self" loc=some (.ref ns)->lk "node" loc=some (.ref nd)->lk "offset" loc=some (.int off)->lk "octets" loc=some (.bytes oc)->lk "done" loc=some (.int R.done)->R.done<=oc.length->
   ∀B J g,WR p.sp B0 G num off oc R B g->J.length<=7->Ow (JP p B J 1 []) (nF p ns s tb nd pl num hold kind links size g F) h->A loc h:=by
  intro loc h l1 l2 l3 l4 l5 hd B J g wr jl o;apply hA;clear hA A;have hp:∀i,i<15->0<=g i:=λi hi=>by
   have:=(wr.fs.f num).r i hi
   rw[show Gu G num g num=g from UQ rfl] at this;omega
  by_cases e1:0<R.done/\size<off+R.done
  ·rw[UQ e1] at q;have c1:(0:Int)<R.done:=by omega
   have c2:(size:Int)<off+R.done:=by omega
   simp! only[↓AK l1,↓AK l2,↓AK l3,↓AK l5,o.at 2 rfl,c1,c2,dT];refine o.hs 2 rfl λH o=>?_;simp! only[↓AK l1,↓AK l2,o.at 0 rfl];refine update (size:=(off:Int)+R.done) o hn ⋯ ⋯ ⋯ hp (.inr jl) λH o=>?_;simp! only[↓AK l5];exact q _ _ _ _ wr hd (by rw[Int.natCast_add];exact o)
  ·rw[T8 e1] at q;have u:W (call (n+8) (.fn 27 5) [.ref ns,.ref nd] h) (λv h=>v= .none/\Q (.int R.done) h) (λ_ _=>False):=
    update (size:=(size:Int)) o hn ⋯ ⋯ ⋯ hp (.inr jl) λH o=>⟨rfl,q _ _ _ _ wr hd o⟩
   obtain⟨v,H',e2,rfl,hq⟩:=Nn u;by_cases e3:0<R.done
   ·have c1:(0:Int)<R.done:=by omega
    have c2:¬(size:Int)<off+R.done:=by omega
    simp! only[↓AK l1,↓AK l2,↓AK l3,↓AK l5,o.at 0 rfl,o.at 2 rfl,c1,c2,dT,dq,e2];exact hq
   ·have c1:¬(0:Int)<R.done:=by omega
    simp! only[↓AK l1,↓AK l2,↓AK l3,↓AK l5,o.at 0 rfl,o.at 2 rfl,c1,dq,e2];exact hq
 refine Ek (λf loc h=>lk "self" loc=some (.ref ns)/\lk "node" loc=some (.ref nd)/\lk "offset" loc=some (.int off)/\lk "octets" loc=some (.bytes oc)/\
  ∃s1 B J g cur,lk "done" loc=some (.int s1.done)/\Jp off oc.length f s1=R/\f+s1.t=6/\s1.done<=oc.length/\(s1.done<oc.length->cur=(off+s1.done) / 48)/\WR p.sp B0 G num off oc s1 B g/\JW J g cur s1.t s1.nb s1.nn/\J.length<=7/\Ow (JP p B J 1 []) (nF p ns s tb nd pl num hold kind links size g F) h) ?_ _ 6 _ _ (by unfold AO;omega) ⟨rfl,rfl,rfl,rfl,s0,B0,[],G num,off / 48,by rw[h0];rfl,hR,by rw[ht],by omega,λ_=>by rw[h0];rfl,⟨by rw[Du];exact fs,λm q hq=>by rw[Du,h0,T8 ⋯],rel,λ_ _=>rfl,JP.b o⟩,⟨by rw[hnb];simp,by rw[hnn];simp,by rw[hnb,hnn,ht];rfl,λj h=>nomatch h⟩,by simp,o⟩
 rintro f loc h ⟨l1,l2,l3,l4,s1,B,J,g,cur,l5,hf,ht1,hd,dw,wr,jw,jl,o⟩;have gI:=XD (n:=n+7) o;obtain⟨_,_,hcc,hj⟩:=JP.cj o;have hb:∀b:Bool,b.toNat<=1:=by decide
 by_cases hg:s1.done<oc.length/\s1.w<5
 ·have g1:(s1.done:Int)<oc.length:=by omega
  have g2:(4:Int)<=8-J.length:=by have:=jw.l;have:=hg.2;unfold RS.w at this;omega
  simp! only[↓AK l1,↓AK l4,↓AK l5,o.at 0 rfl,hj,gI,g1,g2,dT];cases f with
  |zero=>have:=hg.2;unfold RS.w at this;omega
  |succ f=>
   refine⟨f,rfl,?_⟩;have eo:(off:Int)+s1.done=((off+s1.done:Nat):Int):=by omega
   simp! only[↓AK l1,↓AK l2,↓AK l3,↓AK l4,↓AK l5,o.at 0 rfl,eo];rw[dw hg.1] at jw;have jd:=jw;have gs:Gu G num g num=g:=UQ rfl;rw[←gs] at jd;have J4:J.length<=4:=by omega
   rw[Jp,UQ hg] at hf;refine Md (G:=Gu G num g) (by rw[gs];exact o) wr.fs ⋯ hg.1 hc jd J4 (λH B' J' g' mk o=>?_) (λH B' J' g' mf o=>?_)
   ·rw[gs] at mk;obtain⟨r1,r2,r3,r4,r5⟩:=wr.step hs.2 hg.1 ho hc jw mk;rw[UQ r1] at hf;have c3:¬((min (48-(off+s1.done)%48) (oc.length-s1.done):Nat):Int)=0:=by omega
    have ed:(s1.done:Int)+(min (48-(off+s1.done)%48) (oc.length-s1.done):Nat)=((Eu off oc.length s1).1.done:Int):=by rw[r3];omega
    simp! only[c3,↓AK l5,dq,ed];have hl:=r5.l;have w5:=hg.2;unfold RS.w at w5
    have:=hb (Eu off oc.length s1).1.nb
    have:=hb (Eu off oc.length s1).1.nn
    refine⟨f,ix _,by simpa [AD,ofString_eq] using l1,by simpa [AD,ofString_eq] using l2,by simpa [AD,ofString_eq] using l3,by simpa [AD,ofString_eq] using l4,(Eu off oc.length s1).1,_,_,g',_,by simp [AD],hf,by omega,by omega,λh=>by omega,r4,r5,by omega,o⟩
   ·rw[gs] at mf;obtain⟨r1,r2,r3,r4⟩:=wr.stop hs.2 hg.1 ho mf;rw[T8 (by rw[r1];decide)] at hf;subst hf;simp! only[dT];exact fin _ _ (by simpa [AD,ofString_eq] using l1) (by simpa [AD,ofString_eq] using l2) (by simpa [AD,ofString_eq] using l3) (by simpa [AD,ofString_eq] using l4) (by rw[r2];simpa [AD,ofString_eq] using l5) ⋯ _ _ _ r3 ⋯ o
 ·have hr:s1=R:=by rw[←hf];cases f with
   |zero=>rfl
   |succ f=>rw [Jp,T8 hg]
  subst hr;have fin':=fin loc h l1 l2 l3 l4 l5 hd _ _ _ wr jl o;by_cases kh:s1.done<oc.length
  ·have g1:(s1.done:Int)<oc.length:=by omega
   have g2:¬(4:Int)<=8-J.length:=by have:=jw.l;unfold RS.w at hg;omega
   simp! only[↓AK l1,↓AK l4,↓AK l5,o.at 0 rfl,hj,gI,g1,g2,dT,dq];exact fin'
  ·have g1:¬(s1.done:Int)<oc.length:=by omega
   simp! only[↓AK l1,↓AK l4,↓AK l5,o.at 0 rfl,hj,gI,g1,dq];exact fin'
end
theorem Ll {m:List Int}(h:l.length=m.length) (e:∀i,i<l.length->l.getD i 0=m.getD i 0):l=m:=by
 apply List.ext_getElem h;intro i h1 h2
 have:=e i h1
 rw[fp,fp,d6 h1,d6 h2] at this;exact this
theorem Qp {b c:Nat}(h:a<=b) (h':b<=c):sliceOf l a b++sliceOf l b c=sliceOf l a c:=by
 have len:(sliceOf l a b).length=min b l.length-a:=by unfold sliceOf;simp
 apply qt;intro i;rw[t9,len];unfold sliceOf;simp only[oI,qS];by_cases h1:i<min b l.length-a
 ·rw[UQ h1,UQ ⋯,UQ ⋯]
 ·rw[T8 h1];rcases Nat.le_total b l.length with h2|h2
  ·rw[show b+(i-(min b l.length-a))=a+i by omega]
  ·rw[fA (show l.length<=b+(i-(min b l.length-a)) by omega),fA (show l.length<=a+i by omega)];split<;>split<;>rfl
variable {cnt:Nat}
section
variable {sp:Nat}{own:List Int}
theorem Lx {off cnt:Int}(o:Ow P ((ns,Bu p s tb)::F) H) (h:off<0∨cnt<0) (e:E 3 H):W (call (n+1) (.fn 27 16) [.ref ns,.ref nd,.int off,.int cnt] H) Q E:=by
 rw[AV [("self",.ref ns),("node",.ref nd),("offset",.int off),("count",.int cnt)] rfl rfl rfl rfl rfl];by_cases h1:off<0
 ·simp! only[h1,dT];exact e
 ·have h2:cnt<0:=h.resolve_left h1;simp! only[h1,h2,dT,dq];exact e
theorem Gq (o:Ow (JP p B J cl []) (nF p ns s tb nd pl num hold kind links own.length g F) H) (fi:Fi p.sp B g) (hsz:own.length<=672) (ct:∀q,q<672->CT B g q=own.getD q 0) (q:∀H,Ow (JP p B J cl []) (nF p ns s tb nd pl num hold kind links own.length g F) H->Q (.bytes (sliceOf own off (off+cnt))) H):W (call (n+6) (.fn 27 16) [.ref ns,.ref nd,.int off,.int cnt] H) Q E:=by
 rw[AV [("self",.ref ns),("node",.ref nd),("offset",.int off),("count",.int cnt)] rfl rfl rfl rfl rfl];have c0:¬(off:Int)<0:=by omega
 have c1:¬(cnt:Int)<0:=by omega
 have hs:=JP.sp o;refine CD (a:=[_,_,_]) λA hA=>?_;have e0:(if (off:Int)+cnt<own.length then (off:Int)+cnt else own.length)=((min own.length (off+cnt):Nat):Int):=by split<;>omega
 simp! only[c0,c1,o.at 2 rfl,e0,dq];refine o.hn λfo H o=>?_;simp! only[e0];apply hA;clear hA A;refine seq λA hA=>?_;rw[PX];refine Ek (λm loc h=>∃o':Nat,lk "self" loc=some (.ref ns)/\lk "node" loc=some (.ref nd)/\lk "offset" loc=some (.int o')/\lk "found" loc=some (.ref fo)/\lk "end" loc=some (.int (min own.length (off+cnt):Nat))/\off<=o'/\(o'=off∨o'<=min own.length (off+cnt))/\m=min own.length (off+cnt)-o'/\
  Ow (JP p B J cl []) ((fo,.ba (sliceOf own off o'))::nF p ns s tb nd pl num hold kind links own.length g F) h) ?_ _ (min own.length (off+cnt)-off) _ _ (by unfold AO;omega) ⟨off,rfl,rfl,rfl,rfl,rfl,ix _,.inl rfl,rfl,by rw[show sliceOf own off off=[] from qi (by simp;omega)];exact o⟩
 rintro m loc h ⟨o',l1,l2,l3,l4,l5,a1,a2,a3,o⟩;generalize hen:min own.length (off+cnt)=en at*;by_cases hc:o'<en
 ·have g1:(o':Int)<en:=by omega
  simp! only[↓AK l3,↓AK l5,g1,dT];refine⟨m-1,by omega,?_⟩;have e1:(o':Int)%48=((o'%48:Nat):Int):=by omega
  have e2:(o':Int) / 48=((o' / 48:Nat):Int):=by omega
  have e3:(if (en:Int)-o'<48-((o'%48:Nat):Int) then (en:Int)-o' else 48-((o'%48:Nat):Int))=((min (48-o'%48) (en-o'):Nat):Int):=by split<;>omega
  generalize hd:min (48-o'%48) (en-o')=d at*;have ls:(sliceOf own off o').length<=672:=by unfold sliceOf;simp;omega
  have ex:(o':Int)+d=((o'+d:Nat):Int):=by omega
  have pG:d≠0:=by omega
  have eN:∀j,j<d->own.getD (o'+j) 0=if g (o' / 48)=0 then 0 else (B (g (o' / 48))).getD (o'%48+j) 0:=λj hj=>by
   rw[←ct (o'+j) ⋯];unfold CT;rw[show (o'+j) / 48=o' / 48 by omega,show (o'+j)%48=o'%48+j by omega]
  simp! only[↓AK l1,↓AK l2,↓AK l3,↓AK l4,↓AK l5,e1,e2,e3,o.at 1 rfl,o.at 2 rfl,κ,μ];refine OP (i:=o' / 48) (F:=(fo,.ba (sliceOf own off o'))::F) (o.sel (A:=[_,_,_,_,_]) [1,2,3,4,0] ⋯) fi ⋯ λH o=>?_;by_cases hz:g (o' / 48)=0
  ·have c2:(0:Int)<=d:=by omega
   have c3:(d:Int)<=1000000:=by omega
   have c4:(sliceOf own off o').length+d<=lid:=by unfold lid;omega
   simp! only[hz,↓AK l4,e1,e3,c2,c3,dT,o.at 4 rfl,eD,lL,c4];refine o.hs 4 rfl λH o=>?_;simp! only[↓AK l3,e1,e3,ex];refine⟨en-(o'+d),by omega,o'+d,by simpa [AD,ofString_eq] using l1,by simpa [AD,ofString_eq] using l2,by simp [AD],by simpa [AD,ofString_eq] using l4,by simpa [AD,ofString_eq] using l5,by omega,by omega,rfl,?_⟩;have e4:sliceOf own off o'++List.replicate d 0=sliceOf own off (o'+d):=by
    rw[←Qp a1 (re o' d)];congr 1;refine (Ll (by rw[FW ⋯,lL]) λj hj=>?_).symm;rw[FW ⋯] at hj;rw[KW hj,eN j hj,UQ hz,fp,qf];split<;>rfl
   rw[e4] at o;exact o.sel (A:=[_,_,_,_,_]) [4,0,1,2,3] ⋯
  ·have rg:=(fi.r (o' / 48) ⋯).resolve_left hz;obtain⟨_,_,hcc,hj⟩:=JP.cj o;simp! only[hz,↓AK l1,e1,e3,dq,o.at 0 rfl,hcc];refine Gm o ⋯ ⋯ λH ad dd o=>?_;have bx:=(JP.b o (g (o' / 48))).1;have p0:(0:Int)<=((o'%48:Nat):Int):=by omega
   have p1:(0:Int)<=((o'%48:Nat):Int)+d:=by omega
   have t2:(((o'%48:Nat):Int)+d).toNat=o'%48+d:=by omega
   simp! only[↓AK l4,e1,e3,o.at 0 rfl,o.at 1 rfl,o.at 6 rfl,p0,p1,t2,eD];refine o.hn λgv H o=>?_;have sl:(sliceOf (B (g (o' / 48))) (o'%48) (o'%48+d)).length=d:=FW ⋯;have c4:(sliceOf own off o').length+d<=lid:=by unfold lid;omega
   simp! only[o.at 0 rfl,o.at 7 rfl,sl,c4];refine o.hs 7 rfl λH o=>?_;obtain⟨_,_,hcc,hj⟩:=JP.cj o;simp! only[↓AK l1,o.at 3 rfl,hcc];refine E8 o.drop ⋯ ⋯ λH o=>?_;simp! only[↓AK l3,e1,e3,ex];refine⟨en-(o'+d),by omega,o'+d,by simpa [AD,ofString_eq] using l1,by simpa [AD,ofString_eq] using l2,by simp [AD],by simpa [AD,ofString_eq] using l4,by simpa [AD,ofString_eq] using l5,by omega,by omega,rfl,?_⟩;have e4:sliceOf own off o'++sliceOf (B (g (o' / 48))) (o'%48) (o'%48+d)=sliceOf own off (o'+d):=by
    rw[←Qp a1 (re o' d)];congr 1;refine (Ll (by rw[FW ⋯,sl]) λj hj=>?_).symm;rw[FW ⋯] at hj;rw[KW hj,eN j hj,T8 hz,KW hj]
   rw[e4] at o;exact o.sel (A:=[_,_,_,_,_]) [4,0,1,2,3] ⋯
 ·have g1:¬(o':Int)<en:=by omega
  simp! only[↓AK l3,↓AK l5,g1,dq];apply hA;simp! only[↓AK l4,o.at 0 rfl];have e4:sliceOf own off o'=sliceOf own off (off+cnt):=by
   rcases a2 with a2|a2
   ·subst a2;rw[show sliceOf own o' o'=[] from qi (by simp;omega),show sliceOf own o' (o'+cnt)=[] from qi (by simp;omega)]
   ·unfold sliceOf;have e5:en=o':=by omega
    rcases Nat.le_total own.length (off+cnt) with h1|h1
    ·rw[qO h1,qO ⋯]
    ·rw[show off+cnt=o' by omega]
  rw[e4];exact q _ o.drop
end
section
variable {sp:Nat}{own:List Int}
def jn (g:Nat->Int):List Nat:=(List.range' 2 12).filter λj=>decide (g j≠0)
theorem RD (o:Ow (JP p B J cl []) ((ns,Bu p s tb)::(s,CM p.sp)::F) H) (h0:14<=k) (h1:k<14+p.sp) (hw:∀i,i<12->wv (B k) (4*i)=g (i+2)) (q:∀H l,Ow (JP p B J cl []) ((l,.list ((jn g).map λj=>.int (g j)))::(ns,Bu p s tb)::(s,CM p.sp)::F) H->Q (.ref l) H):W (call (n+4) (.fn 27 20) [.ref ns,.int k] H) Q E:=by
 rw[T7 "buffer" [("self",.ref ns),("number",.int k)] rfl rfl rfl rfl rfl];refine o.hn λbc H o=>?_;obtain⟨_,_,hc,hj⟩:=JP.cj o;simp! only[o.at 1 rfl,hc];refine Gm o ⋯ ⋯ λH ad dd o=>?_;simp! only[o.at 2 rfl];refine o.hs 2 rfl λH o=>?_;have bx:=JP.b o k;simp! only[o.at 3 rfl,o.at 4 rfl,(by decide:((12:Int).natAbs<=lid)=True)];refine Da (λi acc loc h=>h=H/\acc=(List.range' 2 i).map λj=>V.int (g j)) 12 ?_ ?_ _ 0 _ _ _ ⋯ (el _) ⟨rfl,rfl⟩
 ·rintro i acc loc h hi ⟨rfl,rfl⟩;refine⟨.int i,by rw[Do,UQ ⋯];congr 3;omega,?_⟩;have wa:call (n+3) (.fn 20 0) [.ref dd,.int (4*(i:Int))] h= .ok (.int (wv (B k) (4*i))) h:=Er (n:=n+1) (i:=4*i) (.inr ⟨dd,rfl,o.at 1 rfl⟩) bx.2 (by rw[bx.1];omega);simp! only[o.at 0 rfl,o.at 2 rfl,wa];refine⟨by rw[eP,List.length_range'];unfold lid;omega,trivial,?_⟩;rw[hw i hi,List.range'_concat,gL];simp [tW]
 ·rintro acc loc h ⟨rfl,rfl⟩;refine⟨by rw[Do,T8 ⋯],?_⟩;refine o.hn λl1 H o=>?_;obtain⟨_,_,hc,hj⟩:=JP.cj o;simp! only[o.at 3 rfl,o.at 4 rfl,hc];refine E8 (o.sel (A:=[_,_,_,_,_,_]) [1,2,0,3,4,5] ⋯) ⋯ ⋯ λH o=>?_;simp! only[o.at 0 rfl];refine Da (λi acc loc h=>h=H/\acc=((List.range' 2 i).filter λj=>decide (g j≠0)).map λj=>V.int (g j)) 12 ?_ ?_ _ 0 _ _ _ (by simp) (el _) ⟨rfl,rfl⟩
  ·rintro i acc loc h hi ⟨rfl,rfl⟩;refine⟨.int (g (i+2)),by rw[Dc (o.at 0 rfl),fw,List.getElem?_range' ⋯];simp [tW],?_⟩;have ef:(List.range' 2 (i+1)).filter (λj=>decide (g j≠0))=(List.range' 2 i).filter (λj=>decide (g j≠0))++if g (i+2)=0 then [] else [i+2]:=by
    rw[List.range'_concat,List.filter_append];congr 1;rw[show 2+1*i=i+2 by omega];by_cases e:g (i+2)=0<;>simp [e]
   have ll:((List.range' 2 i).filter λj=>decide (g j≠0)).length<=i:=lv (tw ..) (by simp);by_cases e:g (i+2)=0
   ·simp! only[e,dT];refine⟨trivial,?_⟩;rw[ef,UQ e,nz]
   ·simp! only[e,dq,eP];refine⟨by unfold lid;omega,trivial,?_⟩;rw[ef,T8 e,gL];rfl
  ·rintro acc loc h ⟨rfl,rfl⟩;refine⟨by rw[Dc (o.at 0 rfl),fA (by simp)],?_⟩;refine o.hn λl2 H o=>?_;exact q _ _ (o.sel (A:=[_,_,_,_,_]) [0,3,4] ⋯)
end
structure Cl (sp:Nat) (B:BW) (Ks:List Nat) (B':BW):Prop where
 o:∀b:Int,b≠13->B' b=B b
 t:∀k,k<384->tk (B' 13) k=(tk (B 13) k&& !(Ks.contains k))
 c:cf (B' 13) sp=cf (B 13) sp+Ks.length
variable {Ks:List Nat}
theorem Cl.put {sp:Nat}(c:Cl sp B Ks B') (bx:Ci (B' 13)) (hs:sp<=13){k:Nat}(h0:14<=k) (h1:k<14+sp) (ht:tk (B' 13) k=true):Cl sp B (Ks++[k]) (upd B' 13 (I6 (B' 13) k)):=by
 have eV:upd B' 13 (I6 (B' 13) k) 13=I6 (B' 13) k:=UQ rfl;refine⟨λb hb=>by unfold upd;rw[T8 hb];exact c.o b hb,λj hj=>?_,?_⟩
 ·rw[eV,HR bx ⋯ ht,c.t j hj];by_cases e:j=k
  ·subst e;simp
  ·simp [e]
 ·have:=Js (X:=I6 (B' 13) k) (Y:=B' 13) (k:=k) (λi hi=>by rw[HR bx ⋯ ht];simp [hi]) (by rw[HR bx ⋯ ht];simp) ht h0 sp
  rw[UQ h1] at this;rw[eV,eR,qD];have:=c.c;omega
def KS (g:Nat->Int) (js:List Nat):List Nat:=(js.filter λj=>decide (g j≠0)).map λj=>(g j).toNat
theorem MM {a b:List Nat}:KS g (a++b)=KS g a++KS g b:=by unfold KS;rw[List.filter_append,gL]
theorem M7 (h:g j≠0):KS g [j]=[(g j).toNat]:=by unfold KS;simp [h]
theorem Rt (h:g j=0):KS g [j]=[]:=by unfold KS;simp [h]
variable {js:List Nat}
theorem Pr {k:Nat}:k∈KS g js↔∃j∈js,g j≠0/\k=(g j).toNat:=by
 unfold KS;simp only[eJ,rK,ip];exact⟨λ⟨j,h,e⟩=>⟨j,h.1,h.2,e.symm⟩,λ⟨j,a,b,e⟩=>⟨j,⟨a,b⟩,e.symm⟩⟩
theorem M2 {sp:Nat}(fs:FS sp B G) (hj:j<15) (h:G num j≠0) (hs:∀i∈js,i<15) (nj:j∉js):(G num j).toNat∉KS (G num) js:=λe=>by
 obtain⟨i,hi,h0,e⟩:=Pr.mp e;have r1:=fs.Ck hj h;have r2:=fs.Ck (hs i hi) h0
 have:=(fs.d num j num i hj (hs i hi) h ⋯).2
 subst this;exact nj hi
section
variable {sp:Nat}{own:List Int}
theorem IN (o:Ow (JP p B' J 1 []) ((ns,Bu p s tb)::(s,CM p.sp)::F) H) (fs:FS p.sp B G) (c:Cl p.sp B Ks B') (hj:j<15) (h:G num j≠0) (nk:(G num j).toNat∉Ks) (hJ:(13:Int)∈J∨J.length<=7) (q:∀H B1,Cl p.sp B (Ks++[(G num j).toNat]) B1->Ow (JP p B1 (nt J 13) 1 []) ((ns,Bu p s tb)::(s,CM p.sp)::F) H->Q .none H):W (call (n+5) (.fn 27 12) [.ref ns,.int (G num j)] H) Q E:=by
 have rg:=fs.Ck hj h;have sp:=JP.sp o;have bx:=JP.b o 13;have e:G num j=((G num j).toNat:Int):=by omega
 have ht:tk (B' 13) (G num j).toNat=true:=by
  rw[c.t _ ⋯,fs.t num j hj h];simp [nk]
 rw[e];exact Fq o ⋯ ⋯ hJ (λ_ H o=>q _ _ (c.put bx sp.2 ⋯ ⋯ ht) o) (λh=>by rw[ht] at h;cases h)
theorem truncate (o:Ow (JP p B J 1 []) (nF p ns s tb nd pl num hold kind links size (G num) F) H) (fs:FS p.sp B G) (hJ:J.length<=5) (hn:num<=3) (h1:0<=kind) (h2:0<=links) (q:∀H B1 J1 dR js,js.Nodup->(∀j∈js,j<15)->(∀j,j<15->G num j≠0->j∈js)->Cl p.sp B (KS (G num) js) B1->J1.length<=J.length+2->
   Ow (JP p (upd B1 (Bs num) (Cj (B1 (Bs num)) (rat num) kind links 0 λ_=>0)) J1 1 []) (nF p ns s tb nd dR num hold kind links 0 (λ_=>0) F) H->Q .none H):W (call (n+6) (.fn 27 19) [.ref ns,.ref nd] H) Q E:=by
 rw[AV [("self",.ref ns),("node",.ref nd)] rfl rfl rfl rfl rfl];have sp:=JP.sp o;refine CD (a:=[_]) λA hA=>?_;simp! only[o.at 0 rfl,o.at 1 rfl];apply hA;clear hA A;refine seq λA hA=>?_;simp! only[(by decide:((2:Int).natAbs<=lid)=True)];refine CH (λi loc h=>lk "self" loc=some (.ref ns)/\lk "node" loc=some (.ref nd)/\lk "direct" loc=some (.int 2)/\∃B' J',Cl p.sp B (KS (G num) (List.range i)) B'/\(J'=J∨J'=nt J 13)/\Ow (JP p B' J' 1 []) (nF p ns s tb nd pl num hold kind links size (G num) F) h) 2 ?_ ?_ _ 0 _ _ ⋯ (el _) ⟨rfl,rfl,rfl,B,J,⟨λ_ _=>rfl,λk _=>by simp [KS],by simp [KS]⟩,.inl rfl,o⟩
 ·rintro i loc h hi ⟨l1,l2,l3,B',J',c,hj,o⟩;refine⟨.int i,by rw[Do,UQ ⋯];congr 3;omega,?_⟩;have sl:BM (.ref pl) (.int i) h=some (.int (G num i)):=Ga (o.at 3 rfl) (by rcases i with _|_|i;rfl;rfl;omega);have er:KS (G num) (List.range (i+1))=KS (G num) (List.range i)++KS (G num) [i]:=by rw[sC,MM]
  by_cases e:G num i=0
  ·simp! only[↓AK l2,o.at 2 rfl,sl,e,dT];exact⟨by simpa [AD,ofString_eq] using l1,by simpa [AD,ofString_eq] using l2,by simpa [AD,ofString_eq] using l3,B',J',by rw[er,Rt e,nz];exact c,hj,o⟩
  ·simp! only[↓AK l1,↓AK l2,o.at 0 rfl,o.at 2 rfl,sl,e,dq];refine IN o fs c ⋯ e (M2 fs ⋯ e (λj h=>by have:=pd.mp h;omega) (by simp)) (by rcases hj with rfl|rfl;exact .inr ⋯;exact .inl Bi) λH B1 c o=>?_;simp! only[];refine⟨by simpa [AD,ofString_eq] using l1,by simpa [AD,ofString_eq] using l2,by simpa [AD,ofString_eq] using l3,B1,nt J' 13,by rw[er,M7 e];exact c,.inr ?_,o⟩;rcases hj with rfl|rfl
   ·rfl
   ·exact UQ Bi
 ·rintro loc h ⟨l1,l2,l3,B',J',c,hj,o⟩;refine⟨by rw[Do,T8 ⋯],?_⟩;rw[Au];apply hA;clear hA A;refine CD (a:=[_]) λA hA=>?_;have sl:BM (.ref pl) (.int 2) h=some (.int (G num 14)):=Ga (i:=2) (o.at 3 rfl) rfl;simp! only[↓AK l2,↓AK l3,o.at 2 rfl,sl];apply hA;clear hA A;refine seq λA hA=>?_;have fin:∀loc h B' J' js,lk "self" loc=some (.ref ns)->lk "node" loc=some (.ref nd)->lk "direct" loc=some (.int 2)->Cl p.sp B (KS (G num) js) B'->(J'=J∨J'=nt J 13)->js.Nodup->(∀j∈js,j<15)->(∀j,j<15->G num j≠0->j∈js)->Ow (JP p B' J' 1 []) (nF p ns s tb nd pl num hold kind links size (G num) F) h->A loc h:=by
   intro loc h B' J' js l1 l2 l3 c hj j1 j2 j3 o;apply hA;clear hA A;simp! only[KX,Ti];refine o.hn λz H o=>?_;simp! only[↓AK l2,↓AK l3,o.at 0 rfl,KX,Ti,Int.reduceAdd];refine o.hn λdR H o=>?_;simp! only[↓AK l2,o.at 4 rfl];refine o.hs 4 rfl λH o=>?_;simp! only[↓AK l2,o.at 4 rfl];refine o.hs 4 rfl λH o=>?_;have iP:J'.length<=J.length+1:=by have:=Co (J:=J) (k:=13);rcases hj with rfl|rfl<;>omega
   simp! only[↓AK l1,↓AK l2,o.at 2 rfl];refine update (g:=λ_=>0) (pl:=dR) (size:=0) (o.sel (A:=[_,_,_,_,_,_]) [2,3,4,0] ⋯) hn h1 h2 ⋯ (λ_ _=>by omega) (.inr ⋯) λH o=>?_;exact q _ _ _ dR js j1 j2 j3 c (by have:=Co (J:=J') (k:=Bs num);omega) o
  by_cases eW:G num 14=0
  ·simp! only[eW,dT];refine fin _ _ _ _ (List.range 2) (by simpa [AD,ofString_eq] using l1) (by simpa [AD,ofString_eq] using l2) (by simpa [AD,ofString_eq] using l3) c hj ⋯ ⋯ (λj hj h0=>?_) o;rw[pd];rcases Nat.lt_or_ge j 2 with h|h
   ·exact h
   ·exfalso;by_cases e:j=14
    ·subst e;exact h0 eW
    ·exact h0 ((fs.f num).z eW j h ⋯)
  ·have rg:=fs.Ck ⋯ eW;have eV:B' (G num 14)=B (G num 14):=c.o _ ⋯;have iP:J'.length<=6:=by have:=Co (J:=J) (k:=13);rcases hj with rfl|rfl<;>omega
   simp! only[eW,dq,↓AK l1,o.at 0 rfl];refine RD o ⋯ ⋯ (λi hi=>by rw[eV];exact (fs.f num).w eW i hi) λH l o=>?_;have gJ:∀j∈jn (G num),2<=j/\j<14/\G num j≠0:=λj hj=>by
    unfold jn at hj
    have:=rK.mp hj
    have h2:=List.mem_range'_1.mp this.1;exact⟨h2.1,by omega,by simpa using this.2⟩
   have je:(jn (G num)).Nodup:=qR uE (List.nodup_range' ..);simp! only[o.at 0 rfl];refine CH (λi loc h=>lk "self" loc=some (.ref ns)/\lk "node" loc=some (.ref nd)/\lk "direct" loc=some (.int 2)/\lk "names" loc=some (.int (G num 14))/\∃B' J',Cl p.sp B (KS (G num) (List.range 2++(jn (G num)).take i)) B'/\(J'=J∨J'=nt J 13)/\Ow (JP p B' J' 1 []) (nF p ns s tb nd pl num hold kind links size (G num) ((l,.list ((jn (G num)).map λj=>.int (G num j)))::F)) h) (jn (G num)).length ?_ ?_ _ 0 _ _ (by simp) (el _) ⟨by simpa [AD,ofString_eq] using l1,by simpa [AD,ofString_eq] using l2,by simpa [AD,ofString_eq] using l3,by simp [AD],B',J',by rw[t8,nz];exact c,hj,o.sel (A:=[_,_,_,_,_]) [1,2,3,4,0] ⋯⟩
   ·rintro i loc h hi ⟨l1,l2,l3,l4,B',J',c,hj,o⟩;have iP:J'.length<=6:=by have:=Co (J:=J) (k:=13);rcases hj with rfl|rfl<;>omega
    have jm:=gJ _ (qe (l:=jn (G num)) hi);refine⟨.int (G num (jn (G num))[i]),by rw[Dc (o.at 4 rfl),fw,d6 hi];rfl,?_⟩;simp! only[↓AK l1,o.at 0 rfl];refine IN o fs c ⋯ jm.2.2 (M2 fs ⋯ jm.2.2 (λj h=>?_) (λh=>?_)) (.inr ⋯) λH B1 c o=>?_
    ·rcases eI.mp h with h|h
     ·have:=pd.mp h;omega
     ·have:=gJ j (q0 h);omega
    ·rcases eI.mp h with h|h
     ·have:=pd.mp h;omega
     ·obtain⟨j,hj,e⟩:=List.mem_take_iff_getElem.mp h
      have:=I9 je (d6 (l:=jn (G num)) (by omega:j<(jn (G num)).length)) (by rw[d6 hi,e])
      omega
    ·simp! only[];refine⟨by simpa [AD,ofString_eq] using l1,by simpa [AD,ofString_eq] using l2,by simpa [AD,ofString_eq] using l3,by simpa [AD,ofString_eq] using l4,B1,nt J' 13,?_,.inr ?_,o⟩
     ·rw[qr,d6 hi,←kt,MM];show Cl p.sp B (_++KS (G num) [_]) B1;rw[M7 jm.2.2];exact c
     ·rcases hj with rfl|rfl
      ·rfl
      ·exact UQ Bi
   ·rintro loc h ⟨l1,l2,l3,l4,B',J',c,hj,o⟩;have iP:J'.length<=6:=by have:=Co (J:=J) (k:=13);rcases hj with rfl|rfl<;>omega
    refine⟨by rw[Dc (o.at 4 rfl),fA (by simp)],?_⟩;rw[Au];rw[rZ] at c;simp! only[↓AK l1,↓AK l4,o.at 0 rfl];have jf:14∉List.range 2++jn (G num):=λh=>by
     rcases eI.mp h with h|h
     ·have:=pd.mp h;omega
     ·have:=gJ 14 h;omega
    have jg:∀j∈List.range 2++jn (G num),j<15:=λj h=>by
     rcases eI.mp h with h|h
     ·have:=pd.mp h;omega
     ·have:=gJ j h;omega
    refine IN o fs c ⋯ eW (M2 fs ⋯ eW jg jf) (.inr ⋯) λH B1 c o=>?_;refine fin _ _ B1 (nt J' 13) (List.range 2++jn (G num)++[14]) l1 l2 l3 (by rw[MM,M7 eW];exact c) (.inr ?_) (kz.mpr ⟨kz.mpr ⟨by decide,je,λa ha b hb e=>?_⟩,by simp,λa ha b hb e=>?_⟩) (λj h=>?_) (λj hj h0=>?_) (o.sel (A:=[_,_,_,_,_]) [0,1,2,3] ⋯)
    ·rcases hj with rfl|rfl
     ·rfl
     ·exact UQ Bi
    ·subst e;have:=gJ a hb;have:=pd.mp ha;omega
    ·subst e;cases eA.mp hb;exact jf ha
    ·rcases eI.mp h with h|h
     ·exact jg j h
     ·cases eA.mp h;omega
    ·by_cases e1:j<2
     ·exact mo _ (mo _ (pd.mpr e1))
     ·by_cases e2:j=14
      ·subst e2;exact my _ (.head _)
      ·refine mo _ (my _ (rK.mpr ⟨List.mem_range'_1.mpr ⟨by omega,by omega⟩,by simpa using h0⟩))
end
abbrev g0:Nat->Int:=λ_=>0
theorem FS.clear {sp:Nat}(fs:FS sp B G) (hs:sp<=13) (c:Cl sp B (KS (G num) js) B') (j2:∀j∈js,j<15):
  FS sp B' (Gu G num g0)/\∀m q,q<672->CT B' (Gu G num g0 m) q=if m=num then 0 else CT B (G m) q:=by
 have gs:Gu G num g0 num=g0:=UQ rfl;have go:∀m,m≠num->Gu G num g0 m=G m:=λm h=>T8 h;have ob:∀m j,j<15->G m j≠0->B' (G m j)=B (G m j):=λm j hj h=>by
  have:=fs.Ck hj h;exact c.o _ ⋯
 refine⟨⟨λm=>?_,λm j hj h=>?_,λm i m' j hi hj h e=>?_⟩,λm q hq=>?_⟩
 ·by_cases hm:m=num
  ·subst hm;rw[gs];exact⟨λ_ _=>.inl rfl,λh=>absurd rfl h,λ_ _ _ _=>rfl⟩
  ·rw[go m hm];exact⟨(fs.f m).r,λh i hi=>by rw[ob m 14 ⋯ h];exact (fs.f m).w h i hi,(fs.f m).z⟩
 ·by_cases hm:m=num
  ·subst hm;rw[gs] at h;exact absurd rfl h
  ·rw[go m hm] at*;have r:=fs.Ck hj h;rw[c.t _ ⋯,fs.t m j hj h]
   have:(G m j).toNat∉KS (G num) js:=λhk=>by
    obtain⟨i,hi,h0,e⟩:=Pr.mp hk;have r2:=fs.Ck (j2 i hi) h0;exact hm (fs.d m j num i hj (j2 i hi) h ⋯).1
   simp [this]
 ·by_cases hm:m=num
  ·subst hm;rw[gs] at h;exact absurd rfl h
  ·rw[go m hm] at*;by_cases hm':m'=num
   ·subst hm';rw[gs] at e;exact absurd e h
   ·rw[go m' hm'] at e;exact fs.d m i m' j hi hj h e
 ·by_cases hm:m=num
  ·subst hm;rw[gs,UQ rfl];rfl
  ·rw[go m hm,T8 hm];unfold CT;split
   ·rfl
   ·rename_i h;rw[ob m _ ⋯ h]
theorem UC {sp:Nat}{s:RS}(r:Rel sp s B g) (j1:js.Nodup) (j2:∀j∈js,j<15) (j3:∀j,j<15->g j≠0->j∈js):(KS g js).length=s.M.length+s.nm.toNat:=by
 unfold KS;rw[eP];have n1:(js.filter λj=>decide (g j≠0)).Nodup:=qR uE j1;have n2:(s.M++if s.nm then [14] else []).Nodup:=by
  cases s.nm
  ·simpa using r.d
  ·exact kz.mpr ⟨r.d,by simp,λa ha b hb e=>by have:=r.l a ha;rw[UQ rfl] at hb;cases eA.mp hb;omega⟩
 have e:∀j,j∈(js.filter λj=>decide (g j≠0))↔j∈(s.M++if s.nm then [14] else []):=λj=>by
  simp only[rK,ip,eI];constructor
  ·rintro⟨h1,h2⟩;by_cases dz:j=14
   ·subst dz;right;rw[r.n.mpr h2];simp
   ·left;exact (r.m j (by have:=j2 j h1;omega)).mpr h2
  ·rintro (h|h)
   ·have:=r.l j h
    have h0:=(r.m j this).mp h;exact⟨j3 j ⋯ h0,h0⟩
   ·cases hn:s.nm with
    |false=>rw [hn] at h;cases h
    |true=>rw [hn] at h;cases eA.mp h;have:=r.n.mp hn;exact⟨j3 14 ⋯ this,this⟩
 have l1:=sub_len n1 λx hx=>(e x).mp hx;have l2:=sub_len n2 λx hx=>(e x).mpr hx
 have:(s.M++if s.nm then [14] else []).length=s.M.length+s.nm.toNat:=by cases s.nm<;>simp
 omega
def Row (B:BW) (m:Nat) (kind links size:Int) (g:Nat->Int):Prop:=RI (B (Bs m)) (rat m) kind links size g
theorem Row.ne {B:BW}{m num:Nat}{k l sz k' l' sz':Int}{g g':Nat->Int}(r:Row B m k' l' sz' g') (h:m≠num) (hm:m<=3) (hn:num<=3) (bx:Ci (B (Bs num))):Row (upd B (Bs num) (Cj (B (Bs num)) (rat num) k l sz g)) m k' l' sz' g':=by
 unfold Row upd at*;by_cases e:Bs m=Bs num
 ·rw[UQ e,←e];rw[←e] at bx;unfold Bs at e;exact r.ne (by rw[bx.1];unfold rat;omega) (by unfold rat;omega)
 ·rw[T8 e];exact r
theorem Row.own {B:BW}{num:Nat}{k l sz:Int}{g:Nat->Int}(bx:Ci (B (Bs num))) (hk:0<=k/\k<65536) (hl:0<=l/\l<65536) (hs:0<=sz/\sz<4294967296) (p:∀i,i<15->0<=g i/\g i<4294967296):Row (upd B (Bs num) (Cj (B (Bs num)) (rat num) k l sz g)) num k l sz g:=by
 unfold Row upd;rw[UQ rfl];exact RI.own (by rw[bx.1];unfold rat;omega) hk hl hs p
theorem Row.low {l sz:Int}(r:Row B m k l sz g) (hm:m<=3) (e:∀b:Int,11<=b->b<13->B' b=B b):Row B' m k l sz g:=by
 unfold Row at*;rw[e _ (by unfold Bs;omega) (by unfold Bs;omega)];exact r
section
variable {sp:Nat}{own:List Int}
theorem SB (o:Ow (JP p B J cl []) ((ns,Bu p s tb)::(s,CM p.sp)::F) H) (r:Row B m kind links size g) (hm:m<=3) (q:∀H,Ow (JP p B J cl []) ((ns,Bu p s tb)::(s,CM p.sp)::F) H->Q (.tup [.int kind,.int links]) H):W (call (n+4) (.fn 27 2) [.ref ns,.int m] H) Q E:=by
 rw[AV [("self",.ref ns),("number",.int m)] rfl rfl rfl rfl rfl];have sp:=JP.sp o;have r1:=Uj (n:=n+2) (num:=m) (o.at 1 rfl);obtain⟨_,_,hc,hj⟩:=JP.cj o;have rk:11<=Bs m/\Bs m<=12:=by unfold Bs;omega
 have ra:rat m<=24:=by unfold rat;omega
 simp! only[o.at 0 rfl,o.at 1 rfl,r1,KX,Ti,hc];refine Gm o ⋯ ⋯ λH ad dd o=>?_;have bx:=JP.b o (Bs m);have h1:=DP (n:=n+2) (i:=rat m) (.inr ⟨dd,rfl,o.at 1 rfl⟩) bx.2 (by rw[bx.1];omega);have h2:=DP (n:=n+2) (i:=rat m+6) (.inr ⟨dd,rfl,o.at 1 rfl⟩) bx.2 (by rw[bx.1];omega);rw[show ((rat m+6:Nat):Int)=(rat m:Int)+6 by omega] at h2;rw[r.k] at h1;rw[r.l] at h2;obtain⟨_,_,hc,hj⟩:=JP.cj o;simp! only[o.at 0 rfl,o.at 2 rfl,h1,h2,KX,Ti,hc];refine E8 o ⋯ ⋯ λH o=>?_;simp! only[];exact q _ o
theorem JD (o:Ow P ((nd,.inst 26 [])::F) H) (q:∀H pl,Ow P ((nd,NO ns num 1 0 0 0 pl)::(pl,.list [])::F) H->Q .none H):W (call (n+1) (.fn 26 0) [.ref nd,.ref ns,.int num] H) Q E:=by
 rw[AV [("self",.ref nd),("nodes",.ref ns),("number",.int num)] rfl rfl rfl rfl rfl]
 iterate 8
  simp! only[o.at 0 rfl,↓CC,lk,pt,Kh,fx,ew,Ti,KX];refine o.hs 0 rfl λH o=>?_
 simp! only[Ti];refine o.hn λpl H o=>?_;simp! only[o.at 1 rfl,↓CC,lk,pt,Kh,fx,ew,Ti,KX];refine o.hs 1 rfl λH o=>?_;simp! only[];exact q _ pl (o.sel (A:=[_,_]) [1,0] ⋯)
end
section
variable {sp:Nat}{own:List Int}
theorem P7 (o:Ow P ((nd,NO ns num hold 0 0 0 pl)::(dd,.ba x)::F) H) (bx:Ci x) (ha:a+23<48) (r:RI x a kind links size g) (q:∀H dR,Ow P ((nd,NO ns num hold kind links size dR)::(dR,gP g)::(dd,.ba x)::F) H->Q .none H):W (call (n+3) (.fn 26 2) [.ref nd,.ref dd,.int a,.int 2] H) Q E:=by
 rw[MH ["octets","at"] [("self",.ref nd,false),("octets",.ref dd,true),("at",.int a,true),("direct",.int 2,false)] rfl rfl rfl rfl rfl];simp! only[];refine o.hn λc1 H o=>?_;simp! only[];refine o.hn λc2 H o=>?_;simp! only[o.at 1 rfl];refine o.hs 1 rfl λH o=>?_;simp! only[o.at 0 rfl];refine o.hs 0 rfl λH o=>?_;simp! only[];have c3:call (n+2) (.fn 19 0) [.ref dd,.int a] H= .ok (.int (hv x (a))) H:=DP (n:=n+1) (i:=a) (.inr ⟨dd,rfl,o.at 3 rfl⟩) bx.2 (by rw[bx.1];omega);simp! only[o.at 0 rfl,o.at 1 rfl,c3,r.k,o.at 2 rfl];refine o.hs 2 rfl λH o=>?_;have c3:call (n+2) (.fn 19 0) [.ref dd,.int ((a:Int)+2)] H= .ok (.int (hv x (a+2))) H:=DP (n:=n+1) (i:=a+2) (.inr ⟨dd,rfl,o.at 3 rfl⟩) bx.2 (by rw[bx.1];omega);simp! only[o.at 0 rfl,o.at 1 rfl,c3,r.m,o.at 2 rfl];refine o.hs 2 rfl λH o=>?_;have c3:call (n+2) (.fn 19 0) [.ref dd,.int ((a:Int)+4)] H= .ok (.int (hv x (a+4))) H:=DP (n:=n+1) (i:=a+4) (.inr ⟨dd,rfl,o.at 3 rfl⟩) bx.2 (by rw[bx.1];omega);simp! only[o.at 0 rfl,o.at 1 rfl,c3,r.n,o.at 2 rfl];refine o.hs 2 rfl λH o=>?_;have c3:call (n+2) (.fn 19 0) [.ref dd,.int ((a:Int)+6)] H= .ok (.int (hv x (a+6))) H:=DP (n:=n+1) (i:=a+6) (.inr ⟨dd,rfl,o.at 3 rfl⟩) bx.2 (by rw[bx.1];omega);simp! only[o.at 0 rfl,o.at 1 rfl,c3,r.l,o.at 2 rfl];refine o.hs 2 rfl λH o=>?_;have c3:call (n+2) (.fn 20 0) [.ref dd,.int ((a:Int)+8)] H= .ok (.int (wv x (a+8))) H:=Er (n:=n) (i:=a+8) (.inr ⟨dd,rfl,o.at 3 rfl⟩) bx.2 (by rw[bx.1];omega);simp! only[o.at 0 rfl,o.at 1 rfl,c3,r.s,o.at 2 rfl];refine o.hs 2 rfl λH o=>?_;simp! only[(by decide:((2+1:Int).natAbs<=lid)=True)];refine Da (λi acc loc h=>h=H/\acc=(List.range i).map λj=>V.int (wv x (a+12+4*j))) 3 ?_ ?_ _ 0 _ _ _ ⋯ (el _) ⟨rfl,rfl⟩
 ·rintro i acc loc h hi ⟨rfl,rfl⟩;refine⟨.int i,by rw[Do,UQ ⋯];congr 3;omega,?_⟩;have c3:call (n+2) (.fn 20 0) [.ref dd,.int ((a:Int)+12+4*i)] h= .ok (.int (wv x (a+12+4*i))) h:=Er (n:=n) (i:=a+12+4*i) (.inr ⟨dd,rfl,o.at 3 rfl⟩) bx.2 (by rw[bx.1];omega);simp! only[o.at 0 rfl,o.at 1 rfl,c3];refine⟨by rw[eP,List.length_range];unfold lid;omega,trivial,?_⟩;rw[sC,gL];rfl
 ·rintro acc loc h ⟨rfl,rfl⟩;refine⟨by rw[Do,T8 ⋯],?_⟩;refine o.hn λdR H o=>?_;simp! only[o.at 3 rfl];refine o.hs 3 rfl λH o=>?_;simp! only[];refine q _ dR ?_;have eg:O.list ((List.range 3).map λj=>V.int (wv x (a+12+4*j)))=gP g:=by
   show O.list [V.int (wv x (a+12)),V.int (wv x (a+16)),V.int (wv x (a+20))]=_;rw[r.p0,r.p1,r.p2]
  rw[eg] at o;exact o.sel (A:=[_,_,_,_,_]) [3,0,4] ⋯
end
theorem Wp:∀k:Nat,k<100->(Str.ofString "no inode has the number "++Str.ofString (toString (k:Int))).length<=lid/\(Str.ofString "the inode "++Str.ofString (toString (k:Int))).length<=lid/\(Str.ofString "the inode "++Str.ofString (toString (k:Int))++Str.ofString " is free").length<=lid:=by decide+kernel
variable {T:List (Int×V)}
section
variable {sp:Nat}{own:List Int}
theorem Gy (o:Ow P ((ns,Bu p s tb)::(s,CM p.sp)::F) H) (h:m=0∨4<=m) (hm:m<100) (e:∀H,Ow P ((ns,Bu p s tb)::(s,CM p.sp)::F) H->E 4 H):W (call (n+2) (.fn 27 3) [.ref ns,.int m] H) Q E:=by
 rw[AV [("self",.ref ns),("number",.int m)] rfl rfl rfl rfl rfl];have key:∀{P:V->Hp->Prop},W (call (n+1) (.fn 27 1) [.ref ns,.int m] H) P E:=by
  intro P;rw[AV [("self",.ref ns),("number",.int m)] rfl rfl rfl rfl rfl];have sl:=(Wp m hm).1;have sn:(m:Int).natAbs<1000000000:=by omega
  by_cases c0:(1:Int)<=m
  ·have c1:¬(m:Int)<4:=by omega
   simp! only[o.at 0 rfl,o.at 1 rfl,c0,c1,dT,dq,sl,sn];exact e _ o
  ·simp! only[o.at 0 rfl,o.at 1 rfl,c0,dT,dq,sl,sn];exact e _ o
 simp! only[o.at 0 rfl];exact key
theorem Lq (o:Ow P ((ns,Bu p s tb)::(s,CM p.sp)::F) H) (h:1<=m) (hm:m<=3):call (n+1) (.fn 27 1) [.ref ns,.int m] H= .ok .none H:=by
 refine DA ?_;rw[AV [("self",.ref ns),("number",.int m)] rfl rfl rfl rfl rfl];have c0:(1:Int)<=m:=by omega
 have c1:(m:Int)<4:=by omega
 simp! only[o.at 0 rfl,o.at 1 rfl,c0,c1,dT]
theorem Hg (o:Ow (JP p B J cl []) ((ns,Bu p s tb)::(s,CM p.sp)::(tb,.U' T)::F) H) (h:1<=m) (hm:m<=3) (ht:Bm m T=none) (hT:T.length<lid) (r:Row B m kind links size g) (q:kind≠0->∀H nd pl,Ow (JP p B J cl []) ((nd,NO ns m 1 kind links size pl)::(pl,gP g)::(ns,Bu p s tb)::(s,CM p.sp)::(tb,.U' (Ar m (.ref nd) T))::F) H->Q (.ref nd) H) (e:kind=0->∀H,Ow (JP p B J cl []) ((ns,Bu p s tb)::(s,CM p.sp)::(tb,.U' T)::F) H->E 4 H):W (call (n+4) (.fn 27 3) [.ref ns,.int m] H) Q E:=by
 rw[AV [("self",.ref ns),("number",.int m)] rfl rfl rfl rfl rfl];have sp:=JP.sp o;have nn:=Lq (n:=n+2) o h hm;have r1:=Uj (n:=n+2) (num:=m) (o.at 1 rfl);have rk:11<=Bs m/\Bs m<=12:=by unfold Bs;omega
 have ra:rat m<=24:=by unfold rat;omega
 simp! only[o.at 0 rfl,nn,o.at 2 rfl,ht,fx,o.at 1 rfl,r1,KX,Ti];refine o.hn λnd H o=>?_;refine JD o λH pl o=>?_;obtain⟨_,_,hc,hj⟩:=JP.cj o;simp! only[o.at 2 rfl,hc];refine Gm o ⋯ ⋯ λH ad dd o=>?_;have bx:=JP.b o (Bs m);simp! only[o.at 0 rfl,o.at 2 rfl,o.at 4 rfl,o.at 5 rfl];refine P7 (o.sel (A:=[_,_,_,_,_,_,_]) [2,1,0,4,5,6] ⋯) bx ⋯ r λH dR o=>?_;obtain⟨_,_,hc,hj⟩:=JP.cj o;simp! only[o.at 4 rfl,hc];refine E8 (o.sel (A:=[_,_,_,_,_,_,_]) [3,2,0,1,4,5,6] ⋯) ⋯ ⋯ λH o=>?_;by_cases hz:kind=0
 ·have sl:=Wp m ⋯;have sn:(m:Int).natAbs<1000000000:=by omega
  simp! only[o.at 0 rfl,hz,dT,sl.2.1,sl.2.2,sn];exact e hz _ o.drop.drop
 ·simp! only[o.at 0 rfl,o.at 2 rfl,o.at 4 rfl,hz,dq,hT];refine o.hs 4 rfl λH o=>?_;simp! only[];exact q hz _ nd dR o
theorem OT (o:Ow P ((ns,Bu p s tb)::F) H) (e:E 3 H):W (call (n+1) (.fn 27 4) [.ref ns,.int 7] H) Q E:=by
 rw[AV [("self",.ref ns),("kind",.int 7),("major",.int 0),("minor",.int 0)] rfl rfl rfl rfl rfl];simp! only[(rfl:EZ (.int 7) [.int 1,.int 2,.int 3]=some false),KX,Ti];exact e
theorem H9 (o:Ow (JP p B J 1 []) ((ns,Bu p s tb)::(s,CM p.sp)::(tb,.U' T)::F) H) (kd:Nat->Int) (r:∀m,1<=m->m<=3->∃l sz g,Row B m (kd m) l sz g) (hT:T.length<lid) (hJ:J.length<=7) (q:∀m,1<=m->m<=3->kd m=0->(∀j,1<=j->j<m->kd j≠0)->∀H nd pl,Ow (JP p (upd B (Bs m) (Cj (B (Bs m)) (rat m) 2 0 0 g0)) (nt J (Bs m)) 1 []) (nF p ns s tb nd pl m 1 2 0 0 g0 ((tb,.U' (Ar m (.ref nd) T))::F)) H->Q (.ref nd) H) (e:(∀m,1<=m->m<=3->kd m≠0)->∀H,Ow (JP p B J 1 []) ((ns,Bu p s tb)::(s,CM p.sp)::(tb,.U' T)::F) H->E 5 H):W (call (n+5) (.fn 27 4) [.ref ns,.int 2] H) Q E:=by
 rw[AV [("self",.ref ns),("kind",.int 2),("major",.int 0),("minor",.int 0)] rfl rfl rfl rfl rfl];refine CD (a:=[_]) λA hA=>?_;simp! only[(rfl:EZ (.int 2) [.int 1,.int 2,.int 3]=some true),KX,Ti];apply hA;clear hA A;refine seq λA hA=>?_;simp! only[o.at 0 rfl,o.at 1 rfl,(by decide:((1:Int).natAbs<=lid/\(4:Int).natAbs<=lid)=True)];refine CH (λi loc h=>lk "self" loc=some (.ref ns)/\lk "kind" loc=some (.int 2)/\lk "major" loc=some (.int 0)/\lk "minor" loc=some (.int 0)/\(∀j,1<=j->j<i+1->kd j≠0)/\Ow (JP p B J 1 []) ((ns,Bu p s tb)::(s,CM p.sp)::(tb,.U' T)::F) h) 3 ?_ ?_ _ 0 _ _ ⋯ (el _) ⟨rfl,rfl,rfl,rfl,λj h1 h2=>by omega,o⟩
 ·rintro i loc h hi ⟨l1,l2,l3,l4,hk,o⟩;refine⟨.int ((1+i:Nat):Int),by rw[Do,UQ ⋯];rfl,?_⟩;simp! only[↓AK l1,o.at 0 rfl];obtain⟨l,sz,g,r⟩:=r (1+i) ⋯ ⋯;refine SB o r ⋯ λH o=>?_;by_cases hz:kd (1+i)=0
  ·simp! only[O3,hz,dT,↓AK l1];refine o.hn λnd H o=>?_;refine JD o λH pl o=>?_;simp! only[↓AK l1,↓AK l2,↓AK l3,↓AK l4,KX,Ti,o.at 0 rfl];refine o.hs 0 rfl λH o=>?_;simp! only[o.at 0 rfl];refine o.hs 0 rfl λH o=>?_;simp! only[o.at 0 rfl];refine o.hs 0 rfl λH o=>?_;simp! only[KX,Ti];refine o.hn λz H o=>?_;simp! only[↓AK l1,o.at 0 rfl,o.at 3 rfl,o.at 4 rfl,KX,Ti,Int.reduceAdd];refine o.hn λdR H o=>?_;simp! only[o.at 2 rfl];refine o.hs 2 rfl λH o=>?_;simp! only[↓AK l1,o.at 4 rfl,o.at 6 rfl,hT];refine o.hs 6 rfl λH o=>?_;simp! only[↓AK l1,o.at 4 rfl];refine update (g:=g0) (num:=1+i) (pl:=dR) (nd:=nd) (o.sel (A:=[_,_,_,_,_,_,_]) [4,5,2,0,6] ⋯) ⋯ ⋯ ⋯ ⋯ (λ_ _=>uO _) (.inr hJ) λH o=>?_;simp! only[];exact q (1+i) ⋯ ⋯ hz (λj h1 h2=>hk j h1 ⋯) _ nd dR o
  ·simp! only[O3,hz,dq];refine⟨by simpa [AD,ofString_eq] using l1,by simpa [AD,ofString_eq] using l2,by simpa [AD,ofString_eq] using l3,by simpa [AD,ofString_eq] using l4,λj h1 h2=>?_,o⟩;by_cases ej:j=1+i
   ·subst ej;exact hz
   ·exact hk j h1 ⋯
 ·rintro loc h ⟨l1,l2,l3,l4,hk,o⟩;refine⟨by rw[Do,T8 ⋯],?_⟩;rw[Au];apply hA;simp! only[];exact e (λm h1 h2=>hk m h1 ⋯) _ o
end
section
variable {sp:Nat}{own:List Int}
theorem Pw (o:Ow P ((nd,NO ns num 0 kind links size pl)::F) H) (e:E 3 H):W (call (n+1) (.fn 27 7) [.ref ns,.ref nd] H) Q E:=by
 rw[AV [("self",.ref ns),("node",.ref nd)] rfl rfl rfl rfl rfl];simp! only[o.at 0 rfl,(by decide:decide ((0:Int)<1)=true)];exact e
theorem P1 (o:Ow P ((ns,Bu p s tb)::(nd,NO ns num 2 kind links size pl)::(tb,.U' T)::F) H) (ht:Bm num T=some (.ref nd)) (q:∀H,Ow P ((ns,Bu p s tb)::(nd,NO ns num 1 kind links size pl)::(tb,.U' T)::F) H->Q .none H):W (call (n+1) (.fn 27 7) [.ref ns,.ref nd] H) Q E:=by
 rw[AV [("self",.ref ns),("node",.ref nd)] rfl rfl rfl rfl rfl];simp! only[o.at 0 rfl,o.at 1 rfl,o.at 2 rfl,ht,(by decide:decide ((2:Int)<1)=false),(by decide:decide ((2:Int)=1)=false)];refine o.hs 1 rfl λH o=>?_;simp! only[];exact q _ o
theorem Qm (o:Ow (JP p B J 1 []) (nF p ns s tb nd pl num 1 kind 0 size (G num) ((tb,.U' T)::F)) H) (ht:Bm num T=some (.ref nd)) (fs:FS p.sp B G) (hJ:J.length<=4) (hn:num<=3) (h1:0<=kind) (q:∀H B1 J1 dR js,js.Nodup->(∀j∈js,j<15)->(∀j,j<15->G num j≠0->j∈js)->Cl p.sp B (KS (G num) js) B1->
   Ow (JP p (upd (upd B1 (Bs num) (Cj (B1 (Bs num)) (rat num) kind 0 0 g0)) (Bs num) (Cj (upd B1 (Bs num) (Cj (B1 (Bs num)) (rat num) kind 0 0 g0) (Bs num)) (rat num) 0 0 0 g0)) J1 1 []) (nF p ns s tb nd dR num 0 0 0 0 g0 ((tb,.U' (Cw num T))::F)) H->Q .none H):W (call (n+7) (.fn 27 7) [.ref ns,.ref nd] H) Q E:=by
 rw[AV [("self",.ref ns),("node",.ref nd)] rfl rfl rfl rfl rfl];simp! only[o.at 0 rfl,o.at 2 rfl,o.at 4 rfl,ht,(by decide:decide ((1:Int)<1)=false),(by decide:decide ((1:Int)=1)=true),(by decide:decide ((0:Int)=0)=true)];refine truncate o fs ⋯ hn h1 ⋯ λH B1 J1 dR js j1 j2 j3 c jl o=>?_;simp! only[o.at 2 rfl];refine o.hs 2 rfl λH o=>?_;simp! only[o.at 0 rfl];refine update (g:=g0) (kind:=0) (links:=0) (size:=0) o hn ⋯ ⋯ ⋯ (λ_ _=>uO _) (.inr ⋯) λH o=>?_;simp! only[o.at 0 rfl,o.at 2 rfl,o.at 4 rfl,ht,ew];refine o.hs 4 rfl λH o=>?_;simp! only[o.at 2 rfl];refine o.hs 2 rfl λH o=>?_;simp! only[];exact q _ B1 _ dR js j1 j2 j3 c o
theorem VA (h:H[nd]? =some (NO ns num hold kind links size pl)):call (n+1) (.fn 26 4) [.ref nd] H= .ok (.tup [.int kind,.int num,.int links,.int size]) H:=by
 refine DA ?_;rw[AV [("self",.ref nd)] rfl rfl rfl rfl rfl];simp! only[h,KX,Ti]
theorem UJ (o:Ow P ((nd,NO ns num hold kind links size pl)::F) H) (q:∀H,Ow P ((nd,NO ns num (hold+1) kind links size pl)::F) H->Q (.ref nd) H):W (call (n+1) (.fn 26 9) [.ref nd] H) Q E:=by
 rw[AV [("self",.ref nd)] rfl rfl rfl rfl rfl];simp! only[o.at 0 rfl];refine o.hs 0 rfl λH o=>?_;simp! only[];exact q _ o
section
variable {w:V}
theorem HT (hn:H[ns]? =some (Bu p s tb)) (h:H[nd]? =some (NO ns num hold kind links size pl)):W (call (n+1) (.fn 26 5) [.ref nd,v,w] H) Q E=W (call n (.fn 27 16) [.ref ns,.ref nd,v,w] H) Q E:=by
 rw[AV [("self",.ref nd),("offset",v),("count",w)] rfl rfl rfl rfl rfl];simp! only[h,hn];rfl
theorem R9 (hn:H[ns]? =some (Bu p s tb)) (h:H[nd]? =some (NO ns num hold kind links size pl)):W (call (n+1) (.fn 26 6) [.ref nd,v,w] H) Q E=W (call n (.fn 27 17) [.ref ns,.ref nd,v,w] H) Q E:=by
 rw[AV [("self",.ref nd),("offset",v),("octets",w)] rfl rfl rfl rfl rfl];simp! only[h,hn];rfl
theorem MG (hn:H[ns]? =some (Bu p s tb)) (h:H[nd]? =some (NO ns num hold kind links size pl)):W (call (n+1) (.fn 26 7) [.ref nd] H) Q E=W (call n (.fn 27 19) [.ref ns,.ref nd] H) (λ_ h=>Q .none h) E:=by
 rw[AV [("self",.ref nd)] rfl rfl rfl rfl rfl];simp! only[h,hn];rfl
theorem QY (hn:H[ns]? =some (Bu p s tb)) (h:H[nd]? =some (NO ns num hold kind links size pl)):W (call (n+1) (.fn 26 8) [.ref nd] H) Q E=W (call n (.fn 27 5) [.ref ns,.ref nd] H) (λ_ h=>Q .none h) E:=by
 rw[AV [("self",.ref nd)] rfl rfl rfl rfl rfl];simp! only[h,hn];rfl
theorem Nb (hn:H[ns]? =some (Bu p s tb)) (h:H[nd]? =some (NO ns num hold kind links size pl)):W (call (n+1) (.fn 26 10) [.ref nd] H) Q E=W (call n (.fn 27 7) [.ref ns,.ref nd] H) (λ_ h=>Q .none h) E:=by
 rw[AV [("self",.ref nd)] rfl rfl rfl rfl rfl];simp! only[h,hn];rfl
end
end
section
variable {sp c dk rw' bn:Nat}{w:Int}{own:List Int}
theorem Mu (o:BB H ((c,.inst 30 [])::(DC dk kp lt uf (14+sp) w f K L []++F))) (q:∀H rw' bn,BB H ((c,CO ⟨dk,c,rw',bn,0,sp⟩ 0 0 0)::(rw',.list [])::(bn,.U' [])::(DC dk kp lt uf (14+sp) w f K L []++F))->Q .none H):W (call (n+1) (.fn 30 0) [.ref c,.ref dk,.int 14] H) Q E:=by
 rw[AV [("self",.ref c),("disk",.ref dk),("most",.int 14)] rfl rfl rfl rfl rfl]
 iterate 3
  simp! only[(by decide:decide ((14:Int)<1)=false),o.at 0 rfl,o.at 1 rfl,↓CC,lk,pt,Kh,fx,ew,Ti,KX];refine o.hs 0 rfl λH o=>?_
 simp! only[Ti];refine o.hn λrw' H o=>?_;simp! only[o.at 1 rfl,↓CC,lk,pt,Kh,fx,ew,Ti,KX];refine o.hs 1 rfl λH o=>?_;simp! only[];refine o.hn λbn H o=>?_
 iterate 4
  simp! only[o.at 2 rfl,↓CC,lk,pt,Kh,fx,ew,Ti,KX];refine o.hs 2 rfl λH o=>?_
 simp! only[];exact q _ rw' bn (o.sel (A:=[_,_,_,_,_,_,_]) [2,1,0,3,4,5,6] ⋯)
theorem Ke (o:BB H ((j,.inst 38 [])::(c,CO ⟨dk,c,rw',bn,j,sp⟩ 0 0 0)::(dk,DO kp lt uf (14+sp) w f)::F)) (q:∀H nu no,BB H ((j,JO ⟨dk,c,rw',bn,j,sp⟩ nu no 0 0)::(nu,.list [])::(no,.U' [])::(c,CO ⟨dk,c,rw',bn,j,sp⟩ 0 0 0)::(dk,DO kp lt uf (14+sp) w f)::F)->Q .none H):W (call (n+1) (.fn 38 0) [.ref j,.ref c,.int 2,.int 9] H) Q E:=by
 rw[AV [("self",.ref j),("cache",.ref c),("start",.int 2),("size",.int 9),("each",.none)] rfl rfl rfl rfl rfl];have c1:¬(14+(sp:Int))<2+9:=by omega
 iterate 6
  simp! only[(by decide:decide ((2:Int)<0)=false),(by decide:decide ((9:Int)<2)=false),c1,dq,o.at 0 rfl,o.at 1 rfl,o.at 2 rfl,↓CC,lk,pt,Kh,fx,ew,Ti,KX,(by decide:(0:Int)<4),(by decide:(4:Int)<1073741824),(by decide:(if (48:Int) / 4-1<9-1 then (48:Int) / 4-1 else 9-1)=8),(by decide:(if (14:Int)-4<8 then (14:Int)-4 else 8)=8),(by decide:decide ((8:Int)<1)=false),↓MR,(by decide:(if (8:Int)<10 then (8:Int) else 10)=8),(by decide:decide ((1:Int)<=8)=true),(by decide:decide ((8:Int)<=8)=true)];refine o.hs 0 rfl λH o=>?_
 simp! only[o.at 0 rfl,↓CC,lk,pt,(by decide:decide ((1:Int)<=8)=true),(by decide:decide ((8:Int)<=8)=true),Ti];refine o.hn λnu H o=>?_;simp! only[o.at 1 rfl,↓CC,lk,pt,Kh,fx,ew,Ti,KX];refine o.hs 1 rfl λH o=>?_;simp! only[];refine o.hn λno H o=>?_
 iterate 3
  simp! only[o.at 2 rfl,↓CC,lk,pt,Kh,fx,ew,Ti,KX];refine o.hs 2 rfl λH o=>?_
 simp! only[];exact q _ nu no (o.sel (A:=[_,_,_,_,_]) [2,1,0,3,4] ⋯)
theorem M3 (o:Ow (JP p B J cl []) ((ns,.inst 27 [])::F) H) (q:∀H tb,Ow (JP p B J cl []) ((ns,Bu p s tb)::(tb,.U' [])::F) H->Q .none H):W (call (n+1) (.fn 27 0) [.ref ns,.ref p.j,.ref s] H) Q E:=by
 rw[AV [("self",.ref ns),("journal",.ref p.j),("super_block",.ref s)] rfl rfl rfl rfl rfl];simp! only[o.at 0 rfl,↓CC,lk,pt,Kh,fx,ew,Ti,KX];refine o.hs 0 rfl λH o=>?_;obtain⟨nu,no,cm,nd,n1,n2,o'⟩:=JP.out o;simp! only[o'.at 0 rfl,o.at 0 rfl,↓CC,lk,pt,Kh,fx,ew,Ti,KX];refine o.hs 0 rfl λH o=>?_;simp! only[o.at 0 rfl,↓CC,lk,pt,Kh,fx,ew,Ti,KX];refine o.hs 0 rfl λH o=>?_;simp! only[];refine o.hn λtb H o=>?_;simp! only[o.at 1 rfl,↓CC,lk,pt,Kh,fx,ew,Ti,KX];refine o.hs 1 rfl λH o=>?_;simp! only[];exact q _ tb (o.sel (A:=[_,_]) [1,0] ⋯)
theorem Li:∀{a b:List Int},Il (a.map .int) (b.map .int)=decide (a=b)
 |[],[]=>rfl
 |[],_::_=>rfl
 |_::_,[]=>rfl
 |x::a,y::b=>by
  rw[ij,ij,Il,Li];show (x==y&&decide (a=b))=_;rw[qk];simp
theorem EX {a b:List Int}:Cv (a.map .int) (b.map .int)=some (decide (a=b)):=by
 have h:∀l:List Int,(l.map V.int).all BD=true:=λl=>by rw[jU];intro v hv;obtain⟨i,_,rfl⟩:=eJ.mp hv;rfl
 unfold Cv;rw[h,h,Li];rfl
theorem Lr (hx:x.length<36) (o:Ow P F H) (e:∀H,Ow P F H->E 4 H):W (call (n+1) (.fn 25 0) [.bytes x] H) Q E:=by
 rw[MH ["octets"] [("octets",.bytes x,true)] rfl rfl rfl rfl rfl];have c1:(x.length:Int)<4*9:=by omega
 simp! only[];refine o.hn λc H o=>?_;simp! only[o.at 0 rfl];refine o.hs 0 rfl λH o=>?_;simp! only[o.at 0 rfl,c1,dT];exact e _ o.drop
def Qy (x:List Int):List Int:=(List.range 9).map λi=>wv x (4*i)
def RU (b bl ino lg d:Int):List Int:=[270544960,bl,bl-NM b bl ino lg d,ino,lg,2,2+lg,P0 b ino lg d,d]
theorem Gj {b bl ino lg d:Int}(o:Ow P F H) (hs:H[s]? =some (SO b bl ino lg d)) (q:∀l H,Ow P ((l,.list ((RU b bl ino lg d).map .int))::F) H->Q (.ref l) H):W (call (n+1) (.fn 24 3) [.ref s] H) Q E:=by
 have w:=NU (n:=n) hs;rw[w];exact q _ _ (o.new _)
theorem Fj (hx:36<=x.length) (hx':x.length<1000000) (ox:Cc x) (o:Ow P F H) (hd:(wv x 32).natAbs<1000000) (hok:wv x 0=270544960->RY x.length (wv x 4) (wv x 12) (wv x 16) (wv x 32)) (q:Qy x=RU x.length (wv x 4) (wv x 12) (wv x 16) (wv x 32)->∀H s,Ow P ((s,SO x.length (wv x 4) (wv x 12) (wv x 16) (wv x 32))::F) H->Q (.ref s) H) (e:Qy x≠RU x.length (wv x 4) (wv x 12) (wv x 16) (wv x 32)->∀H,Ow P F H->E 4 H):W (call (n+3) (.fn 25 0) [.bytes x] H) Q E:=by
 rw[MH ["octets"] [("octets",.bytes x,true)] rfl rfl rfl rfl rfl];have c1:¬(x.length:Int)<4*9:=by omega
 simp! only[];refine o.hn λc H o=>?_;simp! only[o.at 0 rfl];refine o.hs 0 rfl λH o=>?_;simp! only[o.at 0 rfl,c1,dq,(by decide:((9:Int).natAbs<=lid)=True)];refine Da (λi acc loc h=>h=H/\acc=(List.range i).map λj=>V.int (wv x (4*j))) 9 ?_ ?_ _ 0 _ _ _ ⋯ (el _) ⟨rfl,rfl⟩
 ·rintro i acc loc h hi ⟨rfl,rfl⟩;refine⟨.int i,by rw[Do,UQ ⋯];congr 3;omega,?_⟩;have wa:call (n+2) (.fn 20 0) [.bytes x,.int (4*(i:Int))] h= .ok (.int (wv x (4*i))) h:=Er (n:=n) (i:=4*i) (.inl ⟨rfl,trivial⟩) ox ⋯;simp! only[o.at 0 rfl,wa];refine⟨by rw[eP,List.length_range];unfold lid;omega,trivial,?_⟩;rw[sC,gL];rfl
 ·rintro acc loc h ⟨rfl,rfl⟩;refine⟨by rw[Do,T8 ⋯],?_⟩;refine o.hn λwl H o=>?_;have sb:∀i:Nat,i<9->∀H,H[wl]? =some (.list ((List.range 9).map λj=>V.int (wv x (4*j))))->BM (.ref wl) (.int i) H=some (.int (wv x (4*i))):=λi hi H h=>Ga h (by rw[fw,List.getElem?_range hi];rfl);have s0:=sb 0 ⋯ H (o.at 0 rfl);have s1:=sb 1 ⋯ H (o.at 0 rfl);have s3:=sb 3 ⋯ H (o.at 0 rfl);have s4:=sb 4 ⋯ H (o.at 0 rfl);have s8:=sb 8 ⋯ H (o.at 0 rfl);by_cases hm:wv x 0=270544960
  ·simp! only[show BM (.ref wl) (.int 0) H=some (.int (wv x 0)) from s0,show BM (.ref wl) (.int 1) H=some (.int (wv x 4)) from s1,show BM (.ref wl) (.int 3) H=some (.int (wv x 12)) from s3,show BM (.ref wl) (.int 4) H=some (.int (wv x 16)) from s4,show BM (.ref wl) (.int 8) H=some (.int (wv x 32)) from s8,hm,dT,o.at 1 rfl];refine o.hn λs H o=>?_;refine C5 (o.at 0 rfl) hd ⋯ (λ_=>?_) (λh=>absurd (hok hm) h);replace o:=o.set 0 rfl (SO x.length (wv x 4) (wv x 12) (wv x 16) (wv x 32));generalize H.set s _=H at o;simp! only[o.at 0 rfl,SO];refine Gj o (o.at 0 rfl) λl H o=>?_;have es:O.list ((List.range 9).map λj=>V.int (wv x (4*j)))= .list ((Qy x).map .int):=by unfold Qy;rw[qI];rfl
   have hl:=o.at 2 rfl;rw[es] at hl;by_cases hq:RU x.length (wv x 4) (wv x 12) (wv x 16) (wv x 32)=Qy x
   ·simp! only[o.at 0 rfl,hl,EX,hq,dT];exact q hq.symm _ s (o.sel (A:=[_,_,_,_]) [1] ⋯)
   ·simp! only[o.at 0 rfl,hl,EX,hq,dq];exact e (λh=>hq h.symm) _ (o.sel (A:=[_,_,_,_]) [] ⋯)
  ·simp! only[show BM (.ref wl) (.int 0) H=some (.int (wv x 0)) from s0,hm,dq];refine e (λh=>hm ?_) _ (o.sel (A:=[_,_]) [] ⋯)
   have:=rG (λl=>l.getD 0 0) h
   simpa [Qy,RU] using this
end
def tell (c:Nat):String:=if c=5 then "room" else if c=3 then "argument" else "disk"
def Af (p:Pm) (ns s tb:Nat) (K:Hp->Prop) (H:Hp):Prop:=∃B J F,Ow (JP p B J 1 []) ((ns,Bu p s tb)::F) H/\∀B' H',Ag B B'->Ow (JP p B' [] 0 []) ((ns,Bu p s tb)::F) H'->K H'
section
variable {sp c dk:Nat}{w:Int}{own:List Int}{bd:Expr}{sc:Scope}
theorem BC (o:Ow (JP p B [] 0 []) ((ns,Bu p s tb)::F) H) (hd:∀H,Ow (JP p B [] 1 []) ((ns,Bu p s tb)::F) H->W (call (n+7) (.clo bd sc cs) [] H) (λv=>Af p ns s tb (Q v)) (λc H=>(c=3∨c=4∨c=5)/\Af p ns s tb (Q (.str (tell c))) H)):W (call (n+8) (.fn 42 0) [.ref ns,.clo bd sc cs] H) Q E:=by
 rw[AV [("nodes",.ref ns),("deed",.clo bd sc cs)] rfl rfl rfl rfl rfl];obtain⟨_,_,hc,hj⟩:=JP.cj o;simp! only[o.at 0 rfl,hj];refine UM o λH o=>?_;simp! only[];refine Qs (hd H o) (λv H af=>?_) (λc H af=>?_)
 ·obtain⟨B',J',F',o,k⟩:=af;obtain⟨_,_,hc,hj⟩:=JP.cj o;simp! only[o.at 0 rfl,hj];refine WM o λH ki ag o=>?_;exact k _ _ ag o
 ·obtain⟨hc3,B',J',F',o,k⟩:=af;obtain⟨_,_,hc,hj⟩:=JP.cj o;rcases hc3 with rfl|rfl|rfl
  all_goals
   first|rw [DW rfl,UQ rfl]|rw [DW rfl,T8 ⋯,DW rfl,UQ rfl]|rw [DW rfl,T8 ⋯,DW rfl,T8 ⋯,DW rfl,UQ rfl]
   simp! only[o.at 0 rfl,hj];refine WM o λH ki ag o=>?_;exact k _ _ ag o
theorem Ae {P:V->Hp->Prop}{i:IE}(c:cE false 30 sc.names bd=some i) (hc:AH sc.names cs H=(cs,H)):W (call (n+1) (.clo bd sc cs) [] H) P E=W (AU (call n) i cs [] H) P E:=XO c hc
def Iz (size:Nat) (n:Nat):Int×Nat:=
 let r:=n / 6
 if n%6=0 then ((r%(size+1):Nat),1+r / 700%250)
 else if n%6=1 then (size,1+r%250)
 else if n%6=2 then ((r%660:Nat),1+r / 660%60)
 else if n%6=3 then (672-(r%5:Nat),6)
 else if n%6=4 then (-1-(r%9:Nat),3) else ((r%700:Nat),0)
theorem Qo {size k:Nat}(o:Ow P F H) (hk:size<1000) (q:∀v H L,(v= .tup [.int (Iz size k).1,.int (Iz size k).2]/\L=[]∨∃a,v= .ref a/\L=[(a,.list [.int (Iz size k).1,.int (Iz size k).2])])->Ow P (L++F) H->Q v H):W (call (n+1) (.fn 45 0) [.int size,.int k] H) Q E:=by
 rw[AV [("size",.int size),("n",.int k)] rfl rfl rfl rfl rfl];have e1:(k:Int)%6=((k%6:Nat):Int):=by omega
 have e2:(k:Int) / 6=((k / 6:Nat):Int):=by omega
 have s1:(0:Int)<size+1:=by omega
 simp! only[e1,e2,(by decide:(0:Int)<6),(by decide:(6:Int)<1073741824),KX,Ti];generalize hr:k / 6=r;have hw:k%6<6:=Nat.mod_lt _ ⋯;have ep:Iz size k=(if k%6=0 then (((r%(size+1):Nat):Int),1+r / 700%250) else if k%6=1 then ((size:Int),1+r%250) else if k%6=2 then (((r%660:Nat):Int),1+r / 660%60) else if k%6=3 then (672-((r%5:Nat):Int),6) else if k%6=4 then (-1-((r%9:Nat):Int),3) else (((r%700:Nat):Int),0)):=by unfold Iz;rw[hr]
 generalize k%6=w at*;have hq:∀z:Int×Nat,Iz size k=z->∀H,(Ow P F H->Q (.tup [.int z.1,.int z.2]) H):=by rintro z rfl H o;exact q _ H [] (.inl ⟨rfl,rfl⟩) o
 obtain rfl|rfl|rfl|rfl|rfl|rfl:w=0∨w=1∨w=2∨w=3∨w=4∨w=5:=by omega
 all_goals simp! only[s1,(by decide:(0:Int)<700),(by decide:(700:Int)<1073741824),(by decide:(0:Int)<660),(by decide:(660:Int)<1073741824),(by decide:(0:Int)<250),(by decide:(0:Int)<60),(by decide:(0:Int)<5),(by decide:(0:Int)<9),sM,Int.reduceEq,dT,dq,KX,Ti]
 ·have:=hq _ ep H o
  simpa using this
 ·have:=hq _ ep H o
  simpa using this
 ·have:=hq _ ep H o
  simpa using this
 ·have:=hq _ ep H o
  simpa using this
 ·refine o.hn λa H o=>?_;simp! only[];refine q _ _ [(a,_)] (.inr ⟨a,rfl,?_⟩) o;rw[ep];rfl
 ·refine o.hn λa H o=>?_;simp! only[];refine q _ _ [(a,_)] (.inr ⟨a,rfl,?_⟩) o;rw[ep];rfl
end
abbrev vB:V:=.str "bits"
abbrev vN:V:=.str "names"
theorem dK:Cd vB vB=true:=by decide+kernel
theorem dL:Cd vN vN=true:=by decide+kernel
theorem dF:Cd vB vN=false:=by decide+kernel
theorem dE:Cd vN vB=false:=by decide+kernel
theorem Jv {σ:List V}:DG σ v=if σ.any (λy=>Cd y v) then σ else σ++[v]:=rfl
structure NI (l:List V) (cur t:Nat) (nb nn:Bool):Prop where
 k:l.all isKey=true
 b:(l.foldl DG []).any (λy=>Cd y vB)=nb
 n:(l.foldl DG []).any (λy=>Cd y vN)=nn
 i:∀i:Int,(l.foldl DG []).any (λy=>Cd y (.int i))=true->i<cur
 l:(l.foldl DG []).length=nb.toNat+nn.toNat+t
section
variable {l:List V}{cur:Nat}
theorem NI.bits (h:NI l cur t nb nn):NI (l++[vB]) cur t true nn:=by
 obtain⟨k,b,n,i,le⟩:=h;have k':(l++[vB]).all isKey=true:=by rw[th,k];rfl
 have f:(l++[vB]).foldl DG []=DG (l.foldl DG []) vB:=by rw[qV];rfl
 generalize l.foldl DG []=σ at*;rw[Jv,b] at f;cases nb with
 |true=>rw [UQ rfl] at f;exact⟨k',by rw[f];exact b,by rw[f];exact n,by rw[f];exact i,by rw[f];exact le⟩
 |false=>
  rw[T8 ⋯] at f;refine⟨k',by rw[f,n0,b];simp [dK],by rw[f,n0,n];simp [dF],λj hj=>i j ?_,by rw[f,eR,le];simp;omega⟩;rw[f,n0] at hj;simpa [Cd] using hj
theorem NI.names (h:NI l cur t nb nn):NI (l++[vN]) cur t nb true:=by
 obtain⟨k,b,n,i,le⟩:=h;have k':(l++[vN]).all isKey=true:=by rw[th,k];rfl
 have f:(l++[vN]).foldl DG []=DG (l.foldl DG []) vN:=by rw[qV];rfl
 generalize l.foldl DG []=σ at*;rw[Jv,n] at f;cases nn with
 |true=>rw [UQ rfl] at f;exact⟨k',by rw[f];exact b,by rw[f];exact n,by rw[f];exact i,by rw[f];exact le⟩
 |false=>
  rw[T8 ⋯] at f;refine⟨k',by rw[f,n0,b];simp [dE],by rw[f,n0,n];simp [dL],λj hj=>i j ?_,by rw[f,eR,le];simp;omega⟩;rw[f,n0] at hj;simpa [Cd] using hj
theorem NI.int (h:NI l cur t nb nn) (hi:cur<=i):NI (l++[.int i]) (i+1) (t+1) nb nn:=by
 obtain⟨k,b,n,ii,le⟩:=h;have k':(l++[V.int i]).all isKey=true:=by rw[th,k];rfl
 have f:(l++[V.int i]).foldl DG []=DG (l.foldl DG []) (.int i):=by rw[qV];rfl
 generalize l.foldl DG []=σ at*;rw[Jv,T8 (λh=>by have:=ii i h;omega)] at f;refine⟨k',by rw[f,n0,b];simp [Cd],by rw[f,n0,n];simp [Cd],λj hj=>?_,by rw[f,eR,le];simp;omega⟩;rw[f,n0,qB] at hj;rcases hj with hj|hj
 ·have:=ii j hj;omega
 ·have:(i:Int)=j:=by simpa [Cd] using hj
  omega
end
abbrev ML (M:List Nat):List V:=M.map λ(i:Nat)=>V.int (i:Int)
theorem AQ {M:List Nat}:EZ (.int i) (ML M)=some (decide (i∈M)):=by
 have:ML M=(M.map λi:Nat=>(i:Int)).map .int:=by rw[qI];rfl
 rw[this,Qr];congr 1;rw[decide_eq_decide];simp only[eJ];exact⟨λ⟨a,h,e⟩=>(by have h2:a=i:=⋯;exact h2▸h),λh=>⟨i,h,rfl⟩⟩
section
variable {md bl:Nat}{own:List Int}{s0 R:RS}
theorem PK (o:Ow P ((md,MD own bl s0.nm)::(bl,.list (ML s0.M))::F) H) (ho:off+cnt<=672) (h0:s0.done=0) (ht:s0.t=0) (hnb:s0.nb=false) (hnn:s0.nn=false) (hM:s0.M.length<=14) (hR:Jp off cnt 6 s0=R) (q:∀H,Ow P ((md,MD own bl R.nm)::(bl,.list (ML R.M))::F) H->Q (.tup [.int R.done,.int R.free]) H):W (call (n+1) (.fn 43 0) [.ref md,.int s0.free,.int off,.int cnt] H) Q E:=by
 rw[AV [("model",.ref md),("free",.int s0.free),("offset",.int off),("count",.int cnt)] rfl rfl rfl rfl rfl];refine seq λA hA=>?_;simp! only[Ti];refine o.hn λnl H o=>?_;simp! only[KX,Ti];apply hA;clear hA A;refine seq λA hA=>?_;rw[PX];refine Ek (λf loc h=>lk "model" loc=some (.ref md)/\lk "offset" loc=some (.int off)/\lk "count" loc=some (.int cnt)/\
  ∃s1 nl l cur,lk "done" loc=some (.int s1.done)/\lk "free" loc=some (.int s1.free)/\lk "noted" loc=some (.ref nl)/\Jp off cnt f s1=R/\f+s1.t=6/\s1.done<=cnt/\(s1.done<cnt->cur<=(off+s1.done) / 48)/\NI l cur s1.t s1.nb s1.nn/\l.length<=5*s1.t/\s1.M.length<=14+s1.t/\
   Ow P ((nl,.list l)::(md,MD own bl s1.nm)::(bl,.list (ML s1.M))::F) h) ?_ _ 6 _ _ (by unfold AO;omega) ⟨rfl,rfl,rfl,s0,nl,[],0,by rw[h0];rfl,rfl,rfl,hR,by rw[ht],by omega,λ_=>el _,⟨rfl,by rw[hnb];rfl,by rw[hnn];rfl,(λi h=>by cases h),by rw[hnb,hnn,ht];rfl⟩,by simp,by omega,o⟩
 rintro f loc h ⟨l1,l2,l3,s1,nl,l,cur,l4,l5,l6,hf,ht1,hd,dw,ni,hz,hm,o⟩;have hdl:distinct l=s1.w:=ni.l;have ll:l.length<=1000:=by omega
 by_cases hg:s1.done<cnt/\s1.w<5
 ·have g1:(s1.done:Int)<cnt:=by omega
  have g2:(s1.w:Int)<5:=by omega
  simp! only[↓AK l3,↓AK l4,↓AK l6,o.at 0 rfl,ni.k,ll,hdl,g1,g2,dT,Bool.and_self];have w5:=hg.2;unfold RS.w at w5;cases f with
  |zero=>omega
  |succ f=>
   refine⟨f,rfl,?_⟩;rw[Jp,UQ hg] at hf;have e1:((off:Int)+s1.done) / 48=(((off+s1.done) / 48:Nat):Int):=by omega
   have e2:((off:Int)+s1.done)%48=(((off+s1.done)%48:Nat):Int):=by omega
   have e3:(if (cnt:Int)-s1.done<48-(((off+s1.done)%48:Nat):Int) then (cnt:Int)-s1.done else 48-(((off+s1.done)%48:Nat):Int))=((min (48-(off+s1.done)%48) (cnt-s1.done):Nat):Int):=by split<;>omega
   have e4:(s1.done:Int)+(min (48-(off+s1.done)%48) (cnt-s1.done):Nat)=((s1.done+min (48-(off+s1.done)%48) (cnt-s1.done):Nat):Int):=by omega
   have dw:=dw hg.1;have ja:s1.done+min (48-(off+s1.done)%48) (cnt-s1.done)<cnt->(off+(s1.done+min (48-(off+s1.done)%48) (cnt-s1.done))) / 48=(off+s1.done) / 48+1:=by omega
   have hdc:s1.done+min (48-(off+s1.done)%48) (cnt-s1.done)<=cnt:=by omega
   generalize hd':s1.done+min (48-(off+s1.done)%48) (cnt-s1.done)=d' at*;generalize hi:(off+s1.done) / 48=i at*;have er:Eu off cnt s1=(if i∈s1.M then ({s1 with done:=d',t:=s1.t+1},true) else if s1.free=0 then (s1,false) else if 1<i/\s1.nm=false then (if s1.free=1 then ({s1 with free:=0,nm:=true},false) else (⟨d',s1.free-2,s1.M++[i],true,true,true,s1.t+1⟩,true)) else (⟨d',s1.free-1,s1.M++[i],s1.nm,true,s1.nn||decide (1<i),s1.t+1⟩,true)):=by
    unfold Eu;dsimp only;rw[hi,hd']
   have nx:∀{s':RS}{l':List V}{nl':Nat}{loc':Loc}{h':Hp},lk "model" loc'=some (.ref md)->lk "offset" loc'=some (.int off)->lk "count" loc'=some (.int cnt)->lk "done" loc'=some (.int d')->lk "free" loc'=some (.int s'.free)->lk "noted" loc'=some (.ref nl')->s'.done=d'->Jp off cnt f s'=R->s'.t=s1.t+1->NI l' (i+1) s'.t s'.nb s'.nn->l'.length<=l.length+5->s'.M.length<=s1.M.length+1->
     Ow P ((nl',.list l')::(md,MD own bl s'.nm)::(bl,.list (ML s'.M))::F) h'->∃m',m'<=f/\(lk "model" loc'=some (.ref md)/\lk "offset" loc'=some (.int off)/\lk "count" loc'=some (.int cnt)/\
  ∃s1 nl l cur,lk "done" loc'=some (.int s1.done)/\lk "free" loc'=some (.int s1.free)/\lk "noted" loc'=some (.ref nl)/\Jp off cnt m' s1=R/\m'+s1.t=6/\s1.done<=cnt/\(s1.done<cnt->cur<=(off+s1.done) / 48)/\NI l cur s1.t s1.nb s1.nn/\l.length<=5*s1.t/\s1.M.length<=14+s1.t/\
   Ow P ((nl,.list l)::(md,MD own bl s1.nm)::(bl,.list (ML s1.M))::F) h'):=λa1 a2 a3 a4 a5 a6 a7 a8 a9 kj pH pI o=>
    ⟨f,ix _,a1,a2,a3,_,_,_,i+1,by rw[a7];exact a4,a5,a6,a8,by omega,by omega,λh=>by rw[a7] at h ⊢;have:=ja h;omega,kj,by omega,by omega,o⟩
   have gK:l.length<lid:=by unfold lid;omega
   have i1:=ni.int dw;by_cases hM:i∈s1.M
   ·rw[er,UQ hM] at hf;by_cases hi1:1<i
    ·have c1:(1:Int)<i:=by omega
     simp! only[↓AK l1,↓AK l2,↓AK l3,↓AK l4,↓AK l5,↓AK l6,e1,e2,e3,e4,κ,μ,AQ,KX,Ti,dT,dq,c1,IH (o.at 1 rfl),o.at 2 rfl,hM,o.at 0 rfl,gK];refine o.hs 0 rfl λH o=>?_;simp! only[↓AK l1,↓AK l2,↓AK l3,↓AK l4,↓AK l5,↓AK l6,e1,e2,e3,e4,κ,μ,AQ,KX,Ti,dT,dq];refine nx (s':={s1 with done:=d',t:=s1.t+1}) ?_ ?_ ?_ ?_ ?_ ?_ rfl hf rfl i1 (by simp) (by simp) o
     all_goals simp [AD,ofString_eq,l1,l2,l3,l4,l5,l6]
    ·have c1:¬(1:Int)<i:=by omega
     simp! only[↓AK l1,↓AK l2,↓AK l3,↓AK l4,↓AK l5,↓AK l6,e1,e2,e3,e4,κ,μ,AQ,KX,Ti,dT,dq,c1,IH (o.at 1 rfl),o.at 2 rfl,hM,o.at 0 rfl,gK];refine o.hs 0 rfl λH o=>?_;simp! only[↓AK l1,↓AK l2,↓AK l3,↓AK l4,↓AK l5,↓AK l6,e1,e2,e3,e4,κ,μ,AQ,KX,Ti,dT,dq];refine nx (s':={s1 with done:=d',t:=s1.t+1}) ?_ ?_ ?_ ?_ ?_ ?_ rfl hf rfl i1 (by simp) (by simp) o
     all_goals simp [AD,ofString_eq,l1,l2,l3,l4,l5,l6]
   ·rw[er,T8 hM] at hf;by_cases hz:s1.free=0
    ·rw[UQ hz,T8 (by intro h;cases h)] at hf;subst hf;have fT:(s1.free:Int)=0:=by omega
     by_cases hi1:1<i
     ·have c1:(1:Int)<i:=by omega
      cases hnm:s1.nm with
      |false=>
       rw[hnm] at o q;simp! only[↓AK l1,↓AK l2,↓AK l3,↓AK l4,↓AK l5,↓AK l6,e1,e2,e3,e4,κ,μ,AQ,KX,Ti,dT,dq,c1,IH (o.at 1 rfl),MZ (o.at 1 rfl),o.at 2 rfl,hM,fT]
       have:=q _ o.drop
       rw[hz] at this;exact this
      |true=>
       rw[hnm] at o q;simp! only[↓AK l1,↓AK l2,↓AK l3,↓AK l4,↓AK l5,↓AK l6,e1,e2,e3,e4,κ,μ,AQ,KX,Ti,dT,dq,c1,IH (o.at 1 rfl),MZ (o.at 1 rfl),o.at 2 rfl,hM,fT]
       have:=q _ o.drop
       rw[hz] at this;exact this
     ·have c1:¬(1:Int)<i:=by omega
      simp! only[↓AK l1,↓AK l2,↓AK l3,↓AK l4,↓AK l5,↓AK l6,e1,e2,e3,e4,κ,μ,AQ,KX,Ti,dT,dq,c1,IH (o.at 1 rfl),MZ (o.at 1 rfl),o.at 2 rfl,hM,fT]
      have:=q _ o.drop
      rw[hz] at this;exact this
    ·rw[T8 hz] at hf;have fT:¬(s1.free:Int)=0:=by omega
     have lM:(ML s1.M).length<lid:=by rw[eP];unfold lid;omega
     have eM:ML s1.M++[V.int i]=ML (s1.M++[i]):=by unfold ML;rw[gL];rfl
     by_cases h2:1<i/\s1.nm=false
     ·rw[UQ h2] at hf;have c1:(1:Int)<i:=by omega
      rw[h2.2] at o;have iQ:l.length+2<=lid:=by unfold lid;omega
      have e5:(s1.free:Int)-1=((s1.free-1:Nat):Int):=by omega
      simp! only[↓AK l1,↓AK l2,↓AK l3,↓AK l4,↓AK l5,↓AK l6,e1,e2,e3,e4,κ,μ,AQ,KX,Ti,dT,dq,c1,IH (o.at 1 rfl),MZ (o.at 1 rfl),o.at 1 rfl,o.at 2 rfl,hM,fT,ew];refine o.hs 1 rfl λH o=>?_;simp! only[↓AK l1,↓AK l2,↓AK l3,↓AK l4,↓AK l5,↓AK l6,e1,e2,e3,e4,κ,μ,AQ,KX,Ti,dT,dq];refine o.hn λb1 H o=>?_;simp! only[↓AK l1,↓AK l2,↓AK l3,↓AK l4,↓AK l5,↓AK l6,e1,e2,e3,e4,κ,μ,AQ,KX,Ti,dT,dq,o.at 0 rfl,o.at 1 rfl,iQ,Nat.reduceAdd];refine o.hn λb2 H o=>?_;by_cases h1:s1.free=1
      ·rw[UQ h1,T8 (by intro h;cases h)] at hf;subst hf;have iR:(s1.free:Int)-1=0:=by omega
       simp! only[↓AK l1,↓AK l2,↓AK l3,↓AK l4,↓AK l5,↓AK l6,e1,e2,e3,e4,κ,μ,AQ,KX,Ti,dT,dq,IH (o.at 3 rfl),o.at 4 rfl,hM,iR];exact q _ (o.sel (A:=[_,_,_,_,_]) [3,4] ⋯)
      ·rw[T8 h1,UQ rfl] at hf;have iR:¬(s1.free:Int)-1=0:=by omega
       have e6:(s1.free:Int)-1-1=((s1.free-2:Nat):Int):=by omega
       have fH:l.length+2+1<=lid:=by unfold lid;omega
       have fJ:l.length+2+1+1<=lid:=by unfold lid;omega
       have eF:l.length+2+1+1<lid:=by unfold lid;omega
       simp! only[↓AK l1,↓AK l2,↓AK l3,↓AK l4,↓AK l5,↓AK l6,e1,e2,e3,e4,κ,μ,AQ,KX,Ti,dT,dq,IH (o.at 3 rfl),o.at 4 rfl,hM,iR,lM];refine o.hs 4 rfl λH o=>?_;rw[eM] at o;simp! only[↓AK l1,↓AK l2,↓AK l3,↓AK l4,↓AK l5,↓AK l6,e1,e2,e3,e4,κ,μ,AQ,KX,Ti,dT,dq];refine o.hn λb3 H o=>?_;simp! only[o.at 0 rfl,o.at 1 rfl,↓AK l1,↓AK l2,↓AK l3,↓AK l4,↓AK l5,↓AK l6,e1,e2,e3,e4,κ,μ,AQ,KX,Ti,dT,dq,eR,fH,Nat.reduceAdd];refine o.hn λb4 H o=>?_;simp! only[↓AK l1,↓AK l2,↓AK l3,↓AK l4,↓AK l5,↓AK l6,e1,e2,e3,e4,κ,μ,AQ,KX,Ti,dT,dq];refine o.hn λb5 H o=>?_;simp! only[↓AK l1,↓AK l2,↓AK l3,↓AK l4,↓AK l5,↓AK l6,e1,e2,e3,e4,κ,μ,AQ,KX,Ti,dT,dq,c1,o.at 0 rfl,(by decide:(0<=(1:Int)/\(1:Int)<=3/\0+1<=1000))];refine o.hn λb6 H o=>?_;replace o:Ow P ((b6,.list [vN])::_) H:=o;simp! only[o.at 0 rfl,o.at 2 rfl,↓AK l1,↓AK l2,↓AK l3,↓AK l4,↓AK l5,↓AK l6,e1,e2,e3,e4,κ,μ,AQ,KX,Ti,dT,dq,eR,fJ,Nat.reduceAdd];refine o.hn λb7 H o=>?_;simp! only[↓AK l1,↓AK l2,↓AK l3,↓AK l4,↓AK l5,↓AK l6,e1,e2,e3,e4,κ,μ,AQ,KX,Ti,dT,dq,o.at 0 rfl,eR,eF,Nat.reduceAdd];refine o.hs 0 rfl λH o=>?_;simp! only[↓AK l1,↓AK l2,↓AK l3,↓AK l4,↓AK l5,↓AK l6,e1,e2,e3,e4,κ,μ,AQ,KX,Ti,dT,dq];have gM:NI (l++[vB,vN]++[vB]++[vN]) cur s1.t true true:=by simpa using ni.bits.names.bits.names
       refine nx (s':=⟨d',s1.free-2,s1.M++[i],true,true,true,s1.t+1⟩) ?_ ?_ ?_ ?_ ?_ ?_ rfl hf rfl (gM.int dw) (by simp) (by simp) (o.sel (A:=[_,_,_,_,_,_,_,_,_,_]) [0,8,9] ⋯)
       all_goals simp [AD,ofString_eq,l1,l2,l3,l4,l5,l6,e6]
     ·rw[T8 h2,UQ rfl] at hf;have e5:(s1.free:Int)-1=((s1.free-1:Nat):Int):=by omega
      have fH:l.length+1<=lid:=by unfold lid;omega
      have fJ:l.length+1+1<=lid:=by unfold lid;omega
      have eF:l.length+1+1<lid:=by unfold lid;omega
      have fM:l.length+1<=lid:=by unfold lid;omega
      have eX:l.length+1<lid:=by unfold lid;omega
      by_cases hi1:1<i
      ·have c1:(1:Int)<i:=by omega
       have hnm:s1.nm=true:=by cases h:s1.nm with|true=>rfl|false=>exact absurd ⟨hi1,h⟩ h2
       simp! only[↓AK l1,↓AK l2,↓AK l3,↓AK l4,↓AK l5,↓AK l6,e1,e2,e3,e4,κ,μ,AQ,KX,Ti,dT,dq,c1,IH (o.at 1 rfl),MZ (o.at 1 rfl),o.at 2 rfl,hM,fT,lM,hnm];refine o.hs 2 rfl λH o=>?_;rw[eM] at o;refine o.hn λb3 H o=>?_;simp! only[o.at 0 rfl,o.at 1 rfl,↓AK l1,↓AK l2,↓AK l3,↓AK l4,↓AK l5,↓AK l6,e1,e2,e3,e4,κ,μ,AQ,KX,Ti,dT,dq,eR,fH,Nat.reduceAdd];refine o.hn λb4 H o=>?_;simp! only[↓AK l1,↓AK l2,↓AK l3,↓AK l4,↓AK l5,↓AK l6,e1,e2,e3,e4,κ,μ,AQ,KX,Ti,dT,dq];refine o.hn λb5 H o=>?_;simp! only[↓AK l1,↓AK l2,↓AK l3,↓AK l4,↓AK l5,↓AK l6,e1,e2,e3,e4,κ,μ,AQ,KX,Ti,dT,dq,c1,o.at 0 rfl,(by decide:(0<=(1:Int)/\(1:Int)<=3/\0+1<=1000))];refine o.hn λb6 H o=>?_;replace o:Ow P ((b6,.list [vN])::_) H:=o;simp! only[o.at 0 rfl,o.at 2 rfl,↓AK l1,↓AK l2,↓AK l3,↓AK l4,↓AK l5,↓AK l6,e1,e2,e3,e4,κ,μ,AQ,KX,Ti,dT,dq,eR,fJ,fM,Nat.reduceAdd,rQ];refine o.hn λb7 H o=>?_;simp! only[↓AK l1,↓AK l2,↓AK l3,↓AK l4,↓AK l5,↓AK l6,e1,e2,e3,e4,κ,μ,AQ,KX,Ti,dT,dq,o.at 0 rfl,eR,eF,eX,Nat.reduceAdd,rQ];refine o.hs 0 rfl λH o=>?_;simp! only[↓AK l1,↓AK l2,↓AK l3,↓AK l4,↓AK l5,↓AK l6,e1,e2,e3,e4,κ,μ,AQ,KX,Ti,dT,dq];have gM:NI (l++[vB]++[vN]) cur s1.t true (s1.nn||decide (1<i)):=by
        rw[show (s1.nn||decide (1<i))=true by simp;omega];simpa using ni.bits.names
       refine nx (s':=⟨d',s1.free-1,s1.M++[i],s1.nm,true,s1.nn||decide (1<i),s1.t+1⟩) ?_ ?_ ?_ ?_ ?_ ?_ rfl hf rfl (gM.int dw) (by simp) (by simp) (o.sel (A:=[_,_,_,_,_,_,_,_]) [0,6,7] ⋯)
       all_goals simp [AD,ofString_eq,l1,l2,l3,l4,l5,l6,e5]
      ·have c1:¬(1:Int)<i:=by omega
       simp! only[↓AK l1,↓AK l2,↓AK l3,↓AK l4,↓AK l5,↓AK l6,e1,e2,e3,e4,κ,μ,AQ,KX,Ti,dT,dq,c1,IH (o.at 1 rfl),MZ (o.at 1 rfl),o.at 2 rfl,hM,fT,lM];refine o.hs 2 rfl λH o=>?_;rw[eM] at o;refine o.hn λb3 H o=>?_;simp! only[o.at 0 rfl,o.at 1 rfl,↓AK l1,↓AK l2,↓AK l3,↓AK l4,↓AK l5,↓AK l6,e1,e2,e3,e4,κ,μ,AQ,KX,Ti,dT,dq,eR,fH,Nat.reduceAdd];refine o.hn λb4 H o=>?_;simp! only[↓AK l1,↓AK l2,↓AK l3,↓AK l4,↓AK l5,↓AK l6,e1,e2,e3,e4,κ,μ,AQ,KX,Ti,dT,dq];refine o.hn λb5 H o=>?_;simp! only[↓AK l1,↓AK l2,↓AK l3,↓AK l4,↓AK l5,↓AK l6,e1,e2,e3,e4,κ,μ,AQ,KX,Ti,dT,dq,c1,o.at 0 rfl,(by decide:(0<=(0:Int)/\(0:Int)<=3/\0+1<=1000))];refine o.hn λb6 H o=>?_;replace o:Ow P ((b6,.list [])::_) H:=o;simp! only[o.at 0 rfl,o.at 2 rfl,↓AK l1,↓AK l2,↓AK l3,↓AK l4,↓AK l5,↓AK l6,e1,e2,e3,e4,κ,μ,AQ,KX,Ti,dT,dq,eR,fJ,fM,Nat.reduceAdd,rQ];refine o.hn λb7 H o=>?_;simp! only[↓AK l1,↓AK l2,↓AK l3,↓AK l4,↓AK l5,↓AK l6,e1,e2,e3,e4,κ,μ,AQ,KX,Ti,dT,dq,o.at 0 rfl,eR,eF,eX,Nat.reduceAdd,rQ];refine o.hs 0 rfl λH o=>?_;simp! only[↓AK l1,↓AK l2,↓AK l3,↓AK l4,↓AK l5,↓AK l6,e1,e2,e3,e4,κ,μ,AQ,KX,Ti,dT,dq];have gM:NI (l++[vB]++[]) cur s1.t true (s1.nn||decide (1<i)):=by
        rw[show (s1.nn||decide (1<i))=s1.nn by simp;omega];simpa using ni.bits
       refine nx (s':=⟨d',s1.free-1,s1.M++[i],s1.nm,true,s1.nn||decide (1<i),s1.t+1⟩) ?_ ?_ ?_ ?_ ?_ ?_ rfl hf rfl (gM.int dw) (by simp) (by simp) (o.sel (A:=[_,_,_,_,_,_,_,_]) [0,6,7] ⋯)
       all_goals simp [AD,ofString_eq,l1,l2,l3,l4,l5,l6,e5]
 ·have hr:s1=R:=by rw[←hf];cases f with
   |zero=>rfl
   |succ f=>rw [Jp,T8 hg]
  subst hr;by_cases kh:s1.done<cnt
  ·have g1:(s1.done:Int)<cnt:=by omega
   have g2:¬(s1.w:Int)<5:=by omega
   simp! only[↓AK l3,↓AK l4,↓AK l6,o.at 0 rfl,ni.k,ll,hdl,g1,g2,dT,dq,Bool.and_self];apply hA;simp! only[↓AK l4,↓AK l5,KX,Ti];exact q _ o.drop
  ·have g1:¬(s1.done:Int)<cnt:=by omega
   simp! only[↓AK l3,↓AK l4,g1,dq];apply hA;simp! only[↓AK l4,↓AK l5,KX,Ti];exact q _ o.drop
end
def Gb (own:List Int) (off:Nat) (oc:List Int):List Int:=
 if oc=[] then own else sliceOf (own++List.replicate (off-own.length) 0) 0 off++oc++sliceOf (own++List.replicate (off-own.length) 0) (off+oc.length) (own++List.replicate (off-own.length) 0).length
section
variable {own:List Int}
theorem O6 (h:oc≠[]):(Gb own off oc).length=max own.length (off+oc.length):=by
 unfold Gb;rw[T8 h];unfold sliceOf;simp;omega
theorem P4 {q:Nat}:(Gb own off oc).getD q 0=if off<=q/\q<off+oc.length then oc.getD (q-off) 0 else own.getD q 0:=by
 unfold Gb;by_cases h:oc=[]
 ·rw[UQ h,T8 (by rw[h];simp)]
 ·rw[T8 h];have l2:(own++List.replicate (off-own.length) (0:Int)).length=max own.length off:=by simp;omega
  have l1:(sliceOf (own++List.replicate (off-own.length) (0:Int)) 0 off).length=off:=by unfold sliceOf;rw[qE,rY,l2];omega
  have e:∀j,(own++List.replicate (off-own.length) (0:Int)).getD j 0=own.getD j 0:=λj=>by
   rw[Ef];split
   ·rfl
   ·rename_i hj;rw[JL (l:=own) ⋯,fp,qf];split<;>rfl
  rw[Ef,Ef,eR,l1];by_cases a:q<off
  ·rw[UQ ⋯,UQ a,T8 ⋯];unfold sliceOf;rw[Ds,Di,UQ ⋯,e,tY]
  ·by_cases b:q<off+oc.length
   ·rw[UQ b,T8 a,UQ ⟨by omega,b⟩]
   ·rw[T8 b,T8 ⋯];unfold sliceOf;rw[Ds,Di];split
    ·rw[e];congr 1;omega
    ·rename_i hj;rw[l2] at hj;rw[JL];omega
theorem PY (h:Cc own) (h':Cc oc):Cc (Gb own off oc):=by
 unfold Gb;split
 ·exact h
 ·exact ((((h.app (Cc.zeros _)).sl _ _).app h').app ((h.app (Cc.zeros _)).sl _ _))
end
section
variable {md bl:Nat}{own:List Int}{nm:Bool}
theorem R1 (o:Ow P ((md,MD own bl nm)::F) H) (ho:off+oc.length<=672) (hl:own.length<=672) (q:∀H,Ow P ((md,MD (Gb own off oc) bl nm)::F) H->Q .none H):W (call (n+1) (.fn 44 0) [.ref md,.int off,.bytes oc] H) Q E:=by
 rw[AV [("model",.ref md),("offset",.int off),("octets",.bytes oc)] rfl rfl rfl rfl rfl];by_cases h:oc=[]
 ·subst h;simp! only[qH,dT]
  have:=q H (by unfold Gb;rw[UQ rfl];exact o)
  exact this
 ·have e1:(if (0:Int)<(off:Int)-own.length then (off:Int)-own.length else 0)=((off-own.length:Nat):Int):=by split<;>omega
  have c1:(0:Int)<=((off-own.length:Nat):Int):=by omega
  have c2:((off-own.length:Nat):Int)<=1000000:=by omega
  have c3:(0:Int)<=(off:Int):=by omega
  have c4:(0:Int)<=(off:Int)+oc.length:=by omega
  have t1:((off:Int)+oc.length).toNat=off+oc.length:=by omega
  have b1:own.length+(off-own.length)<=lid:=by unfold lid;omega
  have b2:(sliceOf (own++List.replicate (off-own.length) (0:Int)) 0 off).length+oc.length<=lid:=by unfold sliceOf lid;simp;omega
  have b3:(sliceOf (own++List.replicate (off-own.length) (0:Int)) 0 off).length+oc.length+(sliceOf (own++List.replicate (off-own.length) (0:Int)) (off+oc.length) (own.length+(off-own.length))).length<=lid:=by unfold sliceOf lid;simp;omega
  simp! only[h,qH,dq,UZ (o.at 0 rfl),e1,c1,c2,c3,c4,t1,eD,lL,b1,eR,b2,b3,o.at 0 rfl,ew];refine o.hs 0 rfl λH o=>?_
  have:=q H (by
   unfold Gb;rw[T8 h,eR,lL];exact o)
  exact this
end
structure FR where
 (nd pl md bl:Nat)
 g:Nat->Int
 own:List Int
 M:List Nat
 nm:Bool
abbrev fc (ns num:Nat) (r:FR):HL:=[(r.nd,NO ns num 1 2 1 r.own.length r.pl),(r.pl,gP r.g),(r.md,MD r.own r.bl r.nm),(r.bl,.list (ML r.M))]
abbrev Rx (free:Nat) (r:FR):RS:=⟨0,free,r.M,r.nm,false,false,0⟩
structure FO (sp:Nat) (B:BW) (num:Nat) (r:FR) (free:Nat):Prop where
 rel:Rel sp (Rx free r) B r.g
 ct:∀q,q<672->CT B r.g q=r.own.getD q 0
 oc:Cc r.own
 len:r.own.length<=672
 row:Row B num 2 1 r.own.length r.g
structure FI (B B':BW) (G:Nat->Nat->Int) (num:Nat):Prop where
 ct:∀m,m≠num->∀q,q<672->CT B' (G m) q=CT B (G m) q
 row:∀m,m<=3->m≠num->∀k l s g,Row B m k l s g->Row B' m k l s g
 b1:B' 1=B 1
variable {free dP:Nat}{r:FR}
section
variable {sp:Nat}{B1:BW}{s R:RS}
theorem FI.trans (a:FI B B1 G num) (b:FI B1 B' G num):FI B B' G num:=
 ⟨λm hm q hq=>(b.ct m hm q hq).trans (a.ct m hm q hq),λm h1 h2 k l s g r=>b.row m h1 h2 k l s g (a.row m h1 h2 k l s g r),b.b1.trans a.b1⟩
theorem Ag.hi (a:Ag B B') (b:Int) (h:11<=b):B' b=B b:=a b ⋯
theorem FS.ag (fs:FS sp B G) (a:Ag B B'):FS sp B' G/\∀m q,q<672->CT B' (G m) q=CT B (G m) q:=fs.low λb h=>a.hi b ⋯
theorem Row.ag {l sz:Int}(r:Row B m k l sz g) (a:Ag B B') (hm:m<=3):Row B' m k l sz g:=r.low hm λb h _=>a.hi b h
theorem FI.ag (fs:FS sp B G) (a:Ag B B'):FI B B' G num:=⟨λm _ q hq=>(fs.ag a).2 m q hq,λm hm _ _ _ _ _ r=>r.ag a hm,a 1 ⋯⟩
theorem FO.ag (fs:FS sp B G) (h:G num=r.g) (f:FO sp B num r free) (a:Ag B B') (hn:num<=3):FO sp B' num r free:=by
 refine⟨⟨by rw[a.hi 13 ⋯];exact f.rel.f,f.rel.m,f.rel.n,f.rel.d,f.rel.l⟩,λq hq=>?_,f.oc,f.len,f.row.ag a hn⟩;rw[←h,(fs.ag a).2 num q hq,h];exact f.ct q hq
theorem Na:(Eu off cnt s).1.free+(Eu off cnt s).1.M.length+(Eu off cnt s).1.nm.toNat=s.free+s.M.length+s.nm.toNat/\s.M.length<=(Eu off cnt s).1.M.length:=by
 unfold Eu;dsimp only;split
 ·exact⟨rfl,ix _⟩
 ·split
  ·exact⟨rfl,ix _⟩
  ·split
   ·rename_i h;split
    ·dsimp only;rw[h.2];simp;omega
    ·dsimp only;rw[h.2];simp;omega
   ·dsimp only;simp;omega
theorem Nl {off cnt:Nat}:∀{f:Nat}{s:RS},(Jp off cnt f s).free+(Jp off cnt f s).M.length+(Jp off cnt f s).nm.toNat=s.free+s.M.length+s.nm.toNat
 |0,s=>rfl
 |f+1,s=>by
  rw[Jp];split
  ·split
   ·rw[Nl,Na.1]
   ·exact Na.1
  ·rfl
theorem FO.write (hs:sp<=13) (fs:FS sp B G) (f:FO sp B num r free) (hg:G num=r.g) (hn:num<=3) (ho:off+oc.length<=672) (hc:Cc oc) (hR:Jp off oc.length 6 (Rx free r)=R) (w:WR sp B G num off oc R B1 g) (hd:R.done<=oc.length) (sz:Nat) (hsz:sz=if 0<R.done/\r.own.length<off+R.done then off+R.done else r.own.length) (hB:B'=upd B1 (Bs num) (Cj (B1 (Bs num)) (rat num) 2 1 sz g)){r':FR}(e1:r'.g=g) (e2:r'.own=Gb r.own off (sliceOf oc 0 R.done)) (e3:r'.M=R.M) (e4:r'.nm=R.nm):
  FS sp B' (Gu G num g)/\FO sp B' num r' R.free/\FI B B' G num/\r'.own.length=sz:=by
 have dj:∀b:Int,13<=b->B' b=B1 b:=λb hb=>by rw[hB];unfold upd Bs;rw[T8 ⋯]
 obtain⟨f1,f2⟩:=w.fs.low dj;have gs:Gu G num g num=g:=UQ rfl;have so:(sliceOf oc 0 R.done).length=R.done:=by unfold sliceOf;simp;omega
 have sg:∀j,j<R.done->(sliceOf oc 0 R.done).getD j 0=oc.getD j 0:=λj hj=>by unfold sliceOf;rw[Ds,Di,UQ ⋯,tY]
 have len:r'.own.length=sz:=by
  rw[e2,hsz];by_cases h:sliceOf oc 0 R.done=[]
  ·have:R.done=0:=by rw[←so,h];rfl
   rw[Gb,UQ h,T8 ⋯]
  ·have:R.done≠0:=λh0=>h (pA.mp (by rw[so];exact h0))
   rw[O6 h,so];split<;>omega
 have hl:=f.len;have szl:sz<=672:=by rw[hsz];split<;>omega
 refine⟨f1,⟨⟨?_,λi hi=>by rw[e1];show i∈r'.M↔_;rw[e3];exact w.rel.m i hi,by rw[e1];show r'.nm=true↔_;rw[e4];exact w.rel.n,by show r'.M.Nodup;rw[e3];exact w.rel.d,by show ∀i∈r'.M,i<14;rw[e3];exact w.rel.l⟩,λq hq=>?_,?_,by omega,?_⟩,⟨λm hm q hq=>?_,λm hm hne k l s' g' rw'=>?_,by rw[hB];unfold upd Bs;rw[T8 ⋯];exact w.lo 1 ⋯⟩,len⟩
 ·show R.free=_;rw[dj 13 ⋯];exact w.rel.f
 ·have c:=(f2 num q hq).trans (w.ct num q hq);rw[gs] at c;rw[e1,c,e2,P4,so];by_cases h:off<=q/\q<off+R.done
  ·rw[UQ ⟨rfl,h⟩,UQ h,sg _ ⋯]
  ·rw[T8 (λe=>h e.2),T8 h,hg];exact f.ct q hq
 ·rw[e2];exact PY f.oc (hc.sl _ _)
 ·rw[e1,len,hB];refine Row.own (w.bk _) ⋯ ⋯ ⋯ λi hi=>?_
  have:=(w.fs.f num).r i hi
  rw[gs] at this;omega
 ·have c:=(f2 m q hq).trans (w.ct m q hq);rw[T8 (λe=>hm e.1)] at c;rw[show Gu G num g m=G m from T8 hm] at c;exact c
 ·rw[hB];exact (rw'.low hm λb h h'=>w.lo b h').ne hne hm hn (w.bk _)
theorem FO.cut (hs:sp<=13) (fs:FS sp B G) (f:Rel sp (Rx free r) B r.g) (hg:G num=r.g) (hn:num<=3) (c:Cl sp B (KS (G num) js) B1) (j1:js.Nodup) (j2:∀j∈js,j<15) (j3:∀j,j<15->G num j≠0->j∈js) (bk:∀k,Ci (B1 k)){kd lk:Int}(h1:0<=kd/\kd<65536) (h2:0<=lk/\lk<65536) (hB:B'=upd B1 (Bs num) (Cj (B1 (Bs num)) (rat num) kd lk 0 g0)):
  FS sp B' (Gu G num g0)/\FI B B' G num/\cf (B' 13) sp=free+r.M.length+r.nm.toNat/\Row B' num kd lk 0 g0/\∀q,q<672->CT B' g0 q=0:=by
 have dj:∀b:Int,13<=b->B' b=B1 b:=λb hb=>by rw[hB];unfold upd Bs;rw[T8 ⋯]
 obtain⟨k1,k2⟩:=fs.clear hs c j2;obtain⟨f1,f2⟩:=k1.low dj;have kl:=UC (g:=G num) (by rw[hg];exact f) j1 j2 j3;refine⟨f1,⟨λm hm q hq=>?_,λm hm hne k l s' g' rw'=>?_,by rw[hB];unfold upd Bs;rw[T8 ⋯];exact c.o 1 ⋯⟩,?_,?_,λq hq=>rfl⟩
 ·have e:=(f2 m q hq).trans (k2 m q hq);rw[T8 hm,show Gu G num g0 m=G m from T8 hm] at e;exact e
 ·rw[hB];exact (rw'.low hm λb h h'=>c.o b ⋯).ne hne hm hn (bk _)
 ·rw[dj 13 ⋯,c.c,kl];have:=f.f;dsimp only at this ⊢;omega
 ·rw[hB];exact Row.own (bk _) h1 h2 ⋯ λi hi=>show (0:Int)<=0/\(0:Int)<4294967296 by decide
end
theorem O4:tell 3="argument":=by decide
theorem Sb:tell 4="disk":=by decide
theorem TV:tell 5="room":=by decide
section
variable {k:Nat}
theorem FI.then {sp:Nat}{B1 B2:BW}(fs:FS sp B1 (Gu G num g)) (a:FI B B1 G num) (ag:Ag B1 B2):FI B B2 G num:=
 a.trans ⟨λm hm q hq=>by have:=(fs.ag ag).2 m q hq;rwa [show Gu G num g m=G m from T8 hm] at this,λm hm _ _ _ _ _ r=>r.ag ag hm,ag 1 ⋯⟩
theorem Rel.len {sp:Nat}{s:RS}(r:Rel sp s B g):s.M.length<=14:=by
 have:=sub_len (m:=List.range 14) r.d λx hx=>pd.mpr (r.l x hx)
 simpa using this
abbrev lF (p:Pm) (ns s tb num:Nat) (r:FR) (F:HL):HL:=(ns,Bu p s tb)::(s,CM p.sp)::(fc ns num r++F)
theorem Mr (o:Ow (JP p B [] 0 []) (lF p ns s tb num r F) H) (fs:FS p.sp B G) (hg:G num=r.g) (f:FO p.sp B num r free) (hn:num<=3) (hk:k<1000000000000) (q:∀H B' r' dP,r'.nd=r.nd->r'.md=r.md->FS p.sp B' (Gu G num r'.g)->FO p.sp B' num r' dP->FI B B' G num->dP+r'.M.length+r'.nm.toNat=free+r.M.length+r.nm.toNat->Ow (JP p B' [] 0 []) (lF p ns s tb num r' F) H->Q (.int dP) H):
  W (call (n+13) (.fn 46 0) [.ref ns,.ref r.nd,.ref r.md,.int free,.int k] H) Q E:=by
 have o0:=o;have hs:=JP.sp o;rw[MH ["node","n","octets","offset"] [("nodes",.ref ns,false),("node",.ref r.nd,true),("model",.ref r.md,false),("free",.int free,false),("n",.int k,true)] rfl rfl rfl rfl rfl];simp! only[];refine o.hn λc1 H o=>?_;refine o.hn λc2 H o=>?_;refine o.hn λc3 H o=>?_;refine o.hn λc4 H o=>?_;simp! only[o.at 3 rfl];refine o.hs 3 rfl λH o=>?_;simp! only[o.at 2 rfl];refine o.hs 2 rfl λH o=>?_;rw[Qd];refine seq λA hA=>?_;by_cases h6:k%7=6
 ·have e1:(k:Int)%7=6:=by omega
  simp! only[o.at 2 rfl,o.at 3 rfl,e1,(by decide:(0:Int)<7),dT];refine BC (F:=(s,CM p.sp)::((r.nd,NO ns num 1 2 1 r.own.length r.pl)::(r.pl,gP r.g)::(r.md,MD r.own r.bl r.nm)::(r.bl,.list (ML r.M))::(c1,.cell (some (.ref r.nd)))::F)) (o.sel (A:=[_,_,_,_,_,_,_,_,_,_]) [4,5,6,7,8,9,3] ⋯) λH o=>?_;rw[Ae rfl rfl];simp! only[o.at 6 rfl,o.at 2 rfl];refine (MG (o.at 0 rfl) (o.at 2 rfl)).mpr ?_;rw[←hg] at o;refine truncate o fs (by simp) hn ⋯ ⋯ λH B1 J1 dR js j1 j2 j3 c jl o=>?_;simp! only[];refine⟨_,_,_,o,λB2 H ag o3=>?_⟩;have gO:=JP.b o0;have gw:∀k,Ci (B1 k):=λk=>by
   by_cases e:k=13
   ·subst e
    have:=JP.b o 13
    rwa [upd,T8 (by unfold Bs;omega)] at this
   ·rw[c.o k e];exact gO k
  obtain⟨f1,f2,f3,f4,f5⟩:=FO.cut (JP.sp o0).2 fs f.rel hg hn c j1 j2 j3 gw (kd:=2) (lk:=1) ⋯ ⋯ rfl;have f6:=f4.ag ag hn;obtain⟨a1,a2⟩:=f1.ag ag;have e3:(free:Int)+r.M.length+(if r.nm then 1 else 0)=((free+r.M.length+r.nm.toNat:Nat):Int):=by cases r.nm<;>simp
  simp! only[IH (o3.at 4 rfl),MZ (o3.at 4 rfl),o3.at 5 rfl,eP,Ti];refine o3.hn λiO H o3=>?_;simp! only[o3.at 5 rfl,KX,Ti,qH,ew];refine o3.hs 5 rfl λH o3=>?_;simp! only[o3.at 5 rfl,ew];refine o3.hs 5 rfl λH o3=>?_;simp! only[o3.at 5 rfl,ew];refine o3.hs 5 rfl λH o3=>?_;simp! only[eP,e3];refine q H B2 ⟨r.nd,dR,r.md,iO,g0,[],[],false⟩ _ rfl rfl a1 ⟨⟨?_,λi hi=>?_,?_,List.Pairwise.nil,(λi hi=>by cases hi)⟩,λq hq=>?_,(λx hx=>by cases hx),el _,f6⟩ (f2.trans ⟨λm hm q hq=>?_,λm hm _ _ _ _ _ r=>r.ag ag hm,ag 1 ⋯⟩) (by simp) (o3.sel (A:=[_,_,_,_,_,_,_,_]) [1,2,3,4,5,0] ⋯)
  ·rw[ag.hi 13 ⋯];exact f3.symm
  ·exact rR (by simp) (λh=>h rfl)
  ·exact rR (by simp) (λh=>h rfl)
  ·rfl
  ·have:=a2 m q hq
   rwa [show Gu G num g0 m=G m from T8 hm] at this
 ·have e1:¬(k:Int)%7=6:=by omega
  have e2:(k:Int) / 7=((k / 7:Nat):Int):=by omega
  simp! only[o.at 2 rfl,e1,(by decide:(0:Int)<7),dq];apply hA;clear hA A;refine seq λA hA=>?_;simp! only[o.at 2 rfl,UZ (o.at 8 rfl),e2,(by decide:(0:Int)<7),(by decide:(7:Int)<1073741824)];refine Qo o (by have:=f.len;omega) λv H L hv o=>?_;have hp:(Iz r.own.length (k / 7)).2<=250:=by
   unfold Iz;dsimp only;split
   ·dsimp only;omega
   ·split
    ·dsimp only;omega
    ·split
     ·dsimp only;omega
     ·split
      ·dsimp only;omega
      ·split<;>dsimp only<;>omega
  generalize Iz r.own.length (k / 7)=pl at*;obtain⟨off,cnt⟩:=pl;dsimp only at hv hp;have rest:∀loc H,lk "nodes" loc=some (.ref ns)->lk "model" loc=some (.ref r.md)->lk "free" loc=some (.int free)->lk "count" loc=some (.int cnt)->Ow (JP p B [] 0 []) ((c4,.cell (some (.int off)))::(c3,.cell none)::(c2,.cell (some (.int k)))::(c1,.cell (some (.ref r.nd)))::lF p ns s tb num r F) H->A loc H:=by
   intro loc H l1 l2 l3 l4 o;apply hA;clear hA A;have c0:(cnt:Int).natAbs<=lid:=by unfold lid;omega
   simp! only[↓AK l4,c0];refine Da (λi acc loc h=>h=H/\acc=((List.range i).map λ(j:Nat)=>1+((k:Int)+5*(j:Int))%255).map .int) cnt ?_ ?_ _ 0 _ _ _ (by simp) (el _) ⟨rfl,rfl⟩
   ·rintro i acc loc h hi ⟨rfl,rfl⟩;refine⟨.int i,by rw[Do,UQ ⋯];congr 3;omega,?_⟩;simp! only[o.at 2 rfl,(by decide:(-1000000000000<(5:Int)/\(5:Int)<1000000000000)),(by decide:(0:Int)<255)];refine⟨by simp;unfold lid;omega,trivial,?_⟩;rw[sC,gL,gL];rfl
   ·rintro acc loc' h ⟨rfl,rfl⟩;refine⟨by rw[Do,T8 ⋯],?_⟩;have kq:((List.range cnt).map λ(j:Nat)=>1+((k:Int)+5*(j:Int))%255).length=cnt:=by simp
    have oco:Cc ((List.range cnt).map λ(j:Nat)=>1+((k:Int)+5*(j:Int))%255):=λx hx=>by
     obtain⟨j,_,rfl⟩:=eJ.mp hx;omega
    generalize ((List.range cnt).map λ(j:Nat)=>1+((k:Int)+5*(j:Int))%255)=oc at*;refine o.hn λgr H o=>?_;simp! only[o.at 0 rfl,o.at 2 rfl,Dv,oco.all];refine o.hs 2 rfl λH o=>?_;simp! only[↓AK l1];refine BC (F:=(s,CM p.sp)::(r.nd,NO ns num 1 2 1 r.own.length r.pl)::(r.pl,gP r.g)::(r.md,MD r.own r.bl r.nm)::(r.bl,.list (ML r.M))::(c4,.cell (some (.int off)))::(c3,.cell (some (.bytes oc)))::(c2,.cell (some (.int k)))::(c1,.cell (some (.ref r.nd)))::F) (o.sel (A:=[_,_,_,_,_,_,_,_,_,_,_]) [5,6,7,8,9,10,1,2,3,4] ⋯) λH o=>?_;rw[Ae rfl rfl]
    change W (AU _ _ [("offset",c4),("octets",c3),("node",c1)] [] H) _ _
    simp! only[o.at 9 rfl,o.at 6 rfl,o.at 7 rfl,o.at 2 rfl];refine (R9 (o.at 0 rfl) (o.at 2 rfl)).mpr ?_;by_cases hneg:off<0
    ·refine OE o hneg ⟨.inl rfl,B,[],_,o,λB2 H ag o=>?_⟩;simp! only[O4,hneg,o.at 6 rfl,↓MR,↓AK l3,dT];exact q H B2 r free rfl rfl (by rw[←hg,Du];exact (fs.ag ag).1) (f.ag fs hg ag hn) (FI.ag fs ag) rfl (o.sel (A:=[_,_,_,_,_,_,_,_,_,_]) [0,1,2,3,4,5] ⋯)
    ·obtain⟨of,rfl⟩:=mi (Int.not_lt.mp hneg);by_cases hbig:of+cnt<=672
     ·have c2:¬(672:Int)<(of:Int)+cnt:=by omega
      rw[←hg] at o;refine Ma (hold:=1) (kind:=2) (links:=1) (size:=r.own.length) (s0:=Rx free r) o fs ⋯ oco hn (by rw[hg];exact f.rel) rfl rfl rfl rfl rfl λH B1 J1 g wr hd o=>?_;refine⟨_,_,_,o,λB2 H ag o=>?_⟩;simp! only[hneg,c2,o.at 6 rfl,dq,↓AK l2,↓AK l3,↓AK l4];have hR:Jp of oc.length 6 (Rx free r)=Jp of oc.length 6 (Rx free r):=rfl;generalize hRR:Jp of oc.length 6 (Rx free r)=R at*;obtain⟨g1,g2,g3,g4⟩:=FO.write (r':=⟨r.nd,r.pl,r.md,r.bl,g,Gb r.own of (sliceOf oc 0 R.done),R.M,R.nm⟩) hs.2 fs f hg hn ⋯ oco hRR wr hd _ rfl rfl rfl rfl rfl rfl;have so:(sliceOf oc 0 R.done).length=R.done:=by unfold sliceOf;simp;omega
      refine PK (s0:=Rx free r) (R:=R) (off:=of) (cnt:=cnt) (o.sel (A:=[_,_,_,_,_,_,_,_,_,_]) [4,5,0,1,2,3,6,7,8,9] ⋯) ⋯ rfl rfl rfl rfl f.rel.len (by rw[←kq];exact hRR) λH o=>?_;have c3:(0:Int)<=(R.done:Int):=by omega
      simp! only[KX,Ti,↓AK l2,o.at 6 rfl,o.at 7 rfl,c3,eD];refine R1 (off:=of) o (by rw[so];omega) f.len λH o=>?_;simp! only[↓MR,dT];refine q H B2 ⟨r.nd,r.pl,r.md,r.bl,g,Gb r.own of (sliceOf oc 0 R.done),R.M,R.nm⟩ R.free rfl rfl (g1.ag ag).1 (g2.ag g1 (UQ rfl) ag hn) (FI.then g1 g3 ag) ?_ ?_
      ·rw[←hRR];exact Nl
      ·rw[←g4] at o;exact o.sel (A:=[_,_,_,_,_,_,_,_,_,_]) [2,3,4,5,0,1] ⋯
     ·have c2:(672:Int)<(of:Int)+cnt:=by omega
      refine N6 o ⋯ ⟨.inr (.inr rfl),B,[],_,o,λB2 H ag o=>?_⟩;simp! only[TV,hneg,c2,o.at 6 rfl,↓MR,↓AK l3,↓AK l4,dT,dq];exact q H B2 r free rfl rfl (by rw[←hg,Du];exact (fs.ag ag).1) (f.ag fs hg ag hn) (FI.ag fs ag) rfl (o.sel (A:=[_,_,_,_,_,_,_,_,_,_]) [0,1,2,3,4,5] ⋯)
  rcases hv with ⟨rfl,rfl⟩|⟨a,rfl,rfl⟩
  ·simp! only[KX,Ti,o.at 0 rfl];refine o.hs 0 rfl λH o=>?_;simp! only[];exact rest _ _ (by simp [AD,ofString_eq]) (by simp [AD,ofString_eq]) (by simp [AD,ofString_eq]) (by simp [AD,ofString_eq]) o
  ·simp! only[KX,Ti,o.at 0 rfl,o.at 1 rfl];refine o.hs 1 rfl λH o=>?_;simp! only[];exact rest _ _ (by simp [AD,ofString_eq]) (by simp [AD,ofString_eq]) (by simp [AD,ofString_eq]) (by simp [AD,ofString_eq]) o.drop
end
section
variable {k:Nat}
theorem LK (o:Ow (JP p B [] 0 []) (lF p ns s tb num r F) H) (fs:FS p.sp B G) (hg:G num=r.g) (f:FO p.sp B num r free) (q:∀H,Ow (JP p B [] 0 []) (lF p ns s tb num r F) H->Q (.bool true) H):W (call (n+8) (.fn 47 0) [.ref r.nd,.ref r.md,.int num,.int k] H) Q E:=by
 rw[AV [("node",.ref r.nd),("model",.ref r.md),("number",.int num),("n",.int k)] rfl rfl rfl rfl rfl];have fi:Fi p.sp B r.g:=hg▸fs.f num;have st:=VA (n:=n+6) (o.at 2 rfl);have et:Cv [.int 2,.int num,.int 1,.int r.own.length] [.int 2,.int num,.int 1,.int r.own.length]=some true:=by
  have:=EX (a:=[2,(num:Int),1,(r.own.length:Int)]) (b:=[2,(num:Int),1,(r.own.length:Int)])
  rwa [qy rfl] at this
 have e1:(k:Int)%690=((k%690:Nat):Int):=by omega
 have e2:(k:Int) / 690%120=((k / 690%120:Nat):Int):=by omega
 have hl:=f.len;have s1:sliceOf r.own 0 (0+700)=r.own:=by unfold sliceOf;rw[qO ⋯];rfl
 have s2:sliceOf r.own r.own.length (r.own.length+9)=[]:=by unfold sliceOf;apply qi;simp
 simp! only[UZ (o.at 4 rfl),o.at 2 rfl,st,KX,Ti,et];refine (HT (o.at 0 rfl) (o.at 2 rfl)).mpr ?_;refine Gq (off:=0) (cnt:=700) o fi hl f.ct λH o=>?_;rw[s1];have c1:(0:Int)<=((k%690:Nat):Int):=by omega
 have c2:(0:Int)<=((k%690:Nat):Int)+((k / 690%120:Nat):Int):=by omega
 have t2:(((k%690:Nat):Int)+((k / 690%120:Nat):Int)).toNat=k%690+k / 690%120:=by omega
 simp! only[dT,KX,Ti,e1,e2,(by decide:(0:Int)<690),(by decide:(690:Int)<1073741824),(by decide:(0:Int)<120),o.at 2 rfl];refine (HT (o.at 0 rfl) (o.at 2 rfl)).mpr ?_;refine Gq (off:=k%690) (cnt:=k / 690%120) o fi hl f.ct λH o=>?_;simp! only[e1,e2,c1,c2,t2,eD,dT,o.at 2 rfl];refine (HT (o.at 0 rfl) (o.at 2 rfl)).mpr ?_;refine Gq (off:=r.own.length) (cnt:=9) o fi hl f.ct λH o=>?_;rw[s2];simp! only[qH,dT];exact q _ o
end
section
variable {sp dk:Nat}{w:Int}{U:BL}{bd:Expr}{sc:Scope}
theorem BT (hd:W (call n (.clo bd sc cs) [] H) (λ_ h=>Q (.bool false) h) (λc h=>(c=3∨c=4)/\Q (.bool true) h)):W (call (n+1) (.fn 48 0) [.clo bd sc cs] H) Q E:=by
 rw[AV [("deed",.clo bd sc cs)] rfl rfl rfl rfl rfl];simp! only[];refine Qs hd (λv H h=>?_) (λc H h=>?_)
 ·simp! only[];exact h
 ·obtain⟨rfl|rfl,h⟩:=h
  ·rw[DW rfl,UQ rfl];simp! only[];exact h
  ·rw[DW rfl,T8 ⋯,DW rfl,UQ rfl];simp! only[];exact h
theorem BB.ow (o:BB H F):Ow (λC=>C=[]) F H:=⟨[],rfl,o⟩
theorem Ow.own (o:Ow (λC=>C=[]) F H):BB H F:=by obtain⟨_,rfl,o⟩:=o;exact o
def IA (sp:Nat):List Int:=Jm [270544960,14+sp,14+sp-14,4,9,2,11,13,2] 0 (List.replicate 48 0)
def TU:List Int:=[255,63]++List.replicate 46 0
def K0 (sp:Nat):BL:=[(1,IA sp),(13,TU)]
theorem HM (sp:Nat):Ci (IA sp):=⟨by unfold IA;rw[Jw];simp,Cc.Jm (Cc.zeros _)⟩
theorem NE:Ci TU:=⟨rfl,λx hx=>by
 rcases eI.mp hx with h|h
 ·simp at h;omega
 ·rw[tC h];omega⟩
theorem QG (o:BB H F) (h:2<=sp) (h':sp<=13) (q:∀H dk kp lt uf w f,BB H (DC dk kp lt uf (14+sp) w f (K0 sp) (K0 sp) []++F)->Q (.ref dk) H):W (call (n+4) (.fn 40 0) [.int sp] H) Q E:=by
 rw[AV [("spare",.int sp)] rfl rfl rfl rfl rfl];simp! only[];refine o.hn λs H o=>?_;refine C5 (o.at 0 rfl) ⋯ ⋯ (λ_=>?_) (λh=>absurd ?_ h)
 ·have e:=Tl sp ⋯ ⋯;unfold SP at e;rw[e];replace o:=o.set 0 rfl (CM sp);generalize hH:H.set s _=H at o;simp! only[];refine o.hn λdk H o=>?_;refine JU o ⋯ λH kp lt uf o=>?_;simp! only[o.at 0 rfl,o.at 4 rfl];refine GI (o.at 4 rfl) ⋯ ⋯ (λx hx=>?_) λj1 j2=>?_
  ·simp at hx;omega
  ·replace o:=(o.Qq j1).Qq j2;generalize H++[j1]++[j2]=H at o;obtain⟨H2,e2,o⟩:=Fk (n:=n+1) (k:=1) (x:=IA sp) o ⋯ ⋯ (HM sp).1 ⋯ ⋯;have iS:call (n+3) (.fn 32 4) [.ref dk,.int 1,.bytes (Jm [270544960,14+(sp:Int),14+(sp:Int)-14,4,9,2,11,13,2] 0 (List.replicate (48:Int).toNat 0))] H= .ok .none H2:=e2;simp! only[iS,o.at 0 rfl,o.at 4 rfl,KX,Ti];refine o.hn λl H o=>?_;have ai:Bt [V.int 255,V.int 63]=some [255,63]:=rfl;have ao:([255,63]:List Int).all A9=true:=by decide
   simp! only[o.at 0 rfl,o.at 1 rfl,ai,ao,(by decide:(0:Int)<=46),(by decide:(46:Int)<=1000000),lL,KX,Ti,(by decide:(0+1+1+Int.toNat 46<=lid))];obtain⟨H2,e2,o⟩:=Fk (n:=n+1) (k:=13) (x:=TU) (o.sel (A:=[_,_,_,_,_,_]) [1,2,3,4,5] ⋯) ⋯ ⋯ NE.1 (show 1<lid by decide) (show 1<lid by decide);have iS:call (n+3) (.fn 32 4) [.ref dk,.int 13,.bytes ([255,63]++List.replicate (Int.toNat 46) 0)] H= .ok .none H2:=e2;simp! only[iS,o.at 0 rfl];refine Hf o (show 2<lid by decide) λH eU o=>?_;simp! only[];have eL:Ar (13:Int) TU (Ar 1 (IA sp) [])=K0 sp:=by simp [Ar,K0]
   have eK:app ([]++[((1:Int),IA sp)]++[(13,TU)]) []=K0 sp:=by simp [app,Ar,K0]
   rw[eL,eK] at o;exact q _ dk kp lt eU _ _ (o.sel (A:=[_,_,_,_,_]) [0,1,2,3] ⋯)
 ·have r2:Hu 2=24:=by decide
  have b2:P0 48 4 9 2=13:=by decide
  refine⟨⟨by decide,by rw[r2];decide,by decide⟩,by decide,⟨by decide,by decide,by omega⟩,?_⟩;unfold NM;rw[b2];omega
theorem dB:∀sp:Nat,sp<14->wv (IA sp) 0=270544960/\wv (IA sp) 4=14+(sp:Int)/\wv (IA sp) 12=4/\wv (IA sp) 16=9/\wv (IA sp) 32=2/\Qy (IA sp)=[270544960,14+(sp:Int),sp,4,9,2,11,13,2]:=by decide+kernel
theorem Kl (o:BB H (DC dk kp lt uf (14+sp) w f K K []++F)) (h:2<=sp) (h':sp<=13) (hK:Lb K 1=IA sp) (kn:(K.map (·.1)).Nodup) (kr:∀q∈K,0<=q.1/\q.1<14+sp) (bk:∀k,Ci (Lb K k)) (q:∀H p ns s tb,p.sp=sp->p.dk=dk->Ow (JP p (Lb K) [] 0 []) ((ns,Bu p s tb)::(s,CM p.sp)::(tb,.U' [])::F) H->Q (.ref ns) H):W (call (n+5) (.fn 41 0) [.ref dk] H) Q E:=by
 rw[AV [("disk",.ref dk)] rfl rfl rfl rfl rfl];have dr:=JC (n:=n+2) (k:=1) (o.at 0 rfl) (o.at 2 rfl) ⋯ ⋯;rw[hK] at dr;simp! only[o.at 0 rfl,dr];have sl:(IA sp).length=48:=(HM sp).1;obtain⟨w0,w1,w3,w4,w8,ws⟩:=dB sp ⋯;have se:=Tl sp ⋯ ⋯;unfold SP at se;have eq:Qy (IA sp)=RU (IA sp).length (wv (IA sp) 4) (wv (IA sp) 12) (wv (IA sp) 16) (wv (IA sp) 32):=by
  have b2:P0 48 4 9 2=13:=by decide
  have d2:NM 48 (14+sp) 4 9 2=14:=by unfold NM;rw[b2];omega
  rw[ws,sl,w1,w3,w4,w8];unfold RU;show _=[270544960,14+(sp:Int),14+(sp:Int)-NM 48 (14+sp) 4 9 2,4,9,2,2+9,P0 48 4 9 2,2];rw[b2,d2,show (14:Int)+sp-14=sp by omega];rfl
 refine Fj (x:=IA sp) (by rw[sl];decide) (by rw[sl];decide) (HM sp).2 o.ow (by rw[w8];decide) (λ_=>?_) (λhq H s o=>?_) λhq=>absurd eq hq
 ·rw[sl,w1,w3,w4,w8];have r2:Hu 2=24:=by decide
  have b2:P0 48 4 9 2=13:=by decide
  refine⟨⟨by decide,by rw[r2];decide,by decide⟩,by decide,⟨by decide,by decide,by omega⟩,?_⟩;show ¬(14+(sp:Int)<=NM 48 (14+sp) 4 9 2);unfold NM;rw[b2];omega
 ·rw[sl,w1,w3,w4,w8] at o;replace o:=o.own;have ku:((48:Nat):Int)=48:=rfl;rw[ku,se] at o;simp! only[];refine o.hn λc H o=>?_;refine Mu (F:=(s,CM sp)::F) (o.sel (A:=[_,_,_,_,_,_]) [0,2,3,4,5,1] ⋯) λH rw' bn o=>?_;simp! only[o.at 7 rfl];refine o.hn λj H o=>?_;refine Ke (dk:=dk) (c:=c) (rw':=rw') (bn:=bn) (sp:=sp) (kp:=kp) (lt:=lt) (uf:=uf) (w:=w) (f:=f) (o.sel (A:=[_,_,_,_,_,_,_,_,_]) [0,1,4,2,3,5,6,7,8] ⋯) λH nu no o=>?_;simp! only[];refine Ow.hn (P:=JP ⟨dk,c,rw',bn,j,sp⟩ (Lb K) [] 0 []) (F:=(s,CM sp)::F) ?_ λns H o=>?_
  ·refine⟨jC ⟨dk,c,rw',bn,j,sp⟩ nu no 0 0 [] []++cC ⟨dk,c,rw',bn,j,sp⟩ kp lt uf w f 0 0 0 K K [] [] [] [],⟨nu,no,0,[],_,rfl,⟨λk=>rfl,ix _,List.Pairwise.nil,el _⟩,(λk hk=>nomatch hk),kp,lt,uf,w,f,0,0,0,K,K,[],[],[],[],rfl,?_⟩,o.sel (A:=[_,_,_,_,_,_,_,_,_,_,_]) [0,1,2,3,5,6,4,7,8,9,10] ⋯⟩;exact⟨rfl,ix _,kn,kr,.refl _,.refl _,List.Pairwise.nil,el _,(λb hb=>nomatch hb),(λk hk=>nomatch hk),λk _=>rfl,(λk hk=>nomatch hk),bk,el _,⟨h,h'⟩,ix _⟩
  ·refine M3 (p:=⟨dk,c,rw',bn,j,sp⟩) (s:=s) o λH tb o=>?_;simp! only[];exact q _ ⟨dk,c,rw',bn,j,sp⟩ ns s tb rfl rfl (o.sel (A:=[_,_,_]) [0,2,1] ⋯)
end
def GG (st:Nat) (rs:List FR):Nat->Nat->Int:=λn=>if n<=st then g0 else match rs[n-st-1]? with|some r=>r.g|none=>g0
def MA:List FR->Nat
 |[]=>0
 |r::rs=>r.M.length+r.nm.toNat+MA rs
structure LB (st sp:Nat) (B:BW) (rs:List FR) (free:Nat):Prop where
 fs:FS sp B (GG st rs)
 fo:∀j r,rs[j]? =some r->FO sp B (st+1+j) r free
 rf:∀m,1<=m->m<=3->(m<=st∨st+rs.length<m)->∃l s g,Row B m 0 l s g
 sum:free+MA rs=sp
 fr:free=cf (B 13) sp
 len:st+rs.length<=2
 sb:B 1=IA sp
structure TB (st:Nat) (T:List (Int×V)) (rs:List FR):Prop where
 nd:(T.map (·.1)).Nodup
 i:∀(j:Nat) r,rs[j]? =some r->Bm ((st+1+j:Nat):Int) T=some (.ref r.nd)
 o:∀m:Nat,m<=st∨st+rs.length<m->Bm m T=none
 l:T.length<=4
 l2:T.length<=st+rs.length
def G9 (ns:Nat):Nat->List FR->HL
 |_,[]=>[]
 |st,r::rs=>fc ns st r++G9 ns (st+1) rs
theorem Ce {k j:Int}(h:j≠k):∀{T:List (Int×α)},Bm j (Cw k T)=Bm j T
 |[]=>rfl
 |(i,w)::r=>by
  rw[Cw];split
  ·subst_vars;rw[Bm,T8 (λe=>h e.symm)]
  ·rw[Bm,Bm,Ce h]
theorem Ej {k:Int}:∀{T:List (Int×α)},(Cw k T).Sublist T
 |[]=>.refl _
 |(i,w)::r=>by
  rw[Cw];split
  ·exact .cons _ (.refl _)
  ·exact Ej.cons_cons _
theorem Fx {k:Int}:∀{T:List (Int×α)},(T.map (·.1)).Nodup->Bm k (Cw k T)=none
 |[],_=>rfl
 |(i,w)::r,n=>by
  rw[ij,gl] at n;rw[Cw];split
  ·subst_vars;exact Hj n.1
  ·rename_i h;rw[Bm,T8 h,Fx n.2]
variable {rs:List FR}
section
variable {sp:Nat}
theorem Nu:GG st (r::rs) (st+1)=r.g:=by
 unfold GG;rw[T8 ⋯,show st+1-st-1=0 by omega];rfl
theorem ST:Gu (GG st (r::rs)) (st+1) g0=GG (st+1) rs:=by
 funext n
 unfold Gu GG;by_cases h:n=st+1
 ·subst h;rw[UQ rfl,UQ (ix _)]
 ·rw[T8 h];by_cases h2:n<=st
  ·rw[UQ h2,UQ ⋯]
  ·rw[T8 h2,T8 ⋯,show n-st-1=(n-(st+1)-1)+1 by omega];rfl
theorem Dx (h:rs[j]? =some r):GG st rs (st+1+j)=r.g:=by
 unfold GG;rw[T8 ⋯,show st+1+j-st-1=j by omega,h]
theorem Uy {r':FR}(h:j<rs.length):Gu (GG st rs) (st+1+j) r'.g=GG st (rs.set j r'):=by
 funext n
 unfold Gu GG;by_cases e:n=st+1+j
 ·subst e;rw[UQ rfl,T8 ⋯,show st+1+j-st-1=j by omega,mv h]
 ·rw[T8 e];split
  ·rfl
  ·rw[qK ⋯]
theorem TB.tail (t:TB st T (r::rs)):TB (st+1) (Cw ((st+1:Nat):Int) T) rs:=by
 refine⟨qR (Ej.map _) t.nd,λj x hx=>?_,λm hm=>?_,lv Ej.length_le t.l,lv Ej.length_le (by have:=t.l2;rw[KX] at this;omega)⟩
 ·rw[Ce ⋯,show st+1+1+j=st+1+(j+1) by omega];exact t.i (j+1) x hx
 ·by_cases e:m=st+1
  ·subst e;exact Fx t.nd
  ·rw[Ce ⋯];exact t.o m (by simp;omega)
theorem FO.PF (f:FO sp B m r free) (o:FI B B' G num) (hg:G m=r.g) (h:m≠num) (hm:m<=3) (e:dP=cf (B' 13) sp):FO sp B' m r dP:=
 ⟨⟨e,f.rel.m,f.rel.n,f.rel.d,f.rel.l⟩,λq hq=>by rw[←hg,o.ct m h q hq,hg];exact f.ct q hq,f.oc,f.len,o.row m hm h _ _ _ _ f.row⟩
theorem LB.tail (l:LB st sp B (r::rs) free) (o:FI B B' (GG st (r::rs)) (st+1)) (fs:FS sp B' (GG (st+1) rs)) (hr:∃k s g,Row B' (st+1) 0 k s g) (e:dP=cf (B' 13) sp) (hf:dP=free+r.M.length+r.nm.toNat):LB (st+1) sp B' rs dP:=by
 have ll:=l.len;rw[KX] at ll;refine⟨fs,λj x hx=>?_,λm h1 h3 hm=>?_,?_,e,by omega,o.b1.trans l.sb⟩
 ·have hj:=(dt.mp hx).1;have f:=l.fo (j+1) x hx;rw[show st+1+(j+1)=st+1+1+j by omega] at f;refine f.PF o ?_ ⋯ ⋯ e;rw[show st+1+1+j=st+1+(j+1) by omega];exact Dx hx
 ·by_cases em:m=st+1
  ·subst em;exact hr
  ·obtain⟨k,s,g,hrw⟩:=l.rf m h1 h3 (by rw[KX];omega);exact⟨k,s,g,o.row m h3 em _ _ _ _ hrw⟩
 ·have:=l.sum;rw[MA] at this;omega
end
section
variable {k rl:Nat}
abbrev lG (p:Pm) (ns s tb st:Nat) (T:List (Int×V)) (rs:List FR) (F:HL):HL:=(ns,Bu p s tb)::(s,CM p.sp)::(tb,.U' T)::(G9 ns (st+1) rs++F)
theorem Row.put {kd lk:Int}(h1:0<=kd/\kd<65536) (h2:0<=lk/\lk<65536) (hn:num<=3) (bx:Ci (B (Bs num))){sp:Nat}(fs:FS sp B G) (hB:B'=upd B (Bs num) (Cj (B (Bs num)) (rat num) kd lk 0 g0)):
  FS sp B' G/\FI B B' G num/\Row B' num kd lk 0 g0/\B' 13=B 13:=by
 have dj:∀b:Int,13<=b->B' b=B b:=λb hb=>by rw[hB];unfold upd Bs;rw[T8 ⋯]
 obtain⟨f1,f2⟩:=fs.low dj;refine⟨f1,⟨λm _ q hq=>f2 m q hq,λm hm hne k l s g r=>?_,by rw[hB];unfold upd Bs;rw[T8 ⋯]⟩,?_,dj 13 ⋯⟩
 ·rw[hB];exact r.ne hne hm hn bx
 ·rw[hB];exact Row.own bx h1 h2 ⋯ λi hi=>show (0:Int)<=0/\(0:Int)<4294967296 by decide
theorem Lv (o:Ow (JP p B [] 1 []) ((ns,Bu p s tb)::(s,CM p.sp)::(r.nd,NO ns num 1 2 0 r.own.length r.pl)::(r.pl,gP r.g)::(tb,.U' T)::F) H) (fs:FS p.sp B G) (hg:G num=r.g) (f:Rel p.sp (Rx free r) B r.g) (hn:num<=3) (ht:Bm num T=some (.ref r.nd)) (q:∀H B' J' dR,FS p.sp B' (Gu G num g0)->FI B B' G num->Row B' num 0 0 0 g0->cf (B' 13) p.sp=free+r.M.length+r.nm.toNat->Ow (JP p B' J' 1 []) ((ns,Bu p s tb)::(s,CM p.sp)::(r.nd,NO ns num 0 0 0 0 dR)::(dR,gP g0)::(tb,.U' (Cw num T))::F) H->Q .none H):W (call (n+7) (.fn 27 7) [.ref ns,.ref r.nd] H) Q E:=by
 have gO:=JP.b o;have hs:=JP.sp o;rw[←hg] at o;refine Qm o ht fs (by simp) hn ⋯ λH B1 J1 dR js j1 j2 j3 c o=>?_;have ne:Bs num≠13:=by unfold Bs;omega
 have gw:∀k,Ci (B1 k):=λk=>by
  by_cases e:k=13
  ·subst e
   have:=JP.b o 13
   rwa [upd,T8 (Ne.symm ne),upd,T8 (Ne.symm ne)] at this
  ·rw[c.o k e];exact gO k
 obtain⟨f1,f2,f3,f4,f5⟩:=FO.cut hs.2 fs f hg hn c j1 j2 j3 gw (kd:=2) (lk:=0) ⋯ ⋯ rfl;have bx:Ci (upd B1 (Bs num) (Cj (B1 (Bs num)) (rat num) 2 0 0 g0) (Bs num)):=by unfold upd;rw[UQ rfl];exact (gw _).Cj _ _ _ _ _
 obtain⟨p1,p2,p3,p4⟩:=Row.put (kd:=0) (lk:=0) ⋯ ⋯ hn bx f1 rfl;refine q H _ _ dR p1 (f2.trans ⟨λm hm q hq=>?_,p2.row,p2.b1⟩) p3 (by rw[p4];exact f3) o
 have:=p2.ct m hm q hq
 rwa [show Gu G num g0 m=G m from T8 hm] at this
end
section
variable {k rl:Nat}
theorem LB.ag {st sp:Nat}{B B':BW}(l:LB st sp B rs free) (a:Ag B B'):LB st sp B' rs free:=
 ⟨(l.fs.ag a).1,λj r h=>(l.fo j r h).ag l.fs (Dx h) a (by have:=l.len;have:=(dt.mp h).1;omega),λm h1 h3 hm=>by
  obtain⟨k,s,g,r⟩:=l.rf m h1 h3 hm;exact⟨k,s,g,r.ag a h3⟩,l.sum,by rw[a.hi 13 ⋯];exact l.fr,l.len,(a 1 ⋯).trans l.sb⟩
theorem OR (o:Ow (JP p B [] 0 []) ((rl,.list (rs.map λr=>.ref r.nd))::lG p ns s tb 0 T rs F) H) (lb:LB 0 p.sp B rs free) (tt:TB 0 T rs) (hr:rs≠[]) (q:∀H,Q (.bool true) H):W (call (n+11) (.fn 51 0) [.ref ns,.ref rl,.int p.sp] H) Q E:=by
 rw[T7 "node" [("nodes",.ref ns),("rows",.ref rl),("spare",.int p.sp)] rfl rfl rfl rfl rfl];refine o.hn λcn H o=>?_;refine seq λA hA=>?_;simp! only[o.at 1 rfl];refine CH (λi loc h=>lk "nodes" loc=some (.ref ns)/\lk "spare" loc=some (.int p.sp)/\∃B T free F v,LB i p.sp B (rs.drop i) free/\TB i T (rs.drop i)/\Ow (JP p B [] 0 []) ((cn,.cell v)::(rl,.list (rs.map λr=>.ref r.nd))::lG p ns s tb i T (rs.drop i) F) h) rs.length ?_ ?_ _ 0 _ _ (by simp) (el _) ⟨rfl,rfl,B,T,free,F,none,lb,tt,o⟩
 ·rintro i loc h hi ⟨l1,l2,B,T,free,F,v,lb,tt,o⟩;refine⟨.ref rs[i].nd,by rw[Dc (o.at 1 rfl),fw,d6 hi];rfl,?_⟩;have ed:rs.drop i=rs[i]::rs.drop (i+1):=rD hi;rw[ed] at lb tt o;generalize rs[i]=r at*;have ll:=lb.len;rw[KX] at ll;have f:=lb.fo 0 r rfl;have ht:=tt.i 0 r rfl;rw[rQ] at f ht;simp! only[o.at 0 rfl];refine o.hs 0 rfl λH o=>?_;simp! only[o.at 0 rfl,o.at 5 rfl];refine o.hs 5 rfl λH o=>?_;simp! only[↓AK l1];refine BC (F:=(s,CM p.sp)::(r.nd,NO ns (i+1:Nat) 1 2 0 r.own.length r.pl)::(r.pl,gP r.g)::(tb,.U' T)::(cn,.cell (some (.ref r.nd)))::(rl,.list (rs.map λr=>.ref r.nd))::(G9 ns (i+1+1) (rs.drop (i+1))++F)) (o.sel (A:=[_,_,_,_,_,_,_,_,_]) [2,3,5,6,4,0,1] ⋯) λH o=>?_;rw[Ae rfl rfl]
  change W (AU _ _ [("node",cn)] [] H) _ _
  simp! only[o.at 5 rfl,o.at 2 rfl];refine (Nb (o.at 0 rfl) (o.at 2 rfl)).mpr ?_;refine Lv (num:=i+1) o lb.fs Nu f.rel ⋯ ht λH B1 J1 dR p1 p2 p3 p4 o=>?_;refine⟨_,_,_,o,λB2 H ag o=>?_⟩;rw[ST] at p1;have lA:=lb.tail p2 p1 ⟨_,_,_,p3⟩ rfl p4;have ti:=Fx (k:=((i+1:Nat):Int)) tt.nd;simp! only[o.at 5 rfl,o.at 2 rfl,o.at 0 rfl,o.at 4 rfl,↓AK l1,ti,fx];exact⟨l1,l2,B2,_,_,_,_,lA.ag ag,tt.tail,o.sel (A:=[_,_,_,_,_,_,_]) [5,6,0,1,4] ⋯⟩
 ·rintro loc h ⟨l1,l2,B,T,free,F,v,lb,tt,o⟩;refine⟨by rw[Dc (o.at 1 rfl),fA (by simp)],?_⟩;rw[Au];apply hA;clear hA A;rw[q7] at lb tt o;have hf:free=p.sp:=by have:=lb.sum;simpa [MA] using this
  have hn1:rs.length≠0:=λh=>hr (pA.mp h);have ll:=lb.len;have t1:=tt.o 1 (.inl ⋯);obtain⟨kk,ss,gg,lB⟩:=lb.rf 1 ⋯ ⋯ (.inl ⋯);simp! only[↓AK l1,o.at 2 rfl];refine Bz (o.sel (A:=[_,_,_,_,_]) [2,3,0,1,4] ⋯) λH o=>?_;have e1:((cf (B 13) p.sp:Nat):Int)=(p.sp:Int):=by rw[←lb.fr,hf]
  simp! only[e1,↓AK l1,↓AK l2,dT,o.at 0 rfl];refine Hg (m:=1) (o.sel (A:=[_,_,_,_,_]) [0,1,4,2,3] ⋯) ⋯ ⋯ t1 (by have:=tt.l;unfold lid;omega) lB (λh=>absurd rfl h) λ_ H o=>?_;simp! only[];exact q _
end
theorem cy:Cv [.str "disk",.str "disk",.str "disk",.str "argument"] [.str "disk",.str "disk",.str "disk",.str "argument"]=some true:=by decide+kernel
theorem L5 {X Y:List Int}:∀{n:Nat},(∀k,k<14+n->tk X k=tk Y k)->cf X n=cf Y n
 |0,_=>rfl
 |n+1,h=>by rw[cf,cf,L5 (λk hk=>h k ⋯),h _ ⋯]
section
variable {k rl:Nat}{r0:FR}
theorem LB.YQ {sp:Nat}(l:LB st sp B rs free) (hs:sp<=13) (dz:14<=k) (hk:tk (B 13) k=false) (e:∀b:Int,11<=b->b≠13->b≠k->B' b=B b) (t:∀j,j<384->tk (B' 13) j=tk (B 13) j) (b1:B' 1=B 1):LB st sp B' rs free:=by
 have at':∀m j,j<15->GG st rs m j≠0->B' (GG st rs m j)=B (GG st rs m j):=λm j hj h=>by
  have r:=l.fs.Ck hj h;refine e _ ⋯ ⋯ λh2=>?_
  have:=l.fs.t m j hj h
  rw[h2,eD,hk] at this;cases this
 have ct:∀m q,q<672->CT B' (GG st rs m) q=CT B (GG st rs m) q:=λm q hq=>by
  unfold CT;split
  ·rfl
  ·rename_i h;rw[at' m _ ⋯ h]
 have rw':∀{m:Nat}{k l' s:Int}{g:Nat->Int},m<=3->Row B m k l' s g->Row B' m k l' s g:=λhm r=>r.low hm λb h h'=>e b h ⋯ ⋯;have jh:cf (B' 13) sp=cf (B 13) sp:=L5 λj hj=>t j ⋯;refine⟨⟨λm=>⟨(l.fs.f m).r,λh j hj=>?_,(l.fs.f m).z⟩,λm j hj h=>?_,l.fs.d⟩,λj r hr=>?_,λm h1 h3 hm=>?_,l.sum,by rw[jh];exact l.fr,l.len,b1.trans l.sb⟩
 ·rw[at' m 14 ⋯ h];exact (l.fs.f m).w h j hj
 ·have r:=l.fs.Ck hj h;rw[t _ ⋯];exact l.fs.t m j hj h
 ·have f:=l.fo j r hr;have hj:=(dt.mp hr).1
  have:=l.len
  exact⟨⟨by rw[jh];exact f.rel.f,f.rel.m,f.rel.n,f.rel.d,f.rel.l⟩,λq hq=>by rw[←Dx hr,ct _ q hq,Dx hr];exact f.ct q hq,f.oc,f.len,rw' ⋯ f.row⟩
 ·obtain⟨a,b,c,d⟩:=l.rf m h1 h3 hm;exact⟨a,b,c,rw' h3 d⟩
theorem TB.back (t:TB st T rs) (h:st+rs.length<3):TB st (Cw ((3:Nat):Int) (Ar ((3:Nat):Int) v T)) rs:=by
 have n3:((3:Nat):Int)∉T.map (·.1):=λhm=>by
  have:=t.o 3 (.inr h)
  obtain⟨q,hq,e⟩:=eJ.mp hm
  have:=F7 (v:=q.2) t.nd (by rw[show (q.1,q.2)=q from rfl];exact hq)
  rw[e,t.o 3 (.inr h)] at this;cases this
 have nd:((Ar ((3:Nat):Int) v T).map (·.1)).Nodup:=by
  rw[Dr,T8 n3];exact kz.mpr ⟨t.nd,by simp,λa ha b hb e=>by cases eA.mp hb;subst e;exact n3 ha⟩
 have hl:(Cw ((3:Nat):Int) (Ar ((3:Nat):Int) v T)).length<=T.length:=by
  have h1:=(Gg (k:=((3:Nat):Int)) (v:=v) (D:=Ar ((3:Nat):Int) v T) (by rw[Bk,UQ rfl])).length_eq;have h2:=DT (k:=((3:Nat):Int)) (v:=v) (l:=T);rw[KX] at h1;omega
 refine⟨qR (Ej.map _) nd,λj x hx=>?_,λm hm=>?_,lv hl t.l,lv hl t.l2⟩
 ·have:=(dt.mp hx).1
  rw[Ce ⋯,Bk,T8 ⋯];exact t.i j x hx
 ·by_cases e:m=3
  ·subst e;exact Fx nd
  ·rw[Ce ⋯,Bk,T8 ⋯];exact t.o m hm
theorem SG (o:Ow P ((nd,NO ns num hold kind links size pl)::F) H) (q:∀H,Ow P ((nd,NO ns num (hold+1) kind links size pl)::F) H->Q (.ref nd) H):W (call (n+2) (.fn 27 6) [.ref ns,.ref nd] H) Q E:=by
 rw[AV [("self",.ref ns),("node",.ref nd)] rfl rfl rfl rfl rfl];simp! only[o.at 0 rfl];exact UJ o q
theorem Kd (o:Ow (JP p B [] 0 []) (lG p ns s tb 0 T (r0::rs) F) H) (lb:LB 0 p.sp B (r0::rs) free) (tt:TB 0 T (r0::rs)) (hl:rs.length=1) (q:∀H B T,LB 0 p.sp B (r0::rs) free->TB 0 T (r0::rs)->Ow (JP p B [] 0 []) (lG p ns s tb 0 T (r0::rs) F) H->Q (.bool true) H):W (call (n+11) (.fn 50 0) [.ref ns,.ref r0.nd,.int p.sp] H) Q E:=by
 rw[MH ["nodes","node","taken","third"] [("nodes",.ref ns,true),("node",.ref r0.nd,true),("spare",.int p.sp,false)] rfl rfl rfl rfl rfl];simp! only[];refine o.hn λc1 H o=>?_;refine o.hn λc2 H o=>?_;refine o.hn λc3 H o=>?_;refine o.hn λc4 H o=>?_;simp! only[o.at 3 rfl];refine o.hs 3 rfl λH o=>?_;simp! only[o.at 2 rfl];refine o.hs 2 rfl λH o=>?_;rw[U6,Qd];have sp:=JP.sp o;replace o:=o.sel (A:=[_,_,_,_,_,_,_,_,_,_,_]) [4,5,6,7,3,2,1,0,8,9,10] ⋯;replace o:Ow (JP p B [] 0 []) ((ns,Bu p s tb)::(s,CM p.sp)::(tb,.U' T)::(r0.nd,NO ns (0+1:Nat) 1 2 1 r0.own.length r0.pl)::(c1,.cell (some (.ref ns)))::(c2,.cell (some (.ref r0.nd)))::(c3,.cell none)::(c4,.cell none)::((r0.pl,gP r0.g)::(r0.md,MD r0.own r0.bl r0.nm)::(r0.bl,.list (ML r0.M))::(G9 ns 2 rs++F))) H:=o;generalize hZ:((r0.pl,gP r0.g)::(r0.md,MD r0.own r0.bl r0.nm)::(r0.bl,O.list (ML r0.M))::(G9 ns 2 rs++F))=Z at o;have t3:=tt.o 3 (.inr (by simp;omega));obtain⟨k3,s3,g3,iT⟩:=lb.rf 3 ⋯ ⋯ (.inr (by simp;omega));refine seq λA hA=>?_;simp! only[o.at 4 rfl];refine BT ?_;rw[Ae rfl rfl]
 change W (AU _ _ [("nodes",c1)] [] H) _ _
 simp! only[o.at 4 rfl,o.at 0 rfl];refine Gy (m:=0) o (.inl rfl) ⋯ λH o=>⟨.inr rfl,?_⟩;simp! only[o.at 4 rfl];refine BT ?_;rw[Ae rfl rfl]
 change W (AU _ _ [("nodes",c1)] [] H) _ _
 simp! only[o.at 4 rfl,o.at 0 rfl];refine Gy (m:=4) o (.inr ⋯) ⋯ λH o=>⟨.inr rfl,?_⟩;simp! only[o.at 4 rfl];refine BT ?_;rw[Ae rfl rfl]
 change W (AU _ _ [("nodes",c1)] [] H) _ _
 simp! only[o.at 4 rfl,o.at 0 rfl];refine Hg (m:=3) o ⋯ ⋯ t3 (by have:=tt.l;unfold lid;omega) iT (λh=>absurd rfl h) λ_ H o=>⟨.inr rfl,?_⟩;simp! only[dT,Int.reduceAdd];apply hA;clear hA A;refine CD (a:=[_]) λA hA=>?_;simp! only[o.at 4 rfl,o.at 0 rfl];refine Bz o λH o=>?_;simp! only[];rw[←lb.fr];apply hA;clear hA A;refine CD (a:=[_]) λA hA=>?_;simp! only[KX,Ti];refine o.hn λl0 H o=>?_;simp! only[o.at 0 rfl];replace o:=o.new (.cell none);generalize H++[O.cell none]=H1 at*;generalize H.length=nc at*;refine Da (λi acc loc h=>acc=List.replicate i (V.str "disk")/\∃v B,LB 0 p.sp B (r0::rs) free/\Ow (JP p B [] 0 []) ((nc,.cell v)::(l0,.list [.int 0,.int 13,.int (14+p.sp)])::(ns,Bu p s tb)::(s,CM p.sp)::(tb,.U' T)::(r0.nd,NO ns (0+1:Nat) 1 2 1 r0.own.length r0.pl)::(c1,.cell (some (.ref ns)))::(c2,.cell (some (.ref r0.nd)))::(c3,.cell none)::(c4,.cell none)::Z) h) 3 ?_ ?_ _ 0 _ _ _ (show 3<4 by decide) (el _) ⟨rfl,none,B,lb,o⟩
 ·rintro i acc loc h hi ⟨rfl,v,B,lb,o⟩;obtain⟨z,hz,hz1,hz2⟩:∃z:Nat,([V.int 0,.int 13,.int (14+p.sp)]:List V)[i]? =some (.int z)/\¬(14<=z/\z<14+p.sp)/\z<100:=by
   obtain rfl|rfl|rfl:i=0∨i=1∨i=2:=by omega
   ·exact⟨0,rfl,by omega,by omega⟩
   ·exact⟨13,rfl,by omega,by omega⟩
   ·exact⟨14+p.sp,rfl,by omega,by omega⟩
  refine⟨.int z,by rw[Dc (o.at 1 rfl),hz],?_⟩;simp! only[o.at 0 rfl];refine o.hs 0 rfl λH o=>?_;simp! only[o.at 6 rfl];refine BC (o.sel (A:=[_,_,_,_,_,_,_]) [2,3,0,1,4,5,6] ⋯) λH o=>?_;rw[Ae rfl rfl]
  change W (AU _ _ [("number",nc),("nodes",c1)] [] H) _ _
  simp! only[o.at 2 rfl,o.at 6 rfl,o.at 0 rfl];refine J8 o hz1 hz2 λH o=>⟨.inr (.inl rfl),B,[],_,o,λB2 H ag o=>?_⟩;simp! only[Sb];exact⟨by rw[lL];unfold lid;omega,by rw[List.replicate_succ'],_,B2,lb.ag ag,o.sel (A:=[_,_,_,_,_,_,_]) [2,3,0,1,4,5,6] ⋯⟩
 ·rintro acc loc h ⟨rfl,v,B,lb,o⟩;refine⟨by rw[Dc (o.at 1 rfl)];rfl,?_⟩;refine o.hn λl1 H o=>?_;simp! only[];apply hA;clear hA A;replace o:=o.sel (A:=[_,_,_,_,_,_,_,_,_,_,_]) [3,4,5,6,7,8,9,10,0] ⋯;refine CD (a:=[_]) λA hA=>?_;simp! only[o.at 4 rfl];refine BC o λH o=>?_;rw[Ae rfl rfl]
  change W (AU _ _ [("nodes",c1)] [] H) _ _
  simp! only[o.at 4 rfl,o.at 0 rfl];refine OT o ⟨.inl rfl,B,[],_,o,λB2 H ag o=>?_⟩;replace lb:=lb.ag ag;clear ag;simp! only[O4,KX,Ti];refine o.hn λl2 H o=>?_;simp! only[o.at 0 rfl,o.at 9 rfl,KX,Ti,lL,Nat.reduceAdd,(by decide:(3+1<=lid)=True),(by decide:(4<=lid)=True)];refine o.hn λl3 H o=>?_;simp! only[KX,Ti];refine o.hn λl4 H o=>?_;simp! only[o.at 0 rfl,KX,Ti,(by decide:(0<=(3:Int)/\(3:Int)<=3/\0+1<=1000)),(by decide:((0:Int)<=3)=True),(by decide:((3:Int)<=3)=True)];refine o.hn λl5 H o=>?_;simp! only[KX,Ti];refine o.hn λl6 H o=>?_;replace o:Ow (JP p B2 [] 0 []) ((l6,.list [.str "argument"])::(l5,.list [.str "disk",.str "disk",.str "disk"])::_) H:=o;simp! only[o.at 0 rfl,o.at 1 rfl,KX,Ti,Nat.reduceAdd,(by decide:(0+1+1+1+(0+1)<=lid)=True),(by decide:(4<=lid)=True)];refine o.hn λl7 H o=>?_;replace o:Ow (JP p B2 [] 0 []) ((l7,.list [.str "disk",.str "disk",.str "disk",.str "argument"])::(l6,_)::(l5,_)::(l4,_)::(l3,.list [.str "disk",.str "disk",.str "disk",.str "argument"])::_) H:=o;simp! only[o.at 0 rfl,o.at 4 rfl,cy];apply hA;clear hA A;replace o:=o.sel (A:=[_,_,_,_,_,_,_,_,_,_,_,_,_,_,_]) [6,7,8,9,10,11,12,13] ⋯;refine CD (a:=[_]) λA hA=>?_;simp! only[o.at 5 rfl];refine BT ?_;rw[Ae rfl rfl]
  change W (AU _ _ [("node",c2)] [] H) _ _
  simp! only[o.at 5 rfl,o.at 3 rfl];refine (HT (o.at 0 rfl) (o.at 3 rfl)).mpr ?_;refine Lx o (.inl ⋯) ⟨.inl rfl,?_⟩;simp! only[o.at 5 rfl];refine BT ?_;rw[Ae rfl rfl]
  change W (AU _ _ [("node",c2)] [] H) _ _
  simp! only[o.at 5 rfl,o.at 3 rfl];refine (HT (o.at 0 rfl) (o.at 3 rfl)).mpr ?_;refine Lx o (.inr ⋯) ⟨.inl rfl,?_⟩;simp! only[];apply hA;clear hA A;refine CD (a:=[_]) λA hA=>?_;simp! only[o.at 4 rfl];refine BC o λH o=>?_;rw[Ae rfl rfl]
  change W (AU _ _ [("nodes",c1)] [] H) _ _
  simp! only[o.at 4 rfl,o.at 0 rfl];have lC:=JP.b o;have f0:=lb.fo 0 r0 rfl;obtain⟨r1,hr1⟩:∃r1,rs[0]? =some r1:=⟨_,d6 ⋯⟩;have f1:=lb.fo 1 r1 hr1;have rows:∀m,1<=m->m<=3->∃l sz g,Row B2 m (if m=3 then 0 else 2) l sz g:=λm h1 h3=>by
   obtain rfl|rfl|rfl:m=1∨m=2∨m=3:=by omega
   ·exact⟨_,_,_,f0.row⟩
   ·exact⟨_,_,_,f1.row⟩
   ·exact lb.rf 3 ⋯ ⋯ (.inr (by simp;omega))
  have lt:T.length<lid:=by have:=tt.l;unfold lid;omega
  refine H9 o (λm=>if m=3 then 0 else 2) rows lt (by simp) (λm h1 h3 hm hlt H nd pl o=>?_) (λh=>absurd rfl (h 3 ⋯ ⋯));have m3:m=3:=by
   by_cases e:m=3
   ·exact e
   ·rw[T8 e] at hm;omega
  subst m3;have bx:=JP.b o (Bs 3);have gF:Ci (B2 (Bs 3)):=lC _;obtain⟨u1,u2,u3,u4⟩:=Row.put (kd:=2) (lk:=0) ⋯ ⋯ ⋯ gF lb.fs rfl;have gx:GG 0 (r0::rs) 1=r0.g:=Nu;have gy:GG 0 (r0::rs) 2=r1.g:=Dx (j:=1) hr1;refine⟨_,_,_,o,λB3 H ag o=>?_⟩;have w1:=(u1.ag ag).1;have gz:free=cf (B3 13) p.sp:=by rw[ag.hi 13 ⋯,u4];exact lb.fr
  have f0:=f0.PF (u2.trans (FI.ag u1 ag)) gx ⋯ ⋯ gz;have f1:=f1.PF (u2.trans (FI.ag u1 ag)) gy ⋯ ⋯ gz;have w3:=u3.ag ag ⋯;have sb:=((ag 1 ⋯).trans u2.b1).trans lb.sb;clear u1 u2 u3 u4 ag bx gF;simp! only[o.at 9 rfl];refine o.hs 9 rfl λH o=>?_;simp! only[];apply hA;clear hA A;refine CD (a:=[_]) λA hA=>?_;simp! only[o.at 9 rfl,o.at 2 rfl,o.at 6 rfl,(by decide:decide (((3:Nat):Int)=3)=true)];refine BC (o.sel (A:=[_,_,_,_,_,_,_,_,_,_]) [0,1,4,2,3,5,6,7,8,9] ⋯) λH o=>?_;rw[Ae rfl rfl]
  change W (AU _ _ [("nodes",c1)] [] H) _ _
  simp! only[o.at 6 rfl,o.at 0 rfl];have gQ:∀m,1<=m->m<=3->∃l sz g,Row B3 m 2 l sz g:=λm h1 h3=>by
   obtain rfl|rfl|rfl:m=1∨m=2∨m=3:=by omega
   ·exact⟨_,_,_,f0.row⟩
   ·exact⟨_,_,_,f1.row⟩
   ·exact⟨_,_,_,w3⟩
  have lD:(Ar ((3:Nat):Int) (V.ref nd) T).length<lid:=by have:=DT (k:=((3:Nat):Int)) (v:=V.ref nd) (l:=T);have:=tt.l;unfold lid;omega
  refine H9 o (λ_=>2) gQ lD (by simp) (λm _ _ hm=>absurd hm ⋯) (λ_ H o=>⟨.inr (.inr rfl),B3,[],_,o,λB4 H ag o=>?_⟩);have g6:free=cf (B4 13) p.sp:=by rw[ag.hi 13 ⋯];exact gz
  have f0:=f0.PF (FI.ag w1 ag (num:=3)) gx ⋯ ⋯ g6;have f1:=f1.PF (FI.ag w1 ag (num:=3)) gy ⋯ ⋯ g6;replace w1:=(w1.ag ag).1;replace w3:=w3.ag ag ⋯;replace sb:=(ag 1 ⋯).trans sb;simp! only[TV];apply hA;clear hA A;refine CD (a:=[_]) λA hA=>?_;have t3':Bm 3 (Ar ((3:Nat):Int) (V.ref nd) T)=some (.ref nd):=by rw[Bk];rfl
  simp! only[o.at 6 rfl,o.at 9 rfl,o.at 0 rfl];refine SG (o.sel (A:=[_,_,_,_,_,_,_,_,_,_]) [3,0,1,2,4,5,6,7,8,9] ⋯) λH o=>?_;simp! only[o.at 0 rfl,o.at 9 rfl,o.at 6 rfl,(by decide:decide ((1:Int)+1=2)=true)];refine BC (o.sel (A:=[_,_,_,_,_,_,_,_,_,_]) [1,0,3,2,4,5,6,7,8,9] ⋯) λH o=>?_;rw[Ae rfl rfl]
  change W (AU _ _ [("third",c4)] [] H) _ _
  simp! only[o.at 9 rfl,o.at 1 rfl];refine (Nb (o.at 0 rfl) (o.at 1 rfl)).mpr ?_;refine P1 o t3' λH o=>⟨_,_,_,o,λB5 H ag o=>?_⟩;have g7:free=cf (B5 13) p.sp:=by rw[ag.hi 13 ⋯];exact g6
  have f0:=f0.PF (FI.ag w1 ag (num:=3)) gx ⋯ ⋯ g7;have f1:=f1.PF (FI.ag w1 ag (num:=3)) gy ⋯ ⋯ g7;replace w1:=(w1.ag ag).1;replace w3:=w3.ag ag ⋯;replace sb:=(ag 1 ⋯).trans sb;clear ag gz g6;simp! only[o.at 6 rfl,o.at 0 rfl,o.at 2 rfl,t3',ew];apply hA;clear hA A;refine CD (a:=[_]) λA hA=>?_;have ji:GG 0 (r0::rs) 3=g0:=by
   unfold GG;rw[T8 ⋯,fA (by simp;omega)]
  simp! only[o.at 6 rfl];refine BC (o.sel (A:=[_,_,_,_,_,_,_,_,_,_]) [0,3,1,4,2,5,6,7,8,9] ⋯) λH o=>?_;rw[Ae rfl rfl]
  change W (AU _ _ [("third",c4)] [] H) _ _
  simp! only[o.at 9 rfl,o.at 2 rfl];refine (Nb (o.at 0 rfl) (o.at 2 rfl)).mpr ?_;refine Lv (num:=3) (r:=⟨nd,pl,0,0,g0,[],[],false⟩) (free:=free) o w1 ji ⟨g7,λi hi=>rR (by simp) (λh=>h rfl),rR (by simp) (λh=>h rfl),List.Pairwise.nil,(λi hi=>by cases hi)⟩ ⋯ t3' λH B6 J6 dR p1 p2 p3 p4 o=>?_;refine⟨_,_,_,o,λB7 H ag o=>?_⟩;rw[←ji,Du] at p1;have g8:free=cf (B7 13) p.sp:=by rw[ag.hi 13 ⋯,p4];rfl
  have f0:=f0.PF (p2.trans (FI.ag p1 ag)) gx ⋯ ⋯ g8;have f1:=f1.PF (p2.trans (FI.ag p1 ag)) gy ⋯ ⋯ g8;replace w1:=(p1.ag ag).1;replace p3:=p3.ag ag ⋯;have fq:LB 0 p.sp B7 (r0::rs) free:=by
   refine⟨w1,λj r hr=>?_,λm h1 h3 hm=>?_,lb.sum,g8,lb.len,((ag 1 ⋯).trans p2.b1).trans sb⟩
   ·have hj:=(dt.mp hr).1;rw[KX] at hj;obtain rfl|rfl:j=0∨j=1:=by omega
    ·cases hr;exact f0
    ·rw[tL,hr1] at hr;cases hr;exact f1
   ·have:m=3:=by rw[KX] at hm;omega
    subst this;exact⟨_,_,_,p3⟩
  have lE:=tt.back (v:=V.ref nd) (by simp;omega);clear ag p1 p2 p3 p4 f0 f1 w3 g7 lb;simp! only[o.at 6 rfl];refine BC o λH o=>?_;rw[Ae rfl rfl]
  change W (AU _ _ [("third",c4)] [] H) _ _
  simp! only[o.at 9 rfl,o.at 2 rfl];refine (Nb (o.at 0 rfl) (o.at 2 rfl)).mpr ?_;refine Pw (o.up 2 rfl) ⟨.inl rfl,B7,[],_,o,λB8 H ag o=>?_⟩;replace fq:=fq.ag ag;clear ag w1 g8;simp! only[O4];apply hA;clear hA A;refine seq λA hA=>?_;have fin:∀B v loc H,lk "free" loc=some (.int free)->LB 0 p.sp B (r0::rs) free->Ow (JP p B [] 0 []) ((ns,Bu p s tb)::(s,CM p.sp)::(nd,NO ns 3 0 0 0 0 dR)::(dR,gP g0)::(tb,.U' (Cw ((3:Nat):Int) (Ar ((3:Nat):Int) (V.ref nd) T)))::(r0.nd,NO ns (0+1:Nat) 1 2 1 r0.own.length r0.pl)::(c1,.cell (some (.ref ns)))::(c2,.cell (some (.ref r0.nd)))::(c3,.cell v)::(c4,.cell (some (.ref nd)))::Z) H->A loc H:=by
   intro B v loc H l1 lb o;apply hA;clear hA A;simp! only[o.at 6 rfl,o.at 0 rfl];refine Bz o λH o=>?_;rw[←lb.fr];simp! only[↓AK l1,dT];subst hZ;exact q _ B _ lb lE (o.sel (A:=[_,_,_,_,_,_,_,_,_,_]) [0,1,4,5] ⋯)
  by_cases hz:free=0
  ·have c0:¬(0:Int)<free:=by omega
   simp! only[c0,dq];exact fin B8 none _ _ (by simp [AD,ofString_eq]) fq o
  ·have c0:(0:Int)<free:=by omega
   simp! only[c0,dT,o.at 6 rfl];refine BC o λH o=>?_;rw[Ae rfl rfl]
   change W (AU _ _ [("nodes",c1)] [] H) _ _
   simp! only[o.at 6 rfl,o.at 0 rfl];have bk:=JP.b o;refine D5 o (.inr (by simp)) (λH k k1 k2 k3 o=>?_) (λH hf o=>absurd (fq.fr.trans (GL hf)) hz);have g9:Tk p.sp B8 [] k (upd (upd B8 13 (Ey (B8 13) k)) k Jj) (nt (nt [] 13) k):=⟨k1,k2,k3,rfl,rfl⟩;have lH:=Kb (bk 13) g9 sp.2 rfl;have eV:=g9.MP;have eo:=λ{b:Int}=>g9.at (b:=b);generalize upd (upd B8 13 (Ey (B8 13) k)) k Jj=pJ at*;refine⟨_,_,_,o,λB9 H ag o=>?_⟩;have lI:B9 13=Ey (B8 13) k:=by rw[ag.hi 13 ⋯,eV]
   have go:∀b:Int,11<=b->b≠13->b≠k->B9 b=B8 b:=λb h1 h2 h3=>by rw[ag.hi b h1,eo h2 h3]
   have ef:((cf (B9 13) p.sp:Nat):Int)=(free:Int)-1:=by rw[ag.hi 13 ⋯];have:=fq.fr;omega
   have g1:B9 1=B8 1:=by rw[ag 1 ⋯,eo ⋯ ⋯]
   have tk':∀j,tk (B9 13) j=(j==k||tk (B8 13) j):=λj=>by rw[lI,DL (bk 13) ⋯]
   clear ag eV eo g9 lH;simp! only[o.at 8 rfl];refine o.hs 8 rfl λH o=>?_;simp! only[o.at 6 rfl,o.at 0 rfl];refine Bz o λH o=>?_;simp! only[ef,dT,o.at 6 rfl];refine BC o λH o=>?_;rw[Ae rfl rfl]
   change W (AU _ _ [("taken",c3),("nodes",c1)] [] H) _ _
   simp! only[o.at 6 rfl,o.at 8 rfl,o.at 0 rfl];have lJ:=JP.b o;have jj:tk (B9 13) k=true:=by rw[tk'];simp
   refine Fq o k1 k2 (.inr (by simp)) (λ_ H o=>⟨_,_,_,o,λiA H ag o=>?_⟩) (λh=>by rw[jj] at h;cases h);have iU:iA 13=I6 (B9 13) k:=by rw[ag.hi 13 ⋯];unfold upd;rw[UQ rfl]
   have go':∀b:Int,11<=b->b≠13->b≠k->iA b=B8 b:=λb h1 h2 h3=>by rw[ag.hi b h1];unfold upd;rw[T8 h2];exact go b h1 h2 h3
   have gR:∀j,j<384->tk (iA 13) j=tk (B8 13) j:=λj hj=>by
    rw[iU,HR (lJ 13) ⋯ jj,tk'];by_cases e:j=k
    ·subst e;simp [k3]
    ·rw[show (j==k)=false from by simpa using e,show (j !=k)=true from by simpa using e];rfl
   have iV:=fq.YQ sp.2 k1 k3 go' gR (by rw[ag 1 ⋯];unfold upd;rw[T8 ⋯];exact g1);clear ag;simp! only[o.at 6 rfl];refine BC o λH o=>?_;rw[Ae rfl rfl]
   change W (AU _ _ [("taken",c3),("nodes",c1)] [] H) _ _
   simp! only[o.at 6 rfl,o.at 8 rfl,o.at 0 rfl];have lK:tk (iA 13) k=false:=by rw[gR k ⋯];exact k3
   refine Fq o k1 k2 (.inr (by simp)) (λh=>by rw[lK] at h;cases h) (λ_ H o=>⟨.inr (.inl rfl),_,_,_,o,λlN H ag o=>?_⟩);simp! only[Sb];exact fin lN _ _ _ (by simp [AD,ofString_eq]) (iV.ag ag) o
end
theorem Ow.Qq (o:Ow P F H) (x:O):Ow P F (H++[x]):=(o.new x).drop
def ob:List Int:=Jm [270544960,15,15-14,5,8,2,10,13,2] 0 (List.replicate 48 0)
def xo (a:Nat):List Int:=sliceOf ob 0 a++[ob.getD a 0+1-2*(ob.getD a 0%2)]++sliceOf ob (a+1) 48
theorem Vm:ob.length=48/\ob.all A9=true/\wv ob 0=270544960/\wv ob 4=15/\wv ob 12=5/\wv ob 16=8/\wv ob 32=2/\Qy ob=[270544960,15,1,5,8,2,10,13,2]:=by decide+kernel
theorem XT:∀a∈[0,8,20,24,28],(xo a).length=48/\(xo a).all A9=true/\A9 (ob.getD a 0+1-2*(ob.getD a 0%2))=true/\wv (xo a) 4=15/\wv (xo a) 12=5/\wv (xo a) 16=8/\wv (xo a) 32=2/\Qy (xo a)≠[270544960,15,1,5,8,2,10,13,2]:=by decide+kernel
theorem Px (h:l.all A9=true):Cc l:=λx hx=>by
 have:=jU.mp h x hx
 unfold A9 at this;simp at this;exact this
theorem QS:P0 48 5 8 2=13/\NM 48 15 5 8 2=14:=by decide
theorem Sy:RU 48 15 5 8 2=[270544960,15,1,5,8,2,10,13,2]:=by unfold RU;rw[QS.1,QS.2];rfl
theorem Um:RY 48 15 5 8 2:=by
 unfold RY;rw[QS.2,show Hu 2=24 by decide];decide
theorem UP:SO 48 15 5 8 2= .inst 24 (SF (.int 48) (.int 15) (.int 5) (.int 8) (.int 2) (.int 24) (.int 2) (.int 12) (.int 2) (.int 10) (.int 13) (.int 14)):=by
 unfold SO;rw[QS.1,QS.2];rfl
theorem PG:P0 48 4 9 2=13/\NM 48 400 4 9 2=15:=by decide
theorem V4:RY 48 400 4 9 2:=by
 unfold RY;rw[PG.2,show Hu 2=24 by decide];decide
theorem WW:SO 48 400 4 9 2= .inst 24 (SF (.int 48) (.int 400) (.int 4) (.int 9) (.int 2) (.int 24) (.int 2) (.int 12) (.int 2) (.int 11) (.int 13) (.int 15)):=by
 unfold SO;rw[PG.1,PG.2];rfl
abbrev t5 (x:Int×Int×Int×Int×Int):V:=.tup [.int x.1,.int x.2.1,.int x.2.2.1,.int x.2.2.2.1,.int x.2.2.2.2]
def U3:List (Int×Int×Int×Int×Int):=[(40,30,4,9,2),(32,30,4,9,2),(48,30,4,9,0),(48,30,4,9,9),(48,30,1,9,2),(48,30,4,1,2),(48,14,4,9,2),(48,0,4,9,2)]
theorem Ua:∀i,i<8->∃x,U3[i]? =some x/\x.1.natAbs<1000000/\x.2.2.2.2.natAbs<1000000/\¬RY x.1 x.2.1 x.2.2.1 x.2.2.2.1 x.2.2.2.2:=λi hi=>by
 obtain rfl|rfl|rfl|rfl|rfl|rfl|rfl|rfl:i=0∨i=1∨i=2∨i=3∨i=4∨i=5∨i=6∨i=7:=by omega
 all_goals exact⟨_,rfl,by decide,by decide,by unfold RY NM P0 Hu;decide⟩
theorem Xw {a b c:V}{l:List V}:BM (.tup (a::b::c::l)) (.int 2) h=some c:=rfl
theorem YT {a b c d:V}{l:List V}:BM (.tup (a::b::c::d::l)) (.int 3) h=some d:=rfl
theorem Yj {a b c d e:V}{l:List V}:BM (.tup (a::b::c::d::e::l)) (.int 4) h=some e:=rfl
theorem QD {a:List Int}:Cv (a.map .int) (a.map .int)=some true:=by rw[EX,qy rfl]
theorem OH (o:Ow P F H) (q:∀H,Ow P F H->Q (.bool true) H):W (call (n+6) (.fn 49 0) [] H) Q E:=by
 rw[MH ["at","octets","row"] [] rfl rfl rfl rfl rfl];rw[OQ];refine o.hn λc1 H o=>?_;rw[OQ];refine o.hn λc2 H o=>?_;rw[OQ];refine o.hn λc3 H o=>?_;rw[Ut,Qd];refine CD (a:=[_]) λA hA=>?_;simp! only[KX,Ti];refine o.hn λl1 H o=>?_;simp! only[];apply hA;clear hA A;refine CD (a:=[_]) λA hA=>?_;simp! only[KX,Ti];refine o.hn λl2 H o=>?_;simp! only[o.at 0 rfl,o.at 1 rfl,KX,Ti,(by decide:(0+1+1+1+1+1+1+(0+1+1)<=lid)=True)];refine o.hn λl3 H o=>?_;replace o:Ow P ((l3,.list (U3.map t5))::(l2,_)::(l1,_)::(c3,.cell none)::(c2,.cell none)::(c1,.cell none)::F) H:=o;simp! only[o.at 0 rfl];refine CH (λi loc h=>∃v,Ow P ((l3,.list (U3.map t5))::(c3,.cell v)::(c2,.cell none)::(c1,.cell none)::F) h) 8 ?_ ?_ _ 0 _ _ (show 8<9 by decide) (el _) ⟨none,o.sel (A:=[_,_,_,_,_,_]) [0,3,4,5] ⋯⟩
 ·rintro i loc h hi ⟨v,o⟩;obtain⟨x,hx,x1,x2,x3⟩:=Ua i hi;refine⟨t5 x,by rw[Dc (o.at 0 rfl),fw,hx];rfl,?_⟩;simp! only[o.at 1 rfl];refine o.hs 1 rfl λH o=>?_;simp! only[];refine BT ?_;rw[Ae rfl rfl]
  change W (AU _ _ [("row",c3)] [] H) _ _
  simp! only[o.at 1 rfl,O3,YC,Xw,YT,Yj];refine o.hn λa H o=>?_;refine C5 (o.at 0 rfl) x2 x1 (λh=>absurd h x3) λ_ y=>⟨.inl rfl,?_⟩;replace o:=o.set 0 rfl y;generalize H.set a y=H at o;simp! only[];exact⟨_,o.drop⟩
 ·rintro loc h ⟨v,o⟩;refine⟨by rw[Dc (o.at 0 rfl)];rfl,?_⟩;rw[Au];apply hA;clear hA A;refine CD (a:=[_]) λA hA=>?_;simp! only[];refine o.hn λpa H o=>?_;refine C5 (o.at 0 rfl) ⋯ ⋯ (λ_=>?_) (λh=>absurd Um h);replace o:=o.set 0 rfl (SO 48 15 5 8 2);generalize H.set pa _=H at o;simp! only[];refine o.hn λwa H o=>?_;refine C5 (o.at 0 rfl) ⋯ ⋯ (λ_=>?_) (λh=>absurd V4 h);replace o:=o.set 0 rfl (SO 48 400 4 9 2);generalize H.set wa _=H at o;simp! only[KX,Ti];apply hA;clear hA A;refine CD (a:=[_]) λA hA=>?_;have ha:=o.at 1 rfl;have hw:=o.at 0 rfl;rw[UP] at ha;rw[WW] at hw;have bo:=Pj (n:=n+4) (k:=390) hw ⋯ ⋯;have ro:=QR (n:=n+4) (k:=3) hw ⋯ ⋯ ⋯;have lO:call (n+5) (.fn 24 6) [.ref wa,.int 390] H= .ok (.tup [.int 14,.int 0,.int 64]) H:=bo;have lP:call (n+5) (.fn 24 5) [.ref wa,.int 3] H= .ok (.tup [.int 12,.int 24]) H:=ro;have e1:Cv [.int 14,.int 0,.int 64] [.int 14,.int 0,.int 64]=some true:=QD (a:=[14,0,64]);have e2:Cv [.int 12,.int 24] [.int 12,.int 24]=some true:=QD (a:=[12,24]);simp! only[ha,hw,lO,lP,e1,e2,KX,Ti,dT];apply hA;clear hA A;refine CD (a:=[_]) λA hA=>?_;simp! only[ha];refine GI ha ⋯ ⋯ ⋯ λj1 j2=>?_;replace o:=(o.Qq j1).Qq j2;generalize H++[j1]++[j2]=H at o;simp! only[o.at 4 rfl];refine o.hs 4 rfl λH o=>?_;replace o:Ow P ((wa,_)::(pa,SO 48 15 5 8 2)::(l3,_)::(c3,.cell v)::(c2,.cell (some (.bytes ob)))::(c1,.cell none)::F) H:=o;simp! only[];apply hA;clear hA A;obtain⟨b1,b2,b3,b4,b5,b6,b7,b8⟩:=Vm;have lQ:Qy ob=RU ob.length (wv ob 4) (wv ob 12) (wv ob 16) (wv ob 32):=by rw[b1,b4,b5,b6,b7,b8];exact Sy.symm
  refine seq λA hA=>?_;simp! only[KX,Ti];refine o.hn λal H o=>?_;simp! only[o.at 0 rfl];refine CH (λi loc h=>lk "plan" loc=some (.ref pa)/\∃v,Ow P ((al,.list [.int 0,.int 8,.int 20,.int 24,.int 28])::(pa,SO 48 15 5 8 2)::(c2,.cell (some (.bytes ob)))::(c1,.cell v)::F) h) 5 ?_ ?_ _ 0 _ _ (show 5<6 by decide) (el _) ⟨by simp [AD,ofString_eq],none,o.sel (A:=[_,_,_,_,_,_,_]) [0,2,5,6] ⋯⟩
  ·rintro i loc h hi ⟨lp,v,o⟩;obtain⟨a,ha,hm⟩:∃a:Nat,([V.int 0,.int 8,.int 20,.int 24,.int 28]:List V)[i]? =some (.int a)/\a∈[0,8,20,24,28]:=by
    obtain rfl|rfl|rfl|rfl|rfl:i=0∨i=1∨i=2∨i=3∨i=4:=by omega
    ·exact⟨0,rfl,by simp⟩
    ·exact⟨8,rfl,by simp⟩
    ·exact⟨20,rfl,by simp⟩
    ·exact⟨24,rfl,by simp⟩
    ·exact⟨28,rfl,by simp⟩
   obtain⟨x1,x2,x3,x4,x5,x6,x7,x8⟩:=XT a hm;have la:a<48:=by simp at hm;omega
   refine⟨.int a,by rw[Dc (o.at 0 rfl),ha],?_⟩;simp! only[o.at 3 rfl];refine o.hs 3 rfl λH o=>?_;simp! only[];refine BT ?_;rw[Ae rfl rfl]
   change W (AU _ _ [("octets",c2),("at",c1)] [] H) _ _
   have sb:BM (.bytes ob) (.int a) H=some (.int (ob.getD a 0)):=SN (.inl ⟨rfl,trivial⟩) (by rw[b1];exact la);have xr:binI .BitXor (ob.getD a 0) 1=some (.int (ob.getD a 0+1-2*(ob.getD a 0%2))):=rfl;have p0:(0:Int)<=(a:Int):=by omega
   have p1:(0:Int)<=(a:Int)+1:=by omega
   have t1:((a:Int)+1).toNat=a+1:=by omega
   simp! only[o.at 2 rfl,o.at 3 rfl,p0,p1,t1,eD,sb,xr,KX,Ti];refine o.hn λvl H o=>?_;have ai:Bt [V.int (ob.getD a 0+1-2*(ob.getD a 0%2))]=some [ob.getD a 0+1-2*(ob.getD a 0%2)]:=rfl;have l1:(sliceOf ob 0 a).length+(0+1)<=lid:=by unfold sliceOf lid;simp;omega
   have l2:(sliceOf ob 0 a).length+(0+1)+(sliceOf ob (a+1) 48).length<=lid:=by unfold sliceOf lid;simp;omega
   have gr:(sliceOf ob 0 a).length+1<=lid:=l1;have gv:(sliceOf ob 0 a).length+1+(sliceOf ob (a+1) 48).length<=lid:=l2;simp! only[o.at 0 rfl,o.at 3 rfl,o.at 4 rfl,p0,p1,t1,eD,ai,rH,List.all_nil,Bool.and_true,x3,b1,eR,KX,Ti,l1,l2,gr,gv,tY];refine Fj (x:=xo a) (by rw[x1];decide) (by rw[x1];decide) (Px x2) o (by rw[x7];decide) (λ_=>by rw[x1,x4,x5,x6,x7];exact Um) (λh=>?_) λ_ H o=>⟨.inr rfl,?_⟩
   ·rw[x1,x4,x5,x6,x7] at h;exact absurd (h.trans Sy) x8
   ·simp! only[];exact⟨lp,_,o.drop⟩
  ·rintro loc h ⟨lp,v,o⟩;refine⟨by rw[Dc (o.at 0 rfl)];rfl,?_⟩;rw[Au];apply hA;clear hA A;simp! only[];refine BT ?_;rw[Ae rfl rfl]
   change W (AU _ _ [("octets",c2)] [] h) _ _
   simp! only[o.at 2 rfl,(by decide:(0:Int)<=32)];refine Lr (by unfold sliceOf;simp;omega) o λH o=>⟨.inr rfl,?_⟩;simp! only[o.at 2 rfl];refine Fj (by rw[b1];decide) (by rw[b1];decide) (Px b2) o (by rw[b7];decide) (λ_=>by rw[b1,b4,b5,b6,b7];exact Um) (λ_ H s o=>?_) λh=>absurd lQ h;rw[b1,b4,b5,b6,b7] at o;replace o:Ow P ((s,SO 48 15 5 8 2)::_) H:=o;have hs:=o.at 0 rfl;rw[UP] at hs;simp! only[hs];refine Gj o (o.at 0 rfl) λwl H o=>?_;have hp:=o.at 3 rfl;rw[UP] at hp;simp! only[↓AK lp,hp];refine Gj o (o.at 3 rfl) λpK H o=>?_;simp! only[o.at 0 rfl,o.at 1 rfl,QD];exact q _ (o.sel (A:=[_,_,_,_,_,_,_]) [] ⋯)
section
variable {sp:Nat}{r':FR}
theorem JP.YG (o:Ow (JP p B [] 0 []) F H):∃kp lt uf w f K X,BB H (DC p.dk kp lt uf (14+p.sp) w f K K []++(F++X))/\Lb K=B/\(K.map (·.1)).Nodup/\(∀q∈K,0<=q.1/\q.1<14+p.sp)/\
  ∀H',BB H' (DC p.dk kp lt uf (14+p.sp) w f K K []++(F++X))->Ow (JP p B [] 0 []) F H':=by
 obtain⟨_,⟨nu,no,cm,nd,_,rfl,n1,n2,kp,lt,uf,w,f,hi,rd,wr,K,L,U,D,R,bs,rfl,c⟩,o⟩:=o;have hU:U=[]:=pA.mp (Nat.le_zero.mp c.ul);subst hU;have hL:L=K:=c.lu.symm;subst hL;have pm:∀{A D' E F:HL},((A++(D'++E))++F).Perm (D'++(F++(A++E))):=λ{A D' E F}=>LP.trans (na.append_left D');have p1:((jC p nu no 0 cm [] nd++cC p kp lt uf w f hi rd wr L L [] D R bs)++F).Perm (DC p.dk kp lt uf (14+p.sp) w f L L []++(F++((jC p nu no 0 cm [] nd++[(p.c,CO p hi rd wr),(p.rw,.list (R.map .ref)),(p.bn,.U' D)])++bs.flatMap bC))):=
  pm (A:=jC p nu no 0 cm [] nd++[(p.c,CO p hi rd wr),(p.rw,.list (R.map .ref)),(p.bn,.U' D)]) (D':=DC p.dk kp lt uf (14+p.sp) w f L L []) (E:=bs.flatMap bC) (F:=F)
 exact⟨kp,lt,uf,w,f,L,_,o.perm p1,funext λk=>c.dl k (λh=>nomatch h),c.kn,c.kr,λH' o'=>⟨_,⟨nu,no,cm,nd,_,rfl,n1,n2,kp,lt,uf,w,f,hi,rd,wr,L,L,[],D,R,bs,rfl,c⟩,o'.perm p1.symm⟩⟩
theorem Ia:∀{rs:List FR}{st j:Nat},j<rs.length->∃X,∀r',(G9 ns st (rs.set j r')).Perm (fc ns (st+j) r'++X)
 |r::rs,st,0,_=>⟨G9 ns (st+1) rs,λr'=>.refl _⟩
 |r::rs,st,j+1,h=>by
  obtain⟨X,hX⟩:=Ia (rs:=rs) (st:=st+1) (j:=j) (by simpa using h);refine⟨fc ns st r++X,λr'=>?_⟩;rw[rM,show st+(j+1)=st+1+j by omega];exact ((hX r').append_left (fc ns st r)).trans (iq _ _ _)
theorem Ng:∀{rs:List FR}{st:Nat},G9 ns st (rs++[r])=G9 ns st rs++fc ns (st+rs.length) r
 |[],st=>by simp [G9]
 |x::rs,st=>by
  rw[oP,G9,Ng,G9,kt,KX,show st+1+rs.length=st+(rs.length+1) by omega]
theorem Nf:∀{rs:List FR}{j:Nat},rs[j]? =some r->MA (rs.set j r')+(r.M.length+r.nm.toNat)=MA rs+(r'.M.length+r'.nm.toNat)
 |x::rs,0,h=>by cases h;rw[sN,MA,MA];omega
 |x::rs,j+1,h=>by
  have:=Nf (rs:=rs) (j:=j) (by simpa using h)
  rw[rM,MA,MA];omega
theorem Nj:∀{rs:List FR},MA (rs++[r])=MA rs+(r.M.length+r.nm.toNat)
 |[]=>by simp [MA]
 |x::rs=>by rw[oP,MA,Nj,MA];omega
theorem LB.set {B':BW}(l:LB 0 sp B rs free) (hr:rs[j]? =some r) (fs:FS sp B' (Gu (GG 0 rs) (0+1+j) r'.g)) (f:FO sp B' (0+1+j) r' dP) (o:FI B B' (GG 0 rs) (0+1+j)) (hs:dP+r'.M.length+r'.nm.toNat=free+r.M.length+r.nm.toNat):LB 0 sp B' (rs.set j r') dP:=by
 have hj:=(dt.mp hr).1;have ll:=l.len;rw[Uy hj] at fs;have fe:dP=cf (B' 13) sp:=f.rel.f;refine⟨fs,λi x hx=>?_,λm h1 h3 hm=>?_,?_,fe,by rw[nw];exact ll,o.b1.trans l.sb⟩
 ·by_cases e:i=j
  ·subst e;rw[mv hj] at hx;cases hx;exact f
  ·rw[qK (Ne.symm e)] at hx;have hi:=(dt.mp hx).1;exact (l.fo i x hx).PF o (Dx hx) ⋯ ⋯ fe
 ·rw[nw] at hm;obtain⟨k,s,g,hrw⟩:=l.rf m h1 h3 hm;exact⟨k,s,g,o.row m h3 ⋯ _ _ _ _ hrw⟩
 ·have:=Nf (r':=r') hr;have:=l.sum;omega
theorem TB.set (t:TB 0 T rs) (hr:rs[j]? =some r) (e:r'.nd=r.nd):TB 0 T (rs.set j r'):=by
 refine⟨t.nd,λi x hx=>?_,λm hm=>t.o m (by rwa [nw] at hm),t.l,by rw[nw];exact t.l2⟩;by_cases ei:i=j
 ·subst ei;rw[mv (dt.mp hr).1] at hx;cases hx;rw[e];exact t.i i r hr
 ·rw[qK (Ne.symm ei)] at hx;exact t.i i x hx
theorem Ux (hr:rs[j]? =some r) (e:r'.nd=r.nd):(rs.set j r').map (λr=>V.ref r.nd)=rs.map λr=>V.ref r.nd:=by
 apply qt;intro i;rw[fw,fw];by_cases ei:i=j
 ·subst ei;rw[mv (dt.mp hr).1,hr];simp [e]
 ·rw[qK (Ne.symm ei)]
theorem U1 (hr:rs[j]? =some r) (e:r'.md=r.md):(rs.set j r').map (λr=>V.ref r.md)=rs.map λr=>V.ref r.md:=by
 apply qt;intro i;rw[fw,fw];by_cases ei:i=j
 ·subst ei;rw[mv (dt.mp hr).1,hr];simp [e]
 ·rw[qK (Ne.symm ei)]
theorem LB.add (l:LB 0 sp B rs sp) (hl:rs.length<=1) (fs:FS sp B' (GG 0 rs)) (o:FI B B' (GG 0 rs) (rs.length+1)) (hr:Row B' (rs.length+1) 2 1 0 g0) (e:sp=cf (B' 13) sp) (nd pl md bl:Nat):LB 0 sp B' (rs++[⟨nd,pl,md,bl,g0,[],[],false⟩]) sp:=by
 have gg:GG 0 (rs++[⟨nd,pl,md,bl,g0,[],[],false⟩])=GG 0 rs:=by
  funext n;unfold GG
  by_cases h:n<=0
  ·rw[UQ h,UQ h]
  ·rw[T8 h,T8 h];by_cases h2:n-0-1<rs.length
   ·rw[lf h2]
   ·by_cases h3:n-0-1=rs.length
    ·rw[h3,qN,fA (ix _)]
    ·rw[fA (by simp;omega),fA ⋯]
 refine⟨by rw[gg];exact fs,λi x hx=>?_,λm h1 h3 hm=>?_,by rw[Nj];simp;have:=l.sum;omega,e,by simp;omega,o.b1.trans l.sb⟩
 ·by_cases h:i<rs.length
  ·rw[lf h] at hx;exact (l.fo i x hx).PF o (Dx hx) ⋯ ⋯ e
  ·have hi:=(dt.mp hx).1;rw[eR,qD] at hi;obtain rfl:i=rs.length:=by omega
   rw[qN] at hx;cases hx;refine⟨⟨e,λi hi=>rR (by simp) (λh=>h rfl),rR (by simp) (λh=>h rfl),List.Pairwise.nil,(λi hi=>by cases hi)⟩,λq hq=>rfl,(λx hx=>by cases hx),el _,?_⟩;rw[show 0+1+rs.length=rs.length+1 by omega];exact hr
 ·rw[eR,qD] at hm;obtain⟨k,s,g,hrw⟩:=l.rf m h1 h3 ⋯;exact⟨k,s,g,o.row m h3 ⋯ _ _ _ _ hrw⟩
theorem TB.add {md bl:Nat}(t:TB 0 T rs) (hl:rs.length<=1):TB 0 (Ar ((rs.length+1:Nat):Int) (V.ref nd) T) (rs++[⟨nd,pl,md,bl,g0,[],[],false⟩]):=by
 have n3:((rs.length+1:Nat):Int)∉T.map (·.1):=λhm=>by
  obtain⟨q,hq,e⟩:=eJ.mp hm
  have:=F7 (v:=q.2) t.nd (by rw[show (q.1,q.2)=q from rfl];exact hq)
  rw[e,t.o _ (.inr ⋯)] at this;cases this
 refine⟨?_,λi x hx=>?_,λm hm=>?_,?_,?_⟩
 ·rw[Dr,T8 n3];exact kz.mpr ⟨t.nd,by simp,λa ha b hb e=>by cases eA.mp hb;subst e;exact n3 ha⟩
 ·by_cases h:i<rs.length
  ·rw[lf h] at hx;rw[Bk,T8 ⋯];exact t.i i x hx
  ·have hi:=(dt.mp hx).1;rw[eR,qD] at hi;obtain rfl:i=rs.length:=by omega
   rw[qN] at hx;cases hx;rw[Bk,UQ ⋯]
 ·rw[eR,qD] at hm;rw[Bk,T8 ⋯];exact t.o m ⋯
 ·have h2:=DT (k:=((rs.length+1:Nat):Int)) (v:=V.ref nd) (l:=T)
  have:=t.l2;omega
 ·have h2:=DT (k:=((rs.length+1:Nat):Int)) (v:=V.ref nd) (l:=T)
  have:=t.l2;rw[eR,qD];omega
end
def marks (l:List Int):List Nat:=if l=[] then [558614] else (l.take 9).map λn=>n.natAbs%1000000000000
theorem Os (l:List Int):1<=(marks l).length/\(marks l).length<=9/\∀x∈marks l,x<1000000000000:=by
 unfold marks;split
 ·exact⟨by decide,by decide,λx hx=>by cases eA.mp hx;decide⟩
 ·rename_i h
  have:l.length≠0:=λe=>h (pA.mp e)
  refine⟨by simp;omega,by simp;omega,λx hx=>?_⟩;obtain⟨n,_,rfl⟩:=eJ.mp hx;exact Nat.mod_lt _ ⋯
theorem LN:∀M:List Nat,∃S:Nat,Fm (M.map λ(i:Nat)=>(i:Int))=S
 |[]=>⟨0,rfl⟩
 |a::r=>by obtain⟨S,h⟩:=LN r;exact⟨a+S,by rw[ij,Fm,h];omega⟩
theorem Hr {sp:Nat}(k:Int):Lb (K0 sp) k=if k=1 then IA sp else if k=13 then TU else Jj:=by
 unfold Lb K0;simp only[Bm];by_cases h:k=1
 ·subst h;simp only[qT,q8]
 ·rw[T8 (λe=>h e.symm),T8 h];by_cases h2:k=13
  ·subst h2;simp only[qT,q8]
  ·rw[T8 (λe=>h2 e.symm),T8 h2,tK]
theorem T0:∀sp<14,cf TU sp=sp:=by decide+kernel
theorem cw {sp:Nat}(h:sp<=13):LB 0 sp (Lb (K0 sp)) [] sp:=by
 have gg:∀n,GG 0 [] n=g0:=λn=>by unfold GG;split<;>simp
 have eV:Lb (K0 sp) 13=TU:=by rw[Hr];rfl
 refine⟨⟨λn=>?_,λm i _ hh=>absurd (by rw[gg]) hh,λn i m j _ _ hh=>absurd (by rw[gg]) hh⟩,λj r hr=>by simp at hr,λm h1 h3 _=>⟨0,0,g0,?_⟩,by simp [MA],by rw[eV,T0 sp ⋯],by simp,by rw[Hr,UQ rfl]⟩
 ·rw[gg];exact⟨λ_ _=>.inl rfl,λh=>absurd rfl h,λ_ _ _ _=>rfl⟩
 ·unfold Row;rw[Hr,T8 (by unfold Bs;omega),T8 (by unfold Bs;omega)];have hz:∀i,hv Jj i=0:=λi=>by unfold hv;rw[DN,DN];rfl
  exact⟨hz _,hz _,hz _,hz _,IZ _,IZ _,IZ _,IZ _⟩
theorem map_take {L:List Int}(hi:i<L.length):(((L.take i).map λn=>n.natAbs%1000000000000).map λ(i:Nat)=>(i:Int)).map V.int++[V.int ((L[i].natAbs:Int)%1000000000000)]=(((L.take (i+1)).map λn=>n.natAbs%1000000000000).map λ(i:Nat)=>(i:Int)).map .int:=by
 rw[qr,d6 hi,gL,gL,gL];rfl
theorem BB.nil:BB ([]:Hp) []:=⟨List.Pairwise.nil,λp hp=>nomatch hp⟩
abbrev QT:V->Hp->Prop:=λv _=>v= .bool true
theorem law_main (l:List Int):∃H',call (n+20) (.fn 52 0) [.fl (l.map .int)] []= .ok (.bool true) H':=by
 have key:W (call (n+20) (.fn 52 0) [.fl (l.map .int)] []) QT (λ_ _=>False):=by
  have o:=BB.nil;generalize ([]:Hp)=H at o ⊢;rw[MH ["node","nodes"] [("script",.fl (l.map .int),false)] rfl rfl rfl rfl rfl];rw[OQ];refine o.hn λc1 H o=>?_;rw[OQ];refine o.hn λc2 H o=>?_;rw[Ut,U6,Qd];obtain⟨m1,m2,m3⟩:=Os l;have hsl:sliceOf (l.map V.int) 0 9=(l.take 9).map .int:=by unfold sliceOf;rw[uA,rj]
  refine seq λA hA=>?_;simp! only[(by decide:(0:Int)<=9),show Int.toNat 9=9 from rfl,hsl];refine o.hn λl1 H o=>?_;simp! only[o.at 0 rfl];refine Da (λi acc loc h=>h=H/\acc=((((l.take 9).take i).map λn=>n.natAbs%1000000000000).map λ(i:Nat)=>(i:Int)).map .int) (l.take 9).length ?_ ?_ _ 0 _ _ _ (by simp) (el _) ⟨rfl,rfl⟩
  ·rintro i acc loc h hi ⟨rfl,rfl⟩;refine⟨.int (l.take 9)[i],by rw[Dc (o.at 0 rfl),fw,d6 hi];rfl,?_⟩;have pw:binI .Pow 10 12=some (.int 1000000000000):=rfl;simp! only[pw,(by decide:(0:Int)<1000000000000)];refine⟨by simp;unfold lid;simp at hi;omega,trivial,?_⟩;exact map_take hi
  ·rintro acc loc h ⟨rfl,rfl⟩;refine⟨by rw[Dc (o.at 0 rfl),fA (by simp)],?_⟩;rw[rZ];refine o.hn λl2 H o=>?_;simp! only[KX,Ti];refine o.hn λl3 H o=>?_;simp! only[Ti];refine o.hn λl4 H o=>?_;have en:Cv (l.map V.int) []=some (decide (l=[])):=EX (b:=[]);have rest:∀loc H lm,lk "script" loc=some (.fl (l.map .int))->lk "marks" loc=some (.ref lm)->BB H [(lm,.list (ML (marks l))),(c2,.cell none),(c1,.cell none)]->A loc H:=by
    intro loc H lm k1 k2 o;apply hA;clear hA A;have ml:(ML (marks l)).length=(marks l).length:=eP ..;obtain⟨S,hS⟩:=LN (marks l);have ai:Bt (ML (marks l))=some ((marks l).map λ(i:Nat)=>(i:Int)):=by
     have:=Dv (m:=(marks l).map λ(i:Nat)=>(i:Int))
     rwa [qI] at this
    obtain⟨sp,kY⟩:∃sp,sp=2+S%12:=⟨_,rfl⟩;have fU:2<=sp/\sp<=13:=by omega
    have lR:(2:Int)+(S:Int)%12=(sp:Int):=by omega
    obtain⟨many,fN⟩:∃many:Nat,many=if 1<l.length then 2 else 1:=⟨_,rfl⟩
    have jo:1<=many/\many<=2:=by rw[fN];split<;>omega
    have fO:(1:Int)+(if decide ((1:Int)<((l.map V.int).length:Nat))=true then 1 else 0)=(many:Int):=by
     rw[eP,fN];by_cases h:1<l.length
     ·rw[UQ h,qy ⋯,UQ rfl];rfl
     ·rw[T8 h,qA ⋯,T8 ⋯];rfl
    refine CD (a:=[_]) λA hA=>?_;simp! only[↓AK k1,↓AK k2,o.at 0 rfl,ai,hS,fO,lR,(by decide:(0:Int)<12),KX,Ti];have rest:∀loc H,lk "marks" loc=some (.ref lm)->lk "spare" loc=some (.int sp)->lk "many" loc=some (.int many)->BB H [(lm,.list (ML (marks l))),(c2,.cell none),(c1,.cell none)]->A loc H:=by
     intro loc H k2 k3 k4 o;apply hA;clear hA A;refine CD (a:=[_]) λA hA=>?_;simp! only[↓AK k3];refine QG o fU.1 fU.2 λH dk kp lt uf w f o=>?_;simp! only[];apply hA;clear hA A;refine CD (a:=[_]) λA hA=>?_;have gO:∀k,Ci (Lb (K0 sp) k):=λk=>by
      rw[Hr];split
      ·exact HM sp
      ·split
       ·exact NE
       ·exact KB
     simp! only[];refine Kl o fU.1 fU.2 (by rw[Hr,UQ rfl]) (by simp [K0]) (λq hq=>by simp [K0] at hq;rcases hq with rfl|rfl<;>dsimp only<;>omega) gO λHn p ns s tb hps iN on=>?_;subst hps iN;simp! only[Ti];refine on.hn λrl H o=>?_;simp! only[Ti];refine o.hn λml H o=>?_;simp! only[KX,Ti,o.at 6 rfl];refine o.hs 6 rfl λH o=>?_;simp! only[];apply hA;clear hA A;replace o:=o.sel (A:=[_,_,_,_,_,_,_,_]) (T:=[]) [2,3,4,6,7,1,0,5] ⋯;refine seq λA hA=>?_;have lS:lk "marks" (pt "models" (.ref ml) (pt "rows" (.ref rl) (pt "disk" (.ref p.dk) loc)))=some (.ref lm):=by simpa [AD,ofString_eq] using k2
     have lT:lk "spare" (pt "models" (.ref ml) (pt "rows" (.ref rl) (pt "disk" (.ref p.dk) loc)))=some (.int p.sp):=by simpa [AD,ofString_eq] using k3
     have iB:lk "many" (pt "models" (.ref ml) (pt "rows" (.ref rl) (pt "disk" (.ref p.dk) loc)))=some (.int many):=by simpa [AD,ofString_eq] using k4
     have c0:(many:Int).natAbs<=lid:=by unfold lid;omega
     simp! only[↓AK k4,c0];refine CH (λi loc h=>lk "marks" loc=some (.ref lm)/\lk "spare" loc=some (.int p.sp)/\lk "many" loc=some (.int many)/\lk "disk" loc=some (.ref p.dk)/\lk "rows" loc=some (.ref rl)/\lk "models" loc=some (.ref ml)/\∃B T rs v X,rs.length=i/\LB 0 p.sp B rs p.sp/\TB 0 T rs/\
      Ow (JP p B [] 0 []) ((ns,Bu p s tb)::(s,CM p.sp)::(tb,.U' T)::(c2,.cell (some (.ref ns)))::(c1,.cell v)::(rl,.list (rs.map λr=>.ref r.nd))::(ml,.list (rs.map λr=>.ref r.md))::(lm,.list (ML (marks l)))::(G9 ns 1 rs++X)) h) many ?_ ?_ _ 0 _ _ (by simp) (el _) ⟨lS,lT,iB,by simp [AD,ofString_eq],by simp [AD,ofString_eq],by simp [AD,ofString_eq],_,[],[],none,[],rfl,cw fU.2,⟨List.Pairwise.nil,(λj r h=>by simp at h),(λ_ _=>rfl),el _,el _⟩,o⟩
     ·rintro i loc h hi ⟨k2,k3,k4,k5,k6,k7,B,T,rs,v,X,hrs,lb,tt,o⟩;refine⟨.int i,by rw[Do,UQ ⋯];congr 3;omega,?_⟩;simp! only[o.at 3 rfl];refine BC o λH o=>?_;rw[Ae rfl rfl]
      change W (AU _ _ [("nodes",c2)] [] H) _ _
      simp! only[o.at 3 rfl,o.at 0 rfl];have rows:∀m,1<=m->m<=3->∃l sz g,Row B m (if m<=i then 2 else 0) l sz g:=λm h1 h3=>by
       by_cases hm:m<=i
       ·have hj:rs[m-1]? =some rs[m-1]:=d6 ⋯;have f:=(lb.fo (m-1) _ hj).row;rw[show 0+1+(m-1)=m by omega] at f;rw[UQ hm];exact⟨_,_,_,f⟩
       ·rw[T8 hm];exact lb.rf m h1 h3 (.inr ⋯)
      have bk:=JP.b o;refine H9 o (λm=>if m<=i then 2 else 0) rows (by have:=tt.l;unfold lid;omega) (by simp) (λm h1 h3 hm hlt H nd pl o=>?_) (λh=>absurd (T8 ⋯) (h (i+1) ⋯ ⋯));have hmi:m=i+1:=by
       by_cases h5:m<=i
       ·rw[UQ h5] at hm;omega
       ·have h6:m<=i+1:=by
         rcases Nat.lt_or_ge (i+1) m with h7|h7
         ·exact absurd (T8 ⋯) (hlt (i+1) ⋯ h7)
         ·exact h7
        omega
      subst hmi;obtain⟨u1,u2,u3,u4⟩:=Row.put (kd:=2) (lk:=0) ⋯ ⋯ ⋯ (bk _) lb.fs rfl;refine⟨_,_,_,o,λB3 H ag o=>?_⟩;have w1:=(u1.ag ag).1;have w2:=u2.trans (FI.ag u1 ag);have w4:B3 13=B 13:=by rw[ag.hi 13 ⋯,u4]
      clear u1 u2 u3 u4 ag;simp! only[o.at 6 rfl];refine o.hs 6 rfl λH o=>?_;simp! only[o.at 6 rfl,o.at 2 rfl];refine o.hs 2 rfl λH o=>?_;simp! only[o.at 5 rfl];refine BC o λH o=>?_;rw[Ae rfl rfl]
      change W (AU _ _ [("node",c1)] [] H) _ _
      simp! only[o.at 6 rfl,o.at 2 rfl];refine (QY (o.at 0 rfl) (o.at 2 rfl)).mpr ?_;have lU:=JP.b o;refine update (g:=g0) (kind:=2) (links:=1) (size:=0) o ⋯ ⋯ ⋯ ⋯ (λ_ _=>uO _) (.inr (by simp)) λH o=>?_;obtain⟨u1,u2,u3,u4⟩:=Row.put (kd:=2) (lk:=1) ⋯ ⋯ (by omega:i+1<=3) (lU _) w1 rfl;refine⟨_,_,_,o,λB4 H ag o=>?_⟩;have w1:=(u1.ag ag).1;have w2:=w2.trans (u2.trans (FI.ag u1 ag));have w3:=u3.ag ag ⋯;have w4:B4 13=B 13:=by rw[ag.hi 13 ⋯,u4,w4]
      clear u1 u2 u3 u4 ag;have en:decide (((i+1:Nat):Int)=(i:Int)+1)=true:=by simp
      have lr:(rs.map λr=>V.ref r.nd).length<lid:=by simp;unfold lid;omega
      have lV:(rs.map λr=>V.ref r.md).length<lid:=by simp;unfold lid;omega
      simp! only[o.at 6 rfl,o.at 2 rfl,en,↓AK k6,o.at 7 rfl,lr];refine o.hs 7 rfl λH o=>?_;simp! only[↓AK k7,o.at 8 rfl,Ti];refine o.hn λbl H o=>?_;simp! only[lk,fx,qH];refine o.hn λmd H o=>?_;simp! only[o.at 10 rfl,lV];refine o.hs 10 rfl λH o=>?_;simp! only[];have lW:=lb.add (nd:=nd) (pl:=pl) (md:=md) (bl:=bl) ⋯ w1 (by rw[hrs];exact w2) (by rw[hrs];exact w3) (by rw[w4];exact lb.fr);have jq:=tt.add (nd:=nd) (pl:=pl) (md:=md) (bl:=bl) ⋯;rw[hrs] at jq;refine⟨by simpa [AD,ofString_eq] using k2,by simpa [AD,ofString_eq] using k3,by simpa [AD,ofString_eq] using k4,by simpa [AD,ofString_eq] using k5,by simpa [AD,ofString_eq] using k6,by simpa [AD,ofString_eq] using k7,B4,_,rs++[⟨nd,pl,md,bl,g0,[],[],false⟩],some (.ref nd),X,by simp [hrs],lW,jq,?_⟩;rw[gL,gL,Ng];have o5:=o.sel (A:=[_,_,_,_,_,_,_,_,_,_,_,_]) [2,3,6,7,8,9,10,11,4,5,0,1] ⋯;replace o5:Ow (JP p B4 [] 0 []) ([(ns,Bu p s tb),(s,CM p.sp),(tb,.U' (Ar ((i+1:Nat):Int) (V.ref nd) T)),(c2,.cell (some (.ref ns))),(c1,.cell (some (.ref nd))),(rl,.list (rs.map (λr=>V.ref r.nd)++[.ref nd])),(ml,.list (rs.map (λr=>V.ref r.md)++[.ref md])),(lm,.list (ML (marks l)))]++(fc ns (i+1) ⟨nd,pl,md,bl,g0,[],[],false⟩++(G9 ns 1 rs++X))) H:=o5;rw[show 1+rs.length=i+1 by omega];refine o5.perm (List.Perm.append_left _ ?_);show List.Perm _ ((G9 ns 1 rs++fc ns (i+1) ⟨nd,pl,md,bl,g0,[],[],false⟩)++X);rw[kt];exact iq _ _ _
     ·rintro loc h ⟨k2,k3,k4,k5,k6,k7,B,T,rs,v,X,hrs,lb,tt,o⟩;refine⟨by rw[Do,T8 ⋯],?_⟩;rw[Au];apply hA;clear hA A;refine CD (a:=[_]) λA hA=>?_;simp! only[↓AK k3];apply hA;clear hA A;refine seq λA hA=>?_;simp! only[o.at 7 rfl,AD,ofString_eq,k2];refine CH (λi loc h=>lk "marks" loc=some (.ref lm)/\lk "spare" loc=some (.int p.sp)/\lk "many" loc=some (.int many)/\lk "disk" loc=some (.ref p.dk)/\lk "rows" loc=some (.ref rl)/\lk "models" loc=some (.ref ml)/\∃B T rs v X free,lk "free" loc=some (.int (free:Nat))/\rs.length=many/\LB 0 p.sp B rs free/\TB 0 T rs/\
       Ow (JP p B [] 0 []) ((ns,Bu p s tb)::(s,CM p.sp)::(tb,.U' T)::(c2,.cell (some (.ref ns)))::(c1,.cell v)::(rl,.list (rs.map λr=>.ref r.nd))::(ml,.list (rs.map λr=>.ref r.md))::(lm,.list (ML (marks l)))::(G9 ns 1 rs++X)) h) (marks l).length ?_ ?_ _ 0 _ _ (by rw[eP];omega) (el _) ⟨by simpa [AD,ofString_eq] using k2,by simpa [AD,ofString_eq] using k3,by simpa [AD,ofString_eq] using k4,by simpa [AD,ofString_eq] using k5,by simpa [AD,ofString_eq] using k6,by simpa [AD,ofString_eq] using k7,B,T,rs,v,X,p.sp,by simp [AD],hrs,lb,tt,o⟩
      ·clear lb tt o k2 k3 k4 k5 k6 k7 hrs;rintro i loc h hi ⟨k2,k3,k4,k5,k6,k7,B,T,rs,v,X,free,k8,hrs,lb,tt,o⟩;have hk:(ML (marks l))[i]? =some (.int ((marks l)[i]:Nat)):=by rw[fw,d6 hi];rfl
       have hkb:(marks l)[i]<1000000000000:=m3 _ (qe _);generalize (marks l)[i]=k at hk hkb;refine⟨.tup [.int i,.int k],by rw[HC (o.at 7 rfl),hk];rfl,?_⟩;obtain⟨j,hj⟩:∃j,j=i%many:=⟨_,rfl⟩;have jr:j<rs.length:=by rw[hrs,hj];exact Nat.mod_lt _ ⋯
       have ej:(i:Int)%(many:Int)=(j:Int):=by rw[hj];omega
       have lX:(j:Int)+1=((0+1+j:Nat):Int):=by omega
       have mp:(0:Int)<many:=by omega
       obtain⟨r,hr⟩:∃r,rs[j]? =some r:=⟨_,d6 jr⟩;have fo:=lb.fo j r hr;obtain⟨Y,hY⟩:=Ia (ns:=ns) (st:=0+1) jr;have hself:rs.set j r=rs:=by
        obtain⟨h1,h2⟩:=dt.mp hr;rw[←h2];exact rW h1
       have pk:∀r' (six:HL),(six++(G9 ns (0+1) (rs.set j r')++X)).Perm (fc ns (0+1+j) r'++(six++(Y++X))):=λr' six=>
        (((((hY r').append_right X).trans (by rw[kt])).append_left six).trans (iq _ _ _))
       have o1:Ow (JP p B [] 0 []) (lF p ns s tb (0+1+j) r ([(tb,.U' T),(c2,.cell (some (.ref ns))),(c1,.cell v),(rl,.list (rs.map λr=>.ref r.nd)),(ml,.list (rs.map λr=>.ref r.md)),(lm,.list (ML (marks l)))]++(Y++X))) h:=by
        refine o.perm (((List.Perm.cons _ (List.Perm.cons _ ?_))))
        have:=pk r [(tb,.U' T),(c2,.cell (some (.ref ns))),(c1,.cell v),(rl,.list (rs.map λr=>.ref r.nd)),(ml,.list (rs.map λr=>.ref r.md)),(lm,.list (ML (marks l)))]
        rw[hself] at this;exact this
       have s1:∀H,H[rl]? =some (.list (rs.map λr=>V.ref r.nd))->BM (.ref rl) (.int j) H=some (.ref r.nd):=λH h=>Ga h (by rw[fw,hr];rfl);have s2:∀H,H[ml]? =some (.list (rs.map λr=>V.ref r.md))->BM (.ref ml) (.int j) H=some (.ref r.md):=λH h=>Ga h (by rw[fw,hr];rfl);simp! only[KX,Ti,↓AK k4,↓AK k6,↓AK k7,↓AK k8,mp,ej,o1.at 7 rfl,s1 _ (o1.at 9 rfl),s2 _ (o1.at 10 rfl)];refine Mr o1 lb.fs (Dx hr) fo ⋯ hkb λH B' r' dP e1 e2 p1 p2 p3 p4 o1=>?_;simp! only[↓AK k6,↓AK k7,ej,lX,s1 _ (o1.at 9 rfl),s2 _ (o1.at 10 rfl)];rw[←e1,←e2];refine LK o1 p1 (UQ rfl) p2 λH o1=>?_;simp! only[o1.at 7 rfl,o1.at 0 rfl];refine Bz o1 λH o1=>?_;have ef:((cf (B' 13) p.sp:Nat):Int)=(dP:Int):=by have:=p2.rel.f;dsimp only at this;omega
       simp! only[ef,dT];refine⟨by simpa [AD,ofString_eq] using k2,by simpa [AD,ofString_eq] using k3,by simpa [AD,ofString_eq] using k4,by simpa [AD,ofString_eq] using k5,by simpa [AD,ofString_eq] using k6,by simpa [AD,ofString_eq] using k7,B',T,rs.set j r',v,X,dP,by simp [AD],by rw[nw];exact hrs,lb.set hr p1 p2 p3 p4,tt.set hr e1,?_⟩;rw[Ux hr e1,U1 hr e2];refine o1.perm ((List.Perm.cons _ (List.Perm.cons _ ?_)));exact (pk r' [(tb,.U' T),(c2,.cell (some (.ref ns))),(c1,.cell v),(rl,.list (rs.map λr=>.ref r.nd)),(ml,.list (rs.map λr=>.ref r.md)),(lm,.list (ML (marks l)))]).symm
      ·clear lb tt o k2 k3 k4 k5 k6 k7 hrs;rintro loc h ⟨k2,k3,k4,k5,k6,k7,B,T,rs,v,X,free,k8,hrs,lb,tt,o⟩;refine⟨by rw[HC (o.at 7 rfl),fA (by simp)];rfl,?_⟩;rw[Au];apply hA;clear hA A;refine seq λA hA=>?_;have fP:∀H B T v,LB 0 p.sp B rs free->TB 0 T rs->Ow (JP p B [] 0 []) ((ns,Bu p s tb)::(s,CM p.sp)::(tb,.U' T)::(c2,.cell (some (.ref ns)))::(c1,.cell v)::(rl,.list (rs.map λr=>.ref r.nd))::(ml,.list (rs.map λr=>.ref r.md))::(lm,.list (ML (marks l)))::(G9 ns 1 rs++X)) H->A loc H:=by
        clear lb tt o;intro H B T v lb tt o;apply hA;clear hA A;refine CD (a:=[_]) λA hA=>?_;have lY:=JP.b o;obtain⟨kp,lt,uf,w,f,K,X2,od,hB,kn,kr,back⟩:=JP.YG o;simp! only[↓AK k5,od.at 0 rfl];refine Og od ⋯ λH b gE lt' eU od=>?_;simp! only[];refine Kl od fU.1 fU.2 (by rw[hB];exact lb.sb) kn kr (by rw[hB];exact lY) λH p2 fQ s2 jt hp2 _ o=>?_;rw[hB] at o;simp! only[];apply hA;clear hA A od;refine seq λA hA=>?_;have iB:lk "many" (pt "later" (.ref fQ) loc)=some (.int many):=by simpa [AD,ofString_eq] using k4
        have c0:(many:Int).natAbs<=lid:=by unfold lid;omega
        simp! only[↓AK iB,c0];refine CH (λi loc h=>lk "marks" loc=some (.ref lm)/\lk "spare" loc=some (.int p.sp)/\lk "rows" loc=some (.ref rl)/\lk "models" loc=some (.ref ml)/\lk "free" loc=some (.int free)/\lk "later" loc=some (.ref fQ)/\∃T2,(∀m:Nat,i<m->Bm m T2=none)/\T2.length<=i/\
         Ow (JP p2 B [] 0 []) ((fQ,Bu p2 s2 jt)::(s2,CM p2.sp)::(jt,.U' T2)::(DC p.dk kp lt uf (14+p.sp) w f K K []++(((ns,Bu p s tb)::(s,CM p.sp)::(tb,.U' T)::(c2,.cell (some (.ref ns)))::(c1,.cell v)::(rl,.list (rs.map λr=>.ref r.nd))::(ml,.list (rs.map λr=>.ref r.md))::(lm,.list (ML (marks l)))::(G9 ns 1 rs++X))++X2))) h) many ?_ ?_ _ 0 _ _ (by simp) (el _) ⟨by simpa [AD,ofString_eq] using k2,by simpa [AD,ofString_eq] using k3,by simpa [AD,ofString_eq] using k6,by simpa [AD,ofString_eq] using k7,by simpa [AD,ofString_eq] using k8,by simp [AD],[],(λ_ _=>rfl),el _,o⟩
        ·clear o k2 k3 k4 iB k5 k6 k7 k8;rintro i loc h hi ⟨k2,k3,k6,k7,k8,k9,T2,t1,t2,o⟩;refine⟨.int i,by rw[Do,UQ ⋯];congr 3;omega,?_⟩;have ei:(i:Int)+1=((i+1:Nat):Int):=by omega
         obtain⟨r,hr⟩:∃r,rs[i]? =some r:=⟨_,d6 ⋯⟩;have fo:=lb.fo i r hr;rw[show 0+1+i=i+1 by omega] at fo;simp! only[↓AK k9,ei,o.at 0 rfl];refine Hg o ⋯ ⋯ (t1 (i+1) ⋯) (by unfold lid;omega) fo.row (λ_ H nd pl o=>?_) (λh=>absurd h ⋯);obtain⟨Y,hY⟩:=Ia (ns:=ns) (st:=0+1) (rs:=rs) (j:=i) ⋯;have hself:rs.set i r=rs:=by
          obtain⟨h1,h2⟩:=dt.mp hr;rw[←h2];exact rW h1
         have ju:=hY r;rw[hself] at ju;have pk:∀L:HL,(L++((G9 ns (0+1) rs++X)++X2)).Perm (fc ns (0+1+i) r++(L++((Y++X)++X2))):=λL=>
          (((((ju.append_right X).append_right X2).trans (by rw[kt,kt,kt])).append_left L).trans (iq _ _ _))
         have s2':BM (.ref ml) (.int i) H=some (.ref r.md):=Ga (o.at 15 rfl) (by rw[fw,hr];rfl);simp! only[↓AK k2,↓AK k7,s2',ei,o.at 16 rfl,ai,hS];replace o:Ow (JP p2 B [] 0 []) ([_,_,_,_,_,_,_,_,_,_,_,_,_,_,_,_,_]++((G9 ns (0+1) rs++X)++X2)) H:=o;replace o:=o.perm (pk _);replace o:=o.sel (A:=[_,_,_,_,_,_,_,_,_,_,_,_,_,_,_,_,_,_,_,_,_]) [6,7,4,5,2,3,0,1,8,9,10,11,12,13,14,15,16,17,18,19,20] ⋯;have lZ:FS p2.sp B (GG 0 rs):=by rw[hp2];exact lb.fs
         have lq:FO p2.sp B (i+1) ⟨nd,pl,r.md,r.bl,r.g,r.own,r.M,r.nm⟩ free:=by rw[hp2];exact⟨fo.rel,fo.ct,fo.oc,fo.len,fo.row⟩
         refine LK (r:=⟨nd,pl,r.md,r.bl,r.g,r.own,r.M,r.nm⟩) (k:=S) (num:=i+1) o lZ (by have:=Dx (st:=0) hr;rw[show 0+1+i=i+1 by omega] at this;exact this) lq λH o=>?_;simp! only[];refine⟨by simpa [AD,ofString_eq] using k2,by simpa [AD,ofString_eq] using k3,by simpa [AD,ofString_eq] using k6,by simpa [AD,ofString_eq] using k7,by simpa [AD,ofString_eq] using k8,by simpa [AD,ofString_eq] using k9,Ar ((i+1:Nat):Int) (.ref nd) T2,λm hm=>by rw[Bk,T8 ⋯];exact t1 m ⋯,lv DT ⋯,?_⟩;replace o:=o.sel (A:=[_,_,_,_,_,_,_,_,_,_,_,_,_,_,_,_,_,_,_,_,_]) [6,7,4,5,0,1,8,9,10,11,12,13,14,15,16,17,18,19,20] ⋯;replace o:Ow (JP p2 B [] 0 []) (fc ns (0+1+i) r++([_,_,_,_,_,_,_,_,_,_,_,_,_,_,_]++((Y++X)++X2))) H:=o;exact o.perm (pk _).symm
        ·rintro loc h ⟨k2,k3,k6,k7,k8,k9,T2,t1,t2,o⟩;refine⟨by rw[Do,T8 ⋯],?_⟩;rw[Au];apply hA;clear hA A;have pL:=o.at 10 rfl;simp! only[↓AK k9,o.at 0 rfl];refine Bz o λH o=>?_;have ef:((cf (B 13) p2.sp:Nat):Int)=(free:Int):=by rw[hp2];have:=lb.fr;omega
         simp! only[ef,↓AK k3,↓AK k6,↓AK k8,dT,o.at 10 rfl];obtain⟨C,_,ow⟩:=o;have ly:=back H (BB.drops (L:=[_,_,_]) (BB.drops (L:=C) ow));have pm:(([(c2,.cell (some (.ref ns))),(c1,.cell v),(ml,.list (rs.map λr=>.ref r.md)),(lm,.list (ML (marks l)))]:HL)++(G9 ns (0+1) rs++X)).Perm (G9 ns (0+1) rs++([(c2,.cell (some (.ref ns))),(c1,.cell v),(ml,.list (rs.map λr=>.ref r.md)),(lm,.list (ML (marks l)))]++X)):=iq _ _ _;refine OR ((ly.sel (A:=[_,_,_,_,_,_,_,_]) [5,0,1,2,3,4,6,7] ⋯).perm (List.Perm.cons _ (List.Perm.cons _ (List.Perm.cons _ (List.Perm.cons _ pm))))) lb tt (λh=>by rw[h] at hrs;simp at hrs;omega) λH=>?_;rfl
       by_cases hm1:many=1
       ·have g1:¬(1:Int)<many:=by omega
        simp! only[↓AK k4,g1,dq];exact fP _ B T v lb tt o
       ·have g1:(1:Int)<many:=by omega
        simp! only[↓AK k4,g1,dT];refine OH o λH o=>?_;cases hrr:rs with
        |nil=>rw [hrr] at hrs;simp at hrs;omega
        |cons r0 rs'=>
         subst hrr;have s0:BM (.ref rl) (.int 0) H=some (.ref r0.nd):=Ga (i:=0) (o.at 5 rfl) rfl;simp! only[o.at 3 rfl,↓AK k3,↓AK k6,s0];have pm:∀{T:List (Int×V)}{v:Option V},(([(c2,.cell (some (.ref ns))),(c1,.cell v),(rl,.list ((r0::rs').map λr=>.ref r.nd)),(ml,.list ((r0::rs').map λr=>.ref r.md)),(lm,.list (ML (marks l)))]:HL)++(G9 ns (0+1) (r0::rs')++X)).Perm (G9 ns (0+1) (r0::rs')++([(c2,.cell (some (.ref ns))),(c1,.cell v),(rl,.list ((r0::rs').map λr=>.ref r.nd)),(ml,.list ((r0::rs').map λr=>.ref r.md)),(lm,.list (ML (marks l)))]++X)):=iq _ _ _;refine Kd (o.perm (List.Perm.cons _ (List.Perm.cons _ (List.Perm.cons _ (pm (T:=T)))))) lb tt (by simp at hrs;omega) λH B T lb tt o=>?_;simp! only[];exact fP _ B T v lb tt (o.perm (List.Perm.cons _ (List.Perm.cons _ (List.Perm.cons _ (pm (T:=T)).symm))))
    exact rest _ _ (by simp [AD,ofString_eq,k2]) (by simp [AD,ofString_eq]) (by simpa [AD,ofString_eq] using fO) o
   have fin:∀loc H lm X,X=ML (marks l)->lk "script" loc=some (.fl (l.map .int))->lk "marks" loc=some (.ref lm)->BB H [(lm,.list X),(c2,.cell none),(c1,.cell none)]->A loc H:=λloc H lm X e=>by subst e;exact rest loc H lm
   by_cases hl:l=[]
   ·have iW:Cv (l.map V.int) []=some true:=by rw[en,qy hl]
    have hb:(l.take 9).length+(0+1)<=lid:=by simp;unfold lid;omega
    have hb':(l.take 9).length+1<=lid:=hb;simp! only[o.at 0 rfl,o.at 1 rfl,iW,dT,(by decide:(0<=(1:Int)/\(1:Int)<=3/\0+1<=1000)),(by decide:((0:Int)<=1)=True),(by decide:((1:Int)<=3)=True),KX,Ti];refine o.hn λl5 H o=>?_;replace o:BB H ((l5,.list [.int 558614])::_):=o;simp! only[o.at 0 rfl,o.at 3 rfl,eP,KX,Ti,hb,hb'];refine o.hn λl6 H o=>?_;simp! only[];exact fin _ _ l6 _ (by unfold marks;rw[UQ hl];subst hl;rfl) (by simp [AD,ofString_eq]) (by simp [AD]) (o.sel (A:=[_,_,_,_,_,_,_,_]) (T:=[]) [0,6,7] ⋯)
   ·have hb:(l.take 9).length<=lid:=by simp;unfold lid;omega
    have iW:Cv (l.map V.int) []=some false:=by rw[en,qA hl]
    simp! only[o.at 0 rfl,o.at 1 rfl,iW,dq,(by decide:(0<=(0:Int)/\(0:Int)<=3/\0+1<=1000)),(by decide:((0:Int)<=0)=True),(by decide:((0:Int)<=3)=True),KX,Ti];refine o.hn λl5 H o=>?_;replace o:BB H ((l5,.list [])::_):=o;simp! only[o.at 0 rfl,o.at 3 rfl,eP,Ti,rQ,hb,nz];refine o.hn λl6 H o=>?_;simp! only[];exact fin _ _ l6 _ (by unfold marks;rw[T8 hl,qI];rfl) (by simp [AD,ofString_eq]) (by simp [AD]) (o.sel (A:=[_,_,_,_,_,_,_,_]) (T:=[]) [0,6,7] ⋯)
 obtain⟨v,H',e,rfl⟩:=Nn key;exact⟨H',e⟩
end Fsx
namespace Fsx
open PySem PySem.W PySem.Calls PyProof.Rows
local macro_rules |`(⋯)=>`(by first|decide+kernel|omega)
def DB:Code->Bool
 | .builtin id _=> !Builtin.Bytes.decodersThatHold.contains id
 |_=>true
def Calm (Γ:Ctx):Prop:=DB Γ.code=true/\∀x∈Γ.below,DB x.1=true
def Ai {α:Type}(M:Model) (A:Around) (t:Sem α) (Q:α->Shared->Prop) (E:Value->Shared->Prop) (s:Shared):Prop:=
 ∀Γ p,Γ.In A->Calm Γ->Sem.wp M Γ t (λa _ s'=>Q a s') (λe _ s'=>E e s') p s
def codeN (M:Model) (A:Around) (c:Code) (R:Result->Shared->Prop) (s:Shared):Prop:=
 ∀Γ p,Γ.code=c->Γ.Below A->Calm Γ->wpCode M Γ R p s
variable {A:Around}{E:Value->Shared->Prop}{α:Type}{Q:α->Shared->Prop}{R:Result->Shared->Prop}{c:Code}{m:Sem α}{s:Shared}{vs:List Value}
section
variable {β:Type}{M:Model}
theorem AL {t:Sem α}(h:wpAny M A t Q E s):Ai M A t Q E s:=fun Γ p hΓ _=>h Γ p hΓ
theorem LE (h:codeAny M A c R s):codeN M A c R s:=fun Γ p hc hΓ _=>h Γ p hc hΓ
theorem AB {a:α}(h:Q a s):Ai M A (pure a) Q E s:=λ_ _ _ _=>h
theorem AG {t:Sem α}{Q':α->Shared->Prop}{E':Value->Shared->Prop}(h:Ai M A t Q E s) (hQ:∀a s,Q a s->Q' a s) (hE:∀e s,E e s->E' e s):Ai M A t Q' E' s:=
 fun Γ p hΓ hc=>rm M Γ t (λa _ s=>hQ a s) (λe _ s=>hE e s) p s (h Γ p hΓ hc)
theorem AA {f:α->Sem β}{Q:β->Shared->Prop}(h:Ai M A m (λa s'=>Ai M A (f a) Q E s') E s):
  Ai M A (m>>=f) Q E s:=fun Γ p hΓ hc=>by
 rw[uL];exact rm M Γ m (λa p' s' h'=>h' Γ p' hΓ hc) (λ_ _ _ h'=>h') p s (h Γ p hΓ hc)
theorem AJ {f:α->Sem β}{Q:β->Shared->Prop}(h:wpAny M A m (λa s'=>Ai M A (f a) Q E s') E s):Ai M A (m>>=f) Q E s:=AA (AL h)
theorem Ra {k:Value->Sem α}(h:Ai M A m Q (λe s'=>Ai M A (k e) Q E s') s):
  Ai M A (tryCatch m k) Q E s:=fun Γ p hΓ hc=>by
 rw[Sem.wp_tryCatch'];exact rm M Γ m (λ_ _ _ h'=>h') (λe p' s' h'=>h' Γ p' hΓ hc) p s (h Γ p hΓ hc)
theorem Aq {k:Value->Sem Unit}(h:Ai M A m Q (λe s'=>Ai M A (k e) (λ_ s''=>E e s'') E s') s):Ai M A (m.onRaise k) Q E s:=fun Γ p hΓ hc=>by
 rw[Sem.wp_onRaise];exact rm M Γ m (λ_ _ _ h'=>h') (λe p' s' h'=>h' Γ p' hΓ hc) p s (h Γ p hΓ hc)
theorem Ee {Q:Except Value α->Shared->Prop}(h:Ai M A m (λa=>Q (.ok a)) (λe=>Q (.error e)) s):
  Ai M A m.attempt Q E s:=fun Γ p hΓ hc=>by rw[Sem.wp_attempt];exact h Γ p hΓ hc
theorem AM (h:Ai M A m Q E s):Ai M A (holding vs m) Q E s:=
 fun Γ p hΓ hc=>by rw[Sem.wp_holding];exact h Γ p hΓ hc
theorem RL (h:Ai M A m Q E s):Ai M A (m.keep vs) Q E s:=
 fun Γ p hΓ hc=>by rw[Sem.wp_keep];exact h Γ p hΓ hc
theorem C8 {tag:String}{Q:Unit->Shared->Prop}(h:Q () s):Ai M A (rule tag) Q E s:=λ_ _ _ _=>h
theorem AY {pos:Pos}{Q:Unit->Shared->Prop}(h:Q () s):Ai M A (standAt pos) Q E s:=λ_ _ _ _=>h
theorem En {Q:Unit->Shared->Prop}(h:Q () s):Ai M A point Q E s:=λ_ _ _ _=>h
theorem DK {m:Sem Value}{Q:Value->Shared->Prop}(h:Ai M A m Q E s):Ai M A (operate vs m) Q E s:=fun Γ p hΓ hc=>by
 rw[Sem.wp_operate];exact h Γ p hΓ hc
theorem DI {keep:List Value}{Q:Unit->Shared->Prop}(h:Q () s):Ai M A (release vs keep) Q E s:=AL (wpAny_release' h)
theorem Az {t:Sem α}{a:α}(e:t=pure a) (h:Q a s):Ai M A t Q E s:=by rw[e];exact AB h
theorem Xp {t:Sem α}(h:Ai M A.in1 t Q E s):Ai M A t Q E s:=
 fun Γ p hΓ=>h Γ p ⟨hΓ.1,hΓ.2.1,hΓ.2.2.1,hΓ.2.2.2.1,Nat.le_succ_of_le hΓ.2.2.2.2⟩
theorem Calm.enter {Γ:Ctx}(h:Calm Γ) {c:Code}(hc:DB c=true) (hd:Option Value) (p:Pos):Calm (Γ.enter c hd p):=
 ⟨hc,λx hx=>by
  rcases fg.mp hx with rfl|hx
  ·exact h.1
  ·exact h.2 x hx⟩
theorem Calm.goto {Γ:Ctx}(h:Calm Γ) {c:Code}(hc:DB c=true):Calm (Γ.goto c):=⟨hc,h.2⟩
theorem A6 {R':Result->Shared->Prop}(h:codeN M A c R s) (hR:∀r s,R r s->R' r s):codeN M A c R' s:=
 fun Γ p hc hΓ hn=>wpCode_mono hR (h Γ p hc hΓ hn)
theorem Nq {h:Option Value}{Q:Flow->Shared->Prop}(hn:DB c=true) (hc:codeN M (A.mark h) c (λr s'=>match r with| .ok f=>Q f s'| .error e=>E e s') s) (hnb:h≠some byPass:=by intro x;cases x):
  Ai M A (run c h) Q E s:=
 fun Γ p hΓ hq=>by rw[Sem.wp_run];exact hc _ p rfl (hΓ.enter c h p hnb) (hq.enter hn h p)
theorem KM {Q:Value->Shared->Prop}(hn:DB c=true) (hc:codeN M A c (λr s'=>match r with| .ok (.ret v)=>Q v s'| .ok _=>False| .error e=>E e s') s):
  Ai M A (runValue c) Q E s:=fun Γ p hΓ hq=>by rw[Sem.wp_runValue];exact hc _ p rfl (hΓ.enter c none p (by intro x;cases x)) (hq.enter hn none p)
theorem Bl {f:Value}{pos:List Value}{kw:List (Str×Value)}{Q:Value->Shared->Prop}(hc:codeN M A (.call f ⟨pos,kw⟩) (λr s'=>match r with| .ok (.ret v)=>Q v s'| .ok _=>False| .error e=>E e s') s):
  Ai M A (PySem.call f pos kw) Q E s:=KM rfl hc
theorem AS (h:Ai M (A.under c) (M.den c) (λfin s'=>match fin with| .done f=>R (.ok f) s'| .again c'=>c'.quiet=true/\DB c'=true/\codeN M A c' R s')
   (λe s'=>R (.error e) s') s):codeN M A c R s:=fun Γ p hc hΓ hn=>by
 rw[wpCode_iff_wp,hc];refine rm M Γ _ (λfin p' s' h'=>?_) (λ_ _ _ h'=>h') p s (h Γ p (hc▸hΓ.in) hn);cases fin with
 |done f=>exact h'
 |again c'=>exact ⟨h'.1,h'.2.2 (Γ.goto c') p' rfl (hΓ.goto c') (hn.goto h'.2.1)⟩
theorem FJ {f:Code×Pos->Bool}{Q:Bool->Shared->Prop}(hg:A.guards=some []) (hf:∀c p,c.isGuard=false->DB c=true->f (c,p)=false) (h:Q false s):Ai M A (do return (←stack).any f) Q E s:=fun Γ p hΓ hn=>by
 have all:∀l:List (Code×Pos),guardsOf l=[]->(∀x∈l,DB x.1=true)->l.any f=false:=by
  intro l
  induction l with
  |nil=>intros;rfl
  |cons x l ih=>
   intro h1 h2;obtain⟨c,p⟩:=x;rw[guardsOf_cons] at h1;have h3:=List.append_eq_nil_iff.mp h1;have h4:c.isGuard=false:=by
    cases hg:c.isGuard with
    |false=>rfl
    |true=>simp [Code.guards,hg] at h3
   rw[qa,hf c p h4 (h2 _ (.head _)),ih h3.2 λx hx=>h2 x (.tail _ hx)];rfl
 show Q (((Γ.code,p)::Γ.below).any f) s;rw[all _ (by rw[guardsOf_cons];exact hΓ.2.2.2.1 _ hg) (λx hx=>by
  rcases fg.mp hx with rfl|hx
  ·exact hn.1
  ·exact hn.2 x hx)]
 exact h
end
variable {a:Addr}{args:Args}{body:List Stmt}{id:String}
section
variable {prog:Program}{w:World}
theorem Hw {env:Env}(h:Ai (model prog w) (A.deeper env) (execs body env) (λf s'=>R (.ok (.ret (match f with| .ret v=>v|_=>.none))) s')
   (λe s'=>Ai (model prog w) (A.deeper env) (leaving env e) (λ_ s''=>R (.error e) s'') (λe' s''=>R (.error e') s'') s') s):
  codeN (model prog w) A (.func body env) R s:=by
 refine AS ?_;show Ai _ (A.deeper env) (do point;match←(execs body env).onRaise (leaving env) with| .ret v=>ret v|_=>ret .none) _ _ s;refine AA (En (AA (Aq (AG h (λf s' h'=>?_) λ_ _ h'=>h'))));cases f<;>exact AB h'
theorem DU (h:Builtin.Bytes.decodersThatHold.contains id=false) (args:Args):DB (.builtin id args)=true:=by show (!Builtin.Bytes.decodersThatHold.contains id)=true;rw[h];rfl
theorem DY {b:Builtin}(hb:entryFor table id=some b) (h:Ai (model prog w) (A.under (.builtin id args)) (b args)
   (λfin s'=>match fin with| .done f=>R (.ok f) s'| .again c'=>c'.quiet=true/\DB c'=true/\codeN (model prog w) A c' R s') (λe s'=>R (.error e) s') s):
  codeN (model prog w) A (.builtin id args) R s:=by
 refine AS ?_;show Ai _ _ (match entryFor table id with|some b=>b args|none=>unsupported ((withoutEnding? id "#data").getD id)) _ _ s;rw[hb];exact h
theorem BU {b:Builtin}(hq:plainId id=true) (hd:Builtin.Bytes.decodersThatHold.contains id=false) (hb:entryFor table id=some b) (h:wpAny (model prog w) A.in1 (checkBuiltinCall id args) (λ_ s₁=>Ai (model prog w) A.in1 (b args)
   (λfin s'=>match fin with| .done f=>R (.ok f) s'| .again c'=>c'.quiet=true/\DB c'=true/\codeN (model prog w) A c' R s') (λe s'=>R (.error e) s') s₁)
   (λe s'=>R (.error e) s') s):codeN (model prog w) A (.call (.builtin id) args) R s:=by
 refine AS ?_;show Ai _ A.in1 (do checkBuiltinCall id args;again (.builtin id args)) _ _ s;refine AJ (jV h (λ_ s₁ h₁=>AB (And.intro (rI hq args) (And.intro (DU hd args) (DY hb ?_)))) λ_ _ h'=>h');rw[pE hq args];exact h₁
theorem Cr {o:Obj}{fd:FuncData}(hroom:A.depth<recursionLimit) (ho:s.heap.get? a=some o) (hd':o.data= .func fd) (hco:fd.scope.isCoroutine=false) (hgen:fd.scope.isGenerator=false) (hbody:fd.body= .stmts body) (hcd:s.heap.CodeRec fd.code fd.qualname) (h:wpAny (model prog w) A.in1 (bindArgs fd args) (λbinds s₁=>
   wpAny (model prog w) A.in1 (newFunctionEnv fd.scope fd.globals fd.closure binds (fd.qualname++".<locals>.") (some a) fd.code none fd.builtins)
    (λenv s₂=>s₂.heap.NoLimit/\codeN (model prog w) A (.func body env) R s₂) (λe s'=>R (.error e) s') s₁) (λe s'=>R (.error e) s') s):
  codeN (model prog w) A (.call (.ref a) args) R s:=by
 refine AS ?_;show Ai _ A.in1 (callAny (.ref a) args) _ _ s;simp only[callAny];refine AJ (rN ho ?_);obtain⟨c,oc,vs,tq,hc,hoc,hdc,hq⟩:=hcd;simp only[hd',callFunction,hco,hgen,hbody,hc];rw[hc] at h;refine AJ (m:=field (.ref c) 1) (qW hoc hdc hq (AJ (df ?_)));exact AJ (jV h (λbinds s₁ h₁=>AJ (jV h₁ (λenv s₂ h₂=>AJ (wpAny_enterFrame h₂.1 hroom
  (AB (And.intro rfl (And.intro rfl h₂.2))))) λ_ _ h'=>h')) λ_ _ h'=>h')
end
abbrev AR:=List (Addr×Addr)
structure Gd where
 prog:Program
 w:World
 K:Frag
 base:Heap
 fa:Nat->Nat->Addr
 ca:Nat->Addr
 tabs:List (Addr×Addr×Str)
abbrev Gd.M (g:Gd):Model:=model g.prog g.w
def bl (b:Array UInt8):List Int:=b.toList.map λx=>(x.toNat:Int)
def Fr (o:Obj):Prop:=(∃xs n,o.data= .seq xs n/\o.cls= .type "tuple")∨(∃f,o.data= .func f)∨(∃vs,o.data= .fields vs/\(o.cls= .type "range"∨∃q t,vs[1]? =some (.str q t)))∨(∃es n t,o.data= .set es n t)
def AI (h h':Heap):Prop:=∀b o,h.get? b=some o->Fr o->h'.get? b=some o
def Ba (ρ:AR):List (Str×Nat)->List (Str×Addr)->Prop
 |[],l=>l=[]
 |(x,a)::r,l=>∃p t,ρ[a]? =some p/\l=(x,p.1)::t/\Ba ρ r t
def noArgs:Arguments:=⟨[],[],none,[],[],none,[]⟩
structure Ml (ρ:AR) (h:Heap) (body:Expr) (scope:Scope) (cells:List (Str×Nat)) (a:Addr):Prop where
 ex:∃o fd,h.get? a=some o/\o.data= .func fd/\fd.params=noArgs/\fd.body= .expr body/\fd.scope=scope/\fd.globals=mainGlobals/\fd.builtins=builtinsNs/\fd.defaults= .none/\fd.kwdefaults= .none/\
  h.CodeRec fd.code fd.qualname/\Ba ρ cells fd.closure
 ok:BH scope=true
mutual
def VR (g:Gd) (ρ:AR) (h:Heap):V->Value->Prop
 | .none,v=>v= .none
 | .bool b,v=>v= .bool b
 | .int i,v=>∃t,v= .int i t
 | .str s,v=>∃t,v= .str s t
 | .bytes l,v=>∃b t,v= .bytes b t/\bl b=l/\b.size<=lid
 | .tup l,v=>∃a items,v= .ref a/\IsTup h a items/\Aa g ρ h l items.toList/\l.length<=1000
 | .fl l,v=>∃a items,v= .ref a/\g.base.IsList a items/\Aa g ρ h l items.toList/\l.length<=1000
 | .fn i,v=>v= .ref (g.fa i 0)/\i∈Ob
 | .cls i,v=>v= .ref (g.ca i)
 | .bi s,v=>v= .builtin s/\handedIn (.builtin s)=true
 | .ty s,v=>v= .type s
 | .ref i,v=>∃p,ρ[i]? =some p/\v= .ref p.1
 | .clo body scope cells,v=>∃a,v= .ref a/\Ml ρ h body scope cells a
 | .Ck a b,v=>(∃r t u w,v= .ref r/\IsRange h r a b 1 t u w)/\a.natAbs<=lid/\b.natAbs<=lid
 | .dX n,v=>∃a o es ep t,v= .ref a/\h.get? a=some o/\o.ExactSet/\o.data= .set es ep t/\es.size=n/\t.fits es.size=true/\o.cls= .type "set"/\n<=lid
def Aa (g:Gd) (ρ:AR) (h:Heap):List V->List Value->Prop
 |[],vs=>vs=[]
 |a::l,vs=>∃v r,vs=v::r/\VR g ρ h a v/\Aa g ρ h l r
end
def Xo (g:Gd) (ρ:AR) (h:Heap):Option V->Option Value->Prop
 |none,v=>v=none
 |some a,v=>∃x,v=some x/\VR g ρ h a x
def Ez (g:Gd) (ρ:AR) (h:Heap):List (Str×V)->List DictEntry->Prop
 |[],es=>es=[]
 |(x,v)::r,es=>∃e t,es=e::t/\(∃tk,e.key= .str x tk)/\VR g ρ h v e.val/\Ez g ρ h r t
def HG {α:Type}(g:Gd) (ρ:AR) (h:Heap):List (α×V)->List (α×Value)->Prop
 |[],l=>l=[]
 |(k,v)::r,l=>∃x t,l=(k,x)::t/\VR g ρ h v x/\HG g ρ h r t
abbrev XM (b:Array UInt8):Obj:={cls:=.type "bytearray",data:=.bytearray b 0}
def By (g:Gd) (ρ:AR) (h:Heap):O->Addr×Addr->Prop
 | .list l,p=>p.2=p.1/\∃items n,h.get? p.1=some (listOf items n)/\Aa g ρ h l items.toList/\l.length<=lid
 | .U' d,p=>(p.2=p.1/\p.1≠sysModules)/\∃kvs,h.DictOf (intKind g.prog g.w) p.1 kvs/\HG g ρ h d kvs/\d.length<=lid
 | .dO d,p=>p.2=p.1/\∃kvs,h.DictOf (strKind g.prog g.w) p.1 kvs/\HG g ρ h d kvs/\d.length<=lid
 | .ba l,p=>p.2=p.1/\∃b,h.get? p.1=some (XM b)/\bl b=l/\b.size<=lid
 | .cell v,p=>p.2=p.1/\∃c,h.IsCell p.1 c/\Xo g ρ h v c
 | .inst c fs,p=>Fc c=true/\∃sl es n,h.get? p.1=some ⟨.ref (g.ca c),some p.2,.plain,sl⟩/\h.get? p.2=some (dictOf es n)/\Ez g ρ h fs es/\fs.length<=100/\∀q∈fs,AP c q.1=true
def Own (ρ:AR) (b:Addr):Prop:=∃p∈ρ,b=p.1∨b=p.2
def Apart (ρ:AR):Prop:=ρ.Pairwise λp q=>p.1≠q.1/\p.1≠q.2/\p.2≠q.1/\p.2≠q.2
structure Rep (g:Gd) (ρ:AR) (H:Hp) (h:Heap):Prop where
 len:ρ.length=H.length
 apart:Apart ρ
 obj:∀(i:Nat) (o:O) (p:Addr×Addr),H[i]? =some o->ρ[i]? =some p->By g ρ h o p
def BZ (fr:List Env):List Addr:=fr.filterMap (·.frame)
structure SQ (g:Gd) (ρ:AR) (h:Heap) (env:Env):Prop where
 kind:env.scope.kind≠ .module
 ex:∃L o es ep,env.frame=some L/\g.base.get? L=none/\h.get? L=some o/\o.data= .dict es ep/\¬Own ρ L
def Gd.Dz (g:Gd):List Addr:=g.tabs.map (·.2.1)
def PD (g:Gd) (ρ:AR) (h:Heap):Prop:=∀q∈g.tabs,¬Own ρ q.2.1/\∃ps,h.get? q.2.1=some (tabObj ps)/\TriplesOk ps.toList/\
 ∀pos cv,codeAmong pos ps.toList=some cv->h.CodeRec cv q.2.2
structure BJ (g:Gd) (fr:List Env) (ρ:AR) (H:Hp) (h:Heap):Prop where
 base:g.base.StaysIn h
 rep:Rep g ρ H h
 fresh:∀p∈ρ,g.base.get? p.1=none/\g.base.get? p.2=none
 frames:∀env∈fr,SQ g ρ h env
 tabs:PD g ρ h
structure Fd where
 A:Around
 env:Env
 L:Addr
 fr:List Env
 cx:Cx
def Ln:NameKind->Option NameKind->Prop
 | .free,k=>k=some .free∨k=some .cell
 |k,k'=>k'=some k
structure Ac (g:Gd) (f:Fd) (n:Nat):Prop where
 frames:f.A.frames=some f.fr
 handled:f.A.handled=none
 guards:f.A.guards=some []
 depth:f.A.depth+n+8<=600
 units:f.A.units+10*n+40<=3000
 kind:f.env.scope.kind= .function
 locals:f.env.locals=f.L
 globals:f.env.globals=mainGlobals
 builtins:f.env.builtins=builtinsNs
 names:∀x k,lk x f.cx.names=some k->Ln k (f.env.kindOf x)/\x≠"__debug__"/\x≠"__classdict__"
 frame:∃e r L,f.fr=e::r/\e.frame=some L/\f.env.frame=some L
 lam:f.cx.lam=true->∃q∈g.tabs,f.env.code= .ref q.1/\f.env.qual++("<lambda>":Str)=q.2.2
structure I7 (g:Gd) (f:Fd) (ρ:AR) (loc:Loc) (h:Heap):Prop where
 ns:∃m,h.Ns f.L m/\∀x v,lk x f.cx.names=some .local->lk x loc=some v->∃val,m x=some val/\VR g ρ h v val
 lb:g.base.get? f.L=none
 lo:¬Own ρ f.L
 cells:∀x a,lk x f.cx.cells=some a->∃p,ρ[a]? =some p/\f.env.cells.lookup x=some p.1
structure AF (g:Gd) (f:Fd) (ρ:AR) (H:Hp) (loc:Loc) (h:Heap):Prop extends I7 g f ρ loc h where
 hr:BJ g f.fr ρ H h
structure Step (g:Gd) (fr:List Env) (X:List Addr) (ρ:AR) (s:Shared) (ρ':AR) (s':Shared):Prop where
 pre:ρ<+:ρ'
 new:∀p∈ρ'.drop ρ.length,s.heap.get? p.1=none/\s.heap.get? p.2=none
 kept:∀b o,s.heap.get? b=some o->¬Own ρ b->b∉X->b∉g.Dz->b∉BZ fr->s'.heap.get? b=some o
 slots:∀b o,s.heap.get? b=some o->b∈BZ fr->b∉X->∃sl,s'.heap.get? b=some {o with slots:=sl}
 alive:∀b o,s.heap.get? b=some o->∃o',s'.heap.get? b=some o'
 rest:∃h tk,s'={s with heap:=h,toks:=tk}
def Up (B:Heap) (fr:List Env) (e:Addr) (cls a0:Value) (h:Heap):Prop:=
 Heap.FlyingW B fr e cls a0 h∨(B.StaysIn h/\B.get? e=none/\h.FunFrames B fr/\∃oe vs,h.get? e=some oe/\oe.cls=cls/\oe.data= .fields vs/\vs[1]? =some .none/\vs[0]? =some a0)
def QI (g:Gd) (f:Fd) (ρ:AR) (loc:Loc) (B h:Heap):Prop:=∃m,h.Ns f.L m/\∀x v,lk x f.cx.names=some .local->lk x loc=some v->∃val,m x=some val/\VR g ρ B v val
structure PO (g:Gd) (f:Fd) (ρ:AR):Prop where
 lb:g.base.get? f.L=none
 lo:¬Own ρ f.L
 cells:∀x a,lk x f.cx.cells=some a->∃p,ρ[a]? =some p/\f.env.cells.lookup x=some p.1
structure VO (g:Gd) (fr:List Env) (X:List Addr) (ρ:AR) (s:Shared) (ρ':AR) (H:Hp) (c:Nat) (e:Addr) (P:Heap->Heap->Prop) (s':Shared):Prop where
 pre:ρ<+:ρ'
 new:∀p∈ρ'.drop ρ.length,s.heap.get? p.1=none/\s.heap.get? p.2=none
 ex:∃B a0,Up B fr e (.ref (g.ca c)) a0 s'.heap/\g.base.StaysIn B/\Rep g ρ' H B/\PD g ρ' B/\
  (∀b o,s.heap.get? b=some o->¬Own ρ b->b∉X->b∉g.Dz->b∉BZ fr->B.get? b=some o)/\P B s'.heap
 fresh:∀p∈ρ',g.base.get? p.1=none/\g.base.get? p.2=none
 frames:∀env∈fr,SQ g ρ' s'.heap env
 slots:∀b o,s.heap.get? b=some o->b∈BZ fr->b∉X->∃sl,s'.heap.get? b=some {o with slots:=sl}
 alive:∀b o,s.heap.get? b=some o->∃o',s'.heap.get? b=some o'
 rest:∃h tk,s'={s with heap:=h,toks:=tk}
variable {b:Addr}{h h':Heap}
theorem Fr.keep (k:AI h h'){o:Obj}(e:h.get? b=some o) (i:Fr o):h'.get? b=some o:=k b o e i
theorem AI.refl (h:Heap):AI h h:=λ_ _ e _=>e
theorem AI.trans {a b c:Heap}(x:AI a b) (y:AI b c):AI a c:=λq o e i=>y q o (x q o e i) i
theorem AI.of_keeps (k:∀b o,h.get? b=some o->h'.get? b=some o):AI h h':=λb o e _=>k b o e
theorem Fr.tup {o:Obj}{xs:Array Value}{n:Nat}(d:o.data= .seq xs n) (c:o.cls= .type "tuple"):Fr o:=.inl ⟨xs,n,d,c⟩
theorem OK {items:Array Value}(x:IsTup h a items) (k:AI h h'):IsTup h' a items:=
 let ⟨o,e,c,n,d⟩:=x;⟨o,k a o e (.tup d c),c,n,d⟩
theorem LH {r:Addr}{a b c:Int}{t u w:Tok}(x:IsRange h r a b c t u w) (k:AI h h'):IsRange h' r a b c t u w:=by
 exact k _ _ x (.inr (.inr (.inl ⟨_,rfl,.inl rfl⟩)))
variable {i:Nat}{l:List α}
theorem Dw {l':List α}(p:l<+:l'){a:α}(h:l[i]? =some a):l'[i]? =some a:=by
 obtain⟨t,rfl⟩:=p;rw[lf (dt.mp h).1];exact h
variable {ρ ρ':AR}
theorem Ba.mono {ρ ρ':AR}(p:ρ<+:ρ'):∀{cells:List (Str×Nat)}{cl:List (Str×Addr)},Ba ρ cells cl->Ba ρ' cells cl
 |[],_,h=>h
 |(_,_)::_,_,⟨pp,t,h1,h2,h3⟩=>⟨pp,t,Dw p h1,h2,Ba.mono p h3⟩
theorem Ml.mono {ρ ρ':AR}{h h':Heap}{body:Expr}{scope:Scope}{cells:List (Str×Nat)}{a:Addr}(x:Ml ρ h body scope cells a) (k:AI h h') (p:ρ<+:ρ'):Ml ρ' h' body scope cells a:=by
 obtain⟨⟨o,fd,e1,e2,e3,e4,e5,e6,e7,e8,e9,iX,iY⟩,ok⟩:=x;refine⟨⟨o,fd,k _ _ e1 (.inr (.inl ⟨fd,e2⟩)),e2,e3,e4,e5,e6,e7,e8,e9,?_,?_⟩,ok⟩
 ·obtain⟨c,oc,vs,t,hc,hg,hd,hv⟩:=iX;exact⟨c,oc,vs,t,hc,k _ _ hg (.inr (.inr (.inl ⟨vs,hd,.inr ⟨_,t,hv⟩⟩))),hd,hv⟩
 ·exact iY.mono p
variable {g:Gd}
mutual
theorem VR.mono {g:Gd}{ρ ρ':AR}{h h':Heap}(k:AI h h') (p:ρ<+:ρ'):∀{v:V}{x:Value},VR g ρ h v x->VR g ρ' h' v x
 | .none,_,e=>by unfold VR at*;exact e
 | .bool _,_,e=>by unfold VR at*;exact e
 | .int _,_,e=>by unfold VR at*;exact e
 | .str _,_,e=>by unfold VR at*;exact e
 | .bytes _,_,e=>by unfold VR at*;exact e
 | .tup l,_,e=>by
  unfold VR at*;obtain⟨a,items,e1,e2,e3,e4⟩:=e;exact⟨a,items,e1,OK e2 k,Aa.mono k p e3,e4⟩
 | .fl l,_,e=>by
  unfold VR at*;obtain⟨a,items,e1,e2,e3,e4⟩:=e;exact⟨a,items,e1,e2,Aa.mono k p e3,e4⟩
 | .fn _,_,e=>by unfold VR at*;exact e
 | .cls _,_,e=>by unfold VR at*;exact e
 | .bi _,_,e=>by unfold VR at*;exact e
 | .ty _,_,e=>by unfold VR at*;exact e
 | .ref _,_,e=>by
  unfold VR at*;obtain⟨q,e1,e2⟩:=e;exact⟨q,Dw p e1,e2⟩
 | .clo _ _ _,_,e=>by
  unfold VR at*;obtain⟨a,e1,e2⟩:=e;exact⟨a,e1,e2.mono k p⟩
 | .Ck _ _,_,e=>by
  unfold VR at*;obtain⟨⟨r,t,u,w,e1,e2⟩,e3⟩:=e;exact⟨⟨r,t,u,w,e1,LH e2 k⟩,e3⟩
 | .dX _,_,e=>by
  unfold VR at*;obtain⟨a,o,es,ep,t,e1,e2,e3,e4,e5⟩:=e;exact⟨a,o,es,ep,t,e1,k _ _ e2 (.inr (.inr (.inr ⟨_,_,_,e4⟩))),e3,e4,e5⟩
theorem Aa.mono {g:Gd}{ρ ρ':AR}{h h':Heap}(k:AI h h') (p:ρ<+:ρ'):∀{v:List V}{x:List Value},Aa g ρ h v x->Aa g ρ' h' v x
 |[],_,e=>by unfold Aa at*;exact e
 |a::l,_,e=>by
  unfold Aa at*;obtain⟨v,r,e1,e2,e3⟩:=e;exact⟨v,r,e1,VR.mono k p e2,Aa.mono k p e3⟩
end
variable {H:Hp}{f:Fd}{fr:List Env}{loc:Loc}{p:Addr×Addr}
theorem Xo.mono (k:AI h h') (p:ρ<+:ρ'):∀{v:Option V}{x:Option Value},Xo g ρ h v x->Xo g ρ' h' v x
 |none,_,e=>e
 |some _,_,⟨x,e1,e2⟩=>⟨x,e1,e2.mono k p⟩
theorem Ez.mono (k:AI h h') (p:ρ<+:ρ'):∀{fs:List (Str×V)}{es:List DictEntry},Ez g ρ h fs es->Ez g ρ' h' fs es
 |[],_,e=>e
 |(_,_)::_,_,⟨e,t,e1,e2,e3,e4⟩=>⟨e,t,e1,e2,e3.mono k p,e4.mono k p⟩
theorem HG.mono {α:Type}(k:AI h h') (p:ρ<+:ρ'):∀{d:List (α×V)}{l:List (α×Value)},HG g ρ h d l->HG g ρ' h' d l
 |[],_,e=>e
 |(_,_)::_,_,⟨x,t,e1,e2,e3⟩=>⟨x,t,e1,e2.mono k p,e3.mono k p⟩
theorem By.mono (k:AI h h') (q:ρ<+:ρ') {p:Addr×Addr}(k1:∀o,h.get? p.1=some o->h'.get? p.1=some o) (k2:∀o,h.get? p.2=some o->h'.get? p.2=some o):∀{o:O},By g ρ h o p->By g ρ' h' o p
 | .list _,⟨e0,items,n,e1,e2,e3⟩=>⟨e0,items,n,k1 _ e1,e2.mono k q,e3⟩
 | .U' _,⟨e0,kvs,⟨o,es,ep,ho,r⟩,e2,e3⟩=>⟨e0,kvs,⟨o,es,ep,k1 _ ho,r⟩,e2.mono k q,e3⟩
 | .dO _,⟨e0,kvs,⟨o,es,ep,ho,r⟩,e2,e3⟩=>⟨e0,kvs,⟨o,es,ep,k1 _ ho,r⟩,e2.mono k q,e3⟩
 | .ba _,⟨e0,b,e1,e2,e3⟩=>⟨e0,b,k1 _ e1,e2,e3⟩
 | .cell _,⟨e0,c,⟨o,ho,hd⟩,e2⟩=>⟨e0,c,⟨o,k1 _ ho,hd⟩,e2.mono k q⟩
 | .inst _ _,⟨e0,sl,es,n,e1,e2,e3,e4⟩=>⟨e0,sl,es,n,k1 _ e1,k2 _ e2,e3.mono k q,e4⟩
theorem Own.left (m:p∈ρ):Own ρ p.1:=⟨p,m,.inl rfl⟩
theorem Own.right (m:p∈ρ):Own ρ p.2:=⟨p,m,.inr rfl⟩
theorem CZ {a:α}(h:l[i]? =some a):a∈l:=mn h
theorem Rep.mono {H:Hp}(R:Rep g ρ H h) (k:AI h h') (ko:∀b o,Own ρ b->h.get? b=some o->h'.get? b=some o):Rep g ρ H h':=
 ⟨R.len,R.apart,λi o p e1 e2=>(R.obj i o p e1 e2).mono k (eC _) (λo e=>ko _ o (Own.left (CZ e2)) e) λo e=>ko _ o (Own.right (CZ e2)) e⟩
theorem Rep.get (R:Rep g ρ H h){o:O}(e:H[i]? =some o):∃p,ρ[i]? =some p/\By g ρ h o p:=by
 have hl:i<ρ.length:=by rw[R.len];exact (dt.mp e).1
 exact⟨ρ[i],d6 hl,R.obj i o _ e (d6 hl)⟩
theorem By.EK {o:O}(x:By g ρ h o p):(∀ob,h.get? p.1=some ob->¬Fr ob)/\∀ob,h.get? p.2=some ob->¬Fr ob:=by
 cases o with
 |list l=>
  obtain⟨e0,items,n,e1,_⟩:=x;have a:∀ob,h.get? p.1=some ob->¬Fr ob:=λob e i=>by
   rw[e1] at e;cases e;rcases i with ⟨xs,n,h1,h2⟩|⟨f,h1⟩|⟨vs,h1,_⟩|⟨es,n,t,h1⟩<;>first|(have h3:Value.type "list"=Value.type "tuple":=h2;simp at h3;done)|cases h1
  exact⟨a,e0▸a⟩
 |U' d=>
  obtain⟨e0,kvs,⟨ob,es,ep,ho,_,hd,_⟩,_⟩:=x;have a:∀ob,h.get? p.1=some ob->¬Fr ob:=λob e i=>by
   rw[ho] at e;cases e;rcases i with ⟨xs,n,h1,h2⟩|⟨f,h1⟩|⟨vs,h1,_⟩|⟨es,n,t,h1⟩<;>(rw[hd] at h1;cases h1)
  exact⟨a,e0.1▸a⟩
 |dO d=>
  obtain⟨e0,kvs,⟨ob,es,ep,ho,_,hd,_⟩,_⟩:=x;have a:∀ob,h.get? p.1=some ob->¬Fr ob:=λob e i=>by
   rw[ho] at e;cases e;rcases i with ⟨xs,n,h1,h2⟩|⟨f,h1⟩|⟨vs,h1,_⟩|⟨es,n,t,h1⟩<;>(rw[hd] at h1;cases h1)
  exact⟨a,e0▸a⟩
 |ba l=>
  obtain⟨e0,b,e1,_⟩:=x;have a:∀ob,h.get? p.1=some ob->¬Fr ob:=λob e i=>by
   rw[e1] at e;cases e;rcases i with ⟨xs,n,h1,h2⟩|⟨f,h1⟩|⟨vs,h1,_⟩|⟨es,n,t,h1⟩<;>first|cases h2|cases h1
  exact⟨a,e0▸a⟩
 |cell v=>
  obtain⟨e0,c,⟨ob,ho,hd⟩,_⟩:=x;have a:∀ob,h.get? p.1=some ob->¬Fr ob:=λob e i=>by
   rw[ho] at e;cases e;rcases i with ⟨xs,n,h1,h2⟩|⟨f,h1⟩|⟨vs,h1,_⟩|⟨es,n,t,h1⟩<;>(rw[hd] at h1;cases h1)
  exact⟨a,e0▸a⟩
 |inst c fs=>
  obtain⟨_,sl,es,n,e1,e2,_⟩:=x;refine⟨λob e i=>?_,λob e i=>?_⟩
  ·rw[e1] at e;cases e;rcases i with ⟨xs,n,h1,h2⟩|⟨f,h1⟩|⟨vs,h1,_⟩|⟨es,n,t,h1⟩<;>first|cases h2|cases h1
  ·rw[e2] at e;cases e;rcases i with ⟨xs,n,h1,h2⟩|⟨f,h1⟩|⟨vs,h1,_⟩|⟨es,n,t,h1⟩<;>first|cases h2|cases h1
theorem get_of_mem {a:α}(h:a∈l):∃i:Nat,l[i]? =some a:=List.mem_iff_getElem?.mp h
theorem Rep.RA (R:Rep g ρ H h){o:Obj}(e:h.get? b=some o) (i:Fr o):¬Own ρ b:=λ⟨p,hp,hb⟩=>by
 obtain⟨j,hj⟩:=get_of_mem hp;have hl:j<H.length:=by rw[←R.len];exact (dt.mp hj).1
 have x:=(R.obj j _ p (d6 hl) hj).EK;rcases hb with rfl|rfl
 ·exact x.1 o e i
 ·exact x.2 o e i
theorem Ff {o:Obj}{es:Array DictEntry}{n:Nat}(d:o.data= .dict es n):¬Fr o:=λi=>by
 rcases i with ⟨xs,n,h1,h2⟩|⟨f,h1⟩|⟨vs,h1,_⟩|⟨es,n,t,h1⟩<;>(rw[d] at h1;cases h1)
theorem Je {ps:Array Value}(ok:TriplesOk ps.toList):¬Fr (tabObj ps):=λi=>by
 rcases i with ⟨xs,n,h1,h2⟩|⟨f,h1⟩|⟨vs,h1,h2|⟨q,t,h2⟩⟩|⟨es,n,t,h1⟩
 ·cases h1
 ·cases h1
 ·cases h2
 ·have e:ps=vs:=by injection h1
  subst e;rw[←qo] at h2;unfold TriplesOk at ok;split at ok
  ·rename_i hh;rw[hh] at h2;simp at h2
  ·rename_i hh;rw[hh] at h2;simp at h2
  ·exact ok
 ·cases h1
theorem BJ.PS (R:BJ g fr ρ H h){o:Obj}(e:h.get? b=some o) (i:Fr o):b∉BZ fr:=λm=>by
 obtain⟨env,he,hf⟩:=kA.mp m;obtain⟨L,ob,es,ep,h1,_,h3,h4,_⟩:=(R.frames env he).ex;rw[h1] at hf;cases hf;rw[h3] at e;cases e;exact Ff h4 i
theorem BJ.O5 (R:BJ g fr ρ H h){o:Obj}(e:h.get? b=some o) (i:Fr o):b∉g.Dz:=λm=>by
 obtain⟨q,hq,rfl⟩:=eJ.mp m;obtain⟨_,ps,hp,ok,_⟩:=R.tabs q hq;rw[hp] at e;cases e;exact Je ok i
theorem AF.Uo (R:AF g f ρ H loc h){o:Obj}(e:h.get? b=some o) (i:Fr o):b≠f.L:=λq=>by
 obtain⟨m,⟨ob,es,ep,h1,h2,_⟩,_⟩:=R.ns;rw[q,h1] at e;cases e;exact Ff h2 i
variable {X:List Addr}{s':Shared}
section
variable {iZ:AR}{s'':Shared}
theorem Step.YB (S:Step g fr X ρ s ρ' s') (R:BJ g fr ρ H s.heap) (hX:∀b o,s.heap.get? b=some o->Fr o->b∉X):AI s.heap s'.heap:=
 λb o e i=>S.kept b o e (R.rep.RA e i) (hX b o e i) (R.O5 e i) (R.PS e i)
theorem Step.XU (S:Step g fr [] ρ s ρ' s') (R:BJ g fr ρ H s.heap):AI s.heap s'.heap:=S.YB R λ_ _ _ _=>List.not_mem_nil
theorem Step.CL (S:Step g f.fr [f.L] ρ s ρ' s') (R:AF g f ρ H loc s.heap):AI s.heap s'.heap:=S.YB R.hr λ_ _ e i m=>R.Uo e i (eA.mp m)
theorem Step.refl:Step g fr X ρ s ρ s:=
 ⟨eC _,λp hp=>by simp at hp,λ_ _ e _ _ _ _=>e,λb o e _ _=>⟨o.slots,e⟩,λ_ o e=>⟨o,e⟩,⟨s.heap,s.toks,rfl⟩⟩
theorem Step.tok (t:Nat):Step g fr X ρ s ρ {s with toks:=t}:=
 ⟨eC _,λp hp=>by simp at hp,λ_ _ e _ _ _ _=>e,λb o e _ _=>⟨o.slots,e⟩,λ_ o e=>⟨o,e⟩,⟨s.heap,t,rfl⟩⟩
theorem LF (p:ρ<+:ρ') (o:Own ρ' b):Own ρ b∨∃q∈ρ'.drop ρ.length,b=q.1∨b=q.2:=by
 obtain⟨t,rfl⟩:=p;obtain⟨q,hq,hb⟩:=o;rcases eI.mp hq with h|h
 ·exact .inl ⟨q,h,hb⟩
 ·exact .inr ⟨q,by simpa using h,hb⟩
theorem Kn (p:ρ<+:ρ') (o:Own ρ b):Own ρ' b:=let ⟨q,hq,hb⟩:=o;⟨q,p.subset hq,hb⟩
theorem Step.old (S:Step g fr X ρ s ρ' s'){ob:Obj}(hb:s.heap.get? b=some ob) (n:¬Own ρ b):¬Own ρ' b:=λo=>by
 rcases LF S.pre o with h|⟨q,hq,h⟩
 ·exact n h
 ·have:=S.new q hq
  rcases h with rfl|rfl
  ·rw[this.1] at hb;cases hb
  ·rw[this.2] at hb;cases hb
theorem Step.EV (S:Step g fr X ρ s ρ' s') (h:s'.heap.get? b=none):s.heap.get? b=none:=by
 cases e:s.heap.get? b with
 |none=>rfl
 |some o=>
  obtain⟨o',e'⟩:=S.alive b o e;rw[h] at e';cases e'
theorem Step.trans (S:Step g fr X ρ s ρ' s') (T:Step g fr X ρ' s' iZ s''):Step g fr X ρ s iZ s'' where
 pre:=S.pre.trans T.pre
 new:=by
  intro p hp;obtain⟨t,ht⟩:=S.pre;obtain⟨u,hu⟩:=T.pre;subst ht;subst hu;rw[kt,mB] at hp;rcases eI.mp hp with h|h
  ·exact S.new p (by rw[mB];exact h)
  ·have:=T.new p (by rw[mB];exact h)
   exact⟨S.EV this.1,S.EV this.2⟩
 kept:=λb o e n x tb f=>T.kept b o (S.kept b o e n x tb f) (S.old e n) x tb f
 slots:=λb o e f x=>by
  obtain⟨sl,h1⟩:=S.slots b o e f x;obtain⟨eY,h2⟩:=T.slots b _ h1 f x;exact⟨eY,h2⟩
 alive:=λb o e=>let ⟨o',e'⟩:=S.alive b o e;T.alive b o' e'
 rest:=by
  obtain⟨h,tk,rfl⟩:=S.rest;obtain⟨h',tk',e⟩:=T.rest;exact⟨h',tk',e⟩
theorem Step.weaken (S:Step g fr X ρ s ρ' s'){Y:List Addr}(h:∀b,b∈X->b∈Y):Step g fr Y ρ s ρ' s':=
 ⟨S.pre,S.new,λb o e n x tb f=>S.kept b o e n (λq=>x (h b q)) tb f,λb o e f x=>S.slots b o e f λq=>x (h b q),S.alive,S.rest⟩
end
section
variable {iZ:AR}{s'':Shared}
theorem BJ.but {it:Addr}(R:BJ g fr ρ H h) (k:Heap.ExtBut it h h') (b0:g.base.get? it=none) (no:¬Own ρ it) (nf:it∉BZ fr) (nt:it∉g.Dz) (ni:∀o,h.get? it=some o->¬Fr o):BJ g fr ρ H h' where
 base:=λb o e=>k b o (λq=>by rw[q,b0] at e;cases e) (R.base b o e)
 rep:=R.rep.mono (λb o e i=>k b o (λq=>ni o (q▸e) i) e) λb o ow e=>k b o (λq=>no (q▸ow)) e
 fresh:=R.fresh
 frames:=λenv he=>by
  obtain⟨kd,L,o,es,ep,h1,h2,h3,h4,h5⟩:=R.frames env he;exact⟨kd,L,o,es,ep,h1,h2,k L o (λq=>nf (q▸kA.mpr ⟨env,he,h1⟩)) h3,h4,h5⟩
 tabs:=λq hq=>by
  obtain⟨a,ps,h1,h2,h3⟩:=R.tabs q hq;refine⟨a,ps,k _ _ (λe=>nt (e▸eJ.mpr ⟨q,hq,rfl⟩)) h1,h2,λpos cv hc=>?_⟩;obtain⟨c,oc,vs,t,dc,hg,hd,hv⟩:=h3 pos cv hc;exact⟨c,oc,vs,t,dc,k c oc (λq=>ni oc (q▸hg) (.inr (.inr (.inl ⟨vs,hd,.inr ⟨_,t,hv⟩⟩)))) hg,hd,hv⟩
theorem BJ.keeps (R:BJ g fr ρ H h) (k:∀b o,h.get? b=some o->h'.get? b=some o):BJ g fr ρ H h' where
 base:=λb o e=>k b o (R.base b o e)
 rep:=R.rep.mono (AI.of_keeps k) λb o _ e=>k b o e
 fresh:=R.fresh
 frames:=λenv he=>by
  obtain⟨kd,L,o,es,ep,h1,h2,h3,h4,h5⟩:=R.frames env he;exact⟨kd,L,o,es,ep,h1,h2,k L o h3,h4,h5⟩
 tabs:=λq hq=>by
  obtain⟨a,ps,h1,h2,h3⟩:=R.tabs q hq;refine⟨a,ps,k _ _ h1,h2,λpos cv hc=>?_⟩;obtain⟨c,oc,vs,t,dc,hg,hd,hv⟩:=h3 pos cv hc;exact⟨c,oc,vs,t,dc,k _ _ hg,hd,hv⟩
theorem I7.of (x:I7 g f ρ loc h) (i:AI h h') (p:ρ<+:ρ') (lo:¬Own ρ' f.L) (k:∀m,h.Ns f.L m->h'.Ns f.L m):I7 g f ρ' loc h':=by
 obtain⟨⟨m,h1,h2⟩,h3,h4,h5⟩:=x;refine⟨⟨m,k m h1,λx v a b=>?_⟩,h3,lo,λx a e=>?_⟩
 ·obtain⟨val,e1,e2⟩:=h2 x v a b;exact⟨val,e1,e2.mono i p⟩
 ·obtain⟨q,e1,e2⟩:=h5 x a e;exact⟨q,Dw p e1,e2⟩
theorem AF.keeps (R:AF g f ρ H loc h) (k:∀b o,h.get? b=some o->h'.get? b=some o):AF g f ρ H loc h':=
 ⟨R.toI7.of (AI.of_keeps k) (eC _) R.lo λ_ hn=>hn.keeps k,R.hr.keeps k⟩
theorem AF.but {it:Addr}(R:AF g f ρ H loc h) (k:Heap.ExtBut it h h') (b0:g.base.get? it=none) (no:¬Own ρ it) (nf:it∉BZ f.fr) (nt:it∉g.Dz) (ni:∀o,h.get? it=some o->¬Fr o) (nl:it≠f.L):AF g f ρ H loc h':=
 ⟨R.toI7.of (λb o e i=>k b o (λq=>ni o (q▸e) i) e) (eC _) R.lo λ_ hn=>hn.extBut k (Ne.symm nl),R.hr.but k b0 no nf nt ni⟩
theorem Ak (o:Obj):∀b o',h.get? b=some o'->(h.push o).get? b=some o':=λ_ _ e=>du o e
theorem AF.push (R:AF g f ρ H loc h) (o:Obj):AF g f ρ H loc (h.push o):=R.keeps (Ak o)
theorem Step.push (o:Obj) {t:Nat}:Step g fr X ρ s ρ {s with heap:=s.heap.push o,toks:=t}:=
 ⟨eC _,λp hp=>by simp at hp,λ_ _ e _ _ _ _=>du _ e,λb o e _ _=>⟨o.slots,du _ e⟩,λ_ ob e=>⟨ob,du _ e⟩,⟨_,t,rfl⟩⟩
theorem Step.keeps {t:Nat}(k:∀b o,s.heap.get? b=some o->h'.get? b=some o):Step g fr X ρ s ρ {s with heap:=h',toks:=t}:=
 ⟨eC _,λp hp=>by simp at hp,λb o e _ _ _ _=>k b o e,λb o e _ _=>⟨o.slots,k b o e⟩,λb o e=>⟨o,k b o e⟩,⟨_,t,rfl⟩⟩
theorem Rep.push {o:O}(R:Rep g ρ H h) (k:∀b o,h.get? b=some o->h'.get? b=some o) (np:∀b,Own ρ b->b≠p.1/\b≠p.2) (x:By g (ρ++[p]) h' o p):Rep g (ρ++[p]) (H++[o]) h' where
 len:=by simp [R.len]
 apart:=List.pairwise_append.mpr ⟨R.apart,by simp,λa ha b hb=>by
  rw[eA.mp hb];have l:=np _ (Own.left ha);have r:=np _ (Own.right ha);exact⟨l.1,l.2,r.1,r.2⟩⟩
 obj:=λi o' q e1 e2=>by
  by_cases hi:i<H.length
  ·rw[lf hi] at e1;rw[lf (by rw[R.len];exact hi)] at e2;exact (R.obj i o' q e1 e2).mono (AI.of_keeps k) (hW _ _) (λ_ e=>k _ _ e) λ_ e=>k _ _ e
  ·have hi2:i=H.length:=by
    have:=(dt.mp e1).1
    simp at this;omega
   subst hi2;rw[mA (ix _)] at e1;rw[mA (by rw[R.len];exact ix _)] at e2;simp at e1;rw[R.len] at e2;simp at e2;subst e1 e2;exact x
theorem By.there {o:O}(x:By g ρ h o p):(∃ob,h.get? p.1=some ob)/\∃ob,h.get? p.2=some ob:=by
 cases o with
 |list l=>obtain ⟨e0,_,_,e1,_⟩:=x;rw[e0];exact⟨⟨_,e1⟩,_,e1⟩
 |U' l=>obtain ⟨e0,_,⟨_,_,_,e1,_⟩,_⟩:=x;rw[e0.1];exact⟨⟨_,e1⟩,_,e1⟩
 |dO l=>obtain ⟨e0,_,⟨_,_,_,e1,_⟩,_⟩:=x;rw[e0];exact⟨⟨_,e1⟩,_,e1⟩
 |ba l=>obtain ⟨e0,_,e1,_⟩:=x;rw[e0];exact⟨⟨_,e1⟩,_,e1⟩
 |cell l=>obtain ⟨e0,_,⟨_,e1,_⟩,_⟩:=x;rw[e0];exact⟨⟨_,e1⟩,_,e1⟩
 |inst c fs=>obtain ⟨_,_,_,_,e1,e2,_⟩:=x;exact⟨⟨_,e1⟩,_,e2⟩
theorem Rep.there (R:Rep g ρ H h) {b:Addr}(o:Own ρ b):∃ob,h.get? b=some ob:=by
 obtain⟨p,hp,hb⟩:=o;obtain⟨j,hj⟩:=get_of_mem hp;have hl:j<H.length:=by rw[←R.len];exact (dt.mp hj).1
 have:=(R.obj j _ p (d6 hl) hj).there
 rcases hb with rfl|rfl
 ·exact this.1
 ·exact this.2
theorem BJ.Gr (R:BJ g fr ρ H h) (ha:h.get? a=none):g.base.get? a=none:=by
 cases q:g.base.get? a with
 |none=>rfl
 |some o=>rw [R.base a o q] at ha;cases ha
theorem BJ.HJ (R:BJ g fr ρ H h) (m:a∈BZ fr):∃ob,h.get? a=some ob:=by
 obtain⟨env,he,hf⟩:=kA.mp m;obtain⟨L,ob,es,ep,h1,_,h3,h4,_⟩:=(R.frames env he).ex;rw[h1] at hf;cases hf;exact⟨ob,h3⟩
theorem BJ.GB (R:BJ g fr ρ H h) (m:a∈g.Dz):∃ob,h.get? a=some ob:=by
 obtain⟨q,hq,rfl⟩:=eJ.mp m;obtain⟨_,ps,hp,_⟩:=R.tabs q hq;exact⟨_,hp⟩
theorem I7.there (R:I7 g f ρ loc h):∃ob,h.get? f.L=some ob:=let ⟨_,⟨o,_,_,h1,_⟩,_⟩:=R.ns;⟨o,h1⟩
theorem Ed (ha:∃ob,h.get? a=some ob) (hb:h.get? b=none):a≠b:=λe=>by
 obtain⟨ob,q⟩:=ha;rw[e,hb] at q;cases q
theorem BJ.alloc {o:O}(R:BJ g fr ρ H h) (k:∀b o,h.get? b=some o->h'.get? b=some o) (n1:h.get? p.1=none) (n2:h.get? p.2=none) (x:By g (ρ++[p]) h' o p):BJ g fr (ρ++[p]) (H++[o]) h':=by
 have R':=R.keeps k;have ow:∀b,Own (ρ++[p]) b->Own ρ b∨b=p.1∨b=p.2:=λb ⟨q,hq,hb⟩=>by
  rcases eI.mp hq with m|m
  ·exact .inl ⟨q,m,hb⟩
  ·rw[eA.mp m] at hb;exact .inr hb
 refine⟨R'.base,R.rep.push k (λb hb=>⟨Ed (R.rep.there hb) n1,Ed (R.rep.there hb) n2⟩) x,λq hq=>?_,λenv he=>?_,λq hq=>?_⟩
 ·rcases eI.mp hq with m|m
  ·exact R.fresh q m
  ·rw[eA.mp m];exact⟨R.Gr n1,R.Gr n2⟩
 ·obtain⟨kd,L,o,es,ep,h1,h2,h3,h4,h5⟩:=R'.frames env he;refine⟨kd,L,o,es,ep,h1,h2,h3,h4,λhh=>?_⟩;have hl:=R.HJ (kA.mpr ⟨env,he,h1⟩);rcases ow _ hh with a|a|a
  ·exact h5 a
  ·exact Ed hl n1 a
  ·exact Ed hl n2 a
 ·obtain⟨a,r⟩:=R'.tabs q hq;refine⟨λhh=>?_,r⟩;have hl:=R.GB (eJ.mpr ⟨q,hq,rfl⟩);rcases ow _ hh with b|b|b
  ·exact a b
  ·exact Ed hl n1 b
  ·exact Ed hl n2 b
theorem AF.alloc {o:O}{p:Addr×Addr}(R:AF g f ρ H loc h) (k:∀b o,h.get? b=some o->h'.get? b=some o) (n1:h.get? p.1=none) (n2:h.get? p.2=none) (x:By g (ρ++[p]) h' o p):AF g f (ρ++[p]) (H++[o]) loc h':=by
 refine⟨R.toI7.of (AI.of_keeps k) (hW _ _) (λhh=>?_) λ_ hn=>hn.keeps k,R.hr.alloc k n1 n2 x⟩;obtain⟨q,hq,hb⟩:=hh;rcases eI.mp hq with m|m
 ·exact R.lo ⟨q,m,hb⟩
 ·rw[eA.mp m] at hb;have hl:=R.toI7.there;rcases hb with a|a
  ·exact Ed hl n1 a
  ·exact Ed hl n2 a
theorem Step.alloc {t:Nat}(k:∀b o,s.heap.get? b=some o->h'.get? b=some o) (n1:s.heap.get? p.1=none) (n2:s.heap.get? p.2=none):
  Step g fr X ρ s (ρ++[p]) {s with heap:=h',toks:=t}:=
 ⟨hW _ _,λq hq=>by simp at hq;subst hq;exact⟨n1,n2⟩,λb o e _ _ _ _=>k b o e,λb o e _ _=>⟨o.slots,k b o e⟩,λb o e=>⟨o,k b o e⟩,⟨_,t,rfl⟩⟩
theorem Rep.set {i:Nat}{p:Addr×Addr}{o':O}(R:Rep g ρ H h) (hp:ρ[i]? =some p) (k:∀b o,b≠p.1->b≠p.2->h.get? b=some o->h'.get? b=some o) (ik:AI h h') (x:By g ρ h' o' p):Rep g ρ (H.set i o') h' where
 len:=by simp [R.len]
 apart:=R.apart
 obj:=λj o q e1 e2=>by
  rw[List.getElem?_set] at e1;by_cases hij:i=j
  ·subst hij;rw[hp] at e2;cases e2;rw[UQ rfl] at e1;split at e1
   ·cases e1;exact x
   ·cases e1
  ·rw[T8 hij] at e1;have ap:p.1≠q.1/\p.1≠q.2/\p.2≠q.1/\p.2≠q.2:=by
    have A:=R.apart;unfold Apart at A;rw[rC] at A;obtain⟨li,ei⟩:=dt.mp hp;obtain⟨lj,ej⟩:=dt.mp e2;rcases Nat.lt_or_gt_of_ne hij with l|l
    ·have:=A i j li lj l;rw[ei,ej] at this;exact this
    ·have:=A j i lj li l;rw[ei,ej] at this
     exact⟨this.1.symm,this.2.2.1.symm,this.2.1.symm,this.2.2.2.symm⟩
   exact (R.obj j o q e1 e2).mono ik (eC _) (λ_ e=>k _ _ (Ne.symm ap.1) (Ne.symm ap.2.2.1) e) λ_ e=>k _ _ (Ne.symm ap.2.1) (Ne.symm ap.2.2.2) e
theorem BJ.set {i:Nat}{p:Addr×Addr}{o':O}(R:BJ g fr ρ H h) (hp:ρ[i]? =some p) (hi:∃o,H[i]? =some o) (k:∀b o,b≠p.1->b≠p.2->h.get? b=some o->h'.get? b=some o) (x:By g ρ h' o' p):BJ g fr ρ (H.set i o') h':=by
 have hm:=CZ hp;have jv:=R.fresh p hm;obtain⟨o,ho⟩:=hi;have ni:=(R.rep.obj i o p ho hp).EK;have ik:AI h h':=λb o e im=>k b o (λq=>ni.1 o (q▸e) im) (λq=>ni.2 o (q▸e) im) e;refine⟨λb o e=>k b o (λq=>?_) (λq=>?_) (R.base b o e),R.rep.set hp k ik x,R.fresh,λenv he=>?_,λq hq=>?_⟩
 ·rw[q,jv.1] at e;cases e
 ·rw[q,jv.2] at e;cases e
 ·obtain⟨kd,L,o,es,ep,h1,h2,h3,h4,h5⟩:=R.frames env he;exact⟨kd,L,o,es,ep,h1,h2,k L o (λq=>h5 (q▸Own.left hm)) (λq=>h5 (q▸Own.right hm)) h3,h4,h5⟩
 ·obtain⟨a,ps,h1,h2,h3⟩:=R.tabs q hq;refine⟨a,ps,k _ _ (λq=>a (q▸Own.left hm)) (λq=>a (q▸Own.right hm)) h1,h2,λpos cv hc=>?_⟩;obtain⟨c,oc,vs,t,dc,hg,hd,hv⟩:=h3 pos cv hc;exact⟨c,oc,vs,t,dc,ik c oc hg (.inr (.inr (.inl ⟨vs,hd,.inr ⟨_,t,hv⟩⟩))),hd,hv⟩
theorem AF.set {i:Nat}{p:Addr×Addr}{o':O}(R:AF g f ρ H loc h) (hp:ρ[i]? =some p) (hi:∃o,H[i]? =some o) (k:∀b o,b≠p.1->b≠p.2->h.get? b=some o->h'.get? b=some o) (x:By g ρ h' o' p):AF g f ρ (H.set i o') loc h':=by
 have hm:=CZ hp;have R':=R.hr.set hp hi k x;obtain⟨o,ho⟩:=hi;have ni:=(R.hr.rep.obj i o p ho hp).EK;have ik:AI h h':=λb o e im=>k b o (λq=>ni.1 o (q▸e) im) (λq=>ni.2 o (q▸e) im) e;refine⟨R.toI7.of ik (eC _) R.lo λm hn=>?_,R'⟩;obtain⟨o,es,ep,h1,r⟩:=hn;exact⟨o,es,ep,k _ _ (λq=>R.lo (q▸Own.left hm)) (λq=>R.lo (q▸Own.right hm)) h1,r⟩
theorem Step.set {t:Nat}{o':O}(R:BJ g fr ρ H s.heap) (hp:ρ[i]? =some p) (k:∀b o,b≠p.1->b≠p.2->s.heap.get? b=some o->h'.get? b=some o) (x:By g ρ h' o' p):
  Step g fr X ρ s ρ {s with heap:=h',toks:=t}:=by
 have hm:=CZ hp;refine⟨eC _,λp hp=>by simp at hp,λb o e n _ _ _=>k b o (λq=>n (q▸Own.left hm)) (λq=>n (q▸Own.right hm)) e,λb o e hb _=>?_,λb o e=>?_,⟨_,t,rfl⟩⟩
 ·obtain⟨env,he,hf⟩:=kA.mp hb;obtain⟨L,ob,es,ep,h1,_,h3,h4,h5⟩:=(R.frames env he).ex;rw[h1] at hf;cases hf;exact⟨o.slots,k b o (λq=>h5 (q▸Own.left hm)) (λq=>h5 (q▸Own.right hm)) e⟩
 ·by_cases h1:b=p.1
  ·rw[h1];exact x.there.1
  ·by_cases h2:b=p.2
   ·rw[h2];exact x.there.2
   ·exact⟨o,k b o h1 h2 e⟩
theorem VO.before {ρ₁:AR}{s₁:Shared}{c:Nat}{e:Addr}{P:Heap->Heap->Prop}(S:Step g fr X ρ s ρ₁ s₁) (T:VO g fr X ρ₁ s₁ ρ' H c e P s'):VO g fr X ρ s ρ' H c e P s' where
 pre:=S.pre.trans T.pre
 new:=by
  intro p hp;obtain⟨t,ht⟩:=S.pre;obtain⟨u,hu⟩:=T.pre;subst ht;subst hu;rw[kt,mB] at hp;rcases eI.mp hp with h|h
  ·exact S.new p (by rw[mB];exact h)
  ·have:=T.new p (by rw[mB];exact h)
   exact⟨S.EV this.1,S.EV this.2⟩
 ex:=by
  obtain⟨B,a0,h1,h2,h3,h4,h5,h6⟩:=T.ex;exact⟨B,a0,h1,h2,h3,h4,λb o e n x tb fr=>h5 b o (S.kept b o e n x tb fr) (S.old e n) x tb fr,h6⟩
 fresh:=T.fresh
 frames:=T.frames
 slots:=λb o e f x=>by
  obtain⟨sl,h1⟩:=S.slots b o e f x;obtain⟨eY,h2⟩:=T.slots b _ h1 f x;exact⟨eY,h2⟩
 alive:=λb o e=>let ⟨o',e'⟩:=S.alive b o e;T.alive b o' e'
 rest:=by
  obtain⟨h,tk,rfl⟩:=S.rest;obtain⟨h',tk',e⟩:=T.rest;exact⟨h',tk',e⟩
end
def Out.bind {α β:Type}:Out α->(α->Loc->Hp->Out β)->Out β
 | .ok a l h,k=>k a l h
 | .exc c l h,_=>.exc c l h
 | .stuck,_=>.stuck
def Res.out {α:Type}(loc:Loc):Res α->Out α
 | .ok a h=>.ok a loc h
 | .exc c h=>.exc c loc h
 | .stuck=>.stuck
def A0 {α β:Type}(g:Gd) (f:Fd) (R:AR->Heap->α->β->Prop) (ρ:AR) (s:Shared) (o:Out α) (b:β) (s':Shared):Prop:=
 ∃a loc H ρ',o= .ok a loc H/\Step g f.fr [f.L] ρ s ρ' s'/\AF g f ρ' H loc s'.heap/\R ρ' s'.heap a b
def BP {α:Type}(g:Gd) (f:Fd) (ρ:AR) (s:Shared) (o:Out α) (e:Value) (s':Shared):Prop:=
 ∃c loc H ρ' a,e= .ref a/\o= .exc c loc H/\VO g f.fr [f.L] ρ s ρ' H c a (QI g f ρ' loc) s'/\PO g f ρ'
def AE {α β:Type}(g:Gd) (f:Fd) (R:AR->Heap->α->β->Prop) (ρ:AR) (s:Shared) (o:Out α) (t:Sem β):Prop:=
 (o= .stuck->False)->Ai g.M f.A t (A0 g f R ρ s o) (BP g f ρ s o) s
variable {o:Out α}{t:Sem β}{u:β->Sem δ}
section
variable {β γ δ:Type}{R:AR->Heap->α->β->Prop}{R':AR->Heap->γ->δ->Prop}
theorem AE.bind {o:Out α}{t:Sem β}{k:α->Loc->Hp->Out γ}{u:β->Sem δ}(h:AE g f R ρ s o t)
  (h2:∀a loc H ρ' s' b,o= .ok a loc H->Step g f.fr [f.L] ρ s ρ' s'->AF g f ρ' H loc s'.heap->R ρ' s'.heap a b->AE g f R' ρ' s' (k a loc H) (u b)):AE g f R' ρ s (o.bind k) (t>>=u):=by
 intro ns;refine AA (AG (h λe=>ns (by rw[e];rfl)) (λb s₁ q=>?_) λe s₁ q=>?_)
 ·obtain⟨a,l,H',ρ₁,e1,S,Q,r⟩:=q;have z:=h2 a l H' ρ₁ s₁ b e1 S Q r (λe=>ns (by rw[e1];exact e));refine AG z (λd s₂ q=>?_) λe s₂ q=>?_
  ·obtain⟨a',l',d8,ρ₂,e2,S2,Q2,r2⟩:=q;exact⟨a',l',d8,ρ₂,by rw[e1];exact e2,S.trans S2,Q2,r2⟩
  ·obtain⟨c,l',d8,ρ₂,x,e2,e3,F,Q2⟩:=q;exact⟨c,l',d8,ρ₂,x,e2,by rw[e1];exact e3,F.before S,Q2⟩
 ·obtain⟨c,l',d8,ρ₂,x,e2,e3,F,Q2⟩:=q;exact⟨c,l',d8,ρ₂,x,e2,by rw[e3];rfl,F,Q2⟩
theorem AE.pure {a:α}{b:β}(Q:AF g f ρ H loc s.heap) (r:R ρ s.heap a b):AE g f R ρ s (.ok a loc H) (pure b):=λ_=>AB ⟨a,loc,H,ρ,rfl,Step.refl,Q,r⟩
theorem AE.holding {o:Out α}{t:Sem β}{vs:List Value}(h:AE g f R ρ s o t):AE g f R ρ s o (holding vs t):=λns=>AM (h ns)
theorem AE.standAt {o:Out α}{t:Sem β}{p:Pos}(h:AE g f R ρ s o t):AE g f R ρ s o (PySem.standAt p>>=λ_=>t):=λns=>AA (AY (h ns))
theorem AE.point {o:Out α}{t:Sem β}(h:AE g f R ρ s o t):AE g f R ρ s o (PySem.point>>=λ_=>t):=λns=>AA (En (h ns))
theorem AE.rule {o:Out α}{t:Sem β}{r:String}(h:AE g f R ρ s o t):AE g f R ρ s o (PySem.rule r>>=λ_=>t):=λns=>AA (C8 (h ns))
theorem AE.Vo {t:Sem γ}{a:γ}{u:γ->Sem β}(l:Looks g.M s.heap t a) (h:AE g f R ρ s o (u a)):AE g f R ρ s o (t>>=u):=λns=>AJ (l.here (h ns))
theorem AE.stuck {t:Sem β}:AE g f R ρ s (.stuck:Out α) t:=λh=>(h rfl).elim
theorem AE.after {t:Sem β}(S:Step g f.fr [f.L] ρ s ρ' s') (h:Ai g.M f.A t (A0 g f R ρ' s' o) (BP g f ρ' s' o) s'):Ai g.M f.A t (A0 g f R ρ s o) (BP g f ρ s o) s':=
 AG h (λ_ _ q=>by
   obtain⟨a',l',d8,ρ₂,e2,S2,Q2,r2⟩:=q;exact⟨a',l',d8,ρ₂,e2,S.trans S2,Q2,r2⟩) λ_ _ q=>by
   obtain⟨c,l',d8,ρ₂,x,e2,e3,F,Q2⟩:=q;exact⟨c,l',d8,ρ₂,x,e2,e3,F.before S,Q2⟩
theorem AE.mono {t:Sem β}{R₂:AR->Heap->α->β->Prop}(h:AE g f R ρ s o t) (k:∀ρ h a b,R ρ h a b->R₂ ρ h a b):AE g f R₂ ρ s o t:=λns=>AG (h ns) (λ_ _ q=>by
   obtain⟨a',l',d8,ρ₂,e2,S2,Q2,r2⟩:=q;exact⟨a',l',d8,ρ₂,e2,S2,Q2,k _ _ _ _ r2⟩) λ_ _ q=>q
theorem AE.bindR {r:Res α}{t:Sem β}{k:α->Hp->Res γ}{u:β->Sem δ}(h:AE g f R ρ s (r.out loc) t) (h2:∀a H ρ' s' b,r= .ok a H->Step g f.fr [f.L] ρ s ρ' s'->AF g f ρ' H loc s'.heap->R ρ' s'.heap a b->AE g f R' ρ' s' ((k a H).out loc) (u b)):AE g f R' ρ s ((r.bind k).out loc) (t>>=u):=by
 have e:(r.bind k).out loc=(r.out loc).bind λa l H=>(k a H).out loc:=by cases r<;>rfl
 rw[e];refine AE.bind h λa l H ρ' s' b e S Q x=>?_;cases r with
 |ok a' H'=>simp only[Res.out,Out.ok.injEq] at e;obtain⟨rfl,rfl,rfl⟩:=e;exact h2 _ _ ρ' s' b rfl S Q x
 |exc c H'=>cases e
 |stuck=>cases e
theorem AE.EC {r:Res α}{t:Sem β}{k:α->Hp->Out γ}{u:β->Sem δ}(h:AE g f R ρ s (r.out loc) t) (h2:∀a H ρ' s' b,r= .ok a H->Step g f.fr [f.L] ρ s ρ' s'->AF g f ρ' H loc s'.heap->R ρ' s'.heap a b->AE g f R' ρ' s' (k a H) (u b)):AE g f R' ρ s (r.toS loc k) (t>>=u):=by
 have e:r.toS loc k=(r.out loc).bind λa l H=>k a H:=by cases r<;>rfl
 rw[e];refine AE.bind h λa l H ρ' s' b e S Q x=>?_;cases r with
 |ok a' H'=>simp only[Res.out,Out.ok.injEq] at e;obtain⟨rfl,rfl,rfl⟩:=e;exact h2 _ _ ρ' s' b rfl S Q x
 |exc c H'=>cases e
 |stuck=>cases e
end
def BE (g:Gd):AR->Heap->V->Value->Prop:=λρ h a b=>VR g ρ h a b
def BR:AR->Heap->Bool->Bool->Prop:=λ_ _ a b=>a=b
def UR:AR->Heap->Unit->Unit->Prop:=λ_ _ _ _=>True
section
variable {β γ δ:Type}{R:AR->Heap->α->β->Prop}
theorem AE.same {a:α}{t:Sem β}(Q:AF g f ρ H loc s.heap) (h:wpAny g.M f.A t (λx s'=>(∃k,s'={s with toks:=k})/\R ρ s.heap a x) (λ_ _=>False) s):AE g f R ρ s (.ok a loc H) t:=λ_=>
 AL (jV h (λx s' ⟨⟨k,e⟩,r⟩=>by
  subst e;exact⟨a,loc,H,ρ,rfl,Step.tok k,Q,r⟩) λ_ _ q=>q.elim)
theorem Cb (s:Shared):∃k,s={s with toks:=k}:=⟨s.toks,rfl⟩
theorem Ab {i:Int}{v:Value}(r:VR g ρ h (.int i) v):∃t,v= .int i t:=by unfold VR at r;exact r
theorem Ah {i:Int}{t:Tok}:VR g ρ h (.int i) (.int i t):=by unfold VR;exact⟨t,rfl⟩
theorem D9 {b:Bool}:VR g ρ h (.bool b) (.bool b):=by unfold VR;rfl
theorem Bw:VR g ρ h .none .none:=by unfold VR;rfl
theorem V3 {a b:Int}(ha:0<=a) (hb:0<=b):Builtin.bitOr a b=((a.toNat|||b.toNat:Nat):Int):=by
 obtain⟨x,rfl⟩:=mi ha;obtain⟨y,rfl⟩:=mi hb;have h1:¬(0:Int)<=Builtin.bitNot (x:Int):=by unfold Builtin.bitNot;omega
 have h2:¬(0:Int)<=Builtin.bitNot (y:Int):=by unfold Builtin.bitNot;omega
 have e:∀z:Int,Builtin.bitNot (Builtin.bitNot z)=z:=λz=>by unfold Builtin.bitNot;omega
 unfold Builtin.bitOr Builtin.bitAnd;simp only[h1,h2,dq,e]
theorem VN {a b:Int}(ha:0<=a) (hb:0<=b):Builtin.bitAnd a b=((a.toNat&&&b.toNat:Nat):Int):=by
 unfold Builtin.bitAnd;simp only[ha,hb,dT]
theorem SD (a:Int):Builtin.bitXor a 1=a+1-2*(a%2):=by
 rw[bitXor_and,bitAnd_m1]
theorem Oo {op:Operator}{a b:Int}{t u:Tok}{v:V}(h:binI op a b=some v):
  wpAny (model g.prog g.w) A (binaryOp op (.int a t) (.int b u)) (λx s'=>(∃k,s'={s with toks:=k})/\VR g ρ s.heap v x) E s:=by
 have go:∀{c:Int},some (V.int c)=some v->∀t' k,(∃k',({s with toks:=k}:Shared)={s with toks:=k'})/\VR g ρ s.heap v (.int c t'):=λe t' k=>by
  cases e;exact⟨⟨k,rfl⟩,Ah⟩
 cases op<;>unfold binI at h<;>simp only at h
 case Add=>exact add_int (go h _ _)
 case Sub=>exact sub_int' (go h _ _)
 case Mult=>
  split at h
  ·rename_i hc;refine mul_int (go h _ _) ?_;rcases hc with hc|hc
   ·exact IntMulOk.of_left (by simpa using (intBits_le_iff (m:=64)).mpr ⋯)
   ·exact IntMulOk.of_right (by simpa using (intBits_le_iff (m:=64)).mpr ⋯)
  ·cases h
 case FloorDiv=>
  split at h
  ·rename_i hc;refine floordiv_int ⋯ ?_ (Or.inl (PyProof.noPylong_small ⋯));rw[sO _ ⋯];exact go h _ _
  ·cases h
 case Mod=>
  split at h
  ·rename_i hc;refine mod_int' ⋯ ?_;rw[Int.fmod_eq_emod_of_nonneg _ ⋯];exact go h _ _
  ·cases h
 case Pow=>
  split at h
  ·rename_i hc;exact pow_int_small hc.1 ⋯ ⋯ (go h _ _)
  ·cases h
 case LShift=>
  split at h
  ·rename_i hc;exact lshift_int_small hc.1 ⋯ ⋯ (go h _ _)
  ·cases h
 case RShift=>
  split at h
  ·rename_i hc;refine rshift_int hc.1 ?_;rw[sO _ (Int.le_of_lt (Int.pow_pos ⋯))];exact go h _ _
  ·cases h
 case BitAnd=>
  unfold EF at h;split at h
  ·rename_i hc;refine and_int ?_;rw[VN hc.1 hc.2];exact go h _ _
  ·cases h
 case BitOr=>
  unfold EF at h;split at h
  ·rename_i hc;refine or_int ?_;rw[V3 hc.1 hc.2];exact go h _ _
  ·cases h
 case BitXor=>
  split at h
  ·rename_i hc;subst hc;refine xor_int ?_;rw[SD];exact go h _ _
  ·cases h
 all_goals cases h
theorem QQ {op:CmpOp}{a b:Int}{t u:Tok}{c:Bool}(h:UF op a b=some c):
  wpAny (model g.prog g.w) A (compareOp op (.int a t) (.int b u)) (λx s'=>s'=s/\x= .bool c) E s:=by
 cases op<;>unfold UF at h<;>simp only[qu,reduceCtorEq] at h<;>subst h
 case Eq=>exact PyProof.Rows.eq_int ⟨rfl,rfl⟩
 case NotEq=>exact PyProof.Rows.ne_int ⟨rfl,rfl⟩
 case Lt=>exact PyProof.Rows.lt_int ⟨rfl,rfl⟩
 case LtE=>exact PyProof.Rows.le_int ⟨rfl,rfl⟩
 case Gt=>exact PyProof.Rows.gt_int ⟨rfl,rfl⟩
 case GtE=>exact PyProof.Rows.ge_int ⟨rfl,rfl⟩
end
end Fsx
namespace Fsx
open PySem PySem.W PySem.Calls PyProof.Rows Builtin Builtin.ObjectAttr
local macro_rules |`(⋯)=>`(by first|decide+kernel|omega)
structure NY (g:Gd) (c:Nat):Prop where
 cd:(clsIn g.K (g.ca c)).any (·.hasDict)=true
 ga:findIn g.K (.ref (g.ca c)) "__getattribute__"=some (some (.builtin "object.__getattribute__"))
 gt:findIn g.K (.ref (g.ca c)) "__getattr__"=some none
 sa:findIn g.K (.ref (g.ca c)) "__setattr__"=some (some (.builtin "object.__setattr__"))
 po:plainOver g.K (g.ca c)=true
 kp:keepIn g.K (.ref (g.ca c))=true
 lz:makesIn g.K (g.ca c)=true
 fld:∀x,AP c x=true->findIn g.K (.ref (g.ca c)) x=some none
 ia:∀x j,AZ c x=some j->findIn g.K (.ref (g.ca c)) x=some (some (.ref (g.fa c j)))/\typeIn g.K (.ref (g.fa c j))=some (.type "function")/\keepIn g.K (.ref (g.fa c j))=true/\AP c x=false
variable {i j:Nat}{x:Str}
theorem FK {i:Nat}{x:Str}{j:Nat}:∀{l:List (Nat×Str×Nat)},J0 i x l=some j->(i,x,j)∈l
 |[],h=>by cases h
 |(k,y,z)::r,h=>by
  unfold J0 at h;split at h
  ·rename_i e;obtain⟨rfl,rfl⟩:=e;cases h;exact .head _
  ·exact .tail _ (FK h)
theorem Od:(Kx.all λp=>Fc p.1)=true:=by decide+kernel
theorem IW (h:AZ i x=some j):Fc i=true:=jU.mp Od _ (FK h)
structure C2 (g:Gd):Prop where
 dZ:g.K.In g.base
 cls:∀c,Fc c=true->NY g c
 lim:g.base.NoLimit
 fns:∀i,i∈Ob->∃o fd,g.base.get? (g.fa i 0)=some o/\o.data= .func fd
 buf:CmpCls g.base (g.ca 29)
 low:∃b o,sysModules<b/\g.base.get? b=some o
 glob:∃mg mb,g.base.Ns mainGlobals mg/\g.base.Ns builtinsNs mb/\∀x v,glob x=some v->∃val,(mg x=some val∨(mg x=none/\mb x=some val))/\∀ρ h,VR g ρ h v val
variable {A:Around}{E:Value->Shared->Prop}{H':Hp}{α:Type}{R:AR->Heap->α->β->Prop}{es:List DictEntry}{fr:List Env}{h:Heap}{loc:Loc}{p:Addr×Addr}{s s':Shared}{sl:Array (Option Value)}{t:Tok}{v:V}{y:Value}
section
variable {g:Gd}{f:Fd}{ρ ρ':AR}{β γ δ:Type}{R:AR->Heap->α->β->Prop}{H:Hp}
theorem Gp {y:Str}:(Value.str x t).isStr y=decide (x=y):=by
 show (x==y)=_;by_cases h:x=y
 ·simp [h]
 ·simp [h]
theorem Ez.noRef {h:Heap}:∀{fs:List (Str×V)}{es:List DictEntry},Ez g ρ h fs es->es.any (·.refKey)=false
 |[],_,e=>by cases e;rfl
 |(_,_)::_,_,⟨e,t,e1,⟨tk,e2⟩,_,e4⟩=>by
  subst e1;rw[qa,e4.noRef,uI];unfold DictEntry.refKey;rw[e2]
theorem Ez.get {h:Heap}{x:Str}:∀{fs:List (Str×V)}{es:List DictEntry},Ez g ρ h fs es->(lk x fs=none/\es.find? (·.key.isStr x)=none)∨∃v e,lk x fs=some v/\es.find? (·.key.isStr x)=some e/\VR g ρ h v e.val
 |[],_,e=>by cases e;exact .inl ⟨rfl,rfl⟩
 |(y,v)::r,_,⟨e,t,e1,⟨tk,e2⟩,e3,e4⟩=>by
  subst e1;unfold lk;rw[rL];have q:e.key.isStr x=decide (y=x):=by rw[e2,Gp]
  by_cases hxy:x=y
  ·subst hxy;rw[UQ rfl,q];exact .inr ⟨v,e,rfl,by simp,e3⟩
  ·rw[T8 hxy,q]
   have:decide (y=x)=false:=by simpa using λh=>hxy h.symm
   rw[this];exact e4.get
theorem Ez.lookIn {h:Heap}{fs:List (Str×V)}{es:List DictEntry}{x:Str}{n:Nat}(F:Ez g ρ h fs es):(lk x fs=none/\lookIn x (dictOf es n)=some none)∨∃v w,lk x fs=some v/\lookIn x (dictOf es n)=some (some w)/\VR g ρ h v w:=by
 rw[lookIn_dict];unfold getL;rcases F.get (x:=x) with ⟨a,b⟩|⟨v,e,a,b,c⟩
 ·refine .inl ⟨a,?_⟩;rw[b,F.noRef];rfl
 ·exact .inr ⟨v,e.val,a,by rw[b],c⟩
theorem Ez.put {h:Heap}{x:Str}{hh:Int}{t:Tok}{v:V}{w:Value}(hv:VR g ρ h v w):∀{fs:List (Str×V)}{es:List DictEntry},Ez g ρ h fs es->Ez g ρ h (pt x v fs) (putL x hh (.str x t) w es)
 |[],_,e=>by cases e;exact⟨_,[],rfl,⟨t,rfl⟩,hv,rfl⟩
 |(y,v')::r,_,⟨e,u,e1,⟨tk,e2⟩,e3,e4⟩=>by
  subst e1;unfold pt putL;have q:e.key.isStr x=decide (y=x):=by rw[e2,Gp]
  by_cases hxy:x=y
  ·subst hxy;rw[UQ rfl,UQ (by rw[q];simp)];exact⟨_,u,rfl,⟨tk,e2⟩,hv,e4⟩
  ·have:decide (y=x)=false:=by simpa using λh=>hxy h.symm
   rw[T8 hxy,T8 (by rw[q,this];decide)];exact⟨e,_,rfl,⟨tk,e2⟩,e3,e4.put hv⟩
theorem Ez.len {h:Heap}:∀{fs:List (Str×V)}{es:List DictEntry},Ez g ρ h fs es->es.length=fs.length
 |[],_,e=>by cases e;rfl
 |(_,_)::_,_,⟨e,t,e1,_,_,e4⟩=>by subst e1;simp [e4.len]
theorem Kf {α:Type}{x:Str}{v:α}:∀{l:List (Str×α)},(pt x v l).length<=l.length+1/\((lk x l).isSome=true->(pt x v l).length=l.length)
 |[]=>by simp [pt,lk]
 |(y,w)::r=>by
  unfold pt lk;split
  ·simp
  ·have:=Kf (x:=x) (v:=v) (l:=r)
   simp only[KX];exact⟨by omega,λh=>by rw[this.2 h]⟩
theorem NP {α:Type}{x:Str}{v:α}{P:Str->Prop}(hx:P x):∀{l:List (Str×α)},(∀q∈l,P q.1)->∀q∈pt x v l,P q.1
 |[],_,q,h=>by simp [pt] at h;rw[h];exact hx
 |(y,w)::r,a,q,h=>by
  unfold pt at h;split at h
  ·rcases fg.mp h with e|e
   ·rw[e];exact a (y,w) (.head _)
   ·exact a q (.tail _ e)
  ·rcases fg.mp h with e|e
   ·rw[e];exact a (y,w) (.head _)
   ·exact NP hx (λq hq=>a q (.tail _ hq)) q e
theorem FQ {α:Type}{x:Str}{v:α}:∀{l:List (Str×α)},lk x l=some v->∃q∈l,q.1=x
 |[],h=>by cases h
 |(y,w)::r,h=>by
  unfold lk at h;split at h
  ·rename_i e;exact⟨_,.head _,e.symm⟩
  ·obtain⟨q,a,b⟩:=FQ h;exact⟨q,.tail _ a,b⟩
theorem HO {c:Nat}{n:Nat}(h1:h.get? p.1=some ⟨.ref (g.ca c),some p.2,.plain,sl⟩) (h2:h.get? p.2=some (dictOf es n)):
  InstAt h p.1 ⟨.ref (g.ca c),some p.2,.plain,sl⟩ (g.ca c) (some (dictOf es n)):=⟨h1,rfl,rfl,h2⟩
theorem Ix {c:Nat}(C:NY g c){od:Obj}{w:Value}(hx:AP c x=true) (hl:lookIn x od=some (some w)):findObj g.K (g.ca c) (some od) x=some (.value w):=by
 obtain⟨cd,h1,h2⟩:=any_some C.cd;unfold findObj;rw[h1,qQ,C.fld x hx,qQ];simp only[qQ];unfold W.ownOf;rw[UQ h2];simp only[hl,qQ]
theorem N8 {x:Value}(r:VR g ρ h v x):handedIn x=true:=by
 cases v<;>unfold VR at r
 case bi b=>rw [r.1];exact r.2
 case none=>subst r;rfl
 case bool=>subst r;rfl
 case int=>obtain ⟨t,rfl⟩:=r;rfl
 case str=>obtain ⟨t,rfl⟩:=r;rfl
 case bytes=>obtain ⟨b,t,rfl,_⟩:=r;rfl
 case tup=>obtain ⟨a,i,rfl,_⟩:=r;rfl
 case fl=>obtain ⟨a,i,rfl,_⟩:=r;rfl
 case fn=>rw [r.1];rfl
 case cls=>subst r;rfl
 case ty=>subst r;rfl
 case ref=>obtain ⟨p,_,rfl⟩:=r;rfl
 case clo=>obtain ⟨a,rfl,_⟩:=r;rfl
 case Ck=>obtain ⟨⟨a,_,_,_,rfl,_⟩,_⟩:=r;rfl
 case dX=>obtain ⟨a,_,_,_,_,rfl,_⟩:=r;rfl
theorem Qk {h:Hp}{v':V}(e:Ft v x H= .ok v' h):h=H/\∃a c fs,v= .ref a/\H[a]? =some (.inst c fs)/\lk x fs=some v':=by
 unfold Ft at e;split at e
 ·rename_i a;split at e
  ·rename_i c fs hH;cases q:lk x fs with
   |none=>rw [q] at e;cases e
   |some u=>rw [q] at e;cases e;exact⟨rfl,a,c,fs,rfl,hH,q⟩
  ·cases e
 ·cases e
theorem NG (ns:Ft v x H≠ .stuck):∃v',Ft v x H= .ok v' H:=by
 unfold Ft at ns ⊢;split at ns
 ·split at ns
  ·rename_i c fs hH;cases q:lk x fs with
   |none=>rw [q] at ns;exact absurd rfl ns
   |some u=>exact ⟨u,by simp [Res.some]⟩
  ·exact absurd rfl ns
 ·exact absurd rfl ns
theorem NR {v':V}{o:Value}{expr:Bool}(G:C2 g) (Rl:BJ g fr ρ H s.heap) (r:VR g ρ s.heap v o) (e:Ft v x H= .ok v' H):
  wpAny (model g.prog g.w) A (getAttr o x expr) (λy s'=>(∃k,s'={s with toks:=k})/\VR g ρ s.heap v' y) E s:=by
 obtain⟨_,a,c,fs,rfl,hH,q1⟩:=Qk e;obtain⟨p,hp,hc,sl,es,n,h1,h2,F,hl,hk⟩:=Rl.rep.get hH;unfold VR at r;obtain⟨p',dN,rfl⟩:=r;rw[hp] at dN;cases dN;rcases F.lookIn (x:=x) (n:=n) with ⟨q,_⟩|⟨u,w,q,q2,q3⟩
 ·rw[q] at q1;cases q1
 ·rw[q] at q1;cases q1;obtain⟨qq,m1,m2⟩:=FQ q;have hx:AP c x=true:=m2▸hk qq m1;exact get_value (G.dZ.keeps Rl.base) (HO h1 h2) (G.cls c hc).ga (Ix (G.cls c hc) hx q2) (N8 q3) ⟨⟨_,rfl⟩,q3⟩
theorem RG {w:V}(e:DV v x w H=some H'):∃a c fs,v= .ref a/\H[a]? =some (.inst c fs)/\H'=H.set a (.inst c (pt x w fs))/\(AP c x=true∨∃u,lk x fs=some u)/\((pt x w fs).length<=fs.length∨fs.length<100):=by
 unfold DV at e;split at e
 ·rename_i a;split at e
  ·rename_i c fs hH;refine⟨a,c,fs,rfl,hH,?_⟩;split at e
   ·rename_i u q;cases e;exact⟨rfl,.inr ⟨u,q⟩,.inl (Nat.le_of_eq (Kf.2 (by rw[q];rfl)))⟩
   ·split at e
    ·rename_i q;cases e;simp only[dv,ip] at q;exact⟨rfl,.inl q.1,.inr q.2⟩
    ·cases e
  ·cases e
 ·cases e
theorem Ic {q:Addr×Addr}(A:Apart ρ) (hp:ρ[i]? =some p) (hq:ρ[j]? =some q) (n:i≠j):p.1≠q.1/\p.1≠q.2/\p.2≠q.1/\p.2≠q.2:=by
 unfold Apart at A;rw[rC] at A;obtain⟨li,ei⟩:=dt.mp hp;obtain⟨lj,ej⟩:=dt.mp hq;rcases Nat.lt_or_gt_of_ne n with l|l
 ·have:=A i j li lj l;rw[ei,ej] at this;exact this
 ·have:=A j i lj li l;rw[ei,ej] at this
  exact⟨this.1.symm,this.2.2.1.symm,this.2.1.symm,this.2.2.2.symm⟩
theorem VR.heap {h':Heap}{x:Value}(r:VR g ρ h v x) (k:AI h h'):VR g ρ h' v x:=VR.mono k (eC _) r
theorem SC {c n:Nat}{tk:Tok}{R:Result->Shared->Prop}(X:g.K.In s.heap) (C:NY g c) (hx:AP c x=true) (h1:s.heap.get? p.1=some ⟨.ref (g.ca c),some p.2,.plain,sl⟩) (h2:s.heap.get? p.2=some (dictOf es n)) (hr:es.any (·.refKey)=false) (hz:∀t,(putL x (PyData.keyHash g.w.params x) (.str x t) y es).length<=1000) (h:∀t k,R (.ok (.ret .none)) {s with heap:=s.heap.update p.2 (Obj.putName x (PyData.keyHash g.w.params x) (.str x t) y),toks:=k}):
  codeAny (model g.prog g.w) A (.call (.builtin "object.__setattr__") ⟨[.ref p.1,.str x tk,y],[]⟩) R s:=by
 have I:=HO h1 h2;have ht:takerIn g.K (g.ca c) x=some none:=by unfold takerIn;rw[C.fld x hx];rfl
 refine osa_open X I C.po ht λb=>?_;obtain⟨cd,hcd,hd'⟩:=any_some C.cd;refine K3 (df (K3 (K3 (rS h1 (K3 ((uB X hcd).here ?_))))));rw[hd'];refine df (a:=some p.2) (K3 (df (K3 ?_)));unfold nsSet;refine K3 (K3 (wpAny_askSetting (df (K3 (wpAny_mkText (K3 (rS h2 ?_)))))));dsimp only;have cc:(!es.toArray.any (·.key.isStr x)&&es.toArray.any (·.refKey))=false:=by
  rw[←Array.any_toList,←Array.any_toList,qb,hr,Bool.and_false]
 rw[aRefKeyMayBeTheName_at,cc];refine wpAny_updatePart h2 ?_;have eZ:=lx (Obj.putName x (PyData.keyHash g.w.params x) (.str x s.toks) y) h2 (by rw[tc];rfl);rw[tc] at eZ;refine K3 (tM eZ (pastItsLine_dict (by have:=hz s.toks;rw[sm,il];omega)) ?_);exact df (h s.toks _)
theorem NL {w:V}{o:Value}(G:C2 g) (Rl:AF g f ρ H loc s.heap) (r:VR g ρ s.heap v o) (rw':VR g ρ s.heap w y) (e:DV v x w H=some H'):
  wpAny (model g.prog g.w) A (setAttr o x y) (λ_ s'=>Step g f.fr [f.L] ρ s ρ s'/\AF g f ρ H' loc s'.heap) E s:=by
 obtain⟨a,c,fs,rfl,hH,rfl,hf,hlen⟩:=RG e;obtain⟨p,hp,hc,sl,es,n,h1,h2,F,hl,hk⟩:=Rl.hr.rep.get hH;unfold VR at r;obtain⟨p',dN,rfl⟩:=r;rw[hp] at dN;cases dN;have X:=G.dZ.keeps Rl.hr.base;have C:=G.cls c hc;have hx:AP c x=true:=by
  rcases hf with q|⟨u,q⟩
  ·exact q
  ·obtain⟨qq,m1,m2⟩:=FQ q;exact m2▸hk qq m1
 have hlen':(pt x w fs).length<=100:=by
  have:=(Kf (x:=x) (v:=w) (l:=fs)).1
  rcases hlen with q|q<;>omega
 have F':=λt=>F.put (x:=x) (hh:=PyData.keyHash g.w.params x) (t:=t) rw';refine set_plain X (HO h1 h2) C.sa ?_;refine SC (s:={s with toks:=s.toks+1}) X C hx h1 h2 F.noRef (λt=>by rw[(F' t).len];omega) λt k'=>?_;have eZ:=lx (Obj.putName x (PyData.keyHash g.w.params x) (.str x t) y) h2 (by rw[tc];rfl);rw[tc] at eZ;have k:∀b o,b≠p.1->b≠p.2->s.heap.get? b=some o->(s.heap.update p.2 (Obj.putName x (PyData.keyHash g.w.params x) (.str x t) y)).get? b=some o:=λb o _ n2 e=>by
  rw[lw _ _ (Ne.symm n2)];exact e
 have ni:=(Rl.hr.rep.obj a _ p hH hp).EK;have ik:AI s.heap (s.heap.update p.2 (Obj.putName x (PyData.keyHash g.w.params x) (.str x t) y)):=λb o e im=>k b o (λq=>ni.1 o (q▸e) im) (λq=>ni.2 o (q▸e) im) e;have ne:p.2≠p.1:=λq=>by rw[q,h1] at h2;cases h2
 have ob:By g ρ (s.heap.update p.2 (Obj.putName x (PyData.keyHash g.w.params x) (.str x t) y)) (.inst c (pt x w fs)) p:=
  ⟨hc,sl,_,_,by rw[lw _ _ ne];exact h1,eZ,(F' t).mono ik (eC _),hlen',NP (P:=λz=>AP c z=true) hx hk⟩
 exact⟨Step.set (t:=k') Rl.hr hp k ob,Rl.set hp ⟨_,hH⟩ k ob⟩
end
variable {a b:V}{c:Bool}{l:List V}
section
variable {g:Gd}{f:Fd}{ρ ρ':AR}{β γ δ:Type}{R:AR->Heap->α->β->Prop}{H:Hp}{N:Nat}
theorem C2.env (fk:Ac g f N):f.env.scope.kind= .function:=fk.kind
theorem JI {pos:Pos}(G:C2 g) (fk:Ac g f N) (Q:AF g f ρ H loc s.heap) (e:getVar f.cx loc x H=some v):
  wpAny g.M A (eval (.Name x pos) f.env) (λy s'=>s'=s/\VR g ρ s.heap v y) E s:=by
 unfold getVar at e;cases hk:lk x f.cx.names with
 |none=>rw [hk] at e;cases e
 |some k=>
  rw[hk] at e;obtain⟨kr,nd,nc⟩:=fk.names x k hk;have hd:(x==("__debug__":Str))=false:=by simpa using nd
  have hcd:(x==("__classdict__":Str))=false:=by simpa using nc
  have cell:∀{a:Nat}{w:V},lk x f.cx.cells=some a->H[a]? =some (.cell (some w))->∃c,f.env.cells.lookup x=some c/\∃val,s.heap.IsCell c (some val)/\VR g ρ s.heap w val:=by
   intro a w h1 h2;obtain⟨p,hp,hc⟩:=Q.cells x a h1;obtain⟨p',dN,_,c,hcell,hv⟩:=Q.hr.rep.get h2;rw[hp] at dN;cases dN;obtain⟨val,rfl,hv⟩:=hv;exact⟨p.1,hc,val,hcell,hv⟩
  have cells:∀{k':NameKind},(k'= .cell∨k'= .free)->f.env.kindOf x=some k'->(match lk x f.cx.cells with|some a=>(match H[a]? with|some (.cell v)=>v|_=>none)|none=>none)=some v->wpAny g.M A (eval (.Name x pos) f.env) (λy s'=>s'=s/\VR g ρ s.heap v y) E s:=by
   intro k' hk' hkk e;split at e
   ·rename_i a ha;split at e
    ·rename_i w hw;subst e;obtain⟨c,h1,val,h2,h3⟩:=cell ha hw;rcases hk' with rfl|rfl
     ·exact rh (wpAny_loadName_cell fk.kind hkk h1 h2 ⟨rfl,h3⟩) hd
     ·exact rh (wpAny_loadName_free fk.kind hkk h1 h2 ⟨rfl,h3⟩ hcd) hd
    ·cases e
   ·cases e
  cases k<;>simp only at e
  case «local»=>
   obtain⟨m,hn,hm⟩:=Q.ns;obtain⟨val,h1,h2⟩:=hm x v hk e;refine rh (qX (m:=m) fk.kind kr (by rw[fk.locals];exact hn) h1 ⟨rfl,h2⟩) hd
  case cell=>exact cells (.inl rfl) kr e
  case free=>
   rcases kr with kr|kr
   ·exact cells (.inr rfl) kr e
   ·exact cells (.inl rfl) kr e
  case globalImplicit=>
   obtain⟨mg,mb,h1,h2,h3⟩:=G.glob;obtain⟨val,hv,hr⟩:=h3 x v e;have g1:s.heap.Ns f.env.globals mg:=by rw[fk.globals];exact h1.keeps Q.hr.base
   have g2:s.heap.Ns f.env.builtins mb:=by rw[fk.builtins];exact h2.keeps Q.hr.base
   refine Name_function_global fk.kind kr ?_ hd;rcases hv with hv|⟨hv,hb⟩
   ·exact loadGlobal_global g1 hv ⟨rfl,hr _ _⟩
   ·exact loadGlobal_builtin g1 hv g2 hb ⟨rfl,hr _ _⟩
  all_goals cases e
theorem Ns.dict {h:Heap}{a:Addr}{m:Str->Option Value}(n:h.Ns a m):∃o es ep,h.get? a=some o/\o.data= .dict es ep:=let ⟨o,es,ep,h1,h2,_⟩:=n;⟨o,es,ep,h1,h2⟩
theorem AF.locals {h':Heap}{m':Str->Option Value}{loc':Loc}(Q:AF g f ρ H loc h) (k:Heap.ExtBut f.L h h') (n:h'.Ns f.L m') (hm:∀x v,lk x f.cx.names=some .local->lk x loc'=some v->∃val,m' x=some val/\VR g ρ h v val):AF g f ρ H loc' h':=by
 have ik:AI h h':=λb o e i=>k b o (Q.Uo e i) e;refine⟨⟨⟨m',n,λx v a b=>?_⟩,Q.lb,Q.lo,Q.cells⟩,⟨λb o e=>k b o (λq=>?_) (Q.hr.base b o e),Q.hr.rep.mono ik λb o ow e=>k b o (λq=>Q.lo (q▸ow)) e,Q.hr.fresh,λenv he=>?_,λq hq=>?_⟩⟩
 ·obtain⟨val,h1,h2⟩:=hm x v a b;exact⟨val,h1,h2.heap ik⟩
 ·rw[q,Q.lb] at e;cases e
 ·obtain⟨kd,L,o,es,ep,h1,h2,h3,h4,h5⟩:=Q.hr.frames env he;by_cases hL:L=f.L
  ·obtain⟨o',es',jx,a,b⟩:=Ns.dict n;exact⟨kd,L,o',es',jx,h1,h2,hL▸a,b,h5⟩
  ·exact⟨kd,L,o,es,ep,h1,h2,k L o hL h3,h4,h5⟩
 ·obtain⟨a,ps,h1,h2,h3⟩:=Q.hr.tabs q hq;have nl:q.2.1≠f.L:=λz=>by
   obtain⟨m,hn,_⟩:=Q.ns;obtain⟨o',es',jx,x,y⟩:=Ns.dict hn;rw[z,x] at h1;cases h1;cases y
  refine⟨a,ps,k _ _ nl h1,h2,λpos cv hc=>?_⟩;obtain⟨c,oc,vs,t,dc,hg,hd,hv⟩:=h3 pos cv hc;exact⟨c,oc,vs,t,dc,ik c oc hg (.inr (.inr (.inl ⟨vs,hd,.inr ⟨_,t,hv⟩⟩))),hd,hv⟩
theorem Step.locals {h':Heap}{t:Nat}(k:Heap.SameBut f.L s.heap h') (hL:∃o,h'.get? f.L=some o):Step g fr [f.L] ρ s ρ {s with heap:=h',toks:=t}:=
 ⟨eC _,λp hp=>by simp at hp,λb o e _ x _ _=>k.extBut b o (λq=>x (by rw[q];exact .head _)) e,λb o e _ x=>⟨o.slots,k.extBut b o (λq=>x (by rw[q];exact .head _)) e⟩,λb o e=>by
  by_cases h:b=f.L
  ·exact (by rw[h];exact hL)
  ·exact⟨o,k.extBut b o h e⟩,⟨_,t,rfl⟩⟩
theorem EY {α:Type}{x y:Str}{v:α}:∀{l:List (Str×α)},lk y (pt x v l)=if y=x then some v else lk y l
 |[]=>by unfold pt lk;rfl
 |(z,w)::r=>by
  unfold pt;by_cases h:x=z
  ·subst h;rw[UQ rfl];simp only[lk];split<;>rfl
  ·rw[T8 h];simp only[lk];by_cases h2:y=z
   ·rw[UQ h2,UQ h2,T8 (λ(q:y=x)=>h (q.symm.trans h2))]
   ·rw[T8 h2,T8 h2];exact EY
theorem Ev {loc':Loc}(fk:Ac g f N) (Q:AF g f ρ H loc s.heap) (r:VR g ρ s.heap v y) (e:Bc f.cx loc x v H=some (loc',H')):
  wpAny g.M A (bindName f.env x y) (λ_ s'=>Step g f.fr [f.L] ρ s ρ s'/\AF g f ρ H' loc' s'.heap) E s:=by
 unfold bindName;refine K3 (ky (wpAny_point (K3 ?_)));unfold Bc at e;cases hk:lk x f.cx.names with
 |none=>rw [hk] at e;cases e
 |some k=>
  rw[hk] at e;obtain⟨kr,nd,nc⟩:=fk.names x k hk;cases k<;>simp only at e
  case «local»=>
   cases e;obtain⟨m,hn,hm⟩:=Q.ns;refine qp (m:=m) kr (by rw[fk.locals];exact hn) (λh' n k=>wpAny_point ?_) (by rw[fk.kind];rfl);rw[fk.locals] at n k;refine⟨Step.locals k (let ⟨o,_,_,e,_⟩:=n;⟨o,e⟩),Q.locals k.extBut n λz w a b=>?_⟩;rw[EY] at b;by_cases hz:z=x
   ·rw[UQ hz] at b;cases b;exact⟨y,UQ hz,r⟩
   ·rw[T8 hz] at b;obtain⟨val,c,d⟩:=hm z w a b;exact⟨val,by rw[T8 hz];exact c,d⟩
  case cell=>
   split at e
   ·rename_i a ha;split at e
    ·rename_i w hw;cases e;obtain⟨p,hp,hc⟩:=Q.cells x a ha;obtain⟨p',dN,e0,c,hcell,hv⟩:=Q.hr.rep.get hw;rw[hp] at dN;cases dN;refine wpAny_storeName_cell fk.kind kr hc hcell λh' n k=>wpAny_point ?_;have ni:=(Q.hr.rep.obj a _ p hw hp).EK;have ik:AI s.heap h':=λb o e im=>k.extBut b o (λq=>by subst q;exact ni.1 o e im) e;have ob:By g ρ h' (.cell (some v)) p:=⟨e0,some y,n,y,rfl,r.heap ik⟩;exact⟨Step.set (t:=s.toks) Q.hr hp (λb o n1 _ e=>k.extBut b o n1 e) ob,Q.set hp ⟨_,hw⟩ (λb o n1 _ e=>k.extBut b o n1 e) ob⟩
    ·cases e
   ·cases e
  all_goals cases e
def E0:V->PyData
 | .int i=>.int i
 | .str s=>.str s
 |_=>.none
theorem Cf {x:Value}(p:BD v=true) (r:VR g ρ h v x):Reads h x (E0 v) []/\(E0 v).canLay0=true/\(E0 v).depth=0:=by
 cases v<;>unfold BD at p<;>try (cases p;done)
 case int i=>obtain ⟨t,rfl⟩:=Ab r;exact⟨.int _ _,rfl,rfl⟩
 case str x=>
  unfold VR at r;obtain⟨t,rfl⟩:=r;simp only[dv] at p;exact⟨.str _ _,by show PyData.canLay0 (.str x)=true;unfold PyData.canLay0;exact p.2,rfl⟩
theorem Bj {h:Heap}:∀{l:List V}{xs:List Value},l.all BD=true->Aa g ρ h l xs->∃as,ReadsAll h xs (l.map E0) as/\PyData.canLayAll0 (l.map E0)=true/\PyData.depthAll (l.map E0)=0
 |[],_,_,r=>by unfold Aa at r;subst r;exact⟨[],.nil,rfl,rfl⟩
 |v::l,_,p,r=>by
  unfold Aa at r;obtain⟨x,t,rfl,h1,h2⟩:=r;rw[rH,dv] at p;obtain⟨a,b,c⟩:=Cf p.1 h1;obtain⟨as,d,e,f⟩:=Bj p.2 h2;refine⟨_,.cons a d,?_,?_⟩
  ·show PyData.canLayAll0 (_::_)=true;unfold PyData.canLayAll0;rw[b,e];rfl
  ·show PyData.depthAll (_::_)=0;unfold PyData.depthAll;rw[c,f];rfl
theorem KN (p:BD a=true) (q:BD b=true):PyData.eqv (E0 a) (E0 b)=eqB a b:=by
 cases a<;>unfold BD at p<;>try (cases p;done)
 all_goals (cases b<;>unfold BD at q<;>try (cases q;done))
 all_goals (unfold E0 eqB PyData.eqv;rfl)
theorem FV:∀{l m:List V},l.all BD=true->m.all BD=true->PyData.eqvAll (l.map E0) (m.map E0)=Il l m
 |[],[],_,_=>by simp [PyData.eqvAll,Il]
 |[],_::_,_,_=>by simp [PyData.eqvAll,Il]
 |_::_,[],_,_=>by simp [PyData.eqvAll,Il]
 |a::l,b::m,p,q=>by
  rw[rH,dv] at p q;simp only[ij,PyData.eqvAll,Il,KN p.1 q.1,FV p.2 q.2]
theorem FL {x:Value}(R:BJ g fr ρ H s.heap) (r:VR g ρ s.heap v x) (e:itemsOf v H=some l):∃a items,x= .ref a/\s.heap.IsList a items/\Aa g ρ s.heap l items.toList/\l.length<=lid:=by
 unfold itemsOf at e;split at e
 ·cases e;unfold VR at r;obtain⟨a,items,h1,h2,h3,h4⟩:=r;refine⟨a,items,h1,?_,h3,lv h4 (by unfold lid;omega)⟩;obtain⟨o,q1,q2⟩:=h2;exact⟨o,R.base _ _ q1,q2⟩
 ·rename_i a;split at e
  ·rename_i l' hl;cases e;obtain⟨p,hp,e0,items,n,h1,h2,h3⟩:=R.rep.get hl;unfold VR at r;obtain⟨p',dN,rfl⟩:=r;rw[hp] at dN;cases dN;exact⟨p.1,items,rfl,⟨_,h1,rfl,n,rfl⟩,h2,h3⟩
  ·cases e
 ·cases e
theorem Nr {x:Value}(R:BJ g fr ρ H s.heap) (r:VR g ρ s.heap v x) (p:l.all BD=true) (e:(v= .tup l)∨itemsOf v H=some l):
  ∃d as,Reads s.heap x d as/\d.canLay0=true/\d.depth<=1/\((v= .tup l->d= .tuple (l.map E0))/\(itemsOf v H=some l->d= .list (l.map E0))):=by
 by_cases hv:v= .tup l
 ·subst hv;have nt:itemsOf (.tup l) H≠some l:=λh=>by unfold itemsOf at h;cases h
  unfold VR at r;obtain⟨a,items,rfl,⟨o,h1,h2,n,h3⟩,h4,h5⟩:=r;obtain⟨as,q1,q2,q3⟩:=Bj p h4;exact⟨_,_,.tuple h1 h2 h3 q1,q2,by unfold PyData.depth;rw[q3];exact ix _,λ_=>rfl,λh=>(nt h).elim⟩
 ·have e:=e.resolve_left hv;obtain⟨a,items,rfl,⟨o,h1,h2,n,h3⟩,h4,h5⟩:=FL R r e;obtain⟨as,q1,q2,q3⟩:=Bj p h4;exact⟨_,_,.list h1 h2 h3 q1,q2,by unfold PyData.depth;rw[q3];exact ix _,λh=>(hv h).elim,λ_=>rfl⟩
theorem TK {b c:Array UInt8}:(bl b==bl c)=(b.toList==c.toList):=by
 unfold bl;have inj:∀x y:List UInt8,(x.map λx=>(x.toNat:Int))=(y.map λx=>(x.toNat:Int))↔x=y:=by
  intro x
  induction x with
  |nil=>intro y;cases y<;>simp
  |cons a r ih=>
   intro y;cases y with
   |nil=>simp
   |cons b t=>
    simp only[ij,List.cons.injEq,ih];constructor
    ·intro ⟨h1,h2⟩;exact⟨UInt8.toNat_inj.mp (by exact_mod_cast h1),h2⟩
    ·intro ⟨h1,h2⟩;exact⟨by rw[h1],h2⟩
 by_cases h:b.toList=c.toList
 ·rw[ke.mpr h,ke.mpr ((inj _ _).mpr h)]
 ·rw[rE.mpr h,rE.mpr λq=>h ((inj _ _).mp q)]
theorem P5 {x:Value}(hu:A.units+64<cLine) (R:BJ g fr ρ H s.heap) (ra:VR g ρ s.heap a x) (rb:VR g ρ s.heap b y) (e:Oj a b H=some c):
  wpAny (model g.prog g.w) A (compareOp .Eq x y) (λz s'=>s'=s/\z= .bool c) E s/\wpAny (model g.prog g.w) A (compareOp .NotEq x y) (λz s'=>s'=s/\z= .bool (!c)) E s:=by
 have room:∀{da db:PyData},da.depth<=1->A.units+min da.depth db.depth<cLine:=λ{da db} h=>by
  have:min da.depth db.depth<=da.depth:=Nat.min_le_left _ _
  omega
 have lists:∀{l m:List V},(a= .tup l/\b= .tup m)∨(itemsOf a H=some l/\itemsOf b H=some m)->Cv l m=some c->
   wpAny (model g.prog g.w) A (compareOp .Eq x y) (λz s'=>s'=s/\z= .bool c) E s/\wpAny (model g.prog g.w) A (compareOp .NotEq x y) (λz s'=>s'=s/\z= .bool (!c)) E s:=by
  intro l m hh e;unfold Cv at e;split at e
  ·rename_i p;rw[dv] at p;cases e;obtain⟨da,as,a1,a2,a3,a4,a5⟩:=Nr R ra p.1 (hh.imp And.left And.left);obtain⟨db,bs,b1,b2,b3,b4,b5⟩:=Nr R rb p.2 (hh.imp And.right And.right);have q:PyData.eqv da db=Il l m:=by
    rcases hh with ⟨h1,h2⟩|⟨h1,h2⟩
    ·rw[a4 h1,b4 h2];unfold PyData.eqv;exact FV p.1 p.2
    ·rw[a5 h1,b5 h2];unfold PyData.eqv;exact FV p.1 p.2
   exact⟨SeqAt.compareEq_reads a1 b1 a2 b2 (room a3) ⟨rfl,by rw[q]⟩,SeqAt.compareNe_reads a1 b1 a2 b2 (room a3) ⟨rfl,by rw[q]⟩⟩
  ·cases e
 have ek:BD a=true->BD b=true->eqB a b=c->wpAny (model g.prog g.w) A (compareOp .Eq x y) (λz s'=>s'=s/\z= .bool c) E s/\wpAny (model g.prog g.w) A (compareOp .NotEq x y) (λz s'=>s'=s/\z= .bool (!c)) E s:=by
  intro pa pb e;obtain⟨a1,a2,a3⟩:=Cf pa ra;obtain⟨b1,b2,b3⟩:=Cf pb rb;have q:=KN pa pb;exact⟨SeqAt.compareEq_reads a1 b1 a2 b2 (room ⋯) ⟨rfl,by rw[q,e]⟩,SeqAt.compareNe_reads a1 b1 a2 b2 (room ⋯) ⟨rfl,by rw[q,e]⟩⟩
 unfold Oj at e;split at e
 ·exact lists (.inl ⟨rfl,rfl⟩) e
 ·cases e;unfold VR at ra rb;obtain⟨ba,ta,rfl,rfl,_⟩:=ra;obtain⟨bb,tb,rfl,rfl,_⟩:=rb;exact⟨PySem.W.eq_bytes ⟨rfl,by rw[TK]⟩,PySem.W.ne_bytes ⟨rfl,by rw[TK];rfl⟩⟩
 ·cases e;exact ek rfl rfl rfl
 ·split at e
  ·rename_i p;rw[dv] at p;cases e;exact ek p.1 p.2 rfl
  ·cases e
 ·split at e
  ·rename_i l m h1 h2;exact lists (.inr ⟨h1,h2⟩) e
  ·cases e
end
variable {k:Int}
section
variable {g:Gd}{f:Fd}{ρ ρ':AR}{β γ δ:Type}{R:AR->Heap->α->β->Prop}{H:Hp}{N:Nat}
theorem KC (e:p.2=p.1/\p.1≠sysModules):(p.1==sysModules)=false:=by simpa using e.2
theorem C2.room (G:C2 g) (B:g.base.StaysIn h):h.objs.size≠sysModules:=λq=>by
 obtain⟨b,o,h1,h2⟩:=G.low;exact absurd (qJ (B b o h2)) (by rw[q];exact uK.mpr (Nat.le_of_lt h1))
theorem HG.at {α:Type} [DecidableEq α] {h:Heap}{k:α}:∀{d:List (α×V)}{l:List (α×Value)},HG g ρ h d l->
  ((d.find? (λkv=>kv.1=k)).map (·.2)=none/\valueAt l k=none)∨∃v x,(d.find? (λkv=>kv.1=k)).map (·.2)=some v/\valueAt l k=some x/\VR g ρ h v x
 |[],_,e=>by cases e;exact .inl ⟨rfl,rfl⟩
 |(j,v)::r,_,⟨x,t,e1,e2,e3⟩=>by
  subst e1;unfold valueAt;rw[rL,rL];by_cases hj:j=k
  ·simp only[hj,dT];exact .inr ⟨v,x,rfl,rfl,e2⟩
  ·simp only[hj,dq];exact e3.at
theorem Ly {α:Type}{k:Int}:∀{d:List (Int×α)},Bm k d=(d.find? (λkv=>kv.1=k)).map (·.2)
 |[]=>rfl
 |(j,v)::r=>by
  unfold Bm;rw[rL];by_cases h:j=k
  ·simp [h]
  ·simp only[h,qM,dq];exact Ly
theorem NB {α:Type}{k:Str}:∀{d:List (Str×α)},lk k d=(d.find? (λkv=>kv.1=k)).map (·.2)
 |[]=>rfl
 |(j,v)::r=>by
  unfold lk;rw[rL];by_cases h:k=j
  ·simp [h]
  ·have h':¬j=k:=λq=>h q.symm;simp only[h,h',qM,dq];exact NB
theorem HG.Bm {h:Heap}{k:Int}{d:List (Int×V)}{l:List (Int×Value)}(r:HG g ρ h d l):(Fsx.Bm k d=none/\valueAt l k=none)∨∃v x,Fsx.Bm k d=some v/\valueAt l k=some x/\VR g ρ h v x:=by
 rw[Ly];exact r.at
theorem HG.lk {h:Heap}{k:Str}{d:List (Str×V)}{l:List (Str×Value)}(r:HG g ρ h d l):(Fsx.lk k d=none/\valueAt l k=none)∨∃v x,Fsx.lk k d=some v/\valueAt l k=some x/\VR g ρ h v x:=by
 rw[NB];exact r.at
theorem Gn:(intKind g.prog g.w).is k (.int k t)=true:=by
 show isInt k (.int k t)=true;simp [isInt]
theorem M6 {k:Str}:(PySem.strKind g.prog g.w).is k (.str k t)=true:=by
 show (Value.str k t).isStr k=true;rw[Gp];simp
theorem J3 (p:l.all BD=true) (q:BD v=true):((l.map E0).any λy=>PyData.eqv y (E0 v))=l.any λy=>eqB y v:=by
 induction l with
 |nil=>rfl
 |cons a r ih=>
  rw[rH,dv] at p;rw[ij,qa,qa,KN p.1 q,ih p.2]
theorem PU {x:Value}(G:C2 g) (hu:A.units+65<cLine) (R:BJ g fr ρ H s.heap) (ra:VR g ρ s.heap a x) (rb:VR g ρ s.heap b y) (e:Ao.inV a b H=some c):
  wpAny (model g.prog g.w) A (compareOp .In x y) (λz s'=>(∃k,s'={s with toks:=k})/\z= .bool c) E s/\wpAny (model g.prog g.w) A (compareOp .NotIn x y) (λz s'=>(∃k,s'={s with toks:=k})/\z= .bool (!c)) E s:=by
 have room:∀{xs:List PyData}{d:PyData},d.depth=0->A.units+1+min (PyData.depthAll xs) d.depth<cLine:=λ{xs d} h=>by
  have:min (PyData.depthAll xs) d.depth<=d.depth:=Nat.min_le_right _ _
  omega
 unfold Ao.inV at e;split at e
 ·rename_i l;unfold EZ at e;split at e
  ·rename_i p;rw[dv] at p;cases e;obtain⟨a1,a2,a3⟩:=Cf p.1 ra;unfold VR at rb;obtain⟨t,items,rfl,⟨o,h1,h2,n,h3⟩,h4,h5⟩:=rb;obtain⟨as,q1,q2,q3⟩:=Bj p.2 h4;exact⟨SeqAt.in_tuple_reads (.tuple h1 h2 h3 q1) a1 q2 a2 (room a3) ⟨Cb s,by rw[J3 p.2 p.1]⟩,SeqAt.notIn_tuple_reads (.tuple h1 h2 h3 q1) a1 q2 a2 (room a3) ⟨Cb s,by rw[J3 p.2 p.1]⟩⟩
  ·cases e
 ·rename_i i;unfold VR at rb;obtain⟨p,hp,rfl⟩:=rb;split at e
  ·rename_i l hl;unfold EZ at e;split at e
   ·rename_i pp;rw[dv] at pp;cases e;obtain⟨a1,a2,a3⟩:=Cf pp.1 ra;obtain⟨p',dN,e0,items,n,h1,h4,h5⟩:=R.rep.get hl;rw[hp] at dN;cases dN;obtain⟨as,q1,q2,q3⟩:=Bj pp.2 h4;have rc:Reads s.heap (.ref p.1) (.list (l.map E0)) (p.1::as):=.list h1 rfl rfl q1;exact⟨SeqAt.in_list_reads rc a1 q2 a2 (room a3) ⟨Cb s,by rw[J3 pp.2 pp.1]⟩,SeqAt.notIn_list_reads rc a1 q2 a2 (room a3) ⟨Cb s,by rw[J3 pp.2 pp.1]⟩⟩
   ·cases e
  ·rename_i d hd;split at e
   ·rename_i k;cases e;obtain⟨t,rfl⟩:=Ab ra;obtain⟨p',dN,e0,kvs,h1,h2,h3⟩:=R.rep.get hd;rw[hp] at dN;cases dN;have hs:=KC e0;have q:(valueAt kvs k).isSome=(Bm k d).isSome:=by
     rcases h2.Bm (k:=k) with ⟨a,b⟩|⟨v,x,a,b,_⟩<;>rw [a,b]<;>rfl
    exact⟨wpAny_in_of Gn hs h1.mapOf ⟨⟨_,rfl⟩,by rw[q]⟩,wpAny_notIn_of Gn hs h1.mapOf ⟨⟨_,rfl⟩,by rw[q]⟩⟩
   ·cases e
  ·cases e
 ·cases e
theorem By.some {h:Heap}{o:O}{p:Addr×Addr}(x:By g ρ h o p):∃ob,h.get? p.1=some ob:=by
 cases o with
 |list l=>obtain ⟨e0,_,_,e1,_⟩:=x;exact⟨_,e1⟩
 |U' l=>obtain ⟨e0,_,⟨_,_,_,e1,_⟩,_⟩:=x;exact⟨_,e1⟩
 |dO l=>obtain ⟨e0,_,⟨_,_,_,e1,_⟩,_⟩:=x;exact⟨_,e1⟩
 |ba l=>obtain ⟨e0,_,e1,_⟩:=x;exact⟨_,e1⟩
 |cell l=>obtain ⟨e0,_,⟨_,e1,_⟩,_⟩:=x;exact⟨_,e1⟩
 |inst c fs=>obtain ⟨_,_,_,_,e1,e2,_⟩:=x;exact⟨_,e1⟩
theorem Xj (R:BJ g fr ρ H s.heap){q:Addr×Addr}(hp:ρ[i]? =some p) (hq:ρ[j]? =some q):(p.1==q.1)=(i==j):=by
 by_cases h:i=j
 ·subst h;rw[hp] at hq;cases hq
  simp
 ·have:=(Ic R.rep.apart hp hq h).1
  rw[rE.mpr h,rE.mpr this]
theorem Pt {x:Value}(R:BJ g fr ρ H s.heap) (ra:VR g ρ s.heap a x) (rb:VR g ρ s.heap b y) (e:Ao .Is a b H=some c):
  wpAny (model g.prog g.w) A (compareOp .Is x y) (λz s'=>s'=s/\z= .bool c) E s/\wpAny (model g.prog g.w) A (compareOp .IsNot x y) (λz s'=>s'=s/\z= .bool (!c)) E s:=by
 unfold Ao at e;simp only at e;split at e
 ·cases e;unfold VR at ra rb;subst ra rb;exact⟨is_none_gen ⟨rfl,rfl⟩,isnot_none_gen ⟨rfl,rfl⟩⟩
 ·rename_i i j;unfold VR at ra rb;obtain⟨p,hp,rfl⟩:=ra;obtain⟨q,hq,rfl⟩:=rb;unfold Hx at e;split at e
  ·rename_i hij;subst hij;cases e;rw[hp] at hq;cases hq;exact⟨wpAny_is_ref_self ⟨rfl,rfl⟩,wpAny_isNot_ref_self ⟨rfl,rfl⟩⟩
  ·rename_i hij;split at e
   ·rename_i c' fs hH;cases e;obtain⟨p',dN,_,sl,es,n,h1,h2,_⟩:=R.rep.get hH;rw[hp] at dN;cases dN;have hl:j<H.length:=by rw[←R.rep.len];exact (dt.mp hq).1
    have hne:=(Ic R.rep.apart hp hq hij).1;obtain⟨oy,jy⟩:=(R.rep.obj j _ q (d6 hl) hq).some;exact⟨wpAny_is_ref_other hne h1 jy (by intro z;cases z) ⟨rfl,rfl⟩,wpAny_isNot_ref_other hne h1 jy (by intro z;cases z) ⟨rfl,rfl⟩⟩
   ·cases e
 ·cases e;unfold VR at ra rb;subst ra;obtain⟨q,hq,rfl⟩:=rb;exact⟨wpAny_is_other rfl (by intro z;cases z) ⟨rfl,rfl⟩,wpAny_isNot_other rfl (by intro z;cases z) ⟨rfl,rfl⟩⟩
 ·cases e;unfold VR at ra rb;subst rb;obtain⟨q,hq,rfl⟩:=ra;exact⟨is_ref_none ⟨rfl,rfl⟩,isnot_ref_none ⟨rfl,rfl⟩⟩
 ·cases e;unfold VR at rb;subst rb;obtain⟨t,rfl⟩:=Ab ra;exact⟨is_int_none ⟨rfl,rfl⟩,isnot_int_none ⟨rfl,rfl⟩⟩
 ·cases e;unfold VR at ra rb;subst rb;obtain⟨t,rfl⟩:=ra;exact⟨is_str_none ⟨rfl,rfl⟩,isnot_str_none ⟨rfl,rfl⟩⟩
 ·cases e
theorem SH {op:CmpOp}(h:op= .Lt∨op= .LtE∨op= .Gt∨op= .GtE) (e:Ao op a b H=some c):∃i j,a= .int i/\b= .int j/\UF op i j=some c:=by
 rcases h with rfl|rfl|rfl|rfl<;>unfold Ao at e<;>simp only at e<;>split at e<;>first|(exact⟨_,_,rfl,rfl,e⟩)|cases e
theorem KG {op:CmpOp}{x:Value}(G:C2 g) (hu:A.units+65<cLine) (R:BJ g fr ρ H s.heap) (ra:VR g ρ s.heap a x) (rb:VR g ρ s.heap b y) (e:Ao op a b H=some c):
  wpAny (model g.prog g.w) A (compareOp op x y) (λz s'=>(∃k,s'={s with toks:=k})/\z= .bool c) E s:=by
 have same:∀{t:Sem Value}{d:Bool},wpAny (model g.prog g.w) A t (λz s'=>s'=s/\z= .bool d) E s->wpAny (model g.prog g.w) A t (λz s'=>(∃k,s'={s with toks:=k})/\z= .bool d) E s:=
  λh=>jV h (λz s' ⟨e,q⟩=>⟨e▸Cb s,q⟩) λ_ _ q=>q
 have di:(op= .Lt∨op= .LtE∨op= .Gt∨op= .GtE)->wpAny (model g.prog g.w) A (compareOp op x y) (λz s'=>(∃k,s'={s with toks:=k})/\z= .bool c) E s:=λh=>by
  obtain⟨i,j,rfl,rfl,e'⟩:=SH h e;obtain⟨t,rfl⟩:=Ab ra;obtain⟨u,rfl⟩:=Ab rb;exact same (QQ (g:=g) e')
 cases op
 case Eq=>exact same (P5 ⋯ R ra rb (by unfold Ao at e;exact e)).1
 case NotEq=>
  unfold Ao at e;obtain⟨d,h1,rfl⟩:=dy.mp e;exact same (P5 ⋯ R ra rb h1).2
 case Lt=>exact di (.inl rfl)
 case LtE=>exact di (.inr (.inl rfl))
 case Gt=>exact di (.inr (.inr (.inl rfl)))
 case GtE=>exact di (.inr (.inr (.inr rfl)))
 case Is=>exact same (Pt R ra rb e).1
 case IsNot=>
  have e':Ao .Is a b H=some (!c):=by
   unfold Ao at e ⊢;simp only at e ⊢;split at e<;>first
    |(cases e;rfl)
    |(obtain⟨d,h1,h2⟩:=dy.mp e
      rw[h1,←h2,Bool.not_not])
    |cases e
  have:=(Pt (A:=A) (E:=E) (s:=s) R ra rb e').2
  rw[Bool.not_not] at this;exact same this
 case In=>exact (PU G hu R ra rb (by unfold Ao at e;exact e)).1
 case NotIn=>
  unfold Ao at e;obtain⟨d,h1,rfl⟩:=dy.mp e;exact (PU G hu R ra rb h1).2
end
variable {op:Operator}
section
variable {g:Gd}{f:Fd}{ρ ρ':AR}{β γ δ:Type}{R:AR->Heap->α->β->Prop}{H:Hp}{N:Nat}
theorem AT {a:α}{b:β}{k:Nat}(Q:AF g f ρ H loc s.heap) (r:R ρ s.heap a b):A0 g f R ρ s (.ok a loc H) b {s with toks:=k}:=⟨a,loc,H,ρ,rfl,Step.tok k,Q,r⟩
theorem De {a:α}{b:β}{k:Nat}{ob:Obj}(Q:AF g f ρ H loc s.heap) (r:R ρ (s.heap.push ob) a b):A0 g f R ρ s (.ok a loc H) b {s with heap:=s.heap.push ob,toks:=k}:=⟨a,loc,H,ρ,rfl,Step.push ob,Q.push ob,r⟩
theorem As (h:Heap):h.get? h.objs.size=none:=by
 cases e:h.get? h.objs.size with
 |none=>rfl
 |some o=>exact absurd (qJ e) (Nat.lt_irrefl _)
theorem Dq {o:O}{ob:Obj}{k:Nat}(Q:AF g f ρ H loc s.heap) (x:By g (ρ++[(s.heap.objs.size,s.heap.objs.size)]) (s.heap.push ob) o (s.heap.objs.size,s.heap.objs.size)):
  A0 g f (BE g) ρ s (.ok (.ref H.length) loc (H++[o])) (.ref s.heap.objs.size) {s with heap:=s.heap.push ob,toks:=k}:=
 ⟨_,loc,_,_,rfl,Step.alloc (Ak ob) (As _) (As _),Q.alloc (Ak ob) (As _) (As _) x,by
  unfold BE VR;exact⟨(s.heap.objs.size,s.heap.objs.size),by rw[←Q.hr.rep.len,mA (ix _)];simp,rfl⟩⟩
theorem At {h:Heap}:∀{l:List V}{xs:List Value},Aa g ρ h l xs->xs.length=l.length
 |[],_,r=>by unfold Aa at r;subst r;rfl
 |_::_,_,r=>by unfold Aa at r;obtain⟨x,t,rfl,_,h2⟩:=r;simp [At h2]
theorem DQ {h:Heap}:∀{l m:List V}{xs ys:List Value},Aa g ρ h l xs->Aa g ρ h m ys->Aa g ρ h (l++m) (xs++ys)
 |[],_,_,_,r,q=>by unfold Aa at r;subst r;exact q
 |_::_,_,_,_,r,q=>by
  unfold Aa at r;obtain⟨x,t,rfl,h1,h2⟩:=r;rw[oP,oP];unfold Aa;exact⟨x,_,rfl,h1,DQ h2 q⟩
theorem NW {h:Heap}{l:List V}{xs:List Value}(r:Aa g ρ h l xs):∀n,Aa g ρ h (rep l n) (rep xs n)
 |0=>by unfold rep Aa;rfl
 |n+1=>by unfold rep;exact DQ r (NW r n)
theorem D2 {h:Heap}:∀{l:List V}{xs:List Value}{i:Nat}{v:V},Aa g ρ h l xs->l[i]? =some v->∃x,xs[i]? =some x/\VR g ρ h v x
 |[],_,_,_,_,e=>by simp at e
 |a::l,_,i,v,r,e=>by
  unfold Aa at r;obtain⟨x,t,rfl,h1,h2⟩:=r;cases i with
  |zero=>simp at e;subst e;exact⟨x,by simp,h1⟩
  |succ i=>simp at e;obtain⟨y,a,b⟩:=D2 h2 e;exact⟨y,by simpa using a,b⟩
theorem LL {h:Heap}:∀{l:List V}{xs:List Value}(n:Nat),Aa g ρ h l xs->Aa g ρ h (l.take n) (xs.take n)
 |_,_,0,_=>by simp;unfold Aa;rfl
 |[],_,_+1,r=>by unfold Aa at r;subst r;simp;unfold Aa;rfl
 |_::_,_,n+1,r=>by
  unfold Aa at r;obtain⟨x,t,rfl,h1,h2⟩:=r;rw[qL,qL];unfold Aa;exact⟨x,_,rfl,h1,LL n h2⟩
theorem Hv {h:Heap}:∀{l:List V}{xs:List Value}(n:Nat),Aa g ρ h l xs->Aa g ρ h (l.drop n) (xs.drop n)
 |_,_,0,r=>r
 |[],_,_+1,r=>by unfold Aa at r;subst r;simp;unfold Aa;rfl
 |_::_,_,n+1,r=>by
  unfold Aa at r;obtain⟨x,t,rfl,h1,h2⟩:=r;rw[sJ,sJ];exact Hv n h2
theorem ND {h:Heap}{v:V}{y:Value}(rv:VR g ρ h v y):∀{l:List V}{xs:List Value}(i:Nat),Aa g ρ h l xs->Aa g ρ h (l.set i v) (xs.set i y)
 |[],_,_,r=>by unfold Aa at r;subst r;simp;unfold Aa;rfl
 |_::_,_,i,r=>by
  unfold Aa at r;obtain⟨x,t,rfl,h1,h2⟩:=r;cases i with
  |zero=>rw [sN,sN];unfold Aa;exact⟨y,_,rfl,rv,h2⟩
  |succ i=>rw [rM,rM];unfold Aa;exact⟨x,_,rfl,h1,ND rv i h2⟩
theorem Gl {h:Heap}:∀{l:List V}{xs:List Value}(i:Nat),Aa g ρ h l xs->Aa g ρ h (l.eraseIdx i) (xs.eraseIdx i)
 |[],_,_,r=>by unfold Aa at r;subst r;simp;unfold Aa;rfl
 |_::_,_,i,r=>by
  unfold Aa at r;obtain⟨x,t,rfl,h1,h2⟩:=r;cases i with
  |zero=>rw [tN,tN];exact h2
  |succ i=>rw [tO,tO];unfold Aa;exact⟨x,_,rfl,h1,Gl i h2⟩
theorem Em:Aa g ρ h [] []:=by unfold Aa;rfl
theorem GQ {x:Value}(r:VR g ρ h v x):Aa g ρ h [v] [x]:=by unfold Aa;exact⟨x,[],rfl,r,Em⟩
theorem Cm {b:Array UInt8}:(bl b).length=b.size:=by simp [bl]
theorem QV {b c:Array UInt8}:bl (b++c)=bl b++bl c:=by simp [bl]
theorem Jk {α:Type}:∀(n:Nat) (a:Array α) (b:Array α),(List.foldl (λx1 x2=>x1++x2) b (List.replicate n a)).toList=b.toList++rep a.toList n
 |0,_,_=>by simp [rep]
 |n+1,a,b=>by
  rw[List.replicate_succ,tj,Jk n a (b++a)];simp [rep]
theorem Nz {α:Type}:∀n,rep ([]:List α) n=[]
 |0=>rfl
 |n+1=>by simp [rep,Nz n]
theorem NV {α:Type}{l:List α}:∀n,(rep l n).length=n*l.length
 |0=>by simp [rep]
 |n+1=>by simp [rep,NV n,Nat.succ_mul,tW]
theorem res_some {h h':Hp}{o:Option α}{a:α}(e:Res.some h o= .ok a h'):o=some a/\h'=h:=by
 cases o<;>simp [Res.some] at e;exact⟨by rw[e.1],e.2.symm⟩
theorem Pb {y:Str}{u:Tok}(Q:AF g f ρ H loc s.heap) (hl:(x++y).length<=lid):
  wpAny g.M f.A (binaryOp .Add (.str x t) (.str y u)) (A0 g f (BE g) ρ s (.ok (V.str (x++y)) loc H)) (BP g f ρ s (.ok (V.str (x++y)) loc H)) s:=by
 have h1:(x++y).length=x.length+y.length:=by
  show (x.cps++y.cps).size=_;rw[qY];rfl
 exact PyProof.Rows.add_str (λt' tk=>AT Q (by unfold BE VR;exact⟨_,rfl⟩)) (by rw[il];unfold lid at hl;omega)
theorem OW {q:Addr×Addr}{m:List V}(Q:AF g f ρ H loc s.heap) (hp:ρ[i]? =some p) (hq:ρ[j]? =some q) (hl:H[i]? =some (.list l)) (hm:H[j]? =some (.list m)) (hz:l.length+m.length<=lid):
  wpAny g.M f.A (binaryOp .Add (.ref p.1) (.ref q.1)) (A0 g f (BE g) ρ s (.ok (V.ref H.length) loc (H++[O.list (l++m)]))) (BP g f ρ s (.ok (V.ref H.length) loc (H++[O.list (l++m)]))) s:=by
 obtain⟨p',dN,e0,it,n,h1,h2,h3⟩:=Q.hr.rep.get hl;rw[hp] at dN;cases dN;obtain⟨q',hq',pM,it',n',ic,h2',h3'⟩:=Q.hr.rep.get hm;rw[hq] at hq';cases hq';have z1:it.size=l.length:=by rw[←hV];exact At h2
 have z2:it'.size=m.length:=by rw[←hV];exact At h2'
 refine PySem.P.add_list h1 ic ?_ (by rw[il];unfold lid at hz;omega);refine Dq (k:=s.toks) Q ⟨rfl,it++it',0,eQ _ rfl,?_,?_⟩
 ·rw[rF];exact (DQ h2 h2').mono (AI.of_keeps (Ak _)) (hW _ _)
 ·rw[eR];exact hz
theorem QJ {u:Tok}(Q:AF g f ρ H loc s.heap) (hp:ρ[i]? =some p) (hl:H[i]? =some (.list l)) (hz:0<=k/\k<=3/\l.length<=1000):
  wpAny g.M f.A (binaryOp .Mult (.ref p.1) (.int k u)) (A0 g f (BE g) ρ s (.ok (V.ref H.length) loc (H++[O.list (rep l k.toNat)]))) (BP g f ρ s (.ok (V.ref H.length) loc (H++[O.list (rep l k.toNat)]))) s:=by
 obtain⟨p',dN,e0,it,n,h1,h2,h3⟩:=Q.hr.rep.get hl;rw[hp] at dN;cases dN;have z1:it.size=l.length:=by rw[←hV];exact At h2
 have hb:it.size*k.toNat<=3000:=by
  rw[z1]
  have:k.toNat<=3:=by omega
  calc l.length*k.toNat<=1000*3:=Nat.mul_le_mul hz.2.2 this
   _=3000:=rfl
 refine wpAny_binaryOp_repeat_ref (T:="list") (U:="int") ⋯ ⟨_,h1,rfl⟩ (λs'=>sP s' k u) noFill_list_mul PySem.F.fills_int_mul tz repeat_list PySem.F.slot_int_index.lookup
  (call_meets tz (sP s k u) PySem.F.entry_int_rmul (PySem.F.args_int_rmul_2 _ _) (int___rmul___int_list k u p.1 it n)
   ⟨h1,rfl,⟨_,h1,rfl⟩,call_meets PySem.F.slot_list_mul ⟨_,h1,rfl⟩ PySem.F.entry_list_mul (PySem.F.args_list_mul_2 _ _)
    (AutoListH.list___mul___list_int_3 p.1 it n k u (by simp [Builtin.List.listFitsIndex];omega) ⋯ (by simp [Builtin.List.listTooLong,sizeLine];omega))
    ⟨h1,?_⟩⟩)
 have ee:(List.foldl (λx1 x2=>x1++x2) #[] (List.replicate (if it.isEmpty=true then 0 else k.toNat) it)).toList=rep it.toList k.toNat:=by
  rw[Jk];split
  ·rename_i h0
   have:it= #[]:=Array.isEmpty_iff.mp h0
   rw[this];simp [rep,Nz]
  ·simp
 refine Dq (k:=s.toks) Q ⟨rfl,_,0,eQ _ rfl,?_,?_⟩
 ·rw[ee];exact (NW h2 _).mono (AI.of_keeps (Ak _)) (hW _ _)
 ·rw[NV,Nat.mul_comm,←z1];unfold lid;omega
theorem Re {x:Value}(Q:AF g f ρ H loc s.heap) (ra:VR g ρ s.heap a x) (rb:VR g ρ s.heap b y) (e:CJ op a b H= .ok v H'):
  wpAny g.M f.A (binaryOp op x y) (A0 g f (BE g) ρ s (.ok v loc H')) (BP g f ρ s (.ok v loc H')) s:=by
 unfold CJ at e;split at e
 ·obtain⟨e2,e3⟩:=res_some e;subst e3;obtain⟨t,rfl⟩:=Ab ra;obtain⟨u,rfl⟩:=Ab rb;refine jV (Oo (g:=g) (ρ:=ρ) (E:=λ_ _=>False) e2) (λz s' ⟨⟨k,e1⟩,r⟩=>?_) λ_ _ q=>q.elim;subst e1;exact AT Q r
 ·unfold VR at ra rb;subst ra rb;split at e
  ·rename_i h1 h2;cases h1;cases h2;cases e;exact add_bool (AT Q Ah)
  ·cases e
 ·obtain⟨t,rfl⟩:=Ab ra;unfold VR at rb;subst rb;split at e
  ·rename_i h1;cases h1;cases e;exact add_int_bool (AT Q Ah)
  ·cases e
 ·unfold VR at ra rb;obtain⟨t,rfl⟩:=ra;obtain⟨u,rfl⟩:=rb;split at e
  ·split at e
   ·rename_i hl;cases e;exact Pb Q hl
   ·cases e
  ·cases e
 ·unfold VR at ra rb;obtain⟨ba,t,rfl,rfl,za⟩:=ra;obtain⟨bb,u,rfl,rfl,zb⟩:=rb;split at e
  ·split at e
   ·rename_i hl;cases e;rw[Cm,Cm] at hl;refine PySem.W.KBy.add_bytes (by unfold lid at hl;omega) λt' k=>AT Q ?_;unfold BE VR;exact⟨_,_,rfl,QV,by rw[qY];exact hl⟩
   ·cases e
  ·cases e
 ·unfold VR at ra rb;obtain⟨p,hp,rfl⟩:=ra;obtain⟨q,hq,rfl⟩:=rb;split at e
  ·rename_i l m hl hm;split at e
   ·rename_i hz;cases e;exact OW Q hp hq hl hm hz
   ·cases e
  ·cases e
 ·unfold VR at ra;obtain⟨p,hp,rfl⟩:=ra;obtain⟨u,rfl⟩:=Ab rb;split at e
  ·rename_i l hl;split at e
   ·rename_i hz;cases e;exact QJ Q hp hl hz
   ·cases e
  ·cases e
 ·cases e
theorem QW {c:Nat}(e:CJ op a b H= .exc c H'):False:=by
 unfold CJ at e
 repeat' (split at e)
 all_goals first|(cases e;done)|skip
 all_goals (revert e;unfold Res.some;split<;>intro e<;>cases e)
theorem Po {x:Value}(Q:AF g f ρ H loc s.heap) (ra:VR g ρ s.heap a x) (rb:VR g ρ s.heap b y):AE g f (BE g) ρ s ((CJ op a b H).out loc) (binaryOp op x y):=by
 intro ns;cases e:CJ op a b H with
 |ok v H'=>exact AL (Re Q ra rb e)
 |exc c H'=>exact (QW e).elim
 |stuck=>rw [e] at ns;exact absurd rfl ns
theorem JS {c:Const}{k:Nat}{pos:Pos}(Q:AF g f ρ H loc s.heap):AE g f (BE g) ρ s ((Res.some H (Mm c)).out loc) (eval (.Constant c k pos) f.env):=by
 intro ns;cases c<;>simp only[Mm] at ns ⊢<;>try exact absurd rfl ns
 case none=>exact AL (wpAny_Constant_none (AT Q Bw))
 case bool b=>exact AL (wpAny_Constant_bool (AT Q D9))
 case int i=>exact AL (wpAny_Constant_int (AT Q Ah))
 case str x=>exact AL (wpAny_Constant_str (AT Q (by unfold BE VR;exact⟨_,rfl⟩)))
 case bytes b=>
  split at ns
  ·rename_i hl;rw[UQ hl];refine AL (PySem.W.Constant_bytes (AT Q ?_));unfold BE VR;exact⟨_,_,rfl,by simp [bl],by simp;unfold lid;omega⟩
  ·exact absurd rfl ns
theorem GU {x:Value}{b:Bool}(r:VR g ρ s.heap v x) (e:BA v=some b):wpAny g.M A (truthy x) (λc s'=>s'=s/\c=b) E s:=by
 unfold BA at e;split at e
 ·cases e;unfold VR at r;subst r;exact qv ⟨rfl,rfl⟩
 ·cases e;unfold VR at r;subst r;exact df ⟨rfl,rfl⟩
 ·cases e
end
end Fsx
namespace Fsx
open PySem PySem.W PySem.Calls PyProof.Rows
local macro_rules |`(⋯)=>`(by first|decide+kernel|omega)
namespace FA
theorem mro:mroOf (.type "bytearray")=pure [.type "bytearray",.type "object"]:=by rw[mroOf_type];kernel_rfl
theorem MU:typeLookup (.type "bytearray") "__new__"=pure (some (.builtin "bytearray.__new__")):=by rw[kf,f8];kernel_rfl
theorem C3:Slot "bytearray" "__init__" "bytearray.__init__":=
 .of (owner:="bytearray") (n:="__init__") (by rw[kf,f8];kernel_rfl) ⋯ ⋯ ⋯
  (by first|exact .inl ⋯|exact .inr ⋯) (by rw[pf];kernel_rfl)
theorem called:TypeCalled "bytearray" "bytearray.__new__" "bytearray.__init__":=
 ⟨by decide+kernel,by decide+kernel,⟨_,_,mro⟩,madeBy_type mro MU ⋯,by decide+kernel,by rw[pf];kernel_rfl,C3⟩
theorem N2:checkTypeCall "bytearray" ⟨[],[]⟩=pure ():=by kernel_rfl
theorem JA (a:Value):checkTypeCall "bytearray" ⟨[a],[]⟩=pure ():=by kernel_rfl
theorem RP:checkBuiltinCall "bytearray.__new__" ⟨[.type "bytearray"],[]⟩=pure ():=by kernel_rfl
theorem K2 (a:Value):checkBuiltinCall "bytearray.__new__" ⟨[.type "bytearray",a],[]⟩=pure ():=by kernel_rfl
theorem Jn:plainId "bytearray.__new__"=true:=by decide+kernel
theorem FH:plainId "bytearray.__init__"=true:=by decide+kernel
theorem OY:entryFor table "bytearray.__new__"=some Builtin.«list.__new__»:=entryFor_alias (id':="list.__new__") (by kernel_rfl) (by first|rfl|decide+kernel) ⋯ (by kernel_rfl)
theorem Fp:entryFor table "bytearray.__init__"=some Builtin.«bytearray.__init__»:=q9 (by kernel_rfl)
theorem Mx (a:Value):argsOk "bytearray.__init__" ⟨[a],[]⟩:=by unfold argsOk;kernel_rfl
theorem Hq (a b:Value):argsOk "bytearray.__init__" ⟨[a,b],[]⟩:=by unfold argsOk;kernel_rfl
theorem MS:typeLookup (.type "bytearray") "__release_buffer__"=pure (some (.builtin "bytearray.__release_buffer__")):=by rw[kf,f8];kernel_rfl
theorem Ju:("bytearray.__release_buffer__".endsWith ("."++"__release_buffer__"))=true:=by decide+kernel
theorem KJ:("bytearray.__release_buffer__".dropRight ("__release_buffer__".length+1))="bytearray":=by decide+kernel
theorem Xc:Builtin.Bytes.bindOptional "bytearray.__init__" "bytearray" ["source","encoding","errors"] [] []=pure [none,none,none]:=by kernel_rfl
theorem bind1 (v:Value):Builtin.Bytes.bindOptional "bytearray.__init__" "bytearray" ["source","encoding","errors"] [v] []=pure [some v,none,none]:=by kernel_rfl
theorem Eg:typeLookup (.type "bytes") "__index__"=pure none:=by rw[kf,f8];kernel_rfl
theorem CG:typeLookup (.type "bytes") "__buffer__"=pure (some (.builtin "bytes.__buffer__")):=by rw[kf,f8];kernel_rfl
theorem Dp:typeLookup (.type "bytearray") "__buffer__"=pure (some (.builtin "bytearray.__buffer__")):=by rw[kf,f8];kernel_rfl
theorem Ip:typeLookup (.type "bytes") "__release_buffer__"=pure none:=by rw[kf,f8];kernel_rfl
theorem LQ:typeLookup (.type "bytearray") "__index__"=pure none:=by rw[kf,f8];kernel_rfl
theorem Ku:typeLookup (.type "bytearray") "__bytes__"=pure none:=by rw[kf,f8];kernel_rfl
theorem K4:("bytes.__buffer__".endsWith ("."++"__buffer__"))=true:=by decide+kernel
theorem Kv:("bytes.__buffer__".dropRight ("__buffer__".length+1))="bytes":=by decide+kernel
theorem JH:("bytearray.__buffer__".endsWith ("."++"__buffer__"))=true:=by decide+kernel
theorem JM:("bytearray.__buffer__".dropRight ("__buffer__".length+1))="bytearray":=by decide+kernel
theorem sub_self:isSubtype (.type "bytearray") (.type "bytearray")=pure true:=by rw[pf];kernel_rfl
set_option maxRecDepth 1000000 in
set_option maxHeartbeats 4000000 in
theorem OA:("bytearray.__new__".splitOn ".__new__").headD ""="bytearray":=by simp+decide [String.splitOn,String.splitOnAux]
end FA
variable {Q:Value->Shared->Prop}{a:Addr}{b c:Array UInt8}{f:Array UInt8->Array UInt8}{t:Tok}
section
variable {prog:Program}{w:World}{A:Around}{E:Value->Shared->Prop}{s:Shared}
theorem Lm (rest:List Value){Q₁:Value->Shared->Prop}(hc:checkBuiltinCall "bytearray.__new__" ⟨.type "bytearray"::rest,[]⟩=pure ()) (h:Q₁ (.ref s.heap.objs.size) {s with heap:=s.heap.push {cls:=.type "bytearray",data:=.bytearray #[]}}):
  codeAny (model prog w) A (.call (.builtin "bytearray.__new__") ⟨.type "bytearray"::rest,[]⟩) (wants Q₁ E) s:=by
 refine sD ?_;show wpAny _ A.in1 (do checkBuiltinCall "bytearray.__new__" ⟨.type "bytearray"::rest,[]⟩;again (.builtin "bytearray.__new__" ⟨.type "bytearray"::rest,[]⟩)) _ _ s;refine K3 (kS hc (df ⟨rI FA.Jn _,codeAny_builtin_stack FA.OY rfl λp st=>?_⟩));rw[pE FA.Jn _];have hsub:=FA.sub_self;have hown:=FA.OA;obtain⟨hp,g,d,tk,os⟩:=s;simp only[hown]
 wp_walk
 exact h
theorem EL {rest:List Value}(hc:checkBuiltinCall "bytearray.__new__" ⟨.type "bytearray"::rest,[]⟩=pure ()) (ht:checkTypeCall "bytearray" ⟨rest,[]⟩=pure ()) (h:codeN (model prog w) A.in1 (.call (.builtin "bytearray.__init__") ⟨.ref s.heap.objs.size::rest,[]⟩) (wants (λr s₂=>r= .none/\Q (.ref s.heap.objs.size) s₂) E) {s with heap:=s.heap.push {cls:=.type "bytearray",data:=.bytearray #[]}}):
  Ai (model prog w) A (PySem.call (.type "bytearray") rest) Q E s:=by
 refine Bl (AS ?_);show Ai _ _ (callAny (.type "bytearray") _) _ _ _;refine AB ⟨qj _ ⋯,DU ⋯ _,DY F.entry_type_call ?_⟩;rw[Around.under_plain (weight_type_call_type "bytearray" rest []) rfl];unfold Builtin.«type.__call__»;dsimp only;rw[T8 ⋯];rw[T8 (by rw[FA.called.canCreate];decide)];refine AA (Az ht ?_);refine AA (Az FA.mro ?_);rw[T8 ⋯];refine AA (Az FA.called.made ?_);dsimp only;refine AA (AB ?_);refine AA (AM (Bl (LE (sL (Lm (E:=λ_ _=>False) (Q₁:=λv s'=>v= .ref s.heap.objs.size/\s'={s with heap:=s.heap.push {cls:=.type "bytearray",data:=.bytearray #[]}}) rest hc ⟨rfl,rfl⟩) λr s' hr=>?_))));cases r with
 |error e=>exact hr.elim
 |ok fl=>
  cases fl with
  |ret obj=>
   obtain⟨rfl,rfl⟩:=hr;have hT:({s with heap:=s.heap.push {cls:=.type "bytearray",data:=.bytearray #[]}}:Shared).TypeIs (.ref s.heap.objs.size) "bytearray":=⟨_,eQ _ rfl,rfl⟩;refine AJ (qF hT FA.sub_self ?_);rw[T8 ⋯];refine AA (AM ?_);unfold callSpecial?;refine AJ (gN hT FA.C3.lookup ?_);refine AM (AA (Az (FA.C3.bind _) ?_));refine AA (Bl (A6 h λr s' hr=>?_));cases r with
   |error e=>exact hr
   |ok fl=>
    cases fl with
    |ret v=>
     obtain⟨rfl,hq⟩:=hr;exact AB (AB hq)
    |_=>exact hr.elim
  |_=>exact hr.elim
theorem KO {Q:Bool->Shared->Prop}(hg:A.guards=some []) (h:Q false s):Ai (model prog w) A (Builtin.Bytes.exported (.ref a)) Q E s:=by
 unfold Builtin.Bytes.exported;refine FJ hg (λc p hc hn=>?_) h;have no:∀{id:String}{args:Args},guardIds.contains id=true->(Code.builtin id args).isGuard=false->False:=λh1 h2=>by
  have h3:guardIds.contains _=false:=h2;rw[h1] at h3;cases h3
 split
 ·rename_i heq;cases heq;exact (no ⋯ hc).elim
 ·rename_i heq;cases heq;exact (no ⋯ hc).elim
 ·rename_i heq;cases heq;exact (no ⋯ hc).elim
 ·rename_i heq;cases heq;exact (no ⋯ hc).elim
 ·rename_i heq;cases heq;exact (no ⋯ hc).elim
 ·rename_i id v rest kw _ _ _ _ _ _ heq;cases heq;have h3:(!Builtin.Bytes.decodersThatHold.contains id)=true:=hn;rw[mI] at h3;rw[h3,Bool.and_false]
 ·rfl
theorem F0 {Q:Bool->Shared->Prop}(hg:A.guards=some []) (hb:s.heap.get? a=some {cls:=.type "bytearray",data:=.bytearray b 0}) (h:Q false s):
  Ai (model prog w) A (Builtin.Bytes.exported (.ref a)<||>(do return (←Builtin.Bytes.exportsOf (.ref a))>0)) Q E s:=by
 refine AA (KO hg ?_);show Ai _ _ (Builtin.Bytes.exportsOf (.ref a)>>=_) _ _ _;refine AA ?_;unfold Builtin.Bytes.exportsOf;refine AJ (rN hb ?_);exact AB (AB h)
theorem HB {Q:Unit->Shared->Prop}(hg:A.guards=some []) (hb:s.heap.get? a=some {cls:=.type "bytearray",data:=.bytearray b 0}) (h:Q () s):
  Ai (model prog w) A (Builtin.Bytes.checkResize (.ref a)) Q E s:=by
 unfold Builtin.Bytes.checkResize;refine AA (F0 hg hb ?_);exact AB h
theorem Be {n:Nat}{Q:Array UInt8->Shared->Prop}(hb:s.heap.get? a=some {cls:=.type "bytearray",data:=.bytearray b n}) (h:Q b s):
  wpAny (model prog w) A (Builtin.Bytes.payload (.ref a)) Q E s:=by
 unfold Builtin.Bytes.payload Builtin.Bytes.payload?;refine K3 (K3 (rN hb ?_));exact df (df h)
theorem Cg {n:Nat}{Q:Unit->Shared->Prop}(hb:s.heap.get? a=some {cls:=.type "bytearray",data:=.bytearray b n}) (hz:(f b).size<=sizeLine) (h:Q () {s with heap:=s.heap.update a (Obj.mapBytearray f)}):wpAny (model prog w) A (Builtin.Bytes.write (.ref a) f) Q E s:=by
 show wpAny _ _ (updateBytearray a f) _ _ _;unfold updateBytearray;refine K3 (rN hb ?_);show wpAny _ _ (update a (Obj.mapBytearray f)>>=λ_=>lookBehind a) _ _ _;refine K3 (wpAny_update hb ?_);have h2:=lx (Obj.mapBytearray f) hb rfl;refine tM h2 ?_ h;show (if (f b).size>sizeLine then some "bytearray:memory" else none)=none;rw[T8 (uK.mpr hz)]
theorem D7 (hT:s.TypeIs (.ref a) "bytearray"){Q:Bool->Shared->Prop}(h:Q false s):wpAny (model prog w) A (Builtin.Bytes.ownRelease (.ref a)) Q E s:=by
 unfold Builtin.Bytes.ownRelease Builtin.Bytes.slotIsOwn;refine K3 (K3 (gN hT FA.MS ?_));dsimp only;rw[T8 (by rw[FA.Ju];decide),FA.KJ];refine qF hT FA.sub_self ?_;exact df h
theorem IQ {h:Heap}(hb:h.get? a=some {cls:=.type "bytearray",data:=.bytearray b 0}):
  (h.update a (Obj.mapBytearray f)).get? a=some {cls:=.type "bytearray",data:=.bytearray (f b) 0}:=lx (Obj.mapBytearray f) hb rfl
theorem QZ (hg:A.guards=some []) (hb:s.heap.get? a=some {cls:=.type "bytearray",data:=.bytearray b 0}) (h:Q .none {s with heap:=s.heap.update a (Obj.mapBytearray λ_=> #[])}):
  codeN (model prog w) A (.call (.builtin "bytearray.__init__") ⟨[.ref a],[]⟩) (wants Q E) s:=by
 have hT:s.TypeIs (.ref a) "bytearray":=⟨_,hb,rfl⟩;refine BU FA.FH ⋯ FA.Fp (FA.C3.check _ _ _ _ _ _ _ _ hT (FA.Mx _) ?_);unfold Builtin.«bytearray.__init__»
 try dsimp only
 refine AJ (D7 hT ?_);rw[T8 ⋯];refine AA (Az FA.Xc ?_)
 try dsimp only
 refine AA (AB ?_);refine AA (AB ?_);refine AA (F0 hg hb ?_);rw[T8 ⋯];refine AJ (Cg hb (by rw[il];exact el _) ?_)
 try dsimp only
 refine AA (AB ?_);exact AB h
theorem Le {n:Int}(hg:A.guards=some []) (hb:s.heap.get? a=some {cls:=.type "bytearray",data:=.bytearray b 0}) (h0:0<=n) (h1:n<=1000000) (h:∀h',h'.get? a=some {cls:=.type "bytearray",data:=.bytearray (Array.replicate n.toNat 0) 0}->Heap.SameBut a s.heap h'->Q .none {s with heap:=h'}):
  codeN (model prog w) A (.call (.builtin "bytearray.__init__") ⟨[.ref a,.int n t],[]⟩) (wants Q E) s:=by
 have hT:s.TypeIs (.ref a) "bytearray":=⟨_,hb,rfl⟩;refine BU FA.FH ⋯ FA.Fp (FA.C3.check _ _ _ _ _ _ _ _ hT (FA.Hq _ _) ?_);unfold Builtin.«bytearray.__init__»
 try dsimp only
 refine AJ (D7 hT ?_);rw[T8 ⋯];refine AA (Az (FA.bind1 _) ?_)
 try dsimp only
 refine AA (AB ?_);refine AA (AB ?_);refine AA (F0 hg hb ?_);rw[T8 ⋯];refine AJ (Cg hb (by rw[il];exact el _) ?_)
 try dsimp only
 refine AA (Az (a:=none) rfl ?_);rw[T8 ⋯];refine AA (AB ?_);refine AJ (gN (T:="int") (sP _ n t) PySem.F.slot_int_index.lookup ?_);rw[UQ (show (some (Value.builtin "int.__index__")).isSome=true from rfl)];refine AA (Az (a:=.ok n) rfl ?_)
 try dsimp only
 rw[T8 (by simp only[Builtin.Bytes.fitsIndex,mI,sq,dv,ip];omega)];rw[T8 ⋯];rw[T8 (by simp only[ke];omega)];rw[T8 (by simp only[Builtin.Bytes.tooLong,ip,il];omega)];refine AA (C8 ?_);by_cases hn:n>0
 ·rw[UQ hn];refine AJ (Cg (IQ hb) (by simp [il];omega) ?_);refine AB (h _ (IQ (IQ hb)) ?_);exact⟨by rw[pg,pg],λb hb=>by rw[lw _ _ (Ne.symm hb),lw _ _ (Ne.symm hb)]⟩
 ·rw[T8 hn]
  have:n=0:=by omega
  subst this;exact AB (h _ (IQ hb) (pz ..))
theorem ED {id:String}{full:Bool}{Q:Option (Array UInt8)->Shared->Prop}(h:Q (some c) s):wpAny (model prog w) A (Builtin.Bytes.buffer? id (.bytes c t) full) Q E s:=by
 have hT:s.TypeIs (.bytes c t) "bytes":=pj s c t;unfold Builtin.Bytes.buffer?;refine K3 (gN hT FA.CG ?_)
 try dsimp only
 refine K3 ?_;unfold Builtin.Bytes.slotIsOwn;refine K3 (gN hT FA.CG ?_)
 try dsimp only
 rw[T8 (by rw[FA.K4];decide),FA.Kv];refine qF hT rT ?_;rw[T8 ⋯];refine K3 (gN hT FA.CG ?_)
 try dsimp only
 refine K3 ?_;unfold Builtin.Bytes.ownRelease Builtin.Bytes.slotIsOwn;refine K3 (K3 (gN hT FA.Ip ?_));refine df (df ?_);rw[T8 ⋯];refine K3 (kS (a:=c) rfl ?_);exact df h
theorem Fw {id:String}{full:Bool}{Q:Option (Array UInt8)->Shared->Prop}(hb:s.heap.get? a=some {cls:=.type "bytearray",data:=.bytearray c 0}) (h:Q (some c) s):wpAny (model prog w) A (Builtin.Bytes.buffer? id (.ref a) full) Q E s:=by
 have hT:s.TypeIs (.ref a) "bytearray":=⟨_,hb,rfl⟩;unfold Builtin.Bytes.buffer?;refine K3 (gN hT FA.Dp ?_)
 try dsimp only
 refine K3 ?_;unfold Builtin.Bytes.slotIsOwn;refine K3 (gN hT FA.Dp ?_)
 try dsimp only
 rw[T8 (by rw[FA.JH];decide),FA.JM];refine qF hT FA.sub_self ?_;rw[T8 ⋯];refine K3 (gN hT FA.Dp ?_)
 try dsimp only
 refine K3 (D7 hT ?_);rw[T8 ⋯];refine K3 (Be hb ?_);exact df h
theorem Ih (hg:A.guards=some []) (hb:s.heap.get? a=some {cls:=.type "bytearray",data:=.bytearray b 0}) (hz:c.size<=sizeLine) (h:∀h',h'.get? a=some {cls:=.type "bytearray",data:=.bytearray c 0}->Heap.SameBut a s.heap h'->Q .none {s with heap:=h'}):
  codeN (model prog w) A (.call (.builtin "bytearray.__init__") ⟨[.ref a,.bytes c t],[]⟩) (wants Q E) s:=by
 have hT:s.TypeIs (.ref a) "bytearray":=⟨_,hb,rfl⟩;refine BU FA.FH ⋯ FA.Fp (FA.C3.check _ _ _ _ _ _ _ _ hT (FA.Hq _ _) ?_);unfold Builtin.«bytearray.__init__»
 try dsimp only
 refine AJ (D7 hT ?_);rw[T8 ⋯];refine AA (Az (FA.bind1 _) ?_)
 try dsimp only
 refine AA (AB ?_);refine AA (AB ?_);refine AA (F0 hg hb ?_);rw[T8 ⋯];refine AJ (Cg hb (by rw[il];exact el _) ?_)
 try dsimp only
 refine AA (Az (a:=none) rfl ?_);rw[T8 ⋯];refine AA (AB ?_);refine AJ (gN (T:="bytes") (pj _ c t) FA.Eg ?_);rw[T8 ⋯];refine AJ (ED ?_);refine AA (C8 ?_);refine AJ (Cg (IQ hb) hz ?_);refine AB (h _ (IQ (IQ hb)) ?_);exact⟨by rw[pg,pg],λb hb=>by rw[lw _ _ (Ne.symm hb),lw _ _ (Ne.symm hb)]⟩
theorem RK (hg:A.guards=some []) (h:∀h',h'.get? s.heap.objs.size=some {cls:=.type "bytearray",data:=.bytearray #[] 0}->(∀b o,s.heap.get? b=some o->h'.get? b=some o)->s.heap.objs.size<=h'.objs.size->Q (.ref s.heap.objs.size) {s with heap:=h'}):
  Ai (model prog w) A (PySem.call (.type "bytearray") []) Q E s:=by
 have hb:=eQ s.heap (o:={cls:=.type "bytearray",data:=.bytearray #[]}) rfl;refine EL FA.RP FA.N2 (QZ (s:={s with heap:=s.heap.push {cls:=.type "bytearray",data:=.bytearray #[]}}) hg hb ⟨rfl,?_⟩);refine h _ (IQ hb) (λb o e=>?_) (by rw[pg,sQ];exact sv _);rw[lw _ _ (Ne.symm (qZ (qJ e)))];exact du _ e
theorem DE {h h':Heap}{o:Obj}(k:Heap.SameBut h.objs.size (h.push o) h'):(∀b ob,h.get? b=some ob->h'.get? b=some ob)/\h.objs.size<=h'.objs.size:=
 ⟨λb ob e=>(k.2 b (qZ (qJ e))).trans (du _ e),by rw[k.1,sQ];exact sv _⟩
theorem LZ {n:Int}(hg:A.guards=some []) (h0:0<=n) (h1:n<=1000000) (h:∀h',h'.get? s.heap.objs.size=some {cls:=.type "bytearray",data:=.bytearray (Array.replicate n.toNat 0) 0}->(∀b o,s.heap.get? b=some o->h'.get? b=some o)->s.heap.objs.size<=h'.objs.size->Q (.ref s.heap.objs.size) {s with heap:=h'}):
  Ai (model prog w) A (PySem.call (.type "bytearray") [.int n t]) Q E s:=by
 have hb:=eQ s.heap (o:={cls:=.type "bytearray",data:=.bytearray #[]}) rfl;refine EL (FA.K2 _) (FA.JA _) (Le (s:={s with heap:=s.heap.push {cls:=.type "bytearray",data:=.bytearray #[]}}) hg hb h0 h1 λh' e k=>⟨rfl,?_⟩);exact h h' e (DE k).1 (DE k).2
theorem E2 (hg:A.guards=some []) (hz:c.size<=sizeLine) (h:∀h',h'.get? s.heap.objs.size=some {cls:=.type "bytearray",data:=.bytearray c 0}->(∀b o,s.heap.get? b=some o->h'.get? b=some o)->s.heap.objs.size<=h'.objs.size->Q (.ref s.heap.objs.size) {s with heap:=h'}):
  Ai (model prog w) A (PySem.call (.type "bytearray") [.bytes c t]) Q E s:=by
 have hb:=eQ s.heap (o:={cls:=.type "bytearray",data:=.bytearray #[]}) rfl;refine EL (FA.K2 _) (FA.JA _) (Ih (s:={s with heap:=s.heap.push {cls:=.type "bytearray",data:=.bytearray #[]}}) hg hb hz λh' e k=>⟨rfl,?_⟩);exact h h' e (DE k).1 (DE k).2
end
end Fsx
namespace Fsx
open PySem PySem.W PySem.Calls PyProof.Rows
local macro_rules |`(⋯)=>`(by first|decide+kernel|omega)
namespace FA
theorem Kq:Slot "bytearray" "__len__" "bytearray.__len__":=
 .of (owner:="bytearray") (n:="__len__") (by rw[kf,f8];kernel_rfl) ⋯ ⋯ ⋯
  (by first|exact .inl ⋯|exact .inr ⋯) (by rw[pf];kernel_rfl)
theorem Bq:Slot "bytearray" "__getitem__" "bytearray.__getitem__":=
 .of (owner:="bytearray") (n:="__getitem__") (by rw[kf,f8];kernel_rfl) ⋯ ⋯ ⋯
  (by first|exact .inl ⋯|exact .inr ⋯) (by rw[pf];kernel_rfl)
theorem Cz:Slot "bytearray" "__setitem__" "bytearray.__setitem__":=
 .of (owner:="bytearray") (n:="__setitem__") (by rw[kf,f8];kernel_rfl) ⋯ ⋯ ⋯
  (by first|exact .inl ⋯|exact .inr ⋯) (by rw[pf];kernel_rfl)
theorem entry_len:entryFor table "bytearray.__len__"=some Builtin.«bytearray.__len__»:=q9 (by kernel_rfl)
theorem FE:entryFor table "bytearray.__getitem__"=some Builtin.«bytearray.__getitem__»:=q9 (by kernel_rfl)
theorem FD:entryFor table "bytearray.__setitem__"=some Builtin.«bytearray.__setitem__»:=q9 (by kernel_rfl)
theorem RC (a:Value):argsOk "bytearray.__len__" ⟨[a],[]⟩:=by unfold argsOk;kernel_rfl
theorem F1 (a b:Value):argsOk "bytearray.__getitem__" ⟨[a,b],[]⟩:=by unfold argsOk;kernel_rfl
theorem Fz (a b c:Value):argsOk "bytearray.__setitem__" ⟨[a,b,c],[]⟩:=by unfold argsOk;kernel_rfl
theorem RX:plainId "bytearray.__setitem__"=true:=by decide+kernel
theorem Jo:typeLookup (.type "bytes") "__int__"=pure none:=by rw[kf,f8];kernel_rfl
theorem HZ:typeLookup (.type "bytes") "__float__"=pure none:=by rw[kf,f8];kernel_rfl
theorem KZ:isSubtype (.type "bytes") (.type "bytearray")=pure false:=by rw[pf];kernel_rfl
theorem sub_bytes_complex:isSubtype (.type "bytes") (.type "complex")=pure false:=by rw[pf];kernel_rfl
theorem HI:seqItemTypes.contains "bytearray"=false:=by decide+kernel
end FA
variable {Q:Value->Shared->Prop}{i:Int}{sl:Addr}
section
variable {prog:Program}{w:World}{A:Around}{E:Value->Shared->Prop}{s:Shared}{a:Addr}{b:Array UInt8}
theorem UH (hb:s.heap.get? a=some {cls:=.type "bytearray",data:=.bytearray b 0}) (hz:b.size<=16777216) (h:Q (.int b.size (s.toks+1)) {s with toks:=s.toks+1+1}):wpAny (model prog w) A (PySem.call (.builtin "len") [.ref a]) Q E s:=by
 have hT:s.TypeIs (.ref a) "bytearray":=⟨_,hb,rfl⟩;refine Calls.call_function_entry PySem.kind_len PySem.plain_len PySem.entry_len (PySem.args_len1 _) ?_;unfold Builtin.«len»;refine K3 (m:=oneArg "len" _) (df ?_);refine K3 (m:=callSpecial? (.ref a) (Str.ofString "__len__")) (rO (name:=Str.ofString "__len__") hT FA.Kq (rA FA.Kq hT FA.entry_len ?_ (FA.RC _)));show wpAny _ _ (Builtin.Bytes.payload (.ref a)>>=λb=>_) _ _ _;refine K3 (Be hb ?_);refine K3 (wpAny_mkInt (df ⟨_,rfl,?_⟩));show wpAny _ _ _ _ _ {s with toks:=s.toks+1};refine K3 (ky (df ?_));refine K3 (wpAny_letGo ?_);show wpAny _ _ (if ((b.size:Nat):Int)<0 then _ else _) _ _ _;rw[T8 ⋯];show wpAny _ _ (if ((b.size:Nat):Int)>=2^63 then _ else _) _ _ _;rw[T8 ⋯];exact K3 (wpAny_mkInt (df ⟨_,rfl,h⟩))
theorem Dh {u:Tok}{Q:Option Int->Shared->Prop}(h0:0<=i) (h1:i<2^62) (h:Q (some i) s):wpAny (model prog w) A (Builtin.Bytes.subscript? (.int i u)) Q E s:=by
 unfold Builtin.Bytes.subscript?;refine K3 (gN (sP s i u) PySem.F.slot_int_index.lookup ?_);refine tP ?_;rw[T8 ⋯];refine K3 (kS (a:=i) rfl ?_);refine tP ?_;rw[T8 (by simp only[Builtin.Bytes.fitsIndex,mI,sq,dv,ip];omega)];exact df h
theorem DS {n:Nat}(h0:0<=i) (h1:i<n):seqIndex? i n=some i.toNat:=by
 have hn:¬i<0:=by omega
 simp [seqIndex?,hn,h0,h1]
theorem Ms {u:Tok}{x:UInt8}(hb:s.heap.get? a=some {cls:=.type "bytearray",data:=.bytearray b 0}) (hz:b.size<=16777216) (h0:0<=i) (hx:b[i.toNat]? =some x) (h:Q (.int x.toNat s.toks) {s with toks:=s.toks+1}):wpAny (model prog w) A (getItem (.ref a) (.int i u)) Q E s:=by
 have hT:s.TypeIs (.ref a) "bytearray":=⟨_,hb,rfl⟩;have hi:i.toNat<b.size:=(sR.mp hx).1;refine wpAny_getItem_slot hT FA.HI FA.Bq (rA FA.Bq hT FA.FE ?_ (FA.F1 _ _));unfold Builtin.«bytearray.__getitem__»;refine K3 (kS (a:=(Value.ref a,[Value.int i u])) rfl ?_)
 try dsimp only
 refine K3 (Dh h0 ⋯ ?_)
 try dsimp only
 refine K3 (Be hb ?_);rw[DS h0 ⋯];simp only[qQ,hx];exact K3 (wpAny_mkInt (df ⟨_,rfl,h⟩))
theorem KY {u:Tok}{Q:UInt8->Shared->Prop}(h0:0<=i) (h1:i<256) (h:Q i.toNat.toUInt8 s):wpAny (model prog w) A (Builtin.Bytes.byteValue (.int i u)) Q E s:=by
 unfold Builtin.Bytes.byteValue;refine K3 (kS (a:=i) rfl ?_);refine tP ?_;rw[T8 (by simp only[qB,ip];omega)];exact df h
theorem MK {x:Int}{u t:Tok}{Q:Unit->Shared->Prop}(hb:s.heap.get? a=some {cls:=.type "bytearray",data:=.bytearray b 0}) (hz:b.size<=16777216) (h0:0<=i) (hi:i.toNat<b.size) (l8:0<=x) (l9:x<256) (h:∀h',h'.get? a=some {cls:=.type "bytearray",data:=.bytearray (b.setIfInBounds i.toNat x.toNat.toUInt8) 0}->Heap.SameBut a s.heap h'->Q () {s with heap:=h'}):wpAny (model prog w) A (setItem (.ref a) (.int i u) (.int x t)) Q E s:=by
 have hT:s.TypeIs (.ref a) "bytearray":=⟨_,hb,rfl⟩;unfold setItem;refine ky (K3 (sx hT FA.HI ?_));refine K3 (rO hT FA.Cz (rA FA.Cz hT FA.FD ?_ (FA.Fz _ _ _)));unfold Builtin.«bytearray.__setitem__»;refine tP ?_;rw[T8 (by simp)]
 try dsimp only
 refine K3 (Dh h0 ⋯ ?_)
 try dsimp only
 refine K3 (KY l8 l9 ?_);refine K3 (Be hb ?_);rw[DS h0 ⋯]
 try dsimp only
 refine K3 (Cg hb (by rw[tE,il];exact hz) ?_);exact df ⟨_,rfl,df (h _ (IQ hb) (pz ..))⟩
def Fa:Option Nat->Option Int
 |none=>none
 |some k=>some (Int.ofNat k)
theorem Lw (n k:Nat):clipAt n (k:Int)=min k n:=clipAt_nat n k
theorem MX (b:Array UInt8) (lo hi:Option Nat):(KBy.picked b (Fa lo) (Fa hi)).toList=(b.toList.take (hi.getD b.size)).drop (lo.getD 0):=by
 rw[KBc.picked_eq,qb];have e1:(Fa lo).elim 0 (clipAt b.size)=min (lo.getD 0) b.size:=by
  cases lo with
  |none=>simp [Fa]
  |some k=>exact Lw _ _
 have e2:(Fa hi).elim b.size (clipAt b.size)=min (hi.getD b.size) b.size:=by
  cases hi with
  |none=>simp [Fa]
  |some k=>exact Lw _ _
 rw[e1,e2];have hl:b.toList.length=b.size:=hV;generalize hq:hi.getD b.size=q;generalize hp:lo.getD 0=p;generalize b.toList=l at hl;apply qt;intro i;rw[qS,oI,oI,qS];by_cases h1:p<=b.size
 ·rw[sF h1];by_cases h2:p+i<q
  ·rw[UQ h2];by_cases h3:p+i<b.size
   ·rw[UQ ⋯]
   ·rw[fA ⋯];split<;>rfl
  ·rw[T8 h2,T8 ⋯]
 ·have h3:l[p+i]? =none:=fA ⋯;rw[T8 ⋯,h3];split<;>rfl
theorem Bv (b:Array UInt8) (lo hi:Option Nat):(KBy.picked b (Fa lo) (Fa hi)).size<=b.size:=KBc.size_picked_le _ _ _
theorem DZ {l u:Value}{lo hi:Option Int}{Q:Value×Value×Value->Shared->Prop}(hs:s.heap.IsSliceOf sl l u .none) (hl:IsPart l lo) (hu:IsPart u hi) (h:Q (rawPart lo,rawPart hi,.none) s):
  wpAny (model prog w) A (Builtin.Bytes.sliceParts (.ref sl)) Q E s:=by
 obtain⟨o,ho,hc,hd⟩:=hs;unfold Builtin.Bytes.sliceParts;refine K3 (qW (x:=.none) ho hd rfl ?_)
 kby_none
 refine tP (KBy.ite_no (show ¬((Value.none==rawInt 0)=true) from Bool.false_ne_true) ?_);refine K3 (qW (x:=l) ho hd rfl ?_);cases hl<;>cases hu<;>(first
  |(kby_none;(refine K3 (qW (x:=.none) ho hd rfl ?_));kby_none)
  |(kby_none;(refine K3 (qW (x:=.int _ _) ho hd rfl ?_));kby_int)
  |(kby_int;(refine K3 (qW (x:=.none) ho hd rfl ?_));kby_none)
  |(kby_int;(refine K3 (qW (x:=.int _ _) ho hd rfl ?_));kby_int))<;>exact df h
theorem Lu {l u st:Value}{Q:Option Int->Shared->Prop}(hs:s.heap.IsSliceOf sl l u st) (h:Q none s):wpAny (model prog w) A (Builtin.Bytes.subscript? (.ref sl)) Q E s:=by
 obtain⟨o,ho,hc,hd⟩:=hs;have hT:s.TypeIs (.ref sl) "slice":=⟨o,ho,hc⟩;unfold Builtin.Bytes.subscript?;exact K3 (gN hT slice_no_index (df h))
theorem Gs {l u:Value}{lo hi:Option Nat}(hb:s.heap.get? a=some {cls:=.type "bytearray",data:=.bytearray b 0}) (hz:b.size<=16777216) (hs:s.heap.IsSliceOf sl l u .none) (hl:IsPart l (Fa lo)) (hu:IsPart u (Fa hi)) (h:Q (.ref s.heap.objs.size) {s with heap:=s.heap.push {cls:=.type "bytearray",data:=.bytearray (KBy.picked b (Fa lo) (Fa hi))}}):wpAny (model prog w) A (getItem (.ref a) (.ref sl)) Q E s:=by
 have hT:s.TypeIs (.ref a) "bytearray":=⟨_,hb,rfl⟩;have ie:s.TypeIs (.ref sl) "slice":=let ⟨o,ho,hc,_⟩:=hs;⟨o,ho,hc⟩;refine wpAny_getItem_slot hT FA.HI FA.Bq (rA FA.Bq hT FA.FE ?_ (FA.F1 _ _));unfold Builtin.«bytearray.__getitem__»;refine K3 (kS (a:=(Value.ref a,[Value.ref sl])) rfl ?_)
 try dsimp only
 refine K3 (Lu hs ?_)
 try dsimp only
 refine K3 (uM ie ?_);rw[T8 ⋯];refine K3 (DZ hs hl hu ?_)
 try dsimp only
 refine K3 (Be hb ?_);refine K3 (kS (sliceIndices_raw (Fa lo) (Fa hi) none b.size (λe=>nomatch e)) ?_)
 try dsimp only
 refine K3 ?_;unfold Builtin.Bytes.newBytearray;refine qw ?_ (by
  show (KBy.picked b (Fa lo) (Fa hi)).size<=sizeLine;rw[il];exact lv (Bv b lo hi) hz)
 exact df ⟨_,rfl,h⟩
theorem HV (lo hi:Option Nat) (n:Nat):sliceBounds (Fa lo) (Fa hi) none n=(((min (lo.getD 0) n:Nat):Int),((min (hi.getD n) n:Nat):Int),1):=by
 unfold sliceBounds Fa;cases lo<;>cases hi<;>simp only[tK,q8,ru]<;>(refine Prod.ext ?_ (Prod.ext ?_ rfl))<;>dsimp only<;>(try simp only[gt_iff_lt,Int.zero_lt_one,qT])<;>(try (rw[T8 ⋯]))<;>omega
theorem EI {M:Model}{self:Value}{T:String}{name:Str}{id:String}{args:List Value}{kw:List (Str×Value)}{Q:Option Value->Shared->Prop}(hT:s.TypeIs self T) (h:Slot T name id) (hc:Ai M A (PySem.call (.builtin id) (self::args) kw) (λv=>Q (some v)) E s):Ai M A (callSpecial? self name args kw) Q E s:=by
 simp only[callSpecial?];refine AJ (gN hT h.lookup ?_);simp only[h.bind];exact AM (AA (AB (AA (AG hc (λv s' h'=>AB h') λ_ _ h'=>h'))))
theorem EH {T:String}{name:Str}{id:String}{b:Builtin}{self:Value}{rest:List Value}(h:Slot T name id) (hT:s.TypeIs self T) (hb:entryFor table id=some b) (hd:Builtin.Bytes.decodersThatHold.contains id=false) (hc:Ai (model prog w) A.in1 (b ⟨self::rest,[]⟩) (λfin s'=>∃v,fin= .done (.ret v)/\Q v s') E s) (ha:argsOk id ⟨self::rest,[]⟩):Ai (model prog w) A (PySem.call (.builtin id) (self::rest)) Q E s:=by
 refine Bl (BU h.plain hd hb (h.check _ _ _ _ _ _ _ _ hT ha (AG hc (λfin s' h'=>?_) λ_ _ h'=>h')));obtain⟨v,rfl,hv⟩:=h';exact hv
theorem Gk {l u:Value}{c:Array UInt8}{t:Tok}{lo hi:Option Nat}{Q:Unit->Shared->Prop}(hg:A.guards=some []) (hb:s.heap.get? a=some {cls:=.type "bytearray",data:=.bytearray b 0}) (hz:b.size<=16777216) (hs:s.heap.IsSliceOf sl l u .none) (hl:IsPart l (Fa lo)) (hu:IsPart u (Fa hi)) (h1:lo.getD 0<=hi.getD b.size) (h2:hi.getD b.size<=b.size) (h3:c.size=hi.getD b.size-lo.getD 0) (h:∀h',h'.get? a=some {cls:=.type "bytearray",data:=.bytearray (b.extract 0 (lo.getD 0)++c++b.extract (hi.getD b.size) b.size) 0}->(∀x o,x≠a->s.heap.get? x=some o->h'.get? x=some o)->s.heap.objs.size<=h'.objs.size->Q () {s with heap:=h'}):
  Ai (model prog w) A (setItem (.ref a) (.ref sl) (.bytes c t)) Q E s:=by
 have hT:s.TypeIs (.ref a) "bytearray":=⟨_,hb,rfl⟩;have ie:s.TypeIs (.ref sl) "slice":=let ⟨o,ho,hc,_⟩:=hs;⟨o,ho,hc⟩;have hTb:s.TypeIs (.bytes c t) "bytes":=pj s c t;have ig:c.size<=16777216:=by omega
 unfold setItem;refine AM (AJ (sx hT FA.HI ?_));refine AA (EI hT FA.Cz (EH FA.Cz hT FA.FD ⋯ ?_ (FA.Fz _ _ _)));unfold Builtin.«bytearray.__setitem__»;rw[T8 (by simp)]
 try dsimp only
 refine AJ (Lu hs ?_)
 try dsimp only
 refine AJ (uM ie ?_);rw[T8 ⋯];refine AJ (DZ hs hl hu ?_)
 try dsimp only
 rw[T8 (by show ¬(Builtin.Bytes.sameRef (Value.ref a) (Value.bytes c t))=true;exact Bool.false_ne_true)];refine AJ (qF hTb FA.KZ ?_);rw[UQ ⋯];refine AJ ?_;refine K3 (K3 (gN hTb FA.Eg (df ?_)));refine K3 (K3 (gN hTb FA.Jo (df ?_)));refine K3 (K3 (gN hTb FA.HZ (df ?_)));refine qF hTb FA.sub_bytes_complex ?_;refine AA (Az (a:=none) rfl ?_);rw[T8 ⋯];refine AA (C8 ?_);refine AA (E2 hg (by rw[il];exact ig) λh' e1 e2 e3=>?_);have hs':h'.IsSliceOf sl l u .none:=let ⟨o,ho,r⟩:=hs;⟨o,e2 _ _ ho,r⟩;have hb':=e2 _ _ hb;refine AA (AM (AL (DZ (s:={s with heap:=h'}) hs' hl hu ?_)));refine AJ (Be (s:={s with heap:=h'}) e1 ?_);refine AJ (Be (s:={s with heap:=h'}) hb' ?_);refine AA (Az (sliceIndices_raw (Fa lo) (Fa hi) none b.size (λe=>nomatch e)) ?_);rw[HV,sF h2,sF (lv h1 h2)];dsimp only;rw[UQ ⋯];refine AA (C8 ?_);have fV:max ((lo.getD 0:Nat):Int) ((hi.getD b.size:Nat):Int)=((hi.getD b.size:Nat):Int):=by omega
 rw[T8 (by rw[fV,sS,sy];omega)];refine AJ (Cg (s:={s with heap:=h'}) hb' ?_ ?_)
 ·rw[fV];simp only[qY,Array.size_extract,eD,il];omega
 ·refine AB ⟨_,rfl,AB (h _ ?_ (λx o n e=>?_) (by rw[pg];exact e3))⟩
  ·have:=IQ (f:=λb_1=>b_1.extract 0 ((lo.getD 0:Nat):Int).toNat++c++b_1.extract (max ((lo.getD 0:Nat):Int) ((hi.getD b.size:Nat):Int)).toNat) hb'
   rw[fV] at this ⊢;simpa only[eD] using this
  ·rw[lw _ _ (Ne.symm n)];exact e2 _ _ e
end
end Fsx
namespace Fsx
open PySem PySem.W PySem.Calls PyProof.Rows
local macro_rules |`(⋯)=>`(by first|decide+kernel|omega)
namespace FA
theorem G8:Slot "bytearray" "extend" "bytearray.extend":=
 .of (owner:="bytearray") (n:="extend") (by rw[kf,f8];kernel_rfl) ⋯ ⋯ ⋯
  (by first|exact .inl ⋯|exact .inr ⋯) (by rw[pf];kernel_rfl)
theorem Jr:entryFor table "bytearray.extend"=some Builtin.«bytearray.extend»:=q9 (by kernel_rfl)
theorem K1 (a b:Value):argsOk "bytearray.extend" ⟨[a,b],[]⟩:=by unfold argsOk;kernel_rfl
theorem Lg:typeLookup (.type "bytes") "__bytes__"=pure (some (.builtin "bytes.__bytes__")):=by rw[kf,f8];kernel_rfl
theorem KL:typeLookup (.type "int") "__bytes__"=pure none:=by rw[kf,f8];kernel_rfl
end FA
variable {Q:Value->Shared->Prop}{c:Array UInt8}{v:Value}
section
variable {prog:Program}{w:World}{A:Around}{E:Value->Shared->Prop}{s:Shared}{a:Addr}{b:Array UInt8}
inductive Buf (h:Heap):Value->Array UInt8->Prop
 |bytes {c t}:Buf h (.bytes c t) c
 |ba {x c}:h.get? x=some {cls:=.type "bytearray",data:=.bytearray c 0}->Buf h (.ref x) c
theorem Buf.buffer {v:Value}{c:Array UInt8}{id:String}{full:Bool}{Q:Option (Array UInt8)->Shared->Prop}(x:Buf s.heap v c) (h:Q (some c) s):wpAny (model prog w) A (Builtin.Bytes.buffer? id v full) Q E s:=by
 cases x with
 |bytes=>exact ED h
 |ba hb=>exact Fw hb h
theorem Buf.special {Q:Option Value->Shared->Prop}(x:Buf s.heap v c) (h:∀id,id="bytes.__buffer__"∨id="bytearray.__buffer__"->Q (some (.builtin id)) s):wpAny (model prog w) A (specialOf v "__buffer__") Q E s:=by
 cases x with
 |bytes=>exact gN (pj s _ _) FA.CG (h _ (.inl rfl))
 |ba hb=>exact gN ⟨_,hb,rfl⟩ FA.Dp (h _ (.inr rfl))
theorem Buf.Wr {Q:Bool->Shared->Prop}(x:Buf s.heap v c) (h:Q true s):wpAny (model prog w) A (Builtin.Bytes.slotIsOwn v "__buffer__") Q E s:=by
 unfold Builtin.Bytes.slotIsOwn;cases x with
 |bytes=>
  refine K3 (gN (pj s _ _) FA.CG ?_);dsimp only;rw[T8 (by rw[FA.K4];decide),FA.Kv];exact qF (pj s _ _) rT h
 |ba hb=>
  refine K3 (gN ⟨_,hb,rfl⟩ FA.Dp ?_);dsimp only;rw[T8 (by rw[FA.JH];decide),FA.JM];exact qF ⟨_,hb,rfl⟩ FA.sub_self h
theorem Buf.take {id:String}{Q:Option (Array UInt8×Option Value)->Shared->Prop}(x:Buf s.heap v c) (h:Q (some (c,none)) s):wpAny (model prog w) A (Builtin.Bytes.takeBufferQuiet? id v 0) Q E s:=by
 unfold Builtin.Bytes.takeBufferQuiet?;refine K3 (wpAny_attempt ?_);unfold Builtin.Bytes.takeBuffer?;refine K3 (x.special λmD h1=>?_);dsimp only;refine K3 (x.Wr ?_);rw[T8 ⋯];refine K3 (x.special λpN h2=>?_);rcases h2 with rfl|rfl
 ·exact K3 (x.buffer (df (df h)))
 ·exact K3 (x.buffer (df (df h)))
theorem LR (hg:A.guards=some []) (hb:s.heap.get? a=some {cls:=.type "bytearray",data:=.bytearray b 0}) (x:Buf s.heap v c) (hz:b.size+c.size<=sizeLine) (h:∀h',h'.get? a=some {cls:=.type "bytearray",data:=.bytearray (b++c) 0}->Heap.SameBut a s.heap h'->Q .none {s with heap:=h'}):
  Ai (model prog w) A (PySem.call (.builtin "bytearray.extend") [.ref a,v]) Q E s:=by
 have hT:s.TypeIs (.ref a) "bytearray":=⟨_,hb,rfl⟩;refine EH FA.G8 hT FA.Jr ⋯ ?_ (FA.K1 _ _);unfold Builtin.«bytearray.extend»;refine AA (Az (a:=(Value.ref a,v)) rfl ?_);dsimp only;refine AJ (x.special λmD h1=>?_);rw[UQ (by rfl)];refine AA (C8 ?_);refine AJ (Be hb ?_);refine AJ (x.take ?_);dsimp only;rw[UQ (by rfl)];show Ai _ _ (if (!c.isEmpty)=true then (Builtin.Bytes.checkResize (.ref a)>>=λ_=>Builtin.Bytes.write (.ref a) (λb=>b++c)>>=λ_=>ret .none) else (Builtin.Bytes.write (.ref a) (λb=>b++c)>>=λ_=>ret .none)) _ _ _;have fin:Ai (model prog w) A.in1 (Builtin.Bytes.write (.ref a) (λb=>b++c)>>=λ_=>ret .none) (λfin s'=>∃v,fin= .done (.ret v)/\Q v s') E s:=
  AJ (Cg hb (by rw[qY];exact hz) (AB ⟨_,rfl,h _ (IQ hb) (pz ..)⟩))
 split
 ·exact AA (HB hg hb fin)
 ·exact fin
theorem OG (h:wpAny (model prog w) A.in1 (Builtin.«bytes.__new__» ⟨[.type "bytes",v],[]⟩) (λfin s'=>∃v,fin= .done (.ret v)/\Q v s') E s):
  codeAny (model prog w) A (.call (.builtin "bytes.__new__") ⟨[.type "bytes",v],[]⟩) (wants Q E) s:=by
 refine sD ?_;show wpAny _ A.in1 (do checkBuiltinCall "bytes.__new__" ⟨[.type "bytes",v],[]⟩;again (.builtin "bytes.__new__" ⟨[.type "bytes",v],[]⟩)) _ _ s;refine K3 (kS (PySem.F.bm_newCall _) (df ⟨rI PySem.F.bm_plain _,ql PySem.F.bm_entry ?_⟩));rw[pE PySem.F.bm_plain _];exact jV h (λfin s' ⟨v,e,q⟩=>by subst e;exact q) λ_ _ q=>q
theorem FT (h:wpAny (model prog w) A.in1.in1 (Builtin.«bytes.__new__» ⟨[.type "bytes",v],[]⟩) (λfin s'=>∃v,fin= .done (.ret v)/\s'.TypeIs v "bytes"/\Q v s') E s):
  wpAny (model prog w) A (PySem.call (.type "bytes") [v]) Q E s:=by
 refine callType_codes (Q₁:=λobj s₁=>s₁.TypeIs obj "bytes"/\Q obj s₁) PySem.F.bm_called (PySem.F.bm_typeCall _) PySem.F.entry_object_init (OG h) λobj s₁ h₁=>?_;exact⟨h₁.1,PySem.F.args_object_init_2 obj _,object_init_meets PySem.F.bm_called.init.lookup PySem.F.bm_called.made ⋯ prog w A.in1 _ s₁ ⟨h₁.1,rfl,h₁.2⟩⟩
theorem Hs {n:Int}{t:Tok}(h0:0<=n) (h1:n<=1000000) (h:∀t k,Q (.bytes (Array.replicate n.toNat 0) t) {s with toks:=k}):wpAny (model prog w) A (PySem.call (.type "bytes") [.int n t]) Q E s:=by
 refine FT ?_;have hT:s.TypeIs (.int n t) "int":=sP s n t;unfold Builtin.«bytes.__new__»;refine K3 (kS (a:=true) rfl ?_);rw[T8 ⋯];refine K3 (kS rT ?_);rw[T8 ⋯];refine K3 (kS (tn _) ?_)
 try dsimp only
 refine K3 (kS (a:=()) rfl ?_);refine K3 (kS (a:=()) rfl ?_);rw[T8 ⋯];refine K3 (gN hT FA.KL ?_)
 try dsimp only
 refine K3 (kS (a:=false) rfl ?_);rw[T8 ⋯];refine K3 (gN hT PySem.F.slot_int_index.lookup ?_);rw[T8 ⋯];refine K3 (kS (a:=.ok n) rfl ?_)
 try dsimp only
 rw[T8 (by simp only[Builtin.Bytes.fitsIndex,mI,sq,dv,ip];omega)];rw[T8 ⋯];rw[T8 ⋯];rw[T8 (by simp only[Builtin.Bytes.tooLong,ip,il];omega)];refine K3 (sU ?_);refine K3 (wpAny_mkBytes ?_ (by simp [il];omega));show wpAny _ _ (if (Value.type "bytes"==Value.type "bytes")=true then ret _ else _) _ _ _;rw[UQ ⋯];exact df ⟨_,rfl,pj _ _ _,h _ _⟩
theorem Gv {t:Tok}(h:Q (.bytes c t) s):wpAny (model prog w) A (PySem.call (.type "bytes") [.bytes c t]) Q E s:=by
 refine FT ?_;have hT:s.TypeIs (.bytes c t) "bytes":=pj s c t;unfold Builtin.«bytes.__new__»;refine K3 (kS (a:=true) rfl ?_);rw[T8 ⋯];refine K3 (kS rT ?_);rw[T8 ⋯];refine K3 (kS (tn _) ?_)
 try dsimp only
 refine K3 (kS (a:=()) rfl ?_);refine K3 (kS (a:=()) rfl ?_);rw[T8 ⋯];refine K3 (gN hT FA.Lg ?_)
 try dsimp only
 refine K3 (sU ?_);refine K3 (uM hT ?_);rw[UQ ⋯];show wpAny _ _ (if (Value.type "bytes"==Value.type "bytes")=true then ret _ else _) _ _ _;rw[UQ ⋯];exact df ⟨_,rfl,hT,h⟩
theorem Iw (hb:s.heap.get? a=some {cls:=.type "bytearray",data:=.bytearray c 0}) (hz:c.size<=sizeLine) (h:∀t k,Q (.bytes c t) {s with toks:=k}):wpAny (model prog w) A (PySem.call (.type "bytes") [.ref a]) Q E s:=by
 refine FT ?_;have hT:s.TypeIs (.ref a) "bytearray":=⟨_,hb,rfl⟩;unfold Builtin.«bytes.__new__»;refine K3 (kS (a:=true) rfl ?_);rw[T8 ⋯];refine K3 (kS rT ?_);rw[T8 ⋯];refine K3 (kS (tn _) ?_)
 try dsimp only
 refine K3 (kS (a:=()) rfl ?_);refine K3 (kS (a:=()) rfl ?_);rw[T8 ⋯];refine K3 (gN hT FA.Ku ?_)
 try dsimp only
 refine K3 (K3 ?_);show wpAny _ _ (load a>>=_) _ _ _;refine K3 (rN hb ?_);refine df (df ?_);rw[T8 ⋯];refine K3 (gN hT FA.LQ ?_);rw[UQ ⋯];show wpAny _ _ (Builtin.Bytes.buffer? "bytes.__new__" (.ref a) true>>=_) _ _ _;refine K3 (Fw hb ?_)
 try dsimp only
 refine K3 (sU ?_);refine K3 (wpAny_mkBytes ?_ hz);show wpAny _ _ (if (Value.type "bytes"==Value.type "bytes")=true then ret _ else _) _ _ _;rw[UQ ⋯];exact df ⟨_,rfl,pj _ _ _,h _ _⟩
end
end Fsx
namespace Fsx
open PySem PySem.W PySem.Calls PyProof.Rows Builtin Builtin.ObjectAttr
local macro_rules |`(⋯)=>`(by first|decide+kernel|omega)
variable {A:Around}{E:Value->Shared->Prop}{H:Hp}{N i n:Nat}{α β γ δ:Type}{R:AR->Heap->α->β->Prop}{b:Array UInt8}{f:Fd}{fr:List Env}{g:Gd}{h:Heap}{loc:Loc}{s s':Shared}{slice value:Expr}{v:V}{x y:Value}{ρ ρ':AR}
theorem F2 {o i:Value}:∃ops,subscripted slice false o i=operate ops (getItem o i):=by
 cases slice
 case Slice a b c d=>cases c<;>exact ⟨_,rfl⟩
 all_goals exact⟨_,rfl⟩
theorem Cu {T id:String}{o i:Value}{Q:Value->Shared->Prop}(hl:typeLookup (.type T) "__getitem__"=pure (some (.builtin id))) (hT:s.TypeIs o T) (h:wpAny (model g.prog g.w) A (getItem o i) Q E s):
  wpAny (model g.prog g.w) A (subscriptTail value slice o i) Q E s:=by
 unfold subscriptTail;refine K3 ?_;rw[getitemInPython_of_ne hT.not_modules];refine K3 (gN hT hl ?_);have fin:wpAny (model g.prog g.w) A (subscripted slice false o i) (λr s₃=>wpAny (model g.prog g.w) A (letTemporaryGo value o r>>=λ_=>pure r) Q E s₃) E s:=by
  obtain⟨ops,hs⟩:=F2 (slice:=slice) (o:=o) (i:=i);rw[hs];exact wpAny_operate' (jV h (λr s₃ h₃=>K3 (wpAny_letTemporaryGo (df h₃))) λ_ _ x=>x)
 first
  |exact df (K3 fin)
  |exact K3 (df (K3 fin))
  |exact K3 fin
theorem Qh {z:Int}(e:(bl b)[i]? =some z):∃x,b[i]? =some x/\z=(x.toNat:Int):=by
 unfold bl at e;rw[fw] at e;obtain⟨x,h1,h2⟩:=dy.mp e;exact⟨x,by simpa using h1,h2.symm⟩
theorem VC {x:Int}(h0:0<=x) (h1:x<256):bl (b.setIfInBounds i x.toNat.toUInt8)=(bl b).set i x:=by
 unfold bl;rw[sV,List.map_set]
 congr 1
 show ((UInt8.ofNat x.toNat).toNat:Int)=x;have hx:x.toNat<256:=by omega
 have:(UInt8.ofNat x.toNat).toNat=x.toNat:=tF hx
 rw[this];omega
theorem Lc {lo hi:Option Nat}:bl (KBy.picked b (Fa lo) (Fa hi))=sliceOf (bl b) (lo.getD 0) (hi.getD b.size):=by
 unfold bl sliceOf;rw[MX,uH,rj]
theorem Uz {c:Array UInt8}{p q:Nat}(h:q<=b.size):bl (b.extract 0 p++c++b.extract q b.size)=(bl b).take p++bl c++(bl b).drop q:=by
 unfold bl;simp only[rF,Array.toList_extract,gL,List.extract_eq_drop_take,uA,tZ]
 congr 1
 ·rw[rj]
 ·rw[rj,uH,qO (by simp)]
theorem SI {o k:V}(Q:BJ g fr ρ H s.heap) (ro:VR g ρ s.heap o x) (rk:VR g ρ s.heap k y) (e:BM o k H=some v):
  wpAny (model g.prog g.w) A (subscriptTail value slice x y) (λz s'=>(∃n,s'={s with toks:=n})/\VR g ρ s.heap v z) E s:=by
 unfold BM at e;split at e
 ·rename_i l i;split at e
  ·rename_i h0;obtain⟨z,h1,rfl⟩:=dy.mp e;unfold VR at ro;obtain⟨b,t,rfl,rfl,hz⟩:=ro;obtain⟨u,rfl⟩:=Ab rk;obtain⟨c,hc,rfl⟩:=Qh h1;have hi:i.toNat<b.size:=(sR.mp hc).1;refine Cu FB.slot_bytes_getitem.lookup (pj s b t) ?_;have h:=PySem.W.getItem_bytes (prog:=g.prog) (w:=g.w) (A:=A) (E:=E) (s:=s) (t:=t) (u:=u) (l:=b.toList) (i:=i) (Q:=λz s'=>(∃n,s'={s with toks:=n})/\VR g ρ s.heap (.int c.toNat) z)
    (by rw[hV];unfold lid at hz;omega) h0 (by rw[hV];omega) (by
     have:(b.toList.getD i.toNat 0)=c:=by
      rw[fp,qo,hc];rfl
     rw[this];exact⟨⟨_,rfl⟩,Ah⟩)
   rwa [rz] at h
  ·cases e
 ·rename_i l i;split at e
  ·rename_i h0;unfold VR at ro;obtain⟨a,items,rfl,ht,hv,hz⟩:=ro;obtain⟨u,rfl⟩:=Ab rk;obtain⟨w,h1,h2⟩:=D2 hv e;have hi:i.toNat<items.size:=by
    rw[←hV];exact (dt.mp h1).1
   have hz':items.size<=1000:=by rw[←hV,At hv];exact hz
   refine Cu PyProof.Rows.slot_tuple_getitem.lookup ht.typeIs ?_;exact PyProof.Rows.getItem_tuple ht ⋯ ⋯ (DS h0 ⋯) (by simpa using h1) ⟨Cb s,h2⟩
  ·cases e
 ·rename_i a k;unfold VR at ro;obtain⟨p,hp,rfl⟩:=ro;split at e
  ·rename_i l i hl;split at e
   ·rename_i h0;obtain⟨p',dN,e0,items,n,h1,hv,hz⟩:=Q.rep.get hl;rw[hp] at dN;cases dN;obtain⟨u,rfl⟩:=Ab rk;obtain⟨w,h3,h4⟩:=D2 hv e;have hi:i.toNat<items.size:=by
     rw[←hV];exact (dt.mp h3).1
    have hz':items.size<=lid:=by rw[←hV,At hv];exact hz
    have hL:s.heap.IsList p.1 items:=⟨_,h1,rfl,n,rfl⟩;refine Cu PySem.slot_list_getitem.lookup hL.typeIs ?_;exact wpAny_getItem_list hL h0 (by unfold lid at hz';omega) (by simpa using h3) ⟨Cb s,h4⟩
   ·cases e
  ·rename_i l i hl;split at e
   ·rename_i h0;obtain⟨z,h1,rfl⟩:=dy.mp e;obtain⟨p',dN,e0,b,h2,rfl,hz⟩:=Q.rep.get hl;rw[hp] at dN;cases dN;obtain⟨u,rfl⟩:=Ab rk;obtain⟨c,hc,rfl⟩:=Qh h1;refine Cu FA.Bq.lookup ⟨_,h2,rfl⟩ ?_;exact Ms h2 (by unfold lid at hz;omega) h0 hc ⟨⟨_,rfl⟩,Ah⟩
   ·cases e
  ·rename_i d i hd;obtain⟨p',dN,e0,kvs,h1,h2,h3⟩:=Q.rep.get hd;rw[hp] at dN;cases dN;unfold VR at rk;obtain⟨t,rfl⟩:=rk;rcases h2.lk (k:=i) with ⟨a1,_⟩|⟨v',x',a1,a2,a3⟩
   ·rw[a1] at e;cases e
   ·rw[a1] at e;cases e;refine Cu PySem.slot_dict_getitem.lookup h1.typeIs ?_;exact wpAny_getItem_of M6 h1.mapOf a2 ⟨⟨_,rfl⟩,a3⟩
  ·cases e
 ·cases e
theorem RB {o k:V}(Q:AF g f ρ H loc s.heap) (ro:VR g ρ s.heap o x) (rk:VR g ρ s.heap k y):AE g f (BE g) ρ s ((Res.some H (BM o k H)).out loc) (subscriptTail value slice x y):=by
 cases e:BM o k H with
 |none=>exact AE.stuck
 |some v=>exact AE.same Q (SI Q.hr ro rk e)
theorem Jb (r:VR g ρ h v x) (e:Ew v=some n):∃lo:Option Nat,IsPart x (Fa lo)/\lo.getD 0=n:=by
 unfold Ew at e;split at e
 ·cases e;unfold VR at r;subst r;exact⟨none,.none,rfl⟩
 ·rename_i k;split at e
  ·rename_i h0;cases e;obtain⟨t,rfl⟩:=Ab r;refine⟨some k.toNat,?_,rfl⟩
   have:(Fa (some k.toNat))=some k:=by show some (Int.ofNat k.toNat)=some k;rw[ru,sH h0]
   rw[this];exact .int k t
  ·cases e
 ·cases e
theorem Es {m:Nat}(r:VR g ρ h v x) (e:Eb m v=some n):∃hi:Option Nat,IsPart x (Fa hi)/\hi.getD m=n:=by
 unfold Eb at e;split at e
 ·cases e;unfold VR at r;subst r;exact⟨none,.none,rfl⟩
 ·rename_i k;split at e
  ·rename_i h0;cases e;obtain⟨t,rfl⟩:=Ab r;refine⟨some k.toNat,?_,rfl⟩
   have:(Fa (some k.toNat))=some k:=by show some (Int.ofNat k.toNat)=some k;rw[ru,sH h0]
   rw[this];exact .int k t
  ·cases e
 ·cases e
variable {k:Int}
theorem Ir (l:List α) (p q:Nat):(l.drop (min p l.length)).take (min q l.length-min p l.length)=(l.take q).drop p:=by
 apply qt;intro i;rw[qS,oI,oI,qS];by_cases h1:p<=l.length
 ·rw[sF h1];by_cases h2:p+i<q
  ·rw[UQ h2];by_cases h3:p+i<l.length
   ·rw[UQ ⋯]
   ·rw[fA ⋯];split<;>rfl
  ·rw[T8 h2,T8 ⋯]
 ·have h3:l[p+i]? =none:=fA ⋯;rw[T8 ⋯,h3];split<;>rfl
theorem Ik (items:Array Value) (lo hi:Option Nat):(slicePick items (Fa lo) (Fa hi) none).toList=sliceOf items.toList (lo.getD 0) (hi.getD items.size):=by
 unfold slicePick sliceOf;rw[HV];simp only[sliceRange_one];have e1:((min (lo.getD 0) items.size:Nat):Int).toNat=min (lo.getD 0) items.size:=eD _
 have:=Ir items.toList (lo.getD 0) (hi.getD items.size)
 rw[hV] at this;rw[←this];simp only[pick_run]
def TI (g:Gd):AR->Heap->(V×V)->Value->Prop:=λρ h pq i=>∃sl xp xq,i= .ref sl/\h.IsSliceOf sl xp xq .none/\VR g ρ h pq.1 xp/\VR g ρ h pq.2 xq
theorem Py {o p q:V}{c:Nat}{H':Hp}(e:EG o p q H= .exc c H'):False:=by
 unfold EG at e
 repeat' (split at e)
 all_goals cases e
theorem Qu {o p q:V}{i:Value}(Q:AF g f ρ H loc s.heap) (ro:VR g ρ s.heap o x) (rs:TI g ρ s.heap (p,q) i):AE g f (BE g) ρ s ((EG o p q H).out loc) (subscriptTail value slice x i):=by
 intro ns;cases e:EG o p q H with
 |stuck=>rw [e] at ns;exact absurd rfl ns
 |exc c H'=>exact (Py e).elim
 |ok v H'=>
  clear ns;obtain⟨sl,xp,xq,rfl,hsl,rp,rq⟩:=rs;unfold EG at e;split at e
  ·cases e
  ·rename_i np hp;obtain⟨lo,pl,rfl⟩:=Jb rp hp;split at e
   ·rename_i l;unfold VR at ro;obtain⟨b,t,rfl,rfl,hz⟩:=ro;split at e
    ·rename_i nq hq;cases e;obtain⟨hi,pu,rfl⟩:=Es rq hq;rw[Cm];refine AL (Cu FB.slot_bytes_getitem.lookup (pj s b t) ?_);refine getItem_meets (pj _ _ _) ⋯ FB.slot_bytes_getitem FB.entry_bytes_getitem (FB.args_bytes_getitem_2 _ _) (KBc.meets_slice2 b t _ pl pu) ⟨hsl,?_,λt' k=>?_⟩
     ·have:=Bv b lo hi
      rw[il];unfold lid at hz;omega
     ·refine AT Q ?_;unfold BE VR;exact⟨_,t',rfl,Lc,lv (Bv b lo hi) hz⟩
    ·cases e
   ·rename_i l;unfold VR at ro;obtain⟨a,items,rfl,ht,hv,hz⟩:=ro;split at e
    ·rename_i k;split at e
     ·rename_i hc;cases e;obtain⟨t,rfl⟩:=Ab rp;unfold VR at rq;subst rq;have hn:items.size=l.length:=by rw[←hV];exact At hv
      have hk:k=((lo.getD 0:Nat):Int):=by
       have dN:(if 0<=k then some k.toNat else none)=some (lo.getD 0):=hp;split at dN
       ·rename_i h0
        have:=mM dN
        omega
       ·exact absurd dN (by simp)
      subst hk;refine AL (Cu PyProof.Rows.slot_tuple_getitem.lookup ht.typeIs ?_);refine PyProof.Rows.getItem_tuple_from ht hsl hc.1 (by rw[hn];exact hc.2) ?_ (by rw[il];omega);refine De (k:=s.toks) Q ?_;unfold BE VR;refine⟨_,_,rfl,⟨_,eQ _ rfl,rfl,_,rfl⟩,?_,by rw[qE];omega⟩;exact (Hv _ hv).mono (AI.of_keeps (Ak _)) (eC _)
     ·cases e
    ·cases e
   ·rename_i l;unfold VR at ro;obtain⟨a,items,rfl,ht,hv,hz⟩:=ro;have hL:s.heap.IsList a items:=let ⟨ob,h1,r⟩:=ht;⟨ob,Q.hr.base _ _ h1,r⟩;have hn:items.size=l.length:=by rw[←hV];exact At hv
    split at e
    ·rename_i nq hq;cases e;obtain⟨hi,pu,rfl⟩:=Es rq hq;refine AL (Cu PySem.slot_list_getitem.lookup hL.typeIs ?_);refine wpAny_getItem_list_slice hL hsl pl pu .none (by intro h;cases h) ?_ (by rw[il];omega);refine Dq (k:=s.toks) Q ⟨rfl,_,0,eQ _ rfl,?_,?_⟩
     ·rw[Ik,hn];unfold sliceOf;exact (Hv _ (LL _ hv)).mono (AI.of_keeps (Ak _)) (hW _ _)
     ·unfold sliceOf lid;rw[qE,rY];omega
    ·cases e
   ·rename_i a;unfold VR at ro;obtain⟨pp,hpp,rfl⟩:=ro;split at e
    ·rename_i l hl;obtain⟨p',dN,e0,b,h2,rfl,hz⟩:=Q.hr.rep.get hl;rw[hpp] at dN;cases dN;split at e
     ·rename_i nq hq;cases e;obtain⟨hi,pu,rfl⟩:=Es rq hq;rw[Cm];refine AL (Cu FA.Bq.lookup ⟨_,h2,rfl⟩ ?_);refine Gs h2 (by unfold lid at hz;omega) hsl pl pu ?_;refine Dq (k:=s.toks) Q ⟨rfl,_,eQ _ rfl,Lc,lv (Bv b lo hi) hz⟩
     ·cases e
    ·cases e
   ·cases e
theorem ME (x:Array Value->Array Value) (it:Array Value) (n:Nat):∃n',Obj.mapSeq x (W.listOf it n)=W.listOf (x it) n':=⟨_,rfl⟩
theorem Im {l:Addr}{items:Array Value}{t:Tok}{v:Value}{Q:Unit->Shared->Prop}(ho:s.heap.get? l=some (W.listOf items n)) (h0:0<=k) (hfit:k<2^63) (hn:k<items.size) (hQ:∀h' n',h'.get? l=some (W.listOf (items.setIfInBounds k.toNat v) n')->Heap.SameBut l s.heap h'->Q () {s with heap:=h'}):
  wpAny (model g.prog g.w) A (setItem (.ref l) (.int k t) v) Q E s:=by
 have hL:s.heap.IsList l items:=⟨_,ho,rfl,n,rfl⟩;refine ky (K3 (sx hL.typeIs ⋯ ?_));refine K3 (rO (name:=Str.ofString "__setitem__") hL.typeIs tQ
  (rA tQ hL.typeIs PySem.entry_list_setitem ?_ (PySem.args_list_setitem _ _ _)))
 show wpAny _ _ (Builtin.List.listSubscript? (.int k t)>>=_) _ _ s;refine K3 (wpAny_listSubscript_int (fitsIndex_of h0 hfit) ?_);clear hfit;obtain⟨j,rfl⟩:=mi h0;have hj:j<items.size:=by omega
 have hx':items[j]? =some items[j]:=Array.getElem?_eq_getElem hj;show wpAny _ _ ((seqItemAt l j>>=λr=>pure (r.map (j,·)))>>=_) _ _ s;refine K3 (K3 (wpAny_seqItemAt ho rfl (df ?_)));rw[hx'];show wpAny _ _ (setSeqItemAt l j v>>=_) _ _ s;obtain⟨n',hm⟩:=ME (·.setIfInBounds j v) items n;have dg:(s.heap.update l (Obj.mapSeq (·.setIfInBounds j v))).get? l=some (W.listOf (items.setIfInBounds j v) n'):=by
  rw[lx _ ho (by rw[hm];rfl),hm]
 refine K3 (wpAny_setSeqItemAt ho rfl ?_)
 first
  |exact K3 (df (df ⟨.none,rfl,df (hQ _ _ dg (pz ..))⟩))
  |exact df ⟨.none,rfl,df (hQ _ _ dg (pz ..))⟩
variable {h':Heap}{p:Addr×Addr}
theorem HG.keys {α:Type}{h:Heap}:∀{d:List (α×V)}{l:List (α×Value)},HG g ρ h d l->l.map (·.1)=d.map (·.1)
 |[],_,e=>by cases e;rfl
 |(_,_)::_,_,⟨x,t,e1,_,e3⟩=>by subst e1;simp [e3.keys]
theorem NX {α:Type} [DecidableEq α] {h:Heap}{k:α}{y:Value}:∀{d:List (α×V)}{l:List (α×Value)},HG g ρ h d l->k∉l.map (·.1)->HG g ρ h d (l.map λkv=>if kv.1=k then (kv.1,y) else kv)
 |[],_,e,_=>by cases e;rfl
 |(j,_)::_,_,⟨x,t,e1,e2,e3⟩,n=>by
  subst e1;simp only[ij,fg,not_or] at n;rw[ij,T8 (λq=>n.1 q.symm)];exact⟨x,_,rfl,e2,NX e3 n.2⟩
theorem Ka {α:Type} [DecidableEq α] {h:Heap}{k:α}{v:V}{y:Value}(rv:VR g ρ h v y) {put:List (α×V)->List (α×V)}(p0:put []=[(k,v)])
  (p1:∀j w r,put ((j,w)::r)=if j=k then (j,v)::r else (j,w)::put r):∀{d:List (α×V)}{l:List (α×Value)},HG g ρ h d l->(l.map (·.1)).Nodup->HG g ρ h (put d) (stored l k y)
 |[],_,e,_=>by cases e;rw[p0];exact⟨y,[],by simp [stored],rv,rfl⟩
 |(j,w)::r,_,⟨x,t,e1,e2,e3⟩,nd=>by
  subst e1;rw[p1];simp only[ij,gl] at nd;unfold stored;by_cases hj:j=k
  ·subst hj;rw[UQ rfl,UQ (by simp),ij,UQ rfl];exact⟨y,_,rfl,rv,NX e3 nd.1⟩
  ·rw[T8 hj];have ih:=Ka rv p0 p1 e3 nd.2;unfold stored at ih;have e:(List.any ((j,x)::t) λkv=>decide (kv.1=k))=t.any λkv=>decide (kv.1=k):=by
    rw[qa];simp [hj]
   rw[e];split
   ·rename_i hh;rw[UQ hh] at ih;rw[ij,T8 hj];exact⟨x,_,rfl,e2,ih⟩
   ·rename_i hh;rw[T8 hh] at ih;exact⟨x,_,rfl,e2,ih⟩
theorem HG.len {d:List (α×V)}{l:List (α×Value)}(r:HG g ρ h d l):l.length=d.length:=by
 have:=rG List.length r.keys;simpa using this
theorem Nm {h:Heap}{k:Int}:∀{d:List (Int×V)}{l:List (Int×Value)},HG g ρ h d l->(l.map (·.1)).Nodup->HG g ρ h (Cw k d) (without l k)
 |[],_,e,_=>by cases e;rfl
 |(j,w)::r,_,⟨x,t,e1,e2,e3⟩,nd=>by
  subst e1;simp only[ij,gl] at nd;unfold Cw without;by_cases hj:j=k
  ·subst hj;rw[UQ rfl,rB,T8 (by simp)]
   have:t.filter (λkv=>decide (kv.1≠j))=t:=uF.mpr λkv hk=>by
    simp only[ip];intro q;exact nd.1 (q▸eJ.mpr ⟨kv,hk,rfl⟩)
   rw[this];exact e3
  ·rw[T8 hj,rB,UQ (by simpa using hj)];exact⟨x,_,rfl,e2,Nm e3 nd.2⟩
theorem LA {α:Type}{k:Int}{v:α}:∀{d:List (Int×α)},(Ar k v d).length<=d.length+1
 |[]=>by simp [Ar]
 |(j,w)::r=>by
  unfold Ar;split
  ·simp
  ·have:=LA (k:=k) (v:=v) (d:=r);simp;omega
theorem L8 {α:Type}{k:Int}:∀{d:List (Int×α)},(Cw k d).length<=d.length
 |[]=>by simp [Cw]
 |(j,w)::r=>by
  unfold Cw;split
  ·simp
  ·have:=L8 (k:=k) (d:=r);simp;omega
theorem Fo {K:Type} [DecidableEq K] {knd:KeyKind g.prog g.w K}{h:Heap}{a:Addr}{kvs:List (K×Value)}(d:h.DictOf knd a kvs):(kvs.map (·.1)).Nodup:=let ⟨_,_,_,_,_,_,_,_,n⟩:=d;n
theorem changed {o o':O}{k:Nat}(Q:AF g f ρ H loc s.heap) (hp:ρ[i]? =some p) (hi:H[i]? =some o) (sb:Heap.SameBut p.1 s.heap h') (x:AI s.heap h'->By g ρ h' o' p):Step g f.fr [f.L] ρ s ρ {s with heap:=h',toks:=k}/\AF g f ρ (H.set i o') loc h':=by
 have ni:=(Q.hr.rep.obj i o p hi hp).EK;have ik:AI s.heap h':=λb o e im=>sb.extBut b o (λq=>by subst q;exact ni.1 o e im) e;exact⟨Step.set (t:=k) Q.hr hp (λb o n1 _ e=>sb.extBut b o n1 e) (x ik),Q.set hp ⟨_,hi⟩ (λb o n1 _ e=>sb.extBut b o n1 e) (x ik)⟩
theorem F4 {x:Int}(h:A9 x=true):0<=x/\x<256:=by
 unfold A9 at h;simpa using h
theorem Rm {k j:Str}{v w:α}{r:List (Str×α)}:pt k v ((j,w)::r)=if j=k then (j,v)::r else (j,w)::pt k v r:=by
 rw[pt];by_cases hh:k=j
 ·rw[UQ hh,UQ hh.symm]
 ·rw[T8 hh,T8 (λq=>hh q.symm)]
theorem RZ {o i:V}{z:Value}{H':Hp}(Q:AF g f ρ H loc s.heap) (ro:VR g ρ s.heap o x) (ri:VR g ρ s.heap i y) (rv:VR g ρ s.heap v z) (e:Go o i v H=some H'):
  wpAny (model g.prog g.w) A (setItem x y z) (λ_ s'=>Step g f.fr [f.L] ρ s ρ s'/\AF g f ρ H' loc s'.heap) E s:=by
 unfold Go at e;split at e
 ·rename_i a;unfold VR at ro;obtain⟨p,hp,rfl⟩:=ro;split at e
  ·rename_i l k n hl;split at e
   ·rename_i hc;cases e;obtain⟨p',dN,e0,b,h1,rfl,hz⟩:=Q.hr.rep.get hl;rw[hp] at dN;cases dN;obtain⟨t,rfl⟩:=Ab ri;obtain⟨u,rfl⟩:=Ab rv;have hb:=F4 hc.2.2;rw[Cm] at hc;refine MK h1 (by unfold lid at hz;omega) hc.1 hc.2.1 hb.1 hb.2 λh' h2 sb=>?_;exact changed Q hp hl sb λik=>⟨e0,_,h2,VC hb.1 hb.2,by rw[tE];exact hz⟩
   ·cases e
  ·rename_i w l k hl;split at e
   ·rename_i hc;cases e;obtain⟨p',dN,e0,it,m,h1,hv,hz⟩:=Q.hr.rep.get hl;rw[hp] at dN;cases dN;obtain⟨t,rfl⟩:=Ab ri;have hn:it.size=l.length:=by rw[←hV];exact At hv
    refine Im h1 hc.1 (by unfold lid at hz;omega) ⋯ λh' n' h2 sb=>?_;refine changed Q hp hl sb λik=>⟨e0,_,n',h2,?_,by rw[nw];exact hz⟩;rw[sV];exact (ND rv _ hv).mono ik (eC _)
   ·cases e
  ·rename_i w d k hl;split at e
   ·rename_i hc;cases e;obtain⟨p',dN,e0,kvs,h1,hv,hz⟩:=Q.hr.rep.get hl;rw[hp] at dN;cases dN;obtain⟨t,rfl⟩:=Ab ri;refine wpAny_setItem_pairs Gn h1 (λh' h2 sb=>?_) (by rw[hv.len,il];unfold lid at hz;omega);refine changed Q hp hl sb λik=>⟨e0,_,h2,?_,?_⟩
    ·exact (Ka (put:=Ar k _) rv rfl (λj w r=>by rw[Ar]) hv (Fo h1)).mono ik (eC _)
    ·refine lv LA ?_;omega
   ·cases e
  ·rename_i w d k hl;split at e
   ·rename_i hc;cases e;obtain⟨p',dN,e0,kvs,h1,hv,hz⟩:=Q.hr.rep.get hl;rw[hp] at dN;cases dN;unfold VR at ri;obtain⟨t,rfl⟩:=ri;refine wpAny_setItem_pairs M6 h1 (λh' h2 sb=>?_) (by rw[hv.len,il];unfold lid at hz;omega);refine changed Q hp hl sb λik=>⟨e0,_,h2,?_,?_⟩
    ·exact (Ka (put:=pt k _) rv rfl (λj w r=>Rm) hv (Fo h1)).mono ik (eC _)
    ·rw[Kf.2 hc];exact hz
   ·cases e
  ·cases e
 ·cases e
theorem mapSeq_erase (it:Array Value) (n k:Nat):∃n',Obj.mapSeq (λxs=>xs.eraseIdxIfInBounds k) (W.listOf it n)=W.listOf (it.eraseIdxIfInBounds k) n':=⟨_,rfl⟩
theorem Rw {o i:V}{H':Hp}(Q:AF g f ρ H loc s.heap) (ro:VR g ρ s.heap o x) (ri:VR g ρ s.heap i y) (e:Iy o i H=some H'):
  wpAny (model g.prog g.w) A (delItem x y) (λ_ s'=>Step g f.fr [f.L] ρ s ρ s'/\AF g f ρ H' loc s'.heap) E s:=by
 unfold Iy at e;split at e
 ·rename_i a i';unfold VR at ro;obtain⟨p,hp,rfl⟩:=ro;split at e
  ·rename_i l k hl;split at e
   ·rename_i hc;cases e;obtain⟨p',dN,e0,it,m,h1,hv,hz⟩:=Q.hr.rep.get hl;rw[hp] at dN;cases dN;obtain⟨t,rfl⟩:=Ab ri;have hn:it.size=l.length:=by rw[←hV];exact At hv
    obtain⟨n',hm⟩:=mapSeq_erase it m k.toNat;refine PySem.P.delItem_list (n:=m) h1 (fitsIndex_of hc.1 (by unfold lid at hz;omega)) (DS hc.1 ⋯) ?_ (by rw[il];unfold lid at hz;omega);refine changed (k:=s.toks) Q hp hl (pz ..) λik=>⟨e0,_,n',by rw[lx _ h1 (by rw[hm];rfl),hm],?_,?_⟩
    ·have e2:(it.eraseIdxIfInBounds k.toNat).toList=it.toList.eraseIdx k.toNat:=by simp
     rw[e2];exact (Gl _ hv).mono ik (eC _)
    ·have:=tR l k.toNat
     omega
   ·cases e
  ·rename_i d k hl;split at e
   ·rename_i hc;cases e;obtain⟨p',dN,e0,kvs,h1,hv,hz⟩:=Q.hr.rep.get hl;rw[hp] at dN;cases dN;obtain⟨t,rfl⟩:=Ab ri;have hl':(valueAt kvs k).isSome=true:=by
     rcases hv.Bm (k:=k) with ⟨a1,_⟩|⟨v',x',a1,a2,a3⟩
     ·rw[a1] at hc;cases hc
     ·rw[a2];rfl
    refine wpAny_delItem_slot h1.typeIs ⋯ sh (uN sh h1.typeIs PySem.F.entry_dict_delitem (PySem.F.args_dict_delitem_2 _ _) (meets_dict_delitem_pairs _ _ Gn)
     ⟨kvs,h1,by rw[hv.len,il];unfold lid at hz;omega,hl',λh' h2 sb=>?_⟩)
    refine changed Q hp hl sb λik=>⟨e0,_,h2,(Nm hv (Fo h1)).mono ik (eC _),lv L8 hz⟩
   ·cases e
  ·cases e
 ·cases e
variable {it:Array Value}{l vs:List V}{nm:String}{xs:List Value}
theorem CS {a:α}{b:β}{k:Nat}(Q:AF g f ρ H loc s.heap) (kp:∀b o,s.heap.get? b=some o->h'.get? b=some o) (r:R ρ h' a b):A0 g f R ρ s (.ok a loc H) b {s with heap:=h',toks:=k}:=
 ⟨a,loc,H,ρ,rfl,Step.keeps kp,Q.keeps kp,r⟩
theorem CU {o:O}{n:Addr}{k:Nat}(Q:AF g f ρ H loc s.heap) (kp:∀b o,s.heap.get? b=some o->h'.get? b=some o) (hn:s.heap.get? n=none) (x:By g (ρ++[(n,n)]) h' o (n,n)):
  A0 g f (BE g) ρ s (.ok (.ref H.length) loc (H++[o])) (.ref n) {s with heap:=h',toks:=k}:=
 ⟨_,loc,_,_,rfl,Step.alloc kp hn hn,Q.alloc kp hn hn x,by
  unfold BE VR;exact⟨(n,n),by rw[←Q.hr.rep.len,mA (ix _)];simp,rfl⟩⟩
theorem L7:∀(l m:List Int),Fm (l++m)=Fm l+Fm m
 |[],m=>by simp [Fm]
 |a::l,m=>by simp only[oP,Fm,L7 l m];omega
theorem G7 (l:List (Int×Tok)):∀k,k<=l.length->preSum (numAt l.toArray) k=Fm ((l.map (·.1)).take k)
 |0,_=>by simp [preSum,Fm]
 |k+1,h=>by
  have hk:k<l.length:=h;rw[preSum,G7 l k ⋯,qr,L7];have e:numAt l.toArray k=(l[k]).1:=by
   unfold numAt;simp [hk]
  rw[e];simp [hk,Fm]
theorem D3 {h:Heap}:∀{l:List V}{xs:List Value}{ms:List Int},Bt l=some ms->Aa g ρ h l xs->∃ps:List (Int×Tok),xs=ps.map (λp=>Value.int p.1 p.2)/\ps.map (·.1)=ms
 |[],_,ms,e,r=>by
  unfold Aa at r;subst r;unfold Bt at e;cases e;exact⟨[],rfl,rfl⟩
 |v::l,_,ms,e,r=>by
  unfold Aa at r;obtain⟨x,t,rfl,h1,h2⟩:=r;cases v<;>unfold Bt at e<;>try (cases e;done)
  rename_i i;obtain⟨m,e1,rfl⟩:=dy.mp e;obtain⟨ps,rfl,rfl⟩:=D3 e1 h2;obtain⟨u,rfl⟩:=Ab h1;exact⟨(i,u)::ps,rfl,rfl⟩
theorem intsAre_of {ps:List (Int×Tok)}:IntsAre (ps.map λp=>Value.int p.1 p.2) (ps.map (·.1)):=by
 induction ps with
 |nil=>exact .nil
 |cons p r ih=>exact .cons _ _ ih
theorem Dg (r:Aa g ρ h l it.toList) (hz:l.length<=lid):it.size=l.length/\(it.size:Int)<2^63:=by
 have e:it.size=l.length:=by rw[←hV];exact At r
 exact⟨e,by unfold lid at hz;omega⟩
theorem Ro (G:C2 g) (Q:AF g f ρ H loc s.heap) (r:VR g ρ s.heap v x):AE g f (BE g) ρ s ((Res.some H ((Iq v H).map V.int)).out loc) (PySem.call (.builtin "len") [x]):=by
 cases e:Iq v H with
 |none=>exact AE.stuck
 |some n=>
  intro _;refine AL ?_;have fin:∀{k:Nat}{t u:Nat},(k:Int)=n->A0 g f (BE g) ρ s (.ok (.int n) loc H) (.int k t) {s with toks:=u}:=λe=>by
   subst e;exact AT Q Ah
  unfold Iq at e;split at e
  ·unfold VR at r;obtain⟨b,t,rfl,rfl,hz⟩:=r;exact PySem.W.len_bytes (by unfold lid at hz;omega) (fin (by rw[←mM e,Cm]))
  ·unfold VR at r;obtain⟨a,items,rfl,ht,hv,hz⟩:=r;have hl:=Dg hv (lv hz (by unfold lid;omega));exact PyProof.Rows.len_tuple ht hl.2 (fin (by rw[←mM e,hl.1]))
  ·unfold VR at r;obtain⟨a,items,rfl,⟨o,h1,h2⟩,hv,hz⟩:=r;have hl:=Dg hv (lv hz (by unfold lid;omega));exact call_len_list ⟨o,Q.hr.base _ _ h1,h2⟩ hl.2 (fin (by rw[←mM e,hl.1]))
  ·unfold VR at r;obtain⟨a,o,es,ep,t,rfl,h1,h2,h3,h4,h5,h6,h7⟩:=r;exact call_len_set h1 h2 h3 h5 (by rw[h4];unfold lid at h7;omega) (fin (by rw[←mM e,h4]))
  ·unfold VR at r;obtain⟨p,hp,rfl⟩:=r;split at e
   ·rename_i l hl;obtain⟨p',dN,e0,it,m,h1,hv,hz⟩:=Q.hr.rep.get hl;rw[hp] at dN;cases dN;have hl:=Dg hv hz;exact call_len_list ⟨_,h1,rfl,m,rfl⟩ hl.2 (fin (by rw[←mM e,hl.1]))
   ·rename_i l hl;obtain⟨p',dN,e0,b,h1,rfl,hz⟩:=Q.hr.rep.get hl;rw[hp] at dN;cases dN;exact UH h1 (by unfold lid at hz;omega) (fin (by rw[←mM e,Cm]))
   ·cases e
  ·cases e
theorem Mc (G:C2 g) (hh:f.A.handled=none) (Q:AF g f ρ H loc s.heap) (r:Aa g ρ s.heap vs xs):AE g f (BE g) ρ s ((Res.some H (C7 nm vs H)).out loc) (PySem.call (.builtin nm) xs):=by
 cases e:C7 nm vs H with
 |none=>exact AE.stuck
 |some v=>
  unfold C7 at e;split at e
  ·rename_i v0;unfold Aa at r;obtain⟨x,t,rfl,h1,h2⟩:=r;unfold Aa at h2;subst h2;split at e
   ·rename_i hn;subst hn
    have:=Ro G Q h1
    rw[e] at this;exact this
   ·split at e
    ·rename_i hn;subst hn;split at e
     ·rename_i i;cases e;obtain⟨t,rfl⟩:=Ab h1;intro _;refine AL (call_abs_int λu k=>AT Q ?_)
      have:(if i<0 then -i else i)=(i.natAbs:Int):=by split<;>omega
      rw[this];exact Ah
     ·cases e
    ·split at e
     ·rename_i hn;subst hn;obtain⟨ms,e1,rfl⟩:=dy.mp e;obtain⟨l,e2,e3⟩:=tS.mp e1;obtain⟨a,items,rfl,hL,hv,hz⟩:=FL Q.hr h1 e2;obtain⟨ps,h3,rfl⟩:=D3 e3 hv;intro _;have hi:items=intItems ps.toArray:=by
       apply Array.ext';rw[h3];unfold intItems;simp
      rw[hi] at hL;refine AL (sum_intListG hh hL λh' tk t' kp=>CS Q kp ?_);have e4:preSum (numAt ps.toArray) ps.toArray.size=Fm (ps.map (·.1)):=by
       have:=G7 ps ps.length (ix _)
       rw[qO (by simp)] at this;simpa using this
      rw[e4];exact Ah
     ·cases e
  ·rename_i a b;unfold Aa at r;obtain⟨x,t,rfl,h1,h2⟩:=r;unfold Aa at h2;obtain⟨y,t,rfl,h3,h4⟩:=h2;unfold Aa at h4;subst h4;obtain⟨ta,rfl⟩:=Ab h1;obtain⟨tb,rfl⟩:=Ab h3;intro _;split at e
   ·rename_i hn;subst hn;cases e;refine AL (min_two_ints hh λh' tk kp=>CS Q kp ?_);split<;>exact Ah
   ·split at e
    ·rename_i hn;subst hn;cases e;refine AL (max_two_ints hh λh' tk kp=>CS Q kp ?_);by_cases hab:a<b
     ·rw[UQ hab,UQ (show b>a from hab)];exact Ah
     ·rw[T8 hab,T8 (show ¬b>a from hab)];exact Ah
    ·cases e
  ·rename_i i ty;unfold Aa at r;obtain⟨x,t,rfl,h1,h2⟩:=r;unfold Aa at h2;obtain⟨y,t,rfl,h3,h4⟩:=h2;unfold Aa at h4;subst h4;obtain⟨ta,rfl⟩:=Ab h1;unfold VR at h3;subst h3;split at e
   ·rename_i hn;obtain⟨hn1,hn2⟩:=hn;subst hn1 hn2;cases e;intro _;exact AL (call_isinstance_yes (sP s i ta) (by kernel_rfl) (by rw[pf];kernel_rfl) (AT (k:=s.toks) Q D9))
   ·cases e
  ·cases e
theorem Np {h:Heap}:∀(n:Nat) (a:Int) (l:List Value),l.length=n->(∀(j:Nat) (v:Value),l[j]? =some v->∃t,v=Value.int (a+(j:Int)*1) t)->Aa g ρ h (Hk a n) l
 |0,_,l,e,_=>by
  have:l=[]:=pA.mp e
  subst this;unfold Hk Aa;rfl
 |n+1,a,[],e,_=>by cases e
 |n+1,a,v::l,e,k=>by
  unfold Hk Aa;obtain⟨t,rfl⟩:=k 0 v rfl;refine⟨_,l,rfl,by unfold VR;exact⟨t,by simp⟩,Np n (a+1) l (by simpa using e) λj v hj=>?_⟩;obtain⟨t,rfl⟩:=k (j+1) v hj;exact⟨t,by congr 1;push_cast;omega⟩
theorem Mb {ns:List Int}(h:∀n∈ns,0<=n/\n<256):bl (byteArr ns)=ns:=by
 unfold bl byteArr;rw[qb,qI]
 conv=>rhs;rw[←List.map_id ns]
 refine List.map_congr_left λn hn=>?_;have hr:=h n hn;have hx:n.toNat<256:=by omega
 show ((UInt8.ofNat n.toNat).toNat:Int)=n
 have:(UInt8.ofNat n.toNat).toNat=n.toNat:=tF hx
 rw[this];omega
theorem Ls (n:Nat):bl (Array.replicate n 0)=List.replicate n 0:=by
 unfold bl
 simp
theorem log2_small {n:Int}(h:n.natAbs<1000000000):n.natAbs.log2<1920:=by
 by_cases h0:n.natAbs=0
 ·rw[h0];decide
 ·have:n.natAbs.log2<30:=(Nat.log2_lt h0).mpr ⋯
  omega
theorem My (G:C2 g) (hns:nm≠"set") (hh:f.A.handled=none) (hg:f.A.guards=some []) (Q:AF g f ρ H loc s.heap) (r:Aa g ρ s.heap vs xs):
  AE g f (BE g) ρ s ((Ap nm vs H).out loc) (PySem.call (.type nm) xs):=by
 intro ns;have dM:∀{P:Prop},((Res.stuck:Res V).out loc=Out.stuck->False)->P:=λh=>(h rfl).elim;unfold Ap at ns ⊢;split at ns
 ·unfold Aa at r;subst r;split at ns
  ·rename_i hn;subst hn
   try dsimp only
   rw[UQ rfl];exact RK hg λh' e1 kp _=>CU (k:=s.toks) Q kp (As _) ⟨rfl,_,e1,rfl,el _⟩
  ·exact dM ns
 ·rename_i n;unfold Aa at r;obtain⟨x,t,rfl,h1,h2⟩:=r;unfold Aa at h2;subst h2;obtain⟨tk,rfl⟩:=Ab h1
  try dsimp only
  split at ns
  ·rename_i hn;subst hn;rw[UQ rfl];split at ns
   ·rename_i hc;rw[UQ hc];refine AL (Hs hc.1 hc.2 λt k=>AT Q ?_);unfold BE VR;exact⟨_,t,rfl,Ls _,by simp;unfold lid;omega⟩
   ·exact dM ns
  ·rename_i n1;rw[T8 n1];split at ns
   ·rename_i hn;subst hn;rw[UQ rfl];split at ns
    ·rename_i hc;rw[UQ hc];exact LZ hg hc.1 hc.2 λh' e1 kp _=>CU (k:=s.toks) Q kp (As _) ⟨rfl,_,e1,Ls _,by simp;unfold lid;omega⟩
    ·exact dM ns
   ·rename_i n2;rw[T8 n2];split at ns
    ·rename_i hn;subst hn;rw[UQ rfl];split at ns
     ·rename_i hc;rw[UQ hc];refine AL (call_range_1 (De Q ?_));unfold BE VR;exact⟨⟨_,_,_,_,rfl,eQ _ rfl⟩,by unfold lid;decide,hc⟩
     ·exact dM ns
    ·rename_i n3;rw[T8 n3];split at ns
     ·rename_i hn;subst hn;rw[UQ rfl];split at ns
      ·rename_i hc;rw[UQ hc];refine AL (PySem.P.str_of_int (log2_small hc) (AT Q ?_));unfold BE VR;exact⟨_,rfl⟩
      ·exact dM ns
     ·exact dM ns
 ·rename_i b;unfold Aa at r;obtain⟨x,t,rfl,h1,h2⟩:=r;unfold Aa at h2;subst h2;unfold VR at h1;subst h1
  try dsimp only
  split at ns
  ·rename_i hn;subst hn;rw[UQ rfl];exact AL (PySem.call_int_bool (AT Q Ah))
  ·exact dM ns
 ·rename_i a b;unfold Aa at r;obtain⟨x,t,rfl,h1,h2⟩:=r;unfold Aa at h2;obtain⟨y,t,rfl,h3,h4⟩:=h2;unfold Aa at h4;subst h4;obtain⟨ta,rfl⟩:=Ab h1;obtain⟨tb,rfl⟩:=Ab h3
  try dsimp only
  split at ns
  ·rename_i hc;rw[UQ hc];obtain⟨rfl,h5,h6⟩:=hc;refine AL (call_range_2 (De Q ?_));unfold BE VR;exact⟨⟨_,_,_,_,rfl,eQ _ rfl⟩,h5,h6⟩
  ·exact dM ns
 ·rename_i l;unfold Aa at r;obtain⟨x,t,rfl,h1,h2⟩:=r;unfold Aa at h2;subst h2;have ic:=h1;unfold VR at h1;obtain⟨b,tk,rfl,hb,hz⟩:=h1
  try dsimp only
  split at ns
  ·rename_i hn;subst hn;rw[UQ rfl];exact AL (Gv (AT (k:=s.toks) Q ic))
  ·rename_i n1;rw[T8 n1];split at ns
   ·rename_i hn;subst hn;rw[UQ rfl];exact E2 hg (by rw[il];unfold lid at hz;omega) λh' e1 kp _=>CU (k:=s.toks) Q kp (As _) ⟨rfl,_,e1,hb,hz⟩
   ·exact dM ns
 ·rename_i a b;unfold Aa at r;obtain⟨x,t,rfl,h1,h2⟩:=r;unfold Aa at h2;subst h2;unfold VR at h1;obtain⟨⟨rr,t1,t2,t3,rfl,hr⟩,ha,hb⟩:=h1
  try dsimp only
  split at ns
  ·rename_i hc;rw[UQ hc];obtain⟨rfl,hz⟩:=hc;have hn:Builtin.Range.rangeSize a b 1=((b-a).toNat:Int):=by rw[tG];split<;>omega
   refine AL (call_list_range hh hr (small_one (by unfold lid at ha;omega) (by unfold lid at ha;omega) (by unfold lid at hb;omega) (by unfold lid at hb;omega)) hn (by unfold lid at hz;omega) λh' tk acc c kp e1 it=>?_);refine CU Q kp (As _) ⟨rfl,acc,c,e1,?_,?_⟩
   ·exact Np _ _ _ (by rw[hV];exact it.1) λj v hj=>it.2 j v (by simpa using hj)
   ·have:∀n (a:Int),(Hk a n).length=n:=by
     intro n
     induction n with
     |zero=>intro a;rfl
     |succ n ih=>intro a;unfold Hk;simp [ih]
    rw[this];exact hz
  ·exact dM ns
 ·rename_i p0;unfold Aa at r;obtain⟨x,t,rfl,h1,h2⟩:=r;unfold Aa at h2;subst h2;unfold VR at h1;obtain⟨p,hp,rfl⟩:=h1
  try dsimp only
  split at ns
  ·rename_i l hl
   try rw[hl]
   obtain⟨p',dN,e0,it,m,h1,hv,hz⟩:=Q.hr.rep.get hl;rw[hp] at dN;cases dN;have hfit:=Dg hv hz
   try dsimp only
   split at ns
   ·rename_i hn;subst hn;rw[UQ rfl];refine AL (call_list_seq p.1 (.inl rfl) h1 rfl rfl (λh' c kp e1=>?_) (by rw[hfit.1,il];unfold lid at hz;omega));exact CU (k:=s.toks) Q kp (As _) ⟨rfl,it,c,e1,hv.mono (AI.of_keeps kp) (hW _ _),hz⟩
   ·rename_i n1;rw[T8 n1];split at ns
    ·rename_i hn;subst hn;rw[UQ rfl];split at ns
     ·rename_i ms hm
      try rw[hm]
      try dsimp only
      split at ns
      ·rename_i hc;rw[UQ hc];obtain⟨ps,h3,rfl⟩:=D3 hm hv;have hr:∀n∈ps.map (·.1),0<=n/\n<256:=λn hn=>F4 (jU.mp hc n hn);have hlen:ps.length=l.length:=by
        have:=rG List.length h3
        rw[At hv] at this;simpa using this.symm
       have hL:s.heap.IsList p.1 (ps.map λq=>Value.int q.1 q.2).toArray:=⟨_,h1,rfl,m,by rw[←h3,rz]⟩;refine AL (call_bytes_ints hL intsAre_of hr (by simp [il];unfold lid at hz;omega) hh λh' t k kp=>CS Q kp ?_);unfold BE VR;exact⟨_,t,rfl,Mb hr,by rw[byteArr_size];simp;omega⟩
      ·exact dM ns
     ·exact dM ns
    ·rename_i n2;rw[T8 n2,T8 hns] at*;exact dM ns
  ·rename_i l hl
   try rw[hl]
   obtain⟨p',dN,e0,b,h1,hb,hz⟩:=Q.hr.rep.get hl;rw[hp] at dN;cases dN
   try dsimp only
   split at ns
   ·rename_i hn;subst hn;rw[UQ rfl];refine AL (Iw h1 (by rw[il];unfold lid at hz;omega) λt k=>AT Q ?_);unfold BE VR;exact⟨b,t,rfl,hb,hz⟩
   ·exact dM ns
  ·rename_i d hd
   try rw[hd]
   obtain⟨p',dN,e0,kvs,h1,hv,hz⟩:=Q.hr.rep.get hd;rw[hp] at dN;cases dN
   try dsimp only
   split at ns
   ·rename_i hn;subst hn;rw[UQ rfl];refine AL (kt_call_dict (KC e0) h1 (by rw[hv.len,il];unfold lid at hz;omega) λh' e1 sb=>?_);have kp:=(DE sb).1;exact CU (k:=s.toks) Q kp (As _) ⟨⟨rfl,G.room Q.hr.base⟩,kvs,e1,hv.mono (AI.of_keeps kp) (hW _ _),hz⟩
   ·exact dM ns
  ·exact dM ns
 ·exact dM ns
theorem OC {a:Nat}(h:Cs H a=true):∃fs,H[a]? =some (.inst 29 fs):=by
 unfold Cs at h;split at h
 ·rename_i fs e;exact⟨fs,e⟩
 ·cases h
theorem Ny (G:C2 g) (R:BJ g fr ρ H s.heap) (hp:ρ[i]? =some p) (hb:Cs H i=true):s.heap.CmpInst p.1 (g.ca 29) [.type "object"]:=by
 obtain⟨fs,hH⟩:=OC hb;obtain⟨p',dN,_,sl,es,n,h1,h2,_⟩:=R.rep.get hH;rw[hp] at dN;cases dN;obtain⟨N,mN,cl,he,hn⟩:=G.buf.keeps R.base;obtain⟨nm,q,bs,sn,sub,col,dd,k0,k1,k2,k3,k5,hC⟩:=cl.obj;exact⟨_,nm,q,N,bs,true,sn,sub,false,col,dd,k0,k1,k2,k3,k5,"object.__new__",mN,h1,rfl,hC,cl.ns,he,hn⟩
theorem HW (G:C2 g) (hu:A.units<cLine) (R:BJ g fr ρ H s.heap){j:Nat}{q:Addr×Addr}(hp:ρ[i]? =some p) (hq:ρ[j]? =some q) (hi:Cs H i=true) (hj:Cs H j=true){Q:Bool->Shared->Prop}(h:Q (decide (i=j)) s):
  wpAny (model g.prog g.w) A (eqBool (.ref p.1) (.ref q.1)) Q E s:=by
 unfold eqBool;refine ky ?_;by_cases hij:i=j
 ·subst hij;rw[hp] at hq;cases hq;rw[UQ (by simp)];refine K3 (sU (df ?_));simpa using h
 ·have hne:=(Ic R.rep.apart hp hq hij).1;rw[T8 (by simpa using hne)];dsimp only;have hc:wpAny (model g.prog g.w) A (compareOp .Eq (.ref p.1) (.ref q.1)) (λv s'=>v= .bool false/\s'=s) E s:=by
   obtain⟨hh,gg,d,t,os⟩:=s;exact compareOp_eq_other PySem.F.cmp_object PySem.F.cmp_object (Ny (s:=⟨hh,gg,d,t,os⟩) G R hp hi) (Ny (s:=⟨hh,gg,d,t,os⟩) G R hq hj) hne hu ⟨rfl,rfl⟩
  have hc':wpAny (model g.prog g.w) A (richCompare .Eq (.ref p.1) (.ref q.1)) (λv s'=>v= .bool false/\s'=s) E s:=hc;refine K3 (jV hc' (λv s' e=>?_) λ_ _ q=>q);obtain⟨rfl,rfl⟩:=e;have hd:decide (i=j)=false:=by simpa using hij
  rw[hd] at h;exact df h
theorem L6:∀{l l':List V}{b:Nat},CB H b l=some l'->∃j,j<l.length/\l[j]? =some (.ref b)/\l'=l.eraseIdx j/\∀m,m<j->∃a,l[m]? =some (.ref a)/\a≠b/\Cs H a=true
 |[],_,_,h=>by unfold CB at h;cases h
 |v::l,l',b,h=>by
  cases v<;>unfold CB at h<;>try (cases h;done)
  rename_i a;split at h
  ·rename_i hab;cases h;subst hab;exact⟨0,by simp,by simp,by simp,λm hm=>absurd hm (sG _)⟩
  ·rename_i hab;split at h
   ·rename_i hb;obtain⟨t,h1,rfl⟩:=dy.mp h;obtain⟨j,h2,h3,h4,h5⟩:=L6 h1;refine⟨j+1,by simpa using h2,by simpa using h3,by simp [h4],λm hm=>?_⟩;cases m with
    |zero=>exact ⟨a,by simp,hab,hb⟩
    |succ m=>simpa using h5 m ⋯
   ·cases h
theorem N5 (it:Array Value) (i:Nat):(it.eraseIdxIfInBounds i).size<=it.size:=by
 unfold Array.eraseIdxIfInBounds;split<;>simp
theorem KT (G:C2 g) (hu:A.units+1<cLine){q:Addr×Addr}{b:Nat}{j:Nat}{R':Result->Shared->Prop}(Q:BJ g fr ρ H s.heap) (hq:ρ[b]? =some q) (hb:Cs H b=true) (h1:s.heap.get? p.1=some (W.listOf it n)) (hv:Aa g ρ s.heap l it.toList) (hz:it.size<=sizeLine) (hj:l[j]? =some (.ref b)) (hno:∀m,m<j->∃a,l[m]? =some (.ref a)/\a≠b/\Cs H a=true) (h:R' (.ok (.ret .none)) {s with heap:=s.heap.update p.1 (Obj.mapSeq λxs=>xs.eraseIdxIfInBounds j)}):
  ∀k i:Nat,j-i=k->i<=j->codeAny (model g.prog g.w) A (.builtin "list.remove.loop" ⟨[.ref p.1,.ref q.1,rawInt i],[]⟩) R' s:=by
 have jl:j<it.size:=by
  have:=(dt.mp hj).1
  rw[←hV,At hv];exact this
 have item:∀{m a:Nat},l[m]? =some (.ref a)->∃r,ρ[a]? =some r/\it[m]? =some (.ref r.1):=λe=>by
  obtain⟨x,e1,e2⟩:=D2 hv e;unfold VR at e2;obtain⟨r,e3,rfl⟩:=e2;exact⟨r,e3,by simpa using e1⟩
 intro k
 induction k with
 |zero=>
  intro i hk hij;have iu:i=j:=by omega
  subst iu;refine ql rU ?_;rw[pE pv _];obtain⟨r,e1,e2⟩:=item hj;rw[hq] at e1;cases e1;unfold Builtin.«list.remove.loop»;dsimp only;obtain⟨hp,gg,d,tk,os⟩:=s
  wp_walk using to h1
  have hi:it[((i:Nat):Int).toNat]? =some (.ref q.1):=by simpa using e2
  rw[hi];refine K3 (HW (s:=⟨hp,gg,d,tk,os⟩) G hu Q hq hq hb hb ?_)
  have:decide (b=b)=true:=by simp
  rw[this];have hz':(it.eraseIdxIfInBounds i).size<=sizeLine+1:=lv (N5 it _) (Nat.le_succ_of_le hz)
  wp_walk using (wpAny_updateSeq h1 rfl (hz:=hz) (_hz':=hz')),to h1
  simpa using h
 |succ k ih=>
  intro i hk hij;have hlt:i<j:=by omega
  obtain⟨a,e0,e3,e4⟩:=hno i hlt;obtain⟨r,e1,e2⟩:=item e0;refine ql rU ?_;rw[pE pv _];have ih':=ih (i+1) ⋯ hlt;unfold Builtin.«list.remove.loop»;dsimp only;obtain⟨hp,gg,d,tk,os⟩:=s
  wp_walk using to h1
  have hi:it[((i:Nat):Int).toNat]? =some (.ref r.1):=by simpa using e2
  rw[hi];refine K3 (HW (s:=⟨hp,gg,d,tk,os⟩) G hu Q e1 hq e4 hb ?_)
  have:decide (a=b)=false:=by simpa using e3
  rw[this]
  wp_walk
  have hc:((i:Int)+1)=((i+1:Nat):Int):=by push_cast;rfl
  rw[hc];exact⟨rI pv _,ih'⟩
theorem Qi {a:Nat}(Q:AF g f ρ H loc s.heap) (hp:ρ[a]? =some p) (hl:H[a]? =some (.list l)) (rv:VR g ρ s.heap v y) (hz:l.length<lid):
  wpAny g.M f.A (PySem.call (.builtin "list.append") [.ref p.1,y]) (A0 g f (BE g) ρ s (.ok .none loc (H.set a (.list (l++[v]))))) (BP g f ρ s (.ok V.none loc (H.set a (.list (l++[v]))))) s:=by
 obtain⟨p',dN,e0,it,m,h1,hv,hz'⟩:=Q.hr.rep.get hl;rw[hp] at dN;cases dN;have hfit:=Dg hv hz';refine tT ⟨m,h1⟩ (λh' ⟨m',h2⟩ sb=>?_) (by rw[hfit.1,il];unfold lid at hz;omega);obtain⟨S,Q'⟩:=changed (k:=s.toks) Q hp hl (o':=.list (l++[v])) sb λik=>⟨e0,_,m',h2,by
  rw[Array.toList_push];exact DQ (hv.mono ik (eC _)) (GQ (rv.heap ik)),by rw[eR];exact hz⟩
 exact⟨.none,loc,_,ρ,rfl,S,Q',Bw⟩
theorem Pl {a b:Nat}{l':List V}{q:Addr×Addr}(G:C2 g) (hu:f.A.units+10<cLine) (Q:AF g f ρ H loc s.heap) (hp:ρ[a]? =some p) (hq:ρ[b]? =some q) (hl:H[a]? =some (.list l)) (hb:Cs H b=true) (he:CB H b l=some l'):
  wpAny g.M f.A (PySem.call (.builtin "list.remove") [.ref p.1,.ref q.1]) (A0 g f (BE g) ρ s (.ok .none loc (H.set a (.list l')))) (BP g f ρ s (.ok V.none loc (H.set a (.list l')))) s:=by
 obtain⟨p',dN,e0,it,m,h1,hv,hz'⟩:=Q.hr.rep.get hl;rw[hp] at dN;cases dN;have hfit:=Dg hv hz';obtain⟨j,h2,h3,rfl,h5⟩:=L6 he;obtain⟨n',hm⟩:=mapSeq_erase it m j;have mE:it.size<=sizeLine:=by rw[hfit.1,il];unfold lid at hz';omega
 have post:A0 g f (BE g) ρ s (.ok V.none loc (H.set a (.list (l.eraseIdx j)))) .none {s with heap:=s.heap.update p.1 (Obj.mapSeq λxs=>xs.eraseIdxIfInBounds j)}:=by
  obtain⟨S,Q'⟩:=changed (k:=s.toks) Q hp hl (o':=.list (l.eraseIdx j)) (pz s.heap p.1 (Obj.mapSeq λxs=>xs.eraseIdxIfInBounds j)) λik=>⟨e0,_,n',by rw[lx _ h1 (by rw[hm];rfl),hm],by
   have e2:(it.eraseIdxIfInBounds j).toList=it.toList.eraseIdx j:=by simp
   rw[e2];exact (Gl _ hv).mono ik (eC _),by
   have:=tR l j
   omega⟩
  exact⟨.none,loc,_,ρ,rfl,S,Q',Bw⟩
 refine sW (q5 PySem.F.slot_list_remove.plain PySem.F.entry_list_remove (PySem.F.slot_list_remove.check _ _ _ _ _ _ _ _ ⟨_,h1,rfl⟩ (PySem.F.args_list_remove_2 _ _) ?_));have main:=KT (g:=g) (A:=f.A) (s:=s) (R':=wants (A0 g f (BE g) ρ s (.ok V.none loc (H.set a (.list (l.eraseIdx j))))) (BP g f ρ s (.ok V.none loc (H.set a (.list (l.eraseIdx j)))))) G ⋯ Q.hr hq hb h1 hv mE h3 h5 post j 0 (tZ j) (el _);unfold Builtin.«list.remove»;refine K3 (kS (a:=(Value.ref p.1,Value.ref q.1)) rfl ?_);exact df ⟨rI pv _,main⟩
theorem MJ {K:AN}{m:Mt}{o:V}(G:C2 g) (hu:f.A.units+10<cLine) (hg:f.A.guards=some []) (Q:AF g f ρ H loc s.heap) (ro:VR g ρ s.heap o x) (r:Aa g ρ s.heap vs xs) (hm:(m= .FM/\nm="list.append")∨(m= .d7/\nm="list.remove")∨(m= .dY/\nm="dict.get")∨(m= .bext/\nm="bytearray.extend")):
  AE g f (BE g) ρ s ((Aw K m o vs H).out loc) (PySem.call (.builtin nm) (x::xs)):=by
 intro ns;have dM:∀{P:Prop},((Res.stuck:Res V).out loc=Out.stuck->False)->P:=λh=>(h rfl).elim;rcases hm with ⟨rfl,rfl⟩|⟨rfl,rfl⟩|⟨rfl,rfl⟩|⟨rfl,rfl⟩
 ·unfold Aw at ns ⊢;dsimp only at ns ⊢;split at ns
  ·rename_i a v;unfold Aa at r;obtain⟨y,t,rfl,h1,h2⟩:=r;unfold Aa at h2;subst h2;unfold VR at ro;obtain⟨p,hp,rfl⟩:=ro
   try dsimp only at ns ⊢
   split at ns
   ·rename_i l hl;split at ns
    ·rename_i hz;rw[UQ hz];exact AL (Qi Q hp hl h1 hz)
    ·exact dM ns
   ·exact dM ns
  ·exact dM ns
 ·unfold Aw at ns ⊢;dsimp only at ns ⊢;split at ns
  ·rename_i a b;unfold Aa at r;obtain⟨y,t,rfl,h1,h2⟩:=r;unfold Aa at h2;subst h2;unfold VR at ro h1;obtain⟨p,hp,rfl⟩:=ro;obtain⟨q,hq,rfl⟩:=h1
   try dsimp only at ns ⊢
   split at ns
   ·rename_i l hl;split at ns
    ·rename_i l' he;split at he
     ·rename_i hb
      try rw[UQ hb,he]
      exact AL (Pl G hu Q hp hq hl hb he)
     ·cases he
    ·exact dM ns
   ·exact dM ns
  ·exact dM ns
 ·unfold Aw at ns ⊢;dsimp only at ns ⊢;split at ns
  ·rename_i a k;unfold Aa at r;obtain⟨y,t,rfl,h1,h2⟩:=r;unfold Aa at h2;subst h2;unfold VR at ro;obtain⟨p,hp,rfl⟩:=ro;obtain⟨u,rfl⟩:=Ab h1
   try dsimp only at ns ⊢
   split at ns
   ·rename_i d hd;obtain⟨p',dN,e0,kvs,h3,hv,hz⟩:=Q.hr.rep.get hd;rw[hp] at dN;cases dN;refine AL (uN rX h3.typeIs td (PySem.F.args_dict_get_2 _ _) (meets_dict_get _ _ Gn (KC e0)) ⟨_,h3.mapOf,?_⟩);refine AT Q ?_;rcases hv.Bm (k:=k) with ⟨a1,a2⟩|⟨v',x',a1,a2,a3⟩
    ·rw[a1,a2];exact Bw
    ·rw[a1,a2];exact a3
   ·exact dM ns
  ·rename_i a k w;unfold Aa at r;obtain⟨y,t,rfl,h1,h2⟩:=r;unfold Aa at h2;obtain⟨z,t,rfl,h4,h5⟩:=h2;unfold Aa at h5;subst h5;unfold VR at ro;obtain⟨p,hp,rfl⟩:=ro;obtain⟨u,rfl⟩:=Ab h1
   try dsimp only at ns ⊢
   split at ns
   ·rename_i d hd;obtain⟨p',dN,e0,kvs,h3,hv,hz⟩:=Q.hr.rep.get hd;rw[hp] at dN;cases dN;refine AL (uN rX h3.typeIs td (PySem.F.args_dict_get_3 _ _ _) (meets_dict_get_default _ _ Gn (KC e0) _) ⟨_,h3.mapOf,?_⟩);refine AT Q ?_;rcases hv.Bm (k:=k) with ⟨a1,a2⟩|⟨v',x',a1,a2,a3⟩
    ·rw[a1,a2];exact h4
    ·rw[a1,a2];exact a3
   ·exact dM ns
  ·exact dM ns
 ·unfold Aw at ns ⊢;dsimp only at ns ⊢;have ext:∀{a:Nat}{l m:List Int}{p:Addr×Addr}{v:Value}{c:Array UInt8},ρ[a]? =some p->H[a]? =some (.ba l)->Buf s.heap v c->bl c=m->l.length+m.length<=lid->
    Ai g.M f.A (PySem.call (.builtin "bytearray.extend") [.ref p.1,v]) (A0 g f (BE g) ρ s (.ok .none loc (H.set a (.ba (l++m))))) (BP g f ρ s (.ok V.none loc (H.set a (.ba (l++m))))) s:=by
   intro a l m p v c hp hl hb hm hz;obtain⟨p',dN,e0,b,h1,rfl,hz'⟩:=Q.hr.rep.get hl;rw[hp] at dN;cases dN;subst hm;rw[Cm,Cm] at hz;refine LR hg h1 hb (by rw[il];unfold lid at hz;omega) λh' h2 sb=>?_;obtain⟨S,Q'⟩:=changed (k:=s.toks) Q hp hl (o':=.ba (bl b++bl c)) sb λik=>⟨e0,_,h2,QV,by rw[qY];exact hz⟩;exact⟨.none,loc,_,ρ,rfl,S,Q',Bw⟩
  split at ns
  ·rename_i a m;unfold Aa at r;obtain⟨y,t,rfl,h1,h2⟩:=r;unfold Aa at h2;subst h2;unfold VR at ro h1;obtain⟨p,hp,rfl⟩:=ro;obtain⟨c,tk,rfl,hc,ig⟩:=h1
   try dsimp only at ns ⊢
   split at ns
   ·rename_i l hl;split at ns
    ·rename_i hz;rw[UQ hz];exact ext hp hl .bytes hc hz
    ·exact dM ns
   ·exact dM ns
  ·rename_i a b;unfold Aa at r;obtain⟨y,t,rfl,h1,h2⟩:=r;unfold Aa at h2;subst h2;unfold VR at ro h1;obtain⟨p,hp,rfl⟩:=ro;obtain⟨q,hq,rfl⟩:=h1
   try dsimp only at ns ⊢
   split at ns
   ·rename_i l m hl hm;split at ns
    ·rename_i hz;rw[UQ hz];obtain⟨q',hq',e0,c,h3,h4,hz'⟩:=Q.hr.rep.get hm;rw[hq] at hq';cases hq';exact ext hp hl (.ba h3) h4 hz
    ·exact dM ns
   ·exact dM ns
  ·exact dM ns
def Ij (g:Gd):AR->Heap->List V->List Value->Prop:=λρ h a b=>Aa g ρ h a b
structure Br (g:Gd) (K:AN) (b:Nat):Prop where
 fn:∀(f:Fd) (ρ:AR) (s:Shared) (H:Hp) (loc:Loc) (i j:Nat) (vs:List V) (xs:List Value),Ac g f b->AF g f ρ H loc s.heap->Aa g ρ s.heap vs xs->K (.fn i j) vs H≠ .stuck->
  codeN g.M f.A (.call (.ref (g.fa i j)) ⟨xs,[]⟩) (wants (A0 g f (BE g) ρ s ((K (.fn i j) vs H).out loc)) (BP g f ρ s ((K (.fn i j) vs H).out loc))) s
 clo:∀(f:Fd) (ρ:AR) (s:Shared) (H:Hp) (loc:Loc) (body:Expr) (scope:Scope) (cells:List (Str×Nat)) (a:Addr),Ac g f b->AF g f ρ H loc s.heap->Ml ρ s.heap body scope cells a->K (.clo body scope cells) [] H≠ .stuck->
  codeN g.M f.A (.call (.ref a) ⟨[],[]⟩) (wants (A0 g f (BE g) ρ s ((K (.clo body scope cells) [] H).out loc)) (BP g f ρ s ((K (.clo body scope cells) [] H).out loc))) s
variable {R':AR->Heap->γ->δ->Prop}{e:Expr}{o:Out α}{pos:Pos}{t:Sem Value}
section
variable {K:AN}
theorem Fd.units (fk:Ac g f N):f.A.units+65<cLine:=by
 have:=fk.units
 show f.A.units+65<9900;omega
theorem AE.leaf {t:Sem γ}{u:γ->Sem β}{P:γ->Prop}(h:wpAny g.M f.A t (λa s'=>(∃k,s'={s with toks:=k})/\P a) (λ_ _=>False) s) (h2:∀a k,P a->AE g f R ρ {s with toks:=k} o (u a)):AE g f R ρ s o (t>>=u):=λns=>by
 refine AJ (jV h (λa s' ⟨⟨k,e⟩,p⟩=>?_) λ_ _ q=>q.elim);subst e;exact AE.after (Step.tok k) (h2 a k p ns)
theorem AE.eq {t u:Sem β}(e:t=u) (h:AE g f R ρ s o u):AE g f R ρ s o t:=e▸h
theorem AE.of {t:Sem β}(h:Ai g.M f.A t (A0 g f R ρ s o) (BP g f ρ s o) s):AE g f R ρ s o t:=λ_=>h
theorem AE.C0 {t:Sem β}(h:o≠ .stuck->AE g f R ρ s o t):AE g f R ρ s o t:=λns=>h (λe=>ns e) ns
theorem AE.operate {o:Out α}{t:Sem Value}{vs:List Value}{R:AR->Heap->α->Value->Prop}(h:AE g f R ρ s o t):AE g f R ρ s o (PySem.operate vs t):=λns=>DK (h ns)
theorem Jf {r:Res α}{k:α->Hp->Res β}(h:(r.bind k).out loc≠(Out.stuck:Out β)):r≠ .stuck:=λe=>h (by rw[e];rfl)
theorem Kz {x:Str}(G:C2 g) (fk:Ac g f N) (Q:AF g f ρ H loc s.heap):AE g f (BE g) ρ s ((Res.some H (getVar f.cx loc x H)).out loc) (eval (.Name x pos) f.env):=by
 cases e:getVar f.cx loc x H with
 |none=>exact AE.stuck
 |some v=>exact AE.same Q (jV (E:=λ_ _=>False) (JI G fk Q e) (λy s' ⟨e1,r⟩=>⟨e1▸Cb s,r⟩) λ_ _ q=>q)
theorem Fh {x:Str}{env:Env}{whole:Sem Value}(h:CW e=true):attributeBase e x env whole=whole:=by
 unfold attributeBase;split
 ·cases h
 ·rfl
theorem QN {x:Str}(G:C2 g) (hb:CW e=true) (h:AE g f (BE g) ρ s ((AX K e f.cx loc H).out loc) (eval e f.env)):
  AE g f (BE g) ρ s (((AX K e f.cx loc H).bind λv h=>Ft v x h).out loc) (eval (.Attribute e x pos) f.env):=by
 show AE g f (BE g) ρ s _ (do
  let o←attributeBase e x f.env (eval e f.env)
  standAt pos.atName
  let r←holding [o] (getAttr o x true)
  letTemporaryGo e o r
  pure r)
 rw[Fh hb];refine AE.bindR h λv H ρ' s' o e1 S Q r=>AE.standAt ?_;refine AE.C0 λns=>?_;obtain⟨v',e2⟩:=NG (v:=v) (x:=x) (H:=H) (λe=>ns (by rw[e];rfl));rw[e2];refine AE.of (AL (K3 (ky (jV (E:=λ_ _=>False) (NR G Q.hr r e2) (λy s2 ⟨⟨k,e3⟩,r2⟩=>?_) λ_ _ q=>q.elim))));subst e3;exact K3 (wpAny_letTemporaryGo (df (AT Q r2)))
theorem OX {l r:Expr}{op:Operator}(h1:AE g f (BE g) ρ s ((AX K l f.cx loc H).out loc) (eval l f.env)) (h2:∀H ρ s,AF g f ρ H loc s.heap->AE g f (BE g) ρ s ((AX K r f.cx loc H).out loc) (eval r f.env)):
  AE g f (BE g) ρ s (((AX K l f.cx loc H).bind λa h=>(AX K r f.cx loc h).bind λb h=>CJ op a b h).out loc) (eval (.BinOp l op r pos) f.env):=by
 rw[eval_BinOp];refine AE.bindR h1 λa H1 ρ1 s1 x e1 S1 Q1 r1=>?_;refine AE.bindR (AE.holding (h2 H1 ρ1 s1 Q1)) λb H2 ρ2 s2 y e2 S2 Q2 r2=>AE.standAt (AE.operate ?_);exact Po Q2 (r1.mono (S2.CL Q1) S2.pre) r2
theorem R4 (h:AE g f (BE g) ρ s ((AX K e f.cx loc H).out loc) (eval e f.env)):
  AE g f (BE g) ρ s (((AX K e f.cx loc H).bind λa h=>match BA a with|some b=>.ok (.bool (!b)) h|none=>.stuck).out loc) (eval (.UnaryOp .Not e pos) f.env):=by
 show AE g f (BE g) ρ s _ (do let v←eval e f.env;standAt pos;holding [v] (unaryOp .Not v));refine AE.bindR h λa H1 ρ1 s1 x e1 S1 Q1 r1=>AE.standAt (AE.holding ?_);cases ht:BA a with
 |none=>exact AE.stuck
 |some b=>
  refine AE.of (AL (PyProof.Rows.not_of (jV (E:=λ_ _=>False) (GU r1 ht) (λc s2 ⟨e2,e3⟩=>?_) λ_ _ q=>q.elim)));subst e2 e3;exact AT (k:=s2.toks) Q1 D9
theorem Ru (h:AE g f (BE g) ρ s ((AX K e f.cx loc H).out loc) (eval e f.env)):
  AE g f (BE g) ρ s (((AX K e f.cx loc H).bind λa h=>match a with| .int i=>.ok (.int (-i)) h|_=>.stuck).out loc) (eval (.UnaryOp .USub e pos) f.env):=by
 show AE g f (BE g) ρ s _ (do let v←eval e f.env;standAt pos;holding [v] (unaryOp .USub v));refine AE.bindR h λa H1 ρ1 s1 x e1 S1 Q1 r1=>AE.standAt (AE.holding ?_);cases a<;>try exact AE.stuck
 rename_i i;obtain⟨t,rfl⟩:=Ab r1;exact AE.of (AL (PyProof.Rows.neg_int (AT Q1 Ah)))
theorem Jd {r:Res V}{p:Pos}(h:AE g f (BE g) ρ s (r.out loc) t):AE g f BR ρ s ((r.bind λv h=>Res.some h (BA v)).out loc) (do let v←t;standAt p;holding [v] (truthy v)):=by
 refine AE.bindR h λa H1 ρ1 s1 x e1 S1 Q1 r1=>AE.standAt (AE.holding ?_);cases ht:BA a with
 |none=>exact AE.stuck
 |some b=>
  refine AE.of (AL (jV (E:=λ_ _=>False) (GU r1 ht) (λc s2 ⟨e2,e3⟩=>?_) λ_ _ q=>q.elim));subst e2 e3;exact AT (k:=s2.toks) Q1 rfl
theorem R6 {r:Res Bool}{t:Sem Bool}{a b:Hp->Res α}{u v:Sem β}(h:AE g f BR ρ s (r.out loc) t) (h1:∀H ρ s,AF g f ρ H loc s.heap->AE g f R ρ s ((a H).out loc) u) (h2:∀H ρ s,AF g f ρ H loc s.heap->AE g f R ρ s ((b H).out loc) v):
  AE g f R ρ s ((r.bind λc h=>if c then a h else b h).out loc) (t>>=λc=>if c then u else v):=by
 refine AE.bindR h λc H1 ρ1 s1 x e1 S1 Q1 r1=>?_;have r1:c=x:=r1;subst r1;cases c with
 |true=>exact h1 H1 ρ1 s1 Q1
 |false=>exact h2 H1 ρ1 s1 Q1
theorem KH (Q:AF g f ρ H loc s.heap) (r:Aa g ρ s.heap vs xs):AE g f (BE g) ρ s ((if vs.length<=1000 then (.ok (.tup vs) H:Res V) else .stuck).out loc) (newTuple xs):=by
 split
 ·rename_i hz;refine AE.of (AL (wpAny_newTuple (De (k:=s.toks) Q ?_) (by rw[At r,il];omega)));unfold BE VR;exact⟨_,xs.toArray,rfl,⟨_,eQ _ rfl,rfl,_,rfl⟩,by rw[qb];exact r.mono (AI.of_keeps (Ak _)) (eC _),hz⟩
 ·exact AE.stuck
theorem Ko (Q:AF g f ρ H loc s.heap) (r:Aa g ρ s.heap vs xs):AE g f (BE g) ρ s ((if vs.length<=1000 then (.ok (.ref H.length) (H++[.list vs]):Res V) else .stuck).out loc) (newList xs):=by
 split
 ·rename_i hz;refine AE.of (AL (wpAny_newList (Dq (k:=s.toks) Q ?_) (by rw[At r,il];omega)));exact⟨rfl,xs.toArray,0,eQ _ rfl,by rw[qb];exact r.mono (AI.of_keeps (Ak _)) (hW _ _),by unfold lid;omega⟩
 ·exact AE.stuck
end
def BV:AR->Heap->Bool->Value->Prop:=λ_ _ b v=>v= .bool b
variable {RR:AR->Heap->γ->Value->Prop}{r:List Expr}
section
variable {K:AN}
def Good (g:Gd) (K:AN) (f:Fd) (loc:Loc) (e:Expr):Prop:=∀H ρ s,AF g f ρ H loc s.heap->AE g f (BE g) ρ s ((AX K e f.cx loc H).out loc) (eval e f.env)
theorem EP {env:Env}(h:∀a p,e≠ .Starred a p):starEach (e::r) env=(false,eval e env)::starEach r env:=by
 cases e<;>first|rfl|exact absurd rfl (h _ _)
theorem MN {a:Expr}{p:Pos}{cx:Cx}{h:Hp}:AX K (.Starred a p) cx loc h= .stuck:=by simp only[AX]
theorem HF (Q:AF g f ρ H loc s.heap):AE g f (Ij g) ρ s ((.ok [] H:Res (List V)).out loc) (spliced (backTo pos (starEach [] f.env))):=AE.pure Q (by unfold Ij Aa;rfl)
theorem Gf (Q:AF g f ρ H loc s.heap) (he:Good g K f loc e) (hr:∀H ρ s,AF g f ρ H loc s.heap->AE g f (Ij g) ρ s ((G2 K r f.cx loc H).out loc) (spliced (backTo pos (starEach r f.env)))):
  AE g f (Ij g) ρ s (((AX K e f.cx loc H).bind λv h=>(G2 K r f.cx loc h).bind λvs h=>.ok (v::vs) h).out loc) (spliced (backTo pos (starEach (e::r) f.env))):=by
 by_cases hs:∃a p,e= .Starred a p
 ·obtain⟨a,p,rfl⟩:=hs;rw[MN];exact AE.stuck
 ·rw[EP λa p q=>hs ⟨a,p,q⟩];show AE g f (Ij g) ρ s _ (eval e f.env>>=λv=>(pure [v]:Sem (List Value))>>=λhere=>(holding here (spliced (backTo pos (starEach r f.env))))>>=λt=>pure (here++t));refine AE.bindR (he H ρ s Q) λv H1 ρ1 s1 x e1 S1 Q1 r1=>?_;rw[pure_bind];refine AE.bindR (AE.holding (hr H1 ρ1 s1 Q1)) λvs H2 ρ2 s2 xs e2 S2 Q2 r2=>AE.pure Q2 ?_;unfold Ij Aa;exact⟨x,xs,rfl,r1.mono (S2.CL Q1) S2.pre,r2⟩
theorem Cn:∀{es:List Expr}{env:Env},noStar es=true->starEach es env=es.map λe=>(false,eval e env)
 |[],_,_=>rfl
 |e::r,env,h=>by
  by_cases hs:∃a p,e= .Starred a p
  ·obtain⟨a,p,rfl⟩:=hs;simp [noStar] at h
  ·have hr:noStar r=true:=by
    cases e<;>first|exact h|exact absurd ⟨_,_,rfl⟩ hs
   rw[EP λa p q=>hs ⟨a,p,q⟩,Cn hr];rfl
theorem Cy {fv:Value}{first:List Value}{es:List Expr}{k:List V->Hp->Res γ}(Q:AF g f ρ H loc s.heap) (hn:noStar es=true) (hk:∀h' vs H',k vs H'≠ .stuck->AI s.heap h'->g.base.StaysIn h'->∃kk,(kk=Keeper.frame∨kk=Keeper.machine∨kk=Keeper.boundFrame)/\Looks g.M h' (keeperOf fv) kk) (ha:AE g f (Ij g) ρ s ((G2 K es f.cx loc H).out loc) (spliced (backTo pos (starEach es f.env)))) (h2:∀vs H' ρ' s' xs,Step g f.fr [f.L] ρ s ρ' s'->AF g f ρ' H' loc s'.heap->Aa g ρ' s'.heap vs xs->AE g f RR ρ' s' ((k vs H').out loc) (PySem.call fv (first++xs) [])):
  AE g f RR ρ s (((G2 K es f.cx loc H).bind k).out loc) (callWith pos fv first (backTo pos (starEach es f.env)) []):=by
 have hst:(backTo pos (starEach es f.env)).any (·.1)=false:=by
  rw[Cn hn];unfold backTo;rw[qI]
  induction es with
  |nil=>rfl
  |cons e r ih=>simp
 unfold callWith;generalize hT:backTo pos (starEach es f.env)=T at*;have hargs:AE g f (λρ h vs (a:Args)=>a.kw=[]/\Aa g ρ h vs a.pos) ρ s ((G2 K es f.cx loc H).out loc) (holding (fv::first) (evalArgs fv true T [])):=by
  refine AE.holding ?_;intro ns;unfold evalArgs;have base:=ha ns;have go:Ai g.M f.A (spliced T>>=λvs=>holding (vs++(none:Option Value).toList) (pure (⟨vs,[]⟩:Args))) (A0 g f (λρ h vs (a:Args)=>a.kw=[]/\Aa g ρ h vs a.pos) ρ s ((G2 K es f.cx loc H).out loc)) (BP g f ρ s ((G2 K es f.cx loc H).out loc)) s:=by
   refine AA (AG base (λvs s1 hq=>AM (AB ?_)) λ_ _ q=>q);obtain⟨a,l,H',ρ',e1,S,Q',r⟩:=hq;exact⟨a,l,H',ρ',e1,S,Q',rfl,r⟩
  cases T with
  |nil=>exact go
  |cons t r=>
   obtain⟨b,t⟩:=t;have hb:b=false:=by
    rw[qa,Bool.or_eq_false_iff] at hst;exact hst.1
   subst hb;exact go
 refine AE.bindR hargs λvs H1 ρ1 s1 a e1 S1 Q1 r1=>AE.standAt ?_;obtain⟨hkw,r1⟩:=r1;obtain⟨ap,pO⟩:=a;dsimp only at hkw r1;subst hkw;refine AE.C0 λnss=>?_;obtain⟨kk,hk',L⟩:=hk _ vs H1 (λe=>nss (by rw[e];rfl)) (S1.CL Q) Q1.hr.base;have hplain:(T.any (·.1)||([]:List (Option Str×Sem Value)).any (·.1.isNone))=false:=by rw[hst];rfl
 simp only[hplain];refine AE.Vo L ?_;have main:=h2 vs H1 ρ1 s1 ap S1 Q1 r1;have tail:∀{t:Sem Value},AE g f RR ρ1 s1 ((k vs H1).out loc) t->AE g f RR ρ1 s1 ((k vs H1).out loc) (t>>=λr=>holding [r] point>>=λ_=>pure r):=λht ns=>by
  refine AA (AG (ht ns) (λr s2 hr=>AA (AM (En (AB hr)))) λ_ _ q=>q)
 have marked:∀(mk:Value),AE g f RR ρ1 s1 ((k vs H1).out loc) (callMarked mk fv (first++ap) []):=λmk ns=>by
  unfold callMarked;exact RL (main ns)
 rcases hk' with rfl|rfl|rfl<;>dsimp only<;>first|exact tail main|(split<;>first|exact tail main|exact tail (marked _))
end
section
variable {prog:Program}{w:World}{C:Addr}{R:Result->Shared->Prop}{g:Array GenState}{d:Drawn}{t:Nat}{os:OsState}
theorem T1 {f:Value}{a:Args}:DB (.call f a)=true:=rfl
theorem V6 {rest:List Value}{init:Value}(Y:Makes (model prog w) h C) (hi:Looks (model prog w) h (typeLookup (.ref C) "__init__") (some init)) (hb:∀self,Looks (model prog w) h (bindSpecial init self) (init,[self])) (hne:(some init !=some (Value.builtin "object.__init__"))=true) (hq:codeN (model prog w) (A.under (.builtin "type.__call__" ⟨.ref C::rest,[]⟩)) (.call init ⟨.ref (h.objs.size+1)::rest,[]⟩) (InitBack (h.objs.size+1) R) ⟨(h.push emptyDict).push (instObj C h.objs.size),g,d,t,os⟩):
  codeN (model prog w) A (.call (.ref C) ⟨rest,[]⟩) R ⟨h,g,d,t,os⟩:=by
 have Y':=Y;obtain⟨⟨oc,od,cd,sl,hC,e1,e2,e4⟩,made,base,self,top,call,typ⟩:=Y;refine AS ?_;show Ai _ _ (callAny (.ref C) _) _ _ _;show Ai _ _ (load C>>=λo=>_) _ _ _;refine AJ (rN hC ?_);show Ai _ _ (callAny.viaDunder (.ref C) _) _ _ _;unfold callAny.viaDunder;refine AJ (call.at ?_);dsimp only;rw[tc_bind];refine AA (AB (AA (AB ?_)));refine AB (a:=Fin.again (.call (.builtin "type.__call__") ⟨.ref C::rest,[]⟩)) (And.intro rfl (And.intro rfl ?_));refine AS ?_;show Ai _ A.in1 (do checkBuiltinCall "type.__call__" ⟨.ref C::rest,[]⟩;again (.builtin "type.__call__" ⟨.ref C::rest,[]⟩)) _ _ _;refine AJ (check_slot tc_kind tc_split typ (tc_args _ _ _) (AB ⟨qj _ ⋯,DU ⋯ _,DY entry_typeCall ?_⟩));unfold Builtin.«type.__call__»;dsimp only;rw[T8 (by simp)];have hm:Looks (model prog w) h (mroOf (.ref C)) cd.mro:=((q6 (part:=none) hC).andThen .now).andThen .now;refine AJ (hm.at ?_);rw[T8 (by rw[e4];decide)];refine AJ (made.at ?_);dsimp only;refine AA (AB ?_);have k:∀b o,h.get? b=some o->((h.push emptyDict).push (instObj C h.objs.size)).get? b=some o:=λb o e=>du _ (du _ e);refine AA (AM (Bl (LE (sL (new_K (R:=λr s'=>r= .ok (.ret (.ref (h.objs.size+1)))/\s'=⟨(h.push emptyDict).push (instObj C h.objs.size),g,d,t,os⟩) Y' hi (.inl hne) ⟨rfl,rfl⟩) λr s' hr=>?_))));obtain⟨rfl,rfl⟩:=hr;have hx:((h.push emptyDict).push (instObj C h.objs.size)).get? (h.objs.size+1)=some (instObj C h.objs.size):=by heap_get
 have t1:Looks (model prog w) ((h.push emptyDict).push (instObj C h.objs.size)) (typeOf (.ref (h.objs.size+1))) (.ref C):=(q6 hx).andThen .now;have s1:=self.keeps k;have i1:=hi.keeps k;have b1:=(hb (.ref (h.objs.size+1))).keeps k;dsimp only;refine AJ ((show Looks (model prog w) _ (isInstance (.ref (h.objs.size+1)) (.ref C)) true from t1.andThen s1).at ?_);rw[T8 ⋯];refine AA (AM ?_);unfold callSpecial? specialOf;refine AA (AJ (t1.at (AL (i1.at ?_))));dsimp only;refine AM (AJ (b1.at ?_));dsimp only;refine AA (Bl (A6 hq λr s' z=>?_));rcases r with e|(v|_|_|_)<;>first|exact z|exact z.elim|skip
 obtain⟨rfl,z⟩:=z;exact AB (AB z)
end
variable {A':Around}
section
variable {b:Nat}{K:AN}
theorem Ac.le {m:Nat}(x:Ac g f n) (h:m<=n):Ac g f m:=⟨x.frames,x.handled,x.guards,by have:=x.depth;omega,by have:=x.units;omega,x.kind,x.locals,x.globals,x.builtins,x.names,x.frame,x.lam⟩
theorem D6 {fv:Value}(h:∀a,fv≠ .ref a) (h':Heap):∃kk,(kk=Keeper.frame∨kk=Keeper.machine∨kk=Keeper.boundFrame)/\Looks g.M h' (keeperOf fv) kk:=by
 refine⟨.machine,.inr (.inl rfl),?_⟩;unfold keeperOf;cases fv<;>first|exact .now|exact absurd rfl (h _)
theorem JX {a:Addr}{o:Obj}{fd:FuncData}(e:h'.get? a=some o) (d:o.data= .func fd):∃kk,(kk=Keeper.frame∨kk=Keeper.machine∨kk=Keeper.boundFrame)/\Looks g.M h' (keeperOf (.ref a)) kk:=by
 refine⟨.frame,.inl rfl,?_⟩;unfold keeperOf;refine (q6 (part:=none) e).andThen ?_;rw[d];exact .now
theorem KP {v:Value}(hk:keepIn g.K v=true) (X:g.K.In h'):∃kk,(kk=Keeper.frame∨kk=Keeper.machine∨kk=Keeper.boundFrame)/\Looks g.M h' (keeperOf v) kk:=by
 obtain⟨k,a,b⟩:=looks_keep (M:=g.M) hk X;exact⟨k,a.elim .inl (λe=>.inr (.inl e)),b⟩
theorem Rs (G:C2 g) (r:VR g ρ h v x) (ik:AI h h') (B:g.base.StaysIn h') (nr:∀a,v≠ .ref a) (nt:∀l,v≠ .tup l) (nf:∀l,v≠ .fl l) (ng:∀a b,v≠ .Ck a b) (nn:∀n,v≠ .dX n) (nc:∀c,v= .cls c->Fc c=true):
  ∃kk,(kk=Keeper.frame∨kk=Keeper.machine∨kk=Keeper.boundFrame)/\Looks g.M h' (keeperOf x) kk:=by
 cases v
 case ref a=>exact absurd rfl (nr a)
 case tup l=>exact absurd rfl (nt l)
 case fl l=>exact absurd rfl (nf l)
 case Ck a b=>exact absurd rfl (ng a b)
 case dX n=>exact absurd rfl (nn n)
 case fn i=>
  unfold VR at r;obtain⟨rfl,hi⟩:=r;obtain⟨o,fd,e,d⟩:=G.fns i hi;exact JX (B _ _ e) d
 case cls c=>
  unfold VR at r;subst r;exact KP (G.cls c (nc c rfl)).kp (G.dZ.keeps B)
 case clo body scope cells=>
  unfold VR at r;obtain⟨a,rfl,⟨o,fd,e,d,_⟩,_⟩:=r;exact JX (ik _ _ e (.inr (.inl ⟨fd,d⟩))) d
 all_goals (unfold VR at r;refine D6 (λa e=>?_) h';subst e)
 case none=>cases r
 case bool=>cases r
 case int=>obtain ⟨t,e⟩:=r;cases e
 case str=>obtain ⟨t,e⟩:=r;cases e
 case bytes=>obtain ⟨_,t,e,_⟩:=r;cases e
 case bi=>cases r.1
 case ty=>cases r
abbrev Fd.at (f:Fd) (A:Around):Fd:={f with A:=A}
theorem AF.at {h:Heap}{A':Around}(Q:AF g f ρ H loc h):AF g (f.at A') ρ H loc h:=⟨⟨Q.ns,Q.lb,Q.lo,Q.cells⟩,Q.hr⟩
theorem AF.from (Q:AF g (f.at A') ρ H loc h):AF g f ρ H loc h:=⟨⟨Q.ns,Q.lb,Q.lo,Q.cells⟩,Q.hr⟩
theorem A0.from {A':Around}{o:Out α}{x:β}(h:A0 g (f.at A') R ρ s o x s'):A0 g f R ρ s o x s':=let ⟨a,l,H,ρ',e,S,Q,r⟩:=h;⟨a,l,H,ρ',e,S,Q.from,r⟩
theorem BP.from (h:BP g (f.at A') ρ s o x s'):BP g f ρ s o x s':=let ⟨c,l,H,ρ',a,e1,e2,F,Q⟩:=h;⟨c,l,H,ρ',a,e1,e2,⟨F.pre,F.new,F.ex,F.fresh,F.frames,F.slots,F.alive,F.rest⟩,⟨Q.lb,Q.lo,Q.cells⟩⟩
theorem CV (A:Around) (C:Addr) (xs:List Value):A.under (.builtin "type.__call__" ⟨.ref C::xs,[]⟩)={A with depth:=A.depth+1,units:=A.units+1}:=by
 have hw:(Code.builtin "type.__call__" ⟨.ref C::xs,[]⟩).weight=1:=rfl;have hu:(Code.builtin "type.__call__" ⟨.ref C::xs,[]⟩).cUnits=1:=rfl;have he:(Code.builtin "type.__call__" ⟨.ref C::xs,[]⟩).envs=[]:=rfl;have hg:(Code.builtin "type.__call__" ⟨.ref C::xs,[]⟩).guards=[]:=by
  show (if guardIds.contains "type.__call__" then [_] else [])=_;rw[T8 ⋯]
 unfold Around.under;rw[hw,hu,he,hg]
 congr 1
theorem Op {c j:Nat}(G:C2 g) (SK:Br g K b) (fk:Ac g f (b+2)) (Q:AF g f ρ H loc s.heap) (r:Aa g ρ s.heap vs xs) (hj:AZ c "__init__"=some j):
  AE g f (BE g) ρ s (((K (.fn c j) (.ref H.length::vs) (H++[.inst c []])).bind λr h'=>match r with| .none=>.ok (.ref H.length) h'|_=>.stuck).out loc) (PySem.call (.ref (g.ca c)) xs):=by
 refine AE.C0 λns=>?_;have hK:=Jf ns;have hc:=IW hj;have C:=G.cls c hc;have X:=G.dZ.keeps Q.hr.base;obtain⟨hm1,hm2,pP,_⟩:=C.ia _ _ hj;intro _;refine Bl ?_;obtain⟨h,gg,d,t,os⟩:=s;have dW:Ac g (f.at (f.A.under (.builtin "type.__call__" ⟨.ref (g.ca c)::xs,[]⟩))) b:=by
  have hd:=fk.depth;have hu:=fk.units;refine⟨?_,?_,?_,?_,?_,fk.kind,fk.locals,fk.globals,fk.builtins,fk.names,fk.frame,fk.lam⟩
  ·show (f.A.under _).frames=_;rw[CV];exact fk.frames
  ·show (f.A.under _).handled=_;rw[CV];exact fk.handled
  ·show (f.A.under _).guards=_;rw[CV];exact fk.guards
  ·show (f.A.under _).depth+b+8<=600;rw[CV];dsimp only;omega
  ·show (f.A.under _).units+10*b+40<=3000;rw[CV];dsimp only;omega
 have kp:∀b o,h.get? b=some o->((h.push emptyDict).push (instObj (g.ca c) h.objs.size)).get? b=some o:=λb o e=>du _ (du _ e);have n1:h.get? (h.objs.size+1)=none:=by
  cases e:h.get? (h.objs.size+1) with
  |none=>rfl
  |some o=>exact absurd (qJ e) (uK.mpr (sv _))
 have n2:=As h;have hx:((h.push emptyDict).push (instObj (g.ca c) h.objs.size)).get? (h.objs.size+1)=some (instObj (g.ca c) h.objs.size):=by heap_get
 have hd:((h.push emptyDict).push (instObj (g.ca c) h.objs.size)).get? h.objs.size=some emptyDict:=du _ (eQ _ rfl);have ob:By g (ρ++[(h.objs.size+1,h.objs.size)]) ((h.push emptyDict).push (instObj (g.ca c) h.objs.size)) (.inst c []) (h.objs.size+1,h.objs.size):=
  ⟨hc,#[],[],0,hx,hd,rfl,el _,λ_ hq=>nomatch hq⟩
 have Q1:=Q.alloc (o:=.inst c []) (p:=(h.objs.size+1,h.objs.size)) kp n1 n2 ob;have S1:Step g f.fr [f.L] ρ ⟨h,gg,d,t,os⟩ (ρ++[(h.objs.size+1,h.objs.size)]) ⟨(h.push emptyDict).push (instObj (g.ca c) h.objs.size),gg,d,t,os⟩:=Step.alloc (s:=⟨h,gg,d,t,os⟩) (p:=(h.objs.size+1,h.objs.size)) (t:=t) kp n1 n2;have hat:(ρ++[(h.objs.size+1,h.objs.size)])[H.length]? =some (h.objs.size+1,h.objs.size):=by
  rw[←Q.hr.rep.len,mA (ix _)];simp
 refine V6 (makes_of X C.lz) (te X hm1) (λself=>bind_fn X self hm2) rfl ?_;have rs:Aa g (ρ++[(h.objs.size+1,h.objs.size)]) ((h.push emptyDict).push (instObj (g.ca c) h.objs.size)) (.ref H.length::vs) (.ref (h.objs.size+1)::xs):=by
  unfold Aa;refine⟨_,_,rfl,?_,r.mono (AI.of_keeps kp) (hW _ _)⟩;unfold VR;exact⟨_,hat,rfl⟩
 refine A6 (SK.fn _ _ ⟨(h.push emptyDict).push (instObj (g.ca c) h.objs.size),gg,d,t,os⟩ _ loc c j _ _ dW Q1.at rs hK) λrr s2 z=>?_;rcases rr with e|(v|_|_|_)<;>first|exact z.elim|skip
 ·have z':=BP.from z;obtain⟨c',l',H',ρ',a,e1,e2,F,Q2⟩:=z';refine⟨c',l',H',ρ',a,e1,?_,F.before S1,Q2⟩;cases q:K (.fn c j) (.ref H.length::vs) (H++[.inst c []])<;>rw [q] at e2<;>simp only[Res.out,reduceCtorEq] at e2;rw[←e2];rfl
 ·rename_i v;have z':=A0.from z;obtain⟨a,l',H',ρ',e2,S2,Q2,r2⟩:=z';cases q:K (.fn c j) (.ref H.length::vs) (H++[.inst c []])<;>rw [q] at e2<;>simp only[Res.out,reduceCtorEq] at e2;rename_i a2 H2;simp only[Out.ok.injEq] at e2;obtain⟨rfl,rfl,rfl⟩:=e2;rw[q] at ns;cases a2<;>try exact absurd rfl ns
  have r2:VR g ρ' s2.heap .none v:=r2;unfold VR at r2;subst r2;refine⟨rfl,.ref H.length,_,_,ρ',rfl,S1.trans S2,Q2,?_⟩;unfold BE VR;exact⟨_,Dw S2.pre hat,rfl⟩
end
end Fsx
namespace Fsx
open PySem PySem.W PySem.Calls PyProof.Rows Builtin Builtin.ObjectAttr
local macro_rules |`(⋯)=>`(by first|decide+kernel|omega)
namespace FA
theorem Ii:PlainAttrs "bytearray":=
 ⟨⟨"bytearray.__getattribute__",by rw[kf,f8];kernel_rfl,by decide+kernel⟩,by rw[kf,f8];kernel_rfl⟩
theorem Kk:typeOf (.builtin "bytearray.extend")=pure (.type "method_descriptor"):=by show builtinType _=_;rw[builtinType_eq_fast];kernel_rfl
end FA
def Mt.id:Mt->String
 | .FM=>"list.append"
 | .d7=>"list.remove"
 | .dY=>"dict.get"
 | .bext=>"bytearray.extend"
 |_=>""
variable {A:Around}{E:Value->Shared->Prop}{H:Hp}{K:AN}{N b:Nat}{α β γ δ:Type}{R:AR->Heap->α->β->Prop}{R':AR->Heap->γ->δ->Prop}{args:List Expr}{e:Expr}{f:Fd}{fr:List Env}{g:Gd}{h h':Heap}{loc:Loc}{pl:Sem Bool}{pos:Pos}{s s':Shared}{v:V}{x y:Value}{xs:List Value}{ρ ρ':AR}
theorem SW {o:V}{x:Str}{m:Mt}(G:C2 g) (Q:BJ g fr ρ H s.heap) (ro:VR g ρ s.heap o y) (e:Hi o x H=some m):
  ∃fv,wpAny (model g.prog g.w) A (getMethod y x pl) (λr s'=>s'=s/\r=(fv,[y])) E s/\((∃c j,m= .own c j/\AZ c x=some j/\fv= .ref (g.fa c j))∨((∀c j,m≠ .own c j)/\fv= .builtin m.id)):=by
 unfold Hi at e;split at e
 ·rename_i a;unfold VR at ro;obtain⟨p,hp,rfl⟩:=ro;split at e
  ·rename_i c fs hH;obtain⟨j,hj,rfl⟩:=dy.mp e;obtain⟨p',dN,hc,sl,es,n,h1,h2,F,hl,hk⟩:=Q.rep.get hH;rw[hp] at dN;cases dN;have C:=G.cls c hc;obtain⟨m1,m2,m3,m4⟩:=C.ia _ _ hj;refine⟨.ref (g.fa c j),?_,.inl ⟨c,j,rfl,hj,rfl⟩⟩;refine method_fn (G.dZ.keeps Q.base) (HO h1 h2) C.ga C.gt m1 m2 ?_ ⟨rfl,rfl⟩;rcases F.lookIn (x:=x) (n:=n) with ⟨_,q⟩|⟨u,w,q1,_,_⟩
   ·show (lookIn x (dictOf es n)).map _=_;rw[q];rfl
   ·obtain⟨qq,k1,k2⟩:=FQ q1
    have:=hk qq k1
    rw[k2,m4] at this;cases this
  ·rename_i l hl;obtain⟨p',dN,e0,it,m',h1,hv,hz⟩:=Q.rep.get hl;rw[hp] at dN;cases dN;have hT:s.TypeIs (.ref p.1) "list":=⟨_,h1,rfl⟩;have hd:∀a,Value.ref p.1= .ref a->∃o,s.heap.get? a=some o/\o.dict=none:=λa e=>by cases e;exact⟨_,h1,rfl⟩
   split at e
   ·rename_i hx;cases e;subst hx;exact⟨.builtin "list.append",rV hT tU PySem.slot_list_append PySem.type_list_append hd ⟨rfl,rfl⟩,.inr ⟨λ_ _=>nofun,rfl⟩⟩
   ·split at e
    ·rename_i hx;cases e;subst hx;exact⟨.builtin "list.remove",rV hT tU PySem.F.slot_list_remove PySem.F.type_list_remove hd ⟨rfl,rfl⟩,.inr ⟨λ_ _=>nofun,rfl⟩⟩
    ·cases e
  ·rename_i d hd;obtain⟨p',dN,e0,kvs,h1,hv,hz⟩:=Q.rep.get hd;rw[hp] at dN;cases dN;split at e
   ·rename_i hx;cases e;subst hx;exact⟨.builtin "dict.get",rV h1.typeIs PySem.F.plainAttrs_dict rX PySem.F.type_dict_get h1.mapOf.noDict ⟨rfl,rfl⟩,.inr ⟨λ_ _=>nofun,rfl⟩⟩
   ·cases e
  ·rename_i l hl;obtain⟨p',dN,e0,bb,h1,hv,hz⟩:=Q.rep.get hl;rw[hp] at dN;cases dN;split at e
   ·rename_i hx;cases e;subst hx;exact⟨.builtin "bytearray.extend",rV ⟨_,h1,rfl⟩ FA.Ii FA.G8 FA.Kk (λa e=>by cases e;exact⟨_,h1,rfl⟩) ⟨rfl,rfl⟩,.inr ⟨λ_ _=>nofun,rfl⟩⟩
   ·cases e
  ·cases e
 ·cases e
theorem Mo {x:Str}{apos:Pos}(G:C2 g) (SK:Br g K b) (fk:Ac g f (b+2)) (hb:CW e=true) (hn:noStar args=true) (hlen:args.length<30) (hline:(apos.endLine==pos.line)=true) (he:AE g f (BE g) ρ s ((AX K e f.cx loc H).out loc) (eval e f.env)) (ha:∀H ρ s,AF g f ρ H loc s.heap->AE g f (Ij g) ρ s ((G2 K args f.cx loc H).out loc) (spliced (backTo pos (starEach args f.env)))):
  AE g f (BE g) ρ s (((AX K e f.cx loc H).bind λo h=>match Hi o x h with
   |some m=>(G2 K args f.cx loc h).bind λvs h=>Aw K m o vs h
   |none=>.stuck).out loc) (eval (.Call (.Attribute e x apos) args [] pos) f.env):=by
 show AE g f (BE g) ρ s _ (do
  let ov←attributeBase e x f.env (eval e f.env)
  standAt apos.atName
  methodCall e x apos pos f.env ov (args.length+0) (backTo pos (starEach args f.env)) [])
 rw[Fh hb];refine AE.bindR he λo H1 ρ1 s1 y e1 S1 Q1 r1=>AE.standAt ?_;cases hm:Hi o x H1 with
 |none=>exact AE.stuck
 |some m=>
  obtain⟨fv,hg,hf⟩:=SW (A:=f.A) (E:=λ_ _=>False) (pl:=(do return (←importBound e f.env).getD true)) G Q1.hr r1 hm;have hstar:(backTo pos (starEach args f.env)).all (!·.1)=true:=by
   rw[Cn hn];unfold backTo;rw[qI]
   simp
  have eu:methodCallForm (args.length+0) (backTo pos (starEach args f.env)) []=true:=by
   unfold methodCallForm;rw[hstar]
   simp;omega
  unfold methodCall calleeOf methodCallPos;simp only[eu,hline,qT,qm,Bool.or_true]
  try dsimp only
  refine AE.C0 λns fQ=>?_;refine AA (AM (AL (jV hg (λr s2 ⟨e2,e3⟩=>?_) λ_ _ q=>q.elim)));subst e2 e3;dsimp only;refine AA (AB ?_);refine (Cy (k:=λvs h=>Aw K m o vs h) Q1 hn (λh' _ _ _ ik B=>?_) (ha H1 ρ1 s2 Q1) λvs H2 ρ2 s3 xs S2 Q2 r2=>?_) fQ
  ·rcases hf with ⟨c,j,rfl,hj,rfl⟩|⟨_,rfl⟩
   ·have C:=G.cls c (IW hj);exact KP (C.ia _ _ hj).2.2.1 (G.dZ.keeps B)
   ·exact D6 (λa e=>by cases e) h'
  ·have jz:=r1.mono (S2.CL Q1) S2.pre;rcases hf with ⟨c,j,rfl,hj,rfl⟩|⟨hno,rfl⟩
   ·refine AE.C0 λmF _=>Bl ?_;refine SK.fn f ρ2 s3 H2 loc c j (o::vs) (y::xs) (fk.le ⋯) Q2 ?_ (λq=>mF (by show (K (.fn c j) (o::vs) H2).out loc=_;rw[q];rfl));unfold Aa;exact⟨y,xs,rfl,jz,r2⟩
   ·refine MJ G (by have:=fk.units;show f.A.units+10<9900;omega) fk.guards Q2 jz r2 ?_;cases m with
    |own c j=>exact absurd rfl (hno c j)
    |FM=>exact .inl ⟨rfl,rfl⟩
    |d7=>exact .inr (.inl ⟨rfl,rfl⟩)
    |dY=>exact .inr (.inr (.inl ⟨rfl,rfl⟩))
    |bext=>exact .inr (.inr (.inr ⟨rfl,rfl⟩))
def ES (g:Gd):Prop:=∀(f:Fd) (ρ:AR) (s:Shared) (H:Hp) (loc:Loc) (vs:List V) (xs:List Value),C2 g->f.A.handled=none->f.A.units+65<cLine->AF g f ρ H loc s.heap->Aa g ρ s.heap vs xs->AE g f (BE g) ρ s ((Ap "set" vs H).out loc) (PySem.call (.type "set") xs)
theorem M5 {vs:List V}(G:C2 g) (r:VR g ρ h v x) (ik:AI h h') (B:g.base.StaysIn h') (ns:Ch K v vs H≠ .stuck):∃kk,(kk=Keeper.frame∨kk=Keeper.machine∨kk=Keeper.boundFrame)/\Looks g.M h' (keeperOf x) kk:=by
 refine Rs G r ik B ?_ ?_ ?_ ?_ ?_ ?_
 ·rintro a rfl;exact ns rfl
 ·rintro a rfl;exact ns rfl
 ·rintro a rfl;exact ns rfl
 ·rintro a b rfl;exact ns rfl
 ·rintro a rfl;exact ns rfl
 ·rintro c rfl;cases hj:AZ c "__init__" with
  |none=>exact absurd (by simp only[Ch,hj]) ns
  |some j=>exact IW hj
theorem N9 {vs:List V}(G:C2 g) (SO:ES g) (SK:Br g K b) (fk:Ac g f (b+2)) (Q:AF g f ρ H loc s.heap) (rv:VR g ρ s.heap v x) (r:Aa g ρ s.heap vs xs):
  AE g f (BE g) ρ s ((Ch K v vs H).out loc) (PySem.call x xs):=by
 refine AE.C0 λns=>?_;have hns:Ch K v vs H≠ .stuck:=λe=>ns (by rw[e];rfl);unfold Ch at ns hns ⊢;split at ns
 ·rename_i i;unfold VR at rv;obtain⟨rfl,_⟩:=rv;exact λ_=>Bl (SK.fn f ρ s H loc i 0 vs xs (fk.le ⋯) Q r hns)
 ·rename_i i;unfold VR at rv;subst rv;cases hj:AZ i "__init__" with
  |none=>exact AE.stuck
  |some j=>exact Op G SK fk Q r hj
 ·rename_i body scope cells;split at ns
  ·unfold VR at rv;obtain⟨a,rfl,hc⟩:=rv;unfold Aa at r;subst r;exact λ_=>Bl (SK.clo f ρ s H loc body scope cells a (fk.le ⋯) Q hc hns)
  ·exact absurd rfl ns
 ·rename_i nm;unfold VR at rv;obtain⟨rfl,_⟩:=rv;exact Mc G fk.handled Q r
 ·rename_i nm;unfold VR at rv;subst rv;by_cases hs:nm="set"
  ·subst hs;exact SO f ρ s H loc vs xs G fk.handled (Fd.units fk) Q r
  ·exact My G hs fk.handled fk.guards Q r
 ·exact absurd rfl ns
theorem Qv (G:C2 g) (SO:ES g) (SK:Br g K b) (fk:Ac g f (b+2)) (hn:noStar args=true) (hna:∀a x p,e≠ .Attribute a x p) (he:AE g f (BE g) ρ s ((AX K e f.cx loc H).out loc) (eval e f.env)) (ha:∀H ρ s,AF g f ρ H loc s.heap->AE g f (Ij g) ρ s ((G2 K args f.cx loc H).out loc) (spliced (backTo pos (starEach args f.env)))):
  AE g f (BE g) ρ s (((AX K e f.cx loc H).bind λfv h=>(G2 K args f.cx loc h).bind λvs h=>Ch K fv vs h).out loc) (eval (.Call e args [] pos) f.env):=by
 have ev:eval (.Call e args [] pos) f.env=(do callWith pos (←eval e f.env) [] (backTo pos (starEach args f.env)) []):=by
  cases e<;>first|rfl|exact absurd rfl (hna _ _ _)
 rw[ev];refine AE.bindR he λv H1 ρ1 s1 x e1 S1 Q1 r1=>?_;refine Cy (k:=λvs h=>Ch K v vs h) Q1 hn (λh' pQ H0 h0 ik B=>M5 G r1 ik B h0) (ha H1 ρ1 s1 Q1) λvs H2 ρ2 s2 xs S2 Q2 r2=>?_;exact N9 G SO SK fk Q2 (r1.mono (S2.CL Q1) S2.pre) r2
variable {cx:Cx}{env:Env}{es:List Expr}{o:Out α}{op:CmpOp}{ops:List CmpOp}{r whole:Sem Value}{rs:List (Sem Value)}{vs:List Value}
theorem G6 {a b:V}{c:Bool}{u:Value->Sem β}(G:C2 g) (fk:Ac g f N) (Q:AF g f ρ H loc s.heap) (ra:VR g ρ s.heap a x) (rb:VR g ρ s.heap b y) (e:Ao op a b H=some c) (h2:∀k,AE g f R ρ {s with toks:=k} o (u (.bool c))):AE g f R ρ s o (holding vs (compareOp op x y)>>=u):=
 AE.leaf (P:=λz=>z= .bool c) (ky (KG G (Fd.units fk) Q.hr ra rb e)) λa k e=>by subst e;exact h2 k
theorem FC {c:Bool}{u:Bool->Sem β}(h2:AE g f R ρ s o (u c)):AE g f R ρ s o (holding vs (truthy (.bool c))>>=u):=λns=>
 AJ (ky (qv (h2 ns)))
theorem AE.release {o:Out α}{t:Sem β}{vs ks:List Value}(h:AE g f R ρ s o t):AE g f R ρ s o (PySem.release vs ks>>=λ_=>t):=λns=>AA (DI (h ns))
theorem D0:∀{ops:List CmpOp}{es:List Expr}{ts:List (Sem Value)},lastMarks ops es=false->markedEach ops es ts=ts
 |[],_,ts,_=>by unfold markedEach;rfl
 |[op],[],ts,_=>by unfold markedEach;rfl
 |[op],[e],[t],h=>by
  have h:behindInMarks op e=false:=h;show [markedBehindIn op e t]=[t];unfold markedBehindIn;rw[h]
 |[op],[e],[],h=>rfl
 |[op],[e],t::u::ts,h=>by
  show t::markedEach [] [] (u::ts)=_;rfl
 |[op],e::e'::es,[],h=>rfl
 |[op],e::e'::es,t::ts,h=>by
  show t::markedEach [] (e'::es) ts=_;rw[D0 (by rfl)]
 |op::op'::ops,[],ts,h=>by unfold markedEach;rfl
 |op::op'::ops,e::es,[],h=>by cases es<;>rfl
 |op::op'::ops,e::es,t::ts,h=>by
  have h:lastMarks (op'::ops) es=false:=by cases es<;>exact h
  have:markedEach (op::op'::ops) (e::es) (t::ts)=t::markedEach (op'::ops) es ts:=by cases es<;>rfl
  rw[this,D0 h]
theorem GD (h:¬(ops=[]/\rs=[])):compareChain pos x (op::ops) (r::rs)=(do
  let rv←holding [x] r
  standAt pos
  let c←holding [x,rv] (compareOp op x rv)
  PySem.release [x,rv] [c]
  if←holding [c,rv] (truthy c) then compareChain pos rv ops rs else pure c):=by
 cases ops<;>cases rs<;>first|rfl|exact absurd ⟨rfl,rfl⟩ h
theorem Ib (h:¬(ops=[]/\rs=[])):testChain pos x (op::ops) (r::rs)=(do
  let rv←holding [x] r
  standAt pos
  let c←holding [x,rv] (compareOp op x rv)
  PySem.release [x,rv] [c]
  if←holding [c,rv] (truthy c) then testChain pos rv ops rs else pure false):=by
 cases ops<;>cases rs<;>first|rfl|exact absurd ⟨rfl,rfl⟩ h
theorem G1 {a:V}(h:¬(ops=[]/\es=[])):Ax K (op::ops) (e::es) a cx loc H=(AX K e cx loc H).bind λb h=>match Ao op a b h with
  |some true=>Ax K ops es b cx loc h
  |some false=>.ok false h
  |none=>.stuck:=by
 cases ops<;>cases es<;>first|exact absurd ⟨rfl,rfl⟩ h|(simp only[Ax];rfl)|(simp only[Ax];congr 1;funext b h;cases Ao op a b h with|none=>rfl|some c=>cases c<;>rfl)
theorem F8:evalEach es env=[]↔es=[]:=by
 cases es<;>simp [evalEach]
theorem Dn {pos:Pos}(G:C2 g) (fk:Ac g f N):∀{ops:List CmpOp}{es:List Expr}{a:V}{x:Value}{H:Hp}{ρ:AR}{s:Shared},(∀e∈es,Good g K f loc e)->AF g f ρ H loc s.heap->VR g ρ s.heap a x->
  AE g f BV ρ s ((Ax K ops es a f.cx loc H).out loc) (compareChain pos x ops (evalEach es f.env))
 |[],es,a,x,H,ρ,s,_,_,_=>by simp only[Ax];exact AE.stuck
 |op::ops,[],a,x,H,ρ,s,_,_,_=>by simp only[Ax];exact AE.stuck
 |op::ops,e::es,a,x,H,ρ,s,he,Q,ra=>by
  by_cases hl:ops=[]/\es=[]
  ·obtain⟨rfl,rfl⟩:=hl;simp only[Ax];show AE g f BV ρ s _ (do let rv←holding [x] (eval e f.env);standAt pos;operate [x,rv] (compareOp op x rv));refine AE.bindR (AE.holding (he e (.head _) H ρ s Q)) λb H1 ρ1 s1 y e1 S1 Q1 r1=>AE.standAt ?_;cases hc:Ao op a b H1 with
   |none=>exact AE.stuck
   |some c=>
    refine AE.of (DK (AL (jV (E:=λ_ _=>False) (KG G (Fd.units fk) Q1.hr (ra.mono (S1.CL Q) S1.pre) r1 hc) (λz s2 ⟨⟨k,e2⟩,e3⟩=>?_) λ_ _ q=>q.elim)));subst e2 e3;exact AT Q1 rfl
  ·rw[G1 hl];show AE g f BV ρ s _ (compareChain pos x (op::ops) (eval e f.env::evalEach es f.env));rw[GD λq=>hl ⟨q.1,F8.mp q.2⟩];refine AE.bindR (AE.holding (he e (.head _) H ρ s Q)) λb H1 ρ1 s1 y e1 S1 Q1 r1=>AE.standAt ?_;cases hc:Ao op a b H1 with
   |none=>exact AE.stuck
   |some c=>
    refine G6 G fk Q1 (ra.mono (S1.CL Q) S1.pre) r1 hc λk=>AE.release (FC ?_);cases c with
    |true=>exact Dn G fk (λe m=>he e (.tail _ m)) Q1 r1
    |false=>exact AE.pure Q1 rfl
theorem E4 {pos:Pos}(G:C2 g) (fk:Ac g f N):∀{ops:List CmpOp}{es:List Expr}{a:V}{x:Value}{H:Hp}{ρ:AR}{s:Shared},(∀e∈es,Good g K f loc e)->AF g f ρ H loc s.heap->VR g ρ s.heap a x->
  AE g f BR ρ s ((Ax K ops es a f.cx loc H).out loc) (testChain pos x ops (evalEach es f.env))
 |[],es,a,x,H,ρ,s,_,_,_=>by simp only[Ax];exact AE.stuck
 |op::ops,[],a,x,H,ρ,s,_,_,_=>by simp only[Ax];exact AE.stuck
 |op::ops,e::es,a,x,H,ρ,s,he,Q,ra=>by
  by_cases hl:ops=[]/\es=[]
  ·obtain⟨rfl,rfl⟩:=hl;simp only[Ax];show AE g f BR ρ s _ (do let rv←holding [x] (eval e f.env);standAt pos;let c←operate [x,rv] (compareOp op x rv);holding [c] (truthy c));refine AE.bindR (AE.holding (he e (.head _) H ρ s Q)) λb H1 ρ1 s1 y e1 S1 Q1 r1=>AE.standAt ?_;cases hc:Ao op a b H1 with
   |none=>exact AE.stuck
   |some c=>
    refine AE.of (AA (DK (AL (jV (E:=λ_ _=>False) (KG G (Fd.units fk) Q1.hr (ra.mono (S1.CL Q) S1.pre) r1 hc) (λz s2 ⟨⟨k,e2⟩,e3⟩=>?_) λ_ _ q=>q.elim))));subst e2 e3;exact AL (ky (qv (AT Q1 rfl)))
  ·rw[G1 hl];show AE g f BR ρ s _ (testChain pos x (op::ops) (eval e f.env::evalEach es f.env));rw[Ib λq=>hl ⟨q.1,F8.mp q.2⟩];refine AE.bindR (AE.holding (he e (.head _) H ρ s Q)) λb H1 ρ1 s1 y e1 S1 Q1 r1=>AE.standAt ?_;cases hc:Ao op a b H1 with
   |none=>exact AE.stuck
   |some c=>
    refine G6 G fk Q1 (ra.mono (S1.CL Q) S1.pre) r1 hc λk=>AE.release (FC ?_);cases c with
    |true=>exact E4 G fk (λe m=>he e (.tail _ m)) Q1 r1
    |false=>exact AE.pure Q1 rfl
theorem Kr {l:Expr}{rs:List Expr}(G:C2 g) (fk:Ac g f N) (hm:lastMarks ops rs=false) (hl:Good g K f loc l) (he:∀e∈rs,Good g K f loc e) (Q:AF g f ρ H loc s.heap):
  AE g f (BE g) ρ s (((AX K l f.cx loc H).bind λa h=>(Ax K ops rs a f.cx loc h).bind λb h=>.ok (.bool b) h).out loc) (eval (.Compare l ops rs pos) f.env):=by
 show AE g f (BE g) ρ s _ (do compareChain pos (←eval l f.env) ops (markedEach ops rs (evalEach rs f.env)));rw[D0 hm];refine AE.bindR (hl H ρ s Q) λa H1 ρ1 s1 x e1 S1 Q1 r1=>?_;intro ns;refine AG (Dn G fk he Q1 r1 (pos:=pos) (ops:=ops) λe=>ns ?_) (λz s2 q=>?_) λe s2 q=>?_
 ·cases hz:Ax K ops rs a f.cx loc H1 with
  |ok=>rw [hz] at e;cases e
  |exc=>rw [hz] at e;cases e
  |stuck=>rfl
 ·obtain⟨c,l',H',ρ',e2,S,Q',r⟩:=q;cases hz:Ax K ops rs a f.cx loc H1 with
  |ok c' H2=>
   rw[hz] at e2;cases e2;refine⟨_,_,_,ρ',rfl,S,Q',?_⟩;have r:z= .bool c:=r;subst r;exact D9
  |exc=>rw [hz] at e2;cases e2
  |stuck=>rw [hz] at e2;cases e2
 ·obtain⟨c,l',H',ρ',x',e0,e2,F,Q'⟩:=q;cases hz:Ax K ops rs a f.cx loc H1 with
  |ok c' H2=>rw [hz] at e2;cases e2
  |exc c' H2=>rw [hz] at e2;cases e2;exact⟨_,_,_,ρ',x',e0,rfl,F,Q'⟩
  |stuck=>rw [hz] at e2;cases e2
theorem HA {l:Expr}{rs:List Expr}(G:C2 g) (fk:Ac g f N) (hm:lastMarks ops rs=false) (hl:Good g K f loc l) (he:∀e∈rs,Good g K f loc e) (Q:AF g f ρ H loc s.heap):
  AE g f BR ρ s (((AX K l f.cx loc H).bind λa h=>Ax K ops rs a f.cx loc h).out loc) (isTrue (.Compare l ops rs pos) f.env whole):=by
 show AE g f BR ρ s _ (do testChain pos (←eval l f.env) ops (markedEach ops rs (evalEach rs f.env)));rw[D0 hm];exact AE.bindR (hl H ρ s Q) λa H1 ρ1 s1 x e1 S1 Q1 r1=>E4 G fk he Q1 r1
theorem Fb {pos:Pos}{op:BoolOp}:∀{es:List Expr}{H:Hp}{ρ:AR}{s:Shared},(∀e∈es,Good g K f loc e)->AF g f ρ H loc s.heap->
  AE g f (BE g) ρ s ((E5 K op es f.cx loc H).out loc) (boolOp pos op (evalEach es f.env))
 |[],H,ρ,s,_,_=>by simp only[E5];exact AE.stuck
 |[e],H,ρ,s,he,Q=>by simp only[E5];exact he e (.head _) H ρ s Q
 |e::e'::es,H,ρ,s,he,Q=>by
  simp only[E5];show AE g f (BE g) ρ s _ (do
   let v←eval e f.env
   standAt pos
   let t←holding [v] (truthy v)
   match op,t with
   | .And,false| .Or,true=>pure v
   |_,_=>boolOp pos op (evalEach (e'::es) f.env))
  refine AE.bindR (he e (.head _) H ρ s Q) λv H1 ρ1 s1 x e1 S1 Q1 r1=>AE.standAt ?_;cases ht:BA v with
  |none=>cases op<;>exact AE.stuck
  |some t=>
   refine AE.leaf (P:=λc=>c=t) (ky (jV (E:=λ_ _=>False) (GU r1 ht) (λc s2 ⟨e2,e3⟩=>⟨e2▸Cb s1,e3⟩) λ_ _ q=>q)) λc k e2=>?_;subst e2;cases op<;>cases c
   ·exact AE.pure Q1 r1
   ·exact Fb (λe m=>he e (.tail _ m)) Q1
   ·exact Fb (λe m=>he e (.tail _ m)) Q1
   ·exact AE.pure Q1 r1
def Cp (g:Gd) (K:AN) (f:Fd) (loc:Loc) (e:Expr):Prop:=∀H ρ s,AF g f ρ H loc s.heap->AE g f BR ρ s ((HE K e f.cx loc H (AX K e f.cx loc H)).out loc) (isTrue e f.env (eval e f.env))
theorem EN {op:BoolOp}:∀{es:List Expr}{H:Hp}{ρ:AR}{s:Shared},(∀e∈es,Cp g K f loc e)->AF g f ρ H loc s.heap->
  AE g f BR ρ s ((LV K op es f.cx loc H).out loc) (allTrue op es f.env)
 |[],H,ρ,s,_,Q=>by
  simp only[LV];cases op<;>exact AE.pure Q rfl
 |e::es,H,ρ,s,he,Q=>by
  simp only[LV];show AE g f BR ρ s _ (do
   match op,←isTrue e f.env (eval e f.env) with
   | .And,false=>pure false
   | .Or,true=>pure true
   |_,_=>allTrue op es f.env)
  refine AE.bindR (he e (.head _) H ρ s Q) λv H1 ρ1 s1 x e1 S1 Q1 r1=>?_;have r1:v=x:=r1;subst r1;cases op<;>cases v
  ·exact AE.pure Q1 rfl
  ·exact EN (λe m=>he e (.tail _ m)) Q1
  ·exact EN (λe m=>he e (.tail _ m)) Q1
  ·exact AE.pure Q1 rfl
theorem Lp (he:Cp g K f loc e) (Q:AF g f ρ H loc s.heap):
  AE g f BR ρ s (((HE K e f.cx loc H (AX K e f.cx loc H)).bind λb h=>.ok (!b) h).out loc) (isTrue (.UnaryOp .Not e pos) f.env whole):=by
 show AE g f BR ρ s _ (do return !(←isTrue e f.env (eval e f.env)));refine AE.bindR (he H ρ s Q) λv H1 ρ1 s1 x e1 S1 Q1 r1=>?_;have r1:v=x:=r1;subst r1;exact AE.pure Q1 rfl
variable {H':Hp}{hi lo:Option Expr}{i:Nat}{p:Addr×Addr}
theorem RN {o o':O}{k:Nat}(Q:AF g f ρ H loc s.heap) (hp:ρ[i]? =some p) (hi:H[i]? =some o) (sb:∀b o,b≠p.1->s.heap.get? b=some o->h'.get? b=some o) (x:AI s.heap h'->By g ρ h' o' p):Step g f.fr [f.L] ρ s ρ {s with heap:=h',toks:=k}/\AF g f ρ (H.set i o') loc h':=by
 have ni:=(Q.hr.rep.obj i o p hi hp).EK;have ik:AI s.heap h':=λb o e im=>sb b o (λq=>by subst q;exact ni.1 o e im) e;exact⟨Step.set (t:=k) Q.hr hp (λb o n1 _ e=>sb b o n1 e) (x ik),Q.set hp ⟨_,hi⟩ (λb o n1 _ e=>sb b o n1 e) (x ik)⟩
theorem QC {o p q:V}{i z:Value}(hg:f.A.guards=some []) (Q:AF g f ρ H loc s.heap) (ro:VR g ρ s.heap o x) (rs:TI g ρ s.heap (p,q) i) (rv:VR g ρ s.heap v z) (e:EJ o p q v H=some H'):
  Ai g.M f.A (setItem x i z) (λ_ s'=>Step g f.fr [f.L] ρ s ρ s'/\AF g f ρ H' loc s'.heap) E s:=by
 obtain⟨sl,xp,xq,rfl,hsl,rp,rq⟩:=rs;unfold EJ at e;split at e
 ·rename_i a np m hp;obtain⟨lo,pl,rfl⟩:=Jb rp hp;unfold VR at ro;obtain⟨pp,hpp,rfl⟩:=ro;unfold VR at rv;obtain⟨c,t,rfl,rfl,ig⟩:=rv;split at e
  ·rename_i l hl;obtain⟨p',dN,e0,b,h2,rfl,hz⟩:=Q.hr.rep.get hl;rw[hpp] at dN;cases dN;split at e
   ·rename_i nq hq;obtain⟨hi,pu,rfl⟩:=Es rq hq;split at e
    ·rename_i hc;cases e;rw[Cm,Cm] at hc;refine Gk hg h2 (by unfold lid at hz;omega) hsl pl pu hc.1 hc.2.1 hc.2.2 λh' h3 h4 _=>?_;exact RN Q hpp hl h4 λik=>⟨e0,_,h3,by rw[Cm];exact Uz hc.2.1,by simp only[qY,Array.size_extract];omega⟩
    ·cases e
   ·cases e
  ·cases e
 ·cases e
theorem Kj {e:Option Expr}(he:∀x,e=some x->Good g K f loc x) (Q:AF g f ρ H loc s.heap):AE g f (BE g) ρ s ((KV K e f.cx loc H).out loc) (valueOrNone (evalOpt e f.env)):=by
 cases e with
 |none=>simp only[KV];exact AE.pure Q (by unfold BE VR;rfl)
 |some x=>simp only[KV];exact he x rfl H ρ s Q
theorem Jq {a b:Value}{p q:V}(Q:AF g f ρ H loc s.heap) (rp:VR g ρ s.heap p a) (rq:VR g ρ s.heap q b):AE g f (TI g) ρ s (.ok (p,q) loc H) (newFields "slice" [a,b,.none]):=by
 refine AE.of (AL ?_);show wpAny _ _ (newObj (.type "slice") (.fields #[a,b,.none])) _ _ s;refine qw ?_;refine De (k:=s.toks) Q ?_;exact⟨_,a,b,rfl,⟨_,eQ _ rfl,rfl,rfl⟩,rp.mono (AI.of_keeps (Ak _)) (eC _),rq.mono (AI.of_keeps (Ak _)) (eC _)⟩
theorem JZ (h1:∀x,lo=some x->Good g K f loc x) (h2:∀x,hi=some x->Good g K f loc x) (Q:AF g f ρ H loc s.heap):
  AE g f (TI g) ρ s (((KV K lo f.cx loc H).bind λp h=>(KV K hi f.cx loc h).bind λq h=>.ok (p,q) h).out loc) (eval (.Slice lo hi none pos) f.env):=by
 show AE g f (TI g) ρ s _ (do
  let l←valueOrNone (evalOpt lo f.env)
  let u←holding [l] (valueOrNone (evalOpt hi f.env))
  let s←holding [l,u] (valueOrNone none)
  newFields "slice" [l,u,s])
 refine AE.bindR (Kj h1 Q) λp H1 ρ1 s1 x e1 S1 Q1 r1=>?_;refine AE.bindR (AE.holding (Kj h2 Q1)) λq H2 ρ2 s2 y e2 S2 Q2 r2=>?_;show AE g f (TI g) ρ2 s2 _ (holding [x,y] (pure Value.none)>>=λs=>newFields "slice" [x,y,s]);intro ns;exact AA (AM (AB (Jq Q2 (r1.mono (S2.CL Q1) S2.pre) r2 ns)))
theorem Iv {i:Expr}(he:Good g K f loc e) (hi:Good g K f loc i) (Q:AF g f ρ H loc s.heap):
  AE g f (BE g) ρ s (((AX K e f.cx loc H).bind λo h=>(AX K i f.cx loc h).bind λk h=>Res.some h (BM o k h)).out loc) (eval (.Subscript e i pos) f.env):=by
 show AE g f (BE g) ρ s _ (do
  let o←eval e f.env
  let k←holding [o] (eval i f.env)
  standAt pos
  subscriptTail e i o k)
 refine AE.bindR (he H ρ s Q) λo H1 ρ1 s1 x e1 S1 Q1 r1=>?_;refine AE.bindR (AE.holding (hi H1 ρ1 s1 Q1)) λk H2 ρ2 s2 y e2 S2 Q2 r2=>AE.standAt ?_;exact RB Q2 (r1.mono (S2.CL Q1) S2.pre) r2
theorem XA {pq:V×V}(r:TI g ρ h pq x) (k:AI h h') (p:ρ<+:ρ') (ks:∀a o,h.get? a=some o->o.cls= .type "slice"->h'.get? a=some o):TI g ρ' h' pq x:=by
 obtain⟨sl,a,b,e,⟨o,h1,h2,h3⟩,ra,rb⟩:=r;exact⟨sl,a,b,e,⟨o,ks _ _ h1 h2,h2,h3⟩,ra.mono k p,rb.mono k p⟩
theorem Ld {r:Res V}{a:V->Hp->Res V}{k:V->V->Hp->Res β}:(r.bind λp h=>(a p h).bind λq h=>k p q h)=((r.bind λp h=>(a p h).bind λq h=>(.ok (p,q) h:Res (V×V))).bind λpq h=>k pq.1 pq.2 h):=by
 cases r with
 |ok p h=>
  show (a p h).bind _=((a p h).bind _).bind _;cases a p h<;>rfl
 |exc=>rfl
 |stuck=>rfl
theorem Mq {spos:Pos}(he:Good g K f loc e) (h1:∀x,lo=some x->Good g K f loc x) (h2:∀x,hi=some x->Good g K f loc x) (Q:AF g f ρ H loc s.heap):
  AE g f (BE g) ρ s (((AX K e f.cx loc H).bind λo h=>(KV K lo f.cx loc h).bind λp h=>(KV K hi f.cx loc h).bind λq h=>EG o p q h).out loc) (eval (.Subscript e (.Slice lo hi none spos) pos) f.env):=by
 show AE g f (BE g) ρ s _ (do
  let o←eval e f.env
  let k←holding [o] (eval (.Slice lo hi none spos) f.env)
  standAt pos
  subscriptTail e (.Slice lo hi none spos) o k)
 refine AE.bindR (he H ρ s Q) λo H1 ρ1 s1 x e1 S1 Q1 r1=>?_;rw[Ld];refine AE.bindR (AE.holding (JZ h1 h2 Q1)) λpq H2 ρ2 s2 y e2 S2 Q2 r2=>AE.standAt ?_;exact Qu Q2 (r1.mono (S2.CL Q1) S2.pre) r2
variable {X:List Addr}
theorem Step.adopt {d:Addr}{t:Nat}(S:Step g fr X ρ s ρ' s') (hd:s.heap.get? d=none) (k:∀b o,b≠d->s'.heap.get? b=some o->h'.get? b=some o) (kd:∃o,h'.get? d=some o):
  Step g fr X ρ s (ρ'++[(d,d)]) {s' with heap:=h',toks:=t}:=by
 have ne:∀{b o},s.heap.get? b=some o->b≠d:=λe q=>by subst q;rw[hd] at e;cases e
 refine⟨S.pre.trans (hW _ _),λp hp=>?_,λb o e n x tb fr=>k b o (ne e) (S.kept b o e n x tb fr),λb o e fr x=>?_,λb o e=>?_,?_⟩
 ·obtain⟨u,rfl⟩:=S.pre;rw[kt,mB] at hp;rcases eI.mp hp with m|m
  ·exact S.new p (by rw[mB];exact m)
  ·rw[eA.mp m];exact⟨hd,hd⟩
 ·obtain⟨sl,h1⟩:=S.slots b o e fr x;exact⟨sl,k _ _ (ne e) h1⟩
 ·obtain⟨o',h1⟩:=S.alive b o e;exact⟨o',k _ _ (ne e) h1⟩
 ·obtain⟨h,tk,e⟩:=S.rest;exact⟨h',t,by rw[e]⟩
theorem Nw {b:Addr}(o:Own (ρ++[p]) b):Own ρ b∨b=p.1∨b=p.2:=by
 obtain⟨q,hq,hb⟩:=o;rcases eI.mp hq with m|m
 ·exact .inl ⟨q,m,hb⟩
 ·rw[eA.mp m] at hb;exact .inr hb
theorem AF.adopt {d:Addr}{o:O}(Q:AF g f ρ H loc h) (b0:g.base.get? d=none) (no:¬Own ρ d) (nf:d∉BZ f.fr) (nt:d∉g.Dz) (nl:d≠f.L) (x:By g (ρ++[(d,d)]) h o (d,d)):
  AF g f (ρ++[(d,d)]) (H++[o]) loc h:=by
 have nd:∀{b},¬Own ρ b->b≠d->¬Own (ρ++[(d,d)]) b:=λn1 n2 q=>by
  rcases Nw q with a|a|a
  ·exact n1 a
  ·exact n2 a
  ·exact n2 a
 refine⟨Q.toI7.of (AI.refl h) (hW _ _) (nd Q.lo (Ne.symm nl)) λ_ hn=>hn,?_⟩;refine⟨Q.hr.base,Q.hr.rep.push (λ_ _ e=>e) (λb hb=>⟨λq=>no (by have q:b=d:=q;rw[←q];exact hb),λq=>no (by have q:b=d:=q;rw[←q];exact hb)⟩) x,λq hq=>?_,λenv he=>?_,λq hq=>?_⟩
 ·rcases eI.mp hq with m|m
  ·exact Q.hr.fresh q m
  ·rw[eA.mp m];exact⟨b0,b0⟩
 ·obtain⟨kd,L,o,es,ep,h1,h2,h3,h4,h5⟩:=Q.hr.frames env he;exact⟨kd,L,o,es,ep,h1,h2,h3,h4,nd h5 λq=>nf (q▸kA.mpr ⟨env,he,h1⟩)⟩
 ·obtain⟨a,r⟩:=Q.hr.tabs q hq;exact⟨nd a λe=>nt (e▸eJ.mpr ⟨q,hq,rfl⟩),r⟩
theorem Ha {T:Type} [DecidableEq T]:∀{more acc:List (T×Value)},((acc++more).map (·.1)).Nodup->merged acc more=acc++more
 |[],acc,_=>by simp [merged]
 |(k,v)::more,acc,h=>by
  have hk:¬(acc.any λkv=>decide (kv.1=k))=true:=by
   intro q;obtain⟨kv,m,e⟩:=qd.mp q;rw[gL,kz] at h;exact h.2.2 kv.1 (qc m) k (by simp) (by simpa using e)
  have e:merged acc ((k,v)::more)=merged (acc++[(k,v)]) more:=by
   show merged (stored acc k v) more=_;unfold stored;rw[T8 hk]
  rw[e,Ha (by simpa using h)];simp
def PJ (g:Gd):AR->Heap->List (Str×V)->List (Value×Value)->Prop:=λρ h d vs=>∃kvs,Carries (PySem.strKind g.prog g.w) vs kvs/\HG g ρ h d kvs/\(d.map (·.1)).Nodup
theorem NA {α:Type}{x:Str}:∀{d:List (Str×α)},(lk x d).isSome=false->x∉d.map (·.1)
 |[],_=>by simp
 |(y,v)::r,h=>by
  unfold lk at h;split at h
  ·cases h
  ·rename_i n;simp only[ij,fg,not_or];exact⟨n,NA h⟩
theorem JY {pos:Pos}:∀{ks:List (Option Expr)}{vs:List Expr}{H:Hp}{ρ:AR}{s:Shared},ks.all (·.isSome)=true->(∀k∈ks,∀e,k=some e->Good g K f loc e)->(∀e∈vs,Good g K f loc e)->AF g f ρ H loc s.heap->
  AE g f (PJ g) ρ s ((BN (CR K ks f.cx loc) (each K vs f.cx loc) H).out loc) (evalPairs (pairTrees ks vs f.env pos))
 |[],[],H,ρ,s,_,_,_,Q=>by
  simp only[CR,each,BN];exact AE.pure Q ⟨[],trivial,rfl,by simp⟩
 |[],_::_,H,ρ,s,_,_,_,Q=>by simp only[CR,each,BN];exact AE.stuck
 |_::_,[],H,ρ,s,_,_,_,Q=>by simp only[CR,each,BN];exact AE.stuck
 |none::ks,v::vs,H,ρ,s,h,_,_,Q=>by simp at h
 |some k::ks,v::vs,H,ρ,s,h,hk,hv,Q=>by
  simp only[CR,each,BN,KV];show AE g f (PJ g) ρ s _ (do
   let kv←eval k f.env
   let vv←holding [kv] (do let x←eval v f.env;standAt pos;pure x)
   return (kv,vv)::(←holding [kv,vv] (evalPairs (pairTrees ks vs f.env pos))))
  refine AE.bindR (hk _ (.head _) k rfl H ρ s Q) λa H1 ρ1 s1 x e1 S1 Q1 r1=>?_;have hx:AE g f (BE g) ρ1 s1 ((AX K v f.cx loc H1).out loc) (do let x←eval v f.env;standAt pos;pure x):=λns=>by
   refine AA (AG (hv v (.head _) H1 ρ1 s1 Q1 ns) (λr s2 hr=>AA (AY (AB hr))) λ_ _ q=>q)
  refine AE.bindR (AE.holding hx) λb H2 ρ2 s2 y e2 S2 Q2 r2=>?_;refine AE.bindR (AE.holding (JY (by simpa using h) (λk m=>hk k (.tail _ m)) (λe m=>hv e (.tail _ m)) Q2)) λd H3 ρ3 s3 vs' e3 S3 Q3 r3=>?_;cases a<;>try exact AE.stuck
  rename_i xs;dsimp only;cases hl:(lk xs d).isSome with
  |true=>exact AE.stuck
  |false=>
   obtain⟨kvs,c1,c2,c3⟩:=r3;have r1':=r1;unfold BE VR at r1';obtain⟨t,rfl⟩:=r1';refine AE.pure Q3 ⟨(xs,y)::kvs,⟨M6,rfl,c1⟩,⟨y,kvs,rfl,r2.mono (S3.CL Q2) S3.pre,c2⟩,?_⟩;simp only[ij,gl];exact⟨NA hl,c3⟩
theorem HG.Xr {d:List (Str×V)}{l:List (Str×Value)}(r:HG g ρ h d l):l.length=d.length:=r.len
theorem I8:∀{ks vs:List (Hp->Res V)}{H H':Hp}{d:List (Str×V)},BN ks vs H= .ok d H'->d.length=ks.length
 |[],[],H,H',d,e=>by simp only[BN] at e;cases e;rfl
 |[],_::_,H,H',d,e=>by simp only[BN] at e;cases e
 |_::_,[],H,H',d,e=>by simp only[BN] at e;cases e
 |k::ks,v::vs,H,H',d,e=>by
  simp only[BN] at e;cases h1:k H with
  |exc=>rw [h1] at e;cases e
  |stuck=>rw [h1] at e;cases e
  |ok a H1=>
   rw[h1] at e
   change (v H1).bind _=_ at e
   cases h2:v H1 with
   |exc=>rw [h2] at e;cases e
   |stuck=>rw [h2] at e;cases e
   |ok b H2=>
    rw[h2] at e
    change (BN ks vs H2).bind _=_ at e
    cases h3:BN ks vs H2 with
    |exc=>rw [h3] at e;cases e
    |stuck=>rw [h3] at e;cases e
    |ok d' H3=>
     rw[h3] at e;have ih:=I8 h3
     change (match a with| .str x=>if (lk x d').isSome then (.stuck:Res (List (Str×V))) else .ok ((x,b)::d') H3|_=>.stuck)=_ at e
     split at e
     ·split at e
      ·cases e
      ·cases e;simp [ih]
     ·cases e
theorem Jl:∀{ks:List (Option Expr)}{cx:Cx},(CR K ks cx loc).length=ks.length
 |[],_=>rfl
 |k::ks,cx=>by simp only[CR,KX,Jl]
theorem Oy {ks:List (Option Expr)}{vs:List Expr}(h0:ks≠[]) (hall:ks.all (·.isSome)=true) (hl:ks.length=vs.length) (hlen:ks.length<=15) (hk:∀k∈ks,∀e,k=some e->Good g K f loc e) (hv:∀e∈vs,Good g K f loc e) (Q:AF g f ρ H loc s.heap):
  AE g f (BE g) ρ s (((BN (CR K ks f.cx loc) (each K vs f.cx loc) H).bind λd h=>(.ok (.ref h.length) (h++[.dO d]):Res V)).out loc) (eval (.Dict ks vs pos) f.env):=by
 have hn:=pairTrees_length ks vs f.env pos hall hl;have hp0:pairTrees ks vs f.env pos≠[]:=λhe=>by
  rw[he] at hn;exact h0 (pA.mp hn.symm)
 rw[arm_eval_Dict,zip_pairTrees ks vs f.env pos hall hl,dictDisplay_pairs _ hp0 (by rw[hn];omega)];refine AE.standAt ?_;intro ns;unfold subDict;have hd:=As s.heap;generalize j0:s.heap.objs.size=d at hd;have QP:=Q.push {cls:=.type "dict",data:=.dict #[]};have ps:=JY (pos:=pos) (K:=K) (s:={s with heap:=s.heap.push {cls:=.type "dict",data:=.dict #[]}}) hall hk hv QP (Jf ns|>λx e=>x (by cases hq:BN (CR K ks f.cx loc) (each K vs f.cx loc) H<;>rw [hq] at e<;>first|rfl|cases e));have S0:Step g f.fr [f.L] ρ s ρ {s with heap:=s.heap.push {cls:=.type "dict",data:=.dict #[]}}:=Step.push (t:=s.toks) _;refine AA (AJ (s6 ?_));rw[j0];refine AA (AM ?_);rw[UQ (by rw[hn];exact hlen)];refine AA (AG ps (λprs s1 hq=>?_) λe s1 hq=>?_)
 ·obtain⟨dd,l',H1,ρ1,e1,S1,Q1,kvs,c1,c2,c3⟩:=hq;have e2:BN (CR K ks f.cx loc) (each K vs f.cx loc) H= .ok dd H1/\l'=loc:=by
   cases hq:BN (CR K ks f.cx loc) (each K vs f.cx loc) H<;>rw [hq] at e1<;>cases e1<;>exact ⟨rfl,rfl⟩
  obtain⟨e2,rfl⟩:=e2;have hdl:=I8 e2;rw[Jl] at hdl;have fW:(s.heap.push ({cls:=.type "dict",data:=.dict #[]}:Obj)).get? d=some {cls:=.type "dict",data:=.dict #[]}:=by rw[←j0];exact eQ _ rfl
  have j6:¬Own ρ d:=λq=>by
   obtain⟨ob,hb⟩:=Q.hr.rep.there q;rw[hd] at hb;cases hb
  have nf:d∉BZ f.fr:=λq=>by
   obtain⟨ob,hb⟩:=Q.hr.HJ q;rw[hd] at hb;cases hb
  have nt:d∉g.Dz:=λq=>by
   obtain⟨ob,hb⟩:=Q.hr.GB q;rw[hd] at hb;cases hb
  have nl:d≠f.L:=λq=>by
   obtain⟨ob,hb⟩:=Q.toI7.there;rw[←q,hd] at hb;cases hb
  have d1:s1.heap.get? d=some {cls:=.type "dict",data:=.dict #[]}:=S1.kept d _ fW j6 (by simpa using nl) nt nf;have j7:¬Own ρ1 d:=λq=>by
   obtain⟨pp,hpp,hb⟩:=q;obtain⟨u,rfl⟩:=S1.pre;rcases eI.mp hpp with m|m
   ·exact j6 ⟨pp,m,hb⟩
   ·have:=S1.new pp (by rw[mB];exact m)
    rcases hb with rfl|rfl
    ·rw[fW] at this;cases this.1
    ·rw[fW] at this;cases this.2
  have hm:s1.heap.DictOf (PySem.strKind g.prog g.w) d []:=⟨_,#[],0,d1,⟨rfl,rfl,rfl⟩,rfl,λ_ he=>by simp at he,Pairs.nil,List.nodup_nil⟩;have hsz:([]:List (Str×Value)).length+kvs.length<=sizeLine:=by
   rw[il,Ti,c2.len];omega
  refine AM (AJ (wpAny_storeAll (knd:=PySem.strKind g.prog g.w) prs kvs [] s1 _ c1 hm hsz λh' hm' hs'=>AB (AB (AB ?_))));rw[Ha (by simpa [c2.keys] using c3)] at hm';rw[e2];have kx:∀b o,b≠d->s1.heap.get? b=some o->h'.get? b=some o:=λb o n e=>hs'.extBut b o n e;have Q2:AF g f ρ1 H1 l' h':=Q1.but (it:=d) hs'.extBut (Q.hr.Gr hd) j7 nf nt (λo e im=>by
   rw[d1] at e;cases e;rcases im with ⟨_,_,q,_⟩|⟨_,q⟩|⟨_,q,_⟩|⟨_,_,_,q⟩<;>cases q) nl
  have ik:AI s1.heap h':=λb o e im=>kx b o (λq=>by
   subst q;rw[d1] at e;cases e;rcases im with ⟨_,_,q,_⟩|⟨_,q⟩|⟨_,q,_⟩|⟨_,_,_,q⟩<;>cases q) e
  have x:By g (ρ1++[(d,d)]) h' (.dO dd) (d,d):=⟨rfl,kvs,hm',c2.mono ik (hW _ _),by unfold lid;omega⟩;refine⟨_,_,_,ρ1++[(d,d)],rfl,(S0.trans S1).adopt hd kx (let ⟨o,_,_,h1,_⟩:=hm';⟨o,h1⟩),Q2.adopt (Q.hr.Gr hd) j7 nf nt nl x,?_⟩;unfold BE VR;exact⟨(d,d),by rw[←Q1.hr.rep.len];simp,rfl⟩
 ·obtain⟨c,l',H1,ρ1,x,e0,e1,F,L1⟩:=hq;have e2:BN (CR K ks f.cx loc) (each K vs f.cx loc) H= .exc c H1/\l'=loc:=by
   cases hq:BN (CR K ks f.cx loc) (each K vs f.cx loc) H<;>rw [hq] at e1<;>cases e1<;>exact ⟨rfl,rfl⟩
  obtain⟨e2,rfl⟩:=e2;rw[e2];exact⟨c,_,H1,ρ1,x,e0,rfl,F.before S0,L1⟩
theorem OF {vs:List Expr}(G:C2 g) (Q:AF g f ρ H loc s.heap):AE g f (BE g) ρ s ((.ok (.ref H.length) (H++[.U' []]):Res V).out loc) (eval (.Dict [] vs pos) f.env):=by
 rw[arm_eval_Dict];have e:(evalEachOpt [] f.env).zip ((evalEach vs f.env).map λv=>do let x←v;standAt pos;pure x)=[]:=rfl;rw[e];refine AE.standAt (AE.of (AL ?_));show wpAny _ _ (newObj (.type "dict") (.dict #[])) _ _ s;refine qw ?_;exact Dq (k:=s.toks) Q ⟨⟨rfl,G.room Q.hr.base⟩,[],Heap.DictOf.new s.heap,rfl,by simp⟩
structure I0 (g:Gd):Prop where
 tab:∀q∈g.tabs,g.base.get? q.2.1=none/\CodeHd g.base q.1 q.2.1/\∃mg,g.base.Ns mainGlobals mg/\g.base.BuiltinsAt mg q.2.1/\mainGlobals≠q.2.1
 apart:∀q∈g.tabs,∀q'∈g.tabs,q.2.1=q'.2.1->q=q'
theorem Io {pos':Pos}{cv c:Value}(l:List Value) (ok:TriplesOk l) (e:codeAmong pos' (l++[rawInt pos.line,rawInt pos.col,c])=some cv):codeAmong pos' l=some cv∨cv=c:=by
 fun_induction TriplesOk l with
 |case1=>
  simp only[qU,codeAmong,rawInt] at e;split at e
  ·cases e;exact .inr rfl
  ·cases e
 |case2 a t b u x rest ih=>
  simp only[oP,codeAmong] at e ⊢;split at e
  ·rename_i hh;rw[UQ hh];exact .inl e
  ·rename_i hh;rw[T8 hh];exact ih ok e
 |case3=>exact ok.elim
theorem Lo {c:Value}(l:List Value) (ok:TriplesOk l):TriplesOk (l++[rawInt pos.line,rawInt pos.col,c]):=by
 fun_induction TriplesOk l with
 |case1=>exact trivial
 |case2 a t b u x rest ih=>exact ih ok
 |case3=>exact ok.elim
theorem AF.UY {q:Addr×Addr×Str}{ps:Array Value}{c:Addr}(T:I0 g) (Q:AF g f ρ H loc h) (hq:q∈g.tabs) (k:Heap.ExtBut q.2.1 h h') (hp:h.get? q.2.1=some (tabObj ps)) (ok:TriplesOk ps.toList) (hP:h'.get? q.2.1=some (tabObj (ps++ #[rawInt pos.line,rawInt pos.col,.ref c]))) (hc:h'.CodeRec (.ref c) q.2.2):AF g f ρ H loc h':=by
 have nI:∀o,h.get? q.2.1=some o->¬Fr o:=λo e=>by rw[hp] at e;cases e;exact Je ok
 have no:¬Own ρ q.2.1:=(Q.hr.tabs q hq).1;have ik:AI h h':=λb o e im=>k b o (λz=>by subst z;exact nI o e im) e;have nL:q.2.1≠f.L:=λz=>by
  obtain⟨m,⟨ob,es,ep,h1,h2,_⟩,_⟩:=Q.ns;rw[z,h1] at hp;cases hp;cases h2
 refine⟨Q.toI7.of ik (eC _) Q.lo (λm ⟨o,es,ep,h1,r⟩=>⟨o,es,ep,k _ _ (Ne.symm nL) h1,r⟩),?_⟩;refine⟨λb o e=>k b o (λz=>by subst z;rw[(T.tab q hq).1] at e;cases e) (Q.hr.base b o e),Q.hr.rep.mono ik λb o ow e=>k b o (λz=>no (z▸ow)) e,Q.hr.fresh,λenv he=>?_,λq' hq'=>?_⟩
 ·obtain⟨kd,L,o,es,ep,h1,h2,h3,h4,h5⟩:=Q.hr.frames env he;refine⟨kd,L,o,es,ep,h1,h2,k L o (λz=>?_) h3,h4,h5⟩;rw[z,hp] at h3;cases h3;cases h4
 ·obtain⟨a,ps',h1,h2,h3⟩:=Q.hr.tabs q' hq';by_cases fu:q'.2.1=q.2.1
  ·obtain rfl:=T.apart q' hq' q hq fu;rw[hp] at h1;have e:ps=ps':=by injection h1 with h1;injection h1 with _ _ h1 _;injection h1
   subst e;refine⟨a,_,hP,?_,λpos' cv dc=>?_⟩
   ·rw[rF];exact Lo _ ok
   ·rw[rF] at dc;rcases Io _ ok dc with z|z
    ·obtain⟨c,oc,vs,t,dc,hg,hd,hv⟩:=h3 pos' cv z;exact⟨c,oc,vs,t,dc,ik c oc hg (.inr (.inr (.inl ⟨vs,hd,.inr ⟨_,t,hv⟩⟩))),hd,hv⟩
    ·rw[z];exact hc
  ·refine⟨a,ps',k _ _ fu h1,h2,λpos' cv dc=>?_⟩;obtain⟨c,oc,vs,t,dc,hg,hd,hv⟩:=h3 pos' cv dc;exact⟨c,oc,vs,t,dc,ik c oc hg (.inr (.inr (.inl ⟨vs,hd,.inr ⟨_,t,hv⟩⟩))),hd,hv⟩
theorem IY {ρ:AR}:∀{a b:List (Str×Nat)}{c d:List (Str×Addr)},Ba ρ a c->Ba ρ b d->Ba ρ (a++b) (c++d)
 |[],_,_,_,h,k=>by cases h;exact k
 |(_,_)::_,_,_,_,⟨p,t,h1,h2,h3⟩,k=>by subst h2;exact⟨p,_,h1,rfl,IY h3 k⟩
theorem D1 {ρ:AR}{cx:List (Str×Nat)}{env:Env}(hc:∀x a,lk x cx=some a->∃p,ρ[a]? =some p/\env.cells.lookup x=some p.1):
  ∀{names:List (Str×NameKind)}{cs:List (Str×Nat)} (acc:List (Str×Addr)),AW names cx=some cs->∃clos,Ba ρ cs clos/\
   forIn names acc (λ(x:Str×NameKind) (r:List (Str×Addr))=>(if x.2== .free then do let a←cellOf env x.1;pure (ForInStep.yield ((x.1,a)::r)) else pure (ForInStep.yield r):Sem (ForInStep (List (Str×Addr)))))=pure (clos++acc)
 |[],cs,acc,h=>by cases h;exact⟨[],rfl,by simp⟩
 |(x,k)::names,cs,acc,h=>by
  unfold AW at h;rw[qC];by_cases hk:k= .free
  ·subst hk;rw[UQ rfl] at h;split at h
   ·rename_i a t e1 e2;cases h;obtain⟨p,h1,h2⟩:=hc x a e1;obtain⟨clos,r1,r2⟩:=D1 hc ((x,p.1)::acc) e2;refine⟨clos++[(x,p.1)],IY r1 ⟨p,[],h1,rfl,rfl⟩,?_⟩
    have:cellOf env x=pure p.1:=by unfold cellOf;rw[h2]
    simp only[this,pure_bind];simpa using r2
   ·cases h
  ·rw[T8 hk] at h;obtain⟨clos,r1,r2⟩:=D1 hc acc h;refine⟨clos,r1,?_⟩
   have:(k==NameKind.free)=false:=by simpa using hk
   simp only[this,jp,qM,pure_bind];exact r2
variable {cs:List (Str×Nat)}{scope:Scope}
theorem Hy {cx:List (Str×Nat)}(hc:∀x a,lk x cx=some a->∃p,ρ[a]? =some p/\env.cells.lookup x=some p.1) (h:AW scope.names cx=some cs):
  ∃clos,Ba ρ cs clos/\closureFor scope env=pure clos:=by
 obtain⟨clos,r1,r2⟩:=D1 hc [] h;refine⟨clos,r1,?_⟩;rw[nz] at r2;rw[←r2];unfold closureFor
 simp
theorem MF {body:Expr}(T:I0 g) (fk:Ac g f N) (Q:AF g f ρ H loc s.heap) (hl:f.cx.lam=true) (hs:BH scope=true) (hc:AW scope.names f.cx.cells=some cs):
  AE g f (BE g) ρ s (.ok (.clo body scope cs) loc H) (eval (.Lambda ⟨[],[],none,[],[],none,[]⟩ body scope pos) f.env):=by
 obtain⟨q,hq,hcode,gS⟩:=fk.lam hl;obtain⟨clos,r1,r2⟩:=Hy Q.cells hc;obtain⟨pR,C,mg,hmg,hbi,hgP⟩:=T.tab q hq;obtain⟨no,ps,hP,ok,codes⟩:=Q.hr.tabs q hq;have B:=Q.hr.base;intro _;refine AL (kla_eval rfl ?_);rw[gS];have clo:∀{h2:Heap}{cv ctv:Value},h2.CodeRec cv q.2.2->Ml ρ (h2.push {cls:=.type "function",data:=.func (kla_fn "<lambda>" q.2.2 noArgs body scope clos ((mg "__name__").getD .none) cv ctv)}) body scope cs h2.objs.size:=λ{h2 cv ctv} hr=>
  ⟨⟨_,_,eQ _ rfl,rfl,rfl,rfl,rfl,rfl,rfl,rfl,rfl,hr.push _,r1⟩,hs⟩
 cases hca:codeAmong pos ps.toList with
 |none=>
  refine kla_makeFunction r2 fk.globals (hmg.keeps B) hcode (C.keeps B) hP ok hca hgP (hbi.keeps B) λc' ctv h2 tk hx hge hlt hrec htb=>?_;have Q2:=Q.UY T hq hx hP ok htb hrec;have mG:q.2.1∉BZ f.fr:=λm=>by
   obtain⟨env,he,hf⟩:=kA.mp m;obtain⟨L,ob,es,ep,h1,_,h3,h4,_⟩:=(Q.hr.frames env he).ex;rw[h1] at hf;cases hf;rw[h3] at hP;cases hP;cases h4
  refine⟨_,loc,H,ρ,rfl,⟨eC _,λp hp=>by simp at hp,λb o e _ _ nt _=>?_,λb o e hb _=>⟨o.slots,?_⟩,λb o e=>?_,⟨_,tk,rfl⟩⟩,Q2.push _,?_⟩
  ·exact du _ (hx b o (λz=>nt (z▸eJ.mpr ⟨q,hq,rfl⟩)) e)
  ·exact du _ (hx b o (λz=>mG (z▸hb)) e)
  ·by_cases z:b=q.2.1
   ·subst z;exact⟨_,du _ htb⟩
   ·exact⟨o,du _ (hx b o z e)⟩
  ·unfold BE VR;exact⟨_,rfl,clo hrec⟩
 |some cv=>
  refine kla_makeFunctionHit r2 fk.globals (hmg.keeps B) hcode (C.keeps B) hP ok hca (hbi.keeps B) λctv h2 tk hk hge=>?_;refine⟨_,loc,H,ρ,rfl,Step.keeps λb o e=>du _ (hk b o e),(Q.keeps hk).push _,?_⟩;unfold BE VR;exact⟨_,rfl,clo ((codes pos cv hca).keeps hk)⟩
structure Loose (g:Gd) (f:Fd) (ρ:AR) (h:Heap) (b:Addr):Prop where
 ex:∃o,h.get? b=some o/\¬Fr o
 own:¬Own ρ b
 fr:b∉BZ f.fr
 tab:b∉g.Dz
 loc:b≠f.L
 base:g.base.get? b=none
variable {I:Addr}{Y:List Addr}{it:Value}{src:Src}
theorem Step.HH (S:Step g f.fr [f.L] ρ s ρ' s'){b:Addr}(l:Loose g f ρ s.heap b){o:Obj}(e:s.heap.get? b=some o):s'.heap.get? b=some o:=S.kept b o e l.own (by simpa using l.loc) l.tab l.fr
theorem Step.loose (S:Step g f.fr [f.L] ρ s ρ' s'){b:Addr}(l:Loose g f ρ s.heap b):Loose g f ρ' s'.heap b:=by
 obtain⟨o,e,n⟩:=l.ex;exact⟨⟨o,S.HH l e,n⟩,S.old e l.own,l.fr,l.tab,l.loc,l.base⟩
theorem Loose.new {b:Addr}{o:Obj}(Q:AF g f ρ H loc h) (hn:h.get? b=none) (e:h'.get? b=some o) (ni:¬Fr o):Loose g f ρ h' b where
 ex:=⟨o,e,ni⟩
 own:=λq=>by obtain⟨ob,hb⟩:=Q.hr.rep.there q;rw[hn] at hb;cases hb
 fr:=λq=>by obtain⟨ob,hb⟩:=Q.hr.HJ q;rw[hn] at hb;cases hb
 tab:=λq=>by obtain⟨ob,hb⟩:=Q.hr.GB q;rw[hn] at hb;cases hb
 loc:=λq=>by obtain⟨ob,hb⟩:=Q.toI7.there;rw[←q,hn] at hb;cases hb
 base:=Q.hr.Gr hn
theorem Loose.keeps {b:Addr}(l:Loose g f ρ h b) (k:∃o,h'.get? b=some o/\¬Fr o):Loose g f ρ h' b:=⟨k,l.own,l.fr,l.tab,l.loc,l.base⟩
theorem AF.Bp (Q:AF g f ρ H loc h){b:Addr}(l:Loose g f ρ h b) (k:Heap.ExtBut b h h'):AF g f ρ H loc h':=by
 obtain⟨o,e,n⟩:=l.ex;exact Q.but k l.base l.own l.fr l.tab (λo' e'=>by rw[e] at e';cases e';exact n) l.loc
theorem Step.Bp {b:Addr}(m:b∈Y) (hn:b∉BZ f.fr) (k:Heap.ExtBut b s.heap h') (e:∃o,h'.get? b=some o){t:Nat}:Step g f.fr (f.L::Y) ρ s ρ {s with heap:=h',toks:=t}:=
 ⟨eC _,λp hp=>by simp at hp,λc o ec _ nx _ _=>k c o (λq=>nx (q▸ .tail _ m)) ec,λc o ec hf nx=>⟨o.slots,k c o (λq=>nx (q▸ .tail _ m)) ec⟩,λc o ec=>by
  by_cases q:c=b
  ·subst q;exact e
  ·exact⟨o,k c o q ec⟩,⟨h',t,rfl⟩⟩
theorem Step.wide (S:Step g f.fr [f.L] ρ s ρ' s'):Step g f.fr (f.L::Y) ρ s ρ' s':=S.weaken λb hb=>by simp at hb;simp [hb]
theorem Step.Vg (S:Step g fr (X++Y) ρ s ρ' s') (hY:∀y∈Y,s.heap.get? y=none):Step g fr X ρ s ρ' s' where
 pre:=S.pre
 new:=S.new
 kept:=λb o e n x tb f=>S.kept b o e n (λm=>by
  rcases eI.mp m with m|m
  ·exact x m
  ·rw[hY b m] at e;cases e) tb f
 slots:=λb o e f x=>S.slots b o e f λm=>by
  rcases eI.mp m with m|m
  ·exact x m
  ·rw[hY b m] at e;cases e
 alive:=S.alive
 rest:=S.rest
def IP (ρ:AR) (h:Heap) (Y:List Addr) (it:Value):Src->Nat->Prop
 | .Ck a b,i=>∃I,it= .ref I/\Y=[I]/\IsRangeIter h I (a+i) (((b-a).toNat:Int)-i) 1
 | .lst a,i=>∃I p,it= .ref I/\Y=[I]/\ρ[a]? =some p/\h.IsListIter I p.1 i
 | .enm a,i=>∃e I p old,it= .ref e/\Y=[e,I]/\e≠I/\ρ[a]? =some p/\IsEnum h e I i old/\h.IsListIter I p.1 i
def Ok (ρ:AR) (h:Heap) (Y:List Addr) (it:Value) (x:Value):Src->Nat->Prop
 | .enm a,i=>∃e I p item T,it= .ref e/\x= .ref T/\Y=[e,I]/\e≠I/\ρ[a]? =some p/\IsEnumOut h e I i item T/\h.IsListIter I p.1 i
 |s,i=>IP ρ h Y it s i
structure Ex (g:Gd) (f:Fd) (ρ:AR) (h:Heap) (Y:List Addr) (it:Value) (s:Src) (i:Nat):Prop where
 loose:∀y∈Y,Loose g f ρ h y
 core:IP ρ h Y it s i
theorem TM {l:Addr}(x:h.IsListIter I l i) (k:∀o,h.get? I=some o->h'.get? I=some o):h'.IsListIter I l i:=x.at k
theorem IP.keeps (c:IP ρ h Y it src i) (p:ρ<+:ρ') (k:∀y∈Y,∀o,h.get? y=some o->h'.get? y=some o):IP ρ' h' Y it src i:=by
 cases src with
 |Ck a b=>obtain ⟨I,e1,e2,e3⟩:=c;subst e2;exact⟨I,e1,rfl,k _ (.head _) _ e3⟩
 |lst a=>obtain ⟨I,q,e1,e2,e3,e4⟩:=c;subst e2;exact⟨I,q,e1,rfl,Dw p e3,e4.at (k _ (.head _))⟩
 |enm a=>obtain ⟨e,I,q,old,e1,e2,e3,e4,e5,e6⟩:=c;subst e2;exact⟨e,I,q,old,e1,rfl,e3,Dw p e4,k _ (.head _) _ e5,e6.at (k _ (.tail _ (.head _)))⟩
theorem Ex.step (x:Ex g f ρ s.heap Y it src i) (S:Step g f.fr [f.L] ρ s ρ' s'):Ex g f ρ' s'.heap Y it src i:=
 ⟨λy m=>S.loose (x.loose y m),x.core.keeps S.pre λy m o e=>S.HH (x.loose y m) e⟩
theorem Db {o:Obj}{vs:Array Value}(d:o.data= .fields vs) (c:o.cls≠ .type "range") (h1:∀q t,vs[1]? ≠some (.str q t)):¬Fr o:=λi=>by
 rcases i with ⟨xs,n,h2,_⟩|⟨f,h2⟩|⟨ws,h2,h3⟩|⟨es,n,t,h2⟩
 ·rw[d] at h2;cases h2
 ·rw[d] at h2;cases h2
 ·rw[d] at h2;cases h2;rcases h3 with h3|⟨q,t,h3⟩
  ·exact c h3
  ·exact h1 q t h3
 ·rw[d] at h2;cases h2
theorem HX {x l:Int}:¬Fr {cls:=.type "range_iterator",dict:=none,data:=.fields #[rawInt x,rawInt l,rawInt 1],slots:= #[]}:=Db rfl (by simp) (by simp [rawInt])
theorem D8 {l:Addr}{o:Obj}(x:h.IsListIter I l i) (e:h.get? I=some o):¬Fr o:=by
 obtain⟨o',e',c,d⟩:=x;rw[e] at e';cases e';exact Db d (by rw[c];simp) (by simp)
theorem Fg {i:Int}{a b:Value}:¬Fr {cls:=.type "enumerate",dict:=none,data:=.fields #[a,.bool false,.ref I,rawInt i,.none,b],slots:= #[]}:=Db rfl (by simp) (by simp)
def SrcR (g:Gd) (f:Fd) (h0:Heap):AR->Heap->Src->Value->Prop:=λρ h src x=>match src with
 | .Ck a b=>(∃r t u w,x= .ref r/\IsRange h r a b 1 t u w)/\a.natAbs<=lid/\b.natAbs<=lid
 | .lst a=>∃p,x= .ref p.1/\ρ[a]? =some p/\∃l,(∃o,o=O.list l/\By g ρ h o p)
 | .enm a=>∃Y,Ex g f ρ h Y x (.enm a) 0/\∀y∈Y,h0.get? y=none
theorem tG (a b:Int):Builtin.Range.rangeSize a b 1=((b-a).toNat:Int):=by
 unfold Builtin.Range.rangeSize;rw[UQ ⋯];split<;>(try simp only[Int.ediv_one])<;>omega
theorem OL {a b:Int}(ha:a.natAbs<=lid) (hb:b.natAbs<=lid):Builtin.Range.small a b 1=true:=by
 unfold lid at ha hb;unfold Builtin.Range.small;rw[tG];simp only[Builtin.Range.rangeFitsLong,dv,qB,ip];refine⟨⟨⟨⟨by omega,by omega⟩,by omega⟩,by omega⟩,.inr ?_⟩;rw[UQ ⋯];simp only[dv,ip];omega
theorem Hz {h0:Heap}(Q:AF g f ρ H loc s.heap) (r:SrcR g f h0 ρ s.heap src x) (S0:∀b o,h0.get? b=some o->∃o',s.heap.get? b=some o'):
  wpAny g.M A (pyIter x) (λit s'=>(∀b o,s.heap.get? b=some o->s'.heap.get? b=some o)/\(∃hh,s'={s with heap:=hh})/\∃Y,Ex g f ρ s'.heap Y it src 0/\∀y∈Y,h0.get? y=none) E s:=by
 have fresh:∀{b},s.heap.get? b=none->h0.get? b=none:=λ{b} hb=>by
  cases e:h0.get? b with
  |none=>rfl
  |some o=>obtain ⟨o',e'⟩:=S0 b o e;rw[hb] at e';cases e'
 have ne:=As s.heap;cases src with
 |Ck a b=>
  obtain⟨⟨q,t,u,w,rfl,hr⟩,ha,hb⟩:=r;refine wpAny_pyIter_range hr (OL ha hb) ⟨Ak _,⟨_,rfl⟩,[s.heap.objs.size],⟨λy m=>?_,s.heap.objs.size,rfl,rfl,?_⟩,λy m=>?_⟩
  ·rw[eA.mp m];exact Loose.new Q ne (eQ _ rfl) HX
  ·rw[tG]
   have:=eQ s.heap (o:={cls:=.type "range_iterator",data:=.fields #[rawInt a,rawInt ((b-a).toNat:Int),rawInt 1]}) rfl
   simpa using this
  ·rw[eA.mp m];exact fresh ne
 |lst a=>
  obtain⟨p,rfl,hp,l,o,rfl,e0,items,n,h1,h2,h3⟩:=r;have hi:(s.heap.push {cls:=.type "list_iterator",data:=.fields #[.ref p.1,.int 0 0]}).IsListIter s.heap.objs.size p.1 0:=⟨_,eQ _ rfl,rfl,rfl⟩;refine wpAny_pyIter_list (items:=items) ⟨_,h1,rfl,n,rfl⟩ ⟨Ak _,⟨_,rfl⟩,[s.heap.objs.size],⟨λy m=>?_,s.heap.objs.size,p,rfl,rfl,hp,hi⟩,λy m=>?_⟩
  ·rw[eA.mp m];exact Loose.new Q ne (eQ _ rfl) (D8 hi (eQ _ rfl))
  ·rw[eA.mp m];exact fresh ne
 |enm a=>
  obtain⟨Y,I,hY⟩:=r;obtain⟨e,I',q,old,rfl,rfl,e3,e4,e5,e6⟩:=I.core;refine wpAny_pyIter_enum e5 ⟨λ_ _ e=>e,⟨_,rfl⟩,[e,I'],I,hY⟩
variable {s0:Shared}
theorem HQ (Q:AF g f ρ H loc s.heap){a:Nat}{l:List V}(hl:H[a]? =some (.list l)) (hp:ρ[a]? =some p):∃items,s.heap.IsList p.1 items/\Aa g ρ s.heap l items.toList:=by
 obtain⟨q,hq,e0,items,n,h1,h2,_⟩:=Q.hr.rep.get hl;rw[hp] at hq;cases hq;exact⟨items,⟨_,h1,rfl,n,rfl⟩,h2⟩
theorem Yo {a:Nat}(l:Loose g f ρ h I) (hp:ρ[a]? =some p):p.1≠I:=λe=>l.own (e▸Own.left (CZ hp))
theorem GM {a:Nat}{v:Option V}(hs:src= .lst a∨src= .enm a) (e:src.next i H=some v):∃l,H[a]? =some (.list l)/\(v=none->l[i]? =none)/\∀x,v=some x->∃y,l[i]? =some y/\(src= .lst a->x=y)/\(src= .enm a->x= .tup [.int i,y]):=by
 rcases hs with rfl|rfl
 ·simp only[Src.next] at e;split at e
  ·rename_i l hl;refine⟨l,hl,λq=>by rw[q] at e;exact mM e,λx q=>?_⟩;rw[q] at e;exact⟨x,mM e,λ_=>rfl,λq=>by cases q⟩
  ·cases e
 ·simp only[Src.next] at e;split at e
  ·rename_i l hl;have e:=mM e;refine⟨l,hl,λq=>by rw[q] at e;simpa using e,λx q=>?_⟩;rw[q] at e;obtain⟨y,h1,h2⟩:=dy.mp e;exact⟨y,h1,(λq=>by cases q),λ_=>h2.symm⟩
  ·cases e
theorem next_end {Q':Option Value->Shared->Prop}(hh:A.handled=none) (Q:AF g f ρ H loc s.heap) (I:Ex g f ρ s.heap Y it src i) (e:src.next i H=some none) (h:∀y h',y∈Y->Heap.ExtBut y s.heap h'->AF g f ρ H loc h'->Q' none {s with heap:=h'}):wpAny (model g.prog g.w) A (pyNext it) Q' E s:=by
 have core:=I.core;cases src with
 |Ck a b=>
  obtain⟨I',rfl,rfl,hi⟩:=core;have hle:((b-a).toNat:Int)-i<=0:=by
   simp only[Src.next,qu] at e;split at e
   ·cases e
   ·omega
  exact wpAny_pyNext_range_end hh hi hle λhp k=>h _ _ (.head _) k (Q.Bp (I.loose _ (.head _)) k)
 |lst a=>
  obtain⟨I',p,rfl,rfl,hp,hi⟩:=core;obtain⟨l,hl,hn,_⟩:=GM (.inl rfl) e;obtain⟨items,hI,hv⟩:=HQ Q hl hp;have hx:items[i]? =none:=by
   have:=hn rfl
   rw[si,←At hv] at this;simpa using this
  exact wpAny_pyNext_list_end hh hi hI hx λhp k=>h _ _ (.head _) k (Q.Bp (I.loose _ (.head _)) k)
 |enm a=>
  obtain⟨e',I',p,old,rfl,rfl,hne,hp,he,hi⟩:=core;obtain⟨l,hl,hn,_⟩:=GM (.inr rfl) e;obtain⟨items,hI,hv⟩:=HQ Q hl hp;have hx:items[i]? =none:=by
   have:=hn rfl
   rw[si,←At hv] at this;simpa using this
  exact wpAny_pyNext_enum_end hh he hi hI hx λhp k=>h _ _ (.tail _ (.head _)) k (Q.Bp (I.loose _ (.tail _ (.head _))) k)
theorem Step.Ue {y:Addr}(S:Step g f.fr (f.L::Y) ρ s0 ρ' s) (hY:∀y∈Y,s0.heap.get? y=none) (m:y∈Y) (k:Heap.ExtBut y s.heap h'):Step g f.fr [f.L] ρ s0 ρ' {s with heap:=h'}:=by
 have ne:∀{b o},s0.heap.get? b=some o->b≠y:=λe q=>by subst q;rw[hY _ m] at e;cases e
 have nY:∀{b o},s0.heap.get? b=some o->b∉[f.L]->b∉f.L::Y:=λ{b o} e n q=>by
  rcases fg.mp q with q|q
  ·exact n (by simp [q])
  ·rw[hY _ q] at e;cases e
 refine⟨S.pre,S.new,λb o e n x tb fr=>k b o (ne e) (S.kept b o e n (nY e x) tb fr),λb o e fr x=>?_,λb o e=>?_,?_⟩
 ·obtain⟨sl,h1⟩:=S.slots b o e fr (nY e x);exact⟨sl,k _ _ (ne e) h1⟩
 ·obtain⟨o',h1⟩:=S.alive b o e;exact⟨o',k _ _ (ne e) h1⟩
 ·obtain⟨hp,tk,e⟩:=S.rest;exact⟨h',tk,by rw[e]⟩
theorem next_item {Q':Option Value->Shared->Prop}(Q:AF g f ρ H loc s.heap) (I:Ex g f ρ s.heap Y it src i) (e:src.next i H=some (some v)) (h:∀s' x,Step g f.fr (f.L::Y) ρ s ρ s'->AF g f ρ H loc s'.heap->VR g ρ s'.heap v x->(∀y∈Y,Loose g f ρ s'.heap y)->Ok ρ s'.heap Y it x src (i+1)->Q' (some x) s'):wpAny (model g.prog g.w) A (pyNext it) Q' E s:=by
 have core:=I.core;cases src with
 |Ck a b=>
  obtain⟨I',rfl,rfl,hi⟩:=core;simp only[Src.next,qu] at e;split at e
  ·rename_i hlt;cases e;refine wpAny_pyNext_range_item hi ⋯ λhp hi' sb=>?_;have L:=I.loose _ (.head _);refine h {s with heap:=hp,toks:=s.toks+1} _ (Step.Bp (.head _) L.fr sb.extBut ⟨_,hi'⟩) (Q.Bp L sb.extBut) Ah (λy m=>?_) ⟨I',rfl,rfl,?_⟩
   ·rw[eA.mp m];exact L.keeps ⟨_,hi',HX⟩
   ·have e1:a+((i+1:Nat):Int)=a+(i:Int)+1:=by push_cast;omega
    have e2:((b-a).toNat:Int)-((i+1:Nat):Int)=((b-a).toNat:Int)-(i:Int)-1:=by push_cast;omega
    rw[e1,e2];exact hi'
  ·cases e
 |lst a=>
  obtain⟨I',p,rfl,rfl,hp,hi⟩:=core;obtain⟨l,hl,_,hn⟩:=GM (.inl rfl) e;obtain⟨y,hy,e1,_⟩:=hn v rfl;obtain rfl:=e1 rfl;obtain⟨items,hI,hv⟩:=HQ Q hl hp;obtain⟨x,hx,rx⟩:=D2 hv hy;have L:=I.loose _ (.head _);refine tf hi hI (x:=x) (by simpa using hx) λdN hi' sb=>?_;obtain⟨o,ho,_⟩:=id hi';have ik:AI s.heap dN:=λb o e im=>sb.extBut b o (λq=>by
   obtain⟨ob,hob,hn⟩:=L.ex;subst q;rw[hob] at e;cases e;exact hn im) e
  refine h {s with heap:=dN} _ (Step.Bp (t:=s.toks) (.head _) L.fr sb.extBut ⟨_,ho⟩) (Q.Bp L sb.extBut) (rx.mono ik (eC _)) (λy m=>?_) ⟨I',p,rfl,rfl,hp,hi'⟩;rw[eA.mp m];exact L.keeps ⟨_,ho,D8 hi' ho⟩
 |enm a=>
  obtain⟨e',I',p,old,rfl,rfl,hne,hp,he,hi⟩:=core;obtain⟨l,hl,_,hn⟩:=GM (.inr rfl) e;obtain⟨y,hy,_,e1⟩:=hn v rfl;obtain rfl:=e1 rfl;obtain⟨items,hI,hv⟩:=HQ Q hl hp;obtain⟨x,hx,rx⟩:=D2 hv hy;have L1:=I.loose _ (.head _);have L2:=I.loose _ (.tail _ (.head _));refine wpAny_pyNext_enum_item he hi hI (x:=x) (by simpa using hx) hne λh1 iw hi1 ht hz hk=>?_;obtain⟨o,ho,_⟩:=id hi1;obtain⟨oe,mH,mK⟩:=L1.ex;obtain⟨oi,iC,mL⟩:=L2.ex;have ik:AI s.heap h1:=λb o e im=>hk b o (λq=>by subst q;rw[mH] at e;cases e;exact mK im) (λq=>by subst q;rw[iC] at e;cases e;exact mL im) e;have Qn:AF g f ρ H loc h1:=by
   refine⟨Q.toI7.of ik (eC _) Q.lo λm hn=>?_,?_⟩
   ·obtain⟨o,es,ep,k1,k2⟩:=hn;exact⟨o,es,ep,hk _ _ (Ne.symm L1.loc) (Ne.symm L2.loc) k1,k2⟩
   ·refine⟨λb o e=>hk b o (λq=>by rw[q,L1.base] at e;cases e) (λq=>by rw[q,L2.base] at e;cases e) (Q.hr.base b o e),Q.hr.rep.mono ik λb o ow e=>hk b o (λq=>L1.own (q▸ow)) (λq=>L2.own (q▸ow)) e,Q.hr.fresh,λenv he'=>?_,λq hq=>?_⟩
    ·obtain⟨kd,L,o,es,ep,k1,k2,k3,k4,k5⟩:=Q.hr.frames env he';have hm:L∈BZ f.fr:=kA.mpr ⟨env,he',k1⟩;exact⟨kd,L,o,es,ep,k1,k2,hk L o (λq=>L1.fr (q▸hm)) (λq=>L2.fr (q▸hm)) k3,k4,k5⟩
    ·obtain⟨a,ps,k1,k2,k3⟩:=Q.hr.tabs q hq;have hm:q.2.1∈g.Dz:=eJ.mpr ⟨q,hq,rfl⟩;refine⟨a,ps,hk _ _ (λz=>L1.tab (z▸hm)) (λz=>L2.tab (z▸hm)) k1,k2,λpos cv hc=>?_⟩;obtain⟨c,oc,vs,t,dc,hg,hd,hv⟩:=k3 pos cv hc;exact⟨c,oc,vs,t,dc,ik c oc hg (.inr (.inr (.inl ⟨vs,hd,.inr ⟨_,t,hv⟩⟩))),hd,hv⟩
  refine h {s with heap:=h1,toks:=s.toks+1} _ ?_ Qn ?_ (λy m=>?_) ⟨e',I',p,x,_,rfl,rfl,rfl,hne,hp,by push_cast;exact iw,hi1⟩
  ·refine⟨eC _,λp hp=>by simp at hp,λc o ec _ nx _ _=>hk c o (λq=>nx (by simp [q])) (λq=>nx (by simp [q])) ec,λc o ec hf nx=>⟨o.slots,hk c o (λq=>nx (by simp [q])) (λq=>nx (by simp [q])) ec⟩,λc o ec=>?_,⟨h1,_,rfl⟩⟩;by_cases q1:c=e'
   ·subst q1;exact⟨_,iw⟩
   ·by_cases q2:c=I'
    ·subst q2;exact⟨_,ho⟩
    ·exact⟨o,hk c o q1 q2 ec⟩
  ·unfold VR;refine⟨s.heap.objs.size,#[.int i s.toks,x],rfl,⟨_,ht,rfl,_,rfl⟩,?_,by simp⟩;unfold Aa;exact⟨_,_,rfl,Ah,GQ (rx.mono ik (eC _))⟩
  ·rcases fg.mp m with rfl|m
   ·exact L1.keeps ⟨_,iw,Fg⟩
   ·rw[eA.mp m];exact L2.keeps ⟨_,ho,D8 hi1 ho⟩
theorem Hc {x:Str}{p:Pos}{v:Value}:letOwnedTupleGo (.Name x p) it v=pure ():=rfl
theorem Ky {elts:List Expr}{x1}{Q':Unit->Shared->Prop}(Q:AF g f ρ H loc s.heap) (L:∀y∈Y,Loose g f ρ s.heap y) (o:Ok ρ s.heap Y it x src i) (r:VR g ρ s.heap v x) (hv:∀i,v≠ .int i) (hr:∀a b,src= .Ck a b->∃i,v= .int i) (h:∀s',Step g f.fr (f.L::Y) ρ s ρ s'->AF g f ρ H loc s'.heap->VR g ρ s'.heap v x->Ex g f ρ s'.heap Y it src i->Q' () s'):wpAny (model g.prog g.w) A (letOwnedTupleGo (.Tuple elts x1 pos) it x) Q' E s:=by
 cases src with
 |Ck a b=>obtain ⟨i,e⟩:=hr a b rfl;exact absurd e (hv i)
 |lst a=>
  obtain⟨I',p,rfl,rfl,hp,hi⟩:=o;have done:Q' () s:=h s Step.refl Q r ⟨L,I',p,rfl,rfl,hp,hi⟩;cases x with
  |ref T=>exact wpAny_letOwnedTupleGo_listiter hi done
  |_=>exact df done
 |enm a=>
  obtain⟨e,I',p,item,T,rfl,rfl,rfl,hne,hp,he,hi⟩:=o;have L1:=L _ (.head _);refine wpAny_letOwnedTupleGo_enum he λh' he' sb=>?_;have ik:AI s.heap h':=λb o e im=>sb.extBut b o (λq=>by
   obtain⟨ob,hob,hn⟩:=L1.ex;subst q;rw[hob] at e;cases e;exact hn im) e
  refine h {s with heap:=h'} (Step.Bp (t:=s.toks) (.head _) L1.fr sb.extBut ⟨_,he'⟩) (Q.Bp L1 sb.extBut) (r.mono ik (eC _)) ⟨λy m=>?_,e,I',p,item,rfl,rfl,hne,hp,he',hi.extBut sb.extBut (Ne.symm hne)⟩;rcases fg.mp m with rfl|m
  ·exact L1.keeps ⟨_,he',Fg⟩
  ·rw[eA.mp m];obtain⟨ob,hob,hn⟩:=(L I' (.tail _ (.head _))).ex;exact (L I' (.tail _ (.head _))).keeps ⟨ob,sb.extBut _ _ (Ne.symm hne) hob,hn⟩
theorem G5 (L:∀y∈Y,Loose g f ρ h y) (o:Ok ρ h Y it x src i) (hs:∀a,src≠ .enm a):Ex g f ρ h Y it src i:=by
 cases src with
 |Ck a b=>exact ⟨L,o⟩
 |lst a=>exact ⟨L,o⟩
 |enm a=>exact absurd rfl (hs a)
theorem Ep {α:Type}{x:Str}:∀{l:List (Str×α)},lk x l=l.lookup x
 |[]=>rfl
 |(y,v)::r=>by
  unfold lk;rw[qG];by_cases h:x=y
  ·subst h;simp
  ·rw[T8 h]
   have:(x==y)=false:=by simpa using h
   rw[this];exact Ep
theorem BS {s:Scope}(h:BH s=true):s.kind= .function/\s.isCoroutine=false/\s.isGenerator=false/\(∀p∈s.names,p.1≠"__debug__"/\p.1≠"__classdict__")/\∀p∈s.names,p.2= .local->s.names.lookup p.1=some .local:=by
 unfold BH at h;split at h
 ·rename_i ns _;rw[jU] at h;refine⟨rfl,rfl,rfl,λp hp=>?_,λp hp hl=>?_⟩
  ·have:=h p hp
   simp only[dv,sS] at this;exact this.1
  ·have:=h p hp
   simp only[dv,qB,sS,ke] at this;rcases this.2 with q|q
   ·exact absurd hl q
   ·exact q
 ·cases h
theorem Dd {ρ:AR}:∀{cs:List (Str×Nat)}{cl:List (Str×Addr)},Ba ρ cs cl->∀x a,lk x cs=some a->∃p,ρ[a]? =some p/\cl.lookup x=some p.1
 |[],_,_,x,a,h=>by cases h
 |(y,b)::r,cl,⟨p,t,h1,h2,h3⟩,x,a,h=>by
  subst h2;unfold lk at h;rw[qG];by_cases q:x=y
  ·subst q;rw[UQ rfl] at h;cases h;exact⟨p,h1,by simp⟩
  ·rw[T8 q] at h
   have:(x==y)=false:=by simpa using q
   rw[this];exact Dd h3 x a h
variable {closure:List (Str×Addr)}
theorem DJ (F:Str×NameKind->List (Str×Addr)->Sem (ForInStep (List (Str×Addr)))) (hF:∀name kind cells,F (name,kind) cells=if kind== .cell then (do let a←alloc {cls:=.type "cell",data:=.cell none};pure (.yield ((name,a)::cells))) else pure (.yield cells)):
  ∀(names:List (Str×NameKind)) (cs:List (Str×Nat)) (acc:List (Str×Addr)) (H:Hp) (ρ:AR) (s:Shared) (Q':List (Str×Addr)->Shared->Prop),AF g f ρ H loc s.heap->Ba ρ cs acc->
   (∀acc' ρ' s',AF g f ρ' (AH names cs H).2 loc s'.heap->(∃t,ρ'=ρ++t/\∀p∈t,s.heap.get? p.1=none/\s.heap.get? p.2=none)->(∀b o,s.heap.get? b=some o->s'.heap.get? b=some o)->(∃hh,s'={s with heap:=hh})->Ba ρ' (AH names cs H).1 acc'->Q' acc' s')->
   wpAny g.M A (forIn names acc F) Q' E s
 |[],cs,acc,H,ρ,s,Q',Q,c,k=>by
  rw[qg];exact df (k acc ρ s Q ⟨[],by simp,by simp⟩ (λ_ _ e=>e) ⟨s.heap,rfl⟩ c)
 |(x,kd)::r,cs,acc,H,ρ,s,Q',Q,c,k=>by
  rw[qC,hF];by_cases hk:kd= .cell
  ·subst hk;simp only[AH,qT] at k;rw[UQ (by rfl)];refine K3 (K3 (s6 (df ?_)));have hn:=As s.heap;have ob:By g (ρ++[(s.heap.objs.size,s.heap.objs.size)]) (s.heap.push {cls:=.type "cell",data:=.cell none}) (.cell none) (s.heap.objs.size,s.heap.objs.size):=
    ⟨rfl,none,⟨_,eQ _ rfl,rfl⟩,rfl⟩
   have Q1:=Q.alloc (o:=.cell none) (p:=(s.heap.objs.size,s.heap.objs.size)) (Ak _) hn hn ob;have hat:(ρ++[(s.heap.objs.size,s.heap.objs.size)])[H.length]? =some (s.heap.objs.size,s.heap.objs.size):=by
    rw[←Q.hr.rep.len,mA (ix _)];simp
   refine DJ F hF r ((x,H.length)::cs) ((x,s.heap.objs.size)::acc) (H++[.cell none]) _ {s with heap:=s.heap.push {cls:=.type "cell",data:=.cell none}} Q' Q1 ⟨_,acc,hat,rfl,c.mono (hW _ _)⟩ λacc' ρ' s' Q2 ⟨t,e1,e2⟩ kp ⟨hh,e3⟩ c'=>?_;refine k acc' ρ' s' Q2 ⟨(s.heap.objs.size,s.heap.objs.size)::t,by rw[e1];simp,λp hp=>?_⟩ (λb o e=>kp b o (du _ e)) ⟨hh,by rw[e3]⟩ c';rcases fg.mp hp with rfl|hp
   ·exact⟨hn,hn⟩
   ·have back:∀{b},(s.heap.push ({cls:=.type "cell",data:=.cell none}:Obj)).get? b=none->s.heap.get? b=none:=λ{b} e=>by
     cases q:s.heap.get? b with
     |none=>rfl
     |some o=>rw [du _ q] at e;cases e
    exact⟨back (e2 p hp).1,back (e2 p hp).2⟩
  ·simp only[AH,T8 hk] at k;rw[T8 (by simpa using hk)];exact K3 (df (DJ F hF r cs acc H ρ s Q' Q c k))
theorem El {globals:Addr}{binds:List (Str×Value)}{qual:Str}{func:Option Addr}{code:Value}{around:Option Env}{builtins:Addr}{Q':Env->Shared->Prop}(Q:AF g f ρ H loc s.heap) (c:Ba ρ cs closure) (k:∀cells ρ' s',AF g f ρ' (AH scope.names cs H).2 loc s'.heap->(∃t,ρ'=ρ++t/\∀p∈t,s.heap.get? p.1=none/\s.heap.get? p.2=none)->(∀b o,s.heap.get? b=some o->s'.heap.get? b=some o)->(∃hh,s'={s with heap:=hh})->
   Ba ρ' (AH scope.names cs H).1 cells->s'.heap.Ns s.heap.objs.size (λ_=>none)->¬Own ρ' s.heap.objs.size->g.base.get? s.heap.objs.size=none->
   wpAny g.M A (forIn binds PUnit.unit λ(x:Str×Value) _=>do storeName (newEnv scope s.heap.objs.size globals cells qual func code around builtins) x.1 x.2;pure (ForInStep.yield PUnit.unit)) (λ_ s''=>Q' (newEnv scope s.heap.objs.size globals cells qual func code around builtins) s'') E s'):
  wpAny g.M A (newFunctionEnv scope globals closure binds qual func code around builtins) Q' E s:=by
 have hn:=As s.heap;have main:∀cl:String,wpAny g.M A (alloc {cls:=.type cl,data:=.dict #[]}>>=λL=>forIn scope.names closure (λx r=>if (x.2==NameKind.cell)=true then (do let a←alloc {cls:=.type "cell",data:=.cell none};pure (ForInStep.yield ((x.1,a)::r))) else pure (ForInStep.yield r))>>=λcells=>
   forIn binds PUnit.unit (λ(x:Str×Value) _=>do storeName (newEnv scope L globals cells qual func code around builtins) x.1 x.2;pure (ForInStep.yield PUnit.unit))>>=λ_=>pure (newEnv scope L globals cells qual func code around builtins)) Q' E s:=λcl=>by
  refine K3 (s6 (K3 ?_));refine DJ (g:=g) (f:=f) (s:={s with heap:=s.heap.push {cls:=.type cl,data:=.dict #[]}}) _ (λ_ _ _=>rfl) scope.names cs closure H ρ _ (Q.push _) c λcells ρ' s' Q1 ⟨t,e1,e2⟩ kp ⟨hh,e3⟩ c'=>?_;refine K3 (jV (k cells ρ' s' Q1 ⟨t,e1,λp hp=>?_⟩ (λb o e=>kp b o (du _ e)) ⟨hh,by rw[e3]⟩ c' ((Heap.Ns.new s.heap (.type cl)).keeps kp) ?_ (Q.hr.Gr hn)) (λ_ s'' hq=>df hq) λ_ _ e=>e)
  ·have back:∀{b},(s.heap.push ({cls:=.type cl,data:=.dict #[]}:Obj)).get? b=none->s.heap.get? b=none:=λ{b} e=>by
    cases q:s.heap.get? b with
    |none=>rfl
    |some o=>rw [du _ q] at e;cases e
   exact⟨back (e2 p hp).1,back (e2 p hp).2⟩
  ·rintro⟨p,hp,hb⟩;rw[e1] at hp;rcases eI.mp hp with m|m
   ·have:∃ob,s.heap.get? s.heap.objs.size=some ob:=Q.hr.rep.there ⟨p,m,hb⟩
    obtain⟨ob,q⟩:=this;rw[hn] at q;cases q
   ·have j8:(s.heap.push ({cls:=.type cl,data:=.dict #[]}:Obj)).get? s.heap.objs.size=some {cls:=.type cl,data:=.dict #[]}:=eQ _ rfl
    have:=e2 p m
    rcases hb with hb|hb
    ·rw[←hb,j8] at this;cases this.1
    ·rw[←hb,j8] at this;cases this.2
 cases around with
 |none=>
  have m:=main "frame";simp only[newFunctionEnv,fx,jp,qM];exact m
 |some o=>
  have m:=main "dict";simp only[newFunctionEnv,ew,qT];exact m
variable {M:Model}{Q:Value->Shared->Prop}{cl:List (Str×Addr)}{use:Option (Value->Sem Unit)}
def CA (M:Model) (A:Around) (E:Value->Shared->Prop) (use:Option (Value->Sem Unit)) (Q:Value->Shared->Prop) (acc:Value) (C:Addr) (r:Result) (s':Shared):Prop:=
 match r,use with
 | .ok _,none=>∃m,s'.heap.Ns C m/\∀h',Heap.SameBut C s'.heap h'->Q acc {s' with heap:=h'}
 | .ok _,some u=>Ai M A (u acc) (λ_ s''=>∃m,s''.heap.Ns C m/\∀h',Heap.SameBut C s''.heap h'->Q .none {s'' with heap:=h'}) E s'
 | .error _,_=>False
theorem LW {c:Prop} [Decidable c] {pos:Pos}{k:PUnit->Sem α}{Q:α->Shared->Prop}(h:Ai M A (k ()) Q E s):
  Ai M A (if c then (standAt pos>>=k) else k ()) Q E s:=by
 split
 ·exact AA (AY h)
 ·exact h
theorem Fv {newAcc first:Sem Value}{gc:Comprehension}{gs:List Comprehension}(hcl:clausesOf e=gc::gs) (hs:∀x,foldedSetIterable gc.iter env x=pure x) (hclos:closureFor scope env=pure cl) (hkind:scope.kind= .function) (hnames:∀x∈scope.names,x.2= .local->scope.names.lookup x.1=some .local) (h:Ai M A first (λx s₁=>Ai M A (pyIter x) (λit s₂=>Ai M A newAcc (λacc s₃=>
   Ai M A (newFunctionEnv scope env.globals cl [] env.qual none .none (some env)) (λcenv s₄=>
    codeN M A (.compStart e 0 it acc {cenv with scope:=relabel scope env}) (CA M A E use Q acc cenv.locals) s₄) E s₃) E s₂) E s₁) E s):
  Ai M A (comprehension e scope env pos newAcc false first use) Q E s:=by
 unfold comprehension;rw[hclos,hcl];refine AA (AG h (λx s₁ h₁=>AA (AY (AA (Az (hs x) (AA (AM (AG h₁ (λit s₂ h₂=>
  LW (AA (AG h₂ (λacc s₃ h₃=>AA (AB (AA (AG h₃ (λcenv s₄ h₄=>?_) λ_ _ h'=>h')))) λ_ _ h'=>h')))
   λ_ _ h'=>h'))))))) λ_ _ h'=>h')
 dsimp only;have hv:∀x∈(scope.names.filter λx=>(x.2== .local||x.2== .cell)&&x.1 !=(".0":Str)).reverse,x.2= .local->
   Env.kindOf {cenv with scope:=relabel scope env} x.1=some .local:=λx hx hl=>lookup_relabel_local (hnames x (rK.mp (List.mem_reverse.mp hx)).1 hl)
 have hv':∀x∈(scope.names.filter λx=>(x.2== .local||x.2== .cell)&&x.1 !=(".0":Str)).reverse.drop 1++(scope.names.filter λx=>(x.2== .local||x.2== .cell)&&x.1 !=(".0":Str)).reverse.take 1,
   x.2= .local->Env.kindOf {cenv with scope:=relabel scope env} x.1=some .local:=λx hx hl=>by
  rcases eI.mp hx with h1|h1
  ·exact hv x (qz h1) hl
  ·exact hv x (q0 h1) hl
 refine AM (AA (Ee (AM (Nq rfl (A6 h₄ λr s' hr=>?_)))));cases r with
 |ok f=>
  cases use with
  |none=>
   obtain⟨m,hn,hr⟩:=hr;refine AA (AM (AL (wpAny_comp_letGo (cenv:={cenv with scope:=relabel scope env}) hkind _ s' m hv hn λh' m' _ hs'=>?_)));exact AB (hr h' hs')
  |some u=>
   refine AA (C8 (AA (AM (AG hr (λ_ s'' hr'=>?_) λ_ _ h'=>h'))));obtain⟨m,hn,hr'⟩:=hr';refine AA (AL (wpAny_comp_letGo (cenv:={cenv with scope:=relabel scope env}) hkind _ s'' m hv' hn λh' m' _ hs'=>?_));exact AB (hr' h' hs')
 |error x=>cases use<;>exact hr.elim
variable {YY:List Addr}{elt iter:Expr}{ifs:List Expr}{items:Array Value}{px:Pos}{tx:Str}{ρ0:AR}
theorem Step.ends {y:Addr}{t:Nat}(S:Step g fr X ρ s0 ρ' s) (hy:s0.heap.get? y=none) (k:Heap.ExtBut y s.heap h'):Step g fr X ρ s0 ρ' {s with heap:=h',toks:=t}:=by
 have ne:∀{b o},s0.heap.get? b=some o->b≠y:=λe q=>by subst q;rw[hy] at e;cases e
 refine⟨S.pre,S.new,λb o e n x tb fr=>k b o (ne e) (S.kept b o e n x tb fr),λb o e fr x=>?_,λb o e=>?_,?_⟩
 ·obtain⟨sl,h1⟩:=S.slots b o e fr x;exact⟨sl,k _ _ (ne e) h1⟩
 ·obtain⟨o',h1⟩:=S.alive b o e;exact⟨o',k _ _ (ne e) h1⟩
 ·obtain⟨hp,tk,e⟩:=S.rest;exact⟨h',t,by rw[e]⟩
structure AccAt (g:Gd) (f:Fd) (ρ:AR) (h:Heap) (D:Addr) (acc:List V):Prop where
 loose:Loose g f ρ h D
 at_:∃items n,h.get? D=some (listOf items n)/\Aa g ρ h acc items.toList
 len:acc.length<=lid
theorem CY {n:Nat}:¬Fr (listOf items n):=λi=>by
 rcases i with ⟨xs,n,h1,h2⟩|⟨f,h1⟩|⟨vs,h1,_⟩|⟨es,n,t,h1⟩
 ·have h3:Value.type "list"=Value.type "tuple":=h2;simp at h3
 all_goals cases h1
theorem AccAt.step {D:Addr}{acc:List V}(a:AccAt g f ρ s.heap D acc) (Q:AF g f ρ H loc s.heap) (S:Step g f.fr [f.L] ρ s ρ' s'):AccAt g f ρ' s'.heap D acc:=
 ⟨S.loose a.loose,let ⟨it,n,e,v⟩:=a.at_;⟨it,n,S.HH a.loose e,v.mono (S.CL Q) S.pre⟩,a.len⟩
theorem NZ:∀{ifs:List Expr}{H:Hp}{ρ:AR}{s:Shared},(∀e∈ifs,Cp g K f loc e)->AF g f ρ H loc s.heap->
  AE g f BR ρ s ((Cq K ifs f.cx loc H).out loc) (forIn ifs true λc r=>if r=true then do let ok←isTrue c f.env (eval c f.env);pure (ForInStep.yield ok) else pure (ForInStep.yield r))
 |[],H,ρ,s,_,Q=>by
  simp only[Cq];exact AE.pure Q rfl
 |e::es,H,ρ,s,he,Q=>by
  simp only[Cq];rw[qC,UQ rfl,bind_assoc];refine AE.bindR (he e (.head _) H ρ s Q) λv H1 ρ1 s1 x e1 S1 Q1 r1=>?_;have r1:v=x:=r1;subst r1;rw[pure_bind];cases v with
  |true=>exact NZ (λe m=>he e (.tail _ m)) Q1
  |false=>
   have:∀l:List Expr,(forIn l false λc r=>if r=true then do let ok←isTrue c f.env (eval c f.env);pure (ForInStep.yield ok) else pure (ForInStep.yield r))=(pure false:Sem Bool):=λl=>by
    induction l with
    |nil=>rfl
    |cons c l ih=>rw [qC,T8 ⋯,pure_bind];exact ih
   dsimp only;rw[this];exact AE.pure Q1 rfl
def BQ (K:AN) (cx:Cx) (tx:Str) (ifs:List Expr) (elt:Expr):V->Loc->Hp->Res (Loc×Option V):=λv loc h=>match Bc cx loc tx v h with
 |some (loc,h)=>(Cq K ifs cx loc h).bind λc h=>if c then (AX K elt cx loc h).bind λw h=>.ok (loc,some w) h else .ok (loc,none) h
 |none=>.stuck
def Qx (g:Gd) (f:Fd) (YY:List Addr) (ρ0:AR) (s0:Shared) (D:Addr) (c:Res (List V)) (r:Result) (s':Shared):Prop:=
 ∃l H' ρ' loc',c= .ok l H'/\(∃fl,r= .ok fl)/\Step g f.fr YY ρ0 s0 ρ' s'/\AF g f ρ' H' loc' s'.heap/\AccAt g f ρ' s'.heap D l
def Hb (M:Model) (A:Around) (R:Result->Shared->Prop) (fin:Fin) (s':Shared):Prop:=match fin with
 | .done fl=>R (.ok fl) s'
 | .again c'=>c'.quiet=true/\DB c'=true/\codeN M A c' R s'
theorem GT {src:Src}{tx:Str}{px pos:Pos}{iter elt:Expr}{ifs:List Expr}{scope:Scope}{D:Addr}{itv:Value}(fk:Ac g f N) (hif:∀loc,∀e∈ifs,Cp g K f loc e) (helt:∀loc,Good g K f loc elt) (d9:∀a,src≠ .enm a)
  (fR:D∉Y) (hL:f.L∈YY) (hD:D∈YY) (iD:∀y∈Y,y∈YY) (hnew:∀y∈YY,s0.heap.get? y=none):
  ∀(n i:Nat) (acc:List V) (loc:Loc) (H:Hp) (ρ:AR) (s:Shared),BG src (BQ K f.cx tx ifs elt) n i acc loc H≠ .stuck->AF g f ρ H loc s.heap->Ex g f ρ s.heap Y itv src i->AccAt g f ρ s.heap D acc->Step g f.fr YY ρ0 s0 ρ s->
   codeN g.M f.A (.compLoop (.ListComp elt [⟨.Name tx px,iter,ifs,0⟩] scope pos) 0 itv (.ref D) f.env) (Qx g f YY ρ0 s0 D (BG src (BQ K f.cx tx ifs elt) n i acc loc H)) s
 |0,i,acc,loc,H,ρ,s,ns,_,_,_,_=>absurd rfl ns
 |n+1,i,acc,loc,H,ρ,s,ns,Q,I,AC,S0=>by
  refine AS ?_;show Ai _ f.A ((compTurn (.ListComp elt [⟨.Name tx px,iter,ifs,0⟩] scope pos) 0 itv (.ref D) f.env).onRaise (λx=>do noteFrame x f.env;theTreesLotGoes x)) (Hb g.M f.A (Qx g f YY ρ0 s0 D (BG src (BQ K f.cx tx ifs elt) (n+1) i acc loc H))) _ s;refine Aq (AG (E:=λ_ _=>False) ?_ (λ_ _ q=>q) λ_ _ q=>q.elim);rw[compTurn_list];refine AA (AY (AA (AL ?_)));cases dU:src.next i H with
  |none=>exact absurd (by simp only[BG,dU]) ns
  |some ov=>
   cases ov with
   |none=>
    have hc:BG src (BQ K f.cx tx ifs elt) (n+1) i acc loc H= .ok acc H:=by simp only[BG,dU]
    rw[hc];refine next_end fk.handled Q I dU λy h' hy k Q'=>?_;refine AB ⟨acc,H,ρ,loc,rfl,⟨_,rfl⟩,(S0.ends (t:=s.toks) (hnew y (iD y hy)) k),Q',?_⟩;obtain⟨it,m,e,v⟩:=AC.at_;have hne:D≠y:=λq=>fR (q▸hy);have ik:AI s.heap h':=λb o e im=>k b o (λq=>by
     obtain⟨ob,hob,hn⟩:=(I.loose y hy).ex;subst q;rw[hob] at e;cases e;exact hn im) e
    exact⟨AC.loose.keeps ⟨_,k _ _ hne e,CY⟩,⟨it,m,k _ _ hne e,v.mono ik (eC _)⟩,AC.len⟩
   |some v=>
    refine next_item Q I dU λs1 x S1 Q1 rv L1 O1=>?_;have I1:=G5 L1 O1 d9;have mO:Step g f.fr YY ρ s ρ s1:=S1.weaken λb hb=>by
     rcases fg.mp hb with rfl|hb
     ·exact hL
     ·exact iD b hb
    have A1:AccAt g f ρ s1.heap D acc:=by
     obtain⟨it,m,e,v⟩:=AC.at_;have fy:D∉f.L::Y:=λq=>by
      rcases fg.mp q with q|q
      ·exact AC.loose.loc q
      ·exact fR q
     have e1:=S1.kept D _ e AC.loose.own fy AC.loose.tab AC.loose.fr;refine⟨AC.loose.keeps ⟨_,e1,CY⟩,⟨it,m,e1,v.mono ?_ (eC _)⟩,AC.len⟩;refine S1.YB Q.hr λb o e im=>λq=>?_;rcases fg.mp q with q|q
     ·exact Q.Uo e im q
     ·obtain⟨ob,hob,hn⟩:=(I.loose b q).ex;rw[hob] at e;cases e;exact hn im
    show Ai _ _ (letOwnedTupleGo (.Name tx px) itv x>>=λ_=>_) _ _ s1;rw[Hc];refine AA (AB (AA ?_));show Ai _ _ (do standAt px;bindName f.env tx x) _ _ s1;refine AA (AY ?_);cases hsv:Bc f.cx loc tx v H with
    |none=>exact absurd (by simp only[BG,dU,BQ,hsv]) ns
    |some lh=>
     obtain⟨dS,H1⟩:=lh;refine AL (jV (E:=λ_ _=>False) (Ev fk Q1 rv hsv) (λ_ s2 ⟨S2,Q2⟩=>?_) λ_ _ q=>q.elim);have I2:=I1.step S2;have A2:=A1.step Q1 S2;have w1:∀{ρ ρ' s s'},Step g f.fr [f.L] ρ s ρ' s'->Step g f.fr YY ρ s ρ' s':=λS=>S.weaken λb hb=>by rw[eA.mp hb];exact hL
     have mP:=(S0.trans mO).trans (w1 S2);have mQ:(Cq K ifs f.cx dS H1).out dS≠ .stuck:=λe=>by
      have hz:Cq K ifs f.cx dS H1= .stuck:=by cases hz:Cq K ifs f.cx dS H1<;>rw [hz] at e<;>first|cases e|rfl
      exact ns (by simp only[BG,dU,BQ,hsv,hz];rfl)
     refine AA (AG (NZ (hif dS) Q2 mQ) (λok s3 hq=>?_) λe s3 hq=>?_)
     ·obtain⟨c,l',H3,ρ3,e3,S3,Q3,r3⟩:=hq;have r3:c=ok:=r3;subst r3;have hz:Cq K ifs f.cx dS H1= .ok c H3/\l'=dS:=by
       cases hz:Cq K ifs f.cx dS H1<;>rw [hz] at e3<;>cases e3<;>exact ⟨rfl,rfl⟩
      obtain⟨hz,rfl⟩:=hz;have iE:=mP.trans (w1 S3);have I3:=I2.step S3;have A3:=A2.step Q2 S3;cases c with
      |false=>
       have hc:BG src (BQ K f.cx tx ifs elt) (n+1) i acc loc H=BG src (BQ K f.cx tx ifs elt) n (i+1) acc l' H3:=by
        have ht:BQ K f.cx tx ifs elt v loc H= .ok (l',none) H3:=by simp only[BQ,hsv,hz];rfl
        simp only[BG,dU,ht]
       rw[hc] at ns ⊢;rw[T8 ⋯];exact AB (a:=Fin.again _) (And.intro rfl (And.intro rfl (GT fk hif helt d9 fR hL hD iD hnew n (i+1) acc l' H3 ρ3 s3 ns Q3 I3 A3 iE)))
      |true=>
       rw[UQ rfl];have mR:(AX K elt f.cx l' H3).out l'≠ .stuck:=λe=>by
        have hz2:AX K elt f.cx l' H3= .stuck:=by cases hz:AX K elt f.cx l' H3<;>rw [hz] at e<;>first|cases e|rfl
        have ht:BQ K f.cx tx ifs elt v loc H= .stuck:=by simp only[BQ,hsv,hz,Res.bind,qT,hz2]
        exact ns (by simp only[BG,dU,ht])
       refine AA (AA (AG (helt l' H3 ρ3 s3 Q3 mR) (λw s4 hq=>?_) λe s4 hq=>?_))
       ·obtain⟨w4,l4,H4,ρ4,e4,S4,Q4,r4⟩:=hq;have hz2:AX K elt f.cx l' H3= .ok w4 H4/\l4=l':=by
         cases hz:AX K elt f.cx l' H3<;>rw [hz] at e4<;>cases e4<;>exact ⟨rfl,rfl⟩
        obtain⟨hz2,rfl⟩:=hz2;have ht:BQ K f.cx tx ifs elt v loc H= .ok (l4,some w4) H4:=by simp only[BQ,hsv,hz,Res.bind,qT,hz2]
        have hc:BG src (BQ K f.cx tx ifs elt) (n+1) i acc loc H=if acc.length<lid then BG src (BQ K f.cx tx ifs elt) n (i+1) (acc++[w4]) l4 H4 else .stuck:=by
         simp only[BG,dU,ht]
        rw[hc] at ns ⊢;split at ns
        ·rename_i fX;rw[UQ fX];have fz:=iE.trans (w1 S4);have I4:=I3.step S4;have A4:=A3.step Q3 S4;obtain⟨it,m,e,va⟩:=A4.at_;have hsz:it.size=acc.length:=by rw[←At va];simp
         refine AA (AL (tT ⟨m,e⟩ (λh5 ⟨m5,e5⟩ sb=>?_) (by rw[hsz,il];unfold lid at fX;omega)));have Q5:=Q4.Bp A4.loose sb.extBut;have ik:AI s4.heap h5:=λb o e' im=>sb.extBut b o (λq=>by subst q;rw[e] at e';cases e';exact CY im) e';have I5:Ex g f ρ4 h5 Y itv src (i+1):=⟨λy hy=>(I4.loose y hy).keeps (by
          obtain⟨ob,hob,hn⟩:=(I4.loose y hy).ex;exact⟨ob,sb.extBut _ _ (λq=>fR (q▸hy)) hob,hn⟩),I4.core.keeps (eC _) λy hy o e=>sb.extBut _ _ (λq=>fR (q▸hy)) e⟩
         have A5:AccAt g f ρ4 h5 D (acc++[w4]):=⟨A4.loose.keeps ⟨_,e5,CY⟩,⟨_,m5,e5,by
          rw[Array.toList_push];exact DQ (va.mono ik (eC _)) (GQ (r4.mono ik (eC _)))⟩,by rw[eR];exact fX⟩
         exact AB (AB (a:=Fin.again _) (And.intro rfl (And.intro rfl (GT fk hif helt d9 fR hL hD iD hnew n (i+1) (acc++[w4]) l4 H4 ρ4 {s4 with heap:=h5} ns Q5 I5 A5 (fz.ends (t:=s4.toks) (hnew D hD) sb.extBut)))))
        ·exact absurd rfl ns
       ·obtain⟨c,l4,H4,ρ4,a,e0,e4,_⟩:=hq;have hz2:AX K elt f.cx l' H3= .exc c H4:=by
         cases hz:AX K elt f.cx l' H3<;>rw [hz] at e4<;>cases e4<;>rfl
        have ht:BQ K f.cx tx ifs elt v loc H= .exc c H4:=by simp only[BQ,hsv,hz,Res.bind,qT,hz2]
        exact ns (by simp only[BG,dU,ht])
     ·obtain⟨c,l4,H4,ρ4,a,e0,e4,_⟩:=hq;have hz2:Cq K ifs f.cx dS H1= .exc c H4:=by
       cases hz:Cq K ifs f.cx dS H1<;>rw [hz] at e4<;>cases e4<;>rfl
      have ht:BQ K f.cx tx ifs elt v loc H= .exc c H4:=by simp only[BQ,hsv,hz2,Res.bind]
      exact ns (by simp only[BG,dU,ht])
variable {C:Addr}{Q':Value->Shared->Prop}{cells:List (Str×Addr)}
theorem EW {env:Env}{x:Str}:∀{names:List (Str×NameKind)}{k:NameKind},names.lookup x=some k->
  (names.map λ(n,k)=>if (k==NameKind.free&&env.scope.kind== .function&&env.kindOf n==some .cell) then (n,NameKind.cell) else (n,k)).lookup x=some (if (k==NameKind.free&&env.scope.kind== .function&&env.kindOf x==some .cell)=true then .cell else k)
 |[],k,h=>by simp at h
 |(n,j)::r,k,h=>by
  have ih:= @EW env x r k;rw[qG] at h;simp only[ij];cases hx:x==n with
  |true=>
   rw[hx] at h;cases h;have hx':x=n:=by simpa using hx
   subst hx';split<;>simp [qG]
  |false=>
   rw[hx] at h;by_cases hc:(j==NameKind.free&&env.scope.kind== .function&&env.kindOf n==some .cell)=true
   ·rw[UQ hc,qG,hx];exact ih h
   ·rw[T8 hc,qG,hx];exact ih h
abbrev Fd.comp (f:Fd) (scope:Scope) (C:Addr) (cells:List (Str×Addr)) (cs:List (Str×Nat)):Fd:=
 ⟨f.A,{newEnv scope C f.env.globals cells f.env.qual none .none (some f.env) builtinsNs with scope:=relabel scope f.env},C,f.fr,⟨scope.names,cs,f.cx.lam⟩⟩
theorem Ac.comp {scope:Scope}{C:Addr}{cells:List (Str×Addr)}{cs:List (Str×Nat)}(fk:Ac g f N) (hs:BH scope=true):Ac g (f.comp scope C cells cs) N:=by
 obtain⟨h1,h2,h3,h4,h5⟩:=BS hs;refine⟨fk.frames,fk.handled,fk.guards,fk.depth,fk.units,h1,rfl,fk.globals,fk.builtins,λx k hk=>?_,fk.frame,fk.lam⟩;have hk':scope.names.lookup x=some k:=by rw[←Ep];exact hk
 refine⟨?_,?_⟩
 ·show Ln k ((relabel scope f.env).names.lookup x)
  have:=EW (env:=f.env) hk'
  unfold relabel;rw[this];by_cases hc:(k==NameKind.free&&f.env.scope.kind== .function&&f.env.kindOf x==some .cell)=true
  ·rw[UQ hc];simp only[dv,ke] at hc;rw[hc.1.1];exact .inr rfl
  ·rw[T8 hc];cases k<;>first|exact rfl|exact .inl rfl
 ·have hm:∃p∈scope.names,p.1=x:=by
   obtain⟨q,hq,e⟩:=FQ hk;exact⟨q,hq,e⟩
  obtain⟨p,hp,rfl⟩:=hm;exact h4 p hp
theorem KI {h0:Heap}(Q:BJ g fr ρ H s.heap) (e:srcOf v H=some src) (r:VR g ρ s.heap v x):SrcR g f h0 ρ s.heap src x/\∀a,src≠ .enm a:=by
 unfold srcOf at e;split at e
 ·cases e;unfold VR at r;exact⟨r,λ_=>nofun⟩
 ·rename_i a;split at e
  ·rename_i l hl;cases e;unfold VR at r;obtain⟨p,hp,rfl⟩:=r;obtain⟨q,hq,o⟩:=Q.rep.get hl;rw[hp] at hq;cases hq;exact⟨⟨p,rfl,hp,l,_,rfl,o⟩,λ_=>nofun⟩
  ·cases e
 ·cases e
theorem GH (I:Ex g f ρ s.heap Y it src i) (h:Q' it s):wpAny (model g.prog g.w) A (pyIter it) Q' E s:=by
 have c:=I.core;cases src with
 |Ck a b=>obtain ⟨I',rfl,rfl,hi⟩:=c;exact wpAny_pyIter_rangeiter hi h
 |lst a=>obtain ⟨I',p,rfl,rfl,hp,hi⟩:=c;exact wpAny_pyIter_listiter hi h
 |enm a=>obtain ⟨e,I',p,old,rfl,rfl,hne,hp,he,hi⟩:=c;exact wpAny_pyIter_enum he h
theorem Oa (fk:Ac g f N) (hs:BH scope=true) (hif:∀f',Ac g f' N->∀loc,∀e∈ifs,Cp g K f' loc e) (helt:∀f',Ac g f' N->∀loc,Good g K f' loc elt) (Q:AF g f ρ H loc s.heap) (hc:Ba ρ cs cl) (r:SrcR g f s.heap ρ s.heap src x) (d9:∀a,src≠ .enm a) (ns:BG src (BQ K ⟨scope.names,(AH scope.names cs H).1,f.cx.lam⟩ tx ifs elt) (src.len H+1) 0 [] [] (AH scope.names cs H).2≠ .stuck) (k:∀l H' D C ρ₂ s',BG src (BQ K ⟨scope.names,(AH scope.names cs H).1,f.cx.lam⟩ tx ifs elt) (src.len H+1) 0 [] [] (AH scope.names cs H).2= .ok l H'->Step g f.fr [] ρ s ρ₂ s'->AF g f ρ₂ (H'++[.list l]) loc s'.heap->VR g ρ₂ s'.heap (.ref H'.length) (.ref D)->
   Loose g f ρ₂ s'.heap C->s.heap.get? C=none->(∃m,s'.heap.Ns C m)->CA g.M f.A E use Q' (.ref D) C (.ok .next) s'):
  Ai g.M f.A (pyIter x) (λit s₂=>Ai g.M f.A (newList []) (λacc s₃=>Ai g.M f.A (newFunctionEnv scope f.env.globals cl [] f.env.qual none .none (some f.env)) (λcenv s₄=>
    codeN g.M f.A (.compStart (.ListComp elt [⟨.Name tx px,iter,ifs,0⟩] scope pos) 0 it acc {cenv with scope:=relabel scope f.env}) (CA g.M f.A E use Q' acc cenv.locals) s₄) E s₃) E s₂) E s:=by
 refine AL (jV (E:=λ_ _=>False) (Hz Q r λb o e=>⟨o,e⟩) (λit s2 ⟨k2,⟨h2,e2⟩,Y,I2,hY⟩=>?_) λ_ _ q=>q.elim);have Q2:=Q.keeps k2;refine AL (wpAny_newList ?_ ⋯);have hD:=As s2.heap;generalize mS:s2.heap.objs.size=D at hD;generalize hO:(({cls:=.type "list",data:=.seq ([]:List Value).toArray}):Obj)=ol;have fy:s.heap.get? D=none:=by
  cases q:s.heap.get? D with
  |none=>rfl
  |some o=>rw [k2 _ _ q] at hD;cases hD
 have Q3:=Q2.push ol;have gT:(s2.heap.push ol).get? D=some ol:=by rw[←mS];exact eQ _ (by subst hO;rfl)
 have I3:Ex g f ρ (s2.heap.push ol) Y it src 0:=I2.step (s:=s2) (s':={s2 with heap:=s2.heap.push ol}) (Step.push (t:=s2.toks) ol);have fR:D∉Y:=λm=>by
  obtain⟨o,e,_⟩:=(I2.loose D m).ex;rw[hD] at e;cases e
 have f7:ol=listOf #[] 0:=by rw[←hO]
 have L3:Loose g f ρ (s2.heap.push ol) D:=Loose.new Q2 hD gT (by rw[f7];exact CY);have A3:AccAt g f ρ (s2.heap.push ol) D []:=⟨L3,⟨#[],0,by rw[gT,f7],Em⟩,el _⟩;refine AL (El (g:=g) (f:=f) (s:={s2 with heap:=s2.heap.push ol}) Q3 hc λcells ρ4 s4 Q4 ⟨t,e4,eB⟩ k4 ⟨h4,e5⟩ c4 hns hown hbase=>?_);rw[qg];refine df ?_;have fB:=As (s2.heap.push ol);dsimp only at hns hown hbase k4 ⊢;generalize pS:(s2.heap.push ol).objs.size=C at hns hown hbase fB ⊢;have f9:s.heap.get? C=none:=by
  cases q:s.heap.get? C with
  |none=>rfl
  |some o=>rw [du _ (k2 _ _ q)] at fB;cases fB
 have iy:D≠C:=λq=>by rw[q,fB] at gT;cases gT
 have mT:∀y∈Y,y≠C:=λy m q=>by
  obtain⟨o,e,_⟩:=(I3.loose y m).ex;rw[q,fB] at e;cases e
 have ks:∀b o,s.heap.get? b=some o->s4.heap.get? b=some o:=λb o e=>k4 b o (du _ (k2 b o e));have fz:Step g f.fr (C::D::Y) ρ s ρ4 s4:=by
  subst e4 e5 e2;refine⟨hW _ _,λp hp=>?_,λb o e _ _ _ _=>ks b o e,λb o e _ _=>⟨o.slots,ks b o e⟩,λb o e=>⟨o,ks b o e⟩,⟨_,_,rfl⟩⟩;rw[mB] at hp;have back:∀{b},(h2.push ol).get? b=none->s.heap.get? b=none:=λ{b} e=>by
   cases q:s.heap.get? b with
   |none=>rfl
   |some o=>rw [du _ (k2 _ _ q)] at e;cases e
  exact⟨back (eB p hp).1,back (eB p hp).2⟩
 have dW:Ac g (f.comp scope C cells (AH scope.names cs H).1) N:=fk.comp hs;have mU:AF g (f.comp scope C cells (AH scope.names cs H).1) ρ4 (AH scope.names cs H).2 [] s4.heap:=
  ⟨⟨⟨_,hns,λ_ _ _ q=>by cases q⟩,hbase,hown,λx a q=>Dd c4 x a q⟩,Q4.hr⟩
 have fS:∀b,(∃ob,(s2.heap.push ol).get? b=some ob)->¬Own ρ b->¬Own ρ4 b:=λb ⟨ob,hb⟩ n q=>by
  obtain⟨p,hp,j9⟩:=q;rw[e4] at hp;rcases eI.mp hp with m|m
  ·exact n ⟨p,m,j9⟩
  ·have:=eB p m
   rcases j9 with q|q
   ·rw[←q] at this;dsimp only at this;rw[hb] at this;cases this.1
   ·rw[←q] at this;dsimp only at this;rw[hb] at this;cases this.2
 have I4:Ex g (f.comp scope C cells (AH scope.names cs H).1) ρ4 s4.heap Y it src 0:=by
  refine⟨λy m=>?_,I3.core.keeps (e4▸hW _ _) λy m o e=>k4 _ _ e⟩;obtain⟨o,e,n⟩:=(I3.loose y m).ex;exact⟨⟨o,k4 _ _ e,n⟩,fS y ⟨o,e⟩ (I3.loose y m).own,(I3.loose y m).fr,(I3.loose y m).tab,mT y m,(I3.loose y m).base⟩
 have A4:AccAt g (f.comp scope C cells (AH scope.names cs H).1) ρ4 s4.heap D []:=by
  obtain⟨it,n,e,_⟩:=A3.at_;exact⟨⟨⟨_,k4 _ _ e,CY⟩,fS D ⟨_,e⟩ L3.own,L3.fr,L3.tab,iy,L3.base⟩,⟨#[],0,k4 _ _ (by rw[gT,f7]),Em⟩,el _⟩
 have fin:∀r s',Qx g (f.comp scope C cells (AH scope.names cs H).1) (C::D::Y) ρ s D (BG src (BQ K ⟨scope.names,(AH scope.names cs H).1,f.cx.lam⟩ tx ifs elt) (src.len H+1) 0 [] [] (AH scope.names cs H).2) r s'->CA g.M f.A E use Q' (.ref D) C r s':=by
  rintro r s' ⟨l,H',ρ',loc',e,⟨fl,rfl⟩,S,Q5,A5⟩;have S':Step g f.fr [] ρ s ρ' s':=Step.Vg (X:=[]) S λy m=>by
   rcases fg.mp m with rfl|m
   ·exact f9
   ·rcases fg.mp m with rfl|m
    ·exact fy
    ·exact hY y m
  have hL:=Q.toI7.there;have Q6:AF g f ρ' H' loc s'.heap:=by
   refine⟨Q.toI7.of (S'.XU Q.hr) S'.pre (S'.old hL.choose_spec Q.lo) λm ⟨o,es,ep,h1,h2,h3⟩=>?_,Q5.hr⟩;by_cases hfr:f.L∈BZ f.fr
   ·obtain⟨sl,h4⟩:=S'.slots _ _ h1 hfr (by simp);exact⟨_,es,ep,h4,h2,h3⟩
   ·have hnt:f.L∉g.Dz:=λm=>by
     obtain⟨q,hq,gU⟩:=eJ.mp m;obtain⟨_,ps,hp,_⟩:=Q.hr.tabs q hq;rw[gU,h1] at hp;cases hp;cases h2
    exact⟨o,es,ep,S'.kept _ _ h1 Q.lo (by simp) hnt hfr,h2,h3⟩
  obtain⟨its,n,kB,gV⟩:=A5.at_;have hDL:D≠f.L:=λq=>by obtain⟨o,e⟩:=hL;rw[←q,fy] at e;cases e
  have mV:C≠f.L:=λq=>by obtain⟨o,e⟩:=hL;rw[←q,f9] at e;cases e
  have ob:By g (ρ'++[(D,D)]) s'.heap (.list l) (D,D):=⟨rfl,its,n,kB,gV.mono (AI.refl _) (hW _ _),A5.len⟩;have Q7:=Q6.adopt A5.loose.base A5.loose.own A5.loose.fr A5.loose.tab hDL ob;have S7:Step g f.fr [] ρ s (ρ'++[(D,D)]) s':=S'.adopt (t:=s'.toks) (h':=s'.heap) fy (λ_ _ _ e=>e) ⟨_,kB⟩;obtain⟨mC,oC,_⟩:=Q5.ns;have iz:C∉BZ f.fr:=λm=>by obtain⟨o,e⟩:=Q.hr.HJ m;rw[f9] at e;cases e
  have mW:C∉g.Dz:=λm=>by obtain⟨o,e⟩:=Q.hr.GB m;rw[f9] at e;cases e
  have LC:Loose g f (ρ'++[(D,D)]) s'.heap C:=by
   obtain⟨o,es,ep,h1,h2,h3⟩:=oC;refine⟨⟨o,h1,Ff h2⟩,λq=>?_,iz,mW,mV,Q5.lb⟩;rcases Nw q with q|q|q
   ·exact Q5.lo q
   ·exact iy q.symm
   ·exact iy q.symm
  have vr:VR g (ρ'++[(D,D)]) s'.heap (.ref H'.length) (.ref D):=by
   unfold VR;exact⟨(D,D),by rw[←Q5.hr.rep.len];simp,rfl⟩
  have:=k l H' D C _ s' e S7 Q7 vr LC f9 ⟨mC,oC⟩
  cases use<;>exact this
 have loop:=GT (g:=g) (f:=f.comp scope C cells (AH scope.names cs H).1) (K:=K) (ρ0:=ρ) (s0:=s) (YY:=C::D::Y) (src:=src) (tx:=tx) (px:=px) (pos:=pos) (iter:=iter) (elt:=elt) (ifs:=ifs) (scope:=scope) (itv:=it) dW (λloc=>hif _ dW loc) (λloc=>helt _ dW loc) d9 fR (.head _) (.tail _ (.head _)) (λy m=>.tail _ (.tail _ m)) (λy m=>by
   rcases fg.mp m with rfl|m
   ·exact f9
   ·rcases fg.mp m with rfl|m
    ·exact fy
    ·exact hY y m) (src.len H+1) 0 [] [] _ ρ4 s4 ns mU I4 A4 fz
 have loop':=A6 loop fin;refine AS ?_;show Ai _ f.A ((compStart (.ListComp elt [⟨.Name tx px,iter,ifs,0⟩] scope pos) 0 it (.ref D) (f.comp scope C cells (AH scope.names cs H).1).env).onRaise (λx=>do noteFrame x (f.comp scope C cells (AH scope.names cs H).1).env;standAt theWindowsPlace)) (Hb g.M f.A (CA g.M f.A E use Q' (.ref D) C)) _ s4;refine Aq (AG (E:=λ_ _=>False) ?_ (λ_ _ q=>q) λ_ _ q=>q.elim);refine AL ?_;unfold compStart;show wpAny _ _ (ask>>=_) _ _ s4;refine K3 (wpAny_askSetting (tP ?_));split
 ·first
   |exact K3 (df (df (And.intro rfl (And.intro rfl loop'))))
   |exact df (a:=Fin.again _) (And.intro rfl (And.intro rfl loop'))
 ·first
   |exact K3 (sU (K3 (rJ (K3 (GH I4 (df (a:=Fin.again _) (And.intro rfl (And.intro rfl loop'))))))))
   |(refine K3 (sU ?_);show wpAny _ _ (standAt iter.pos>>=_) _ _ s4;exact K3 (rJ (K3 (GH I4 (df (a:=Fin.again _) (And.intro rfl (And.intro rfl loop')))))))
theorem GC (h:∀a b c,e≠ .Set a b c):foldedSetIterable e env x=pure x:=by
 unfold foldedSetIterable;split
 ·exact absurd rfl (h _ _ _)
 ·rfl
def Gx (K:AN) (cx:Cx) (scope:Scope) (cs:List (Str×Nat)) (tx:Str) (ifs:List Expr) (elt:Expr) (v:V) (h:Hp):Res V:=match srcOf v h with
 |some s=>(BG s (BQ K ⟨scope.names,(AH scope.names cs h).1,cx.lam⟩ tx ifs elt) (s.len h+1) 0 [] [] (AH scope.names cs h).2).bind λl h=>.ok (.ref h.length) (h++[.list l])
 |none=>.stuck
theorem KE:AX K (.ListComp elt [⟨.Name tx px,iter,ifs,0⟩] scope pos) cx loc H=match BH scope,AW scope.names cx.cells with
  |true,some cs=>(AX K iter cx loc H).bind λv h=>Gx K cx scope cs tx ifs elt v h
  |_,_=>.stuck:=by
 simp only[AX];rfl
theorem OS (ns:Gx K cx scope cs tx ifs elt v H≠ .stuck):∃src,srcOf v H=some src/\
  BG src (BQ K ⟨scope.names,(AH scope.names cs H).1,cx.lam⟩ tx ifs elt) (src.len H+1) 0 [] [] (AH scope.names cs H).2≠ .stuck/\
  Gx K cx scope cs tx ifs elt v H=(BG src (BQ K ⟨scope.names,(AH scope.names cs H).1,cx.lam⟩ tx ifs elt) (src.len H+1) 0 [] [] (AH scope.names cs H).2).bind λl h=>.ok (.ref h.length) (h++[.list l]):=by
 unfold Gx at ns ⊢;split at ns
 ·rename_i src h2;refine⟨src,h2,λe=>ns (by rw[e];rfl),?_⟩
  try rfl
 ·exact absurd rfl ns
theorem MW (fk:Ac g f N) (hs:BH scope=true) (hif:∀f',Ac g f' N->∀loc,∀e∈ifs,Cp g K f' loc e) (helt:∀f',Ac g f' N->∀loc,Good g K f' loc elt) (Q:AF g f ρ H loc s.heap) (hc:Ba ρ cs cl) (r:VR g ρ s.heap v x) (ns:Gx K f.cx scope cs tx ifs elt v H≠ .stuck) (k:∀H' D C ρ₂ s' w,Gx K f.cx scope cs tx ifs elt v H= .ok w H'->Step g f.fr [] ρ s ρ₂ s'->AF g f ρ₂ H' loc s'.heap->VR g ρ₂ s'.heap w (.ref D)->
   Loose g f ρ₂ s'.heap C->s.heap.get? C=none->(∃m,s'.heap.Ns C m)->CA g.M f.A E use Q' (.ref D) C (.ok .next) s'):
  Ai g.M f.A (pyIter x) (λit s₂=>Ai g.M f.A (newList []) (λacc s₃=>Ai g.M f.A (newFunctionEnv scope f.env.globals cl [] f.env.qual none .none (some f.env)) (λcenv s₄=>
    codeN g.M f.A (.compStart (.ListComp elt [⟨.Name tx px,iter,ifs,0⟩] scope pos) 0 it acc {cenv with scope:=relabel scope f.env}) (CA g.M f.A E use Q' acc cenv.locals) s₄) E s₃) E s₂) E s:=by
 obtain⟨src,h1,h3,h4⟩:=OS ns;obtain⟨sr,d9⟩:=KI (h0:=s.heap) Q.hr h1 r;refine Oa fk hs hif helt Q hc sr d9 h3 λl H' D C ρ₂ s' e S Q2 vr LC hC hn=>?_;exact k (H'++[.list l]) D C ρ₂ s' (.ref H'.length) (by rw[h4,e];rfl) S Q2 vr LC hC hn
theorem Km (fk:Ac g f N) (hit:Good g K f loc iter) (hif:∀f',Ac g f' N->∀loc,∀e∈ifs,Cp g K f' loc e) (helt:∀f',Ac g f' N->∀loc,Good g K f' loc elt) (Q:AF g f ρ H loc s.heap) (ns:AX K (.ListComp elt [⟨.Name tx px,iter,ifs,0⟩] scope pos) f.cx loc H≠ .stuck) (hE:∀e s',BP g f ρ s ((AX K (.ListComp elt [⟨.Name tx px,iter,ifs,0⟩] scope pos) f.cx loc H).out loc) e s'->E e s') (k:∀H' D C ρ₂ s' w,AX K (.ListComp elt [⟨.Name tx px,iter,ifs,0⟩] scope pos) f.cx loc H= .ok w H'->Step g f.fr [f.L] ρ s ρ₂ s'->AF g f ρ₂ H' loc s'.heap->VR g ρ₂ s'.heap w (.ref D)->
   Loose g f ρ₂ s'.heap C->s.heap.get? C=none->(∃m,s'.heap.Ns C m)->CA g.M f.A E use Q' (.ref D) C (.ok .next) s'):
  Ai g.M f.A (comprehension (.ListComp elt [⟨.Name tx px,iter,ifs,0⟩] scope pos) scope f.env (firstIterPos [⟨.Name tx px,iter,ifs,0⟩] pos) (newList []) false (eval iter f.env) use) Q' E s:=by
 rw[KE] at ns hE k;split at ns
 ·rename_i cs hs hfc;simp only[hs,hfc] at hE k;by_cases fC:∃a b c,iter= .Set a b c
  ·obtain⟨a,b,c,rfl⟩:=fC
   have:AX K (.Set a b c) f.cx loc H= .stuck:=by simp only[AX]
   rw[this] at ns;exact absurd rfl ns
  obtain⟨cl,r1,r2⟩:=Hy Q.cells hfc;obtain⟨g1,_,_,_,g5⟩:=BS hs;have hns:AX K iter f.cx loc H≠ .stuck:=λe=>ns (by rw[e];rfl);refine Fv rfl (λx=>GC λa b c q=>fC ⟨a,b,c,q⟩) r2 g1 g5 ?_;refine AG (hit H ρ s Q λe=>hns (by cases hz:AX K iter f.cx loc H<;>rw [hz] at e<;>first|cases e|rfl)) (λx s1 hq=>?_) λe s1 hq=>?_
  ·obtain⟨v,l',H1,ρ1,e1,S1,Q1,rv⟩:=hq;have hz:AX K iter f.cx loc H= .ok v H1/\l'=loc:=by
    cases hz:AX K iter f.cx loc H<;>rw [hz] at e1<;>cases e1<;>exact ⟨rfl,rfl⟩
   obtain⟨hz,rfl⟩:=hz;rw[hz] at ns k
   change Gx K f.cx scope cs tx ifs elt v H1≠ .stuck at ns
   change ∀H' D C ρ₂ s' w,Gx K f.cx scope cs tx ifs elt v H1= .ok w H'->_ at k
   exact MW fk hs hif helt Q1 (r1.mono S1.pre) rv ns λH2 D C ρ₂ s2 w e S2 Q2 vr LC hC hn=>
    k H2 D C ρ₂ s2 w e (S1.trans (S2.weaken λb hb=>by simp at hb)) Q2 vr LC (S1.EV hC) hn
  ·refine hE e s1 ?_;obtain⟨c,l',H1,ρ1,a,e0,e1,F,L1⟩:=hq;have hz:AX K iter f.cx loc H= .exc c H1/\l'=loc:=by
    cases hz:AX K iter f.cx loc H<;>rw [hz] at e1<;>cases e1<;>exact ⟨rfl,rfl⟩
   obtain⟨hz,rfl⟩:=hz;rw[hz];exact⟨c,l',H1,ρ1,a,e0,rfl,F,L1⟩
 ·exact absurd rfl ns
theorem Loose.same (LC:Loose g f ρ h C) (k:Heap.ExtBut C h h'):AI h h':=λb o e im=>k b o (λq=>by
 obtain⟨ob,hob,hni⟩:=LC.ex;subst q;rw[hob] at e;cases e;exact hni im) e
theorem Jz (fk:Ac g f N) (hit:Good g K f loc iter) (hif:∀f',Ac g f' N->∀loc,∀e∈ifs,Cp g K f' loc e) (helt:∀f',Ac g f' N->∀loc,Good g K f' loc elt) (Q:AF g f ρ H loc s.heap):AE g f (BE g) ρ s ((AX K (.ListComp elt [⟨.Name tx px,iter,ifs,0⟩] scope pos) f.cx loc H).out loc) (eval (.ListComp elt [⟨.Name tx px,iter,ifs,0⟩] scope pos) f.env):=by
 intro ns;rw[eval_ListComp];refine Km (use:=none) (px:=px) (pos:=pos) fk hit hif helt Q (λe=>ns (by rw[e];rfl)) (λ_ _ q=>q) λH2 D C ρ₂ s2 w e S2 Q2 vr LC hC hn=>?_;obtain⟨m,hn⟩:=hn;refine⟨m,hn,λh' sb=>?_⟩;rw[e];exact⟨w,loc,H2,ρ₂,rfl,S2.ends (t:=s2.toks) hC sb.extBut,Q2.Bp LC sb.extBut,vr.mono (LC.same sb.extBut) (eC _)⟩
theorem KF {u:Value->Sem Unit}{Q':Unit->Shared->Prop}(fk:Ac g f N) (hit:Good g K f loc iter) (hif:∀f',Ac g f' N->∀loc,∀e∈ifs,Cp g K f' loc e) (helt:∀f',Ac g f' N->∀loc,Good g K f' loc elt) (Q:AF g f ρ H loc s.heap) (ns:AX K (.ListComp elt [⟨.Name tx px,iter,ifs,0⟩] scope pos) f.cx loc H≠ .stuck) (hE:∀e s',BP g f ρ s ((AX K (.ListComp elt [⟨.Name tx px,iter,ifs,0⟩] scope pos) f.cx loc H).out loc) e s'->E e s') (k:∀H' D ρ₂ s' w,AX K (.ListComp elt [⟨.Name tx px,iter,ifs,0⟩] scope pos) f.cx loc H= .ok w H'->Step g f.fr [f.L] ρ s ρ₂ s'->AF g f ρ₂ H' loc s'.heap->VR g ρ₂ s'.heap w (.ref D)->
   ∃eE H3,Ai g.M f.A (u (.ref D)) (λ_ s''=>∃ρ₃,Step g f.fr [f.L] ρ₂ s' ρ₃ s''/\AF g f ρ₃ H3 eE s''.heap) E s'/\∀ρ₃ s'',Step g f.fr [f.L] ρ s ρ₃ s''->AF g f ρ₃ H3 eE s''.heap->Q' () s''):
  Ai g.M f.A (evalThenUse (.ListComp elt [⟨.Name tx px,iter,ifs,0⟩] scope pos) f.env u) Q' E s:=by
 show Ai _ _ (do let _←comprehension (.ListComp elt [⟨.Name tx px,iter,ifs,0⟩] scope pos) scope f.env (firstIterPos [⟨.Name tx px,iter,ifs,0⟩] pos) (newList []) false (eval iter f.env) (some u)) _ _ _;refine AA (AG (Km (Q':=λ_ s'=>Q' () s') (use:=some u) (px:=px) (pos:=pos) fk hit hif helt Q ns hE λH2 D C ρ₂ s2 w e S2 Q2 vr LC hC hn=>?_) (λ_ s' hq=>AB hq) λ_ _ q=>q);obtain⟨eE,H3,hu,hk⟩:=k H2 D ρ₂ s2 w e S2 Q2 vr;obtain⟨m,hn⟩:=hn;refine AG hu (λ_ s3 ⟨ρ₃,S3,Q3⟩=>?_) λ_ _ q=>q;obtain⟨o,es,ep,h1,h2⟩:=hn;refine⟨m,⟨o,es,ep,S3.HH LC h1,h2⟩,λh' sb=>?_⟩;have mX:=S3.loose LC;exact hk ρ₃ _ ((S2.trans S3).ends (t:=s3.toks) hC sb.extBut) (Q3.Bp mX sb.extBut)
variable {t:Expr}
theorem Bh {pos:Pos}:∀{es:List Expr}{H:Hp}{ρ:AR}{s:Shared},(∀e∈es,Good g K f loc e)->AF g f ρ H loc s.heap->AE g f (Ij g) ρ s ((G2 K es f.cx loc H).out loc) (spliced (backTo pos (starEach es f.env)))
 |[],H,ρ,s,_,Q=>by simp only[G2];exact HF Q
 |e::r,H,ρ,s,he,Q=>by
  simp only[G2];exact Gf Q (he e (.head _)) λH ρ s Q=>Bh (λe m=>he e (.tail _ m)) Q
theorem OV {a o:Expr}(ht:Cp g K f loc t) (ha:Good g K f loc a) (ho:Good g K f loc o) (Q:AF g f ρ H loc s.heap):
  AE g f (BE g) ρ s (((HE K t f.cx loc H (AX K t f.cx loc H)).bind λc h=>if c then AX K a f.cx loc h else AX K o f.cx loc h).out loc) (eval (.IfExp t a o pos) f.env):=
 R6 (ht H ρ s Q) ha ho
theorem Gw {op:UnaryOp}{k:V->Hp->Res V}(h:AE g f (BE g) ρ s ((AX K e f.cx loc H).out loc) (eval e f.env)) (hk:∀a h,k a h= .stuck):
  AE g f (BE g) ρ s (((AX K e f.cx loc H).bind k).out loc) (eval (.UnaryOp op e pos) f.env):=by
 show AE g f (BE g) ρ s _ (do let v←eval e f.env;standAt pos;holding [v] (unaryOp op v));refine AE.bindR h λa H1 ρ1 s1 x e1 S1 Q1 r1=>?_;rw[hk];exact AE.stuck
theorem BY [SizeOf α] {l:List α}{a:α}(h:a∈l):sizeOf a<sizeOf l:=List.sizeOf_lt_of_mem h
theorem U0 (G:C2 g) (T:I0 g) (SO:ES g) (SK:Br g K b):∀n e,sizeOf e<n->∀f,Ac g f (b+2)->∀loc,Good g K f loc e/\Cp g K f loc e
 |0,e,h=>absurd h (sG _)
 |n+1,e,hn=>by
  have ih:=U0 G T SO SK n;intro f fk loc;have good:Good g K f loc e:=by
   intro H ρ s Q;rw[AX.eq_def];split
   ·exact JS Q
   ·exact Kz G fk Q
   ·rename_i e x pos;split
    ·rename_i hb;exact QN G hb ((ih e (by simp at hn;omega) f fk _).1 _ ρ s Q)
    ·exact AE.stuck
   ·rename_i l op r pos;exact OX ((ih l (by simp at hn;omega) f fk _).1 _ ρ s Q) (ih r (by simp at hn;omega) f fk _).1
   ·rename_i op e pos;have he:=(ih e (by simp at hn;omega) f fk _).1 _ ρ s Q;cases op with
    |Not=>exact R4 he
    |USub=>
     refine AE.eq rfl ?_
     have:=Ru (pos:=pos) he
     refine cast ?_ this
     congr 2
     congr 1
     funext a h
     cases a<;>rfl
    |UAdd=>exact Gw he λa h=>by cases a<;>rfl
    |Invert=>exact Gw he λa h=>by cases a<;>rfl
   ·rename_i op es pos;exact Fb (λe m=>(ih e (by have:=BY m;simp at hn;omega) f fk _).1) Q
   ·rename_i l ops rs pos;split
    ·exact AE.stuck
    ·rename_i hm;exact Kr G fk (by simpa using hm) (ih l (by simp at hn;omega) f fk _).1 (λe m=>(ih e (by have:=BY m;simp at hn;omega) f fk _).1) Q
   ·rename_i t a o pos;exact OV (ih t (by simp at hn;omega) f fk _).2 (ih a (by simp at hn;omega) f fk _).1 (ih o (by simp at hn;omega) f fk _).1 Q
   ·rename_i es k pos;show AE g f (BE g) ρ s _ (do standAt pos;newTuple (←spliced (backTo pos (starEach es f.env))));refine AE.standAt (AE.bindR (Bh (λe m=>(ih e (by have:=BY m;simp at hn;omega) f fk _).1) Q) λvs H1 ρ1 s1 xs e1 S1 Q1 r1=>?_);exact KH Q1 r1
   ·rename_i es pos;show AE g f (BE g) ρ s _ (do standAt pos;newList (←spliced (backTo pos (starEach es f.env))));refine AE.standAt (AE.bindR (Bh (λe m=>(ih e (by have:=BY m;simp at hn;omega) f fk _).1) Q) λvs H1 ρ1 s1 xs e1 S1 Q1 r1=>?_);exact Ko Q1 r1
   ·rename_i ks vs pos;split
    ·exact OF G Q
    ·rename_i hne;split
     ·rename_i hall;simp only[dv,ip,ke] at hall;refine Oy (λe=>hne e) hall.1.1 hall.1.2 hall.2 (λk m e q=>?_) (λe m=>(ih e (by have:=BY m;simp at hn;omega) f fk _).1) Q;subst q;exact (ih e (by have:=BY m;simp at this hn;omega) f fk _).1
     ·exact AE.stuck
   ·rename_i body scope pos;split
    ·rename_i cs h1 h2;simp only[dv] at h1;exact MF T fk Q h1.1 h1.2 h2
    ·exact AE.stuck
   ·rename_i elt tx px it ifs scope pos;have key:=Jz (pos:=pos) (px:=px) (tx:=tx) (elt:=elt) (iter:=it) (ifs:=ifs) (scope:=scope) (K:=K) fk (ih it (by simp at hn;omega) f fk _).1 (λf' dW loc e m=>(ih e (by have:=BY m;simp at hn;omega) f' dW loc).2) (λf' dW loc=>(ih elt (by simp at hn;omega) f' dW loc).1) Q;rw[AX.eq_def] at key;exact key
   ·rename_i e lo hi spos pos;exact Mq (ih e (by simp at hn;omega) f fk _).1 (λx q=>by subst q;exact (ih x (by simp at hn;omega) f fk _).1) (λx q=>by subst q;exact (ih x (by simp at hn;omega) f fk _).1) Q
   ·rename_i e i pos _;exact Iv (ih e (by simp at hn;omega) f fk _).1 (ih i (by simp at hn;omega) f fk _).1 Q
   ·rename_i e x apos args pos;split
    ·rename_i hc;simp only[dv,ip] at hc;exact Mo G SK fk hc.1.1.1 hc.1.1.2 hc.1.2 hc.2 ((ih e (by simp at hn;omega) f fk _).1 _ ρ s Q) λH ρ s Q=>Bh (λe m=>(ih e (by have:=BY m;simp at hn;omega) f fk _).1) Q
    ·exact AE.stuck
   ·rename_i e args pos hna;split
    ·rename_i hc;exact Qv G SO SK fk hc (λa x p q=>hna a x p q) ((ih e (by simp at hn;omega) f fk _).1 _ ρ s Q) λH ρ s Q=>Bh (λe m=>(ih e (by have:=BY m;simp at hn;omega) f fk _).1) Q
    ·exact AE.stuck
   ·exact AE.stuck
  refine⟨good,?_⟩;intro H ρ s Q;have hg:=good H ρ s Q;cases e with
  |UnaryOp op e pos=>
   cases op with
   |Not=>
    simp only[HE];exact Lp (ih e (by simp at hn;omega) f fk _).2 Q
   |_=>simp only[HE];exact Jd (p:=pos) hg
  |BoolOp op es pos=>
   simp only[HE];exact EN (λe m=>(ih e (by have:=BY m;simp at hn;omega) f fk _).2) Q
  |Compare l ops rs pos=>
   simp only[HE];split
   ·exact AE.stuck
   ·rename_i hm;exact HA G fk (by simpa using hm) (ih l (by simp at hn;omega) f fk _).1 (λe m=>(ih e (by have:=BY m;simp at hn;omega) f fk _).1) Q
  |IfExp t a o pos=>simp only[HE];exact AE.stuck
  |_=>simp only[HE];exact Jd hg
theorem sE (G:C2 g) (T:I0 g) (SO:ES g) (SK:Br g K b) (fk:Ac g f (b+2)) (e:Expr):Good g K f loc e:=(U0 G T SO SK _ e (qP _) f fk loc).1
theorem sT (G:C2 g) (T:I0 g) (SO:ES g) (SK:Br g K b) (fk:Ac g f (b+2)) (e:Expr):Cp g K f loc e:=(U0 G T SO SK _ e (qP _) f fk loc).2
def CQ:AR->Heap->Fl->Unit->Prop:=λ_ _ a _=>a= .next
variable {loc':Loc}
theorem EA {t:Sem Unit}(h:Ai g.M f.A t (λ_ s'=>Step g f.fr [f.L] ρ s ρ s'/\AF g f ρ H' loc' s'.heap) (λ_ _=>False) s):AE g f CQ ρ s (.ok .next loc' H') t:=λ_=>
 AG h (λ_ s' ⟨S,Q⟩=>⟨.next,loc',H',ρ,rfl,S,Q,rfl⟩) λ_ _ q=>q.elim
theorem AE.EU {o:Out Fl}{t:Sem Unit}{ks:List Value}(h:AE g f CQ ρ s o t):AE g f CQ ρ s o (t>>=λ_=>PySem.release vs ks):=λns=>
 AA (AG (h ns) (λ_ s' q=>DI q) λ_ _ q=>q)
theorem Me {r:Res V}{a:V->Hp->Res V}{k:V->V->Hp->Out β}:(r.toS loc λp h=>(a p h).toS loc λq h=>k p q h)=((r.bind λp h=>(a p h).bind λq h=>(.ok (p,q) h:Res (V×V))).toS loc λpq h=>k pq.1 pq.2 h):=by
 cases r with
 |ok p h=>
  show (a p h).toS loc _=((a p h).bind _).toS loc _;cases a p h<;>rfl
 |exc=>rfl
 |stuck=>rfl
theorem KU {x:Str}(fk:Ac g f N) (Q:AF g f ρ H loc s.heap) (r:VR g ρ s.heap v y):AE g f CQ ρ s (Bb K (.Name x pos) v f.cx loc H) (assign (.Name x pos) f.env y):=by
 simp only[Bb];show AE g f CQ ρ s _ (do standAt pos;bindName f.env x y);refine AE.standAt ?_;cases e:Bc f.cx loc x v H with
 |none=>exact AE.stuck
 |some lh=>
  obtain⟨loc',H'⟩:=lh;exact EA (AL (Ev fk Q r e))
theorem Jy {x:Str}(G:C2 g) (he:Good g K f loc e) (Q:AF g f ρ H loc s.heap) (r:VR g ρ s.heap v y):AE g f CQ ρ s (Bb K (.Attribute e x pos) v f.cx loc H) (assign (.Attribute e x pos) f.env y):=by
 simp only[Bb];show AE g f CQ ρ s _ (do
  let ov←holding [y] (eval e f.env)
  standAt pos.atName
  holding [y,ov] (setAttr ov x y)
  PySem.release [y,ov] [])
 refine AE.EC (AE.holding (he H ρ s Q)) λo H1 ρ1 s1 z e1 S1 Q1 r1=>AE.standAt (AE.EU (AE.holding ?_));cases e2:DV o x v H1 with
 |none=>exact AE.stuck
 |some H2=>exact EA (AL (NL G Q1 r1 (r.mono (S1.CL Q) S1.pre) e2))
theorem K5 {i:Expr}(hi0:∀lo hi p,i≠ .Slice lo hi none p) (he:Good g K f loc e) (hi:Good g K f loc i) (Q:AF g f ρ H loc s.heap) (r:VR g ρ s.heap v y):
  AE g f CQ ρ s ((AX K e f.cx loc H).toS loc λo h=>(AX K i f.cx loc h).toS loc λk h=>match Go o k v h with
   |some h=>.ok .next loc h
   |none=>.stuck) (assign (.Subscript e i pos) f.env y):=by
 obtain⟨ks,hks⟩:∃ks:Value->Value->List Value,assign (.Subscript e i pos) f.env y=(do
  let ov←holding [y] (eval e f.env)
  let iv←holding [y,ov] (eval i f.env)
  standAt pos
  holding [y,ov,iv] (setItem ov iv y)
  PySem.release (ks ov iv) []):=⟨_,rfl⟩
 rw[hks];refine AE.EC (AE.holding (he H ρ s Q)) λo H1 ρ1 s1 z e1 S1 Q1 r1=>?_;refine AE.EC (AE.holding (hi H1 ρ1 s1 Q1)) λk H2 ρ2 s2 w e2 S2 Q2 r2=>AE.standAt (AE.EU (AE.holding ?_));cases e2:Go o k v H2 with
 |none=>exact AE.stuck
 |some H3=>exact EA (AL (RZ Q2 (r1.mono (S2.CL Q1) S2.pre) r2 ((r.mono (S1.CL Q) S1.pre).mono (S2.CL Q1) S2.pre) e2))
theorem It {spos:Pos}(fk:Ac g f N) (he:Good g K f loc e) (h1:∀x,lo=some x->Good g K f loc x) (h2:∀x,hi=some x->Good g K f loc x) (Q:AF g f ρ H loc s.heap) (r:VR g ρ s.heap v y):
  AE g f CQ ρ s ((AX K e f.cx loc H).toS loc λo h=>(KV K lo f.cx loc h).toS loc λp h=>(KV K hi f.cx loc h).toS loc λq h=>match EJ o p q v h with
   |some h=>.ok .next loc h
   |none=>.stuck) (assign (.Subscript e (.Slice lo hi none spos) pos) f.env y):=by
 show AE g f CQ ρ s _ (do
  let ov←holding [y] (eval e f.env)
  let iv←holding [y,ov] (eval (.Slice lo hi none spos) f.env)
  standAt pos
  holding [y,ov,iv] (setItem ov iv y)
  PySem.release [iv,y,ov] [])
 refine AE.EC (AE.holding (he H ρ s Q)) λo H1 ρ1 s1 z e1 S1 Q1 r1=>?_;rw[Me];refine AE.EC (AE.holding (JZ h1 h2 Q1)) λpq H2 ρ2 s2 w e2 S2 Q2 r2=>AE.standAt (AE.EU (AE.holding ?_));cases e3:EJ o pq.1 pq.2 v H2 with
 |none=>exact AE.stuck
 |some H3=>exact EA (QC fk.guards Q2 (r1.mono (S2.CL Q1) S2.pre) r2 ((r.mono (S1.CL Q) S1.pre).mono (S2.CL Q1) S2.pre) e3)
theorem Jc {hold:List Value}{l:List V}{n:Nat}{o:Out β}{R:AR->Heap->β->δ->Prop}{u:List Value->Sem δ}(e:(match v with| .tup l=>some l|v=>itemsOf v H)=some l) (hh:f.A.handled=none) (Q:AF g f ρ H loc s.heap) (r:VR g ρ s.heap v y) (hn:n=l.length) (h2:∀ρ s' xs,Step g f.fr [f.L] ρ s ρ s'->AF g f ρ H loc s'.heap->Aa g ρ s'.heap l xs->AE g f R ρ s' o (u xs)):AE g f R ρ s o (holding hold (unpackItems y n none)>>=u):=by
 have back:∀{h':Heap},Heap.ExtBut s.heap.objs.size s.heap h'->∀b o,s.heap.get? b=some o->h'.get? b=some o:=λk b o e=>k b o (qZ (qJ e)) e;have go:(∃a items,y= .ref a/\IsTup s.heap a items/\Aa g ρ s.heap l items.toList)∨(∃a items,y= .ref a/\s.heap.IsList a items/\Aa g ρ s.heap l items.toList):=by
  cases v
  case tup m=>
   cases e;unfold VR at r;obtain⟨a,items,h1,h2,h3,_⟩:=r;exact .inl ⟨a,items,h1,h2,h3⟩
  all_goals
   obtain⟨a,items,h1,h2,h3,_⟩:=FL Q.hr r e;exact .inr ⟨a,items,h1,h2,h3⟩
 intro ns;rcases go with ⟨a,items,rfl,ht,hv⟩|⟨a,items,rfl,ht,hv⟩
 ·have hz:n=items.size:=by rw[hn,←At hv];simp
  subst hz;refine AJ (ky<|unpackItems_tuple hh ht λh' k=>?_);exact AE.after (Step.keeps (t:=s.toks) (back k)) (h2 ρ {s with heap:=h'} items.toList (Step.keeps (t:=s.toks) (back k)) (Q.keeps (back k)) (hv.mono (AI.of_keeps (back k)) (eC _)) ns)
 ·have hz:n=items.size:=by rw[hn,←At hv];simp
  subst hz;refine AJ (ky<|kun_itemsOf hh ht λh' k=>?_);exact AE.after (Step.keeps (t:=s.toks) (back k)) (h2 ρ {s with heap:=h'} items.toList (Step.keeps (t:=s.toks) (back k)) (Q.keeps (back k)) (hv.mono (AI.of_keeps (back k)) (eC _)) ns)
theorem GJ {p:Pos}:Bb K (.Starred e p) v cx loc H= .stuck:=by simp only[Bb]
theorem CE:∀{es:List Expr}{env:Env},noStar es=true->assignEach es env=es.map λe=>(false,assign e env)
 |[],_,_=>rfl
 |e::r,env,h=>by
  by_cases hs:∃a p,e= .Starred a p
  ·obtain⟨a,p,rfl⟩:=hs;simp [noStar] at h
  ·have hr:noStar r=true:=by cases e<;>first|exact h|exact absurd ⟨_,_,rfl⟩ hs
   have:assignEach (e::r) env=(false,assign e env)::assignEach r env:=by
    cases e<;>first|rfl|exact absurd ⟨_,_,rfl⟩ hs
   rw[this,CE hr];rfl
theorem GP:∀{es:List Expr}{vs:List V}{cx:Cx}{loc:Loc}{H:Hp},BX K es vs cx loc H≠ .stuck->noStar es=true
 |[],_,_,_,_,_=>rfl
 |e::r,[],cx,loc,H,ns=>by simp only[BX] at ns;exact absurd rfl ns
 |e::r,v::vs,cx,loc,H,ns=>by
  by_cases hs:∃a p,e= .Starred a p
  ·obtain⟨a,p,rfl⟩:=hs;simp only[BX,GJ] at ns;exact absurd rfl ns
  ·have hr:noStar r=true:=by
    simp only[BX] at ns;split at ns
    ·exact GP ns
    ·exact absurd rfl ns
   cases e<;>first|exact hr|exact absurd ⟨_,_,rfl⟩ hs
theorem Hm (G:C2 g) (T:I0 g) (SO:ES g) (SK:Br g K b) (fk:Ac g f (b+2)):∀(n:Nat) (t:Expr),sizeOf t<n->∀{v:V}{y:Value}{H:Hp}{loc:Loc}{ρ:AR}{s:Shared},AF g f ρ H loc s.heap->VR g ρ s.heap v y->
  AE g f CQ ρ s (Bb K t v f.cx loc H) (assign t f.env y)
 |0,t,h,_,_,_,_,_,_,_,_=>absurd h (sG _)
 |n+1,t,hn,v,y,H,loc,ρ,s,Q,r=>by
  have each:∀{es:List Expr},(∀e∈es,sizeOf e<n)->∀{vs:List V}{xs:List Value}{H:Hp}{loc:Loc}{ρ:AR}{s:Shared},AF g f ρ H loc s.heap->Aa g ρ s.heap vs xs->AE g f CQ ρ s (BX K es vs f.cx loc H) (assignInOrder (es.map λe=>assign e f.env) xs):=by
   intro es
   induction es with
   |nil=>
    intro _ vs xs H loc ρ s Q r;cases vs with
    |nil=>
     simp only[BX];unfold Aa at r;subst r;exact AE.pure Q rfl
    |cons a b=>simp only[BX];exact AE.stuck
   |cons e es ih=>
    intro hsz vs xs H loc ρ s Q r;cases vs with
    |nil=>simp only[BX];exact AE.stuck
    |cons v vs=>
     unfold Aa at r;obtain⟨x,xr,rfl,rv,rr⟩:=r;show AE g f CQ ρ s _ (do holding xr (assign e f.env x);assignInOrder (es.map λe=>assign e f.env) xr);have h1:=Hm G T SO SK fk n e (hsz e (.head _)) Q rv;cases ha:Bb K e v f.cx loc H with
     |ok fl dS H1=>
      cases fl with
      |next=>
       simp only[BX,ha];rw[ha] at h1
       have:=AE.bind (R:=CQ) (R':=CQ) (k:=λ_ loc h=>BX K es vs f.cx loc h) (u:=λ_=>assignInOrder (es.map λe=>assign e f.env) xr) (AE.holding (vs:=xr) h1) λa dQ H2 ρ2 s2 _ e2 S2 Q2 _=>by
        cases e2;exact ih (λe m=>hsz e (.tail _ m)) Q2 (rr.mono (S2.CL Q) S2.pre)
       exact this
      |_=>simp only[BX,ha];exact AE.stuck
     |exc=>simp only[BX,ha];exact AE.stuck
     |stuck=>simp only[BX,ha];exact AE.stuck
  rw[Bb.eq_def];split
  ·rename_i x pos
   have:=KU (K:=K) (x:=x) (pos:=pos) fk Q r
   simp only[Bb] at this;exact this
  ·rename_i e x pos
   have:=Jy (K:=K) (x:=x) (pos:=pos) G (sE G T SO SK fk e) Q r
   simp only[Bb] at this;exact this
  ·rename_i e lo hi spos pos;exact It fk (sE G T SO SK fk e) (λx _=>sE G T SO SK fk x) (λx _=>sE G T SO SK fk x) Q r
  ·rename_i e i pos hi0;exact K5 (λlo hi p q=>hi0 lo hi p q) (sE G T SO SK fk e) (sE G T SO SK fk i) Q r
  ·rename_i es k pos;split
   ·rename_i l hl;split
    ·rename_i hlen;refine AE.C0 λns=>?_;have hst:=GP ns;show AE g f CQ ρ s _ (do standAt pos;unpack y (assignEach es f.env));refine AE.standAt ?_;rw[CE hst];have mY:(es.map λe=>(false,assign e f.env)).findIdx? (·.1)=none:=by
      rw[List.findIdx?_eq_none_iff];intro x hx;obtain⟨e,_,rfl⟩:=eJ.mp hx;rfl
     unfold unpack;rw[mY];have hmap:((es.map λe=>(false,assign e f.env)).map (·.2))=es.map λe=>assign e f.env:=by rw[qI];rfl
     rw[hmap,eP];exact Jc hl fk.handled Q r hlen.symm λρ s' xs S Q' rs=>each (λe m=>by have:=BY m;simp at hn;omega) Q' rs
    ·exact AE.stuck
   ·exact AE.stuck
  ·exact AE.stuck
def DM (g:Gd):AR->Heap->Fl->Flow->Prop:=λρ h a b=>match a with
 | .next=>b= .next
 | .brk=>b= .brk
 | .cont=>b= .cont
 | .ret v=>∃x,b= .ret x/\VR g ρ h v x
variable {body:List Stmt}{s1:Shared}
theorem DD {c:Code}{h:Option Value}{Q:Flow->Shared->Prop}(hn:DB c=true) (hc:codeN M (A.mark h) c (λr s'=>∃fl,r= .ok fl/\Q fl s') s) (hnb:h≠some byPass:=by intro x;cases x):
  Ai M A (runOwn c env h) Q E s:=by
 unfold runOwn;refine Aq (Nq hn (A6 hc λr s' ⟨fl,e,q⟩=>?_) hnb);subst e;exact q
def S8 (g:Gd) (K:AN) (N:Nat) (f:Fd) (st:Stmt):Prop:=∀loc H ρ s,AF g f ρ H loc s.heap->AE g f (DM g) ρ s (CP K N st f.cx loc H) (exec st f.env)
def C6 (g:Gd) (K:AN) (N:Nat) (f:Fd) (st:List Stmt):Prop:=∀loc H ρ s,AF g f ρ H loc s.heap->AE g f (DM g) ρ s (BK K N st f.cx loc H) (execs st f.env)
theorem DM.mono {ρ ρ':AR}{a:Fl}{b:Flow}(r:DM g ρ h a b) (k:AI h h') (p:ρ<+:ρ'):DM g ρ' h' a b:=by
 cases a<;>first|exact r|skip
 obtain⟨x,e,v⟩:=r;exact⟨x,e,v.mono k p⟩
theorem A0.before {ρ1:AR}{x:β}(S:Step g f.fr [f.L] ρ s ρ1 s1) (h:A0 g f R ρ1 s1 o x s'):A0 g f R ρ s o x s':=by
 obtain⟨a',l',d8,ρ₂,e2,S2,Q2,r2⟩:=h;exact⟨a',l',d8,ρ₂,e2,S.trans S2,Q2,r2⟩
theorem BP.before {ρ1:AR}{s1:Shared}{o:Out α}{x:Value}(S:Step g f.fr [f.L] ρ s ρ1 s1) (h:BP g f ρ1 s1 o x s'):BP g f ρ s o x s':=by
 obtain⟨c,l',d8,ρ₂,x,e2,e3,F,Q2⟩:=h;exact⟨c,l',d8,ρ₂,x,e2,e3,F.before S,Q2⟩
theorem LG:C6 g K N f []:=λloc H ρ s Q=>by
 simp only[BK];exact AE.pure Q rfl
theorem Jg {st:Stmt}{r:List Stmt}(h1:S8 g K N f st) (h2:C6 g K N f r):C6 g K N f (st::r):=λloc H ρ s Q=>by
 have e:BK K N (st::r) f.cx loc H=(CP K N st f.cx loc H).bind λa loc h=>match a with| .next=>BK K N r f.cx loc h|a=>.ok a loc h:=by
  simp only[BK];cases hz:CP K N st f.cx loc H with
  |ok a l h=>cases a<;>rfl
  |exc=>rfl
  |stuck=>rfl
 rw[e];show AE g f (DM g) ρ s _ (do match←exec st f.env with| .next=>execs r f.env|fl=>pure fl);refine AE.bind (h1 loc H ρ s Q) λa dS H1 ρ1 s1 fl e1 S1 Q1 r1=>?_;cases a with
 |next=>
  have r1:fl= .next:=r1
  subst r1;exact h2 dS H1 ρ1 s1 Q1
 |brk=>
  have r1:fl= .brk:=r1;subst r1;exact AE.pure Q1 rfl
 |cont=>
  have r1:fl= .cont:=r1;subst r1;exact AE.pure Q1 rfl
 |ret v=>
  obtain⟨x,rfl,v⟩:=r1;exact AE.pure Q1 ⟨x,rfl,v⟩
theorem HY {test:Expr}{body:List Stmt}(ht:∀loc,Cp g K f loc test) (hb:C6 g K N f body):∀(n:Nat) (loc:Loc) (H:Hp) (ρ:AR) (s:Shared),
  Al (λloc h=>HE K test f.cx loc h (AX K test f.cx loc h)) (λloc h=>BK K N body f.cx loc h) n loc H≠ .stuck->AF g f ρ H loc s.heap->
  codeN g.M f.A (.whileLoop test body [] f.env) (λr s'=>∃fl,r= .ok fl/\A0 g f (DM g) ρ s (Al (λloc h=>HE K test f.cx loc h (AX K test f.cx loc h)) (λloc h=>BK K N body f.cx loc h) n loc H) fl s') s
 |0,loc,H,ρ,s,ns,_=>absurd rfl ns
 |n+1,loc,H,ρ,s,ns,Q=>by
  generalize hT:(λloc h=>HE K test f.cx loc h (AX K test f.cx loc h))=T at ns ⊢;generalize hB:(λloc h=>BK K N body f.cx loc h)=B at ns ⊢;have jA:T loc H=HE K test f.cx loc H (AX K test f.cx loc H):=by rw[←hT]
  refine AS ?_;show Ai _ f.A ((whileTurn test body [] f.env).onRaise (λx=>do noteFrame x f.env;theTreesLotGoes x)) (Hb g.M f.A (λr s'=>∃fl,r= .ok fl/\A0 g f (DM g) ρ s (Al T B (n+1) loc H) fl s')) _ s;refine Aq (AG (E:=λ_ _=>False) ?_ (λ_ _ q=>q) λ_ _ q=>q.elim);unfold whileTurn;have nT:(T loc H).out loc≠ .stuck:=λe=>by
   have hz:T loc H= .stuck:=by cases hz:T loc H<;>rw [hz] at e<;>first|cases e|rfl
   exact ns (by simp only[Al,hz])
  rw[jA] at nT;refine AA (AG (ht loc H ρ s Q nT) (λc s1 hq=>?_) λe s1 hq=>?_)
  ·obtain⟨c',l',H1,ρ1,e1,S1,Q1,r1⟩:=hq;have r1:c'=c:=r1;subst r1;rw[←jA] at e1;have hz:T loc H= .ok c' H1/\l'=loc:=by
    cases hz:T loc H<;>rw [hz] at e1<;>cases e1<;>exact ⟨rfl,rfl⟩
   obtain⟨hz,rfl⟩:=hz;cases c' with
   |false=>
    have hw:Al T B (n+1) l' H= .ok .next l' H1:=by simp only[Al,hz]
    rw[hw];exact AA (m:=(pure Flow.next:Sem Flow)) (AB (AB ⟨.next,rfl,.next,l',H1,ρ1,rfl,S1,Q1,rfl⟩))
   |true=>
    have jB:B l' H1=BK K N body f.cx l' H1:=by rw[←hB]
    have nB:B l' H1≠ .stuck:=λe=>ns (by simp only[Al,hz,e]);rw[jB] at nB;rw[UQ rfl];refine AA (AG (hb l' H1 ρ1 s1 Q1 nB) (λfl s2 hq=>?_) λe s2 hq=>?_)
    ·obtain⟨a,l2,H2,ρ2,e2,S2,Q2,r2⟩:=hq;rw[←jB] at e2;have again:(Al T B (n+1) l' H=Al T B n l2 H2)->Ai g.M f.A (PySem.again (.whileLoop test body [] f.env)) (Hb g.M f.A (λr s'=>∃fl,r= .ok fl/\A0 g f (DM g) ρ s (Al T B (n+1) l' H) fl s')) (λ_ _=>False) s2:=λhw=>by
      rw[hw] at ns ⊢;have ih:=HY (test:=test) (body:=body) ht hb n l2 H2 ρ2 s2;rw[hT,hB] at ih;refine AB (a:=Fin.again _) (And.intro rfl (And.intro rfl (A6 (ih ns Q2) λr s' ⟨fl,e,q⟩=>⟨fl,e,q.before (S1.trans S2)⟩)))
     cases a with
     |next=>
      have r2:fl= .next:=r2
      subst r2;exact again (by simp only[Al,hz,e2])
     |cont=>
      have r2:fl= .cont:=r2;subst r2;exact again (by simp only[Al,hz,e2])
     |brk=>
      have r2:fl= .brk:=r2;subst r2;have hw:Al T B (n+1) l' H= .ok .next l2 H2:=by simp only[Al,hz,e2]
      rw[hw];exact AB ⟨.next,rfl,.next,l2,H2,ρ2,rfl,S1.trans S2,Q2,rfl⟩
     |ret v=>
      obtain⟨x,rfl,rv⟩:=r2;have hw:Al T B (n+1) l' H= .ok (.ret v) l2 H2:=by simp only[Al,hz,e2]
      rw[hw];exact AB ⟨.ret x,rfl,.ret v,l2,H2,ρ2,rfl,S1.trans S2,Q2,⟨x,rfl,rv⟩⟩
    ·obtain⟨c,l2,H2,ρ2,a,e0,e2,_⟩:=hq;rw[←jB] at e2;exact ns (by simp only[Al,hz,e2])
  ·obtain⟨c,l2,H2,ρ2,a,e0,e2,_⟩:=hq;rw[←jA] at e2;have hz:T loc H= .exc c H2:=by cases hz:T loc H<;>rw [hz] at e2<;>cases e2<;>rfl
   exact ns (by simp only[Al,hz])
theorem OM {Q':Result->Shared->Prop}(h:Q' (.ok .next) s):codeN g.M f.A (.block [] f.env) Q' s:=by
 refine AS ?_;show Ai _ f.A (do return .done (←(execs [] f.env).onRaise (λx=>do noteFrame x f.env;theTreesLotGoes x))) (Hb g.M f.A Q') _ s;exact AA (Aq (m:=(pure Flow.next:Sem Flow)) (AB (AB h)))
def JN (K:AN) (N:Nat) (cx:Cx) (t:Expr) (b:List Stmt):V->Loc->Hp->SR:=λv loc h=>match Bb K t v cx loc h with
 | .ok .next loc h=>BK K N b cx loc h
 |_=>.stuck
theorem K9 {src:Src}{t:Expr}{body:List Stmt}{itv:Value}(hh:f.A.handled=none) (ha:∀{v:V}{y:Value}{H:Hp}{loc:Loc}{ρ:AR}{s:Shared},AF g f ρ H loc s.heap->VR g ρ s.heap v y->AE g f CQ ρ s (Bb K t v f.cx loc H) (assign t f.env y))
  (hb:C6 g K N f body) (gA:JQ t src=true) (hnew:∀y∈Y,s0.heap.get? y=none):∀(n i:Nat) (loc:Loc) (H:Hp) (ρ:AR) (s:Shared),
  Bo src (JN K N f.cx t body) n i loc H≠ .stuck->AF g f ρ H loc s.heap->Ex g f ρ s.heap Y itv src i->Step g f.fr (f.L::Y) ρ0 s0 ρ s->
  codeN g.M f.A (.forLoop t itv body [] f.env) (λr s'=>∃fl,r= .ok fl/\A0 g f (DM g) ρ0 s0 (Bo src (JN K N f.cx t body) n i loc H) fl s') s
 |0,i,loc,H,ρ,s,ns,_,_,_=>absurd rfl ns
 |n+1,i,loc,H,ρ,s,ns,Q,I,S0=>by
  generalize hT:JN K N f.cx t body=T at ns ⊢;refine AS ?_;show Ai _ f.A ((forTurn t itv body [] f.env).onRaise (λx=>do noteFrame x f.env;theTreesLotGoes x)) (Hb g.M f.A (λr s'=>∃fl,r= .ok fl/\A0 g f (DM g) ρ0 s0 (Bo src T (n+1) i loc H) fl s')) _ s;refine Aq (AG (E:=λ_ _=>False) ?_ (λ_ _ q=>q) λ_ _ q=>q.elim);unfold forTurn;refine AA (AY (AA (Aq (AG (E:=λ_ _=>False) (AL ?_) (λ_ _ q=>q) λ_ _ q=>q.elim))));cases dU:src.next i H with
  |none=>exact absurd (by simp only[Bo,dU]) ns
  |some ov=>
   cases ov with
   |none=>
    have hc:Bo src T (n+1) i loc H= .ok .next loc H:=by simp only[Bo,dU]
    rw[hc];refine next_end hh Q I dU λy h' hy k Q'=>?_;refine AB (a:=Fin.again _) (And.intro rfl (And.intro rfl (OM ⟨.next,rfl,.next,loc,H,ρ,rfl,S0.Ue hnew hy k,Q',rfl⟩)))
   |some v=>
    refine next_item Q I dU λs1 x S1 Q1 rv L1 O1=>?_;have gW:T v loc H=match Bb K t v f.cx loc H with| .ok .next loc h=>BK K N body f.cx loc h|_=>.stuck:=by rw[←hT];rfl
    have iF:T v loc H≠ .stuck:=λe=>ns (by simp only[Bo,dU,e]);obtain⟨dQ,H2,has⟩:∃dQ H2,Bb K t v f.cx loc H= .ok .next dQ H2:=by
     rw[gW] at iF;split at iF
     ·rename_i l h e;exact⟨l,h,e⟩
     ·exact absurd rfl iF
    rw[has] at gW;have go:∀s2,Step g f.fr (f.L::Y) ρ0 s0 ρ s2->AF g f ρ H loc s2.heap->VR g ρ s2.heap v x->Ex g f ρ s2.heap Y itv src (i+1)->
      Ai g.M f.A (do assign t f.env x;match←execs body f.env with| .next| .cont=>PySem.again (.forLoop t itv body [] f.env)| .brk=>pure (.done .next)| .ret v=>pure (.done (.ret v))) (Hb g.M f.A (λr s'=>∃fl,r= .ok fl/\A0 g f (DM g) ρ0 s0 (Bo src T (n+1) i loc H) fl s')) (λ_ _=>False) s2:=λs2 S2 Q2 mZ I2=>by
     refine AA (AG (ha Q2 mZ (by rw[has];simp)) (λ_ s3 hq=>?_) λe s3 hq=>?_)
     ·obtain⟨a,l3,H3,ρ3,e3,S3,Q3,r3⟩:=hq;rw[has] at e3;cases e3;have I3:=I2.step S3;have iE:=S2.trans S3.wide;have nB:BK K N body f.cx dQ H2≠ .stuck:=λe=>iF (by rw[gW];exact e);refine AA (AG (hb dQ H2 ρ3 s3 Q3 nB) (λfl s4 hq=>?_) λe s4 hq=>?_)
      ·obtain⟨a,l4,H4,ρ4,e4,S4,Q4,r4⟩:=hq;have gB:T v loc H= .ok a l4 H4:=by rw[gW];exact e4
       have I4:=I3.step S4;have fz:=iE.trans S4.wide;have fin:∀{o:SR}{a:Fl}{fl:Flow},Bo src T (n+1) i loc H=o->o= .ok a l4 H4->DM g ρ4 s4.heap a fl->∃kC,(.ok fl:Result)= .ok kC/\A0 g f (DM g) ρ0 s0 (Bo src T (n+1) i loc H) kC s4:=λ{o a fl} h1 h2 h3=>by
        have jD:Step g f.fr ([f.L]++Y) ρ0 s0 ρ4 s4:=fz;exact⟨fl,rfl,a,l4,H4,ρ4,h1.trans h2,jD.Vg hnew,Q4,h3⟩
       have again:(Bo src T (n+1) i loc H=Bo src T n (i+1) l4 H4)->Ai g.M f.A (PySem.again (.forLoop t itv body [] f.env)) (Hb g.M f.A (λr s'=>∃fl,r= .ok fl/\A0 g f (DM g) ρ0 s0 (Bo src T (n+1) i loc H) fl s')) (λ_ _=>False) s4:=λhw=>by
        rw[hw] at ns ⊢;have ih:=K9 (itv:=itv) hh ha hb gA hnew n (i+1) l4 H4 ρ4 s4;rw[hT] at ih;exact AB (a:=Fin.again _) (And.intro rfl (And.intro rfl (ih ns Q4 I4 fz)))
       cases a with
       |next=>
        have r4:fl= .next:=r4
        subst r4;exact again (by simp only[Bo,dU,gB])
       |cont=>
        have r4:fl= .cont:=r4;subst r4;exact again (by simp only[Bo,dU,gB])
       |brk=>
        have r4:fl= .brk:=r4;subst r4;exact AB (fin (a:=.next) (by simp only[Bo,dU,gB]) rfl rfl)
       |ret v=>
        obtain⟨x,rfl,rv⟩:=r4;exact AB (fin (a:=.ret v) (by simp only[Bo,dU,gB]) rfl ⟨x,rfl,rv⟩)
      ·obtain⟨c,l4,H4,ρ4,a,e0,e4,_⟩:=hq;have gB:T v loc H= .exc c l4 H4:=by rw[gW];exact e4
       exact ns (by simp only[Bo,dU,gB])
     ·obtain⟨c,l4,H4,ρ4,a,e0,e4,_⟩:=hq;rw[has] at e4;cases e4
    show Ai _ _ (letOwnedTupleGo t itv x>>=λ_=>_) _ _ s1;have kE:=S0.trans S1;cases t with
    |Name tx px=>
     rw[Hc];refine AA (AB (go s1 kE Q1 rv (G5 L1 O1 λa q=>?_)));subst q;cases gA
    |Tuple es k pos=>
     refine AJ (Ky (v:=v) Q1 L1 O1 rv (λj q=>?_) (λa c q=>?_) λs2 S2 Q2 r2 I2=>go s2 (kE.trans S2) Q2 r2 I2)
     ·subst q;simp only[Bb,itemsOf] at has;cases has
     ·subst q;simp only[Src.next,qu] at dU;split at dU
      ·cases dU;exact⟨_,rfl⟩
      ·cases dU
    |_=>cases gA
variable {c:Nat}
theorem KQ {r:Res α}{a:α}{l:Loc}(e:r.out loc= .ok a l H'):r= .ok a H'/\l=loc:=by
 cases r<;>cases e;exact⟨rfl,rfl⟩
theorem GO {r:Res α}{l:Loc}(e:r.out loc= .exc c l H'):r= .exc c H'/\l=loc:=by
 cases r<;>cases e;exact⟨rfl,rfl⟩
theorem HD (fk:Ac g f N):interactive f.env=false:=by
 unfold interactive;rw[fk.kind];rfl
theorem Q9 (fk:Ac g f b) (he:Good g K f loc e) (Q:AF g f ρ H loc s.heap):AE g f (DM g) ρ s (CP K N (.Expr e pos) f.cx loc H) (exec (.Expr e pos) f.env):=by
 simp only[CP];split
 ·rename_i hc;have hsw:swapsWith e none pos.line f.env=pure false:=by
   cases e<;>first|rfl|(simp [Jt] at hc)
  rw[exec_Expr _ _ _ (HD fk) hsw];refine AE.standAt (AE.EC (he H ρ s Q) λv H1 ρ1 s1 x e1 S1 Q1 r1=>?_);exact AE.of (AL (wpAny_dropValue ⟨.next,loc,H1,ρ1,rfl,Step.refl,Q1,rfl⟩))
 ·exact AE.stuck
theorem US {a o:List Stmt}(ht:Cp g K f loc t) (ha:C6 g K N f a) (ho:C6 g K N f o) (Q:AF g f ρ H loc s.heap):AE g f (DM g) ρ s (CP K N (.If t a o pos) f.cx loc H) (exec (.If t a o pos) f.env):=by
 simp only[CP];rw[exec_If];refine AE.standAt (AE.EC (ht H ρ s Q) λc H1 ρ1 s1 x e1 S1 Q1 r1=>?_);have r1:c=x:=r1;subst r1;cases c with
 |true=>exact ha loc H1 ρ1 s1 Q1
 |false=>exact ho loc H1 ρ1 s1 Q1
theorem OU {a:List Stmt}(ht:∀loc,Cp g K f loc t) (ha:C6 g K N f a) (Q:AF g f ρ H loc s.heap):AE g f (DM g) ρ s (CP K N (.While t a [] pos) f.cx loc H) (exec (.While t a [] pos) f.env):=by
 intro ns;simp only[CP] at ns ⊢;rw[exec_While];exact AA (AY (DD rfl (HY ht ha N loc H ρ s (λe=>ns e) Q)))
def Ji (v:V) (h:Hp):Res Src:=match srcOf v h with|some (.lst a)=>.ok (.enm a) h|_=>.stuck
def M9 (vs:List V) (h:Hp):Res Src:=match vs with|[v]=>Ji v h|_=>.stuck
theorem Rk (G:C2 g) (he:∀e',sizeOf e'<=sizeOf e->Good g K f loc e') (Q:AF g f ρ H loc s.heap):AE g f (SrcR g f s.heap) ρ s ((E3 K e f.cx loc H).out loc) (eval e f.env):=by
 have plain:AE g f (SrcR g f s.heap) ρ s (((AX K e f.cx loc H).bind λv h=>Res.some h (srcOf v h)).out loc) (eval e f.env):=by
  intro ns;have jE:(AX K e f.cx loc H).out loc≠ .stuck:=λq=>ns (by
   have hz:AX K e f.cx loc H= .stuck:=by cases hz:AX K e f.cx loc H<;>rw [hz] at q<;>first|cases q|rfl
   rw[hz];rfl)
  refine AG (he e (ix _) H ρ s Q jE) (λx s1 hq=>?_) λx s1 hq=>?_
  ·obtain⟨v,l',H1,ρ1,e1,S1,Q1,r1⟩:=hq;obtain⟨hz,rfl⟩:=KQ e1;rw[hz] at ns ⊢
   change (Res.some H1 (srcOf v H1)).out l'≠_ at ns
   change A0 g f (SrcR g f s.heap) ρ s ((Res.some H1 (srcOf v H1)).out l') x s1
   cases hs:srcOf v H1 with
   |none=>rw [hs] at ns;exact absurd rfl ns
   |some src=>exact ⟨src,l',H1,ρ1,rfl,S1,Q1,(KI Q1.hr hs r1).1⟩
  ·obtain⟨c,l',H1,ρ1,a,e0,e1,F,L1⟩:=hq;obtain⟨hz,rfl⟩:=GO e1;rw[hz];exact⟨c,l',H1,ρ1,a,e0,rfl,F,L1⟩
 unfold E3;split
 ·rename_i x p a pos;split
  ·rename_i t ht;split
   ·rename_i gC;subst gC;by_cases hst:noStar [a]=true
    ·show AE g f (SrcR g f s.heap) ρ s _ (do callWith pos (←eval (.Name x p) f.env) [] (backTo pos (starEach [a] f.env)) []);have hn:=he (.Name x p) (by simp;omega) H ρ s Q;have hev:AX K (.Name x p) f.cx loc H= .ok (.ty "enumerate") H:=by simp only[AX,ht];rfl
     rw[hev] at hn;intro ns;refine AA (AG (hn (by simp [Res.out])) (λfv s1 hq=>?_) λ_ _ hq=>?_)
     ·obtain⟨v,l',H1,ρ1,e1,S1,Q1,r1⟩:=hq;cases e1;unfold BE VR at r1;subst r1;have key:=Cy (g:=g) (f:=f) (K:=K) (RR:=SrcR g f s.heap) (es:=[a]) (pos:=pos) (fv:=.type "enumerate") (first:=[]) (k:=M9) Q1 hst
       (λh' _ _ _ _ _=>D6 (λa e=>by cases e) h') (Bh (λe m=>by rw[eA.mp m];exact he a (by simp;omega)) Q1) λvs H' ρ' s' xs S' Q' rs=>by
        unfold M9;split
        ·rename_i v;unfold Ji;split
         ·rename_i i hi;unfold Aa at rs;obtain⟨y,r,rfl,ry,rr⟩:=rs;unfold Aa at rr;subst rr;obtain⟨⟨p,rfl,hp,l,o,rfl,e0,items,n,h1,h2,h3⟩,_⟩:=KI (f:=f) (h0:=s'.heap) Q'.hr hi ry;refine AE.of (AL (call_enumerate_list (l:=p.1) (items:=items) ⟨_,h1,rfl,n,rfl⟩ λh' g1 g2 g3 g4=>?_));have ne:=As s'.heap;have n1:s'.heap.get? (s'.heap.objs.size+1)=none:=by
           cases q:s'.heap.get? (s'.heap.objs.size+1) with
           |none=>rfl
           |some o=>exact absurd (qJ q) (uK.mpr (sv _))
          have fresh:∀{b},s'.heap.get? b=none->s.heap.get? b=none:=λhb=>S1.EV (S'.EV hb);obtain⟨oi,iC,mh⟩:=id g2;refine⟨.enm i,loc,H',ρ',rfl,Step.keeps (t:=s'.toks) g4,Q'.keeps g4,[s'.heap.objs.size+1,s'.heap.objs.size],⟨λy m=>?_,_,_,p,.none,rfl,rfl,Nat.succ_ne_self _,hp,g1,g2⟩,λy m=>?_⟩
          ·rcases fg.mp m with rfl|m
           ·exact Loose.new Q' n1 g1 Fg
           ·rw[eA.mp m];exact Loose.new Q' ne iC (D8 g2 iC)
          ·rcases fg.mp m with rfl|m
           ·exact fresh n1
           ·rw[eA.mp m];exact fresh ne
         ·exact AE.stuck
        ·exact AE.stuck
      have eq:((G2 K [a] f.cx loc H).bind M9)=((AX K a f.cx loc H).bind Ji):=by
       simp only[G2];cases AX K a f.cx loc H<;>rfl
      have ns':((AX K a f.cx loc H).bind Ji).out loc= .stuck->False:=ns;show Ai _ _ _ (A0 g f (SrcR g f s.heap) ρ s (((AX K a f.cx loc H).bind Ji).out loc)) (BP g f ρ s (((AX K a f.cx loc H).bind Ji).out loc)) _;rw[←eq] at ns' ⊢;exact AE.after S1 (key ns')
     ·obtain⟨c,l',H1,ρ1,a,e0,e1,_⟩:=hq;cases e1
    ·have:AX K a f.cx loc H= .stuck:=by
      cases a<;>first|(simp only[AX];done)|exact absurd rfl hst
     rw[this];exact AE.stuck
   ·exact plain
  ·exact plain
 ·exact plain
theorem R8 {it:Expr}{a:List Stmt}(G:C2 g) (fk:Ac g f b) (hi:∀e',Good g K f loc e') (ha:C6 g K N f a) (hs:∀{v:V}{y:Value}{H:Hp}{loc:Loc}{ρ:AR}{s:Shared},AF g f ρ H loc s.heap->VR g ρ s.heap v y->AE g f CQ ρ s (Bb K t v f.cx loc H) (assign t f.env y)) (Q:AF g f ρ H loc s.heap):
  AE g f (DM g) ρ s (CP K N (.For t it a [] pos) f.cx loc H) (exec (.For t it a [] pos) f.env):=by
 by_cases fC:∃a b c,it= .Set a b c
 ·obtain⟨a,b,c,rfl⟩:=fC;have e1:AX K (.Set a b c) f.cx loc H= .stuck:=by simp only[AX]
  simp only[CP,E3,e1];exact AE.stuck
 simp only[CP];show AE g f (DM g) ρ s _ (do
  standAt pos
  let x←foldedSetIterable it f.env (←eval it f.env)
  standAt it.pos
  runOwn (.forLoop t (←holding [x] (pyIter x)) a [] f.env) f.env)
 refine AE.standAt ?_;intro ns;have jE:(E3 K it f.cx loc H).out loc≠ .stuck:=λq=>ns (by
  have hz:E3 K it f.cx loc H= .stuck:=by cases hz:E3 K it f.cx loc H<;>rw [hz] at q<;>first|cases q|rfl
  rw[hz];rfl)
 refine AA (AG (Rk G (λe' _=>hi e') Q jE) (λx s1 hq=>?_) λx s1 hq=>?_)
 ·obtain⟨src,l',H1,ρ1,e1,S1,Q1,r1⟩:=hq;obtain⟨hz,rfl⟩:=KQ e1;rw[hz] at ns ⊢;rw[GC λa b c q=>fC ⟨a,b,c,q⟩];refine AA (AB (AA (AY (AA (AM (AL (jV (E:=λ_ _=>False) (Hz Q1 r1 λb o e=>S1.alive b o e) (λitv s2 ⟨k2,⟨h2,e2⟩,Y,I2,hY⟩=>?_) λ_ _ q=>q.elim)))))));have Q2:=Q1.keeps k2;have S2:Step g f.fr [f.L] ρ1 s1 ρ1 s2:=by
   subst e2;exact Step.keeps (t:=s1.toks) k2
  have eT:(λv loc h=>match Bb K t v f.cx loc h with| .ok .next loc h=>BK K N a f.cx loc h|_=>.stuck)=JN K N f.cx t a:=rfl
  change (if JQ t src=true then Bo src _ (src.len H1+1) 0 l' H1 else .stuck)≠_ at ns
  change Ai _ _ _ (A0 g f (DM g) ρ s (if JQ t src=true then Bo src (JN K N f.cx t a) (src.len H1+1) 0 l' H1 else .stuck)) (BP g f ρ s (if JQ t src=true then Bo src (JN K N f.cx t a) (src.len H1+1) 0 l' H1 else .stuck)) s2
  split at ns
  ·rename_i gA;rw[UQ gA];exact DD rfl (K9 fk.handled hs ha gA hY (src.len H1+1) 0 l' H1 ρ1 s2 ns Q2 I2 (S1.trans S2).wide)
  ·exact absurd rfl ns
 ·obtain⟨c,l',H1,ρ1,a,e0,e1,F,L1⟩:=hq;obtain⟨hz,rfl⟩:=GO e1;rw[hz];exact⟨c,l',H1,ρ1,a,e0,rfl,F,L1⟩
theorem Mh (he:Good g K f loc e) (Q:AF g f ρ H loc s.heap):AE g f (DM g) ρ s (CP K N (.Return (some e) pos) f.cx loc H) (exec (.Return (some e) pos) f.env):=by
 simp only[CP];rw[exec_Return_some];refine AE.standAt (AE.EC (he H ρ s Q) λv H1 ρ1 s1 x e1 S1 Q1 r1=>AE.pure Q1 ⟨x,rfl,r1⟩)
theorem Kp (Q:AF g f ρ H loc s.heap):AE g f (DM g) ρ s (CP K N (.Return none pos) f.cx loc H) (exec (.Return none pos) f.env):=by
 simp only[CP];show AE g f (DM g) ρ s _ (do standAt pos;pure (.ret .none));exact AE.standAt (AE.pure Q ⟨.none,rfl,Bw⟩)
theorem Mw {i:Expr}{p2:Pos}(he:Good g K f loc e) (hi:Good g K f loc i) (Q:AF g f ρ H loc s.heap):AE g f (DM g) ρ s (CP K N (.Delete [.Subscript e i p2] pos) f.cx loc H) (exec (.Delete [.Subscript e i p2] pos) f.env):=by
 simp only[CP];show AE g f (DM g) ρ s _ (do
  standAt pos
  (do
   (do
    let ov←eval e f.env
    let iv←holding [ov] (eval i f.env)
    standAt p2
    holding [ov,iv] (delItem ov iv)
    PySem.release [ov,iv] [])
   pure ())
  pure .next)
 refine AE.standAt ?_;simp only[bind_assoc,pure_bind];refine AE.EC (he H ρ s Q) λo H1 ρ1 s1 x e1 S1 Q1 r1=>?_;refine AE.EC (AE.holding (hi H1 ρ1 s1 Q1)) λk H2 ρ2 s2 y e2 S2 Q2 r2=>AE.standAt ?_;cases e3:Iy o k H2 with
 |none=>exact AE.stuck
 |some H3=>
  intro _;refine AA (AM (AG (E:=λ_ _=>False) (AL (Rw Q2 (r1.mono (S2.CL Q1) S2.pre) r2 e3)) (λ_ s3 ⟨S3,Q3⟩=>?_) λ_ _ q=>q.elim));exact AA (DI (AB ⟨.next,loc,H3,ρ2,rfl,S3,Q3,rfl⟩))
theorem Rr {r:Expr}{x:Str}{op:Operator}{tpos:Pos}(G:C2 g) (he:Good g K f loc e) (hr:Good g K f loc r) (Q:AF g f ρ H loc s.heap):
  AE g f (DM g) ρ s (CP K N (.AugAssign (.Attribute e x tpos) op r pos) f.cx loc H) (exec (.AugAssign (.Attribute e x tpos) op r pos) f.env):=by
 simp only[CP];show AE g f (DM g) ρ s _ (do
  standAt pos
  let ov←eval e f.env
  let new←holding [ov] (do
   standAt tpos.atName
   let old←getAttr ov x true
   let v←holding [old] (eval r f.env)
   standAt pos
   operate [old,v] (inplaceOp op old v))
  standAt tpos.atName
  holding [new,ov] (setAttr ov x new)
  PySem.release [new,ov] []
  pure .next)
 refine AE.standAt (AE.EC (he H ρ s Q) λo H1 ρ1 s1 y e1 S1 Q1 r1=>?_);refine AE.C0 λns=>?_;obtain⟨old,e2⟩:=NG (v:=o) (x:=x) (H:=H1) (λe=>ns (by rw[e];rfl));rw[e2] at ns ⊢
 change (AX K r f.cx loc H1).toS loc _≠_ at ns
 show AE g f (DM g) ρ1 s1 ((AX K r f.cx loc H1).toS loc λv h=>match GW op old v with
    |some new=>(match DV o x new h with
     |some h=>.ok .next loc h
     |none=>.stuck)
    |none=>.stuck) _
 intro ns';refine AA (AM (AA (AY (AA (AL (jV (E:=λ_ _=>False) (NR G Q1.hr r1 e2) (λz s2 ⟨⟨k,e3⟩,r2⟩=>?_) λ_ _ q=>q.elim))))));subst e3;have nr:(AX K r f.cx loc H1).out loc≠ .stuck:=λq=>ns' (by
  have hz:AX K r f.cx loc H1= .stuck:=by cases hz:AX K r f.cx loc H1<;>rw [hz] at q<;>first|cases q|rfl
  rw[hz];rfl)
 refine AA (AG (AM (hr H1 ρ1 {s1 with toks:=k} Q1 nr)) (λw s3 hq=>?_) λw s3 hq=>?_)
 ·obtain⟨v,l',H2,ρ2,e3,S3,Q3,r3⟩:=hq;obtain⟨hz,rfl⟩:=KQ e3;have gX:Step g f.fr [f.L] ρ1 s1 ρ2 s3:=(Step.tok k).trans S3;rw[hz] at ns' ⊢
  change (match GW op old v with
    |some new=>(match DV o x new H2 with
     |some h=>(.ok .next l' h:SR)
     |none=>.stuck)
    |none=>.stuck)≠ .stuck at ns'
  change Ai _ _ _ (λa s'=>Ai _ _ _ (A0 g f (DM g) ρ1 s1 (match GW op old v with
    |some new=>(match DV o x new H2 with
     |some h=>(.ok .next l' h:SR)
     |none=>.stuck)
    |none=>.stuck)) (BP g f ρ1 s1 (match GW op old v with
    |some new=>(match DV o x new H2 with
     |some h=>(.ok .next l' h:SR)
     |none=>.stuck)
    |none=>.stuck)) s') (BP g f ρ1 s1 (match GW op old v with
    |some new=>(match DV o x new H2 with
     |some h=>(.ok .next l' h:SR)
     |none=>.stuck)
    |none=>.stuck)) s3
  cases ha:GW op old v with
  |none=>rw [ha] at ns';exact absurd rfl ns'
  |some new=>
   rw[ha] at ns';dsimp only at ns' ⊢;cases hs:DV o x new H2 with
   |none=>rw [hs] at ns';exact absurd rfl ns'
   |some H3=>
    dsimp only;have fin:∀nv k,VR g ρ2 s3.heap new nv->Ai g.M f.A (do standAt tpos.atName;holding [nv,y] (setAttr y x nv);PySem.release [nv,y] [];pure Flow.next) (A0 g f (DM g) ρ1 s1 (.ok .next l' H3:SR)) (BP g f ρ1 s1 (.ok .next l' H3:SR)) {s3 with toks:=k}:=λnv k rn=>by
     refine AA (AY (AA (AM (AG (E:=λ_ _=>False) (AL (NL (s:={s3 with toks:=k}) G Q3 (r1.mono (gX.CL Q1) gX.pre) rn hs)) (λ_ s4 ⟨S4,Q4⟩=>?_) λ_ _ q=>q.elim))));exact AA (DI (AB ⟨.next,l',H3,ρ2,rfl,gX.trans ((Step.tok k).trans S4),Q4,rfl⟩))
    refine AA (AY (DK (AL ?_)));have r2':VR g ρ2 s3.heap old z:=r2.mono (gX.CL Q1) gX.pre;unfold GW at ha;split at ha
    ·cases ha;obtain⟨t1,rfl⟩:=Ab r2';obtain⟨t2,rfl⟩:=Ab r3;exact PySem.AutoIntOps.iadd_0 (fin _ _ Ah)
    ·cases ha;obtain⟨t1,rfl⟩:=Ab r2';obtain⟨t2,rfl⟩:=Ab r3;exact PySem.AutoIntOps.isub_0 (fin _ _ Ah)
    ·cases ha
 ·have hq:=BP.before (Step.tok k) hq;obtain⟨c,l',H2,ρ2,a,e0,e1,F,L1⟩:=hq;obtain⟨hz,rfl⟩:=GO e1;rw[hz];exact⟨c,l',H2,ρ2,a,e0,rfl,F,L1⟩
variable {n:Str}
def La:List Str->List V->Loc->Loc
 |n::r,v::vs,loc=>La r vs (pt n v loc)
 |_,_,loc=>loc
theorem PP {x:Str}:∀{ns:List Str}{vs:List V}{loc loc':Loc},lk x loc=lk x loc'->lk x (La ns vs loc)=lk x (La ns vs loc')
 |[],_,_,_,h=>h
 |_::_,[],_,_,h=>h
 |n::r,v::vs,loc,loc',h=>by
  simp only[La];exact PP (by rw[EY,EY,h])
theorem Nk {n x:Str}{v:V}:∀{ns:List Str}{vs:List V}{loc:Loc},n∉ns->lk x (pt n v (La ns vs loc))=lk x (La ns vs (pt n v loc))
 |[],_,_,_=>rfl
 |_::_,[],_,_=>rfl
 |m::r,w::vs,loc,h=>by
  simp only[La];have hm:n≠m:=λq=>h (by simp [q]);have hr:n∉r:=λq=>h (by simp [q]);rw[Nk hr];refine PP ?_;rw[EY,EY,EY,EY];by_cases h1:x=n
  ·have:x≠m:=λq=>hm (h1▸q)
   rw[UQ h1,T8 this,UQ h1]
  ·rw[T8 h1,T8 h1]
theorem AF.X8 (Q:AF g f ρ H loc h) (e:∀x,lk x loc=lk x loc'):AF g f ρ H loc' h:=by
 obtain⟨m,hn,hm⟩:=Q.ns;exact⟨⟨⟨m,hn,λx v a b=>hm x v a (by rw[e];exact b)⟩,Q.lb,Q.lo,Q.cells⟩,Q.hr⟩
theorem LY {n:Str}{v:V}:∀{a:List Str}{b:List V}{loc:Loc},a.length=b.length->La (a++[n]) (b++[v]) loc=pt n v (La a b loc)
 |[],[],_,_=>rfl
 |m::a,w::b,loc,h=>by
  simp only[oP,La];exact LY (by simpa using h)
 |[],_::_,_,h=>by simp at h
 |_::_,[],_,h=>by simp at h
theorem NK {x:Str}:∀{ns:List Str}{vs:List V}{loc:Loc},ns.Nodup->ns.length=vs.length->lk x (La ns.reverse vs.reverse loc)=lk x (La ns vs loc)
 |[],[],_,_,_=>rfl
 |n::r,v::vs,loc,nd,h=>by
  simp only[List.reverse_cons];rw[LY (by simpa using h)];have eS:=gl.mp nd;rw[EY];have ih:=NK (x:=x) (loc:=loc) eS.2 (by simpa using h:r.length=vs.length);rw[ih];simp only[La];rw[←Nk (x:=x) eS.1,EY]
 |[],_::_,_,_,h=>by simp at h
 |_::_,[],_,_,h=>by simp at h
theorem Rd {l:List V}(r:Aa g ρ h l xs):Aa g ρ h l.reverse xs.reverse:=by
 induction l generalizing xs with
 |nil=>unfold Aa at r;subst r;exact Em
 |cons a l ih=>
  unfold Aa at r;obtain⟨v,t,rfl,r1,r2⟩:=r;simp only[List.reverse_cons];exact DQ (ih r2) (GQ r1)
theorem K6 (fk:Ac g f b):∀{ns:List Str}{vs:List V}{xs:List Value}{loc:Loc}{s:Shared},(∀n∈ns,lk n f.cx.names=some .local)->ns.length=vs.length->AF g f ρ H loc s.heap->Aa g ρ s.heap vs xs->
  Ai g.M f.A (assignInOrder (ns.map λn=>bindName f.env n) xs) (λ_ s'=>Step g f.fr [f.L] ρ s ρ s'/\AF g f ρ H (La ns vs loc) s'.heap) (λ_ _=>False) s
 |[],[],xs,loc,s,_,_,Q,r=>AB ⟨Step.refl,Q⟩
 |n::ns,v::vs,xs,loc,s,hl,hz,Q,r=>by
  unfold Aa at r;obtain⟨x,t,rfl,r1,r2⟩:=r;show Ai _ _ (do holding t (bindName f.env n x);assignInOrder (ns.map λn=>bindName f.env n) t) _ _ s;have e:Bc f.cx loc n v H=some (pt n v loc,H):=by
   unfold Bc;rw[hl n (.head _)]
  refine AA (AM (AL (jV (E:=λ_ _=>False) (Ev fk Q r1 e) (λ_ s1 ⟨S1,Q1⟩=>?_) λ_ _ q=>q)));refine AG (K6 fk (λm hm=>hl m (.tail _ hm)) (by simpa using hz) Q1 (r2.mono (S1.CL Q) S1.pre)) (λ_ s2 ⟨S2,Q2⟩=>⟨S1.trans S2,Q2⟩) λ_ _ q=>q
 |[],_::_,_,_,_,_,h,_,_=>by simp at h
 |_::_,[],_,_,_,_,h,_,_=>by simp at h
theorem E9:∀(n:Nat) (l:List Str),l.length<=n->l.eraseDups.length<=l.length/\(l.eraseDups.length=l.length->l.Nodup)
 |_,[],_=>⟨ix _,λ_=>List.nodup_nil⟩
 |0,a::as,h=>by simp at h
 |n+1,a::as,h=>by
  rw[List.eraseDups_cons];have hle:(as.filter λb=> !b==a).length<=as.length:=tw _ _;have ih:=E9 n (as.filter λb=> !b==a) (lv hle (by simpa using h));simp only[KX];refine⟨by omega,λe=>?_⟩;have e2:(as.filter λb=> !b==a).length=as.length:=by omega
  have all:∀b∈as,(!b==a)=true:=List.length_filter_eq_length_iff.mp e2;have e3:(as.filter λb=> !b==a)=as:=uF.mpr all;rw[e3] at ih e;refine gl.mpr ⟨λm=>?_,ih.2 ⋯⟩
  have:=all a m
  simp at this
def MI (env:Env) (line:Nat):Expr->Option Str
 | .Name nm pos=>if env.kindOf nm==some .local&&pos.line==line then some nm else none
 |_=>none
theorem K8 {env:Env}{line:Nat}:∀{ts:List Expr},(ts.filterMap (MI env line)).length=ts.length->∃ps:List Pos,ps.length=(ts.filterMap (MI env line)).length/\ts=((ts.filterMap (MI env line)).zip ps).map (λq=>.Name q.1 q.2)/\∀n∈ts.filterMap (MI env line),env.kindOf n=some .local
 |[],_=>⟨[],rfl,rfl,λ_ h=>by simp at h⟩
 |t::ts,h=>by
  rw[me] at h ⊢;cases ht:MI env line t with
  |none=>
   rw[ht] at h
   have:=tH (MI env line) ts
   simp only[KX] at h;omega
  |some n=>
   rw[ht] at h;simp only[KX,Nat.add_right_cancel_iff] at h;obtain⟨ps,h1,h2,h3⟩:=K8 h;have hn:∃pos,t= .Name n pos/\env.kindOf n=some .local:=by
    unfold MI at ht;split at ht
    ·split at ht
     ·rename_i nm pos hc;cases ht;simp only[dv,ke] at hc;exact⟨pos,rfl,hc.1⟩
     ·cases ht
    ·cases ht
   obtain⟨pos,rfl,hk⟩:=hn;refine⟨pos::ps,by simp [h1],?_,λm hm=>?_⟩
   ·simp only[mr,ij];rw[←h2]
   ·rcases fg.mp hm with rfl|hm
    ·exact hk
    ·exact h3 m hm
theorem M4 (hk:Jh t e=true):swappedStores [t] e env=pure none∨∃ts k p ns,t= .Tuple ts k p/\swappedStores [t] e env=pure (some ns)/\ns.Nodup/\∃ps:List Pos,ps.length=ns.length/\ts=(ns.zip ps).map (λq=>.Name q.1 q.2)/\∀n∈ns,env.kindOf n=some .local:=by
 unfold swappedStores;split
 ·rename_i ts vs hm;split at hm
  ·rename_i ts' k1 p1 vs' k2 p2 heq;cases hm;cases heq;simp only[Jh,qB,mI] at hk;split
   ·exact .inl rfl
   ·split
    ·exact .inl rfl
    ·dsimp only;split
     ·exact .inl rfl
     ·rename_i h1 h2 h3;split
      ·exact .inl rfl
      ·rename_i h4;rw[T8 (by rcases hk with q|q
               ·rw[q];decide
               ·exact absurd q h4)]
       simp only[qB,not_or,sS,ne_eq,sy] at h3;obtain⟨ps,h5,h6,h7⟩:=K8 (env:=env) (line:=(ts.head?.map λx:Expr=>x.pos.line).getD 0) (ts:=ts) h3.1;exact .inr ⟨ts,_,_,_,rfl,rfl,(E9 _ _ (ix _)).2 h3.2,ps,h5,h6,h7⟩
  ·rename_i heq;cases heq;simp [Jh] at hk
  ·cases hm
 ·exact .inl rfl
variable {gens:List Comprehension}
theorem PZ {k:NameKind}(fk:Ac g f N) (e:f.env.kindOf n=some .local) (h:lk n f.cx.names=some k):k= .local:=by
 have:=(fk.names n k h).1
 cases k<;>unfold Ln at this
 case free=>rcases this with q|q<;>(rw[e] at q;cases q)
 all_goals first|rfl|(rw[e] at this;cases this)
theorem G3 (fk:Ac g f N):∀{ns:List Str}{ps:List Pos}{l:List V}{loc:Loc},ps.length=ns.length->(∀n∈ns,f.env.kindOf n=some .local)->BX K ((ns.zip ps).map λq=>Expr.Name q.1 q.2) l f.cx loc H≠ .stuck->
  BX K ((ns.zip ps).map λq=>Expr.Name q.1 q.2) l f.cx loc H= .ok .next (La ns l loc) H/\(∀n∈ns,lk n f.cx.names=some .local)/\l.length=ns.length
 |[],[],[],loc,_,_,_=>by simp only[qx,qH,BX];exact⟨rfl,λ_ h=>by simp at h,rfl⟩
 |[],[],v::l,loc,_,_,ns=>by simp only[qx,qH,BX] at ns;exact absurd rfl ns
 |n::ns,p::ps,[],loc,_,_,hs=>by simp only[mr,ij,BX] at hs;exact absurd rfl hs
 |n::ns,p::ps,v::l,loc,hz,hk,hs=>by
  simp only[mr,ij,BX] at hs ⊢;have hn:lk n f.cx.names=some .local/\Bb K (.Name n p) v f.cx loc H= .ok .next (pt n v loc) H:=by
   simp only[Bb,Bc] at hs ⊢;cases hl:lk n f.cx.names with
   |none=>rw [hl] at hs;exact absurd rfl hs
   |some k=>
    have:=PZ fk (hk n (.head _)) hl
    subst this;exact⟨rfl,rfl⟩
  rw[hn.2] at hs ⊢;have ih:=G3 fk (by simpa using hz) (λm hm=>hk m (.tail _ hm)) hs;refine⟨ih.1,λm hm=>?_,by simp [ih.2.2]⟩;rcases fg.mp hm with rfl|hm
  ·exact hn.1
  ·exact ih.2.1 m hm
 |[],_::_,_,_,h,_,_=>by simp at h
 |_::_,[],_,_,h,_,_=>by simp at h
theorem OB (hk:Jh t e=true) (G:C2 g) (T:I0 g) (SO:ES g) (SK:Br g K b) (fk:Ac g f (b+2)) (Q:AF g f ρ H loc s.heap) (r:VR g ρ s.heap v x):
  AE g f (DM g) ρ s (Bb K t v f.cx loc H) (do assignStores f.env x (←swappedStores [t] e f.env) ((assignEach [t] f.env).map (·.2))):=by
 rcases M4 (env:=f.env) hk with q|⟨ts,k,p,ns,rfl,q,nd,ps,h1,rfl,h3⟩
 ·rw[q,pure_bind];by_cases hst:∃a p,t= .Starred a p
  ·obtain⟨a,p,rfl⟩:=hst;rw[GJ];exact AE.stuck
  have hn:noStar [t]=true:=by cases t<;>first|rfl|exact absurd ⟨_,_,rfl⟩ hst
  rw[CE hn];show AE g f (DM g) ρ s _ (do assignAll x [assign t f.env];pure .next);intro ns;refine AA (AG (Hm G T SO SK fk _ t (qP _) Q r ns) (λ_ s1 hq=>?_) λ_ _ q=>q);obtain⟨a,l',H1,ρ1,e1,S1,Q1,r1⟩:=hq;have r1:a= .next:=r1
  subst r1;exact AB ⟨.next,l',H1,ρ1,e1,S1,Q1,rfl⟩
 ·rw[q,pure_bind];show AE g f (DM g) ρ s _ (do
   rule "assign.swapped-stores"
   let items←unpackItems x ns.length none
   assignInOrder (ns.reverse.map λn=>bindName f.env n) items.reverse
   pure .next)
  refine AE.rule ?_;simp only[Bb];split
  ·rename_i l hl;split
   ·rename_i hlen;refine AE.C0 λhs=>?_;obtain⟨e1,e2,e3⟩:=G3 fk h1 h3 hs;rw[e1];have main:AE g f (DM g) ρ s (.ok .next (La ns l loc) H) (holding [] (unpackItems x ns.length none)>>=λitems=>(do assignInOrder (ns.reverse.map λn=>bindName f.env n) items.reverse;pure .next)):=by
     refine Jc hl fk.handled Q r e3.symm λρ' s' xs S Q' rs=>?_;intro _;refine AA (AG (K6 fk (λn hn=>e2 n (List.mem_reverse.mp hn)) (by simp [e3]) Q' (Rd rs)) (λ_ s2 ⟨S2,Q2⟩=>?_) λ_ _ q=>q.elim);exact AB ⟨.next,La ns l loc,H,ρ',rfl,S2,Q2.X8 λx=>NK nd e3.symm,rfl⟩
    intro fQ;have z:=main fQ;intro Γ p hΓ hc;have w:=z Γ p hΓ hc;rw[uL,Sem.wp_holding,←uL] at w;exact w
   ·exact AE.stuck
  ·exact AE.stuck
theorem KK (ns:AX K (.ListComp elt gens scope pos) cx loc H≠ .stuck):∃tx px it ifs,gens=[⟨.Name tx px,it,ifs,0⟩]:=by
 rw[AX.eq_def] at ns;split at ns
 all_goals first
  |exact absurd rfl ns
  |(cases ‹Expr.ListComp elt gens scope pos=_›;done)
  |(cases ‹Expr.ListComp elt gens scope pos=_›;exact⟨_,_,_,_,rfl⟩)
theorem On {n:Nat}:∃bb,swapsWithSole [t] e n env=pure bb/\(bb=true->(∃elt gens scope p y py,e= .ListComp elt gens scope p/\t= .Name y py)∨AX K e cx loc H= .stuck):=by
 by_cases h1:∃elt gens scope p,e= .ListComp elt gens scope p
 ·obtain⟨elt,gens,scope,p,rfl⟩:=h1;by_cases h2:∃y py,t= .Name y py
  ·obtain⟨y,py,rfl⟩:=h2;exact⟨_,rfl,λ_=>.inl ⟨elt,gens,scope,p,y,py,rfl,rfl⟩⟩
  ·refine⟨false,?_,λq=>by cases q⟩;cases t<;>first|rfl|exact absurd ⟨_,_,rfl⟩ h2
 ·cases e
  case ListComp elt gens scope p=>exact absurd ⟨elt,gens,scope,p,rfl⟩ h1
  case SetComp=>
   by_cases h2:∃y py,t= .Name y py
   ·obtain⟨y,py,rfl⟩:=h2;exact⟨_,rfl,λ_=>.inr (by simp only[AX])⟩
   ·refine⟨false,?_,λq=>by cases q⟩;cases t<;>first|rfl|exact absurd ⟨_,_,rfl⟩ h2
  case DictComp=>
   by_cases h2:∃y py,t= .Name y py
   ·obtain⟨y,py,rfl⟩:=h2;exact⟨_,rfl,λ_=>.inr (by simp only[AX])⟩
   ·refine⟨false,?_,λq=>by cases q⟩;cases t<;>first|rfl|exact absurd ⟨_,_,rfl⟩ h2
  all_goals exact⟨false,rfl,λq=>by cases q⟩
theorem Mg (G:C2 g) (T:I0 g) (SO:ES g) (SK:Br g K b) (fk:Ac g f (b+2)) (Q:AF g f ρ H loc s.heap):
  AE g f (DM g) ρ s (CP K N (.Assign [t] e pos) f.cx loc H) (exec (.Assign [t] e pos) f.env):=by
 simp only[CP];split
 ·rename_i hk;rw[show exec (.Assign [t] e pos) f.env=(do
   standAt pos
   if←swapsWithSole [t] e pos.line f.env then do
    evalThenUse e f.env λv=>assignAll v ((assignEach [t] f.env).map (·.2))
    pure .next
   else do
    let v←eval e f.env
    assignStores f.env v (←swappedStores [t] e f.env) ((assignEach [t] f.env).map (·.2))) from rfl]
  refine AE.standAt ?_;obtain⟨bb,hb,hb2⟩:=On (K:=K) (loc:=loc) (H:=H) (t:=t) (e:=e) (n:=pos.line) (env:=f.env) (cx:=f.cx);rw[hb,pure_bind];cases bb with
  |false=>
   rw[T8 ⋯];exact AE.EC (sE G T SO SK fk e H ρ s Q) λv H1 ρ1 s1 x e1 S1 Q1 r1=>OB hk G T SO SK fk Q1 r1
  |true=>
   rw[UQ rfl];rcases hb2 rfl with ⟨elt,gens,scope,p,y,py,rfl,rfl⟩|hst
   ·intro ns;have hev:AX K (.ListComp elt gens scope p) f.cx loc H≠ .stuck:=λq=>ns (by rw[q];rfl);obtain⟨tx,px,it,ifs,rfl⟩:=KK hev;refine AA (KF (g:=g) (f:=f) (K:=K) (N:=b+2) fk (sE G T SO SK fk it) (λf' dW loc e _=>sT G T SO SK dW e) (λf' dW loc=>sE G T SO SK dW elt) Q hev (λe s' hq=>?_) λH2 D ρ₂ s2 w e2 S2 Q2 vr=>?_)
    ·obtain⟨c,l',H1,ρ1,a,e0,e1,F,L1⟩:=hq;obtain⟨hz,rfl⟩:=GO e1;rw[hz];exact⟨c,l',H1,ρ1,a,e0,rfl,F,L1⟩
    ·rw[e2] at ns ⊢;have ns':Bb K (.Name y py) w f.cx loc H2≠ .stuck:=λq=>ns q;cases hsv:Bc f.cx loc y w H2 with
     |none=>exact absurd (by simp only[Bb,hsv]) ns'
     |some lh=>
      obtain⟨eE,H3⟩:=lh;have mj:Bb K (.Name y py) w f.cx loc H2= .ok .next eE H3:=by simp only[Bb,hsv]
      refine⟨eE,H3,?_,λρ₃ s3 S3 Q3=>AB ⟨.next,eE,H3,ρ₃,mj,S3,Q3,rfl⟩⟩;show Ai _ _ (do standAt py;bindName f.env y (.ref D)) _ _ s2;refine AA (AY (AL (jV (E:=λ_ _=>False) (Ev fk Q2 vr hsv) (λ_ s3 ⟨S3,Q3⟩=>⟨ρ₂,S3,Q3⟩) λ_ _ q=>q.elim)))
   ·rw[hst];exact AE.stuck
 ·exact AE.stuck
structure Rc (g:Gd):Prop where
 mq:∀i c,An i=true->An c=true->exmOne g.K (.ref (g.ca c)) (.ref (g.ca i))=some (decide (i=c))
variable {B:Heap}{a:Addr}{outer:List Env}{s2:Shared}
structure ID (g:Gd) (f:Fd) (ρ:AR) (s:Shared) (ρ':AR) (H:Hp) (loc:Loc) (c:Nat) (a:Addr) (B:Heap) (s2:Shared):Prop where
 iG:∃a0 l,Heap.FlyingW B l a (.ref (g.ca c)) a0 s2.heap
 ok:∀h' t,B.StaysIn h'->s2.heap.UpToSlots h'->Step g f.fr [f.L] ρ s ρ' {s2 with heap:=h',toks:=t}/\AF g f ρ' H loc h'
theorem ID.step (l:ID g f ρ s ρ' H loc c a B s2):Step g f.fr [f.L] ρ s ρ' s2:=by
 obtain⟨a0,l1,hf⟩:=l.iG;exact (l.ok s2.heap s2.toks hf.1 (Heap.UpToSlots.refl _)).1
theorem ID.rel (l:ID g f ρ s ρ' H loc c a B s2):AF g f ρ' H loc s2.heap:=by
 obtain⟨a0,l1,hf⟩:=l.iG;exact (l.ok s2.heap s2.toks hf.1 (Heap.UpToSlots.refl _)).2
theorem ID.tok {k:Nat}(l:ID g f ρ s ρ' H loc c a B s2):ID g f ρ s ρ' H loc c a B {s2 with toks:=k}:=⟨l.iG,λh' t b u=>l.ok h' t b u⟩
theorem U7 {e0:Value}(fk:Ac g f N) (hfr:f.fr=f.env::outer) (hF:VO g f.fr [f.L] ρ s ρ' H c a (QI g f ρ' loc) s') (hx:PO g f ρ'):
  wpAny g.M f.A (leaving f.env (.ref a)) (λ_ s2=>∃B,ID g f ρ s ρ' H loc c a B s2) (λ_ _=>False) s':=by
 obtain⟨B,a0,up,hb,hr,ht,hk,m,hn,hm⟩:=hF.ex;obtain⟨e1,r1,L,q1,q2,q3⟩:=fk.frame;have gY:f.A.frames=some (f.env::outer):=by rw[fk.frames,hfr]
 have build:∀h1,(∃a0 l,Heap.FlyingW B l a (.ref (g.ca c)) a0 h1)->s'.heap.UpToSlots h1->∃B,ID g f ρ s ρ' H loc c a B {s' with heap:=h1}:=λh1 hfl u1=>by
  refine⟨B,hfl,λh' t bs u2=>?_⟩;have u:=u1.trans u2;have ik:AI B h':=AI.of_keeps λb o e=>bs b o e;have R2:Rep g ρ' H h':=hr.mono ik λb o _ e=>bs b o e;have ns':=u.ns hn;have frs:∀env∈f.fr,SQ g ρ' h' env:=λenv he=>by
   obtain⟨kd,L,o,es,ep,k1,k2,k3,k4,k5⟩:=hF.frames env he;obtain⟨sl,k6⟩:=u L o k3 λvs q=>by rw[k4] at q;cases q
   exact⟨kd,L,_,es,ep,k1,k2,k6,k4,k5⟩
  have tabs:PD g ρ' h':=λq hq=>by
   obtain⟨k1,ps,k2,k3,k4⟩:=ht q hq;exact⟨k1,ps,bs _ _ k2,k3,λpos cv hc=>(k4 pos cv hc).keeps bs⟩
  refine⟨⟨hF.pre,hF.new,λb o e no nx nt nf=>bs b o (hk b o e no nx nt nf),λb o e fY nx=>?_,λb o e=>?_,?_⟩,⟨⟨⟨m,ns',λx v h1 h2=>?_⟩,hx.lb,hx.lo,hx.cells⟩,⟨λb o e=>bs b o (hb b o e),R2,hF.fresh,frs,tabs⟩⟩⟩
  ·obtain⟨sl,k1⟩:=hF.slots b o e fY nx;have hd:∀vs,o.data≠ .fields vs:=λvs q=>by
    obtain⟨env,he,hf⟩:=kA.mp fY;obtain⟨kd,L,o2,es,ep,k2,k3,k4,k5,k6⟩:=hF.frames env he;rw[k2] at hf;cases hf;rw[k4] at k1;cases k1;rw[q] at k5;cases k5
   obtain⟨eY,k2⟩:=u b _ k1 hd;exact⟨eY,k2⟩
  ·by_cases h1:Own ρ b
   ·exact R2.there (Kn hF.pre h1)
   ·by_cases h2:b∈g.Dz
    ·obtain⟨q,hq,rfl⟩:=eJ.mp h2;obtain⟨_,ps,k2,_⟩:=tabs q hq;exact⟨_,k2⟩
    ·by_cases h3:b∈BZ f.fr
     ·obtain⟨env,he,hf⟩:=kA.mp h3;obtain⟨kd,L,o2,es,ep,k2,k3,k4,k5,k6⟩:=frs env he;rw[k2] at hf;cases hf;exact⟨_,k4⟩
     ·by_cases h4:b∈[f.L]
      ·rw[eA.mp h4];obtain⟨o,_,_,k1,_⟩:=ns';exact⟨o,k1⟩
      ·exact⟨o,bs b o (hk b o e h1 h4 h2 h3)⟩
  ·obtain⟨hp,tk,e⟩:=hF.rest;exact⟨h',t,by rw[e]⟩
  ·obtain⟨val,k1,k2⟩:=hm x v h1 h2;exact⟨val,k1,k2.mono ik (eC _)⟩
 rcases up with up|⟨k1,k2,k3,oe,vs,k4,k5,k6,k7,k8⟩
 ·rw[hfr] at up;exact wpAny_leaves_onW gY q3 up λh1 hfl u1=>build h1 ⟨a0,outer,hfl⟩ u1
 ·rw[hfr] at k3;refine wpAny_leaving_firstW gY k3 q3 k4 k1 k2 k6 k7 k8 λh1 ⟨x1,x2,x3,x4⟩=>?_;rw[k5] at x3;exact build h1 ⟨a0,_,x1,k2,x2,x3⟩ λb o e hd=>x4 b o e hd
theorem F9 {e:Value}{rest:List ExceptHandler}{Q:Flow->Shared->Prop}(h:codeN M (A.mark (some e)) (.handlers e [.ExceptHandler (some t) none [] pos] env) (λr s₁=>∃fl,r= .ok fl/\(fl= .brk->codeN M (A.mark (some e)) (.handlers e [.ExceptHandler none none body pos] env) (λr s₂=>∃f,r= .ok f/\Q f s₂) s₁)/\(fl≠ .brk->Ai M A (handleBy e env rest) Q E s₁)) s) (hnb:e≠byPass):
  Ai M A (handleBy e env (.ExceptHandler (some t) none body pos::rest)) Q E s:=by
 rw[handleBy];have gZ:(some e:Option Value)≠some byPass:=λx=>hnb (mM x);refine AA (AM (DD rfl (A6 h (λr s₁ ⟨fl,e0,h1,h2⟩=>⟨fl,e0,?_⟩)) gZ));cases fl with
 |brk=>
  refine AA (AB ?_);simp only[qm,jp,qM];refine AA (AM (DD rfl (A6 (h1 rfl) (λr s₂ ⟨f,e1,h3⟩=>⟨f,e1,?_⟩)) gZ));exact AB h3
 |_=>
  refine AA (AB ?_);simp only[t4,qT];exact h2 (by simp)
theorem GK {c:Nat}{a:Addr}{B:Heap}(G:C2 g) (GX:Rc g) (fk:Ac g f N):∀{hs:List ExceptHandler}{s2:Shared},ID g f ρ s ρ' H loc c a B s2->C4 c hs f.cx loc H≠ .stuck->
  Ai g.M f.A (handleBy (.ref a) f.env hs) (A0 g f (DM g) ρ s (C4 c hs f.cx loc H)) (λ_ _=>False) s2
 |[],s2,L,ns=>by simp only[C4] at ns;exact absurd rfl ns
 | .ExceptHandler ty nm body pos::r,s2,L,ns=>by
  have shape:∃x px,ty=some (.Name x px)/\nm=none:=by
   rw[C4.eq_def] at ns;split at ns
   ·exact absurd rfl ns
   ·rename_i heq;cases heq;exact⟨_,_,rfl,rfl⟩
   ·exact absurd rfl ns
  obtain⟨x,px,rfl,rfl⟩:=shape;simp only[C4] at ns ⊢;cases hv:getVar f.cx loc x H with
  |none=>rw [hv] at ns;exact absurd rfl ns
  |some v=>
   rw[hv] at ns;cases v<;>try exact absurd rfl ns
   rename_i i;dsimp only at ns ⊢;split at ns
   ·rename_i hex;simp only[dv] at hex;rw[UQ (by simp only[dv];exact hex)];obtain⟨a0,l,hfl⟩:=L.iG;obtain⟨oa,hoa,hca⟩:=hfl.there;have test:∀s3:Shared,(∃k,s3={s2 with toks:=k})->Ai g.M (f.A.mark (some (.ref a))) (handleWith (.ref a) f.env [.ExceptHandler (some (.Name x px)) none [] pos]) (λfl s4=>fl=(if i=c then Flow.brk else Flow.next)/\∃k,s4={s2 with toks:=k}) (λ_ _=>False) s3:=by
     rintro s3 ⟨k,rfl⟩;show Ai _ _ (do
      standAt pos
      let ty←eval (.Name x px) f.env
      standAt pos
      return if←excMatches (.ref a) ty then Flow.brk else Flow.next) _ _ _
     refine AA (AY (AA (AL (jV (E:=λ_ _=>False) (JI (s:={s2 with toks:=k}) G fk L.tok.rel hv) (λy s4 ⟨e4,rv⟩=>?_) λ_ _ q=>q.elim))));subst e4;unfold VR at rv;subst rv;refine AA (AY (AJ ?_));have lk:Looks g.M s2.heap (excMatches (.ref a) (.ref (g.ca i))) (decide (i=c)):=exm_one (G.dZ.keeps L.rel.hr.base) (hca▸(q6 (part:=none) hoa).andThen .now) (GX.mq i c hex.1 hex.2);refine lk.here (s:={s2 with toks:=k}) (AB ⟨?_,k,rfl⟩);by_cases hic:i=c<;>simp [hic]
    have hcode:codeN g.M (f.A.mark (some (.ref a))) (.handlers (.ref a) [.ExceptHandler (some (.Name x px)) none [] pos] f.env) (λr s4=>∃fl,r= .ok fl/\fl=(if i=c then Flow.brk else Flow.next)/\∃k,s4={s2 with toks:=k}) s2:=by
     refine AS ?_;show Ai _ (f.A.mark (some (.ref a))) (do return .done (←(handleWith (.ref a) f.env [.ExceptHandler (some (.Name x px)) none [] pos]).onRaise (λx=>do noteFrame x f.env;theTreesLotGoes x))) (Hb g.M (f.A.mark (some (.ref a))) (λr s4=>∃fl,r= .ok fl/\fl=(if i=c then Flow.brk else Flow.next)/\∃k,s4={s2 with toks:=k})) _ s2;refine AA (Aq (AG (test s2 (Cb s2)) (λfl s4 ⟨e1,e2⟩=>AB ⟨fl,rfl,e1,e2⟩) λ_ _ q=>q.elim))
    refine F9 (A6 hcode λr s4 ⟨fl,e0,e1,k,e2⟩=>⟨fl,e0,?_⟩) (λq=>by cases q);subst e1 e2;split at ns
    ·rename_i hic;rw[UQ hic,UQ hic];refine⟨λ_=>?_,λq=>absurd rfl q⟩;split at ns
     ·rename_i kc k1 p1 p2;split at ns
      ·rename_i v mu;have hbody:codeN g.M (f.A.mark (some (.ref a))) (.handlers (.ref a) [.ExceptHandler none none [.Return (some (.Constant kc k1 p1)) p2] pos] f.env) (λr s4=>∃fl,r= .ok fl/\A0 g f (DM g) ρ s (.ok (.ret v) loc H) fl s4) {s2 with toks:=k}:=by
        refine AS ?_;show Ai _ (f.A.mark (some (.ref a))) (do return .done (←(do
         standAt pos
         setFlight (.ref a) none
         execs [.Return (some (.Constant kc k1 p1)) p2] f.env:Sem Flow).onRaise (λx=>do noteFrame x f.env;theTreesLotGoes x))) (Hb g.M (f.A.mark (some (.ref a))) (λr s4=>∃fl,r= .ok fl/\A0 g f (DM g) ρ s (.ok (.ret v) loc H) fl s4)) _ _
        refine AA (Aq (AG (E:=λ_ _=>False) (AA (AY (AA (AL (lands_againW (s:={s2 with toks:=k}) hfl λh3 mw u3=>?_))))) (λfl s4 q=>AB ⟨fl,rfl,q⟩) λ_ _ q=>q.elim));have L3:=L.ok h3 k mw.1 u3;have hc:=JS (g:=g) (f:=f.at (f.A.mark (some (.ref a)))) (s:={s2 with heap:=h3,toks:=k}) (c:=kc) (k:=k1) (pos:=p1) L3.2.at;rw[mu] at hc;have hc:=hc (by simp [Res.some,Res.out]);show Ai _ _ (do
         match←(do standAt p2;return Flow.ret (←eval (.Constant kc k1 p1) f.env):Sem Flow) with
         |Flow.next=>execs [] f.env
         |fl=>pure fl) _ _ _
        refine AA (AA (AY (AA (AG hc (λy s5 hq=>?_) λe s5 hq=>?_))))
        ·obtain⟨w,l5,H5,ρ5,e5,S5,Q5,r5⟩:=hq;cases e5;exact AB (AB ⟨.ret v,loc,H,ρ5,rfl,L3.1.trans S5,Q5.from,⟨y,rfl,r5⟩⟩)
        ·obtain⟨_,_,_,_,_,_,e5,_⟩:=hq;cases e5
       exact hbody
      ·exact absurd rfl ns
     ·exact absurd rfl ns
    ·rename_i hic;rw[T8 hic,T8 hic];exact⟨λq=>by (cases q),λ_=>GK G GX fk (L.tok (k:=k)) ns⟩
   ·exact absurd rfl ns
variable {fin:List Stmt}{hs:List ExceptHandler}
def JB (K:AN) (N:Nat) (b:List Stmt) (hs:List ExceptHandler) (cx:Cx) (loc:Loc) (h:Hp):SR:=match BK K N b cx loc h with
 | .exc c loc h=>C4 c hs cx loc h
 |r=>r
theorem Rf {b:List Stmt}:CP K N (.Try b hs [] fin pos) cx loc H=match fin with
   |[]=>JB K N b hs cx loc H
   |fin=>match JB K N b hs cx loc H with
    | .ok f loc h=>match BK K N fin cx loc h with
     | .ok .next loc h=>.ok f loc h
     |_=>.stuck
    |_=>.stuck:=by
 cases fin<;>simp only[CP]<;>rfl
def LU (env:Env) (body:Sem Flow) (handlers:List ExceptHandler):Sem Flow:=do
  match←body.attempt with
  | .ok .next=>pure .next
  | .ok f=>pure f
  | .error e=>
   noteFrame e env
   if handlers.isEmpty then throw e
   setFlight e none
   handleBy e env handlers
theorem Kt {bd:List Stmt}(G:C2 g) (GX:Rc g) (fk:Ac g f b) (hfr:f.fr=f.env::outer) (hb:C6 g K N f bd) (Q:AF g f ρ H loc s.heap) (ns:JB K N bd hs f.cx loc H≠ .stuck):
  Ai g.M f.A (LU f.env (execs bd f.env) hs) (A0 g f (DM g) ρ s (JB K N bd hs f.cx loc H)) (λ_ _=>False) s:=by
 unfold LU;unfold JB at ns ⊢;have nb:BK K N bd f.cx loc H≠ .stuck:=λe=>ns (by rw[e]);refine AA (Ee (AG (hb loc H ρ s Q nb) (λfl s1 hq=>?_) λe s1 hq=>?_))
 ·obtain⟨a,l',H1,ρ1,e1,S1,Q1,r1⟩:=hq;rw[e1];have done:A0 g f (DM g) ρ s (.ok a l' H1) fl s1:=⟨a,l',H1,ρ1,rfl,S1,Q1,r1⟩;cases fl<;>exact AB done
 ·obtain⟨c,l',H1,ρ1,a,rfl,e1,F,L1⟩:=hq;rw[e1] at ns ⊢;dsimp only at ns ⊢;cases hs with
  |nil=>simp only[C4] at ns;exact absurd rfl ns
  |cons h0 r=>
   have two:Ai g.M f.A (noteFrame (.ref a) f.env>>=λ_=>setFlight (.ref a) none) (λ_ s2=>∃B,ID g f ρ s ρ1 H1 l' c a B s2) (λ_ _=>False) s1:=AL (U7 (e0:=.none) fk hfr F L1);simp only[List.isEmpty_cons,jp,qM,pure_bind];have eq:(do noteFrame (.ref a) f.env;setFlight (.ref a) none;handleBy (.ref a) f.env (h0::r):Sem Flow)=((noteFrame (.ref a) f.env>>=λ_=>setFlight (.ref a) none)>>=λ_=>handleBy (.ref a) f.env (h0::r)):=by rw[bind_assoc]
   rw[eq];exact AA (AG two (λ_ s2 ⟨B,L⟩=>GK G GX fk L ns) λ_ _ q=>q)
theorem OJ (hf:C6 g K N f fin) (Q:AF g f ρ H loc s.heap){l':Loc}(e:BK K N fin f.cx loc H= .ok .next l' H'):
  Ai g.M f.A (runOwn (.block fin f.env) f.env) (λfl s'=>fl= .next/\∃ρ',Step g f.fr [f.L] ρ s ρ' s'/\AF g f ρ' H' l' s'.heap) E s:=by
 refine DD rfl (AS ?_);show Ai _ f.A (do return .done (←(execs fin f.env).onRaise (λx=>do noteFrame x f.env;theTreesLotGoes x))) (Hb g.M f.A (λr s'=>∃fl,r= .ok fl/\fl= .next/\∃ρ',Step g f.fr [f.L] ρ s ρ' s'/\AF g f ρ' H' l' s'.heap)) _ s;refine AA (Aq (AG (hf loc H ρ s Q (by rw[e];simp)) (λfl s1 hq=>?_) λx s1 hq=>?_))
 ·obtain⟨a,l1,H1,ρ1,e1,S1,Q1,r1⟩:=hq;rw[e] at e1;cases e1;exact AB ⟨fl,rfl,r1,ρ1,S1,Q1⟩
 ·obtain⟨c,l1,H1,ρ1,a,e0,e1,_⟩:=hq;rw[e] at e1;cases e1
theorem Rj {bd:List Stmt}(G:C2 g) (GX:Rc g) (fk:Ac g f b) (hfr:f.fr=f.env::outer) (hb:C6 g K N f bd) (hf:C6 g K N f fin) (Q:AF g f ρ H loc s.heap):
  AE g f (DM g) ρ s (CP K N (.Try bd hs [] fin pos) f.cx loc H) (exec (.Try bd hs [] fin pos) f.env):=by
 rw[Rf];have tree:exec (.Try bd hs [] fin pos) f.env=(do
  standAt pos
  if fin.isEmpty then return←LU f.env (execs bd f.env) hs
  match←(LU f.env (execs bd f.env) hs).attempt with
  | .ok fl=>
   let keep:=match fl with| .ret v=>[v]|_=>[]
   match←holding keep (runOwn (.block fin f.env) f.env) with
   | .next=>pure fl
   |f'=>rule "try.finally-overrides-flow";pure f'
  | .error e=>
   noteFrame e f.env
   setFlight e none
   match←holding [e] (runOwn (.block fin f.env) f.env (some e)) with
   | .next=>passOn "try.finally" e f.env
   |f'=>rule "try.finally-swallows-exception";setFlight e none;pure f'):=by
  show (do standAt pos;tryStmt false (execs bd f.env) hs (execs [] f.env) fin f.env)=_;unfold tryStmt LU;simp only[t7,jp,qM,pure_bind];rfl
 rw[tree];refine AE.standAt ?_;cases fin with
 |nil=>
  intro ns;simp only[List.isEmpty_nil,qT];exact AG (Kt G GX fk hfr hb Q ns) (λfl s1 hq=>hq) λ_ _ q=>q.elim
 |cons st r=>
  intro ns;simp only[List.isEmpty_cons,jp,qM];dsimp only at ns ⊢;have nm:JB K N bd hs f.cx loc H≠ .stuck:=λe=>ns (by rw[e]);refine AA (Ee (AG (Kt G GX fk hfr hb Q nm) (λfl s1 hq=>?_) λ_ _ q=>q.elim));obtain⟨a,l',H1,ρ1,e1,S1,Q1,r1⟩:=hq;rw[e1] at ns ⊢;dsimp only at ns ⊢;obtain⟨l2,H2,e2⟩:∃l2 H2,BK K N (st::r) f.cx l' H1= .ok .next l2 H2:=by
   cases hz:BK K N (st::r) f.cx l' H1 with
   |ok a l h=>
    cases a with
    |next=>exact ⟨l,h,rfl⟩
    |_=>rw [hz] at ns;exact absurd rfl ns
   |exc=>rw [hz] at ns;exact absurd rfl ns
   |stuck=>rw [hz] at ns;exact absurd rfl ns
  rw[e2];refine AA (AM (AG (OJ hf Q1 e2) (λpT s2 ⟨e3,ρ2,S2,Q2⟩=>?_) λ_ _ q=>q));subst e3;exact AB ⟨a,l2,H2,ρ2,rfl,S1.trans S2,Q2,r1.mono (S2.CL Q1) S2.pre⟩
structure XI (g:Gd):Prop where
 kp:∀c,An c=true->keepIn g.K (.ref (g.ca c))=true
 sub:∀c,An c=true->subIn g.K (.ref (g.ca c)) (.type "BaseException")=some true
 ty:∀c,An c=true->typeIn g.K (.ref (g.ca c))=some (.type "type")
def Rp (g:Gd) (f:Fd) (h0:Heap) (c:Nat):AR->Heap->Unit->Value->Prop:=λρ h _ v=>∃a o vs a0,v= .ref a/\Loose g f ρ h a/\h.get? a=some o/\o.cls= .ref (g.ca c)/\o.data= .fields vs/\vs[1]? =some .none/\vs[0]? =some a0/\h0.get? a=none
def Mi (g:Gd):Prop:=∀(f:Fd) (ρ:AR) (s:Shared) (H:Hp) (loc:Loc) (c:Nat) (x:Str) (y:Value),C2 g->Ac g f 6->AF g f ρ H loc s.heap->VR g ρ s.heap (.str x) y->An c=true->
 AE g f (Rp g f s.heap c) ρ s (.ok () loc H) (PySem.call (.ref (g.ca c)) [y])
theorem thrown {v:Value}(hc:An c=true) (S:Step g f.fr [f.L] ρ s ρ' s') (Q:AF g f ρ' H loc s'.heap) (x:Rp g f s.heap c ρ' s'.heap () v):BP g f ρ s (.exc c loc H:Out α) v s':=by
 obtain⟨a,o,vs,a0,rfl,L,ho,hcls,hd,h1,h0,hn⟩:=x;have nm:∀b,b∈a::BZ f.fr->b=a∨b∈BZ f.fr:=λb m=>fg.mp m;have keep:∀b ob,s'.heap.get? b=some ob->b≠a->b∉BZ f.fr->(hideAll s'.heap (a::BZ f.fr)).get? b=some ob:=λb ob e n1 n2=>hideAll_get _ e λm=>by
  rcases nm b m with q|q
  ·exact n1 q
  ·exact n2 q
 have ik:AI s'.heap (hideAll s'.heap (a::BZ f.fr)):=λb ob e im=>keep b ob e (λq=>by
  obtain⟨o',e',n'⟩:=L.ex;subst q;rw[e] at e';cases e';exact n' im) (Q.hr.PS e im)
 have back:∀b ob,(hideAll s'.heap (a::BZ f.fr)).get? b=some ob->s'.heap.get? b=some ob:=λb ob e=>of_hideAll _ e;have fD:∀{b},Own ρ' b->b∉BZ f.fr:=λ{b} ow m=>by
  obtain⟨env,he,hf⟩:=kA.mp m;obtain⟨kd,L',o',es,ep,k1,k2,k3,k4,k5⟩:=Q.hr.frames env he;rw[k1] at hf;cases hf;exact k5 ow
 refine⟨c,loc,H,ρ',a,rfl,rfl,⟨S.pre,S.new,⟨hideAll s'.heap (a::BZ f.fr),a0,.inr ⟨back,hideAll_none _ (.head _),?_,o,vs,ho,hcls,hd,h1,h0⟩,λb ob e=>?_,?_,λq hq=>?_,λb ob e n nx nt nf=>?_,?_⟩,Q.hr.fresh,Q.hr.frames,S.slots,S.alive,S.rest⟩,⟨Q.lb,Q.lo,Q.cells⟩⟩
 ·
  have:∀l:List Env,(∀env∈l,env∈f.fr)->s'.heap.FunFrames (hideAll s'.heap (a::BZ f.fr)) l:=by
   intro l
   induction l with
   |nil=>intro _;trivial
   |cons env l ih=>
    intro hl;obtain⟨kd,L',o',es,ep,k1,k2,k3,k4,k5⟩:=Q.hr.frames env (hl env (.head _));exact⟨kd,⟨L',o',k1,hideAll_none _ (.tail _ (kA.mpr ⟨env,hl env (.head _),k1⟩)),k3,λvs q=>by rw[k4] at q;cases q⟩,ih λe he=>hl e (.tail _ he)⟩
  exact this f.fr λ_ h=>h
 ·refine keep b ob (Q.hr.base b ob e) (λq=>by rw[q,L.base] at e;cases e) λm=>?_;obtain⟨env,he,hf⟩:=kA.mp m;obtain⟨kd,L',o',es,ep,k1,k2,k3,k4,k5⟩:=Q.hr.frames env he;rw[k1] at hf;cases hf;rw[k2] at e;cases e
 ·exact Q.hr.rep.mono ik λb ob ow e=>keep b ob e (λq=>L.own (q▸ow)) (fD ow)
 ·obtain⟨k1,ps,k2,k3,k4⟩:=Q.hr.tabs q hq;have hm:q.2.1∈g.Dz:=eJ.mpr ⟨q,hq,rfl⟩;refine⟨k1,ps,keep _ _ k2 (λz=>L.tab (z▸hm)) (λm=>?_),k3,λpos cv dc=>?_⟩
  ·obtain⟨env,he,hf⟩:=kA.mp m;obtain⟨kd,L',o',es,ep,j1,j2,j3,j4,j5⟩:=Q.hr.frames env he;rw[j1] at hf;cases hf;rw[k2] at j3;cases j3;cases j4
  ·obtain⟨cc,oc,ws,t,e1,e2,e3,e4⟩:=k4 pos cv dc;exact⟨cc,oc,ws,t,e1,ik cc oc e2 (.inr (.inr (.inl ⟨ws,e3,.inr ⟨_,t,e4⟩⟩))),e3,e4⟩
 ·exact keep b ob (S.kept b ob e n nx nt nf) (λq=>by subst q;rw[hn] at e;cases e) nf
 ·obtain⟨m,hns,hm⟩:=Q.ns;exact⟨m,hns,λx v k1 k2=>by
   obtain⟨val,k3,k4⟩:=hm x v k1 k2;exact⟨val,k3,k4.mono ik (eC _)⟩⟩
def T3 (c:Nat) (loc:Loc) (v:V) (h:Hp):SR:=match v with| .str _=>.exc c loc h|_=>.stuck
def UK (v:V) (h:Hp):Res Unit:=match v with| .str _=>.ok () h|_=>.stuck
def UT (vs:List V) (h:Hp):Res Unit:=match vs with|[.str _]=>.ok () h|_=>.stuck
theorem OD {nc:Str}{a:Expr}{np cp:Pos}(G:C2 g) (T:I0 g) (GR:XI g) (MO:Mi g) (SO:ES g) (SK:Br g K b) (fk:Ac g f (b+2)) (pU:4<=b) (Q:AF g f ρ H loc s.heap):
  AE g f (DM g) ρ s (CP K N (.Raise (some (.Call (.Name nc np) [a] [] cp)) none pos) f.cx loc H) (exec (.Raise (some (.Call (.Name nc np) [a] [] cp)) none pos) f.env):=by
 simp only[CP];cases hv:getVar f.cx loc nc H with
 |none=>exact AE.stuck
 |some w=>
  cases w<;>try exact AE.stuck
  rename_i c;dsimp only;split
  ·rename_i hc;by_cases hst:noStar [a]=true
   ·change AE g f (DM g) ρ s ((AX K a f.cx loc H).toS loc (T3 c loc)) _
    intro ns;have hna:AX K a f.cx loc H≠ .stuck:=λe=>ns (by rw[e];rfl);have E1:exec (.Raise (some (.Call (.Name nc np) [a] [] cp)) none pos) f.env=(do standAt pos;raiseStmt f.env (some (do let v←eval (.Call (.Name nc np) [a] [] cp) f.env;standAt pos;pure v)) none):=rfl;rw[E1];refine AA (AY ?_);unfold raiseStmt;dsimp only;have hn:=Kz (g:=g) (f:=f) (x:=nc) (pos:=np) G fk Q;rw[hv] at hn;have hn:=hn (by simp [Res.some,Res.out]);have jF:((G2 K [a] f.cx loc H).bind UT)=((AX K a f.cx loc H).bind UK):=by
     simp only[G2];cases hz:AX K a f.cx loc H with
     |ok v h=>cases v<;>rfl
     |exc=>rfl
     |stuck=>rfl
    have call:Ai g.M f.A (eval (.Call (.Name nc np) [a] [] cp) f.env) (λv s1=>∃ρ1 H1,(AX K a f.cx loc H).toS loc (T3 c loc)= .exc c loc H1/\Step g f.fr [f.L] ρ s ρ1 s1/\AF g f ρ1 H1 loc s1.heap/\Rp g f s.heap c ρ1 s1.heap () v)
      (BP g f ρ s ((AX K a f.cx loc H).toS loc (T3 c loc))) s:=by
     show Ai _ _ (do callWith cp (←eval (.Name nc np) f.env) [] (backTo cp (starEach [a] f.env)) []) _ _ s;refine AA (AG hn (λfv s1 hq=>?_) λe s1 hq=>?_)
     ·obtain⟨w,l',H1,ρ1,e1,S1,Q1,r1⟩:=hq;cases e1;unfold BE VR at r1;subst r1;have key:=Cy (g:=g) (f:=f) (K:=K) (RR:=Rp g f s.heap c) (es:=[a]) (pos:=cp) (fv:=.ref (g.ca c)) (first:=[]) (k:=UT) Q1 hst
       (λh' _ _ _ _ B=>KP (GR.kp c hc) (G.dZ.keeps B)) (Bh (λe m=>by rw[eA.mp m];exact sE G T SO SK fk a) Q1) λvs H' ρ' s2 xs S' Q' rs=>by
        unfold UT;split
        ·rename_i x;unfold Aa at rs;obtain⟨y,r,rfl,ry,rr⟩:=rs;unfold Aa at rr;subst rr;have m:=MO f ρ' s2 H' loc c x y G (fk.le ⋯) Q' ry hc;intro fQ;refine AG (m (by simp)) (λv s3 hq=>?_) λe s3 hq=>?_
         ·obtain⟨u,l3,H3,ρ3,e3,S3,Q3,a3,o3,mz,nA,k0,k1,k2,k3,k4,k5,k6,k7⟩:=hq;cases e3;exact⟨(),loc,H',ρ3,rfl,S3,Q3,a3,o3,mz,nA,k0,k1,k2,k3,k4,k5,k6,(S1.trans S').EV k7⟩
         ·obtain⟨c,l',H1,ρ1,a,e0,e1,_⟩:=hq;cases e1
        ·exact AE.stuck
      rw[jF] at key;have nk:((AX K a f.cx loc H).bind UK).out loc≠ .stuck:=λe=>ns (by
       cases hz:AX K a f.cx loc H with
       |ok v h=>
        rw[hz] at e;cases v<;>first|rfl|(simp [Res.bind,Res.out,UK] at e)
       |exc=>rw [hz] at e;cases e
       |stuck=>rfl)
      refine AG (key nk) (λv s3 hq=>?_) λe s3 hq=>?_
      ·obtain⟨u,l3,H3,ρ3,e3,S3,Q3,x3⟩:=hq;cases hz:AX K a f.cx loc H with
       |ok v h=>
        rw[hz] at e3;cases v<;>cases e3;exact⟨ρ3,_,rfl,S1.trans S3,Q3,x3⟩
       |exc=>rw [hz] at e3;cases e3
       |stuck=>rw [hz] at e3;cases e3
      ·have hq:=BP.before S1 hq;obtain⟨c',l3,H3,ρ3,a3,e0,e3,F,L1⟩:=hq;cases hz:AX K a f.cx loc H with
       |ok v h=>
        rw[hz] at e3;cases v<;>cases e3
       |exc=>rw [hz] at e3;cases e3;exact⟨_,_,_,ρ3,a3,e0,rfl,F,L1⟩
       |stuck=>rw [hz] at e3;cases e3
     ·obtain⟨c,l',H1,ρ1,a,e0,e1,_⟩:=hq;cases e1
    refine AA (AA (AG call (λv s1 hq=>?_) λe s1 hq=>hq));obtain⟨ρ1,H1,e1,S1,Q1,x1⟩:=hq;rw[e1];have fin:BP g f ρ s (.exc c loc H1:SR) v s1:=thrown hc S1 Q1 x1;obtain⟨ea,o,vs,a0,rfl,L,ho,hcls,hd,h1,h0,hn0⟩:=x1;have X:=G.dZ.keeps Q1.hr.base;refine AA (AY (AB (AL ?_)));have hnt:∀{Q':Bool->Shared->Prop},Q' false s1->wpAny g.M f.A (isType (.ref ea)) Q' (BP g f ρ s (.exc c loc H1:SR)) s1:=by
     intro Q' hq;simp only[isType,loadHead];refine K3 (rS ho ?_);rw[hd];exact df hq
    refine K3 (df ?_);dsimp only;refine K3 (ky ?_);unfold excFromValue isExcClass;refine K3 (K3 (hnt ?_));simp only[jp,qM];refine df ?_;simp only[jp,qM];have lt:Looks g.M s1.heap (typeOf (.ref ea)) (.ref (g.ca c)):=hcls▸(q6 (part:=none) ho).andThen .now;have li:Looks g.M s1.heap (isInstance (.ref ea) (.type "BaseException")) true:=lt.andThen (looks_subIn X (GR.sub c hc));refine K3 (li.here ?_);simp only[qT];refine df ?_;refine K3 (hnt ?_);simp only[jp,qM];unfold raisedInstance;have nC:Looks g.M s1.heap (typeOf (.ref (g.ca c))) (.type "type"):=looks_typeIn X (GR.ty c hc);refine K3 (K3 (lt.here (K3 (nC.here ?_))));rw[UQ ⋯];refine df ?_;unfold setFlight raiseNew;refine K3 (K3 (qW ho hd h1 ?_));rw[T8 ⋯];refine df (K3 (wpAny_handled ?_));rw[fk.handled]
    first
     |exact wpAny_throw fin
     |exact K3 (df (wpAny_throw fin))
   ·have:AX K a f.cx loc H= .stuck:=by
     cases a<;>first|(simp only[AX];done)|exact absurd rfl hst
    rw[this];exact AE.stuck
  ·exact AE.stuck
structure FG (gd:Gd):Prop where
 g:C2 gd
 t:I0 gd
 x:Rc gd
 r:XI gd
 s:ES gd
 m:Mi gd
theorem Xg {outer:List Env}(G:FG g) (SK:Br g K b) (fk:Ac g f (b+2)) (hb:4<=b) (hfr:f.fr=f.env::outer):∀n st,sizeOf st<n->S8 g K N f st
 |0,st,h=>absurd h (sG _)
 |n+1,st,hn=>by
  have ih:=Xg G SK fk hb hfr n;have e:∀{loc} (e:Expr),Good g K f loc e:=λe=>sE G.g G.t G.s SK fk e;have t:∀{loc} (e:Expr),Cp g K f loc e:=λe=>sT G.g G.t G.s SK fk e;have bl:∀{l:List Stmt},sizeOf l<=n->C6 g K N f l:=by
   intro l
   induction l with
   |nil=>intro _;exact LG
   |cons a l ihl=>
    intro hs;simp at hs;exact Jg (ih a ⋯) (ihl ⋯)
  intro loc H ρ s Q;rw[CP.eq_def];split
  ·rename_i x pos
   have:=Q9 (N:=N) (pos:=pos) fk (e x) Q
   simp only[CP] at this;exact this
  ·rename_i t' x pos
   have:=Mg (N:=N) (t:=t') (e:=x) (pos:=pos) G.g G.t G.s SK fk Q
   simp only[CP] at this;exact this
  ·rename_i x y tpos op r pos
   have:=Rr (N:=N) (x:=y) (op:=op) (tpos:=tpos) (pos:=pos) G.g (e x) (e r) Q
   simp only[CP] at this;exact this
  ·rename_i c a o pos
   have:=US (pos:=pos) (t c) (bl (l:=a) (by simp at hn;omega)) (bl (l:=o) (by simp at hn;omega)) Q
   simp only[CP] at this;exact this
  ·rename_i c a pos
   have:=OU (pos:=pos) (λloc=>t (loc:=loc) c) (bl (l:=a) (by simp at hn;omega)) Q
   simp only[CP] at this;exact this
  ·rename_i t' it a pos
   have:=R8 (t:=t') (it:=it) (pos:=pos) G.g fk (λe'=>e e') (bl (l:=a) (by simp at hn;omega)) (λQ r=>Hm G.g G.t G.s SK fk _ t' (qP _) Q r) Q
   simp only[CP] at this;exact this
  ·rename_i pos
   have:=Kp (K:=K) (N:=N) (pos:=pos) Q
   simp only[CP] at this;exact this
  ·rename_i x pos
   have:=Mh (N:=N) (pos:=pos) (e x) Q
   simp only[CP] at this;exact this
  ·rename_i nc np a cp pos
   have:=OD (N:=N) (nc:=nc) (np:=np) (a:=a) (cp:=cp) (pos:=pos) G.g G.t G.r G.m G.s SK fk hb Q
   simp only[CP] at this;exact this
  ·rename_i bd hs fin pos
   have:=Rj (hs:=hs) (pos:=pos) G.g G.x fk hfr (bl (l:=bd) (by simp at hn;omega)) (bl (l:=fin) (by simp at hn;omega)) Q
   simp only[CP] at this;exact this
  ·rename_i x i p2 pos
   have:=Mw (N:=N) (pos:=pos) (p2:=p2) (e x) (e i) Q
   simp only[CP] at this;exact this
  ·exact AE.standAt (AE.pure Q rfl)
  ·exact AE.standAt (AE.pure Q rfl)
  ·exact AE.standAt (AE.pure Q rfl)
  ·exact AE.stuck
theorem sB {outer:List Env}(G:FG g) (SK:Br g K b) (fk:Ac g f (b+2)) (hb:4<=b) (hfr:f.fr=f.env::outer):∀l,C6 g K N f l
 |[]=>LG
 |a::l=>Jg (Xg G SK fk hb hfr _ a (qP _)) (sB G SK fk hb hfr l)
theorem F5 {n:Str}:∀{P:List Str}{l:List Value},((P.zip l).lookup n).isNone=true↔n∉P.take l.length
 |[],l=>by simp
 |p::P,[]=>by simp
 |p::P,x::l=>by
  simp only[mr,qG,KX,qL,fg,not_or];by_cases h:n=p
  ·subst h;simp
  ·have:(n==p)=false:=by simpa using h
   rw[this];simp only;rw[F5];exact⟨λq=>⟨h,q⟩,λq=>q.2⟩
theorem Ig {a b:List (Str×Value)}:((a++b).lookup n).isNone=((a.lookup n).isNone&&(b.lookup n).isNone):=by
 rw[sX];cases a.lookup n<;>simp
theorem GZ (F:Str×Value->List (Str×Value)->Sem (ForInStep (List (Str×Value)))) (hF:∀q acc,F q acc=if (acc.lookup q.1).isNone=true then pure (.yield (acc++[q])) else pure (.yield acc)):∀(L:List (Str×Value)) (acc:List (Str×Value)),(L.map (·.1)).Nodup->
  forIn L acc F=pure (acc++L.filter λq=>(acc.lookup q.1).isNone)
 |[],acc,_=>by simp
 |q::L,acc,nd=>by
  have eS:=gl.mp (by simpa using nd:(q.1::L.map (·.1)).Nodup);rw[qC,hF];by_cases h:(acc.lookup q.1).isNone=true
  ·rw[UQ h,pure_bind];dsimp only;rw[GZ F hF L _ eS.2]
   have:(L.filter λr=>((acc++[q]).lookup r.1).isNone)=L.filter λr=>(acc.lookup r.1).isNone:=by
    refine s7 λr hr=>?_;rw[Ig];have hne:r.1≠q.1:=λe=>eS.1 (e▸qc hr)
    have:([q].lookup r.1).isNone=true:=by
     obtain⟨a,b⟩:=q;simp only[qG,List.lookup_nil]
     have:(r.1==a)=false:=by simpa using hne
     rw[this];rfl
    rw[this,Bool.and_true]
   rw[this,rB,UQ h]
   simp
  ·rw[T8 h,pure_bind];dsimp only;rw[GZ F hF L _ eS.2,rB,T8 h]
theorem FF:∀{P:List Str}{l:List Value}{pre:List (Str×Value)},P.Nodup->l.length=P.length->(∀n∈P,pre.lookup n=none)->(P.filterMap λn=>((pre++P.zip l).lookup n).map ((n,·)))=P.zip l
 |[],l,pre,_,_,_=>by simp
 |p::P,x::l,pre,nd,hl,hp=>by
  have eS:=gl.mp nd;rw[me];have h1:(pre++(p::P).zip (x::l)).lookup p=some x:=by
   rw[sX,hp p (.head _)];simp
  rw[h1];simp only[tp,mr]
  congr 1
  have ih:=FF (P:=P) (l:=l) (pre:=pre++[(p,x)]) eS.2 (by simpa using hl) λn hn=>by
   rw[sX,hp n (.tail _ hn)];have hne:n≠p:=λe=>eS.1 (e▸hn);simp [hne]
  simpa using ih
 |p::P,[],_,_,hl,_=>by simp at hl
theorem EB:∀(k:Nat) {P:List Str}{D:List Value},P.Nodup->(∀n∈P.take k,True)->((P.zip D).filter λq=>decide (q.1∉P.take k))=(P.drop k).zip (D.drop k)
 |0,P,D,_,_=>by simp
 |k+1,[],D,_,_=>by simp
 |k+1,p::P,[],_,_=>by simp
 |k+1,p::P,d::D,nd,_=>by
  have eS:=gl.mp nd;simp only[mr,qL,sJ];rw[rB,T8 (by simp)];have ih:=EB k (P:=P) (D:=D) eS.2 (by simp);rw[←ih];refine s7 λq hq=>?_;have hne:q.1≠p:=λe=>eS.1 (by rw[←e];exact (List.of_mem_zip hq).1);simp [hne]
theorem C1 {Q:List (Str×Value)->Shared->Prop}{fo:FuncData}{as:List Arg}{ds:List Expr}{D:List Value}(hp:fo.params=⟨[],as,none,[],[],none,ds⟩) (nd:(as.map (·.arg)).Nodup) (h0:D.length<=as.length) (h1:xs.length<=as.length) (h2:as.length<=xs.length+D.length) (h:wpAny M A (seqItems? fo.defaults) (λoD s'=>(oD.getD #[]).toList=D/\Q ((as.map (·.arg)).zip (xs++D.drop (D.length+xs.length-as.length))) s') E s):wpAny M A (bindArgs fo ⟨xs,[]⟩) Q E s:=by
 unfold bindArgs;rw[hp];simp only[qH,qU,qg,pure_bind];refine K3 (jV h (λoD s' ⟨hD,q⟩=>?_) λ_ _ e=>e);simp only[hD];have hP:(as.map (·.arg)).length=as.length:=eP ..;generalize pV:as.map (·.arg)=P at*;rw[T8 (by simp;omega)];have e1:D.length-P.length=0:=by omega
 rw[e1,uA];have e2:(List.filter (λn=>(List.lookup n (P.zip xs)).isNone) (List.take (P.length-D.length) P))=[]:=by
  rw[List.filter_eq_nil_iff];intro n hn;rw[F5];simp only[sy];exact List.take_subset_take_left P ⋯ hn
 rw[e2,T8 (by simp)];rw[GZ _ (λq acc=>rfl) _ _ (by
  have:(((P.drop (P.length-D.length)).zip D).map (·.1))=P.drop (P.length-D.length):=by
   rw[List.map_fst_zip]
   simp;omega
  rw[this];exact nd.sublist (sk _ _))]
 rw[pure_bind];rw[T8 (by simp)];refine df ?_;have e3:((P.drop (P.length-D.length)).zip D).filter (λq=>((P.zip xs).lookup q.1).isNone)=(P.drop xs.length).zip (D.drop (D.length+xs.length-P.length)):=by
  have k:xs.length=(P.length-D.length)+(D.length+xs.length-P.length):=by omega
  have:=EB (D.length+xs.length-P.length) (P:=P.drop (P.length-D.length)) (D:=D) (nd.sublist (sk _ _)) (by simp)
  rw[List.drop_drop,←k] at this;rw[←this];refine s7 λq hq=>?_;have hq1:=(List.of_mem_zip hq).1;have eqv:q.1∉P.take xs.length↔q.1∉(P.drop (P.length-D.length)).take (D.length+xs.length-P.length):=by
   have hs:P.take xs.length=P.take (P.length-D.length)++(P.drop (P.length-D.length)).take (D.length+xs.length-P.length):=by
    conv=>lhs;rw[k,List.take_add]
   rw[hs,eI,not_or];refine⟨λh=>h.2,λh=>⟨λm=>?_,h⟩⟩;have nD:(P.take (P.length-D.length)++P.drop (P.length-D.length)).Nodup:=by rw[mx];exact nd
   exact (kz.mp nD).2.2 q.1 m q.1 hq1 rfl
  by_cases h:q.1∉P.take xs.length
  ·rw[F5.mpr h];simp [eqv.mp h]
  ·have:((P.zip xs).lookup q.1).isNone=false:=by
    cases hz:((P.zip xs).lookup q.1).isNone with
    |false=>rfl
    |true=>exact absurd (F5.mp hz) h
   rw[this]
   have:¬(q.1∉(P.drop (P.length-D.length)).take (D.length+xs.length-P.length)):=λz=>h (eqv.mpr z)
   simp only[this,dq]
 rw[e3];have e4:P.zip xs++(P.drop xs.length).zip (D.drop (D.length+xs.length-P.length))=P.zip (xs++D.drop (D.length+xs.length-P.length)):=by
  generalize D.drop (D.length+xs.length-P.length)=D';have g1:P.zip (xs++D')=(P.take xs.length++P.drop xs.length).zip (xs++D'):=by rw[mx]
  have g2:P.zip xs=(P.take xs.length++P.drop xs.length).zip (xs++[]):=by rw[mx,nz]
  rw[g1,g2,List.zip_append (by simp;omega),List.zip_append (by simp;omega)]
  simp
 rw[e4,nz]
 have:=FF (P:=P) (l:=xs++D.drop (D.length+xs.length-P.length)) (pre:=[]) nd (by simp;omega) (by simp)
 have this:P.filterMap (λn=>((P.zip (xs++D.drop (D.length+xs.length-P.length))).lookup n).map ((n,·)))=P.zip (xs++D.drop (D.length+xs.length-P.length)):=by simpa using this
 rw[this,hP];exact q
structure cr (g:Gd) (fd:Rz) (fo:FuncData):Prop where
 params:∃as ds,fo.params=⟨[],as,none,[],[],none,ds⟩/\as.map (·.arg)=fd.params
 nodup:fd.params.Nodup
 body:fo.body= .stmts fd.body
 names:fo.scope.names=fd.names
 ok:BH fo.scope=true
 globals:fo.globals=mainGlobals
 builtins:fo.builtins=builtinsNs
 closure:fo.closure=[]
 code:g.base.CodeRec fo.code fo.qualname
 dflt:∃D:List Value,((fo.defaults= .none/\D=[])∨∃T o n,fo.defaults= .ref T/\g.base.get? T=some o/\o.data= .seq D.toArray n)/\D.length=fd.dflts.length/\D.length<=fd.params.length/\
  ∀(k:Nat) (v:V),fd.dflts[k]? =some (some v)->∃x,D[k]? =some x/\∀ρ h,VR g ρ h v x
 lam:fd.lam=true->∃q∈g.tabs,fo.code= .ref q.1/\(fo.qualname++".<locals>.")++("<lambda>":Str)=q.2.2
structure Oe (g:Gd):Prop where
 fn:∀i j fd,MV i j=some fd->∃o fo,g.base.get? (g.fa i j)=some o/\o.data= .func fo/\cr g fd fo
variable {L:Addr}
section
variable {ρ1:AR}
theorem Ki {x:Str}(fk:Ac g f N) (Q:AF g f ρ H loc s.heap) (r:VR g ρ s.heap v y) (e:Bc f.cx loc x v H=some (loc',H')):
  wpAny g.M A (storeName f.env x y) (λ_ s'=>Step g f.fr [f.L] ρ s ρ s'/\AF g f ρ H' loc' s'.heap) E s:=by
 unfold Bc at e;cases hk:lk x f.cx.names with
 |none=>rw [hk] at e;cases e
 |some k=>
  rw[hk] at e;obtain⟨kr,nd,nc⟩:=fk.names x k hk;cases k<;>simp only at e
  case «local»=>
   cases e;obtain⟨m,hn,hm⟩:=Q.ns;refine qp (m:=m) kr (by rw[fk.locals];exact hn) (λh' n k=>?_) (by rw[fk.kind];rfl);rw[fk.locals] at n k;refine⟨Step.locals k (let ⟨o,_,_,e,_⟩:=n;⟨o,e⟩),Q.locals k.extBut n λz w a b=>?_⟩;rw[EY] at b;by_cases hz:z=x
   ·rw[UQ hz] at b;cases b;exact⟨y,UQ hz,r⟩
   ·rw[T8 hz] at b;obtain⟨val,c,d⟩:=hm z w a b;exact⟨val,by rw[T8 hz];exact c,d⟩
  case cell=>
   split at e
   ·rename_i a ha;split at e
    ·rename_i w hw;cases e;obtain⟨p,hp,hc⟩:=Q.cells x a ha;obtain⟨p',dN,e0,c,hcell,hv⟩:=Q.hr.rep.get hw;rw[hp] at dN;cases dN;refine wpAny_storeName_cell fk.kind kr hc hcell λh' n k=>?_;have ni:=(Q.hr.rep.obj a _ p hw hp).EK;have ik:AI s.heap h':=λb o e im=>k.extBut b o (λq=>by subst q;exact ni.1 o e im) e;have ob:By g ρ h' (.cell (some v)) p:=⟨e0,some y,n,y,rfl,r.heap ik⟩;exact⟨Step.set (t:=s.toks) Q.hr hp (λb o n1 _ e=>k.extBut b o n1 e) ob,Q.set hp ⟨_,hw⟩ (λb o n1 _ e=>k.extBut b o n1 e) ob⟩
    ·cases e
   ·cases e
  all_goals cases e
theorem Eh (fk:Ac g f N):∀{ps:List Str}{vs:List V}{xs:List Value}{loc loc':Loc}{H H':Hp}{s:Shared}{Q':PUnit->Shared->Prop},AF g f ρ H loc s.heap->Aa g ρ s.heap vs xs->storeAll f.cx (ps.zip vs) loc H=some (loc',H')->
  (∀s',Step g f.fr [f.L] ρ s ρ s'->AF g f ρ H' loc' s'.heap->Q' PUnit.unit s')->wpAny g.M A (forIn (ps.zip xs) PUnit.unit λ(x:Str×Value) _=>do storeName f.env x.1 x.2;pure (ForInStep.yield PUnit.unit)) Q' E s
 |[],vs,xs,loc,loc',H,H',s,Q',Q,r,e,k=>by
  simp only[qx,storeAll] at e;cases e;simp only[qx,qg];exact df (k s Step.refl Q)
 |p::ps,[],xs,loc,loc',H,H',s,Q',Q,r,e,k=>by
  unfold Aa at r;subst r;simp only[sY,storeAll] at e;cases e;simp only[sY,qg];exact df (k s Step.refl Q)
 |p::ps,v::vs,xs,loc,loc',H,H',s,Q',Q,r,e,k=>by
  unfold Aa at r;obtain⟨x,t,rfl,r1,r2⟩:=r;simp only[mr,storeAll] at e;cases hs:Bc f.cx loc p v H with
  |none=>rw [hs] at e;cases e
  |some lh=>
   obtain⟨l1,H1⟩:=lh;rw[hs] at e;simp only[mr,qC];refine K3 (K3 (jV (E:=λ_ _=>False) (Ki fk Q r1 hs) (λ_ s1 ⟨S1,Q1⟩=>df ?_) λ_ _ q=>q.elim));exact Eh fk Q1 (r2.mono (S1.CL Q) S1.pre) e λs' S' Q2=>k s' (S1.trans S') Q2
theorem Step.enter {env':Env}(hf:env'.frame=some L) (hL:s.heap.get? L=none) (kp:∀b o,s.heap.get? b=some o->s1.heap.get? b=some o) (pr:∃t,ρ1=ρ++t/\∀p∈t,s.heap.get? p.1=none/\s.heap.get? p.2=none) (hr:∃hh,s1={s with heap:=hh}) (S:Step g (env'::fr) [L] ρ1 s1 ρ' s'):Step g fr X ρ s ρ' s':=by
 obtain⟨t,e1,e2⟩:=pr;have ne:∀{b o},s.heap.get? b=some o->b≠L:=λe q=>by subst q;rw[hL] at e;cases e
 have back:∀{b},s1.heap.get? b=none->s.heap.get? b=none:=λ{b} hb=>by
  cases e:s.heap.get? b with
  |none=>rfl
  |some o=>rw [kp b o e] at hb;cases hb
 have gb:∀{b},b∈BZ (env'::fr)↔b=L∨b∈BZ fr:=λ{b}=>by
  unfold BZ;rw[me,hf]
  simp
 have eN:∀{b o},s.heap.get? b=some o->¬Own ρ b->¬Own ρ1 b:=λ{b o} e n q=>by
  obtain⟨p,hp,hb⟩:=q;rw[e1] at hp;rcases eI.mp hp with m|m
  ·exact n ⟨p,m,hb⟩
  ·have:=e2 p m
   rcases hb with q|q
   ·rw[←q,e] at this;cases this.1
   ·rw[←q,e] at this;cases this.2
 refine⟨(by rw[e1] at S;exact (hW _ _).trans S.pre),λp hp=>?_,λb o e n x tb f=>S.kept b o (kp b o e) (eN e n) (by simpa using ne e) tb (λm=>(gb.mp m).elim (ne e) f),λb o e f x=>S.slots b o (kp b o e) (gb.mpr (.inr f)) (by simpa using ne e),λb o e=>S.alive b o (kp b o e),?_⟩
 ·obtain⟨u,hu⟩:=S.pre;rw[←hu,e1,kt,mB] at hp;rcases eI.mp hp with m|m
  ·exact e2 p m
  ·have:=S.new p (by rw[←hu,mB];exact m)
   exact⟨back this.1,back this.2⟩
 ·obtain⟨hh,rfl⟩:=hr;obtain⟨h2,tk,e⟩:=S.rest;exact⟨h2,tk,e⟩
theorem BJ.tail {env':Env}(R:BJ g (env'::fr) ρ H h):BJ g fr ρ H h:=⟨R.base,R.rep,R.fresh,λe m=>R.frames e (.tail _ m),R.tabs⟩
theorem AF.back (Q:AF g f ρ H loc s.heap) (S:Step g f.fr [] ρ s ρ' s') (hr:BJ g f.fr ρ' H' s'.heap):AF g f ρ' H' loc s'.heap:=by
 obtain⟨oL,hL⟩:=Q.toI7.there;refine⟨Q.toI7.of (S.XU Q.hr) S.pre (S.old hL Q.lo) λm ⟨o,es,ep,h1,h2,h3⟩=>?_,hr⟩;by_cases hfr:f.L∈BZ f.fr
 ·obtain⟨sl,h4⟩:=S.slots _ _ h1 hfr (by simp);exact⟨_,es,ep,h4,h2,h3⟩
 ·have hnt:f.L∉g.Dz:=λm=>by
   obtain⟨q,hq,gU⟩:=eJ.mp m;obtain⟨_,ps,hp,_⟩:=Q.hr.tabs q hq;rw[gU,h1] at hp;cases hp;cases h2
  exact⟨o,es,ep,S.kept _ _ h1 Q.lo (by simp) hnt hfr,h2,h3⟩
theorem JR {f':Fd}(fE:f'.fr=f'.env::f.fr) (gY:f'.A.frames=some (f'.env::f.fr)) (hf:f'.env.frame=some f'.L) (Q:AF g f ρ H loc s.heap) (hL:s.heap.get? f'.L=none) (kp:∀b o,s.heap.get? b=some o->s1.heap.get? b=some o) (pr:∃t,ρ1=ρ++t/\∀p∈t,s.heap.get? p.1=none/\s.heap.get? p.2=none) (hr:∃hh,s1={s with heap:=hh}) (F:VO g f'.fr [f'.L] ρ1 s1 ρ' H' c a (QI g f' ρ' loc') s'):
  wpAny g.M f'.A (leaving f'.env (.ref a)) (λ_ s2=>BP g f ρ s (.exc c loc H':Out α) (.ref a) s2) (λ_ _=>False) s':=by
 obtain⟨B,a0,up,hb,kF,ht,hk,_⟩:=F.ex;obtain⟨t,e1,e2⟩:=pr;have ne:∀{b o},s.heap.get? b=some o->b≠f'.L:=λe q=>by subst q;rw[hL] at e;cases e
 have gb:∀{b},b∈BZ f'.fr↔b=f'.L∨b∈BZ f.fr:=λ{b}=>by
  rw[fE];unfold BZ;rw[me,hf]
  simp
 have eN:∀{b o},s.heap.get? b=some o->¬Own ρ b->¬Own ρ1 b:=λ{b o} e n q=>by
  obtain⟨p,hp,hb⟩:=q;rw[e1] at hp;rcases eI.mp hp with m|m
  ·exact n ⟨p,m,hb⟩
  ·have:=e2 p m
   rcases hb with q|q
   ·rw[←q,e] at this;cases this.1
   ·rw[←q,e] at this;cases this.2
 have eG:∀b o,s.heap.get? b=some o->¬Own ρ b->b∉g.Dz->b∉BZ f.fr->B.get? b=some o:=λb o e n tb fr=>hk b o (kp b o e) (eN e n) (by simpa using ne e) tb λm=>(gb.mp m).elim (ne e) fr;have ik:AI s.heap B:=λb o e im=>eG b o e (Q.hr.rep.RA e im) (Q.hr.O5 e im) (Q.hr.PS e im);have back:∀{b},s1.heap.get? b=none->s.heap.get? b=none:=λ{b} hb=>by
  cases e:s.heap.get? b with
  |none=>rfl
  |some o=>rw [kp b o e] at hb;cases hb
 have new:∀p∈ρ'.drop ρ.length,s.heap.get? p.1=none/\s.heap.get? p.2=none:=λp hp=>by
  obtain⟨u,hu⟩:=F.pre;rw[←hu,e1,kt,mB] at hp;rcases eI.mp hp with m|m
  ·exact e2 p m
  ·have:=F.new p (by rw[←hu,mB];exact m)
   exact⟨back this.1,back this.2⟩
 have pre:ρ<+:ρ':=by
  have:=F.pre
  rw[e1] at this;exact (hW _ _).trans this
 have jG:∀{b o},s.heap.get? b=some o->¬Own ρ b->¬Own ρ' b:=λ{b o} e n q=>by
  rcases LF pre q with m|⟨p,hp,m⟩
  ·exact n m
  ·have:=new p hp
   rcases m with rfl|rfl
   ·rw[e] at this;cases this.1
   ·rw[e] at this;cases this.2
 obtain⟨pW,nE⟩:=Q.toI7.there;have build:∀h4,Heap.FlyingW B f.fr a (.ref (g.ca c)) a0 h4->s'.heap.UpToSlots h4->BP g f ρ s (.exc c loc H':Out α) (.ref a) {s' with heap:=h4}:=λh4 hfl u=>by
  have frs:∀env∈f.fr,SQ g ρ' h4 env:=λenv he=>by
   obtain⟨kd,L,o,es,ep,k1,k2,k3,k4,k5⟩:=F.frames env (fE▸ .tail _ he);obtain⟨sl,k6⟩:=u L o k3 λvs q=>by rw[k4] at q;cases q
   exact⟨kd,L,_,es,ep,k1,k2,k6,k4,k5⟩
  have slots:∀b o,s.heap.get? b=some o->b∈BZ f.fr->∃sl,h4.get? b=some {o with slots:=sl}:=λb o e fY=>by
   obtain⟨sl,k1⟩:=F.slots b o (kp b o e) (gb.mpr (.inr fY)) (by simpa using ne e);have hd:∀vs,o.data≠ .fields vs:=λvs q=>by
    obtain⟨env,he,hf⟩:=kA.mp fY;obtain⟨kd,L,o2,es,ep,k2,k3,k4,k5,k6⟩:=F.frames env (fE▸ .tail _ he);rw[k2] at hf;cases hf;rw[k4] at k1;cases k1;rw[q] at k5;cases k5
   obtain⟨eY,k2⟩:=u b _ k1 hd;exact⟨eY,k2⟩
  refine⟨c,loc,H',ρ',a,rfl,rfl,⟨pre,new,⟨B,a0,.inl hfl,hb,kF,ht,λb o e n _ tb fr=>eG b o e n tb fr,?_⟩,F.fresh,frs,λb o e fY _=>slots b o e fY,λb o e=>?_,?_⟩,⟨Q.lb,jG nE Q.lo,λx k q=>?_⟩⟩
  ·obtain⟨m,⟨o,es,ep,h1,h2,h3⟩,hm⟩:=Q.ns;refine⟨m,?_,λx v k1 k2=>?_⟩
   ·by_cases hfr:f.L∈BZ f.fr
    ·obtain⟨sl,k1⟩:=slots _ _ h1 hfr;exact⟨_,es,ep,k1,h2,h3⟩
    ·have hnt:f.L∉g.Dz:=λm=>by
      obtain⟨q,hq,gU⟩:=eJ.mp m;obtain⟨_,ps,hp,_⟩:=Q.hr.tabs q hq;rw[gU,h1] at hp;cases hp;cases h2
     exact⟨o,es,ep,hfl.1 _ _ (eG _ _ h1 Q.lo hnt hfr),h2,h3⟩
   ·obtain⟨val,k3,k4⟩:=hm x v k1 k2;exact⟨val,k3,k4.mono ik pre⟩
  ·by_cases h1:Own ρ b
   ·obtain⟨ob,hob⟩:=kF.there (Kn pre h1);exact⟨ob,hfl.1 _ _ hob⟩
   ·by_cases h2:b∈g.Dz
    ·obtain⟨q,hq,rfl⟩:=eJ.mp h2;obtain⟨_,ps,k2,_⟩:=ht q hq;exact⟨_,hfl.1 _ _ k2⟩
    ·by_cases h3:b∈BZ f.fr
     ·obtain⟨sl,k1⟩:=slots b o e h3;exact⟨_,k1⟩
     ·exact⟨o,hfl.1 _ _ (eG b o e h1 h2 h3)⟩
  ·obtain⟨hh,rfl⟩:=hr;obtain⟨hp,tk,e⟩:=F.rest;exact⟨h4,tk,by rw[e]⟩
  ·obtain⟨p,k1,k2⟩:=Q.cells x k q;exact⟨p,Dw pre k1,k2⟩
 rcases up with up|⟨k1,k2,k3,oe,vs,k4,k5,k6,k7,k8⟩
 ·rw[fE] at up;exact wpAny_leaves_onW gY hf up λh1 hfl u1=>build h1 hfl u1
 ·rw[fE] at k3;refine wpAny_leaving_firstW gY k3 hf k4 k1 k2 k6 k7 k8 λh1 ⟨x1,x2,x3,x4⟩=>?_;rw[k5] at x3;obtain⟨_,_,nG⟩:=x2;exact build h1 ⟨x1,k2,nG,x3⟩ λb o e hd=>x4 b o e hd
end
variable {prog:Program}{w:World}
section
variable {R:Result->Shared->Prop}
theorem ET {args:Args}{o:Obj}{fd:FuncData}{body:Expr}(hroom:A.depth<recursionLimit) (ho:s.heap.get? a=some o) (hd':o.data= .func fd) (hco:fd.scope.isCoroutine=false) (hgen:fd.scope.isGenerator=false) (hbody:fd.body= .expr body) (hcd:s.heap.CodeRec fd.code fd.qualname) (h:wpAny (model prog w) A.in1 (bindArgs fd args) (λbinds s₁=>
   wpAny (model prog w) A.in1 (newFunctionEnv fd.scope fd.globals fd.closure binds (fd.qualname++".<locals>.") (some a) fd.code none fd.builtins)
    (λenv s₂=>s₂.heap.NoLimit/\codeN (model prog w) A (.expr body env) R s₂) (λe s'=>R (.error e) s') s₁) (λe s'=>R (.error e) s') s):
  codeN (model prog w) A (.call (.ref a) args) R s:=by
 refine AS ?_;show Ai _ A.in1 (callAny (.ref a) args) _ _ s;simp only[callAny];refine AJ (rN ho ?_);obtain⟨c,oc,vs,tq,hc,hoc,hdc,hq⟩:=hcd;simp only[hd',callFunction,hco,hgen,hbody,hc];rw[hc] at h;refine AJ (m:=field (.ref c) 1) (qW hoc hdc hq (AJ (df ?_)));exact AJ (jV h (λbinds s₁ h₁=>AJ (jV h₁ (λenv s₂ h₂=>AJ (wpAny_enterFrame h₂.1 hroom
  (AB (And.intro rfl (And.intro rfl h₂.2))))) λ_ _ h'=>h')) λ_ _ h'=>h')
theorem M1 (h:Ai (model prog w) (A.deeper env) (eval e env) (λv s'=>R (.ok (.ret v)) s')
   (λe' s'=>Ai (model prog w) (A.deeper env) (leaving env e') (λ_ s''=>R (.error e') s'') (λe'' s''=>R (.error e'') s'') s') s):
  codeN (model prog w) A (.expr e env) R s:=by
 refine AS ?_;show Ai _ (A.deeper env) (do point;ret (←(eval e env).onRaise (leaving env))) _ _ s;exact AA (En (AA (Aq (AG h (λv s' h'=>AB h') λ_ _ h'=>h'))))
end
section
variable {ρ1:AR}
abbrev Fd.callee (f:Fd) (env:Env) (L:Addr) (cx:Cx):Fd:=⟨f.A.deeper env,env,L,env::f.fr,cx⟩
theorem Ac.callee {scope:Scope}{L a:Addr}{cells:List (Str×Addr)}{qual:Str}{code:Value}{cs:List (Str×Nat)}{lam:Bool}(fk:Ac g f (N+1)) (hs:BH scope=true)
  (hl:lam=true->∃q∈g.tabs,code= .ref q.1/\qual++("<lambda>":Str)=q.2.2):
  Ac g (f.callee (newEnv scope L mainGlobals cells qual (some a) code none builtinsNs) L ⟨scope.names,cs,lam⟩) N:=by
 obtain⟨h1,h2,h3,h4,h5⟩:=BS hs;refine⟨?_,fk.handled,fk.guards,?_,?_,h1,rfl,rfl,rfl,λx k hk=>?_,⟨_,_,L,rfl,rfl,rfl⟩,hl⟩
 ·show f.A.frames.map _=_;rw[fk.frames];rfl
 ·have:=fk.depth
  show f.A.depth+1+N+8<=600;omega
 ·have:=fk.units
  show f.A.units+3+10*N+40<=3000;omega
 ·have hk':scope.names.lookup x=some k:=by rw[←Ep];exact hk
  refine⟨?_,?_⟩
  ·show Ln k (scope.names.lookup x);rw[hk'];cases k<;>first|exact rfl|exact .inl rfl
  ·obtain⟨q,hq,e⟩:=FQ hk;rw[←e];exact h4 q hq
theorem D4 (Q1:AF g f ρ1 H loc s1.heap) (hkd:env.scope.kind≠ .module) (hf:env.frame=some L) (hns:s1.heap.Ns L (λ_=>none)) (hb:g.base.get? L=none) (ho:¬Own ρ1 L) (hc:∀x a,lk x cx.cells=some a->∃p,ρ1[a]? =some p/\env.cells.lookup x=some p.1):AF g (f.callee env L cx) ρ1 H [] s1.heap:=by
 refine⟨⟨⟨_,hns,λ_ _ _ q=>by cases q⟩,hb,ho,hc⟩,⟨Q1.hr.base,Q1.hr.rep,Q1.hr.fresh,λe m=>?_,Q1.hr.tabs⟩⟩;rcases fg.mp m with rfl|m
 ·obtain⟨o,es,ep,h1,h2,_⟩:=hns;exact⟨hkd,L,o,es,ep,hf,hb,h1,h2,ho⟩
 ·exact Q1.hr.frames e m
theorem Gi {l:List (Option V)}:(l.filterMap id).length<=l.length:=tH _ _
theorem Ge {ρ:AR}{h:Heap}:∀{ds:List (Option V)}{D:List Value},D.length=ds.length->(∀(k:Nat) (v:V),ds[k]? =some (some v)->∃x,D[k]? =some x/\VR g ρ h v x)->(ds.filterMap id).length=ds.length->Aa g ρ h (ds.filterMap id) D
 |[],[],_,_,_=>Em
 |d::ds,x::D,hl,hv,hz=>by
  cases d with
  |none=>
   rw[me] at hz
   have:=Gi (l:=ds)
   simp at hz;omega
  |some v=>
   rw[me] at hz ⊢;dsimp only[_root_.id] at hz ⊢;unfold Aa;obtain⟨y,h1,h2⟩:=hv 0 v rfl;simp at h1;subst h1;exact⟨x,D,rfl,h2,Ge (by simpa using hl) (λk w hk=>by simpa using hv (k+1) w (by simpa using hk)) (by simpa using hz)⟩
 |[],_::_,hl,_,_=>by simp at hl
 |_::_,[],hl,_,_=>by simp at hl
theorem G4 {ps:List Str}{ds:List (Option V)}{args:List V}{bs:List (Str×V)}(e:Ct ps ds args=some bs):args.length<=ps.length/\ps.length<=args.length+ds.length/\
  bs=ps.zip (args++(ds.drop (ds.length+args.length-ps.length)).filterMap id)/\((ds.drop (ds.length+args.length-ps.length)).filterMap id).length=(ds.drop (ds.length+args.length-ps.length)).length:=by
 unfold Ct at e;split at e
 ·rename_i h;dsimp only at e;split at e
  ·rename_i h2;cases e;refine⟨h.1,h.2,rfl,?_⟩;rw[eR] at h2;rw[qE];omega
  ·cases e
 ·cases e
def LX:SR->Res V
 | .ok (.ret v) _ h=>.ok v h
 | .ok .next _ h=>.ok .none h
 | .ok _ _ _=>.stuck
 | .exc c _ h=>.exc c h
 | .stuck=>.stuck
theorem Om (GA:FG g) (GF:Oe g) (SK:Br g K b) (hb:4<=b) (fk:Ac g f (b+3)) (Q:AF g f ρ H loc s.heap){j:Nat}{fd:Rz}{vs:List V}(hfd:MV i j=some fd) (r:Aa g ρ s.heap vs xs) (ns:Dj K fd vs H≠ .stuck):
  codeN g.M f.A (.call (.ref (g.fa i j)) ⟨xs,[]⟩) (wants (A0 g f (BE g) ρ s ((Dj K fd vs H).out loc)) (BP g f ρ s ((Dj K fd vs H).out loc))) s:=by
 obtain⟨o,fo,ho,hd,F⟩:=GF.fn i j fd hfd;obtain⟨as,ds,hpar,fZ⟩:=F.params;obtain⟨k1,k2,k3,_,_⟩:=BS F.ok;have B:=Q.hr.base;unfold Dj at ns ⊢;cases ff:Ct fd.params fd.dflts vs with
 |none=>rw [ff] at ns;exact absurd rfl ns
 |some bs=>
  rw[ff] at ns;dsimp only at ns ⊢;obtain⟨b1,b2,b3,b4⟩:=G4 ff;obtain⟨D,hD,gf,nH,gV⟩:=F.dflt;have jH:=At r;have hroom:f.A.depth<recursionLimit:=by
   have:=fk.depth
   show f.A.depth<1000;omega
  have fh:as.length=fd.params.length:=by rw[←fZ,eP]
  refine Cr hroom (B _ _ ho) hd k2 k3 F.body (F.code.keeps B) ?_;refine C1 (D:=D) hpar (fZ▸F.nodup) ⋯ ⋯ ⋯ ?_;have hseq:wpAny g.M f.A.in1 (seqItems? fo.defaults) (λoD s'=>(oD.getD #[]).toList=D/\s'=s) (λ_ _=>False) s:=by
   rcases hD with ⟨e1,e2⟩|⟨T,oT,n,e1,e2,e3⟩
   ·rw[e1];exact df ⟨by rw[e2];rfl,rfl⟩
   ·rw[e1];exact uC (B _ _ e2) e3 ⟨by simp,rfl⟩
  refine jV hseq (λoD s' ⟨q1,q2⟩=>⟨q1,?_⟩) λ_ _ q=>q.elim;subst q2;rw[fZ,fh];rw[F.globals,F.builtins,F.closure];have fF:Aa g ρ s'.heap (vs++(fd.dflts.drop (fd.dflts.length+vs.length-fd.params.length)).filterMap id) (xs++D.drop (D.length+xs.length-fd.params.length)):=by
   refine DQ r ?_;have e:D.length+xs.length-fd.params.length=fd.dflts.length+vs.length-fd.params.length:=by rw[gf,jH]
   rw[e];refine Ge (by rw[qE,qE,gf]) (λk v hk=>?_) b4;rw[oI] at hk ⊢;obtain⟨x,hx,jI⟩:=gV _ v hk;exact⟨x,hx,jI ρ _⟩
  have QA:AF g (f.at f.A.in1) ρ H loc s'.heap:=Q.at;refine El (g:=g) (f:=f.at f.A.in1) (s:=s') QA (cs:=[]) (closure:=[]) rfl λcells ρ1 s1 Q1 pr kp hr c1 hns hown hbase=>?_;rw[F.names] at Q1 c1;generalize hcs:AH fd.names [] H=nc at Q1 c1 ns ⊢;obtain⟨cs,H1⟩:=nc;dsimp only at Q1 c1 ns ⊢;have hL:=As s'.heap;generalize hLe:s'.heap.objs.size=L at hns hown hbase hL ⊢;generalize hen:newEnv fo.scope L mainGlobals cells (fo.qualname++".<locals>.") (some (g.fa i j)) fo.code none builtinsNs=env;have hef:env.frame=some L:=by rw[←hen];rfl
  have gh:env.scope.kind≠ .module:=by rw[←hen];show fo.scope.kind≠_;rw[k1];decide
  have dW:Ac g (f.callee env L ⟨fd.names,cs,fd.lam⟩) (b+2):=by
   rw[←hen,←F.names];exact Ac.callee fk F.ok F.lam
  have gi:AF g f ρ1 H1 loc s1.heap:=Q1.from;have Qc:AF g (f.callee env L ⟨fd.names,cs,fd.lam⟩) ρ1 H1 [] s1.heap:=D4 gi gh hef hns hbase hown λx a q=>by
   obtain⟨p,h1,h2⟩:=Dd c1 x a q;exact⟨p,h1,by rw[←hen];exact h2⟩
  cases hst:storeAll ⟨fd.names,cs,fd.lam⟩ bs [] H1 with
  |none=>rw [hst] at ns;exact absurd rfl ns
  |some lh=>
   obtain⟨dQ,H2⟩:=lh;rw[hst] at ns;dsimp only at ns ⊢;subst b3;have nJ:AI s'.heap s1.heap:=AI.of_keeps kp;obtain⟨t,et,ft⟩:=id pr;have jJ:ρ<+:ρ1:=et▸hW _ _
   change LX (BK K AO fd.body ⟨fd.names,cs,fd.lam⟩ dQ H2)≠ .stuck at ns
   change wpAny g.M f.A.in1 _ _ (λe s''=>wants (A0 g f (BE g) ρ s' ((LX (BK K AO fd.body ⟨fd.names,cs,fd.lam⟩ dQ H2)).out loc)) (BP g f ρ s' ((LX (BK K AO fd.body ⟨fd.names,cs,fd.lam⟩ dQ H2)).out loc)) (.error e) s'') s1
   refine Eh dW Qc (fF.mono nJ jJ) hst λs2 S2 Q2=>?_;refine⟨GA.g.lim.keeps Q2.hr.base,?_⟩;show codeN g.M f.A (.func fd.body env) (wants (A0 g f (BE g) ρ s' ((LX (BK K AO fd.body ⟨fd.names,cs,fd.lam⟩ dQ H2)).out loc)) (BP g f ρ s' ((LX (BK K AO fd.body ⟨fd.names,cs,fd.lam⟩ dQ H2)).out loc))) s2;have jK:BK K AO fd.body ⟨fd.names,cs,fd.lam⟩ dQ H2≠ .stuck:=λe=>ns (by rw[e];rfl);refine Hw (AG (sB (N:=AO) GA SK dW hb rfl fd.body dQ H2 ρ1 s2 Q2 jK) (λfl s3 hq=>?_) λe s3 hq=>?_)
   ·obtain⟨a,l3,H3,ρ3,e3,S3,Q3,r3⟩:=hq;rw[e3] at ns ⊢;have SS:Step g f.fr [] ρ s' ρ3 s3:=Step.enter hef hL kp pr hr (S2.trans S3);have Qf:AF g f ρ3 H3 loc s3.heap:=Q.back SS Q3.hr.tail;have kG:Step g f.fr [f.L] ρ s' ρ3 s3:=SS.weaken λb hb=>by simp at hb
    cases a with
    |next=>
     have r3:fl= .next:=r3
     subst r3;exact⟨.none,loc,H3,ρ3,rfl,kG,Qf,Bw⟩
    |ret v=>
     obtain⟨x,rfl,rv⟩:=r3;exact⟨v,loc,H3,ρ3,rfl,kG,Qf,rv⟩
    |brk=>exact absurd rfl ns
    |cont=>exact absurd rfl ns
   ·obtain⟨c,l3,H3,ρ3,a,rfl,e3,F3,L3⟩:=hq;rw[e3];have nK:=F3.before S2;exact AG (AL (JR (f:=f) (f':=f.callee env L ⟨fd.names,cs,fd.lam⟩) rfl dW.frames hef Q hL kp pr hr nK)) (λ_ s4 q=>q) λ_ _ q=>q.elim
theorem ON (GA:FG g) (SK:Br g K b) (fk:Ac g f (b+3)) (Q:AF g f ρ H loc s.heap){body:Expr}{cells:List (Str×Nat)}(C:Ml ρ s.heap body scope cells a) (ns:AX K body ⟨scope.names,(AH scope.names cells H).1,false⟩ [] (AH scope.names cells H).2≠ .stuck):
  codeN g.M f.A (.call (.ref a) ⟨[],[]⟩) (wants (A0 g f (BE g) ρ s ((AX K body ⟨scope.names,(AH scope.names cells H).1,false⟩ [] (AH scope.names cells H).2).out loc)) (BP g f ρ s ((AX K body ⟨scope.names,(AH scope.names cells H).1,false⟩ [] (AH scope.names cells H).2).out loc))) s:=by
 obtain⟨⟨o,fo,ho,hd,hpar,hbody,hsc,nM,hbi,hdf,hkd,nN,hcl⟩,hok⟩:=C;obtain⟨k1,k2,k3,_,_⟩:=BS hok;have hroom:f.A.depth<recursionLimit:=by
  have:=fk.depth
  show f.A.depth<1000;omega
 refine ET hroom ho hd (by rw[hsc];exact k2) (by rw[hsc];exact k3) hbody nN ?_;refine C1 (D:=[]) (as:=[]) (ds:=[]) hpar (by simp) (by simp) (by simp) (by simp) ?_;rw[hdf];refine df ⟨rfl,?_⟩;rw[hsc,nM,hbi];have QA:AF g (f.at f.A.in1) ρ H loc s.heap:=Q.at;refine El (g:=g) (f:=f.at f.A.in1) (s:=s) QA hcl λcells' ρ1 s1 Q1 pr kp hr c1 hns hown hbase=>?_;generalize hcs:AH scope.names cells H=nc at Q1 c1 ns ⊢;obtain⟨cs,H1⟩:=nc;dsimp only at Q1 c1 ns ⊢;have hL:=As s.heap;generalize hLe:s.heap.objs.size=L at hns hown hbase hL ⊢;generalize hen:newEnv scope L mainGlobals cells' (fo.qualname++".<locals>.") (some a) fo.code none builtinsNs=env;have hef:env.frame=some L:=by rw[←hen];rfl
 have gh:env.scope.kind≠ .module:=by rw[←hen];show scope.kind≠_;rw[k1];decide
 have dW:Ac g (f.callee env L ⟨scope.names,cs,false⟩) (b+2):=by
  rw[←hen];exact Ac.callee fk hok (λq=>by cases q)
 have gi:AF g f ρ1 H1 loc s1.heap:=Q1.from;have Qc:AF g (f.callee env L ⟨scope.names,cs,false⟩) ρ1 H1 [] s1.heap:=D4 gi gh hef hns hbase hown λx a q=>by
  obtain⟨p,h1,h2⟩:=Dd c1 x a q;exact⟨p,h1,by rw[←hen];exact h2⟩
 simp only[qH,qx,qg];refine df ⟨GA.g.lim.keeps Qc.hr.base,?_⟩;refine M1 (AG (sE GA.g GA.t GA.s SK dW body H1 ρ1 s1 Qc (λe=>ns (by cases hz:AX K body ⟨scope.names,cs,false⟩ [] H1<;>rw [hz] at e<;>first|cases e|rfl))) (λv s3 hq=>?_) λe s3 hq=>?_)
 ·obtain⟨x,l3,H3,ρ3,e3,S3,Q3,r3⟩:=hq;obtain⟨hz,rfl⟩:=KQ e3;rw[hz];have SS:Step g f.fr [] ρ s ρ3 s3:=Step.enter hef hL kp pr hr S3;have Qf:AF g f ρ3 H3 loc s3.heap:=Q.back SS Q3.hr.tail;exact⟨x,loc,H3,ρ3,rfl,SS.weaken λb hb=>by simp at hb,Qf,r3⟩
 ·obtain⟨c,l3,H3,ρ3,a3,rfl,e3,F3,L3⟩:=hq;obtain⟨hz,rfl⟩:=GO e3;rw[hz];exact AG (AL (JR (f:=f) (f':=f.callee env L ⟨scope.names,cs,false⟩) rfl dW.frames hef Q hL kp pr hr F3)) (λ_ s4 q=>q) λ_ _ q=>q.elim
theorem QF (GA:FG g) (GF:Oe g):∀n,Br g (call n) (4+3*n)
 |0=>⟨λ_ _ _ _ _ _ _ _ _ _ _ _ ns=>absurd rfl ns,λ_ _ _ _ _ _ _ _ _ _ _ _ ns=>absurd rfl ns⟩
 |n+1=>by
  have ih:=QF GA GF n;refine⟨λf ρ s H loc i j vs xs fk Q r ns=>?_,λf ρ s H loc body scope cells a fk Q C ns=>?_⟩
  ·cases hfd:MV i j with
   |none=>
    have:call (n+1) (.fn i j) vs H= .stuck:=by simp only[Fsx.call,hfd]
    exact absurd this ns
   |some fd=>
    have e:call (n+1) (.fn i j) vs H=Dj (call n) fd vs H:=by simp only[Fsx.call,hfd]
    rw[e] at ns ⊢;exact Om GA GF ih ⋯ (fk.le ⋯) Q hfd r ns
  ·have e:call (n+1) (.clo body scope cells) [] H=AX (call n) body ⟨scope.names,(AH scope.names cells H).1,false⟩ [] (AH scope.names cells H).2:=by simp only[Fsx.call]
   rw[e] at ns ⊢;exact ON GA ih (fk.le ⋯) Q C ns
end
def S6:Int ⊕ Str->Value->Bool
 | .inl i,v=>Value.isInt i v
 | .inr s,v=>Value.isStrOf s v
theorem IX {a:Int}{b:Str}{t u:Tok}{Q:Bool->Shared->Prop}(h:Q false s):wpAny (model prog w) A (eqBool (.int a t) (.str b u)) Q E s:=by
 unfold eqBool;refine ky ?_;show wpAny _ _ (if (Value.int a t==Value.str b u)=true then _ else _) Q E s;rw[T8 (by intro q;have:=eq_of_beq q;cases this)];refine K3 (EqMixed.eq_int_str (t:=t) (u:=u) (a:=a) (b:=b) (prog:=prog) (w:=w) ?_);exact qv h
theorem IM {a:Str}{b:Int}{t u:Tok}{Q:Bool->Shared->Prop}(h:Q false s):wpAny (model prog w) A (eqBool (.str a t) (.int b u)) Q E s:=by
 unfold eqBool;refine ky ?_;show wpAny _ _ (if (Value.str a t==Value.int b u)=true then _ else _) Q E s;rw[T8 (by intro q;have:=eq_of_beq q;cases this)];refine K3 (EqMixed.eq_str_int (t:=t) (u:=u) (a:=a) (b:=b) (prog:=prog) (w:=w) ?_);exact qv h
def Ca (prog:Program) (w:World):KeyKind prog w (Int ⊕ Str) where
 is:=S6
 hash:=λk=>match k with| .inl i=>(intKind prog w).hash i| .inr x=>(strKind prog w).hash x
 inj:=λv a b ha hb=>by
  cases a<;>cases b
  ·exact rG Sum.inl ((intKind prog w).inj v _ _ ha hb)
  ·obtain⟨t,rfl⟩:=s9 ha;exact absurd hb (by simp [S6,Value.isStrOf])
  ·obtain⟨t,rfl⟩:=sK ha;exact absurd hb (by simp [S6,Value.isInt])
  ·exact rG Sum.inr ((strKind prog w).inj v _ _ ha hb)
 byValue:=λk v h=>by
  cases k
  ·exact (intKind prog w).byValue _ v h
  ·exact (strKind prog w).byValue _ v h
 pyHash:=λ{A E s k v Q} hv h=>by
  cases k
  ·exact (intKind prog w).pyHash hv h
  ·exact (strKind prog w).pyHash hv h
 eqBool:=λ{A E s a b u v Q} hu hv h=>by
  cases a<;>cases b
  ·exact (intKind prog w).eqBool hu hv (by simpa using h)
  ·obtain⟨t,rfl⟩:=s9 hu;obtain⟨u,rfl⟩:=sK hv;exact IX (by simpa using h)
  ·obtain⟨t,rfl⟩:=sK hu;obtain⟨u,rfl⟩:=s9 hv;exact IM (by simpa using h)
  ·exact (strKind prog w).eqBool hu hv (by simpa using h)
 «strs»:=λk x t v h=>by
  cases k
  ·exact (intKind prog w).strs _ x t v h
  ·exact (strKind prog w).strs _ x t v h
def CN (σ:List (Int ⊕ Str)) (k:Int ⊕ Str):List (Int ⊕ Str):=if σ.any (λx=>decide (x=k)) then σ else σ++[k]
theorem RH (σ:List (Int ⊕ Str)) (v k:Int ⊕ Str):(CN σ v).any (λx=>decide (x=k))=(σ.any (λx=>decide (x=k))||decide (k=v)):=by
 unfold CN;by_cases h:σ.any (λx=>decide (x=v))=true
 ·rw[UQ h];by_cases e:k=v
  ·subst e;rw[h];rfl
  ·rw[show decide (k=v)=false from qA e,uI]
 ·rw[T8 h,n0]
  have:decide (v=k)=decide (k=v):=decide_eq_decide.mpr ⟨Eq.symm,Eq.symm⟩
  simp only[qa,List.any_nil,uI,this]
theorem LS (σ:List (Int ⊕ Str)) (v:Int ⊕ Str):(CN σ v).length=if σ.any (λx=>decide (x=v)) then σ.length else σ.length+1:=by
 unfold CN;split<;>simp
theorem Fe:∀(ks σ:List (Int ⊕ Str)),(ks.foldl CN σ).length<=σ.length+ks.length
 |[],σ=>by simp
 |k::ks,σ=>by
  simp only[tj,KX]
  have:=Fe ks (CN σ k)
  rw[LS] at this;split at this<;>omega
variable {ks:List (Int ⊕ Str)}
section
variable {R:Result->Shared->Prop}
theorem OZ {S S':Int ⊕ Str->Bool}{n n':Nat}(hS:h.SetOf (Ca prog w) a S n) (e:∀k,S k=S' k) (en:n=n'):h.SetOf (Ca prog w) a S' n':=by
 have:S=S':=funext e
 subst this;subst en;exact hS
theorem QM {S l:Addr}(hh:A.handled=none) (hSI:S≠I) (nO:S≠l) (hlI:l≠I) (hk:∀(i:Nat) (k:Int ⊕ Str),ks[i]? =some k->∃v,items[i]? =some v/\S6 k v=true/\v.scannable=true) (hz:items.size=ks.length) (hb:ks.length+1<scanBound):
  ∀(n i:Nat) (s:Shared),ks.length-i=n->i<=ks.length->s.heap.IsListIter I l i->s.heap.IsList l items->s.heap.SetOf (Ca prog w) S (λk'=>((ks.take i).foldl CN []).any (λx=>decide (x=k'))) ((ks.take i).foldl CN []).length->
   (∀h' tk,h'.SetOf (Ca prog w) S (λk'=>(ks.foldl CN []).any (λx=>decide (x=k'))) (ks.foldl CN []).length->(∀b o,b≠S->b≠I->s.heap.get? b=some o->h'.get? b=some o)->R (.ok (.ret .none)) {s with heap:=h',toks:=tk})->
   codeAny (model prog w) A (.builtin "set.update.loop" ⟨[.ref S,.ref I],[]⟩) R s:=by
 intro n
 induction n with
 |zero=>
  intro i s hn hi hit hl hS hR;have hin:i=ks.length:=by omega
  subst hin;refine ql F.entry_set_update_loop ?_;rw[pE rP _];show wpAny _ A.in1 (pyNext (.ref I)>>=_) _ _ s;refine K3 (wpAny_pyNext_list_end hh hit hl (by simp [hz]) λh' k=>?_);show wpAny _ A.in1 (ret Value.none) _ _ _;rw[rZ] at hS;obtain⟨o,es,ep,t,ho,rest⟩:=hS;exact df (hR h' s.toks ⟨o,es,ep,t,k S o hSI ho,rest⟩ λb o hb iH e=>k b o iH e)
 |succ n ih=>
  intro i s hn hi hit hl hS hR;have hlt:i<ks.length:=by omega
  obtain⟨v,hv,hkv,hsc⟩:=hk i ks[i] (d6 hlt);refine ql F.entry_set_update_loop ?_;rw[pE rP _];show wpAny _ A.in1 (pyNext (.ref I)>>=_) _ _ s;refine K3 (tf hit hl hv λh1 jL jM=>?_);have nP:h1.SetOf (Ca prog w) S (λk'=>((ks.take i).foldl CN []).any (λx=>decide (x=k'))) ((ks.take i).foldl CN []).length:=by
   obtain⟨o,es,ep,t,ho,rest⟩:=hS;exact⟨o,es,ep,t,jM.extBut S o hSI ho,rest⟩
  show wpAny _ A.in1 (holding [v] (setAdd S v)>>=_) _ _ _;refine K3 (ky ?_);unfold setAdd;refine ky ?_;refine K3 ((Ca prog w).pyHash (k:=ks[i]) hkv ?_);have hroom:((ks.take i).foldl CN []).length+1<scanBound:=by
   have:=Fe (ks.take i) []
   simp at this;omega
  refine wpAny_setAddHashed_of (knd:=Ca prog w) (s:={s with heap:=h1,toks:=s.toks+1}) hkv hsc nP hroom λh2 jN nQ=>?_;have tk:(ks.take (i+1)).foldl CN []=CN ((ks.take i).foldl CN []) ks[i]:=by
   rw[qr,d6 hlt,qV];rfl
  have nR:h2.SetOf (Ca prog w) S (λk'=>((ks.take (i+1)).foldl CN []).any (λx=>decide (x=k'))) ((ks.take (i+1)).foldl CN []).length:=
   OZ nQ (λk'=>by rw[tk,RH]) (by rw[tk,LS])
  refine df ⟨rI rP _,ih (i+1) {s with heap:=h2,toks:=s.toks+1} ⋯ hlt (jL.extBut jN.extBut (Ne.symm hSI)) ((hl.extBut jM.extBut hlI).extBut jN.extBut (Ne.symm nO)) nR λh3 nS nU k4=>?_⟩;exact hR h3 nS nU λb o hb iH e=>k4 b o hb iH (jN.extBut b o hb (jM.extBut b o iH e))
end
set_option maxHeartbeats 3200000 in
theorem KA {l:Addr}(hh:A.handled=none) (hl:s.heap.IsList l items) (hk:∀(i:Nat) (k:Int ⊕ Str),ks[i]? =some k->∃v,items[i]? =some v/\S6 k v=true/\v.scannable=true) (hz:items.size=ks.length) (hb:ks.length+1<scanBound) (h:∀h' tk,h'.SetOf (Ca prog w) s.heap.objs.size (λk'=>(ks.foldl CN []).any (λx=>decide (x=k'))) (ks.foldl CN []).length->(∀b o,s.heap.get? b=some o->h'.get? b=some o)->Q (.ref s.heap.objs.size) {s with heap:=h',toks:=tk}):
  wpAny (model prog w) A (PySem.call (.type "set") [.ref l]) Q E s:=by
 obtain⟨c,tl,nV⟩:=F.called_set.mro;have hmade:=F.called_set.made;have hsub:=F.called_set.sub;refine sW (sD ?_);show wpAny _ _ (callAny (.type "set") _) _ _ _;refine df ⟨qj _ ⋯,ql F.entry_type_call ?_⟩;rw[Around.under_plain (weight_type_call_type "set" [.ref l] []) rfl];have h1:=F.called_set.notType;have h2:=F.called_set.canCreate;have hct:=F.typeCall_set_1 (.ref l)
 repeat (any_goals (first|assumption|wp_step))
 refine sL (code_set_new_1 (.ref l) (E:=E) (Q₁:=λobj s₁=>∃led:Bool,obj= .ref s.heap.objs.size/\s₁={s with heap:=s.heap.push {cls:=.type "set",dict:=none,data:=.set #[] 0 (.fresh 0 0 led)}}) λled=>⟨led,rfl,rfl⟩) λr s₁ hr=>?_;rcases r with e|(obj|_|_|_)<;>first|exact hr|exact hr.elim|skip
 obtain⟨led,rfl,rfl⟩:=hr;have hS:=eQ s.heap (o:={cls:=.type "set",dict:=none,data:=.set #[] 0 (.fresh 0 0 led)}) rfl;have hT:Shared.TypeIs {s with heap:=s.heap.push {cls:=.type "set",dict:=none,data:=.set #[] 0 (.fresh 0 0 led)}} (.ref s.heap.objs.size) "set":=⟨_,hS,rfl⟩;have hli:=F.called_set.init.lookup;have hbi:=F.called_set.init.bind (.ref s.heap.objs.size)
 repeat (any_goals (first|assumption|wp_step))
 refine sL (q5 (R:=wants (λr s₂=>r= .none/\∃h' tk,s₂={s with heap:=h',toks:=tk}/\
   h'.SetOf (Ca prog w) s.heap.objs.size (λk'=>(ks.foldl CN []).any (λx=>decide (x=k'))) (ks.foldl CN []).length/\(∀b o,s.heap.get? b=some o->h'.get? b=some o)) E) F.called_set.init.plain F.entry_set_init (check_set_init_1 hT ?_)) λr₂ s₂ jO=>?_
 ·obtain⟨⟨c0,d0,t0,s0⟩,f7,hcl,nl,hdl⟩:=hl;simp only at hcl hdl;subst hcl hdl;have jP:(s.heap.push {cls:=.type "set",dict:=none,data:=.set #[] 0 (.fresh 0 0 led)}).get? l=some {cls:=.type "list",dict:=d0,data:=.seq items nl,slots:=s0}:=du _ f7;have nW:=F.sub_list_set;have nX:=F.sub_list_frozenset;have hne:(Value.type "list"==Value.type "dict")=false:=by decide
  have hl1:(s.heap.push {cls:=.type "set",dict:=none,data:=.set #[] 0 (.fresh 0 0 led)}).IsList l items:=⟨_,jP,rfl,nl,rfl⟩;unfold Builtin.«set.__init__» noKeywords Builtin.Frozenset.updateFrom;generalize nZ:pyIter=PI
  wp_walk
  subst nZ;refine wpAny_pyIter_list hl1 ?_;refine K3 (wpAny_runValue ?_);have hlS:l<s.heap.objs.size:=qJ f7;have hz1:(s.heap.push {cls:=.type "set",dict:=none,data:=.set #[] 0 (.fresh 0 0 led)}).objs.size=s.heap.objs.size+1:=sQ ..;have ny:A.in1.in1.handled=none:=by simp [hh]
  have n1:s.heap.objs.size≠(s.heap.push {cls:=.type "set",dict:=none,data:=.set #[] 0 (.fresh 0 0 led)}).objs.size:=by rw[hz1];exact qZ (qP _)
  have n2:l≠(s.heap.push {cls:=.type "set",dict:=none,data:=.set #[] 0 (.fresh 0 0 led)}).objs.size:=by rw[hz1];exact qZ (qs hlS)
  refine QM ny n1 (Nat.ne_of_gt hlS) n2 hk hz hb (ks.length-0) 0 _ ⋯ (el _) ?_ ?_ ?_ λh' tk hS' k'=>?_
  ·exact⟨_,eQ _ rfl,rfl,rfl⟩
  ·exact hl1.push _
  ·have hget:=du (h:=s.heap.push {cls:=.type "set",dict:=none,data:=.set #[] 0 (.fresh 0 0 led)}) {cls:=.type "list_iterator",data:=.fields #[.ref l,.int 0 0]} hS;exact⟨_,#[],0,_,hget,⟨rfl,rfl,rfl⟩,rfl,λe he=>by simp at he,λk=>by simp,by unfold scanBound;decide,rfl,rfl⟩
  ·refine df ?_;show wpAny _ _ (ret Value.none) _ _ _;refine df ⟨rfl,h',tk,rfl,hS',λb o e=>?_⟩;have hb0:=qJ e;exact k' b o (qZ hb0) (by rw[hz1];exact qZ (qs hb0)) (du _ (du _ e))
 ·rcases r₂ with e|(r|_|_|_)<;>first|exact jO|exact jO.elim|skip
  obtain⟨rfl,h',tk,rfl,hS',hk'⟩:=jO
  repeat (any_goals (first|assumption|wp_step))
  exact h _ _ hS' hk'
def keyOf:V->Int ⊕ Str
 | .int i=>.inl i
 | .str x=>.inr x
 |_=>.inl 0
theorem Qb {a b:V}(ha:isKey a=true) (hb:isKey b=true):Cd a b=decide (keyOf a=keyOf b):=by
 cases a<;>cases b<;>first|(simp [isKey] at ha;done)|(simp [isKey] at hb;done)|skip
 ·rename_i i j;show (i==j)=decide ((Sum.inl i:Int ⊕ Str)=Sum.inl j);by_cases h:i=j
  ·subst h;simp
  ·rw[qA (λq=>h (by cases q;rfl))];simp [h]
 ·exact (qA nofun).symm
 ·exact (qA nofun).symm
 ·rename_i i j;show (i==j)=decide ((Sum.inr i:Int ⊕ Str)=Sum.inr j);by_cases h:i=j
  ·subst h;simp
  ·rw[qA (λq=>h (by cases q;rfl))];simp [h]
theorem N3 {σ:List V}{a:V}(hσ:σ.all isKey=true) (ha:isKey a=true):(σ.any λy=>Cd y a)=(σ.map keyOf).any (λx=>decide (x=keyOf a)):=by
 induction σ with
 |nil=>rfl
 |cons b σ ih=>
  simp only[rH,dv] at hσ;simp only[qa,ij,ih hσ.2,Qb hσ.1 ha]
theorem Kc:∀{l σ:List V},l.all isKey=true->σ.all isKey=true->(l.foldl DG σ).map keyOf=(l.map keyOf).foldl CN (σ.map keyOf)
 |[],σ,_,_=>rfl
 |a::l,σ,hl,hσ=>by
  simp only[rH,dv] at hl;simp only[tj,ij];have e:=N3 hσ hl.1;by_cases c:(σ.any λy=>Cd y a)=true
  ·rw[show DG σ a=σ by unfold DG;rw[UQ c],show CN (σ.map keyOf) (keyOf a)=σ.map keyOf by unfold CN;rw[UQ (e▸c)]];exact Kc hl.2 hσ
  ·rw[show DG σ a=σ++[a] by unfold DG;rw[T8 c],show CN (σ.map keyOf) (keyOf a)=(σ++[a]).map keyOf by unfold CN;rw[T8 (e▸c)];simp];exact Kc hl.2 (by simp [hσ,hl.1])
theorem distinct_keys {l:List V}(h:l.all isKey=true):distinct l=((l.map keyOf).foldl CN []).length:=by
 rw[←show ([]:List V).map keyOf=[] from rfl,←Kc h rfl,eP];rfl
theorem Pn (hv:isKey v=true) (r:VR g ρ h v x):S6 (keyOf v) x=true/\x.scannable=true:=by
 cases v<;>first|(simp [isKey] at hv;done)|skip
 ·unfold VR at r;obtain⟨t,rfl⟩:=r;exact⟨by simp [S6,keyOf,Value.isInt],rfl⟩
 ·unfold VR at r;obtain⟨t,rfl⟩:=r;exact⟨by simp [S6,keyOf,Value.isStrOf],rfl⟩
theorem setOk (g:Gd):ES g:=by
 intro f ρ s H loc vs xs G hh hu Q r ns;have dM:∀{P:Prop},((Res.stuck:Res V).out loc=Out.stuck->False)->P:=λh=>(h rfl).elim;unfold Ap at ns ⊢;split at ns
 all_goals (try dsimp only)
 case h_7=>
  rename_i p0;unfold Aa at r;obtain⟨x,t,rfl,h1,h2⟩:=r;unfold Aa at h2;subst h2;unfold VR at h1;obtain⟨p,hp,rfl⟩:=h1;split at ns
  ·rename_i l hl
   try rw[hl]
   obtain⟨p',dN,e0,it,m,h1,hv,hz⟩:=Q.hr.rep.get hl;rw[hp] at dN;cases dN
   try dsimp only
   rw[T8 ⋯,T8 ⋯,UQ rfl] at ns ⊢;split at ns
   ·rename_i hc;rw[UQ hc];simp only[dv,ip] at hc;refine AL (KA (ks:=l.map keyOf) hh ⟨_,h1,rfl,m,rfl⟩ ?_ ?_ ?_ λh' tk hS kp=>?_)
    ·intro i k hk;rw[fw] at hk;obtain⟨v,hv',rfl⟩:=dy.mp hk;obtain⟨x,hx,rx⟩:=D2 hv hv';exact⟨x,by rw[←qo];exact hx,Pn (jU.mp hc.1 v (mn hv')) rx⟩
    ·have:=At hv
     rw[hV] at this;rw[this,eP]
    ·rw[eP];unfold scanBound;omega
    ·refine CS Q kp ?_;unfold BE VR;obtain⟨o,es,ep,t,k1,k2,k3,k4,k5,k6,k7,k8⟩:=hS;refine⟨_,o,es,ep,t,rfl,k1,k2,k3,?_,k7,k2.1,?_⟩
     ·rw[k8,distinct_keys hc.1]
     ·rw[distinct_keys hc.1]
      have:=Fe (l.map keyOf) []
      rw[eP] at this;unfold lid;simp at this;omega
   ·exact dM ns
  ·exact dM ns
  ·exact dM ns
  ·exact dM ns
 all_goals (try simp only[String.reduceEq,reduceIte,false_and] at ns)
 all_goals exact dM ns
def Ei (K:Frag) (C:Addr):Bool:=match K.lookup C with
 |some ⟨_,_,.cls cd,sl⟩=> !cd.abstract&& !cd.hasDel&&(sl.toList[4]?).join==some (.builtin "ValueError.__new__")&& !cd.mro.isEmpty&&cd.mro.contains (.ref C)&&cd.mro.contains (.type "ValueError")&& !cd.mro.contains (.type "AttributeError")&& !cd.mro.contains (.type "NameError")&&
   specialIn K (.ref C) "__call__"==some (some (.builtin "type.__call__"))&&instIn K (.ref C) (.type "type")==some true
 |_=>false
structure Ec (M:Model) (h:Heap) (C:Addr):Prop where
 obj:∃oc od cd sl,h.get? C=some ⟨oc,od,.cls cd,sl⟩/\cd.abstract=false/\cd.hasDel=false/\cd.mro.isEmpty=false
 made:Looks M h (Bind.madeBy (.ref C)) (some "ValueError.__new__")
 base:Looks M h (Bind.staticBase (.ref C)) (.ref C)
 self:Looks M h (isSubtype (.ref C) (.ref C)) true
 top:Looks M h (isSubtype (.ref C) (.type "ValueError")) true
 jQ:Looks M h (isSubtype (.ref C) (.type "AttributeError")) false
 jR:Looks M h (isSubtype (.ref C) (.type "NameError")) false
 call:Looks M h (specialOf (.ref C) "__call__") (some (.builtin "type.__call__"))
 typ:Looks M h (isInstance (.ref C) (.type "type")) true
theorem Ec.keeps {M:Model}{h h':Heap}{C:Addr}(Y:Ec M h C) (k:∀b o,h.get? b=some o->h'.get? b=some o):Ec M h' C:=by
 obtain⟨⟨oc,od,cd,sl,h1,h2⟩,a,b,c,d,e,f,i,j⟩:=Y;exact⟨⟨oc,od,cd,sl,k _ _ h1,h2⟩,a.keeps k,b.keeps k,c.keeps k,d.keeps k,e.keeps k,f.keeps k,i.keeps k,j.keeps k⟩
theorem Ja {K:Frag}(X:K.In h) (e:Ei K C=true):Ec M h C:=by
 unfold Ei at e;split at e
 ·rename_i oc od cd sl ho;simp only[dv,mI,ke] at e;obtain⟨⟨⟨⟨⟨⟨⟨⟨⟨e1,e2⟩,e3⟩,e4⟩,e5⟩,e6⟩,n6⟩,n7⟩,e7⟩,e8⟩:=e;have hc:clsIn K C=some cd:=by unfold clsIn;rw[ho]
  have hm:Looks M h (mroOf (.ref C)) cd.mro:=(uB X hc).andThen .now;obtain⟨c,l,hl⟩:∃c l,cd.mro=c::l:=by cases q:cd.mro with|nil=>rw [q] at e4;cases e4|cons c l=>exact ⟨c,l,rfl⟩
  have made:Looks M h (Bind.madeBy (.ref C)) (some "ValueError.__new__"):=by
   intro A Q E s k q;unfold Bind.madeBy;refine K3 (hm A _ E s k ?_);rw[hl,qC];refine K3 (K3 (K3 (K3 (rS (k _ _ (X _ _ ho)) (df ?_)))));dsimp only;rw[←qo,e3];exact df (df (df q))
  have sub:∀{T:Value}{b:Bool},cd.mro.contains T=b->mroIn K C T=some b:=λ{T b} e=>by
   unfold mroIn;rw[hc,qQ,T8 (by rw[e4];decide),e]
  refine⟨⟨oc,od,cd,sl,X _ _ ho,e1,e2,e4⟩,made,?_,tA X (sub e5),tA X (sub e6),tA X (sub n6),tA X (sub n7),looks_specialIn X e7,looks_instIn X e8⟩
  ·intro A Q E s k q;unfold Bind.staticBase;refine K3 (hm A _ E s k ?_);rw[hl,qC];exact K3 (K3 (K3 (made A _ E s k (df (df (df q))))))
 ·cases e
abbrev CI (rest:List Value):Obj:={cls:=.type "tuple",data:=.seq rest.toArray}
abbrev CX (C t:Addr):Obj:={cls:=.ref C,data:=.fields #[.ref t,.none,.none,.none,.bool false,.none]}
variable {rest:List Value}{sl:Array (Option Value)}
section
variable {R:Result->Shared->Prop}{g:Array GenState}{d:Drawn}{t:Nat}{os:OsState}
theorem YO (Y:Ec (model prog w) h C) (hq:R (.ok (.ret (.ref (h.objs.size+1)))) ⟨(h.push (CI rest)).push (CX C h.objs.size),g,d,t,os⟩) (hrest:rest.length<=sizeLine):
  codeAny (model prog w) A (.call (.builtin "ValueError.__new__") ⟨.ref C::rest,[]⟩) R ⟨h,g,d,t,os⟩:=by
 have F:=sZ;obtain⟨⟨oc,od,cd,sl,hC,e1,e2,e4⟩,made,base,self,top,jQ,jR,call,typ⟩:=Y;have hstar:=F.noStar;have kH:=F.ends;refine codeAny_call_builtin_code (qj _ F.quiet) ?_;simp only[checkBuiltinCall,F.newKind,F.newSplit,F.newRow]
 repeat (first|simp only[bne_self_eq_false,jp,qM]|lk)
 refine codeAny_builtinAt F.entry ?_;unfold Builtin.«BaseException.__new__»;refine PySem.wpAt_bind ?_;show PySem.wpAt _ _ _ (stack>>=_) _ _ _;refine PySem.wpAt_bind (PySem.wpAt_stack λp below=>uG ?_)
 wp_walk
 refine uG ?_;rw[F.owner];have here:Looks (model prog w) h (Bind.madeHere "BaseException.__new__" (.ref C)) ():=base.andThen (made.andThen (uJ (by simp only[tp,F.canon,bne_self_eq_false,jp,qM])));have own:Looks (model prog w) h (do
   if←isSubtype (.ref C) (.type "AttributeError") then return 2
   if←isSubtype (.ref C) (.type "NameError") then return 1
   return 0:Sem Nat) 0:=jQ.andThen (jR.andThen .now)
 dsimp only;refine K3 (m:=isType _) ((show Looks (model prog w) h (isType (.ref C)) true from (q6 (part:=none) hC).andThen .now).at ?_);simp only[qm,jp,qM];refine K3 (top.at ?_);rw[T8 ⋯];refine K3 (here.at (K3 (own.at ?_)));unfold newTuple;refine K3 (qw (K3 ?_) (by show rest.toArray.size<=sizeLine;rw[sm];exact hrest));unfold newObj newObjAsIs classHasDel;refine K3 (s6 (K3 (K3 (rN (du _ (du _ hC)) (df ?_)))));rw[e2];refine df (df ?_);show R _ _;rw[sQ];exact hq
theorem Wt {init:Value}(Y:Ec (model prog w) h C) (hi:Looks (model prog w) h (typeLookup (.ref C) "__init__") (some init)) (hb:∀self,Looks (model prog w) h (bindSpecial init self) (init,[self])) (hrest:rest.length<=sizeLine) (hq:codeAny (model prog w) (A.under (.builtin "type.__call__" ⟨.ref C::rest,[]⟩)) (.call init ⟨.ref (h.objs.size+1)::rest,[]⟩) (InitBack (h.objs.size+1) R) ⟨(h.push (CI rest)).push (CX C h.objs.size),g,d,t,os⟩):
  codeAny (model prog w) A (.call (.ref C) ⟨rest,[]⟩) R ⟨h,g,d,t,os⟩:=by
 have Y':=Y;obtain⟨⟨oc,od,cd,sl,hC,e1,e2,e4⟩,made,base,self,top,jQ,jR,call,typ⟩:=Y;refine sD ?_;show wpAny _ _ (callAny (.ref C) _) _ _ _;refine nd_load hC ?_;show wpAny _ _ (callAny.viaDunder (.ref C) _) _ _ _;unfold callAny.viaDunder;refine K3 (call.at ?_);dsimp only;rw[tc_bind];refine K3 (df (K3 (df ?_)));refine df (a:=Fin.again (.call (.builtin "type.__call__") ⟨.ref C::rest,[]⟩)) (And.intro rfl ?_);refine codeAny_call_builtin_at (qj _ ⋯) entry_typeCall (check_slot tc_kind tc_split typ (tc_args _ _ _) ?_);unfold Builtin.«type.__call__»;have hm:Looks (model prog w) h (mroOf (.ref C)) cd.mro:=((q6 (part:=none) hC).andThen .now).andThen .now
 repeat (first|simp only[e4,jp,qM]|with_reducible refine sW ?_|lk)
 refine YO Y' ?_ hrest;have k:∀b o,h.get? b=some o->((h.push (CI rest)).push (CX C h.objs.size)).get? b=some o:=λb o e=>du _ (du _ e);have hx:((h.push (CI rest)).push (CX C h.objs.size)).get? (h.objs.size+1)=some (CX C h.objs.size):=by heap_get
 have t1:Looks (model prog w) ((h.push (CI rest)).push (CX C h.objs.size)) (typeOf (.ref (h.objs.size+1))) (.ref C):=(q6 hx).andThen .now;have s1:=self.keeps k;have i1:=hi.keeps k;have b1:=(hb (.ref (h.objs.size+1))).keeps k;unfold isInstance callSpecial? specialOf
 repeat (first|with_reducible refine sW ?_|lk)
 refine sL hq λr s' z=>?_;rcases r with e|(v|_|_|_)<;>first|exact z|exact z.elim|skip
 obtain⟨rfl,z⟩:=z;exact df (df z)
theorem XZ {e t0:Addr}{od:Option Addr}(Y:Ec (model prog w) h C) (he:h.get? e=some ⟨.ref C,od,.fields #[.ref t0,.none,.none,.none,.bool false,.none],sl⟩) (hrest:rest.length<=sizeLine) (hq:Q .none ⟨(h.push (CI rest)).update e (Obj.mapFields (·.setIfInBounds 0 (.ref h.objs.size))),g,d,t,os⟩):
  wpAny (model prog w) A (PySem.call (.builtin "ValueError.__init__") (.ref e::rest)) Q E ⟨h,g,d,t,os⟩:=by
 have F:=sZ;have fj:=F.noStar;have inst:Looks (model prog w) h (isInstance (.ref e) (.type "ValueError")) true:=((q6 he).andThen .now).andThen Y.top;have typ:Looks (model prog w) h (typeOf (.ref e)) (.ref C):=(q6 he).andThen .now;obtain⟨oc,pX,cd,slc,hC,_⟩:=Y.obj;refine sW (q5 F.init.plain F.initEntry ?_);simp only[checkBuiltinCall,F.initKind,F.initSplit,F.initRow];have pr:∃nm,Looks (model prog w) h (Bind.printed "*" true ⟨.positional,"*","ValueError",.self,[⟨"args",.varPos,false⟩]⟩ (some (.ref e))) nm:=by
  refine⟨cd.name.toString,?_⟩;unfold Bind.printed Bind.receiverType;rw[T8 ⋯];dsimp only;rw[T8 ⋯];exact typ.andThen ((Looks.andThen (show Looks (model prog w) h (typeNameWhole (.ref C)) cd.name.toString from Looks.andThen (show Looks (model prog w) h (classData C) cd from (q6 (part:=none) hC).andThen .now) .now)) .now)
 obtain⟨nm,pr⟩:=pr;refine K3 (inst.at ?_);simp only[qm,jp,qM];unfold Bind.checkArgs;dsimp only;refine K3 (m:=Bind.printed "*" true _ _) (pr.at ?_);refine K3 (m:=Bind.printed "ValueError" false _ _) (printed_name fj ?_);show wpAny _ _ (Sem.onRaise (Bind.check _ nm "ValueError" _ []) _) _ _ _;rw[check_varPos];refine df ?_;unfold Builtin.«BaseException.__init__»;dsimp only;rw[T8 (by simp)];unfold newTuple Builtin.BaseException.bexcPut;have kI:=du (h:=h) (CI rest) he;refine K3 (qw (K3 (K3 (qW kI rfl rfl (K3 (wpAny_setField kI rfl (Nat.zero_lt_succ _) ?_))))) (by show rest.toArray.size<=sizeLine;rw[sm];exact hrest));exact wpAny_letGo (df hq)
end
def IL:List Value->Bool
 |[.ref _,.ref _,.type a,.type b,.type c,.type d]=>a=="ValueError"&&b=="Exception"&&c=="BaseException"&&d=="object"
 |_=>false
variable {l:List Value}
theorem Ie (e:IL l=true):∃a b,l=[.ref a,.ref b,.type "ValueError",.type "Exception",.type "BaseException",.type "object"]:=by
 unfold IL at e;split at e
 ·rename_i x y a b c d;simp only[dv,ke] at e;obtain⟨⟨⟨rfl,rfl⟩,rfl⟩,rfl⟩:=e;exact⟨x,y,rfl⟩
 ·cases e
theorem Oh (self:Value) (e:IL l=true):refuseLoop self "__setattr__" l=pure ():=by
 obtain⟨a,b,rfl⟩:=Ie e;rw[refuseLoop_ref,refuseLoop_ref];exact PySem.F.store_ValueError.passes self
theorem Uk (e:IL l=true):l.contains (.type "object")=true:=by
 obtain⟨a,b,rfl⟩:=Ie e
 simp
def Et (K:Frag) (C:Addr):Bool:=(clsIn K C).any λcd=>IL cd.mro&&cd.hasDict
section
variable {K:Frag}{x:Addr}{R:Result->Shared->Prop}{g:Array GenState}{d:Drawn}{t:Nat}{os:OsState}
theorem YV {vs:Array Value}{name:Str}{tk:Tok}{v:Value}(X:K.In h) (hx:h.get? a=some ⟨.ref C,none,.fields vs,sl⟩) (hp:Et K C=true) (ht:findIn K (.ref C) name=some none) (hq:∀h' k,h'.get? a=some ⟨.ref C,some h.objs.size,.fields vs,sl⟩->(∀b o,b≠a->h.get? b=some o->h'.get? b=some o)->R (.ok (.ret .none)) ⟨h',g,d,k,os⟩):
  codeAny (model prog w) A (.call (.builtin "object.__setattr__") ⟨[.ref a,.str name tk,v],[]⟩) R ⟨h,g,d,t,os⟩:=by
 have SF:=PySem.F.store_object;obtain⟨cd,hc,ho⟩:=any_some hp;rw[dv] at ho;obtain⟨ho,hd'⟩:=ho;have ne:cd.mro.isEmpty=false:=by cases q:cd.mro with|nil=>rw [q] at ho;cases ho|cons _ _=>rfl
 have typ:Looks (model prog w) h (typeOf (.ref a)) (.ref C):=(q6 hx).andThen .now;have sub:Looks (model prog w) h (isInstance (.ref a) (.type "object")) true:=typ.andThen (tA X (by unfold mroIn;rw[hc,qQ,T8 (by rw[ne];decide),Uk ho]));refine q5 SF.slot.plain SF.entry (@check_slot (model prog w) _ _ ⟨h,g,d,t,os⟩ "object.__setattr__" "object" "__setattr__" (.ref a) [.str name tk,v] [] _ SF.kind SF.split sub (SF.args (.ref a) (.str name tk) v) ?_);have hm:Looks (model prog w) h (mroOf (.ref C)) cd.mro:=(uB X hc).andThen .now;rw[osa_eq,refuse_eq];refine K3 (K3 (typ.at (K3 (hm.at ?_))));rw[Oh _ ho];refine df (K3 (typ.at (K3 ((te X ht).at (K3 (df ?_))))));show wpAny _ _ (storeInOwnDict (.ref a) (.ref C) (.str name tk) name v false) _ _ _;refine K3 (df (K3 (K3 (rS hx (K3 ((uB X hc).at ?_))))));rw[hd'];rw[T8 ⋯];dsimp only;rw[T8 (by simp [typeHasDict])];have has:a≠h.objs.size:=qZ (qJ hx);have kK:=du emptyDict hx;refine K3 (wpAny_alloc' ?_);refine K3 (wpAny_update' kK ?_);refine df ?_;have hgd:((h.push emptyDict).update a λo=>{cls:=o.cls,dict:=some h.objs.size,data:=o.data,slots:=o.slots}).get? h.objs.size=some emptyDict:=
  (Heap.get?_update_ne _ _ _ _ has.symm).trans (Heap.get?_push_at rfl rfl)
 have hnd:((h.push emptyDict).update a λo=>{cls:=o.cls,dict:=some h.objs.size,data:=o.data,slots:=o.slots}).Ns h.objs.size (λ_=>none):=
  ⟨_,#[],_,hgd,rfl,λe he=>absurd he (by simp),λ_=>rfl⟩
 show wpAny _ _ (storeInDict h.objs.size (.str name tk) name v) _ _ _;unfold storeInDict newKeyGuard;refine K3 (df (K3 (wpAny_nsSet1 (Heap.Ns1.of_empty hnd) λh' hn' hs=>?_)));obtain⟨oD,esD,pY,n8,n9,oA⟩:=hn'.count (Within.cons name v Within.nil);refine K3 (tM n8 (by rw[n9];exact pastItsLine_dict (lv oA (by rw[KX,Ti,il];omega))) ?_);refine df ?_;refine hq h' _ ?_ λb o hb e=>?_
 ·exact (hs.2 a has).trans (lx _ kK rfl)
 ·exact (hs.2 b (qZ (qJ e))).trans ((Heap.get?_update_ne _ _ _ _ hb).trans (du _ e))
theorem Xx {vs:Array Value}{name:Str}{v:Value}{Q:Unit->Shared->Prop}(X:K.In h) (hx:h.get? a=some ⟨.ref C,none,.fields vs,sl⟩) (hp:Et K C=true) (ht:findIn K (.ref C) name=some none) (hs:findIn K (.ref C) "__setattr__"=some (some (.builtin "object.__setattr__"))) (hq:∀h' k,h'.get? a=some ⟨.ref C,some h.objs.size,.fields vs,sl⟩->(∀b o,b≠a->h.get? b=some o->h'.get? b=some o)->Q () ⟨h',g,d,k,os⟩):
  wpAny (model prog w) A (setAttr (.ref a) name v) Q E ⟨h,g,d,t,os⟩:=
 set_plain (od:=none) X ⟨hx,rfl,rfl,trivial⟩ hs (YV X hx hp ht hq)
end
section
variable {K:Frag}{x:Addr}{R:Result->Shared->Prop}
theorem Rn:findCls K (.type "ValueError") (.type "type") "__init__"=some (.val (.builtin "ValueError.__init__")):=by kernel_rfl
theorem SX {Q:Value×List Value->Shared->Prop}(X:K.In s.heap) (h:∀k,Q (.builtin "ValueError.__init__",[]) {s with toks:=k}):wpAny (model prog w) A (getMethod (.type "ValueError") "__init__" pl) Q E s:=by
 have gj:opaqueClassAbove (.type "ValueError")=pure none:=by unfold opaqueClassAbove;dsimp only;rw[show Manifest.isStub "ValueError"=false by decide+kernel];rfl
 have L0:Looks (model prog w) s.heap (typeOf (.type "ValueError")) (.type "type"):=uJ (by kernel_rfl);have hg:findIn K (.type "type") "__getattribute__"=some (some (.builtin "type.__getattribute__")):=type_tga;unfold getMethod specialOf;refine K3 (K3 (L0.here ((te X hg).here ?_)));dsimp only;rw[UQ canon_tga];refine K3 (jV (Q:=λv=>Q (v,[])) (E:=E) ?_ (λ_ _ z=>df z) λ_ _ z=>z);have LO:Looks (model prog w) s.heap (opaqueClassAbove (.type "ValueError")) none:=uJ gj;refine cls_open X LO L0 hg (looks_hook X (r:=none) (by rfl)) (by show subIn K _ _=_;rfl) Rn
  (df (by show wpAny _ _ (handedOut _) _ _ _;rw[handedOut_of ⋯];exact df (h _)))
end
structure Ww (g:Gd) (env:Env) (L:Addr):Prop where
 kind:env.scope.kind= .function
 loc:env.locals=L
 n1:env.kindOf "self"=some .local
 n2:env.kindOf "reason"=some .local
 n3:env.kindOf "ValueError"=some .globalImplicit
 glob:env.globals=mainGlobals
 bi:env.builtins=builtinsNs
theorem Vf {e t0:Addr}{m:Str->Option Value}{p1 p2 p3 p4 p5 p6 p7 p8 p9 fK:Pos}{Q:Flow->Shared->Prop}(V:Ww g env L) (X:g.K.In s.heap) (Y:Ec g.M s.heap C) (hp:Et g.K C=true) (ht:findIn g.K (.ref C) "reason"=some none) (hs:findIn g.K (.ref C) "__setattr__"=some (some (.builtin "object.__setattr__"))) (oB:∃mg mb,s.heap.Ns mainGlobals mg/\s.heap.Ns builtinsNs mb/\mg "ValueError"=none/\mb "ValueError"=some (.type "ValueError")) (hn:s.heap.Ns L m) (h1:m "self"=some (.ref e)) (h2:m "reason"=some y) (he:s.heap.get? e=some (CX C t0)) (heL:e≠L) (hK:g.K.lookup e=none) (hline:(p2.endLine==p5.line)=true) (hq:∀h' k sl dx t1,h'.get? e=some ⟨.ref C,some dx,.fields #[.ref t1,.none,.none,.none,.bool false,.none],sl⟩->(∀b o,b≠e->s.heap.get? b=some o->h'.get? b=some o)->Q .next {s with heap:=h',toks:=k}):
  wpAny g.M A (execs [.Expr (.Call (.Attribute (.Name "ValueError" p1) "__init__" p2) [.Name "self" p3,.Name "reason" p4] [] p5) p6,.Assign [.Attribute (.Name "self" p7) "reason" p8] (.Name "reason" p9) fK] env) Q E s:=by
 obtain⟨mg,mb,g1,g2,g3,g4⟩:=oB;obtain⟨h,gg,d,t,os⟩:=s;dsimp only at X Y g1 g2 hn he hq;have hint:interactive env=false:=by unfold interactive;rw[V.kind];rfl
 rw[execs_cons];refine K3 ?_;rw[exec_Expr _ _ _ hint rfl];refine K3 (rJ (K3 ?_));show wpAny g.M A (do
  let ov←attributeBase (.Name "ValueError" p1) "__init__" env (eval (.Name "ValueError" p1) env)
  standAt p2.atName
  methodCall (.Name "ValueError" p1) "__init__" p2 p5 env ov (2+0) (backTo p5 (starEach [.Name "self" p3,.Name "reason" p4] env)) []) _ _ _
 rw[Fh rfl];have d1:(("ValueError":Str)==("__debug__":Str))=false:=by decide
 refine K3 (Name_function_global V.kind V.n3 (loadGlobal_builtin (V.glob▸g1) g3 (V.bi▸g2) g4 ?_) d1);refine K3 (rJ ?_);unfold methodCall calleeOf methodCallPos;have eu:methodCallForm (2+0) (backTo p5 (starEach [.Name "self" p3,.Name "reason" p4] env)) []=true:=by rfl
 simp only[eu,hline,qT,qm,Bool.or_true];refine K3 (ky (SX X λk=>?_));refine K3 (df ?_);dsimp only;have dn:∀x:Str,x="self"∨x="reason"->(x==("__debug__":Str))=false:=λx hx=>by rcases hx with rfl|rfl<;>decide
 refine callWith_of (P:=λhh=>hh=h) (by rfl) (λhh e=>D6 (λa e=>by cases e) hh) (evalArgs_plain (spliced_more (rh (qX (m:=m) V.kind V.n1 (V.loc▸hn) h1 ?_) (dn _ (.inl rfl))) (by rfl)));refine spliced_more (rh (qX (m:=m) V.kind V.n2 (V.loc▸hn) h2 ?_) (dn _ (.inr rfl))) (by rfl);refine spliced_none ⟨rfl,?_⟩;refine XZ Y he (by size_fits) ?_;refine wpAny_dropValue ?_;have oE:=du (CI [y]) he;have ge:=lx (Obj.mapFields (·.setIfInBounds 0 (.ref h.objs.size))) oE (by rfl);have kp:∀b o,b≠e->h.get? b=some o->((h.push (CI [y])).update e (Obj.mapFields (·.setIfInBounds 0 (.ref h.objs.size)))).get? b=some o:=λb o hb q=>by
  rw[lw _ _ (Ne.symm hb)];exact du _ q
 generalize (h.push (CI [y])).update e (Obj.mapFields (·.setIfInBounds 0 (.ref h.objs.size)))=hh at ge kp ⊢;have hn':hh.Ns L m:=by
  obtain⟨o,es,ep,q1,q2⟩:=hn;exact⟨o,es,ep,kp L o (Ne.symm heL) q1,q2⟩
 have X':g.K.In hh:=λb o q=>kp b o (λz=>by rw[z,hK] at q;cases q) (X b o q);dsimp only;rw[execs_cons];refine K3 ?_;rw[exec_Assign];refine K3 (rJ (K3 (kS (a:=false) (by rfl) ?_)));rw[T8 ⋯];refine K3 (rh (qX (m:=m) V.kind V.n2 (V.loc▸hn') h2 ?_) (dn _ (.inr rfl)));refine K3 (kS (a:=none) (by rfl) ?_);show wpAny _ _ (do assignAll y [assign (.Attribute (.Name "self" p7) "reason" p8) env];pure Flow.next) _ _ _;refine K3 ?_;show wpAny _ _ (do
  let ov←holding [y] (eval (.Name "self" p7) env)
  standAt p8.atName
  holding [y,ov] (setAttr ov "reason" y)
  PySem.release [y,ov] []) _ _ _
 refine K3 (ky (rh (qX (m:=m) V.kind V.n1 (V.loc▸hn') h1 ?_) (dn _ (.inl rfl))));refine K3 (rJ (K3 (ky (Xx (C:=C) X' ge hp ht hs λh2 k2 oF gk=>?_))));refine wpAny_release' (df (df ?_));exact hq h2 k2 _ _ _ oF λb o hb q=>gk b o hb (kp b o hb q)
structure XG (g:Gd):Prop where
 cls:∀c,An c=true->Ei g.K (g.ca c)=true/\Et g.K (g.ca c)=true/\findIn g.K (.ref (g.ca c)) "reason"=some none/\findIn g.K (.ref (g.ca c)) "__setattr__"=some (some (.builtin "object.__setattr__"))
 ini:∃fI o fo p1 p2 p3 p4 p5 p6 p7 p8 p9 fK as ds D,g.base.get? fI=some o/\o.data= .func fo/\typeIn g.K (.ref fI)=some (.type "function")/\(∀c,An c=true->findIn g.K (.ref (g.ca c)) "__init__"=some (some (.ref fI)))/\
  fo.params=⟨[],as,none,[],[],none,ds⟩/\as.map (·.arg)=[("self":Str),("reason":Str)]/\
  fo.body= .stmts [.Expr (.Call (.Attribute (.Name "ValueError" p1) "__init__" p2) [.Name "self" p3,.Name "reason" p4] [] p5) p6,.Assign [.Attribute (.Name "self" p7) "reason" p8] (.Name "reason" p9) fK]/\(p2.endLine==p5.line)=true/\
  BH fo.scope=true/\fo.scope.names.lookup ("self":Str)=some NameKind.local/\fo.scope.names.lookup ("reason":Str)=some NameKind.local/\fo.scope.names.lookup ("ValueError":Str)=some NameKind.globalImplicit/\(fo.scope.names.all λp=>p.2 != .cell)=true/\
  fo.globals=mainGlobals/\fo.builtins=builtinsNs/\fo.closure=[]/\g.base.CodeRec fo.code fo.qualname/\
  D.length<=2/\((fo.defaults= .none/\D=[])∨∃T o n,fo.defaults= .ref T/\g.base.get? T=some o/\o.data= .seq D.toArray n)
 ve:∃mg mb,g.base.Ns mainGlobals mg/\g.base.Ns builtinsNs mb/\mg "ValueError"=none/\mb "ValueError"=some (.type "ValueError")
theorem T4 (GE:XG g):Mi g:=by
 intro f ρ s H loc c x y G fk Q ry hc _;obtain⟨kL,oG,oH,oJ⟩:=GE.cls c hc;obtain⟨fI,o,fo,p1,p2,p3,p4,p5,p6,p7,p8,p9,fK,as,ds,D,h1,h2,h3,h4,h5,h6,h7,h8,h9,oK,h11,h12,dh,dz,oM,oN,oO,pZ,oQ⟩:=GE.ini;obtain⟨mg,mb,v1,v2,v3,v4⟩:=GE.ve;obtain⟨k1,k2,k3,_,_⟩:=BS h9;have B:=Q.hr.base;have X:=G.dZ.keeps B;obtain⟨h,gg,d,t,os⟩:=s;dsimp only at B X Q;refine AL (sW (Wt (Ja X kL) (te X (h4 c hc)) (λself=>bind_fn X self h3) (by size_fits) ?_));have kp:∀b o,h.get? b=some o->((h.push (CI [y])).push (CX (g.ca c) h.objs.size)).get? b=some o:=λb o e=>du _ (du _ e);have he:((h.push (CI [y])).push (CX (g.ca c) h.objs.size)).get? (h.objs.size+1)=some (CX (g.ca c) h.objs.size):=by heap_get
 have hnew:h.get? (h.objs.size+1)=none:=Heap.get?_none_of_le (sv _);have Q2:AF g f ρ H loc ((h.push (CI [y])).push (CX (g.ca c) h.objs.size)):=(Q.push _).push _;generalize (h.push (CI [y])).push (CX (g.ca c) h.objs.size)=hh at kp he Q2 ⊢;generalize h.objs.size+1=e at he hnew ⊢;generalize hA:f.A.under (.builtin "type.__call__" ⟨[.ref (g.ca c),y],[]⟩)=A1;have hroom:A1.depth<recursionLimit:=by
  have:=fk.depth
  rw[←hA,CV];show f.A.depth+1<1000;omega
 refine codeAny_call_function hroom (kp _ _ (B _ _ h1)) h2 k2 k3 h7 ((oO.keeps B).keeps kp) ?_;refine C1 (D:=D) h5 (h6▸by decide) (by have:=rG List.length h6;simp at this;omega) (by have:=rG List.length h6;simp at this;simp;omega) (by have:=rG List.length h6;simp at this;simp;omega) ?_;have hseq:wpAny g.M A1.in1 (seqItems? fo.defaults) (λoD s'=>(oD.getD #[]).toList=D/\s'=⟨hh,gg,d,t,os⟩) (λ_ _=>False) ⟨hh,gg,d,t,os⟩:=by
  rcases oQ with ⟨e1,e2⟩|⟨T,oT,n,e1,e2,e3⟩
  ·rw[e1];exact df ⟨by rw[e2];rfl,rfl⟩
  ·rw[e1];exact uC (kp _ _ (B _ _ e2)) e3 ⟨by simp,rfl⟩
 refine jV hseq (λoD s' ⟨q1,q2⟩=>⟨q1,?_⟩) λ_ _ q=>q.elim;subst q2;have hdr:D.drop (D.length+([.ref e,y]:List Value).length-as.length)=[]:=by
  have:=rG List.length h6
  simp at this;rw[List.drop_eq_nil_iff];simp;omega
 rw[h6,hdr,dz,oM,oN];refine El (g:=g) (f:=f) (s:=⟨hh,gg,d,t,os⟩) Q2 (cs:=[]) (closure:=[]) rfl λcells ρ1 s1 Q3 ⟨tt,et,ft⟩ gk ⟨h3',e3⟩ c1 hns hown hbase=>?_;subst e3;dsimp only at Q3 gk hns hbase hown ft ⊢;have hL:=As hh;have heL:e≠hh.objs.size:=λz=>by rw[z,hL] at he;cases he
 have kM:h.get? hh.objs.size=none:=by
  cases q:h.get? hh.objs.size with
  |none=>rfl
  |some o=>rw [kp _ _ q] at hL;cases hL
 generalize hh.objs.size=L at hns hL heL kM ⊢;generalize hen:newEnv fo.scope L mainGlobals cells (fo.qualname++".<locals>.") (some fI) fo.code none builtinsNs=env;have V:Ww g env L:=by
  subst hen;exact⟨k1,rfl,oK,h11,h12,rfl,rfl⟩
 have kd:(env.scope.kind== .class||(env.scope.kind== .module&&env.locals !=env.globals))=false:=by rw[V.kind];rfl
 simp only[nz,mr,sY,qC,qg];refine K3 (K3 (qp V.n1 (V.loc▸hns) (λh4 n4 s4=>df ?_) kd));refine K3 (K3 (qp V.n2 n4 (λh5 n5 s5=>df ?_) kd));refine df ?_;rw[V.loc] at n5 s4 s5;have iI:∀b o,h.get? b=some o->h5.get? b=some o:=λb o q=>by
  have nb:b≠L:=λz=>by rw[z,kM] at q;cases q
  exact s5.extBut b o nb (s4.extBut b o nb (gk b o (kp b o q)))
 have oR:h5.get? e=some (CX (g.ca c) h.objs.size):=s5.extBut e _ heL (s4.extBut e _ heL (gk _ _ he));have B5:g.base.StaysIn h5:=λb o q=>iI b o (B b o q);refine⟨G.lim.keeps B5,?_⟩;refine codeAny_func (jV (E:=λ_ _=>False) (Vf (e:=e) (C:=g.ca c) (y:=y) V (X.keeps iI) ((Ja X kL).keeps iI) oG oH oJ ⟨mg,mb,v1.keeps B5,v2.keeps B5,v3,v4⟩ n5 ((T8 ⋯).trans (UQ rfl)) (UQ rfl) oR heL ?_ h8 λh6 k sl dx t1 kN oS=>?_) (λ_ _ q=>q) λ_ _ q=>q.elim)
 ·cases q:g.K.lookup e with
  |none=>rfl
  |some o=>rw [X _ _ q] at hnew;cases hnew
 ·have oU:∀b o,h.get? b=some o->h6.get? b=some o:=λb o q=>oS b o (λz=>by rw[z,hnew] at q;cases q) (iI b o q);refine⟨rfl,CS (s:=⟨h,gg,d,t,os⟩) Q oU ?_⟩;refine⟨e,_,_,_,rfl,?_,kN,rfl,rfl,rfl,rfl,hnew⟩;refine Loose.new Q hnew kN ?_;rintro (⟨_,_,q,_⟩|⟨_,q⟩|⟨_,q,q'⟩|⟨_,_,_,q⟩)
  ·cases q
  ·cases q
  ·cases q;rcases q' with q'|⟨_,_,q'⟩
   ·cases q'
   ·cases q'
  ·cases q
end Fsx
namespace Fsx
open PySem PySem.W PySem.Calls PyProof.Rows
local macro_rules |`(⋯)=>`(by first|decide+kernel|omega)
theorem Lf:Calm (⟨.builtin "claim.caller" {},none,none,[],none⟩:Ctx):=⟨by decide+kernel,λx hx=>by cases hx⟩
theorem Iu {prog:Program}{w:World}{t:Sem Fin}{s:Shared}{R:Result->Shared->Prop}(hreg:s.asleep) (h:Ai (model prog w) callerA t (λfin s'=>∃f,fin= .done f/\(R (.ok f) s'/\leftWithCleanup s'.gens=false)) (λe s'=>R (.error e) s'/\leftWithCleanup s'.gens=false) s):
  ∃n r s' s'',runN (denote table) prog w n s ⟨t,.builtin "claim.caller" {},default,[]⟩= .halted (outcomeOf r) s'/\
   schedN (denote table) prog w n (.single s ⟨t,.builtin "claim.caller" {},default,[]⟩)= .halted (outcomeOf r) s'/\s'.forget=s''.forget/\R r s'':=by
 have hw:Sem.wp (model prog w) ⟨.builtin "claim.caller" {},none,none,[],none⟩ t (Sem.finPost (model prog w) ⟨.builtin "claim.caller" {},none,none,[],none⟩ λr s'=>R r s'/\leftWithCleanup s'.gens=false) (λe _ s'=>R (.error e) s'/\leftWithCleanup s'.gens=false) default s:=by
  refine rm _ _ t (λfin p' s' h'=>?_) (λ_ _ _ h'=>h') default s (h _ default caller_in Lf);obtain⟨f,rfl,hf⟩:=h';exact hf
 obtain⟨n,r,s₁,s₂,hs,hn,hfo,hR⟩:=wp_halts_full (M:=model prog w) (R:=R) hreg hw;exact⟨n,r,s₂,s₁,hn,hs,hfo,hR⟩
variable {tree:List Value->Sem Fin}
theorem Mv {c:ClaimW}{w:World}{s:Shared}{free:Addr->Prop}{gens:Prop}{kept:Heap->Prop}(hz:s.asleep) (hgens:s.gens= #[]) (hspec:∀args,c.pre args=true->WData.layableAll args=true->
   ∀ord:List DictEntry->List DictEntry,(∀l,(ord l).Perm l)->
   ∃vs s₁,layAllW c.records (classAt s.heap) w.params ord args s=some (vs,s₁)/\
    Ai (model c.prog w) callerA (tree vs) (λfin s'=>∃f,fin= .done f/\(c.Ends s args vs s₁ (.ok f) s'/\s'.os=s.os/\AllBare s'.gens/\kept s'.heap))
     (λe s'=>c.Ends s args vs s₁ (.error e) s'/\s'.os=s.os/\AllBare s'.gens/\kept s'.heap) s₁):
  c.CallFrom (λvs=>⟨tree vs,.builtin "claim.caller" {},default,[]⟩) w free gens kept s:=by
 intro args hpre hlay ord hord;obtain⟨vs,s₁,hlaid,hcode⟩:=hspec args hpre hlay ord hord;have hal:=layAllW_rest _ _ _ hlaid;obtain⟨k,r,s',s'',jS,fm,hfo,fG,hos,hkp⟩:=Iu (prog:=c.prog) (w:=w) (t:=tree vs) (s:=s₁)
  (R:=λr s'=>c.Ends s args vs s₁ r s'/\s'.os=s.os/\kept s'.heap)
  (Shared.asleep_of_life hal.2.2.2 hz)
  (AG hcode (by
   rintro fin s' ⟨f,e,h1,h2,h3,h4⟩;exact⟨f,e,⟨h1,h2,h4⟩,r8 h3⟩) (by
   rintro e s' ⟨h1,h2,h3,h4⟩;exact⟨⟨h1,h2,h4⟩,r8 h3⟩))
 obtain⟨eh,_,_,eo,_⟩:=Shared.forget_eq hfo;have fG:=fG.congr eh;rw[←eh] at hkp;rw[←eo] at hos;have gn:s'.heap.life=s.heap.life:=(runN_life _ _ _ jS).trans hal.2.2.2;refine⟨vs,s₁,hlaid,k,_,s',fm,?_,(λ_ i x hx=>by rw[hgens] at hx;simp at hx),hkp,by rw[gn],Shared.rest_eq hos⟩;rcases fG with ⟨v,rfl,d1,d2,d3,d4,d5⟩|⟨e,ob,cls,rfl,d1,d2,d3,d4,d5⟩
 ·exact .inl ⟨v,rfl,d1,d2,d3,λb o y _=>d4 b o y,d5⟩
 ·exact .inr ⟨e,ob,cls,rfl,d1,d2,d3,d4,λb o y _=>d5 b o y⟩
variable {XP:(Str->Option Value)->Heap->Prop}{Xt:Shared->Bool}{YP:World->Heap->Prop}{Ya:World->α}{Yf:Shared->α}{loose:List Str}{q:Program}{run:Value->List Value->Sem Value}
theorem Tn {r:RowW}{defs kps:List Str}{writes:Bool}{α:Type}{Yf:Shared->α}{Ya:World->α}{N:Nat}(left:LeftO r.prog q loose Xt Yf Ya N) (hY:∀w s,Yf s=Ya w->YP w s.heap) (hYk:∀w h h',YP w h->(∀b o,h.get? b=some o->h'.get? b=some o)->YP w h') (hX:∀s,Xt s=true->XP (s.heap.nsMap mainGlobals) s.heap) (hXk:∀mg h h',XP mg h->(∀b o,h.get? b=some o->h'.get? b=some o)->XP mg h') (hRf:∀s,Xt s=true->RecFacts r.records s.heap) (hwr:(!writes||r.records.isEmpty)=true) (ok:(chainsOk q&&opensWell r.prog&&(frees r&&r.within.isEmpty))=true) (hb:r.prog.bare) (hw:r.promised) (ht:∀vs (w:World) (s:Shared) mg f (Q:Fin->Shared->Prop) (E:Value->Shared->Prop),s.heap.Ns mainGlobals mg->mg r.name=some f->Ai (model r.prog w) callerA (run f vs) (λv s'=>Q (.done (.ret v)) s') E s->Ai (model r.prog w) callerA (tree vs) Q E s) (pin:∀w s,s.heap.isNs mainGlobals=true->Ground q loose [] XP w s (s.heap.nsMap mainGlobals) (s.heap.nsMap builtinsNs) s.heap->∀n∈defs,isTheDefsW r.prog s.heap n) (call:∀(w:World) (s₀ s₁:Shared) (mg mb:Str->Option Value),Ground q loose r.records XP w s₀ mg mb s₁.heap->YP w s₁.heap->∀(args:List WData) (vs:List Value) (as:List Addr),
   r.claim.pre args=true->WData.layableAll args=true->Laid r.records w s₀ s₁ args vs as->sysModules<s₀.heap.objs.size->∃f,mg r.name=some f/\
    Ai (model r.prog w) callerA (run f vs) (λv s'=>GoodWG r.claim (classAt s₀.heap) (ExcName.means s₀.heap) args s₁ (.ok (.ret v)) s')
     (λe s'=>GoodWG r.claim (classAt s₀.heap) (ExcName.means s₀.heap) args s₁ (.error e) s') s₁):r.claim.HoldsOpenBy (λvs=>⟨tree vs,.builtin "claim.caller" {},default,[]⟩) defs kps writes:=by
 obtain⟨ok,k5⟩:=r9.mp ok;obtain⟨hch,o1⟩:=r9.mp ok;obtain⟨k5,k6⟩:=r9.mp k5;obtain⟨hsame,hu,ha,hap,hm⟩:=frees_parts k5;refine⟨⟨hb,o1,by show r.makers.map _=[];rw[hm];rfl⟩,hw.witness,λw=>⟨(left.behind hX hch w).1,λs' hs'=>?_⟩⟩;obtain⟨s₀,hf,oV,s,hT,hz,hgens,hg,eO,y⟩:=(left.behind (XP:=λmg h=>XP mg h/\RecFacts r.records h) (λs hs=>⟨hX s hs,hRf s hs⟩) hch w).2 s' hs';have G0:Ground q loose [] XP w s (s.heap.nsMap mainGlobals) (s.heap.nsMap builtinsNs) s.heap:=⟨eO.T,eO.B,eO.D,eO.TE,eO.TD,eO.W,eO.X.1,eO.cls,eO.has,eO.apart,eO.once,eO.K⟩;have RF:=eO.X.2;have kO:=hT;refine⟨s₀,hf,oV,s,hT,pin w s hg G0,RF.1,RF.2.1,?_⟩;have hgens:s.gens= #[]:=Array.eq_empty_of_size_eq_zero (ke.mp hgens);have G:Ground q loose r.records XP w s _ _ s.heap:=RF.ground G0;refine Mv (c:=r.claim) hz hgens λargs hpre hlay ord hord=>?_;obtain⟨⟨vs,s₁⟩,hlaid⟩:=Option.isSome_iff_exists.mp (layAllW_isSome (P:=w.params) (ord:=ord) G.has args r.args s (pre_splitW hpre).1);have keeps:=layAllW_keeps _ _ _ hlaid;have hal:=layAllW_rest _ _ _ hlaid;obtain⟨as,hrd,hin,hold⟩:=reads_layAllW hord _ _ _ hlaid hlay s₁.heap (λ_ _ e=>e);have L:Laid r.records w s s₁ args vs as:=⟨⟨ord,hord,hlaid⟩,hrd,hin,hold,keeps,hal.1.trans hgens,hal.2.2.1⟩;have G₁:=G.keeps hXk keeps;obtain⟨f,hf,h⟩:=call w s s₁ _ _ G₁ (hYk _ _ _ (hY w s y) keeps) args vs as hpre hlay L G.low;have hi:=ident_freeW hu ha hap;have hwi:r.claim.within=[]:=tV.mp k6;exact⟨vs,s₁,hlaid,ht vs w s₁ _ f _ _ G₁.T.g hf (AG h (λv s' g=>⟨_,rfl,have z:=g.laid (c:=r.claim) hsame hwi hi L;⟨z.1,z.2.1,z.2.2,λq=>⟨namesKept_of kO hg kps keeps g.2.1.old,noTable hwr q⟩⟩⟩) λe s' g=>have z:=g.laid (c:=r.claim) hsame hwi hi L;⟨z.1,z.2.1,z.2.2,λq=>⟨namesKept_of kO hg kps keeps g.2.1.old,noTable hwr q⟩⟩)⟩
abbrev PT (q:Program) (loose:List Str) (XP:(Str->Option Value)->Heap->Prop) (YP:World->Heap->Prop) (r:RowW) (d:DefRec) (kwd:List (Str×Expr)) (run:Value->List Value->Sem Value):Prop:=
 ∀(w:World) (s₀ s₁:Shared) (mg mb:Str->Option Value),Ground q loose r.records XP w s₀ mg mb s₁.heap->YP w s₁.heap->∀(a:Addr) (o:Obj) (pm cd doc dV kV:Value),s₁.heap.get? a=some o->
  o.data= .func {docDef d.name d.params d.body d.scope pm cd doc with defaults:=dV,kwdefaults:=kV}->s₁.heap.CodeRec cd d.name->Dflts mg s₁.heap d.params kwd dV kV->mg d.name=some (.ref a)->s₁.gens= #[]->
  ∀(args:List WData) (vals:List Value) (as:List Addr),r.claim.pre args=true->WData.layableAll args=true->ReadsAllW r.records (classAt s₀.heap) s₁.heap vals args as->WellAll w.params s₁.heap vals args->(∀a∈as,(a==sysModules)=false)->
   Ai (model r.prog w) callerA (run (.ref a) vals) (λv s'=>GoodWG r.claim (classAt s₀.heap) (ExcName.means s₀.heap) args s₁ (.ok (.ret v)) s')
    (λe s'=>GoodWG r.claim (classAt s₀.heap) (ExcName.means s₀.heap) args s₁ (.error e) s') s₁
variable {kwd:List (Str×Expr)}
theorem PySem.W.holds_open {r:OpenRow}{α:Type}{Yf:Shared->α}{Ya:World->α}{d:DefRec}{N:Nat}(left:LeftO r.prog q loose Xt Yf Ya N) (hY:∀w s,Yf s=Ya w->YP w s.heap) (hYk:∀w h h',YP w h->(∀b o,h.get? b=some o->h'.get? b=some o)->YP w h') (hX:∀s,Xt s=true->XP (s.heap.nsMap mainGlobals) s.heap) (hXk:∀mg h h',XP mg h->(∀b o,h.get? b=some o->h'.get? b=some o)->XP mg h') (hdef:defOf q r.name=some (d,kwd)) (hp:r.prog.theDef r.name=some (d.params,d.body,d.scope)) (hk:kwWritten? d.params.kwonlyargs d.params.kw_defaults=some kwd) (hRf:∀s,Xt s=true->RecFacts r.records s.heap) (hwr:(!r.writes||r.records.isEmpty)=true) (k1:r.wellSaid=true) (ok:(chainsOk q&&opensWell r.prog&&(frees r.toRowW&&r.within.isEmpty))=true) (hb:r.prog.bare) (hw:r.toRowW.promised) (call:PT q loose XP YP r.toRowW d kwd λf vs=>PySem.call f vs):r.Holds:=by
 refine⟨k1,hw,Tn (r:=r.toRowW) (run:=λf vs=>PySem.call f vs) (tree:=λvs=>do match←nsGet mainNs r.name with
   |some f=>do ret (←PySem.call f vs)
   |none=>unsupported "claim.caller:no-such-global") left hY hYk hX hXk hRf hwr ok hb hw
  (λvs w s mg f Q E hg hf h=>AJ (wpAny_nsGet hg (by rw[hf];exact AA (AG h (λ_ _ x=>AB x) λ_ _ x=>x))))
  (λw s hg G n hn=>?_) λw s₀ s₁ mg mb G Y args vs as hpre hlay L low=>?_⟩
 ·obtain rfl:n=r.name:=by split at hn<;>simp_all
  exact pinned_of_view hg G hdef hp hk
 ·obtain⟨a,o,pm,cd,doc,dV,kV,h1,h2,h3,h4,h5⟩:=G.fn hdef;exact⟨.ref a,h1,call w s₀ s₁ mg mb G Y a o pm cd doc dV kV h2 h3 h4 h5 (defOf_name hdef▸h1) L.gens args vs as hpre hlay L.reads L.well (L.low low)⟩
theorem PySem.W.holds_openC {r:OpenRowC}{α:Type}{Yf:Shared->α}{Ya:World->α}{d:DefRec}{N:Nat}(left:LeftO r.prog q loose Xt Yf Ya N) (hY:∀w s,Yf s=Ya w->YP w s.heap) (hYk:∀w h h',YP w h->(∀b o,h.get? b=some o->h'.get? b=some o)->YP w h') (hX:∀s,Xt s=true->XP (s.heap.nsMap mainGlobals) s.heap) (hXk:∀mg h h',XP mg h->(∀b o,h.get? b=some o->h'.get? b=some o)->XP mg h') (hdef:defOf q r.name=some (d,kwd)) (hp:r.prog.theDef r.name=some (d.params,d.body,d.scope)) (hk:kwWritten? d.params.kwonlyargs d.params.kw_defaults=some kwd) (hRf:∀s,Xt s=true->RecFacts r.records s.heap) (hwr:(!r.writes||r.records.isEmpty)=true) (k1:r.wellSaid=true) (ok:(chainsOk q&&opensWell r.prog&&(frees r.toRowW&&r.within.isEmpty))=true) (hb:r.prog.bare) (hw:r.toRowW.promised) (call:PT q loose XP YP r.toRowW d kwd λf vs=>callC f r.kw r.drain r.hand r.exc vs):r.Holds:=by
 refine⟨k1,hw,Tn (r:=r.toRowW) (run:=λf vs=>callC f r.kw r.drain r.hand r.exc vs) (tree:=λvs=>do match←nsGet mainNs r.name with
   |some f=>do ret (←holding vs (callC f r.kw r.drain r.hand r.exc vs))
   |none=>unsupported "claim.caller:no-such-global") left hY hYk hX hXk hRf hwr ok hb hw
  (λvs w s mg f Q E hg hf h=>AJ (wpAny_nsGet hg (by rw[hf];exact AA (AM (AG h (λ_ _ x=>AB x) λ_ _ x=>x)))))
  (λw s hg G n hn=>?_) λw s₀ s₁ mg mb G Y args vs as hpre hlay L low=>?_⟩
 ·obtain rfl:n=r.name:=by split at hn<;>simp_all
  exact pinned_of_view hg G hdef hp hk
 ·obtain⟨a,o,pm,cd,doc,dV,kV,h1,h2,h3,h4,h5⟩:=G.fn hdef;exact⟨.ref a,h1,call w s₀ s₁ mg mb G Y a o pm cd doc dV kV h2 h3 h4 h5 (defOf_name hdef▸h1) L.gens args vs as hpre hlay L.reads L.well (L.low low)⟩
end Fsx
set_option Elab.async false
namespace Fsx
open PySem PySem.W PyProof.Rows
local macro_rules |`(⋯)=>`(by first|decide+kernel|omega)
set_option maxRecDepth 100000 in
set_option maxHeartbeats 8000000 in
open_top hd for PySem.Challenge.rw_nu0101_01
end Fsx
namespace Fsx
open _root_.PySem _root_.PySem.W _root_.PySem.Calls PyProof.Rows
local macro_rules |`(⋯)=>`(by first|decide+kernel|omega)
def YF:List (Nat×Nat×Addr):=[(19,0,104),(20,0,111),(21,0,118),(22,0,125),(23,0,132),(24,0,147),(24,1,154),(24,2,161),(24,3,168),(24,4,175),(24,5,182),(24,6,189),(25,0,201),(26,0,215),(26,2,227),(26,3,234),(26,4,241),(26,5,248),(26,6,255),(26,7,262)]
def YI:List (Nat×Nat×Addr):=[(26,8,269),(26,9,276),(26,10,283),(27,0,304),(27,1,311),(27,2,318),(27,3,325),(27,4,333),(27,5,340),(27,6,347),(27,7,354),(27,9,368),(27,10,375),(27,11,382),(27,12,389),(27,13,396),(27,14,403),(27,15,410),(27,16,417),(27,17,424)]
def Yi:List (Nat×Nat×Addr):=[(27,18,431),(27,19,438),(27,20,443),(29,0,464),(29,1,471),(29,2,478),(29,6,506),(29,7,513),(30,0,562),(30,1,569),(30,2,576),(30,3,583),(30,4,590),(30,5,597),(30,6,604),(30,7,611),(30,8,618),(30,9,625),(30,10,632),(30,11,639)]
def Ye:List (Nat×Nat×Addr):=[(32,0,681),(32,1,688),(32,2,695),(32,3,702),(32,4,709),(32,6,723),(32,9,744),(32,10,751),(37,0,770),(38,0,785),(38,1,792),(38,2,799),(38,3,806),(38,4,813),(38,5,820),(38,6,827),(38,7,834),(38,8,841),(38,9,848),(38,10,855)]
def X6:List (Nat×Nat×Addr):=[(40,0,883),(41,0,890),(42,0,897),(43,0,904),(44,0,911),(45,0,918),(46,0,923),(47,0,930),(48,0,937),(49,0,944),(50,0,949),(51,0,956),(52,0,961)]
def cq:List (Nat×Nat×Addr):=YF++YI++Yi++Ye++X6
def dG:List (Nat×Addr):=[(2,39),(3,52),(4,64),(5,76),(24,192),(26,286),(27,446),(29,544),(30,663),(32,761),(38,872)]
def J5:List (Addr×Addr×Str):=[(955,951,"_law_freed_right.<locals>.<lambda>"),(948,946,"_law_refusals_right.<locals>.<lambda>"),(943,939,"_law_sizes_right.<locals>.<lambda>"),(922,920,"_law_call_right.<locals>.<lambda>"),(960,958,"law.<locals>.<lambda>")]
def RV (i j:Nat):Addr:=match cq.find? λp=>p.1==i&&p.2.1==j with|some p=>p.2.2|none=>0
def EE (i:Nat):Addr:=match dG.find? λp=>p.1==i with|some p=>p.2|none=>0
def Ty (prog:Program) (w:World) (K:Frag) (h:Heap):Gd:=⟨prog,w,K,hideAll h (J5.map (·.2.1)),RV,EE,J5⟩
def XH:V->Value->Bool
 | .int i,.int j _=>i==j
 | .none,.none=>true
 | .cls i,.ref a=>a==EE i
 | .fn i,.ref a=>a==RV i 0&&Ob.contains i
 | .ty s,.type t=>s==t
 | .bi s,.builtin t=>s==t&&handedIn (.builtin s)
 |_,_=>false
variable {g:Gd}
theorem Mz (hf:g.fa=RV) (hc:g.ca=EE){v:V}{x:Value}(e:XH v x=true) (ρ:AR) (h:Heap):VR g ρ h v x:=by
 unfold XH at e;split at e<;>(try cases e)<;>unfold VR
 ·rw[ke.mp e];exact⟨_,rfl⟩
 ·rfl
 ·rw[hc,ke.mp e]
 ·simp only[dv,ke,List.contains_iff_mem] at e;rw[hf,e.1];exact⟨rfl,e.2⟩
 ·rw[ke.mp e]
 ·simp only[dv,ke] at e;rw[←e.1];exact⟨rfl,e.2⟩
def We (K:Frag) (c:Nat):Bool:=(clsIn K (EE c)).any (·.hasDict)&&(findIn K (.ref (EE c)) "__getattribute__"==some (some (.builtin "object.__getattribute__")))&&(findIn K (.ref (EE c)) "__getattr__"==some none)&&
 (findIn K (.ref (EE c)) "__setattr__"==some (some (.builtin "object.__setattr__")))&&plainOver K (EE c)&&keepIn K (.ref (EE c))&&makesIn K (EE c)
def Xz (K:Frag) (p:Nat×List Str):Bool:=p.2.all λx=>findIn K (.ref (EE p.1)) x==some none
def Wx (K:Frag) (p:Nat×Str×Nat):Bool:=(findIn K (.ref (EE p.1)) p.2.1==some (some (.ref (RV p.1 p.2.2))))&&(typeIn K (.ref (RV p.1 p.2.2))==some (.type "function"))&&keepIn K (.ref (RV p.1 p.2.2))&& !AP p.1 p.2.1
theorem Ho {c:Nat}{x:Str}:∀{l:List (Nat×List Str)},GN c x l=true->∃p∈l,p.1=c/\x∈p.2
 |[],e=>by cases e
 |(k,l)::r,e=>by
  unfold GN at e;simp only[qB,dv,ke,qd] at e;rcases e with ⟨rfl,y,hy,rfl⟩|e
  ·exact⟨_,.head _,rfl,hy⟩
  ·obtain⟨p,hp,q⟩:=Ho e;exact⟨p,.tail _ hp,q⟩
def MT (K:Frag):Bool:=[24,26,27,29,30,32,38].all (We K)&&MB.all (Xz K)&&Kx.all (Wx K)
theorem Pi (hf:g.fa=RV) (hc:g.ca=EE) (e:MT g.K=true) (c:Nat) (h:Fc c=true):NY g c:=by
 unfold MT at e;simp only[dv] at e;obtain⟨⟨e1,e2⟩,e3⟩:=e;have c1:=jU.mp e1 c (by unfold Fc at h;simpa using h);unfold We at c1;simp only[dv,ke] at c1;obtain⟨⟨⟨⟨⟨⟨a1,a2⟩,a3⟩,a4⟩,a5⟩,a6⟩,a7⟩:=c1;refine⟨hc▸a1,hc▸a2,hc▸a3,hc▸a4,hc▸a5,hc▸a6,hc▸a7,λx hx=>?_,λx j hx=>?_⟩
 ·obtain⟨p,hp,rfl,hm⟩:=Ho (show GN c x MB=true from hx)
  have:=jU.mp (jU.mp e2 p hp) x hm
  rw[hc];exact ke.mp this
 ·have:=jU.mp e3 _ (FK hx)
  unfold Wx at this;simp only[dv,ke,mI] at this;rw[hc,hf];exact⟨this.1.1.1,this.1.1.2,this.1.2,this.2⟩
def VT (K:Frag) (p:Str×V):Bool:=match nsIn K mainGlobals p.1 with|some (some v)=>XH p.2 v|_=>false
def bH (K:Frag) (p:Str×V):Bool:=(nsIn K mainGlobals p.1==some none)&&(p.1 !="__name__")&&(match bootBuiltins p.1 with|some v=>XH p.2 v|none=>false)
theorem Mn {α:Type}{x:Str}{v:α}:∀{l:List (Str×α)},lk x l=some v->(x,v)∈l
 |[],e=>by cases e
 |(y,w)::r,e=>by
  unfold lk at e;split at e
  ·rename_i q;subst q;cases e;exact .head _
  ·exact .tail _ (Mn e)
variable {K:Frag}{h:Heap}{m:Str->Option Value}
theorem HP {a:Addr}(X:K.In h) (n:h.Ns a m){x:Str}{r:Option Value}(e:nsIn K a x=some r):m x=r:=by
 obtain⟨o,es,ep,h1,h2,h3,h4⟩:=n;unfold nsIn at e;split at e
 ·rename_i c d es' n' sl ho
  have:=X _ _ ho
  rw[h1] at this;cases this;cases h2;rw[←h4 x];unfold nsFind findBy;rw[←Array.find?_toList];split at e
  ·rename_i q;cases e;rw[q];rfl
  ·rename_i q;split at e
   ·cases e
   ·cases e;rw[q];rfl
 ·cases e
def IF (i j:Nat):Option (Bool×Stmt):=match OO i top with
 |some (.ClassDef _ _ _ body _ _ _ _ _ _ _)=>if YR i j then (OO j body).map λs=>(false,s) else none
 |some s=>if j==0&&Ob.any (· ==i) then some (makers.any (· ==i),s) else none
 |none=>none
theorem Ox (i j:Nat):MV i j=(IF i j).bind λp=>Nc p.1 p.2:=by
 unfold MV IF;generalize OO i top=o;cases o with
 |none=>rfl
 |some s=>cases s<;>(dsimp only;split<;>first|rfl|(rw[Option.bind_map];rfl))
def Tr:List (Nat×Nat):=Kx.map (λp=>(p.1,p.2.2))++Ob.map λi=>(i,0)
theorem VM {i j:Nat}{p:Bool×Stmt}(e:IF i j=some p):(i,j)∈Tr:=by
 unfold IF at e;unfold Tr;rw[eI];split at e
 ·split at e
  ·rename_i h;left;unfold YR at h;obtain⟨q,hq,h⟩:=qd.mp h;simp only[dv,ke] at h;exact eJ.mpr ⟨q,hq,by rw[h.1,h.2]⟩
  ·cases e
 ·split at e
  ·rename_i h;right;simp only[dv,ke,qd] at h;obtain⟨rfl,x,hx,rfl⟩:=h;exact eJ.mpr ⟨x,hx,rfl⟩
  ·cases e
 ·cases e
abbrev WJ:=Arguments×FuncBody×Scope
def UN (p:Nat×Nat):Option WJ:=match IF p.1 p.2 with
 |some (_,.FunctionDef _ ps body _ _ _ scope _ _ _)=>some (ps,.stmts body,scope)
 |_=>none
def Xi (K:Frag) (p:Nat×Nat):Option FuncData:=match K.lookup (RV p.1 p.2) with
 |some ⟨_,_,.func fo,_⟩=>some fo
 |_=>none
def VH (K:Frag) (p:Nat×Nat):Option WJ:=(Xi K p).map λfo=>(fo.params,fo.body,fo.scope)
def H8 (K:Frag) (fo:FuncData):Option (List Value):=match fo.defaults with
 | .none=>some []
 | .ref T=>(match K.lookup T with|some ⟨_,_,.seq D _,_⟩=>some D.toList|_=>none)
 |_=>none
def codeB (K:Frag) (fo:FuncData):Bool:=match fo.code with
 | .ref c=>(match K.lookup c with
  |some ⟨_,_,.fields vs,_⟩=>(match (vs[1]? :Option Value) with|some (.str q _)=>q==fo.qualname|_=>false)
  |_=>false)
 |_=>false
def TZ:List (Option V)->List Value->Bool
 |[],[]=>true
 |none::r,_::t=>TZ r t
 |some v::r,x::t=>XH v x&&TZ r t
 |_,_=>false
def Xl (K:Frag) (p:Nat×Nat):Bool:=match Xi K p,MV p.1 p.2 with
 |some fo,some fd=>decide fd.params.Nodup&&(fo.globals==mainGlobals)&&(fo.builtins==builtinsNs)&&fo.closure.isEmpty&&codeB K fo&&
   (match H8 K fo with|some D=>TZ fd.dflts D&&decide (D.length<=fd.params.length)|none=>false)&&
   (!fd.lam||J5.any λq=>fo.code== .ref q.1&&(fo.qualname++".<locals>.")++("<lambda>":Str)==q.2.2)
 |_,_=>false
theorem Mp {g:Gd}(hf:g.fa=RV) (hc:g.ca=EE):∀{ds:List (Option V)}{D:List Value},TZ ds D=true->D.length=ds.length/\∀(k:Nat) (v:V),ds[k]? =some (some v)->∃x,D[k]? =some x/\∀ρ h,VR g ρ h v x
 |[],[],_=>⟨rfl,λk v e=>by simp at e⟩
 |[],_::_,e=>by simp [TZ] at e
 |none::r,[],e=>by simp [TZ] at e
 |some _::r,[],e=>by simp [TZ] at e
 |none::r,x::t,e=>by
  obtain⟨a,b⟩:=Mp hf hc (ds:=r) (D:=t) e;refine⟨by simp [a],λk v q=>?_⟩;cases k with
  |zero=>simp at q
  |succ k=>exact b k v q
 |some w::r,x::t,e=>by
  simp only[TZ,dv] at e;obtain⟨a,b⟩:=Mp hf hc (ds:=r) (D:=t) e.2;refine⟨by simp [a],λk v q=>?_⟩;cases k with
  |zero=>simp at q;subst q;exact⟨x,rfl,λρ h=>Mz hf hc e.1 ρ h⟩
  |succ k=>exact b k v q
theorem VG (hf:g.fa=RV) (hc:g.ca=EE) (ht:g.tabs=J5) (X:g.K.In g.base) (e1:Tr.map (VH g.K)=Tr.map UN) (e2:Tr.all (Xl g.K)=true):Oe g:=by
 refine⟨λi j fd h=>?_⟩;have h':=h;rw[Ox] at h;obtain⟨⟨lam,st⟩,hs,hf'⟩:=tS.mp h;have hm:=VM hs;have a1:=List.map_inj_left.mp e1 _ hm;have a2:=jU.mp e2 _ hm;unfold Xl at a2;cases hk:Xi g.K (i,j) with
 |none=>rw [hk] at a2;cases a2
 |some fo=>
  simp only[hk,h'] at a2;have hk':=hk;unfold Xi at hk';split at hk'
  ·rename_i c d pe sl ho;cases hk';unfold VH UN at a1;rw[hk,hs] at a1;dsimp only at hf' a1;unfold Nc at hf';split at hf'
   ·rename_i nm as ds body rt scope p1 p2 p3;split at hf'
    ·rename_i hok;cases hf';simp only[tp,qu,Prod.mk.injEq] at a1;obtain⟨q1,q2,q3⟩:=a1;simp only[dv,ke,ip,tV,qB,mI] at a2;obtain⟨⟨⟨⟨⟨⟨r1,r2⟩,r3⟩,r4⟩,r5⟩,r6⟩,r7⟩:=a2;refine⟨_,fo,by rw[hf];exact X _ _ ho,rfl,⟨as,ds,q1,rfl⟩,r1,q2,by rw[q3],by rw[q3];exact hok,r2,r3,r4,?_,?_,?_⟩
     ·unfold codeB at r5;split at r5
      ·rename_i cc hcc;split at r5
       ·rename_i c' d' vs eY hcl;split at r5
        ·rename_i q t hv;exact⟨cc,_,vs,t,hcc,X _ _ hcl,rfl,by rw[hv,ke.mp r5]⟩
        ·cases r5
       ·cases r5
      ·cases r5
     ·cases hD:H8 g.K fo with
      |none=>rw [hD] at r6;cases r6
      |some D=>
       rw[hD] at r6;simp only[dv,ip] at r6;obtain⟨s1,s2⟩:=Mp hf hc r6.1;refine⟨D,?_,s1,r6.2,s2⟩;unfold H8 at hD;split at hD
       ·rename_i e;cases hD;exact .inl ⟨e,rfl⟩
       ·rename_i T e;split at hD
        ·rename_i c' d' D' n' eY hT;cases hD;exact .inr ⟨T,_,n',e,X _ _ hT,by simp⟩
        ·cases hD
       ·cases hD
     ·intro hl;rcases r7 with r7|r7
      ·rw[show lam=true from hl] at r7;cases r7
      ·obtain⟨q,hq,fu⟩:=qd.mp r7;simp only[dv,ke] at fu;exact⟨q,ht▸hq,fu.1,fu.2⟩
    ·cases hf'
   ·cases hf'
  ·cases hk'
def E7:List Addr:=J5.map (·.2.1)
theorem GS {b:Addr}{o:Obj}(hT:∀P∈E7,h.get? P=some (tabObj #[])) (e:h.get? b=some o) (ne:∀vs,o.data≠ .fields vs):(hideAll h E7).get? b=some o:=
 hideAll_get _ e λm=>ne #[] (by have:=hT b m;rw[e] at this;cases this;rfl)
theorem Jx {a:Addr}(hT:∀P∈E7,h.get? P=some (tabObj #[])) (n:h.Ns a m):(hideAll h E7).Ns a m:=by
 obtain⟨o,es,ep,h1,h2,h3⟩:=n;exact⟨o,es,ep,GS hT h1 (λvs q=>by rw[h2] at q;cases q),h2,h3⟩
def VF (K:Frag):Bool:=match K.lookup (EE 29) with
 |some ⟨.type "type",_,.cls cd,sl⟩=>(match sl.toList with
  |[_,_,_,_,some (.builtin n),_]=>n=="object.__new__"&&cd.mro==[.ref (EE 29),.type "object"]&&cd.hasDict&& !cd.abstract&& !cd.hasDel&&nsOkIn K cd.ns&&nsIn K cd.ns "__eq__"==some none&&nsIn K cd.ns "__ne__"==some none
  |_=>false)
 |_=>false
theorem T9 (X:K.In h) (e:VF K=true):CmpCls h (EE 29):=by
 unfold VF at e;split at e
 ·rename_i dd cd sl ho;split at e
  ·rename_i k0 k1 k2 k3 n k5 hs;simp only[dv,ke,mI] at e;obtain⟨⟨⟨⟨⟨⟨⟨e1,e2⟩,e3⟩,e4⟩,e5⟩,e6⟩,e7⟩,e8⟩:=e;obtain⟨nm,bs,mro,ns,qn,hdct,sn,sub,ab,col,oW⟩:=cd;dsimp only at e2 e3 e4 e5 e6 e7 e8;subst e1 e2 e3 e4 e5;have hs':sl= #[k0,k1,k2,k3,some (.builtin "object.__new__"),k5]:=by rw[←rz (xs:=sl),hs]
   subst hs';exact⟨ns,_,⟨⟨nm,qn,bs,sn,sub,col,dd,k0,k1,k2,k3,k5,X _ _ ho⟩,.of_isNs (isNs_of_in X e6)⟩,nsMap_none_of_in X e6 e7,nsMap_none_of_in X e6 e8⟩
  ·cases e
 ·cases e
def Xn:List Nat:=[3,4,5]
theorem O0 {c:Nat}(h:An c=true):c∈Xn:=by
 unfold An at h;simp only[qB,ke] at h;unfold Xn
 simp
 omega
def Uh (K:Frag) (c:Nat):Bool:=keepIn K (.ref (EE c))&&(subIn K (.ref (EE c)) (.type "BaseException")==some true)&&(typeIn K (.ref (EE c))==some (.type "type"))&&(Xn.all λi=>exmOne K (.ref (EE c)) (.ref (EE i))==some (decide (i=c)))&&
 Ei K (EE c)&&Et K (EE c)&&(findIn K (.ref (EE c)) "reason"==some none)&&(findIn K (.ref (EE c)) "__setattr__"==some (some (.builtin "object.__setattr__")))&&(findIn K (.ref (EE c)) "__init__"==some (some (.ref 36)))
def Wq (K:Frag):Prop:=∃c d fo sl p1 p2 p3 p4 p5 p6 p7 p8 p9 fK as ds,K.lookup 36=some ⟨c,d,.func fo,sl⟩/\
  fo.params=⟨[],as,none,[],[],none,ds⟩/\as.map (·.arg)=[("self":Str),("reason":Str)]/\
  fo.body= .stmts [.Expr (.Call (.Attribute (.Name "ValueError" p1) "__init__" p2) [.Name "self" p3,.Name "reason" p4] [] p5) p6,.Assign [.Attribute (.Name "self" p7) "reason" p8] (.Name "reason" p9) fK]/\(p2.endLine==p5.line)=true/\
  BH fo.scope=true/\fo.scope.names.lookup ("self":Str)=some NameKind.local/\fo.scope.names.lookup ("reason":Str)=some NameKind.local/\fo.scope.names.lookup ("ValueError":Str)=some NameKind.globalImplicit/\(fo.scope.names.all λp=>p.2 != .cell)=true/\
  fo.globals=mainGlobals/\fo.builtins=builtinsNs/\fo.closure=[]/\codeB K fo=true/\(match H8 K fo with|some D=>decide (D.length<=2)|none=>false)=true
def U4 (K:Frag):Bool:=match K.lookup 36 with
 |some ⟨_,_,.func fo,_⟩=>(match fo.params,fo.body with
  |⟨[],[a1,a2],none,[],[],none,_⟩,.stmts [.Expr (.Call (.Attribute (.Name v _) i p2) [.Name s1 _,.Name r1 _] [] p5) _,.Assign [.Attribute (.Name s2 _) r2 _] (.Name r3 _) _]=>
   a1.arg==("self":Str)&&a2.arg==("reason":Str)&&v==("ValueError":Str)&&i==("__init__":Str)&&s1==("self":Str)&&s2==("self":Str)&&r1==("reason":Str)&&r2==("reason":Str)&&r3==("reason":Str)&&(p2.endLine==p5.line)&&
   BH fo.scope&&(fo.scope.names.lookup ("self":Str)==some NameKind.local)&&(fo.scope.names.lookup ("reason":Str)==some NameKind.local)&&(fo.scope.names.lookup ("ValueError":Str)==some NameKind.globalImplicit)&&(fo.scope.names.all λp=>p.2 != .cell)&&
   (fo.globals==mainGlobals)&&(fo.builtins==builtinsNs)&&fo.closure.isEmpty&&codeB K fo&&(match H8 K fo with|some D=>decide (D.length<=2)|none=>false)
  |_,_=>false)
 |_=>false
theorem UX (e:U4 K=true):Wq K:=by
 unfold U4 at e;split at e
 ·rename_i c d fo sl ho;split at e
  ·rename_i a1 a2 ds v p1 i p2 s1 p3 r1 p4 p5 p6 s2 p7 r2 p8 r3 p9 fK hp hb;simp only[dv,ke,tV] at e;obtain⟨⟨⟨⟨⟨⟨⟨⟨⟨⟨⟨⟨⟨⟨⟨⟨⟨⟨⟨e1,e2⟩,e3⟩,e4⟩,e5⟩,e6⟩,e7⟩,e8⟩,e9⟩,iX⟩,oX⟩,iY⟩,eV⟩,eW⟩,oY⟩,oZ⟩,oh⟩,oj⟩,oq⟩,ou⟩:=e;subst e3 e4 e5 e6 e7 e8 e9;exact⟨c,d,fo,sl,_,_,_,_,_,_,_,_,_,_,_,_,ho,hp,by simp [e1,e2],hb,by simpa using iX,oX,iY,eV,eW,oY,oZ,oh,oj,oq,ou⟩
  ·cases e
 ·cases e
variable {fo:FuncData}
theorem PL (X:K.In h) (r5:codeB K fo=true):h.CodeRec fo.code fo.qualname:=by
 unfold codeB at r5;split at r5
 ·rename_i cc hcc;split at r5
  ·rename_i c' d' vs eY hcl;split at r5
   ·rename_i q t hv;exact⟨cc,_,vs,t,hcc,X _ _ hcl,rfl,by rw[hv,ke.mp r5]⟩
   ·cases r5
  ·cases r5
 ·cases r5
theorem Ov (X:K.In h){D:List Value}(hD:H8 K fo=some D):(fo.defaults= .none/\D=[])∨∃T o n,fo.defaults= .ref T/\h.get? T=some o/\o.data= .seq D.toArray n:=by
 unfold H8 at hD;split at hD
 ·rename_i e;cases hD;exact .inl ⟨e,rfl⟩
 ·rename_i T e;split at hD
  ·rename_i c' d' D' n' eY hT;cases hD;exact .inr ⟨T,_,n',e,X _ _ hT,by simp⟩
  ·cases hD
 ·cases hD
def allB (K:Frag):Bool:=MT K&&globT.all (VT K)&&cA.all (bH K)&&VF K&&Xn.all (Uh K)&&Tr.all (Xl K)&&(J5.all λq=>(K.lookup q.2.1).isNone&&codeHdIn K q.1 q.2.1&&mainGlobals !=q.2.1)&&(nsIn K mainGlobals "ValueError"==some none)&&(typeIn K (.ref 36)==some (.type "function"))&&U4 K
theorem ground {prog:Program}{w:World}{mg mb:Str->Option Value}(X:K.In h) (hT:∀P∈E7,h.get? P=some (tabObj #[])) (tg:h.Ns mainGlobals mg) (tb:h.Ns builtinsNs mb) (tl:h.NoLimit) (kQ:∀x:Str,x≠"__name__"->mb x=bootBuiltins x) (tm:∃bm ob,mg "__builtins__"=some (.ref bm)/\bm≠builtinsNs/\h.get? bm=some ob/\ob.cls= .type "module"/\ob.dict=some builtinsNs/\ob.data= .plain) (e:allB K=true) (e1:Tr.map (VH K)=Tr.map UN):
  FG (Ty prog w K h)/\Oe (Ty prog w K h):=by
 unfold allB at e;simp only[dv,ke] at e;obtain⟨⟨⟨⟨⟨⟨⟨⟨⟨c1,c2⟩,c3⟩,c4⟩,c5⟩,c6⟩,c7⟩,c8⟩,c9⟩,oz⟩:=e;have hI:=UX oz;have c7:∀q∈J5,K.lookup q.2.1=none/\codeHdIn K q.1 q.2.1=true/\mainGlobals≠q.2.1:=λq hq=>by
  have:=jU.mp c7 q hq
  simp only[dv,Option.isNone_iff_eq_none,sS] at this;exact⟨this.1.1,this.1.2,this.2⟩
 have dZ:K.In (hideAll h E7):=λa o q=>hideAll_get _ (X a o q) λm=>by
  obtain⟨t,ht,rfl⟩:=eJ.mp m;rw[(c7 t ht).1] at q;cases q
 have bg:=Jx hT tg;have bb:=Jx hT tb;have kR:Oe (Ty prog w K h):=VG (g:=Ty prog w K h) rfl rfl rfl dZ e1 c6;have ex:∀c,An c=true->Uh K c=true:=λc hc=>jU.mp c5 c (O0 hc);have ex':∀c,An c=true->keepIn K (.ref (EE c))=true/\subIn K (.ref (EE c)) (.type "BaseException")=some true/\typeIn K (.ref (EE c))=some (.type "type")/\(∀i,An i=true->exmOne K (.ref (EE c)) (.ref (EE i))=some (decide (i=c)))/\
   Ei K (EE c)=true/\Et K (EE c)=true/\findIn K (.ref (EE c)) "reason"=some none/\findIn K (.ref (EE c)) "__setattr__"=some (some (.builtin "object.__setattr__"))/\findIn K (.ref (EE c)) "__init__"=some (some (.ref 36)):=λc hc=>by
  have:=ex c hc
  unfold Uh at this;simp only[dv,ke,jU] at this;obtain⟨⟨⟨⟨⟨⟨⟨⟨a1,a2⟩,a3⟩,a4⟩,a5⟩,a6⟩,a7⟩,a8⟩,a9⟩:=this;exact⟨a1,a2,a3,λi hi=>a4 i (O0 hi),a5,a6,a7,a8,a9⟩
 have hG:C2 (Ty prog w K h):=by
  refine⟨dZ,λc hc=>Pi (g:=Ty prog w K h) rfl rfl c1 c hc,?_,?_,T9 dZ c4,?_,?_⟩
  ·obtain⟨mc,a,b⟩:=tl;exact⟨mc,Jx hT a,b⟩
  ·intro i hi
   have:=jU.mp c6 (i,0) (my _ (qc hi))
   unfold Xl at this;cases q:MV i 0 with
   |none=>rw [q] at this;simp at this
   |some fd=>
    obtain⟨o,fo,a,b,_⟩:=kR.fn i 0 fd q;exact⟨o,fo,a,b⟩
  ·obtain⟨o,es,ep,a,_⟩:=bg;exact⟨mainGlobals,o,by decide,a⟩
  ·refine⟨mg,mb,bg,bb,λx v hx=>?_⟩;unfold glob at hx;split at hx
   ·rename_i v' hl;cases hx
    have:=jU.mp c2 _ (Mn hl)
    unfold VT at this;split at this
    ·rename_i val hn;exact⟨val,.inl (HP dZ bg hn),λρ h'=>Mz rfl rfl this ρ h'⟩
    ·cases this
   ·have:=jU.mp c3 _ (Mn hx)
    unfold bH at this;simp only[dv,ke,sS] at this;obtain⟨⟨a1,a2⟩,a3⟩:=this;split at a3
    ·rename_i val hb;exact⟨val,.inr ⟨HP dZ bg a1,(kQ x a2).trans hb⟩,λρ h'=>Mz rfl rfl a3 ρ h'⟩
    ·cases a3
 have hE:XG (Ty prog w K h):=by
  refine⟨λc hc=>?_,?_,?_⟩
  ·obtain⟨_,_,_,_,a5,a6,a7,a8,_⟩:=ex' c hc;exact⟨a5,a6,a7,a8⟩
  ·obtain⟨c0,d0,fo,sl,p1,p2,p3,p4,p5,p6,p7,p8,p9,fK,as,ds,i1,i2,i3,i4,i5,i6,i7,i8,i9,o6,o7,i12,o8,o9,jT⟩:=hI;split at jT
   case h_2=>cases jT
   rename_i D hD;exact⟨36,_,fo,p1,p2,p3,p4,p5,p6,p7,p8,p9,fK,as,ds,D,dZ _ _ i1,rfl,c9,λc hc=>(ex' c hc).2.2.2.2.2.2.2.2,i2,i3,i4,i5,i6,i7,i8,i9,o6,o7,i12,o8,PL dZ o9,of_decide_eq_true jT,Ov dZ hD⟩
  ·refine⟨mg,mb,bg,bb,HP dZ bg c8,(kQ _ ⋯).trans (by kernel_rfl)⟩
 refine⟨⟨hG,⟨λq hq=>?_,?_⟩,⟨λi c hi hc=>(ex' c hc).2.2.2.1 i hi⟩,⟨λc hc=>(ex' c hc).1,λc hc=>(ex' c hc).2.1,λc hc=>(ex' c hc).2.2.1⟩,setOk _,T4 hE⟩,kR⟩
 ·obtain⟨_,a2,a3⟩:=c7 q hq;refine⟨hideAll_none _ (qc hq),codeHd_of_K dZ a2,mg,bg,?_,a3⟩;obtain⟨bm,ob,b1,b2,b3,b4,b5,b6⟩:=tm;refine⟨bm,ob,b1,b2,λz=>?_,λz=>?_,GS hT b3 (λvs z=>by rw[b6] at z;cases z),b4,b5,b6⟩
  ·obtain⟨o,es,ep,g1,g2,_⟩:=tg;rw[z,g1] at b3;cases b3;rw[g2] at b6;cases b6
  ·have:=hT q.2.1 (qc hq)
   rw[z,this] at b3;cases b3;cases b6
 ·intro q hq q' hq' he
  have:∀a∈J5,∀b∈J5,a.2.1=b.2.1->a=b:=by decide+kernel
  exact this q hq q' hq' he
structure PQ (g:Gd) (s:Shared) (r:Result) (s':Shared):Prop where
 res:r= .ok (.ret (.bool true))
 kept:∀b o,s.heap.get? b=some o->b∉g.Dz->s'.heap.get? b=some o
 tabs:∀q∈g.tabs,∃ps,s'.heap.get? q.2.1=some (tabObj ps)
 rest:∃h tk,s'={s with heap:=h,toks:=tk}
theorem N4 (GA:FG g) (GF:Oe g){n:Nat}(hn:n<=39){s:Shared}{l:List V}{y:Value}(hy:∀ρ h,VR g ρ h (.fl l) y) (B:g.base.StaysIn s.heap) (tabs:∀q∈g.tabs,s.heap.get? q.2.1=some (tabObj #[])){H':Hp}(e:call (n+1) (.fn 52 0) [.fl l] []= .ok (.bool true) H'):codeN g.M callerA (.call (.ref (g.fa 52 0)) ⟨[y],[]⟩) (PQ g s) s:=by
 cases hfd:MV 52 0 with
 |none=>simp only[Fsx.call,hfd] at e;cases e
 |some fd=>
 have e:Dj (call n) fd [.fl l] []= .ok (.bool true) H':=by simpa only[Fsx.call,hfd] using e
 have SK:=QF GA GF n;obtain⟨o,fo,ho,hd,F⟩:=GF.fn 52 0 fd hfd;obtain⟨as,ds,hpar,fZ⟩:=F.params;obtain⟨k1,k2,k3,_,_⟩:=BS F.ok;unfold Dj at e;cases ff:Ct fd.params fd.dflts [.fl l] with
 |none=>rw [ff] at e;cases e
 |some bs=>
 rw[ff] at e;dsimp only at e;obtain⟨b1,b2,b3,b4⟩:=G4 ff;obtain⟨D,hD,gf,nH,gV⟩:=F.dflt;have r:∀ρ h,Aa g ρ h [.fl l] [y]:=λρ h=>GQ (hy ρ h);have fh:as.length=fd.params.length:=by rw[←fZ,eP]
 have jH:([y]:List Value).length=([.fl l]:List V).length:=rfl;refine Cr (by show 301<1000;decide) (B _ _ ho) hd k2 k3 F.body (F.code.keeps B) ?_;refine C1 (D:=D) hpar (fZ▸F.nodup) ⋯ ⋯ ⋯ ?_;have hseq:wpAny g.M callerA.in1 (seqItems? fo.defaults) (λoD s'=>(oD.getD #[]).toList=D/\s'=s) (λ_ _=>False) s:=by
  rcases hD with ⟨e1,e2⟩|⟨T,oT,m,e1,e2,e3⟩
  ·rw[e1];exact df ⟨by rw[e2];rfl,rfl⟩
  ·rw[e1];exact uC (B _ _ e2) e3 ⟨by simp,rfl⟩
 refine jV hseq (λoD s' ⟨q1,q2⟩=>⟨q1,?_⟩) λ_ _ q=>q.elim;subst q2;rw[fZ,fh];rw[F.globals,F.builtins,F.closure];have fF:∀ρ h,Aa g ρ h ([.fl l]++(fd.dflts.drop (fd.dflts.length+([.fl l]:List V).length-fd.params.length)).filterMap id) ([y]++D.drop (D.length+([y]:List Value).length-fd.params.length)):=λρ h=>by
  refine DQ (r ρ h) ?_;have e:D.length+([y]:List Value).length-fd.params.length=fd.dflts.length+([.fl l]:List V).length-fd.params.length:=by rw[gf,jH]
  rw[e];refine Ge (by rw[qE,qE,gf]) (λk v hk=>?_) b4;rw[oI] at hk ⊢;obtain⟨x,hx,jI⟩:=gV _ v hk;exact⟨x,hx,jI ρ _⟩
 simp only[newFunctionEnv,fx,jp,qM];refine K3 (s6 ?_);have hL:=As s'.heap;have lb:g.base.get? s'.heap.objs.size=none:=by
  cases q:g.base.get? s'.heap.objs.size with
  |none=>rfl
  |some o=>rw [B _ _ q] at hL;cases hL
 have hR:BJ g [] [] [] s'.heap:=⟨B,⟨rfl,List.Pairwise.nil,λi o p q=>(by simp at q)⟩,λp hp=>(nomatch hp),λenv he=>(nomatch he),λq hq=>⟨λ⟨p,hp,_⟩=>(nomatch hp),#[],tabs q hq,trivial,λpos cv hc=>by simp [codeAmong] at hc⟩⟩
 let f0:Fd:=⟨callerA,default,s'.heap.objs.size,[],⟨[],[],false⟩⟩
 have Q0:AF g f0 [] [] [] (s'.heap.push {cls:=.type "frame",data:=.dict #[]}):=
  ⟨⟨⟨_,Heap.Ns.new s'.heap (.type "frame"),λ_ _ _ q=>(nomatch q)⟩,lb,λ⟨p,hp,_⟩=>(nomatch hp),λ_ _ q=>(nomatch q)⟩,hR.keeps (Ak _)⟩
 refine K3 ?_;refine DJ (g:=g) (f:=f0) (s:={s' with heap:=s'.heap.push {cls:=.type "frame",data:=.dict #[]}}) _ (λ_ _ _=>rfl) fo.scope.names [] [] [] [] _ Q0 rfl λcells ρ1 s1 Q1 ⟨t,e1,e2⟩ kp ⟨hh,e3⟩ c1=>?_;have gp:(s'.heap.push ({cls:=.type "frame",data:=.dict #[]}:Obj)).get? s'.heap.objs.size=some {cls:=.type "frame",data:=.dict #[]}:=eQ _ rfl;have hns:s1.heap.Ns s'.heap.objs.size (λ_=>none):=(Heap.Ns.new s'.heap (.type "frame")).keeps kp;have hown:¬Own ρ1 s'.heap.objs.size:=λ⟨p,hp,hb⟩=>by
  rw[e1,qU] at hp
  have:=e2 p hp
  rcases hb with hb|hb
  ·rw[←hb] at this;rw[this.1] at gp;cases gp
  ·rw[←hb] at this;rw[this.2] at gp;cases gp
 rw[F.names] at Q1 c1;generalize hcs:AH fd.names [] []=nc at Q1 c1 e;obtain⟨cs,H1⟩:=nc;dsimp only at Q1 c1 e;generalize hLe:s'.heap.objs.size=L at hns hown hL lb gp;generalize hen:newEnv fo.scope L mainGlobals cells (fo.qualname++".<locals>.") (some (g.fa 52 0)) fo.code none builtinsNs=env;have hef:env.frame=some L:=by rw[←hen];rfl
 have gh:env.scope.kind≠ .module:=by rw[←hen];show fo.scope.kind≠_;rw[k1];decide
 have gi:AF g f0 ρ1 H1 [] s1.heap:=Q1;have dW:Ac g (f0.callee env L ⟨fd.names,cs,fd.lam⟩) (4+3*n+2):=by
  obtain⟨h1,h2,h3,h4,h5⟩:=BS F.ok;rw[←hen,←F.names];refine⟨rfl,rfl,rfl,?_,?_,h1,rfl,rfl,rfl,λx k hk=>?_,⟨_,_,L,rfl,rfl,rfl⟩,F.lam⟩
  ·show 301+1+(4+3*n+2)+8<=600;omega
  ·show 4+3+10*(4+3*n+2)+40<=3000;omega
  ·have hk':fo.scope.names.lookup x=some k:=by rw[←Ep];exact hk
   refine⟨?_,?_⟩
   ·show Ln k (fo.scope.names.lookup x);rw[hk'];cases k<;>first|exact rfl|exact .inl rfl
   ·obtain⟨q,hq,e⟩:=FQ hk;rw[←e];exact h4 q hq
 have Qc:AF g (f0.callee env L ⟨fd.names,cs,fd.lam⟩) ρ1 H1 [] s1.heap:=D4 gi gh hef hns lb hown λx a q=>by
  obtain⟨p,h1,h2⟩:=Dd c1 x a q;exact⟨p,h1,by rw[←hen];exact h2⟩
 subst hen;cases hst:storeAll ⟨fd.names,cs,fd.lam⟩ bs [] H1 with
 |none=>rw [hst] at e;cases e
 |some lh=>
 obtain⟨dQ,H2⟩:=lh;rw[hst] at e;dsimp only at e;subst b3;refine K3 (Eh dW Qc (fF _ _) hst λs2 S2 Q2=>df ?_);refine⟨GA.g.lim.keeps Q2.hr.base,?_⟩;show codeN g.M callerA (.func fd.body _) (PQ g s') s2;have jK:BK (call n) AO fd.body ⟨fd.names,cs,fd.lam⟩ dQ H2≠ .stuck:=λz=>by rw[z] at e;cases e
 refine Hw (AG (sB (N:=AO) GA SK dW ⋯ rfl fd.body dQ H2 ρ1 s2 Q2 jK) (λfl s3 hq=>?_) λx s3 hq=>?_)
 ·obtain⟨a,l3,H3,ρ3,e4,S3,Q3,r3⟩:=hq;rw[e4] at e;cases a with
  |next=>cases e
  |brk=>cases e
  |cont=>cases e
  |ret v=>
   cases e;obtain⟨x,rfl,rv⟩:=r3;unfold VR at rv;subst rv;have S:=S2.trans S3;have gq:∀b o,s'.heap.get? b=some o->b≠L:=λb o q z=>by rw[z,hL] at q;cases q
   refine⟨rfl,λb o q nt=>?_,λq hq=>?_,?_⟩
   ·refine S.kept b o (kp b o (du _ q)) (λ⟨p,hp,hb⟩=>?_) (by simpa using gq b o q) nt λm=>?_
    ·rw[e1,qU] at hp
     have:=e2 p hp
     have iJ:=du ({cls:=.type "frame",data:=.dict #[]}:Obj) q;rcases hb with hb|hb
     ·rw[←hb] at this;rw[this.1] at iJ;cases iJ
     ·rw[←hb] at this;rw[this.2] at iJ;cases iJ
    ·have:b=L:=by
      unfold BZ at m;simp only[me] at m;rw[hef] at m;simpa [f0] using m
     exact gq b o q this
   ·obtain⟨_,ps,h1,_⟩:=Q3.hr.tabs q hq;exact⟨ps,h1⟩
   ·obtain⟨h3,tk,e5⟩:=S.rest;subst e3;exact⟨h3,tk,e5⟩
 ·obtain⟨c,l3,H3,ρ3,a3,rfl,e4,F3,L3⟩:=hq;rw[e4] at e;cases e
end Fsx
set_option maxHeartbeats 4000000
set_option Elab.async false
open _root_.PySem _root_.PySem.W PyProof.Rows
theorem Fsx.UQ {M:Model}{A:Around}{s:Shared}{f:Value}{pos:List Value}{kw:List (Str×Value)}{c:ClaimW}{cl:Str→Option Addr}{mean:ExcName→Option Value}{args:List WData}{s₁:Shared}
  (h:Fsx.codeN M A (.call f ⟨pos,kw⟩) (GoodWG c cl mean args s₁) s):Fsx.Ai M A (PySem.call f pos kw) (fun v s'=>GoodWG c cl mean args s₁ (.ok (.ret v)) s') (fun e s'=>GoodWG c cl mean args s₁ (.error e) s') s:=
 Fsx.Bl (Fsx.A6 h fun res s' g=>by rcases g.1 with ⟨v,_,_,rfl,_⟩|⟨e,_,_,rfl,_⟩<;>exact g)
theorem Fsx.Ti {g:Fsx.Gd}{ρ:Fsx.AR}{h:Heap}:∀{vs:List Value}{ns:List Int},IntsAre vs ns→Fsx.Aa g ρ h (ns.map Fsx.V.int) vs
 |_,_,.nil=>Fsx.Em
 |_,_,.cons n t hr=>by
  show Fsx.Aa _ _ _ (Fsx.V.int n::_) _;unfold Fsx.Aa;exact⟨_,_,rfl,Fsx.Ah,Fsx.Ti hr⟩
theorem Fsx.K3 {h:Heap}{l:List Addr}{c P:Addr}(x:CodeHd (hideAll h l) c P):CodeHd h c P:=by
 obtain⟨o,vs,f,tf,fl,tg,b,n,tt,h1,r⟩:=x;exact⟨o,vs,f,tf,fl,tg,b,n,tt,of_hideAll _ h1,r⟩
set_option pp.deepTerms false in
set_option pp.deepTerms.threshold 6 in
set_option pp.maxSteps 4000 in
theorem Fsx.fin (jU:∀l:List Int,∃H',Fsx.call 40 (.fn 52 0) [.fl (l.map .int)] []= .ok (.bool true) H'):PySem.Challenge.rw_nu0101_01.Holds:=Fsx.hd (by
 k_fill
 intro w s₀ s₁ mg mb G Y fa o pm cd doc dV kV ho hd hcd hD hmg hg args vals as hpre hlay hrd hwl hlo;have KX:=km_in_of Y;have T8:=km_tabs_of Y;have hT:∀P∈Fsx.E7,s₁.heap.get? P=some (tabObj #[]):=T8;have T:=Ground.T G;obtain⟨GA,GF⟩:=Fsx.ground (prog:=PySem.Challenge.rw_nu0101_01.row.prog) (w:=w) KX hT T.g T.b T.nolimit T.builtins T.bmain (by kernel_rfl) (by kernel_rfl);have pA:mg "law"=some (.ref 961):=Fsx.HP KX T.g (by kernel_rfl);have jV:fa=961:=by
  have q:=hmg.symm.trans pA;exact Value.ref.inj (Option.some.inj q)
 subst jV
 wrow_args hpre hlay hrd hwl hlo
 refine Fsx.UQ ?_;rename_i l _ _ _ _ _ _ _ a vs _ hL _ _ _ hI _ hc _;obtain⟨H',jU⟩:=jU l;refine Fsx.A6 (Fsx.N4 GA GF (n:=39) (by omega) (l:=l.map .int) (y:=.ref a) (fun ρ h=>?_) (fun b o e=>of_hideAll _ e) (fun q hq=>hT q.2.1 (List.mem_map_of_mem hq)) jU) fun r s' e=>?_
 ·unfold Fsx.VR;obtain⟨o,h1,h2,n,h3⟩:=hL;exact⟨a,vs.toArray,rfl,⟨o,Fsx.GS hT h1 (fun vs q=>by rw[h3] at q;cases q),h2,n,h3⟩,Fsx.Ti hI,by rw[List.length_map];omega⟩
 ·obtain⟨rfl,hk,ht,h',tk,rfl⟩:=e;have grown:∀b o,b∈Fsx.E7→s₁.heap.get? b=some o→isCodeTable s₁.heap b∧o=tabObj #[]∧∃ps,h'.get? b=some (tabObj ps):=fun b o hb e=>by
   obtain⟨q,hq,rfl⟩:=List.mem_map.mp hb;have e2:=hT _ hb;rw[e] at e2;exact⟨((Fsx.K3 (GA.t.tab q hq).2.1).tab (hT _ hb)).isCodeTable,Option.some.inj e2,ht q hq⟩
  refine⟨.inl ⟨.bool true,.bool true,[],rfl,fun _=>rfl,.bool true,by wrow_post,fun _=>⟨List.nodup_nil,nofun⟩⟩,⟨fun b o e=>?_,fun b o e=>?_⟩,rfl,.of_eq hg⟩
  ·by_cases hb:b∈Fsx.E7
   ·obtain⟨ht,rfl,ps,hP⟩:=grown b o hb e;exact .inr (.inl ⟨ht,rfl,#[],ps,rfl,by rw[Array.empty_append];exact hP⟩)
   ·exact .inl (hk b o e hb)
  ·by_cases hb:b∈Fsx.E7
   ·obtain⟨_,_,ps,hP⟩:=grown b o hb e;exact⟨_,hP⟩
   ·exact⟨o,hk b o e hb⟩)
set_option maxRecDepth 100000 in
theorem PySem.Challenge.cw_nu0101_01_holds : PySem.Challenge.rw_nu0101_01.Holds :=
 Fsx.fin fun l=>Fsx.law_main (n:=20) l
