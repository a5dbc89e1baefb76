import PyProof.Rows.All
import Wide.All
import OpenK.AllK
import Wide.FinOn
import PyProof.CompFree
import Lean
import PySem.Challenge.RW_nt0624_01
open PySem PySem.W PySem.Calls PyProof.Rows
set_option Elab.async false
set_option linter.all false
set_option maxRecDepth 100000
set_option maxHeartbeats 0
set_option genInjectivity false
set_option genSizeOf false
set_option genSizeOfSpec false
set_option tactic.hygienic false
set_option backward.match.sparseCases false
set_option bootstrap.genMatcherCode false
set_option genCtorIdx false
namespace Mine
noncomputable section
theorem ack:type_of% @Option.some.inj:=@Option.some.inj
theorem ads:type_of% @Nat.le_trans:=@Nat.le_trans
theorem afz:type_of% @Bool.and_eq_true:=@Bool.and_eq_true
theorem afA:type_of% @List.length_map:=@List.length_map
theorem afB:type_of% @List.getElem?_eq_some_iff:=@List.getElem?_eq_some_iff
theorem afC:type_of% @List.length_append:=@List.length_append
theorem afD:type_of% @Nat.le_refl:=@Nat.le_refl
theorem afE:type_of% @congrArg:=@congrArg
theorem afF:type_of% @List.all_eq_true:=@List.all_eq_true
theorem afG:type_of% @Nat.le_of_ble_eq_true:=@Nat.le_of_ble_eq_true
theorem afH:type_of% @List.getElem?_eq_getElem:=@List.getElem?_eq_getElem
theorem afI:type_of% @beq_iff_eq:=@beq_iff_eq
theorem afJ:type_of% @List.append_assoc:=@List.append_assoc
theorem afK:type_of% @beq_eq_false_iff_ne:=@beq_eq_false_iff_ne
theorem afL:type_of% @List.mem_append:=@List.mem_append
theorem afM:type_of% @Int.toNat_natCast:=@Int.toNat_natCast
theorem afN:type_of% @Nat.eq_of_beq_eq_true:=@Nat.eq_of_beq_eq_true
theorem afO:type_of% @Nat.zero_le:=@Nat.zero_le
theorem afP:type_of% @List.lookup_cons:=@List.lookup_cons
theorem afQ:type_of% @Heap.get?_push_of_some:=@Heap.get?_push_of_some
theorem afR:type_of% @List.map_append:=@List.map_append
theorem afS:type_of% @wpAny_bind:=@wpAny_bind
theorem afT:type_of% @List.size_toArray:=@List.size_toArray
theorem afU:type_of% @List.append_nil:=@List.append_nil
theorem afV:type_of% @List.prefix_refl:=@List.prefix_refl
theorem afW:type_of% @List.length_singleton:=@List.length_singleton
theorem afX:type_of% @List.getElem?_map:=@List.getElem?_map
theorem afY:type_of% @Bool.not_eq_true':=@Bool.not_eq_true'
theorem afZ:type_of% @Int.natCast_nonneg:=@Int.natCast_nonneg
theorem af0:type_of% @List.mem_singleton:=@List.mem_singleton
theorem af1:type_of% @List.getElem?_eq_none:=@List.getElem?_eq_none
theorem af2:type_of% @trivial:=@trivial
theorem af3:type_of% @wpAny_pure:=@wpAny_pure
theorem af4:type_of% @of_decide_eq_true:=@of_decide_eq_true
theorem af5:type_of% @decide_eq_true_eq:=@decide_eq_true_eq
theorem af6:type_of% @List.length_cons:=@List.length_cons
theorem af7:type_of% @List.mem_map:=@List.mem_map
theorem af8:type_of% @Nat.le_of_succ_le:=@Nat.le_of_succ_le
theorem af9:type_of% @Nat.succ_le_succ:=@Nat.succ_le_succ
theorem aga:type_of% @decide_eq_true:=@decide_eq_true
theorem agb:type_of% @List.getElem?_append_left:=@List.getElem?_append_left
theorem agc:type_of% @List.forall_mem_cons:=@List.forall_mem_cons
theorem agd:type_of% @Heap.get?_push_size:=@Heap.get?_push_size
theorem age:type_of% @Option.map_eq_some_iff:=@Option.map_eq_some_iff
theorem agf:type_of% @Nat.lt_succ_self:=@Nat.lt_succ_self
theorem agg:type_of% @Nat.ne_of_lt:=@Nat.ne_of_lt
theorem agh:type_of% @Nat.le_of_not_lt:=@Nat.le_of_not_lt
theorem agi:type_of% @List.eq_nil_or_concat:=@List.eq_nil_or_concat
theorem agj:type_of% @List.getElem?_append_right:=@List.getElem?_append_right
theorem agk:type_of% @List.mem_cons_of_mem:=@List.mem_cons_of_mem
theorem agl:type_of% @Nat.le_of_add_right_le:=@Nat.le_of_add_right_le
theorem agm:type_of% @Iff.rfl:=@Iff.rfl
theorem agn:type_of% @List.length_set:=@List.length_set
theorem ago:type_of% @Nat.le_add_left:=@Nat.le_add_left
theorem agp:type_of% @Heap.lt_size:=@Heap.lt_size
theorem agq:type_of% @Int.toNat_of_nonneg:=@Int.toNat_of_nonneg
theorem agr:type_of% @List.map_congr_left:=@List.map_congr_left
theorem ags:type_of% @List.concat_eq_append:=@List.concat_eq_append
theorem agt:type_of% @Nat.le_succ:=@Nat.le_succ
theorem agu:type_of% @Bool.and_eq_true_iff:=@Bool.and_eq_true_iff
theorem agv:type_of% @List.mem_of_getElem?:=@List.mem_of_getElem?
theorem agw:type_of% @List.mem_cons_self:=@List.mem_cons_self
theorem agx:type_of% @List.forall_mem_append:=@List.forall_mem_append
theorem agy:type_of% @List.getLast?_eq_some_iff:=@List.getLast?_eq_some_iff
theorem agz:type_of% @List.getElem?_set:=@List.getElem?_set
theorem agA:type_of% @beq_self_eq_true:=@beq_self_eq_true
theorem agB:type_of% @List.map_cons:=@List.map_cons
theorem agC:type_of% @Nat.beq_refl:=@Nat.beq_refl
theorem agD:type_of% @List.getD_eq_getElem?_getD:=@List.getD_eq_getElem?_getD
theorem agE:type_of% @piece_app:=@piece_app
theorem agF:type_of% @segRun_of:=@segRun_of
theorem agG:type_of% @Nat.sub_lt_left_of_lt_add:=@Nat.sub_lt_left_of_lt_add
theorem agH:type_of% @Nat.le_add_right:=@Nat.le_add_right
theorem agI:type_of% @List.map_map:=@List.map_map
theorem agJ:type_of% @PySem.W.Fast.te14364793385576792824:=@PySem.W.Fast.te14364793385576792824
theorem agK:type_of% @List.mem_of_mem_drop:=@List.mem_of_mem_drop
theorem agL:type_of% @Nat.add_le_add:=@Nat.add_le_add
theorem agM:type_of% @Nat.add_le_add_left:=@Nat.add_le_add_left
theorem agN:type_of% @List.filter_eq_self:=@List.filter_eq_self
theorem agO:type_of% @List.map_eq_nil_iff:=@List.map_eq_nil_iff
theorem agP:type_of% @Int.ofNat_le:=@Int.ofNat_le
theorem agQ:type_of% @Nat.lt_irrefl:=@Nat.lt_irrefl
theorem agR:type_of% @Bool.true_and:=@Bool.true_and
theorem agS:type_of% @PySem.F.slot_list_append:=@PySem.F.slot_list_append
theorem agT:type_of% @List.reverse_cons:=@List.reverse_cons
theorem agU:type_of% @Nat.sub_lt_sub_left:=@Nat.sub_lt_sub_left
theorem agV:type_of% @List.cons_append:=@List.cons_append
theorem agW:type_of% @sizeLine_eq:=@sizeLine_eq
theorem agX:type_of% @List.take_of_length_le:=@List.take_of_length_le
theorem agY:type_of% @Nat.le_add_right_of_le:=@Nat.le_add_right_of_le
theorem agZ:type_of% @Nat.succ.inj:=@Nat.succ.inj
theorem ag0:type_of% @Nat.add_comm:=@Nat.add_comm
theorem ag1:type_of% @decide_eq_false:=@decide_eq_false
theorem ag2:type_of% @Bool.false_or:=@Bool.false_or
theorem ag3:type_of% @List.getLast?_concat:=@List.getLast?_concat
theorem ag4:type_of% @Nat.max_le:=@Nat.max_le
theorem ag5:type_of% @Bool.and_false:=@Bool.and_false
theorem ag6:type_of% @Int.ofNat_lt:=@Int.ofNat_lt
theorem ag7:type_of% @List.any_toArray:=@List.any_toArray
theorem ag8:type_of% @List.getElem_mem:=@List.getElem_mem
theorem ag9:type_of% @List.append_inj':=@List.append_inj'
theorem aha:type_of% @PySem.F.type_list_append:=@PySem.F.type_list_append
theorem ahb:type_of% @List.mem_reverse:=@List.mem_reverse
theorem ahc:type_of% @Nat.lt_of_not_le:=@Nat.lt_of_not_le
theorem ahd:type_of% @PySem.F.plainAttrs_dict:=@PySem.F.plainAttrs_dict
theorem ahe:type_of% @wpAny_holding:=@wpAny_holding
theorem ahf:type_of% @Nat.lt_of_le_of_lt:=@Nat.lt_of_le_of_lt
theorem ahg:type_of% @Str.ofString_eq_toList:=@Str.ofString_eq_toList
theorem ahh:type_of% @List.drop_eq_nil_of_le:=@List.drop_eq_nil_of_le
theorem ahi:type_of% @List.take_append_drop:=@List.take_append_drop
theorem ahj:type_of% @List.length_filter_le:=@List.length_filter_le
theorem ahk:type_of% @Nat.succ_pos:=@Nat.succ_pos
theorem ahl:type_of% @List.length_drop:=@List.length_drop
theorem ahm:type_of% @List.dropLast_concat:=@List.dropLast_concat
theorem ahn:type_of% @Nat.succ_ne_self:=@Nat.succ_ne_self
theorem aho:type_of% @List.any_eq_true:=@List.any_eq_true
theorem ahp:type_of% @List.any_cons:=@List.any_cons
theorem ahq:type_of% @wpAny_standAt:=@wpAny_standAt
theorem ahr:type_of% @Int.ofNat_sub:=@Int.ofNat_sub
theorem ahs:type_of% @List.map_drop:=@List.map_drop
theorem aht:type_of% @List.mem_cons:=@List.mem_cons
theorem ahu:type_of% @Heap.dictOf_iff:=@Heap.dictOf_iff
theorem ahv:type_of% @wpAny_mono:=@wpAny_mono
theorem ahw:type_of% @wpAny_bindName:=@wpAny_bindName
theorem ahx:type_of% @Nat.not_lt:=@Nat.not_lt
theorem ahy:type_of% @List.mem_range:=@List.mem_range
set_option tactic.hygienic true
namespace H
noncomputable section
noncomputable abbrev pw:Program:=PySem.Challenge.pw_nt0624_01
noncomputable def vN:Value:=.none
noncomputable def vT:Value:=.bool true
noncomputable def vF:Value:=.bool false
noncomputable def i (x:Int)(t:Tok):Value:=.int x t
noncomputable def s (x:String)(t:Tok):Value:=.str (Str.ofString x) t
noncomputable def y (x:String):Value:=.type x
noncomputable def u (x:String):Value:=.builtin x
noncomputable def r (a:Addr):Value:=.ref a
noncomputable def tu (xs:List Value):Obj:=⟨.type "tuple",none,.seq xs.toArray,#[]⟩
noncomputable def co (xs:List Value):Obj:=⟨.type "code",none,.fields xs.toArray,#[]⟩
noncomputable def nf (xs:List Value):Obj:=⟨.none,none,.fields xs.toArray,#[]⟩
def ce(a b:String)(t:Tok)(l c:Int)(x:Addr)(k:Nat):Obj:=co [s a t,s b (t+1),s "/claim/cut.py" (t+2),i l 0,i c 0,i 0 0,i 0 0,i 3 0,r x,vT,i 181 0,r (x+1),vN,r (x+2),r (x+3),r (x+4),i k 0,i l 0,s "/claim/cut.py" (k+1)]
def t3(b:Int):List (Int×Addr)->List Value
 |[]=>[]
 |(a,c)::l=>i a 0::i b 0::r c::t3 b l
def iq:List Value:=t3 0 [(1,20),(5,27),(7,34),(9,41),(13,48),(19,55),(21,62),(23,69),(30,76),(33,83),(47,91),(60,98),(75,106),(80,114),(82,123),(88,130),(92,137),(97,144),(109,151),(169,256),(185,264),(194,272),(199,279),(202,286),(211,293),(226,300),(239,307),(244,314),(247,321),(249,328),(251,335),(253,342),(258,349),(264,356),(285,363),(289,370),(296,377),(301,384),(315,391),(326,398),(334,405),(348,412),(360,419),(369,426),(372,433),(378,440),(380,447),(385,454),(392,461),(397,468),(408,475),(416,482),(429,489),(443,496),(450,503),(467,510),(478,517),(485,524),(492,531),(504,538),(519,545),(526,552),(528,559),(541,566),(550,573),(553,580),(558,600),(561,612),(608,696),(618,703),(699,820),(707,827),(770,898),(785,906),(795,913),(803,920),(812,925),(816,932),(818,939),(824,944),(831,951),(833,956),(835,963),(840,970),(844,977),(850,982),(860,989),(874,994),(888,1001),(907,1008),(928,1013)]
def NP:List Value:=t3 4 [(620,710),(631,719),(641,728),(647,735),(650,742),(653,749),(656,757),(670,764),(673,771),(678,778),(681,785),(686,792),(691,799),(697,806)]
def NQ:List Value:=t3 4 [(111,158),(115,165),(118,172),(123,179),(128,186),(131,193),(134,200),(138,207),(143,214),(146,221),(152,228),(158,235),(166,242)]
def NR:List Value:=t3 4 [(563,619),(567,626),(580,633),(583,640),(588,647),(591,654),(594,661),(599,668),(603,675),(606,682)]
def NS:List Value:=t3 4 [(709,835),(732,842),(735,849),(738,856),(744,863),(750,870),(762,877),(767,884)]
noncomputable def fl (c:Value)(d:Option Addr)(xs:List Value):Obj:=⟨c,d,.fields xs.toArray,#[]⟩
noncomputable def pl (c:Value)(d:Option Addr)(sl:List (Option Value)):Obj:=⟨c,d,.plain,sl.toArray⟩
noncomputable def cl (c:Value)(d:Option Addr)(name:String)(bases mro:List Value)(ns:Addr)(q:String)(hd:Bool)(sn:List Str)(NT:List Value)(ab:Bool)(co:Option Bool)(cM:Bool)(sl:List (Option Value)):Obj:=
 ⟨c,d,.cls ⟨Str.ofString name,bases,mro,ns,Str.ofString q,hd,sn,NT,ab,co,cM⟩,sl.toArray⟩
noncomputable def e (P:Params)(k:String)(t:Tok)(v:Value):DictEntry:=⟨PyData.keyHash P (Str.ofString k),.str (Str.ofString k) t,v⟩
noncomputable def di (c:Value)(d:Option Addr)(es:List DictEntry)(n:Nat):Obj:=⟨c,d,.dict es.toArray n,#[]⟩
noncomputable def zJ:List Stmt->Nat->Stmt
 |[],_=>.Pass ⟨0,0,0,0⟩
 |a::_,0=>a
 |_::l,n+1=>zJ l n
def aD(n:Nat):Stmt:=zJ pw.main.body n
def sub(n k:Nat):Stmt:=match aD n with
 |.ClassDef (body:=b) ..=>zJ b k
 |st=>st
noncomputable def lu (st:Stmt)(q:String)(g:Addr)(df md cd:Value):FuncData:=match st with
 |.FunctionDef (name:=n) (args:=a) (body:=b) (scope:=sc) ..=>⟨n,Str.ofString q,a,.stmts b,sc,g,[],df,.none,.none,md,none,cd,.none,0⟩
 |_=>default
def f0(st:Stmt)(q:String):Obj:=⟨.none,none,.func (lu st q 0 .none .none .none),#[]⟩
def fn(st:Stmt)(q:String)(df md cd:Value):Obj:=⟨.type "function",none,.func (lu st q 3 df md cd),#[]⟩
noncomputable def sets:List (Nat×Obj)->BT->BT
 |[],t=>t
 |p::l,t=>sets l (t.set p.1 λ_=>p.2)
noncomputable def ub:Life:=.mk [] [] [] 0 [] [] false #[] [] 0 false false false 0 [2000,10,10] false 0 true [] [] 0 false
def fW:Env:={scope:=pw.main.scope,locals:=mainNs,globals:=mainNs,cells:=[],code:=.ref 13,frame:=some 14}
def cE:Code:=.body (behindTheImports pw) fW
noncomputable def B0:List Frame:=[topFrame ⟨0,0,0,0⟩]
def ST(T:Params->BT)(n tk:Nat)(w:World)(os:OsState):SharedT:=⟨T w.params,n,ub,Array.mk [],.mk 0 0 0 0,tk,os⟩
noncomputable def dM (l:List Stmt)(a b:Nat):List Stmt:=(l.drop a).take b
def gl(P:Params):List DictEntry:=[e P "__doc__" 166 vN,e P "__package__" 167 vN,e P "__loader__" 168 (u "__main__.__loader__#opaque"),e P "__spec__" 169 vN,e P "__annotations__" 170 (r 6),e P "__builtins__" 171 (r 4),e P "__file__" 173 (s "/claim/cut.py" 172),e P "__cached__" 174 vN,e P "_wall" 193 (r 21),e P "is_space" 202 (r 28),e P "is_upper" 209 (r 35),e P "lower" 216 (r 42),e P "lower_text" 225 (r 49),e P "is_table_part" 234 (r 56),e P "is_math_point" 242 (r 63),e P "is_html_point" 251 (r 70),e P "implied_names" 257 (r 77),e P "foster_place" 270 (r 84),e P "place_for" 283 (r 92),e P "insert_sign" 296 (r 99),e P "insert_comment" 308 (r 107),e P "make" 319 (r 115),e P "insert_element" 333 (r 124),e P "insert_token" 342 (r 131),e P "insert_void" 351 (r 138),e P "associate" 361 (r 145),e P "OpenStack" 490 (r 246),e P "stops_scope" 501 (r 257),e P "in_scope" 514 (r 265),e P "pop_implied" 524 (r 273),e P "mode_of" 534 (r 280),e P "select_mode" 543 (r 287),e P "mode_for" 553 (r 294),e P "reset_mode" 563 (r 301),e P "value_of" 574 (r 308),e P "is_space_token" 581 (r 315),e P "pop_to_table" 590 (r 322),e P "pop_to_body" 597 (r 329),e P "pop_to_row" 604 (r 336),e P "outside_table" 612 (r 343),e P "close_table" 619 (r 350),e P "open_part" 628 (r 357),e P "table_in_table" 636 (r 364),e P "input_in_table" 645 (r 371),e P "form_in_table" 653 (r 378),e P "start_in_table" 662 (r 385),e P "end_in_table" 671 (r 392),e P "sign_in_table" 679 (r 399),e P "in_table" 688 (r 406),e P "flush_pending" 698 (r 413),e P "in_table_text" 706 (r 420),e P "table_rules" 712 (r 427),e P "unexpected" 721 (r 434),e P "is_table_child" 728 (r 441),e P "has_in_table" 737 (r 448),e P "pop_marked" 746 (r 455),e P "close_caption" 754 (r 462),e P "in_caption" 763 (r 469),e P "leave_columns" 772 (r 476),e P "tag_in_columns" 782 (r 483),e P "in_column_group" 791 (r 490),e P "close_body" 800 (r 497),e P "start_in_body" 809 (r 504),e P "end_in_body" 818 (r 511),e P "in_table_body" 826 (r 518),e P "close_row" 834 (r 525),e P "start_in_row" 843 (r 532),e P "end_in_row" 852 (r 539),e P "in_row" 860 (r 546),e P "close_cell" 867 (r 553),e P "end_in_cell" 876 (r 560),e P "in_cell" 884 (r 567),e P "row_rules" 890 (r 574),e P "HtmlFault" 921 (r 591),e P "Misused" 937 (r 604),e P "Formatting" 1044 (r 686),e P "alike" 1054 (r 697),e P "Tree" 1218 (r 810),e P "above" 1228 (r 821),e P "Builder" 1337 (r 888),e P "is_html_turn" 1347 (r 899),e P "ready" 1360 (r 907),e P "_law_token" 1372 (r 914),e P "_law_body" 1380 (r 921),e P "_law_plain" 1386 (r 926),e P "_law_is_blank" 1393 (r 933),e P "_law_mode" 1403 (r 940),e P "_law_split" 1409 (r 945),e P "_law_holds" 1416 (r 952),e P "_law_names" 1422 (r 957),e P "_law_put" 1431 (r 964),e P "_law_grow" 1441 (r 971),e P "_law_leave" 1452 (r 978),e P "_law_settle" 1458 (r 983),e P "_law_sign" 1471 (r 990),e P "_law_part" 1477 (r 995),e P "_law_other" 1492 (r 1002),e P "_law_tag" 1505 (r 1009),e P "law" 1511 (r 1014)]
noncomputable def hS:Nat->List DictEntry->List DictEntry
 |0,_=>[]
 |_+1,[]=>[]
 |n+1,a::l=>a::hS n l
def kG:Nat->List String->List Value
 |_,[]=>[]
 |t,x::l=>s x t::kG (t+1) l
def gp(b:Nat)(st:Stmt)(a q:String)(t:Nat)(l c:Int)(xs:List String)(df md:Value):Nat×List Obj:=(b,[tu [],nf [],tu (kG (t+3) xs),tu [],f0 st q,ce a q t l c b (t+3+xs.length),fn st q df md (r (b+5))])
def gq(b:Nat)(st:Stmt)(q:String)(t:Nat)(l c:Int)(xs:List String)(df md:Value):Nat×List Obj:=gp b st q q t l c xs df md
def EH:List Obj->Nat->Obj
 |[],_=>nf []
 |a::_,0=>a
 |_::l,n+1=>EH l n
def lk:List (Nat×List Obj)->Nat->Obj
 |[],_=>nf []
 |p::l,i=>cond (Nat.ble p.1 i) (EH p.2 (i-p.1)) (lk l i)
noncomputable def zK (f:Nat->Obj)(m:Nat):Nat->Nat->Nat->BT
 |0,_,_=>.nil
 |k+1,a,b=>cond (Nat.blt b m) (.node (f b) (zK f m k (2*a) (a+b)) (zK f m k (2*a) (2*a+b))) .nil
def m0:Value:=(s "__main__" 164)
def m1:Value:=(s "htmltree.signs" 194)
def m2:Value:=(s "htmltree.names" 226)
def m3:Value:=(s "htmltree.inserting" 258)
def m4:Value:=(s "htmltree.openstack" 362)
def m5:Value:=(s "htmltree.reset" 525)
def m6:Value:=(s "htmltree.tokens" 564)
def m7:Value:=(s "htmltree.tablemodes" 582)
def m8:Value:=(s "htmltree.tablerows" 713)
def m9:Value:=(s "htmltree.faults" 891)
def lx:Value:=(s "htmltree.formatting" 938)
def jc:Value:=(s "htmltree.tree" 1055)
def mX:Value:=(s "htmltree.builder" 1229)
def NU:Value:=(s "htmltree.ready" 1348)
def ly:Value:=(s "law_nt0624_01" 1361)
def o3(P:Params):Obj:=di (y "dict") none (e P "__name__" 165 (s "law_nt0624_01" 1361)::hS 99 (gl P)) 100
def gr(P:Params):List (Nat×List Obj):=[(1010,[tu [],nf [],f0 (aD 104) "law",co [(s "law" 1506),(s "law" 1507),(s "/claim/cut.py" 1508),(i 928 0),(i 1 0),(i 0 0),(i 0 0),(i 3 0),(r 1010),vT,(i 181 0),(r 1011),vN,vN,vN,(r 1012),(i 1509 0),(i 928 0),(s "/claim/cut.py" 1510)],fn (aD 104) "law" vN (s "law_nt0624_01" 1361) (r 1013)]),
 gq 1003 (aD 103) "_law_tag" 1493 907 2 ["state","token","kind","name","place","parts","mode"] vN ly,
 gq 996 (aD 102) "_law_other" 1478 888 4 ["state","token","place","parts","names","mode","is_outside","node","home"] vN ly,
 (991,[tu [],nf [],f0 (aD 101) "_law_part",co [(s "_law_part" 1472),(s "_law_part" 1473),(s "/claim/cut.py" 1474),(i 874 0),(i 5 0),(i 0 0),(i 0 0),(i 3 0),(r 991),vT,(i 181 0),(r 992),vN,vN,vN,(r 993),(i 1475 0),(i 874 0),(s "/claim/cut.py" 1476)],fn (aD 101) "_law_part" vN (s "law_nt0624_01" 1361) (r 994)]),
 gq 984 (aD 100) "_law_sign" 1459 860 2 ["state","sign","names","place","parts","is_column","kids"] vN ly,
 (979,[tu [],nf [],f0 (aD 99) "_law_settle",co [(s "_law_settle" 1453),(s "_law_settle" 1454),(s "/claim/cut.py" 1455),(i 850 0),(i 1 0),(i 0 0),(i 0 0),(i 3 0),(r 979),vT,(i 181 0),(r 980),vN,vN,vN,(r 981),(i 1456 0),(i 850 0),(s "/claim/cut.py" 1457)],fn (aD 99) "_law_settle" vN (s "law_nt0624_01" 1361) (r 982)]),
 gq 972 (aD 98) "_law_leave" 1442 844 2 ["state","keep","names","place","parts"] vN ly,
 gq 965 (aD 97) "_law_grow" 1432 840 3 ["state","name","attrs","node"] vN ly,
 gq 958 (aD 96) "_law_put" 1423 835 3 ["kids","at","sign"] vN ly,
 (953,[tu [],nf [],f0 (aD 95) "_law_names",co [(s "_law_names" 1417),(s "_law_names" 1418),(s "/claim/cut.py" 1419),(i 833 0),(i 1 0),(i 0 0),(i 0 0),(i 3 0),(r 953),vT,(i 181 0),(r 954),vN,vN,vN,(r 955),(i 1420 0),(i 833 0),(s "/claim/cut.py" 1421)],fn (aD 95) "_law_names" vN (s "law_nt0624_01" 1361) (r 956)]),
 gq 946 (aD 94) "_law_holds" 1410 831 1 ["parts"] vN ly,
 (941,[tu [],nf [],f0 (aD 93) "_law_split",co [(s "_law_split" 1404),(s "_law_split" 1405),(s "/claim/cut.py" 1406),(i 824 0),(i 1 0),(i 0 0),(i 0 0),(i 3 0),(r 941),vT,(i 181 0),(r 942),vN,vN,vN,(r 943),(i 1407 0),(i 824 0),(s "/claim/cut.py" 1408)],fn (aD 93) "_law_split" vN (s "law_nt0624_01" 1361) (r 944)]),
 gq 934 (aD 92) "_law_mode" 1394 818 1 ["names","told","mode","name"] vN ly,
 gq 927 (aD 91) "_law_is_blank" 1387 816 1 ["sign"] vN ly,
 (922,[tu [],nf [],f0 (aD 90) "_law_plain",co [(s "_law_plain" 1381),(s "_law_plain" 1382),(s "/claim/cut.py" 1383),(i 812 0),(i 2 0),(i 0 0),(i 0 0),(i 3 0),(r 922),vT,(i 181 0),(r 923),vN,vN,vN,(r 924),(i 1384 0),(i 812 0),(s "/claim/cut.py" 1385)],fn (aD 90) "_law_plain" vN (s "law_nt0624_01" 1361) (r 925)]),
 gq 915 (aD 89) "_law_body" 1373 803 2 ["builder","token"] vN ly,
 gq 908 (aD 88) "_law_token" 1363 795 2 ["number","at","names","drawn"] vN ly,
 gq 901 (aD 86) "ready" 1351 785 2 ["builder","mode","root","body"] (r 900) NU,
 (900,[tu [(s "in body" 1350)]]),
 gq 893 (aD 84) "is_html_turn" 1338 770 2 ["builder","token","tree","node"] vN mX,
 (886,[tu [(s "context" 1309),(s "errors" 1310),(s "form" 1311),(s "formatting" 1312),(s "head" 1313),(s "is_acknowledged" 1314),(s "is_done" 1315),(s "is_foster" 1316),(s "is_frameset_ok" 1317),(s "is_scripting" 1318),(s "is_skipping" 1319),(s "mode" 1320),(s "modes" 1321),(s "original" 1322),(s "owners" 1323),(s "pending" 1324),(s "quirks" 1325),(s "rules" 1326),(s "stack" 1327),(s "tree" 1328),(s "wish" 1329)],di (y "dict") none [e P "__module__" 1238 (s "htmltree.builder" 1229),e P "__firstlineno__" 1242 (i 707 1241),e P "__init__" 1251 (r 836),e P "error" 1259 (r 843),e P "to" 1267 (r 850),e P "use" 1277 (r 857),e P "process" 1285 (r 864),e P "feed" 1293 (r 871),e P "adjusted" 1300 (r 878),e P "is_foreign" 1308 (r 885),e P "__static_attributes__" 1330 (r 886),e P "__dict__" 1332 (r 889),e P "__weakref__" 1334 (r 890),e P "__doc__" 1335 vN] 4,cl (y "type") none "Builder" [(y "object")] [(r 888),(y "object")] 887 "Builder" true [] [] false none false [none,none,some (s "Builder" 1231),some (s "Builder" 1239),some (u "object.__new__"),some vT],fl (y "getset_descriptor") none [(s "__dict__" 1331),(r 888),(u "function.__dict__"),(u "function.__dict__#set")],fl (y "getset_descriptor") none [(s "__weakref__" 1333),(r 888),(u "ExceptionGroup.__weakref__"),vN],fl (y "super") none [(r 888),(r 888),(r 888)],fl (y "builtin_function_or_method") none [(u "object.__init_subclass__"),(r 888)]]),
 gp 879 (sub 83 7) "is_foreign" "Builder.is_foreign" 1301 767 1 ["self","node"] vN mX,
 gp 872 (sub 83 6) "adjusted" "Builder.adjusted" 1294 762 1 ["self"] vN mX,
 gp 865 (sub 83 5) "feed" "Builder.feed" 1286 750 2 ["self","token"] vN mX,
 gp 858 (sub 83 4) "process" "Builder.process" 1278 744 2 ["self","token"] vN mX,
 gp 851 (sub 83 3) "use" "Builder.use" 1268 738 3 ["self","name","token","rule"] vN mX,
 gp 844 (sub 83 2) "to" "Builder.to" 1260 735 2 ["self","mode"] vN mX,
 gp 837 (sub 83 1) "error" "Builder.error" 1252 732 2 ["self","word"] vN mX,
 gp 830 (sub 83 0) "__init__" "Builder.__init__" 1243 709 3 ["self","rules","is_scripting"] (r 829) mX,
 (822,[tu [],fl (y "builtin_function_or_method") none [(u "type.__prepare__"),(y "type")],di (y "dict") none [e P "__module__" 1238 (s "htmltree.builder" 1229),e P "__qualname__" 1240 (s "Builder" 1239),e P "__firstlineno__" 1242 (i 707 1241),e P "__init__" 1251 (r 836),e P "error" 1259 (r 843),e P "to" 1267 (r 850),e P "use" 1277 (r 857),e P "process" 1285 (r 864),e P "feed" 1293 (r 871),e P "adjusted" 1300 (r 878),e P "is_foreign" 1308 (r 885),e P "__static_attributes__" 1330 (r 886)] 12,tu [],nf (NS.take 24),co [(s "Builder" 1233),(s "Builder" 1234),(s "/claim/cut.py" 1235),(i 707 0),(i 0 0),(i 0 0),(i 0 0),(i 0 0),(r 825),vF,(i 181 0),(r 826),vN,vN,vN,vN,(i 1236 0),(i 707 0),(s "/claim/cut.py" 1237)],pl (y "frame") none [some (r 827),some (r 3),some (r 824),none,some (s "htmltree.builder" 1229),none,some (r 0)],tu [vF]]),
 gq 815 (aD 81) "above" 1219 699 2 ["tree","node","out","up"] vN jc,
 (808,[tu [(s "attrs" 1203),(s "children" 1204),(s "contents" 1205),(s "kinds" 1206),(s "names" 1207),(s "parents" 1208),(s "spaces" 1209),(s "texts" 1210)],di (y "dict") none [e P "__module__" 1064 (s "htmltree.tree" 1055),e P "__firstlineno__" 1068 (i 618 1067),e P "__init__" 1075 (r 711),e P "add" 1090 (r 720),e P "element" 1102 (r 729),e P "text" 1110 (r 736),e P "comment" 1118 (r 743),e P "doctype" 1128 (r 750),e P "insert" 1141 (r 758),e P "append" 1150 (r 765),e P "remove" 1158 (r 772),e P "move_children" 1167 (r 779),e P "place" 1175 (r 786),e P "last" 1183 (r 793),e P "value" 1193 (r 800),e P "is_html" 1202 (r 807),e P "__static_attributes__" 1211 (r 808),e P "__dict__" 1213 (r 811),e P "__weakref__" 1215 (r 812),e P "__doc__" 1216 vN] 4,cl (y "type") none "Tree" [(y "object")] [(r 810),(y "object")] 809 "Tree" true [] [] false none false [none,none,some (s "Tree" 1057),some (s "Tree" 1065),some (u "object.__new__"),some vT],fl (y "getset_descriptor") none [(s "__dict__" 1212),(r 810),(u "function.__dict__"),(u "function.__dict__#set")],fl (y "getset_descriptor") none [(s "__weakref__" 1214),(r 810),(u "ExceptionGroup.__weakref__"),vN],fl (y "super") none [(r 810),(r 810),(r 810)],fl (y "builtin_function_or_method") none [(u "object.__init_subclass__"),(r 810)]]),
 gp 801 (sub 80 13) "is_html" "Tree.is_html" 1194 697 3 ["self","node","name"] vN jc,
 gp 794 (sub 80 12) "value" "Tree.value" 1184 691 3 ["self","node","name","pair"] vN jc,
 gp 787 (sub 80 11) "last" "Tree.last" 1176 686 2 ["self","parent"] vN jc,
 gp 780 (sub 80 10) "place" "Tree.place" 1168 681 2 ["self","node"] vN jc,
 gp 773 (sub 80 9) "move_children" "Tree.move_children" 1159 678 3 ["self","here","there"] vN jc,
 gp 766 (sub 80 8) "remove" "Tree.remove" 1151 673 2 ["self","node"] vN jc,
 gp 759 (sub 80 7) "append" "Tree.append" 1142 670 3 ["self","parent","node"] vN jc,
 gp 752 (sub 80 6) "insert" "Tree.insert" 1131 656 4 ["self","parent","node","before","at"] (r 751) jc,
 (751,[tu [(i (-1) 1130)]]),
 gp 744 (sub 80 5) "doctype" "Tree.doctype" 1119 653 4 ["self","name","public","system"] vN jc,
 gp 737 (sub 80 4) "comment" "Tree.comment" 1111 650 2 ["self","text"] vN jc,
 gp 730 (sub 80 3) "text" "Tree.text" 1103 647 2 ["self","text"] vN jc,
 gp 723 (sub 80 2) "element" "Tree.element" 1092 641 4 ["self","name","space","attrs","node"] (r 722) jc,
 (721,[tu [],tu [(s "html" 1091),(r 721)]]),
 gp 714 (sub 80 1) "add" "Tree.add" 1079 631 6 ["self","kind","space","name","attrs","text"] (r 713) jc,
 (712,[tu [],tu [(s "" 1076),(s "" 1077),(r 712),(s "" 1078)]]),
 gp 705 (sub 80 0) "__init__" "Tree.__init__" 1069 620 1 ["self"] vN jc,
 (698,[tu [],fl (y "builtin_function_or_method") none [(u "type.__prepare__"),(y "type")],di (y "dict") none [e P "__module__" 1064 (s "htmltree.tree" 1055),e P "__qualname__" 1066 (s "Tree" 1065),e P "__firstlineno__" 1068 (i 618 1067),e P "__init__" 1075 (r 711),e P "add" 1090 (r 720),e P "element" 1102 (r 729),e P "text" 1110 (r 736),e P "comment" 1118 (r 743),e P "doctype" 1128 (r 750),e P "insert" 1141 (r 758),e P "append" 1150 (r 765),e P "remove" 1158 (r 772),e P "move_children" 1167 (r 779),e P "place" 1175 (r 786),e P "last" 1183 (r 793),e P "value" 1193 (r 800),e P "is_html" 1202 (r 807),e P "__static_attributes__" 1211 (r 808)] 18,tu [],nf (NP.take 42),co [(s "Tree" 1059),(s "Tree" 1060),(s "/claim/cut.py" 1061),(i 618 0),(i 0 0),(i 0 0),(i 0 0),(i 0 0),(r 701),vF,(i 181 0),(r 702),vN,vN,vN,vN,(i 1062 0),(i 618 0),(s "/claim/cut.py" 1063)],pl (y "frame") none [some (r 703),some (r 3),some (r 700),none,some (s "htmltree.tree" 1055),none,some (r 0)]]),
 gq 691 (aD 78) "alike" 1045 608 3 ["tree","a","b","pair"] vN lx,
 (684,[tu [(s "items" 1035),(s "tree" 1036)],di (y "dict") none [e P "__module__" 947 (s "htmltree.formatting" 938),e P "__firstlineno__" 951 (i 561 950),e P "__init__" 959 (r 620),e P "push" 970 (r 627),e P "mark" 977 (r 634),e P "clear_to_mark" 984 (r 641),e P "find" 992 (r 648),e P "has" 1000 (r 655),e P "place" 1008 (r 662),e P "remove" 1016 (r 669),e P "replace" 1025 (r 676),e P "put_at" 1034 (r 683),e P "__static_attributes__" 1037 (r 684),e P "__dict__" 1039 (r 687),e P "__weakref__" 1041 (r 688),e P "__doc__" 1042 vN] 4,cl (y "type") none "Formatting" [(y "object")] [(r 686),(y "object")] 685 "Formatting" true [] [] false none false [none,none,some (s "Formatting" 940),some (s "Formatting" 948),some (u "object.__new__"),some vT],fl (y "getset_descriptor") none [(s "__dict__" 1038),(r 686),(u "function.__dict__"),(u "function.__dict__#set")],fl (y "getset_descriptor") none [(s "__weakref__" 1040),(r 686),(u "ExceptionGroup.__weakref__"),vN],fl (y "super") none [(r 686),(r 686),(r 686)],fl (y "builtin_function_or_method") none [(u "object.__init_subclass__"),(r 686)]]),
 gp 677 (sub 77 9) "put_at" "Formatting.put_at" 1026 606 3 ["self","place","node"] vN lx,
 gp 670 (sub 77 8) "replace" "Formatting.replace" 1017 603 3 ["self","old","new"] vN lx,
 gp 663 (sub 77 7) "remove" "Formatting.remove" 1009 599 2 ["self","node"] vN lx,
 gp 656 (sub 77 6) "place" "Formatting.place" 1001 594 2 ["self","node"] vN lx,
 gp 649 (sub 77 5) "has" "Formatting.has" 993 591 2 ["self","node"] vN lx,
 gp 642 (sub 77 4) "find" "Formatting.find" 985 588 2 ["self","name"] vN lx,
 gp 635 (sub 77 3) "clear_to_mark" "Formatting.clear_to_mark" 978 583 1 ["self"] vN lx,
 gp 628 (sub 77 2) "mark" "Formatting.mark" 971 580 1 ["self"] vN lx,
 gp 621 (sub 77 1) "push" "Formatting.push" 960 567 2 ["self","node","count","earliest","at"] vN lx,
 gp 614 (sub 77 0) "__init__" "Formatting.__init__" 952 563 2 ["self","tree"] vN lx,
 (589,[tu [(s "why" 913)],di (y "dict") none [e P "__module__" 900 (s "htmltree.faults" 891),e P "__firstlineno__" 904 (i 553 903),e P "__init__" 912 (r 588),e P "__static_attributes__" 914 (r 589),e P "__weakref__" 916 (r 592),e P "__doc__" 917 vN] 3,cl (y "type") none "HtmlFault" [(y "Exception")] [(r 591),(y "Exception"),(y "BaseException"),(y "object")] 590 "HtmlFault" true [] [(r 604)] false none false [some (r 575),none,some (s "HtmlFault" 893),some (s "HtmlFault" 901),some (u "Exception.__new__"),some vT],fl (y "getset_descriptor") none [(s "__weakref__" 915),(r 591),(u "ExceptionGroup.__weakref__"),vN],fl (y "super") none [(r 591),(r 591),(r 591)],fl (y "builtin_function_or_method") none [(u "object.__init_subclass__"),(r 591)],tu [(r 591)],fl (y "builtin_function_or_method") none [(u "type.__prepare__"),(y "type")],di (y "dict") none [e P "__module__" 929 (s "htmltree.faults" 891),e P "__qualname__" 931 (s "Misused" 930),e P "__firstlineno__" 933 (i 558 932),e P "__static_attributes__" 934 (r 602)] 4,tu [],nf [],co [(s "Misused" 924),(s "Misused" 925),(s "/claim/cut.py" 926),(i 558 0),(i 0 0),(i 0 0),(i 0 0),(i 0 0),(r 598),vF,(i 181 0),(r 599),vN,vN,vN,vN,(i 927 0),(i 558 0),(s "/claim/cut.py" 928)],pl (y "frame") none [some (r 600),some (r 3),some (r 597),none,some (s "htmltree.faults" 891),none,some (r 0)],tu [],di (y "dict") none [e P "__module__" 929 (s "htmltree.faults" 891),e P "__firstlineno__" 933 (i 558 932),e P "__static_attributes__" 934 (r 602),e P "__doc__" 935 vN] 2,cl (y "type") none "Misused" [(r 591)] [(r 604),(r 591),(y "Exception"),(y "BaseException"),(y "object")] 603 "Misused" true [] [] false none false [some (r 595),none,some (s "Misused" 922),some (s "Misused" 930),some (u "Exception.__new__"),some vT],fl (y "super") none [(r 604),(r 604),(r 604)],fl (y "builtin_function_or_method") none [(u "object.__init_subclass__"),(r 604)],tu [],fl (y "builtin_function_or_method") none [(u "type.__prepare__"),(y "type")],di (y "dict") none [e P "__module__" 947 (s "htmltree.formatting" 938),e P "__qualname__" 949 (s "Formatting" 948),e P "__firstlineno__" 951 (i 561 950),e P "__init__" 959 (r 620),e P "push" 970 (r 627),e P "mark" 977 (r 634),e P "clear_to_mark" 984 (r 641),e P "find" 992 (r 648),e P "has" 1000 (r 655),e P "place" 1008 (r 662),e P "remove" 1016 (r 669),e P "replace" 1025 (r 676),e P "put_at" 1034 (r 683),e P "__static_attributes__" 1037 (r 684)] 14,tu [],nf (NR.take 30),co [(s "Formatting" 942),(s "Formatting" 943),(s "/claim/cut.py" 944),(i 561 0),(i 0 0),(i 0 0),(i 0 0),(i 0 0),(r 610),vF,(i 181 0),(r 611),vN,vN,vN,vN,(i 945 0),(i 561 0),(s "/claim/cut.py" 946)],pl (y "frame") none [some (r 612),some (r 3),some (r 609),none,some (s "htmltree.formatting" 938),none,some (r 0)]]),
 gp 582 (sub 74 0) "__init__" "HtmlFault.__init__" 905 555 2 ["self","why"] vN m9,
 (575,[tu [(y "Exception")],fl (y "builtin_function_or_method") none [(u "type.__prepare__"),(y "type")],di (y "dict") none [e P "__module__" 900 (s "htmltree.faults" 891),e P "__qualname__" 902 (s "HtmlFault" 901),e P "__firstlineno__" 904 (i 553 903),e P "__init__" 912 (r 588),e P "__static_attributes__" 914 (r 589)] 5,tu [],nf [(i 555 0),(i 4 0),(r 587)],co [(s "HtmlFault" 895),(s "HtmlFault" 896),(s "/claim/cut.py" 897),(i 553 0),(i 0 0),(i 0 0),(i 0 0),(i 0 0),(r 578),vF,(i 181 0),(r 579),vN,vN,vN,vN,(i 898 0),(i 553 0),(s "/claim/cut.py" 899)],pl (y "frame") none [some (r 580),some (r 3),some (r 577),none,some (s "htmltree.faults" 891),none,some (r 0)]]),
 gq 568 (aD 72) "row_rules" 885 550 0 [] vN m8,
 gq 561 (aD 71) "in_cell" 877 541 2 ["builder","token"] vN m8,
 gq 554 (aD 70) "end_in_cell" 868 528 2 ["builder","token","name"] vN m8,
 gq 547 (aD 69) "close_cell" 861 526 1 ["builder"] vN m8,
 gq 540 (aD 68) "in_row" 853 519 2 ["builder","token"] vN m8,
 gq 533 (aD 67) "end_in_row" 844 504 2 ["builder","token","name"] vN m8,
 gq 526 (aD 66) "start_in_row" 835 492 2 ["builder","token","name"] vN m8,
 gq 519 (aD 65) "close_row" 827 485 2 ["builder","token"] vN m8,
 gq 512 (aD 64) "in_table_body" 819 478 2 ["builder","token"] vN m8,
 gq 505 (aD 63) "end_in_body" 810 467 2 ["builder","token","name"] vN m8,
 gq 498 (aD 62) "start_in_body" 801 450 2 ["builder","token","name"] vN m8,
 gq 491 (aD 61) "close_body" 792 443 3 ["builder","token","names"] vN m8,
 gq 484 (aD 60) "in_column_group" 783 429 2 ["builder","token","kind"] vN m8,
 gq 477 (aD 59) "tag_in_columns" 773 416 2 ["builder","token","is_start","name"] vN m8,
 gq 470 (aD 58) "leave_columns" 764 408 3 ["builder","token","is_again"] vN m8,
 gq 463 (aD 57) "in_caption" 755 397 2 ["builder","token","kind"] vN m8,
 gq 456 (aD 56) "close_caption" 747 392 2 ["builder","token"] vN m8,
 gq 449 (aD 55) "pop_marked" 738 385 3 ["builder","names","mode"] vN m8,
 gq 442 (aD 54) "has_in_table" 729 380 3 ["builder","token","names"] vN m8,
 gq 435 (aD 53) "is_table_child" 722 378 1 ["name"] vN m8,
 gq 428 (aD 52) "unexpected" 715 372 1 ["token"] vN m8,
 gq 421 (aD 50) "table_rules" 707 369 0 [] vN m7,
 gq 414 (aD 49) "in_table_text" 699 360 2 ["builder","token"] vN m7,
 gq 407 (aD 48) "flush_pending" 689 348 1 ["builder","pending","is_blank","each"] vN m7,
 gq 400 (aD 47) "in_table" 680 334 2 ["builder","token","kind"] vN m7,
 gq 393 (aD 46) "sign_in_table" 672 326 2 ["builder","token"] vN m7,
 gq 386 (aD 45) "end_in_table" 663 315 2 ["builder","token","name"] vN m7,
 gq 379 (aD 44) "start_in_table" 654 301 2 ["builder","token","name"] vN m7,
 gq 372 (aD 43) "form_in_table" 646 296 2 ["builder","token"] vN m7,
 gq 365 (aD 42) "input_in_table" 637 289 2 ["builder","token","sort"] vN m7,
 gq 358 (aD 41) "table_in_table" 629 285 2 ["builder","token"] vN m7,
 gq 351 (aD 40) "open_part" 620 264 2 ["builder","token","name"] vN m7,
 gq 344 (aD 39) "close_table" 613 258 1 ["builder"] vN m7,
 gq 337 (aD 38) "outside_table" 605 253 2 ["builder","token"] vN m7,
 gq 330 (aD 37) "pop_to_row" 598 251 1 ["builder"] vN m7,
 gq 323 (aD 36) "pop_to_body" 591 249 1 ["builder"] vN m7,
 gq 316 (aD 35) "pop_to_table" 584 247 1 ["builder"] vN m7,
 gq 309 (aD 33) "is_space_token" 575 244 1 ["token"] vN m6,
 gq 302 (aD 32) "value_of" 566 239 2 ["token","name","pair"] vN m6,
 gq 295 (aD 30) "reset_mode" 554 226 1 ["builder","at","mode","node"] vN m5,
 gq 288 (aD 29) "mode_for" 544 211 3 ["builder","node","at","name"] vN m5,
 gq 281 (aD 28) "select_mode" 535 202 2 ["builder","at","node"] vN m5,
 gq 274 (aD 27) "mode_of" 527 199 1 ["name","table"] vN m5,
 gq 267 (aD 25) "pop_implied" 516 194 2 ["stack","but","names"] (r 266) m4,
 (266,[tu [(s "" 515)]]),
 gq 259 (aD 24) "in_scope" 503 185 3 ["stack","names","sort","tree","at","node"] (r 258) m4,
 (258,[tu [(s "" 502)]]),
 gq 251 (aD 23) "stops_scope" 491 169 3 ["tree","node","sort","space","name"] vN m4,
 (244,[tu [(s "items" 481),(s "tree" 482)],di (y "dict") none [e P "__module__" 371 (s "htmltree.openstack" 362),e P "__firstlineno__" 375 (i 109 374),e P "__init__" 383 (r 159),e P "push" 391 (r 166),e P "pop" 398 (r 173),e P "current" 405 (r 180),e P "many" 412 (r 187),e P "has" 420 (r 194),e P "remove" 428 (r 201),e P "place" 436 (r 208),e P "put_at" 445 (r 215),e P "name" 453 (r 222),e P "has_name" 462 (r 229),e P "pop_until" 472 (r 236),e P "pop_to" 480 (r 243),e P "__static_attributes__" 483 (r 244),e P "__dict__" 485 (r 247),e P "__weakref__" 487 (r 248),e P "__doc__" 488 vN] 4,cl (y "type") none "OpenStack" [(y "object")] [(r 246),(y "object")] 245 "OpenStack" true [] [] false none false [none,none,some (s "OpenStack" 364),some (s "OpenStack" 372),some (u "object.__new__"),some vT],fl (y "getset_descriptor") none [(s "__dict__" 484),(r 246),(u "function.__dict__"),(u "function.__dict__#set")],fl (y "getset_descriptor") none [(s "__weakref__" 486),(r 246),(u "ExceptionGroup.__weakref__"),vN],fl (y "super") none [(r 246),(r 246),(r 246)],fl (y "builtin_function_or_method") none [(u "object.__init_subclass__"),(r 246)]]),
 gp 237 (sub 22 12) "pop_to" "OpenStack.pop_to" 473 166 2 ["self","names"] vN m4,
 gp 230 (sub 22 11) "pop_until" "OpenStack.pop_until" 463 158 2 ["self","names","name","node"] vN m4,
 gp 223 (sub 22 10) "has_name" "OpenStack.has_name" 454 152 2 ["self","name","node"] vN m4,
 gp 216 (sub 22 9) "name" "OpenStack.name" 446 146 1 ["self","node"] vN m4,
 gp 209 (sub 22 8) "put_at" "OpenStack.put_at" 437 143 3 ["self","place","node"] vN m4,
 gp 202 (sub 22 7) "place" "OpenStack.place" 429 138 2 ["self","node"] vN m4,
 gp 195 (sub 22 6) "remove" "OpenStack.remove" 421 134 2 ["self","node"] vN m4,
 gp 188 (sub 22 5) "has" "OpenStack.has" 413 131 2 ["self","node"] vN m4,
 gp 181 (sub 22 4) "many" "OpenStack.many" 406 128 1 ["self"] vN m4,
 gp 174 (sub 22 3) "current" "OpenStack.current" 399 123 1 ["self"] vN m4,
 gp 167 (sub 22 2) "pop" "OpenStack.pop" 392 118 1 ["self"] vN m4,
 gp 160 (sub 22 1) "push" "OpenStack.push" 384 115 2 ["self","node"] vN m4,
 gp 153 (sub 22 0) "__init__" "OpenStack.__init__" 376 111 2 ["self","tree"] vN m4,
 (146,[tu [],fl (y "builtin_function_or_method") none [(u "type.__prepare__"),(y "type")],di (y "dict") none [e P "__module__" 371 (s "htmltree.openstack" 362),e P "__qualname__" 373 (s "OpenStack" 372),e P "__firstlineno__" 375 (i 109 374),e P "__init__" 383 (r 159),e P "push" 391 (r 166),e P "pop" 398 (r 173),e P "current" 405 (r 180),e P "many" 412 (r 187),e P "has" 420 (r 194),e P "remove" 428 (r 201),e P "place" 436 (r 208),e P "put_at" 445 (r 215),e P "name" 453 (r 222),e P "has_name" 462 (r 229),e P "pop_until" 472 (r 236),e P "pop_to" 480 (r 243),e P "__static_attributes__" 483 (r 244)] 17,tu [],nf (NQ.take 39),co [(s "OpenStack" 366),(s "OpenStack" 367),(s "/claim/cut.py" 368),(i 109 0),(i 0 0),(i 0 0),(i 0 0),(i 0 0),(r 149),vF,(i 181 0),(r 150),vN,vN,vN,vN,(i 369 0),(i 109 0),(s "/claim/cut.py" 370)],pl (y "frame") none [some (r 151),some (r 3),some (r 148),none,some (s "htmltree.openstack" 362),none,some (r 0)]]),
 gq 139 (aD 20) "associate" 352 97 2 ["builder","node","tree","name"] vN m3,
 gq 132 (aD 19) "insert_void" 343 92 2 ["builder","token","node"] vN m3,
 gq 125 (aD 18) "insert_token" 334 88 2 ["builder","token","node"] vN m3,
 gq 118 (aD 17) "insert_element" 321 82 4 ["builder","name","attrs","space","parent","before","node"] (r 117) m3,
 (116,[tu [],tu [(r 116),(s "html" 320)]]),
 gq 109 (aD 16) "make" 310 80 4 ["builder","name","attrs","space"] (r 108) m3,
 (108,[tu [(s "html" 309)]]),
 gq 101 (aD 15) "insert_comment" 299 75 3 ["builder","text","parent","before"] (r 100) m3,
 (100,[tu [(i (-1) 298)]]),
 gq 93 (aD 14) "insert_sign" 284 60 2 ["builder","sign","tree","parent","before","ahead","at"] vN m3,
 gq 86 (aD 13) "place_for" 273 47 2 ["builder","target","tree","here","before"] (r 85) m3,
 (85,[tu [(i (-1) 272)]]),
 gq 78 (aD 12) "foster_place" 260 33 1 ["builder","tree","items","at","node"] vN m3,
 gq 71 (aD 10) "implied_names" 252 30 0 [] vN m2,
 gq 64 (aD 9) "is_html_point" 243 23 2 ["tree","node","encoding"] vN m2,
 gq 57 (aD 8) "is_math_point" 235 21 2 ["tree","node"] vN m2,
 gq 50 (aD 7) "is_table_part" 228 19 1 ["name"] vN m2,
 gq 43 (aD 5) "lower_text" 217 13 1 ["text","out","c"] vN m1,
 gq 36 (aD 4) "lower" 210 9 1 ["c"] vN m1,
 gq 29 (aD 3) "is_upper" 203 7 1 ["c"] vN m1,
 gq 22 (aD 2) "is_space" 196 5 1 ["c"] vN m1,
 gq 15 (aD 0) "_wall" 187 1 1 ["k"] vN m0,
 (0,[boot_o_0 P,boot_o_1 P,di vN none [e P "type.__subclasses__.Exception.0" 918 (i 591 0),e P "type.__subclasses__.Exception.n" 919 (i 1 0)] 2,o3 P,boot_o_4 P,boot_o_5 P,boot_o_6 P,boot_o_7 P,boot_o_8 P,boot_o_9 P,boot_o_10 P,tu [],nf (iq.take 273),co [(s "<module>" 182),(s "<module>" 183),(s "/claim/cut.py" 184),(i 1 0),(i 0 0),(i 0 0),(i 0 0),(i 0 0),(r 11),vF,(i 181 0),(r 12),vN,vN,vN,vN,(i 185 0),(i 1 0),(s "/claim/cut.py" 186)],pl (y "frame") none [some (r 13),some (r 3),some (r 3),none,some (s "__main__" 164),none,some (r 0)]])]
def ob(P:Params)(i:Nat):Obj:=lk (gr P) i
def Fm(P:Params)(m:Nat):BT:=zK (lk (gr P)) m 11 1 0
def F(P:Params):BT:=Fm P 1015
def T0(P:Params):BT:=sets [(2,boot_o_2 P),(3,boot_o_3 P),(12,(nf []))] (Fm P 15)
def T1(P:Params):BT:=sets [(2,boot_o_2 P),(3,(di (y "dict") none (e P "__name__" 165 (s "htmltree.inserting" 258)::hS 18 (gl P)) 19)),(12,(nf (iq.take 30)))] (Fm P 85)
def T2(P:Params):BT:=sets [(2,boot_o_2 P),(3,(di (y "dict") none (e P "__name__" 165 (s "htmltree.openstack" 362)::hS 26 (gl P)) 27)),(12,(nf (iq.take 54)))] (Fm P 146)
def T3(P:Params):BT:=sets [(2,boot_o_2 P),(3,(di (y "dict") none (e P "__name__" 165 (s "htmltree.openstack" 362)::hS 27 (gl P)) 28)),(12,(nf (iq.take 57)))] (Fm P 251)
def T4(P:Params):BT:=sets [(2,boot_o_2 P),(3,(di (y "dict") none (e P "__name__" 165 (s "htmltree.tablemodes" 582)::hS 36 (gl P)) 37)),(12,(nf (iq.take 84)))] (Fm P 316)
def T5(P:Params):BT:=sets [(2,boot_o_2 P),(3,(di (y "dict") none (e P "__name__" 165 (s "htmltree.tablemodes" 582)::hS 47 (gl P)) 48)),(12,(nf (iq.take 117)))] (Fm P 393)
def T6(P:Params):BT:=sets [(2,boot_o_2 P),(3,(di (y "dict") none (e P "__name__" 165 (s "htmltree.tablerows" 713)::hS 57 (gl P)) 58)),(12,(nf (iq.take 147)))] (Fm P 463)
def T7(P:Params):BT:=sets [(2,boot_o_2 P),(3,(di (y "dict") none (e P "__name__" 165 (s "htmltree.tablerows" 713)::hS 67 (gl P)) 68)),(12,(nf (iq.take 177)))] (Fm P 533)
def T8(P:Params):BT:=sets [(2,boot_o_2 P),(3,(di (y "dict") none (e P "__name__" 165 (s "htmltree.faults" 891)::hS 73 (gl P)) 74)),(12,(nf (iq.take 195)))] (Fm P 575)
def T9(P:Params):BT:=sets [(3,(di (y "dict") none (e P "__name__" 165 (s "htmltree.faults" 891)::hS 74 (gl P)) 75)),(12,(nf (iq.take 198))),(591,(cl (y "type") none "HtmlFault" [(y "Exception")] [(r 591),(y "Exception"),(y "BaseException"),(y "object")] 590 "HtmlFault" true [] [] false none false [some (r 575),none,some (s "HtmlFault" 893),some (s "HtmlFault" 901),some (u "Exception.__new__"),some vT]))] (Fm P 595)
def EI(P:Params):BT:=sets [(3,(di (y "dict") none (e P "__name__" 165 (s "htmltree.formatting" 938)::hS 75 (gl P)) 76)),(12,(nf (iq.take 201)))] (Fm P 607)
def EJ(P:Params):BT:=sets [(3,(di (y "dict") none (e P "__name__" 165 (s "htmltree.formatting" 938)::hS 76 (gl P)) 77)),(12,(nf (iq.take 204)))] (Fm P 691)
def EK(P:Params):BT:=sets [(3,(di (y "dict") none (e P "__name__" 165 (s "htmltree.tree" 1055)::hS 77 (gl P)) 78)),(12,(nf (iq.take 207)))] (Fm P 698)
def EL(P:Params):BT:=sets [(3,(di (y "dict") none (e P "__name__" 165 (s "htmltree.tree" 1055)::hS 78 (gl P)) 79)),(12,(nf (iq.take 210)))] (Fm P 815)
def EM(P:Params):BT:=sets [(3,(di (y "dict") none (e P "__name__" 165 (s "htmltree.builder" 1229)::hS 79 (gl P)) 80)),(12,(nf (iq.take 213)))] (Fm P 822)
def EN(P:Params):BT:=sets [(3,(di (y "dict") none (e P "__name__" 165 (s "htmltree.builder" 1229)::hS 80 (gl P)) 81)),(12,(nf (iq.take 216)))] (Fm P 893)
def EO(P:Params):BT:=sets [(3,(di (y "dict") none (e P "__name__" 165 (s "law_nt0624_01" 1361)::hS 90 (gl P)) 91)),(12,(nf (iq.take 246)))] (Fm P 958)
def rO(P:Params):BT:=F P
theorem ir{w:World}{N:Nat}{S:SharedT}{t:Thread}{r:Option (Flow×SharedT×Code×Pos)}(h:PySem.W.Fast.tw10110043849684766642 PySem.W.Fast.tw14364793385576792824 pw w 11 (some (.ref 6)) 1 N S t=r):segRunT treeTable pw w 11 (some (.ref 6)) 1 N S t=r:=by rw[PySem.W.Fast.te10110043849684766642,agJ];exact h
theorem NV{w:World}{N:Nat}{S:Shared}{t:Thread}{r:Option (Flow×Shared×Code×Pos)}(h:PySem.W.Fast.tw14374325043358763698 PySem.W.Fast.tw14364793385576792824 pw w 11 (some (.ref 6)) 1 N S t=r):segRun treeTable pw w 11 (some (.ref 6)) 1 N S t=r:=by rw[PySem.W.Fast.te14374325043358763698,agJ];exact h
theorem NW{w:World}{N:Nat}{S:Shared}{t:Thread}{r:Option (Shared×Thread)}(h:PySem.W.Fast.tw15667345088766844465 PySem.W.Fast.tw14364793385576792824 pw w 11 (some (.ref 6)) N S t=r):topGo treeTable pw w 11 (some (.ref 6)) N S t=r:=by rw[PySem.W.Fast.te15667345088766844465,agJ];exact h
theorem NX{w:World}{N:Nat}{S:Shared}{t:Thread}{r:Option Shared}(h:PySem.W.Fast.tw14082659384304107361 PySem.W.Fast.tw14364793385576792824 pw w 11 (some (.ref 6)) N S t=r):topRun treeTable pw w 11 (some (.ref 6)) N S t=r:=by rw[PySem.W.Fast.te14082659384304107361,agJ];exact h
end
end H
namespace H
theorem P0(w:World)(os:OsState):segRunT treeTable pw w 11 (some (.ref 6)) 1 326 (ST T0 15 187 w os) (piecesOf (dM (behindTheImports pw) 0 13) fW cE ⟨0,0,0,0⟩ B0)=some (.next,ST T1 85 271 w os,cE,⟨33,0,46,21⟩):=ir (by kernel_rfl)
theorem P4(w:World)(os:OsState):segRunT treeTable pw w 11 (some (.ref 6)) 1 331 (ST T4 316 584 w os) (piecesOf (dM (behindTheImports pw) 35 11) fW cE ⟨246,0,246,8⟩ B0)=some (.next,ST T5 393 672 w os,cE,⟨315,0,325,37⟩):=ir (by kernel_rfl)
theorem P8(w:World)(os:OsState):segRunT treeTable pw w 11 (some (.ref 6)) 1 229 (ST T8 575 893 w os) (piecesOf (dM (behindTheImports pw) 74 1) fW cE ⟨552,0,552,8⟩ B0)=some (.next,ST T9 595 922 w os,cE,⟨553,0,557,22⟩):=ir (by kernel_rfl)
theorem NY(w:World)(os:OsState):segRunT treeTable pw w 11 (some (.ref 6)) 1 679 (ST EK 698 1057 w os) (piecesOf (dM (behindTheImports pw) 80 1) fW cE ⟨617,0,617,8⟩ B0)=some (.next,ST EL 815 1219 w os,cE,⟨618,0,698,88⟩):=ir (by kernel_rfl)
theorem NZ(w:World)(os:OsState):segRunT treeTable pw w 11 (some (.ref 6)) 1 282 (ST EO 958 1423 w os) (piecesOf (dM (behindTheImports pw) 96 9) fW cE ⟨833,0,834,46⟩ B0)=some (.next,ST rO 1015 1512 w os,cE,⟨928,0,957,109⟩):=ir (by kernel_rfl)
end H
namespace H
theorem P1(w:World)(os:OsState):segRunT treeTable pw w 11 (some (.ref 6)) 1 291 (ST T1 85 271 w os) (piecesOf (dM (behindTheImports pw) 13 9) fW cE ⟨33,0,46,21⟩ B0)=some (.next,ST T2 146 364 w os,cE,⟨108,0,108,8⟩):=ir (by kernel_rfl)
theorem P5(w:World)(os:OsState):segRunT treeTable pw w 11 (some (.ref 6)) 1 311 (ST T5 393 672 w os) (piecesOf (dM (behindTheImports pw) 46 11) fW cE ⟨315,0,325,37⟩ B0)=some (.next,ST T6 463 755 w os,cE,⟨392,0,396,15⟩):=ir (by kernel_rfl)
theorem P9(w:World)(os:OsState):segRunT treeTable pw w 11 (some (.ref 6)) 1 223 (ST T9 595 922 w os) (piecesOf (dM (behindTheImports pw) 75 2) fW cE ⟨553,0,557,22⟩ B0)=some (.next,ST EI 607 940 w os,cE,⟨560,0,560,8⟩):=ir (by kernel_rfl)
theorem N0(w:World)(os:OsState):segRunT treeTable pw w 11 (some (.ref 6)) 1 42 (ST EL 815 1219 w os) (piecesOf (dM (behindTheImports pw) 81 2) fW cE ⟨618,0,698,88⟩ B0)=some (.next,ST EM 822 1231 w os,cE,⟨706,0,706,8⟩):=ir (by kernel_rfl)
end H
namespace H
theorem P2(w:World)(os:OsState):segRunT treeTable pw w 11 (some (.ref 6)) 1 609 (ST T2 146 364 w os) (piecesOf (dM (behindTheImports pw) 22 1) fW cE ⟨108,0,108,8⟩ B0)=some (.next,ST T3 251 491 w os,cE,⟨109,0,168,28⟩):=ir (by kernel_rfl)
theorem P6(w:World)(os:OsState):segRunT treeTable pw w 11 (some (.ref 6)) 1 310 (ST T6 463 755 w os) (piecesOf (dM (behindTheImports pw) 57 10) fW cE ⟨392,0,396,15⟩ B0)=some (.next,ST T7 533 844 w os,cE,⟨492,0,503,38⟩):=ir (by kernel_rfl)
theorem N3(w:World)(os:OsState):segRunT treeTable pw w 11 (some (.ref 6)) 1 515 (ST EI 607 940 w os) (piecesOf (dM (behindTheImports pw) 77 1) fW cE ⟨560,0,560,8⟩ B0)=some (.next,ST EJ 691 1045 w os,cE,⟨561,0,607,16⟩):=ir (by kernel_rfl)
theorem N4(w:World)(os:OsState):segRunT treeTable pw w 11 (some (.ref 6)) 1 470 (ST EM 822 1231 w os) (piecesOf (dM (behindTheImports pw) 83 1) fW cE ⟨706,0,706,8⟩ B0)=some (.next,ST EN 893 1338 w os,cE,⟨707,0,769,62⟩):=ir (by kernel_rfl)
end H
namespace H
theorem P3(w:World)(os:OsState):segRunT treeTable pw w 11 (some (.ref 6)) 1 315 (ST T3 251 491 w os) (piecesOf (dM (behindTheImports pw) 23 12) fW cE ⟨109,0,168,28⟩ B0)=some (.next,ST T4 316 584 w os,cE,⟨246,0,246,8⟩):=ir (by kernel_rfl)
theorem P7(w:World)(os:OsState):segRunT treeTable pw w 11 (some (.ref 6)) 1 189 (ST T7 533 844 w os) (piecesOf (dM (behindTheImports pw) 67 7) fW cE ⟨492,0,503,38⟩ B0)=some (.next,ST T8 575 893 w os,cE,⟨552,0,552,8⟩):=ir (by kernel_rfl)
theorem N5(w:World)(os:OsState):segRunT treeTable pw w 11 (some (.ref 6)) 1 42 (ST EJ 691 1045 w os) (piecesOf (dM (behindTheImports pw) 78 2) fW cE ⟨561,0,607,16⟩ B0)=some (.next,ST EK 698 1057 w os,cE,⟨617,0,617,8⟩):=ir (by kernel_rfl)
theorem N6(w:World)(os:OsState):segRunT treeTable pw w 11 (some (.ref 6)) 1 315 (ST EN 893 1338 w os) (piecesOf (dM (behindTheImports pw) 84 12) fW cE ⟨707,0,769,62⟩ B0)=some (.next,ST EO 958 1423 w os,cE,⟨833,0,834,46⟩):=ir (by kernel_rfl)
end H
namespace H
theorem aR:behindTheImports pw=dM (behindTheImports pw) 0 13++(dM (behindTheImports pw) 13 9++(dM (behindTheImports pw) 22 1++(dM (behindTheImports pw) 23 12++(dM (behindTheImports pw) 35 11++(dM (behindTheImports pw) 46 11++(dM (behindTheImports pw) 57 10++(dM (behindTheImports pw) 67 7++(dM (behindTheImports pw) 74 1++(dM (behindTheImports pw) 75 2++(dM (behindTheImports pw) 77 1++(dM (behindTheImports pw) 78 2++(dM (behindTheImports pw) 80 1++(dM (behindTheImports pw) 81 2++(dM (behindTheImports pw) 83 1++(dM (behindTheImports pw) 84 12++(dM (behindTheImports pw) 96 9++([]))))))))))))))))):=by kernel_rfl
theorem pre(w:World)(os:OsState):topGo treeTable pw w 11 (some (.ref 6)) 12 ⟨boot_heap w.params,Array.mk [],boot_drawn,boot_toks,os⟩ (topStub pw)=some ((ST T0 15 187 w os).abs,⟨denote treeTable cE,cE,⟨0,0,0,0⟩,B0⟩):=NW (by rw[PySem.W.Fast.te11892475500146522536];kernel_rfl)
theorem block(w:World)(os:OsState):segRun treeTable pw w 11 (some (.ref 6)) 1 1 (ST T0 15 187 w os).abs (blockOf (behindTheImports pw) fW cE ⟨0,0,0,0⟩ B0)=some (.next,(ST T0 15 187 w os).abs,cE,⟨0,0,0,0⟩):=NV (by kernel_rfl)
theorem fin(w:World)(os:OsState):topRun treeTable pw w 11 (some (.ref 6)) 2 (ST rO 1015 1512 w os).abs (restOf [] fW cE ⟨928,0,957,109⟩ B0)=some (ST rO 1015 1512 w os).abs:=NX (by kernel_rfl)
theorem rest(w:World)(os:OsState):topRun treeTable pw w 11 (some (.ref 6)) (326+(291+(609+(315+(331+(311+(310+(189+(229+(223+(515+(42+(679+(42+(470+(315+(282+(2)))))))))))))))))) (ST T0 15 187 w os).abs (restOf (behindTheImports pw) fW cE ⟨0,0,0,0⟩ B0)=some (ST rO 1015 1512 w os).abs:=
 (afE (λl=>topRun treeTable pw w 11 (some (.ref 6)) (326+(291+(609+(315+(331+(311+(310+(189+(229+(223+(515+(42+(679+(42+(470+(315+(282+(2)))))))))))))))))) (ST T0 15 187 w os).abs (restOf l fW cE ⟨0,0,0,0⟩ B0)) aR).trans (agE (agF (P0 w os)) (agE (agF (P1 w os)) (agE (agF (P2 w os)) (agE (agF (P3 w os)) (agE (agF (P4 w os)) (agE (agF (P5 w os)) (agE (agF (P6 w os)) (agE (agF (P7 w os)) (agE (agF (P8 w os)) (agE (agF (P9 w os)) (agE (agF (N3 w os)) (agE (agF (N5 w os)) (agE (agF (NY w os)) (agE (agF (N0 w os)) (agE (agF (N4 w os)) (agE (agF (N6 w os)) (agE (agF (NZ w os)) (fin w os))))))))))))))))))
theorem N7(w:World)(os:OsState):topRun treeTable pw w 11 (some (.ref 6)) (12+(1+(326+(291+(609+(315+(331+(311+(310+(189+(229+(223+(515+(42+(679+(42+(470+(315+(282+(2)))))))))))))))))))) ⟨boot_heap w.params,Array.mk [],boot_drawn,boot_toks,os⟩ (topStub pw)=some (ST rO 1015 1512 w os).abs:=
 go_top (pre w os) (piece_block (block w os) (rest w os))
end H
namespace H
noncomputable def wG:List Addr:=[3,13,20,21,27,28,34,35,41,42,48,49,55,56,62,63,69,70,76,77,83,84,85,91,92,98,99,100,106,107,108,114,115,116,117,123,124,130,131,137,138,144,145,151,158,159,165,166,172,173,179,180,186,187,193,194,200,201,207,208,214,215,221,222,228,229,235,236,242,243,245,246,256,257,258,264,265,266,272,273,279,280,286,287,293,294,300,301,307,308,314,315,321,322,328,329,335,336,342,343,349,350,356,357,363,364,370,371,377,378,384,385,391,392,398,399,405,406,412,413,419,420,426,427,433,434,440,441,447,448,454,455,461,462,468,469,475,476,482,483,489,490,496,497,503,504,510,511,517,518,524,525,531,532,538,539,545,546,552,553,559,560,566,567,573,574,580,587,588,590,591,600,603,604,612,619,620,626,627,633,634,640,641,647,648,654,655,661,662,668,669,675,676,682,683,685,686,696,697,703,710,711,712,713,719,720,721,722,728,729,735,736,742,743,749,750,751,757,758,764,765,771,772,778,779,785,786,792,793,799,800,806,807,809,810,820,821,827,829,835,836,842,843,849,850,856,857,863,864,870,871,877,878,884,885,887,888,898,899,900,906,907,913,914,920,921,925,926,932,933,939,940,944,945,951,952,956,957,963,964,970,971,977,978,982,983,989,990,994,995,1001,1002,1008,1009,1013,1014]
def K(P:Params):Frag:=wG.map λa=>(a,ob P a)
noncomputable def wH:List Str:=(["_wall","is_space","is_upper","lower","lower_text","is_table_part","is_math_point","is_html_point","implied_names","foster_place","place_for","insert_sign","insert_comment","make","insert_element","insert_token","insert_void","associate","OpenStack","stops_scope","in_scope","pop_implied","mode_of","select_mode","mode_for","reset_mode","value_of","is_space_token","pop_to_table","pop_to_body","pop_to_row","outside_table","close_table","open_part","table_in_table","input_in_table","form_in_table","start_in_table","end_in_table","sign_in_table","in_table","flush_pending","in_table_text","table_rules","unexpected","is_table_child","has_in_table","pop_marked","close_caption","in_caption","leave_columns","tag_in_columns","in_column_group","close_body","start_in_body","end_in_body","in_table_body","close_row","start_in_row","end_in_row","in_row","close_cell","end_in_cell","in_cell","row_rules","HtmlFault","Misused","Formatting","alike","Tree","above","Builder","is_html_turn","ready","_law_token","_law_body","_law_plain","_law_is_blank","_law_mode","_law_split","_law_holds","_law_names","_law_put","_law_grow","_law_leave","_law_settle","_law_sign","_law_part","_law_other","_law_tag"]:List String).map Str.ofString
theorem EP:∀P,wG=(K P).map (·.1):=λ_=>by kernel_rfl
def q:Program:={pw with main:={pw.main with body:=[aD 104]}}
abbrev R:OpenRow:=PySem.Challenge.rw_nt0624_01.row
abbrev SF(w:World)(os:OsState):Shared:=(ST rO 1015 1512 w os).abs
theorem size(w:World):((boot_heap w.params).isNs mainGlobals&&(Array.mk []:Array GenState).size==0,(boot_heap w.params).objs.size,(boot_heap w.params).nsMap mainGlobals "__annotations__")=(true,11,some (.ref 6)):=by kernel_rfl
noncomputable def zL (t:BT)(n:Nat):List (Addr×Obj)->List (Bool×Option Obj)
 |[]=>[]
 |p::l=>(Nat.blt p.1 n,(t.get p.1).bind alive)::zL t n l
noncomputable def zM:List (Addr×Obj)->List (Bool×Option Obj)
 |[]=>[]
 |p::l=>(true,some p.2)::zM l
theorem ER{t:BT}{n:Nat}{lf:Life}:∀{l:List (Addr×Obj)},zL t n l=zM l->(l.map (·.1)).map (absHeap t n lf).get?=l.map λp=>some p.2
 |[],_=>rfl
 |p::l,h=>by
  obtain⟨h1,h2⟩:=List.cons.inj h;obtain⟨h3,h4⟩:=Prod.mk.inj h1;rw[agB,agB,agB,ER h2];congr 1;cases e:t.get p.1 with
  |none=>rw[e]at h4;cases h4
  |some o=>rw[e]at h4;rw[abs_get (afG h3) e];exact h4
theorem N8(P:Params):zL (F P) 1015 (K P)=zM (K P):=by kernel_rfl
theorem N9(w:World)(os:OsState):wG.map (SF w os).heap.get?=(K w.params).map λp=>some p.2:=by rw[EP w.params];exact ER (N8 w.params)
abbrev HK:Hook:=kHook K wG EP
theorem Oa:opening pw=plainProg pw.main.scope.names:=by kernel_rfl
theorem Ob(s:Shared):fenceModules? pw s=some s:=by kernel_rfl
theorem Od(w:World):(λos=>((staticsOk (importedModules pw.main.body) (boot_heap w.params) (absHeap (F w.params) 1015 ub)&&namesBound pw (absHeap (F w.params) 1015 ub)&&gensDone (SF w os)&&laidKept (boot_heap w.params) (absHeap (F w.params) 1015 ub)),
  openSeen q wH (importedModules pw.main.body) (λs=>xlAt q [] s&&recOk R.records s) true (SF w os),Hook.obs HK (SF w os)))=λ_=>(true,openGood q wH,Hook.val HK w):=by
 exact funext λos=>congr (afE Prod.mk (by kernel_rfl)) (congr (afE Prod.mk (by kernel_rfl)) (N9 w os))
theorem left:LeftO pw q wH (λs=>xlAt q [] s&&recOk R.records s) (Hook.obs HK) (Hook.val HK) (12+(1+(326+(291+(609+(315+(331+(311+(310+(189+(229+(223+(515+(42+(679+(42+(470+(315+(282+(2)))))))))))))))))))):=
 LeftO.of_pieces (H₀:=boot_heap) (H₁:=λP=>absHeap (F P) 1015 ub) (boot_open Oa (by decide+kernel) Ob) size N7 (by decide+kernel) Od
end H
section
noncomputable abbrev R0:OpenLaw:=PySem.Challenge.rw_nt0624_01
open PySem.W.Fast
theorem Oe:namesResolve R0.row.prog=true:=by simp only[te8377067652309620493];kernel_rfl
theorem Of:noRoadLSs {strict:=!(importedModules R0.row.prog.main.body).all cThrough.contains,foot:=none,bare:=(["vars","dir","locals"]:List Str).filter (readsOut R0.row.prog R0.row.prog.main.body)} R0.row.prog.main.body=true:=by simp only[te8326940854005059898,te3471404346716756564,te5923862056798008813,te17691160309236699985,te13343964577679436407];kernel_rfl
theorem Og:(namesMeet R0.row.prog R0.row.prog.main.body λ_ n=>attrL n)=true:=by simp only[te17119622794617984870,te17868728402115742887];kernel_rfl
theorem Oh:R0.wellSaid=true:=by
 unfold OpenLaw.wellSaid OpenRow.wellSaid OpenRow.partSaid looksOpen
 repeat' with_reducible refine look_both ?_ ?_
 all_goals first|with_reducible exact Oe|with_reducible exact Of|with_reducible exact Og|(try simp only[te11788848310118352699,te9807087744658564304,te12862048085361865435,te8377067652309620493,te18344453789297297638,te3471404346716756564,te14412699480532031325,te8326940854005059898,te5923862056798008813,te17691160309236699985,te13343964577679436407,te17119622794617984870,te17868728402115742887,te4857012375875476094,te12749700546528644094,te10501279942588096481,te8179353310426384613,te797321630700447069,te9572597257264208301,te9558739934217749035,te12879404354523853263,te17095254045102204799,te482687673346738481,te10792542408131684335,te7723801398212525404,te2357444279172408678,te6984425678791042302,te16286561074155671207,named_eq])<;>(try rw[sDec_eq])<;>kernel_rfl
end
namespace H
def dk:DefRec×List (Str×Expr):=match defOf q R.name with
 |some x=>x
 |none=>(⟨⟨#[]⟩,⟨[],[],none,[],[],none,[]⟩,[],pw.main.scope,⟨0,0,0,0⟩⟩,[])
theorem Oi:defOf q R.name=some (dk.1,dk.2):=by kernel_rfl
theorem Oj:R.prog.theDef R.name=some (dk.1.params,dk.1.body,dk.1.scope):=by kernel_rfl
theorem Ol:kwWritten? dk.1.params.kwonlyargs dk.1.params.kw_defaults=some dk.2:=by kernel_rfl
theorem Om:(chainsOk q&&opensWell R.prog&&(frees R.toRowW&&R.within.isEmpty))=true:=by kernel_rfl
theorem whole:R.prog.tablesWhole=true:=by unfold Program.tablesWhole TablesWhole.wProgram;simp only[PySem.W.Fast.te6116379765354995101];kernel_rfl
theorem promised:R.toRowW.promised:=by w_witness2
theorem entry(c:WalkO q wH (XL q []) (Hook.says HK) R.toRowW dk.1 dk.2 λf vs=>PySem.call f vs):PySem.Challenge.rw_nt0624_01.Holds:=
 holds_law Oh λOo=>holds_open (r:=R) (Xt:=λs=>xlAt q [] s&&recOk R.records s) (XP:=XL q []) (Yf:=Hook.obs HK) (Ya:=Hook.val HK) (YP:=Hook.says HK) left (Hook.of HK) (Hook.keeps HK)
  (λs e=>xl_of s (agu.mp e).1) XL.keeps Oi Oj Ol (λs e=>recFacts_of (agu.mp e).2) (by rfl) Oo Om ⟨rfl,rfl,rfl,rfl,rfl,whole⟩ promised c
end H
set_option tactic.hygienic false
theorem cps{P:Prop}(h:∀G:Prop,(P->G)->G):P:=h P id
section
variable{G:Prop}
theorem aU{P0 P1:Prop}(h:P0/\P1)(g:P0->P1->G):G:=g h.1 h.2
theorem dR{P0 P1 P2:Prop}(h:P0/\P1/\P2)(g:P0->P1->P2->G):G:=aU h.2 (g h.1)
theorem fu{P0 P1 P2 P3:Prop}(h:P0/\P1/\P2/\P3)(g:P0->P1->P2->P3->G):G:=dR h.2 (g h.1)
theorem wI{P0 P1 P2 P3 P4:Prop}(h:P0/\P1/\P2/\P3/\P4)(g:P0->P1->P2->P3->P4->G):G:=fu h.2 (g h.1)
theorem ES{P0 P1 P2 P3 P4 P5:Prop}(h:P0/\P1/\P2/\P3/\P4/\P5)(g:P0->P1->P2->P3->P4->P5->G):G:=wI h.2 (g h.1)
theorem Oq{P0 P1 P2 P3 P4 P5 P6:Prop}(h:P0/\P1/\P2/\P3/\P4/\P5/\P6)(g:P0->P1->P2->P3->P4->P5->P6->G):G:=ES h.2 (g h.1)
theorem aI{dc:Sort _}{P0:dc->Prop}(h:∃a0,P0 a0)(g:∀a0,P0 a0->G):G:=h.elim g
theorem ao{dc:Sort _}{P0 P1:dc->Prop}(h:∃a0,P0 a0/\P1 a0)(g:∀a0,P0 a0->P1 a0->G):G:=h.elim λa h=>aU h (g a)
theorem cN{dc:Sort _}{P0 P1 P2:dc->Prop}(h:∃a0,P0 a0/\P1 a0/\P2 a0)(g:∀a0,P0 a0->P1 a0->P2 a0->G):G:=h.elim λa h=>dR h (g a)
theorem ka{dc:Sort _}{P0 P1 P2 P3:dc->Prop}(h:∃a0,P0 a0/\P1 a0/\P2 a0/\P3 a0)(g:∀a0,P0 a0->P1 a0->P2 a0->P3 a0->G):G:=h.elim λa h=>fu h (g a)
theorem Ot{dc:Sort _}{P0 P1 P2 P3 P4:dc->Prop}(h:∃a0,P0 a0/\P1 a0/\P2 a0/\P3 a0/\P4 a0)(g:∀a0,P0 a0->P1 a0->P2 a0->P3 a0->P4 a0->G):G:=h.elim λa h=>wI h (g a)
theorem Ov{dc:Sort _}{P0 P1 P2 P3 P4 P5:dc->Prop}(h:∃a0,P0 a0/\P1 a0/\P2 a0/\P3 a0/\P4 a0/\P5 a0)(g:∀a0,P0 a0->P1 a0->P2 a0->P3 a0->P4 a0->P5 a0->G):G:=h.elim λa h=>ES h (g a)
theorem fX{dc:Sort _}{d5:Sort _}{P0:dc->d5->Prop}(h:∃a0 a1,P0 a0 a1)(g:∀a0 a1,P0 a0 a1->G):G:=h.elim λa h=>aI h (g a)
theorem cQ{dc:Sort _}{d5:Sort _}{P0 P1:dc->d5->Prop}(h:∃a0 a1,P0 a0 a1/\P1 a0 a1)(g:∀a0 a1,P0 a0 a1->P1 a0 a1->G):G:=h.elim λa h=>ao h (g a)
theorem cV{dc:Sort _}{d5:Sort _}{P0 P1 P2:dc->d5->Prop}(h:∃a0 a1,P0 a0 a1/\P1 a0 a1/\P2 a0 a1)(g:∀a0 a1,P0 a0 a1->P1 a0 a1->P2 a0 a1->G):G:=h.elim λa h=>cN h (g a)
theorem ed{dc:Sort _}{d5:Sort _}{P0 P1 P2 P3:dc->d5->Prop}(h:∃a0 a1,P0 a0 a1/\P1 a0 a1/\P2 a0 a1/\P3 a0 a1)(g:∀a0 a1,P0 a0 a1->P1 a0 a1->P2 a0 a1->P3 a0 a1->G):G:=h.elim λa h=>ka h (g a)
theorem gN{dc:Sort _}{d5:Sort _}{P0 P1 P2 P3 P4:dc->d5->Prop}(h:∃a0 a1,P0 a0 a1/\P1 a0 a1/\P2 a0 a1/\P3 a0 a1/\P4 a0 a1)(g:∀a0 a1,P0 a0 a1->P1 a0 a1->P2 a0 a1->P3 a0 a1->P4 a0 a1->G):G:=h.elim λa h=>Ot h (g a)
theorem Ow{dc:Sort _}{d5:Sort _}{P0 P1 P2 P3 P4 P5:dc->d5->Prop}(h:∃a0 a1,P0 a0 a1/\P1 a0 a1/\P2 a0 a1/\P3 a0 a1/\P4 a0 a1/\P5 a0 a1)(g:∀a0 a1,P0 a0 a1->P1 a0 a1->P2 a0 a1->P3 a0 a1->P4 a0 a1->P5 a0 a1->G):G:=h.elim λa h=>Ov h (g a)
theorem kH{dc:Sort _}{d5:Sort _}{gO:Sort _}{P0:dc->d5->gO->Prop}(h:∃a0 a1 a2,P0 a0 a1 a2)(g:∀a0 a1 a2,P0 a0 a1 a2->G):G:=h.elim λa h=>fX h (g a)
theorem jd{dc:Sort _}{d5:Sort _}{gO:Sort _}{P0 P1:dc->d5->gO->Prop}(h:∃a0 a1 a2,P0 a0 a1 a2/\P1 a0 a1 a2)(g:∀a0 a1 a2,P0 a0 a1 a2->P1 a0 a1 a2->G):G:=h.elim λa h=>cQ h (g a)
theorem ef{dc:Sort _}{d5:Sort _}{gO:Sort _}{P0 P1 P2:dc->d5->gO->Prop}(h:∃a0 a1 a2,P0 a0 a1 a2/\P1 a0 a1 a2/\P2 a0 a1 a2)(g:∀a0 a1 a2,P0 a0 a1 a2->P1 a0 a1 a2->P2 a0 a1 a2->G):G:=h.elim λa h=>cV h (g a)
theorem uc{dc:Sort _}{d5:Sort _}{gO:Sort _}{P0 P1 P2 P3:dc->d5->gO->Prop}(h:∃a0 a1 a2,P0 a0 a1 a2/\P1 a0 a1 a2/\P2 a0 a1 a2/\P3 a0 a1 a2)(g:∀a0 a1 a2,P0 a0 a1 a2->P1 a0 a1 a2->P2 a0 a1 a2->P3 a0 a1 a2->G):G:=h.elim λa h=>ed h (g a)
theorem kI{dc:Sort _}{d5:Sort _}{gO:Sort _}{P0 P1 P2 P3 P4:dc->d5->gO->Prop}(h:∃a0 a1 a2,P0 a0 a1 a2/\P1 a0 a1 a2/\P2 a0 a1 a2/\P3 a0 a1 a2/\P4 a0 a1 a2)(g:∀a0 a1 a2,P0 a0 a1 a2->P1 a0 a1 a2->P2 a0 a1 a2->P3 a0 a1 a2->P4 a0 a1 a2->G):G:=h.elim λa h=>gN h (g a)
theorem Ox{dc:Sort _}{d5:Sort _}{gO:Sort _}{P0 P1 P2 P3 P4 P5:dc->d5->gO->Prop}(h:∃a0 a1 a2,P0 a0 a1 a2/\P1 a0 a1 a2/\P2 a0 a1 a2/\P3 a0 a1 a2/\P4 a0 a1 a2/\P5 a0 a1 a2)(g:∀a0 a1 a2,P0 a0 a1 a2->P1 a0 a1 a2->P2 a0 a1 a2->P3 a0 a1 a2->P4 a0 a1 a2->P5 a0 a1 a2->G):G:=h.elim λa h=>Ow h (g a)
theorem l8{dc:Sort _}{d5:Sort _}{gO:Sort _}{qb:Sort _}{P0:dc->d5->gO->qb->Prop}(h:∃a0 a1 a2 a3,P0 a0 a1 a2 a3)(g:∀a0 a1 a2 a3,P0 a0 a1 a2 a3->G):G:=h.elim λa h=>kH h (g a)
theorem Oy{dc:Sort _}{d5:Sort _}{gO:Sort _}{qb:Sort _}{P0 P1:dc->d5->gO->qb->Prop}(h:∃a0 a1 a2 a3,P0 a0 a1 a2 a3/\P1 a0 a1 a2 a3)(g:∀a0 a1 a2 a3,P0 a0 a1 a2 a3->P1 a0 a1 a2 a3->G):G:=h.elim λa h=>jd h (g a)
theorem wJ{dc:Sort _}{d5:Sort _}{gO:Sort _}{qb:Sort _}{P0 P1 P2:dc->d5->gO->qb->Prop}(h:∃a0 a1 a2 a3,P0 a0 a1 a2 a3/\P1 a0 a1 a2 a3/\P2 a0 a1 a2 a3)(g:∀a0 a1 a2 a3,P0 a0 a1 a2 a3->P1 a0 a1 a2 a3->P2 a0 a1 a2 a3->G):G:=h.elim λa h=>ef h (g a)
theorem l9{dc:Sort _}{d5:Sort _}{gO:Sort _}{qb:Sort _}{P0 P1 P2 P3:dc->d5->gO->qb->Prop}(h:∃a0 a1 a2 a3,P0 a0 a1 a2 a3/\P1 a0 a1 a2 a3/\P2 a0 a1 a2 a3/\P3 a0 a1 a2 a3)(g:∀a0 a1 a2 a3,P0 a0 a1 a2 a3->P1 a0 a1 a2 a3->P2 a0 a1 a2 a3->P3 a0 a1 a2 a3->G):G:=h.elim λa h=>uc h (g a)
end
theorem bt{a b c:Nat}(h:a<=b)(d:Nat.ble b c=true:=by with_unfolding_all exact rfl):a<=c:=ads h (afG d)
theorem Oz{α:Type}(l:List α)(x:α)(i:Nat):(l.take i++x::l.drop i).length=l.length+1:=by rw[afC,af6,<-Nat.add_assoc,<-afC,ahi]
noncomputable def cG {α β:Type}(o:Option α)(s:α->β)(n:β):β:=match o with
 |some a=>s a
 |none=>n
theorem ET{α:Type}{a:α}{P:α->Prop}(h:∀G:α->Prop,(∀x,P x->G x)->G a):P a:=h P λ_=>id
section
variable{ρ:Type}{r:ρ}{P:Prop}
theorem ag{α:Type}{a:α}(h:none=some a):P:=nomatch h
theorem cE{c:Bool}{A:Option ρ}(h:cond c A none=some r)(g:c=true->A=some r->P):P:=by
 induction c with
 |true=>exact g rfl h
 |false=>exact ag h
theorem bE{α:Type}{o:Option α}{k:α->Option ρ}(h:o.bind k=some r)(g:∀x,o=some x->k x=some r->P):P:=by
 induction o with
 |none=>exact ag h
 |some x=>exact g x rfl h
theorem oE{α β:Type}{o:Option α}{s:α->β}{n b:β}(h:cG o s n=b)(g:∀x,o=some x->s x=b->P)(g':n=b->P):P:=by
 induction o with
 |none=>exact g' h
 |some a=>exact g a rfl h
theorem dE{c:Bool}{A B:Option ρ}(h:cond c A B=some r)(g:c=true->A=some r->P)(g':c=false->B=some r->P):P:=by
 induction c with
 |true=>exact g rfl h
 |false=>exact g' rfl h
theorem iE{c:Bool}{A B:Option ρ}(h:(if c=true then A else B)=some r)(g:c=true->A=some r->P)(g':c=false->B=some r->P):P:=by
 induction c with
 |true=>exact g rfl h
 |false=>exact g' rfl h
theorem sE{α:Type}{a b:α}{X:α->Prop}(h:some a=some b)(g:X a):X b:=by obtain rfl:=ack h;exact g
end
inductive Loc where
 |bP|cO|tree|dC|eg|ff|names|aX|eJ|dU|eQ|me|stack|gP|items|fF|gQ|iO|qc|owners|aK|eR
 |cw|iu|tokens
 |b9 (n:Nat)|bM (n:Nat)|bW (n:Nat)|path (n:Nat)|run (n:Nat)|aO (n:Nat)
noncomputable def Loc.ctorIdx (x:Loc):Nat:=x.casesOn 0 1 2 3 4 5 6 7 8 9 10 11 12 13 14 15 16 17 18 19 20 21 22 23 24 (λ_=>25) (λ_=>26) (λ_=>27) (λ_=>28) (λ_=>29) (λ_=>30)
inductive U where
 |none
 |bool (b:Bool)
 |int (i:Int)
 |str (s:Str)
 |aJ (xs:List U)
 |az (xs:List U)
 |ae (l:Loc)
 |val (v:Value)
noncomputable def U.ctorIdx (x:U):Nat:=x.casesOn 0 (λ_=>1) (λ_=>2) (λ_=>3) (λ_=>4) (λ_=>5) (λ_=>6) (λ_=>7)
inductive cx where
 |list (xs:List U)
 |inst (C:Addr)(d:Loc)
 |dict (es:List (Str×U))
 |map (es:List (Str×U))
 |cell (v:Option U)
abbrev aF:=Loc->Option Addr
noncomputable abbrev ud (vs:List Value)(n:Nat):Obj:={cls:=.type "list",dict:=none,data:=.seq vs.toArray n,slots:=#[]}
noncomputable abbrev zN (vs:List Value)(n:Nat):Obj:={cls:=.type "tuple",dict:=none,data:=.seq vs.toArray n,slots:=#[]}
mutual
inductive bj (h:Heap)(ρ:aF):U->Value->Prop
 |none:bj h ρ .none .none
 |bool (b:Bool):bj h ρ (.bool b) (.bool b)
 |int (i:Int) (t:Tok):bj h ρ (.int i) (.int i t)
 |str (s:Str) (t:Tok):bj h ρ (.str s) (.str s t)
 |val (v:Value):bj h ρ (.val v) v
 |ae {l:Loc} {a:Addr} (e:ρ l=some a):bj h ρ (.ae l) (.ref a)
 |aJ {xs:List U} {vs:List Value} {a:Addr} {n:Nat} (e:h.get? a=some (zN vs n)) (f:∀l,ρ l≠some a) (r:bk h ρ xs vs):bj h ρ (.aJ xs) (.ref a)
 |az {xs:List U} {vs:List Value} {a:Addr} {n:Nat} (e:h.get? a=some (ud vs n)) (f:∀l,ρ l≠some a) (r:bk h ρ xs vs):bj h ρ (.az xs) (.ref a)
inductive bk (h:Heap) (ρ:aF):List U->List Value->Prop
 |nil:bk h ρ [] []
 |cons {x:U} {v:Value} {xs:List U} {vs:List Value} (a:bj h ρ x v) (b:bk h ρ xs vs):bk h ρ (x::xs) (v::vs)
end
structure dS(s s':Shared):Prop where
 gens:s'.gens=s.gens
 os:s'.os=s.os
noncomputable abbrev cg:Program:=PySem.Challenge.pw_nt0624_01
structure EU(w:World)(h:Heap):Prop where
 X:(H.K w.params).In h
 mY:h.NoLimit
 top:∃p loose mg mb,TopRead p loose mg mb h
def PX(x:World×Heap):Prop:=∀(s:Shared) (ns:List Int) (vs:List Value) (Qc E:Value->Shared->Prop),EU x.1 x.2->ns.length<=63->bk x.2 (λ_=>none) [.az (ns.map U.int)] vs->
 (∀s',(∀b o,x.2.get? b=some o->s'.heap.get? b=some o)->dS {s with heap:=x.2} s'->Qc (.bool true) s')->wpAny (model cg x.1) callerA (call (.ref 1014) vs) Qc E {s with heap:=x.2}
noncomputable def w0:World:=⟨λ_ _=>0,{strHash:=λ_=>0,shareClass:=λ_=>0,mergeTok:=id,idOf:=λ_=>0,idOfShared:=λ_ _=>0,followText:=λ_=>false,idOfImm:=λ_=>0}⟩
def xX:World×Heap:=@Classical.epsilon _ ⟨(w0,default)⟩ λx=>¬PX x
theorem OA(h:PX xX)(x:World×Heap):PX x:=Classical.byContradiction λn=>@Classical.epsilon_spec _ (λx=>¬PX x) ⟨x,n⟩ h
def wX:World:=xX.1
def hX:Heap:=xX.2
abbrev kX:Frag:=H.K wX.params
structure Bs:Prop where
 X:kX.In hX
 mY:hX.NoLimit
 top:∃p loose mg mb,TopRead p loose mg mb hX
abbrev KV(h:Heap)(ρ:aF)(P:Value->Prop)(x:U):Prop:=match x with
 |.none=>P .none
 |.bool b=>P (.bool b)
 |.int i=>∀t,P (.int i t)
 |.str i=>∀t,P (.str i t)
 |.val v=>P v
 |.ae l=>∀a,ρ l=some a->P (.ref a)
 |.aJ xs=>∀vs a n,h.get? a=some (zN vs n)->(∀l,ρ l≠some a)->bk h ρ xs vs->P (.ref a)
 |.az xs=>∀vs a n,h.get? a=some (ud vs n)->(∀l,ρ l≠some a)->bk h ρ xs vs->P (.ref a)
@[elab_as_elim] theorem bj.k (r:bj h ρ x v)(g:KV h ρ P x):P v:=
 bj.casesOn (motive_1:=λx v _=>KV h ρ P x->P v) r (λg=>g) (λ_ g=>g) (λ_ t g=>g t) (λ_ t g=>g t) (λ_ g=>g) (λe g=>g _ e) (λe f r g=>g _ _ _ e f r) (λe f r g=>g _ _ _ e f r) g
abbrev KL(h:Heap)(ρ:aF)(P:List Value->Prop)(xs:List U):Prop:=match xs with
 |[]=>P []
 |x::xs=>∀v vs,bj h ρ x v->bk h ρ xs vs->P (v::vs)
@[elab_as_elim] theorem bk.k (r:bk h ρ xs vs)(g:KL h ρ P xs):P vs:=
 bk.casesOn (motive_2:=λxs vs _=>KL h ρ P xs->P vs) r (λg=>g) (λa b g=>g _ _ a b) g
inductive dN(h:Heap)(ρ:aF):List (Str×U)->List DictEntry->Prop
 |nil:dN h ρ [] []
 |cons {k:Str} {t:Tok} {x:U} {v:Value} {es:List (Str×U)} {ds:List DictEntry} (a:bj h ρ x v) (b:dN h ρ es ds):
   dN h ρ ((k,x)::es) (⟨PyData.keyHash wX.params k,.str k t,v⟩::ds)
inductive cf(h:Heap)(ρ:aF):List (Str×U)->List (Str×Value)->Prop
 |nil:cf h ρ [] []
 |cons {k:Str} {x:U} {v:Value} {xs:List (Str×U)} {vs:List (Str×Value)} (a:bj h ρ x v) (b:cf h ρ xs vs):cf h ρ ((k,x)::xs) ((k,v)::vs)
def hU(h:Heap)(ρ:aF):cx->Addr->Prop
 |.list xs,a=>∃vs n,h.get? a=some (ud vs n)/\bk h ρ xs vs
 |.inst C d,a=>∃da,ρ d=some da/\h.get? a=some ⟨.ref C,some da,.plain,#[]⟩
 |.dict es,a=>∃ds n,h.get? a=some (dictOf ds n)/\dN h ρ es ds
 |.map es,a=>∃kvs,h.DictOf (strKind cg wX) a kvs/\cf h ρ es kvs/\(a==sysModules)=false
 |.cell x,a=>∃ob u,h.get? a=some ob/\ob.data=.cell u/\(match x with|.none=>u=.none|.some x=>∃v,u=.some v/\bj h ρ x v)
structure AH where
 get:Loc->Option cx
 new:Loc->Prop
theorem kJ(h:Heap):h.get? h.objs.size=none:=by
 cases z:h.get? h.objs.size with
 |none=>rfl
 |some o=>exact absurd (agp z) (agQ _)
structure bu(ρ:aF)(H:AH)(h:Heap):Prop where
 bs:Bs
 obj:∀l o,H.get l=some o->∃a,ρ l=some a/\hU h ρ o a
 low:∀l a,ρ l=some a->hX.get? a=none
 live:∀l a,ρ l=some a->∃o,h.get? a=some o
 inj:∀l l' a,ρ l=some a->ρ l'=some a->l=l'
 new:∀l,H.new l->ρ l=none
 base:∀b o,hX.get? b=some o->h.get? b=some o
 top:∃a o,hX.objs.size<=a+1/\h.get? a=some o
structure bX(X:Option Addr)(ρ:aF)(h:Heap)(aj:aF)(h':Heap):Prop where
 ext:∀l a,ρ l=some a->aj l=some a
 new:∀l a,aj l=some a->ρ l=some a\/h.get? a=none
 keep:∀a o,h.get? a=some o->(∀l,ρ l≠some a)->X≠some a->h'.get? a=some o
 live:∀a o,h.get? a=some o->∃o',h'.get? a=some o'
abbrev bz:=bX none
def DictAt(h:Heap)(X:Option Addr):Prop:=∀a,X=some a->∃o,h.get? a=some o/\∀xs n,o.data≠.seq xs n
theorem DictAt.none:DictAt h none:=λ_ e=>nomatch e
theorem DictAt.ne(D:DictAt h X)(e:h.get? a=some {cls:=c,dict:=dd,data:=.seq xs n,slots:=sl}):X≠some a:=λq=>by refine ao (D a q) λo e1 e2=>?_;rw[e]at e1;obtain rfl:=ack e1;exact e2 _ _ rfl
theorem bX.refl:bX X ρ h ρ h:=⟨λ_ _ e=>e,λ_ _ e=>.inl e,λ_ _ e _ _=>e,λ_ o e=>⟨o,e⟩⟩
theorem bX.free(S:bX X ρ h aj h')(hf:∀l,ρ l≠some a)(hl:h.get? a=some o):∀l,aj l≠some a:=λl e=>by
 rcases S.new l a e with q|q
 ·exact hf l q
 ·replace q:=hl▸q;cases q
theorem bX.trans(S:bX X ρ h aj h')(T:bX X aj h' oJ OB):bX X ρ h oJ OB:=
 ⟨λl a e=>T.ext l a (S.ext l a e),λl a e=>by
  rcases T.new l a e with q|q
  ·exact S.new l a q
  ·right;cases z:h.get? a with
   |none=>rfl
   |some o=>(refine aI (S.live a o z) λo' e'=>?_;rw[e']at q;exact nomatch q),
 λa o e f x=>T.keep a o (S.keep a o e f x) (S.free f e) x,λa o e=>aI (S.live a o e) λo' e'=>T.live a o' e'⟩
theorem bX.weak(S:bz ρ h aj h'):bX X ρ h aj h':=⟨S.ext,S.new,λa o e f _=>S.keep a o e f (λq=>nomatch q),S.live⟩
theorem bX.fresh(S:bX (some L) ρ h aj h')(hL:h.get? L=none):bz ρ h aj h':=⟨S.ext,S.new,λa o e f _=>S.keep a o e f (λq=>by obtain rfl:=ack q;exact ag (hL▸e)),S.live⟩
structure hV(X:Option Addr)(ρ:aF)(h:Heap)(aj:aF)(h':Heap):Prop where
 ext:∀l a,ρ l=some a->aj l=some a
 free:∀a o,h.get? a=some o->(∀l,ρ l≠some a)->X≠some a->∀l,aj l≠some a
 keep:∀a o,h.get? a=some o->(∀l,ρ l≠some a)->X≠some a->h'.get? a=some o
theorem bX.dy(S:bX X ρ h aj h'):hV X ρ h aj h':=⟨S.ext,λ_ _ e f _=>S.free f e,S.keep⟩
theorem hV.ue(sb:Heap.ExtBut it h h'):hV (some it) ρ h ρ h':=⟨λ_ _ e=>e,λ_ _ _ f _=>f,λa o e _ x=>sb a o (λq=>x (q▸rfl)) e⟩
theorem bj.dy(S:hV X ρ h aj h')(D:DictAt h X)(r:bj h ρ x v):bj h' aj x v:=
 bj.rec (motive_1:=λx v _=>bj h' aj x v) (motive_2:=λxs vs _=>bk h' aj xs vs) .none .bool .int .str .val (λe=>.ae (S.ext _ _ e)) (λe f _ i=>.aJ (S.keep _ _ e f (D.ne e)) (S.free _ _ e f (D.ne e)) i) (λe f _ i=>.az (S.keep _ _ e f (D.ne e)) (S.free _ _ e f (D.ne e)) i) .nil (λ_ _ a b=>.cons a b) r
theorem bk.dy(S:hV X ρ h aj h')(D:DictAt h X)(r:bk h ρ xs vs):bk h' aj xs vs:=
 bk.rec (motive_1:=λx v _=>bj h' aj x v) (motive_2:=λxs vs _=>bk h' aj xs vs) .none .bool .int .str .val (λe=>.ae (S.ext _ _ e)) (λe f _ i=>.aJ (S.keep _ _ e f (D.ne e)) (S.free _ _ e f (D.ne e)) i) (λe f _ i=>.az (S.keep _ _ e f (D.ne e)) (S.free _ _ e f (D.ne e)) i) .nil (λ_ _ a b=>.cons a b) r
theorem bk.ind{P:List U->List Value->Prop}(n:P [] [])(c:∀x v xs vs,bj h ρ x v->bk h ρ xs vs->P xs vs->P (x::xs) (v::vs))(r:bk h ρ xs vs):P xs vs:=
 bk.rec (motive_1:=λ_ _ _=>True) (motive_2:=λxs vs _=>P xs vs) af2 (λ_=>af2) (λ_ _=>af2) (λ_ _=>af2) (λ_=>af2) (λ_=>af2) (λ_ _ _ _=>af2) (λ_ _ _ _=>af2) n (λa b _ i=>c _ _ _ _ a b i) r
theorem bj.step(S:bX X ρ h aj h')(D:DictAt h X)(r:bj h ρ x v):bj h' aj x v:=r.dy S.dy D
theorem bk.step(S:bX X ρ h aj h')(D:DictAt h X)(r:bk h ρ xs vs):bk h' aj xs vs:=r.dy S.dy D
theorem dN.dy(S:hV X ρ h aj h')(D:DictAt h X)(r:dN h ρ es ds):dN h' aj es ds:=
 dN.rec (motive:=λes ds _=>dN h' aj es ds) .nil (λa _ i=>.cons (a.dy S D) i) r
theorem cf.dy(S:hV X ρ h aj h')(D:DictAt h X)(r:cf h ρ es ds):cf h' aj es ds:=
 cf.rec (motive:=λes ds _=>cf h' aj es ds) .nil (λa _ i=>.cons (a.dy S D) i) r
theorem dN.step(S:bX X ρ h aj h')(D:DictAt h X)(r:dN h ρ es ds):dN h' aj es ds:=r.dy S.dy D
theorem cf.step(S:bX X ρ h aj h')(D:DictAt h X)(r:cf h ρ es ds):cf h' aj es ds:=r.dy S.dy D
theorem bk.length{xs:List U}(r:bk h ρ xs vs):xs.length=vs.length:=
 r.ind (P:=λxs vs=>xs.length=vs.length) rfl λ_ _ _ _ _ _ i=>afE (·+1) i
theorem bk.append{xs ys:List U}(r:bk h ρ xs vs)(q:bk h ρ ys ws):bk h ρ (xs++ys) (vs++ws):=
 r.ind (P:=λxs vs=>bk h ρ (xs++ys) (vs++ws)) q λ_ _ _ _ a _ i=>.cons a i
theorem bk.get{xs:List U}(r:bk h ρ xs vs):∀{i:Nat} {x:U},xs[i]?=some x->∃v,vs[i]?=some v/\bj h ρ x v:=
 λ{i} {x}=>r.ind (P:=λxs vs=>∀i,xs[i]?=some x->∃v,vs[i]?=some v/\bj h ρ x v) (λ_ e=>ag e) (λ_ v _ _ a _ q i=>Nat.casesOn i (λe=>⟨v,rfl,ack e▸a⟩) λi=>q i) i
theorem bk.take{xs:List U}(r:bk h ρ xs vs):∀i:Nat,bk h ρ (xs.take i) (vs.take i):=
 r.ind (P:=λxs vs=>∀i,bk h ρ (xs.take i) (vs.take i)) (λi=>Nat.casesOn i .nil λ_=>.nil) λ_ _ _ _ a _ q i=>Nat.casesOn i .nil λi=>.cons a (q i)
theorem bk.drop{xs:List U}{vs:List Value}(r:bk h ρ xs vs):∀i:Nat,bk h ρ (xs.drop i) (vs.drop i):=
 r.ind (P:=λxs vs=>∀i,bk h ρ (xs.drop i) (vs.drop i)) (λi=>Nat.casesOn i .nil λ_=>.nil) λ_ _ _ _ a b q i=>Nat.casesOn i (.cons a b) λi=>q i
theorem bk.set{xs:List U}(r:bk h ρ xs vs):∀(i:Nat) {x:U} {v:Value},bj h ρ x v->bk h ρ (xs.set i x) (vs.set i v):=
 λi {x} {v} q=>r.ind (P:=λxs vs=>∀i,bk h ρ (xs.set i x) (vs.set i v)) (λ_=>.nil) (λ_ _ _ _ a b p i=>Nat.casesOn i (.cons q b) λi=>.cons a (p i)) i
theorem bk.un(r:bk h ρ (x::xs) vs):∃v ws,vs=v::ws/\bj h ρ x v/\bk h ρ xs ws:=r.k λ_ _ a b=>⟨_,_,rfl,a,b⟩
theorem bk.qd(r:bk h ρ [] vs):vs=[]:=r.k rfl
theorem bj.zO(r:bj h ρ (.str x) v):∃t,v=.str x t:=r.k λ_=>⟨_,rfl⟩
theorem bj.zP(r:bj h ρ (.int x) v):∃t,v=.int x t:=r.k λ_=>⟨_,rfl⟩
theorem bj.EV(r:bj h ρ (.bool x) v):v=.bool x:=r.k rfl
theorem bj.OC(r:bj h ρ (.val x) v):v=x:=r.k rfl
theorem bj.OD(r:bj h ρ U.none v):v=Value.none:=r.k rfl
theorem bj.wK(r:bj h ρ (.aJ xs) v):∃vs a n,v=.ref a/\h.get? a=some (zN vs n)/\bk h ρ xs vs:=r.k λ_ _ _ e _ q=>⟨_,_,_,rfl,e,q⟩
theorem bj.wL(r:bj h ρ (.az xs) v):∃vs a n,v=.ref a/\h.get? a=some (ud vs n)/\bk h ρ xs vs:=r.k λ_ _ _ e _ q=>⟨_,_,_,rfl,e,q⟩
abbrev Lo:=List (Str×U)
def RelM(h:Heap)(ρ:aF)(m:Lo)(m':Str->Option Value):Prop:=∀x av,m.lookup x=some av->∃v,m' x=some v/\bj h ρ av v
theorem RelM.dy(S:hV X ρ h aj h')(D:DictAt h X)(R:RelM h ρ m m'):RelM h' aj m m':=λx av e=>
 ao (R x av e) λv a b=>⟨v,a,b.dy S D⟩
theorem RelM.step(S:bX X ρ h aj h')(D:DictAt h X)(R:RelM h ρ m m'):RelM h' aj m m':=R.dy S.dy D
structure gA(cm:List (Str×Loc)) where
 L:Addr
 cl:List (Str×Addr)
def mZ(ρ:aF)(cm:List (Str×Loc))(cl:List (Str×Addr)):Prop:=∀x l,cm.lookup x=some l->∃c,cl.lookup x=some c/\ρ l=some c
structure St(ρ:aF)(H:AH){cm:List (Str×Loc)}(L:gA cm)(m:Lo)(h:Heap):Prop where
 b5:bu ρ H h
 fr:∃m',Fr hX L.L h m'/\RelM h ρ m m'
 free:∀l,ρ l≠some L.L
 cells:mZ ρ cm L.cl
theorem mZ.ext(C:mZ ρ cm cl)(S:bX X ρ h aj h'):mZ aj cm cl:=λx l e=>ao (C x l e) λc a b=>⟨c,a,S.ext _ _ b⟩
theorem St.cj(X:St ρ H L m h)(R:bu aj H' h')(S:bz ρ h aj h'):St aj H' L m h':=by refine ao X.fr λm' F M=>?_;refine jd F.ns λo es ep e r=>?_;exact⟨R,⟨m',⟨⟨o,es,ep,S.keep L.L o e X.free (λq=>nomatch q),r⟩,R.base,F.above⟩,M.step S .none⟩,S.free X.free e,X.cells.ext S⟩
theorem dS.refl:dS s s:=⟨rfl,rfl⟩
theorem dS.trans(a:dS s s')(b:dS s' fG):dS s fG:=⟨b.gens.trans a.gens,b.os.trans a.os⟩
def fg(A:Around)(d:Nat):Prop:=A.handled=none/\A.depth+d<=1000/\A.units+10*d+100<=9900
open Classical in
def AH.set (H:AH)(l:Loc)(o:cx):AH:=⟨λx=>if x=l then some o else H.get x,H.new⟩
open Classical in
def AH.add (H:AH)(l:Loc)(o:cx):AH:=⟨λx=>if x=l then some o else H.get x,λx=>H.new x/\x≠l⟩
theorem AH.rP(H:AH)(l:Loc)(o:cx):(H.set l o).get l=some o:=if_pos rfl
theorem AH.rQ(H:AH)(o:cx)(n:x≠l):(H.set l o).get x=H.get x:=if_neg n
theorem AH.bY(H:AH)(l:Loc)(o:cx):(H.add l o).get l=some o:=if_pos rfl
theorem AH.bZ(H:AH)(o:cx)(n:x≠l):(H.add l o).get x=H.get x:=if_neg n
structure AH.Le(H H':AH):Prop where
 get:∀l o,H'.get l=some o->H.get l=some o
 new:∀l,H'.new l->H.new l
section
variable{h h':Heap}{ρ:aF}{H H':AH}{l:Loc}{a:Addr}
theorem hU.dy(S:hV X ρ h aj h')(D:DictAt h X)(k:∀ob,h.get? a=some ob->h'.get? a=some ob)(r:hU h ρ o a):hU h' aj o a:=by
 induction o with
 |list xs=>refine cQ r λvs n e r=>?_;exact⟨vs,n,k _ e,r.dy S D⟩
 |inst C d=>refine ao r λda e q=>?_;exact⟨da,S.ext _ _ e,k _ q⟩
 |dict es=>refine cQ r λds n e r=>?_;exact⟨ds,n,k _ e,r.dy S D⟩
 |map es=>
  refine cN r λkvs e r n=>?_;refine ao (ahu.mp e) λo ho hd=>?_;exact⟨kvs,ahu.mpr ⟨o,k _ ho,hd⟩,r.dy S D,n⟩
 |cell x=>
  refine cV r λob u e c r=>?_;refine⟨ob,u,k _ e,c,?_⟩;induction x with
  |none=>exact r
  |some x=>refine ao r λv e1 r=>?_;exact⟨v,e1,r.dy S D⟩
theorem hU.step(S:bX X ρ h aj h')(D:DictAt h X)(k:∀ob,h.get? a=some ob->h'.get? a=some ob)(r:hU h ρ o a):hU h' aj o a:=r.dy S.dy D k
theorem bu.le(R:bu ρ H h)(L:AH.Le H H'):bu ρ H' h:=⟨R.bs,λl o e=>R.obj l o (L.get l o e),R.low,R.live,R.inj,λl e=>R.new l (L.new l e),R.base,R.top⟩
theorem bz.push(o:Obj):bz ρ h ρ (h.push o):=⟨λ_ _ e=>e,λ_ _ e=>.inl e,λ_ _ e _ _=>afQ o e,λa ob e=>⟨ob,afQ o e⟩⟩
theorem bu.push(R:bu ρ H h)(o:Obj):bu ρ H (h.push o):=
 ⟨R.bs,λl ob e=>ao (R.obj l ob e) λa e1 r=>⟨a,e1,r.step (bz.push o) .none λ_ q=>afQ o q⟩,R.low,λl a e=>aI (R.live l a e) λob q=>⟨ob,afQ o q⟩,R.inj,R.new,λb ob e=>afQ o (R.base b ob e),cQ R.top λa ob q e=>⟨a,ob,q,afQ o e⟩⟩
theorem bu.lz(R:bu ρ H h):∀l,ρ l≠some h.objs.size:=λl e=>aI (R.live l _ e) λ_ q=>agQ _ (agp q)
open Classical in
def aF.add (ρ:aF)(l:Loc)(a:Addr):aF:=λx=>if x=l then some a else ρ x
theorem aF.bY(ρ:aF)(l:Loc)(a:Addr):ρ.add l a l=some a:=if_pos rfl
theorem aF.bZ(ρ:aF)(a:Addr)(n:x≠l):ρ.add l a x=ρ x:=if_neg n
theorem bu.alloc(R:bu ρ H h)(hn:H.new l)(hf:ob.isFreed=false)(ho:∀aj,bz ρ h aj (h.push ob)->(h.push ob).get? h.objs.size=some ob->hU (h.push ob) aj o h.objs.size):
  bu (ρ.add l h.objs.size) (H.add l o) (h.push ob)/\bz ρ h (ρ.add l h.objs.size) (h.push ob):=by
 have hl:=R.new l hn;have S:bz ρ h (ρ.add l h.objs.size) (h.push ob):=⟨λx a e=>by
   by_cases q:x=l
   ·subst q;rw[hl]at e;exact ag e
   ·rw[aF.bZ _ _ q];exact e,λx a e=>by
   by_cases q:x=l
   ·subst q;rw[aF.bY]at e;apply sE e;exact .inr (kJ h)
   ·rw[aF.bZ _ _ q]at e;exact .inl e,λ_ _ e _ _=>afQ ob e,λa o e=>⟨o,afQ ob e⟩⟩
 refine⟨⟨R.bs,λx o' e=>?_,λx a e=>?_,λx a e=>?_,λx y a e1 e2=>?_,λx e=>?_,λb o' e=>afQ ob (R.base b o' e),let⟨a,o',q,e⟩:=R.top;⟨a,o',q,afQ ob e⟩⟩,S⟩
 ·by_cases q:x=l
  ·subst q;rw[AH.bY]at e;apply sE e;exact⟨_,aF.bY ..,ho _ S (agd _ hf)⟩
  ·rw[AH.bZ _ _ q]at e;refine ao (R.obj x o' e) λa e1 r=>?_;exact⟨a,(aF.bZ _ _ q).trans e1,r.step S .none λ_ z=>afQ ob z⟩
 ·by_cases q:x=l
  ·subst q;rw[aF.bY]at e;apply sE e;cases z:hX.get? h.objs.size with
   |none=>rfl
   |some o'=>exact absurd (agp (R.base _ _ z)) (agQ _)
  ·rw[aF.bZ _ _ q]at e;exact R.low x a e
 ·by_cases q:x=l
  ·subst q;rw[aF.bY]at e;apply sE e;exact⟨ob,agd _ hf⟩
  ·rw[aF.bZ _ _ q]at e;refine aI (R.live x a e) λo' z=>?_;exact⟨o',afQ ob z⟩
 ·by_cases q:x=l
  ·by_cases q':y=l
   ·rw[q,q']
   ·subst q;rw[aF.bY]at e1;rw[aF.bZ _ _ q']at e2;obtain rfl:=ack e1;exact absurd e2 (R.lz y)
  ·by_cases q':y=l
   ·subst q';rw[aF.bY]at e2;rw[aF.bZ _ _ q]at e1;obtain rfl:=ack e2;exact absurd e1 (R.lz x)
   ·rw[aF.bZ _ _ q]at e1;rw[aF.bZ _ _ q']at e2;exact R.inj x y a e1 e2
 ·rw[aF.bZ _ _ e.2];exact R.new x e.1
theorem bz.same(e:ρ l=some a)(sb:Heap.SameBut a h h')(ha:h'.get? a=some o'):bz ρ h ρ h':=
 ⟨λ_ _ e=>e,λ_ _ e=>.inl e,λb o q f _=>(sb.2 b (λz=>f l (z▸e))).trans q,λb o q=>by
  by_cases z:b=a
  ·subst z;exact⟨o',ha⟩
  ·exact⟨o,(sb.2 b z).trans q⟩⟩
theorem hU.alive(r:hU h ρ o a):∃ob,h.get? a=some ob:=by
 induction o with
 |list xs=>refine cQ r λvs n e r=>?_;exact⟨_,e⟩
 |inst C d=>refine ao r λda e q=>?_;exact⟨_,q⟩
 |dict es=>refine cQ r λds n e r=>?_;exact⟨_,e⟩
 |map es=>refine cN r λkvs e r n=>?_;refine ao (ahu.mp e) λo ho hd=>?_;exact⟨_,ho⟩
 |cell x=>refine cQ r λob u e _=>?_;exact⟨_,e⟩
theorem bu.uf(R:bu ρ H h)(e:ρ l=some a)(sb:Heap.SameBut a h h')(ho:hU h' ρ o a):bu ρ (H.set l o) h':=by
 refine aI ho.alive λob OE=>?_;have S:=bz.same (h:=h) (h':=h') e sb OE;refine⟨R.bs,λx o' q=>?_,R.low,λx b q=>aI (R.live x b q) λo' z=>S.live b o' z,R.inj,R.new,λb o' q=>(sb.2 b λz=>?_).trans (R.base b o' q),let⟨b,o',q,z⟩:=R.top;let⟨ng,z'⟩:=S.live b o' z;⟨b,ng,q,z'⟩⟩
 ·by_cases z:x=l
  ·subst z;rw[AH.rP]at q;apply sE q;exact⟨a,e,ho⟩
  ·rw[AH.rQ _ _ z]at q;refine ao (R.obj x o' q) λb e1 r=>?_;refine⟨b,e1,r.step S .none λ_ z'=>(sb.2 b λzz=>z (R.inj _ _ _ e1 (zz▸e))).trans z'⟩
 ·have:=R.low l a e;rw[<-z,q]at this;exact nomatch this
theorem bX.oK(S:bX X iP hs ρ h)(wM:hs.get? it=none)(T:bX (some it) ρ h aj h'):bX X iP hs aj h':=
 ⟨λl a e=>T.ext l a (S.ext l a e),λl a e=>by
  rcases T.new l a e with q|q
  ·exact S.new l a q
  ·right;cases z:hs.get? a with
   |none=>rfl
   |some o=>(refine aI (S.live a o z) λo' e'=>?_;exact nomatch (e'▸q)),
 λa o e f x=>T.keep a o (S.keep a o e f x) (S.free f e) (λq=>by obtain rfl:=ack q;replace e:=wM▸e;exact ag e),λa o e=>aI (S.live a o e) λo' e'=>T.live a o' e'⟩
theorem bu.oK(R:bu ρ H h)(hi:h.get? it=some oi)(hn:∀xs n,oi.data≠.seq xs n)(hf:∀l,ρ l≠some it)(hb:hX.get? it=none)(sb:Heap.ExtBut it h h')(jH:h'.get? it=some OF):
  bu ρ H h'/\bX (some it) ρ h ρ h':=by
 have S:bX (some it) ρ h ρ h':=⟨λ_ _ e=>e,λ_ _ e=>.inl e,λa o e _ x=>sb a o (λq=>x (q▸rfl)) e,λa o e=>by
  by_cases q:a=it
  ·subst q;exact⟨OF,jH⟩
  ·exact⟨o,sb a o q e⟩⟩
 have D:DictAt h (some it):=λa q=>by apply sE q;exact⟨oi,hi,hn⟩
 exact⟨⟨R.bs,λl o e=>let⟨a,e1,r⟩:=R.obj l o e;⟨a,e1,r.step S D λob z=>sb a ob (λq=>hf l (q▸e1)) z⟩,R.low,λl a e=>let⟨o,z⟩:=R.live l a e;S.live a o z,R.inj,R.new,
  λb o e=>sb b o (λq=>by rw[q,hb]at e;exact ag e) (R.base b o e),let⟨b,o',q,z⟩:=R.top;aI (S.live b o' z) λng z'=>⟨b,ng,q,z'⟩⟩,S⟩
end
theorem bu.last{ρ:aF}(R:bu ρ H h)(hi:h.get? it=some oi)(hn:∀xs n,oi.data≠.seq xs n)(hf:∀l,ρ l≠some it)(hb:hX.get? it=none)(sb:Heap.ExtBut it h h')
  (top:∃a o,hX.objs.size<=a+1/\a≠it/\h.get? a=some o):bu ρ H h':=by
 have D:DictAt h (some it):=λa q=>by apply sE q;exact⟨oi,hi,hn⟩
 exact⟨R.bs,λl o e=>ao (R.obj l o e) λa e1 r=>⟨a,e1,r.dy (hV.ue sb) D λob z=>sb a ob (λq=>hf l (q▸e1)) z⟩,R.low,λl a e=>aI (R.live l a e) λo z=>⟨o,sb a o (λq=>hf l (q▸e)) z⟩,R.inj,R.new,
  λb o e=>sb b o (λq=>by rw[q,hb]at e;exact ag e) (R.base b o e),cV top λb o' q n z=>⟨b,o',q,sb b o' n z⟩⟩
theorem bX.last(S:bX X iP hs ρ h)(wM:hs.get? it=none)(sb:Heap.ExtBut it h h'):bX X iP hs ρ h':=
 have ne:∀a o,hs.get? a=some o->a≠it:=λa o e q=>by rw[q,wM]at e;exact ag e
 ⟨S.ext,S.new,λa o e f x=>sb a o (ne a o e) (S.keep a o e f x),λa o e=>aI (S.live a o e) λo' e'=>⟨o',sb a o' (ne a o e) e'⟩⟩
theorem St.oK(X:St ρ H L m h)(hL:it≠L.L)(R:bu ρ H h')(S:hV (some it) ρ h ρ h')(D:DictAt h (some it)):St ρ H L m h':=by refine ao X.fr λm' F M=>?_;refine jd F.ns λo es ep e r=>?_;exact⟨R,⟨m',⟨⟨o,es,ep,S.keep L.L o e X.free (λq=>hL (ack q)),r⟩,R.base,F.above⟩,M.dy S D⟩,X.free,X.cells⟩
structure OG(cs:Scope)(L:Addr)(c:List (Str×Addr))(e:Env):Prop where
 scope:e.scope=cs
 locals:e.locals=L
 globals:e.globals=mainGlobals
 builtins:e.builtins=builtinsNs
 cells:e.cells=c
structure aV where
 cs:Scope
 make:Addr->List (Str×Addr)->Env
 cm:List (Str×Loc)
 ok:∀L c,OG cs L c (make L c)
noncomputable abbrev aV.fn (cn:Str)(cs:Scope)(a:Addr)(OH:Value)(cm:List (Str×Loc)):aV:=⟨cs,λL c=>envX cn cs L a OH c,cm,λ_ _=>⟨rfl,rfl,rfl,rfl,rfl⟩⟩
noncomputable abbrev aV.env (f:aV)(L:gA f.cm):Env:=f.make L.L L.cl
noncomputable abbrev aV.kind (f:aV)(x:Str):Option NameKind:=f.cs.names.lookup x
theorem aV.kindOf{f:aV}{L:gA f.cm}(h:f.kind x=k):(f.env L).kindOf x=k:=by unfold Env.kindOf;rw[(f.ok L.L L.cl).scope];exact h
theorem aV.lA{f:aV}{L:gA f.cm}(h:f.cs.kind=.function):(f.env L).scope.kind=.function:=by rw[(f.ok L.L L.cl).scope];exact h
inductive Fl where
 |next|brk|cont
 |ret (v:U)
inductive qe(h:Heap)(ρ:aF):Fl->Flow->Prop
 |next:qe h ρ .next .next
 |brk:qe h ρ .brk .brk
 |cont:qe h ρ .cont .cont
 |ret {x:U} {v:Value} (r:bj h ρ x v):qe h ρ (.ret x) (.ret v)
noncomputable def Fl.val:Fl->U
 |.ret v=>v
 |_=>.none
section
def gC(ρ:aF)(s:Shared)(Q:U->AH->Prop)(Qc:Value->Shared->Prop):Prop:=
 ∀x v aj H' s',Q x H'->bu aj H' s'.heap->bz ρ s.heap aj s'.heap->dS s s'->bj s'.heap aj x v->Qc v s'
def OI(ρ:aF)(s:Shared)(Q:List U->AH->Prop)(Qc:List Value->Shared->Prop):Prop:=
 ∀x v aj H' s',Q x H'->bu aj H' s'.heap->bz ρ s.heap aj s'.heap->dS s s'->bk s'.heap aj x v->Qc v s'
def rR(ρ:aF)(s:Shared)(Q:Bool->AH->Prop)(Qc:Bool->Shared->Prop):Prop:=
 ∀b aj H' s',Q b H'->bu aj H' s'.heap->bz ρ s.heap aj s'.heap->dS s s'->Qc b s'
def rS(L:gA cm)(ρ:aF)(s:Shared)(Q:Fl->Lo->AH->Prop)(Qc:Flow->Shared->Prop):Prop:=
 ∀x v aj m' H' s',Q x m' H'->St aj H' L m' s'.heap->bX (some L.L) ρ s.heap aj s'.heap->dS s s'->qe s'.heap aj x v->Qc v s'
def aW(d:Nat)(f:aV)(m:Lo)(H:AH)(e:Expr)(Q:U->AH->Prop):Prop:=
 ∀(A:Around) (ρ:aF) (L:gA f.cm) (s:Shared) (Qc:Value->Shared->Prop) (E:Value->Shared->Prop),fg A d->St ρ H L m s.heap->
  gC ρ s Q Qc->wpAny (model cg wX) A (eval e (f.env L)) Qc E s
def gj(d:Nat)(f:aV)(m:Lo)(H:AH)(es:List Expr)(Q:List U->AH->Prop):Prop:=
 ∀(A:Around) (ρ:aF) (L:gA f.cm) (s:Shared) (Qc:List Value->Shared->Prop) (E:Value->Shared->Prop) (pos:Pos),fg A d->St ρ H L m s.heap->
  OI ρ s Q Qc->wpAny (model cg wX) A (spliced (backTo pos (starEach es (f.env L)))) Qc E s
def eS(d:Nat)(f:aV)(m:Lo)(H:AH)(e:Expr)(Q:Bool->AH->Prop):Prop:=
 ∀(A:Around) (ρ:aF) (L:gA f.cm) (s:Shared) (Qc:Bool->Shared->Prop) (E:Value->Shared->Prop),fg A d->St ρ H L m s.heap->
  rR ρ s Q Qc->wpAny (model cg wX) A (isTrue e (f.env L) (eval e (f.env L))) Qc E s
def bR(d:Nat)(f:aV)(m:Lo)(H:AH)(ss:List Stmt)(Q:Fl->Lo->AH->Prop):Prop:=
 ∀(A:Around) (ρ:aF) (L:gA f.cm) (s:Shared) (Qc:Flow->Shared->Prop) (E:Value->Shared->Prop),fg A d->St ρ H L m s.heap->
  rS L ρ s Q Qc->wpAny (model cg wX) A (execs ss (f.env L)) Qc E s
def dD(d:Nat)(f:aV)(m:Lo)(H:AH)(st:Stmt)(Q:Fl->Lo->AH->Prop):Prop:=
 ∀(A:Around) (ρ:aF) (L:gA f.cm) (s:Shared) (Qc:Flow->Shared->Prop) (E:Value->Shared->Prop),fg A d->St ρ H L m s.heap->
  rS L ρ s Q Qc->wpAny (model cg wX) A (exec st (f.env L)) Qc E s
def ba(d:Nat)(g:Value)(args:List U)(H:AH)(Q:U->AH->Prop):Prop:=
 ∀(A:Around) (ρ:aF) (s:Shared) (vs:List Value) (Qc:Value->Shared->Prop) (E:Value->Shared->Prop),fg A d->bu ρ H s.heap->bk s.heap ρ args vs->
  gC ρ s Q Qc->wpAny (model cg wX) A (call g vs) Qc E s
def bC(d:Nat)(t:Value->Value->Sem Value)(x y:U)(H:AH)(Q:U->AH->Prop):Prop:=
 ∀(A:Around) (ρ:aF) (s:Shared) (a b:Value) (Qc:Value->Shared->Prop) (E:Value->Shared->Prop),fg A d->bu ρ H s.heap->bj s.heap ρ x a->bj s.heap ρ y b->
  gC ρ s Q Qc->wpAny (model cg wX) A (t a b) Qc E s
def zQ(d:Nat)(t:Value->Sem Value)(x:U)(H:AH)(Q:U->AH->Prop):Prop:=
 ∀(A:Around) (ρ:aF) (s:Shared) (a:Value) (Qc:Value->Shared->Prop) (E:Value->Shared->Prop),fg A d->bu ρ H s.heap->bj s.heap ρ x a->
  gC ρ s Q Qc->wpAny (model cg wX) A (t a) Qc E s
def mh(d:Nat)(x:U)(H:AH)(Q:Bool->AH->Prop):Prop:=
 ∀(A:Around) (ρ:aF) (s:Shared) (a:Value) (Qc:Bool->Shared->Prop) (E:Value->Shared->Prop),fg A d->bu ρ H s.heap->bj s.heap ρ x a->
  rR ρ s Q Qc->wpAny (model cg wX) A (truthy a) Qc E s
end
section
variable{ρ aj:aF}{s s':Shared}
theorem gC.after(p:gC ρ s Q Qc)(S:bz ρ s.heap aj s'.heap)(z:dS s s'):gC aj s' Q Qc:=
 λx v oJ H' fG q R S' z' r=>p x v oJ H' fG q R (S.trans S') (z.trans z') r
theorem rR.after(p:rR ρ s Q Qc)(S:bz ρ s.heap aj s'.heap)(z:dS s s'):rR aj s' Q Qc:=
 λx oJ H' fG q R S' z'=>p x oJ H' fG q R (S.trans S') (z.trans z')
theorem rS.after(p:rS L ρ s Q Qc)(S:bX (some L.L) ρ s.heap aj s'.heap)(z:dS s s'):rS L aj s' Q Qc:=
 λx v oJ m' H' fG q R S' z' r=>p x v oJ m' H' fG q R (S.trans S') (z.trans z') r
theorem gC.here(p:gC ρ s Q Qc)(q:Q x H)(R:bu ρ H s.heap)(r:bj s.heap ρ x v):Qc v s:=
 p x v ρ H s q R .refl .refl r
theorem gC.toks(p:gC ρ s Q Qc)(q:Q x H)(R:bu ρ H s.heap)(r:bj s.heap ρ x v):Qc v {s with toks:=t}:=
 p x v ρ H {s with toks:=t} q R .refl ⟨rfl,rfl⟩ r
theorem gC.zR(p:gC ρ s Q Qc)(q:Q x H)(R:bu ρ H s.heap)(r:bj (s.heap.push o) ρ x v):Qc v {s with heap:=s.heap.push o,toks:=t}:=
 p x v ρ H {s with heap:=s.heap.push o,toks:=t} q (R.push o) (bz.push o) ⟨rfl,rfl⟩ r
end
noncomputable def jI:Expr->Bool
 |.Starred ..=>false
 |_=>true
noncomputable def oL:Expr->Bool
 |.Call ..=>false
 |_=>true
noncomputable def kb:Expr->Bool
 |.ListComp ..|.SetComp ..|.DictComp ..=>false
 |_=>true
noncomputable def qf:Expr->Bool
 |.Set ..=>false
 |_=>true
theorem zS(h:jI e=true):starEach (e::r) env=(false,eval e env)::starEach r env:=by induction e using Expr.casesOn<;>first|rfl|exact nomatch h
theorem qg(h:kb e=true):swapsWith e t l env=pure false:=by induction e using Expr.casesOn<;>first|rfl|exact nomatch h
theorem zT(h:qf e=true):foldedSetIterable e env x=pure x:=by induction e using Expr.casesOn<;>first|rfl|exact nomatch h
inductive Lk:Lo->Str->U->Prop
 |here {x:Str} {v:U} {m:Lo}:Lk ((x,v)::m) x v
 |there {x y:Str} {v u:U} {m:Lo} (n:(x==y)=false) (h:Lk m x v):Lk ((y,u)::m) x v
theorem Lk.eq(h:Lk m x v):m.lookup x=some v:=by
 induction h with
 |here=>rw[afP];simp
 |there n h ih=>rw[afP,n];exact ih
inductive eK:List (Str×NameKind)->Str->NameKind->Prop
 |here {x:Str} {k:NameKind} {l:List (Str×NameKind)}:eK ((x,k)::l) x k
 |there {x y:Str} {k j:NameKind} {l:List (Str×NameKind)} (n:(x==y)=false) (h:eK l x k):eK ((y,j)::l) x k
theorem eK.eq(h:eK l x k):l.lookup x=some k:=by
 induction h with
 |here=>rw[afP];simp
 |there n h ih=>rw[afP,n];exact ih
structure fh(f:aV)(x:Str)(k:NameKind):Prop where
 fn:f.cs.kind=.function
 at_:eK f.cs.names x k
 nd:(x==("__debug__":Str))=false
theorem fh.kind(h:fh f x k):f.kind x=some k:=h.at_.eq
theorem OJ(h:Str.ofString a=Str.ofString b):a=b:=by
 rw[ahg,ahg]at h;have h1:(a.toList.map Char.toNat).toArray=(b.toList.map Char.toNat).toArray:=by injection h
 have h2:a.toList.map Char.toNat=b.toList.map Char.toNat:=by simpa using h1
 have h3:=(List.map_inj_right (f:=Char.toNat) (λx y e=>Char.toNat_inj.mp e)).mp h2;exact String.toList_inj.mp h3
theorem OK(h:a≠b):(Str.ofString a==Str.ofString b)=false:=afK.mpr λe=>h (OJ e)
noncomputable def wN:List Char->List Char->Bool
 |[],[]=>false
 |a::l,b::r=>!(a.toNat.beq b.toNat)||wN l r
 |_,_=>true
theorem OL:∀{r:List Char},wN l r=true->l≠r:=by
 induction l with
 |nil=>exact λh e=>by rw[<-e]at h;exact Bool.noConfusion h
 |cons a l ih=>
  intro r h e;rw[<-e]at h;replace h:(!(a.toNat.beq a.toNat)||wN l l)=true:=h;rw[agC]at h;exact ih h rfl
theorem OM(h:wN l r=true):(Str.ofString (String.ofList l)==Str.ofString (String.ofList r))=false:=OK λe=>OL h (String.ofList_injective e)
noncomputable def aV.isFn (f:aV):Bool:=decide (f.cs.kind=.function)
theorem aV.ON{f:aV}{L:gA f.cm}(h:f.isFn=true):interactive (f.env L)=false:=by have:f.cs.kind=.function:=af4 h;unfold interactive;rw[f.lA this];rfl
section
variable{d:Nat}{f:aV}{m:Lo}{H:AH}
theorem Ev.local(hm:Lk m x v)(hx:fh f x .local)(q:Q v H):aW d f m H (.Name x pos) Q:=
 λA ρ L s Qc E _ X p=>by refine cps λG k=>?_;obtain⟨hk,hl,hd⟩:_/\_/\_:=⟨hx.fn,hx.kind,hx.nd⟩;refine ao X.fr λm' F M=>?_;refine ao (M _ _ hm.eq) λv' e r=>?_;refine k ?_;exact wpAny_Name (wpAny_loadName_local (f.lA hk) (f.kindOf hl) (by rw[(f.ok L.L L.cl).locals];exact F.ns) e (p.here q X.b5 r)) hd
theorem Ev.EW(hm:nsIn kX mainGlobals x=some (some v))(hx:fh f x .globalImplicit)(q:Q (.val v) H):aW d f m H (.Name x pos) Q:=
 λA ρ L s Qc E _ X p=>by refine cps λG k=>?_;obtain⟨hk,hl,hd⟩:_/\_/\_:=⟨hx.fn,hx.kind,hx.nd⟩;refine ao X.fr λm' F M=>?_;refine l8 X.b5.bs.top λ_ _ mg mb T=>?_;refine k ?_;exact Name_function_global (f.lA hk) (f.kindOf hl) (loadGlobal_global (by rw[(f.ok L.L L.cl).globals];exact T.g.keeps F.keep) (mg_of X.b5.bs.X T.g hm) (p.here q X.b5 (.val v))) hd
structure iw(x:Str)(v:Value):Prop where
 lB:nsIn kX mainGlobals x=some Option.none
 val:bootBuiltins x=some v
 ne:x≠"__name__"
theorem Ev.lC(hm:iw x v)(hx:fh f x .globalImplicit)(q:Q (.val v) H):aW d f m H (.Name x pos) Q:=
 λA ρ L s Qc E _ X p=>by refine cps λG k=>?_;obtain⟨hk,hl,hd⟩:_/\_/\_:=⟨hx.fn,hx.kind,hx.nd⟩;refine ao X.fr λm' F M=>?_;refine l8 X.b5.bs.top λ_ _ mg mb T=>?_;refine k ?_;exact Name_function_global (f.lA hk) (f.kindOf hl) (loadGlobal_builtin (by rw[(f.ok L.L L.cl).globals];exact T.g.keeps F.keep) (mg_none_of X.b5.bs.X T.g hm.lB) (by rw[(f.ok L.L L.cl).builtins];exact T.b.keeps F.keep) ((T.builtins x hm.ne).trans hm.val) (p.here q X.b5 (.val v))) hd
theorem Ev.int(q:Q (.int i) H):aW d f m H (.Constant (.int i) k pos) Q:=
 λA ρ L s Qc E _ X p=>wpAny_Constant_int (p.toks q X.b5 (.int _ _))
theorem Ev.str(q:Q (.str x) H):aW d f m H (.Constant (.str x) k pos) Q:=
 λA ρ L s Qc E _ X p=>by rw[eval_Constant];exact wpAny_mkText (p.toks q X.b5 (.str _ _))
theorem Ev.none(q:Q .none H):aW d f m H (.Constant .none k pos) Q:=
 λA ρ L s Qc E _ X p=>by rw[eval_Constant];exact af3 (p.here q X.b5 .none)
theorem Ev.bool(q:Q (.bool b) H):aW d f m H (.Constant (.bool b) k pos) Q:=
 λA ρ L s Qc E _ X p=>by rw[eval_Constant];exact af3 (p.here q X.b5 (.bool _))
theorem aM.nil(q:Q [] H):gj d f m H [] Q:=
 λA ρ L s Qc E pos _ X p=>args_nil (p [] [] ρ H s q X.b5 .refl .refl .nil)
theorem aM.cons(h:aW d f m H e λx H₁=>gj d f m H₁ es λxs bS=>Q (x::xs) bS)
  (he:jI e=true:=by with_unfolding_all exact rfl):gj d f m H (e::es) Q:=
 λA ρ L s Qc E pos ah X p=>args_cons (h A ρ L s _ E ah X λx v bA H₁ s₁ q R S z r=>
  q A bA L s₁ _ E pos ah (X.cj R S) λxs vs dB bS bH dG cW bQ de fj=>p _ _ dB bS bH dG cW (S.trans bQ) (z.trans de) (.cons (r.step bQ .none) fj)) (zS he)
theorem Ev.rU
  (h:aW d f m H l λx H₁=>aW d f m H₁ r λy bS=>bC d (binaryOp op) x y bS Q):aW d f m H (.BinOp l op r pos) Q:=
 λA ρ L s Qc E ah X p=>wpAny_BinOp (h A ρ L s _ E ah X λx v bA H₁ s₁ q R S z r=>
  q A bA L s₁ _ E ah (X.cj R S) λy u dB bS bH dG cW bQ de fj=>dG A dB bH v u _ E ah cW (r.step bQ .none) fj (p.after (S.trans bQ) (z.trans de)))
theorem Ev.dt
  (h:aW d f m H l λx H₁=>aW d f m H₁ r λy bS=>bC d (compareOp op) x y bS Q)
  (hm:behindInMarks op r=false:=by with_unfolding_all exact rfl):aW d f m H (.Compare l [op] [r] pos) Q:=
 λA ρ L s Qc E ah X p=>wpAny_Compare1 (h A ρ L s _ E ah X λx v bA H₁ s₁ q R S z r=>
  q A bA L s₁ _ E ah (X.cj R S) λy u dB bS bH dG cW bQ de fj=>dG A dB bH v u _ E ah cW (r.step bQ .none) fj (p.after (S.trans bQ) (z.trans de))) hm
theorem Ts.dt
  (h:aW d f m H l λx H₁=>aW d f m H₁ r λy bS=>bC d (compareOp op) x y bS λz hZ=>mh d z hZ Q)
  (hm:behindInMarks op r=false:=by with_unfolding_all exact rfl):eS d f m H (.Compare l [op] [r] pos) Q:=
 λA ρ L s Qc E ah X p=>wpAny_isTrue_Compare1 (h A ρ L s _ E ah X λx v bA H₁ s₁ q R S z r=>
  q A bA L s₁ _ E ah (X.cj R S) λy u dB bS bH dG cW bQ de fj=>dG A dB bH v u _ E ah cW (r.step bQ .none) fj
   λk t lD hZ dW jJ mi eh fY oM=>jJ A lD dW t _ E ah mi oM (p.after ((S.trans bQ).trans eh) ((z.trans de).trans fY))) hm
theorem Tr.bool(q:Q b H):mh d (.bool b) H Q:=
 λA ρ s a Qc E ah R r p=>by refine r.k ?_;exact wpAny_truthy_bool (p b ρ H s q R .refl .refl)
theorem Ex.nil(q:Q .next m H):bR d f m H [] Q:=
 λA ρ L s Qc E ah X p=>wpAny_execs_nil (p .next .next ρ m H s q X .refl .refl .next)
abbrev OO(d:Nat)(f:aV)(ss:List Stmt)(Q:Fl->Lo->AH->Prop)(fl:Fl)(m:Lo)(H:AH):Prop:=match fl with|.next=>bR d f m H ss Q|fl=>Q fl m H
abbrev OP(d:Nat)(f:aV)(m:Lo)(body iQ:List Stmt)(Q:Fl->Lo->AH->Prop)(b:Bool)(H:AH):Prop:=if b then bR d f m H body Q else bR d f m H iQ Q
theorem Ex.cons{st:Stmt}
  (h:dD d f m H st (OO d f ss Q)):bR d f m H (st::ss) Q:=
 λA ρ L s Qc E ah X p=>wpAny_execs_cons (h A ρ L s _ E ah X λx v aj m' H' s' q X' S z r=>by
  induction r with
  |next=>exact q A aj L s' Qc E ah X' (p.after S z)
  |brk=>exact p _ _ aj m' H' s' q X' S z .brk
  |cont=>exact p _ _ aj m' H' s' q X' S z .cont
  |ret r=>exact p _ _ aj m' H' s' q X' S z (.ret r))
theorem Ex.ret(h:aW d f m H e λv H'=>Q (.ret v) m H'):dD d f m H (.Return (some e) pos) Q:=
 λA ρ L s Qc E ah X p=>wpAny_Return_some (h A ρ L s _ E ah X λx v aj H' s' q R S z r=>p _ _ aj m H' s' q (X.cj R S) (.weak S) z (.ret r))
theorem Ex.OQ(q:Q (.ret .none) m H):dD d f m H (.Return none pos) Q:=
 λA ρ L s Qc E ah X p=>wpAny_Return_none (p _ _ ρ m H s q X .refl .refl (.ret .none))
theorem Ex.ite
  (h:eS d f m H mj (OP d f m body iQ Q)):dD d f m H (.If mj body iQ pos) Q:=
 λA ρ L s Qc E ah X p=>wpAny_If (h A ρ L s _ E ah X λb aj H' s' q R S z=>by
  induction b with
  |true=>exact q A aj L s' Qc E ah (X.cj R S) (p.after (.weak S) z)
  |false=>exact q A aj L s' Qc E ah (X.cj R S) (p.after (.weak S) z))
end
theorem eK.of(h:l.lookup x=some k):eK l x k:=by
 induction l with
 |nil=>exact ag h
 |cons a r ih=>
  rw[afP]at h;cases q:x==a.1 with
  |true=>rw[q]at h;obtain rfl:=ack h;rw[afI.mp q];exact .here
  |false=>rw[q]at h;exact .there q (ih h)
theorem Lk.of(h:l.lookup x=some v):Lk l x v:=by
 induction l with
 |nil=>exact ag h
 |cons a r ih=>
  rw[afP]at h;cases q:x==a.1 with
  |true=>rw[q]at h;obtain rfl:=ack h;rw[afI.mp q];exact .here
  |false=>rw[q]at h;exact .there q (ih h)
section
variable{h h':Heap}{ρ:aF}{H:AH}{cm:List (Str×Loc)}{L:gA cm}{m:Lo}
theorem St.dict(X:St ρ H L m h):DictAt h (some L.L):=λa q=>by refine ao X.fr λm' F M=>?_;refine ef F.ns λo es ep e d r=>?_;apply sE q;exact⟨o,e,λxs n z=>by replace z:=d▸z;cases z⟩
theorem ml:List.lookup y ((x,v)::m)=if y=x then some v else List.lookup y m:=by
 rw[afP];by_cases q:y=x
 ·subst q;simp
 ·have:(y==x)=false:=by simp[q]
  rw[this,if_neg q]
theorem St.store(X:St ρ H L m h)(F:Fr hX L.L h m')(M:RelM h ρ m m')(r:bj h ρ av v)
  (hn:h'.Ns L.L (λy=>if y=x then some v else m' y))(hs:Heap.SameBut L.L h h'):St ρ H L ((x,av)::m) h'/\bX (some L.L) ρ h ρ h':=by
 have S:bX (some L.L) ρ h ρ h':=⟨λ_ _ e=>e,λ_ _ e=>.inl e,λa o e _ z=>(hs.2 a λq=>z (q▸rfl)).trans e,λa o e=>by
  by_cases q:a=L.L
  ·subst q;refine jd hn λo' _ _ e' _=>?_;exact⟨o',e'⟩
  ·exact⟨o,(hs.2 a q).trans e⟩⟩
 have D:=X.dict;refine⟨⟨⟨X.b5.bs,λl o e=>?_,X.b5.low,λl a e=>aI (X.b5.live l a e) λo z=>S.live a o z,X.b5.inj,X.b5.new,(F.set hn hs).keep,cQ X.b5.top λb o' q z=>aI (S.live b o' z) λng z'=>⟨b,ng,q,z'⟩⟩,⟨_,F.set hn hs,λy b e=>?_⟩,X.free,X.cells⟩,S⟩
 ·refine ao (X.b5.obj l o e) λa e1 q=>?_;exact⟨a,e1,q.step S D λob z=>(hs.2 a λzz=>X.free l (zz▸e1)).trans z⟩
 ·rw[ml]at e;by_cases q:y=x
  ·subst q;rw[if_pos rfl]at e;apply sE e;exact⟨v,if_pos rfl,r.step S D⟩
  ·rw[if_neg q]at e;refine ao (M y b e) λu e1 e2=>?_;exact⟨u,(if_neg q).trans e1,e2.step S D⟩
end
section
variable{d:Nat}{f:aV}{m:Lo}{H:AH}
theorem qh(X:St ρ H L m s.heap)(r:bj s.heap ρ av v)
  (h:∀s',St ρ H L ((x,av)::m) s'.heap->bX (some L.L) ρ s.heap ρ s'.heap->dS s s'->Qc () s')
  (hk:f.cs.kind=.function)(hl:f.kind x=some .local):wpAny (model cg wX) A (storeName (f.env L) x v) Qc E s:=by
 refine ao X.fr λm' F M=>?_;have eL:=(f.ok L.L L.cl).locals;refine wpAny_storeName_local (f.kindOf hl) (by rw[eL];exact F.ns) (λh' hn hs=>?_) (by rw[f.lA hk];rfl);rw[eL]at hn hs;refine aU (X.store F M r hn hs) λa b=>?_;exact h {s with heap:=h',toks:=s.toks+1} a b ⟨rfl,rfl⟩
theorem Ex.assign(hx:fh f x .local)(h:aW d f m H e λv H'=>Q .next ((x,v)::m) H')
  (hs:kb e=true:=by with_unfolding_all exact rfl):
  dD d f m H (.Assign [.Name x rV] e pos) Q:=
 λA ρ L s Qc E ah X p=>wpAny_Assign_Name (h A ρ L s _ E ah X λy v aj H' s' q R S z r=>qh (X.cj R S) r (λbH iR bQ de=>p _ _ aj _ H' bH q iR ((bX.weak S).trans bQ) (z.trans de) .next) hx.fn hx.kind) (qg hs)
theorem Ex.OR(hm:Lk m x v)(hx:fh f x .local)
  (h:aW d f m H e λy H'=>bC d (inplaceOp op) v y H' λz br=>Q .next ((x,z)::m) br):
  dD d f m H (.AugAssign (.Name x rV) op e pos) Q:=
 λA ρ L s Qc E ah X p=>wpAny_AugAssign_Name (by
  refine cps λG k=>?_;obtain⟨hk,hl⟩:_/\_:=⟨hx.fn,hx.kind⟩;refine ao X.fr λm' F M=>?_;refine ao (M _ _ hm.eq) λv' e r=>?_;refine k ?_;refine wpAny_loadName_local (f.lA hk) (f.kindOf hl) (by rw[(f.ok L.L L.cl).locals];exact F.ns) e ?_;refine h A ρ L s _ E ah X λy u bA H₁ s₁ q R S z wO=>?_;exact q A bA s₁ v' u _ E ah R (r.step S .none) wO λEX wQ dB bS bH dG cW bQ de fj=>qh (X.cj cW (S.trans bQ)) fj (λdW je eh fY=>p _ _ dB _ bS dW dG je ((bX.weak (S.trans bQ)).trans eh) ((z.trans de).trans fY) .next) hk hl)
theorem Ex.zU
  (h:aW d f m H e λv H₁=>aW d f m H₁ o λx bS=>bC d (λov v=>do setAttr ov fZ v;pure .none) x v bS λ_ hZ=>Q .next m hZ)
  (hs:kb e=true:=by with_unfolding_all exact rfl):dD d f m H (.Assign [.Attribute o fZ rV] e pos) Q:=
 λA ρ L s Qc E ah X p=>plainObj_wpAny_Assign_Attribute (h A ρ L s _ E ah X λy v bA H₁ s₁ q R S z r=>
  q A bA L s₁ _ E ah (X.cj R S) λEX wQ dB bS bH dG cW bQ de fj=>by
   have W:=dG A dB bH wQ v (λ_ dW=>Qc .next dW) E ah cW fj (r.step bQ .none) λEY EZ lD hZ dW jJ mi eh fY oM=>p _ _ lD m hZ dW jJ (X.cj mi ((S.trans bQ).trans eh)) (.weak ((S.trans bQ).trans eh)) ((z.trans de).trans fY) .next;intro Γ p OS;have W':=W Γ p OS;rw[Sem.wp_bind']at W';exact W') (qg hs)
theorem Ex.while(I:Nat->Lo->AH->Prop)
  (turn:∀n m H,I n m H->eS d f m H mj λb H₁=>if b=true then bR d f m H₁ body (λfl fH bS=>match fl with
    |.next|.cont=>∃k,k<n/\I k fH bS
    |.brk=>Q .next fH bS
    |.ret v=>Q (.ret v) fH bS)else bR d f m H₁ iQ Q)(n:Nat)(h:I n m H):dD d f m H (.While mj body iQ pos) Q:=
 λA ρ L s Qc E ah X p=>wpAny_While (codeAny_whileLoop (λn s'=>∃aj m' H',I n m' H'/\St aj H' L m' s'.heap/\bX (some L.L) ρ s.heap aj s'.heap/\dS s s')
  (λn s₁ hI=>by
   refine uc hI λbA OT H₁ OU gm qi ug=>?_;refine turn n OT H₁ OU A bA L s₁ _ _ ah gm λb dB bS bH q R S z=>?_;induction b with
   |true=>
    refine q A dB L bH _ _ ah (gm.cj R S) λfl v lD wR hZ dW jJ je eh fY oM=>?_;have SS:=(qi.trans (.weak S)).trans eh;have zz:=(ug.trans z).trans fY;induction oM with
    |next=>refine ao jJ λk hk i=>?_;exact⟨k,hk,lD,wR,hZ,i,je,SS,zz⟩
    |cont=>refine ao jJ λk hk i=>?_;exact⟨k,hk,lD,wR,hZ,i,je,SS,zz⟩
    |brk=>exact p _ _ lD wR hZ dW jJ je SS zz .next
    |ret r=>exact p _ _ lD wR hZ dW jJ je SS zz (.ret r)
   |false=>exact q A dB L bH _ _ ah (gm.cj R S) ((p.after qi ug).after (.weak S) z)) n ⟨ρ,m,H,h,X,.refl,.refl⟩)
end
def f7:List Expr->Bool
 |[]=>true
 |e::r=>jI e&&f7 r
theorem zV:∀{es:List Expr},f7 es=true->(starEach es env).all (λx=>!x.1)=true/\(starEach es env).any (·.1)=false/\(starEach es env).length=es.length
 |[],_=>⟨rfl,rfl,rfl⟩
 |e::r,h=>by refine aU (agu.mp h) λa b=>?_;refine dR (zV (env:=env) b) λc d l=>?_;rw[zS a];exact⟨by rw[List.all_cons,c];rfl,by rw[ahp,d];rfl,by rw[af6,af6,l]⟩
theorem OV:(backTo pos l).any (·.1)=l.any (·.1):=by unfold backTo;rw[List.any_map];rfl
theorem OW:(backTo pos l).all (λx=>!x.1)=l.all (λx=>!x.1):=by unfold backTo;rw[List.all_map];rfl
theorem zW(h:oL o=true):attributeBase o name env whole=whole:=by induction o using Expr.casesOn<;>first|rfl|exact nomatch h
section
variable{M:Model}{A:Around}{E:Value->Shared->Prop}{s:Shared}
theorem OX(hp:f7 es=true)
  (h:wpAny M A (spliced (backTo pos (starEach es env))) (λvs s'=>Q ⟨vs,[]⟩ s') E s):wpAny M A (evalArgs f true (backTo pos (starEach es env)) []) Q E s:=by
 induction es with
 |nil=>
  show wpAny M A (spliced []>>=_) Q E s;refine afS (ahv h (λvs s' h'=>?_) λ_ _ x=>x);refine afS (af3 ?_);refine ahe ?_;exact afS (af3 (afS (af3 (af3 h'))))
 |cons e r=>
  refine aU (agu.mp hp) λa b=>?_;rw[zS a]at h ⊢;exact evalArgs_plain h
theorem OY(h:(iz.endLine==pos.line)=true):methodCallPos few o env iz pos=pure pos:=by unfold methodCallPos;rw[h,Bool.or_true,if_pos rfl]
theorem zX(ho:oL o=true)(hl:(iz.endLine==pos.line)=true)(hp:f7 args=true)(hn:args.length<30)
  (h:wpAny M A (eval o env) (λov s₁=>∀pl:Sem Bool,wpAny M A (getMethod ov name pl) (λfx bH=>wpAny M A (callWith pos fx.1 fx.2 (backTo pos (starEach args env)) []) Q E bH) E s₁) E s):
  wpAny M A (eval (.Call (.Attribute o name iz) args [] pos) env) Q E s:=by
 rw[arm_eval_Call,zW ho];refine afS (ahv h (λov s₁ cX=>afS (ahq ?_)) λ_ _ x=>x);delta methodCall calleeOf;have hf:methodCallForm (args.length+([]:List Keyword).length) (backTo pos (starEach args env)) (backToKw pos (keywordEach [] env))=true:=by have:=(zV (env:=env) hp).1;rw[<-OW (pos:=pos)]at this;show((backTo pos (starEach args env)).all (λx=>!x.1)&&true&&decide (args.length+0+0<30))=true;rw[this];simp only[Bool.true_and,Bool.and_self,decide_eq_true_eq];omega
 rw[hf,if_pos rfl];refine afS (ahe (ahv (cX _) (λfx bH rW=>?_) λ_ _ x=>x));rw[OY hl];exact afS (af3 rW)
theorem E0{P:Heap->Prop}(hp:f7 es=true)
  (hk:∀h,P h->∃k,(k=Keeper.frame\/k=Keeper.machine\/k=Keeper.boundFrame)/\Looks M h (keeperOf f) k)
  (h:wpAny M A (spliced (backTo pos (starEach es env))) (λvs s₁=>P s₁.heap/\wpAny M A (call f (first++vs)) Q E s₁) E s):wpAny M A (callWith pos f first (backTo pos (starEach es env)) []) Q E s:=
 callWith_of (by rw[OV,(zV hp).2.1];rfl) hk (OX hp h)
theorem OZ{id:String}(h:Heap)(_:True):∃k,(k=Keeper.frame\/k=Keeper.machine\/k=Keeper.boundFrame)/\Looks M h (keeperOf (.builtin id)) k:=⟨.machine,.inr (.inl rfl),.of_pure rfl⟩
theorem E1{id:String}(h:Heap)(_:True):∃k,(k=Keeper.frame\/k=Keeper.machine\/k=Keeper.boundFrame)/\Looks M h (keeperOf (.type id)) k:=⟨.machine,.inr (.inl rfl),.of_pure rfl⟩
end
section
variable{d:Nat}{f:aV}{m:Lo}{H:AH}
inductive Callee:Value->Prop
 |top {v:Value} (h:keepIn kX v=true):Callee v
 |lC (id:String):Callee (.builtin id)
 |type (id:String):Callee (.type id)
theorem Callee.keeps(C:Callee v)(h:Heap)(X:kX.In h):∃k,(k=Keeper.frame\/k=Keeper.machine\/k=Keeper.boundFrame)/\Looks M h (keeperOf v) k:=by
 induction C with
 |top e=>exact keeps_K e h X
 |lC id=>exact OZ h af2
 |type id=>exact E1 h af2
theorem bu.lF(R:bu ρ H h):kX.In h:=λa o e=>R.base a o (R.bs.X a o e)
theorem uh{A:Around}
  (C:Callee g)(hp:f7 args=true)(h:gj d f m H args λxs H'=>ba d g (fx++xs) H' Q)(ah:fg A d)(X:St ρ H L m s.heap)(r:bk s.heap ρ fx first)(p:gC ρ s Q Qc):
  wpAny (model cg wX) A (callWith pos g first (backTo pos (starEach args (f.env L))) []) Qc E s:=
 E0 (P:=kX.In) hp C.keeps (h A ρ L s _ E pos ah X λxs vs aj H' s' q R S z rv=>⟨R.lF,q A aj s' _ _ E ah R ((r.step S .none).append rv) (p.after S z)⟩)
theorem Ev.call(hp:f7 args=true)
  (h:aW d f m H func λx H'=>∃g,x=.val g/\Callee g/\gj d f m H' args λxs br=>ba d g xs br Q)
  (hf:∀L,eval (.Call func args [] pos) (f.env L)=(do callWith pos (<-eval func (f.env L)) [] (backTo pos (starEach args (f.env L))) (backToKw pos (keywordEach [] (f.env L)))):=by intros;rfl):
  aW d f m H (.Call func args [] pos) Q:=
 λA ρ L s Qc E ah X p=>by rw[hf L];refine afS (h A ρ L s _ E ah X λx v aj H' s' q R S z r=>?_);refine cN q λg bp C h=>?_;subst bp;refine r.k ?_;exact uh (fx:=[]) C hp h ah (X.cj R S) .nil (p.after S z)
theorem Ev.ui(C:Callee g)
  (h:aW d f m H (.Name x xp) λy H'=>y=.val g/\gj d f m H' args λxs br=>ba d g xs br Q)(hp:f7 args=true:=by with_unfolding_all exact rfl):
  aW d f m H (.Call (.Name x xp) args [] pos) Q:=
 Ev.call hp (λA ρ L s Qc E ah X p=>h A ρ L s Qc E ah X λx v aj H' s' q R S z r=>p _ _ aj H' s' ⟨g,q.1,C,q.2⟩ R S z r) (λL=>rfl)
structure FnAt(x:Str)(g:Value):Prop where
 at_:nsIn kX mainGlobals x=some (some g)
 keep:keepIn kX g=true
theorem Ev.jK(F:FnAt x g)(hx:fh f x .globalImplicit)(h:gj d f m H args λxs br=>ba d g xs br Q)
  (hp:f7 args=true:=by with_unfolding_all exact rfl):aW d f m H (.Call (.Name x xp) args [] pos) Q:=
 Ev.ui (.top F.keep) (Ev.EW F.at_ hx ⟨rfl,h⟩) hp
theorem Ev.uj{id:String}(F:iw x (.builtin id))(hx:fh f x .globalImplicit)(h:gj d f m H args λxs br=>ba d (.builtin id) xs br Q)
  (hp:f7 args=true:=by with_unfolding_all exact rfl):aW d f m H (.Call (.Name x xp) args [] pos) Q:=
 Ev.ui (.lC id) (Ev.lC F hx ⟨rfl,h⟩) hp
theorem Ev.wU{id:String}(F:iw x (.type id))(hx:fh f x .globalImplicit)(h:gj d f m H args λxs br=>ba d (.type id) xs br Q)
  (hp:f7 args=true:=by with_unfolding_all exact rfl):aW d f m H (.Call (.Name x xp) args [] pos) Q:=
 Ev.ui (.type id) (Ev.lC F hx ⟨rfl,h⟩) hp
theorem dN.find(r:dN h ρ es ds):(∀av,es.lookup k=some av->∃v,getL k ds=some (some v)/\bj h ρ av v)/\(es.lookup k=none->getL k ds=some none):=by
 induction r with
 |nil=>exact⟨λ_ e=>(nomatch e),λ_=>rfl⟩
 |@cons k' t x v es ds a b ih=>
  by_cases q:k=k'
  ·subst q;refine⟨λav e=>⟨v,?_,?_⟩,λe=>?_⟩
   ·unfold getL;simp[Value.isStr]
   ·rw[ml,if_pos rfl]at e;apply sE e;exact a
   ·rw[ml,if_pos rfl]at e;exact nomatch e
  ·have e1:(Value.str k' t).isStr k=false:=by simp[Value.isStr];exact λe=>q e.symm
   have e2:getL k (⟨PyData.keyHash wX.params k',.str k' t,v⟩::ds)=getL k ds:=by unfold getL;rw[List.find?_cons,show(DictEntry.mk (PyData.keyHash wX.params k') (.str k' t) v).key.isStr k=false from e1];rw[ahp,show(DictEntry.mk (PyData.keyHash wX.params k') (.str k' t) v).refKey=false from rfl,ag2]
   refine⟨λav e=>?_,λe=>?_⟩
   ·rw[ml,if_neg q]at e;exact e2▸ih.1 av e
   ·rw[ml,if_neg q]at e;exact e2▸ih.2 e
def iA(H:AH)(x:U)(C:Addr)(es:List (Str×U)):Prop:=∃l dl,x=.ae l/\H.get l=some (.inst C dl)/\H.get dl=some (.dict es)
theorem iA.at(I:iA H x C es)(R:bu ρ H h)(r:bj h ρ x v):
  ∃a da ds n,v=.ref a/\W.InstAt h a ⟨.ref C,some da,.plain,#[]⟩ C (some (dictOf ds n))/\dN h ρ es ds:=by
 refine cps λG k=>?_;refine cV I λl dl aP e1 e2=>?_;subst aP;refine ao (R.obj _ _ e1) λa p1 hh=>ao hh λda q1 r1=>?_;refine ao (R.obj _ _ e2) λO0 p2 hh=>cQ hh λds n r2 r3=>?_;refine k ?_;rw[q1]at p2;obtain rfl:=ack p2;refine r.k λ_ e=>?_;rw[p1]at e;apply sE e;exact⟨a,da,ds,n,rfl,⟨r1,rfl,rfl,r2⟩,r3⟩
def lH(o:Expr)(iz pos:Pos)(args:List Expr):Bool:=oL o&&(iz.endLine==pos.line)&&f7 args&&decide (args.length<30)
theorem zY(h:lH o iz pos args=true):oL o=true/\(iz.endLine==pos.line)=true/\f7 args=true/\args.length<30:=by unfold lH at h;rw[afz,afz,afz,af5]at h;exact⟨h.1.1.1,h.1.1.2,h.1.2,h.2⟩
structure MethAt(C:Addr)(name:Str)(g:Addr):Prop where
 plain:plainGet kX C name=true
 find:findIn kX (.ref C) name=some (some (.ref g))
 fn:isFn kX (.ref g)=true
 keep:keepIn kX (.ref g)=true
theorem Ev.O5(M:MethAt C name g)
  (h:aW d f m H o λx H'=>(∃es,iA H' x C es/\es.lookup name=.none)/\gj d f m H' args λxs br=>ba d (.ref g) (x::xs) br Q)
  (hx:lH o iz pos args=true:=by with_unfolding_all exact rfl):aW d f m H (.Call (.Attribute o name iz) args [] pos) Q:=
 fu (zY hx) λho hl hp hn=>
 λA ρ L s Qc E ah X p=>zX ho hl hp hn (h A ρ L s _ E ah X λx v aj H' s' q R S z r=>by
  obtain⟨⟨es,I,ne⟩,q⟩:=q;intro pl;refine wJ (I.at R r) λa da ds n jf IA rd=>?_;subst jf;have KX:=R.lF;refine method_fn KX IA (plainGet_of M.plain).1 (plainGet_of M.plain).2 M.find (afI.mp M.fn) (by show(lookIn name (dictOf ds n)).map _=_;rw[lookIn_dict,rd.find.2 ne];rfl) ?_;exact uh (fx:=[x]) (.top M.keep) hp q ah (X.cj R S) (.cons r .nil) (p.after S z))
def U.plain:U->Prop
 |.val v=>handedIn v=true
 |_=>True
theorem bj.handed(r:bj h ρ x v)(p:x.plain):handedIn v=true:=by cases r<;>first|rfl|exact p
structure fJ(C:Addr)(name:Str):Prop where
 plain:plainGet kX C name=true
 dict:hasDictIn kX C=true
 lB:findIn kX (.ref C) name=some .none
theorem Ev.fZ(M:fJ C name)
  (h:aW d f m H o λx H'=>∃es v,iA H' x C es/\es.lookup name=some v/\v.plain/\Q v H')
  (he:oL o=true:=by with_unfolding_all exact rfl):aW d f m H (.Attribute o name pos) Q:=
 λA ρ L s Qc E ah X p=>Attribute_any_ (h A ρ L s _ E ah X λx v aj H' s' q R S z r=>by
  refine ed q λes y I hl hy q=>?_;refine wJ (I.at R r) λa da ds n jf IA rd=>?_;subst jf;refine ao (rd.find.1 y hl) λu e1 r1=>?_;exact get_value R.lF IA (plainGet_of M.plain).1 (findObj_own M.dict M.lB rfl e1) (r1.handed hy) ((p.after S z).toks q R r1)) (by rw[arm_eval_Attribute,zW he])
end
theorem cf.append(r:cf h ρ a c)(q:cf h ρ b e):cf h ρ (a++b) (c++e):=
 cf.rec (motive:=λa c _=>cf h ρ (a++b) (c++e)) q (λa _ i=>.cons a i) r
theorem cf.reverse(r:cf h ρ a c):cf h ρ a.reverse c.reverse:=
 cf.rec (motive:=λa c _=>cf h ρ a.reverse c.reverse) .nil (λa _ i=>by rw[agT,agT];exact i.append (.cons a .nil)) r
theorem cf.zip:∀(ns:List Str) {xs:List U} {vs:List Value},bk h ρ xs vs->cf h ρ (ns.zip xs) (ns.zip vs)
 :=λns {xs} {vs} q=>q.ind (P:=λxs vs=>∀ns:List Str,cf h ρ (ns.zip xs) (ns.zip vs)) (λns=>List.casesOn ns .nil λ_ _=>.nil) (λ_ _ _ _ a _ i ns=>List.casesOn ns .nil λ_ r=>.cons a (i r)) ns
theorem cf.E2:∀{a:List (Str×U)} {c:List (Str×Value)},cf h ρ a c->RelM h ρ a (λy=>c.lookup y):=λq=>by
 induction q with
 |nil=>exact λ_ _ e=>ag e
 |@cons k x v xs vs a b ih=>
  intro y av e;replace e:=ml▸e;show∃u,List.lookup y ((k,v)::_)=some u/\_;rw[afP];by_cases q:y=k
  ·subst q;rw[if_pos rfl]at e;apply sE e;exact⟨v,by simp,a⟩
  ·rw[if_neg q]at e;have:(y==k)=false:=by simp[q]
   exact this▸ih y av e
section
variable{d:Nat}{f:aV}{m:Lo}{H:AH}
theorem uk(r:fg A (d+1))(e:Env):A.depth<recursionLimit/\fg (A.deeper e) d:=by obtain⟨hh,a,b⟩:=r;refine⟨by show A.depth<1000;lia,hh,by show A.depth+1+d<=1000;lia,by show A.units+3+10*d+100<=9900;lia⟩
noncomputable def oN (s:Scope):Bool:=!s.isCoroutine&&!s.isGenerator&&decide (s.kind=.function)&&s.names.all λx=>decide (x.2≠.cell)
theorem E3(h:oN s=true):s.isCoroutine=false/\s.isGenerator=false/\s.kind=.function/\∀x∈s.names,x.2≠.cell:=by unfold oN at h;rw[afz,afz,afz,af5,afY,afY]at h;exact⟨h.1.1.1,h.1.1.2,h.1.2,λx hx=>af4 (afF.mp h.2 x hx)⟩
theorem zZ:∀x∈([]:List Str),eK l x .local:=λ_ h=>nomatch h
theorem z5(h:eK l y .local)(t:∀x∈r,eK l x .local):∀x∈y::r,eK l x .local:=λx hx=>by
 cases hx with
 |head=>exact h
 |tail _ q=>exact t x q
theorem um(h:kX.lookup c=some ⟨cc,dd,.fields vs,sl⟩)(e:vs.toList=a::.str q t::r):codeIn kX (.ref c) q=true:=by unfold codeIn;dsimp only;rw[h];dsimp only;rw[e];simp
theorem Call.def{names:List Str}(fK:Lo)
  (ho:kX.lookup fa=some ⟨oc,od,.func (fnOf name qual params body scope dV kV doc pm an d6 ct),z6⟩)(nh:codeIn kX d6 qual=true)
  (hbind:∀(S:Setting) (vs:List Value),vs.length=args.length->peek kX S (bindArgs (fnOf name qual params body scope dV kV doc pm an d6 ct) ⟨vs,[]⟩)=some (names.zip (vs++dv)))
  (iS:∀(h:Heap) (ρ:aF),bu ρ H h->bk h ρ dx dv)
  (hloc:∀x∈names,eK scope.names x .local)
  (iB:fK=(names.zip (args++dx)).reverse)
  (h:bR d (.fn qual scope fa d6 []) fK H body (λfl _ H'=>∃br,AH.Le H' br/\Q fl.val br))
  (hs:oN scope=true:=by kernel_rfl):ba (d+1) (.ref fa) args H Q:=
 fu (E3 hs) λni nj hk jL=>
 λA ρ s vs Qc E ah R rv p=>by
  subst iB;refine wpAny_call ?_;have KX:=R.lF;refine aU (uk ah (envOf qual scope s.heap.objs.size fa d6)) λnk lI=>?_;have rb:=cf.zip names (rv.append (iS _ _ R));refine codeAny_call_def (fd:=fnOf name qual params body scope dV kV doc pm an d6 ct) (body:=body) (binds:=names.zip (vs++dv)) nk (KX _ _ ho) rfl (R.bs.mY.keeps R.base) (codeRec_of KX nh) rfl
   (kp_binds KX λS=>hbind S vs rv.length.symm) jL (λy hy=>?_) (λcX eE jg=>?_) ni nj hk
  ·refine aU (List.of_mem_zip hy) λa b=>?_;exact(hloc y.1 a).eq
  ·have aY:=eE.lt;have S:bz ρ s.heap ρ cX:=⟨λ_ _ e=>e,λ_ _ e=>.inl e,λa o e _ _=>jg a o e,λa o e=>⟨o,jg a o e⟩⟩;have fM:bu ρ H cX:=⟨R.bs,λl o e=>ao (R.obj l o e) λa e1 q=>⟨a,e1,q.step S .none λob z=>jg a ob z⟩,R.low,λl a e=>aI (R.live l a e) λo z=>⟨o,jg a o z⟩,R.inj,R.new,λb o e=>jg b o (R.base b o e),let⟨b,o',q,z⟩:=R.top;⟨b,o',q,jg b o' z⟩⟩;have gm:St ρ H (cm:=[]) ⟨s.heap.objs.size,[]⟩ (names.zip (args++dx)).reverse cX:=⟨fM,⟨_,⟨eE,fM.base,let⟨b,o',q,z⟩:=R.top;ads q (agp z)⟩,(cf.reverse (cf.zip names ((rv.append (iS _ _ R)).step S .none))).E2⟩,R.lz,λ_ _ e=>nomatch e⟩;refine h _ ρ ⟨s.heap.objs.size,[]⟩ _ _ _ lI gm λfl v aj m' H' s' q X' S' z' r'=>?_;have SS:bz ρ s.heap aj s'.heap:=((bX.weak S).trans S').fresh (kJ _);induction r' with
   |next=>refine ao q λbr le q=>?_;exact p _ _ aj br s' q (X'.b5.le le) SS ⟨z'.gens,z'.os⟩ .none
   |brk=>refine ao q λbr le q=>?_;exact p _ _ aj br s' q (X'.b5.le le) SS ⟨z'.gens,z'.os⟩ .none
   |cont=>refine ao q λbr le q=>?_;exact p _ _ aj br s' q (X'.b5.le le) SS ⟨z'.gens,z'.os⟩ .none
   |ret r=>refine ao q λbr le q=>?_;exact p _ _ aj br s' q (X'.b5.le le) SS ⟨z'.gens,z'.os⟩ r
end
section
variable{d:Nat}{f:aV}{m:Lo}{H:AH}
theorem Ts.not(h:eS d f m H x λb H'=>Q (!b) H'):eS d f m H (.UnaryOp .Not x pos) Q:=
 λA ρ L s Qc E ah X p=>isTrue_not (h A ρ L s _ E ah X λb aj H' s' q R S z=>p _ aj H' s' q R S z)
def rX(d:Nat)(f:aV)(m:Lo)(op:BoolOp)(H:AH):List Expr->(Bool->AH->Prop)->Prop
 |[],Q=>Q (op==.And) H
 |e::r,Q=>eS d f m H e λb H'=>match op,b with
  |.And,false=>Q false H'
  |.Or,true=>Q true H'
  |_,_=>rX d f m op H' r Q
theorem rX.sound:∀{es:List Expr} {H:AH} {Q:Bool->AH->Prop},rX d f m op H es Q->∀(A:Around) (ρ:aF) (L:gA f.cm) (s:Shared) (Qc:Bool->Shared->Prop) (E:Value->Shared->Prop),fg A d->St ρ H L m s.heap->
  rR ρ s Q Qc->wpAny (model cg wX) A (allTrue op es (f.env L)) Qc E s
 |[],H,Q,h,A,ρ,L,s,Qc,E,ah,X,p=>af3 (p _ ρ H s h X.b5 .refl .refl)
 |e::r,H,Q,h,A,ρ,L,s,Qc,E,ah,X,p=>by
  rw[arm_allTrue_cons];refine afS (h A ρ L s _ E ah X λb aj H' s' q R S z=>?_);cases op<;>cases b
  ·exact af3 (p _ aj H' s' q R S z)
  ·exact rX.sound q A aj L s' Qc E ah (X.cj R S) (p.after S z)
  ·exact rX.sound q A aj L s' Qc E ah (X.cj R S) (p.after S z)
  ·exact af3 (p _ aj H' s' q R S z)
theorem Ts.bool(h:rX d f m op H es Q):eS d f m H (.BoolOp op es pos) Q:=
 λA ρ L s Qc E ah X p=>by rw[arm_isTrue_BoolOp];exact h.sound A ρ L s Qc E ah X p
abbrev O6(d:Nat)(f:aV)(m:Lo)(r:List Expr)(pos:Pos)(Q:Bool->AH->Prop)(b:Bool)(H:AH):Prop:=if b then eS d f m H (.BoolOp .And r pos) Q else Q false H
abbrev O7(d:Nat)(f:aV)(m:Lo)(r:List Expr)(pos:Pos)(Q:Bool->AH->Prop)(b:Bool)(H:AH):Prop:=if b then Q true H else eS d f m H (.BoolOp .Or r pos) Q
abbrev O8(d:Nat)(f:aV)(m:Lo)(body iQ:Expr)(Q:U->AH->Prop)(b:Bool)(H:AH):Prop:=if b then aW d f m H body Q else aW d f m H iQ Q
theorem Ts.and(h:eS d f m H e (O6 d f m r pos Q)):
  eS d f m H (.BoolOp .And (e::r) pos) Q:=
 λA ρ L s Qc E ah X p=>isTrue_and (h A ρ L s _ E ah X λb aj H' s' q R S z=>by
  induction b
  ·exact p _ aj H' s' q R S z
  ·exact q A aj L s' Qc E ah (X.cj R S) (p.after S z))
theorem Ts.or(h:eS d f m H e (O7 d f m r pos Q)):
  eS d f m H (.BoolOp .Or (e::r) pos) Q:=
 λA ρ L s Qc E ah X p=>by
  rw[arm_isTrue_BoolOp,arm_allTrue_cons];refine afS (h A ρ L s _ E ah X λb aj H' s' q R S z=>?_);induction b
  ·exact q A aj L s' Qc E ah (X.cj R S) (p.after S z)
  ·exact af3 (p _ aj H' s' q R S z)
theorem Ts.E4(q:Q true H):eS d f m H (.BoolOp .And [] pos) Q:=
 λA ρ L s Qc E ah X p=>isTrue_and_nil (p _ ρ H s q X.b5 .refl .refl)
theorem Ts.E5(q:Q false H):eS d f m H (.BoolOp .Or [] pos) Q:=
 λA ρ L s Qc E ah X p=>isTrue_or_nil (p _ ρ H s q X.b5 .refl .refl)
noncomputable def rY:Expr->Bool
 |.Name ..|.Attribute ..|.Subscript ..|.Call ..=>true
 |_=>false
theorem O9(h:rY e=true):isTrue e env whole=(do let v<-whole;standAt e.pos;holding [v] (truthy v)):=by induction e using Expr.casesOn<;>first|rfl|exact nomatch h
theorem Ts.plain(h:aW d f m H e λx H'=>mh d x H' Q)(he:rY e=true:=by with_unfolding_all exact rfl):eS d f m H e Q:=
 λA ρ L s Qc E ah X p=>isTrue_plain (h A ρ L s _ E ah X λx v aj H' s' q R S z r=>q A aj s' v Qc E ah R r (p.after S z)) (O9 he)
theorem Ev.z7(h:eS d f m H mj (O8 d f m body iQ Q)):
  aW d f m H (.IfExp mj body iQ pos) Q:=
 λA ρ L s Qc E ah X p=>wpAny_IfExp (h A ρ L s _ E ah X λb aj H' s' q R S z=>by
  induction b
  ·exact q A aj L s' Qc E ah (X.cj R S) (p.after S z)
  ·exact q A aj L s' Qc E ah (X.cj R S) (p.after S z))
theorem Ev.z8(h:aW d f m H x λy H'=>zQ d (unaryOp op) y H' Q):aW d f m H (.UnaryOp op x pos) Q:=
 λA ρ L s Qc E ah X p=>wpAny_UnaryOp (h A ρ L s _ E ah X λx v aj H' s' q R S z r=>q A aj s' v Qc E ah R r (p.after S z))
theorem Ev.and(h:aW d f m H z9 λx H'=>mh d x H' λb br=>if b=true then aW d f m br (.BoolOp .And (Aa::rest) pos) Q else(br=H'/\Q x br)):
  aW d f m H (.BoolOp .And (z9::Aa::rest) pos) Q:=
 λA ρ L s Qc E ah X p=>BoolOp_and (h A ρ L s _ E ah X λx v aj H' s' q R S z r=>q A aj s' v _ E ah R r λb dB bS bH dG cW bQ de=>by
  induction b
  ·exact p _ _ dB bS bH dG.2 cW (S.trans bQ) (z.trans de) (r.step bQ .none)
  ·exact dG A dB L bH Qc E ah (X.cj cW (S.trans bQ)) (p.after (S.trans bQ) (z.trans de)))
theorem Ev.or(h:aW d f m H z9 λx H'=>mh d x H' λb br=>if b=true then(br=H'/\Q x br)else aW d f m br (.BoolOp .Or (Aa::rest) pos) Q):
  aW d f m H (.BoolOp .Or (z9::Aa::rest) pos) Q:=
 λA ρ L s Qc E ah X p=>BoolOp_or (h A ρ L s _ E ah X λx v aj H' s' q R S z r=>q A aj s' v _ E ah R r λb dB bS bH dG cW bQ de=>by
  induction b
  ·exact dG A dB L bH Qc E ah (X.cj cW (S.trans bQ)) (p.after (S.trans bQ) (z.trans de))
  ·exact p _ _ dB bS bH dG.2 cW (S.trans bQ) (z.trans de) (r.step bQ .none))
theorem Ev.E6(h:aW d f m H e Q):aW d f m H (.BoolOp op [e] pos) Q:=h
theorem Op.not(h:mh d x H λb H'=>Q (.bool (!b)) H'):zQ d (unaryOp .Not) x H Q:=
 λA ρ s a Qc E ah R r p=>not_of (h A ρ s a _ E ah R r λb aj H' s' q R S z=>p _ _ aj H' s' q R S z (.bool _))
theorem Op.neg(q:Q (.int (-i)) H):zQ d (unaryOp .USub) (.int i) H Q:=
 λA ρ s a Qc E ah R r p=>by refine r.k λ_=>?_;refine neg_int ?_;exact p.toks q R (.int _ _)
theorem Op.add(q:Q (.int (i+j)) H):bC d (binaryOp .Add) (.int i) (.int j) H Q:=
 λA ρ s a b Qc E ah R r r' p=>by refine r.k λ_=>?_;refine r'.k λ_=>?_;refine PyProof.Rows.add_int ?_;exact p.toks q R (.int _ _)
theorem Op.sub(q:Q (.int (i-j)) H):bC d (binaryOp .Sub) (.int i) (.int j) H Q:=
 λA ρ s a b Qc E ah R r r' p=>by refine r.k λ_=>?_;refine r'.k λ_=>?_;exact sub_int' (p.toks q R (.int _ _))
theorem Op.mod(hj:j≠0)(q:Q (.int (i.fmod j)) H):bC d (binaryOp .Mod) (.int i) (.int j) H Q:=
 λA ρ s a b Qc E ah R r r' p=>by refine r.k λ_=>?_;refine r'.k λ_=>?_;exact mod_int' hj (p.toks q R (.int _ _))
theorem Op.cat(hl:x.length+y.length<=1000000)(q:Q (.str (x++y)) H):bC d (binaryOp .Add) (.str x) (.str y) H Q:=
 λA ρ s a b Qc E ah R r r' p=>by refine r.k λ_=>?_;refine r'.k λ_=>?_;exact PyProof.Rows.add_str (λt' tk=>p.toks q R (.str _ _)) (by exact agW▸ads ‹_› (by decide))
theorem Op.Pa(q:Q (.int (i+j)) H):bC d (inplaceOp .Add) (.int i) (.int j) H Q:=
 λA ρ s a b Qc E ah R r r' p=>by refine r.k λ_=>?_;refine r'.k λ_=>?_;refine wpAny_iadd_int ?_;exact p.toks q R (.int _ _)
theorem Op.Pb(q:Q (.int (i-j)) H):bC d (inplaceOp .Sub) (.int i) (.int j) H Q:=
 λA ρ s a b Qc E ah R r r' p=>by refine r.k λ_=>?_;refine r'.k λ_=>?_;refine PySem.P.isub_int ?_;exact p.toks q R (.int _ _)
theorem Op.Pc(q:Q (.bool (i==j)) H):bC d (compareOp .Eq) (.int i) (.int j) H Q:=
 λA ρ s a b Qc E ah R r r' p=>by refine r.k λ_=>?_;refine r'.k λ_=>?_;refine PyProof.Rows.eq_int ?_;exact p.here q R (.bool _)
theorem Op.Pd(q:Q (.bool (i !=j)) H):bC d (compareOp .NotEq) (.int i) (.int j) H Q:=
 λA ρ s a b Qc E ah R r r' p=>by refine r.k λ_=>?_;refine r'.k λ_=>?_;refine PyProof.Rows.ne_int ?_;exact p.here q R (.bool _)
theorem Op.E7(q:Q (.bool (decide (i<j))) H):bC d (compareOp .Lt) (.int i) (.int j) H Q:=
 λA ρ s a b Qc E ah R r r' p=>by refine r.k λ_=>?_;refine r'.k λ_=>?_;refine PyProof.Rows.lt_int ?_;exact p.here q R (.bool _)
theorem Op.Pe(q:Q (.bool (decide (j<i))) H):bC d (compareOp .Gt) (.int i) (.int j) H Q:=
 λA ρ s a b Qc E ah R r r' p=>by refine r.k λ_=>?_;refine r'.k λ_=>?_;refine PyProof.Rows.gt_int ?_;exact p.here q R (.bool _)
theorem Op.E8(q:Q (.bool (decide (j<=i))) H):bC d (compareOp .GtE) (.int i) (.int j) H Q:=
 λA ρ s a b Qc E ah R r r' p=>by refine r.k λ_=>?_;refine r'.k λ_=>?_;refine PyProof.Rows.ge_int ?_;exact p.here q R (.bool _)
theorem Op.wV(q:Q (.bool (i==j)) H):bC d (compareOp .Eq) (.str i) (.str j) H Q:=
 λA ρ s a b Qc E ah R r r' p=>by refine r.k λ_=>?_;refine r'.k λ_=>?_;refine PyProof.Rows.eq_str ?_;exact p.here q R (.bool _)
theorem Op.Pf(q:Q (.bool (i !=j)) H):bC d (compareOp .NotEq) (.str i) (.str j) H Q:=
 λA ρ s a b Qc E ah R r r' p=>by refine r.k λ_=>?_;refine r'.k λ_=>?_;refine PyProof.Rows.ne_str ?_;exact p.here q R (.bool _)
end
theorem bk.nq(r:bk h ρ [x,y] vs):∃a b,vs=[a,b]/\bj h ρ x a/\bj h ρ y b:=by exact r.k λ_ _ r1 r2=>r2.k λ_ _ r2 r3=>r3.k ⟨_,_,rfl,r1,r2⟩
theorem bk.one(r:bk h ρ [x] vs):∃a,vs=[a]/\bj h ρ x a:=by exact r.k λ_ _ r1 r2=>r2.k ⟨_,rfl,r1⟩
theorem bk.three(r:bk h ρ [x,y,u] vs):∃a b c,vs=[a,b,c]/\bj h ρ x a/\bj h ρ y b/\bj h ρ u c:=by exact r.k λ_ _ r1 r2=>r2.k λ_ _ r2 r3=>r3.k λ_ _ r3 r4=>r4.k ⟨_,_,_,rfl,r1,r2,r3⟩
section
variable{d:Nat}{f:aV}{m:Lo}{H:AH}
theorem bu.list(R:bu ρ H h)(hl:H.get l=some (.list xs))(r:bj h ρ (.ae l) v):
  ∃a vs n,v=.ref a/\ρ l=some a/\IsL h a vs.toArray n/\bk h ρ xs vs/\vs.length=xs.length:=by
 refine ao (R.obj _ _ hl) λa e hh=>cQ hh λvs n ho rl=>?_;refine r.k λ_ e'=>?_;rw[e]at e';apply sE e';exact⟨a,vs,n,rfl,e,ho,rl,rl.length.symm⟩
theorem bu.wW{vs:List Value}(R:bu ρ H h)(e:ρ l=some a)(ho:IsL h a vs.toArray n)
  (hg:g vs.toArray=rZ.toArray)(r:bk h ρ xs' rZ):bu ρ (H.set l (.list xs')) (h.update a (Obj.mapSeq g))/\bz ρ h ρ (h.update a (Obj.mapSeq g)):=by
 have:=ho.update g;replace this:=hg▸this;have S:=bz.same (h:=h) (h':=h.update a (Obj.mapSeq g)) e (Heap.SameBut.update ..) this;exact⟨R.uf e (Heap.SameBut.update ..) ⟨rZ,_,this,r.step S .none⟩,S⟩
theorem uo{vs:List Value}{xs:List U}(e:vs.length=xs.length)(h:xs.length<=1000000):vs.toArray.size<=sizeLine:=by rw[afT,e,agW];exact ads ‹_› (by decide)
theorem Ph{i:Nat}(h:i<=1000000):Builtin.List.listFitsIndex (i:Int)=true:=by unfold Builtin.List.listFitsIndex;rw[afz,af5,af5];lia
theorem Call.append{l:Loc}{xs:List U}(hl:H.get l=some (.list xs))(hs:xs.length<=1000000)(q:Q .none (H.set l (.list (xs++[x])))):
  ba d (.builtin "list.append") [.ae l,x] H Q:=
 λA ρ s vs Qc E ah R rv p=>by refine cV rv.nq λ_ v aP r1 r2=>?_;subst aP;refine kI (R.list hl r1) λa us n bK e ho rl le=>?_;subst bK;refine call_meets agS ⟨_,ho,rfl⟩ PySem.F.entry_list_append (PySem.F.args_list_append_2 _ _) (list_append a us.toArray n v (uo le hs)) ⟨ho,?_⟩;refine aU (R.wW e ho (g:=λx=>x.push v) (rZ:=us++[v]) (xs':=xs++[x]) (by simp) (rl.append (.cons r2 .nil))) λR' S=>?_;exact p _ _ ρ _ _ q R' S ⟨rfl,rfl⟩ .none
theorem Call.jh(hl:H.get l=some (.list (xs++[x])))(hs:xs.length<1000000)(q:Q x (H.set l (.list xs))):
  ba d (.builtin "list.pop") [.ae l] H Q:=
 λA ρ s vs Qc E ah R rv p=>by
  refine ao rv.one λ_ bp r1=>?_;subst bp;refine kI (R.list hl r1) λa us n bK e ho rl le=>?_;subst bK;rw[afC,afW]at le;refine ao (rl.get (i:=xs.length) (x:=x) (by simp)) λv e1 rx=>?_;have hp:=rl.take xs.length;rw[List.take_left]at hp;have sp:us=us.take xs.length++[v]:=by
   have h2:us.drop xs.length=[v]:=by
    apply List.ext_getElem?;intro i;rw[List.getElem?_drop];induction i with
    |zero=>rw[Nat.add_zero,e1];rfl
    |succ j=>rw[af1 (by lia)];rfl
   rw[<-h2,ahi]
  refine call_meets PySem.F.slot_list_pop ⟨_,ho,rfl⟩ PySem.F.entry_list_pop (PySem.F.args_list_pop_1 _) (MeetsSeq.list_pop_last a us.toArray n v (by rw[afT,le];simpa using e1) (by rw[List.size_toArray,le,sizeLine_eq];exact ads ‹_› (by decide))) ⟨ho,?_⟩;obtain⟨R',S⟩:=R.wW e ho (g:=λx=>x.eraseIdxIfInBounds (us.toArray.size-1)) (rZ:=us.take xs.length) (xs':=xs) (by
   rw[afT,le,Nat.add_sub_cancel,List.eraseIdxIfInBounds_toArray]
   conv=>lhs;rw[sp]
   rw[List.eraseIdx_append_of_length_le (by rw[List.length_take,le];lia)];rw[List.length_take,le];simp) hp
  exact p _ _ ρ _ _ q R' S ⟨rfl,rfl⟩ (rx.step S .none)
theorem Call.uq{l:Loc}{xs:List U}{Q:U->AH->Prop}(hl:H.get l=some (.list xs))(hs:xs.length<=1000000)(hi:i<=xs.length)(q:Q .none (H.set l (.list (xs.take i++x::xs.drop i)))):
  ba d (.builtin "list.insert") [.ae l,.int i,x] H Q:=
 λA ρ s vs Qc E ah R rv p=>by
  refine uc rv.three λ_ iv v bK r1 ri r2=>?_;subst bK;refine kI (R.list hl r1) λa us n bK e ho rl le=>?_;subst bK;refine ri.k λt=>?_;have hf:Builtin.List.listFitsIndex (i:Int)=true:=Ph (i:=i) (ads hi hs);generalize jH:(i:Int)=j at hf;have g:=AutoSeq1.list_insert_list_int_val_1 a us.toArray n j t v (by exact hf.symm▸Bool.false_ne_true) (uo le hs);refine call_meets PySem.F.slot_list_insert ⟨_,ho,rfl⟩ PySem.F.entry_list_insert (PySem.F.args_list_insert_3 _ _ _) g ?_;refine And.intro ho ?_;subst jH;obtain⟨R',S⟩:=R.wW e ho (g:=λxs=>have k:=if(i:Int)<0 then((i:Int)+(xs.size:Int)).toNat else min (i:Int).toNat xs.size;(xs.extract 0 k).push v++xs.extract k) (rZ:=us.take i++v::us.drop i) (xs':=xs.take i++x::xs.drop i) (by
   have h1:¬((i:Int)<0):=by lia
   simp only[h1,if_false,Int.toNat_natCast,List.size_toArray,le,Nat.min_eq_left hi];apply Array.ext';simp;rw[agX (by rw[ahl,le];exact afD _)]) ((rl.take i).append (.cons r2 (rl.drop i)))
  exact p _ _ ρ _ _ q R' S ⟨rfl,rfl⟩ .none
theorem bk.Ab:∀{ns:List Int} {vs:List Value},bk h ρ (ns.map U.int) vs->(∀y∈vs,∃i t,y=.int i t)/\∀i (hi:i<vs.length),∃t,vs[i]?=(ns[i]?).map λk=>.int k t:=λ{ns}=>by
 induction ns with
 |nil=>exact λr=>by rw[r.qd];exact⟨λ_ h=>(nomatch h),λi hi=>absurd hi (Nat.not_lt_zero _)⟩
 |cons k r ih=>
  intro vs q;refine cV q.un λv ws aP a b=>?_;subst aP;refine aI a.zP λt bp=>?_;subst bp;refine aU (ih b) λp q=>?_;exact⟨agc.mpr ⟨⟨k,t,rfl⟩,p⟩,λi=>Nat.casesOn i (λ_=>⟨t,rfl⟩) λi hi=>q i (Nat.lt_of_succ_lt_succ hi)⟩
noncomputable def ur (k:Int):Value->Bool
 |.int i _=>i==k
 |_=>false
theorem Call.index{ns:List Int}(hl:H.get l=some (.list (ns.map U.int)))(hs:ns.length<=1000000)(hk:k∈ns)(q:Q (.int (ns.idxOf k:Nat)) H):
  ba d (.builtin "list.index") [.ae l,.int k] H Q:=
 λA ρ s vs Qc E ah R rv p=>by
  refine cV rv.nq λ_ kv aP r1 rk=>?_;subst aP;refine kI (R.list hl r1) λa us n bK e ho rl le=>?_;subst bK;rw[afA]at le;refine rk.k λt=>?_;refine aU rl.Ab λh1 h2=>?_;have hj:ns.idxOf k<ns.length:=List.idxOf_lt_length_of_mem hk;have at_:∀i (hi:i<us.toArray.size),ur k us.toArray[i]=(ns[i]'(by rw[afT,le]at hi;exact hi)==k):=λi hi=>by
   have jH:i<us.length:=by exact hi
   refine aI (h2 i jH) λt' q'=>?_;have hn:i<ns.length:=by exact le▸jH
   rw[afH jH,afH hn,Option.map_some,Option.some.injEq]at q';rw[List.getElem_toArray,q'];rfl
  refine call_meets PySem.F.slot_list_index ⟨_,ho,rfl⟩ PySem.F.entry_list_index (PySem.F.args_list_index_2 _ _) (SeqAt.list_indexAt a us.toArray n .none #[] (.int k t) (ur k) (ns.idxOf k) (by rw[afT,le];exact hj) (by lia) ?_ ?_) ⟨ho,λy hy=>?_,?_⟩
  ·rw[at_ _ (by rw[afT,le];exact hj),List.getElem_idxOf hj];simp
  ·intro i hi aY;rw[at_ i hi];have:=List.not_of_lt_findIdx (p:=(·==k)) (xs:=ns) (i:=i) (by simpa[List.idxOf]using aY);exact this
  ·refine fX (h1 y (by simpa using hy)) λi u aP=>?_;subst aP;exact(MeetsSeq.EqGives.int i k u t).at _ _
  ·exact p.toks q R (.int _ _)
end
inductive ew(H:AH):U->String->Prop
 |list {l:Loc} {xs:List U} (e:H.get l=some (.list xs)):ew H (.ae l) "list"
 |map {l:Loc} {es:List (Str×U)} (e:H.get l=some (.map es)):ew H (.ae l) "dict"
 |az (xs:List U):ew H (.az xs) "list"
 |aJ (xs:List U):ew H (.aJ xs) "tuple"
 |str (x:Str):ew H (.str x) "str"
inductive eF(H:AH):U->List U->Prop
 |list {l:Loc} {xs:List U} (e:H.get l=some (.list xs)):eF H (.ae l) xs
 |az (xs:List U):eF H (.az xs) xs
noncomputable def nr:Expr->Bool
 |.Slice ..=>false
 |_=>true
theorem Pj(h:nr slice=true):subscripted slice false o i=operate [o,i] (getItem o i):=by induction slice using Expr.casesOn<;>first|rfl|exact nomatch h
def gR(T:String):Prop:=∃id,typeLookup (.type T) "__getitem__"=pure (some (.builtin id))
theorem E9:gR "list":=⟨_,slot_list_getitem.lookup⟩
theorem uu:gR "dict":=⟨_,slot_dict_getitem.lookup⟩
theorem Pk:gR "tuple":=⟨_,PySem.F.slot_tuple_getitem.lookup⟩
theorem Pl:gR "str":=⟨_,PySem.F.slot_str_getitem.lookup⟩
section
variable{d:Nat}{f:aV}{m:Lo}{H:AH}
theorem ew.typeIs{s:Shared}(h:ew H x T)(R:bu ρ H s.heap)(r:bj s.heap ρ x v):s.TypeIs v T:=by
 induction h with
 |list e=>
  refine kI (R.list e r) λa vs n bK _ ho _ _=>?_;subst bK;exact⟨_,ho,rfl⟩
 |map e=>
  refine ao (R.obj _ _ e) λa e1 hh=>cN hh λkvs hd _ _=>?_;refine r.k λ_ e'=>?_;rw[e1]at e';apply sE e';exact hd.typeIs
 |az=>exact r.k λ_ _ _ e _ _=>⟨_,e,rfl⟩
 |aJ=>exact r.k λ_ _ _ e _ _=>⟨_,e,rfl⟩
 |str=>exact r.k λ_=>rfl
theorem eF.at(I:eF H x xs)(R:bu ρ H h)(r:bj h ρ x v):∃a vs n,v=.ref a/\IsL h a vs.toArray n/\bk h ρ xs vs:=by
 induction I with
 |list e=>
  refine kI (R.list e r) λa vs n e1 _ ho rl _=>?_;exact⟨a,vs,n,e1,ho,rl⟩
 |az=>exact r.k λ_ _ _ e _ r=>⟨_,_,_,rfl,e,r⟩
theorem Ev.sub{pos:Pos}
  (h:aW d f m H value λx H₁=>aW d f m H₁ slice λy bS=>(∃T,ew bS x T/\gR T)/\bC d getItem x y bS Q)(hs:nr slice=true:=by with_unfolding_all exact rfl):
  aW d f m H (.Subscript value slice pos) Q:=
 λA ρ L s Qc E ah X p=>Subscript_ (h A ρ L s _ E ah X λx v bA H₁ s₁ q R S z r=>q A bA L s₁ _ E ah (X.cj R S) λy u dB bS bH dG cW bQ de fj=>by
  refine cps λG k=>?_;obtain⟨⟨T,hT,id,hl⟩,dG⟩:=dG;refine k ?_;exact tail_any (hT.typeIs cW (r.step bQ .none)) hl (dG A dB bH v u Qc E ah cW (r.step bQ .none) fj (p.after (S.trans bQ) (z.trans de))) (Pj hs))
theorem Op.item{i:Nat}(I:eF H x xs)(hi:i<1000000)(e:xs[i]?=some y)(q:Q y H):bC d getItem x (.int i) H Q:=
 λA ρ s a b Qc E ah R r r' p=>by refine ef (I.at R r) λa vs n bK ho rl=>?_;subst bK;refine r'.k λt=>?_;refine ao (rl.get e) λv e1 r1=>?_;exact wpAny_getItem_list ho.isList (by exact afZ _) (by lia) (by rw[afM];simpa using e1) (p.here q R r1)
theorem Op.Ac(I:eF H x (xs++[y]))(q:Q y H):bC d getItem x (.int (-1)) H Q:=
 λA ρ s a b Qc E ah R r r' p=>by refine ef (I.at R r) λa vs n bK ho rl=>?_;subst bK;refine r'.k λt=>?_;refine ao (rl.get (i:=xs.length) (x:=y) (by simp)) λv e1 r1=>?_;have le:=rl.length;rw[afC,afW]at le;refine wpAny_getItem_list_neg ho.isList (by decide) (by rw[afT];lia) (by decide) ?_ (p.here q R r1);rw[afT,<-le,show((-1:Int)+((xs.length+1:Nat):Int)).toNat=xs.length by omega];simpa using e1
theorem Op.Ad{i:Nat}(hi:i<1000000)(e:xs[i]?=some y)(q:Q y H):bC d getItem (.aJ xs) (.int i) H Q:=
 λA ρ s a b Qc E ah R r r' p=>by
  refine r.k λ_ _ _ ho f rl=>?_;refine r'.k λt=>?_;refine ao (rl.get e) λv e1 r1=>?_;refine aI (afB.mp e1) λaY _=>?_;refine PyProof.Rows.getItem_tuple ⟨_,ho,rfl,_,rfl⟩ (by exact afZ _) (by lia) (j:=i) ?_ (by simpa using e1) (p.here q R r1);unfold seqIndex?;have:¬((i:Int)<0):=by exact nofun
  simp only[this,if_false,List.size_toArray];rw[if_pos (by simp;exact aY),afM]
theorem Op.Pm{i:Nat}(hi:i<1000000)(e:x.cps[i]?=some c)(q:Q (.str ⟨#[c]⟩) H):bC d getItem (.str x) (.int i) H Q:=
 λA ρ s a b Qc E ah R r r' p=>by
  refine r.k λt=>?_;refine r'.k λu=>?_;obtain⟨aY,_⟩:=Array.getElem?_eq_some_iff.mp e;refine PySem.P.getItem_str (c:=c) ?_ ?_ (p.toks q R (.str _ _))
  ·rw[Bool.or_eq_false_iff,decide_eq_false_iff_not,decide_eq_false_iff_not];lia
  ·unfold seqIndex?;have:¬((i:Int)<0):=by exact nofun
   simp only[this,if_false];rw[if_pos (by simp;exact aY),afM];exact e
theorem cf.valueAt(r:cf h ρ es kvs):(∀av,es.lookup k=some av->∃v,valueAt kvs k=some v/\bj h ρ av v)/\(es.lookup k=none->valueAt kvs k=none):=by
 induction r with
 |nil=>exact⟨λ_ e=>(nomatch e),λ_=>rfl⟩
 |@cons k' x v es ds a b ih=>
  unfold PySem.valueAt at ih ⊢;rw[ml,List.find?_cons];by_cases q:k=k'
  ·subst q;simp only[decide_true,if_true];exact⟨λav e=>by apply sE e;exact⟨v,rfl,a⟩,λe=>by cases e⟩
  ·have:decide (k'=k)=false:=ag1 λe=>q e.symm;simp only[if_neg q,this];exact ih
theorem bu.map(R:bu ρ H h)(hl:H.get l=some (.map es))(r:bj h ρ (.ae l) v):
  ∃a kvs,v=.ref a/\ρ l=some a/\h.DictOf (strKind cg wX) a kvs/\cf h ρ es kvs/\(a==sysModules)=false:=by
 refine ao (R.obj _ _ hl) λa e hh=>cN hh λkvs hd rp hn=>?_;refine r.k λ_ e'=>?_;rw[e]at e';apply sE e';exact⟨a,kvs,rfl,e,hd,rp,hn⟩
theorem Op.uw(hl:H.get l=some (.map es))(e:es.lookup k=some y)(q:Q y H):bC d getItem (.ae l) (.str k) H Q:=
 λA ρ s a b Qc E ah R r r' p=>by refine gN (R.map hl r) λa kvs aP _ hd rp _=>?_;subst aP;refine r'.k λt=>?_;refine ao (rp.valueAt.1 y e) λv e1 r1=>?_;exact wpAny_getItem_of (strKind_is cg wX k t) hd.mapOf e1 (p.toks q R r1)
theorem Op.Pn(hl:H.get l=some (.map es))(q:Q (.bool (!(es.lookup k).isSome)) H):bC d (compareOp .NotIn) (.str k) (.ae l) H Q:=
 λA ρ s a b Qc E ah R r r' p=>by
  refine gN (R.map hl r') λa kvs aP _ hd rp hn=>?_;subst aP;refine r.k λt=>?_;have:(valueAt kvs k).isSome=(es.lookup k).isSome:=by
   cases q:es.lookup k with
   |none=>rw[rp.valueAt.2 q];rfl
   |some av=>refine ao (rp.valueAt.1 av q) λv e1 _=>?_;rw[e1];rfl
  exact wpAny_notIn_of (strKind_is cg wX k t) hn hd.mapOf (by exact this▸p.toks q R (.bool _))
theorem Op.Po(hl:H.get l=some (.map []))(q:Q (.bool false) H):bC d (compareOp .In) (.int k) (.ae l) H Q:=
 λA ρ s a b Qc E ah R r r' p=>by
  refine gN (R.map hl r') λa kvs aP _ hd rp hn=>?_;subst aP;refine r.k λt=>?_;cases rp;refine Ox hd λo es ep e1 e2 e3 e4 e5 e6=>?_;have Pp:es=#[]:=by
   have:=e5;cases hh:es.toList with
   |nil=>simpa using hh
   |cons x y=>replace this:=hh▸this;cases this
  subst Pp;refine wpAny_in_of (knd:=intKind cg wX) (f:=λ_=>none) (intKind_is cg wX k t) hn ⟨o,#[],ep,e1,e2,e3,λe he=>?_,λ_=>rfl⟩ (p.toks q R (.bool _));simp at he
noncomputable def f9:List (Str×U)->Str->U->List (Str×U)
 |[],k,v=>[(k,v)]
 |(k',v')::r,k,v=>if k'=k then(k',v)::r else(k',v')::f9 r k v
theorem cf.qj:∀{es:List (Str×U)} {kvs:List (Str×Value)},cf h ρ es kvs->es.map (·.1)=kvs.map (·.1):=λq=>
 cf.rec (motive:=λes kvs _=>es.map (·.1)=kvs.map (·.1)) rfl (λ_ _ i=>afE (List.cons _) i) q
theorem Pq{r:List (Str×Value)}(hn:k'=k->∀p∈r,p.1≠k):stored ((k',v')::r) k v=if k'=k then(k',v)::r else(k',v')::stored r k v:=by
 unfold stored;by_cases q:k'=k
 ·subst q;simp only[List.any_cons,decide_true,Bool.true_or,if_true,List.map_cons];congr 1;have h2:=hn rfl;clear hn;induction r with
  |nil=>rfl
  |cons p r ih=>
   rw[agB,if_neg (h2 p (.head _)),ih λq hq=>h2 q (.tail _ hq)]
 ·have:decide (k'=k)=false:=ag1 q;simp only[List.any_cons,this,Bool.false_or,if_neg q,List.map_cons,List.cons_append];split<;>rfl
theorem cf.stored{k:Str}(r:bj h ρ x v)(q:cf h ρ es kvs):(kvs.map (·.1)).Nodup->cf h ρ (f9 es k x) (stored kvs k v):=by
 induction q with
 |nil=>exact λ_=>.cons r .nil
 |@cons k' x' v' es ds a b ih=>
  intro nd;rw[agB,List.nodup_cons]at nd;rw[Pq λe p hp he=>nd.1 (af7.mpr ⟨p,hp,he.trans e.symm⟩)];rewrite [f9];by_cases q:k'=k
  ·rw[if_pos q,if_pos q];exact .cons r b
  ·rw[if_neg q,if_neg q];exact .cons a (ih nd.2)
theorem cf.length:∀{es:List (Str×U)} {kvs:List (Str×Value)},cf h ρ es kvs->es.length=kvs.length:=λq=>
 cf.rec (motive:=λes kvs _=>es.length=kvs.length) rfl (λ_ _ i=>afE (·+1) i) q
def mn(d:Nat)(x y v:U)(H:AH)(Q:AH->Prop):Prop:=
 ∀(A:Around) (ρ:aF) (s:Shared) (a b c:Value) (Qc:Unit->Shared->Prop) (E:Value->Shared->Prop),fg A d->bu ρ H s.heap->bj s.heap ρ x a->bj s.heap ρ y b->bj s.heap ρ v c->
  (∀aj H' s',Q H'->bu aj H' s'.heap->bz ρ s.heap aj s'.heap->dS s s'->Qc () s')->wpAny (model cg wX) A (setItem a b c) Qc E s
theorem Set.map(hl:H.get l=some (.map es))(hs:es.length<=1000)(q:Q (H.set l (.map (f9 es k v)))):mn d (.ae l) (.str k) v H Q:=
 λA ρ s a b c Qc E ah R r r' rv p=>by refine gN (R.map hl r) λa kvs aP e hd rp hn=>?_;subst aP;refine r'.k λt=>?_;have le:=rp.length;refine wpAny_setItem_pairs (strKind_is cg wX k t) hd (λh' oO sb=>?_) (by rw[<-le,agW];exact ads ‹_› (by decide));refine ao (ahu.mp oO) λo' nu _=>?_;have S:=bz.same (h:=s.heap) (h':=h') e sb nu;have nd:(kvs.map (·.1)).Nodup:=let⟨_,_,_,_,_,_,_,_,nd⟩:=hd;nd;exact p ρ _ {s with heap:=h',toks:=s.toks+1} q (R.uf e sb ⟨_,oO,(rp.stored rv nd).step S .none,hn⟩) S ⟨rfl,rfl⟩
theorem Pr{j:Nat}{k:Int}(hl:IsL s.heap l items n)
  (hj:k=j)(h0:0<=k)(Fb:k<2 ^ 63)(hn:j<items.size)(hQ:Q () {s with heap:=s.heap.update l (Obj.mapSeq (·.setIfInBounds j v))}):wpAny (model cg wX) A (setItem (.ref l) (.int k t) v) Q E s:=by
 refine ahe ?_;refine afS (wpAny_sequenceKey hl.isList.typeIs (by decide) ?_);refine afS (wpAny_callSpecial?_slot (name:=Str.ofString "__setitem__") hl.isList.typeIs slot_list_setitem
  (wpAny_call_entry slot_list_setitem hl.isList.typeIs entry_list_setitem ?_ (args_list_setitem _ _ _)))
 show wpAny _ _ (Builtin.List.listSubscript? (.int k t)>>=_) _ _ s;refine afS (wpAny_listSubscript_int (fitsIndex_of h0 Fb) ?_);clear Fb h0;subst hj;have Pt:items[j]?=some items[j]:=Array.getElem?_eq_getElem hn;show wpAny _ _ ((seqItemAt l j>>=λr=>pure (r.map (j,·)))>>=_) _ _ s;refine afS (afS (wpAny_seqItemAt hl rfl (af3 ?_)));rw[Pt];show wpAny _ _ (setSeqItemAt l j v>>=_) _ _ s;refine afS (wpAny_setSeqItemAt hl rfl ?_)
 first
  |exact afS (af3 (af3 ⟨.none,rfl,af3 hQ⟩))
  |exact af3 ⟨.none,rfl,af3 hQ⟩
theorem Set.list(hl:H.get l=some (.list xs))(hi:i<xs.length)(hs:xs.length<=1000000)(q:Q (H.set l (.list (xs.set i v)))):mn d (.ae l) (.int i) v H Q:=
 λA ρ s a b c Qc E ah R r r' rv p=>by refine kI (R.list hl r) λa us n bK e ho rl le=>?_;subst bK;refine r'.k λt=>?_;refine Pr (j:=i) ho rfl (by exact afZ _) (by lia) (by rw[afT,le];exact hi) ?_;refine aU (R.wW e ho (g:=λx=>x.setIfInBounds i c) (rZ:=us.set i c) (xs':=xs.set i v) (by simp) (rl.set i rv)) λR' S=>?_;exact p ρ _ _ q R' S ⟨rfl,rfl⟩
theorem Ex.ux
  (h:aW d f m H e λv H₁=>aW d f m H₁ o λx bS=>aW d f m bS i λy hZ=>mn d x y v hZ λny=>Q .next m ny)
  (hs:kb e=true:=by with_unfolding_all exact rfl):dD d f m H (.Assign [.Subscript o i rV] e pos) Q:=
 λA ρ L s Qc E ah X p=>wpAny_Assign_Subscript (h A ρ L s _ E ah X λy v bA H₁ s₁ q R S z r=>
  q A bA L s₁ _ E ah (X.cj R S) λEX wQ dB bS bH dG cW bQ de fj=>dG A dB L bH _ E ah (X.cj cW (S.trans bQ)) λEY EZ lD hZ dW jJ mi eh fY oM=>
   jJ A lD dW wQ EZ v _ E ah mi (fj.step eh .none) oM (r.step (bQ.trans eh) .none) λjM ny lJ lK Pu kL uy=>by
    have SS:=((S.trans bQ).trans eh).trans kL;exact p _ _ jM m ny lJ lK (X.cj Pu SS) (.weak SS) (((z.trans de).trans fY).trans uy) .next) (qg hs)
end
structure r5(L it:Addr)(cX:Heap):Prop where
 h:cX.get? it=none
 b:hX.get? it=none
 ne:it≠L
structure mq{cm:List (Str×Loc)}(L:gA cm)(it:Addr)(bA:aF)(s₁:Shared)(ρ:aF)(H:AH)(m:Lo)(s:Shared):Prop where
 X:St ρ H L m s.heap
 S:bX (some L.L) bA s₁.heap ρ s.heap
 z:dS s₁ s
 fr:∀l,ρ l≠some it
structure kM(A:Around)(L it:Addr)(n:Nat)(ys:Nat->U)(G:Nat->aF->Heap->Prop)(Ok:AH->Prop):Prop where
 at_:∀i ρ h,G i ρ h->∃o,h.get? it=some o/\∀xs n,o.data≠.seq xs n
 step:∀i ρ h aj h',G i ρ h->(∀l,ρ l≠some it)->it≠L->bX (some L) ρ h aj h'->DictAt h (some L)->G i aj h'
 item:∀i ρ H s (Q:Option Value->Shared->Prop) (E:Value->Shared->Prop),i<n->G i ρ s.heap->Ok H->bu ρ H s.heap->
  (∀h' tk v o',Heap.ExtBut it s.heap h'->h'.get? it=some o'->(bX (some it) ρ s.heap ρ h'->DictAt s.heap (some it)->G (i+1) ρ h'/\bj h' ρ (ys i) v)->Q (some v) {s with heap:=h',toks:=tk})->wpAny (model cg wX) A (pyNext (.ref it)) Q E s
 last:∀ρ H s (Q:Option Value->Shared->Prop) (E:Value->Shared->Prop),G n ρ s.heap->Ok H->bu ρ H s.heap->(∀h',Heap.ExtBut it s.heap h'->Q none {s with heap:=h'})->wpAny (model cg wX) A (pyNext (.ref it)) Q E s
section
variable{d:Nat}{f:aV}{m:Lo}{H:AH}
theorem bu.Ae(R:bu ρ H h)(e:h.get? a=none):hX.get? a=none:=by
 cases q:hX.get? a with
 |none=>rfl
 |some o=>rw[R.base _ _ q]at e;exact nomatch e
theorem St.Fd(X:St ρ H L m h)(e:h.get? a=none):r5 L.L a h:=by refine⟨e,X.b5.Ae e,λq=>?_⟩;refine ao X.fr λm' F M=>?_;refine jd F.ns λo es ep e2 _=>?_;rw[q]at e;exact ag (e▸e2)
theorem DictAt.of(e:h.get? it=some o)(n:∀xs n,o.data≠.seq xs n):DictAt h (some it):=λa q=>by apply sE q;exact⟨o,e,n⟩
theorem bu.Af(R:bu ρ H h)(S:bX X ρ h aj h')(e:h.get? it=none):∃a o,hX.objs.size<=a+1/\a≠it/\h'.get? a=some o:=by refine cQ R.top λb o' q eb=>?_;refine aI (S.live b o' eb) λng e'=>?_;exact⟨b,ng,q,λz=>by(rw[z,e]at eb;exact ag eb),e'⟩
section
variable{A:Around}{L:gA f.cm}{it:Addr}{bA ρ:aF}{s₁ s:Shared}{H₁:AH}{n i:Nat}{ys:Nat->U}{G:Nat->aF->Heap->Prop}{Ok:AH->Prop}
theorem mq.next(Y:mq L it bA s₁ ρ H m s)(K:r5 L.L it s₁.heap)(e:s.heap.get? it=some o)(en:∀xs n,o.data≠.seq xs n)(eb:Heap.ExtBut it s.heap h')(e':h'.get? it=some o'):
  mq L it bA s₁ ρ H m {s with heap:=h',toks:=tk}/\bX (some it) ρ s.heap ρ h':=by
 refine aU (Y.X.b5.oK e en Y.fr K.b eb e') λR S=>?_;exact⟨⟨Y.X.oK K.ne R S.dy (.of e en),Y.S.oK K.h S,⟨Y.z.gens,Y.z.os⟩,Y.fr⟩,S⟩
theorem Fe(IG:kM A L.L it n ys G Ok)(K:r5 L.L it s₁.heap)(fM:bu bA H₁ s₁.heap)(Y:mq L it bA s₁ ρ H m s)(hi:i<=n)(g:G i ρ s.heap)(ok:Ok H)(hk:f.cs.kind=.function)(hl:f.kind x=some .local)
  {N:Shared->Prop}
  (more:i<n->∀bH,mq L it bA s₁ ρ H ((x,ys i)::m) bH->G (i+1) ρ bH.heap->Bd () bH)
  (stop:i=n->∀bH,St ρ H L m bH.heap->bX (some L.L) bA s₁.heap ρ bH.heap->dS s₁ bH->N bH):
  wpAny (model cg wX) A (pyNext (.ref it)) (λr bH=>match r with
   |none=>N bH
   |some v=>wpAny (model cg wX) A (assign (.Name x xp) (f.env L) v) Bd E bH) E' s:=by
 refine ao (IG.at_ _ _ _ g) λo e en=>?_;by_cases aY:i<n
 ·refine IG.item i ρ H s _ _ aY g ok Y.X.b5 λh' tk v o' eb e' q=>?_;refine aU (Y.next K (tk:=tk) e en eb e') λY' S=>?_;refine aU (q S (.of e en)) λg' r=>?_;dsimp only;rw[arm_assign_Name];exact afS (ahq (ahw (qh Y'.X r (λdW je eh fY=>more aY dW ⟨je,Y'.S.trans eh,Y'.z.trans fY,Y.fr⟩ (IG.step _ _ _ _ _ g' Y.fr K.ne eh Y'.X.dict)) hk hl)))
 ·have q:i=n:=Nat.le_antisymm hi (ahx.mp aY);refine IG.last ρ H s _ _ (q▸g) ok Y.X.b5 λh' eb=>stop q {s with heap:=h'} ?_ (Y.S.last K.h eb) ⟨Y.z.gens,Y.z.os⟩;exact Y.X.oK K.ne (Y.X.b5.last e en Y.fr K.b eb (fM.Af Y.S K.h)) (hV.ue eb) (.of e en)
inductive LJ{cm:List (Str×Loc)}(L:gA cm)(it:Addr)(bA:aF)(s₁:Shared)(n:Nat)(I:Nat->Lo->AH->Prop)(G:Nat->aF->Heap->Prop):Nat->Shared->Prop
 |mk {i:Nat} {ρ:aF} {m:Lo} {H:AH} {s:Shared} (hi:i<=n) (hI:I i m H) (Y:mq L it bA s₁ ρ H m s) (g:G i ρ s.heap):LJ L it bA s₁ n I G (n-i) s
theorem Ff{body iQ:List Stmt}{I:Nat->Lo->AH->Prop}(IG:kM A L.L it n ys G Ok)(Pw:∀i m' H',I i m' H'->Ok H')(hx:fh f x .local)(ah:fg A d)
  (turn:∀i m' H',I i m' H'->i<n->bR d f ((x,ys i)::m') H' body λfl fH bS=>match fl with
    |.next|.cont=>I (i+1) fH bS
    |.brk=>Q .next fH bS
    |.ret v=>Q (.ret v) fH bS)
  (done:∀m' H',I n m' H'->bR d f m' H' iQ Q)
  (K:r5 L.L it s₁.heap)(fM:bu bA H₁ s₁.heap)(Y:mq L it bA s₁ ρ H m s)(i0:I 0 m H)(g:G 0 ρ s.heap)
  (p:rS L bA s₁ Q λfl s'=>R (.ok fl) s'):codeAny (model cg wX) A (.forLoop (.Name x xp) (.ref it) body iQ (f.env L)) R s:=by
 refine codeAny_forLoop (LJ L it bA s₁ n I G) (λk s hJ=>?_) n (.mk (afO _) i0 Y g) (λ_=>rfl);induction hJ with|mk hi hI Y g=>
 refine Fe IG K fM Y hi g (Pw _ _ _ hI) hx.fn hx.kind (λaY bH r6 Fg=>?_) λe bH iR bQ de=>done _ _ (e▸hI) A _ L bH _ _ ah iR (p.after bQ de);refine turn _ _ _ hI aY A _ L bH _ _ ah r6.X λfl Px jM qk ny lJ lK oP kL uy Ag=>?_;refine ao (IG.at_ _ _ _ Fg) λo e _=>?_;have uz:mq L it bA s₁ jM ny qk lJ:=⟨oP,r6.S.trans kL,r6.z.trans uy,kL.free r6.fr e⟩;have J:=λq:I (_+1) qk ny=>(⟨_,agU aY (agf _),.mk aY q uz (IG.step _ _ _ _ _ Fg r6.fr K.ne kL r6.X.dict)⟩:∃k,k<n-_/\LJ L it bA s₁ n I G k lJ);induction Ag with
 |next=>exact J lK
 |cont=>exact J lK
 |brk=>exact p _ _ _ _ _ _ lK oP uz.S uz.z .next
 |ret rr=>exact p _ _ _ _ _ _ lK oP uz.S uz.z (.ret rr)
end
theorem IsListIter.Fh{h:Heap}(x:h.IsListIter it a i):∃o,h.get? it=some o/\∀xs n,o.data≠.seq xs n:=by refine cN x λo e c dd=>?_;exact⟨o,e,λxs n z=>by replace z:=dd▸z;cases z⟩
theorem kM.list{A:Around}(hh:A.handled=none):kM A L it xs.length (λi=>xs.getD i .none) (λi ρ h=>bj h ρ v (.ref a)/\h.IsListIter it a i) (λH=>eF H v xs) where
 at_:=λi ρ h g=>IsListIter.Fh g.2
 step:=λi ρ h aj h' g fr ne S D=>⟨g.1.step S D,g.2.at λo e=>S.keep it o e fr λq=>ne (ack q).symm⟩
 item:=λi ρ H s Q E aY g I R q=>by refine ef (I.at R g.1) λa' vs n e' ho rl=>?_;cases e';refine ao (rl.get (afH aY)) λv' e1 rv=>?_;refine wpAny_pyNext_list_item g.2 ho.isList (x:=v') (by simpa using e1) λh' r7 sb=>?_;refine ao (IsListIter.Fh r7) λo' e' _=>?_;refine q h' _ v' o' sb.extBut e' λS D=>⟨⟨g.1.step S D,r7⟩,?_⟩;show bj h' ρ (xs.getD i .none) v';rw[agD,afH aY];exact rv.step S D
 last:=λρ H s Q E g I R q=>by refine cps λG k=>?_;refine ef (I.at R g.1) λa' vs n e' ho rl=>?_;refine k ?_;cases e';exact wpAny_pyNext_list_end hh g.2 ho.isList (by simp[rl.length]) q
theorem Ex.forIn{Q:Fl->Lo->AH->Prop}(hx:fh f x .local)(I:Nat->Lo->AH->Prop)(xs:List U)
  (h:aW d f m H iter λv H₁=>I 0 m H₁/\∀i m' H',I i m' H'->eF H' v xs)
  (turn:∀i y m' H',I i m' H'->xs[i]?=some y->bR d f ((x,y)::m') H' body λfl fH bS=>match fl with
    |.next|.cont=>I (i+1) fH bS
    |.brk=>Q .next fH bS
    |.ret v=>Q (.ret v) fH bS)
  (done:∀m' H',I xs.length m' H'->bR d f m' H' iQ Q)
  (hs:qf iter=true:=by with_unfolding_all exact rfl):
  dD d f m H (.For (.Name x xp) iter body iQ pos) Q:=
 λA ρ L s Qc E ah X p=>wpAny_For (h A ρ L s _ E ah X λv u bA H₁ s₁ q R S z r=>by
  refine aU q λi0 hI=>?_;refine ef ((hI _ _ _ i0).at R r) λa vs n bK ho rl=>?_;subst bK;have gm:=X.cj R S;have K:=gm.Fd (kJ s₁.heap);refine wpAny_pyIter_list ho.isList ?_;refine Ff (s₁:=s₁) (kM.list ah.1) hI hx ah (λi m' H' i2 aY=>turn i _ m' H' i2 (by rw[agD,afH aY];rfl)) done K R
   ⟨gm.cj (R.push _) (bz.push _),.weak (bz.push _),⟨rfl,rfl⟩,λl e=>R.lz l e⟩ i0 ⟨r.step (bz.push _) .none,_,agd _ rfl,rfl,rfl⟩ (p.after (.weak S) z)) (λ_=>zT hs)
end
theorem Py(h0:-1000000<=n)(h1:n<=1000000):Builtin.Range.small 0 n 1=true/\Builtin.Range.rangeSize 0 n 1=(n.toNat:Int):=by
 have e:Builtin.Range.rangeSize 0 n 1=(n.toNat:Int):=by unfold Builtin.Range.rangeSize;simp only[show(1:Int)>0 by decide,if_true];split<;>lia
 refine⟨?_,e⟩;unfold Builtin.Range.small;rw[e];unfold Builtin.Range.rangeFitsLong;simp only[show(1:Int)>0 by decide,if_true,Bool.and_eq_true,Bool.or_eq_true,decide_eq_true_eq];refine⟨⟨⟨⟨?_,?_⟩,?_⟩,?_⟩,.inr ?_⟩<;>lia
theorem small_down(h0:-1<=a)(h1:a<=1000000):Builtin.Range.small a (-1) (-1)=true/\Builtin.Range.rangeSize a (-1) (-1)=((a+1).toNat:Int):=by
 have e:Builtin.Range.rangeSize a (-1) (-1)=((a+1).toNat:Int):=by unfold Builtin.Range.rangeSize;simp only[show¬((-1:Int)>0) by decide,if_false,Int.neg_neg,Int.ediv_one];split<;>lia
 refine⟨?_,e⟩;unfold Builtin.Range.small;rw[e];unfold Builtin.Range.rangeFitsLong;simp only[show¬((-1:Int)>0) by decide,if_false,Bool.and_eq_true,Bool.or_eq_true,decide_eq_true_eq];refine⟨⟨⟨⟨?_,?_⟩,?_⟩,?_⟩,.inr ?_⟩<;>lia
inductive mu:List U->Int->Int->Int->Nat->Prop
 |up {n:Int} (h0:-1000000<=n) (h1:n<=1000000):mu [.int n] 0 n 1 n.toNat
 |down {a:Int} (h0:-1<=a) (h1:a<=1000000):mu [.int a,.int (-1),.int (-1)] a (-1) (-1) (a+1).toNat
theorem mu.size(h:mu xs a b c n):Builtin.Range.small a b c=true/\Builtin.Range.rangeSize a b c=(n:Int):=by
 induction h with
 |up h0 h1=>exact Py h0 h1
 |down h0 h1=>exact small_down h0 h1
section
variable{d:Nat}{f:aV}{m:Lo}{H:AH}
theorem Pz(hx:mu xs a b c n)(r:bk s.heap ρ xs vs)
  (h:∀t u v tk,Q (.ref s.heap.objs.size) {s with heap:=s.heap.push {cls:=.type "range",data:=.fields #[.int a t,.int b u,.int c v]},toks:=tk}):wpAny (model cg wX) A (call (.type "range") vs) Q E s:=by
 induction hx with
 |up=>
  refine ao r.one λv bp r1=>?_;subst bp;refine r1.k λ_=>?_;exact call_range_1 (h _ _ _ _)
 |down=>
  refine uc r.three λv1 v2 v3 bK r1 r2 r3=>?_;subst bK;refine r1.k λ_=>?_;refine r2.k λ_=>?_;refine r3.k λ_=>?_;exact call_range_3 (by decide) (h _ _ _ _) (.inl (PyProof.noPylong_small (by decide)))
theorem kM.range(hh:A.handled=none):kM A L it n (λi=>.int (a+i*c)) (λi ρ h=>IsRangeIter h it (a+i*c) ((n:Int)-i) c) (λH=>True) where
 at_:=λi ρ h g=>⟨_,g,λ_ _ q=>by cases q⟩
 step:=λi ρ h aj h' g fr ne S D=>S.keep it _ g fr λq=>ne (ack q).symm
 item:=λi ρ H s Q E aY g I R q=>by
  refine wpAny_pyNext_range_item g (Int.sub_pos_of_lt (ag6.mpr aY)) λh' r7 sb=>?_;have e1:a+i*c+c=a+((i+1:Nat):Int)*c:=by rw[Int.natCast_add,Int.add_mul,Int.add_assoc];exact afE (λz=>a+(i*c+z)) (Int.one_mul c).symm
  have e2:(n:Int)-i-1=(n:Int)-((i+1:Nat):Int):=Int.sub_sub ..;rw[e1,e2]at r7;exact q h' _ _ _ sb.extBut r7 λS D=>⟨r7,.int _ _⟩
 last:=λρ H s Q E g I R q=>wpAny_pyNext_range_end hh g (Int.le_of_eq (Int.sub_self _)) q
theorem Ex.Ah(a b c:Int)(n:Nat)(I:Nat->Lo->AH->Prop)
  (hm:iw rx (.type "range"))(hx:fh f x .local)(Fi:fh f rx .globalImplicit)
  (h:gj d f m H args λxs H₁=>mu xs a b c n/\I 0 m H₁)
  (turn:∀i m' H',I i m' H'->i<n->bR d f ((x,.int (a+i*c))::m') H' body λfl fH bS=>match fl with
    |.next|.cont=>I (i+1) fH bS
    |.brk=>Q .next fH bS
    |.ret v=>Q (.ret v) fH bS)
  (done:∀m' H',I n m' H'->bR d f m' H' iQ Q)
  (hp:f7 args=true:=by with_unfolding_all exact rfl):
  dD d f m H (.For (.Name x xp) (.Call (.Name rx rp) args [] cp) body iQ pos) Q:=
 λA ρ L s Qc E ah X p=>wpAny_For (by
  show wpAny _ _ (do callWith cp (<-eval (.Name rx rp) (f.env L)) [] (backTo cp (starEach args (f.env L))) (backToKw cp (keywordEach [] (f.env L)))) _ _ _;refine afS ?_;have F:=X.fr.choose_spec.1;refine l8 X.b5.bs.top λ_ _ mg mb T=>?_;refine Name_function_global (f.lA hx.fn) (f.kindOf Fi.kind) (loadGlobal_builtin (by rw[(f.ok L.L L.cl).globals];exact T.g.keeps F.keep) (mg_none_of X.b5.bs.X T.g hm.lB) (by rw[(f.ok L.L L.cl).builtins];exact T.b.keeps F.keep) ((T.builtins rx hm.ne).trans hm.val) ?_) Fi.nd;refine E0 (P:=λ_=>True) hp E1 (h A ρ L s _ E cp ah X λxs vs bA H₁ s₁ q R S z r=>⟨af2,?_⟩);refine Pz q.1 r λt u v tk=>?_;have gm:=X.cj R S;have hc:Builtin.Range.small a b c=true/\Builtin.Range.rangeSize a b c=(n:Int):=q.1.size;generalize Ai:({cls:=.type "range",data:=.fields #[.int a t,.int b u,.int c v]}:Obj)=ob;have hr:IsRange (s₁.heap.push ob) s₁.heap.objs.size a b c t u v:=by exact Ai▸agd _ rfl
  refine wpAny_pyIter_range (s:={s₁ with heap:=s₁.heap.push ob,toks:=tk}) hr hc.1 ?_;rw[hc.2];have cW:=R.push ob;have bQ:bz bA s₁.heap bA (s₁.heap.push ob):=bz.push ob;have iR:=gm.cj cW bQ;refine Ff (s₁:={s₁ with heap:=s₁.heap.push ob,toks:=tk}) (kM.range ah.1) (λ_ _ _ _=>af2) hx ah turn done (iR.Fd (kJ _)) cW
   ⟨iR.cj (cW.push _) (bz.push _),.weak (bz.push _),⟨rfl,rfl⟩,λl e=>cW.lz l e⟩ q.2 ?_ (p.after (.weak (S.trans bQ)) ⟨z.gens,z.os⟩)
  show Heap.get? _ _=some _;rw[show a+((0:Nat):Int)*c=a by rw[Int.natCast_zero,Int.zero_mul,Int.add_zero],show(n:Int)-((0:Nat):Int)=n by rw[Int.natCast_zero,Int.sub_zero]];exact agd _ rfl) (λ_=>rfl)
end
section
variable{h h':Heap}{ρ:aF}{H:AH}
theorem bz.keeps(k:∀a o,h.get? a=some o->h'.get? a=some o):bz ρ h ρ h':=⟨λ_ _ e=>e,λ_ _ e=>.inl e,λa o e _ _=>k a o e,λa o e=>⟨o,k a o e⟩⟩
theorem bu.keeps(R:bu ρ H h)(k:∀a o,h.get? a=some o->h'.get? a=some o):bu ρ H h':=
 ⟨R.bs,λl ob e=>ao (R.obj l ob e) λa e1 r=>⟨a,e1,r.step (bz.keeps k) .none λ_ q=>k _ _ q⟩,R.low,λl a e=>aI (R.live l a e) λob q=>⟨ob,k _ _ q⟩,R.inj,R.new,λb ob e=>k _ _ (R.base b ob e),cQ R.top λa ob q e=>⟨a,ob,q,k _ _ e⟩⟩
end
section
variable{d:Nat}{f:aV}{m:Lo}{H:AH}
theorem Ev.tuple(h:gj d f m H elts λxs H'=>xs.length<=1000000/\Q (.aJ xs) H'):aW d f m H (.Tuple elts k pos) Q:=
 λA ρ L s Qc E ah X p=>Tuple_ (h A ρ L s _ E pos ah X λxs vs aj H' s' q R S z r=>by
  refine wpAny_newObj_type ?_ (by show vs.toArray.size<=sizeLine;exact uo r.length.symm q.1);exact(p.after S z).zR q.2 R (.aJ (n:=0) (agd _ rfl) R.lz (r.step (bz.push _) .none)))
theorem Ev.list(h:gj d f m H elts λxs H'=>xs.length<=1000000/\Q (.az xs) H'):aW d f m H (.List elts pos) Q:=
 λA ρ L s Qc E ah X p=>List_ (h A ρ L s _ E pos ah X λxs vs aj H' s' q R S z r=>by
  refine wpAny_newObj_type ?_ (by show vs.toArray.size<=sizeLine;exact uo r.length.symm q.1);exact(p.after S z).zR q.2 R (.az (n:=0) (agd _ rfl) R.lz (r.step (bz.push _) .none)))
theorem gC.alloc(p:gC ρ s Q Qc)(R:bu ρ H s.heap)(hn:H.new l)(hf:ob.isFreed=false)
  (ho:∀aj,bz ρ s.heap aj (s.heap.push ob)->(s.heap.push ob).get? s.heap.objs.size=some ob->hU (s.heap.push ob) aj o s.heap.objs.size)(q:Q (.ae l) (H.add l o)):Qc (.ref s.heap.objs.size) {s with heap:=s.heap.push ob}:=by
 refine aU (R.alloc hn hf ho) λR' S=>?_;exact p _ _ _ _ {s with heap:=s.heap.push ob} q R' S ⟨rfl,rfl⟩ (.ae (aF.bY ..))
theorem Ev.kc(l:Loc)(h:gj d f m H elts λxs H'=>xs.length<=1000000/\H'.new l/\Q (.ae l) (H'.add l (.list xs))):aW d f m H (.List elts pos) Q:=
 λA ρ L s Qc E ah X p=>List_ (h A ρ L s _ E pos ah X λxs vs aj H' s' q R S z r=>by
  refine wpAny_newObj_type ?_ (by show vs.toArray.size<=sizeLine;exact uo r.length.symm q.1);exact(p.after S z).alloc (o:=.list xs) R q.2.1 rfl (λoJ S' e=>⟨vs,0,e,r.step S' .none⟩) q.2.2)
theorem Call.len(I:eF H x xs)(hs:xs.length<=1000000)(q:Q (.int xs.length) H):ba d (.builtin "len") [x] H Q:=
 λA ρ s vs Qc E ah R rv p=>by refine ao rv.one λv bp r=>?_;subst bp;refine ef (I.at R r) λa us n bK ho rl=>?_;subst bK;have le:=rl.length;refine len_list ho.isList (by rw[afT];lia) ?_;rw[afT,<-le];exact p.toks q R (.int _ _)
noncomputable def r8 (k:Str):Value->Bool
 |.str x _=>x==k
 |_=>false
theorem bk.strs{k:Str}:∀{ss:List Str} {vs:List Value},bk h ρ (ss.map U.str) vs->(∀y∈vs,∃i t,y=.str i t)/\vs.any (r8 k)=ss.any (·==k):=λ{ss}=>by
 induction ss with
 |nil=>exact λr=>by rw[r.qd];exact⟨λ_ h=>(nomatch h),rfl⟩
 |cons x r ih=>
  intro vs q;refine cV q.un λv ws aP a b=>?_;subst aP;refine aI a.zO λt bp=>?_;subst bp;refine aU (ih b) λp q=>?_;exact⟨agc.mpr ⟨⟨x,t,rfl⟩,p⟩,by rw[ahp,ahp,q];rfl⟩
theorem bk.Fj{k:Int}:∀{ns:List Int} {vs:List Value},bk h ρ (ns.map U.int) vs->(vs.any (ur k))=ns.any (·==k):=λ{ns}=>by
 induction ns with
 |nil=>exact λr=>by rw[r.qd];rfl
 |cons x r ih=>
  intro vs q;refine cV q.un λv ws aP a b=>?_;subst aP;refine aI a.zP λt bp=>?_;subst bp;rw[ahp,ahp,ih b];rfl
theorem wY:SeqAt.EqAt A s (.str x t) (.str k u) (x==k):=λcg wX E Q hq=>by
 refine wpAny_eqBool_str ?_;have:decide (x=k)=(x==k):=by
  by_cases q:x=k
  ·subst q;simp
  ·rw[ag1 q];exact(afK.mpr q).symm
 exact this▸hq
theorem Op.PA{ss:List Str}{Q:U->AH->Prop}(q:Q (.bool (ss.any (·==k))) H):bC d (compareOp .In) (.str k) (.aJ (ss.map U.str)) H Q:=
 λA ρ s a b Qc E ah R r r' p=>by
  refine r.k λt=>?_;refine r'.k λ_ _ _ e f rl=>?_;refine aU (rl.strs (k:=k)) λh1 h2=>?_;refine SeqAt.in_tupleAt (r8 k) ⟨_,e,rfl,_,rfl⟩ (λy hy=>?_) ?_
  ·refine fX (h1 y (by simpa using hy)) λi u aP=>?_;subst aP;exact wY
  ·rw[ag7,h2];exact p.here q R (.bool _)
theorem Op.PB{ss:List Str}{Q:U->AH->Prop}(q:Q (.bool (!ss.any (·==k))) H):bC d (compareOp .NotIn) (.str k) (.aJ (ss.map U.str)) H Q:=
 λA ρ s a b Qc E ah R r r' p=>by
  refine r.k λt=>?_;refine r'.k λ_ _ _ e f rl=>?_;refine aU (rl.strs (k:=k)) λh1 h2=>?_;refine SeqAt.notIn_tupleAt (r8 k) ⟨_,e,rfl,_,rfl⟩ (λy hy=>?_) ?_
  ·refine fX (h1 y (by simpa using hy)) λi u aP=>?_;subst aP;exact wY
  ·rw[ag7,h2];exact p.here q R (.bool _)
theorem Op.PC{ss:List Str}(I:eF H x (ss.map U.str))(q:Q (.bool (ss.any (·==k))) H):bC d (compareOp .In) (.str k) x H Q:=
 λA ρ s a b Qc E ah R r r' p=>by
  refine r.k λt=>?_;refine ef (I.at R r') λa us n bK ho rl=>?_;subst bK;refine aU (rl.strs (k:=k)) λh1 h2=>?_;refine SeqAt.in_listAt (r8 k) ho.isList (λy hy=>?_) ?_
  ·refine fX (h1 y (by simpa using hy)) λi u aP=>?_;subst aP;exact wY
  ·rw[ag7,h2];exact p.here q R (.bool _)
theorem Op.Fn{ns:List Int}(I:eF H x (ns.map U.int))(q:Q (.bool (ns.any (·==k))) H):bC d (compareOp .In) (.int k) x H Q:=
 λA ρ s a b Qc E ah R r r' p=>by
  refine r.k λt=>?_;refine ef (I.at R r') λa us n bK ho rl=>?_;subst bK;refine aU rl.Ab λh1 _=>?_;refine SeqAt.in_listAt (ur k) ho.isList (λy hy=>?_) ?_
  ·refine fX (h1 y (by simpa using hy)) λi u aP=>?_;subst aP;exact(MeetsSeq.EqGives.int i k u t).at _ _
  ·rw[ag7,rl.Fj];exact p.here q R (.bool _)
theorem Op.PD{ns:List Int}(I:eF H x (ns.map U.int))(q:Q (.bool (!ns.any (·==k))) H):bC d (compareOp .NotIn) (.int k) x H Q:=
 λA ρ s a b Qc E ah R r r' p=>by
  refine r.k λt=>?_;refine ef (I.at R r') λa us n bK ho rl=>?_;subst bK;refine aU rl.Ab λh1 _=>?_;refine SeqAt.notIn_listAt (ur k) ho.isList (λy hy=>?_) ?_
  ·refine fX (h1 y (by simpa using hy)) λi u aP=>?_;subst aP;exact(MeetsSeq.EqGives.int i k u t).at _ _
  ·rw[ag7,rl.Fj];exact p.here q R (.bool _)
theorem Call.isStr(q:Q (.bool true) H):ba d (.builtin "isinstance") [.str x,.val (.type "str")] H Q:=
 λA ρ s vs Qc E ah R rv p=>by refine cV rv.nq λa b aP r1 r2=>?_;subst aP;refine r1.k λ_=>?_;refine r2.k ?_;exact IsiPair.str_str (p.here q R (.bool _))
theorem Call.PE(I:eF H x xs)(q:Q (.bool false) H):ba d (.builtin "isinstance") [x,.val (.type "str")] H Q:=
 λA ρ s vs Qc E ah R rv p=>by refine cV rv.nq λa b aP r1 r2=>?_;subst aP;refine ef (I.at R r1) λa us n bK ho rl=>?_;subst bK;refine r2.k ?_;exact IsiPair.list_str ho rfl (p.toks q R (.bool _))
theorem Call.Aj(I:eF H x xs\/x=.aJ xs)(hs:xs.length<=1000000)(q:Q (.az xs) H):ba d (.type "list") [x] H Q:=
 λA ρ s vs Qc E ah R rv p=>by
  refine ao rv.one λv bp r=>?_;subst bp;have fin:∀(us:List Value) (h':Heap) (c':Nat),bk s.heap ρ xs us->(∀b o',s.heap.get? b=some o'->h'.get? b=some o')->h'.get? s.heap.objs.size=some (ud us c')->Qc (.ref s.heap.objs.size) {s with heap:=h'}:=λus h' c' rl k e=>
   p (.az xs) (.ref s.heap.objs.size) ρ H {s with heap:=h'} q (R.keeps k) (bz.keeps k) ⟨rfl,rfl⟩ (.az e R.lz (rl.step (bz.keeps k) .none))
  rcases I with I|rfl
  ·refine ef (I.at R r) λa us n bK ho rl=>?_;subst bK;exact call_list_seq a (.inl rfl) ho rfl rfl (λh' c' k e=>fin us h' c' rl k e) (by rw[afT,<-rl.length,agW];exact bt hs)
  ·refine r.k λ_ _ _ e f rl=>?_;exact call_list_seq _ (.inr rfl) e rfl rfl (λh' c' k e=>fin _ h' c' rl k e) (by rw[afT,<-rl.length,agW];exact bt hs)
end
set_option tactic.hygienic true
theorem dN.put(r:bj h ρ x v):∀{es:List (Str×U)} {ds:List DictEntry},dN h ρ es ds->dN h ρ (f9 es k x) (putL k (PyData.keyHash wX.params k) (.str k t) v ds)
 :=λq=>by
 induction q with
 |nil=>exact .cons r .nil
 |@cons k' t' x' v' es ds a b ih=>
  rewrite [f9,putL];by_cases q:k'=k
  ·subst q;rw[if_pos rfl,if_pos (by simp[Value.isStr])];exact .cons r b
  ·have:(Value.str k' t').isStr k=false:=by simp[Value.isStr];exact q
   rw[if_neg q];rw[show(DictEntry.mk (PyData.keyHash wX.params k') (.str k' t') v').key.isStr k=false from this];exact .cons a ih
theorem dN.length:∀{es:List (Str×U)} {ds:List DictEntry},dN h ρ es ds->es.length=ds.length:=λq=>
 dN.rec (motive:=λes ds _=>es.length=ds.length) rfl (λ_ _ i=>afE (·+1) i) q
theorem Fo(k:Str)(hs:Int)(key v:Value):∀ds:List DictEntry,(putL k hs key v ds).length<=ds.length+1
 |[]=>afD _
 |e::r=>by
  unfold putL;split
  ·exact agt _
  ·rw[af6,af6];exact af9 (Fo k hs key v r)
theorem dN.PF:∀{es:List (Str×U)} {ds:List DictEntry},dN h ρ es ds->ds.any (·.refKey)=false:=λq=>
 dN.rec (motive:=λes ds _=>ds.any (·.refKey)=false) rfl (λ_ _ i=>i) q
structure gS(C:Addr)(name:Str):Prop where
 set:findIn kX (.ref C) "__setattr__"=some (some (.builtin "object.__setattr__"))
 over:plainOver kX C=true
 PG:takerIn kX C name=some .none
 dict:(clsIn kX C).any (·.hasDict)=true
section
variable{d:Nat}{f:aV}{m:Lo}{H:AH}
theorem PH(X:kX.In s.heap)(SA:gS C name)
  (I:W.InstAt s.heap x ⟨.ref C,some dx,.plain,#[]⟩ C (some (dictOf ds n)))(hr:ds.any (·.refKey)=false)(hz:ds.length<=1000)
  (h:R (.ok (.ret .none)) {s with heap:=s.heap.update dx (Obj.putName name (PyData.keyHash wX.params name) (.str name s.toks) v),toks:=s.toks+1}):
  codeAny (model cg wX) A (.call (.builtin "object.__setattr__") ⟨[.ref x,.str name tk,v],[]⟩) R s:=by
 refine osa_open X I SA.over SA.PG λb=>?_;refine ao (any_some SA.dict) λcd hc oO=>?_;obtain⟨hx,hcl,hn,D⟩:=I;have D:s.heap.get? dx=some (dictOf ds n):=D;have D':(s.heap.update dx (Obj.putName name (PyData.keyHash wX.params name) (.str name s.toks) v)).get? dx=some (dictOf (putL name (PyData.keyHash wX.params name) (.str name s.toks) v ds) (putN name ds n)):=by have:=Heap.get?_update_self (f:=Obj.putName name (PyData.keyHash wX.params name) (.str name s.toks) v) D (by rw[putName_dict];rfl);rw[putName_dict]at this;exact this
 refine afS (af3 (afS (afS (wpAny_loadPart hx (afS ((looks_clsIn X hc).here ?_))))));rw[oO];refine af3 (a:=some dx) (afS (af3 (afS ?_)));refine afS (afS (wpAny_askSetting (af3 (afS (wpAny_mkText (afS (wpAny_loadPart D ?_)))))));dsimp only;have c:(!ds.toArray.any (·.key.isStr name)&&ds.toArray.any (·.refKey))=false:=by
  have:(ds.toArray.any λx=>x.refKey)=false:=by rw[ag7];exact hr
  rw[this,ag5]
 rw[aRefKeyMayBeTheName_at,c];refine wpAny_updatePart D ?_;refine afS (wpAny_lookBehind D' (pastItsLine_dict (by have:=Fo name (PyData.keyHash wX.params name) (.str name s.toks) v ds;rw[afT,agW];exact bt (ads this (Nat.add_le_add_right hz _)))) ?_);exact af3 h
theorem Op.setAttr{l dl:Loc}(SA:gS C name)(e1:H.get l=some (.inst C dl))(e2:H.get dl=some (.dict es))(hz:es.length<=1000)
  (q:Q .none (H.set dl (.dict (f9 es name v)))):bC d (λov v=>do setAttr ov name v;pure .none) (.ae l) v H Q:=
 λA ρ s a b Qc E ah R r r' p=>by
  refine cps λG k=>?_;refine ao (R.obj _ _ e1) λa p1 hh=>ao hh λda q1 r1=>?_;refine ao (R.obj _ _ e2) λO0 p2 hh=>cQ hh λds n r2 r3=>?_;refine k ?_;rw[q1]at p2;obtain rfl:=ack p2;refine r.k λ_ e=>?_;rw[p1]at e;apply sE e;have KX:=R.lF;have IA:W.InstAt s.heap a ⟨.ref C,some da,.plain,#[]⟩ C (some (dictOf ds n)):=⟨r1,rfl,rfl,r2⟩;have le:=r3.length;refine afS (set_plain KX IA SA.set (PH (s:={s with toks:=s.toks+1}) KX SA IA r3.PF (by exact le▸hz) ?_));refine af3 ?_;have sb:=Heap.SameBut.update s.heap da (Obj.putName name (PyData.keyHash wX.params name) (.str name (s.toks+1)) b);have D':(s.heap.update da (Obj.putName name (PyData.keyHash wX.params name) (.str name (s.toks+1)) b)).get? da=some (dictOf (putL name (PyData.keyHash wX.params name) (.str name (s.toks+1)) b ds) (putN name ds n)):=by have:=Heap.get?_update_self (f:=Obj.putName name (PyData.keyHash wX.params name) (.str name (s.toks+1)) b) r2 (by rw[putName_dict];rfl);rw[putName_dict]at this;exact this
  have S:=bz.same q1 sb D';have rd:dN s.heap ρ (f9 es name v) (putL name (PyData.keyHash wX.params name) (.str name (s.toks+1)) b ds):=dN.put r' r3;exact p _ _ ρ _ {s with heap:=_,toks:=s.toks+1+1} q (R.uf q1 sb ⟨_,_,D',rd.step S .none⟩) S ⟨rfl,rfl⟩ .none
noncomputable def bindAll:List Str->List U->Lo->Lo
 |n::ns,x::xs,m=>bindAll ns xs ((n,x)::m)
 |_,_,m=>m
noncomputable def Fp:Expr->Option Str
 |.Name x _=>some x
 |_=>none
theorem Fq(h:Fp e=some x):∃p,e=.Name x p:=by
 induction e using Expr.casesOn with
 |Name y p=>exact⟨p,afE (λz=>Expr.Name z p) (ack h)⟩
 |_=>exact ag h
def namesOf:List Expr->Option (List Str)
 |[]=>some []
 |e::r=>(Fp e).bind λx=>(namesOf r).map (x::·)
theorem Fs(hk:f.cs.kind=.function):∀{es:List Expr} {ns:List Str} {xs:List U} {vs:List Value} {m:Lo} {ρ:aF} {s:Shared} {Qc:Unit->Shared->Prop},namesOf es=some ns->(∀x∈ns,eK f.cs.names x .local)->
  xs.length=ns.length->St ρ H L m s.heap->bk s.heap ρ xs vs->
  (∀s',St ρ H L (bindAll ns xs m) s'.heap->bX (some L.L) ρ s.heap ρ s'.heap->dS s s'->Qc () s')->wpAny (model cg wX) A (assignInOrder ((assignEach es (f.env L)).map (·.2)) vs) Qc E s:=λ{es}=>by
 induction es with
 |nil=>
  intro ns xs vs m ρ s Qc hn _ hl X r h;obtain rfl:=ack hn;obtain rfl:=List.length_eq_zero_iff.mp hl;obtain rfl:=r.qd;exact af3 (h s X .refl .refl)
 |cons e es ih=>
  intro ns xs vs m ρ s Qc hn ha hl X r h;refine ao (Option.bind_eq_some_iff.mp hn) λx hx hn=>?_;refine aI (Fq hx) λp bp=>?_;subst bp;refine ao (age.mp hn) λAk Al aP=>?_;subst aP;cases xs with
  |nil=>exact nomatch hl
  |cons y ys=>
   refine cV r.un λv ws aP r1 r2=>?_;subst aP;show wpAny _ _ (do holding _ (assign (.Name x p) (f.env L) _);assignInOrder _ _) _ _ _;refine afS (ahe ?_);rw[arm_assign_Name];exact afS (ahq (ahw (qh X r1 (λs' X' S' z'=>ih Al (λy hy=>ha y (.tail _ hy)) (agZ hl) X' (r2.step S' X.dict) λfG uA ql wZ=>h fG uA (S'.trans ql) (z'.trans wZ)) hk (ha x (.head _)).eq)))
theorem PI:∀{elts:List Expr} {ns:List Str},namesOf elts=some ns->(assignEach elts env).findIdx? (·.1)=none/\(assignEach elts env).length=ns.length:=λ{es}=>by
 induction es with
 |nil=>exact λhn=>by obtain rfl:=ack hn;exact⟨rfl,rfl⟩
 |cons e es ih=>
  intro ns hn;refine ao (Option.bind_eq_some_iff.mp hn) λx hx hn=>?_;refine aI (Fq hx) λp bp=>?_;subst bp;refine ao (age.mp hn) λAk Al aP=>?_;subst aP;refine aU (ih Al) λi1 i2=>?_;have e:assignEach (.Name x p::es) env=(false,assign (.Name x p) env)::assignEach es env:=rfl;rw[e,List.findIdx?_cons,i1,af6,af6,i2];exact⟨rfl,rfl⟩
theorem Ex.PJ(hn:namesOf elts=some ns)(ha:∀x∈ns,eK f.cs.names x .local)
  (h:aW d f m H e λv H'=>∃xs,v=.aJ xs/\xs.length=ns.length/\Q .next (bindAll ns xs m) H')
  (hs:kb e=true:=by with_unfolding_all exact rfl)(hw:∀L,swappedStores [.Tuple elts k Am] e (f.env L)=pure none:=by intros;rfl)(hf:f.isFn=true:=by with_unfolding_all exact rfl):
  dD d f m H (.Assign [.Tuple elts k Am] e pos) Q:=
 have hk:f.cs.kind=.function:=af4 hf
 λA ρ L s Qc E ah X p=>Assign_Tuple (h A ρ L s _ E ah X λv u aj H' s' q R S z r=>by
  obtain⟨xs,rfl,hl,q⟩:=q;refine r.k λvs a n eo fr rl=>?_;show wpAny _ _ (PySem.assign _ _ _) _ _ _;rw[arm_assign_Tuple];refine afS (ahq ?_);have hf:=PI (env:=f.env L) hn;have gn:vs.toArray.size=(assignEach elts (f.env L)).length:=by rw[afT,<-rl.length,hl,hf.2]
  refine afS (ahe ?_);rw[<-gn,hf.1];refine unpackItems_tuple ah.1 ⟨_,eo,rfl,_,rfl⟩ λh' eb=>?_;have kk:∀b o,s'.heap.get? b=some o->h'.get? b=some o:=λb o e=>eb b o (λq=>by rw[q,kJ]at e;exact ag e) e;have X':=(X.cj R S).cj (R.keeps kk) (bz.keeps kk);exact Fs hk hn ha hl X' (rl.step (bz.keeps kk) .none) λfG uA ql wZ=>p _ _ aj _ H' fG q uA ((bX.weak (S.trans (bz.keeps kk))).trans ql) (z.trans ⟨wZ.gens,wZ.os⟩) .next) (by unfold swapsWithSole;exact qg hs) (hw L)
end
set_option tactic.hygienic false
section
variable{d:Nat}{f:aV}{m:Lo}{H:AH}
theorem St.le(X:St ρ H L m h)(l:AH.Le H H'):St ρ H' L m h:=⟨X.b5.le l,X.fr,X.free,X.cells⟩
theorem Ex.le(l:AH.Le H H')(h:bR d f m H' ss Q):bR d f m H ss Q:=λA ρ L s Qc E ah X p=>h A ρ L s Qc E ah (X.le l) p
theorem AH.Le.refl(H:AH):AH.Le H H:=⟨λ_ _ e=>e,λ_ e=>e⟩
theorem AH.Le.trans(a:AH.Le X Y)(b:AH.Le Y Z):AH.Le X Z:=⟨λl o e=>a.get l o (b.get l o e),λl e=>a.new l (b.new l e)⟩
theorem AH.Le.PK(h:AH.Le X Y):AH.Le (X.add l o) (Y.add l o):=⟨λk v e=>by
 by_cases q:k=l
 ·subst q;rw[AH.bY]at e ⊢;exact e
 ·rw[AH.bZ _ _ q]at e ⊢;exact h.get k v e,λk e=>⟨h.new k e.1,e.2⟩⟩
theorem AH.Le.PL{X Y:AH}(gl:∀v,Y.get l=some v->some o=some v)(g:∀x,x≠l->∀v,Y.get x=some v->X.get x=some v)(n:∀x,Y.new x->X.new x)(nl:¬Y.new l):AH.Le (X.add l o) Y:=⟨λx v e=>by
 by_cases q:x=l
 ·subst q;rw[AH.bY];exact gl v e
 ·rw[AH.bZ _ _ q];exact g x q v e,λx e=>⟨n x e,λq=>nl (q▸e)⟩⟩
theorem AH.Le.put{X Y:AH}(h:k≠l)(gl:∀v,Y.get l=some v->some o=some v)(gk:∀v,Y.get k=some v->some u=some v)(g:∀x,x≠l->x≠k->∀v,Y.get x=some v->X.get x=some v)(n:∀x,Y.new x->X.new x)(nl:¬Y.new l):AH.Le ((X.add l o).set k u) Y:=⟨λx v e=>by
 by_cases q:x=k
 ·subst q;rw[AH.rP];exact gk v e
 ·rw[AH.rQ _ _ q];by_cases q2:x=l
  ·subst q2;rw[AH.bY];exact gl v e
  ·rw[AH.bZ _ _ q2];exact g x q2 q v e,λx e=>⟨n x e,λq=>nl (q▸e)⟩⟩
theorem fg.le(r:fg A d')(h:d<=d'):fg A d:=⟨r.1,by have:=r.2.1;lia,by have:=r.2.2;lia⟩
theorem Call.gu(h:d<=d')(c:ba d g xs H Q):ba d' g xs H Q:=λA ρ s vs Qc E ah R rv p=>c A ρ s vs Qc E (ah.le h) R rv p
theorem bu.cell(R:bu ρ H h)(hl:H.get l=some (.cell x))(e:ρ l=some a):∃u,h.IsCell a u/\(match x with|.none=>u=.none|.some x=>∃v,u=.some v/\bj h ρ x v):=by refine ao (R.obj _ _ hl) λa' e' hh=>cV hh λob u ho hd r=>?_;rw[e]at e';obtain rfl:=ack e';refine⟨u,⟨ob,ho,hd⟩,?_⟩;induction x<;>exact r
theorem Ev.cell(hc:f.cm.lookup x=some l)(hx:fh f x .cell\/(fh f x .free/\(x==("__classdict__":Str))=false))(hl:H.get l=some (.cell (some v)))(q:Q v H):aW d f m H (.Name x pos) Q:=
 λA ρ L s Qc E _ X p=>by
  refine ao (X.cells x l hc) λc e1 e2=>?_;refine ao (X.b5.cell hl e2) λu jL hh=>ao hh λv' bK r=>?_;subst bK;rcases hx with hx|hx
  ·exact wpAny_Name (wpAny_loadName_cell (f.lA hx.fn) (f.kindOf hx.kind) (by rw[(f.ok L.L L.cl).cells];exact e1) jL (p.here q X.b5 r)) hx.nd
  ·exact wpAny_Name (wpAny_loadName_free (f.lA hx.1.fn) (f.kindOf hx.1.kind) (by rw[(f.ok L.L L.cl).cells];exact e1) jL (p.here q X.b5 r) hx.2) hx.1.nd
theorem PM(X:St ρ H L m s.heap)(r:bj s.heap ρ av v)
  (hc:f.cm.lookup x=some l)(hl:H.get l=some (.cell An))(h:∀s',St ρ (H.set l (.cell (some av))) L m s'.heap->bz ρ s.heap ρ s'.heap->dS s s'->Qc () s')
  (hk:f.cs.kind=.function)(hx:f.kind x=some .cell):wpAny (model cg wX) A (storeName (f.env L) x v) Qc E s:=by
 refine ao (X.cells x l hc) λc e1 e2=>?_;refine ao (X.b5.cell hl e2) λu jL _=>?_;refine wpAny_storeName_cell (f.lA hk) (f.kindOf hx) (by rw[(f.ok L.L L.cl).cells];exact e1) jL λh' PN sb=>?_;refine ao PN λob ho hd=>?_;have S:=bz.same (h:=s.heap) (h':=h') e2 sb ho;have R':=X.b5.uf e2 sb (o:=.cell (some av)) ⟨ob,some v,ho,hd,v,rfl,r.step S .none⟩;exact h {s with heap:=h'} (X.cj R' S) S ⟨rfl,rfl⟩
theorem Ex.w2(hc:f.cm.lookup x=some l)(hx:fh f x .cell)(h:aW d f m H e λv H'=>(∃An,H'.get l=some (.cell An))/\Q .next m (H'.set l (.cell (some v))))
  (hs:kb e=true:=by with_unfolding_all exact rfl):
  dD d f m H (.Assign [.Name x rV] e pos) Q:=
 λA ρ L s Qc E ah X p=>wpAny_Assign_Name (h A ρ L s _ E ah X λy v aj H' s' q R S z r=>by
  obtain⟨⟨An,hl⟩,q⟩:=q;exact PM (X.cj R S) r hc hl (λbH iR bQ de=>p _ _ aj _ _ bH q iR (.weak (S.trans bQ)) (z.trans de) .next) hx.fn hx.kind) (qg hs)
theorem ew.noDict{s:Shared}(h:ew H x T)(R:bu ρ H s.heap)(r:bj s.heap ρ x v):∀a,v=.ref a->∃o,s.heap.get? a=some o/\o.dict=none:=by
 induction h with
 |list e=>
  refine kI (R.list e r) λa vs n bK _ ho _ _=>?_;subst bK;exact λ_ q=>Value.ref.inj q▸⟨_,ho,rfl⟩
 |map e=>
  refine ao (R.obj _ _ e) λa e1 h=>cN h λkvs hd _ _=>?_;refine r.k λ_ e'=>?_;rw[e1]at e';apply sE e';exact λ_ q=>Value.ref.inj q▸ef hd λo es ep e1 ex _=>⟨o,e1,ex.2.1⟩
 |az=>exact r.k λ_ _ _ e _ _ _ q=>Value.ref.inj q▸⟨_,e,rfl⟩
 |aJ=>exact r.k λ_ _ _ e _ _ _ q=>Value.ref.inj q▸⟨_,e,rfl⟩
 |str=>exact r.k λ_ _ q=>nomatch q
theorem Ev.uB{name:Str}{T id:String}(slot:Slot T name id)(pa:PlainAttrs T)(nz:typeOf (.builtin id)=pure (.type "method_descriptor"))
  (h:aW d f m H o λx H'=>ew H' x T/\gj d f m H' args λxs br=>ba d (.builtin id) (x::xs) br Q)
  (hx:lH o iz pos args=true:=by with_unfolding_all exact rfl):aW d f m H (.Call (.Attribute o name iz) args [] pos) Q:=
 fu (zY hx) λho hl hp hn=>
 λA ρ L s Qc E ah X p=>zX ho hl hp hn (h A ρ L s _ E ah X λx v aj H' s' q R S z r=>by
  refine aU q λhT q=>?_;intro pl;refine getMethod_builtin (hT.typeIs R r) pa slot nz (hT.noDict R r) ?_;exact uh (fx:=[x]) (.lC id) hp q ah (X.cj R S) (.cons r .nil) (p.after S z))
theorem Ev.Ao{id:String}(slot:Slot "list" name id)(nz:typeOf (.builtin id)=pure (.type "method_descriptor"))
  (h:aW d f m H o λx H'=>ew H' x "list"/\gj d f m H' args λxs br=>ba d (.builtin id) (x::xs) br Q)
  (hx:lH o iz pos args=true:=by with_unfolding_all exact rfl):aW d f m H (.Call (.Attribute o name iz) args [] pos) Q:=
 Ev.uB slot PySem.F.plainAttrs_list nz h hx
theorem Op.slice{lo hi:Option Int}{value slice:Expr}(I:eF H x xs)(hs:xs.length<=1000000)(pl:IsPart vl lo)(pu:IsPart vu hi)
  (PO:∀vs:List Value,vs.length=xs.length->∃i j,slicePick vs.toArray lo hi none=((vs.drop i).take j).toArray/\ys=(xs.drop i).take j)(PQ:∃a b p,slice=.Slice a b .none p)
  (R:bu ρ H s.heap)(r:bj s.heap ρ x v)(p:gC ρ s Q Qc)(q:Q (.az ys) H):
  wpAny (model cg wX) A (subscriptTail value slice v (.ref s.heap.objs.size)) Qc E {s with heap:=s.heap.push {cls:=.type "slice",data:=.fields #[vl,vu,.none]}}:=by
 refine ef (I.at R r) λa us n bK ho rl=>?_;subst bK;have le:=rl.length;refine cQ (PO us le.symm) λi j e1 bK=>?_;subst bK;have nu:IsL (s.heap.push {cls:=.type "slice",data:=.fields #[vl,vu,.none]}) a us.toArray n:=afQ _ ho;refine kH PQ λea eb ep bK=>?_;subst bK;refine tail_any (T:="list") (s:={s with heap:=s.heap.push {cls:=.type "slice",data:=.fields #[vl,vu,.none]}}) ⟨_,nu,rfl⟩ list_getitem_lookup (wpAny_getItem_list_slice nu.isList (Heap.IsSliceOf.new ..) pl pu .none (by decide) ?_ (by rw[afT,<-le,agW];exact ads ‹_› (by decide))) rfl;rw[e1];have S1:bz ρ s.heap ρ (s.heap.push {cls:=.type "slice",data:=.fields #[vl,vu,.none]}):=bz.push _;have R1:=R.push {cls:=.type "slice",data:=.fields #[vl,vu,.none]};exact(p.after (s':={s with heap:=s.heap.push {cls:=.type "slice",data:=.fields #[vl,vu,.none]}}) S1 ⟨rfl,rfl⟩).zR q R1
  (.az (n:=0) (agd _ rfl) R1.lz ((((rl.drop i).take j).step S1 .none).step (bz.push _) .none))
theorem Ev.Ft{value lo:Expr}
  (h:aW d f m H value λx H₁=>aW d f m H₁ lo λy bS=>∃xs i,eF bS x xs/\y=.int (i:Nat)/\i<=xs.length/\xs.length<=1000000/\Q (.az (xs.drop i)) bS):aW d f m H (.Subscript value (.Slice (some lo) .none .none sp) pos) Q:=
 λA ρ L s Qc E ah X p=>Subscript_ (h A ρ L s _ E ah X λx v bA H₁ s₁ q R S z r=>wpAny_Slice (q A bA L s₁ _ E ah (X.cj R S) λy u dB bS bH dG cW bQ de fj=>by
  refine cps λG k=>?_;obtain⟨xs,i,I,rfl,hi,hs,dG⟩:=dG;refine k ?_;refine fj.k λt=>?_;refine af3 (af3 ?_);exact Op.slice (lo:=some (i:Int)) (hi:=.none) I hs (.int _ _) .none (λvs e=>⟨i,vs.length-i,by rw[slicePick_from _ i (by rw[afT,e];exact hi),agX (by simp)],by rw[e,agX (by simp)]⟩) ⟨_,_,_,rfl⟩ cW (r.step bQ .none) (p.after (S.trans bQ) (z.trans de)) dG))
end
theorem bu.w3(R:bu ρ H h)(hn:H.new l)(ha:h.get? a=some ob)(hs:∀xs n,ob.data≠.seq xs n)(hf:∀x,ρ x≠some a)(hb:hX.get? a=none)
  (ho:hV (some a) ρ h (ρ.add l a) h->hU h (ρ.add l a) o a):bu (ρ.add l a) (H.add l o) h/\hV (some a) ρ h (ρ.add l a) h:=by
 have hl:=R.new l hn;have M:hV (some a) ρ h (ρ.add l a) h:=⟨λx b e=>by
   by_cases q:x=l
   ·subst q;rw[hl]at e;exact ag e
   ·rw[aF.bZ _ _ q];exact e,λb o e f x y=>by
   by_cases q:y=l
   ·subst q;rw[aF.bY];exact x
   ·rw[aF.bZ _ _ q];exact f y,λb o e _ _=>e⟩
 refine⟨⟨R.bs,λx o' e=>?_,λx b e=>?_,λx b e=>?_,λx y b e1 e2=>?_,λx e=>?_,R.base,R.top⟩,M⟩
 ·by_cases q:x=l
  ·subst q;rw[AH.bY]at e;apply sE e;exact⟨a,aF.bY ..,ho M⟩
  ·rw[AH.bZ _ _ q]at e;refine ao (R.obj x o' e) λb e1 r=>?_;exact⟨b,(aF.bZ _ _ q).trans e1,r.dy M (λc z=>by apply sE z;exact⟨ob,ha,hs⟩) λ_ z=>z⟩
 ·by_cases q:x=l
  ·subst q;rw[aF.bY]at e;obtain rfl:=ack e;exact hb
  ·rw[aF.bZ _ _ q]at e;exact R.low x b e
 ·by_cases q:x=l
  ·subst q;rw[aF.bY]at e;apply sE e;exact⟨ob,ha⟩
  ·rw[aF.bZ _ _ q]at e;exact R.live x b e
 ·by_cases q:x=l
  ·by_cases q':y=l
   ·rw[q,q']
   ·subst q;rw[aF.bY]at e1;rw[aF.bZ _ _ q']at e2;obtain rfl:=ack e1;exact absurd e2 (hf y)
  ·by_cases q':y=l
   ·subst q';rw[aF.bY]at e2;rw[aF.bZ _ _ q]at e1;obtain rfl:=ack e2;exact absurd e1 (hf x)
   ·rw[aF.bZ _ _ q]at e1;rw[aF.bZ _ _ q']at e2;exact R.inj x y b e1 e2
 ·rw[aF.bZ _ _ e.2];exact R.new x e.1
theorem Ap:∀{bs:List (Str×Value)} {m:Str->Option Value},(∀p∈bs,k p.1=some .local)->∀{xs:List (Str×U)} {h:Heap} {ρ:aF} {mm:Lo},cf h ρ xs bs->RelM h ρ mm m->RelM h ρ (xs.reverse++mm) (bindL k bs m)
 |[],m,_,_,_,_,_,.nil,M=>M
 |(n,v)::r,m,hk,_,h,ρ,mm,.cons (x:=x) (xs:=xs) a b,M=>by
  unfold bindL;rw[if_pos (hk _ (.head _)),agT,afJ];refine Ap (λp hp=>hk p (.tail _ hp)) b λy av e=>?_;rw[List.singleton_append,ml]at e;by_cases q:y=n
  ·subst q;rw[if_pos rfl]at e;apply sE e;exact⟨v,if_pos rfl,a⟩
  ·rw[if_neg q]at e;refine ao (M y av e) λu e1 e2=>?_;exact⟨u,(if_neg q).trans e1,e2⟩
theorem Aq:∀{bs:List (Str×Value)} {m:Str->Option Value},(∀p∈bs,k p.1=some .local)->bindC k bs m=m
 |[],m,_=>rfl
 |(n,v)::r,m,hk=>by unfold bindC;rw[if_pos (hk _ (.head _))];exact Aq λp hp=>hk p (.tail _ hp)
section
variable{d:Nat}{f:aV}{m:Lo}{H:AH}
noncomputable def qm (s:Scope):Bool:=!s.isCoroutine&&!s.isGenerator&&decide (s.kind=.function)
theorem Ar(h:qm s=true):s.isCoroutine=false/\s.isGenerator=false/\s.kind=.function:=by unfold qm at h;rw[afz,afz,af5,afY,afY]at h;exact⟨h.1.1,h.1.2,h.2⟩
noncomputable def oQ:Flow->Value
 |.ret v=>v
 |_=>.none
theorem PR(S:bz ρ s.heap bA cX)(p:gC ρ s Q Qc)
  (q:∃br,AH.Le H' br/\Q fl.val br)(X':St aj H' (cm:=cm) ⟨s.heap.objs.size,cl⟩ m' s'.heap)(S':bX (some s.heap.objs.size) bA cX aj s'.heap)(z':dS {s with heap:=cX,toks:=tk} s')(r':qe s'.heap aj fl v):
  Qc (oQ v) s':=by
 have SS:bz ρ s.heap aj s'.heap:=((bX.weak S).trans S').fresh (kJ _);obtain⟨br,le,q⟩:=q;induction r' with
 |next=>exact p _ _ aj br s' q (X'.b5.le le) SS ⟨z'.gens,z'.os⟩ .none
 |brk=>exact p _ _ aj br s' q (X'.b5.le le) SS ⟨z'.gens,z'.os⟩ .none
 |cont=>exact p _ _ aj br s' q (X'.b5.le le) SS ⟨z'.gens,z'.os⟩ .none
 |ret r=>exact p _ _ aj br s' q (X'.b5.le le) SS ⟨z'.gens,z'.os⟩ r
theorem w4{h:Heap}(x:h.IsCell c u):∃o,h.get? c=some o/\(∀xs n,o.data≠.seq xs n)/\o.data=.cell u:=by refine ao x λo e q=>?_;exact⟨o,e,λxs n z=>by(replace z:=q▸z;cases z),q⟩
end
noncomputable abbrev S (x:String):Str:=Str.ofString x
noncomputable def fw:Addr:=246
noncomputable def iU:Addr:=686
noncomputable def cY:Addr:=810
noncomputable def ck:Addr:=888
structure Nd where
 kind:Str
 d7:Str
 name:Str
 aX:List U
 text:Str
 bB:Int
 af:List Int
structure B where
 aa:List Nd
 stack:List Int
 bJ:List Int
 mode:Str
 original:Str
 head:Int
 dO:Bool
 dP:Bool
 aK:List (Str×Str)
 aQ:List Str
 pk:Nat
 old:Option (List Str)
def ia(x:Str):U:=.aJ [.str (S "char"),.str x]
def fy(b:B):List (Str×U):=[(S "rules",.ae .eR),(S "tree",.ae .tree),(S "stack",.ae .stack),(S "formatting",.ae .fF),(S "mode",.str b.mode),(S "original",.str b.original),(S "modes",.ae .qc),(S "head",.int b.head),(S "form",.int (-1)),
 (S "owners",.ae .owners),(S "is_frameset_ok",.bool true),(S "is_scripting",.bool false),(S "is_foster",.bool b.dO),(S "context",.int (-1)),(S "quirks",.str (S "no-quirks")),(S "errors",.ae .aK),(S "pending",.ae (.bW b.pk)),(S "wish",.str (S "")),
 (S "is_skipping",.bool false),(S "is_acknowledged",.bool b.dP),(S "is_done",.bool false)]
def eT:List (Str×U):=[(S "kinds",.ae .eg),(S "spaces",.ae .ff),(S "names",.ae .names),(S "attrs",.ae .aX),(S "texts",.ae .eJ),(S "parents",.ae .dU),(S "children",.ae .eQ),(S "contents",.ae .me)]
def nA:List (Str×U):=[(S "tree",.ae .tree),(S "items",.ae .items)]
def qn:List (Str×U):=[(S "tree",.ae .tree),(S "items",.ae .iO)]
noncomputable def cP (ns:List Int):List U:=ns.map U.int
noncomputable def bT (es:List (Str×Str)):List U:=es.map λe=>.aJ [.str e.1,.str e.2]
def kN:List (Str×U):=[(S "in caption",.val (.ref 469)),(S "in column group",.val (.ref 490)),(S "in table body",.val (.ref 518)),(S "in row",.val (.ref 546)),(S "in cell",.val (.ref 567)),(S "in table",.val (.ref 406)),(S "in table text",.val (.ref 420)),(S "in body",.val (.ref 921))]
def hp(b:B)(G:AH)(n:Nat):AH where
 get
  |.bP=>some (.inst ck .cO)
  |.cO=>some (.dict (fy b))
  |.tree=>some (.inst cY .dC)
  |.dC=>some (.dict eT)
  |.eg=>some (.list (b.aa.map λx=>.str x.kind))
  |.ff=>some (.list (b.aa.map λx=>.str x.d7))
  |.names=>some (.list (b.aa.map λx=>.str x.name))
  |.aX=>some (.list (b.aa.map λx=>.az x.aX))
  |.eJ=>some (.list (b.aa.map λx=>.str x.text))
  |.dU=>some (.list (b.aa.map λx=>.int x.bB))
  |.eQ=>some (.list ((List.range b.aa.length).map λi=>.ae (.b9 i)))
  |.b9 i=>(b.aa[i]?).map λx=>.list (cP x.af)
  |.me=>some (.map [])
  |.stack=>some (.inst fw .gP)
  |.gP=>some (.dict nA)
  |.items=>some (.list (cP b.stack))
  |.fF=>some (.inst iU .gQ)
  |.gQ=>some (.dict qn)
  |.iO=>some (.list (cP b.bJ))
  |.qc=>some (.list [])
  |.owners=>some (.map [])
  |.aK=>some (.list (bT b.aK))
  |.eR=>some (.map kN)
  |.bW k=>if k=b.pk then some (.list (b.aQ.map ia))else match b.old with
    |some xs=>if k+1=b.pk then some (.list (xs.map ia))else none
    |none=>none
  |.aO _=>none
  |l=>G.get l
 new
  |.b9 i=>b.aa.length<=i
  |.bW k=>b.pk<k
  |.aO k=>n<=k
  |.cw=>G.new .cw
  |.iu=>G.new .iu
  |.tokens=>G.new .tokens
  |.path k=>G.new (.path k)
  |.run k=>G.new (.run k)
  |.bM k=>G.new (.bM k)
  |_=>False
theorem AH.ext{H H':AH}(g:∀l,H.get l=H'.get l)(n:∀l,H.new l↔H'.new l):H=H':=by obtain⟨a,b⟩:=H;obtain⟨c,d⟩:=H';have:a=c:=funext g;have:b=d:=funext λl=>propext (n l);subst_vars;rfl
theorem AH.eU{H H':AH}(e:H'.get l=some o)(g:∀x,x≠l->H'.get x=H.get x)(n:∀x,H'.new x↔H.new x):H.set l o=H':=by
 refine AH.ext (λx=>?_) (λx=>(n x).symm);by_cases q:x=l
 ·subst q;rw[AH.rP,e]
 ·rw[AH.rQ _ _ q,g x q]
theorem AH.w5{H H':AH}(e:H'.get l=some o)(g:∀x,x≠l->H'.get x=H.get x)(n:∀x,H'.new x↔(H.new x/\x≠l)):H.add l o=H':=by
 refine AH.ext (λx=>?_) (λx=>(n x).symm);by_cases q:x=l
 ·subst q;rw[AH.bY,e]
 ·rw[AH.bZ _ _ q,g x q]
noncomputable def cy (xs:List α)(i:Int):Option α:=if 0<=i/\i<1000000 then xs[i.toNat]? else none
theorem jN{α β:Type}{xs:List α}{x:α}{f:α->β}(h:cy xs i=some x):cy (xs.map f) i=some (f x):=by
 unfold cy at h ⊢;split at h
 ·rename_i q;rw[if_pos q,afX,h];rfl
 ·exact ag h
theorem gT{α:Type}{xs:List α}{x:α}(h:cy xs i=some x):∃k:Nat,i=k/\k<1000000/\xs[k]?=some x:=by
 unfold cy at h;split at h
 ·rename_i q;exact⟨i.toNat,by lia,by lia,h⟩
 ·exact ag h
noncomputable def aC (n:Nat):Bool:=decide (n<=900000)
theorem dg(h:n<=900000):aC n=true:=aga h
theorem eG(h:aC n=true):n<=900000:=af4 h
def nd(b:B)(i:Int):Option Nd:=cy b.aa i
def gb(xs:List Int):Option (Int×List Int):=xs.getLast?.bind λx=>if aC xs.length then some (x,xs.dropLast)else none
theorem As(h:gb xs=some (x,ys)):xs=ys++[x]/\ys.length<1000000:=by
 refine ao (Option.bind_eq_some_iff.mp h) λy h1 h2=>?_;split at h2
 ·rename_i ok;cases h2;refine aI (agy.mp h1) λys bp=>?_;subst bp;have:=eG ok;rw[afC,afW]at this;exact ahm▸⟨rfl,by exact ads ‹_› (by decide)⟩
 ·exact ag h2
theorem iC{α:Type}{x:Option α}{r:α}(e:(if c=true then x else none)=some r):c=true/\x=some r:=by
 induction c
 ·rw[if_neg (by decide)]at e;exact ag e
 ·rw[if_pos rfl]at e;exact⟨rfl,e⟩
section
variable{d:Nat}{f:aV}{m:Lo}{H:AH}
theorem Op.lL(I:eF H x xs)(e:cy xs i=some y)(q:Q y H):bC d getItem x (.int i) H Q:=by obtain⟨k,rfl,hk,e⟩:=gT e;exact Op.item I hk e q
theorem Set.Au(hl:H.get l=some (.list xs))(e:cy xs i=some y)(hs:aC xs.length=true)(q:Q (H.set l (.list (xs.set i.toNat v)))):mn d (.ae l) (.int i) v H Q:=by obtain⟨k,rfl,hk,e⟩:=gT e;obtain⟨hi,_⟩:=afB.mp e;exact Set.list hl hi (by have:=eG hs;exact ads ‹_› (by decide)) q
end
section
variable{b:B}{G:AH}{n:Nat}
theorem Fu:iA (hp b G n) (.ae .bP) ck (fy b):=⟨.bP,.cO,rfl,rfl,rfl⟩
theorem Fv:iA (hp b G n) (.ae .tree) cY eT:=⟨.tree,.dC,rfl,rfl,rfl⟩
theorem Fw:iA (hp b G n) (.ae .stack) fw nA:=⟨.stack,.gP,rfl,rfl,rfl⟩
theorem PS:iA (hp b G n) (.ae .fF) iU qn:=⟨.fF,.gQ,rfl,rfl,rfl⟩
theorem PT:(hp b G n).set .cO (.dict (f9 (fy b) (S "mode") (.str x)))=hp {b with mode:=x} G n:=
 AH.eU rfl (λl h=>by induction l<;>first|rfl|exact(h rfl).elim) λl=>by induction l<;>exact agm
theorem PU:(hp b G n).set .cO (.dict (f9 (fy b) (S "original") (.str x)))=hp {b with original:=x} G n:=
 AH.eU rfl (λl h=>by induction l<;>first|rfl|exact(h rfl).elim) λl=>by induction l<;>exact agm
theorem PW:(hp b G n).set .cO (.dict (f9 (fy b) (S "is_foster") (.bool x)))=hp {b with dO:=x} G n:=
 AH.eU rfl (λl h=>by induction l<;>first|rfl|exact(h rfl).elim) λl=>by induction l<;>exact agm
theorem PY:(hp b G n).set .cO (.dict (f9 (fy b) (S "is_acknowledged") (.bool x)))=hp {b with dP:=x} G n:=
 AH.eU rfl (λl h=>by induction l<;>first|rfl|exact(h rfl).elim) λl=>by induction l<;>exact agm
theorem PZ:(hp b G n).set .cO (.dict (f9 (fy b) (S "head") (.int x)))=hp {b with head:=x} G n:=
 AH.eU rfl (λl h=>by induction l<;>first|rfl|exact(h rfl).elim) λl=>by induction l<;>exact agm
theorem Qa:(hp b G n).set .items (.list (cP xs))=hp {b with stack:=xs} G n:=
 AH.eU rfl (λl h=>by induction l<;>first|rfl|exact(h rfl).elim) λl=>by induction l<;>exact agm
theorem Qb:(hp b G n).set .iO (.list (cP xs))=hp {b with bJ:=xs} G n:=
 AH.eU rfl (λl h=>by induction l<;>first|rfl|exact(h rfl).elim) λl=>by induction l<;>exact agm
theorem Qd:(hp b G n).set .aK (.list (bT xs))=hp {b with aK:=xs} G n:=
 AH.eU rfl (λl h=>by induction l<;>first|rfl|exact(h rfl).elim) λl=>by induction l<;>exact agm
theorem Qe:(hp b G n).set (.bW b.pk) (.list (xs.map ia))=hp {b with aQ:=xs} G n:=
 AH.eU (by show(if b.pk=b.pk then _ else _)=_;rw[if_pos rfl]) (λl h=>by
  induction l with
  |bW k=>
   have:k≠b.pk:=λe=>h (e▸rfl);show(if k=b.pk then _ else _)=if k=b.pk then _ else _;rw[if_neg this,if_neg this]
  |_=>first|rfl|exact absurd rfl h) λl=>by induction l<;>exact agm
noncomputable def B.cq (b:B)(i:Nat)(x:Nd):B:={b with aa:=b.aa.set i x}
theorem r9{α β:Type}{f:α->β}{xs:List α}{x y:α}(e:xs[i]?=some y)(h:f x=f y):(xs.set i x).map f=xs.map f:=by
 apply List.ext_getElem?;intro j;rw[afX,afX,agz];by_cases q:i=j
 ·subst q;rw[if_pos rfl,e];refine aI (afB.mp e) λhi _=>?_;rw[if_pos hi];simp[h]
 ·rw[if_neg q]
theorem Av{x y:Nd}{l:Loc}(e:b.aa[i]?=some y)(hl:(hp (b.cq i x) G n).get l=some o)
  (hk:l≠.eg->x.kind=y.kind)(hs:l≠.ff->x.d7=y.d7)(hn:l≠.names->x.name=y.name)(ha:l≠.aX->x.aX=y.aX)(ht:l≠.eJ->x.text=y.text)(w6:l≠.dU->x.bB=y.bB)(hc:l≠.b9 i->x.af=y.af):
  (hp b G n).set l o=hp (b.cq i x) G n:=by
 have len:(b.aa.set i x).length=b.aa.length:=agn;refine AH.eU hl (λk h=>?_) λk=>?_
 ·induction k with
  |eg=>show some (cx.list ((b.aa.set i x).map _))=some (.list (b.aa.map _));rw[r9 e (by show U.str _=.str _;rw[hk h.symm])]
  |ff=>show some (cx.list ((b.aa.set i x).map _))=some (.list (b.aa.map _));rw[r9 e (by show U.str _=.str _;rw[hs h.symm])]
  |names=>show some (cx.list ((b.aa.set i x).map _))=some (.list (b.aa.map _));rw[r9 e (by show U.str _=.str _;rw[hn h.symm])]
  |aX=>show some (cx.list ((b.aa.set i x).map _))=some (.list (b.aa.map _));rw[r9 e (by show U.az _=.az _;rw[ha h.symm])]
  |eJ=>show some (cx.list ((b.aa.set i x).map _))=some (.list (b.aa.map _));rw[r9 e (by show U.str _=.str _;rw[ht h.symm])]
  |dU=>show some (cx.list ((b.aa.set i x).map _))=some (.list (b.aa.map _));rw[r9 e (by show U.int _=.int _;rw[w6 h.symm])]
  |eQ=>show some (cx.list ((List.range (b.aa.set i x).length).map _))=some (.list ((List.range b.aa.length).map _));rw[len]
  |b9 j=>
   show((b.aa.set i x)[j]?).map _=(b.aa[j]?).map _;rw[agz];by_cases q:i=j
   ·subst q;obtain⟨hi,_⟩:=afB.mp e;rw[if_pos rfl,if_pos hi,e];show some (cx.list (cP x.af))=some (.list (cP y.af));rw[hc h.symm]
   ·rw[if_neg q]
  |_=>rfl
 ·induction k with
  |b9 j=>show(b.aa.set i x).length<=j↔b.aa.length<=j;rw[len]
  |_=>exact agm
end
section
variable{d:Nat}{f:aV}{m:Lo}{b:B}{G:AH}{n:Nat}
theorem jO(e:H.get l=some (.list xs)):∃T,ew H (.ae l) T/\gR T:=⟨_,.list e,E9⟩
theorem Aw:∃T,ew H (.aJ xs) T/\gR T:=⟨_,.aJ _,Pk⟩
theorem qo:∃T,ew H (.az xs) T/\gR T:=⟨_,.az _,E9⟩
theorem R.eg(h:nd b i=some x)(q:Q (.str x.kind) (hp b G n)):bC d getItem (.ae .eg) (.int i) (hp b G n) Q:=Op.lL (.list rfl) (jN h) q
theorem R.ff(h:nd b i=some x)(q:Q (.str x.d7) (hp b G n)):bC d getItem (.ae .ff) (.int i) (hp b G n) Q:=Op.lL (.list rfl) (jN h) q
theorem R.names(h:nd b i=some x)(q:Q (.str x.name) (hp b G n)):bC d getItem (.ae .names) (.int i) (hp b G n) Q:=Op.lL (.list rfl) (jN h) q
theorem R.eJ(h:nd b i=some x)(q:Q (.str x.text) (hp b G n)):bC d getItem (.ae .eJ) (.int i) (hp b G n) Q:=Op.lL (.list rfl) (jN h) q
theorem R.dU(h:nd b i=some x)(q:Q (.int x.bB) (hp b G n)):bC d getItem (.ae .dU) (.int i) (hp b G n) Q:=Op.lL (.list rfl) (jN h) q
theorem Qf(h:nd b i=some x):(hp b G n).get (.b9 i.toNat)=some (.list (cP x.af)):=by refine cN (gT h) λk bp _ e=>?_;subst bp;show(b.aa[k]?).map _=_;rw[e];rfl
theorem R.eQ(h:nd b i=some x)(q:Q (.ae (.b9 i.toNat)) (hp b G n)):bC d getItem (.ae .eQ) (.int i) (hp b G n) Q:=by refine cN (gT h) λk bp hk e=>?_;subst bp;refine aI (afB.mp e) λaY _=>?_;exact Op.item (.list rfl) hk (by rw[afX,List.getElem?_range aY];rfl) q
theorem oR:(cP xs).length=xs.length:=afA ..
theorem L.len(e:H.get l=some (.list (cP xs)))(hs:aC xs.length=true)(q:Q (.int xs.length) H):ba d (.builtin "len") [.ae l] H Q:=
 Call.len (.list e) (by rw[oR];have:=eG hs;exact ads ‹_› (by decide)) (by exact oR▸q)
theorem Ax:cP (xs++ys)=cP xs++cP ys:=afR ..
theorem L.Qg(hs:aC b.aQ.length=true)(q:Q .none (hp {b with aQ:=b.aQ++[x]} G n)):ba d (.builtin "list.append") [.ae (.bW b.pk),ia x] (hp b G n) Q:=by
 refine Call.append (xs:=b.aQ.map ia) (by show(if b.pk=b.pk then _ else _)=_;rw[if_pos rfl]) (by rw[afA];have:=eG hs;exact ads ‹_› (by decide)) ?_;have:b.aQ.map ia++[ia x]=(b.aQ++[x]).map ia:=by rw[afR];rfl
 rw[this,Qe];exact q
theorem L.Qh(h:nd b i=some x)(hs:aC b.aa.length=true)(q:Q (hp (b.cq i.toNat {x with bB:=k}) G n)):mn d (.ae .dU) (.int i) (.int k) (hp b G n) Q:=by
 refine cN (gT h) λj e1 _ e=>?_;refine Set.Au (xs:=b.aa.map λx=>.int x.bB) rfl (jN h) (by rw[afA];exact hs) ?_;subst e1;rw[afM]at q ⊢;rw[Av (x:={x with bB:=k}) e]
 ·exact q
 ·show some (cx.list ((b.aa.set j _).map _))=_;rw[List.map_set]
 all_goals intro h;first|rfl|exact(h rfl).elim
theorem L.Qi(h:nd b i=some x)(hs:aC b.aa.length=true)(q:Q (hp (b.cq i.toNat {x with text:=k}) G n)):mn d (.ae .eJ) (.int i) (.str k) (hp b G n) Q:=by
 refine cN (gT h) λj e1 _ e=>?_;refine Set.Au (xs:=b.aa.map λx=>.str x.text) rfl (jN h) (by rw[afA];exact hs) ?_;subst e1;rw[afM]at q ⊢;rw[Av (x:={x with text:=k}) e]
 ·exact q
 ·show some (cx.list ((b.aa.set j _).map _))=_;rw[List.map_set]
 all_goals intro h;first|rfl|exact(h rfl).elim
section
variable{Q:U->AH->Prop}
theorem F.mode(SA:gS ck (S "mode"))(q:Q .none (hp {b with mode:=x} G n)):bC d (λov v=>do setAttr ov (S "mode") v;pure .none) (.ae .bP) (.str x) (hp b G n) Q:=
 Op.setAttr SA (es:=fy b) rfl rfl (by show 21<=1000;decide) (by rw[PT];exact q)
theorem F.original(SA:gS ck (S "original"))(q:Q .none (hp {b with original:=x} G n)):bC d (λov v=>do setAttr ov (S "original") v;pure .none) (.ae .bP) (.str x) (hp b G n) Q:=
 Op.setAttr SA (es:=fy b) rfl rfl (by show 21<=1000;exact ago _ _) (by rw[PU];exact q)
theorem F.Qj(SA:gS ck (S "is_foster"))(q:Q .none (hp {b with dO:=x} G n)):bC d (λov v=>do setAttr ov (S "is_foster") v;pure .none) (.ae .bP) (.bool x) (hp b G n) Q:=
 Op.setAttr SA (es:=fy b) rfl rfl (by show 21<=1000;exact ago _ _) (by rw[PW];exact q)
theorem F.Qk(SA:gS ck (S "is_acknowledged"))(q:Q .none (hp {b with dP:=x} G n)):bC d (λov v=>do setAttr ov (S "is_acknowledged") v;pure .none) (.ae .bP) (.bool x) (hp b G n) Q:=
 Op.setAttr SA (es:=fy b) rfl rfl (by show 21<=1000;exact ago _ _) (by rw[PY];exact q)
theorem F.head(SA:gS ck (S "head"))(q:Q .none (hp {b with head:=x} G n)):bC d (λov v=>do setAttr ov (S "head") v;pure .none) (.ae .bP) (.int x) (hp b G n) Q:=
 Op.setAttr SA (es:=fy b) rfl rfl (by show 21<=1000;lia) (by rw[PZ];exact q)
end
theorem sa:AH.Le ((hp b G n).add (.aO n) o) (hp b G (n+1)):=.PL (λ_ e=>ag e) (λ_ _ _ e=>e) (λx e=>by induction x<;>first|exact e|exact af8 e) λe=>Nat.not_succ_le_self n e
end
structure aS where
 kind:Str
 name:Str
 rest:List U
noncomputable abbrev b7 (t:aS):U:=.aJ (.str t.kind::.str t.name::t.rest)
noncomputable def aw [BEq α](l:List α)(x:α):Bool:=l.any (·==x)
def el(b:B)(k:Int):Option Nd:=(nd b k).bind λx=>if x.kind=S "element"/\x.d7=S "html"then some x else none
def gD:List Str:=[S "table",S "tbody",S "tfoot",S "thead",S "tr"]
def jP:List Str:=[S "dd",S "dt",S "li",S "optgroup",S "option",S "p",S "rb",S "rp",S "rt",S "rtc"]
def jQ:List Str:=[S "caption",S "col",S "colgroup",S "tbody",S "td",S "tfoot",S "th",S "thead",S "tr"]
def qp(b:B)(k:Int):Option B:=if aC b.stack.length then some {b with stack:=b.stack++[k]}else none
def gE(b:B):Option (Int×B):=(gb b.stack).bind λr=>some (r.1,{b with stack:=r.2})
def jR(b:B):Option Int:=if aC b.stack.length then b.stack.getLast? else none
def iD(b:B):Option Str:=(jR b).bind λk=>(el b k).bind λx=>some x.name
def ji(names:List Str):Nat->B->Option (Int×B)
 |0,_=>none
 |n+1,b=>(iD b).bind λs=>(gE b).bind λr=>if aw names s then some r else ji names n r.2
def jj(names:List Str):Nat->B->Option B
 |0,_=>none
 |n+1,b=>if decide (1<(b.stack.length:Int)) then(iD b).bind λs=>if !aw names s then(gE b).bind λr=>jj names n r.2 else some b else none
def uC:Nat->B->Option B
 |0,_=>none
 |n+1,b=>(iD b).bind λs=>if aw jP s then(if s !=S "" then(gE b).bind λr=>uC n r.2 else none)else some b
def nB(b:B)(names:List Str):List Int->Option Bool
 |[]=>some false
 |k::r=>(el b k).bind λx=>if aw names x.name then some true else if aw [S "html",S "table",S "template"] x.name then some false else nB b names r
def oS(b:B)(names:List Str):Option Bool:=if aC b.stack.length then nB b names b.stack.reverse else none
def kO(b:B)(x:Nd):Option B:=if aC b.aa.length then some {b with aa:=b.aa++[x]}else none
def gU(name:Str)(aX:List U):Nd:=⟨S "element",S "html",name,aX,S "",-1,[]⟩
def kP(t:Str):Nd:=⟨S "text",S "",S "",[],t,-1,[]⟩
def ke(b:B)(name:Str)(aX:List U):Option (Int×B):=if name=S "template"\/aC aX.length=false then none else(kO b (gU name aX)).bind λb'=>some ((b.aa.length:Int),b')
def w7(b:B)(t:Str):Option (Int×B):=(kO b (kP t)).bind λb'=>some ((b.aa.length:Int),b')
def oT(b:B):Nat->Int->Option (List Int)
 |0,_=>none
 |n+1,up=>if up !=-1 then(nd b up).bind λx=>(oT b n x.bB).bind λr=>some (up::r)else some []
def kQ(b:B)(bB:Int)(p:Nd)(node:Int)(at_:Int):Option B:=
 if aC p.af.length=true/\aC b.aa.length=true/\0<=at_/\at_<=p.af.length then
  (let b1:=b.cq bB.toNat {p with af:=p.af.take at_.toNat++node::p.af.drop at_.toNat}
  (nd b1 node).bind λx=>some (b1.cq node.toNat {x with bB:=bB}))else none
def iV(b:B)(bB node before:Int):Option B:=
 if aC b.aa.length=false\/(node==bB)=true then none else
 (nd b bB).bind λp=>(oT b (b.aa.length+1) p.bB).bind λup=>if aw (α:=Int) up node then none else
 (nd b node).bind λx=>if x.bB !=-1 then none else
 if before !=-1 then(if p.af.any (·==before) then(if before==node then none else kQ b bB p node (p.af.idxOf before:Nat))else none)
 else kQ b bB p node p.af.length
def oU(b:B)(bB:Int):Option Int:=(nd b bB).bind λx=>if aC x.af.length then(if x.af.isEmpty then some (-1)else x.af.getLast?)else none
def uD(b:B)(node:Int):Option Int:=(nd b node).bind λx=>if x.bB==-1 then none else(nd b x.bB).bind λp=>if p.af.any (·==node)=true/\aC p.af.length=true then some (p.af.idxOf node:Nat)else none
def uE(b:B):List Int->Option (Int×Int)
 |[]=>none
 |[_]=>none
 |k::k2::r=>(el b k).bind λx=>if x.name==S "table" then(if x.bB !=-1 then some (x.bB,k)else none)else if x.name==S "template" then none else uE b (k2::r)
def oV(b:B):Option (Int×Int):=if aC b.stack.length then uE b b.stack.reverse else none
def kf(b:B):Option (Int×Int):=(jR b).bind λk=>(el b k).bind λx=>if b.dO then(if aw gD x.name then oV b else some (k,-1))else some (k,-1)
def uF(b:B)(p:Nd)(before l:Int):Option Int:=if before !=-1 then(uD b before).bind λat_=>if decide (0<at_) then cy p.af (at_-1)else some (-1)else some l
def qr(b:B)(bB:Int)(sign:Str)(before:Int):Option B:=(w7 b sign).bind λr=>iV r.2 bB r.1 before
def jk(b:B)(sign:Str):Option B:=
 (kf b).bind λpl=>(nd b pl.1).bind λp=>if p.kind==S "document" then none else(oU b pl.1).bind λl=>(uF b p pl.2 l).bind λa=>
 if a !=-1 then(nd b a).bind λx=>if x.kind==S "text" then(if aC b.aa.length=true/\x.text.length+sign.length<=1000000 then some (b.cq a.toNat {x with text:=x.text++sign})else none)else qr b pl.1 sign pl.2 else qr b pl.1 sign pl.2
def jS(b:B)(name:Str)(aX:List U):Option (Int×B):=(kf b).bind λpl=>(ke b name aX).bind λr=>(iV r.2 pl.1 r.1 pl.2).bind λb2=>(qp b2 r.1).bind λb3=>some (r.1,b3)
noncomputable def jT (t:aS):Option (List U):=match t.rest with
 |.aJ as::_=>some as
 |_=>none
def kR(b:B)(t:aS):Option (Int×B):=(jT t).bind λas=>jS b t.name as
def w8(b:B)(t:aS):Option (Int×B):=(kR b t).bind λr=>(gE r.2).bind λr2=>some (r.1,{r2.2 with dP:=true})
def fz(b:B)(x:Str):Option B:=if aC b.aK.length then some {b with aK:=b.aK++[(x,b.mode)]}else none
noncomputable def B.to (b:B)(x:Str):B:={b with mode:=x}
def uG(b:B):Option B:=if aC b.bJ.length then some {b with bJ:=b.bJ++[-1]}else none
def sd(b:B):Option B:=(gb b.bJ).bind λr=>if r.1==-1 then some {b with bJ:=r.2}else none
def w9:List (Str×Str):=[(S "td",S "in cell"),(S "th",S "in cell"),(S "tr",S "in row"),(S "tbody",S "in table body"),(S "thead",S "in table body"),(S "tfoot",S "in table body"),(S "caption",S "in caption"),(S "colgroup",S "in column group"),(S "table",S "in table"),(S "head",S "in head"),(S "body",S "in body"),(S "frameset",S "in frameset")]
def kg(x:Str):Str:=(w9.lookup x).getD (S "")
def xa(b:B):List Int->Option Str
 |[]=>none
 |[_]=>none
 |k::k2::r=>(el b k).bind λx=>if x.name==S "select" then none else if x.name==S "template" then none else if x.name==S "html" then none else
  if kg x.name==S "" then xa b (k2::r)else some (kg x.name)
def se(b:B):Option B:=if aC b.stack.length then(xa b b.stack.reverse).bind λmd=>some (b.to md)else none
abbrev cu:=B->aS->Option B
def lM(b:B)(t:aS):Option B:=
 if t.kind==S "char" then jk b t.name
 else if(t.kind==S "start"&&aw [S "a",S "p",S "table"] t.name) then(kR b t).bind λr=>if t.name==S "table" then some (r.2.to (S "in table"))else some r.2
 else if t.kind==S "end" then(iD b).bind λs=>if s==t.name then(gE b).bind λr=>some r.2 else some b
 else some b
def nC(b:B)(t:aS):Option B:=(fz b (S "foster-parented")).bind λb1=>(lM {b1 with dO:=true} t).bind λb2=>some {b2 with dO:=false}
def Fx(b:B):Option B:=jj [S "table",S "template",S "html"] b.stack.length b
def xb(b:B):Option B:=jj [S "tbody",S "tfoot",S "thead",S "template",S "html"] b.stack.length b
def Ay(b:B):Option B:=jj [S "tr",S "template",S "html"] b.stack.length b
def xc(b:B):Option (Bool×B):=(oS b [S "table"]).bind λc=>if !c then some (false,b)else(ji [S "table"] b.stack.length b).bind λr=>(se r.2).bind λb2=>some (true,b2)
def Fy(p:cu)(b:B)(t:aS):Option B:=(Fx b).bind λb1=>
 if t.name==S "caption" then(uG b1).bind λb2=>(kR b2 t).bind λr=>some (r.2.to (S "in caption"))
 else if t.name==S "colgroup" then(kR b1 t).bind λr=>some (r.2.to (S "in column group"))
 else if t.name==S "col" then(jS b1 (S "colgroup") []).bind λr=>p (r.2.to (S "in column group")) t
 else if aw [S "tbody",S "tfoot",S "thead"] t.name then(kR b1 t).bind λr=>some (r.2.to (S "in table body"))
 else(jS b1 (S "tbody") []).bind λr=>p (r.2.to (S "in table body")) t
def Fz(p:cu)(b:B)(t:aS):Option B:=(fz b (S "unexpected-start-tag")).bind λb1=>(xc b1).bind λr=>if r.1 then p r.2 t else some r.2
def FA(p:cu)(b:B)(t:aS):Option B:=
 if aw [S "caption",S "colgroup",S "col",S "tbody",S "tfoot",S "thead",S "td",S "th",S "tr"] t.name then Fy p b t
 else if t.name==S "table" then Fz p b t
 else if aw [S "style",S "script",S "template"] t.name then none
 else if t.name==S "input" then none
 else if t.name==S "form" then none
 else nC b t
def FD(b:B)(t:aS):Option B:=
 if t.name==S "table" then(xc b).bind λr=>if !r.1 then fz r.2 (S "unexpected-end-tag")else some r.2
 else if t.name==S "template" then none
 else if aw [S "body",S "caption",S "col",S "colgroup",S "html",S "tbody",S "td",S "tfoot",S "th",S "thead",S "tr"] t.name then fz b (S "unexpected-end-tag")
 else nC b t
def FE(p:cu)(b:B)(t:aS):Option B:=(iD b).bind λs=>
 if aw [S "table",S "tbody",S "template",S "tfoot",S "thead",S "tr"] s then p {b with aQ:=[],pk:=b.pk+1,old:=none,original:=b.mode,mode:=S "in table text"} t
 else nC b t
def nE(p:cu)(b:B)(t:aS):Option B:=
 if t.kind==S "char" then FE p b t
 else if t.kind==S "start" then FA p b t
 else if t.kind==S "end" then FD b t
 else if t.kind==S "comment" then none
 else if t.kind==S "doctype" then fz b (S "unexpected-doctype")
 else lM b t
def fA(x:Str):Bool:=aw [S "\t",S "\n",S "\x0c",S "\r",S " "] x
def iG(x:Str):aS:=⟨S "char",x,[]⟩
def xd:List Str->B->Option B
 |[],b=>some b
 |x::r,b=>(jk b x).bind λb1=>xd r b1
def xe:List Str->B->Option B
 |[],b=>some b
 |x::r,b=>(nC b (iG x)).bind λb1=>xe r b1
def uH(b:B):Option B:=if aC b.aQ.length then(let b1:B:={b with aQ:=[],pk:=b.pk+1,old:=some b.aQ}
 if b.aQ.all fA then xd b.aQ b1 else xe b.aQ b1)else none
def qt(p:cu)(b:B)(t:aS):Option B:=
 if t.kind !=S "char" then(uH b).bind λb1=>p (b1.to b1.original) t
 else if t.name==S "\x00" then fz b (S "unexpected-null-character")
 else if aC b.aQ.length=true/\t.rest=[]then some {b with aQ:=b.aQ++[t.name]}else none
def sf(t:aS):Str:=if t.kind==S "start" then S "unexpected-start-tag"else if t.kind==S "end" then S "unexpected-end-tag"else S "unexpected-text"
def jU(b:B)(t:aS)(names:List Str):Option (Bool×B):=(oS b names).bind λc=>if c then some (true,b)else(fz b (sf t)).bind λb1=>some (false,b1)
def lN(b:B)(names:List Str)(mode:Str):Option B:=(uC b.stack.length b).bind λb1=>(iD b1).bind λs=>(if !aw names s then fz b1 (S "open-elements")else some b1).bind λb2=>
 (ji names b2.stack.length b2).bind λr=>(sd r.2).bind λb3=>some (b3.to mode)
def xf(b:B)(t:aS):Option (Bool×B):=(jU b t [S "caption"]).bind λr=>if !r.1 then some (false,r.2)else(lN r.2 [S "caption"] (S "in table")).bind λb1=>some (true,b1)
def Az(p:cu)(b:B)(t:aS):Option B:=
 if t.kind==S "end"&&t.name==S "caption" then(xf b t).bind λr=>some r.2
 else if t.kind==S "start"&&aw jQ t.name||(t.kind==S "end"&&t.name==S "table") then(xf b t).bind λr=>if r.1 then p r.2 t else some r.2
 else if(t.kind==S "end"&&(aw [S "body",S "html"] t.name||aw jQ t.name)) then fz b (S "unexpected-end-tag")
 else lM b t
def AA(p:cu)(b:B)(t:aS)(again:Bool):Option B:=(iD b).bind λs=>if s !=S "colgroup" then fz b (sf t)
 else(gE b).bind λr=>if again then p (r.2.to (S "in table")) t else some (r.2.to (S "in table"))
def FF(p:cu)(b:B)(t:aS):Option B:=
 if t.name==S "template" then none
 else if t.kind==S "start"&&t.name==S "html" then lM b t
 else if t.kind==S "start"&&t.name==S "col" then(w8 b t).bind λr=>some r.2
 else if !(t.kind==S "start")&&t.name==S "col" then fz b (S "unexpected-end-tag")
 else AA p b t (t.kind==S "start"||t.name !=S "colgroup")
def AB(p:cu)(b:B)(t:aS):Option B:=
 if t.kind==S "start"||t.kind==S "end" then FF p b t
 else if t.kind==S "comment" then none
 else if t.kind==S "doctype" then fz b (S "unexpected-doctype")
 else if t.kind==S "eof" then lM b t
 else if t.kind==S "char"&&fA t.name then jk b t.name
 else AA p b t true
def oW(b:B)(t:aS)(names:List Str):Option (Bool×B):=(jU b t names).bind λr=>if !r.1 then some (false,r.2)else(xb r.2).bind λb1=>(gE b1).bind λr2=>some (true,r2.2.to (S "in table"))
def FH(p:cu)(b:B)(t:aS):Option B:=
 if t.name==S "tr" then(xb b).bind λb1=>(kR b1 t).bind λr=>some (r.2.to (S "in row"))
 else if aw [S "td",S "th"] t.name then(fz b (S "unexpected-start-tag")).bind λb1=>(xb b1).bind λb2=>(jS b2 (S "tr") []).bind λr=>p (r.2.to (S "in row")) t
 else if aw jQ t.name then(oW b t [S "tbody",S "tfoot",S "thead"]).bind λr=>if r.1 then p r.2 t else some r.2
 else nE p b t
def FI(p:cu)(b:B)(t:aS):Option B:=
 if aw [S "tbody",S "tfoot",S "thead"] t.name then(oW b t [t.name]).bind λr=>some r.2
 else if t.name==S "table" then(oW b t [S "tbody",S "tfoot",S "thead"]).bind λr=>if r.1 then p r.2 t else some r.2
 else if aw [S "body",S "caption",S "col",S "colgroup",S "html",S "td",S "th",S "tr"] t.name then fz b (S "unexpected-end-tag")
 else nE p b t
def AD(p:cu)(b:B)(t:aS):Option B:=if t.kind==S "start" then FH p b t else if t.kind==S "end" then FI p b t else nE p b t
def si(b:B)(t:aS):Option (Bool×B):=(jU b t [S "tr"]).bind λr=>if !r.1 then some (false,r.2)else(Ay r.2).bind λb1=>(gE b1).bind λr2=>some (true,r2.2.to (S "in table body"))
def FJ(p:cu)(b:B)(t:aS):Option B:=
 if aw [S "td",S "th"] t.name then(Ay b).bind λb1=>(kR b1 t).bind λr=>uG (r.2.to (S "in cell"))
 else if aw jQ t.name then(si b t).bind λr=>if r.1 then p r.2 t else some r.2
 else nE p b t
def FK(p:cu)(b:B)(t:aS):Option B:=
 if t.name==S "tr" then(si b t).bind λr=>some r.2
 else if t.name==S "table" then(si b t).bind λr=>if r.1 then p r.2 t else some r.2
 else if aw [S "tbody",S "tfoot",S "thead"] t.name then(jU b t [t.name]).bind λr=>if r.1 then(oS r.2 [S "tr"]).bind λc=>if c then(si r.2 t).bind λr2=>p r2.2 t else some r.2 else some r.2
 else if aw [S "body",S "caption",S "col",S "colgroup",S "html",S "td",S "th"] t.name then fz b (S "unexpected-end-tag")
 else nE p b t
def AE(p:cu)(b:B)(t:aS):Option B:=if t.kind==S "start" then FJ p b t else if t.kind==S "end" then FK p b t else nE p b t
def AF(b:B):Option B:=lN b [S "td",S "th"] (S "in row")
def FL(p:cu)(b:B)(t:aS):Option B:=
 if aw [S "td",S "th"] t.name then(jU b t [t.name]).bind λr=>if r.1 then lN r.2 [t.name] (S "in row")else some r.2
 else if aw [S "body",S "caption",S "col",S "colgroup",S "html"] t.name then fz b (S "unexpected-end-tag")
 else if aw [S "table",S "tbody",S "tfoot",S "thead",S "tr"] t.name then(jU b t [t.name]).bind λr=>if r.1 then(AF r.2).bind λb1=>p b1 t else some r.2
 else lM b t
def AG(p:cu)(b:B)(t:aS):Option B:=
 if t.kind==S "end" then FL p b t
 else if t.kind==S "start"&&aw jQ t.name then(jU b t [S "td",S "th"]).bind λr=>if r.1 then(AF r.2).bind λb1=>p b1 t else some r.2
 else lM b t
def qu(p:cu)(mode:Str)(b:B)(t:aS):Option B:=
 if mode==S "in caption" then Az p b t
 else if mode==S "in column group" then AB p b t
 else if mode==S "in table body" then AD p b t
 else if mode==S "in row" then AE p b t
 else if mode==S "in cell" then AG p b t
 else if mode==S "in table" then nE p b t
 else if mode==S "in table text" then qt p b t
 else if mode==S "in body" then lM b t
 else none
def oX(b:B):Option Unit:=(jR b).bind λk=>(el b k).bind λ_=>some ()
def jl:Nat->B->aS->Option B
 |0,_,_=>none
 |n+1,b,t=>(oX b).bind λ_=>qu (jl n) b.mode b t
noncomputable def qv (t:aS):Option Bool:=match t.rest with
 |_::.bool f::_=>some f
 |_=>none
def qw(b:B)(t:aS):Option B:=(jl 8 {b with dP:=false} t).bind λb1=>
 if t.kind==S "start" then(qv t).bind λf=>if f then(if !b1.dP then fz b1 (S "non-void-html-element-start-tag-with-trailing-solidus")else some b1)else some b1 else some b1
def b0:B:={aa:=[⟨S "document",S "",S "",[],S "",-1,[1]⟩,{gU (S "html") []with bB:=0,af:=[2,3]},{gU (S "head") []with bB:=1},{gU (S "body") []with bB:=1}],stack:=[1,3],bJ:=[],mode:=S "in body",original:=S "",head:=2,dO:=false,dP:=false,aK:=[],aQ:=[],pk:=0,old:=none}
set_option tactic.hygienic true
noncomputable def H0:AH:=⟨λ_=>none,λ_=>True⟩
theorem Ql{s:Shared}{vs:List Value}{names:List Str}
  {Q:U->AH->Prop}{Qc:Value->Shared->Prop}{E:Value->Shared->Prop}(bs:Bs)(fK:Lo)(x:Str)(l:Loc)
  (ho:hX.get? fa=some ⟨oc,od,.func (docDef name params body scope pm d6 doc),z6⟩)(Qm:hX.CodeRec d6 name)(mY:hX.NoLimit)
  (hbind:bindArgs (docDef name params body scope pm d6 doc) ⟨vs,[]⟩=pure (names.zip vs))
  (hloc:∀x∈names,eK scope.names x .local)(fN:∀L,cellsFrom (L+1) scope.names []=[(x,L+1)])(iB:fK=(names.zip args).reverse)
  (h:bR d (.fn name scope fa d6 [(x,l)]) fK (H0.add l (.cell none)) body (λfl _ H'=>Q fl.val H'))
  (ah:fg A (d+1))(rv:bk hX (λ_=>none) args vs)
  (p:∀y v aj H' s',Q y H'->bu aj H' s'.heap->dS {s with heap:=hX} s'->bj s'.heap aj y v->Qc v s')
  (hs:qm scope=true):wpAny (model cg wX) A (call (.ref fa) vs) Qc E {s with heap:=hX}:=by
 refine dR (Ar hs) λni nj hk=>?_;subst iB;refine wpAny_call ?_;refine aU (uk ah (envOfC name scope hX.objs.size fa d6)) λnk lI=>?_;have qx:∀p∈names.zip vs,scope.names.lookup p.1=some .local:=λy hy=>(hloc y.1 (List.of_mem_zip hy).1).eq;refine call_cells nk ho rfl mY Qm hbind (λy hy=>.inl (qx y hy)) (λcX tk F X=>?_) ni nj hk;rw[fN]at X;refine cN (w4 (X.cell x (hX.objs.size+1) (by simp))) λob ec uI uJ=>?_;rw[Aq qx]at uJ;have out:∀b,hX.objs.size<=b->hX.get? b=none:=λb hb=>by
  cases q:hX.get? b with
  |none=>rfl
  |some o=>exact absurd (agp q) (ahx.mpr hb)
 refine jd F.ns λfo fes fep fe fr=>?_;have fM:bu (λ_=>none) H0 cX:=⟨bs,λl o e=>(by(have e:(none:Option cx)=some o:=e);exact ag e),λl a e=>(by exact ag e),λl a e=>(by exact ag e),λl l' a e=>(by exact ag e),λ_ _=>rfl,F.keep,⟨_,fo,agt _,fe⟩⟩;refine aU (fM.w3 (l:=l) (a:=hX.objs.size+1) (o:=.cell none) af2 ec uI (λ_ e=>by exact ag e) (out _ (agt _)) (λ_=>⟨ob,none,ec,uJ,rfl⟩)) λcW qy=>?_;have D:DictAt cX (some (hX.objs.size+1)):=λc z=>by apply sE z;exact⟨ob,ec,uI⟩
 have S0:bz (λ_=>none) hX (λ_=>none) cX:=bz.keeps F.keep;have qz:RelM cX (aF.add (λ_=>none) l (hX.objs.size+1)) ((names.zip args).reverse++[]) (bindL (envOfC name scope hX.objs.size fa d6).kindOf (names.zip vs) λ_=>none):=
  Ap qx (cf.zip names ((rv.step S0 .none).dy qy D)) (λ_ _ e=>by exact ag e)
 rw[afU]at qz;have gm:St (aF.add (λ_=>none) l (hX.objs.size+1)) (H0.add l (.cell none)) (cm:=[(x,l)]) ⟨hX.objs.size,[(x,hX.objs.size+1)]⟩ (names.zip args).reverse cX:=
  ⟨cW,⟨_,⟨F.ns,cW.base,afD _⟩,qz⟩,λy e=>by
   by_cases q:y=l
   ·subst q;rw[aF.bY]at e;exact absurd (ack e) (ahn _)
   ·(rw[aF.bZ _ _ q]at e;exact ag e),λy l' e=>by
   rw[afP]at e ⊢;cases q:y==x with
   |true=>rw[q]at e;apply sE e;exact⟨_,rfl,aF.bY ..⟩
   |false=>rw[q]at e;exact ag e⟩
 have hh:=λE'=>h _ (aF.add (λ_=>none) l (hX.objs.size+1)) ⟨hX.objs.size,[(x,hX.objs.size+1)]⟩ {s with heap:=cX,toks:=tk} (λf s'=>Qc (oQ f) s') E' lI gm λfl v aj m' H' s' q X' S' z' r'=>by
  induction r' with
  |next=>exact p _ _ aj H' s' q X'.b5 ⟨z'.gens,z'.os⟩ .none
  |brk=>exact p _ _ aj H' s' q X'.b5 ⟨z'.gens,z'.os⟩ .none
  |cont=>exact p _ _ aj H' s' q X'.b5 ⟨z'.gens,z'.os⟩ .none
  |ret r=>exact p _ _ aj H' s' q X'.b5 ⟨z'.gens,z'.os⟩ r
 refine ahv (M:=model cg wX) (Q:=λf s'=>Qc (oQ f) s') (E:=λe s'=>wpAny (model cg wX) (A.deeper (envOfC name scope hX.objs.size fa d6)) (leaving (envOfC name scope hX.objs.size fa d6) e) (λ_ fG=>E e fG) (λe' fG=>E e' fG) s') ?_ (λfl s' q=>by induction fl<;>exact q) (λe s' q=>q);have e1:envOfC name scope hX.objs.size fa d6=envX name scope hX.objs.size fa d6 [(x,hX.objs.size+1)]:=by unfold envOfC;rw[fN]
 rw[e1]at hh ⊢;exact hh _
theorem FN:∀ns:List Int,ofPys (ns.map PyData.int)=ns.map WData.int
 |[]=>rfl
 |a::r=>by rw[agB,agB,ofPys,FN r,ofPy]
theorem Qn{ns:List Int}(x:Well P h v (ofPy (PyData.list (ns.map PyData.int)))):bj h (λ_=>none) (.az (ns.map U.int)) v:=by
 rw[show ofPy (PyData.list (ns.map PyData.int))=.list (ofPys (ns.map PyData.int))from rfl,FN]at x;cases x with
 |list e wl=>
  rename_i a vs;refine .az (n:=0) e (λ_ q=>by exact ag q) ?_;clear e;induction ns generalizing vs with
  |nil=>cases wl;exact .nil
  |cons k r ih=>
   cases wl with
   |cons a b=>cases a;exact .cons (.int _ _) (ih b)
theorem Qo(h:d<=600):fg callerA d:=by
 refine⟨rfl,?_,?_⟩
 ·rw[depth_caller];exact bt (agM h _)
 ·rw[units_caller];lia
theorem Qp(P:Params):nsIn (H.K P) mainGlobals (Str.ofString "law")=some (some (.ref 1014)):=by kernel_rfl
theorem Qq(c:∀(s:Shared) (ns:List Int) (vs:List Value) (Qc:Value->Shared->Prop) (E:Value->Shared->Prop),Bs->ns.length<=63->bk hX (λ_=>none) [.az (ns.map U.int)] vs->
  (∀aj H' s',bu aj H' s'.heap->dS {s with heap:=hX} s'->Qc (.bool true) s')->wpAny (model cg wX) callerA (call (.ref 1014) vs) Qc E {s with heap:=hX}):PySem.Challenge.rw_nt0624_01.Holds:=H.entry (by
 intro w afq s₁ mg mb G Y fa o pm cd doc dV kV ho hd nh hD FO hg args vals as Qr Qs Qu Qv Qw;have KX:(H.K w.params).In s₁.heap:=kIn_of Y;have T:=topRead_of G.T;have e0:fa=1014:=by have h1:=mg_of KX T.g (Qp w.params);have h2:mg (Str.ofString "law")=some (.ref fa):=FO;rw[h1]at h2;exact(Value.ref.inj (ack h2)).symm
 subst e0;have B:EU w s₁.heap:=⟨KX,T.nolimit,⟨_,_,mg,mb,T⟩⟩;clear ho hd nh hD FO
 wrow_args Qr Qs Qu Qv Qw
 rename_i ns _ _ _ _ _ _ _ l _ _ _ _ w1 _ _ _ gn _;refine OA (λs ns vs Qc E B l rv p=>c s ns vs Qc E ⟨B.X,B.mY,B.top⟩ l rv λaj H' s' R z=>p s' R.base z) (w,s₁.heap) s₁ ns _ _ _ B (by lia) (.cons (Qn w1) .nil) (λs' base z=>?_);refine GoodW.toG ⟨.inl ⟨.bool true,.bool true,[],rfl,λcls=>rfl,.bool true,by kernel_rfl,λ_=>⟨List.nodup_nil,λa h=>(nomatch h)⟩⟩,base,z.os,z.gens.trans hg⟩)
set_option tactic.hygienic false
theorem xg{p:List Value->Prop}(h:p [])(vs:List Value)(e:vs.length=0):p vs:=by
 induction vs with
 |nil=>exact h
 |cons=>cases e
theorem all1{p:List Value->Prop}(h:∀a,p [a])(vs:List Value)(e:vs.length=1):p vs:=by
 induction vs with
 |nil=>cases e
 |cons a r=>exact xg (p:=λr=>p (a::r)) (h a) r (agZ e)
theorem all2{p:List Value->Prop}(h:∀a b,p [a,b])(vs:List Value)(e:vs.length=2):p vs:=by
 induction vs with
 |nil=>cases e
 |cons a r=>exact all1 (p:=λr=>p (a::r)) (h a) r (agZ e)
theorem sj{p:List Value->Prop}(h:∀a b c,p [a,b,c])(vs:List Value)(e:vs.length=3):p vs:=by
 induction vs with
 |nil=>cases e
 |cons a r=>exact all2 (p:=λr=>p (a::r)) (h a) r (agZ e)
theorem uK{p:List Value->Prop}(h:∀a b c d,p [a,b,c,d])(vs:List Value)(e:vs.length=4):p vs:=by
 induction vs with
 |nil=>cases e
 |cons a r=>exact sj (p:=λr=>p (a::r)) (h a) r (agZ e)
theorem AI{p:List Value->Prop}(h:∀a b c d x,p [a,b,c,d,x])(vs:List Value)(e:vs.length=5):p vs:=by
 induction vs with
 |nil=>cases e
 |cons a r=>exact uK (p:=λr=>p (a::r)) (h a) r (agZ e)
theorem Qx{p:List Value->Prop}(h:∀a b c d x y,p [a,b,c,d,x,y])(vs:List Value)(e:vs.length=6):p vs:=by
 induction vs with
 |nil=>cases e
 |cons a r=>exact AI (p:=λr=>p (a::r)) (h a) r (agZ e)
noncomputable def nF:Stmt->Bool
 |.FunctionDef ..=>true
 |_=>false
def uL:Stmt->Str
 |.FunctionDef (name:=n) ..=>n
 |_=>S ""
noncomputable def FP:Stmt->Arguments
 |.FunctionDef (args:=a) ..=>a
 |_=>⟨[],[],none,[],[],none,[]⟩
noncomputable def cZ:Stmt->List Stmt
 |.FunctionDef (body:=a) ..=>a
 |_=>[]
noncomputable def fO:Stmt->Scope
 |.FunctionDef (scope:=a) ..=>a
 |_=>⟨.function,[],false,false,[]⟩
theorem FQ{st:Stmt}(h:nF st=true):H.lu st q 3 df md cd=fnOf (uL st) (S q) (FP st) (cZ st) (fO st) df .none .none md none cd .none:=by induction st using Stmt.casesOn<;>first|rfl|cases h
section
variable{d:Nat}{m:Lo}{X:AH}
theorem Call.fn{st:Stmt}{names:List Str}{Q:U->AH->Prop}(fK:Lo)(i:Bool:=true)
  (ho:kX.lookup fa=some (H.fn st q df md (.ref ca)))(hc:kX.lookup ca=some ⟨.type "code",none,.fields vs,#[]⟩)(hv:vs.toList=a::.str (S q) tk::rs)(hi:nF st=true)
  (hbind:∀(S:Setting) (vs:List Value),vs.length=args.length->peek kX S (bindArgs (H.lu st q 3 df md (.ref ca)) ⟨vs,[]⟩)=some (names.zip (vs++dv)))
  (iS:∀(h:Heap) (ρ:aF),bu ρ X h->bk h ρ dx dv)
  (eb:cZ st=body)(es:fO st=scope)
  (hloc:∀x∈names,eK scope.names x .local)
  (iB:fK=(names.zip (args++dx)).reverse)
  (h:bR d (.fn (S q) scope fa (.ref ca) []) fK X body (λfl _ H'=>∃br,AH.Le H' br/\Q fl.val br))
  (hs:oN scope=true:=by kernel_rfl):ba (d+1) (.ref fa) args X Q:=by
 subst eb es;have e:=FQ (q:=q) (df:=df) (md:=md) (cd:=.ref ca) hi;refine Call.def fK (ho.trans (afE some (afE (λz=>Obj.mk (.type "function") none (.func z) #[]) e))) (um hc hv) (λS vs hv=>?_) iS hloc iB h hs;exact e▸hbind S vs hv
end
set_option tactic.hygienic true
noncomputable def Qy (o:Option Obj):List DictEntry:=match o with
 |some ⟨_,_,.dict es _,_⟩=>es.toList
 |_=>[]
def gl:List DictEntry:=Qy (kX.lookup 3)
noncomputable def codeOf (s:Str):Nat:=s.cps.toList.foldl (λa c=>a*2000000+c+1) 0
def sm(e:DictEntry):Nat:=match e.key with
 |.str s _=>codeOf s
 |_=>0
noncomputable def FR (e:DictEntry):Bool:=match e.key with
 |.str _ _=>true
 |_=>false
noncomputable def xh:List Nat->Bool
 |[]=>true
 |a::r=>r.all (λb=>!(a==b))&&xh r
noncomputable def AJ:List Nat:=[12288006144003552001568000880000408000192000096,6144003072001616000896000400000192000096,98304049152028928012544006400003456001568000832000408000192000096,49152024576013952007168003136001616000816000460000192000096,12288006144003712001808000816000400000192000096,1572864786432401408227328113664057344029952012544007488003392001792000888000464000192000096,196608098304050688030208013568006976003744001696000888000464000192000096,12288006144003296001696000872000408000192000096,49152024576012800006272003200001680000816000404000192000096,1536000960000392000218000109,13568007424003072001856000904000392000200000102,13568007424003072001888000904000452000204000115,1744000896000480000204000115,55808028672015360006528003680001536000936000408000242000117,434176237568098304059904025088012672006976003264001536000904000392000230000117,434176237568098304056320025088014976006720003072001808000896000424000222000117,434176237568098304053760029952014080006976003072001808000896000424000222000117,434176225280115712055808027136013056006464003072001776000784000440000204000116,210944114688059392029952013056007360003072001808000872000392000200000102,28928013952006272003200001632000768000412000224000115,108544056832029696013056007360003744001536000928000424000208000111,868352454656237568104448058880029952012288006400003584001760000880000408000222000117,880000392000216000102,868352454656237568104448058880029952012288006528003488001632000880000408000222000117,217088113664059392026112014720007488003072001872000896000432000204000111,108544056832029696013056007360003744001536000952000448000212000101,25088014848007424003584001600000848000392000234000102,20480014464006528003552001344000936000392000200000108,118784059904028672014464007424003072001856000800000448000226000102,13568007104003072001856000800000448000226000102,115712057344028928012288006784003520001808000872000424000204000101,7040003584001616000816000384000224000103,118784052224027904013056006400003744001536000880000448000202000102,14080007168003232001632000768000412000224000115,58880026112014848006528003744001536000880000448000202000102,15232006272003488001888000816000384000224000103,868352475136196608118784057856025088012800006528003072001872000896000432000204000111,231424114688057856024576014976007168003072001872000784000396000218000102,115712057344028928012288007488003584001536000792000448000202000122,57856028672014464006144003744001792000768000460000224000120,458752241664119808059392027136012928006528003072001872000784000396000218000102,102400055808028672014848006528003072001872000784000396000218000102,28672014464006528003552001536000904000392000230000117,958464401408202752111616052224024576013568007104003072001872000784000396000218000102,868352454656231424120832059904024576013568007104003072001872000784000396000218000102,421888229376117760056320024576013568007104003072001872000784000396000218000102,950272479232200704117760059904024576013568007104003072001872000784000396000218000102,208896113664051712024576013568007104003072001872000784000396000218000102,475136217088106496056832024576013568007104003072001872000784000396000218000102,13568007104003072001872000784000396000218000102,421888223232120832059392026880012288007232003264001776000808000424000222000104,434176227328098304059904025088012672006976003264001536000936000408000242000117,119808050176025344013952006528003072001840000944000436000204000116,60416028416013056007744003616001632000800000468000204000101,868352475136196608119808050176025344013952006528003072001600000840000424000218000101,215040100352059392024576013568007104003072001872000784000396000218000102,57856028672014464006144003520001568000920000432000204000101,409600223232114688059392026112012288006400003136001808000936000424000224000111,54272028416012288006400003136001808000936000424000224000111,446464208896100352060928026112012288006400003584001744000944000440000222000116,958464401408212992098304054272028416012288006400003584001744000944000440000222000116,1736704909312393216204800114688055808030208014080007104003072001664000920000448000236000113,51200027904014336007424003264001536000792000448000202000122,475136239616100352058880029952012288006784003552001536000792000448000202000122,104448056832025856012288006784003552001536000792000448000202000122,434176227328098304059904025088012672006976003264001536000792000448000202000122,25600013952007168003712001632000768000460000224000120,237568119808050176029440014976006144003392001776000768000460000224000120,52224028416012928006144003392001776000768000460000224000120,3392001776000768000460000224000120,51200027904014336007424003264001536000800000408000218000109,104448056832025856012288006784003552001536000800000408000218000109,6784003552001536000800000408000218000109,29440014336007680003072001840000944000436000204000116,18688014976007040003488001136000784000472000218000117,4992003392001856000944000464000204000101,36352028672014720007040003136001872000936000424000222000104,1568000872000424000216000102,680000460000204000102,1568000792000448000238000102,4288003776001696000872000404000204000115,217088118784049152026880014976007040003488001536000936000472000230000111,1840000816000392000202000122,49152027904012544007680003072001872000896000432000204000111,24576013952006272003840001536000792000448000202000122,49152027904012544007680003072001808000872000392000212000111,393216223232100352061440024576013568007424003072001584000872000392000222000108,24576013952006272003840001536000880000448000202000102,49152027904012544007680003072001856000904000436000212000117,49152027904012544007680003072001680000896000436000202000116,49152027904012544007680003072001776000784000440000204000116,12288006976003136001920000768000452000236000117,24576013952006272003840001536000832000460000224000120,49152027904012544007680003072001744000816000392000238000102,98304055808025088015360006144003712001632000936000468000218000102,24576013952006272003840001536000928000424000208000111,24576013952006272003840001536000904000392000230000117,49152027904012544007680003072001792000936000420000204000115,12288006976003136001920000768000468000196000104,436000196000120]
theorem FT:(gl).map sm=AJ:=by kernel_rfl
theorem Qz:xh AJ=true:=by kernel_rfl
theorem QA:(gl).all FR=true:=rfl
noncomputable def QB (o:Option Obj):Bool:=match o with
 |some ⟨_,_,.dict _ _,_⟩=>true
 |_=>false
theorem QC:QB (kX.lookup 3)=true:=rfl
theorem FU:∃c d es n sl,kX.lookup 3=some ⟨c,d,.dict es n,sl⟩/\es.toList=gl:=by
 have h:=QC;unfold gl;generalize kX.lookup 3=o at h ⊢;induction o with
 |none=>exact nomatch h
 |some o=>
  induction o with
  |mk c d x sl=>
   induction x with
   |dict es n=>exact⟨c,d,es,n,sl,rfl,rfl⟩
   |_=>exact nomatch h
theorem AK(h:e.key.isStr x=true):sm e=codeOf x:=by
 unfold sm;cases q:e.key with
 |str s t=>rw[q]at h;rw[show s=x from afI.mp h]
 |_=>replace h:=q▸h;cases h
theorem QD(l:List DictEntry):∀{i:Nat},xh (l.map sm)=true->l[i]?=some e->e.key.isStr x=true->l.find? (·.key.isStr x)=some e:=by
 induction l with
 |nil=>intro i _ h;exact ag h
 |cons a r ih=>
  intro i f h k;rw[List.find?_cons];induction i with
  |zero=>
   rw[<-ack h]at k ⊢;rw[k]
  |succ i=>
   rw[agB]at f;rw[xh,afz]at f;have hm:e∈r:=agv h;have:=afF.mp f.1 (sm e) (af7.mpr ⟨e,hm,rfl⟩);have ne:a.key.isStr x=false:=by
    cases q:a.key.isStr x with
    |false=>rfl
    |true=>rw[AK q,AK k]at this;simp at this
   exact ne▸ih f.2 h k
noncomputable def AL (e:DictEntry):Option (Str×Value):=match e.key with
 |.str s _=>some (s,e.val)
 |_=>none
theorem gF(i:Nat)(h:((gl)[i]?).bind AL=some (x,v)):nsIn kX mainGlobals x=some (some v):=by
 refine cps λG k=>?_;refine fX FU λc d hh=>jd hh λes n sl e1 e2=>?_;refine bE h λe h1 h2=>?_;refine k ?_;unfold AL at h2;generalize q:e.key=y at h2;induction y using Value.casesOn with
 |str s t=>
  cases h2;unfold nsIn;rw[show kX.lookup mainGlobals=_ from e1];dsimp only;rw[e2,QD _ (x:=x) (by exact FT▸Qz) h1 (by exact q▸agA _)]
 |_=>exact ag h2
theorem so(h:AJ.all (λc=>!(c==codeOf x))=true):nsIn kX mainGlobals x=some none:=by
 refine cps λG k=>?_;refine fX FU λc d hh=>jd hh λes n sl e1 e2=>?_;refine k ?_;unfold nsIn;rw[show kX.lookup mainGlobals=_ from e1];dsimp only;rw[e2];have:(gl).find? (·.key.isStr x)=none:=List.find?_eq_none.mpr λe he q=>by have:=afF.mp h (sm e) (by rw[<-FT];exact af7.mpr ⟨e,he,rfl⟩);rw[AK q]at this;simp at this
 rw[this];have:(gl).any (·.refKey)=false:=List.any_eq_false.mpr λe he q=>by
  have:=afF.mp QA e he;unfold FR at this;unfold DictEntry.refKey at q;generalize e.key=y at this q;induction y using Value.casesOn with
  |str=>exact nomatch q
  |_=>exact nomatch this
 rw[this];rfl
section
theorem QE:FnAt (S "OpenStack") (.ref 246):=⟨gF 27 rfl,by kernel_rfl⟩
theorem QF:FnAt (S "in_table") (.ref 406):=⟨gF 49 rfl,by kernel_rfl⟩
theorem QG:FnAt (S "in_table_text") (.ref 420):=⟨gF 51 rfl,by kernel_rfl⟩
theorem QH:FnAt (S "table_rules") (.ref 427):=⟨gF 52 rfl,by kernel_rfl⟩
theorem QI:FnAt (S "in_caption") (.ref 469):=⟨gF 58 rfl,by kernel_rfl⟩
theorem QJ:FnAt (S "in_column_group") (.ref 490):=⟨gF 61 rfl,by kernel_rfl⟩
theorem QK:FnAt (S "in_table_body") (.ref 518):=⟨gF 65 rfl,by kernel_rfl⟩
theorem QL:FnAt (S "in_row") (.ref 546):=⟨gF 69 rfl,by kernel_rfl⟩
theorem QM:FnAt (S "in_cell") (.ref 567):=⟨gF 72 rfl,by kernel_rfl⟩
theorem QN:FnAt (S "row_rules") (.ref 574):=⟨gF 73 rfl,by kernel_rfl⟩
theorem QO:FnAt (S "Formatting") (.ref 686):=⟨gF 76 rfl,by kernel_rfl⟩
theorem QP:FnAt (S "Tree") (.ref 810):=⟨gF 78 rfl,by kernel_rfl⟩
theorem QQ:FnAt (S "above") (.ref 821):=⟨gF 79 rfl,by kernel_rfl⟩
theorem QR:FnAt (S "Builder") (.ref 888):=⟨gF 80 rfl,by kernel_rfl⟩
theorem QS:FnAt (S "ready") (.ref 907):=⟨gF 82 rfl,by kernel_rfl⟩
theorem FV:FnAt (S "_law_token") (.ref 914):=⟨gF 83 rfl,by kernel_rfl⟩
theorem QT:FnAt (S "_law_body") (.ref 921):=⟨gF 84 rfl,by kernel_rfl⟩
theorem FW:FnAt (S "_law_plain") (.ref 926):=⟨gF 85 rfl,by kernel_rfl⟩
theorem QU:FnAt (S "_law_is_blank") (.ref 933):=⟨gF 86 rfl,by kernel_rfl⟩
theorem uM:iw (S "len") (.builtin "len"):=⟨so rfl,by kernel_rfl,by decide⟩
theorem xi:iw (S "range") (.type "range"):=⟨so rfl,by kernel_rfl,by decide⟩
theorem xj:iw (S "list") (.type "list"):=⟨so rfl,by kernel_rfl,by decide⟩
theorem AM:iw (S "str") (.type "str"):=⟨so rfl,by kernel_rfl,by decide⟩
theorem QV:iw (S "isinstance") (.builtin "isinstance"):=⟨so rfl,by kernel_rfl,by decide⟩
theorem QW:iw (S "all") (.builtin "all"):=⟨so rfl,by kernel_rfl,by decide⟩
theorem QX:plainGet kX fw default=true:=by kernel_rfl
theorem QY:hasDictIn kX fw=true:=rfl
theorem QZ:fJ fw (S "items"):=⟨QX,QY,by kernel_rfl⟩
theorem oY:plainGet kX cY default=true:=by kernel_rfl
theorem qA:hasDictIn kX cY=true:=rfl
theorem Q0:MethAt cY (S "add") 720:=⟨oY,by kernel_rfl,by kernel_rfl,by kernel_rfl⟩
theorem uN:fJ cY (S "kinds"):=⟨oY,qA,by kernel_rfl⟩
theorem FX:fJ cY (S "spaces"):=⟨oY,qA,by kernel_rfl⟩
theorem xl:fJ cY (S "names"):=⟨oY,qA,by kernel_rfl⟩
theorem AN:fJ cY (S "attrs"):=⟨oY,qA,by kernel_rfl⟩
theorem AO:fJ cY (S "texts"):=⟨oY,qA,by kernel_rfl⟩
theorem xm:fJ cY (S "parents"):=⟨oY,qA,by kernel_rfl⟩
theorem AP:fJ cY (S "children"):=⟨oY,qA,by kernel_rfl⟩
theorem oZ:plainGet kX ck default=true:=by kernel_rfl
theorem o4:hasDictIn kX ck=true:=rfl
theorem AQ:fJ ck (S "tree"):=⟨oZ,o4,by kernel_rfl⟩
theorem Q1:fJ ck (S "stack"):=⟨oZ,o4,by kernel_rfl⟩
theorem Q2:fJ ck (S "mode"):=⟨oZ,o4,by kernel_rfl⟩
theorem Q3:fJ ck (S "original"):=⟨oZ,o4,by kernel_rfl⟩
theorem Q4:fJ ck (S "head"):=⟨oZ,o4,by kernel_rfl⟩
theorem Q5:fJ ck (S "is_foster"):=⟨oZ,o4,by kernel_rfl⟩
theorem Q6:fJ ck (S "pending"):=⟨oZ,o4,by kernel_rfl⟩
theorem Q7:fJ ck (S "is_acknowledged"):=⟨oZ,o4,by kernel_rfl⟩
theorem sq:findIn kX (.ref ck) "__setattr__"=some (some (.builtin "object.__setattr__")):=by kernel_rfl
theorem sr:plainOver kX ck=true:=rfl
theorem su:(clsIn kX ck).any (·.hasDict)=true:=rfl
theorem Q8:gS ck (S "mode"):=⟨sq,sr,by unfold takerIn;rw[Q2.lB];rfl,su⟩
theorem Q9:gS ck (S "original"):=⟨sq,sr,by unfold takerIn;rw[Q3.lB];rfl,su⟩
theorem Ra:gS ck (S "head"):=⟨sq,sr,by unfold takerIn;rw[Q4.lB];rfl,su⟩
theorem Rb:gS ck (S "is_foster"):=⟨sq,sr,by unfold takerIn;rw[Q5.lB];rfl,su⟩
theorem Rc:gS ck (S "pending"):=⟨sq,sr,by unfold takerIn;rw[Q6.lB];rfl,su⟩
theorem Rg:gS ck (S "is_acknowledged"):=⟨sq,sr,by unfold takerIn;rw[Q7.lB];rfl,su⟩
end
theorem Rh:kX.lookup 279=some (open H in ce "mode_of" "mode_of" 527 199 1 274 532):=rfl
theorem Ri:kX.lookup 280=some (open H in fn (aD 27) "mode_of" vN (s "htmltree.reset" 525) (r 279)):=rfl
theorem Rj:kX.lookup 925=some (open H in co [(s "_law_plain" 1381),(s "_law_plain" 1382),(s "/claim/cut.py" 1383),(i 812 0),(i 2 0),(i 0 0),(i 0 0),(i 3 0),(r 922),vT,(i 181 0),(r 923),vN,vN,vN,(r 924),(i 1384 0),(i 812 0),(s "/claim/cut.py" 1385)]):=rfl
theorem Rk:kX.lookup 926=some (open H in fn (aD 90) "_law_plain" vN (s "law_nt0624_01" 1361) (r 925)):=rfl
theorem Rl:kX.lookup 944=some (open H in co [(s "_law_split" 1404),(s "_law_split" 1405),(s "/claim/cut.py" 1406),(i 824 0),(i 1 0),(i 0 0),(i 0 0),(i 3 0),(r 941),vT,(i 181 0),(r 942),vN,vN,vN,(r 943),(i 1407 0),(i 824 0),(s "/claim/cut.py" 1408)]):=rfl
theorem Rm:kX.lookup 945=some (open H in fn (aD 93) "_law_split" vN (s "law_nt0624_01" 1361) (r 944)):=rfl
section
variable{b:B}
theorem Rn:(fy b).lookup (S "tree")=some (.ae .tree):=rfl
theorem Ro:(fy b).lookup (S "stack")=some (.ae .stack):=rfl
theorem Rp:eT.lookup (S "names")=some (.ae .names):=rfl
theorem Rq:nA.lookup (S "items")=some (.ae .items):=rfl
end
set_option tactic.hygienic false
theorem Rr[Decidable c]{X Y:Prop}(h:(if c then x else y)=some r)(k1:c->x=some r->X)(k2:¬c->y=some r->Y):if c then X else Y:=by
 by_cases q:c
 ·rw[if_pos q]at h ⊢;exact k1 q h
 ·rw[if_neg q]at h ⊢;exact k2 q h
theorem xn{α:Type}[Decidable c]{x:Option α}{r:α}{P:Prop}(h:(if c then x else none)=some r)(g:c->x=some r->P):P:=by
 by_cases q:c
 ·rw[if_pos q]at h;exact g q h
 ·rw[if_neg q]at h;exact ag h
theorem AR{xs:List α}(h:xs[i]?=some x):xs.drop i=x::xs.drop (i+1):=by refine aI (afB.mp h) λhi e=>?_;rw[List.drop_eq_getElem_cons hi,e]
noncomputable def sv:List U->Option (List Str)
 |[]=>some []
 |.str x::r=>(sv r).map (x::·)
 |_=>none
theorem xo:∀{xs:List U} {ss:List Str},sv xs=some ss->xs=ss.map U.str
 |[],ss,h=>by cases h;rfl
 |x::r,ss,h=>by
  cases x with
  |str y=>
   refine ao (age.mp h) λs' h1 aP=>?_;subst aP;rw[xo h1];rfl
  |_=>exact ag h
section
variable{d:Nat}{f:aV}{m:Lo}{X:AH}{b:B}{G:AH}{n:Nat}
theorem Op.FY(q:Q (.bool (aw ss k)) X):bC d (compareOp .In) (.str k) (.aJ (ss.map U.str)) X Q:=Op.PA q
theorem Op.Rt(q:Q (.bool (!aw ss k)) X):bC d (compareOp .NotIn) (.str k) (.aJ (ss.map U.str)) X Q:=Op.PB q
def fP(d:Nat)(f:aV)(m:Lo)(X:AH)(e:Expr)(c:Bool):Prop:=∀Q:Bool->AH->Prop,Q c X->eS d f m X e Q
theorem fP.one(h:fP d f m X e c):fP d f m X (.BoolOp op [e] pos) c:=λQ q=>by refine Ts.bool (h _ ?_);induction op<;>induction c<;>exact q
theorem fP.and(h:fP d f m X e a)(k:a=true->fP d f m X (.BoolOp .And r pos) c):fP d f m X (.BoolOp .And (e::r) pos) (a&&c):=λQ q=>by
 refine Ts.and (h _ ?_);induction a
 ·exact q
 ·exact k rfl _ q
theorem fP.or(h:fP d f m X e a)(k:a=false->fP d f m X (.BoolOp .Or r pos) c):fP d f m X (.BoolOp .Or (e::r) pos) (a||c):=λQ q=>by
 refine Ts.or (h _ ?_);induction a
 ·exact k rfl _ q
 ·exact q
theorem Tr.list(e:X.get l=some (.list xs))(hs:xs.length<=1000000)(q:Q (!xs.isEmpty) X):mh d (.ae l) X Q:=
 λA ρ s a Qc E ah R r p=>by
  refine kI (R.list e r) λa vs n bK _ ho rl le=>?_;subst bK;refine wpAny_truthy_list ho.isList (by rw[afT,le];lia) ?_;have e2:(!vs.toArray.isEmpty)=!xs.isEmpty:=by cases vs<;>induction xs<;>first|rfl|cases le
  exact e2▸p _ ρ X {s with toks:=s.toks+1+1} q R .refl ⟨rfl,rfl⟩
end
theorem kS(h:el b k=some x):nd b k=some x:=by
 refine bE h λy h1 h2=>?_;split at h2
 ·apply sE h2;exact h1
 ·exact ag h2
theorem Ru(h:el b k=some x):x.d7=S "html":=by
 refine bE h λy h1 h2=>?_;split at h2
 ·rename_i q;apply sE h2;exact q.2
 ·exact ag h2
theorem FZ(h:nd b k=some x):0<=k:=by refine ao (gT h) λj bp _=>?_;subst bp;exact afZ j
theorem AS(h:nd b k=some x):(k==-1)=false:=by have:=FZ h;exact afK.mpr (by exact Int.ne_of_gt this)
theorem uO(h:gb xs=some r):aC xs.length=true/\((xs.length:Int)==0)=false:=by
 obtain⟨x,ys⟩:=r;have h2:=h;unfold gb at h;refine bE h λy h1 h3=>?_;split at h3
 ·rename_i ok;refine⟨ok,afK.mpr ?_⟩;rw[(As h2).1,afC,afW];exact nofun
 ·exact ag h3
theorem F0{α:Type}{xs:List α}(h:xs.length<=900000)(i:Nat):cy xs (i:Int)=xs[i]?:=by
 unfold cy;by_cases q:i<1000000
 ·exact if_pos ⟨afZ _,ag6.mpr q⟩
 ·rw[if_neg λp=>q (ag6.mp p.2)];exact(af1 (ads (bt h) (agh q))).symm
theorem Rv{k:Int}(h:xs.getLast?=some k)(hs:aC xs.length=true):cy xs ((xs.length:Int)-1)=some k/\((xs.length:Int)==0)=false:=by
 refine aI (agy.mp h) λys bp=>?_;subst bp;have e:(((ys++[k]).length:Nat):Int)-1=(ys.length:Nat):=by rw[afC];exact(Int.add_sub_cancel (ys.length:Int) 1:((ys.length:Int)+1)-1=_)
 exact⟨by rw[e,F0 (eG hs)];exact List.getElem?_concat_length,afK.mpr (by rw[afC];exact nofun)⟩
theorem kT{X Y:Prop}(h:c=false)(k:Y):if c=true then X else Y:=by rw[if_neg (by rw[h];decide)];exact k
theorem qB{X Y:Prop}(h:c=true)(k:X):if c=true then X else Y:=by rw[if_pos h];exact k
theorem uP(h:el b k=some x):(x.d7==S "html")=true:=by rw[Ru h];exact agA _
theorem AU(h:el b k=some x):(x.d7 !=S "html")=false:=by rw[bne,uP h];rfl
theorem F1(h:nd b k=some x):(k !=-1)=true:=by rw[bne,AS h];rfl
theorem AW(h:gE b=some r):∃ys,gb b.stack=some (r.1,ys)/\r.2={b with stack:=ys}:=by refine bE h λs h1 h=>?_;apply sE h;exact⟨s.2,h1,rfl⟩
theorem len_pos(h:gb xs=some r):decide ((0:Int)<xs.length)=true:=by
 have:=(uO h).2;have:(xs.length:Int)≠0:=by simpa using this
 exact aga (by lia)
theorem uQ{xs:List Int}(hi:i<xs.length)(hs:aC xs.length=true):∃k,xs.reverse.drop i=k::xs.reverse.drop (i+1)/\cy xs ((xs.length:Int)-1+i*(-1))=some k:=by
 have hl:i<xs.reverse.length:=by rw[List.length_reverse];exact hi
 refine⟨xs.reverse[i],List.drop_eq_getElem_cons hl,?_⟩;have e:(xs.length:Int)-1+i*(-1)=((xs.length-1-i:Nat):Int):=by rw[ahr (Nat.le_sub_one_of_lt hi),ahr (ahf (afO _) hi),Int.mul_neg,Int.mul_one];rfl
 rw[e,List.getElem_reverse,F0 (eG hs)];exact afH _
theorem Rw{xs:List Int}:xs.reverse.drop xs.length=[]:=by rw[<-List.length_reverse,List.drop_length]
theorem Rx(h:aC n=true):mu [.int ((n:Int)-1),.int (-1),.int (-1)] ((n:Int)-1) (-1) (-1) n:=by
 have:=eG h;have e:(((n:Int)-1)+1).toNat=n:=by lia
 have:=mu.down (a:=(n:Int)-1) (by lia) (by lia);rw[e]at this;exact this
section
variable{d:Nat}{f:aV}{m:Lo}{X:AH}
theorem Call.get(hl:X.get l=some (.map es))(q:Q ((es.lookup k).getD y) X):ba d (.builtin "dict.get") [.ae l,.str k,y] X Q:=
 λA ρ s vs Qc E ah R rv p=>by
  refine uc rv.three λ_ kv yv bK r1 r2 r3=>?_;subst bK;refine gN (R.map hl r1) λa kvs aP _ hd rp hn=>?_;subst aP;refine r2.k λt=>?_;refine call_meetsIn F.slot_dict_get (ew.typeIs (.map hl) R r1) F.entry_dict_get (F.args_dict_get_3 _ _ _) (meets_dict_get_default (strKind cg wX) a (strKind_is cg wX k t) hn yv) ⟨_,hd.mapOf,?_⟩;cases e:es.lookup k with
  |none=>
   rw[rp.valueAt.2 e];rw[e]at q;exact p.toks q R r3
  |some z=>
   refine ao (rp.valueAt.1 z e) λv e1 rz=>?_;rw[e1];rw[e]at q;exact p.toks q R rz
def Ry(ρ:aF)(s:Shared)(Q:List (Str×U)->AH->Prop)(Qc:List (Value×Value)->Shared->Prop):Prop:=
 ∀x v aj H' s',Q x H'->bu aj H' s'.heap->bz ρ s.heap aj s'.heap->dS s s'->allStrKeys v=true->cf s'.heap aj x (strPairs v)->Qc v s'
def xq(d:Nat)(f:aV)(m:Lo)(X:AH)(ks:List (Option Expr))(vs:List Expr)(Q:List (Str×U)->AH->Prop):Prop:=
 ∀(A:Around) (ρ:aF) (L:gA f.cm) (s:Shared) (Qc:List (Value×Value)->Shared->Prop) (E:Value->Shared->Prop) (pos:Pos),fg A d->St ρ X L m s.heap->
  Ry ρ s Q Qc->wpAny (model cg wX) A (evalPairs (pairTrees ks vs (f.env L) pos)) Qc E s
theorem fQ.nil(q:Q [] X):xq d f m X [] [] Q:=
 λA ρ L s Qc E pos ah St p=>pairTrees_nil_walk (p [] [] ρ X s q St.b5 .refl .refl rfl .nil)
theorem fQ.cons
  (h:aW d f m X v λx H₁=>xq d f m H₁ ks vs λr bS=>Q ((k,x)::r) bS):xq d f m X (some (.Constant (.str k) j kp)::ks) (v::vs) Q:=
 λA ρ L s Qc E pos ah X0 p=>pairTrees_cons_walk (by
  rw[eval_Constant];refine wpAny_mkText ?_;refine h A ρ L {s with toks:=s.toks+1} _ E ah X0 λx v bA H₁ s₁ q R S z r=>?_;refine q A bA L s₁ _ E pos ah (X0.cj R S) λy u dB bS bH dG cW bQ de Rz fj=>?_;exact p ((_,x)::y) ((.str k _,v)::u) dB bS bH dG cW (S.trans bQ) ⟨de.gens.trans z.gens,de.os.trans z.os⟩ Rz (.cons (r.step bQ .none) fj))
theorem Ev.sx(l:Loc)(h3:∃o,kX.lookup 3=some o)(hn:X.new l)
  (h:xq d f m (X.add l (.map [])) qj values λkvs H'=>H'.get l=some (.map [])/\(kvs.map (·.1)).Nodup/\Q (.ae l) (H'.set l (.map kvs)))
  (sz:qj.all (·.isSome)=true)(hl:qj.length=values.length)(h0:qj≠[])(gn:qj.length<=15):aW d f m X (.Dict qj values pos) Q:=
 λA ρ L s Qc E ah X0 p=>by
  have R:=X0.b5;have xr:(s.heap.objs.size==sysModules)=false:=by
   refine aI h3 λo e=>?_;have:=agp (R.base _ _ (R.bs.X _ _ e));exact afK.mpr λe=>by rw[e]at this;exact absurd this (by decide)
  refine wpAny_Dict_walk (knd:=strKind cg wX) sz hl h0 gn ?_;refine aU (R.alloc (o:=.map []) hn (ob:={cls:=.type "dict",data:=.dict #[]}) rfl λaj S' e=>⟨[],Heap.DictOf.new s.heap,.nil,xr⟩) λR' S'=>?_;refine h A (ρ.add l s.heap.objs.size) L {s with heap:=s.heap.push {cls:=.type "dict",data:=.dict #[]}} _ E pos ah (X0.cj R' S') λkvs vs bA H₁ s₁ q fM qi ug RA wO=>?_;refine cps λG k=>?_;refine dR q λhg RB q=>?_;have ea:bA l=some s.heap.objs.size:=qi.ext _ _ (aF.bY ..);refine ao (fM.obj _ _ hg) λa e1 hh=>cN hh λafr hd RC _=>?_;refine k ?_;rw[ea]at e1;obtain rfl:=ack e1;cases RC;refine display_done_str RA (by exact wO.qj▸RB) hd λh' oO sb=>?_;refine ao (ahu.mp oO) λob Ai _=>?_;have bQ:=bz.same (h:=s₁.heap) (h':=h') ea sb Ai;exact p (.ae l) _ bA (H₁.set l (.map kvs)) {s₁ with heap:=h',toks:=s₁.toks+vs.length} q (fM.uf ea sb ⟨_,oO,wO.step bQ .none,xr⟩) ((S'.trans qi).trans bQ) ⟨ug.gens,ug.os⟩ (.ae ea)
end
set_option tactic.hygienic true
section
variable{b:B}{x:Nd}{G:AH}{n:Nat}
noncomputable def qC (c:Bool)(y:U):List U:=match c with
 |true=>[y]
 |false=>[]
def d8(b:B)(x:Nd)(j:Nat)(G:AH)(n:Nat):AH where
 get
  |.eg=>some (.list (b.aa.map (λx=>.str x.kind)++qC (Nat.blt 0 j) (.str x.kind)))
  |.ff=>some (.list (b.aa.map (λx=>.str x.d7)++qC (Nat.blt 1 j) (.str x.d7)))
  |.names=>some (.list (b.aa.map (λx=>.str x.name)++qC (Nat.blt 2 j) (.str x.name)))
  |.aX=>some (.list (b.aa.map (λx=>.az x.aX)++qC (Nat.blt 3 j) (.az x.aX)))
  |.eJ=>some (.list (b.aa.map (λx=>.str x.text)++qC (Nat.blt 4 j) (.str x.text)))
  |.dU=>some (.list (b.aa.map (λx=>.int x.bB)++qC (Nat.blt 5 j) (.int x.bB)))
  |l=>(hp b G n).get l
 new:=(hp b G n).new
theorem qD:xs++qC false y=xs:=afU _
theorem RD:d8 b x 0 G n=hp b G n:=by refine AH.ext (λl=>?_) (λl=>agm);induction l<;>first|rfl|exact afE (λz=>some (cx.list z)) qD
theorem RE:(d8 b x 0 G n).set .eg (.list ((b.aa.map (λx=>U.str x.kind))++[.str x.kind]))=d8 b x 1 G n:=AH.eU rfl (λl h=>by induction l<;>first|rfl|exact(h rfl).elim) λl=>agm
theorem RF:(d8 b x 1 G n).set .ff (.list ((b.aa.map (λx=>U.str x.d7))++[.str x.d7]))=d8 b x 2 G n:=AH.eU rfl (λl h=>by induction l<;>first|rfl|exact(h rfl).elim) λl=>agm
theorem RG:(d8 b x 2 G n).set .names (.list ((b.aa.map (λx=>U.str x.name))++[.str x.name]))=d8 b x 3 G n:=AH.eU rfl (λl h=>by induction l<;>first|rfl|exact(h rfl).elim) λl=>agm
theorem RH:(d8 b x 3 G n).set .aX (.list ((b.aa.map (λx=>U.az x.aX))++[.az x.aX]))=d8 b x 4 G n:=AH.eU rfl (λl h=>by induction l<;>first|rfl|exact(h rfl).elim) λl=>agm
theorem RI:(d8 b x 4 G n).set .eJ (.list ((b.aa.map (λx=>U.str x.text))++[.str x.text]))=d8 b x 5 G n:=AH.eU rfl (λl h=>by induction l<;>first|rfl|exact(h rfl).elim) λl=>agm
theorem RJ:(d8 b x 5 G n).set .dU (.list ((b.aa.map (λx=>U.int x.bB))++[.int x.bB]))=d8 b x 6 G n:=AH.eU rfl (λl h=>by induction l<;>first|rfl|exact(h rfl).elim) λl=>agm
theorem RK(hk:x.af=[]):((d8 b x 6 G n).add (.b9 b.aa.length) (.list [])).set .eQ (.list (((List.range b.aa.length).map λi=>U.ae (.b9 i))++[.ae (.b9 b.aa.length)]))=hp {b with aa:=b.aa++[x]} G n:=by
 refine AH.eU ?_ (λl h=>?_) λl=>?_
 ·show some (cx.list ((List.range (b.aa++[x]).length).map _))=_;rw[afC,afW,List.range_succ,afR];rfl
 ·induction l with
  |b9 i=>
   show((b.aa++[x])[i]?).map _=_;by_cases q:i=b.aa.length
   ·subst q;rw[AH.bY];simp[hk,cP]
   ·rw[AH.bZ _ _ (by intro e;injection e;exact q ‹_›)];show _=(b.aa[i]?).map _;by_cases q2:i<b.aa.length
    ·rw[agb q2]
    ·rw[af1 (by rw[afC,afW];lia),af1 (by exact agh q2)]
  |eQ=>exact(h rfl).elim
  |eg|ff|names|aX|eJ|dU=>
   rw[AH.bZ _ _ (by intro e;exact nomatch e)];show some (cx.list ((b.aa++[x]).map _))=_;rw[afR];rfl
  |_=>exact(AH.bZ _ _ (by intro e;exact nomatch e)).symm
 ·induction l with
  |b9 i=>
   show(b.aa++[x]).length<=i↔(b.aa.length<=i/\Loc.b9 i≠Loc.b9 b.aa.length);rw[afC,afW];constructor
   ·intro h;exact⟨by exact Nat.le_of_lt ‹_›,λe=>by injection e;lia⟩
   ·intro h;have:i≠b.aa.length:=λe=>h.2 (e▸rfl);lia
  |_=>exact⟨λh=>⟨h,λe=>nomatch e⟩,λh=>h.1⟩
theorem qF:iA (d8 b x j G n) (.ae .tree) cY eT:=⟨.tree,.dC,rfl,rfl,rfl⟩
theorem RL{H:AH}(e1:H.get l=some (.inst C d))(e2:H.get d=some (.dict es))(h1:∀k,l≠.aO k)(h2:∀k,d≠.aO k):iA (H.add (.aO k) o) (.ae l) C es:=
 ⟨l,d,rfl,(AH.bZ _ _ (h1 k)).trans e1,(AH.bZ _ _ (h2 k)).trans e2⟩
theorem nG{H:AH}:(H.add l o).set l o'=H.add l o':=by
 refine AH.ext (λk=>?_) λk=>agm;by_cases q:k=l
 ·subst q;rw[AH.rP,AH.bY]
 ·rw[AH.rQ _ _ q,AH.bZ _ _ q,AH.bZ _ _ q]
end
section
variable{d:Nat}{b:B}{x:Nd}{G:AH}{n:Nat}{Q:U->AH->Prop}
theorem sA{xs:List α}(h:aC xs.length=true):(xs.map f).length<=1000000:=by rw[afA];have:=eG h;exact ads ‹_› (by decide)
theorem A.eg(hs:aC b.aa.length=true)(q:Q .none (d8 b x 1 G n)):ba d (.builtin "list.append") [.ae .eg,.str x.kind] (d8 b x 0 G n) Q:=
 Call.append (xs:=b.aa.map (λx=>U.str x.kind)) (afE (λz=>some (cx.list z)) qD) (sA hs) (by rw[RE];exact q)
theorem A.ff(hs:aC b.aa.length=true)(q:Q .none (d8 b x 2 G n)):ba d (.builtin "list.append") [.ae .ff,.str x.d7] (d8 b x 1 G n) Q:=
 Call.append (xs:=b.aa.map (λx=>U.str x.d7)) (afE (λz=>some (cx.list z)) qD) (sA hs) (by rw[RF];exact q)
theorem A.names(hs:aC b.aa.length=true)(q:Q .none (d8 b x 3 G n)):ba d (.builtin "list.append") [.ae .names,.str x.name] (d8 b x 2 G n) Q:=
 Call.append (xs:=b.aa.map (λx=>U.str x.name)) (afE (λz=>some (cx.list z)) qD) (sA hs) (by rw[RG];exact q)
theorem A.aX(hs:aC b.aa.length=true)(q:Q .none (d8 b x 4 G n)):ba d (.builtin "list.append") [.ae .aX,.az x.aX] (d8 b x 3 G n) Q:=
 Call.append (xs:=b.aa.map (λx=>U.az x.aX)) (afE (λz=>some (cx.list z)) qD) (sA hs) (by rw[RH];exact q)
theorem A.eJ(hs:aC b.aa.length=true)(q:Q .none (d8 b x 5 G n)):ba d (.builtin "list.append") [.ae .eJ,.str x.text] (d8 b x 4 G n) Q:=
 Call.append (xs:=b.aa.map (λx=>U.str x.text)) (afE (λz=>some (cx.list z)) qD) (sA hs) (by rw[RI];exact q)
theorem A.dU(hs:aC b.aa.length=true)(q:Q .none (d8 b x 6 G n)):ba d (.builtin "list.append") [.ae .dU,.int x.bB] (d8 b x 5 G n) Q:=
 Call.append (xs:=b.aa.map (λx=>U.int x.bB)) (afE (λz=>some (cx.list z)) qD) (sA hs) (by rw[RJ];exact q)
theorem A.RM(AX:x.bB=-1)(hs:aC b.aa.length=true)(q:Q .none (d8 b x 6 G n)):ba d (.builtin "list.append") [.ae .dU,.int (-1)] (d8 b x 5 G n) Q:=by have:=A.dU (d:=d) (x:=x) hs q;replace this:=AX▸this;exact this
theorem A.eQ(hk:x.af=[])(hs:aC b.aa.length=true)(q:Q .none (hp {b with aa:=b.aa++[x]} G n)):ba d (.builtin "list.append") [.ae .eQ,.ae (.b9 b.aa.length)] ((d8 b x 6 G n).add (.b9 b.aa.length) (.list [])) Q:=
 Call.append (xs:=(List.range b.aa.length).map λi=>U.ae (.b9 i)) ((AH.bZ _ _ (by intro e;exact nomatch e)).trans rfl) (by rw[afA,List.length_range];have:=eG hs;exact ads ‹_› (by decide)) (by rw[RK hk];exact q)
theorem A.new:(d8 b x 6 G n).new (.b9 b.aa.length):=afD _
theorem A.len(hs:aC b.aa.length=true)(q:Q (.int ((b.aa.length:Int)+1)) (hp {b with aa:=b.aa++[x]} G n)):ba d (.builtin "len") [.ae .eg] (hp {b with aa:=b.aa++[x]} G n) Q:=by refine Call.len (xs:=(b.aa++[x]).map λx=>U.str x.kind) (.list rfl) (by rw[afA,afC,afW];have:=eG hs;exact bt (af9 this)) ?_;rw[afA,afC,afW];exact q
end
section
variable{d:Nat}{b:B}{G:AH}{n:Nat}
theorem R.F2(h:nd b i=some x)(q:Q (.int x.bB) ((hp b G n).add (.aO k) o)):
  (∃T,ew ((hp b G n).add (.aO k) o) (.ae .dU) T/\gR T)/\bC d getItem (.ae .dU) (.int i) ((hp b G n).add (.aO k) o) Q:=
 have e:((hp b G n).add (.aO k) o).get .dU=some (.list (b.aa.map λx=>.int x.bB)):=(AH.bZ _ _ (by intro e;cases e)).trans rfl
 ⟨jO e,Op.lL (.list e) (jN h) q⟩
theorem F3:iA ((hp b G n).add (.aO k) o) (.ae .tree) cY eT:=RL rfl rfl (by intro k e;cases e) (by intro k e;cases e)
theorem L.RN{k:Nat}(hs:aC xs.length=true)(q:Q .none ((hp b G n).add (.aO k) (.list (cP (xs++[u]))))):ba d (.builtin "list.append") [.ae (.aO k),.int u] ((hp b G n).add (.aO k) (.list (cP xs))) Q:=by refine Call.append (AH.bY ..) (by rw[oR];have:=eG hs;exact ads ‹_› (by decide)) ?_;rw[nG,show cP xs++[U.int u]=cP (xs++[u]) by rw[Ax];rfl];exact q
theorem L.lO:(hp b G n).new (.aO n):=afD _
end
section
variable{d:Nat}{f:aV}{m:Lo}{b:B}{G:AH}{n:Nat}
theorem Op.RO(q:Q (.bool (aw xs k)) ((hp b G n).add (.aO j) (.list (cP xs)))):bC d (compareOp .In) (.int k) (.ae (.aO j)) ((hp b G n).add (.aO j) (.list (cP xs))) Q:=
 Op.Fn (.list (AH.bY ..)) q
theorem RP(h:kQ b bB p node at_=some b'):aC p.af.length=true/\aC b.aa.length=true/\(0<=at_/\at_<=p.af.length)/\
  ∃x,nd (b.cq bB.toNat {p with af:=p.af.take at_.toNat++node::p.af.drop at_.toNat}) node=some x/\b'=(b.cq bB.toNat {p with af:=p.af.take at_.toNat++node::p.af.drop at_.toNat}).cq node.toNat {x with bB:=bB}:=by
 unfold kQ at h;split at h
 ·rename_i c;refine bE h λx h1 h=>?_;apply sE h;exact⟨c.1,c.2.1,c.2.2,x,h1,rfl⟩
 ·exact ag h
theorem RQ:(b.cq i x).aa.length=b.aa.length:=agn ..
end
theorem RS:kX.lookup 116=some (H.tu []):=rfl
theorem F4(R:bu ρ X h)(k:kX.lookup a=some (H.tu [])):bj h ρ (.aJ []) (.ref a):=
 have e:=R.bs.X a _ k
 .aJ (n:=0) (R.base a _ e) (λl q=>by(have:=R.low l a q);replace this:=e▸this;cases this) .nil
section
variable{d:Nat}{X:AH}
theorem RT(h:jT t=some as):∃tl,t.rest=.aJ as::tl:=by
 unfold jT at h;generalize t.rest=l at h ⊢;induction l with
 |nil=>exact ag h
 |cons x l _=>
  induction x using U.casesOn with
  |aJ xs=>apply sE h;exact⟨l,rfl⟩
  |_=>exact ag h
end
theorem F5{l:List (Str×Str)}:(l.map λp=>(p.1,U.str p.2)).lookup x=(l.lookup x).map U.str:=by
 induction l with
 |nil=>rfl
 |cons p r ih=>
  rw[agB,afP,afP,ih];cases x==p.1<;>rfl
def uR:List (Str×U):=[(S "td",.str (S "in cell")),(S "th",.str (S "in cell")),(S "tr",.str (S "in row")),(S "tbody",.str (S "in table body")),(S "thead",.str (S "in table body")),(S "tfoot",.str (S "in table body")),(S "caption",.str (S "in caption")),(S "colgroup",.str (S "in column group")),(S "table",.str (S "in table")),(S "head",.str (S "in head")),(S "body",.str (S "in body")),(S "frameset",.str (S "in frameset"))]
theorem RU:uR=w9.map λp=>(p.1,U.str p.2):=rfl
theorem RV{x:Str}:(uR.lookup x).getD (.str (S ""))=.str (kg x):=by rw[RU];rw[F5];unfold kg;cases w9.lookup x<;>rfl
theorem qG:∃o,kX.lookup 3=some o:=⟨_,show kX.lookup 3=some (H.o3 wX.params) by kernel_rfl⟩
theorem RW:(uR.map (·.1)).Nodup:=by have:uR.map (·.1)=w9.map (·.1):=rfl;rw[this];decide+kernel
set_option tactic.hygienic false
mutual
inductive eM (l:Loc):U->Prop
 |none:eM l .none
 |bool (b:Bool):eM l (.bool b)
 |int (i:Int):eM l (.int i)
 |str (s:Str):eM l (.str s)
 |val (v:Value):eM l (.val v)
 |ae {k:Loc} (h:k≠l):eM l (.ae k)
 |aJ {xs:List U} (h:fR l xs):eM l (.aJ xs)
 |az {xs:List U} (h:fR l xs):eM l (.az xs)
inductive fR (l:Loc):List U->Prop
 |nil:fR l []
 |cons {x:U} {xs:List U} (a:eM l x) (b:fR l xs):fR l (x::xs)
end
open Classical in
def aF.cM (ρ:aF)(l:Loc):aF:=λx=>if x=l then none else ρ x
theorem aF.qH(ρ:aF)(n:x≠l):ρ.cM l x=ρ x:=if_neg n
theorem aF.F6(ρ:aF)(l:Loc):ρ.cM l l=none:=if_pos rfl
theorem aF.nH{ρ:aF}(e:ρ.cM l x=some a):ρ x=some a/\x≠l:=by
 by_cases q:x=l
 ·rw[q,aF.F6]at e;exact ag e
 ·rw[aF.qH _ q]at e;exact⟨e,q⟩
theorem bj.no(n:ρ l=Option.none)(r:bj h ρ x v):eM l x:=
 bj.rec (motive_1:=λx _ _=>eM l x) (motive_2:=λxs _ _=>fR l xs) .none .bool (λi _=>.int i) (λs _=>.str s) .val (λe=>.ae λq=>by rw[q,n]at e;exact ag e) (λ_ _ _ i=>.aJ i) (λ_ _ _ i=>.az i) .nil (λ_ _ a b=>.cons a b) r
theorem bk.no(n:ρ l=none)(r:bk h ρ xs vs):fR l xs:=
 bk.rec (motive_1:=λx _ _=>eM l x) (motive_2:=λxs _ _=>fR l xs) .none .bool (λi _=>.int i) (λs _=>.str s) .val (λe=>.ae λq=>by rw[q,n]at e;exact ag e) (λ_ _ _ i=>.aJ i) (λ_ _ _ i=>.az i) .nil (λ_ _ a b=>.cons a b) r
theorem xu{ρ:aF}(f:∀k,ρ k≠some a):∀k,ρ.cM l k≠some a:=λk e=>f k (aF.nH e).1
theorem eM.F7(h:eM l (.ae m)):m≠l:=by cases h with|ae n=>exact n
theorem eM.wK(h:eM l (.aJ xs)):fR l xs:=by cases h with|aJ n=>exact n
theorem eM.wL(h:eM l (.az xs)):fR l xs:=by cases h with|az n=>exact n
theorem fR.un(h:fR l (x::xs)):eM l x/\fR l xs:=by cases h with|cons a b=>exact⟨a,b⟩
theorem bj.cM{h:Heap}(r:bj h ρ x v):eM l x->bj h (ρ.cM l) x v:=
 bj.rec (motive_1:=λx v _=>eM l x->bj h (ρ.cM l) x v) (motive_2:=λxs vs _=>fR l xs->bk h (ρ.cM l) xs vs) (λ_=>.none) (λb _=>.bool b) (λi t _=>.int i t) (λs t _=>.str s t) (λv _=>.val v) (λe n=>.ae ((aF.qH _ n.F7).trans e)) (λe f _ i n=>.aJ e (xu f) (i n.wK)) (λe f _ i n=>.az e (xu f) (i n.wL)) (λ_=>.nil) (λ_ _ a b n=>.cons (a n.un.1) (b n.un.2)) r
theorem bk.cM{h:Heap}(r:bk h ρ xs vs):fR l xs->bk h (ρ.cM l) xs vs:=
 bk.rec (motive_1:=λx v _=>eM l x->bj h (ρ.cM l) x v) (motive_2:=λxs vs _=>fR l xs->bk h (ρ.cM l) xs vs) (λ_=>.none) (λb _=>.bool b) (λi t _=>.int i t) (λs t _=>.str s t) (λv _=>.val v) (λe n=>.ae ((aF.qH _ n.F7).trans e)) (λe f _ i n=>.aJ e (xu f) (i n.wK)) (λe f _ i n=>.az e (xu f) (i n.wL)) (λ_=>.nil) (λ_ _ a b n=>.cons (a n.un.1) (b n.un.2)) r
theorem dN.cM(n:iP l=none):∀{es:List (Str×U)} {ds kh:List DictEntry},dN h' iP es kh->dN h ρ es ds->dN h (ρ.cM l) es ds:=λ{es} {ds} {kh} gV r=>
 dN.rec (motive:=λes ds _=>∀kh,dN h' iP es kh->dN h (ρ.cM l) es ds) (λ_ _=>.nil) (λa _ i kh q=>by cases q with|cons c d=>exact .cons (a.cM (c.no n)) (i _ d)) r kh gV
theorem cf.cM(n:iP l=none):∀{es:List (Str×U)} {ds kh:List (Str×Value)},cf h' iP es kh->cf h ρ es ds->cf h (ρ.cM l) es ds:=λ{es} {ds} {kh} gV r=>
 cf.rec (motive:=λes ds _=>∀kh,cf h' iP es kh->cf h (ρ.cM l) es ds) (λ_ _=>.nil) (λa _ i kh q=>by cases q with|cons c d=>exact .cons (a.cM (c.no n)) (i _ d)) r kh gV
theorem hU.cM(n:iP l=none)(gV:hU h' iP o a')(r:hU h ρ o a):hU h (ρ.cM l) o a:=by
 induction o with
 |list xs=>
  refine cQ r λvs k e r=>?_;refine cQ gV λ_ _ _ gV=>?_;exact⟨vs,k,e,r.cM (gV.no n)⟩
 |inst C d=>
  refine ao r λda e r=>?_;refine ao gV λ_ uS _=>?_;exact⟨da,(aF.qH _ (λq=>by rw[q,n]at uS;exact ag uS)).trans e,r⟩
 |dict es=>
  refine cQ r λds k e r=>?_;refine cQ gV λ_ _ _ gV=>?_;exact⟨ds,k,e,dN.cM n gV r⟩
 |map es=>
  refine cN r λds e r z=>?_;refine cN gV λ_ _ gV _=>?_;exact⟨ds,e,cf.cM n gV r,z⟩
 |cell x=>
  refine cV r λob u e c r=>?_;refine⟨ob,u,e,c,?_⟩;induction x with
  |none=>exact r
  |some x=>
   refine cps λG k=>?_;refine ao r λv e1 r=>?_;refine cV gV λ_ _ _ _ hh=>ao hh λ_ _ gV=>?_;refine k ?_;exact⟨v,e1,r.cM (gV.no n)⟩
theorem bu.cM{h cX:Heap}(AY:bu iP H cX)(n:iP l=none)(R:bu ρ (H.add l o) h):bu (ρ.cM l) H h:=by
 refine⟨R.bs,λk o' e=>?_,λk a e=>R.low k a (aF.nH e).1,λk a e=>R.live k a (aF.nH e).1,λk k' a e e'=>R.inj k k' a (aF.nH e).1 (aF.nH e').1,λk e=>?_,R.base,R.top⟩
 ·refine ao (AY.obj k o' e) λa' uS gV=>?_;have hk:k≠l:=λq=>by rw[q,n]at uS;exact ag uS
  refine ao (R.obj k o' ((AH.bZ _ _ hk).trans e)) λa e1 r=>?_;exact⟨a,(aF.qH _ hk).trans e1,hU.cM n gV r⟩
 ·by_cases q:k=l
  ·exact q▸aF.F6 ..
  ·rw[aF.qH _ q];exact R.new k ⟨e,q⟩
theorem bX.cM{X:Option Addr}(S:bX X iP cX ρ h)(n:iP l=none):bX X iP cX (ρ.cM l) h:=
 ⟨λk a e=>(aF.qH _ (λq=>by rw[q,n]at e;exact ag e)).trans (S.ext k a e),λk a e=>S.new k a (aF.nH e).1,S.keep,S.live⟩
set_option tactic.hygienic true
noncomputable abbrev aV.comp (scope cs:Scope)(pe:Env)(h1:relabel scope pe=cs)(h2:pe.globals=mainGlobals)(h3:pe.builtins=builtinsNs)(cm:List (Str×Loc)):aV:=
 ⟨cs,λL c=>compEnvC scope c L pe,cm,λ_ _=>⟨h1,rfl,h2,h3,rfl⟩⟩
section
variable{d:Nat}{f:aV}{m:Lo}{H:AH}
def RX(d:Nat)(f:aV)(m:Lo)(X:AH)(b:Bool):List Expr->Prop
 |[]=>b=true
 |[c]=>eS d f m X c λb' X'=>b'=b/\X'=X
 |_=>False
structure AZ(d:Nat)(f:aV)(m:Lo)(X:AH)(ifs:List Expr)(elt:Expr)(b:Bool)(r:U):Prop where
 ifs:RX d f m X b ifs
 elt:b=true->aW d f m X elt λz X'=>z=r/\X'=X
theorem RY:(H.add l o).set l o'=H.add l o':=by refine AH.eU (AH.bY ..) (λx h=>?_) λx=>agm;rw[AH.bZ _ _ h,AH.bZ _ _ h]
theorem fR.all:∀{xs:List U},(∀x∈xs,eM l x)->fR l xs
 |[],_=>.nil
 |x::r,h=>.cons (h x (.head _)) (fR.all λy hy=>h y (.tail _ hy))
def jV(H:AH)(aO:Loc)(xs:List U)(t:U->Bool)(g:U->U)(i:Nat):AH:=H.add aO (.list (((xs.take i).filter t).map g))
theorem kM.cell(g:kM A L it n ys G Ok)(l:Loc)(D:Addr):kM A L it n ys (λi ρ h=>G i ρ h/\ρ l=some D) Ok where
 at_:=λi ρ h q=>g.at_ i ρ h q.1
 step:=λi ρ h aj h' q fr ne S D=>⟨g.step i ρ h aj h' q.1 fr ne S D,S.ext _ _ q.2⟩
 item:=λi ρ H s Q E aY q I R k=>g.item i ρ H s Q E aY q.1 I R λh' tk v o' eb e' z=>k h' tk v o' eb e' λS D=>⟨⟨(z S D).1,q.2⟩,(z S D).2⟩
 last:=λρ H s Q E q=>g.last ρ H s Q E q.1
theorem St.only(X:St ρ H L ((x,v)::m) h):St ρ H L [(x,v)] h:=by
 refine ao X.fr λmm F M=>?_;refine⟨X.b5,⟨mm,F,λy av e=>M y av ?_⟩,X.free,X.cells⟩;rw[ml]at e ⊢;by_cases q:y=x
 ·rw[if_pos q]at e ⊢;exact e
 ·rw[if_neg q]at e;exact ag e
theorem eF.add(I:eF H v xs)(R:bu ρ H h)(n:H.new l):eF (H.add l o) v xs:=by
 induction I with
 |list e=>exact .list ((AH.bZ _ _ λq=>by(rw[q]at e;refine ao (R.obj _ _ e) λb e1 _=>?_;rw[R.new _ n]at e1;exact ag e1)).trans e)
 |az=>exact .az _
section
variable{A:Around}{bA ρ:aF}{s₁ s:Shared}{H₁:AH}{v:U}{a D C it:Addr}{elt iter:Expr}{x:Str}{px pos:Pos}{ifs:List Expr}{scope cs:Scope}{jm:List (Str×Loc)}{cl:List (Str×Addr)}{pe:Env}
theorem RZ(xs:List U)(t:U->Bool)(g:U->U)(aO:Loc)
  (I:eF H₁ v xs)(hn:H₁.new aO)(hs:xs.length<=1000000)
  (hq:∀y∈xs,∀acc,AZ d (aV.comp scope cs pe h1 h2 h3 jm) [(x,y)] (H₁.add aO (.list acc)) ifs elt (t y) (g y))
  (hk:cs.kind=.function)(hl:cs.names.lookup x=some .local)(ah:fg A d)(fM:bu bA H₁ s₁.heap)(K:r5 C it s₁.heap)
  (Y:mq (cm:=jm) ⟨C,cl⟩ it bA s₁ ρ (jV H₁ aO xs t g 0) m s)(g0:(bj s.heap ρ v (.ref a)/\s.heap.IsListIter it a 0)/\ρ aO=some D)
  (stop:∀ρ m bH,St ρ (jV H₁ aO xs t g xs.length) (cm:=jm) ⟨C,cl⟩ m bH.heap->bX (some C) bA s₁.heap ρ bH.heap->dS s₁ bH->ρ aO=some D->R (.ok .next) bH):
  codeAny (model cg wX) A (.compLoop (.ListComp elt [⟨.Name x px,iter,ifs,0⟩] scope pos) 0 (.ref it) (.ref D) (compEnvC scope cl C pe)) R s:=by
 have IG:=(kM.list (L:=C) (it:=it) (a:=a) (v:=v) (xs:=xs) ah.1).cell aO D;refine codeAny_compLoop_tests (LJ (cm:=jm) ⟨C,cl⟩ it bA s₁ xs.length (λi _ H=>H=jV H₁ aO xs t g i) (λi ρ h=>(bj h ρ v (.ref a)/\h.IsListIter it a i)/\ρ aO=some D)) (λk lJ hJ=>?_) xs.length (.mk (afO _) rfl Y g0);cases hJ with|mk hi hI Y gg=>
 subst hI;rename_i i jM qk;refine Fe (f:=aV.comp scope cs pe h1 h2 h3 jm) IG K fM Y hi gg (I.add fM hn) hk hl (λaY sD o5 A0=>?_) λe bH iR bQ de=>stop _ _ _ (e▸iR) bQ de gg.2;have ey:xs.getD i .none=xs[i]:=by rw[agD,afH aY];rfl
 replace o5:=ey▸o5;have A3:=o5.X.only;have ok:=hq xs[i] (ag8 aY) (((xs.take i).filter t).map g);have tk:=take_succ_filter t xs i xs[i] (afH aY);have fin:∀kU (iW:Shared) F8,St kU (jV H₁ aO xs t g (i+1)) (cm:=jm) ⟨C,cl⟩ F8 iW.heap->bz jM sD.heap kU iW.heap->dS sD iW->∃k,k<xs.length-i/\LJ (cm:=jm) ⟨C,cl⟩ it bA s₁ xs.length (λi _ H=>H=jV H₁ aO xs t g i) (λi ρ h=>(bj h ρ v (.ref a)/\h.IsListIter it a i)/\ρ aO=some D) k iW:=λkU iW F8 qI nI sF=>by refine ao (IG.at_ _ _ _ A0) λo e _=>?_;exact⟨_,agU aY (agf _),.mk aY rfl ⟨qI,o5.S.trans (.weak nI),o5.z.trans sF,nI.free o5.fr e⟩ (IG.step _ _ _ _ _ A0 o5.fr K.ne (.weak nI) o5.X.dict)⟩
 have yes:t xs[i]=true->∀(iW:Shared) kU (En:Value->Shared->Prop),St kU (jV H₁ aO xs t g i) (cm:=jm) ⟨C,cl⟩ [(x,xs[i])] iW.heap->bz jM sD.heap kU iW.heap->dS sD iW->
   wpAny (model cg wX) A (eval elt (compEnvC scope cl C pe)) (λx A4=>wpAny (model cg wX) A (call (.builtin "list.append") [.ref D,x]) (λ_ s'=>∃k,k<xs.length-i/\LJ (cm:=jm) ⟨C,cl⟩ it bA s₁ xs.length (λi _ H=>H=jV H₁ aO xs t g i) (λi ρ h=>(bj h ρ v (.ref a)/\h.IsListIter it a i)/\ρ aO=some D) k s') En A4) En iW:=by
  intro hb iW kU En qI nI sF;refine ok.elt hb A kU ⟨C,cl⟩ iW _ _ ah qI λz zv R3 afs A4 R4 F9 Ga R5 R6=>?_;refine aU R4 λjo bp=>?_;subst jo;subst bp;have Gb:=nI.trans Ga;refine Call.append (d:=d) (l:=aO) (x:=g xs[i]) (Q:=λ_ H'=>H'=jV H₁ aO xs t g (i+1)) (AH.bY ..) ?_ ?_ A R3 A4 _ _ _ ah F9 (.cons (.ae (Gb.ext _ _ A0.2)) (.cons R6 .nil)) λy yv R7 aft R8 R9 Sa Gd Sb afu=>?_
  ·rw[afA];exact ads (ahj ..) (ads (List.length_take_le' ..) hs)
  ·unfold jV;rw[RY,tk,if_pos hb,afR];rfl
  ·subst R9;exact fin R7 R8 _ ((qI.cj F9 Ga).cj Sa Gd) (Gb.trans Gd) ((sF.trans R5).trans Sb)
 have no:t xs[i]=false->jV H₁ aO xs t g i=jV H₁ aO xs t g (i+1):=λhb=>by unfold jV;rw[tk,hb,if_neg Bool.false_ne_true,afU]
 have A5:=ok.ifs;cases ifs with
 |nil=>
  refine wpAny_tests_nil ?_;rw[if_pos rfl];exact yes A5 sD jM _ A3 .refl .refl
 |cons c cr=>
  induction cr with
  |nil=>
   refine wpAny_tests_one (A5 A jM ⟨C,cl⟩ sD _ _ ah A3 λb kU afv iW Se Sf nI sF=>?_);refine aU Se λjo bp=>?_;subst jo;subst bp;have qI:St kU (jV H₁ aO xs t g i) (cm:=jm) ⟨C,cl⟩ [(x,xs[i])] iW.heap:=A3.cj Sf nI;cases hb:t xs[i]with
   |true=>rw[if_pos rfl];exact yes hb iW kU _ qI nI sF
   |false=>rw[if_neg Bool.false_ne_true];exact fin kU iW _ (no hb▸qI) nI sF
  |cons c2 cr=>exact A5.elim
theorem Ge{RR:Value->Addr->Result->Shared->Prop}
  (h1:relabel scope (f.env L)=cs)(hcl:∀ρ,mZ ρ f.cm L.cl->mZ ρ jm cl)
  (xs:List U)(t:U->Bool)(g:U->U)(aO:Loc)
  (I:eF H₁ v xs)(hn:H₁.new aO)(hs:xs.length<=1000000)(Sg:∀y∈xs,t y=true->eM aO (g y))
  (hq:∀y∈xs,∀acc,AZ d (aV.comp scope cs (f.env L) h1 (f.ok L.L L.cl).globals (f.ok L.L L.cl).builtins jm) [(x,y)] (H₁.add aO (.list acc)) ifs elt (t y) (g y))
  (jL:∀y∈scope.names,y.2≠.cell)(Gf:scope.kind=.function)(hx:scope.names.lookup x=some .local)
  (ah:fg A d)(X:St bA H₁ L m s₁.heap)(r:bj s₁.heap bA v (.ref a))
  (Sh:∀D C aj s' mC,hX.get? C=none->s₁.heap.get? C=none->s'.heap.Ns C mC->(∀l,aj l≠some C)->bu aj H₁ s'.heap->bz bA s₁.heap aj s'.heap->dS s₁ s'->(∃b o,hX.objs.size<=b+1/\b≠C/\s'.heap.get? b=some o)->
   bj s'.heap aj (.az ((xs.filter t).map g)) (.ref D)->RR (.ref D) C (.ok .next) s'):
  wpAny (model cg wX) A (pyIter (.ref a)) (λit bH=>wpAny (model cg wX) A (newList []) (λacc dW=>wpAny (model cg wX) A (newFunctionEnv scope (f.env L).globals cl [] (f.env L).qual none .none (some (f.env L))) (λGg lJ=>
   codeAny (model cg wX) A (.compStart (.ListComp elt [⟨.Name x px,iter,ifs,0⟩] scope pos) 0 it acc {Gg with scope:=relabel scope (f.env L)}) (RR acc Gg.locals) lJ) E dW) E bH) E' s₁:=by
 have R:=X.b5;refine ef (I.at R r) λa' vs n e' ho rl=>?_;cases e';refine wpAny_pyIter_list ho.isList ?_;refine wpAny_newObj_type (wpAny_newFunctionEnv jL (by intro y hy;simp at hy) (λo6 eE xw=>?_) Gf) (by show([]:List Value).toArray.size<=sizeLine;decide);dsimp only at eE xw ⊢;have Gh:(s₁.heap.push {cls:=.type "list_iterator",data:=.fields #[.ref a,.int 0 0]}).IsListIter s₁.heap.objs.size a 0:=⟨_,agd _ rfl,rfl,rfl⟩;have R1:=R.push {cls:=.type "list_iterator",data:=.fields #[.ref a,.int 0 0]};have S1:bz bA s₁.heap bA (s₁.heap.push {cls:=.type "list_iterator",data:=.fields #[.ref a,.int 0 0]}):=bz.push _;have nJ:(s₁.heap.push {cls:=.type "list_iterator",data:=.fields #[.ref a,.int 0 0]}).objs.size=s₁.heap.objs.size+1:=Heap.size_push ..;generalize s₁.heap.push {cls:=.type "list_iterator",data:=.fields #[.ref a,.int 0 0]}=g1 at eE xw R1 S1 nJ Gh ⊢;refine aU (R1.alloc (l:=aO) (ob:={cls:=.type "list",dict:=none,data:=.seq ([]:List Value).toArray}) (o:=.list []) hn rfl (λaj S' e=>⟨[],0,e,.nil⟩)) λR2 S2=>?_;have k2:∀b o,g1.get? b=some o->(g1.push {cls:=.type "list",dict:=none,data:=.seq ([]:List Value).toArray}).get? b=some o:=λb o e=>afQ _ e;have xx:(g1.push {cls:=.type "list",dict:=none,data:=.seq ([]:List Value).toArray}).objs.size=g1.objs.size+1:=Heap.size_push ..;generalize g1.push {cls:=.type "list",dict:=none,data:=.seq ([]:List Value).toArray}=g2 at eE xw R2 S2 xx k2 ⊢;have sC:=kJ g2;have out:∀b,s₁.heap.objs.size<=b->s₁.heap.get? b=none:=λb hb=>by
  cases q:s₁.heap.get? b with
  |none=>rfl
  |some o=>exact absurd (agp q) (ahx.mpr hb)
 have oC:s₁.heap.get? g2.objs.size=none:=out _ (by rw[xx,nJ];exact agH _ 2);have oI:=out _ (afD _);have k3:∀b o,g2.get? b=some o->o6.get? b=some o:=λb o e=>
  (xw.2 b λq=>by rw[q,sC]at e;exact ag e).trans (afQ _ e)
 have S3:bz bA s₁.heap (bA.add aO g1.objs.size) o6:=(S1.trans S2).trans (bz.keeps k3);have nt:bA aO=none:=R.new aO hn;have Si:∀l,bA.add aO g1.objs.size l≠some g2.objs.size:=λl e=>by refine aI (R2.live l _ e) λo q=>?_;rw[sC]at q;exact ag q
 have top:=R.top;have XC:St (bA.add aO g1.objs.size) (H₁.add aO (.list [])) (cm:=jm) ⟨g2.objs.size,cl⟩ [] o6:=
  ⟨R2.keeps k3,⟨_,⟨eE,(R2.keeps k3).base,cQ top λb o' q z=>ads q (by rw[xx,nJ];exact ads (agp z) (agH _ 2))⟩,λx av e=>by exact ag e⟩,Si,hcl _ (X.cells.ext S3)⟩
 have Gi:o6.IsListIter s₁.heap.objs.size a 0:=Gh.at λo e=>k3 _ _ (k2 _ _ e);have Sj:∀l,bA.add aO g1.objs.size l≠some s₁.heap.objs.size:=λl e=>by
  by_cases q:l=aO
  ·rw[q,aF.bY,nJ]at e;exact ahn _ (ack e)
  ·rw[aF.bZ _ _ q]at e;refine aI (R.live l _ e) λo q=>?_;rw[oI]at q;exact ag q
 have Gj:∀dW:Shared,dW.heap=o6->dS s₁ dW->codeAny (model cg wX) A (.compLoop (.ListComp elt [⟨.Name x px,iter,ifs,0⟩] scope pos) 0 (.ref s₁.heap.objs.size) (.ref g1.objs.size) (compEnvC scope cl g2.objs.size (f.env L))) (RR (.ref g1.objs.size) g2.objs.size) dW:=by
  intro dW e3 z3;subst e3;refine RZ (h1:=h1) (h2:=(f.ok L.L L.cl).globals) (h3:=(f.ok L.L L.cl).builtins) (jm:=jm) (s₁:=s₁) (m:=[]) xs t g aO I hn hs hq (h1▸Gf) (h1▸lookup_relabel_local hx) ah R ⟨oI,R.Ae oI,λe=>by rw[xx,nJ]at e;exact absurd e (agg (Nat.lt_succ_of_lt (agf _)))⟩
   ⟨XC,.weak S3,z3,Sj⟩ ⟨⟨r.step S3 .none,Gi⟩,aF.bY ..⟩ λjM qk bH iR bQ de eD=>?_
  have T':=bQ.fresh oC;have R':=iR.b5;unfold jV at R';rw[List.take_length]at R';refine ao iR.fr λmC FC _=>?_;refine ao (R'.obj aO _ (AH.bY ..)) λbD Gk hh=>cQ hh λvsD nD Sl Sn=>?_;rw[eD]at Gk;obtain rfl:=ack Gk;refine Sh g1.objs.size g2.objs.size (jM.cM aO) bH mC (R.Ae oC) oC FC.ns (λl e=>iR.free l (aF.nH e).1) (bu.cM R nt R') (T'.cM nt) de (R.Af T' oC) (.az Sl (λl e=>?_) (Sn.cM (fR.all λz hz=>?_)))
  ·refine aU (aF.nH e) λe1 ne=>?_;exact ne (R'.inj _ _ _ e1 eD)
  ·refine ao (af7.mp hz) λy hy aP=>?_;subst aP;refine aU (List.mem_filter.mp hy) λh1 h2=>?_;exact Sg y h1 h2
 exact codeAny_compStart_list (Gj _ rfl ⟨rfl,rfl⟩) (wpAny_pyIter_listiter (by exact Gi) (Gj _ rfl ⟨rfl,rfl⟩))
end
end
set_option tactic.hygienic false
noncomputable def o7 (cl:List (Str×Addr)):List (Str×NameKind)->List (Str×Addr)->List (Str×Addr)
 |[],acc=>acc
 |y::r,acc=>o7 cl r (if y.2==.free then(y.1,(cl.lookup y.1).getD 0)::acc else acc)
def uT(cm:List (Str×Loc))(names:List (Str×NameKind)):List (Str×Loc):=names.filterMap λy=>if y.2==.free then(cm.lookup y.1).map λl=>(y.1,l)else none
noncomputable def A6 (cm:List (Str×Loc))(names:List (Str×NameKind)):Bool:=names.all λy=>y.2 !=.free||(cm.lookup y.1).isSome
def uU(f:aV)(scope:Scope):Scope:={scope with names:=scope.names.map λ(n,k)=>if(k==.free&&f.cs.kind==.function&&f.kind n==some .cell)then(n,.cell)else(n,k)}
theorem A7:relabel scope (f.env L)=uU f scope:=by delta relabel uU;rw[(f.ok L.L L.cl).scope];have:∀n,(f.env L).kindOf n=f.kind n:=λn=>aV.kindOf rfl;simp only[this]
theorem Gl:∀{names:List (Str×NameKind)} {acc:List (Str×Addr)},(∀y∈names,y.2=.free->∃c,env.cells.lookup y.1=some c)->
  (forIn names acc λ(x:Str×NameKind) (r:List (Str×Addr))=>if x.2==NameKind.free then do let a<-cellOf env x.1;pure (ForInStep.yield ((x.1,a)::r))else pure (ForInStep.yield r):Sem (List (Str×Addr)))=pure (o7 env.cells names acc)
 |[],acc,_=>rfl
 |(n,k)::r,acc,h=>by
  rw[List.forIn_cons];rewrite [o7];have ih:=λacc=>Gl (names:=r) (acc:=acc) λy hy=>h y (.tail _ hy);by_cases q:k=.free
  ·subst q;obtain⟨c,e⟩:=h _ (.head _) rfl;have e':cellOf env n=pure c:=by unfold cellOf;rw[e]
   have e2:(env.cells.lookup n).getD 0=c:=by rw[e];rfl
   have e3:((NameKind.free==NameKind.free)=true):=rfl;simp only[e',e2,if_pos e3,LawfulMonad.pure_bind];exact ih _
  ·have e3:¬((k==NameKind.free)=true):=by simpa using q
   simp only[if_neg e3,LawfulMonad.pure_bind];exact ih _
theorem So(h:∀y∈scope.names,y.2=.free->∃c,env.cells.lookup y.1=some c):closureFor scope env=pure (o7 env.cells scope.names []):=by
 have:=Gl (acc:=[]) h;unfold closureFor;simp only[]at this ⊢;show(do let r<-forIn scope.names [] _;pure r)=_;have e:(λ(x:Str×NameKind) (r:List (Str×Addr))=>if x.2==NameKind.free then(do let a<-cellOf env x.1;pure (ForInStep.yield ((x.1,a)::r)):Sem _)else pure (ForInStep.yield r))=
   λx r=>match x with|(name,kind)=>if kind==NameKind.free then(do let a<-cellOf env name;pure PUnit.unit;pure (ForInStep.yield ((name,a)::r)):Sem _)else(do pure PUnit.unit;pure (ForInStep.yield r)):=by
  funext x r;rfl
 rw[e]at this
 first|exact this|(rw[bind_pure];exact this)|(simp only[bind_pure];exact this)
theorem Gm:∀{names:List (Str×NameKind)} {acc:List (Str×Addr)},((x,NameKind.free)∈names\/acc.lookup x=some ((cl.lookup x).getD 0))->(o7 cl names acc).lookup x=some ((cl.lookup x).getD 0)
 |[],acc,h=>by
  rcases h with h|h
  ·cases h
  ·exact h
 |(n,k)::r,acc,h=>by
  rewrite [o7];refine Gm ?_;rcases h with h|h
  ·cases h with
   |head=>
    right;simp
   |tail _ h=>exact .inl h
  ·right;by_cases q:(k==NameKind.free)=true
   ·rw[if_pos q,afP];cases z:x==n with
    |true=>rw[afI.mp z]
    |false=>exact h
   ·rw[if_neg q];exact h
theorem Sp(h:(uT cm names).lookup x=some l):(x,NameKind.free)∈names/\cm.lookup x=some l:=by
 have h1:(x,l)∈uT cm names:=by
  generalize uT cm names=c at h;induction c with
  |nil=>exact ag h
  |cons p r ih=>
   obtain⟨a,b⟩:=p;rw[afP]at h;cases z:x==a with
   |true=>rw[z]at h;apply sE h;rw[afI.mp z];exact .head _
   |false=>rw[z]at h;exact .tail _ (ih h)
 refine ao (List.mem_filterMap.mp h1) λy hy e=>?_;by_cases q:(y.2==NameKind.free)=true
 ·rw[if_pos q]at e;refine ao (age.mp e) λl' e1 e2=>?_;cases e2;have:y=(y.1,NameKind.free):=by rw[<-afI.mp q]
  exact⟨this▸hy,e1⟩
 ·rw[if_neg q]at e;exact ag e
theorem Gn{f:aV}{L:gA f.cm}(hf:A6 f.cm scope.names=true)(C:mZ ρ f.cm L.cl):
  closureFor scope (f.env L)=pure (o7 L.cl scope.names [])/\∀ρ,mZ ρ f.cm L.cl->mZ ρ (uT f.cm scope.names) (o7 L.cl scope.names []):=by
 have ec:=(f.ok L.L L.cl).cells;constructor
 ·have:=So (env:=f.env L) (scope:=scope) λy hy e=>by have h1:=afF.mp hf y hy;replace h1:=e▸h1;refine aI (Option.isSome_iff_exists.mp (show(f.cm.lookup y.1).isSome=true from h1)) λl e1=>?_;refine ao (C _ _ e1) λc e2 _=>?_;exact⟨c,by rw[ec];exact e2⟩
  rw[ec]at this;exact this
 ·intro aj C' x l e;refine aU (Sp e) λh1 h2=>?_;refine ao (C' x l h2) λc e1 e2=>?_;exact⟨c,by rw[Gm (.inl h1),e1];rfl,e2⟩
noncomputable def xy (s:Scope)(x:Str):Bool:=decide (s.kind=.function)&&s.names.all (λy=>decide (y.2≠.cell))&&(s.names.lookup x==some .local)&&s.names.all λy=>y.2 !=.local||s.names.lookup y.1==some .local
theorem Gp(h:xy s x=true):s.kind=.function/\(∀y∈s.names,y.2≠.cell)/\s.names.lookup x=some .local/\∀y∈s.names,y.2=.local->s.names.lookup y.1=some .local:=by
 unfold xy at h;rw[afz,afz,afz,af5,afI]at h;exact⟨h.1.1.1,λy hy=>af4 (afF.mp h.1.1.2 y hy),h.1.2,λy hy e=>by
  have:=afF.mp h.2 y hy;rw[e]at this;simpa using this⟩
section
variable{d:Nat}{f:aV}{m:Lo}{H:AH}
structure Gq(d:Nat)(f:aV)(scope cs:Scope)(fN:uU f scope=cs)(x:Str)(aO:Loc)(ifs:List Expr)(elt:Expr)(v:U)(H₁:AH)(t:U->Bool)(g:U->U)(xs:List U):Prop where
 items:eF H₁ v xs
 new:H₁.new aO
 len:xs.length<=1000000
 no:∀y∈xs,t y=true->eM aO (g y)
 ok:∀(L:gA f.cm) (y:U),y∈xs->∀acc,AZ d (aV.comp scope cs (f.env L) (A7.trans fN) (f.ok L.L L.cl).globals (f.ok L.L L.cl).builtins (uT f.cm scope.names)) [(x,y)] (H₁.add aO (.list acc)) ifs elt (t y) (g y)
theorem Ev.uV{elt iter:Expr}{x:Str}(fN:uU f scope=cs)(aO:Loc)(t:U->Bool)(g:U->U)
  (h:aW d f m H iter λv H₁=>∃xs,Gq d f scope cs fN x aO ifs elt v H₁ t g xs/\Q (.az ((xs.filter t).map g)) H₁)
  (hf:A6 f.cm scope.names=true)(A8:xy scope x=true)(hs:qf iter=true):aW d f m H (.ListComp elt [⟨.Name x px,iter,ifs,0⟩] scope pos) Q:=
 fu (Gp A8) λhk jL hx A9=>
 λA ρ L s Qc E ah X p=>by
  rw[eval_ListComp];refine aU (Gn (L:=L) hf X.cells) λhcl Ba=>?_;refine wpAny_comprehension_free (use:=Option.none) (e:=.ListComp elt [⟨.Name x px,iter,ifs,0⟩] scope pos) (g:=⟨.Name x px,iter,ifs,0⟩) (gs:=[]) rfl (λ_=>zT hs) hcl hk A9 (h A ρ L s _ E ah X λv u bA H₁ s₁ q R S z r=>?_);refine ao q λxs C q=>?_;have hu:∃a,u=.ref a:=by refine jd (C.items.at R r) λa _ _ e _=>?_;exact⟨a,e⟩
  refine aI hu λa bp=>?_;subst bp;refine Ge (RR:=λacc C=>compPost (model cg wX) A E Option.none Qc acc C) (A7.trans fN) Ba xs t g aO C.items C.new C.len C.no (λy hy acc=>C.ok L y hy acc) jL hk hx ah (X.cj R S) r ?_;intro D C' aj s' mC Bb xA eE xB R' S' z' top r';refine ef (id eE) λo es ep e1 e2 e3=>?_;refine⟨mC,eE,λh' sb=>?_⟩;have uW:∀xs n,o.data≠.seq xs n:=λxs n q=>by replace q:=e2▸q;cases q
  have Bc:=R'.last e1 uW xB Bb sb.extBut top;have ql:bz bA s₁.heap aj h':=S'.last xA sb.extBut;exact p _ _ aj H₁ {s' with heap:=h'} q Bc (S.trans ql) (z.trans ⟨z'.gens,z'.os⟩) (r'.dy (hV.ue sb.extBut) (DictAt.of e1 uW))
theorem Ex.Be{elt iter:Expr}{x y:Str}(fN:uU f scope=cs)(aO:Loc)(t:U->Bool)(g:U->U)(xC:fh f y .local)
  (h:aW d f m H iter λv H₁=>∃xs,Gq d f scope cs fN x aO ifs elt v H₁ t g xs/\Q .next ((y,.az ((xs.filter t).map g))::m) H₁)
  (Sq:(py.line==pos.line&&!(scope.names.any λ(n,k)=>n==y&&(k==.local||k==.cell)))=true)
  (hf:A6 f.cm scope.names=true)(A8:xy scope x=true)(hs:qf iter=true):dD d f m H (.Assign [.Name y py] (.ListComp elt [⟨.Name x px,iter,ifs,0⟩] scope pos) rV) Q:=
 fu (Gp A8) λhk jL hx A9=>
 λA ρ L s Qc E ah X p=>by
  have e0:swapsWith (.ListComp elt [⟨.Name x px,iter,ifs,0⟩] scope pos) (some (.Name y py)) rV.line (f.env L)=pure true:=by
   have e1:((f.env L).blockKind==ScopeKind.function)=true:=by unfold Env.blockKind;rw[f.lA xC.fn];rfl
   have e2:((f.env L).kindOf y==some NameKind.local)=true:=by rw[aV.kindOf xC.kind];rfl
   show(pure ((f.env L).blockKind==ScopeKind.function&&(f.env L).kindOf y==some NameKind.local&&py.line==pos.line&&!(scope.names.any λ(n,k)=>n==y&&(k==.local||k==.cell))):Sem Bool)=pure true;rw[e1,e2,agR,agR,Sq]
  rw[exec_Assign_Name_used _ _ _ _ e0];refine afS (ahq (afS ?_));show wpAny _ A (do let _<-comprehension (.ListComp elt [⟨.Name x px,iter,ifs,0⟩] scope pos) scope (f.env L) _ (newList []) false (eval iter (f.env L)) (some (PySem.assign (.Name y py) (f.env L)))) _ _ s;refine aU (Gn (L:=L) hf X.cells) λhcl Ba=>?_;refine afS (ahv (wpAny_comprehension_free (use:=some (PySem.assign (.Name y py) (f.env L))) (Q:=λ_ s'=>Qc .next s') (e:=.ListComp elt [⟨.Name x px,iter,ifs,0⟩] scope pos) (g:=⟨.Name x px,iter,ifs,0⟩) (gs:=[]) rfl (λ_=>zT hs) hcl hk A9 (h A ρ L s _ E ah X λv u bA H₁ s₁ q R S z r=>?_)) (λ_ s' hq=>af3 (af3 hq)) λ_ _ e=>e);refine ao q λxs C q=>?_;have hu:∃a,u=.ref a:=by refine jd (C.items.at R r) λa _ _ e _=>?_;exact⟨a,e⟩
  refine aI hu λa bp=>?_;subst bp;refine Ge (RR:=λacc C=>compPost (model cg wX) A E (some (PySem.assign (.Name y py) (f.env L))) (λ_ s'=>Qc .next s') acc C) (A7.trans fN) Ba xs t g aO C.items C.new C.len C.no (λy hy acc=>C.ok L y hy acc) jL hk hx ah (X.cj R S) r ?_;intro D C' aj s' mC Bb xA eE xB R' S' z' top r';have X':=(X.cj R S).cj R' S';have Gr:L.L≠C':=by refine ao ((X.cj R S).fr) λm' F M=>?_;refine jd F.ns λo _ _ ho _=>?_;intro q;rw[q,xA]at ho;exact ag ho
  show wpAny _ A (PySem.assign (.Name y py) (f.env L) (.ref D)) _ _ _;rw[arm_assign_Name];refine afS (ahq (ahw (qh X' r' (λdW je eh fY=>?_) xC.fn xC.kind)));refine ef (id eE) λo es ep e1 e2 e3=>?_;have uW:∀xs n,o.data≠.seq xs n:=λxs n q=>by replace q:=e2▸q;exact nomatch q
  have Bf:dW.heap.get? C'=some o:=eh.keep _ _ e1 xB (λq=>Gr (ack q));refine⟨mC,⟨o,es,ep,Bf,e2,e3⟩,λh' sb=>?_⟩;have Sr:∃b o,hX.objs.size<=b+1/\b≠C'/\dW.heap.get? b=some o:=by refine cV top λb o' q1 q2 e=>?_;refine aI (eh.live b o' e) λng e'=>?_;exact⟨b,ng,q1,q2,e'⟩
  have Bc:=je.b5.last Bf uW xB Bb sb.extBut Sr;have uA:=je.oK (Ne.symm Gr) Bc (hV.ue sb.extBut) (DictAt.of Bf uW);have ql:bX (some L.L) bA s₁.heap aj h':=((bX.weak S').trans eh).last xA sb.extBut;exact p _ _ aj _ H₁ {dW with heap:=h'} q uA ((bX.weak S).trans ql) (z.trans ⟨fY.gens.trans z'.gens,fY.os.trans z'.os⟩) .next
end
set_option tactic.hygienic true
section
variable{d:Nat}{f:aV}{m:Lo}{H:AH}
theorem Ex.sG(h:aW d f m H e λv H'=>Q .next m H')
  (hi:f.isFn=true:=by with_unfolding_all exact rfl)(hs:kb e=true:=by with_unfolding_all exact rfl):dD d f m H (.Expr e pos) Q:=
 λA ρ L s Qc E ah X p=>wpAny_Expr_any (h A ρ L s _ E ah X λy v aj H' s' q R S z r=>p _ _ aj _ H' s' q (X.cj R S) (.weak S) z .next) (f.ON hi) (qg hs)
mutual
inductive fS (X:AH):U->PyData->Prop
 |none:fS X .none .none
 |bool (b:Bool):fS X (.bool b) (.bool b)
 |int (i:Int):fS X (.int i) (.int i)
 |str (x:Str):fS X (.str x) (.str x)
 |aJ {xs:List U} {ds:List PyData} (h:gW X xs ds):fS X (.aJ xs) (.tuple ds)
 |az {xs:List U} {ds:List PyData} (h:gW X xs ds):fS X (.az xs) (.list ds)
 |ae {l:Loc} {xs:List U} {ds:List PyData} (e:X.get l=some (.list xs)) (h:gW X xs ds):fS X (.ae l) (.list ds)
inductive gW (X:AH):List U->List PyData->Prop
 |nil:gW X [] []
 |cons {x:U} {d:PyData} {xs:List U} {ds:List PyData} (a:fS X x d) (b:gW X xs ds):gW X (x::xs) (d::ds)
end
theorem fS.reads(R:bu ρ X h){d:PyData}(D:fS X x d)(r:bj h ρ x v):∃as,Reads h v d as:=
 fS.rec (motive_1:=λx d _=>∀v,bj h ρ x v->∃as,Reads h v d as) (motive_2:=λxs ds _=>∀vs,bk h ρ xs vs->∃as,ReadsAll h vs ds as) (λv r=>by rw[r.OD];exact⟨_,.none⟩) (λb v r=>by rw[r.EV];exact⟨_,.bool b⟩) (λi v r=>by refine aI r.zP λt bp=>?_;subst bp;exact⟨_,.int i t⟩) (λx v r=>by refine aI r.zO λt bp=>?_;subst bp;exact⟨_,.str x t⟩)
  (λ_ ih v r=>by refine ef r.wK λvs a n bK e rl=>?_;subst bK;refine aI (ih vs rl) λas q=>?_;exact⟨as,.tuple e rfl rfl q⟩) (λ_ ih v r=>by refine ef r.wL λvs a n bK e rl=>?_;subst bK;refine aI (ih vs rl) λas q=>?_;exact⟨_,.list e rfl rfl q⟩)
  (λe _ ih v r=>by refine kI (R.list e r) λb vs n bK _ ho rl _=>?_;subst bK;refine aI (ih vs rl) λas q=>?_;exact⟨_,.list ho rfl rfl q⟩) (λvs r=>by rw[r.qd];exact⟨_,.nil⟩) (λ_ _ i j vs r=>by refine cV r.un λv ws aP a b=>?_;subst aP;refine aI (i v a) λas q=>?_;refine aI (j ws b) λbs q'=>?_;exact⟨_,.cons q q'⟩) D v r
theorem Op.Gs(hx:fS H x da)(hy:fS H y db)(ca:da.canLay0=true)(cb:db.canLay0=true)(hd:min da.depth db.depth<=10*d+90)(q:Q (.bool (PyData.eqv da db)) H):
  bC d (compareOp .Eq) x y H Q:=
 λA ρ s a b Qc E ah R r r' p=>by refine aI (hx.reads R r) λas ra=>?_;refine aI (hy.reads R r') λbs rb=>?_;refine SeqAt.compareEq_reads ra rb ca cb ?_ (p.here q R (.bool _));have:=ah.2.2;show _<9900;lia
theorem Op.Bg(hx:fS H x da)(hy:fS H y db)(ca:da.canLay0=true)(cb:db.canLay0=true)(hd:min da.depth db.depth<=10*d+90)(q:Q (.bool (!PyData.eqv da db)) H):
  bC d (compareOp .NotEq) x y H Q:=
 λA ρ s a b Qc E ah R r r' p=>by refine aI (hx.reads R r) λas ra=>?_;refine aI (hy.reads R r') λbs rb=>?_;refine SeqAt.compareNe_reads ra rb ca cb ?_ (p.here q R (.bool _));have:=ah.2.2;show _<9900;lia
theorem bk.Ss:∀{bs:List Bool} {vs:List Value},bk h ρ (bs.map U.bool) vs->vs=bs.map Value.bool:=λ{bs}=>by
 induction bs with
 |nil=>exact λr=>r.qd
 |cons b r ih=>
  intro vs q;refine cV q.un λv ws aP a t=>?_;subst aP;rw[a.EV,ih t];rfl
theorem Call.all{bs:List Bool}(q:Q (.bool (bs.all id)) H):ba d (.builtin "all") [.az (bs.map .bool)] H Q:=
 λA ρ s vs Qc E ah R rv p=>by
  refine ao rv.one λv bp r=>?_;subst bp;refine r.k λ_ _ _ e f rl=>?_;rename_i us a n;have:=rl.Ss;subst this;have hl:s.heap.IsList a (bs.map Value.bool).toArray:=⟨_,e,rfl,_,rfl⟩;refine call_all_walk (wpAny_pyIter_list hl ?_);have lP:=kJ s.heap;have hne:a≠s.heap.objs.size:=λq=>by rw[q,lP]at e;exact ag e
  refine⟨s.heap.objs.size,_,_,_,_,_,λi=>bs.getD i true,rfl,Walks.list (A:=A.in1) (show A.in1.handled=Option.none from ah.1) s.heap.objs.size a hne (bs.map Value.bool).toArray,⟨⟨_,agd _ rfl,rfl,rfl⟩,⟨_,afQ _ e,rfl,_,rfl⟩⟩,?_,λh' tk k=>?_⟩
  ·intro i v s' Q' E' hv hq;have uX:(bs.map Value.bool)[i]?=some v:=by simpa using hv
   rw[afX]at uX;refine ao (age.mp uX) λb e1 aP=>?_;subst aP;refine wpAny_truthy_bool ?_;have:bs.getD i true=b:=by rw[agD,e1];rfl
   exact this▸hq
  ·have k':∀b o,s.heap.get? b=some o->h'.get? b=some o:=λb o e'=>k b o (by
    have hb:b≠s.heap.objs.size:=λq=>by rw[q,lP]at e';exact ag e'
    simpa using hb) (Heap.get?_push_of_some _ e')
   have hb:((List.range (bs.map Value.bool).toArray.size).all λi=>bs.getD i true)=bs.all id:=by
    rw[afT,afA];rw[Bool.eq_iff_iff,afF,afF];constructor
    ·intro h x hx;obtain⟨i,hi,rfl⟩:=List.getElem_of_mem hx;have:=h i (ahy.mpr hi);rw[agD,afH hi]at this;exact this
    ·intro h i hi;have jH:=ahy.mp hi;rw[agD,afH jH];exact h _ (ag8 jH)
   exact hb▸p (.bool _) _ ρ H {s with heap:=h',toks:=tk} q (R.keeps k') (bz.keeps k') ⟨rfl,rfl⟩ (.bool _)
theorem Gu:∀(tk:Nat) (xs:List Str),bk h ρ (xs.map U.str) (strsFrom tk xs)
 |_,[]=>.nil
 |tk,x::r=>.cons (.str _ _) (Gu (tk+1) r)
theorem Call.split(hx:x.length<=1000000)(hn:(Builtin.Str.spaceWords x (x.length+1)).length<=1000000)(h1:(Builtin.Str.spaceWords x (x.length+1)==[(0,x.length)])=false)(q:Q (.az ((PySem.wordsOf x).map .str)) H):
  ba d (.builtin "str.split") [.str x] H Q:=
 λA ρ s vs Qc E ah R rv p=>by
  refine ao rv.one λv bp r=>?_;subst bp;refine r.k λt=>?_;refine call_meets F.slot_str_split (typeIs_str _ _ _) F.entry_str_split (F.args_str_split_1 _) (meets_str_split_space x t (by rw[agW];exact ads ‹_› (by decide)) (by rw[agW];exact ads ‹_› (by decide))) ?_;rw[h1,if_neg (by decide)];have k:∀b o,s.heap.get? b=some o->(s.heap.push {cls:=.type "list",data:=.seq (strsFrom s.toks (PySem.wordsOf x)).toArray}).get? b=some o:=λb o e=>afQ _ e;exact p (.az _) _ ρ H {s with toks:=_,heap:=s.heap.push {cls:=.type "list",data:=.seq (strsFrom s.toks (PySem.wordsOf x)).toArray}} q (R.keeps k) (bz.keeps k) ⟨rfl,rfl⟩
   (.az (n:=0) (agd _ rfl) R.lz (Gu _ _))
theorem Call.Su{i:Nat}(hi:i<=1000000)(q:Q (.str (Str.ofString (toString (i:Int)))) H):ba d (.type "str") [.int i] H Q:=
 λA ρ s vs Qc E ah R rv p=>by refine ao rv.one λv bp r=>?_;subst bp;refine r.k λt=>?_;exact str_of_int_fit (N:=4611686018427387904) (by split<;>lia) (by decide) λ_=>p.toks q R (.str _ _)
theorem bk.Sv:∀{ss:List Str} {vs:List Value},bk h ρ (ss.map U.str) vs->∀i (hi:i<vs.length),∃t,vs[i]?=(ss[i]?).map λk=>.str k t:=λ{ss}=>by
 induction ss with
 |nil=>exact λr=>by rw[r.qd];exact λi hi=>absurd hi (Nat.not_lt_zero _)
 |cons k r ih=>
  intro vs q;refine cV q.un λv ws aP a b=>?_;subst aP;refine aI a.zO λt bp=>?_;subst bp;exact λi=>Nat.casesOn i (λ_=>⟨t,rfl⟩) λi hi=>ih b i (Nat.lt_of_succ_lt_succ hi)
theorem Call.Sw{ss:List Str}(I:eF H x (ss.map U.str))(hs:ss.length<=1000000)(hk:k∈ss)(q:Q (.int (ss.idxOf k:Nat)) H):
  ba d (.builtin "list.index") [x,.str k] H Q:=
 λA ρ s vs Qc E ah R rv p=>by
  refine cV rv.nq λ_ kv aP r1 rk=>?_;subst aP;refine ef (I.at R r1) λa us n bK ho rl=>?_;subst bK;have le:=rl.length;rw[afA]at le;refine rk.k λt=>?_;refine aU (rl.strs (k:=k)) λh1 _=>?_;have h2:=rl.Sv;have hj:ss.idxOf k<ss.length:=List.idxOf_lt_length_of_mem hk;have at_:∀i (hi:i<us.toArray.size),r8 k us.toArray[i]=(ss[i]'(by rw[afT,<-le]at hi;exact hi)==k):=λi hi=>by
   have jH:i<us.length:=by exact hi
   refine aI (h2 i jH) λt' q'=>?_;have hn:i<ss.length:=by exact le▸jH
   rw[afH jH,afH hn,Option.map_some,Option.some.injEq]at q';rw[List.getElem_toArray,q'];rfl
  refine call_meets PySem.F.slot_list_index ⟨_,ho,rfl⟩ PySem.F.entry_list_index (PySem.F.args_list_index_2 _ _) (SeqAt.list_indexAt a us.toArray n .none #[] (.str k t) (r8 k) (ss.idxOf k) (by rw[afT,<-le];exact hj) (by lia) ?_ ?_) ⟨ho,λy hy=>?_,?_⟩
  ·rw[at_ _ (by rw[afT,<-le];exact hj),List.getElem_idxOf hj];simp
  ·intro i hi aY;rw[at_ i hi];have:=List.not_of_lt_findIdx (p:=(·==k)) (xs:=ss) (i:=i) (by simpa[List.idxOf]using aY);exact this
  ·refine fX (h1 y (by simpa using hy)) λi u aP=>?_;subst aP;exact wY
  ·exact p.toks q R (.int _ _)
theorem Sx(items:Array Value)(a b:Nat):slicePick items (some (a:Int)) (some (b:Int)) none=((items.toList.drop a).take (b-a)).toArray:=by
 rw[slicePick_plain];simp only[Option.elim,clipAt_nat];congr 1;rw[<-Array.length_toList];by_cases h1:a<=items.toList.length
 ·rw[Nat.min_eq_left h1,<-Nat.sub_min_sub_right,<-ahl,<-List.take_eq_take_min]
 ·have h:=Nat.le_of_not_le h1;rw[Nat.min_eq_right h,ahh h,ahh (afD _),List.take_nil,List.take_nil]
theorem Ev.Sz{value lo hi:Expr}
  (h:aW d f m H value λx H₁=>aW d f m H₁ lo λy bS=>aW d f m bS hi λz hZ=>∃xs i j,eF hZ x xs/\y=.int (i:Nat)/\z=.int (j:Nat)/\xs.length<=1000000/\Q (.az ((xs.drop i).take (j-i))) hZ):
  aW d f m H (.Subscript value (.Slice (some lo) (some hi) .none sp) pos) Q:=
 λA ρ L s Qc E ah X p=>Subscript_ (h A ρ L s _ E ah X λx v bA H₁ s₁ q R S z r=>wpAny_Slice (q A bA L s₁ _ E ah (X.cj R S) λy u dB bS bH dG cW bQ de fj=>
  dG A dB L bH _ E ah ((X.cj R S).cj cW bQ) λEY afw lD hZ dW jJ mi eh fY oM=>by
  refine cps λG k=>?_;obtain⟨xs,i,j,I,rfl,rfl,hs,jJ⟩:=jJ;have fj:=fj.step eh .none;refine k ?_;refine fj.k λt=>?_;refine oM.k λt'=>?_;refine af3 ?_;exact Op.slice (lo:=some (i:Int)) (hi:=some (j:Int)) I hs (.int _ _) (.int _ _) (λvs e=>⟨i,j-i,Sx _ i j,rfl⟩) ⟨_,_,_,rfl⟩ mi (r.step (bQ.trans eh) .none) (p.after (S.trans (bQ.trans eh)) (z.trans (de.trans fY))) jJ))
theorem Ev.SE
  (h:aW d f m H value λx H₁=>aW d f m H₁ hi λy bS=>∃l xs i,eF bS x xs/\y=.int (i:Nat)/\xs.length<=1000000/\bS.new l/\Q (.ae l) (bS.add l (.list (xs.take i)))):aW d f m H (.Subscript value (.Slice .none (some hi) .none sp) pos) Q:=
 λA ρ L s Qc E ah X p=>Subscript_ (h A ρ L s _ E ah X λx v bA H₁ s₁ q R S z r=>by
  refine wpAny_Slice (af3 ?_);refine q A bA L s₁ _ E ah (X.cj R S) λy u dB bS bH dG cW bQ de fj=>?_;refine cps λG k=>?_;obtain⟨l,xs,i,I,rfl,hs,hn,dG⟩:=dG;refine k ?_;refine fj.k λt=>?_;refine af3 ?_;refine cps λG k=>?_;have r':=r.step bQ .none;obtain⟨a,us,n,rfl,ho,rl⟩:=I.at cW r';have le:=rl.length;have nu:IsL (bH.heap.push {cls:=.type "slice",data:=.fields #[.none,.int i t,.none]}) a us.toArray n:=afQ _ ho;refine k ?_;refine tail_any (T:="list") (s:={bH with heap:=bH.heap.push {cls:=.type "slice",data:=.fields #[.none,.int i t,.none]}}) ⟨_,nu,rfl⟩ list_getitem_lookup (wpAny_getItem_list_slice nu.isList (Heap.IsSliceOf.new ..) (lo:=.none) (hi:=some (i:Int)) .none (.int _ _) .none (by decide) ?_ (by rw[afT,<-le,agW];exact ads ‹_› (by decide))) rfl;rw[slicePick_upto'];have S1:bz dB bH.heap dB (bH.heap.push {cls:=.type "slice",data:=.fields #[.none,.int i t,.none]}):=bz.push _;have R1:=cW.push {cls:=.type "slice",data:=.fields #[.none,.int i t,.none]};exact(((p.after S z).after bQ de).after (s':={bH with heap:=bH.heap.push {cls:=.type "slice",data:=.fields #[.none,.int i t,.none]}}) S1 ⟨rfl,rfl⟩).alloc (ob:={cls:=.type "list",data:=.seq (us.take i).toArray}) (o:=.list (xs.take i)) R1 hn rfl
   (λaj S' e=>⟨us.take i,0,e,((rl.take i).step S1 .none).step S' .none⟩) dG)
end
section
variable{d:Nat}{f:aV}{m:Lo}{H:AH}
theorem Call.SG{names:List Str}(fK:Lo)(jW jX:Str)(gv gX:Loc)
  (ho:kX.lookup fa=some ⟨oc,od,.func (docDef name params body scope pm d6 doc),z6⟩)(nh:codeIn kX d6 name=true)
  (hbind:∀(vs:List Value),vs.length=args.length->bindArgs (docDef name params body scope pm d6 doc) ⟨vs,[]⟩=pure (names.zip vs))
  (hloc:∀x∈names,eK scope.names x .local)(fN:∀L,cellsFrom (L+1) scope.names []=[(jX,L+1+1),(jW,L+1)])(hx:(jW==jX)=false)(iB:fK=(names.zip args).reverse)(xD:H.new gv)(xE:H.new gX)(hne:gX≠gv)
  (h:bR d (.fn name scope fa d6 [(jX,gX),(jW,gv)]) fK ((H.add gv (.cell none)).add gX (.cell none)) body (λfl _ H'=>∃br,AH.Le H' br/\Q fl.val br))
  (hs:qm scope=true:=by kernel_rfl):ba (d+1) (.ref fa) args H Q:=
 dR (Ar hs) λni nj hk=>
 λA ρ s vs Qc E ah R rv p=>by
  subst iB;refine wpAny_call ?_;have KX:=R.lF;refine aU (uk ah (envOfC name scope s.heap.objs.size fa d6)) λnk lI=>?_;have rb:=cf.zip names rv;have qx:∀p∈names.zip vs,scope.names.lookup p.1=some .local:=λy hy=>(hloc y.1 (List.of_mem_zip hy).1).eq;refine call_cells nk (KX _ _ ho) rfl (R.bs.mY.keeps R.base) (codeRec_of KX nh) (hbind vs rv.length.symm) (λy hy=>.inl (qx y hy)) (λcX tk F X=>?_) ni nj hk;rw[fN]at X;refine cN (w4 (X.cell jW (s.heap.objs.size+1) (by rw[afP,hx];simp))) λGv Bh Gw Gx=>?_;refine cN (w4 (X.cell jX (s.heap.objs.size+1+1) (by simp))) λGy Bi Gz GA=>?_;rw[Aq qx]at Gx GA;have S0:bz ρ s.heap ρ cX:=bz.keeps F.keep;have fM:=R.keeps F.keep;have out:∀b,s.heap.objs.size<=b->s.heap.get? b=none:=λb hb=>by
   cases q:s.heap.get? b with
   |none=>rfl
   |some o=>exact absurd (agp q) (ahx.mpr hb)
  have fr:∀b,s.heap.objs.size<=b->∀y,ρ y≠some b:=λb hb y e=>by refine aI (R.live y b e) λo q=>?_;rw[out b hb]at q;exact ag q
  have o8:∀b,s.heap.objs.size<=b->hX.get? b=none:=λb hb=>by
   cases q:hX.get? b with
   |none=>rfl
   |some o=>have:=R.base b o q;rw[out b hb]at this;exact ag this
  have xF:s.heap.objs.size<=s.heap.objs.size+1:=agt _;have Bj:s.heap.objs.size<=s.heap.objs.size+1+1:=ads xF (agt _);refine aU (fM.w3 (l:=gv) (a:=s.heap.objs.size+1) (o:=.cell none) xD Bh Gw (fr _ xF) (o8 _ xF) (λ_=>⟨Gv,none,Bh,Gx,rfl⟩)) λcW qy=>?_;have SH:∀y,ρ.add gv (s.heap.objs.size+1) y≠some (s.heap.objs.size+1+1):=λy e=>by
   by_cases q:y=gv
   ·rw[q,aF.bY]at e;exact absurd (ack e) (ahn _).symm
   ·rw[aF.bZ _ _ q]at e;exact fr _ Bj y e
  refine aU (cW.w3 (l:=gX) (a:=s.heap.objs.size+1+1) (o:=.cell none) ⟨xE,hne⟩ Bi Gz SH (o8 _ Bj) (λ_=>⟨Gy,none,Bi,GA,rfl⟩)) λmi GB=>?_;have D:DictAt cX (some (s.heap.objs.size+1)):=λc z=>by apply sE z;exact⟨Gv,Bh,Gw⟩
  have D':DictAt cX (some (s.heap.objs.size+1+1)):=λc z=>by apply sE z;exact⟨Gy,Bi,Gz⟩
  have S:bz ρ s.heap ((ρ.add gv (s.heap.objs.size+1)).add gX (s.heap.objs.size+1+1)) cX:=⟨λl a e=>GB.ext l a (qy.ext l a e),λy a e=>by
    by_cases q:y=gX
    ·subst q;rw[aF.bY]at e;apply sE e;exact .inr (out _ Bj)
    ·rw[aF.bZ _ _ q]at e;by_cases q':y=gv
     ·subst q';rw[aF.bY]at e;apply sE e;exact .inr (out _ xF)
     ·rw[aF.bZ _ _ q']at e;exact .inl e,S0.keep,S0.live⟩
  have qz:RelM cX ((ρ.add gv (s.heap.objs.size+1)).add gX (s.heap.objs.size+1+1)) ((names.zip args).reverse++[]) (bindL (envOfC name scope s.heap.objs.size fa d6).kindOf (names.zip vs) λ_=>none):=
   Ap qx (cf.zip names (((rv.step S0 .none).dy qy D).dy GB D')) (λ_ _ e=>nomatch e)
  rw[afU]at qz;have gm:St ((ρ.add gv (s.heap.objs.size+1)).add gX (s.heap.objs.size+1+1)) ((H.add gv (.cell none)).add gX (.cell none)) (cm:=[(jX,gX),(jW,gv)]) ⟨s.heap.objs.size,[(jX,s.heap.objs.size+1+1),(jW,s.heap.objs.size+1)]⟩ (names.zip args).reverse cX:=
   ⟨mi,⟨_,⟨F.ns,mi.base,cQ R.top λb o' q z=>ads q (agp z)⟩,qz⟩,λy e=>by
    by_cases q:y=gX
    ·rw[q,aF.bY]at e;have e9:s.heap.objs.size+1+1=s.heap.objs.size:=ack e;exact absurd e9 (by omega)
    ·rw[aF.bZ _ _ q]at e;by_cases q':y=gv
     ·rw[q',aF.bY]at e;exact absurd (ack e) (ahn _)
     ·rw[aF.bZ _ _ q']at e;exact fr _ (afD _) y e,λy l' e=>by
    rw[afP]at e ⊢;cases q:y==jX with
    |true=>replace e:=q▸e;apply sE e;exact⟨_,rfl,aF.bY ..⟩
    |false=>
     replace e:=q▸e;simp only[]at e ⊢;rw[afP]at e ⊢;cases q':y==jW with
     |true=>rw[q']at e;apply sE e;exact⟨_,rfl,(aF.bZ _ _ (Ne.symm hne)).trans (aF.bY ..)⟩
     |false=>rw[q']at e;exact ag e⟩
  have hh:=λE'=>h _ ((ρ.add gv (s.heap.objs.size+1)).add gX (s.heap.objs.size+1+1)) ⟨s.heap.objs.size,[(jX,s.heap.objs.size+1+1),(jW,s.heap.objs.size+1)]⟩ {s with heap:=cX,toks:=tk} (λf s'=>Qc (oQ f) s') E' lI gm λfl v aj m' H' s' q X' S' z' r'=>PR S p q X' S' z' r';refine ahv (M:=model cg wX) (Q:=λf s'=>Qc (oQ f) s') (E:=λe s'=>wpAny (model cg wX) (A.deeper (envOfC name scope s.heap.objs.size fa d6)) (leaving (envOfC name scope s.heap.objs.size fa d6) e) (λ_ fG=>E e fG) (λe' fG=>E e' fG) s') ?_ (λfl s' q=>by induction fl<;>exact q) (λe s' q=>q);have e1:envOfC name scope s.heap.objs.size fa d6=envX name scope s.heap.objs.size fa d6 [(jX,s.heap.objs.size+1+1),(jW,s.heap.objs.size+1)]:=by unfold envOfC;rw[fN]
  rw[e1]at hh ⊢;exact hh _
theorem Ex.SI(hx:eK f.cs.names x .local)(hy:eK f.cs.names y .local)
  (h:aW d f m H e λv H'=>∃a b,v=.aJ [a,b]/\Q .next ((x,a)::(y,b)::m) H')
  (hw:∀L,swappedStores [.Tuple elts k Am] e (f.env L)=pure (some [x,y]))(hs:kb e=true:=by with_unfolding_all exact rfl)(hf:f.isFn=true:=by with_unfolding_all exact rfl):
  dD d f m H (.Assign [.Tuple elts k Am] e pos) Q:=
 have hk:f.cs.kind=.function:=af4 hf
 λA ρ L s Qc E ah X p=>Assign_Tuple_swapped (names:=[x,y]) (h A ρ L s _ E ah X λv u aj H' s' q R S z r=>by
  obtain⟨a,b,rfl,q⟩:=q;refine r.k λvs ad n eo fr rl=>?_;refine cps λG k=>?_;obtain⟨va,vb,rfl,ra,rb⟩:=rl.nq;refine k ?_;show wpAny _ _ (unpackItems _ ([va,vb].toArray).size Option.none) _ _ _;refine unpackItems_tuple (items:=[va,vb].toArray) ah.1 ⟨_,eo,rfl,_,rfl⟩ λh' eb=>?_;have kk:∀b o,s'.heap.get? b=some o->h'.get? b=some o:=λb o e=>eb b o (λq=>by rw[q,kJ]at e;exact ag e) e;have X':=(X.cj R S).cj (R.keeps kk) (bz.keeps kk);show wpAny _ _ (assignInOrder [bindName (f.env L) y,bindName (f.env L) x] [vb,va]) _ _ _;show wpAny _ _ (do holding _ (bindName (f.env L) y vb);assignInOrder _ _) _ _ _;refine afS (ahe (ahw (qh X' (rb.step (bz.keeps kk) .none) (λbH iR bQ de=>?_) hk hy.eq)));show wpAny _ _ (do holding _ (bindName (f.env L) x va);assignInOrder _ _) _ _ _;refine afS (ahe (ahw (qh iR ((ra.step (bz.keeps kk) .none).step bQ X'.dict) (λdW je eh fY=>?_) hk hx.eq)));exact af3 (p _ _ aj _ H' dW q je (((bX.weak (S.trans (bz.keeps kk))).trans bQ).trans eh) (z.trans ⟨fY.gens.trans de.gens,fY.os.trans de.os⟩) .next)) (by unfold swapsWithSole;exact qg hs) (hw L)
end
set_option tactic.hygienic false
structure LN where
 tx:Bool
 name:Str
 aX:List U
 text:Str
 af:List Int
structure LS where
 aa:List LN
 path:List Int
 run:List Str
 aK:List (Str×Str)
 pk:Nat
 rk:Nat
 old:Option (List Str)
def jq(s:LS)(i:Int):Option LN:=cy s.aa i
def c6(s:LS)(i:Int):Option LN:=(jq s i).bind λx=>if x.tx then none else some x
def uY(s:LS)(i:Int):Str:=((s.aa[i.toNat]?).map (·.name)).getD (S "")
def bq(s:LS):List Str:=s.path.map (uY s)
noncomputable def LS.cq (s:LS)(i:Nat)(x:LN):LS:={s with aa:=s.aa.set i x}
def GC:List Str:=[S " ",S "\n",S "\r",S "\t",S "\x0c"]
def ib(x:Str):Bool:=aw GC x
def sH:List (Str×Str):=[(S "table",S "in table"),(S "caption",S "in caption"),(S "colgroup",S "in column group"),(S "tr",S "in row"),(S "tbody",S "in table body"),(S "thead",S "in table body"),(S "tfoot",S "in table body"),(S "td",S "in cell"),(S "th",S "in cell")]
def jr(m x:Str):Str:=(sH.lookup x).getD m
def dH(names:List Str):Str:=names.foldl jr (S "in body")
def iH:List Str:=[S "caption",S "colgroup",S "tbody",S "thead",S "tfoot",S "tr",S "td",S "th"]
def ie:List Str->Int->Int->Int
 |[],_,p=>p
 |x::r,i,p=>ie r (i+1) (if x==S "table" then i else p)
def cJ(names:List Str):Int:=ie names 0 (-1)
def cR(names:List Str):List Str:=if 0<=cJ names then(names.drop (cJ names+1).toNat).filter (aw iH)else[]
def fB(aR:List Str):Bool:=decide (0<(aR.length:Int))&&(match aR.getLast? with|some x=>aw [S "caption",S "td",S "th"] x|none=>false)
noncomputable def nK (s:LS)(i j:Int)(k:Int):Bool:=(List.range s.aa.length).all λa=>match s.aa[a]? with
 |some x=>x.tx||(List.range x.af.length).all λb=>match x.af[b]? with
  |some c=>!(c==k)||((a:Int)==i&&(b:Int)==j)
  |none=>true
 |none=>true
noncomputable def valid (s:LS):Bool:=s.path.all (λi=>decide (0<=i)&&decide (i<(s.aa.length:Int)))&&s.aa.all λx=>x.af.all λi=>decide (0<=i)&&decide (i<(s.aa.length:Int))
def gw(s:LS)(i:Int)(at_:Int)(sign:Str):Option LS:=(c6 s i).bind λx=>
 let fk:Option LS:=if aC x.af.length=true/\valid s=true/\0<=at_/\at_<=x.af.length then
  some {s with aa:=(s.aa.set i.toNat {x with af:=x.af.take at_.toNat++(s.aa.length:Int)::x.af.drop at_.toNat})++[⟨true,S "",[],sign,[]⟩]}else none
 if decide (0<at_) then(cy x.af (at_-1)).bind λk=>(jq s k).bind λy=>
  if y.tx then(if aC x.af.length=true/\valid s=true/\nK s i (at_-1) k=true/\y.text.length+sign.length<=1000000 then some (s.cq k.toNat {y with text:=y.text++sign})else none)else fk
 else fk
def ki(s:LS)(i:Int)(at_:Nat)(name:Str)(aX:List U):Option LS:=(c6 s i).bind λx=>
 if aC x.af.length=true/\valid s=true/\aC s.path.length=true/\aC aX.length=true/\at_<=x.af.length then
  some {s with aa:=(s.aa.set i.toNat {x with af:=x.af.take at_++(s.aa.length:Int)::x.af.drop at_})++[⟨false,name,aX,S "",[]⟩],path:=s.path++[(s.aa.length:Int)]}else none
def fT(s:LS)(name:Str)(aX:List U):Option LS:=s.path.getLast?.bind λi=>(c6 s i).bind λx=>ki s i x.af.length name aX
def dj(s:LS)(x mode:Str):Option LS:=if aC s.aK.length then some {s with aK:=s.aK++[(x,mode)]}else none
def dh(s:LS):Bool:=aC s.path.length&&(bq s).all PyData.strOk&&s.path.all λi=>(c6 s i).isSome
def fC(s:LS)(keep:Nat):Option LS:=if dh s then
  (if(fB (cR (bq s))&&aw ((bq s).drop (cJ (bq s)+((cR (bq s)).length:Int)).toNat) (S "a")) then dj s (S "open-elements") (dH (bq s))else some s).bind λs1=>
   if keep<=s1.path.length then some {s1 with path:=s1.path.take keep,pk:=s1.pk+1}else none
 else none
def gc(s:LS):Option LS:=(gb s.path).bind λr=>some {s with path:=r.2}
def qJ(bl:Bool)(place:Int):List Str->LS->Option LS
 |[],s=>some s
 |x::r,s=>(if bl then s.path.getLast? else cy s.path (place-1)).bind λi=>(c6 s i).bind λy=>
  if aC y.af.length then
   (gw s i (if bl then(y.af.length:Int)else(y.af.length:Int)-1) x).bind λs1=>(if !bl then dj s1 (S "foster-parented") (S "in table text")else some s1).bind λs2=>qJ bl place r s2
  else none
def mw(s:LS):Option LS:=if dh s=true/\aC s.run.length=true then qJ (s.run.all ib) (cJ (bq s)) s.run {s with run:=[],rk:=s.rk+1,old:=some s.run}else none
def mx(s:LS)(x:Str):Option LS:=if dh s then
  s.path.getLast?.bind λi=>(c6 s i).bind λy=>if aC y.af.length then
   (let names:=bq s
   let place:=cJ names
   let aR:=cR names
   let col:=aR==[S "colgroup"]
   if place==-1||(fB aR||(col&&ib x)) then gw s i y.af.length x
   else if decide (place+1+(aR.length:Int)<(names.length:Int)) then(dj s (S "foster-parented") (dH names)).bind λs1=>gw s1 i y.af.length x
   else(if col then gc s else some s).bind λs1=>if aC s1.run.length then some {s1 with run:=s1.run++[x]}else none)else none
 else none
def uZ:List (Str×List Str):=[(S "td",[S "tbody",S "tr"]),(S "th",[S "tbody",S "tr"]),(S "tr",[S "tbody"]),(S "col",[S "colgroup"])]
def kW(name:Str):List Str:=(uZ.lookup name).getD []
def gd(aR:List Str):List Str:=aR.map λp=>if aw [S "thead",S "tfoot"] p then S "tbody"else p
noncomputable def lQ (held:List Str)(qK:List Str):Nat->Nat->Nat
 |0,k=>k
 |n+1,k=>if decide ((k:Int)<(qK.length:Int)) then(match qK[k]? with|some x=>if (held.drop k).take 1==[x] then lQ held qK n (k+1)else k|none=>k)else k
def u0:List Str->LS->Option LS
 |[],s=>some s
 |x::r,s=>(if x==S "tr" then dj s (S "unexpected-start-tag") (S "in table body")else some s).bind λs1=>(fT s1 x []).bind λs2=>u0 r s2
def lR(s:LS)(name:Str)(aX:List U)(place:Int)(aR:List Str):Option LS:=
 if aC aR.length=true/\aR.all PyData.strOk=true/\0<=place then
  (let qK:=kW name
  let keep:=lQ (gd aR) qK qK.length 0
  (fC s (place+1+keep).toNat).bind λs1=>(u0 (qK.drop keep) s1).bind λs2=>(fT s2 name aX).bind λs3=>if name==S "col" then gc s3 else some s3)else none
def kY(s:LS)(t:aS)(place:Int)(aR:List Str):Option LS:=if dh s=true/\aC aR.length=true then
  (let names:=bq s
  let mode:=dH names
  let out:=decide (0<=place)&&!fB aR
  (if out then dj s (S "foster-parented") mode else some s).bind λs1=>
  if t.kind==S "end" then(match names.getLast? with|some x=>if x==t.name then gc s1 else some s1|none=>none)
  else if aw [S "a",S "p",S "table"] t.name then(jT t).bind λas=>
   (if(out&&((names.length:Int)==place+1+(aR.length:Int))) then(cy s1.path (place-1)).bind λh=>(c6 s1 h).bind λy=>if 0<y.af.length then ki s1 h (y.af.length-1) t.name as else none
    else fT s1 t.name as)
  else(qv t).bind λf=>if f then dj s1 (S "non-void-html-element-start-tag-with-trailing-solidus") mode else some s1)else none
def my(s:LS)(t:aS):Option LS:=if dh s then
  (let place:=cJ (bq s)
  let GD:=cR (bq s)
  let leave:=GD==[S "colgroup"]&&(t.name !=S "col"&&!(t.kind==S "end"&&t.name==S "colgroup"))
  (if leave then gc s else some s).bind λs1=>
  let aR:=if leave then[]else GD
  let mode:=dH (bq s1)
  if dh s1 then
  if(place==-1||(aw [S "a",S "p"] t.name||((t.kind==S "start")&&((t.name==S "table")&&fB aR)))) then kY s1 t place aR
  else if t.kind==S "start"&&t.name==S "table" then(dj s1 (S "unexpected-start-tag") mode).bind λs2=>(fC s2 place.toNat).bind λs3=>(jT t).bind λas=>fT s3 t.name as
  else if t.kind==S "start" then(jT t).bind λas=>lR s1 t.name as place aR
  else if t.name==S "table" then fC s1 place.toNat
  else if aw aR t.name then fC s1 (place+1+(aR.idxOf t.name:Nat)).toNat
  else dj s1 (S "unexpected-end-tag") mode else none)else none
def sI(s:LS)(t:aS):Option LS:=if t.kind==S "char" then mx s t.name else(mw s).bind λs1=>my s1 t
def dw(x:Nd):LN:=⟨x.kind !=S "element",x.name,x.aX,x.text,x.af⟩
def aE(b:B)(pk rk:Nat)(old:Option (List Str)):LS:=⟨b.aa.map dw,b.stack,b.aQ,b.aK,pk,rk,old⟩
structure LX where
 cell:Option U
 toks:Option (List U)
noncomputable def cS (s:LS)(i:Int):U:=match s.aa[i.toNat]? with
 |some y=>.az [.str y.name,.az y.aX,.ae (.bM i.toNat)]
 |none=>.none
noncomputable def cz (s:LS)(i:Int):U:=match s.aa[i.toNat]? with
 |some y=>if y.tx then .str y.text else .az [.str y.name,.az y.aX,.ae (.bM i.toNat)]
 |none=>.none
def kj(s:LS):List (Str×U):=[(S "path",.ae (.path (s.pk+1))),(S "run",.ae (.run s.rk)),(S "errors",.ae .iu)]
def lG(x:LX)(s:LS):AH where
 get
  |.cw=>some (.map (kj s))
  |.iu=>some (.list (bT s.aK))
  |.path 0=>some (.cell x.cell)
  |.path (k+1)=>if k=s.pk then some (.list (s.path.map (cS s)))else none
  |.run k=>if k=s.rk then some (.list (s.run.map .str))else match s.old with
    |some o=>if k+1=s.rk then some (.list (o.map .str))else none
    |none=>none
  |.bM k=>match s.aa[k]? with
    |some y=>if y.tx then none else some (.list (y.af.map (cz s)))
    |none=>none
  |.tokens=>x.toks.map .list
  |_=>none
 new
  |.path k=>s.pk+1<k
  |.run k=>s.rk<k
  |.bM k=>s.aa.length<=k
  |.tokens=>x.toks=none
  |_=>False
noncomputable def mA:Loc->Bool
 |.cw|.iu|.tokens|.path _|.run _|.bM _=>true
 |_=>false
section
variable{b:B}{G:AH}{n:Nat}{x:LX}{s:LS}
theorem lS(h:mA l=true):(hp b G n).get l=G.get l:=by induction l<;>first|rfl|cases h
theorem u1(h:mA l=true):(hp b G n).new l=G.new l:=by induction l<;>first|rfl|exact nomatch h
theorem kZ(h:mA l=true):(hp b G n).set l o=hp b (G.set l o) n:=by
 refine AH.eU ((lS h).trans (AH.rP ..)) (λk hk=>?_) λk=>?_
 ·by_cases q:mA k=true
  ·rw[lS q,lS q,AH.rQ _ _ hk]
  ·induction k<;>first|rfl|exact(q rfl).elim
 ·by_cases q:mA k=true
  ·rw[u1 q,u1 q];rfl
  ·induction k<;>first|exact agm|exact absurd rfl q
theorem lT(h:mA l=true):(hp b G n).add l o=hp b (G.add l o) n:=by
 refine AH.w5 ((lS h).trans (AH.bY ..)) (λk hk=>?_) λk=>?_
 ·by_cases q:mA k=true
  ·rw[lS q,lS q,AH.bZ _ _ hk]
  ·induction k<;>first|rfl|exact absurd rfl q
 ·by_cases q:mA k=true
  ·rw[u1 q,u1 q];exact agm
  ·have hk:k≠l:=λe=>q (e▸h);induction k<;>first|exact⟨λz=>⟨z,hk⟩,λz=>z.1⟩|exact absurd rfl q
theorem xG(h:AH.Le G G'):AH.Le (hp b G n) (hp b G' n):=by
 refine⟨λl o e=>?_,λl e=>?_⟩
 ·by_cases q:mA l=true
  ·rw[lS q]at e ⊢;exact h.get l o e
  ·induction l<;>first|exact e|exact absurd rfl q
 ·by_cases q:mA l=true
  ·rw[u1 q]at e ⊢;exact h.new l e
  ·induction l<;>first|exact e|exact absurd rfl q
theorem iX(x:LX)(s:LS)(j:Nat):(lG x s).get (.bM j)=(s.aa[j]?).bind λy=>if y.tx=true then none else some (.list (y.af.map (cz s))):=by unfold lG;dsimp only;cases s.aa[j]?<;>rfl
theorem o9:(hp b (lG x s) n).get .cw=some (.map (kj s)):=rfl
theorem Bk:(hp b (lG x s) n).get .iu=some (.list (bT s.aK)):=rfl
theorem nL:(hp b (lG x s) n).get (.path (s.pk+1))=some (.list (s.path.map (cS s))):=by show(if s.pk=s.pk then _ else _)=_;rw[if_pos rfl]
theorem xH:(hp b (lG x s) n).get (.run s.rk)=some (.list (s.run.map .str)):=by show(if s.rk=s.rk then _ else _)=_;rw[if_pos rfl]
theorem u2(h:c6 s i=some y):∃k:Nat,i=(k:Int)/\s.aa[k]?=some y/\y.tx=false:=by
 refine bE h λz h1 h2=>?_;refine cN (gT h1) λk e _ h1=>?_;split at h2
 ·exact ag h2
 ·rename_i q;apply sE h2;exact⟨k,e,h1,by simpa using q⟩
theorem u3(h:c6 s i=some y):cS s i=.az [.str y.name,.az y.aX,.ae (.bM i.toNat)]:=by refine cN (u2 h) λk e h1 _=>?_;subst e;unfold cS;rw[afM,h1]
theorem SJ(h:s'.aa=s.aa):cS s'=cS s:=by funext i;unfold cS;rw[h]
theorem SK(h:s'.aa=s.aa):cz s'=cz s:=by funext i;unfold cz;rw[h]
theorem GF:(lG x s).set (.path (s.pk+1)) (.list (p.map (cS s)))=lG x {s with path:=p}:=by
 refine AH.eU (by show(if s.pk=s.pk then _ else _)=_;rw[if_pos rfl,SJ (s':={s with path:=p}) (s:=s) rfl]) (λl h=>?_) λl=>by induction l<;>exact agm
 induction l with
 |path k=>
  induction k with
  |zero=>rfl
  |succ k=>
   have:k≠s.pk:=λe=>h (e▸rfl);show(if k=s.pk then _ else _)=(if k=s.pk then _ else _);rw[if_neg this,if_neg this]
 |bM k=>
  rw[iX,iX,SK (s':={s with path:=p}) (s:=s) rfl]
 |_=>rfl
theorem SM:(lG x s).set .iu (.list (bT e))=lG x {s with aK:=e}:=by
 refine AH.eU rfl (λl h=>?_) λl=>by induction l<;>exact agm
 induction l with
 |iu=>exact(h rfl).elim
 |path k=>induction k<;>rfl
 |_=>rfl
theorem SN:(lG x s).set (.run s.rk) (.list (r.map .str))=lG x {s with run:=r}:=by
 refine AH.eU (by show(if s.rk=s.rk then _ else _)=_;rw[if_pos rfl]) (λl h=>?_) λl=>by induction l<;>exact agm
 induction l with
 |run k=>
  have:k≠s.rk:=λe=>h (e▸rfl);show(if k=s.rk then _ else _)=(if k=s.rk then _ else _);rw[if_neg this,if_neg this]
 |path k=>induction k<;>rfl
 |_=>rfl
theorem u4(h:s.aa[i]?=some y)(k:Nat):(s.aa.set i z)[k]?=if k=i then some z else s.aa[k]?:=by
 refine aI (afB.mp h) λhi _=>?_;rw[agz];by_cases q:i=k
 ·rw[if_pos q,if_pos (q▸hi),if_pos q.symm]
 ·rw[if_neg q,if_neg (Ne.symm q)]
theorem GG(h1:s.aa[k]?=some y)(kl:y.tx=false):(lG x s).set (.bM k) (.list (ks.map (cz s)))=lG x (s.cq k {y with af:=ks}):=by
 have g:=u4 (z:={y with af:=ks}) h1;have e1:cS (s.cq k {y with af:=ks})=cS s:=by
  funext j;unfold cS LS.cq;rw[g];by_cases q:j.toNat=k
  ·rw[if_pos q,q,h1]
  ·rw[if_neg q]
 have e2:cz (s.cq k {y with af:=ks})=cz s:=by
  funext j;unfold cz LS.cq;rw[g];by_cases q:j.toNat=k
  ·rw[if_pos q,q,h1]
  ·rw[if_neg q]
 have gl:∀j:Nat,(lG x (s.cq k {y with af:=ks})).get (.bM j)=if j=k then some (.list (ks.map (cz s)))else(lG x s).get (.bM j):=λj=>by
  rw[iX,iX,e2];show((s.aa.set k {y with af:=ks})[j]?).bind _=_;rw[g];by_cases q:j=k
  ·rw[if_pos q,if_pos q];exact if_neg (by show¬y.tx=true;rw[kl];decide)
  ·rw[if_neg q,if_neg q]
 refine AH.eU (by rw[gl,if_pos rfl]) (λl hl=>?_) λl=>?_
 ·induction l with
  |bM j=>
   rw[gl,if_neg λe=>hl (afE _ e)]
  |path j=>
   induction j with
   |zero=>rfl
   |succ j=>
    show(if j=s.pk then some (cx.list (s.path.map (cS (s.cq k {y with af:=ks}))))else none)=_;rw[e1];rfl
  |_=>rfl
 ·induction l with
  |bM j=>show(s.aa.set k _).length<=j↔s.aa.length<=j;rw[agn]
  |_=>exact agm
theorem GH(h:valid s=true):∀i∈s.path,∃k:Nat,i=(k:Int)/\k<s.aa.length:=λi hi=>by unfold valid at h;rw[afz,afF]at h;have:=h.1 i hi;rw[afz,af5,af5]at this;exact⟨i.toNat,(agq this.1).symm,(Int.toNat_lt this.1).mpr this.2⟩
theorem xI(h:valid s=true){j:Nat}(hj:s.aa[j]?=some y):∀i∈y.af,∃k:Nat,i=(k:Int)/\k<s.aa.length:=λi hi=>by unfold valid at h;rw[afz,afF,afF]at h;have h2:=h.2 y (agv hj);rw[afF]at h2;have:=h2 i hi;rw[afz,af5,af5]at this;exact⟨i.toNat,(agq this.1).symm,(Int.toNat_lt this.1).mpr this.2⟩
theorem SO{k:Nat}(e:i=(k:Int))(h:k<s.aa.length):cS {s with aa:=s.aa++[z]} i=cS s i:=by unfold cS;dsimp only;rw[e,afM,agb h]
theorem SP{k:Nat}(e:i=(k:Int))(h:k<s.aa.length):cz {s with aa:=s.aa++[z]} i=cz s i:=by unfold cz;dsimp only;rw[e,afM,agb h]
theorem SQ{name:Str}(h:valid s=true):(lG x s).add (.bM s.aa.length) (.list [])=lG x {s with aa:=s.aa++[⟨false,name,as,S "",[]⟩]}:=by
 have gl:∀j:Nat,(lG x {s with aa:=s.aa++[⟨false,name,as,S "",[]⟩]}).get (.bM j)=if j=s.aa.length then some (.list [])else(lG x s).get (.bM j):=λj=>by
  rw[iX,iX];show((s.aa++[(⟨false,name,as,S "",[]⟩:LN)])[j]?).bind _=_;by_cases q:j<s.aa.length
  ·rw[agb q,if_neg (by exact agg q)];cases hy:s.aa[j]? with
   |none=>rfl
   |some y=>
    show(if y.tx=true then none else _)=(if y.tx=true then none else _);by_cases ht:y.tx=true
    ·rw[if_pos ht,if_pos ht]
    ·rw[if_neg ht,if_neg ht];refine afE (λz=>some (cx.list z)) (agr λi hi=>?_);refine ao (xI h hy i hi) λk e hk=>?_;exact SP e hk
  ·by_cases q2:j=s.aa.length
   ·rw[if_pos q2,q2,agj (afD _)];simp
   ·rw[if_neg q2,af1 (by simp;lia),af1 (by exact agh q)];rfl
 refine AH.w5 (by rw[gl,if_pos rfl]) (λl hl=>?_) λl=>?_
 ·induction l with
  |bM j=>rw[gl,if_neg λe=>hl (afE _ e)]
  |path j=>
   induction j with
   |zero=>rfl
   |succ j=>
    show(if j=s.pk then some (cx.list (s.path.map (cS {s with aa:=s.aa++[⟨false,name,as,S "",[]⟩]})))else none)=_;have:s.path.map (cS {s with aa:=s.aa++[⟨false,name,as,S "",[]⟩]})=s.path.map (cS s):=agr λi hi=>by refine ao (GH h i hi) λk e hk=>?_;exact SO e hk
    rw[this];rfl
  |_=>rfl
 ·induction l with
  |bM j=>
   show(s.aa++[_]).length<=j↔s.aa.length<=j/\Loc.bM j≠.bM s.aa.length;rw[afC,afW];constructor
   ·intro q;exact⟨by exact Nat.le_of_lt ‹_›,λe=>by injection e with e;exact agQ _ (e▸q)⟩
   ·intro q;have:j≠s.aa.length:=λe=>q.2 (e▸rfl);lia
  |_=>exact⟨λz=>⟨z,λe=>by cases e⟩,λz=>z.1⟩
theorem SR{k:Nat}(h:valid s=true)(h1:s.aa[k]?=some y)(kl:y.tx=false):AH.Le ((lG x s).set (.bM k) (.list ((y.af.map (cz s)).take at_++.str t::(y.af.map (cz s)).drop at_)))
  (lG x {s with aa:=(s.aa.set k {y with af:=y.af.take at_++(s.aa.length:Int)::y.af.drop at_})++[⟨true,S "",[],t,[]⟩]}):=by
 have h0:valid {s with aa:=s.aa}=true:=h;refine aI (afB.mp h1) λhk _=>?_;have g:∀j:Nat,((s.aa.set k {y with af:=y.af.take at_++(s.aa.length:Int)::y.af.drop at_})++[(⟨true,S "",[],t,[]⟩:LN)])[j]?=if j=k then some {y with af:=y.af.take at_++(s.aa.length:Int)::y.af.drop at_}else if j=s.aa.length then some ⟨true,S "",[],t,[]⟩else s.aa[j]?:=λj=>by
  by_cases q:j<s.aa.length
  ·rw[agb (by rw[agn];exact q),u4 h1];by_cases q2:j=k
   ·rw[if_pos q2,if_pos q2]
   ·rw[if_neg q2,if_neg q2,if_neg (by exact agg q)]
  ·rw[agj (by rw[agn];exact agh q),agn,if_neg (by lia)];by_cases q2:j=s.aa.length
   ·rw[if_pos q2,q2];simp
   ·rw[if_neg q2,af1 (by simp;lia),af1 (by exact agh q)]
 generalize k7:({s with aa:=(s.aa.set k {y with af:=y.af.take at_++(s.aa.length:Int)::y.af.drop at_})++[(⟨true,S "",[],t,[]⟩:LN)]}:LS)=s';have g':∀j:Nat,s'.aa[j]?=if j=k then some {y with af:=y.af.take at_++(s.aa.length:Int)::y.af.drop at_}else if j=s.aa.length then some ⟨true,S "",[],t,[]⟩else s.aa[j]?:=λj=>by rw[<-k7];exact g j
 have en:∀(i:Int) (c:Nat),i=(c:Int)->c<s.aa.length->cS s' i=cS s i:=λi c e hc=>by
  unfold cS;rw[e,afM,g'];by_cases q:c=k
  ·rw[if_pos q,q,h1]
  ·rw[if_neg q,if_neg (by exact agg hc)]
 have ek:∀(i:Int) (c:Nat),i=(c:Int)->c<s.aa.length->cz s' i=cz s i:=λi c e hc=>by
  unfold cz;rw[e,afM,g'];by_cases q:c=k
  ·rw[if_pos q,q,h1]
  ·rw[if_neg q,if_neg (by exact agg hc)]
 have et:cz s' (s.aa.length:Int)=.str t:=by unfold cz;rw[afM,g',if_neg (by exact Nat.ne_of_gt hk),if_pos rfl];rfl
 have GI:∀(j:Nat) (z:LN),s.aa[j]?=some z->z.af.map (cz s')=z.af.map (cz s):=λj z hz=>agr λi hi=>by refine ao (xI h hz i hi) λc e hc=>?_;exact ek i c e hc
 have SU:s'.path=s.path:=by rw[<-k7]
 have Bl:s'.pk=s.pk:=by rw[<-k7]
 have Bm:s'.rk=s.rk:=by rw[<-k7]
 have xJ:s'.run=s.run:=by rw[<-k7]
 have SV:s'.old=s.old:=by rw[<-k7]
 have SW:s'.aK=s.aK:=by rw[<-k7]
 have gn:s'.aa.length=s.aa.length+1:=by rw[<-k7];simp
 refine⟨λl o e=>?_,λl e=>?_⟩
 ·by_cases q:l=.bM k
  ·subst q;rw[AH.rP];rw[iX,g',if_pos rfl]at e;have e':(if y.tx=true then none else some (cx.list ((y.af.take at_++(s.aa.length:Int)::y.af.drop at_).map (cz s'))))=some o:=e;rw[if_neg (by rw[kl];decide)]at e';rw[<-e'];show _=some (cx.list ((y.af.take at_++(s.aa.length:Int)::y.af.drop at_).map (cz s')));rw[afR,agB,et,List.map_take,ahs,GI k y h1]
  ·rw[AH.rQ _ _ q];induction l with
   |bM j=>
    have hj:j≠k:=λz=>q (z▸rfl);rw[iX,g',if_neg hj]at e;rw[iX];by_cases q2:j=s.aa.length
    ·rw[if_pos q2]at e;exact ag e
    ·rw[if_neg q2]at e;cases hz:s.aa[j]? with
     |none=>rw[hz]at e;exact ag e
     |some z=>
      rw[hz]at e;have e':(if z.tx=true then none else some (cx.list (z.af.map (cz s'))))=some o:=e;rw[GI j z hz]at e';exact e'
   |path j=>
    induction j with
    |zero=>exact e
    |succ j=>
     have e':(if j=s'.pk then some (cx.list (s'.path.map (cS s')))else none)=some o:=e;show(if j=s.pk then some (cx.list (s.path.map (cS s)))else none)=some o;rw[Bl,SU]at e';have:s.path.map (cS s')=s.path.map (cS s):=agr λi hi=>by refine ao (GH h i hi) λc e hc=>?_;exact en i c e hc
     rw[this]at e';exact e'
   |cw=>
    have e':some (cx.map (kj s'))=some o:=e;unfold kj at e';rw[Bl,Bm]at e';exact e'
   |iu=>
    have e':some (cx.list (bT s'.aK))=some o:=e;replace e':=SW▸e';exact e'
   |run j=>
    have e':(if j=s'.rk then some (cx.list (s'.run.map .str))else match s'.old with|some o=>if j+1=s'.rk then some (.list (o.map .str))else none|none=>none)=some o:=e;rw[Bm,xJ,SV]at e';exact e'
   |tokens=>exact e
   |_=>exact ag e
 ·induction l with
  |bM j=>
   have e':s'.aa.length<=j:=e;show s.aa.length<=j;lia
  |path j=>
   have e':s'.pk+1<j:=e;replace e':=Bl▸e';exact e'
  |run j=>
   have e':s'.rk<j:=e;rw[Bm]at e';exact e'
  |tokens=>exact e
  |_=>induction e
end
section
variable{b:B}{G:AH}{n:Nat}{x:LX}{s:LS}
theorem GJ(h:nK s i j k=true){a c:Nat}(ha:s.aa[a]?=some y)(ht:y.tx=false)(hc:y.af[c]?=some k):(a:Int)=i/\(c:Int)=j:=by unfold nK at h;rw[afF]at h;refine aI (afB.mp ha) λaY _=>?_;have h1:=h a (ahy.mpr aY);replace h1:=ha▸h1;dsimp only at h1;rw[ht,ag2,afF]at h1;refine aI (afB.mp hc) λSX _=>?_;have h2:=h1 c (ahy.mpr SX);rw[hc]at h2;simpa using h2
theorem SY{a:Nat}{j:Nat}(hv:valid s=true)(h1:s.aa[a]?=some y)(kl:y.tx=false)(hj:y.af[j]?=some k)(hz:jq s k=some z)(ht:z.tx=true)(hs:nK s (a:Int) j k=true):
  (lG x s).set (.bM a) (.list ((y.af.map (cz s)).set j (.str t)))=lG x (s.cq k.toNat {z with text:=t}):=by
 refine cN (gT hz) λc e2 _ eY=>?_;subst e2;rw[afM];have S4:a≠c:=λq=>by rw[q,eY]at h1;obtain rfl:=ack h1;replace kl:=ht▸kl;cases kl
 have g:=u4 (z:={z with text:=t}) eY;have e1:cS (s.cq c {z with text:=t})=cS s:=by
  funext q;unfold cS LS.cq;rw[g];by_cases r:q.toNat=c
  ·rw[if_pos r,r,eY]
  ·rw[if_neg r]
 have ek:∀q:Int,q.toNat≠c->cz (s.cq c {z with text:=t}) q=cz s q:=λq r=>by unfold cz LS.cq;rw[g,if_neg r]
 have ec:cz (s.cq c {z with text:=t}) (c:Int)=.str t:=by unfold cz LS.cq;rw[afM,g,if_pos rfl];dsimp only;rw[if_pos ht]
 have gl:∀q:Nat,(lG x (s.cq c {z with text:=t})).get (.bM q)=if q=a then some (.list ((y.af.map (cz s)).set j (.str t)))else(lG x s).get (.bM q):=λq=>by
  rw[iX,iX];show((s.aa.set c {z with text:=t})[q]?).bind _=_;rw[g];by_cases r:q=a
  ·rw[if_pos r,if_neg (by exact r▸S4),r,h1];show(if y.tx=true then none else _)=_;rw[if_neg (by rw[kl];decide)];refine afE (λz=>some (cx.list z)) (List.ext_getElem? λm=>?_);rw[afX,agz,afX,afA];by_cases hm:j=m
   ·rw[if_pos hm,<-hm,hj];refine aI (afB.mp hj) λaY _=>?_;rw[if_pos aY];exact afE some ec
   ·rw[if_neg hm];cases hw:y.af[m]? with
    |none=>rfl
    |some v=>
     refine afE some ?_;refine ao (xI hv h1 v (agv hw)) λv' e _=>?_;subst e;refine ek _ λu5=>?_;rw[afM]at u5;subst u5;have:=(GJ hs h1 kl hw).2;lia
  ·rw[if_neg r];by_cases r2:q=c
   ·rw[if_pos r2,r2,eY];show(if z.tx=true then none else _)=(if z.tx=true then none else _);rw[if_pos ht,if_pos ht]
   ·rw[if_neg r2];cases hw:s.aa[q]? with
    |none=>rfl
    |some w=>
     show(if w.tx=true then none else _)=(if w.tx=true then none else _);by_cases u6:w.tx=true
     ·rw[if_pos u6,if_pos u6]
     ·rw[if_neg u6,if_neg u6];refine afE (λz=>some (cx.list z)) (agr λv uX=>?_);refine ao (xI hv hw v uX) λv' e _=>?_;subst e;refine ek _ λu5=>?_;rw[afM]at u5;subst u5;refine aI (List.mem_iff_getElem?.mp uX) λm hm=>?_;have:=(GJ hs hw (by simpa using u6) hm).1;lia
 refine AH.eU (by rw[gl,if_pos rfl]) (λl hl=>?_) λl=>?_
 ·induction l with
  |bM q=>rw[gl,if_neg λe=>hl (afE _ e)]
  |path q=>
   induction q with
   |zero=>rfl
   |succ q=>
    show(if q=s.pk then some (cx.list (s.path.map (cS (s.cq c {z with text:=t}))))else none)=_;rw[e1];rfl
  |_=>rfl
 ·induction l with
  |bM q=>show(s.aa.set c _).length<=q↔s.aa.length<=q;rw[agn]
  |_=>exact agm
theorem S5:AH.Le (((lG x s).add (.path (s.pk+2)) (.list (p.map (cS s)))).set .cw (.map (f9 (kj s) (S "path") (.ae (.path (s.pk+2)))))) (lG x {s with path:=p,pk:=s.pk+1}):=by
 refine .put (by intro e;cases e) (λv e=>?_) (λv e=>?_) (λl h1 h2 v e=>?_) (λl e=>?_) λe=>agQ _ e
 ·exact(if_pos rfl).symm.trans e
 ·exact(afE (λz=>some (cx.map z)) (by kernel_rfl:f9 (kj s) (S "path") (.ae (.path (s.pk+2)))=kj {s with path:=p,pk:=s.pk+1})).trans e
 ·induction l with
  |cw=>exact(h2 rfl).elim
  |path j=>
   cases j with
   |zero=>exact e
   |succ j=>exact ag ((if_neg λq=>h1 (afE (λj=>Loc.path (j+1)) q)).symm.trans e)
  |bM j=>rw[iX]at e ⊢;exact e
  |_=>exact e
 ·induction l with
  |path j=>exact Nat.lt_of_succ_lt e
  |_=>exact e
theorem S6:AH.Le (((lG x s).add (.run (s.rk+1)) (.list [])).set .cw (.map (f9 (kj s) (S "run") (.ae (.run (s.rk+1)))))) (lG x {s with run:=[],rk:=s.rk+1,old:=some s.run}):=by
 refine .put (by intro e;cases e) (λv e=>?_) (λv e=>?_) (λl h1 h2 v e=>?_) (λl e=>?_) λe=>agQ _ e
 ·exact(if_pos rfl).symm.trans e
 ·exact(afE (λz=>some (cx.map z)) (by kernel_rfl:f9 (kj s) (S "run") (.ae (.run (s.rk+1)))=kj {s with run:=[],rk:=s.rk+1,old:=some s.run})).trans e
 ·induction l with
  |cw=>exact(h2 rfl).elim
  |run j=>
   replace e:=(if_neg λq=>h1 (afE Loc.run q)).symm.trans e;by_cases q2:j+1=s.rk+1
   ·exact(if_pos (agZ q2)).trans ((if_pos q2).symm.trans e)
   ·exact ag ((if_neg q2).symm.trans e)
  |path j=>cases j<;>exact e
  |bM j=>rw[iX]at e ⊢;exact e
  |_=>exact e
 ·induction l with
  |run j=>exact Nat.lt_of_succ_lt e
  |_=>exact e
end
theorem Bn{st:Stmt}(h:nF st=true)(hn:uL st=S q):H.lu st q 3 .none md cd=docDef (S q) (FP st) (cZ st) (fO st) md cd .none:=by induction st using Stmt.casesOn<;>first|(subst hn;rfl)|cases h
section
variable{d:Nat}{f:aV}{m:Lo}{X:AH}
theorem Call.S7{st:Stmt}{names:List Str}(fK:Lo)(jW jX:Str)(gv gX:Loc)
  (ho:kX.lookup fa=some (H.fn st q .none md (.ref ca)))(hc:kX.lookup ca=some ⟨.type "code",none,.fields vs,#[]⟩)(hv:vs.toList=a::.str (S q) tk::rs)(hi:nF st=true)(hq:uL st=S q)
  (hbind:∀(vs:List Value),vs.length=args.length->bindArgs (H.lu st q 3 .none md (.ref ca)) ⟨vs,[]⟩=pure (names.zip vs))
  (eb:cZ st=body)(es:fO st=scope)
  (hloc:∀x∈names,eK scope.names x .local)(fN:∀L,cellsFrom (L+1) scope.names []=[(jX,L+1+1),(jW,L+1)])(hx:(jW==jX)=false)(iB:fK=(names.zip args).reverse)(xD:X.new gv)(xE:X.new gX)(hne:gX≠gv)
  (h:bR d (.fn (S q) scope fa (.ref ca) [(jX,gX),(jW,gv)]) fK ((X.add gv (.cell none)).add gX (.cell none)) body (λfl _ H'=>∃br,AH.Le H' br/\Q fl.val br))
  (hs:qm scope=true):ba (d+1) (.ref fa) args X Q:=by
 subst eb es;have e:=Bn (md:=md) (cd:=.ref ca) hi hq;refine Call.SG fK jW jX gv gX (ho.trans (afE some (afE (λz=>Obj.mk (.type "function") none (.func z) #[]) e))) (um hc hv) (λvs hv=>?_) hloc fN hx iB xD xE hne h hs;exact e▸hbind vs hv
theorem S8(AY:bu ρ X s.heap)(hn:ρ l=none)(S:bz ρ s.heap bA cX)(p:gC ρ s Q Qc){H':AH}{s':Shared}
  (q:∃o,H'=X.add l o/\eM l fl.val/\Q fl.val X)(X':St aj H' (cm:=cm) ⟨s.heap.objs.size,cl⟩ m' s'.heap)(S':bX (some s.heap.objs.size) bA cX aj s'.heap)(z':dS {s with heap:=cX,toks:=tk} s')(r':qe s'.heap aj fl v):
  Qc (oQ v) s':=by
 have SS:bz ρ s.heap aj s'.heap:=((bX.weak S).trans S').fresh (kJ _);obtain⟨o,rfl,nv,q⟩:=q;have R':=bu.cM AY hn X'.b5;have SD:=SS.cM hn;induction r' with
 |next=>exact p _ _ (aj.cM l) X s' q R' SD ⟨z'.gens,z'.os⟩ .none
 |brk=>exact p _ _ (aj.cM l) X s' q R' SD ⟨z'.gens,z'.os⟩ .none
 |cont=>exact p _ _ (aj.cM l) X s' q R' SD ⟨z'.gens,z'.os⟩ .none
 |ret r=>exact p _ _ (aj.cM l) X s' q R' SD ⟨z'.gens,z'.os⟩ (r.cM nv)
theorem Call.S9{st:Stmt}(x y:Str)(l:Loc)
  (ho:kX.lookup fa=some (H.fn st q .none md (.ref ca)))(hc:kX.lookup ca=some ⟨.type "code",none,.fields vs,#[]⟩)(hv:vs.toList=a::.str (S q) tk::rs)(hi:nF st=true)(hq:uL st=S q)
  (hbind:∀(a b:Value),bindArgs (H.lu st q 3 .none md (.ref ca)) ⟨[a,b],[]⟩=pure [(x,a),(y,b)])
  (eb:cZ st=body)(es:fO st=scope)
  (u7:eK scope.names x .cell)(Bo:eK scope.names y .local)(fN:∀L,cellsFrom (L+1) scope.names []=[(x,L+1)])(hn:X.new l)
  (h:bR d (.fn (S q) scope fa (.ref ca) [(x,l)]) [(y,v)] (X.add l (.cell (some u))) body (λfl _ H'=>∃o,H'=X.add l o/\eM l fl.val/\Q fl.val X))
  (hs:qm scope=true):ba (d+1) (.ref fa) [u,v] X Q:=by
 subst eb es;have e:=Bn (md:=md) (cd:=.ref ca) hi hq;have nu:=ho.trans (afE some (afE (λz=>Obj.mk (.type "function") none (.func z) #[]) e));have nh:=um hc hv;refine dR (Ar hs) λni nj hk=>?_;intro A ρ s vs Qc E ah R rv p;refine cV rv.nq λuv vv aP ru Ta=>?_;subst aP;refine wpAny_call ?_;have KX:=R.lF;refine aU (uk ah (envOfC (S q) (fO st) s.heap.objs.size fa (.ref ca))) λnk lI=>?_;have kx:(envOfC (S q) (fO st) s.heap.objs.size fa (.ref ca)).kindOf x=some .cell:=u7.eq;have ky:(envOfC (S q) (fO st) s.heap.objs.size fa (.ref ca)).kindOf y=some .local:=Bo.eq;refine call_cells nk (KX _ _ nu) rfl (R.bs.mY.keeps R.base) (codeRec_of KX nh) (by exact e▸hbind uv vv) (λz hz=>?_) (λcX tk F Y=>?_) ni nj hk
 ·cases hz with
  |head=>exact .inr ⟨u7.eq,by rw[fN];simp⟩
  |tail _ hz=>cases hz with
   |head=>exact .inl Bo.eq
   |tail _ hz=>exact nomatch hz
 rw[fN]at Y;refine cN (w4 (Y.cell x (s.heap.objs.size+1) (by simp))) λob ec uI uJ=>?_;have eC:bindC (envOfC (S q) (fO st) s.heap.objs.size fa (.ref ca)).kindOf [(x,uv),(y,vv)] (λ_=>none) x=some uv:=by unfold bindC;rw[if_neg (by rw[kx];decide)];unfold bindC;rw[if_pos ky];delta bindC;exact if_pos rfl
 rw[eC]at uJ;have S0:bz ρ s.heap ρ cX:=bz.keeps F.keep;have fM:=R.keeps F.keep;have out:∀b,s.heap.objs.size<=b->s.heap.get? b=none:=λb hb=>by
  cases q:s.heap.get? b with
  |none=>rfl
  |some o=>exact absurd (agp q) (ahx.mpr hb)
 have fr:∀b,s.heap.objs.size<=b->∀y,ρ y≠some b:=λb hb y e=>by refine aI (R.live y b e) λo q=>?_;rw[out b hb]at q;exact ag q
 have o8:∀b,s.heap.objs.size<=b->hX.get? b=none:=λb hb=>by
  cases q:hX.get? b with
  |none=>rfl
  |some o=>have:=R.base b o q;rw[out b hb]at this;exact ag this
 have D:DictAt cX (some (s.heap.objs.size+1)):=λc z=>by apply sE z;exact⟨ob,ec,uI⟩
 refine aU (fM.w3 (l:=l) (a:=s.heap.objs.size+1) (o:=.cell (some u)) hn ec uI (fr _ (agt _)) (o8 _ (agt _)) (λM=>⟨ob,some uv,ec,uJ,uv,rfl,(ru.step S0 .none).dy M D⟩)) λcW qy=>?_;have SS:bz ρ s.heap (ρ.add l (s.heap.objs.size+1)) cX:=⟨qy.ext,λy a e=>by
   by_cases q:y=l
   ·subst q;rw[aF.bY]at e;apply sE e;exact .inr (out _ (agt _))
   ·rw[aF.bZ _ _ q]at e;exact .inl e,S0.keep,S0.live⟩
 have qz:RelM cX (ρ.add l (s.heap.objs.size+1)) [(y,v)] (bindL (envOfC (S q) (fO st) s.heap.objs.size fa (.ref ca)).kindOf [(x,uv),(y,vv)] λ_=>none):=by
  intro z av e;rw[ml]at e;by_cases q:z=y
  ·rw[if_pos q]at e;apply sE e;refine⟨vv,?_,(Ta.step S0 .none).dy qy D⟩;unfold bindL;rw[if_neg (by rw[kx];decide)];unfold bindL;rw[if_pos ky];delta bindL;exact if_pos q
  ·rw[if_neg q]at e;exact ag e
 have gm:St (ρ.add l (s.heap.objs.size+1)) (X.add l (.cell (some u))) (cm:=[(x,l)]) ⟨s.heap.objs.size,[(x,s.heap.objs.size+1)]⟩ [(y,v)] cX:=
  ⟨cW,⟨_,⟨F.ns,cW.base,cQ R.top λb o' q z=>ads q (agp z)⟩,qz⟩,λy e=>by
   by_cases q:y=l
   ·subst q;rw[aF.bY]at e;exact absurd (ack e) (ahn _)
   ·rw[aF.bZ _ _ q]at e;exact fr _ (afD _) y e,λy l' e=>by
   rw[afP]at e ⊢;cases q:y==x with
   |true=>rw[q]at e;apply sE e;exact⟨_,rfl,aF.bY ..⟩
   |false=>rw[q]at e;exact ag e⟩
 have hh:=λE'=>h _ (ρ.add l (s.heap.objs.size+1)) ⟨s.heap.objs.size,[(x,s.heap.objs.size+1)]⟩ {s with heap:=cX,toks:=tk} (λf s'=>Qc (oQ f) s') E' lI gm λfl v aj m' H' s' q X' S' z' r'=>S8 R (R.new l hn) SS p q X' S' z' r';refine ahv (M:=model cg wX) (Q:=λf s'=>Qc (oQ f) s') (E:=λe s'=>wpAny (model cg wX) (A.deeper (envOfC (S q) (fO st) s.heap.objs.size fa (.ref ca))) (leaving (envOfC (S q) (fO st) s.heap.objs.size fa (.ref ca)) e) (λ_ fG=>E e fG) (λe' fG=>E e' fG) s') ?_ (λfl s' q=>by induction fl<;>exact q) (λe s' q=>q);have e1:envOfC (S q) (fO st) s.heap.objs.size fa (.ref ca)=envX (S q) (fO st) s.heap.objs.size fa (.ref ca) [(x,s.heap.objs.size+1)]:=by unfold envOfC;rw[fN]
 rw[e1]at hh ⊢;exact hh _
end
theorem sJ(h:Str.ofString a=Str.ofString b):a=b:=by
 rw[ahg,ahg]at h;have h1:(a.toList.map Char.toNat).toArray=(b.toList.map Char.toNat).toArray:=by injection h
 have h2:a.toList.map Char.toNat=b.toList.map Char.toNat:=by simpa using h1
 have h3:=(List.map_inj_right (f:=Char.toNat) (λx y e=>Char.toNat_inj.mp e)).mp h2;exact String.toList_inj.mp h3
theorem u9(a b:String):(Str.ofString a==Str.ofString b)=(a==b):=by
 by_cases h:a=b
 ·subst h;simp
 ·have:¬Str.ofString a=Str.ofString b:=λe=>h (sJ e);rw[afK.mpr h,afK.mpr this]
theorem Bp(a b:String):(Str.ofString a=Str.ofString b)=(a=b):=by apply propext;exact⟨sJ,λe=>by rw[e]⟩
theorem mB(h:xs.length<=1000000)(i:Nat):cy xs (i:Int)=xs[i]?:=by
 unfold cy;by_cases q:0<=(i:Int)/\(i:Int)<1000000
 ·rw[if_pos q];rfl
 ·rw[if_neg q,af1 (by lia)]
structure nM(ns:List Nd):Prop where
 b9:∀(i:Nat) x,ns[i]?=some x->∀k∈x.af,∃(c:Nat) (y:Nd),k=(c:Int)/\i<c/\ns[c]?=some y/\y.bB=(i:Int)
 sL:∀(i:Nat) x,ns[i]?=some x->x.af.Nodup
 dT:∀(i:Nat) x,ns[i]?=some x->x.bB=-1\/∃(p:Nat),x.bB=(p:Int)/\p<i
noncomputable def Nd.fk (xp:Nd)(at_:Nat)(k:Int):Nd:={xp with af:=xp.af.take at_++k::xp.af.drop at_}
def eV(ns:List Nd)(p:Nat)(xp:Nd)(at_:Nat)(x:Nd):List Nd:=ns.set p (xp.fk at_ ns.length)++[{x with bB:=(p:Int)}]
theorem GK:(eV ns p xp at_ x).length=ns.length+1:=by unfold eV;simp
theorem jt(hp:p<ns.length)(i:Nat):(eV ns p xp at_ x)[i]?=if i=p then some (xp.fk at_ ns.length)else if i=ns.length then some {x with bB:=(p:Int)}else ns[i]?:=by
 unfold eV;rw[List.getElem?_append,agn];by_cases h:i<ns.length
 ·rw[if_pos h,agz];by_cases q:p=i
  ·rw[if_pos q,if_pos (q▸hp),if_pos q.symm]
  ·rw[if_neg q,if_neg (Ne.symm q),if_neg (by exact agg h)]
 ·rw[if_neg h,if_neg (by lia)];by_cases q:i=ns.length
  ·rw[if_pos q,q];simp
  ·rw[if_neg q,af1 (by simp;lia),af1 (by exact agh h)]
theorem Tb{xs:List α}:y∈xs.take n++k::xs.drop n↔y=k\/y∈xs:=by
 have h:y∈xs↔y∈xs.take n\/y∈xs.drop n:=by rw[<-afL,ahi]
 rw[afL,aht,h];constructor
 ·rintro (a|a|a)<;>simp[a]
 ·rintro (a|a|a)<;>simp[a]
theorem Tc{xs:List Int}(h:xs.Nodup)(hk:k∉xs):(xs.take n++k::xs.drop n).Nodup:=by
 have h2:(xs.take n++xs.drop n).Nodup:=by rw[ahi];exact h
 rw[List.nodup_append]at h2 ⊢;refine dR h2 λa b c=>?_;refine⟨a,?_,?_⟩
 ·rw[List.nodup_cons];exact⟨λq=>hk (agK q),b⟩
 ·intro x hx y hy;rcases aht.mp hy with q|q
  ·rw[q];intro e;exact hk (e▸List.mem_of_mem_take hx)
  ·exact c x hx y q
theorem nM.add{ns:List Nd}{p:Nat}(T:nM ns)(hp:ns[p]?=some xp)(hx:x.af=[]):nM (eV ns p xp at_ x):=by
 refine aI (afB.mp hp) λaY _=>?_;have up:∀(c:Nat) (y:Nd),ns[c]?=some y->∃y',(eV ns p xp at_ x)[c]?=some y'/\y'.bB=y.bB:=λc y e=>by
  rw[jt aY];refine aI (afB.mp e) λhc _=>?_;by_cases q:c=p
  ·rw[if_pos q];rw[q,hp]at e;cases e;exact⟨_,rfl,rfl⟩
  ·rw[if_neg q,if_neg (by exact agg hc)];exact⟨y,e,rfl⟩
 have new:∃y',(eV ns p xp at_ x)[ns.length]?=some y'/\y'.bB=(p:Int):=by rw[jt aY,if_neg (by exact Nat.ne_of_gt aY),if_pos rfl];exact⟨_,rfl,rfl⟩
 refine⟨λi z e k hk=>?_,λi z e=>?_,λi z e=>?_⟩
 ·rw[jt aY]at e;by_cases q:i=p
  ·rw[if_pos q]at e;cases e;rcases Tb.mp hk with h|h
   ·refine ao new λy' e1 e2=>?_;exact⟨ns.length,y',h,by exact q▸aY,e1,by rw[e2,q]⟩
   ·refine ed (T.b9 p xp hp k h) λc y e1 e2 e3 e4=>?_;refine ao (up c y e3) λy' e5 e6=>?_;exact⟨c,y',e1,by exact q▸e2,e5,by rw[e6,e4,q]⟩
  ·rw[if_neg q]at e;by_cases q2:i=ns.length
   ·rw[if_pos q2]at e;cases e;have:k∈x.af:=hk;replace this:=hx▸this;cases this
   ·rw[if_neg q2]at e;refine ed (T.b9 i z e k hk) λc y e1 e2 e3 e4=>?_;refine ao (up c y e3) λy' e5 e6=>?_;exact⟨c,y',e1,e2,e5,by rw[e6,e4]⟩
 ·rw[jt aY]at e;by_cases q:i=p
  ·rw[if_pos q]at e;cases e;refine Tc (T.sL p xp hp) λh=>?_;refine ed (T.b9 p xp hp _ h) λc y e1 e2 e3 e4=>?_;refine aI (afB.mp e3) λhc _=>?_;lia
  ·rw[if_neg q]at e;by_cases q2:i=ns.length
   ·rw[if_pos q2]at e;cases e;show x.af.Nodup;exact hx▸List.nodup_nil
   ·rw[if_neg q2]at e;exact T.sL i z e
 ·rw[jt aY]at e;by_cases q:i=p
  ·rw[if_pos q]at e;cases e;exact q▸T.dT p xp hp
  ·rw[if_neg q]at e;by_cases q2:i=ns.length
   ·rw[if_pos q2]at e;cases e;exact .inr ⟨p,rfl,by exact q2▸aY⟩
   ·rw[if_neg q2]at e;exact T.dT i z e
theorem nM.text(T:nM ns)(hp:ns[p]?=some x):nM (ns.set p {x with text:=t}):=by
 refine aI (afB.mp hp) λaY _=>?_;have get:∀i:Nat,(ns.set p {x with text:=t})[i]?=if i=p then some {x with text:=t}else ns[i]?:=λi=>by
  rw[agz];by_cases q:p=i
  ·rw[if_pos q,if_pos (q▸aY),if_pos q.symm]
  ·rw[if_neg q,if_neg (Ne.symm q)]
 have down:∀(i:Nat) z,(ns.set p {x with text:=t})[i]?=some z->∃z',ns[i]?=some z'/\z'.af=z.af/\z'.bB=z.bB:=λi z e=>by
  rw[get]at e;by_cases q:i=p
  ·rw[if_pos q]at e;apply sE e;exact q▸⟨x,hp,rfl,rfl⟩
  ·rw[if_neg q]at e;exact⟨z,e,rfl,rfl⟩
 refine⟨λi z e k hk=>?_,λi z e=>?_,λi z e=>?_⟩
 ·refine cN (down i z e) λz' e1 e2 e3=>?_;refine ed (T.b9 i z' e1 k (by exact e2▸hk)) λc y a1 a2 a3 a4=>?_;by_cases q:c=p
  ·refine⟨c,{x with text:=t},a1,a2,by rw[get,if_pos q],?_⟩;rw[q,hp]at a3;obtain rfl:=ack a3;exact a4
  ·exact⟨c,y,a1,a2,by rw[get,if_neg q];exact a3,a4⟩
 ·refine cN (down i z e) λz' e1 e2 e3=>?_;exact e2▸T.sL i z' e1
 ·refine cN (down i z e) λz' e1 e2 e3=>?_;exact e3▸T.dT i z' e1
theorem Td(b:B)(x:Nd)(hb:b.aa=ns++[x])(hl:b.aa.length<=1000000)(T:nM ns):∀(f:Nat) (u:Int),(u=-1\/∃(p:Nat),u=(p:Int)/\p+1<f/\p<ns.length)->1<=f->∃up,oT b f u=some up/\∀k∈up,∃c:Nat,k=(c:Int)/\c<ns.length:=λkK=>by
 induction kK with
 |zero=>exact λu _ h=>absurd h (by decide)
 |succ f ih=>
  rintro u h _;rewrite [oT];rcases h with h|⟨p,h1,h2,h3⟩
  ·subst h;exact⟨[],rfl,λk hk=>by cases hk⟩
  ·subst h1;have hne:(((p:Int)!=-1)=true):=by simp
   rw[if_pos hne];have e1:nd b (p:Int)=some ns[p]:=by unfold nd;rw[mB hl,hb,agb h3,afH h3]
   rw[e1];have Te:=T.dT p ns[p] (afH h3);obtain⟨up,e2,e3⟩:=ih ns[p].bB (by
    rcases Te with q|⟨q,q1,q2⟩
    ·exact .inl q
    ·exact .inr ⟨q,q1,by lia,by exact ads ‹_› (af8 ‹_›)⟩) (by lia)
   refine⟨(p:Int)::up,?_,λk hk=>?_⟩
   ·show(oT b f ns[p].bB).bind _=_;rw[e2];rfl
   ·cases hk with
    |head=>exact⟨p,rfl,h3⟩
    |tail _ hk=>exact e3 k hk
theorem Tf{k:Int}(h:k∉xs):aw xs k=false:=by unfold aw;rw[List.any_eq_false];intro x hx e;exact h ((afI.mp e)▸hx)
theorem GL{p:Nat}{at_:Nat}(hb:b.aa=ns++[x])(hp:ns[p]?=some xp)(hl:ns.length<900000)(hk:xp.af.length<=900000)(ha:at_<=xp.af.length):
  kQ b p xp ns.length at_=some {b with aa:=eV ns p xp at_ x}:=by
 refine aI (afB.mp hp) λaY _=>?_;unfold kQ;have gn:b.aa.length=ns.length+1:=by rw[hb];simp
 rw[if_pos ⟨dg hk,dg (by exact gn▸hl),by exact afZ _,by exact agP.mpr ha⟩];simp only[Int.toNat_natCast];have e1:nd (b.cq p {xp with af:=xp.af.take at_++(ns.length:Int)::xp.af.drop at_}) (ns.length:Int)=some x:=by unfold nd B.cq;rw[mB (by simp;lia)];simp only[hb];rw[agz,if_neg (by exact agg aY),agj (afD _)];simp
 rw[e1];simp only[Option.bind_some,B.cq,hb];refine afE some (afE (λz=>({b with aa:=z}:B)) ?_);unfold eV Nd.fk;rw[List.set_append_left _ _ aY,List.set_append_right _ _ (by simp)];simp
theorem GN{b:B}{ns:List Nd}{p:Nat}{xp x:Nd}{at_:Nat}{before:Int}(hb:b.aa=ns++[x])(T:nM ns)(hp:ns[p]?=some xp)(hx:x.bB=-1)(hl:ns.length<900000)(hk:xp.af.length<=900000)
  (Tg:(before=-1/\at_=xp.af.length)\/(∃ks,before≠-1/\xp.af=ks++[before]/\at_=ks.length)):
  iV b p ns.length before=some {b with aa:=eV ns p xp at_ x}:=by
 refine aI (afB.mp hp) λaY _=>?_;have gn:b.aa.length=ns.length+1:=by rw[hb];simp
 unfold iV;rw[if_neg (by
  rw[dg (by exact gn▸hl)];simp;lia)]
 have e1:nd b (p:Int)=some xp:=by unfold nd;rw[mB (by lia),hb,agb aY,hp]
 rw[e1];obtain⟨up,e2,e3⟩:=Td b x hb (by lia) T (b.aa.length+1) xp.bB (by
  rcases T.dT p xp hp with q|⟨q,q1,q2⟩
  ·exact .inl q
  ·exact .inr ⟨q,q1,by lia,by exact ads ‹_› (af8 ‹_›)⟩) (ahk _)
 simp only[Option.bind_some];rw[e2];simp only[Option.bind_some];rw[if_neg (by
  rw[Tf]
  ·decide
  ·intro h;refine ao (e3 _ h) λc e q=>?_;lia)]
 have e4:nd b (ns.length:Int)=some x:=by unfold nd;rw[mB (by lia),hb,agj (afD _)];simp
 rw[e4];simp only[Option.bind_some];rw[if_neg (by rw[hx];decide)];rcases Tg with⟨rfl,rfl⟩|⟨ks,h1,h2,rfl⟩
 ·rw[if_neg (by decide)];exact GL hb hp hl hk (afD _)
 ·rw[if_pos (by simp;exact h1)];have qL:xp.af.any (·==before)=true:=by rw[h2];simp
  rw[if_pos qL];refine cps λG k=>?_;refine ed (T.b9 p xp hp before (by rw[h2];simp)) λc y q1 q2 q3 q4=>?_;refine aI (afB.mp q3) λhc _=>?_;refine k ?_;rw[if_neg (by simp;lia)];have Th:xp.af.idxOf before=ks.length:=by have nd:=T.sL p xp hp;rw[h2]at nd ⊢;rw[List.nodup_append]at nd;have:before∉ks:=λq=>nd.2.2 _ q _ (.head _) rfl;rw[List.idxOf_append,if_neg this];simp
  rw[Th];exact GL hb hp hl hk (by rw[h2];simp)
def aH(b:B)(k:Int):Str:=((b.aa[k.toNat]?).map (·.name)).getD (S "")
structure Ok(b:B)(N:Nat):Prop where
 tree:nM b.aa
 el:∀k∈b.stack,∃(i:Nat) (x:Nd),k=(i:Int)/\b.aa[i]?=some x/\x.kind=S "element"/\x.d7=S "html"
 vc:b.stack.Pairwise (·<·)
 tab:∀st u t r,b.stack=st++u::t::r->aH b t=S "table"->∃(i:Nat) (x:Nd) (ks:List Int),u=(i:Int)/\b.aa[i]?=some x/\x.af=ks++[t]
 kind:∀(i:Nat) (x:Nd),b.aa[i]?=some x->0<i->x.kind=S "element"\/x.kind=S "text"
 zn:b.aa.length<=N
 ze:b.aK.length<=N
 zp:b.aQ.length<=N
 zs:b.stack.length<=N
 zk:∀(i:Nat) (x:Nd),b.aa[i]?=some x->x.af.length<=N
 zt:∀(i:Nat) (x:Nd),b.aa[i]?=some x->x.text.length<=N
theorem Ok.nd(O:Ok b N)(hN:N<=800000)(i:Nat):nd b (i:Int)=b.aa[i]?:=by exact mB (by have:=O.zn;exact bt (ads this hN)) i
theorem nN(O:Ok b N)(hN:N<=800000)(hk:k∈b.stack):∃(i:Nat) (x:Nd),k=(i:Int)/\b.aa[i]?=some x/\el b k=some x/\x.kind=S "element"/\x.name=aH b k:=by
 refine ed (O.el k hk) λi x h1 h2 h3 h4=>?_;refine⟨i,x,h1,h2,?_,h3,?_⟩
 ·unfold el;rw[h1,O.nd hN,h2];show(if _ then _ else _)=_;rw[if_pos ⟨h3,h4⟩]
 ·unfold aH;rw[h1,afM,h2];rfl
theorem xK{st:List Int}(h:b.stack=st++[k])(hz:b.stack.length<=900000):jR b=some k:=by unfold jR;rw[if_pos (dg hz),h];simp
theorem mD{N:Nat}(O:Ok b N)(hN:N<=800000){st:List Int}(h:b.stack=st++[k]):iD b=some (aH b k):=by unfold iD;rw[xK h (by have:=O.zs;exact bt (ads this hN))];refine gN (nN O hN (k:=k) (by rw[h];simp)) λi x h1 h2 h3 h4 h5=>?_;simp only[Option.bind_some];rw[h3,<-h5];rfl
theorem sM{st:List Int}(h:b.stack=st++[k])(hz:b.stack.length<=900000):gE b=some (k,{b with stack:=st}):=by delta gE gb;rw[h];simp only[List.getLast?_append,List.getLast?_singleton,Option.some_or,Option.bind_some,List.dropLast_concat];rw[<-h,if_pos (dg hz)];rfl
def fU(b:B)(p:Nat)(xp:Nd)(at_:Nat)(s:Str):B:=
 match(if 0<at_ then xp.af[at_-1]? else none)with
 |some k=>match b.aa[k.toNat]? with
  |some y=>if y.kind==S "text" then b.cq k.toNat {y with text:=y.text++s}else{b with aa:=eV b.aa p xp at_ (kP s)}
  |none=>{b with aa:=eV b.aa p xp at_ (kP s)}
 |none=>{b with aa:=eV b.aa p xp at_ (kP s)}
def iI(b:B)(p:Nat)(xp:Nd)(at_:Nat)(name:Str)(aX:List U):B:={b with aa:=eV b.aa p xp at_ (gU name aX),stack:=b.stack++[(b.aa.length:Int)]}
structure k8(b:B)(p:Nat)(xp:Nd)(before:Int)(at_:Nat):Prop where
 get:b.aa[p]?=some xp
 kind:xp.kind=S "element"
 ok:(before=-1/\at_=xp.af.length)\/(∃ks,before≠-1/\xp.af=ks++[before]/\at_=ks.length)
theorem k8.le(h:k8 b p xp before at_):at_<=xp.af.length:=by
 rcases h.ok with⟨_,rfl⟩|⟨ks,_,q,rfl⟩
 ·exact afD _
 ·rw[q];simp
theorem Ti(O:Ok b N)(hN:N<=800000)(h:k8 b p xp before at_)(s:Str):qr b p s before=some {b with aa:=eV b.aa p xp at_ (kP s)}:=by delta qr w7 kO;have:=O.zn;have:=O.zk p xp h.get;rw[if_pos (dg (by exact bt (ads ‹_› ‹_›)))];simp only[Option.bind_some];exact GN (ns:=b.aa) (x:=kP s) rfl O.tree h.get rfl (by lia) (by exact bt (ads this hN)) h.ok
theorem Tj(O:Ok b N)(hN:N<=800000)(h:k8 b p xp before at_):
  ((oU b p).bind λl=>uF b xp before l)=some (((if 0<at_ then xp.af[at_-1]? else none)).getD (-1)):=by
 have zk:=O.zk p xp h.get;have Tn:oU b p=some ((xp.af.getLast?).getD (-1)):=by
  unfold oU;rw[O.nd hN,h.get];simp only[Option.bind_some];rw[if_pos (dg (by exact bt (ads ‹_› ‹_›)))];cases e:xp.af with
  |nil=>rfl
  |cons a r=>rw[if_neg (by simp)];simp[List.getLast?_cons]
 rw[Tn];simp only[Option.bind_some];unfold uF;rcases h.ok with⟨rfl,rfl⟩|⟨ks,h1,h2,rfl⟩
 ·rw[if_neg (by decide)];rw[List.getLast?_eq_getElem?];by_cases q:0<xp.af.length
  ·rw[if_pos q]
  ·rw[if_neg q,af1 (by lia)]
 ·rw[if_pos (by simpa using h1)];refine ed (O.tree.b9 p xp h.get before (by rw[h2];simp)) λc y q1 q2 q3 q4=>?_;have To:uD b before=some (ks.length:Int):=by unfold uD;rw[q1,O.nd hN,q3];simp only[Option.bind_some];have hne:((p:Int)==-1)=false:=afK.mpr (by exact nofun);rw[q4];simp only[hne,Bool.false_eq_true,if_false];rw[O.nd hN,h.get];simp only[Option.bind_some];rw[if_pos ⟨by rw[h2,q1];simp,dg (by exact bt (Nat.le_trans ‹_› ‹_›))⟩];have nd:=O.tree.sL p xp h.get;rw[h2]at nd ⊢;rw[List.nodup_append]at nd;have:before∉ks:=λq=>nd.2.2 _ q _ (.head _) rfl;rw[<-q1,List.idxOf_append,if_neg this];simp
  rw[To];simp only[Option.bind_some];by_cases hz:0<ks.length
  ·rw[if_pos (by simp;exact hz),if_pos hz];have e0:((ks.length:Int)-1)=((ks.length-1:Nat):Int):=by lia
   rw[e0,mB (by exact bt (ads ‹_› ‹_›))];have aY:ks.length-1<xp.af.length:=by rw[h2];simp;lia
   rw[afH aY];rfl
  ·rw[if_neg (by simp at hz ⊢;exact hz),if_neg hz];rfl
theorem GO(O:Ok b N)(hN:N<=800000)(h:k8 b p xp before at_)(hs:s.length<=1)(hp:kf b=some ((p:Int),before)):jk b s=some (fU b p xp at_ s):=by
 have zk:=O.zk p xp h.get;have zn:=O.zn;have Tp:(xp.kind==S "document")=false:=by rw[h.kind,u9];rfl
 have ha:=Tj O hN h;refine bE ha λl hl ha=>?_;have hb:∀{α β:Type} {o:Option α} {v:α} (f:α->Option β) (_:o=some v),o.bind f=f v:=λf e=>by rw[e];rfl
 have hi:∀{α:Type} {c:Bool} (x y:α) (_:c=false),(if c=true then x else y)=y:=λx y e=>by rw[e];rfl
 have hT:∀{α:Type} {c:Bool} (x y:α) (_:c=true),(if c=true then x else y)=x:=λx y e=>by rw[e];rfl
 refine(hb _ hp).trans ?_;refine(hb _ ((O.nd hN p).trans h.get)).trans ?_;refine(hi _ _ Tp).trans ?_;refine(hb _ hl).trans ?_;refine(hb _ ha).trans ?_;delta fU;dsimp only;have nt:=Ti O hN h s;cases hk:(if 0<at_ then xp.af[at_-1]? else none)with
 |none=>
  exact(hi _ _ rfl).trans nt
 |some k=>
  have qL:k∈xp.af:=by
   by_cases q:0<at_
   ·rw[if_pos q]at hk;exact agv hk
   ·rw[if_neg q]at hk;exact ag hk
  refine ed (O.tree.b9 p xp h.get k qL) λc y q1 q2 q3 q4=>?_;have hne:((c:Int)!=-1)=true:=bne_iff_ne.mpr (by lia);subst q1;refine(hT _ _ hne).trans ?_;refine(hb _ ((O.nd hN c).trans q3)).trans ?_;simp only[Int.toNat_natCast,q3];cases ht:(y.kind==S "text")with
  |true=>
   have:=O.zt c y q3;refine(hT _ _ rfl).trans ?_;exact if_pos ⟨dg (by lia),by lia⟩
  |false=>
   exact(hi _ _ rfl).trans nt
theorem GP(O:Ok b N)(hN:N<=800000)(h:k8 b p xp before at_)(hn:name≠S "template")(ha:aX.length<=1000)(hp:kf b=some ((p:Int),before)):
  jS b name aX=some ((b.aa.length:Int),iI b p xp at_ name aX):=by
 have zk:=O.zk p xp h.get;have zn:=O.zn;have zs:=O.zs;unfold jS;rw[hp];simp only[Option.bind_some];delta ke kO;rw[if_neg (by
  rw[dg (ads ‹_› (by decide))];simp[hn]),if_pos (dg (by exact bt (ads zn hN)))]
 simp only[Option.bind_some];rw[GN (ns:=b.aa) (x:=gU name aX) rfl O.tree h.get rfl (by lia) (by exact bt (ads zk hN)) h.ok];simp only[Option.bind_some];unfold qp;rw[if_pos (dg (by show b.stack.length<=_;exact bt (ads zs hN)))];rfl
theorem GQ:(eV ns p xp at_ x).map dw=(ns.map dw).set p {dw xp with af:=(dw xp).af.take at_++(((ns.map dw).length:Nat):Int)::(dw xp).af.drop at_}++[dw x]:=by unfold eV;rw[afR,List.map_set,afA];rfl
theorem GR(O:Ok b N)(hN:N<=800000)(pk rk:Nat)(old:Option (List Str))(i:Nat):jq (aE b pk rk old) (i:Int)=(b.aa[i]?).map dw:=by delta jq aE;rw[mB (by rw[afA];have:=O.zn;exact bt (ads ‹_› ‹_›)),afX]
theorem qM(O:Ok b N)(hN:N<=800000)(pk rk:Nat)(old:Option (List Str)){i:Nat}(h:b.aa[i]?=some x)(hk:x.kind=S "element"):c6 (aE b pk rk old) (i:Int)=some (dw x):=by unfold c6;rw[GR O hN,h];simp only[Option.map_some,Option.bind_some];rw[if_neg (by delta dw;dsimp only;rw[hk];simp)]
theorem Tt(O:Ok b N)(pk rk:Nat)(old:Option (List Str)){p:Nat}{j:Nat}(h:b.aa[p]?=some xp)(hk:xp.af[j]?=some k):nK (aE b pk rk old) p j k=true:=by
 unfold nK;rw[afF];intro a ha;cases e:(aE b pk rk old).aa[a]? with
 |none=>rfl
 |some x=>
  have e':(b.aa.map dw)[a]?=some x:=e;rw[afX]at e';refine ao (age.mp e') λy e1 aP=>?_;subst aP;simp only[Bool.or_eq_true];right;rw[afF];intro c hc;cases e2:(dw y).af[c]? with
  |none=>rfl
  |some z=>
   have e3:y.af[c]?=some z:=e2;simp only[Bool.or_eq_true];by_cases q:z=k
   ·right;subst q;refine ed (O.tree.b9 p xp h z (agv hk)) λi1 y1 a1 a2 a3 a4=>?_;refine ed (O.tree.b9 a y e1 z (agv e3)) λi2 y2 b1 b2 b3 b4=>?_;have:i1=i2:=by exact Int.ofNat_inj.mp (a1.symm.trans b1)
    subst this;rw[a3]at b3;obtain rfl:=ack b3;have Tu:a=p:=by exact Int.ofNat_inj.mp (b4.symm.trans a4)
    subst Tu;rw[h]at e1;obtain rfl:=ack e1;have:=(List.getElem?_inj (afB.mp e3).1 (O.tree.sL a xp h)).mp (e3.trans hk.symm);simp[this]
   ·left;simp[q]
theorem Bq(O:Ok b N)(pk rk:Nat)(old:Option (List Str)):valid (aE b pk rk old)=true:=by
 unfold valid;have e1:(aE b pk rk old).aa.length=b.aa.length:=afA ..;rw[afz,afF,afF,e1];constructor
 ·intro k hk;refine cV (O.el k hk) λi x h1 h2 _=>?_;refine aI (afB.mp h2) λh _=>?_;rw[afz,af5,af5];exact⟨h1▸afZ _,h1▸ag6.mpr h⟩
 ·intro y hy;have Br:y∈b.aa.map dw:=hy;refine ao (af7.mp Br) λx hx aP=>?_;subst aP;refine aI (List.mem_iff_getElem?.mp hx) λi hi=>?_;rw[afF];intro k hk;refine ed (O.tree.b9 i x hi k hk) λc z h1 h2 h3 h4=>?_;refine aI (afB.mp h3) λh _=>?_;rw[afz,af5,af5];exact⟨h1▸afZ _,h1▸ag6.mpr h⟩
theorem GS{b:B}{N:Nat}(O:Ok b N)(hN:N<=800000)(pk rk:Nat)(old:Option (List Str)){p:Nat}{xp:Nd}{at_:Nat}{s:Str}(hs:s.length<=1)(h:b.aa[p]?=some xp)(hk:xp.kind=S "element")(ha:at_<=xp.af.length):
  gw (aE b pk rk old) p at_ s=some (aE (fU b p xp at_ s) pk rk old):=by
 have zk:=O.zk p xp h;have zn:=O.zn;unfold gw;rw[qM O hN pk rk old h hk];simp only[Option.bind_some];have e0:(dw xp).af=xp.af:=rfl;have e1:(aE b pk rk old).aa.length=b.aa.length:=afA ..;have xM:(if aC (dw xp).af.length=true/\valid (aE b pk rk old)=true/\0<=(at_:Int)/\(at_:Int)<=((dw xp).af.length:Int)then
  some {aE b pk rk old with aa:=((aE b pk rk old).aa.set (p:Int).toNat {dw xp with af:=(dw xp).af.take (at_:Int).toNat++(((aE b pk rk old).aa.length:Nat):Int)::(dw xp).af.drop (at_:Int).toNat})++[⟨true,S "",[],s,[]⟩]}else none)=some (aE {b with aa:=eV b.aa p xp at_ (kP s)} pk rk old):=by
  rw[if_pos ⟨dg (by rw[e0];exact bt (ads zk hN)),Bq O pk rk old,by exact afZ _,by rw[e0];exact agP.mpr ha⟩];simp only[Int.toNat_natCast];unfold aE;simp only[GQ];have:dw (kP s)=⟨true,S "",[],s,[]⟩:=afE (λc=>LN.mk c (S "") [] s []) (by kernel_rfl:(S "text"!=S "element")=true);rw[this]
 unfold fU;by_cases q:0<at_
 ·have e5:((at_:Int)-1)=((at_-1:Nat):Int):=by exact(ahr q).symm
  rw[if_pos (by simp;exact q),if_pos q,e5,e0,mB (by exact bt (ads zk hN))];have aY:at_-1<xp.af.length:=by lia
  rw[afH aY];simp only[Option.bind_some];refine ed (O.tree.b9 p xp h xp.af[at_-1] (ag8 aY)) λc y q1 q2 q3 q4=>?_;rw[q1,GR O hN,q3,afM,q3];simp only[Option.map_some,Option.bind_some];rcases O.kind c y q3 (by exact Nat.le_of_add_left_le q2)with hy|hy
  ·have ht:(dw y).tx=false:=by delta dw;dsimp only;rw[hy];simp
   have qN:(y.kind==S "text")=false:=by rw[hy,u9];rfl
   simp only[ht,qN,Bool.false_eq_true,if_false];replace xM:=e0▸xM;exact xM
  ·have zt:=O.zt c y q3;have ht:(dw y).tx=true:=by delta dw;dsimp only;rw[hy,bne,u9];rfl
   have qN:(y.kind==S "text")=true:=by rw[hy];simp
   simp only[ht,qN,if_true];rw[if_pos ⟨dg (by exact bt (ads zk hN)),Bq O pk rk old,Tt O pk rk old h (q1▸afH aY),by show y.text.length+_<=_;lia⟩];unfold LS.cq B.cq aE;simp only[List.map_set,Int.toNat_natCast];have e9:dw {y with text:=y.text++s}=⟨true,(dw y).name,(dw y).aX,(dw y).text++s,(dw y).af⟩:=by rw[<-ht];rfl
   rw[e9]
 ·rw[if_neg (by simp;exact Nat.eq_zero_of_not_pos q),if_neg q];exact xM
theorem GU{b:B}{N:Nat}(O:Ok b N)(hN:N<=800000)(pk rk:Nat)(old:Option (List Str)){p:Nat}{xp:Nd}{at_:Nat}{name:Str}{aX:List U}(qO:aX.length<=1000)(h:b.aa[p]?=some xp)(hk:xp.kind=S "element")(ha:at_<=xp.af.length):
  ki (aE b pk rk old) p at_ name aX=some (aE (iI b p xp at_ name aX) pk rk old):=by
 have zk:=O.zk p xp h;have zn:=O.zn;have zs:=O.zs;unfold ki;rw[qM O hN pk rk old h hk];simp only[Option.bind_some];have e0:(dw xp).af=xp.af:=rfl;have e1:(aE b pk rk old).aa.length=b.aa.length:=afA ..;rw[if_pos ⟨dg (by rw[e0];exact bt (ads ‹_› ‹_›)),Bq O pk rk old,dg (by show b.stack.length<=_;exact bt (ads ‹_› ‹_›)),dg (ads ‹_› (by decide)),by rw[e0];exact ha⟩];delta iI aE;simp only[GQ,Int.toNat_natCast,List.length_map];have:dw (gU name aX)=⟨false,name,aX,S "",[]⟩:=by delta dw gU;simp
 rw[this]
theorem vd(h:b'.aa=b.aa)(k:Int):aH b' k=aH b k:=by unfold aH;rw[h]
theorem Ok.same(O:Ok b N)(hn:b'.aa=b.aa)(hs:b'.stack<+:b.stack)(he:b'.aK.length<=M)(hp:b'.aQ.length<=M)(xN:N<=M):Ok b' M:=by
 refine aI hs λr hr=>?_;refine⟨by rw[hn];exact O.tree,λk hk=>by rw[hn];exact O.el k (by rw[<-hr];simp[hk]),?_,λst u t r' e ht=>?_,by rw[hn];exact O.kind,by rw[hn];exact ads O.zn xN,he,hp,?_,λi x e=>ads (O.zk i x (by rw[<-hn];exact e)) xN,λi x e=>ads (O.zt i x (by rw[<-hn];exact e)) xN⟩
 ·have:=O.vc;rw[<-hr,List.pairwise_append]at this;exact this.1
 ·rw[vd hn]at ht;rw[hn];exact O.tab st u t (r'++r) (by rw[<-hr,e];simp) ht
 ·have:=O.zs;rw[<-hr,afC]at this;exact ads (agl this) xN
theorem Tv(O:Ok b N){st:List Int}(h:b.stack=st++u::t::r)(h':b.stack=k9++[p]):u<p:=by
 have i:=O.vc;have e:st++u::t::r=k9++[p]:=h.symm.trans h';rw[h,List.pairwise_append]at i;have:=i.2.1;rw[List.pairwise_cons]at this;have hp:p∈t::r:=by
  have:(st++u::t::r).getLast?=some p:=by rw[e];simp
  rw[List.getLast?_append]at this;simp only[List.getLast?_cons_cons]at this;cases q:(t::r).getLast? with
  |none=>simp at q
  |some z=>
   rw[q]at this;simp at this;exact this▸List.mem_of_getLast? q
 exact this.1 p hp
theorem Bt(O:Ok b N)(hk:k∈b.stack):k<b.aa.length:=by refine cV (O.el k hk) λi x h1 h2 _=>?_;refine aI (afB.mp h2) λh _=>?_;exact h1▸ag6.mpr h
theorem sN{st:List Int}(hp:b.aa[p]?=some xp)(i:Nat):aH {b with aa:=eV b.aa p xp at_ x,stack:=st} (i:Int)=if i=b.aa.length then x.name else aH b (i:Int):=by
 refine aI (afB.mp hp) λaY _=>?_;unfold aH;dsimp only;rw[afM,jt aY];by_cases q:i=p
 ·rw[if_pos q,if_neg (by exact agg (q▸aY)),q,hp];rfl
 ·rw[if_neg q];by_cases q2:i=b.aa.length
  ·rw[if_pos q2,if_pos q2];rfl
  ·rw[if_neg q2,if_neg q2]
theorem Ok.add(O:Ok b N){at_:Nat}(h:k8 b p xp before at_)(hx:x.af=[])(hk:x.kind=S "element"\/x.kind=S "text")(Tw:x.text.length<=M)
  (h1:∀st u t r,b.stack=st++u::t::r->aH b t=S "table"->u=(p:Int)->before=t)(hM:N+1<=M):Ok {b with aa:=eV b.aa p xp at_ x} M:=by
 refine aI (afB.mp h.get) λaY _=>?_;have zn:=O.zn;refine⟨O.tree.add h.get hx,λk hk=>?_,O.vc,λst u t r e ht=>?_,λi y e hi=>?_,?_,by have:=O.ze;show b.aK.length<=M;exact ads this (af8 hM),by have:=O.zp;show b.aQ.length<=M;exact ads this (af8 hM),by have:=O.zs;show b.stack.length<=M;exact ads this (af8 hM),λi y e=>?_,λi y e=>?_⟩
 ·refine ed (O.el k hk) λi y a1 a2 a3 a4=>?_;refine aI (afB.mp a2) λhi _=>?_;by_cases q:i=p
  ·refine⟨i,xp.fk at_ b.aa.length,a1,by rw[jt aY,if_pos q],?_⟩;rw[q,h.get]at a2;obtain rfl:=ack a2;exact⟨a3,a4⟩
  ·exact⟨i,y,a1,by rw[jt aY,if_neg q,if_neg (by exact agg hi)];exact a2,a3,a4⟩
 ·have Bu:t∈b.stack:=by have e':b.stack=st++u::t::r:=e;rw[e'];simp
  refine cV (O.el t Bu) λti y a1 a2 _=>?_;refine aI (afB.mp a2) λhi _=>?_;have e2:aH {b with aa:=eV b.aa p xp at_ x} t=aH b t:=by exact a1▸(sN (st:=b.stack) h.get ti).trans (if_neg (by exact agg hi))
  replace ht:=e2▸ht;refine ef (O.tab st u t r e ht) λi z ks c1 c2 c3=>?_;dsimp only;by_cases q:i=p
  ·subst q;rw[h.get]at c2;obtain rfl:=ack c2;have hb:=h1 st u t r e ht c1;rcases h.ok with⟨hb',_⟩|⟨GV,_,k2,k3⟩
   ·lia
   ·subst hb;have:ks=GV:=by have:=c3.symm.trans k2;simpa using this
    subst this;refine⟨i,xp.fk at_ b.aa.length,ks++[(b.aa.length:Int)],c1,by rw[jt aY,if_pos rfl],?_⟩;unfold Nd.fk;rw[c3,k3];simp
  ·refine aI (afB.mp c2) λmE _=>?_;exact⟨i,z,ks,c1,by rw[jt aY,if_neg q,if_neg (by exact agg mE)];exact c2,c3⟩
 ·dsimp only at e;rw[jt aY]at e;by_cases q:i=p
  ·rw[if_pos q]at e;apply sE e;exact .inl h.kind
  ·rw[if_neg q]at e;by_cases q2:i=b.aa.length
   ·rw[if_pos q2]at e;apply sE e;exact hk
   ·rw[if_neg q2]at e;exact O.kind i y e hi
 ·show(eV _ _ _ _ _).length<=M;rw[GK];exact ahf zn hM
 ·dsimp only at e;rw[jt aY]at e;by_cases q:i=p
  ·rw[if_pos q]at e;apply sE e;have:=O.zk p xp h.get;unfold Nd.fk;exact(Oz _ _ _).symm▸ads (af9 this) hM
  ·rw[if_neg q]at e;by_cases q2:i=b.aa.length
   ·rw[if_pos q2]at e;apply sE e;show x.af.length<=M;exact hx▸afO _
   ·rw[if_neg q2]at e;have:=O.zk i y e;exact ads this (af8 hM)
 ·dsimp only at e;rw[jt aY]at e;by_cases q:i=p
  ·rw[if_pos q]at e;apply sE e;have:=O.zt p xp h.get;show xp.text.length<=M;exact ads this (af8 hM)
  ·rw[if_neg q]at e;by_cases q2:i=b.aa.length
   ·rw[if_pos q2]at e;apply sE e;exact Tw
   ·rw[if_neg q2]at e;have:=O.zt i y e;exact ads this (af8 hM)
theorem Ok.iI(O:Ok b N){at_:Nat}(h:k8 b p xp before at_)
  (h1:∀st u t r,b.stack=st++u::t::r->aH b t=S "table"->u=(p:Int)->before=t)(h2:name=S "table"->before=-1/\∃st,b.stack=st++[(p:Int)])(hM:N+1<=M):Ok (iI b p xp at_ name aX) M:=by
 have A:=O.add (M:=M) (x:=gU name aX) h rfl (.inl rfl) (afO _) h1 hM;refine aI (afB.mp h.get) λaY _=>?_;unfold Mine.iI;refine⟨A.tree,λk hk=>?_,?_,λst u t r e ht=>?_,A.kind,A.zn,A.ze,A.zp,?_,A.zk,A.zt⟩
 ·rcases afL.mp hk with q|q
  ·exact A.el k q
  ·rw[af0]at q;refine⟨b.aa.length,{gU name aX with bB:=(p:Int)},q,?_,rfl,rfl⟩;rw[jt aY,if_neg (by exact Nat.ne_of_gt aY),if_pos rfl]
 ·show(b.stack++[(b.aa.length:Int)]).Pairwise (·<·);rw[List.pairwise_append];refine⟨O.vc,by simp,λa ha c hc=>?_⟩;rw[af0]at hc;rw[hc];exact Bt O ha
 ·have e':b.stack++[(b.aa.length:Int)]=st++u::t::r:=e;have e2:=sN (b:=b) (at_:=at_) (x:=gU name aX) (st:=b.stack++[(b.aa.length:Int)]) h.get;rcases agi r with q|⟨r',z,q⟩
  ·subst q;have e3:b.stack++[(b.aa.length:Int)]=(st++[u])++[t]:=by rw[e'];simp
   refine aU (ag9 e3 rfl) λe4 e5=>?_;have e6:t=(b.aa.length:Int):=by simpa using e5.symm
   rw[e6,e2,if_pos rfl]at ht;obtain⟨hb,k9,Tx⟩:=h2 ht;have e7:st++[u]=k9++[(p:Int)]:=e4.symm.trans Tx;refine aU (ag9 e7 rfl) λ_ e8=>?_;have e9:u=(p:Int):=by simpa using e8
   refine⟨p,xp.fk at_ b.aa.length,xp.af,e9,?_,?_⟩
   ·dsimp only;rw[jt aY,if_pos rfl]
   ·rcases h.ok with⟨_,q⟩|⟨ks,q,_⟩
    ·unfold Nd.fk;rw[q,e6];simp
    ·exact(q hb).elim
  ·have e3:b.stack++[(b.aa.length:Int)]=(st++u::t::r')++[z]:=by rw[e',q];simp
   refine aU (ag9 e3 rfl) λe4 _=>?_;have Bu:t∈b.stack:=by rw[e4];simp
   refine cV (O.el t Bu) λti y a1 a2 _=>?_;refine aI (afB.mp a2) λhi _=>?_;refine A.tab st u t r' e4 ?_;rw[a1]at ht ⊢;have e5:=sN (b:=b) (at_:=at_) (x:=gU name aX) (st:=b.stack) h.get ti;rw[if_neg (by exact agg hi)]at e5;rw[e2,if_neg (by exact agg hi)]at ht;exact e5.trans ht
 ·show(b.stack++[(b.aa.length:Int)]).length<=M;rw[afC,afW];have:=O.zs;exact ahf this hM
theorem Ok.fU(O:Ok b N)(hs:s.length<=1)(h:k8 b p xp before at_)
  (h1:∀st u t r,b.stack=st++u::t::r->aH b t=S "table"->u=(p:Int)->before=t)(hM:N+1<=M):Ok (fU b p xp at_ s) M:=by
 have A:=O.add (M:=M) (x:=kP s) h rfl (.inr rfl) (by show s.length<=M;lia) h1 hM;unfold Mine.fU;cases hk:(if 0<at_ then xp.af[at_-1]? else none)with
 |none=>exact A
 |some k=>
  have qL:k∈xp.af:=by
   by_cases q:0<at_
   ·rw[if_pos q]at hk;exact agv hk
   ·rw[if_neg q]at hk;exact ag hk
  refine ed (O.tree.b9 p xp h.get k qL) λc y q1 q2 q3 q4=>?_;subst q1;simp only[Int.toNat_natCast,q3];cases ht:(y.kind==S "text")with
  |false=>rw[if_neg (by decide)];exact A
  |true=>
   rw[if_pos rfl];have hy:y.kind=S "text":=afI.mp ht;refine aI (afB.mp q3) λhc _=>?_;have get:∀i:Nat,(b.cq c {y with text:=y.text++s}).aa[i]?=if i=c then some {y with text:=y.text++s}else b.aa[i]?:=λi=>by
    unfold B.cq;rw[agz];by_cases q:c=i
    ·rw[if_pos q,if_pos (q▸hc),if_pos q.symm]
    ·rw[if_neg q,if_neg (Ne.symm q)]
   have nm:∀k,aH (b.cq c {y with text:=y.text++s}) k=aH b k:=λk=>by
    unfold aH;rw[get];by_cases q:k.toNat=c
    ·rw[if_pos q,q,q3];rfl
    ·rw[if_neg q]
   refine⟨O.tree.text q3,λk hk=>?_,O.vc,λst u t r e GW=>?_,λi z e hi=>?_,?_,by have:=O.ze;show b.aK.length<=M;exact ads this (af8 hM),by have:=O.zp;show b.aQ.length<=M;exact ads this (af8 hM),by have:=O.zs;show b.stack.length<=M;exact ads this (af8 hM),λi z e=>?_,λi z e=>?_⟩
   ·refine ed (O.el k hk) λi z a1 a2 a3 a4=>?_;by_cases q:i=c
    ·exfalso;rw[q,q3]at a2;obtain rfl:=ack a2;rw[hy,Bp]at a3;exact absurd a3 (by decide)
    ·exact⟨i,z,a1,by rw[get,if_neg q];exact a2,a3,a4⟩
   ·rw[nm]at GW;refine ef (O.tab st u t r e GW) λi z ks c1 c2 c3=>?_;by_cases q:i=c
    ·rw[q,q3]at c2;obtain rfl:=ack c2;exact⟨i,{y with text:=y.text++s},ks,c1,by rw[get,if_pos q],c3⟩
    ·exact⟨i,z,ks,c1,by rw[get,if_neg q];exact c2,c3⟩
   ·rw[get]at e;by_cases q:i=c
    ·rw[if_pos q]at e;apply sE e;exact .inr hy
    ·rw[if_neg q]at e;exact O.kind i z e hi
   ·unfold B.cq;rw[agn];have:=O.zn;exact ads this (af8 hM)
   ·rw[get]at e;by_cases q:i=c
    ·rw[if_pos q]at e;apply sE e;have:=O.zk c y q3;show y.af.length<=M;exact ads this (af8 hM)
    ·rw[if_neg q]at e;have:=O.zk i z e;exact ads this (af8 hM)
   ·rw[get]at e;by_cases q:i=c
    ·rw[if_pos q]at e;apply sE e;have:=O.zt c y q3;show(y.text++s).length<=M;have e9:(y.text++s).length=y.text.length+s.length:=by show(y.text.cps++s.cps).size=_;rw[Array.size_append];rfl
     lia
    ·rw[if_neg q]at e;have:=O.zt i z e;exact ads this (af8 hM)
theorem Tz(O:Ok b N){name:Str}(hp:b.aa[p]?=some xp)(hk:k∈b.stack):aH (iI b p xp at_ name aX) k=aH b k:=by have hl:=Bt O hk;refine cV (O.el k hk) λi x h1 h2 _=>?_;exact h1▸(sN hp i).trans (if_neg (by lia))
theorem TA{aX:List U}(hp:b.aa[p]?=some xp):aH (iI b p xp at_ name aX) (b.aa.length:Int)=name:=
 (sN hp _).trans (if_pos rfl)
theorem GX(O:Ok b N){s:Str}(hp:b.aa[p]?=some xp)(hk:k∈b.stack):aH (fU b p xp at_ s) k=aH b k:=by
 have hl:=Bt O hk;refine cV (O.el k hk) λi x h1 h2 _=>?_;have A:aH {b with aa:=eV b.aa p xp at_ (kP s)} k=aH b k:=by rw[h1];exact(sN (st:=b.stack) hp i).trans (if_neg (by lia))
 unfold fU;split
 ·split
  ·split
   ·rename_i y hy ht;unfold aH B.cq;rw[agz];split
    ·rename_i q;rw[<-q,hy];refine aI (afB.mp hy) λaY _=>?_;rw[if_pos aY];rfl
    ·rfl
   ·exact A
  ·exact A
 ·exact A
def ap(l:List Str):Prop:=∀x∈l,x=S "a"\/x=S "p"
def Bv:List Str:=[S "tbody",S "thead",S "tfoot"]
def TB:List Str:=[S "td",S "th"]
def nO:List (List Str×Str):=([S "caption"],S "in caption")::Bv.flatMap λx=>TB.map λc=>([x,S "tr",c],S "in cell")
def plainT:List (List Str×Str):=([],S "in table")::(Bv.map λx=>([x],S "in table body"))++Bv.map λx=>([x,S "tr"],S "in row")
def xO:List (List Str×Str):=[([S "colgroup"],S "in column group")]
def lU:List (List Str×Str):=nO++(plainT++xO)
def Holds(ps:List Str)(m:Str):Prop:=(ps,m)∈nO
def qP(ps:List Str)(m:Str):Prop:=(ps,m)∈plainT
def eZ(ps:List Str)(m:Str):Prop:=(ps,m)∈lU
theorem eZ.holds(h:Holds ps m):eZ ps m:=afL.mpr (.inl h)
theorem eZ.plain(h:qP ps m):eZ ps m:=afL.mpr (.inr (afL.mpr (.inl h)))
theorem eZ.TC:eZ [S "colgroup"] (S "in column group"):=afL.mpr (.inr (afL.mpr (.inr (.head _))))
theorem eW{T:List α}(h:T.all f=true){x:α}(hp:x∈T):f x=true:=afF.mp h _ hp
inductive dX:List Str->Str->Prop
 |base {inl:List Str} (h:ap inl):dX (S "html"::S "body"::inl) (S "in body")
 |tab {pre aR inl:List Str} {m m':Str} (h:dX pre m') (hp:Holds aR m) (ha:ap inl):dX (pre++S "table"::(aR++inl)) m
theorem lb:ap []:=λ_ h=>nomatch h
theorem ve:ap (a++b)↔ap a/\ap b:=agx
def TF(x:Str):Bool:=x==S "a"||x==S "p"
theorem xP(h:ap l){f:Str->Bool}(ha:f (S "a")=true)(hp:f (S "p")=true):∀x∈l,f x=true:=λx hx=>(h x hx).elim (λe=>e▸ha) λe=>e▸hp
theorem km{x:Str}:aw xs x=true↔x∈xs:=aho.trans ⟨λ⟨_,a,e⟩=>afI.mp e▸a,λh=>⟨x,h,agA x⟩⟩
theorem iY{x:Str}:aw xs x=false↔x∉xs:=by rw[<-Bool.not_eq_true,km]
theorem GY(h:ap l){x:Str}(hx:aw [S "a",S "p"] x=false):x∉l:=λq=>by have:=iY.mp hx;rcases h _ q with e|e<;>rw[e]at this<;>simp at this
theorem TG:lU.all (λp=>!aw p.1 (S "table"))=true:=rfl
theorem TH:lU.all (λp=>p.1.all (aw iH))=true:=rfl
theorem GZ{m:Str}(h:eZ ps m)(hx:lU.all (λp=>!aw p.1 x)=true):x∉ps:=by have:=eW hx h;rw[afY]at this;exact iY.mp this
theorem TJ{m:Str}(h:eZ ps m):∀x∈ps,aw iH x=true:=afF.mp (eW TH h)
theorem G0(h:S "table"∉l):∀(i p:Int),ie l i p=p:=by
 induction l with
 |nil=>intro i p;rfl
 |cons x r ih=>
  intro i p;rewrite [ie];rw[afK.mpr λe=>h (by rw[e];exact .head _),if_neg (by decide)];exact ih (λq=>h (.tail _ q)) _ _
theorem G1:∀(i p:Int),ie (a++b) i p=ie b (i+a.length) (ie a i p):=by
 induction a with
 |nil=>intro i p;rw[show i+(([]:List Str).length:Int)=i from Int.add_zero i];rfl
 |cons x r ih=>
  intro i p;rw[agV,ie,ie,ih,af6,Int.natCast_add,Int.add_assoc,Int.add_comm 1];rfl
theorem G2(h:S "table"∉post):cJ (pre++S "table"::post)=pre.length:=by unfold cJ;rw[G1,ie,if_pos (agA _),G0 h,Int.zero_add]
theorem TL(h:S "table"∉l):cJ l=-1:=G0 h 0 (-1)
theorem TM(h:S "table"∉post):cR (pre++S "table"::post)=post.filter (aw iH):=by unfold cR;rw[G2 h,if_pos (afZ _),show((pre.length:Int)+1).toNat=pre.length+1 from rfl,<-List.drop_drop,List.drop_left];rfl
theorem TN{m:Str}(h:eZ ps m)(ha:ap inl):(ps++inl).filter (aw iH)=ps:=by
 rw[List.filter_append,agN.mpr (TJ h),List.filter_eq_nil_iff.mpr (λx hx=>by
  have:=xP (f:=λx=>!aw iH x) ha rfl rfl x hx;rw[afY]at this;rw[this];decide),afU]
theorem G3(h:eZ ps m)(ha:ap inl):S "table"∉ps++inl:=λq=>(afL.mp q).elim (GZ h TG) (GY ha rfl)
theorem Bw(h:eZ ps m)(ha:ap inl):cJ (pre++S "table"::(ps++inl))=pre.length:=G2 (G3 h ha)
theorem Bx(h:eZ ps m)(ha:ap inl):cR (pre++S "table"::(ps++inl))=ps:=by rw[TM (G3 h ha),TN h ha]
theorem G4(h:ap inl):∀m,inl.foldl jr m=m:=by
 induction inl with
 |nil=>intro m;rfl
 |cons x r ih=>
  intro m;have:jr m x=m:=by rcases h x (.head _)with e|e<;>rw[e]<;>kernel_rfl
  rw[List.foldl_cons,this];exact ih (λy hy=>h y (.tail _ hy)) m
theorem TO:lU.all (λp=>p.1.foldl jr (S "in table")==p.2)=true:=by kernel_rfl
theorem TP{m:Str}(h:eZ ps m):ps.foldl jr (S "in table")=m:=afI.mp (eW TO h)
theorem xQ(h:eZ ps m)(ha:ap inl):dH (pre++S "table"::(ps++inl))=m:=by unfold dH;rw[List.foldl_append,List.foldl_cons,List.foldl_append,G4 ha,show∀m,jr m (S "table")=S "in table"from λm=>by kernel_rfl];exact TP h
theorem TQ{inl:List Str}(ha:ap inl):S "table"∉S "html"::S "body"::inl:=λq=>(afL (s:=[S "html",S "body"]).mp q).elim (iY.mp rfl) (GY ha rfl)
theorem G5(ha:ap inl):cJ (S "html"::S "body"::inl)=-1:=TL (TQ ha)
theorem TR(ha:ap inl):cR (S "html"::S "body"::inl)=[]:=by unfold cR;rw[G5 ha,if_neg (by decide)]
theorem G6(ha:ap inl):dH (S "html"::S "body"::inl)=S "in body":=(G4 ha _).trans rfl
theorem dX.mode(h:dX ns m):dH ns=m:=by
 induction h with
 |base ha=>exact G6 ha
 |tab h hp ha=>exact xQ (.holds hp) ha
theorem dX.ne(h:dX ns m):ns≠[]:=by induction h<;>simp
theorem G7:lU.all (λp=>p.1.all PyData.strOk)=true:=by kernel_rfl
theorem TU:iH.all PyData.strOk=true:=by kernel_rfl
theorem TV{x:Str}(h:x∈iH):PyData.strOk x=true:=eW TU h
theorem G8{l:List Str}(h:ap l):∀x∈l,PyData.strOk x=true:=xP h (by kernel_rfl) (by kernel_rfl)
theorem vf{m:Str}(h0:∀x∈pre,PyData.strOk x=true)(h:eZ ps m)(ha:ap inl):∀x∈pre++S "table"::(ps++inl),PyData.strOk x=true:=
 agx.mpr ⟨h0,agc.mpr ⟨by kernel_rfl,agx.mpr ⟨afF.mp (eW G7 h),G8 ha⟩⟩⟩
theorem dX.names(h:dX ns m):∀x∈ns,PyData.strOk x=true:=by
 induction h with
 |base ha=>exact agc.mpr ⟨by kernel_rfl,agc.mpr ⟨by kernel_rfl,G8 ha⟩⟩
 |tab h hp ha ih=>exact vf ih (.holds hp) ha
theorem nP(b:B)(pk rk:Nat)(old:Option (List Str)):bq (aE b pk rk old)=b.stack.map (aH b):=by unfold bq aE;apply agr;intro k _;unfold uY aH;dsimp only;rw[afX,Option.map_map];rfl
inductive Fc
 |f (a:Addr)
 |m (x:Str)
structure Dm(Z ρ:Type) where
 hz:Z->Nat->AH
 o:Nat
 bi:Str->Value
 g:Str->Option Fc
 lc:Addr->Bool
 mt:U->Z->Str->(Fc->Option ρ)->Option ρ
 fl:U->Z->Str->Option U
 pc:Nat->Addr->List U->Option U
 dt:CmpOp->U->U->Z->(U->Option ρ)->Option ρ
 gY:Operator->U->U->Z->(U->Option ρ)->Option ρ
 item:U->U->Z->(U->Option ρ)->Option ρ
 last:U->Z->(U->Option ρ)->Option ρ
 kq:Str->U->U->Z->(Z->Option ρ)->Option ρ
 lg:U->U->U->Z->(Z->Option ρ)->Option ρ
 tr:U->Z->(Bool->Option ρ)->Option ρ
 call:Nat->Fc->List U->Z->(U->Z->Option ρ)->Option ρ
 tail:Nat->Fc->List U->Z->Option ρ
 gk:Z->Option ρ
 ev:Nat->aV->Lo->Expr->Z->(U->Z->Option ρ)->Option ρ
 st:Nat->aV->Lo->Stmt->Z->(Fl->Lo->Z->Option ρ)->Option ρ
noncomputable def dY:U->Option Str
 |.str x=>some x
 |_=>none
noncomputable def nQ:U->Option (List U)
 |.az x=>some x
 |_=>none
noncomputable def fm:U->Option Int
 |.int x=>some x
 |_=>none
noncomputable def kr:U->Option Bool
 |.bool x=>some x
 |_=>none
noncomputable def iZ:U->Option (List U)
 |.aJ x=>some x
 |_=>none
noncomputable def G9:U->Option Addr
 |.val (.ref a)=>some a
 |_=>none
noncomputable def nR (s:Scope):Bool:=match s.kind with|.function=>true|_=>false
noncomputable def vg:Option NameKind->Nat
 |some .local=>1
 |some .globalImplicit=>2
 |_=>0
def xR(k:Nat)(f:aV)(x:Str):Bool:=nR f.cs&&(!(x==("__debug__":Str))&&Nat.beq (vg (f.cs.names.lookup x)) k)
abbrev iJ(f:aV)(x:Str):Bool:=xR 1 f x
abbrev sO(f:aV)(x:Str):Bool:=xR 2 f x
noncomputable def Ha (op:CmpOp)(c:Bool):Option U:=match op with
 |.Eq=>some (.bool c)
 |.NotEq=>some (.bool (!c))
 |_=>none
noncomputable def xS (op:CmpOp)(c:Bool):Option U:=match op with
 |.In=>some (.bool c)
 |.NotIn=>some (.bool (!c))
 |_=>none
noncomputable def Hb (op:CmpOp)(a b:Int):Option U:=match op with
 |.Eq=>some (.bool (a==b))
 |.NotEq=>some (.bool (a !=b))
 |.Lt=>some (.bool (decide (a<b)))
 |.Gt=>some (.bool (decide (b<a)))
 |.GtE=>some (.bool (decide (b<=a)))
 |_=>none
def xU(op:CmpOp)(x y:U):Option U:=
 cG (dY x) (λa=>cG (dY y) (λb=>Ha op (a==b)) ((iZ y).bind λys=>(sv ys).bind λss=>xS op (aw ss a)))
  ((fm x).bind λa=>(fm y).bind λb=>Hb op a b)
noncomputable def TX (op:Operator)(a b:Int):Option U:=match op with
 |.Add=>some (.int (a+b))
 |.Sub=>some (.int (a-b))
 |_=>none
def sP(op:Operator)(x y:U):Option U:=(fm x).bind λa=>(fm y).bind λb=>TX op a b
inductive Kd
 |const (v:U)
 |name (x:Str)
 |fZ (o:Expr)(a:Str)
 |sQ (o:Expr)(j:Nat)
 |last (o:Expr)
 |sub (o i:Expr)
 |qQ (o:Expr)(lo hi:Option Expr)
 |aJ (es:List Expr)
 |az (es:List Expr)
 |neg (i:Int)
 |not (x:Expr)
 |dt (op:CmpOp)(l r:Expr)
 |jY (op:BoolOp)(e:Expr)(r:List Expr)(p:Pos)
 |gY (op:Operator)(l r:Expr)
 |ig (x:Str)(args:List Expr)
 |mF (o:Expr)(a:Str)(args:List Expr)
 |sR (t a b:Expr)
 |ju
noncomputable def TY:Kd->Bool
 |.az _=>true
 |_=>false
noncomputable def Hc:Expr->Bool
 |.List es _=>es.isEmpty
 |_=>false
def TZ:Kd->Bool
 |.az es=>es.any Hc
 |_=>false
noncomputable def Ua:Kd->Bool
 |.az _=>true
 |.qQ _ lo _=>lo.isNone
 |_=>false
noncomputable def Hd:Kd->Bool
 |.ig _ _=>true
 |_=>false
noncomputable def He:Const->Kd
 |.str x=>.const (.str x)
 |.int i=>.const (.int i)
 |.bool b=>.const (.bool b)
 |.none=>.const .none
 |_=>.ju
noncomputable def Hf (op:UnaryOp)(x:Expr):Bool:=match op with
 |.USub=>(match x with
  |.Constant c _ _=>(match c with
   |.int i=>(match i with
    |.ofNat j=>Nat.beq j 1
    |.negSucc _=>false)
   |_=>false)
  |_=>false)
 |_=>false
def Hg(o:Expr)(i:Expr):Kd:=match i with
 |.Constant c _ _=>(match c with
  |.int j=>(match j with
   |.ofNat j=>.sQ o j
   |.negSucc _=>.sub o i)
  |_=>.sub o i)
 |.Slice lo hi st _=>(match st with
  |none=>.qQ o lo hi
  |some _=>.ju)
 |.UnaryOp op x _=>cond (Hf op x) (.last o) (.sub o i)
 |_=>cond (nr i) (.sub o i) .ju
noncomputable def Hh (op:UnaryOp)(x:Expr):Kd:=match op with
 |.Not=>.not x
 |.USub=>(match x with
  |.Constant (.int i) _ _=>.neg (-i)
  |_=>.ju)
 |_=>.ju
def Hi(g:Expr)(args:List Expr)(p:Pos):Kd:=match g with
 |.Name x _=>cond (f7 args) (.ig x args) .ju
 |.Attribute o a ap=>cond (lH o ap p args) (.mF o a args) .ju
 |_=>.ju
def vw(e:Expr):Kd:=match e with
 |.Constant c _ _=>He c
 |.Name x _=>.name x
 |.Attribute o a _=>cond (oL o) (.fZ o a) .ju
 |.Subscript o i _=>Hg o i
 |.Tuple es _ _=>.aJ es
 |.List es _=>.az es
 |.UnaryOp op x _=>Hh op x
 |.Compare l By rs _=>(match By,rs with
  |[op],[r]=>cond (behindInMarks op r) .ju (.dt op l r)
  |_,_=>.ju)
 |.BoolOp op es p=>(match es with
  |[]=>.ju
  |e::r=>.jY op e r p)
 |.BinOp l op r _=>.gY op l r
 |.Call g args Bz p=>(match Bz with
  |[]=>Hi g args p
  |_::_=>.ju)
 |.IfExp t a b _=>.sR t a b
 |_=>.ju
def vh(F:Expr->Option U):List Expr->Option (List U)
 |[]=>some []
 |e::r=>cond (jI e) ((F e).bind λx=>(vh F r).bind λxs=>some (x::xs)) none
noncomputable def xV:BoolOp->Bool->Bool->Bool
 |.And,a,b=>a&&b
 |.Or,a,b=>a||b
def xW(op:BoolOp)(F:Expr->Option Bool):Expr->List Expr->Option Bool
 |e,[]=>F e
 |e,e'::r=>(F e).bind λa=>(xW op F e' r).bind λb=>some (xV op a b)
structure Pv where
 E:Expr->Option U
 T:Expr->Option Bool
section
variable{Z ρ:Type}(D:Dm Z ρ)
def pE(d:Nat)(f:aV)(m:Lo)(u:Pv)(k:Kd):Option U:=match k with
 |.const c=>some c
 |.name x=>cond (iJ f x) (m.lookup x) none
 |.sQ o j=>(u.E o).bind λx=>(cG (iZ x) some (nQ x)).bind λxs=>cond (Nat.blt j 1000000) xs[j]? none
 |.az es=>cond (es.any Hc) none ((vh u.E es).bind λxs=>cond (Nat.ble xs.length 1000000) (some (.az xs)) none)
 |.sR t a b=>(u.T t).bind λc=>cond c (u.E a) (u.E b)
 |.aJ es=>(vh u.E es).bind λxs=>cond (Nat.ble xs.length 1000000) (some (.aJ xs)) none
 |.neg i=>some (.int i)
 |.dt op l r=>(u.E l).bind λx=>(u.E r).bind λy=>xU op x y
 |.jY op e r _=>(xW op (λe=>(u.E e).bind kr) e r).bind λc=>some (.bool c)
 |.gY op l r=>(u.E l).bind λx=>(u.E r).bind λy=>sP op x y
 |.ig x args=>cond (sO f x) ((D.g x).bind λc=>(vh u.E args).bind λxs=>(match c with
  |.f a=>D.pc d a xs
  |.m _=>none)) none
 |_=>none
def pT(u:Pv)(e:Expr)(k:Kd):Option Bool:=match k with
 |.not x=>(u.T x).bind λc=>some (!c)
 |.jY op e r _=>xW op u.T e r
 |.dt op l r=>(u.E l).bind λx=>(u.E r).bind λy=>(xU op x y).bind kr
 |_=>cond (rY e) ((u.E e).bind kr) none
def pv(d:Nat)(f:aV)(m:Lo):Nat->Pv
 |0=>⟨λ_=>none,λ_=>none⟩
 |n+1=>⟨λe=>pE D d f m (pv d f m n) (vw e),λe=>pT (pv d f m n) e (vw e)⟩
structure Ms(Z ρ:Type) where
 E:Nat->aV->Lo->Expr->Z->(U->Z->Option ρ)->Option ρ
 Es:Nat->aV->Lo->List Expr->Z->(List U->Z->Option ρ)->Option ρ
 T:Nat->aV->Lo->Expr->Z->(Bool->Z->Option ρ)->Option ρ
 L:Nat->aV->Lo->List Stmt->Z->Bool->(Fl->Lo->Z->Option ρ)->Option ρ
 S:Nat->aV->Lo->Stmt->Z->Bool->(Fl->Lo->Z->Option ρ)->Option ρ
variable(u:Ms Z ρ)
def vi(x:U)(z:Z)(k:Bool->Z->Option ρ):Option ρ:=cG (kr x) (λc=>k c z) (D.tr x z λc=>k c z)
def BA(op:CmpOp)(x y:U)(z:Z)(k:U->Z->Option ρ):Option ρ:=cG (xU op x y) (λv=>k v z) (D.dt op x y z λv=>k v z)
def Hj(op:Operator)(x y:U)(z:Z)(k:U->Z->Option ρ):Option ρ:=cG (sP op x y) (λv=>k v z) (D.gY op x y z λv=>k v z)
def ig(d:Nat)(f:aV)(m:Lo)(x:Str)(args:List Expr)(z:Z)(fc:Fc->List U->Z->Option ρ):Option ρ:=
 cond (sO f x) ((D.g x).bind λc=>u.Es d f m args z λxs z=>fc c xs z) (cond (iJ f x) ((m.lookup x).bind λy=>(G9 y).bind λa=>cond (D.lc a) (u.Es d f m args z λxs z=>fc (.f a) xs z) none) none)
noncomputable def mF (d:Nat)(f:aV)(m:Lo)(o:Expr)(a:Str)(args:List Expr)(z:Z)(fc:Fc->List U->Z->Option ρ):Option ρ:=
 u.E d f m o z λx z=>D.mt x z a λc=>u.Es d f m args z λxs z=>fc c (x::xs) z
def Hk(d:Nat)(f:aV)(m:Lo)(e:Expr)(kd:Kd)(z:Z)(k:U->Z->Option ρ):Option ρ:=match kd with
 |.fZ o a=>u.E d f m o z λx z=>(D.fl x z a).bind λv=>k v z
 |.aJ es=>u.Es d f m es z λxs z=>cond (Nat.ble xs.length 1000000) (k (.aJ xs) z) none
 |.az es=>u.Es d f m es z λxs z=>cond (Nat.ble xs.length 1000000) (k (.az xs) z) none
 |.sQ o j=>u.E d f m o z λx z=>cG ((iZ x).bind λxs=>cond (Nat.blt j 1000000) xs[j]? none) (λv=>k v z) (D.item x (.int (.ofNat j)) z λv=>k v z)
 |.last o=>u.E d f m o z λx z=>D.last x z λv=>k v z
 |.sub o i=>u.E d f m o z λx z=>u.E d f m i z λy z=>D.item x y z λv=>k v z
 |.qQ o lo hi=>(match lo with
  |none=>D.ev d f m e z k
  |some lo=>u.E d f m o z λx z=>u.E d f m lo z λy z=>(nQ x).bind λxs=>(fm y).bind λi=>(match hi with
   |none=>cond (decide (0<=i)&&(Nat.ble i.toNat xs.length&&Nat.ble xs.length 1000000)) (k (.az (xs.drop i.toNat)) z) none
   |some hi=>u.E d f m hi z λy z=>(fm y).bind λj=>cond (decide (0<=i)&&(decide (0<=j)&&Nat.ble xs.length 1000000)) (k (.az ((xs.drop i.toNat).take (j.toNat-i.toNat))) z) none))
 |.dt op l r=>u.E d f m l z λx z=>u.E d f m r z λy z=>BA D op x y z k
 |.gY op l r=>u.E d f m l z λx z=>u.E d f m r z λy z=>Hj D op x y z k
 |.ig x args=>ig D u d f m x args z λc xs z=>D.call d c xs z k
 |.mF o a args=>mF D u d f m o a args z λc xs z=>D.call d c xs z k
 |.jY op e r p=>(match r with
  |[]=>u.E d f m e z k
  |e'::r=>u.E d f m e z λx z=>(kr x).bind λc=>(match op with
   |.And=>if c then u.E d f m (.BoolOp .And (e'::r) p) z k else k (.bool c) z
   |.Or=>if c then k (.bool c) z else u.E d f m (.BoolOp .Or (e'::r) p) z k))
 |.sR t a b=>u.T d f m t z λc z=>if c then u.E d f m a z k else u.E d f m b z k
 |.not x=>u.E d f m x z λv z=>vi D v z λc z=>k (.bool (!c)) z
 |_=>D.ev d f m e z k
def Hl(d:Nat)(f:aV)(m:Lo)(e:Expr)(z:Z)(k:U->Z->Option ρ):Option ρ:=cG ((pv D d f m 9).E e) (λv=>k v z) (Hk D u d f m e (vw e) z k)
def Hm(d:Nat)(f:aV)(m:Lo)(es:List Expr)(z:Z)(k:List U->Z->Option ρ):Option ρ:=match es with
 |[]=>k [] z
 |e::es=>cond (jI e) (u.E d f m e z λx z=>u.Es d f m es z λxs z=>k (x::xs) z) none
def Hn(d:Nat)(f:aV)(m:Lo)(e:Expr)(kd:Kd)(z:Z)(k:Bool->Z->Option ρ):Option ρ:=match kd with
 |.not x=>u.T d f m x z λc z=>k (!c) z
 |.jY op e r p=>u.T d f m e z λc z=>(match op with
  |.And=>if c then(match r with
   |[]=>k true z
   |e'::r'=>u.T d f m (.BoolOp .And (e'::r') p) z k)else k false z
  |.Or=>if c then k true z else(match r with
   |[]=>k false z
   |e'::r'=>u.T d f m (.BoolOp .Or (e'::r') p) z k))
 |.dt op l r=>u.E d f m l z λx z=>u.E d f m r z λy z=>BA D op x y z λv z=>vi D v z k
 |_=>cond (rY e) (u.E d f m e z λv z=>vi D v z k) none
def Ho(d:Nat)(f:aV)(m:Lo)(e:Expr)(z:Z)(k:Bool->Z->Option ρ):Option ρ:=cG ((pv D d f m 9).T e) (λc=>k c z) (Hn D u d f m e (vw e) z k)
noncomputable def Hp (d:Nat)(f:aV)(m:Lo)(ss:List Stmt)(z:Z)(tf:Bool)(k:Fl->Lo->Z->Option ρ):Option ρ:=match ss with
 |[]=>k .next m z
 |s::ss=>(match ss with
  |[]=>u.S d f m s z tf k
  |s'::ss=>u.S d f m s z false λfl m z=>match fl with
   |.next=>u.L d f m (s'::ss) z tf k
   |fl=>k fl m z)
def Hq(d:Nat)(f:aV)(m:Lo)(t:Expr)(e:Expr)(kd:Kd)(z:Z)(pd:Option ρ)(k:Fl->Lo->Z->Option ρ):Option ρ:=match t with
 |.Name x _=>cond (iJ f x&&!TZ kd) (u.E d f m e z λv z=>k .next ((x,v)::m) z) pd
 |.Attribute o a _=>cond (TY kd) pd (u.E d f m e z λv z=>u.E d f m o z λx z=>D.kq a x v z λz=>k .next m z)
 |.Subscript o i _=>cond (Ua kd) pd (u.E d f m e z λv z=>u.E d f m o z λx z=>u.E d f m i z λy z=>D.lg x y v z λz=>k .next m z)
 |.Tuple ts _ _=>cond (Hd kd) ((namesOf ts).bind λns=>cond (nR f.cs&&ns.all (iJ f)) (u.E d f m e z λv z=>(iZ v).bind λxs=>cond (Nat.beq xs.length ns.length) (k .next (bindAll ns xs m) z) none) pd) pd
 |_=>pd
def Hr(d:Nat)(f:aV)(m:Lo)(e:Expr)(kd:Kd)(z:Z)(k:Fl->Lo->Z->Option ρ):Option ρ:=match kd with
 |.ig x args=>ig D u d f m x args z λc xs z=>D.tail d c xs z
 |.mF o a args=>mF D u d f m o a args z λc xs z=>D.tail d c xs z
 |_=>u.E d f m e z λ_ z=>k .next m z
def Hs(d:Nat)(f:aV)(m:Lo)(s:Stmt)(z:Z)(tf:Bool)(k:Fl->Lo->Z->Option ρ):Option ρ:=match s with
 |.Expr e _=>cond (kb e&&nR f.cs) (cond tf (Hr D u d f m e (vw e) z k) (u.E d f m e z λ_ z=>k .next m z)) none
 |.Assign ts e p=>(match ts with
  |[]=>none
  |t::ts=>(match ts with
   |[]=>cond (kb e) (Hq D u d f m t e (vw e) z (D.st d f m (.Assign [t] e p) z k) k) (D.st d f m (.Assign [t] e p) z k)
   |_::_=>none))
 |.AugAssign t op e _=>(match t with
  |.Name x _=>cond (iJ f x) ((m.lookup x).bind λv=>u.E d f m e z λy z=>(sP op v y).bind λw=>k .next ((x,w)::m) z) none
  |_=>none)
 |.If t a b _=>u.T d f m t z λc z=>if c then u.L d f m a z tf k else u.L d f m b z tf k
 |.Return r _=>(match r with
  |some e=>u.E d f m e z λv z=>k (.ret v) m z
  |none=>k (.ret .none) m z)
 |s=>D.st d f m s z k
def ms:Nat->Ms Z ρ
 |0=>⟨λ_ _ _ _ _ _=>none,λ_ _ _ _ _ _=>none,λ_ _ _ _ _ _=>none,λ_ _ _ _ _ _ _=>none,λ_ _ _ _ _ _ _=>none⟩
 |n+1=>⟨Hl D (ms n),Hm (ms n),Ho D (ms n),Hp (ms n),Hs D (ms n)⟩
end
theorem eH(h:dY x=some s):x=.str s:=by
 cases x with
 |str=>exact afE U.str (ack h)
 |_=>exact ag h
theorem pf(h:nQ x=some s):x=.az s:=by
 cases x with
 |az=>exact afE U.az (ack h)
 |_=>exact ag h
theorem dZ(h:fm x=some s):x=.int s:=by
 cases x with
 |int=>exact afE U.int (ack h)
 |_=>exact ag h
theorem iK(h:kr x=some s):x=.bool s:=by
 cases x with
 |bool=>exact afE U.bool (ack h)
 |_=>exact ag h
theorem lh(h:iZ x=some s):x=.aJ s:=by
 cases x with
 |aJ=>exact afE U.aJ (ack h)
 |_=>exact ag h
theorem Ub(h:G9 x=some s):x=.val (.ref s):=by
 cases x with
 |val v=>
  induction v with
  |ref=>exact afE (λa=>U.val (.ref a)) (ack h)
  |_=>exact ag h
 |_=>exact ag h
theorem xY{f:aV}(h:nR f.cs=true):f.cs.kind=.function:=by unfold nR at h;cases e:f.cs.kind<;>rw[e]at h<;>first|rfl|cases h
theorem BC{f:aV}(h:nR f.cs=true):f.isFn=true:=by unfold aV.isFn;rw[xY h];rfl
theorem Uc(hk:vg (some a)=k)(h0:Nat.beq 0 k=false)(h1:a=.local\/a=.globalImplicit)(h:Nat.beq (vg o) k=true):o=some a:=by
 subst hk;induction o with
 |none=>rw[show vg none=0 from rfl,h0]at h;exact nomatch h
 |some b=>rcases h1 with rfl|rfl<;>induction b<;>first|rfl|cases h
theorem kB(hk:vg (some a)=k)(h0:Nat.beq 0 k=false)(h1:a=.local\/a=.globalImplicit)(h:xR k f x=true):fh f x a:=by unfold xR at h;rw[afz,afz]at h;exact⟨xY h.1,.of (Uc hk h0 h1 h.2.2),by simpa using h.2.1⟩
theorem c9(h:iJ f x=true):fh f x .local:=kB rfl rfl (.inl rfl) h
theorem dF(h:sO f x=true):fh f x .globalImplicit:=kB rfl rfl (.inr rfl) h
def jv(e:Expr):Kd->Prop
 |.const v=>∃c k p,e=.Constant c k p/\∀d f m X (Q:U->AH->Prop),Q v X->aW d f m X e Q
 |.name x=>∃p,e=.Name x p
 |.fZ o a=>oL o=true/\∃p,e=.Attribute o a p
 |.sQ o j=>∃k p p',e=.Subscript o (.Constant (.int (.ofNat j)) k p) p'
 |.last o=>∃k p p' Ht,e=.Subscript o (.UnaryOp .USub (.Constant (.int 1) k p) p') Ht
 |.sub o i=>nr i=true/\∃p,e=.Subscript o i p
 |.qQ o lo hi=>∃p p',e=.Subscript o (.Slice lo hi none p) p'
 |.aJ es=>∃k p,e=.Tuple es k p
 |.az es=>∃p,e=.List es p
 |.neg i=>∃j k p p',i=-j/\e=.UnaryOp .USub (.Constant (.int j) k p) p'
 |.not x=>∃p,e=.UnaryOp .Not x p
 |.dt op l r=>behindInMarks op r=false/\∃p,e=.Compare l [op] [r] p
 |.jY op a r p=>e=.BoolOp op (a::r) p
 |.gY op l r=>∃p,e=.BinOp l op r p
 |.ig x args=>f7 args=true/\∃p p',e=.Call (.Name x p) args [] p'
 |.mF o a args=>∃ap p,lH o ap p args=true/\e=.Call (.Attribute o a ap) args [] p
 |.sR t a b=>∃p,e=.IfExp t a b p
 |.ju=>True
theorem vj{A B:Kd}(h:c=true->jv e A)(g:c=false->jv e B):jv e (cond c A B):=by
 induction c with
 |true=>exact h rfl
 |false=>exact g rfl
theorem Ud:jv (.Constant c k p) (He c):=by
 induction c with
 |str=>exact⟨_,_,_,rfl,λ_ _ _ _ _ q=>Ev.str q⟩
 |int=>exact⟨_,_,_,rfl,λ_ _ _ _ _ q=>Ev.int q⟩
 |bool=>exact⟨_,_,_,rfl,λ_ _ _ _ _ q=>Ev.bool q⟩
 |none=>exact⟨_,_,_,rfl,λ_ _ _ _ _ q=>Ev.none q⟩
 |_=>exact af2
theorem Ue(h:Hf op x=true):∃k p,op=.USub/\x=.Constant (.int 1) k p:=by
 induction op with
 |USub=>
  induction x using Expr.casesOn with
  |Constant c k p=>
   induction c with
   |int i=>
    induction i with
    |ofNat j=>exact⟨k,p,rfl,by rw[afN h];rfl⟩
    |negSucc=>cases h
   |_=>cases h
  |_=>cases h
 |_=>cases h
theorem Ug{p:Pos}:jv (.Subscript o i p) (Hg o i):=by
 induction i using Expr.casesOn with
 |Constant c k p'=>
  induction c with
  |int j=>
   induction j with
   |ofNat=>exact⟨_,_,_,rfl⟩
   |negSucc=>exact⟨rfl,_,rfl⟩
  |_=>exact⟨rfl,_,rfl⟩
 |UnaryOp op x p'=>
  exact vj (λh=>cQ (Ue h) λk q e1 e2=>by rw[e1,e2];exact⟨_,_,_,_,rfl⟩) λ_=>⟨rfl,_,rfl⟩
 |Slice lo hi st p'=>
  induction st with
  |none=>exact⟨_,_,rfl⟩
  |some=>exact af2
 |_=>exact⟨rfl,_,rfl⟩
theorem Uh(V:jv e kd)(h:Hd kd=true):∃x args p p',e=.Call (.Name x p) args [] p':=by
 induction kd with
 |ig x args=>exact let⟨_,p,p',e⟩:=V;⟨_,_,p,p',e⟩
 |_=>cases h
theorem Ui:jv (.UnaryOp op x p) (Hh op x):=by
 induction op with
 |Not=>exact⟨_,rfl⟩
 |USub=>
  induction x using Expr.casesOn with
  |Constant c k p'=>
   induction c with
   |int j=>exact⟨_,_,_,_,rfl,rfl⟩
   |_=>exact af2
  |_=>exact af2
 |_=>exact af2
theorem Uj{args:List Expr}:jv (.Call g args [] p) (Hi g args p):=by
 induction g using Expr.casesOn with
 |Name x p'=>exact vj (λh=>⟨h,_,_,rfl⟩) λ_=>af2
 |Attribute o a ap=>exact vj (λh=>⟨_,_,h,rfl⟩) λ_=>af2
 |_=>exact af2
theorem jw(e:Expr):jv e (vw e):=by
 induction e using Expr.casesOn with
 |Constant c k p=>exact Ud
 |Name x p=>exact⟨_,rfl⟩
 |Attribute o a p=>exact vj (λh=>⟨h,_,rfl⟩) λ_=>af2
 |Subscript o i p=>exact Ug
 |Tuple es k p=>exact⟨_,_,rfl⟩
 |List es p=>exact⟨_,rfl⟩
 |UnaryOp op x p=>exact Ui
 |Compare l By rs p=>
  cases By with
  |nil=>exact af2
  |cons op t=>
   induction t with
   |cons=>exact af2
   |nil=>
    induction rs with
    |nil=>exact af2
    |cons r t=>
     induction t with
     |cons=>exact af2
     |nil=>exact vj (λ_=>af2) λh=>⟨h,_,rfl⟩
 |BoolOp op es p=>
  induction es with
  |nil=>exact af2
  |cons=>exact rfl
 |BinOp l op r p=>exact⟨_,rfl⟩
 |Call g args Bz p=>
  induction Bz with
  |nil=>exact Uj
  |cons=>exact af2
 |IfExp t a b p=>exact⟨_,rfl⟩
 |_=>exact af2
section
variable{d:Nat}{X:AH}{Q:U->AH->Prop}
theorem Uk(h:Ha op (a==b)=some v)(q:Q v X):bC d (compareOp op) (.str a) (.str b) X Q:=by
 induction op with
 |Eq=>exact Op.wV (sE (X:=λv=>Q v X->Q (.bool (a==b)) X) h id q)
 |NotEq=>exact Op.Pf (sE (X:=λv=>Q v X->Q (.bool (a !=b)) X) h id q)
 |_=>exact ag h
theorem Ul(h:xS op (aw ss a)=some v)(q:Q v X):bC d (compareOp op) (.str a) (.aJ (ss.map .str)) X Q:=by
 induction op with
 |In=>exact Op.FY (sE (X:=λv=>Q v X->Q (.bool (aw ss a)) X) h id q)
 |NotIn=>exact Op.Rt (sE (X:=λv=>Q v X->Q (.bool (!aw ss a)) X) h id q)
 |_=>exact ag h
theorem Um(h:Hb op a b=some v)(q:Q v X):bC d (compareOp op) (.int a) (.int b) X Q:=by
 induction op with
 |Eq=>exact Op.Pc (sE (X:=λv=>Q v X->Q (.bool (a==b)) X) h id q)
 |NotEq=>exact Op.Pd (sE (X:=λv=>Q v X->Q (.bool (a !=b)) X) h id q)
 |Lt=>exact Op.E7 (sE (X:=λv=>Q v X->Q (.bool (decide (a<b))) X) h id q)
 |Gt=>exact Op.Pe (sE (X:=λv=>Q v X->Q (.bool (decide (b<a))) X) h id q)
 |GtE=>exact Op.E8 (sE (X:=λv=>Q v X->Q (.bool (decide (b<=a))) X) h id q)
 |_=>exact ag h
theorem BD(h:xU op x y=some v)(q:Q v X):bC d (compareOp op) x y X Q:=
 oE h (λa h1 h=>eH h1▸oE h (λb h2 h=>eH h2▸Uk h q) λh=>bE h λys h2 h=>bE h λss h3 h=>by rw[lh h2,xo h3];exact Ul h q)
  λh=>bE h λa h1 h=>bE h λb h2 h=>by rw[dZ h1,dZ h2];exact Um h q
theorem Hu{P:Operator->U->U->Prop}(h:sP op x y=some v)(ha:∀a b:Int,v=.int (a+b)->P .Add (.int a) (.int b))(hs:∀a b:Int,v=.int (a-b)->P .Sub (.int a) (.int b)):P op x y:=
 bE h λa h1 h=>bE h λb h2 h=>by
  rw[dZ h1,dZ h2];induction op with
  |Add=>exact ha _ _ (ack h).symm
  |Sub=>exact hs _ _ (ack h).symm
  |_=>exact ag h
theorem Hv(h:sP op x y=some v)(q:Q v X):bC d (binaryOp op) x y X Q:=
 Hu (P:=λop x y=>bC d (binaryOp op) x y X Q) h (λ_ _ e=>Op.add (e▸q)) λ_ _ e=>Op.sub (e▸q)
theorem Un(h:sP op x y=some v)(q:Q v X):bC d (inplaceOp op) x y X Q:=
 Hu (P:=λop x y=>bC d (inplaceOp op) x y X Q) h (λ_ _ e=>Op.Pa (e▸q)) λ_ _ e=>Op.Pb (e▸q)
end
section
variable{d:Nat}{f:aV}{m:Lo}{H:AH}
theorem Ev.Uo
  (h:aW d f m H o λx H'=>∃C es v,fJ C name/\iA H' x C es/\es.lookup name=some v/\v.plain/\Q v H')
  (he:oL o=true):aW d f m H (.Attribute o name pos) Q:=
 λA ρ L s Qc E ah X p=>Attribute_any_ (h A ρ L s _ E ah X λx v aj H' s' q R S z r=>by
  refine kI q λC es y M I hl hy q=>?_;refine wJ (I.at R r) λa da ds n jf IA rd=>?_;subst jf;refine ao (rd.find.1 y hl) λu e1 r1=>?_;exact get_value R.lF IA (plainGet_of M.plain).1 (findObj_own M.dict M.lB rfl e1) (r1.handed hy) ((p.after S z).toks q R r1)) (by rw[arm_eval_Attribute,zW he])
def mG(H:AH)(x:U)(name:Str)(v:Value):Prop:=
 (∃C g es,v=.ref g/\MethAt C name g/\iA H x C es/\es.lookup name=none)\/(∃T id,v=.builtin id/\ew H x T/\Slot T name id/\PlainAttrs T/\typeOf (.builtin id)=pure (.type "method_descriptor"))
theorem Ev.Up
  (h:aW d f m H o λx H'=>∃v,mG H' x name v/\gj d f m H' args λxs br=>ba d v (x::xs) br Q)
  (hx:lH o iz pos args=true):aW d f m H (.Call (.Attribute o name iz) args [] pos) Q:=
 fu (zY hx) λho hl hp hn=>
 λA ρ L s Qc E ah X p=>zX ho hl hp hn (h A ρ L s _ E ah X λx v aj H' s' q R S z r=>by
  refine ao q λv hv q=>?_;intro pl;rcases hv with⟨C,g,es,rfl,M,I,ne⟩|⟨T,id,rfl,hT,slot,pa,nz⟩
  ·refine wJ (I.at R r) λa da ds n jf IA rd=>?_;subst jf;have KX:=R.lF;refine method_fn KX IA (plainGet_of M.plain).1 (plainGet_of M.plain).2 M.find (afI.mp M.fn) (by show(lookIn name (dictOf ds n)).map _=_;rw[lookIn_dict,rd.find.2 ne];rfl) ?_;exact uh (fx:=[x]) (.top M.keep) hp q ah (X.cj R S) (.cons r .nil) (p.after S z)
  ·refine getMethod_builtin (hT.typeIs R r) pa slot nz (hT.noDict R r) ?_;exact uh (fx:=[x]) (.lC id) hp q ah (X.cj R S) (.cons r .nil) (p.after S z))
def jZ(d:Nat)(f:aV)(m:Lo)(X:AH)(e:Expr)(v:U):Prop:=∀Q:U->AH->Prop,Q v X->aW d f m X e Q
def Uq(d:Nat)(f:aV)(m:Lo)(X:AH)(es:List Expr)(vs:List U):Prop:=∀Q:List U->AH->Prop,Q vs X->gj d f m X es Q
theorem jZ.jY(h:jZ d f m H e (.bool a))(k:jZ d f m H (.BoolOp op (e'::r) pos) (.bool c)):jZ d f m H (.BoolOp op (e::e'::r) pos) (.bool (xV op a c)):=λQ q=>by
 induction op with
 |Or=>
  refine Ev.or (h _ (Tr.bool ?_));cases a
  ·exact k _ q
  ·exact⟨rfl,q⟩
 |And=>
  refine Ev.and (h _ (Tr.bool ?_));cases a
  ·exact⟨rfl,q⟩
  ·exact k _ q
theorem fP.jY(h:fP d f m H e a)(k:fP d f m H (.BoolOp op (e'::r) pos) c):fP d f m H (.BoolOp op (e::e'::r) pos) (xV op a c):=by
 induction op with
 |Or=>exact fP.or h λ_=>k
 |And=>exact fP.and h λ_=>k
theorem BE(hF:∀e v,F e=some v->jZ d f m H e v):∀{es:List Expr} {vs:List U},vh F es=some vs->Uq d f m H es vs:=λ{es}=>by
 induction es with
 |nil=>exact λh Q q=>aM.nil (sE (X:=λvs=>Q vs H->Q [] H) h id q)
 |cons e r ih=>exact λh=>cE h λhc h=>bE h λx h1 h=>bE h λxs h2 h Q q=>aM.cons (hF _ _ h1 _ (ih h2 _ (sE (X:=λvs=>Q vs H->Q (x::xs) H) h id q))) hc
theorem Hw{X:Expr->Bool->Prop}(hF:∀e v,F e=some v->X e v)(h1:∀e v,X e v->X (.BoolOp op [e] pos) v)(h2:∀e e' r a c,X e a->X (.BoolOp op (e'::r) pos) c->X (.BoolOp op (e::e'::r) pos) (xV op a c)):
  ∀{r:List Expr} {e:Expr} {c:Bool},xW op F e r=some c->X (.BoolOp op (e::r) pos) c:=λ{r}=>by
 induction r with
 |nil=>exact λh=>h1 _ _ (hF _ _ h)
 |cons e' r ih=>exact λh=>bE h λx e1 h=>bE h λy e2 h=>sE h (h2 _ _ _ _ _ (hF _ _ e1) (ih e2))
end
section
variable{Z ρ:Type}
noncomputable def Dm.fv (D:Dm Z ρ):Fc->Value
 |.f a=>.ref a
 |.m x=>D.bi x
abbrev vk(d:Nat)(x y:U)(H:AH)(Q:U->AH->Prop):Prop:=(∃T,ew H x T/\gR T)/\bC d getItem x y H Q
abbrev xZ(d:Nat)(a:Str)(x v:U)(H:AH)(Q:U->AH->Prop):Prop:=bC d (λov v=>do setAttr ov a v;pure .none) x v H Q
abbrev Ur(H:AH)(x:U)(a:Str)(v:U):Prop:=∃C es,fJ C a/\iA H x C es/\es.lookup a=some v/\v.plain
structure iL(D:Dm Z ρ)(r:ρ):Prop where
 g:∀x c,D.g x=some c->FnAt x (D.fv c)\/(iw x (D.fv c)/\Callee (D.fv c))
 lc:∀a,D.lc a=true->Callee (.ref a)
 mt:∀x z a k,D.mt x z a k=some r->∀{P:Prop},(∀c,k c=some r->(∀n,mG (D.hz z n) x a (D.fv c))->P)->P
 fl:∀x z a v,D.fl x z a=some v->∀n,Ur (D.hz z n) x a v
 pc:∀d a xs y,D.pc d a xs=some y->∀z n (Q:U->AH->Prop),Q y (D.hz z n)->ba (D.o+d) (.ref a) xs (D.hz z n) Q
 dt:∀op x y z k,D.dt op x y z k=some r->∀{P:Prop},(∀v,k v=some r->(∀d n (Q:U->AH->Prop),Q v (D.hz z n)->bC d (compareOp op) x y (D.hz z n) Q)->P)->P
 gY:∀op x y z k,D.gY op x y z k=some r->∀{P:Prop},(∀v,k v=some r->(∀d n (Q:U->AH->Prop),Q v (D.hz z n)->bC d (binaryOp op) x y (D.hz z n) Q)->P)->P
 item:∀x y z k,D.item x y z k=some r->∀{P:Prop},(∀v,k v=some r->(∀d n (Q:U->AH->Prop),Q v (D.hz z n)->vk d x y (D.hz z n) Q)->P)->P
 last:∀x z k,D.last x z k=some r->∀{P:Prop},(∀v,k v=some r->(∀d n (Q:U->AH->Prop),Q v (D.hz z n)->vk d x (.int (-1)) (D.hz z n) Q)->P)->P
 kq:∀a x v z k,D.kq a x v z k=some r->∀{P:Prop},(∀z',k z'=some r->(∀d n (Q:U->AH->Prop),(∀n',Q .none (D.hz z' n'))->xZ d a x v (D.hz z n) Q)->P)->P
 lg:∀x y v z k,D.lg x y v z k=some r->∀{P:Prop},(∀z',k z'=some r->(∀d n (Q:AH->Prop),(∀n',Q (D.hz z' n'))->mn d x y v (D.hz z n) Q)->P)->P
 tr:∀x z k,D.tr x z k=some r->∀{P:Prop},(∀c,k c=some r->(∀d n (Q:Bool->AH->Prop),Q c (D.hz z n)->mh d x (D.hz z n) Q)->P)->P
 call:∀d c xs z k,D.call d c xs z k=some r->∀Q:U->AH->Prop,(∀y z' n',k y z'=some r->Q y (D.hz z' n'))->∀n,ba (D.o+d) (D.fv c) xs (D.hz z n) Q
 tail:∀d c xs z,D.tail d c xs z=some r->∀Q:U->AH->Prop,(∀y z' n',D.gk z'=some r->Q y (D.hz z' n'))->∀n,ba (D.o+d) (D.fv c) xs (D.hz z n) Q
 ev:∀d f m e z k,D.ev d f m e z k=some r->∀Q:U->AH->Prop,(∀y z' n',k y z'=some r->Q y (D.hz z' n'))->∀n,aW (D.o+d) f m (D.hz z n) e Q
 st:∀d f m s z k,D.st d f m s z k=some r->∀Q:Fl->Lo->AH->Prop,(∀fl m' z' n',k fl m' z'=some r->Q fl m' (D.hz z' n'))->∀n,dD (D.o+d) f m (D.hz z n) s Q
structure Hx(D:Dm Z ρ)(r:ρ)(u:Ms Z ρ):Prop where
 E:∀d f m e z k,u.E d f m e z k=some r->∀Q:U->AH->Prop,(∀y z' n',k y z'=some r->Q y (D.hz z' n'))->∀n,aW (D.o+d) f m (D.hz z n) e Q
 Es:∀d f m e z k,u.Es d f m e z k=some r->∀Q:List U->AH->Prop,(∀y z' n',k y z'=some r->Q y (D.hz z' n'))->∀n,gj (D.o+d) f m (D.hz z n) e Q
 T:∀d f m e z k,u.T d f m e z k=some r->∀Q:Bool->AH->Prop,(∀y z' n',k y z'=some r->Q y (D.hz z' n'))->∀n,eS (D.o+d) f m (D.hz z n) e Q
 L:∀d f m s z tf k,u.L d f m s z tf k=some r->(tf=true->∀m z,k .next m z=D.gk z)->∀Q:Fl->Lo->AH->Prop,(∀fl m' z' n',k fl m' z'=some r->Q fl m' (D.hz z' n'))->∀n,bR (D.o+d) f m (D.hz z n) s Q
 S:∀d f m s z tf k,u.S d f m s z tf k=some r->(tf=true->∀m z,k .next m z=D.gk z)->∀Q:Fl->Lo->AH->Prop,(∀fl m' z' n',k fl m' z'=some r->Q fl m' (D.hz z' n'))->∀n,dD (D.o+d) f m (D.hz z n) s Q
structure BF(d:Nat)(f:aV)(m:Lo)(H:AH)(u:Pv):Prop where
 E:∀e v,u.E e=some v->jZ d f m H e v
 T:∀e c,u.T e=some c->fP d f m H e c
variable{D:Dm Z ρ}{r:ρ}(O:iL D r){d:Nat}{f:aV}{m:Lo}
theorem Hy(F:FnAt x v\/(iw x v/\Callee v))(hx:fh f x .globalImplicit)(h:gj d f m H args λxs br=>ba d v xs br Q)
  (hp:f7 args=true):aW d f m H (.Call (.Name x xp) args [] pos) Q:=
 F.elim (λF=>Ev.jK F hx h hp) λF=>Ev.ui F.2 (Ev.lC F.1 hx ⟨rfl,h⟩) hp
theorem Hz(hE:∀v,o=some v->jZ d f m H e v)(h:o.bind kr=some c):jZ d f m H e (.bool c):=
 bE h λv h1 h=>iK h▸hE _ h1
section
variable{z:Z}{n:Nat}{u:Pv}(I:BF (D.o+d) f m (D.hz z n) u)
include O I
theorem Us{k:Kd}(V:jv e k)(h:pE D d f m u k=some v):jZ (D.o+d) f m (D.hz z n) e v:=by
 induction k with
 |const c=>refine jd V λ_ _ _ _ V=>?_;exact sE h λQ q=>V _ _ _ _ Q q
 |name x=>refine aI V λp bp=>?_;subst bp;exact cE h λhc h Q q=>Ev.local (.of h) (c9 hc) q
 |sQ o j=>
  refine kH V λk p p' bK=>?_;subst bK;exact bE h λx h2 h=>bE h λxs h3 h=>cE h λhc h Q q=>oE h3 (λys h4 h5=>Ev.sub ((show jZ (D.o+d) f m (D.hz z n) o (.aJ ys)from lh h4▸I.E _ _ h2) _ (Ev.int ⟨Aw,Op.Ad (Nat.blt_eq.mp hc) (ack h5▸h) q⟩)) rfl)
   λh5=>Ev.sub ((show jZ (D.o+d) f m (D.hz z n) o (.az xs)from pf h5▸I.E _ _ h2) _ (Ev.int ⟨qo,Op.item (.az _) (Nat.blt_eq.mp hc) h q⟩)) rfl
 |az es=>refine aI V λp bp=>?_;subst bp;exact dE h (λ_ h=>ag h) λ_ h=>bE h λxs h1 h=>cE h λhc h=>sE h λQ q=>Ev.list (BE I.E h1 _ ⟨afG hc,q⟩)
 |sR t a b=>
  refine aI V λp bp=>?_;subst bp;exact bE h λc h1 h Q q=>Ev.z7 (I.T _ _ h1 _ (dE h (λhc h=>by subst hc;exact I.E _ _ h _ q) λhc h=>by subst hc;exact I.E _ _ h _ q))
 |aJ es=>refine fX V λk p aP=>?_;subst aP;exact bE h λxs h1 h=>cE h λhc h=>sE h λQ q=>Ev.tuple (BE I.E h1 _ ⟨afG hc,q⟩)
 |neg i=>refine Oy V λj k p p' jf BG=>?_;subst jf;subst BG;exact sE h λQ q=>Ev.z8 (Ev.int (Op.neg q))
 |dt op l r=>obtain⟨hc,p,rfl⟩:=V;exact bE h λx h2 h=>bE h λy h3 h Q q=>Ev.dt (I.E _ _ h2 _ (I.E _ _ h3 _ (BD h q))) hc
 |jY op e r p=>
  subst V;exact bE h λc h1 h=>sE h (Hw (X:=λe v=>jZ (D.o+d) f m (D.hz z n) e (.bool v)) (λe v h=>Hz (λv=>I.E e v) h) (λe v h Q q=>Ev.E6 (h Q q)) (λe e' r a c=>jZ.jY) h1)
 |gY op l r=>refine aI V λp bp=>?_;subst bp;exact bE h λx h1 h=>bE h λy h2 h Q q=>Ev.rU (I.E _ _ h1 _ (I.E _ _ h2 _ (Hv h q)))
 |ig x args=>
  obtain⟨hp,p,p',rfl⟩:=V;exact cE h λhc h=>bE h λc h2 h=>bE h λxs h3 h Q q=>Hy (O.g _ _ h2) (dF hc) (BE I.E h3 _ (by
   induction c with
   |f a=>exact O.pc _ _ _ _ h _ _ _ q
   |m=>exact ag h)) hp
 |_=>exact ag h
omit O in
theorem Ut {k:Kd}(V:jv e k)(h:pT u e k=some c):fP (D.o+d) f m (D.hz z n) e c:=by
 have gen:cond (rY e) ((u.E e).bind kr) none=some c->fP (D.o+d) f m (D.hz z n) e c:=λh Q q=>cE h λhc h=>Ts.plain (Hz (λv=>I.E _ v) h _ (Tr.bool q)) hc;induction k with
 |not x=>obtain⟨p,rfl⟩:=V;exact bE h λc' h1 h=>sE h λQ q=>Ts.not (I.T _ _ h1 _ q)
 |jY op e r p=>subst V;exact Hw (X:=fP (D.o+d) f m (D.hz z n)) I.T (λe v h=>fP.one h) (λe e' r a c=>fP.jY) h
 |dt op l r=>obtain⟨hc,p,rfl⟩:=V;exact bE h λx h2 h=>bE h λy h3 h=>bE h λv h4 h Q q=>Ts.dt (I.E _ _ h2 _ (I.E _ _ h3 _ (BD h4 (iK h▸Tr.bool q)))) hc
 |_=>exact gen h
end
include O
theorem ya(z:Z)(n:Nat)(k:Nat):BF (D.o+d) f m (D.hz z n) (pv D d f m k):=by
 induction k with
 |zero=>exact⟨λ_ _ h=>ag h,λ_ _ h=>ag h⟩
 |succ k I=>exact⟨λ_ _ h=>Us O I (jw _) h,λ_ _ h=>Ut I (jw _) h⟩
variable{u:Ms Z ρ}(I:Hx D r u){z:Z}
theorem HA(h:BA D op x y z k=some r)(q:∀y z' n',k y z'=some r->Q y (D.hz z' n'))(n:Nat):bC (D.o+d) (compareOp op) x y (D.hz z n) Q:=
 oE h (λv h1 h=>BD h1 (q _ _ _ h)) λh=>O.dt _ _ _ _ _ h λv h1 h2=>h2 _ _ _ (q _ _ _ h1)
theorem Uu(h:Hj D op x y z k=some r)(q:∀y z' n',k y z'=some r->Q y (D.hz z' n'))(n:Nat):bC (D.o+d) (binaryOp op) x y (D.hz z n) Q:=
 oE h (λv h1 h=>Hv h1 (q _ _ _ h)) λh=>O.gY _ _ _ _ _ h λv h1 h2=>h2 _ _ _ (q _ _ _ h1)
theorem BH(h:vi D x z k=some r)(q:∀y z' n',k y z'=some r->Q y (D.hz z' n'))(n:Nat):mh (D.o+d) x (D.hz z n) Q:=
 oE h (λv h1 h=>iK h1▸Tr.bool (q _ _ _ h)) λh=>O.tr _ _ _ h λv h1 h2=>h2 _ _ _ (q _ _ _ h1)
include I
theorem HB(h:ig D u d f m x args z fc=some r)(hp:f7 args=true)(hf:∀c xs z1 n1,fc c xs z1=some r->ba (D.o+d) (D.fv c) xs (D.hz z1 n1) Q)(n:Nat):aW (D.o+d) f m (D.hz z n) (.Call (.Name x p) args [] p') Q:=
 dE h (λhc h=>bE h λc h1 h=>Hy (O.g _ _ h1) (dF hc) (I.Es _ _ _ _ _ _ h _ (λxs z1 n1 h=>hf _ _ _ _ h) n) hp)
  λ_ h=>cE h λhc h=>bE h λy h1 h=>bE h λa h2 h=>cE h λh3 h=>Ev.ui (O.lc _ h3) (Ev.local (.of (Ub h2▸h1)) (c9 hc) ⟨rfl,I.Es _ _ _ _ _ _ h _ (λxs z1 n1 h=>hf (.f a) _ _ _ h) n⟩) hp
theorem HC(h:mF D u d f m o a args z fc=some r)(hx:lH o aq p args=true)(hf:∀c xs z1 n1,fc c xs z1=some r->ba (D.o+d) (D.fv c) xs (D.hz z1 n1) Q)(n:Nat):aW (D.o+d) f m (D.hz z n) (.Call (.Attribute o a aq) args [] p) Q:=
 Ev.Up (I.E _ _ _ _ _ _ h _ (λx z1 n1 h=>O.mt _ _ _ _ h λc h h1=>⟨_,h1 n1,I.Es _ _ _ _ _ _ h _ (λxs z2 n2 h=>hf _ _ _ _ h) n1⟩) n) hx
theorem Uv(V:jv e kd)(h:Hk D u d f m e kd z k=some r)(q:∀y z' n',k y z'=some r->Q y (D.hz z' n'))(n:Nat):aW (D.o+d) f m (D.hz z n) e Q:=by
 have sS:∀{x y z1 n1},D.item x y z1 (λv=>k v z1)=some r->(∃T,ew (D.hz z1 n1) x T/\gR T)/\bC (D.o+d) getItem x y (D.hz z1 n1) Q:=λh=>O.item _ _ _ _ h λv h1 h2=>h2 _ _ _ (q _ _ _ h1);induction kd with
 |fZ o a=>
  obtain⟨hc,p,rfl⟩:=V;exact Ev.Uo (I.E _ _ _ _ _ _ h _ (λx z1 n1 h=>bE h λv h1 h=>ed (O.fl _ _ _ _ h1 n1) λC es F In e1 e2=>⟨C,es,v,F,In,e1,e2,q _ _ _ h⟩) n) hc
 |aJ es=>refine fX V λk' p aP=>?_;subst aP;exact Ev.tuple (I.Es _ _ _ _ _ _ h _ (λx z1 n1 h=>cE h λhc h=>⟨afG hc,q _ _ _ h⟩) n)
 |az es=>refine aI V λp bp=>?_;subst bp;exact Ev.list (I.Es _ _ _ _ _ _ h _ (λx z1 n1 h=>cE h λhc h=>⟨afG hc,q _ _ _ h⟩) n)
 |sQ o j=>refine kH V λk' p p' bK=>?_;subst bK;exact Ev.sub (I.E _ _ _ _ _ _ h _ (λx z1 n1 h=>Ev.int (oE h (λv h1 h=>bE h1 λxs h2 h3=>cE h3 λhc h3=>lh h2▸⟨Aw,Op.Ad (Nat.blt_eq.mp hc) h3 (q _ _ _ h)⟩) sS)) n) rfl
 |last o=>refine l8 V λk' p p' Ht jf=>?_;subst jf;exact Ev.sub (I.E _ _ _ _ _ _ h _ (λx z1 n1 h=>Ev.z8 (Ev.int (Op.neg (O.last _ _ _ h λv h1 h2=>h2 _ _ _ (q _ _ _ h1))))) n) rfl
 |sub o i=>obtain⟨hc,p,rfl⟩:=V;exact Ev.sub (I.E _ _ _ _ _ _ h _ (λx z1 n1 h=>I.E _ _ _ _ _ _ h _ (λy z2 n2 h=>sS h) n1) n) hc
 |qQ o lo hi=>
  induction lo with
  |none=>exact O.ev _ _ _ _ _ _ h _ q n
  |some lo=>
   refine fX V λp p' aP=>?_;subst aP;induction hi with
   |none=>exact Ev.Ft (I.E _ _ _ _ _ _ h _ (λx z1 n1 h=>I.E _ _ _ _ _ _ h _ (λy z2 n2 h=>bE h λxs h1 h=>bE h λi h2 h=>cE h λhc h=>by
     rw[afz,afz]at hc;exact⟨xs,i.toNat,by rw[pf h1];exact .az xs,by rw[dZ h2,agq (af4 hc.1)],afG hc.2.1,afG hc.2.2,q _ _ _ h⟩) n1) n)
   |some hi=>exact Ev.Sz (I.E _ _ _ _ _ _ h _ (λx z1 n1 h=>I.E _ _ _ _ _ _ h _ (λy z2 n2 h=>bE h λxs h1 h=>bE h λi h2 h=>I.E _ _ _ _ _ _ h _ (λy3 z3 n3 h=>bE h λj h3 h=>cE h λhc h=>by
     rw[afz,afz]at hc;exact⟨xs,i.toNat,j.toNat,by rw[pf h1];exact .az xs,by rw[dZ h2,agq (af4 hc.1)],by rw[dZ h3,agq (af4 hc.2.1)],afG hc.2.2,q _ _ _ h⟩) n2) n1) n)
 |dt op l r'=>obtain⟨hc,p,rfl⟩:=V;exact Ev.dt (I.E _ _ _ _ _ _ h _ (λx z1 n1 h=>I.E _ _ _ _ _ _ h _ (λy z2 n2 h=>HA O h q n2) n1) n) hc
 |gY op l r'=>refine aI V λp bp=>?_;subst bp;exact Ev.rU (I.E _ _ _ _ _ _ h _ (λx z1 n1 h=>I.E _ _ _ _ _ _ h _ (λy z2 n2 h=>Uu O h q n2) n1) n)
 |ig x args=>obtain⟨hp,p,p',rfl⟩:=V;exact HB O I h hp (λc xs z1 n1 h=>O.call _ _ _ _ _ h _ q n1) n
 |mF o a args=>refine cQ V λap p hx V=>?_;subst V;exact HC (fc:=λc xs z=>D.call d c xs z k) O I h hx (λc xs z1 n1 h=>O.call _ _ _ _ _ h _ q n1) n
 |jY op e es p=>
  subst V;cases es with
  |nil=>exact Ev.E6 (I.E _ _ _ _ _ _ h _ q n)
  |cons e' es=>
   induction op with
   |And=>exact Ev.and (I.E _ _ _ _ _ _ h _ (λx z1 n1 h=>bE h λc h1 h=>iK h1▸Tr.bool (iE h (λhc h=>by subst hc;exact I.E _ _ _ _ _ _ h _ q n1) λhc h=>by subst hc;exact⟨rfl,q _ _ _ h⟩)) n)
   |Or=>exact Ev.or (I.E _ _ _ _ _ _ h _ (λx z1 n1 h=>bE h λc h1 h=>iK h1▸Tr.bool (iE h (λhc h=>by subst hc;exact⟨rfl,q _ _ _ h⟩) λhc h=>by subst hc;exact I.E _ _ _ _ _ _ h _ q n1)) n)
 |not x=>refine aI V λp bp=>?_;subst bp;exact Ev.z8 (I.E _ _ _ _ _ _ h _ (λv z1 n1 h=>Op.not (BH O h (λc z2 n2 h=>q _ _ _ h) n1)) n)
 |sR t a b=>refine aI V λp bp=>?_;subst bp;exact Ev.z7 (I.T _ _ _ _ _ _ h _ (λc z1 n1 h=>iE h (λhc h=>by subst hc;exact I.E _ _ _ _ _ _ h _ q n1) λhc h=>by subst hc;exact I.E _ _ _ _ _ _ h _ q n1) n)
 |_=>exact O.ev _ _ _ _ _ _ h _ q n
theorem Uw(h:Hl D u d f m e z k=some r)(Q:U->AH->Prop)(q:∀y z' n',k y z'=some r->Q y (D.hz z' n'))(n:Nat):aW (D.o+d) f m (D.hz z n) e Q:=
 oE h (λv h1 h=>(ya O z n 9).E _ _ h1 _ (q _ _ _ h)) λh=>Uv O I (jw _) h q n
omit O in
theorem Ux (h:Hm u d f m es z k=some r)(Q:List U->AH->Prop)(q:∀y z' n',k y z'=some r->Q y (D.hz z' n'))(n:Nat):gj (D.o+d) f m (D.hz z n) es Q:=by
 induction es with
 |nil=>exact aM.nil (q _ _ _ h)
 |cons e es=>exact cE h λhc h=>aM.cons (I.E _ _ _ _ _ _ h _ (λx z1 n1 h=>I.Es _ _ _ _ _ _ h _ (λxs z2 n2 h=>q _ _ _ h) n1) n) hc
theorem Uy(V:jv e kd)(h:Hn D u d f m e kd z k=some r)(q:∀y z' n',k y z'=some r->Q y (D.hz z' n'))(n:Nat):eS (D.o+d) f m (D.hz z n) e Q:=by
 have gen:cond (rY e) (u.E d f m e z λv z=>vi D v z k) none=some r->eS (D.o+d) f m (D.hz z n) e Q:=λh=>cE h λhc h=>Ts.plain (I.E _ _ _ _ _ _ h _ (λx z1 n1 h=>BH O h q n1) n) hc;induction kd with
 |not x=>refine aI V λp bp=>?_;subst bp;exact Ts.not (I.T _ _ _ _ _ _ h _ (λb z1 n1 h=>q _ _ _ h) n)
 |jY op e es p=>
  subst V;induction op with
  |And=>exact Ts.and (I.T _ _ _ _ _ _ h _ (λb z1 n1 h=>iE h (λhc h=>by
    subst hc;cases es with
    |nil=>exact Ts.E4 (q _ _ _ h)
    |cons=>exact I.T _ _ _ _ _ _ h _ q n1) λhc h=>by subst hc;exact q _ _ _ h) n)
  |Or=>exact Ts.or (I.T _ _ _ _ _ _ h _ (λb z1 n1 h=>iE h (λhc h=>by subst hc;exact q _ _ _ h) λhc h=>by
    subst hc;cases es with
    |nil=>exact Ts.E5 (q _ _ _ h)
    |cons=>exact I.T _ _ _ _ _ _ h _ q n1) n)
 |dt op l r'=>obtain⟨hc,p,rfl⟩:=V;exact Ts.dt (I.E _ _ _ _ _ _ h _ (λx z1 n1 h=>I.E _ _ _ _ _ _ h _ (λy z2 n2 h=>HA O h (λv z3 n3 h=>BH O h q n3) n2) n1) n) hc
 |_=>exact gen h
theorem Uz(h:Ho D u d f m e z k=some r)(Q:Bool->AH->Prop)(q:∀y z' n',k y z'=some r->Q y (D.hz z' n'))(n:Nat):eS (D.o+d) f m (D.hz z n) e Q:=
 oE h (λv h1 h=>(ya O z n 9).T _ _ h1 _ (q _ _ _ h)) λh=>Uy O I (jw _) h q n
omit O in
theorem UA (h:Hp u d f m ss z tf k=some r)(ht:tf=true->∀m z,k .next m z=D.gk z)(Q:Fl->Lo->AH->Prop)(q:∀fl m' z' n',k fl m' z'=some r->Q fl m' (D.hz z' n'))(n:Nat):bR (D.o+d) f m (D.hz z n) ss Q:=by
 cases ss with
 |nil=>exact Ex.nil (q _ _ _ _ h)
 |cons s ss=>
  induction ss with
  |nil=>
   refine Ex.cons (I.S _ _ _ _ _ _ _ h ht _ (λfl m1 z1 n1 h=>?_) n);induction fl with
   |next=>exact Ex.nil (q _ _ _ _ h)
   |_=>exact q _ _ _ _ h
  |cons s' ss=>
   refine Ex.cons (I.S _ _ _ _ _ _ _ h (λe=>nomatch e) _ (λfl m1 z1 n1 h=>?_) n);induction fl with
   |next=>exact I.L _ _ _ _ _ _ _ h ht _ q n1
   |_=>exact q _ _ _ _ h
theorem UB(V:jv e kd)(h:Hq D u d f m t e kd z pd k=some r)(n:Nat)(hs:kb e=true)(he:pd=some r->dD (D.o+d) f m (D.hz z n) (.Assign [t] e p) Q)(q:∀fl m' z' n',k fl m' z'=some r->Q fl m' (D.hz z' n')):dD (D.o+d) f m (D.hz z n) (.Assign [t] e p) Q:=by
 induction t using Expr.casesOn with
 |Name x p'=>exact dE h (λhc h=>Ex.assign (c9 ((afz ..).mp hc).1) (I.E _ _ _ _ _ _ h _ (λv z1 n1 h=>q _ _ _ _ h) n) hs) λ_ h=>he h
 |Attribute o a p'=>
  have gen:(u.E d f m e z λv z=>u.E d f m o z λx z=>D.kq a x v z λz=>k .next m z)=some r->dD (D.o+d) f m (D.hz z n) (.Assign [.Attribute o a p'] e p) Q:=λh=>
   Ex.zU (I.E _ _ _ _ _ _ h _ (λv z1 n1 h=>I.E _ _ _ _ _ _ h _ (λx z2 n2 h=>O.kq _ _ _ _ _ h λz3 h1 h2=>h2 _ _ _ λn'=>q _ _ _ n' h1) n1) n) hs
  exact dE h (λ_ h=>he h) λ_ h=>gen h
 |Subscript o i p'=>exact dE h (λ_ h=>he h) λ_ h=>Ex.ux (I.E _ _ _ _ _ _ h _ (λv z1 n1 h=>I.E _ _ _ _ _ _ h _ (λx z2 n2 h=>I.E _ _ _ _ _ _ h _ (λy z3 n3 h=>O.lg _ _ _ _ _ h λz4 h1 h2=>h2 _ _ _ λn'=>q _ _ _ n' h1) n2) n1) n) hs
 |Tuple ts k' p'=>
  refine dE h (λhk h=>?_) λ_ h=>he h;refine l8 (Uh V hk) λx args p1 p2 jf=>?_;subst jf;refine bE h λns h1 h=>dE h (λhc h=>?_) λ_ h=>he h;rw[afz]at hc;exact Ex.PJ h1 (λx hx=>(c9 (afF.mp hc.2 x hx)).at_) (I.E _ _ _ _ _ _ h _ (λv z1 n1 h=>bE h λxs h2 h=>cE h λhl h=>⟨xs,lh h2,afN hl,q _ _ _ _ h⟩) n) hs (λL=>rfl) (BC hc.1)
 |_=>exact he h
theorem UC(V:jv e kd)(h:Hr D u d f m e kd z k=some r)(ht:∀m z,k .next m z=D.gk z){Q:Fl->Lo->AH->Prop}(q:∀fl m' z' n',k fl m' z'=some r->Q fl m' (D.hz z' n'))(n:Nat):aW (D.o+d) f m (D.hz z n) e λv H'=>Q .next m H':=by
 have tl:∀c xs z1 n1,D.tail d c xs z1=some r->ba (D.o+d) (D.fv c) xs (D.hz z1 n1) λv H'=>Q .next m H':=λc xs z1 n1 h=>O.tail _ _ _ _ h _ (λy z2 n2 h=>q _ _ _ _ ((ht _ _).trans h)) n1;induction kd with
 |ig x args=>obtain⟨hp,p,p',rfl⟩:=V;exact HB O I h hp tl n
 |mF o a args=>refine cQ V λap p hx V=>?_;subst V;exact HC (fc:=λc xs z=>D.tail d c xs z) O I h hx tl n
 |_=>exact I.E _ _ _ _ _ _ h _ (λv z1 n1 h=>q _ _ _ _ h) n
theorem UD(h:Hs D u d f m s z tf k=some r)(ht:tf=true->∀m z,k .next m z=D.gk z)(Q:Fl->Lo->AH->Prop)(q:∀fl m' z' n',k fl m' z'=some r->Q fl m' (D.hz z' n'))(n:Nat):dD (D.o+d) f m (D.hz z n) s Q:=by
 induction s using Stmt.casesOn with
 |Expr e p=>exact cE h λhc h=>by rw[afz]at hc;exact Ex.sG (dE h (λqN h=>UC O I (jw _) h (ht qN) q n) λ_ h=>I.E _ _ _ _ _ _ h _ (λv z1 n1 h=>q _ _ _ _ h) n) (BC hc.2) hc.1
 |Assign ts e p=>
  cases ts with
  |nil=>exact ag h
  |cons t ts=>
   induction ts with
   |cons=>exact ag h
   |nil=>
    have he:D.st d f m (.Assign [t] e p) z k=some r->dD (D.o+d) f m (D.hz z n) (.Assign [t] e p) Q:=λh=>O.st _ _ _ _ _ _ h _ q n;exact dE h (λhc h=>UB O I (jw _) h n hc he q) λ_ h=>he h
 |AugAssign t op e p=>
  induction t using Expr.casesOn with
  |Name x p'=>exact cE h λhc h=>bE h λv h2 h=>Ex.OR (.of h2) (c9 hc) (I.E _ _ _ _ _ _ h _ (λy z1 n1 h=>bE h λw h3 h=>Un h3 (q _ _ _ _ h)) n)
  |_=>exact ag h
 |If t a b p=>exact Ex.ite (I.T _ _ _ _ _ _ h _ (λc z1 n1 h=>iE h (λhc h=>by subst hc;exact I.L _ _ _ _ _ _ _ h ht _ q n1) λhc h=>by subst hc;exact I.L _ _ _ _ _ _ _ h ht _ q n1) n)
 |Return r' p=>
  induction r' with
  |some e=>exact Ex.ret (I.E _ _ _ _ _ _ h _ (λv z1 n1 h=>q _ _ _ _ h) n)
  |none=>exact Ex.OQ (q _ _ _ _ h)
 |_=>exact O.st _ _ _ _ _ _ h _ q n
omit I in
theorem lj (n:Nat):Hx D r (ms D n):=by
 induction n with
 |zero=>exact⟨λ_ _ _ _ _ _ h=>ag h,λ_ _ _ _ _ _ h=>ag h,λ_ _ _ _ _ _ h=>ag h,λ_ _ _ _ _ _ _ h=>ag h,λ_ _ _ _ _ _ _ h=>ag h⟩
 |succ n I=>exact⟨λ_ _ _ _ _ _ h=>Uw O I h,λ_ _ _ _ _ _ h=>Ux I h,λ_ _ _ _ _ _ h=>Uz O I h,λ_ _ _ _ _ _ _ h=>UA I h,λ_ _ _ _ _ _ _ h=>UD O I h⟩
end
def dI(G:AH)(dp:Nat)(p:cu):Prop:=
 ∀b t b' n Q,p b t=some b'->(∀n,Q .none (hp b' G n))->ba dp (.ref 864) [.ae .bP,b7 t] (hp b G n) Q
section
variable{d:Nat}{f:aV}{m:Lo}{b:B}{G:AH}{n:Nat}
def HD(b:B)(G:AH)(n:Nat):AH:=((hp b G n).add (.bW (b.pk+1)) (.list [])).set .cO (.dict (f9 (fy b) (S "pending") (.ae (.bW (b.pk+1)))))
theorem F.aQ(SA:gS ck (S "pending"))(q:Q .none (HD b G n)):bC d (λov v=>do setAttr ov (S "pending") v;pure .none) (.ae .bP) (.ae (.bW (b.pk+1))) ((hp b G n).add (.bW (b.pk+1)) (.list [])) Q:=
 Op.setAttr SA (es:=fy b) ((AH.bZ _ _ (by intro e;cases e)).trans rfl) ((AH.bZ _ _ (by intro e;cases e)).trans rfl) (by show 21<=1000;decide) q
theorem UE(ho:o=none\/o=some b.aQ):(HD b G n).Le (hp {b with aQ:=[],pk:=b.pk+1,old:=o} G n):=by
 refine .put (by intro e;cases e) (λv e=>?_) (λv e=>?_) (λx h1 h2 v e=>?_) (λx e=>?_) λe=>agQ _ e
 ·exact(if_pos rfl).symm.trans e
 ·exact(afE (λz=>some (cx.dict z)) (by kernel_rfl:f9 (fy b) (S "pending") (.ae (.bW (b.pk+1)))=fy {b with aQ:=[],pk:=b.pk+1,old:=o})).trans e
 ·induction x with
  |bW k=>
   have q:k≠b.pk+1:=λq=>h1 (q▸rfl);replace e:=(if_neg q).symm.trans e;rcases ho with rfl|rfl
   ·exact ag e
   ·by_cases q2:k+1=b.pk+1
    ·exact(if_pos (agZ q2)).trans ((if_pos q2).symm.trans e)
    ·exact ag ((if_neg q2).symm.trans e)
  |cO=>exact(h2 rfl).elim
  |_=>exact e
 ·induction x with
  |bW k=>exact af8 e
  |_=>exact e
end
def Keeps(b b':B):Prop:=b'.pk=b.pk/\b'.old=b.old
theorem Keeps.refl:Keeps b b:=⟨rfl,rfl⟩
theorem Keeps.trans(h:Keeps a b)(k:Keeps b c):Keeps a c:=⟨k.1.trans h.1,k.2.trans h.2⟩
theorem UG(h:kO b x=some b'):Keeps b b':=xn h λ_ h=>by apply sE h;exact .refl
theorem HE(h:kQ b i p j k=some b'):Keeps b b':=by refine fu (RP h) λ_ _ _ hh=>ao hh λx _ BG=>?_;subst BG;exact .refl
theorem UH(h:iV b i j k=some b'):Keeps b b':=by
 unfold iV at h;split at h
 ·exact ag h
 refine bE h λ_ _ h=>?_;refine bE h λ_ _ h=>?_;split at h
 ·exact ag h
 refine bE h λ_ _ h=>?_;split at h
 ·exact ag h
 split at h
 ·split at h
  ·split at h
   ·exact ag h
   ·exact HE h
  ·exact ag h
 ·exact HE h
theorem HF(h:qr b i x j=some b'):Keeps b b':=by refine bE h λr h1 h=>?_;refine bE h1 λy h2 h3=>?_;obtain rfl:=ack h3;exact(UG h2).trans (UH h)
theorem HG(h:jk b x=some b'):Keeps b b':=by
 refine bE h λ_ _ h=>?_;refine bE h λ_ _ h=>?_;split at h
 ·exact ag h
 refine bE h λ_ _ h=>?_;refine bE h λ_ _ h=>?_;split at h
 ·refine bE h λ_ _ h=>?_;split at h
  ·split at h
   ·apply sE h;exact .refl
   ·exact ag h
  ·exact HF h
 ·exact HF h
theorem UI(h:nC b (iG x)=some b'):Keeps b b':=by
 refine bE h λb1 h1 h=>?_;refine bE h λb2 h2 h=>?_;apply sE h;have k1:Keeps b b1:=xn h1 λ_ h=>by apply sE h;exact .refl
 have h3:jk {b1 with dO:=true} x=some b2:=by unfold lM at h2;rw[if_pos (by rfl)]at h2;exact h2
 have k2:=HG h3;exact⟨k2.1.trans k1.1,k2.2.trans k1.2⟩
theorem HH(h1:b.pk=k+1)(h2:b.old=some xs):(hp b G n).get (.bW k)=some (.list (xs.map ia)):=by show(if k=b.pk then _ else _)=_;rw[if_neg (by lia),h2];show(if k+1=b.pk then _ else _)=_;rw[if_pos h1.symm]
theorem HI{xs:List α}{i:Nat}(h:(xs.map f)[i]?=some y):∃x,xs[i]?=some x/\y=f x:=by rw[afX]at h;refine ao (age.mp h) λx h1 h2=>?_;exact⟨x,h1,h2.symm⟩
theorem UJ{xs:List α}(h:xs[i]?=some x):(xs.take (i+1)).all f=((xs.take i).all f&&f x):=by rw[List.take_add_one,h,List.all_append];simp
theorem UK{x y:Str}(h:¬(x !=y)=true):x=y:=by simpa using h
theorem HJ:(hp b G n).get (.bW b.pk)=some (.list (b.aQ.map ia)):=by show(if b.pk=b.pk then _ else _)=_;rw[if_pos rfl]
def HL:List (Str×Addr×Nat):=[(S "is_space",28,10),(S "is_table_part",56,14),(S "is_math_point",63,15),(S "is_html_point",70,16),(S "implied_names",77,17),(S "foster_place",84,18),(S "place_for",92,19),(S "insert_sign",99,20),(S "make",115,22),(S "insert_element",124,23),(S "insert_token",131,24),(S "insert_void",138,25),(S "associate",145,26),(S "OpenStack",246,27),(S "stops_scope",257,28),(S "in_scope",265,29),(S "pop_implied",273,30),(S "mode_of",280,31),(S "mode_for",294,33),(S "reset_mode",301,34),(S "is_space_token",315,36),(S "pop_to_table",322,37),(S "pop_to_body",329,38),(S "pop_to_row",336,39),(S "outside_table",343,40),(S "close_table",350,41),(S "open_part",357,42),(S "table_in_table",364,43),(S "start_in_table",385,46),(S "end_in_table",392,47),(S "sign_in_table",399,48),(S "in_table",406,49),(S "flush_pending",413,50),(S "in_table_text",420,51),(S "table_rules",427,52),(S "unexpected",434,53),(S "is_table_child",441,54),(S "has_in_table",448,55),(S "pop_marked",455,56),(S "close_caption",462,57),(S "in_caption",469,58),(S "leave_columns",476,59),(S "tag_in_columns",483,60),(S "in_column_group",490,61),(S "close_body",497,62),(S "start_in_body",504,63),(S "end_in_body",511,64),(S "in_table_body",518,65),(S "close_row",525,66),(S "start_in_row",532,67),(S "end_in_row",539,68),(S "in_row",546,69),(S "close_cell",553,70),(S "end_in_cell",560,71),(S "in_cell",567,72),(S "row_rules",574,73),(S "Formatting",686,76),(S "Tree",810,78),(S "above",821,79),(S "Builder",888,80),(S "is_html_turn",899,81),(S "ready",907,82),(S "_law_token",914,83),(S "_law_body",921,84),(S "_law_plain",926,85),(S "_law_is_blank",933,86),(S "_law_mode",940,87),(S "_law_split",945,88),(S "_law_holds",952,89),(S "_law_names",957,90),(S "_law_put",964,91),(S "_law_grow",971,92),(S "_law_leave",978,93),(S "_law_settle",983,94),(S "_law_sign",990,95),(S "_law_part",995,96),(S "_law_other",1002,97),(S "_law_tag",1009,98)]
def HM:List ((Addr×Str)×Addr):=[((fw,S "push"),166),((fw,S "pop"),173),((fw,S "current"),180),((fw,S "many"),187),((fw,S "name"),222),((fw,S "pop_until"),236),((fw,S "pop_to"),243),((iU,S "mark"),634),((iU,S "clear_to_mark"),641),((cY,S "add"),720),((cY,S "element"),729),((cY,S "text"),736),((cY,S "insert"),758),((cY,S "append"),765),((cY,S "remove"),772),((cY,S "place"),786),((cY,S "last"),793),((cY,S "is_html"),807),((ck,S "error"),843),((ck,S "to"),850),((ck,S "use"),857),((ck,S "process"),864),((ck,S "feed"),871),((ck,S "adjusted"),878),((ck,S "is_foreign"),885)]
def HN:List (Addr×Str):=[(fw,S "tree"),(fw,S "items"),(iU,S "tree"),(iU,S "items"),(cY,S "kinds"),(cY,S "spaces"),(cY,S "names"),(cY,S "attrs"),(cY,S "texts"),(cY,S "parents"),(cY,S "children"),(cY,S "contents"),(ck,S "rules"),(ck,S "tree"),(ck,S "stack"),(ck,S "formatting"),(ck,S "mode"),(ck,S "original"),(ck,S "modes"),(ck,S "head"),(ck,S "form"),(ck,S "is_foster"),(ck,S "context"),(ck,S "errors"),(ck,S "pending"),(ck,S "is_skipping"),(ck,S "is_acknowledged"),(ck,S "is_done")]
noncomputable def yb:List ((Addr×Str)×Addr)->Addr->Str->Option Addr
 |[],_,_=>none
 |e::r,D,y=>cond (Nat.beq e.1.1 D&&e.1.2==y) (some e.2) (yb r D y)
noncomputable def yc:List (Addr×Str)->Addr->Str->Bool
 |[],_,_=>false
 |e::r,D,y=>(Nat.beq e.1 D&&e.2==y)||yc r D y
noncomputable def sT {α:Type}:List (Addr×α)->Addr->Option α
 |[],_=>none
 |e::r,c=>cond (Nat.beq e.1 c) (some e.2) (sT r c)
theorem BI{α:Type}{p:Addr->α->Prop}:∀{l:List (Addr×α)},(∀e,e∈l->p e.1 e.2)->∀a x,sT l a=some x->p a x:=λ{l}=>by
 induction l with
 |nil=>intro _ a x h;exact ag h
 |cons e r ih=>
  intro ha a x h;replace h:cond (Nat.beq e.1 a) (some e.2) (sT r a)=some x:=h;cases q:Nat.beq e.1 a with
  |true=>rw[q]at h;apply sE h;rw[<-afN q];exact ha e (.head _)
  |false=>rw[q]at h;exact ih (λe he=>ha e (.tail _ he)) a x h
theorem aG{α:Type}{p:α->Prop}{x:α}{l:List α}(h:p x)(t:∀e,e∈l->p e):∀e,e∈x::l->p e:=λe he=>by
 cases he with
 |head=>exact h
 |tail _ he=>exact t e he
theorem cH{α:Type}{p:α->Prop}:∀e,e∈([]:List α)->p e:=λe he=>nomatch he
noncomputable def BJ (g:Addr):Value->Bool
 |.ref a=>Nat.beq a g
 |_=>false
theorem HO{g:Addr}{v:Value}(h:BJ g v=true):v=.ref g:=by induction v<;>first|exact afE Value.ref (afN h)|cases h
def BK(e:Str×Addr×Nat):Bool:=cG (((gl)[e.2.2]?).bind AL) (λq=>q.1==e.1&&BJ e.2.1 q.2) false&&keepIn kX (.ref e.2.1)
theorem UL:HL.all (BK)=true:=by kernel_rfl
def UM(g:Addr)(o:Option (Option Value)):Bool:=cG (o.bind id) (BJ g) false
def BM(e:(Addr×Str)×Addr):Bool:=plainGet kX e.1.1 e.1.2&&(UM e.2 (findIn kX (.ref e.1.1) e.1.2)&&(isFn kX (.ref e.2)&&keepIn kX (.ref e.2)))
theorem UN:HM.all (BM)=true:=by kernel_rfl
def BN(e:Addr×Str):Bool:=plainGet kX e.1 e.2&&(hasDictIn kX e.1&&cG (findIn kX (.ref e.1) e.2) (λo=>o.isNone) false)
theorem HP:HN.all (BN)=true:=by kernel_rfl
theorem vm{α:Type}{o:Option α}{s:α->Bool}(h:cG o s false=true):∃a,o=some a/\s a=true:=oE h (λa e h=>⟨a,e,h⟩) λh=>nomatch h
theorem UO:∀{l:List (Str×Addr×Nat)},l.all (BK)=true->∀x q,l.lookup x=some q->FnAt x (.ref q.1):=λ{l}=>by
 induction l with
 |nil=>intro _ x q h;exact ag h
 |cons e r ih=>
  intro ha x q h;rw[List.all_cons,afz]at ha;rw[afP]at h;cases c:x==e.1 with
  |false=>rw[c]at h;exact ih ha.2 x q h
  |true=>
   rw[c]at h;apply sE h;have h1:=ha.1;unfold BK at h1;rw[afz]at h1;obtain⟨⟨y,v⟩,e1,e2⟩:=vm h1.1;rw[afz]at e2;refine⟨gF e.2.2 ?_,h1.2⟩;rw[e1,afI.mp c,<-afI.mp e2.1,<-HO e2.2]
theorem UP:∀{l:List ((Addr×Str)×Addr)},l.all (BM)=true->∀C x g,yb l C x=some g->MethAt C x g:=λ{l}=>by
 induction l with
 |nil=>intro _ C x g h;exact ag h
 |cons e r ih=>
  intro ha C x g h;rw[List.all_cons,afz]at ha;replace h:cond (Nat.beq e.1.1 C&&e.1.2==x) (some e.2) (yb r C x)=some g:=h;cases q:(Nat.beq e.1.1 C&&e.1.2==x)with
  |false=>rw[q]at h;exact ih ha.2 C x g h
  |true=>
   rw[q]at h;apply sE h;rw[afz]at q;rw[<-afN q.1,<-afI.mp q.2];have h1:=ha.1;unfold BM at h1;rw[afz,afz,afz]at h1;refine⟨h1.1,?_,h1.2.2.1,h1.2.2.2⟩;refine ao (vm h1.2.1) λv e1 e2=>?_;refine bE e1 λo e3 e4=>?_;rw[e3,show o=some v from e4,HO e2]
theorem HQ:∀{l:List (Addr×Str)},l.all (BN)=true->∀C x,yc l C x=true->fJ C x:=λ{l}=>by
 induction l with
 |nil=>intro _ C x h;cases h
 |cons e r ih=>
  intro ha C x h;rw[List.all_cons,afz]at ha;replace h:((Nat.beq e.1 C&&e.2==x)||yc r C x)=true:=h;rw[Bool.or_eq_true]at h;rcases h with q|h
  ·rw[afz]at q;rw[<-afN q.1,<-afI.mp q.2];have h1:=ha.1;unfold BN at h1;rw[afz,afz]at h1;refine ao (vm h1.2.2) λo e1 e2=>?_;refine⟨h1.1,h1.2.1,e1.trans ?_⟩;rw[Option.isNone_iff_eq_none.mp e2]
  ·exact ih ha.2 C x h
structure bg where
 cD:aV
 names:List Str
 dx:List U
 body:List Stmt
def bh(st:Stmt)(q:String)(a ca:Addr)(names:List Str)(dx:List U):bg:=⟨.fn (S q) (fO st) a (.ref ca) [],names,dx,cZ st⟩
def au(a:Addr)(fi:bg):Prop:=∀(d:Nat) (xs:List U) (X:AH) (Q:U->AH->Prop),Nat.beq (xs.length+fi.dx.length) fi.names.length=true->
 bR d fi.cD (fi.names.zip (xs++fi.dx)).reverse X fi.body (λfl _ H'=>∃br,AH.Le H' br/\Q fl.val br)->ba (d+1) (.ref a) xs X Q
def ko(a:Addr):Option Obj:=kX.lookup a
def sU(o:Option Obj)(g:FuncData->Value):Value:=cG o (λo=>match o.data with
 |.func fd=>g fd
 |_=>.none) .none
def fnX(fa ca:Addr)(st:Stmt)(q:String):Option Obj:=some (H.fn st q (sU (ko fa) (·.defaults)) (sU (ko fa) (·.pyModule)) (.ref ca))
def qR(o:Option Obj):List Value:=cG o (λo=>match o.data with
 |.fields vs=>vs.toList
 |_=>[]) []
noncomputable def BO:List Value->Str->Bool
 |_::.str x _::_,y=>x==y
 |_,_=>false
theorem HR{l:List Value}{y:Str}(h:BO l y=true):∃a tk rs,l=a::.str y tk::rs:=by
 induction l with
 |nil=>exact nomatch h
 |cons a l _=>
  induction l with
  |nil=>exact nomatch h
  |cons b r _=>
   induction b using Value.casesOn with
   |str x t=>exact⟨_,_,_,afE (λx=>a::.str x t::r) (afI.mp h)⟩
   |_=>exact nomatch h
abbrev yd(st:Stmt)(q:String)(fa ca:Addr)(names:List Str)(dv:List Value)(S:Setting)(vs:List Value):Prop:=
 peek kX S (bindArgs (H.lu st q 3 (sU (ko fa) (·.defaults)) (sU (ko fa) (·.pyModule)) (.ref ca)) ⟨vs,[]⟩)=some (names.zip (vs++dv))
abbrev UQ(st:Stmt)(q:String)(fa ca:Addr)(names:List Str)(dx:List U)(dv:List Value):Prop:=
 ∀(S:Setting) (vs:List Value),vs.length=names.length-dx.length->yd st q fa ca names dv S vs
abbrev vn(st:Stmt)(q:String)(ca:Addr)(names:List Str):Prop:=(BO (qR (ko ca)) (S q)&&(nF st&&(oN (fO st)&&names.all λx=>(fO st).names.lookup x==some .local)))=true
theorem au.of{st:Stmt}{q:String}{fa ca:Addr}{dx:List U}{dv:List Value}{names:List Str}
  (ho:ko fa=fnX fa ca st q)
  (hbind:UQ st q fa ca names dx dv)
  (iS:∀(X:AH) (h:Heap) (ρ:aF),bu ρ X h->bk h ρ dx dv)
  (hc:ko ca=some (H.co (qR (ko ca))))
  (hb:vn st q ca names):au fa (bh st q fa ca names dx):=by
 intro d xs X Q hl h;unfold vn at hb;rw[afz,afz,afz]at hb;refine kH (HR hb.1) λa tk rs e=>?_;have hl:=afN hl;refine Call.fn (dx:=dx) (dv:=dv) (names:=names) (names.zip (xs++dx)).reverse (ho:=ho) (hc:=hc) (hv:=(List.toList_toArray).trans e) (hi:=hb.2.1) (hbind:=λS vs e=>hbind S vs ?_) (iS:=λh ρ R=>iS _ h ρ R) (eb:=rfl) (es:=rfl) (hloc:=λx hx=>?_) (iB:=rfl) (h:=h) (hs:=hb.2.2.1)
 ·exact e▸Nat.eq_sub_of_add_eq hl
 ·have:=afF.mp hb.2.2.2 x hx;exact .of (by simpa using this)
theorem au.o1{st:Stmt}{q:String}{fa ca:Addr}{a:Str}(ho:ko fa=fnX fa ca st q:=by with_unfolding_all exact rfl)(hd:∀(S:Setting) (x:Value),yd st q fa ca [a] [] S [x]:=by intros;rfl)(hc:ko ca=some (H.co (qR (ko ca))):=by with_unfolding_all exact rfl)(hb:vn st q ca [a]:=by with_unfolding_all exact rfl):au fa (bh st q fa ca [a] []):=au.of ho (λS=>all1 (hd S)) (λ_ _ _ _=>.nil) hc hb
theorem au.o2{st:Stmt}{q:String}{fa ca:Addr}{a b:Str}(ho:ko fa=fnX fa ca st q:=by with_unfolding_all exact rfl)(hd:∀(S:Setting) (x y:Value),yd st q fa ca [a,b] [] S [x,y]:=by intros;rfl)(hc:ko ca=some (H.co (qR (ko ca))):=by with_unfolding_all exact rfl)(hb:vn st q ca [a,b]:=by with_unfolding_all exact rfl):au fa (bh st q fa ca [a,b] []):=au.of ho (λS=>all2 (hd S)) (λ_ _ _ _=>.nil) hc hb
theorem au.o3{st:Stmt}{q:String}{fa ca:Addr}{a b c:Str}(ho:ko fa=fnX fa ca st q:=by with_unfolding_all exact rfl)(hd:∀(S:Setting) (x y z:Value),yd st q fa ca [a,b,c] [] S [x,y,z]:=by intros;rfl)(hc:ko ca=some (H.co (qR (ko ca))):=by with_unfolding_all exact rfl)(hb:vn st q ca [a,b,c]:=by with_unfolding_all exact rfl):au fa (bh st q fa ca [a,b,c] []):=au.of ho (λS=>sj (hd S)) (λ_ _ _ _=>.nil) hc hb
noncomputable def un:List U->Option (U×List U)
 |x::r=>some (x,r)
 |[]=>none
noncomputable def gf:List U->Bool
 |[]=>true
 |_::_=>false
theorem lV{l:List U}{p:U×List U}(h:un l=some p):l=p.1::p.2:=by
 induction l with
 |nil=>exact ag h
 |cons x l=>exact sE (X:=λp:U×List U=>x::l=p.1::p.2) h rfl
theorem HS{l:List U}(h:gf l=true):l=[]:=by induction l<;>cases h;rfl
noncomputable def d9:U->Nat
 |.ae .bP=>1
 |.ae .stack=>2
 |.ae .fF=>3
 |.ae .tree=>4
 |.ae .cw=>5
 |.ae .eR=>6
 |.ae .eg=>7
 |.ae .ff=>8
 |.ae .names=>9
 |.ae .eJ=>10
 |.ae .dU=>11
 |.ae .eQ=>12
 |.ae .aX=>13
 |.ae .items=>14
 |.ae .iO=>15
 |.ae .aK=>16
 |.ae .me=>17
 |.ae .iu=>18
 |_=>0
noncomputable def bc:Nat->U
 |1=>.ae .bP
 |2=>.ae .stack
 |3=>.ae .fF
 |4=>.ae .tree
 |5=>.ae .cw
 |6=>.ae .eR
 |7=>.ae .eg
 |8=>.ae .ff
 |9=>.ae .names
 |10=>.ae .eJ
 |11=>.ae .dU
 |12=>.ae .eQ
 |13=>.ae .aX
 |14=>.ae .items
 |15=>.ae .iO
 |16=>.ae .aK
 |17=>.ae .me
 |18=>.ae .iu
 |_=>.none
theorem fq{x:U}{i:Nat}(h:Nat.beq (d9 x) (i+1)=true):x=bc (i+1):=by
 have h:=afN h;rw[<-h];cases x with
 |ae l=>induction l<;>first|rfl|cases h
 |_=>cases h
def HT(x:U):Option aS:=(iZ x).bind λl=>(un l).bind λp=>(dY p.1).bind λk=>(un p.2).bind λq=>(dY q.1).bind λn=>some ⟨k,n,q.2⟩
theorem UR{x:U}{t:aS}(h:HT x=some t):x=b7 t:=
 bE h λl h1 h=>bE h λp h2 h=>bE h λk h3 h=>bE h λq h4 h=>bE h λn h5 h=>sE (X:=λt=>x=b7 t) h (by rw[lh h1,lV h2,eH h3,lV h4,eH h5])
def HU(x:U):Option (List Str):=(iZ x).bind sv
noncomputable abbrev i3 (ss:List Str):U:=.aJ (ss.map .str)
theorem US{x:U}{t:List Str}(h:HU x=some t):x=i3 t:=bE h λl h1 h=>by rw[lh h1,xo h]
structure Ps(α:Type) where
 p:List U->Option α
 enc:α->List U
 ok:∀xs a,p xs=some a->xs=enc a
def ar:Ps Unit:=⟨λxs=>cond (gf xs) (some ()) none,λ_=>[],λxs a h=>cE h λh _=>HS h⟩
def nS{α β:Type}(g:U->Option α)(e:α->U)(he:∀x a,g x=some a->x=e a)(r:Ps β):Ps (α×β):=
 ⟨λxs=>(un xs).bind λp=>(g p.1).bind λa=>(r.p p.2).bind λb=>some (a,b),λq=>e q.1::r.enc q.2,λxs a h=>bE h λp h1 h=>bE h λx h2 h=>bE h λy h3 h=>sE (X:=λa:α×β=>xs=e a.1::r.enc a.2) h (by rw[lV h1,he _ _ h2,r.ok _ _ h3])⟩
abbrev bN{β:Type}(r:Ps β):Ps (Str×β):=nS dY .str (λ_ _=>eH) r
abbrev HV{β:Type}(r:Ps β):Ps (Bool×β):=nS kr .bool (λ_ _=>iK) r
abbrev dm{β:Type}(r:Ps β):Ps (Int×β):=nS fm .int (λ_ _=>dZ) r
abbrev bF{β:Type}(r:Ps β):Ps (aS×β):=nS HT b7 (λ_ _=>UR) r
abbrev ku{β:Type}(r:Ps β):Ps (List U×β):=nS iZ .aJ (λ_ _=>lh) r
abbrev ll{β:Type}(r:Ps β):Ps (List Str×β):=nS HU i3 (λ_ _=>US) r
section
variable{Z ρ:Type}{D:Dm Z ρ}{r:ρ}
structure cA(Z ρ:Type) where
 call:Nat->List U->Z->(U->Z->Option ρ)->Option ρ
 tail:Nat->List U->Z->Option ρ
structure Lf(Z:Type)(α:Type) where
 β:Type
 m:α->Z->Option β
 v:β->U
 z:Z->β->Z
 t:Option (α->Z->Option Z)
 ht:∀g,t=some g->∀a z0 r,g a z0=some r->∃b,m a z0=some b/\z z0 b=r
def BP{α:Type}(i dd:Nat)(P:Ps α)(d:Nat)(xs:List U)(g:α->Option ρ):Option ρ:=cond (Nat.ble dd d) ((un xs).bind λp=>cond (Nat.beq (d9 p.1) (i+1)) ((P.p p.2).bind g) none) none
theorem HW{α:Type}{i dd d:Nat}{P:Ps α}{xs:List U}{g:α->Option ρ}{X:List U->Prop}(e:BP i dd P d xs g=some r)(h:dd<=d->∀a,g a=some r->X (bc (i+1)::P.enc a)):X xs:=
 cE e λhd e=>bE e λp e1 e=>cE e λhl e=>bE e λa e2 e=>by rw[lV e1,fq hl,P.ok _ _ e2];exact h (afG hd) a e
structure Tl(Z ρ:Type) where
 c:Option (Option Z->Option ρ)
 gk:Z->Option ρ
 ok:∀g,c=some g->∀o r,g o=some r->∃z,o=some z/\gk z=some r
noncomputable def bb {Z:Type}:Tl Z Z:=⟨some id,some,λg e o r h=>by obtain rfl:=ack e;exact⟨r,h,rfl⟩⟩
noncomputable def ay {Z ρ:Type}:Tl Z ρ:=⟨none,λ_=>none,λg e=>nomatch e⟩
def aZ{α:Type}(c:Tl Z ρ)(i dd:Nat)(P:Ps α)(F:Lf Z α):cA Z ρ:=⟨λd xs z k=>BP i dd P d xs λa=>(F.m a z).bind λb=>k (F.v b) (F.z z b),
 λd xs z=>BP i dd P d xs λa=>cG c.c (λg=>cG F.t (λt=>g (t a z)) ((F.m a z).bind λb=>c.gk (F.z z b))) ((F.m a z).bind λb=>c.gk (F.z z b))⟩
structure cU(D:Dm Z ρ)(r:ρ)(a:Addr)(F:cA Z ρ):Prop where
 call:∀d xs z k,F.call d xs z k=some r->∀Q:U->AH->Prop,(∀y z' n',k y z'=some r->Q y (D.hz z' n'))->∀n,ba (D.o+d) (.ref a) xs (D.hz z n) Q
 tail:∀d xs z,F.tail d xs z=some r->∀Q:U->AH->Prop,(∀y z' n',D.gk z'=some r->Q y (D.hz z' n'))->∀n,ba (D.o+d) (.ref a) xs (D.hz z n) Q
def bw(hz:Z->Nat->AH)(dd:Nat)(g:Addr){α:Type}(args:α->List U)(F:Lf Z α):Prop:=
 ∀a z b,F.m a z=some b->∀Q:U->AH->Prop,(∀n',Q (F.v b) (hz (F.z z b) n'))->∀n,ba dd (.ref g) (args a) (hz z n) Q
noncomputable def BQ {α:Type}(dd:Nat)(P:Ps α)(d:Nat)(xs:List U)(g:α->Option ρ):Option ρ:=cond (Nat.ble dd d) ((P.p xs).bind g) none
theorem HX{α:Type}{dd d:Nat}{P:Ps α}{xs:List U}{g:α->Option ρ}{X:List U->Prop}(e:BQ dd P d xs g=some r)(h:dd<=d->∀a,g a=some r->X (P.enc a)):X xs:=
 cE e λhd e=>bE e λa e2 e=>by rw[P.ok _ _ e2];exact h (afG hd) a e
def mH{α:Type}(c:Tl Z ρ)(dd:Nat)(P:Ps α)(F:Lf Z α):cA Z ρ:=⟨λd xs z k=>BQ dd P d xs λa=>(F.m a z).bind λb=>k (F.v b) (F.z z b),λd xs z=>BQ dd P d xs λa=>(F.m a z).bind λb=>c.gk (F.z z b)⟩
theorem nT{α:Type}{c:Tl Z ρ}{dd:Nat}{P:Ps α}{F:Lf Z α}{g:Addr}(h:bw D.hz dd g P.enc F)(hc:D.gk=c.gk):cU D r g (mH c dd P F) where
 call d xs z k e Q q n:=HX (X:=λxs=>ba (D.o+d) (.ref g) xs (D.hz z n) Q) e λhd a e=>bE e λb e3 e=>Call.gu (ads hd (ago ..)) (h _ _ _ e3 Q (λn'=>q _ _ n' e) n)
 tail d xs z e Q q n:=HX (X:=λxs=>ba (D.o+d) (.ref g) xs (D.hz z n) Q) e λhd a e=>bE e λb e3 e=>Call.gu (ads hd (ago ..)) (h _ _ _ e3 Q (λn'=>q _ _ n' (by exact hc▸e)) n)
theorem fb{α:Type}{c:Tl Z ρ}{i dd o:Nat}{P:Ps α}{F:Lf Z α}{g:Addr}(h:bw D.hz (o+dd) g (λa=>bc (i+1)::P.enc a) F)(ho:o<=D.o)(hc:D.gk=c.gk):cU D r g (aZ c i dd P F) where
 call d xs z k e Q q n:=HW (X:=λxs=>ba (D.o+d) (.ref g) xs (D.hz z n) Q) e λhd a e=>bE e λb e3 e=>Call.gu (agL ho hd) (h _ _ _ e3 Q (λn'=>q _ _ n' e) n)
 tail d xs z e Q q n:=HW (X:=λxs=>ba (D.o+d) (.ref g) xs (D.hz z n) Q) e λhd a e=>by rw[hc]at q;have gen:(F.m a z).bind (λb=>c.gk (F.z z b))=some r->ba (D.o+d) (.ref g) (bc (i+1)::P.enc a) (D.hz z n) Q:=λe=>bE e λb e3 e=>Call.gu (agL ho hd) (h _ _ _ e3 Q (λn'=>q _ _ n' e) n);exact oE e (λg' e1 e=>oE e (λt e2 e=>ao (c.ok _ e1 _ _ e) λz' e3 e4=>ao (F.ht _ e2 _ _ _ e3) λb e5 e6=>Call.gu (agL ho hd) (h _ _ _ e5 Q (λn'=>q _ _ n' (e6▸e4)) n)) gen) gen
theorem bx{α:Type}{c:Tl Z ρ}{i dd:Nat}{P:Ps α}{F:Lf Z α}{g:Addr}(h:bw D.hz dd g (λa=>bc (i+1)::P.enc a) F)(hc:D.gk=c.gk):cU D r g (aZ c i dd P F):=
 fb (o:=0) (by rw[Nat.zero_add];exact h) (afO _) hc
def ye(tb:List (Addr×cA Z ρ))(bm:Str->List U->Z->(U->Z->Option ρ)->Option ρ)(d:Nat)(c:Fc)(xs:List U)(z:Z)(k:U->Z->Option ρ):Option ρ:=match c with
 |.f a=>(sT tb a).bind λF=>F.call d xs z k
 |.m x=>bm x xs z k
def BR(tb:List (Addr×cA Z ρ))(bm:Str->List U->Z->(U->Z->Option ρ)->Option ρ)(gk:Z->Option ρ)(d:Nat)(c:Fc)(xs:List U)(z:Z):Option ρ:=match c with
 |.f a=>(sT tb a).bind λF=>F.tail d xs z
 |.m x=>bm x xs z λ_ z=>gk z
def yf(hz:Z->Nat->AH)(bi:Str->Value)(r:ρ)(bm:Str->List U->Z->(U->Z->Option ρ)->Option ρ):Prop:=
 ∀x xs z k,bm x xs z k=some r->∀{P:Prop},(∀y z',k y z'=some r->(∀d n (Q:U->AH->Prop),(∀n',Q y (hz z' n'))->ba d (bi x) xs (hz z n) Q)->P)->P
theorem BS{tb:List (Addr×cA Z ρ)}{bm:Str->List U->Z->(U->Z->Option ρ)->Option ρ}(hb:yf D.hz D.bi r bm)(h:∀e,e∈tb->cU D r e.1 e.2){d:Nat}{c:Fc}{xs:List U}{z:Z}{k:U->Z->Option ρ}(e:ye tb bm d c xs z k=some r)(Q:U->AH->Prop)(q:∀y z' n',k y z'=some r->Q y (D.hz z' n'))(n:Nat):ba (D.o+d) (D.fv c) xs (D.hz z n) Q:=by
 induction c with
 |f a=>exact bE e λF e2 e=>(BI (p:=cU D r) h _ _ e2).call _ _ _ _ e Q q n
 |m x=>exact hb _ _ _ _ e λy z' e1 e2=>e2 _ _ _ λn'=>q _ _ n' e1
theorem HY{tb:List (Addr×cA Z ρ)}{bm:Str->List U->Z->(U->Z->Option ρ)->Option ρ}(hb:yf D.hz D.bi r bm)(h:∀e,e∈tb->cU D r e.1 e.2){d:Nat}{c:Fc}{xs:List U}{z:Z}(e:BR tb bm D.gk d c xs z=some r)(Q:U->AH->Prop)(q:∀y z' n',D.gk z'=some r->Q y (D.hz z' n'))(n:Nat):ba (D.o+d) (D.fv c) xs (D.hz z n) Q:=by
 induction c with
 |f a=>exact bE e λF e2 e=>(BI (p:=cU D r) h _ _ e2).tail _ _ _ e Q q n
 |m x=>exact hb _ _ _ _ e λy z' e1 e2=>e2 _ _ _ λn'=>q _ _ n' e1
theorem run(O:iL D r){g:Addr}{fi:bg}(F:au g fi){d:Nat}{xs:List U}{z:Z}{tf:Bool}{fin:Fl->Lo->Z->Option ρ}(ht:tf=true->∀m z,fin .next m z=D.gk z)(h:(ms D 60).L d fi.cD (fi.names.zip (xs++fi.dx)).reverse fi.body z tf fin=some r)
  {Q:U->AH->Prop}(q:∀fl m z' n',fin fl m z'=some r->Q fl.val (D.hz z' n'))(n:Nat)(hl:Nat.beq (xs.length+fi.dx.length) fi.names.length=true):ba (D.o+d+1) (.ref g) xs (D.hz z n) Q:=
 F _ _ _ _ hl ((lj O 60).L _ _ _ _ _ _ _ h ht _ (λfl m z' n' h=>⟨_,.refl _,q _ _ _ n' h⟩) n)
noncomputable def HZ:U->Bool
 |.none=>true
 |_=>false
theorem BU{x:U}(h:HZ x=true):x=.none:=by rcases x with _|_<;>cases h;rfl
def H3(fl:Fl)(_:Lo)(z:Z):Option (U×Z):=some (fl.val,z)
def jx(fl:Fl)(_:Lo)(z:Z):Option Z:=cond (HZ fl.val) (some z) none
def lW(fl:Fl)(_:Lo)(z:Z):Option (Bool×Z):=(kr fl.val).bind λc=>some (c,z)
end
section
variable{Z:Type}
noncomputable def cB {α:Type}(m:α->Z->Option Z):Lf Z α:=⟨Z,m,λ_=>.none,λ_ z=>z,some m,λg e a z r h=>by obtain rfl:=ack e;exact⟨r,h,rfl⟩⟩
noncomputable def sV {α:Type}(m:α->Z->Option (Bool×Z)):Lf Z α:=⟨Bool×Z,m,λr=>.bool r.1,λ_ r=>r.2,none,λg e=>nomatch e⟩
noncomputable def kz {α:Type}(m:α->Z->Option (Int×Z)):Lf Z α:=⟨Int×Z,m,λr=>.int r.1,λ_ r=>r.2,none,λg e=>nomatch e⟩
noncomputable def fs {α β:Type}(v:β->U)(m:α->Z->Option β):Lf Z α:=⟨β,m,v,λz _=>z,none,λg e=>nomatch e⟩
theorem runN{D:Dm Z Z}{α:Type}{args:α->List U}{m:α->Z->Option Z}(O:∀r,iL D r){g:Addr}{fi:bg}(F:au g fi){d:Nat}(h:∀a z,(ms D 60).L d fi.cD (fi.names.zip (args a++fi.dx)).reverse fi.body z true jx=m a z:=by intros;kernel_rfl)(hg:D.gk=some:=by with_unfolding_all exact rfl)
  (hl:∀a,Nat.beq ((args a).length+fi.dx.length) fi.names.length=true:=by intros;kernel_rfl):bw D.hz (D.o+d+1) g args (cB m):=λa z b e Q q n=>run (O b) F (tf:=true) (λ_ _ _=>by rw[hg];rfl) ((h a z).trans e) (λfl m' z' n' e'=>cE e' λe1 e2=>by rw[BU e1];exact sE (X:=λb=>(∀n',Q .none (D.hz b n'))->Q .none (D.hz z' n')) e2 (λq=>q n') q) n (hl a)
theorem nU{D:Dm Z (Bool×Z)}{α:Type}{args:α->List U}{m:α->Z->Option (Bool×Z)}(O:∀r,iL D r){g:Addr}{fi:bg}(F:au g fi){d:Nat}(h:∀a z,(ms D 60).L d fi.cD (fi.names.zip (args a++fi.dx)).reverse fi.body z false lW=m a z:=by intros;kernel_rfl)
  (hl:∀a,Nat.beq ((args a).length+fi.dx.length) fi.names.length=true:=by intros;kernel_rfl):bw D.hz (D.o+d+1) g args (sV m):=λa z b e Q q n=>run (O b) F (tf:=false) (λe=>nomatch e) ((h a z).trans e) (λfl m' z' n' e'=>bE e' λc e1 e2=>by rw[iK e1];exact sE (X:=λb:Bool×Z=>(∀n',Q (.bool b.1) (D.hz b.2 n'))->Q (.bool c) (D.hz z' n')) e2 (λq=>q n') q) n (hl a)
theorem i4{D:Dm Z (U×Z)}{α:Type}{args:α->List U}{F:Lf Z α}(O:∀r,iL D r){g:Addr}{fi:bg}(F':au g fi){d:Nat}(h:∀a z b,F.m a z=some b->(ms D 60).L d fi.cD (fi.names.zip (args a++fi.dx)).reverse fi.body z false H3=some (F.v b,F.z z b))
  (hl:∀a,Nat.beq ((args a).length+fi.dx.length) fi.names.length=true:=by intros;kernel_rfl):bw D.hz (D.o+d+1) g args F:=λa z b e Q q n=>run (O _) F' (tf:=false) (λe=>nomatch e) (h a z b e) (λfl m' z' n' e'=>sE (X:=λp:U×Z=>(∀n',Q p.1 (D.hz p.2 n'))->Q fl.val (D.hz z' n')) e' (λq=>q n') q) n (hl a)
end
noncomputable def BV:U->Option Nat
 |.ae (.b9 i)=>some i
 |_=>none
theorem H4(h:BV x=some i):x=.ae (.b9 i):=by
 cases x with
 |ae l=>
  induction l with
  |b9 j=>exact afE (λj=>U.ae (.b9 j)) (ack h)
  |_=>exact ag h
 |_=>exact ag h
noncomputable def yg:U->Option Nat
 |.ae (.bW i)=>some i
 |_=>none
theorem UT(h:yg x=some i):x=.ae (.bW i):=by
 cases x with
 |ae l=>
  induction l with
  |bW j=>exact afE (λj=>U.ae (.bW j)) (ack h)
  |_=>exact ag h
 |_=>exact ag h
theorem UU(h:(bF ar).p [v]=some t)(c:(t.1.kind==S "char"&&t.1.rest.isEmpty)=true):v=ia t.1.name:=by rw[afz]at c;have e2:v=b7 t.1:=(List.cons.inj (Ps.ok _ _ _ h)).1;rw[e2,show b7 t.1=.aJ (.str t.1.kind::.str t.1.name::t.1.rest)from rfl,afI.mp c.1,List.isEmpty_iff.mp c.2];rfl
def lp(x:U)(z:B)(K:List Int->(List Int->B)->Option ρ):Option ρ:=
 cG (BV x) (λi=>(z.aa[i]?).bind λy=>K y.af λxs=>z.cq i {y with af:=xs})
  (cond (Nat.beq (d9 x) 14) (K z.stack λxs=>{z with stack:=xs}) (cond (Nat.beq (d9 x) 15) (K z.bJ λxs=>{z with bJ:=xs}) none))
structure jy(G:AH)(z:B)(l:Loc)(xs:List Int)(put:List Int->B):Prop where
 get:∀n,(hp z G n).get l=some (.list (cP xs))
 set:∀n ys,(hp z G n).set l (.list (cP ys))=hp (put ys) G n
theorem nV{K:List Int->(List Int->B)->Option ρ}{P:Prop}(h:lp x z K=some r)(g:∀l xs put,x=.ae l->jy G z l xs put->K xs put=some r->P):P:=
 oE h (λi e h=>bE h λy e2 h=>g (.b9 i) _ _ (H4 e) ⟨λn=>by show(z.aa[i]?).map _=_;rw[e2];rfl,λn ys=>Av (x:={y with af:=ys}) e2 (by show((z.aa.set i _)[i]?).map _=_;rw[agz,if_pos rfl,if_pos (afB.mp e2).1];rfl) (λ_=>rfl) (λ_=>rfl) (λ_=>rfl) (λ_=>rfl) (λ_=>rfl) (λ_=>rfl) (λh=>absurd rfl h)⟩ h)
  λh=>dE h (λe h=>g .items _ _ (fq e) ⟨λ_=>rfl,λ_ _=>Qa⟩ h) λ_ h=>cE h λe h=>g .iO _ _ (fq e) ⟨λ_=>rfl,λ_ _=>Qb⟩ h
theorem cF{ρ:Type}{r:ρ}[Decidable c]{A:Option ρ}{P:Prop}(h:(if c then A else none)=some r)(g:c->A=some r->P):P:=xn h g
section
variable{d:Nat}{G:AH}{z:B}{l:Loc}{xs:List Int}{put:List Int->B}(A:jy G z l xs put){n:Nat}{Q:U->AH->Prop}
include A
omit A in
theorem jy.ok (h:aC xs.length=true):(cP xs).length<=1000000:=by rw[oR];have:=eG h;exact ads ‹_› (by decide)
theorem jy.append(h:aC xs.length=true)(q:Q .none (hp (put (xs++[k])) G n)):ba d (.builtin "list.append") [.ae l,.int k] (hp z G n) Q:=
 Call.append (A.get n) (jy.ok h) (by rw[show cP xs++[U.int k]=cP (xs++[k]) by rw[Ax];rfl,A.set];exact q)
theorem jy.jh(h:gb xs=some (k,ys))(q:Q (.int k) (hp (put ys) G n)):ba d (.builtin "list.pop") [.ae l] (hp z G n) Q:=by refine aU (As h) λe le=>?_;exact Call.jh (xs:=cP ys) (x:=.int k) ((A.get n).trans (by rw[e,Ax];rfl)) (oR▸le) (by rw[A.set];exact q)
theorem jy.uq{k i:Int}(h:aC xs.length=true)(hi:0<=i/\i<=xs.length)(q:Q .none (hp (put (xs.take i.toNat++k::xs.drop i.toNat)) G n)):ba d (.builtin "list.insert") [.ae l,.int i,.int k] (hp z G n) Q:=by obtain⟨a,rfl⟩:∃a:Nat,i=a:=⟨i.toNat,by lia⟩;rw[afM]at q;refine Call.uq (i:=a) (A.get n) (jy.ok h) (by rw[oR];lia) ?_;rw[show(cP xs).take a++U.int k::(cP xs).drop a=cP (xs.take a++k::xs.drop a) by unfold cP;simp,A.set];exact q
theorem jy.index(h:aC xs.length=true)(hk:aw xs k=true)(q:Q (.int (xs.idxOf k:Nat)) (hp z G n)):ba d (.builtin "list.index") [.ae l,.int k] (hp z G n) Q:=
 Call.index (A.get n) (by have:=eG h;exact ads ‹_› (by decide)) (by refine ao (aho.mp hk) λy a e=>?_;rw[<-afI.mp e];exact a) q
theorem jy.len(h:aC xs.length=true)(q:Q (.int xs.length) (hp z G n)):ba d (.builtin "len") [.ae l] (hp z G n) Q:=L.len (A.get n) h q
theorem jy.item(h:cy xs i=some k)(q:Q (.int k) (hp z G n)):(∃T,ew (hp z G n) (.ae l) T/\gR T)/\bC d getItem (.ae l) (.int i) (hp z G n) Q:=⟨jO (A.get n),Op.lL (.list (A.get n)) (jN h) q⟩
theorem jy.last(h:xs.getLast?=some k)(q:Q (.int k) (hp z G n)):(∃T,ew (hp z G n) (.ae l) T/\gR T)/\bC d getItem (.ae l) (.int (-1)) (hp z G n) Q:=by refine aI (agy.mp h) λys e=>?_;refine⟨jO (A.get n),Op.Ac (xs:=cP ys) (.list ?_) q⟩;rw[A.get,e];unfold cP;rw[afR];rfl
theorem jy.dt(h:xS op (aw xs k)=some v)(q:Q v (hp z G n)):bC d (compareOp op) (.int k) (.ae l) (hp z G n) Q:=by
 induction op with
 |In=>exact Op.Fn (.list (A.get n)) (ack h▸q)
 |NotIn=>exact Op.PD (.list (A.get n)) (ack h▸q)
 |_=>exact ag h
theorem jy.UW{Q:Bool->AH->Prop}(h:aC xs.length=true)(q:Q (!xs.isEmpty) (hp z G n)):mh d (.ae l) (hp z G n) Q:=
 Tr.list (A.get n) (jy.ok h) (by rw[show(cP xs).isEmpty=xs.isEmpty by induction xs<;>rfl];exact q)
end
noncomputable def H5 (k:Nat):Option (Nd->Int->U):=
 cond (Nat.beq k 7) (some λx _=>.str x.kind)<|cond (Nat.beq k 8) (some λx _=>.str x.d7)<|cond (Nat.beq k 9) (some λx _=>.str x.name)<|
 cond (Nat.beq k 10) (some λx _=>.str x.text)<|cond (Nat.beq k 11) (some λx _=>.int x.bB)<|cond (Nat.beq k 12) (some λ_ i=>.ae (.b9 i.toNat)) none
theorem UX(h:H5 (d9 x)=some g)(e:nd b i=some y)(q:Q (g y i) (hp b G n)):(∃T,ew (hp b G n) x T/\gR T)/\bC d getItem x (.int i) (hp b G n) Q:=by
 have hx:d9 x≠0->x=bc (d9 x):=λh=>by refine aI (Nat.exists_eq_succ_of_ne_zero h) λj e=>?_;exact e▸fq (by exact e▸agC _)
 generalize d9 x=k at h hx;replace hx:∀{j},Nat.beq k (j+1)=true->x=bc (j+1):=λc=>afN c▸hx (afN c▸Nat.succ_ne_zero _);refine dE h (λc h=>(by rw[hx c];obtain rfl:=ack h;exact⟨jO rfl,R.eg e q⟩)) λ_ h=>?_;refine dE h (λc h=>(by rw[hx c];obtain rfl:=ack h;exact⟨jO rfl,R.ff e q⟩)) λ_ h=>?_;refine dE h (λc h=>(by rw[hx c];obtain rfl:=ack h;exact⟨jO rfl,R.names e q⟩)) λ_ h=>?_;refine dE h (λc h=>(by rw[hx c];obtain rfl:=ack h;exact⟨jO rfl,R.eJ e q⟩)) λ_ h=>?_;refine dE h (λc h=>(by rw[hx c];obtain rfl:=ack h;exact⟨jO rfl,R.dU e q⟩)) λ_ h=>?_;refine cE h λc h=>?_;rw[hx c];obtain rfl:=ack h;exact⟨jO rfl,R.eQ e q⟩
theorem BW(h:un l=some p)(g:gf p.2=true):l=[p.1]:=by rw[lV h,HS g]
def BX(x:Str)(xs:List U)(z:B)(k:U->B->Option ρ):Option ρ:=
 (un xs).bind λp=>
  cond (x==S "len") (cond (gf p.2) (lp p.1 z λxs put=>if aC xs.length then k (.int xs.length) z else none) none)<|
  cond (x==S "pop") (cond (gf p.2) (lp p.1 z λxs put=>(gb xs).bind λr=>k (.int r.1) (put r.2)) none)<|
  (un p.2).bind λp2=>
   cond (x==S "append") (cond (gf p2.2) (cond (Nat.beq (d9 p.1) 16) ((iZ p2.1).bind λt=>(un t).bind λt1=>(un t1.2).bind λt2=>cond (gf t2.2) ((dY t1.1).bind λa=>(dY t2.1).bind λm=>if aC z.aK.length then k .none {z with aK:=z.aK++[(a,m)]}else none) none)
    (cG (yg p.1) (λj=>cond (Nat.beq j z.pk) (((bF ar).p [p2.1]).bind λt=>if aC z.aQ.length then cond (t.1.kind==S "char"&&t.1.rest.isEmpty) (k .none {z with aQ:=z.aQ++[t.1.name]}) none else none) none)
     ((fm p2.1).bind λv=>lp p.1 z λxs put=>if aC xs.length then k .none (put (xs++[v]))else none))) none)<|
   cond (x==S "index") (cond (gf p2.2) ((fm p2.1).bind λv=>lp p.1 z λxs put=>if aC xs.length=true/\aw xs v=true then k (.int (xs.idxOf v:Nat)) z else none) none)<|
   cond (x==S "insert") ((un p2.2).bind λp3=>cond (gf p3.2) ((fm p2.1).bind λi=>(fm p3.1).bind λv=>lp p.1 z λxs put=>if aC xs.length=true/\0<=i/\i<=(xs.length:Int)then k .none (put (xs.take i.toNat++v::xs.drop i.toNat))else none) none) none
def UY:List (Str×Value):=[(S "len",.builtin "len"),(S "range",.type "range"),(S "list",.type "list"),(S "str",.type "str"),(S "isinstance",.builtin "isinstance"),(S "append",.builtin "list.append"),(S "pop",.builtin "list.pop"),(S "insert",.builtin "list.insert"),(S "index",.builtin "list.index")]
def ft(x:Str):Value:=cG (UY.lookup x) id .none
theorem BY:ft (S "len")=.builtin "len":=rfl
theorem pg:ft (S "append")=.builtin "list.append":=rfl
theorem BZ:ft (S "pop")=.builtin "list.pop":=rfl
theorem yh:ft (S "insert")=.builtin "list.insert":=rfl
theorem B1:ft (S "index")=.builtin "list.index":=rfl
theorem UZ(hs:aC z.aK.length=true)(q:Q .none (hp {z with aK:=z.aK++[(x,m)]} G n)):ba d (.builtin "list.append") [.ae .aK,.aJ [.str x,.str m]] (hp z G n) Q:=by refine Call.append (xs:=bT z.aK) rfl (by unfold bT;rw[afA];have:=eG hs;exact ads ‹_› (by decide)) ?_;rw[show bT z.aK++[U.aJ [.str x,.str m]]=bT (z.aK++[(x,m)]) by unfold bT;rw[afR];rfl,Qd];exact q
theorem gZ(e:v=v')(e2:xs=xs')(h:ba d v' xs' H Q):ba d v xs H Q:=by subst e e2;exact h
theorem sW(e:op=U0)(ex:x=x')(ey:y=y')(h:bC d (compareOp U0) x' y' H Q):bC d (compareOp op) x y H Q:=by subst e ex ey;exact h
theorem lX(ex:x=x')(ey:y=y')(h:vk d x' y' H Q):vk d x y H Q:=by subst ex ey;exact h
theorem g8(h:(x==y)=true)(hb:ft y=v):ft x=v:=afI.mp h▸hb
theorem sX(h:un l=some p)(g:gf p.2=true)(e:p.1=a):l=[a]:=by rw[BW h g,e]
theorem kA(h:un l=some p)(h2:un p.2=some p2)(g:gf p2.2=true)(e:p.1=a)(e2:p2.1=b):l=[a,b]:=by rw[lV h,sX h2 g e2,e]
theorem B2(h:un l=some p)(h2:un p.2=some p2)(h3:un p2.2=some p3)(g:gf p3.2=true)(e:p.1=a)(e2:p2.1=b)(e3:p3.1=c):l=[a,b,c]:=by rw[lV h,kA h2 h3 g e2 e3,e]
theorem H6(h0:iZ x=some t)(h:un t=some p)(h2:un p.2=some p2)(g:gf p2.2=true)(e:dY p.1=some a)(e2:dY p2.1=some b):x=.aJ [.str a,.str b]:=by rw[lh h0,kA h h2 g (eH e) (eH e2)]
theorem H7(h:yg x=some j)(e:Nat.beq j k=true):x=.ae (.bW k):=by rw[UT h,afN e]
theorem H8{ρ:Type}{r:ρ}:yf (λb n=>hp b G n) ft r BX:=λx xs z k h P g=>
 bE h λp e1 h=>dE h (λe h=>cE h λe2 h=>nV (G:=G) h λl xs put el A h=>cF h λho h=>g _ _ h λd n Q q=>gZ (g8 e BY) (sX e1 e2 el) (A.len ho (q n))) λ_ h=>
 dE h (λe h=>cE h λe2 h=>nV (G:=G) h λl xs put el A h=>bE h λr e3 h=>g _ _ h λd n Q q=>gZ (g8 e BZ) (sX e1 e2 el) (A.jh e3 (q n))) λ_ h=>bE h λp2 e2 h=>
 dE h (λe h=>cE h λe3 h=>dE h (λel h=>bE h λt f1 h=>bE h λt1 f2 h=>bE h λt2 f3 h=>cE h λf4 h=>bE h λa f5 h=>bE h λm f6 h=>cF h λho h=>g _ _ h λd n Q q=>gZ (g8 e pg) (kA e1 e2 e3 (fq el) (H6 f1 f2 f3 f4 f5 f6)) (UZ ho (q n)))
  λ_ h=>oE h (λj ej h=>cE h λek h=>bE h λt f1 h=>cF h λho h=>cE h λf2 h=>g _ _ h λd n Q q=>gZ (g8 e pg) (kA e1 e2 e3 (H7 ej ek) (UU f1 f2)) (L.Qg ho (q n)))
   λh=>bE h λv f1 h=>nV (G:=G) h λl xs put el A h=>cF h λho h=>g _ _ h λd n Q q=>gZ (g8 e pg) (kA e1 e2 e3 el (dZ f1)) (A.append ho (q n))) λ_ h=>
 dE h (λe h=>cE h λe3 h=>bE h λv f1 h=>nV (G:=G) h λl xs put el A h=>cF h λho h=>g _ _ h λd n Q q=>gZ (g8 e B1) (kA e1 e2 e3 el (dZ f1)) (A.index ho.1 ho.2 (q n))) λ_ h=>
 cE h λe h=>bE h λp3 e3 h=>cE h λe4 h=>bE h λi f1 h=>bE h λv f2 h=>nV (G:=G) h λl xs put el A h=>cF h λho h=>g _ _ h λd n Q q=>gZ (g8 e yh) (B2 e1 e2 e3 e4 el (dZ f1) (dZ f2)) (A.uq ho.1 ho.2 (q n))
def B3(b:B)(k:Nat):Option (Addr×List (Str×U)):=
 cond (Nat.beq k 1) (some (ck,fy b))<|cond (Nat.beq k 2) (some (fw,nA))<|cond (Nat.beq k 3) (some (iU,qn))<|cond (Nat.beq k 4) (some (cY,eT)) none
theorem U1(h:d9 x=k+1):x=bc (k+1):=fq (by exact h▸agC _)
theorem B4(h:B3 b (d9 x)=some q):iA (hp b G n) x q.1 q.2:=by have hx:∀{k},Nat.beq (d9 x) (k+1)=true->x=bc (k+1):=λc=>U1 (afN c);refine dE h (λc h=>(by rw[hx c];apply sE h;exact Fu)) λ_ h=>dE h (λc h=>(by rw[hx c];apply sE h;exact Fw)) λ_ h=>dE h (λc h=>(by rw[hx c];apply sE h;exact PS)) λ_ h=>cE h λc h=>?_;rw[hx c];apply sE h;exact Fv
noncomputable def H9:U->Bool
 |.val v=>handedIn v
 |_=>true
theorem Ia(h:H9 u=true):u.plain:=by rcases u with _|_<;>first|exact af2|exact h
def yi:List Str:=[S "append",S "pop",S "insert",S "index"]
def B5(x:U)(z:B)(a:Str)(k:Fc->Option ρ):Option ρ:=cG (B3 z (d9 x)) (λq=>cond (q.2.lookup a).isNone ((yb HM q.1 a).bind λg=>k (.f g)) none)
 (cond (aw yi a) (cG (BV x) (λi=>(z.aa[i]?).bind λ_=>k (.m a)) (cG (yg x) (λj=>cond (Nat.beq j z.pk) (k (.m a)) none) (cond (Nat.beq (d9 x) 14||(Nat.beq (d9 x) 15||Nat.beq (d9 x) 16)) (k (.m a)) none))) none)
def Ib(x:U)(z:B)(a:Str):Option U:=(B3 z (d9 x)).bind λq=>cond (yc HN q.1 a) ((q.2.lookup a).bind λv=>cond (H9 v) (some v) none) none
def B6:List Str:=[S "len",S "range",S "list",S "str",S "isinstance"]
def gB(x:Str):Option Fc:=cG (HL.lookup x) (λq=>some (.f q.1)) (cond (aw B6 x) (some (.m x)) none)
def Ic(a:Str)(x v:U)(z:B)(k:B->Option ρ):Option ρ:=cond (Nat.beq (d9 x) 1)
 (cond (a==S "is_foster") ((kr v).bind λc=>k {z with dO:=c}) (cond (a==S "is_acknowledged") ((kr v).bind λc=>k {z with dP:=c})
  (cond (a==S "head") ((fm v).bind λc=>k {z with head:=c}) ((dY v).bind λc=>cond (a==S "original") (k {z with original:=c}) (cond (a==S "mode") (k {z with mode:=c}) none))))) none
noncomputable def Ie:CmpOp->Bool
 |.NotIn=>true
 |_=>false
theorem U2(h:Ie op=true):op=.NotIn:=by induction op<;>first|rfl|cases h
noncomputable def isIn:CmpOp->Bool
 |.In=>true
 |_=>false
theorem Ig(h:isIn op=true):op=.In:=by induction op<;>first|rfl|cases h
def U3(op:CmpOp)(x y:U)(z:B)(k:U->Option ρ):Option ρ:=cond (Ie op&&Nat.beq (d9 y) 6) ((dY x).bind λa=>k (.bool (!(kN.lookup a).isSome)))
 ((fm x).bind λa=>cond (isIn op&&Nat.beq (d9 y) 17) (k (.bool false)) (lp y z λxs put=>(xS op (aw xs a)).bind k))
def Ih(x y:U)(z:B)(k:U->Option ρ):Option ρ:=cG (H5 (d9 x)) (λg=>(fm y).bind λi=>(nd z i).bind λn=>k (g n i))
 (cond (Nat.beq (d9 x) 6) ((dY y).bind λa=>(kN.lookup a).bind k) ((fm y).bind λi=>lp x z λxs put=>(cy xs i).bind λv=>k (.int v)))
def U4(x:U)(z:B)(k:U->Option ρ):Option ρ:=lp x z λxs put=>(xs.getLast?).bind λv=>k (.int v)
def U5(x:U)(z:B)(k:Bool->Option ρ):Option ρ:=lp x z λxs put=>if aC xs.length then k (!xs.isEmpty)else none
def U6(x y v:U)(z:B)(k:B->Option ρ):Option ρ:=(fm y).bind λi=>(nd z i).bind λn=>
 cond (Nat.beq (d9 x) 10) ((dY v).bind λs=>if aC z.aa.length then k (z.cq i.toNat {n with text:=s})else none)
  (cond (Nat.beq (d9 x) 11) ((fm v).bind λs=>if aC z.aa.length then k (z.cq i.toNat {n with bB:=s})else none) none)
def U7(op:Operator)(x y:U)(z:B)(k:U->Option ρ):Option ρ:=(dY x).bind λa=>(dY y).bind λb=>(match op with
 |.Add=>if a.length+b.length<=1000000 then k (.str (a++b))else none
 |_=>none)
noncomputable def Ii:List Addr:=[469,490,518,546,567,406,420,921]
def B7(a:Addr):Bool:=Ii.any (Nat.beq a)
theorem U8:Ii.all (λa=>keepIn kX (.ref a))=true:=by kernel_rfl
def cv:List (Addr×Nat×(List U->Option U)):=[(441,1,λxs=>((bN ar).p xs).bind λq=>some (.bool (aw jQ q.1))),(28,1,λxs=>((bN ar).p xs).bind λq=>some (.bool (fA q.1))),
 (315,2,λxs=>((bF ar).p xs).bind λq=>some (.bool (q.1.kind==S "char"&&fA q.1.name))),(434,1,λxs=>((bF ar).p xs).bind λq=>some (.str (sf q.1)))]
def B8(tb:List (Addr×Nat×(List U->Option U)))(d:Nat)(a:Addr)(xs:List U):Option U:=(sT tb a).bind λF=>cond (Nat.ble F.1 d) (F.2 xs) none
noncomputable def Ij:Kd->Option (Expr×Str)
 |.fZ o a=>some (o,a)
 |_=>none
noncomputable def lY:Kd->Option Str
 |.name x=>some x
 |_=>none
noncomputable def yj:Kd->Bool
 |.az []=>true
 |_=>false
theorem U9(h:Ij (vw e)=some q):∃p,e=.Attribute q.1 q.2 p:=by
 have V:=jw e;generalize vw e=k at h V;induction k with
 |fZ o a=>exact sE (X:=λq:Expr×Str=>∃p,e=.Attribute q.1 q.2 p) h V.2
 |_=>exact ag h
theorem mI(h:lY (vw e)=some x):∃p,e=.Name x p:=by
 have V:=jw e;generalize vw e=k at h V;induction k with
 |name y=>exact sE (X:=λx=>∃p,e=.Name x p) h V
 |_=>exact ag h
theorem B9(h:yj (vw e)=true):∃p,e=.List [] p:=by
 have V:=jw e;generalize vw e=k at h V;induction k with
 |az es=>
  induction es with
  |nil=>exact V
  |cons=>cases h
 |_=>cases h
noncomputable def yk:List α->Option α
 |[x]=>some x
 |_=>none
theorem vo{α:Type}{l:List α}{x:α}(h:yk l=some x):l=[x]:=by
 cases l with
 |nil=>exact ag h
 |cons y l=>
  induction l with
  |nil=>exact sE (X:=λx=>[y]=[x]) h rfl
  |cons=>exact ag h
def Ik(keep:Bool)(f:aV)(m:Lo)(s:Stmt)(z:B)(k:Fl->Lo->B->Option ρ):Option ρ:=match s with
 |.Assign ts e _=>(yk ts).bind λt=>(Ij (vw t)).bind λq=>(lY (vw q.1)).bind λx=>cond (yj (vw e)&&(q.2==S "pending"&&iJ f x)) ((m.lookup x).bind λv=>cond (Nat.beq (d9 v) 1) (k .next m {z with aQ:=[],pk:=z.pk+1,old:=cond keep (some z.aQ) none}) none) none
 |_=>none
def DB(ρ:Type)(c:Tl B ρ)(G:AH)(o:Nat)(kp:Bool)(pc:List (Addr×Nat×(List U->Option U)))(tb:List (Addr×cA B ρ)):Dm B ρ:=
 {hz:=λb n=>hp b G n,o:=o,bi:=ft,g:=gB,lc:=B7,mt:=B5,fl:=Ib,pc:=B8 pc,dt:=U3,gY:=U7,item:=Ih,last:=U4,kq:=Ic,lg:=U6,tr:=U5,call:=ye tb BX,tail:=BR tb BX c.gk,gk:=c.gk,ev:=λ_ _ _ _ _ _=>none,st:=λ_ f m s z k=>Ik kp f m s z k}
def DP(ρ:Type)(pc:List (Addr×Nat×(List U->Option U))):Dm AH ρ:=
 {hz:=λX _=>X,o:=0,bi:=ft,g:=gB,lc:=B7,mt:=λ_ _ _ _=>none,fl:=λ_ _ _=>none,pc:=B8 pc,dt:=λ_ _ _ _ _=>none,gY:=λ_ _ _ _ _=>none,item:=λ_ _ _ _=>none,last:=λ_ _ _=>none,kq:=λ_ _ _ _ _=>none,lg:=λ_ _ _ _ _=>none,tr:=λ_ _ _=>none,call:=λ_ _ _ _ _=>none,tail:=λ_ _ _ _=>none,gk:=λ_=>none,ev:=λ_ _ _ _ _ _=>none,st:=λ_ _ _ _ _ _=>none}
section
variable{G:AH}
theorem yl.post(h:dD d f m H s λfl m' H'=>∃br,AH.Le H' br/\Q fl m' br):dD d f m H s Q:=
 λA ρ L s Qc E ah X p=>h A ρ L s Qc E ah X λx v aj m' H' s' q X' S z r=>ao q λbr l q=>p x v aj m' br s' q (X'.le l) S z r
def lZ(a:Addr)(F:Nat×(List U->Option U)):Prop:=∀xs y,F.2 xs=some y->∀(X:AH) (Q:U->AH->Prop),Q y X->ba F.1 (.ref a) xs X Q
theorem Va(h:aw B6 x=true):iw x (ft x)/\Callee (ft x):=by refine ao (aho.mp h) λy hy e=>?_;replace e:y=x:=afI.mp e;subst e;have:∀y∈B6,iw y (ft y)/\Callee (ft y):=aG ⟨uM,.lC _⟩ (aG ⟨xi,.type _⟩ (aG ⟨xj,.type _⟩ (aG ⟨AM,.type _⟩ (aG ⟨QV,.lC _⟩ cH))));exact this y hy
def l4:Fc->Value
 |.f a=>.ref a
 |.m x=>ft x
theorem ym(h:gB x=some c):FnAt x (l4 c)\/(iw x (l4 c)/\Callee (l4 c)):=
 oE h (λq h1 h=>sE (X:=λc=>FnAt x (l4 c)\/(iw x (l4 c)/\Callee (l4 c))) h (.inl (UO UL _ _ h1))) λh=>cE h λhc h=>sE (X:=λc=>FnAt x (l4 c)\/(iw x (l4 c)/\Callee (l4 c))) h (.inr (Va hc))
theorem Il(h:B7 a=true):Callee (.ref a):=by refine ao (aho.mp h) λc h2 h3=>?_;rw[afN h3];exact .top (afF.mp U8 _ h2)
theorem Im(vp:∀e,e∈pc->lZ e.1 e.2)(h:B8 pc d a xs=some y)(q:Q y X):ba (o+d) (.ref a) xs X Q:=
 bE h λF h2 h=>cE h λhc h=>Call.gu (ads (afG hc) (ago ..)) (BI (p:=lZ) vp _ _ h2 _ _ h _ _ q)
theorem qT(vp:∀e,e∈pc->lZ e.1 e.2):iL (DP ρ pc) r where
 g x c h:=by induction c<;>exact ym h
 lc a h:=Il h
 mt x z a k h:=ag h
 fl x z a v h:=ag h
 pc d a xs y h z n Q q:=Im vp h q
 dt op x y z k h:=ag h
 gY op x y z k h:=ag h
 item x y z k h:=ag h
 last x z k h:=ag h
 kq a x v z k h:=ag h
 lg x y v z k h:=ag h
 tr x z k h:=ag h
 call d v xs z k h:=ag h
 tail d v xs z h:=ag h
 ev d f m e z k h:=ag h
 st d f m s z k h:=ag h
theorem mJ(hl:ew H x "list")(ha:aw yi a=true):mG H x a (ft a):=by
 refine ao (aho.mp ha) λy hy e=>?_;replace e:y=a:=afI.mp e;subst e;have mk:∀id,ft y=.builtin id->Slot "list" y id->typeOf (.builtin id)=pure (.type "method_descriptor")->mG H x y (ft y):=λid e sl ty=>.inr ⟨_,_,e,hl,sl,PySem.F.plainAttrs_list,ty⟩;have:∀y∈yi,(∀id,ft y=.builtin id->Slot "list" y id->typeOf (.builtin id)=pure (.type "method_descriptor")->mG H x y (ft y))->mG H x y (ft y):=
  aG (λmk=>mk _ pg agS aha) (aG (λmk=>mk _ BZ PySem.F.slot_list_pop PySem.F.type_list_pop) (aG (λmk=>mk _ yh PySem.F.slot_list_insert PySem.F.type_list_insert) (aG (λmk=>mk _ B1 PySem.F.slot_list_index PySem.F.type_list_index) cH)))
 exact this y hy mk
theorem Io{P:Prop}(h:(a||b)=true)(f:a=true->P)(g:b=true->P):P:=((Bool.or_eq_true a b).mp h).elim f g
theorem Ca(ex:x=x')(ey:y=y')(ev:v=v')(h:mn d x' y' v' H Q):mn d x y v H Q:=by subst ex ey ev;exact h
theorem vq(ea:(a==a')=true)(ex:x=x')(ev:v=v')(h:xZ d a' x' v' H Q):xZ d a x v H Q:=by subst ex ev;exact afI.mp ea▸h
theorem hB(h:(a&&b)=true):a=true:=((afz a b).mp h).1
theorem gH(h:(a&&b)=true):b=true:=((afz a b).mp h).2
theorem mK(e:x=x')(h:mG H x' a v):mG H x a v:=by subst e;exact h
theorem Ip{r:ρ}(h:B5 x z a k=some r){P:Prop}(g:∀c,k c=some r->(∀n,mG (hp z G n) x a (l4 c))->P):P:=
 oE h (λq h1 h=>cE h λhc h=>bE h λc h2 h=>g _ h λn=>.inl ⟨_,_,_,rfl,UP UN _ _ _ h2,B4 h1,Option.isNone_iff_eq_none.mp hc⟩) λh=>cE h λe3 h=>
  oE h (λi e h=>bE h λy e2 h=>g _ h λn=>mK (H4 e) (mJ (.list (xs:=cP y.af) (by show(z.aa[i]?).map _=_;rw[e2];rfl)) e3)) λh=>oE h (λj e h=>cE h λe2 h=>g _ h λn=>mK (H7 e e2) (mJ (.list (xs:=z.aQ.map ia) HJ) e3)) λh=>cE h λe h=>g _ h λn=>
   Io e (λe1=>mK (fq e1) (mJ (.list (xs:=cP z.stack) rfl) e3)) λe=>Io e (λe1=>mK (fq e1) (mJ (.list (xs:=cP z.bJ) rfl) e3)) λe1=>mK (fq e1) (mJ (.list (xs:=bT z.aK) rfl) e3)
theorem Vb{ρ:Type}{r:ρ}{k:B->Option ρ}(h:Ic a x v z k=some r){P:Prop}(g:∀z',k z'=some r->(∀d n (Q:U->AH->Prop),(∀n',Q .none (hp z' G n'))->xZ d a x v (hp z G n) Q)->P):P:=
 cE h λhc h=>dE h (λe h=>bE h λc h1 h=>g _ h λd n Q q=>vq e (fq hc) (iK h1) (F.Qj Rb (q n))) λ_ h=>
   dE h (λe h=>bE h λc h1 h=>g _ h λd n Q q=>vq e (fq hc) (iK h1) (F.Qk Rg (q n))) λ_ h=>
   dE h (λe h=>bE h λc h1 h=>g _ h λd n Q q=>vq e (fq hc) (dZ h1) (F.head Ra (q n))) λ_ h=>
   bE h λc h1 h=>dE h (λe h=>g _ h λd n Q q=>vq e (fq hc) (eH h1) (F.original Q9 (q n))) λ_ h=>
   cE h λe h=>g _ h λd n Q q=>vq e (fq hc) (eH h1) (F.mode Q8 (q n))
theorem Vc{ρ:Type}{r:ρ}{kp:Bool}{k:Fl->Lo->B->Option ρ}(h:Ik kp f m s z k=some r)(Q:Fl->Lo->AH->Prop)(q:∀fl m' z' n',k fl m' z'=some r->Q fl m' (hp z' G n'))(n:Nat):dD d f m (hp z G n) s Q:=by
 induction s using Stmt.casesOn with
 |Assign ts e p=>
  refine bE h λt h1 h=>bE h λqa h2 h=>bE h λx h3 h=>cE h λhc h=>bE h λy h4 h=>cE h λhl h5=>?_;rw[afz,afz]at hc;refine cps λG k=>?_;refine aI (U9 h2) λp1 e1=>?_;refine aI (mI h3) λp2 e2=>?_;refine aI (B9 hc.1) λp3 e3=>?_;refine k ?_;rw[vo h1,e1,e2,e3,show qa.2=S "pending"from afI.mp hc.2.1];rw[fq hl]at h4;exact yl.post (Ex.zU (Ev.kc (.bW (z.pk+1)) (aM.nil ⟨afO _,agf _,Ev.local (.of h4) (c9 hc.2.2) (F.aQ Rc ⟨_,UE (o:=cond kp (some z.aQ) none) (by induction kp;exact .inl rfl;exact .inr rfl),q _ _ _ n h5⟩)⟩)) rfl)
 |_=>exact ag h
theorem bo{c:Tl B ρ}{tb:List (Addr×cA B ρ)}{r:ρ}(vp:∀e,e∈pc->lZ e.1 e.2)(vr:∀e,e∈tb->cU (DB ρ c G o kp pc tb) r e.1 e.2):iL (DB ρ c G o kp pc tb) r where
 g x c h:=by induction c<;>exact ym h
 lc a h:=Il h
 mt x z a k h P g:=Ip (G:=G) h λc h1 h2=>g c h1 λn=>by have:=h2 n;induction c<;>exact this
 fl x z a v h n:=bE h λq h1 h=>cE h λhc h=>bE h λu h2 h=>cE h λhp h=>⟨_,_,HQ HP _ _ hc,B4 h1,h2.trans h,ack h▸Ia hp⟩
 pc d a xs y h z n Q q:=Im vp h q
 dt op x y z k h P g:=dE h (λhc h=>bE h λa h1 h=>g _ h λd n Q q=>sW (U2 (hB hc)) (eH h1) (fq (gH hc)) (Op.Pn rfl q)) λ_ h=>bE h λa h1 h=>
  dE h (λhc h=>g _ h λd n Q q=>sW (Ig (hB hc)) (dZ h1) (fq (gH hc)) (Op.Po rfl q)) λ_ h=>nV (G:=G) h λl xs put el A h=>bE h λv e h=>g _ h λd n Q q=>sW rfl (dZ h1) el (A.dt e q)
 gY op x y z k h P g:=bE h λa h1 h=>bE h λb h2 h=>by
  induction op with
  |Add=>exact cF h λhl h=>g _ h λd n Q q=>by rw[eH h1,eH h2];exact Op.cat hl q
  |_=>exact ag h
 item x y z k h P g:=oE h (λc hg h=>bE h λi h1 h=>bE h λy' h2 h=>g _ h λd n Q q=>lX rfl (dZ h1) (UX hg h2 q))
  λh=>dE h (λhc h=>bE h λa h1 h=>bE h λv h2 h=>g _ h λd n Q q=>lX (fq hc) (eH h1) ⟨⟨_,.map rfl,uu⟩,Op.uw rfl h2 q⟩) λ_ h=>
   bE h λi h1 h=>nV (G:=G) h λl xs put el A h=>bE h λv h2 h=>g _ h λd n Q q=>lX el (dZ h1) (A.item h2 q)
 last x z k h P g:=nV (G:=G) (show lp x z (λxs put=>(xs.getLast?).bind λv=>k (.int v))=some r from h) λl xs put el A h=>bE h λv h2 h=>g _ h λd n Q q=>lX el rfl (A.last h2 q)
 kq a x v z k h P g:=Vb h g
 lg x y v z k h P g:=bE h λi h1 h=>bE h λnn h2 h=>dE h (λe h=>bE h λs h3 h=>cF h λho h=>g _ h λd n Q q=>Ca (fq e) (dZ h1) (eH h3) (L.Qi h2 ho (q n))) λ_ h=>
  cE h λe h=>bE h λs h3 h=>cF h λho h=>g _ h λd n Q q=>Ca (fq e) (dZ h1) (dZ h3) (L.Qh h2 ho (q n))
 tr x z k h P g:=nV (G:=G) (show lp x z (λxs put=>if aC xs.length then k (!xs.isEmpty)else none)=some r from h) λl xs put el A h=>cF h λho h=>g _ h λd n Q q=>by exact el▸A.UW ho q
 call d c xs z k h Q q n:=BS H8 vr h Q q n
 tail d c xs z h Q q n:=HY H8 vr h Q q n
 ev d f m e z k h:=ag h
 st d f m s z k h Q q n:=Vc h Q q n
end
theorem rF{A B:α}(h:c=false):(if c=true then A else B)=B:=by rw[h];rfl
theorem rT{A B:α}(h:c=true):(if c=true then A else B)=A:=by rw[h];rfl
theorem sY{α β:Type}{o:Option α}{f g:α->Option β}(h:∀x,f x=g x):o.bind f=o.bind g:=afE o.bind (funext h)
def yn{Z:Type}(fl:Fl)(_:Lo)(z:Z):Option (Int×Z):=(fm fl.val).bind λc=>some (c,z)
def Iq{Z:Type}(fl:Fl)(_:Lo)(z:Z):Option (Str×Z):=(dY fl.val).bind λc=>some (c,z)
noncomputable def bU:List (Addr×Nat×(List U->Option U)):=[]
theorem cK:∀e,e∈bU->lZ e.1 e.2:=cH
noncomputable def ij (ρ:Type)(c:Tl B ρ):List (Addr×cA B ρ):=[]
section
variable{G:AH}
theorem i5{kp:Bool}:∀e,e∈ij ρ c->cU (DB ρ c G o kp pc tb) r e.1 e.2:=cH
abbrev Vd:bg:=bh (H.sub 22 1) "OpenStack.push" 166 165 [S "self",S "node"] []
theorem Ve:au 166 Vd:=au.o2
abbrev Cb:Lf B (Int×Unit):=cB λa b=>qp b a.1
abbrev Vf:bg:=bh (H.sub 83 1) "Builder.error" 843 842 [S "self",S "word"] []
theorem Vg:au 843 Vf:=au.o2
abbrev yo:Lf B (Str×Unit):=cB λa b=>fz b a.1
abbrev Vh:bg:=bh (H.sub 83 2) "Builder.to" 850 849 [S "self",S "mode"] []
theorem Vi:au 850 Vh:=au.o2
abbrev vt:Lf B (Str×Unit):=cB λa b=>some (b.to a.1)
abbrev Vj:bg:=bh (H.sub 77 2) "Formatting.mark" 634 633 [S "self"] []
theorem Vk:au 634 Vj:=au.o1
abbrev Ir:Lf B Unit:=cB λ_ b=>uG b
theorem Iu:bw (λb n=>hp b G n) 1 166 (λa=>bc 2::Ps.enc (dm ar) a) Cb:=runN (D:=DB B bb G 0 false bU (ij B bb)) (d:=0) (λ_=>bo cK i5) (Ve)
theorem Cc:bw (λb n=>hp b G n) 1 843 (λa=>bc 1::Ps.enc (bN ar) a) yo:=runN (D:=DB B bb G 0 false bU (ij B bb)) (d:=0) (λ_=>bo cK i5) (Vg)
theorem yq:bw (λb n=>hp b G n) 1 850 (λa=>bc 1::Ps.enc (bN ar) a) vt:=runN (D:=DB B bb G 0 false bU (ij B bb)) (d:=0) (λ_=>bo cK i5) (Vi)
theorem Vl:bw (λb n=>hp b G n) 1 634 (λa=>bc 3::Ps.enc ar a) Ir:=runN (D:=DB B bb G 0 false bU (ij B bb)) (d:=0) (λ_=>bo cK i5) (Vk)
abbrev Vm:bg:=bh (H.sub 22 2) "OpenStack.pop" 173 172 [S "self"] []
theorem Vn:au 173 Vm:=au.o1
abbrev vx:Lf B Unit:=kz λ_ b=>gE b
theorem yr:bw (λb n=>hp b G n) 1 173 (λa=>bc 2::Ps.enc ar a) vx:=λa b r h Q q n=>run (D:=DB (Int×B) ay G 0 false bU (ij (Int×B) ay)) (d:=0) (z:=b) (tf:=false) (ht:=λe=>nomatch e) (r:=(r.1,r.2)) (fin:=yn) (bo cK i5) Vn (h:=Eq.trans (b:=if aC b.stack.length then(if((b.stack.length:Int)==0) then some (-1,b)else(gb b.stack).bind λr=>some (r.1,{b with stack:=r.2}))else none) (by kernel_rfl) (by
 refine ao (AW h) λys h1 h2=>?_;rw[if_pos (uO h1).1,(uO h1).2,h1,h2];rfl)) (q:=λfl m z n e=>bE e λc e1 e2=>by
 cases e2;rw[dZ e1];exact q n) (n:=n) (hl:=by kernel_rfl)
abbrev Vo:bg:=bh (H.sub 22 3) "OpenStack.current" 180 179 [S "self"] []
theorem Vp:au 180 Vo:=au.o1
abbrev yt:Lf B Unit:=fs .int λ_ b=>jR b
theorem Cd:bw (λb n=>hp b G n) 1 180 (λa=>bc 2::Ps.enc ar a) yt:=λa b r h Q q n=>run (D:=DB (Int×B) ay G 0 false bU (ij (Int×B) ay)) (d:=0) (z:=b) (tf:=false) (ht:=λe=>nomatch e) (r:=(r,b)) (fin:=yn) (bo cK i5) Vp (h:=Eq.trans (b:=if aC b.stack.length then(if((b.stack.length:Int)==0) then some (-1,b)else if aC b.stack.length then(cy b.stack ((b.stack.length:Int)-1)).bind λv=>some (v,b)else none)else none) (by kernel_rfl) (by
 refine aU (iC (show jR b=some r from h)) λok h1=>?_;refine aU (Rv h1 ok) λh2 h3=>?_;rw[if_pos ok,h3,if_pos ok,h2];rfl)) (q:=λfl m z n e=>bE e λc e1 e2=>by
 cases e2;rw[dZ e1];exact q n) (n:=n) (hl:=by kernel_rfl)
abbrev Vq:bg:=bh (H.sub 22 4) "OpenStack.many" 187 186 [S "self"] []
theorem Vr:au 187 Vq:=au.o1
abbrev yu:Lf B Unit:=fs .int λ_ b=>if aC b.stack.length then some (b.stack.length:Int)else none
theorem Ce:bw (λb n=>hp b G n) 1 187 (λa=>bc 2::Ps.enc ar a) yu:=λa b r h Q q n=>run (D:=DB (Int×B) ay G 0 false bU (ij (Int×B) ay)) (d:=0) (z:=b) (tf:=false) (ht:=λe=>nomatch e) (r:=(r,b)) (fin:=yn) (bo cK i5) Vr (h:=Eq.trans (b:=if aC b.stack.length then some ((b.stack.length:Int),b)else none) (by kernel_rfl) (by
 refine aU (iC h) λok h1=>?_;rw[if_pos ok,ack h1])) (q:=λfl m z n e=>bE e λc e1 e2=>by
 cases e2;rw[dZ e1];exact q n) (n:=n) (hl:=by kernel_rfl)
def Iv(ρ:Type)(c:Tl B ρ):List (Addr×cA B ρ):=(180,aZ c 1 1 ar yt)::[]
theorem Vs{kp:Bool}:∀e,e∈Iv ρ c->cU (DB ρ c G o kp pc tb) r e.1 e.2:=aG (bx Cd rfl) (cH)
abbrev Vt:bg:=bh (H.sub 22 9) "OpenStack.name" 222 221 [S "self"] []
theorem Vu:au 222 Vt:=au.o1
abbrev yw:Lf B Unit:=fs .str λ_ b=>iD b
theorem Cf:bw (λb n=>hp b G n) 2 222 (λa=>bc 2::Ps.enc ar a) yw:=λa b r h Q q n=>run (D:=DB (Str×B) ay G 0 false bU (Iv (Str×B) ay)) (d:=1) (z:=b) (tf:=false) (ht:=λe=>nomatch e) (r:=(r,b)) (fin:=Iq) (bo cK Vs) Vu (h:=Eq.trans (b:=(jR b).bind λk=>if k==-1 then some (S "",b)else(nd b k).bind λx=>if x.d7 !=S "html" then some (S "",b)else(nd b k).bind λx=>some (x.name,b)) (by kernel_rfl) (by
 refine bE h λk h1 h2=>?_;refine bE h2 λx h3 h4=>?_;rw[h1,<-ack h4];refine(rF (AS (kS h3))).trans ?_;rw[kS h3];exact rF (AU h3))) (q:=λfl m z n e=>bE e λc e1 e2=>by
 cases e2;rw[eH e1];exact q n) (n:=n) (hl:=by kernel_rfl)
abbrev Vv:bg:=bh (H.sub 80 13) "Tree.is_html" 807 806 [S "self",S "node",S "name"] []
theorem Vx:au 807 Vv:=au.o3
abbrev Iw:Lf B (Int×Str×Unit):=fs .bool λa b=>(el b a.1).bind λx=>some (x.name==a.2.1)
theorem Vy:bw (λb n=>hp b G n) 1 807 (λa=>bc 4::Ps.enc (dm (bN ar)) a) Iw:=λa b r h Q q n=>run (D:=DB (Bool×B) ay G 0 false bU (ij (Bool×B) ay)) (d:=0) (z:=b) (tf:=false) (ht:=λe=>nomatch e) (r:=(r,b)) (fin:=lW) (bo cK i5) Vx (h:=Eq.trans (b:=if a.1 !=-1 then(nd b a.1).bind λx=>if x.d7==S "html" then(nd b a.1).bind λx=>some (x.name==a.2.1,b)else some (x.d7==S "html",b)else some (a.1 !=-1,b)) (by kernel_rfl) (by
 refine bE h λx h3 h4=>?_;rw[F1 (kS h3),kS h3,<-ack h4];show(if x.d7==S "html" then _ else _)=_;rw[uP h3];rfl)) (q:=λfl m z n e=>bE e λc e1 e2=>by
 cases e2;rw[iK e1];exact q n) (n:=n) (hl:=by kernel_rfl)
end
inductive It(Z:Type)
 |go (fl:Fl)(m:Lo)(z:Z)
 |out (z:Z)
def b8(a b:Lo):Prop:=∀x v,a.lookup x=some v->b.lookup x=some v
section
variable{Z:Type}{d:Nat}{f:aV}{m mc:Lo}{H:AH}
theorem St.sub(X:St ρ H L m h)(l:b8 mc m):St ρ H L mc h:=⟨X.b5,ao X.fr λm' F M=>⟨m',F,λx v e=>M x v (l x v e)⟩,X.free,X.cells⟩
theorem Ts.sub(l:b8 mc m)(h:eS d f mc H e Q):eS d f m H e Q:=λA ρ L s Qc E ah X p=>h A ρ L s Qc E ah (X.sub l) p
theorem Ex.sub(l:b8 mc m)(h:bR d f mc H ss Q):bR d f m H ss Q:=λA ρ L s Qc E ah X p=>h A ρ L s Qc E ah (X.sub l) p
variable{D:Dm Z (It Z)}
def j0(D:Dm Z (It Z))(d:Nat)(f:aV)(m:Lo)(mj:Expr)(body:List Stmt)(z:Z):Option (It Z):=
 (ms D 50).T d f m mj z λc z=>if c then(ms D 50).L d f m body z false λfl m z=>some (.go fl m z)else some (.out z)
def TurnOk(hz:Z->Nat->AH)(I:Nat->Lo->Z->Prop)(Q:Fl->Lo->AH->Prop)(n:Nat)(m:Lo):It Z->Prop
 |.go .next m' z'=>∃k,k<n/\I k m' z'
 |.go .cont m' z'=>∃k,k<n/\I k m' z'
 |.go .brk m' z'=>∀n',Q .next m' (hz z' n')
 |.go (.ret v) m' z'=>∀n',Q (.ret v) m' (hz z' n')
 |.out z'=>∀n',Q .next m (hz z' n')
theorem Ex.wh(O:∀r,iL D r){mj:Expr}{body:List Stmt}{pos:Pos}{Q:Fl->Lo->AH->Prop}(I:Nat->Lo->Z->Prop)
  (turn:∀n m z,I n m z->∃mc r,b8 mc m/\j0 D d f mc mj body z=some r/\TurnOk D.hz I Q n m r)(n0:Nat){z0:Z}(h:I n0 m z0)(n:Nat):dD (D.o+d) f m (D.hz z0 n) (.While mj body [] pos) Q:=by
 refine Ex.while (λk m' H'=>∃z' n',H'=D.hz z' n'/\I k m' z') (λk m' H' i=>?_) n0 ⟨z0,n,rfl,h⟩;refine cps λG k=>?_;obtain⟨z',n',rfl,i⟩:=i;obtain⟨mc,r,l,e,t⟩:=turn _ _ _ i;have M:=lj (O r) 50;refine k ?_;refine Ts.sub l (M.T _ _ _ _ _ _ e _ (λc z1 n1 h=>?_) n');refine iE h (λhc h=>?_) λhc h=>?_
 ·subst hc;refine Ex.sub l (M.L _ _ _ _ _ _ _ h (λe=>nomatch e) _ (λfl m2 z2 n2 h=>?_) n1);have h:=ack h;subst h;induction fl with
  |next=>exact ao t λk a b=>⟨k,a,z2,n2,rfl,b⟩
  |cont=>exact ao t λk a b=>⟨k,a,z2,n2,rfl,b⟩
  |brk=>exact t n2
  |ret v=>exact t n2
 ·subst hc;have h:=ack h;subst h;exact Ex.nil (t n1)
theorem Ex.step{D:Dm Z (Lo×Z)}(O:∀r,iL D r){s:Stmt}{ss:List Stmt}{z z1:Z}{m1:Lo}{Q:Fl->Lo->AH->Prop}
  (h:(ms D 50).S d f m s z false (λfl m z=>match fl with|.next=>some (m,z)|_=>none)=some (m1,z1))(k:∀n',bR (D.o+d) f m1 (D.hz z1 n') ss Q)(n:Nat):bR (D.o+d) f m (D.hz z n) (s::ss) Q:=
 Ex.cons ((lj (O _) 50).S _ _ _ _ _ _ _ h (λe=>nomatch e) _ (λfl m' z' n' e=>by
  induction fl with
  |next=>have e:=ack e;cases e;exact k n'
  |_=>exact ag e) n)
theorem Ex.rest{D:Dm Z (Fl×Z)}(O:∀r,iL D r){ss:List Stmt}{z z1:Z}{sZ:Fl}{Q:Fl->Lo->AH->Prop}
  (h:(ms D 50).L d f m ss z false (λfl m z=>some (fl,z))=some (sZ,z1))(k:∀m' n',Q sZ m' (D.hz z1 n'))(n:Nat):bR (D.o+d) f m (D.hz z n) ss Q:=
 (lj (O _) 50).L _ _ _ _ _ _ _ h (λe=>nomatch e) _ (λfl m' z' n' e=>by
  have e:=ack e;cases e;exact k m' n') n
end
noncomputable def j3:Stmt->Expr
 |.While t _ _ _=>t
 |_=>.Tuple [] 0 default
noncomputable def eI:Stmt->List Stmt
 |.While _ b _ _=>b
 |.For _ _ b _ _=>b
 |_=>[]
noncomputable def Vz:Stmt->Pos
 |.While _ _ _ p=>p
 |_=>default
noncomputable def aB (l:List Stmt)(i:Nat):Stmt:=l.getD i (.Pass default)
abbrev qU(s:Stmt):Stmt:=.While (j3 s) (eI s) [] (Vz s)
noncomputable def qV:List Str->Bool
 |[_]|[_,_]|[_,_,_]|[_,_,_,_,_]=>true
 |_=>false
theorem Cg(h:qV l=true):(∃x,l=[x])\/(∃x y,l=[x,y])\/(∃x y z,l=[x,y,z])\/∃x y z u v,l=[x,y,z,u,v]:=by
 match l,h with
 |[x],_=>exact .inl ⟨x,rfl⟩
 |[x,y],_=>exact .inr (.inl ⟨x,y,rfl⟩)
 |[x,y,z],_=>exact .inr (.inr (.inl ⟨x,y,z,rfl⟩))
 |[x,y,z,u,v],_=>exact .inr (.inr (.inr ⟨x,y,z,u,v,rfl⟩))
theorem b8.refl(m:Lo):b8 m m:=λ_ _ e=>e
theorem b8.both(h:b8 a m):b8 ((x,v)::a) ((x,v)::m):=λy u e=>by
 rw[afP]at e ⊢;cases q:y==x with
 |true=>rw[q]at e;exact e
 |false=>rw[q]at e;exact h y u e
theorem b8.cons(h:b8 a m)(hx:a.lookup x=none):b8 a ((x,v)::m):=λy u e=>by
 rw[afP];cases q:y==x with
 |true=>rw[afI.mp q,hx]at e;exact ag e
 |false=>exact h y u e
theorem b8.Iy:b8 ((x,v)::m) ((x,v)::(x,v')::m):=λy u e=>by
 rw[afP]at e ⊢;cases q:y==x with
 |true=>rw[q]at e;exact e
 |false=>rw[q]at e;rw[afP,q];exact e
theorem b8.of(h:∀p,p∈a->m.lookup p.1=some p.2):b8 a m:=λx v e=>by
 induction a with
 |nil=>exact ag e
 |cons p r ih=>
  rw[afP]at e;cases q:x==p.1 with
  |true=>
   rw[q]at e;rw[afI.mp q,<-ack e];exact h p (.head _)
  |false=>rw[q]at e;exact ih (λp hp=>h p (.tail _ hp)) e
def ph(d:Nat)(f:aV)(m:Lo)(e:Expr):Option U:=(pv (DP Unit []) d f m 9).E e
theorem Iz:BF d f m X (pv (DP Unit []) d f m 9):=by have:=ya (d:=d) (f:=f) (m:=m) (qT (r:=()) cH) X 0 9;rw[show(DP Unit []).o+d=d from Nat.zero_add d]at this;exact this
theorem aN(h:ph d f m e=some v)(q:Q v X):aW d f m X e Q:=Iz.E e v h Q q
theorem vy(h:(pv (DP Unit []) d f m 9).T e=some c)(q:Q c X):eS d f m X e Q:=Iz.T e c h Q q
theorem Ex.bG(e:s=s')(h:bR d f m H (s'::ss) Q):bR d f m H (s::ss) Q:=e▸h
theorem au.go(F:au a fi)(hl:Nat.beq (xs.length+fi.dx.length) fi.names.length=true)(hm:(fi.names.zip (xs++fi.dx)).reverse=m)(hb:fi.body=body)(h:bR d fi.cD m X body λfl _ H'=>∃br,AH.Le H' br/\Q fl.val br):ba (d+1) (.ref a) xs X Q:=by subst hm hb;exact F _ _ _ _ hl h
theorem aW.dy(h:aW d f m H e Q)(g:∀y H',Q y H'->Q' y H'):aW d f m H e Q':=λA ρ L s Qc E ah X p=>h A ρ L s Qc E ah X λx v aj H' s' q=>p x v aj H' s' (g _ _ q)
abbrev mL:bg:=bh (H.sub 22 11) "OpenStack.pop_until" 236 235 [S "self",S "names"] []
theorem VA:au 236 mL:=au.o2
abbrev nW:bg:=bh (H.sub 22 12) "OpenStack.pop_to" 243 242 [S "self",S "names"] []
theorem VB:au 243 nW:=au.o2
abbrev tc:bg:=bh (H.sub 77 3) "Formatting.clear_to_mark" 641 640 [S "self"] []
theorem VC:au 641 tc:=au.o1
abbrev IB:Lf B (List Str×Unit):=kz λa b=>cond (qV a.1) (ji a.1 b.stack.length b) none
abbrev IC:Lf B (List Str×Unit):=cB λa b=>cond (qV a.1) (jj a.1 b.stack.length b) none
abbrev ID:Lf B Unit:=cB λ_ b=>sd b
def tn(ρ:Type)(c:Tl B ρ):List (Addr×cA B ρ):=(222,aZ c 1 2 ar yw)::[]
section
variable{G:AH}
theorem IE:∀e,e∈tn ρ c->cU (DB ρ c G o kp pc tb) r e.1 e.2:=aG (bx Cf rfl) (cH)
end
abbrev jz(nm:List Str):Lo:=[(S "names",i3 nm),(S "self",.ae .stack)]
theorem VD(hn:qV nm=true)(b:B):j0 (DB (It B) ay G 0 false bU (tn (It B) ay)) 2 mL.cD (jz nm) (j3 (aB mL.body 0)) (eI (aB mL.body 0)) b=
  if aC b.stack.length then(if decide ((0:Int)<(b.stack.length:Int)) then(iD b).bind λs=>(gb b.stack).bind λr=>if aw nm s then some (.go (.ret (.int r.1)) ((S "node",.int r.1)::(S "name",.str s)::jz nm) {b with stack:=r.2})else some (.go .next ((S "node",.int r.1)::(S "name",.str s)::jz nm) {b with stack:=r.2})else some (.out b))else none:=by
 rcases Cg hn with⟨x,rfl⟩|⟨x,y,rfl⟩|⟨x,y,z,rfl⟩|⟨x,y,z,u,v,rfl⟩<;>kernel_rfl
theorem VE(hn:qV nm=true)(b:B):j0 (DB (It B) ay G 0 false bU (tn (It B) ay)) 2 nW.cD (jz nm) (j3 (aB nW.body 0)) (eI (aB nW.body 0)) b=
  if aC b.stack.length then(if decide ((1:Int)<(b.stack.length:Int)) then(iD b).bind λs=>if !aw nm s then(gb b.stack).bind λr=>some (.go .next (jz nm) {b with stack:=r.2})else some (.out b)else some (.out b))else none:=by
 rcases Cg hn with⟨x,rfl⟩|⟨x,y,rfl⟩|⟨x,y,z,rfl⟩|⟨x,y,z,u,v,rfl⟩<;>kernel_rfl
theorem VF(b:B):j0 (DB (It B) ay G 0 false bU (ij (It B) ay)) 0 tc.cD [(S "self",.ae .fF)] (j3 (aB tc.body 0)) (eI (aB tc.body 0)) b=
  if aC b.bJ.length then(if decide ((0:Int)<(b.bJ.length:Int)) then(gb b.bJ).bind λr=>if r.1==-1 then some (.go (.ret .none) [(S "self",.ae .fF)] {b with bJ:=r.2})else some (.go .next [(S "self",.ae .fF)] {b with bJ:=r.2})else some (.out b))else none:=by kernel_rfl
theorem VG(h:iD b=some s):aC b.stack.length=true:=by refine bE h λk h2 _=>?_;exact(iC h2).1
section
variable{G:AH}
theorem VH:bw (λb n=>hp b G n) 3 236 (λa=>bc 2::Ps.enc (ll ar) a) IB:=λa b r h Q q n=>cE h λhn h=>by
 refine VA 2 _ _ _ rfl (show bR 2 mL.cD (jz a.1) (hp b G n) [qU (aB mL.body 0),aB mL.body 1] _ from Ex.cons ?_);refine Ex.wh (D:=DB (It B) ay G 0 false bU (tn (It B) ay)) (d:=2) (λ_=>bo cK IE) (λk m z=>ji a.1 k z=some r/\b8 (jz a.1) m) (λk m z i=>?_) b.stack.length ⟨h,.refl _⟩ n;obtain⟨h,l⟩:=i;cases k with
 |zero=>exact ag h
 |succ k=>
  refine bE h λs h1 h=>bE h λr1 h2 h=>?_;obtain⟨ys,h3,e⟩:=AW h2;have run:∀{x},(if aw a.1 s then some (It.go (.ret (.int r1.1)) ((S "node",.int r1.1)::(S "name",.str s)::jz a.1) {z with stack:=ys})else some (.go .next ((S "node",.int r1.1)::(S "name",.str s)::jz a.1) {z with stack:=ys}))=some x->j0 (DB (It B) ay G 0 false bU (tn (It B) ay)) 2 mL.cD (jz a.1) (j3 (aB mL.body 0)) (eI (aB mL.body 0)) z=some x:=λ{x} hx=>by rw[VD hn];refine(rT (uO h3).1).trans ((rT (len_pos h3)).trans ?_);rw[h1];show(gb z.stack).bind _=_;exact h3▸hx
  refine iE h (λc h=>⟨_,_,l,run (rT c),?_⟩) λc h=>⟨_,_,l,run (rF c),k,agf k,e▸h,.cons (.cons (.refl _) rfl) rfl⟩;have h:=ack h;subst h;exact λn'=>⟨_,.refl _,e▸q n'⟩
theorem VI:bw (λb n=>hp b G n) 3 243 (λa=>bc 2::Ps.enc (ll ar) a) IC:=λa b r h Q q n=>cE h λhn h=>by
 refine VB 2 _ _ _ rfl (show bR 2 nW.cD (jz a.1) (hp b G n) [qU (aB nW.body 0)] _ from Ex.cons ?_);refine Ex.wh (D:=DB (It B) ay G 0 false bU (tn (It B) ay)) (d:=2) (λ_=>bo cK IE) (λk m z=>jj a.1 k z=some r/\b8 (jz a.1) m) (λk m z i=>?_) b.stack.length ⟨h,.refl _⟩ n;obtain⟨h,l⟩:=i;cases k with
 |zero=>exact ag h
 |succ k=>
  refine cF h λc0 h=>bE h λs h1 h=>?_;have run:∀{x},(if !aw a.1 s then(gb z.stack).bind λr=>some (It.go .next (jz a.1) {z with stack:=r.2})else some (.out z))=some x->j0 (DB (It B) ay G 0 false bU (tn (It B) ay)) 2 nW.cD (jz a.1) (j3 (aB nW.body 0)) (eI (aB nW.body 0)) z=some x:=λ{x} hx=>by rw[VE hn];refine(rT (VG h1)).trans ((rT c0).trans ?_);exact h1▸hx
  refine iE h (λc h=>bE h λr1 h2 h=>?_) λc h=>⟨_,_,l,run (rF c),?_⟩
  ·obtain⟨ys,h3,e⟩:=AW h2;exact⟨_,.go .next (jz a.1) {z with stack:=ys},l,run ((rT c).trans (by rw[h3];rfl)),k,agf k,e▸h,.refl _⟩
  ·have h:=ack h;subst h;exact λn'=>Ex.nil ⟨_,.refl _,q n'⟩
theorem VJ:bw (λb n=>hp b G n) 1 641 (λa=>bc 3::Ps.enc ar a) ID:=λa b r h Q q n=>by
 refine VC 0 _ _ _ rfl (show bR 0 tc.cD [(S "self",.ae .fF)] (hp b G n) [qU (aB tc.body 0)] _ from Ex.cons ?_);refine Ex.wh (D:=DB (It B) ay G 0 false bU (ij (It B) ay)) (d:=0) (λ_=>bo cK i5) (λk m z=>sd z=some r/\b8 [(S "self",.ae .fF)] m) (λk m z i=>?_) 0 ⟨h,.refl _⟩ n;obtain⟨h,l⟩:=i;refine bE h λr1 h1 h=>cF h λc h=>⟨_,.go (.ret .none) [(S "self",.ae .fF)] {z with bJ:=r1.2},l,?_,?_⟩
 ·rw[VF];refine(rT (uO h1).1).trans ((rT (len_pos h1)).trans ?_);rw[h1];exact rT c
 ·have h:=ack h;subst h;exact λn'=>⟨_,.refl _,q n'⟩
end
abbrev VK:bg:=bh (H.aD 10) "implied_names" 77 76 [] []
theorem VL:au 77 VK:=au.of rfl (λS=>xg rfl) (λ_ _ _ _=>.nil) rfl rfl
abbrev IF:Lf B Unit:=fs (λ_=>i3 jP) λ_ b=>some ()
section
variable{G:AH}
theorem VM:bw (λb n=>hp b G n) 1 77 (Ps.enc ar) IF:=i4 (D:=DB (U×B) ay G 0 false bU (ij (U×B) ay)) (d:=0) (λ_=>bo cK i5) VL (λa b r h=>Eq.trans (b:=some (i3 jP,b)) rfl (by
 rfl)) (λ_=>by kernel_rfl)
def vz(ρ:Type)(c:Tl B ρ):List (Addr×cA B ρ):=(222,aZ c 1 2 ar yw)::(173,aZ c 1 1 ar vx)::(77,mH c 1 ar IF)::[]
theorem IH:∀e,e∈vz ρ c->cU (DB ρ c G o kp pc tb) r e.1 e.2:=aG (bx Cf rfl) (aG (bx yr rfl) (aG (nT VM rfl) cH))
end
abbrev mM:bg:=bh (H.aD 25) "pop_implied" 273 272 [S "stack",S "but"] [.str (S "")]
theorem VN:au 273 mM:=au.of (dv:=[.str (Str.ofString "") 515]) rfl (λS=>all1 λx=>rfl) (λX h ρ R=>.cons (.str _ _) .nil) rfl rfl
abbrev II:Lf B Unit:=cB λ_ b=>uC b.stack.length b
abbrev IJ:Lo:=[(S "but",.str (S "")),(S "stack",.ae .stack)]
abbrev qW:Lo:=(S "names",i3 jP)::IJ
theorem VO(b:B):j0 (DB (It B) ay G 0 false bU (vz (It B) ay)) 2 mM.cD qW (j3 (aB mM.body 1)) (eI (aB mM.body 1)) b=
  (iD b).bind λs=>if aw jP s then(iD b).bind λs=>if s !=S "" then(gE b).bind λr=>some (.go .next qW r.2)else some (.out b)else some (.out b):=by kernel_rfl
section
variable{G:AH}
theorem VP:bw (λb n=>hp b G n) 3 273 (λa=>bc 2::Ps.enc ar a) II:=λa b r h Q q n=>by
 refine VN 2 _ _ _ rfl (show bR 2 mM.cD IJ (hp b G n) [aB mM.body 0,qU (aB mM.body 1)] _ from Ex.step (D:=DB (Lo×B) ay G 0 false bU (vz (Lo×B) ay)) (d:=2) (m1:=qW) (z1:=b) (λ_=>bo cK IH) rfl (λn=>Ex.cons ?_) n);refine Ex.wh (D:=DB (It B) ay G 0 false bU (vz (It B) ay)) (d:=2) (λ_=>bo cK IH) (λk m z=>uC k z=some r/\b8 qW m) (λk m z i=>?_) b.stack.length ⟨h,.refl _⟩ n;obtain⟨h,l⟩:=i;cases k with
 |zero=>exact ag h
 |succ k=>
  refine bE h λs h1 h=>?_;have run:∀{x},(if aw jP s then(if s !=S "" then(gE z).bind λr=>some (It.go .next qW r.2)else some (.out z))else some (.out z))=some x->j0 (DB (It B) ay G 0 false bU (vz (It B) ay)) 2 mM.cD qW (j3 (aB mM.body 1)) (eI (aB mM.body 1)) z=some x:=λ{x} hx=>by rw[VO,h1];exact hx
  refine iE h (λc h=>?_) λc h=>⟨_,_,l,run (rF c),?_⟩
  ·exact cF h λc2 h=>bE h λr1 h2 h=>⟨_,.go .next qW r1.2,l,run ((rT c).trans ((rT c2).trans (h2▸rfl))),k,agf k,h,.refl _⟩
  ·have h:=ack h;subst h;exact λn'=>Ex.nil ⟨_,.refl _,q n'⟩
end
noncomputable def IK:Kd->Option (Str×List Expr)
 |.ig x as=>some (x,as)
 |_=>none
theorem VQ(h:IK (vw e)=some q):f7 q.2=true/\∃p p',e=.Call (.Name q.1 p) q.2 [] p':=by
 have V:=jw e;generalize vw e=k at h V;induction k with
 |ig y as=>exact sE (X:=λq:Str×List Expr=>f7 q.2=true/\∃p p',e=.Call (.Name q.1 p) q.2 [] p') h V
 |_=>exact ag h
def Ci:Stmt->Option (Str×(Str×List Expr)×List Stmt)
 |.For t i b o _=>cond o.isEmpty ((lY (vw t)).bind λx=>(IK (vw i)).bind λq=>some (x,q,b)) none
 |_=>none
theorem VR(h:Ci s=some q):f7 q.2.1.2=true/\∃xp rp cp pos,s=.For (.Name q.1 xp) (.Call (.Name q.2.1.1 rp) q.2.1.2 [] cp) q.2.2 [] pos:=by
 induction s using Stmt.casesOn with
 |For t i b o p=>
  refine cE h λho h=>bE h λx h1 h=>bE h λr h2 h5=>?_;obtain⟨p1,rfl⟩:=mI h1;obtain⟨pl,p2,p3,rfl⟩:=VQ h2;induction o with
  |cons=>exact nomatch ho
  |nil=>exact sE (X:=λq:Str×(Str×List Expr)×List Stmt=>f7 q.2.1.2=true/\∃xp rp cp pos,Stmt.For (.Name x p1) (.Call (.Name r.1 p2) r.2 [] p3) b [] p=.For (.Name q.1 xp) (.Call (.Name q.2.1.1 rp) q.2.1.2 [] cp) q.2.2 [] pos) h5 ⟨pl,_,_,_,_,rfl⟩
 |_=>exact ag h
def VS(s:Stmt):List Expr:=cG (Ci s) (λq=>q.2.1.2) []
section
variable{Z:Type}{d:Nat}{f:aV}{m:Lo}
theorem Ex.VT{D:Dm Z (Fl×Lo×Z)}{D':Dm Z (List U×Z)}(O:∀r,iL D r)(O':∀r,iL D' r)(hd:D'.o=D.o/\D'.hz=D.hz){s:Stmt}{x:Str}{body:List Stmt}{as:List Expr}{Q:Fl->Lo->AH->Prop}
  (hs:Ci s=some (x,(S "range",as),body))(hx:(iJ f x&&sO f (S "range"))=true){a b c:Int}{k:Nat}(I:Nat->Lo->Z->Prop){z0:Z}{xs:List U}
  (ha:(ms D' 50).Es d f m as z0 (λxs z=>some (xs,z))=some (xs,z0))(hr:mu xs a b c k)(h0:I 0 m z0)
  (turn:∀i m z,I i m z->i<k->∃mc r,b8 mc ((x,.int (a+i*c))::m)/\(ms D 50).L d f mc body z false (λfl m z=>some (fl,m,z))=some r/\(match r.1 with
   |.next|.cont=>I (i+1) r.2.1 r.2.2
   |.brk=>∀n',Q .next r.2.1 (D.hz r.2.2 n')
   |.ret v=>∀n',Q (.ret v) r.2.1 (D.hz r.2.2 n')))
  (done:∀m z,I k m z->∀n',Q .next m (D.hz z n'))(n:Nat):dD (D.o+d) f m (D.hz z0 n) s Q:=by
 obtain⟨hp,xp,rp,cp,pos,e⟩:=VR hs;rw[e];rw[afz]at hx;refine Ex.Ah a b c k (λi m' H'=>∃z' n',H'=D.hz z' n'/\I i m' z') xi (c9 hx.1) (dF hx.2) ?_ (λi m' H' i1 hi=>?_) (λm' H' i1=>?_) hp
 ·rw[<-hd.1,<-hd.2];exact(lj (O' _) 50).Es _ _ _ _ _ _ ha _ (λys z' n' e=>by
   have e:=ack e;cases e;exact⟨hr,_,_,rfl,h0⟩) n
 ·obtain⟨z',n',rfl,i1⟩:=i1;refine cps λG k=>?_;obtain⟨mc,r,l,e,t⟩:=turn _ _ _ i1 hi;refine k ?_;refine Ex.sub l ((lj (O _) 50).L _ _ _ _ _ _ _ e (λe=>nomatch e) _ (λfl m2 z2 n2 h=>?_) n');have h:=ack h;subst h;induction fl with
  |next=>exact⟨_,_,rfl,t⟩
  |cont=>exact⟨_,_,rfl,t⟩
  |brk=>exact t n2
  |ret v=>exact t n2
 ·obtain⟨z',n',rfl,i1⟩:=i1;exact Ex.nil (done _ _ i1 n')
end
abbrev VU:bg:=bh (H.aD 23) "stops_scope" 257 256 [S "tree",S "node",S "sort"] []
theorem VV:au 257 VU:=au.o3
abbrev IL:Lf B (Int×Str×Unit):=fs .bool λa b=>cond (a.2.1==S "table") ((el b a.1).bind λx=>some (aw [S "html",S "table",S "template"] x.name)) none
section
variable{G:AH}
theorem VW:bw (λb n=>hp b G n) 1 257 (λa=>bc 4::Ps.enc (dm (bN ar)) a) IL:=λa b r h Q q n=>cE h λhc h=>by
 obtain⟨k,x,u⟩:=a;replace hc:x=S "table":=afI.mp hc;subst hc;exact i4 (D:=DB (U×B) ay G 0 false bU (ij (U×B) ay)) (α:=Int) (args:=λa=>[bc 4,.int a,.str (S "table")]) (F:=fs .bool λa b=>(el b a).bind λx=>some (aw [S "html",S "table",S "template"] x.name)) (d:=0) (λ_=>bo cK i5) VV (λa b r h=>Eq.trans (b:=(nd b a).bind λx=>(nd b a).bind λy=>some (.bool (x.d7==S "html"&&aw [S "html",S "table",S "template"] y.name),b)) (by kernel_rfl) (by
  refine bE h λx h1 h2=>?_;rw[kS h1,<-ack h2];show some (U.bool (x.d7==S "html"&&_),b)=_;rw[uP h1];rfl)) (λ_=>by kernel_rfl) k b r h Q q n
def qX(ρ:Type)(c:Tl B ρ):List (Addr×cA B ρ):=(187,aZ c 1 1 ar yu)::(257,aZ c 3 1 (dm (bN ar)) IL)::[]
theorem yx:∀e,e∈qX ρ c->cU (DB ρ c G o kp pc tb) r e.1 e.2:=aG (bx Ce rfl) (aG (bx VW rfl) cH)
end
abbrev l5:bg:=bh (H.aD 24) "in_scope" 265 264 [S "stack",S "names",S "sort"] []
theorem VX:au 265 l5:=au.of (dv:=[]) rfl (λS=>sj λx y z=>rfl) (λX h ρ R=>.nil) rfl rfl
abbrev IM:Lf B (List Str×Str×Unit):=fs .bool λa b=>cond (a.2.1==S "table"&&qV a.1) (oS b a.1) none
abbrev yy(nm:List Str):Lo:=[(S "sort",.str (S "table")),(S "names",i3 nm),(S "stack",.ae .stack)]
abbrev lq(nm:List Str)(i:Int):Lo:=(S "at",.int i)::(S "tree",.ae .tree)::yy nm
theorem VY(hn:qV nm=true)(b:B)(i:Int):(ms (DB (Fl×Lo×B) ay G 0 false bU (qX (Fl×Lo×B) ay)) 50).L 1 l5.cD (lq nm i) (eI (aB l5.body 1)) b false (λfl m z=>some (fl,m,z))=
  (cy b.stack i).bind λk=>(nd b k).bind λx=>if x.d7==S "html" then(nd b k).bind λx=>if aw nm x.name then some (.ret (.bool true),(S "node",.int k)::lq nm i,b)else((el b k).bind λx=>some (aw [S "html",S "table",S "template"] x.name)).bind λc=>if c=true then some (.ret (.bool false),(S "node",.int k)::lq nm i,b)else some (.next,(S "node",.int k)::lq nm i,b)
   else((el b k).bind λx=>some (aw [S "html",S "table",S "template"] x.name)).bind λc=>if c=true then some (.ret (.bool false),(S "node",.int k)::lq nm i,b)else some (.next,(S "node",.int k)::lq nm i,b):=by
 rcases Cg hn with⟨x,rfl⟩|⟨x,y,rfl⟩|⟨x,y,z,rfl⟩|⟨x,y,z,u,v,rfl⟩<;>kernel_rfl
section
variable{G:AH}
theorem VZ:bw (λb n=>hp b G n) 2 265 (λa=>bc 2::Ps.enc (ll (bN ar)) a) IM:=λa b r h Q q n=>cE h λhc h=>by
 obtain⟨nm,V0,u⟩:=a;rw[afz]at hc;obtain⟨hc,hn⟩:=hc;replace hc:V0=S "table":=afI.mp hc;subst hc;obtain⟨ok,h⟩:=iC (show oS b nm=some r from h);refine VX 1 _ _ _ rfl (show bR 1 l5.cD (yy nm) (hp b G n) [aB l5.body 0,aB l5.body 1,aB l5.body 2] _ from Ex.step (D:=DB (Lo×B) ay G 0 false bU (qX (Lo×B) ay)) (d:=1) (m1:=(S "tree",.ae .tree)::yy nm) (z1:=b) (λ_=>bo cK yx) rfl (λn=>Ex.cons ?_) n);refine Ex.VT (D:=DB (Fl×Lo×B) ay G 0 false bU (qX (Fl×Lo×B) ay)) (D':=DB (List U×B) ay G 0 false bU (qX (List U×B) ay)) (d:=1) (x:=S "at") (as:=VS (aB l5.body 1)) (body:=eI (aB l5.body 1)) (λ_=>bo cK yx) (λ_=>bo cK yx) ⟨rfl,rfl⟩ rfl rfl
  (λi m z=>z=b/\nB b nm (b.stack.reverse.drop i)=some r/\b8 ((S "tree",.ae .tree)::yy nm) m)
  (Eq.trans (b:=(if aC b.stack.length then some (b.stack.length:Int)else none).bind λc=>some ([.int (c-1),.int (-1),.int (-1)],b)) rfl (by rw[if_pos ok];rfl)) (Rx ok) ⟨rfl,h,.refl _⟩ (λi m z I hi=>?_) (λm z I n'=>?_) n
 ·obtain⟨rfl,h,l⟩:=I;obtain⟨k,e1,e2⟩:=uQ hi ok;replace h:=e1▸h;refine bE h λx h1 h=>?_;have run:∀{y},(if aw nm x.name then some (Fl.ret (.bool true),(S "node",U.int k)::lq nm ((z.stack.length:Int)-1+i*(-1)),z)else if aw [S "html",S "table",S "template"] x.name then some (.ret (.bool false),(S "node",.int k)::lq nm ((z.stack.length:Int)-1+i*(-1)),z)else some (.next,(S "node",.int k)::lq nm ((z.stack.length:Int)-1+i*(-1)),z))=some y->
    (ms (DB (Fl×Lo×B) ay G 0 false bU (qX (Fl×Lo×B) ay)) 50).L 1 l5.cD (lq nm ((z.stack.length:Int)-1+i*(-1))) (eI (aB l5.body 1)) z false (λfl m z=>some (fl,m,z))=some y:=λ{y} hy=>by
   rw[VY hn,e2];show(nd z k).bind _=_;rw[kS h1];refine(rT (uP h1)).trans ?_;show(if aw nm x.name then _ else((el z k).bind _).bind _)=_;exact h1▸hy
  have l':b8 (lq nm ((z.stack.length:Int)-1+i*(-1))) ((S "at",.int ((z.stack.length:Int)-1+i*(-1)))::m):=l.both;refine iE h (λc h=>⟨_,_,l',run (rT c),?_⟩) λc h=>iE h (λc2 h=>⟨_,_,l',run ((rF c).trans (rT c2)),?_⟩) λc2 h=>⟨_,(.next,(S "node",.int k)::lq nm ((z.stack.length:Int)-1+i*(-1)),z),l',run ((rF c).trans (rF c2)),rfl,h,.cons (.cons (.refl _) rfl) rfl⟩
  ·have h:=ack h;subst h;exact λn'=>⟨_,.refl _,q n'⟩
  ·have h:=ack h;subst h;exact λn'=>⟨_,.refl _,q n'⟩
 ·obtain⟨rfl,h,l⟩:=I;replace h:=Rw▸h;have h:=ack h;subst h;exact Ex.rest (D:=DB (Fl×B) ay G 0 false bU (qX (Fl×B) ay)) (d:=1) (m:=m) (z1:=z) (sZ:=.ret (.bool false)) (λ_=>bo cK yx) rfl (λm' n'=>⟨_,.refl _,q n'⟩) n'
end
def nX(ρ:Type)(c:Tl B ρ):List (Addr×cA B ρ):=(807,aZ c 3 1 (dm (bN ar)) Iw)::[]
section
variable{G:AH}
theorem vA:∀e,e∈nX ρ c->cU (DB ρ c G o kp pc tb) r e.1 e.2:=aG (bx Vy rfl) (cH)
end
abbrev fV:bg:=bh (H.aD 12) "foster_place" 84 83 [S "builder"] []
theorem V2:au 84 fV:=au.o1
abbrev IP:Lf B Unit:=fs (λpl:Int×Int=>.aJ [.int pl.1,.int pl.2]) λ_ b=>oV b
abbrev qY(b:B)(k:Int)(s:String):Option Bool:=(el b k).bind λx=>some (x.name==S s)
abbrev nY(i:Int):Lo:=[(S "at",.int i),(S "items",.ae .items),(S "tree",.ae .tree),(S "builder",.ae .bP)]
theorem V3(b:B)(i:Int):j0 (DB (It B) ay G 0 false bU (nX (It B) ay)) 1 fV.cD (nY i) (j3 (aB fV.body 3)) (eI (aB fV.body 3)) b=
  if decide ((0:Int)<i) then(cy b.stack i).bind λk=>(qY b k "table").bind λc=>if !c then(cy b.stack i).bind λk=>(qY b k "template").bind λc=>if !c then some (.go .next ((S "at",.int (i-1))::nY i) b)else some (.out b)else some (.out b)else some (.out b):=by kernel_rfl
theorem V4(b:B)(i:Int):(ms (DB (Fl×B) ay G 0 false bU (nX (Fl×B) ay)) 50).L 1 fV.cD (nY i) [aB fV.body 4,aB fV.body 5,aB fV.body 6,aB fV.body 7,aB fV.body 8] b false (λfl m z=>some (fl,z))=
  (cy b.stack i).bind λk=>(qY b k "table").bind λc=>if !c then some (.ret (.aJ [.int k,.int (-1)]),b)else(nd b k).bind λx=>if x.bB !=-1 then(nd b k).bind λx=>some (.ret (.aJ [.int x.bB,.int k]),b)else if decide ((0:Int)<i) then(cy b.stack (i-1)).bind λk=>some (.ret (.aJ [.int k,.int (-1)]),b)else some (.ret (.aJ [.int k,.int (-1)]),b):=by kernel_rfl
section
variable{G:AH}
theorem V5:bw (λb n=>hp b G n) 2 84 (λa=>bc 1::Ps.enc ar a) IP:=λa b r h Q q n=>by
 refine aU (iC (show oV b=some r from h)) λok h=>?_;have gn:0<b.stack.length:=by
  cases e:b.stack with
  |nil=>exact ag (e▸h)
  |cons a l=>exact ahk _
 refine V2 1 _ _ _ rfl (show bR 1 fV.cD [(S "builder",.ae .bP)] (hp b G n) [aB fV.body 0,aB fV.body 1,aB fV.body 2,qU (aB fV.body 3),aB fV.body 4,aB fV.body 5,aB fV.body 6,aB fV.body 7,aB fV.body 8] _ from
  Ex.step (D:=DB (Lo×B) ay G 0 false bU (nX (Lo×B) ay)) (d:=1) (m1:=[(S "tree",.ae .tree),(S "builder",.ae .bP)]) (z1:=b) (λ_=>bo cK vA) rfl (λn=>
  Ex.step (D:=DB (Lo×B) ay G 0 false bU (nX (Lo×B) ay)) (d:=1) (m1:=[(S "items",.ae .items),(S "tree",.ae .tree),(S "builder",.ae .bP)]) (z1:=b) (λ_=>bo cK vA) rfl (λn=>
  Ex.step (D:=DB (Lo×B) ay G 0 false bU (nX (Lo×B) ay)) (d:=1) (m1:=nY ((b.stack.length:Int)-1)) (z1:=b) (λ_=>bo cK vA) (Eq.trans (b:=if aC b.stack.length then some (nY ((b.stack.length:Int)-1),b)else none) (by kernel_rfl) (rT ok)) (λn=>Ex.cons ?_) n) n) n)
 refine Ex.wh (D:=DB (It B) ay G 0 false bU (nX (It B) ay)) (d:=1) (λ_=>bo cK vA) (λj m z=>z=b/\∃i:Nat,j=b.stack.length-i/\i<b.stack.length/\uE b (b.stack.reverse.drop i)=some r/\b8 (nY ((b.stack.length:Int)-1+i*(-1))) m) (λj m z I=>?_) b.stack.length ⟨rfl,0,rfl,gn,h,by rw[show(b.stack.length:Int)-1+((0:Nat):Int)*(-1)=(b.stack.length:Int)-1 by omega];exact .refl _⟩ n;obtain⟨rfl,i,rfl,hi,h,l⟩:=I;refine ao (uQ hi ok) λk e1 e2=>?_;replace h:=e1▸h;by_cases mE:i+1<z.stack.length
 ·refine ao (uQ mE ok) λk2 e3 _=>?_;have h0:=h;replace h:=e3▸h;refine bE h λx h1 h=>?_;have hh:∀s,qY z k s=some (x.name==S s):=λs=>by show(el z k).bind _=_;rw[h1];rfl
  have run:∀{y},(if !(x.name==S "table") then(if !(x.name==S "template") then some (It.go .next ((S "at",.int ((z.stack.length:Int)-1+i*(-1)-1))::nY ((z.stack.length:Int)-1+i*(-1))) z)else some (.out z))else some (.out z))=some y->
    j0 (DB (It B) ay G 0 false bU (nX (It B) ay)) 1 fV.cD (nY ((z.stack.length:Int)-1+i*(-1))) (j3 (aB fV.body 3)) (eI (aB fV.body 3)) z=some y:=λ{y} hy=>by
   rw[V3];refine(rT (aga (by lia))).trans ?_;rw[e2];show(qY z k "table").bind _=_;rw[hh];show(if !(x.name==S "table") then(qY z k "template").bind _ else _)=_;rw[hh];exact hy
  refine iE h (λc h=>cF h λc2 h=>⟨_,.out z,l,run (rF (afE _ c)),λn'=>?_⟩) λc h=>?_
  ·have h:=ack h;subst h;exact Ex.sub l (Ex.rest (D:=DB (Fl×B) ay G 0 false bU (nX (Fl×B) ay)) (d:=1) (z1:=z) (sZ:=.ret (.aJ [.int x.bB,.int k])) (λ_=>bo cK vA) (by
    rw[V4,e2];show(qY z k "table").bind _=_;rw[hh];refine(rF (afE _ c)).trans ?_;rw[kS h1];exact rT c2) (λm' n'=>⟨_,.refl _,q n'⟩) n')
  ·split at h
   ·exact ag h
   rename_i c2;have c2:(x.name==S "template")=false:=Bool.eq_false_iff.mpr c2;refine⟨_,.go .next ((S "at",.int ((z.stack.length:Int)-1+i*(-1)-1))::nY ((z.stack.length:Int)-1+i*(-1))) z,l,run ((rT (afE _ c)).trans (rT (afE _ c2))),z.stack.length-(i+1),by exact(agU hi (agf _)),rfl,i+1,rfl,mE,by rw[e3];exact h,?_⟩;rw[show(z.stack.length:Int)-1+((i+1:Nat):Int)*(-1)=(z.stack.length:Int)-1+i*(-1)-1 by omega];exact b8.Iy
 ·rw[ahh (by rw[List.length_reverse];exact agh mE)]at h;exact ag h
abbrev IQ:Lf B (Str×Unit):=fs .str λa b=>some (kg a.1)
theorem b8.nil:b8 [] m:=λ_ _ e=>ag e
theorem b8.add(h:m.lookup x=some v)(t:b8 a m):b8 ((x,v)::a) m:=λy u e=>by
 rw[afP]at e;cases q:y==x with
 |true=>rw[q]at e;rw[afI.mp q,h];exact e
 |false=>rw[q]at e;exact t y u e
theorem V6:bw (λb n=>hp b G n) 1 280 (Ps.enc (bN ar)) IQ:=λa b r h Q q n=>by
 obtain⟨x,u⟩:=a;have h:=ack h;subst h;show ba 1 (.ref 280) [.str x] (hp b G n) Q;refine Call.fn (dx:=[]) (dv:=[]) (names:=[S "name"]) (body:=?b) (scope:=?s) [(S "name",.str x)] (ho:=Ri) (hc:=Rh) (hv:=rfl) (hi:=by kernel_rfl) (hbind:=λS=>all1 λa=>?hb) (iS:=λ_ _ _=>.nil) (eb:=?eb) (es:=?es) (hloc:=?l) (iB:=rfl) (h:=?h)
 case eb=>conv=>lhs;whnf
 case es=>conv=>lhs;whnf
 case l=>exact z5 (c9 (f:=.fn (S "mode_of") _ 280 (.ref 279) []) rfl).at_ zZ
 case hb=>rfl
 with_reducible refine Ex.cons (Ex.assign (c9 (by kernel_rfl)) ?_ (by kernel_rfl))
 with_reducible refine Ev.sx (.aO n) ?k3 L.lO ?_ ?r1 ?r2 ?r3 ?r4
 case k3=>exact qG
 case r1=>rfl
 case r2=>rfl
 case r3=>intro e;cases e
 case r4=>decide
 iterate 12 with_reducible refine fQ.cons (Ev.str ?_)
 with_reducible refine fQ.nil ⟨?r1,?r2,?_⟩
 case r1=>exact AH.bY ..
 case r2=>exact RW
 rw[nG];with_reducible refine Ex.cons (Ex.ret ?_)
 refine(Ev.uB PySem.F.slot_dict_get ahd PySem.F.type_dict_get (Ev.local (.of rfl) (c9 rfl) ⟨.map (AH.bY ..),aM.cons (Ev.local (.of rfl) (c9 rfl) (aM.cons (Ev.str (aM.nil (Call.get (es:=uR) (AH.bY ..) ?_))) rfl)) rfl⟩) rfl);exact RV▸⟨_,sa,q _⟩
def IS(ρ:Type)(c:Tl B ρ):List (Addr×cA B ρ):=(280,mH c 1 (bN ar) IQ)::[]
theorem V7:∀e,e∈IS ρ c->cU (DB ρ c G o kp pc tb) r e.1 e.2:=aG (nT V6 rfl) (cH)
def td(b:B)(k a:Int):Option Str:=(el b k).bind λx=>if a==0 then none else if x.name==S "select" then none else if x.name==S "template" then none else if x.name==S "html" then none else some (kg x.name)
abbrev V8:bg:=bh (H.aD 29) "mode_for" 294 293 [S "builder",S "node",S "at"] []
theorem V9:au 294 V8:=au.o3
abbrev IT:Lf B (Int×Int×Unit):=fs .str λa b=>td b a.1 a.2.1
theorem Wa:bw (λb n=>hp b G n) 2 294 (λa=>bc 1::Ps.enc (dm (dm ar)) a) IT:=i4 (D:=DB (U×B) ay G 0 false bU (IS (U×B) ay)) (d:=1) (λ_=>bo cK V7) V9 (λa b r h=>Eq.trans (b:=(nd b a.1).bind λx=>if x.d7 !=S "html" then some (.str (S ""),b)else(nd b a.1).bind λx=>if x.name==S "select" then none else if x.name==S "template" then none else if x.name==S "html" then(if b.head==-1 then some (.str (S "before head"),b)else some (.str (S "after head"),b))else if(a.2.1==0&&aw [S "td",S "th",S "head"] x.name) then some (.str (S ""),b)else some (.str (kg x.name),b)) (by kernel_rfl) (by
 refine bE (show td b a.1 a.2.1=some r from h) λx h1 h=>?_;rw[kS h1];refine(rF (AU h1)).trans ?_;cases c0:a.2.1==0 with
 |true=>rw[c0]at h;exact ag h
 |false=>
  rw[c0]at h;exact iE h (λ_ h=>ag h) λ_ h=>iE h (λ_ h=>ag h) λc1 h=>(rF c1).trans (iE h (λ_ h=>ag h) λc2 h=>(rF c2).trans (iE h (λ_ h=>ag h) λc3 h=>(rF c3).trans (by rw[<-ack h];rfl))))) (λ_=>by kernel_rfl)
def pj(ρ:Type)(c:Tl B ρ):List (Addr×cA B ρ):=(187,aZ c 1 1 ar yu)::(294,aZ c 0 2 (dm (dm ar)) IT)::(850,aZ c 0 1 (bN ar) vt)::[]
theorem yz:∀e,e∈pj ρ c->cU (DB ρ c G o kp pc tb) r e.1 e.2:=aG (bx Ce rfl) (aG (bx Wa rfl) (aG (bx yq rfl) cH))
end
abbrev i6:bg:=bh (H.aD 30) "reset_mode" 301 300 [S "builder"] []
theorem Wb:au 301 i6:=au.o1
abbrev IU:Lf B Unit:=cB λ_ b=>se b
abbrev pn(a:Int)(md:Str):Lo:=[(S "mode",.str md),(S "at",.int a),(S "builder",.ae .bP)]
abbrev yA(a:Int)(k:Int)(md qZ:Str):Lo:=(S "at",.int (a-1))::(S "mode",.str qZ)::(S "node",.int k)::pn a md
theorem IV(b:B)(a:Int)(md:Str):j0 (DB (It B) ay G 0 false bU (pj (It B) ay)) 2 i6.cD (pn a md) (j3 (aB i6.body 2)) (eI (aB i6.body 2)) b=
  if(decide ((0:Int)<=a)&&md==S "") then(cy b.stack a).bind λk=>if a==0 then(td b k a).bind λqZ=>some (.go .next (yA a k md qZ) b)else(td b k a).bind λqZ=>some (.go .next (yA a k md qZ) b)else some (.out b):=by kernel_rfl
theorem Wc(b:B)(a:Int)(md:Str):(ms (DB (Fl×B) ay G 0 false bU (pj (Fl×B) ay)) 50).L 2 i6.cD (pn a md) [aB i6.body 3,aB i6.body 4] b false (λfl m z=>some (fl,z))=
  if md==S "" then some (.next,b.to (S "in body"))else some (.next,b.to md):=by kernel_rfl
theorem b8.yB:b8 (pn (a-1) qZ) (yA a k md qZ):=.add rfl (.add rfl (.add rfl .nil))
section
variable{G:AH}
theorem Wd:bw (λb n=>hp b G n) 3 301 (λa=>bc 1::Ps.enc ar a) IU:=λa b r h Q q n=>by
 obtain⟨ok,h⟩:=iC (show se b=some r from h);refine bE h λmd hr h2=>?_;have h2:=ack h2;subst h2;have gn:0<b.stack.length:=by
  cases e:b.stack with
  |nil=>exact ag (e▸hr)
  |cons a l=>exact ahk _
 refine Wb 2 _ _ _ rfl (show bR 2 i6.cD [(S "builder",.ae .bP)] (hp b G n) [aB i6.body 0,aB i6.body 1,qU (aB i6.body 2),aB i6.body 3,aB i6.body 4] _ from
  Ex.step (D:=DB (Lo×B) ay G 0 false bU (pj (Lo×B) ay)) (d:=2) (m1:=[(S "at",.int ((b.stack.length:Int)-1)),(S "builder",.ae .bP)]) (z1:=b) (λ_=>bo cK yz) (Eq.trans (b:=(if aC b.stack.length then some (b.stack.length:Int)else none).bind λc=>some ([(S "at",.int (c-1)),(S "builder",.ae .bP)],b)) rfl (by rw[if_pos ok];rfl)) (λn=>
  Ex.step (D:=DB (Lo×B) ay G 0 false bU (pj (Lo×B) ay)) (d:=2) (m1:=pn ((b.stack.length:Int)-1) (S "")) (z1:=b) (λ_=>bo cK yz) rfl (λn=>Ex.cons ?_) n) n)
 refine Ex.wh (D:=DB (It B) ay G 0 false bU (pj (It B) ay)) (d:=2) (λ_=>bo cK yz) (λj m z=>z=b/\((∃i:Nat,j=b.stack.length-i+1/\i<b.stack.length/\xa b (b.stack.reverse.drop i)=some md/\b8 (pn ((b.stack.length:Int)-1+i*(-1)) (S "")) m)\/(j=0/\(md==S "")=false/\∃a,b8 (pn a md) m))) (λj m z I=>?_) (b.stack.length-0+1) ⟨rfl,.inl ⟨0,rfl,gn,hr,by rw[show(b.stack.length:Int)-1+((0:Nat):Int)*(-1)=(b.stack.length:Int)-1 by omega];exact .refl _⟩⟩ n;obtain⟨rfl,I⟩:=I;rcases I with⟨i,rfl,hi,h,l⟩|⟨rfl,c,a,l⟩
 ·obtain⟨k,e1,e2⟩:=uQ hi ok;rw[e1]at h;by_cases mE:i+1<z.stack.length
  ·obtain⟨k2,e3,_⟩:=uQ mE ok;rw[e3]at h;have c0:(((z.stack.length:Int)-1+i*(-1))==0)=false:=afK.mpr (by lia);refine bE h λx h1 h=>?_;split at h
   ·exact ag h
   rename_i c1;split at h
   ·exact ag h
   rename_i c2;split at h
   ·exact ag h
   rename_i c3;have mf:td z k ((z.stack.length:Int)-1+i*(-1))=some (kg x.name):=by unfold td;exact h1▸(rF c0).trans ((if_neg c1).trans ((if_neg c2).trans (if_neg c3)))
   have run:j0 (DB (It B) ay G 0 false bU (pj (It B) ay)) 2 i6.cD (pn ((z.stack.length:Int)-1+i*(-1)) (S "")) (j3 (aB i6.body 2)) (eI (aB i6.body 2)) z=some (.go .next (yA ((z.stack.length:Int)-1+i*(-1)) k (S "") (kg x.name)) z):=by rw[IV];refine(rT (by rw[aga (by lia)];kernel_rfl)).trans ?_;rw[e2];refine(rF c0).trans ?_;rw[mf];rfl
   refine⟨_,_,l,run,?_⟩;refine iE h (λc h=>⟨z.stack.length-(i+1)+1,by exact Nat.succ_lt_succ (agU (Nat.lt_of_succ_lt mE) (agf _)),rfl,.inl ⟨i+1,rfl,mE,by rw[e3];exact h,?_⟩⟩) λc h=>⟨0,by exact ahk _,rfl,.inr ⟨rfl,?_,(z.stack.length:Int)-1+i*(-1)-1,?_⟩⟩
   ·rw[show(z.stack.length:Int)-1+((i+1:Nat):Int)*(-1)=(z.stack.length:Int)-1+i*(-1)-1 by omega,<-afI.mp c];exact .yB
   ·rw[<-ack h];exact c
   ·rw[<-ack h];exact .yB
  ·rw[ahh (by rw[List.length_reverse];exact agh mE)]at h;exact ag h
 ·refine⟨_,.out z,l,?_,λn'=>Ex.sub l (Ex.rest (D:=DB (Fl×B) ay G 0 false bU (pj (Fl×B) ay)) (d:=2) (z1:=z.to md) (sZ:=.next) (λ_=>bo cK yz) ((Wc z a md).trans (rF c)) (λm' n'=>⟨_,.refl _,q n'⟩) n')⟩;rw[IV];exact rF (by rw[c,ag5])
end
abbrev Cj:bg:=bh (H.sub 80 1) "Tree.add" 720 719 [S "self",S "kind",S "space",S "name",S "attrs",S "text"] []
theorem We:au 720 Cj:=au.of rfl (λS=>Qx λx y z u v t=>(by kernel_rfl)) (λ_ _ _ _=>.nil) rfl rfl
abbrev j4:bg:=bh (H.sub 80 6) "Tree.insert" 758 757 [S "self",S "parent",S "node",S "before"] []
theorem Wf:au 758 j4:=au.of rfl (λS=>uK λx y z u=>rfl) (λ_ _ _ _=>.nil) rfl rfl
theorem Wg(e:s=s')(h:dD d f m H s' Q):dD d f m H s Q:=e▸h
theorem Wh(e:s=s')(h:bR d f m H s' Q):bR d f m H s Q:=e▸h
abbrev Wi(x:Nd):Lo:=[(S "text",.str x.text),(S "attrs",.aJ x.aX),(S "name",.str x.name),(S "space",.str x.d7),(S "kind",.str x.kind),(S "self",.ae .tree)]
abbrev yC(p k bf:Int):Lo:=[(S "before",.int bf),(S "node",.int k),(S "parent",.int p),(S "self",.ae .tree)]
section
variable{d:Nat}{f:aV}{m:Lo}{H:AH}{l k:Loc}{C:Addr}{es:List (Str×U)}{a x:Str}{y:U}{e:Expr}{px pa pp pc ps:Pos}{ss:List Stmt}{Q:Fl->Lo->AH->Prop}
theorem Ex.ap(F:fJ C a)(hx:ph d f m (.Name x px)=some y)(I:iA H y C es)(e3:es.lookup a=some (.ae k))(e4:∃ys,H.get k=some (.list ys))(h:aW d f m H e λz H1=>ba d (.builtin "list.append") [.ae k,z] H1 λ_ H2=>bR d f m H2 ss Q)
  (hm:lH (.Attribute (.Name x px) a pa) pc ps [e]=true)(hn:jI e=true)(hi:f.isFn=true):bR d f m H (.Expr (.Call (.Attribute (.Attribute (.Name x px) a pa) (S "append") pc) [e] [] ps) pp::ss) Q:=
 e4.elim λ_ e4=>Ex.cons (Ex.sG (Ev.Ao agS aha (Ev.fZ F (aN hx ⟨es,.ae k,I,e3,af2,.list e4,aM.cons (aW.dy h λ_ _ z=>aM.nil z) hn⟩)) hm) hi rfl)
end
section
variable{b b':B}{G:AH}{n:Nat}{Q:U->AH->Prop}
theorem IW(hh:kO b x=some b'/\x.af=[]/\x.bB=-1/\aC x.aX.length=true){Q:Fl->Lo->AH->Prop}(q:∀m,Q (.ret (.int (b.aa.length:Int))) m (hp b' G n)):bR 1 Cj.cD (Wi x) (hp b G n) Cj.body Q:=by
 refine Wh (s':=?s) ?e ?h;case e=>conv=>lhs;whnf
 refine fu hh λh hk AX qO=>?_;refine xn h λok h=>?_;obtain rfl:=ack h;rw[<-RD (x:=x)];refine Ex.ap (k:=.eg) uN rfl qF rfl ⟨_,rfl⟩ (aN (v:=.str x.kind) rfl (A.eg ok ?_)) rfl rfl rfl;refine Ex.ap (k:=.ff) FX rfl qF rfl ⟨_,rfl⟩ (aN (v:=.str x.d7) rfl (A.ff ok ?_)) rfl rfl rfl;refine Ex.ap (k:=.names) xl rfl qF rfl ⟨_,rfl⟩ (aN (v:=.str x.name) rfl (A.names ok ?_)) rfl rfl rfl;refine Ex.ap (k:=.aX) AN rfl qF rfl ⟨_,rfl⟩ (Ev.wU xj (dF rfl) (aM.cons (aN (v:=.aJ x.aX) rfl (aM.nil (Call.Aj (.inr rfl) (bt (eG qO)) (A.aX ok ?_))))) rfl) rfl rfl rfl;refine Ex.ap (k:=.eJ) AO rfl qF rfl ⟨_,rfl⟩ (aN (v:=.str x.text) rfl (A.eJ ok ?_)) rfl rfl rfl;refine Ex.ap (k:=.dU) xm rfl qF rfl ⟨_,rfl⟩ (aN (v:=.int (-1)) rfl (A.RM AX ok ?_)) rfl rfl rfl;refine Ex.ap (k:=.eQ) AP rfl qF rfl ⟨_,rfl⟩ (Ev.kc (.b9 b.aa.length) (aM.nil ⟨afO _,A.new,A.eQ hk ok ?_⟩)) rfl rfl rfl;exact Ex.cons (Ex.ret (Ev.rU (Ev.uj uM (dF rfl) (aM.cons (Ev.fZ uN (aN (v:=.ae .tree) rfl ⟨eT,.ae .eg,Fv,rfl,af2,aM.nil (A.len ok (aN (v:=.int 1) rfl (Op.sub (Int.add_sub_cancel _ _▸q _))))⟩))) rfl)))
abbrev vB:bg:=bh (H.aD 81) "above" 821 820 [S "tree",S "node"] []
theorem Wj:au 821 vB:=au.o2
theorem Wk(h:nd b p=some x)(h2:oT b k x.bB=some up)(hs:k<=900001)(q:Q (.ae (.aO n)) ((hp b G n).add (.aO n) (.list (cP up)))):ba 1 (.ref 821) [.ae .tree,.int p] (hp b G n) Q:=by
 refine Wj.go (d:=0) (m:=[(S "node",.int p),(S "tree",.ae .tree)]) (body:=[aB vB.body 0,aB vB.body 1,aB vB.body 2,aB vB.body 3]) rfl rfl rfl ?_;refine Ex.bG (s':=?s0) ?e0 ?_;case e0=>conv=>lhs;whnf
 refine Ex.cons (Ex.assign (c9 rfl) (Ev.kc (.aO n) (aM.nil ⟨afO _,L.lO,?_⟩)));refine Ex.bG (s':=?s1) ?e1 ?_;case e1=>conv=>lhs;whnf
 refine Ex.cons (Ex.assign (c9 rfl) (Ev.sub (Ev.fZ xm (aN (v:=.ae .tree) rfl ⟨eT,.ae .dU,F3,rfl,af2,aN (v:=.int p) rfl (R.F2 h ?_)⟩)) rfl));refine Ex.bG (s':=?s2) ?e2 ?_;case e2=>conv=>lhs;whnf
 refine Ex.cons (Ex.while (λj m' H'=>∃vC u rest,H'=(hp b G n).add (.aO n) (.list (cP vC))/\oT b j u=some rest/\vC++rest=up/\vC.length+j<=900001/\b8 [(S "up",.int u),(S "out",.ae (.aO n)),(S "tree",.ae .tree)] m') (λj m' H' i=>?_) k ⟨[],x.bB,up,rfl,h2,rfl,by exact(Nat.zero_add k).symm▸hs,.of (aG rfl (aG rfl (aG rfl cH)))⟩);refine kI i λvC u rest bK h2 e1 e2 l=>?_;subst bK;cases j with
 |zero=>exact ag h2
 |succ j=>
  refine Ts.sub l (vy (c:=(u !=-1)) rfl ?_);refine Rr h2 (λc h2=>bE h2 λy h3 h2=>bE h2 λr2 h4 h2=>?_) (λc h2=>?_)
  ·obtain rfl:=ack h2;refine Ex.sub l (Ex.cons (Ex.sG (Ev.Ao agS aha (aN (v:=.ae (.aO n)) rfl ⟨.list (AH.bY ..),aM.cons (aN (v:=.int u) rfl (aM.nil (L.RN (dg (by lia)) ?_)))⟩) rfl)));refine Ex.cons (Ex.assign (c9 rfl) (Ev.sub (Ev.fZ xm (aN (v:=.ae .tree) rfl ⟨eT,.ae .dU,F3,rfl,af2,aN (v:=.int u) rfl (R.F2 h3 ?_)⟩)) rfl));exact Ex.nil ⟨j,agf j,vC++[u],y.bB,r2,rfl,h4,by rw[afJ];exact e1,by rw[afC,afW];lia,.of (aG rfl (aG rfl (aG rfl cH)))⟩
  ·obtain rfl:=ack h2;rw[afU]at e1;subst e1;refine Ex.nil (Ex.sub l ?_);refine Ex.bG (s':=?s3) ?e3 ?_;case e3=>conv=>lhs;whnf
   exact Ex.cons (Ex.ret (aN (v:=.ae (.aO n)) rfl ⟨_,.refl _,q⟩))
theorem Wl(h1:nd b p=some x)(h2:oT b (b.aa.length+1) x.bB=some up)(hs:b.aa.length+1<=900001)(hne:(k==p)=false)(hu:aw up k=false){Q:Fl->Lo->AH->Prop}(q:∀n',Q .next (yC p k bf) (hp b G n')):dD 1 j4.cD (yC p k bf) (hp b G n) (aB j4.body 0) Q:=by
 refine yl.post (Wg (s':=?s) ?e ?h);case e=>conv=>lhs;whnf
 exact Ex.ite<|Ts.or<|vy (c:=(k==p)) rfl<|kT hne<|Ts.or<|Ts.dt<|aN (v:=.int k) rfl<|Ev.jK QQ (dF rfl) (aM.cons<|aN (v:=.ae .tree) rfl<|aM.cons<|aN (v:=.int p) rfl<|aM.nil<|Call.gu (afD _)<|Wk h1 h2 hs<|Op.RO<|Tr.bool<|kT hu<|Ts.E5<|kT rfl<|Ex.nil ⟨_,sa,q _⟩)
end
theorem q0(h:nd b i=some x):b.aa[i.toNat]?=some x:=by refine cN (gT h) λk bp _ e=>?_;subst bp;exact e
def yD(b:B)(k:Int):Option B:=(nd b k).bind λx=>if x.bB !=-1 then none else some b
abbrev Wm:bg:=bh (H.sub 80 8) "Tree.remove" 772 771 [S "self",S "node"] []
theorem Wn:au 772 Wm:=au.o2
abbrev IX:Lf B (Int×Unit):=cB λa b=>yD b a.1
section
variable{G:AH}
theorem Wo:bw (λb n=>hp b G n) 1 772 (λa=>bc 4::Ps.enc (dm ar) a) IX:=i4 (D:=DB (U×B) ay G 0 false bU (ij (U×B) ay)) (d:=0) (λ_=>bo cK i5) Wn (λa b r h=>Eq.trans (b:=(nd b a.1).bind λx=>if x.bB !=-1 then(nd b a.1).bind λx=>(nd b x.bB).bind λ_=>none else some (.none,b)) rfl (by
 refine bE h λx h1 h2=>?_;rw[h1];exact iE h2 (λ_ h=>ag h) λc h=>(rF c).trans (by rw[<-ack h];rfl))) (λ_=>by kernel_rfl)
def IY(ρ:Type)(c:Tl B ρ):List (Addr×cA B ρ):=(772,aZ c 3 1 (dm ar) IX)::[]
theorem Wq:∀e,e∈IY ρ c->cU (DB ρ c G o kp pc tb) r e.1 e.2:=aG (bx Wo rfl) (cH)
def yE(b:B)(p k at_:Int):Option (Fl×B):=(nd b p).bind λ_=>(b.aa[p.toNat]?).bind λ_=>(b.aa[p.toNat]?).bind λy=>if aC y.af.length=true/\0<=at_/\at_<=(y.af.length:Int)then
 (nd (b.cq p.toNat {y with af:=y.af.take at_.toNat++k::y.af.drop at_.toNat}) k).bind λz=>if aC (b.cq p.toNat {y with af:=y.af.take at_.toNat++k::y.af.drop at_.toNat}).aa.length then some (.next,(b.cq p.toNat {y with af:=y.af.take at_.toNat++k::y.af.drop at_.toNat}).cq k.toNat {z with bB:=p})else none else none
def yF(b:B)(p k bf:Int):Option (Fl×B):=if bf==k then some (.ret .none,b)else(yD b k).bind λb=>(nd b p).bind λ_=>(b.aa[p.toNat]?).bind λy=>if aC y.af.length then
 (if bf !=-1 then(nd b p).bind λ_=>(b.aa[p.toNat]?).bind λ_=>(b.aa[p.toNat]?).bind λy=>if aC y.af.length=true/\aw y.af bf=true then yE b p k (y.af.idxOf bf:Nat)else none else yE b p k y.af.length)else none
def Ck(b:B)(p k bf:Int):Option (Fl×B):=if bf !=-1 then(nd b p).bind λ_=>(b.aa[p.toNat]?).bind λy=>if !(aw y.af bf) then none else yF b p k bf else yF b p k bf
theorem IZ[Decidable c]{P:Prop}(h:(if c then x else y)=some r)(k1:c->x=some r->P)(k2:¬c->y=some r->P):P:=if c0:c then k1 c0 ((if_pos c0).symm.trans h)else k2 c0 ((if_neg c0).symm.trans h)
theorem I0(h1:nd b p=some x)(h:kQ b p x k at_=some b'):yE b p k at_=some (.next,b'):=by unfold yE;rw[h1,q0 h1];refine cF h λc h=>(if_pos ⟨c.1,c.2.2⟩).trans ?_;refine bE h λz e h=>?_;rw[e];exact(if_pos (by rw[RQ];exact c.2.1)).trans (by rw[<-ack h])
theorem I2(h1:nd b p=some x)(h3:nd b k=some y)(h4:(y.bB !=-1)=false)(h:(if bf !=-1 then(if x.af.any (·==bf) then(if bf==k then none else kQ b p x k (x.af.idxOf bf:Nat))else none)else kQ b p x k x.af.length)=some b'):yF b p k bf=some (.next,b'):=by
 have hr:yD b k=some b:=by unfold yD;exact h3▸rF h4
 unfold yF;rw[hr];refine iE h (λc h=>?_) λc h=>?_
 ·refine cF h λc2 h=>iE h (λ_ h=>ag h) λc3 h=>(rF c3).trans ?_;show(nd b p).bind _=_;rw[h1,q0 h1];have ok:aC x.af.length=true:=cF h λc _=>c.1;exact(rT ok).trans ((rT c).trans ((if_pos ⟨ok,c2⟩).trans (I0 h1 h)))
 ·have c3:(bf==k)=false:=by
   have h5:=FZ h3;have h6:bf=-1:=by simpa using c
   exact afK.mpr (by lia)
  refine(rF c3).trans ?_;show(nd b p).bind _=_;rw[h1,q0 h1];have ok:aC x.af.length=true:=cF h λc _=>c.1;exact(rT ok).trans ((rF c).trans (I0 h1 h))
theorem Wr(h1:nd b p=some x)(h3:nd b k=some y)(h4:(y.bB !=-1)=false)(h:(if bf !=-1 then(if x.af.any (·==bf) then(if bf==k then none else kQ b p x k (x.af.idxOf bf:Nat))else none)else kQ b p x k x.af.length)=some b'):Ck b p k bf=some (.next,b'):=by
 unfold Ck;cases c:bf !=-1 with
 |false=>exact I2 h1 h3 h4 h
 |true=>
  show(nd b p).bind _=_;rw[h1,q0 h1];replace h:=c▸h;refine cF h λc2 _=>(rF (by show(!x.af.any (·==bf))=false;rw[c2];rfl)).trans (I2 h1 h3 h4 (by exact c▸h))
theorem I3(h:iV b p k bf=some b')(q:∀m n,Q .next m (hp b' G n)):bR 1 j4.cD (yC p k bf) (hp b G n) j4.body Q:=by unfold iV at h;refine IZ h (λ_ h=>ag h) λhc h=>bE h λx h1 h=>bE h λup h2 h=>iE h (λ_ h=>ag h) λhu h=>bE h λy h3 h=>iE h (λ_ h=>ag h) λWs h=>?_;have ok:aC b.aa.length=true:=Bool.not_eq_false _▸λe=>hc (.inl e);have hne:(k==p)=false:=Bool.eq_false_iff.mpr λe=>hc (.inr e);refine show bR 1 j4.cD (yC p k bf) (hp b G n) (aB j4.body 0::[aB j4.body 1,aB j4.body 2,aB j4.body 3,aB j4.body 4,aB j4.body 5,aB j4.body 6,aB j4.body 7]) Q from Ex.cons (Wl h1 h2 (af9 (eG ok)) hne hu λn=>?_);exact Ex.rest (D:=DB (Fl×B) ay G 0 false bU (IY (Fl×B) ay)) (d:=1) (λ_=>bo cK Wq) (Eq.trans (b:=Ck b p k bf) (by kernel_rfl) (Wr h1 h3 Ws h)) q n
abbrev Cm:Lf B (Int×Int×Int×Unit):=cB λa b=>iV b a.1 a.2.1 a.2.2.1
abbrev I4:Lf B (Int×Int×Unit):=cB λa b=>iV b a.1 a.2.1 (-1)
abbrev Wt:bg:=bh (H.sub 80 6) "Tree.insert" 758 757 [S "self",S "parent",S "node",S "before"] [.int (-1)]
theorem Wu:au 758 Wt:=au.of (dv:=[.int (-1) 1130]) rfl (λS=>sj λx y z=>rfl) (λX h ρ R=>.cons (.int _ _) .nil) rfl rfl
theorem I5:bw (λb n=>hp b G n) 2 758 (λa=>bc 4::Ps.enc (dm (dm (dm ar))) a) Cm:=λa b r h Q q n=>Wf 1 _ _ _ rfl (I3 h λ_ n=>⟨_,.refl _,q n⟩)
theorem Wv:bw (λb n=>hp b G n) 2 758 (λa=>bc 4::Ps.enc (dm (dm ar)) a) I4:=λa b r h Q q n=>Wu 1 _ _ _ rfl (I3 h λ_ n=>⟨_,.refl _,q n⟩)
def I6(ρ:Type)(c:Tl B ρ):List (Addr×cA B ρ):=(758,aZ c 3 2 (dm (dm ar)) I4)::[]
theorem Ww:∀e,e∈I6 ρ c->cU (DB ρ c G o kp pc tb) r e.1 e.2:=aG (bx Wv rfl) (cH)
abbrev Wx:bg:=bh (H.sub 80 7) "Tree.append" 765 764 [S "self",S "parent",S "node"] []
theorem Wy:au 765 Wx:=au.o3
abbrev I7:Lf B (Int×Int×Unit):=cB λa b=>iV b a.1 a.2.1 (-1)
theorem Wz:bw (λb n=>hp b G n) 3 765 (λa=>bc 4::Ps.enc (dm (dm ar)) a) I7:=runN (D:=DB B bb G 0 false bU (I6 B bb)) (d:=2) (λ_=>bo cK Ww) (Wy)
abbrev WA:bg:=bh (H.sub 80 1) "Tree.add" 720 719 [S "self",S "kind",S "space",S "name",S "attrs",S "text"] [.str (S "")]
theorem WB:au 720 WA:=au.of (dv:=[.str (Str.ofString "") 1078]) rfl (λS=>AI λx y z u v=>(by kernel_rfl)) (λX h ρ R=>.cons (.str _ _) .nil) rfl rfl
abbrev I8:Lf B (Str×Str×Str×List U×Unit):=kz λa b=>cond (aC a.2.2.2.1.length) ((kO b ⟨a.1,a.2.1,a.2.2.1,a.2.2.2.1,S "",-1,[]⟩).bind λb1=>some ((b.aa.length:Int),b1)) none
abbrev I9:Lf B (Str×Str×Str×List U×Str×Unit):=kz λa b=>cond (aC a.2.2.2.1.length) ((kO b ⟨a.1,a.2.1,a.2.2.1,a.2.2.2.1,a.2.2.2.2.1,-1,[]⟩).bind λb1=>some ((b.aa.length:Int),b1)) none
theorem WC:bw (λb n=>hp b G n) 2 720 (λa=>bc 4::Ps.enc (bN (bN (bN (ku ar)))) a) I8:=λa b r h Q q n=>cE h λha h=>bE h λb1 h1 h=>WB 1 _ _ _ rfl (IW (x:=⟨a.1,a.2.1,a.2.2.1,a.2.2.2.1,S "",-1,[]⟩) ⟨h1,rfl,rfl,ha⟩ λm=>⟨_,.refl _,sE (X:=λr:Int×B=>(∀n',Q (.int r.1) (hp r.2 G n'))->Q (.int (b.aa.length:Int)) (hp b1 G n)) h (λq=>q n) q⟩)
theorem WD:bw (λb n=>hp b G n) 2 720 (λa=>bc 4::Ps.enc (bN (bN (bN (ku (bN ar))))) a) I9:=λa b r h Q q n=>cE h λha h=>bE h λb1 h1 h=>We 1 _ _ _ rfl (IW (x:=⟨a.1,a.2.1,a.2.2.1,a.2.2.2.1,a.2.2.2.2.1,-1,[]⟩) ⟨h1,rfl,rfl,ha⟩ λm=>⟨_,.refl _,sE (X:=λr:Int×B=>(∀n',Q (.int r.1) (hp r.2 G n'))->Q (.int (b.aa.length:Int)) (hp b1 G n)) h (λq=>q n) q⟩)
def Ja(ρ:Type)(c:Tl B ρ):List (Addr×cA B ρ):=(720,aZ c 3 2 (bN (bN (bN (ku ar)))) I8)::[]
theorem WE:∀e,e∈Ja ρ c->cU (DB ρ c G o kp pc tb) r e.1 e.2:=aG (bx WC rfl) (cH)
def Jb(ρ:Type)(c:Tl B ρ):List (Addr×cA B ρ):=(720,aZ c 3 2 (bN (bN (bN (ku (bN ar))))) I9)::[]
theorem WG:∀e,e∈Jb ρ c->cU (DB ρ c G o kp pc tb) r e.1 e.2:=aG (bx WD rfl) (cH)
abbrev WH:bg:=bh (H.sub 80 2) "Tree.element" 729 728 [S "self",S "name",S "space",S "attrs"] []
theorem WI:au 729 WH:=au.of rfl (λS=>uK λx y z u=>rfl) (λ_ _ _ _=>.nil) rfl rfl
abbrev Jc:Lf B (Str×Str×List U×Unit):=kz λa b=>cond (a.2.1==S "html") (ke b a.1 a.2.2.1) none
theorem WJ:bw (λb n=>hp b G n) 3 729 (λa=>bc 4::Ps.enc (bN (bN (ku ar))) a) Jc:=i4 (D:=DB (U×B) ay G 0 false bU (Ja (U×B) ay)) (d:=2) (λ_=>bo cK WE) WI (λa b r h=>Eq.trans (b:=(cond (aC a.2.2.1.length) ((kO b ⟨S "element",a.2.1,a.1,a.2.2.1,S "",-1,[]⟩).bind λb1=>some ((b.aa.length:Int),b1)) none).bind λr=>if a.2.1==S "html"&&a.1==S "template" then none else some (.int r.1,r.2)) (by kernel_rfl) (by
 refine cE h λhc h=>IZ h (λ_ h=>ag h) λhn h=>?_;have e:a.2.1=S "html":=afI.mp hc;rw[show aC a.2.2.1.length=true from Bool.not_eq_false _▸λe=>hn (.inr e),e];show((kO b (gU a.1 a.2.2.1)).bind (λb1=>some ((b.aa.length:Int),b1))).bind _=_;rw[h];exact rF (c:=S "html"==S "html"&&a.1==S "template") (by rw[show(a.1==S "template")=false from afK.mpr λe=>hn (.inl e),ag5]))) (λ_=>by kernel_rfl)
abbrev WK:bg:=bh (H.sub 80 3) "Tree.text" 736 735 [S "self",S "text"] []
theorem WL:au 736 WK:=au.o2
abbrev Jd:Lf B (Str×Unit):=kz λa b=>w7 b a.1
theorem WM:bw (λb n=>hp b G n) 3 736 (λa=>bc 4::Ps.enc (bN ar) a) Jd:=i4 (D:=DB (U×B) ay G 0 false bU (Jb (U×B) ay)) (d:=2) (λ_=>bo cK WG) WL (λa b r h=>Eq.trans (b:=((kO b (kP a.1)).bind λb1=>some ((b.aa.length:Int),b1)).bind λr=>some (.int r.1,r.2)) rfl (by
 rw[show(kO b (kP a.1)).bind (λb1=>some ((b.aa.length:Int),b1))=some r from h];rfl)) (λ_=>by kernel_rfl)
end
abbrev WN:bg:=bh (H.sub 80 11) "Tree.last" 793 792 [S "self",S "parent"] []
theorem WO:au 793 WN:=au.o2
abbrev Je:Lf B (Int×Unit):=fs .int λa b=>oU b a.1
section
variable{G:AH}
theorem WQ:bw (λb n=>hp b G n) 1 793 (λa=>bc 4::Ps.enc (dm ar) a) Je:=i4 (D:=DB (U×B) ay G 0 false bU (ij (U×B) ay)) (d:=0) (λ_=>bo cK i5) WO (λa b r h=>Eq.trans (b:=(nd b a.1).bind λ_=>(b.aa[a.1.toNat]?).bind λy=>if aC y.af.length then(if !(!y.af.isEmpty) then some (.int (-1),b)else(nd b a.1).bind λ_=>(b.aa[a.1.toNat]?).bind λy=>(y.af.getLast?).bind λv=>some (.int v,b))else none) rfl (by
 refine bE h λx h1 h2=>?_;refine aU (iC h2) λok h3=>?_;rw[h1,q0 h1];refine(rT ok).trans ?_;cases e:x.af.isEmpty with
 |true=>
  rw[e]at h3;rw[<-ack h3];rfl
 |false=>
  rw[e]at h3;replace h3:x.af.getLast?=some r:=h3;show x.af.getLast?.bind _=_;rw[h3];rfl)) (λ_=>by kernel_rfl)
abbrev WR:bg:=bh (H.sub 80 10) "Tree.place" 786 785 [S "self",S "node"] []
theorem WS:au 786 WR:=au.o2
abbrev Jf:Lf B (Int×Unit):=fs .int λa b=>uD b a.1
theorem WT:bw (λb n=>hp b G n) 1 786 (λa=>bc 4::Ps.enc (dm ar) a) Jf:=i4 (D:=DB (U×B) ay G 0 false bU (ij (U×B) ay)) (d:=0) (λ_=>bo cK i5) WS (λa b r h=>Eq.trans (b:=(nd b a.1).bind λx=>if x.bB==-1 then some (.int (-1),b)else(nd b a.1).bind λx=>(nd b x.bB).bind λ_=>(b.aa[x.bB.toNat]?).bind λ_=>(b.aa[x.bB.toNat]?).bind λy=>if aC y.af.length=true/\aw y.af a.1=true then some (.int (y.af.idxOf a.1:Nat),b)else none) (by kernel_rfl) (by
 refine bE h λx h1 h2=>?_;split at h2
 ·exact ag h2
 rename_i c;refine bE h2 λp h3 h4=>?_;split at h4
 ·rename_i c2;rw[h1];refine(if_neg c).trans ?_;show(nd b x.bB).bind _=_;rw[h3,q0 h3];refine(if_pos ⟨c2.2,c2.1⟩).trans ?_;rw[<-ack h4];rfl
 ·exact ag h4)) (λ_=>by kernel_rfl)
abbrev WU:bg:=bh (H.aD 7) "is_table_part" 56 55 [S "name"] []
theorem WV:au 56 WU:=au.o1
abbrev Jg:Lf B (Str×Unit):=fs .bool λa b=>some (aw gD a.1)
theorem WW:bw (λb n=>hp b G n) 1 56 (Ps.enc (bN ar)) Jg:=i4 (D:=DB (U×B) ay G 0 false bU (ij (U×B) ay)) (d:=0) (λ_=>bo cK i5) WV (λa b r h=>Eq.trans (b:=some (.bool (aw gD a.1),b)) rfl (by
 rw[<-ack h];rfl)) (λ_=>by kernel_rfl)
def Jh(ρ:Type)(c:Tl B ρ):List (Addr×cA B ρ):=(180,aZ c 1 1 ar yt)::(56,mH c 1 (bN ar) Jg)::(84,aZ c 0 2 ar IP)::[]
theorem WX:∀e,e∈Jh ρ c->cU (DB ρ c G o kp pc tb) r e.1 e.2:=aG (bx Cd rfl) (aG (nT WW rfl) (aG (bx V5 rfl) cH))
abbrev WY:bg:=bh (H.aD 13) "place_for" 92 91 [S "builder",S "target"] [.int (-1)]
theorem WZ:au 92 WY:=au.of (dv:=[.int (-1) 272]) rfl (λS=>all1 λx=>rfl) (λX h ρ R=>.cons (.int _ _) .nil) rfl rfl
abbrev Cn:Lf B Unit:=fs (λpl:Int×Int=>.aJ [.int pl.1,.int pl.2]) λ_ b=>kf b
theorem Ji:bw (λb n=>hp b G n) 3 92 (λa=>bc 1::Ps.enc ar a) Cn:=i4 (D:=DB (U×B) ay G 0 false bU (Jh (U×B) ay)) (d:=2) (λ_=>bo cK WX) WZ (λa b r h=>Eq.trans (b:=(jR b).bind λk=>if k==-1 then some (.aJ [.int 0,.int (-1)],b)else if b.dO=true then(nd b k).bind λx=>if x.d7==S "html" then(nd b k).bind λx=>if aw gD x.name then(oV b).bind λpl=>some (.aJ [.int pl.1,.int pl.2],b)else some (.aJ [.int k,.int (-1)],b)else some (.aJ [.int k,.int (-1)],b)else some (.aJ [.int k,.int (-1)],b)) (by kernel_rfl) (by
 refine bE h λk h1 h2=>?_;refine bE h2 λx h3 h4=>?_;rw[h1];refine(rF (AS (kS h3))).trans ?_;rw[kS h3];show(if b.dO=true then(if x.d7==S "html" then(if aw gD x.name then _ else _)else _)else _)=_;rw[uP h3];cases c:b.dO with
 |false=>
  rw[c]at h4;rw[<-ack h4];rfl
 |true=>
  rw[c]at h4;replace h4:(if aw gD x.name then oV b else some (k,-1))=some r:=h4;cases c2:aw gD x.name with
  |false=>
   rw[c2]at h4;rw[<-ack h4];rfl
  |true=>
   rw[c2]at h4;replace h4:oV b=some r:=h4;show(oV b).bind _=_;rw[h4];rfl)) (λ_=>by kernel_rfl)
def Jj(ρ:Type)(c:Tl B ρ):List (Addr×cA B ρ):=(92,aZ c 0 3 ar Cn)::(793,aZ c 3 1 (dm ar) Je)::(786,aZ c 3 1 (dm ar) Jf)::(736,aZ c 3 3 (bN ar) Jd)::(758,aZ c 3 2 (dm (dm (dm ar))) Cm)::[]
theorem W0:∀e,e∈Jj ρ c->cU (DB ρ c G o kp pc tb) r e.1 e.2:=aG (bx Ji rfl) (aG (bx WQ rfl) (aG (bx WT rfl) (aG (bx WM rfl) (aG (bx I5 rfl) cH))))
def Co(b:B)(s:Str)(pl:Int×Int):Option B:=(w7 b s).bind λr=>iV r.2 pl.1 r.1 pl.2
def Cp(b:B)(s:Str)(pl:Int×Int)(a:Int):Option B:=if a !=-1 then(nd b a).bind λx=>if x.kind==S "text" then(nd b a).bind λx=>if x.text.length+s.length<=1000000 then(nd b a).bind λy=>if aC b.aa.length then some (b.cq a.toNat {y with text:=x.text++s})else none else none else Co b s pl else Co b s pl
def Cq(b:B)(s:Str):Option B:=(kf b).bind λpl=>(nd b pl.1).bind λp=>if p.kind==S "document" then some b else(oU b pl.1).bind λl=>if pl.2 !=-1 then(uD b pl.2).bind λat_=>if decide (0<at_) then(nd b pl.1).bind λ_=>(b.aa[pl.1.toNat]?).bind λy=>(cy y.af (at_-1)).bind λa=>Cp b s pl a else Co b s pl else Cp b s pl l
abbrev W2:bg:=bh (H.aD 14) "insert_sign" 99 98 [S "builder",S "sign"] []
theorem W3:au 99 W2:=au.o2
abbrev W4:Lf B (Str×Unit):=cB λa b=>Cq b a.1
theorem W5:bw (λb n=>hp b G n) 4 99 (λa=>bc 1::Ps.enc (bN ar) a) W4:=runN (D:=DB B bb G 0 false bU (Jj B bb)) (d:=3) (λ_=>bo cK W0) (W3)
theorem Jk(h:(if a !=-1 then(nd b a).bind λx=>if x.kind==S "text" then(if aC b.aa.length=true/\x.text.length+s.length<=1000000 then some (b.cq a.toNat {x with text:=x.text++s})else none)else qr b pl.1 s pl.2 else qr b pl.1 s pl.2)=some b'):Cp b s pl a=some b':=by refine iE h (λc h=>(rT c).trans ?_) λc h=>(rF c).trans h;refine bE h λx e h=>?_;rw[e];refine iE h (λc h=>(rT c).trans ?_) λc h=>(rF c).trans h;exact cF h λc h=>(if_pos c.2).trans ((if_pos c.1).trans h)
theorem W6(h:jk b s=some b'):Cq b s=some b':=by
 unfold Cq;refine bE h λpl e h=>?_;rw[e];refine bE h λp e1 h=>?_;show(nd b pl.1).bind _=_;rw[e1];show(if p.kind==S "document" then _ else _)=_;cases c0:p.kind==S "document"with
 |true=>rw[c0]at h;exact ag h
 |false=>
  rw[c0]at h;replace h:((oU b pl.1).bind λl=>(uF b p pl.2 l).bind λa=>_)=some b':=h;refine bE h λl e2 h=>bE h λa e3 h=>?_;show(oU b pl.1).bind _=_;rw[e2];unfold uF at e3;refine iE e3 (λc e3=>(rT c).trans ?_) λc e3=>(rF c).trans (ack e3▸Jk h);refine bE e3 λat_ e4 e3=>?_;rw[e4];refine iE e3 (λc e3=>(rT c).trans ?_) λc e3=>(rF c).trans ?_
  ·show(b.aa[pl.1.toNat]?).bind _=_;rw[q0 e1];show(cy p.af (at_-1)).bind _=_;exact e3▸Jk h
  ·rw[<-ack e3]at h;exact h
abbrev Cr:Lf B (Str×Unit):=cB λa b=>jk b a.1
theorem Jl:bw (λb n=>hp b G n) 4 99 (λa=>bc 1::Ps.enc (bN ar) a) Cr:=λa b r h Q q n=>W5 a b r (W6 h) Q q n
def Ct(ρ:Type)(c:Tl B ρ):List (Addr×cA B ρ):=(729,aZ c 3 3 (bN (bN (ku ar))) Jc)::[]
theorem Jm:∀e,e∈Ct ρ c->cU (DB ρ c G o kp pc tb) r e.1 e.2:=aG (bx WJ rfl) (cH)
abbrev W7:bg:=bh (H.aD 16) "make" 115 114 [S "builder",S "name",S "attrs",S "space"] []
theorem W8:au 115 W7:=au.of rfl (λS=>uK λx y z u=>rfl) (λ_ _ _ _=>.nil) rfl rfl
abbrev Jn:Lf B (Str×List U×Str×Unit):=kz λa b=>cond (a.2.2.1==S "html") (ke b a.1 a.2.1) none
theorem W9:bw (λb n=>hp b G n) 4 115 (λa=>bc 1::Ps.enc (bN (ku (bN ar))) a) Jn:=i4 (D:=DB (U×B) ay G 0 false bU (Ct (U×B) ay)) (d:=3) (λ_=>bo cK Jm) W8 (λa b r h=>Eq.trans (b:=(cond (a.2.2.1==S "html") (ke b a.1 a.2.1) none).bind λr=>some (.int r.1,r.2)) rfl (by
 rw[show(cond (a.2.2.1==S "html") (ke b a.1 a.2.1) none)=some r from h];rfl)) (λ_=>by kernel_rfl)
def Cu(ρ:Type)(c:Tl B ρ):List (Addr×cA B ρ):=(92,aZ c 0 3 ar Cn)::(115,aZ c 0 4 (bN (ku (bN ar))) Jn)::(758,aZ c 3 2 (dm (dm (dm ar))) Cm)::(166,aZ c 1 1 (dm ar) Cb)::[]
theorem Jo:∀e,e∈Cu ρ c->cU (DB ρ c G o kp pc tb) r e.1 e.2:=aG (bx Ji rfl) (aG (bx W9 rfl) (aG (bx I5 rfl) (aG (bx Iu rfl) cH)))
abbrev Xa:bg:=bh (H.aD 17) "insert_element" 124 123 [S "builder",S "name",S "attrs",S "space"] [.str (S "html")]
theorem Xb:au 124 Xa:=au.of (dv:=[.str (Str.ofString "html") 320]) rfl (λS=>sj λx y z=>rfl) (λX h ρ R=>.cons (.str _ _) .nil) rfl rfl
abbrev Jp:Lf B (Str×List U×Unit):=kz λa b=>jS b a.1 a.2.1
theorem Xc:bw (λb n=>hp b G n) 5 124 (λa=>bc 1::Ps.enc (bN (ku ar)) a) Jp:=i4 (D:=DB (U×B) ay G 0 false bU (Cu (U×B) ay)) (d:=4) (λ_=>bo cK Jo) Xb (λa b r h=>Eq.trans (b:=(kf b).bind λpl=>(ke b a.1 a.2.1).bind λr=>(iV r.2 pl.1 r.1 pl.2).bind λb2=>(qp b2 r.1).bind λb3=>some (.int r.1,b3)) (by kernel_rfl) (by
 refine cps λG k=>?_;refine bE h λpl h1 h=>?_;refine bE h λr1 h2 h=>?_;refine bE h λb2 h3 h=>?_;refine bE h λb3 h4 h=>?_;refine k ?_;rw[h1];show(ke b a.1 a.2.1).bind _=_;rw[h2];show(iV r1.2 pl.1 r1.1 pl.2).bind _=_;rw[h3];show(qp b2 r1.1).bind _=_;rw[h4,<-ack h];rfl)) (λ_=>by kernel_rfl)
abbrev Xd:bg:=bh (H.aD 17) "insert_element" 124 123 [S "builder",S "name",S "attrs",S "space"] [.aJ [],.str (S "html")]
theorem Xe:au 124 Xd:=au.of (dv:=[.ref 116,.str (Str.ofString "html") 320]) rfl (λS=>all2 λx y=>rfl) (λX h ρ R=>.cons (F4 R RS) (.cons (.str _ _) .nil)) rfl rfl
abbrev Cv:Lf B (Str×Unit):=kz λa b=>jS b a.1 []
theorem Jq:bw (λb n=>hp b G n) 5 124 (λa=>bc 1::Ps.enc (bN ar) a) Cv:=i4 (D:=DB (U×B) ay G 0 false bU (Cu (U×B) ay)) (d:=4) (λ_=>bo cK Jo) Xe (λa b r h=>Eq.trans (b:=(kf b).bind λpl=>(ke b a.1 []).bind λr=>(iV r.2 pl.1 r.1 pl.2).bind λb2=>(qp b2 r.1).bind λb3=>some (.int r.1,b3)) (by kernel_rfl) (by
 refine cps λG k=>?_;refine bE h λpl h1 h=>?_;refine bE h λr1 h2 h=>?_;refine bE h λb2 h3 h=>?_;refine bE h λb3 h4 h=>?_;refine k ?_;rw[h1];show(ke b a.1 []).bind _=_;rw[h2];show(iV r1.2 pl.1 r1.1 pl.2).bind _=_;rw[h3];show(qp b2 r1.1).bind _=_;rw[h4,<-ack h];rfl)) (λ_=>by kernel_rfl)
abbrev Xf:bg:=bh (H.aD 20) "associate" 145 144 [S "builder",S "node"] []
theorem Xg:au 145 Xf:=au.o2
abbrev Jr:Lf B (Int×Unit):=cB λa b=>some b
theorem Xh:bw (λb n=>hp b G n) 1 145 (λa=>bc 1::Ps.enc (dm ar) a) Jr:=runN (D:=DB B bb G 0 false bU (ij B bb)) (d:=0) (λ_=>bo cK i5) (Xg)
def Js(ρ:Type)(c:Tl B ρ):List (Addr×cA B ρ):=(124,aZ c 0 5 (bN (ku ar)) Jp)::(145,aZ c 0 1 (dm ar) Jr)::[]
theorem Xi:∀e,e∈Js ρ c->cU (DB ρ c G o kp pc tb) r e.1 e.2:=aG (bx Xc rfl) (aG (bx Xh rfl) cH)
abbrev Xj:bg:=bh (H.aD 18) "insert_token" 131 130 [S "builder",S "token"] []
theorem Xk:au 131 Xj:=au.o2
abbrev Cw:Lf B (aS×Unit):=kz λa b=>kR b a.1
theorem Jt:bw (λb n=>hp b G n) 6 131 (λa=>bc 1::Ps.enc (bF ar) a) Cw:=λa b r h Q q n=>by obtain⟨⟨k,nm,rest⟩,u⟩:=a;refine bE h λas h1 h2=>?_;refine aI (RT h1) λtl e=>?_;replace e:rest=.aJ as::tl:=e;subst e;exact i4 (D:=DB (U×B) ay G 0 false bU (Js (U×B) ay)) (α:=Str×Str×List U×List U) (args:=λa=>[bc 1,.aJ (.str a.1::.str a.2.1::.aJ a.2.2.1::a.2.2.2)]) (F:=kz λa b=>jS b a.2.1 a.2.2.1) (d:=5) (λ_=>bo cK Xi) Xk (λa b r h=>Eq.trans (b:=(jS b a.2.1 a.2.2.1).bind λr=>some (.int r.1,r.2)) (by kernel_rfl) (by rw[show jS b a.2.1 a.2.2.1=some r from h];rfl)) (λ_=>by kernel_rfl) (k,nm,as,tl) b r h2 Q q n
def Ju(ρ:Type)(c:Tl B ρ):List (Addr×cA B ρ):=(131,aZ c 0 6 (bF ar) Cw)::(173,aZ c 1 1 ar vx)::[]
theorem Xl:∀e,e∈Ju ρ c->cU (DB ρ c G o kp pc tb) r e.1 e.2:=aG (bx Jt rfl) (aG (bx yr rfl) cH)
abbrev Xm:bg:=bh (H.aD 19) "insert_void" 138 137 [S "builder",S "token"] []
theorem Xn:au 138 Xm:=au.o2
abbrev Jv:Lf B (aS×Unit):=kz λa b=>w8 b a.1
theorem Xo:bw (λb n=>hp b G n) 7 138 (λa=>bc 1::Ps.enc (bF ar) a) Jv:=i4 (D:=DB (U×B) ay G 0 false bU (Ju (U×B) ay)) (d:=6) (λ_=>bo cK Xl) Xn (λa b r h=>Eq.trans (b:=(kR b a.1).bind λr=>(gE r.2).bind λr2=>some (.int r.1,{r2.2 with dP:=true})) (by kernel_rfl) (by
 refine bE h λr1 h1 h=>?_;refine bE h λr2 h2 h=>?_;rw[h1];show(gE r1.2).bind _=_;rw[h2,<-ack h];rfl)) (λ_=>by kernel_rfl)
end
theorem Cx{x:α}:((if c=true then A else some x).bind k)=(if c=true then A.bind k else k x):=by induction c<;>rfl
noncomputable def yG:List Str->Bool
 |[_]|[_,_]|[_,_,_]=>true
 |_=>false
theorem Cy{l:List Str}(h:yG l=true):(∃x,l=[x])\/(∃x y,l=[x,y])\/∃x y z,l=[x,y,z]:=by
 cases l with
 |nil=>cases h
 |cons x l=>
  cases l with
  |nil=>exact .inl ⟨x,rfl⟩
  |cons y l=>
   cases l with
   |nil=>exact .inr (.inl ⟨x,y,rfl⟩)
   |cons z l=>
    induction l with
    |nil=>exact .inr (.inr ⟨x,y,z,rfl⟩)
    |cons=>cases h
def t0(ρ:Type)(c:Tl B ρ):List (Addr×cA B ρ):=(173,aZ c 1 1 ar vx)::(222,aZ c 1 2 ar yw)::(273,aZ c 1 3 ar II)::(236,aZ c 1 3 (ll ar) IB)::(243,aZ c 1 3 (ll ar) IC)::(265,aZ c 1 2 (ll (bN ar)) IM)::(131,aZ c 0 6 (bF ar) Cw)::(138,aZ c 0 7 (bF ar) Jv)::(124,aZ c 0 5 (bN ar) Cv)::(99,aZ c 0 4 (bN ar) Cr)::(843,aZ c 0 1 (bN ar) yo)::(850,aZ c 0 1 (bN ar) vt)::(634,aZ c 2 1 ar Ir)::(641,aZ c 2 1 ar ID)::(187,aZ c 1 1 ar yu)::(180,aZ c 1 1 ar yt)::(301,aZ c 0 3 ar IU)::[]
section
variable{G:AH}
theorem kC{pc:List (Addr×Nat×(List U->Option U))}:∀e,e∈t0 ρ c->cU (DB ρ c G o kp pc tb) r e.1 e.2:=aG (bx yr rfl) (aG (bx Cf rfl) (aG (bx VP rfl) (aG (bx VH rfl) (aG (bx VI rfl) (aG (bx VZ rfl) (aG (bx Jt rfl) (aG (bx Xo rfl) (aG (bx Jq rfl) (aG (bx Jl rfl) (aG (bx Cc rfl) (aG (bx yq rfl) (aG (bx Vl rfl) (aG (bx VJ rfl) (aG (bx Ce rfl) (aG (bx Cd rfl) (aG (bx Wd rfl) cH))))))))))))))))
abbrev Xp:bg:=bh (H.aD 2) "is_space" 28 27 [S "c"] []
theorem Xq:au 28 Xp:=au.o1
abbrev Xr:bg:=bh (H.aD 53) "is_table_child" 441 440 [S "name"] []
theorem Xs:au 441 Xr:=au.o1
abbrev Xu:bg:=bh (H.aD 33) "is_space_token" 315 314 [S "token"] []
theorem Xv:au 315 Xu:=au.o1
abbrev Xw:bg:=bh (H.aD 52) "unexpected" 434 433 [S "token"] []
theorem Xx:au 434 Xw:=au.o1
def Jw:List (Addr×Nat×(List U->Option U)):=[(28,1,λxs=>((bN ar).p xs).bind λq=>some (.bool (fA q.1)))]
theorem Xy{B:α}:(if a=true then some (x,B)else if b=true then some (y,B)else some (z,B))=some ((if a=true then x else if b=true then y else z),B):=by induction a<;>induction b<;>rfl
theorem Jx:lZ 28 (1,λxs=>(Ps.p (bN ar) xs).bind λq=>some (.bool (fA q.1))):=λxs y h X Q q=>bE h λa h1 h=>by
 replace q:=sE (X:=λy=>Q y X->Q (.bool (fA a.1)) X) h id q;rw[Ps.ok _ _ _ h1];exact run (D:=DP (Bool×AH) bU) (d:=0) (z:=X) (tf:=false) (ht:=λe=>nomatch e) (r:=((fA a.1),X)) (fin:=lW) (qT cK) Xq (h:=by kernel_rfl) (q:=λfl m z n e=>bE e λc e1 e2=>by
  cases e2;rw[iK e1];exact q) (n:=0) (hl:=by kernel_rfl)
theorem Xz:∀e,e∈Jw->lZ e.1 e.2:=aG Jx cH
theorem XA:lZ 441 (1,λxs=>(Ps.p (bN ar) xs).bind λq=>some (.bool (aw jQ q.1))):=λxs y h X Q q=>bE h λa h1 h=>by
 replace q:=sE (X:=λy=>Q y X->Q (.bool (aw jQ a.1)) X) h id q;rw[Ps.ok _ _ _ h1];exact run (D:=DP (Bool×AH) bU) (d:=0) (z:=X) (tf:=false) (ht:=λe=>nomatch e) (r:=((aw jQ a.1),X)) (fin:=lW) (qT cK) Xs (h:=by kernel_rfl) (q:=λfl m z n e=>bE e λc e1 e2=>by
  cases e2;rw[iK e1];exact q) (n:=0) (hl:=by kernel_rfl)
theorem XB:lZ 315 (2,λxs=>(Ps.p (bF ar) xs).bind λq=>some (.bool (q.1.kind==S "char"&&fA q.1.name))):=λxs y h X Q q=>bE h λa h1 h=>by
 replace q:=sE (X:=λy=>Q y X->Q (.bool (a.1.kind==S "char"&&fA a.1.name)) X) h id q;rw[Ps.ok _ _ _ h1];exact run (D:=DP (Bool×AH) Jw) (d:=1) (z:=X) (tf:=false) (ht:=λe=>nomatch e) (r:=((a.1.kind==S "char"&&fA a.1.name),X)) (fin:=lW) (qT Xz) Xv (h:=by kernel_rfl) (q:=λfl m z n e=>bE e λc e1 e2=>by
  cases e2;rw[iK e1];exact q) (n:=0) (hl:=by kernel_rfl)
theorem XD:lZ 434 (1,λxs=>(Ps.p (bF ar) xs).bind λq=>some (.str (sf q.1))):=λxs y h X Q q=>bE h λa h1 h=>by
 replace q:=sE (X:=λy=>Q y X->Q (.str (sf a.1)) X) h id q;rw[Ps.ok _ _ _ h1];exact run (D:=DP (Str×AH) bU) (d:=0) (z:=X) (tf:=false) (ht:=λe=>nomatch e) (r:=((sf a.1),X)) (fin:=Iq) (qT cK) Xx (h:=Eq.trans (by rfl) (Xy (a:=a.1.kind==S "start") (b:=a.1.kind==S "end") (x:=S "unexpected-start-tag") (y:=S "unexpected-end-tag") (z:=S "unexpected-text"))) (q:=λfl m z n e=>bE e λc e1 e2=>by
  cases e2;rw[eH e1];exact q) (n:=0) (hl:=by kernel_rfl)
theorem cI:∀e,e∈cv->lZ e.1 e.2:=aG XA (aG Jx (aG XB (aG XD cH)))
abbrev XE:bg:=bh (H.aD 35) "pop_to_table" 322 321 [S "builder"] []
theorem XF:au 322 XE:=au.o1
abbrev Jy:Lf B Unit:=cB λ_ b=>Fx b
abbrev XG:bg:=bh (H.aD 36) "pop_to_body" 329 328 [S "builder"] []
theorem XH:au 329 XG:=au.o1
abbrev Jz:Lf B Unit:=cB λ_ b=>xb b
abbrev XI:bg:=bh (H.aD 37) "pop_to_row" 336 335 [S "builder"] []
theorem XJ:au 336 XI:=au.o1
abbrev JA:Lf B Unit:=cB λ_ b=>Ay b
abbrev XK:bg:=bh (H.aD 89) "_law_body" 921 920 [S "builder",S "token"] []
theorem XM:au 921 XK:=au.o2
abbrev mN:Lf B (aS×Unit):=cB λa b=>lM b a.1
abbrev XN:bg:=bh (H.aD 54) "has_in_table" 448 447 [S "builder",S "token",S "names"] []
theorem Cz:au 448 XN:=au.o3
abbrev JB:Lf B (aS×List Str×Unit):=sV λa b=>cond (yG a.2.1) (jU b a.1 a.2.1) none
abbrev XO:bg:=bh (H.aD 55) "pop_marked" 455 454 [S "builder",S "names",S "mode"] []
theorem CA:au 455 XO:=au.o3
abbrev JC:Lf B (List Str×Str×Unit):=cB λa b=>cond (yG a.1) (lN b a.1 a.2.1) none
abbrev XQ:bg:=bh (H.aD 39) "close_table" 350 349 [S "builder"] []
theorem XR:au 350 XQ:=au.o1
abbrev JD:Lf B Unit:=sV λ_ b=>xc b
theorem XS:bw (λb n=>hp b G n) 4 322 (λa=>bc 1::Ps.enc ar a) Jy:=runN (D:=DB B bb G 0 false cv (t0 B bb)) (d:=3) (λ_=>bo cI kC) (XF)
theorem XT:bw (λb n=>hp b G n) 4 329 (λa=>bc 1::Ps.enc ar a) Jz:=runN (D:=DB B bb G 0 false cv (t0 B bb)) (d:=3) (λ_=>bo cI kC) (XH)
theorem XU:bw (λb n=>hp b G n) 4 336 (λa=>bc 1::Ps.enc ar a) JA:=runN (D:=DB B bb G 0 false cv (t0 B bb)) (d:=3) (λ_=>bo cI kC) (XJ)
theorem CB:bw (λb n=>hp b G n) 7 921 (λa=>bc 1::Ps.enc (bF ar) a) mN:=runN (D:=DB B bb G 0 false cv (t0 B bb)) (d:=6) (λ_=>bo cI kC) (XM)
theorem XW:bw (λb n=>hp b G n) 3 448 (λa=>bc 1::Ps.enc (bF (ll ar)) a) JB:=λa b r h Q q n=>cE h λhc h=>by
 obtain⟨a0,a1,u⟩:=a;rcases Cy hc with⟨x,e⟩|⟨x,y,e⟩|⟨x,y,z,e⟩
 ·subst e;exact nU (D:=DB (Bool×B) ay G 0 false cv (t0 (Bool×B) ay)) (α:=aS×Str) (args:=λa=>[bc 1,b7 a.1,i3 [a.2]]) (m:=λa b=>jU b a.1 [a.2]) (d:=2) (λ_=>bo cI kC) Cz (λa z=>by kernel_rfl) (λ_=>by kernel_rfl) (a0,x) b r h Q q n
 ·subst e;exact nU (D:=DB (Bool×B) ay G 0 false cv (t0 (Bool×B) ay)) (α:=aS×Str×Str) (args:=λa=>[bc 1,b7 a.1,i3 [a.2.1,a.2.2]]) (m:=λa b=>jU b a.1 [a.2.1,a.2.2]) (d:=2) (λ_=>bo cI kC) Cz (λa z=>by kernel_rfl) (λ_=>by kernel_rfl) (a0,x,y) b r h Q q n
 ·subst e;exact nU (D:=DB (Bool×B) ay G 0 false cv (t0 (Bool×B) ay)) (α:=aS×Str×Str×Str) (args:=λa=>[bc 1,b7 a.1,i3 [a.2.1,a.2.2.1,a.2.2.2]]) (m:=λa b=>jU b a.1 [a.2.1,a.2.2.1,a.2.2.2]) (d:=2) (λ_=>bo cI kC) Cz (λa z=>by kernel_rfl) (λ_=>by kernel_rfl) (a0,x,y,z) b r h Q q n
theorem XX:bw (λb n=>hp b G n) 5 455 (λa=>bc 1::Ps.enc (ll (bN ar)) a) JC:=λa b r h Q q n=>cE h λhc h=>by
 obtain⟨a0,a1,u⟩:=a;rcases Cy hc with⟨x,e⟩|⟨x,y,e⟩|⟨x,y,z,e⟩
 ·subst e;exact runN (D:=DB B bb G 0 false cv (t0 B bb)) (α:=Str×Str) (args:=λa=>[bc 1,i3 [a.2],.str a.1]) (m:=λa b=>lN b [a.2] a.1) (d:=4) (λ_=>bo cI kC) CA (λa z=>Eq.trans (by kernel_rfl) (sY λb1=>sY λs=>Cx.symm)) rfl (λ_=>by kernel_rfl) (a1,x) b r h Q q n
 ·subst e;exact runN (D:=DB B bb G 0 false cv (t0 B bb)) (α:=Str×Str×Str) (args:=λa=>[bc 1,i3 [a.2.1,a.2.2],.str a.1]) (m:=λa b=>lN b [a.2.1,a.2.2] a.1) (d:=4) (λ_=>bo cI kC) CA (λa z=>Eq.trans (by kernel_rfl) (sY λb1=>sY λs=>Cx.symm)) rfl (λ_=>by kernel_rfl) (a1,x,y) b r h Q q n
 ·subst e;exact runN (D:=DB B bb G 0 false cv (t0 B bb)) (α:=Str×Str×Str×Str) (args:=λa=>[bc 1,i3 [a.2.1,a.2.2.1,a.2.2.2],.str a.1]) (m:=λa b=>lN b [a.2.1,a.2.2.1,a.2.2.2] a.1) (d:=4) (λ_=>bo cI kC) CA (λa z=>Eq.trans (by kernel_rfl) (sY λb1=>sY λs=>Cx.symm)) rfl (λ_=>by kernel_rfl) (a1,x,y,z) b r h Q q n
theorem XY:bw (λb n=>hp b G n) 5 350 (λa=>bc 1::Ps.enc ar a) JD:=nU (D:=DB (Bool×B) ay G 0 false cv (t0 (Bool×B) ay)) (d:=4) (λ_=>bo cI kC) (XR)
def tq(ρ:Type)(c:Tl B ρ):List (Addr×cA B ρ):=(921,aZ c 0 7 (bF ar) mN)::[]
theorem XZ{pc:List (Addr×Nat×(List U->Option U))}:∀e,e∈tq ρ c->cU (DB ρ c G o kp pc tb) r e.1 e.2:=aG (bx CB rfl) (cH)
abbrev vD:bg:=bh (H.sub 83 3) "Builder.use" 857 856 [S "self",S "name",S "token"] []
theorem yH:au 857 vD:=au.o3
abbrev JE:Lf B (Str×aS×Unit):=⟨B,λa b=>cond (a.1==S "in body") (mN.m (a.2.1,()) b) none,λ_=>.none,λ_ z=>z,some (λa b=>cond (a.1==S "in body") (mN.m (a.2.1,()) b) none),λg e a z r h=>by obtain rfl:=ack e;exact⟨r,h,rfl⟩⟩
theorem X2:bw (λb n=>hp b G n) 8 857 (λa=>bc 1::Ps.enc (bN (bF ar)) a) JE:=λa b r h Q q n=>by
 obtain⟨md,t,u⟩:=a;refine dE h (λc h=>?_) λ_ h=>?_
 ·replace c:md=S "in body":=afI.mp c;subst c;exact runN (D:=DB B bb G 0 false cv (tq B bb)) (α:=aS) (args:=λt=>[bc 1,.str (S "in body"),b7 t]) (m:=λt b=>mN.m (t,()) b) (d:=7) (λ_=>bo cI XZ) yH (λa z=>by kernel_rfl) rfl (λ_=>by kernel_rfl) t b r h Q q n
 exact ag h
def t1(ρ:Type)(c:Tl B ρ):List (Addr×cA B ρ):=(322,aZ c 0 4 ar Jy)::(329,aZ c 0 4 ar Jz)::(336,aZ c 0 4 ar JA)::(448,aZ c 0 3 (bF (ll ar)) JB)::(455,aZ c 0 5 (ll (bN ar)) JC)::(350,aZ c 0 5 ar JD)::(857,aZ c 0 8 (bN (bF ar)) JE)::t0 ρ c
theorem pq{pc:List (Addr×Nat×(List U->Option U))}:∀e,e∈t1 ρ c->cU (DB ρ c G o kp pc tb) r e.1 e.2:=aG (bx XS rfl) (aG (bx XT rfl) (aG (bx XU rfl) (aG (bx XW rfl) (aG (bx XX rfl) (aG (bx XY rfl) (aG (bx X2 rfl) kC))))))
abbrev X4:bg:=bh (H.aD 38) "outside_table" 343 342 [S "builder",S "token"] []
theorem X5:au 343 X4:=au.o2
abbrev CC:Lf B (aS×Unit):=cB λa b=>nC b a.1
abbrev X6:bg:=bh (H.aD 56) "close_caption" 462 461 [S "builder",S "token"] []
theorem X7:au 462 X6:=au.o2
abbrev JF:Lf B (aS×Unit):=sV λa b=>xf b a.1
abbrev X8:bg:=bh (H.aD 61) "close_body" 497 496 [S "builder",S "token",S "names"] []
theorem CD:au 497 X8:=au.o3
abbrev JG:Lf B (aS×List Str×Unit):=sV λa b=>cond (yG a.2.1) (oW b a.1 a.2.1) none
abbrev X9:bg:=bh (H.aD 65) "close_row" 525 524 [S "builder",S "token"] []
theorem Yb:au 525 X9:=au.o2
abbrev JH:Lf B (aS×Unit):=sV λa b=>si b a.1
abbrev Yc:bg:=bh (H.aD 69) "close_cell" 553 552 [S "builder"] []
theorem Yd:au 553 Yc:=au.o1
abbrev JJ:Lf B Unit:=cB λ_ b=>AF b
theorem JK:bw (λb n=>hp b G n) 9 343 (λa=>bc 1::Ps.enc (bF ar) a) CC:=runN (D:=DB B bb G 0 false cv (t1 B bb)) (d:=8) (λ_=>bo cI pq) (X5)
theorem Ye:bw (λb n=>hp b G n) 6 462 (λa=>bc 1::Ps.enc (bF ar) a) JF:=nU (D:=DB (Bool×B) ay G 0 false cv (t1 (Bool×B) ay)) (d:=5) (λ_=>bo cI pq) (X7)
theorem Yg:bw (λb n=>hp b G n) 5 497 (λa=>bc 1::Ps.enc (bF (ll ar)) a) JG:=λa b r h Q q n=>cE h λhc h=>by
 obtain⟨a0,a1,u⟩:=a;rcases Cy hc with⟨x,e⟩|⟨x,y,e⟩|⟨x,y,z,e⟩
 ·subst e;exact nU (D:=DB (Bool×B) ay G 0 false cv (t1 (Bool×B) ay)) (α:=aS×Str) (args:=λa=>[bc 1,b7 a.1,i3 [a.2]]) (m:=λa b=>oW b a.1 [a.2]) (d:=4) (λ_=>bo cI pq) CD (λa z=>by kernel_rfl) (λ_=>by kernel_rfl) (a0,x) b r h Q q n
 ·subst e;exact nU (D:=DB (Bool×B) ay G 0 false cv (t1 (Bool×B) ay)) (α:=aS×Str×Str) (args:=λa=>[bc 1,b7 a.1,i3 [a.2.1,a.2.2]]) (m:=λa b=>oW b a.1 [a.2.1,a.2.2]) (d:=4) (λ_=>bo cI pq) CD (λa z=>by kernel_rfl) (λ_=>by kernel_rfl) (a0,x,y) b r h Q q n
 ·subst e;exact nU (D:=DB (Bool×B) ay G 0 false cv (t1 (Bool×B) ay)) (α:=aS×Str×Str×Str) (args:=λa=>[bc 1,b7 a.1,i3 [a.2.1,a.2.2.1,a.2.2.2]]) (m:=λa b=>oW b a.1 [a.2.1,a.2.2.1,a.2.2.2]) (d:=4) (λ_=>bo cI pq) CD (λa z=>by kernel_rfl) (λ_=>by kernel_rfl) (a0,x,y,z) b r h Q q n
theorem Yh:bw (λb n=>hp b G n) 5 525 (λa=>bc 1::Ps.enc (bF ar) a) JH:=nU (D:=DB (Bool×B) ay G 0 false cv (t1 (Bool×B) ay)) (d:=4) (λ_=>bo cI pq) (Yb)
theorem Yi:bw (λb n=>hp b G n) 6 553 (λa=>bc 1::Ps.enc ar a) JJ:=runN (D:=DB B bb G 0 false cv (t1 B bb)) (d:=5) (λ_=>bo cI pq) (Yd)
end
abbrev yI(p:cu):Lf B (aS×Unit):=cB λa b=>p b a.1
theorem CE(P:dI G dp p):bw (λb n=>hp b G n) (dp+0) 864 (λa=>bc 1::Ps.enc (bF ar) a) (yI p):=λa b r h Q q n=>P _ _ _ n Q h q
def t3(ρ:Type)(c:Tl B ρ)(p:cu):List (Addr×cA B ρ):=(864,aZ c 0 0 (bF ar) (yI p))::(343,aZ c 0 9 (bF ar) CC)::(462,aZ c 0 6 (bF ar) JF)::(497,aZ c 0 5 (bF (ll ar)) JG)::(525,aZ c 0 5 (bF ar) JH)::(553,aZ c 0 6 ar JJ)::t1 ρ c
section
variable{G:AH}
theorem pz(P:dI G dp p):∀e,e∈t3 ρ c p->cU (DB ρ c G dp kp pc tb) r e.1 e.2:=aG (fb (o:=dp) (CE P) (afD _) rfl) (aG (bx JK rfl) (aG (bx Ye rfl) (aG (bx Yg rfl) (aG (bx Yh rfl) (aG (bx Yi rfl) pq)))))
abbrev Yj:bg:=bh (H.aD 40) "open_part" 357 356 [S "builder",S "token"] []
theorem Yk:au 357 Yj:=au.o2
abbrev JL(p:cu):Lf B (aS×Unit):=cB λa b=>Fy p b a.1
abbrev Yl:bg:=bh (H.aD 41) "table_in_table" 364 363 [S "builder",S "token"] []
theorem Ym:au 364 Yl:=au.o2
abbrev JM(p:cu):Lf B (aS×Unit):=cB λa b=>Fz p b a.1
abbrev Yn:bg:=bh (H.aD 57) "in_caption" 469 468 [S "builder",S "token"] []
theorem Yo:au 469 Yn:=au.o2
abbrev JN(p:cu):Lf B (aS×Unit):=cB λa b=>Az p b a.1
abbrev Yp:bg:=bh (H.aD 58) "leave_columns" 476 475 [S "builder",S "token",S "is_again"] []
theorem Yq:au 476 Yp:=au.o3
abbrev JO(p:cu):Lf B (aS×Bool×Unit):=cB λa b=>AA p b a.1 a.2.1
abbrev Yr:bg:=bh (H.aD 45) "end_in_table" 392 391 [S "builder",S "token"] []
theorem Ys:au 392 Yr:=au.o2
abbrev JP(p:cu):Lf B (aS×Unit):=cB λa b=>FD b a.1
abbrev Yt:bg:=bh (H.aD 46) "sign_in_table" 399 398 [S "builder",S "token"] []
theorem Yu:au 399 Yt:=au.o2
abbrev JQ(p:cu):Lf B (aS×Unit):=cB λa b=>FE p b a.1
abbrev Yv:bg:=bh (H.aD 70) "end_in_cell" 560 559 [S "builder",S "token"] []
theorem Yw:au 560 Yv:=au.o2
abbrev JR(p:cu):Lf B (aS×Unit):=cB λa b=>FL p b a.1
theorem Yx(P:dI G dp p):bw (λb n=>hp b G n) (dp+20) 357 (λa=>bc 1::Ps.enc (bF ar) a) (JL p):=runN (D:=DB B bb G dp false cv (t3 B bb p)) (d:=19) (λ_=>bo cI (pz P)) (Yk)
theorem Yy(P:dI G dp p):bw (λb n=>hp b G n) (dp+20) 364 (λa=>bc 1::Ps.enc (bF ar) a) (JM p):=runN (D:=DB B bb G dp false cv (t3 B bb p)) (d:=19) (λ_=>bo cI (pz P)) (Ym)
theorem Yz(P:dI G dp p):bw (λb n=>hp b G n) (dp+20) 469 (λa=>bc 1::Ps.enc (bF ar) a) (JN p):=runN (D:=DB B bb G dp false cv (t3 B bb p)) (d:=19) (λ_=>bo cI (pz P)) (Yo)
theorem YA(P:dI G dp p):bw (λb n=>hp b G n) (dp+20) 476 (λa=>bc 1::Ps.enc (bF (HV ar)) a) (JO p):=runN (D:=DB B bb G dp false cv (t3 B bb p)) (d:=19) (λ_=>bo cI (pz P)) (Yq)
theorem YB(P:dI G dp p):bw (λb n=>hp b G n) (dp+20) 392 (λa=>bc 1::Ps.enc (bF ar) a) (JP p):=runN (D:=DB B bb G dp false cv (t3 B bb p)) (d:=19) (λ_=>bo cI (pz P)) (Ys)
theorem YC(P:dI G dp p):bw (λb n=>hp b G n) (dp+20) 399 (λa=>bc 1::Ps.enc (bF ar) a) (JQ p):=runN (D:=DB B bb G dp false cv (t3 B bb p)) (d:=19) (λ_=>bo cI (pz P)) (Yu)
theorem YD(P:dI G dp p):bw (λb n=>hp b G n) (dp+20) 560 (λa=>bc 1::Ps.enc (bF ar) a) (JR p):=runN (D:=DB B bb G dp false cv (t3 B bb p)) (d:=19) (λ_=>bo cI (pz P)) (Yw)
def t4(ρ:Type)(c:Tl B ρ)(p:cu):List (Addr×cA B ρ):=(357,aZ c 0 20 (bF ar) (JL p))::(364,aZ c 0 20 (bF ar) (JM p))::(476,aZ c 0 20 (bF (HV ar)) (JO p))::(392,aZ c 0 20 (bF ar) (JP p))::(399,aZ c 0 20 (bF ar) (JQ p))::(560,aZ c 0 20 (bF ar) (JR p))::t3 ρ c p
theorem yJ(P:dI G dp p):∀e,e∈t4 ρ c p->cU (DB ρ c G dp kp pc tb) r e.1 e.2:=aG (fb (o:=dp) (Yx P) (afD _) rfl) (aG (fb (o:=dp) (Yy P) (afD _) rfl) (aG (fb (o:=dp) (YA P) (afD _) rfl) (aG (fb (o:=dp) (YB P) (afD _) rfl) (aG (fb (o:=dp) (YC P) (afD _) rfl) (aG (fb (o:=dp) (YD P) (afD _) rfl) (pz P))))))
abbrev YE:bg:=bh (H.aD 44) "start_in_table" 385 384 [S "builder",S "token"] []
theorem YF:au 385 YE:=au.o2
abbrev JS(p:cu):Lf B (aS×Unit):=cB λa b=>FA p b a.1
abbrev YG:bg:=bh (H.aD 59) "tag_in_columns" 483 482 [S "builder",S "token"] []
theorem YH:au 483 YG:=au.of rfl (λS=>all2 λx y=>(by kernel_rfl)) (λ_ _ _ _=>.nil) rfl rfl
abbrev JT(p:cu):Lf B (aS×Unit):=cB λa b=>FF p b a.1
abbrev YI:bg:=bh (H.aD 71) "in_cell" 567 566 [S "builder",S "token"] []
theorem YJ:au 567 YI:=au.o2
abbrev JU(p:cu):Lf B (aS×Unit):=cB λa b=>AG p b a.1
theorem YK(P:dI G dp p):bw (λb n=>hp b G n) (dp+21) 385 (λa=>bc 1::Ps.enc (bF ar) a) (JS p):=runN (D:=DB B bb G dp false cv (t4 B bb p)) (d:=20) (λ_=>bo cI (yJ P)) (YF)
theorem YL(P:dI G dp p):bw (λb n=>hp b G n) (dp+21) 483 (λa=>bc 1::Ps.enc (bF ar) a) (JT p):=runN (D:=DB B bb G dp false cv (t4 B bb p)) (d:=20) (λ_=>bo cI (yJ P)) (YH)
theorem YM(P:dI G dp p):bw (λb n=>hp b G n) (dp+21) 567 (λa=>bc 1::Ps.enc (bF ar) a) (JU p):=runN (D:=DB B bb G dp false cv (t4 B bb p)) (d:=20) (λ_=>bo cI (yJ P)) (YJ)
def t5(ρ:Type)(c:Tl B ρ)(p:cu):List (Addr×cA B ρ):=(385,aZ c 0 21 (bF ar) (JS p))::(483,aZ c 0 21 (bF ar) (JT p))::t4 ρ c p
theorem CF(P:dI G dp p):∀e,e∈t5 ρ c p->cU (DB ρ c G dp kp pc tb) r e.1 e.2:=aG (fb (o:=dp) (YK P) (afD _) rfl) (aG (fb (o:=dp) (YL P) (afD _) rfl) (yJ P))
abbrev YN:bg:=bh (H.aD 47) "in_table" 406 405 [S "builder",S "token"] []
theorem YO:au 406 YN:=au.o2
abbrev te(p:cu):Lf B (aS×Unit):=cB λa b=>nE p b a.1
abbrev YQ:bg:=bh (H.aD 60) "in_column_group" 490 489 [S "builder",S "token"] []
theorem YR:au 490 YQ:=au.o2
abbrev JV(p:cu):Lf B (aS×Unit):=cB λa b=>AB p b a.1
theorem JW(P:dI G dp p):bw (λb n=>hp b G n) (dp+22) 406 (λa=>bc 1::Ps.enc (bF ar) a) (te p):=runN (D:=DB B bb G dp false cv (t5 B bb p)) (d:=21) (λ_=>bo cI (CF P)) (YO)
theorem YS(P:dI G dp p):bw (λb n=>hp b G n) (dp+22) 490 (λa=>bc 1::Ps.enc (bF ar) a) (JV p):=runN (D:=DB B bb G dp false cv (t5 B bb p)) (d:=21) (λ_=>bo cI (CF P)) (YR)
def tu(ρ:Type)(c:Tl B ρ)(p:cu):List (Addr×cA B ρ):=(406,aZ c 0 22 (bF ar) (te p))::(921,aZ c 0 7 (bF ar) mN)::[]
theorem JX(P:dI G dp p):∀e,e∈tu ρ c p->cU (DB ρ c G dp kp pc tb) r e.1 e.2:=aG (fb (o:=dp) (JW P) (afD _) rfl) (aG (bx CB rfl) cH)
abbrev JY(p:cu):Lf B (Str×aS×Unit):=⟨B,λa b=>cond (a.1==S "in body") (mN.m (a.2.1,()) b) (cond (a.1==S "in table") ((te p).m (a.2.1,()) b) none),λ_=>.none,λ_ z=>z,some (λa b=>cond (a.1==S "in body") (mN.m (a.2.1,()) b) (cond (a.1==S "in table") ((te p).m (a.2.1,()) b) none)),λg e a z r h=>by obtain rfl:=ack e;exact⟨r,h,rfl⟩⟩
theorem YT(P:dI G dp p):bw (λb n=>hp b G n) (dp+23) 857 (λa=>bc 1::Ps.enc (bN (bF ar)) a) (JY p):=λa b r h Q q n=>by
 obtain⟨md,t,u⟩:=a;refine dE h (λc h=>?_) λ_ h=>?_
 ·replace c:md=S "in body":=afI.mp c;subst c;exact runN (D:=DB B bb G dp false cv (tu B bb p)) (α:=aS) (args:=λt=>[bc 1,.str (S "in body"),b7 t]) (m:=λt b=>mN.m (t,()) b) (d:=22) (λ_=>bo cI (JX P)) yH (λa z=>by kernel_rfl) rfl (λ_=>by kernel_rfl) t b r h Q q n
 refine dE h (λc h=>?_) λ_ h=>?_
 ·replace c:md=S "in table":=afI.mp c;subst c;exact runN (D:=DB B bb G dp false cv (tu B bb p)) (α:=aS) (args:=λt=>[bc 1,.str (S "in table"),b7 t]) (m:=λt b=>(te p).m (t,()) b) (d:=22) (λ_=>bo cI (JX P)) yH (λa z=>by kernel_rfl) rfl (λ_=>by kernel_rfl) t b r h Q q n
 exact ag h
def t6(ρ:Type)(c:Tl B ρ)(p:cu):List (Addr×cA B ρ):=(857,aZ c 0 23 (bN (bF ar)) (JY p))::t5 ρ c p
theorem vE(P:dI G dp p):∀e,e∈t6 ρ c p->cU (DB ρ c G dp kp pc tb) r e.1 e.2:=aG (fb (o:=dp) (YT P) (afD _) rfl) (CF P)
abbrev YU:bg:=bh (H.aD 62) "start_in_body" 504 503 [S "builder",S "token"] []
theorem YV:au 504 YU:=au.o2
abbrev JZ(p:cu):Lf B (aS×Unit):=cB λa b=>FH p b a.1
abbrev YW:bg:=bh (H.aD 63) "end_in_body" 511 510 [S "builder",S "token"] []
theorem YX:au 511 YW:=au.o2
abbrev J0(p:cu):Lf B (aS×Unit):=cB λa b=>FI p b a.1
abbrev YY:bg:=bh (H.aD 66) "start_in_row" 532 531 [S "builder",S "token"] []
theorem YZ:au 532 YY:=au.o2
abbrev J1(p:cu):Lf B (aS×Unit):=cB λa b=>FJ p b a.1
abbrev Y0:bg:=bh (H.aD 67) "end_in_row" 539 538 [S "builder",S "token"] []
theorem Y1:au 539 Y0:=au.o2
abbrev J2(p:cu):Lf B (aS×Unit):=cB λa b=>FK p b a.1
theorem Y2(P:dI G dp p):bw (λb n=>hp b G n) (dp+24) 504 (λa=>bc 1::Ps.enc (bF ar) a) (JZ p):=runN (D:=DB B bb G dp false cv (t6 B bb p)) (d:=23) (λ_=>bo cI (vE P)) (YV)
theorem Y3(P:dI G dp p):bw (λb n=>hp b G n) (dp+24) 511 (λa=>bc 1::Ps.enc (bF ar) a) (J0 p):=runN (D:=DB B bb G dp false cv (t6 B bb p)) (d:=23) (λ_=>bo cI (vE P)) (YX)
theorem Y4(P:dI G dp p):bw (λb n=>hp b G n) (dp+24) 532 (λa=>bc 1::Ps.enc (bF ar) a) (J1 p):=runN (D:=DB B bb G dp false cv (t6 B bb p)) (d:=23) (λ_=>bo cI (vE P)) (YZ)
theorem Y5(P:dI G dp p):bw (λb n=>hp b G n) (dp+24) 539 (λa=>bc 1::Ps.enc (bF ar) a) (J2 p):=runN (D:=DB B bb G dp false cv (t6 B bb p)) (d:=23) (λ_=>bo cI (vE P)) (Y1)
def t7(ρ:Type)(c:Tl B ρ)(p:cu):List (Addr×cA B ρ):=(504,aZ c 0 24 (bF ar) (JZ p))::(511,aZ c 0 24 (bF ar) (J0 p))::(532,aZ c 0 24 (bF ar) (J1 p))::(539,aZ c 0 24 (bF ar) (J2 p))::t6 ρ c p
theorem J3(P:dI G dp p):∀e,e∈t7 ρ c p->cU (DB ρ c G dp kp pc tb) r e.1 e.2:=aG (fb (o:=dp) (Y2 P) (afD _) rfl) (aG (fb (o:=dp) (Y3 P) (afD _) rfl) (aG (fb (o:=dp) (Y4 P) (afD _) rfl) (aG (fb (o:=dp) (Y5 P) (afD _) rfl) (vE P))))
abbrev Y6:bg:=bh (H.aD 64) "in_table_body" 518 517 [S "builder",S "token"] []
theorem Y7:au 518 Y6:=au.of rfl (λS=>all2 λx y=>rfl) (λ_ _ _ _=>.nil) rfl (by kernel_rfl)
abbrev J4(p:cu):Lf B (aS×Unit):=cB λa b=>AD p b a.1
abbrev Y8:bg:=bh (H.aD 68) "in_row" 546 545 [S "builder",S "token"] []
theorem Y9:au 546 Y8:=au.o2
abbrev J5(p:cu):Lf B (aS×Unit):=cB λa b=>AE p b a.1
theorem Za(P:dI G dp p):bw (λb n=>hp b G n) (dp+25) 518 (λa=>bc 1::Ps.enc (bF ar) a) (J4 p):=runN (D:=DB B bb G dp false cv (t7 B bb p)) (d:=24) (λ_=>bo cI (J3 P)) (Y7)
theorem Zb(P:dI G dp p):bw (λb n=>hp b G n) (dp+25) 546 (λa=>bc 1::Ps.enc (bF ar) a) (J5 p):=runN (D:=DB B bb G dp false cv (t7 B bb p)) (d:=24) (λ_=>bo cI (J3 P)) (Y9)
end
def J6:Stmt->Option (Str×Str×List Stmt)
 |.For t i b o _=>cond o.isEmpty ((lY (vw t)).bind λx=>(lY (vw i)).bind λy=>some (x,y,b)) none
 |_=>none
theorem Zc(h:J6 s=some q):∃xp yp pos,s=.For (.Name q.1 xp) (.Name q.2.1 yp) q.2.2 [] pos:=by
 induction s using Stmt.casesOn with
 |For t i b o p=>
  refine cE h λho h=>bE h λx h1 h=>bE h λy h2 h5=>?_;obtain⟨p1,rfl⟩:=mI h1;obtain⟨p2,rfl⟩:=mI h2;induction o with
  |cons=>cases ho
  |nil=>exact sE (X:=λq:Str×Str×List Stmt=>∃xp yp pos,Stmt.For (.Name x p1) (.Name y p2) b [] p=.For (.Name q.1 xp) (.Name q.2.1 yp) q.2.2 [] pos) h5 ⟨_,_,_,rfl⟩
 |_=>exact ag h
section
variable{Z:Type}{d:Nat}{f:aV}{m:Lo}
theorem Ex.sS{D:Dm Z (Fl×Lo×Z)}(O:∀r,iL D r){s:Stmt}{x y:Str}{body:List Stmt}{Q:Fl->Lo->AH->Prop}
  (hs:J6 s=some (x,y,body))(hx:(iJ f x&&iJ f y)=true){v:U}(hv:m.lookup y=some v)(I:Nat->Lo->Z->Prop){z0:Z}{xs:List U}
  (h0:I 0 m z0)(it:∀i m z,I i m z->∀n',eF (D.hz z n') v xs)
  (turn:∀i y m z,I i m z->xs[i]?=some y->∃mc r,b8 mc ((x,y)::m)/\(ms D 50).L d f mc body z false (λfl m z=>some (fl,m,z))=some r/\(match r.1 with
   |.next|.cont=>I (i+1) r.2.1 r.2.2
   |.brk=>∀n',Q .next r.2.1 (D.hz r.2.2 n')
   |.ret v=>∀n',Q (.ret v) r.2.1 (D.hz r.2.2 n')))
  (done:∀m z,I xs.length m z->∀n',Q .next m (D.hz z n'))(n:Nat):dD (D.o+d) f m (D.hz z0 n) s Q:=by
 refine cps λG k=>?_;obtain⟨xp,yp,pos,e⟩:=Zc hs;refine k ?_;rw[e];rw[afz]at hx;refine Ex.forIn (c9 hx.1) (λi m' H'=>∃z' n',H'=D.hz z' n'/\I i m' z') xs (Ev.local (.of hv) (c9 hx.2) ⟨⟨z0,n,rfl,h0⟩,λi m' H' i1=>cQ i1 λz' n' e i1=>e▸it _ _ _ i1 n'⟩) (λi y m' H' i1 hy=>?_) (λm' H' i1=>?_)
 ·obtain⟨z',n',rfl,i1⟩:=i1;refine cps λG k=>?_;obtain⟨mc,r,l,e,t⟩:=turn _ _ _ _ i1 hy;refine k ?_;refine Ex.sub l ((lj (O _) 50).L _ _ _ _ _ _ _ e (λe=>nomatch e) _ (λfl m2 z2 n2 h=>?_) n');have h:=ack h;subst h;induction fl with
  |next=>exact⟨_,_,rfl,t⟩
  |cont=>exact⟨_,_,rfl,t⟩
  |brk=>exact t n2
  |ret v=>exact t n2
 ·obtain⟨z',n',rfl,i1⟩:=i1;exact Ex.nil (done _ _ i1 n')
end
def mO(ρ:Type)(c:Tl B ρ):List (Addr×cA B ρ):=(99,aZ c 0 4 (bN ar) Cr)::(343,aZ c 0 9 (bF ar) CC)::[]
section
variable{G:AH}
theorem vG:∀e,e∈mO ρ c->cU (DB ρ c G o kp pc tb) r e.1 e.2:=aG (bx Jl rfl) (aG (bx JK rfl) cH)
end
abbrev hC:bg:=bh (H.aD 48) "flush_pending" 413 412 [S "builder"] []
theorem Zd:au 413 hC:=au.o1
abbrev J7:Lf B Unit:=cB λ_ b=>uH b
abbrev CG(k:Nat):Lo:=[(S "pending",.ae (.bW k)),(S "builder",.ae .bP)]
abbrev i7(k:Nat)(c:Bool):Lo:=(S "is_blank",.bool c)::CG k
theorem J8(b:B)(k:Nat)(c:Bool)(x:Str):(ms (DB (Fl×Lo×B) ay G 0 true cv (mO (Fl×Lo×B) ay)) 50).L 9 hC.cD ((S "each",b7 (iG x))::i7 k c) (eI (aB hC.body 3)) b false (λfl m z=>some (fl,m,z))=
  if !(fA x) then some (.next,(S "is_blank",.bool false)::(S "each",b7 (iG x))::i7 k c,b)else some (.next,(S "each",b7 (iG x))::i7 k c,b):=by kernel_rfl
theorem Ze(b:B)(k:Nat)(x:Str):(ms (DB (Fl×Lo×B) ay G 0 true cv (mO (Fl×Lo×B) ay)) 50).L 9 hC.cD ((S "each",b7 (iG x))::i7 k true) (eI (aB hC.body 4)) b false (λfl m z=>some (fl,m,z))=
  (jk b x).bind λb=>some (.next,(S "each",b7 (iG x))::i7 k true,b):=by kernel_rfl
theorem Zf(b:B)(k:Nat)(x:Str):(ms (DB (Fl×Lo×B) ay G 0 true cv (mO (Fl×Lo×B) ay)) 50).L 9 hC.cD ((S "each",b7 (iG x))::i7 k false) (eI (aB hC.body 4)) b false (λfl m z=>some (fl,m,z))=
  (nC b (iG x)).bind λb=>some (.next,(S "each",b7 (iG x))::i7 k false,b):=by kernel_rfl
section
variable{G:AH}
theorem J9{b1 b':B}{k n:Nat}{c:Bool}{xs:List Str}{F:List Str->B->Option B}{g:B->Str->Option B}(hF:∀b,F [] b=some b)(hG:∀x r b,F (x::r) b=(g b x).bind (F r))(hK:∀{b x b2},g b x=some b2->Keeps b b2)
  (it:∀b x,(ms (DB (Fl×Lo×B) ay G 0 true cv (mO (Fl×Lo×B) ay)) 50).L 9 hC.cD ((S "each",b7 (iG x))::i7 k c) (eI (aB hC.body 4)) b false (λfl m z=>some (fl,m,z))=(g b x).bind λb=>some (.next,(S "each",b7 (iG x))::i7 k c,b))
  (hk:b1.pk=k+1/\b1.old=some xs)(h:F xs b1=some b'){m:Lo}(l:b8 (i7 k c) m){Q:Fl->Lo->AH->Prop}(q:∀m n,Q .next m (hp b' G n)):dD 9 hC.cD m (hp b1 G n) (aB hC.body 4) Q:=by
 refine Ex.sS (D:=(DB (Fl×Lo×B) ay G 0 true cv (mO (Fl×Lo×B) ay))) (d:=9) (x:=S "each") (y:=S "pending") (body:=eI (aB hC.body 4)) (v:=.ae (.bW k)) (xs:=xs.map ia) (λ_=>bo cI vG) rfl rfl (l _ _ rfl) (λi m z=>Keeps b1 z/\F (xs.drop i) z=some b'/\b8 (i7 k c) m) ⟨.refl,h,l⟩ (λi m z I n'=>.list (HH (I.1.1.trans hk.1) (I.1.2.trans hk.2))) (λi y m z I e=>?_) (λm z I n'=>?_) n
 ·refine dR I λK h l=>?_;refine ao (HI e) λx e1 aP=>?_;subst aP;rw[AR e1,hG]at h;refine bE h λb2 h2 h=>⟨_,(.next,(S "each",b7 (iG x))::i7 k c,b2),l.both,(it z x).trans (by rw[h2];rfl),K.trans (hK h2),h,.cons (.refl _) rfl⟩
 ·have h:=I.2.1;rw[afA,List.drop_length,hF]at h;have h:=ack h;subst h;exact q _ _
theorem Zg:bw (λb n=>hp b G n) 10 413 (λa=>bc 1::Ps.enc ar a) J7:=λa b r h Q q n=>cF h λok h=>by
 refine Zd 9 _ _ _ rfl (show bR 9 hC.cD [(S "builder",.ae .bP)] (hp b G n) [aB hC.body 0,aB hC.body 1,aB hC.body 2,aB hC.body 3,aB hC.body 4] _ from Ex.step (D:=(DB (Lo×B) ay G 0 true cv (mO (Lo×B) ay))) (d:=9) (m1:=CG b.pk) (z1:=b) (λ_=>bo cI vG) rfl (λn=>Ex.step (D:=(DB (Lo×B) ay G 0 true cv (mO (Lo×B) ay))) (d:=9) (m1:=CG b.pk) (z1:={b with aQ:=[],pk:=b.pk+1,old:=some b.aQ}) (λ_=>bo cI vG) rfl (λn=>Ex.step (D:=(DB (Lo×B) ay G 0 true cv (mO (Lo×B) ay))) (d:=9) (m1:=i7 b.pk true) (z1:={b with aQ:=[],pk:=b.pk+1,old:=some b.aQ}) (λ_=>bo cI vG) rfl (λn=>Ex.cons (Ex.sS (D:=(DB (Fl×Lo×B) ay G 0 true cv (mO (Fl×Lo×B) ay))) (d:=9) (x:=S "each") (y:=S "pending") (body:=eI (aB hC.body 3)) (v:=.ae (.bW b.pk)) (xs:=b.aQ.map ia) (λ_=>bo cI vG) rfl rfl rfl
  (λi m z=>z={b with aQ:=[],pk:=b.pk+1,old:=some b.aQ}/\b8 (i7 b.pk ((b.aQ.take i).all fA)) m) ⟨rfl,.refl _⟩ (λi m z I n'=>?_) (λi y m z I e=>?_) (λm z I n'=>?_) n)) n) n) n)
 ·obtain⟨rfl,_⟩:=I;exact .list (HH rfl rfl)
 ·obtain⟨rfl,l⟩:=I;obtain⟨x,e1,rfl⟩:=HI e;rw[UJ e1];cases c:fA x with
  |false=>exact⟨_,(.next,(S "is_blank",.bool false)::(S "each",b7 (iG x))::i7 b.pk ((b.aQ.take i).all fA),_),l.both,(J8 _ _ _ _).trans (by rw[c];rfl),rfl,by rw[ag5];exact .both (.cons (.cons (.refl _) rfl) rfl)⟩
  |true=>exact⟨_,(.next,(S "each",b7 (iG x))::i7 b.pk ((b.aQ.take i).all fA),_),l.both,(J8 _ _ _ _).trans (by rw[c];rfl),rfl,by rw[Bool.and_true];exact .cons (.refl _) rfl⟩
 ·obtain⟨rfl,l⟩:=I;rw[afA,List.take_length]at l;refine Ex.cons (iE h (λc h=>?_) λc h=>?_)<;>rw[c]at l
  ·exact J9 (F:=xd) (g:=jk) (λ_=>rfl) (λ_ _ _=>rfl) HG (λb x=>Ze b _ x) ⟨rfl,rfl⟩ h l λm n=>Ex.nil ⟨_,.refl _,q n⟩
  ·exact J9 (F:=xe) (g:=λb x=>nC b (iG x)) (λ_=>rfl) (λ_ _ _=>rfl) UI (λb x=>Zf b _ x) ⟨rfl,rfl⟩ h l λm n=>Ex.nil ⟨_,.refl _,q n⟩
def Ka(ρ:Type)(c:Tl B ρ)(p:cu):List (Addr×cA B ρ):=(413,aZ c 0 10 ar J7)::(864,aZ c 0 0 (bF ar) (yI p))::(843,aZ c 0 1 (bN ar) yo)::(850,aZ c 0 1 (bN ar) vt)::[]
theorem Zh(P:dI G dp p):∀e,e∈Ka ρ c p->cU (DB ρ c G dp kp pc tb) r e.1 e.2:=aG (bx Zg rfl) (aG (fb (o:=dp) (CE P) (afD _) rfl) (aG (bx Cc rfl) (aG (bx yq rfl) cH)))
abbrev Kb(p:cu):Lf B (aS×Unit):=cB λa b=>qt p b a.1
abbrev Zi:bg:=bh (H.aD 49) "in_table_text" 420 419 [S "builder",S "token"] []
theorem Zj:au 420 Zi:=au.o2
def Kc(p:cu)(b:B)(t:aS):Option B:=if t.kind !=S "char" then(uH b).bind λb1=>p (b1.to b1.original) t
 else if t.name==S "\x00" then fz b (S "unexpected-null-character")
 else cond (Nat.beq b.pk b.pk) (cond (Nat.beq b.pk b.pk) (if aC b.aQ.length then cond (t.kind==S "char"&&t.rest.isEmpty) (some {b with aQ:=b.aQ++[t.name]}) none else none) none) none
theorem Zk(h:qt p b t=some b'):Kc p b t=some b':=by refine iE h (λc h=>(rT c).trans h) λc h=>(rF c).trans ?_;refine iE h (λc h=>(rT c).trans h) λc2 h=>(rF c2).trans ?_;rw[agC];refine cF h λok h=>(if_pos ok.1).trans ?_;rw[ok.2,UK (x:=t.kind) (y:=S "char") (by exact c▸Bool.false_ne_true)];exact h
theorem Zl(P:dI G dp p):bw (λb n=>hp b G n) (dp+20) 420 (λa=>bc 1::Ps.enc (bF ar) a) (Kb p):=λa b r h Q q n=>runN (D:=DB B bb G dp false cv (Ka B bb p)) (α:=aS×Unit) (args:=λa=>bc 1::Ps.enc (bF ar) a) (m:=λa b=>Kc p b a.1) (d:=19) (λ_=>bo cI (Zh P)) Zj (λa z=>by kernel_rfl) rfl (λ_=>by kernel_rfl) a b r (Zk (show qt p b a.1=some r from h)) Q q n
end
theorem oB(f:α->Option β)(e:o=some v):o.bind f=f v:=by rw[e];rfl
theorem iF(x y:α)(e:c=false):(if c=true then x else y)=y:=by rw[e];rfl
theorem iT(x y:α)(e:c=true):(if c=true then x else y)=x:=by rw[e];rfl
theorem Ok.gh(O:Ok b N)(h:b.stack=xs++ys):Ok {b with stack:=xs} N:=O.same rfl ⟨ys,h.symm⟩ O.ze O.zp (afD _)
theorem CH(O:Ok b N)(hN:N<=800000)(x:Str):fz b x=some {b with aK:=b.aK++[(x,b.mode)]}:=if_pos (dg (by have:=O.ze;exact bt (ads this hN)))
theorem CI(O:Ok b N)(hN:N<=800000)(pk rk:Nat)(old:Option (List Str))(x mode:Str):dj (aE b pk rk old) x mode=some (aE {b with aK:=b.aK++[(x,mode)]} pk rk old):=if_pos (dg (by have:=O.ze;show b.aK.length<=_;exact bt (ads this hN)))
theorem Ke{P:List Int->Prop}(h0:P [])(h1:∀l k,P l->P (l++[k]))(l:List Int):P l:=by
 have:∀l:List Int,P l.reverse:=λl=>by
  induction l with
  |nil=>exact h0
  |cons a r ih=>rw[agT];exact h1 _ _ ih
 rw[<-List.reverse_reverse l];exact this _
theorem Kf(hN:N<=800000)(O:Ok b N){st:List Int}(h:b.stack=st++[k])(hk:aw names (aH b k)=true)(f:Nat):ji names (f+1) b=some (k,{b with stack:=st}):=
 (oB _ (mD O hN h)).trans ((oB _ (sM h (by have:=O.zs;exact bt (ads this hN)))).trans (iT _ _ hk))
theorem Kg(hN:N<=800000){st:List Int}(f:Nat)(top:List Int):∀b,Ok b N->b.stack=st++top->(∀k∈top,aw names (aH b k)=false)->ji names (top.length+f) b=ji names f {b with stack:=st}:=
 Ke (P:=λtop=>∀b,Ok b N->b.stack=st++top->(∀k∈top,aw names (aH b k)=false)->ji names (top.length+f) b=ji names f {b with stack:=st})
  (λb O h _=>by rw[afU]at h;rw[<-h,List.length_nil,Nat.zero_add])
  (λl k ih b O h ht=>by
   rw[<-afJ]at h;rw[afC,afW,Nat.add_right_comm];exact(oB _ (mD O hN h)).trans ((oB _ (sM h (by have:=O.zs;exact bt (ads ‹_› ‹_›)))).trans ((iF _ _ (ht k (afL.mpr (.inr (.head _))))).trans (ih {b with stack:=st++l} (O.gh h) rfl λk hk=>ht k (afL.mpr (.inl hk)))))) top
theorem Zm(hN:N<=800000)(O:Ok b N){st:List Int}(h:b.stack=st++[k])(hs:st≠[])(hk:aw names (aH b k)=true)(f:Nat):jj names (f+1) b=some b:=
 (iT _ _ (aga (by rw[h,afC,afW];have:=List.length_pos_iff.mpr hs;lia))).trans ((oB _ (mD O hN h)).trans (iF _ _ (hk▸rfl)))
theorem Zn(hN:N<=800000){st:List Int}(hs:st≠[])(f:Nat)(top:List Int):∀b,Ok b N->b.stack=st++top->(∀k∈top,aw names (aH b k)=false)->jj names (top.length+f) b=jj names f {b with stack:=st}:=
 Ke (P:=λtop=>∀b,Ok b N->b.stack=st++top->(∀k∈top,aw names (aH b k)=false)->jj names (top.length+f) b=jj names f {b with stack:=st})
  (λb O h _=>by rw[afU]at h;rw[<-h,List.length_nil,Nat.zero_add])
  (λl k ih b O h ht=>by
   rw[<-afJ]at h;rw[afC,afW,Nat.add_right_comm];exact(iT _ _ (aga (by rw[h,afC,afC,afW];have:=List.length_pos_iff.mpr hs;omega))).trans ((oB _ (mD O hN h)).trans ((iT _ _ (by rw[ht k (afL.mpr (.inr (.head _)))];rfl)).trans ((oB _ (sM h (by have:=O.zs;lia))).trans (ih {b with stack:=st++l} (O.gh h) rfl λk hk=>ht k (afL.mpr (.inl hk))))))) top
theorem Zo{st:List Int}{c:Int}{N:Nat}(hN:N<=800000)(f:Nat)(top:List Int)(b:B)(O:Ok b N)(h:b.stack=(st++[c])++top)(ht:∀k∈top,aw names (aH b k)=false)(hc:aw names (aH b c)=true)(hf:f=top.length+1+st.length):ji names f b=some (c,{b with stack:=st}):=by rw[hf,Nat.add_assoc,ag0 1,Kg hN _ top b O h ht];exact Kf hN (O.gh h) rfl hc _
def yK:List Str:=[S "html",S "table",S "template"]
theorem Zp(O:Ok b N)(hN:N<=800000):∀top:List Int,(∀k∈top,k∈b.stack)->(∀k∈top,aH b k∉names)->(∀k∈top,aH b k∉yK)->nB b names (top++r)=nB b names r:=λkK=>by
 induction kK with
 |nil=>exact λ_ _ _=>rfl
 |cons k t ih=>
  rintro h0 h1 h2;refine gN (nN O hN (h0 k (.head _))) λi x _ _ e _ e2=>?_;refine(oB _ e).trans ?_;rw[e2];refine(iF _ _ (iY.mpr (h1 k (by simp)))).trans ?_;refine(iF _ _ (iY.mpr (h2 k (by simp)))).trans ?_;exact ih (λk hk=>h0 k (by simp[hk])) (λk hk=>h1 k (by simp[hk])) (λk hk=>h2 k (by simp[hk]))
theorem Zq:S "a"∉jP:=by unfold jP;simp[Bp]
theorem Zr:S "p"∈jP:=by unfold jP;simp
theorem Zs{st:List Int}{N:Nat}(hN:N<=800000):∀(f:Nat) (is:List Int) (b:B),Ok b N->b.stack=(st++[c])++is->ap (is.map (aH b))->aH b c∉jP->is.length<f->
  ∃i8,uC f b=some {b with stack:=(st++[c])++i8}/\i8<+:is/\((i8=[]/\S "a"∉is.map (aH b))\/(∃js k,i8=js++[k]/\aH b k=S "a"/\S "a"∈is.map (aH b))):=λkK=>by
 induction kK with
 |zero=>exact λ_ _ _ _ _ _ h=>absurd h (Nat.not_lt_zero _)
 |succ f ih=>
  rintro is b O h ha hc hf;rcases agi is with q|⟨i8,k,q⟩
  ·subst q;rw[afU]at h;refine⟨[],?_,afV _,.inl ⟨rfl,by simp⟩⟩;refine(oB _ (mD O hN h)).trans ?_;refine(iF _ _ (iY.mpr hc)).trans ?_;rw[afU,<-h]
  ·rw[ags]at q;subst q;have h':b.stack=(st++[c]++i8)++[k]:=by rw[h];simp
   rw[afR,ve]at ha;rcases ha.2 (aH b k) (.head _)with e|e
   ·refine⟨i8++[k],?_,afV _,.inr ⟨i8,k,rfl,e,by simp[e]⟩⟩;refine(oB _ (mD O hN h')).trans ?_;rw[e];refine(iF _ _ (iY.mpr Zq)).trans ?_;rw[<-afJ,<-h']
   ·refine cN (ih i8 {b with stack:=st++[c]++i8} (O.gh h') rfl ha.1 hc (by simp at hf;omega)) λZt e1 e2 e3=>?_;refine⟨Zt,?_,e2.trans (List.prefix_append _ _),?_⟩
    ·refine(oB _ (mD O hN h')).trans ?_;rw[e];refine(iT _ _ (km.mpr Zr)).trans ?_;refine(iT _ _ (by rw[bne,u9];decide)).trans ?_;refine(oB _ (sM h' (by have:=O.zs;lia))).trans ?_;exact e1
    ·have e5:S "a"∈(i8++[k]).map (aH b)↔S "a"∈i8.map (aH b):=by
      rw[afR,afL];constructor
      ·rintro (q|q)
       ·exact q
       ·simp at q;rw[e]at q;exact absurd (sJ q) (by decide)
      ·exact .inl
     rcases e3 with⟨q1,q2⟩|⟨js,k',q1,q2,q3⟩
     ·exact .inl ⟨q1,λq=>q2 (e5.mp q)⟩
     ·exact .inr ⟨js,k',q1,q2,e5.mpr q3⟩
theorem Zu{b:B}{N:Nat}(O:Ok b N)(Zv:N<=700000){st:List Int}(h:b.stack=(st++[c])++is)(ha:ap (is.map (aH b)))(hc:aw names (aH b c)=true)(CJ:aH b c∉jP)(Kh:aw names (S "a")=false)(Zw:aw names (S "p")=false)
  (hm:b.bJ=mz++[-1])(hz:b.bJ.length<=900000):
  lN b names mode=some {b with stack:=st,bJ:=mz,aK:=b.aK++(if S "a"∈is.map (aH b)then[(S "open-elements",b.mode)]else[]),mode:=mode}:=by
 have hN:N<=800000:=by exact ads ‹_› (by decide)
 refine cN (Zs hN b.stack.length is b O h ha CJ (by rw[h];simp;exact ago _ _)) λi8 e1 e2 e3=>?_;refine(oB _ e1).trans ?_;refine aI e2 λr hr=>?_;have O1:Ok {b with stack:=(st++[c])++i8} N:=O.gh (ys:=r) (by rw[h,<-hr];simp);have clear:∀b2:B,b2.bJ=b.bJ->sd {b2 with stack:=st}=some {b2 with stack:=st,bJ:=mz}:=λb2 e=>by
  delta sd gb;dsimp only;rw[e,hm];refine(oB (v:=((-1:Int),mz)) _ ?_).trans ?_
  ·simp only[List.getLast?_append,List.getLast?_singleton,Option.some_or,Option.bind_some,List.dropLast_concat];exact hm▸if_pos (dg hz)
  ·exact iT _ _ rfl
 have fin:∀(b2:B) (N2:Nat),N2<=800000->Ok b2 N2->b2.stack=(st++[c])++i8->b2.aa=b.aa->b2.bJ=b.bJ->
   ((ji names b2.stack.length b2).bind λr=>(sd r.2).bind λb3=>some (b3.to mode))=some {b2 with stack:=st,bJ:=mz,mode:=mode}:=λb2 N2 Zx O2 s2 n2 m2=>by
  have u:=Zo (names:=names) (st:=st) (c:=c) Zx b2.stack.length i8 b2 O2 s2 (λk hk=>by
   rw[vd n2];have jA:aH b k∈is.map (aH b):=by rw[<-hr];simp;exact .inl ⟨k,hk,rfl⟩
   rcases ha _ jA with e|e<;>rw[e]
   ·exact Kh
   ·exact Zw) (by rw[vd n2];exact hc) (by rw[s2];simp;exact(ag0 _ _))
  refine(oB _ u).trans ?_;refine(oB _ (clear b2 m2)).trans ?_;rfl
 rcases e3 with⟨q1,q2⟩|⟨js,k,q1,q2,q3⟩
 ·subst q1;rw[afU]at*;refine(oB _ (mD O1 hN (st:=st) (k:=c) rfl)).trans ?_;have e9:aH {b with stack:=st++[c]} c=aH b c:=rfl;rw[e9];refine(oB (v:=({b with stack:=st++[c]}:B)) _ (iF _ _ (afE _ hc))).trans ?_;refine(fin {b with stack:=st++[c]} N hN O1 rfl rfl rfl).trans ?_;rw[if_neg q2];simp
 ·subst q1;have es:({b with stack:=(st++[c])++(js++[k])}:B).stack=(st++[c]++js)++[k]:=by simp
  refine(oB _ (mD O1 hN es)).trans ?_;have e9:aH {b with stack:=(st++[c])++(js++[k])} k=S "a":=q2;rw[e9];have ee:=CH O1 hN (S "open-elements");refine(oB _ ((iT _ _ (Kh▸rfl)).trans ee)).trans ?_;have O2:Ok {b with stack:=(st++[c])++(js++[k]),aK:=b.aK++[(S "open-elements",b.mode)]} (N+1):=
   O1.same rfl (afV _) (by have:=O.ze;simp;exact this) (by have:=O.zp;show b.aQ.length<=_;exact Nat.le_succ_of_le this) (agt _)
  refine(fin _ (N+1) (by exact bt (af9 Zv)) O2 rfl rfl rfl).trans ?_;rw[if_pos q3]
def tg:List Str->Option Str
 |[]=>none
 |[_]=>none
 |x::y::r=>if x==S "select" then none else if x==S "template" then none else if x==S "html" then none else if kg x==S "" then tg (y::r)else some (kg x)
theorem Ki(O:Ok b N)(hN:N<=800000):∀l:List Int,(∀k∈l,k∈b.stack)->xa b l=tg (l.map (aH b))
 |[],_=>rfl
 |[_],_=>rfl
 |k::k2::r,h=>by refine gN (nN O hN (h k (.head _))) λi x _ _ e _ e2=>?_;refine(oB _ e).trans ?_;rw[e2,Ki O hN (k2::r) λk hk=>h k (.tail _ hk)];rfl
theorem Kj:∀l:List Str,ap l->tg (l++y::r)=tg (y::r):=λkK=>by
 induction kK with
 |nil=>exact λ_=>rfl
 |cons x l ih=>
  rintro h;rw[<-ih λz hz=>h z (.tail _ hz)];obtain⟨k3,r3,e3⟩:∃k3 r3,l++y::r=k3::r3:=by induction l<;>exact⟨_,_,rfl⟩
  rw[agV,e3];rcases h x (.head _)with q|q<;>rw[q]<;>rfl
def CK(p:List Str×Str):Bool:=match p.1.reverse with
 |c::_=>!(c==S "select")&&(!(c==S "template")&&(!(c==S "html")&&(!(kg c==S "")&&kg c==p.2)))
 |[]=>false
theorem Zy:nO.all CK=true:=rfl
theorem Zz(h:CK (ps,m)=true):tg (ps.reverse++y::r)=some m:=by
 unfold CK at h;dsimp only at h;cases e:ps.reverse with
 |nil=>replace h:=e▸h;cases h
 |cons c q=>
  rw[e]at h;simp only[Bool.and_eq_true,Bool.not_eq_true']at h;refine wI h λh1 h2 h3 h4 h5=>?_;obtain⟨k3,r3,e3⟩:∃k3 r3,q++y::r=k3::r3:=by induction q<;>exact⟨_,_,rfl⟩
  rw[agV,e3];exact(iF _ _ h1).trans ((iF _ _ h2).trans ((iF _ _ h3).trans ((iF _ _ h4).trans (afE some (afI.mp h5)))))
theorem dX.yB(h:dX ns m):tg ns.reverse=some m:=by
 induction h with
 |@base inl ha=>rw[agT,agT,afJ];exact(Kj inl.reverse λx hx=>ha x (ahb.mp hx)).trans rfl
 |@tab pre aR inl _ _ h hp ha=>
  rw[List.reverse_append,agT,List.reverse_append,afJ,afJ];obtain⟨k3,r3,e3⟩:∃k3 r3,aR.reverse++([S "table"]++pre.reverse)=k3::r3:=by cases aR.reverse<;>exact⟨_,_,rfl⟩
  rw[e3,Kj _ λx hx=>ha x (ahb.mp hx),<-e3];exact Zz (eW Zy hp)
theorem ZA(O:Ok b N)(hN:N<=800000)(h:dX (b.stack.map (aH b)) m):se b=some (b.to m):=by unfold se;rw[if_pos (dg (by have:=O.zs;exact bt (ads this hN))),Ki O hN _ λk hk=>ahb.mp hk,List.map_reverse,h.yB];rfl
theorem CL{l:List α}(h:l.map f=a++b):∃l1 l2,l=l1++l2/\l1.map f=a/\l2.map f=b:=List.map_eq_append_iff.mp h
theorem l6(h:l.map f=a::b):∃x r,l=x::r/\f x=a/\r.map f=b:=List.map_eq_cons_iff.mp h
noncomputable def ip (b:B):Nat:=(b.stack.getLast?.getD 0).toNat
def gx(b:B):Nd:=(b.aa[ip b]?).getD (gU (S "") [])
def Kk(b:B)(name:Str)(aX:List U):B:=iI b (ip b) (gx b) (gx b).af.length name aX
def putL(b:B)(s:Str):B:=fU b (ip b) (gx b) (gx b).af.length s
def dQ(b:B)(u:Int):Nd:=(b.aa[u.toNat]?).getD (gU (S "") [])
def Kl(b:B)(u:Int)(name:Str)(aX:List U):B:=iI b u.toNat (dQ b u) ((dQ b u).af.length-1) name aX
def gI(b:B)(u:Int)(s:Str):B:=fU b u.toNat (dQ b u) ((dQ b u).af.length-1) s
theorem j5(O:Ok b N){st:List Int}(h:b.stack=st++[k]):k=(ip b:Int)/\k8 b (ip b) (gx b) (-1) (gx b).af.length:=by
 refine ed (O.el k (by rw[h];simp)) λi x h1 h2 h3 h4=>?_;have e:ip b=i:=by unfold ip;rw[h,h1];simp
 have e2:gx b=x:=by unfold gx;rw[e,h2];rfl
 refine⟨by rw[h1,e],by rw[e,e2];exact h2,by exact e2▸h3,.inl ⟨rfl,rfl⟩⟩
theorem Km{b:B}(h:b.stack≠[]):∃st k,b.stack=st++[k]:=by
 rcases agi b.stack with q|⟨st,k,q⟩
 ·exact(h q).elim
 ·exact⟨st,k,by rw[q,ags]⟩
theorem Kn(O:Ok b N)(hN:N<=800000){st:List Int}(h:b.stack=st++[k])(hf:b.dO=false\/aH b k∉gD):kf b=some ((ip b:Int),-1):=by
 have e:=(j5 O h).1;refine gN (nN O hN (k:=k) (by rw[h];simp)) λi x _ _ e1 _ e2=>?_;refine(oB _ (xK h (by have:=O.zs;exact bt (ads this hN)))).trans ?_;refine(oB _ e1).trans ?_;rw[<-e];refine Or.elim hf (λhf=>?_) λhf=>?_
 ·exact iF _ _ hf
 ·cases q:b.dO with
  |false=>exact iF _ _ rfl
  |true=>
   refine(iT _ _ rfl).trans ?_;exact e2▸iF _ _ (iY.mpr hf)
theorem yL(O:Ok b N){k9:List Int}(h:b.stack=k9++[k]):∀st u t r,b.stack=st++u::t::r->aH b t=S "table"->u=(ip b:Int)->(-1:Int)=t:=λst u t r e _ eu=>by have:=Tv O e h;have e1:=(j5 O h).1;lia
theorem ZC(O:Ok b N)(hN:N<=800000)(h:b.stack≠[])(pk rk:Nat)(old:Option (List Str)){name:Str}(ha:aX.length<=1000):fT (aE b pk rk old) name aX=some (aE (Kk b name aX) pk rk old):=by
 refine fX (Km h) λst k h=>?_;refine aU (j5 O h) λe P=>?_;have e0:(aE b pk rk old).path.getLast?=some (ip b:Int):=by show b.stack.getLast?=_;rw[h,<-e];simp
 refine(oB _ e0).trans ?_;refine(oB _ (qM O hN pk rk old P.get P.kind)).trans ?_;exact GU O hN pk rk old ha P.get P.kind P.le
theorem Ko(O:Ok b N)(hN:N<=800000){st:List Int}(h:b.stack=st++[k])(hf:b.dO=false\/aH b k∉gD)(hs:s.length<=1):jk b s=some (putL b s):=
 GO O hN (j5 O h).2 hs (Kn O hN h hf)
theorem yM(O:Ok b N)(hN:N<=800000){st:List Int}(h:b.stack=st++[k])(pk rk:Nat)(old:Option (List Str))(hs:s.length<=1):
  (aE b pk rk old).path.getLast?=some (ip b:Int)/\c6 (aE b pk rk old) (ip b)=some (dw (gx b))/\gw (aE b pk rk old) (ip b) (gx b).af.length s=some (aE (putL b s) pk rk old):=by
 refine aU (j5 O h) λe P=>?_;exact⟨by show b.stack.getLast?=_;rw[h,<-e];simp,qM O hN pk rk old P.get P.kind,GS O hN pk rk old hs P.get P.kind P.le⟩
theorem Ok.putL(O:Ok b N)(h:b.stack≠[]){s:Str}(hs:s.length<=1)(hM:N+1<=M):Ok (putL b s) M:=by refine fX (Km h) λst k h=>?_;exact O.fU hs (j5 O h).2 (yL O h) hM
theorem nZ(O:Ok b N){st:List Int}(h:b.stack=st++u::t::r)(ht:aH b t=S "table"):u=((u.toNat:Nat):Int)/\k8 b u.toNat (dQ b u) t ((dQ b u).af.length-1)/\0<(dQ b u).af.length:=by
 refine ef (O.tab st u t r h ht) λi x ks h1 h2 h3=>?_;refine ed (O.el u (by rw[h];simp)) λj y g1 g2 g3 g4=>?_;have:i=j:=by exact Int.ofNat_inj.mp (h1.symm.trans g1)
 subst this;rw[h2]at g2;obtain rfl:=ack g2;have e:u.toNat=i:=by exact afE _ g1
 have e2:dQ b u=x:=by unfold dQ;rw[e,h2];rfl
 refine cQ (O.el t (by rw[h];simp)) λj y g1 _=>?_;rw[e,e2];refine⟨h1,⟨h2,g3,.inr ⟨ks,by lia,h3,by rw[h3];simp⟩⟩,by rw[h3];simp⟩
theorem CM(O:Ok b N){st:List Int}(h:b.stack=st++u::t::r)(ht:aH b t=S "table"):∀k9 u' t' r',b.stack=k9++u'::t'::r'->aH b t'=S "table"->u'=((u.toNat:Nat):Int)->t=t':=λk9 u' t' r' e qN eu=>by
 refine ef (O.tab st u t r h ht) λi x ks h1 h2 h3=>?_;refine ef (O.tab k9 u' t' r' e qN) λi' x' GV Kp vH ZD=>?_;have:i=i':=by lia
 subst this;rw[h2]at vH;obtain rfl:=ack vH;have:=h3.symm.trans ZD;have:=ag9 this rfl;simpa using this.2
theorem ZE(O:Ok b N)(hN:N<=800000):∀top:List Int,(∀k∈top,k∈b.stack)->(∀k∈top,aH b k≠S "table"/\aH b k≠S "template")->uE b (top++k2::r)=uE b (k2::r):=λkK=>by
 induction kK with
 |nil=>exact λ_ _=>rfl
 |cons k t ih=>
  rintro h0 h1;refine gN (nN O hN (h0 k (.head _))) λi x _ _ e _ e2=>?_;have ih:=ih (λk hk=>h0 k (by simp[hk])) (λy hy=>h1 y (by simp[hy]));obtain⟨k3,r3,e3⟩:∃k3 r3,t++k2::r=k3::r3:=by induction t<;>exact⟨_,_,rfl⟩
  rw[agV,<-ih,e3];refine aU (h1 k (.head _)) λq1 q2=>?_;refine(oB _ e).trans ?_;rw[e2];refine(iF _ _ (afK.mpr q1)).trans ?_;exact iF _ _ (afK.mpr q2)
theorem Kq(O:Ok b N)(hN:N<=800000){st:List Int}(h:b.stack=st++u::t::r)(ht:aH b t=S "table")(hr:∀k∈r,aH b k≠S "table"/\aH b k≠S "template")(hf:b.dO=true)(hk:b.stack=k9++[k])(ZF:aH b k∈gD):
  kf b=some (((u.toNat:Nat):Int),t):=by
 refine gN (nN O hN (k:=k) (by rw[hk];simp)) λi x _ _ e1 _ e2=>?_;refine(oB _ (xK hk (by have:=O.zs;exact bt (ads this hN)))).trans ?_;refine(oB _ e1).trans ?_;rw[e2];refine(iT _ _ hf).trans ?_;refine(iT _ _ (km.mpr ZF)).trans ?_;unfold oV;rw[if_pos (dg (by have:=O.zs;exact bt (ads this hN)))];have e3:b.stack.reverse=r.reverse++t::u::st.reverse:=by rw[h];simp
 rw[e3,ZE O hN r.reverse (λk hk=>by rw[h];simp at hk ⊢;simp[hk]) (λk hk=>hr k (by simpa using hk))];refine cps λG k=>?_;refine gN (nN O hN (k:=t) (by rw[h];simp)) λi' x' a1 a2 a3 _ a5=>?_;refine k ?_;refine(oB _ a3).trans ?_;rw[a5];refine(iT _ _ (by rw[ht];exact agA _)).trans ?_;refine cps λG k=>?_;refine dR (nZ O h ht) λhu P _=>?_;have qL:t∈(dQ b u).af:=by
  rcases P.ok with⟨q,_⟩|⟨ks,_,q,_⟩
  ·exfalso;lia
  ·rw[q];simp
 refine ed (O.tree.b9 _ _ P.get t qL) λc y q1 q2 q3 q4=>?_;have:c=i':=by exact Int.ofNat_inj.mp (q1.symm.trans a1)
 refine k ?_;subst this;rw[a2]at q3;obtain rfl:=ack q3;exact q4.symm▸iT _ _ (bne_iff_ne.mpr (by exact nofun))
theorem ZG(O:Ok b N)(hN:N<=800000){st:List Int}(h:b.stack=st++u::t::r)(ht:aH b t=S "table")(hn:name≠S "template")(ha:aX.length<=1000)(hp:kf b=some (((u.toNat:Nat):Int),t)):
  jS b name aX=some ((b.aa.length:Int),Kl b u name aX):=GP O hN (nZ O h ht).2.1 hn ha hp
theorem ZH(O:Ok b N)(hN:N<=800000){st:List Int}(h:b.stack=st++u::t::r)(ht:aH b t=S "table")(hs:s.length<=1)(hp:kf b=some (((u.toNat:Nat):Int),t)):
  jk b s=some (gI b u s):=GO O hN (nZ O h ht).2.1 hs hp
theorem ZI(O:Ok b N)(hN:N<=800000){st:List Int}(h:b.stack=st++u::t::r)(ht:aH b t=S "table")(pk rk:Nat)(old:Option (List Str))(ha:aX.length<=1000):
  c6 (aE b pk rk old) u=some (dw (dQ b u))/\ki (aE b pk rk old) u ((dQ b u).af.length-1) name aX=some (aE (Kl b u name aX) pk rk old):=by
 refine dR (nZ O h ht) λhu P _=>?_;constructor
 ·have:=qM O hN pk rk old P.get P.kind;rw[<-hu]at this;exact this
 ·have:=GU O hN pk rk old (name:=name) (aX:=aX) ha P.get P.kind P.le;rw[<-hu]at this;exact this
theorem ZJ(O:Ok b N)(hN:N<=800000){st:List Int}(h:b.stack=st++u::t::r)(ht:aH b t=S "table")(pk rk:Nat)(old:Option (List Str))(hs:s.length<=1):
  c6 (aE b pk rk old) u=some (dw (dQ b u))/\gw (aE b pk rk old) u (((dQ b u).af.length:Int)-1) s=some (aE (gI b u s) pk rk old):=by
 refine dR (nZ O h ht) λhu P hz=>?_;constructor
 ·have:=qM O hN pk rk old P.get P.kind;rw[<-hu]at this;exact this
 ·have:=GS O hN pk rk old (s:=s) hs P.get P.kind P.le;rw[<-hu,show(((dQ b u).af.length-1:Nat):Int)=((dQ b u).af.length:Int)-1 by exact ahr hz]at this;exact this
theorem Ok.gI(O:Ok b N){st:List Int}(h:b.stack=st++u::t::r)(ht:aH b t=S "table")(hs:s.length<=1)(hM:N+1<=M):Ok (gI b u s) M:=
 O.fU hs (nZ O h ht).2.1 (CM O h ht) hM
theorem q5(O:Ok b N)(hN:N<=800000)(pk rk:Nat)(old:Option (List Str))(h:∀x∈b.stack.map (aH b),PyData.strOk x=true):dh (aE b pk rk old)=true:=by unfold dh;rw[nP,afz,afz];refine⟨⟨dg (by have:=O.zs;show b.stack.length<=_;exact bt (ads this hN)),afF.mpr h⟩,afF.mpr λk hk=>?_⟩;refine ed (O.el k hk) λi x h1 h2 h3 _=>?_;rw[h1,qM O hN pk rk old h2 h3];rfl
theorem ZK(O:Ok b N)(hN:N<=800000)(pk rk:Nat)(old:Option (List Str))(hn:b.stack.map (aH b)=pre++S "table"::(ps++inl))(h0:∀x∈pre,PyData.strOk x=true)(hp:eZ ps m)(ha:ap inl)(hk:keep<=b.stack.length):
  fC (aE b pk rk old) keep=some (aE {b with stack:=b.stack.take keep,aK:=b.aK++(if fB ps=true/\S "a"∈inl then[(S "open-elements",m)]else[])} (pk+1) rk old):=by
 have cC:=q5 O hN pk rk old (by exact hn▸vf h0 hp ha);unfold fC;rw[if_pos cC,nP,hn,Bw hp ha,Bx hp ha,xQ hp ha];have hd:((pre++S "table"::(ps++inl)).drop ((pre.length:Int)+(ps.length:Int)).toNat)=((S "table"::ps).drop ps.length)++inl:=by
  have e:((pre.length:Int)+(ps.length:Int)).toNat=pre.length+ps.length:=by rfl
  rw[e,<-List.drop_drop,List.drop_left,<-agV,List.drop_append_of_le_length (by simp)]
 have ZL:aw ((pre++S "table"::(ps++inl)).drop ((pre.length:Int)+(ps.length:Int)).toNat) (S "a")=decide (S "a"∈inl):=by
  rw[hd,Bool.eq_iff_iff,km,af5,afL];constructor
  ·rintro (q|q)
   ·exfalso;have:=agK q;rcases aht.mp this with q|q
    ·exact absurd (sJ q) (by decide)
    ·exact GZ hp (by decide) q
   ·exact q
  ·exact .inr
 rw[ZL];have fin:∀E,(if keep<=(aE {b with aK:=E} pk rk old).path.length then some {(aE {b with aK:=E} pk rk old)with path:=(aE {b with aK:=E} pk rk old).path.take keep,pk:=(aE {b with aK:=E} pk rk old).pk+1}else none)=some (aE {b with stack:=b.stack.take keep,aK:=E} (pk+1) rk old):=λE=>if_pos hk;by_cases q:fB ps=true/\S "a"∈inl
 ·rw[if_pos q];refine(oB _ ((iT _ _ (by rw[q.1,aga q.2];rfl)).trans (CI O hN pk rk old (S "open-elements") m))).trans ?_;exact fin _
 ·rw[if_neg q];refine(oB (v:=aE b pk rk old) _ (iF _ _ ?_)).trans ?_
  ·rw[Bool.and_eq_false_iff,decide_eq_false_iff_not];by_cases q1:fB ps=true
   ·exact .inr λq2=>q ⟨q1,q2⟩
   ·exact .inl (by simpa using q1)
  ·rw[afU];exact fin b.aK
theorem ZM(O:Ok b N)(hN:N<=800000)(pk rk:Nat)(old:Option (List Str)){st:List Int}(h:b.stack=st++[k]):gc (aE b pk rk old)=some (aE {b with stack:=st} pk rk old):=by
 have:gb (aE b pk rk old).path=some (k,st):=by show gb b.stack=_;unfold gb;rw[h];simp only[List.getLast?_append,List.getLast?_singleton,Option.some_or,Option.bind_some,List.dropLast_concat];rw[<-h,if_pos (dg (by have:=O.zs;exact bt (ads ‹_› ‹_›)))]
 exact oB _ this
abbrev names(b:B):List Str:=b.stack.map (aH b)
def yN:List Str:=[S "caption",S "td",S "th"]
def dJ(ns:List Str):List Int:=(ns.filter (aw yN)).map λ_=>-1
theorem tj:dJ (a++b)=dJ a++dJ b:=by unfold dJ;rw[List.filter_append,afR]
theorem yO(h:ap l):dJ l=[]:=by
 unfold dJ;rw[List.filter_eq_nil_iff.mpr λx hx=>by
  have:=xP (f:=λx=>!aw yN x) h rfl rfl x hx;rw[afY]at this;rw[this];decide];rfl
theorem ZN(l:List Str):(dJ l).length<=l.length:=by unfold dJ;rw[afA];exact ahj ..
set_option genCtorIdx true in
inductive Rf
 |old (i:Nat)
 |gh (i:Nat)
 |new (j:Nat)
deriving DecidableEq
set_option genCtorIdx true in
inductive Itm
 |nm (x:Str)
 |inl (la ha:Bool)
 |any
 |pre (m:Str)
deriving DecidableEq
set_option genCtorIdx true in
inductive Kr
 |el (p:Rf)(fo:Bool)(x:Str)(own:Bool)
 |put (p:Rf)
deriving DecidableEq
abbrev Sk:=List (Itm×Rf)
structure Sy where
 st:Sk
 tr:List Kr
 n:Nat
 bT:List (Str×Str)
 mode:Str
 bJ:Nat
 fo:Bool
 dP:Bool
 pt:Bool
 bW:Bool
 oa:Bool
 vI:Str
structure Eb where
 b:B
 o:Nat->List Int
 as:List U
 sg:Str
 N:Nat
 ms:List Int
noncomputable def Eb.bV (E:Eb):Rf->List Int
 |.old i=>E.o i
 |.gh i=>(E.o i).dropLast
 |.new j=>[((E.b.aa.length+j:Nat):Int)]
def Eb.ids(E:Eb):Sk->List Int
 |[]=>[]
 |e::r=>E.ids r++E.bV e.2
noncomputable def jB (l:List Int):Int:=l.getLast?.getD 0
def ZO(b:B)(u:Int)(fo:Bool)(x:Str)(as:List U):B:=
 {b with aa:=eV b.aa u.toNat (dQ b u) (cond fo ((dQ b u).af.length-1) (dQ b u).af.length) (gU x as)}
def CN(b:B)(u:Int)(s:Str):B:=fU b u.toNat (dQ b u) (dQ b u).af.length s
def Eb.tr(E:Eb):List Kr->B
 |[]=>E.b
 |.el p fo x own::r=>ZO (E.tr r) (jB (E.bV p)) fo x (cond own E.as [])
 |.put p::r=>CN (E.tr r) (jB (E.bV p)) E.sg
def q6(ms:List Int):Itm->List Str->Prop
 |.nm x,l=>l=[x]/\(x=S "html"->ms=[])
 |.inl la ha,l=>ap l/\l.getLast?=some (cond la (S "a") (S "p"))/\aw l (S "a")=ha
 |.any,l=>ap l
 |.pre m,l=>dX l m/\dJ l=ms
structure Sm(E:Eb)(s:Sy)(b:B):Prop where
 ok:Ok b (E.N+(s.tr.length+s.bT.length))
 lm:s.tr.length+s.bT.length<=200
 st:b.stack=E.ids s.st
 it:∀e∈s.st,q6 E.ms e.1 ((E.bV e.2).map (aH b))
 nd:b.aa=(E.tr s.tr).aa
 ln:s.pt=false->b.aa.length=E.b.aa.length+s.n
 er:b.aK=E.b.aK++s.bT
 md:b.mode=s.mode
 mr:b.bJ=E.ms++List.replicate s.bJ (-1)
 fo:b.dO=s.fo
 ak:b.dP=s.dP
 pe:b.aQ=cond s.bW [E.sg] []
 og:s.oa=true->b.original=s.vI
structure eA(E:Eb):Prop where
 N:E.N<=100000
 N1:1<=E.N
 as:E.as.length<=1000
 sg:E.sg.length<=1
 ms:E.ms.length<=100000
theorem Eb.oe(E:Eb):∀x y:Sk,E.ids (x++y)=E.ids y++E.ids x
 |[],y=>(afU _).symm
 |e::x,y=>by show E.ids (x++y)++E.bV e.2=E.ids y++(E.ids x++E.bV e.2);rw[E.oe x y,afJ]
theorem Eb.mem(E:Eb):∀{l:Sk},e∈l->∀k∈E.bV e.2,k∈E.ids l:=λ{l}=>by
 induction l with
 |nil=>intro h;cases h
 |cons a r ih=>
  intro h k hk;cases h with
  |head=>exact afL.mpr (.inr hk)
  |tail _ h=>exact afL.mpr (.inl (ih h k hk))
def mP:Sk->Option Str
 |(.nm x,_)::_=>some x
 |(.inl la _,_)::_=>some (cond la (S "a") (S "p"))
 |_=>none
def mQ(ns:List Str):Bool:=!aw ns (S "a")&&!aw ns (S "p")
noncomputable def Ks:Sk->Option Sk
 |(.nm _,_)::r=>some r
 |(.inl _ _,.old i)::r=>some ((.any,.gh i)::r)
 |_=>none
def pA(ns:List Str):Sk->Option Sk
 |(.nm x,_)::r=>cond (aw ns x) (some r) (pA ns r)
 |(.inl _ _,_)::r=>cond (mQ ns) (pA ns r) none
 |_=>none
noncomputable def tm:Sk->Bool
 |(.nm _,_)::_=>true
 |(.pre _,_)::_=>true
 |_=>false
def q7(ns:List Str):Sk->Option Sk
 |(.nm x,q)::r=>cond (tm r) (cond (aw ns x) (some ((.nm x,q)::r)) (q7 ns r)) none
 |(.inl _ _,_)::r=>cond (tm r) (cond (mQ ns) (q7 ns r) none) none
 |_=>none
def oh(ns:List Str):Sk->Option Bool
 |(.nm x,_)::r=>cond (aw ns x) (some true) (cond (aw yK x) (some false) (oh ns r))
 |(.inl _ _,_)::r=>cond (mQ ns) (oh ns r) none
 |_=>none
def vJ:Sk->Option Rf
 |(.nm x,_)::r=>cond (x==S "table") (match r with
  |[(.pre _,q)]=>some q
  |_=>none) (cond (x==S "template") none (vJ r))
 |(.inl _ _,_)::r=>vJ r
 |_=>none
section
variable{E:Eb}{s:Sy}{b:B}
theorem Sm.N(r:Sm E s b)(e:eA E):E.N+(s.tr.length+s.bT.length)<=700000:=by have:=r.lm;have:=e.N;exact bt (agL ‹_› ‹_›)
theorem Sm.mem(r:Sm E s b)(h:e∈s.st):∀k∈E.bV e.2,k∈b.stack:=λk hk=>r.st▸E.mem h k hk
theorem Sm.gh(r:Sm E s b)(h:s.st=x++l):b.stack=E.ids l++E.ids x/\Sm E {s with st:=l} {b with stack:=E.ids l}:=by
 have e:b.stack=E.ids l++E.ids x:=by rw[r.st,h,E.oe]
 exact⟨e,⟨r.ok.gh e,r.lm,rfl,λe he=>r.it e (h▸afL.mpr (.inr he)),r.nd,r.ln,r.er,r.md,r.mr,r.fo,r.ak,r.pe,r.og⟩⟩
theorem Sm.CO(r:Sm E s b)(h:s.st=(.nm x,q)::l):∃k,E.bV q=[k]/\aH b k=x/\b.stack=E.ids l++[k]:=by refine aU (r.it (.nm x,q) (h▸.head _)) λe _=>?_;refine cV (l6 e) λk l' e1 e2 e3=>?_;have e4:l'=[]:=agO.mp e3;refine⟨k,by rw[e1,e4],e2,?_⟩;rw[r.st,h];show E.ids l++E.bV q=_;rw[e1,e4]
theorem Sm.top(r:Sm E s b)(h:mP s.st=some x):∃k it q l,s.st=(it,q)::l/\aH b k=x/\jB (E.bV q)=k/\b.stack=(E.ids l++(E.bV q).dropLast)++[k]:=by
 have fin:∀it q l,s.st=(it,q)::l->((E.bV q).map (aH b)).getLast?=some x->∃k it q l,s.st=(it,q)::l/\aH b k=x/\jB (E.bV q)=k/\b.stack=(E.ids l++(E.bV q).dropLast)++[k]:=λit q l e h=>by rw[List.getLast?_map]at h;refine ao (age.mp h) λk e1 e2=>?_;refine aI (agy.mp e1) λys e3=>?_;refine⟨k,it,q,l,e,e2,by unfold jB;rw[e1];rfl,?_⟩;rw[r.st,e];show E.ids l++E.bV q=_;rw[e3,ahm,afJ]
 cases e:s.st with
 |nil=>exact ag (e▸h)
 |cons a l=>
  obtain⟨it,q⟩:=a;have i:=r.it (it,q) (e▸.head _);replace h:=e▸h;induction it with
  |nm y=>obtain rfl:=ack h;exact fin _ _ _ e (i.1▸rfl)|>λ⟨k,a,b,c,d,f⟩=>⟨k,a,b,c,e▸d,f⟩
  |inl la ha=>obtain rfl:=ack h;exact fin _ _ _ e i.2.1|>λ⟨k,a,b,c,d,f⟩=>⟨k,a,b,c,e▸d,f⟩
  |_=>exact ag h
theorem yP(h:mQ ns=true)(ha:ap l):∀x∈l,aw ns x=false:=λx hx=>by
 unfold mQ at h;rw[afz,afY,afY]at h;rcases ha x hx with e|e<;>rw[e]
 ·exact h.1
 ·exact h.2
end
section
variable{E:Eb}{s:Sy}{b:B}(e:eA E)
theorem Sm.hN(r:Sm E s b)(e:eA E):E.N+(s.tr.length+s.bT.length)<=800000:=by have:=r.N e;exact ads ‹_› (by decide)
theorem Sm.z(r:Sm E s b)(e:eA E):b.stack.length<=900000:=by have:=r.ok.zs;have:=r.N e;exact bt (ads ‹_› ‹_›)
include e
theorem ZP(r:Sm E s b)(h:mP s.st=some x):iD b=some x:=by refine cps λgG kK=>?_;refine l9 (r.top h) λk it q l _ e2 _ e4=>?_;refine kK ?_;rw[mD r.ok (r.hN e) e4,e2]
theorem ZQ(r:Sm E s b)(h:Ks s.st=some l):∃k b',gE b=some (k,b')/\Sm E {s with st:=l} b':=by
 apply ET (a:=l);intro gG kK;cases es:s.st with
 |nil=>exact ag (es▸h)
 |cons a r'=>
  obtain⟨it,q⟩:=a;replace h:=es▸h;induction it with
  |nm x=>
   apply sE h;refine cN (r.CO es) λk _ _ e3=>?_;refine kK _ ?_;exact⟨k,_,sM e3 (r.z e),(r.gh (x:=[(.nm x,q)]) es).2⟩
  |inl la ha=>
   induction q with
   |old i=>
    obtain rfl:=ack h;refine aU (r.gh (x:=[(.inl la ha,.old i)]) es) λe1 r2=>?_;have i1:=r.it (.inl la ha,.old i) (es▸.head _);refine ao (age.mp ((List.getLast?_map (f:=aH b)).symm.trans i1.2.1)) λk e2 _=>?_;refine aI (agy.mp e2) λys e3=>?_;replace e3:E.o i=ys++[k]:=e3;have e4:b.stack=(E.ids r'++ys)++[k]:=by rw[r.st,es,afJ,<-e3];rfl
    have e5:E.ids ((.any,.gh i)::r')=E.ids r'++ys:=by show E.ids r'++(E.o i).dropLast=_;rw[e3,ahm]
    refine kK _ ?_;refine⟨k,_,sM e4 (r.z e),⟨r.ok.gh e4,r.lm,e5.symm,agc.mpr ⟨?_,r2.it⟩,r.nd,r.ln,r.er,r.md,r.mr,r.fo,r.ak,r.pe,r.og⟩⟩;have a1:ap ((E.o i).map (aH b)):=i1.1;rw[e3,afR,ve]at a1;show ap ((E.o i).dropLast.map (aH b));rw[e3,ahm];exact a1.1
   |_=>exact ag h
  |_=>exact ag h
omit e in
theorem vK {f:Int->Str}{l:List Int}(h:∀x∈l.map f,aw ns x=false):∀k∈l,aw ns (f k)=false:=λk hk=>h _ (af7.mpr ⟨k,hk,rfl⟩)
theorem ZR{l:Sk}:∀(k:Sk) (s:Sy) (b:B),Sm E s b->s.st=k->pA ns k=some l->∃i x,k=x++l/\ji ns (E.ids k).length b=some (i,{b with stack:=E.ids l}):=λkK=>by
 induction kK with
 |nil=>exact λ_ _ _ _ h=>nomatch h
 |cons aA k ih=>
  obtain⟨it,q⟩:=aA;rintro s b r es h;refine aU (r.gh (x:=[(it,q)]) es) λe1 r2=>?_;replace e1:b.stack=E.ids k++E.bV q:=e1;have len:(E.ids ((it,q)::k)).length=(E.bV q).length+(E.ids k).length:=by show(E.ids k++E.bV q).length=_;rw[afC,ag0]
  have skip:(∀i∈E.bV q,aw ns (aH b i)=false)->pA ns k=some l->∃i x,(it,q)::k=x++l/\ji ns (E.ids ((it,q)::k)).length b=some (i,{b with stack:=E.ids l}):=λhq h=>by refine cQ (ih _ _ r2 rfl h) λi x e2 e3=>?_;refine⟨i,(it,q)::x,by rw[e2];rfl,?_⟩;rw[len,Kg (r.hN e) _ _ b r.ok e1 hq];exact e3
  induction it with
  |nm x=>
   refine cN (r.CO es) λi e2 e3 e4=>?_;replace h:cond (aw ns x) (some k) (pA ns k)=some l:=h;cases hx:aw ns x with
   |true=>
    rw[hx]at h;apply sE h;refine⟨i,[(.nm x,q)],rfl,?_⟩;rw[len,e2,ag0];exact Kf (r.hN e) r.ok e4 (e3▸hx) _
   |false=>rw[hx]at h;exact skip (λj hj=>by rw[e2,af0]at hj;rw[hj,e3];exact hx) h
  |inl la ha=>
   replace h:cond (mQ ns) (pA ns k) none=some l:=h;cases hx:mQ ns with
   |true=>rw[hx]at h;exact skip (vK (yP hx (r.it (.inl la ha,q) (es▸.head _)).1)) h
   |false=>rw[hx]at h;exact ag h
  |_=>exact ag h
omit e in
theorem Kt (r:Sm E s b)(h:s.st=x++l)(hf:tm l=true):E.ids l≠[]:=λq=>by
 induction l with
 |nil=>cases hf
 |cons a l=>
  obtain⟨it,rf⟩:=a;have i:=r.it (it,rf) (h▸afL.mpr (.inr (.head _)));have q2:E.bV rf=[]:=(List.append_eq_nil_iff.mp q).2;replace i:=q2▸i;induction it with
  |nm x=>exact nomatch i.1
  |pre m=>exact i.1.ne rfl
  |_=>cases hf
theorem ZS{l:Sk}:∀(k:Sk) (s:Sy) (b:B),Sm E s b->s.st=k->q7 ns k=some l->∃x,k=x++l/\jj ns (E.ids k).length b=some {b with stack:=E.ids l}:=λkK=>by
 induction kK with
 |nil=>exact λ_ _ _ _ h=>nomatch h
 |cons aA k ih=>
  obtain⟨it,q⟩:=aA;rintro s b r es h;refine aU (r.gh (x:=[(it,q)]) es) λe1 r2=>?_;replace e1:b.stack=E.ids k++E.bV q:=e1;have len:(E.ids ((it,q)::k)).length=(E.bV q).length+(E.ids k).length:=by show(E.ids k++E.bV q).length=_;rw[afC,ag0]
  have skip:tm k=true->(∀i∈E.bV q,aw ns (aH b i)=false)->q7 ns k=some l->∃x,(it,q)::k=x++l/\jj ns (E.ids ((it,q)::k)).length b=some {b with stack:=E.ids l}:=λhf hq h=>by refine ao (ih _ _ r2 rfl h) λx e2 e3=>?_;refine⟨(it,q)::x,by rw[e2];rfl,?_⟩;rw[len,Zn (r.hN e) (Kt r (x:=[(it,q)]) es hf) _ _ b r.ok e1 hq];exact e3
  induction it with
  |nm x=>
   refine cN (r.CO es) λi e2 e3 e4=>?_;replace h:cond (tm k) (cond (aw ns x) (some ((.nm x,q)::k)) (q7 ns k)) none=some l:=h;refine cE h λhf h=>?_;cases hx:aw ns x with
   |true=>
    replace h:=hx▸h;apply sE h;refine⟨[],rfl,?_⟩;rw[len,e2,ag0];exact(Zm (r.hN e) r.ok e4 (Kt r (x:=[(.nm x,q)]) es hf) (e3▸hx) _).trans (by rw[show E.ids ((.nm x,q)::k)=b.stack from by rw[r.st,es]])
   |false=>replace h:=hx▸h;exact skip hf (λj hj=>by rw[e2,af0]at hj;rw[hj,e3];exact hx) h
  |inl la ha=>
   replace h:cond (tm k) (cond (mQ ns) (q7 ns k) none) none=some l:=h;exact cE h λhf h=>cE h λhx h=>skip hf (vK (yP hx (r.it (.inl la ha,q) (es▸.head _)).1)) h
  |_=>exact ag h
theorem ZT(r:Sm E s b){c:Bool}:∀(k x:Sk),s.st=x++k->oh ns k=some c->nB b ns (E.ids k).reverse=some c:=λkK=>by
 induction kK with
 |nil=>exact λ_ _ h=>nomatch h
 |cons aA k ih=>
  obtain⟨it,q⟩:=aA;rintro y es h;have m0:(it,q)∈s.st:=es▸afL.mpr (.inr (.head _));have Ku:(E.ids ((it,q)::k)).reverse=(E.bV q).reverse++(E.ids k).reverse:=List.reverse_append;have skip:(∀i∈E.bV q,aw ns (aH b i)=false)->(∀i∈E.bV q,aw yK (aH b i)=false)->oh ns k=some c->nB b ns (E.ids ((it,q)::k)).reverse=some c:=λh1 h2 h=>by rw[Ku,Zp r.ok (r.hN e) _ (λi hi=>r.mem m0 i (ahb.mp hi)) (λi hi=>iY.mp (h1 i (ahb.mp hi))) λi hi=>iY.mp (h2 i (ahb.mp hi))];exact ih (y++[(it,q)]) (by rw[es,afJ];rfl) h
  induction it with
  |nm x=>
   refine aU (r.it _ m0) λe2 _=>?_;refine cV (l6 e2) λi l' e3 e4 e5=>?_;have e6:E.bV q=[i]:=by rw[e3,agO.mp e5]
   have m1:i∈b.stack:=r.mem m0 i (e6▸.head _);refine gN (nN r.ok (r.hN e) m1) λ_ y' _ _ f1 _ f2=>?_;have one:nB b ns (E.ids ((.nm x,q)::k)).reverse=(if aw ns x then some true else if aw [S "html",S "table",S "template"] x then some false else nB b ns (E.ids k).reverse):=by rw[Ku,e6];refine(oB _ f1).trans ?_;rw[f2,e4];rfl
   replace h:cond (aw ns x) (some true) (cond (aw yK x) (some false) (oh ns k))=some c:=h;rw[one];exact dE h (λh1 h=>(iT _ _ h1).trans h) λh1 h=>(iF _ _ h1).trans (dE h (λh2 h=>(iT _ _ h2).trans h) λh2 h=>(iF _ _ h2).trans (ih (y++[(.nm x,q)]) (by rw[es,afJ];rfl) h))
  |inl la ha=>exact cE h λhx h=>skip (vK (yP hx (r.it _ m0).1)) (vK (yP rfl (r.it _ m0).1)) h
  |_=>exact ag h
end
set_option tactic.hygienic true
theorem vL(b:B)(p:Nat)(xp:Nd)(at_:Nat)(s:Str):fU b p xp at_ s={b with aa:=(fU b p xp at_ s).aa}:=by
 unfold fU;split
 ·split
  ·split<;>rfl
  ·rfl
 ·rfl
theorem Kv(h:b'.aa=b.aa):(fU b' p xp at_ s).aa=(fU b p xp at_ s).aa:=by
 obtain⟨ns,st,ma,mo,og,hd,fo,ac,er,pe,pk,old⟩:=b;obtain⟨Ak,k9,ma',mo',og',oO,fo',ac',er',pe',jC,yQ⟩:=b';cases show Ak=ns from h;unfold fU;dsimp only;split
 ·split
  ·split<;>rfl
  ·rfl
 ·rfl
noncomputable def ah (s:Sy):Bool:=Nat.ble (s.tr.length+s.bT.length) 150
noncomputable def tv:Sk->Option Rf
 |(.nm _,q)::_=>some q
 |(.inl _ _,q)::_=>some q
 |(.pre _,q)::_=>some q
 |_=>none
noncomputable def Sy.el (s:Sy)(q:Rf)(fo:Bool)(x:Str)(own:Bool):Sy:={s with st:=(.nm x,.new s.n)::s.st,tr:=.el q fo x own::s.tr,n:=s.n+1}
def vM(x:Str)(own:Bool)(s:Sy):Option Sy:=
 cond (ah s&&(!s.pt&&(!(x==S "template")&&!(x==S "html"))))
  (cond (s.fo&&cG (mP s.st) (aw gD) true) (cond (cG (mP s.st) (aw gD) false&&!(x==S "table")) ((vJ s.st).bind λq=>some (s.el q true x own)) none) ((tv s.st).bind λq=>some (s.el q false x own))) none
def vO(w:Str)(s:Sy):Option Sy:=cond (ah s) (some {s with bT:=s.bT++[(w,s.mode)]}) none
def oj(w m:Str)(s:Sy):Option Sy:=cond (ah s) (some {s with bT:=s.bT++[(w,m)]}) none
def Kw(s:Sy):Option Sy:=cond (ah s&&(cG (mP s.st) (λy=>!(s.fo&&aw gD y)) false)) ((tv s.st).bind λq=>some {s with tr:=.put q::s.tr,pt:=true}) none
noncomputable def Kx (s:Sy):Option Sy:=cond (Nat.ble s.bJ 100) (some {s with bJ:=s.bJ+1}) none
def ZU(ns:List Str):Sk->Option (Bool×Sk)
 |(.nm c,_)::r=>cond (aw ns c) (some (false,r)) none
 |(.inl _ ha,_)::r=>(match r with
  |(.nm c,_)::r=>cond (aw ns c) (some (ha,r)) none
  |_=>none)
 |_=>none
noncomputable def ZV:Nat->Option Nat
 |0=>none
 |k+1=>some k
def CP(ns:List Str)(m:Str)(s:Sy):Option Sy:=
 cond (ah s&&(mQ ns&&(ns.all (λx=>!aw jP x)&&Nat.ble s.bJ 100))) ((ZU ns s.st).bind λp=>(ZV s.bJ).bind λk=>some {s with st:=p.2,bJ:=k,bT:=cond p.1 (s.bT++[(S "open-elements",s.mode)]) s.bT,mode:=m}) none
noncomputable def Ky:Sk->Option Str
 |[(.pre m,_)]=>some m
 |_=>none
theorem ZW{l:Sk}{m:Str}(h:Ky l=some m):∃q,l=[(.pre m,q)]:=by
 induction l with
 |nil=>exact ag h
 |cons p l _=>
  induction p with
  |mk i q=>
   induction i with
   |pre x=>
    induction l with
    |nil=>apply sE h;exact⟨q,rfl⟩
    |cons=>exact ag h
   |_=>exact ag h
def Kz(s:Sy):Option Sy:=(Ky s.st).bind λm=>some {s with mode:=m}
section
variable{E:Eb}{s:Sy}{b:B}(e:eA E)
theorem pB(h:ah s=true):s.tr.length+s.bT.length<=150:=afG h
theorem Sm.dT(r:Sm E s b)(h:tv s.st=some q):∃k,jB (E.bV q)=k/\∃st,b.stack=st++[k]:=by
 refine cps λG k=>?_;cases es:s.st with
 |nil=>exact ag (es▸h)
 |cons a l=>
  obtain⟨it,q'⟩:=a;have i:=r.it (it,q') (es▸.head _);replace h:=es▸h;have fin:E.bV q'≠[]->q'=q->∃k,jB (E.bV q)=k/\∃st,b.stack=st++[k]:=λhne hq=>by
   subst hq;obtain⟨st,k,h⟩:∃st k,E.bV q'=st++[k]:=by
    rcases agi (E.bV q')with h|⟨st,k,h⟩
    ·exact(hne h).elim
    ·exact⟨st,k,by rw[h,ags]⟩
   refine⟨k,by unfold jB;rw[h,ag3];rfl,E.ids l++st,?_⟩;rw[r.st,es,afJ,<-h];rfl
  induction it with
  |nm x=>refine k ?_;exact fin (λz=>by rw[z]at i;exact nomatch i.1) (ack h)
  |inl la ha=>refine k ?_;exact fin (λz=>by rw[z]at i;exact nomatch i.2.1) (ack h)
  |pre m=>refine k ?_;exact fin (λz=>by rw[z]at i;exact i.1.ne rfl) (ack h)
  |any=>exact ag h
theorem Sm.hH(r:Sm E s b):∀(k x:Sk),s.st=x++k->vJ k=some q->∃st u t r',E.ids k=st++u::t::r'/\jB (E.bV q)=u/\aH b t=S "table"/\∀i∈r',aH b i≠S "table"/\aH b i≠S "template"
 |[],_,_,h=>nomatch h
 |(it,q')::k,y,es,h=>by
  have m0:(it,q')∈s.st:=es▸afL.mpr (.inr (.head _));have skip:(∀i∈E.bV q',aH b i≠S "table"/\aH b i≠S "template")->vJ k=some q->∃st u t r',E.ids ((it,q')::k)=st++u::t::r'/\jB (E.bV q)=u/\aH b t=S "table"/\∀i∈r',aH b i≠S "table"/\aH b i≠S "template":=λhq h=>by refine l9 (r.hH k (y++[(it,q')]) (by rw[es,afJ];rfl) h) λst u t r' e1 e2 e3 e4=>?_;refine⟨st,u,t,r'++E.bV q',?_,e2,e3,agx.mpr ⟨e4,hq⟩⟩;show E.ids k++E.bV q'=_;rw[e1,afJ];rfl
  induction it with
  |nm x=>
   refine aU (r.it _ m0) λe2 _=>?_;refine cV (l6 e2) λi l' e3 e4 e5=>?_;have e6:E.bV q'=[i]:=by rw[e3,agO.mp e5]
   refine dE (A:=match k with|[(.pre _,q)]=>some q|_=>none) h (λhx h=>?_) λhx h=>dE h (λ_ h=>nomatch h) λhy h=>skip (λj hj=>?_) h
   ·cases k with
    |nil=>exact ag h
    |cons a2 k=>
     obtain⟨CQ,q2⟩:=a2;induction CQ with
     |pre p=>
      induction k with
      |cons=>exact ag h
      |nil=>
       cases h;have i2:=r.it (.pre p,q) (es▸afL.mpr (.inr (.tail _ (.head _))));obtain⟨st,u,h⟩:∃st u,E.bV q=st++[u]:=by
        rcases agi (E.bV q)with h|⟨st,k,h⟩
        ·rw[h]at i2;exact absurd rfl i2.1.ne
        ·exact⟨st,k,by rw[h,ags]⟩
       refine⟨st,u,i,[],?_,by unfold jB;rw[h,ag3];rfl,by rw[e4];exact afI.mp hx,λ_ h=>nomatch h⟩;show([]++E.bV q)++E.bV q'=_;rw[e6,h,List.nil_append,afJ];rfl
     |_=>exact ag h
   ·rw[e6,af0]at hj;rw[hj,e4];exact⟨λz=>by rw[z]at hx;exact absurd hx (by decide),λz=>by rw[z]at hy;exact absurd hy (by decide)⟩
  |inl la ha=>
   have i:=(r.it _ m0).1;have j1:=vK (ns:=[S "table",S "template"]) (λx hx=>(by
    have:=xP (f:=λx=>!aw [S "table",S "template"] x) i rfl rfl x hx;simpa using this:aw [S "table",S "template"] x=false))
   exact skip (λk hk=>by
    have:=iY.mp (j1 k hk);exact⟨λz=>this (z▸.head _),λz=>this (z▸.tail _ (.head _))⟩) h
  |_=>exact ag h
theorem Sm.iI(r:Sm E s b){fo:Bool}(hu:jB (E.bV q)=u)(hr:s.tr.length+s.bT.length<=150)(hp:s.pt=false)(hx:x≠S "html")(P:k8 b u.toNat (dQ b u) before (cond fo ((dQ b u).af.length-1) (dQ b u).af.length))
  (h1:∀st u' t r,b.stack=st++u'::t::r->aH b t=S "table"->u'=(u.toNat:Int)->before=t)(h2:x=S "table"->before=-1/\∃st,b.stack=st++[(u.toNat:Int)]):
  Sm E (s.el q fo x own) (Mine.iI b u.toNat (dQ b u) (cond fo ((dQ b u).af.length-1) (dQ b u).af.length) x (cond own E.as [])):=by
 have len:=r.ln hp;refine⟨r.ok.iI P h1 h2 (by show _<=E.N+((s.tr.length+1)+s.bT.length);lia),by show(s.tr.length+1)+s.bT.length<=200;lia,?_,agc.mpr ⟨?_,λa ha=>?_⟩,?_,λ_=>?_,r.er,r.md,r.mr,r.fo,r.ak,r.pe,r.og⟩
 ·show b.stack++[(b.aa.length:Int)]=E.ids s.st++[((E.b.aa.length+s.n:Nat):Int)];rw[r.st,len]
 ·refine⟨?_,λz=>absurd z hx⟩;show[aH _ (((E.b.aa.length+s.n:Nat):Int))]=[x];rw[<-len,TA P.get]
 ·rw[agr λk hk=>Tz r.ok P.get (r.mem ha k hk)];exact r.it a ha
 ·show eV _ _ _ _ _=eV (E.tr s.tr).aa _ _ _ _;unfold dQ;rw[r.nd,hu]
 ·show(eV _ _ _ _ _).length=_;rw[GK,len];rfl
theorem KA(r:Sm E s b)(e:eA E){own:Bool}(h:vM x own s=some s'):∃n b',jS b x (cond own E.as [])=some (n,b')/\Sm E s' b':=by
 refine cps λgG kK=>?_;refine cE h λhc h=>?_;simp only[Bool.and_eq_true,Bool.not_eq_true']at hc;refine cps λG k=>?_;refine fu hc λh1 h2 h3 h4=>?_;have hx:x≠S "html":=afK.mp h4;have hm:x≠S "template":=afK.mp h3;have ha:(cond own E.as []).length<=1000:=by induction own;exact afO _;exact e.as
 refine k ?_;refine dE h (λhf h=>cE h λhg h=>bE h λq hq h=>?_) λhf h=>bE h λq hq h=>?_
 ·obtain rfl:=ack h;simp only[Bool.and_eq_true,Bool.not_eq_true']at hf hg;obtain⟨y,ey,hy⟩:∃y,mP s.st=some y/\aw gD y=true:=oE hg.1 (λy e h=>⟨y,e,h⟩) λh=>nomatch h;refine l9 (r.top ey) λk it q2 l _ f2 _ f4=>?_;refine l9 (r.hH s.st [] rfl hq) λst u t r' g1 g2 g3 g4=>?_;have es:b.stack=st++u::t::r':=r.st.trans g1;have hp:=Kq r.ok (r.hN e) es g3 g4 (r.fo▸hf.1) f4 (by rw[f2];exact km.mp hy);refine kK ?_;exact⟨_,_,ZG r.ok (r.hN e) es g3 hm ha hp,r.iI (fo:=true) g2 (pB h1) h2 hx (nZ r.ok es g3).2.1 (CM r.ok es g3) λz=>absurd z (afK.mp hg.2)⟩
 ·cases h;refine ao (r.dT hq) λk f1 hh=>aI hh λst f2=>?_;refine aU (j5 r.ok f2) λf3 P=>?_;have hl:kf b=some ((ip b:Int),-1):=Kn r.ok (r.hN e) f2 (by
   rw[r.fo];cases z:s.fo with
   |false=>exact .inl rfl
   |true=>
    rw[z,agR]at hf;refine .inr ?_;cases ey:mP s.st with
    |none=>rw[ey]at hf;exact nomatch hf
    |some y=>
     rw[ey]at hf;refine l9 (r.top ey) λk' _ _ _ _ g2 _ g4=>?_;have:k=k':=by have:=ag9 (f2.symm.trans g4) rfl;simpa using this.2
     rw[this,g2];exact iY.mp hf)
  have eu:ip b=k.toNat:=by rw[f3];rfl
  have en:gx b=dQ b k:=by delta gx dQ;rw[eu]
  rw[eu,en]at P;rw[eu]at hl;refine kK ?_;refine⟨_,_,GP r.ok (r.hN e) P hm ha hl,r.iI (fo:=false) f1 (pB h1) h2 hx P ?_ λ_=>⟨rfl,st,by rw[<-eu,<-f3];exact f2⟩⟩;have:=yL r.ok f2;replace this:=eu▸this;exact this
theorem Sm.put(r:Sm E s b)(e:eA E)(h1:s.tr.length+s.bT.length<=150)(f1:jB (E.bV q)=k){st:List Int}(f2:b.stack=st++[k]):Sm E {s with tr:=.put q::s.tr,pt:=true} (putL b E.sg):=by
 refine aU (j5 r.ok f2) λf3 P=>?_;have O2:=r.ok.fU e.sg P (yL r.ok f2) (afD _);have nm:∀k∈b.stack,aH (putL b E.sg) k=aH b k:=λk hk=>GX r.ok P.get hk;have eq:putL b E.sg={b with aa:=(putL b E.sg).aa}:=vL ..;have eu:ip b=k.toNat:=by rw[f3];rfl
 have nd:(putL b E.sg).aa=(CN (E.tr s.tr) (jB (E.bV q)) E.sg).aa:=by delta CN putL gx dQ;rw[f1,eu,<-r.nd];exact(Kv r.nd.symm).symm
 rw[eq]at nm ⊢;rw[show Mine.fU b (ip b) (gx b) (gx b).af.length E.sg=putL b E.sg from rfl,eq]at O2;exact⟨O2.same rfl (afV _) (ads O2.ze (by show _<=E.N+((s.tr.length+1)+s.bT.length);omega)) (ads O2.zp (by show _<=E.N+((s.tr.length+1)+s.bT.length);omega)) (by show _<=E.N+((s.tr.length+1)+s.bT.length);omega),by show(s.tr.length+1)+s.bT.length<=200;omega,r.st,λa ha=>by
  rw[agr λk hk=>nm k (r.mem ha k hk)];exact r.it a ha,nd,λz=>(nomatch z),r.er,r.md,r.mr,r.fo,r.ak,r.pe,r.og⟩
theorem ZX(r:Sm E s b)(e:eA E){s':Sy}(h:Kw s=some s'):∃b',jk b E.sg=some b'/\Sm E s' b':=by
 refine cps λgG kK=>?_;refine cE h λhc h=>bE h λq hq h=>?_;obtain rfl:=ack h;rw[afz]at hc;obtain⟨y,ey,hy⟩:∃y,mP s.st=some y/\(!(s.fo&&aw gD y))=true:=oE hc.2 (λy e h=>⟨y,e,h⟩) λh=>nomatch h;refine ao (r.dT hq) λk f1 hh=>aI hh λst f2=>?_;refine l9 (r.top ey) λk' _ _ _ _ g2 _ g4=>?_;have CR:k=k':=by have:=ag9 (f2.symm.trans g4) rfl;simpa using this.2
 have hf:b.dO=false\/aH b k∉gD:=by rw[r.fo,CR,g2];rw[afY,Bool.and_eq_false_iff]at hy;exact hy.imp id iY.mp
 refine kK ?_;exact⟨_,Ko r.ok (r.hN e) f2 hf e.sg,r.put e (pB hc.1) f1 f2⟩
theorem Sm.err(r:Sm E s b)(h:ah s=true)(w m:Str):Sm E {s with bT:=s.bT++[(w,m)]} {b with aK:=b.aK++[(w,m)]}:=by
 have h1:=pB h;have l:(s.bT++[(w,m)]).length=s.bT.length+1:=by rw[afC];rfl
 have l2:(b.aK++[(w,m)]).length=b.aK.length+1:=by rw[afC];rfl
 have:=r.ok.ze;have:=r.ok.zp;exact⟨r.ok.same rfl (afV _) (by show(b.aK++[(w,m)]).length<=E.N+(s.tr.length+(s.bT++[(w,m)]).length);lia) (by show b.aQ.length<=E.N+(s.tr.length+(s.bT++[(w,m)]).length);lia) (by show _<=E.N+(s.tr.length+(s.bT++[(w,m)]).length);lia),by show s.tr.length+(s.bT++[(w,m)]).length<=200;lia,r.st,r.it,r.nd,r.ln,by show b.aK++_=E.b.aK++(s.bT++_);rw[r.er,afJ],r.md,r.mr,r.fo,r.ak,r.pe,r.og⟩
theorem CS(r:Sm E s b)(e:eA E)(h:vO w s=some s'):∃b',fz b w=some b'/\Sm E s' b':=
 cE h λhc h=>by apply sE h;exact⟨_,(CH r.ok (r.hN e) w).trans (r.md▸rfl),r.err hc w s.mode⟩
theorem KC(r:Sm E s b)(e:eA E)(h:Nat.ble s.bJ 100=true):b.bJ.length<=900000:=by have:=afG h;have:=e.ms;rw[r.mr,afC,List.length_replicate];exact bt (agL ‹_› ‹_›)
theorem ZY(r:Sm E s b)(e:eA E)(h:Kx s=some s'):∃b',uG b=some b'/\Sm E s' b':=
 cE h λhc h=>by apply sE h;exact⟨_,if_pos (dg (KC r e hc)),⟨r.ok.same rfl (afV _) r.ok.ze r.ok.zp (afD _),r.lm,r.st,r.it,r.nd,r.ln,r.er,r.md,by show b.bJ++[-1]=_;rw[r.mr,afJ,List.replicate_succ'],r.fo,r.ak,r.pe,r.og⟩⟩
theorem ZZ(r:Sm E s b)(e:eA E)(h:Kz s=some s'):∃b',se b=some b'/\Sm E s' b':=by
 apply ET (a:=s');intro G k;refine bE h λm hm h=>aI (ZW hm) λq es=>?_
 ·apply sE h;have i:=r.it (.pre m,q) (es▸.head _);have e1:b.stack=E.bV q:=by rw[r.st,es];rfl
  refine k _ ?_;exact⟨_,ZA (m:=m) r.ok (r.hN e) (by exact e1▸i.1),⟨r.ok.same rfl (afV _) r.ok.ze r.ok.zp (afD _),r.lm,r.st,r.it,r.nd,r.ln,r.er,rfl,r.mr,r.fo,r.ak,r.pe,r.og⟩⟩
theorem KD(r:Sm E s b)(e:eA E)(h:CP ns m s=some s'):∃b',lN b ns m=some b'/\Sm E s' b':=by
 refine cps λgG kK=>?_;refine cE h λhc h=>bE h λp hp h=>bE h λk hk h=>?_;obtain rfl:=ack h;simp only[Bool.and_eq_true]at hc;refine fu hc λh1 h2 h3 h4=>?_;have h1:=pB h1;have ho:=h2;unfold mQ at ho;rw[afz,afY,afY]at ho;have CR:s.bJ=k+1:=by
  cases z:s.bJ with
  |zero=>exact ag (z▸hk)
  |succ=>replace hk:=z▸hk;apply sE hk;rfl
 have hm:b.bJ=(E.ms++List.replicate k (-1))++[-1]:=by rw[r.mr,CR,List.replicate_succ',afJ]
 have key:∀(c:Str) (q:Rf) (l x:Sk) (is:List Int),s.st=x++(.nm c,q)::l->aw ns c=true->ap (is.map (aH b))->b.stack=E.ids ((.nm c,q)::l)++is->(aw (is.map (aH b)) (S "a")=p.1)->p.2=l->∃b',lN b ns m=some b'/\Sm E {s with st:=p.2,bJ:=k,bT:=cond p.1 (s.bT++[(S "open-elements",s.mode)]) s.bT,mode:=m} b':=by
  intro c q l x is es hn ha eb hi hl;subst hl;refine aU (r.it (.nm c,q) (es▸afL.mpr (.inr (.head _)))) λe2 _=>?_;refine cV (l6 e2) λi l' e3 e4 e5=>?_;have e6:E.bV q=[i]:=by rw[e3,agO.mp e5]
  have Z0:b.stack=(E.ids p.2++[i])++is:=by rw[eb,<-e6];rfl
  have CJ:aH b i∉jP:=by have:=afF.mp h3 c (km.mp hn);rw[afY]at this;exact e4▸iY.mp this
  refine⟨_,Zu r.ok (r.N e) Z0 ha (by exact e4▸hn) CJ ho.1 ho.2 hm (KC r e h4),?_⟩;refine aU (r.gh (x:=x++[(.nm c,q)]) (l:=p.2) (by rw[es,afJ];rfl)) λ_ r2=>?_;have base:∀E',(E'=s.bT\/E'=s.bT++[(S "open-elements",s.mode)])->Sm E {s with st:=p.2,bJ:=k,bT:=E',mode:=m} {b with stack:=E.ids p.2,bJ:=E.ms++List.replicate k (-1),aK:=E.b.aK++E',mode:=m}:=λE' hE=>by
   have lE:s.bT.length<=E'.length/\E'.length<=s.bT.length+1:=by
    rcases hE with z|z<;>rw[z]
    ·exact⟨afD _,agt _⟩
    ·rw[afC,afW];exact⟨agt _,afD _⟩
   have:=r2.ok.ze;have z1:b.aK.length=E.b.aK.length+s.bT.length:=by rw[r.er,afC]
   have:=r2.ok.zp;exact⟨r2.ok.same rfl (afV _) (by show(E.b.aK++E').length<=E.N+(s.tr.length+E'.length);rw[afC];have:b.aK.length<=E.N+(s.tr.length+s.bT.length):=r2.ok.ze;lia) (ads r2.ok.zp (by show _<=E.N+(s.tr.length+E'.length);show E.N+(s.tr.length+s.bT.length)<=_;omega)) (by show E.N+(s.tr.length+s.bT.length)<=E.N+(s.tr.length+E'.length);omega),by show s.tr.length+E'.length<=200;lia,rfl,r2.it,r.nd,r.ln,rfl,rfl,rfl,r.fo,r.ak,r.pe,r.og⟩
  cases KG:p.1 with
  |true=>
   rw[KG]at hi;rw[if_pos (km.mp hi),r.md,r.er,afJ];exact base _ (.inr rfl)
  |false=>
   rw[KG]at hi;rw[if_neg (iY.mp hi),afU,r.er];exact base _ (.inl rfl)
 cases es:s.st with
 |nil=>exact ag (es▸hp)
 |cons a l=>
  obtain⟨it,q⟩:=a;have ii:=r.it (it,q) (es▸.head _);rw[es]at hp;induction it with
  |nm c=>
   replace hp:cond (aw ns c) (some (false,l)) none=some p:=hp;exact cE hp λhn hp=>by obtain rfl:=ack hp;refine kK ?_;exact key c q l [] [] es hn lb (by rw[r.st,es,afU]) rfl rfl
  |inl la ha=>
   cases l with
   |nil=>exact ag hp
   |cons a2 l=>
    obtain⟨CQ,q2⟩:=a2;induction CQ with
    |nm c=>
     replace hp:cond (aw ns c) (some (ha,l)) none=some p:=hp;exact cE hp λhn hp=>by obtain rfl:=ack hp;refine kK ?_;exact key c q2 l [(.inl la ha,q)] (E.bV q) es hn ii.1 (by rw[r.st,es];rfl) ii.2.2 rfl
    |_=>exact ag hp
  |_=>exact ag hp
end
set_option tactic.hygienic false
inductive Ou
 |sign
 |err (w:Str)
 |mark
 |q8 (ns:List Str)
 |tw (ns:List Str)(m:Str)
inductive Oc
 |tA
 |jh
 |fk (x:Str)
 |om
 |yR
 |to (m:Str)
 |hH (c:Bool)
 |text
 |push
 |has (ns:List Str)
 |scope (ns:List Str)
 |tC
 |tD
 |q9 (ns:List Str)
 |pC
inductive Pg
 |ret
 |fail
 |flush
 |gJ
 |ite (c:Bool)(x y:Pg)
 |seq (x y:Pg)
 |u (o:Ou)(k:Pg)
 |ul (o:Ou)
 |op (o:Oc)(k:Str->Bool->Pg)
structure Qt where
 kind:Str
 name:Str
 bl:Bool
 yS:Bool
def eB(t:aS):Qt:=⟨t.kind,t.name,fA t.name,t.name==S "\x00"⟩
def KH(q:Qt):Str:=if q.kind==S "start" then S "unexpected-start-tag"else if q.kind==S "end" then S "unexpected-end-tag"else S "unexpected-text"
def CT(t:aS)(o:Ou)(b:B):Option B:=match o with
 |.sign=>jk b t.name
 |.err w=>fz b w
 |.mark=>uG b
 |.q8 ns=>jj ns b.stack.length b
 |.tw ns m=>lN b ns m
def CU(t:aS)(o:Oc)(b:B)(k:Str->Bool->B->Option B):Option B:=match o with
 |.tA=>(iD b).bind λs=>k s true b
 |.jh=>(gE b).bind λr=>k (S "") true r.2
 |.fk x=>(jS b x []).bind λr=>k (S "") true r.2
 |.om=>(kR b t).bind λr=>k (S "") true r.2
 |.yR=>(w8 b t).bind λr=>k (S "") true r.2
 |.to m=>k (S "") true (b.to m)
 |.hH c=>k (S "") true {b with dO:=c}
 |.text=>k (S "") true {b with aQ:=[],pk:=b.pk+1,old:=none,original:=b.mode,mode:=S "in table text"}
 |.push=>if aC b.aQ.length=true/\t.rest=[]then k (S "") true {b with aQ:=b.aQ++[t.name]}else none
 |.has ns=>(jU b t ns).bind λr=>k (S "") r.1 r.2
 |.scope ns=>(oS b ns).bind λc=>k (S "") c b
 |.tC=>(xf b t).bind λr=>k (S "") r.1 r.2
 |.tD=>(xc b).bind λr=>k (S "") r.1 r.2
 |.q9 ns=>(oW b t ns).bind λr=>k (S "") r.1 r.2
 |.pC=>(si b t).bind λr=>k (S "") r.1 r.2
def Pg.run(t:aS)(P:B->Option B):Pg->B->Option B
 |.ret,b=>some b
 |.fail,_=>none
 |.flush,b=>(uH b).bind λb1=>P (b1.to b1.original)
 |.gJ,b=>P b
 |.ite c x y,b=>if c then x.run t P b else y.run t P b
 |.seq x y,b=>(x.run t P b).bind λb=>y.run t P b
 |.u o k,b=>(CT t o b).bind λb=>k.run t P b
 |.ul o,b=>CT t o b
 |.op o k,b=>CU t o b λx c b=>(k x c).run t P b
noncomputable def yT (l:Option Sk)(s:Sy):Option Sy:=l.bind λl=>some {s with st:=l}
def CV(ns:List Str)(s:Sy):Option Sy:=yT (q7 ns s.st) s
def CW(q:Qt)(o:Ou)(s:Sy):Option Sy:=match o with
 |.sign=>cond (q.kind==S "char") (Kw s) none
 |.err w=>vO w s
 |.mark=>Kx s
 |.q8 ns=>CV ns s
 |.tw ns m=>CP ns m s
def aT(o:Option Sy):Option (Str×Bool×Sy):=o.bind λs=>some (S "",true,s)
def vP(q:Qt)(ns:List Str)(s:Sy):Option (Bool×Sy):=(oh ns s.st).bind λc=>cond c (some (true,s)) ((vO (KH q) s).bind λs=>some (false,s))
def tE(o:Option (Bool×Sy))(f:Sy->Option Sy):Option (Str×Bool×Sy):=o.bind λr=>cond r.1 (aT (f r.2)) (some (S "",false,r.2))
def oo(s:Sy):Option Sy:=yT (Ks s.st) s
noncomputable def Sy.to (s:Sy)(m:Str):Sy:={s with mode:=m}
def Z1(ns:List Str)(s:Sy):Option (Bool×Sy):=(oh ns s.st).bind λc=>some (c,s)
def Z2(s:Sy):Option Sy:=(yT (pA [S "table"] s.st) s).bind Kz
def KI(ns:List Str)(m:Str)(s:Sy):Option Sy:=(CV ns s).bind λs=>(oo s).bind λs=>some (s.to m)
def KJ(q:Qt)(o:Oc)(s:Sy):Option (Str×Bool×Sy):=match o with
 |.tA=>(mP s.st).bind λx=>some (x,true,s)
 |.jh=>aT (oo s)
 |.fk x=>aT (vM x false s)
 |.om=>aT (cond (q.kind==S "start") (vM q.name true s) none)
 |.yR=>aT (cond (q.kind==S "start") ((vM q.name true s).bind λs=>(oo s).bind λs=>some {s with dP:=true}) none)
 |.to m=>some (S "",true,s.to m)
 |.hH c=>some (S "",true,{s with fo:=c})
 |.text=>cond s.bW none (some (S "",true,{s with vI:=s.mode,mode:=S "in table text",oa:=true}))
 |.push=>cond (q.kind==S "char"&&!s.bW) (some (S "",true,{s with bW:=true})) none
 |.has ns=>tE (vP q ns s) some
 |.scope ns=>(oh ns s.st).bind λc=>some (S "",c,s)
 |.tC=>tE (vP q [S "caption"] s) (CP [S "caption"] (S "in table"))
 |.tD=>tE (Z1 [S "table"] s) Z2
 |.q9 ns=>tE (vP q ns s) (KI [S "tbody",S "tfoot",S "thead",S "template",S "html"] (S "in table"))
 |.pC=>tE (vP q [S "tr"] s) (KI [S "tr",S "template",S "html"] (S "in table body"))
def Pg.sy(q:Qt)(P:Sy->Option Sy):Pg->Sy->Option Sy
 |.ret,s=>some s
 |.fail,_=>none
 |.flush,_=>none
 |.gJ,s=>P s
 |.ite c x y,s=>cond c (x.sy q P s) (y.sy q P s)
 |.seq x y,s=>(x.sy q P s).bind λs=>y.sy q P s
 |.u o k,s=>(CW q o s).bind λs=>k.sy q P s
 |.ul o,s=>CW q o s
 |.op o k,s=>(KJ q o s).bind λr=>(k r.1 r.2.1).sy q P r.2.2
structure Tq(E:Eb)(t:aS):Prop where
 as:(t.kind==S "start")=true->jT t=some E.as
 sg:(t.kind==S "char")=true->t.name=E.sg/\t.rest=[]
def oq(E:Eb)(o:Option B)(s':Sy):Prop:=∃b',o=some b'/\Sm E s' b'
def KN(E:Eb)(o:Option (Bool×B))(c:Bool)(s':Sy):Prop:=∃b',o=some (c,b')/\Sm E s' b'
section
variable{E:Eb}{s s':Sy}{b:B}{t:aS}(e:eA E)
theorem Sm.to(r:Sm E s b)(m:Str):Sm E (s.to m) (b.to m):=⟨r.ok.same rfl (afV _) r.ok.ze r.ok.zp (afD _),r.lm,r.st,r.it,r.nd,r.ln,r.er,rfl,r.mr,r.fo,r.ak,r.pe,r.og⟩
include e
theorem vQ(r:Sm E s b)(h:oo s=some s'):∃k b',gE b=some (k,b')/\Sm E s' b':=bE h λl h1 h=>by apply sE h;exact ZQ e r h1
theorem CX(r:Sm E s b)(h:CV ns s=some s'):oq E (jj ns b.stack.length b) s':=bE h λl h1 h=>by refine sE h ?_;refine ao (ZS e s.st s b r rfl h1) λx e1 e2=>?_;rw[r.st];exact⟨_,e2,(r.gh e1).2⟩
theorem Z3(r:Sm E s b)(h:yT (pA ns s.st) s=some s'):∃k b',ji ns b.stack.length b=some (k,b')/\Sm E s' b':=bE h λl h1 h=>by apply sE h;refine cQ (ZR e s.st s b r rfl h1) λi x e1 e2=>?_;exact r.st▸⟨i,_,e2,(r.gh e1).2⟩
theorem yU(r:Sm E s b)(h:oh ns s.st=some c):oS b ns=some c:=by unfold oS;rw[if_pos (dg (r.z e)),r.st];exact ZT e r s.st [] rfl h
theorem pD(r:Sm E s b)(h:vP (eB t) ns s=some (c,s')):KN E (jU b t ns) c s':=bE h λc' h1 h=>by
 have h1:=yU e r h1;unfold jU;rw[h1];induction c' with
 |true=>cases h;exact⟨b,rfl,r⟩
 |false=>
  exact bE h λs1 h2 h=>by cases h;refine ao (CS r e h2) λb' e1 r'=>?_;exact⟨b',(oB _ e1).trans rfl,r'⟩
omit e in
theorem vR (h:tE o F=some (x,c,s')){X:Bool->Sy->Prop}(g:∀s1,o=some (true,s1)->F s1=some s'->x=S ""->X true s')(g':o=some (false,s')->x=S ""->X false s'):X c s':=bE h λr h1 h=>by
 obtain⟨c',s1⟩:=r;induction c' with
 |true=>exact bE h λs2 h2 h=>by cases h;exact g s1 h1 h2 rfl
 |false=>cases h;exact g' h1 rfl
theorem KO(T:Tq E t)(r:Sm E s b)(h:CW (eB t) o s=some s'):oq E (CT t o b) s':=by
 induction o with
 |sign=>exact cE h λhc h=>by show oq E (jk b t.name) s';rw[(T.sg hc).1];exact ZX r e h
 |err w=>exact CS r e h
 |mark=>exact ZY r e h
 |q8 ns=>exact CX e r h
 |tw ns m=>exact KD r e h
def rg(E:Eb)(t:aS)(o:Oc)(b:B)(x:Str)(c:Bool)(s':Sy):Prop:=∃b',(∀k,CU t o b k=k x c b')/\Sm E s' b'
theorem KP(T:Tq E t)(r:Sm E s b)(h:cond ((eB t).kind==S "start") (vM (eB t).name true s) none=some s'):∃n b',kR b t=some (n,b')/\Sm E s' b':=cE h λhc h=>by unfold kR;rw[T.as hc];exact KA r e h
omit e in
theorem mR (hf:∀k,CU t o b k=f.bind λr=>k (S "") r.1 r.2)(hx:x=S "")(h:KN E f c s'):rg E t o b x c s':=by refine ao h λb' e1 r=>?_;exact⟨b',λk=>by rw[hf,e1,hx];rfl,r⟩
theorem Z4(T:Tq E t)(r:Sm E s b)(h:KJ (eB t) o s=some (x,c,s')):rg E t o b x c s':=by
 induction o with
 |tA=>exact bE h λy h1 h=>by cases h;exact⟨b,λk=>oB _ (ZP e r h1),r⟩
 |jh=>exact bE h λy h1 h=>by cases h;refine cQ (vQ e r h1) λk b' e1 r'=>?_;exact⟨b',λk=>oB _ e1,r'⟩
 |fk y=>exact bE h λy h1 h=>by cases h;refine cQ (KA r e h1) λk b' e1 r'=>?_;exact⟨b',λk=>oB _ e1,r'⟩
 |om=>exact bE h λy h1 h=>by cases h;refine cQ (KP e T r h1) λk b' e1 r'=>?_;exact⟨b',λk=>oB _ e1,r'⟩
 |yR=>
  exact bE h λy h1 h=>by cases h;refine cE h1 λhc g1=>bE g1 λs1 g2 g3=>bE g3 λs2 g4 h3=>?_;refine sE h3 ?_;refine cQ (KP (s':=s1) e T r (by exact hc.symm▸g2)) λk b1 e1 r1=>?_;refine cQ (vQ e r1 g4) λk2 b2 e2 r2=>?_;have e3:w8 b t=some (k,{b2 with dP:=true}):=(oB _ e1).trans (oB _ e2);exact⟨_,λk=>oB _ e3,⟨r2.ok.same rfl (afV _) r2.ok.ze r2.ok.zp (afD _),r2.lm,r2.st,r2.it,r2.nd,r2.ln,r2.er,r2.md,r2.mr,r2.fo,rfl,r2.pe,r2.og⟩⟩
 |to m=>cases h;exact⟨_,λk=>rfl,r.to m⟩
 |hH c=>cases h;exact⟨_,λk=>rfl,⟨r.ok.same rfl (afV _) r.ok.ze r.ok.zp (afD _),r.lm,r.st,r.it,r.nd,r.ln,r.er,r.md,r.mr,rfl,r.ak,r.pe,r.og⟩⟩
 |text=>
  replace h:cond s.bW none (some (S "",true,{s with vI:=s.mode,mode:=S "in table text",oa:=true}))=some (x,c,s'):=h;cases hp:s.bW with
  |true=>exact ag (hp▸h)
  |false=>
   replace h:=hp▸h;cases h;exact⟨_,λk=>rfl,⟨r.ok.same rfl (afV _) r.ok.ze (afO _) (afD _),r.lm,r.st,r.it,r.nd,r.ln,r.er,rfl,r.mr,r.fo,r.ak,rfl,λ_=>r.md⟩⟩
 |push=>
  exact cE h λhc h=>by
   cases h;rw[afz,afY]at hc;have hp:b.aQ=[]:=by rw[r.pe,hc.2];rfl
   have:=e.N1;refine⟨_,λk=>if_pos ⟨by rw[hp];rfl,(T.sg hc.1).2⟩,⟨r.ok.same rfl (afV _) r.ok.ze ?_ (afD _),r.lm,r.st,r.it,r.nd,r.ln,r.er,r.md,r.mr,r.fo,r.ak,by show b.aQ++[t.name]=_;rw[hp,(T.sg hc.1).1];rfl,r.og⟩⟩;show(b.aQ++[t.name]).length<=E.N+(s.tr.length+s.bT.length);rw[hp,List.nil_append,afW];exact agY this
 |has ns=>exact vR (X:=λc s'=>rg E t (.has ns) b x c s') h (λs1 h1 h2 hx=>by refine sE h2 ?_;exact mR (λk=>rfl) hx (pD e r h1)) λh1 hx=>mR (λk=>rfl) hx (pD e r h1)
 |scope ns=>exact bE h λy h1 h=>by cases h;exact⟨b,λk=>oB _ (yU e r h1),r⟩
 |tC=>
  exact vR (X:=λc s'=>rg E t .tC b x c s') h (λs1 h1 h2 hx=>mR (λk=>rfl) hx (by
   refine ao (pD e r h1) λb1 e1 r1=>?_;refine ao (KD r1 e h2) λb2 e2 r2=>?_;exact⟨b2,(oB _ e1).trans ((iF _ _ rfl).trans (oB _ e2)),r2⟩)) λh1 hx=>mR (λk=>rfl) hx (by
   refine ao (pD e r h1) λb1 e1 r1=>?_;exact⟨b1,(oB _ e1).trans (iT _ _ rfl),r1⟩)
 |tD=>
  exact vR (X:=λc s'=>rg E t .tD b x c s') h (λs1 h1 h2 hx=>mR (λk=>rfl) hx (bE h1 λc1 h3 h1=>by
   cases h1;refine bE h2 λs2 h4 h5=>?_;refine cQ (Z3 e r h4) λk b1 e1 r1=>?_;refine ao (ZZ r1 e h5) λb2 e2 r2=>?_;exact⟨b2,(oB _ (yU e r h3)).trans ((iF _ _ rfl).trans ((oB _ e1).trans (oB _ e2))),r2⟩)) λh1 hx=>mR (λk=>rfl) hx (bE h1 λc1 h3 h1=>by
   cases h1;exact⟨b,(oB _ (yU e r h3)).trans (iT _ _ rfl),r⟩)
 |q9 ns=>
  exact vR (X:=λc s'=>rg E t (.q9 ns) b x c s') h (λs1 h1 h2 hx=>mR (λk=>rfl) hx (bE h2 λs2 g2 g3=>bE g3 λs3 g4 h4=>by
   refine sE h4 ?_;refine ao (pD e r h1) λb1 e1 r1=>?_;refine ao (CX e r1 g2) λb2 e2 r2=>?_;refine cQ (vQ e r2 g4) λk b3 e3 r3=>?_;exact⟨b3.to _,(oB _ e1).trans ((iF _ _ rfl).trans ((oB _ e2).trans (oB _ e3))),r3.to _⟩)) λh1 hx=>mR (λk=>rfl) hx (by
   refine ao (pD e r h1) λb1 e1 r1=>?_;exact⟨b1,(oB _ e1).trans (iT _ _ rfl),r1⟩)
 |pC=>
  exact vR (X:=λc s'=>rg E t .pC b x c s') h (λs1 h1 h2 hx=>mR (λk=>rfl) hx (bE h2 λs2 g2 g3=>bE g3 λs3 g4 h4=>by
   refine sE h4 ?_;refine ao (pD e r h1) λb1 e1 r1=>?_;refine ao (CX e r1 g2) λb2 e2 r2=>?_;refine cQ (vQ e r2 g4) λk b3 e3 r3=>?_;exact⟨b3.to _,(oB _ e1).trans ((iF _ _ rfl).trans ((oB _ e2).trans (oB _ e3))),r3.to _⟩)) λh1 hx=>mR (λk=>rfl) hx (by
   refine ao (pD e r h1) λb1 e1 r1=>?_;exact⟨b1,(oB _ e1).trans (iT _ _ rfl),r1⟩)
theorem Pg.ok(T:Tq E t)(hP:∀s s' b,Sm E s b->P s=some s'->oq E (Q b) s'):∀(p:Pg) (s s':Sy) (b:B),Sm E s b->p.sy (eB t) P s=some s'->oq E (p.run t Q b) s':=λp=>by
 induction p with
 |ret=>intro s s' b r h;refine sE h ?_;exact⟨b,rfl,r⟩
 |fail=>intro s s' b r h;exact ag h
 |flush=>intro s s' b r h;exact ag h
 |gJ=>exact hP
 |ite c x y ix iy=>
  intro s s' b r h;induction c with
  |true=>exact ix s s' b r h
  |false=>exact iy s s' b r h
 |seq x y ix iy=>
  exact λs s' b r h=>bE h λs1 h1 h=>by refine ao (ix s s1 b r h1) λb1 e1 r1=>?_;refine ao (iy s1 s' b1 r1 h) λb2 e2 r2=>?_;exact⟨b2,(oB _ e1).trans e2,r2⟩
 |u o k ik=>
  exact λs s' b r h=>bE h λs1 h1 h=>by refine ao (KO e T r h1) λb1 e1 r1=>?_;refine ao (ik s1 s' b1 r1 h) λb2 e2 r2=>?_;exact⟨b2,(oB _ e1).trans e2,r2⟩
 |ul o=>exact λs s' b r h=>KO e T r h
 |op o k ik=>
  exact λs s' b r h=>bE h λa h1 h=>by refine ao (Z4 e T r h1) λb1 e1 r1=>?_;refine ao (ik _ _ _ s' b1 r1 h) λb2 e2 r2=>?_;exact⟨b2,(e1 _).trans e2,r2⟩
end
noncomputable abbrev eX (o:Oc)(k:Pg):Pg:=.op o λ_ _=>k
noncomputable abbrev i9 (o:Oc)(k:Bool->Pg):Pg:=.op o λ_ c=>k c
def pF(q:Qt):Pg:=
 .ite (q.kind==S "char") (.ul .sign)<|
 .ite (q.kind==S "start"&&aw [S "a",S "p",S "table"] q.name) (eX .om (.ite (q.name==S "table") (eX (.to (S "in table")) .ret) .ret))<|
 .ite (q.kind==S "end") (.op .tA λs _=>.ite (s==q.name) (eX .jh .ret) .ret) .ret
def CY(q:Qt):Pg:=.u (.err (S "foster-parented")) (eX (.hH true) (.seq (pF q) (eX (.hH false) .ret)))
def Z5(q:Qt):Pg:=.u (.q8 [S "table",S "template",S "html"])<|
 .ite (q.name==S "caption") (.u .mark (eX .om (eX (.to (S "in caption")) .ret)))<|
 .ite (q.name==S "colgroup") (eX .om (eX (.to (S "in column group")) .ret))<|
 .ite (q.name==S "col") (eX (.fk (S "colgroup")) (eX (.to (S "in column group")) .gJ))<|
 .ite (aw [S "tbody",S "tfoot",S "thead"] q.name) (eX .om (eX (.to (S "in table body")) .ret))<|
 eX (.fk (S "tbody")) (eX (.to (S "in table body")) .gJ)
def Z6(q:Qt):Pg:=.u (.err (S "unexpected-start-tag")) (i9 .tD λc=>.ite c .gJ .ret)
def Z7(q:Qt):Pg:=
 .ite (aw [S "caption",S "colgroup",S "col",S "tbody",S "tfoot",S "thead",S "td",S "th",S "tr"] q.name) (Z5 q)<|
 .ite (q.name==S "table") (Z6 q)<|
 .ite (aw [S "style",S "script",S "template"] q.name) .fail<|
 .ite (q.name==S "input") .fail<|
 .ite (q.name==S "form") .fail (CY q)
def Z8(q:Qt):Pg:=
 .ite (q.name==S "table") (i9 .tD λc=>.ite (!c) (.ul (.err (S "unexpected-end-tag"))) .ret)<|
 .ite (q.name==S "template") .fail<|
 .ite (aw [S "body",S "caption",S "col",S "colgroup",S "html",S "tbody",S "td",S "tfoot",S "th",S "thead",S "tr"] q.name) (.ul (.err (S "unexpected-end-tag"))) (CY q)
def Z9(q:Qt):Pg:=.op .tA λs _=>.ite (aw [S "table",S "tbody",S "template",S "tfoot",S "thead",S "tr"] s) (eX .text .gJ) (CY q)
def rh(q:Qt):Pg:=
 .ite (q.kind==S "char") (Z9 q)<|
 .ite (q.kind==S "start") (Z7 q)<|
 .ite (q.kind==S "end") (Z8 q)<|
 .ite (q.kind==S "comment") .fail<|
 .ite (q.kind==S "doctype") (.ul (.err (S "unexpected-doctype"))) (pF q)
def aaa(q:Qt):Pg:=
 .ite (q.kind !=S "char") .flush<|.ite q.yS (.ul (.err (S "unexpected-null-character"))) (eX .push .ret)
def aab(q:Qt):Pg:=
 .ite (q.kind==S "end"&&q.name==S "caption") (i9 .tC λ_=>.ret)<|
 .ite (q.kind==S "start"&&aw jQ q.name||(q.kind==S "end"&&q.name==S "table")) (i9 .tC λc=>.ite c .gJ .ret)<|
 .ite (q.kind==S "end"&&(aw [S "body",S "html"] q.name||aw jQ q.name)) (.ul (.err (S "unexpected-end-tag"))) (pF q)
def KQ(q:Qt)(again:Bool):Pg:=.op .tA λs _=>.ite (s !=S "colgroup") (.ul (.err (KH q))) (eX .jh (.ite again (eX (.to (S "in table")) .gJ) (eX (.to (S "in table")) .ret)))
def aac(q:Qt):Pg:=
 .ite (q.name==S "template") .fail<|
 .ite (q.kind==S "start"&&q.name==S "html") (pF q)<|
 .ite (q.kind==S "start"&&q.name==S "col") (eX .yR .ret)<|
 .ite (!(q.kind==S "start")&&q.name==S "col") (.ul (.err (S "unexpected-end-tag")))<|
 KQ q (q.kind==S "start"||q.name !=S "colgroup")
def aad(q:Qt):Pg:=
 .ite (q.kind==S "start"||q.kind==S "end") (aac q)<|
 .ite (q.kind==S "comment") .fail<|
 .ite (q.kind==S "doctype") (.ul (.err (S "unexpected-doctype")))<|
 .ite (q.kind==S "eof") (pF q)<|
 .ite (q.kind==S "char"&&q.bl) (.ul .sign) (KQ q true)
def aae(q:Qt):Pg:=
 .ite (q.name==S "tr") (.u (.q8 [S "tbody",S "tfoot",S "thead",S "template",S "html"]) (eX .om (eX (.to (S "in row")) .ret)))<|
 .ite (aw [S "td",S "th"] q.name) (.u (.err (S "unexpected-start-tag")) (.u (.q8 [S "tbody",S "tfoot",S "thead",S "template",S "html"]) (eX (.fk (S "tr")) (eX (.to (S "in row")) .gJ))))<|
 .ite (aw jQ q.name) (i9 (.q9 [S "tbody",S "tfoot",S "thead"]) λc=>.ite c .gJ .ret) (rh q)
def aaf(q:Qt):Pg:=
 .ite (aw [S "tbody",S "tfoot",S "thead"] q.name) (i9 (.q9 [q.name]) λ_=>.ret)<|
 .ite (q.name==S "table") (i9 (.q9 [S "tbody",S "tfoot",S "thead"]) λc=>.ite c .gJ .ret)<|
 .ite (aw [S "body",S "caption",S "col",S "colgroup",S "html",S "td",S "th",S "tr"] q.name) (.ul (.err (S "unexpected-end-tag"))) (rh q)
def aag(q:Qt):Pg:=.ite (q.kind==S "start") (aae q)<|.ite (q.kind==S "end") (aaf q) (rh q)
def aah(q:Qt):Pg:=
 .ite (aw [S "td",S "th"] q.name) (.u (.q8 [S "tr",S "template",S "html"]) (eX .om (eX (.to (S "in cell")) (.ul .mark))))<|
 .ite (aw jQ q.name) (i9 .pC λc=>.ite c .gJ .ret) (rh q)
def aai(q:Qt):Pg:=
 .ite (q.name==S "tr") (i9 .pC λ_=>.ret)<|
 .ite (q.name==S "table") (i9 .pC λc=>.ite c .gJ .ret)<|
 .ite (aw [S "tbody",S "tfoot",S "thead"] q.name) (i9 (.has [q.name]) λc=>.ite c (i9 (.scope [S "tr"]) λc=>.ite c (i9 .pC λ_=>.gJ) .ret) .ret)<|
 .ite (aw [S "body",S "caption",S "col",S "colgroup",S "html",S "td",S "th"] q.name) (.ul (.err (S "unexpected-end-tag"))) (rh q)
def aaj(q:Qt):Pg:=.ite (q.kind==S "start") (aah q)<|.ite (q.kind==S "end") (aai q) (rh q)
def aak(q:Qt):Pg:=
 .ite (aw [S "td",S "th"] q.name) (i9 (.has [q.name]) λc=>.ite c (.ul (.tw [q.name] (S "in row"))) .ret)<|
 .ite (aw [S "body",S "caption",S "col",S "colgroup",S "html"] q.name) (.ul (.err (S "unexpected-end-tag")))<|
 .ite (aw [S "table",S "tbody",S "tfoot",S "thead",S "tr"] q.name) (i9 (.has [q.name]) λc=>.ite c (.u (.tw [S "td",S "th"] (S "in row")) .gJ) .ret) (pF q)
def aal(q:Qt):Pg:=
 .ite (q.kind==S "end") (aak q)<|
 .ite (q.kind==S "start"&&aw jQ q.name) (i9 (.has [S "td",S "th"]) λc=>.ite c (.u (.tw [S "td",S "th"] (S "in row")) .gJ) .ret) (pF q)
def KR(q:Qt)(mode:Str):Pg:=
 .ite (mode==S "in caption") (aab q)<|
 .ite (mode==S "in column group") (aad q)<|
 .ite (mode==S "in table body") (aag q)<|
 .ite (mode==S "in row") (aaj q)<|
 .ite (mode==S "in cell") (aal q)<|
 .ite (mode==S "in table") (rh q)<|
 .ite (mode==S "in table text") (aaa q)<|
 .ite (mode==S "in body") (pF q) .fail
theorem aam(p:cu)(mode:Str)(b:B)(t:aS):qu p mode b t=(KR (eB t) mode).run t (λb=>p b t) b:=rfl
def aan(k:Sk):Bool:=(tv k).isSome
def CZ(q:Qt):Nat->Sy->Option Sy
 |0,_=>none
 |n+1,s=>cond (aan s.st) ((KR q s.mode).sy q (CZ q n) s) none
theorem KS(O:Ok b N)(hN:N<=800000){st:List Int}(h:b.stack=st++[k]):oX b=some ():=by refine gN (nN O hN (k:=k) (by rw[h];simp)) λi x _ _ e _ _=>?_;unfold oX;exact(oB _ (xK h (by have:=O.zs;exact bt (ads this hN)))).trans (oB _ e)
theorem KU(e:eA E)(T:Tq E t):∀(n:Nat) (s s':Sy) (b:B),Sm E s b->CZ (eB t) n s=some s'->oq E (jl n b t) s'
 |0,_,_,_,_,h=>nomatch h
 |n+1,s,s',b,r,h=>cE h λhc h=>by refine aI (Option.isSome_iff_exists.mp hc) λq hq=>?_;refine ao (r.dT hq) λk _ hh=>aI hh λst hs=>?_;have e1:jl (n+1) b t=qu (jl n) b.mode b t:=oB _ (KS r.ok (r.hN e) hs);rw[e1,aam,r.md];exact Pg.ok e T (KU e T n) _ _ _ _ r h
inductive Cs
 |gy (m:Str)(k:Nat)
 |pG
 |jD (fl:Bool)(ha:Option Bool)
 |dT (ps:List Str)(m:Str)(fl:Bool)(ha:Option Bool)(k:Nat)(z:Sk)(ks:List Sk)
def jE(ps:List Str):Bool:=(nO.lookup ps).isSome
def yV:Cs->Option (Str×Nat)
 |.gy m k=>some (m,k)
 |.pG=>none
 |.jD _ _=>some (S "in body",0)
 |.dT ps m _ _ k _ _=>cond (jE ps) (some (m,k+1)) none
noncomputable def C0 (a b:Option Bool):Option Bool:=a.bind λx=>b.bind λy=>some (x||y)
def yW(a:Option Bool):Cs->Option Cs
 |.gy m k=>some (.gy m k)
 |.pG=>none
 |.jD _ ha=>some (.jD true (C0 ha a))
 |.dT ps m _ ha k z ks=>some (.dT ps m true (C0 ha a) k z ks)
def aao(e:Itm×Rf)(r:Sk)(x:Str):Cs->Option Cs
 |.dT ps m fl _ k z ks=>cond fl none ((lU.lookup (ps++[x])).bind λm'=>some (.dT (ps++[x]) m' false (some false) k z (ks++[e::r])))
 |_=>none
noncomputable def aap:Cs->Option Cs
 |.pG=>some (.jD false (some false))
 |_=>none
noncomputable def yX:Sk->Bool
 |[]=>true
 |_::_=>false
def clN(e:Itm×Rf)(r:Sk)(c:Option Cs)(x:Str):Option Cs:=
 cond (TF x) (c.bind (yW (some (x==S "a"))))<|cond (x==S "html") (cond (yX r) (some .pG) none)<|cond (x==S "body") (c.bind aap)<|
 cond (x==S "table") (c.bind λc=>(yV c).bind λp=>some (.dT [] (S "in table") false (some false) p.2 r [e::r])) (c.bind (aao e r x))
def clI(e:Itm×Rf)(r:Sk)(c:Option Cs):Itm->Option Cs
 |.pre m=>cond (yX r) (some (.gy m 0)) none
 |.any=>c.bind (yW none)
 |.inl _ ha=>c.bind (yW (some ha))
 |.nm x=>clN e r c x
def rj:Sk->Option Cs
 |[]=>none
 |e::r=>clI e r (rj r) e.1
def vS(inl:List Str)(fl:Bool)(ha:Option Bool):Prop:=ap inl/\(fl=false->inl=[])/\∀v,ha=some v->inl.isEmpty=!fl/\aw inl (S "a")=v
structure aaq(E:Eb)(f:Int->Str)(l:Sk)(ps:List Str)(m:Str)(k:Nat)(z:Sk)(ks:List Sk)(inl:List Str)(mo:Str):Prop where
 ja:eZ ps m
 gy:dX ((E.ids z).map f) mo
 mr:dJ ((E.ids z).map f)=E.ms++List.replicate k (-1)
 ns:(E.ids l).map f=(E.ids z).map f++S "table"::(ps++inl)
 zx:∃x,l=x++z
 ks:∀(j:Nat) sk,ks[j]?=some sk->(∃x,l=x++sk)/\(E.ids sk).length=(E.ids z).length+1+j
def pH(E:Eb)(f:Int->Str)(l:Sk):Cs->Prop
 |.gy m k=>dX ((E.ids l).map f) m/\dJ ((E.ids l).map f)=E.ms++List.replicate k (-1)
 |.pG=>(E.ids l).map f=[S "html"]/\E.ms=[]
 |.jD fl ha=>E.ms=[]/\∃inl,(E.ids l).map f=S "html"::S "body"::inl/\vS inl fl ha
 |.dT ps m fl ha k z ks=>ks.length=ps.length+1/\∃inl mo,vS inl fl ha/\aaq E f l ps m k z ks inl mo
theorem KW{α β:Type}[BEq α][LawfulBEq α]{l:List (α×β)}{x:α}{v:β}(h:l.lookup x=some v):(x,v)∈l:=by
 induction l with
 |nil=>exact ag h
 |cons a r ih=>
  rw[afP]at h;cases q:x==a.1 with
  |true=>rw[q]at h;apply sE h;rw[afI.mp q];exact .head _
  |false=>rw[q]at h;exact .tail _ (ih h)
theorem aar:lU.all (λp=>dJ p.1==cond (jE p.1) [-1] [])=true:=rfl
theorem aas:lU.all (λp=>cond (jE p.1) ((nO.lookup p.1)==some p.2) true)=true:=rfl
theorem aat(h:eZ ps m):dJ ps=cond (jE ps) [-1] []:=afI.mp (eW aar h)
theorem aau{m:Str}(h:eZ ps m)(g:jE ps=true):Holds ps m:=by have:=eW aas h;dsimp only at this;rw[g]at this;exact KW (afI.mp this)
theorem yY(h:eZ ps m)(ha:ap inl):dJ (pre++S "table"::(ps++inl))=dJ pre++cond (jE ps) [-1] []:=by rw[show pre++S "table"::(ps++inl)=pre++([S "table"]++(ps++inl))from rfl,tj,tj,tj,yO ha,aat h,afU];exact afE (dJ pre++·) (by rw[show dJ [S "table"]=[] by kernel_rfl];rfl)
section
variable{E:Eb}{f:Int->Str}
theorem KY(h:pH E f l c)(g:yV c=some (m,k)):dX ((E.ids l).map f) m/\dJ ((E.ids l).map f)=E.ms++List.replicate k (-1):=by
 induction c with
 |gy=>cases g;exact h
 |pG=>exact ag g
 |jD fl ha=>
  cases g;obtain⟨h1,inl,h2,h3⟩:=h;rw[h2,h1];exact⟨.base h3.1,(tj (a:=[S "html",S "body"])).trans (by rw[yO h3.1,show dJ [S "html",S "body"]=[] by kernel_rfl];rfl)⟩
 |dT ps m' fl ha k' z ks=>
  exact cE g λhh g=>by cases g;refine cps λG k=>?_;obtain⟨_,inl,mo,h1,h2⟩:=h;refine k ?_;rw[h2.ns];refine⟨.tab h2.gy (aau h2.ja hh) h1.1,?_⟩;rw[yY h2.ja h1.1,hh,h2.mr,afJ,List.replicate_succ'];rfl
theorem vS.add(h:vS inl fl ha)(h2:ap l2)(h3:∀v,a=some v->l2.isEmpty=false/\aw l2 (S "a")=v):vS (inl++l2) true (C0 ha a):=by
 refine⟨ve.mpr ⟨h.1,h2⟩,λz=>(nomatch z),λv hv=>?_⟩;refine bE hv λx e1 hv=>bE hv λy e2 hv=>?_;apply sE hv;obtain⟨f1,f2⟩:=h.2.2 x e1;obtain⟨g1,g2⟩:=h3 y e2;refine⟨?_,?_⟩
 ·show(inl++l2).isEmpty=false;rw[List.isEmpty_eq_false_iff]at g1 ⊢;exact λz=>g1 (List.append_eq_nil_iff.mp z).2
 ·unfold aw at f2 g2 ⊢;rw[List.any_append,f2,g2]
theorem C4(h:pH E f r c)(g:yW a c=some c')(h2:ap ((E.bV e.2).map f))(h3:∀v,a=some v->((E.bV e.2).map f).isEmpty=false/\aw ((E.bV e.2).map f) (S "a")=v):pH E f (e::r) c':=by
 have es:(E.ids (e::r)).map f=(E.ids r).map f++(E.bV e.2).map f:=afR;induction c with
 |pG=>exact ag g
 |gy m k=>
  apply sE g;show dX ((E.ids (e::r)).map f) m/\dJ ((E.ids (e::r)).map f)=_;rw[es,tj,yO h2,afU];refine⟨?_,h.2⟩;have h1:=h.1;generalize(E.ids r).map f=ns at h1;cases h1 with
  |base ha=>exact dX.base (ve.mpr ⟨ha,h2⟩)
  |tab h hp ha=>rw[afJ,agV,afJ];exact .tab h hp (ve.mpr ⟨ha,h2⟩)
 |jD fl ha=>
  apply sE g;obtain⟨h1,inl,h4,h5⟩:=h;exact⟨h1,inl++(E.bV e.2).map f,by rw[es,h4];rfl,h5.add h2 h3⟩
 |dT ps m fl ha k z ks=>
  apply sE g;refine cps λG k=>?_;obtain⟨h0,inl,mo,h4,h5⟩:=h;obtain⟨x,hx⟩:=h5.zx;refine k ?_;refine⟨h0,inl++(E.bV e.2).map f,mo,h4.add h2 h3,⟨h5.ja,h5.gy,h5.mr,?_,⟨e::x,by rw[hx];rfl⟩,λj sk hj=>?_⟩⟩
  ·rw[es,h5.ns,afJ,agV,afJ]
  ·obtain⟨⟨y,hy⟩,hl⟩:=h5.ks j sk hj;exact⟨⟨e::y,by rw[hy];rfl⟩,hl⟩
theorem C5(h:yX r=true):r=[]:=by induction r;rfl;cases h
theorem aav:∀(l:Sk) (c:Cs),rj l=some c->(∀e∈l,q6 E.ms e.1 ((E.bV e.2).map f))->pH E f l c:=λkK=>by
 induction kK with
 |nil=>exact λ_ h _=>nomatch h
 |cons aA r ih=>
  obtain⟨it,q⟩:=aA;rintro c h hi;have ih:=λc h=>ih c h λe he=>hi e (.tail _ he);have i0:=hi (it,q) (.head _);have es:(E.ids ((it,q)::r)).map f=(E.ids r).map f++(E.bV q).map f:=afR;induction it with
  |pre m=>
   refine cE h λhn h=>?_;apply sE h;rw[C5 hn]at es ⊢;show dX ((E.ids [(.pre m,q)]).map f) m/\dJ ((E.ids [(.pre m,q)]).map f)=_;exact es▸⟨i0.1,i0.2.trans (afU _).symm⟩
  |any=>exact bE h λc1 h1 h=>C4 (ih c1 h1) h i0 λv z=>nomatch z
  |inl la ha=>
   exact bE h λc1 h1 h=>C4 (ih c1 h1) h i0.1 λv z=>by apply sE z;exact⟨List.isEmpty_eq_false_iff.mpr λz=>(by have:=i0.2.1;rw[z]at this;exact nomatch this),i0.2.2⟩
  |nm x=>
   obtain⟨i1,i2⟩:=i0;replace i1:(E.bV q).map f=[x]:=i1;replace es:=i1▸es;refine dE h (λhx h=>bE h λc1 h1 h=>?_) λ_ h=>dE h (λhx h=>cE h λhn h=>?_) λ_ h=>dE h (λhx h=>bE h λc1 h1 h=>?_) λ_ h=>dE h (λhx h=>bE h λc1 h1 h=>bE h λp h2 h=>?_) λ_ h=>bE h λc1 h1 h=>?_
   ·refine C4 (ih c1 h1) h (λy hy=>?_) λv z=>?_
    ·rw[i1,af0]at hy;exact hy▸(Bool.or_eq_true_iff.mp hx).imp afI.mp afI.mp
    ·apply sE z;exact i1▸⟨rfl,Bool.or_false _⟩
   ·apply sE h;have hx:=afI.mp hx;rw[C5 hn,hx]at es ⊢;exact⟨es,i2 hx⟩
   ·induction c1 with
    |pG=>
     apply sE h;obtain⟨j1,j2⟩:=ih _ h1;exact⟨j2,[],by rw[es,j1,afI.mp hx];rfl,lb,λ_=>rfl,λv z=>by apply sE z;exact⟨rfl,rfl⟩⟩
    |_=>exact ag h
   ·apply sE h;obtain⟨m,k⟩:=p;obtain⟨j1,j2⟩:=KY (ih _ h1) h2;refine⟨rfl,[],m,⟨lb,λ_=>rfl,λv z=>by apply sE z;exact⟨rfl,rfl⟩⟩,⟨.plain (.head _),j1,j2,by rw[es,afI.mp hx];rfl,⟨[_],rfl⟩,λj sk hj=>?_⟩⟩;induction j with
    |zero=>
     apply sE hj;have:=afE List.length es;rw[afA,afC,afA]at this;exact⟨⟨[],rfl⟩,this⟩
    |succ j=>exact ag hj
   ·induction c1 with
    |dT ps m fl ha k z ks=>
     replace h:cond fl none ((lU.lookup (ps++[x])).bind λm'=>some (.dT (ps++[x]) m' false (some false) k z (ks++[(.nm x,q)::r])))=some c:=h;induction fl with
     |true=>exact ag h
     |false=>
      refine bE h λm' h2 h=>?_;apply sE h;refine cps λG k=>?_;obtain⟨h0,inl,mo,h4,h5⟩:=ih _ h1;have e0:=h4.2.1 rfl;refine k ?_;subst e0;obtain⟨y,hy⟩:=h5.zx;have eE:=h5.ns;rw[afU]at eE;refine⟨by rw[afC,afC,h0];rfl,[],mo,⟨lb,λ_=>rfl,λv z=>by apply sE z;exact⟨rfl,rfl⟩⟩,⟨KW h2,h5.gy,h5.mr,by rw[es,eE,afJ,afU];rfl,⟨(.nm x,q)::y,by rw[hy];rfl⟩,λj sk hj=>?_⟩⟩;by_cases C6:j<ks.length
      ·rw[agb C6]at hj;obtain⟨⟨y,hy⟩,hl⟩:=h5.ks j sk hj;exact⟨⟨(.nm x,q)::y,by rw[hy];rfl⟩,hl⟩
      ·rw[agj (agh C6)]at hj;have:j-ks.length=0:=by
        cases z:j-ks.length with
        |zero=>rfl
        |succ=>rw[z]at hj;exact ag hj
       replace hj:=this▸hj;apply sE hj;have e1:=afE List.length es;have e2:=afE List.length eE;rw[afA,afC,afA]at e1;rw[afA,afC,afA,af6]at e2;refine⟨⟨[],rfl⟩,?_⟩;rw[e1,e2,show j=ks.length from by exact Nat.le_antisymm (Nat.le_of_sub_eq_zero this) (agh C6),h0];show _+1=_;exact(Nat.add_right_comm _ _ _)
    |_=>exact ag h
end
structure Vw where
 ps:List Str
 m:Str
 fl:Bool
 ha:Bool
 z:Sk
 ks:List Sk
def Vw.hd(v:Vw):Bool:=fB v.ps
noncomputable def pI (c:Bool)(f:Sy->Option Sy)(s:Sy):Option Sy:=cond c (f s) (some s)
def vU(x:Str)(own:Bool)(s:Sy):Option Sy:=cond (ah s&&(!s.pt&&!(x==S "html"))) ((tv s.st).bind λq=>some (s.el q false x own)) none
def KZ:Sk->Option Rf
 |(.pre _,q)::r=>cond (yX r) (some q) none
 |_=>none
def K0(z:Sk)(x:Str)(s:Sy):Option Sy:=cond (ah s&&(!s.pt&&(!(x==S "html")&&!(x==S "table")))) ((KZ z).bind λq=>some (s.el q true x true)) none
def vV(v:Vw)(t:Sk)(s:Sy):Option Sy:=(pI (v.hd&&v.ha) (oj (S "open-elements") v.m) s).bind λs=>some {s with st:=t}
def C7:List Str->Sy->Option Sy
 |[],s=>some s
 |x::r,s=>(pI (x==S "tr") (oj (S "unexpected-start-tag") (S "in table body")) s).bind λs=>(vU x false s).bind λs=>C7 r s
def K1(v:Vw)(x:Str)(s:Sy):Option Sy:=
 (v.ks[lQ (gd v.ps) (kW x) (kW x).length 0]?).bind λt=>(vV v t s).bind λs=>(C7 ((kW x).drop (lQ (gd v.ps) (kW x) (kW x).length 0)) s).bind λs=>
 (vU x true s).bind λs=>cond (x==S "col") (oo s) (some s)
def nv:Str:=S "non-void-html-element-start-tag-with-trailing-solidus"
def C8(q:Qt)(out:Bool)(fo:Option Sk)(m:Str)(s:Sy):Option Sy:=
 (pI out (oj (S "foster-parented") m) s).bind λs=>
 cond (q.kind==S "end") ((mP s.st).bind λy=>pI (y==q.name) oo s)
  (cond (q.kind==S "start") (cond (aw [S "a",S "p",S "table"] q.name) (cG fo (λz=>K0 z q.name s) (vU q.name true s)) (pI (q.name==S "col") (oj nv m) s)) none)
def C9(q:Qt)(v:Vw)(s:Sy):Option Sy:=
 cond (aw [S "a",S "p"] q.name||((q.kind==S "start")&&((q.name==S "table")&&v.hd))) (C8 q (!v.hd) (cond (!v.hd&&!v.fl) (some v.z) none) v.m s)<|
 cond (q.kind==S "start"&&q.name==S "table") ((oj (S "unexpected-start-tag") v.m s).bind λs=>(vV v v.z s).bind λs=>vU q.name true s)<|
 cond (q.kind==S "start") (K1 v q.name s)<|
 cond (q.name==S "table") (vV v v.z s)<|
 cond (aw v.ps q.name) ((v.ks[v.ps.idxOf q.name]?).bind λt=>vV v t s) (oj (S "unexpected-end-tag") v.m s)
def vW(q:Qt)(ps:List Str):Bool:=ps==[S "colgroup"]&&(q.name !=S "col"&&!(q.kind==S "end"&&q.name==S "colgroup"))
def aaw(q:Qt)(s:Sy):Cs->Option Sy
 |.jD _ _=>C8 q false none (S "in body") s
 |.dT ps m fl ha k z ks=>ha.bind λha=>cond (vW q ps) (cond fl none ((ks[0]?).bind λt=>C9 q ⟨[],S "in table",false,false,z,[t]⟩ {s with st:=t})) (C9 q ⟨ps,m,fl,ha,z,ks⟩ s)
 |_=>none
def K2(q:Qt)(s:Sy):Option Sy:=(rj s.st).bind (aaw q s)
def yZ(s:Sy):Option Sy:=cond (ah s) ((tv s.st).bind λp=>some {s with tr:=.put p::s.tr,pt:=true}) none
noncomputable def Dc (s:Sy):Option Sy:=cond s.bW none (some {s with bW:=true})
def aax(q:Qt)(s:Sy):Cs->Option Sy
 |.jD _ _=>yZ s
 |.dT ps m fl ha k z ks=>ha.bind λha=>cond (fB ps||(ps==[S "colgroup"]&&q.bl)) (yZ s) (cond fl ((oj (S "foster-parented") m s).bind yZ) (cond (ps==[S "colgroup"]) ((ks[0]?).bind λt=>Dc {s with st:=t}) (Dc s)))
 |_=>none
def K3(q:Qt)(s:Sy):Option Sy:=(rj s.st).bind (aax q s)
def Dd(a b:Sy):Bool:=decide (a.st=b.st)&&(decide (a.tr=b.tr)&&(decide (a.bT=b.bT)&&(a.bW==b.bW)))
def De(s:Sy)(c:Cs):Bool:=cond s.bW
 (match c with
  |.dT ps m fl _ k _ _=>s.oa&&((s.mode==S "in table text")&&(!fl&&(!jE ps&&(!(ps==[S "colgroup"])&&(m==s.vI&&Nat.beq k s.bJ)))))
  |_=>false)
 (cG (yV c) (λp=>p.1==s.mode&&Nat.beq p.2 s.bJ) (match c with
  |.dT ps m fl _ k _ _=>m==s.mode&&(Nat.beq k s.bJ&&!(ps==[S "colgroup"]&&fl))
  |_=>false))
def Df(s:Sy):Bool:=!s.fo&&(Nat.ble (s.tr.length+s.bT.length) 6)&&cG (rj s.st) (De s) false
def K4(q:Qt)(s:Sy):Option Sy:=cond (q.kind==S "start"&&(q.name==S "col"&&!s.dP)) (vO nv s) (some s)
def Dg(q:Qt)(n:Nat)(s:Sy):Option Sy:=(CZ q n s).bind (K4 q)
def K5(q:Qt)(s:Sy):Option Sy:=cond (q.kind==S "char") (K3 q s) (K2 q s)
def pJ(q:Qt)(n:Nat)(s:Sy):Bool:=cG (Dg q n s) (λa=>cG (K5 q s) (λb=>Dd a b&&Df a) false) false
noncomputable def pK:Option (Bool×Bool)->Sk
 |none=>[]
 |some p=>[(.inl p.1 p.2,.old 2)]
noncomputable def tF (i:Nat):List Str->Sk
 |[]=>[]
 |x::r=>tF (i+1) r++[(.nm x,.old i)]
def Dh(st:Sk)(m:Str)(k:Nat):Sy:=⟨st,[],0,[],m,k,false,false,false,false,false,S ""⟩
def K6(il:Option (Bool×Bool)):Sy:=Dh (pK il++[(.nm (S "body"),.old 1),(.nm (S "html"),.old 0)]) (S "in body") 0
def y4(mo:Str)(p:List Str×Str)(il:Option (Bool×Bool)):Sy:=Dh (pK il++(tF 3 p.1++[(.nm (S "table"),.old 1),(.pre mo,.old 0)])) p.2 (cond (jE p.1) 1 0)
noncomputable def rm:List (Option (Bool×Bool)):=[none,some (true,true),some (false,true),some (false,false)]
def y5:List Str:=[S "in body",S "in caption",S "in cell"]
def allB(f:Sy->Bool):Bool:=rm.all (λil=>f (K6 il))&&y5.all λmo=>(nO++plainT).all (λp=>rm.all λil=>f (y4 mo p il))&&xO.all λp=>f (y4 mo p none)
def qS(x:Str):Qt:=⟨S "start",x,fA x,x==S "\x00"⟩
def qE(x:Str):Qt:=⟨S "end",x,fA x,x==S "\x00"⟩
def gi:List Str:=[S "tr",S "td",S "tbody",S "a",S "table",S "th",S "col",S "caption",S "colgroup",S "thead",S "tfoot",S "p"]
set_option tactic.hygienic true
theorem aay:gi.all (λx=>allB (pJ (qS x) 8))=true:=by kernel_rfl
theorem aaz:gi.all (λx=>allB (pJ (qE x) 8))=true:=by kernel_rfl
theorem aaA(x:Str):[true,false].all (λbl=>allB (pJ ⟨S "char",x,bl,false⟩ 8))=true:=by kernel_rfl
def y6(f:Sy->Bool):Bool:=y5.all λmo=>plainT.all λp=>f (y4 mo p none)
theorem aaB:gi.all (λx=>y6 (pJ (qS x) 7))=true:=by kernel_rfl
theorem aaC:gi.all (λx=>y6 (pJ (qE x) 7))=true:=by kernel_rfl
set_option tactic.hygienic false
def eN(E:Eb)(rk:Nat)(old:Option (List Str))(o:Option LS)(s':Sy):Prop:=∃b' pk,o=some (aE b' pk rk old)/\Sm E s' b'
structure j6(E:Eb)(s:Sy)(b:B)(v:Vw)(inl:List Str):Prop where
 ja:eZ v.ps v.m
 ns:names b=(E.ids v.z).map (aH b)++S "table"::(v.ps++inl)
 tG:ap inl
 em:inl.isEmpty=!v.fl
 ha:aw inl (S "a")=v.ha
 mS:∀x∈(E.ids v.z).map (aH b),PyData.strOk x=true
 zx:∃x,s.st=x++v.z
 ks:∀(j:Nat) sk,v.ks[j]?=some sk->(∃x,s.st=x++sk)/\(E.ids sk).length=(E.ids v.z).length+1+j
section
variable{E:Eb}{s s':Sy}{b:B}{t:aS}{pk rk:Nat}{old:Option (List Str)}(e:eA E)
theorem eN.bind(h:eN E rk old o s1)(g:∀b1 tH,Sm E s1 b1->eN E rk old (f (aE b1 tH rk old)) s'):eN E rk old (o.bind f) s':=by refine cQ h λb1 tH e1 r1=>?_;exact e1▸g b1 tH r1
theorem aaD(h:gE b=some (k,b')):gc (aE b pk rk old)=some (aE b' pk rk old):=by refine bE h λp h1 h2=>?_;cases h2;exact oB (λr=>some {aE b pk rk old with path:=r.2}) h1
include e
theorem K7(r:Sm E s b)(h:oo s=some s'):eN E rk old (gc (aE b pk rk old)) s':=by refine cQ (vQ e r h) λk b' e1 r'=>?_;exact⟨b',pk,aaD e1,r'⟩
theorem ro(r:Sm E s b)(h:oj w m s=some s'):dj (aE b pk rk old) w m=some (aE {b with aK:=b.aK++[(w,m)]} pk rk old)/\Sm E s' {b with aK:=b.aK++[(w,m)]}:=
 cE h λhc h=>by apply sE h;exact⟨CI r.ok (r.hN e) pk rk old w m,r.err hc w m⟩
theorem y7(r:Sm E s b)(h:vU x own s=some s'):eN E rk old (fT (aE b pk rk old) x (cond own E.as [])) s':=cE h λhc h=>bE h λq hq h=>by
 apply sE h;simp only[Bool.and_eq_true,Bool.not_eq_true']at hc;refine dR hc λh1 h2 h3=>?_;have hx:x≠S "html":=afK.mp h3;have ha:(cond own E.as []).length<=1000:=by induction own;exact afO _;exact e.as
 refine ao (r.dT hq) λk f1 hh=>aI hh λst f2=>?_;refine aU (j5 r.ok f2) λf3 P=>?_;have hg:=ZC r.ok (r.hN e) (by rw[f2];simp) pk rk old (name:=x) ha;have eu:ip b=k.toNat:=by rw[f3];rfl
 have en:gx b=dQ b k:=by delta gx dQ;rw[eu]
 have h5:=yL r.ok f2;unfold Kk at hg;rw[eu,en]at P hg;replace h5:=eu▸h5;exact⟨_,pk,hg,r.iI (fo:=false) f1 (pB h1) h2 hx P h5 λ_=>⟨rfl,st,by rw[<-eu,<-f3];exact f2⟩⟩
omit e in
theorem j6.dh (V:j6 E s b v inl)(r:Sm E s b)(e:eA E):Mine.dh (aE b pk rk old)=true:=
 q5 r.ok (r.hN e) pk rk old (by have h:=V.ns;unfold Mine.names at h;exact h▸vf V.mS V.ja V.tG)
omit e in
theorem j6.eO (V:j6 E s b v inl):cJ (bq (aE b pk rk old))=(E.ids v.z).length/\cR (bq (aE b pk rk old))=v.ps/\dH (bq (aE b pk rk old))=v.m:=by rw[nP,show b.stack.map (aH b)=_ from V.ns,Bw V.ja V.tG,afA];exact⟨rfl,Bx V.ja V.tG,xQ V.ja V.tG⟩
theorem y8(r:Sm E s b)(V:j6 E s b v inl)(hk:∃x,s.st=x++k)(hn:(E.ids k).length=n)(h:vV v k s=some s'):eN E rk old (fC (aE b pk rk old) n) s':=by
 refine aI hk λx hx=>?_;have eb:b.stack=E.ids k++E.ids x:=by rw[r.st,hx,E.oe]
 have L:=ZK r.ok (r.hN e) pk rk old V.ns V.mS V.ja V.tG (keep:=n) (by rw[eb,afC,hn];exact agH ..);have et:b.stack.take n=E.ids k:=by rw[eb,<-hn,List.take_left]
 replace L:=et▸L;refine bE h λs1 h1 h=>?_;apply sE h;have hl:(fB v.ps=true/\S "a"∈inl)↔(v.hd&&v.ha)=true:=by rw[afz,<-V.ha,km];rfl
 cases hb:(v.hd&&v.ha)with
 |true=>
  rw[hb]at hl h1;rw[if_pos (hl.mpr rfl)]at L;refine aU (ro (pk:=pk) (rk:=rk) (old:=old) e r h1) λ_ r1=>?_;have hs:s1.st=x++k:=by refine cE h1 λ_ h1=>?_;apply sE h1;exact hx
  exact⟨_,_,L,(r1.gh hs).2⟩
 |false=>
  rw[hb]at hl h1;apply sE h1;rw[if_neg (λz=>nomatch hl.mp z),afU]at L;exact⟨_,_,L,(r.gh hx).2⟩
theorem K8:∀(l:List Str) (s s':Sy) (b:B) (pk:Nat),Sm E s b->C7 l s=some s'->eN E rk old (u0 l (aE b pk rk old)) s'
 |[],_,_,b,pk,r,h=>by cases h;exact⟨b,pk,rfl,r⟩
 |x::l,s,s',b,pk,r,h=>bE h λs1 h1 h=>bE h λs2 h2 h=>by
  refine eN.bind (s1:=s1) ?_ λb1 tH r1=>(y7 (own:=false) e r1 h2).bind λb2 Di r2=>K8 l s2 s' b2 Di r2 h;cases hb:(x==S "tr")with
  |true=>
   rw[hb]at h1;refine aU (ro (pk:=pk) (rk:=rk) (old:=old) e r h1) λe1 r1=>?_;exact⟨_,pk,(iT _ _ rfl).trans e1,r1⟩
  |false=>
   rw[hb]at h1;apply sE h1;exact⟨b,pk,rfl,r⟩
theorem aaE(r:Sm E s b)(V:j6 E s b v inl)(h:K1 v x s=some s'):eN E rk old (lR (aE b pk rk old) x E.as (E.ids v.z).length v.ps) s':=bE h λk hk h=>bE h λs1 h1 h=>bE h λs2 h2 h=>bE h λs3 h3 h=>by
 refine aU (V.ks _ _ hk) λk1 k2=>?_;have c:aC v.ps.length=true/\v.ps.all PyData.strOk=true/\0<=((E.ids v.z).length:Int):=⟨dg (by
  have h1:=afE List.length V.ns;have h2:=r.z e;unfold Mine.names at h1;rw[afA,afC,af6,afC]at h1;lia),eW G7 V.ja,afZ _⟩
 unfold lR;rw[if_pos c];refine eN.bind (y8 e r V k1 k2 h1) λb1 tH r1=>(K8 e _ _ _ b1 tH r1 h2).bind λb2 Di r2=>(y7 (own:=true) e r2 h3).bind λb3 pk3 r3=>?_;cases hb:(x==S "col")with
 |true=>rw[hb]at h;exact K7 e r3 h
 |false=>rw[hb]at h;apply sE h;exact⟨b3,pk3,rfl,r3⟩
end
structure pL(E:Eb)(t:aS):Prop extends Tq E t where
 fl:(t.kind==S "start")=true->qv t=some (t.name==S "col")
section
variable{E:Eb}{s s':Sy}{b:B}{t:aS}{pk rk:Nat}{old:Option (List Str)}(e:eA E)
theorem aaF(h:KZ z=some q):∃m,z=[(.pre m,q)]:=by
 induction z with
 |nil=>exact ag h
 |cons a z=>
  obtain⟨it,q'⟩:=a;induction it with
  |pre m=>exact cE h λhn h=>by apply sE h;exact⟨m,by rw[C5 hn]⟩
  |_=>exact ag h
theorem K9{st r:List Int}(h:(st++u::r).length<=900000):cy (st++u::r) ((st.length:Int)+1-1)=some u:=by rw[afC,af6]at h;rw[Int.add_sub_cancel];unfold cy;rw[if_pos ⟨afZ _,by lia⟩,afM,agj (afD _),Nat.sub_self];rfl
theorem iM(h:c=true)(k:eN E rk old x s'):eN E rk old (if c=true then x else y) s':=by rw[iT _ _ h];exact k
theorem gK(h:c=false)(k:eN E rk old y s'):eN E rk old (if c=true then x else y) s':=by rw[iF _ _ h];exact k
include e
theorem aaG(r:Sm E s b){z:Sk}(hs:b.stack=E.ids z++k::r')(ht:aH b k=S "table")(hz:∃x,s.st=x++z)(h:K0 z x s=some s'):
  eN E rk old ((cy (aE b pk rk old).path (((E.ids z).length:Int)-1)).bind λh=>(c6 (aE b pk rk old) h).bind λy=>if 0<y.af.length then ki (aE b pk rk old) h (y.af.length-1) x E.as else none) s':=cE h λhc h=>bE h λq hq h=>by
 apply sE h;simp only[Bool.and_eq_true,Bool.not_eq_true']at hc;refine fu hc λh1 h2 h3 h4=>?_;refine aI (aaF hq) λm bp=>?_;subst bp;refine aI hz λy hy=>?_;have i:=r.it (.pre m,q) (hy▸afL.mpr (.inr (.head _)));obtain⟨st,u,hu⟩:∃st u,E.bV q=st++[u]:=by
  rcases agi (E.bV q)with h|⟨st,k,h⟩
  ·rw[h]at i;exact absurd rfl i.1.ne
  ·exact⟨st,k,by rw[h,ags]⟩
 have ez:E.ids [(.pre m,q)]=st++[u]:=hu;have es:b.stack=st++u::k::r':=by rw[hs,ez,afJ];rfl
 have g1:cy (aE b pk rk old).path (((E.ids [(.pre m,q)]).length:Int)-1)=some u:=by show cy b.stack _=_;rw[ez,afC,es];exact K9 (by exact es▸r.z e)
 refine aU (ZI r.ok (r.hN e) es ht pk rk old (name:=x) (aX:=E.as) e.as) λg2 g3=>?_;refine dR (nZ r.ok es ht) λf1 f2 f3=>?_;exact⟨_,pk,(oB _ g1).trans ((oB _ g2).trans ((if_pos f3).trans g3)),r.iI (fo:=true) (by unfold jB;rw[hu,ag3];rfl) (pB h1) h2 (afK.mp h3) f2 (CM r.ok es ht) λz=>absurd z (afK.mp h4)⟩
theorem La(T:pL E t)(r:Sm E s b)(cC:dh (aE b pk rk old)=true)(ho:(decide (0<=place)&&!fB aR)=out)(hp:aC aR.length=true)(hm:dH (bq (aE b pk rk old))=m)
  (hf:(out&&(((bq (aE b pk rk old)).length:Int)==place+1+(aR.length:Int)))=fo.isSome)(hz:∀z,fo=some z->place=(E.ids z).length/\(∃x,s.st=x++z)/\∃k r',b.stack=E.ids z++k::r'/\aH b k=S "table")(h:C8 (eB t) out fo m s=some s'):
  eN E rk old (kY (aE b pk rk old) t place aR) s':=bE h λs1 h1 h=>by
 unfold kY;rw[if_pos ⟨cC,hp⟩];dsimp only;rw[ho,hm,hf];have key:∀b1,Sm E s1 b1->s1.st=s.st->b1.stack=b.stack->b1.aa=b.aa->(if out=true then dj (aE b pk rk old) (S "foster-parented") m else some (aE b pk rk old))=some (aE b1 pk rk old)->eN E rk old ((if out=true then dj (aE b pk rk old) (S "foster-parented") m else some (aE b pk rk old)).bind λs1=>
  if t.kind==S "end" then(match(bq (aE b pk rk old)).getLast? with|some x=>if x==t.name then gc s1 else some s1|none=>none)
  else if aw [S "a",S "p",S "table"] t.name then(jT t).bind λas=>
   (if fo.isSome=true then(cy s1.path (place-1)).bind λh=>(c6 s1 h).bind λy=>if 0<y.af.length then ki s1 h (y.af.length-1) t.name as else none
    else fT s1 t.name as)
  else(qv t).bind λf=>if f=true then dj s1 (S "non-void-html-element-start-tag-with-trailing-solidus") m else some s1) s':=λb1 r1 es eb en e1=>by
  rw[e1];refine dE h (λhk h=>?_) λhk h=>cE h λhs h=>?_
  ·refine bE h λy hy h=>?_;refine l9 (r1.top hy) λk _ _ _ _ f2 _ f4=>?_;have f5:(bq (aE b pk rk old)).getLast?=some y:=by rw[nP,<-eb,f4,afR,List.map_singleton,ag3,vd en.symm,f2]
   refine iM hk ?_;rw[f5];dsimp only;cases hb:(y==t.name)with
   |true=>
    replace h:pI (y==t.name) oo s1=some s':=h;rw[hb]at h;exact K7 e r1 h
   |false=>
    replace h:pI (y==t.name) oo s1=some s':=h;rw[hb]at h;apply sE h;exact⟨b1,pk,rfl,r1⟩
  ·refine gK hk (dE h (λhn h=>iM hn ?_) λhn h=>gK hn ?_)
   ·rw[T.as hs];induction fo with
    |none=>exact y7 (own:=true) e r1 h
    |some z=>
     refine dR (hz z rfl) λp1 p2 hh=>cQ hh λk r' p3 p4=>?_;exact p1▸aaG e r1 (by rw[eb,p3]) (by rw[vd en,p4]) (by exact es▸p2) h
   ·rw[T.fl hs];show eN E rk old (if t.name==S "col" then dj (aE b1 pk rk old) nv m else some (aE b1 pk rk old)) s';replace h:pI (t.name==S "col") (oj nv m) s1=some s':=h;cases hb:(t.name==S "col")with
    |true=>rw[hb]at h;refine aU (ro (pk:=pk) (rk:=rk) (old:=old) e r1 h) λe2 r2=>?_;exact⟨_,pk,(iT _ _ rfl).trans e2,r2⟩
    |false=>rw[hb]at h;apply sE h;exact⟨b1,pk,iF _ _ rfl,r1⟩
 cases hb:out with
 |true=>
  rw[hb]at h1 key;refine aU (ro (pk:=pk) (rk:=rk) (old:=old) e r h1) λe1 r1=>?_;exact key _ r1 (cE h1 λ_ h1=>by apply sE h1;rfl) rfl rfl ((iT _ _ rfl).trans e1)
 |false=>
  rw[hb]at h1 key;obtain rfl:=ack h1;exact key b r rfl rfl rfl (iF _ _ rfl)
def Dj(s1:LS)(t:aS)(place:Int)(aR:List Str)(mode:Str):Option LS:=
 if(place==-1||(aw [S "a",S "p"] t.name||((t.kind==S "start")&&((t.name==S "table")&&fB aR)))) then kY s1 t place aR
 else if t.kind==S "start"&&t.name==S "table" then(dj s1 (S "unexpected-start-tag") mode).bind λs2=>(fC s2 place.toNat).bind λs3=>(jT t).bind λas=>fT s3 t.name as
 else if t.kind==S "start" then(jT t).bind λas=>lR s1 t.name as place aR
 else if t.name==S "table" then fC s1 place.toNat
 else if aw aR t.name then fC s1 (place+1+(aR.idxOf t.name:Nat)).toNat
 else dj s1 (S "unexpected-end-tag") mode
omit e in
theorem aaH (s:LS)(t:aS):my s t=if dh s then(if vW (eB t) (cR (bq s)) then gc s else some s).bind λs1=>if dh s1 then Dj s1 t (cJ (bq s)) (if vW (eB t) (cR (bq s)) then[]else cR (bq s)) (dH (bq s1))else none else none:=rfl
omit e in
theorem j6.len (V:j6 E s b v inl):b.stack.length=(E.ids v.z).length+(1+(v.ps.length+inl.length)):=by have h1:=afE List.length V.ns;unfold Mine.names at h1;rw[afA,afC,af6,afC,afA]at h1;lia
theorem Lb(T:pL E t)(r:Sm E s b)(V:j6 E s b v inl)(h:C9 (eB t) v s=some s'):eN E rk old (Dj (aE b pk rk old) t (E.ids v.z).length v.ps v.m) s':=by
 have hp:(((E.ids v.z).length:Int)==-1)=false:=afK.mpr (by lia);have len:=V.len;have hz:=r.z e;have ok:=V.dh (pk:=pk) (rk:=rk) (old:=old) r e;unfold Dj;rw[hp,ag2];refine dE h (λc h=>?_) λc h=>dE h (λc2 h=>?_) λc2 h=>dE h (λc3 h=>?_) λc3 h=>dE h (λc4 h=>?_) λc4 h=>dE h (λc5 h=>?_) λc5 h=>?_
 ·refine iM c ?_;refine La e T r ok (by rw[aga (afZ _),agR];rfl) (dg (by lia)) V.eO.2.2 ?_ (λz y9=>?_) h
  ·have:(((bq (aE b pk rk old)).length:Int)==((E.ids v.z).length:Int)+1+(v.ps.length:Int))=!v.fl:=by
    rw[<-V.em,nP,afA,len];induction inl with
    |nil=>exact afI.mpr (by simp;lia)
    |cons=>exact afK.mpr (by simp;lia)
   rw[this];cases(!v.hd&&!v.fl)<;>rfl
  ·have hz2:v.z=z:=by
    cases hc:(!v.hd&&!v.fl)with
    |true=>rw[hc]at y9;exact ack y9
    |false=>rw[hc]at y9;exact ag y9
   subst hz2;refine⟨rfl,V.zx,?_⟩;refine aI V.zx λx hx=>?_;have eb:b.stack=E.ids v.z++E.ids x:=by rw[r.st,hx,E.oe]
   have hn:=V.ns;unfold Mine.names at hn;rw[eb,afR]at hn;refine cV (l6 (List.append_cancel_left hn)) λk r' e1 e2 _=>?_;exact⟨k,r',by rw[eb,e1],e2⟩
 ·refine gK c (iM c2 ?_);refine bE h λs1 h1 h=>bE h λs2 h2 h=>?_;refine aU (ro (pk:=pk) (rk:=rk) (old:=old) e r h1) λe1 r1=>?_;have hs:s1.st=s.st:=cE h1 λ_ h1=>by apply sE h1;rfl
  rw[e1];show eN E rk old ((fC (aE {b with aK:=b.aK++[(S "unexpected-start-tag",v.m)]} pk rk old) (((E.ids v.z).length:Nat):Int).toNat).bind λs3=>(jT t).bind λas=>fT s3 t.name as) s';refine eN.bind (y8 e r1 ⟨V.ja,V.ns,V.tG,V.em,V.ha,V.mS,by rw[hs];exact V.zx,by rw[hs];exact V.ks⟩ (by rw[hs];exact V.zx) rfl h2) λb2 Di r2=>?_;rw[T.as (agu.mp c2).1];exact y7 (own:=true) e r2 h
 ·refine gK c (gK c2 (iM c3 ?_));rw[T.as c3];exact aaE e r V h
 ·exact gK c (gK c2 (gK c3 (iM c4 (y8 e r V V.zx rfl h))))
 ·refine gK c (gK c2 (gK c3 (gK c4 (iM c5 ?_))));refine bE h λk hk h=>?_;refine aU (V.ks _ _ hk) λk1 k2=>?_;exact y8 e r V k1 k2 h
 ·refine gK c (gK c2 (gK c3 (gK c4 (gK c5 ?_))));refine aU (ro (pk:=pk) (rk:=rk) (old:=old) e r h) λe1 r1=>?_;exact⟨_,pk,e1,r1⟩
end
theorem Lc(x:Str):fA x=ib x:=by delta fA ib GC aw;simp only[List.any_cons,List.any_nil,Bool.or_false];cases(S "\t"==x)<;>cases(S "\n"==x)<;>cases(S "\x0c"==x)<;>cases(S "\r"==x)<;>cases(S " "==x)<;>rfl
section
variable{E:Eb}{s s':Sy}{b:B}{t:aS}{pk rk:Nat}{old:Option (List Str)}(e:eA E)
theorem Sm.cls(r:Sm E s b)(h:rj s.st=some c):pH E (aH b) s.st c:=aav s.st c h r.it
theorem Sm.names(r:Sm E s b):names b=(E.ids s.st).map (aH b):=by unfold Mine.names;rw[r.st]
theorem Sm.Ld(r:Sm E s b){z:Sk}(h:pH E (aH b) s.st (.dT ps m fl (some ha) k z ks)):∃inl,j6 E s b ⟨ps,m,fl,ha,z,ks⟩ inl:=by refine cps λG k=>?_;obtain⟨_,inl,mo,h1,h2⟩:=h;refine aU (h1.2.2 ha rfl) λh3 h4=>?_;refine k ?_;exact⟨inl,h2.ja,r.names.trans h2.ns,h1.1,h3,h4,λx hx=>h2.gy.names x hx,h2.zx,h2.ks⟩
structure aaI(b:B)(pk rk:Nat)(old:Option (List Str)):Prop where
 ok:dh (aE b pk rk old)=true
 pl:cJ (bq (aE b pk rk old))=-1
 ps:cR (bq (aE b pk rk old))=[]
 md:dH (bq (aE b pk rk old))=S "in body"
theorem Sm.jD(r:Sm E s b)(e:eA E)(h:pH E (aH b) s.st (.jD fl ha)):aaI b pk rk old:=by
 obtain⟨_,inl,h1,h2⟩:=h;have hn:b.stack.map (aH b)=S "html"::S "body"::inl:=r.names.trans h1;refine⟨q5 r.ok (r.hN e) pk rk old λx hx=>(dX.base h2.1).names x (hn▸hx),?_,?_,?_⟩<;>rw[nP,hn]
 ·exact G5 h2.1
 ·exact TR h2.1
 ·exact G6 h2.1
theorem Lg(r:Sm E s b)(e:eA E)(h:pH E (aH b) s.st (.dT [S "colgroup"] m false (some ha) k z ks))(hk:ks[0]?=some k0):
  ∃b1,gc (aE b pk rk old)=some (aE b1 pk rk old)/\Sm E {s with st:=k0} b1/\b1.aQ=b.aQ/\j6 E {s with st:=k0} b1 ⟨[],S "in table",false,false,z,[k0]⟩ []:=by
 refine cps λG k=>?_;obtain⟨_,inl,mo,h1,h2⟩:=h;have e0:=h1.2.1 rfl;refine k ?_;subst e0;refine cps λG k=>?_;obtain⟨⟨x,hx⟩,hl⟩:=h2.ks 0 k0 hk;refine aU (r.gh hx) λe1 r1=>?_;have e2:=r.names.trans h2.ns;have e3:names b=(E.ids k0).map (aH b)++(E.ids x).map (aH b):=by unfold Mine.names;rw[e1,afR]
 have e4:(E.ids k0).map (aH b)++(E.ids x).map (aH b)=((E.ids z).map (aH b)++[S "table"])++[S "colgroup"]:=by rw[<-e3,e2,afJ];rfl
 refine aU (List.append_inj e4 (by rw[afA,hl,afC,afA];rfl)) λe5 e6=>?_;refine cV (l6 e6) λi l' e7 _ e8=>?_;refine k ?_;rw[e7,agO.mp e8]at e1;refine⟨_,ZM r.ok (r.hN e) pk rk old e1,r1,rfl,⟨.plain (.head _),e5,lb,rfl,rfl,λx hx=>h2.gy.names x hx,?_,λj sk hj=>?_⟩⟩
 ·refine aI h2.zx λy hy=>?_;rcases List.append_eq_append_iff.mp (hy.symm.trans hx)with⟨u,hu,hv⟩|⟨u,hu,hv⟩
  ·have h9:(E.ids z).length=(E.ids (u++k0)).length:=afE (λl=>(E.ids l).length) hv;rw[E.oe,afC,hl]at h9;lia
  ·exact⟨u,hv⟩
 ·induction j with
  |zero=>apply sE hj;exact⟨⟨[],rfl⟩,hl⟩
  |succ j=>exact ag hj
theorem j6.Lh(V:j6 E s b v inl):(decide (((E.ids v.z).length:Int)+1+(v.ps.length:Int)<((bq (aE b pk rk old)).length:Int)))=v.fl:=by
 rw[nP,afA,V.len];have em:=V.em;induction inl with
 |nil=>rw[show v.fl=false by cases h:v.fl<;>rw[h]at em<;>first|rfl|cases em];exact ag1 (by simp;lia)
 |cons=>rw[show v.fl=true by cases h:v.fl<;>rw[h]at em<;>first|rfl|cases em];exact aga (by simp;lia)
theorem aaJ(n:Nat):((n:Int)==-1)=false:=afK.mpr (by exact nofun)
include e
theorem aaK(T:pL E t)(r:Sm E s b)(h:K2 (eB t) s=some s'):eN E rk old (my (aE b pk rk old) t) s':=bE h λc hc h=>by
 have C:=r.cls hc;rw[aaH];induction c with
 |jD fl ha=>
  obtain⟨ok,pl,ps,md⟩:=r.jD (pk:=pk) (rk:=rk) (old:=old) e C;refine iM ok ?_;rw[pl,ps,if_neg (show¬(vW (eB t) []=true)from nofun),if_neg (show¬(vW (eB t) []=true)from nofun)];show eN E rk old (if dh (aE b pk rk old) then _ else none) s';refine iM ok (iM rfl (La e T r ok (out:=false) rfl rfl md (fo:=none) rfl (λz hz=>nomatch hz) h))
 |dT ps m fl ha k z ks=>
  exact bE h λtI h1 h=>by
    subst h1;refine cps λG k=>?_;refine aI (r.Ld C) λinl V=>?_;have ok:=V.dh (pk:=pk) (rk:=rk) (old:=old) r e;refine dR (V.eO (pk:=pk) (rk:=rk) (old:=old)) λf1 f2 f3=>?_;refine k ?_;refine iM ok ?_;rw[f1,f2];refine dE h (λhg h=>?_) λhg h=>?_
    ·induction fl with
     |true=>exact ag h
     |false=>
      refine bE h λk0 hk h=>?_;have hp:ps=[S "colgroup"]:=afI.mp (agu.mp hg).1;replace C:=hp▸C;refine cps λG k=>?_;refine ka (Lg (pk:=pk) (rk:=rk) (old:=old) r e C hk) λb1 e1 r1 _ V1=>?_;refine dR (V1.eO (pk:=pk) (rk:=rk) (old:=old)) λg1 g2 g3=>?_;refine k ?_;rw[if_pos hg,if_pos hg,e1];show eN E rk old (if dh (aE b1 pk rk old) then _ else none) s';refine iM (V1.dh r1 e) ?_;rw[g3];exact Lb e T r1 V1 h
    ·rw[iF _ _ hg,iF _ _ hg];show eN E rk old (if dh (aE b pk rk old) then _ else none) s';refine iM ok ?_;exact f3▸Lb e T r V h
 |_=>exact ag h
theorem Dk(r:Sm E s b)(h:yZ s=some s'):∃i y,(aE b pk rk old).path.getLast?=some i/\c6 (aE b pk rk old) i=some y/\aC y.af.length=true/\gw (aE b pk rk old) i y.af.length E.sg=some (aE (putL b E.sg) pk rk old)/\Sm E s' (putL b E.sg):=cE h λhc h=>bE h λq hq h=>by apply sE h;refine ao (r.dT hq) λk f1 hh=>aI hh λst f2=>?_;refine dR (yM r.ok (r.hN e) f2 pk rk old e.sg) λg1 g2 g3=>?_;have zk:=r.ok.zk _ _ (j5 r.ok f2).2.get;have:=r.hN e;exact⟨_,_,g1,g2,dg (by show(gx b).af.length<=_;exact bt (ads ‹_› ‹_›)),g3,r.put e (pB hc) f1 f2⟩
def Li(s:LS)(x:Str)(i:Int)(y:LN)(place:Int)(aR:List Str)(mode:Str):Option LS:=
 if place==-1||(fB aR||((aR==[S "colgroup"])&&ib x)) then gw s i y.af.length x
 else if decide (place+1+(aR.length:Int)<((bq s).length:Int)) then(dj s (S "foster-parented") mode).bind λs1=>gw s1 i y.af.length x
 else(if aR==[S "colgroup"] then gc s else some s).bind λs1=>if aC s1.run.length then some {s1 with run:=s1.run++[x]}else none
omit e in
theorem Dl {s:LS}(ok:dh s=true)(h1:s.path.getLast?=some i)(h2:c6 s i=some y)(h3:aC y.af.length=true):mx s x=Li s x i y (cJ (bq s)) (cR (bq s)) (dH (bq s)):=by exact(iT _ _ ok).trans ((oB _ h1).trans ((oB _ h2).trans (iT _ _ h3)))
omit e in
theorem aaL (r:Sm E s b)(e:eA E){st:List Int}(h:b.stack=st++[k]):∃i y,(aE b pk rk old).path.getLast?=some i/\c6 (aE b pk rk old) i=some y/\aC y.af.length=true:=by refine dR (yM r.ok (r.hN e) h pk rk old e.sg) λg1 g2 g3=>?_;have zk:=r.ok.zk _ _ (j5 r.ok h).2.get;have:=r.hN e;exact⟨_,_,g1,g2,dg (by show(gx b).af.length<=_;lia)⟩
omit e in
theorem aaM (r:Sm E s b)(V:j6 E s b v inl):∃st k,b.stack=st++[k]:=by
 rcases agi b.stack with h|⟨st,k,h⟩
 ·have:=V.len;rw[h]at this;exact absurd this (by show¬(0=_);lia)
 ·exact⟨st,k,by rw[h,ags]⟩
omit e in
theorem Sm.push (r:Sm E s b)(e:eA E)(hp:s.bW=false):b.aQ=[]/\Sm E {s with bW:=true} {b with aQ:=[E.sg]}:=by
 have h0:b.aQ=[]:=by rw[r.pe,hp];rfl
 have:=e.N1;exact⟨h0,⟨r.ok.same rfl (afV _) r.ok.ze (by show 1<=E.N+(s.tr.length+s.bT.length);exact agY this) (afD _),r.lm,r.st,r.it,r.nd,r.ln,r.er,r.md,r.mr,r.fo,r.ak,rfl,r.og⟩⟩
theorem Lj(r:Sm E s b)(h:Dc s=some s'):(if aC (aE b pk rk old).run.length then some {aE b pk rk old with run:=(aE b pk rk old).run++[E.sg]}else none)=some (aE {b with aQ:=[E.sg]} pk rk old)/\Sm E s' {b with aQ:=[E.sg]}:=by
 replace h:cond s.bW none (some {s with bW:=true})=some s':=h;cases hp:s.bW with
 |true=>rw[hp]at h;exact ag h
 |false=>
  rw[hp]at h;apply sE h;refine aU (r.push e hp) λh0 r1=>?_;refine⟨?_,r1⟩;show(if aC b.aQ.length then some {aE b pk rk old with run:=b.aQ++[E.sg]}else none)=_;rw[h0];rfl
theorem aaN(T:pL E t)(r:Sm E s b)(hk:(t.kind==S "char")=true)(h:K3 (eB t) s=some s'):eN E rk old (mx (aE b pk rk old) t.name) s':=bE h λc hc h=>by
 have C:=r.cls hc;rw[(T.sg hk).1];induction c with
 |jD fl ha=>
  obtain⟨ok,pl,ps,md⟩:=r.jD (pk:=pk) (rk:=rk) (old:=old) e C;refine gN (Dk (pk:=pk) (rk:=rk) (old:=old) e r h) λi y h1 h2 h3 h4 h5=>?_;rw[Dl ok h1 h2 h3,pl];exact iM rfl ⟨_,pk,h4,h5⟩
 |dT ps m fl ha k z ks=>
  exact bE h λtI h1 h=>by
    subst h1;refine aI (r.Ld C) λinl V=>?_;have ok:=V.dh (pk:=pk) (rk:=rk) (old:=old) r e;refine dR (V.eO (pk:=pk) (rk:=rk) (old:=old)) λf1 f2 f3=>?_;refine fX (aaM r V) λst k' hs=>?_;refine cV (aaL (pk:=pk) (rk:=rk) (old:=old) r e hs) λi y g1 g2 g3=>?_;rw[Dl ok g1 g2 g3,f1,f2,f3];have Ll:(eB t).bl=ib E.sg:=by rw[<-Lc,<-(T.sg hk).1];rfl
    unfold Li;rw[aaJ,ag2];refine dE h (λq1 h=>iM (by rw[<-Ll];exact q1) ?_) λq1 h=>gK (by rw[<-Ll];exact q1) (dE h (λq2 h=>iM (V.Lh.trans q2) ?_) λq2 h=>gK (V.Lh.trans q2) (dE h (λq3 h=>?_) λq3 h=>?_))
    ·refine gN (Dk (pk:=pk) (rk:=rk) (old:=old) e r h) λi' y' p1 p2 _ p4 p5=>?_;cases g1.symm.trans p1;cases g2.symm.trans p2;exact⟨_,pk,p4,p5⟩
    ·refine bE h λs1 h1 h=>?_;refine aU (ro (pk:=pk) (rk:=rk) (old:=old) e r h1) λe1 r1=>?_;refine gN (Dk (pk:=pk) (rk:=rk) (old:=old) e r1 h) λi' y' p1 p2 _ p4 p5=>?_;cases g1.symm.trans p1;cases g2.symm.trans p2;exact⟨_,pk,(oB _ e1).trans p4,p5⟩
    ·refine bE h λk0 hk0 h=>?_;have hp:ps=[S "colgroup"]:=afI.mp q3;have q2:fl=false:=q2;rw[hp,q2]at C;refine ka (Lg (pk:=pk) (rk:=rk) (old:=old) r e C hk0) λb1 e1 r1 _ V1=>?_;refine aU (Lj (pk:=pk) (rk:=rk) (old:=old) e r1 h) λe2 r2=>?_;exact⟨_,pk,(oB _ ((iT _ _ q3).trans e1)).trans e2,r2⟩
    ·refine aU (Lj (pk:=pk) (rk:=rk) (old:=old) e r h) λe2 r2=>?_;exact⟨_,pk,(oB (v:=aE b pk rk old) _ (iF _ _ q3)).trans e2,r2⟩
 |_=>exact ag h
def vX(t:aS)(b1:B):Option B:=if t.kind==S "start" then(qv t).bind λf=>if f then(if !b1.dP then fz b1 (S "non-void-html-element-start-tag-with-trailing-solidus")else some b1)else some b1 else some b1
theorem aaO(T:pL E t)(r:Sm E s b)(h:K4 (eB t) s=some s'):oq E (vX t b) s':=by
 unfold vX;replace h:cond ((t.kind==S "start")&&(t.name==S "col"&&!s.dP)) (vO nv s) (some s)=some s':=h;cases hs:(t.kind==S "start")with
 |false=>
  replace h:=hs▸h;apply sE h;exact⟨b,rfl,r⟩
 |true=>
  rw[if_pos rfl,T.fl hs];show oq E (if t.name==S "col" then _ else _) s';rw[hs,agR]at h;cases hc:(t.name==S "col")with
  |false=>rw[hc]at h;apply sE h;exact⟨b,iF _ _ rfl,r⟩
  |true=>
   rw[hc,agR]at h;rw[if_pos rfl,r.ak];cases ha:s.dP with
   |true=>rw[ha]at h;apply sE h;exact⟨b,iF _ _ rfl,r⟩
   |false=>rw[ha]at h;refine ao (CS r e h) λb' e1 r1=>?_;exact⟨b',(iT _ _ rfl).trans e1,r1⟩
theorem aaP(T:pL E t)(r:Sm E s b)(h:Dg (eB t) n s=some s'):oq E ((jl n b t).bind (vX t)) s':=bE h λs1 h1 h=>by refine ao (KU e T.toTq n s s1 b r h1) λb1 e1 r1=>?_;refine ao (aaO e T r1 h) λb2 e2 r2=>?_;exact⟨b2,(oB _ e1).trans e2,r2⟩
end
inductive Shape:List Str->Str->Prop
 |gy {ns:List Str} {m:Str} (h:dX ns m):Shape ns m
 |tab {pre aR inl:List Str} {mo m:Str} (h:dX pre mo) (hp:(aR,m)∈plainT++xO) (ha:ap inl) (hc:aR=[S "colgroup"]->inl=[]):Shape (pre++S "table"::(aR++inl)) m
structure kD(b:B)(N:Nat):Prop where
 ok:Ok b N
 shape:Shape (names b) b.mode
 bJ:b.bJ=dJ (names b)
 hH:b.dO=false
 bW:b.aQ=[]
structure j7(b:B)(N c:Nat):Prop where
 base:kD {b with mode:=b.original,aQ:=[]} N
 pl:∃pre mo aR,names b=pre++S "table"::(aR++[])/\dX pre mo/\qP aR b.original
 mode:b.mode=S "in table text"
 ne:b.aQ≠[]
 zp:b.aQ.length<=c
 sg:∀x∈b.aQ,x.length<=1
def Inv(b:B)(N c:Nat):Prop:=kD b N\/j7 b N c
theorem Ok.more(O:Ok b N)(h:N<=M):Ok b M:=O.same rfl (afV _) (ads O.ze h) (ads O.zp h) h
section
variable{E:Eb}{b:B}
theorem Sm.Lm{st:Sk}(hb:E.b=b)(O:Ok b E.N)(hs:b.stack=E.ids st)(hi:∀e∈st,q6 E.ms e.1 ((E.bV e.2).map (aH b)))(hm:b.bJ=E.ms++List.replicate k (-1))(hf:b.dO=false)(ha:b.dP=false)(hp:b.aQ=[]):Sm E (Dh st b.mode k) b:=by subst hb;exact⟨O,afO _,hs,hi,rfl,λ_=>rfl,(afU _).symm,rfl,hm,hf,ha,hp,λz=>nomatch z⟩
theorem Ln(ho:E.o 2=is)(ha:ap (is.map (aH b))):∃il,il∈rm/\(is=[]->il=none)/\E.ids (pK il)=is/\∀e∈pK il,q6 E.ms e.1 ((E.bV e.2).map (aH b)):=by
 refine cps λgG kK=>?_;rcases agi is with h|⟨js,k,h⟩
 ·refine kK ?_;exact⟨none,.head _,λ_=>rfl,h.symm,λ_ z=>nomatch z⟩
 ·rw[ags]at h;have mk:∀la tI,some (la,tI)∈rm->(is.map (aH b)).getLast?=some (cond la (S "a") (S "p"))->aw (is.map (aH b)) (S "a")=tI->∃il,il∈rm/\(is=[]->il=none)/\E.ids (pK il)=is/\∀e∈pK il,q6 E.ms e.1 ((E.bV e.2).map (aH b)):=λla tI hm h1 h2=>
   ⟨some (la,tI),hm,λz=>(by rw[z]at h1;exact nomatch h1),ho,λe he=>by
    rw[af0.mp he];show ap ((E.o 2).map _)/\((E.o 2).map _).getLast?=_/\aw ((E.o 2).map _) _=_;exact ho▸⟨ha,h1,h2⟩⟩
  have hl:(is.map (aH b)).getLast?=some (aH b k):=by rw[h,afR,List.map_singleton,ag3]
  have hk:aH b k∈is.map (aH b):=by rw[h,afR];exact afL.mpr (.inr (.head _))
  rcases ha _ hk with e|e
  ·refine kK ?_;exact mk true true (.tail _ (.head _)) (by rw[hl,e];rfl) (km.mpr (e▸hk))
  ·cases hh:aw (is.map (aH b)) (S "a")with
   |true=>refine kK ?_;exact mk false true (.tail _ (.tail _ (.head _))) (by rw[hl,e];rfl) hh
   |false=>refine kK ?_;exact mk false false (.tail _ (.tail _ (.tail _ (.head _)))) (by rw[hl,e];rfl) hh
theorem Dn(h:E.bV q=[k])(e:aH b k=x)(g:x=S "html"->E.ms=[]):q6 E.ms (.nm x) ((E.bV q).map (aH b)):=by rw[h];exact⟨afE (·::[]) e,g⟩
theorem aaQ:∀(aR:List Str) (ps:List Int) (i:Nat),ps.map (aH b)=aR->(∀j,E.o (i+j)=(ps[j]?).toList)->(∀x∈aR,x≠S "html")->E.ids (tF i aR)=ps/\∀e∈tF i aR,q6 E.ms e.1 ((E.bV e.2).map (aH b)):=λkK=>by
 induction kK with
 |nil=>exact λps _ h _ _=>⟨(agO.mp h).symm,λ_ z=>nomatch z⟩
 |cons x r ih=>
  rintro ps i h ho hx;refine cV (l6 h) λp Lq e1 e2 e3=>?_;subst e1;refine aU (ih Lq (i+1) e3 (λj=>by rw[Nat.add_assoc,ag0 1,ho];rfl) λy hy=>hx y (.tail _ hy)) λh1 h2=>?_;have h0:E.o i=[p]:=ho 0;refine⟨?_,agx.mpr ⟨h2,λe he=>?_⟩⟩
  ·show E.ids (tF (i+1) r++_)=_;rw[E.oe,h1];show([]++E.o i)++Lq=_;rw[h0];rfl
  ·rw[af0.mp he];show(E.o i).map _=_/\_;rw[h0];exact⟨afE (·::[]) e2,λz=>absurd z (hx x (.head _))⟩
noncomputable def rq (pre:List Int)(t is ps:List Int):Nat->List Int
 |0=>pre
 |1=>t
 |2=>is
 |k+3=>(ps[k]?).toList
theorem aaR:lU.all (λp=>p.1.all λx=>!(x==S "html"))=true:=rfl
theorem aaS:nO.all (λp=>aw y5 p.2)=true:=rfl
theorem dX.mo(h:dX ns m):m∈y5:=by
 induction h with
 |base=>exact .head _
 |tab _ hp _=>exact km.mp (eW aaS hp)
structure Dp(b:B)(N:Nat):Prop where
 ok:Ok b N
 bJ:b.bJ=dJ (names b)
 hH:b.dO=false
 bW:b.aQ=[]
 dP:b.dP=false
 hN:N<=100000
 h1:1<=N
variable{N:Nat}{as:List U}{sg:Str}(A:Dp b N)(has:as.length<=1000)(rt:sg.length<=1)
include A has rt
theorem aaT{inl:List Str}(h:names b=S "html"::S "body"::inl)(ha:ap inl)(hm:b.mode=S "in body"):∃(E:Eb) (il:Option (Bool×Bool)),(eA E/\E.as=as/\E.sg=sg/\E.N=N)/\il∈rm/\Sm E (K6 il) b:=by
 refine cps λgG kK=>?_;refine cV (l6 h) λp0 r e1 e2 e3=>?_;refine cV (l6 e3) λp1 is e4 e5 e6=>?_;subst e4;refine ka (Ln (b:=b) (is:=is) (E:=⟨b,rq [p0] [p1] is [],as,sg,N,[]⟩) rfl (by exact e6▸ha)) λil h1 _ h3 h4=>?_;refine kK ?_;refine⟨⟨b,rq [p0] [p1] is [],as,sg,N,[]⟩,il,⟨⟨A.hN,A.h1,has,rt,afO _⟩,rfl,rfl,rfl⟩,h1,?_⟩;have:=Sm.Lm (E:=⟨b,rq [p0] [p1] is [],as,sg,N,[]⟩) (k:=0) (st:=pK il++[(.nm (S "body"),.old 1),(.nm (S "html"),.old 0)]) rfl A.ok (by rw[Eb.oe,h3,e1];rfl) (agx.mpr ⟨h4,agc.mpr ⟨Dn rfl e5 λ_=>rfl,agc.mpr ⟨Dn rfl e2 λ_=>rfl,λ_ z=>nomatch z⟩⟩⟩) (by
  rw[A.bJ,h,show S "html"::S "body"::inl=[S "html",S "body"]++inl from rfl,tj,yO ha,show dJ [S "html",S "body"]=[] by kernel_rfl];rfl) A.hH A.dP A.bW
 replace this:=hm▸this;exact this
theorem Dq{pre aR inl:List Str}(h:names b=pre++S "table"::(aR++inl))(ho:dX pre mo)(hp:eZ aR m)(ha:ap inl)(hm:b.mode=m):∃(E:Eb) (il:Option (Bool×Bool)),(eA E/\E.as=as/\E.sg=sg/\E.N=N)/\il∈rm/\(inl=[]->il=none)/\Sm E (y4 mo (aR,m) il) b:=by
 refine cps λgG kK=>?_;refine cV (CL h) λl1 l2 e1 e2 e3=>?_;refine cV (l6 e3) λt r e4 e5 e6=>?_;refine cV (CL e6) λps is e7 e8 e9=>?_;subst e4;subst e7;refine ka (Ln (b:=b) (is:=is) (E:=⟨b,rq l1 [t] is ps,as,sg,N,dJ pre⟩) rfl (by exact e9▸ha)) λil h1 h2 h3 h4=>?_;obtain⟨g1,g2⟩:=aaQ (b:=b) (E:=⟨b,rq l1 [t] is ps,as,sg,N,dJ pre⟩) aR ps 3 e8 (λj=>by rw[ag0];rfl) (λx hx=>by
  have:=afF.mp (eW aaR hp) x hx;rw[afY]at this;exact afK.mp this)
 have hl:(dJ pre).length<=100000:=by have:=ZN pre;have z:=A.ok.zs;have:=A.hN;have q:=afE List.length e2;rw[afA]at q;rw[e1,afC]at z;lia
 refine kK ?_;refine⟨⟨b,rq l1 [t] is ps,as,sg,N,dJ pre⟩,il,⟨⟨A.hN,A.h1,has,rt,hl⟩,rfl,rfl,rfl⟩,h1,λz=>h2 (agO.mp (e9.trans z)),?_⟩;have:=Sm.Lm (E:=⟨b,rq l1 [t] is ps,as,sg,N,dJ pre⟩) (k:=cond (jE aR) 1 0) (st:=pK il++(tF 3 aR++[(.nm (S "table"),.old 1),(.pre mo,.old 0)])) rfl A.ok (by
   rw[Eb.oe,Eb.oe,h3,g1,e1,afJ];show l1++t::(ps++is)=(([]++l1)++[t])++(ps++is);rw[List.nil_append,afJ];rfl)
  (agx.mpr ⟨h4,agx.mpr ⟨g2,agc.mpr ⟨Dn rfl e5 λz=>absurd z (by rw[Bp];decide),agc.mpr ⟨by show dX (l1.map _) mo/\dJ (l1.map _)=_;exact e2.symm▸⟨ho,rfl⟩,λ_ z=>nomatch z⟩⟩⟩⟩) (by
  rw[A.bJ,h,yY hp ha];cases jE aR<;>rfl) A.hH A.dP A.bW
 rw[hm]at this;exact this
theorem aaU(hs:Shape (names b) b.mode)(hf:allB f=true):∃(E:Eb) (s:Sy),(eA E/\E.as=as/\E.sg=sg/\E.N=N)/\f s=true/\Sm E s b:=by
 refine cps λgG kK=>?_;have Dr:=agu.mp hf;have tb:∀{pre aR inl:List Str} {mo m:Str},names b=pre++S "table"::(aR++inl)->dX pre mo->(aR,m)∈nO++plainT->ap inl->b.mode=m->∃(E:Eb) (s:Sy),(eA E/\E.as=as/\E.sg=sg/\E.N=N)/\f s=true/\Sm E s b:=λ{pre aR inl mo m} h ho hp ha hm=>by refine ed (Dq A has rt h ho (m:=m) ((afL.mp hp).elim .holds .plain) ha hm) λE il h1 h2 _ h3=>?_;have h4:=eW Dr.2 ho.mo;have h5:=agu.mp h4;exact⟨E,_,h1,eW (eW h5.1 hp) h2,h3⟩
 generalize eE:names b=ns at hs;generalize hm:b.mode=m at hs;cases hs with
 |gy h=>
  induction h with
  |base ha=>
   refine cV (aaT A has rt eE ha hm) λE il h1 h2 h3=>?_;refine kK ?_;exact⟨E,_,h1,eW Dr.1 h2,h3⟩
  |tab h hp ha=>refine kK ?_;exact tb eE h (afL.mpr (.inl hp)) ha hm
 |@tab pre aR inl mo _ h hp ha hc=>
  rcases afL.mp hp with q|q
  ·refine kK ?_;exact tb eE h (afL.mpr (.inr q)) ha hm
  ·have e1:(aR,m)=([S "colgroup"],S "in column group"):=af0.mp q;have e2:aR=[S "colgroup"]:=afE Prod.fst e1;refine ed (Dq A has rt eE h (m:=m) (by rw[eZ,e1];exact eZ.TC) ha hm) λE il h1 h2 h4 h3=>?_;rw[h4 (hc e2)]at h3;have h5:=agu.mp (eW Dr.2 h.mo);refine kK ?_;exact⟨E,_,h1,eW h5.2 q,h3⟩
theorem aaV(h:names b=pre++S "table"::(aR++[]))(ho:dX pre mo)(hp:qP aR m)(hm:b.mode=m)(hf:y6 f=true):∃(E:Eb) (s:Sy),(eA E/\E.as=as/\E.sg=sg/\E.N=N)/\f s=true/\Sm E s b:=by refine ed (Dq A has rt h ho (m:=m) (.plain hp) lb hm) λE il h1 h2 h4 h3=>?_;rw[h4 rfl]at h3;exact⟨E,_,h1,eW (eW hf ho.mo) hp,h3⟩
end
section
variable{E:Eb}{s:Sy}{b:B}
theorem Lr(h:eZ ps m)(hh:jE ps=false):(ps,m)∈plainT++xO:=by
 rcases afL.mp h with q|q
 ·have:nO.all (λp=>jE p.1)=true:=rfl;rw[eW this q]at hh;exact nomatch hh
 ·exact q
structure Ls(E:Eb)(s:Sy)(b:B):Prop where
 i:s.bW=false->kD b (E.N+6)
 t:s.bW=true->b.mode=S "in table text"/\kD {b with mode:=b.original,aQ:=[]} (E.N+6)/\∃pre mo aR,names b=pre++S "table"::(aR++[])/\dX pre mo/\qP aR b.original
theorem aaW(e:eA E)(r:Sm E s b)(h:Df s=true):Ls E s b:=by
 unfold Df at h;rw[afz,afz,afY]at h;refine cps λG k=>?_;obtain⟨⟨h1,h2⟩,h3⟩:=h;have h2:=afG h2;have O:Ok b (E.N+6):=r.ok.more (by exact agM h2 _);have hf:b.dO=false:=r.fo.trans h1;obtain⟨c,hc,h3⟩:∃c,rj s.st=some c/\De s c=true:=oE h3 (λc e h=>⟨c,e,h⟩) λh=>nomatch h;have C:=r.cls hc;have nm:=r.names;refine k ?_;unfold De at h3;cases hp:s.bW with
 |false=>
  refine⟨λ_=>?_,λz=>absurd (hp.symm.trans z) (by decide)⟩;replace h3:=hp▸h3;have pe:b.aQ=[]:=by rw[r.pe,hp];rfl
  cases hq:yV c with
  |some p=>
   rw[hq]at h3;replace h3:(p.1==s.mode&&Nat.beq p.2 s.bJ)=true:=h3;rw[afz]at h3;obtain⟨p1,p2⟩:=p;refine aU (KY C hq) λj1 j2=>?_;refine⟨O,?_,?_,hf,pe⟩
   ·rw[r.md,nm,<-afI.mp h3.1];exact .gy j1
   ·rw[r.mr,nm,j2,show p2=s.bJ from afN h3.2]
  |none=>
   replace h3:=hq▸h3;induction c with
   |dT ps m fl ha k z ks=>
    replace h3:(m==s.mode&&(Nat.beq k s.bJ&&!(ps==[S "colgroup"]&&fl)))=true:=h3;rw[afz,afz,afY,Bool.and_eq_false_iff]at h3;refine dR h3 λg1 g2 g3=>?_;obtain⟨_,inl,mo,a1,a2⟩:=C;cases hh:jE ps with
    |true=>
     replace hq:cond (jE ps) (some (m,k+1)) none=none:=hq;replace hq:=hh▸hq;cases hq
    |false=>
     refine⟨O,?_,?_,hf,pe⟩
     ·rw[r.md,nm,a2.ns,<-afI.mp g1];exact .tab a2.gy (Lr a2.ja hh) a1.1 λz=>a1.2.1 (g3.resolve_left λq=>by replace q:=z▸q;exact absurd q (by decide))
     ·rw[r.mr,nm,a2.ns,yY a2.ja a1.1,hh,a2.mr,afN g2];exact(afU _).symm
   |_=>cases h3
 |true=>
  refine⟨λz=>absurd (hp.symm.trans z) (by decide),λ_=>?_⟩;replace h3:=hp▸h3;induction c with
  |dT ps m fl ha k z ks=>
   replace h3:(s.oa&&((s.mode==S "in table text")&&(!fl&&(!jE ps&&(!(ps==[S "colgroup"])&&(m==s.vI&&Nat.beq k s.bJ))))))=true:=h3;simp only[Bool.and_eq_true,Bool.not_eq_true']at h3;refine cps λG k=>?_;refine Oq h3 λg1 g2 g3 g4 g5 g6 g7=>?_;obtain⟨_,inl,mo,a1,a2⟩:=C;have e0:=a1.2.1 g3;refine k ?_;subst e0;have og:=r.og g1;have pc:=Lr a2.ja g4;have ns:=nm.trans a2.ns;have hm:b.original=m:=og.trans (afI.mp g6).symm;refine⟨r.md.trans (afI.mp g2),⟨O.same rfl (afV _) O.ze (afO _) (afD _),?_,?_,hf,rfl⟩,_,mo,ps,ns,a2.gy,?_⟩
   ·show Shape (names b) b.original;rw[ns,hm];exact .tab a2.gy pc lb λ_=>rfl
   ·show b.bJ=dJ (names b);rw[r.mr,ns,yY a2.ja lb,g4,a2.mr,afN g7];exact(afU _).symm
   ·rw[hm];exact(afL.mp pc).elim id λq=>absurd (afE Prod.fst (af0.mp q)) (afK.mp g5)
  |_=>cases h3
theorem aaX(h:Dd a c=true)(ra:Sm E a b1)(rc:Sm E c b2)(pk rk:Nat)(old:Option (List Str)):aE b2 pk rk old=aE b1 pk rk old:=by unfold Dd at h;rw[afz,afz,afz,af5,af5,af5]at h;refine fu h λh1 h2 h3 h4=>?_;unfold aE;rw[ra.nd,rc.nd,ra.st,rc.st,ra.er,rc.er,ra.pe,rc.pe,h1,h2,h3,afI.mp h4]
theorem Lu(e:eA E)(T:pL E t)(r:Sm E s b)(h:pJ (eB t) n s=true):∃b' s',((jl n b t).bind (vX t))=some b'/\Sm E s' b'/\Ls E s' b'/\
  ∀pk rk old,∃jC,(if t.kind==S "char" then mx (aE b pk rk old) t.name else my (aE b pk rk old) t)=some (aE b' jC rk old):=by
 refine cps λgG kK=>?_;obtain⟨a,ha,h⟩:∃a,Dg (eB t) n s=some a/\_:=oE h (λa e h=>⟨a,e,h⟩) λh=>nomatch h;obtain⟨c,hc,h⟩:∃c,K5 (eB t) s=some c/\_:=oE h (λa e h=>⟨a,e,h⟩) λh=>nomatch h;rw[afz]at h;refine ao (aaP e T r ha) λb1 e1 r1=>?_;refine kK ?_;refine⟨b1,a,e1,r1,aaW e r1 h.2,λpk rk old=>?_⟩;have key:eN E rk old (if t.kind==S "char" then mx (aE b pk rk old) t.name else my (aE b pk rk old) t) c:=dE hc (λhk hc=>iM hk (aaN e T r hk hc)) λhk hc=>gK hk (aaK e T r hc);refine cQ key λb2 jC e2 r2=>?_;exact⟨jC,e2.trans (afE some (aaX h.1 r1 r2 jC rk old))⟩
end
structure iN(b b':B):Prop where
 eq:b'={b with aa:=b'.aa,aK:=b'.aK}
 nm:∀k∈b.stack,aH b' k=aH b k
theorem iN.refl(b:B):iN b b:=⟨rfl,λ_ _=>rfl⟩
theorem iN.st(h:iN b b'):b'.stack=b.stack:=by rw[h.eq]
theorem iN.trans(h:iN a b)(k:iN b c):iN a c:=⟨by rw[k.eq,h.eq],λz hz=>(k.nm z (by rw[h.st];exact hz)).trans (h.nm z hz)⟩
theorem iN.names(h:iN b b'):names b'=names b:=by unfold Mine.names;exact h.st.symm▸agr λk hk=>h.nm k hk
theorem Lv(O:Ok b N)(hp:b.aa[p]?=some xp):iN b (fU b p xp at_ s):=⟨by rw[vL],λk hk=>GX O hp hk⟩
theorem aaY:∀(xs:List Str) (b:B) (M:Nat),Ok b M->M+xs.length<=700000->(∃st k,b.stack=st++[k])->b.dO=false->(∀x∈xs,x.length<=1)->
  ∃b',xd xs b=some b'/\Ok b' (M+xs.length)/\iN b b'/\∀place pk rk old,qJ true place xs (aE b pk rk old)=some (aE b' pk rk old):=λkK=>by
 induction kK with
 |nil=>exact λb M O _ _ _ _=>⟨b,rfl,O,.refl b,λ_ _ _ _=>rfl⟩
 |cons x r ih=>
  rintro b M O hM ⟨st,k,hs⟩ hf hx;rw[af6]at hM;refine aU (agc.mp hx) λry hx=>?_;have e1:=Ko O (by exact bt (agl hM)) hs (.inl hf) ry;have O1:=O.putL (by rw[hs];simp) ry (Nat.le_refl (M+1));have L1:iN b (putL b x):=Lv O (j5 O hs).2.get;refine ka (ih (putL b x) (M+1) O1 (by lia) ⟨st,k,L1.st.trans hs⟩ (by rw[L1.eq];exact hf) hx) λb' e2 O2 L2 eO=>?_;refine⟨b',(oB _ e1).trans e2,by(rw[af6,show M+(r.length+1)=M+1+r.length by omega];exact O2),L1.trans L2,λplace pk rk old=>?_⟩;refine dR (yM O (by exact bt (agl hM)) hs pk rk old ry) λl1 l2 l3=>?_;have zk:=O.zk _ _ (j5 O hs).2.get;exact(oB _ ((iT _ _ rfl).trans l1)).trans ((oB _ l2).trans ((iT _ _ (dg (by show(gx b).af.length<=_;exact bt (ads ‹_› (agl ‹_›))))).trans ((oB _ l3).trans ((oB _ rfl).trans (eO place pk rk old)))))
theorem aaZ:∀(xs:List Str) (b:B) (M:Nat),Ok b M->M+2*xs.length<=700000->b.stack=fD++u::t::r0->aH b t=S "table"->(∀k∈r0,aH b k≠S "table"/\aH b k≠S "template")->(∃st k,b.stack=st++[k]/\aH b k∈gD)->b.dO=false->b.mode=S "in table text"->(∀x∈xs,x.length<=1)->
  ∃b',xe xs b=some b'/\Ok b' (M+2*xs.length)/\iN b b'/\∀pk rk old,qJ false ((fD.length:Int)+1) xs (aE b pk rk old)=some (aE b' pk rk old):=λkK=>by
 induction kK with
 |nil=>exact λb M O _ _ _ _ _ _ _ _=>⟨b,rfl,O,.refl b,λ_ _ _=>rfl⟩
 |cons x r ih=>
  rintro b M O hM hs ht hr ⟨st,c,k7,hc⟩ hf hm hx;rw[af6]at hM;refine aU (agc.mp hx) λry hx=>?_;have ee:fz b (S "foster-parented")=some {b with aK:=b.aK++[(S "foster-parented",S "in table text")]}:=(CH O (by exact bt (agl hM)) (S "foster-parented")).trans (hm▸rfl);have le:(b.aK++[(S "foster-parented",S "in table text")]).length=b.aK.length+1:=by rw[afC];rfl
  have ze:=O.ze;have zp:=O.zp;have O1:Ok {b with aK:=b.aK++[(S "foster-parented",S "in table text")],dO:=true} (M+1):=O.same rfl (afV _) (by show(b.aK++_).length<=_;exact ads (Nat.le_of_eq le) (af9 ze)) (by show b.aQ.length<=_;exact Nat.le_succ_of_le zp) (agt _);have vY:=Kq O1 (by lia) (st:=fD) (u:=u) (t:=t) (r:=r0) hs ht (λk hk=>hr k hk) rfl (k9:=st) (k:=c) k7 hc;have sg:=ZH O1 (by lia) (st:=fD) (u:=u) (t:=t) (r:=r0) hs ht ry vY;refine dR (nZ O (st:=fD) (u:=u) (t:=t) (r:=r0) hs ht) λ_ P _=>?_;have O2:=O.gI (st:=fD) (u:=u) (t:=t) (r:=r0) hs ht ry (afD (M+1));have L0:iN b (gI b u x):=Lv O P.get;have Lw:=O2.ze;rw[show(gI b u x).aK=b.aK by rw[gI,vL]]at Lw;refine cps λG k=>?_;have L:iN b {b with aa:=(gI b u x).aa,aK:=b.aK++[(S "foster-parented",S "in table text")]}:=⟨rfl,λk hk=>L0.nm k hk⟩;have O3:Ok {b with aa:=(gI b u x).aa,aK:=b.aK++[(S "foster-parented",S "in table text")]} (M+2):=O2.same rfl (L0.st▸afV _) (by show(b.aK++_).length<=_;exact ads (Nat.le_of_eq le) (af9 Lw)) (by show b.aQ.length<=_;exact agY zp) (agt _);have step:nC b (iG x)=some {b with aa:=(gI b u x).aa,aK:=b.aK++[(S "foster-parented",S "in table text")]}:=by have hn:(gI {b with aK:=b.aK++[(S "foster-parented",S "in table text")],dO:=true} u x).aa=(gI b u x).aa:=Kv (b:=b) (b':={b with aK:=b.aK++[(S "foster-parented",S "in table text")],dO:=true}) rfl;have h2:gI {b with aK:=b.aK++[(S "foster-parented",S "in table text")],dO:=true} u x={b with aa:=(gI b u x).aa,aK:=b.aK++[(S "foster-parented",S "in table text")],dO:=true}:=(vL ..).trans (afE (λns=>({b with aa:=ns,aK:=b.aK++[(S "foster-parented",S "in table text")],dO:=true}:B)) hn);refine(oB _ ee).trans ((oB _ ((iT _ _ (agA _)).trans sg)).trans ?_);rw[h2];exact afE (λf=>some ({b with aa:=(gI b u x).aa,aK:=b.aK++[(S "foster-parented",S "in table text")],dO:=f}:B)) hf.symm
  obtain⟨b',e2,O4,L3,eO⟩:=ih _ (M+2) O3 (by lia) (L.st.trans hs) ((L.nm t (by rw[hs];simp)).trans ht) (λk hk=>by
   rw[L.nm k (by rw[hs];simp[hk])];exact hr k hk) ⟨st,c,L.st.trans k7,by rw[L.nm c (by rw[k7];simp)];exact hc⟩ hf hm hx
  refine k ?_;refine⟨b',(oB _ step).trans e2,by(rw[af6,show M+2*(r.length+1)=M+2+2*r.length by omega];exact O4),L.trans L3,λpk rk old=>?_⟩;have zk:=O.zk _ _ P.get;refine aU (ZJ O (by exact bt (agl hM)) (st:=fD) (u:=u) (t:=t) (r:=r0) hs ht pk rk old ry) λl1 l2=>?_;have aa0:cy (aE b pk rk old).path ((fD.length:Int)+1-1)=some u:=by show cy b.stack _=_;have:=O.zs;rw[hs]at this ⊢;exact K9 (by exact bt (ads this (agl hM)))
  refine(oB _ ((iF _ _ rfl).trans aa0)).trans ((oB _ l1).trans ((iT _ _ (dg (by show(dQ b u).af.length<=_;exact bt (ads zk (agl hM))))).trans ((oB _ l2).trans ((oB _ ((iT _ _ rfl).trans (CI O2 (by lia) pk rk old (S "foster-parented") (S "in table text")))).trans ?_))));rw[show aE {gI b u x with aK:=(gI b u x).aK++[(S "foster-parented",S "in table text")]} pk rk old=aE {b with aa:=(gI b u x).aa,aK:=b.aK++[(S "foster-parented",S "in table text")]} pk rk old by rw[gI,vL]];exact eO pk rk old
theorem aa1:plainT.all (λp=>p.1.all λx=>aw gD x&&!aw [S "table",S "template"] x)=true:=rfl
theorem aa2:plainT.all (λp=>!fB p.1&&!(p.1==[S "colgroup"]))=true:=rfl
section
variable{b:B}{N c:Nat}
theorem j7.mS(J:j7 b N c):∀x∈names b,PyData.strOk x=true:=by refine ef J.pl λpre mo aR h1 h2 h3=>?_;exact h1▸vf h2.names (.plain h3) lb
theorem Ok.aa3(O:Ok {b with mode:=m,aQ:=[]} N)(h:b.aQ.length<=c):Ok b (N+c):=O.same rfl (afV _) (ads O.ze (agH _ _)) (ads h (ago _ _)) (agH _ _)
theorem j7.ok(J:j7 b N c):Ok b (N+c):=J.base.ok.aa3 J.zp
structure Ds(b:B)(fD:List Int)(u t:Int)(r0:List Int)(pre aR:List Str):Prop where
 st:b.stack=fD++u::t::r0
 ht:aH b t=S "table"
 no:∀k∈r0,aH b k≠S "table"/\aH b k≠S "template"
 last:∃st k,b.stack=st++[k]/\aH b k∈gD
 len:pre.length=fD.length+1
 ns:names b=pre++S "table"::(aR++[])
 pl:qP aR b.original
theorem j7.oa(J:j7 b N c):∃fD u t r0 pre aR,Ds b fD u t r0 pre aR:=by
 refine cps λG k=>?_;refine ef J.pl λpre mo aR h1 h2 h3=>?_;refine cV (CL h1) λl1 l2 e1 e2 e3=>?_;refine cV (l6 e3) λt r e4 e5 e6=>?_;refine k ?_;subst e4;obtain⟨fD,u,hu⟩:∃st u,l1=st++[u]:=by
  rcases agi l1 with h|⟨st,k,h⟩
  ·rw[h]at e2;exact absurd e2.symm h2.ne
  ·exact⟨st,k,by rw[h,ags]⟩
 subst hu;have hp:=eW aa1 h3;have hr:∀k∈r,aw gD (aH b k)=true/\aw [S "table",S "template"] (aH b k)=false:=λk hk=>by have:=afF.mp hp (aH b k) (by rw[<-afU aR,<-e6];exact af7.mpr ⟨k,hk,rfl⟩);rw[afz,afY]at this;exact this
 refine⟨fD,u,t,r,pre,aR,by rw[e1,afJ];rfl,e5,λk hk=>?_,?_,by rw[<-e2,afA,afC];rfl,h1,h3⟩
 ·have:=iY.mp (hr k hk).2;exact⟨λz=>this (z▸.head _),λz=>this (z▸.tail _ (.head _))⟩
 ·rcases agi r with h|⟨st,k,h⟩
  ·exact⟨fD++[u],t,by rw[e1,h],by exact e5▸.head _⟩
  ·rw[ags]at h;exact⟨fD++[u]++t::st,k,by rw[e1,h,afJ,afJ,afJ];rfl,km.mp (hr k (by rw[h];simp)).1⟩
theorem Ds.eO(T:Ds b fD u t r0 pre aR)(pk rk:Nat)(old:Option (List Str)):cJ (bq (aE b pk rk old))=(fD.length:Int)+1/\cR (bq (aE b pk rk old))=aR/\bq (aE b pk rk old)=pre++S "table"::(aR++[]):=by
 have e:bq (aE b pk rk old)=pre++S "table"::(aR++[]):=(nP ..).trans T.ns;refine⟨?_,?_,e⟩<;>rw[e]
 ·rw[Bw (.plain T.pl) lb,T.len];rfl
 ·exact Bx (.plain T.pl) lb
theorem aa4(J:j7 b N c)(hN:N<=100000)(hc:c<=100000):∃b1,uH b=some b1/\kD (b1.to b1.original) (N+2*c)/\(∃pre mo aR,names b1=pre++S "table"::(aR++[])/\dX pre mo/\qP aR b1.original)/\b1.dP=b.dP/\
  ∀pk rk old,mw (aE b pk rk old)=some (aE b1 pk (rk+1) (some b.aQ)):=by
 refine cps λG k=>?_;refine fX J.oa λfD u hh=>l8 hh λt r0 pre aR T=>?_;have hz:=J.zp;have O1:Ok {b with aQ:=[],pk:=b.pk+1,old:=some b.aQ} N:=J.base.ok.same rfl (afV _) J.base.ok.ze (afO _) (afD _);have cC:=λpk rk old=>q5 J.ok (by exact bt (agL ‹_› ‹_›)) pk rk old J.mS;have fin:∀b',Ok b' (N+2*c)->iN {b with aQ:=[],pk:=b.pk+1,old:=some b.aQ} b'->kD (b'.to b'.original) (N+2*c)/\(∃pre mo aR,names b'=pre++S "table"::(aR++[])/\dX pre mo/\qP aR b'.original)/\b'.dP=b.dP:=λb' O2 L=>by
  have eo:b'.original=b.original:=by rw[L.eq]
  have en:names b'=names b:=L.names;refine⟨⟨O2.same rfl (afV _) O2.ze O2.zp (afD _),?_,?_,?_,?_⟩,?_,by rw[L.eq]⟩
  ·show Shape (names b') b'.original;rw[en,eo];exact J.base.shape
  ·show b'.bJ=dJ (names b');rw[en,L.eq];exact J.base.bJ
  ·show b'.dO=false;rw[L.eq];exact J.base.hH
  ·show b'.aQ=[];rw[L.eq]
  ·rw[en,eo];exact J.pl
 have settle:∀pk rk old,mw (aE b pk rk old)=qJ (b.aQ.all ib) ((fD.length:Int)+1) b.aQ (aE {b with aQ:=[],pk:=b.pk+1,old:=some b.aQ} pk (rk+1) (some b.aQ)):=λpk rk old=>by unfold mw;rw[if_pos ⟨cC pk rk old,dg (by show b.aQ.length<=_;exact bt (ads hz hc))⟩,(T.eO pk rk old).1];rfl
 have sz:b.aQ.all fA=b.aQ.all ib:=by congr 1;funext x;exact Lc x
 refine k ?_;cases hb:b.aQ.all ib with
 |true=>
  refine cQ T.last λst k hs _=>?_;refine ka (aaY b.aQ {b with aQ:=[],pk:=b.pk+1,old:=some b.aQ} N O1 (by lia) ⟨st,k,hs⟩ J.base.hH J.sg) λb' e1 O2 L eO=>?_;refine dR (fin b' (O2.more (by lia)) L) λf1 f2 f3=>?_;refine⟨b',(iT _ _ (dg (by exact bt (ads hz hc)))).trans ((iT _ _ (sz.trans hb)).trans e1),f1,f2,f3,λpk rk old=>?_⟩;rw[settle,hb];exact eO _ pk (rk+1) (some b.aQ)
 |false=>
  refine ka (aaZ (fD:=fD) (u:=u) (t:=t) (r0:=r0) b.aQ {b with aQ:=[],pk:=b.pk+1,old:=some b.aQ} N O1 (by lia) T.st T.ht T.no T.last J.base.hH J.mode J.sg) λb' e1 O2 L eO=>?_;refine dR (fin b' (O2.more (by lia)) L) λf1 f2 f3=>?_;refine⟨b',(iT _ _ (dg (by exact bt (ads hz hc)))).trans ((iF _ _ (sz.trans hb)).trans e1),f1,f2,f3,λpk rk old=>?_⟩;rw[settle,hb];exact eO pk (rk+1) (some b.aQ)
end
structure rA(t:aS)(as:List U):Prop where
 kind:t.kind=S "start"
 name:t.name∈gi
 rest:t.rest=[.aJ as,.bool (t.name==S "col")]
 len:as.length<=1000
structure Dt(t:aS):Prop where
 kind:t.kind=S "end"
 name:t.name∈gi
structure Du(t:aS):Prop where
 kind:t.kind=S "char"
 len:t.name.length<=1
 rest:t.rest=[]
 yS:t.name≠S "\x00"
theorem rA.aX(h:rA t as):jT t=some as:=by unfold jT;rw[h.rest]
theorem rA.flag(h:rA t as):qv t=some (t.name==S "col"):=by unfold qv;rw[h.rest]
noncomputable def pM (b:B):B:={b with dP:=false}
theorem Lx(b:B)(t:aS):qw b t=(jl 8 (pM b) t).bind (vX t):=rfl
def tJ(b:B)(N c:Nat)(k:aS):Prop:=∃b',qw b k=some b'/\Inv b' (N+2*c+6) (c+1)/\∀pk rk old,∃jC Dv yQ,sI (aE b pk rk old) k=some (aE b' jC Dv yQ)
section
variable{b:B}{N c:Nat}{k:aS}{as:List U}{sg:Str}
theorem kD.more(I:kD b N)(h:N<=M):kD b M:=⟨I.ok.more h,I.shape,I.bJ,I.hH,I.bW⟩
theorem Shape.ok(h:Shape ns m):(∀x∈ns,PyData.strOk x=true)/\dH ns=m:=by
 cases h with
 |gy h=>exact⟨h.names,h.mode⟩
 |tab h hp ha hc=>
  have w6:eZ _ m:=afL.mpr (.inr hp);exact⟨vf h.names w6 ha,xQ w6 ha⟩
theorem aa5(I:kD b N)(hN:N<=700000)(pk rk:Nat)(old:Option (List Str)):mw (aE b pk rk old)=some (aE b pk (rk+1) (some [])):=by unfold mw;have e:(aE b pk rk old).run=[]:=I.bW;rw[if_pos ⟨q5 I.ok (ads ‹_› (by decide)) pk rk old I.shape.ok.1,by rw[e];rfl⟩,e];show some _=some _;delta aE;dsimp only;rw[I.bW]
structure vZ(k:aS)(as:List U)(sg:Str):Prop where
 T:∀E:Eb,E.as=as->E.sg=sg->pL E k
 as:as.length<=1000
 sg:sg.length<=1
 c8:allB (pJ (eB k) 8)=true
 c7:(k.kind==S "char")=false->y6 (pJ (eB k) 7)=true
theorem Dw(K:vZ k as sg)(I:kD b N)(h1:1<=N)(hN:N<=100000):tJ b N c k:=by
 have A:Dp (pM b) N:=⟨I.ok.same rfl (afV _) I.ok.ze I.ok.zp (afD _),I.bJ,I.hH,I.bW,rfl,hN,h1⟩;obtain⟨E,s,⟨e,h2,h3,h4⟩,hf,r⟩:=aaU A K.as K.sg I.shape K.c8;refine ed (Lu e (K.T E h2 h3) r hf) λb' s' e1 r1 F eO=>?_;refine⟨b',e1,?_,λpk rk old=>?_⟩
 ·cases hp:s'.bW with
  |false=>exact .inl ((F.i hp).more (by omega))
  |true=>
   refine dR (F.t hp) λg1 g2 g3=>?_;have rB:b'.aQ=[sg]:=by rw[r1.pe,hp,h3];rfl
   exact .inr ⟨g2.more (by omega),g3,g1,by rw[rB];simp,by rw[rB];exact ago _ _,λx hx=>by rw[rB]at hx;rw[af0.mp hx];exact K.sg⟩
 ·unfold sI;cases hc:(k.kind==S "char")with
  |true=>
   refine aI (eO pk rk old) λjC h=>?_;rw[hc]at h;exact⟨jC,rk,old,h⟩
  |false=>
   refine aI (eO pk (rk+1) (some [])) λjC h=>?_;rw[hc]at h;exact⟨jC,rk+1,some [],(oB _ (aa5 I (ads ‹_› (by decide)) pk rk old)).trans h⟩
theorem j7.dP(J:j7 b N c):j7 (pM b) N c:=⟨⟨J.base.ok.same rfl (afV _) J.base.ok.ze J.base.ok.zp (afD _),J.base.shape,J.base.bJ,J.base.hH,J.base.bW⟩,J.pl,J.mode,J.ne,J.zp,J.sg⟩
theorem j7.gJ(J:j7 b N c)(hN:N<=100000)(hc:c<=100000)(n:Nat)(k:aS):jl (n+1) b k=qt (jl n) b k:=by refine cps λG k=>?_;refine fX J.oa λfD u hh=>l8 hh λt r0 pre aR T=>?_;refine cQ T.last λst k' hs _=>?_;refine k ?_;refine(oB _ (KS J.ok (by exact bt (agL ‹_› ‹_›)) hs)).trans ?_;rw[J.mode];kernel_rfl
theorem stepT(K:vZ k as sg)(J:j7 b N c)(h1:1<=N)(hN:N<=50000)(hc:c<=1000)(hk:(k.kind==S "char")=false):tJ b N c k:=by
 obtain⟨b1,e1,I1,⟨pre,mo,aR,p1,p2,p3⟩,ha,aa6⟩:=aa4 J.dP (ads ‹_› (by decide)) (ads ‹_› (by decide));have A:Dp (b1.to b1.original) (N+2*c):=⟨I1.ok,I1.bJ,I1.hH,I1.bW,ha,by lia,by exact agY h1⟩;obtain⟨E,s,⟨e,h2,h3,h4⟩,hf,r⟩:=aaV A K.as K.sg (b:=b1.to b1.original) p1 p2 p3 rfl (K.c7 hk);refine ed (Lu e (K.T E h2 h3) r hf) λb' s' e2 r1 F eO=>?_;refine⟨b',?_,?_,λpk rk old=>?_⟩
 ·rw[Lx,J.dP.gJ (ads ‹_› (by decide)) (ads ‹_› (by decide))];have:qt (jl 7) (pM b) k=jl 7 (b1.to b1.original) k:=(iT _ _ (by rw[bne,hk];rfl)).trans (oB _ e1);exact this▸e2
 ·cases hp:s'.bW with
  |false=>exact .inl ((F.i hp).more (by exact h4▸afD _))
  |true=>
   refine dR (F.t hp) λg1 g2 g3=>?_;have rB:b'.aQ=[sg]:=by rw[r1.pe,hp,h3];rfl
   exact .inr ⟨g2.more (by exact h4▸afD _),g3,g1,by rw[rB];simp,by rw[rB];exact ago _ _,λx hx=>by rw[rB]at hx;rw[af0.mp hx];exact K.sg⟩
 ·refine aI (eO pk (rk+1) (some (pM b).aQ)) λjC h=>?_;rw[hk]at h;refine⟨jC,rk+1,some (pM b).aQ,?_⟩;exact(iF _ _ hk).trans ((oB _ (aa6 pk rk old)).trans h)
theorem Ly(h:rA k as):vZ k as (S ""):=by
 have hq:eB k=qS k.name:=by delta eB qS;rw[h.kind]
 have nc:(k.kind==S "char")=false:=by rw[h.kind];kernel_rfl
 exact⟨λE h1 h2=>⟨⟨λ_=>by rw[h1];exact h.aX,λz=>(by rw[nc]at z;exact nomatch z)⟩,λ_=>h.flag⟩,h.len,afO _,by exact hq▸eW aay h.name,λ_=>by exact hq▸eW aaB h.name⟩
theorem Lz(h:Dt k):vZ k [] (S ""):=by
 have hq:eB k=qE k.name:=by delta eB qE;rw[h.kind]
 have nc:(k.kind==S "char")=false:=by rw[h.kind];kernel_rfl
 have ns:(k.kind==S "start")=false:=by rw[h.kind];kernel_rfl
 exact⟨λE h1 h2=>⟨⟨λz=>(by rw[ns]at z;exact nomatch z),λz=>(by rw[nc]at z;exact nomatch z)⟩,λz=>(by rw[ns]at z;exact nomatch z)⟩,afO _,afO _,by exact hq▸eW aaz h.name,λ_=>by exact hq▸eW aaC h.name⟩
theorem aa7(h:Du k):vZ k [] k.name:=by
 have hq:eB k=⟨S "char",k.name,fA k.name,false⟩:=by unfold eB;rw[h.kind,afK.mpr h.yS]
 have ic:(k.kind==S "char")=true:=by exact h.kind▸agA _
 have ns:(k.kind==S "start")=false:=by rw[h.kind];kernel_rfl
 refine⟨λE h1 h2=>⟨⟨λz=>(by rw[ns]at z;exact nomatch z),λ_=>⟨h2.symm,h.rest⟩⟩,λz=>(by rw[ns]at z;exact nomatch z)⟩,afO _,h.len,?_,λz=>(by replace z:=ic▸z;cases z)⟩;rw[hq];exact eW (aaA k.name) (by cases fA k.name;exact .tail _ (.head _);exact .head _)
theorem aa8(I:Inv b N c)(h1:1<=N)(hN:N<=50000)(hc:c<=1000)(h:rA k as):tJ b N c k:=
 I.elim (λI=>Dw (Ly h) I h1 (by exact bt hN)) λJ=>stepT (Ly h) J h1 hN hc (by rw[h.kind];kernel_rfl)
theorem aa9(I:Inv b N c)(h1:1<=N)(hN:N<=50000)(hc:c<=1000)(h:Dt k):tJ b N c k:=
 I.elim (λI=>Dw (Lz h) I h1 (by exact bt hN)) λJ=>stepT (Lz h) J h1 hN hc (by rw[h.kind];kernel_rfl)
theorem aba(I:Inv b N c)(h1:1<=N)(hN:N<=50000)(hc:c<=1000)(h:Du k):tJ b N c k:=by
 refine Or.elim I (λI=>?_) λJ=>?_
 ·exact Dw (aa7 h) I h1 (by exact bt hN)
 have ic:(k.kind==S "char")=true:=by exact h.kind▸agA _
 have hz:=J.zp;have hl:(b.aQ++[k.name]).length=b.aQ.length+1:=by rw[afC];rfl
 refine⟨{pM b with aQ:=b.aQ++[k.name]},?_,.inr ⟨J.dP.base.more (by lia),J.pl,J.mode,by simp,by show(b.aQ++[k.name]).length<=_;exact ads (Nat.le_of_eq hl) (af9 hz),λx hx=>?_⟩,λpk rk old=>⟨pk,rk,old,?_⟩⟩
 ·rw[Lx,J.dP.gJ (ads ‹_› (by decide)) (ads ‹_› (by decide))];refine(oB (v:=({pM b with aQ:=b.aQ++[k.name]}:B)) _ ((iF _ _ (by rw[bne,ic];rfl)).trans ((iF _ _ (afK.mpr h.yS)).trans (if_pos ⟨dg (by show b.aQ.length<=_;exact bt (ads hz hc)),h.rest⟩)))).trans ?_;exact iF _ _ (by rw[h.kind];kernel_rfl)
 ·rcases afL.mp hx with q|q
  ·exact J.sg x q
  ·rw[af0.mp q];exact h.len
 ·refine fX J.oa λfD u hh=>l8 hh λt r0 pre aR T=>?_;refine cps λG k=>?_;refine dR (T.eO pk rk old) λf1 f2 f3=>?_;refine cQ T.last λst k' hs _=>?_;refine dR (yM J.ok (by exact bt (agL hN hc)) hs pk rk old h.len) λg1 g2 g3=>?_;have zk:=J.ok.zk _ _ (j5 J.ok hs).2.get;have hh:=eW aa2 T.pl;refine k ?_;rw[afz,afY,afY]at hh;refine(iT _ _ ic).trans ?_;rw[Dl (q5 J.ok (by exact bt (agL ‹_› ‹_›)) pk rk old J.mS) g1 g2 (dg (by show(gx b).af.length<=_;exact bt (ads ‹_› (agL ‹_› ‹_›)))),f1,f2];refine(iF _ _ ?_).trans ((iF _ _ (ag1 ?_)).trans ((oB (v:=aE b pk rk old) _ (iF _ _ hh.2)).trans ?_))
  ·rw[hh.1,hh.2];exact Bool.or_eq_false_iff.mpr ⟨afK.mpr (by exact nofun),rfl⟩
  ·rw[f3,afC,af6,T.len,afU];lia
  ·exact if_pos (dg (by show b.aQ.length<=_;exact bt (ads ‹_› ‹_›)))
end
theorem tK{P:Nat->Nd->Prop}(h0:P 0 ⟨S "document",S "",S "",[],S "",-1,[1]⟩)(h1:P 1 {gU (S "html") []with bB:=0,af:=[2,3]})(h2:P 2 {gU (S "head") []with bB:=1})(h3:P 3 {gU (S "body") []with bB:=1}):∀(i:Nat) (x:Nd),b0.aa[i]?=some x->P i x:=by
 intro i x e;rcases i with _|_|_|_|i
 ·apply sE e;exact h0
 ·apply sE e;exact h1
 ·apply sE e;exact h2
 ·apply sE e;exact h3
 ·have:b0.aa[i+4]?=none:=by rw[af1];show 4<=i+4;exact ago _ _
  rw[this]at e;exact ag e
theorem abb:names b0=[S "html",S "body"]:=rfl
theorem abc:Inv b0 10 0:=by
 refine .inl ⟨⟨⟨tK ?_ ?_ ?_ ?_,tK ?_ ?_ ?_ ?_,tK ?_ ?_ ?_ ?_⟩,?_,?_,?_,tK ?_ ?_ ?_ ?_,?_,?_,?_,?_,tK ?_ ?_ ?_ ?_,tK ?_ ?_ ?_ ?_⟩,?_,?_,rfl,rfl⟩
 ·intro k hk;have:k=1:=by simpa using hk
  exact⟨1,_,this,by decide,rfl,rfl⟩
 ·intro k hk;have:k=2\/k=3:=by simpa using hk
  rcases this with e|e
  ·exact⟨2,_,e,by decide,rfl,rfl⟩
  ·exact⟨3,_,e,by decide,rfl,rfl⟩
 ·intro k hk;cases hk
 ·intro k hk;cases hk
 ·show[(1:Int)].Nodup;decide
 ·show[(2:Int),3].Nodup;decide
 ·exact List.nodup_nil
 ·exact List.nodup_nil
 ·exact .inl rfl
 ·exact .inr ⟨0,rfl,by decide⟩
 ·exact .inr ⟨1,rfl,by decide⟩
 ·exact .inr ⟨1,rfl,by decide⟩
 ·intro k hk;have:k=1\/k=3:=by have h:k∈[(1:Int),3]:=hk;simpa using h
  rcases this with e|e
  ·exact⟨1,_,e,rfl,rfl,rfl⟩
  ·exact⟨3,_,e,rfl,rfl,rfl⟩
 ·show[(1:Int),3].Pairwise (·<·);decide
 ·intro st u t r e ht;exfalso;have e':[(1:Int),3]=st++u::t::r:=e;have hm:t=1\/t=3:=by
   have:t∈[(1:Int),3]:=by rw[e'];simp
   simpa using this
  rcases hm with q|q
  ·rw[q]at ht;have h:aH b0 1=S "html":=rfl;rw[h]at ht;exact absurd (sJ ht) (by decide)
  ·rw[q]at ht;have h:aH b0 3=S "body":=rfl;rw[h]at ht;exact absurd (sJ ht) (by decide)
 ·intro h;exact absurd h (by decide)
 ·intro _;exact .inl rfl
 ·intro _;exact .inl rfl
 ·intro _;exact .inl rfl
 ·show 4<=10;decide
 ·show 0<=10;decide
 ·show 0<=10;decide
 ·show 2<=10;decide
 ·show 1<=10;decide
 ·show 2<=10;decide
 ·show 0<=10;decide
 ·show 0<=10;decide
 ·show(S "").length<=10;decide
 ·show(S "").length<=10;decide
 ·show(S "").length<=10;decide
 ·show(S "").length<=10;decide
 ·exact abb▸.gy (.base lb)
 ·kernel_rfl
abbrev LA:Lf B Unit:=fs .int λ_ b=>jR b
abbrev LB:Lf B Unit:=fs (λ_=>.bool false) λ_ b=>oX b
abbrev LC:Lf B (aS×Unit):=fs (λ_=>.bool true) λ_ b=>oX b
abbrev abd:bg:=bh (H.sub 83 6) "Builder.adjusted" 878 877 [S "self"] []
theorem abe:au 878 abd:=au.o1
abbrev abf:bg:=bh (H.sub 83 7) "Builder.is_foreign" 885 884 [S "self"] []
theorem abg:au 885 abf:=au.o1
abbrev abh:bg:=bh (H.aD 84) "is_html_turn" 899 898 [S "builder",S "token"] []
theorem abi:au 899 abh:=au.o2
abbrev abj:bg:=bh (H.sub 83 4) "Builder.process" 864 863 [S "self",S "token"] []
theorem abk:au 864 abj:=au.o2
abbrev abl:bg:=bh (H.sub 83 5) "Builder.feed" 871 870 [S "self",S "token"] []
theorem LD:au 871 abl:=au.o2
section
variable{G:AH}
theorem abm:bw (λb n=>hp b G n) 2 878 (λa=>bc 1::Ps.enc ar a) LA:=λa b r h Q q n=>run (D:=DB (Int×B) ay G 0 false cv (t0 (Int×B) ay)) (d:=1) (z:=b) (tf:=false) (ht:=λe=>nomatch e) (r:=(r,b)) (fin:=yn) (bo cI kC) abe (h:=Eq.trans (b:=(if aC b.stack.length then some (b.stack.length:Int)else none).bind λc=>if c==1 then(jR b).bind λk=>some (k,b)else(jR b).bind λk=>some (k,b)) (by kernel_rfl) (by
 have h:jR b=some r:=h;rw[if_pos (iC h).1,h];show(if((b.stack.length:Int)==1) then some (r,b)else some (r,b))=_;cases((b.stack.length:Int)==1)<;>rfl)) (q:=λfl m z n e=>bE e λc e1 e2=>by
 cases e2;rw[dZ e1];exact q n) (n:=n) (hl:=by kernel_rfl)
def ta(ρ:Type)(c:Tl B ρ):List (Addr×cA B ρ):=(878,aZ c 0 2 ar LA)::[]
theorem abn{ρ:Type}{c:Tl B ρ}{kp:Bool}{pc:List (Addr×Nat×(List U->Option U))}{tb:List (Addr×cA B ρ)}{r:ρ}{o:Nat}:∀e,e∈ta ρ c->cU (DB ρ c G o kp pc tb) r e.1 e.2:=aG (bx abm rfl) (cH)
theorem abo:bw (λb n=>hp b G n) 3 885 (λa=>bc 1::Ps.enc ar a) LB:=λa b r h Q q n=>run (D:=DB (Bool×B) ay G 0 false cv (ta (Bool×B) ay)) (d:=2) (z:=b) (tf:=false) (ht:=λe=>nomatch e) (r:=(false,b)) (fin:=lW) (bo cI abn) abg (h:=Eq.trans (b:=(jR b).bind λk=>if k !=-1 then(nd b k).bind λx=>some (x.d7 !=S "html",b)else some (k !=-1,b)) (by kernel_rfl) (by
 refine bE h λk h1 h2=>?_;refine bE h2 λx h3 _=>?_;rw[h1];show(if k !=-1 then _ else _)=_;rw[if_pos (F1 (kS h3)),kS h3,show(some x).bind (λx=>some (x.d7 !=S "html",b))=some (x.d7 !=S "html",b)from rfl,AU h3])) (q:=λfl m z n e=>bE e λc e1 e2=>by
 cases e2;rw[iK e1];exact q n) (n:=n) (hl:=by kernel_rfl)
def th(ρ:Type)(c:Tl B ρ):List (Addr×cA B ρ):=(885,aZ c 0 3 ar LB)::[]
theorem abp{ρ:Type}{c:Tl B ρ}{kp:Bool}{pc:List (Addr×Nat×(List U->Option U))}{tb:List (Addr×cA B ρ)}{r:ρ}{o:Nat}:∀e,e∈th ρ c->cU (DB ρ c G o kp pc tb) r e.1 e.2:=aG (bx abo rfl) (cH)
theorem abq:bw (λb n=>hp b G n) 4 899 (λa=>bc 1::Ps.enc (bF ar) a) LC:=λa b r h Q q n=>run (D:=DB (Bool×B) ay G 0 false cv (th (Bool×B) ay)) (d:=3) (z:=b) (tf:=false) (ht:=λe=>nomatch e) (r:=(true,b)) (fin:=lW) (bo cI abp) abi (h:=Eq.trans (b:=(oX b).bind λ_=>some (true,b)) (by kernel_rfl) (by rw[show oX b=some r from h];rfl)) (q:=λfl m z n e=>bE e λc e1 e2=>by
 cases e2;rw[iK e1];exact q n) (n:=n) (hl:=by kernel_rfl)
def tr(ρ:Type)(c:Tl B ρ)(p:cu):List (Addr×cA B ρ):=(469,aZ c 0 20 (bF ar) (JN p))::(490,aZ c 0 22 (bF ar) (JV p))::(518,aZ c 0 25 (bF ar) (J4 p))::(546,aZ c 0 25 (bF ar) (J5 p))::(567,aZ c 0 21 (bF ar) (JU p))::(406,aZ c 0 22 (bF ar) (te p))::(420,aZ c 0 20 (bF ar) (Kb p))::(921,aZ c 0 7 (bF ar) mN)::[]
theorem abr{p:cu}{dp:Nat}(P:dI G dp p){ρ:Type}{c:Tl B ρ}{kp:Bool}{pc:List (Addr×Nat×(List U->Option U))}{tb:List (Addr×cA B ρ)}{r:ρ}:∀e,e∈tr ρ c p->cU (DB ρ c G dp kp pc tb) r e.1 e.2:=aG (fb (o:=dp) (Yz P) (afD _) rfl) (aG (fb (o:=dp) (YS P) (afD _) rfl) (aG (fb (o:=dp) (Za P) (afD _) rfl) (aG (fb (o:=dp) (Zb P) (afD _) rfl) (aG (fb (o:=dp) (YM P) (afD _) rfl) (aG (fb (o:=dp) (JW P) (afD _) rfl) (aG (fb (o:=dp) (Zl P) (afD _) rfl) (aG (bx CB rfl) cH)))))))
end
abbrev LF(p:cu):Lf B (Str×aS×Unit):=cB λa b=>qu p a.1 b a.2.1
section
variable{G:AH}{p:cu}{dp:Nat}
theorem pN(P:dI G dp p){s md:Str}(m:aS->B->Option B){t:aS}{b r:B}(e:∀t z,(ms (DB B bb G dp false cv (tr B bb p)) 60).L 25 vD.cD (vD.names.zip ([bc 1,.str s,b7 t]++vD.dx)).reverse vD.body z true jx=m t z)(c:(md==s)=true)(h:m t b=some r){Q:U->AH->Prop}(q:∀n',Q .none (hp r G n'))(n:Nat):ba (dp+26) (.ref 857) [bc 1,.str md,b7 t] (hp b G n) Q:=
 afI.mp c▸runN (α:=aS) (args:=λt=>[bc 1,.str s,b7 t]) (d:=25) (λ_=>bo cI (abr P)) yH e rfl (λ_=>rfl) t b r h Q q n
theorem abt(P:dI G dp p):bw (λb n=>hp b G n) (dp+26) 857 (λa=>bc 1::Ps.enc (bN (bF ar)) a) (LF p):=λa b r h Q q n=>by have h:qu p a.1 b a.2.1=some r:=h;unfold qu at h;exact iE h (λc h=>pN P (λt b=>Az p b t) (λ_ _=>by kernel_rfl) c h q n) λ_ h=>iE h (λc h=>pN P (λt b=>AB p b t) (λ_ _=>by kernel_rfl) c h q n) λ_ h=>iE h (λc h=>pN P (λt b=>AD p b t) (λ_ _=>by kernel_rfl) c h q n) λ_ h=>iE h (λc h=>pN P (λt b=>AE p b t) (λ_ _=>by kernel_rfl) c h q n) λ_ h=>iE h (λc h=>pN P (λt b=>AG p b t) (λ_ _=>by kernel_rfl) c h q n) λ_ h=>iE h (λc h=>pN P (λt b=>nE p b t) (λ_ _=>by kernel_rfl) c h q n) λ_ h=>iE h (λc h=>pN P (λt b=>qt p b t) (λ_ _=>by kernel_rfl) c h q n) λ_ h=>iE h (λc h=>pN P (λt b=>lM b t) (λ_ _=>by kernel_rfl) c h q n) λ_ h=>ag h
end
def tp(ρ:Type)(c:Tl B ρ)(p:cu):List (Addr×cA B ρ):=(899,aZ c 0 4 (bF ar) LC)::(857,aZ c 0 26 (bN (bF ar)) (LF p))::[]
section
variable{G:AH}
theorem abu{p:cu}{dp:Nat}(P:dI G dp p){ρ:Type}{c:Tl B ρ}{kp:Bool}{pc:List (Addr×Nat×(List U->Option U))}{tb:List (Addr×cA B ρ)}{r:ρ}:∀e,e∈tp ρ c p->cU (DB ρ c G dp kp pc tb) r e.1 e.2:=aG (bx abq rfl) (aG (fb (o:=dp) (abt P) (afD _) rfl) cH)
abbrev abv(p:cu):Lf B (aS×Unit):=cB λa b=>(oX b).bind λ_=>qu p b.mode b a.1
theorem abw{p:cu}{dp:Nat}(P:dI G dp p):bw (λb n=>hp b G n) (dp+27) 864 (λa=>bc 1::Ps.enc (bF ar) a) (abv p):=runN (D:=DB B bb G dp false cv (tp B bb p)) (d:=26) (λ_=>bo cI (abu P)) (abk)
theorem abx(k:Nat):dI G (27*k) (jl k):=by
 induction k with
 |zero=>exact λb t b' n Q h q=>nomatch h
 |succ k ih=>exact λb t b' n Q h q=>abw ih (t,()) b b' h Q q n
def tf(ρ:Type)(c:Tl B ρ)(p:cu):List (Addr×cA B ρ):=(864,aZ c 0 0 (bF ar) (yI p))::(843,aZ c 0 1 (bN ar) yo)::[]
theorem LG{p:cu}{dp:Nat}(P:dI G dp p){ρ:Type}{c:Tl B ρ}{kp:Bool}{pc:List (Addr×Nat×(List U->Option U))}{tb:List (Addr×cA B ρ)}{r:ρ}:∀e,e∈tf ρ c p->cU (DB ρ c G dp kp pc tb) r e.1 e.2:=aG (fb (o:=dp) (CE P) (afD _) rfl) (aG (bx Cc rfl) cH)
theorem aby{b b':B}{n:Nat}{Q:U->AH->Prop}{t:aS}(ht:(∃x f tl,t.rest=x::.bool f::tl)\/t.rest=[])(h:qw b t=some b')(q:∀n,Q .none (hp b' G n)):ba 250 (.ref 871) [.ae .bP,b7 t] (hp b G n) Q:=by
 have P:=abx (G:=G) 8;obtain⟨k,nm,r⟩:=t;rcases ht with⟨x,f,tl,e⟩|e
 ·replace e:r=x::.bool f::tl:=e;subst e;exact Call.gu (d:=27*8+2) (by decide) (runN (D:=DB B bb G (27*8) false cv (tf B bb (jl 8))) (α:=Str×Str×U×Bool×List U) (args:=λa=>[bc 1,.aJ (.str a.1::.str a.2.1::a.2.2.1::.bool a.2.2.2.1::a.2.2.2.2)]) (m:=λa b=>qw b ⟨a.1,a.2.1,a.2.2.1::.bool a.2.2.2.1::a.2.2.2.2⟩) (d:=1) (λ_=>bo cI (LG P)) LD (λa z=>by kernel_rfl) rfl (λ_=>by kernel_rfl) (k,nm,x,f,tl) b b' h Q q n)
 ·replace e:r=[]:=e;subst e;exact Call.gu (d:=27*8+2) (by decide) (runN (D:=DB B bb G (27*8) false cv (tf B bb (jl 8))) (α:=Str×Str) (args:=λa=>[bc 1,.aJ [.str a.1,.str a.2]]) (m:=λa b=>qw b ⟨a.1,a.2,[]⟩) (d:=1) (λ_=>bo cI (LG P)) LD (λa z=>by kernel_rfl) rfl (λ_=>by kernel_rfl) (k,nm) b b' h Q q n)
end
set_option tactic.hygienic true
section
variable{d:Nat}{f:aV}{m:Lo}{H:AH}{X:AH}
def ot(d:Nat)(g:Value)(args:List U)(H:AH)(Q:U->AH->Prop):Prop:=
 ∀(A:Around) (ρ:aF) (s:Shared) (vs:List Value) (Qc:Value->Shared->Prop) (E:Value->Shared->Prop),fg A d->bu ρ H s.heap->bk s.heap ρ args vs->gC ρ s Q Qc->
  codeAny (model cg wX) A (.call g ⟨vs,[]⟩) (λr s'=>match r with|.ok (.ret v)=>Qc v s'|.ok _=>False|.error e=>E e s') s
theorem pO.def{names:List Str}(fK:Lo)
  (ho:kX.lookup fa=some ⟨oc,od,.func (fnOf name qual params body scope dV kV doc pm an d6 ct),z6⟩)(nh:codeIn kX d6 qual=true)
  (hbind:∀(S:Setting) (vs:List Value),vs.length=args.length->peek kX S (bindArgs (fnOf name qual params body scope dV kV doc pm an d6 ct) ⟨vs,[]⟩)=some (names.zip (vs++dv)))
  (iS:∀(h:Heap) (ρ:aF),bu ρ H h->bk h ρ dx dv)
  (hloc:∀x∈names,eK scope.names x .local)
  (iB:fK=(names.zip (args++dx)).reverse)
  (h:bR d (.fn qual scope fa d6 []) fK H body (λfl _ H'=>∃br,AH.Le H' br/\Q fl.val br))
  (hs:oN scope=true:=by kernel_rfl):ot (d+1) (.ref fa) args H Q:=
 fu (E3 hs) λni nj hk jL=>
 λA ρ s vs Qc E ah R rv p=>by
  subst iB;have KX:=R.lF;refine aU (uk ah (envOf qual scope s.heap.objs.size fa d6)) λnk lI=>?_;have rb:=cf.zip names (rv.append (iS _ _ R));refine codeAny_call_def (fd:=fnOf name qual params body scope dV kV doc pm an d6 ct) (body:=body) (binds:=names.zip (vs++dv)) nk (KX _ _ ho) rfl (R.bs.mY.keeps R.base) (codeRec_of KX nh) rfl
   (kp_binds KX λS=>hbind S vs rv.length.symm) jL (λy hy=>?_) (λcX eE jg=>?_) ni nj hk
  ·refine aU (List.of_mem_zip hy) λa b=>?_;exact(hloc y.1 a).eq
  ·have aY:=eE.lt;have S:bz ρ s.heap ρ cX:=⟨λ_ _ e=>e,λ_ _ e=>.inl e,λa o e _ _=>jg a o e,λa o e=>⟨o,jg a o e⟩⟩;have fM:bu ρ H cX:=⟨R.bs,λl o e=>ao (R.obj l o e) λa e1 q=>⟨a,e1,q.step S .none λob z=>jg a ob z⟩,R.low,λl a e=>aI (R.live l a e) λo z=>⟨o,jg a o z⟩,R.inj,R.new,λb o e=>jg b o (R.base b o e),let⟨b,o',q,z⟩:=R.top;⟨b,o',q,jg b o' z⟩⟩;have gm:St ρ H (cm:=[]) ⟨s.heap.objs.size,[]⟩ (names.zip (args++dx)).reverse cX:=⟨fM,⟨_,⟨eE,fM.base,let⟨b,o',q,z⟩:=R.top;ads q (agp z)⟩,(cf.reverse (cf.zip names ((rv.append (iS _ _ R)).step S .none))).E2⟩,R.lz,λ_ _ e=>nomatch e⟩;refine h _ ρ ⟨s.heap.objs.size,[]⟩ _ _ _ lI gm λfl v aj m' H' s' q X' S' z' r'=>?_;have SS:bz ρ s.heap aj s'.heap:=((bX.weak S).trans S').fresh (kJ _);induction r' with
   |next=>refine ao q λbr le q=>?_;exact p _ _ aj br s' q (X'.b5.le le) SS ⟨z'.gens,z'.os⟩ .none
   |brk=>refine ao q λbr le q=>?_;exact p _ _ aj br s' q (X'.b5.le le) SS ⟨z'.gens,z'.os⟩ .none
   |cont=>refine ao q λbr le q=>?_;exact p _ _ aj br s' q (X'.b5.le le) SS ⟨z'.gens,z'.os⟩ .none
   |ret r=>refine ao q λbr le q=>?_;exact p _ _ aj br s' q (X'.b5.le le) SS ⟨z'.gens,z'.os⟩ r
end
section
variable{d:Nat}{X:AH}
theorem pO.fn{st:Stmt}{names:List Str}{Q:U->AH->Prop}(fK:Lo)
  (ho:kX.lookup fa=some (H.fn st q df md (.ref ca)))(hc:kX.lookup ca=some ⟨.type "code",none,.fields vs,#[]⟩)(hv:vs.toList=a::.str (S q) tk::rs)(hi:nF st=true)
  (hbind:∀(S:Setting) (vs:List Value),vs.length=args.length->peek kX S (bindArgs (H.lu st q 3 df md (.ref ca)) ⟨vs,[]⟩)=some (names.zip (vs++dv)))
  (iS:∀(h:Heap) (ρ:aF),bu ρ X h->bk h ρ dx dv)
  (eb:cZ st=body)(es:fO st=scope)
  (hloc:∀x∈names,eK scope.names x .local)
  (iB:fK=(names.zip (args++dx)).reverse)
  (h:bR d (.fn (S q) scope fa (.ref ca) []) fK X body (λfl _ H'=>∃br,AH.Le H' br/\Q fl.val br))
  (hs:oN scope=true:=by kernel_rfl):ot (d+1) (.ref fa) args X Q:=by
 subst eb es;have e:=FQ (q:=q) (df:=df) (md:=md) (cd:=.ref ca) hi;refine pO.def fK (ho.trans (afE some (afE (λz=>Obj.mk (.type "function") none (.func z) #[]) e))) (um hc hv) (λS vs hv=>?_) iS hloc iB h hs;exact e▸hbind S vs hv
end
section
variable{d:Nat}{f:aV}{m:Lo}{H:AH}
theorem Call.new{l dl:Loc}(hm:makesIn kX C=true)(hi:findIn kX (.ref C) "__init__"=some (some (.ref fI)))(hf:typeIn kX (.ref fI)=some (.type "function"))
  (rC:H.new dl)(hl:(H.add dl (.dict [])).new l)
  (h:ot d (.ref fI) (.ae l::args) ((H.add dl (.dict [])).add l (.inst C dl)) λv H'=>v=.none/\Q (.ae l) H'):ba (d+1) (.ref C) args H Q:=
 λA ρ s vs Qc E ah R rv p=>by
  obtain⟨hh,g,dr,t,os⟩:=s;refine wpAny_call ?_;have KX:kX.In hh:=R.lF;refine make_core (makes_of KX hm) (looks_findIn KX hi) (λself=>bind_fn KX self hf) (.inl rfl) ?_;have lI:fg (A.under (.builtin "type.__call__" ⟨.ref C::vs,[]⟩)) d:=by
   obtain⟨a,b,c⟩:=ah;refine⟨a,?_,?_⟩
   ·show A.depth+1+d<=1000;lia
   ·have:(A.under (.builtin "type.__call__" ⟨.ref C::vs,[]⟩)).units<=A.units+10:=by show A.units+_<=A.units+10;exact agM (afG rfl) _
    lia
  obtain⟨fM,qi⟩:=R.alloc (l:=dl) (o:=.dict []) (ob:=emptyDict) rC rfl λaj _ e=>⟨[],0,e,.nil⟩;obtain⟨cW,bQ⟩:=fM.alloc (l:=l) (o:=.inst C dl) (ob:=instObj C hh.objs.size) hl rfl λaj S e=>⟨hh.objs.size,S.ext _ _ (aF.bY ..),e⟩;have S:=qi.trans bQ;have ea:((ρ.add dl hh.objs.size).add l (hh.push emptyDict).objs.size) l=some (hh.objs.size+1):=by rw[aF.bY,Heap.size_push]
  have c:=h (A.under (.builtin "type.__call__" ⟨.ref C::vs,[]⟩)) _ ⟨(hh.push emptyDict).push (instObj C hh.objs.size),g,dr,t,os⟩ (.ref (hh.objs.size+1)::vs) (λv s'=>v=.none/\Qc (.ref (hh.objs.size+1)) s') E lI cW (.cons (.ae ea) (rv.step S .none)) λy v aj H' s' q R' S' z' r'=>?_
  ·refine codeAny_mono c λr s' z=>?_;rcases r with e|(v|_|_|_)<;>exact z
  ·obtain⟨rfl,q⟩:=q;refine r'.k ?_;exact⟨rfl,p _ _ aj H' s' q R' (S.trans S') ⟨z'.gens,z'.os⟩ (.ae (S'.ext _ _ ea))⟩
theorem Ev.abz(l:Loc)(h3:∃o,kX.lookup 3=some o)(hn:H.new l)(q:Q (.ae l) (H.add l (.map []))):aW d f m H (.Dict [] [] pos) Q:=
 λA ρ L s Qc E ah X p=>by
  have R:=X.b5;have xr:(s.heap.objs.size==sysModules)=false:=by
   refine aI h3 λo e=>?_;have:=agp (R.base _ _ (R.bs.X _ _ e));exact afK.mpr λe=>by replace this:=e▸this;exact absurd this (by decide)
  refine aU (R.alloc (o:=.map []) hn (ob:={cls:=.type "dict",data:=.dict #[]}) rfl λaj S' e=>⟨[],Heap.DictOf.new s.heap,.nil,xr⟩) λR' S'=>?_;refine wpAny_Dict_empty ?_;exact p (.ae l) _ _ _ {s with heap:=s.heap.push {cls:=.type "dict",data:=.dict #[]}} q R' S' ⟨rfl,rfl⟩ (.ae (aF.bY ..))
theorem abA{id:Str}(h:(id !="super")=true):attributeBase (.Call (.Name id np) [] [] cp) fZ env whole=whole:=by unfold attributeBase;dsimp only;rw[h,Bool.true_or,Bool.true_or,Bool.true_or,if_pos rfl]
theorem cf.abB(r:cf h ρ es kvs):∀(i:Nat) (k:Str) (v:Value),es[i]?=some (k,.val v)->kvs[i]?=some (k,v):=
 λi k v=>cf.rec (motive:=λes kvs _=>∀i,es[i]?=some (k,.val v)->kvs[i]?=some (k,v)) (λ_ e=>ag e) (λ{k'} {x} {v'} _ _ a _ q i=>Nat.casesOn i (λe=>by
  have e':=ack e;have e1:k'=k:=afE Prod.fst e';have e2:x=.val v:=afE Prod.snd e';subst e1;subst e2;rw[a.OC];rfl) λi=>q i) r i
inductive JI{cm:List (Str×Loc)}(L:gA cm)(it a:Addr)(bA:aF)(s₁:Shared)(kvs:List (Str×Value))(ep:Nat)(n:Nat)(I:Nat->Lo->AH->Prop):Nat->Shared->Prop
 |mk {i:Nat} {ρ:aF} {m:Lo} {H:AH} {s:Shared} {ok ov:Value} (hi:i<=n) (hI:I i m H) (Y:mq L it bA s₁ ρ H m s) (g:IsItemIter s.heap it a i kvs.length ep ok ov) (at_:s.heap.DictAt (strKind cg wX) a kvs ep) (fa:∀l,ρ l≠some a):JI L it a bA s₁ kvs ep n I (n-i) s
theorem Ex.abC{xk xv:Str}(u7:eK f.cs.names xk .local)(hxv:eK f.cs.names xv .local)(hkf:f.cs.kind=.function)
  (l:Loc)(es:List (Str×U))(hn:H.new l)
  (h:aW d f m H (.Call (.Name fx fp) [] [] cp) λv H₁=>v=.ae l/\H₁=H.add l (.map es))
  (no:∀y∈es,∃v,y.2=.val v)(I:Nat->Lo->AH->Prop)(start:I 0 m H)
  (turn:∀i y m' H',I i m' H'->es[i]?=some y->bR d f ((xv,y.2)::(xk,.str y.1)::m') H' body λfl fH bS=>match fl with
    |.next|.cont=>I (i+1) fH bS
    |.brk=>Q .next fH bS
    |.ret v=>Q (.ret v) fH bS)
  (done:∀m' H',I es.length m' H'->bR d f m' H' [] Q)
  (abD:(fx !="super")=true)(abE:(iz.endLine==abF.line)=true):
  dD d f m H (.For (.Tuple [.Name xk pk,.Name xv pvv] x1 pt) (.Call (.Attribute (.Call (.Name fx fp) [] [] cp) "items" iz) [] [] abF) body [] pos) Q:=
 λA ρ L s Qc E ah X p=>wpAny_For (wpAny_Call_method (T:="dict") (id:="dict.items") (abA abD) rfl abE ahd PySem.F.slot_dict_items PySem.F.type_dict_items (h A ρ L s _ E ah X λv u bA H₁ s₁ q R S z r=>by
  refine aU q λjo bp=>?_;subst jo;subst bp;refine gN (R.map (AH.bY ..) r) λa kvs aP ea hd rp eE=>?_;subst aP;have n0:ρ l=none:=X.b5.new l hn;refine⟨hd.typeIs,hd.mapOf.noDict,?_⟩;refine aI hd.dictAt λep qO=>?_;have Rd:=bu.cM X.b5 n0 R;have Sd:bz ρ s.heap (bA.cM l) s₁.heap:=bX.cM S n0;have fa:∀k,bA.cM l k≠some a:=λk e=>by refine aU (aF.nH e) λe' ne=>?_;exact ne (R.inj k l a e' ea)
  have aL:a≠L.L:=λe=>(X.cj R S).free l (by rw[ea,e]);generalize hρ:bA.cM l=za at Rd Sd fa;have gm:=X.cj Rd Sd;have le:=rp.length;refine method_meetsIn PySem.F.slot_dict_items PySem.F.entry_dict_items rfl (PySem.evalArgs_none ⟨rfl,hd.typeIs,PySem.F.args_dict_items_1 _,_,meets_dict_items (strKind cg wX) a eE,⟨kvs,hd⟩,?_⟩);refine wpAny_pyIter_items (knd:=strKind cg wX) (d:=a) (kvs:=kvs) (ep:=ep) ⟨_,agd _ rfl,rfl,rfl⟩ (qO.push _) ?_;dsimp only;have nJ:(s₁.heap.push {cls:=.type "dict_items",data:=.fields #[.ref a]}).objs.size=s₁.heap.objs.size+1:=Heap.size_push ..;have abG:∀b,s₁.heap.objs.size<=b->s₁.heap.get? b=none:=λb hb=>by
   cases q:s₁.heap.get? b with
   |none=>rfl
   |some o=>exact absurd (agp q) (ahx.mpr hb)
  have lP:s₁.heap.get? (s₁.heap.objs.size+1)=none:=abG _ (agt _);have o8:hX.get? (s₁.heap.objs.size+1)=none:=by
   cases q:hX.get? (s₁.heap.objs.size+1)with
   |none=>rfl
   |some o=>have:=R.base _ _ q;rw[lP]at this;exact ag this
  have LI:a<s₁.heap.objs.size:=qO.lt_size;have Dx:((s₁.heap.push {cls:=.type "dict_items",data:=.fields #[.ref a]}).push {cls:=.type "dict_itemiterator",data:=.fields #[.none,.bool false,.ref a,.int 0 0,.int kvs.length 0,.int ep 0,.none,.none]}).get? (s₁.heap.objs.size+1)=some {cls:=.type "dict_itemiterator",data:=.fields #[.none,.bool false,.ref a,.int 0 0,.int kvs.length 0,.int ep 0,.none,.none]}:=by have:=agd (h:=s₁.heap.push {cls:=.type "dict_items",data:=.fields #[.ref a]}) (o:={cls:=.type "dict_itemiterator",data:=.fields #[.none,.bool false,.ref a,.int 0 0,.int kvs.length 0,.int ep 0,.none,.none]}) rfl;rwa [nJ]at this
  have k2:∀b o,s₁.heap.get? b=some o->((s₁.heap.push {cls:=.type "dict_items",data:=.fields #[.ref a]}).push {cls:=.type "dict_itemiterator",data:=.fields #[.none,.bool false,.ref a,.int 0 0,.int kvs.length 0,.int ep 0,.none,.none]}).get? b=some o:=λb o e=>afQ _ (afQ _ e);rw[nJ];have ai:a≠s₁.heap.objs.size+1:=λe=>by rw[e]at LI;exact absurd LI (ahx.mpr (agt _))
  generalize hh2:(s₁.heap.push {cls:=.type "dict_items",data:=.fields #[.ref a]}).push {cls:=.type "dict_itemiterator",data:=.fields #[.none,.bool false,.ref a,.int 0 0,.int kvs.length 0,.int ep 0,.none,.none]}=h2 at Dx k2;clear nJ hh2;generalize wM:s₁.heap.objs.size+1=it at lP o8 Dx ai;have hL:it≠L.L:=by refine ao gm.fr λm' F M=>?_;intro e;rw[e]at lP;refine jd F.ns λo es ep e2 _=>?_;rw[lP]at e2;exact ag e2
  have fi:∀k,za k≠some it:=λk e=>by refine aI (Rd.live k _ e) λo z=>?_;rw[lP]at z;exact ag z
  have K:r5 L.L it s₁.heap:=⟨lP,o8,hL⟩;refine codeAny_forLoop_any (JI L it a za s₁ kvs ep es.length I) (λn bH hJ=>?_) es.length (.mk (afO _) start ⟨gm.cj (Rd.keeps k2) (bz.keeps k2),.weak (bz.keeps k2),⟨rfl,rfl⟩,fi⟩ Dx (qO.at λo e=>k2 _ o e) fa);induction hJ with|mk hi i2 Y tL zb zc=>
  rename_i i dB fH bS bH ok ov;have en:∀xs n,(Data.fields #[Value.none,.bool false,.ref a,.int i 0,.int kvs.length 0,.int ep 0,ok,ov])≠.seq xs n:=λxs n z=>by cases z
  by_cases aY:i<es.length
  ·refine aI (no es[i] (ag8 aY)) λv0 ev=>?_;have ei:es[i]?=some (es[i].1,.val v0):=by rw[afH aY,<-ev]
   have hx:=rp.abB _ _ _ ei;refine wpAny_pyNext_items_item tL zb hx λkey cX abH heo abI afx jg=>?_;refine aI (Value.isStrOf_shape abH) λt bp=>?_;subst bp;refine wpAny_letOwnedTupleGo_items heo λrW LK zd=>?_;replace zd:Heap.SameBut it cX rW:=zd;have eb:Heap.ExtBut it bH.heap rW:=λb o hb e=>zd.extBut b o hb (jg b o hb e);refine aU (Y.next K (tk:=bH.toks) tL en eb LK) λY' S'=>?_;have hiH:it<bH.heap.objs.size:=agp tL;have abJ:rW.IsTuple bH.heap.objs.size #[.str es[i].1 t,v0]:=⟨_,(zd.2 _ (Nat.ne_of_gt hiH)).trans abI,rfl,_,rfl⟩;refine wpAny_assign_Tuple ah.1 abJ rfl rfl λo6 abK=>?_;have kk:∀b o,rW.get? b=some o->o6.get? b=some o:=λb o e=>abK b o (λq=>by rw[q,kJ]at e;exact ag e) e;have X3:=Y'.X.cj (Y'.X.b5.keeps kk) (bz.keeps kk);refine Fs (s:={bH with heap:=o6}) (ns:=[xk,xv]) (xs:=[.str es[i].1,.val v0]) hkf rfl (λy hy=>by
    cases hy with
    |head=>exact u7
    |tail _ hy=>cases hy with
     |head=>exact hxv
     |tail _ hy=>cases hy) rfl X3 (.cons (.str _ t) (.cons (.val v0) .nil)) λdW je eh fY=>?_
   have abL:bX (some L.L) za s₁.heap dB dW.heap:=(Y'.S.trans (.weak (bz.keeps kk))).trans eh;have zz:dS s₁ dW:=⟨fY.gens.trans Y.z.gens,fY.os.trans Y.z.os⟩;refine turn i (es[i].1,.val v0) fH bS i2 ei A dB L dW _ _ ah je λfl Px jM qk ny lJ lK oP kL uy Ag=>?_;have Dy:=eh.keep it _ (kk _ _ LK) Y.fr (λq=>hL (ack q).symm);have LL:=kL.keep it _ Dy Y.fr (λq=>hL (ack q).symm);have LM:lJ.heap.DictAt (strKind cg wX) a kvs ep:=zb.at λo e=>kL.keep a _ (eh.keep a _ (kk _ _ (eb a o ai e)) zc (λq=>aL (ack q).symm)) zc (λq=>aL (ack q).symm);have LO:∀l,jM l≠some a:=by obtain⟨o,e⟩:∃o,bH.heap.get? a=some o:=cQ zb λo _ e _=>⟨o,e⟩;exact kL.free zc (eh.keep a _ (kk _ _ (eb a o ai e)) zc (λq=>aL (ack q).symm))
   have Dz:=abL.trans kL;have DA:=zz.trans uy;have SS:=(bX.weak Sd).trans Dz;have zs:=z.trans DA;induction Ag with
   |next=>exact⟨_,agU aY (agf _),.mk aY lK ⟨oP,Dz,DA,kL.free Y.fr Dy⟩ LL LM LO⟩
   |cont=>exact⟨_,agU aY (agf _),.mk aY lK ⟨oP,Dz,DA,kL.free Y.fr Dy⟩ LL LM LO⟩
   |brk=>exact p _ _ jM qk ny lJ lK oP SS zs .next
   |ret rr=>exact p _ _ jM qk ny lJ lK oP SS zs (.ret rr)
  ·have:i=es.length:=by exact Nat.le_antisymm hi (agh aY)
   subst this;refine wpAny_pyNext_items_end ah.1 tL zb (af1 (Nat.le_of_eq le.symm)) λh' eb=>?_;have X':St dB bS L fH h':=Y.X.oK hL (Y.X.b5.last tL en Y.fr o8 eb (Rd.Af Y.S lP)) (hV.ue eb) (DictAt.of tL en);have T':bX (some L.L) za s₁.heap dB h':=Y.S.last lP eb;refine done fH bS i2 A dB L {bH with heap:=h'} _ _ ah X' ?_;exact p.after (s':={bH with heap:=h'}) ((bX.weak Sd).trans T') (z.trans ⟨Y.z.gens,Y.z.os⟩))) (λ_=>rfl)
end
set_option tactic.hygienic false
noncomputable def DC:Loc->Nat
 |.b9 n|.bM n|.bW n|.path n|.run n|.aO n=>n
 |_=>0
noncomputable def abM:List (Nat->Loc):=[.bP,.cO,.tree,.dC,.eg,.ff,.names,.aX,.eJ,.dU,.eQ,.me,.stack,.gP,.items,.fF,.gQ,.iO,.qc,.owners,.aK,.eR,.cw,.iu,.tokens].map (λl _=>l)++[.b9,.bM,.bW,.path,.run,.aO]
theorem LP(l:Loc):(abM.getD l.ctorIdx .b9) (DC l)=l:=by induction l<;>rfl
def lEq(a b:Loc):Bool:=Nat.beq a.ctorIdx b.ctorIdx&&Nat.beq (DC a) (DC b)
theorem abN{a b:Loc}(h:lEq a b=true):a=b:=by refine aU ((afz _ _).mp h) λh1 h2=>?_;rw[<-LP a,<-LP b,afN h1,afN h2]
theorem abO(a:Loc):lEq a a=true:=(afz _ _).mpr ⟨agC _,agC _⟩
def du:List (Loc×cx)->Loc->Option cx
 |[],_=>none
 |p::r,l=>if lEq l p.1 then some p.2 else du r l
def LH(xs:List (Loc×cx)):AH:=⟨du xs,λl=>du xs l=none⟩
theorem tM(h:l≠k):du ((k,o)::xs) l=du xs l:=if_neg λe=>h (abN e)
theorem v5:du ((k,o)::xs) k=some o:=if_pos (abO k)
theorem j8:(LH xs).add l o=LH ((l,o)::xs):=by
 refine AH.w5 v5 (λk h=>tM h) λk=>?_;by_cases q:k=l
 ·subst q;constructor
  ·intro h;have h':du ((k,o)::xs) k=none:=h;rw[v5]at h';exact nomatch h'
  ·intro h;exact absurd rfl h.2
 ·constructor
  ·intro h;have h':du ((l,o)::xs) k=none:=h;rw[tM q]at h';exact⟨h',q⟩
  ·intro h;show du ((l,o)::xs) k=none;rw[tM q];exact h.1
theorem zf(e:du xs l=some o'):(LH xs).set l o=LH ((l,o)::xs):=by
 refine AH.eU v5 (λk h=>tM h) λk=>?_;show du ((l,o)::xs) k=none↔du xs k=none;by_cases q:k=l
 ·subst q;rw[v5,e];exact⟨λh=>by(exact nomatch h),λh=>by(exact nomatch h)⟩
 ·rw[tM q]
theorem DD:∀{xs:List (Loc×cx)},du xs l=some o->(l,o)∈xs
 |(k,y)::r,h=>by
  by_cases q:l=k
  ·subst q;rw[v5]at h;cases h;exact agw ..
  ·rw[tM q]at h;exact agk _ (DD h)
theorem LQ(h1:ys.map (λp=>du xs p.1)=ys.map λp=>some p.2)(h2:(xs.all λp=>(du ys p.1).isSome)=true):AH.Le (LH xs) (LH ys):=
 ⟨λl o e=>List.map_inj_left.mp h1 _ (DD e),λl e=>by
  show du xs l=none;cases q:du xs l with
  |none=>rfl
  |some o=>exact nomatch (e:du ys l=none)▸afF.mp h2 _ (DD q)⟩
theorem pO.of{st:Stmt}
  (ho:ko fa=fnX fa ca st q)
  (hbind:∀(S:Setting) (vs:List Value),vs.length=kG.length-dx.length->peek kX S (bindArgs (H.lu st q 3 (sU (ko fa) (·.defaults)) (sU (ko fa) (·.pyModule)) (.ref ca)) ⟨vs,[]⟩)=some (kG.zip (vs++dv)))
  (hc:ko ca=some (H.co (qR (ko ca))))
  (hb:(BO (qR (ko ca)) (S q)&&(nF st&&(oN (fO st)&&kG.all λx=>(fO st).names.lookup x==some .local)))=true)
  {body:List Stmt}(iS:∀(h:Heap) (ρ:aF),bu ρ X h->bk h ρ dx dv)(hl:Nat.beq (xs.length+dx.length) kG.length=true)(hm:(kG.zip (xs++dx)).reverse=m)(hs:cZ st=body)
  (h:bR d (bh st q fa ca kG dx).cD m X body (λfl _ H'=>∃br,AH.Le H' br/\Q fl.val br)):ot (d+1) (.ref fa) xs X Q:=by
 rw[afz,afz,afz]at hb;refine kH (HR hb.1) λa tk rs e=>?_;refine pO.fn m (ho:=ho) (hc:=hc) (hv:=(List.toList_toArray).trans e) (hi:=hb.2.1) (hbind:=λS vs e=>hbind S vs (e▸Nat.eq_sub_of_add_eq (afN hl))) (iS:=iS) (eb:=hs) (es:=rfl) (hloc:=λx hx=>.of (eq_of_beq (afF.mp hb.2.2.2 x hx))) (iB:=hm.symm) (h:=h) (hs:=hb.2.2.1)
section
variable{d:Nat}{f:aV}{m:Lo}{xs xs':List (Loc×cx)}{l dl k:Loc}{C:Addr}{es:List (Str×U)}{a x:Str}{v:U}{e:Expr}{px pa pp pc ps:Pos}{ss:List Stmt}{Q:Fl->Lo->AH->Prop}
theorem I.list{Q:U->AH->Prop}(hn:du xs l=none)(q:Q (.ae l) (LH ((l,.list [])::xs))):aW d f m (LH xs) (.List [] pos) Q:=
 Ev.kc l (aM.nil ⟨afO _,hn,j8▸q⟩)
theorem I.dict{Q:U->AH->Prop}(hn:du xs l=none)(q:Q (.ae l) (LH ((l,.map [])::xs))):aW d f m (LH xs) (.Dict [] [] pos) Q:=
 Ev.abz l qG hn (j8▸q)
theorem I.s(SA:gS C a)(hx:ph d f m (.Name x px)=some (.ae l))(h:aW d f m (LH xs) e λy H'=>y=v/\H'=LH xs')(hc:kb e=true)(e1:du xs' l=some (.inst C dl))(e2:du xs' dl=some (.dict es))(hz:Nat.ble es.length 1000=true)
  (q:bR d f m (LH ((dl,.dict (f9 es a v))::xs')) ss Q):bR d f m (LH xs) (.Assign [.Attribute (.Name x px) a pa] e pp::ss) Q:=
 Ex.cons (Ex.zU (h.dy λy H' z=>by
  obtain⟨rfl,rfl⟩:=z;exact aN hx (Op.setAttr SA e1 e2 (afG hz) (zf e2▸q))) hc)
theorem I.p(F:fJ C a)(hx:ph d f m (.Name x px)=some (.ae l))(e1:du xs l=some (.inst C dl))(e2:du xs dl=some (.dict es))(e3:es.lookup a=some (.ae k))(e4:du xs k=some (.list ys))(h:aW d f m (LH xs) e λy H'=>y=v/\H'=LH xs')(e5:du xs' k=some (.list ys))
  (hz:Nat.ble ys.length 1000000=true)(hm:lH (.Attribute (.Name x px) a pa) pc ps [e]=true)(hn:jI e=true)(hi:f.isFn=true)(q:bR d f m (LH ((k,.list (ys++[v]))::xs')) ss Q):bR d f m (LH xs) (.Expr (.Call (.Attribute (.Attribute (.Name x px) a pa) (S "append") pc) [e] [] ps) pp::ss) Q:=
 Ex.ap F hx ⟨_,_,rfl,e1,e2⟩ e3 ⟨_,e4⟩ (h.dy λy H' z=>by
  obtain⟨rfl,rfl⟩:=z;exact Call.append e5 (afG hz) (zf e5▸q)) hm hn hi
theorem I.new{Q:U->AH->Prop}(hm:makesIn kX C=true)(hi:findIn kX (.ref C) "__init__"=some (some (.ref fI)))(hf:typeIn kX (.ref fI)=some (.type "function"))
  (rC:du xs dl=none)(hl:du ((dl,.dict [])::xs) l=none)
  (h:ot d (.ref fI) (.ae l::args) (LH ((l,.inst C dl)::(dl,.dict [])::xs)) λv H'=>v=.none/\Q (.ae l) H'):ba (d+1) (.ref C) args (LH xs) Q:=by
 refine Call.new hm hi hf (l:=l) (dl:=dl) rC ?_ ?_
 ·rw[j8];exact hl
 ·rw[j8,j8];exact h
end
theorem pP(h:findIn kX (.ref cY) name=some none):gS cY name:=⟨by kernel_rfl,by kernel_rfl,by unfold takerIn;rw[h];rfl,by kernel_rfl⟩
theorem abP:makesIn kX cY=true:=by kernel_rfl
theorem abQ:findIn kX (.ref cY) "__init__"=some (some (.ref 711)):=by kernel_rfl
theorem abR:typeIn kX (.ref 711)=some (.type "function"):=rfl
theorem LR(h:findIn kX (.ref fw) name=some none):gS fw name:=⟨by kernel_rfl,by kernel_rfl,by unfold takerIn;rw[h];rfl,by kernel_rfl⟩
theorem abS:makesIn kX fw=true:=by kernel_rfl
theorem abT:findIn kX (.ref fw) "__init__"=some (some (.ref 159)):=rfl
theorem abU:typeIn kX (.ref 159)=some (.type "function"):=rfl
theorem LU(h:findIn kX (.ref iU) name=some none):gS iU name:=⟨by kernel_rfl,by kernel_rfl,by unfold takerIn;rw[h];rfl,by kernel_rfl⟩
theorem abV:makesIn kX iU=true:=by kernel_rfl
theorem abW:findIn kX (.ref iU) "__init__"=some (some (.ref 620)):=by kernel_rfl
theorem abX:typeIn kX (.ref 620)=some (.type "function"):=rfl
theorem gz(h:findIn kX (.ref ck) name=some none):gS ck name:=⟨by kernel_rfl,by kernel_rfl,by unfold takerIn;rw[h];rfl,by kernel_rfl⟩
theorem abY:makesIn kX ck=true:=by kernel_rfl
theorem abZ:findIn kX (.ref ck) "__init__"=some (some (.ref 836)):=by kernel_rfl
theorem ab0:typeIn kX (.ref 836)=some (.type "function"):=rfl
theorem ab1:kX.lookup 712=some (H.tu []):=rfl
abbrev ou:bg:=bh (H.sub 80 1) "Tree.add" 720 719 [S "self",S "kind",S "space",S "name",S "attrs",S "text"] [.str (S ""),.str (S ""),.aJ [],.str (S "")]
theorem ab2:au 720 ou:=au.of (dv:=[.str (Str.ofString "") 1076,.str (Str.ofString "") 1077,.ref 712,.str (Str.ofString "") 1078]) rfl (λS=>all2 λa b=>(by kernel_rfl)) (λX h ρ R=>.cons (.str _ _) (.cons (.str _ _) (.cons (F4 R ab1) (.cons (.str _ _) .nil)))) rfl rfl
section
variable{xs:List (Loc×cx)}{Q:U->AH->Prop}
theorem ab3(t1:du xs .tree=some (.inst cY .dC))(t2:du xs .dC=some (.dict eT))(k0:du xs .eg=some (.list []))(k1:du xs .ff=some (.list []))(k2:du xs .names=some (.list []))(k3:du xs .aX=some (.list []))(k4:du xs .eJ=some (.list []))(k5:du xs .dU=some (.list []))(k6:du xs .eQ=some (.list []))(kk:du xs (.b9 0)=none)
  (q:Q (.int 0) (LH ((.eQ,.list [.ae (.b9 0)])::(.b9 0,.list [])::(.dU,.list [.int (-1)])::(.eJ,.list [.str (S "")])::(.aX,.list [.az []])::(.names,.list [.str (S "")])::(.ff,.list [.str (S "")])::(.eg,.list [.str (S "document")])::xs))):ba 2 (.ref 720) [.ae .tree,.str (S "document")] (LH xs) Q:=by
 refine ab2.go (d:=1) (m:=[(S "text",.str (S "")),(S "attrs",.aJ []),(S "name",.str (S "")),(S "space",.str (S "")),(S "kind",.str (S "document")),(S "self",.ae .tree)]) (body:=[aB ou.body 0,aB ou.body 1,aB ou.body 2,aB ou.body 3,aB ou.body 4,aB ou.body 5,aB ou.body 6,aB ou.body 7]) rfl rfl rfl ?_;refine Ex.bG (s':=?s0) ?e0 ?_;case e0=>conv=>lhs;whnf
 refine I.p (l:=.tree) (dl:=.dC) (es:=eT) (k:=.eg) (ys:=[]) uN rfl t1 t2 rfl k0 (aN (v:=.str (S "document")) rfl ⟨rfl,rfl⟩) k0 rfl rfl rfl rfl ?_;refine Ex.bG (s':=?s1) ?e1 ?_;case e1=>conv=>lhs;whnf
 refine I.p (l:=.tree) (dl:=.dC) (es:=eT) (k:=.ff) (ys:=[]) FX rfl t1 t2 rfl k1 (aN (v:=.str (S "")) rfl ⟨rfl,rfl⟩) k1 rfl rfl rfl rfl ?_;refine Ex.bG (s':=?s2) ?e2 ?_;case e2=>conv=>lhs;whnf
 refine I.p (l:=.tree) (dl:=.dC) (es:=eT) (k:=.names) (ys:=[]) xl rfl t1 t2 rfl k2 (aN (v:=.str (S "")) rfl ⟨rfl,rfl⟩) k2 rfl rfl rfl rfl ?_;refine Ex.bG (s':=?s3) ?e3 ?_;case e3=>conv=>lhs;whnf
 refine I.p (l:=.tree) (dl:=.dC) (es:=eT) (k:=.aX) (ys:=[]) AN rfl t1 t2 rfl k3 (Ev.wU xj (dF rfl) (aM.cons (aN (v:=.aJ []) rfl (aM.nil (Call.Aj (.inr rfl) (afO _) ⟨rfl,rfl⟩)))) rfl) k3 rfl rfl rfl rfl ?_;refine Ex.bG (s':=?s4) ?e4 ?_;case e4=>conv=>lhs;whnf
 refine I.p (l:=.tree) (dl:=.dC) (es:=eT) (k:=.eJ) (ys:=[]) AO rfl t1 t2 rfl k4 (aN (v:=.str (S "")) rfl ⟨rfl,rfl⟩) k4 rfl rfl rfl rfl ?_;refine Ex.bG (s':=?s5) ?e5 ?_;case e5=>conv=>lhs;whnf
 refine I.p (l:=.tree) (dl:=.dC) (es:=eT) (k:=.dU) (ys:=[]) xm rfl t1 t2 rfl k5 (aN (v:=.int (-1)) rfl ⟨rfl,rfl⟩) k5 rfl rfl rfl rfl ?_;refine Ex.bG (s':=?s6) ?e6 ?_;case e6=>conv=>lhs;whnf
 refine I.p (l:=.tree) (dl:=.dC) (es:=eT) (k:=.eQ) (ys:=[]) AP rfl t1 t2 rfl k6 (I.list (l:=.b9 0) kk ⟨rfl,rfl⟩) k6 rfl rfl rfl rfl ?_;refine Ex.bG (s':=?s8) ?e8 ?_;case e8=>conv=>lhs;whnf
 exact Ex.cons (Ex.ret (Ev.rU (Ev.uj uM (dF rfl) (aM.cons (Ev.fZ uN (aN (v:=.ae .tree) rfl ⟨eT,.ae .eg,⟨_,_,rfl,t1,t2⟩,rfl,af2,aM.nil (Call.len (xs:=[.str (S "document")]) (.list rfl) (by decide) (aN (v:=.int 1) rfl (Op.sub ⟨_,.refl _,q⟩)))⟩))))))
theorem ab4(hn:du xs .items=none)(q:Q .none (LH ((.gP,.dict nA)::(.items,.list [])::(.gP,.dict [(S "tree",.ae .tree)])::(.stack,.inst fw .gP)::(.gP,.dict [])::xs))):ot 4 (.ref 159) [.ae .stack,.ae .tree] (LH ((.stack,.inst fw .gP)::(.gP,.dict [])::xs)) Q:=by
 refine pO.of (st:=H.sub 22 0) (q:="OpenStack.__init__") (ca:=158) (dx:=[]) (dv:=[]) (kG:=[S "self",S "tree"]) rfl (λS=>all2 λx y=>rfl) rfl rfl (m:=[(S "tree",.ae .tree),(S "self",.ae .stack)]) (body:=[aB (cZ (H.sub 22 0)) 0,aB (cZ (H.sub 22 0)) 1]) (λ_ _ _=>.nil) rfl rfl rfl ?_;refine Ex.bG (s':=?s1) ?e1 ?_;case e1=>conv=>lhs;whnf
 refine I.s (l:=.stack) (dl:=.gP) (LR (by kernel_rfl)) rfl (aN (v:=.ae .tree) rfl ⟨rfl,rfl⟩) rfl rfl rfl rfl ?_;refine Ex.bG (s':=?s2) ?e2 ?_;case e2=>conv=>lhs;whnf
 refine I.s (l:=.stack) (dl:=.gP) (LR rfl) rfl (I.list (l:=.items) hn ⟨rfl,rfl⟩) rfl rfl rfl rfl ?_;exact Ex.nil ⟨_,.refl _,q⟩
theorem ab5(hn:du xs .iO=none)(q:Q .none (LH ((.gQ,.dict qn)::(.iO,.list [])::(.gQ,.dict [(S "tree",.ae .tree)])::(.fF,.inst iU .gQ)::(.gQ,.dict [])::xs))):ot 4 (.ref 620) [.ae .fF,.ae .tree] (LH ((.fF,.inst iU .gQ)::(.gQ,.dict [])::xs)) Q:=by
 refine pO.of (st:=H.sub 77 0) (q:="Formatting.__init__") (ca:=619) (dx:=[]) (dv:=[]) (kG:=[S "self",S "tree"]) rfl (λS=>all2 λx y=>rfl) rfl rfl (m:=[(S "tree",.ae .tree),(S "self",.ae .fF)]) (body:=[aB (cZ (H.sub 77 0)) 0,aB (cZ (H.sub 77 0)) 1]) (λ_ _ _=>.nil) rfl rfl rfl ?_;refine Ex.bG (s':=?s3) ?e3 ?_;case e3=>conv=>lhs;whnf
 refine I.s (l:=.fF) (dl:=.gQ) (LU (by kernel_rfl)) rfl (aN (v:=.ae .tree) rfl ⟨rfl,rfl⟩) rfl rfl rfl rfl ?_;refine Ex.bG (s':=?s4) ?e4 ?_;case e4=>conv=>lhs;whnf
 refine I.s (l:=.fF) (dl:=.gQ) (LU rfl) rfl (I.list (l:=.iO) hn ⟨rfl,rfl⟩) rfl rfl rfl rfl ?_;exact Ex.nil ⟨_,.refl _,q⟩
abbrev XI1:List (Loc×cx):=[(.cO,.dict [(S "rules",.ae .eR)]),(.bP,.inst ck .cO),(.cO,.dict []),(.eR,.map kN),(.path 0,.cell none)]
abbrev LV:List (Loc×cx):=(.eg,.list [.str (S "document")])::(.ff,.list [.str (S "")])::(.names,.list [.str (S "")])::(.aX,.list [.az []])::(.eJ,.list [.str (S "")])::(.dU,.list [.int (-1)])::(.eQ,.list [.ae (.b9 0)])::(.b9 0,.list [])::(.me,.map [])::(.dC,.dict eT)::(.tree,.inst cY .dC)::[(.cO,.dict [(S "rules",.ae .eR)]),(.bP,.inst ck .cO),(.eR,.map kN),(.path 0,.cell none)]
theorem ab6(q:Q .none (LH LV)):ot 4 (.ref 711) [.ae .tree] (LH ((.tree,.inst cY .dC)::(.dC,.dict [])::XI1)) Q:=by
 refine pO.of (st:=H.sub 80 0) (q:="Tree.__init__") (ca:=710) (dx:=[]) (dv:=[]) (kG:=[S "self"]) rfl (λS=>all1 λx=>rfl) rfl rfl (m:=[(S "self",.ae .tree)]) (body:=[aB (cZ (H.sub 80 0)) 0,aB (cZ (H.sub 80 0)) 1,aB (cZ (H.sub 80 0)) 2,aB (cZ (H.sub 80 0)) 3,aB (cZ (H.sub 80 0)) 4,aB (cZ (H.sub 80 0)) 5,aB (cZ (H.sub 80 0)) 6,aB (cZ (H.sub 80 0)) 7,aB (cZ (H.sub 80 0)) 8]) (λ_ _ _=>.nil) rfl rfl rfl ?_;refine Ex.bG (s':=?s5) ?e5 ?_;case e5=>conv=>lhs;whnf
 refine I.s (l:=.tree) (dl:=.dC) (pP (by kernel_rfl)) rfl (I.list (l:=.eg) rfl ⟨rfl,rfl⟩) rfl rfl rfl rfl ?_;refine Ex.bG (s':=?s6) ?e6 ?_;case e6=>conv=>lhs;whnf
 refine I.s (l:=.tree) (dl:=.dC) (pP rfl) rfl (I.list (l:=.ff) rfl ⟨rfl,rfl⟩) rfl rfl rfl rfl ?_;refine Ex.bG (s':=?s7) ?e7 ?_;case e7=>conv=>lhs;whnf
 refine I.s (l:=.tree) (dl:=.dC) (pP rfl) rfl (I.list (l:=.names) rfl ⟨rfl,rfl⟩) rfl rfl rfl rfl ?_;refine Ex.bG (s':=?s8) ?e8 ?_;case e8=>conv=>lhs;whnf
 refine I.s (l:=.tree) (dl:=.dC) (pP rfl) rfl (I.list (l:=.aX) rfl ⟨rfl,rfl⟩) rfl rfl rfl rfl ?_;refine Ex.bG (s':=?s9) ?e9 ?_;case e9=>conv=>lhs;whnf
 refine I.s (l:=.tree) (dl:=.dC) (pP rfl) rfl (I.list (l:=.eJ) rfl ⟨rfl,rfl⟩) rfl rfl rfl rfl ?_;refine Ex.bG (s':=?s10) ?e10 ?_;case e10=>conv=>lhs;whnf
 refine I.s (l:=.tree) (dl:=.dC) (pP rfl) rfl (I.list (l:=.dU) rfl ⟨rfl,rfl⟩) rfl rfl rfl rfl ?_;refine Ex.bG (s':=?s11) ?e11 ?_;case e11=>conv=>lhs;whnf
 refine I.s (l:=.tree) (dl:=.dC) (pP rfl) rfl (I.list (l:=.eQ) rfl ⟨rfl,rfl⟩) rfl rfl rfl rfl ?_;refine Ex.bG (s':=?s12) ?e12 ?_;case e12=>conv=>lhs;whnf
 refine I.s (l:=.tree) (dl:=.dC) (pP rfl) rfl (I.dict (l:=.me) rfl ⟨rfl,rfl⟩) rfl rfl rfl rfl ?_;refine Ex.bG (s':=?s20) ?DE ?_;case DE=>conv=>lhs;whnf
 exact Ex.cons (Ex.sG (Ev.O5 Q0 (aN (v:=.ae .tree) rfl ⟨⟨eT,⟨.tree,.dC,rfl,rfl,rfl⟩,by kernel_rfl⟩,aM.cons (aN (v:=.str (S "document")) rfl (aM.nil (Call.gu (by decide) (ab3 rfl rfl rfl rfl rfl rfl rfl rfl rfl rfl (Ex.nil ⟨_,LQ (ys:=LV) rfl rfl,q⟩)))))⟩)))
def bI:B:={aa:=[⟨S "document",S "",S "",[],S "",-1,[]⟩],stack:=[],bJ:=[],mode:=S "initial",original:=S "",head:=-1,dO:=false,dP:=false,aK:=[],aQ:=[],pk:=0,old:=none}
theorem ab7(q:Q .none (LH [(.cO,.dict (fy bI)),(.bP,.inst ck .cO),(.eg,.list [.str (S "document")]),(.ff,.list [.str (S "")]),(.names,.list [.str (S "")]),(.aX,.list [.az []]),(.eJ,.list [.str (S "")]),(.dU,.list [.int (-1)]),(.eQ,.list [.ae (.b9 0)]),(.b9 0,.list []),(.me,.map []),(.dC,.dict eT),(.tree,.inst cY .dC),(.items,.list []),(.gP,.dict nA),(.stack,.inst fw .gP),(.iO,.list []),(.gQ,.dict qn),(.fF,.inst iU .gQ),(.qc,.list []),(.owners,.map []),(.aK,.list []),(.bW 0,.list []),(.eR,.map kN),(.path 0,.cell none)])):ot 6 (.ref 836) [.ae .bP,.ae .eR] (LH ((.bP,.inst ck .cO)::(.cO,.dict [])::[(.eR,.map kN),(.path 0,.cell none)])) Q:=by
 refine pO.of (st:=H.sub 83 0) (q:="Builder.__init__") (ca:=835) (dx:=[.bool false]) (dv:=[.bool false]) (kG:=[S "self",S "rules",S "is_scripting"]) rfl (λS=>all2 λx y=>(by kernel_rfl)) rfl rfl (m:=[(S "is_scripting",.bool false),(S "rules",.ae .eR),(S "self",.ae .bP)]) (body:=[aB (cZ (H.sub 83 0)) 0,aB (cZ (H.sub 83 0)) 1,aB (cZ (H.sub 83 0)) 2,aB (cZ (H.sub 83 0)) 3,aB (cZ (H.sub 83 0)) 4,aB (cZ (H.sub 83 0)) 5,aB (cZ (H.sub 83 0)) 6,aB (cZ (H.sub 83 0)) 7,aB (cZ (H.sub 83 0)) 8,aB (cZ (H.sub 83 0)) 9,aB (cZ (H.sub 83 0)) 10,aB (cZ (H.sub 83 0)) 11,aB (cZ (H.sub 83 0)) 12,aB (cZ (H.sub 83 0)) 13,aB (cZ (H.sub 83 0)) 14,aB (cZ (H.sub 83 0)) 15,aB (cZ (H.sub 83 0)) 16,aB (cZ (H.sub 83 0)) 17,aB (cZ (H.sub 83 0)) 18,aB (cZ (H.sub 83 0)) 19,aB (cZ (H.sub 83 0)) 20]) (λh ρ R=>.cons (.bool _) .nil) rfl rfl rfl ?_;refine Ex.bG (s':=?s13) ?e13 ?_;case e13=>conv=>lhs;whnf
 refine I.s (l:=.bP) (dl:=.cO) (gz (by kernel_rfl)) rfl (aN (v:=.ae .eR) rfl ⟨rfl,rfl⟩) rfl rfl rfl rfl ?_;refine Ex.bG (s':=?s14) ?e14 ?_;case e14=>conv=>lhs;whnf
 refine I.s (l:=.bP) (dl:=.cO) (gz rfl) rfl (Ev.jK QP (dF rfl) (aM.nil (Call.gu (by decide) (I.new (l:=.tree) (dl:=.dC) abP abQ abR rfl rfl (ab6 ⟨rfl,rfl,rfl⟩)))) rfl) rfl rfl rfl rfl ?_;refine Ex.bG (s':=?s15) ?e15 ?_;case e15=>conv=>lhs;whnf
 refine I.s (l:=.bP) (dl:=.cO) (gz rfl) rfl (Ev.jK QE (dF rfl) (aM.cons (Ev.fZ AQ (aN (v:=.ae .bP) rfl ⟨_,.ae .tree,⟨.bP,.cO,rfl,rfl,rfl⟩,rfl,af2,aM.nil (Call.gu (by decide) (I.new (l:=.stack) (dl:=.gP) abS abT abU rfl rfl (ab4 rfl ⟨rfl,rfl,rfl⟩)))⟩))) rfl) rfl rfl rfl rfl ?_;refine Ex.bG (s':=?s16) ?e16 ?_;case e16=>conv=>lhs;whnf
 refine I.s (l:=.bP) (dl:=.cO) (gz rfl) rfl (Ev.jK QO (dF rfl) (aM.cons (Ev.fZ AQ (aN (v:=.ae .bP) rfl ⟨_,.ae .tree,⟨.bP,.cO,rfl,rfl,rfl⟩,rfl,af2,aM.nil (Call.gu (by decide) (I.new (l:=.fF) (dl:=.gQ) abV abW abX rfl rfl (ab5 rfl ⟨rfl,rfl,rfl⟩)))⟩))) rfl) rfl rfl rfl rfl ?_;refine Ex.bG (s':=?s17) ?e17 ?_;case e17=>conv=>lhs;whnf
 refine I.s (l:=.bP) (dl:=.cO) (gz rfl) rfl (aN (v:=.str (S "initial")) rfl ⟨rfl,rfl⟩) rfl rfl rfl rfl ?_;refine Ex.bG (s':=?s18) ?e18 ?_;case e18=>conv=>lhs;whnf
 refine I.s (l:=.bP) (dl:=.cO) (gz rfl) rfl (aN (v:=.str (S "")) rfl ⟨rfl,rfl⟩) rfl rfl rfl rfl ?_;refine Ex.bG (s':=?s19) ?e19 ?_;case e19=>conv=>lhs;whnf
 refine I.s (l:=.bP) (dl:=.cO) (gz rfl) rfl (I.list (l:=.qc) rfl ⟨rfl,rfl⟩) rfl rfl rfl rfl ?_;refine Ex.bG (s':=?s20) ?DE ?_;case DE=>conv=>lhs;whnf
 refine I.s (l:=.bP) (dl:=.cO) (gz rfl) rfl (aN (v:=.int (-1)) rfl ⟨rfl,rfl⟩) rfl rfl rfl rfl ?_;refine Ex.bG (s':=?s21) ?e21 ?_;case e21=>conv=>lhs;whnf
 refine I.s (l:=.bP) (dl:=.cO) (gz rfl) rfl (aN (v:=.int (-1)) rfl ⟨rfl,rfl⟩) rfl rfl rfl rfl ?_;refine Ex.bG (s':=?s22) ?e22 ?_;case e22=>conv=>lhs;whnf
 refine I.s (l:=.bP) (dl:=.cO) (gz rfl) rfl (I.dict (l:=.owners) rfl ⟨rfl,rfl⟩) rfl rfl rfl rfl ?_;refine Ex.bG (s':=?s23) ?e23 ?_;case e23=>conv=>lhs;whnf
 refine I.s (l:=.bP) (dl:=.cO) (gz rfl) rfl (aN (v:=.bool true) rfl ⟨rfl,rfl⟩) rfl rfl rfl rfl ?_;refine Ex.bG (s':=?s24) ?e24 ?_;case e24=>conv=>lhs;whnf
 refine I.s (l:=.bP) (dl:=.cO) (gz rfl) rfl (aN (v:=.bool false) rfl ⟨rfl,rfl⟩) rfl rfl rfl rfl ?_;refine Ex.bG (s':=?s25) ?e25 ?_;case e25=>conv=>lhs;whnf
 refine I.s (l:=.bP) (dl:=.cO) (gz rfl) rfl (aN (v:=.bool false) rfl ⟨rfl,rfl⟩) rfl rfl rfl rfl ?_;refine Ex.bG (s':=?s26) ?e26 ?_;case e26=>conv=>lhs;whnf
 refine I.s (l:=.bP) (dl:=.cO) (gz rfl) rfl (aN (v:=.int (-1)) rfl ⟨rfl,rfl⟩) rfl rfl rfl rfl ?_;refine Ex.bG (s':=?s27) ?e27 ?_;case e27=>conv=>lhs;whnf
 refine I.s (l:=.bP) (dl:=.cO) (gz rfl) rfl (aN (v:=.str (S "no-quirks")) rfl ⟨rfl,rfl⟩) rfl rfl rfl rfl ?_;refine Ex.bG (s':=?s28) ?e28 ?_;case e28=>conv=>lhs;whnf
 refine I.s (l:=.bP) (dl:=.cO) (gz rfl) rfl (I.list (l:=.aK) rfl ⟨rfl,rfl⟩) rfl rfl rfl rfl ?_;refine Ex.bG (s':=?s29) ?e29 ?_;case e29=>conv=>lhs;whnf
 refine I.s (l:=.bP) (dl:=.cO) (gz rfl) rfl (I.list (l:=.bW 0) rfl ⟨rfl,rfl⟩) rfl rfl rfl rfl ?_;refine Ex.bG (s':=?s30) ?e30 ?_;case e30=>conv=>lhs;whnf
 refine I.s (l:=.bP) (dl:=.cO) (gz rfl) rfl (aN (v:=.str (S "")) rfl ⟨rfl,rfl⟩) rfl rfl rfl rfl ?_;refine Ex.bG (s':=?s31) ?e31 ?_;case e31=>conv=>lhs;whnf
 refine I.s (l:=.bP) (dl:=.cO) (gz rfl) rfl (aN (v:=.bool false) rfl ⟨rfl,rfl⟩) rfl rfl rfl rfl ?_;refine Ex.bG (s':=?s32) ?e32 ?_;case e32=>conv=>lhs;whnf
 refine I.s (l:=.bP) (dl:=.cO) (gz rfl) rfl (aN (v:=.bool false) rfl ⟨rfl,rfl⟩) rfl rfl rfl rfl ?_;refine Ex.bG (s':=?s33) ?e33 ?_;case e33=>conv=>lhs;whnf
 refine I.s (l:=.bP) (dl:=.cO) (gz rfl) rfl (aN (v:=.bool false) rfl ⟨rfl,rfl⟩) rfl rfl rfl rfl ?_;exact Ex.nil ⟨_,LQ (ys:=[(.cO,.dict (fy bI)),(.bP,.inst ck .cO),(.eg,.list [.str (S "document")]),(.ff,.list [.str (S "")]),(.names,.list [.str (S "")]),(.aX,.list [.az []]),(.eJ,.list [.str (S "")]),(.dU,.list [.int (-1)]),(.eQ,.list [.ae (.b9 0)]),(.b9 0,.list []),(.me,.map []),(.dC,.dict eT),(.tree,.inst cY .dC),(.items,.list []),(.gP,.dict nA),(.stack,.inst fw .gP),(.iO,.list []),(.gQ,.dict qn),(.fF,.inst iU .gQ),(.qc,.list []),(.owners,.map []),(.aK,.list []),(.bW 0,.list []),(.eR,.map kN),(.path 0,.cell none)]) (by kernel_rfl) rfl,q⟩
end
theorem Ev.pQ(F:FnAt x v)(hx:fh f x .globalImplicit)(q:Q (.val v) H):aW d f m H (.Name x pos) Q:=Ev.EW F.at_ hx q
def ow:List (Str×U):=[(S "in caption",.val (.ref 469)),(S "in column group",.val (.ref 490)),(S "in table body",.val (.ref 518)),(S "in row",.val (.ref 546)),(S "in cell",.val (.ref 567))]
def lr:List (Str×U):=[(S "in table",.val (.ref 406)),(S "in table text",.val (.ref 420))]
theorem ab8:(ow.map (·.1)).Nodup:=by decide+kernel
theorem ab9:(lr.map (·.1)).Nodup:=by decide+kernel
abbrev LW:bg:=bh (H.aD 72) "row_rules" 574 573 [] []
theorem aca:au 574 LW:=au.of rfl (λS=>xg rfl) (λ_ _ _ _=>.nil) rfl rfl
theorem acb(hn:X.new .eR)(q:Q (.ae .eR) (X.add .eR (.map ow))):ba 1 (.ref 574) [] X Q:=by
 refine aca.go (d:=0) (m:=[]) (body:=[aB LW.body 0]) rfl rfl rfl ?_;refine Ex.bG (s':=?s0) ?e0 ?_;case e0=>conv=>lhs;whnf
 with_reducible refine Ex.cons (Ex.ret (Ev.sx .eR ?k3 hn ?dd ?r1 ?r2 ?r3 ?r4))
 case k3=>exact qG
 case r1=>rfl
 case r2=>rfl
 case r3=>exact nofun
 case r4=>decide
 case dd=>
 with_reducible refine fQ.cons (Ev.pQ QI (dF ?hg) ?_)
 case hg=>rfl
 with_reducible refine fQ.cons (Ev.pQ QJ (dF ?hg) ?_)
 case hg=>rfl
 with_reducible refine fQ.cons (Ev.pQ QK (dF ?hg) ?_)
 case hg=>rfl
 with_reducible refine fQ.cons (Ev.pQ QL (dF ?hg) ?_)
 case hg=>rfl
 with_reducible refine fQ.cons (Ev.pQ QM (dF ?hg) ?_)
 case hg=>rfl
 with_reducible refine fQ.nil ⟨?r1,?r2,?_⟩
 case r1=>exact AH.bY ..
 case r2=>exact ab8
 exact nG.symm▸⟨_,.refl _,q⟩
abbrev LY:bg:=bh (H.aD 50) "table_rules" 427 426 [] []
theorem acd:au 427 LY:=au.of rfl (λS=>xg rfl) (λ_ _ _ _=>.nil) rfl rfl
theorem ace(hn:X.new (.aO n))(q:Q (.ae (.aO n)) (X.add (.aO n) (.map lr))):ba 1 (.ref 427) [] X Q:=by
 refine acd.go (d:=0) (m:=[]) (body:=[aB LY.body 0]) rfl rfl rfl ?_;refine Ex.bG (s':=?s0) ?e0 ?_;case e0=>conv=>lhs;whnf
 with_reducible refine Ex.cons (Ex.ret (Ev.sx (.aO n) ?k3 hn ?dd ?r1 ?r2 ?r3 ?r4))
 case k3=>exact qG
 case r1=>rfl
 case r2=>rfl
 case r3=>exact nofun
 case r4=>decide
 case dd=>
 with_reducible refine fQ.cons (Ev.pQ QF (dF ?hg) ?_)
 case hg=>rfl
 with_reducible refine fQ.cons (Ev.pQ QG (dF ?hg) ?_)
 case hg=>rfl
 with_reducible refine fQ.nil ⟨?r1,?r2,?_⟩
 case r1=>exact AH.bY ..
 case r2=>exact ab9
 exact nG.symm▸⟨_,.refl _,q⟩
abbrev acf:bg:=bh (H.aD 16) "make" 115 114 [S "builder",S "name",S "attrs",S "space"] [.str (S "html")]
theorem acg:au 115 acf:=au.of (dv:=[.str (Str.ofString "html") 309]) rfl (λS=>sj λx y z=>rfl) (λX h ρ R=>.cons (.str _ _) .nil) rfl rfl
abbrev LZ:Lf B (Str×List U×Unit):=kz λa b=>ke b a.1 a.2.1
section
variable{G:AH}
theorem ach:bw (λb n=>hp b G n) 4 115 (λa=>bc 1::Ps.enc (bN (ku ar)) a) LZ:=i4 (D:=DB (U×B) ay G 0 false bU (Ct (U×B) ay)) (d:=3) (λ_=>bo cK Jm) acg (λa b r h=>Eq.trans (b:=(ke b a.1 a.2.1).bind λr=>some (.int r.1,r.2)) (by kernel_rfl) (by
 rw[show ke b a.1 a.2.1=some r from h];rfl)) (λ_=>by kernel_rfl)
def L4(ρ:Type)(c:Tl B ρ):List (Addr×cA B ρ):=(115,aZ c 0 4 (bN (ku ar)) LZ)::(765,aZ c 3 3 (dm (dm ar)) I7)::(166,aZ c 1 1 (dm ar) Cb)::(124,aZ c 0 5 (bN ar) Cv)::(173,aZ c 1 1 ar vx)::(850,aZ c 0 1 (bN ar) vt)::[]
theorem aci:∀e,e∈L4 ρ c->cU (DB ρ c G o kp pc tb) r e.1 e.2:=aG (bx ach rfl) (aG (bx Wz rfl) (aG (bx Iu rfl) (aG (bx Jq rfl) (aG (bx yr rfl) (aG (bx yq rfl) cH)))))
abbrev acj:bg:=bh (H.aD 86) "ready" 907 906 [S "builder",S "mode"] [.str (S "in body")]
theorem acm:au 907 acj:=au.of (dv:=[.str (Str.ofString "in body") 1350]) rfl (λS=>all1 λx=>rfl) (λX h ρ R=>.cons (.str _ _) .nil) rfl rfl
theorem acn(q:∀n,Q (.aJ [.int 1,.int 3]) (hp b0 G n)):ba 7 (.ref 907) [.ae .bP] (hp bI G n) Q:=
 run (D:=DB (U×B) ay G 0 false bU (L4 (U×B) ay)) (d:=6) (z:=bI) (tf:=false) (ht:=λe=>nomatch e) (r:=(.aJ [.int 1,.int 3],b0)) (fin:=H3) (bo cK aci) acm (h:=by kernel_rfl) (q:=λfl m z n e=>sE (X:=λp:U×B=>(∀n',Q p.1 (hp p.2 G n'))->Q fl.val (hp z G n)) e (λq=>q n) q) (n:=n) (hl:=by kernel_rfl)
end
noncomputable def bO (ss:List Str):U:=.az (ss.map .str)
section
variable{b:B}{G:AH}{x:LX}{s s':LS}{n:Nat}{Q:U->AH->Prop}
theorem aco:(r++[y]).map f=r.map f++[f y]:=by rw[afR];rfl
theorem acp:(sH.map (·.1)).Nodup:=by decide+kernel
def zg:List (Str×U):=[(S "table",.str (S "in table")),(S "caption",.str (S "in caption")),(S "colgroup",.str (S "in column group")),(S "tr",.str (S "in row")),(S "tbody",.str (S "in table body")),(S "thead",.str (S "in table body")),(S "tfoot",.str (S "in table body")),(S "td",.str (S "in cell")),(S "th",.str (S "in cell"))]
theorem acq:(zg.lookup y).getD (.str m)=.str (jr m y):=by have e:zg=sH.map λp=>(p.1,U.str p.2):=rfl;rw[e,F5];unfold jr;cases sH.lookup y<;>rfl
theorem zh{l:List α}{i:Nat}(h:(l.map f)[i]?=some y):∃a,l[i]?=some a/\f a=y:=by rw[afX]at h;exact age.mp h
theorem acr{l:List Str}(h:l[i]?=some y):(l.take (i+1)).foldl jr m=jr ((l.take i).foldl jr m) y:=by rw[List.take_add_one,h,List.foldl_append];rfl
theorem acs(h:c6 s i=some y):uY s i=y.name:=by refine cN (u2 h) λk e h1 _=>?_;subst e;unfold uY;rw[afM,h1];rfl
noncomputable def DF:U->U
 |.az (x::_)=>x
 |y=>y
theorem DG(h:dh s=true):∀i∈s.path,∃y,c6 s i=some y:=λi hi=>by unfold dh at h;rw[afz]at h;exact Option.isSome_iff_exists.mp (afF.mp h.2 i hi)
theorem v7(h:dh s=true):s.path.length<=900000:=by unfold dh at h;rw[afz,afz]at h;exact eG h.1.1
theorem acu(h:dh s=true):((s.path.map (cS s)).filter λ_=>true).map DF=(bq s).map .str:=by rw[agN.mpr λ_ _=>rfl,agI];unfold bq;rw[agI];refine agr λi hi=>?_;refine aI (DG h i hi) λy hy=>?_;show DF (cS s i)=.str (uY s i);rw[u3 hy,acs hy];rfl
abbrev pR(l:List (Str×NameKind)):Scope:=⟨.function,(S ".0",.local)::l,false,false,[]⟩
theorem acv:AH.Le (((hp b G n).add (.aO n) o).add (.aO (n+1)) o') (hp b G (n+2)):=sa.PK.trans sa
def l7(X:AH)(n:Nat)(u v:Option U):AH:=(X.add (.aO n) (.cell u)).add (.aO (n+1)) (.cell v)
theorem DH:Loc.aO n≠.aO (n+1):=λe=>by injection e with e;lia
theorem DI:(l7 X n u v).get (.aO n)=some (.cell u):=(AH.bZ _ _ DH).trans (AH.bY ..)
theorem v8:(l7 X n u v).get (.aO (n+1))=some (.cell v):=AH.bY ..
theorem L5:(l7 X n u v).set (.aO (n+1)) (.cell v')=l7 X n u v':=nG
theorem acw:(l7 X n u v).set (.aO n) (.cell u')=l7 X n u' v:=by
 refine AH.eU DI (λl h=>?_) λl=>agm;unfold l7;by_cases q:l=.aO (n+1)
 ·rw[q,AH.bY,AH.bY]
 ·rw[AH.bZ _ _ q,AH.bZ _ _ q,AH.bZ _ _ h,AH.bZ _ _ h]
theorem acx(h:X.new (.aO k))(hk:n+2<=k):(l7 X n u v).new (.aO k):=⟨⟨h,λe=>by injection e with e;lia⟩,λe=>by injection e with e;exact agQ _ (e▸hk)⟩
theorem acy{ns:List Str}(h:ns[i]?=some y):ie (ns.take (i+1)) 0 (-1)=if y==S "table" then(i:Int)else ie (ns.take i) 0 (-1):=by
 rw[List.take_add_one,h];show ie (ns.take i++[y]) 0 (-1)=_;rw[G1];have:(ns.take i).length=i:=by refine aI (afB.mp h) λaY _=>?_;rw[List.length_take];exact Nat.min_eq_left (Nat.le_of_lt aY)
 rw[this];show(if y==S "table" then(0:Int)+i else _)=_;rw[Int.zero_add]
theorem L6:∀(ns:List Str) (i p:Int),(ie ns i p=p)\/(i<=ie ns i p/\ie ns i p<i+ns.length)
 |[],i,p=>.inl rfl
 |x::r,i,p=>by
  rewrite [ie];rcases L6 r (i+1) (if x==S "table" then i else p)with h|⟨h1,h2⟩
  ·rw[h];by_cases q:(x==S "table")=true
   ·rw[if_pos q];right;rw[af6];omega
   ·rw[if_neg q];exact .inl rfl
  ·right;rw[af6];omega
theorem DJ(ns:List Str):cJ ns=-1\/(0<=cJ ns/\cJ ns<ns.length):=by
 rcases L6 ns 0 (-1)with h|⟨h1,h2⟩
 ·exact .inl h
 ·right;unfold cJ;lia
theorem acz(ns:List Str):(((ns.drop (cJ ns+1).toNat).map U.str).filter λy=>match y with|.str z=>decide (0<=cJ ns)&&aw iH z|_=>false)=(cR ns).map .str:=by
 rw[List.filter_map];congr 1;unfold cR;by_cases h:0<=cJ ns
 ·rw[if_pos h];refine List.filter_congr λz hz=>?_;show(decide (0<=cJ ns)&&aw iH z)=_;rw[aga h];rfl
 ·rw[if_neg h,List.filter_eq_nil_iff];intro z hz;show¬(decide (0<=cJ ns)&&aw iH z)=true;rw[ag1 h];simp
def v9(p:Int):U->Bool
 |.str z=>decide (0<=p)&&aw iH z
 |_=>false
end
section
variable{d:Nat}{f:aV}{m:Lo}{b:B}{G:AH}{x:LX}{s s':LS}{n:Nat}{X:AH}
theorem V.L7(q:Q (.ae (.path (s.pk+1))) (hp b (lG x s) n)):(∃T,ew (hp b (lG x s) n) (.ae .cw) T/\gR T)/\bC d getItem (.ae .cw) (.str (S "path")) (hp b (lG x s) n) Q:=
 ⟨⟨_,.map o9,uu⟩,Op.uw (y:=.ae (.path (s.pk+1))) o9 rfl q⟩
theorem V.acA(q:Q (.ae (.run s.rk)) (hp b (lG x s) n)):(∃T,ew (hp b (lG x s) n) (.ae .cw) T/\gR T)/\bC d getItem (.ae .cw) (.str (S "run")) (hp b (lG x s) n) Q:=
 ⟨⟨_,.map o9,uu⟩,Op.uw (y:=.ae (.run s.rk)) o9 rfl q⟩
theorem acB(h:l.getLast?=some i):∃r,l=r++[i]:=agy.mp h
theorem V.last(h:s.path.getLast?=some i)(hy:c6 s i=some y)(q:Q (.az [.str y.name,.az y.aX,.ae (.bM i.toNat)]) (hp b (lG x s) n)):
  (∃T,ew (hp b (lG x s) n) (.ae (.path (s.pk+1))) T/\gR T)/\bC d getItem (.ae (.path (s.pk+1))) (.int (-1)) (hp b (lG x s) n) Q:=by
 refine aI (acB h) λr e=>?_;refine⟨jO nL,Op.Ac (xs:=r.map (cS s)) (y:=cS s i) (.list ?_) (by rw[u3 hy];exact q)⟩;rw[nL,e,afR];rfl
theorem V.L8(h:cy s.path j=some i)(hy:c6 s i=some y)(q:Q (.az [.str y.name,.az y.aX,.ae (.bM i.toNat)]) (hp b (lG x s) n)):
  (∃T,ew (hp b (lG x s) n) (.ae (.path (s.pk+1))) T/\gR T)/\bC d getItem (.ae (.path (s.pk+1))) (.int j) (hp b (lG x s) n) Q:=
 ⟨jO nL,Op.lL (y:=cS s i) (.list nL) (jN h) (by rw[u3 hy];exact q)⟩
theorem L9(h:jq s k=some z):cz s k=if z.tx=true then .str z.text else .az [.str z.name,.az z.aX,.ae (.bM k.toNat)]:=by refine cN (gT h) λc e _ h1=>?_;subst e;unfold cz;rw[afM,h1]
theorem V.acC(h:dj s z y=some s')(q:Q .none (hp b (lG x s') n)):ba d (.builtin "list.append") [.ae .iu,.aJ [.str z,.str y]] (hp b (lG x s) n) Q:=by
 unfold dj at h;refine aU (iC h) λhz h=>?_;cases h;refine Call.append (xs:=bT s.aK) Bk (by unfold bT;rw[afA];have:=eG hz;exact bt this) ?_;have:bT s.aK++[U.aJ [.str z,.str y]]=bT (s.aK++[(z,y)]):=by unfold bT;rw[afR];rfl
 rw[this,kZ rfl,SM];exact q
end
section
variable{s s':LS}
theorem Ma(h:c6 s i=some y):c6 {s with aa:=s.aa++[z]} i=some y:=by
 refine cN (u2 h) λk e h1 ht=>?_;refine bE h λu h2 h3=>?_;subst e;have e1:jq {s with aa:=s.aa++[z]} (k:Int)=some u:=by
  unfold jq cy at h2 ⊢;by_cases q:0<=(k:Int)/\(k:Int)<1000000
  ·rw[if_pos q]at h2 ⊢;have vH:s.aa[(k:Int).toNat]?=some u:=h2;refine aI (afB.mp vH) λaY _=>?_;show(s.aa++[z])[(k:Int).toNat]?=some u;rw[agb aY];exact vH
  ·rw[if_neg q]at h2;cases h2
 unfold c6;rw[e1];exact h3
noncomputable def rD (s:LS)(name:Str)(as:List U):U:=.az [.str name,.az as,.ae (.bM s.aa.length)]
theorem Mb:cz {s with aa:=s.aa++[⟨false,name,as,S "",[]⟩]} (s.aa.length:Int)=rD s name as:=by unfold cz rD;dsimp only;rw[afM,agj (afD _)];simp
theorem acD(h:t.aa[s.aa.length]?=some ⟨false,name,as,S "",[]⟩):cS t (s.aa.length:Int)=rD s name as:=by unfold cS rD;rw[afM,h]
abbrev tN(s:LS)(name:Str)(as:List U):LS:={s with aa:=s.aa++[⟨false,name,as,S "",[]⟩]}
end
section
variable{s s':LS}
theorem zi(s:LS):(bq s).length=s.path.length:=afA ..
theorem wa(h:dh s=true):aC (bq s).length=true:=by rw[zi];exact aga (v7 h)
theorem acE(ns:List Str):(cR ns).length<=ns.length:=by
 unfold cR;split
 ·refine ads (ahj ..) ?_;rw[ahl];exact Nat.sub_le _ _
 ·exact afO _
theorem V.acF(hz:aC ps.length=true)(q:Q (.int ps.length) X):ba d (.builtin "len") [bO ps] X Q:=
 Call.len (xs:=ps.map .str) (.az _) (by rw[afA];have:=eG hz;exact bt this) (by rw[afA];exact q)
theorem acG(ns:List Str)(h:0<=cJ ns):cJ ns+1+(cR ns).length<=ns.length:=by
 have h1:(cR ns).length<=(ns.drop (cJ ns+1).toNat).length:=by unfold cR;rw[if_pos h];exact ahj ..
 rw[ahl]at h1;rcases DJ ns with e|⟨_,e⟩
 ·exact absurd (e▸h) (by decide)
 ·refine(Int.eq_ofNat_of_zero_le h).elim λk hk=>?_;rw[hk]at h1 e ⊢;exact agP.mpr (ag0 (k+1) _▸Nat.add_le_of_le_sub (ag6.mp e) h1)
theorem wb(h:dh s=true):aC (cR (bq s)).length=true:=aga (by have:=v7 h;have:=acE (bq s);rw[zi]at this;exact bt (ads ‹_› ‹_›))
end
section
variable{d:Nat}{X:AH}
theorem gW.strs:∀ss:List Str,gW X (ss.map .str) (ss.map .str)
 |[]=>.nil
 |x::r=>.cons (.str x) (gW.strs r)
theorem Mc:∀ps qs:List Str,PyData.eqvAll (ps.map .str) (qs.map .str)=(ps==qs)
 |[],[]=>rfl
 |[],_::_=>rfl
 |_::_,[]=>rfl
 |x::r,y::t=>by show(PyData.eqv (.str x) (.str y)&&PyData.eqvAll (r.map .str) (t.map .str))=_;rw[Mc r t];rfl
theorem V.acH(h1:ps.all PyData.strOk=true)(h2:qs.all PyData.strOk=true)(q:Q (.bool (ps==qs)) X):bC d (compareOp .Eq) (bO ps) (bO qs) X Q:=by
 refine Op.Gs (da:=.list (ps.map .str)) (db:=.list (qs.map .str)) (.az (gW.strs ps)) (.az (gW.strs qs)) ?_ ?_ ?_ ?_
 ·show PyData.canLayAll0 _=true;rw[canLayAll_strs'];exact h1
 ·show PyData.canLayAll0 _=true;rw[canLayAll_strs'];exact h2
 ·show min (PyData.depthAll _+1) _<=_;rw[depthAll_strs'];exact ahk _
 ·show Q (.bool (PyData.eqvAll _ _)) X;rw[Mc];exact q
theorem V.acI(hz:aC s.run.length=true)(q:Q .none (hp b (lG x {s with run:=s.run++[t]}) n)):ba d (.builtin "list.append") [.ae (.run s.rk),.str t] (hp b (lG x s) n) Q:=by
 refine Call.append (xs:=s.run.map .str) xH (by rw[afA];have:=eG hz;exact bt this) ?_;have:s.run.map U.str++[U.str t]=(s.run++[t]).map .str:=by rw[afR];rfl
 rw[this,kZ rfl,SN];exact q
theorem Md(ns:List Str):(cR ns).all PyData.strOk=true:=by
 rw[afF];intro y hy;unfold cR at hy;split at hy
 ·exact TV (km.mp (List.mem_filter.mp hy).2)
 ·exact nomatch hy
end
theorem V.acJ(ha:PyData.strOk a=true)(hb:PyData.strOk b=true)(hc:PyData.strOk c=true)(he:PyData.strOk e=true)(q:Q (.bool (!(a==c&&b==e))) X):bC d (compareOp .NotEq) (.aJ [.str a,.str b]) (.aJ [.str c,.str e]) X Q:=by
 refine Op.Bg (da:=.tuple [.str a,.str b]) (db:=.tuple [.str c,.str e]) (.aJ (gW.strs [a,b])) (.aJ (gW.strs [c,e])) ?_ ?_ ?_ ?_
 ·simp[PyData.canLay0,PyData.canLayAll0,ha,hb]
 ·simp[PyData.canLay0,PyData.canLayAll0,hc,he]
 ·simp only[PyData.depth,PyData.depthAll];exact ahk _
 ·show Q (.bool (!(a==c&&(b==e&&true)))) X;rw[Bool.and_true];exact q
def d0(x:U):Option (List Str):=(nQ x).bind sv
theorem rE(h:d0 x=some t):x=bO t:=bE h λl h1 h=>by rw[pf h1,xo h];rfl
theorem acK(ss:List Str):sv (ss.map .str)=some ss:=by
 induction ss with
 |nil=>rfl
 |cons a r ih=>exact(afE (λo:Option (List Str)=>o.map (a::·)) ih)
theorem tO(ss:List Str):d0 (bO ss)=some ss:=acK ss
abbrev rG(r:Ps β):Ps (List Str×β):=nS d0 bO (λ_ _=>rE) r
noncomputable def oy:U->Option Nat
 |.ae (.bM i)=>some i
 |_=>none
theorem oz(h:oy x=some i):x=.ae (.bM i):=by
 cases x with
 |ae l=>
  induction l with
  |bM j=>exact afE (λj=>U.ae (.bM j)) (ack h)
  |_=>exact ag h
 |_=>exact ag h
noncomputable def pS:U->Option Nat
 |.ae (.path i)=>some i
 |_=>none
theorem Me(h:pS x=some i):x=.ae (.path i):=by
 cases x with
 |ae l=>
  induction l with
  |path j=>exact afE (λj=>U.ae (.path j)) (ack h)
  |_=>exact ag h
 |_=>exact ag h
noncomputable def wc:U->Option Nat
 |.ae (.run i)=>some i
 |_=>none
theorem acL(h:wc x=some i):x=.ae (.run i):=by
 cases x with
 |ae l=>
  induction l with
  |run j=>exact afE (λj=>U.ae (.run j)) (ack h)
  |_=>exact ag h
 |_=>exact ag h
noncomputable def Mf (y:LN)(i:Int):U:=.az [.str y.name,.az y.aX,.ae (.bM i.toNat)]
def zj(s:LS):Int:=((gb s.path).map (·.1)).getD 0
noncomputable def dK (s:LS)(i:Nat):Option LN:=(s.aa[i]?).bind λx=>if x.tx then none else some x
def zl(s:LS)(i:Nat)(a:Int)(t:Str):Option LS:=(s.aa[i]?).bind λ_=>gw s (i:Int) a t
theorem kE(h:dK s i=some y):s.aa[i]?=some y/\y.tx=false:=bE h λx h1 h=>by
 cases c:x.tx with
 |true=>rw[c]at h;exact ag h
 |false=>
  rw[c]at h;apply sE h;exact⟨h1,c⟩
theorem wd(h:c6 s i=some y):∃k:Nat,i=(k:Int)/\dK s k=some y:=by refine cN (u2 h) λk e h1 h2=>?_;exact⟨k,e,by unfold dK;rw[h1];exact if_neg (by rw[h2];decide)⟩
theorem pU(h:dK s i=some y):(hp b (lG x s) n).get (.bM i)=some (.list (y.af.map (cz s))):=by refine aU (kE h) λh1 h2=>?_;rw[lS rfl,iX,h1];exact if_neg (by rw[h2];decide)
def DK(x:U):Option Nat:=(nQ x).bind λl=>(un l).bind λp=>(un p.2).bind λp=>(un p.2).bind λp=>oy p.1
noncomputable def acM:Value->Bool
 |.type x=>x=="str"
 |_=>false
def Mg:U->Bool
 |.val v=>acM v
 |_=>false
theorem Mh(h:Mg x=true):x=.val (.type "str"):=by
 induction x using U.casesOn with
 |val v=>
  induction v using Value.casesOn with
  |type x=>exact afE (λx=>U.val (.type x)) (afI.mp h)
  |_=>exact nomatch h
 |_=>exact nomatch h
theorem Mi:ft (S "isinstance")=.builtin "isinstance":=rfl
def pV(x y:U):Bool:=@decide (x=y) (Classical.propDecidable _)
theorem DN(h:pV x y=true):x=y:=@af4 _ (Classical.propDecidable _) h
theorem DO(h:x=y):pV x y=true:=@aga _ (Classical.propDecidable _) h
def Mj(x:U)(z:LS)(a:Str)(k:Fc->Option ρ):Option ρ:=cond (aw yi a) (cG (nQ x) (λ_=>k (.m a)) (cG (pS x) (λj=>cond (Nat.beq j (z.pk+1)) (k (.m a)) none)
 (cG (wc x) (λj=>cond (Nat.beq j z.rk) (k (.m a)) none) (cG (oy x) (λi=>(dK z i).bind λ_=>k (.m a)) (cond (Nat.beq (d9 x) 18) (k (.m a)) none))))) none
def DQ(x:Str)(xs:List U)(z:LS)(k:U->LS->Option ρ):Option ρ:=
 (un xs).bind λp=>
  cond (x==S "len") (cond (gf p.2) (cG (oy p.1) (λi=>(dK z i).bind λy=>if aC y.af.length then k (.int y.af.length) z else none) ((d0 p.1).bind λss=>if aC ss.length then k (.int ss.length) z else none)) none)<|
  cond (x==S "pop") (cond (gf p.2) ((pS p.1).bind λj=>cond (Nat.beq j (z.pk+1)) ((gc z).bind λz'=>k (cS z (zj z)) z') none) none)<|
  (un p.2).bind λp2=>
   cond (x==S "isinstance") (cond (gf p2.2&&Mg p2.1) (cG (dY p.1) (λ_=>k (.bool true) z) ((nQ p.1).bind λ_=>k (.bool false) z)) none)<|
   cond (x==S "append") (cond (gf p2.2) (cG (wc p.1) (λj=>cond (Nat.beq j z.rk) ((dY p2.1).bind λa=>if aC z.run.length then k .none {z with run:=z.run++[a]}else none) none)
    (cG (oy p.1) (λi=>(dK z i).bind λy=>(DK p2.1).bind λj=>cond (pV (cz z (j:Int)) p2.1) (if aC y.af.length then k .none (z.cq i {y with af:=y.af++[(j:Int)]})else none) none)
    (cG (pS p.1) (λi=>cond (Nat.beq i (z.pk+1)) ((DK p2.1).bind λj=>cond (pV (cS z (j:Int)) p2.1) (if aC z.path.length then k .none {z with path:=z.path++[(j:Int)]}else none) none) none)
    (cond (Nat.beq (d9 p.1) 18) ((iZ p2.1).bind λt=>(un t).bind λt1=>(un t1.2).bind λt2=>cond (gf t2.2) ((dY t1.1).bind λa=>(dY t2.1).bind λm=>(dj z a m).bind λz'=>k .none z') none) none)))) none)<|
   cond (x==S "index") (cond (gf p2.2) ((d0 p.1).bind λss=>(dY p2.1).bind λa=>if aC ss.length=true/\aw ss a=true then k (.int (ss.idxOf a:Nat)) z else none) none)<|
   cond (x==S "insert") ((un p2.2).bind λp3=>cond (gf p3.2) ((fm p2.1).bind λa=>(oy p.1).bind λi=>(dK z i).bind λy=>cG (dY p3.1) (λt=>if aC y.af.length=true/\valid z=true/\0<=a/\a<=(y.af.length:Int)then k .none {z with aa:=(z.aa.set i {y with af:=y.af.take a.toNat++(z.aa.length:Int)::y.af.drop a.toNat})++[⟨true,S "",[],t,[]⟩]}else none) ((DK p3.1).bind λj=>cond (pV (cz z (j:Int)) p3.1) (if aC y.af.length=true/\0<=a/\a<=(y.af.length:Int)then k .none (z.cq i {y with af:=y.af.take a.toNat++(j:Int)::y.af.drop a.toNat})else none) none)) none) none
def Mk(x y:U)(z:LS)(k:U->Option ρ):Option ρ:=cond (Nat.beq (d9 x) 5) ((dY y).bind λa=>((kj z).lookup a).bind k)
 (cG (pS x) (λj=>cond (Nat.beq j (z.pk+1)) ((fm y).bind λi=>(cy z.path i).bind λc=>(c6 z c).bind λn=>k (Mf n c)) none)
  (cG (oy x) (λi=>(dK z i).bind λn=>(fm y).bind λa=>(cy n.af a).bind λc=>(jq z c).bind λu=>if u.tx then k (.str u.text)else k (.az [.str u.name,.az u.aX,.ae (.bM c.toNat)]))
  ((nQ x).bind λxs=>(fm y).bind λi=>cond (decide (0<=i)&&Nat.blt i.toNat 1000000) ((xs[i.toNat]?).bind k) none)))
def laL(x:U)(z:LS)(k:U->Option ρ):Option ρ:=cG (pS x) (λj=>cond (Nat.beq j (z.pk+1)) (z.path.getLast?.bind λc=>(c6 z c).bind λn=>k (Mf n c)) none)
 ((d0 x).bind λss=>ss.getLast?.bind λa=>k (.str a))
noncomputable def Ml:CmpOp->Bool
 |.Eq=>true
 |_=>false
theorem acN(h:Ml op=true):op=.Eq:=by induction op<;>first|rfl|cases h
noncomputable def Mm:CmpOp->Bool
 |.NotEq=>true
 |_=>false
theorem acO(h:Mm op=true):op=.NotEq:=by induction op<;>first|rfl|cases h
def DR(x:U):Option (Str×Str):=(iZ x).bind λt=>(un t).bind λt1=>(un t1.2).bind λt2=>cond (gf t2.2) ((dY t1.1).bind λa=>(dY t2.1).bind λb=>some (a,b)) none
theorem Mn(h:DR x=some p):x=.aJ [.str p.1,.str p.2]:=
 bE h λt h1 h=>bE h λt1 h2 h=>bE h λt2 h3 h=>cE h λh4 h=>bE h λa h5 h=>bE h λb h6 h=>sE (X:=λp:Str×Str=>x=.aJ [.str p.1,.str p.2]) h (by rw[lh h1,lV h2,BW h3 h4,eH h5,eH h6])
def acP(op:CmpOp)(x y:U)(z:LS)(k:U->Option ρ):Option ρ:=cG (dY x) (λa=>cond (isIn op) ((d0 y).bind λss=>k (.bool (aw ss a))) none)
 (cG (iZ x) (λ_=>cond (Mm op) ((DR x).bind λp=>(DR y).bind λq=>cond ((PyData.strOk p.1&&PyData.strOk p.2)&&(PyData.strOk q.1&&PyData.strOk q.2)) (k (.bool (!(p.1==q.1&&p.2==q.2)))) none) none)
  (cond (Ml op) ((d0 x).bind λxs=>(d0 y).bind λys=>cond (xs.all PyData.strOk&&ys.all PyData.strOk) (k (.bool (xs==ys))) none) none))
def acQ(op:Operator)(x y:U)(z:LS)(k:U->Option ρ):Option ρ:=(dY x).bind λa=>(dY y).bind λb=>(match op with
 |.Add=>if a.length+b.length<=1000000 then k (.str (a++b))else none
 |_=>none)
def siL(x y v:U)(z:LS)(k:LS->Option ρ):Option ρ:=(oy x).bind λi=>(dK z i).bind λn=>(fm y).bind λa=>(dY v).bind λt=>(cy n.af a).bind λc=>(jq z c).bind λu=>if u.tx then(if aC n.af.length=true/\valid z=true/\nK z i a c=true then k (z.cq c.toNat {u with text:=t})else none)else none
def evL(f:aV)(e:Expr)(z:LS)(k:U->LS->Option ρ):Option ρ:=(lY (vw e)).bind λx=>cond (x==S "str"&&sO f x) (k (.val (.type "str")) z) none
noncomputable def Mo:Kd->Option (Expr×Expr)
 |.sub o i=>some (o,i)
 |_=>none
def Mp:Kd->Option Str
 |.const v=>dY v
 |_=>none
noncomputable def Mq:Kd->Option (Expr×Expr)
 |.qQ o lo hi=>cond lo.isNone (hi.bind λh=>some (o,h)) none
 |_=>none
def DS(e:Expr):Option (Str×Str):=(Mo (vw e)).bind λq=>(lY (vw q.1)).bind λx=>(Mp (vw q.2)).bind λa=>some (x,a)
noncomputable def Mr:Kd->Option (List Expr)
 |.az es=>some es
 |_=>none
noncomputable def Mt:Kd->Option (Str×List Expr)
 |.ig x args=>some (x,args)
 |_=>none
noncomputable def Mu:List α->Option (α×α×α)
 |[a,b,c]=>some (a,b,c)
 |_=>none
def Mv(e:Expr):Option (Expr×Expr):=(Mr (vw e)).bind λes=>(Mu es).bind λq=>(Mt (vw q.2.1)).bind λc=>(yk c.2).bind λb=>cond (yj (vw q.2.2)&&(c.1==S "list"&&(jI q.1&&jI b))) (some (q.1,b)) none
def tP(x:U):Option (List U):=cG (iZ x) some (nQ x)
def stD(d:Nat)(f:aV)(m:Lo)(x:Str)(e:Expr)(z:LS)(k:Fl->Lo->LS->Option ρ):Option ρ:=(Mv e).bind λq=>cond (iJ f x&&sO f (S "list")) ((ph d f m q.1).bind λv=>(dY v).bind λnm=>(ph d f m q.2).bind λv=>(tP v).bind λas=>if aC as.length=true/\valid z=true then k .next ((x,rD z nm as)::m) (tN z nm as)else none) none
def stA(f:aV)(m:Lo)(x:Str)(e:Expr)(z:LS)(k:Fl->Lo->LS->Option ρ):Option ρ:=(Mq (vw e)).bind λq=>(DS q.1).bind λx'=>(lY (vw q.2)).bind λy=>cond (x==x'.1&&(x'.2==S "path"&&(iJ f x&&iJ f y))) ((m.lookup x).bind λv=>cond (Nat.beq (d9 v) 5) ((m.lookup y).bind λu=>(fm u).bind λi=>if aC z.path.length=true/\0<=i then k .next m {z with path:=z.path.take i.toNat,pk:=z.pk+1}else none) none) none
def stR(f:aV)(m:Lo)(x:Str)(e:Expr)(z:LS)(k:Fl->Lo->LS->Option ρ):Option ρ:=cond (yj (vw e)&&iJ f x) ((m.lookup x).bind λv=>cond (Nat.beq (d9 v) 5) (k .next m {z with run:=[],rk:=z.rk+1,old:=some z.run}) none) none
def stK(d:Nat)(f:aV)(m:Lo)(s:Stmt)(z:LS)(k:Fl->Lo->LS->Option ρ):Option ρ:=match s with
 |.Assign ts e _=>(yk ts).bind λt=>cG (lY (vw t)) (λx=>stD d f m x e z k) ((DS t).bind λx=>cond (x.2==S "path") (stA f m x.1 e z k) (cond (x.2==S "run") (stR f m x.1 e z k) none))
 |_=>none
def DL(ρ:Type)(b:B)(xt:LX)(c:Tl LS ρ)(tb:List (Addr×cA LS ρ)):Dm LS ρ:=
 {hz:=λs n=>hp b (lG xt s) n,o:=0,bi:=ft,g:=gB,lc:=λ_=>false,mt:=Mj,fl:=λ_ _ _=>none,pc:=λ_ _ _=>none,dt:=acP,gY:=acQ,item:=Mk,last:=laL,kq:=λ_ _ _ _ _=>none,lg:=siL,tr:=λ_ _ _=>none,call:=ye tb DQ,tail:=BR tb DQ c.gk,gk:=c.gk,ev:=λ_ f _ e z k=>evL f e z k,st:=stK}
theorem acR(h:Mo (vw e)=some q):nr q.2=true/\∃p,e=.Subscript q.1 q.2 p:=by
 have V:=jw e;generalize vw e=k at h V;induction k with
 |sub o i=>exact sE (X:=λq:Expr×Expr=>nr q.2=true/\∃p,e=.Subscript q.1 q.2 p) h V
 |_=>exact ag h
theorem acS(h:Mq (vw e)=some q):∃p p',e=.Subscript q.1 (.Slice none (some q.2) none p) p':=by
 have V:=jw e;generalize vw e=k at h V;induction k with
 |qQ o lo hi=>
  refine cE h λhl h=>bE h λu hu h=>sE (X:=λq:Expr×Expr=>∃p p',e=.Subscript q.1 (.Slice none (some q.2) none p) p') h ?_;rw[Option.isNone_iff_eq_none.mp hl,hu]at V;exact V
 |_=>exact ag h
theorem acT(h:Mp (vw e)=some a)(q:Q (.str a) X):aW d f m X e Q:=by
 have V:=jw e;generalize vw e=k at h V;induction k with
 |const v=>refine jd V λ_ _ _ _ V=>?_;exact V _ _ _ _ _ (eH h▸q)
 |_=>exact ag h
theorem DT(h:DS e=some x):∃o i p p',e=.Subscript o i p/\nr i=true/\o=.Name x.1 p'/\(∀X (Q:U->AH->Prop),Q (.str x.2) X->aW d f m X i Q):=
 bE h λq h1 h=>bE h λx h2 h=>bE h λa h3 h=>sE (X:=λx:Str×Str=>∃o i p p',e=.Subscript o i p/\nr i=true/\o=.Name x.1 p'/\(∀X (Q:U->AH->Prop),Q (.str x.2) X->aW d f m X i Q)) h
  (let⟨h4,p,e1⟩:=acR h1;aI (mI h2) λp' e2=>⟨_,_,_,_,e1,h4,e2,λX Q q=>acT h3 q⟩)
theorem acU(h:Mr (vw e)=some es):∃p,e=.List es p:=by
 have V:=jw e;generalize vw e=k at h V;induction k with
 |az es=>exact sE (X:=λes=>∃p,e=.List es p) h V
 |_=>exact ag h
theorem acV(h:Mt (vw e)=some q):∃p p',e=.Call (.Name q.1 p) q.2 [] p':=by
 have V:=jw e;generalize vw e=k at h V;induction k with
 |ig x args=>exact sE (X:=λq:Str×List Expr=>∃p p',e=.Call (.Name q.1 p) q.2 [] p') h V.2
 |_=>exact ag h
theorem acW{α:Type}{l:List α}{q:α×α×α}(h:Mu l=some q):l=[q.1,q.2.1,q.2.2]:=by
 cases l with
 |nil=>exact ag h
 |cons a l=>
  cases l with
  |nil=>exact ag h
  |cons b l=>
   cases l with
   |nil=>exact ag h
   |cons c l=>
    induction l with
    |nil=>exact sE (X:=λq:α×α×α=>[a,b,c]=[q.1,q.2.1,q.2.2]) h rfl
    |cons=>exact ag h
theorem acX(h:Mv e=some q):jI q.1=true/\jI q.2=true/\∃p1 p2 p3 p4,e=.List [q.1,.Call (.Name (S "list") p1) [q.2] [] p2,.List [] p3] p4:=
 bE h λes h1 h=>bE h λt h2 h=>bE h λc h3 h=>bE h λb h4 h=>cE h λhc h=>sE (X:=λq:Expr×Expr=>jI q.1=true/\jI q.2=true/\∃p1 p2 p3 p4,e=.List [q.1,.Call (.Name (S "list") p1) [q.2] [] p2,.List [] p3] p4) h (by
  rw[afz,afz,afz]at hc;refine cps λG k=>?_;refine aI (acU h1) λp e1=>?_;refine fX (acV h3) λp1 p2 e2=>?_;refine aI (B9 hc.1) λp3 e3=>?_;refine k ?_;rw[acW h2,e2,e3,afI.mp hc.2.1,vo h4]at e1;exact⟨hc.2.2.1,hc.2.2.2,_,_,_,_,e1⟩)
section
variable{b:B}{xt:LX}
theorem V.acY(h:gc s=some s')(q:Q (cS s (zj s)) (hp b (lG xt s') n)):ba d (.builtin "list.pop") [.ae (.path (s.pk+1))] (hp b (lG xt s) n) Q:=
 bE h λr h1 h=>by
  refine aU (As h1) λe hz=>?_;have ht:zj s=r.1:=by unfold zj;rw[h1];rfl
  replace q:=ht▸q;obtain rfl:=ack h;refine Call.jh (xs:=r.2.map (cS s)) (x:=cS s r.1) ?_ (by rw[afA];exact hz) ?_
  ·rw[nL,e,afR];rfl
  ·rw[kZ rfl,GF];exact q
theorem mT{xs:List α}(h:aC xs.length=true):(xs.map f).length<=1000000:=by rw[afA];exact ads (eG h) (by decide)
theorem V.acZ{y:LN}(h:dK s i=some y)(ho:aC y.af.length=true)(q:Q .none (hp b (lG xt (s.cq i {y with af:=y.af++[(j:Int)]})) n)):ba d (.builtin "list.append") [.ae (.bM i),cz s j] (hp b (lG xt s) n) Q:=by refine Call.append (xs:=y.af.map (cz s)) (pU h) (mT ho) ?_;rw[<-List.map_singleton,<-afR,kZ rfl,GG (kE h).1 (kE h).2];exact q
theorem V.ac0{s:LS}(h:dK s i=some y)(ho:aC y.af.length=true/\0<=a/\a<=(y.af.length:Int))(q:Q .none (hp b (lG xt (s.cq i {y with af:=y.af.take a.toNat++(j:Int)::y.af.drop a.toNat})) n)):ba d (.builtin "list.insert") [.ae (.bM i),.int a,cz s j] (hp b (lG xt s) n) Q:=by obtain⟨c,rfl⟩:∃c:Nat,a=c:=⟨a.toNat,by lia⟩;rw[afM]at q;refine Call.uq (i:=c) (xs:=y.af.map (cz s)) (pU h) (mT ho.1) (by rw[afA];lia) ?_;rw[<-List.map_take,<-ahs,<-agB,<-afR,kZ rfl,GG (kE h).1 (kE h).2];exact q
theorem ba.post(h:ba d g xs X λv H'=>∃br,AH.Le H' br/\Q v br):ba d g xs X Q:=
 λA ρ s vs Qc E ah R rv p=>h A ρ s vs Qc E ah R rv λy v aj H' s' q R S z r=>ao q λbr l q=>p y v aj br s' q (R.le l) S z r
theorem V.Mw(hy:dK s i=some y)(hc:cy y.af a=some c)(q:Q (cz s c) (hp b (lG xt s) n)):(∃T,ew (hp b (lG xt s) n) (.ae (.bM i)) T/\gR T)/\bC d getItem (.ae (.bM i)) (.int a) (hp b (lG xt s) n) Q:=
 ⟨jO (pU hy),Op.lL (.list (pU hy)) (jN hc) q⟩
theorem V.ac1{t:Str}(h:dK s i=some y)(ho:aC y.af.length=true/\valid s=true/\0<=a/\a<=(y.af.length:Int))(q:Q .none (hp b (lG xt {s with aa:=(s.aa.set i {y with af:=y.af.take a.toNat++(s.aa.length:Int)::y.af.drop a.toNat})++[⟨true,S "",[],t,[]⟩]}) n)):ba d (.builtin "list.insert") [.ae (.bM i),.int a,.str t] (hp b (lG xt s) n) Q:=by obtain⟨c,rfl⟩:∃c:Nat,a=c:=⟨a.toNat,by lia⟩;rw[afM]at q;refine ba.post (Call.uq (i:=c) (xs:=y.af.map (cz s)) (pU h) (mT ho.1) (by rw[afA];lia) ?_);rw[kZ rfl];exact⟨_,xG (SR ho.2.1 (kE h).1 (kE h).2),q⟩
theorem V.ac2(h:dK s i=some y)(hc:cy y.af a=some c)(hu:jq s c=some u)(ht:u.tx=true)(ho:aC y.af.length=true/\valid s=true/\nK s i a c=true)(q:Q (hp b (lG xt (s.cq c.toNat {u with text:=t})) n)):mn d (.ae (.bM i)) (.int a) (.str t) (hp b (lG xt s) n) Q:=by refine cN (gT hc) λj ej _ hj=>?_;refine Set.Au (xs:=y.af.map (cz s)) (y:=cz s c) (pU h) (jN hc) (by rw[afA];exact ho.1) ?_;have e:=SY (x:=xt) (t:=t) ho.2.1 (kE h).1 (kE h).2 hj hu ht (ej▸ho.2.2);rw[ej,afM,kZ rfl,e];exact q
theorem V.ac3{Q:U->AH->Prop}(ho:aC s.path.length=true)(q:Q .none (hp b (lG xt {s with path:=s.path++[(j:Int)]}) n)):ba d (.builtin "list.append") [.ae (.path (s.pk+1)),cS s j] (hp b (lG xt s) n) Q:=by refine Call.append (xs:=s.path.map (cS s)) nL (mT ho) ?_;rw[<-List.map_singleton (f:=cS s) (a:=(j:Int)),<-afR,kZ rfl,GF];exact q
theorem DU(h:wc x=some j)(e:Nat.beq j k=true):x=.ae (.run k):=by rw[acL h,afN e]
theorem we(h:pS x=some j)(e:Nat.beq j k=true):x=.ae (.path k):=by rw[Me h,afN e]
theorem ac4(h:Mj x z a k=some r){P:Prop}(g:∀c,k c=some r->(∀n,mG (hp b (lG xt z) n) x a (l4 c))->P):P:=
 cE h λe3 h=>oE h (λl e h=>g _ h λn=>mK (pf e) (mJ (.az _) e3)) λh=>oE h (λj e h=>cE h λe2 h=>g _ h λn=>mK (we e e2) (mJ (.list nL) e3))
  λh=>oE h (λj e h=>cE h λe2 h=>g _ h λn=>mK (DU e e2) (mJ (.list xH) e3)) λh=>oE h (λi e h=>bE h λy e2 h=>g _ h λn=>mK (oz e) (mJ (.list (pU e2)) e3))
  λh=>cE h λe h=>g _ h λn=>mK (fq e) (mJ (.list Bk) e3)
theorem Mx:yf (λs n=>hp b (lG xt s) n) ft r DQ:=λx xs z k h P g=>
 bE h λp e1 h=>dE h (λe h=>cE h λe2 h=>oE h (λi ei h=>bE h λy hy h=>cF h λho h=>g _ _ h λd n Q q=>gZ (g8 e BY) (sX e1 e2 (oz ei)) (Call.len (.list (pU hy)) (mT ho) (by rw[afA];exact q n)))
  λh=>bE h λss e3 h=>cF h λho h=>g _ _ h λd n Q q=>gZ (g8 e BY) (sX e1 e2 (rE e3)) (V.acF ho (q n))) λ_ h=>
 dE h (λe h=>cE h λe2 h=>bE h λj ej h=>cE h λek h=>bE h λz' hz h=>g _ _ h λd n Q q=>gZ (g8 e BZ) (sX e1 e2 (we ej ek)) (V.acY hz (q n))) λ_ h=>bE h λp2 e2 h=>
 dE h (λe h=>cE h λe3 h=>oE h (λt ht h=>g _ _ h λd n Q q=>gZ (g8 e Mi) (kA e1 e2 (hB e3) (eH ht) (Mh (gH e3))) (Call.isStr (q n))) λh=>bE h λl hl h=>g _ _ h λd n Q q=>gZ (g8 e Mi) (kA e1 e2 (hB e3) (pf hl) (Mh (gH e3))) (Call.PE (.az _) (q n))) λ_ h=>
 dE h (λe h=>cE h λe3 h=>oE h (λj ej h=>cE h λek h=>bE h λa ha h=>cF h λho h=>g _ _ h λd n Q q=>gZ (g8 e pg) (kA e1 e2 e3 (DU ej ek) (eH ha)) (V.acI ho (q n)))
  λh=>oE h (λi ei h=>bE h λy hy h=>bE h λj _ h=>cE h λhk h=>cF h λho h=>g _ _ h λd n Q q=>gZ (g8 e pg) (kA e1 e2 e3 (oz ei) (DN hk).symm) (V.acZ hy ho (q n)))
  λh=>oE h (λi ei h=>cE h λek h=>bE h λj _ h=>cE h λhk h=>cF h λho h=>g _ _ h λd n Q q=>gZ (g8 e pg) (kA e1 e2 e3 (we ei ek) (DN hk).symm) (V.ac3 ho (q n)))
  λh=>cE h λel h=>bE h λt f1 h=>bE h λt1 f2 h=>bE h λt2 f3 h=>cE h λf4 h=>bE h λa f5 h=>bE h λm f6 h=>bE h λz' hz h=>g _ _ h λd n Q q=>gZ (g8 e pg) (kA e1 e2 e3 (fq el) (H6 f1 f2 f3 f4 f5 f6)) (V.acC hz (q n))) λ_ h=>
 dE h (λe h=>cE h λe3 h=>bE h λss f1 h=>bE h λa f2 h=>cF h λho h=>g _ _ h λd n Q q=>gZ (g8 e B1) (kA e1 e2 e3 (rE f1) (eH f2)) (Call.Sw (.az _) (ads (eG ho.1) (by decide)) (km.mp ho.2) (q n))) λ_ h=>
 cE h λe h=>bE h λp3 e3 h=>cE h λe4 h=>bE h λa f1 h=>bE h λi f2 h=>bE h λy hy h=>oE h (λt ht h=>cF h λho h=>g _ _ h λd n Q q=>gZ (g8 e yh) (B2 e1 e2 e3 e4 (oz f2) (dZ f1) (eH ht)) (V.ac1 hy ho (q n)))
  λh=>bE h λj _ h=>cE h λhk h=>cF h λho h=>g _ _ h λd n Q q=>gZ (g8 e yh) (B2 e1 e2 e3 e4 (oz f2) (dZ f1) (DN hk).symm) (V.ac0 hy ho (q n))
theorem ac5(h:tP x=some as):eF X x as\/x=.aJ as:=oE h (λa h1 h=>.inr (sE (X:=λas=>x=.aJ as) h (lh h1))) λh=>.inl (pf h▸.az as)
theorem ac6(h:stK d f m s z k=some r)(Q:Fl->Lo->AH->Prop)(q:∀fl m' z' n',k fl m' z'=some r->Q fl m' (hp b (lG xt z') n'))(n:Nat):dD (0+d) f m (hp b (lG xt z) n) s Q:=by
 induction s using Stmt.casesOn with
 |Assign ts e p=>
  refine bE h λt h1 h=>oE h (λx h2 h=>bE h λqq h3 h=>cE h λhc h=>bE h λv1 h4 h=>bE h λnm h5 h=>bE h λv2 h6 h=>bE h λas h7 h=>cF h λho h=>?_) λh=>bE h λx h2 h=>dE h (λhx h=>bE h λqq h3 h=>bE h λx' h4 h=>bE h λy h5 h=>cE h λhc h=>bE h λv h6 h=>cE h λhl h=>bE h λu h7 h=>bE h λi h8 h=>cF h λho h=>?_) λ_ h=>cE h λhx h=>cE h λhc h=>bE h λv h3 h=>cE h λhl h=>?_
  ·rw[afz]at hc;refine cps λG k=>?_;refine aI (mI h2) λp1 e1=>?_;refine dR (acX h3) λn1 n2 hh=>l8 hh λp2 p3 p4 p5 e2=>?_;refine k ?_;have PV:∀(X:AH) (e:Expr) (v:U),ph d f m e=some v->jZ (0+d) f m X e v:=λX=>(ya (d:=d) (f:=f) (m:=m) (qT (r:=()) cH) X 0 9).E;rw[vo h1,e1,e2];refine Ex.assign (c9 hc.1) (Ev.list (aM.cons (PV _ _ _ h4 _ (aM.cons (Ev.wU xj (dF hc.2) (aM.cons (PV _ _ _ h6 _ (aM.nil (Call.Aj (ac5 h7) (ads (eG ho.1) (by decide)) (aM.cons (Ev.kc (.bM z.aa.length) (aM.nil ⟨afO _,afD _,?_⟩)) rfl)))) n2) (by show(jI _&&true)=true;rw[n2];rfl)) rfl)) n1)) rfl;rw[lT rfl,SQ ho.2,eH h5];exact aM.nil ⟨afG rfl,q _ _ _ _ h⟩
  ·rw[afz,afz,afz]at hc;refine cps λG k=>?_;refine l9 (DT (d:=0+d) (f:=f) (m:=m) h2) λo i1 p1 p2 e1 n1 e2 v1=>?_;refine fX (acS h3) λp3 p4 e3=>?_;refine l9 (DT (d:=0+d) (f:=f) (m:=m) h4) λo2 i2 p5 p6 e4 n2 e5 v2=>?_;refine aI (mI h5) λp7 e6=>?_;obtain⟨j,rfl⟩:∃j:Nat,i=j:=⟨i.toNat,by lia⟩;refine k ?_;rw[vo h1,e1,e2,e3,e4,e5,e6,<-afI.mp hc.1];rw[fq hl]at h6;rw[dZ h8]at h7;exact yl.post (Ex.ux (Ev.SE (Ev.sub (Ev.local (.of h6) (c9 hc.2.2.1) (v2 _ _ (by rw[afI.mp hc.2.1];exact V.L7 (Ev.local (.of h7) (c9 hc.2.2.2) ⟨.path (z.pk+2),z.path.map (cS z),j,.list nL,rfl,by rw[afA];exact ads (eG ho.1) (by decide),agf _,by
    rw[<-List.map_take,lT rfl];refine Ev.local (.of h6) (c9 hc.2.2.1) (v1 _ _ (Set.map (es:=kj z) ((lS rfl).trans (AH.bZ _ _ (by intro e;cases e))) (show 3<=1000 by decide) ?_));rw[kZ rfl,afI.mp hx];exact⟨_,xG S5,q _ _ _ _ h⟩⟩)))) n2)) rfl)
  ·rw[afz]at hc;refine l9 (DT (d:=0+d) (f:=f) (m:=m) h2) λo i1 p1 p2 e1 n1 e2 v1=>?_;refine aI (B9 hc.1) λp3 e3=>?_;rw[vo h1,e1,e2,e3];rw[fq hl]at h3;exact yl.post (Ex.ux (Ev.kc (.run (z.rk+1)) (aM.nil ⟨afO _,agf _,by
    rw[lT rfl];refine Ev.local (.of h3) (c9 hc.2) (v1 _ _ (Set.map (es:=kj z) ((lS rfl).trans (AH.bZ _ _ (by intro e;cases e))) (show 3<=1000 by decide) ?_));rw[kZ rfl,afI.mp hx];exact⟨_,xG S6,q _ _ _ _ h⟩⟩)) rfl)
 |_=>exact ag h
theorem jF{r:ρ}(vr:∀e,e∈tb->cU (DL ρ b xt c tb) r e.1 e.2):iL (DL ρ b xt c tb) r where
 g x c h:=by induction c<;>exact ym h
 lc a h:=nomatch h
 mt x z a k h P g:=ac4 (b:=b) (xt:=xt) h λc h1 h2=>g c h1 λn=>by have:=h2 n;induction c<;>exact this
 fl x z a v h n:=ag h
 pc d a xs y h z n Q q:=ag h
 dt op x y z k h P g:=oE h (λa h1 h=>cE h λhc h=>bE h λss h2 h=>g _ h λd n Q q=>sW (Ig hc) (eH h1) (rE h2) (Op.PC (.az _) q))
  λh=>oE h (λ_ _ h=>cE h λhc h=>bE h λp h1 h=>bE h λp2 h2 h=>cE h λho h=>g _ h λd n Q q=>sW (acO hc) (Mn h1) (Mn h2) (V.acJ (hB (hB ho)) (gH (hB ho)) (hB (gH ho)) (gH (gH ho)) q))
  λh=>cE h λhc h=>bE h λxs h1 h=>bE h λys h2 h=>cE h λho h=>g _ h λd n Q q=>sW (acN hc) (rE h1) (rE h2) (V.acH (hB ho) (gH ho) q)
 gY op x y z k h P g:=bE h λa h1 h=>bE h λb h2 h=>by
  induction op with
  |Add=>exact cF h λhl h=>g _ h λd n Q q=>by rw[eH h1,eH h2];exact Op.cat hl q
  |_=>exact ag h
 item x y z k h P g:=dE h (λhc h=>bE h λa h1 h=>bE h λv h2 h=>g _ h λd n Q q=>lX (fq hc) (eH h1) ⟨⟨_,.map o9,uu⟩,Op.uw o9 h2 q⟩)
  λ_ h=>oE h (λj ej h=>cE h λek h=>bE h λi hi h=>bE h λc hc h=>bE h λy hy h=>g _ h λd n Q q=>lX (we ej ek) (dZ hi) (V.L8 hc hy q))
  λh=>oE h (λi ei h=>bE h λy' hy h=>bE h λa ha h=>bE h λc hc h=>bE h λu hu h=>iE h (λht h=>g _ h λd n Q q=>lX (oz ei) (dZ ha) (V.Mw hy hc (by rw[L9 hu];exact(rT ht).symm▸q))) λht h=>g _ h λd n Q q=>lX (oz ei) (dZ ha) (V.Mw hy hc (by rw[L9 hu];exact(rF ht).symm▸q)))
  λh=>bE h λxs h1 h=>bE h λi h2 h=>cE h λho h=>bE h λv h3 h=>g _ h λd n Q q=>lX (pf h1) ((dZ h2).trans (afE U.int (agq (af4 (hB ho))).symm)) ⟨qo,Op.item (.az _) (Nat.blt_eq.mp (gH ho)) h3 q⟩
 last x z k h P g:=oE h (λj ej h=>cE h λek h=>bE h λc hc h=>bE h λy hy h=>g _ h λd n Q q=>lX (we ej ek) rfl (V.last hc hy q))
  λh=>bE h λss h1 h=>bE h λa h2 h=>g _ h λd n Q q=>lX (rE h1) rfl (by
   refine aI (agy.mp h2) λr e=>?_;exact e▸⟨qo,Op.Ac (xs:=r.map .str) (y:=.str a) (by exact aco▸.az _) q⟩)
 kq a x v z k h:=ag h
 lg x y v z k h P g:=bE h λi ei h=>bE h λy' hy h=>bE h λa ha h=>bE h λt ht h=>bE h λc hc h=>bE h λu hu h=>cF h λkl h=>cF h λho h=>g _ h λd n Q q=>Ca (oz ei) (dZ ha) (eH ht) (V.ac2 hy hc hu kl ho (q n))
 tr x z k h:=ag h
 call d c xs z k h Q q n:=BS Mx vr h Q q n
 tail d c xs z h Q q n:=HY Mx vr h Q q n
 ev d f m e z k h Q q n:=bE h λx h1 g=>cE g λhc g=>by refine aI (mI h1) λp e1=>?_;rw[e1,afI.mp (hB hc)];exact Ev.lC AM (afI.mp (hB hc)▸dF (gH hc)) (q _ _ _ g)
 st d f m s z k h Q q n:=ac6 h Q q n
end
theorem b6(h:o=some a)(g:F a=r):o.bind F=r:=by exact h▸g
abbrev ac7:bg:=bh (H.aD 91) "_law_is_blank" 933 932 [S "sign"] []
theorem ac8:au 933 ac7:=au.o1
abbrev DV:bg:=bh (H.aD 94) "_law_holds" 952 951 [S "parts"] []
theorem ac9:au 952 DV:=au.o1
abbrev wg:bg:=bh (H.aD 92) "_law_mode" 940 939 [S "names"] []
theorem ada:au 940 wg:=au.o1
abbrev My:bg:=bh (H.aD 95) "_law_names" 957 956 [S "state"] []
theorem adb:au 957 My:=au.o1
theorem Mz{hz:Z->Nat->AH}{Q:U->AH->Prop}(q:∀n,Q (.bool c) (hz z n)):∀(fl:Fl) (m:Lo) (z':Z) (n':Nat),lW fl m z'=some (c,z)->Q fl.val (hz z' n'):=λfl m z' n' e=>
 bE e λc' e1 e2=>aU (Prod.mk.inj (ack e2)) λe3 e4=>e4▸iK e1▸e3▸q n'
theorem MA{t:Str}(q:Q (.bool (ib t)) X):ba 1 (.ref 933) [.str t] X Q:=
 run (D:=DP (Bool×AH) []) (xs:=[.str t]) (d:=0) (z:=X) (tf:=false) (ht:=λe=>nomatch e) (r:=(ib t,X)) (fin:=lW) (qT cH) ac8 (h:=by kernel_rfl) (q:=Mz λ_=>q) (n:=0) (hl:=by kernel_rfl)
section
variable(s:LS)(ps:List Str)
def ade:Option (Bool×LS):=(d0 (bO ps)).bind λss=>if aC ss.length then(if decide (0<(ss.length:Int)) then(d0 (bO ps)).bind λss=>ss.getLast?.bind λa=>some (aw [S "caption",S "td",S "th"] a,s)else some (decide (0<(ss.length:Int)),s))else none
theorem adf:(ms (DL (Bool×LS) b xt ay []) 60).L 0 DV.cD [(S "parts",bO ps)] DV.body s false lW=ade s ps:=by kernel_rfl
end
theorem adg{xt:LX}{ps:List Str}(hz:aC ps.length=true)(q:∀n,Q (.bool (fB ps)) (hp b (lG xt s) n)):ba 1 (.ref 952) [bO ps] (hp b (lG xt s) n) Q:=
 run (D:=DL (Bool×LS) b xt ay []) (xs:=[bO ps]) (d:=0) (z:=s) (tf:=false) (ht:=λe=>nomatch e) (r:=(fB ps,s)) (fin:=lW) (jF cH) ac9 (h:=(adf s ps).trans (b6 (tO ps) ((if_pos hz).trans (by
  delta fB;cases c:decide (0<(ps.length:Int))with
  |false=>rfl
  |true=>refine b6 (tO ps) ?_;cases e:ps.getLast? with
   |some x=>rfl
   |none=>rw[List.getLast?_eq_none_iff.mp e]at c;exact nomatch c)))) (q:=Mz q) (n:=n) (hl:=by kernel_rfl)
section
variable{b:B}{G:AH}{n:Nat}{Q:U->AH->Prop}
theorem MB(q:∀n,Q (.str (dH ns)) (hp b G n)):ba 2 (.ref 940) [bO ns] (hp b G n) Q:=by
 refine ada.go (d:=1) (m:=[(S "names",bO ns)]) (body:=[aB wg.body 0,aB wg.body 1,aB wg.body 2,aB wg.body 3]) rfl rfl rfl ?_;refine Ex.bG (s':=?s0) ?e0 ?_;case e0=>conv=>lhs;whnf
 with_reducible refine Ex.cons (Ex.assign (c9 ?hx) ?_)
 case hx=>rfl
 with_reducible refine Ev.sx (.aO n) ?k3 L.lO ?dd ?r1 ?r2 ?r3 ?r4
 case k3=>exact qG
 case r1=>rfl
 case r2=>rfl
 case r3=>exact nofun
 case r4=>decide
 case dd=>
 iterate 9 with_reducible refine fQ.cons (Ev.str ?_)
 with_reducible refine fQ.nil ⟨?r1,?r2,?_⟩
 case r1=>exact AH.bY ..
 case r2=>exact acp
 rw[nG];refine Ex.bG (s':=?s1) ?e1 ?_;case e1=>conv=>lhs;whnf
 with_reducible refine Ex.cons (Ex.assign (c9 ?hx) (aN (v:=.str (S "in body")) ?hv ?_))
 case hx=>rfl
 case hv=>rfl
 refine Ex.bG (s':=?s2) ?e2 ?_;case e2=>conv=>lhs;whnf
 with_reducible refine Ex.cons (Ex.forIn (c9 ?hx) (λi m' H'=>H'=(hp b G n).add (.aO n) (.map zg)/\b8 [(S "mode",.str ((ns.take i).foldl jr (S "in body"))),(S "told",.ae (.aO n))] m') (ns.map .str) (aN (v:=bO ns) ?hv ⟨⟨rfl,?l0⟩,λ_ _ _ _=>.az _⟩) ?turn ?done)
 case hx=>rfl
 case hv=>rfl
 case l0=>exact .of (aG rfl (aG rfl cH))
 case turn=>
  intro i y m' H' I e;refine aU I λjo l=>?_;subst jo;refine ao (zh e) λz e1 aP=>?_;subst aP;refine Ex.sub l.both (Ex.cons (Ex.assign (c9 rfl) ?_));with_reducible refine Ev.uB PySem.F.slot_dict_get ahd PySem.F.type_dict_get (aN (v:=.ae (.aO n)) ?hv ⟨?hm,aM.cons (aN (v:=.str z) ?h1 (aM.cons (aN (v:=.str ((ns.take i).foldl jr (S "in body"))) ?h2 (aM.nil (Call.get (es:=zg) ?hg ?_)))))⟩) ?h0
  case h0=>rfl
  case hv=>rfl
  case h1=>rfl
  case h2=>rfl
  case hm=>exact .map (AH.bY ..)
  case hg=>exact AH.bY ..
  rw[acq,<-acr e1];exact Ex.nil ⟨rfl,.of (aG rfl (aG rfl cH))⟩
 case done=>
  intro m' H' I;refine aU I λjo l=>?_;subst jo;rw[afA,List.take_length]at l;refine Ex.nil (Ex.sub l ?_);refine Ex.bG (s':=?s3) ?e3 ?_;case e3=>conv=>lhs;whnf
  with_reducible refine Ex.cons (Ex.ret (aN (v:=.str (dH ns)) ?hv ?_))
  case hv=>rfl
  exact⟨_,sa,q _⟩
end
section
variable{b:B}{x:LX}{s:LS}{n:Nat}{Q:U->AH->Prop}
theorem MC(cC:dh s=true)(q:Q (bO (bq s)) (hp b (lG x s) n)):ba 1 (.ref 957) [.ae .cw] (hp b (lG x s) n) Q:=by
 refine adb.go (d:=0) (m:=[(S "state",.ae .cw)]) (body:=[aB My.body 0]) rfl rfl rfl ?_;refine Ex.bG (s':=?s0) ?e0 ?_;case e0=>conv=>lhs;whnf
 with_reducible refine Ex.cons (Ex.ret ?_)
 refine Ev.uV (cs:=pR [(S "node",.local)]) rfl (.aO n) (λ_=>true) DF (Ev.sub (aN (v:=.ae .cw) rfl (Ev.str ⟨⟨_,.map o9,uu⟩,Op.uw (y:=.ae (.path (s.pk+1))) o9 rfl ⟨s.path.map (cS s),⟨.list nL,L.lO,?len,?no,?ok⟩,?_⟩⟩))) ?f1 ?f2 ?f3
 case f1=>rfl
 case f2=>rfl
 case f3=>rfl
 case len=>rw[afA];exact ads (v7 cC) (by decide)
 case no=>
  intro y hy _;refine ao (af7.mp hy) λi hi aP=>?_;subst aP;refine aI (DG cC i hi) λz hz=>?_;rw[u3 hz];exact .str _
 case ok=>
  intro Lp y hy acc;refine ao (af7.mp hy) λi hi aP=>?_;subst aP;refine aI (DG cC i hi) λz hz=>?_;rw[u3 hz];exact⟨rfl,λ_=>aN (v:=.str z.name) rfl ⟨rfl,rfl⟩⟩
 rw[acu cC];exact⟨_,.refl _,q⟩
end
def MD(f:aV)(x:Str):Bool:=nR f.cs&&(!(x==("__debug__":Str))&&f.cs.names.lookup x==some .cell)
theorem oA(h:MD f x=true):fh f x .cell:=⟨xY (hB h),.of (afI.mp (gH (gH h))),by have h:=hB (gH h);rw[afY]at h;exact h⟩
section
variable{b:B}{G:AH}{n:Nat}{Q:U->AH->Prop}
theorem adh(hz:aC ns.length=true)(q:∀n,Q (.aJ [.int (cJ ns),bO (cR ns)]) (hp b G n)):ba 2 (.ref 945) [bO ns] (hp b G n) Q:=by
 have eY:=eG hz;refine Call.S7 (names:=[S "names"]) (body:=?b) (scope:=?s) [(S "names",bO ns)] (S "parts") (S "place") (.aO n) (.aO (n+1)) (ho:=Rm) (hc:=Rl) (hv:=rfl) (hi:=by kernel_rfl) (hq:=by kernel_rfl) (hbind:=all1 λa=>?hb) (eb:=?eb) (es:=?es) (hloc:=z5 (.of (by kernel_rfl)) zZ) (fN:=?cs) (hx:=OM rfl) (iB:=rfl) (xD:=L.lO) (xE:=agt n) (hne:=Ne.symm DH) (h:=?h) (hs:=?hs)
 case eb=>conv=>lhs;whnf
 case es=>conv=>lhs;whnf
 case cs=>intro L;kernel_rfl
 case hs=>rfl
 case hb=>rfl
 show bR _ _ _ (l7 (hp b G n) n none none) _ _;with_reducible refine Ex.cons (Ex.w2 (l:=.aO n) ?hc (oA ?hx) (aN (v:=.aJ (iH.map .str)) ?hv ⟨⟨_,DI⟩,?_⟩))
 case hc=>rfl
 case hx=>rfl
 case hv=>rfl
 rw[acw];with_reducible refine Ex.cons (Ex.w2 (l:=.aO (n+1)) ?hc (oA ?hx) (aN (v:=.int (-1)) ?hv ⟨⟨_,v8⟩,?_⟩))
 case hc=>rfl
 case hx=>rfl
 case hv=>rfl
 rw[L5];with_reducible refine Ex.cons (Ex.Ah 0 ns.length 1 ns.length (λi m' H'=>H'=l7 (hp b G n) n (some (.aJ (iH.map .str))) (some (.int (ie (ns.take i) 0 (-1))))/\b8 [(S "names",bO ns)] m') xi (c9 ?hx) (dF ?hy) (aM.cons (Ev.uj uM (dF ?hz) (aM.cons (aN (v:=bO ns) ?hv (aM.nil (Call.len (xs:=ns.map .str) (.az _) ?hl (aM.nil ⟨?ra,rfl,?l0⟩))))))) ?turn ?done)
 case hx=>rfl
 case hy=>rfl
 case hz=>rfl
 case hv=>rfl
 case hl=>rw[afA];exact ads eY (by decide)
 case ra=>rw[afA];exact .up (n:=(ns.length:Int)) (by exact afZ _) (by lia)
 case l0=>exact .of (aG rfl cH)
 case turn=>
  intro i m' H' I hi;refine aU I λjo l=>?_;subst jo;have e1:ns[i]?=some ns[i]:=afH hi;have pt:=acy e1;rw[Int.mul_one,Int.zero_add];refine Ex.sub l.both ?_;with_reducible refine Ex.cons (Ex.ite (Ts.dt (Ev.sub (aN (v:=bO ns) ?hv (aN (v:=.int (i:Int)) ?hw ⟨qo,Op.item (xs:=ns.map .str) (y:=.str ns[i]) (i:=i) (.az _) ?hm ?hy (Ev.str (Op.wV (Tr.bool ?_)))⟩)))))
  case hv=>rfl
  case hw=>rfl
  case hm=>exact bt (ads ‹_› ‹_›)
  case hy=>rw[afX,e1];rfl
  cases c:(ns[i]==S "table")
  ·rw[c]at pt;exact kT rfl (Ex.nil (Ex.nil ⟨by rw[pt];rfl,.of (aG rfl cH)⟩))
  ·rw[c]at pt;refine qB rfl ?_;with_reducible refine Ex.cons (Ex.w2 (l:=.aO (n+1)) ?hc (oA ?hx) (aN (v:=.int (i:Int)) ?hv ⟨⟨_,v8⟩,?_⟩))
   case hc=>rfl
   case hx=>rfl
   case hv=>rfl
   rw[L5];exact Ex.nil (Ex.nil ⟨by rw[pt];rfl,.of (aG rfl cH)⟩)
 case done=>
  intro m' H' I;refine aU I λjo l=>?_;subst jo;rw[List.take_length];have hb:=DJ ns;refine Ex.nil (Ex.sub l ?_);show bR _ _ _ (l7 (hp b G n) n (some (.aJ (iH.map .str))) (some (.int (cJ ns)))) _ _;with_reducible refine Ex.cons (Ex.ret (Ev.tuple (aM.cons (Ev.cell (l:=.aO (n+1)) ?hc (.inl (oA ?hx)) v8 (aM.cons ?_)))))
  case hc=>rfl
  case hx=>rfl
  refine Ev.uV (cs:=pR [(S "name",.local),(S "parts",.cell),(S "place",.cell)]) rfl (.aO (n+2)) (v9 (cJ ns)) id (Ev.Ft (aN (v:=bO ns) rfl ?_)) ?f1 ?f2 ?f3;case f1=>rfl
  case f2=>rfl
  case f3=>rfl
  with_reducible refine Ev.rU (Ev.cell (l:=.aO (n+1)) ?hc (.inl (oA ?hx)) v8 (aN (v:=.int 1) ?hv (Op.add ?_)))
  case hc=>rfl
  case hx=>rfl
  case hv=>rfl
  refine⟨ns.map .str,(cJ ns+1).toNat,.az _,by rw[agq (by lia)],by rw[afA];lia,by rw[afA];exact ads eY (by decide),(ns.map .str).drop (cJ ns+1).toNat,⟨.az _,acx (agH n 2) (afD _),?len,?no,?ok⟩,?_⟩
  case len=>rw[ahl,afA];exact bt (ads (Nat.sub_le _ _) eY)
  case no=>
   intro y hy _;refine ao (af7.mp (agK hy)) λz hz aP=>?_;subst aP;exact .str _
  case ok=>
   intro Lp y hy acc;refine ao (af7.mp (agK hy)) λz hz aP=>?_;subst aP;refine⟨?_,λ_=>aN (v:=.str z) rfl ⟨rfl,rfl⟩⟩;show eS _ _ _ _ _ _;with_reducible refine Ts.and (Ts.dt (Ev.cell (l:=.aO (n+1)) (v:=.int (cJ ns)) ?hc (.inl (oA ?hx)) ?hg (aN (v:=.int 0) ?hv (Op.E8 (Tr.bool ?_)))))
   case hc=>rfl
   case hx=>rfl
   case hv=>rfl
   case hg=>exact(AH.bZ _ _ (by intro e;injection e with e;exact nomatch e)).trans v8
   cases c:decide (0<=cJ ns)
   ·exact kT rfl ⟨by unfold v9;rw[c];rfl,rfl⟩
   ·refine qB rfl ?_;with_reducible refine Ts.and (Ts.dt (aN (v:=.str z) ?hv (Ev.cell (l:=.aO n) (v:=.aJ (iH.map .str)) ?hc (.inl (oA ?hx)) ?hg (Op.FY (Tr.bool ?_)))))
    case hc=>rfl
    case hx=>rfl
    case hv=>rfl
    case hg=>exact(AH.bZ _ _ (by intro e;injection e with e;exact nomatch e)).trans DI
    cases c2:aw iH z
    ·exact kT rfl ⟨by unfold v9;rw[c];exact c2.symm,rfl⟩
    ·exact qB rfl (Ts.E4 ⟨by unfold v9;rw[c];exact c2.symm,rfl⟩)
  have e3:(((ns.map U.str).drop (cJ ns+1).toNat).filter (v9 (cJ ns))).map id=(cR ns).map .str:=by rw[List.map_id,<-ahs];exact acz ns
  rw[e3];exact aM.nil ⟨afG rfl,_,acv,q _⟩
end
abbrev DW:bg:=bh (H.aD 96) "_law_put" 964 963 [S "kids",S "at",S "sign"] []
theorem adi:au 964 DW:=au.o3
section
variable(s:LS)(i:Nat)(a:Int)(t:Str)
def DX:Option LS:=(dK s i).bind λ_=>(dK s i).bind λy=>if aC y.af.length=true/\valid s=true/\0<=a/\a<=(y.af.length:Int)then some {s with aa:=(s.aa.set i {y with af:=y.af.take a.toNat++(s.aa.length:Int)::y.af.drop a.toNat})++[⟨true,S "",[],t,[]⟩]}else none
def adj:Option LS:=(dK s i).bind λn=>(cy n.af (a-1)).bind λc=>(jq s c).bind λu=>if u.tx then(if u.text.length+t.length<=1000000 then(dK s i).bind λn=>(cy n.af (a-1)).bind λc=>(jq s c).bind λu'=>if u'.tx then(if aC n.af.length=true/\valid s=true/\nK s i (a-1) c=true then some (s.cq c.toNat {u' with text:=u.text++t})else none)else none else none)else none
def ME:Option LS:=if decide (0<a) then(dK s i).bind λn=>(cy n.af (a-1)).bind λc=>(jq s c).bind λu=>if u.tx then adj s i a t else DX s i a t else DX s i a t
theorem adk:(ms (DL LS b xt bb []) 60).L 0 DW.cD [(S "sign",.str t),(S "at",.int a),(S "kids",.ae (.bM i))] DW.body s true jx=ME s i a t:=by kernel_rfl
end
theorem adl{i:Nat}(h:gw s (i:Int) a t=some r):ME s i a t=some r:=bE h λy hy h=>by refine ao (wd hy) λk e hj=>?_;obtain rfl:i=k:=Int.ofNat.inj e;have fk:(if aC y.af.length=true/\valid s=true/\0<=a/\a<=(y.af.length:Int)then some {s with aa:=(s.aa.set i {y with af:=y.af.take a.toNat++(s.aa.length:Int)::y.af.drop a.toNat})++[(⟨true,S "",[],t,[]⟩:LN)]}else none)=some r->DX s i a t=some r:=λh=>b6 hj (b6 hj h);refine iE h (λc h=>(if_pos c).trans (bE h λk hk h=>bE h λu hu h=>b6 hj (b6 hk (b6 hu ?_)))) λc h=>(if_neg (by rw[c];decide)).trans (fk h);exact iE h (λht h=>cF h λho h=>(if_pos ht).trans (b6 hj (b6 hk (b6 hu ((if_pos ht).trans ((if_pos ho.2.2.2).trans (b6 hj (b6 hk (b6 hu ((if_pos ht).trans ((if_pos ⟨ho.1,ho.2.1,ho.2.2.1⟩).trans h))))))))))) λht h=>(if_neg (by rw[ht];decide)).trans (fk h)
theorem adm{xt:LX}{n i:Nat}(h:gw s (i:Int) a t=some s')(q:∀n,Q .none (hp b (lG xt s') n)):ba 1 (.ref 964) [.ae (.bM i),.int a,.str t] (hp b (lG xt s) n) Q:=
 run (D:=DL LS b xt bb []) (xs:=[.ae (.bM i),.int a,.str t]) (d:=0) (z:=s) (tf:=true) (ht:=λ_ _ _=>rfl) (fin:=jx) (r:=s') (jF cH) adi (h:=(adk s i a t).trans (adl h)) (q:=λfl m z' n' e=>cE e λe1 e2=>by obtain rfl:=ack e2;rw[BU e1];exact q n') (n:=n) (hl:=by kernel_rfl)
def jG(s:LS):Option (List Str):=if dh s then some (bq s)else none
def oD(ns:List Str):Option (Int×List Str):=if aC ns.length then some (cJ ns,cR ns)else none
def pW(ps:List Str):Option Bool:=if aC ps.length then some (fB ps)else none
abbrev adn:Lf LS Unit:=fs bO λ_ s=>jG s
abbrev ado:Lf LS (List Str×Unit):=fs (λp:Int×List Str=>.aJ [.int p.1,bO p.2]) λa _=>oD a.1
abbrev adp:Lf LS (List Str×Unit):=fs .bool λa _=>pW a.1
abbrev adq:Lf LS (List Str×Unit):=fs .str λa _=>some (dH a.1)
abbrev adt:Lf LS (Str×Unit):=fs .bool λa _=>some (ib a.1)
abbrev MF{β:Type}(r:Ps β):Ps (Nat×β):=nS oy (λi=>.ae (.bM i)) (λ_ _=>oz) r
abbrev DY:Lf LS (Nat×Int×Str×Unit):=cB λa s=>zl s a.1 a.2.1 a.2.2.1
def j9(ρ:Type)(c:Tl LS ρ):List (Addr×cA LS ρ):=(957,aZ c 4 1 ar adn)::(945,mH c 2 (rG ar) ado)::(952,mH c 1 (rG ar) adp)::(940,mH c 2 (rG ar) adq)::(933,mH c 1 (bN ar) adt)::(964,mH c 1 (MF (dm (bN ar))) DY)::[]
section
variable{b:B}{xt:LX}
theorem adu:bw (λs n=>hp b (lG xt s) n) 1 964 (MF (dm (bN ar))).enc DY:=λa s r h Q q n=>by delta DY cB at h;dsimp only at h;exact bE h λ_ _ h=>adm (b:=b) (xt:=xt) (s:=s) (i:=a.1) (Q:=Q) h q
theorem tQ{ρ:Type}{c:Tl LS ρ}{tb:List (Addr×cA LS ρ)}{r:ρ}:∀e,e∈j9 ρ c->cU (DL ρ b xt c tb) r e.1 e.2:=
 aG (bx (λa s r h Q q n=>cF h λcC h=>by obtain rfl:=ack h;exact MC cC (q n)) rfl)
  (aG (nT (λa s r h Q q n=>cF h λcC h=>by obtain rfl:=ack h;exact adh cC q) rfl)
  (aG (nT (λa s r h Q q n=>cF h λcC h=>by obtain rfl:=ack h;exact adg cC q) rfl)
  (aG (nT (λa s r h Q q n=>by obtain rfl:=ack h;exact MB q) rfl)
  (aG (nT (λa s r h Q q n=>by obtain rfl:=ack h;exact MA (q n)) rfl)
  (aG (nT adu rfl) cH)))))
end
abbrev DZ:bg:=bh (H.aD 98) "_law_leave" 978 977 [S "state",S "keep"] []
theorem adv:au 978 DZ:=au.o2
abbrev P1(ss:List Str):Option (List Str×Unit):=(rG ar).p [bO ss]
theorem tR(ss:List Str):P1 ss=some (ss,()):=by show((d0 (bO ss)).bind λa=>some (a,()))=_;rw[tO];rfl
def wi(s:LS)(i:Int):Option LS:=if aC s.path.length=true/\0<=i then some {s with path:=s.path.take i.toNat,pk:=s.pk+1}else none
def MG(s:LS)(i:Int):Option LS:=(jG s).bind λns=>(P1 ns).bind λq=>(oD q.1).bind λp=>(P1 p.2).bind λq2=>(pW q2.1).bind λc=>
 if c then(d0 (bO p.2)).bind λss=>if aC ss.length then
  cond (decide (0<=p.1+(ss.length:Int))&&(Nat.ble (p.1+(ss.length:Int)).toNat (ns.map U.str).length&&Nat.ble (ns.map U.str).length 1000000)) ((d0 (.az ((ns.map U.str).drop (p.1+(ss.length:Int)).toNat))).bind λs2=>
   if aw s2 (S "a") then(P1 ns).bind λq3=>(dj s (S "open-elements") (dH q3.1)).bind λs1=>wi s1 i else wi s i) none else none
 else wi s i
theorem adw{b:B}{xt:LX}(s:LS)(i:Int):(ms (DL LS b xt bb (j9 LS bb)) 60).L 3 DZ.cD [(S "keep",.int i),(S "state",.ae .cw)] DZ.body s true jx=MG s i:=by kernel_rfl
theorem MH{ns:List Str}(h:fB (cR ns)=true):0<=cJ ns:=by
 by_cases c:0<=cJ ns
 ·exact c
 ·unfold cR at h;rw[if_neg c]at h;exact nomatch h
theorem wj{b:B}{xt:LX}{s':LS}{Q:U->AH->Prop}(q:∀n,Q .none (hp b (lG xt s') n)):∀(fl:Fl) (m:Lo) (z':LS) (n':Nat),jx fl m z'=some s'->Q fl.val (hp b (lG xt z') n'):=λfl m z' n' e=>
 cE e λe1 e2=>by obtain rfl:=ack e2;rw[BU e1];exact q n'
theorem adx(ns:List Str)(k:Nat):d0 (.az ((ns.map U.str).drop k))=some (ns.drop k):=by exact ahs▸tO _
section
variable{s:LS}{ns ps:List Str}
theorem D0(cC:dh s=true){F:List Str->Int×List Str->Option LS}:((jG s).bind λns=>(P1 ns).bind λq=>(oD q.1).bind λp=>F ns p)=F (bq s) (cJ (bq s),cR (bq s)):=by rw[jG,if_pos cC];show(P1 (bq s)).bind _=_;rw[tR];show(oD (bq s)).bind _=_;rw[oD,if_pos (wa cC)];rfl
theorem MI(cC:dh s=true){F:List Str->Option LS}:(jG s).bind F=F (bq s):=by rw[jG,if_pos cC];rfl
theorem zm{F:List Str×Unit->Option LS}:(P1 ns).bind F=F (ns,()):=by rw[tR];rfl
theorem wk(h:aC ps.length=true){F:Bool->Option LS}:((P1 ps).bind λq=>(pW q.1).bind F)=F (fB ps):=by rw[tR];show(pW ps).bind F=_;rw[pW,if_pos h];rfl
theorem tS{F:List Str->Option LS}:(d0 (bO ns)).bind F=F ns:=by rw[tO];rfl
theorem wm(h:aC ps.length=true){F:List Str->Option LS}:((d0 (bO ps)).bind λss=>if aC ss.length then F ss else none)=F ps:=tS.trans (if_pos h)
theorem drS{k:Nat}{F:List Str->Option LS}:(d0 (.az ((ns.map U.str).drop k))).bind F=F (ns.drop k):=by rw[adx];rfl
theorem cT{α:Type}{c:Bool}{A B:α}(h:c=true):cond c A B=A:=by rw[h];rfl
theorem D2(h:aC s.path.length=true)(k:Nat):wi s (k:Int)=some {s with path:=s.path.take k,pk:=s.pk+1}:=by unfold wi;rw[if_pos ⟨h,afZ _⟩,afM]
theorem ady(cC:dh s=true)(c:fB (cR (bq s))=true):(decide (0<=cJ (bq s)+((cR (bq s)).length:Int))&&(Nat.ble (cJ (bq s)+((cR (bq s)).length:Int)).toNat ((bq s).map U.str).length&&Nat.ble ((bq s).map U.str).length 1000000))=true:=by have hp:=acG (bq s) (MH c);have hq:=MH c;have hn:=v7 cC;rw[zi]at hp;rw[afA,zi,afz,afz];exact⟨aga (by lia),Nat.ble_eq.mpr (by lia),Nat.ble_eq.mpr (ads hn (by decide))⟩
end
theorem adz{s s1:LS}{x y:Str}(h:dj s x y=some s1):s1.path=s.path:=cF h λ_ h=>by apply sE h;rfl
theorem adA{s r:LS}{k:Nat}(h:fC s k=some r):MG s (k:Int)=some r:=by
 refine cF h λcC h=>bE h λs1 h1 h=>cF h λhk h=>(D0 cC).trans ((wk (wb cC)).trans ?_);have hl:=dg (v7 cC);cases c:fB (cR (bq s))with
 |false=>
  rw[c]at h1;obtain rfl:=ack (show some s=some s1 from h1);exact(D2 hl k).trans h
 |true=>
  rw[c]at h1;refine(rT rfl).trans ((wm (wb cC)).trans ((cT (ady cC c)).trans (drS.trans ?_)));refine iE h1 (λc1 h1=>(rT c1).trans (zm.trans ?_)) λc1 h1=>(rF c1).trans ?_
  ·exact h1▸(D2 (s:=s1) (adz h1▸hl) k).trans h
  ·obtain rfl:=ack h1;exact(D2 hl k).trans h
section
variable{b:B}{xt:LX}
theorem MJ{s s':LS}{n keep:Nat}{Q:U->AH->Prop}(h:fC s keep=some s')(q:∀n,Q .none (hp b (lG xt s') n)):ba 4 (.ref 978) [.ae .cw,.int (keep:Nat)] (hp b (lG xt s) n) Q:=
 run (D:=DL LS b xt bb (j9 LS bb)) (d:=3) (z:=s) (tf:=true) (ht:=λ_ _ _=>rfl) (fin:=jx) (r:=s') (jF tQ) adv (h:=(adw s keep).trans (adA h)) (q:=wj q) (n:=n) (hl:=by kernel_rfl)
end
abbrev D3:bg:=bh (H.aD 100) "_law_sign" 990 989 [S "state",S "sign"] []
theorem adB:au 990 D3:=au.o2
def wo(s:LS)(i:Nat)(t:Str):Option LS:=(dK s i).bind λy=>if aC y.af.length then(zl s i y.af.length t).bind λs1=>some s1 else none
noncomputable abbrev c2 {α:Type}(c:Bool)(X:Option α):Option α:=cond c (cond c X none) none
def D4(s:LS)(c:Nat)(pl:Int)(ns ps xs:List Str)(t:Str):Option LS:=(d0 (bO ns)).bind λn1=>if aC n1.length then(d0 (bO ps)).bind λn2=>if aC n2.length then
  (if decide (pl+1+(n2.length:Int)<(n1.length:Int)) then(P1 ns).bind λq=>(dj s (S "foster-parented") (dH q.1)).bind λs1=>wo s1 c t
  else if xs==[S "colgroup"] then c2 (Nat.beq (s.pk+1) (s.pk+1)) ((gc s).bind λs1=>c2 (Nat.beq s1.rk s1.rk) (if aC s1.run.length then some {s1 with run:=s1.run++[t]}else none))
  else c2 (Nat.beq s.rk s.rk) (if aC s.run.length then some {s with run:=s.run++[t]}else none))else none else none
def MK(s:LS)(t:Str):Option LS:=(jG s).bind λns=>(P1 ns).bind λq=>(oD q.1).bind λp=>
 (d0 (bO p.2)).bind λxs=>cond (xs.all PyData.strOk&&[S "colgroup"].all PyData.strOk) (cond (Nat.beq (s.pk+1) (s.pk+1)) (s.path.getLast?.bind λc=>(c6 s c).bind λ_=>
  if p.1==-1 then wo s c.toNat t else(P1 p.2).bind λq=>(pW q.1).bind λhb=>if hb then wo s c.toNat t else if xs==[S "colgroup"] then(if ib t then wo s c.toNat t else D4 s c.toNat p.1 ns p.2 xs t)else D4 s c.toNat p.1 ns p.2 xs t) none) none
theorem adC{b:B}{xt:LX}(s:LS)(t:Str):(ms (DL LS b xt bb (j9 LS bb)) 60).L 3 D3.cD [(S "sign",.str t),(S "state",.ae .cw)] D3.body s true jx=MK s t:=by kernel_rfl
theorem rH{α:Type}{n:Nat}{X:Option α}:c2 (Nat.beq n n) X=X:=by rw[agC];rfl
theorem adD{s s1:LS}{x y:Str}(h:dj s x y=some s1):s1.aa=s.aa:=cF h λ_ h=>by apply sE h;rfl
theorem adE{o1 o2:Option LN}{y y0:LN}{G:LN->Option LS}{r:LS}(h1:o1=some y)(h2:o2=some y0)(ho:aC y.af.length=true)(h:G y=some r):(o1.bind λy=>if aC y.af.length then(o2.bind λ_=>G y).bind λs1=>some s1 else none)=some r:=by rw[h1,h2];refine(if_pos ho).trans ?_;show(G y).bind _=_;rw[h];rfl
theorem zo{s r:LS}{k:Nat}{y:LN}{t:Str}(h1:dK s k=some y)(ho:aC y.af.length=true)(h:gw s (k:Int) y.af.length t=some r):wo s k t=some r:=
 adE (G:=λy=>gw s (k:Int) y.af.length t) h1 (kE h1).1 ho h
theorem ML{s r:LS}{k:Nat}{y:LN}{t:Str}(cC:dh s=true)(h1:dK s k=some y)(ho:aC y.af.length=true){c:Bool}(hc:(cR (bq s)==[S "colgroup"])=c)
  (h:(if decide (cJ (bq s)+1+((cR (bq s)).length:Int)<((bq s).length:Int)) then(dj s (S "foster-parented") (dH (bq s))).bind λs1=>gw s1 (k:Int) y.af.length t
   else(if c=true then gc s else some s).bind λs1=>if aC s1.run.length then some {s1 with run:=s1.run++[t]}else none)=some r):D4 s k (cJ (bq s)) (bq s) (cR (bq s)) (cR (bq s)) t=some r:=by
 subst hc;refine(wm (wa cC)).trans ((wm (wb cC)).trans ?_);refine iE h (λc h=>(rT c).trans (zm.trans ?_)) λc h=>(rF c).trans ?_
 ·refine bE h λs1 h2 h=>?_;rw[h2];exact zo (by unfold dK;rw[adD h2];exact h1) ho h
 ·refine bE h λs1 h2 h=>iE h2 (λc h2=>(rT c).trans (rH.trans ?_)) λc h2=>(rF c).trans (rH.trans ?_)
  ·rw[h2];exact rH.trans h
  ·obtain rfl:=ack h2;exact h
theorem adF{s r:LS}{t:Str}(h:mx s t=some r):MK s t=some r:=by
 refine cF h λcC h=>bE h λi hi h=>bE h λy hy h=>cF h λho h=>(D0 cC).trans (tS.trans ((cT ?_).trans ((cT (agC _)).trans ?_)))
 ·rw[Md];decide+kernel
 ·rw[hi];show(c6 s i).bind _=_;rw[hy];refine ao (wd hy) λk bp h1=>?_;subst bp;dsimp only at h;show(if _ then _ else _)=_;cases c1:(cJ (bq s)==-1)with
  |true=>replace h:=c1▸h;exact zo h1 ho h
  |false=>
   rw[c1,ag2]at h;refine(rF rfl).trans ((wk (wb cC)).trans ?_);cases c2:fB (cR (bq s))with
   |true=>rw[c2]at h;exact zo h1 ho h
   |false=>
    rw[c2,ag2]at h;refine(rF rfl).trans ?_;cases c3:(cR (bq s)==[S "colgroup"])with
    |false=>rw[c3]at h;exact ML cC h1 ho c3 h
    |true=>
     rw[c3,agR]at h;refine iE h (λc h=>(rT rfl).trans ((rT c).trans (zo h1 ho h))) λc h=>(rT rfl).trans ((rF c).trans (ML cC h1 ho c3 h))
section
variable{b:B}{xt:LX}
theorem adG{s s':LS}{n:Nat}{t:Str}{Q:U->AH->Prop}(h:mx s t=some s')(q:∀n,Q .none (hp b (lG xt s') n)):ba 4 (.ref 990) [.ae .cw,.str t] (hp b (lG xt s) n) Q:=
 run (D:=DL LS b xt bb (j9 LS bb)) (d:=3) (z:=s) (tf:=true) (ht:=λ_ _ _=>rfl) (fin:=jx) (r:=s') (jF tQ) adB (h:=(adC s t).trans (adF h)) (q:=wj q) (n:=n) (hl:=by kernel_rfl)
end
abbrev D5:bg:=bh (H.aD 97) "_law_grow" 971 970 [S "state",S "name",S "attrs"] []
theorem adH:au 971 D5:=au.o3
def D6(s:LS)(j:Nat)(v:U):Option LS:=c2 (Nat.beq (s.pk+1) (s.pk+1)) (cond (pV (cS s (j:Int)) v) (if aC s.path.length then some {s with path:=s.path++[(j:Int)]}else none) none)
def MM(s:LS)(nm:Str)(as:List U)(F:LS->U->Option LS):Option LS:=if aC as.length=true/\valid s=true then F (tN s nm as) (rD s nm as)else none
def MN(s:LS)(nm:Str)(av:U):Option LS:=(tP av).bind λas=>MM s nm as λs1 v=>cond (Nat.beq (s1.pk+1) (s1.pk+1)) (s1.path.getLast?.bind λc=>(c6 s1 c).bind λ_=>(dK s1 c.toNat).bind λ_=>(dK s1 c.toNat).bind λy=>cond (pV (cz s1 (s.aa.length:Nat)) v)
 (if aC y.af.length then D6 (s1.cq c.toNat {y with af:=y.af++[((s.aa.length:Nat):Int)]}) s.aa.length v else none) none) none
theorem adI(s:LS)(nm:Str)(av:U):(ms (DL LS b xt bb (j9 LS bb)) 60).L 0 D5.cD [(S "attrs",av),(S "name",.str nm),(S "state",.ae .cw)] D5.body s true jx=MN s nm av:=by kernel_rfl
theorem pX(h:dK s k=some y):dK (tN s nm as) k=some y/\(tN s nm as).aa[s.aa.length]?=some ⟨false,nm,as,S "",[]⟩/\k<s.aa.length:=by refine aU (kE h) λh1 h2=>?_;refine aI (afB.mp h1) λaY _=>?_;refine⟨?_,List.getElem?_concat_length,aY⟩;unfold dK;rw[show(tN s nm as).aa[k]?=s.aa[k]? from agb aY,h1];exact if_neg (by rw[h2];decide)
theorem adJ{c1 c2 c3 c4 c5:Prop}[Decidable (c1/\c2/\c3/\c4/\c5)]{r:LS}{P:Prop}(h:(if c1/\c2/\c3/\c4/\c5 then A else none)=some r)(g:c1->c2->c3->c4->c5->A=some r->P):P:=cF h λ⟨a,b,c,d,e⟩ h=>g a b c d e h
theorem MO{s r:LS}{nm:Str}(h0:dK s k=some y)(h:ki s (k:Int) a nm as=some r)(h1:c6 s (k:Int)=some y):
  (aC as.length=true/\valid s=true)/\aC y.af.length=true/\a<=y.af.length/\D6 ((tN s nm as).cq k {y with af:=y.af.take a++((s.aa.length:Nat):Int)::y.af.drop a}) s.aa.length (rD s nm as)=some r:=by
 refine bE h λy' e h=>?_;obtain rfl:y'=y:=ack (e.symm.trans h1);refine adJ h λc1 c2 c3 c4 c5 h=>⟨⟨c4,c2⟩,c1,c5,rH.trans ((cT (DO (acD ?_))).trans ((if_pos c3).trans ?_))⟩
 ·exact(List.getElem?_set_ne (agg (pX (nm:=nm) (as:=as) h0).2.2)).trans (pX h0).2.1
 ·rw[<-h];exact afE (λns=>some (LS.mk ns (s.path++[(s.aa.length:Int)]) s.run s.aK s.pk s.rk s.old)) (List.set_append_left _ _ (pX (nm:=nm) (as:=as) h0).2.2)
theorem adK(hv:tP av=some as)(h:fT s nm as=some r):MN s nm av=some r:=by refine bE h λi hi h=>bE h λy hy h=>?_;refine ao (wd hy) λk bp h0=>?_;subst bp;refine fu (MO h0 h hy) λc1 c2 _ h=>?_;refine b6 hv ((if_pos c1).trans ((cT (agC _)).trans (b6 hi (b6 (Ma hy) ?_))));refine b6 (pX h0).1 (b6 (pX h0).1 ((cT (DO Mb)).trans ((if_pos c2).trans ?_)));rw[agX (afD _),List.drop_of_length_le (afD _)]at h;exact h
section
variable{b:B}{xt:LX}
theorem adL(hv:tP av=some as)(h:fT s nm as=some s')(q:∀n,Q .none (hp b (lG xt s') n)):ba 1 (.ref 971) [.ae .cw,.str nm,av] (hp b (lG xt s) n) Q:=
 run (D:=DL LS b xt bb (j9 LS bb)) (xs:=[.ae .cw,.str nm,av]) (d:=0) (z:=s) (tf:=true) (ht:=λ_ _ _=>rfl) (fin:=jx) (r:=s') (jF tQ) adH (h:=(adI s nm av).trans (adK hv h)) (q:=wj q) (n:=n) (hl:=by kernel_rfl)
end
abbrev psX(r:Ps β):Ps (U×β):=nS some id (λ_ _ e=>ack e) r
abbrev adM:Lf LS (Str×U×Unit):=cB λa s=>(tP a.2.1).bind λas=>fT s a.1 as
def wq(ρ:Type)(c:Tl LS ρ):List (Addr×cA LS ρ):=(971,aZ c 4 1 (bN (psX ar)) adM)::j9 ρ c
theorem D7:∀e,e∈wq ρ c->cU (DL ρ b xt c tb) r e.1 e.2:=
 aG (bx (λa s r h Q q n=>bE h λas hv h=>adL hv h q) rfl) (tQ)
abbrev D8:bg:=bh (H.aD 102) "_law_other" 1002 1001 [S "state",S "token",S "place",S "parts"] []
theorem adN:au 1002 D8:=au.of rfl (λS=>uK λx y z u=>rfl) (λ_ _ _ _=>.nil) rfl rfl
noncomputable abbrev gL (k n:Str)(as:List U)(f:Bool)(tl:List U):aS:=⟨k,n,.aJ as::.bool f::tl⟩
def MP(s:LS):Option LS:=c2 (Nat.beq (s.pk+1) (s.pk+1)) ((gc s).bind λs1=>some s1)
def MQ(s:LS)(nm:Str)(as:List U)(pl:Int):Option LS:=MM s nm as λs1 v=>cond (Nat.beq (s1.pk+1) (s1.pk+1)) ((cy s1.path (pl-1)).bind λc=>(c6 s1 c).bind λ_=>(dK s1 c.toNat).bind λ_=>(dK s1 c.toNat).bind λy1=>if aC y1.af.length then(dK s1 c.toNat).bind λy=>cond (pV (cz s1 (s.aa.length:Nat)) v)
 (if aC y.af.length=true/\0<=(y1.af.length:Int)-1/\(y1.af.length:Int)-1<=(y.af.length:Int)then D6 (s1.cq c.toNat {y with af:=y.af.take ((y1.af.length:Int)-1).toNat++((s.aa.length:Nat):Int)::y.af.drop ((y1.af.length:Int)-1).toNat}) s.aa.length v else none) none else none) none
section
variable(k nm:Str)(as:List U)(f:Bool)(ns ps:List Str)(pl:Int)(mode:Str)
def zq(s:LS)(o:Bool):Option LS:=if k==S "end" then(d0 (bO ns)).bind λss=>ss.getLast?.bind λa=>if a==nm then MP s else some s
 else if aw [S "a",S "p",S "table"] nm then(if o then(d0 (bO ns)).bind λn1=>if aC n1.length then(d0 (bO ps)).bind λn2=>if aC n2.length then(if((n1.length:Int)==pl+1+(n2.length:Int)) then MQ s nm as pl else fT s nm as)else none else none else fT s nm as)
 else if f then(dj s (S "non-void-html-element-start-tag-with-trailing-solidus") mode).bind λs1=>some s1 else some s
def D9(s:LS)(o:Bool):Option LS:=if o then(dj s (S "foster-parented") mode).bind λs1=>zq k nm as f ns ps pl mode s1 o else zq k nm as f ns ps pl mode s o
end
def MR(s:LS)(k nm:Str)(as:List U)(f:Bool)(pl:Int)(ps:List Str):Option LS:=(jG s).bind λns=>(P1 ns).bind λq=>if decide (0<=pl) then(P1 ps).bind λq2=>(pW q2.1).bind λc=>D9 k nm as f ns ps pl (dH q.1) s (!c)else D9 k nm as f ns ps pl (dH q.1) s (decide (0<=pl))
theorem adO(s:LS)(k nm:Str)(as:List U)(f:Bool)(tl:List U)(pl:Int)(ps:List Str):(ms (DL LS b xt bb (wq LS bb)) 60).L 2 D8.cD [(S "parts",bO ps),(S "place",.int pl),(S "token",b7 (gL k nm as f tl)),(S "state",.ae .cw)] D8.body s true jx=MR s k nm as f pl ps:=by kernel_rfl
theorem Ea(h:o=some r):(o.bind λs1=>some s1)=some r:=by rw[h];rfl
theorem adP(h:gc s=some r):MP s=some r:=rH.trans (Ea h)
theorem adQ(h:((cy s.path (pl-1)).bind λh=>(c6 s h).bind λy=>if 0<y.af.length then ki s h (y.af.length-1) nm as else none)=some r):MQ s nm as pl=some r:=
 bE h λi hi h=>bE h λy hy h=>cF h λhl h=>by
  refine ao (wd hy) λk bp h0=>?_;subst bp;refine fu (MO h0 h hy) λc1 c2 c3 h=>?_;have e:((y.af.length:Int)-1)=((y.af.length-1:Nat):Int):=by lia
  refine(if_pos c1).trans ((cT (agC _)).trans (b6 hi (b6 (Ma hy) (b6 (pX h0).1 (b6 (pX h0).1 ((if_pos c2).trans (b6 (pX h0).1 ((cT (DO Mb)).trans ((if_pos ⟨c2,by lia,by lia⟩).trans ?_)))))))));exact e▸h
theorem MS(hn:aC ns.length=true)(hz:aC ps.length=true)(h:(if k==S "end" then(match ns.getLast? with|some x=>if x==nm then gc s else some s|none=>none)
  else if aw [S "a",S "p",S "table"] nm then
   (if(o&&((ns.length:Int)==pl+1+(ps.length:Int))) then(cy s.path (pl-1)).bind λh=>(c6 s h).bind λy=>if 0<y.af.length then ki s h (y.af.length-1) nm as else none
    else fT s nm as)
  else if f=true then dj s (S "non-void-html-element-start-tag-with-trailing-solidus") mode else some s)=some r):zq k nm as f ns ps pl mode s o=some r:=by
 refine iE h (λc h=>(rT c).trans (tS.trans ?_)) λc h=>(rF c).trans (iE h (λc h=>(rT c).trans ?_) λc h=>(rF c).trans (iE h (λc h=>(rT c).trans (Ea h)) λc h=>(rF c).trans h))
 ·cases hl:ns.getLast? with
  |none=>exact ag (hl▸h)
  |some x=>
   rw[hl]at h;exact iE h (λc h=>(rT c).trans (adP h)) λc h=>(rF c).trans h
 ·induction o with
  |false=>exact(rF rfl).trans h
  |true=>exact(rT rfl).trans ((wm hn).trans ((wm hz).trans (iE h (λc h=>(rT c).trans (adQ h)) λc h=>(rF c).trans h)))
theorem adR(h:kY s (gL k nm as f tl) pl ps=some r):MR s k nm as f pl ps=some r:=
 cF h λcC h=>bE h λs1 h1 h=>(MI cC.1).trans (zm.trans (by
  have X:∀{o s1},(if o=true then dj s (S "foster-parented") (dH (bq s))else some s)=some s1->zq k nm as f (bq s) ps pl (dH (bq s)) s1 o=some r->D9 k nm as f (bq s) ps pl (dH (bq s)) s o=some r:=λh1 h2=>
   iE h1 (λc h1=>(rT c).trans (b6 h1 h2)) λc h1=>(rF c).trans (by obtain rfl:=ack h1;exact h2)
  cases c:decide (0<=pl)with
  |true=>
   rw[c,agR]at h1 h;exact(rT rfl).trans ((wk cC.2).trans (X h1 (MS (wa cC.1) cC.2 h)))
  |false=>
   rw[c,Bool.false_and]at h1 h;exact(rF (by decide)).trans (X h1 (MS (wa cC.1) cC.2 h))))
section
variable{b:B}{xt:LX}
theorem adS(h:kY s (gL k nm as f tl) pl ps=some s')(q:∀n,Q .none (hp b (lG xt s') n)):ba 3 (.ref 1002) [.ae .cw,b7 (gL k nm as f tl),.int pl,bO ps] (hp b (lG xt s) n) Q:=
 run (D:=DL LS b xt bb (wq LS bb)) (xs:=[.ae .cw,b7 (gL k nm as f tl),.int pl,bO ps]) (d:=2) (z:=s) (tf:=true) (ht:=λ_ _ _=>rfl) (fin:=jx) (r:=s') (jF D7) adN (h:=(adO s k nm as f tl pl ps).trans (adR h)) (q:=wj q) (n:=n) (hl:=by kernel_rfl)
end
def zr(l:List U):Option (List U×Bool×List U):=(un l).bind λp=>(iZ p.1).bind λas=>(un p.2).bind λp2=>(kr p2.1).bind λf=>some (as,f,p2.2)
theorem MT(h:zr l=some q):l=.aJ q.1::.bool q.2.1::q.2.2:=
 bE h λp h1 h=>bE h λas h2 h=>bE h λp2 h3 h=>bE h λf h4 h=>sE (X:=λq:List U×Bool×List U=>l=.aJ q.1::.bool q.2.1::q.2.2) h (by rw[lV h1,lh h2,lV h3,iK h4])
abbrev adT:Lf LS (aS×Int×List Str×Unit):=cB λa s=>(zr a.1.rest).bind λ_=>kY s a.1 a.2.1 a.2.2.1
abbrev MU:Lf LS (Int×Unit):=cB λa s=>cond (decide (0<=a.1)) (fC s a.1.toNat) none
abbrev adU:Lf LS (Str×List U×Int×List Str×Unit):=cB λa s=>lR s a.1 a.2.1 a.2.2.1 a.2.2.2.1
abbrev Ec:Ps (aS×Int×List Str×Unit):=bF (dm (rG ar))
abbrev Ed:Ps (Str×List U×Int×List Str×Unit):=bN (ku (dm (rG ar)))
def zu(ρ:Type)(c:Tl LS ρ):List (Addr×cA LS ρ):=(1002,aZ c 4 3 Ec adT)::(978,aZ c 4 4 (dm ar) MU)::(995,aZ c 4 5 Ed adU)::wq ρ c
abbrev kF:bg:=bh (H.aD 103) "_law_tag" 1009 1008 [S "state",S "token"] []
theorem adV:au 1009 kF:=au.o2
def wu(s:LS)(i:Int):Option LS:=cond (decide (0<=i)) (fC s i.toNat) none
section
variable(k nm:Str)(as:List U)(f:Bool)(tl:List U)(pl:Int)
def zw(s:LS)(ps:List Str)(mode:Str):Option LS:=if (k==S "start")&&(nm==S "table") then(dj s (S "unexpected-start-tag") mode).bind λs2=>(wu s2 pl).bind λs3=>fT s3 nm as
 else if k==S "start" then(Ed.p [.str nm,.aJ as,.int pl,bO ps]).bind λa=>lR s a.1 a.2.1 a.2.2.1 a.2.2.2.1
 else if nm==S "table" then wu s pl
 else(d0 (bO ps)).bind λss=>if aw ss nm then(d0 (bO ps)).bind λss=>if aC ss.length=true/\aw ss nm=true then wu s (pl+1+(ss.idxOf nm:Nat))else none
 else(dj s (S "unexpected-end-tag") mode).bind λs1=>some s1
def zy(s:LS)(ps:List Str):Option LS:=(Ec.p [b7 (gL k nm as f tl),.int pl,bO ps]).bind λa=>(zr a.1.rest).bind λ_=>kY s a.1 a.2.1 a.2.2.1
def tT(s:LS)(ps:List Str):Option LS:=(jG s).bind λns=>(P1 ns).bind λq=>
 if pl==-1 then zy k nm as f tl pl s ps else if aw [S "a",S "p"] nm then zy k nm as f tl pl s ps else if k==S "start" then(if nm==S "table" then(P1 ps).bind λq2=>(pW q2.1).bind λc=>if c then zy k nm as f tl pl s ps else zw k nm as pl s ps (dH q.1)else zw k nm as pl s ps (dH q.1))else zw k nm as pl s ps (dH q.1)
end
def MV(s:LS)(k nm:Str)(as:List U)(f:Bool)(tl:List U):Option LS:=(jG s).bind λns=>(P1 ns).bind λq=>(oD q.1).bind λp=>(d0 (bO p.2)).bind λxs=>cond (xs.all PyData.strOk&&[S "colgroup"].all PyData.strOk)
 (if xs==[S "colgroup"] then(if !(nm==S "col") then cond ((PyData.strOk k&&PyData.strOk nm)&&(PyData.strOk (S "end")&&PyData.strOk (S "colgroup"))) (if !(k==S "end"&&nm==S "colgroup") then c2 (Nat.beq (s.pk+1) (s.pk+1)) ((gc s).bind λs1=>tT k nm as f tl p.1 s1 [])else tT k nm as f tl p.1 s p.2) none else tT k nm as f tl p.1 s p.2)else tT k nm as f tl p.1 s p.2) none
def Ee(v:U):Option (U×U):=(iZ v).bind λt=>(un t).bind λa=>(un a.2).bind λb=>cond (gf b.2) (some (a.1,b.1)) none
theorem adW(h:Ee v=some p):v=.aJ [p.1,p.2]:=bE h λt h1 h=>bE h λa h2 h=>bE h λb h3 h=>cE h λh4 h=>sE (X:=λp:U×U=>v=.aJ [p.1,p.2]) h (by rw[lh h1,lV h2,BW h3 h4])
noncomputable def MW:List Stmt->Expr
 |.Assign _ e _::_=>e
 |_=>.Tuple [] 0 default
noncomputable def Ef:List Stmt->Expr
 |.Assign [t] _ _::_=>t
 |_=>.Tuple [] 0 default
noncomputable def Eg:Expr->List Expr×Nat×Pos
 |.Tuple es k p=>(es,k,p)
 |_=>([],0,default)
noncomputable def adX:List Stmt->Pos
 |.Assign _ _ p::_=>p
 |_=>default
theorem adY(s:LS)(k nm:Str)(as:List U)(f:Bool)(tl:List U):((ms (DL LS b xt bb (zu LS bb)) 60).E 5 kF.cD [(S "token",b7 (gL k nm as f tl)),(S "state",.ae .cw)] (MW kF.body) s λv z=>(Ee v).bind λp=>(ms (DL LS b xt bb (zu LS bb)) 60).L 5 kF.cD [(S "kind",p.1),(S "name",p.2),(S "token",b7 (gL k nm as f tl)),(S "state",.ae .cw)] kF.body.tail z true jx)=MV s k nm as f tl:=by kernel_rfl
theorem MX{g:List Str×Unit->α}:((P1 ps).bind λb=>some (g b))=some (g (ps,())):=by rw[tR];rfl
theorem adZ{f:Bool}:Ec.p [b7 (gL k nm as f tl),.int pl,bO ps]=some (gL k nm as f tl,pl,ps,()):=(afE (λo:Option (Int×List Str×Unit)=>o.bind λb=>some (gL k nm as f tl,b)) MX)
theorem ad0{pl:Int}:Ed.p [.str nm,.aJ as,.int pl,bO ps]=some (nm,as,pl,ps,()):=(afE (λo:Option (Int×List Str×Unit)=>(o.bind λb=>some (as,b)).bind λb=>some (nm,b)) MX)
theorem zA(hi:0<=i)(h:fC s i.toNat=some r):wu s i=some r:=(cT (aga hi)).trans h
theorem Eh(h:kY s (gL k nm as f tl) pl ps=some r):zy k nm as f tl pl s ps=some r:=b6 adZ (b6 (a:=(as,f,tl)) rfl h)
theorem ad1(hp:0<=pl)(hz:aC ps.length=true)
  (h:(if (k==S "start")&&(nm==S "table") then(dj s (S "unexpected-start-tag") mode).bind λs2=>(fC s2 pl.toNat).bind λs3=>fT s3 nm as
  else if k==S "start" then lR s nm as pl ps else if nm==S "table" then fC s pl.toNat
  else if aw ps nm then fC s (pl+1+(ps.idxOf nm:Nat)).toNat else dj s (S "unexpected-end-tag") mode)=some r):zw k nm as pl s ps mode=some r:=
 iE h (λc h=>(rT c).trans (bE h λs2 h2 h=>bE h λs3 h3 h=>b6 h2 (b6 (zA hp h3) h))) λc h=>(rF c).trans (iE h (λc h=>(rT c).trans (b6 ad0 h)) λc h=>(rF c).trans (iE h (λc h=>(rT c).trans (zA hp h)) λc h=>(rF c).trans (tS.trans
  (iE h (λc h=>(rT c).trans (tS.trans ((if_pos ⟨hz,c⟩).trans (zA (by lia) h)))) λc h=>(rF c).trans (Ea h)))))
theorem MY(hp:(pl==-1)=false->0<=pl)(hz:aC ps.length=true)(cC:dh s=true)
  (h:(if(pl==-1||(aw [S "a",S "p"] nm||((k==S "start")&&((nm==S "table")&&fB ps)))) then kY s (gL k nm as f tl) pl ps
  else if (k==S "start")&&(nm==S "table") then(dj s (S "unexpected-start-tag") (dH (bq s))).bind λs2=>(fC s2 pl.toNat).bind λs3=>fT s3 nm as
  else if k==S "start" then lR s nm as pl ps else if nm==S "table" then fC s pl.toNat
  else if aw ps nm then fC s (pl+1+(ps.idxOf nm:Nat)).toNat else dj s (S "unexpected-end-tag") (dH (bq s)))=some r):tT k nm as f tl pl s ps=some r:=by
 refine(MI cC).trans (zm.trans ?_);cases c1:(pl==-1)with
 |true=>replace h:=c1▸h;exact(rT rfl).trans (Eh h)
 |false=>
  rw[c1,ag2]at h;refine(rF rfl).trans ?_;cases c2:aw [S "a",S "p"] nm with
  |true=>rw[c2]at h;exact(rT rfl).trans (Eh h)
  |false=>
   rw[c2,ag2]at h;refine(rF rfl).trans (iE h (λc h=>?_) λc h=>?_)
   ·rw[afz,afz]at c;exact(rT c.1).trans ((rT c.2.1).trans ((wk hz).trans ((rT c.2.2).trans (Eh h))))
   ·have h4:=ad1 (hp c1) hz h;cases c3:(k==S "start")with
    |false=>exact(rF rfl).trans h4
    |true=>
     rw[c3,agR]at c;refine(rT rfl).trans ?_;cases c4:(nm==S "table")with
     |false=>exact(rF rfl).trans h4
     |true=>rw[c4,agR]at c;exact(rT rfl).trans ((wk hz).trans ((rF c).trans h4))
theorem ad2(hk:PyData.strOk k=true)(hn:PyData.strOk nm=true)(h:my s (gL k nm as f tl)=some r):MV s k nm as f tl=some r:=by
 refine cF h λcC h=>bE h λs1 h1 h=>cF h λad3 h=>(D0 cC).trans (tS.trans ((cT ?_).trans ?_))
 ·rw[Md];decide+kernel
 ·have hp:(cJ (bq s)==-1)=false->0<=cJ (bq s):=λc=>(DJ (bq s)).elim (λe=>nomatch (afI.mpr e).symm.trans c) λe=>e.1;have Ei:((cR (bq s)==[S "colgroup"])&&((nm !=S "col")&&!(k==S "end"&&nm==S "colgroup")))=false->tT k nm as f tl (cJ (bq s)) s (cR (bq s))=some r:=λc=>by rw[c]at h h1;obtain rfl:=ack (show some s=some s1 from h1);exact MY hp (wb cC) cC h
  cases c1:(cR (bq s)==[S "colgroup"])with
  |false=>exact(rF rfl).trans (Ei (c1.symm▸rfl))
  |true=>
   refine(rT rfl).trans ?_;cases c2:(nm==S "col")with
   |true=>exact(rF rfl).trans (Ei (by rw[show(nm !=S "col")=false by exact afE (! ·) c2,Bool.false_and,ag5]))
   |false=>
    refine(rT rfl).trans ((cT (by rw[hk,hn];decide+kernel)).trans ?_);cases c3:(k==S "end"&&nm==S "colgroup")with
    |true=>exact(rF rfl).trans (Ei (by rw[c3,Bool.not_true,ag5,ag5]))
    |false=>
     have c:((cR (bq s)==[S "colgroup"])&&((nm !=S "col")&&!(k==S "end"&&nm==S "colgroup")))=true:=by rw[c1,c3,show(nm !=S "col")=true by exact afE (! ·) c2];rfl
     rw[c]at h h1;exact(rT rfl).trans (rH.trans (b6 h1 (MY hp rfl ad3 h)))
theorem Ex.swap{r:Z}(O:iL D r){body rest:List Stmt}(hb:body=.Assign [.Tuple elts k MZ] e p::rest)(hc:(kb e&&(nR f.cs&&(iJ f x&&iJ f y)))=true)(hw:∀L,swappedStores [.Tuple elts k MZ] e (f.env L)=pure (some [x,y]))
  {z:Z}(h:((ms D 60).E d f m e z λv z=>(Ee v).bind λq=>(ms D 60).L d f ((x,q.1)::(y,q.2)::m) rest z true fin)=some r)(ht:∀m z,fin .next m z=D.gk z)(Q:Fl->Lo->AH->Prop)(q:∀fl m' z' n',fin fl m' z'=some r->Q fl m' (D.hz z' n'))(n:Nat):bR (D.o+d) f m (D.hz z n) body Q:=by
 rw[afz,afz,afz]at hc;subst hb;exact Ex.cons (Ex.SI (c9 hc.2.2.1).at_ (c9 hc.2.2.2).at_ ((lj O 60).E _ _ _ _ _ _ h _ (λv z1 n1 h=>bE h λa h1 h=>⟨_,_,adW h1,(lj O 60).L _ _ _ _ _ _ _ h (λ_=>ht) _ q n1⟩) n) hw hc.1 (BC hc.2.1))
abbrev eP:bg:=bh (H.aD 101) "_law_part" 995 994 [S "state",S "name",S "attrs",S "place",S "parts"] []
theorem ad4:au 995 eP:=au.of rfl (λS=>AI λa b c d e=>rfl) (λ_ _ _ _=>.nil) rfl rfl
def mU(ρ:Type)(c:Tl LS ρ):List (Addr×cA LS ρ):=(978,aZ c 4 4 (dm ar) MU)::wq ρ c
section
variable(k:Nat)(hd W:List Str)(pl:Int)(as:List U)(nm:Str)(b:B)(xt:LX)(s:LS)
abbrev mV:Lo:=[(S "keep",.int (k:Nat)),(S "held",bO hd),(S "wanted",bO W),(S "place",.int pl),(S "attrs",.aJ as),(S "name",.str nm),(S "state",.ae .cw)]
def M0:Option (It LS):=(d0 (bO W)).bind λss=>if aC ss.length then(if decide ((k:Int)<(ss.length:Int)) then cond (decide (0<=(k:Int))&&(decide (0<=(k:Int)+1)&&Nat.ble (hd.map U.str).length 1000000)) (cond (decide (0<=(k:Int))&&Nat.blt (k:Int).toNat 1000000) (((W.map U.str)[(k:Int).toNat]?).bind λv=>(d0 (.az (((hd.map U.str).drop (k:Int).toNat).take (((k:Int)+1).toNat-(k:Int).toNat)))).bind λxs=>(d0 (.az [v])).bind λys=>cond (xs.all PyData.strOk&&ys.all PyData.strOk) (if xs==ys then some (.go .next ((S "keep",.int ((k:Int)+1))::mV k hd W pl as nm) s)else some (.out s)) none) none) none else some (.out s))else none
theorem M1:j0 (DL (It LS) b xt ay (mU (It LS) ay)) 4 eP.cD (mV k hd W pl as nm) (j3 (aB eP.body 3)) (eI (aB eP.body 3)) s=M0 k hd W pl as nm s:=by kernel_rfl
abbrev rI:Lo:=[(S "attrs",.aJ as),(S "name",.str nm),(S "state",.ae .cw)]
theorem ad5(x:Str):(ms (DL (Fl×Lo×LS) b xt ay (mU (Fl×Lo×LS) ay)) 50).L 4 eP.cD ((S "each",.str x)::rI as nm) (eI (aB eP.body 5)) s false (λfl m z=>some (fl,m,z))=
  if x==S "tr" then(dj s (S "unexpected-start-tag") (S "in table body")).bind λs1=>(fT s1 x []).bind λs2=>some (.next,(S "each",.str x)::rI as nm,s2)else(fT s x []).bind λs2=>some (.next,(S "each",.str x)::rI as nm,s2):=by kernel_rfl
theorem ad6:(ms (DL (Fl×LS) b xt ay (mU (Fl×LS) ay)) 50).L 4 eP.cD (rI as nm) [aB eP.body 6,aB eP.body 7] s false (λfl m z=>some (fl,z))=
  (fT s nm as).bind λs1=>if nm==S "col" then c2 (Nat.beq (s1.pk+1) (s1.pk+1)) ((gc s1).bind λs2=>some (.next,s2))else some (.next,s1):=by kernel_rfl
end
def zB:List (Str×U):=[(S "td",.az [.str (S "tbody"),.str (S "tr")]),(S "th",.az [.str (S "tbody"),.str (S "tr")]),(S "tr",.az [.str (S "tbody")]),(S "col",.az [.str (S "colgroup")])]
theorem M3{α:Type}{f:α->U}:∀l:List (Str×α),(l.map λp=>(p.1,f p.2)).lookup k=(l.lookup k).map f
 |[]=>rfl
 |(y,v)::r=>by rw[agB,afP,afP,M3 r];cases(k==y)<;>rfl
theorem ad7:(zB.lookup k).getD (.az [])=bO (kW k):=by have e:zB=uZ.map λp=>(p.1,bO p.2):=rfl;rw[e,M3];unfold kW;cases uZ.lookup k<;>rfl
theorem ad8:(zB.map (·.1)).Nodup:=by decide+kernel
theorem Ej:∀{l:List (Str×α)},l.lookup k=some a->a∈l.map (·.2)
 |(y,v)::r,h=>by
  rw[afP]at h;cases c:(k==y)
  ·rw[c]at h;exact agk _ (Ej h)
  ·rw[c]at h;cases h;exact agw ..
theorem M4(k:Str):(kW k).length<=2/\(kW k).all PyData.strOk=true:=by
 unfold kW;cases h:uZ.lookup k with
 |none=>exact⟨afO _,rfl⟩
 |some a=>
  have h1:(uZ.map (·.2)).all (λa=>decide (a.length<=2)&&a.all PyData.strOk)=true:=by decide+kernel
  have:=afF.mp h1 a (Ej h);simpa using this
def M5:U->U
 |.str z=>.str (if aw [S "thead",S "tfoot"] z then S "tbody"else z)
 |y=>y
theorem ad9(ps:List Str):(((ps.map U.str).filter λ_=>true).map M5)=(gd ps).map .str:=by rw[agN.mpr λ_ _=>rfl,agI];unfold gd;rw[agI];rfl
theorem aea(h:ps.all PyData.strOk=true):(gd ps).all PyData.strOk=true:=by
 rw[afF]at h ⊢;intro y hy;refine ao (af7.mp hy) λz hz aP=>?_;subst aP;split
 ·decide+kernel
 ·exact h z hz
theorem M6:∀(j k:Nat),k<=W.length->lQ hd W j k<=W.length
 |0,k,h=>h
 |j+1,k,h=>by
  rewrite [lQ];cases c:decide ((k:Int)<(W.length:Int))
  ·rw[if_neg (by decide)];exact h
  ·have aY:k<W.length:=by have:=af4 c;exact agP.mp this
   rw[if_pos rfl,afH aY];dsimp only;split
   ·exact M6 j (k+1) aY
   ·exact h
theorem aeb{ps:List Str}(h:ps.all PyData.strOk=true):((ps.drop k).take 1).all PyData.strOk=true:=by rw[afF]at h ⊢;exact λy hy=>h y (agK (List.mem_of_mem_take hy))
theorem M7:(d0 (bO ns)).bind F=F ns:=by rw[tO];rfl
def M8:Stmt->Option (Str×Expr×List Stmt)
 |.For t i b o _=>cond (o.isEmpty&&qf i) ((lY (vw t)).bind λx=>some (x,i,b)) none
 |_=>none
theorem aec(h:M8 s=some q):qf q.2.1=true/\∃xp pos,s=.For (.Name q.1 xp) q.2.1 q.2.2 [] pos:=by
 induction s using Stmt.casesOn with
 |For t i b o p=>
  refine cE h λho h=>bE h λx h1 h5=>?_;refine aI (mI h1) λp1 bp=>?_;subst bp;rw[List.isEmpty_iff.mp (hB ho)];exact sE (X:=λq:Str×Expr×List Stmt=>qf q.2.1=true/\∃xp pos,Stmt.For (.Name x p1) i b [] p=.For (.Name q.1 xp) q.2.1 q.2.2 [] pos) h5 ⟨gH ho,_,_,rfl⟩
 |_=>exact ag h
section
variable{Z:Type}{d:Nat}{f:aV}{m:Lo}
theorem Ex.itE{D:Dm Z (Fl×Lo×Z)}(O:∀r,iL D r){s:Stmt}{x:Str}{it:Expr}{body:List Stmt}{Q:Fl->Lo->AH->Prop}
  (hs:M8 s=some (x,it,body))(hx:iJ f x=true){v:U}{z0:Z}(hv:((ms D 50).E d f m it z0 λv z=>some (.ret v,[],z))=some (.ret v,[],z0))(I:Nat->Lo->Z->Prop){xs:List U}
  (h0:I 0 m z0)(it:∀i m z,I i m z->∀n',eF (D.hz z n') v xs)
  (turn:∀i y m z,I i m z->xs[i]?=some y->∃mc r,b8 mc ((x,y)::m)/\(ms D 50).L d f mc body z false (λfl m z=>some (fl,m,z))=some r/\(match r.1 with
   |.next|.cont=>I (i+1) r.2.1 r.2.2
   |.brk=>∀n',Q .next r.2.1 (D.hz r.2.2 n')
   |.ret v=>∀n',Q (.ret v) r.2.1 (D.hz r.2.2 n')))
  (done:∀m z,I xs.length m z->∀n',Q .next m (D.hz z n'))(n:Nat):dD (D.o+d) f m (D.hz z0 n) s Q:=by
 refine cps λG k=>?_;obtain⟨hn,xp,pos,e⟩:=aec hs;refine k ?_;rw[e];refine Ex.forIn (c9 hx) (λi m' H'=>∃z' n',H'=D.hz z' n'/\I i m' z') xs ((lj (O _) 50).E _ _ _ _ _ _ hv _ (λv' z' n' e=>?_) n) (λi y m' H' i1 hy=>?_) (λm' H' i1=>?_) hn
 ·injection ack e with e1 e2
  injection e1 with e1
  injection e2 with _ e2
  rw[e1,e2];exact⟨⟨z0,n',rfl,h0⟩,λi m' H' i1=>cQ i1 λz' n' e i1=>e▸it _ _ _ i1 n'⟩
 ·obtain⟨z',n',rfl,i1⟩:=i1;refine cps λG k=>?_;obtain⟨mc,r,l,e,t⟩:=turn _ _ _ _ i1 hy;refine k ?_;refine Ex.sub l ((lj (O _) 50).L _ _ _ _ _ _ _ e (λe=>nomatch e) _ (λfl m2 z2 n2 h=>?_) n');have h:=ack h;subst h;induction fl with
  |next=>exact⟨_,_,rfl,t⟩
  |cont=>exact⟨_,_,rfl,t⟩
  |brk=>exact t n2
  |ret v=>exact t n2
 ·obtain⟨z',n',rfl,i1⟩:=i1;exact Ex.nil (done _ _ i1 n')
end
theorem M9{k:Nat}(hl:hd.length<=900000)(hW:W.length<=2)(hh:hd.all PyData.strOk=true)(hw:W.all PyData.strOk=true):M0 k hd W pl as nm s=
  if decide ((k:Int)<(W.length:Int)) then(match W[k]? with|some x=>if (hd.drop k).take 1==[x] then some (It.go .next ((S "keep",.int ((k:Int)+1))::mV k hd W pl as nm) s)else some (It.out s)|none=>none)else some (It.out s):=by
 refine M7.trans ((if_pos (dg (ads hW (by decide)))).trans ?_);cases c:decide ((k:Int)<(W.length:Int))with
 |false=>rfl
 |true=>
  have aY:k<W.length:=by have:=af4 c;exact agP.mp this
  refine(cT ?a).trans ((cT ?b).trans ?_);case a=>rw[aga (by exact afZ _),aga (by exact afZ _),Nat.ble_eq.mpr (by rw[afA];exact bt hl)];rfl
  case b=>rw[aga (by exact afZ _),Nat.blt_eq.mpr (by exact bt (ads aY hW))];rfl
  rw[show(k:Int).toNat=k from rfl,show((k:Int)+1).toNat=k+1 from rfl,Nat.add_sub_cancel_left,afX,afH aY,<-ahs,<-List.map_take];refine(show _=_ from rfl:_=(d0 (bO ((hd.drop k).take 1))).bind λxs=>cond (xs.all PyData.strOk&&[W[k]].all PyData.strOk) (if xs==[W[k]] then some (It.go .next ((S "keep",.int ((k:Int)+1))::mV k hd W pl as nm) s)else some (It.out s)) none).trans (M7.trans (cT ?_));rw[aeb hh,List.all_cons,afF.mp hw _ (ag8 aY)];rfl
section
variable{b:B}{xt:LX}
theorem wz:∀e,e∈mU ρ c->cU (DL ρ b xt c tb) r e.1 e.2:=
 aG (bx (λa s r h Q q n=>cE h λhi h=>by
   have e:=MJ (xt:=xt) (b:=b) (n:=n) h q;rw[agq (af4 hi)]at e;exact e) rfl) (D7)
noncomputable def aed:Stmt->Expr
 |.For _ i _ _ _=>i
 |_=>.Tuple [] 0 default
theorem aee(h:lR s name as place aR=some s')(q:∀n,Q .none (hp b (lG xt s') n)):ba 5 (.ref 995) [.ae .cw,.str name,.aJ as,.int place,bO aR] (hp b (lG xt s) n) Q:=by
 refine cF h λhc g0=>bE g0 λs1 h1 g1=>bE g1 λs2 h2 g2=>bE g2 λs3 h3 g3=>?_;clear h g0 g1 g2;refine dR hc λhz hps vY=>?_;refine aU (M4 name) λzC Ek=>?_;have Na:=aea hps;have Nb:(gd aR).length<=900000:=by unfold gd;rw[afA];exact eG hz
 refine(ad4).go (d:=4) (m:=[(S "parts",bO aR),(S "place",.int place),(S "attrs",.aJ as),(S "name",.str name),(S "state",.ae .cw)]) (body:=[aB eP.body 0,aB eP.body 1,aB eP.body 2,aB eP.body 3,aB eP.body 4,aB eP.body 5,aB eP.body 6,aB eP.body 7]) rfl rfl rfl ?_;generalize hW:kW name=W at h1 h2 zC Ek;have rest:∀m n',b8 (mV (lQ (gd aR) W W.length 0) (gd aR) W place as name) m->bR 4 eP.cD m (hp b (lG xt s) n') [aB eP.body 4,aB eP.body 5,aB eP.body 6,aB eP.body 7] λfl _ H'=>∃br,AH.Le H' br/\Q fl.val br:=by
  have hK:=M6 (hd:=gd aR) (W:=W) W.length 0 (afO _);generalize lQ (gd aR) W W.length 0=K at h1 h2 hK;intro m n' l;refine Ex.sub l (Ex.step (D:=DL (Lo×LS) b xt ay (mU (Lo×LS) ay)) (d:=4) (z1:=s1) (m1:=mV K (gd aR) W place as name) (λ_=>jF wz) (Eq.trans (b:=(wu s (place+1+(K:Int))).bind λs1=>some (mV K (gd aR) W place as name,s1)) (by kernel_rfl) (b6 (zA (by lia) h1) rfl)) (λn2=>Ex.cons (Ex.itE (D:=DL (Fl×Lo×LS) b xt ay (mU (Fl×Lo×LS) ay)) (d:=4) (x:=S "each") (xs:=(W.drop K).map .str) (v:=bO (W.drop K)) (λ_=>jF wz) (it:=aed (aB eP.body 5)) (body:=eI (aB eP.body 5)) rfl rfl (Eq.trans (b:=cond (decide (0<=(K:Int))&&(Nat.ble (K:Int).toNat (W.map U.str).length&&Nat.ble (W.map U.str).length 1000000)) (some (.ret (.az ((W.map U.str).drop K)),[],s1)) none) rfl ?ev) (λi m z=>u0 ((W.drop K).drop i) z=some s2/\b8 (rI as name) m) ⟨h2,?l0⟩ (λi m z I n'=>.az _) (λi y m z I e=>?turn) (λm z I n'=>?done) n2)) n')
  case ev=>
   refine(cT ?_).trans (ahs▸rfl);rw[aga (by exact afZ _),Nat.ble_eq.mpr (by rw[afA];exact hK),Nat.ble_eq.mpr (by rw[afA];exact bt zC)];rfl
  case l0=>exact .cons (.cons (.cons (.cons (.refl _) rfl) rfl) rfl) rfl
  case turn=>
   refine aU I λhs l=>?_;refine ao (zh e) λt e1 aP=>?_;subst aP;rw[AR e1]at hs;refine bE hs λsb hb hs=>bE hs λsc hc hs=>⟨(S "each",.str t)::rI as name,(.next,(S "each",.str t)::rI as name,sc),l.both,(ad5 as name b xt z t).trans (iE hb (λc hb=>(rT c).trans (b6 hb (b6 hc rfl))) λc hb=>(rF c).trans (by obtain rfl:=ack hb;exact b6 hc rfl)),hs,.cons (.refl _) rfl⟩
  case done=>
   refine aU I λhs l=>?_;rw[afA,List.drop_length]at hs;obtain rfl:=ack hs;exact Ex.sub l (Ex.rest (D:=DL (Fl×LS) b xt ay (mU (Fl×LS) ay)) (d:=4) (z1:=s') (sZ:=.next) (λ_=>jF wz) ((ad6 ..).trans (b6 h3 (iE g3 (λc h=>(rT c).trans (rH.trans (b6 h rfl))) λc h=>(rF c).trans (by apply sE h;rfl)))) (λm' n'=>⟨_,.refl _,q n'⟩) n')
 obtain⟨K,Nc⟩:∃K,lQ (gd aR) W W.length 0=K:=⟨_,rfl⟩;rw[Nc]at rest;clear h1 h2 h3 g3;refine Ex.bG (s':=?s0) ?e0 ?_;case e0=>conv=>lhs;whnf
 with_reducible refine Ex.cons (Ex.assign (c9 ?hx) ?_)
 case hx=>rfl
 with_reducible refine Ev.uB PySem.F.slot_dict_get ahd PySem.F.type_dict_get ?_ ?h0
 case h0=>rfl
 with_reducible refine Ev.sx (.aO n) ?k3 L.lO ?_ ?r1 ?r2 ?r3 ?r4
 case k3=>exact qG
 case r1=>rfl
 case r2=>rfl
 case r3=>intro e;cases e
 case r4=>decide
 with_reducible refine fQ.cons (aN (v:=.az [.str (S "tbody"),.str (S "tr")]) (by kernel_rfl) ?_)
 with_reducible refine fQ.cons (aN (v:=.az [.str (S "tbody"),.str (S "tr")]) (by kernel_rfl) ?_)
 with_reducible refine fQ.cons (aN (v:=.az [.str (S "tbody")]) (by kernel_rfl) ?_)
 with_reducible refine fQ.cons (aN (v:=.az [.str (S "colgroup")]) (by kernel_rfl) ?_)
 with_reducible refine fQ.nil ?_
 refine⟨AH.bY ..,ad8,?_⟩;rw[nG];refine⟨.map (AH.bY ..),?_⟩;with_reducible refine aM.cons (aN (v:=.str name) (by kernel_rfl) ?_)
 with_reducible refine aM.cons (aN (v:=.az []) (by kernel_rfl) ?_)
 with_reducible refine aM.nil ?_
 refine Call.get (es:=zB) (AH.bY ..) ?_;rw[ad7,hW];refine Ex.le sa ?_;refine Ex.bG (s':=?s1) ?e1 ?_;case e1=>conv=>lhs;whnf
 refine Ex.cons (Ex.Be (cs:=pR [(S "part",.local)]) (y:=S "held") rfl (.aO (n+1)) (λ_=>true) M5 (c9 rfl) (aN (v:=bO aR) rfl ⟨aR.map .str,⟨.az _,L.lO,mT hz,?no,?ok⟩,?_⟩) ?f0 ?f1 ?f2 ?f3)
 case f0=>rfl
 case f1=>rfl
 case f2=>rfl
 case f3=>rfl
 case no=>
  intro y hy _;refine ao (af7.mp hy) λz hz aP=>?_;subst aP;exact .str _
 case ok=>
  intro Lp y hy acc;refine ao (af7.mp hy) λz hz aP=>?_;subst aP;exact⟨rfl,λ_=>aN (Eq.trans (b:=cond (aw [S "thead",S "tfoot"] z) (some (.str (S "tbody"))) (some (.str z))) rfl (by show _=some (U.str (if aw [S "thead",S "tfoot"] z then S "tbody"else z));cases aw [S "thead",S "tfoot"] z<;>rfl)) ⟨rfl,rfl⟩⟩
 rw[ad9];refine Ex.step (D:=DL (Lo×LS) b xt ay (mU (Lo×LS) ay)) (d:=4) (z1:=s) (m1:=[(S "keep",.int 0),(S "held",bO (gd aR)),(S "wanted",bO W),(S "parts",bO aR),(S "place",.int place),(S "attrs",.aJ as),(S "name",.str name),(S "state",.ae .cw)]) (λ_=>jF wz) rfl (λn3=>Ex.bG (s':=qU (aB eP.body 3)) rfl (Ex.cons (Ex.wh (D:=DL (It LS) b xt ay (mU (It LS) ay)) (d:=4) (λ_=>jF wz) (λj m z=>z=s/\∃k,k<=W.length/\j=W.length-k/\lQ (gd aR) W j k=K/\b8 (mV k (gd aR) W place as name) m) (λj m z I=>?turn) W.length (z0:=s) ⟨rfl,0,afO _,rfl,Nc,.both (.both (.both (.cons (.refl _) rfl)))⟩ n3))) (n+1)
 case turn=>
  obtain⟨rfl,k,hk,rfl,e,l⟩:=I;cases c1:decide ((k:Int)<(W.length:Int))with
  |false=>
   have Nf:k=W.length:=by have:=of_decide_eq_false c1;exact Nat.le_antisymm ‹_› (agh λq=>of_decide_eq_false c1 (ag6.mpr q))
   refine⟨_,.out z,l,(M1 ..).trans ((M9 Nb zC Na Ek).trans (rF c1)),λn'=>rest m n' ?_⟩;rw[Nf,Nat.sub_self]at e;exact e▸Nf▸l
  |true=>
   have aY:k<W.length:=by have:=af4 c1;exact agP.mp this
   obtain⟨j,ej⟩:∃j,W.length-k=j+1:=⟨W.length-k-1,(Nat.sub_add_cancel (Nat.sub_pos_of_lt aY)).symm⟩;rw[ej]at e ⊢;rewrite [lQ]at e;rw[if_pos c1,afH aY]at e;dsimp only at e;have E:∀r,(if ((gd aR).drop k).take 1==[W[k]] then some (It.go .next ((S "keep",.int ((k:Int)+1))::mV k (gd aR) W place as name) z)else some (It.out z))=some r->j0 (DL (It LS) b xt ay (mU (It LS) ay)) 4 eP.cD (mV k (gd aR) W place as name) (j3 (aB eP.body 3)) (eI (aB eP.body 3)) z=some r:=λr h=>
    (M1 ..).trans ((M9 Nb zC Na Ek).trans ((rT c1).trans (by rw[afH aY];exact h)))
   cases c2:(((gd aR).drop k).take 1==[W[k]])with
   |false=>
    replace e:=c2▸e;exact⟨_,.out z,l,E _ (rF c2),λn'=>rest m n' (by exact e▸l)⟩
   |true=>
    replace e:=c2▸e;exact⟨_,.go .next _ z,l,E _ (rT c2),j,agf j,rfl,k+1,aY,(afE Nat.pred ej).symm,e,.Iy⟩
end
section
variable{b:B}{x:LX}{s s':LS}{n:Nat}
theorem Ng(h1:s.rk=k+1)(h2:s.old=some o):(hp b (lG x s) n).get (.run k)=some (.list (o.map .str)):=by show(if k=s.rk then _ else _)=_;rw[if_neg (by lia),h2];show(if k+1=s.rk then _ else _)=_;rw[if_pos h1.symm]
def boolOf:U->U
 |.str t=>.bool (ib t)
 |y=>y
theorem aef(r:List Str):(((r.map U.str).filter λ_=>true).map boolOf)=(r.map ib).map .bool:=by rw[agN.mpr λ_ _=>rfl,agI,agI];rfl
theorem aeg(r:List Str):(r.map ib).all id=r.all ib:=by rw[List.all_map];rfl
theorem aeh(h:gw s i a t=some s'):s'.rk=s.rk/\s'.old=s.old/\s'.pk=s.pk:=by
 unfold gw at h;refine bE h λy _ h=>?_;dsimp only at h;split at h
 ·refine bE h λ_ _ h=>?_;refine bE h λ_ _ h=>?_;split at h
  ·split at h
   ·apply sE h;exact⟨rfl,rfl,rfl⟩
   ·exact ag h
  ·split at h
   ·apply sE h;exact⟨rfl,rfl,rfl⟩
   ·exact ag h
 ·split at h
  ·apply sE h;exact⟨rfl,rfl,rfl⟩
  ·exact ag h
theorem aei(h:dj s z y=some s'):s'.rk=s.rk/\s'.old=s.old/\s'.pk=s.pk:=by
 unfold dj at h;split at h
 ·apply sE h;exact⟨rfl,rfl,rfl⟩
 ·exact ag h
end
abbrev oF:bg:=bh (H.aD 99) "_law_settle" 983 982 [S "state"] []
theorem aej:au 983 oF:=au.o1
abbrev rJ(bl:Bool)(pl:Int)(k:Nat):Lo:=[(S "place",.int pl),(S "is_blank",.bool bl),(S "run",.ae (.run k)),(S "state",.ae .cw)]
section
variable(bl:Bool)(pl:Int)(k:Nat)(b:B)(xt:LX)(s:LS)(x:Str)
def Nh:Option (Fl×Lo×LS):=if bl then cond (Nat.beq (s.pk+1) (s.pk+1)) (s.path.getLast?.bind λc=>(c6 s c).bind λ_=>(dK s c.toNat).bind λy=>if aC y.af.length then(zl s c.toNat y.af.length x).bind λs1=>some (.next,(S "kids",.ae (.bM c.toNat))::(S "sign",.str x)::rJ bl pl k,s1)else none) none
 else cond (Nat.beq (s.pk+1) (s.pk+1)) ((cy s.path (pl-1)).bind λc=>(c6 s c).bind λ_=>(dK s c.toNat).bind λy=>if aC y.af.length then(zl s c.toNat ((y.af.length:Int)-1) x).bind λs1=>(dj s1 (S "foster-parented") (S "in table text")).bind λs2=>some (.next,(S "kids",.ae (.bM c.toNat))::(S "sign",.str x)::rJ bl pl k,s2)else none) none
theorem aek(hb:bl=true\/bl=false):(ms (DL (Fl×Lo×LS) b xt ay (j9 (Fl×Lo×LS) ay)) 50).L 3 oF.cD ((S "sign",.str x)::rJ bl pl k) (eI (aB oF.body 4)) s false (λfl m z=>some (fl,m,z))=Nh bl pl k s x:=by
 rcases hb with rfl|rfl
 ·kernel_rfl
 ·kernel_rfl
end
theorem ael(hi:(if bl=true then s.path.getLast? else cy s.path (pl-1))=some i)(hy:c6 s i=some y)(ho:aC y.af.length=true)(h1:gw s i (if bl=true then(y.af.length:Int)else(y.af.length:Int)-1) x=some s1)
  (h2:(if !bl then dj s1 (S "foster-parented") (S "in table text")else some s1)=some s2):Nh bl pl k s x=some (.next,(S "kids",.ae (.bM i.toNat))::(S "sign",.str x)::rJ bl pl k,s2):=by
 refine ao (wd hy) λj bp hj=>?_;subst bp;induction bl with
 |true=>
  apply sE h2;exact(rT rfl).trans ((cT (agC _)).trans (b6 hi (b6 hy (b6 hj ((if_pos ho).trans (b6 (b6 (kE hj).1 h1) rfl))))))
 |false=>exact(rF rfl).trans ((cT (agC _)).trans (b6 hi (b6 hy (b6 hj ((if_pos ho).trans (b6 (b6 (kE hj).1 h1) (b6 h2 rfl)))))))
section
variable{b:B}{xt:LX}
theorem aem(h:mw s=some s')(q:∀n,Q .none (hp b (lG xt s') n)):ba 4 (.ref 983) [.ae .cw] (hp b (lG xt s) n) Q:=by
 refine cF h λhc h=>?_;refine aU hc λcC hz=>?_;have D1:=λ(r:Lo×LS)=>jF (b:=b) (xt:=xt) (c:=ay) (tb:=j9 (Lo×LS) ay) (r:=r) tQ;refine(aej).go (d:=3) (m:=[(S "state",.ae .cw)]) (body:=[aB oF.body 0,aB oF.body 1,aB oF.body 2,aB oF.body 3,aB oF.body 4]) rfl rfl rfl ?_;refine Ex.step (D:=DL (Lo×LS) b xt ay (j9 (Lo×LS) ay)) (d:=3) (z1:=s) (m1:=[(S "run",.ae (.run s.rk)),(S "state",.ae .cw)]) D1 rfl (λn1=>Ex.step (D:=DL (Lo×LS) b xt ay (j9 (Lo×LS) ay)) (d:=3) (z1:={s with run:=[],rk:=s.rk+1,old:=some s.run}) (m1:=[(S "run",.ae (.run s.rk)),(S "state",.ae .cw)]) D1 rfl (λn2=>?_) n1) n;have El:dh {s with run:=[],rk:=s.rk+1,old:=some s.run}=true:=cC;have Ni:bq {s with run:=[],rk:=s.rk+1,old:=some s.run}=bq s:=rfl;have Em:({s with run:=[],rk:=s.rk+1,old:=some s.run}:LS).rk=s.rk+1:=rfl;have Eo:({s with run:=[],rk:=s.rk+1,old:=some s.run}:LS).old=some s.run:=rfl;generalize({s with run:=[],rk:=s.rk+1,old:=some s.run}:LS)=s0 at h El Ni Em Eo;refine Ex.bG (s':=?s2) ?e2 ?_;case e2=>conv=>lhs;whnf
 with_reducible refine Ex.cons (Ex.assign (c9 ?hx) ?_)
 case hx=>rfl
 refine Ev.uj QW (dF rfl) (aM.cons (Ev.uV (cs:=pR [(S "sign",.local),(S "_law_is_blank",.globalImplicit)]) rfl (.aO n2) (λ_=>true) boolOf (aN (v:=.ae (.run s.rk)) rfl ⟨s.run.map .str,⟨.list (Ng Em Eo),L.lO,mT hz,?no,?ok⟩,?_⟩) ?f1 ?f2 ?f3))
 case f1=>rfl
 case f2=>rfl
 case f3=>rfl
 case no=>
  intro y hy _;refine ao (af7.mp hy) λz hz aP=>?_;subst aP;exact .bool _
 case ok=>
  intro Lp y hy acc;refine ao (af7.mp hy) λz hz aP=>?_;subst aP;exact⟨rfl,λ_=>Ev.jK QU (dF rfl) (aM.cons (aN (v:=.str z) rfl (aM.nil (Call.gu (show 1<=3 by decide) (MA ⟨rfl,rfl⟩)))))⟩
 rw[aef];refine aM.nil (Call.all ?_);rw[aeg];generalize s.run.all ib=bl at h;refine Ex.step (D:=DL (Lo×LS) b xt ay (j9 (Lo×LS) ay)) (d:=3) (z1:=s0) (m1:=rJ bl (cJ (bq s)) s.rk) D1 (Eq.trans (b:=(jG s0).bind λns=>(P1 ns).bind λq=>(oD q.1).bind λp=>some (rJ bl p.1 s.rk,s0)) (by kernel_rfl) ?_) (λn3=>?_) n2
 ·exact b6 (if_pos El:jG s0=_) (b6 (tR _) (b6 (if_pos (wa El):oD (bq s0)=_) (Ni▸rfl)))
 generalize cJ (bq s)=pl at h;refine Ex.cons (Ex.sS (D:=DL (Fl×Lo×LS) b xt ay (j9 (Fl×Lo×LS) ay)) (d:=3) (x:=S "sign") (y:=S "run") (body:=eI (aB oF.body 4)) (v:=.ae (.run s.rk)) (xs:=s.run.map .str) (λ_=>jF tQ) rfl rfl rfl (λi m z=>qJ bl pl (s.run.drop i) z=some s'/\z.rk=s.rk+1/\z.old=some s.run/\b8 (rJ bl pl s.rk) m) ⟨h,Em,Eo,.refl _⟩ (λi m z I n'=>.list (Ng I.2.1 I.2.2.1)) (λi y m z I e=>?turn) (λm z I n'=>?done) n3)
 case turn=>
  refine fu I λh hr ho l=>?_;refine ao (zh e) λt e1 aP=>?_;subst aP;rw[AR e1]at h;refine bE h λj hj h=>bE h λy hy h=>cF h λhk h=>bE h λs3 h3 h=>bE h λs4 h4 h=>?_;refine dR (aeh h3) λk1 k2 _=>?_;have K:s4.rk=s3.rk/\s4.old=s3.old:=iE h4 (λ_ h4=>dR (aei h4) λa b _=>⟨a,b⟩) λ_ h4=>by apply sE h4;exact⟨rfl,rfl⟩
  exact⟨_,_,l.both,(aek bl pl s.rk b xt z t (Bool.eq_false_or_eq_true bl)).trans (ael hj hy hk h3 h4),h,K.1.trans (k1.trans hr),K.2.trans (k2.trans ho),.cons (.cons (.refl _) rfl) rfl⟩
 case done=>
  have h:=I.1;rw[afA,List.drop_length]at h;obtain rfl:=ack h;exact Ex.nil ⟨_,.refl _,q _⟩
end
section
variable{b:B}{xt:LX}
theorem aen:∀e,e∈zu ρ c->cU (DL ρ b xt c tb) r e.1 e.2:=
 aG (bx (λa s r h Q q n=>bE h λt ht h=>by
   obtain⟨⟨k,nm,rest⟩,pl,ps,u⟩:=a;obtain rfl:rest=.aJ t.1::.bool t.2.1::t.2.2:=MT ht;exact adS h q) rfl)
  (aG (bx (λa s r h Q q n=>cE h λhi h=>by
   have e:=MJ (xt:=xt) (b:=b) (n:=n) h q;rw[agq (af4 hi)]at e;exact e) rfl)
  (aG (bx (λa s r h Q q n=>aee h q) rfl) D7))
theorem aeo(hk:PyData.strOk k=true)(hn:PyData.strOk nm=true)(h:my s (gL k nm as f tl)=some s')(q:∀n,Q .none (hp b (lG xt s') n)):ba 6 (.ref 1009) [.ae .cw,b7 (gL k nm as f tl)] (hp b (lG xt s) n) Q:=
 adV 5 [.ae .cw,b7 (gL k nm as f tl)] _ _ rfl (by
  have X:=Ex.swap (D:=DL LS b xt bb (zu LS bb)) (f:=kF.cD) (m:=[(S "token",b7 (gL k nm as f tl)),(S "state",.ae .cw)]) (z:=s) (d:=5) (e:=MW kF.body) (rest:=kF.body.tail) (body:=kF.body) (x:=S "kind") (y:=S "name") (elts:=(Eg (Ef kF.body)).1) (k:=(Eg (Ef kF.body)).2.1) (MZ:=(Eg (Ef kF.body)).2.2) (p:=adX kF.body) (fin:=jx) (jF aen (r:=s')) rfl rfl (λL=>by kernel_rfl) ((adY s k nm as f tl).trans (ad2 hk hn h)) (λ_ _=>rfl) (λfl m H'=>∃br,AH.Le H' br/\Q fl.val br) (λfl m z' n' e=>⟨_,.refl _,wj q fl m z' n' e⟩) n;exact X)
end
def pY:Str:=S "x y\n\x0b\r\t\x0c"
noncomputable def drawnOf (cL:Int):Nat:=(cL.fmod 32).toNat
def fE(cL:Int)(k:Nat):aS:=
 if 24<=drawnOf cL then⟨S "char",⟨#[(pY.cps[drawnOf cL-24]?).getD 0]⟩,[]⟩
 else if 12<=drawnOf cL then⟨S "end",(gi[drawnOf cL-12]?).getD (S ""),[.aJ [],.bool false]⟩
 else⟨S "start",(gi[drawnOf cL]?).getD (S ""),[.aJ [.aJ [.str (S "at"),.str (Str.ofString (toString (k:Int)))]],.bool ((gi[drawnOf cL]?).getD (S "")==S "col")]⟩
theorem aep(cL:Int)(k:Nat):(∃x f tl,(fE cL k).rest=x::.bool f::tl)\/(fE cL k).rest=[]:=by
 unfold fE;split
 ·exact .inr rfl
 ·split
  ·exact .inl ⟨_,_,_,rfl⟩
  ·exact .inl ⟨_,_,_,rfl⟩
theorem aeq(c:((fE cL k).kind==S "char")=false):∃kk nm as f,fE cL k=gL kk nm as f []:=by
 unfold fE at c ⊢;split
 ·rename_i q;rw[if_pos q]at c;exact nomatch (agA (S "char")).symm.trans c
 ·split
  ·exact⟨_,_,_,_,rfl⟩
  ·exact⟨_,_,_,_,rfl⟩
theorem Ep(cL:Int):cL.fmod 32=(drawnOf cL:Int)/\drawnOf cL<32:=by have h1:=Int.fmod_nonneg_of_pos cL (b:=32) (by decide);have h2:=Int.fmod_lt_of_pos cL (b:=32) (by decide);exact⟨(agq h1).symm,(Int.toNat_lt h1).mpr h2⟩
theorem tU(h:i<12):∃y,gi[i]?=some y/\y∈gi:=⟨gi[i]'(by simpa[gi]using h),afH _,ag8 _⟩
theorem aer:pY.cps.size=8:=by decide+kernel
theorem Er(h:i<8):∃c,pY.cps[i]?=some c/\c∈pY.cps.toList:=⟨pY.cps[i]'(by exact aer▸h),Array.getElem?_eq_getElem _,by simp⟩
theorem aes:PySem.wordsOf (S "tr td tbody a table th col caption colgroup thead tfoot p")=gi:=by decide+kernel
theorem aet(cL:Int)(k:Nat):(∃as,rA (fE cL k) as)\/Dt (fE cL k)\/Du (fE cL k):=by
 refine aU (Ep cL) λ_ h=>?_;unfold fE;by_cases c1:24<=drawnOf cL
 ·rw[if_pos c1];refine ao (Er (i:=drawnOf cL-24) (by exact agG c1 h)) λc e hm=>?_;rw[e];refine .inr (.inr ⟨rfl,afD _,rfl,λq=>?_⟩);have hz:pY.cps.toList.all (λc=>c !=0)=true:=by decide+kernel
  have h0:=afF.mp hz c hm;have q':(⟨#[c]⟩:Str).cps=(S "\x00").cps:=afE Str.cps q;have q2:(#[c]:Array Nat)=#[0]:=q';have q3:c=0:=by simpa using q2
  replace h0:=q3▸h0;cases h0
 ·rw[if_neg c1];by_cases c2:12<=drawnOf cL
  ·rw[if_pos c2];refine ao (tU (i:=drawnOf cL-12) (by exact agG c2 (ahc c1))) λy e hm=>?_;exact e▸.inr (.inl ⟨rfl,hm⟩)
  ·rw[if_neg c2];refine ao (tU (i:=drawnOf cL) (by exact ahc c2)) λy e hm=>?_;rw[e];exact .inl ⟨_,rfl,hm,rfl,by show 1<=1000;decide⟩
section
variable{b:B}{G:AH}{x:LX}{s s':LS}{n:Nat}{Q:U->AH->Prop}
abbrev tV:bg:=bh (H.aD 88) "_law_token" 914 913 [S "number",S "at"] []
theorem aeu:au 914 tV:=au.o2
theorem Nj(hk:k<=1000)(q:Q (b7 (fE cL k)) X):ba 1 (.ref 914) [.int cL,.int (k:Nat)] X Q:=by
 refine aeu.go (d:=0) (m:=[(S "at",.int (k:Nat)),(S "number",.int cL)]) (body:=[aB tV.body 0,aB tV.body 1,aB tV.body 2,aB tV.body 3,aB tV.body 4]) rfl rfl rfl ?_;refine aU (Ep cL) λhd aY=>?_;unfold fE at q;generalize drawnOf cL=dn at hd aY q;refine Ex.bG (s':=?s0) ?e0 ?_;case e0=>conv=>lhs;whnf
 with_reducible refine Ex.cons (Ex.assign (c9 ?hx) (Ev.uB PySem.F.slot_str_split PySem.F.plainAttrs_str PySem.F.type_str_split (aN (v:=.str (S "tr td tbody a table th col caption colgroup thead tfoot p")) ?hv ⟨.str _,aM.nil (Call.split ?a ?b ?c ?_)⟩) ?h0))
 case h0=>rfl
 case hx=>rfl
 case hv=>rfl
 case a=>decide+kernel
 case b=>decide+kernel
 case c=>decide+kernel
 rw[aes];refine Ex.bG (s':=?s1) ?e1 ?_;case e1=>conv=>lhs;whnf
 refine Ex.cons (Ex.assign (c9 rfl) (Ev.rU (aN (v:=.int cL) rfl (aN (v:=.int 32) rfl (Op.mod (by decide) ?_)))));rw[hd];refine Ex.bG (s':=?s2) ?e2 ?_;case e2=>conv=>lhs;whnf
 refine Ex.cons (Ex.ite (vy (c:=decide ((24:Int)<=(dn:Int))) rfl ?_));cases c1:decide ((24:Int)<=(dn:Int))
 ·have tW:¬24<=dn:=λh=>of_decide_eq_false c1 (agP.mpr h);rw[if_neg tW]at q;refine kT rfl (Ex.nil ?_);refine Ex.bG (s':=?s3) ?e3 ?_;case e3=>conv=>lhs;whnf
  refine Ex.cons (Ex.ite (vy (c:=decide ((12:Int)<=(dn:Int))) rfl ?_));cases c2:decide ((12:Int)<=(dn:Int))
  ·have tX:¬12<=dn:=λh=>of_decide_eq_false c2 (agP.mpr h);rw[if_neg tX]at q;refine ao (tU (i:=dn) (ahc tX)) λy e hm=>?_;rw[e]at q;refine kT rfl (Ex.nil ?_);refine Ex.bG (s':=?s4) ?e4 ?_;case e4=>conv=>lhs;whnf
   have it:∀{H:AH} {d:Nat} {Q:U->AH->Prop},Q (.str y) H->vk d (.az (gi.map .str)) (.int (dn:Int)) H Q:=λq=>⟨qo,Op.item (xs:=gi.map .str) (.az _) (bt aY) (by rw[afX,e];rfl) q⟩;exact Ex.cons<|Ex.ret<|Ev.tuple<|aM.cons<|aN (v:=.str (S "start")) rfl<|aM.cons<|Ev.sub<|aN (v:=.az (gi.map .str)) rfl<|aN (v:=.int (dn:Int)) rfl<|it<|aM.cons<|Ev.tuple<|aM.cons<|Ev.tuple<|aM.cons<|aN (v:=.str (S "at")) rfl<|aM.cons<|Ev.wU AM (dF rfl) (aM.cons<|aN (v:=.int (k:Nat)) rfl<|aM.nil<|Call.Su (bt hk)<|aM.nil ⟨afG rfl,aM.nil ⟨afG rfl,aM.cons<|Ev.dt<|Ev.sub<|aN (v:=.az (gi.map .str)) rfl<|aN (v:=.int (dn:Int)) rfl<|it<|aN (v:=.str (S "col")) rfl<|Op.wV<|aM.nil ⟨afG rfl,_,.refl _,q⟩⟩⟩)
  ·have tX:12<=dn:=agP.mp (af4 c2);rw[if_pos tX]at q;refine ao (tU (i:=dn-12) (by exact agG tX (ahc tW))) λy e hm=>?_;rw[e]at q;have e0:(dn:Int)-12=((dn-12:Nat):Int):=by exact(ahr tX).symm
   refine qB rfl ?_;exact Ex.cons (Ex.ret (Ev.tuple (aM.cons (aN (v:=.str (S "end")) rfl (aM.cons (Ev.sub (aN (v:=.az (gi.map .str)) rfl (aN (v:=.int ((dn:Int)-12)) rfl (e0▸⟨qo,Op.item (xs:=gi.map .str) (.az _) (ahf (Nat.sub_le _ _) (bt aY)) (by rw[afX,e];rfl) (aM.cons (aN (v:=.aJ []) rfl (aM.cons (aN (v:=.bool false) rfl (aM.nil ⟨afG rfl,_,.refl _,q⟩)))))⟩)))))))))
 ·have tW:24<=dn:=agP.mp (af4 c1);rw[if_pos tW]at q;refine ao (Er (i:=dn-24) (by exact agG tW aY)) λc e hm=>?_;rw[e]at q;have e0:(dn:Int)-24=((dn-24:Nat):Int):=by exact(ahr tW).symm
  refine qB rfl ?_;exact Ex.cons (Ex.ret (Ev.tuple (aM.cons (aN (v:=.str (S "char")) rfl (aM.cons (Ev.sub (aN (v:=.str pY) rfl (aN (v:=.int ((dn:Int)-24)) rfl (e0▸⟨⟨_,.str _,Pl⟩,Op.Pm (ahf (Nat.sub_le _ _) (bt aY)) e (aM.nil ⟨afG rfl,_,.refl _,q⟩)⟩)))))))))
end
def oG(b:B):Nat->Int->U
 |0,_=>.none
 |f+1,i=>match nd b i with
  |some x=>if x.kind==S "text" then .str x.text else .az [.str x.name,.az x.aX,.az (x.af.map (oG b f))]
  |none=>.none
def mW(b:B):Nat->Int->Prop
 |0,_=>False
 |f+1,i=>∃x,nd b i=some x/\x.af.length<=900000/\((x.kind==S "text")=false->∀k∈x.af,mW b f k)
noncomputable def Et:Loc->Bool
 |.tree|.dC|.eg|.names|.aX|.eJ|.eQ|.b9 _=>true
 |_=>false
noncomputable def Eu:AH:=⟨λ_=>none,λ_=>False⟩
structure gM(b:B)(n:Nat)(X:AH):Prop where
 get:∀l o,Et l=true->(hp b Eu 0).get l=some o->X.get l=some o
 new:∀k,n<=k->X.new (.aO k)
theorem gM.add(V:gM b n X):gM b (n+1) (X.add (.aO n) o):=
 ⟨λl o h e=>by rw[AH.bZ _ _ (λq=>by replace h:=q▸h;cases h)];exact V.get l o h e,λk hk=>⟨V.new k (Nat.le_of_lt ‹_›),λq=>by injection q with q;exact agQ _ (q▸hk)⟩⟩
theorem gM.aev:gM b n (hp b G n):=
 ⟨λl o h e=>by induction l<;>first|exact e|(cases h),λk hk=>hk⟩
theorem gM.inst(V:gM b n X):iA X (.ae .tree) cY eT:=⟨.tree,.dC,rfl,V.get _ _ rfl rfl,V.get _ _ rfl rfl⟩
theorem gM.b9(V:gM b n X)(h:nd b i=some x):X.get (.b9 i.toNat)=some (.list (cP x.af)):=V.get _ _ rfl (Qf h)
theorem R.aew(V:gM b n X)(h:nd b i=some x)(q:Q (.ae (.b9 i.toNat)) X):bC d getItem (.ae .eQ) (.int i) X Q:=by refine cN (gT h) λk bp hk e=>?_;subst bp;refine aI (afB.mp e) λaY _=>?_;exact Op.item (.list (V.get .eQ _ rfl rfl)) hk (by rw[afX,List.getElem?_range aY];rfl) q
def Nk(as:List U):Prop:=∀a∈as,∃u v,a=.aJ [.str u,.str v]
def Ew(b:B):Prop:=∀x∈b.aa,Nk x.aX
theorem Ey:∀{as:List U},Nk as->fR l as
 |[],_=>.nil
 |a::r,h=>by refine fX (h a (agw ..)) λu v aP=>?_;subst aP;exact .cons (.aJ (.cons (.str _) (.cons (.str _) .nil))) (Ey λa ha=>h a (agk _ ha))
theorem Nl(h:nd b i=some x):x∈b.aa:=by refine cN (gT h) λk _ _ e=>?_;exact agv e
theorem Ez(hA:Ew b):∀(f:Nat) (i:Int),eM l (oG b f i)
 |0,_=>.none
 |f+1,i=>by
  rewrite [oG];cases e:nd b i with
  |none=>exact .none
  |some x=>
   dsimp only;split
   ·exact .str _
   ·exact .az (.cons (.str _) (.cons (.az (Ey (hA x (Nl e)))) (.cons (.az (fR.all λy hy=>by
     refine ao (af7.mp hy) λk _ aP=>?_;subst aP;exact Ez hA f k)) .nil)))
def Nm(b:B)(f:Nat):U->U
 |.int k=>oG b f k
 |y=>y
theorem aex(ks:List Int):(((cP ks).filter λ_=>true).map (Nm b f))=ks.map (oG b f):=by rw[agN.mpr λ_ _=>rfl];unfold cP;rw[agI];rfl
theorem gM.at(V:gM b (n+1) X)(hc:X.get (.aO n)=some (.cell (some (.ae .tree))))(F:fJ cY a)(hx:f.cm.lookup x=some (.aO n))(hn:MD f x=true)(hl:eT.lookup a=some (.ae l))(hg:(hp b Eu 0).get l=some (.list xs))(ht:Et l=true)(hi:ph d f m e=some (.int i))(he:nr e=true)(q:bC d getItem (.ae l) (.int i) X Q):aW d f m X (.Subscript (.Attribute (.Name x px) a pa) e ps) Q:=
 Ev.sub (Ev.fZ F (Ev.cell hx (.inl (oA hn)) hc ⟨eT,.ae l,V.inst,hl,af2,aN hi ⟨jO (V.get l _ ht hg),q⟩⟩) rfl) he
section
variable{b:B}
theorem w_plain(hA:Ew b):∀(f:Nat) (i:Int) (n:Nat) (X:AH) (Q:U->AH->Prop),gM b n X->mW b f i->Q (oG b f i) X->ba f (.ref 926) [.ae .tree,.int i] X Q
 |0,_,_,_,_,_,h,_=>h.elim
 |f+1,i,n,X,Q,V,h,q=>by
  refine cN h λy hy hz hk=>?_;refine Call.S9 (body:=?b) (scope:=?s) (S "tree") (S "node") (.aO n) (ho:=Rk) (hc:=Rj) (hv:=rfl) (hi:=by kernel_rfl) (hq:=by kernel_rfl) (hbind:=λa b=>?hb) (eb:=?eb) (es:=?es) (u7:=.of (by kernel_rfl)) (Bo:=.of (by kernel_rfl)) (fN:=?cs) (hn:=V.new n (afD _)) (h:=?h) (hs:=?hs)
  case eb=>conv=>lhs;whnf
  case es=>conv=>lhs;whnf
  case cs=>intro L;kernel_rfl
  case hs=>rfl
  case hb=>rfl
  have V1:gM b (n+1) (X.add (.aO n) (.cell (some (.ae .tree)))):=V.add;rewrite [oG]at q;replace q:=hy▸q;dsimp only at q;have hc:(X.add (.aO n) (.cell (some (.ae .tree)))).get (.aO n)=some (.cell (some (.ae .tree))):=AH.bY ..;generalize Nn:X.add (.aO n) (.cell (some (.ae .tree)))=X1 at V1 hc;have it:∀{l:Loc} {F:Nd->U} {d:Nat} {Q:U->AH->Prop},Et l=true->(hp b Eu 0).get l=some (.list (b.aa.map F))->Q (F y) X1->bC d getItem (.ae l) (.int i) X1 Q:=λh1 h2 q=>Op.lL (.list (V1.get _ _ h1 h2)) (jN hy) q;refine Ex.cons (Ex.ite (Ts.dt (gM.at (l:=.eg) V1 hc uN rfl rfl rfl rfl rfl rfl rfl (it (F:=λx=>.str x.kind) rfl rfl (aN (v:=.str (S "text")) rfl (Op.wV (Tr.bool ?_)))))));cases c:(y.kind==S "text")
  ·rw[c,if_neg (by decide)]at q;have jA:=hk c;refine kT rfl (Ex.nil ?_);refine Ex.cons (Ex.ret (Ev.list (aM.cons (gM.at (l:=.names) V1 hc xl rfl rfl rfl rfl rfl rfl rfl (it (F:=λx=>.str x.name) rfl rfl (aM.cons (gM.at (l:=.aX) V1 hc AN rfl rfl rfl rfl rfl rfl rfl (it (F:=λx=>.az x.aX) rfl rfl (aM.cons ?_)))))))));refine Ev.uV (cs:=pR [(S "kid",.local),(S "_law_plain",.globalImplicit),(S "tree",.cell)]) rfl (.aO (n+1)) (λ_=>true) (Nm b f) (gM.at (l:=.eQ) V1 hc AP rfl rfl rfl rfl rfl rfl rfl (R.aew V1 hy ⟨cP y.af,⟨.list (V1.b9 hy),V1.new _ (afD _),?len,?no,?ok⟩,?_⟩)) ?f1 ?f2 ?f3
   case f1=>rfl
   case f2=>rfl
   case f3=>rfl
   case len=>exact oR▸bt hz
   case no=>
    intro z eY _;refine ao (af7.mp eY) λk _ aP=>?_;subst aP;exact Ez hA f k
   case ok=>
    intro Lp z eY acc;refine ao (af7.mp eY) λk hkm aP=>?_;subst aP;exact⟨rfl,λ_=>Ev.jK FW (dF rfl) (aM.cons (Ev.cell (l:=.aO n) (v:=.ae .tree) rfl (.inl (oA rfl)) ((AH.bZ _ _ DH).trans hc) (aM.cons (aN (v:=.int k) rfl (aM.nil (w_plain hA f k (n+2) _ _ V1.add (jA k hkm) ⟨rfl,rfl⟩))))))⟩
   rw[aex];subst Nn;exact aM.nil ⟨afG rfl,_,rfl,.az (.cons (.str _) (.cons (.az (Ey (hA y (Nl hy)))) (.cons (.az (fR.all λz hz=>by
    refine ao (af7.mp hz) λk _ aP=>?_;subst aP;exact Ez hA f k)) .nil))),q⟩
  ·rw[c,if_pos rfl]at q;refine qB rfl ?_;exact Ex.cons (Ex.ret (gM.at (l:=.eJ) V1 hc AO rfl rfl rfl rfl rfl rfl rfl (it (F:=λx=>.str x.text) rfl rfl ⟨_,Nn.symm,.str _,q⟩)))
end
abbrev dz(x:Str):Prop:=PyData.strOk x=true
theorem Np:dz (S ""):=by decide+kernel
theorem aey(h:dz x)(k:dz y):dz (x++y):=by unfold dz PyData.strOk at h k ⊢;show(x.cps++y.cps).all _=true;rw[Array.all_append,h,k];rfl
def pZ(as:List U):Prop:=∀a∈as,∃u v,a=.aJ [.str u,.str v]/\dz u/\dz v
structure Cl(s:LS):Prop where
 nd:∀(i:Nat) (x:LN),s.aa[i]?=some x->dz x.name/\dz x.text/\pZ x.aX/\∀k∈x.af,(i:Int)<k/\k<s.aa.length
 n0:∃x,s.aa[0]?=some x/\x.tx=true/\x.af=[1]
 n1:∃x,s.aa[1]?=some x/\x.tx=false/\x.name=S "html"/\x.aX=[]
 er:∀e∈s.aK,dz e.1/\dz e.2
 rn:∀t∈s.run,dz t
theorem Cl.zD(C:Cl s)(h1:s'.aa=s.aa)(h2:s'.aK=s.aK)(h3:∀t∈s'.run,dz t):Cl s':=by
 refine⟨?_,?_,?_,?_,h3⟩
 ·exact h1▸C.nd
 ·exact h1▸C.n0
 ·exact h1▸C.n1
 ·exact h2▸C.er
theorem Cl.pos(C:Cl s)(h:c6 s i=some x):∃k:Nat,i=(k:Int)/\s.aa[k]?=some x/\x.tx=false/\0<k:=by
 refine cN (u2 h) λk e h1 ht=>?_;refine⟨k,e,h1,ht,?_⟩;induction k with
 |zero=>
  refine cN C.n0 λy e1 e2 _=>?_;rw[e1]at h1;obtain rfl:=ack h1;replace ht:=e2▸ht;cases ht
 |succ k=>exact ahk k
theorem Cl.node(C:Cl s)(h:c6 s i=some x)(hn:dz y.name)(ht:dz y.text)(ha:pZ y.aX)(hk:y.af=[]):
  Cl {s with aa:=(s.aa.set i.toNat {x with af:=x.af.take a++(s.aa.length:Int)::x.af.drop a})++[y],path:=p}:=by
 refine ka (C.pos h) λk bp h1 kl Nq=>?_;subst bp;refine aI (afB.mp h1) λaY _=>?_;rw[afM];have g:∀j:Nat,((s.aa.set k {x with af:=x.af.take a++(s.aa.length:Int)::x.af.drop a})++[y])[j]?=if j=k then some {x with af:=x.af.take a++(s.aa.length:Int)::x.af.drop a}else if j=s.aa.length then some y else s.aa[j]?:=λj=>by
  by_cases q:j<s.aa.length
  ·rw[agb (by rw[agn];exact q),u4 h1];by_cases q2:j=k
   ·rw[if_pos q2,if_pos q2]
   ·rw[if_neg q2,if_neg q2,if_neg (by exact agg q)]
  ·rw[agj (by rw[agn];exact agh q),agn,if_neg (by lia)];by_cases q2:j=s.aa.length
   ·rw[if_pos q2,q2];simp
   ·rw[if_neg q2,af1 (by simp;lia),af1 (by exact agh q)]
 have len:((s.aa.set k {x with af:=x.af.take a++(s.aa.length:Int)::x.af.drop a})++[y]).length=s.aa.length+1:=by simp
 refine cN C.n0 λy0 e1 e2 e3=>?_;refine ka C.n1 λy1 f1 f2 f3 f4=>?_;refine aI (afB.mp e1) λl0 _=>?_;refine aI (afB.mp f1) λl1 _=>?_;refine fu (C.nd k x h1) λc1 c2 c3 c4=>?_;refine⟨λj z hz=>?_,⟨y0,?_,e2,e3⟩,?_,C.er,C.rn⟩
 ·show _/\_/\_/\∀c∈z.af,(j:Int)<c/\c<(_:Nat);have eY:=(g j).symm.trans hz;rw[len];by_cases q:j=k
  ·rw[if_pos q]at eY;apply sE eY;refine⟨c1,c2,c3,λc hc=>?_⟩;rw[q];rcases afL.mp hc with hc|hc
   ·have:=c4 c (List.mem_of_mem_take hc);omega
   ·rcases aht.mp hc with hc|hc
    ·rw[hc];lia
    ·have:=c4 c (agK hc);omega
  ·rw[if_neg q]at eY;by_cases q2:j=s.aa.length
   ·rw[if_pos q2]at eY;apply sE eY;exact⟨hn,ht,ha,λc hc=>by rw[hk]at hc;exact nomatch hc⟩
   ·rw[if_neg q2]at eY;refine fu (C.nd j z eY) λd1 d2 d3 d4=>?_;exact⟨d1,d2,d3,λc hc=>by have:=d4 c hc;lia⟩
 ·exact(g 0).trans (by rw[if_neg (by exact agg Nq),if_neg (by exact agg l0)];exact e1)
 ·by_cases q:(1:Nat)=k
  ·refine⟨_,(g 1).trans (if_pos q),?_⟩;rw[<-q,f1]at h1;apply sE h1;exact⟨f2,f3,f4⟩
  ·exact⟨y1,(g 1).trans (by rw[if_neg q,if_neg (by exact agg l1)];exact f1),f2,f3,f4⟩
theorem Cl.text(C:Cl s)(h:c6 s i=some x)(hj:cy x.af j=some k)(hy:jq s k=some y)(nz:y.tx=true)(ht:dz t):Cl (s.cq k.toNat {y with text:=t}):=by
 refine ka (C.pos h) λa bp h1 kl Nq=>?_;subst bp;refine cN (gT hy) λc bp _ h2=>?_;subst bp;rw[afM];have g:=u4 (z:={y with text:=t}) h2;refine cN (gT hj) λjn _ _ hjn=>?_;have hc:=(C.nd a x h1).2.2.2 _ (agv hjn);refine cN C.n0 λy0 e1 e2 e3=>?_;refine ka C.n1 λy1 f1 f2 f3 f4=>?_;have len:(s.aa.set c {y with text:=t}).length=s.aa.length:=agn;refine⟨λj z hz=>?_,⟨y0,?_,e2,e3⟩,⟨y1,?_,f2,f3,f4⟩,C.er,C.rn⟩
 ·show _/\_/\_/\∀c∈z.af,(j:Int)<c/\c<(_:Nat);have eY:(s.aa.set c {y with text:=t})[j]?=some z:=hz;rw[g]at eY;show _/\_/\_/\∀c'∈z.af,(j:Int)<c'/\c'<((s.aa.set c {y with text:=t}).length:Nat);rw[len];by_cases q:j=c
  ·rw[if_pos q]at eY;apply sE eY;refine fu (C.nd c y h2) λd1 d2 d3 d4=>?_;exact⟨d1,ht,d3,q▸d4⟩
  ·rw[if_neg q]at eY;exact C.nd j z eY
 ·show(s.aa.set c _)[0]?=_;rw[g,if_neg (by lia)];exact e1
 ·show(s.aa.set c _)[1]?=_;rw[g,if_neg (λq=>by rw[<-q,f1]at h2;obtain rfl:=ack h2;rw[nz]at f2;exact nomatch f2)];exact f1
theorem Cl.err(C:Cl s)(h:dj s x y=some s')(hx:dz x)(hy:dz y):Cl s':=by
 unfold dj at h;refine aU (iC h) λ_ h=>?_;apply sE h;refine⟨C.nd,C.n0,C.n1,λe he=>?_,C.rn⟩;rcases afL.mp he with he|he
 ·exact C.er e he
 ·rw[af0.mp he];exact⟨hx,hy⟩
theorem Cl.put(C:Cl s)(h:gw s i a t=some s')(ht:dz t):Cl s':=by
 unfold gw at h;refine bE h λx hx h=>?_;dsimp only at h;have fk:∀{s'},(if aC x.af.length=true/\valid s=true/\0<=a/\a<=x.af.length then
   some {s with aa:=(s.aa.set i.toNat {x with af:=x.af.take a.toNat++(s.aa.length:Int)::x.af.drop a.toNat})++[(⟨true,S "",[],t,[]⟩:LN)]}else none)=some s'->Cl s':=λh=>by
  split at h
  ·apply sE h;exact C.node hx (y:=⟨true,S "",[],t,[]⟩) (p:=s.path) Np ht (λa ha=>by cases ha) rfl
  ·exact ag h
 split at h
 ·refine bE h λk hk h=>?_;refine bE h λy hy h=>?_;split at h
  ·rename_i nz;split at h
   ·apply sE h;refine cN (gT hy) λc bp _ h2=>?_;subst bp;exact C.text hx hk hy nz (aey (C.nd c y h2).2.1 ht)
   ·exact ag h
  ·exact fk h
 ·exact fk h
structure NodeOk(s s':LS)(i:Int)(y:LN)(at_:Nat)(name:Str)(as:List U):Prop where
 el:c6 s i=some y
 val:valid s=true
 len:y.af.length<=900000
 path:s.path.length<=900000
 atl:as.length<=900000
 qO:at_<=y.af.length
 eq:s'={s with aa:=(s.aa.set i.toNat {y with af:=y.af.take at_++(s.aa.length:Int)::y.af.drop at_})++[⟨false,name,as,S "",[]⟩],path:=s.path++[(s.aa.length:Int)]}
theorem aez(h:ki s i at_ name as=some s'):∃y,NodeOk s s' i y at_ name as:=by
 unfold ki at h;refine bE h λy hy h=>?_;split at h
 ·rename_i c;refine wI c λc1 c2 c3 c4 c5=>?_;cases h;exact⟨y,hy,c2,eG c1,eG c3,eG c4,c5,rfl⟩
 ·cases h
theorem Cl.Nr(C:Cl s)(h:ki s i a name as=some s')(hn:dz name)(ha:pZ as):Cl s':=by refine aI (aez h) λy N=>?_;rw[N.eq];exact C.node N.el (y:=⟨false,name,as,S "",[]⟩) hn Np ha rfl
theorem Cl.zE(C:Cl s)(h:fT s name as=some s')(hn:dz name)(ha:pZ as):Cl s':=by unfold fT at h;refine bE h λi hi h=>?_;refine bE h λy hy h=>?_;exact C.Nr h hn ha
theorem Cl.jh(C:Cl s)(h:gc s=some s'):Cl s':=by unfold gc at h;refine bE h λr _ h=>?_;apply sE h;exact C.zD rfl rfl C.rn
theorem rK(ns:List Str):dz (dH ns):=by
 have:∀(l:List Str) (m:Str),dz m->dz (l.foldl jr m):=λl=>by
  induction l with
  |nil=>exact λm h=>h
  |cons x r ih=>
   intro m h;refine ih _ ?_;unfold jr;cases q:sH.lookup x with
   |none=>exact h
   |some y=>
    have sz:(sH.map (·.2)).all PyData.strOk=true:=by decide+kernel
    exact afF.mp sz y (Ej q)
 exact this ns _ (by decide+kernel)
theorem Cl.leave(C:Cl s)(h:fC s keep=some s'):Cl s':=by
 unfold fC at h;refine aU (iC h) λ_ h=>?_;refine bE h λs1 h1 h=>?_;have C1:Cl s1:=by
  split at h1
  ·exact C.err h1 (by decide+kernel) (rK _)
  ·apply sE h1;exact C
 split at h
 ·apply sE h;exact C1.zD rfl rfl C1.rn
 ·exact ag h
theorem Cl.Nt:∀{r:List Str} {s s':LS},Cl s->(∀t∈r,dz t)->qJ bl place r s=some s'->Cl s'
 |[],s,s',C,_,h=>by cases h;exact C
 |x::r,s,s',C,hr,h=>by
  refine bE h λi _ h=>?_;refine bE h λy _ h=>?_;refine aU (iC h) λ_ h=>?_;refine bE h λs1 h1 h=>?_;refine bE h λs2 h2 h=>?_;have C1:=C.put h1 (hr x (agw ..));have C2:Cl s2:=by
   split at h2
   ·exact C1.err h2 (by decide+kernel) (by decide+kernel)
   ·apply sE h2;exact C1
  exact C2.Nt (λt ht=>hr t (agk _ ht)) h
theorem Cl.settle(C:Cl s)(h:mw s=some s'):Cl s':=by
 unfold mw at h;split at h
 ·exact Cl.Nt (s:={s with run:=[],rk:=s.rk+1,old:=some s.run}) (C.zD rfl rfl λt ht=>by cases ht) C.rn h
 ·exact ag h
theorem Cl.sign(C:Cl s)(ht:dz t)(h:mx s t=some s'):Cl s':=by
 unfold mx at h;refine aU (iC h) λ_ h=>?_;refine bE h λi _ h=>?_;refine bE h λy _ h=>?_;refine aU (iC h) λ_ h=>?_;dsimp only at h;split at h
 ·exact C.put h ht
 ·split at h
  ·refine bE h λs1 h1 h=>?_;exact(C.err h1 (by decide+kernel) (rK _)).put h ht
  ·refine bE h λs1 h1 h=>?_;have C1:Cl s1:=by
    split at h1
    ·exact C.jh h1
    ·apply sE h1;exact C
   refine aU (iC h) λ_ h=>?_;apply sE h;refine C1.zD rfl rfl λu hu=>?_;rcases afL.mp hu with hu|hu
   ·exact C1.rn u hu
   ·rw[af0.mp hu];exact ht
theorem Cl.Nu:∀{r:List Str} {s s':LS},Cl s->(∀t∈r,dz t)->u0 r s=some s'->Cl s'
 |[],s,s',C,_,h=>by cases h;exact C
 |x::r,s,s',C,hr,h=>by
  refine bE h λs1 h1 h=>?_;refine bE h λs2 h2 h=>?_;have C1:Cl s1:=by
   split at h1
   ·exact C.err h1 (by decide+kernel) (by decide+kernel)
   ·apply sE h1;exact C
  exact(C1.zE h2 (hr x (agw ..)) (λa ha=>by cases ha)).Nu (λt ht=>hr t (agk _ ht)) h
theorem Cl.part(C:Cl s)(hn:dz name)(ha:pZ as)(h:lR s name as place aR=some s'):Cl s':=by
 unfold lR at h;split at h
 ·dsimp only at h;refine bE h λs1 h1 h=>?_;refine bE h λs2 h2 h=>?_;refine bE h λs3 h3 h=>?_;have hw:=afF.mp (M4 name).2;have C3:=((C.leave h1).Nu (λt ht=>hw t (agK ht)) h2).zE h3 hn ha;split at h
  ·exact C3.jh h
  ·apply sE h;exact C3
 ·exact ag h
structure zF(t:aS):Prop where
 name:dz t.name
 aX:∀as,jT t=some as->pZ as
theorem Cl.other(C:Cl s)(T:zF t)(h:kY s t place aR=some s'):Cl s':=by
 unfold kY at h;split at h
 ·dsimp only at h;refine bE h λs1 h1 h=>?_;have C1:Cl s1:=by
   split at h1
   ·exact C.err h1 (by decide+kernel) (rK _)
   ·apply sE h1;exact C
  split at h
  ·split at h
   ·split at h
    ·exact C1.jh h
    ·apply sE h;exact C1
   ·exact ag h
  ·split at h
   ·refine bE h λas has h=>?_;split at h
    ·refine bE h λk _ h=>?_;refine bE h λy _ h=>?_;split at h
     ·exact C1.Nr h T.name (T.aX as has)
     ·exact ag h
    ·exact C1.zE h T.name (T.aX as has)
   ·refine bE h λf _ h=>?_;split at h
    ·exact C1.err h (by decide+kernel) (rK _)
    ·apply sE h;exact C1
 ·exact ag h
theorem Cl.tag(C:Cl s)(T:zF t)(h:my s t=some s'):Cl s':=by
 unfold my at h;refine aU (iC h) λ_ h=>?_;refine bE h λs1 h1 h=>?_;have C1:Cl s1:=by
  split at h1
  ·exact C.jh h1
  ·apply sE h1;exact C
 refine aU (iC h) λ_ h=>?_;generalize(if cR (bq s)==[S "colgroup"]&&(t.name !=S "col"&&!(t.kind==S "end"&&t.name==S "colgroup")) then[]else cR (bq s))=aR at h;split at h
 ·exact C1.other T h
 ·split at h
  ·refine bE h λs2 h2 h=>?_;refine bE h λs3 h3 h=>?_;refine bE h λas has h=>?_;exact((C1.err h2 (by decide+kernel) (rK _)).leave h3).zE h T.name (T.aX as has)
  ·split at h
   ·refine bE h λas has h=>?_;exact C1.part T.name (T.aX as has) h
   ·split at h
    ·exact C1.leave h
    ·split at h
     ·exact C1.leave h
     ·exact C1.err h (by decide+kernel) (rK _)
theorem Cl.step(C:Cl s)(T:zF t)(h:sI s t=some s'):Cl s':=by
 unfold sI at h;split at h
 ·exact C.sign T.name h
 ·refine bE h λs1 h1 h=>?_;exact(C.settle h1).tag T h
theorem aeA{k:Nat}(h:k<=12):dz (Str.ofString (toString (k:Int))):=by
 have ha:(List.range 13).all (λk=>PyData.strOk (Str.ofString (toString (k:Int))))=true:=by decide+kernel
 exact afF.mp ha k (ahy.mpr (by exact af9 h))
theorem wA:dz (S "char")/\dz (S "start")/\dz (S "end")/\dz (S "at"):=by decide+kernel
theorem aeB:Cl (aE b0 0 0 none):=by
 refine⟨λi x h=>?_,⟨_,rfl,by kernel_rfl,rfl⟩,⟨_,rfl,by kernel_rfl,rfl,rfl⟩,λe he=>(by cases he),λt ht=>(by cases ht)⟩;have h':(b0.aa.map dw)[i]?=some x:=h
 match i,h' with
 |0,h'=>apply sE h';exact⟨by decide+kernel,by decide+kernel,λa ha=>(by cases ha),λk hk=>by
   have jA:k∈([1]:List Int):=hk;rw[af0.mp jA];decide⟩
 |1,h'=>apply sE h';exact⟨by decide+kernel,by decide+kernel,λa ha=>(by cases ha),λk hk=>by
   have jA:k∈([2,3]:List Int):=hk;rcases aht.mp jA with e|e
   ·rw[e];decide
   ·rw[af0.mp e];decide⟩
 |2,h'=>apply sE h';exact⟨by decide+kernel,by decide+kernel,λa ha=>(by cases ha),λk hk=>by cases hk⟩
 |3,h'=>apply sE h';exact⟨by decide+kernel,by decide+kernel,λa ha=>(by cases ha),λk hk=>by cases hk⟩
 |i+4,h'=>exact ag h'
theorem Nv(h:y∈gi):dz y:=by
 have:gi.all PyData.strOk=true:=by decide+kernel
 exact afF.mp this y h
theorem Nw(cL:Int){k:Nat}(hk:k<=12):zF (fE cL k)/\dz (fE cL k).kind:=by
 refine aU (Ep cL) λ_ h=>?_;unfold fE;by_cases c1:24<=drawnOf cL
 ·rw[if_pos c1];refine ao (Er (i:=drawnOf cL-24) (by exact agG c1 h)) λc e hm=>?_;rw[e];have hz:pY.cps.toList.all (λc=>decide (c<0x110000))=true:=by decide+kernel
  have h0:=afF.mp hz c hm;refine⟨⟨?_,λas e=>by exact ag e⟩,wA.1⟩;show(#[c]:Array Nat).all _=true;simpa using h0
 ·rw[if_neg c1];by_cases c2:12<=drawnOf cL
  ·rw[if_pos c2];refine ao (tU (i:=drawnOf cL-12) (by exact agG c2 (ahc c1))) λy e hm=>?_;rw[e];exact⟨⟨Nv hm,λas e=>(by refine sE e ?_;exact λa ha=>(by cases ha))⟩,wA.2.2.1⟩
  ·rw[if_neg c2];refine ao (tU (i:=drawnOf cL) (by exact ahc c2)) λy e hm=>?_;rw[e];refine⟨⟨Nv hm,λas e=>?_⟩,wA.2.1⟩;have e':some [U.aJ [.str (S "at"),.str (Str.ofString (toString (k:Int)))]]=some as:=e;refine sE e' ?_;exact λa ha=>⟨_,_,af0.mp ha,wA.2.2.2,aeA hk⟩
structure Fin(b:B)(N c:Nat):Prop where
 el:∀k∈b.stack,∃x,nd b k=some x/\x.name=aH b k
 mode:b.mode=if b.aQ.isEmpty then dH (names b)else S "in table text"
 bJ:b.bJ=dJ (names b)
 mS:∀x∈names b,dz x
 kind:∀(i:Nat) (x:Nd),b.aa[i]?=some x->0<i->x.kind=S "element"\/x.kind=S "text"
 zn:b.aa.length<=N
 zs:b.stack.length<=N
 ze:b.aK.length<=N
 zk:∀(i:Nat) (x:Nd),b.aa[i]?=some x->x.af.length<=N
 zp:b.aQ.length<=N+c
theorem aeC(O:Ok b N)(hN:N<=800000):∀k∈b.stack,∃x,nd b k=some x/\x.name=aH b k:=λk hk=>by refine cV (O.el k hk) λi x aP h2 _=>?_;subst aP;refine⟨x,(O.nd hN i).trans h2,?_⟩;unfold aH;rw[afM,h2];rfl
theorem kD.fin(I:kD b N)(hN:N<=800000)(c:Nat):Fin b N c:=by refine⟨aeC I.ok hN,?_,I.bJ,I.shape.ok.1,I.ok.kind,I.ok.zn,I.ok.zs,I.ok.ze,I.ok.zk,by have:=I.ok.zp;exact agY this⟩;exact I.bW▸I.shape.ok.2.symm
theorem Inv.fin(I:Inv b N c)(hN:N<=800000):Fin b N c:=by
 refine Or.elim I (λI=>?_) λJ=>?_
 ·exact I.fin hN c
 ·have F:=J.base.fin hN c;refine⟨F.el,?_,F.bJ,F.mS,F.kind,F.zn,F.zs,F.ze,F.zk,by have:=J.zp;exact Nat.le_add_left_of_le this⟩;rw[J.mode];cases e:b.aQ with
  |nil=>exact absurd e J.ne
  |cons=>rfl
noncomputable def oH:U->PyData
 |.aJ [.str u,.str v]=>.tuple [.str u,.str v]
 |_=>.none
def jb(b:B):Nat->Int->PyData
 |0,_=>.none
 |f+1,i=>match nd b i with
  |some x=>if x.kind==S "text" then .str x.text else .list [.str x.name,.list (x.aX.map oH),.list (x.af.map (jb b f))]
  |none=>.none
theorem EA:∀{as:List U},pZ as->gW X as (as.map oH)
 |[],_=>.nil
 |a::r,h=>by refine cQ (h a (agw ..)) λu v aP _=>?_;subst aP;exact .cons (.aJ (.cons (.str _) (.cons (.str _) .nil))) (EA λa ha=>h a (agk _ ha))
theorem Nx:∀{as:List U},pZ as->PyData.canLayAll0 (as.map oH)=true/\PyData.depthAll (as.map oH)<=1
 |[],_=>⟨rfl,afO _⟩
 |a::r,h=>by
  refine cV (h a (agw ..)) λu v aP hu hv=>?_;subst aP;refine aU (Nx (as:=r) λa ha=>h a (agk _ ha)) λi1 i2=>?_;constructor
  ·show(PyData.canLay0 (.tuple [.str u,.str v])&&PyData.canLayAll0 (r.map oH))=true;rw[i1,Bool.and_true];show((PyData.strOk u)&&(PyData.strOk v&&true))=true;rw[hu,hv];rfl
  ·show max (PyData.depth (.tuple [.str u,.str v])) (PyData.depthAll (r.map oH))<=1;exact ag4.mpr ⟨afD 1,i2⟩
theorem rL:∀{l:List α},(∀a∈l,fS X (f a) (g a))->gW X (l.map f) (l.map g)
 |[],_=>.nil
 |a::r,h=>.cons (h a (agw ..)) (rL λa ha=>h a (agk _ ha))
theorem tY:∀{l:List α},(∀a∈l,(g a).canLay0=true)->PyData.canLayAll0 (l.map g)=true
 |[],_=>rfl
 |a::r,h=>by show((g a).canLay0&&PyData.canLayAll0 (r.map g))=true;rw[h a (agw ..),tY λa ha=>h a (agk _ ha)];rfl
theorem tZ:∀{l:List α},(∀a∈l,(g a).depth<=n)->PyData.depthAll (l.map g)<=n
 |[],_=>afO _
 |a::r,h=>by show max (g a).depth (PyData.depthAll (r.map g))<=n;have h1:=h a (agw ..);have h2:=tZ (l:=r) λa ha=>h a (agk _ ha);exact ag4.mpr ⟨‹_›,‹_›⟩
section
variable{b:B}{N c:Nat}{s:LS}
theorem t8{i:Nat}(h:b.aa[i]?=some x):(aE b pk rk old).aa[i]?=some (dw x):=by show(b.aa.map dw)[i]?=_;rw[afX,h];rfl
theorem aeD(F:Fin b N c)(hN:N<=800000)(C:Cl (aE b pk rk old)):∀(f i:Nat),b.aa.length<=f+i->i<b.aa.length->mW b f (i:Int):=λkK=>by
 induction kK with
 |zero=>exact λi h hi=>absurd hi (by omega)
 |succ f ih=>
  rintro i h hi;have e:b.aa[i]?=some b.aa[i]:=afH hi;have e':nd b (i:Int)=some b.aa[i]:=by unfold Mine.nd;rw[mB (by have:=F.zn;exact bt (ads this hN)) i];exact e
  refine⟨_,e',by have:=F.zk i _ e;exact bt (ads ‹_› ‹_›),λ_ k hk=>?_⟩;have hc:=(C.nd i _ (t8 e)).2.2.2 k hk;have len:(aE b pk rk old).aa.length=b.aa.length:=afA ..;replace hc:=len▸hc;obtain⟨j,rfl⟩:∃j:Nat,k=j:=⟨k.toNat,by lia⟩;exact ih j (by lia) (by lia)
theorem mW.at(h:mW b (f+1) i):∃(j:Nat) (x:Nd),i=(j:Int)/\b.aa[j]?=some x/\nd b i=some x/\((x.kind==S "text")=false->∀k∈x.af,mW b f k):=by refine ao h λx e z=>?_;refine ao (gT e) λj e1 z2=>?_;exact⟨j,x,e1,z2.2,e,z.2⟩
theorem aeE(C:Cl (aE b pk rk old)):Ew b:=λx hx=>by refine aI (List.mem_iff_getElem?.mp hx) λi hi=>?_;intro a ha;refine cQ ((C.nd i _ (t8 hi)).2.2.1 a ha) λu v e _=>?_;exact⟨u,v,e⟩
theorem aeF(C:Cl (aE b pk rk old))(f:Nat):∀(i:Int),mW b f i->(jb b f i).canLay0=true/\(jb b f i).depth<=2*f+2:=by
 induction f with
 |zero=>exact λi h=>h.elim
 |succ f ih=>
  intro i h;refine ed h.at λj x ei e' e hk=>?_;refine fu (C.nd j _ (t8 e')) λh1 h2 h3 _=>?_;rewrite [jb];rw[e];dsimp only;cases q:(x.kind==S "text")
  ·rw[if_neg (by decide)];have jA:=hk q;refine aU (Nx h3) λa1 a2=>?_;constructor
   ·show(PyData.strOk x.name&&(PyData.canLayAll0 (x.aX.map oH)&&(PyData.canLayAll0 (x.af.map (jb b f))&&true)))=true;have a1':PyData.canLayAll0 (x.aX.map oH)=true:=a1;have Kp:PyData.strOk x.name=true:=h1;rw[Kp,a1',tY λk hk=>(ih k (jA k hk)).1];rfl
   ·have d:=tZ (g:=jb b f) (n:=2*f+2) (l:=x.af) λk hk=>(ih k (jA k hk)).2;have a2':PyData.depthAll (x.aX.map oH)<=1:=a2;exact af9 (ag4.mpr ⟨afO _,ag4.mpr ⟨ads (af9 a2') (ago _ _),ag4.mpr ⟨af9 d,afO _⟩⟩⟩)
  ·rw[if_pos rfl];exact⟨h2,afO _⟩
theorem aeG{old:Option (List Str)}(C:Cl (aE b pk rk old))(f:Nat):∀(i:Int),mW b f i->fS X (oG b f i) (jb b f i):=by
 induction f with
 |zero=>exact λi h=>h.elim
 |succ f ih=>
  intro i h;refine ed h.at λj x ei e' e hk=>?_;refine fu (C.nd j _ (t8 e')) λh1 h2 h3 _=>?_;rewrite [jb,oG];rw[e];dsimp only;cases q:(x.kind==S "text")
  ·rw[if_neg (by decide),if_neg (by decide)];exact .az (.cons (.str _) (.cons (.az (EA h3)) (.cons (.az (rL λk jA=>ih k (hk q k jA))) .nil)))
  ·rw[if_pos rfl,if_pos rfl];exact .str _
theorem aeH(F:Fin b N c){pk rk:Nat}(C:Cl (aE b pk rk old))(f:Nat):∀(i:Int),mW b f i->0<i->fS (hp b (lG x (aE b pk rk old)) n) (cz (aE b pk rk old) i) (jb b f i):=by
 induction f with
 |zero=>exact λi h _=>h.elim
 |succ f ih=>
  intro i h hi;refine ed h.at λj y ei e' e hk=>?_;refine fu (C.nd j _ (t8 e')) λh1 h2 h3 h4=>?_;have hl:=t8 (pk:=pk) (rk:=rk) (old:=old) e';rewrite [jb];rw[e];dsimp only;have ek:cz (aE b pk rk old) i=if y.kind !=S "element" then .str y.text else .az [.str y.name,.az y.aX,.ae (.bM j)]:=by unfold cz;rw[ei,afM,hl];rfl
  rw[ek];rcases F.kind j y e' (by lia)with q|q
  ·rw[q,if_neg (by rw[bne_self_eq_false];decide),if_neg (by decide)];refine .az (.cons (.str _) (.cons (.az (EA h3)) (.cons (.ae (xs:=y.af.map (cz (aE b pk rk old))) ?_ (rL λk jA=>ih k (hk (by rw[q];simp[u9]) k jA) (by have:=h4 k jA;lia))) .nil)));rw[lS rfl,iX,hl];show(if y.kind !=S "element" then none else some (cx.list (y.af.map (cz (aE b pk rk old)))))=_;rw[q,if_neg (by rw[bne_self_eq_false];decide)]
  ·rw[q,if_pos (by decide+kernel),if_pos (by rw[agA])];exact .str _
end
theorem Inv.more(I:Inv b N c)(h:N<=M):Inv b M c:=by
 refine Or.elim I (λI=>?_) λJ=>?_
 ·exact .inl (I.more h)
 ·exact .inr ⟨J.base.more h,J.pl,J.mode,J.ne,J.zp,J.sg⟩
theorem Inv.dh(I:Inv b N c)(hN:N+c<=800000)(pk rk:Nat)(old:Option (List Str)):Mine.dh (aE b pk rk old)=true:=by
 have F:=I.fin (by exact agl hN);have O:Ok b (N+c):=by
  refine Or.elim I (λI=>?_) λJ=>?_
  ·exact I.ok.same rfl (afV _) (ads I.ok.ze (agH _ _)) (ads I.ok.zp (agH _ _)) (agH _ _)
  ·exact J.ok
 exact q5 O hN pk rk old F.mS
structure At(i:Nat)(b:B)(s:LS):Prop where
 Ny:Inv b (10+32*i) i
 cl:Cl s
 eO:∃pk rk old,s=aE b pk rk old
theorem At.start:At 0 b0 (aE b0 0 0 none):=⟨abc,aeB,_,_,_,rfl⟩
theorem At.step(A:At i b s)(hi:i<=13)(cL:Int)(hk:k<=12):∃b' s',qw b (fE cL k)=some b'/\sI s (fE cL k)=some s'/\At (i+1) b' s':=by
 obtain⟨I,C,pk,rk,old,rfl⟩:=A;have st:tJ b (10+32*i) i (fE cL k):=by
  rcases aet cL k with⟨as,h⟩|h|h
  ·exact aa8 I (by omega) (by exact bt (agM (Nat.mul_le_mul_left 32 hi) 10)) (by exact bt hi) h
  ·exact aa9 I (by omega) (by exact bt (agM (Nat.mul_le_mul_left 32 hi) 10)) (by exact bt hi) h
  ·exact aba I (by omega) (by exact bt (agM (Nat.mul_le_mul_left 32 hi) 10)) (by exact bt hi) h
 refine cN st λb' e1 I' eO=>?_;refine kH (eO pk rk old) λjC Dv yQ e2=>?_;exact⟨b',_,e1,e2,I'.more (by lia),C.step (Nw cL hk).1 e2,jC,Dv,yQ,rfl⟩
section
variable{i:Nat}{b:B}{s:LS}
theorem At.fin(A:At i b s)(hi:i<=14):Fin b (10+32*i) i:=A.Ny.fin (by exact bt (agM (Nat.mul_le_mul_left 32 hi) 10))
theorem At.dh(A:At i b s)(hi:i<=14):dh s=true:=by refine kH A.eO λpk rk old bK=>?_;subst bK;exact A.Ny.dh (by lia) pk rk old
theorem At.names(A:At i b s):bq s=names b:=by refine kH A.eO λpk rk old bK=>?_;subst bK;exact nP ..
theorem At.run(A:At i b s):s.run=b.aQ:=by refine kH A.eO λpk rk old bK=>?_;subst bK;rfl
theorem At.aK(A:At i b s):s.aK=b.aK:=by refine kH A.eO λpk rk old bK=>?_;subst bK;rfl
theorem At.mode(A:At i b s)(hi:i<=14):b.mode=if s.run.isEmpty then dH (bq s)else S "in table text":=by rw[A.run,A.names];exact(A.fin hi).mode
def wB(b:B):PyData:=.tuple [.str b.mode,.list ((names b).map .str),.list (b.bJ.map .int)]
def rM(x:Str):PyData:=.tuple [.str (S "char"),.str x]
noncomputable def p8 (es:List (Str×Str)):PyData:=.list (es.map λe=>.tuple [.str e.1,.str e.2])
theorem aeI{ss:List Str}(h:∀x∈ss,dz x):PyData.canLayAll0 (ss.map .str)=true:=tY λa ha=>h a ha
theorem aeJ(ks:List Int):PyData.canLayAll0 (ks.map .int)=true:=tY λa ha=>rfl
theorem At.aeK(A:At i b s)(hi:i<=14):(wB b).canLay0=true:=by
 have F:=A.fin hi;have hm:dz b.mode:=by
  rw[F.mode];split
  ·exact rK _
  ·decide+kernel
 show(PyData.strOk b.mode&&(PyData.canLayAll0 ((Mine.names b).map .str)&&(PyData.canLayAll0 (b.bJ.map .int)&&true)))=true;rw[hm,aeI F.mS,aeJ];rfl
theorem aeL(b:B):(wB b).depth<=10:=by have h1:=tZ (g:=PyData.str) (n:=0) (l:=Mine.names b) λk hk=>afD _;have h2:=tZ (g:=PyData.int) (n:=0) (l:=b.bJ) λk hk=>afD _;exact ads (af9 (ag4.mpr ⟨afO _,ag4.mpr ⟨af9 h1,ag4.mpr ⟨af9 h2,afO _⟩⟩⟩)) (by decide:2<=10)
theorem EB(h:d.canLay0=true):PyData.eqv d d=true:=PySem.SeqAt.eqv_refl d h
theorem At.aeM(A:At i b s):(PyData.list (b.aQ.map rM)).canLay0=true:=by show PyData.canLayAll0 _=true;refine tY λa ha=>?_;have h:=A.cl.rn a (by exact A.run▸ha);show(PyData.strOk (S "char")&&(PyData.strOk a&&true))=true;rw[show PyData.strOk (S "char")=true from wA.1,h];rfl
theorem aeN(ss:List Str):(PyData.list (ss.map rM)).depth<=10:=by
 have h1:=tZ (g:=rM) (n:=1) (l:=ss) λk hk=>by unfold rM;simp only[PyData.depth,PyData.depthAll];exact afD _
 simp only[PyData.depth];exact bt (af9 h1)
theorem At.aeO(A:At i b s):(p8 b.aK).canLay0=true:=by show PyData.canLayAll0 _=true;refine tY λa ha=>?_;refine aU (A.cl.er a (by exact A.aK▸ha)) λh1 h2=>?_;show(PyData.strOk a.1&&(PyData.strOk a.2&&true))=true;rw[h1,h2];rfl
theorem aeP(es:List (Str×Str)):(p8 es).depth<=10:=by
 have h1:=tZ (g:=λe:Str×Str=>PyData.tuple [.str e.1,.str e.2]) (n:=1) (l:=es) λk hk=>by simp only[PyData.depth,PyData.depthAll];exact afD _
 unfold p8;simp only[PyData.depth];exact bt (af9 h1)
def Nz:U->Bool
 |.str z=>aw yN z
 |_=>false
theorem aeQ(ns:List Str):(((ns.map U.str).filter Nz).map λ_=>U.int (-1))=(dJ ns).map .int:=by rw[List.filter_map,agI];unfold dJ;rw[agI];rfl
def NA(b:B):U->U
 |.int k=>.str (aH b k)
 |y=>y
theorem aeR(b:B):((cP b.stack).filter λ_=>true).map (NA b)=(Mine.names b).map .str:=by rw[agN.mpr λ_ _=>rfl];unfold cP Mine.names;rw[agI,agI];rfl
def NB:U->U
 |.str x=>ia x
 |y=>y
theorem aeS(ss:List Str):(((ss.map U.str).filter λ_=>true).map NB)=ss.map ia:=by rw[agN.mpr λ_ _=>rfl,agI];rfl
section
variable{X:AH}
theorem NC(ss:List Str):gW X (ss.map .str) (ss.map .str):=rL λa _=>.str a
theorem ND(ks:List Int):gW X (ks.map .int) (ks.map .int):=rL λa _=>.int a
theorem NF(ss:List Str):gW X (ss.map ia) (ss.map rM):=rL λa _=>.aJ (.cons (.str _) (.cons (.str _) .nil))
theorem NG(es:List (Str×Str)):gW X (bT es) (es.map λe=>.tuple [.str e.1,.str e.2]):=rL λa _=>.aJ (.cons (.str _) (.cons (.str _) .nil))
theorem NH(h1:fS X u (.str b.mode))(h2:fS X v (.list ((Mine.names b).map .str)))(h3:fS X w (.list (b.bJ.map .int))):fS X (.aJ [u,v,w]) (wB b):=.aJ (.cons h1 (.cons h2 (.cons h3 .nil)))
end
end
abbrev BL:Type:=B×LS
noncomputable def xT (ts:List U):LX:=⟨some (.ae .bP),some ts⟩
noncomputable def EC:List U->Bool
 |[]=>true
 |_::.bool _::_=>true
 |_=>false
theorem aeT(h:EC l=true):(∃x f tl,l=x::.bool f::tl)\/l=[]:=by
 induction l with
 |nil=>exact .inr rfl
 |cons x l _=>
  induction l with
  |nil=>exact nomatch h
  |cons y l _=>
   induction y using U.casesOn with
   |bool f=>exact .inl ⟨_,_,_,rfl⟩
   |_=>exact nomatch h
def ED(t:aS)(z:BL):Option BL:=cond (EC t.rest) ((qw z.1 t).bind λb=>some (b,z.2)) none
def zG(x:Str)(z:BL):Option BL:=(mx z.2 x).bind λs=>some (z.1,s)
def wC(z:BL):Option BL:=(mw z.2).bind λs=>some (z.1,s)
def zH(t:aS)(z:BL):Option BL:=cond (PyData.strOk t.kind&&PyData.strOk t.name) ((zr t.rest).bind λ_=>(my z.2 t).bind λs=>some (z.1,s)) none
def tbM(ρ:Type):List (Addr×cA BL ρ):=(871,aZ ay 0 250 (bF ar) (cB λa z=>ED a.1 z))::(990,aZ ay 4 4 (bN ar) (cB λa z=>zG a.1 z))::(983,aZ ay 4 4 ar (cB λ_ z=>wC z))::(1009,aZ ay 4 6 (bF ar) (cB λa z=>zH a.1 z))::(957,aZ ay 4 1 ar (fs bO λ_ z=>jG z.2))::(940,mH ay 2 (rG ar) (fs .str λa _=>some (dH a.1)))::[]
def zI(f:aV)(x:Str):Bool:=nR f.cs&&(!(x==("__debug__":Str))&&((f.cs.names.lookup x==some .cell)&&cG (f.cm.lookup x) (λl=>cG (pS (.ae l)) (Nat.beq 0) false) false))
def trM(x:U)(z:BL)(k:Bool->Option ρ):Option ρ:=(wc x).bind λj=>cond (Nat.beq j z.2.rk) (if aC z.2.run.length then k (!z.2.run.isEmpty)else none) none
def evM(f:aV)(e:Expr)(z:BL)(k:U->BL->Option ρ):Option ρ:=(lY (vw e)).bind λx=>cond (zI f x) (k (.ae .bP) z) none
def itM(x y:U)(z:BL)(k:U->Option ρ):Option ρ:=cond (Nat.beq (d9 x) 5) (Mk x y z.2 k) (Ih x y z.1 k)
def DM(ρ:Type)(ts:List U):Dm BL ρ:=
 {hz:=λz n=>hp z.1 (lG (xT ts) z.2) n,o:=0,bi:=ft,g:=gB,lc:=λ_=>false,mt:=λx z a k=>B5 x z.1 a k,fl:=λx z a=>Ib x z.1 a,pc:=λ_ _ _=>none,dt:=λ_ _ _ _ _=>none,gY:=λ_ _ _ _ _=>none,item:=itM,last:=λ_ _ _=>none,kq:=λ_ _ _ _ _=>none,lg:=λ_ _ _ _ _=>none,tr:=trM,call:=ye (tbM ρ) λ_ _ _ _=>none,tail:=λ_ _ _ _=>none,gk:=λ_=>none,ev:=λ_ f _ e z k=>evM f e z k,st:=λ_ _ _ _ _ _=>none}
theorem wD(h:zI f x=true):fh f x .cell/\f.cm.lookup x=some (.path 0):=by
 unfold zI at h;have h2:=gH (gH h);exact⟨⟨xY (hB h),.of (afI.mp (hB h2)),by simpa using hB (gH h)⟩,by
  refine ao (vm (gH h2)) λl e1 e2=>?_;refine ao (vm e2) λj e3 e4=>?_;have e5:=Me e3;injection e5 with e5
  rw[e1,e5,afN e4]⟩
section
theorem NI:iL (DM ρ ts) r where
 g x c h:=by induction c<;>exact ym h
 lc a h:=nomatch h
 mt x z a k h P g:=Ip (G:=lG (xT ts) z.2) h λc h1 h2=>g c h1 λn=>by have:=h2 n;induction c<;>exact this
 fl x z a v h n:=bE h λq h1 h=>cE h λhc h=>bE h λu h2 h=>cE h λhp h=>⟨_,_,HQ HP _ _ hc,B4 h1,h2.trans h,ack h▸Ia hp⟩
 pc d a xs y h z n Q q:=ag h
 dt op x y z k h:=ag h
 gY op x y z k h:=ag h
 item x y z k h P g:=dE h (λ_ h=>(jF (b:=z.1) (xt:=xT ts) (c:=ay) (tb:=[]) (r:=r) cH).item x y z.2 k h g)
  λ_ h=>(bo (G:=lG (xT ts) z.2) (c:=ay) (o:=0) (kp:=false) (pc:=[]) (tb:=[]) (r:=r) cH cH).item x y z.1 k h g
 last x z k h:=ag h
 kq a x v z k h:=ag h
 lg x y v z k h:=ag h
 tr x z k h P g:=bE h λj h1 h=>cE h λh2 h=>cF h λho h=>g _ h λd n Q q=>by rw[DU h1 h2];exact Tr.list xH (mT ho) (by rw[show(z.2.run.map U.str).isEmpty=z.2.run.isEmpty by cases z.2.run<;>rfl];exact q)
 call d c xs z k h Q q n:=BS (D:=DM ρ ts) (bm:=λ_ _ _ _=>none) (λ_ _ _ _ h=>ag h) (aG (bx (λa z r h Q q n=>cE h λhr h=>bE h λb hb h=>aby (aeT hr) hb λn=>by obtain rfl:=ack h;exact q n) rfl)
  (aG (bx (λa z r h Q q n=>bE h λs hs h=>adG hs λn=>by obtain rfl:=ack h;exact q n) rfl)
  (aG (bx (λa z r h Q q n=>bE h λs hs h=>aem hs λn=>by obtain rfl:=ack h;exact q n) rfl)
  (aG (bx (λa z r h Q q n=>cE h λho g1=>bE g1 λt ht g2=>bE g2 λs hs g3=>by
   obtain⟨⟨kk,nm,rest⟩,u⟩:=a;obtain rfl:rest=.aJ t.1::.bool t.2.1::t.2.2:=MT ht;exact aeo (hB ho) (gH ho) hs λn=>by obtain rfl:=ack g3;exact q n) rfl)
  (aG (bx (λa z r h Q q n=>cF h λcC h=>by obtain rfl:=ack h;exact MC cC (q n)) rfl)
  (aG (nT (λa z r h Q q n=>by obtain rfl:=ack h;exact MB q) rfl) cH)))))) h Q q n
 tail d c xs z h:=ag h
 ev d f m e z k h Q q n:=bE h λx h1 g=>cE g λhc g=>by refine aI (mI h1) λp e1=>?_;exact e1▸Ev.cell (wD hc).2 (.inl (wD hc).1) (show(hp z.1 (lG (xT ts) z.2) n).get (.path 0)=_ from rfl) (q _ _ _ g)
 st d f m s z k h:=ag h
end
abbrev fL:aV:=.fn (S "law") (fO (H.aD 104)) 1014 (.ref 1013) [(S "builder",.path 0)]
abbrev bL:List Stmt:=cZ (H.aD 104)
abbrev tB(i:Nat):Stmt:=aB (eI (aB bL 11)) i
def p9:U:=.az [.str (S "html"),.az [],.ae (.bM 1)]
abbrev hO:Lo:=[(S "state",.ae .cw),(S "root",p9)]
noncomputable def nx:Fl->Lo->Z->Option (Lo×Z)
 |.next,m,z=>some (m,z)
 |_,_,_=>none
section
variable(t:aS)(ts:List U)(z:BL)
theorem aeU:(ms (DM (Lo×BL) ts) 50).S 500 fL ((S "token",b7 t)::hO) (tB 0) z false nx=(ED t z).bind λz=>some ((S "token",b7 t)::hO,z):=by kernel_rfl
theorem aeV:(ms (DM (Lo×BL) ts) 50).S 500 fL ((S "token",b7 t)::hO) (tB 1) z false nx=if t.kind==S "char" then(zG t.name z).bind λz=>some ((S "token",b7 t)::hO,z)else(wC z).bind λz=>(zH t z).bind λz=>some ((S "token",b7 t)::hO,z):=by kernel_rfl
theorem aeW:(ms (DM (Lo×BL) ts) 50).S 500 fL ((S "token",b7 t)::hO) (tB 2) z false nx=(jG z.2).bind λns=>some ((S "names",bO ns)::(S "token",b7 t)::hO,z):=by kernel_rfl
theorem aeX(ns:List Str)(mk:U):(ms (DM (Lo×BL) ts) 50).S 500 fL ((S "marks",mk)::(S "names",bO ns)::hO) (tB 4) z false nx=cond (Nat.beq z.2.rk z.2.rk) (if aC z.2.run.length then(if !z.2.run.isEmpty then some ((S "due",.aJ [.str (S "in table text"),bO ns,mk])::(S "marks",mk)::(S "names",bO ns)::hO,z)else(P1 ns).bind λq=>some ((S "due",.aJ [.str (dH q.1),bO ns,mk])::(S "marks",mk)::(S "names",bO ns)::hO,z))else none) none:=by kernel_rfl
end
section
theorem t9(h:((ms (DM (U×BL) ts) 50).E 500 fL m e z λv z=>some (v,z))=some (v,z1))(q:∀n,Q v (hp z1.1 (lG (xT ts) z1.2) n))(n:Nat):aW 500 fL m (hp z.1 (lG (xT ts) z.2) n) e Q:=
 (lj NI 50).E _ _ _ _ _ _ h Q (λv' z' n' e=>by refine aU (Prod.mk.inj (ack e)) λjo bp=>?_;subst jo;subst bp;exact q n') n
theorem EE(hc:zI f x=true)(hg:X.get (.path 0)=some (.cell (some (.ae .bP))))(q:Q (.ae .bP) X):aW d f m X (.Name x p) Q:=Ev.cell (wD hc).2 (.inl (wD hc).1) hg q
theorem aeY(hf:ED t (b1,s1)=some (b2,s1))(hl:(if t.kind==S "char" then zG t.name (b2,s1)else(wC (b2,s1)).bind (zH t))=some (b2,s2))(A2:At (i+1) b2 s2)(hi:i<13)(l:b8 hO m)
  (q:∀m' n',b8 hO m'->Q .next m' (hp b2 (lG (xT ts) s2) n')):bR 500 fL ((S "token",b7 t)::m) (hp b1 (lG (xT ts) s1) n) [tB 0,tB 1,tB 2,tB 3,tB 4,tB 5,tB 6,tB 7] Q:=by
 have cC:=A2.dh (by lia);have F:=A2.fin (by lia);have eE:=A2.names;have hm:=A2.mode (by lia);have xJ:=A2.run;have NJ:aC s2.run.length=true:=dg (by rw[xJ];have:=F.zp;lia);have hzs:aC (names b2).length=true:=dg (by
  show(b2.stack.map (aH b2)).length<=_;rw[afA];have:=F.zs;lia)
 have hN:jG s2=some (names b2):=by exact eE▸if_pos cC
 have D1:=λr=>NI (ρ:=Lo×BL) (ts:=ts) (r:=r);refine Ex.sub l.both (Ex.step (D:=DM (Lo×BL) ts) (d:=500) (z:=(b1,s1)) (z1:=(b2,s1)) (m1:=(S "token",b7 t)::hO) D1 ((aeU ..).trans (b6 hf rfl)) (λn=>Ex.step (D:=DM (Lo×BL) ts) (d:=500) (z:=(b2,s1)) (z1:=(b2,s2)) (m1:=(S "token",b7 t)::hO) D1 ((aeV ..).trans (iE hl (λc h=>(rT c).trans (b6 h rfl)) λc h=>(rF c).trans (bE h λz h1 h2=>b6 h1 (b6 h2 rfl)))) (λn=>Ex.step (D:=DM (Lo×BL) ts) (d:=500) (z:=(b2,s2)) (z1:=(b2,s2)) (m1:=(S "names",bO (names b2))::(S "token",b7 t)::hO) D1 ((aeW t ts (b2,s2)).trans (b6 hN rfl)) (λn=>Ex.sub (mc:=(S "names",bO (names b2))::hO) (.both (.cons (.refl _) rfl)) ?_) n) n) n);refine Ex.bG (s':=?s3) ?e3 ?_;case e3=>conv=>lhs;whnf
 refine Ex.cons (Ex.Be (cs:=pR [(S "name",.local)]) (y:=S "marks") rfl (.aO n) Nz (λ_=>.int (-1)) (c9 rfl) (aN (v:=bO (names b2)) rfl ⟨(names b2).map .str,⟨.az _,L.lO,mT hzs,λy hy _=>.int _,λLp y hy acc=>?ok⟩,?_⟩) ?f0 ?f1 ?f2 ?f3)
 case f0=>rfl
 case f1=>rfl
 case f2=>rfl
 case f3=>rfl
 case ok=>
  refine ao (af7.mp hy) λz hz aP=>?_;subst aP;exact⟨vy (c:=aw yN z) rfl ⟨rfl,rfl⟩,λ_=>aN (v:=.int (-1)) rfl ⟨rfl,rfl⟩⟩
 rw[aeQ,<-F.bJ];refine Ex.step (D:=DM (Lo×BL) ts) (d:=500) (z:=(b2,s2)) (z1:=(b2,s2)) (m1:=(S "due",.aJ [.str b2.mode,bO (names b2),.az (cP b2.bJ)])::(S "marks",.az (cP b2.bJ))::(S "names",bO (names b2))::hO) D1 ((aeX ..).trans ((cT (agC _)).trans ((if_pos NJ).trans ?_))) (λn=>?_) n
 ·cases c:s2.run.isEmpty with
  |true=>rw[c,if_pos rfl,eE]at hm;exact(rF rfl).trans (b6 (tR _) (hm▸rfl))
  |false=>rw[c,if_neg (by decide)]at hm;exact(rT rfl).trans (hm▸rfl)
 refine Ex.bG (s':=?s5) ?e5 ?_;case e5=>conv=>lhs;whnf
 refine Ex.cons (Ex.Be (cs:=pR [(S "node",.local),(S "builder",.cell)]) (y:=S "held") rfl (.aO n) (λ_=>true) (NA b2) (c9 rfl) (Ev.fZ QZ (Ev.fZ Q1 (EE rfl rfl ⟨fy b2,.ae .stack,Fu,Ro,af2,⟨nA,.ae .items,Fw,Rq,af2,⟨cP b2.stack,⟨.list rfl,L.lO,by rw[oR];have:=F.zs;lia,?no,λLp y hy acc=>?ok⟩,?_⟩⟩⟩))) ?f0 ?f1 ?f2 ?f3)
 case f0=>rfl
 case f1=>rfl
 case f2=>rfl
 case f3=>rfl
 case no=>
  intro y hy _;refine ao (af7.mp hy) λk hk aP=>?_;subst aP;exact .str _
 case ok=>
  refine ao (af7.mp hy) λk hk aP=>?_;subst aP;refine ao (F.el k hk) λx x1 x2=>?_;have gt:∀o l,l≠Loc.aO n->(hp b2 (lG (xT ts) s2) n).get l=some o->((hp b2 (lG (xT ts) s2) n).add (.aO n) (.list acc)).get l=some o:=λo l hl e=>(AH.bZ _ _ hl).trans e;refine⟨rfl,λ_=>Ev.sub (Ev.fZ xl (Ev.fZ AQ (EE rfl (gt _ _ (by intro e;cases e) rfl) ⟨fy b2,.ae .tree,⟨.bP,.cO,rfl,gt _ _ (by intro e;cases e) rfl,gt _ _ (by intro e;cases e) rfl⟩,Rn,af2,⟨eT,.ae .names,⟨.tree,.dC,rfl,gt _ _ (by intro e;cases e) rfl,gt _ _ (by intro e;cases e) rfl⟩,Rp,af2,aN (v:=.int k) rfl ?_⟩⟩)))⟩;have hN:((hp b2 (lG (xT ts) s2) n).add (.aO n) (.list acc)).get .names=some (.list (b2.aa.map λx=>.str x.name)):=gt _ _ (by intro e;cases e) rfl;exact⟨jO hN,Op.lL (.list hN) (jN x1) ⟨by rw[x2];rfl,rfl⟩⟩
 rw[aeR];refine Ex.bG (s':=?s6) ?e6 ?_;case e6=>conv=>lhs;whnf
 have rC:=A2.aeK (by lia);have EF:=A2.aeM;refine Ex.cons (Ex.ite (Ts.dt (t9 (ts:=ts) (z:=(b2,s2)) (z1:=(b2,s2)) (v:=.aJ [.str b2.mode,bO (names b2),.ae .iO]) rfl (λn1=>aN (v:=.aJ [.str b2.mode,bO (names b2),.az (cP b2.bJ)]) rfl (Op.Bg (da:=wB b2) (db:=wB b2) (NH (.str _) (.az (NC _)) (.ae (l:=.iO) (show(hp b2 (lG (xT ts) s2) n1).get .iO=some (.list (cP b2.bJ))from rfl) (ND _))) (NH (.str _) (.az (NC _)) (.az (ND _))) rC rC (by have:=aeL b2;lia) (Tr.bool (kT (by rw[EB rC];rfl) (Ex.nil ?_))))) n)));refine Ex.bG (s':=?s7) ?e7 ?_;case e7=>conv=>lhs;whnf
 refine Ex.cons (Ex.ite (Ts.dt (t9 (ts:=ts) (z:=(b2,s2)) (z1:=(b2,s2)) (v:=.ae (.bW b2.pk)) rfl (λn2=>Ev.uV (cs:=pR [(S "sign",.local)]) rfl (.aO n2) (λ_=>true) NB (Ev.sub (aN (v:=.ae .cw) rfl (aN (v:=.str (S "run")) rfl (V.acA ⟨s2.run.map .str,⟨.list xH,L.lO,mT NJ,λy hy _=>?no,λLp y hy acc=>?ok⟩,?_⟩))) rfl) ?f1 ?f2 ?f3) n1)))
 case f1=>rfl
 case f2=>rfl
 case f3=>rfl
 case no=>
  refine ao (af7.mp hy) λz hz aP=>?_;subst aP;exact .aJ (.cons (.str _) (.cons (.str _) .nil))
 case ok=>
  refine ao (af7.mp hy) λz hz aP=>?_;subst aP;exact⟨rfl,λ_=>aN (v:=ia z) rfl ⟨rfl,rfl⟩⟩
 rw[aeS,xJ];exact Op.Bg (da:=.list (b2.aQ.map rM)) (db:=.list (b2.aQ.map rM)) (.ae HJ (NF _)) (.az (NF _)) EF EF (by have:=aeN b2.aQ;lia) (Tr.bool (kT (by rw[EB EF];rfl) (Ex.nil (Ex.nil (q _ _ (.cons (.cons (.cons (.cons (.refl _) rfl) rfl) rfl) rfl))))))
end
theorem Cl.zero(C:Cl (aE b pk rk old))(hN:b.aa.length<=800000):∃y,Mine.nd b 0=some y/\y.af=[1]:=by
 refine cN C.n0 λz z1 _ z3=>?_;have NK:(b.aa.map dw)[0]?=some z:=z1;rw[afX]at NK;refine ao (age.mp NK) λy y1 y2=>?_;refine⟨y,?_,by rw[<-z3,<-y2];rfl⟩;have:Mine.nd b ((0:Nat):Int)=some y:=by unfold Mine.nd;rw[mB (ads ‹_› (by decide)) 0];exact y1
 exact this
theorem Cl.nq(C:Cl (aE b pk rk old)):1<b.aa.length:=by refine ao C.n1 λz z1 _=>?_;refine aI (afB.mp z1) λh _=>?_;have e:(aE b pk rk old).aa.length=b.aa.length:=afA ..;exact e▸h
theorem Cl.one(C:Cl s):cz s 1=p9:=by refine ka C.n1 λz z1 z2 z3 z4=>?_;unfold cz;rw[show((1:Int).toNat)=1 from rfl,z1];dsimp only;rw[if_neg (by rw[z2];decide),z3,z4];rfl
section
theorem aeZ(A:At 13 b s)(l:b8 hO m):bR 500 fL m (hp b (lG (xT ts) s) n) [aB bL 12] (λfl _ _=>fl.val=.bool true):=by
 have F:=A.fin (by exact agt _);have C:=A.cl;have hel:=A.aeO;refine kH A.eO λpk rk old bK=>?_;subst bK;have NL:=F.zn;refine ao (C.zero (by exact bt NL)) λy y1 y2=>?_;obtain⟨z,z1,z2⟩:∃z,b.aa[0]?=some z/\z.af=[1]:=by refine cN (gT y1) λc e1 _ e2=>?_;obtain rfl:0=c:=Int.ofNat.inj e1;exact⟨y,e2,y2⟩
 have P1:mW b 440 1:=aeD F (by exact ago _ _) C 440 1 (by exact bt NL) C.nq;have vY:=aeF C 440 1 P1;have hl:(PyData.tuple [jb b 440 1,p8 b.aK]).canLay0=true:=by show((jb b 440 1).canLay0&&((p8 b.aK).canLay0&&true))=true;rw[vY.1,hel];rfl
 have hd:(PyData.tuple [jb b 440 1,p8 b.aK]).depth<=1000:=by have h1:=vY.2;have h2:=aeP b.aK;exact bt (af9 (ag4.mpr ⟨h1,ag4.mpr ⟨bt h2,afO _⟩⟩))
 refine Ex.sub l (Ex.bG (s':=?s) ?e ?_);case e=>conv=>lhs;whnf
 refine Ex.cons (Ex.ret (Ev.dt (Ev.tuple (aM.cons (Ev.jK FW (dF rfl) (aM.cons (t9 (ts:=ts) (z:=(b,aE b pk rk old)) (z1:=(b,aE b pk rk old)) (v:=.ae .tree) rfl (λn1=>aM.cons (t9 (ts:=ts) (z:=(b,aE b pk rk old)) (z1:=(b,aE b pk rk old)) (v:=.int 1) (Eq.trans (b:=(nd b 0).bind λ_=>(b.aa[0]?).bind λy=>(cy y.af 0).bind λv=>some (.int v,(b,aE b pk rk old))) rfl (b6 y1 (b6 z1 (z2▸rfl)))) (λn2=>aM.nil (Call.gu (show 440<=500 by decide) (w_plain (aeE C) 440 1 n2 _ _ gM.aev P1 (aM.cons (t9 (ts:=ts) (z:=(b,aE b pk rk old)) (z1:=(b,aE b pk rk old)) (v:=.ae .aK) rfl (λn3=>aM.nil ⟨afG rfl,?_⟩) n2))))) n1)) n)))))));refine Ev.tuple (aM.cons (aN (v:=p9) rfl (aM.cons (t9 (ts:=ts) (z:=(b,aE b pk rk old)) (z1:=(b,aE b pk rk old)) (v:=.ae .iu) rfl (λn4=>aM.nil ⟨afG rfl,?_⟩) n3))));have ae0:fS (hp b (lG (xT ts) (aE b pk rk old)) n4) p9 (jb b 440 1):=by have:=aeH (x:=xT ts) (n:=n4) F C 440 1 P1 (by decide);rwa [C.one]at this
 exact Op.Gs (da:=.tuple [jb b 440 1,p8 b.aK]) (db:=.tuple [jb b 440 1,p8 b.aK]) (.aJ (.cons (aeG C 440 1 P1) (.cons (.ae (l:=.aK) (show(hp b (lG (xT ts) (aE b pk rk old)) n4).get .aK=some (.list (bT b.aK))from rfl) (NG _)) .nil))) (.aJ (.cons ae0 (.cons (.ae Bk (NG _)) .nil))) hl hl (ads (Nat.min_le_left _ _) (bt hd)) (by rw[EB hl];exact rfl)
end
noncomputable def x0:LX:=⟨some (.ae .bP),none⟩
def s0:LS:=aE b0 0 0 none
theorem ae1:(lG (xT ts) s).set .tokens (.list ts')=lG (xT ts') s:=by
 refine AH.eU rfl (λl h=>?_) λl=>?_
 ·induction l with
  |tokens=>exact(h rfl).elim
  |path k=>induction k<;>rfl
  |_=>rfl
 ·induction l with
  |tokens=>exact⟨λe=>(by cases e),λe=>(by cases e)⟩
  |_=>exact agm
noncomputable def rN:List Int:=[1,24,3,24,0,26,3,24,1,4,6,16]
def numAt(ns:List Int)(i:Nat):Int:=if i<ns.length then(ns[i]?).getD 0 else(rN[i]?).getD 0
def TK(ns:List Int):List aS:=fE 4 0::(List.range 12).map λi=>fE (numAt ns i) (i+1)
theorem EG(ns:List Int):(TK ns).length=13:=by simp[TK]
theorem NM(h:i<12):(TK ns)[i+1]?=some (fE (numAt ns i) (i+1)):=by unfold TK;rw[List.getElem?_cons_succ,afX,List.getElem?_range h];rfl
theorem ae2(h:i<12):((TK ns).take (i+1)).map b7++[b7 (fE (numAt ns i) (i+1))]=((TK ns).take (i+1+1)).map b7:=by rw[List.take_add_one (i:=i+1),NM h,afR];rfl
theorem ae3(c:i<ns.length):numAt ns i=ns[i]:=by unfold numAt;rw[if_pos c,afH c];rfl
theorem ae4(c:¬i<ns.length)(h:i<12):(rN.map U.int)[i]?=some (.int (numAt ns i)):=by unfold numAt;rw[if_neg c,afX,afH (l:=rN) (i:=i) h];rfl
theorem ae5(h:(TK ns)[i]?=some t):i<13/\∃num k,k<=12/\t=fE num k:=by
 have hi:i<13:=by obtain⟨aY,_⟩:=afB.mp h;rw[EG]at aY;exact aY
 refine⟨hi,?_⟩;induction i with
 |zero=>exact⟨4,0,by decide,(ack h).symm⟩
 |succ i=>
  rw[NM (by exact Nat.le_of_succ_le_succ hi)]at h;exact⟨_,i+1,by exact Nat.le_of_succ_le_succ hi,(ack h).symm⟩
abbrev wF(ns:List Int):Lo:=[(S "script",.az (ns.map U.int)),(S "spare",.aJ (rN.map .int)),(S "tokens",.ae .tokens),(S "state",.ae .cw),(S "root",p9)]
section
theorem Ev.bG(h:e=e')(g:aW d f m X e' Q):aW d f m X e Q:=h▸g
noncomputable def NN:Expr->List Expr
 |.Call _ args _ _=>args
 |_=>[]
noncomputable def ae6:Stmt->Expr
 |.Expr e _=>e
 |_=>.Tuple [] 0 default
abbrev ae7:Expr:=(NN ((NN (ae6 (aB (eI (aB bL 10)) 0))).headD default)).headD default
theorem ae8(hi:i<12)(gn:ns.length<=63)(q:Q (.int (numAt ns i)) X):aW 500 fL ((S "at",.int (i:Nat))::wF ns) X ae7 Q:=by
 refine Ev.bG (e':=?e) ?h ?_;case h=>conv=>lhs;whnf
 refine Ev.z7 (Ts.dt (aN (v:=.int (i:Nat)) rfl (Ev.uj uM (dF rfl) (aM.cons (aN (v:=.az (ns.map .int)) rfl (aM.nil (Call.len (.az _) (by rw[afA];exact bt gn) (Op.E7 (Tr.bool ?_)))))))));rw[afA];by_cases c:i<ns.length
 ·exact qB (aga (by exact agP.mpr c)) (Ev.sub (aN (v:=.az (ns.map .int)) rfl (aN (v:=.int (i:Nat)) rfl ⟨qo,Op.item (xs:=ns.map .int) (i:=i) (y:=.int (numAt ns i)) (.az _) (by exact bt hi) (by rw[afX,afH c,ae3 c];rfl) q⟩)) rfl)
 ·exact kT (ag1 (by lia)) (Ev.sub (aN (v:=.aJ (rN.map .int)) rfl (aN (v:=.int (i:Nat)) rfl ⟨Aw,Op.Ad (xs:=rN.map .int) (i:=i) (y:=.int (numAt ns i)) (by exact bt hi) (ae4 c hi) q⟩)) rfl)
theorem ae9(gn:ns.length<=63)(l:b8 (wF ns) m)(q:∀m',b8 (wF ns) m'->bR 500 fL m' (hp b0 (lG (xT ((TK ns).map b7)) s0) n) rest Q):bR 500 fL m (hp b0 (lG (xT [b7 (fE 4 0)]) s0) n) (aB bL 10::rest) Q:=by
 refine Ex.bG (s':=?s) ?e ?_;case e=>conv=>lhs;whnf
 refine Ex.cons (Ex.Ah 0 12 1 12 (λi m' H'=>H'=hp b0 (lG (xT (((TK ns).take (i+1)).map b7)) s0) n/\b8 (wF ns) m') xi (c9 rfl) (dF rfl) (aM.cons (aN (v:=.int 12) rfl (aM.nil ⟨mu.up (n:=12) (by decide) (by decide),rfl,l⟩))) (λi m' H' I hi=>?turn) λm' H' I=>?done)
 case done=>
  obtain⟨rfl,l⟩:=I;rw[agX (l:=TK ns) (Nat.le_of_eq (EG ns))];exact Ex.nil (q _ l)
 case turn=>
  obtain⟨rfl,l⟩:=I;rw[show(0:Int)+(i:Int)*1=(i:Int) by lia];refine Ex.sub (mc:=(S "at",.int (i:Nat))::wF ns) l.both (Ex.cons (Ex.sG (Ev.Ao agS aha (aN (v:=.ae .tokens) rfl ⟨ew.list rfl,aM.cons (Ev.jK FV (dF rfl) (aM.cons (ae8 hi gn (aM.cons (aN (v:=.int ((i:Int)+1)) rfl (aM.nil (Call.gu (show 1<=500 by decide) (Nj (cL:=numAt ns i) (k:=i+1) (by exact bt hi) (aM.nil (Call.append (xs:=((TK ns).take (i+1)).map b7) rfl (by rw[afA,List.length_take];exact bt (Nat.min_le_right _ _)) ?_))))))))))⟩))));rw[kZ rfl,ae1,ae2 hi];exact Ex.nil ⟨rfl,.cons (.refl _) rfl⟩
end
theorem afa(h:(∃x f tl,l=x::.bool f::tl)\/l=[]):EC l=true:=h.elim (λ⟨_,_,_,e⟩=>e▸rfl) λe=>e▸rfl
theorem afb(hk:PyData.strOk t.kind=true)(hn:PyData.strOk t.name=true)(FG:(t.kind==S "char")=false->∃kk nm as f,t=gL kk nm as f [])(h:sI s1 t=some s2):(if t.kind==S "char" then zG t.name (b,s1)else(wC (b,s1)).bind (zH t))=some (b,s2):=
 iE h (λc h=>(rT c).trans (b6 h rfl)) λc h=>(rF c).trans (bE h λs3 h3 h4=>by
  refine l8 (FG c) λkk nm as f jf=>?_;subst jf;exact b6 (b6 h3 rfl:wC (b,s1)=some (b,s3)) ((cT (by rw[hk,hn];rfl)).trans (b6 (a:=(as,f,[])) rfl (b6 h4 rfl))))
section
theorem afc(l:b8 [(S "tokens",.ae .tokens),(S "state",.ae .cw),(S "root",p9)] m):bR 500 fL m (hp b0 (lG (xT ((TK ns).map b7)) s0) n) [aB bL 11,aB bL 12] (λfl _ _=>fl.val=.bool true):=by
 refine Ex.sub l (Ex.bG (s':=?s) ?e ?_);case e=>conv=>lhs;whnf
 refine Ex.cons (Ex.forIn (c9 rfl) (λi m' H'=>∃b s n',H'=hp b (lG (xT ((TK ns).map b7)) s) n'/\At i b s/\b8 hO m') ((TK ns).map b7) (aN (v:=.ae .tokens) rfl ⟨⟨b0,s0,_,rfl,At.start,.cons (.refl _) rfl⟩,λi m' H' I=>jd I λb s n' e _=>e▸.list rfl⟩) (λi y m' H' I e=>?turn) (λm' H' I=>?done) rfl)
 case done=>
  refine ef I λb s n' bK A l=>?_;subst bK;rw[afA,EG]at A;exact Ex.nil (aeZ A l)
 case turn=>
  refine ef I λb1 s1 n1 bK A1 l=>?_;subst bK;refine ao (zh e) λt e1 aP=>?_;subst aP;obtain⟨hi,num,k,hk,rfl⟩:=ae5 e1;refine cV (A1.step (by exact Nat.le_of_lt hi) num hk) λb2 s2 e2 e3 A2=>?_;have TS:=Nw num hk;exact aeY (Eq.trans (cT (afa (aep num k))) (b6 e2 rfl)) (afb TS.2 TS.1.name (λc=>aeq c) e3) A2 hi l λm' n' l=>⟨b2,s2,n',rfl,A2,l⟩
end
theorem afd:H0=LH []:=AH.ext (λ_=>rfl) (λ_=>⟨λ_=>rfl,λ_=>af2⟩)
theorem afe:H0.add (.path 0) (.cell none)=LH [(.path 0,.cell none)]:=by rw[afd,j8]
theorem LHx:(H0.add (.path 0) (.cell none)).add .eR (.map kN)=LH [(.eR,.map kN),(.path 0,.cell none)]:=by rw[afe,j8]
theorem aff:AH.Le (LH ((.path 0,.cell (some (.ae .bP)))::[(.cO,.dict (fy bI)),(.bP,.inst ck .cO),(.eg,.list [.str (S "document")]),(.ff,.list [.str (S "")]),(.names,.list [.str (S "")]),(.aX,.list [.az []]),(.eJ,.list [.str (S "")]),(.dU,.list [.int (-1)]),(.eQ,.list [.ae (.b9 0)]),(.b9 0,.list []),(.me,.map []),(.dC,.dict eT),(.tree,.inst cY .dC),(.items,.list []),(.gP,.dict nA),(.stack,.inst fw .gP),(.iO,.list []),(.gQ,.dict qn),(.fF,.inst iU .gQ),(.qc,.list []),(.owners,.map []),(.aK,.list []),(.bW 0,.list []),(.eR,.map kN),(.path 0,.cell none)])) (hp bI (LH [(.path 0,.cell (some (.ae .bP)))]) 0):=by
 refine⟨λl o e=>?_,λl e=>?_⟩
 ·induction l with
  |b9 i=>induction i with
   |zero=>exact e
   |succ i=>exact ag e
  |bW i=>induction i with
   |zero=>exact e
   |succ i=>exact ag e
  |path i=>induction i with
   |zero=>exact e
   |succ i=>exact ag e
  |aO i=>exact ag e
  |_=>first|exact e|(cases e)
 ·induction l with
  |b9 i=>induction i with
   |zero=>exact absurd e (Nat.not_succ_le_zero 0)
   |succ i=>rfl
  |bW i=>induction i with
   |zero=>exact absurd e (agQ 0)
   |succ i=>rfl
  |path i=>induction i with
   |zero=>cases e
   |succ i=>rfl
  |_=>first|rfl|exact e.elim
def NO:U:=.az [.str (S "head"),.az [],.ae (.bM 2)]
def ua:U:=.az [.str (S "body"),.az [],.ae (.bM 3)]
def LS0:List (Loc×cx):=[(.cw,.map [(S "path",.ae (.path 1)),(S "run",.ae (.run 0)),(S "errors",.ae .iu)]),(.iu,.list []),(.run 0,.list []),(.path 1,.list [p9,ua]),(.bM 1,.list [NO,ua]),(.bM 2,.list []),(.cw,.map []),(.bM 3,.list []),(.path 0,.cell (some (.ae .bP)))]
theorem afg:AH.Le (LH LS0) (lG x0 s0):=by
 have g:∀k:Nat,(lG x0 s0).get (.bM k)=match k with|1=>some (.list [NO,ua])|2=>some (.list [])|3=>some (.list [])|_=>none:=λk=>by
  rw[iX]
  match k with
  |0=>kernel_rfl
  |1=>kernel_rfl
  |2=>kernel_rfl
  |3=>kernel_rfl
  |k+4=>rfl
 refine⟨λl o e=>?_,λl e=>?_⟩
 ·induction l with
  |bM k=>
   rw[g]at e
   match k,e with
   |1,e=>exact e
   |2,e=>exact e
   |3,e=>exact e
  |path k=>match k,e with
   |0,e=>exact e
   |1,e=>
    have h:(lG x0 s0).get (.path 1)=some (.list [p9,ua]):=by kernel_rfl
    rw[h]at e;exact e
  |run k=>match k,e with
   |0,e=>exact e
  |tokens=>exact ag e
  |_=>first|exact e|(cases e)
 ·induction l with
  |bM k=>
   have e':4<=k:=e
   match k,e' with
   |k+4,_=>rfl
  |path k=>
   have e':1<k:=e
   match k,e' with
   |k+2,_=>rfl
  |run k=>
   have e':0<k:=e
   match k,e' with
   |k+1,_=>rfl
  |tokens=>rfl
  |_=>exact e.elim
theorem afh:(lG x0 s).add .tokens (.list ts)=lG (xT ts) s:=by
 refine AH.w5 rfl (λl h=>?_) λl=>?_
 ·induction l with
  |tokens=>exact absurd rfl h
  |path k=>induction k<;>rfl
  |_=>rfl
 ·induction l with
  |tokens=>exact⟨λe=>(by cases e),λe=>absurd rfl e.2⟩
  |_=>exact⟨λe=>⟨e,λq=>(by cases q)⟩,λe=>e.1⟩
def afi:LN:=⟨false,S "html",[],S "",[2,3]⟩
theorem afj:c6 s0 1=some afi:=rfl
theorem afk:cy s0.path 0=some 1:=rfl
theorem afl:kX.lookup 1014=some (open H in fn (aD 104) "law" vN (s "law_nt0624_01" 1361) (r 1013)):=rfl
theorem afm:kX.lookup 1013=some (open H in co [(s "law" 1506),(s "law" 1507),(s "/claim/cut.py" 1508),(i 928 0),(i 1 0),(i 0 0),(i 0 0),(i 3 0),(r 1010),vT,(i 181 0),(r 1011),vN,vN,vN,(r 1012),(i 1509 0),(i 928 0),(s "/claim/cut.py" 1510)]):=rfl
theorem afn{s:Shared}{ns:List Int}{st:Stmt}(B:Bs)
  (ho:kX.lookup 1014=some (H.fn st "law" .none md (.ref 1013)))(hc:kX.lookup 1013=some ⟨.type "code",none,.fields us,#[]⟩)(hv:us.toList=a::.str (S "law") tk::rs)(hi:nF st=true)(hq:uL st=S "law")
  (rv:bk hX (λ_=>none) [.az (ns.map U.int)] vs)
  (p:∀aj H' s',bu aj H' s'.heap->dS {s with heap:=hX} s'->Qc (.bool true) s')
  (hbind:∀(a:Value),bindArgs (H.lu st "law" 3 .none md (.ref 1013)) ⟨[a],[]⟩=pure [(S "script",a)])
  (eb:cZ st=body)(es:fO st=scope)(hl:eK scope.names (S "script") .local)(fN:∀L,cellsFrom (L+1) scope.names []=[(S "builder",L+1)])(hs:qm scope=true)
  (h:bR 500 (.fn (S "law") scope 1014 (.ref 1013) [(S "builder",.path 0)]) [(S "script",.az (ns.map U.int))] (H0.add (.path 0) (.cell none)) body (λfl _ _=>fl.val=.bool true)):wpAny (model cg wX) callerA (call (.ref 1014) vs) Qc E {s with heap:=hX}:=by
 subst eb es;have e:=Bn (md:=md) (cd:=.ref 1013) hi hq;refine ao rv.one λv bp r=>?_;subst bp;refine Ql (names:=[S "script"]) (args:=[.az (ns.map U.int)]) (Q:=λv _=>v=.bool true) B _ (S "builder") (.path 0) (B.X _ _ (ho.trans (afE some (afE (λz=>Obj.mk (.type "function") none (.func z) #[]) e)))) (codeRec_of B.X (um hc hv)) B.mY ?_ (z5 hl zZ) fN rfl h (Qo (by decide)) rv (λy v aj H' s' q R z r=>?_) hs
 ·exact e▸hbind v
 ·subst q;refine r.k ?_;exact p aj H' s' R z
theorem b8.trans(h:b8 a b)(l:b8 b m):b8 a m:=λx v e=>l x v (h x v e)
theorem h0n(h:l≠Loc.path 0):(H0.add (.path 0) (.cell none)).new l:=⟨af2,h⟩
section
theorem afo{ns:List Int}(l:b8 [(S "script",.az (ns.map U.int))] m)(q:∀m',b8 [(S "state",.ae .cw),(S "script",.az (ns.map U.int))] m'->bR 500 fL m' (hp b0 (lG x0 s0) n) rest Q):bR 500 fL m (hp b0 (LH [(.path 0,.cell (some (.ae .bP)))]) n) (aB bL 5::aB bL 6::rest) Q:=by
 refine Ex.sub l (Ex.bG (s':=?s) ?e ?_);case e=>conv=>lhs;whnf
 refine Ex.cons (Ex.assign (x:=S "page") (c9 rfl) (Ev.list (aM.cons (aN (v:=.str (S "body")) rfl (aM.cons (aN (v:=.az []) rfl (aM.cons (Ev.kc (.bM 3) (aM.nil ⟨afO _,rfl,?_⟩)) rfl)) rfl)) rfl)) rfl);rw[lT rfl,j8];refine aM.nil ⟨afG rfl,?_⟩;refine Ex.bG (s':=?s2) ?e2 ?_;case e2=>conv=>lhs;whnf
 with_reducible refine Ex.cons (Ex.assign (c9 ?hx) ?_)
 case hx=>rfl
 with_reducible refine Ev.sx .cw ?k3 ?kn ?_ ?r1 ?r2 ?r3 ?r4
 case k3=>exact qG
 case kn=>exact(rfl:du [(Loc.bM 3,cx.list []),(.path 0,.cell (some (.ae .bP)))] .cw=none)
 case r1=>rfl
 case r2=>rfl
 case r3=>intro e;cases e
 case r4=>decide
 rw[lT rfl,j8];with_reducible refine fQ.cons ?_
 with_reducible refine Ev.kc (.path 1) ?_
 with_reducible refine aM.cons (Ev.list ?_)
 with_reducible refine aM.cons (aN (v:=.str (S "html")) (by kernel_rfl) ?_)
 with_reducible refine aM.cons (aN (v:=.az []) (by kernel_rfl) ?_)
 with_reducible refine aM.cons (Ev.kc (.bM 1) ?_)
 with_reducible refine aM.cons (Ev.list ?_)
 with_reducible refine aM.cons (aN (v:=.str (S "head")) (by kernel_rfl) ?_)
 with_reducible refine aM.cons (aN (v:=.az []) (by kernel_rfl) ?_)
 with_reducible refine aM.cons (Ev.kc (.bM 2) ?_)
 with_reducible refine aM.nil ?_
 refine⟨afO _,rfl,?_⟩;rw[lT rfl,j8];with_reducible refine aM.nil ?_
 refine⟨afG rfl,?_⟩;with_reducible refine aM.cons (aN (v:=ua) (by kernel_rfl) ?_)
 with_reducible refine aM.nil ?_
 refine⟨afG rfl,rfl,?_⟩;rw[lT rfl,j8];with_reducible refine aM.nil ?_
 refine⟨afG rfl,?_⟩;with_reducible refine aM.cons (aN (v:=ua) (by kernel_rfl) ?_)
 with_reducible refine aM.nil ?_
 refine⟨afG rfl,rfl,?_⟩;rw[lT rfl,j8];with_reducible refine fQ.cons ?_
 with_reducible refine Ev.kc (.run 0) ?_
 with_reducible refine aM.nil ?_
 refine⟨afO _,rfl,?_⟩;rw[lT rfl,j8];with_reducible refine fQ.cons ?_
 with_reducible refine Ev.kc .iu ?_
 with_reducible refine aM.nil ?_
 refine⟨afO _,rfl,?_⟩;rw[lT rfl,j8];with_reducible refine fQ.nil ?_
 refine⟨rfl,by decide+kernel,?_⟩;rw[kZ rfl,zf rfl];exact Ex.le (xG afg) (q _ (.both (.cons (.refl _) rfl)))
theorem afp{ns:List Int}(gn:ns.length<=63)(l:b8 [(S "state",.ae .cw),(S "script",.az (ns.map U.int))] m):bR 500 fL m (hp b0 (lG x0 s0) n) [aB bL 7,aB bL 8,aB bL 9,aB bL 10,aB bL 11,aB bL 12] (λfl _ _=>fl.val=.bool true):=by
 refine Ex.sub l (Ex.bG (s':=?s) ?e ?_);case e=>conv=>lhs;whnf
 with_reducible refine Ex.cons (Ex.assign (c9 ?h7) ?_)
 case h7=>rfl
 with_reducible refine Ev.sub (Ev.sub (aN (v:=.ae .cw) (by kernel_rfl) ?_))
 with_reducible refine aN (v:=.str (S "path")) (by kernel_rfl) ?_
 with_reducible refine V.L7 ?_
 with_reducible refine aN (v:=.int 0) (by kernel_rfl) ?_
 with_reducible refine V.L8 afk afj ?_
 refine Ex.bG (s':=?s2) ?e2 ?_;case e2=>conv=>lhs;whnf
 with_reducible refine Ex.cons (Ex.assign (c9 ?h8) (aN (v:=.aJ (rN.map .int)) (by kernel_rfl) ?_))
 case h8=>rfl
 refine Ex.bG (s':=?s3) ?e3 ?_;case e3=>conv=>lhs;whnf
 with_reducible refine Ex.cons (Ex.assign (c9 ?h9) (Ev.kc .tokens (aM.cons (Ev.jK FV (dF ?g9) (aM.cons (aN (v:=.int 4) (by kernel_rfl) (aM.cons (aN (v:=.int (0:Nat)) (by kernel_rfl) (aM.nil ?_)))))))))
 case h9=>rfl
 case g9=>rfl
 refine Call.gu (show 1<=500 by decide) (Nj (k:=0) (by decide) ?_);with_reducible refine aM.nil ?_
 refine⟨afG rfl,rfl,?_⟩;rw[lT rfl,afh];exact ae9 gn (.of (aG rfl (aG rfl (aG rfl (aG rfl (aG rfl cH)))))) λm' l=>afc (b8.trans (.of (aG rfl (aG rfl (aG rfl cH)))) l)
end
theorem afy:PySem.Challenge.rw_nt0624_01.Holds:=by
 refine Qq λs ns vs Qc E BB gn rv p=>?_;refine afn BB afl afm rfl rfl rfl rv p ?hb (body:=[aB bL 0,aB bL 1,aB bL 2,aB bL 3,aB bL 4,aB bL 5,aB bL 6,aB bL 7,aB bL 8,aB bL 9,aB bL 10,aB bL 11,aB bL 12]) (scope:=fO (H.aD 104)) rfl rfl (.of rfl) (λL=>by kernel_rfl) rfl ?h
 case hb=>intro a;kernel_rfl
 case h=>
 clear p rv;refine Ex.bG (s':=?s0) ?e0 ?_;case e0=>conv=>lhs;whnf
 with_reducible refine Ex.cons (Ex.assign (c9 ?h1) (Ev.jK QN (dF ?g1) (aM.nil ?_)))
 case h1=>rfl
 case g1=>rfl
 refine Call.gu (show 1<=500 by decide) (acb (h0n (by intro e;cases e)) ?_);refine Ex.bG (s':=?s1) ?e1 ?_;case e1=>conv=>lhs;whnf
 refine Ex.cons (Ex.abC (l:=.aO 0) (es:=lr) (.of rfl) (.of rfl) rfl ⟨⟨af2,by intro e;cases e⟩,by intro e;cases e⟩ ?ev ?no (λi m' H'=>H'=(H0.add (.path 0) (.cell none)).add .eR (.map (ow++lr.take i))/\b8 [(S "rules",.ae .eR),(S "script",.az (ns.map U.int))] m') ⟨rfl,.refl _⟩ (λi y m' H' I e=>?turn) (λm' H' I=>?done) rfl rfl)
 case no=>
  intro y hy;have Br:y∈[(S "in table",U.val (.ref 406)),(S "in table text",.val (.ref 420))]:=hy;rcases aht.mp Br with e|e
  ·rw[e];exact⟨_,rfl⟩
  ·rw[af0.mp e];exact⟨_,rfl⟩
 case ev=>exact Ev.jK QH (dF rfl) (aM.nil (Call.gu (show 1<=500 by decide) (ace ⟨⟨af2,by intro e;cases e⟩,by intro e;cases e⟩ ⟨rfl,rfl⟩)))
 case turn=>
  obtain⟨rfl,l⟩:=I;have st:f9 (ow++lr.take i) y.1 y.2=ow++lr.take (i+1)/\(ow++lr.take i).length<=1000:=by
   match i,e with
   |0,e=>apply sE e;exact⟨by kernel_rfl,by decide⟩
   |1,e=>apply sE e;exact⟨by kernel_rfl,by decide⟩
   |i+2,e=>exact ag e
  refine Ex.sub l.both.both (Ex.cons (Ex.ux (aN (v:=y.2) rfl (aN (v:=.ae .eR) rfl (aN (v:=.str y.1) rfl (Set.map (es:=ow++lr.take i) (AH.bY ..) st.2 ?_)))) rfl));rw[nG,st.1];exact Ex.nil ⟨rfl,.cons (.cons (.refl _) rfl) rfl⟩
 case done=>
 obtain⟨rfl,l⟩:=I;have st:f9 (ow++lr.take lr.length) (S "in body") (.val (.ref 921))=kN:=rfl;refine Ex.nil (Ex.sub l (Ex.bG (s':=?s2) ?e2 ?_));case e2=>conv=>lhs;whnf
 refine Ex.cons (Ex.ux (Ev.pQ QT (dF rfl) (aN (v:=.ae .eR) rfl (aN (v:=.str (S "in body")) rfl (Set.map (es:=ow++lr.take lr.length) (AH.bY ..) (by decide) ?_)))) rfl);rw[nG,st,LHx];refine Ex.bG (s':=?s3) ?e3 ?_;case e3=>conv=>lhs;whnf
 with_reducible refine Ex.cons (Ex.w2 (l:=.path 0) ?hc ?hn (Ev.jK QR (dF ?g3) (aM.cons (aN (v:=.ae .eR) (by kernel_rfl) (aM.nil ?_)))))
 case hc=>rfl
 case hn=>exact(wD (x:=S "builder") (f:=fL) rfl).1
 case g3=>rfl
 refine Call.gu (by decide) (I.new (l:=.bP) (dl:=.cO) abY abZ ab0 rfl rfl (ab7 ?_));refine⟨rfl,⟨_,rfl⟩,?_⟩;rw[zf rfl];refine Ex.le aff ?_;refine Ex.bG (s':=?s4) ?e4 ?_;case e4=>conv=>lhs;whnf
 with_reducible refine Ex.cons (Ex.sG (Ev.jK QS (dF ?g4) (aM.cons (EE ?hb ?hg (aM.nil ?_)))))
 case g4=>rfl
 case hb=>rfl
 case hg=>rfl
 exact Call.gu (by decide) (acn λn=>afo (.cons (.refl _) rfl) λm' l=>afp gn l)
end
end Mine
theorem PySem.Challenge.cw_nt0624_01_holds : PySem.Challenge.rw_nt0624_01.Holds :=
 Mine.afy
