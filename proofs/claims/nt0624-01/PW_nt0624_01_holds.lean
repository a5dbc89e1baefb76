import PyProof.Rows.All
import Wide.All
import OpenK.AllK
import Wide.FinOn
import PyProof.CompFree
import Lean
import PySem.Challenge.RW_nt0624_01
open PySem PySem.W PySem.Calls PyProof.Rows
set_option Elab.async false
set_option linter.all false
set_option maxRecDepth 100000
set_option maxHeartbeats 0
set_option genInjectivity false
set_option genSizeOf false
set_option genSizeOfSpec false
set_option tactic.hygienic false
set_option backward.match.sparseCases false
set_option bootstrap.genMatcherCode false
set_option genCtorIdx false
namespace Mine
noncomputable section
theorem ack:type_of% @Option.some.inj:=@Option.some.inj
theorem ads:type_of% @Nat.le_trans:=@Nat.le_trans
theorem afi:type_of% @Bool.and_eq_true:=@Bool.and_eq_true
theorem afj:type_of% @List.length_map:=@List.length_map
theorem afk:type_of% @List.getElem?_eq_some_iff:=@List.getElem?_eq_some_iff
theorem afl:type_of% @List.length_append:=@List.length_append
theorem afm:type_of% @Nat.le_refl:=@Nat.le_refl
theorem afn:type_of% @List.all_eq_true:=@List.all_eq_true
theorem afo:type_of% @Nat.le_of_ble_eq_true:=@Nat.le_of_ble_eq_true
theorem afp:type_of% @congrArg:=@congrArg
theorem afq:type_of% @List.getElem?_eq_getElem:=@List.getElem?_eq_getElem
theorem afr:type_of% @beq_iff_eq:=@beq_iff_eq
theorem afs:type_of% @List.append_assoc:=@List.append_assoc
theorem aft:type_of% @beq_eq_false_iff_ne:=@beq_eq_false_iff_ne
theorem afu:type_of% @List.mem_append:=@List.mem_append
theorem afv:type_of% @Int.toNat_natCast:=@Int.toNat_natCast
theorem afw:type_of% @Nat.zero_le:=@Nat.zero_le
theorem afx:type_of% @List.lookup_cons:=@List.lookup_cons
theorem afy:type_of% @Heap.get?_push_of_some:=@Heap.get?_push_of_some
theorem afz:type_of% @List.map_append:=@List.map_append
theorem afA:type_of% @wpAny_bind:=@wpAny_bind
theorem afB:type_of% @Nat.eq_of_beq_eq_true:=@Nat.eq_of_beq_eq_true
theorem afC:type_of% @List.size_toArray:=@List.size_toArray
theorem afD:type_of% @List.append_nil:=@List.append_nil
theorem afE:type_of% @List.prefix_refl:=@List.prefix_refl
theorem afF:type_of% @List.length_singleton:=@List.length_singleton
theorem afG:type_of% @List.getElem?_map:=@List.getElem?_map
theorem afH:type_of% @Bool.not_eq_true':=@Bool.not_eq_true'
theorem afI:type_of% @Int.natCast_nonneg:=@Int.natCast_nonneg
theorem afJ:type_of% @List.mem_singleton:=@List.mem_singleton
theorem afK:type_of% @List.getElem?_eq_none:=@List.getElem?_eq_none
theorem afL:type_of% @trivial:=@trivial
theorem afM:type_of% @wpAny_pure:=@wpAny_pure
theorem afN:type_of% @of_decide_eq_true:=@of_decide_eq_true
theorem afO:type_of% @decide_eq_true_eq:=@decide_eq_true_eq
theorem afP:type_of% @List.length_cons:=@List.length_cons
theorem afQ:type_of% @List.mem_map:=@List.mem_map
theorem afR:type_of% @Nat.le_of_succ_le:=@Nat.le_of_succ_le
theorem afS:type_of% @Nat.succ_le_succ:=@Nat.succ_le_succ
theorem afT:type_of% @decide_eq_true:=@decide_eq_true
theorem afU:type_of% @List.getElem?_append_left:=@List.getElem?_append_left
theorem afV:type_of% @List.forall_mem_cons:=@List.forall_mem_cons
theorem afW:type_of% @Heap.get?_push_size:=@Heap.get?_push_size
theorem afX:type_of% @Option.map_eq_some_iff:=@Option.map_eq_some_iff
theorem afY:type_of% @Nat.lt_succ_self:=@Nat.lt_succ_self
theorem afZ:type_of% @Nat.ne_of_lt:=@Nat.ne_of_lt
theorem af0:type_of% @Nat.le_of_not_lt:=@Nat.le_of_not_lt
theorem af1:type_of% @List.eq_nil_or_concat:=@List.eq_nil_or_concat
theorem af2:type_of% @List.getElem?_append_right:=@List.getElem?_append_right
theorem af3:type_of% @List.mem_cons_of_mem:=@List.mem_cons_of_mem
theorem af4:type_of% @Nat.le_of_add_right_le:=@Nat.le_of_add_right_le
theorem af5:type_of% @Iff.rfl:=@Iff.rfl
theorem af6:type_of% @List.length_set:=@List.length_set
theorem af7:type_of% @Nat.le_add_left:=@Nat.le_add_left
theorem af8:type_of% @Heap.lt_size:=@Heap.lt_size
theorem af9:type_of% @Int.toNat_of_nonneg:=@Int.toNat_of_nonneg
theorem aga:type_of% @List.map_congr_left:=@List.map_congr_left
theorem agb:type_of% @List.concat_eq_append:=@List.concat_eq_append
theorem agc:type_of% @Nat.le_succ:=@Nat.le_succ
theorem agd:type_of% @Bool.and_eq_true_iff:=@Bool.and_eq_true_iff
theorem age:type_of% @List.mem_of_getElem?:=@List.mem_of_getElem?
theorem agf:type_of% @List.mem_cons_self:=@List.mem_cons_self
theorem agg:type_of% @List.forall_mem_append:=@List.forall_mem_append
theorem agh:type_of% @List.getLast?_eq_some_iff:=@List.getLast?_eq_some_iff
theorem agi:type_of% @List.getElem?_set:=@List.getElem?_set
theorem agj:type_of% @beq_self_eq_true:=@beq_self_eq_true
theorem agk:type_of% @List.map_cons:=@List.map_cons
theorem agl:type_of% @Nat.beq_refl:=@Nat.beq_refl
theorem agm:type_of% @List.getD_eq_getElem?_getD:=@List.getD_eq_getElem?_getD
theorem agn:type_of% @piece_app:=@piece_app
theorem ago:type_of% @segRun_of:=@segRun_of
theorem agp:type_of% @Nat.sub_lt_left_of_lt_add:=@Nat.sub_lt_left_of_lt_add
theorem agq:type_of% @Nat.le_add_right:=@Nat.le_add_right
theorem agr:type_of% @List.map_map:=@List.map_map
theorem ags:type_of% @PySem.W.Fast.te14364793385576792824:=@PySem.W.Fast.te14364793385576792824
theorem agt:type_of% @List.mem_of_mem_drop:=@List.mem_of_mem_drop
theorem agu:type_of% @Nat.add_le_add:=@Nat.add_le_add
theorem agv:type_of% @Nat.add_le_add_left:=@Nat.add_le_add_left
theorem agw:type_of% @List.filter_eq_self:=@List.filter_eq_self
theorem agx:type_of% @List.map_eq_nil_iff:=@List.map_eq_nil_iff
theorem agy:type_of% @Int.ofNat_le:=@Int.ofNat_le
theorem agz:type_of% @Nat.lt_irrefl:=@Nat.lt_irrefl
theorem agA:type_of% @Bool.true_and:=@Bool.true_and
theorem agB:type_of% @PySem.F.slot_list_append:=@PySem.F.slot_list_append
theorem agC:type_of% @List.reverse_cons:=@List.reverse_cons
theorem agD:type_of% @Nat.sub_lt_sub_left:=@Nat.sub_lt_sub_left
theorem agE:type_of% @List.cons_append:=@List.cons_append
theorem agF:type_of% @sizeLine_eq:=@sizeLine_eq
theorem agG:type_of% @List.take_of_length_le:=@List.take_of_length_le
theorem agH:type_of% @Nat.le_add_right_of_le:=@Nat.le_add_right_of_le
theorem agI:type_of% @Nat.succ.inj:=@Nat.succ.inj
theorem agJ:type_of% @Nat.add_comm:=@Nat.add_comm
theorem agK:type_of% @decide_eq_false:=@decide_eq_false
theorem agL:type_of% @Bool.false_or:=@Bool.false_or
theorem agM:type_of% @List.getLast?_concat:=@List.getLast?_concat
theorem agN:type_of% @Nat.max_le:=@Nat.max_le
theorem agO:type_of% @Bool.and_false:=@Bool.and_false
theorem agP:type_of% @Int.ofNat_lt:=@Int.ofNat_lt
theorem agQ:type_of% @List.any_toArray:=@List.any_toArray
theorem agR:type_of% @List.getElem_mem:=@List.getElem_mem
theorem agS:type_of% @List.append_inj':=@List.append_inj'
theorem agT:type_of% @PySem.F.type_list_append:=@PySem.F.type_list_append
theorem agU:type_of% @List.mem_reverse:=@List.mem_reverse
theorem agV:type_of% @Nat.lt_of_not_le:=@Nat.lt_of_not_le
theorem agW:type_of% @PySem.F.plainAttrs_dict:=@PySem.F.plainAttrs_dict
theorem agX:type_of% @wpAny_holding:=@wpAny_holding
theorem agY:type_of% @Nat.lt_of_le_of_lt:=@Nat.lt_of_le_of_lt
theorem agZ:type_of% @Str.ofString_eq_toList:=@Str.ofString_eq_toList
theorem ag0:type_of% @List.drop_eq_nil_of_le:=@List.drop_eq_nil_of_le
theorem ag1:type_of% @List.take_append_drop:=@List.take_append_drop
theorem ag2:type_of% @List.length_filter_le:=@List.length_filter_le
theorem ag3:type_of% @Nat.succ_pos:=@Nat.succ_pos
theorem ag4:type_of% @List.length_drop:=@List.length_drop
theorem ag5:type_of% @List.dropLast_concat:=@List.dropLast_concat
theorem ag6:type_of% @Nat.succ_ne_self:=@Nat.succ_ne_self
theorem ag7:type_of% @List.any_eq_true:=@List.any_eq_true
theorem ag8:type_of% @List.any_cons:=@List.any_cons
theorem ag9:type_of% @wpAny_standAt:=@wpAny_standAt
theorem aha:type_of% @Int.ofNat_sub:=@Int.ofNat_sub
theorem ahb:type_of% @List.map_drop:=@List.map_drop
theorem ahc:type_of% @List.mem_cons:=@List.mem_cons
theorem ahd:type_of% @Heap.dictOf_iff:=@Heap.dictOf_iff
theorem ahe:type_of% @wpAny_mono:=@wpAny_mono
theorem ahf:type_of% @wpAny_bindName:=@wpAny_bindName
theorem ahg:type_of% @Nat.not_lt:=@Nat.not_lt
theorem ahh:type_of% @List.mem_range:=@List.mem_range
set_option tactic.hygienic true
namespace H
noncomputable section
noncomputable abbrev pw:Program:=PySem.Challenge.pw_nt0624_01
noncomputable def vN:Value:=.none
noncomputable def vT:Value:=.bool true
noncomputable def vF:Value:=.bool false
noncomputable def i (x:Int)(t:Tok):Value:=.int x t
noncomputable def s (x:String)(t:Tok):Value:=.str (Str.ofString x) t
noncomputable def y (x:String):Value:=.type x
noncomputable def u (x:String):Value:=.builtin x
noncomputable def r (a:Addr):Value:=.ref a
noncomputable def tu (xs:List Value):Obj:=⟨.type "tuple",none,.seq xs.toArray,#[]⟩
noncomputable def co (xs:List Value):Obj:=⟨.type "code",none,.fields xs.toArray,#[]⟩
noncomputable def nf (xs:List Value):Obj:=⟨.none,none,.fields xs.toArray,#[]⟩
def ce(a b:String)(t:Tok)(l c:Int)(x:Addr)(k:Nat):Obj:=co [s a t,s b (t+1),s "/claim/cut.py" (t+2),i l 0,i c 0,i 0 0,i 0 0,i 3 0,r x,vT,i 181 0,r (x+1),vN,r (x+2),r (x+3),r (x+4),i k 0,i l 0,s "/claim/cut.py" (k+1)]
def t3(b:Int):List (Int×Addr)->List Value
 |[]=>[]
 |(a,c)::l=>i a 0::i b 0::r c::t3 b l
def hU:List Value:=t3 0 [(1,20),(5,27),(7,34),(9,41),(13,48),(19,55),(21,62),(23,69),(30,76),(33,83),(47,91),(60,98),(75,106),(80,114),(82,123),(88,130),(92,137),(97,144),(109,151),(169,256),(185,264),(194,272),(199,279),(202,286),(211,293),(226,300),(239,307),(244,314),(247,321),(249,328),(251,335),(253,342),(258,349),(264,356),(285,363),(289,370),(296,377),(301,384),(315,391),(326,398),(334,405),(348,412),(360,419),(369,426),(372,433),(378,440),(380,447),(385,454),(392,461),(397,468),(408,475),(416,482),(429,489),(443,496),(450,503),(467,510),(478,517),(485,524),(492,531),(504,538),(519,545),(526,552),(528,559),(541,566),(550,573),(553,580),(558,600),(561,612),(608,696),(618,703),(699,820),(707,827),(770,898),(785,906),(795,913),(803,920),(812,925),(816,932),(818,939),(824,944),(831,951),(833,956),(835,963),(840,970),(844,977),(850,982),(860,989),(874,994),(888,1001),(907,1008),(928,1013)]
def NF:List Value:=t3 4 [(620,710),(631,719),(641,728),(647,735),(650,742),(653,749),(656,757),(670,764),(673,771),(678,778),(681,785),(686,792),(691,799),(697,806)]
def NG:List Value:=t3 4 [(111,158),(115,165),(118,172),(123,179),(128,186),(131,193),(134,200),(138,207),(143,214),(146,221),(152,228),(158,235),(166,242)]
def NH:List Value:=t3 4 [(563,619),(567,626),(580,633),(583,640),(588,647),(591,654),(594,661),(599,668),(603,675),(606,682)]
def NI:List Value:=t3 4 [(709,835),(732,842),(735,849),(738,856),(744,863),(750,870),(762,877),(767,884)]
noncomputable def fl (c:Value)(d:Option Addr)(xs:List Value):Obj:=⟨c,d,.fields xs.toArray,#[]⟩
noncomputable def pl (c:Value)(d:Option Addr)(sl:List (Option Value)):Obj:=⟨c,d,.plain,sl.toArray⟩
noncomputable def cl (c:Value)(d:Option Addr)(name:String)(bases mro:List Value)(ns:Addr)(q:String)(hd:Bool)(sn:List Str)(NJ:List Value)(ab:Bool)(co:Option Bool)(cB:Bool)(sl:List (Option Value)):Obj:=
 ⟨c,d,.cls ⟨Str.ofString name,bases,mro,ns,Str.ofString q,hd,sn,NJ,ab,co,cB⟩,sl.toArray⟩
noncomputable def e (P:Params)(k:String)(t:Tok)(v:Value):DictEntry:=⟨PyData.keyHash P (Str.ofString k),.str (Str.ofString k) t,v⟩
noncomputable def di (c:Value)(d:Option Addr)(es:List DictEntry)(n:Nat):Obj:=⟨c,d,.dict es.toArray n,#[]⟩
noncomputable def zE:List Stmt->Nat->Stmt
 |[],_=>.Pass ⟨0,0,0,0⟩
 |a::_,0=>a
 |_::l,n+1=>zE l n
def az(n:Nat):Stmt:=zE pw.main.body n
def sub(n k:Nat):Stmt:=match az n with
 |.ClassDef (body:=b) ..=>zE b k
 |st=>st
noncomputable def k8 (st:Stmt)(q:String)(g:Addr)(df md cd:Value):FuncData:=match st with
 |.FunctionDef (name:=n) (args:=a) (body:=b) (scope:=sc) ..=>⟨n,Str.ofString q,a,.stmts b,sc,g,[],df,.none,.none,md,none,cd,.none,0⟩
 |_=>default
def f0(st:Stmt)(q:String):Obj:=⟨.none,none,.func (k8 st q 0 .none .none .none),#[]⟩
def fn(st:Stmt)(q:String)(df md cd:Value):Obj:=⟨.type "function",none,.func (k8 st q 3 df md cd),#[]⟩
noncomputable def sets:List (Nat×Obj)->BT->BT
 |[],t=>t
 |p::l,t=>sets l (t.set p.1 λ_=>p.2)
noncomputable def tU:Life:=.mk [] [] [] 0 [] [] false #[] [] 0 false false false 0 [2000,10,10] false 0 true [] [] 0 false
def fM:Env:={scope:=pw.main.scope,locals:=mainNs,globals:=mainNs,cells:=[],code:=.ref 13,frame:=some 14}
def cE:Code:=.body (behindTheImports pw) fM
noncomputable def B0:List Frame:=[topFrame ⟨0,0,0,0⟩]
def ST(T:Params->BT)(n tk:Nat)(w:World)(os:OsState):SharedT:=⟨T w.params,n,tU,Array.mk [],.mk 0 0 0 0,tk,os⟩
noncomputable def dz (l:List Stmt)(a b:Nat):List Stmt:=(l.drop a).take b
def gl(P:Params):List DictEntry:=[e P "__doc__" 166 vN,e P "__package__" 167 vN,e P "__loader__" 168 (u "__main__.__loader__#opaque"),e P "__spec__" 169 vN,e P "__annotations__" 170 (r 6),e P "__builtins__" 171 (r 4),e P "__file__" 173 (s "/claim/cut.py" 172),e P "__cached__" 174 vN,e P "_wall" 193 (r 21),e P "is_space" 202 (r 28),e P "is_upper" 209 (r 35),e P "lower" 216 (r 42),e P "lower_text" 225 (r 49),e P "is_table_part" 234 (r 56),e P "is_math_point" 242 (r 63),e P "is_html_point" 251 (r 70),e P "implied_names" 257 (r 77),e P "foster_place" 270 (r 84),e P "place_for" 283 (r 92),e P "insert_sign" 296 (r 99),e P "insert_comment" 308 (r 107),e P "make" 319 (r 115),e P "insert_element" 333 (r 124),e P "insert_token" 342 (r 131),e P "insert_void" 351 (r 138),e P "associate" 361 (r 145),e P "OpenStack" 490 (r 246),e P "stops_scope" 501 (r 257),e P "in_scope" 514 (r 265),e P "pop_implied" 524 (r 273),e P "mode_of" 534 (r 280),e P "select_mode" 543 (r 287),e P "mode_for" 553 (r 294),e P "reset_mode" 563 (r 301),e P "value_of" 574 (r 308),e P "is_space_token" 581 (r 315),e P "pop_to_table" 590 (r 322),e P "pop_to_body" 597 (r 329),e P "pop_to_row" 604 (r 336),e P "outside_table" 612 (r 343),e P "close_table" 619 (r 350),e P "open_part" 628 (r 357),e P "table_in_table" 636 (r 364),e P "input_in_table" 645 (r 371),e P "form_in_table" 653 (r 378),e P "start_in_table" 662 (r 385),e P "end_in_table" 671 (r 392),e P "sign_in_table" 679 (r 399),e P "in_table" 688 (r 406),e P "flush_pending" 698 (r 413),e P "in_table_text" 706 (r 420),e P "table_rules" 712 (r 427),e P "unexpected" 721 (r 434),e P "is_table_child" 728 (r 441),e P "has_in_table" 737 (r 448),e P "pop_marked" 746 (r 455),e P "close_caption" 754 (r 462),e P "in_caption" 763 (r 469),e P "leave_columns" 772 (r 476),e P "tag_in_columns" 782 (r 483),e P "in_column_group" 791 (r 490),e P "close_body" 800 (r 497),e P "start_in_body" 809 (r 504),e P "end_in_body" 818 (r 511),e P "in_table_body" 826 (r 518),e P "close_row" 834 (r 525),e P "start_in_row" 843 (r 532),e P "end_in_row" 852 (r 539),e P "in_row" 860 (r 546),e P "close_cell" 867 (r 553),e P "end_in_cell" 876 (r 560),e P "in_cell" 884 (r 567),e P "row_rules" 890 (r 574),e P "HtmlFault" 921 (r 591),e P "Misused" 937 (r 604),e P "Formatting" 1044 (r 686),e P "alike" 1054 (r 697),e P "Tree" 1218 (r 810),e P "above" 1228 (r 821),e P "Builder" 1337 (r 888),e P "is_html_turn" 1347 (r 899),e P "ready" 1360 (r 907),e P "_law_token" 1372 (r 914),e P "_law_body" 1380 (r 921),e P "_law_plain" 1386 (r 926),e P "_law_is_blank" 1393 (r 933),e P "_law_mode" 1403 (r 940),e P "_law_split" 1409 (r 945),e P "_law_holds" 1416 (r 952),e P "_law_names" 1422 (r 957),e P "_law_put" 1431 (r 964),e P "_law_grow" 1441 (r 971),e P "_law_leave" 1452 (r 978),e P "_law_settle" 1458 (r 983),e P "_law_sign" 1471 (r 990),e P "_law_part" 1477 (r 995),e P "_law_other" 1492 (r 1002),e P "_law_tag" 1505 (r 1009),e P "law" 1511 (r 1014)]
noncomputable def gW:Nat->List DictEntry->List DictEntry
 |0,_=>[]
 |_+1,[]=>[]
 |n+1,a::l=>a::gW n l
def km:Nat->List String->List Value
 |_,[]=>[]
 |t,x::l=>s x t::km (t+1) l
def gp(b:Nat)(st:Stmt)(a q:String)(t:Nat)(l c:Int)(xs:List String)(df md:Value):Nat×List Obj:=(b,[tu [],nf [],tu (km (t+3) xs),tu [],f0 st q,ce a q t l c b (t+3+xs.length),fn st q df md (r (b+5))])
def gq(b:Nat)(st:Stmt)(q:String)(t:Nat)(l c:Int)(xs:List String)(df md:Value):Nat×List Obj:=gp b st q q t l c xs df md
def EA:List Obj->Nat->Obj
 |[],_=>nf []
 |a::_,0=>a
 |_::l,n+1=>EA l n
def lk:List (Nat×List Obj)->Nat->Obj
 |[],_=>nf []
 |p::l,i=>cond (Nat.ble p.1 i) (EA p.2 (i-p.1)) (lk l i)
noncomputable def zF (f:Nat->Obj)(m:Nat):Nat->Nat->Nat->BT
 |0,_,_=>.nil
 |k+1,a,b=>cond (Nat.blt b m) (.node (f b) (zF f m k (2*a) (a+b)) (zF f m k (2*a) (2*a+b))) .nil
def m0:Value:=(s "__main__" 164)
def m1:Value:=(s "htmltree.signs" 194)
def m2:Value:=(s "htmltree.names" 226)
def m3:Value:=(s "htmltree.inserting" 258)
def m4:Value:=(s "htmltree.openstack" 362)
def m5:Value:=(s "htmltree.reset" 525)
def m6:Value:=(s "htmltree.tokens" 564)
def m7:Value:=(s "htmltree.tablemodes" 582)
def m8:Value:=(s "htmltree.tablerows" 713)
def m9:Value:=(s "htmltree.faults" 891)
def k9:Value:=(s "htmltree.formatting" 938)
def iZ:Value:=(s "htmltree.tree" 1055)
def mN:Value:=(s "htmltree.builder" 1229)
def NK:Value:=(s "htmltree.ready" 1348)
def lb:Value:=(s "law_nt0624_01" 1361)
def o3(P:Params):Obj:=di (y "dict") none (e P "__name__" 165 (s "law_nt0624_01" 1361)::gW 99 (gl P)) 100
def gr(P:Params):List (Nat×List Obj):=[(1010,[tu [],nf [],f0 (az 104) "law",co [(s "law" 1506),(s "law" 1507),(s "/claim/cut.py" 1508),(i 928 0),(i 1 0),(i 0 0),(i 0 0),(i 3 0),(r 1010),vT,(i 181 0),(r 1011),vN,vN,vN,(r 1012),(i 1509 0),(i 928 0),(s "/claim/cut.py" 1510)],fn (az 104) "law" vN (s "law_nt0624_01" 1361) (r 1013)]),
 gq 1003 (az 103) "_law_tag" 1493 907 2 ["state","token","kind","name","place","parts","mode"] vN lb,
 gq 996 (az 102) "_law_other" 1478 888 4 ["state","token","place","parts","names","mode","is_outside","node","home"] vN lb,
 (991,[tu [],nf [],f0 (az 101) "_law_part",co [(s "_law_part" 1472),(s "_law_part" 1473),(s "/claim/cut.py" 1474),(i 874 0),(i 5 0),(i 0 0),(i 0 0),(i 3 0),(r 991),vT,(i 181 0),(r 992),vN,vN,vN,(r 993),(i 1475 0),(i 874 0),(s "/claim/cut.py" 1476)],fn (az 101) "_law_part" vN (s "law_nt0624_01" 1361) (r 994)]),
 gq 984 (az 100) "_law_sign" 1459 860 2 ["state","sign","names","place","parts","is_column","kids"] vN lb,
 (979,[tu [],nf [],f0 (az 99) "_law_settle",co [(s "_law_settle" 1453),(s "_law_settle" 1454),(s "/claim/cut.py" 1455),(i 850 0),(i 1 0),(i 0 0),(i 0 0),(i 3 0),(r 979),vT,(i 181 0),(r 980),vN,vN,vN,(r 981),(i 1456 0),(i 850 0),(s "/claim/cut.py" 1457)],fn (az 99) "_law_settle" vN (s "law_nt0624_01" 1361) (r 982)]),
 gq 972 (az 98) "_law_leave" 1442 844 2 ["state","keep","names","place","parts"] vN lb,
 gq 965 (az 97) "_law_grow" 1432 840 3 ["state","name","attrs","node"] vN lb,
 gq 958 (az 96) "_law_put" 1423 835 3 ["kids","at","sign"] vN lb,
 (953,[tu [],nf [],f0 (az 95) "_law_names",co [(s "_law_names" 1417),(s "_law_names" 1418),(s "/claim/cut.py" 1419),(i 833 0),(i 1 0),(i 0 0),(i 0 0),(i 3 0),(r 953),vT,(i 181 0),(r 954),vN,vN,vN,(r 955),(i 1420 0),(i 833 0),(s "/claim/cut.py" 1421)],fn (az 95) "_law_names" vN (s "law_nt0624_01" 1361) (r 956)]),
 gq 946 (az 94) "_law_holds" 1410 831 1 ["parts"] vN lb,
 (941,[tu [],nf [],f0 (az 93) "_law_split",co [(s "_law_split" 1404),(s "_law_split" 1405),(s "/claim/cut.py" 1406),(i 824 0),(i 1 0),(i 0 0),(i 0 0),(i 3 0),(r 941),vT,(i 181 0),(r 942),vN,vN,vN,(r 943),(i 1407 0),(i 824 0),(s "/claim/cut.py" 1408)],fn (az 93) "_law_split" vN (s "law_nt0624_01" 1361) (r 944)]),
 gq 934 (az 92) "_law_mode" 1394 818 1 ["names","told","mode","name"] vN lb,
 gq 927 (az 91) "_law_is_blank" 1387 816 1 ["sign"] vN lb,
 (922,[tu [],nf [],f0 (az 90) "_law_plain",co [(s "_law_plain" 1381),(s "_law_plain" 1382),(s "/claim/cut.py" 1383),(i 812 0),(i 2 0),(i 0 0),(i 0 0),(i 3 0),(r 922),vT,(i 181 0),(r 923),vN,vN,vN,(r 924),(i 1384 0),(i 812 0),(s "/claim/cut.py" 1385)],fn (az 90) "_law_plain" vN (s "law_nt0624_01" 1361) (r 925)]),
 gq 915 (az 89) "_law_body" 1373 803 2 ["builder","token"] vN lb,
 gq 908 (az 88) "_law_token" 1363 795 2 ["number","at","names","drawn"] vN lb,
 gq 901 (az 86) "ready" 1351 785 2 ["builder","mode","root","body"] (r 900) NK,
 (900,[tu [(s "in body" 1350)]]),
 gq 893 (az 84) "is_html_turn" 1338 770 2 ["builder","token","tree","node"] vN mN,
 (886,[tu [(s "context" 1309),(s "errors" 1310),(s "form" 1311),(s "formatting" 1312),(s "head" 1313),(s "is_acknowledged" 1314),(s "is_done" 1315),(s "is_foster" 1316),(s "is_frameset_ok" 1317),(s "is_scripting" 1318),(s "is_skipping" 1319),(s "mode" 1320),(s "modes" 1321),(s "original" 1322),(s "owners" 1323),(s "pending" 1324),(s "quirks" 1325),(s "rules" 1326),(s "stack" 1327),(s "tree" 1328),(s "wish" 1329)],di (y "dict") none [e P "__module__" 1238 (s "htmltree.builder" 1229),e P "__firstlineno__" 1242 (i 707 1241),e P "__init__" 1251 (r 836),e P "error" 1259 (r 843),e P "to" 1267 (r 850),e P "use" 1277 (r 857),e P "process" 1285 (r 864),e P "feed" 1293 (r 871),e P "adjusted" 1300 (r 878),e P "is_foreign" 1308 (r 885),e P "__static_attributes__" 1330 (r 886),e P "__dict__" 1332 (r 889),e P "__weakref__" 1334 (r 890),e P "__doc__" 1335 vN] 4,cl (y "type") none "Builder" [(y "object")] [(r 888),(y "object")] 887 "Builder" true [] [] false none false [none,none,some (s "Builder" 1231),some (s "Builder" 1239),some (u "object.__new__"),some vT],fl (y "getset_descriptor") none [(s "__dict__" 1331),(r 888),(u "function.__dict__"),(u "function.__dict__#set")],fl (y "getset_descriptor") none [(s "__weakref__" 1333),(r 888),(u "ExceptionGroup.__weakref__"),vN],fl (y "super") none [(r 888),(r 888),(r 888)],fl (y "builtin_function_or_method") none [(u "object.__init_subclass__"),(r 888)]]),
 gp 879 (sub 83 7) "is_foreign" "Builder.is_foreign" 1301 767 1 ["self","node"] vN mN,
 gp 872 (sub 83 6) "adjusted" "Builder.adjusted" 1294 762 1 ["self"] vN mN,
 gp 865 (sub 83 5) "feed" "Builder.feed" 1286 750 2 ["self","token"] vN mN,
 gp 858 (sub 83 4) "process" "Builder.process" 1278 744 2 ["self","token"] vN mN,
 gp 851 (sub 83 3) "use" "Builder.use" 1268 738 3 ["self","name","token","rule"] vN mN,
 gp 844 (sub 83 2) "to" "Builder.to" 1260 735 2 ["self","mode"] vN mN,
 gp 837 (sub 83 1) "error" "Builder.error" 1252 732 2 ["self","word"] vN mN,
 gp 830 (sub 83 0) "__init__" "Builder.__init__" 1243 709 3 ["self","rules","is_scripting"] (r 829) mN,
 (822,[tu [],fl (y "builtin_function_or_method") none [(u "type.__prepare__"),(y "type")],di (y "dict") none [e P "__module__" 1238 (s "htmltree.builder" 1229),e P "__qualname__" 1240 (s "Builder" 1239),e P "__firstlineno__" 1242 (i 707 1241),e P "__init__" 1251 (r 836),e P "error" 1259 (r 843),e P "to" 1267 (r 850),e P "use" 1277 (r 857),e P "process" 1285 (r 864),e P "feed" 1293 (r 871),e P "adjusted" 1300 (r 878),e P "is_foreign" 1308 (r 885),e P "__static_attributes__" 1330 (r 886)] 12,tu [],nf (NI.take 24),co [(s "Builder" 1233),(s "Builder" 1234),(s "/claim/cut.py" 1235),(i 707 0),(i 0 0),(i 0 0),(i 0 0),(i 0 0),(r 825),vF,(i 181 0),(r 826),vN,vN,vN,vN,(i 1236 0),(i 707 0),(s "/claim/cut.py" 1237)],pl (y "frame") none [some (r 827),some (r 3),some (r 824),none,some (s "htmltree.builder" 1229),none,some (r 0)],tu [vF]]),
 gq 815 (az 81) "above" 1219 699 2 ["tree","node","out","up"] vN iZ,
 (808,[tu [(s "attrs" 1203),(s "children" 1204),(s "contents" 1205),(s "kinds" 1206),(s "names" 1207),(s "parents" 1208),(s "spaces" 1209),(s "texts" 1210)],di (y "dict") none [e P "__module__" 1064 (s "htmltree.tree" 1055),e P "__firstlineno__" 1068 (i 618 1067),e P "__init__" 1075 (r 711),e P "add" 1090 (r 720),e P "element" 1102 (r 729),e P "text" 1110 (r 736),e P "comment" 1118 (r 743),e P "doctype" 1128 (r 750),e P "insert" 1141 (r 758),e P "append" 1150 (r 765),e P "remove" 1158 (r 772),e P "move_children" 1167 (r 779),e P "place" 1175 (r 786),e P "last" 1183 (r 793),e P "value" 1193 (r 800),e P "is_html" 1202 (r 807),e P "__static_attributes__" 1211 (r 808),e P "__dict__" 1213 (r 811),e P "__weakref__" 1215 (r 812),e P "__doc__" 1216 vN] 4,cl (y "type") none "Tree" [(y "object")] [(r 810),(y "object")] 809 "Tree" true [] [] false none false [none,none,some (s "Tree" 1057),some (s "Tree" 1065),some (u "object.__new__"),some vT],fl (y "getset_descriptor") none [(s "__dict__" 1212),(r 810),(u "function.__dict__"),(u "function.__dict__#set")],fl (y "getset_descriptor") none [(s "__weakref__" 1214),(r 810),(u "ExceptionGroup.__weakref__"),vN],fl (y "super") none [(r 810),(r 810),(r 810)],fl (y "builtin_function_or_method") none [(u "object.__init_subclass__"),(r 810)]]),
 gp 801 (sub 80 13) "is_html" "Tree.is_html" 1194 697 3 ["self","node","name"] vN iZ,
 gp 794 (sub 80 12) "value" "Tree.value" 1184 691 3 ["self","node","name","pair"] vN iZ,
 gp 787 (sub 80 11) "last" "Tree.last" 1176 686 2 ["self","parent"] vN iZ,
 gp 780 (sub 80 10) "place" "Tree.place" 1168 681 2 ["self","node"] vN iZ,
 gp 773 (sub 80 9) "move_children" "Tree.move_children" 1159 678 3 ["self","here","there"] vN iZ,
 gp 766 (sub 80 8) "remove" "Tree.remove" 1151 673 2 ["self","node"] vN iZ,
 gp 759 (sub 80 7) "append" "Tree.append" 1142 670 3 ["self","parent","node"] vN iZ,
 gp 752 (sub 80 6) "insert" "Tree.insert" 1131 656 4 ["self","parent","node","before","at"] (r 751) iZ,
 (751,[tu [(i (-1) 1130)]]),
 gp 744 (sub 80 5) "doctype" "Tree.doctype" 1119 653 4 ["self","name","public","system"] vN iZ,
 gp 737 (sub 80 4) "comment" "Tree.comment" 1111 650 2 ["self","text"] vN iZ,
 gp 730 (sub 80 3) "text" "Tree.text" 1103 647 2 ["self","text"] vN iZ,
 gp 723 (sub 80 2) "element" "Tree.element" 1092 641 4 ["self","name","space","attrs","node"] (r 722) iZ,
 (721,[tu [],tu [(s "html" 1091),(r 721)]]),
 gp 714 (sub 80 1) "add" "Tree.add" 1079 631 6 ["self","kind","space","name","attrs","text"] (r 713) iZ,
 (712,[tu [],tu [(s "" 1076),(s "" 1077),(r 712),(s "" 1078)]]),
 gp 705 (sub 80 0) "__init__" "Tree.__init__" 1069 620 1 ["self"] vN iZ,
 (698,[tu [],fl (y "builtin_function_or_method") none [(u "type.__prepare__"),(y "type")],di (y "dict") none [e P "__module__" 1064 (s "htmltree.tree" 1055),e P "__qualname__" 1066 (s "Tree" 1065),e P "__firstlineno__" 1068 (i 618 1067),e P "__init__" 1075 (r 711),e P "add" 1090 (r 720),e P "element" 1102 (r 729),e P "text" 1110 (r 736),e P "comment" 1118 (r 743),e P "doctype" 1128 (r 750),e P "insert" 1141 (r 758),e P "append" 1150 (r 765),e P "remove" 1158 (r 772),e P "move_children" 1167 (r 779),e P "place" 1175 (r 786),e P "last" 1183 (r 793),e P "value" 1193 (r 800),e P "is_html" 1202 (r 807),e P "__static_attributes__" 1211 (r 808)] 18,tu [],nf (NF.take 42),co [(s "Tree" 1059),(s "Tree" 1060),(s "/claim/cut.py" 1061),(i 618 0),(i 0 0),(i 0 0),(i 0 0),(i 0 0),(r 701),vF,(i 181 0),(r 702),vN,vN,vN,vN,(i 1062 0),(i 618 0),(s "/claim/cut.py" 1063)],pl (y "frame") none [some (r 703),some (r 3),some (r 700),none,some (s "htmltree.tree" 1055),none,some (r 0)]]),
 gq 691 (az 78) "alike" 1045 608 3 ["tree","a","b","pair"] vN k9,
 (684,[tu [(s "items" 1035),(s "tree" 1036)],di (y "dict") none [e P "__module__" 947 (s "htmltree.formatting" 938),e P "__firstlineno__" 951 (i 561 950),e P "__init__" 959 (r 620),e P "push" 970 (r 627),e P "mark" 977 (r 634),e P "clear_to_mark" 984 (r 641),e P "find" 992 (r 648),e P "has" 1000 (r 655),e P "place" 1008 (r 662),e P "remove" 1016 (r 669),e P "replace" 1025 (r 676),e P "put_at" 1034 (r 683),e P "__static_attributes__" 1037 (r 684),e P "__dict__" 1039 (r 687),e P "__weakref__" 1041 (r 688),e P "__doc__" 1042 vN] 4,cl (y "type") none "Formatting" [(y "object")] [(r 686),(y "object")] 685 "Formatting" true [] [] false none false [none,none,some (s "Formatting" 940),some (s "Formatting" 948),some (u "object.__new__"),some vT],fl (y "getset_descriptor") none [(s "__dict__" 1038),(r 686),(u "function.__dict__"),(u "function.__dict__#set")],fl (y "getset_descriptor") none [(s "__weakref__" 1040),(r 686),(u "ExceptionGroup.__weakref__"),vN],fl (y "super") none [(r 686),(r 686),(r 686)],fl (y "builtin_function_or_method") none [(u "object.__init_subclass__"),(r 686)]]),
 gp 677 (sub 77 9) "put_at" "Formatting.put_at" 1026 606 3 ["self","place","node"] vN k9,
 gp 670 (sub 77 8) "replace" "Formatting.replace" 1017 603 3 ["self","old","new"] vN k9,
 gp 663 (sub 77 7) "remove" "Formatting.remove" 1009 599 2 ["self","node"] vN k9,
 gp 656 (sub 77 6) "place" "Formatting.place" 1001 594 2 ["self","node"] vN k9,
 gp 649 (sub 77 5) "has" "Formatting.has" 993 591 2 ["self","node"] vN k9,
 gp 642 (sub 77 4) "find" "Formatting.find" 985 588 2 ["self","name"] vN k9,
 gp 635 (sub 77 3) "clear_to_mark" "Formatting.clear_to_mark" 978 583 1 ["self"] vN k9,
 gp 628 (sub 77 2) "mark" "Formatting.mark" 971 580 1 ["self"] vN k9,
 gp 621 (sub 77 1) "push" "Formatting.push" 960 567 2 ["self","node","count","earliest","at"] vN k9,
 gp 614 (sub 77 0) "__init__" "Formatting.__init__" 952 563 2 ["self","tree"] vN k9,
 (589,[tu [(s "why" 913)],di (y "dict") none [e P "__module__" 900 (s "htmltree.faults" 891),e P "__firstlineno__" 904 (i 553 903),e P "__init__" 912 (r 588),e P "__static_attributes__" 914 (r 589),e P "__weakref__" 916 (r 592),e P "__doc__" 917 vN] 3,cl (y "type") none "HtmlFault" [(y "Exception")] [(r 591),(y "Exception"),(y "BaseException"),(y "object")] 590 "HtmlFault" true [] [(r 604)] false none false [some (r 575),none,some (s "HtmlFault" 893),some (s "HtmlFault" 901),some (u "Exception.__new__"),some vT],fl (y "getset_descriptor") none [(s "__weakref__" 915),(r 591),(u "ExceptionGroup.__weakref__"),vN],fl (y "super") none [(r 591),(r 591),(r 591)],fl (y "builtin_function_or_method") none [(u "object.__init_subclass__"),(r 591)],tu [(r 591)],fl (y "builtin_function_or_method") none [(u "type.__prepare__"),(y "type")],di (y "dict") none [e P "__module__" 929 (s "htmltree.faults" 891),e P "__qualname__" 931 (s "Misused" 930),e P "__firstlineno__" 933 (i 558 932),e P "__static_attributes__" 934 (r 602)] 4,tu [],nf [],co [(s "Misused" 924),(s "Misused" 925),(s "/claim/cut.py" 926),(i 558 0),(i 0 0),(i 0 0),(i 0 0),(i 0 0),(r 598),vF,(i 181 0),(r 599),vN,vN,vN,vN,(i 927 0),(i 558 0),(s "/claim/cut.py" 928)],pl (y "frame") none [some (r 600),some (r 3),some (r 597),none,some (s "htmltree.faults" 891),none,some (r 0)],tu [],di (y "dict") none [e P "__module__" 929 (s "htmltree.faults" 891),e P "__firstlineno__" 933 (i 558 932),e P "__static_attributes__" 934 (r 602),e P "__doc__" 935 vN] 2,cl (y "type") none "Misused" [(r 591)] [(r 604),(r 591),(y "Exception"),(y "BaseException"),(y "object")] 603 "Misused" true [] [] false none false [some (r 595),none,some (s "Misused" 922),some (s "Misused" 930),some (u "Exception.__new__"),some vT],fl (y "super") none [(r 604),(r 604),(r 604)],fl (y "builtin_function_or_method") none [(u "object.__init_subclass__"),(r 604)],tu [],fl (y "builtin_function_or_method") none [(u "type.__prepare__"),(y "type")],di (y "dict") none [e P "__module__" 947 (s "htmltree.formatting" 938),e P "__qualname__" 949 (s "Formatting" 948),e P "__firstlineno__" 951 (i 561 950),e P "__init__" 959 (r 620),e P "push" 970 (r 627),e P "mark" 977 (r 634),e P "clear_to_mark" 984 (r 641),e P "find" 992 (r 648),e P "has" 1000 (r 655),e P "place" 1008 (r 662),e P "remove" 1016 (r 669),e P "replace" 1025 (r 676),e P "put_at" 1034 (r 683),e P "__static_attributes__" 1037 (r 684)] 14,tu [],nf (NH.take 30),co [(s "Formatting" 942),(s "Formatting" 943),(s "/claim/cut.py" 944),(i 561 0),(i 0 0),(i 0 0),(i 0 0),(i 0 0),(r 610),vF,(i 181 0),(r 611),vN,vN,vN,vN,(i 945 0),(i 561 0),(s "/claim/cut.py" 946)],pl (y "frame") none [some (r 612),some (r 3),some (r 609),none,some (s "htmltree.formatting" 938),none,some (r 0)]]),
 gp 582 (sub 74 0) "__init__" "HtmlFault.__init__" 905 555 2 ["self","why"] vN m9,
 (575,[tu [(y "Exception")],fl (y "builtin_function_or_method") none [(u "type.__prepare__"),(y "type")],di (y "dict") none [e P "__module__" 900 (s "htmltree.faults" 891),e P "__qualname__" 902 (s "HtmlFault" 901),e P "__firstlineno__" 904 (i 553 903),e P "__init__" 912 (r 588),e P "__static_attributes__" 914 (r 589)] 5,tu [],nf [(i 555 0),(i 4 0),(r 587)],co [(s "HtmlFault" 895),(s "HtmlFault" 896),(s "/claim/cut.py" 897),(i 553 0),(i 0 0),(i 0 0),(i 0 0),(i 0 0),(r 578),vF,(i 181 0),(r 579),vN,vN,vN,vN,(i 898 0),(i 553 0),(s "/claim/cut.py" 899)],pl (y "frame") none [some (r 580),some (r 3),some (r 577),none,some (s "htmltree.faults" 891),none,some (r 0)]]),
 gq 568 (az 72) "row_rules" 885 550 0 [] vN m8,
 gq 561 (az 71) "in_cell" 877 541 2 ["builder","token"] vN m8,
 gq 554 (az 70) "end_in_cell" 868 528 2 ["builder","token","name"] vN m8,
 gq 547 (az 69) "close_cell" 861 526 1 ["builder"] vN m8,
 gq 540 (az 68) "in_row" 853 519 2 ["builder","token"] vN m8,
 gq 533 (az 67) "end_in_row" 844 504 2 ["builder","token","name"] vN m8,
 gq 526 (az 66) "start_in_row" 835 492 2 ["builder","token","name"] vN m8,
 gq 519 (az 65) "close_row" 827 485 2 ["builder","token"] vN m8,
 gq 512 (az 64) "in_table_body" 819 478 2 ["builder","token"] vN m8,
 gq 505 (az 63) "end_in_body" 810 467 2 ["builder","token","name"] vN m8,
 gq 498 (az 62) "start_in_body" 801 450 2 ["builder","token","name"] vN m8,
 gq 491 (az 61) "close_body" 792 443 3 ["builder","token","names"] vN m8,
 gq 484 (az 60) "in_column_group" 783 429 2 ["builder","token","kind"] vN m8,
 gq 477 (az 59) "tag_in_columns" 773 416 2 ["builder","token","is_start","name"] vN m8,
 gq 470 (az 58) "leave_columns" 764 408 3 ["builder","token","is_again"] vN m8,
 gq 463 (az 57) "in_caption" 755 397 2 ["builder","token","kind"] vN m8,
 gq 456 (az 56) "close_caption" 747 392 2 ["builder","token"] vN m8,
 gq 449 (az 55) "pop_marked" 738 385 3 ["builder","names","mode"] vN m8,
 gq 442 (az 54) "has_in_table" 729 380 3 ["builder","token","names"] vN m8,
 gq 435 (az 53) "is_table_child" 722 378 1 ["name"] vN m8,
 gq 428 (az 52) "unexpected" 715 372 1 ["token"] vN m8,
 gq 421 (az 50) "table_rules" 707 369 0 [] vN m7,
 gq 414 (az 49) "in_table_text" 699 360 2 ["builder","token"] vN m7,
 gq 407 (az 48) "flush_pending" 689 348 1 ["builder","pending","is_blank","each"] vN m7,
 gq 400 (az 47) "in_table" 680 334 2 ["builder","token","kind"] vN m7,
 gq 393 (az 46) "sign_in_table" 672 326 2 ["builder","token"] vN m7,
 gq 386 (az 45) "end_in_table" 663 315 2 ["builder","token","name"] vN m7,
 gq 379 (az 44) "start_in_table" 654 301 2 ["builder","token","name"] vN m7,
 gq 372 (az 43) "form_in_table" 646 296 2 ["builder","token"] vN m7,
 gq 365 (az 42) "input_in_table" 637 289 2 ["builder","token","sort"] vN m7,
 gq 358 (az 41) "table_in_table" 629 285 2 ["builder","token"] vN m7,
 gq 351 (az 40) "open_part" 620 264 2 ["builder","token","name"] vN m7,
 gq 344 (az 39) "close_table" 613 258 1 ["builder"] vN m7,
 gq 337 (az 38) "outside_table" 605 253 2 ["builder","token"] vN m7,
 gq 330 (az 37) "pop_to_row" 598 251 1 ["builder"] vN m7,
 gq 323 (az 36) "pop_to_body" 591 249 1 ["builder"] vN m7,
 gq 316 (az 35) "pop_to_table" 584 247 1 ["builder"] vN m7,
 gq 309 (az 33) "is_space_token" 575 244 1 ["token"] vN m6,
 gq 302 (az 32) "value_of" 566 239 2 ["token","name","pair"] vN m6,
 gq 295 (az 30) "reset_mode" 554 226 1 ["builder","at","mode","node"] vN m5,
 gq 288 (az 29) "mode_for" 544 211 3 ["builder","node","at","name"] vN m5,
 gq 281 (az 28) "select_mode" 535 202 2 ["builder","at","node"] vN m5,
 gq 274 (az 27) "mode_of" 527 199 1 ["name","table"] vN m5,
 gq 267 (az 25) "pop_implied" 516 194 2 ["stack","but","names"] (r 266) m4,
 (266,[tu [(s "" 515)]]),
 gq 259 (az 24) "in_scope" 503 185 3 ["stack","names","sort","tree","at","node"] (r 258) m4,
 (258,[tu [(s "" 502)]]),
 gq 251 (az 23) "stops_scope" 491 169 3 ["tree","node","sort","space","name"] vN m4,
 (244,[tu [(s "items" 481),(s "tree" 482)],di (y "dict") none [e P "__module__" 371 (s "htmltree.openstack" 362),e P "__firstlineno__" 375 (i 109 374),e P "__init__" 383 (r 159),e P "push" 391 (r 166),e P "pop" 398 (r 173),e P "current" 405 (r 180),e P "many" 412 (r 187),e P "has" 420 (r 194),e P "remove" 428 (r 201),e P "place" 436 (r 208),e P "put_at" 445 (r 215),e P "name" 453 (r 222),e P "has_name" 462 (r 229),e P "pop_until" 472 (r 236),e P "pop_to" 480 (r 243),e P "__static_attributes__" 483 (r 244),e P "__dict__" 485 (r 247),e P "__weakref__" 487 (r 248),e P "__doc__" 488 vN] 4,cl (y "type") none "OpenStack" [(y "object")] [(r 246),(y "object")] 245 "OpenStack" true [] [] false none false [none,none,some (s "OpenStack" 364),some (s "OpenStack" 372),some (u "object.__new__"),some vT],fl (y "getset_descriptor") none [(s "__dict__" 484),(r 246),(u "function.__dict__"),(u "function.__dict__#set")],fl (y "getset_descriptor") none [(s "__weakref__" 486),(r 246),(u "ExceptionGroup.__weakref__"),vN],fl (y "super") none [(r 246),(r 246),(r 246)],fl (y "builtin_function_or_method") none [(u "object.__init_subclass__"),(r 246)]]),
 gp 237 (sub 22 12) "pop_to" "OpenStack.pop_to" 473 166 2 ["self","names"] vN m4,
 gp 230 (sub 22 11) "pop_until" "OpenStack.pop_until" 463 158 2 ["self","names","name","node"] vN m4,
 gp 223 (sub 22 10) "has_name" "OpenStack.has_name" 454 152 2 ["self","name","node"] vN m4,
 gp 216 (sub 22 9) "name" "OpenStack.name" 446 146 1 ["self","node"] vN m4,
 gp 209 (sub 22 8) "put_at" "OpenStack.put_at" 437 143 3 ["self","place","node"] vN m4,
 gp 202 (sub 22 7) "place" "OpenStack.place" 429 138 2 ["self","node"] vN m4,
 gp 195 (sub 22 6) "remove" "OpenStack.remove" 421 134 2 ["self","node"] vN m4,
 gp 188 (sub 22 5) "has" "OpenStack.has" 413 131 2 ["self","node"] vN m4,
 gp 181 (sub 22 4) "many" "OpenStack.many" 406 128 1 ["self"] vN m4,
 gp 174 (sub 22 3) "current" "OpenStack.current" 399 123 1 ["self"] vN m4,
 gp 167 (sub 22 2) "pop" "OpenStack.pop" 392 118 1 ["self"] vN m4,
 gp 160 (sub 22 1) "push" "OpenStack.push" 384 115 2 ["self","node"] vN m4,
 gp 153 (sub 22 0) "__init__" "OpenStack.__init__" 376 111 2 ["self","tree"] vN m4,
 (146,[tu [],fl (y "builtin_function_or_method") none [(u "type.__prepare__"),(y "type")],di (y "dict") none [e P "__module__" 371 (s "htmltree.openstack" 362),e P "__qualname__" 373 (s "OpenStack" 372),e P "__firstlineno__" 375 (i 109 374),e P "__init__" 383 (r 159),e P "push" 391 (r 166),e P "pop" 398 (r 173),e P "current" 405 (r 180),e P "many" 412 (r 187),e P "has" 420 (r 194),e P "remove" 428 (r 201),e P "place" 436 (r 208),e P "put_at" 445 (r 215),e P "name" 453 (r 222),e P "has_name" 462 (r 229),e P "pop_until" 472 (r 236),e P "pop_to" 480 (r 243),e P "__static_attributes__" 483 (r 244)] 17,tu [],nf (NG.take 39),co [(s "OpenStack" 366),(s "OpenStack" 367),(s "/claim/cut.py" 368),(i 109 0),(i 0 0),(i 0 0),(i 0 0),(i 0 0),(r 149),vF,(i 181 0),(r 150),vN,vN,vN,vN,(i 369 0),(i 109 0),(s "/claim/cut.py" 370)],pl (y "frame") none [some (r 151),some (r 3),some (r 148),none,some (s "htmltree.openstack" 362),none,some (r 0)]]),
 gq 139 (az 20) "associate" 352 97 2 ["builder","node","tree","name"] vN m3,
 gq 132 (az 19) "insert_void" 343 92 2 ["builder","token","node"] vN m3,
 gq 125 (az 18) "insert_token" 334 88 2 ["builder","token","node"] vN m3,
 gq 118 (az 17) "insert_element" 321 82 4 ["builder","name","attrs","space","parent","before","node"] (r 117) m3,
 (116,[tu [],tu [(r 116),(s "html" 320)]]),
 gq 109 (az 16) "make" 310 80 4 ["builder","name","attrs","space"] (r 108) m3,
 (108,[tu [(s "html" 309)]]),
 gq 101 (az 15) "insert_comment" 299 75 3 ["builder","text","parent","before"] (r 100) m3,
 (100,[tu [(i (-1) 298)]]),
 gq 93 (az 14) "insert_sign" 284 60 2 ["builder","sign","tree","parent","before","ahead","at"] vN m3,
 gq 86 (az 13) "place_for" 273 47 2 ["builder","target","tree","here","before"] (r 85) m3,
 (85,[tu [(i (-1) 272)]]),
 gq 78 (az 12) "foster_place" 260 33 1 ["builder","tree","items","at","node"] vN m3,
 gq 71 (az 10) "implied_names" 252 30 0 [] vN m2,
 gq 64 (az 9) "is_html_point" 243 23 2 ["tree","node","encoding"] vN m2,
 gq 57 (az 8) "is_math_point" 235 21 2 ["tree","node"] vN m2,
 gq 50 (az 7) "is_table_part" 228 19 1 ["name"] vN m2,
 gq 43 (az 5) "lower_text" 217 13 1 ["text","out","c"] vN m1,
 gq 36 (az 4) "lower" 210 9 1 ["c"] vN m1,
 gq 29 (az 3) "is_upper" 203 7 1 ["c"] vN m1,
 gq 22 (az 2) "is_space" 196 5 1 ["c"] vN m1,
 gq 15 (az 0) "_wall" 187 1 1 ["k"] vN m0,
 (0,[boot_o_0 P,boot_o_1 P,di vN none [e P "type.__subclasses__.Exception.0" 918 (i 591 0),e P "type.__subclasses__.Exception.n" 919 (i 1 0)] 2,o3 P,boot_o_4 P,boot_o_5 P,boot_o_6 P,boot_o_7 P,boot_o_8 P,boot_o_9 P,boot_o_10 P,tu [],nf (hU.take 273),co [(s "<module>" 182),(s "<module>" 183),(s "/claim/cut.py" 184),(i 1 0),(i 0 0),(i 0 0),(i 0 0),(i 0 0),(r 11),vF,(i 181 0),(r 12),vN,vN,vN,vN,(i 185 0),(i 1 0),(s "/claim/cut.py" 186)],pl (y "frame") none [some (r 13),some (r 3),some (r 3),none,some (s "__main__" 164),none,some (r 0)]])]
def ob(P:Params)(i:Nat):Obj:=lk (gr P) i
def Fm(P:Params)(m:Nat):BT:=zF (lk (gr P)) m 11 1 0
def F(P:Params):BT:=Fm P 1015
def T0(P:Params):BT:=sets [(2,boot_o_2 P),(3,boot_o_3 P),(12,(nf []))] (Fm P 15)
def T1(P:Params):BT:=sets [(2,boot_o_2 P),(3,(di (y "dict") none (e P "__name__" 165 (s "htmltree.inserting" 258)::gW 18 (gl P)) 19)),(12,(nf (hU.take 30)))] (Fm P 85)
def T2(P:Params):BT:=sets [(2,boot_o_2 P),(3,(di (y "dict") none (e P "__name__" 165 (s "htmltree.openstack" 362)::gW 26 (gl P)) 27)),(12,(nf (hU.take 54)))] (Fm P 146)
def T3(P:Params):BT:=sets [(2,boot_o_2 P),(3,(di (y "dict") none (e P "__name__" 165 (s "htmltree.openstack" 362)::gW 27 (gl P)) 28)),(12,(nf (hU.take 57)))] (Fm P 251)
def T4(P:Params):BT:=sets [(2,boot_o_2 P),(3,(di (y "dict") none (e P "__name__" 165 (s "htmltree.tablemodes" 582)::gW 36 (gl P)) 37)),(12,(nf (hU.take 84)))] (Fm P 316)
def T5(P:Params):BT:=sets [(2,boot_o_2 P),(3,(di (y "dict") none (e P "__name__" 165 (s "htmltree.tablemodes" 582)::gW 47 (gl P)) 48)),(12,(nf (hU.take 117)))] (Fm P 393)
def T6(P:Params):BT:=sets [(2,boot_o_2 P),(3,(di (y "dict") none (e P "__name__" 165 (s "htmltree.tablerows" 713)::gW 57 (gl P)) 58)),(12,(nf (hU.take 147)))] (Fm P 463)
def T7(P:Params):BT:=sets [(2,boot_o_2 P),(3,(di (y "dict") none (e P "__name__" 165 (s "htmltree.tablerows" 713)::gW 67 (gl P)) 68)),(12,(nf (hU.take 177)))] (Fm P 533)
def T8(P:Params):BT:=sets [(2,boot_o_2 P),(3,(di (y "dict") none (e P "__name__" 165 (s "htmltree.faults" 891)::gW 73 (gl P)) 74)),(12,(nf (hU.take 195)))] (Fm P 575)
def T9(P:Params):BT:=sets [(3,(di (y "dict") none (e P "__name__" 165 (s "htmltree.faults" 891)::gW 74 (gl P)) 75)),(12,(nf (hU.take 198))),(591,(cl (y "type") none "HtmlFault" [(y "Exception")] [(r 591),(y "Exception"),(y "BaseException"),(y "object")] 590 "HtmlFault" true [] [] false none false [some (r 575),none,some (s "HtmlFault" 893),some (s "HtmlFault" 901),some (u "Exception.__new__"),some vT]))] (Fm P 595)
def EB(P:Params):BT:=sets [(3,(di (y "dict") none (e P "__name__" 165 (s "htmltree.formatting" 938)::gW 75 (gl P)) 76)),(12,(nf (hU.take 201)))] (Fm P 607)
def EC(P:Params):BT:=sets [(3,(di (y "dict") none (e P "__name__" 165 (s "htmltree.formatting" 938)::gW 76 (gl P)) 77)),(12,(nf (hU.take 204)))] (Fm P 691)
def ED(P:Params):BT:=sets [(3,(di (y "dict") none (e P "__name__" 165 (s "htmltree.tree" 1055)::gW 77 (gl P)) 78)),(12,(nf (hU.take 207)))] (Fm P 698)
def EE(P:Params):BT:=sets [(3,(di (y "dict") none (e P "__name__" 165 (s "htmltree.tree" 1055)::gW 78 (gl P)) 79)),(12,(nf (hU.take 210)))] (Fm P 815)
def EF(P:Params):BT:=sets [(3,(di (y "dict") none (e P "__name__" 165 (s "htmltree.builder" 1229)::gW 79 (gl P)) 80)),(12,(nf (hU.take 213)))] (Fm P 822)
def EG(P:Params):BT:=sets [(3,(di (y "dict") none (e P "__name__" 165 (s "htmltree.builder" 1229)::gW 80 (gl P)) 81)),(12,(nf (hU.take 216)))] (Fm P 893)
def EH(P:Params):BT:=sets [(3,(di (y "dict") none (e P "__name__" 165 (s "law_nt0624_01" 1361)::gW 90 (gl P)) 91)),(12,(nf (hU.take 246)))] (Fm P 958)
def rE(P:Params):BT:=F P
theorem hV{w:World}{N:Nat}{S:SharedT}{t:Thread}{r:Option (Flow×SharedT×Code×Pos)}(h:PySem.W.Fast.tw10110043849684766642 PySem.W.Fast.tw14364793385576792824 pw w 11 (some (.ref 6)) 1 N S t=r):segRunT treeTable pw w 11 (some (.ref 6)) 1 N S t=r:=by
 rw[PySem.W.Fast.te10110043849684766642,ags];exact h
theorem NL{w:World}{N:Nat}{S:Shared}{t:Thread}{r:Option (Flow×Shared×Code×Pos)}(h:PySem.W.Fast.tw14374325043358763698 PySem.W.Fast.tw14364793385576792824 pw w 11 (some (.ref 6)) 1 N S t=r):segRun treeTable pw w 11 (some (.ref 6)) 1 N S t=r:=by
 rw[PySem.W.Fast.te14374325043358763698,ags];exact h
theorem NM{w:World}{N:Nat}{S:Shared}{t:Thread}{r:Option (Shared×Thread)}(h:PySem.W.Fast.tw15667345088766844465 PySem.W.Fast.tw14364793385576792824 pw w 11 (some (.ref 6)) N S t=r):topGo treeTable pw w 11 (some (.ref 6)) N S t=r:=by
 rw[PySem.W.Fast.te15667345088766844465,ags];exact h
theorem NN{w:World}{N:Nat}{S:Shared}{t:Thread}{r:Option Shared}(h:PySem.W.Fast.tw14082659384304107361 PySem.W.Fast.tw14364793385576792824 pw w 11 (some (.ref 6)) N S t=r):topRun treeTable pw w 11 (some (.ref 6)) N S t=r:=by
 rw[PySem.W.Fast.te14082659384304107361,ags];exact h
end
end H
set_option tactic.hygienic false
set_option tactic.hygienic true
namespace H
theorem P0(w:World)(os:OsState):segRunT treeTable pw w 11 (some (.ref 6)) 1 326 (ST T0 15 187 w os) (piecesOf (dz (behindTheImports pw) 0 13) fM cE ⟨0,0,0,0⟩ B0)=some (.next,ST T1 85 271 w os,cE,⟨33,0,46,21⟩):=hV (by kernel_rfl)
theorem P4(w:World)(os:OsState):segRunT treeTable pw w 11 (some (.ref 6)) 1 331 (ST T4 316 584 w os) (piecesOf (dz (behindTheImports pw) 35 11) fM cE ⟨246,0,246,8⟩ B0)=some (.next,ST T5 393 672 w os,cE,⟨315,0,325,37⟩):=hV (by kernel_rfl)
theorem P8(w:World)(os:OsState):segRunT treeTable pw w 11 (some (.ref 6)) 1 229 (ST T8 575 893 w os) (piecesOf (dz (behindTheImports pw) 74 1) fM cE ⟨552,0,552,8⟩ B0)=some (.next,ST T9 595 922 w os,cE,⟨553,0,557,22⟩):=hV (by kernel_rfl)
theorem NO(w:World)(os:OsState):segRunT treeTable pw w 11 (some (.ref 6)) 1 679 (ST ED 698 1057 w os) (piecesOf (dz (behindTheImports pw) 80 1) fM cE ⟨617,0,617,8⟩ B0)=some (.next,ST EE 815 1219 w os,cE,⟨618,0,698,88⟩):=hV (by kernel_rfl)
theorem NP(w:World)(os:OsState):segRunT treeTable pw w 11 (some (.ref 6)) 1 282 (ST EH 958 1423 w os) (piecesOf (dz (behindTheImports pw) 96 9) fM cE ⟨833,0,834,46⟩ B0)=some (.next,ST rE 1015 1512 w os,cE,⟨928,0,957,109⟩):=hV (by kernel_rfl)
end H
set_option tactic.hygienic false
set_option tactic.hygienic true
namespace H
theorem P1(w:World)(os:OsState):segRunT treeTable pw w 11 (some (.ref 6)) 1 291 (ST T1 85 271 w os) (piecesOf (dz (behindTheImports pw) 13 9) fM cE ⟨33,0,46,21⟩ B0)=some (.next,ST T2 146 364 w os,cE,⟨108,0,108,8⟩):=hV (by kernel_rfl)
theorem P5(w:World)(os:OsState):segRunT treeTable pw w 11 (some (.ref 6)) 1 311 (ST T5 393 672 w os) (piecesOf (dz (behindTheImports pw) 46 11) fM cE ⟨315,0,325,37⟩ B0)=some (.next,ST T6 463 755 w os,cE,⟨392,0,396,15⟩):=hV (by kernel_rfl)
theorem P9(w:World)(os:OsState):segRunT treeTable pw w 11 (some (.ref 6)) 1 223 (ST T9 595 922 w os) (piecesOf (dz (behindTheImports pw) 75 2) fM cE ⟨553,0,557,22⟩ B0)=some (.next,ST EB 607 940 w os,cE,⟨560,0,560,8⟩):=hV (by kernel_rfl)
theorem NQ(w:World)(os:OsState):segRunT treeTable pw w 11 (some (.ref 6)) 1 42 (ST EE 815 1219 w os) (piecesOf (dz (behindTheImports pw) 81 2) fM cE ⟨618,0,698,88⟩ B0)=some (.next,ST EF 822 1231 w os,cE,⟨706,0,706,8⟩):=hV (by kernel_rfl)
end H
set_option tactic.hygienic false
set_option tactic.hygienic true
namespace H
theorem P2(w:World)(os:OsState):segRunT treeTable pw w 11 (some (.ref 6)) 1 609 (ST T2 146 364 w os) (piecesOf (dz (behindTheImports pw) 22 1) fM cE ⟨108,0,108,8⟩ B0)=some (.next,ST T3 251 491 w os,cE,⟨109,0,168,28⟩):=hV (by kernel_rfl)
theorem P6(w:World)(os:OsState):segRunT treeTable pw w 11 (some (.ref 6)) 1 310 (ST T6 463 755 w os) (piecesOf (dz (behindTheImports pw) 57 10) fM cE ⟨392,0,396,15⟩ B0)=some (.next,ST T7 533 844 w os,cE,⟨492,0,503,38⟩):=hV (by kernel_rfl)
theorem NR(w:World)(os:OsState):segRunT treeTable pw w 11 (some (.ref 6)) 1 515 (ST EB 607 940 w os) (piecesOf (dz (behindTheImports pw) 77 1) fM cE ⟨560,0,560,8⟩ B0)=some (.next,ST EC 691 1045 w os,cE,⟨561,0,607,16⟩):=hV (by kernel_rfl)
theorem NS(w:World)(os:OsState):segRunT treeTable pw w 11 (some (.ref 6)) 1 470 (ST EF 822 1231 w os) (piecesOf (dz (behindTheImports pw) 83 1) fM cE ⟨706,0,706,8⟩ B0)=some (.next,ST EG 893 1338 w os,cE,⟨707,0,769,62⟩):=hV (by kernel_rfl)
end H
set_option tactic.hygienic false
set_option tactic.hygienic true
namespace H
theorem P3(w:World)(os:OsState):segRunT treeTable pw w 11 (some (.ref 6)) 1 315 (ST T3 251 491 w os) (piecesOf (dz (behindTheImports pw) 23 12) fM cE ⟨109,0,168,28⟩ B0)=some (.next,ST T4 316 584 w os,cE,⟨246,0,246,8⟩):=hV (by kernel_rfl)
theorem P7(w:World)(os:OsState):segRunT treeTable pw w 11 (some (.ref 6)) 1 189 (ST T7 533 844 w os) (piecesOf (dz (behindTheImports pw) 67 7) fM cE ⟨492,0,503,38⟩ B0)=some (.next,ST T8 575 893 w os,cE,⟨552,0,552,8⟩):=hV (by kernel_rfl)
theorem NT(w:World)(os:OsState):segRunT treeTable pw w 11 (some (.ref 6)) 1 42 (ST EC 691 1045 w os) (piecesOf (dz (behindTheImports pw) 78 2) fM cE ⟨561,0,607,16⟩ B0)=some (.next,ST ED 698 1057 w os,cE,⟨617,0,617,8⟩):=hV (by kernel_rfl)
theorem NU(w:World)(os:OsState):segRunT treeTable pw w 11 (some (.ref 6)) 1 315 (ST EG 893 1338 w os) (piecesOf (dz (behindTheImports pw) 84 12) fM cE ⟨707,0,769,62⟩ B0)=some (.next,ST EH 958 1423 w os,cE,⟨833,0,834,46⟩):=hV (by kernel_rfl)
end H
set_option tactic.hygienic false
set_option tactic.hygienic true
namespace H
theorem parts:behindTheImports pw=dz (behindTheImports pw) 0 13++(dz (behindTheImports pw) 13 9++(dz (behindTheImports pw) 22 1++(dz (behindTheImports pw) 23 12++(dz (behindTheImports pw) 35 11++(dz (behindTheImports pw) 46 11++(dz (behindTheImports pw) 57 10++(dz (behindTheImports pw) 67 7++(dz (behindTheImports pw) 74 1++(dz (behindTheImports pw) 75 2++(dz (behindTheImports pw) 77 1++(dz (behindTheImports pw) 78 2++(dz (behindTheImports pw) 80 1++(dz (behindTheImports pw) 81 2++(dz (behindTheImports pw) 83 1++(dz (behindTheImports pw) 84 12++(dz (behindTheImports pw) 96 9++([]))))))))))))))))):=by kernel_rfl
theorem pre(w:World)(os:OsState):topGo treeTable pw w 11 (some (.ref 6)) 12 ⟨boot_heap w.params,Array.mk [],boot_drawn,boot_toks,os⟩ (topStub pw)=some ((ST T0 15 187 w os).abs,⟨denote treeTable cE,cE,⟨0,0,0,0⟩,B0⟩):=NM (by rw[PySem.W.Fast.te11892475500146522536];kernel_rfl)
theorem block(w:World)(os:OsState):segRun treeTable pw w 11 (some (.ref 6)) 1 1 (ST T0 15 187 w os).abs (blockOf (behindTheImports pw) fM cE ⟨0,0,0,0⟩ B0)=some (.next,(ST T0 15 187 w os).abs,cE,⟨0,0,0,0⟩):=NL (by kernel_rfl)
theorem fin(w:World)(os:OsState):topRun treeTable pw w 11 (some (.ref 6)) 2 (ST rE 1015 1512 w os).abs (restOf [] fM cE ⟨928,0,957,109⟩ B0)=some (ST rE 1015 1512 w os).abs:=NN (by kernel_rfl)
theorem rest(w:World)(os:OsState):topRun treeTable pw w 11 (some (.ref 6)) (326+(291+(609+(315+(331+(311+(310+(189+(229+(223+(515+(42+(679+(42+(470+(315+(282+(2)))))))))))))))))) (ST T0 15 187 w os).abs (restOf (behindTheImports pw) fM cE ⟨0,0,0,0⟩ B0)=some (ST rE 1015 1512 w os).abs:=
 (afp (λl=>topRun treeTable pw w 11 (some (.ref 6)) (326+(291+(609+(315+(331+(311+(310+(189+(229+(223+(515+(42+(679+(42+(470+(315+(282+(2)))))))))))))))))) (ST T0 15 187 w os).abs (restOf l fM cE ⟨0,0,0,0⟩ B0)) parts).trans (agn (ago (P0 w os)) (agn (ago (P1 w os)) (agn (ago (P2 w os)) (agn (ago (P3 w os)) (agn (ago (P4 w os)) (agn (ago (P5 w os)) (agn (ago (P6 w os)) (agn (ago (P7 w os)) (agn (ago (P8 w os)) (agn (ago (P9 w os)) (agn (ago (NR w os)) (agn (ago (NT w os)) (agn (ago (NO w os)) (agn (ago (NQ w os)) (agn (ago (NS w os)) (agn (ago (NU w os)) (agn (ago (NP w os)) (fin w os))))))))))))))))))
theorem NV(w:World)(os:OsState):topRun treeTable pw w 11 (some (.ref 6)) (12+(1+(326+(291+(609+(315+(331+(311+(310+(189+(229+(223+(515+(42+(679+(42+(470+(315+(282+(2)))))))))))))))))))) ⟨boot_heap w.params,Array.mk [],boot_drawn,boot_toks,os⟩ (topStub pw)=some (ST rE 1015 1512 w os).abs:=
 go_top (pre w os) (piece_block (block w os) (rest w os))
end H
set_option tactic.hygienic false
set_option tactic.hygienic true
namespace H
noncomputable def wm:List Addr:=[3,13,20,21,27,28,34,35,41,42,48,49,55,56,62,63,69,70,76,77,83,84,85,91,92,98,99,100,106,107,108,114,115,116,117,123,124,130,131,137,138,144,145,151,158,159,165,166,172,173,179,180,186,187,193,194,200,201,207,208,214,215,221,222,228,229,235,236,242,243,245,246,256,257,258,264,265,266,272,273,279,280,286,287,293,294,300,301,307,308,314,315,321,322,328,329,335,336,342,343,349,350,356,357,363,364,370,371,377,378,384,385,391,392,398,399,405,406,412,413,419,420,426,427,433,434,440,441,447,448,454,455,461,462,468,469,475,476,482,483,489,490,496,497,503,504,510,511,517,518,524,525,531,532,538,539,545,546,552,553,559,560,566,567,573,574,580,587,588,590,591,600,603,604,612,619,620,626,627,633,634,640,641,647,648,654,655,661,662,668,669,675,676,682,683,685,686,696,697,703,710,711,712,713,719,720,721,722,728,729,735,736,742,743,749,750,751,757,758,764,765,771,772,778,779,785,786,792,793,799,800,806,807,809,810,820,821,827,829,835,836,842,843,849,850,856,857,863,864,870,871,877,878,884,885,887,888,898,899,900,906,907,913,914,920,921,925,926,932,933,939,940,944,945,951,952,956,957,963,964,970,971,977,978,982,983,989,990,994,995,1001,1002,1008,1009,1013,1014]
def K(P:Params):Frag:=wm.map λa=>(a,ob P a)
noncomputable def wo:List Str:=(["_wall","is_space","is_upper","lower","lower_text","is_table_part","is_math_point","is_html_point","implied_names","foster_place","place_for","insert_sign","insert_comment","make","insert_element","insert_token","insert_void","associate","OpenStack","stops_scope","in_scope","pop_implied","mode_of","select_mode","mode_for","reset_mode","value_of","is_space_token","pop_to_table","pop_to_body","pop_to_row","outside_table","close_table","open_part","table_in_table","input_in_table","form_in_table","start_in_table","end_in_table","sign_in_table","in_table","flush_pending","in_table_text","table_rules","unexpected","is_table_child","has_in_table","pop_marked","close_caption","in_caption","leave_columns","tag_in_columns","in_column_group","close_body","start_in_body","end_in_body","in_table_body","close_row","start_in_row","end_in_row","in_row","close_cell","end_in_cell","in_cell","row_rules","HtmlFault","Misused","Formatting","alike","Tree","above","Builder","is_html_turn","ready","_law_token","_law_body","_law_plain","_law_is_blank","_law_mode","_law_split","_law_holds","_law_names","_law_put","_law_grow","_law_leave","_law_settle","_law_sign","_law_part","_law_other","_law_tag"]:List String).map Str.ofString
theorem EI:∀P,wm=(K P).map (·.1):=λ_=>by kernel_rfl
def q:Program:={pw with main:={pw.main with body:=[az 104]}}
abbrev R:OpenRow:=PySem.Challenge.rw_nt0624_01.row
abbrev SF(w:World)(os:OsState):Shared:=(ST rE 1015 1512 w os).abs
theorem size(w:World):((boot_heap w.params).isNs mainGlobals&&(Array.mk []:Array GenState).size==0,(boot_heap w.params).objs.size,(boot_heap w.params).nsMap mainGlobals "__annotations__")=(true,11,some (.ref 6)):=by kernel_rfl
noncomputable def wq (t:BT)(n:Nat):List (Addr×Obj)->List (Bool×Option Obj)
 |[]=>[]
 |p::l=>(Nat.blt p.1 n,(t.get p.1).bind alive)::wq t n l
noncomputable def wu:List (Addr×Obj)->List (Bool×Option Obj)
 |[]=>[]
 |p::l=>(true,some p.2)::wu l
theorem EJ{t:BT}{n:Nat}{lf:Life}:∀{l:List (Addr×Obj)},wq t n l=wu l->(l.map (·.1)).map (absHeap t n lf).get?=l.map λp=>some p.2
 |[],_=>rfl
 |p::l,h=>by
  unfold wq wu at h;obtain⟨h1,h2⟩:=List.cons.inj h;obtain⟨h3,h4⟩:=Prod.mk.inj h1;rw[agk,agk,agk,EJ h2]
  congr 1
  cases e:t.get p.1 with
  |none=>rw[e]at h4;cases h4
  |some o=>rw[e]at h4;rw[abs_get (afo h3) e];exact h4
theorem NW(P:Params):wq (F P) 1015 (K P)=wu (K P):=by kernel_rfl
theorem NX(w:World)(os:OsState):wm.map (SF w os).heap.get?=(K w.params).map λp=>some p.2:=by
 rw[EI w.params];exact EJ (NW w.params)
abbrev HK:Hook:=kHook K wm EI
theorem NY:opening pw=plainProg pw.main.scope.names:=by kernel_rfl
theorem NZ(s:Shared):fenceModules? pw s=some s:=by kernel_rfl
theorem N0(w:World):(λos=>((staticsOk (importedModules pw.main.body) (boot_heap w.params) (absHeap (F w.params) 1015 tU)&&namesBound pw (absHeap (F w.params) 1015 tU)&&gensDone (SF w os)&&laidKept (boot_heap w.params) (absHeap (F w.params) 1015 tU)),
  openSeen q wo (importedModules pw.main.body) (λs=>xlAt q [] s&&recOk R.records s) true (SF w os),Hook.obs HK (SF w os)))=λ_=>(true,openGood q wo,Hook.val HK w):=by
 exact funext λos=>congr (afp Prod.mk (by kernel_rfl)) (congr (afp Prod.mk (by kernel_rfl)) (NX w os))
theorem left:LeftO pw q wo (λs=>xlAt q [] s&&recOk R.records s) (Hook.obs HK) (Hook.val HK) (12+(1+(326+(291+(609+(315+(331+(311+(310+(189+(229+(223+(515+(42+(679+(42+(470+(315+(282+(2)))))))))))))))))))):=
 LeftO.of_pieces (H₀:=boot_heap) (H₁:=λP=>absHeap (F P) 1015 tU) (boot_open NY (by decide+kernel) NZ) size NV (by decide+kernel) N0
end H
set_option tactic.hygienic false
set_option tactic.hygienic true
section
noncomputable abbrev R0:OpenLaw:=PySem.Challenge.rw_nt0624_01
open PySem.W.Fast
theorem N3:R0.wellSaid=true:=by
 unfold OpenLaw.wellSaid OpenRow.wellSaid OpenRow.partSaid looksOpen
 repeat' with_reducible refine look_both ?_ ?_
 all_goals (try simp only[te11788848310118352699,te9807087744658564304,te12862048085361865435,te8377067652309620493,te18344453789297297638,te3471404346716756564,te14412699480532031325,te8326940854005059898,te5923862056798008813,te17691160309236699985,te13343964577679436407,te17119622794617984870,te17868728402115742887,te4857012375875476094,te12749700546528644094,te10501279942588096481,te8179353310426384613,te797321630700447069,te9572597257264208301,te9558739934217749035,te12879404354523853263,te17095254045102204799,te482687673346738481,te10792542408131684335,te7723801398212525404,te2357444279172408678,te6984425678791042302,te16286561074155671207,named_eq])<;>(try rw[sDec_eq])<;>kernel_rfl
end
set_option tactic.hygienic false
set_option tactic.hygienic true
namespace H
def dk:DefRec×List (Str×Expr):=match defOf q R.name with
 |some x=>x
 |none=>(⟨⟨#[]⟩,⟨[],[],none,[],[],none,[]⟩,[],pw.main.scope,⟨0,0,0,0⟩⟩,[])
theorem N4:defOf q R.name=some (dk.1,dk.2):=by kernel_rfl
theorem N5:R.prog.theDef R.name=some (dk.1.params,dk.1.body,dk.1.scope):=by kernel_rfl
theorem N6:kwWritten? dk.1.params.kwonlyargs dk.1.params.kw_defaults=some dk.2:=by kernel_rfl
theorem N7:(chainsOk q&&opensWell R.prog&&(frees R.toRowW&&R.within.isEmpty))=true:=by kernel_rfl
theorem whole:R.prog.tablesWhole=true:=by
 unfold Program.tablesWhole TablesWhole.wProgram;simp only[PySem.W.Fast.te6116379765354995101]
 kernel_rfl
theorem promised:R.toRowW.promised:=by w_witness2
theorem entry(c:WalkO q wo (XL q []) (Hook.says HK) R.toRowW dk.1 dk.2 λf vs=>PySem.call f vs):PySem.Challenge.rw_nt0624_01.Holds:=
 holds_law N3 λN8=>holds_open (r:=R) (Xt:=λs=>xlAt q [] s&&recOk R.records s) (XP:=XL q []) (Yf:=Hook.obs HK) (Ya:=Hook.val HK) (YP:=Hook.says HK) left (Hook.of HK) (Hook.keeps HK)
  (λs e=>xl_of s (agd.mp e).1) XL.keeps N4 N5 N6 (λs e=>recFacts_of (agd.mp e).2) (by rfl) N8 N7 ⟨rfl,rfl,rfl,rfl,rfl,whole⟩ promised c
end H
set_option tactic.hygienic false
theorem cps{P:Prop}(h:∀G:Prop,(P->G)->G):P:=h P id
section
variable{G:Prop}
theorem aO{P0 P1:Prop}(h:P0/\P1)(g:P0->P1->G):G:=g h.1 h.2
theorem dG{P0 P1 P2:Prop}(h:P0/\P1/\P2)(g:P0->P1->P2->G):G:=aO h.2 (g h.1)
theorem fb{P0 P1 P2 P3:Prop}(h:P0/\P1/\P2/\P3)(g:P0->P1->P2->P3->G):G:=dG h.2 (g h.1)
theorem wz{P0 P1 P2 P3 P4:Prop}(h:P0/\P1/\P2/\P3/\P4)(g:P0->P1->P2->P3->P4->G):G:=fb h.2 (g h.1)
theorem EK{P0 P1 P2 P3 P4 P5:Prop}(h:P0/\P1/\P2/\P3/\P4/\P5)(g:P0->P1->P2->P3->P4->P5->G):G:=wz h.2 (g h.1)
theorem N9{P0 P1 P2 P3 P4 P5 P6:Prop}(h:P0/\P1/\P2/\P3/\P4/\P5/\P6)(g:P0->P1->P2->P3->P4->P5->P6->G):G:=EK h.2 (g h.1)
theorem aF{cR:Sort _}{P0:cR->Prop}(h:∃a0,P0 a0)(g:∀a0,P0 a0->G):G:=h.elim g
theorem ah{cR:Sort _}{P0 P1:cR->Prop}(h:∃a0,P0 a0/\P1 a0)(g:∀a0,P0 a0->P1 a0->G):G:=h.elim λa h=>aO h (g a)
theorem cC{cR:Sort _}{P0 P1 P2:cR->Prop}(h:∃a0,P0 a0/\P1 a0/\P2 a0)(g:∀a0,P0 a0->P1 a0->P2 a0->G):G:=h.elim λa h=>dG h (g a)
theorem jY{cR:Sort _}{P0 P1 P2 P3:cR->Prop}(h:∃a0,P0 a0/\P1 a0/\P2 a0/\P3 a0)(g:∀a0,P0 a0->P1 a0->P2 a0->P3 a0->G):G:=h.elim λa h=>fb h (g a)
theorem Oa{cR:Sort _}{P0 P1 P2 P3 P4:cR->Prop}(h:∃a0,P0 a0/\P1 a0/\P2 a0/\P3 a0/\P4 a0)(g:∀a0,P0 a0->P1 a0->P2 a0->P3 a0->P4 a0->G):G:=h.elim λa h=>wz h (g a)
theorem Ob{cR:Sort _}{P0 P1 P2 P3 P4 P5:cR->Prop}(h:∃a0,P0 a0/\P1 a0/\P2 a0/\P3 a0/\P4 a0/\P5 a0)(g:∀a0,P0 a0->P1 a0->P2 a0->P3 a0->P4 a0->P5 a0->G):G:=h.elim λa h=>EK h (g a)
theorem fN{cR:Sort _}{dR:Sort _}{P0:cR->dR->Prop}(h:∃a0 a1,P0 a0 a1)(g:∀a0 a1,P0 a0 a1->G):G:=h.elim λa h=>aF h (g a)
theorem cG{cR:Sort _}{dR:Sort _}{P0 P1:cR->dR->Prop}(h:∃a0 a1,P0 a0 a1/\P1 a0 a1)(g:∀a0 a1,P0 a0 a1->P1 a0 a1->G):G:=h.elim λa h=>ah h (g a)
theorem cK{cR:Sort _}{dR:Sort _}{P0 P1 P2:cR->dR->Prop}(h:∃a0 a1,P0 a0 a1/\P1 a0 a1/\P2 a0 a1)(g:∀a0 a1,P0 a0 a1->P1 a0 a1->P2 a0 a1->G):G:=h.elim λa h=>cC h (g a)
theorem dW{cR:Sort _}{dR:Sort _}{P0 P1 P2 P3:cR->dR->Prop}(h:∃a0 a1,P0 a0 a1/\P1 a0 a1/\P2 a0 a1/\P3 a0 a1)(g:∀a0 a1,P0 a0 a1->P1 a0 a1->P2 a0 a1->P3 a0 a1->G):G:=h.elim λa h=>jY h (g a)
theorem gD{cR:Sort _}{dR:Sort _}{P0 P1 P2 P3 P4:cR->dR->Prop}(h:∃a0 a1,P0 a0 a1/\P1 a0 a1/\P2 a0 a1/\P3 a0 a1/\P4 a0 a1)(g:∀a0 a1,P0 a0 a1->P1 a0 a1->P2 a0 a1->P3 a0 a1->P4 a0 a1->G):G:=h.elim λa h=>Oa h (g a)
theorem Od{cR:Sort _}{dR:Sort _}{P0 P1 P2 P3 P4 P5:cR->dR->Prop}(h:∃a0 a1,P0 a0 a1/\P1 a0 a1/\P2 a0 a1/\P3 a0 a1/\P4 a0 a1/\P5 a0 a1)(g:∀a0 a1,P0 a0 a1->P1 a0 a1->P2 a0 a1->P3 a0 a1->P4 a0 a1->P5 a0 a1->G):G:=h.elim λa h=>Ob h (g a)
theorem kq{cR:Sort _}{dR:Sort _}{gE:Sort _}{P0:cR->dR->gE->Prop}(h:∃a0 a1 a2,P0 a0 a1 a2)(g:∀a0 a1 a2,P0 a0 a1 a2->G):G:=h.elim λa h=>fN h (g a)
theorem i3{cR:Sort _}{dR:Sort _}{gE:Sort _}{P0 P1:cR->dR->gE->Prop}(h:∃a0 a1 a2,P0 a0 a1 a2/\P1 a0 a1 a2)(g:∀a0 a1 a2,P0 a0 a1 a2->P1 a0 a1 a2->G):G:=h.elim λa h=>cG h (g a)
theorem dX{cR:Sort _}{dR:Sort _}{gE:Sort _}{P0 P1 P2:cR->dR->gE->Prop}(h:∃a0 a1 a2,P0 a0 a1 a2/\P1 a0 a1 a2/\P2 a0 a1 a2)(g:∀a0 a1 a2,P0 a0 a1 a2->P1 a0 a1 a2->P2 a0 a1 a2->G):G:=h.elim λa h=>cK h (g a)
theorem tV{cR:Sort _}{dR:Sort _}{gE:Sort _}{P0 P1 P2 P3:cR->dR->gE->Prop}(h:∃a0 a1 a2,P0 a0 a1 a2/\P1 a0 a1 a2/\P2 a0 a1 a2/\P3 a0 a1 a2)(g:∀a0 a1 a2,P0 a0 a1 a2->P1 a0 a1 a2->P2 a0 a1 a2->P3 a0 a1 a2->G):G:=h.elim λa h=>dW h (g a)
theorem kr{cR:Sort _}{dR:Sort _}{gE:Sort _}{P0 P1 P2 P3 P4:cR->dR->gE->Prop}(h:∃a0 a1 a2,P0 a0 a1 a2/\P1 a0 a1 a2/\P2 a0 a1 a2/\P3 a0 a1 a2/\P4 a0 a1 a2)(g:∀a0 a1 a2,P0 a0 a1 a2->P1 a0 a1 a2->P2 a0 a1 a2->P3 a0 a1 a2->P4 a0 a1 a2->G):G:=h.elim λa h=>gD h (g a)
theorem Oe{cR:Sort _}{dR:Sort _}{gE:Sort _}{P0 P1 P2 P3 P4 P5:cR->dR->gE->Prop}(h:∃a0 a1 a2,P0 a0 a1 a2/\P1 a0 a1 a2/\P2 a0 a1 a2/\P3 a0 a1 a2/\P4 a0 a1 a2/\P5 a0 a1 a2)(g:∀a0 a1 a2,P0 a0 a1 a2->P1 a0 a1 a2->P2 a0 a1 a2->P3 a0 a1 a2->P4 a0 a1 a2->P5 a0 a1 a2->G):G:=h.elim λa h=>Od h (g a)
theorem lU{cR:Sort _}{dR:Sort _}{gE:Sort _}{pS:Sort _}{P0:cR->dR->gE->pS->Prop}(h:∃a0 a1 a2 a3,P0 a0 a1 a2 a3)(g:∀a0 a1 a2 a3,P0 a0 a1 a2 a3->G):G:=h.elim λa h=>kq h (g a)
theorem Of{cR:Sort _}{dR:Sort _}{gE:Sort _}{pS:Sort _}{P0 P1:cR->dR->gE->pS->Prop}(h:∃a0 a1 a2 a3,P0 a0 a1 a2 a3/\P1 a0 a1 a2 a3)(g:∀a0 a1 a2 a3,P0 a0 a1 a2 a3->P1 a0 a1 a2 a3->G):G:=h.elim λa h=>i3 h (g a)
theorem wA{cR:Sort _}{dR:Sort _}{gE:Sort _}{pS:Sort _}{P0 P1 P2:cR->dR->gE->pS->Prop}(h:∃a0 a1 a2 a3,P0 a0 a1 a2 a3/\P1 a0 a1 a2 a3/\P2 a0 a1 a2 a3)(g:∀a0 a1 a2 a3,P0 a0 a1 a2 a3->P1 a0 a1 a2 a3->P2 a0 a1 a2 a3->G):G:=h.elim λa h=>dX h (g a)
theorem lV{cR:Sort _}{dR:Sort _}{gE:Sort _}{pS:Sort _}{P0 P1 P2 P3:cR->dR->gE->pS->Prop}(h:∃a0 a1 a2 a3,P0 a0 a1 a2 a3/\P1 a0 a1 a2 a3/\P2 a0 a1 a2 a3/\P3 a0 a1 a2 a3)(g:∀a0 a1 a2 a3,P0 a0 a1 a2 a3->P1 a0 a1 a2 a3->P2 a0 a1 a2 a3->P3 a0 a1 a2 a3->G):G:=h.elim λa h=>tV h (g a)
end
theorem bh{a b c:Nat}(h:a<=b)(d:Nat.ble b c=true:=by with_unfolding_all exact rfl):a<=c:=ads h (afo d)
theorem Og{α:Type}(l:List α)(x:α)(i:Nat):(l.take i++x::l.drop i).length=l.length+1:=by rw[afl,afP,<-Nat.add_assoc,<-afl,ag1]
noncomputable def cv {α β:Type}(o:Option α)(s:α->β)(n:β):β:=match o with
 |some a=>s a
 |none=>n
theorem EL{α:Type}{a:α}{P:α->Prop}(h:∀G:α->Prop,(∀x,P x->G x)->G a):P a:=h P λ_=>id
section
variable{ρ:Type}{r:ρ}{P:Prop}
theorem af{α:Type}{a:α}(h:none=some a):P:=nomatch h
theorem cE{c:Bool}{A:Option ρ}(h:cond c A none=some r)(g:c=true->A=some r->P):P:=by
 induction c with
 |true=>exact g rfl h
 |false=>exact af h
theorem bE{α:Type}{o:Option α}{k:α->Option ρ}(h:o.bind k=some r)(g:∀x,o=some x->k x=some r->P):P:=by
 induction o with
 |none=>exact af h
 |some x=>exact g x rfl h
theorem oE{α β:Type}{o:Option α}{s:α->β}{n b:β}(h:cv o s n=b)(g:∀x,o=some x->s x=b->P)(g':n=b->P):P:=by
 induction o with
 |none=>exact g' h
 |some a=>exact g a rfl h
theorem dE{c:Bool}{A B:Option ρ}(h:cond c A B=some r)(g:c=true->A=some r->P)(g':c=false->B=some r->P):P:=by
 induction c with
 |true=>exact g rfl h
 |false=>exact g' rfl h
theorem iE{c:Bool}{A B:Option ρ}(h:(if c=true then A else B)=some r)(g:c=true->A=some r->P)(g':c=false->B=some r->P):P:=by
 induction c with
 |true=>exact g rfl h
 |false=>exact g' rfl h
theorem sE{α:Type}{a b:α}{X:α->Prop}(h:some a=some b)(g:X a):X b:=by obtain rfl:=ack h;exact g
end
inductive Loc where
 |bC|cD|tree|dg|dY|eR|names|attrs|eg|dJ|eF|lW|stack|gF|items|ft|gH|iC|pU|owners|aH|eG
 |state|hZ|tokens
 |bV (n:Nat)|bz (n:Nat)|bN (n:Nat)|path (n:Nat)|run (n:Nat)|aK (n:Nat)
def Loc.ctorIdx(x:Loc):Nat:=x.casesOn 0 1 2 3 4 5 6 7 8 9 10 11 12 13 14 15 16 17 18 19 20 21 22 23 24 (λ_=>25) (λ_=>26) (λ_=>27) (λ_=>28) (λ_=>29) (λ_=>30)
inductive U where
 |none
 |bool (b:Bool)
 |int (i:Int)
 |str (s:Str)
 |aG (xs:List U)
 |aw (xs:List U)
 |ae (l:Loc)
 |val (v:Value)
def U.ctorIdx(x:U):Nat:=x.casesOn 0 (λ_=>1) (λ_=>2) (λ_=>3) (λ_=>4) (λ_=>5) (λ_=>6) (λ_=>7)
inductive b8 where
 |list (xs:List U)
 |inst (C:Addr)(d:Loc)
 |dict (es:List (Str×U))
 |map (es:List (Str×U))
 |cell (v:Option U)
abbrev aC:=Loc->Option Addr
noncomputable abbrev tW (vs:List Value)(n:Nat):Obj:={cls:=.type "list",dict:=none,data:=.seq vs.toArray n,slots:=#[]}
noncomputable abbrev zG (vs:List Value)(n:Nat):Obj:={cls:=.type "tuple",dict:=none,data:=.seq vs.toArray n,slots:=#[]}
mutual
inductive RelV (h:Heap)(ρ:aC):U->Value->Prop
 |none:RelV h ρ .none .none
 |bool (b:Bool):RelV h ρ (.bool b) (.bool b)
 |int (i:Int) (t:Tok):RelV h ρ (.int i) (.int i t)
 |str (s:Str) (t:Tok):RelV h ρ (.str s) (.str s t)
 |val (v:Value):RelV h ρ (.val v) v
 |ae {l:Loc} {a:Addr} (e:ρ l=some a):RelV h ρ (.ae l) (.ref a)
 |aG {xs:List U} {vs:List Value} {a:Addr} {n:Nat} (e:h.get? a=some (zG vs n)) (f:∀l,ρ l≠some a) (r:aZ h ρ xs vs):RelV h ρ (.aG xs) (.ref a)
 |aw {xs:List U} {vs:List Value} {a:Addr} {n:Nat} (e:h.get? a=some (tW vs n)) (f:∀l,ρ l≠some a) (r:aZ h ρ xs vs):RelV h ρ (.aw xs) (.ref a)
inductive aZ (h:Heap) (ρ:aC):List U->List Value->Prop
 |nil:aZ h ρ [] []
 |cons {x:U} {v:Value} {xs:List U} {vs:List Value} (a:RelV h ρ x v) (b:aZ h ρ xs vs):aZ h ρ (x::xs) (v::vs)
end
structure dH(s s':Shared):Prop where
 gens:s'.gens=s.gens
 os:s'.os=s.os
noncomputable abbrev bX:Program:=PySem.Challenge.pw_nt0624_01
structure EM(w:World)(h:Heap):Prop where
 X:(H.K w.params).In h
 mO:h.NoLimit
 top:∃p loose mg mb,TopRead p loose mg mb h
def PX(x:World×Heap):Prop:=∀(s:Shared) (ns:List Int) (vs:List Value) (Qc E:Value->Shared->Prop),EM x.1 x.2->ns.length<=63->aZ x.2 (λ_=>none) [.aw (ns.map U.int)] vs->
 (∀s',(∀b o,x.2.get? b=some o->s'.heap.get? b=some o)->dH {s with heap:=x.2} s'->Qc (.bool true) s')->wpAny (model bX x.1) callerA (call (.ref 1014) vs) Qc E {s with heap:=x.2}
noncomputable def w0:World:=⟨λ_ _=>0,{strHash:=λ_=>0,shareClass:=λ_=>0,mergeTok:=id,idOf:=λ_=>0,idOfShared:=λ_ _=>0,followText:=λ_=>false,idOfImm:=λ_=>0}⟩
def xX:World×Heap:=@Classical.epsilon _ ⟨(w0,default)⟩ λx=>¬PX x
theorem Oh(h:PX xX)(x:World×Heap):PX x:=Classical.byContradiction λn=>@Classical.epsilon_spec _ (λx=>¬PX x) ⟨x,n⟩ h
def wX:World:=xX.1
def hX:Heap:=xX.2
abbrev kX:Frag:=H.K wX.params
structure Bs:Prop where
 X:kX.In hX
 mO:hX.NoLimit
 top:∃p loose mg mb,TopRead p loose mg mb hX
abbrev KV(h:Heap)(ρ:aC)(P:Value->Prop)(x:U):Prop:=match x with
 |.none=>P .none
 |.bool b=>P (.bool b)
 |.int i=>∀t,P (.int i t)
 |.str i=>∀t,P (.str i t)
 |.val v=>P v
 |.ae l=>∀a,ρ l=some a->P (.ref a)
 |.aG xs=>∀vs a n,h.get? a=some (zG vs n)->(∀l,ρ l≠some a)->aZ h ρ xs vs->P (.ref a)
 |.aw xs=>∀vs a n,h.get? a=some (tW vs n)->(∀l,ρ l≠some a)->aZ h ρ xs vs->P (.ref a)
@[elab_as_elim] theorem RelV.k (r:RelV h ρ x v)(g:KV h ρ P x):P v:=
 RelV.casesOn (motive_1:=λx v _=>KV h ρ P x->P v) r (λg=>g) (λ_ g=>g) (λ_ t g=>g t) (λ_ t g=>g t) (λ_ g=>g) (λe g=>g _ e) (λe f r g=>g _ _ _ e f r) (λe f r g=>g _ _ _ e f r) g
abbrev KL(h:Heap)(ρ:aC)(P:List Value->Prop)(xs:List U):Prop:=match xs with
 |[]=>P []
 |x::xs=>∀v vs,RelV h ρ x v->aZ h ρ xs vs->P (v::vs)
@[elab_as_elim] theorem aZ.k (r:aZ h ρ xs vs)(g:KL h ρ P xs):P vs:=
 aZ.casesOn (motive_2:=λxs vs _=>KL h ρ P xs->P vs) r (λg=>g) (λa b g=>g _ _ a b) g
inductive dB(h:Heap)(ρ:aC):List (Str×U)->List DictEntry->Prop
 |nil:dB h ρ [] []
 |cons {k:Str} {t:Tok} {x:U} {v:Value} {es:List (Str×U)} {ds:List DictEntry} (a:RelV h ρ x v) (b:dB h ρ es ds):
   dB h ρ ((k,x)::es) (⟨PyData.keyHash wX.params k,.str k t,v⟩::ds)
inductive bW(h:Heap)(ρ:aC):List (Str×U)->List (Str×Value)->Prop
 |nil:bW h ρ [] []
 |cons {k:Str} {x:U} {v:Value} {xs:List (Str×U)} {vs:List (Str×Value)} (a:RelV h ρ x v) (b:bW h ρ xs vs):bW h ρ ((k,x)::xs) ((k,v)::vs)
def gX(h:Heap)(ρ:aC):b8->Addr->Prop
 |.list xs,a=>∃vs n,h.get? a=some (tW vs n)/\aZ h ρ xs vs
 |.inst C d,a=>∃da,ρ d=some da/\h.get? a=some ⟨.ref C,some da,.plain,#[]⟩
 |.dict es,a=>∃ds n,h.get? a=some (dictOf ds n)/\dB h ρ es ds
 |.map es,a=>∃kvs,h.DictOf (strKind bX wX) a kvs/\bW h ρ es kvs/\(a==sysModules)=false
 |.cell x,a=>∃ob u,h.get? a=some ob/\ob.data=.cell u/\(match x with|.none=>u=.none|.some x=>∃v,u=.some v/\RelV h ρ x v)
structure AH where
 get:Loc->Option b8
 new:Loc->Prop
theorem ku(h:Heap):h.get? h.objs.size=none:=by
 cases z:h.get? h.objs.size with
 |none=>rfl
 |some o=>exact absurd (af8 z) (agz _)
structure bj(ρ:aC)(H:AH)(h:Heap):Prop where
 bs:Bs
 obj:∀l o,H.get l=some o->∃a,ρ l=some a/\gX h ρ o a
 low:∀l a,ρ l=some a->hX.get? a=none
 live:∀l a,ρ l=some a->∃o,h.get? a=some o
 inj:∀l l' a,ρ l=some a->ρ l'=some a->l=l'
 new:∀l,H.new l->ρ l=none
 base:∀b o,hX.get? b=some o->h.get? b=some o
 top:∃a o,hX.objs.size<=a+1/\h.get? a=some o
structure bO(X:Option Addr)(ρ:aC)(h:Heap)(ag:aC)(h':Heap):Prop where
 ext:∀l a,ρ l=some a->ag l=some a
 new:∀l a,ag l=some a->ρ l=some a\/h.get? a=none
 keep:∀a o,h.get? a=some o->(∀l,ρ l≠some a)->X≠some a->h'.get? a=some o
 live:∀a o,h.get? a=some o->∃o',h'.get? a=some o'
abbrev Step:=bO none
def DictAt(h:Heap)(X:Option Addr):Prop:=∀a,X=some a->∃o,h.get? a=some o/\∀xs n,o.data≠.seq xs n
theorem DictAt.none:DictAt h none:=λ_ e=>nomatch e
theorem DictAt.ne(D:DictAt h X)(e:h.get? a=some {cls:=c,dict:=dd,data:=.seq xs n,slots:=sl}):X≠some a:=λq=>by
 refine ah (D a q) λo e1 e2=>?_
 rw[e]at e1;obtain rfl:=ack e1;exact e2 _ _ rfl
theorem bO.refl:bO X ρ h ρ h:=⟨λ_ _ e=>e,λ_ _ e=>.inl e,λ_ _ e _ _=>e,λ_ o e=>⟨o,e⟩⟩
theorem bO.free(S:bO X ρ h ag h')(hf:∀l,ρ l≠some a)(hl:h.get? a=some o):∀l,ag l≠some a:=λl e=>by
 rcases S.new l a e with q|q
 ·exact hf l q
 ·replace q:=hl▸q;cases q
theorem bO.trans(S:bO X ρ h ag h')(T:bO X ag h' ot Oi):bO X ρ h ot Oi:=
 ⟨λl a e=>T.ext l a (S.ext l a e),λl a e=>by
  rcases T.new l a e with q|q
  ·exact S.new l a q
  ·right;cases z:h.get? a with
   |none=>rfl
   |some o=>(refine aF (S.live a o z) λo' e'=>?_;rw[e']at q;exact nomatch q),
 λa o e f x=>T.keep a o (S.keep a o e f x) (S.free f e) x,λa o e=>aF (S.live a o e) λo' e'=>T.live a o' e'⟩
theorem bO.weak(S:Step ρ h ag h'):bO X ρ h ag h':=⟨S.ext,S.new,λa o e f _=>S.keep a o e f (λq=>nomatch q),S.live⟩
theorem bO.fresh(S:bO (some L) ρ h ag h')(hL:h.get? L=none):Step ρ h ag h':=⟨S.ext,S.new,λa o e f _=>S.keep a o e f (λq=>by obtain rfl:=ack q;exact af (hL▸e)),S.live⟩
structure gY(X:Option Addr)(ρ:aC)(h:Heap)(ag:aC)(h':Heap):Prop where
 ext:∀l a,ρ l=some a->ag l=some a
 free:∀a o,h.get? a=some o->(∀l,ρ l≠some a)->X≠some a->∀l,ag l≠some a
 keep:∀a o,h.get? a=some o->(∀l,ρ l≠some a)->X≠some a->h'.get? a=some o
theorem bO.c9(S:bO X ρ h ag h'):gY X ρ h ag h':=⟨S.ext,λ_ _ e f _=>S.free f e,S.keep⟩
theorem gY.tX(sb:Heap.ExtBut it h h'):gY (some it) ρ h ρ h':=⟨λ_ _ e=>e,λ_ _ _ f _=>f,λa o e _ x=>sb a o (λq=>x (q▸rfl)) e⟩
theorem RelV.c9(S:gY X ρ h ag h')(D:DictAt h X)(r:RelV h ρ x v):RelV h' ag x v:=
 RelV.rec (motive_1:=λx v _=>RelV h' ag x v) (motive_2:=λxs vs _=>aZ h' ag xs vs) .none .bool .int .str .val (λe=>.ae (S.ext _ _ e)) (λe f _ i=>.aG (S.keep _ _ e f (D.ne e)) (S.free _ _ e f (D.ne e)) i) (λe f _ i=>.aw (S.keep _ _ e f (D.ne e)) (S.free _ _ e f (D.ne e)) i) .nil (λ_ _ a b=>.cons a b) r
theorem aZ.c9(S:gY X ρ h ag h')(D:DictAt h X)(r:aZ h ρ xs vs):aZ h' ag xs vs:=
 aZ.rec (motive_1:=λx v _=>RelV h' ag x v) (motive_2:=λxs vs _=>aZ h' ag xs vs) .none .bool .int .str .val (λe=>.ae (S.ext _ _ e)) (λe f _ i=>.aG (S.keep _ _ e f (D.ne e)) (S.free _ _ e f (D.ne e)) i) (λe f _ i=>.aw (S.keep _ _ e f (D.ne e)) (S.free _ _ e f (D.ne e)) i) .nil (λ_ _ a b=>.cons a b) r
theorem aZ.ind{P:List U->List Value->Prop}(n:P [] [])(c:∀x v xs vs,RelV h ρ x v->aZ h ρ xs vs->P xs vs->P (x::xs) (v::vs))(r:aZ h ρ xs vs):P xs vs:=
 aZ.rec (motive_1:=λ_ _ _=>True) (motive_2:=λxs vs _=>P xs vs) afL (λ_=>afL) (λ_ _=>afL) (λ_ _=>afL) (λ_=>afL) (λ_=>afL) (λ_ _ _ _=>afL) (λ_ _ _ _=>afL) n (λa b _ i=>c _ _ _ _ a b i) r
theorem RelV.step(S:bO X ρ h ag h')(D:DictAt h X)(r:RelV h ρ x v):RelV h' ag x v:=r.c9 S.c9 D
theorem aZ.step(S:bO X ρ h ag h')(D:DictAt h X)(r:aZ h ρ xs vs):aZ h' ag xs vs:=r.c9 S.c9 D
theorem dB.c9(S:gY X ρ h ag h')(D:DictAt h X)(r:dB h ρ es ds):dB h' ag es ds:=
 dB.rec (motive:=λes ds _=>dB h' ag es ds) .nil (λa _ i=>.cons (a.c9 S D) i) r
theorem bW.c9(S:gY X ρ h ag h')(D:DictAt h X)(r:bW h ρ es ds):bW h' ag es ds:=
 bW.rec (motive:=λes ds _=>bW h' ag es ds) .nil (λa _ i=>.cons (a.c9 S D) i) r
theorem dB.step(S:bO X ρ h ag h')(D:DictAt h X)(r:dB h ρ es ds):dB h' ag es ds:=r.c9 S.c9 D
theorem bW.step(S:bO X ρ h ag h')(D:DictAt h X)(r:bW h ρ es ds):bW h' ag es ds:=r.c9 S.c9 D
theorem aZ.length{xs:List U}(r:aZ h ρ xs vs):xs.length=vs.length:=
 r.ind (P:=λxs vs=>xs.length=vs.length) rfl λ_ _ _ _ _ _ i=>afp (·+1) i
theorem aZ.append{xs ys:List U}(r:aZ h ρ xs vs)(q:aZ h ρ ys ws):aZ h ρ (xs++ys) (vs++ws):=
 r.ind (P:=λxs vs=>aZ h ρ (xs++ys) (vs++ws)) q λ_ _ _ _ a _ i=>.cons a i
theorem aZ.get{xs:List U}(r:aZ h ρ xs vs):∀{i:Nat} {x:U},xs[i]?=some x->∃v,vs[i]?=some v/\RelV h ρ x v:=
 λ{i} {x}=>r.ind (P:=λxs vs=>∀i,xs[i]?=some x->∃v,vs[i]?=some v/\RelV h ρ x v) (λ_ e=>af e) (λ_ v _ _ a _ q i=>Nat.casesOn i (λe=>⟨v,rfl,ack e▸a⟩) λi=>q i) i
theorem aZ.take{xs:List U}(r:aZ h ρ xs vs):∀i:Nat,aZ h ρ (xs.take i) (vs.take i):=
 r.ind (P:=λxs vs=>∀i,aZ h ρ (xs.take i) (vs.take i)) (λi=>Nat.casesOn i .nil λ_=>.nil) λ_ _ _ _ a _ q i=>Nat.casesOn i .nil λi=>.cons a (q i)
theorem aZ.drop{xs:List U}{vs:List Value}(r:aZ h ρ xs vs):∀i:Nat,aZ h ρ (xs.drop i) (vs.drop i):=
 r.ind (P:=λxs vs=>∀i,aZ h ρ (xs.drop i) (vs.drop i)) (λi=>Nat.casesOn i .nil λ_=>.nil) λ_ _ _ _ a b q i=>Nat.casesOn i (.cons a b) λi=>q i
theorem aZ.set{xs:List U}(r:aZ h ρ xs vs):∀(i:Nat) {x:U} {v:Value},RelV h ρ x v->aZ h ρ (xs.set i x) (vs.set i v):=
 λi {x} {v} q=>r.ind (P:=λxs vs=>∀i,aZ h ρ (xs.set i x) (vs.set i v)) (λ_=>.nil) (λ_ _ _ _ a b p i=>Nat.casesOn i (.cons q b) λi=>.cons a (p i)) i
theorem aZ.un(r:aZ h ρ (x::xs) vs):∃v ws,vs=v::ws/\RelV h ρ x v/\aZ h ρ xs ws:=r.k λ_ _ a b=>⟨_,_,rfl,a,b⟩
theorem aZ.pV(r:aZ h ρ [] vs):vs=[]:=r.k rfl
theorem RelV.zH(r:RelV h ρ (.str x) v):∃t,v=.str x t:=r.k λ_=>⟨_,rfl⟩
theorem RelV.zI(r:RelV h ρ (.int x) v):∃t,v=.int x t:=r.k λ_=>⟨_,rfl⟩
theorem RelV.EN(r:RelV h ρ (.bool x) v):v=.bool x:=r.k rfl
theorem RelV.Oj(r:RelV h ρ (.val x) v):v=x:=r.k rfl
theorem RelV.Ol(r:RelV h ρ U.none v):v=Value.none:=r.k rfl
theorem RelV.wB(r:RelV h ρ (.aG xs) v):∃vs a n,v=.ref a/\h.get? a=some (zG vs n)/\aZ h ρ xs vs:=r.k λ_ _ _ e _ q=>⟨_,_,_,rfl,e,q⟩
theorem RelV.wC(r:RelV h ρ (.aw xs) v):∃vs a n,v=.ref a/\h.get? a=some (tW vs n)/\aZ h ρ xs vs:=r.k λ_ _ _ e _ q=>⟨_,_,_,rfl,e,q⟩
abbrev Lo:=List (Str×U)
def RelM(h:Heap)(ρ:aC)(m:Lo)(m':Str->Option Value):Prop:=∀x av,m.lookup x=some av->∃v,m' x=some v/\RelV h ρ av v
theorem RelM.c9(S:gY X ρ h ag h')(D:DictAt h X)(R:RelM h ρ m m'):RelM h' ag m m':=λx av e=>
 ah (R x av e) λv a b=>⟨v,a,b.c9 S D⟩
theorem RelM.step(S:bO X ρ h ag h')(D:DictAt h X)(R:RelM h ρ m m'):RelM h' ag m m':=R.c9 S.c9 D
structure gj(cm:List (Str×Loc)) where
 L:Addr
 cl:List (Str×Addr)
def mP(ρ:aC)(cm:List (Str×Loc))(cl:List (Str×Addr)):Prop:=∀x l,cm.lookup x=some l->∃c,cl.lookup x=some c/\ρ l=some c
structure St(ρ:aC)(H:AH){cm:List (Str×Loc)}(L:gj cm)(m:Lo)(h:Heap):Prop where
 bR:bj ρ H h
 fr:∃m',Fr hX L.L h m'/\RelM h ρ m m'
 free:∀l,ρ l≠some L.L
 cells:mP ρ cm L.cl
theorem mP.ext(C:mP ρ cm cl)(S:bO X ρ h ag h'):mP ag cm cl:=λx l e=>ah (C x l e) λc a b=>⟨c,a,S.ext _ _ b⟩
theorem St.bY(X:St ρ H L m h)(R:bj ag H' h')(S:Step ρ h ag h'):St ag H' L m h':=by
 refine ah X.fr λm' F M=>?_
 refine i3 F.ns λo es ep e r=>?_
 exact⟨R,⟨m',⟨⟨o,es,ep,S.keep L.L o e X.free (λq=>nomatch q),r⟩,R.base,F.above⟩,M.step S .none⟩,S.free X.free e,X.cells.ext S⟩
theorem dH.refl:dH s s:=⟨rfl,rfl⟩
theorem dH.trans(a:dH s s')(b:dH s' fu):dH s fu:=⟨b.gens.trans a.gens,b.os.trans a.os⟩
def eS(A:Around)(d:Nat):Prop:=A.handled=none/\A.depth+d<=1000/\A.units+10*d+100<=9900
open Classical in
def AH.set (H:AH)(l:Loc)(o:b8):AH:=⟨λx=>if x=l then some o else H.get x,H.new⟩
open Classical in
def AH.add (H:AH)(l:Loc)(o:b8):AH:=⟨λx=>if x=l then some o else H.get x,λx=>H.new x/\x≠l⟩
theorem AH.rG(H:AH)(l:Loc)(o:b8):(H.set l o).get l=some o:=if_pos rfl
theorem AH.rH(H:AH)(o:b8)(n:x≠l):(H.set l o).get x=H.get x:=if_neg n
theorem AH.bP(H:AH)(l:Loc)(o:b8):(H.add l o).get l=some o:=if_pos rfl
theorem AH.bQ(H:AH)(o:b8)(n:x≠l):(H.add l o).get x=H.get x:=if_neg n
structure AH.Le(H H':AH):Prop where
 get:∀l o,H'.get l=some o->H.get l=some o
 new:∀l,H'.new l->H.new l
section
variable{h h':Heap}{ρ:aC}{H H':AH}{l:Loc}{a:Addr}
theorem gX.c9(S:gY X ρ h ag h')(D:DictAt h X)(k:∀ob,h.get? a=some ob->h'.get? a=some ob)(r:gX h ρ o a):gX h' ag o a:=by
 induction o with
 |list xs=>refine cG r λvs n e r=>?_;exact⟨vs,n,k _ e,r.c9 S D⟩
 |inst C d=>refine ah r λda e q=>?_;exact⟨da,S.ext _ _ e,k _ q⟩
 |dict es=>refine cG r λds n e r=>?_;exact⟨ds,n,k _ e,r.c9 S D⟩
 |map es=>
  refine cC r λkvs e r n=>?_
  refine ah (ahd.mp e) λo ho hd=>?_
  exact⟨kvs,ahd.mpr ⟨o,k _ ho,hd⟩,r.c9 S D,n⟩
 |cell x=>
  refine cK r λob u e c r=>?_
  refine⟨ob,u,k _ e,c,?_⟩
  induction x with
  |none=>exact r
  |some x=>refine ah r λv e1 r=>?_;exact⟨v,e1,r.c9 S D⟩
theorem gX.step(S:bO X ρ h ag h')(D:DictAt h X)(k:∀ob,h.get? a=some ob->h'.get? a=some ob)(r:gX h ρ o a):gX h' ag o a:=r.c9 S.c9 D k
theorem bj.le(R:bj ρ H h)(L:AH.Le H H'):bj ρ H' h:=⟨R.bs,λl o e=>R.obj l o (L.get l o e),R.low,R.live,R.inj,λl e=>R.new l (L.new l e),R.base,R.top⟩
theorem Step.push(o:Obj):Step ρ h ρ (h.push o):=⟨λ_ _ e=>e,λ_ _ e=>.inl e,λ_ _ e _ _=>afy o e,λa ob e=>⟨ob,afy o e⟩⟩
theorem bj.push(R:bj ρ H h)(o:Obj):bj ρ H (h.push o):=
 ⟨R.bs,λl ob e=>ah (R.obj l ob e) λa e1 r=>⟨a,e1,r.step (Step.push o) .none λ_ q=>afy o q⟩,R.low,λl a e=>aF (R.live l a e) λob q=>⟨ob,afy o q⟩,R.inj,R.new,λb ob e=>afy o (R.base b ob e),cG R.top λa ob q e=>⟨a,ob,q,afy o e⟩⟩
theorem bj.lg(R:bj ρ H h):∀l,ρ l≠some h.objs.size:=λl e=>aF (R.live l _ e) λ_ q=>agz _ (af8 q)
open Classical in
def aC.add (ρ:aC)(l:Loc)(a:Addr):aC:=λx=>if x=l then some a else ρ x
theorem aC.bP(ρ:aC)(l:Loc)(a:Addr):ρ.add l a l=some a:=if_pos rfl
theorem aC.bQ(ρ:aC)(a:Addr)(n:x≠l):ρ.add l a x=ρ x:=if_neg n
theorem bj.alloc(R:bj ρ H h)(hn:H.new l)(hf:ob.isFreed=false)(ho:∀ag,Step ρ h ag (h.push ob)->(h.push ob).get? h.objs.size=some ob->gX (h.push ob) ag o h.objs.size):
  bj (ρ.add l h.objs.size) (H.add l o) (h.push ob)/\Step ρ h (ρ.add l h.objs.size) (h.push ob):=by
 have hl:=R.new l hn;have S:Step ρ h (ρ.add l h.objs.size) (h.push ob):=⟨λx a e=>by
   by_cases q:x=l
   ·subst q;rw[hl]at e;exact af e
   ·rw[aC.bQ _ _ q];exact e,λx a e=>by
   by_cases q:x=l
   ·subst q;rw[aC.bP]at e;apply sE e;exact .inr (ku h)
   ·rw[aC.bQ _ _ q]at e;exact .inl e,λ_ _ e _ _=>afy ob e,λa o e=>⟨o,afy ob e⟩⟩
 refine⟨⟨R.bs,λx o' e=>?_,λx a e=>?_,λx a e=>?_,λx y a e1 e2=>?_,λx e=>?_,λb o' e=>afy ob (R.base b o' e),let⟨a,o',q,e⟩:=R.top;⟨a,o',q,afy ob e⟩⟩,S⟩
 ·by_cases q:x=l
  ·subst q;rw[AH.bP]at e;apply sE e;exact⟨_,aC.bP ..,ho _ S (afW _ hf)⟩
  ·rw[AH.bQ _ _ q]at e;refine ah (R.obj x o' e) λa e1 r=>?_
   exact⟨a,(aC.bQ _ _ q).trans e1,r.step S .none λ_ z=>afy ob z⟩
 ·by_cases q:x=l
  ·subst q;rw[aC.bP]at e;apply sE e;cases z:hX.get? h.objs.size with
   |none=>rfl
   |some o'=>exact absurd (af8 (R.base _ _ z)) (agz _)
  ·rw[aC.bQ _ _ q]at e;exact R.low x a e
 ·by_cases q:x=l
  ·subst q;rw[aC.bP]at e;apply sE e;exact⟨ob,afW _ hf⟩
  ·rw[aC.bQ _ _ q]at e;refine aF (R.live x a e) λo' z=>?_
   exact⟨o',afy ob z⟩
 ·by_cases q:x=l
  ·by_cases q':y=l
   ·rw[q,q']
   ·subst q;rw[aC.bP]at e1;rw[aC.bQ _ _ q']at e2;obtain rfl:=ack e1;exact absurd e2 (R.lg y)
  ·by_cases q':y=l
   ·subst q';rw[aC.bP]at e2;rw[aC.bQ _ _ q]at e1;obtain rfl:=ack e2;exact absurd e1 (R.lg x)
   ·rw[aC.bQ _ _ q]at e1;rw[aC.bQ _ _ q']at e2;exact R.inj x y a e1 e2
 ·rw[aC.bQ _ _ e.2];exact R.new x e.1
theorem Step.same(e:ρ l=some a)(sb:Heap.SameBut a h h')(ha:h'.get? a=some o'):Step ρ h ρ h':=
 ⟨λ_ _ e=>e,λ_ _ e=>.inl e,λb o q f _=>(sb.2 b (λz=>f l (z▸e))).trans q,λb o q=>by
  by_cases z:b=a
  ·subst z;exact⟨o',ha⟩
  ·exact⟨o,(sb.2 b z).trans q⟩⟩
theorem gX.alive(r:gX h ρ o a):∃ob,h.get? a=some ob:=by
 induction o with
 |list xs=>refine cG r λvs n e r=>?_;exact⟨_,e⟩
 |inst C d=>refine ah r λda e q=>?_;exact⟨_,q⟩
 |dict es=>refine cG r λds n e r=>?_;exact⟨_,e⟩
 |map es=>refine cC r λkvs e r n=>?_;refine ah (ahd.mp e) λo ho hd=>?_;exact⟨_,ho⟩
 |cell x=>refine cG r λob u e _=>?_;exact⟨_,e⟩
theorem bj.tY(R:bj ρ H h)(e:ρ l=some a)(sb:Heap.SameBut a h h')(ho:gX h' ρ o a):bj ρ (H.set l o) h':=by
 refine aF ho.alive λob Om=>?_
 have S:=Step.same (h:=h) (h':=h') e sb Om;refine⟨R.bs,λx o' q=>?_,R.low,λx b q=>aF (R.live x b q) λo' z=>S.live b o' z,R.inj,R.new,λb o' q=>(sb.2 b λz=>?_).trans (R.base b o' q),let⟨b,o',q,z⟩:=R.top;let⟨mQ,z'⟩:=S.live b o' z;⟨b,mQ,q,z'⟩⟩
 ·by_cases z:x=l
  ·subst z;rw[AH.rG]at q;apply sE q;exact⟨a,e,ho⟩
  ·rw[AH.rH _ _ z]at q;refine ah (R.obj x o' q) λb e1 r=>?_
   refine⟨b,e1,r.step S .none λ_ z'=>(sb.2 b λzz=>z (R.inj _ _ _ e1 (zz▸e))).trans z'⟩
 ·have:=R.low l a e;rw[<-z,q]at this;exact nomatch this
theorem bO.ou(S:bO X iD hs ρ h)(wD:hs.get? it=none)(T:bO (some it) ρ h ag h'):bO X iD hs ag h':=
 ⟨λl a e=>T.ext l a (S.ext l a e),λl a e=>by
  rcases T.new l a e with q|q
  ·exact S.new l a q
  ·right;cases z:hs.get? a with
   |none=>rfl
   |some o=>(refine aF (S.live a o z) λo' e'=>?_;exact nomatch (e'▸q)),
 λa o e f x=>T.keep a o (S.keep a o e f x) (S.free f e) (λq=>by obtain rfl:=ack q;replace e:=wD▸e;exact af e),λa o e=>aF (S.live a o e) λo' e'=>T.live a o' e'⟩
theorem bj.ou(R:bj ρ H h)(hi:h.get? it=some oi)(hn:∀xs n,oi.data≠.seq xs n)(hf:∀l,ρ l≠some it)(hb:hX.get? it=none)(sb:Heap.ExtBut it h h')(jx:h'.get? it=some Oo):
  bj ρ H h'/\bO (some it) ρ h ρ h':=by
 have S:bO (some it) ρ h ρ h':=⟨λ_ _ e=>e,λ_ _ e=>.inl e,λa o e _ x=>sb a o (λq=>x (q▸rfl)) e,λa o e=>by
  by_cases q:a=it
  ·subst q;exact⟨Oo,jx⟩
  ·exact⟨o,sb a o q e⟩⟩
 have D:DictAt h (some it):=λa q=>by apply sE q;exact⟨oi,hi,hn⟩
 exact⟨⟨R.bs,λl o e=>let⟨a,e1,r⟩:=R.obj l o e;⟨a,e1,r.step S D λob z=>sb a ob (λq=>hf l (q▸e1)) z⟩,R.low,λl a e=>let⟨o,z⟩:=R.live l a e;S.live a o z,R.inj,R.new,
  λb o e=>sb b o (λq=>by rw[q,hb]at e;exact af e) (R.base b o e),let⟨b,o',q,z⟩:=R.top;aF (S.live b o' z) λmQ z'=>⟨b,mQ,q,z'⟩⟩,S⟩
end
theorem bj.last{ρ:aC}(R:bj ρ H h)(hi:h.get? it=some oi)(hn:∀xs n,oi.data≠.seq xs n)(hf:∀l,ρ l≠some it)(hb:hX.get? it=none)(sb:Heap.ExtBut it h h')
  (top:∃a o,hX.objs.size<=a+1/\a≠it/\h.get? a=some o):bj ρ H h':=by
 have D:DictAt h (some it):=λa q=>by apply sE q;exact⟨oi,hi,hn⟩
 exact⟨R.bs,λl o e=>ah (R.obj l o e) λa e1 r=>⟨a,e1,r.c9 (gY.tX sb) D λob z=>sb a ob (λq=>hf l (q▸e1)) z⟩,R.low,λl a e=>aF (R.live l a e) λo z=>⟨o,sb a o (λq=>hf l (q▸e)) z⟩,R.inj,R.new,
  λb o e=>sb b o (λq=>by rw[q,hb]at e;exact af e) (R.base b o e),cK top λb o' q n z=>⟨b,o',q,sb b o' n z⟩⟩
theorem bO.last(S:bO X iD hs ρ h)(wD:hs.get? it=none)(sb:Heap.ExtBut it h h'):bO X iD hs ρ h':=
 have ne:∀a o,hs.get? a=some o->a≠it:=λa o e q=>by rw[q,wD]at e;exact af e
 ⟨S.ext,S.new,λa o e f x=>sb a o (ne a o e) (S.keep a o e f x),λa o e=>aF (S.live a o e) λo' e'=>⟨o',sb a o' (ne a o e) e'⟩⟩
theorem St.ou(X:St ρ H L m h)(hL:it≠L.L)(R:bj ρ H h')(S:gY (some it) ρ h ρ h')(D:DictAt h (some it)):St ρ H L m h':=by
 refine ah X.fr λm' F M=>?_
 refine i3 F.ns λo es ep e r=>?_
 exact⟨R,⟨m',⟨⟨o,es,ep,S.keep L.L o e X.free (λq=>hL (ack q)),r⟩,R.base,F.above⟩,M.c9 S D⟩,X.free,X.cells⟩
structure Oq(cs:Scope)(L:Addr)(c:List (Str×Addr))(e:Env):Prop where
 scope:e.scope=cs
 locals:e.locals=L
 globals:e.globals=mainGlobals
 builtins:e.builtins=builtinsNs
 cells:e.cells=c
structure aP where
 cs:Scope
 make:Addr->List (Str×Addr)->Env
 cm:List (Str×Loc)
 ok:∀L c,Oq cs L c (make L c)
noncomputable abbrev aP.fn (cn:Str)(cs:Scope)(a:Addr)(Ot:Value)(cm:List (Str×Loc)):aP:=⟨cs,λL c=>envX cn cs L a Ot c,cm,λ_ _=>⟨rfl,rfl,rfl,rfl,rfl⟩⟩
noncomputable abbrev aP.env (f:aP)(L:gj f.cm):Env:=f.make L.L L.cl
noncomputable abbrev aP.kind (f:aP)(x:Str):Option NameKind:=f.cs.names.lookup x
theorem aP.kindOf{f:aP}{L:gj f.cm}(h:f.kind x=k):(f.env L).kindOf x=k:=by
 unfold Env.kindOf;rw[(f.ok L.L L.cl).scope];exact h
theorem aP.lh{f:aP}{L:gj f.cm}(h:f.cs.kind=.function):(f.env L).scope.kind=.function:=by
 rw[(f.ok L.L L.cl).scope];exact h
inductive Fl where
 |next|brk|cont
 |ret (v:U)
inductive pW(h:Heap)(ρ:aC):Fl->Flow->Prop
 |next:pW h ρ .next .next
 |brk:pW h ρ .brk .brk
 |cont:pW h ρ .cont .cont
 |ret {x:U} {v:Value} (r:RelV h ρ x v):pW h ρ (.ret x) (.ret v)
noncomputable def Fl.val:Fl->U
 |.ret v=>v
 |_=>.none
section
def gm(ρ:aC)(s:Shared)(Q:U->AH->Prop)(Qc:Value->Shared->Prop):Prop:=
 ∀x v ag H' s',Q x H'->bj ag H' s'.heap->Step ρ s.heap ag s'.heap->dH s s'->RelV s'.heap ag x v->Qc v s'
def Ov(ρ:aC)(s:Shared)(Q:List U->AH->Prop)(Qc:List Value->Shared->Prop):Prop:=
 ∀x v ag H' s',Q x H'->bj ag H' s'.heap->Step ρ s.heap ag s'.heap->dH s s'->aZ s'.heap ag x v->Qc v s'
def rI(ρ:aC)(s:Shared)(Q:Bool->AH->Prop)(Qc:Bool->Shared->Prop):Prop:=
 ∀b ag H' s',Q b H'->bj ag H' s'.heap->Step ρ s.heap ag s'.heap->dH s s'->Qc b s'
def rJ(L:gj cm)(ρ:aC)(s:Shared)(Q:Fl->Lo->AH->Prop)(Qc:Flow->Shared->Prop):Prop:=
 ∀x v ag m' H' s',Q x m' H'->St ag H' L m' s'.heap->bO (some L.L) ρ s.heap ag s'.heap->dH s s'->pW s'.heap ag x v->Qc v s'
def aQ(d:Nat)(f:aP)(m:Lo)(H:AH)(e:Expr)(Q:U->AH->Prop):Prop:=
 ∀(A:Around) (ρ:aC) (L:gj f.cm) (s:Shared) (Qc:Value->Shared->Prop) (E:Value->Shared->Prop),eS A d->St ρ H L m s.heap->
  gm ρ s Q Qc->wpAny (model bX wX) A (eval e (f.env L)) Qc E s
def fY(d:Nat)(f:aP)(m:Lo)(H:AH)(es:List Expr)(Q:List U->AH->Prop):Prop:=
 ∀(A:Around) (ρ:aC) (L:gj f.cm) (s:Shared) (Qc:List Value->Shared->Prop) (E:Value->Shared->Prop) (pos:Pos),eS A d->St ρ H L m s.heap->
  Ov ρ s Q Qc->wpAny (model bX wX) A (spliced (backTo pos (starEach es (f.env L)))) Qc E s
def eH(d:Nat)(f:aP)(m:Lo)(H:AH)(e:Expr)(Q:Bool->AH->Prop):Prop:=
 ∀(A:Around) (ρ:aC) (L:gj f.cm) (s:Shared) (Qc:Bool->Shared->Prop) (E:Value->Shared->Prop),eS A d->St ρ H L m s.heap->
  rI ρ s Q Qc->wpAny (model bX wX) A (isTrue e (f.env L) (eval e (f.env L))) Qc E s
def bG(d:Nat)(f:aP)(m:Lo)(H:AH)(ss:List Stmt)(Q:Fl->Lo->AH->Prop):Prop:=
 ∀(A:Around) (ρ:aC) (L:gj f.cm) (s:Shared) (Qc:Flow->Shared->Prop) (E:Value->Shared->Prop),eS A d->St ρ H L m s.heap->
  rJ L ρ s Q Qc->wpAny (model bX wX) A (execs ss (f.env L)) Qc E s
def dh(d:Nat)(f:aP)(m:Lo)(H:AH)(st:Stmt)(Q:Fl->Lo->AH->Prop):Prop:=
 ∀(A:Around) (ρ:aC) (L:gj f.cm) (s:Shared) (Qc:Flow->Shared->Prop) (E:Value->Shared->Prop),eS A d->St ρ H L m s.heap->
  rJ L ρ s Q Qc->wpAny (model bX wX) A (exec st (f.env L)) Qc E s
def aU(d:Nat)(g:Value)(args:List U)(H:AH)(Q:U->AH->Prop):Prop:=
 ∀(A:Around) (ρ:aC) (s:Shared) (vs:List Value) (Qc:Value->Shared->Prop) (E:Value->Shared->Prop),eS A d->bj ρ H s.heap->aZ s.heap ρ args vs->
  gm ρ s Q Qc->wpAny (model bX wX) A (call g vs) Qc E s
def br(d:Nat)(t:Value->Value->Sem Value)(x y:U)(H:AH)(Q:U->AH->Prop):Prop:=
 ∀(A:Around) (ρ:aC) (s:Shared) (a b:Value) (Qc:Value->Shared->Prop) (E:Value->Shared->Prop),eS A d->bj ρ H s.heap->RelV s.heap ρ x a->RelV s.heap ρ y b->
  gm ρ s Q Qc->wpAny (model bX wX) A (t a b) Qc E s
def zJ(d:Nat)(t:Value->Sem Value)(x:U)(H:AH)(Q:U->AH->Prop):Prop:=
 ∀(A:Around) (ρ:aC) (s:Shared) (a:Value) (Qc:Value->Shared->Prop) (E:Value->Shared->Prop),eS A d->bj ρ H s.heap->RelV s.heap ρ x a->
  gm ρ s Q Qc->wpAny (model bX wX) A (t a) Qc E s
def lX(d:Nat)(x:U)(H:AH)(Q:Bool->AH->Prop):Prop:=
 ∀(A:Around) (ρ:aC) (s:Shared) (a:Value) (Qc:Bool->Shared->Prop) (E:Value->Shared->Prop),eS A d->bj ρ H s.heap->RelV s.heap ρ x a->
  rI ρ s Q Qc->wpAny (model bX wX) A (truthy a) Qc E s
end
section
variable{ρ ag:aC}{s s':Shared}
theorem gm.after(p:gm ρ s Q Qc)(S:Step ρ s.heap ag s'.heap)(z:dH s s'):gm ag s' Q Qc:=
 λx v ot H' fu q R S' z' r=>p x v ot H' fu q R (S.trans S') (z.trans z') r
theorem rI.after(p:rI ρ s Q Qc)(S:Step ρ s.heap ag s'.heap)(z:dH s s'):rI ag s' Q Qc:=
 λx ot H' fu q R S' z'=>p x ot H' fu q R (S.trans S') (z.trans z')
theorem rJ.after(p:rJ L ρ s Q Qc)(S:bO (some L.L) ρ s.heap ag s'.heap)(z:dH s s'):rJ L ag s' Q Qc:=
 λx v ot m' H' fu q R S' z' r=>p x v ot m' H' fu q R (S.trans S') (z.trans z') r
theorem gm.here(p:gm ρ s Q Qc)(q:Q x H)(R:bj ρ H s.heap)(r:RelV s.heap ρ x v):Qc v s:=
 p x v ρ H s q R .refl .refl r
theorem gm.toks(p:gm ρ s Q Qc)(q:Q x H)(R:bj ρ H s.heap)(r:RelV s.heap ρ x v):Qc v {s with toks:=t}:=
 p x v ρ H {s with toks:=t} q R .refl ⟨rfl,rfl⟩ r
theorem gm.zK(p:gm ρ s Q Qc)(q:Q x H)(R:bj ρ H s.heap)(r:RelV (s.heap.push o) ρ x v):Qc v {s with heap:=s.heap.push o,toks:=t}:=
 p x v ρ H {s with heap:=s.heap.push o,toks:=t} q (R.push o) (Step.push o) ⟨rfl,rfl⟩ r
end
noncomputable def jy:Expr->Bool
 |.Starred ..=>false
 |_=>true
noncomputable def ow:Expr->Bool
 |.Call ..=>false
 |_=>true
noncomputable def jZ:Expr->Bool
 |.ListComp ..|.SetComp ..|.DictComp ..=>false
 |_=>true
noncomputable def pX:Expr->Bool
 |.Set ..=>false
 |_=>true
theorem zL(h:jy e=true):starEach (e::r) env=(false,eval e env)::starEach r env:=by
 induction e using Expr.casesOn<;>first|rfl|exact nomatch h
theorem pY(h:jZ e=true):swapsWith e t l env=pure false:=by
 induction e using Expr.casesOn<;>first|rfl|exact nomatch h
theorem zM(h:pX e=true):foldedSetIterable e env x=pure x:=by
 induction e using Expr.casesOn<;>first|rfl|exact nomatch h
inductive Lk:Lo->Str->U->Prop
 |here {x:Str} {v:U} {m:Lo}:Lk ((x,v)::m) x v
 |there {x y:Str} {v u:U} {m:Lo} (n:(x==y)=false) (h:Lk m x v):Lk ((y,u)::m) x v
theorem Lk.eq(h:Lk m x v):m.lookup x=some v:=by
 induction h with
 |here=>rw[afx];simp
 |there n h ih=>rw[afx,n];exact ih
inductive eh:List (Str×NameKind)->Str->NameKind->Prop
 |here {x:Str} {k:NameKind} {l:List (Str×NameKind)}:eh ((x,k)::l) x k
 |there {x y:Str} {k j:NameKind} {l:List (Str×NameKind)} (n:(x==y)=false) (h:eh l x k):eh ((y,j)::l) x k
theorem eh.eq(h:eh l x k):l.lookup x=some k:=by
 induction h with
 |here=>rw[afx];simp
 |there n h ih=>rw[afx,n];exact ih
structure eT(f:aP)(x:Str)(k:NameKind):Prop where
 fn:f.cs.kind=.function
 at_:eh f.cs.names x k
 nd:(x==("__debug__":Str))=false
theorem eT.kind(h:eT f x k):f.kind x=some k:=h.at_.eq
theorem Ow(h:Str.ofString a=Str.ofString b):a=b:=by
 rw[agZ,agZ]at h;have h1:(a.toList.map Char.toNat).toArray=(b.toList.map Char.toNat).toArray:=by injection h
 have h2:a.toList.map Char.toNat=b.toList.map Char.toNat:=by simpa using h1
 have h3:=(List.map_inj_right (f:=Char.toNat) (λx y e=>Char.toNat_inj.mp e)).mp h2
 exact String.toList_inj.mp h3
theorem Ox(h:a≠b):(Str.ofString a==Str.ofString b)=false:=aft.mpr λe=>h (Ow e)
noncomputable def wF:List Char->List Char->Bool
 |[],[]=>false
 |a::l,b::r=>!(a.toNat.beq b.toNat)||wF l r
 |_,_=>true
theorem Oy:∀{r:List Char},wF l r=true->l≠r:=by
 induction l with
 |nil=>exact λh e=>by rw[<-e]at h;exact Bool.noConfusion h
 |cons a l ih=>
  intro r h e;rw[<-e]at h
  replace h:(!(a.toNat.beq a.toNat)||wF l l)=true:=h
  rw[agl]at h;exact ih h rfl
theorem Oz(h:wF l r=true):(Str.ofString (String.ofList l)==Str.ofString (String.ofList r))=false:=Ox λe=>Oy h (String.ofList_injective e)
noncomputable def aP.isFn (f:aP):Bool:=decide (f.cs.kind=.function)
theorem aP.OA{f:aP}{L:gj f.cm}(h:f.isFn=true):interactive (f.env L)=false:=by
 have:f.cs.kind=.function:=afN h;unfold interactive;rw[f.lh this];rfl
section
variable{d:Nat}{f:aP}{m:Lo}{H:AH}
theorem Ev.local(hm:Lk m x v)(hx:eT f x .local)(q:Q v H):aQ d f m H (.Name x pos) Q:=
 λA ρ L s Qc E _ X p=>by
  refine cps λG k=>?_
  obtain⟨hk,hl,hd⟩:_/\_/\_:=⟨hx.fn,hx.kind,hx.nd⟩;refine ah X.fr λm' F M=>?_
  refine ah (M _ _ hm.eq) λv' e r=>?_
  refine k ?_;exact wpAny_Name (wpAny_loadName_local (f.lh hk) (f.kindOf hl) (by rw[(f.ok L.L L.cl).locals];exact F.ns) e (p.here q X.bR r)) hd
theorem Ev.EO(hm:nsIn kX mainGlobals x=some (some v))(hx:eT f x .globalImplicit)(q:Q (.val v) H):aQ d f m H (.Name x pos) Q:=
 λA ρ L s Qc E _ X p=>by
  refine cps λG k=>?_
  obtain⟨hk,hl,hd⟩:_/\_/\_:=⟨hx.fn,hx.kind,hx.nd⟩;refine ah X.fr λm' F M=>?_
  refine lU X.bR.bs.top λ_ _ mg mb T=>?_
  refine k ?_;exact Name_function_global (f.lh hk) (f.kindOf hl) (loadGlobal_global (by rw[(f.ok L.L L.cl).globals];exact T.g.keeps F.keep) (mg_of X.bR.bs.X T.g hm) (p.here q X.bR (.val v))) hd
structure ia(x:Str)(v:Value):Prop where
 lj:nsIn kX mainGlobals x=some Option.none
 val:bootBuiltins x=some v
 ne:x≠"__name__"
theorem Ev.ll(hm:ia x v)(hx:eT f x .globalImplicit)(q:Q (.val v) H):aQ d f m H (.Name x pos) Q:=
 λA ρ L s Qc E _ X p=>by
  refine cps λG k=>?_
  obtain⟨hk,hl,hd⟩:_/\_/\_:=⟨hx.fn,hx.kind,hx.nd⟩;refine ah X.fr λm' F M=>?_
  refine lU X.bR.bs.top λ_ _ mg mb T=>?_
  refine k ?_;exact Name_function_global (f.lh hk) (f.kindOf hl) (loadGlobal_builtin (by rw[(f.ok L.L L.cl).globals];exact T.g.keeps F.keep) (mg_none_of X.bR.bs.X T.g hm.lj) (by rw[(f.ok L.L L.cl).builtins];exact T.b.keeps F.keep) ((T.builtins x hm.ne).trans hm.val) (p.here q X.bR (.val v))) hd
theorem Ev.int(q:Q (.int i) H):aQ d f m H (.Constant (.int i) k pos) Q:=
 λA ρ L s Qc E _ X p=>wpAny_Constant_int (p.toks q X.bR (.int _ _))
theorem Ev.str(q:Q (.str x) H):aQ d f m H (.Constant (.str x) k pos) Q:=
 λA ρ L s Qc E _ X p=>by
  rw[eval_Constant];exact wpAny_mkText (p.toks q X.bR (.str _ _))
theorem Ev.none(q:Q .none H):aQ d f m H (.Constant .none k pos) Q:=
 λA ρ L s Qc E _ X p=>by
  rw[eval_Constant];exact afM (p.here q X.bR .none)
theorem Ev.bool(q:Q (.bool b) H):aQ d f m H (.Constant (.bool b) k pos) Q:=
 λA ρ L s Qc E _ X p=>by
  rw[eval_Constant];exact afM (p.here q X.bR (.bool _))
theorem aI.nil(q:Q [] H):fY d f m H [] Q:=
 λA ρ L s Qc E pos _ X p=>args_nil (p [] [] ρ H s q X.bR .refl .refl .nil)
theorem aI.cons(h:aQ d f m H e λx H₁=>fY d f m H₁ es λxs bH=>Q (x::xs) bH)
  (he:jy e=true:=by with_unfolding_all exact rfl):fY d f m H (e::es) Q:=
 λA ρ L s Qc E pos room X p=>args_cons (h A ρ L s _ E room X λx v bp H₁ s₁ q R S z r=>
  q A bp L s₁ _ E pos room (X.bY R S) λxs vs de bH bw dm cL bF cS eU=>p _ _ de bH bw dm cL (S.trans bF) (z.trans cS) (.cons (r.step bF .none) eU)) (zL he)
theorem Ev.rK
  (h:aQ d f m H l λx H₁=>aQ d f m H₁ r λy bH=>br d (binaryOp op) x y bH Q):aQ d f m H (.BinOp l op r pos) Q:=
 λA ρ L s Qc E room X p=>wpAny_BinOp (h A ρ L s _ E room X λx v bp H₁ s₁ q R S z r=>
  q A bp L s₁ _ E room (X.bY R S) λy u de bH bw dm cL bF cS eU=>dm A de bw v u _ E room cL (r.step bF .none) eU (p.after (S.trans bF) (z.trans cS)))
theorem Ev.cY
  (h:aQ d f m H l λx H₁=>aQ d f m H₁ r λy bH=>br d (compareOp op) x y bH Q)
  (hm:behindInMarks op r=false:=by with_unfolding_all exact rfl):aQ d f m H (.Compare l [op] [r] pos) Q:=
 λA ρ L s Qc E room X p=>wpAny_Compare1 (h A ρ L s _ E room X λx v bp H₁ s₁ q R S z r=>
  q A bp L s₁ _ E room (X.bY R S) λy u de bH bw dm cL bF cS eU=>dm A de bw v u _ E room cL (r.step bF .none) eU (p.after (S.trans bF) (z.trans cS))) hm
theorem Ts.cY
  (h:aQ d f m H l λx H₁=>aQ d f m H₁ r λy bH=>br d (compareOp op) x y bH λz gZ=>lX d z gZ Q)
  (hm:behindInMarks op r=false:=by with_unfolding_all exact rfl):eH d f m H (.Compare l [op] [r] pos) Q:=
 λA ρ L s Qc E room X p=>wpAny_isTrue_Compare1 (h A ρ L s _ E room X λx v bp H₁ s₁ q R S z r=>
  q A bp L s₁ _ E room (X.bY R S) λy u de bH bw dm cL bF cS eU=>dm A de bw v u _ E room cL (r.step bF .none) eU
   λk t lp gZ dK jz lY dZ fO oy=>jz A lp dK t _ E room lY oy (p.after ((S.trans bF).trans dZ) ((z.trans cS).trans fO))) hm
theorem Tr.bool(q:Q b H):lX d (.bool b) H Q:=
 λA ρ s a Qc E room R r p=>by
  refine r.k ?_;exact wpAny_truthy_bool (p b ρ H s q R .refl .refl)
theorem Ex.nil(q:Q .next m H):bG d f m H [] Q:=
 λA ρ L s Qc E room X p=>wpAny_execs_nil (p .next .next ρ m H s q X .refl .refl .next)
abbrev OB(d:Nat)(f:aP)(ss:List Stmt)(Q:Fl->Lo->AH->Prop)(fl:Fl)(m:Lo)(H:AH):Prop:=match fl with|.next=>bG d f m H ss Q|fl=>Q fl m H
abbrev OC(d:Nat)(f:aP)(m:Lo)(body iG:List Stmt)(Q:Fl->Lo->AH->Prop)(b:Bool)(H:AH):Prop:=if b then bG d f m H body Q else bG d f m H iG Q
theorem Ex.cons{st:Stmt}
  (h:dh d f m H st (OB d f ss Q)):bG d f m H (st::ss) Q:=
 λA ρ L s Qc E room X p=>wpAny_execs_cons (h A ρ L s _ E room X λx v ag m' H' s' q X' S z r=>by
  induction r with
  |next=>exact q A ag L s' Qc E room X' (p.after S z)
  |brk=>exact p _ _ ag m' H' s' q X' S z .brk
  |cont=>exact p _ _ ag m' H' s' q X' S z .cont
  |ret r=>exact p _ _ ag m' H' s' q X' S z (.ret r))
theorem Ex.ret(h:aQ d f m H e λv H'=>Q (.ret v) m H'):dh d f m H (.Return (some e) pos) Q:=
 λA ρ L s Qc E room X p=>wpAny_Return_some (h A ρ L s _ E room X λx v ag H' s' q R S z r=>p _ _ ag m H' s' q (X.bY R S) (.weak S) z (.ret r))
theorem Ex.OD(q:Q (.ret .none) m H):dh d f m H (.Return none pos) Q:=
 λA ρ L s Qc E room X p=>wpAny_Return_none (p _ _ ρ m H s q X .refl .refl (.ret .none))
theorem Ex.ite
  (h:eH d f m H lZ (OC d f m body iG Q)):dh d f m H (.If lZ body iG pos) Q:=
 λA ρ L s Qc E room X p=>wpAny_If (h A ρ L s _ E room X λb ag H' s' q R S z=>by
  induction b with
  |true=>exact q A ag L s' Qc E room (X.bY R S) (p.after (.weak S) z)
  |false=>exact q A ag L s' Qc E room (X.bY R S) (p.after (.weak S) z))
end
theorem eh.of(h:l.lookup x=some k):eh l x k:=by
 induction l with
 |nil=>exact af h
 |cons a r ih=>
  rw[afx]at h;cases q:x==a.1 with
  |true=>rw[q]at h;obtain rfl:=ack h;rw[afr.mp q];exact .here
  |false=>rw[q]at h;exact .there q (ih h)
theorem Lk.of(h:l.lookup x=some v):Lk l x v:=by
 induction l with
 |nil=>exact af h
 |cons a r ih=>
  rw[afx]at h;cases q:x==a.1 with
  |true=>rw[q]at h;obtain rfl:=ack h;rw[afr.mp q];exact .here
  |false=>rw[q]at h;exact .there q (ih h)
section
variable{h h':Heap}{ρ:aC}{H:AH}{cm:List (Str×Loc)}{L:gj cm}{m:Lo}
theorem St.dict(X:St ρ H L m h):DictAt h (some L.L):=λa q=>by
 refine ah X.fr λm' F M=>?_
 refine dX F.ns λo es ep e d r=>?_
 apply sE q;exact⟨o,e,λxs n z=>by replace z:=d▸z;cases z⟩
theorem l4:List.lookup y ((x,v)::m)=if y=x then some v else List.lookup y m:=by
 rw[afx];by_cases q:y=x
 ·subst q;simp
 ·have:(y==x)=false:=by simp[q]
  rw[this,if_neg q]
theorem St.store(X:St ρ H L m h)(F:Fr hX L.L h m')(M:RelM h ρ m m')(r:RelV h ρ av v)
  (hn:h'.Ns L.L (λy=>if y=x then some v else m' y))(hs:Heap.SameBut L.L h h'):St ρ H L ((x,av)::m) h'/\bO (some L.L) ρ h ρ h':=by
 have S:bO (some L.L) ρ h ρ h':=⟨λ_ _ e=>e,λ_ _ e=>.inl e,λa o e _ z=>(hs.2 a λq=>z (q▸rfl)).trans e,λa o e=>by
  by_cases q:a=L.L
  ·subst q;refine i3 hn λo' _ _ e' _=>?_;exact⟨o',e'⟩
  ·exact⟨o,(hs.2 a q).trans e⟩⟩
 have D:=X.dict;refine⟨⟨⟨X.bR.bs,λl o e=>?_,X.bR.low,λl a e=>aF (X.bR.live l a e) λo z=>S.live a o z,X.bR.inj,X.bR.new,(F.set hn hs).keep,cG X.bR.top λb o' q z=>aF (S.live b o' z) λmQ z'=>⟨b,mQ,q,z'⟩⟩,⟨_,F.set hn hs,λy b e=>?_⟩,X.free,X.cells⟩,S⟩
 ·refine ah (X.bR.obj l o e) λa e1 q=>?_
  exact⟨a,e1,q.step S D λob z=>(hs.2 a λzz=>X.free l (zz▸e1)).trans z⟩
 ·rw[l4]at e;by_cases q:y=x
  ·subst q;rw[if_pos rfl]at e;apply sE e;exact⟨v,if_pos rfl,r.step S D⟩
  ·rw[if_neg q]at e;refine ah (M y b e) λu e1 e2=>?_
   exact⟨u,(if_neg q).trans e1,e2.step S D⟩
end
section
variable{d:Nat}{f:aP}{m:Lo}{H:AH}
theorem pZ(X:St ρ H L m s.heap)(r:RelV s.heap ρ av v)
  (h:∀s',St ρ H L ((x,av)::m) s'.heap->bO (some L.L) ρ s.heap ρ s'.heap->dH s s'->Qc () s')
  (hk:f.cs.kind=.function)(hl:f.kind x=some .local):wpAny (model bX wX) A (storeName (f.env L) x v) Qc E s:=by
 refine ah X.fr λm' F M=>?_
 have eL:=(f.ok L.L L.cl).locals;refine wpAny_storeName_local (f.kindOf hl) (by rw[eL];exact F.ns) (λh' hn hs=>?_) (by rw[f.lh hk];rfl)
 rw[eL]at hn hs;refine aO (X.store F M r hn hs) λa b=>?_
 exact h {s with heap:=h',toks:=s.toks+1} a b ⟨rfl,rfl⟩
theorem Ex.assign(hx:eT f x .local)(h:aQ d f m H e λv H'=>Q .next ((x,v)::m) H')
  (hs:jZ e=true:=by with_unfolding_all exact rfl):
  dh d f m H (.Assign [.Name x rL] e pos) Q:=
 λA ρ L s Qc E room X p=>wpAny_Assign_Name (h A ρ L s _ E room X λy v ag H' s' q R S z r=>pZ (X.bY R S) r (λbw iH bF cS=>p _ _ ag _ H' bw q iH ((bO.weak S).trans bF) (z.trans cS) .next) hx.fn hx.kind) (pY hs)
theorem Ex.OE(hm:Lk m x v)(hx:eT f x .local)
  (h:aQ d f m H e λy H'=>br d (inplaceOp op) v y H' λz bg=>Q .next ((x,z)::m) bg):
  dh d f m H (.AugAssign (.Name x rL) op e pos) Q:=
 λA ρ L s Qc E room X p=>wpAny_AugAssign_Name (by
  refine cps λG k=>?_
  obtain⟨hk,hl⟩:_/\_:=⟨hx.fn,hx.kind⟩;refine ah X.fr λm' F M=>?_
  refine ah (M _ _ hm.eq) λv' e r=>?_
  refine k ?_;refine wpAny_loadName_local (f.lh hk) (f.kindOf hl) (by rw[(f.ok L.L L.cl).locals];exact F.ns) e ?_
  refine h A ρ L s _ E room X λy u bp H₁ s₁ q R S z wG=>?_
  exact q A bp s₁ v' u _ E room R (r.step S .none) wG λEP wH de bH bw dm cL bF cS eU=>pZ (X.bY cL (S.trans bF)) eU (λdK i4 dZ fO=>p _ _ de _ bH dK dm i4 ((bO.weak (S.trans bF)).trans dZ) ((z.trans cS).trans fO) .next) hk hl)
theorem Ex.zN
  (h:aQ d f m H e λv H₁=>aQ d f m H₁ o λx bH=>br d (λov v=>do setAttr ov fP v;pure .none) x v bH λ_ gZ=>Q .next m gZ)
  (hs:jZ e=true:=by with_unfolding_all exact rfl):dh d f m H (.Assign [.Attribute o fP rL] e pos) Q:=
 λA ρ L s Qc E room X p=>plainObj_wpAny_Assign_Attribute (h A ρ L s _ E room X λy v bp H₁ s₁ q R S z r=>
  q A bp L s₁ _ E room (X.bY R S) λEP wH de bH bw dm cL bF cS eU=>by
   have W:=dm A de bw wH v (λ_ dK=>Qc .next dK) E room cL eU (r.step bF .none) λER ES lp gZ dK jz lY dZ fO oy=>p _ _ lp m gZ dK jz (X.bY lY ((S.trans bF).trans dZ)) (.weak ((S.trans bF).trans dZ)) ((z.trans cS).trans fO) .next
   intro Γ p OF;have W':=W Γ p OF;rw[Sem.wp_bind']at W';exact W') (pY hs)
theorem Ex.while(I:Nat->Lo->AH->Prop)
  (turn:∀n m H,I n m H->eH d f m H lZ λb H₁=>if b=true then bG d f m H₁ body (λfl fw bH=>match fl with
    |.next|.cont=>∃k,k<n/\I k fw bH
    |.brk=>Q .next fw bH
    |.ret v=>Q (.ret v) fw bH)else bG d f m H₁ iG Q)(n:Nat)(h:I n m H):dh d f m H (.While lZ body iG pos) Q:=
 λA ρ L s Qc E room X p=>wpAny_While (codeAny_whileLoop (λn s'=>∃ag m' H',I n m' H'/\St ag H' L m' s'.heap/\bO (some L.L) ρ s.heap ag s'.heap/\dH s s')
  (λn s₁ hI=>by
   refine tV hI λbp OG H₁ OH fZ p8 tZ=>?_
   refine turn n OG H₁ OH A bp L s₁ _ _ room fZ λb de bH bw q R S z=>?_
   induction b with
   |true=>
    refine q A de L bw _ _ room (fZ.bY R S) λfl v lp wI gZ dK jz i4 dZ fO oy=>?_
    have SS:=(p8.trans (.weak S)).trans dZ;have zz:=(tZ.trans z).trans fO
    induction oy with
    |next=>refine ah jz λk hk i=>?_;exact⟨k,hk,lp,wI,gZ,i,i4,SS,zz⟩
    |cont=>refine ah jz λk hk i=>?_;exact⟨k,hk,lp,wI,gZ,i,i4,SS,zz⟩
    |brk=>exact p _ _ lp wI gZ dK jz i4 SS zz .next
    |ret r=>exact p _ _ lp wI gZ dK jz i4 SS zz (.ret r)
   |false=>exact q A de L bw _ _ room (fZ.bY R S) ((p.after p8 tZ).after (.weak S) z)) n ⟨ρ,m,H,h,X,.refl,.refl⟩)
end
def fQ:List Expr->Bool
 |[]=>true
 |e::r=>jy e&&fQ r
theorem zO:∀{es:List Expr},fQ es=true->(starEach es env).all (λx=>!x.1)=true/\(starEach es env).any (·.1)=false/\(starEach es env).length=es.length
 |[],_=>⟨rfl,rfl,rfl⟩
 |e::r,h=>by
  refine aO (agd.mp h) λa b=>?_
  refine dG (zO (env:=env) b) λc d l=>?_
  rw[zL a];exact⟨by rw[List.all_cons,c];rfl,by rw[ag8,d];rfl,by rw[afP,afP,l]⟩
theorem OI:(backTo pos l).any (·.1)=l.any (·.1):=by
 unfold backTo;rw[List.any_map];rfl
theorem OJ:(backTo pos l).all (λx=>!x.1)=l.all (λx=>!x.1):=by
 unfold backTo;rw[List.all_map];rfl
theorem zP(h:ow o=true):attributeBase o name env whole=whole:=by
 induction o using Expr.casesOn<;>first|rfl|exact nomatch h
section
variable{M:Model}{A:Around}{E:Value->Shared->Prop}{s:Shared}
theorem OK(hp:fQ es=true)
  (h:wpAny M A (spliced (backTo pos (starEach es env))) (λvs s'=>Q ⟨vs,[]⟩ s') E s):wpAny M A (evalArgs f true (backTo pos (starEach es env)) []) Q E s:=by
 induction es with
 |nil=>
  show wpAny M A (spliced []>>=_) Q E s;refine afA (ahe h (λvs s' h'=>?_) λ_ _ x=>x)
  refine afA (afM ?_);refine agX ?_;exact afA (afM (afA (afM (afM h'))))
 |cons e r=>
  refine aO (agd.mp hp) λa b=>?_
  rw[zL a]at h ⊢;exact evalArgs_plain h
theorem OL(h:(ib.endLine==pos.line)=true):methodCallPos few o env ib pos=pure pos:=by
 unfold methodCallPos;rw[h,Bool.or_true,if_pos rfl]
theorem zQ(ho:ow o=true)(hl:(ib.endLine==pos.line)=true)(hp:fQ args=true)(hn:args.length<30)
  (h:wpAny M A (eval o env) (λov s₁=>∀pl:Sem Bool,wpAny M A (getMethod ov name pl) (λfx bw=>wpAny M A (callWith pos fx.1 fx.2 (backTo pos (starEach args env)) []) Q E bw) E s₁) E s):
  wpAny M A (eval (.Call (.Attribute o name ib) args [] pos) env) Q E s:=by
 rw[arm_eval_Call,zP ho];refine afA (ahe h (λov s₁ cM=>afA (ag9 ?_)) λ_ _ x=>x)
 delta methodCall calleeOf
 have hf:methodCallForm (args.length+([]:List Keyword).length) (backTo pos (starEach args env)) (backToKw pos (keywordEach [] env))=true:=by
  have:=(zO (env:=env) hp).1;rw[<-OJ (pos:=pos)]at this;show((backTo pos (starEach args env)).all (λx=>!x.1)&&true&&decide (args.length+0+0<30))=true
  rw[this];simp only[Bool.true_and,Bool.and_self,decide_eq_true_eq];omega
 rw[hf,if_pos rfl];refine afA (agX (ahe (cM _) (λfx bw rM=>?_) λ_ _ x=>x))
 rw[OL hl];exact afA (afM rM)
theorem ET{P:Heap->Prop}(hp:fQ es=true)
  (hk:∀h,P h->∃k,(k=Keeper.frame\/k=Keeper.machine\/k=Keeper.boundFrame)/\Looks M h (keeperOf f) k)
  (h:wpAny M A (spliced (backTo pos (starEach es env))) (λvs s₁=>P s₁.heap/\wpAny M A (call f (first++vs)) Q E s₁) E s):wpAny M A (callWith pos f first (backTo pos (starEach es env)) []) Q E s:=
 callWith_of (by rw[OI,(zO hp).2.1];rfl) hk (OK hp h)
theorem OM{id:String}(h:Heap)(_:True):∃k,(k=Keeper.frame\/k=Keeper.machine\/k=Keeper.boundFrame)/\Looks M h (keeperOf (.builtin id)) k:=⟨.machine,.inr (.inl rfl),.of_pure rfl⟩
theorem EU{id:String}(h:Heap)(_:True):∃k,(k=Keeper.frame\/k=Keeper.machine\/k=Keeper.boundFrame)/\Looks M h (keeperOf (.type id)) k:=⟨.machine,.inr (.inl rfl),.of_pure rfl⟩
end
section
variable{d:Nat}{f:aP}{m:Lo}{H:AH}
inductive Callee:Value->Prop
 |top {v:Value} (h:keepIn kX v=true):Callee v
 |ll (id:String):Callee (.builtin id)
 |type (id:String):Callee (.type id)
theorem Callee.keeps(C:Callee v)(h:Heap)(X:kX.In h):∃k,(k=Keeper.frame\/k=Keeper.machine\/k=Keeper.boundFrame)/\Looks M h (keeperOf v) k:=by
 induction C with
 |top e=>exact keeps_K e h X
 |ll id=>exact OM h afL
 |type id=>exact EU h afL
theorem bj.lq(R:bj ρ H h):kX.In h:=λa o e=>R.base a o (R.bs.X a o e)
theorem t8{A:Around}
  (C:Callee g)(hp:fQ args=true)(h:fY d f m H args λxs H'=>aU d g (fx++xs) H' Q)(room:eS A d)(X:St ρ H L m s.heap)(r:aZ s.heap ρ fx first)(p:gm ρ s Q Qc):
  wpAny (model bX wX) A (callWith pos g first (backTo pos (starEach args (f.env L))) []) Qc E s:=
 ET (P:=kX.In) hp C.keeps (h A ρ L s _ E pos room X λxs vs ag H' s' q R S z rv=>⟨R.lq,q A ag s' _ _ E room R ((r.step S .none).append rv) (p.after S z)⟩)
theorem Ev.call(hp:fQ args=true)
  (h:aQ d f m H func λx H'=>∃g,x=.val g/\Callee g/\fY d f m H' args λxs bg=>aU d g xs bg Q)
  (hf:∀L,eval (.Call func args [] pos) (f.env L)=(do callWith pos (<-eval func (f.env L)) [] (backTo pos (starEach args (f.env L))) (backToKw pos (keywordEach [] (f.env L)))):=by intros;rfl):
  aQ d f m H (.Call func args [] pos) Q:=
 λA ρ L s Qc E room X p=>by
  rw[hf L];refine afA (h A ρ L s _ E room X λx v ag H' s' q R S z r=>?_)
  refine cC q λg bb C h=>?_;subst bb
  refine r.k ?_;exact t8 (fx:=[]) C hp h room (X.bY R S) .nil (p.after S z)
theorem Ev.t9(C:Callee g)
  (h:aQ d f m H (.Name x xp) λy H'=>y=.val g/\fY d f m H' args λxs bg=>aU d g xs bg Q)(hp:fQ args=true:=by with_unfolding_all exact rfl):
  aQ d f m H (.Call (.Name x xp) args [] pos) Q:=
 Ev.call hp (λA ρ L s Qc E room X p=>h A ρ L s Qc E room X λx v ag H' s' q R S z r=>p _ _ ag H' s' ⟨g,q.1,C,q.2⟩ R S z r) (λL=>rfl)
structure FnAt(x:Str)(g:Value):Prop where
 at_:nsIn kX mainGlobals x=some (some g)
 keep:keepIn kX g=true
theorem Ev.jA(F:FnAt x g)(hx:eT f x .globalImplicit)(h:fY d f m H args λxs bg=>aU d g xs bg Q)
  (hp:fQ args=true:=by with_unfolding_all exact rfl):aQ d f m H (.Call (.Name x xp) args [] pos) Q:=
 Ev.t9 (.top F.keep) (Ev.EO F.at_ hx ⟨rfl,h⟩) hp
theorem Ev.ua{id:String}(F:ia x (.builtin id))(hx:eT f x .globalImplicit)(h:fY d f m H args λxs bg=>aU d (.builtin id) xs bg Q)
  (hp:fQ args=true:=by with_unfolding_all exact rfl):aQ d f m H (.Call (.Name x xp) args [] pos) Q:=
 Ev.t9 (.ll id) (Ev.ll F hx ⟨rfl,h⟩) hp
theorem Ev.wJ{id:String}(F:ia x (.type id))(hx:eT f x .globalImplicit)(h:fY d f m H args λxs bg=>aU d (.type id) xs bg Q)
  (hp:fQ args=true:=by with_unfolding_all exact rfl):aQ d f m H (.Call (.Name x xp) args [] pos) Q:=
 Ev.t9 (.type id) (Ev.ll F hx ⟨rfl,h⟩) hp
theorem dB.find(r:dB h ρ es ds):(∀av,es.lookup k=some av->∃v,getL k ds=some (some v)/\RelV h ρ av v)/\(es.lookup k=none->getL k ds=some none):=by
 induction r with
 |nil=>exact⟨λ_ e=>(nomatch e),λ_=>rfl⟩
 |@cons k' t x v es ds a b ih=>
  by_cases q:k=k'
  ·subst q;refine⟨λav e=>⟨v,?_,?_⟩,λe=>?_⟩
   ·unfold getL;simp[Value.isStr]
   ·rw[l4,if_pos rfl]at e;apply sE e;exact a
   ·rw[l4,if_pos rfl]at e;exact nomatch e
  ·have e1:(Value.str k' t).isStr k=false:=by simp[Value.isStr];exact λe=>q e.symm
   have e2:getL k (⟨PyData.keyHash wX.params k',.str k' t,v⟩::ds)=getL k ds:=by
    unfold getL;rw[List.find?_cons,show(DictEntry.mk (PyData.keyHash wX.params k') (.str k' t) v).key.isStr k=false from e1];rw[ag8,show(DictEntry.mk (PyData.keyHash wX.params k') (.str k' t) v).refKey=false from rfl,agL]
   refine⟨λav e=>?_,λe=>?_⟩
   ·rw[l4,if_neg q]at e;exact e2▸ih.1 av e
   ·rw[l4,if_neg q]at e;exact e2▸ih.2 e
def f7(H:AH)(x:U)(C:Addr)(es:List (Str×U)):Prop:=∃l dl,x=.ae l/\H.get l=some (.inst C dl)/\H.get dl=some (.dict es)
theorem f7.at(I:f7 H x C es)(R:bj ρ H h)(r:RelV h ρ x v):
  ∃a da ds n,v=.ref a/\W.InstAt h a ⟨.ref C,some da,.plain,#[]⟩ C (some (dictOf ds n))/\dB h ρ es ds:=by
 refine cps λG k=>?_
 refine cK I λl dl aM e1 e2=>?_;subst aM
 refine ah (R.obj _ _ e1) λa p1 hh=>ah hh λda q1 r1=>?_
 refine ah (R.obj _ _ e2) λON p2 hh=>cG hh λds n r2 r3=>?_
 refine k ?_;rw[q1]at p2;obtain rfl:=ack p2;refine r.k λ_ e=>?_
 rw[p1]at e;apply sE e;exact⟨a,da,ds,n,rfl,⟨r1,rfl,rfl,r2⟩,r3⟩
def lr(o:Expr)(ib pos:Pos)(args:List Expr):Bool:=ow o&&(ib.endLine==pos.line)&&fQ args&&decide (args.length<30)
theorem zR(h:lr o ib pos args=true):ow o=true/\(ib.endLine==pos.line)=true/\fQ args=true/\args.length<30:=by
 unfold lr at h;rw[afi,afi,afi,afO]at h;exact⟨h.1.1.1,h.1.1.2,h.1.2,h.2⟩
structure MethAt(C:Addr)(name:Str)(g:Addr):Prop where
 plain:plainGet kX C name=true
 find:findIn kX (.ref C) name=some (some (.ref g))
 fn:isFn kX (.ref g)=true
 keep:keepIn kX (.ref g)=true
theorem Ev.OO(M:MethAt C name g)
  (h:aQ d f m H o λx H'=>(∃es,f7 H' x C es/\es.lookup name=.none)/\fY d f m H' args λxs bg=>aU d (.ref g) (x::xs) bg Q)
  (hx:lr o ib pos args=true:=by with_unfolding_all exact rfl):aQ d f m H (.Call (.Attribute o name ib) args [] pos) Q:=
 fb (zR hx) λho hl hp hn=>
 λA ρ L s Qc E room X p=>zQ ho hl hp hn (h A ρ L s _ E room X λx v ag H' s' q R S z r=>by
  obtain⟨⟨es,I,ne⟩,q⟩:=q;intro pl;refine wA (I.at R r) λa da ds n i5 IA rd=>?_;subst i5
  have KX:=R.lq;refine method_fn KX IA (plainGet_of M.plain).1 (plainGet_of M.plain).2 M.find (afr.mp M.fn) (by show(lookIn name (dictOf ds n)).map _=_;rw[lookIn_dict,rd.find.2 ne];rfl) ?_
  exact t8 (fx:=[x]) (.top M.keep) hp q room (X.bY R S) (.cons r .nil) (p.after S z))
def U.plain:U->Prop
 |.val v=>handedIn v=true
 |_=>True
theorem RelV.handed(r:RelV h ρ x v)(p:x.plain):handedIn v=true:=by
 cases r<;>first|rfl|exact p
structure fy(C:Addr)(name:Str):Prop where
 plain:plainGet kX C name=true
 dict:hasDictIn kX C=true
 lj:findIn kX (.ref C) name=some .none
theorem Ev.fP(M:fy C name)
  (h:aQ d f m H o λx H'=>∃es v,f7 H' x C es/\es.lookup name=some v/\v.plain/\Q v H')
  (he:ow o=true:=by with_unfolding_all exact rfl):aQ d f m H (.Attribute o name pos) Q:=
 λA ρ L s Qc E room X p=>Attribute_any_ (h A ρ L s _ E room X λx v ag H' s' q R S z r=>by
  refine dW q λes y I hl hy q=>?_
  refine wA (I.at R r) λa da ds n i5 IA rd=>?_;subst i5
  refine ah (rd.find.1 y hl) λu e1 r1=>?_
  exact get_value R.lq IA (plainGet_of M.plain).1 (findObj_own M.dict M.lj rfl e1) (r1.handed hy) ((p.after S z).toks q R r1)) (by rw[arm_eval_Attribute,zP he])
end
theorem bW.append(r:bW h ρ a c)(q:bW h ρ b e):bW h ρ (a++b) (c++e):=
 bW.rec (motive:=λa c _=>bW h ρ (a++b) (c++e)) q (λa _ i=>.cons a i) r
theorem bW.reverse(r:bW h ρ a c):bW h ρ a.reverse c.reverse:=
 bW.rec (motive:=λa c _=>bW h ρ a.reverse c.reverse) .nil (λa _ i=>by rw[agC,agC];exact i.append (.cons a .nil)) r
theorem bW.zip:∀(ns:List Str) {xs:List U} {vs:List Value},aZ h ρ xs vs->bW h ρ (ns.zip xs) (ns.zip vs)
 :=λns {xs} {vs} q=>q.ind (P:=λxs vs=>∀ns:List Str,bW h ρ (ns.zip xs) (ns.zip vs)) (λns=>List.casesOn ns .nil λ_ _=>.nil) (λ_ _ _ _ a _ i ns=>List.casesOn ns .nil λ_ r=>.cons a (i r)) ns
theorem bW.EV:∀{a:List (Str×U)} {c:List (Str×Value)},bW h ρ a c->RelM h ρ a (λy=>c.lookup y):=λq=>by
 induction q with
 |nil=>exact λ_ _ e=>af e
 |@cons k x v xs vs a b ih=>
  intro y av e
  replace e:=l4▸e
  show∃u,List.lookup y ((k,v)::_)=some u/\_;rw[afx];by_cases q:y=k
  ·subst q;rw[if_pos rfl]at e;apply sE e;exact⟨v,by simp,a⟩
  ·rw[if_neg q]at e;have:(y==k)=false:=by simp[q]
   exact this▸ih y av e
section
variable{d:Nat}{f:aP}{m:Lo}{H:AH}
theorem ub(r:eS A (d+1))(e:Env):A.depth<recursionLimit/\eS (A.deeper e) d:=by
 obtain⟨hh,a,b⟩:=r;refine⟨by show A.depth<1000;lia,hh,by show A.depth+1+d<=1000;lia,by show A.units+3+10*d+100<=9900;lia⟩
noncomputable def oz (s:Scope):Bool:=!s.isCoroutine&&!s.isGenerator&&decide (s.kind=.function)&&s.names.all λx=>decide (x.2≠.cell)
theorem EW(h:oz s=true):s.isCoroutine=false/\s.isGenerator=false/\s.kind=.function/\∀x∈s.names,x.2≠.cell:=by
 unfold oz at h;rw[afi,afi,afi,afO,afH,afH]at h;exact⟨h.1.1.1,h.1.1.2,h.1.2,λx hx=>afN (afn.mp h.2 x hx)⟩
theorem zS:∀x∈([]:List Str),eh l x .local:=λ_ h=>nomatch h
theorem zT(h:eh l y .local)(t:∀x∈r,eh l x .local):∀x∈y::r,eh l x .local:=λx hx=>by
 cases hx with
 |head=>exact h
 |tail _ q=>exact t x q
theorem uc(h:kX.lookup c=some ⟨cc,dd,.fields vs,sl⟩)(e:vs.toList=a::.str q t::r):codeIn kX (.ref c) q=true:=by
 unfold codeIn;dsimp only;rw[h];dsimp only;rw[e];simp
theorem Call.def{names:List Str}(fz:Lo)
  (ho:kX.lookup fa=some ⟨oc,od,.func (fnOf name qual params body scope dV kV doc pm an dS ct),zU⟩)(mR:codeIn kX dS qual=true)
  (hbind:∀(S:Setting) (vs:List Value),vs.length=args.length->peek kX S (bindArgs (fnOf name qual params body scope dV kV doc pm an dS ct) ⟨vs,[]⟩)=some (names.zip (vs++dv)))
  (iI:∀(h:Heap) (ρ:aC),bj ρ H h->aZ h ρ dx dv)
  (hloc:∀x∈names,eh scope.names x .local)
  (ie:fz=(names.zip (args++dx)).reverse)
  (h:bG d (.fn qual scope fa dS []) fz H body (λfl _ H'=>∃bg,AH.Le H' bg/\Q fl.val bg))
  (hs:oz scope=true:=by kernel_rfl):aU (d+1) (.ref fa) args H Q:=
 fb (EW hs) λmS mT hk jB=>
 λA ρ s vs Qc E room R rv p=>by
  subst ie;refine wpAny_call ?_;have KX:=R.lq;refine aO (ub room (envOf qual scope s.heap.objs.size fa dS)) λmU lu=>?_
  have rb:=bW.zip names (rv.append (iI _ _ R));refine codeAny_call_def (fd:=fnOf name qual params body scope dV kV doc pm an dS ct) (body:=body) (binds:=names.zip (vs++dv)) mU (KX _ _ ho) rfl (R.bs.mO.keeps R.base) (codeRec_of KX mR) rfl
   (kp_binds KX λS=>hbind S vs rv.length.symm) jB (λy hy=>?_) (λcM d7 i6=>?_) mS mT hk
  ·refine aO (List.of_mem_zip hy) λa b=>?_
   exact(hloc y.1 a).eq
  ·have aR:=d7.lt;have S:Step ρ s.heap ρ cM:=⟨λ_ _ e=>e,λ_ _ e=>.inl e,λa o e _ _=>i6 a o e,λa o e=>⟨o,i6 a o e⟩⟩
   have fA:bj ρ H cM:=⟨R.bs,λl o e=>ah (R.obj l o e) λa e1 q=>⟨a,e1,q.step S .none λob z=>i6 a ob z⟩,R.low,λl a e=>aF (R.live l a e) λo z=>⟨o,i6 a o z⟩,R.inj,R.new,λb o e=>i6 b o (R.base b o e),let⟨b,o',q,z⟩:=R.top;⟨b,o',q,i6 b o' z⟩⟩
   have fZ:St ρ H (cm:=[]) ⟨s.heap.objs.size,[]⟩ (names.zip (args++dx)).reverse cM:=⟨fA,⟨_,⟨d7,fA.base,let⟨b,o',q,z⟩:=R.top;ads q (af8 z)⟩,(bW.reverse (bW.zip names ((rv.append (iI _ _ R)).step S .none))).EV⟩,R.lg,λ_ _ e=>nomatch e⟩
   refine h _ ρ ⟨s.heap.objs.size,[]⟩ _ _ _ lu fZ λfl v ag m' H' s' q X' S' z' r'=>?_
   have SS:Step ρ s.heap ag s'.heap:=((bO.weak S).trans S').fresh (ku _)
   induction r' with
   |next=>refine ah q λbg le q=>?_;exact p _ _ ag bg s' q (X'.bR.le le) SS ⟨z'.gens,z'.os⟩ .none
   |brk=>refine ah q λbg le q=>?_;exact p _ _ ag bg s' q (X'.bR.le le) SS ⟨z'.gens,z'.os⟩ .none
   |cont=>refine ah q λbg le q=>?_;exact p _ _ ag bg s' q (X'.bR.le le) SS ⟨z'.gens,z'.os⟩ .none
   |ret r=>refine ah q λbg le q=>?_;exact p _ _ ag bg s' q (X'.bR.le le) SS ⟨z'.gens,z'.os⟩ r
end
section
variable{d:Nat}{f:aP}{m:Lo}{H:AH}
theorem Ts.not(h:eH d f m H x λb H'=>Q (!b) H'):eH d f m H (.UnaryOp .Not x pos) Q:=
 λA ρ L s Qc E room X p=>isTrue_not (h A ρ L s _ E room X λb ag H' s' q R S z=>p _ ag H' s' q R S z)
def rN(d:Nat)(f:aP)(m:Lo)(op:BoolOp)(H:AH):List Expr->(Bool->AH->Prop)->Prop
 |[],Q=>Q (op==.And) H
 |e::r,Q=>eH d f m H e λb H'=>match op,b with
  |.And,false=>Q false H'
  |.Or,true=>Q true H'
  |_,_=>rN d f m op H' r Q
theorem rN.sound:∀{es:List Expr} {H:AH} {Q:Bool->AH->Prop},rN d f m op H es Q->∀(A:Around) (ρ:aC) (L:gj f.cm) (s:Shared) (Qc:Bool->Shared->Prop) (E:Value->Shared->Prop),eS A d->St ρ H L m s.heap->
  rI ρ s Q Qc->wpAny (model bX wX) A (allTrue op es (f.env L)) Qc E s
 |[],H,Q,h,A,ρ,L,s,Qc,E,room,X,p=>afM (p _ ρ H s h X.bR .refl .refl)
 |e::r,H,Q,h,A,ρ,L,s,Qc,E,room,X,p=>by
  rw[arm_allTrue_cons];refine afA (h A ρ L s _ E room X λb ag H' s' q R S z=>?_)
  cases op<;>cases b
  ·exact afM (p _ ag H' s' q R S z)
  ·exact rN.sound q A ag L s' Qc E room (X.bY R S) (p.after S z)
  ·exact rN.sound q A ag L s' Qc E room (X.bY R S) (p.after S z)
  ·exact afM (p _ ag H' s' q R S z)
theorem Ts.bool(h:rN d f m op H es Q):eH d f m H (.BoolOp op es pos) Q:=
 λA ρ L s Qc E room X p=>by
  rw[arm_isTrue_BoolOp];exact h.sound A ρ L s Qc E room X p
abbrev OP(d:Nat)(f:aP)(m:Lo)(r:List Expr)(pos:Pos)(Q:Bool->AH->Prop)(b:Bool)(H:AH):Prop:=if b then eH d f m H (.BoolOp .And r pos) Q else Q false H
abbrev OQ(d:Nat)(f:aP)(m:Lo)(r:List Expr)(pos:Pos)(Q:Bool->AH->Prop)(b:Bool)(H:AH):Prop:=if b then Q true H else eH d f m H (.BoolOp .Or r pos) Q
abbrev OR(d:Nat)(f:aP)(m:Lo)(body iG:Expr)(Q:U->AH->Prop)(b:Bool)(H:AH):Prop:=if b then aQ d f m H body Q else aQ d f m H iG Q
theorem Ts.and(h:eH d f m H e (OP d f m r pos Q)):
  eH d f m H (.BoolOp .And (e::r) pos) Q:=
 λA ρ L s Qc E room X p=>isTrue_and (h A ρ L s _ E room X λb ag H' s' q R S z=>by
  induction b
  ·exact p _ ag H' s' q R S z
  ·exact q A ag L s' Qc E room (X.bY R S) (p.after S z))
theorem Ts.or(h:eH d f m H e (OQ d f m r pos Q)):
  eH d f m H (.BoolOp .Or (e::r) pos) Q:=
 λA ρ L s Qc E room X p=>by
  rw[arm_isTrue_BoolOp,arm_allTrue_cons];refine afA (h A ρ L s _ E room X λb ag H' s' q R S z=>?_)
  induction b
  ·exact q A ag L s' Qc E room (X.bY R S) (p.after S z)
  ·exact afM (p _ ag H' s' q R S z)
theorem Ts.EX(q:Q true H):eH d f m H (.BoolOp .And [] pos) Q:=
 λA ρ L s Qc E room X p=>isTrue_and_nil (p _ ρ H s q X.bR .refl .refl)
theorem Ts.EY(q:Q false H):eH d f m H (.BoolOp .Or [] pos) Q:=
 λA ρ L s Qc E room X p=>isTrue_or_nil (p _ ρ H s q X.bR .refl .refl)
noncomputable def rO:Expr->Bool
 |.Name ..|.Attribute ..|.Subscript ..|.Call ..=>true
 |_=>false
theorem OS(h:rO e=true):isTrue e env whole=(do let v<-whole;standAt e.pos;holding [v] (truthy v)):=by
 induction e using Expr.casesOn<;>first|rfl|exact nomatch h
theorem Ts.plain(h:aQ d f m H e λx H'=>lX d x H' Q)(he:rO e=true:=by with_unfolding_all exact rfl):eH d f m H e Q:=
 λA ρ L s Qc E room X p=>isTrue_plain (h A ρ L s _ E room X λx v ag H' s' q R S z r=>q A ag s' v Qc E room R r (p.after S z)) (OS he)
theorem Ev.zV(h:eH d f m H lZ (OR d f m body iG Q)):
  aQ d f m H (.IfExp lZ body iG pos) Q:=
 λA ρ L s Qc E room X p=>wpAny_IfExp (h A ρ L s _ E room X λb ag H' s' q R S z=>by
  induction b
  ·exact q A ag L s' Qc E room (X.bY R S) (p.after S z)
  ·exact q A ag L s' Qc E room (X.bY R S) (p.after S z))
theorem Ev.zW(h:aQ d f m H x λy H'=>zJ d (unaryOp op) y H' Q):aQ d f m H (.UnaryOp op x pos) Q:=
 λA ρ L s Qc E room X p=>wpAny_UnaryOp (h A ρ L s _ E room X λx v ag H' s' q R S z r=>q A ag s' v Qc E room R r (p.after S z))
theorem Ev.and(h:aQ d f m H zX λx H'=>lX d x H' λb bg=>if b=true then aQ d f m bg (.BoolOp .And (zY::rest) pos) Q else(bg=H'/\Q x bg)):
  aQ d f m H (.BoolOp .And (zX::zY::rest) pos) Q:=
 λA ρ L s Qc E room X p=>BoolOp_and (h A ρ L s _ E room X λx v ag H' s' q R S z r=>q A ag s' v _ E room R r λb de bH bw dm cL bF cS=>by
  induction b
  ·exact p _ _ de bH bw dm.2 cL (S.trans bF) (z.trans cS) (r.step bF .none)
  ·exact dm A de L bw Qc E room (X.bY cL (S.trans bF)) (p.after (S.trans bF) (z.trans cS)))
theorem Ev.or(h:aQ d f m H zX λx H'=>lX d x H' λb bg=>if b=true then(bg=H'/\Q x bg)else aQ d f m bg (.BoolOp .Or (zY::rest) pos) Q):
  aQ d f m H (.BoolOp .Or (zX::zY::rest) pos) Q:=
 λA ρ L s Qc E room X p=>BoolOp_or (h A ρ L s _ E room X λx v ag H' s' q R S z r=>q A ag s' v _ E room R r λb de bH bw dm cL bF cS=>by
  induction b
  ·exact dm A de L bw Qc E room (X.bY cL (S.trans bF)) (p.after (S.trans bF) (z.trans cS))
  ·exact p _ _ de bH bw dm.2 cL (S.trans bF) (z.trans cS) (r.step bF .none))
theorem Ev.EZ(h:aQ d f m H e Q):aQ d f m H (.BoolOp op [e] pos) Q:=h
theorem Op.not(h:lX d x H λb H'=>Q (.bool (!b)) H'):zJ d (unaryOp .Not) x H Q:=
 λA ρ s a Qc E room R r p=>not_of (h A ρ s a _ E room R r λb ag H' s' q R S z=>p _ _ ag H' s' q R S z (.bool _))
theorem Op.neg(q:Q (.int (-i)) H):zJ d (unaryOp .USub) (.int i) H Q:=
 λA ρ s a Qc E room R r p=>by refine r.k λ_=>?_;refine neg_int ?_;exact p.toks q R (.int _ _)
theorem Op.add(q:Q (.int (i+j)) H):br d (binaryOp .Add) (.int i) (.int j) H Q:=
 λA ρ s a b Qc E room R r r' p=>by refine r.k λ_=>?_;refine r'.k λ_=>?_;refine PyProof.Rows.add_int ?_;exact p.toks q R (.int _ _)
theorem Op.sub(q:Q (.int (i-j)) H):br d (binaryOp .Sub) (.int i) (.int j) H Q:=
 λA ρ s a b Qc E room R r r' p=>by refine r.k λ_=>?_;refine r'.k λ_=>?_;exact sub_int' (p.toks q R (.int _ _))
theorem Op.mod(hj:j≠0)(q:Q (.int (i.fmod j)) H):br d (binaryOp .Mod) (.int i) (.int j) H Q:=
 λA ρ s a b Qc E room R r r' p=>by refine r.k λ_=>?_;refine r'.k λ_=>?_;exact mod_int' hj (p.toks q R (.int _ _))
theorem Op.cat(hl:x.length+y.length<=1000000)(q:Q (.str (x++y)) H):br d (binaryOp .Add) (.str x) (.str y) H Q:=
 λA ρ s a b Qc E room R r r' p=>by refine r.k λ_=>?_;refine r'.k λ_=>?_;exact PyProof.Rows.add_str (λt' tk=>p.toks q R (.str _ _)) (by exact agF▸ads ‹_› (by decide))
theorem Op.OT(q:Q (.int (i+j)) H):br d (inplaceOp .Add) (.int i) (.int j) H Q:=
 λA ρ s a b Qc E room R r r' p=>by refine r.k λ_=>?_;refine r'.k λ_=>?_;refine wpAny_iadd_int ?_;exact p.toks q R (.int _ _)
theorem Op.OU(q:Q (.int (i-j)) H):br d (inplaceOp .Sub) (.int i) (.int j) H Q:=
 λA ρ s a b Qc E room R r r' p=>by refine r.k λ_=>?_;refine r'.k λ_=>?_;refine PySem.P.isub_int ?_;exact p.toks q R (.int _ _)
theorem Op.OV(q:Q (.bool (i==j)) H):br d (compareOp .Eq) (.int i) (.int j) H Q:=
 λA ρ s a b Qc E room R r r' p=>by refine r.k λ_=>?_;refine r'.k λ_=>?_;refine PyProof.Rows.eq_int ?_;exact p.here q R (.bool _)
theorem Op.OW(q:Q (.bool (i !=j)) H):br d (compareOp .NotEq) (.int i) (.int j) H Q:=
 λA ρ s a b Qc E room R r r' p=>by refine r.k λ_=>?_;refine r'.k λ_=>?_;refine PyProof.Rows.ne_int ?_;exact p.here q R (.bool _)
theorem Op.E0(q:Q (.bool (decide (i<j))) H):br d (compareOp .Lt) (.int i) (.int j) H Q:=
 λA ρ s a b Qc E room R r r' p=>by refine r.k λ_=>?_;refine r'.k λ_=>?_;refine PyProof.Rows.lt_int ?_;exact p.here q R (.bool _)
theorem Op.OX(q:Q (.bool (decide (j<i))) H):br d (compareOp .Gt) (.int i) (.int j) H Q:=
 λA ρ s a b Qc E room R r r' p=>by refine r.k λ_=>?_;refine r'.k λ_=>?_;refine PyProof.Rows.gt_int ?_;exact p.here q R (.bool _)
theorem Op.E1(q:Q (.bool (decide (j<=i))) H):br d (compareOp .GtE) (.int i) (.int j) H Q:=
 λA ρ s a b Qc E room R r r' p=>by refine r.k λ_=>?_;refine r'.k λ_=>?_;refine PyProof.Rows.ge_int ?_;exact p.here q R (.bool _)
theorem Op.wK(q:Q (.bool (i==j)) H):br d (compareOp .Eq) (.str i) (.str j) H Q:=
 λA ρ s a b Qc E room R r r' p=>by refine r.k λ_=>?_;refine r'.k λ_=>?_;refine PyProof.Rows.eq_str ?_;exact p.here q R (.bool _)
theorem Op.OY(q:Q (.bool (i !=j)) H):br d (compareOp .NotEq) (.str i) (.str j) H Q:=
 λA ρ s a b Qc E room R r r' p=>by refine r.k λ_=>?_;refine r'.k λ_=>?_;refine PyProof.Rows.ne_str ?_;exact p.here q R (.bool _)
end
theorem aZ.mV(r:aZ h ρ [x,y] vs):∃a b,vs=[a,b]/\RelV h ρ x a/\RelV h ρ y b:=by
 exact r.k λ_ _ r1 r2=>r2.k λ_ _ r2 r3=>r3.k ⟨_,_,rfl,r1,r2⟩
theorem aZ.one(r:aZ h ρ [x] vs):∃a,vs=[a]/\RelV h ρ x a:=by
 exact r.k λ_ _ r1 r2=>r2.k ⟨_,rfl,r1⟩
theorem aZ.three(r:aZ h ρ [x,y,u] vs):∃a b c,vs=[a,b,c]/\RelV h ρ x a/\RelV h ρ y b/\RelV h ρ u c:=by
 exact r.k λ_ _ r1 r2=>r2.k λ_ _ r2 r3=>r3.k λ_ _ r3 r4=>r4.k ⟨_,_,_,rfl,r1,r2,r3⟩
section
variable{d:Nat}{f:aP}{m:Lo}{H:AH}
theorem bj.list(R:bj ρ H h)(hl:H.get l=some (.list xs))(r:RelV h ρ (.ae l) v):
  ∃a vs n,v=.ref a/\ρ l=some a/\IsL h a vs.toArray n/\aZ h ρ xs vs/\vs.length=xs.length:=by
 refine ah (R.obj _ _ hl) λa e hh=>cG hh λvs n ho rl=>?_
 refine r.k λ_ e'=>?_
 rw[e]at e';apply sE e';exact⟨a,vs,n,rfl,e,ho,rl,rl.length.symm⟩
theorem bj.wL{vs:List Value}(R:bj ρ H h)(e:ρ l=some a)(ho:IsL h a vs.toArray n)
  (hg:g vs.toArray=rP.toArray)(r:aZ h ρ xs' rP):bj ρ (H.set l (.list xs')) (h.update a (Obj.mapSeq g))/\Step ρ h ρ (h.update a (Obj.mapSeq g)):=by
 have:=ho.update g
 replace this:=hg▸this
 have S:=Step.same (h:=h) (h':=h.update a (Obj.mapSeq g)) e (Heap.SameBut.update ..) this;exact⟨R.tY e (Heap.SameBut.update ..) ⟨rP,_,this,r.step S .none⟩,S⟩
theorem ud{vs:List Value}{xs:List U}(e:vs.length=xs.length)(h:xs.length<=1000000):vs.toArray.size<=sizeLine:=by
 rw[afC,e,agF];exact ads ‹_› (by decide)
theorem OZ{i:Nat}(h:i<=1000000):Builtin.List.listFitsIndex (i:Int)=true:=by
 unfold Builtin.List.listFitsIndex;rw[afi,afO,afO]
 lia
theorem Call.append{l:Loc}{xs:List U}(hl:H.get l=some (.list xs))(hs:xs.length<=1000000)(q:Q .none (H.set l (.list (xs++[x])))):
  aU d (.builtin "list.append") [.ae l,x] H Q:=
 λA ρ s vs Qc E room R rv p=>by
  refine cK rv.mV λ_ v aM r1 r2=>?_;subst aM
  refine kr (R.list hl r1) λa us n bx e ho rl le=>?_;subst bx
  refine call_meets agB ⟨_,ho,rfl⟩ PySem.F.entry_list_append (PySem.F.args_list_append_2 _ _) (list_append a us.toArray n v (ud le hs)) ⟨ho,?_⟩;refine aO (R.wL e ho (g:=λx=>x.push v) (rP:=us++[v]) (xs':=xs++[x]) (by simp) (rl.append (.cons r2 .nil))) λR' S=>?_
  exact p _ _ ρ _ _ q R' S ⟨rfl,rfl⟩ .none
theorem Call.i7(hl:H.get l=some (.list (xs++[x])))(hs:xs.length<1000000)(q:Q x (H.set l (.list xs))):
  aU d (.builtin "list.pop") [.ae l] H Q:=
 λA ρ s vs Qc E room R rv p=>by
  refine ah rv.one λ_ bb r1=>?_;subst bb
  refine kr (R.list hl r1) λa us n bx e ho rl le=>?_;subst bx
  rw[afl,afF]at le;refine ah (rl.get (i:=xs.length) (x:=x) (by simp)) λv e1 rx=>?_
  have hp:=rl.take xs.length;rw[List.take_left]at hp;have sp:us=us.take xs.length++[v]:=by
   have h2:us.drop xs.length=[v]:=by
    apply List.ext_getElem?;intro i;rw[List.getElem?_drop]
    induction i with
    |zero=>rw[Nat.add_zero,e1];rfl
    |succ j=>rw[afK (by lia)];rfl
   rw[<-h2,ag1]
  refine call_meets PySem.F.slot_list_pop ⟨_,ho,rfl⟩ PySem.F.entry_list_pop (PySem.F.args_list_pop_1 _) (MeetsSeq.list_pop_last a us.toArray n v (by rw[afC,le];simpa using e1) (by rw[List.size_toArray,le,sizeLine_eq];exact ads ‹_› (by decide))) ⟨ho,?_⟩
  obtain⟨R',S⟩:=R.wL e ho (g:=λx=>x.eraseIdxIfInBounds (us.toArray.size-1)) (rP:=us.take xs.length) (xs':=xs) (by
   rw[afC,le,Nat.add_sub_cancel,List.eraseIdxIfInBounds_toArray]
   conv=>lhs;rw[sp]
   rw[List.eraseIdx_append_of_length_le (by rw[List.length_take,le];lia)]
   rw[List.length_take,le];simp) hp
  exact p _ _ ρ _ _ q R' S ⟨rfl,rfl⟩ (rx.step S .none)
theorem Call.ue{l:Loc}{xs:List U}{Q:U->AH->Prop}(hl:H.get l=some (.list xs))(hs:xs.length<=1000000)(hi:i<=xs.length)(q:Q .none (H.set l (.list (xs.take i++x::xs.drop i)))):
  aU d (.builtin "list.insert") [.ae l,.int i,x] H Q:=
 λA ρ s vs Qc E room R rv p=>by
  refine tV rv.three λ_ iv v bx r1 ri r2=>?_;subst bx
  refine kr (R.list hl r1) λa us n bx e ho rl le=>?_;subst bx
  refine ri.k λt=>?_
  have hf:Builtin.List.listFitsIndex (i:Int)=true:=OZ (i:=i) (ads hi hs);generalize jx:(i:Int)=j at hf;have g:=AutoSeq1.list_insert_list_int_val_1 a us.toArray n j t v (by exact hf.symm▸Bool.false_ne_true) (ud le hs)
  refine call_meets PySem.F.slot_list_insert ⟨_,ho,rfl⟩ PySem.F.entry_list_insert (PySem.F.args_list_insert_3 _ _ _) g ?_;refine And.intro ho ?_;subst jx;obtain⟨R',S⟩:=R.wL e ho (g:=λxs=>have k:=if(i:Int)<0 then((i:Int)+(xs.size:Int)).toNat else min (i:Int).toNat xs.size;(xs.extract 0 k).push v++xs.extract k) (rP:=us.take i++v::us.drop i) (xs':=xs.take i++x::xs.drop i) (by
   have h1:¬((i:Int)<0):=by lia
   simp only[h1,if_false,Int.toNat_natCast,List.size_toArray,le,Nat.min_eq_left hi];apply Array.ext';simp;rw[agG (by rw[ag4,le];exact afm _)]) ((rl.take i).append (.cons r2 (rl.drop i)))
  exact p _ _ ρ _ _ q R' S ⟨rfl,rfl⟩ .none
theorem aZ.zZ:∀{ns:List Int} {vs:List Value},aZ h ρ (ns.map U.int) vs->(∀y∈vs,∃i t,y=.int i t)/\∀i (hi:i<vs.length),∃t,vs[i]?=(ns[i]?).map λk=>.int k t:=λ{ns}=>by
 induction ns with
 |nil=>exact λr=>by rw[r.pV];exact⟨λ_ h=>(nomatch h),λi hi=>absurd hi (Nat.not_lt_zero _)⟩
 |cons k r ih=>
  intro vs q;refine cK q.un λv ws aM a b=>?_;subst aM
  refine aF a.zI λt bb=>?_;subst bb
  refine aO (ih b) λp q=>?_
  exact⟨afV.mpr ⟨⟨k,t,rfl⟩,p⟩,λi=>Nat.casesOn i (λ_=>⟨t,rfl⟩) λi hi=>q i (Nat.lt_of_succ_lt_succ hi)⟩
noncomputable def uf (k:Int):Value->Bool
 |.int i _=>i==k
 |_=>false
theorem Call.index{ns:List Int}(hl:H.get l=some (.list (ns.map U.int)))(hs:ns.length<=1000000)(hk:k∈ns)(q:Q (.int (ns.idxOf k:Nat)) H):
  aU d (.builtin "list.index") [.ae l,.int k] H Q:=
 λA ρ s vs Qc E room R rv p=>by
  refine cK rv.mV λ_ kv aM r1 rk=>?_;subst aM
  refine kr (R.list hl r1) λa us n bx e ho rl le=>?_;subst bx
  rw[afj]at le;refine rk.k λt=>?_
  refine aO rl.zZ λh1 h2=>?_
  have hj:ns.idxOf k<ns.length:=List.idxOf_lt_length_of_mem hk;have at_:∀i (hi:i<us.toArray.size),uf k us.toArray[i]=(ns[i]'(by rw[afC,le]at hi;exact hi)==k):=λi hi=>by
   have jx:i<us.length:=by exact hi
   refine aF (h2 i jx) λt' q'=>?_
   have hn:i<ns.length:=by exact le▸jx
   rw[afq jx,afq hn,Option.map_some,Option.some.injEq]at q';rw[List.getElem_toArray,q'];rfl
  refine call_meets PySem.F.slot_list_index ⟨_,ho,rfl⟩ PySem.F.entry_list_index (PySem.F.args_list_index_2 _ _) (SeqAt.list_indexAt a us.toArray n .none #[] (.int k t) (uf k) (ns.idxOf k) (by rw[afC,le];exact hj) (by lia) ?_ ?_) ⟨ho,λy hy=>?_,?_⟩
  ·rw[at_ _ (by rw[afC,le];exact hj),List.getElem_idxOf hj]
   simp
  ·intro i hi aR;rw[at_ i hi];have:=List.not_of_lt_findIdx (p:=(·==k)) (xs:=ns) (i:=i) (by simpa[List.idxOf]using aR)
   exact this
  ·refine fN (h1 y (by simpa using hy)) λi u aM=>?_;subst aM
   exact(MeetsSeq.EqGives.int i k u t).at _ _
  ·exact p.toks q R (.int _ _)
end
inductive d0(H:AH):U->String->Prop
 |list {l:Loc} {xs:List U} (e:H.get l=some (.list xs)):d0 H (.ae l) "list"
 |map {l:Loc} {es:List (Str×U)} (e:H.get l=some (.map es)):d0 H (.ae l) "dict"
 |aw (xs:List U):d0 H (.aw xs) "list"
 |aG (xs:List U):d0 H (.aG xs) "tuple"
 |str (x:Str):d0 H (.str x) "str"
inductive d8(H:AH):U->List U->Prop
 |list {l:Loc} {xs:List U} (e:H.get l=some (.list xs)):d8 H (.ae l) xs
 |aw (xs:List U):d8 H (.aw xs) xs
noncomputable def mW:Expr->Bool
 |.Slice ..=>false
 |_=>true
theorem O0(h:mW slice=true):subscripted slice false o i=operate [o,i] (getItem o i):=by
 induction slice using Expr.casesOn<;>first|rfl|exact nomatch h
def gI(T:String):Prop:=∃id,typeLookup (.type T) "__getitem__"=pure (some (.builtin id))
theorem E2:gI "list":=⟨_,slot_list_getitem.lookup⟩
theorem ug:gI "dict":=⟨_,slot_dict_getitem.lookup⟩
theorem O5:gI "tuple":=⟨_,PySem.F.slot_tuple_getitem.lookup⟩
theorem O6:gI "str":=⟨_,PySem.F.slot_str_getitem.lookup⟩
section
variable{d:Nat}{f:aP}{m:Lo}{H:AH}
theorem d0.typeIs{s:Shared}(h:d0 H x T)(R:bj ρ H s.heap)(r:RelV s.heap ρ x v):s.TypeIs v T:=by
 induction h with
 |list e=>
  refine kr (R.list e r) λa vs n bx _ ho _ _=>?_;subst bx
  exact⟨_,ho,rfl⟩
 |map e=>
  refine ah (R.obj _ _ e) λa e1 hh=>cC hh λkvs hd _ _=>?_
  refine r.k λ_ e'=>?_
  rw[e1]at e';apply sE e';exact hd.typeIs
 |aw=>exact r.k λ_ _ _ e _ _=>⟨_,e,rfl⟩
 |aG=>exact r.k λ_ _ _ e _ _=>⟨_,e,rfl⟩
 |str=>exact r.k λ_=>rfl
theorem d8.at(I:d8 H x xs)(R:bj ρ H h)(r:RelV h ρ x v):∃a vs n,v=.ref a/\IsL h a vs.toArray n/\aZ h ρ xs vs:=by
 induction I with
 |list e=>
  refine kr (R.list e r) λa vs n e1 _ ho rl _=>?_
  exact⟨a,vs,n,e1,ho,rl⟩
 |aw=>exact r.k λ_ _ _ e _ r=>⟨_,_,_,rfl,e,r⟩
theorem Ev.sub{pos:Pos}
  (h:aQ d f m H value λx H₁=>aQ d f m H₁ slice λy bH=>(∃T,d0 bH x T/\gI T)/\br d getItem x y bH Q)(hs:mW slice=true:=by with_unfolding_all exact rfl):
  aQ d f m H (.Subscript value slice pos) Q:=
 λA ρ L s Qc E room X p=>Subscript_ (h A ρ L s _ E room X λx v bp H₁ s₁ q R S z r=>q A bp L s₁ _ E room (X.bY R S) λy u de bH bw dm cL bF cS eU=>by
  refine cps λG k=>?_
  obtain⟨⟨T,hT,id,hl⟩,dm⟩:=dm;refine k ?_;exact tail_any (hT.typeIs cL (r.step bF .none)) hl (dm A de bw v u Qc E room cL (r.step bF .none) eU (p.after (S.trans bF) (z.trans cS))) (O0 hs))
theorem Op.item{i:Nat}(I:d8 H x xs)(hi:i<1000000)(e:xs[i]?=some y)(q:Q y H):br d getItem x (.int i) H Q:=
 λA ρ s a b Qc E room R r r' p=>by
  refine dX (I.at R r) λa vs n bx ho rl=>?_;subst bx
  refine r'.k λt=>?_
  refine ah (rl.get e) λv e1 r1=>?_
  exact wpAny_getItem_list ho.isList (by exact afI _) (by lia) (by rw[afv];simpa using e1) (p.here q R r1)
theorem Op.z5(I:d8 H x (xs++[y]))(q:Q y H):br d getItem x (.int (-1)) H Q:=
 λA ρ s a b Qc E room R r r' p=>by
  refine dX (I.at R r) λa vs n bx ho rl=>?_;subst bx
  refine r'.k λt=>?_
  refine ah (rl.get (i:=xs.length) (x:=y) (by simp)) λv e1 r1=>?_
  have le:=rl.length;rw[afl,afF]at le;refine wpAny_getItem_list_neg ho.isList (by decide) (by rw[afC];lia) (by decide) ?_ (p.here q R r1)
  rw[afC,<-le,show((-1:Int)+((xs.length+1:Nat):Int)).toNat=xs.length by omega]
  simpa using e1
theorem Op.z6{i:Nat}(hi:i<1000000)(e:xs[i]?=some y)(q:Q y H):br d getItem (.aG xs) (.int i) H Q:=
 λA ρ s a b Qc E room R r r' p=>by
  refine r.k λ_ _ _ ho f rl=>?_
  refine r'.k λt=>?_
  refine ah (rl.get e) λv e1 r1=>?_
  refine aF (afk.mp e1) λaR _=>?_
  refine PyProof.Rows.getItem_tuple ⟨_,ho,rfl,_,rfl⟩ (by exact afI _) (by lia) (j:=i) ?_ (by simpa using e1) (p.here q R r1)
  unfold seqIndex?;have:¬((i:Int)<0):=by exact nofun
  simp only[this,if_false,List.size_toArray];rw[if_pos (by simp;exact aR),afv]
theorem Op.O7{i:Nat}(hi:i<1000000)(e:x.cps[i]?=some c)(q:Q (.str ⟨#[c]⟩) H):br d getItem (.str x) (.int i) H Q:=
 λA ρ s a b Qc E room R r r' p=>by
  refine r.k λt=>?_
  refine r'.k λu=>?_
  obtain⟨aR,_⟩:=Array.getElem?_eq_some_iff.mp e;refine PySem.P.getItem_str (c:=c) ?_ ?_ (p.toks q R (.str _ _))
  ·rw[Bool.or_eq_false_iff,decide_eq_false_iff_not,decide_eq_false_iff_not];lia
  ·unfold seqIndex?;have:¬((i:Int)<0):=by exact nofun
   simp only[this,if_false];rw[if_pos (by simp;exact aR),afv]
   exact e
theorem bW.valueAt(r:bW h ρ es kvs):(∀av,es.lookup k=some av->∃v,valueAt kvs k=some v/\RelV h ρ av v)/\(es.lookup k=none->valueAt kvs k=none):=by
 induction r with
 |nil=>exact⟨λ_ e=>(nomatch e),λ_=>rfl⟩
 |@cons k' x v es ds a b ih=>
  unfold PySem.valueAt at ih ⊢;rw[l4,List.find?_cons];by_cases q:k=k'
  ·subst q;simp only[decide_true,if_true];exact⟨λav e=>by apply sE e;exact⟨v,rfl,a⟩,λe=>by cases e⟩
  ·have:decide (k'=k)=false:=agK λe=>q e.symm
   simp only[if_neg q,this];exact ih
theorem bj.map(R:bj ρ H h)(hl:H.get l=some (.map es))(r:RelV h ρ (.ae l) v):
  ∃a kvs,v=.ref a/\ρ l=some a/\h.DictOf (strKind bX wX) a kvs/\bW h ρ es kvs/\(a==sysModules)=false:=by
 refine ah (R.obj _ _ hl) λa e hh=>cC hh λkvs hd rp hn=>?_
 refine r.k λ_ e'=>?_
 rw[e]at e';apply sE e';exact⟨a,kvs,rfl,e,hd,rp,hn⟩
theorem Op.uh(hl:H.get l=some (.map es))(e:es.lookup k=some y)(q:Q y H):br d getItem (.ae l) (.str k) H Q:=
 λA ρ s a b Qc E room R r r' p=>by
  refine gD (R.map hl r) λa kvs aM _ hd rp _=>?_;subst aM
  refine r'.k λt=>?_
  refine ah (rp.valueAt.1 y e) λv e1 r1=>?_
  exact wpAny_getItem_of (strKind_is bX wX k t) hd.mapOf e1 (p.toks q R r1)
theorem Op.O8(hl:H.get l=some (.map es))(q:Q (.bool (!(es.lookup k).isSome)) H):br d (compareOp .NotIn) (.str k) (.ae l) H Q:=
 λA ρ s a b Qc E room R r r' p=>by
  refine gD (R.map hl r') λa kvs aM _ hd rp hn=>?_;subst aM
  refine r.k λt=>?_
  have:(valueAt kvs k).isSome=(es.lookup k).isSome:=by
   cases q:es.lookup k with
   |none=>rw[rp.valueAt.2 q];rfl
   |some av=>refine ah (rp.valueAt.1 av q) λv e1 _=>?_;rw[e1];rfl
  exact wpAny_notIn_of (strKind_is bX wX k t) hn hd.mapOf (by exact this▸p.toks q R (.bool _))
theorem Op.O9(hl:H.get l=some (.map []))(q:Q (.bool false) H):br d (compareOp .In) (.int k) (.ae l) H Q:=
 λA ρ s a b Qc E room R r r' p=>by
  refine gD (R.map hl r') λa kvs aM _ hd rp hn=>?_;subst aM
  refine r.k λt=>?_
  cases rp;refine Oe hd λo es ep e1 e2 e3 e4 e5 e6=>?_
  have Pa:es=#[]:=by
   have:=e5;cases hh:es.toList with
   |nil=>simpa using hh
   |cons x y=>replace this:=hh▸this;cases this
  subst Pa;refine wpAny_in_of (knd:=intKind bX wX) (f:=λ_=>none) (intKind_is bX wX k t) hn ⟨o,#[],ep,e1,e2,e3,λe he=>?_,λ_=>rfl⟩ (p.toks q R (.bool _))
  simp at he
noncomputable def fR:List (Str×U)->Str->U->List (Str×U)
 |[],k,v=>[(k,v)]
 |(k',v')::r,k,v=>if k'=k then(k',v)::r else(k',v')::fR r k v
theorem bW.p9:∀{es:List (Str×U)} {kvs:List (Str×Value)},bW h ρ es kvs->es.map (·.1)=kvs.map (·.1):=λq=>
 bW.rec (motive:=λes kvs _=>es.map (·.1)=kvs.map (·.1)) rfl (λ_ _ i=>afp (List.cons _) i) q
theorem Pb{r:List (Str×Value)}(hn:k'=k->∀p∈r,p.1≠k):stored ((k',v')::r) k v=if k'=k then(k',v)::r else(k',v')::stored r k v:=by
 unfold stored;by_cases q:k'=k
 ·subst q;simp only[List.any_cons,decide_true,Bool.true_or,if_true,List.map_cons]
  congr 1
  have h2:=hn rfl;clear hn
  induction r with
  |nil=>rfl
  |cons p r ih=>
   rw[agk,if_neg (h2 p (.head _)),ih λq hq=>h2 q (.tail _ hq)]
 ·have:decide (k'=k)=false:=agK q;simp only[List.any_cons,this,Bool.false_or,if_neg q,List.map_cons,List.cons_append];split<;>rfl
theorem bW.stored{k:Str}(r:RelV h ρ x v)(q:bW h ρ es kvs):(kvs.map (·.1)).Nodup->bW h ρ (fR es k x) (stored kvs k v):=by
 induction q with
 |nil=>exact λ_=>.cons r .nil
 |@cons k' x' v' es ds a b ih=>
  intro nd;rw[agk,List.nodup_cons]at nd;rw[Pb λe p hp he=>nd.1 (afQ.mpr ⟨p,hp,he.trans e.symm⟩)]
  unfold fR;by_cases q:k'=k
  ·rw[if_pos q,if_pos q];exact .cons r b
  ·rw[if_neg q,if_neg q];exact .cons a (ih nd.2)
theorem bW.length:∀{es:List (Str×U)} {kvs:List (Str×Value)},bW h ρ es kvs->es.length=kvs.length:=λq=>
 bW.rec (motive:=λes kvs _=>es.length=kvs.length) rfl (λ_ _ i=>afp (·+1) i) q
def l5(d:Nat)(x y v:U)(H:AH)(Q:AH->Prop):Prop:=
 ∀(A:Around) (ρ:aC) (s:Shared) (a b c:Value) (Qc:Unit->Shared->Prop) (E:Value->Shared->Prop),eS A d->bj ρ H s.heap->RelV s.heap ρ x a->RelV s.heap ρ y b->RelV s.heap ρ v c->
  (∀ag H' s',Q H'->bj ag H' s'.heap->Step ρ s.heap ag s'.heap->dH s s'->Qc () s')->wpAny (model bX wX) A (setItem a b c) Qc E s
theorem Set.map(hl:H.get l=some (.map es))(hs:es.length<=1000)(q:Q (H.set l (.map (fR es k v)))):l5 d (.ae l) (.str k) v H Q:=
 λA ρ s a b c Qc E room R r r' rv p=>by
  refine gD (R.map hl r) λa kvs aM e hd rp hn=>?_;subst aM
  refine r'.k λt=>?_
  have le:=rp.length;refine wpAny_setItem_pairs (strKind_is bX wX k t) hd (λh' oA sb=>?_) (by rw[<-le,agF];exact ads ‹_› (by decide))
  refine ah (ahd.mp oA) λo' mX _=>?_
  have S:=Step.same (h:=s.heap) (h':=h') e sb mX;have nd:(kvs.map (·.1)).Nodup:=let⟨_,_,_,_,_,_,_,_,nd⟩:=hd;nd;exact p ρ _ {s with heap:=h',toks:=s.toks+1} q (R.tY e sb ⟨_,oA,(rp.stored rv nd).step S .none,hn⟩) S ⟨rfl,rfl⟩
theorem Pc{j:Nat}{k:Int}(hl:IsL s.heap l items n)
  (hj:k=j)(h0:0<=k)(E3:k<2 ^ 63)(hn:j<items.size)(hQ:Q () {s with heap:=s.heap.update l (Obj.mapSeq (·.setIfInBounds j v))}):wpAny (model bX wX) A (setItem (.ref l) (.int k t) v) Q E s:=by
 refine agX ?_;refine afA (wpAny_sequenceKey hl.isList.typeIs (by decide) ?_)
 refine afA (wpAny_callSpecial?_slot (name:=Str.ofString "__setitem__") hl.isList.typeIs slot_list_setitem
  (wpAny_call_entry slot_list_setitem hl.isList.typeIs entry_list_setitem ?_ (args_list_setitem _ _ _)))
 show wpAny _ _ (Builtin.List.listSubscript? (.int k t)>>=_) _ _ s;refine afA (wpAny_listSubscript_int (fitsIndex_of h0 E3) ?_);clear E3 h0;subst hj;have Pd:items[j]?=some items[j]:=Array.getElem?_eq_getElem hn;show wpAny _ _ ((seqItemAt l j>>=λr=>pure (r.map (j,·)))>>=_) _ _ s
 refine afA (afA (wpAny_seqItemAt hl rfl (afM ?_)));rw[Pd];show wpAny _ _ (setSeqItemAt l j v>>=_) _ _ s;refine afA (wpAny_setSeqItemAt hl rfl ?_)
 first
  |exact afA (afM (afM ⟨.none,rfl,afM hQ⟩))
  |exact afM ⟨.none,rfl,afM hQ⟩
theorem Set.list(hl:H.get l=some (.list xs))(hi:i<xs.length)(hs:xs.length<=1000000)(q:Q (H.set l (.list (xs.set i v)))):l5 d (.ae l) (.int i) v H Q:=
 λA ρ s a b c Qc E room R r r' rv p=>by
  refine kr (R.list hl r) λa us n bx e ho rl le=>?_;subst bx
  refine r'.k λt=>?_
  refine Pc (j:=i) ho rfl (by exact afI _) (by lia) (by rw[afC,le];exact hi) ?_
  refine aO (R.wL e ho (g:=λx=>x.setIfInBounds i c) (rP:=us.set i c) (xs':=xs.set i v) (by simp) (rl.set i rv)) λR' S=>?_
  exact p ρ _ _ q R' S ⟨rfl,rfl⟩
theorem Ex.ui
  (h:aQ d f m H e λv H₁=>aQ d f m H₁ o λx bH=>aQ d f m bH i λy gZ=>l5 d x y v gZ λmY=>Q .next m mY)
  (hs:jZ e=true:=by with_unfolding_all exact rfl):dh d f m H (.Assign [.Subscript o i rL] e pos) Q:=
 λA ρ L s Qc E room X p=>wpAny_Assign_Subscript (h A ρ L s _ E room X λy v bp H₁ s₁ q R S z r=>
  q A bp L s₁ _ E room (X.bY R S) λEP wH de bH bw dm cL bF cS eU=>dm A de L bw _ E room (X.bY cL (S.trans bF)) λER ES lp gZ dK jz lY dZ fO oy=>
   jz A lp dK wH ES v _ E room lY (eU.step dZ .none) oy (r.step (bF.trans dZ) .none) λjC mY lx ly Pe kz uj=>by
    have SS:=((S.trans bF).trans dZ).trans kz;exact p _ _ jC m mY lx ly (X.bY Pe SS) (.weak SS) (((z.trans cS).trans fO).trans uj) .next) (pY hs)
end
structure rQ(L it:Addr)(cM:Heap):Prop where
 h:cM.get? it=none
 b:hX.get? it=none
 ne:it≠L
structure l6{cm:List (Str×Loc)}(L:gj cm)(it:Addr)(bp:aC)(s₁:Shared)(ρ:aC)(H:AH)(m:Lo)(s:Shared):Prop where
 X:St ρ H L m s.heap
 S:bO (some L.L) bp s₁.heap ρ s.heap
 z:dH s₁ s
 fr:∀l,ρ l≠some it
structure kA(A:Around)(L it:Addr)(n:Nat)(ys:Nat->U)(G:Nat->aC->Heap->Prop)(Ok:AH->Prop):Prop where
 at_:∀i ρ h,G i ρ h->∃o,h.get? it=some o/\∀xs n,o.data≠.seq xs n
 step:∀i ρ h ag h',G i ρ h->(∀l,ρ l≠some it)->it≠L->bO (some L) ρ h ag h'->DictAt h (some L)->G i ag h'
 item:∀i ρ H s (Q:Option Value->Shared->Prop) (E:Value->Shared->Prop),i<n->G i ρ s.heap->Ok H->bj ρ H s.heap->
  (∀h' tk v o',Heap.ExtBut it s.heap h'->h'.get? it=some o'->(bO (some it) ρ s.heap ρ h'->DictAt s.heap (some it)->G (i+1) ρ h'/\RelV h' ρ (ys i) v)->Q (some v) {s with heap:=h',toks:=tk})->wpAny (model bX wX) A (pyNext (.ref it)) Q E s
 last:∀ρ H s (Q:Option Value->Shared->Prop) (E:Value->Shared->Prop),G n ρ s.heap->Ok H->bj ρ H s.heap->(∀h',Heap.ExtBut it s.heap h'->Q none {s with heap:=h'})->wpAny (model bX wX) A (pyNext (.ref it)) Q E s
section
variable{d:Nat}{f:aP}{m:Lo}{H:AH}
theorem bj.z7(R:bj ρ H h)(e:h.get? a=none):hX.get? a=none:=by
 cases q:hX.get? a with
 |none=>rfl
 |some o=>rw[R.base _ _ q]at e;exact nomatch e
theorem St.E4(X:St ρ H L m h)(e:h.get? a=none):rQ L.L a h:=by
 refine⟨e,X.bR.z7 e,λq=>?_⟩
 refine ah X.fr λm' F M=>?_
 refine i3 F.ns λo es ep e2 _=>?_
 rw[q]at e;exact af (e▸e2)
theorem DictAt.of(e:h.get? it=some o)(n:∀xs n,o.data≠.seq xs n):DictAt h (some it):=λa q=>by apply sE q;exact⟨o,e,n⟩
theorem bj.z8(R:bj ρ H h)(S:bO X ρ h ag h')(e:h.get? it=none):∃a o,hX.objs.size<=a+1/\a≠it/\h'.get? a=some o:=by
 refine cG R.top λb o' q eb=>?_
 refine aF (S.live b o' eb) λmQ e'=>?_
 exact⟨b,mQ,q,λz=>by(rw[z,e]at eb;exact af eb),e'⟩
section
variable{A:Around}{L:gj f.cm}{it:Addr}{bp ρ:aC}{s₁ s:Shared}{H₁:AH}{n i:Nat}{ys:Nat->U}{G:Nat->aC->Heap->Prop}{Ok:AH->Prop}
theorem l6.next(Y:l6 L it bp s₁ ρ H m s)(K:rQ L.L it s₁.heap)(e:s.heap.get? it=some o)(en:∀xs n,o.data≠.seq xs n)(eb:Heap.ExtBut it s.heap h')(e':h'.get? it=some o'):
  l6 L it bp s₁ ρ H m {s with heap:=h',toks:=tk}/\bO (some it) ρ s.heap ρ h':=by
 refine aO (Y.X.bR.ou e en Y.fr K.b eb e') λR S=>?_
 exact⟨⟨Y.X.ou K.ne R S.c9 (.of e en),Y.S.ou K.h S,⟨Y.z.gens,Y.z.os⟩,Y.fr⟩,S⟩
theorem E5(IG:kA A L.L it n ys G Ok)(K:rQ L.L it s₁.heap)(fA:bj bp H₁ s₁.heap)(Y:l6 L it bp s₁ ρ H m s)(hi:i<=n)(g:G i ρ s.heap)(ok:Ok H)(hk:f.cs.kind=.function)(hl:f.kind x=some .local)
  {N:Shared->Prop}
  (more:i<n->∀bw,l6 L it bp s₁ ρ H ((x,ys i)::m) bw->G (i+1) ρ bw.heap->Bd () bw)
  (stop:i=n->∀bw,St ρ H L m bw.heap->bO (some L.L) bp s₁.heap ρ bw.heap->dH s₁ bw->N bw):
  wpAny (model bX wX) A (pyNext (.ref it)) (λr bw=>match r with
   |none=>N bw
   |some v=>wpAny (model bX wX) A (assign (.Name x xp) (f.env L) v) Bd E bw) E' s:=by
 refine ah (IG.at_ _ _ _ g) λo e en=>?_
 by_cases aR:i<n
 ·refine IG.item i ρ H s _ _ aR g ok Y.X.bR λh' tk v o' eb e' q=>?_
  refine aO (Y.next K (tk:=tk) e en eb e') λY' S=>?_
  refine aO (q S (.of e en)) λg' r=>?_
  dsimp only;rw[arm_assign_Name];exact afA (ag9 (ahf (pZ Y'.X r (λdK i4 dZ fO=>more aR dK ⟨i4,Y'.S.trans dZ,Y'.z.trans fO,Y.fr⟩ (IG.step _ _ _ _ _ g' Y.fr K.ne dZ Y'.X.dict)) hk hl)))
 ·have q:i=n:=Nat.le_antisymm hi (ahg.mp aR);refine IG.last ρ H s _ _ (q▸g) ok Y.X.bR λh' eb=>stop q {s with heap:=h'} ?_ (Y.S.last K.h eb) ⟨Y.z.gens,Y.z.os⟩
  exact Y.X.ou K.ne (Y.X.bR.last e en Y.fr K.b eb (fA.z8 Y.S K.h)) (gY.tX eb) (.of e en)
inductive LJ{cm:List (Str×Loc)}(L:gj cm)(it:Addr)(bp:aC)(s₁:Shared)(n:Nat)(I:Nat->Lo->AH->Prop)(G:Nat->aC->Heap->Prop):Nat->Shared->Prop
 |mk {i:Nat} {ρ:aC} {m:Lo} {H:AH} {s:Shared} (hi:i<=n) (hI:I i m H) (Y:l6 L it bp s₁ ρ H m s) (g:G i ρ s.heap):LJ L it bp s₁ n I G (n-i) s
theorem E6{body iG:List Stmt}{I:Nat->Lo->AH->Prop}(IG:kA A L.L it n ys G Ok)(Pf:∀i m' H',I i m' H'->Ok H')(hx:eT f x .local)(room:eS A d)
  (turn:∀i m' H',I i m' H'->i<n->bG d f ((x,ys i)::m') H' body λfl fw bH=>match fl with
    |.next|.cont=>I (i+1) fw bH
    |.brk=>Q .next fw bH
    |.ret v=>Q (.ret v) fw bH)
  (done:∀m' H',I n m' H'->bG d f m' H' iG Q)
  (K:rQ L.L it s₁.heap)(fA:bj bp H₁ s₁.heap)(Y:l6 L it bp s₁ ρ H m s)(i0:I 0 m H)(g:G 0 ρ s.heap)
  (p:rJ L bp s₁ Q λfl s'=>R (.ok fl) s'):codeAny (model bX wX) A (.forLoop (.Name x xp) (.ref it) body iG (f.env L)) R s:=by
 refine codeAny_forLoop (LJ L it bp s₁ n I G) (λk s hJ=>?_) n (.mk (afw _) i0 Y g) (λ_=>rfl)
 induction hJ with|mk hi hI Y g=>
 refine E5 IG K fA Y hi g (Pf _ _ _ hI) hx.fn hx.kind (λaR bw rR E7=>?_) λe bw iH bF cS=>done _ _ (e▸hI) A _ L bw _ _ room iH (p.after bF cS)
 refine turn _ _ _ hI aR A _ L bw _ _ room rR.X λfl Ph jC qb mY lx ly oD kz uj z9=>?_
 refine ah (IG.at_ _ _ _ E7) λo e _=>?_
 have uk:l6 L it bp s₁ jC mY qb lx:=⟨oD,rR.S.trans kz,rR.z.trans uj,kz.free rR.fr e⟩;have J:=λq:I (_+1) qb mY=>(⟨_,agD aR (afY _),.mk aR q uk (IG.step _ _ _ _ _ E7 rR.fr K.ne kz rR.X.dict)⟩:∃k,k<n-_/\LJ L it bp s₁ n I G k lx)
 induction z9 with
 |next=>exact J ly
 |cont=>exact J ly
 |brk=>exact p _ _ _ _ _ _ ly oD uk.S uk.z .next
 |ret rr=>exact p _ _ _ _ _ _ ly oD uk.S uk.z (.ret rr)
end
theorem IsListIter.E8{h:Heap}(x:h.IsListIter it a i):∃o,h.get? it=some o/\∀xs n,o.data≠.seq xs n:=by
 refine cC x λo e c dd=>?_
 exact⟨o,e,λxs n z=>by replace z:=dd▸z;cases z⟩
theorem kA.list{A:Around}(hh:A.handled=none):kA A L it xs.length (λi=>xs.getD i .none) (λi ρ h=>RelV h ρ v (.ref a)/\h.IsListIter it a i) (λH=>d8 H v xs) where
 at_:=λi ρ h g=>IsListIter.E8 g.2
 step:=λi ρ h ag h' g fr ne S D=>⟨g.1.step S D,g.2.at λo e=>S.keep it o e fr λq=>ne (ack q).symm⟩
 item:=λi ρ H s Q E aR g I R q=>by
  refine dX (I.at R g.1) λa' vs n e' ho rl=>?_
  cases e';refine ah (rl.get (afq aR)) λv' e1 rv=>?_
  refine wpAny_pyNext_list_item g.2 ho.isList (x:=v') (by simpa using e1) λh' rS sb=>?_
  refine ah (IsListIter.E8 rS) λo' e' _=>?_
  refine q h' _ v' o' sb.extBut e' λS D=>⟨⟨g.1.step S D,rS⟩,?_⟩
  show RelV h' ρ (xs.getD i .none) v';rw[agm,afq aR];exact rv.step S D
 last:=λρ H s Q E g I R q=>by
  refine cps λG k=>?_
  refine dX (I.at R g.1) λa' vs n e' ho rl=>?_
  refine k ?_;cases e';exact wpAny_pyNext_list_end hh g.2 ho.isList (by simp[rl.length]) q
theorem Ex.forIn{Q:Fl->Lo->AH->Prop}(hx:eT f x .local)(I:Nat->Lo->AH->Prop)(xs:List U)
  (h:aQ d f m H iter λv H₁=>I 0 m H₁/\∀i m' H',I i m' H'->d8 H' v xs)
  (turn:∀i y m' H',I i m' H'->xs[i]?=some y->bG d f ((x,y)::m') H' body λfl fw bH=>match fl with
    |.next|.cont=>I (i+1) fw bH
    |.brk=>Q .next fw bH
    |.ret v=>Q (.ret v) fw bH)
  (done:∀m' H',I xs.length m' H'->bG d f m' H' iG Q)
  (hs:pX iter=true:=by with_unfolding_all exact rfl):
  dh d f m H (.For (.Name x xp) iter body iG pos) Q:=
 λA ρ L s Qc E room X p=>wpAny_For (h A ρ L s _ E room X λv u bp H₁ s₁ q R S z r=>by
  refine aO q λi0 hI=>?_
  refine dX ((hI _ _ _ i0).at R r) λa vs n bx ho rl=>?_;subst bx
  have fZ:=X.bY R S;have K:=fZ.E4 (ku s₁.heap);refine wpAny_pyIter_list ho.isList ?_;refine E6 (s₁:=s₁) (kA.list room.1) hI hx room (λi m' H' i2 aR=>turn i _ m' H' i2 (by rw[agm,afq aR];rfl)) done K R
   ⟨fZ.bY (R.push _) (Step.push _),.weak (Step.push _),⟨rfl,rfl⟩,λl e=>R.lg l e⟩ i0 ⟨r.step (Step.push _) .none,_,afW _ rfl,rfl,rfl⟩ (p.after (.weak S) z)) (λ_=>zM hs)
end
theorem Pj(h0:-1000000<=n)(h1:n<=1000000):Builtin.Range.small 0 n 1=true/\Builtin.Range.rangeSize 0 n 1=(n.toNat:Int):=by
 have e:Builtin.Range.rangeSize 0 n 1=(n.toNat:Int):=by
  unfold Builtin.Range.rangeSize;simp only[show(1:Int)>0 by decide,if_true]
  split<;>lia
 refine⟨?_,e⟩;unfold Builtin.Range.small;rw[e];unfold Builtin.Range.rangeFitsLong;simp only[show(1:Int)>0 by decide,if_true,Bool.and_eq_true,Bool.or_eq_true,decide_eq_true_eq]
 refine⟨⟨⟨⟨?_,?_⟩,?_⟩,?_⟩,.inr ?_⟩<;>lia
theorem small_down(h0:-1<=a)(h1:a<=1000000):Builtin.Range.small a (-1) (-1)=true/\Builtin.Range.rangeSize a (-1) (-1)=((a+1).toNat:Int):=by
 have e:Builtin.Range.rangeSize a (-1) (-1)=((a+1).toNat:Int):=by
  unfold Builtin.Range.rangeSize;simp only[show¬((-1:Int)>0) by decide,if_false,Int.neg_neg,Int.ediv_one]
  split<;>lia
 refine⟨?_,e⟩;unfold Builtin.Range.small;rw[e];unfold Builtin.Range.rangeFitsLong;simp only[show¬((-1:Int)>0) by decide,if_false,Bool.and_eq_true,Bool.or_eq_true,decide_eq_true_eq]
 refine⟨⟨⟨⟨?_,?_⟩,?_⟩,?_⟩,.inr ?_⟩<;>lia
inductive l7:List U->Int->Int->Int->Nat->Prop
 |up {n:Int} (h0:-1000000<=n) (h1:n<=1000000):l7 [.int n] 0 n 1 n.toNat
 |down {a:Int} (h0:-1<=a) (h1:a<=1000000):l7 [.int a,.int (-1),.int (-1)] a (-1) (-1) (a+1).toNat
theorem l7.size(h:l7 xs a b c n):Builtin.Range.small a b c=true/\Builtin.Range.rangeSize a b c=(n:Int):=by
 induction h with
 |up h0 h1=>exact Pj h0 h1
 |down h0 h1=>exact small_down h0 h1
section
variable{d:Nat}{f:aP}{m:Lo}{H:AH}
theorem Pk(hx:l7 xs a b c n)(r:aZ s.heap ρ xs vs)
  (h:∀t u v tk,Q (.ref s.heap.objs.size) {s with heap:=s.heap.push {cls:=.type "range",data:=.fields #[.int a t,.int b u,.int c v]},toks:=tk}):wpAny (model bX wX) A (call (.type "range") vs) Q E s:=by
 induction hx with
 |up=>
  refine ah r.one λv bb r1=>?_;subst bb
  refine r1.k λ_=>?_
  exact call_range_1 (h _ _ _ _)
 |down=>
  refine tV r.three λv1 v2 v3 bx r1 r2 r3=>?_;subst bx
  refine r1.k λ_=>?_;refine r2.k λ_=>?_;refine r3.k λ_=>?_
  exact call_range_3 (by decide) (h _ _ _ _) (.inl (PyProof.noPylong_small (by decide)))
theorem kA.range(hh:A.handled=none):kA A L it n (λi=>.int (a+i*c)) (λi ρ h=>IsRangeIter h it (a+i*c) ((n:Int)-i) c) (λH=>True) where
 at_:=λi ρ h g=>⟨_,g,λ_ _ q=>by cases q⟩
 step:=λi ρ h ag h' g fr ne S D=>S.keep it _ g fr λq=>ne (ack q).symm
 item:=λi ρ H s Q E aR g I R q=>by
  refine wpAny_pyNext_range_item g (Int.sub_pos_of_lt (agP.mpr aR)) λh' rS sb=>?_
  have e1:a+i*c+c=a+((i+1:Nat):Int)*c:=by rw[Int.natCast_add,Int.add_mul,Int.add_assoc];exact afp (λz=>a+(i*c+z)) (Int.one_mul c).symm
  have e2:(n:Int)-i-1=(n:Int)-((i+1:Nat):Int):=Int.sub_sub ..;rw[e1,e2]at rS;exact q h' _ _ _ sb.extBut rS λS D=>⟨rS,.int _ _⟩
 last:=λρ H s Q E g I R q=>wpAny_pyNext_range_end hh g (Int.le_of_eq (Int.sub_self _)) q
theorem Ex.Aa(a b c:Int)(n:Nat)(I:Nat->Lo->AH->Prop)
  (hm:ia rx (.type "range"))(hx:eT f x .local)(E9:eT f rx .globalImplicit)
  (h:fY d f m H args λxs H₁=>l7 xs a b c n/\I 0 m H₁)
  (turn:∀i m' H',I i m' H'->i<n->bG d f ((x,.int (a+i*c))::m') H' body λfl fw bH=>match fl with
    |.next|.cont=>I (i+1) fw bH
    |.brk=>Q .next fw bH
    |.ret v=>Q (.ret v) fw bH)
  (done:∀m' H',I n m' H'->bG d f m' H' iG Q)
  (hp:fQ args=true:=by with_unfolding_all exact rfl):
  dh d f m H (.For (.Name x xp) (.Call (.Name rx rp) args [] cp) body iG pos) Q:=
 λA ρ L s Qc E room X p=>wpAny_For (by
  show wpAny _ _ (do callWith cp (<-eval (.Name rx rp) (f.env L)) [] (backTo cp (starEach args (f.env L))) (backToKw cp (keywordEach [] (f.env L)))) _ _ _;refine afA ?_;have F:=X.fr.choose_spec.1;refine lU X.bR.bs.top λ_ _ mg mb T=>?_
  refine Name_function_global (f.lh hx.fn) (f.kindOf E9.kind) (loadGlobal_builtin (by rw[(f.ok L.L L.cl).globals];exact T.g.keeps F.keep) (mg_none_of X.bR.bs.X T.g hm.lj) (by rw[(f.ok L.L L.cl).builtins];exact T.b.keeps F.keep) ((T.builtins rx hm.ne).trans hm.val) ?_) E9.nd
  refine ET (P:=λ_=>True) hp EU (h A ρ L s _ E cp room X λxs vs bp H₁ s₁ q R S z r=>⟨afL,?_⟩)
  refine Pk q.1 r λt u v tk=>?_
  have fZ:=X.bY R S;have hc:Builtin.Range.small a b c=true/\Builtin.Range.rangeSize a b c=(n:Int):=q.1.size;generalize Ab:({cls:=.type "range",data:=.fields #[.int a t,.int b u,.int c v]}:Obj)=ob;have hr:IsRange (s₁.heap.push ob) s₁.heap.objs.size a b c t u v:=by exact Ab▸afW _ rfl
  refine wpAny_pyIter_range (s:={s₁ with heap:=s₁.heap.push ob,toks:=tk}) hr hc.1 ?_
  rw[hc.2];have cL:=R.push ob;have bF:Step bp s₁.heap bp (s₁.heap.push ob):=Step.push ob;have iH:=fZ.bY cL bF;refine E6 (s₁:={s₁ with heap:=s₁.heap.push ob,toks:=tk}) (kA.range room.1) (λ_ _ _ _=>afL) hx room turn done (iH.E4 (ku _)) cL
   ⟨iH.bY (cL.push _) (Step.push _),.weak (Step.push _),⟨rfl,rfl⟩,λl e=>cL.lg l e⟩ q.2 ?_ (p.after (.weak (S.trans bF)) ⟨z.gens,z.os⟩)
  show Heap.get? _ _=some _;rw[show a+((0:Nat):Int)*c=a by rw[Int.natCast_zero,Int.zero_mul,Int.add_zero],show(n:Int)-((0:Nat):Int)=n by rw[Int.natCast_zero,Int.sub_zero]]
  exact afW _ rfl) (λ_=>rfl)
end
section
variable{h h':Heap}{ρ:aC}{H:AH}
theorem Step.keeps(k:∀a o,h.get? a=some o->h'.get? a=some o):Step ρ h ρ h':=⟨λ_ _ e=>e,λ_ _ e=>.inl e,λa o e _ _=>k a o e,λa o e=>⟨o,k a o e⟩⟩
theorem bj.keeps(R:bj ρ H h)(k:∀a o,h.get? a=some o->h'.get? a=some o):bj ρ H h':=
 ⟨R.bs,λl ob e=>ah (R.obj l ob e) λa e1 r=>⟨a,e1,r.step (Step.keeps k) .none λ_ q=>k _ _ q⟩,R.low,λl a e=>aF (R.live l a e) λob q=>⟨ob,k _ _ q⟩,R.inj,R.new,λb ob e=>k _ _ (R.base b ob e),cG R.top λa ob q e=>⟨a,ob,q,k _ _ e⟩⟩
end
section
variable{d:Nat}{f:aP}{m:Lo}{H:AH}
theorem Ev.tuple(h:fY d f m H elts λxs H'=>xs.length<=1000000/\Q (.aG xs) H'):aQ d f m H (.Tuple elts k pos) Q:=
 λA ρ L s Qc E room X p=>Tuple_ (h A ρ L s _ E pos room X λxs vs ag H' s' q R S z r=>by
  refine wpAny_newObj_type ?_ (by show vs.toArray.size<=sizeLine;exact ud r.length.symm q.1)
  exact(p.after S z).zK q.2 R (.aG (n:=0) (afW _ rfl) R.lg (r.step (Step.push _) .none)))
theorem Ev.list(h:fY d f m H elts λxs H'=>xs.length<=1000000/\Q (.aw xs) H'):aQ d f m H (.List elts pos) Q:=
 λA ρ L s Qc E room X p=>List_ (h A ρ L s _ E pos room X λxs vs ag H' s' q R S z r=>by
  refine wpAny_newObj_type ?_ (by show vs.toArray.size<=sizeLine;exact ud r.length.symm q.1)
  exact(p.after S z).zK q.2 R (.aw (n:=0) (afW _ rfl) R.lg (r.step (Step.push _) .none)))
theorem gm.alloc(p:gm ρ s Q Qc)(R:bj ρ H s.heap)(hn:H.new l)(hf:ob.isFreed=false)
  (ho:∀ag,Step ρ s.heap ag (s.heap.push ob)->(s.heap.push ob).get? s.heap.objs.size=some ob->gX (s.heap.push ob) ag o s.heap.objs.size)(q:Q (.ae l) (H.add l o)):Qc (.ref s.heap.objs.size) {s with heap:=s.heap.push ob}:=by
 refine aO (R.alloc hn hf ho) λR' S=>?_
 exact p _ _ _ _ {s with heap:=s.heap.push ob} q R' S ⟨rfl,rfl⟩ (.ae (aC.bP ..))
theorem Ev.j0(l:Loc)(h:fY d f m H elts λxs H'=>xs.length<=1000000/\H'.new l/\Q (.ae l) (H'.add l (.list xs))):aQ d f m H (.List elts pos) Q:=
 λA ρ L s Qc E room X p=>List_ (h A ρ L s _ E pos room X λxs vs ag H' s' q R S z r=>by
  refine wpAny_newObj_type ?_ (by show vs.toArray.size<=sizeLine;exact ud r.length.symm q.1)
  exact(p.after S z).alloc (o:=.list xs) R q.2.1 rfl (λot S' e=>⟨vs,0,e,r.step S' .none⟩) q.2.2)
theorem Call.len(I:d8 H x xs)(hs:xs.length<=1000000)(q:Q (.int xs.length) H):aU d (.builtin "len") [x] H Q:=
 λA ρ s vs Qc E room R rv p=>by
  refine ah rv.one λv bb r=>?_;subst bb
  refine dX (I.at R r) λa us n bx ho rl=>?_;subst bx
  have le:=rl.length;refine len_list ho.isList (by rw[afC];lia) ?_
  rw[afC,<-le];exact p.toks q R (.int _ _)
noncomputable def rU (k:Str):Value->Bool
 |.str x _=>x==k
 |_=>false
theorem aZ.strs{k:Str}:∀{ss:List Str} {vs:List Value},aZ h ρ (ss.map U.str) vs->(∀y∈vs,∃i t,y=.str i t)/\vs.any (rU k)=ss.any (·==k):=λ{ss}=>by
 induction ss with
 |nil=>exact λr=>by rw[r.pV];exact⟨λ_ h=>(nomatch h),rfl⟩
 |cons x r ih=>
  intro vs q;refine cK q.un λv ws aM a b=>?_;subst aM
  refine aF a.zH λt bb=>?_;subst bb
  refine aO (ih b) λp q=>?_
  exact⟨afV.mpr ⟨⟨x,t,rfl⟩,p⟩,by rw[ag8,ag8,q];rfl⟩
theorem aZ.Fb{k:Int}:∀{ns:List Int} {vs:List Value},aZ h ρ (ns.map U.int) vs->(vs.any (uf k))=ns.any (·==k):=λ{ns}=>by
 induction ns with
 |nil=>exact λr=>by rw[r.pV];rfl
 |cons x r ih=>
  intro vs q;refine cK q.un λv ws aM a b=>?_;subst aM
  refine aF a.zI λt bb=>?_;subst bb
  rw[ag8,ag8,ih b];rfl
theorem wM:SeqAt.EqAt A s (.str x t) (.str k u) (x==k):=λbX wX E Q hq=>by
 refine wpAny_eqBool_str ?_;have:decide (x=k)=(x==k):=by
  by_cases q:x=k
  ·subst q;simp
  ·rw[agK q];exact(aft.mpr q).symm
 exact this▸hq
theorem Op.Pl{ss:List Str}{Q:U->AH->Prop}(q:Q (.bool (ss.any (·==k))) H):br d (compareOp .In) (.str k) (.aG (ss.map U.str)) H Q:=
 λA ρ s a b Qc E room R r r' p=>by
  refine r.k λt=>?_
  refine r'.k λ_ _ _ e f rl=>?_
  refine aO (rl.strs (k:=k)) λh1 h2=>?_
  refine SeqAt.in_tupleAt (rU k) ⟨_,e,rfl,_,rfl⟩ (λy hy=>?_) ?_
  ·refine fN (h1 y (by simpa using hy)) λi u aM=>?_;subst aM
   exact wM
  ·rw[agQ,h2];exact p.here q R (.bool _)
theorem Op.Pm{ss:List Str}{Q:U->AH->Prop}(q:Q (.bool (!ss.any (·==k))) H):br d (compareOp .NotIn) (.str k) (.aG (ss.map U.str)) H Q:=
 λA ρ s a b Qc E room R r r' p=>by
  refine r.k λt=>?_
  refine r'.k λ_ _ _ e f rl=>?_
  refine aO (rl.strs (k:=k)) λh1 h2=>?_
  refine SeqAt.notIn_tupleAt (rU k) ⟨_,e,rfl,_,rfl⟩ (λy hy=>?_) ?_
  ·refine fN (h1 y (by simpa using hy)) λi u aM=>?_;subst aM
   exact wM
  ·rw[agQ,h2];exact p.here q R (.bool _)
theorem Op.Pn{ss:List Str}(I:d8 H x (ss.map U.str))(q:Q (.bool (ss.any (·==k))) H):br d (compareOp .In) (.str k) x H Q:=
 λA ρ s a b Qc E room R r r' p=>by
  refine r.k λt=>?_
  refine dX (I.at R r') λa us n bx ho rl=>?_;subst bx
  refine aO (rl.strs (k:=k)) λh1 h2=>?_
  refine SeqAt.in_listAt (rU k) ho.isList (λy hy=>?_) ?_
  ·refine fN (h1 y (by simpa using hy)) λi u aM=>?_;subst aM
   exact wM
  ·rw[agQ,h2];exact p.here q R (.bool _)
theorem Op.Fd{ns:List Int}(I:d8 H x (ns.map U.int))(q:Q (.bool (ns.any (·==k))) H):br d (compareOp .In) (.int k) x H Q:=
 λA ρ s a b Qc E room R r r' p=>by
  refine r.k λt=>?_
  refine dX (I.at R r') λa us n bx ho rl=>?_;subst bx
  refine aO rl.zZ λh1 _=>?_
  refine SeqAt.in_listAt (uf k) ho.isList (λy hy=>?_) ?_
  ·refine fN (h1 y (by simpa using hy)) λi u aM=>?_;subst aM
   exact(MeetsSeq.EqGives.int i k u t).at _ _
  ·rw[agQ,rl.Fb];exact p.here q R (.bool _)
theorem Op.Po{ns:List Int}(I:d8 H x (ns.map U.int))(q:Q (.bool (!ns.any (·==k))) H):br d (compareOp .NotIn) (.int k) x H Q:=
 λA ρ s a b Qc E room R r r' p=>by
  refine r.k λt=>?_
  refine dX (I.at R r') λa us n bx ho rl=>?_;subst bx
  refine aO rl.zZ λh1 _=>?_
  refine SeqAt.notIn_listAt (uf k) ho.isList (λy hy=>?_) ?_
  ·refine fN (h1 y (by simpa using hy)) λi u aM=>?_;subst aM
   exact(MeetsSeq.EqGives.int i k u t).at _ _
  ·rw[agQ,rl.Fb];exact p.here q R (.bool _)
theorem Call.isStr(q:Q (.bool true) H):aU d (.builtin "isinstance") [.str x,.val (.type "str")] H Q:=
 λA ρ s vs Qc E room R rv p=>by
  refine cK rv.mV λa b aM r1 r2=>?_;subst aM
  refine r1.k λ_=>?_;refine r2.k ?_
  exact IsiPair.str_str (p.here q R (.bool _))
theorem Call.Pp(I:d8 H x xs)(q:Q (.bool false) H):aU d (.builtin "isinstance") [x,.val (.type "str")] H Q:=
 λA ρ s vs Qc E room R rv p=>by
  refine cK rv.mV λa b aM r1 r2=>?_;subst aM
  refine dX (I.at R r1) λa us n bx ho rl=>?_;subst bx
  refine r2.k ?_;exact IsiPair.list_str ho rfl (p.toks q R (.bool _))
theorem Call.Ac(I:d8 H x xs\/x=.aG xs)(hs:xs.length<=1000000)(q:Q (.aw xs) H):aU d (.type "list") [x] H Q:=
 λA ρ s vs Qc E room R rv p=>by
  refine ah rv.one λv bb r=>?_;subst bb
  have fin:∀(us:List Value) (h':Heap) (c':Nat),aZ s.heap ρ xs us->(∀b o',s.heap.get? b=some o'->h'.get? b=some o')->h'.get? s.heap.objs.size=some (tW us c')->Qc (.ref s.heap.objs.size) {s with heap:=h'}:=λus h' c' rl k e=>
   p (.aw xs) (.ref s.heap.objs.size) ρ H {s with heap:=h'} q (R.keeps k) (Step.keeps k) ⟨rfl,rfl⟩ (.aw e R.lg (rl.step (Step.keeps k) .none))
  rcases I with I|rfl
  ·refine dX (I.at R r) λa us n bx ho rl=>?_;subst bx
   exact call_list_seq a (.inl rfl) ho rfl rfl (λh' c' k e=>fin us h' c' rl k e) (by rw[afC,<-rl.length,agF];exact bh hs)
  ·refine r.k λ_ _ _ e f rl=>?_
   exact call_list_seq _ (.inr rfl) e rfl rfl (λh' c' k e=>fin _ h' c' rl k e) (by rw[afC,<-rl.length,agF];exact bh hs)
end
set_option tactic.hygienic true
theorem dB.put(r:RelV h ρ x v):∀{es:List (Str×U)} {ds:List DictEntry},dB h ρ es ds->dB h ρ (fR es k x) (putL k (PyData.keyHash wX.params k) (.str k t) v ds)
 :=λq=>by
 induction q with
 |nil=>exact .cons r .nil
 |@cons k' t' x' v' es ds a b ih=>
  unfold fR putL;by_cases q:k'=k
  ·subst q;rw[if_pos rfl,if_pos (by simp[Value.isStr])]
   exact .cons r b
  ·have:(Value.str k' t').isStr k=false:=by simp[Value.isStr];exact q
   rw[if_neg q];rw[show(DictEntry.mk (PyData.keyHash wX.params k') (.str k' t') v').key.isStr k=false from this];exact .cons a ih
theorem dB.length:∀{es:List (Str×U)} {ds:List DictEntry},dB h ρ es ds->es.length=ds.length:=λq=>
 dB.rec (motive:=λes ds _=>es.length=ds.length) rfl (λ_ _ i=>afp (·+1) i) q
theorem Fe(k:Str)(hs:Int)(key v:Value):∀ds:List DictEntry,(putL k hs key v ds).length<=ds.length+1
 |[]=>afm _
 |e::r=>by
  unfold putL;split
  ·exact agc _
  ·rw[afP,afP];exact afS (Fe k hs key v r)
theorem dB.Pq:∀{es:List (Str×U)} {ds:List DictEntry},dB h ρ es ds->ds.any (·.refKey)=false:=λq=>
 dB.rec (motive:=λes ds _=>ds.any (·.refKey)=false) rfl (λ_ _ i=>i) q
structure gJ(C:Addr)(name:Str):Prop where
 set:findIn kX (.ref C) "__setattr__"=some (some (.builtin "object.__setattr__"))
 over:plainOver kX C=true
 Pr:takerIn kX C name=some .none
 dict:(clsIn kX C).any (·.hasDict)=true
section
variable{d:Nat}{f:aP}{m:Lo}{H:AH}
theorem Pt(X:kX.In s.heap)(SA:gJ C name)
  (I:W.InstAt s.heap x ⟨.ref C,some dx,.plain,#[]⟩ C (some (dictOf ds n)))(hr:ds.any (·.refKey)=false)(hz:ds.length<=1000)
  (h:R (.ok (.ret .none)) {s with heap:=s.heap.update dx (Obj.putName name (PyData.keyHash wX.params name) (.str name s.toks) v),toks:=s.toks+1}):
  codeAny (model bX wX) A (.call (.builtin "object.__setattr__") ⟨[.ref x,.str name tk,v],[]⟩) R s:=by
 refine osa_open X I SA.over SA.Pr λb=>?_
 refine ah (any_some SA.dict) λcd hc oA=>?_
 obtain⟨hx,hcl,hn,D⟩:=I;have D:s.heap.get? dx=some (dictOf ds n):=D;have D':(s.heap.update dx (Obj.putName name (PyData.keyHash wX.params name) (.str name s.toks) v)).get? dx=some (dictOf (putL name (PyData.keyHash wX.params name) (.str name s.toks) v ds) (putN name ds n)):=by
  have:=Heap.get?_update_self (f:=Obj.putName name (PyData.keyHash wX.params name) (.str name s.toks) v) D (by rw[putName_dict];rfl)
  rw[putName_dict]at this;exact this
 refine afA (afM (afA (afA (wpAny_loadPart hx (afA ((looks_clsIn X hc).here ?_))))));rw[oA];refine afM (a:=some dx) (afA (afM (afA ?_)));refine afA (afA (wpAny_askSetting (afM (afA (wpAny_mkText (afA (wpAny_loadPart D ?_)))))));dsimp only;have c:(!ds.toArray.any (·.key.isStr name)&&ds.toArray.any (·.refKey))=false:=by
  have:(ds.toArray.any λx=>x.refKey)=false:=by rw[agQ];exact hr
  rw[this,agO]
 rw[aRefKeyMayBeTheName_at,c];refine wpAny_updatePart D ?_;refine afA (wpAny_lookBehind D' (pastItsLine_dict (by have:=Fe name (PyData.keyHash wX.params name) (.str name s.toks) v ds;rw[afC,agF];exact bh (ads this (Nat.add_le_add_right hz _)))) ?_)
 exact afM h
theorem Op.setAttr{l dl:Loc}(SA:gJ C name)(e1:H.get l=some (.inst C dl))(e2:H.get dl=some (.dict es))(hz:es.length<=1000)
  (q:Q .none (H.set dl (.dict (fR es name v)))):br d (λov v=>do setAttr ov name v;pure .none) (.ae l) v H Q:=
 λA ρ s a b Qc E room R r r' p=>by
  refine cps λG k=>?_
  refine ah (R.obj _ _ e1) λa p1 hh=>ah hh λda q1 r1=>?_
  refine ah (R.obj _ _ e2) λON p2 hh=>cG hh λds n r2 r3=>?_
  refine k ?_;rw[q1]at p2;obtain rfl:=ack p2;refine r.k λ_ e=>?_
  rw[p1]at e;apply sE e;have KX:=R.lq;have IA:W.InstAt s.heap a ⟨.ref C,some da,.plain,#[]⟩ C (some (dictOf ds n)):=⟨r1,rfl,rfl,r2⟩;have le:=r3.length;refine afA (set_plain KX IA SA.set (Pt (s:={s with toks:=s.toks+1}) KX SA IA r3.Pq (by exact le▸hz) ?_))
  refine afM ?_;have sb:=Heap.SameBut.update s.heap da (Obj.putName name (PyData.keyHash wX.params name) (.str name (s.toks+1)) b);have D':(s.heap.update da (Obj.putName name (PyData.keyHash wX.params name) (.str name (s.toks+1)) b)).get? da=some (dictOf (putL name (PyData.keyHash wX.params name) (.str name (s.toks+1)) b ds) (putN name ds n)):=by
   have:=Heap.get?_update_self (f:=Obj.putName name (PyData.keyHash wX.params name) (.str name (s.toks+1)) b) r2 (by rw[putName_dict];rfl)
   rw[putName_dict]at this;exact this
  have S:=Step.same q1 sb D';have rd:dB s.heap ρ (fR es name v) (putL name (PyData.keyHash wX.params name) (.str name (s.toks+1)) b ds):=dB.put r' r3;exact p _ _ ρ _ {s with heap:=_,toks:=s.toks+1+1} q (R.tY q1 sb ⟨_,_,D',rd.step S .none⟩) S ⟨rfl,rfl⟩ .none
noncomputable def bindAll:List Str->List U->Lo->Lo
 |n::ns,x::xs,m=>bindAll ns xs ((n,x)::m)
 |_,_,m=>m
noncomputable def Ff:Expr->Option Str
 |.Name x _=>some x
 |_=>none
theorem Fg(h:Ff e=some x):∃p,e=.Name x p:=by
 induction e using Expr.casesOn with
 |Name y p=>exact⟨p,afp (λz=>Expr.Name z p) (ack h)⟩
 |_=>exact af h
def namesOf:List Expr->Option (List Str)
 |[]=>some []
 |e::r=>(Ff e).bind λx=>(namesOf r).map (x::·)
theorem Fh(hk:f.cs.kind=.function):∀{es:List Expr} {ns:List Str} {xs:List U} {vs:List Value} {m:Lo} {ρ:aC} {s:Shared} {Qc:Unit->Shared->Prop},namesOf es=some ns->(∀x∈ns,eh f.cs.names x .local)->
  xs.length=ns.length->St ρ H L m s.heap->aZ s.heap ρ xs vs->
  (∀s',St ρ H L (bindAll ns xs m) s'.heap->bO (some L.L) ρ s.heap ρ s'.heap->dH s s'->Qc () s')->wpAny (model bX wX) A (assignInOrder ((assignEach es (f.env L)).map (·.2)) vs) Qc E s:=λ{es}=>by
 induction es with
 |nil=>
  intro ns xs vs m ρ s Qc hn _ hl X r h;obtain rfl:=ack hn;obtain rfl:=List.length_eq_zero_iff.mp hl;obtain rfl:=r.pV;exact afM (h s X .refl .refl)
 |cons e es ih=>
  intro ns xs vs m ρ s Qc hn ha hl X r h;refine ah (Option.bind_eq_some_iff.mp hn) λx hx hn=>?_
  refine aF (Fg hx) λp bb=>?_;subst bb
  refine ah (afX.mp hn) λAd Ae aM=>?_;subst aM
  cases xs with
  |nil=>exact nomatch hl
  |cons y ys=>
   refine cK r.un λv ws aM r1 r2=>?_;subst aM
   show wpAny _ _ (do holding _ (assign (.Name x p) (f.env L) _);assignInOrder _ _) _ _ _;refine afA (agX ?_);rw[arm_assign_Name];exact afA (ag9 (ahf (pZ X r1 (λs' X' S' z'=>ih Ae (λy hy=>ha y (.tail _ hy)) (agI hl) X' (r2.step S' X.dict) λfu um qc wN=>h fu um (S'.trans qc) (z'.trans wN)) hk (ha x (.head _)).eq)))
theorem Pu:∀{elts:List Expr} {ns:List Str},namesOf elts=some ns->(assignEach elts env).findIdx? (·.1)=none/\(assignEach elts env).length=ns.length:=λ{es}=>by
 induction es with
 |nil=>exact λhn=>by obtain rfl:=ack hn;exact⟨rfl,rfl⟩
 |cons e es ih=>
  intro ns hn;refine ah (Option.bind_eq_some_iff.mp hn) λx hx hn=>?_
  refine aF (Fg hx) λp bb=>?_;subst bb
  refine ah (afX.mp hn) λAd Ae aM=>?_;subst aM
  refine aO (ih Ae) λi1 i2=>?_
  have e:assignEach (.Name x p::es) env=(false,assign (.Name x p) env)::assignEach es env:=rfl;rw[e,List.findIdx?_cons,i1,afP,afP,i2];exact⟨rfl,rfl⟩
theorem Ex.Pw(hn:namesOf elts=some ns)(ha:∀x∈ns,eh f.cs.names x .local)
  (h:aQ d f m H e λv H'=>∃xs,v=.aG xs/\xs.length=ns.length/\Q .next (bindAll ns xs m) H')
  (hs:jZ e=true:=by with_unfolding_all exact rfl)(hw:∀L,swappedStores [.Tuple elts k Af] e (f.env L)=pure none:=by intros;rfl)(hf:f.isFn=true:=by with_unfolding_all exact rfl):
  dh d f m H (.Assign [.Tuple elts k Af] e pos) Q:=
 have hk:f.cs.kind=.function:=afN hf
 λA ρ L s Qc E room X p=>Assign_Tuple (h A ρ L s _ E room X λv u ag H' s' q R S z r=>by
  obtain⟨xs,rfl,hl,q⟩:=q;refine r.k λvs a n eo fr rl=>?_
  show wpAny _ _ (PySem.assign _ _ _) _ _ _;rw[arm_assign_Tuple];refine afA (ag9 ?_);have hf:=Pu (env:=f.env L) hn;have f9:vs.toArray.size=(assignEach elts (f.env L)).length:=by rw[afC,<-rl.length,hl,hf.2]
  refine afA (agX ?_);rw[<-f9,hf.1];refine unpackItems_tuple room.1 ⟨_,eo,rfl,_,rfl⟩ λh' eb=>?_
  have kk:∀b o,s'.heap.get? b=some o->h'.get? b=some o:=λb o e=>eb b o (λq=>by rw[q,ku]at e;exact af e) e
  have X':=(X.bY R S).bY (R.keeps kk) (Step.keeps kk);exact Fh hk hn ha hl X' (rl.step (Step.keeps kk) .none) λfu um qc wN=>p _ _ ag _ H' fu q um ((bO.weak (S.trans (Step.keeps kk))).trans qc) (z.trans ⟨wN.gens,wN.os⟩) .next) (by unfold swapsWithSole;exact pY hs) (hw L)
end
set_option tactic.hygienic false
section
variable{d:Nat}{f:aP}{m:Lo}{H:AH}
theorem St.le(X:St ρ H L m h)(l:AH.Le H H'):St ρ H' L m h:=⟨X.bR.le l,X.fr,X.free,X.cells⟩
theorem Ex.le(l:AH.Le H H')(h:bG d f m H' ss Q):bG d f m H ss Q:=λA ρ L s Qc E room X p=>h A ρ L s Qc E room (X.le l) p
theorem AH.Le.refl(H:AH):AH.Le H H:=⟨λ_ _ e=>e,λ_ e=>e⟩
theorem AH.Le.trans(a:AH.Le X Y)(b:AH.Le Y Z):AH.Le X Z:=⟨λl o e=>a.get l o (b.get l o e),λl e=>a.new l (b.new l e)⟩
theorem AH.Le.Px(h:AH.Le X Y):AH.Le (X.add l o) (Y.add l o):=⟨λk v e=>by
 by_cases q:k=l
 ·subst q;rw[AH.bP]at e ⊢;exact e
 ·rw[AH.bQ _ _ q]at e ⊢;exact h.get k v e,λk e=>⟨h.new k e.1,e.2⟩⟩
theorem AH.Le.Py{X Y:AH}(gl:∀v,Y.get l=some v->some o=some v)(g:∀x,x≠l->∀v,Y.get x=some v->X.get x=some v)(n:∀x,Y.new x->X.new x)(nl:¬Y.new l):AH.Le (X.add l o) Y:=⟨λx v e=>by
 by_cases q:x=l
 ·subst q;rw[AH.bP];exact gl v e
 ·rw[AH.bQ _ _ q];exact g x q v e,λx e=>⟨n x e,λq=>nl (q▸e)⟩⟩
theorem AH.Le.put{X Y:AH}(h:k≠l)(gl:∀v,Y.get l=some v->some o=some v)(gk:∀v,Y.get k=some v->some u=some v)(g:∀x,x≠l->x≠k->∀v,Y.get x=some v->X.get x=some v)(n:∀x,Y.new x->X.new x)(nl:¬Y.new l):AH.Le ((X.add l o).set k u) Y:=⟨λx v e=>by
 by_cases q:x=k
 ·subst q;rw[AH.rG];exact gk v e
 ·rw[AH.rH _ _ q];by_cases q2:x=l
  ·subst q2;rw[AH.bP];exact gl v e
  ·rw[AH.bQ _ _ q2];exact g x q2 q v e,λx e=>⟨n x e,λq=>nl (q▸e)⟩⟩
theorem eS.le(r:eS A d')(h:d<=d'):eS A d:=⟨r.1,by have:=r.2.1;lia,by have:=r.2.2;lia⟩
theorem Call.gb(h:d<=d')(c:aU d g xs H Q):aU d' g xs H Q:=λA ρ s vs Qc E room R rv p=>c A ρ s vs Qc E (room.le h) R rv p
theorem bj.cell(R:bj ρ H h)(hl:H.get l=some (.cell x))(e:ρ l=some a):∃u,h.IsCell a u/\(match x with|.none=>u=.none|.some x=>∃v,u=.some v/\RelV h ρ x v):=by
 refine ah (R.obj _ _ hl) λa' e' hh=>cK hh λob u ho hd r=>?_
 rw[e]at e';obtain rfl:=ack e';refine⟨u,⟨ob,ho,hd⟩,?_⟩
 induction x<;>exact r
theorem Ev.cell(hc:f.cm.lookup x=some l)(hx:eT f x .cell\/(eT f x .free/\(x==("__classdict__":Str))=false))(hl:H.get l=some (.cell (some v)))(q:Q v H):aQ d f m H (.Name x pos) Q:=
 λA ρ L s Qc E _ X p=>by
  refine ah (X.cells x l hc) λc e1 e2=>?_
  refine ah (X.bR.cell hl e2) λu jB hh=>ah hh λv' bx r=>?_;subst bx
  rcases hx with hx|hx
  ·exact wpAny_Name (wpAny_loadName_cell (f.lh hx.fn) (f.kindOf hx.kind) (by rw[(f.ok L.L L.cl).cells];exact e1) jB (p.here q X.bR r)) hx.nd
  ·exact wpAny_Name (wpAny_loadName_free (f.lh hx.1.fn) (f.kindOf hx.1.kind) (by rw[(f.ok L.L L.cl).cells];exact e1) jB (p.here q X.bR r) hx.2) hx.1.nd
theorem Pz(X:St ρ H L m s.heap)(r:RelV s.heap ρ av v)
  (hc:f.cm.lookup x=some l)(hl:H.get l=some (.cell Ag))(h:∀s',St ρ (H.set l (.cell (some av))) L m s'.heap->Step ρ s.heap ρ s'.heap->dH s s'->Qc () s')
  (hk:f.cs.kind=.function)(hx:f.kind x=some .cell):wpAny (model bX wX) A (storeName (f.env L) x v) Qc E s:=by
 refine ah (X.cells x l hc) λc e1 e2=>?_
 refine ah (X.bR.cell hl e2) λu jB _=>?_
 refine wpAny_storeName_cell (f.lh hk) (f.kindOf hx) (by rw[(f.ok L.L L.cl).cells];exact e1) jB λh' PA sb=>?_
 refine ah PA λob ho hd=>?_
 have S:=Step.same (h:=s.heap) (h':=h') e2 sb ho;have R':=X.bR.tY e2 sb (o:=.cell (some av)) ⟨ob,some v,ho,hd,v,rfl,r.step S .none⟩;exact h {s with heap:=h'} (X.bY R' S) S ⟨rfl,rfl⟩
theorem Ex.wO(hc:f.cm.lookup x=some l)(hx:eT f x .cell)(h:aQ d f m H e λv H'=>(∃Ag,H'.get l=some (.cell Ag))/\Q .next m (H'.set l (.cell (some v))))
  (hs:jZ e=true:=by with_unfolding_all exact rfl):
  dh d f m H (.Assign [.Name x rL] e pos) Q:=
 λA ρ L s Qc E room X p=>wpAny_Assign_Name (h A ρ L s _ E room X λy v ag H' s' q R S z r=>by
  obtain⟨⟨Ag,hl⟩,q⟩:=q;exact Pz (X.bY R S) r hc hl (λbw iH bF cS=>p _ _ ag _ _ bw q iH (.weak (S.trans bF)) (z.trans cS) .next) hx.fn hx.kind) (pY hs)
theorem d0.noDict{s:Shared}(h:d0 H x T)(R:bj ρ H s.heap)(r:RelV s.heap ρ x v):∀a,v=.ref a->∃o,s.heap.get? a=some o/\o.dict=none:=by
 induction h with
 |list e=>
  refine kr (R.list e r) λa vs n bx _ ho _ _=>?_;subst bx
  exact λ_ q=>Value.ref.inj q▸⟨_,ho,rfl⟩
 |map e=>
  refine ah (R.obj _ _ e) λa e1 h=>cC h λkvs hd _ _=>?_
  refine r.k λ_ e'=>?_
  rw[e1]at e';apply sE e';exact λ_ q=>Value.ref.inj q▸dX hd λo es ep e1 ex _=>⟨o,e1,ex.2.1⟩
 |aw=>exact r.k λ_ _ _ e _ _ _ q=>Value.ref.inj q▸⟨_,e,rfl⟩
 |aG=>exact r.k λ_ _ _ e _ _ _ q=>Value.ref.inj q▸⟨_,e,rfl⟩
 |str=>exact r.k λ_ _ q=>nomatch q
theorem Ev.uo{name:Str}{T id:String}(slot:Slot T name id)(pa:PlainAttrs T)(mZ:typeOf (.builtin id)=pure (.type "method_descriptor"))
  (h:aQ d f m H o λx H'=>d0 H' x T/\fY d f m H' args λxs bg=>aU d (.builtin id) (x::xs) bg Q)
  (hx:lr o ib pos args=true:=by with_unfolding_all exact rfl):aQ d f m H (.Call (.Attribute o name ib) args [] pos) Q:=
 fb (zR hx) λho hl hp hn=>
 λA ρ L s Qc E room X p=>zQ ho hl hp hn (h A ρ L s _ E room X λx v ag H' s' q R S z r=>by
  refine aO q λhT q=>?_
  intro pl;refine getMethod_builtin (hT.typeIs R r) pa slot mZ (hT.noDict R r) ?_;exact t8 (fx:=[x]) (.ll id) hp q room (X.bY R S) (.cons r .nil) (p.after S z))
theorem Ev.Ah{id:String}(slot:Slot "list" name id)(mZ:typeOf (.builtin id)=pure (.type "method_descriptor"))
  (h:aQ d f m H o λx H'=>d0 H' x "list"/\fY d f m H' args λxs bg=>aU d (.builtin id) (x::xs) bg Q)
  (hx:lr o ib pos args=true:=by with_unfolding_all exact rfl):aQ d f m H (.Call (.Attribute o name ib) args [] pos) Q:=
 Ev.uo slot PySem.F.plainAttrs_list mZ h hx
theorem Op.slice{lo hi:Option Int}{value slice:Expr}(I:d8 H x xs)(hs:xs.length<=1000000)(pl:IsPart vl lo)(pu:IsPart vu hi)
  (PB:∀vs:List Value,vs.length=xs.length->∃i j,slicePick vs.toArray lo hi none=((vs.drop i).take j).toArray/\ys=(xs.drop i).take j)(PC:∃a b p,slice=.Slice a b .none p)
  (R:bj ρ H s.heap)(r:RelV s.heap ρ x v)(p:gm ρ s Q Qc)(q:Q (.aw ys) H):
  wpAny (model bX wX) A (subscriptTail value slice v (.ref s.heap.objs.size)) Qc E {s with heap:=s.heap.push {cls:=.type "slice",data:=.fields #[vl,vu,.none]}}:=by
 refine dX (I.at R r) λa us n bx ho rl=>?_;subst bx
 have le:=rl.length;refine cG (PB us le.symm) λi j e1 bx=>?_;subst bx
 have mX:IsL (s.heap.push {cls:=.type "slice",data:=.fields #[vl,vu,.none]}) a us.toArray n:=afy _ ho;refine kq PC λea eb ep bx=>?_;subst bx
 refine tail_any (T:="list") (s:={s with heap:=s.heap.push {cls:=.type "slice",data:=.fields #[vl,vu,.none]}}) ⟨_,mX,rfl⟩ list_getitem_lookup (wpAny_getItem_list_slice mX.isList (Heap.IsSliceOf.new ..) pl pu .none (by decide) ?_ (by rw[afC,<-le,agF];exact ads ‹_› (by decide))) rfl
 rw[e1];have S1:Step ρ s.heap ρ (s.heap.push {cls:=.type "slice",data:=.fields #[vl,vu,.none]}):=Step.push _;have R1:=R.push {cls:=.type "slice",data:=.fields #[vl,vu,.none]};exact(p.after (s':={s with heap:=s.heap.push {cls:=.type "slice",data:=.fields #[vl,vu,.none]}}) S1 ⟨rfl,rfl⟩).zK q R1
  (.aw (n:=0) (afW _ rfl) R1.lg ((((rl.drop i).take j).step S1 .none).step (Step.push _) .none))
theorem Ev.Fi{value lo:Expr}
  (h:aQ d f m H value λx H₁=>aQ d f m H₁ lo λy bH=>∃xs i,d8 bH x xs/\y=.int (i:Nat)/\i<=xs.length/\xs.length<=1000000/\Q (.aw (xs.drop i)) bH):aQ d f m H (.Subscript value (.Slice (some lo) .none .none sp) pos) Q:=
 λA ρ L s Qc E room X p=>Subscript_ (h A ρ L s _ E room X λx v bp H₁ s₁ q R S z r=>wpAny_Slice (q A bp L s₁ _ E room (X.bY R S) λy u de bH bw dm cL bF cS eU=>by
  refine cps λG k=>?_
  obtain⟨xs,i,I,rfl,hi,hs,dm⟩:=dm;refine k ?_;refine eU.k λt=>?_
  refine afM (afM ?_);exact Op.slice (lo:=some (i:Int)) (hi:=.none) I hs (.int _ _) .none (λvs e=>⟨i,vs.length-i,by rw[slicePick_from _ i (by rw[afC,e];exact hi),agG (by simp)],by rw[e,agG (by simp)]⟩) ⟨_,_,_,rfl⟩ cL (r.step bF .none) (p.after (S.trans bF) (z.trans cS)) dm))
end
theorem bj.wQ(R:bj ρ H h)(hn:H.new l)(ha:h.get? a=some ob)(hs:∀xs n,ob.data≠.seq xs n)(hf:∀x,ρ x≠some a)(hb:hX.get? a=none)
  (ho:gY (some a) ρ h (ρ.add l a) h->gX h (ρ.add l a) o a):bj (ρ.add l a) (H.add l o) h/\gY (some a) ρ h (ρ.add l a) h:=by
 have hl:=R.new l hn;have M:gY (some a) ρ h (ρ.add l a) h:=⟨λx b e=>by
   by_cases q:x=l
   ·subst q;rw[hl]at e;exact af e
   ·rw[aC.bQ _ _ q];exact e,λb o e f x y=>by
   by_cases q:y=l
   ·subst q;rw[aC.bP];exact x
   ·rw[aC.bQ _ _ q];exact f y,λb o e _ _=>e⟩
 refine⟨⟨R.bs,λx o' e=>?_,λx b e=>?_,λx b e=>?_,λx y b e1 e2=>?_,λx e=>?_,R.base,R.top⟩,M⟩
 ·by_cases q:x=l
  ·subst q;rw[AH.bP]at e;apply sE e;exact⟨a,aC.bP ..,ho M⟩
  ·rw[AH.bQ _ _ q]at e;refine ah (R.obj x o' e) λb e1 r=>?_
   exact⟨b,(aC.bQ _ _ q).trans e1,r.c9 M (λc z=>by apply sE z;exact⟨ob,ha,hs⟩) λ_ z=>z⟩
 ·by_cases q:x=l
  ·subst q;rw[aC.bP]at e;obtain rfl:=ack e;exact hb
  ·rw[aC.bQ _ _ q]at e;exact R.low x b e
 ·by_cases q:x=l
  ·subst q;rw[aC.bP]at e;apply sE e;exact⟨ob,ha⟩
  ·rw[aC.bQ _ _ q]at e;exact R.live x b e
 ·by_cases q:x=l
  ·by_cases q':y=l
   ·rw[q,q']
   ·subst q;rw[aC.bP]at e1;rw[aC.bQ _ _ q']at e2;obtain rfl:=ack e1;exact absurd e2 (hf y)
  ·by_cases q':y=l
   ·subst q';rw[aC.bP]at e2;rw[aC.bQ _ _ q]at e1;obtain rfl:=ack e2;exact absurd e1 (hf x)
   ·rw[aC.bQ _ _ q]at e1;rw[aC.bQ _ _ q']at e2;exact R.inj x y b e1 e2
 ·rw[aC.bQ _ _ e.2];exact R.new x e.1
theorem Ai:∀{bs:List (Str×Value)} {m:Str->Option Value},(∀p∈bs,k p.1=some .local)->∀{xs:List (Str×U)} {h:Heap} {ρ:aC} {mm:Lo},bW h ρ xs bs->RelM h ρ mm m->RelM h ρ (xs.reverse++mm) (bindL k bs m)
 |[],m,_,_,_,_,_,.nil,M=>M
 |(n,v)::r,m,hk,_,h,ρ,mm,.cons (x:=x) (xs:=xs) a b,M=>by
  unfold bindL;rw[if_pos (hk _ (.head _)),agC,afs];refine Ai (λp hp=>hk p (.tail _ hp)) b λy av e=>?_
  rw[List.singleton_append,l4]at e;by_cases q:y=n
  ·subst q;rw[if_pos rfl]at e;apply sE e;exact⟨v,if_pos rfl,a⟩
  ·rw[if_neg q]at e;refine ah (M y av e) λu e1 e2=>?_
   exact⟨u,(if_neg q).trans e1,e2⟩
theorem Aj:∀{bs:List (Str×Value)} {m:Str->Option Value},(∀p∈bs,k p.1=some .local)->bindC k bs m=m
 |[],m,_=>rfl
 |(n,v)::r,m,hk=>by
  unfold bindC;rw[if_pos (hk _ (.head _))];exact Aj λp hp=>hk p (.tail _ hp)
section
variable{d:Nat}{f:aP}{m:Lo}{H:AH}
noncomputable def qd (s:Scope):Bool:=!s.isCoroutine&&!s.isGenerator&&decide (s.kind=.function)
theorem Ak(h:qd s=true):s.isCoroutine=false/\s.isGenerator=false/\s.kind=.function:=by
 unfold qd at h;rw[afi,afi,afO,afH,afH]at h;exact⟨h.1.1,h.1.2,h.2⟩
noncomputable def oF:Flow->Value
 |.ret v=>v
 |_=>.none
theorem PD(S:Step ρ s.heap bp cM)(p:gm ρ s Q Qc)
  (q:∃bg,AH.Le H' bg/\Q fl.val bg)(X':St ag H' (cm:=cm) ⟨s.heap.objs.size,cl⟩ m' s'.heap)(S':bO (some s.heap.objs.size) bp cM ag s'.heap)(z':dH {s with heap:=cM,toks:=tk} s')(r':pW s'.heap ag fl v):
  Qc (oF v) s':=by
 have SS:Step ρ s.heap ag s'.heap:=((bO.weak S).trans S').fresh (ku _);obtain⟨bg,le,q⟩:=q
 induction r' with
 |next=>exact p _ _ ag bg s' q (X'.bR.le le) SS ⟨z'.gens,z'.os⟩ .none
 |brk=>exact p _ _ ag bg s' q (X'.bR.le le) SS ⟨z'.gens,z'.os⟩ .none
 |cont=>exact p _ _ ag bg s' q (X'.bR.le le) SS ⟨z'.gens,z'.os⟩ .none
 |ret r=>exact p _ _ ag bg s' q (X'.bR.le le) SS ⟨z'.gens,z'.os⟩ r
theorem wR{h:Heap}(x:h.IsCell c u):∃o,h.get? c=some o/\(∀xs n,o.data≠.seq xs n)/\o.data=.cell u:=by
 refine ah x λo e q=>?_
 exact⟨o,e,λxs n z=>by(replace z:=q▸z;cases z),q⟩
end
noncomputable abbrev S (x:String):Str:=Str.ofString x
noncomputable def ff:Addr:=246
noncomputable def iJ:Addr:=686
noncomputable def cN:Addr:=810
noncomputable def bZ:Addr:=888
structure Nd where
 kind:Str
 dT:Str
 name:Str
 attrs:List U
 text:Str
 bq:Int
 kids:List Int
structure B where
 aa:List Nd
 stack:List Int
 marks:List Int
 mode:Str
 original:Str
 head:Int
 dC:Bool
 dD:Bool
 aH:List (Str×Str)
 pending:List Str
 pk:Nat
 old:Option (List Str)
def g8(x:Str):U:=.aG [.str (S "char"),.str x]
def fg(b:B):List (Str×U):=[(S "rules",.ae .eG),(S "tree",.ae .tree),(S "stack",.ae .stack),(S "formatting",.ae .ft),(S "mode",.str b.mode),(S "original",.str b.original),(S "modes",.ae .pU),(S "head",.int b.head),(S "form",.int (-1)),
 (S "owners",.ae .owners),(S "is_frameset_ok",.bool true),(S "is_scripting",.bool false),(S "is_foster",.bool b.dC),(S "context",.int (-1)),(S "quirks",.str (S "no-quirks")),(S "errors",.ae .aH),(S "pending",.ae (.bN b.pk)),(S "wish",.str (S "")),
 (S "is_skipping",.bool false),(S "is_acknowledged",.bool b.dD),(S "is_done",.bool false)]
def eI:List (Str×U):=[(S "kinds",.ae .dY),(S "spaces",.ae .eR),(S "names",.ae .names),(S "attrs",.ae .attrs),(S "texts",.ae .eg),(S "parents",.ae .dJ),(S "children",.ae .eF),(S "contents",.ae .lW)]
def ng:List (Str×U):=[(S "tree",.ae .tree),(S "items",.ae .items)]
def qe:List (Str×U):=[(S "tree",.ae .tree),(S "items",.ae .iC)]
noncomputable def cF (ns:List Int):List U:=ns.map U.int
noncomputable def bJ (es:List (Str×Str)):List U:=es.map λe=>.aG [.str e.1,.str e.2]
def kC:List (Str×U):=[(S "in caption",.val (.ref 469)),(S "in column group",.val (.ref 490)),(S "in table body",.val (.ref 518)),(S "in row",.val (.ref 546)),(S "in cell",.val (.ref 567)),(S "in table",.val (.ref 406)),(S "in table text",.val (.ref 420)),(S "in body",.val (.ref 921))]
def hp(b:B)(G:AH)(n:Nat):AH where
 get
  |.bC=>some (.inst bZ .cD)
  |.cD=>some (.dict (fg b))
  |.tree=>some (.inst cN .dg)
  |.dg=>some (.dict eI)
  |.dY=>some (.list (b.aa.map λx=>.str x.kind))
  |.eR=>some (.list (b.aa.map λx=>.str x.dT))
  |.names=>some (.list (b.aa.map λx=>.str x.name))
  |.attrs=>some (.list (b.aa.map λx=>.aw x.attrs))
  |.eg=>some (.list (b.aa.map λx=>.str x.text))
  |.dJ=>some (.list (b.aa.map λx=>.int x.bq))
  |.eF=>some (.list ((List.range b.aa.length).map λi=>.ae (.bV i)))
  |.bV i=>(b.aa[i]?).map λx=>.list (cF x.kids)
  |.lW=>some (.map [])
  |.stack=>some (.inst ff .gF)
  |.gF=>some (.dict ng)
  |.items=>some (.list (cF b.stack))
  |.ft=>some (.inst iJ .gH)
  |.gH=>some (.dict qe)
  |.iC=>some (.list (cF b.marks))
  |.pU=>some (.list [])
  |.owners=>some (.map [])
  |.aH=>some (.list (bJ b.aH))
  |.eG=>some (.map kC)
  |.bN k=>if k=b.pk then some (.list (b.pending.map g8))else match b.old with
    |some xs=>if k+1=b.pk then some (.list (xs.map g8))else none
    |none=>none
  |.aK _=>none
  |l=>G.get l
 new
  |.bV i=>b.aa.length<=i
  |.bN k=>b.pk<k
  |.aK k=>n<=k
  |.state=>G.new .state
  |.hZ=>G.new .hZ
  |.tokens=>G.new .tokens
  |.path k=>G.new (.path k)
  |.run k=>G.new (.run k)
  |.bz k=>G.new (.bz k)
  |_=>False
theorem AH.ext{H H':AH}(g:∀l,H.get l=H'.get l)(n:∀l,H.new l↔H'.new l):H=H':=by
 obtain⟨a,b⟩:=H;obtain⟨c,d⟩:=H';have:a=c:=funext g;have:b=d:=funext λl=>propext (n l)
 subst_vars;rfl
theorem AH.eJ{H H':AH}(e:H'.get l=some o)(g:∀x,x≠l->H'.get x=H.get x)(n:∀x,H'.new x↔H.new x):H.set l o=H':=by
 refine AH.ext (λx=>?_) (λx=>(n x).symm)
 by_cases q:x=l
 ·subst q;rw[AH.rG,e]
 ·rw[AH.rH _ _ q,g x q]
theorem AH.wU{H H':AH}(e:H'.get l=some o)(g:∀x,x≠l->H'.get x=H.get x)(n:∀x,H'.new x↔(H.new x/\x≠l)):H.add l o=H':=by
 refine AH.ext (λx=>?_) (λx=>(n x).symm)
 by_cases q:x=l
 ·subst q;rw[AH.bP,e]
 ·rw[AH.bQ _ _ q,g x q]
noncomputable def b9 (xs:List α)(i:Int):Option α:=if 0<=i/\i<1000000 then xs[i.toNat]? else none
theorem jD{α β:Type}{xs:List α}{x:α}{f:α->β}(h:b9 xs i=some x):b9 (xs.map f) i=some (f x):=by
 unfold b9 at h ⊢;split at h
 ·rename_i q;rw[if_pos q,afG,h];rfl
 ·exact af h
theorem gK{α:Type}{xs:List α}{x:α}(h:b9 xs i=some x):∃k:Nat,i=k/\k<1000000/\xs[k]?=some x:=by
 unfold b9 at h;split at h
 ·rename_i q;exact⟨i.toNat,by lia,by lia,h⟩
 ·exact af h
noncomputable def ay (n:Nat):Bool:=decide (n<=900000)
theorem cU(h:n<=900000):ay n=true:=afT h
theorem d9(h:ay n=true):n<=900000:=afN h
def nd(b:B)(i:Int):Option Nd:=b9 b.aa i
def fS(xs:List Int):Option (Int×List Int):=xs.getLast?.bind λx=>if ay xs.length then some (x,xs.dropLast)else none
theorem Al(h:fS xs=some (x,ys)):xs=ys++[x]/\ys.length<1000000:=by
 refine ah (Option.bind_eq_some_iff.mp h) λy h1 h2=>?_
 split at h2
 ·rename_i ok;cases h2;refine aF (agh.mp h1) λys bb=>?_;subst bb
  have:=d9 ok;rw[afl,afF]at this;exact ag5▸⟨rfl,by exact ads ‹_› (by decide)⟩
 ·exact af h2
theorem ig{α:Type}{x:Option α}{r:α}(e:(if c=true then x else none)=some r):c=true/\x=some r:=by
 induction c
 ·rw[if_neg (by decide)]at e;exact af e
 ·rw[if_pos rfl]at e;exact⟨rfl,e⟩
section
variable{d:Nat}{f:aP}{m:Lo}{H:AH}
theorem Op.lz(I:d8 H x xs)(e:b9 xs i=some y)(q:Q y H):br d getItem x (.int i) H Q:=by
 obtain⟨k,rfl,hk,e⟩:=gK e;exact Op.item I hk e q
theorem Set.Am(hl:H.get l=some (.list xs))(e:b9 xs i=some y)(hs:ay xs.length=true)(q:Q (H.set l (.list (xs.set i.toNat v)))):l5 d (.ae l) (.int i) v H Q:=by
 obtain⟨k,rfl,hk,e⟩:=gK e;obtain⟨hi,_⟩:=afk.mp e;exact Set.list hl hi (by have:=d9 hs;exact ads ‹_› (by decide)) q
end
section
variable{b:B}{G:AH}{n:Nat}
theorem Fj:f7 (hp b G n) (.ae .bC) bZ (fg b):=⟨.bC,.cD,rfl,rfl,rfl⟩
theorem Fn:f7 (hp b G n) (.ae .tree) cN eI:=⟨.tree,.dg,rfl,rfl,rfl⟩
theorem Fo:f7 (hp b G n) (.ae .stack) ff ng:=⟨.stack,.gF,rfl,rfl,rfl⟩
theorem PE:f7 (hp b G n) (.ae .ft) iJ qe:=⟨.ft,.gH,rfl,rfl,rfl⟩
theorem PF:(hp b G n).set .cD (.dict (fR (fg b) (S "mode") (.str x)))=hp {b with mode:=x} G n:=
 AH.eJ rfl (λl h=>by induction l<;>first|rfl|exact(h rfl).elim) λl=>by induction l<;>exact af5
theorem PG:(hp b G n).set .cD (.dict (fR (fg b) (S "original") (.str x)))=hp {b with original:=x} G n:=
 AH.eJ rfl (λl h=>by induction l<;>first|rfl|exact(h rfl).elim) λl=>by induction l<;>exact af5
theorem PH:(hp b G n).set .cD (.dict (fR (fg b) (S "is_foster") (.bool x)))=hp {b with dC:=x} G n:=
 AH.eJ rfl (λl h=>by induction l<;>first|rfl|exact(h rfl).elim) λl=>by induction l<;>exact af5
theorem PI:(hp b G n).set .cD (.dict (fR (fg b) (S "is_acknowledged") (.bool x)))=hp {b with dD:=x} G n:=
 AH.eJ rfl (λl h=>by induction l<;>first|rfl|exact(h rfl).elim) λl=>by induction l<;>exact af5
theorem PJ:(hp b G n).set .cD (.dict (fR (fg b) (S "head") (.int x)))=hp {b with head:=x} G n:=
 AH.eJ rfl (λl h=>by induction l<;>first|rfl|exact(h rfl).elim) λl=>by induction l<;>exact af5
theorem PK:(hp b G n).set .items (.list (cF xs))=hp {b with stack:=xs} G n:=
 AH.eJ rfl (λl h=>by induction l<;>first|rfl|exact(h rfl).elim) λl=>by induction l<;>exact af5
theorem PL:(hp b G n).set .iC (.list (cF xs))=hp {b with marks:=xs} G n:=
 AH.eJ rfl (λl h=>by induction l<;>first|rfl|exact(h rfl).elim) λl=>by induction l<;>exact af5
theorem PM:(hp b G n).set .aH (.list (bJ xs))=hp {b with aH:=xs} G n:=
 AH.eJ rfl (λl h=>by induction l<;>first|rfl|exact(h rfl).elim) λl=>by induction l<;>exact af5
theorem PN:(hp b G n).set (.bN b.pk) (.list (xs.map g8))=hp {b with pending:=xs} G n:=
 AH.eJ (by show(if b.pk=b.pk then _ else _)=_;rw[if_pos rfl]) (λl h=>by
  induction l with
  |bN k=>
   have:k≠b.pk:=λe=>h (e▸rfl)
   show(if k=b.pk then _ else _)=if k=b.pk then _ else _;rw[if_neg this,if_neg this]
  |_=>first|rfl|exact absurd rfl h) λl=>by induction l<;>exact af5
noncomputable def B.b5 (b:B)(i:Nat)(x:Nd):B:={b with aa:=b.aa.set i x}
theorem rV{α β:Type}{f:α->β}{xs:List α}{x y:α}(e:xs[i]?=some y)(h:f x=f y):(xs.set i x).map f=xs.map f:=by
 apply List.ext_getElem?;intro j;rw[afG,afG,agi];by_cases q:i=j
 ·subst q;rw[if_pos rfl,e];refine aF (afk.mp e) λhi _=>?_
  rw[if_pos hi];simp[h]
 ·rw[if_neg q]
theorem An{x y:Nd}{l:Loc}(e:b.aa[i]?=some y)(hl:(hp (b.b5 i x) G n).get l=some o)
  (hk:l≠.dY->x.kind=y.kind)(hs:l≠.eR->x.dT=y.dT)(hn:l≠.names->x.name=y.name)(ha:l≠.attrs->x.attrs=y.attrs)(ht:l≠.eg->x.text=y.text)(wV:l≠.dJ->x.bq=y.bq)(hc:l≠.bV i->x.kids=y.kids):
  (hp b G n).set l o=hp (b.b5 i x) G n:=by
 have len:(b.aa.set i x).length=b.aa.length:=af6;refine AH.eJ hl (λk h=>?_) λk=>?_
 ·induction k with
  |dY=>show some (b8.list ((b.aa.set i x).map _))=some (.list (b.aa.map _));rw[rV e (by show U.str _=.str _;rw[hk h.symm])]
  |eR=>show some (b8.list ((b.aa.set i x).map _))=some (.list (b.aa.map _));rw[rV e (by show U.str _=.str _;rw[hs h.symm])]
  |names=>show some (b8.list ((b.aa.set i x).map _))=some (.list (b.aa.map _));rw[rV e (by show U.str _=.str _;rw[hn h.symm])]
  |attrs=>show some (b8.list ((b.aa.set i x).map _))=some (.list (b.aa.map _));rw[rV e (by show U.aw _=.aw _;rw[ha h.symm])]
  |eg=>show some (b8.list ((b.aa.set i x).map _))=some (.list (b.aa.map _));rw[rV e (by show U.str _=.str _;rw[ht h.symm])]
  |dJ=>show some (b8.list ((b.aa.set i x).map _))=some (.list (b.aa.map _));rw[rV e (by show U.int _=.int _;rw[wV h.symm])]
  |eF=>show some (b8.list ((List.range (b.aa.set i x).length).map _))=some (.list ((List.range b.aa.length).map _));rw[len]
  |bV j=>
   show((b.aa.set i x)[j]?).map _=(b.aa[j]?).map _;rw[agi];by_cases q:i=j
   ·subst q;obtain⟨hi,_⟩:=afk.mp e;rw[if_pos rfl,if_pos hi,e];show some (b8.list (cF x.kids))=some (.list (cF y.kids));rw[hc h.symm]
   ·rw[if_neg q]
  |_=>rfl
 ·induction k with
  |bV j=>show(b.aa.set i x).length<=j↔b.aa.length<=j;rw[len]
  |_=>exact af5
end
section
variable{d:Nat}{f:aP}{m:Lo}{b:B}{G:AH}{n:Nat}
theorem jE(e:H.get l=some (.list xs)):∃T,d0 H (.ae l) T/\gI T:=⟨_,.list e,E2⟩
theorem Ao:∃T,d0 H (.aG xs) T/\gI T:=⟨_,.aG _,O5⟩
theorem qf:∃T,d0 H (.aw xs) T/\gI T:=⟨_,.aw _,E2⟩
theorem R.dY(h:nd b i=some x)(q:Q (.str x.kind) (hp b G n)):br d getItem (.ae .dY) (.int i) (hp b G n) Q:=Op.lz (.list rfl) (jD h) q
theorem R.eR(h:nd b i=some x)(q:Q (.str x.dT) (hp b G n)):br d getItem (.ae .eR) (.int i) (hp b G n) Q:=Op.lz (.list rfl) (jD h) q
theorem R.names(h:nd b i=some x)(q:Q (.str x.name) (hp b G n)):br d getItem (.ae .names) (.int i) (hp b G n) Q:=Op.lz (.list rfl) (jD h) q
theorem R.eg(h:nd b i=some x)(q:Q (.str x.text) (hp b G n)):br d getItem (.ae .eg) (.int i) (hp b G n) Q:=Op.lz (.list rfl) (jD h) q
theorem R.dJ(h:nd b i=some x)(q:Q (.int x.bq) (hp b G n)):br d getItem (.ae .dJ) (.int i) (hp b G n) Q:=Op.lz (.list rfl) (jD h) q
theorem PO(h:nd b i=some x):(hp b G n).get (.bV i.toNat)=some (.list (cF x.kids)):=by
 refine cC (gK h) λk bb _ e=>?_;subst bb
 show(b.aa[k]?).map _=_;rw[e];rfl
theorem R.eF(h:nd b i=some x)(q:Q (.ae (.bV i.toNat)) (hp b G n)):br d getItem (.ae .eF) (.int i) (hp b G n) Q:=by
 refine cC (gK h) λk bb hk e=>?_;subst bb
 refine aF (afk.mp e) λaR _=>?_
 exact Op.item (.list rfl) hk (by rw[afG,List.getElem?_range aR];rfl) q
theorem oG:(cF xs).length=xs.length:=afj ..
theorem L.len(e:H.get l=some (.list (cF xs)))(hs:ay xs.length=true)(q:Q (.int xs.length) H):aU d (.builtin "len") [.ae l] H Q:=
 Call.len (.list e) (by rw[oG];have:=d9 hs;exact ads ‹_› (by decide)) (by exact oG▸q)
theorem Ap:cF (xs++ys)=cF xs++cF ys:=afz ..
theorem L.PQ(hs:ay b.pending.length=true)(q:Q .none (hp {b with pending:=b.pending++[x]} G n)):aU d (.builtin "list.append") [.ae (.bN b.pk),g8 x] (hp b G n) Q:=by
 refine Call.append (xs:=b.pending.map g8) (by show(if b.pk=b.pk then _ else _)=_;rw[if_pos rfl]) (by rw[afj];have:=d9 hs;exact ads ‹_› (by decide)) ?_
 have:b.pending.map g8++[g8 x]=(b.pending++[x]).map g8:=by rw[afz];rfl
 rw[this,PN];exact q
theorem L.PR(h:nd b i=some x)(hs:ay b.aa.length=true)(q:Q (hp (b.b5 i.toNat {x with bq:=k}) G n)):l5 d (.ae .dJ) (.int i) (.int k) (hp b G n) Q:=by
 refine cC (gK h) λj e1 _ e=>?_
 refine Set.Am (xs:=b.aa.map λx=>.int x.bq) rfl (jD h) (by rw[afj];exact hs) ?_
 subst e1;rw[afv]at q ⊢;rw[An (x:={x with bq:=k}) e]
 ·exact q
 ·show some (b8.list ((b.aa.set j _).map _))=_;rw[List.map_set]
 all_goals intro h;first|rfl|exact(h rfl).elim
theorem L.PS(h:nd b i=some x)(hs:ay b.aa.length=true)(q:Q (hp (b.b5 i.toNat {x with text:=k}) G n)):l5 d (.ae .eg) (.int i) (.str k) (hp b G n) Q:=by
 refine cC (gK h) λj e1 _ e=>?_
 refine Set.Am (xs:=b.aa.map λx=>.str x.text) rfl (jD h) (by rw[afj];exact hs) ?_
 subst e1;rw[afv]at q ⊢;rw[An (x:={x with text:=k}) e]
 ·exact q
 ·show some (b8.list ((b.aa.set j _).map _))=_;rw[List.map_set]
 all_goals intro h;first|rfl|exact(h rfl).elim
section
variable{Q:U->AH->Prop}
theorem F.mode(SA:gJ bZ (S "mode"))(q:Q .none (hp {b with mode:=x} G n)):br d (λov v=>do setAttr ov (S "mode") v;pure .none) (.ae .bC) (.str x) (hp b G n) Q:=
 Op.setAttr SA (es:=fg b) rfl rfl (by show 21<=1000;decide) (by rw[PF];exact q)
theorem F.original(SA:gJ bZ (S "original"))(q:Q .none (hp {b with original:=x} G n)):br d (λov v=>do setAttr ov (S "original") v;pure .none) (.ae .bC) (.str x) (hp b G n) Q:=
 Op.setAttr SA (es:=fg b) rfl rfl (by show 21<=1000;exact af7 _ _) (by rw[PG];exact q)
theorem F.PT(SA:gJ bZ (S "is_foster"))(q:Q .none (hp {b with dC:=x} G n)):br d (λov v=>do setAttr ov (S "is_foster") v;pure .none) (.ae .bC) (.bool x) (hp b G n) Q:=
 Op.setAttr SA (es:=fg b) rfl rfl (by show 21<=1000;exact af7 _ _) (by rw[PH];exact q)
theorem F.PU(SA:gJ bZ (S "is_acknowledged"))(q:Q .none (hp {b with dD:=x} G n)):br d (λov v=>do setAttr ov (S "is_acknowledged") v;pure .none) (.ae .bC) (.bool x) (hp b G n) Q:=
 Op.setAttr SA (es:=fg b) rfl rfl (by show 21<=1000;exact af7 _ _) (by rw[PI];exact q)
theorem F.head(SA:gJ bZ (S "head"))(q:Q .none (hp {b with head:=x} G n)):br d (λov v=>do setAttr ov (S "head") v;pure .none) (.ae .bC) (.int x) (hp b G n) Q:=
 Op.setAttr SA (es:=fg b) rfl rfl (by show 21<=1000;lia) (by rw[PJ];exact q)
end
theorem rW:AH.Le ((hp b G n).add (.aK n) o) (hp b G (n+1)):=.Py (λ_ e=>af e) (λ_ _ _ e=>e) (λx e=>by induction x<;>first|exact e|exact afR e) λe=>Nat.not_succ_le_self n e
end
structure aN where
 kind:Str
 name:Str
 rest:List U
noncomputable abbrev bT (t:aN):U:=.aG (.str t.kind::.str t.name::t.rest)
noncomputable def ar [BEq α](l:List α)(x:α):Bool:=l.any (·==x)
def el(b:B)(k:Int):Option Nd:=(nd b k).bind λx=>if x.kind=S "element"/\x.dT=S "html"then some x else none
def gn:List Str:=[S "table",S "tbody",S "tfoot",S "thead",S "tr"]
def jF:List Str:=[S "dd",S "dt",S "li",S "optgroup",S "option",S "p",S "rb",S "rp",S "rt",S "rtc"]
def jG:List Str:=[S "caption",S "col",S "colgroup",S "tbody",S "td",S "tfoot",S "th",S "thead",S "tr"]
def qg(b:B)(k:Int):Option B:=if ay b.stack.length then some {b with stack:=b.stack++[k]}else none
def gu(b:B):Option (Int×B):=(fS b.stack).bind λr=>some (r.1,{b with stack:=r.2})
def jH(b:B):Option Int:=if ay b.stack.length then b.stack.getLast? else none
def ij(b:B):Option Str:=(jH b).bind λk=>(el b k).bind λx=>some x.name
def i8(names:List Str):Nat->B->Option (Int×B)
 |0,_=>none
 |n+1,b=>(ij b).bind λs=>(gu b).bind λr=>if ar names s then some r else i8 names n r.2
def i9(names:List Str):Nat->B->Option B
 |0,_=>none
 |n+1,b=>if decide (1<(b.stack.length:Int)) then(ij b).bind λs=>if !ar names s then(gu b).bind λr=>i9 names n r.2 else some b else none
def uq:Nat->B->Option B
 |0,_=>none
 |n+1,b=>(ij b).bind λs=>if ar jF s then(if s !=S "" then(gu b).bind λr=>uq n r.2 else none)else some b
def nh(b:B)(names:List Str):List Int->Option Bool
 |[]=>some false
 |k::r=>(el b k).bind λx=>if ar names x.name then some true else if ar [S "html",S "table",S "template"] x.name then some false else nh b names r
def oH(b:B)(names:List Str):Option Bool:=if ay b.stack.length then nh b names b.stack.reverse else none
def kD(b:B)(x:Nd):Option B:=if ay b.aa.length then some {b with aa:=b.aa++[x]}else none
def gL(name:Str)(attrs:List U):Nd:=⟨S "element",S "html",name,attrs,S "",-1,[]⟩
def kE(t:Str):Nd:=⟨S "text",S "",S "",[],t,-1,[]⟩
def j3(b:B)(name:Str)(attrs:List U):Option (Int×B):=if name=S "template"\/ay attrs.length=false then none else(kD b (gL name attrs)).bind λb'=>some ((b.aa.length:Int),b')
def wW(b:B)(t:Str):Option (Int×B):=(kD b (kE t)).bind λb'=>some ((b.aa.length:Int),b')
def oJ(b:B):Nat->Int->Option (List Int)
 |0,_=>none
 |n+1,up=>if up !=-1 then(nd b up).bind λx=>(oJ b n x.bq).bind λr=>some (up::r)else some []
def kF(b:B)(bq:Int)(p:Nd)(node:Int)(at_:Int):Option B:=
 if ay p.kids.length=true/\ay b.aa.length=true/\0<=at_/\at_<=p.kids.length then
  (let b1:=b.b5 bq.toNat {p with kids:=p.kids.take at_.toNat++node::p.kids.drop at_.toNat}
  (nd b1 node).bind λx=>some (b1.b5 node.toNat {x with bq:=bq}))else none
def iK(b:B)(bq node before:Int):Option B:=
 if ay b.aa.length=false\/(node==bq)=true then none else
 (nd b bq).bind λp=>(oJ b (b.aa.length+1) p.bq).bind λup=>if ar (α:=Int) up node then none else
 (nd b node).bind λx=>if x.bq !=-1 then none else
 if before !=-1 then(if p.kids.any (·==before) then(if before==node then none else kF b bq p node (p.kids.idxOf before:Nat))else none)
 else kF b bq p node p.kids.length
def oK(b:B)(bq:Int):Option Int:=(nd b bq).bind λx=>if ay x.kids.length then(if x.kids.isEmpty then some (-1)else x.kids.getLast?)else none
def ur(b:B)(node:Int):Option Int:=(nd b node).bind λx=>if x.bq==-1 then none else(nd b x.bq).bind λp=>if p.kids.any (·==node)=true/\ay p.kids.length=true then some (p.kids.idxOf node:Nat)else none
def uu(b:B):List Int->Option (Int×Int)
 |[]=>none
 |[_]=>none
 |k::k2::r=>(el b k).bind λx=>if x.name==S "table" then(if x.bq !=-1 then some (x.bq,k)else none)else if x.name==S "template" then none else uu b (k2::r)
def oL(b:B):Option (Int×Int):=if ay b.stack.length then uu b b.stack.reverse else none
def j4(b:B):Option (Int×Int):=(jH b).bind λk=>(el b k).bind λx=>if b.dC then(if ar gn x.name then oL b else some (k,-1))else some (k,-1)
def uw(b:B)(p:Nd)(before l:Int):Option Int:=if before !=-1 then(ur b before).bind λat_=>if decide (0<at_) then b9 p.kids (at_-1)else some (-1)else some l
def qh(b:B)(bq:Int)(sign:Str)(before:Int):Option B:=(wW b sign).bind λr=>iK r.2 bq r.1 before
def ja(b:B)(sign:Str):Option B:=
 (j4 b).bind λpl=>(nd b pl.1).bind λp=>if p.kind==S "document" then none else(oK b pl.1).bind λl=>(uw b p pl.2 l).bind λa=>
 if a !=-1 then(nd b a).bind λx=>if x.kind==S "text" then(if ay b.aa.length=true/\x.text.length+sign.length<=1000000 then some (b.b5 a.toNat {x with text:=x.text++sign})else none)else qh b pl.1 sign pl.2 else qh b pl.1 sign pl.2
def jI(b:B)(name:Str)(attrs:List U):Option (Int×B):=(j4 b).bind λpl=>(j3 b name attrs).bind λr=>(iK r.2 pl.1 r.1 pl.2).bind λb2=>(qg b2 r.1).bind λb3=>some (r.1,b3)
noncomputable def jJ (t:aN):Option (List U):=match t.rest with
 |.aG as::_=>some as
 |_=>none
def kG(b:B)(t:aN):Option (Int×B):=(jJ t).bind λas=>jI b t.name as
def wY(b:B)(t:aN):Option (Int×B):=(kG b t).bind λr=>(gu r.2).bind λr2=>some (r.1,{r2.2 with dD:=true})
def fh(b:B)(x:Str):Option B:=if ay b.aH.length then some {b with aH:=b.aH++[(x,b.mode)]}else none
noncomputable def B.to (b:B)(x:Str):B:={b with mode:=x}
def ux(b:B):Option B:=if ay b.marks.length then some {b with marks:=b.marks++[-1]}else none
def rX(b:B):Option B:=(fS b.marks).bind λr=>if r.1==-1 then some {b with marks:=r.2}else none
def wZ:List (Str×Str):=[(S "td",S "in cell"),(S "th",S "in cell"),(S "tr",S "in row"),(S "tbody",S "in table body"),(S "thead",S "in table body"),(S "tfoot",S "in table body"),(S "caption",S "in caption"),(S "colgroup",S "in column group"),(S "table",S "in table"),(S "head",S "in head"),(S "body",S "in body"),(S "frameset",S "in frameset")]
def j5(x:Str):Str:=(wZ.lookup x).getD (S "")
def w2(b:B):List Int->Option Str
 |[]=>none
 |[_]=>none
 |k::k2::r=>(el b k).bind λx=>if x.name==S "select" then none else if x.name==S "template" then none else if x.name==S "html" then none else
  if j5 x.name==S "" then w2 b (k2::r)else some (j5 x.name)
def rY(b:B):Option B:=if ay b.stack.length then(w2 b b.stack.reverse).bind λmd=>some (b.to md)else none
abbrev b6:=B->aN->Option B
def lA(b:B)(t:aN):Option B:=
 if t.kind==S "char" then ja b t.name
 else if(t.kind==S "start"&&ar [S "a",S "p",S "table"] t.name) then(kG b t).bind λr=>if t.name==S "table" then some (r.2.to (S "in table"))else some r.2
 else if t.kind==S "end" then(ij b).bind λs=>if s==t.name then(gu b).bind λr=>some r.2 else some b
 else some b
def ni(b:B)(t:aN):Option B:=(fh b (S "foster-parented")).bind λb1=>(lA {b1 with dC:=true} t).bind λb2=>some {b2 with dC:=false}
def Fp(b:B):Option B:=i9 [S "table",S "template",S "html"] b.stack.length b
def w3(b:B):Option B:=i9 [S "tbody",S "tfoot",S "thead",S "template",S "html"] b.stack.length b
def Aq(b:B):Option B:=i9 [S "tr",S "template",S "html"] b.stack.length b
def w4(b:B):Option (Bool×B):=(oH b [S "table"]).bind λc=>if !c then some (false,b)else(i8 [S "table"] b.stack.length b).bind λr=>(rY r.2).bind λb2=>some (true,b2)
def Fq(p:b6)(b:B)(t:aN):Option B:=(Fp b).bind λb1=>
 if t.name==S "caption" then(ux b1).bind λb2=>(kG b2 t).bind λr=>some (r.2.to (S "in caption"))
 else if t.name==S "colgroup" then(kG b1 t).bind λr=>some (r.2.to (S "in column group"))
 else if t.name==S "col" then(jI b1 (S "colgroup") []).bind λr=>p (r.2.to (S "in column group")) t
 else if ar [S "tbody",S "tfoot",S "thead"] t.name then(kG b1 t).bind λr=>some (r.2.to (S "in table body"))
 else(jI b1 (S "tbody") []).bind λr=>p (r.2.to (S "in table body")) t
def Fs(p:b6)(b:B)(t:aN):Option B:=(fh b (S "unexpected-start-tag")).bind λb1=>(w4 b1).bind λr=>if r.1 then p r.2 t else some r.2
def Ft(p:b6)(b:B)(t:aN):Option B:=
 if ar [S "caption",S "colgroup",S "col",S "tbody",S "tfoot",S "thead",S "td",S "th",S "tr"] t.name then Fq p b t
 else if t.name==S "table" then Fs p b t
 else if ar [S "style",S "script",S "template"] t.name then none
 else if t.name==S "input" then none
 else if t.name==S "form" then none
 else ni b t
def Fu(b:B)(t:aN):Option B:=
 if t.name==S "table" then(w4 b).bind λr=>if !r.1 then fh r.2 (S "unexpected-end-tag")else some r.2
 else if t.name==S "template" then none
 else if ar [S "body",S "caption",S "col",S "colgroup",S "html",S "tbody",S "td",S "tfoot",S "th",S "thead",S "tr"] t.name then fh b (S "unexpected-end-tag")
 else ni b t
def Fv(p:b6)(b:B)(t:aN):Option B:=(ij b).bind λs=>
 if ar [S "table",S "tbody",S "template",S "tfoot",S "thead",S "tr"] s then p {b with pending:=[],pk:=b.pk+1,old:=none,original:=b.mode,mode:=S "in table text"} t
 else ni b t
def nj(p:b6)(b:B)(t:aN):Option B:=
 if t.kind==S "char" then Fv p b t
 else if t.kind==S "start" then Ft p b t
 else if t.kind==S "end" then Fu b t
 else if t.kind==S "comment" then none
 else if t.kind==S "doctype" then fh b (S "unexpected-doctype")
 else lA b t
def fj(x:Str):Bool:=ar [S "\t",S "\n",S "\x0c",S "\r",S " "] x
def ip(x:Str):aN:=⟨S "char",x,[]⟩
def w5:List Str->B->Option B
 |[],b=>some b
 |x::r,b=>(ja b x).bind λb1=>w5 r b1
def w6:List Str->B->Option B
 |[],b=>some b
 |x::r,b=>(ni b (ip x)).bind λb1=>w6 r b1
def uy(b:B):Option B:=if ay b.pending.length then(let b1:B:={b with pending:=[],pk:=b.pk+1,old:=some b.pending}
 if b.pending.all fj then w5 b.pending b1 else w6 b.pending b1)else none
def qi(p:b6)(b:B)(t:aN):Option B:=
 if t.kind !=S "char" then(uy b).bind λb1=>p (b1.to b1.original) t
 else if t.name==S "\x00" then fh b (S "unexpected-null-character")
 else if ay b.pending.length=true/\t.rest=[]then some {b with pending:=b.pending++[t.name]}else none
def rZ(t:aN):Str:=if t.kind==S "start" then S "unexpected-start-tag"else if t.kind==S "end" then S "unexpected-end-tag"else S "unexpected-text"
def jK(b:B)(t:aN)(names:List Str):Option (Bool×B):=(oH b names).bind λc=>if c then some (true,b)else(fh b (rZ t)).bind λb1=>some (false,b1)
def lB(b:B)(names:List Str)(mode:Str):Option B:=(uq b.stack.length b).bind λb1=>(ij b1).bind λs=>(if !ar names s then fh b1 (S "open-elements")else some b1).bind λb2=>
 (i8 names b2.stack.length b2).bind λr=>(rX r.2).bind λb3=>some (b3.to mode)
def w7(b:B)(t:aN):Option (Bool×B):=(jK b t [S "caption"]).bind λr=>if !r.1 then some (false,r.2)else(lB r.2 [S "caption"] (S "in table")).bind λb1=>some (true,b1)
def Ar(p:b6)(b:B)(t:aN):Option B:=
 if t.kind==S "end"&&t.name==S "caption" then(w7 b t).bind λr=>some r.2
 else if t.kind==S "start"&&ar jG t.name||(t.kind==S "end"&&t.name==S "table") then(w7 b t).bind λr=>if r.1 then p r.2 t else some r.2
 else if(t.kind==S "end"&&(ar [S "body",S "html"] t.name||ar jG t.name)) then fh b (S "unexpected-end-tag")
 else lA b t
def As(p:b6)(b:B)(t:aN)(again:Bool):Option B:=(ij b).bind λs=>if s !=S "colgroup" then fh b (rZ t)
 else(gu b).bind λr=>if again then p (r.2.to (S "in table")) t else some (r.2.to (S "in table"))
def Fw(p:b6)(b:B)(t:aN):Option B:=
 if t.name==S "template" then none
 else if t.kind==S "start"&&t.name==S "html" then lA b t
 else if t.kind==S "start"&&t.name==S "col" then(wY b t).bind λr=>some r.2
 else if !(t.kind==S "start")&&t.name==S "col" then fh b (S "unexpected-end-tag")
 else As p b t (t.kind==S "start"||t.name !=S "colgroup")
def Au(p:b6)(b:B)(t:aN):Option B:=
 if t.kind==S "start"||t.kind==S "end" then Fw p b t
 else if t.kind==S "comment" then none
 else if t.kind==S "doctype" then fh b (S "unexpected-doctype")
 else if t.kind==S "eof" then lA b t
 else if t.kind==S "char"&&fj t.name then ja b t.name
 else As p b t true
def oM(b:B)(t:aN)(names:List Str):Option (Bool×B):=(jK b t names).bind λr=>if !r.1 then some (false,r.2)else(w3 r.2).bind λb1=>(gu b1).bind λr2=>some (true,r2.2.to (S "in table"))
def Fx(p:b6)(b:B)(t:aN):Option B:=
 if t.name==S "tr" then(w3 b).bind λb1=>(kG b1 t).bind λr=>some (r.2.to (S "in row"))
 else if ar [S "td",S "th"] t.name then(fh b (S "unexpected-start-tag")).bind λb1=>(w3 b1).bind λb2=>(jI b2 (S "tr") []).bind λr=>p (r.2.to (S "in row")) t
 else if ar jG t.name then(oM b t [S "tbody",S "tfoot",S "thead"]).bind λr=>if r.1 then p r.2 t else some r.2
 else nj p b t
def Fy(p:b6)(b:B)(t:aN):Option B:=
 if ar [S "tbody",S "tfoot",S "thead"] t.name then(oM b t [t.name]).bind λr=>some r.2
 else if t.name==S "table" then(oM b t [S "tbody",S "tfoot",S "thead"]).bind λr=>if r.1 then p r.2 t else some r.2
 else if ar [S "body",S "caption",S "col",S "colgroup",S "html",S "td",S "th",S "tr"] t.name then fh b (S "unexpected-end-tag")
 else nj p b t
def Av(p:b6)(b:B)(t:aN):Option B:=if t.kind==S "start" then Fx p b t else if t.kind==S "end" then Fy p b t else nj p b t
def r5(b:B)(t:aN):Option (Bool×B):=(jK b t [S "tr"]).bind λr=>if !r.1 then some (false,r.2)else(Aq r.2).bind λb1=>(gu b1).bind λr2=>some (true,r2.2.to (S "in table body"))
def Fz(p:b6)(b:B)(t:aN):Option B:=
 if ar [S "td",S "th"] t.name then(Aq b).bind λb1=>(kG b1 t).bind λr=>ux (r.2.to (S "in cell"))
 else if ar jG t.name then(r5 b t).bind λr=>if r.1 then p r.2 t else some r.2
 else nj p b t
def FA(p:b6)(b:B)(t:aN):Option B:=
 if t.name==S "tr" then(r5 b t).bind λr=>some r.2
 else if t.name==S "table" then(r5 b t).bind λr=>if r.1 then p r.2 t else some r.2
 else if ar [S "tbody",S "tfoot",S "thead"] t.name then(jK b t [t.name]).bind λr=>if r.1 then(oH r.2 [S "tr"]).bind λc=>if c then(r5 r.2 t).bind λr2=>p r2.2 t else some r.2 else some r.2
 else if ar [S "body",S "caption",S "col",S "colgroup",S "html",S "td",S "th"] t.name then fh b (S "unexpected-end-tag")
 else nj p b t
def Aw(p:b6)(b:B)(t:aN):Option B:=if t.kind==S "start" then Fz p b t else if t.kind==S "end" then FA p b t else nj p b t
def Ax(b:B):Option B:=lB b [S "td",S "th"] (S "in row")
def FD(p:b6)(b:B)(t:aN):Option B:=
 if ar [S "td",S "th"] t.name then(jK b t [t.name]).bind λr=>if r.1 then lB r.2 [t.name] (S "in row")else some r.2
 else if ar [S "body",S "caption",S "col",S "colgroup",S "html"] t.name then fh b (S "unexpected-end-tag")
 else if ar [S "table",S "tbody",S "tfoot",S "thead",S "tr"] t.name then(jK b t [t.name]).bind λr=>if r.1 then(Ax r.2).bind λb1=>p b1 t else some r.2
 else lA b t
def Ay(p:b6)(b:B)(t:aN):Option B:=
 if t.kind==S "end" then FD p b t
 else if t.kind==S "start"&&ar jG t.name then(jK b t [S "td",S "th"]).bind λr=>if r.1 then(Ax r.2).bind λb1=>p b1 t else some r.2
 else lA b t
def qj(p:b6)(mode:Str)(b:B)(t:aN):Option B:=
 if mode==S "in caption" then Ar p b t
 else if mode==S "in column group" then Au p b t
 else if mode==S "in table body" then Av p b t
 else if mode==S "in row" then Aw p b t
 else if mode==S "in cell" then Ay p b t
 else if mode==S "in table" then nj p b t
 else if mode==S "in table text" then qi p b t
 else if mode==S "in body" then lA b t
 else none
def oN(b:B):Option Unit:=(jH b).bind λk=>(el b k).bind λ_=>some ()
def jb:Nat->B->aN->Option B
 |0,_,_=>none
 |n+1,b,t=>(oN b).bind λ_=>qj (jb n) b.mode b t
noncomputable def qk (t:aN):Option Bool:=match t.rest with
 |_::.bool f::_=>some f
 |_=>none
def ql(b:B)(t:aN):Option B:=(jb 8 {b with dD:=false} t).bind λb1=>
 if t.kind==S "start" then(qk t).bind λf=>if f then(if !b1.dD then fh b1 (S "non-void-html-element-start-tag-with-trailing-solidus")else some b1)else some b1 else some b1
def b0:B:={aa:=[⟨S "document",S "",S "",[],S "",-1,[1]⟩,{gL (S "html") []with bq:=0,kids:=[2,3]},{gL (S "head") []with bq:=1},{gL (S "body") []with bq:=1}],stack:=[1,3],marks:=[],mode:=S "in body",original:=S "",head:=2,dC:=false,dD:=false,aH:=[],pending:=[],pk:=0,old:=none}
set_option tactic.hygienic true
noncomputable def H0:AH:=⟨λ_=>none,λ_=>True⟩
theorem PW{s:Shared}{vs:List Value}{names:List Str}
  {Q:U->AH->Prop}{Qc:Value->Shared->Prop}{E:Value->Shared->Prop}(bs:Bs)(fz:Lo)(x:Str)(l:Loc)
  (ho:hX.get? fa=some ⟨oc,od,.func (docDef name params body scope pm dS doc),zU⟩)(PY:hX.CodeRec dS name)(mO:hX.NoLimit)
  (hbind:bindArgs (docDef name params body scope pm dS doc) ⟨vs,[]⟩=pure (names.zip vs))
  (hloc:∀x∈names,eh scope.names x .local)(fB:∀L,cellsFrom (L+1) scope.names []=[(x,L+1)])(ie:fz=(names.zip args).reverse)
  (h:bG d (.fn name scope fa dS [(x,l)]) fz (H0.add l (.cell none)) body (λfl _ H'=>Q fl.val H'))
  (room:eS A (d+1))(rv:aZ hX (λ_=>none) args vs)
  (p:∀y v ag H' s',Q y H'->bj ag H' s'.heap->dH {s with heap:=hX} s'->RelV s'.heap ag y v->Qc v s')
  (hs:qd scope=true):wpAny (model bX wX) A (call (.ref fa) vs) Qc E {s with heap:=hX}:=by
 refine dG (Ak hs) λmS mT hk=>?_
 subst ie;refine wpAny_call ?_;refine aO (ub room (envOfC name scope hX.objs.size fa dS)) λmU lu=>?_
 have qm:∀p∈names.zip vs,scope.names.lookup p.1=some .local:=λy hy=>(hloc y.1 (List.of_mem_zip hy).1).eq
 refine call_cells mU ho rfl mO PY hbind (λy hy=>.inl (qm y hy)) (λcM tk F X=>?_) mS mT hk
 rw[fB]at X;refine cC (wR (X.cell x (hX.objs.size+1) (by simp))) λob ec uz uA=>?_
 rw[Aj qm]at uA;have out:∀b,hX.objs.size<=b->hX.get? b=none:=λb hb=>by
  cases q:hX.get? b with
  |none=>rfl
  |some o=>exact absurd (af8 q) (ahg.mpr hb)
 refine i3 F.ns λfo fes fep fe fr=>?_
 have fA:bj (λ_=>none) H0 cM:=⟨bs,λl o e=>(by(have e:(none:Option b8)=some o:=e);exact af e),λl a e=>(by exact af e),λl a e=>(by exact af e),λl l' a e=>(by exact af e),λ_ _=>rfl,F.keep,⟨_,fo,agc _,fe⟩⟩
 refine aO (fA.wQ (l:=l) (a:=hX.objs.size+1) (o:=.cell none) afL ec uz (λ_ e=>by exact af e) (out _ (agc _)) (λ_=>⟨ob,none,ec,uA,rfl⟩)) λcL qn=>?_
 have D:DictAt cM (some (hX.objs.size+1)):=λc z=>by apply sE z;exact⟨ob,ec,uz⟩
 have S0:Step (λ_=>none) hX (λ_=>none) cM:=Step.keeps F.keep
 have qo:RelM cM (aC.add (λ_=>none) l (hX.objs.size+1)) ((names.zip args).reverse++[]) (bindL (envOfC name scope hX.objs.size fa dS).kindOf (names.zip vs) λ_=>none):=
  Ai qm (bW.zip names ((rv.step S0 .none).c9 qn D)) (λ_ _ e=>by exact af e)
 rw[afD]at qo;have fZ:St (aC.add (λ_=>none) l (hX.objs.size+1)) (H0.add l (.cell none)) (cm:=[(x,l)]) ⟨hX.objs.size,[(x,hX.objs.size+1)]⟩ (names.zip args).reverse cM:=
  ⟨cL,⟨_,⟨F.ns,cL.base,afm _⟩,qo⟩,λy e=>by
   by_cases q:y=l
   ·subst q;rw[aC.bP]at e;exact absurd (ack e) (ag6 _)
   ·(rw[aC.bQ _ _ q]at e;exact af e),λy l' e=>by
   rw[afx]at e ⊢;cases q:y==x with
   |true=>rw[q]at e;apply sE e;exact⟨_,rfl,aC.bP ..⟩
   |false=>rw[q]at e;exact af e⟩
 have hh:=λE'=>h _ (aC.add (λ_=>none) l (hX.objs.size+1)) ⟨hX.objs.size,[(x,hX.objs.size+1)]⟩ {s with heap:=cM,toks:=tk} (λf s'=>Qc (oF f) s') E' lu fZ λfl v ag m' H' s' q X' S' z' r'=>by
  induction r' with
  |next=>exact p _ _ ag H' s' q X'.bR ⟨z'.gens,z'.os⟩ .none
  |brk=>exact p _ _ ag H' s' q X'.bR ⟨z'.gens,z'.os⟩ .none
  |cont=>exact p _ _ ag H' s' q X'.bR ⟨z'.gens,z'.os⟩ .none
  |ret r=>exact p _ _ ag H' s' q X'.bR ⟨z'.gens,z'.os⟩ r
 refine ahe (M:=model bX wX) (Q:=λf s'=>Qc (oF f) s') (E:=λe s'=>wpAny (model bX wX) (A.deeper (envOfC name scope hX.objs.size fa dS)) (leaving (envOfC name scope hX.objs.size fa dS) e) (λ_ fu=>E e fu) (λe' fu=>E e' fu) s') ?_ (λfl s' q=>by induction fl<;>exact q) (λe s' q=>q)
 have e1:envOfC name scope hX.objs.size fa dS=envX name scope hX.objs.size fa dS [(x,hX.objs.size+1)]:=by unfold envOfC;rw[fB]
 rw[e1]at hh ⊢;exact hh _
theorem FE:∀ns:List Int,ofPys (ns.map PyData.int)=ns.map WData.int
 |[]=>rfl
 |a::r=>by rw[agk,agk,ofPys,FE r,ofPy]
theorem PZ{ns:List Int}(x:Well P h v (ofPy (PyData.list (ns.map PyData.int)))):RelV h (λ_=>none) (.aw (ns.map U.int)) v:=by
 rw[show ofPy (PyData.list (ns.map PyData.int))=.list (ofPys (ns.map PyData.int))from rfl,FE]at x;cases x with
 |list e wl=>
  rename_i a vs;refine .aw (n:=0) e (λ_ q=>by exact af q) ?_
  clear e
  induction ns generalizing vs with
  |nil=>cases wl;exact .nil
  |cons k r ih=>
   cases wl with
   |cons a b=>cases a;exact .cons (.int _ _) (ih b)
theorem Qa(h:d<=600):eS callerA d:=by
 refine⟨rfl,?_,?_⟩
 ·rw[depth_caller];exact bh (agv h _)
 ·rw[units_caller];lia
theorem Qb(P:Params):nsIn (H.K P) mainGlobals (Str.ofString "law")=some (some (.ref 1014)):=by kernel_rfl
theorem Qd(c:∀(s:Shared) (ns:List Int) (vs:List Value) (Qc:Value->Shared->Prop) (E:Value->Shared->Prop),Bs->ns.length<=63->aZ hX (λ_=>none) [.aw (ns.map U.int)] vs->
  (∀ag H' s',bj ag H' s'.heap->dH {s with heap:=hX} s'->Qc (.bool true) s')->wpAny (model bX wX) callerA (call (.ref 1014) vs) Qc E {s with heap:=hX}):PySem.Challenge.rw_nt0624_01.Holds:=H.entry (by
 intro w ae9 s₁ mg mb G Y fa o pm cd doc dV kV ho hd mR hD FF hg args vals as Qe Qf Qg Qh Qi;have KX:(H.K w.params).In s₁.heap:=kIn_of Y;have T:=topRead_of G.T;have e0:fa=1014:=by
  have h1:=mg_of KX T.g (Qb w.params);have h2:mg (Str.ofString "law")=some (.ref fa):=FF;rw[h1]at h2;exact(Value.ref.inj (ack h2)).symm
 subst e0;have B:EM w s₁.heap:=⟨KX,T.nolimit,⟨_,_,mg,mb,T⟩⟩;clear ho hd mR hD FF
 wrow_args Qe Qf Qg Qh Qi
 rename_i ns _ _ _ _ _ _ _ l _ _ _ _ w1 _ _ _ f9 _;refine Oh (λs ns vs Qc E B l rv p=>c s ns vs Qc E ⟨B.X,B.mO,B.top⟩ l rv λag H' s' R z=>p s' R.base z) (w,s₁.heap) s₁ ns _ _ _ B (by lia) (.cons (PZ w1) .nil) (λs' base z=>?_)
 refine GoodW.toG ⟨.inl ⟨.bool true,.bool true,[],rfl,λcls=>rfl,.bool true,by kernel_rfl,λ_=>⟨List.nodup_nil,λa h=>(nomatch h)⟩⟩,base,z.os,z.gens.trans hg⟩)
set_option tactic.hygienic false
theorem w8{p:List Value->Prop}(h:p [])(vs:List Value)(e:vs.length=0):p vs:=by
 induction vs with
 |nil=>exact h
 |cons=>cases e
theorem all1{p:List Value->Prop}(h:∀a,p [a])(vs:List Value)(e:vs.length=1):p vs:=by
 induction vs with
 |nil=>cases e
 |cons a r=>exact w8 (p:=λr=>p (a::r)) (h a) r (agI e)
theorem all2{p:List Value->Prop}(h:∀a b,p [a,b])(vs:List Value)(e:vs.length=2):p vs:=by
 induction vs with
 |nil=>cases e
 |cons a r=>exact all1 (p:=λr=>p (a::r)) (h a) r (agI e)
theorem r6{p:List Value->Prop}(h:∀a b c,p [a,b,c])(vs:List Value)(e:vs.length=3):p vs:=by
 induction vs with
 |nil=>cases e
 |cons a r=>exact all2 (p:=λr=>p (a::r)) (h a) r (agI e)
theorem uB{p:List Value->Prop}(h:∀a b c d,p [a,b,c,d])(vs:List Value)(e:vs.length=4):p vs:=by
 induction vs with
 |nil=>cases e
 |cons a r=>exact r6 (p:=λr=>p (a::r)) (h a) r (agI e)
theorem Az{p:List Value->Prop}(h:∀a b c d x,p [a,b,c,d,x])(vs:List Value)(e:vs.length=5):p vs:=by
 induction vs with
 |nil=>cases e
 |cons a r=>exact uB (p:=λr=>p (a::r)) (h a) r (agI e)
theorem Qj{p:List Value->Prop}(h:∀a b c d x y,p [a,b,c,d,x,y])(vs:List Value)(e:vs.length=6):p vs:=by
 induction vs with
 |nil=>cases e
 |cons a r=>exact Az (p:=λr=>p (a::r)) (h a) r (agI e)
noncomputable def nk:Stmt->Bool
 |.FunctionDef ..=>true
 |_=>false
def uC:Stmt->Str
 |.FunctionDef (name:=n) ..=>n
 |_=>S ""
noncomputable def FH:Stmt->Arguments
 |.FunctionDef (args:=a) ..=>a
 |_=>⟨[],[],none,[],[],none,[]⟩
noncomputable def cO:Stmt->List Stmt
 |.FunctionDef (body:=a) ..=>a
 |_=>[]
noncomputable def fC:Stmt->Scope
 |.FunctionDef (scope:=a) ..=>a
 |_=>⟨.function,[],false,false,[]⟩
theorem FI{st:Stmt}(h:nk st=true):H.k8 st q 3 df md cd=fnOf (uC st) (S q) (FH st) (cO st) (fC st) df .none .none md none cd .none:=by
 induction st using Stmt.casesOn<;>first|rfl|cases h
section
variable{d:Nat}{m:Lo}{X:AH}
theorem Call.fn{st:Stmt}{names:List Str}{Q:U->AH->Prop}(fz:Lo)(i:Bool:=true)
  (ho:kX.lookup fa=some (H.fn st q df md (.ref ca)))(hc:kX.lookup ca=some ⟨.type "code",none,.fields vs,#[]⟩)(hv:vs.toList=a::.str (S q) tk::rs)(hi:nk st=true)
  (hbind:∀(S:Setting) (vs:List Value),vs.length=args.length->peek kX S (bindArgs (H.k8 st q 3 df md (.ref ca)) ⟨vs,[]⟩)=some (names.zip (vs++dv)))
  (iI:∀(h:Heap) (ρ:aC),bj ρ X h->aZ h ρ dx dv)
  (eb:cO st=body)(es:fC st=scope)
  (hloc:∀x∈names,eh scope.names x .local)
  (ie:fz=(names.zip (args++dx)).reverse)
  (h:bG d (.fn (S q) scope fa (.ref ca) []) fz X body (λfl _ H'=>∃bg,AH.Le H' bg/\Q fl.val bg))
  (hs:oz scope=true:=by kernel_rfl):aU (d+1) (.ref fa) args X Q:=by
 subst eb es;have e:=FI (q:=q) (df:=df) (md:=md) (cd:=.ref ca) hi;refine Call.def fz (ho.trans (afp some (afp (λz=>Obj.mk (.type "function") none (.func z) #[]) e))) (uc hc hv) (λS vs hv=>?_) iI hloc ie h hs
 exact e▸hbind S vs hv
end
set_option tactic.hygienic true
def gl:List DictEntry:=match kX.lookup 3 with
 |some ⟨_,_,.dict es _,_⟩=>es.toList
 |_=>[]
noncomputable def codeOf (s:Str):Nat:=s.cps.toList.foldl (λa c=>a*2000000+c+1) 0
def r7(e:DictEntry):Nat:=match e.key with
 |.str s _=>codeOf s
 |_=>0
noncomputable def FJ (e:DictEntry):Bool:=match e.key with
 |.str _ _=>true
 |_=>false
noncomputable def w9:List Nat->Bool
 |[]=>true
 |a::r=>r.all (λb=>!(a==b))&&w9 r
noncomputable def AA:List Nat:=[12288006144003552001568000880000408000192000096,6144003072001616000896000400000192000096,98304049152028928012544006400003456001568000832000408000192000096,49152024576013952007168003136001616000816000460000192000096,12288006144003712001808000816000400000192000096,1572864786432401408227328113664057344029952012544007488003392001792000888000464000192000096,196608098304050688030208013568006976003744001696000888000464000192000096,12288006144003296001696000872000408000192000096,49152024576012800006272003200001680000816000404000192000096,1536000960000392000218000109,13568007424003072001856000904000392000200000102,13568007424003072001888000904000452000204000115,1744000896000480000204000115,55808028672015360006528003680001536000936000408000242000117,434176237568098304059904025088012672006976003264001536000904000392000230000117,434176237568098304056320025088014976006720003072001808000896000424000222000117,434176237568098304053760029952014080006976003072001808000896000424000222000117,434176225280115712055808027136013056006464003072001776000784000440000204000116,210944114688059392029952013056007360003072001808000872000392000200000102,28928013952006272003200001632000768000412000224000115,108544056832029696013056007360003744001536000928000424000208000111,868352454656237568104448058880029952012288006400003584001760000880000408000222000117,880000392000216000102,868352454656237568104448058880029952012288006528003488001632000880000408000222000117,217088113664059392026112014720007488003072001872000896000432000204000111,108544056832029696013056007360003744001536000952000448000212000101,25088014848007424003584001600000848000392000234000102,20480014464006528003552001344000936000392000200000108,118784059904028672014464007424003072001856000800000448000226000102,13568007104003072001856000800000448000226000102,115712057344028928012288006784003520001808000872000424000204000101,7040003584001616000816000384000224000103,118784052224027904013056006400003744001536000880000448000202000102,14080007168003232001632000768000412000224000115,58880026112014848006528003744001536000880000448000202000102,15232006272003488001888000816000384000224000103,868352475136196608118784057856025088012800006528003072001872000896000432000204000111,231424114688057856024576014976007168003072001872000784000396000218000102,115712057344028928012288007488003584001536000792000448000202000122,57856028672014464006144003744001792000768000460000224000120,458752241664119808059392027136012928006528003072001872000784000396000218000102,102400055808028672014848006528003072001872000784000396000218000102,28672014464006528003552001536000904000392000230000117,958464401408202752111616052224024576013568007104003072001872000784000396000218000102,868352454656231424120832059904024576013568007104003072001872000784000396000218000102,421888229376117760056320024576013568007104003072001872000784000396000218000102,950272479232200704117760059904024576013568007104003072001872000784000396000218000102,208896113664051712024576013568007104003072001872000784000396000218000102,475136217088106496056832024576013568007104003072001872000784000396000218000102,13568007104003072001872000784000396000218000102,421888223232120832059392026880012288007232003264001776000808000424000222000104,434176227328098304059904025088012672006976003264001536000936000408000242000117,119808050176025344013952006528003072001840000944000436000204000116,60416028416013056007744003616001632000800000468000204000101,868352475136196608119808050176025344013952006528003072001600000840000424000218000101,215040100352059392024576013568007104003072001872000784000396000218000102,57856028672014464006144003520001568000920000432000204000101,409600223232114688059392026112012288006400003136001808000936000424000224000111,54272028416012288006400003136001808000936000424000224000111,446464208896100352060928026112012288006400003584001744000944000440000222000116,958464401408212992098304054272028416012288006400003584001744000944000440000222000116,1736704909312393216204800114688055808030208014080007104003072001664000920000448000236000113,51200027904014336007424003264001536000792000448000202000122,475136239616100352058880029952012288006784003552001536000792000448000202000122,104448056832025856012288006784003552001536000792000448000202000122,434176227328098304059904025088012672006976003264001536000792000448000202000122,25600013952007168003712001632000768000460000224000120,237568119808050176029440014976006144003392001776000768000460000224000120,52224028416012928006144003392001776000768000460000224000120,3392001776000768000460000224000120,51200027904014336007424003264001536000800000408000218000109,104448056832025856012288006784003552001536000800000408000218000109,6784003552001536000800000408000218000109,29440014336007680003072001840000944000436000204000116,18688014976007040003488001136000784000472000218000117,4992003392001856000944000464000204000101,36352028672014720007040003136001872000936000424000222000104,1568000872000424000216000102,680000460000204000102,1568000792000448000238000102,4288003776001696000872000404000204000115,217088118784049152026880014976007040003488001536000936000472000230000111,1840000816000392000202000122,49152027904012544007680003072001872000896000432000204000111,24576013952006272003840001536000792000448000202000122,49152027904012544007680003072001808000872000392000212000111,393216223232100352061440024576013568007424003072001584000872000392000222000108,24576013952006272003840001536000880000448000202000102,49152027904012544007680003072001856000904000436000212000117,49152027904012544007680003072001680000896000436000202000116,49152027904012544007680003072001776000784000440000204000116,12288006976003136001920000768000452000236000117,24576013952006272003840001536000832000460000224000120,49152027904012544007680003072001744000816000392000238000102,98304055808025088015360006144003712001632000936000468000218000102,24576013952006272003840001536000928000424000208000111,24576013952006272003840001536000904000392000230000117,49152027904012544007680003072001792000936000420000204000115,12288006976003136001920000768000468000196000104,436000196000120]
theorem FK:(gl).map r7=AA:=by kernel_rfl
theorem Qk:w9 AA=true:=by kernel_rfl
theorem Ql:(gl).all FJ=true:=rfl
noncomputable def FL (o:Option Obj):Bool:=match o with
 |some ⟨_,_,.dict _ _,_⟩=>true
 |_=>false
theorem Qm:FL (kX.lookup 3)=true:=rfl
theorem FN:∃c d es n sl,kX.lookup 3=some ⟨c,d,.dict es n,sl⟩/\es.toList=gl:=by
 have h:=Qm;unfold gl;unfold FL at h;split at h
 ·rename_i c d es n sl e;exact e▸⟨c,d,es,n,sl,rfl,rfl⟩
 ·cases h
theorem AB(h:e.key.isStr x=true):r7 e=codeOf x:=by
 unfold r7;cases q:e.key with
 |str s t=>rw[q]at h;rw[show s=x from afr.mp h]
 |_=>replace h:=q▸h;cases h
theorem Qn(l:List DictEntry):∀{i:Nat},w9 (l.map r7)=true->l[i]?=some e->e.key.isStr x=true->l.find? (·.key.isStr x)=some e:=by
 induction l with
 |nil=>intro i _ h;exact af h
 |cons a r ih=>
  intro i f h k;rw[List.find?_cons]
  induction i with
  |zero=>
   rw[<-ack h]at k ⊢;rw[k]
  |succ i=>
   rw[agk]at f;unfold w9 at f;rw[afi]at f;have hm:e∈r:=age h;have:=afn.mp f.1 (r7 e) (afQ.mpr ⟨e,hm,rfl⟩);have ne:a.key.isStr x=false:=by
    cases q:a.key.isStr x with
    |false=>rfl
    |true=>rw[AB q,AB k]at this;simp at this
   exact ne▸ih f.2 h k
noncomputable def AD (e:DictEntry):Option (Str×Value):=match e.key with
 |.str s _=>some (s,e.val)
 |_=>none
theorem gv(i:Nat)(h:((gl)[i]?).bind AD=some (x,v)):nsIn kX mainGlobals x=some (some v):=by
 refine cps λG k=>?_
 refine fN FN λc d hh=>i3 hh λes n sl e1 e2=>?_
 refine bE h λe h1 h2=>?_
 refine k ?_;unfold AD at h2;split at h2
 ·rename_i s t q;cases h2;unfold nsIn;rw[show kX.lookup mainGlobals=_ from e1];dsimp only;rw[e2,Qn _ (x:=x) (by exact FK▸Qk) h1 (by exact q▸agj _)]
 ·exact af h2
theorem r8(h:AA.all (λc=>!(c==codeOf x))=true):nsIn kX mainGlobals x=some none:=by
 refine cps λG k=>?_
 refine fN FN λc d hh=>i3 hh λes n sl e1 e2=>?_
 refine k ?_;unfold nsIn;rw[show kX.lookup mainGlobals=_ from e1];dsimp only;rw[e2];have:(gl).find? (·.key.isStr x)=none:=List.find?_eq_none.mpr λe he q=>by
  have:=afn.mp h (r7 e) (by rw[<-FK];exact afQ.mpr ⟨e,he,rfl⟩)
  rw[AB q]at this;simp at this
 rw[this];have:(gl).any (·.refKey)=false:=List.any_eq_false.mpr λe he q=>by
  have:=afn.mp Ql e he;unfold FJ at this;unfold DictEntry.refKey at q;split at this
  ·rename_i z;replace q:=z▸q;cases q
  ·cases this
 rw[this];rfl
section
theorem Qo:FnAt (S "OpenStack") (.ref 246):=⟨gv 27 rfl,by kernel_rfl⟩
theorem Qp:FnAt (S "in_table") (.ref 406):=⟨gv 49 rfl,by kernel_rfl⟩
theorem Qq:FnAt (S "in_table_text") (.ref 420):=⟨gv 51 rfl,by kernel_rfl⟩
theorem Qr:FnAt (S "table_rules") (.ref 427):=⟨gv 52 rfl,by kernel_rfl⟩
theorem Qs:FnAt (S "in_caption") (.ref 469):=⟨gv 58 rfl,by kernel_rfl⟩
theorem Qu:FnAt (S "in_column_group") (.ref 490):=⟨gv 61 rfl,by kernel_rfl⟩
theorem Qv:FnAt (S "in_table_body") (.ref 518):=⟨gv 65 rfl,by kernel_rfl⟩
theorem Qw:FnAt (S "in_row") (.ref 546):=⟨gv 69 rfl,by kernel_rfl⟩
theorem Qx:FnAt (S "in_cell") (.ref 567):=⟨gv 72 rfl,by kernel_rfl⟩
theorem Qy:FnAt (S "row_rules") (.ref 574):=⟨gv 73 rfl,by kernel_rfl⟩
theorem Qz:FnAt (S "Formatting") (.ref 686):=⟨gv 76 rfl,by kernel_rfl⟩
theorem QA:FnAt (S "Tree") (.ref 810):=⟨gv 78 rfl,by kernel_rfl⟩
theorem QB:FnAt (S "above") (.ref 821):=⟨gv 79 rfl,by kernel_rfl⟩
theorem QC:FnAt (S "Builder") (.ref 888):=⟨gv 80 rfl,by kernel_rfl⟩
theorem QD:FnAt (S "ready") (.ref 907):=⟨gv 82 rfl,by kernel_rfl⟩
theorem FO:FnAt (S "_law_token") (.ref 914):=⟨gv 83 rfl,by kernel_rfl⟩
theorem QE:FnAt (S "_law_body") (.ref 921):=⟨gv 84 rfl,by kernel_rfl⟩
theorem FP:FnAt (S "_law_plain") (.ref 926):=⟨gv 85 rfl,by kernel_rfl⟩
theorem QF:FnAt (S "_law_is_blank") (.ref 933):=⟨gv 86 rfl,by kernel_rfl⟩
theorem uD:ia (S "len") (.builtin "len"):=⟨r8 rfl,by kernel_rfl,by decide⟩
theorem xa:ia (S "range") (.type "range"):=⟨r8 rfl,by kernel_rfl,by decide⟩
theorem xb:ia (S "list") (.type "list"):=⟨r8 rfl,by kernel_rfl,by decide⟩
theorem AE:ia (S "str") (.type "str"):=⟨r8 rfl,by kernel_rfl,by decide⟩
theorem QG:ia (S "isinstance") (.builtin "isinstance"):=⟨r8 rfl,by kernel_rfl,by decide⟩
theorem QH:ia (S "all") (.builtin "all"):=⟨r8 rfl,by kernel_rfl,by decide⟩
theorem QI:plainGet kX ff default=true:=by kernel_rfl
theorem QJ:hasDictIn kX ff=true:=rfl
theorem QK:fy ff (S "items"):=⟨QI,QJ,by kernel_rfl⟩
theorem oO:plainGet kX cN default=true:=by kernel_rfl
theorem qp:hasDictIn kX cN=true:=rfl
theorem QL:MethAt cN (S "add") 720:=⟨oO,by kernel_rfl,by kernel_rfl,by kernel_rfl⟩
theorem uE:fy cN (S "kinds"):=⟨oO,qp,by kernel_rfl⟩
theorem FQ:fy cN (S "spaces"):=⟨oO,qp,by kernel_rfl⟩
theorem xc:fy cN (S "names"):=⟨oO,qp,by kernel_rfl⟩
theorem AF:fy cN (S "attrs"):=⟨oO,qp,by kernel_rfl⟩
theorem AG:fy cN (S "texts"):=⟨oO,qp,by kernel_rfl⟩
theorem xd:fy cN (S "parents"):=⟨oO,qp,by kernel_rfl⟩
theorem AI:fy cN (S "children"):=⟨oO,qp,by kernel_rfl⟩
theorem oP:plainGet kX bZ default=true:=by kernel_rfl
theorem oQ:hasDictIn kX bZ=true:=rfl
theorem AJ:fy bZ (S "tree"):=⟨oP,oQ,by kernel_rfl⟩
theorem QM:fy bZ (S "stack"):=⟨oP,oQ,by kernel_rfl⟩
theorem QN:fy bZ (S "mode"):=⟨oP,oQ,by kernel_rfl⟩
theorem QO:fy bZ (S "original"):=⟨oP,oQ,by kernel_rfl⟩
theorem QP:fy bZ (S "head"):=⟨oP,oQ,by kernel_rfl⟩
theorem QQ:fy bZ (S "is_foster"):=⟨oP,oQ,by kernel_rfl⟩
theorem QR:fy bZ (S "pending"):=⟨oP,oQ,by kernel_rfl⟩
theorem QS:fy bZ (S "is_acknowledged"):=⟨oP,oQ,by kernel_rfl⟩
theorem r9:findIn kX (.ref bZ) "__setattr__"=some (some (.builtin "object.__setattr__")):=by kernel_rfl
theorem sa:plainOver kX bZ=true:=rfl
theorem sd:(clsIn kX bZ).any (·.hasDict)=true:=rfl
theorem QT:gJ bZ (S "mode"):=⟨r9,sa,by unfold takerIn;rw[QN.lj];rfl,sd⟩
theorem QU:gJ bZ (S "original"):=⟨r9,sa,by unfold takerIn;rw[QO.lj];rfl,sd⟩
theorem QV:gJ bZ (S "head"):=⟨r9,sa,by unfold takerIn;rw[QP.lj];rfl,sd⟩
theorem QW:gJ bZ (S "is_foster"):=⟨r9,sa,by unfold takerIn;rw[QQ.lj];rfl,sd⟩
theorem QX:gJ bZ (S "pending"):=⟨r9,sa,by unfold takerIn;rw[QR.lj];rfl,sd⟩
theorem QY:gJ bZ (S "is_acknowledged"):=⟨r9,sa,by unfold takerIn;rw[QS.lj];rfl,sd⟩
end
theorem QZ:kX.lookup 279=some (open H in ce "mode_of" "mode_of" 527 199 1 274 532):=rfl
theorem Q0:kX.lookup 280=some (open H in fn (az 27) "mode_of" vN (s "htmltree.reset" 525) (r 279)):=rfl
theorem Q1:kX.lookup 925=some (open H in co [(s "_law_plain" 1381),(s "_law_plain" 1382),(s "/claim/cut.py" 1383),(i 812 0),(i 2 0),(i 0 0),(i 0 0),(i 3 0),(r 922),vT,(i 181 0),(r 923),vN,vN,vN,(r 924),(i 1384 0),(i 812 0),(s "/claim/cut.py" 1385)]):=rfl
theorem Q2:kX.lookup 926=some (open H in fn (az 90) "_law_plain" vN (s "law_nt0624_01" 1361) (r 925)):=rfl
theorem Q3:kX.lookup 944=some (open H in co [(s "_law_split" 1404),(s "_law_split" 1405),(s "/claim/cut.py" 1406),(i 824 0),(i 1 0),(i 0 0),(i 0 0),(i 3 0),(r 941),vT,(i 181 0),(r 942),vN,vN,vN,(r 943),(i 1407 0),(i 824 0),(s "/claim/cut.py" 1408)]):=rfl
theorem Q4:kX.lookup 945=some (open H in fn (az 93) "_law_split" vN (s "law_nt0624_01" 1361) (r 944)):=rfl
section
variable{b:B}
theorem Q5:(fg b).lookup (S "tree")=some (.ae .tree):=rfl
theorem Q6:(fg b).lookup (S "stack")=some (.ae .stack):=rfl
theorem Q7:eI.lookup (S "names")=some (.ae .names):=rfl
theorem Q8:ng.lookup (S "items")=some (.ae .items):=rfl
end
set_option tactic.hygienic false
theorem Q9[Decidable c]{X Y:Prop}(h:(if c then x else y)=some r)(k1:c->x=some r->X)(k2:¬c->y=some r->Y):if c then X else Y:=by
 by_cases q:c
 ·rw[if_pos q]at h ⊢;exact k1 q h
 ·rw[if_neg q]at h ⊢;exact k2 q h
theorem xe{α:Type}[Decidable c]{x:Option α}{r:α}{P:Prop}(h:(if c then x else none)=some r)(g:c->x=some r->P):P:=by
 by_cases q:c
 ·rw[if_pos q]at h;exact g q h
 ·rw[if_neg q]at h;exact af h
theorem AK{xs:List α}(h:xs[i]?=some x):xs.drop i=x::xs.drop (i+1):=by
 refine aF (afk.mp h) λhi e=>?_
 rw[List.drop_eq_getElem_cons hi,e]
noncomputable def qr:List U->Option (List Str)
 |[]=>some []
 |.str x::r=>(qr r).map (x::·)
 |_=>none
theorem xf:∀{xs:List U} {ss:List Str},qr xs=some ss->xs=ss.map U.str
 |[],ss,h=>by cases h;rfl
 |x::r,ss,h=>by
  cases x with
  |str y=>
   unfold qr at h;refine ah (afX.mp h) λs' h1 aM=>?_;subst aM
   rw[xf h1];rfl
  |_=>exact af h
section
variable{d:Nat}{f:aP}{m:Lo}{X:AH}{b:B}{G:AH}{n:Nat}
theorem Op.FR(q:Q (.bool (ar ss k)) X):br d (compareOp .In) (.str k) (.aG (ss.map U.str)) X Q:=Op.Pl q
theorem Op.Ra(q:Q (.bool (!ar ss k)) X):br d (compareOp .NotIn) (.str k) (.aG (ss.map U.str)) X Q:=Op.Pm q
def fD(d:Nat)(f:aP)(m:Lo)(X:AH)(e:Expr)(c:Bool):Prop:=∀Q:Bool->AH->Prop,Q c X->eH d f m X e Q
theorem fD.one(h:fD d f m X e c):fD d f m X (.BoolOp op [e] pos) c:=λQ q=>by
 refine Ts.bool (h _ ?_)
 induction op<;>induction c<;>exact q
theorem fD.and(h:fD d f m X e a)(k:a=true->fD d f m X (.BoolOp .And r pos) c):fD d f m X (.BoolOp .And (e::r) pos) (a&&c):=λQ q=>by
 refine Ts.and (h _ ?_)
 induction a
 ·exact q
 ·exact k rfl _ q
theorem fD.or(h:fD d f m X e a)(k:a=false->fD d f m X (.BoolOp .Or r pos) c):fD d f m X (.BoolOp .Or (e::r) pos) (a||c):=λQ q=>by
 refine Ts.or (h _ ?_)
 induction a
 ·exact k rfl _ q
 ·exact q
theorem Tr.list(e:X.get l=some (.list xs))(hs:xs.length<=1000000)(q:Q (!xs.isEmpty) X):lX d (.ae l) X Q:=
 λA ρ s a Qc E room R r p=>by
  refine kr (R.list e r) λa vs n bx _ ho rl le=>?_;subst bx
  refine wpAny_truthy_list ho.isList (by rw[afC,le];lia) ?_
  have e2:(!vs.toArray.isEmpty)=!xs.isEmpty:=by
   cases vs<;>induction xs<;>first|rfl|cases le
  exact e2▸p _ ρ X {s with toks:=s.toks+1+1} q R .refl ⟨rfl,rfl⟩
end
theorem kH(h:el b k=some x):nd b k=some x:=by
 refine bE h λy h1 h2=>?_
 split at h2
 ·apply sE h2;exact h1
 ·exact af h2
theorem Rb(h:el b k=some x):x.dT=S "html":=by
 refine bE h λy h1 h2=>?_
 split at h2
 ·rename_i q;apply sE h2;exact q.2
 ·exact af h2
theorem FT(h:nd b k=some x):0<=k:=by
 refine ah (gK h) λj bb _=>?_;subst bb
 exact afI j
theorem AL(h:nd b k=some x):(k==-1)=false:=by
 have:=FT h;exact aft.mpr (by exact Int.ne_of_gt this)
theorem uF(h:fS xs=some r):ay xs.length=true/\((xs.length:Int)==0)=false:=by
 obtain⟨x,ys⟩:=r;have h2:=h;unfold fS at h;refine bE h λy h1 h3=>?_
 split at h3
 ·rename_i ok;refine⟨ok,aft.mpr ?_⟩;rw[(Al h2).1,afl,afF];exact nofun
 ·exact af h3
theorem FU{α:Type}{xs:List α}(h:xs.length<=900000)(i:Nat):b9 xs (i:Int)=xs[i]?:=by
 unfold b9;by_cases q:i<1000000
 ·exact if_pos ⟨afI _,agP.mpr q⟩
 ·rw[if_neg λp=>q (agP.mp p.2)];exact(afK (ads (bh h) (af0 q))).symm
theorem Rc{k:Int}(h:xs.getLast?=some k)(hs:ay xs.length=true):b9 xs ((xs.length:Int)-1)=some k/\((xs.length:Int)==0)=false:=by
 refine aF (agh.mp h) λys bb=>?_;subst bb
 have e:(((ys++[k]).length:Nat):Int)-1=(ys.length:Nat):=by rw[afl];exact(Int.add_sub_cancel (ys.length:Int) 1:((ys.length:Int)+1)-1=_)
 exact⟨by rw[e,FU (d9 hs)];exact List.getElem?_concat_length,aft.mpr (by rw[afl];exact nofun)⟩
theorem kI{X Y:Prop}(h:c=false)(k:Y):if c=true then X else Y:=by rw[if_neg (by rw[h];decide)];exact k
theorem qt{X Y:Prop}(h:c=true)(k:X):if c=true then X else Y:=by rw[if_pos h];exact k
theorem uG(h:el b k=some x):(x.dT==S "html")=true:=by rw[Rb h];exact agj _
theorem AM(h:el b k=some x):(x.dT !=S "html")=false:=by rw[bne,uG h];rfl
theorem FV(h:nd b k=some x):(k !=-1)=true:=by rw[bne,AL h];rfl
theorem AN(h:gu b=some r):∃ys,fS b.stack=some (r.1,ys)/\r.2={b with stack:=ys}:=by
 refine bE h λs h1 h=>?_
 apply sE h;exact⟨s.2,h1,rfl⟩
theorem len_pos(h:fS xs=some r):decide ((0:Int)<xs.length)=true:=by
 have:=(uF h).2;have:(xs.length:Int)≠0:=by simpa using this
 exact afT (by lia)
theorem uH{xs:List Int}(hi:i<xs.length)(hs:ay xs.length=true):∃k,xs.reverse.drop i=k::xs.reverse.drop (i+1)/\b9 xs ((xs.length:Int)-1+i*(-1))=some k:=by
 have hl:i<xs.reverse.length:=by rw[List.length_reverse];exact hi
 refine⟨xs.reverse[i],List.drop_eq_getElem_cons hl,?_⟩;have e:(xs.length:Int)-1+i*(-1)=((xs.length-1-i:Nat):Int):=by
  rw[aha (Nat.le_sub_one_of_lt hi),aha (agY (afw _) hi),Int.mul_neg,Int.mul_one];rfl
 rw[e,List.getElem_reverse,FU (d9 hs)];exact afq _
theorem Rg{xs:List Int}:xs.reverse.drop xs.length=[]:=by
 rw[<-List.length_reverse,List.drop_length]
theorem Rh(h:ay n=true):l7 [.int ((n:Int)-1),.int (-1),.int (-1)] ((n:Int)-1) (-1) (-1) n:=by
 have:=d9 h;have e:(((n:Int)-1)+1).toNat=n:=by lia
 have:=l7.down (a:=(n:Int)-1) (by lia) (by lia)
 rw[e]at this;exact this
section
variable{d:Nat}{f:aP}{m:Lo}{X:AH}
theorem Call.get(hl:X.get l=some (.map es))(q:Q ((es.lookup k).getD y) X):aU d (.builtin "dict.get") [.ae l,.str k,y] X Q:=
 λA ρ s vs Qc E room R rv p=>by
  refine tV rv.three λ_ kv yv bx r1 r2 r3=>?_;subst bx
  refine gD (R.map hl r1) λa kvs aM _ hd rp hn=>?_;subst aM
  refine r2.k λt=>?_
  refine call_meetsIn F.slot_dict_get (d0.typeIs (.map hl) R r1) F.entry_dict_get (F.args_dict_get_3 _ _ _) (meets_dict_get_default (strKind bX wX) a (strKind_is bX wX k t) hn yv) ⟨_,hd.mapOf,?_⟩;cases e:es.lookup k with
  |none=>
   rw[rp.valueAt.2 e];rw[e]at q;exact p.toks q R r3
  |some z=>
   refine ah (rp.valueAt.1 z e) λv e1 rz=>?_
   rw[e1];rw[e]at q;exact p.toks q R rz
def Ri(ρ:aC)(s:Shared)(Q:List (Str×U)->AH->Prop)(Qc:List (Value×Value)->Shared->Prop):Prop:=
 ∀x v ag H' s',Q x H'->bj ag H' s'.heap->Step ρ s.heap ag s'.heap->dH s s'->allStrKeys v=true->bW s'.heap ag x (strPairs v)->Qc v s'
def xg(d:Nat)(f:aP)(m:Lo)(X:AH)(ks:List (Option Expr))(vs:List Expr)(Q:List (Str×U)->AH->Prop):Prop:=
 ∀(A:Around) (ρ:aC) (L:gj f.cm) (s:Shared) (Qc:List (Value×Value)->Shared->Prop) (E:Value->Shared->Prop) (pos:Pos),eS A d->St ρ X L m s.heap->
  Ri ρ s Q Qc->wpAny (model bX wX) A (evalPairs (pairTrees ks vs (f.env L) pos)) Qc E s
theorem fE.nil(q:Q [] X):xg d f m X [] [] Q:=
 λA ρ L s Qc E pos room St p=>pairTrees_nil_walk (p [] [] ρ X s q St.bR .refl .refl rfl .nil)
theorem fE.cons
  (h:aQ d f m X v λx H₁=>xg d f m H₁ ks vs λr bH=>Q ((k,x)::r) bH):xg d f m X (some (.Constant (.str k) j kp)::ks) (v::vs) Q:=
 λA ρ L s Qc E pos room X0 p=>pairTrees_cons_walk (by
  rw[eval_Constant];refine wpAny_mkText ?_;refine h A ρ L {s with toks:=s.toks+1} _ E room X0 λx v bp H₁ s₁ q R S z r=>?_
  refine q A bp L s₁ _ E pos room (X0.bY R S) λy u de bH bw dm cL bF cS Rj eU=>?_
  exact p ((_,x)::y) ((.str k _,v)::u) de bH bw dm cL (S.trans bF) ⟨cS.gens.trans z.gens,cS.os.trans z.os⟩ Rj (.cons (r.step bF .none) eU))
theorem Ev.se(l:Loc)(h3:∃o,kX.lookup 3=some o)(hn:X.new l)
  (h:xg d f m (X.add l (.map [])) p9 values λkvs H'=>H'.get l=some (.map [])/\(kvs.map (·.1)).Nodup/\Q (.ae l) (H'.set l (.map kvs)))
  (sf:p9.all (·.isSome)=true)(hl:p9.length=values.length)(h0:p9≠[])(f9:p9.length<=15):aQ d f m X (.Dict p9 values pos) Q:=
 λA ρ L s Qc E room X0 p=>by
  have R:=X0.bR;have xh:(s.heap.objs.size==sysModules)=false:=by
   refine aF h3 λo e=>?_
   have:=af8 (R.base _ _ (R.bs.X _ _ e));exact aft.mpr λe=>by
    rw[e]at this;exact absurd this (by decide)
  refine wpAny_Dict_walk (knd:=strKind bX wX) sf hl h0 f9 ?_;refine aO (R.alloc (o:=.map []) hn (ob:={cls:=.type "dict",data:=.dict #[]}) rfl λag S' e=>⟨[],Heap.DictOf.new s.heap,.nil,xh⟩) λR' S'=>?_
  refine h A (ρ.add l s.heap.objs.size) L {s with heap:=s.heap.push {cls:=.type "dict",data:=.dict #[]}} _ E pos room (X0.bY R' S') λkvs vs bp H₁ s₁ q fA p8 tZ Rk wG=>?_
  refine cps λG k=>?_
  refine dG q λhg Rl q=>?_
  have ea:bp l=some s.heap.objs.size:=p8.ext _ _ (aC.bP ..);refine ah (fA.obj _ _ hg) λa e1 hh=>cC hh λafa hd Rm _=>?_
  refine k ?_;rw[ea]at e1;obtain rfl:=ack e1;cases Rm;refine display_done_str Rk (by exact wG.p9▸Rl) hd λh' oA sb=>?_
  refine ah (ahd.mp oA) λob Ab _=>?_
  have bF:=Step.same (h:=s₁.heap) (h':=h') ea sb Ab;exact p (.ae l) _ bp (H₁.set l (.map kvs)) {s₁ with heap:=h',toks:=s₁.toks+vs.length} q (fA.tY ea sb ⟨_,oA,wG.step bF .none,xh⟩) ((S'.trans p8).trans bF) ⟨tZ.gens,tZ.os⟩ (.ae ea)
end
set_option tactic.hygienic true
section
variable{b:B}{x:Nd}{G:AH}{n:Nat}
noncomputable def qu (c:Bool)(y:U):List U:=match c with
 |true=>[y]
 |false=>[]
def dU(b:B)(x:Nd)(j:Nat)(G:AH)(n:Nat):AH where
 get
  |.dY=>some (.list (b.aa.map (λx=>.str x.kind)++qu (Nat.blt 0 j) (.str x.kind)))
  |.eR=>some (.list (b.aa.map (λx=>.str x.dT)++qu (Nat.blt 1 j) (.str x.dT)))
  |.names=>some (.list (b.aa.map (λx=>.str x.name)++qu (Nat.blt 2 j) (.str x.name)))
  |.attrs=>some (.list (b.aa.map (λx=>.aw x.attrs)++qu (Nat.blt 3 j) (.aw x.attrs)))
  |.eg=>some (.list (b.aa.map (λx=>.str x.text)++qu (Nat.blt 4 j) (.str x.text)))
  |.dJ=>some (.list (b.aa.map (λx=>.int x.bq)++qu (Nat.blt 5 j) (.int x.bq)))
  |l=>(hp b G n).get l
 new:=(hp b G n).new
theorem qv:xs++qu false y=xs:=afD _
theorem Rn:dU b x 0 G n=hp b G n:=by
 refine AH.ext (λl=>?_) (λl=>af5)
 induction l<;>first|rfl|exact afp (λz=>some (b8.list z)) qv
theorem Ro:(dU b x 0 G n).set .dY (.list ((b.aa.map (λx=>U.str x.kind))++[.str x.kind]))=dU b x 1 G n:=AH.eJ rfl (λl h=>by induction l<;>first|rfl|exact(h rfl).elim) λl=>af5
theorem Rp:(dU b x 1 G n).set .eR (.list ((b.aa.map (λx=>U.str x.dT))++[.str x.dT]))=dU b x 2 G n:=AH.eJ rfl (λl h=>by induction l<;>first|rfl|exact(h rfl).elim) λl=>af5
theorem Rq:(dU b x 2 G n).set .names (.list ((b.aa.map (λx=>U.str x.name))++[.str x.name]))=dU b x 3 G n:=AH.eJ rfl (λl h=>by induction l<;>first|rfl|exact(h rfl).elim) λl=>af5
theorem Rr:(dU b x 3 G n).set .attrs (.list ((b.aa.map (λx=>U.aw x.attrs))++[.aw x.attrs]))=dU b x 4 G n:=AH.eJ rfl (λl h=>by induction l<;>first|rfl|exact(h rfl).elim) λl=>af5
theorem Rt:(dU b x 4 G n).set .eg (.list ((b.aa.map (λx=>U.str x.text))++[.str x.text]))=dU b x 5 G n:=AH.eJ rfl (λl h=>by induction l<;>first|rfl|exact(h rfl).elim) λl=>af5
theorem Ru:(dU b x 5 G n).set .dJ (.list ((b.aa.map (λx=>U.int x.bq))++[.int x.bq]))=dU b x 6 G n:=AH.eJ rfl (λl h=>by induction l<;>first|rfl|exact(h rfl).elim) λl=>af5
theorem Rv(hk:x.kids=[]):((dU b x 6 G n).add (.bV b.aa.length) (.list [])).set .eF (.list (((List.range b.aa.length).map λi=>U.ae (.bV i))++[.ae (.bV b.aa.length)]))=hp {b with aa:=b.aa++[x]} G n:=by
 refine AH.eJ ?_ (λl h=>?_) λl=>?_
 ·show some (b8.list ((List.range (b.aa++[x]).length).map _))=_;rw[afl,afF,List.range_succ,afz];rfl
 ·induction l with
  |bV i=>
   show((b.aa++[x])[i]?).map _=_;by_cases q:i=b.aa.length
   ·subst q;rw[AH.bP];simp[hk,cF]
   ·rw[AH.bQ _ _ (by intro e;injection e;exact q ‹_›)]
    show _=(b.aa[i]?).map _;by_cases q2:i<b.aa.length
    ·rw[afU q2]
    ·rw[afK (by rw[afl,afF];lia),afK (by exact af0 q2)]
  |eF=>exact(h rfl).elim
  |dY|eR|names|attrs|eg|dJ=>
   rw[AH.bQ _ _ (by intro e;exact nomatch e)]
   show some (b8.list ((b.aa++[x]).map _))=_;rw[afz];rfl
  |_=>exact(AH.bQ _ _ (by intro e;exact nomatch e)).symm
 ·induction l with
  |bV i=>
   show(b.aa++[x]).length<=i↔(b.aa.length<=i/\Loc.bV i≠Loc.bV b.aa.length);rw[afl,afF];constructor
   ·intro h;exact⟨by exact Nat.le_of_lt ‹_›,λe=>by injection e;lia⟩
   ·intro h;have:i≠b.aa.length:=λe=>h.2 (e▸rfl)
    lia
  |_=>exact⟨λh=>⟨h,λe=>nomatch e⟩,λh=>h.1⟩
theorem qw:f7 (dU b x j G n) (.ae .tree) cN eI:=⟨.tree,.dg,rfl,rfl,rfl⟩
theorem Rw{H:AH}(e1:H.get l=some (.inst C d))(e2:H.get d=some (.dict es))(h1:∀k,l≠.aK k)(h2:∀k,d≠.aK k):f7 (H.add (.aK k) o) (.ae l) C es:=
 ⟨l,d,rfl,(AH.bQ _ _ (h1 k)).trans e1,(AH.bQ _ _ (h2 k)).trans e2⟩
theorem nq{H:AH}:(H.add l o).set l o'=H.add l o':=by
 refine AH.ext (λk=>?_) λk=>af5
 by_cases q:k=l
 ·subst q;rw[AH.rG,AH.bP]
 ·rw[AH.rH _ _ q,AH.bQ _ _ q,AH.bQ _ _ q]
end
section
variable{d:Nat}{b:B}{x:Nd}{G:AH}{n:Nat}{Q:U->AH->Prop}
theorem si{xs:List α}(h:ay xs.length=true):(xs.map f).length<=1000000:=by rw[afj];have:=d9 h;exact ads ‹_› (by decide)
theorem A.dY(hs:ay b.aa.length=true)(q:Q .none (dU b x 1 G n)):aU d (.builtin "list.append") [.ae .dY,.str x.kind] (dU b x 0 G n) Q:=
 Call.append (xs:=b.aa.map (λx=>U.str x.kind)) (afp (λz=>some (b8.list z)) qv) (si hs) (by rw[Ro];exact q)
theorem A.eR(hs:ay b.aa.length=true)(q:Q .none (dU b x 2 G n)):aU d (.builtin "list.append") [.ae .eR,.str x.dT] (dU b x 1 G n) Q:=
 Call.append (xs:=b.aa.map (λx=>U.str x.dT)) (afp (λz=>some (b8.list z)) qv) (si hs) (by rw[Rp];exact q)
theorem A.names(hs:ay b.aa.length=true)(q:Q .none (dU b x 3 G n)):aU d (.builtin "list.append") [.ae .names,.str x.name] (dU b x 2 G n) Q:=
 Call.append (xs:=b.aa.map (λx=>U.str x.name)) (afp (λz=>some (b8.list z)) qv) (si hs) (by rw[Rq];exact q)
theorem A.attrs(hs:ay b.aa.length=true)(q:Q .none (dU b x 4 G n)):aU d (.builtin "list.append") [.ae .attrs,.aw x.attrs] (dU b x 3 G n) Q:=
 Call.append (xs:=b.aa.map (λx=>U.aw x.attrs)) (afp (λz=>some (b8.list z)) qv) (si hs) (by rw[Rr];exact q)
theorem A.eg(hs:ay b.aa.length=true)(q:Q .none (dU b x 5 G n)):aU d (.builtin "list.append") [.ae .eg,.str x.text] (dU b x 4 G n) Q:=
 Call.append (xs:=b.aa.map (λx=>U.str x.text)) (afp (λz=>some (b8.list z)) qv) (si hs) (by rw[Rt];exact q)
theorem A.dJ(hs:ay b.aa.length=true)(q:Q .none (dU b x 6 G n)):aU d (.builtin "list.append") [.ae .dJ,.int x.bq] (dU b x 5 G n) Q:=
 Call.append (xs:=b.aa.map (λx=>U.int x.bq)) (afp (λz=>some (b8.list z)) qv) (si hs) (by rw[Ru];exact q)
theorem A.Rx(AO:x.bq=-1)(hs:ay b.aa.length=true)(q:Q .none (dU b x 6 G n)):aU d (.builtin "list.append") [.ae .dJ,.int (-1)] (dU b x 5 G n) Q:=by
 have:=A.dJ (d:=d) (x:=x) hs q
 replace this:=AO▸this
 exact this
theorem A.eF(hk:x.kids=[])(hs:ay b.aa.length=true)(q:Q .none (hp {b with aa:=b.aa++[x]} G n)):aU d (.builtin "list.append") [.ae .eF,.ae (.bV b.aa.length)] ((dU b x 6 G n).add (.bV b.aa.length) (.list [])) Q:=
 Call.append (xs:=(List.range b.aa.length).map λi=>U.ae (.bV i)) ((AH.bQ _ _ (by intro e;exact nomatch e)).trans rfl) (by rw[afj,List.length_range];have:=d9 hs;exact ads ‹_› (by decide)) (by rw[Rv hk];exact q)
theorem A.new:(dU b x 6 G n).new (.bV b.aa.length):=afm _
theorem A.len(hs:ay b.aa.length=true)(q:Q (.int ((b.aa.length:Int)+1)) (hp {b with aa:=b.aa++[x]} G n)):aU d (.builtin "len") [.ae .dY] (hp {b with aa:=b.aa++[x]} G n) Q:=by
 refine Call.len (xs:=(b.aa++[x]).map λx=>U.str x.kind) (.list rfl) (by rw[afj,afl,afF];have:=d9 hs;exact bh (afS this)) ?_
 rw[afj,afl,afF];exact q
end
section
variable{d:Nat}{b:B}{G:AH}{n:Nat}
theorem R.FW(h:nd b i=some x)(q:Q (.int x.bq) ((hp b G n).add (.aK k) o)):
  (∃T,d0 ((hp b G n).add (.aK k) o) (.ae .dJ) T/\gI T)/\br d getItem (.ae .dJ) (.int i) ((hp b G n).add (.aK k) o) Q:=
 have e:((hp b G n).add (.aK k) o).get .dJ=some (.list (b.aa.map λx=>.int x.bq)):=(AH.bQ _ _ (by intro e;cases e)).trans rfl
 ⟨jE e,Op.lz (.list e) (jD h) q⟩
theorem FX:f7 ((hp b G n).add (.aK k) o) (.ae .tree) cN eI:=Rw rfl rfl (by intro k e;cases e) (by intro k e;cases e)
theorem L.Ry{k:Nat}(hs:ay xs.length=true)(q:Q .none ((hp b G n).add (.aK k) (.list (cF (xs++[u]))))):aU d (.builtin "list.append") [.ae (.aK k),.int u] ((hp b G n).add (.aK k) (.list (cF xs))) Q:=by
 refine Call.append (AH.bP ..) (by rw[oG];have:=d9 hs;exact ads ‹_› (by decide)) ?_
 rw[nq,show cF xs++[U.int u]=cF (xs++[u]) by rw[Ap];rfl]
 exact q
theorem L.lC:(hp b G n).new (.aK n):=afm _
end
section
variable{d:Nat}{f:aP}{m:Lo}{b:B}{G:AH}{n:Nat}
theorem Op.Rz(q:Q (.bool (ar xs k)) ((hp b G n).add (.aK j) (.list (cF xs)))):br d (compareOp .In) (.int k) (.ae (.aK j)) ((hp b G n).add (.aK j) (.list (cF xs))) Q:=
 Op.Fd (.list (AH.bP ..)) q
theorem RA(h:kF b bq p node at_=some b'):ay p.kids.length=true/\ay b.aa.length=true/\(0<=at_/\at_<=p.kids.length)/\
  ∃x,nd (b.b5 bq.toNat {p with kids:=p.kids.take at_.toNat++node::p.kids.drop at_.toNat}) node=some x/\b'=(b.b5 bq.toNat {p with kids:=p.kids.take at_.toNat++node::p.kids.drop at_.toNat}).b5 node.toNat {x with bq:=bq}:=by
 unfold kF at h;split at h
 ·rename_i c;refine bE h λx h1 h=>?_
  apply sE h;exact⟨c.1,c.2.1,c.2.2,x,h1,rfl⟩
 ·exact af h
theorem RB:(b.b5 i x).aa.length=b.aa.length:=af6 ..
end
theorem RC:kX.lookup 116=some (H.tu []):=rfl
theorem FY(R:bj ρ X h)(k:kX.lookup a=some (H.tu [])):RelV h ρ (.aG []) (.ref a):=
 have e:=R.bs.X a _ k
 .aG (n:=0) (R.base a _ e) (λl q=>by(have:=R.low l a q);replace this:=e▸this;cases this) .nil
section
variable{d:Nat}{X:AH}
theorem RD(h:jJ t=some as):∃tl,t.rest=.aG as::tl:=by
 unfold jJ at h;split at h
 ·rename_i as' tl e;apply sE h;exact⟨tl,e⟩
 ·exact af h
end
theorem FZ{l:List (Str×Str)}:(l.map λp=>(p.1,U.str p.2)).lookup x=(l.lookup x).map U.str:=by
 induction l with
 |nil=>rfl
 |cons p r ih=>
  rw[agk,afx,afx,ih];cases x==p.1<;>rfl
def uI:List (Str×U):=[(S "td",.str (S "in cell")),(S "th",.str (S "in cell")),(S "tr",.str (S "in row")),(S "tbody",.str (S "in table body")),(S "thead",.str (S "in table body")),(S "tfoot",.str (S "in table body")),(S "caption",.str (S "in caption")),(S "colgroup",.str (S "in column group")),(S "table",.str (S "in table")),(S "head",.str (S "in head")),(S "body",.str (S "in body")),(S "frameset",.str (S "in frameset"))]
theorem RE:uI=wZ.map λp=>(p.1,U.str p.2):=rfl
theorem RF{x:Str}:(uI.lookup x).getD (.str (S ""))=.str (j5 x):=by
 rw[RE];rw[FZ];unfold j5;cases wZ.lookup x<;>rfl
theorem qx:∃o,kX.lookup 3=some o:=⟨_,show kX.lookup 3=some (H.o3 wX.params) by kernel_rfl⟩
theorem RG:(uI.map (·.1)).Nodup:=by
 have:uI.map (·.1)=wZ.map (·.1):=rfl;rw[this];decide+kernel
set_option tactic.hygienic false
mutual
inductive ew (l:Loc):U->Prop
 |none:ew l .none
 |bool (b:Bool):ew l (.bool b)
 |int (i:Int):ew l (.int i)
 |str (s:Str):ew l (.str s)
 |val (v:Value):ew l (.val v)
 |ae {k:Loc} (h:k≠l):ew l (.ae k)
 |aG {xs:List U} (h:fF l xs):ew l (.aG xs)
 |aw {xs:List U} (h:fF l xs):ew l (.aw xs)
inductive fF (l:Loc):List U->Prop
 |nil:fF l []
 |cons {x:U} {xs:List U} (a:ew l x) (b:fF l xs):fF l (x::xs)
end
open Classical in
def aC.cB (ρ:aC)(l:Loc):aC:=λx=>if x=l then none else ρ x
theorem aC.qy(ρ:aC)(n:x≠l):ρ.cB l x=ρ x:=if_neg n
theorem aC.F0(ρ:aC)(l:Loc):ρ.cB l l=none:=if_pos rfl
theorem aC.nr{ρ:aC}(e:ρ.cB l x=some a):ρ x=some a/\x≠l:=by
 by_cases q:x=l
 ·rw[q,aC.F0]at e;exact af e
 ·rw[aC.qy _ q]at e;exact⟨e,q⟩
theorem RelV.no(n:ρ l=Option.none)(r:RelV h ρ x v):ew l x:=
 RelV.rec (motive_1:=λx _ _=>ew l x) (motive_2:=λxs _ _=>fF l xs) .none .bool (λi _=>.int i) (λs _=>.str s) .val (λe=>.ae λq=>by rw[q,n]at e;exact af e) (λ_ _ _ i=>.aG i) (λ_ _ _ i=>.aw i) .nil (λ_ _ a b=>.cons a b) r
theorem aZ.no(n:ρ l=none)(r:aZ h ρ xs vs):fF l xs:=
 aZ.rec (motive_1:=λx _ _=>ew l x) (motive_2:=λxs _ _=>fF l xs) .none .bool (λi _=>.int i) (λs _=>.str s) .val (λe=>.ae λq=>by rw[q,n]at e;exact af e) (λ_ _ _ i=>.aG i) (λ_ _ _ i=>.aw i) .nil (λ_ _ a b=>.cons a b) r
theorem xi{ρ:aC}(f:∀k,ρ k≠some a):∀k,ρ.cB l k≠some a:=λk e=>f k (aC.nr e).1
theorem ew.F1(h:ew l (.ae m)):m≠l:=by cases h with|ae n=>exact n
theorem ew.wB(h:ew l (.aG xs)):fF l xs:=by cases h with|aG n=>exact n
theorem ew.wC(h:ew l (.aw xs)):fF l xs:=by cases h with|aw n=>exact n
theorem fF.un(h:fF l (x::xs)):ew l x/\fF l xs:=by cases h with|cons a b=>exact⟨a,b⟩
theorem RelV.cB{h:Heap}(r:RelV h ρ x v):ew l x->RelV h (ρ.cB l) x v:=
 RelV.rec (motive_1:=λx v _=>ew l x->RelV h (ρ.cB l) x v) (motive_2:=λxs vs _=>fF l xs->aZ h (ρ.cB l) xs vs) (λ_=>.none) (λb _=>.bool b) (λi t _=>.int i t) (λs t _=>.str s t) (λv _=>.val v) (λe n=>.ae ((aC.qy _ n.F1).trans e)) (λe f _ i n=>.aG e (xi f) (i n.wB)) (λe f _ i n=>.aw e (xi f) (i n.wC)) (λ_=>.nil) (λ_ _ a b n=>.cons (a n.un.1) (b n.un.2)) r
theorem aZ.cB{h:Heap}(r:aZ h ρ xs vs):fF l xs->aZ h (ρ.cB l) xs vs:=
 aZ.rec (motive_1:=λx v _=>ew l x->RelV h (ρ.cB l) x v) (motive_2:=λxs vs _=>fF l xs->aZ h (ρ.cB l) xs vs) (λ_=>.none) (λb _=>.bool b) (λi t _=>.int i t) (λs t _=>.str s t) (λv _=>.val v) (λe n=>.ae ((aC.qy _ n.F1).trans e)) (λe f _ i n=>.aG e (xi f) (i n.wB)) (λe f _ i n=>.aw e (xi f) (i n.wC)) (λ_=>.nil) (λ_ _ a b n=>.cons (a n.un.1) (b n.un.2)) r
theorem dB.cB(n:iD l=none):∀{es:List (Str×U)} {ds j6:List DictEntry},dB h' iD es j6->dB h ρ es ds->dB h (ρ.cB l) es ds:=λ{es} {ds} {j6} gM r=>
 dB.rec (motive:=λes ds _=>∀j6,dB h' iD es j6->dB h (ρ.cB l) es ds) (λ_ _=>.nil) (λa _ i j6 q=>by cases q with|cons c d=>exact .cons (a.cB (c.no n)) (i _ d)) r j6 gM
theorem bW.cB(n:iD l=none):∀{es:List (Str×U)} {ds j6:List (Str×Value)},bW h' iD es j6->bW h ρ es ds->bW h (ρ.cB l) es ds:=λ{es} {ds} {j6} gM r=>
 bW.rec (motive:=λes ds _=>∀j6,bW h' iD es j6->bW h (ρ.cB l) es ds) (λ_ _=>.nil) (λa _ i j6 q=>by cases q with|cons c d=>exact .cons (a.cB (c.no n)) (i _ d)) r j6 gM
theorem gX.cB(n:iD l=none)(gM:gX h' iD o a')(r:gX h ρ o a):gX h (ρ.cB l) o a:=by
 induction o with
 |list xs=>
  refine cG r λvs k e r=>?_
  refine cG gM λ_ _ _ gM=>?_
  exact⟨vs,k,e,r.cB (gM.no n)⟩
 |inst C d=>
  refine ah r λda e r=>?_
  refine ah gM λ_ uJ _=>?_
  exact⟨da,(aC.qy _ (λq=>by rw[q,n]at uJ;exact af uJ)).trans e,r⟩
 |dict es=>
  refine cG r λds k e r=>?_
  refine cG gM λ_ _ _ gM=>?_
  exact⟨ds,k,e,dB.cB n gM r⟩
 |map es=>
  refine cC r λds e r z=>?_
  refine cC gM λ_ _ gM _=>?_
  exact⟨ds,e,bW.cB n gM r,z⟩
 |cell x=>
  refine cK r λob u e c r=>?_
  refine⟨ob,u,e,c,?_⟩
  induction x with
  |none=>exact r
  |some x=>
   refine cps λG k=>?_
   refine ah r λv e1 r=>?_
   refine cK gM λ_ _ _ _ hh=>ah hh λ_ _ gM=>?_
   refine k ?_;exact⟨v,e1,r.cB (gM.no n)⟩
theorem bj.cB{h cM:Heap}(AP:bj iD H cM)(n:iD l=none)(R:bj ρ (H.add l o) h):bj (ρ.cB l) H h:=by
 refine⟨R.bs,λk o' e=>?_,λk a e=>R.low k a (aC.nr e).1,λk a e=>R.live k a (aC.nr e).1,λk k' a e e'=>R.inj k k' a (aC.nr e).1 (aC.nr e').1,λk e=>?_,R.base,R.top⟩
 ·refine ah (AP.obj k o' e) λa' uJ gM=>?_
  have hk:k≠l:=λq=>by rw[q,n]at uJ;exact af uJ
  refine ah (R.obj k o' ((AH.bQ _ _ hk).trans e)) λa e1 r=>?_
  exact⟨a,(aC.qy _ hk).trans e1,gX.cB n gM r⟩
 ·by_cases q:k=l
  ·exact q▸aC.F0 ..
  ·rw[aC.qy _ q];exact R.new k ⟨e,q⟩
theorem bO.cB{X:Option Addr}(S:bO X iD cM ρ h)(n:iD l=none):bO X iD cM (ρ.cB l) h:=
 ⟨λk a e=>(aC.qy _ (λq=>by rw[q,n]at e;exact af e)).trans (S.ext k a e),λk a e=>S.new k a (aC.nr e).1,S.keep,S.live⟩
set_option tactic.hygienic true
noncomputable abbrev aP.comp (scope cs:Scope)(pe:Env)(h1:relabel scope pe=cs)(h2:pe.globals=mainGlobals)(h3:pe.builtins=builtinsNs)(cm:List (Str×Loc)):aP:=
 ⟨cs,λL c=>compEnvC scope c L pe,cm,λ_ _=>⟨h1,rfl,h2,h3,rfl⟩⟩
section
variable{d:Nat}{f:aP}{m:Lo}{H:AH}
def RH(d:Nat)(f:aP)(m:Lo)(X:AH)(b:Bool):List Expr->Prop
 |[]=>b=true
 |[c]=>eH d f m X c λb' X'=>b'=b/\X'=X
 |_=>False
structure AQ(d:Nat)(f:aP)(m:Lo)(X:AH)(ifs:List Expr)(elt:Expr)(b:Bool)(r:U):Prop where
 ifs:RH d f m X b ifs
 elt:b=true->aQ d f m X elt λz X'=>z=r/\X'=X
theorem RI:(H.add l o).set l o'=H.add l o':=by
 refine AH.eJ (AH.bP ..) (λx h=>?_) λx=>af5
 rw[AH.bQ _ _ h,AH.bQ _ _ h]
theorem fF.all:∀{xs:List U},(∀x∈xs,ew l x)->fF l xs
 |[],_=>.nil
 |x::r,h=>.cons (h x (.head _)) (fF.all λy hy=>h y (.tail _ hy))
def jL(H:AH)(aK:Loc)(xs:List U)(t:U->Bool)(g:U->U)(i:Nat):AH:=H.add aK (.list (((xs.take i).filter t).map g))
theorem kA.cell(g:kA A L it n ys G Ok)(l:Loc)(D:Addr):kA A L it n ys (λi ρ h=>G i ρ h/\ρ l=some D) Ok where
 at_:=λi ρ h q=>g.at_ i ρ h q.1
 step:=λi ρ h ag h' q fr ne S D=>⟨g.step i ρ h ag h' q.1 fr ne S D,S.ext _ _ q.2⟩
 item:=λi ρ H s Q E aR q I R k=>g.item i ρ H s Q E aR q.1 I R λh' tk v o' eb e' z=>k h' tk v o' eb e' λS D=>⟨⟨(z S D).1,q.2⟩,(z S D).2⟩
 last:=λρ H s Q E q=>g.last ρ H s Q E q.1
theorem St.only(X:St ρ H L ((x,v)::m) h):St ρ H L [(x,v)] h:=by
 refine ah X.fr λmm F M=>?_
 refine⟨X.bR,⟨mm,F,λy av e=>M y av ?_⟩,X.free,X.cells⟩
 rw[l4]at e ⊢;by_cases q:y=x
 ·rw[if_pos q]at e ⊢;exact e
 ·rw[if_neg q]at e;exact af e
theorem d8.add(I:d8 H v xs)(R:bj ρ H h)(n:H.new l):d8 (H.add l o) v xs:=by
 induction I with
 |list e=>exact .list ((AH.bQ _ _ λq=>by(rw[q]at e;refine ah (R.obj _ _ e) λb e1 _=>?_;rw[R.new _ n]at e1;exact af e1)).trans e)
 |aw=>exact .aw _
section
variable{A:Around}{bp ρ:aC}{s₁ s:Shared}{H₁:AH}{v:U}{a D C it:Addr}{elt iter:Expr}{x:Str}{px pos:Pos}{ifs:List Expr}{scope cs:Scope}{jc:List (Str×Loc)}{cl:List (Str×Addr)}{pe:Env}
theorem RJ(xs:List U)(t:U->Bool)(g:U->U)(aK:Loc)
  (I:d8 H₁ v xs)(hn:H₁.new aK)(hs:xs.length<=1000000)
  (hq:∀y∈xs,∀acc,AQ d (aP.comp scope cs pe h1 h2 h3 jc) [(x,y)] (H₁.add aK (.list acc)) ifs elt (t y) (g y))
  (hk:cs.kind=.function)(hl:cs.names.lookup x=some .local)(room:eS A d)(fA:bj bp H₁ s₁.heap)(K:rQ C it s₁.heap)
  (Y:l6 (cm:=jc) ⟨C,cl⟩ it bp s₁ ρ (jL H₁ aK xs t g 0) m s)(g0:(RelV s.heap ρ v (.ref a)/\s.heap.IsListIter it a 0)/\ρ aK=some D)
  (stop:∀ρ m bw,St ρ (jL H₁ aK xs t g xs.length) (cm:=jc) ⟨C,cl⟩ m bw.heap->bO (some C) bp s₁.heap ρ bw.heap->dH s₁ bw->ρ aK=some D->R (.ok .next) bw):
  codeAny (model bX wX) A (.compLoop (.ListComp elt [⟨.Name x px,iter,ifs,0⟩] scope pos) 0 (.ref it) (.ref D) (compEnvC scope cl C pe)) R s:=by
 have IG:=(kA.list (L:=C) (it:=it) (a:=a) (v:=v) (xs:=xs) room.1).cell aK D;refine codeAny_compLoop_tests (LJ (cm:=jc) ⟨C,cl⟩ it bp s₁ xs.length (λi _ H=>H=jL H₁ aK xs t g i) (λi ρ h=>(RelV h ρ v (.ref a)/\h.IsListIter it a i)/\ρ aK=some D)) (λk lx hJ=>?_) xs.length (.mk (afw _) rfl Y g0)
 cases hJ with|mk hi hI Y gg=>
 subst hI;rename_i i jC qb;refine E5 (f:=aP.comp scope cs pe h1 h2 h3 jc) IG K fA Y hi gg (I.add fA hn) hk hl (λaR sj oR AR=>?_) λe bw iH bF cS=>stop _ _ _ (e▸iH) bF cS gg.2
 have ey:xs.getD i .none=xs[i]:=by rw[agm,afq aR];rfl
 replace oR:=ey▸oR
 have AS:=oR.X.only;have ok:=hq xs[i] (agR aR) (((xs.take i).filter t).map g);have tk:=take_succ_filter t xs i xs[i] (afq aR);have fin:∀kJ (iL:Shared) F2,St kJ (jL H₁ aK xs t g (i+1)) (cm:=jc) ⟨C,cl⟩ F2 iL.heap->Step jC sj.heap kJ iL.heap->dH sj iL->∃k,k<xs.length-i/\LJ (cm:=jc) ⟨C,cl⟩ it bp s₁ xs.length (λi _ H=>H=jL H₁ aK xs t g i) (λi ρ h=>(RelV h ρ v (.ref a)/\h.IsListIter it a i)/\ρ aK=some D) k iL:=λkJ iL F2 qz nu sm=>by
  refine ah (IG.at_ _ _ _ AR) λo e _=>?_
  exact⟨_,agD aR (afY _),.mk aR rfl ⟨qz,oR.S.trans (.weak nu),oR.z.trans sm,nu.free oR.fr e⟩ (IG.step _ _ _ _ _ AR oR.fr K.ne (.weak nu) oR.X.dict)⟩
 have yes:t xs[i]=true->∀(iL:Shared) kJ (En:Value->Shared->Prop),St kJ (jL H₁ aK xs t g i) (cm:=jc) ⟨C,cl⟩ [(x,xs[i])] iL.heap->Step jC sj.heap kJ iL.heap->dH sj iL->
   wpAny (model bX wX) A (eval elt (compEnvC scope cl C pe)) (λx AU=>wpAny (model bX wX) A (call (.builtin "list.append") [.ref D,x]) (λ_ s'=>∃k,k<xs.length-i/\LJ (cm:=jc) ⟨C,cl⟩ it bp s₁ xs.length (λi _ H=>H=jL H₁ aK xs t g i) (λi ρ h=>(RelV h ρ v (.ref a)/\h.IsListIter it a i)/\ρ aK=some D) k s') En AU) En iL:=by
  intro hb iL kJ En qz nu sm;refine ok.elt hb A kJ ⟨C,cl⟩ iL _ _ room qz λz zv RK afb AU RL F3 F4 RM RN=>?_
  refine aO RL λjd bb=>?_;subst jd;subst bb
  have F5:=nu.trans F4;refine Call.append (d:=d) (l:=aK) (x:=g xs[i]) (Q:=λ_ H'=>H'=jL H₁ aK xs t g (i+1)) (AH.bP ..) ?_ ?_ A RK AU _ _ _ room F3 (.cons (.ae (F5.ext _ _ AR.2)) (.cons RN .nil)) λy yv RO afc RP RQ RS F6 RT afd=>?_
  ·rw[afj];exact ads (ag2 ..) (ads (List.length_take_le' ..) hs)
  ·unfold jL;rw[RI,tk,if_pos hb,afz];rfl
  ·subst RQ;exact fin RO RP _ ((qz.bY F3 F4).bY RS F6) (F5.trans F6) ((sm.trans RM).trans RT)
 have no:t xs[i]=false->jL H₁ aK xs t g i=jL H₁ aK xs t g (i+1):=λhb=>by
  unfold jL;rw[tk,hb,if_neg Bool.false_ne_true,afD]
 have AW:=ok.ifs;cases ifs with
 |nil=>
  refine wpAny_tests_nil ?_;rw[if_pos rfl];exact yes AW sj jC _ AS .refl .refl
 |cons c cr=>
  induction cr with
  |nil=>
   refine wpAny_tests_one (AW A jC ⟨C,cl⟩ sj _ _ room AS λb kJ afe iL RU RV nu sm=>?_)
   refine aO RU λjd bb=>?_;subst jd;subst bb
   have qz:St kJ (jL H₁ aK xs t g i) (cm:=jc) ⟨C,cl⟩ [(x,xs[i])] iL.heap:=AS.bY RV nu;cases hb:t xs[i]with
   |true=>rw[if_pos rfl];exact yes hb iL kJ _ qz nu sm
   |false=>rw[if_neg Bool.false_ne_true];exact fin kJ iL _ (no hb▸qz) nu sm
  |cons c2 cr=>exact AW.elim
theorem F7{RR:Value->Addr->Result->Shared->Prop}
  (h1:relabel scope (f.env L)=cs)(hcl:∀ρ,mP ρ f.cm L.cl->mP ρ jc cl)
  (xs:List U)(t:U->Bool)(g:U->U)(aK:Loc)
  (I:d8 H₁ v xs)(hn:H₁.new aK)(hs:xs.length<=1000000)(RW:∀y∈xs,t y=true->ew aK (g y))
  (hq:∀y∈xs,∀acc,AQ d (aP.comp scope cs (f.env L) h1 (f.ok L.L L.cl).globals (f.ok L.L L.cl).builtins jc) [(x,y)] (H₁.add aK (.list acc)) ifs elt (t y) (g y))
  (jB:∀y∈scope.names,y.2≠.cell)(F8:scope.kind=.function)(hx:scope.names.lookup x=some .local)
  (room:eS A d)(X:St bp H₁ L m s₁.heap)(r:RelV s₁.heap bp v (.ref a))
  (RX:∀D C ag s' mC,hX.get? C=none->s₁.heap.get? C=none->s'.heap.Ns C mC->(∀l,ag l≠some C)->bj ag H₁ s'.heap->Step bp s₁.heap ag s'.heap->dH s₁ s'->(∃b o,hX.objs.size<=b+1/\b≠C/\s'.heap.get? b=some o)->
   RelV s'.heap ag (.aw ((xs.filter t).map g)) (.ref D)->RR (.ref D) C (.ok .next) s'):
  wpAny (model bX wX) A (pyIter (.ref a)) (λit bw=>wpAny (model bX wX) A (newList []) (λacc dK=>wpAny (model bX wX) A (newFunctionEnv scope (f.env L).globals cl [] (f.env L).qual none .none (some (f.env L))) (λF9 lx=>
   codeAny (model bX wX) A (.compStart (.ListComp elt [⟨.Name x px,iter,ifs,0⟩] scope pos) 0 it acc {F9 with scope:=relabel scope (f.env L)}) (RR acc F9.locals) lx) E dK) E bw) E' s₁:=by
 have R:=X.bR;refine dX (I.at R r) λa' vs n e' ho rl=>?_
 cases e';refine wpAny_pyIter_list ho.isList ?_;refine wpAny_newObj_type (wpAny_newFunctionEnv jB (by intro y hy;simp at hy) (λoS d7 xj=>?_) F8) (by show([]:List Value).toArray.size<=sizeLine;decide)
 dsimp only at d7 xj ⊢;have Ga:(s₁.heap.push {cls:=.type "list_iterator",data:=.fields #[.ref a,.int 0 0]}).IsListIter s₁.heap.objs.size a 0:=⟨_,afW _ rfl,rfl,rfl⟩;have R1:=R.push {cls:=.type "list_iterator",data:=.fields #[.ref a,.int 0 0]};have S1:Step bp s₁.heap bp (s₁.heap.push {cls:=.type "list_iterator",data:=.fields #[.ref a,.int 0 0]}):=Step.push _;have ny:(s₁.heap.push {cls:=.type "list_iterator",data:=.fields #[.ref a,.int 0 0]}).objs.size=s₁.heap.objs.size+1:=Heap.size_push ..;generalize s₁.heap.push {cls:=.type "list_iterator",data:=.fields #[.ref a,.int 0 0]}=g1 at d7 xj R1 S1 ny Ga ⊢;refine aO (R1.alloc (l:=aK) (ob:={cls:=.type "list",dict:=none,data:=.seq ([]:List Value).toArray}) (o:=.list []) hn rfl (λag S' e=>⟨[],0,e,.nil⟩)) λR2 S2=>?_
 have k2:∀b o,g1.get? b=some o->(g1.push {cls:=.type "list",dict:=none,data:=.seq ([]:List Value).toArray}).get? b=some o:=λb o e=>afy _ e
 have xl:(g1.push {cls:=.type "list",dict:=none,data:=.seq ([]:List Value).toArray}).objs.size=g1.objs.size+1:=Heap.size_push ..;generalize g1.push {cls:=.type "list",dict:=none,data:=.seq ([]:List Value).toArray}=g2 at d7 xj R2 S2 xl k2 ⊢;have sC:=ku g2;have out:∀b,s₁.heap.objs.size<=b->s₁.heap.get? b=none:=λb hb=>by
  cases q:s₁.heap.get? b with
  |none=>rfl
  |some o=>exact absurd (af8 q) (ahg.mpr hb)
 have oC:s₁.heap.get? g2.objs.size=none:=out _ (by rw[xl,ny];exact agq _ 2)
 have oI:=out _ (afm _);have k3:∀b o,g2.get? b=some o->oS.get? b=some o:=λb o e=>
  (xj.2 b λq=>by rw[q,sC]at e;exact af e).trans (afy _ e)
 have S3:Step bp s₁.heap (bp.add aK g1.objs.size) oS:=(S1.trans S2).trans (Step.keeps k3);have nt:bp aK=none:=R.new aK hn;have RY:∀l,bp.add aK g1.objs.size l≠some g2.objs.size:=λl e=>by
  refine aF (R2.live l _ e) λo q=>?_
  rw[sC]at q;exact af q
 have top:=R.top;have XC:St (bp.add aK g1.objs.size) (H₁.add aK (.list [])) (cm:=jc) ⟨g2.objs.size,cl⟩ [] oS:=
  ⟨R2.keeps k3,⟨_,⟨d7,(R2.keeps k3).base,cG top λb o' q z=>ads q (by rw[xl,ny];exact ads (af8 z) (agq _ 2))⟩,λx av e=>by exact af e⟩,RY,hcl _ (X.cells.ext S3)⟩
 have Gb:oS.IsListIter s₁.heap.objs.size a 0:=Ga.at λo e=>k3 _ _ (k2 _ _ e)
 have RZ:∀l,bp.add aK g1.objs.size l≠some s₁.heap.objs.size:=λl e=>by
  by_cases q:l=aK
  ·rw[q,aC.bP,ny]at e;exact ag6 _ (ack e)
  ·rw[aC.bQ _ _ q]at e;refine aF (R.live l _ e) λo q=>?_
   rw[oI]at q;exact af q
 have Gd:∀dK:Shared,dK.heap=oS->dH s₁ dK->codeAny (model bX wX) A (.compLoop (.ListComp elt [⟨.Name x px,iter,ifs,0⟩] scope pos) 0 (.ref s₁.heap.objs.size) (.ref g1.objs.size) (compEnvC scope cl g2.objs.size (f.env L))) (RR (.ref g1.objs.size) g2.objs.size) dK:=by
  intro dK e3 z3;subst e3;refine RJ (h1:=h1) (h2:=(f.ok L.L L.cl).globals) (h3:=(f.ok L.L L.cl).builtins) (jc:=jc) (s₁:=s₁) (m:=[]) xs t g aK I hn hs hq (h1▸F8) (h1▸lookup_relabel_local hx) room R ⟨oI,R.z7 oI,λe=>by rw[xl,ny]at e;exact absurd e (afZ (Nat.lt_succ_of_lt (afY _)))⟩
   ⟨XC,.weak S3,z3,RZ⟩ ⟨⟨r.step S3 .none,Gb⟩,aC.bP ..⟩ λjC qb bw iH bF cS eD=>?_
  have T':=bF.fresh oC;have R':=iH.bR;unfold jL at R';rw[List.take_length]at R';refine ah iH.fr λmC FC _=>?_
  refine ah (R'.obj aK _ (AH.bP ..)) λbD Ge hh=>cG hh λvsD nD R3 R4=>?_
  rw[eD]at Ge;obtain rfl:=ack Ge;refine RX g1.objs.size g2.objs.size (jC.cB aK) bw mC (R.z7 oC) oC FC.ns (λl e=>iH.free l (aC.nr e).1) (bj.cB R nt R') (T'.cB nt) cS (R.z8 T' oC) (.aw R3 (λl e=>?_) (R4.cB (fF.all λz hz=>?_)))
  ·refine aO (aC.nr e) λe1 ne=>?_
   exact ne (R'.inj _ _ _ e1 eD)
  ·refine ah (afQ.mp hz) λy hy aM=>?_;subst aM
   refine aO (List.mem_filter.mp hy) λh1 h2=>?_
   exact RW y h1 h2
 exact codeAny_compStart_list (Gd _ rfl ⟨rfl,rfl⟩) (wpAny_pyIter_listiter (by exact Gb) (Gd _ rfl ⟨rfl,rfl⟩))
end
end
set_option tactic.hygienic false
noncomputable def oT (cl:List (Str×Addr)):List (Str×NameKind)->List (Str×Addr)->List (Str×Addr)
 |[],acc=>acc
 |y::r,acc=>oT cl r (if y.2==.free then(y.1,(cl.lookup y.1).getD 0)::acc else acc)
noncomputable def uK (cm:List (Str×Loc))(names:List (Str×NameKind)):List (Str×Loc):=names.filterMap λy=>if y.2==.free then(cm.lookup y.1).map λl=>(y.1,l)else none
noncomputable def AX (cm:List (Str×Loc))(names:List (Str×NameKind)):Bool:=names.all λy=>y.2 !=.free||(cm.lookup y.1).isSome
noncomputable def uL (f:aP)(scope:Scope):Scope:={scope with names:=scope.names.map λ(n,k)=>if(k==.free&&f.cs.kind==.function&&f.kind n==some .cell)then(n,.cell)else(n,k)}
theorem AY:relabel scope (f.env L)=uL f scope:=by
 delta relabel uL
 rw[(f.ok L.L L.cl).scope];have:∀n,(f.env L).kindOf n=f.kind n:=λn=>aP.kindOf rfl
 simp only[this]
theorem Gf:∀{names:List (Str×NameKind)} {acc:List (Str×Addr)},(∀y∈names,y.2=.free->∃c,env.cells.lookup y.1=some c)->
  (forIn names acc λ(x:Str×NameKind) (r:List (Str×Addr))=>if x.2==NameKind.free then do let a<-cellOf env x.1;pure (ForInStep.yield ((x.1,a)::r))else pure (ForInStep.yield r):Sem (List (Str×Addr)))=pure (oT env.cells names acc)
 |[],acc,_=>rfl
 |(n,k)::r,acc,h=>by
  rw[List.forIn_cons];unfold oT;have ih:=λacc=>Gf (names:=r) (acc:=acc) λy hy=>h y (.tail _ hy)
  by_cases q:k=.free
  ·subst q;obtain⟨c,e⟩:=h _ (.head _) rfl;have e':cellOf env n=pure c:=by unfold cellOf;rw[e]
   have e2:(env.cells.lookup n).getD 0=c:=by rw[e];rfl
   have e3:((NameKind.free==NameKind.free)=true):=rfl;simp only[e',e2,if_pos e3,LawfulMonad.pure_bind];exact ih _
  ·have e3:¬((k==NameKind.free)=true):=by simpa using q
   simp only[if_neg e3,LawfulMonad.pure_bind];exact ih _
theorem R5(h:∀y∈scope.names,y.2=.free->∃c,env.cells.lookup y.1=some c):closureFor scope env=pure (oT env.cells scope.names []):=by
 have:=Gf (acc:=[]) h;unfold closureFor;simp only[]at this ⊢;show(do let r<-forIn scope.names [] _;pure r)=_;have e:(λ(x:Str×NameKind) (r:List (Str×Addr))=>if x.2==NameKind.free then(do let a<-cellOf env x.1;pure (ForInStep.yield ((x.1,a)::r)):Sem _)else pure (ForInStep.yield r))=
   λx r=>match x with|(name,kind)=>if kind==NameKind.free then(do let a<-cellOf env name;pure PUnit.unit;pure (ForInStep.yield ((name,a)::r)):Sem _)else(do pure PUnit.unit;pure (ForInStep.yield r)):=by
  funext x r
  rfl
 rw[e]at this
 first|exact this|(rw[bind_pure];exact this)|(simp only[bind_pure];exact this)
theorem Gg:∀{names:List (Str×NameKind)} {acc:List (Str×Addr)},((x,NameKind.free)∈names\/acc.lookup x=some ((cl.lookup x).getD 0))->(oT cl names acc).lookup x=some ((cl.lookup x).getD 0)
 |[],acc,h=>by
  rcases h with h|h
  ·cases h
  ·exact h
 |(n,k)::r,acc,h=>by
  unfold oT;refine Gg ?_;rcases h with h|h
  ·cases h with
   |head=>
    right;simp
   |tail _ h=>exact .inl h
  ·right;by_cases q:(k==NameKind.free)=true
   ·rw[if_pos q,afx];cases z:x==n with
    |true=>rw[afr.mp z]
    |false=>exact h
   ·rw[if_neg q];exact h
theorem R6(h:(uK cm names).lookup x=some l):(x,NameKind.free)∈names/\cm.lookup x=some l:=by
 have h1:(x,l)∈uK cm names:=by
  generalize uK cm names=c at h
  induction c with
  |nil=>exact af h
  |cons p r ih=>
   obtain⟨a,b⟩:=p;rw[afx]at h;cases z:x==a with
   |true=>rw[z]at h;apply sE h;rw[afr.mp z];exact .head _
   |false=>rw[z]at h;exact .tail _ (ih h)
 refine ah (List.mem_filterMap.mp h1) λy hy e=>?_
 by_cases q:(y.2==NameKind.free)=true
 ·rw[if_pos q]at e;refine ah (afX.mp e) λl' e1 e2=>?_
  cases e2;have:y=(y.1,NameKind.free):=by rw[<-afr.mp q]
  exact⟨this▸hy,e1⟩
 ·rw[if_neg q]at e;exact af e
theorem Gh{f:aP}{L:gj f.cm}(hf:AX f.cm scope.names=true)(C:mP ρ f.cm L.cl):
  closureFor scope (f.env L)=pure (oT L.cl scope.names [])/\∀ρ,mP ρ f.cm L.cl->mP ρ (uK f.cm scope.names) (oT L.cl scope.names []):=by
 have ec:=(f.ok L.L L.cl).cells;constructor
 ·have:=R5 (env:=f.env L) (scope:=scope) λy hy e=>by
   have h1:=afn.mp hf y hy
   replace h1:=e▸h1
   refine aF (Option.isSome_iff_exists.mp (show(f.cm.lookup y.1).isSome=true from h1)) λl e1=>?_
   refine ah (C _ _ e1) λc e2 _=>?_
   exact⟨c,by rw[ec];exact e2⟩
  rw[ec]at this;exact this
 ·intro ag C' x l e;refine aO (R6 e) λh1 h2=>?_
  refine ah (C' x l h2) λc e1 e2=>?_
  exact⟨c,by rw[Gg (.inl h1),e1];rfl,e2⟩
noncomputable def xm (s:Scope)(x:Str):Bool:=decide (s.kind=.function)&&s.names.all (λy=>decide (y.2≠.cell))&&(s.names.lookup x==some .local)&&s.names.all λy=>y.2 !=.local||s.names.lookup y.1==some .local
theorem Gi(h:xm s x=true):s.kind=.function/\(∀y∈s.names,y.2≠.cell)/\s.names.lookup x=some .local/\∀y∈s.names,y.2=.local->s.names.lookup y.1=some .local:=by
 unfold xm at h;rw[afi,afi,afi,afO,afr]at h;exact⟨h.1.1.1,λy hy=>afN (afn.mp h.1.1.2 y hy),h.1.2,λy hy e=>by
  have:=afn.mp h.2 y hy;rw[e]at this;simpa using this⟩
section
variable{d:Nat}{f:aP}{m:Lo}{H:AH}
structure Gj(d:Nat)(f:aP)(scope cs:Scope)(fB:uL f scope=cs)(x:Str)(aK:Loc)(ifs:List Expr)(elt:Expr)(v:U)(H₁:AH)(t:U->Bool)(g:U->U)(xs:List U):Prop where
 items:d8 H₁ v xs
 new:H₁.new aK
 len:xs.length<=1000000
 no:∀y∈xs,t y=true->ew aK (g y)
 ok:∀(L:gj f.cm) (y:U),y∈xs->∀acc,AQ d (aP.comp scope cs (f.env L) (AY.trans fB) (f.ok L.L L.cl).globals (f.ok L.L L.cl).builtins (uK f.cm scope.names)) [(x,y)] (H₁.add aK (.list acc)) ifs elt (t y) (g y)
theorem Ev.uM{elt iter:Expr}{x:Str}(fB:uL f scope=cs)(aK:Loc)(t:U->Bool)(g:U->U)
  (h:aQ d f m H iter λv H₁=>∃xs,Gj d f scope cs fB x aK ifs elt v H₁ t g xs/\Q (.aw ((xs.filter t).map g)) H₁)
  (hf:AX f.cm scope.names=true)(AZ:xm scope x=true)(hs:pX iter=true):aQ d f m H (.ListComp elt [⟨.Name x px,iter,ifs,0⟩] scope pos) Q:=
 fb (Gi AZ) λhk jB hx A0=>
 λA ρ L s Qc E room X p=>by
  rw[eval_ListComp];refine aO (Gh (L:=L) hf X.cells) λhcl A3=>?_
  refine wpAny_comprehension_free (use:=Option.none) (e:=.ListComp elt [⟨.Name x px,iter,ifs,0⟩] scope pos) (g:=⟨.Name x px,iter,ifs,0⟩) (gs:=[]) rfl (λ_=>zM hs) hcl hk A0 (h A ρ L s _ E room X λv u bp H₁ s₁ q R S z r=>?_)
  refine ah q λxs C q=>?_
  have hu:∃a,u=.ref a:=by
   refine i3 (C.items.at R r) λa _ _ e _=>?_
   exact⟨a,e⟩
  refine aF hu λa bb=>?_;subst bb
  refine F7 (RR:=λacc C=>compPost (model bX wX) A E Option.none Qc acc C) (AY.trans fB) A3 xs t g aK C.items C.new C.len C.no (λy hy acc=>C.ok L y hy acc) jB hk hx room (X.bY R S) r ?_
  intro D C' ag s' mC A4 xn d7 xo R' S' z' top r';refine dX (id d7) λo es ep e1 e2 e3=>?_
  refine⟨mC,d7,λh' sb=>?_⟩
  have uN:∀xs n,o.data≠.seq xs n:=λxs n q=>by replace q:=e2▸q;cases q
  have A5:=R'.last e1 uN xo A4 sb.extBut top;have qc:Step bp s₁.heap ag h':=S'.last xn sb.extBut;exact p _ _ ag H₁ {s' with heap:=h'} q A5 (S.trans qc) (z.trans ⟨z'.gens,z'.os⟩) (r'.c9 (gY.tX sb.extBut) (DictAt.of e1 uN))
theorem Ex.A6{elt iter:Expr}{x y:Str}(fB:uL f scope=cs)(aK:Loc)(t:U->Bool)(g:U->U)(xq:eT f y .local)
  (h:aQ d f m H iter λv H₁=>∃xs,Gj d f scope cs fB x aK ifs elt v H₁ t g xs/\Q .next ((y,.aw ((xs.filter t).map g))::m) H₁)
  (R7:(py.line==pos.line&&!(scope.names.any λ(n,k)=>n==y&&(k==.local||k==.cell)))=true)
  (hf:AX f.cm scope.names=true)(AZ:xm scope x=true)(hs:pX iter=true):dh d f m H (.Assign [.Name y py] (.ListComp elt [⟨.Name x px,iter,ifs,0⟩] scope pos) rL) Q:=
 fb (Gi AZ) λhk jB hx A0=>
 λA ρ L s Qc E room X p=>by
  have e0:swapsWith (.ListComp elt [⟨.Name x px,iter,ifs,0⟩] scope pos) (some (.Name y py)) rL.line (f.env L)=pure true:=by
   have e1:((f.env L).blockKind==ScopeKind.function)=true:=by
    unfold Env.blockKind;rw[f.lh xq.fn];rfl
   have e2:((f.env L).kindOf y==some NameKind.local)=true:=by rw[aP.kindOf xq.kind];rfl
   show(pure ((f.env L).blockKind==ScopeKind.function&&(f.env L).kindOf y==some NameKind.local&&py.line==pos.line&&!(scope.names.any λ(n,k)=>n==y&&(k==.local||k==.cell))):Sem Bool)=pure true
   rw[e1,e2,agA,agA,R7]
  rw[exec_Assign_Name_used _ _ _ _ e0];refine afA (ag9 (afA ?_));show wpAny _ A (do let _<-comprehension (.ListComp elt [⟨.Name x px,iter,ifs,0⟩] scope pos) scope (f.env L) _ (newList []) false (eval iter (f.env L)) (some (PySem.assign (.Name y py) (f.env L)))) _ _ s;refine aO (Gh (L:=L) hf X.cells) λhcl A3=>?_
  refine afA (ahe (wpAny_comprehension_free (use:=some (PySem.assign (.Name y py) (f.env L))) (Q:=λ_ s'=>Qc .next s') (e:=.ListComp elt [⟨.Name x px,iter,ifs,0⟩] scope pos) (g:=⟨.Name x px,iter,ifs,0⟩) (gs:=[]) rfl (λ_=>zM hs) hcl hk A0 (h A ρ L s _ E room X λv u bp H₁ s₁ q R S z r=>?_)) (λ_ s' hq=>afM (afM hq)) λ_ _ e=>e)
  refine ah q λxs C q=>?_
  have hu:∃a,u=.ref a:=by
   refine i3 (C.items.at R r) λa _ _ e _=>?_
   exact⟨a,e⟩
  refine aF hu λa bb=>?_;subst bb
  refine F7 (RR:=λacc C=>compPost (model bX wX) A E (some (PySem.assign (.Name y py) (f.env L))) (λ_ s'=>Qc .next s') acc C) (AY.trans fB) A3 xs t g aK C.items C.new C.len C.no (λy hy acc=>C.ok L y hy acc) jB hk hx room (X.bY R S) r ?_
  intro D C' ag s' mC A4 xn d7 xo R' S' z' top r';have X':=(X.bY R S).bY R' S';have Gk:L.L≠C':=by
   refine ah ((X.bY R S).fr) λm' F M=>?_
   refine i3 F.ns λo _ _ ho _=>?_
   intro q;rw[q,xn]at ho;exact af ho
  show wpAny _ A (PySem.assign (.Name y py) (f.env L) (.ref D)) _ _ _;rw[arm_assign_Name];refine afA (ag9 (ahf (pZ X' r' (λdK i4 dZ fO=>?_) xq.fn xq.kind)))
  refine dX (id d7) λo es ep e1 e2 e3=>?_
  have uN:∀xs n,o.data≠.seq xs n:=λxs n q=>by replace q:=e2▸q;exact nomatch q
  have A7:dK.heap.get? C'=some o:=dZ.keep _ _ e1 xo (λq=>Gk (ack q))
  refine⟨mC,⟨o,es,ep,A7,e2,e3⟩,λh' sb=>?_⟩
  have R8:∃b o,hX.objs.size<=b+1/\b≠C'/\dK.heap.get? b=some o:=by
   refine cK top λb o' q1 q2 e=>?_
   refine aF (dZ.live b o' e) λmQ e'=>?_
   exact⟨b,mQ,q1,q2,e'⟩
  have A5:=i4.bR.last A7 uN xo A4 sb.extBut R8;have um:=i4.ou (Ne.symm Gk) A5 (gY.tX sb.extBut) (DictAt.of A7 uN);have qc:bO (some L.L) bp s₁.heap ag h':=((bO.weak S').trans dZ).last xn sb.extBut;exact p _ _ ag _ H₁ {dK with heap:=h'} q um ((bO.weak S).trans qc) (z.trans ⟨fO.gens.trans z'.gens,fO.os.trans z'.os⟩) .next
end
set_option tactic.hygienic true
section
variable{d:Nat}{f:aP}{m:Lo}{H:AH}
theorem Ex.so(h:aQ d f m H e λv H'=>Q .next m H')
  (hi:f.isFn=true:=by with_unfolding_all exact rfl)(hs:jZ e=true:=by with_unfolding_all exact rfl):dh d f m H (.Expr e pos) Q:=
 λA ρ L s Qc E room X p=>wpAny_Expr_any (h A ρ L s _ E room X λy v ag H' s' q R S z r=>p _ _ ag _ H' s' q (X.bY R S) (.weak S) z .next) (f.OA hi) (pY hs)
mutual
inductive fG (X:AH):U->PyData->Prop
 |none:fG X .none .none
 |bool (b:Bool):fG X (.bool b) (.bool b)
 |int (i:Int):fG X (.int i) (.int i)
 |str (x:Str):fG X (.str x) (.str x)
 |aG {xs:List U} {ds:List PyData} (h:gN X xs ds):fG X (.aG xs) (.tuple ds)
 |aw {xs:List U} {ds:List PyData} (h:gN X xs ds):fG X (.aw xs) (.list ds)
 |ae {l:Loc} {xs:List U} {ds:List PyData} (e:X.get l=some (.list xs)) (h:gN X xs ds):fG X (.ae l) (.list ds)
inductive gN (X:AH):List U->List PyData->Prop
 |nil:gN X [] []
 |cons {x:U} {d:PyData} {xs:List U} {ds:List PyData} (a:fG X x d) (b:gN X xs ds):gN X (x::xs) (d::ds)
end
theorem fG.reads(R:bj ρ X h){d:PyData}(D:fG X x d)(r:RelV h ρ x v):∃as,Reads h v d as:=
 fG.rec (motive_1:=λx d _=>∀v,RelV h ρ x v->∃as,Reads h v d as) (motive_2:=λxs ds _=>∀vs,aZ h ρ xs vs->∃as,ReadsAll h vs ds as) (λv r=>by rw[r.Ol];exact⟨_,.none⟩) (λb v r=>by rw[r.EN];exact⟨_,.bool b⟩) (λi v r=>by refine aF r.zI λt bb=>?_;subst bb;exact⟨_,.int i t⟩) (λx v r=>by refine aF r.zH λt bb=>?_;subst bb;exact⟨_,.str x t⟩)
  (λ_ ih v r=>by refine dX r.wB λvs a n bx e rl=>?_;subst bx;refine aF (ih vs rl) λas q=>?_;exact⟨as,.tuple e rfl rfl q⟩) (λ_ ih v r=>by refine dX r.wC λvs a n bx e rl=>?_;subst bx;refine aF (ih vs rl) λas q=>?_;exact⟨_,.list e rfl rfl q⟩)
  (λe _ ih v r=>by refine kr (R.list e r) λb vs n bx _ ho rl _=>?_;subst bx;refine aF (ih vs rl) λas q=>?_;exact⟨_,.list ho rfl rfl q⟩) (λvs r=>by rw[r.pV];exact⟨_,.nil⟩) (λ_ _ i j vs r=>by refine cK r.un λv ws aM a b=>?_;subst aM;refine aF (i v a) λas q=>?_;refine aF (j ws b) λbs q'=>?_;exact⟨_,.cons q q'⟩) D v r
theorem Op.Gl(hx:fG H x da)(hy:fG H y db)(ca:da.canLay0=true)(cb:db.canLay0=true)(hd:min da.depth db.depth<=10*d+90)(q:Q (.bool (PyData.eqv da db)) H):
  br d (compareOp .Eq) x y H Q:=
 λA ρ s a b Qc E room R r r' p=>by
  refine aF (hx.reads R r) λas ra=>?_
  refine aF (hy.reads R r') λbs rb=>?_
  refine SeqAt.compareEq_reads ra rb ca cb ?_ (p.here q R (.bool _));have:=room.2.2;show _<9900
  lia
theorem Op.A8(hx:fG H x da)(hy:fG H y db)(ca:da.canLay0=true)(cb:db.canLay0=true)(hd:min da.depth db.depth<=10*d+90)(q:Q (.bool (!PyData.eqv da db)) H):
  br d (compareOp .NotEq) x y H Q:=
 λA ρ s a b Qc E room R r r' p=>by
  refine aF (hx.reads R r) λas ra=>?_
  refine aF (hy.reads R r') λbs rb=>?_
  refine SeqAt.compareNe_reads ra rb ca cb ?_ (p.here q R (.bool _));have:=room.2.2;show _<9900
  lia
theorem aZ.R9:∀{bs:List Bool} {vs:List Value},aZ h ρ (bs.map U.bool) vs->vs=bs.map Value.bool:=λ{bs}=>by
 induction bs with
 |nil=>exact λr=>r.pV
 |cons b r ih=>
  intro vs q;refine cK q.un λv ws aM a t=>?_;subst aM
  rw[a.EN,ih t];rfl
theorem Call.all{bs:List Bool}(q:Q (.bool (bs.all id)) H):aU d (.builtin "all") [.aw (bs.map .bool)] H Q:=
 λA ρ s vs Qc E room R rv p=>by
  refine ah rv.one λv bb r=>?_;subst bb
  refine r.k λ_ _ _ e f rl=>?_
  rename_i us a n;have:=rl.R9;subst this;have hl:s.heap.IsList a (bs.map Value.bool).toArray:=⟨_,e,rfl,_,rfl⟩;refine call_all_walk (wpAny_pyIter_list hl ?_);have lD:=ku s.heap;have hne:a≠s.heap.objs.size:=λq=>by rw[q,lD]at e;exact af e
  refine⟨s.heap.objs.size,_,_,_,_,_,λi=>bs.getD i true,rfl,Walks.list (A:=A.in1) (show A.in1.handled=Option.none from room.1) s.heap.objs.size a hne (bs.map Value.bool).toArray,⟨⟨_,afW _ rfl,rfl,rfl⟩,⟨_,afy _ e,rfl,_,rfl⟩⟩,?_,λh' tk k=>?_⟩
  ·intro i v s' Q' E' hv hq;have uO:(bs.map Value.bool)[i]?=some v:=by simpa using hv
   rw[afG]at uO;refine ah (afX.mp uO) λb e1 aM=>?_;subst aM
   refine wpAny_truthy_bool ?_;have:bs.getD i true=b:=by rw[agm,e1];rfl
   exact this▸hq
  ·have k':∀b o,s.heap.get? b=some o->h'.get? b=some o:=λb o e'=>k b o (by
    have hb:b≠s.heap.objs.size:=λq=>by rw[q,lD]at e';exact af e'
    simpa using hb) (Heap.get?_push_of_some _ e')
   have hb:((List.range (bs.map Value.bool).toArray.size).all λi=>bs.getD i true)=bs.all id:=by
    rw[afC,afj];rw[Bool.eq_iff_iff,afn,afn];constructor
    ·intro h x hx;obtain⟨i,hi,rfl⟩:=List.getElem_of_mem hx;have:=h i (ahh.mpr hi);rw[agm,afq hi]at this;exact this
    ·intro h i hi;have jx:=ahh.mp hi;rw[agm,afq jx];exact h _ (agR jx)
   exact hb▸p (.bool _) _ ρ H {s with heap:=h',toks:=tk} q (R.keeps k') (Step.keeps k') ⟨rfl,rfl⟩ (.bool _)
theorem Gm:∀(tk:Nat) (xs:List Str),aZ h ρ (xs.map U.str) (strsFrom tk xs)
 |_,[]=>.nil
 |tk,x::r=>.cons (.str _ _) (Gm (tk+1) r)
theorem Call.split(hx:x.length<=1000000)(hn:(Builtin.Str.spaceWords x (x.length+1)).length<=1000000)(h1:(Builtin.Str.spaceWords x (x.length+1)==[(0,x.length)])=false)(q:Q (.aw ((PySem.wordsOf x).map .str)) H):
  aU d (.builtin "str.split") [.str x] H Q:=
 λA ρ s vs Qc E room R rv p=>by
  refine ah rv.one λv bb r=>?_;subst bb
  refine r.k λt=>?_
  refine call_meets F.slot_str_split (typeIs_str _ _ _) F.entry_str_split (F.args_str_split_1 _) (meets_str_split_space x t (by rw[agF];exact ads ‹_› (by decide)) (by rw[agF];exact ads ‹_› (by decide))) ?_
  rw[h1,if_neg (by decide)]
  have k:∀b o,s.heap.get? b=some o->(s.heap.push {cls:=.type "list",data:=.seq (strsFrom s.toks (PySem.wordsOf x)).toArray}).get? b=some o:=λb o e=>afy _ e
  exact p (.aw _) _ ρ H {s with toks:=_,heap:=s.heap.push {cls:=.type "list",data:=.seq (strsFrom s.toks (PySem.wordsOf x)).toArray}} q (R.keeps k) (Step.keeps k) ⟨rfl,rfl⟩
   (.aw (n:=0) (afW _ rfl) R.lg (Gm _ _))
theorem Call.Sa{i:Nat}(hi:i<=1000000)(q:Q (.str (Str.ofString (toString (i:Int)))) H):aU d (.type "str") [.int i] H Q:=
 λA ρ s vs Qc E room R rv p=>by
  refine ah rv.one λv bb r=>?_;subst bb
  refine r.k λt=>?_
  exact str_of_int_fit (N:=4611686018427387904) (by split<;>lia) (by decide) λ_=>p.toks q R (.str _ _)
theorem aZ.Sb:∀{ss:List Str} {vs:List Value},aZ h ρ (ss.map U.str) vs->∀i (hi:i<vs.length),∃t,vs[i]?=(ss[i]?).map λk=>.str k t:=λ{ss}=>by
 induction ss with
 |nil=>exact λr=>by rw[r.pV];exact λi hi=>absurd hi (Nat.not_lt_zero _)
 |cons k r ih=>
  intro vs q;refine cK q.un λv ws aM a b=>?_;subst aM
  refine aF a.zH λt bb=>?_;subst bb
  exact λi=>Nat.casesOn i (λ_=>⟨t,rfl⟩) λi hi=>ih b i (Nat.lt_of_succ_lt_succ hi)
theorem Call.Se{ss:List Str}(I:d8 H x (ss.map U.str))(hs:ss.length<=1000000)(hk:k∈ss)(q:Q (.int (ss.idxOf k:Nat)) H):
  aU d (.builtin "list.index") [x,.str k] H Q:=
 λA ρ s vs Qc E room R rv p=>by
  refine cK rv.mV λ_ kv aM r1 rk=>?_;subst aM
  refine dX (I.at R r1) λa us n bx ho rl=>?_;subst bx
  have le:=rl.length;rw[afj]at le;refine rk.k λt=>?_
  refine aO (rl.strs (k:=k)) λh1 _=>?_
  have h2:=rl.Sb;have hj:ss.idxOf k<ss.length:=List.idxOf_lt_length_of_mem hk;have at_:∀i (hi:i<us.toArray.size),rU k us.toArray[i]=(ss[i]'(by rw[afC,<-le]at hi;exact hi)==k):=λi hi=>by
   have jx:i<us.length:=by exact hi
   refine aF (h2 i jx) λt' q'=>?_
   have hn:i<ss.length:=by exact le▸jx
   rw[afq jx,afq hn,Option.map_some,Option.some.injEq]at q';rw[List.getElem_toArray,q'];rfl
  refine call_meets PySem.F.slot_list_index ⟨_,ho,rfl⟩ PySem.F.entry_list_index (PySem.F.args_list_index_2 _ _) (SeqAt.list_indexAt a us.toArray n .none #[] (.str k t) (rU k) (ss.idxOf k) (by rw[afC,<-le];exact hj) (by lia) ?_ ?_) ⟨ho,λy hy=>?_,?_⟩
  ·rw[at_ _ (by rw[afC,<-le];exact hj),List.getElem_idxOf hj]
   simp
  ·intro i hi aR;rw[at_ i hi];have:=List.not_of_lt_findIdx (p:=(·==k)) (xs:=ss) (i:=i) (by simpa[List.idxOf]using aR)
   exact this
  ·refine fN (h1 y (by simpa using hy)) λi u aM=>?_;subst aM
   exact wM
  ·exact p.toks q R (.int _ _)
theorem Sf(items:Array Value)(a b:Nat):slicePick items (some (a:Int)) (some (b:Int)) none=((items.toList.drop a).take (b-a)).toArray:=by
 rw[slicePick_plain];simp only[Option.elim,clipAt_nat]
 congr 1
 rw[<-Array.length_toList];by_cases h1:a<=items.toList.length
 ·rw[Nat.min_eq_left h1,<-Nat.sub_min_sub_right,<-ag4,<-List.take_eq_take_min]
 ·have h:=Nat.le_of_not_le h1;rw[Nat.min_eq_right h,ag0 h,ag0 (afm _),List.take_nil,List.take_nil]
theorem Ev.Sg{value lo hi:Expr}
  (h:aQ d f m H value λx H₁=>aQ d f m H₁ lo λy bH=>aQ d f m bH hi λz gZ=>∃xs i j,d8 gZ x xs/\y=.int (i:Nat)/\z=.int (j:Nat)/\xs.length<=1000000/\Q (.aw ((xs.drop i).take (j-i))) gZ):
  aQ d f m H (.Subscript value (.Slice (some lo) (some hi) .none sp) pos) Q:=
 λA ρ L s Qc E room X p=>Subscript_ (h A ρ L s _ E room X λx v bp H₁ s₁ q R S z r=>wpAny_Slice (q A bp L s₁ _ E room (X.bY R S) λy u de bH bw dm cL bF cS eU=>
  dm A de L bw _ E room ((X.bY R S).bY cL bF) λER aff lp gZ dK jz lY dZ fO oy=>by
  refine cps λG k=>?_
  obtain⟨xs,i,j,I,rfl,rfl,hs,jz⟩:=jz;have eU:=eU.step dZ .none;refine k ?_;refine eU.k λt=>?_
  refine oy.k λt'=>?_
  refine afM ?_;exact Op.slice (lo:=some (i:Int)) (hi:=some (j:Int)) I hs (.int _ _) (.int _ _) (λvs e=>⟨i,j-i,Sf _ i j,rfl⟩) ⟨_,_,_,rfl⟩ lY (r.step (bF.trans dZ) .none) (p.after (S.trans (bF.trans dZ)) (z.trans (cS.trans fO))) jz))
theorem Ev.Sh
  (h:aQ d f m H value λx H₁=>aQ d f m H₁ hi λy bH=>∃l xs i,d8 bH x xs/\y=.int (i:Nat)/\xs.length<=1000000/\bH.new l/\Q (.ae l) (bH.add l (.list (xs.take i)))):aQ d f m H (.Subscript value (.Slice .none (some hi) .none sp) pos) Q:=
 λA ρ L s Qc E room X p=>Subscript_ (h A ρ L s _ E room X λx v bp H₁ s₁ q R S z r=>by
  refine wpAny_Slice (afM ?_);refine q A bp L s₁ _ E room (X.bY R S) λy u de bH bw dm cL bF cS eU=>?_
  refine cps λG k=>?_
  obtain⟨l,xs,i,I,rfl,hs,hn,dm⟩:=dm;refine k ?_;refine eU.k λt=>?_
  refine afM ?_;refine cps λG k=>?_
  have r':=r.step bF .none;obtain⟨a,us,n,rfl,ho,rl⟩:=I.at cL r';have le:=rl.length;have mX:IsL (bw.heap.push {cls:=.type "slice",data:=.fields #[.none,.int i t,.none]}) a us.toArray n:=afy _ ho;refine k ?_;refine tail_any (T:="list") (s:={bw with heap:=bw.heap.push {cls:=.type "slice",data:=.fields #[.none,.int i t,.none]}}) ⟨_,mX,rfl⟩ list_getitem_lookup (wpAny_getItem_list_slice mX.isList (Heap.IsSliceOf.new ..) (lo:=.none) (hi:=some (i:Int)) .none (.int _ _) .none (by decide) ?_ (by rw[afC,<-le,agF];exact ads ‹_› (by decide))) rfl
  rw[slicePick_upto'];have S1:Step de bw.heap de (bw.heap.push {cls:=.type "slice",data:=.fields #[.none,.int i t,.none]}):=Step.push _;have R1:=cL.push {cls:=.type "slice",data:=.fields #[.none,.int i t,.none]};exact(((p.after S z).after bF cS).after (s':={bw with heap:=bw.heap.push {cls:=.type "slice",data:=.fields #[.none,.int i t,.none]}}) S1 ⟨rfl,rfl⟩).alloc (ob:={cls:=.type "list",data:=.seq (us.take i).toArray}) (o:=.list (xs.take i)) R1 hn rfl
   (λag S' e=>⟨us.take i,0,e,((rl.take i).step S1 .none).step S' .none⟩) dm)
end
set_option tactic.hygienic false
set_option tactic.hygienic true
section
variable{d:Nat}{f:aP}{m:Lo}{H:AH}
theorem Call.Si{names:List Str}(fz:Lo)(jM jN:Str)(gc gO:Loc)
  (ho:kX.lookup fa=some ⟨oc,od,.func (docDef name params body scope pm dS doc),zU⟩)(mR:codeIn kX dS name=true)
  (hbind:∀(vs:List Value),vs.length=args.length->bindArgs (docDef name params body scope pm dS doc) ⟨vs,[]⟩=pure (names.zip vs))
  (hloc:∀x∈names,eh scope.names x .local)(fB:∀L,cellsFrom (L+1) scope.names []=[(jN,L+1+1),(jM,L+1)])(hx:(jM==jN)=false)(ie:fz=(names.zip args).reverse)(xr:H.new gc)(xu:H.new gO)(hne:gO≠gc)
  (h:bG d (.fn name scope fa dS [(jN,gO),(jM,gc)]) fz ((H.add gc (.cell none)).add gO (.cell none)) body (λfl _ H'=>∃bg,AH.Le H' bg/\Q fl.val bg))
  (hs:qd scope=true:=by kernel_rfl):aU (d+1) (.ref fa) args H Q:=
 dG (Ak hs) λmS mT hk=>
 λA ρ s vs Qc E room R rv p=>by
  subst ie;refine wpAny_call ?_;have KX:=R.lq;refine aO (ub room (envOfC name scope s.heap.objs.size fa dS)) λmU lu=>?_
  have rb:=bW.zip names rv;have qm:∀p∈names.zip vs,scope.names.lookup p.1=some .local:=λy hy=>(hloc y.1 (List.of_mem_zip hy).1).eq
  refine call_cells mU (KX _ _ ho) rfl (R.bs.mO.keeps R.base) (codeRec_of KX mR) (hbind vs rv.length.symm) (λy hy=>.inl (qm y hy)) (λcM tk F X=>?_) mS mT hk
  rw[fB]at X;refine cC (wR (X.cell jM (s.heap.objs.size+1) (by rw[afx,hx];simp))) λGn A9 Gp Gq=>?_
  refine cC (wR (X.cell jN (s.heap.objs.size+1+1) (by simp))) λGr Ba Gs Gu=>?_
  rw[Aj qm]at Gq Gu;have S0:Step ρ s.heap ρ cM:=Step.keeps F.keep;have fA:=R.keeps F.keep;have out:∀b,s.heap.objs.size<=b->s.heap.get? b=none:=λb hb=>by
   cases q:s.heap.get? b with
   |none=>rfl
   |some o=>exact absurd (af8 q) (ahg.mpr hb)
  have fr:∀b,s.heap.objs.size<=b->∀y,ρ y≠some b:=λb hb y e=>by
   refine aF (R.live y b e) λo q=>?_
   rw[out b hb]at q;exact af q
  have oU:∀b,s.heap.objs.size<=b->hX.get? b=none:=λb hb=>by
   cases q:hX.get? b with
   |none=>rfl
   |some o=>have:=R.base b o q;rw[out b hb]at this;exact af this
  have xw:s.heap.objs.size<=s.heap.objs.size+1:=agc _;have Bb:s.heap.objs.size<=s.heap.objs.size+1+1:=ads xw (agc _);refine aO (fA.wQ (l:=gc) (a:=s.heap.objs.size+1) (o:=.cell none) xr A9 Gp (fr _ xw) (oU _ xw) (λ_=>⟨Gn,none,A9,Gq,rfl⟩)) λcL qn=>?_
  have Sj:∀y,ρ.add gc (s.heap.objs.size+1) y≠some (s.heap.objs.size+1+1):=λy e=>by
   by_cases q:y=gc
   ·rw[q,aC.bP]at e;exact absurd (ack e) (ag6 _).symm
   ·rw[aC.bQ _ _ q]at e;exact fr _ Bb y e
  refine aO (cL.wQ (l:=gO) (a:=s.heap.objs.size+1+1) (o:=.cell none) ⟨xu,hne⟩ Ba Gs Sj (oU _ Bb) (λ_=>⟨Gr,none,Ba,Gu,rfl⟩)) λlY Gv=>?_
  have D:DictAt cM (some (s.heap.objs.size+1)):=λc z=>by apply sE z;exact⟨Gn,A9,Gp⟩
  have D':DictAt cM (some (s.heap.objs.size+1+1)):=λc z=>by apply sE z;exact⟨Gr,Ba,Gs⟩
  have S:Step ρ s.heap ((ρ.add gc (s.heap.objs.size+1)).add gO (s.heap.objs.size+1+1)) cM:=⟨λl a e=>Gv.ext l a (qn.ext l a e),λy a e=>by
    by_cases q:y=gO
    ·subst q;rw[aC.bP]at e;apply sE e;exact .inr (out _ Bb)
    ·rw[aC.bQ _ _ q]at e;by_cases q':y=gc
     ·subst q';rw[aC.bP]at e;apply sE e;exact .inr (out _ xw)
     ·rw[aC.bQ _ _ q']at e;exact .inl e,S0.keep,S0.live⟩
  have qo:RelM cM ((ρ.add gc (s.heap.objs.size+1)).add gO (s.heap.objs.size+1+1)) ((names.zip args).reverse++[]) (bindL (envOfC name scope s.heap.objs.size fa dS).kindOf (names.zip vs) λ_=>none):=
   Ai qm (bW.zip names (((rv.step S0 .none).c9 qn D).c9 Gv D')) (λ_ _ e=>nomatch e)
  rw[afD]at qo;have fZ:St ((ρ.add gc (s.heap.objs.size+1)).add gO (s.heap.objs.size+1+1)) ((H.add gc (.cell none)).add gO (.cell none)) (cm:=[(jN,gO),(jM,gc)]) ⟨s.heap.objs.size,[(jN,s.heap.objs.size+1+1),(jM,s.heap.objs.size+1)]⟩ (names.zip args).reverse cM:=
   ⟨lY,⟨_,⟨F.ns,lY.base,cG R.top λb o' q z=>ads q (af8 z)⟩,qo⟩,λy e=>by
    by_cases q:y=gO
    ·rw[q,aC.bP]at e;have e9:s.heap.objs.size+1+1=s.heap.objs.size:=ack e;exact absurd e9 (by omega)
    ·rw[aC.bQ _ _ q]at e;by_cases q':y=gc
     ·rw[q',aC.bP]at e;exact absurd (ack e) (ag6 _)
     ·rw[aC.bQ _ _ q']at e;exact fr _ (afm _) y e,λy l' e=>by
    rw[afx]at e ⊢;cases q:y==jN with
    |true=>replace e:=q▸e;apply sE e;exact⟨_,rfl,aC.bP ..⟩
    |false=>
     replace e:=q▸e
     simp only[]at e ⊢;rw[afx]at e ⊢;cases q':y==jM with
     |true=>rw[q']at e;apply sE e;exact⟨_,rfl,(aC.bQ _ _ (Ne.symm hne)).trans (aC.bP ..)⟩
     |false=>rw[q']at e;exact af e⟩
  have hh:=λE'=>h _ ((ρ.add gc (s.heap.objs.size+1)).add gO (s.heap.objs.size+1+1)) ⟨s.heap.objs.size,[(jN,s.heap.objs.size+1+1),(jM,s.heap.objs.size+1)]⟩ {s with heap:=cM,toks:=tk} (λf s'=>Qc (oF f) s') E' lu fZ λfl v ag m' H' s' q X' S' z' r'=>PD S p q X' S' z' r'
  refine ahe (M:=model bX wX) (Q:=λf s'=>Qc (oF f) s') (E:=λe s'=>wpAny (model bX wX) (A.deeper (envOfC name scope s.heap.objs.size fa dS)) (leaving (envOfC name scope s.heap.objs.size fa dS) e) (λ_ fu=>E e fu) (λe' fu=>E e' fu) s') ?_ (λfl s' q=>by induction fl<;>exact q) (λe s' q=>q)
  have e1:envOfC name scope s.heap.objs.size fa dS=envX name scope s.heap.objs.size fa dS [(jN,s.heap.objs.size+1+1),(jM,s.heap.objs.size+1)]:=by unfold envOfC;rw[fB]
  rw[e1]at hh ⊢;exact hh _
theorem Ex.Sl(hx:eh f.cs.names x .local)(hy:eh f.cs.names y .local)
  (h:aQ d f m H e λv H'=>∃a b,v=.aG [a,b]/\Q .next ((x,a)::(y,b)::m) H')
  (hw:∀L,swappedStores [.Tuple elts k Af] e (f.env L)=pure (some [x,y]))(hs:jZ e=true:=by with_unfolding_all exact rfl)(hf:f.isFn=true:=by with_unfolding_all exact rfl):
  dh d f m H (.Assign [.Tuple elts k Af] e pos) Q:=
 have hk:f.cs.kind=.function:=afN hf
 λA ρ L s Qc E room X p=>Assign_Tuple_swapped (names:=[x,y]) (h A ρ L s _ E room X λv u ag H' s' q R S z r=>by
  obtain⟨a,b,rfl,q⟩:=q;refine r.k λvs ad n eo fr rl=>?_
  refine cps λG k=>?_
  obtain⟨va,vb,rfl,ra,rb⟩:=rl.mV;refine k ?_;show wpAny _ _ (unpackItems _ ([va,vb].toArray).size Option.none) _ _ _;refine unpackItems_tuple (items:=[va,vb].toArray) room.1 ⟨_,eo,rfl,_,rfl⟩ λh' eb=>?_
  have kk:∀b o,s'.heap.get? b=some o->h'.get? b=some o:=λb o e=>eb b o (λq=>by rw[q,ku]at e;exact af e) e
  have X':=(X.bY R S).bY (R.keeps kk) (Step.keeps kk);show wpAny _ _ (assignInOrder [bindName (f.env L) y,bindName (f.env L) x] [vb,va]) _ _ _;show wpAny _ _ (do holding _ (bindName (f.env L) y vb);assignInOrder _ _) _ _ _;refine afA (agX (ahf (pZ X' (rb.step (Step.keeps kk) .none) (λbw iH bF cS=>?_) hk hy.eq)))
  show wpAny _ _ (do holding _ (bindName (f.env L) x va);assignInOrder _ _) _ _ _;refine afA (agX (ahf (pZ iH ((ra.step (Step.keeps kk) .none).step bF X'.dict) (λdK i4 dZ fO=>?_) hk hx.eq)))
  exact afM (p _ _ ag _ H' dK q i4 (((bO.weak (S.trans (Step.keeps kk))).trans bF).trans dZ) (z.trans ⟨fO.gens.trans cS.gens,fO.os.trans cS.os⟩) .next)) (by unfold swapsWithSole;exact pY hs) (hw L)
end
set_option tactic.hygienic false
structure LN where
 tx:Bool
 name:Str
 attrs:List U
 text:Str
 kids:List Int
structure LS where
 aa:List LN
 path:List Int
 run:List Str
 aH:List (Str×Str)
 pk:Nat
 rk:Nat
 old:Option (List Str)
def je(s:LS)(i:Int):Option LN:=b9 s.aa i
def cP(s:LS)(i:Int):Option LN:=(je s i).bind λx=>if x.tx then none else some x
def uP(s:LS)(i:Int):Str:=((s.aa[i.toNat]?).map (·.name)).getD (S "")
def bc(s:LS):List Str:=s.path.map (uP s)
noncomputable def LS.b5 (s:LS)(i:Nat)(x:LN):LS:={s with aa:=s.aa.set i x}
def Gw:List Str:=[S " ",S "\n",S "\r",S "\t",S "\x0c"]
def hB(x:Str):Bool:=ar Gw x
def sq:List (Str×Str):=[(S "table",S "in table"),(S "caption",S "in caption"),(S "colgroup",S "in column group"),(S "tr",S "in row"),(S "tbody",S "in table body"),(S "thead",S "in table body"),(S "tfoot",S "in table body"),(S "td",S "in cell"),(S "th",S "in cell")]
def jf(m x:Str):Str:=(sq.lookup x).getD m
def dt(names:List Str):Str:=names.foldl jf (S "in body")
def iq:List Str:=[S "caption",S "colgroup",S "tbody",S "thead",S "tfoot",S "tr",S "td",S "th"]
def hC:List Str->Int->Int->Int
 |[],_,p=>p
 |x::r,i,p=>hC r (i+1) (if x==S "table" then i else p)
def cy(names:List Str):Int:=hC names 0 (-1)
def cH(names:List Str):List Str:=if 0<=cy names then(names.drop (cy names+1).toNat).filter (ar iq)else[]
def fk(parts:List Str):Bool:=decide (0<(parts.length:Int))&&(match parts.getLast? with|some x=>ar [S "caption",S "td",S "th"] x|none=>false)
noncomputable def nz (s:LS)(i j:Int)(k:Int):Bool:=(List.range s.aa.length).all λa=>match s.aa[a]? with
 |some x=>x.tx||(List.range x.kids.length).all λb=>match x.kids[b]? with
  |some c=>!(c==k)||((a:Int)==i&&(b:Int)==j)
  |none=>true
 |none=>true
noncomputable def valid (s:LS):Bool:=s.path.all (λi=>decide (0<=i)&&decide (i<(s.aa.length:Int)))&&s.aa.all λx=>x.kids.all λi=>decide (0<=i)&&decide (i<(s.aa.length:Int))
def gd(s:LS)(i:Int)(at_:Int)(sign:Str):Option LS:=(cP s i).bind λx=>
 let eV:Option LS:=if ay x.kids.length=true/\valid s=true/\0<=at_/\at_<=x.kids.length then
  some {s with aa:=(s.aa.set i.toNat {x with kids:=x.kids.take at_.toNat++(s.aa.length:Int)::x.kids.drop at_.toNat})++[⟨true,S "",[],sign,[]⟩]}else none
 if decide (0<at_) then(b9 x.kids (at_-1)).bind λk=>(je s k).bind λy=>
  if y.tx then(if ay x.kids.length=true/\valid s=true/\nz s i (at_-1) k=true/\y.text.length+sign.length<=1000000 then some (s.b5 k.toNat {y with text:=y.text++sign})else none)else eV
 else eV
def j7(s:LS)(i:Int)(at_:Nat)(name:Str)(attrs:List U):Option LS:=(cP s i).bind λx=>
 if ay x.kids.length=true/\valid s=true/\ay s.path.length=true/\ay attrs.length=true/\at_<=x.kids.length then
  some {s with aa:=(s.aa.set i.toNat {x with kids:=x.kids.take at_++(s.aa.length:Int)::x.kids.drop at_})++[⟨false,name,attrs,S "",[]⟩],path:=s.path++[(s.aa.length:Int)]}else none
def fH(s:LS)(name:Str)(attrs:List U):Option LS:=s.path.getLast?.bind λi=>(cP s i).bind λx=>j7 s i x.kids.length name attrs
def cW(s:LS)(x mode:Str):Option LS:=if ay s.aH.length then some {s with aH:=s.aH++[(x,mode)]}else none
def cV(s:LS):Bool:=ay s.path.length&&(bc s).all PyData.strOk&&s.path.all λi=>(cP s i).isSome
def fm(s:LS)(keep:Nat):Option LS:=if cV s then
  (if(fk (cH (bc s))&&ar ((bc s).drop (cy (bc s)+((cH (bc s)).length:Int)).toNat) (S "a")) then cW s (S "open-elements") (dt (bc s))else some s).bind λs1=>
   if keep<=s1.path.length then some {s1 with path:=s1.path.take keep,pk:=s1.pk+1}else none
 else none
def fT(s:LS):Option LS:=(fS s.path).bind λr=>some {s with path:=r.2}
def oV(bl:Bool)(place:Int):List Str->LS->Option LS
 |[],s=>some s
 |x::r,s=>(if bl then s.path.getLast? else b9 s.path (place-1)).bind λi=>(cP s i).bind λy=>
  if ay y.kids.length then
   (gd s i (if bl then(y.kids.length:Int)else(y.kids.length:Int)-1) x).bind λs1=>(if !bl then cW s1 (S "foster-parented") (S "in table text")else some s1).bind λs2=>oV bl place r s2
  else none
def l8(s:LS):Option LS:=if cV s=true/\ay s.run.length=true then oV (s.run.all hB) (cy (bc s)) s.run {s with run:=[],rk:=s.rk+1,old:=some s.run}else none
def l9(s:LS)(x:Str):Option LS:=if cV s then
  s.path.getLast?.bind λi=>(cP s i).bind λy=>if ay y.kids.length then
   (let names:=bc s
   let place:=cy names
   let parts:=cH names
   let col:=parts==[S "colgroup"]
   if place==-1||(fk parts||(col&&hB x)) then gd s i y.kids.length x
   else if decide (place+1+(parts.length:Int)<(names.length:Int)) then(cW s (S "foster-parented") (dt names)).bind λs1=>gd s1 i y.kids.length x
   else(if col then fT s else some s).bind λs1=>if ay s1.run.length then some {s1 with run:=s1.run++[x]}else none)else none
 else none
def uQ:List (Str×List Str):=[(S "td",[S "tbody",S "tr"]),(S "th",[S "tbody",S "tr"]),(S "tr",[S "tbody"]),(S "col",[S "colgroup"])]
def kL(name:Str):List Str:=(uQ.lookup name).getD []
def fU(parts:List Str):List Str:=parts.map λp=>if ar [S "thead",S "tfoot"] p then S "tbody"else p
noncomputable def lF (held:List Str)(qA:List Str):Nat->Nat->Nat
 |0,k=>k
 |n+1,k=>if decide ((k:Int)<(qA.length:Int)) then(match qA[k]? with|some x=>if (held.drop k).take 1==[x] then lF held qA n (k+1)else k|none=>k)else k
def sr:List Str->LS->Option LS
 |[],s=>some s
 |x::r,s=>(if x==S "tr" then cW s (S "unexpected-start-tag") (S "in table body")else some s).bind λs1=>(fH s1 x []).bind λs2=>sr r s2
def lH(s:LS)(name:Str)(attrs:List U)(place:Int)(parts:List Str):Option LS:=
 if ay parts.length=true/\parts.all PyData.strOk=true/\0<=place then
  (let qA:=kL name
  let keep:=lF (fU parts) qA qA.length 0
  (fm s (place+1+keep).toNat).bind λs1=>(sr (qA.drop keep) s1).bind λs2=>(fH s2 name attrs).bind λs3=>if name==S "col" then fT s3 else some s3)else none
def kM(s:LS)(t:aN)(place:Int)(parts:List Str):Option LS:=if cV s=true/\ay parts.length=true then
  (let names:=bc s
  let mode:=dt names
  let out:=decide (0<=place)&&!fk parts
  (if out then cW s (S "foster-parented") mode else some s).bind λs1=>
  if t.kind==S "end" then(match names.getLast? with|some x=>if x==t.name then fT s1 else some s1|none=>none)
  else if ar [S "a",S "p",S "table"] t.name then(jJ t).bind λas=>
   (if(out&&((names.length:Int)==place+1+(parts.length:Int))) then(b9 s1.path (place-1)).bind λh=>(cP s1 h).bind λy=>if 0<y.kids.length then j7 s1 h (y.kids.length-1) t.name as else none
    else fH s1 t.name as)
  else(qk t).bind λf=>if f then cW s1 (S "non-void-html-element-start-tag-with-trailing-solidus") mode else some s1)else none
def me(s:LS)(t:aN):Option LS:=if cV s then
  (let place:=cy (bc s)
  let Gx:=cH (bc s)
  let leave:=Gx==[S "colgroup"]&&(t.name !=S "col"&&!(t.kind==S "end"&&t.name==S "colgroup"))
  (if leave then fT s else some s).bind λs1=>
  let parts:=if leave then[]else Gx
  let mode:=dt (bc s1)
  if cV s1 then
  if(place==-1||(ar [S "a",S "p"] t.name||((t.kind==S "start")&&((t.name==S "table")&&fk parts)))) then kM s1 t place parts
  else if t.kind==S "start"&&t.name==S "table" then(cW s1 (S "unexpected-start-tag") mode).bind λs2=>(fm s2 place.toNat).bind λs3=>(jJ t).bind λas=>fH s3 t.name as
  else if t.kind==S "start" then(jJ t).bind λas=>lH s1 t.name as place parts
  else if t.name==S "table" then fm s1 place.toNat
  else if ar parts t.name then fm s1 (place+1+(parts.idxOf t.name:Nat)).toNat
  else cW s1 (S "unexpected-end-tag") mode else none)else none
def su(s:LS)(t:aN):Option LS:=if t.kind==S "char" then l9 s t.name else(l8 s).bind λs1=>me s1 t
def c6(x:Nd):LN:=⟨x.kind !=S "element",x.name,x.attrs,x.text,x.kids⟩
def aB(b:B)(pk rk:Nat)(old:Option (List Str)):LS:=⟨b.aa.map c6,b.stack,b.pending,b.aH,pk,rk,old⟩
structure LX where
 cell:Option U
 toks:Option (List U)
noncomputable def cI (s:LS)(i:Int):U:=match s.aa[i.toNat]? with
 |some y=>.aw [.str y.name,.aw y.attrs,.ae (.bz i.toNat)]
 |none=>.none
noncomputable def cf (s:LS)(i:Int):U:=match s.aa[i.toNat]? with
 |some y=>if y.tx then .str y.text else .aw [.str y.name,.aw y.attrs,.ae (.bz i.toNat)]
 |none=>.none
def j8(s:LS):List (Str×U):=[(S "path",.ae (.path (s.pk+1))),(S "run",.ae (.run s.rk)),(S "errors",.ae .hZ)]
def lG(x:LX)(s:LS):AH where
 get
  |.state=>some (.map (j8 s))
  |.hZ=>some (.list (bJ s.aH))
  |.path 0=>some (.cell x.cell)
  |.path (k+1)=>if k=s.pk then some (.list (s.path.map (cI s)))else none
  |.run k=>if k=s.rk then some (.list (s.run.map .str))else match s.old with
    |some o=>if k+1=s.rk then some (.list (o.map .str))else none
    |none=>none
  |.bz k=>match s.aa[k]? with
    |some y=>if y.tx then none else some (.list (y.kids.map (cf s)))
    |none=>none
  |.tokens=>x.toks.map .list
  |_=>none
 new
  |.path k=>s.pk+1<k
  |.run k=>s.rk<k
  |.bz k=>s.aa.length<=k
  |.tokens=>x.toks=none
  |_=>False
noncomputable def mh:Loc->Bool
 |.state|.hZ|.tokens|.path _|.run _|.bz _=>true
 |_=>false
section
variable{b:B}{G:AH}{n:Nat}{x:LX}{s:LS}
theorem lI(h:mh l=true):(hp b G n).get l=G.get l:=by induction l<;>first|rfl|cases h
theorem uR(h:mh l=true):(hp b G n).new l=G.new l:=by induction l<;>first|rfl|exact nomatch h
theorem kN(h:mh l=true):(hp b G n).set l o=hp b (G.set l o) n:=by
 refine AH.eJ ((lI h).trans (AH.rG ..)) (λk hk=>?_) λk=>?_
 ·by_cases q:mh k=true
  ·rw[lI q,lI q,AH.rH _ _ hk]
  ·induction k<;>first|rfl|exact(q rfl).elim
 ·by_cases q:mh k=true
  ·rw[uR q,uR q];rfl
  ·induction k<;>first|exact af5|exact absurd rfl q
theorem lJ(h:mh l=true):(hp b G n).add l o=hp b (G.add l o) n:=by
 refine AH.wU ((lI h).trans (AH.bP ..)) (λk hk=>?_) λk=>?_
 ·by_cases q:mh k=true
  ·rw[lI q,lI q,AH.bQ _ _ hk]
  ·induction k<;>first|rfl|exact absurd rfl q
 ·by_cases q:mh k=true
  ·rw[uR q,uR q];exact af5
  ·have hk:k≠l:=λe=>q (e▸h)
   induction k<;>first|exact⟨λz=>⟨z,hk⟩,λz=>z.1⟩|exact absurd rfl q
theorem xx(h:AH.Le G G'):AH.Le (hp b G n) (hp b G' n):=by
 refine⟨λl o e=>?_,λl e=>?_⟩
 ·by_cases q:mh l=true
  ·rw[lI q]at e ⊢;exact h.get l o e
  ·induction l<;>first|exact e|exact absurd rfl q
 ·by_cases q:mh l=true
  ·rw[uR q]at e ⊢;exact h.new l e
  ·induction l<;>first|exact e|exact absurd rfl q
theorem iM(x:LX)(s:LS)(j:Nat):(lG x s).get (.bz j)=(s.aa[j]?).bind λy=>if y.tx=true then none else some (.list (y.kids.map (cf s))):=by
 unfold lG;dsimp only;cases s.aa[j]?<;>rfl
theorem oW:(hp b (lG x s) n).get .state=some (.map (j8 s)):=rfl
theorem Bc:(hp b (lG x s) n).get .hZ=some (.list (bJ s.aH)):=rfl
theorem nA:(hp b (lG x s) n).get (.path (s.pk+1))=some (.list (s.path.map (cI s))):=by
 show(if s.pk=s.pk then _ else _)=_;rw[if_pos rfl]
theorem xy:(hp b (lG x s) n).get (.run s.rk)=some (.list (s.run.map .str)):=by
 show(if s.rk=s.rk then _ else _)=_;rw[if_pos rfl]
theorem uS(h:cP s i=some y):∃k:Nat,i=(k:Int)/\s.aa[k]?=some y/\y.tx=false:=by
 refine bE h λz h1 h2=>?_
 refine cC (gK h1) λk e _ h1=>?_
 split at h2
 ·exact af h2
 ·rename_i q;apply sE h2;exact⟨k,e,h1,by simpa using q⟩
theorem uT(h:cP s i=some y):cI s i=.aw [.str y.name,.aw y.attrs,.ae (.bz i.toNat)]:=by
 refine cC (uS h) λk e h1 _=>?_
 subst e;unfold cI;rw[afv,h1]
theorem Sn(h:s'.aa=s.aa):cI s'=cI s:=by
 funext i
 unfold cI;rw[h]
theorem So(h:s'.aa=s.aa):cf s'=cf s:=by
 funext i
 unfold cf;rw[h]
theorem Gy:(lG x s).set (.path (s.pk+1)) (.list (p.map (cI s)))=lG x {s with path:=p}:=by
 refine AH.eJ (by show(if s.pk=s.pk then _ else _)=_;rw[if_pos rfl,Sn (s':={s with path:=p}) (s:=s) rfl]) (λl h=>?_) λl=>by induction l<;>exact af5
 induction l with
 |path k=>
  induction k with
  |zero=>rfl
  |succ k=>
   have:k≠s.pk:=λe=>h (e▸rfl)
   show(if k=s.pk then _ else _)=(if k=s.pk then _ else _);rw[if_neg this,if_neg this]
 |bz k=>
  rw[iM,iM,So (s':={s with path:=p}) (s:=s) rfl]
 |_=>rfl
theorem Sp:(lG x s).set .hZ (.list (bJ e))=lG x {s with aH:=e}:=by
 refine AH.eJ rfl (λl h=>?_) λl=>by induction l<;>exact af5
 induction l with
 |hZ=>exact(h rfl).elim
 |path k=>induction k<;>rfl
 |_=>rfl
theorem Sq:(lG x s).set (.run s.rk) (.list (r.map .str))=lG x {s with run:=r}:=by
 refine AH.eJ (by show(if s.rk=s.rk then _ else _)=_;rw[if_pos rfl]) (λl h=>?_) λl=>by induction l<;>exact af5
 induction l with
 |run k=>
  have:k≠s.rk:=λe=>h (e▸rfl)
  show(if k=s.rk then _ else _)=(if k=s.rk then _ else _);rw[if_neg this,if_neg this]
 |path k=>induction k<;>rfl
 |_=>rfl
theorem uU(h:s.aa[i]?=some y)(k:Nat):(s.aa.set i z)[k]?=if k=i then some z else s.aa[k]?:=by
 refine aF (afk.mp h) λhi _=>?_
 rw[agi];by_cases q:i=k
 ·rw[if_pos q,if_pos (q▸hi),if_pos q.symm]
 ·rw[if_neg q,if_neg (Ne.symm q)]
theorem Gz(h1:s.aa[k]?=some y)(j9:y.tx=false):(lG x s).set (.bz k) (.list (ks.map (cf s)))=lG x (s.b5 k {y with kids:=ks}):=by
 have g:=uU (z:={y with kids:=ks}) h1
 have e1:cI (s.b5 k {y with kids:=ks})=cI s:=by
  funext j
  unfold cI LS.b5;rw[g];by_cases q:j.toNat=k
  ·rw[if_pos q,q,h1]
  ·rw[if_neg q]
 have e2:cf (s.b5 k {y with kids:=ks})=cf s:=by
  funext j
  unfold cf LS.b5;rw[g];by_cases q:j.toNat=k
  ·rw[if_pos q,q,h1]
  ·rw[if_neg q]
 have gl:∀j:Nat,(lG x (s.b5 k {y with kids:=ks})).get (.bz j)=if j=k then some (.list (ks.map (cf s)))else(lG x s).get (.bz j):=λj=>by
  rw[iM,iM,e2];show((s.aa.set k {y with kids:=ks})[j]?).bind _=_
  rw[g];by_cases q:j=k
  ·rw[if_pos q,if_pos q];exact if_neg (by show¬y.tx=true;rw[j9];decide)
  ·rw[if_neg q,if_neg q]
 refine AH.eJ (by rw[gl,if_pos rfl]) (λl hl=>?_) λl=>?_
 ·induction l with
  |bz j=>
   rw[gl,if_neg λe=>hl (afp _ e)]
  |path j=>
   induction j with
   |zero=>rfl
   |succ j=>
    show(if j=s.pk then some (b8.list (s.path.map (cI (s.b5 k {y with kids:=ks}))))else none)=_
    rw[e1];rfl
  |_=>rfl
 ·induction l with
  |bz j=>show(s.aa.set k _).length<=j↔s.aa.length<=j;rw[af6]
  |_=>exact af5
theorem GA(h:valid s=true):∀i∈s.path,∃k:Nat,i=(k:Int)/\k<s.aa.length:=λi hi=>by
 unfold valid at h;rw[afi,afn]at h;have:=h.1 i hi;rw[afi,afO,afO]at this;exact⟨i.toNat,(af9 this.1).symm,(Int.toNat_lt this.1).mpr this.2⟩
theorem xA(h:valid s=true){j:Nat}(hj:s.aa[j]?=some y):∀i∈y.kids,∃k:Nat,i=(k:Int)/\k<s.aa.length:=λi hi=>by
 unfold valid at h;rw[afi,afn,afn]at h;have h2:=h.2 y (age hj);rw[afn]at h2;have:=h2 i hi;rw[afi,afO,afO]at this;exact⟨i.toNat,(af9 this.1).symm,(Int.toNat_lt this.1).mpr this.2⟩
theorem Sr{k:Nat}(e:i=(k:Int))(h:k<s.aa.length):cI {s with aa:=s.aa++[z]} i=cI s i:=by
 unfold cI;dsimp only;rw[e,afv,afU h]
theorem Ss{k:Nat}(e:i=(k:Int))(h:k<s.aa.length):cf {s with aa:=s.aa++[z]} i=cf s i:=by
 unfold cf;dsimp only;rw[e,afv,afU h]
theorem Su{name:Str}(h:valid s=true):(lG x s).add (.bz s.aa.length) (.list [])=lG x {s with aa:=s.aa++[⟨false,name,as,S "",[]⟩]}:=by
 have gl:∀j:Nat,(lG x {s with aa:=s.aa++[⟨false,name,as,S "",[]⟩]}).get (.bz j)=if j=s.aa.length then some (.list [])else(lG x s).get (.bz j):=λj=>by
  rw[iM,iM];show((s.aa++[(⟨false,name,as,S "",[]⟩:LN)])[j]?).bind _=_;by_cases q:j<s.aa.length
  ·rw[afU q,if_neg (by exact afZ q)]
   cases hy:s.aa[j]? with
   |none=>rfl
   |some y=>
    show(if y.tx=true then none else _)=(if y.tx=true then none else _);by_cases ht:y.tx=true
    ·rw[if_pos ht,if_pos ht]
    ·rw[if_neg ht,if_neg ht];refine afp (λz=>some (b8.list z)) (aga λi hi=>?_)
     refine ah (xA h hy i hi) λk e hk=>?_
     exact Ss e hk
  ·by_cases q2:j=s.aa.length
   ·rw[if_pos q2,q2,af2 (afm _)];simp
   ·rw[if_neg q2,afK (by simp;lia),afK (by exact af0 q)]
    rfl
 refine AH.wU (by rw[gl,if_pos rfl]) (λl hl=>?_) λl=>?_
 ·induction l with
  |bz j=>rw[gl,if_neg λe=>hl (afp _ e)]
  |path j=>
   induction j with
   |zero=>rfl
   |succ j=>
    show(if j=s.pk then some (b8.list (s.path.map (cI {s with aa:=s.aa++[⟨false,name,as,S "",[]⟩]})))else none)=_
    have:s.path.map (cI {s with aa:=s.aa++[⟨false,name,as,S "",[]⟩]})=s.path.map (cI s):=aga λi hi=>by
     refine ah (GA h i hi) λk e hk=>?_
     exact Sr e hk
    rw[this];rfl
  |_=>rfl
 ·induction l with
  |bz j=>
   show(s.aa++[_]).length<=j↔s.aa.length<=j/\Loc.bz j≠.bz s.aa.length;rw[afl,afF];constructor
   ·intro q;exact⟨by exact Nat.le_of_lt ‹_›,λe=>by injection e with e;exact agz _ (e▸q)⟩
   ·intro q;have:j≠s.aa.length:=λe=>q.2 (e▸rfl)
    lia
  |_=>exact⟨λz=>⟨z,λe=>by cases e⟩,λz=>z.1⟩
theorem Sv{k:Nat}(h:valid s=true)(h1:s.aa[k]?=some y)(j9:y.tx=false):AH.Le ((lG x s).set (.bz k) (.list ((y.kids.map (cf s)).take at_++.str t::(y.kids.map (cf s)).drop at_)))
  (lG x {s with aa:=(s.aa.set k {y with kids:=y.kids.take at_++(s.aa.length:Int)::y.kids.drop at_})++[⟨true,S "",[],t,[]⟩]}):=by
 have h0:valid {s with aa:=s.aa}=true:=h
 refine aF (afk.mp h1) λhk _=>?_
 have g:∀j:Nat,((s.aa.set k {y with kids:=y.kids.take at_++(s.aa.length:Int)::y.kids.drop at_})++[(⟨true,S "",[],t,[]⟩:LN)])[j]?=if j=k then some {y with kids:=y.kids.take at_++(s.aa.length:Int)::y.kids.drop at_}else if j=s.aa.length then some ⟨true,S "",[],t,[]⟩else s.aa[j]?:=λj=>by
  by_cases q:j<s.aa.length
  ·rw[afU (by rw[af6];exact q),uU h1]
   by_cases q2:j=k
   ·rw[if_pos q2,if_pos q2]
   ·rw[if_neg q2,if_neg q2,if_neg (by exact afZ q)]
  ·rw[af2 (by rw[af6];exact af0 q),af6,if_neg (by lia)]
   by_cases q2:j=s.aa.length
   ·rw[if_pos q2,q2];simp
   ·rw[if_neg q2,afK (by simp;lia),afK (by exact af0 q)]
 generalize kO:({s with aa:=(s.aa.set k {y with kids:=y.kids.take at_++(s.aa.length:Int)::y.kids.drop at_})++[(⟨true,S "",[],t,[]⟩:LN)]}:LS)=s'
 have g':∀j:Nat,s'.aa[j]?=if j=k then some {y with kids:=y.kids.take at_++(s.aa.length:Int)::y.kids.drop at_}else if j=s.aa.length then some ⟨true,S "",[],t,[]⟩else s.aa[j]?:=λj=>by rw[<-kO];exact g j
 have en:∀(i:Int) (c:Nat),i=(c:Int)->c<s.aa.length->cI s' i=cI s i:=λi c e hc=>by
  unfold cI;rw[e,afv,g'];by_cases q:c=k
  ·rw[if_pos q,q,h1]
  ·rw[if_neg q,if_neg (by exact afZ hc)]
 have ek:∀(i:Int) (c:Nat),i=(c:Int)->c<s.aa.length->cf s' i=cf s i:=λi c e hc=>by
  unfold cf;rw[e,afv,g'];by_cases q:c=k
  ·rw[if_pos q,q,h1]
  ·rw[if_neg q,if_neg (by exact afZ hc)]
 have et:cf s' (s.aa.length:Int)=.str t:=by
  unfold cf;rw[afv,g',if_neg (by exact Nat.ne_of_gt hk),if_pos rfl];rfl
 have GB:∀(j:Nat) (z:LN),s.aa[j]?=some z->z.kids.map (cf s')=z.kids.map (cf s):=λj z hz=>aga λi hi=>by
  refine ah (xA h hz i hi) λc e hc=>?_
  exact ek i c e hc
 have Sw:s'.path=s.path:=by rw[<-kO]
 have Be:s'.pk=s.pk:=by rw[<-kO]
 have Bf:s'.rk=s.rk:=by rw[<-kO]
 have xB:s'.run=s.run:=by rw[<-kO]
 have Sx:s'.old=s.old:=by rw[<-kO]
 have Sz:s'.aH=s.aH:=by rw[<-kO]
 have f9:s'.aa.length=s.aa.length+1:=by rw[<-kO];simp
 refine⟨λl o e=>?_,λl e=>?_⟩
 ·by_cases q:l=.bz k
  ·subst q;rw[AH.rG];rw[iM,g',if_pos rfl]at e;have e':(if y.tx=true then none else some (b8.list ((y.kids.take at_++(s.aa.length:Int)::y.kids.drop at_).map (cf s'))))=some o:=e;rw[if_neg (by rw[j9];decide)]at e'
   rw[<-e'];show _=some (b8.list ((y.kids.take at_++(s.aa.length:Int)::y.kids.drop at_).map (cf s')));rw[afz,agk,et,List.map_take,ahb,GB k y h1]
  ·rw[AH.rH _ _ q]
   induction l with
   |bz j=>
    have hj:j≠k:=λz=>q (z▸rfl)
    rw[iM,g',if_neg hj]at e;rw[iM];by_cases q2:j=s.aa.length
    ·rw[if_pos q2]at e;exact af e
    ·rw[if_neg q2]at e;cases hz:s.aa[j]? with
     |none=>rw[hz]at e;exact af e
     |some z=>
      rw[hz]at e;have e':(if z.tx=true then none else some (b8.list (z.kids.map (cf s'))))=some o:=e;rw[GB j z hz]at e';exact e'
   |path j=>
    induction j with
    |zero=>exact e
    |succ j=>
     have e':(if j=s'.pk then some (b8.list (s'.path.map (cI s')))else none)=some o:=e;show(if j=s.pk then some (b8.list (s.path.map (cI s)))else none)=some o;rw[Be,Sw]at e';have:s.path.map (cI s')=s.path.map (cI s):=aga λi hi=>by
      refine ah (GA h i hi) λc e hc=>?_
      exact en i c e hc
     rw[this]at e';exact e'
   |state=>
    have e':some (b8.map (j8 s'))=some o:=e;unfold j8 at e';rw[Be,Bf]at e';exact e'
   |hZ=>
    have e':some (b8.list (bJ s'.aH))=some o:=e
    replace e':=Sz▸e';exact e'
   |run j=>
    have e':(if j=s'.rk then some (b8.list (s'.run.map .str))else match s'.old with|some o=>if j+1=s'.rk then some (.list (o.map .str))else none|none=>none)=some o:=e
    rw[Bf,xB,Sx]at e';exact e'
   |tokens=>exact e
   |_=>exact af e
 ·induction l with
  |bz j=>
   have e':s'.aa.length<=j:=e;show s.aa.length<=j
   lia
  |path j=>
   have e':s'.pk+1<j:=e
   replace e':=Be▸e';exact e'
  |run j=>
   have e':s'.rk<j:=e;rw[Bf]at e';exact e'
  |tokens=>exact e
  |_=>induction e
end
section
variable{b:B}{G:AH}{n:Nat}{x:LX}{s:LS}
theorem GC(h:nz s i j k=true){a c:Nat}(ha:s.aa[a]?=some y)(ht:y.tx=false)(hc:y.kids[c]?=some k):(a:Int)=i/\(c:Int)=j:=by
 unfold nz at h;rw[afn]at h;refine aF (afk.mp ha) λaR _=>?_
 have h1:=h a (ahh.mpr aR)
 replace h1:=ha▸h1
 dsimp only at h1;rw[ht,agL,afn]at h1;refine aF (afk.mp hc) λSE _=>?_
 have h2:=h1 c (ahh.mpr SE);rw[hc]at h2;simpa using h2
theorem SG{a:Nat}{j:Nat}(hv:valid s=true)(h1:s.aa[a]?=some y)(j9:y.tx=false)(hj:y.kids[j]?=some k)(hz:je s k=some z)(ht:z.tx=true)(hs:nz s (a:Int) j k=true):
  (lG x s).set (.bz a) (.list ((y.kids.map (cf s)).set j (.str t)))=lG x (s.b5 k.toNat {z with text:=t}):=by
 refine cC (gK hz) λc e2 _ eO=>?_
 subst e2;rw[afv];have SH:a≠c:=λq=>by rw[q,eO]at h1;obtain rfl:=ack h1;replace j9:=ht▸j9;cases j9
 have g:=uU (z:={z with text:=t}) eO
 have e1:cI (s.b5 c {z with text:=t})=cI s:=by
  funext q
  unfold cI LS.b5;rw[g];by_cases r:q.toNat=c
  ·rw[if_pos r,r,eO]
  ·rw[if_neg r]
 have ek:∀q:Int,q.toNat≠c->cf (s.b5 c {z with text:=t}) q=cf s q:=λq r=>by
  unfold cf LS.b5;rw[g,if_neg r]
 have ec:cf (s.b5 c {z with text:=t}) (c:Int)=.str t:=by
  unfold cf LS.b5;rw[afv,g,if_pos rfl];dsimp only;rw[if_pos ht]
 have gl:∀q:Nat,(lG x (s.b5 c {z with text:=t})).get (.bz q)=if q=a then some (.list ((y.kids.map (cf s)).set j (.str t)))else(lG x s).get (.bz q):=λq=>by
  rw[iM,iM];show((s.aa.set c {z with text:=t})[q]?).bind _=_
  rw[g];by_cases r:q=a
  ·rw[if_pos r,if_neg (by exact r▸SH),r,h1]
   show(if y.tx=true then none else _)=_;rw[if_neg (by rw[j9];decide)]
   refine afp (λz=>some (b8.list z)) (List.ext_getElem? λm=>?_)
   rw[afG,agi,afG,afj];by_cases hm:j=m
   ·rw[if_pos hm,<-hm,hj];refine aF (afk.mp hj) λaR _=>?_
    rw[if_pos aR];exact afp some ec
   ·rw[if_neg hm];cases hw:y.kids[m]? with
    |none=>rfl
    |some v=>
     refine afp some ?_;refine ah (xA hv h1 v (age hw)) λv' e _=>?_
     subst e;refine ek _ λuV=>?_
     rw[afv]at uV;subst uV;have:=(GC hs h1 j9 hw).2
     lia
  ·rw[if_neg r];by_cases r2:q=c
   ·rw[if_pos r2,r2,eO];show(if z.tx=true then none else _)=(if z.tx=true then none else _);rw[if_pos ht,if_pos ht]
   ·rw[if_neg r2];cases hw:s.aa[q]? with
    |none=>rfl
    |some w=>
     show(if w.tx=true then none else _)=(if w.tx=true then none else _);by_cases uW:w.tx=true
     ·rw[if_pos uW,if_pos uW]
     ·rw[if_neg uW,if_neg uW];refine afp (λz=>some (b8.list z)) (aga λv uO=>?_)
      refine ah (xA hv hw v uO) λv' e _=>?_
      subst e;refine ek _ λuV=>?_
      rw[afv]at uV;subst uV;refine aF (List.mem_iff_getElem?.mp uO) λm hm=>?_
      have:=(GC hs hw (by simpa using uW) hm).1
      lia
 refine AH.eJ (by rw[gl,if_pos rfl]) (λl hl=>?_) λl=>?_
 ·induction l with
  |bz q=>rw[gl,if_neg λe=>hl (afp _ e)]
  |path q=>
   induction q with
   |zero=>rfl
   |succ q=>
    show(if q=s.pk then some (b8.list (s.path.map (cI (s.b5 c {z with text:=t}))))else none)=_
    rw[e1];rfl
  |_=>rfl
 ·induction l with
  |bz q=>show(s.aa.set c _).length<=q↔s.aa.length<=q;rw[af6]
  |_=>exact af5
theorem SI:AH.Le (((lG x s).add (.path (s.pk+2)) (.list (p.map (cI s)))).set .state (.map (fR (j8 s) (S "path") (.ae (.path (s.pk+2)))))) (lG x {s with path:=p,pk:=s.pk+1}):=by
 refine .put (by intro e;cases e) (λv e=>?_) (λv e=>?_) (λl h1 h2 v e=>?_) (λl e=>?_) λe=>agz _ e
 ·exact(if_pos rfl).symm.trans e
 ·exact(afp (λz=>some (b8.map z)) (by kernel_rfl:fR (j8 s) (S "path") (.ae (.path (s.pk+2)))=j8 {s with path:=p,pk:=s.pk+1})).trans e
 ·induction l with
  |state=>exact(h2 rfl).elim
  |path j=>
   cases j with
   |zero=>exact e
   |succ j=>exact af ((if_neg λq=>h1 (afp (λj=>Loc.path (j+1)) q)).symm.trans e)
  |bz j=>rw[iM]at e ⊢;exact e
  |_=>exact e
 ·induction l with
  |path j=>exact Nat.lt_of_succ_lt e
  |_=>exact e
theorem SJ:AH.Le (((lG x s).add (.run (s.rk+1)) (.list [])).set .state (.map (fR (j8 s) (S "run") (.ae (.run (s.rk+1)))))) (lG x {s with run:=[],rk:=s.rk+1,old:=some s.run}):=by
 refine .put (by intro e;cases e) (λv e=>?_) (λv e=>?_) (λl h1 h2 v e=>?_) (λl e=>?_) λe=>agz _ e
 ·exact(if_pos rfl).symm.trans e
 ·exact(afp (λz=>some (b8.map z)) (by kernel_rfl:fR (j8 s) (S "run") (.ae (.run (s.rk+1)))=j8 {s with run:=[],rk:=s.rk+1,old:=some s.run})).trans e
 ·induction l with
  |state=>exact(h2 rfl).elim
  |run j=>
   replace e:=(if_neg λq=>h1 (afp Loc.run q)).symm.trans e
   by_cases q2:j+1=s.rk+1
   ·exact(if_pos (agI q2)).trans ((if_pos q2).symm.trans e)
   ·exact af ((if_neg q2).symm.trans e)
  |path j=>cases j<;>exact e
  |bz j=>rw[iM]at e ⊢;exact e
  |_=>exact e
 ·induction l with
  |run j=>exact Nat.lt_of_succ_lt e
  |_=>exact e
end
theorem Bg{st:Stmt}(h:nk st=true)(hn:uC st=S q):H.k8 st q 3 .none md cd=docDef (S q) (FH st) (cO st) (fC st) md cd .none:=by
 induction st using Stmt.casesOn<;>first|(subst hn;rfl)|cases h
section
variable{d:Nat}{f:aP}{m:Lo}{X:AH}
theorem Call.SK{st:Stmt}{names:List Str}(fz:Lo)(jM jN:Str)(gc gO:Loc)
  (ho:kX.lookup fa=some (H.fn st q .none md (.ref ca)))(hc:kX.lookup ca=some ⟨.type "code",none,.fields vs,#[]⟩)(hv:vs.toList=a::.str (S q) tk::rs)(hi:nk st=true)(hq:uC st=S q)
  (hbind:∀(vs:List Value),vs.length=args.length->bindArgs (H.k8 st q 3 .none md (.ref ca)) ⟨vs,[]⟩=pure (names.zip vs))
  (eb:cO st=body)(es:fC st=scope)
  (hloc:∀x∈names,eh scope.names x .local)(fB:∀L,cellsFrom (L+1) scope.names []=[(jN,L+1+1),(jM,L+1)])(hx:(jM==jN)=false)(ie:fz=(names.zip args).reverse)(xr:X.new gc)(xu:X.new gO)(hne:gO≠gc)
  (h:bG d (.fn (S q) scope fa (.ref ca) [(jN,gO),(jM,gc)]) fz ((X.add gc (.cell none)).add gO (.cell none)) body (λfl _ H'=>∃bg,AH.Le H' bg/\Q fl.val bg))
  (hs:qd scope=true):aU (d+1) (.ref fa) args X Q:=by
 subst eb es;have e:=Bg (md:=md) (cd:=.ref ca) hi hq;refine Call.Si fz jM jN gc gO (ho.trans (afp some (afp (λz=>Obj.mk (.type "function") none (.func z) #[]) e))) (uc hc hv) (λvs hv=>?_) hloc fB hx ie xr xu hne h hs
 exact e▸hbind vs hv
theorem SM(AP:bj ρ X s.heap)(hn:ρ l=none)(S:Step ρ s.heap bp cM)(p:gm ρ s Q Qc){H':AH}{s':Shared}
  (q:∃o,H'=X.add l o/\ew l fl.val/\Q fl.val X)(X':St ag H' (cm:=cm) ⟨s.heap.objs.size,cl⟩ m' s'.heap)(S':bO (some s.heap.objs.size) bp cM ag s'.heap)(z':dH {s with heap:=cM,toks:=tk} s')(r':pW s'.heap ag fl v):
  Qc (oF v) s':=by
 have SS:Step ρ s.heap ag s'.heap:=((bO.weak S).trans S').fresh (ku _);obtain⟨o,rfl,nv,q⟩:=q;have R':=bj.cB AP hn X'.bR;have SD:=SS.cB hn
 induction r' with
 |next=>exact p _ _ (ag.cB l) X s' q R' SD ⟨z'.gens,z'.os⟩ .none
 |brk=>exact p _ _ (ag.cB l) X s' q R' SD ⟨z'.gens,z'.os⟩ .none
 |cont=>exact p _ _ (ag.cB l) X s' q R' SD ⟨z'.gens,z'.os⟩ .none
 |ret r=>exact p _ _ (ag.cB l) X s' q R' SD ⟨z'.gens,z'.os⟩ (r.cB nv)
theorem Call.SN{st:Stmt}(x y:Str)(l:Loc)
  (ho:kX.lookup fa=some (H.fn st q .none md (.ref ca)))(hc:kX.lookup ca=some ⟨.type "code",none,.fields vs,#[]⟩)(hv:vs.toList=a::.str (S q) tk::rs)(hi:nk st=true)(hq:uC st=S q)
  (hbind:∀(a b:Value),bindArgs (H.k8 st q 3 .none md (.ref ca)) ⟨[a,b],[]⟩=pure [(x,a),(y,b)])
  (eb:cO st=body)(es:fC st=scope)
  (uX:eh scope.names x .cell)(Bh:eh scope.names y .local)(fB:∀L,cellsFrom (L+1) scope.names []=[(x,L+1)])(hn:X.new l)
  (h:bG d (.fn (S q) scope fa (.ref ca) [(x,l)]) [(y,v)] (X.add l (.cell (some u))) body (λfl _ H'=>∃o,H'=X.add l o/\ew l fl.val/\Q fl.val X))
  (hs:qd scope=true):aU (d+1) (.ref fa) [u,v] X Q:=by
 subst eb es;have e:=Bg (md:=md) (cd:=.ref ca) hi hq;have mX:=ho.trans (afp some (afp (λz=>Obj.mk (.type "function") none (.func z) #[]) e))
 have mR:=uc hc hv;refine dG (Ak hs) λmS mT hk=>?_
 intro A ρ s vs Qc E room R rv p;refine cK rv.mV λuv vv aM ru SO=>?_;subst aM
 refine wpAny_call ?_;have KX:=R.lq;refine aO (ub room (envOfC (S q) (fC st) s.heap.objs.size fa (.ref ca))) λmU lu=>?_
 have kx:(envOfC (S q) (fC st) s.heap.objs.size fa (.ref ca)).kindOf x=some .cell:=uX.eq;have ky:(envOfC (S q) (fC st) s.heap.objs.size fa (.ref ca)).kindOf y=some .local:=Bh.eq;refine call_cells mU (KX _ _ mX) rfl (R.bs.mO.keeps R.base) (codeRec_of KX mR) (by exact e▸hbind uv vv) (λz hz=>?_) (λcM tk F Y=>?_) mS mT hk
 ·cases hz with
  |head=>exact .inr ⟨uX.eq,by rw[fB];simp⟩
  |tail _ hz=>cases hz with
   |head=>exact .inl Bh.eq
   |tail _ hz=>exact nomatch hz
 rw[fB]at Y;refine cC (wR (Y.cell x (s.heap.objs.size+1) (by simp))) λob ec uz uA=>?_
 have eC:bindC (envOfC (S q) (fC st) s.heap.objs.size fa (.ref ca)).kindOf [(x,uv),(y,vv)] (λ_=>none) x=some uv:=by
  unfold bindC;rw[if_neg (by rw[kx];decide)]
  unfold bindC;rw[if_pos ky]
  delta bindC
  exact if_pos rfl
 rw[eC]at uA;have S0:Step ρ s.heap ρ cM:=Step.keeps F.keep;have fA:=R.keeps F.keep;have out:∀b,s.heap.objs.size<=b->s.heap.get? b=none:=λb hb=>by
  cases q:s.heap.get? b with
  |none=>rfl
  |some o=>exact absurd (af8 q) (ahg.mpr hb)
 have fr:∀b,s.heap.objs.size<=b->∀y,ρ y≠some b:=λb hb y e=>by
  refine aF (R.live y b e) λo q=>?_
  rw[out b hb]at q;exact af q
 have oU:∀b,s.heap.objs.size<=b->hX.get? b=none:=λb hb=>by
  cases q:hX.get? b with
  |none=>rfl
  |some o=>have:=R.base b o q;rw[out b hb]at this;exact af this
 have D:DictAt cM (some (s.heap.objs.size+1)):=λc z=>by apply sE z;exact⟨ob,ec,uz⟩
 refine aO (fA.wQ (l:=l) (a:=s.heap.objs.size+1) (o:=.cell (some u)) hn ec uz (fr _ (agc _)) (oU _ (agc _)) (λM=>⟨ob,some uv,ec,uA,uv,rfl,(ru.step S0 .none).c9 M D⟩)) λcL qn=>?_
 have SS:Step ρ s.heap (ρ.add l (s.heap.objs.size+1)) cM:=⟨qn.ext,λy a e=>by
   by_cases q:y=l
   ·subst q;rw[aC.bP]at e;apply sE e;exact .inr (out _ (agc _))
   ·rw[aC.bQ _ _ q]at e;exact .inl e,S0.keep,S0.live⟩
 have qo:RelM cM (ρ.add l (s.heap.objs.size+1)) [(y,v)] (bindL (envOfC (S q) (fC st) s.heap.objs.size fa (.ref ca)).kindOf [(x,uv),(y,vv)] λ_=>none):=by
  intro z av e;rw[l4]at e;by_cases q:z=y
  ·rw[if_pos q]at e;apply sE e;refine⟨vv,?_,(SO.step S0 .none).c9 qn D⟩;unfold bindL;rw[if_neg (by rw[kx];decide)]
   unfold bindL;rw[if_pos ky]
   delta bindL
   exact if_pos q
  ·rw[if_neg q]at e;exact af e
 have fZ:St (ρ.add l (s.heap.objs.size+1)) (X.add l (.cell (some u))) (cm:=[(x,l)]) ⟨s.heap.objs.size,[(x,s.heap.objs.size+1)]⟩ [(y,v)] cM:=
  ⟨cL,⟨_,⟨F.ns,cL.base,cG R.top λb o' q z=>ads q (af8 z)⟩,qo⟩,λy e=>by
   by_cases q:y=l
   ·subst q;rw[aC.bP]at e;exact absurd (ack e) (ag6 _)
   ·rw[aC.bQ _ _ q]at e;exact fr _ (afm _) y e,λy l' e=>by
   rw[afx]at e ⊢;cases q:y==x with
   |true=>rw[q]at e;apply sE e;exact⟨_,rfl,aC.bP ..⟩
   |false=>rw[q]at e;exact af e⟩
 have hh:=λE'=>h _ (ρ.add l (s.heap.objs.size+1)) ⟨s.heap.objs.size,[(x,s.heap.objs.size+1)]⟩ {s with heap:=cM,toks:=tk} (λf s'=>Qc (oF f) s') E' lu fZ λfl v ag m' H' s' q X' S' z' r'=>SM R (R.new l hn) SS p q X' S' z' r'
 refine ahe (M:=model bX wX) (Q:=λf s'=>Qc (oF f) s') (E:=λe s'=>wpAny (model bX wX) (A.deeper (envOfC (S q) (fC st) s.heap.objs.size fa (.ref ca))) (leaving (envOfC (S q) (fC st) s.heap.objs.size fa (.ref ca)) e) (λ_ fu=>E e fu) (λe' fu=>E e' fu) s') ?_ (λfl s' q=>by induction fl<;>exact q) (λe s' q=>q)
 have e1:envOfC (S q) (fC st) s.heap.objs.size fa (.ref ca)=envX (S q) (fC st) s.heap.objs.size fa (.ref ca) [(x,s.heap.objs.size+1)]:=by unfold envOfC;rw[fB]
 rw[e1]at hh ⊢;exact hh _
end
theorem sv(h:Str.ofString a=Str.ofString b):a=b:=by
 rw[agZ,agZ]at h;have h1:(a.toList.map Char.toNat).toArray=(b.toList.map Char.toNat).toArray:=by injection h
 have h2:a.toList.map Char.toNat=b.toList.map Char.toNat:=by simpa using h1
 have h3:=(List.map_inj_right (f:=Char.toNat) (λx y e=>Char.toNat_inj.mp e)).mp h2
 exact String.toList_inj.mp h3
theorem uY(a b:String):(Str.ofString a==Str.ofString b)=(a==b):=by
 by_cases h:a=b
 ·subst h;simp
 ·have:¬Str.ofString a=Str.ofString b:=λe=>h (sv e)
  rw[aft.mpr h,aft.mpr this]
theorem Bi(a b:String):(Str.ofString a=Str.ofString b)=(a=b):=by
 apply propext;exact⟨sv,λe=>by rw[e]⟩
theorem mi(h:xs.length<=1000000)(i:Nat):b9 xs (i:Int)=xs[i]?:=by
 unfold b9;by_cases q:0<=(i:Int)/\(i:Int)<1000000
 ·rw[if_pos q];rfl
 ·rw[if_neg q,afK (by lia)]
structure nB(ns:List Nd):Prop where
 bV:∀(i:Nat) x,ns[i]?=some x->∀k∈x.kids,∃(c:Nat) (y:Nd),k=(c:Int)/\i<c/\ns[c]?=some y/\y.bq=(i:Int)
 sx:∀(i:Nat) x,ns[i]?=some x->x.kids.Nodup
 dI:∀(i:Nat) x,ns[i]?=some x->x.bq=-1\/∃(p:Nat),x.bq=(p:Int)/\p<i
noncomputable def Nd.eV (xp:Nd)(at_:Nat)(k:Int):Nd:={xp with kids:=xp.kids.take at_++k::xp.kids.drop at_}
noncomputable def eK (ns:List Nd)(p:Nat)(xp:Nd)(at_:Nat)(x:Nd):List Nd:=ns.set p (xp.eV at_ ns.length)++[{x with bq:=(p:Int)}]
theorem GD:(eK ns p xp at_ x).length=ns.length+1:=by unfold eK;simp
theorem jg(hp:p<ns.length)(i:Nat):(eK ns p xp at_ x)[i]?=if i=p then some (xp.eV at_ ns.length)else if i=ns.length then some {x with bq:=(p:Int)}else ns[i]?:=by
 unfold eK;rw[List.getElem?_append,af6];by_cases h:i<ns.length
 ·rw[if_pos h,agi];by_cases q:p=i
  ·rw[if_pos q,if_pos (q▸hp),if_pos q.symm]
  ·rw[if_neg q,if_neg (Ne.symm q),if_neg (by exact afZ h)]
 ·rw[if_neg h,if_neg (by lia)]
  by_cases q:i=ns.length
  ·rw[if_pos q,q];simp
  ·rw[if_neg q,afK (by simp;lia),afK (by exact af0 h)]
theorem SP{xs:List α}:y∈xs.take n++k::xs.drop n↔y=k\/y∈xs:=by
 have h:y∈xs↔y∈xs.take n\/y∈xs.drop n:=by
  rw[<-afu,ag1]
 rw[afu,ahc,h];constructor
 ·rintro (a|a|a)<;>simp[a]
 ·rintro (a|a|a)<;>simp[a]
theorem SQ{xs:List Int}(h:xs.Nodup)(hk:k∉xs):(xs.take n++k::xs.drop n).Nodup:=by
 have h2:(xs.take n++xs.drop n).Nodup:=by rw[ag1];exact h
 rw[List.nodup_append]at h2 ⊢;refine dG h2 λa b c=>?_
 refine⟨a,?_,?_⟩
 ·rw[List.nodup_cons];exact⟨λq=>hk (agt q),b⟩
 ·intro x hx y hy;rcases ahc.mp hy with q|q
  ·rw[q];intro e;exact hk (e▸List.mem_of_mem_take hx)
  ·exact c x hx y q
theorem nB.add{ns:List Nd}{p:Nat}(T:nB ns)(hp:ns[p]?=some xp)(hx:x.kids=[]):nB (eK ns p xp at_ x):=by
 refine aF (afk.mp hp) λaR _=>?_
 have up:∀(c:Nat) (y:Nd),ns[c]?=some y->∃y',(eK ns p xp at_ x)[c]?=some y'/\y'.bq=y.bq:=λc y e=>by
  rw[jg aR];refine aF (afk.mp e) λhc _=>?_
  by_cases q:c=p
  ·rw[if_pos q];rw[q,hp]at e;cases e;exact⟨_,rfl,rfl⟩
  ·rw[if_neg q,if_neg (by exact afZ hc)];exact⟨y,e,rfl⟩
 have new:∃y',(eK ns p xp at_ x)[ns.length]?=some y'/\y'.bq=(p:Int):=by
  rw[jg aR,if_neg (by exact Nat.ne_of_gt aR),if_pos rfl];exact⟨_,rfl,rfl⟩
 refine⟨λi z e k hk=>?_,λi z e=>?_,λi z e=>?_⟩
 ·rw[jg aR]at e;by_cases q:i=p
  ·rw[if_pos q]at e;cases e;rcases SP.mp hk with h|h
   ·refine ah new λy' e1 e2=>?_
    exact⟨ns.length,y',h,by exact q▸aR,e1,by rw[e2,q]⟩
   ·refine dW (T.bV p xp hp k h) λc y e1 e2 e3 e4=>?_
    refine ah (up c y e3) λy' e5 e6=>?_
    exact⟨c,y',e1,by exact q▸e2,e5,by rw[e6,e4,q]⟩
  ·rw[if_neg q]at e;by_cases q2:i=ns.length
   ·rw[if_pos q2]at e;cases e;have:k∈x.kids:=hk
    replace this:=hx▸this;cases this
   ·rw[if_neg q2]at e;refine dW (T.bV i z e k hk) λc y e1 e2 e3 e4=>?_
    refine ah (up c y e3) λy' e5 e6=>?_
    exact⟨c,y',e1,e2,e5,by rw[e6,e4]⟩
 ·rw[jg aR]at e;by_cases q:i=p
  ·rw[if_pos q]at e;cases e;refine SQ (T.sx p xp hp) λh=>?_
   refine dW (T.bV p xp hp _ h) λc y e1 e2 e3 e4=>?_
   refine aF (afk.mp e3) λhc _=>?_
   lia
  ·rw[if_neg q]at e;by_cases q2:i=ns.length
   ·rw[if_pos q2]at e;cases e;show x.kids.Nodup;exact hx▸List.nodup_nil
   ·rw[if_neg q2]at e;exact T.sx i z e
 ·rw[jg aR]at e;by_cases q:i=p
  ·rw[if_pos q]at e;cases e;exact q▸T.dI p xp hp
  ·rw[if_neg q]at e;by_cases q2:i=ns.length
   ·rw[if_pos q2]at e;cases e;exact .inr ⟨p,rfl,by exact q2▸aR⟩
   ·rw[if_neg q2]at e;exact T.dI i z e
theorem nB.text(T:nB ns)(hp:ns[p]?=some x):nB (ns.set p {x with text:=t}):=by
 refine aF (afk.mp hp) λaR _=>?_
 have get:∀i:Nat,(ns.set p {x with text:=t})[i]?=if i=p then some {x with text:=t}else ns[i]?:=λi=>by
  rw[agi];by_cases q:p=i
  ·rw[if_pos q,if_pos (q▸aR),if_pos q.symm]
  ·rw[if_neg q,if_neg (Ne.symm q)]
 have down:∀(i:Nat) z,(ns.set p {x with text:=t})[i]?=some z->∃z',ns[i]?=some z'/\z'.kids=z.kids/\z'.bq=z.bq:=λi z e=>by
  rw[get]at e;by_cases q:i=p
  ·rw[if_pos q]at e;apply sE e;exact q▸⟨x,hp,rfl,rfl⟩
  ·rw[if_neg q]at e;exact⟨z,e,rfl,rfl⟩
 refine⟨λi z e k hk=>?_,λi z e=>?_,λi z e=>?_⟩
 ·refine cC (down i z e) λz' e1 e2 e3=>?_
  refine dW (T.bV i z' e1 k (by exact e2▸hk)) λc y a1 a2 a3 a4=>?_
  by_cases q:c=p
  ·refine⟨c,{x with text:=t},a1,a2,by rw[get,if_pos q],?_⟩
   rw[q,hp]at a3;obtain rfl:=ack a3;exact a4
  ·exact⟨c,y,a1,a2,by rw[get,if_neg q];exact a3,a4⟩
 ·refine cC (down i z e) λz' e1 e2 e3=>?_
  exact e2▸T.sx i z' e1
 ·refine cC (down i z e) λz' e1 e2 e3=>?_
  exact e3▸T.dI i z' e1
theorem SR(b:B)(x:Nd)(hb:b.aa=ns++[x])(hl:b.aa.length<=1000000)(T:nB ns):∀(f:Nat) (u:Int),(u=-1\/∃(p:Nat),u=(p:Int)/\p+1<f/\p<ns.length)->1<=f->∃up,oJ b f u=some up/\∀k∈up,∃c:Nat,k=(c:Int)/\c<ns.length:=λkK=>by
 induction kK with
 |zero=>exact λu _ h=>absurd h (by decide)
 |succ f ih=>
  rintro u h _
  unfold oJ;rcases h with h|⟨p,h1,h2,h3⟩
  ·subst h;exact⟨[],rfl,λk hk=>by cases hk⟩
  ·subst h1;have hne:(((p:Int)!=-1)=true):=by simp
   rw[if_pos hne];have e1:nd b (p:Int)=some ns[p]:=by
    unfold nd;rw[mi hl,hb,afU h3,afq h3]
   rw[e1];have SU:=T.dI p ns[p] (afq h3);obtain⟨up,e2,e3⟩:=ih ns[p].bq (by
    rcases SU with q|⟨q,q1,q2⟩
    ·exact .inl q
    ·exact .inr ⟨q,q1,by lia,by exact ads ‹_› (afR ‹_›)⟩) (by lia)
   refine⟨(p:Int)::up,?_,λk hk=>?_⟩
   ·show(oJ b f ns[p].bq).bind _=_;rw[e2];rfl
   ·cases hk with
    |head=>exact⟨p,rfl,h3⟩
    |tail _ hk=>exact e3 k hk
theorem SV{k:Int}(h:k∉xs):ar xs k=false:=by
 unfold ar;rw[List.any_eq_false];intro x hx e;exact h ((afr.mp e)▸hx)
theorem GF{p:Nat}{at_:Nat}(hb:b.aa=ns++[x])(hp:ns[p]?=some xp)(hl:ns.length<900000)(hk:xp.kids.length<=900000)(ha:at_<=xp.kids.length):
  kF b p xp ns.length at_=some {b with aa:=eK ns p xp at_ x}:=by
 refine aF (afk.mp hp) λaR _=>?_
 unfold kF;have f9:b.aa.length=ns.length+1:=by rw[hb];simp
 rw[if_pos ⟨cU hk,cU (by exact f9▸hl),by exact afI _,by exact agy.mpr ha⟩]
 simp only[Int.toNat_natCast];have e1:nd (b.b5 p {xp with kids:=xp.kids.take at_++(ns.length:Int)::xp.kids.drop at_}) (ns.length:Int)=some x:=by
  unfold nd B.b5;rw[mi (by simp;lia)]
  simp only[hb];rw[agi,if_neg (by exact afZ aR),af2 (afm _)]
  simp
 rw[e1];simp only[Option.bind_some,B.b5,hb];refine afp some (afp (λz=>({b with aa:=z}:B)) ?_)
 unfold eK Nd.eV;rw[List.set_append_left _ _ aR,List.set_append_right _ _ (by simp)]
 simp
theorem GG{b:B}{ns:List Nd}{p:Nat}{xp x:Nd}{at_:Nat}{before:Int}(hb:b.aa=ns++[x])(T:nB ns)(hp:ns[p]?=some xp)(hx:x.bq=-1)(hl:ns.length<900000)(hk:xp.kids.length<=900000)
  (SW:(before=-1/\at_=xp.kids.length)\/(∃ks,before≠-1/\xp.kids=ks++[before]/\at_=ks.length)):
  iK b p ns.length before=some {b with aa:=eK ns p xp at_ x}:=by
 refine aF (afk.mp hp) λaR _=>?_
 have f9:b.aa.length=ns.length+1:=by rw[hb];simp
 unfold iK;rw[if_neg (by
  rw[cU (by exact f9▸hl)]
  simp
  lia)]
 have e1:nd b (p:Int)=some xp:=by
  unfold nd;rw[mi (by lia),hb,afU aR,hp]
 rw[e1];obtain⟨up,e2,e3⟩:=SR b x hb (by lia) T (b.aa.length+1) xp.bq (by
  rcases T.dI p xp hp with q|⟨q,q1,q2⟩
  ·exact .inl q
  ·exact .inr ⟨q,q1,by lia,by exact ads ‹_› (afR ‹_›)⟩) (ag3 _)
 simp only[Option.bind_some];rw[e2];simp only[Option.bind_some];rw[if_neg (by
  rw[SV]
  ·decide
  ·intro h;refine ah (e3 _ h) λc e q=>?_
   lia)]
 have e4:nd b (ns.length:Int)=some x:=by
  unfold nd;rw[mi (by lia),hb,af2 (afm _)];simp
 rw[e4];simp only[Option.bind_some];rw[if_neg (by rw[hx];decide)]
 rcases SW with⟨rfl,rfl⟩|⟨ks,h1,h2,rfl⟩
 ·rw[if_neg (by decide)]
  exact GF hb hp hl hk (afm _)
 ·rw[if_pos (by simp;exact h1)]
  have qB:xp.kids.any (·==before)=true:=by rw[h2];simp
  rw[if_pos qB];refine cps λG k=>?_
  refine dW (T.bV p xp hp before (by rw[h2];simp)) λc y q1 q2 q3 q4=>?_
  refine aF (afk.mp q3) λhc _=>?_
  refine k ?_;rw[if_neg (by simp;lia)]
  have SX:xp.kids.idxOf before=ks.length:=by
   have nd:=T.sx p xp hp;rw[h2]at nd ⊢;rw[List.nodup_append]at nd;have:before∉ks:=λq=>nd.2.2 _ q _ (.head _) rfl
   rw[List.idxOf_append,if_neg this];simp
  rw[SX];exact GF hb hp hl hk (by rw[h2];simp)
def aE(b:B)(k:Int):Str:=((b.aa[k.toNat]?).map (·.name)).getD (S "")
structure Ok(b:B)(N:Nat):Prop where
 tree:nB b.aa
 el:∀k∈b.stack,∃(i:Nat) (x:Nd),k=(i:Int)/\b.aa[i]?=some x/\x.kind=S "element"/\x.dT=S "html"
 uZ:b.stack.Pairwise (·<·)
 tab:∀st u t r,b.stack=st++u::t::r->aE b t=S "table"->∃(i:Nat) (x:Nd) (ks:List Int),u=(i:Int)/\b.aa[i]?=some x/\x.kids=ks++[t]
 kind:∀(i:Nat) (x:Nd),b.aa[i]?=some x->0<i->x.kind=S "element"\/x.kind=S "text"
 zn:b.aa.length<=N
 ze:b.aH.length<=N
 zp:b.pending.length<=N
 zs:b.stack.length<=N
 zk:∀(i:Nat) (x:Nd),b.aa[i]?=some x->x.kids.length<=N
 zt:∀(i:Nat) (x:Nd),b.aa[i]?=some x->x.text.length<=N
theorem Ok.nd(O:Ok b N)(hN:N<=800000)(i:Nat):nd b (i:Int)=b.aa[i]?:=by
 exact mi (by have:=O.zn;exact bh (ads this hN)) i
theorem nC(O:Ok b N)(hN:N<=800000)(hk:k∈b.stack):∃(i:Nat) (x:Nd),k=(i:Int)/\b.aa[i]?=some x/\el b k=some x/\x.kind=S "element"/\x.name=aE b k:=by
 refine dW (O.el k hk) λi x h1 h2 h3 h4=>?_
 refine⟨i,x,h1,h2,?_,h3,?_⟩
 ·unfold el;rw[h1,O.nd hN,h2];show(if _ then _ else _)=_;rw[if_pos ⟨h3,h4⟩]
 ·unfold aE;rw[h1,afv,h2];rfl
theorem xC{st:List Int}(h:b.stack=st++[k])(hz:b.stack.length<=900000):jH b=some k:=by
 unfold jH;rw[if_pos (cU hz),h];simp
theorem mj{N:Nat}(O:Ok b N)(hN:N<=800000){st:List Int}(h:b.stack=st++[k]):ij b=some (aE b k):=by
 unfold ij;rw[xC h (by have:=O.zs;exact bh (ads this hN))]
 refine gD (nC O hN (k:=k) (by rw[h];simp)) λi x h1 h2 h3 h4 h5=>?_
 simp only[Option.bind_some];rw[h3,<-h5];rfl
theorem sz{st:List Int}(h:b.stack=st++[k])(hz:b.stack.length<=900000):gu b=some (k,{b with stack:=st}):=by
 delta gu fS
 rw[h];simp only[List.getLast?_append,List.getLast?_singleton,Option.some_or,Option.bind_some,List.dropLast_concat];rw[<-h,if_pos (cU hz)];rfl
def fJ(b:B)(p:Nat)(xp:Nd)(at_:Nat)(s:Str):B:=
 match(if 0<at_ then xp.kids[at_-1]? else none)with
 |some k=>match b.aa[k.toNat]? with
  |some y=>if y.kind==S "text" then b.b5 k.toNat {y with text:=y.text++s}else{b with aa:=eK b.aa p xp at_ (kE s)}
  |none=>{b with aa:=eK b.aa p xp at_ (kE s)}
 |none=>{b with aa:=eK b.aa p xp at_ (kE s)}
def ir(b:B)(p:Nat)(xp:Nd)(at_:Nat)(name:Str)(attrs:List U):B:={b with aa:=eK b.aa p xp at_ (gL name attrs),stack:=b.stack++[(b.aa.length:Int)]}
structure kP(b:B)(p:Nat)(xp:Nd)(before:Int)(at_:Nat):Prop where
 get:b.aa[p]?=some xp
 kind:xp.kind=S "element"
 ok:(before=-1/\at_=xp.kids.length)\/(∃ks,before≠-1/\xp.kids=ks++[before]/\at_=ks.length)
theorem kP.le(h:kP b p xp before at_):at_<=xp.kids.length:=by
 rcases h.ok with⟨_,rfl⟩|⟨ks,_,q,rfl⟩
 ·exact afm _
 ·rw[q];simp
theorem SY(O:Ok b N)(hN:N<=800000)(h:kP b p xp before at_)(s:Str):qh b p s before=some {b with aa:=eK b.aa p xp at_ (kE s)}:=by
 delta qh wW kD
 have:=O.zn;have:=O.zk p xp h.get;rw[if_pos (cU (by exact bh (ads ‹_› ‹_›)))]
 simp only[Option.bind_some];exact GG (ns:=b.aa) (x:=kE s) rfl O.tree h.get rfl (by lia) (by exact bh (ads this hN)) h.ok
theorem S4(O:Ok b N)(hN:N<=800000)(h:kP b p xp before at_):
  ((oK b p).bind λl=>uw b xp before l)=some (((if 0<at_ then xp.kids[at_-1]? else none)).getD (-1)):=by
 have zk:=O.zk p xp h.get;have S5:oK b p=some ((xp.kids.getLast?).getD (-1)):=by
  unfold oK;rw[O.nd hN,h.get];simp only[Option.bind_some];rw[if_pos (cU (by exact bh (ads ‹_› ‹_›)))]
  cases e:xp.kids with
  |nil=>rfl
  |cons a r=>rw[if_neg (by simp)];simp[List.getLast?_cons]
 rw[S5];simp only[Option.bind_some];unfold uw;rcases h.ok with⟨rfl,rfl⟩|⟨ks,h1,h2,rfl⟩
 ·rw[if_neg (by decide)]
  rw[List.getLast?_eq_getElem?];by_cases q:0<xp.kids.length
  ·rw[if_pos q]
  ·rw[if_neg q,afK (by lia)]
 ·rw[if_pos (by simpa using h1)]
  refine dW (O.tree.bV p xp h.get before (by rw[h2];simp)) λc y q1 q2 q3 q4=>?_
  have S6:ur b before=some (ks.length:Int):=by
   unfold ur;rw[q1,O.nd hN,q3];simp only[Option.bind_some];have hne:((p:Int)==-1)=false:=aft.mpr (by exact nofun)
   rw[q4];simp only[hne,Bool.false_eq_true,if_false];rw[O.nd hN,h.get];simp only[Option.bind_some];rw[if_pos ⟨by rw[h2,q1];simp,cU (by exact bh (Nat.le_trans ‹_› ‹_›))⟩]
   have nd:=O.tree.sx p xp h.get;rw[h2]at nd ⊢;rw[List.nodup_append]at nd;have:before∉ks:=λq=>nd.2.2 _ q _ (.head _) rfl
   rw[<-q1,List.idxOf_append,if_neg this];simp
  rw[S6];simp only[Option.bind_some];by_cases hz:0<ks.length
  ·rw[if_pos (by simp;exact hz),if_pos hz]
   have e0:((ks.length:Int)-1)=((ks.length-1:Nat):Int):=by lia
   rw[e0,mi (by exact bh (ads ‹_› ‹_›))]
   have aR:ks.length-1<xp.kids.length:=by rw[h2];simp;lia
   rw[afq aR];rfl
  ·rw[if_neg (by simp at hz ⊢;exact hz),if_neg hz];rfl
theorem GH(O:Ok b N)(hN:N<=800000)(h:kP b p xp before at_)(hs:s.length<=1)(hp:j4 b=some ((p:Int),before)):ja b s=some (fJ b p xp at_ s):=by
 have zk:=O.zk p xp h.get;have zn:=O.zn;have S7:(xp.kind==S "document")=false:=by rw[h.kind,uY];rfl
 have ha:=S4 O hN h;refine bE ha λl hl ha=>?_
 have hb:∀{α β:Type} {o:Option α} {v:α} (f:α->Option β) (_:o=some v),o.bind f=f v:=λf e=>by rw[e];rfl
 have hi:∀{α:Type} {c:Bool} (x y:α) (_:c=false),(if c=true then x else y)=y:=λx y e=>by rw[e];rfl
 have hT:∀{α:Type} {c:Bool} (x y:α) (_:c=true),(if c=true then x else y)=x:=λx y e=>by rw[e];rfl
 refine(hb _ hp).trans ?_;refine(hb _ ((O.nd hN p).trans h.get)).trans ?_;refine(hi _ _ S7).trans ?_;refine(hb _ hl).trans ?_;refine(hb _ ha).trans ?_
 delta fJ;dsimp only
 have nt:=SY O hN h s;cases hk:(if 0<at_ then xp.kids[at_-1]? else none)with
 |none=>
  exact(hi _ _ rfl).trans nt
 |some k=>
  have qB:k∈xp.kids:=by
   by_cases q:0<at_
   ·rw[if_pos q]at hk;exact age hk
   ·rw[if_neg q]at hk;exact af hk
  refine dW (O.tree.bV p xp h.get k qB) λc y q1 q2 q3 q4=>?_
  have hne:((c:Int)!=-1)=true:=bne_iff_ne.mpr (by lia)
  subst q1;refine(hT _ _ hne).trans ?_;refine(hb _ ((O.nd hN c).trans q3)).trans ?_;simp only[Int.toNat_natCast,q3];cases ht:(y.kind==S "text")with
  |true=>
   have:=O.zt c y q3;refine(hT _ _ rfl).trans ?_;exact if_pos ⟨cU (by lia),by lia⟩
  |false=>
   exact(hi _ _ rfl).trans nt
theorem GI(O:Ok b N)(hN:N<=800000)(h:kP b p xp before at_)(hn:name≠S "template")(ha:attrs.length<=1000)(hp:j4 b=some ((p:Int),before)):
  jI b name attrs=some ((b.aa.length:Int),ir b p xp at_ name attrs):=by
 have zk:=O.zk p xp h.get;have zn:=O.zn;have zs:=O.zs;unfold jI;rw[hp];simp only[Option.bind_some]
 delta j3 kD
 rw[if_neg (by
  rw[cU (ads ‹_› (by decide))]
  simp[hn]),if_pos (cU (by exact bh (ads zn hN)))]
 simp only[Option.bind_some];rw[GG (ns:=b.aa) (x:=gL name attrs) rfl O.tree h.get rfl (by lia) (by exact bh (ads zk hN)) h.ok]
 simp only[Option.bind_some];unfold qg;rw[if_pos (cU (by show b.stack.length<=_;exact bh (ads zs hN)))]
 rfl
theorem GJ:(eK ns p xp at_ x).map c6=(ns.map c6).set p {c6 xp with kids:=(c6 xp).kids.take at_++(((ns.map c6).length:Nat):Int)::(c6 xp).kids.drop at_}++[c6 x]:=by
 unfold eK;rw[afz,List.map_set,afj];rfl
theorem GK(O:Ok b N)(hN:N<=800000)(pk rk:Nat)(old:Option (List Str))(i:Nat):je (aB b pk rk old) (i:Int)=(b.aa[i]?).map c6:=by
 delta je aB
 rw[mi (by rw[afj];have:=O.zn;exact bh (ads ‹_› ‹_›)),afG]
theorem qC(O:Ok b N)(hN:N<=800000)(pk rk:Nat)(old:Option (List Str)){i:Nat}(h:b.aa[i]?=some x)(hk:x.kind=S "element"):cP (aB b pk rk old) (i:Int)=some (c6 x):=by
 unfold cP;rw[GK O hN,h];simp only[Option.map_some,Option.bind_some];rw[if_neg (by delta c6;dsimp only;rw[hk];simp)]
theorem S8(O:Ok b N)(pk rk:Nat)(old:Option (List Str)){p:Nat}{j:Nat}(h:b.aa[p]?=some xp)(hk:xp.kids[j]?=some k):nz (aB b pk rk old) p j k=true:=by
 unfold nz;rw[afn];intro a ha;cases e:(aB b pk rk old).aa[a]? with
 |none=>rfl
 |some x=>
  have e':(b.aa.map c6)[a]?=some x:=e;rw[afG]at e';refine ah (afX.mp e') λy e1 aM=>?_;subst aM
  simp only[Bool.or_eq_true];right;rw[afn];intro c hc;cases e2:(c6 y).kids[c]? with
  |none=>rfl
  |some z=>
   have e3:y.kids[c]?=some z:=e2;simp only[Bool.or_eq_true];by_cases q:z=k
   ·right;subst q;refine dW (O.tree.bV p xp h z (age hk)) λi1 y1 a1 a2 a3 a4=>?_
    refine dW (O.tree.bV a y e1 z (age e3)) λi2 y2 b1 b2 b3 b4=>?_
    have:i1=i2:=by exact Int.ofNat_inj.mp (a1.symm.trans b1)
    subst this;rw[a3]at b3;obtain rfl:=ack b3;have S9:a=p:=by exact Int.ofNat_inj.mp (b4.symm.trans a4)
    subst S9;rw[h]at e1;obtain rfl:=ack e1;have:=(List.getElem?_inj (afk.mp e3).1 (O.tree.sx a xp h)).mp (e3.trans hk.symm);simp[this]
   ·left;simp[q]
theorem Bj(O:Ok b N)(pk rk:Nat)(old:Option (List Str)):valid (aB b pk rk old)=true:=by
 unfold valid;have e1:(aB b pk rk old).aa.length=b.aa.length:=afj ..;rw[afi,afn,afn,e1];constructor
 ·intro k hk;refine cK (O.el k hk) λi x h1 h2 _=>?_
  refine aF (afk.mp h2) λh _=>?_
  rw[afi,afO,afO];exact⟨h1▸afI _,h1▸agP.mpr h⟩
 ·intro y hy;have Bk:y∈b.aa.map c6:=hy;refine ah (afQ.mp Bk) λx hx aM=>?_;subst aM
  refine aF (List.mem_iff_getElem?.mp hx) λi hi=>?_
  rw[afn];intro k hk;refine dW (O.tree.bV i x hi k hk) λc z h1 h2 h3 h4=>?_
  refine aF (afk.mp h3) λh _=>?_
  rw[afi,afO,afO];exact⟨h1▸afI _,h1▸agP.mpr h⟩
theorem GL{b:B}{N:Nat}(O:Ok b N)(hN:N<=800000)(pk rk:Nat)(old:Option (List Str)){p:Nat}{xp:Nd}{at_:Nat}{s:Str}(hs:s.length<=1)(h:b.aa[p]?=some xp)(hk:xp.kind=S "element")(ha:at_<=xp.kids.length):
  gd (aB b pk rk old) p at_ s=some (aB (fJ b p xp at_ s) pk rk old):=by
 have zk:=O.zk p xp h;have zn:=O.zn;unfold gd;rw[qC O hN pk rk old h hk];simp only[Option.bind_some];have e0:(c6 xp).kids=xp.kids:=rfl;have e1:(aB b pk rk old).aa.length=b.aa.length:=afj ..;have xD:(if ay (c6 xp).kids.length=true/\valid (aB b pk rk old)=true/\0<=(at_:Int)/\(at_:Int)<=((c6 xp).kids.length:Int)then
  some {aB b pk rk old with aa:=((aB b pk rk old).aa.set (p:Int).toNat {c6 xp with kids:=(c6 xp).kids.take (at_:Int).toNat++(((aB b pk rk old).aa.length:Nat):Int)::(c6 xp).kids.drop (at_:Int).toNat})++[⟨true,S "",[],s,[]⟩]}else none)=some (aB {b with aa:=eK b.aa p xp at_ (kE s)} pk rk old):=by
  rw[if_pos ⟨cU (by rw[e0];exact bh (ads zk hN)),Bj O pk rk old,by exact afI _,by rw[e0];exact agy.mpr ha⟩]
  simp only[Int.toNat_natCast];unfold aB;simp only[GJ];have:c6 (kE s)=⟨true,S "",[],s,[]⟩:=afp (λc=>LN.mk c (S "") [] s []) (by kernel_rfl:(S "text"!=S "element")=true)
  rw[this]
 unfold fJ;by_cases q:0<at_
 ·have e5:((at_:Int)-1)=((at_-1:Nat):Int):=by exact(aha q).symm
  rw[if_pos (by simp;exact q),if_pos q,e5,e0,mi (by exact bh (ads zk hN))]
  have aR:at_-1<xp.kids.length:=by lia
  rw[afq aR];simp only[Option.bind_some];refine dW (O.tree.bV p xp h xp.kids[at_-1] (agR aR)) λc y q1 q2 q3 q4=>?_
  rw[q1,GK O hN,q3,afv,q3];simp only[Option.map_some,Option.bind_some];rcases O.kind c y q3 (by exact Nat.le_of_add_left_le q2)with hy|hy
  ·have ht:(c6 y).tx=false:=by delta c6;dsimp only;rw[hy];simp
   have qD:(y.kind==S "text")=false:=by rw[hy,uY];rfl
   simp only[ht,qD,Bool.false_eq_true,if_false]
   replace xD:=e0▸xD
   exact xD
  ·have zt:=O.zt c y q3;have ht:(c6 y).tx=true:=by delta c6;dsimp only;rw[hy,bne,uY];rfl
   have qD:(y.kind==S "text")=true:=by rw[hy];simp
   simp only[ht,qD,if_true];rw[if_pos ⟨cU (by exact bh (ads zk hN)),Bj O pk rk old,S8 O pk rk old h (q1▸afq aR),by show y.text.length+_<=_;lia⟩]
   unfold LS.b5 B.b5 aB;simp only[List.map_set,Int.toNat_natCast];have e9:c6 {y with text:=y.text++s}=⟨true,(c6 y).name,(c6 y).attrs,(c6 y).text++s,(c6 y).kids⟩:=by rw[<-ht];rfl
   rw[e9]
 ·rw[if_neg (by simp;exact Nat.eq_zero_of_not_pos q),if_neg q]
  exact xD
theorem GN{b:B}{N:Nat}(O:Ok b N)(hN:N<=800000)(pk rk:Nat)(old:Option (List Str)){p:Nat}{xp:Nd}{at_:Nat}{name:Str}{attrs:List U}(qF:attrs.length<=1000)(h:b.aa[p]?=some xp)(hk:xp.kind=S "element")(ha:at_<=xp.kids.length):
  j7 (aB b pk rk old) p at_ name attrs=some (aB (ir b p xp at_ name attrs) pk rk old):=by
 have zk:=O.zk p xp h;have zn:=O.zn;have zs:=O.zs;unfold j7;rw[qC O hN pk rk old h hk];simp only[Option.bind_some];have e0:(c6 xp).kids=xp.kids:=rfl;have e1:(aB b pk rk old).aa.length=b.aa.length:=afj ..;rw[if_pos ⟨cU (by rw[e0];exact bh (ads ‹_› ‹_›)),Bj O pk rk old,cU (by show b.stack.length<=_;exact bh (ads ‹_› ‹_›)),cU (ads ‹_› (by decide)),by rw[e0];exact ha⟩]
 delta ir aB
 simp only[GJ,Int.toNat_natCast,List.length_map];have:c6 (gL name attrs)=⟨false,name,attrs,S "",[]⟩:=by
  delta c6 gL
  simp
 rw[this]
theorem u0(h:b'.aa=b.aa)(k:Int):aE b' k=aE b k:=by unfold aE;rw[h]
theorem Ok.same(O:Ok b N)(hn:b'.aa=b.aa)(hs:b'.stack<+:b.stack)(he:b'.aH.length<=M)(hp:b'.pending.length<=M)(xE:N<=M):Ok b' M:=by
 refine aF hs λr hr=>?_
 refine⟨by rw[hn];exact O.tree,λk hk=>by rw[hn];exact O.el k (by rw[<-hr];simp[hk]),?_,λst u t r' e ht=>?_,by rw[hn];exact O.kind,by rw[hn];exact ads O.zn xE,he,hp,?_,λi x e=>ads (O.zk i x (by rw[<-hn];exact e)) xE,λi x e=>ads (O.zt i x (by rw[<-hn];exact e)) xE⟩
 ·have:=O.uZ;rw[<-hr,List.pairwise_append]at this;exact this.1
 ·rw[u0 hn]at ht;rw[hn];exact O.tab st u t (r'++r) (by rw[<-hr,e];simp) ht
 ·have:=O.zs;rw[<-hr,afl]at this;exact ads (af4 this) xE
theorem Ta(O:Ok b N){st:List Int}(h:b.stack=st++u::t::r)(h':b.stack=kQ++[p]):u<p:=by
 have i:=O.uZ;have e:st++u::t::r=kQ++[p]:=h.symm.trans h';rw[h,List.pairwise_append]at i;have:=i.2.1;rw[List.pairwise_cons]at this;have hp:p∈t::r:=by
  have:(st++u::t::r).getLast?=some p:=by rw[e];simp
  rw[List.getLast?_append]at this;simp only[List.getLast?_cons_cons]at this;cases q:(t::r).getLast? with
  |none=>simp at q
  |some z=>
   rw[q]at this;simp at this;exact this▸List.mem_of_getLast? q
 exact this.1 p hp
theorem Bl(O:Ok b N)(hk:k∈b.stack):k<b.aa.length:=by
 refine cK (O.el k hk) λi x h1 h2 _=>?_
 refine aF (afk.mp h2) λh _=>?_
 exact h1▸agP.mpr h
theorem sA{st:List Int}(hp:b.aa[p]?=some xp)(i:Nat):aE {b with aa:=eK b.aa p xp at_ x,stack:=st} (i:Int)=if i=b.aa.length then x.name else aE b (i:Int):=by
 refine aF (afk.mp hp) λaR _=>?_
 unfold aE;dsimp only;rw[afv,jg aR];by_cases q:i=p
 ·rw[if_pos q,if_neg (by exact afZ (q▸aR)),q,hp];rfl
 ·rw[if_neg q];by_cases q2:i=b.aa.length
  ·rw[if_pos q2,if_pos q2];rfl
  ·rw[if_neg q2,if_neg q2]
theorem Ok.add(O:Ok b N){at_:Nat}(h:kP b p xp before at_)(hx:x.kids=[])(hk:x.kind=S "element"\/x.kind=S "text")(Tb:x.text.length<=M)
  (h1:∀st u t r,b.stack=st++u::t::r->aE b t=S "table"->u=(p:Int)->before=t)(hM:N+1<=M):Ok {b with aa:=eK b.aa p xp at_ x} M:=by
 refine aF (afk.mp h.get) λaR _=>?_
 have zn:=O.zn;refine⟨O.tree.add h.get hx,λk hk=>?_,O.uZ,λst u t r e ht=>?_,λi y e hi=>?_,?_,by have:=O.ze;show b.aH.length<=M;exact ads this (afR hM),by have:=O.zp;show b.pending.length<=M;exact ads this (afR hM),by have:=O.zs;show b.stack.length<=M;exact ads this (afR hM),λi y e=>?_,λi y e=>?_⟩
 ·refine dW (O.el k hk) λi y a1 a2 a3 a4=>?_
  refine aF (afk.mp a2) λhi _=>?_
  by_cases q:i=p
  ·refine⟨i,xp.eV at_ b.aa.length,a1,by rw[jg aR,if_pos q],?_⟩
   rw[q,h.get]at a2;obtain rfl:=ack a2;exact⟨a3,a4⟩
  ·exact⟨i,y,a1,by rw[jg aR,if_neg q,if_neg (by exact afZ hi)];exact a2,a3,a4⟩
 ·have Bm:t∈b.stack:=by have e':b.stack=st++u::t::r:=e;rw[e'];simp
  refine cK (O.el t Bm) λti y a1 a2 _=>?_
  refine aF (afk.mp a2) λhi _=>?_
  have e2:aE {b with aa:=eK b.aa p xp at_ x} t=aE b t:=by
   exact a1▸(sA (st:=b.stack) h.get ti).trans (if_neg (by exact afZ hi))
  replace ht:=e2▸ht
  refine dX (O.tab st u t r e ht) λi z ks c1 c2 c3=>?_
  dsimp only;by_cases q:i=p
  ·subst q;rw[h.get]at c2;obtain rfl:=ack c2;have hb:=h1 st u t r e ht c1;rcases h.ok with⟨hb',_⟩|⟨GO,_,k2,k3⟩
   ·lia
   ·subst hb;have:ks=GO:=by
     have:=c3.symm.trans k2;simpa using this
    subst this;refine⟨i,xp.eV at_ b.aa.length,ks++[(b.aa.length:Int)],c1,by rw[jg aR,if_pos rfl],?_⟩
    unfold Nd.eV;rw[c3,k3];simp
  ·refine aF (afk.mp c2) λml _=>?_
   exact⟨i,z,ks,c1,by rw[jg aR,if_neg q,if_neg (by exact afZ ml)];exact c2,c3⟩
 ·dsimp only at e;rw[jg aR]at e;by_cases q:i=p
  ·rw[if_pos q]at e;apply sE e;exact .inl h.kind
  ·rw[if_neg q]at e;by_cases q2:i=b.aa.length
   ·rw[if_pos q2]at e;apply sE e;exact hk
   ·rw[if_neg q2]at e;exact O.kind i y e hi
 ·show(eK _ _ _ _ _).length<=M;rw[GD];exact agY zn hM
 ·dsimp only at e;rw[jg aR]at e;by_cases q:i=p
  ·rw[if_pos q]at e;apply sE e;have:=O.zk p xp h.get;unfold Nd.eV;exact(Og _ _ _).symm▸ads (afS this) hM
  ·rw[if_neg q]at e;by_cases q2:i=b.aa.length
   ·rw[if_pos q2]at e;apply sE e;show x.kids.length<=M;exact hx▸afw _
   ·rw[if_neg q2]at e;have:=O.zk i y e;exact ads this (afR hM)
 ·dsimp only at e;rw[jg aR]at e;by_cases q:i=p
  ·rw[if_pos q]at e;apply sE e;have:=O.zt p xp h.get;show xp.text.length<=M;exact ads this (afR hM)
  ·rw[if_neg q]at e;by_cases q2:i=b.aa.length
   ·rw[if_pos q2]at e;apply sE e;exact Tb
   ·rw[if_neg q2]at e;have:=O.zt i y e;exact ads this (afR hM)
theorem Ok.ir(O:Ok b N){at_:Nat}(h:kP b p xp before at_)
  (h1:∀st u t r,b.stack=st++u::t::r->aE b t=S "table"->u=(p:Int)->before=t)(h2:name=S "table"->before=-1/\∃st,b.stack=st++[(p:Int)])(hM:N+1<=M):Ok (ir b p xp at_ name attrs) M:=by
 have A:=O.add (M:=M) (x:=gL name attrs) h rfl (.inl rfl) (afw _) h1 hM;refine aF (afk.mp h.get) λaR _=>?_
 unfold Mine.ir;refine⟨A.tree,λk hk=>?_,?_,λst u t r e ht=>?_,A.kind,A.zn,A.ze,A.zp,?_,A.zk,A.zt⟩
 ·rcases afu.mp hk with q|q
  ·exact A.el k q
  ·rw[afJ]at q;refine⟨b.aa.length,{gL name attrs with bq:=(p:Int)},q,?_,rfl,rfl⟩
   rw[jg aR,if_neg (by exact Nat.ne_of_gt aR),if_pos rfl]
 ·show(b.stack++[(b.aa.length:Int)]).Pairwise (·<·);rw[List.pairwise_append];refine⟨O.uZ,by simp,λa ha c hc=>?_⟩
  rw[afJ]at hc;rw[hc];exact Bl O ha
 ·have e':b.stack++[(b.aa.length:Int)]=st++u::t::r:=e;have e2:=sA (b:=b) (at_:=at_) (x:=gL name attrs) (st:=b.stack++[(b.aa.length:Int)]) h.get;rcases af1 r with q|⟨r',z,q⟩
  ·subst q;have e3:b.stack++[(b.aa.length:Int)]=(st++[u])++[t]:=by rw[e'];simp
   refine aO (agS e3 rfl) λe4 e5=>?_
   have e6:t=(b.aa.length:Int):=by simpa using e5.symm
   rw[e6,e2,if_pos rfl]at ht;obtain⟨hb,kQ,Tc⟩:=h2 ht;have e7:st++[u]=kQ++[(p:Int)]:=e4.symm.trans Tc;refine aO (agS e7 rfl) λ_ e8=>?_
   have e9:u=(p:Int):=by simpa using e8
   refine⟨p,xp.eV at_ b.aa.length,xp.kids,e9,?_,?_⟩
   ·dsimp only;rw[jg aR,if_pos rfl]
   ·rcases h.ok with⟨_,q⟩|⟨ks,q,_⟩
    ·unfold Nd.eV;rw[q,e6];simp
    ·exact(q hb).elim
  ·have e3:b.stack++[(b.aa.length:Int)]=(st++u::t::r')++[z]:=by rw[e',q];simp
   refine aO (agS e3 rfl) λe4 _=>?_
   have Bm:t∈b.stack:=by rw[e4];simp
   refine cK (O.el t Bm) λti y a1 a2 _=>?_
   refine aF (afk.mp a2) λhi _=>?_
   refine A.tab st u t r' e4 ?_;rw[a1]at ht ⊢;have e5:=sA (b:=b) (at_:=at_) (x:=gL name attrs) (st:=b.stack) h.get ti;rw[if_neg (by exact afZ hi)]at e5
   rw[e2,if_neg (by exact afZ hi)]at ht
   exact e5.trans ht
 ·show(b.stack++[(b.aa.length:Int)]).length<=M;rw[afl,afF];have:=O.zs;exact agY this hM
theorem Ok.fJ(O:Ok b N)(hs:s.length<=1)(h:kP b p xp before at_)
  (h1:∀st u t r,b.stack=st++u::t::r->aE b t=S "table"->u=(p:Int)->before=t)(hM:N+1<=M):Ok (fJ b p xp at_ s) M:=by
 have A:=O.add (M:=M) (x:=kE s) h rfl (.inr rfl) (by show s.length<=M;lia) h1 hM
 unfold Mine.fJ;cases hk:(if 0<at_ then xp.kids[at_-1]? else none)with
 |none=>exact A
 |some k=>
  have qB:k∈xp.kids:=by
   by_cases q:0<at_
   ·rw[if_pos q]at hk;exact age hk
   ·rw[if_neg q]at hk;exact af hk
  refine dW (O.tree.bV p xp h.get k qB) λc y q1 q2 q3 q4=>?_
  subst q1;simp only[Int.toNat_natCast,q3];cases ht:(y.kind==S "text")with
  |false=>rw[if_neg (by decide)];exact A
  |true=>
   rw[if_pos rfl];have hy:y.kind=S "text":=afr.mp ht;refine aF (afk.mp q3) λhc _=>?_
   have get:∀i:Nat,(b.b5 c {y with text:=y.text++s}).aa[i]?=if i=c then some {y with text:=y.text++s}else b.aa[i]?:=λi=>by
    unfold B.b5;rw[agi];by_cases q:c=i
    ·rw[if_pos q,if_pos (q▸hc),if_pos q.symm]
    ·rw[if_neg q,if_neg (Ne.symm q)]
   have nm:∀k,aE (b.b5 c {y with text:=y.text++s}) k=aE b k:=λk=>by
    unfold aE;rw[get];by_cases q:k.toNat=c
    ·rw[if_pos q,q,q3];rfl
    ·rw[if_neg q]
   refine⟨O.tree.text q3,λk hk=>?_,O.uZ,λst u t r e GP=>?_,λi z e hi=>?_,?_,by have:=O.ze;show b.aH.length<=M;exact ads this (afR hM),by have:=O.zp;show b.pending.length<=M;exact ads this (afR hM),by have:=O.zs;show b.stack.length<=M;exact ads this (afR hM),λi z e=>?_,λi z e=>?_⟩
   ·refine dW (O.el k hk) λi z a1 a2 a3 a4=>?_
    by_cases q:i=c
    ·exfalso;rw[q,q3]at a2;obtain rfl:=ack a2;rw[hy,Bi]at a3;exact absurd a3 (by decide)
    ·exact⟨i,z,a1,by rw[get,if_neg q];exact a2,a3,a4⟩
   ·rw[nm]at GP;refine dX (O.tab st u t r e GP) λi z ks c1 c2 c3=>?_
    by_cases q:i=c
    ·rw[q,q3]at c2;obtain rfl:=ack c2;exact⟨i,{y with text:=y.text++s},ks,c1,by rw[get,if_pos q],c3⟩
    ·exact⟨i,z,ks,c1,by rw[get,if_neg q];exact c2,c3⟩
   ·rw[get]at e;by_cases q:i=c
    ·rw[if_pos q]at e;apply sE e;exact .inr hy
    ·rw[if_neg q]at e;exact O.kind i z e hi
   ·unfold B.b5;rw[af6];have:=O.zn;exact ads this (afR hM)
   ·rw[get]at e;by_cases q:i=c
    ·rw[if_pos q]at e;apply sE e;have:=O.zk c y q3;show y.kids.length<=M;exact ads this (afR hM)
    ·rw[if_neg q]at e;have:=O.zk i z e;exact ads this (afR hM)
   ·rw[get]at e;by_cases q:i=c
    ·rw[if_pos q]at e;apply sE e;have:=O.zt c y q3;show(y.text++s).length<=M;have e9:(y.text++s).length=y.text.length+s.length:=by
      show(y.text.cps++s.cps).size=_;rw[Array.size_append];rfl
     lia
    ·rw[if_neg q]at e;have:=O.zt i z e;exact ads this (afR hM)
theorem Td(O:Ok b N){name:Str}(hp:b.aa[p]?=some xp)(hk:k∈b.stack):aE (ir b p xp at_ name attrs) k=aE b k:=by
 have hl:=Bl O hk;refine cK (O.el k hk) λi x h1 h2 _=>?_
 exact h1▸(sA hp i).trans (if_neg (by lia))
theorem Te{attrs:List U}(hp:b.aa[p]?=some xp):aE (ir b p xp at_ name attrs) (b.aa.length:Int)=name:=
 (sA hp _).trans (if_pos rfl)
theorem GQ(O:Ok b N){s:Str}(hp:b.aa[p]?=some xp)(hk:k∈b.stack):aE (fJ b p xp at_ s) k=aE b k:=by
 have hl:=Bl O hk;refine cK (O.el k hk) λi x h1 h2 _=>?_
 have A:aE {b with aa:=eK b.aa p xp at_ (kE s)} k=aE b k:=by
  rw[h1];exact(sA (st:=b.stack) hp i).trans (if_neg (by lia))
 unfold fJ;split
 ·split
  ·split
   ·rename_i y hy ht;unfold aE B.b5;rw[agi];split
    ·rename_i q;rw[<-q,hy];refine aF (afk.mp hy) λaR _=>?_
     rw[if_pos aR];rfl
    ·rfl
   ·exact A
  ·exact A
 ·exact A
def ap(l:List Str):Prop:=∀x∈l,x=S "a"\/x=S "p"
def Bn:List Str:=[S "tbody",S "thead",S "tfoot"]
def Tf:List Str:=[S "td",S "th"]
def nE:List (List Str×Str):=([S "caption"],S "in caption")::Bn.flatMap λx=>Tf.map λc=>([x,S "tr",c],S "in cell")
def plainT:List (List Str×Str):=([],S "in table")::(Bn.map λx=>([x],S "in table body"))++Bn.map λx=>([x,S "tr"],S "in row")
def xF:List (List Str×Str):=[([S "colgroup"],S "in column group")]
def lK:List (List Str×Str):=nE++(plainT++xF)
def Holds(ps:List Str)(m:Str):Prop:=(ps,m)∈nE
def qG(ps:List Str)(m:Str):Prop:=(ps,m)∈plainT
def eP(ps:List Str)(m:Str):Prop:=(ps,m)∈lK
theorem eP.holds(h:Holds ps m):eP ps m:=afu.mpr (.inl h)
theorem eP.plain(h:qG ps m):eP ps m:=afu.mpr (.inr (afu.mpr (.inl h)))
theorem eP.Tg:eP [S "colgroup"] (S "in column group"):=afu.mpr (.inr (afu.mpr (.inr (.head _))))
theorem eM{T:List α}(h:T.all f=true){x:α}(hp:x∈T):f x=true:=afn.mp h _ hp
inductive dM:List Str->Str->Prop
 |base {inl:List Str} (h:ap inl):dM (S "html"::S "body"::inl) (S "in body")
 |tab {pre parts inl:List Str} {m m':Str} (h:dM pre m') (hp:Holds parts m) (ha:ap inl):dM (pre++S "table"::(parts++inl)) m
theorem kR:ap []:=λ_ h=>nomatch h
theorem u1:ap (a++b)↔ap a/\ap b:=agg
def Th(x:Str):Bool:=x==S "a"||x==S "p"
theorem xG(h:ap l){f:Str->Bool}(ha:f (S "a")=true)(hp:f (S "p")=true):∀x∈l,f x=true:=λx hx=>(h x hx).elim (λe=>e▸ha) λe=>e▸hp
theorem ka{x:Str}:ar xs x=true↔x∈xs:=ag7.trans ⟨λ⟨_,a,e⟩=>afr.mp e▸a,λh=>⟨x,h,agj x⟩⟩
theorem iN{x:Str}:ar xs x=false↔x∉xs:=by rw[<-Bool.not_eq_true,ka]
theorem GR(h:ap l){x:Str}(hx:ar [S "a",S "p"] x=false):x∉l:=λq=>by
 have:=iN.mp hx;rcases h _ q with e|e<;>rw[e]at this<;>simp at this
theorem Ti:lK.all (λp=>!ar p.1 (S "table"))=true:=rfl
theorem Tj:lK.all (λp=>p.1.all (ar iq))=true:=rfl
theorem GS{m:Str}(h:eP ps m)(hx:lK.all (λp=>!ar p.1 x)=true):x∉ps:=by
 have:=eM hx h;rw[afH]at this;exact iN.mp this
theorem Tn{m:Str}(h:eP ps m):∀x∈ps,ar iq x=true:=afn.mp (eM Tj h)
theorem GU(h:S "table"∉l):∀(i p:Int),hC l i p=p:=by
 induction l with
 |nil=>intro i p;rfl
 |cons x r ih=>
  intro i p;unfold hC;rw[aft.mpr λe=>h (by rw[e];exact .head _),if_neg (by decide)]
  exact ih (λq=>h (.tail _ q)) _ _
theorem GV:∀(i p:Int),hC (a++b) i p=hC b (i+a.length) (hC a i p):=by
 induction a with
 |nil=>intro i p;rw[show i+(([]:List Str).length:Int)=i from Int.add_zero i];rfl
 |cons x r ih=>
  intro i p;rw[agE,hC,hC,ih,afP,Int.natCast_add,Int.add_assoc,Int.add_comm 1];rfl
theorem GW(h:S "table"∉post):cy (pre++S "table"::post)=pre.length:=by
 unfold cy;rw[GV,hC,if_pos (agj _),GU h,Int.zero_add]
theorem To(h:S "table"∉l):cy l=-1:=GU h 0 (-1)
theorem Tp(h:S "table"∉post):cH (pre++S "table"::post)=post.filter (ar iq):=by
 unfold cH;rw[GW h,if_pos (afI _),show((pre.length:Int)+1).toNat=pre.length+1 from rfl,<-List.drop_drop,List.drop_left];rfl
theorem Tt{m:Str}(h:eP ps m)(ha:ap inl):(ps++inl).filter (ar iq)=ps:=by
 rw[List.filter_append,agw.mpr (Tn h),List.filter_eq_nil_iff.mpr (λx hx=>by
  have:=xG (f:=λx=>!ar iq x) ha rfl rfl x hx
  rw[afH]at this;rw[this];decide),afD]
theorem GX(h:eP ps m)(ha:ap inl):S "table"∉ps++inl:=λq=>(afu.mp q).elim (GS h Ti) (GR ha rfl)
theorem Bo(h:eP ps m)(ha:ap inl):cy (pre++S "table"::(ps++inl))=pre.length:=GW (GX h ha)
theorem Bp(h:eP ps m)(ha:ap inl):cH (pre++S "table"::(ps++inl))=ps:=by
 rw[Tp (GX h ha),Tt h ha]
theorem GY(h:ap inl):∀m,inl.foldl jf m=m:=by
 induction inl with
 |nil=>intro m;rfl
 |cons x r ih=>
  intro m;have:jf m x=m:=by rcases h x (.head _)with e|e<;>rw[e]<;>kernel_rfl
  rw[List.foldl_cons,this];exact ih (λy hy=>h y (.tail _ hy)) m
theorem Tu:lK.all (λp=>p.1.foldl jf (S "in table")==p.2)=true:=by kernel_rfl
theorem Tv{m:Str}(h:eP ps m):ps.foldl jf (S "in table")=m:=afr.mp (eM Tu h)
theorem xH(h:eP ps m)(ha:ap inl):dt (pre++S "table"::(ps++inl))=m:=by
 unfold dt;rw[List.foldl_append,List.foldl_cons,List.foldl_append,GY ha,show∀m,jf m (S "table")=S "in table"from λm=>by kernel_rfl]
 exact Tv h
theorem Tw{inl:List Str}(ha:ap inl):S "table"∉S "html"::S "body"::inl:=λq=>(afu (s:=[S "html",S "body"]).mp q).elim (iN.mp rfl) (GR ha rfl)
theorem GZ(ha:ap inl):cy (S "html"::S "body"::inl)=-1:=To (Tw ha)
theorem Tx(ha:ap inl):cH (S "html"::S "body"::inl)=[]:=by
 unfold cH;rw[GZ ha,if_neg (by decide)]
theorem G0(ha:ap inl):dt (S "html"::S "body"::inl)=S "in body":=(GY ha _).trans rfl
theorem dM.mode(h:dM ns m):dt ns=m:=by
 induction h with
 |base ha=>exact G0 ha
 |tab h hp ha=>exact xH (.holds hp) ha
theorem dM.ne(h:dM ns m):ns≠[]:=by induction h<;>simp
theorem G1:lK.all (λp=>p.1.all PyData.strOk)=true:=by kernel_rfl
theorem Tz:iq.all PyData.strOk=true:=by kernel_rfl
theorem TA{x:Str}(h:x∈iq):PyData.strOk x=true:=eM Tz h
theorem G2{l:List Str}(h:ap l):∀x∈l,PyData.strOk x=true:=xG h (by kernel_rfl) (by kernel_rfl)
theorem u2{m:Str}(h0:∀x∈pre,PyData.strOk x=true)(h:eP ps m)(ha:ap inl):∀x∈pre++S "table"::(ps++inl),PyData.strOk x=true:=
 agg.mpr ⟨h0,afV.mpr ⟨by kernel_rfl,agg.mpr ⟨afn.mp (eM G1 h),G2 ha⟩⟩⟩
theorem dM.names(h:dM ns m):∀x∈ns,PyData.strOk x=true:=by
 induction h with
 |base ha=>exact afV.mpr ⟨by kernel_rfl,afV.mpr ⟨by kernel_rfl,G2 ha⟩⟩
 |tab h hp ha ih=>exact u2 ih (.holds hp) ha
theorem nF(b:B)(pk rk:Nat)(old:Option (List Str)):bc (aB b pk rk old)=b.stack.map (aE b):=by
 unfold bc aB;apply aga;intro k _;unfold uP aE;dsimp only;rw[afG,Option.map_map];rfl
inductive Fc
 |f (a:Addr)
 |m (x:Str)
structure Dm(Z ρ:Type) where
 hz:Z->Nat->AH
 o:Nat
 bi:Str->Value
 g:Str->Option Fc
 lc:Addr->Bool
 mt:U->Z->Str->(Fc->Option ρ)->Option ρ
 fl:U->Z->Str->Option U
 pc:Nat->Addr->List U->Option U
 cY:CmpOp->U->U->Z->(U->Option ρ)->Option ρ
 gP:Operator->U->U->Z->(U->Option ρ)->Option ρ
 item:U->U->Z->(U->Option ρ)->Option ρ
 last:U->Z->(U->Option ρ)->Option ρ
 kb:Str->U->U->Z->(Z->Option ρ)->Option ρ
 kS:U->U->U->Z->(Z->Option ρ)->Option ρ
 tr:U->Z->(Bool->Option ρ)->Option ρ
 call:Nat->Fc->List U->Z->(U->Z->Option ρ)->Option ρ
 tail:Nat->Fc->List U->Z->Option ρ
 gk:Z->Option ρ
 ev:Nat->aP->Lo->Expr->Z->(U->Z->Option ρ)->Option ρ
 st:Nat->aP->Lo->Stmt->Z->(Fl->Lo->Z->Option ρ)->Option ρ
noncomputable def dN:U->Option Str
 |.str x=>some x
 |_=>none
noncomputable def nG:U->Option (List U)
 |.aw x=>some x
 |_=>none
noncomputable def eW:U->Option Int
 |.int x=>some x
 |_=>none
noncomputable def kc:U->Option Bool
 |.bool x=>some x
 |_=>none
noncomputable def iO:U->Option (List U)
 |.aG x=>some x
 |_=>none
noncomputable def G3:U->Option Addr
 |.val (.ref a)=>some a
 |_=>none
noncomputable def nH (s:Scope):Bool:=match s.kind with|.function=>true|_=>false
noncomputable def u3:Option NameKind->Nat
 |some .local=>1
 |some .globalImplicit=>2
 |_=>0
def xI(k:Nat)(f:aP)(x:Str):Bool:=nH f.cs&&(!(x==("__debug__":Str))&&Nat.beq (u3 (f.cs.names.lookup x)) k)
abbrev iu(f:aP)(x:Str):Bool:=xI 1 f x
abbrev sD(f:aP)(x:Str):Bool:=xI 2 f x
noncomputable def G4 (op:CmpOp)(c:Bool):Option U:=match op with
 |.Eq=>some (.bool c)
 |.NotEq=>some (.bool (!c))
 |_=>none
noncomputable def xJ (op:CmpOp)(c:Bool):Option U:=match op with
 |.In=>some (.bool c)
 |.NotIn=>some (.bool (!c))
 |_=>none
noncomputable def G5 (op:CmpOp)(a b:Int):Option U:=match op with
 |.Eq=>some (.bool (a==b))
 |.NotEq=>some (.bool (a !=b))
 |.Lt=>some (.bool (decide (a<b)))
 |.Gt=>some (.bool (decide (b<a)))
 |.GtE=>some (.bool (decide (b<=a)))
 |_=>none
def xK(op:CmpOp)(x y:U):Option U:=
 cv (dN x) (λa=>cv (dN y) (λb=>G4 op (a==b)) ((iO y).bind λys=>(qr ys).bind λss=>xJ op (ar ss a)))
  ((eW x).bind λa=>(eW y).bind λb=>G5 op a b)
noncomputable def TB (op:Operator)(a b:Int):Option U:=match op with
 |.Add=>some (.int (a+b))
 |.Sub=>some (.int (a-b))
 |_=>none
def sF(op:Operator)(x y:U):Option U:=(eW x).bind λa=>(eW y).bind λb=>TB op a b
inductive Kd
 |const (v:U)
 |name (x:Str)
 |fP (o:Expr)(a:Str)
 |sG (o:Expr)(j:Nat)
 |last (o:Expr)
 |sub (o i:Expr)
 |qH (o:Expr)(lo hi:Option Expr)
 |aG (es:List Expr)
 |aw (es:List Expr)
 |neg (i:Int)
 |not (x:Expr)
 |cY (op:CmpOp)(l r:Expr)
 |jO (op:BoolOp)(e:Expr)(r:List Expr)(p:Pos)
 |gP (op:Operator)(l r:Expr)
 |hH (x:Str)(args:List Expr)
 |mn (o:Expr)(a:Str)(args:List Expr)
 |sH (t a b:Expr)
 |jh
noncomputable def TC:Kd->Bool
 |.aw _=>true
 |_=>false
noncomputable def G6:Expr->Bool
 |.List es _=>es.isEmpty
 |_=>false
def TF:Kd->Bool
 |.aw es=>es.any G6
 |_=>false
noncomputable def TG:Kd->Bool
 |.aw _=>true
 |.qH _ lo _=>lo.isNone
 |_=>false
noncomputable def G7:Kd->Bool
 |.hH _ _=>true
 |_=>false
noncomputable def G8:Const->Kd
 |.str x=>.const (.str x)
 |.int i=>.const (.int i)
 |.bool b=>.const (.bool b)
 |.none=>.const .none
 |_=>.jh
noncomputable def G9 (op:UnaryOp)(x:Expr):Bool:=match op with
 |.USub=>(match x with
  |.Constant c _ _=>(match c with
   |.int i=>(match i with
    |.ofNat j=>Nat.beq j 1
    |.negSucc _=>false)
   |_=>false)
  |_=>false)
 |_=>false
def Ha(o:Expr)(i:Expr):Kd:=match i with
 |.Constant c _ _=>(match c with
  |.int j=>(match j with
   |.ofNat j=>.sG o j
   |.negSucc _=>.sub o i)
  |_=>.sub o i)
 |.Slice lo hi st _=>(match st with
  |none=>.qH o lo hi
  |some _=>.jh)
 |.UnaryOp op x _=>cond (G9 op x) (.last o) (.sub o i)
 |_=>cond (mW i) (.sub o i) .jh
noncomputable def Hb (op:UnaryOp)(x:Expr):Kd:=match op with
 |.Not=>.not x
 |.USub=>(match x with
  |.Constant (.int i) _ _=>.neg (-i)
  |_=>.jh)
 |_=>.jh
def Hc(g:Expr)(args:List Expr)(p:Pos):Kd:=match g with
 |.Name x _=>cond (fQ args) (.hH x args) .jh
 |.Attribute o a ap=>cond (lr o ap p args) (.mn o a args) .jh
 |_=>.jh
def vw(e:Expr):Kd:=match e with
 |.Constant c _ _=>G8 c
 |.Name x _=>.name x
 |.Attribute o a _=>cond (ow o) (.fP o a) .jh
 |.Subscript o i _=>Ha o i
 |.Tuple es _ _=>.aG es
 |.List es _=>.aw es
 |.UnaryOp op x _=>Hb op x
 |.Compare l Bq rs _=>(match Bq,rs with
  |[op],[r]=>cond (behindInMarks op r) .jh (.cY op l r)
  |_,_=>.jh)
 |.BoolOp op es p=>(match es with
  |[]=>.jh
  |e::r=>.jO op e r p)
 |.BinOp l op r _=>.gP op l r
 |.Call g args Br p=>(match Br with
  |[]=>Hc g args p
  |_::_=>.jh)
 |.IfExp t a b _=>.sH t a b
 |_=>.jh
def u4(F:Expr->Option U):List Expr->Option (List U)
 |[]=>some []
 |e::r=>cond (jy e) ((F e).bind λx=>(u4 F r).bind λxs=>some (x::xs)) none
noncomputable def xM:BoolOp->Bool->Bool->Bool
 |.And,a,b=>a&&b
 |.Or,a,b=>a||b
def xN(op:BoolOp)(F:Expr->Option Bool):Expr->List Expr->Option Bool
 |e,[]=>F e
 |e,e'::r=>(F e).bind λa=>(xN op F e' r).bind λb=>some (xM op a b)
structure Pv where
 E:Expr->Option U
 T:Expr->Option Bool
section
variable{Z ρ:Type}(D:Dm Z ρ)
def pE(d:Nat)(f:aP)(m:Lo)(u:Pv)(k:Kd):Option U:=match k with
 |.const c=>some c
 |.name x=>cond (iu f x) (m.lookup x) none
 |.sG o j=>(u.E o).bind λx=>(cv (iO x) some (nG x)).bind λxs=>cond (Nat.blt j 1000000) xs[j]? none
 |.aw es=>cond (es.any G6) none ((u4 u.E es).bind λxs=>cond (Nat.ble xs.length 1000000) (some (.aw xs)) none)
 |.sH t a b=>(u.T t).bind λc=>cond c (u.E a) (u.E b)
 |.aG es=>(u4 u.E es).bind λxs=>cond (Nat.ble xs.length 1000000) (some (.aG xs)) none
 |.neg i=>some (.int i)
 |.cY op l r=>(u.E l).bind λx=>(u.E r).bind λy=>xK op x y
 |.jO op e r _=>(xN op (λe=>(u.E e).bind kc) e r).bind λc=>some (.bool c)
 |.gP op l r=>(u.E l).bind λx=>(u.E r).bind λy=>sF op x y
 |.hH x args=>cond (sD f x) ((D.g x).bind λc=>(u4 u.E args).bind λxs=>(match c with
  |.f a=>D.pc d a xs
  |.m _=>none)) none
 |_=>none
def pT(u:Pv)(e:Expr)(k:Kd):Option Bool:=match k with
 |.not x=>(u.T x).bind λc=>some (!c)
 |.jO op e r _=>xN op u.T e r
 |.cY op l r=>(u.E l).bind λx=>(u.E r).bind λy=>(xK op x y).bind kc
 |_=>cond (rO e) ((u.E e).bind kc) none
def pv(d:Nat)(f:aP)(m:Lo):Nat->Pv
 |0=>⟨λ_=>none,λ_=>none⟩
 |n+1=>⟨λe=>pE D d f m (pv d f m n) (vw e),λe=>pT (pv d f m n) e (vw e)⟩
structure Ms(Z ρ:Type) where
 E:Nat->aP->Lo->Expr->Z->(U->Z->Option ρ)->Option ρ
 Es:Nat->aP->Lo->List Expr->Z->(List U->Z->Option ρ)->Option ρ
 T:Nat->aP->Lo->Expr->Z->(Bool->Z->Option ρ)->Option ρ
 L:Nat->aP->Lo->List Stmt->Z->Bool->(Fl->Lo->Z->Option ρ)->Option ρ
 S:Nat->aP->Lo->Stmt->Z->Bool->(Fl->Lo->Z->Option ρ)->Option ρ
variable(u:Ms Z ρ)
def u5(x:U)(z:Z)(k:Bool->Z->Option ρ):Option ρ:=cv (kc x) (λc=>k c z) (D.tr x z λc=>k c z)
def Bt(op:CmpOp)(x y:U)(z:Z)(k:U->Z->Option ρ):Option ρ:=cv (xK op x y) (λv=>k v z) (D.cY op x y z λv=>k v z)
def Hd(op:Operator)(x y:U)(z:Z)(k:U->Z->Option ρ):Option ρ:=cv (sF op x y) (λv=>k v z) (D.gP op x y z λv=>k v z)
def hH(d:Nat)(f:aP)(m:Lo)(x:Str)(args:List Expr)(z:Z)(fc:Fc->List U->Z->Option ρ):Option ρ:=
 cond (sD f x) ((D.g x).bind λc=>u.Es d f m args z λxs z=>fc c xs z) (cond (iu f x) ((m.lookup x).bind λy=>(G3 y).bind λa=>cond (D.lc a) (u.Es d f m args z λxs z=>fc (.f a) xs z) none) none)
noncomputable def mn (d:Nat)(f:aP)(m:Lo)(o:Expr)(a:Str)(args:List Expr)(z:Z)(fc:Fc->List U->Z->Option ρ):Option ρ:=
 u.E d f m o z λx z=>D.mt x z a λc=>u.Es d f m args z λxs z=>fc c (x::xs) z
def He(d:Nat)(f:aP)(m:Lo)(e:Expr)(kd:Kd)(z:Z)(k:U->Z->Option ρ):Option ρ:=match kd with
 |.fP o a=>u.E d f m o z λx z=>(D.fl x z a).bind λv=>k v z
 |.aG es=>u.Es d f m es z λxs z=>cond (Nat.ble xs.length 1000000) (k (.aG xs) z) none
 |.aw es=>u.Es d f m es z λxs z=>cond (Nat.ble xs.length 1000000) (k (.aw xs) z) none
 |.sG o j=>u.E d f m o z λx z=>cv ((iO x).bind λxs=>cond (Nat.blt j 1000000) xs[j]? none) (λv=>k v z) (D.item x (.int (.ofNat j)) z λv=>k v z)
 |.last o=>u.E d f m o z λx z=>D.last x z λv=>k v z
 |.sub o i=>u.E d f m o z λx z=>u.E d f m i z λy z=>D.item x y z λv=>k v z
 |.qH o lo hi=>(match lo with
  |none=>D.ev d f m e z k
  |some lo=>u.E d f m o z λx z=>u.E d f m lo z λy z=>(nG x).bind λxs=>(eW y).bind λi=>(match hi with
   |none=>cond (decide (0<=i)&&(Nat.ble i.toNat xs.length&&Nat.ble xs.length 1000000)) (k (.aw (xs.drop i.toNat)) z) none
   |some hi=>u.E d f m hi z λy z=>(eW y).bind λj=>cond (decide (0<=i)&&(decide (0<=j)&&Nat.ble xs.length 1000000)) (k (.aw ((xs.drop i.toNat).take (j.toNat-i.toNat))) z) none))
 |.cY op l r=>u.E d f m l z λx z=>u.E d f m r z λy z=>Bt D op x y z k
 |.gP op l r=>u.E d f m l z λx z=>u.E d f m r z λy z=>Hd D op x y z k
 |.hH x args=>hH D u d f m x args z λc xs z=>D.call d c xs z k
 |.mn o a args=>mn D u d f m o a args z λc xs z=>D.call d c xs z k
 |.jO op e r p=>(match r with
  |[]=>u.E d f m e z k
  |e'::r=>u.E d f m e z λx z=>(kc x).bind λc=>(match op with
   |.And=>if c then u.E d f m (.BoolOp .And (e'::r) p) z k else k (.bool c) z
   |.Or=>if c then k (.bool c) z else u.E d f m (.BoolOp .Or (e'::r) p) z k))
 |.sH t a b=>u.T d f m t z λc z=>if c then u.E d f m a z k else u.E d f m b z k
 |.not x=>u.E d f m x z λv z=>u5 D v z λc z=>k (.bool (!c)) z
 |_=>D.ev d f m e z k
def Hf(d:Nat)(f:aP)(m:Lo)(e:Expr)(z:Z)(k:U->Z->Option ρ):Option ρ:=cv ((pv D d f m 9).E e) (λv=>k v z) (He D u d f m e (vw e) z k)
def Hg(d:Nat)(f:aP)(m:Lo)(es:List Expr)(z:Z)(k:List U->Z->Option ρ):Option ρ:=match es with
 |[]=>k [] z
 |e::es=>cond (jy e) (u.E d f m e z λx z=>u.Es d f m es z λxs z=>k (x::xs) z) none
def Hh(d:Nat)(f:aP)(m:Lo)(e:Expr)(kd:Kd)(z:Z)(k:Bool->Z->Option ρ):Option ρ:=match kd with
 |.not x=>u.T d f m x z λc z=>k (!c) z
 |.jO op e r p=>u.T d f m e z λc z=>(match op with
  |.And=>if c then(match r with
   |[]=>k true z
   |e'::r'=>u.T d f m (.BoolOp .And (e'::r') p) z k)else k false z
  |.Or=>if c then k true z else(match r with
   |[]=>k false z
   |e'::r'=>u.T d f m (.BoolOp .Or (e'::r') p) z k))
 |.cY op l r=>u.E d f m l z λx z=>u.E d f m r z λy z=>Bt D op x y z λv z=>u5 D v z k
 |_=>cond (rO e) (u.E d f m e z λv z=>u5 D v z k) none
def Hi(d:Nat)(f:aP)(m:Lo)(e:Expr)(z:Z)(k:Bool->Z->Option ρ):Option ρ:=cv ((pv D d f m 9).T e) (λc=>k c z) (Hh D u d f m e (vw e) z k)
noncomputable def Hj (d:Nat)(f:aP)(m:Lo)(ss:List Stmt)(z:Z)(tf:Bool)(k:Fl->Lo->Z->Option ρ):Option ρ:=match ss with
 |[]=>k .next m z
 |s::ss=>(match ss with
  |[]=>u.S d f m s z tf k
  |s'::ss=>u.S d f m s z false λfl m z=>match fl with
   |.next=>u.L d f m (s'::ss) z tf k
   |fl=>k fl m z)
def Hk(d:Nat)(f:aP)(m:Lo)(t:Expr)(e:Expr)(kd:Kd)(z:Z)(oX:Option ρ)(k:Fl->Lo->Z->Option ρ):Option ρ:=match t with
 |.Name x _=>cond (iu f x&&!TF kd) (u.E d f m e z λv z=>k .next ((x,v)::m) z) oX
 |.Attribute o a _=>cond (TC kd) oX (u.E d f m e z λv z=>u.E d f m o z λx z=>D.kb a x v z λz=>k .next m z)
 |.Subscript o i _=>cond (TG kd) oX (u.E d f m e z λv z=>u.E d f m o z λx z=>u.E d f m i z λy z=>D.kS x y v z λz=>k .next m z)
 |.Tuple ts _ _=>cond (G7 kd) ((namesOf ts).bind λns=>cond (nH f.cs&&ns.all (iu f)) (u.E d f m e z λv z=>(iO v).bind λxs=>cond (Nat.beq xs.length ns.length) (k .next (bindAll ns xs m) z) none) oX) oX
 |_=>oX
def Hl(d:Nat)(f:aP)(m:Lo)(e:Expr)(kd:Kd)(z:Z)(k:Fl->Lo->Z->Option ρ):Option ρ:=match kd with
 |.hH x args=>hH D u d f m x args z λc xs z=>D.tail d c xs z
 |.mn o a args=>mn D u d f m o a args z λc xs z=>D.tail d c xs z
 |_=>u.E d f m e z λ_ z=>k .next m z
def Hm(d:Nat)(f:aP)(m:Lo)(s:Stmt)(z:Z)(tf:Bool)(k:Fl->Lo->Z->Option ρ):Option ρ:=match s with
 |.Expr e _=>cond (jZ e&&nH f.cs) (cond tf (Hl D u d f m e (vw e) z k) (u.E d f m e z λ_ z=>k .next m z)) none
 |.Assign ts e p=>(match ts with
  |[]=>none
  |t::ts=>(match ts with
   |[]=>cond (jZ e) (Hk D u d f m t e (vw e) z (D.st d f m (.Assign [t] e p) z k) k) (D.st d f m (.Assign [t] e p) z k)
   |_::_=>none))
 |.AugAssign t op e _=>(match t with
  |.Name x _=>cond (iu f x) ((m.lookup x).bind λv=>u.E d f m e z λy z=>(sF op v y).bind λw=>k .next ((x,w)::m) z) none
  |_=>none)
 |.If t a b _=>u.T d f m t z λc z=>if c then u.L d f m a z tf k else u.L d f m b z tf k
 |.Return r _=>(match r with
  |some e=>u.E d f m e z λv z=>k (.ret v) m z
  |none=>k (.ret .none) m z)
 |s=>D.st d f m s z k
def ms:Nat->Ms Z ρ
 |0=>⟨λ_ _ _ _ _ _=>none,λ_ _ _ _ _ _=>none,λ_ _ _ _ _ _=>none,λ_ _ _ _ _ _ _=>none,λ_ _ _ _ _ _ _=>none⟩
 |n+1=>⟨Hf D (ms n),Hg (ms n),Hi D (ms n),Hj (ms n),Hm D (ms n)⟩
end
theorem ed(h:dN x=some s):x=.str s:=by
 cases x with
 |str=>exact afp U.str (ack h)
 |_=>exact af h
theorem oY(h:nG x=some s):x=.aw s:=by
 cases x with
 |aw=>exact afp U.aw (ack h)
 |_=>exact af h
theorem dO(h:eW x=some s):x=.int s:=by
 cases x with
 |int=>exact afp U.int (ack h)
 |_=>exact af h
theorem iw(h:kc x=some s):x=.bool s:=by
 cases x with
 |bool=>exact afp U.bool (ack h)
 |_=>exact af h
theorem kT(h:iO x=some s):x=.aG s:=by
 cases x with
 |aG=>exact afp U.aG (ack h)
 |_=>exact af h
theorem TH(h:G3 x=some s):x=.val (.ref s):=by
 cases x with
 |val v=>
  induction v with
  |ref=>exact afp (λa=>U.val (.ref a)) (ack h)
  |_=>exact af h
 |_=>exact af h
theorem xO{f:aP}(h:nH f.cs=true):f.cs.kind=.function:=by
 unfold nH at h;cases e:f.cs.kind<;>rw[e]at h<;>first|rfl|cases h
theorem Bu{f:aP}(h:nH f.cs=true):f.isFn=true:=by unfold aP.isFn;rw[xO h];rfl
theorem TJ(hk:u3 (some a)=k)(h0:Nat.beq 0 k=false)(h1:a=.local\/a=.globalImplicit)(h:Nat.beq (u3 o) k=true):o=some a:=by
 subst hk
 induction o with
 |none=>rw[show u3 none=0 from rfl,h0]at h;exact nomatch h
 |some b=>rcases h1 with rfl|rfl<;>induction b<;>first|rfl|cases h
theorem kB(hk:u3 (some a)=k)(h0:Nat.beq 0 k=false)(h1:a=.local\/a=.globalImplicit)(h:xI k f x=true):eT f x a:=by
 unfold xI at h;rw[afi,afi]at h;exact⟨xO h.1,.of (TJ hk h0 h1 h.2.2),by simpa using h.2.1⟩
theorem cQ(h:iu f x=true):eT f x .local:=kB rfl rfl (.inl rfl) h
theorem dj(h:sD f x=true):eT f x .globalImplicit:=kB rfl rfl (.inr rfl) h
def ji(e:Expr):Kd->Prop
 |.const v=>∃c k p,e=.Constant c k p/\∀d f m X (Q:U->AH->Prop),Q v X->aQ d f m X e Q
 |.name x=>∃p,e=.Name x p
 |.fP o a=>ow o=true/\∃p,e=.Attribute o a p
 |.sG o j=>∃k p p',e=.Subscript o (.Constant (.int (.ofNat j)) k p) p'
 |.last o=>∃k p p' Hn,e=.Subscript o (.UnaryOp .USub (.Constant (.int 1) k p) p') Hn
 |.sub o i=>mW i=true/\∃p,e=.Subscript o i p
 |.qH o lo hi=>∃p p',e=.Subscript o (.Slice lo hi none p) p'
 |.aG es=>∃k p,e=.Tuple es k p
 |.aw es=>∃p,e=.List es p
 |.neg i=>∃j k p p',i=-j/\e=.UnaryOp .USub (.Constant (.int j) k p) p'
 |.not x=>∃p,e=.UnaryOp .Not x p
 |.cY op l r=>behindInMarks op r=false/\∃p,e=.Compare l [op] [r] p
 |.jO op a r p=>e=.BoolOp op (a::r) p
 |.gP op l r=>∃p,e=.BinOp l op r p
 |.hH x args=>fQ args=true/\∃p p',e=.Call (.Name x p) args [] p'
 |.mn o a args=>∃ap p,lr o ap p args=true/\e=.Call (.Attribute o a ap) args [] p
 |.sH t a b=>∃p,e=.IfExp t a b p
 |.jh=>True
theorem u6{A B:Kd}(h:c=true->ji e A)(g:c=false->ji e B):ji e (cond c A B):=by
 induction c with
 |true=>exact h rfl
 |false=>exact g rfl
theorem TL:ji (.Constant c k p) (G8 c):=by
 induction c with
 |str=>exact⟨_,_,_,rfl,λ_ _ _ _ _ q=>Ev.str q⟩
 |int=>exact⟨_,_,_,rfl,λ_ _ _ _ _ q=>Ev.int q⟩
 |bool=>exact⟨_,_,_,rfl,λ_ _ _ _ _ q=>Ev.bool q⟩
 |none=>exact⟨_,_,_,rfl,λ_ _ _ _ _ q=>Ev.none q⟩
 |_=>exact afL
theorem TM(h:G9 op x=true):∃k p,op=.USub/\x=.Constant (.int 1) k p:=by
 induction op with
 |USub=>
  induction x using Expr.casesOn with
  |Constant c k p=>
   induction c with
   |int i=>
    induction i with
    |ofNat j=>exact⟨k,p,rfl,by rw[afB h];rfl⟩
    |negSucc=>cases h
   |_=>cases h
  |_=>cases h
 |_=>cases h
theorem TN{p:Pos}:ji (.Subscript o i p) (Ha o i):=by
 induction i using Expr.casesOn with
 |Constant c k p'=>
  induction c with
  |int j=>
   induction j with
   |ofNat=>exact⟨_,_,_,rfl⟩
   |negSucc=>exact⟨rfl,_,rfl⟩
  |_=>exact⟨rfl,_,rfl⟩
 |UnaryOp op x p'=>
  exact u6 (λh=>cG (TM h) λk q e1 e2=>by rw[e1,e2];exact⟨_,_,_,_,rfl⟩) λ_=>⟨rfl,_,rfl⟩
 |Slice lo hi st p'=>
  induction st with
  |none=>exact⟨_,_,rfl⟩
  |some=>exact afL
 |_=>exact⟨rfl,_,rfl⟩
theorem TO(V:ji e kd)(h:G7 kd=true):∃x args p p',e=.Call (.Name x p) args [] p':=by
 induction kd with
 |hH x args=>exact let⟨_,p,p',e⟩:=V;⟨_,_,p,p',e⟩
 |_=>cases h
theorem TP:ji (.UnaryOp op x p) (Hb op x):=by
 induction op with
 |Not=>exact⟨_,rfl⟩
 |USub=>
  induction x using Expr.casesOn with
  |Constant c k p'=>
   induction c with
   |int j=>exact⟨_,_,_,_,rfl,rfl⟩
   |_=>exact afL
  |_=>exact afL
 |_=>exact afL
theorem TQ{args:List Expr}:ji (.Call g args [] p) (Hc g args p):=by
 induction g using Expr.casesOn with
 |Name x p'=>exact u6 (λh=>⟨h,_,_,rfl⟩) λ_=>afL
 |Attribute o a ap=>exact u6 (λh=>⟨_,_,h,rfl⟩) λ_=>afL
 |_=>exact afL
theorem jj(e:Expr):ji e (vw e):=by
 induction e using Expr.casesOn with
 |Constant c k p=>exact TL
 |Name x p=>exact⟨_,rfl⟩
 |Attribute o a p=>exact u6 (λh=>⟨h,_,rfl⟩) λ_=>afL
 |Subscript o i p=>exact TN
 |Tuple es k p=>exact⟨_,_,rfl⟩
 |List es p=>exact⟨_,rfl⟩
 |UnaryOp op x p=>exact TP
 |Compare l Bq rs p=>
  cases Bq with
  |nil=>exact afL
  |cons op t=>
   induction t with
   |cons=>exact afL
   |nil=>
    induction rs with
    |nil=>exact afL
    |cons r t=>
     induction t with
     |cons=>exact afL
     |nil=>exact u6 (λ_=>afL) λh=>⟨h,_,rfl⟩
 |BoolOp op es p=>
  induction es with
  |nil=>exact afL
  |cons=>exact rfl
 |BinOp l op r p=>exact⟨_,rfl⟩
 |Call g args Br p=>
  induction Br with
  |nil=>exact TQ
  |cons=>exact afL
 |IfExp t a b p=>exact⟨_,rfl⟩
 |_=>exact afL
section
variable{d:Nat}{X:AH}{Q:U->AH->Prop}
theorem TR(h:G4 op (a==b)=some v)(q:Q v X):br d (compareOp op) (.str a) (.str b) X Q:=by
 induction op with
 |Eq=>exact Op.wK (sE (X:=λv=>Q v X->Q (.bool (a==b)) X) h id q)
 |NotEq=>exact Op.OY (sE (X:=λv=>Q v X->Q (.bool (a !=b)) X) h id q)
 |_=>exact af h
theorem TU(h:xJ op (ar ss a)=some v)(q:Q v X):br d (compareOp op) (.str a) (.aG (ss.map .str)) X Q:=by
 induction op with
 |In=>exact Op.FR (sE (X:=λv=>Q v X->Q (.bool (ar ss a)) X) h id q)
 |NotIn=>exact Op.Ra (sE (X:=λv=>Q v X->Q (.bool (!ar ss a)) X) h id q)
 |_=>exact af h
theorem TV(h:G5 op a b=some v)(q:Q v X):br d (compareOp op) (.int a) (.int b) X Q:=by
 induction op with
 |Eq=>exact Op.OV (sE (X:=λv=>Q v X->Q (.bool (a==b)) X) h id q)
 |NotEq=>exact Op.OW (sE (X:=λv=>Q v X->Q (.bool (a !=b)) X) h id q)
 |Lt=>exact Op.E0 (sE (X:=λv=>Q v X->Q (.bool (decide (a<b))) X) h id q)
 |Gt=>exact Op.OX (sE (X:=λv=>Q v X->Q (.bool (decide (b<a))) X) h id q)
 |GtE=>exact Op.E1 (sE (X:=λv=>Q v X->Q (.bool (decide (b<=a))) X) h id q)
 |_=>exact af h
theorem Bv(h:xK op x y=some v)(q:Q v X):br d (compareOp op) x y X Q:=
 oE h (λa h1 h=>ed h1▸oE h (λb h2 h=>ed h2▸TR h q) λh=>bE h λys h2 h=>bE h λss h3 h=>by rw[kT h2,xf h3];exact TU h q)
  λh=>bE h λa h1 h=>bE h λb h2 h=>by rw[dO h1,dO h2];exact TV h q
theorem Ho{P:Operator->U->U->Prop}(h:sF op x y=some v)(ha:∀a b:Int,v=.int (a+b)->P .Add (.int a) (.int b))(hs:∀a b:Int,v=.int (a-b)->P .Sub (.int a) (.int b)):P op x y:=
 bE h λa h1 h=>bE h λb h2 h=>by
  rw[dO h1,dO h2]
  induction op with
  |Add=>exact ha _ _ (ack h).symm
  |Sub=>exact hs _ _ (ack h).symm
  |_=>exact af h
theorem Hp(h:sF op x y=some v)(q:Q v X):br d (binaryOp op) x y X Q:=
 Ho (P:=λop x y=>br d (binaryOp op) x y X Q) h (λ_ _ e=>Op.add (e▸q)) λ_ _ e=>Op.sub (e▸q)
theorem TX(h:sF op x y=some v)(q:Q v X):br d (inplaceOp op) x y X Q:=
 Ho (P:=λop x y=>br d (inplaceOp op) x y X Q) h (λ_ _ e=>Op.OT (e▸q)) λ_ _ e=>Op.OU (e▸q)
end
section
variable{d:Nat}{f:aP}{m:Lo}{H:AH}
theorem Ev.TY
  (h:aQ d f m H o λx H'=>∃C es v,fy C name/\f7 H' x C es/\es.lookup name=some v/\v.plain/\Q v H')
  (he:ow o=true):aQ d f m H (.Attribute o name pos) Q:=
 λA ρ L s Qc E room X p=>Attribute_any_ (h A ρ L s _ E room X λx v ag H' s' q R S z r=>by
  refine kr q λC es y M I hl hy q=>?_
  refine wA (I.at R r) λa da ds n i5 IA rd=>?_;subst i5
  refine ah (rd.find.1 y hl) λu e1 r1=>?_
  exact get_value R.lq IA (plainGet_of M.plain).1 (findObj_own M.dict M.lj rfl e1) (r1.handed hy) ((p.after S z).toks q R r1)) (by rw[arm_eval_Attribute,zP he])
def mq(H:AH)(x:U)(name:Str)(v:Value):Prop:=
 (∃C g es,v=.ref g/\MethAt C name g/\f7 H x C es/\es.lookup name=none)\/(∃T id,v=.builtin id/\d0 H x T/\Slot T name id/\PlainAttrs T/\typeOf (.builtin id)=pure (.type "method_descriptor"))
theorem Ev.TZ
  (h:aQ d f m H o λx H'=>∃v,mq H' x name v/\fY d f m H' args λxs bg=>aU d v (x::xs) bg Q)
  (hx:lr o ib pos args=true):aQ d f m H (.Call (.Attribute o name ib) args [] pos) Q:=
 fb (zR hx) λho hl hp hn=>
 λA ρ L s Qc E room X p=>zQ ho hl hp hn (h A ρ L s _ E room X λx v ag H' s' q R S z r=>by
  refine ah q λv hv q=>?_
  intro pl;rcases hv with⟨C,g,es,rfl,M,I,ne⟩|⟨T,id,rfl,hT,slot,pa,mZ⟩
  ·refine wA (I.at R r) λa da ds n i5 IA rd=>?_;subst i5
   have KX:=R.lq;refine method_fn KX IA (plainGet_of M.plain).1 (plainGet_of M.plain).2 M.find (afr.mp M.fn) (by show(lookIn name (dictOf ds n)).map _=_;rw[lookIn_dict,rd.find.2 ne];rfl) ?_
   exact t8 (fx:=[x]) (.top M.keep) hp q room (X.bY R S) (.cons r .nil) (p.after S z)
  ·refine getMethod_builtin (hT.typeIs R r) pa slot mZ (hT.noDict R r) ?_;exact t8 (fx:=[x]) (.ll id) hp q room (X.bY R S) (.cons r .nil) (p.after S z))
def jP(d:Nat)(f:aP)(m:Lo)(X:AH)(e:Expr)(v:U):Prop:=∀Q:U->AH->Prop,Q v X->aQ d f m X e Q
def Ua(d:Nat)(f:aP)(m:Lo)(X:AH)(es:List Expr)(vs:List U):Prop:=∀Q:List U->AH->Prop,Q vs X->fY d f m X es Q
theorem jP.jO(h:jP d f m H e (.bool a))(k:jP d f m H (.BoolOp op (e'::r) pos) (.bool c)):jP d f m H (.BoolOp op (e::e'::r) pos) (.bool (xM op a c)):=λQ q=>by
 induction op with
 |Or=>
  refine Ev.or (h _ (Tr.bool ?_));cases a
  ·exact k _ q
  ·exact⟨rfl,q⟩
 |And=>
  refine Ev.and (h _ (Tr.bool ?_));cases a
  ·exact⟨rfl,q⟩
  ·exact k _ q
theorem fD.jO(h:fD d f m H e a)(k:fD d f m H (.BoolOp op (e'::r) pos) c):fD d f m H (.BoolOp op (e::e'::r) pos) (xM op a c):=by
 induction op with
 |Or=>exact fD.or h λ_=>k
 |And=>exact fD.and h λ_=>k
theorem Bw(hF:∀e v,F e=some v->jP d f m H e v):∀{es:List Expr} {vs:List U},u4 F es=some vs->Ua d f m H es vs:=λ{es}=>by
 induction es with
 |nil=>exact λh Q q=>aI.nil (sE (X:=λvs=>Q vs H->Q [] H) h id q)
 |cons e r ih=>exact λh=>cE h λhc h=>bE h λx h1 h=>bE h λxs h2 h Q q=>aI.cons (hF _ _ h1 _ (ih h2 _ (sE (X:=λvs=>Q vs H->Q (x::xs) H) h id q))) hc
theorem Hq{X:Expr->Bool->Prop}(hF:∀e v,F e=some v->X e v)(h1:∀e v,X e v->X (.BoolOp op [e] pos) v)(h2:∀e e' r a c,X e a->X (.BoolOp op (e'::r) pos) c->X (.BoolOp op (e::e'::r) pos) (xM op a c)):
  ∀{r:List Expr} {e:Expr} {c:Bool},xN op F e r=some c->X (.BoolOp op (e::r) pos) c:=λ{r}=>by
 induction r with
 |nil=>exact λh=>h1 _ _ (hF _ _ h)
 |cons e' r ih=>exact λh=>bE h λx e1 h=>bE h λy e2 h=>sE h (h2 _ _ _ _ _ (hF _ _ e1) (ih e2))
end
section
variable{Z ρ:Type}
noncomputable def Dm.fv (D:Dm Z ρ):Fc->Value
 |.f a=>.ref a
 |.m x=>D.bi x
abbrev u7(d:Nat)(x y:U)(H:AH)(Q:U->AH->Prop):Prop:=(∃T,d0 H x T/\gI T)/\br d getItem x y H Q
abbrev xP(d:Nat)(a:Str)(x v:U)(H:AH)(Q:U->AH->Prop):Prop:=br d (λov v=>do setAttr ov a v;pure .none) x v H Q
abbrev Ub(H:AH)(x:U)(a:Str)(v:U):Prop:=∃C es,fy C a/\f7 H x C es/\es.lookup a=some v/\v.plain
structure iz(D:Dm Z ρ)(r:ρ):Prop where
 g:∀x c,D.g x=some c->FnAt x (D.fv c)\/(ia x (D.fv c)/\Callee (D.fv c))
 lc:∀a,D.lc a=true->Callee (.ref a)
 mt:∀x z a k,D.mt x z a k=some r->∀{P:Prop},(∀c,k c=some r->(∀n,mq (D.hz z n) x a (D.fv c))->P)->P
 fl:∀x z a v,D.fl x z a=some v->∀n,Ub (D.hz z n) x a v
 pc:∀d a xs y,D.pc d a xs=some y->∀z n (Q:U->AH->Prop),Q y (D.hz z n)->aU (D.o+d) (.ref a) xs (D.hz z n) Q
 cY:∀op x y z k,D.cY op x y z k=some r->∀{P:Prop},(∀v,k v=some r->(∀d n (Q:U->AH->Prop),Q v (D.hz z n)->br d (compareOp op) x y (D.hz z n) Q)->P)->P
 gP:∀op x y z k,D.gP op x y z k=some r->∀{P:Prop},(∀v,k v=some r->(∀d n (Q:U->AH->Prop),Q v (D.hz z n)->br d (binaryOp op) x y (D.hz z n) Q)->P)->P
 item:∀x y z k,D.item x y z k=some r->∀{P:Prop},(∀v,k v=some r->(∀d n (Q:U->AH->Prop),Q v (D.hz z n)->u7 d x y (D.hz z n) Q)->P)->P
 last:∀x z k,D.last x z k=some r->∀{P:Prop},(∀v,k v=some r->(∀d n (Q:U->AH->Prop),Q v (D.hz z n)->u7 d x (.int (-1)) (D.hz z n) Q)->P)->P
 kb:∀a x v z k,D.kb a x v z k=some r->∀{P:Prop},(∀z',k z'=some r->(∀d n (Q:U->AH->Prop),(∀n',Q .none (D.hz z' n'))->xP d a x v (D.hz z n) Q)->P)->P
 kS:∀x y v z k,D.kS x y v z k=some r->∀{P:Prop},(∀z',k z'=some r->(∀d n (Q:AH->Prop),(∀n',Q (D.hz z' n'))->l5 d x y v (D.hz z n) Q)->P)->P
 tr:∀x z k,D.tr x z k=some r->∀{P:Prop},(∀c,k c=some r->(∀d n (Q:Bool->AH->Prop),Q c (D.hz z n)->lX d x (D.hz z n) Q)->P)->P
 call:∀d c xs z k,D.call d c xs z k=some r->∀Q:U->AH->Prop,(∀y z' n',k y z'=some r->Q y (D.hz z' n'))->∀n,aU (D.o+d) (D.fv c) xs (D.hz z n) Q
 tail:∀d c xs z,D.tail d c xs z=some r->∀Q:U->AH->Prop,(∀y z' n',D.gk z'=some r->Q y (D.hz z' n'))->∀n,aU (D.o+d) (D.fv c) xs (D.hz z n) Q
 ev:∀d f m e z k,D.ev d f m e z k=some r->∀Q:U->AH->Prop,(∀y z' n',k y z'=some r->Q y (D.hz z' n'))->∀n,aQ (D.o+d) f m (D.hz z n) e Q
 st:∀d f m s z k,D.st d f m s z k=some r->∀Q:Fl->Lo->AH->Prop,(∀fl m' z' n',k fl m' z'=some r->Q fl m' (D.hz z' n'))->∀n,dh (D.o+d) f m (D.hz z n) s Q
structure Hr(D:Dm Z ρ)(r:ρ)(u:Ms Z ρ):Prop where
 E:∀d f m e z k,u.E d f m e z k=some r->∀Q:U->AH->Prop,(∀y z' n',k y z'=some r->Q y (D.hz z' n'))->∀n,aQ (D.o+d) f m (D.hz z n) e Q
 Es:∀d f m e z k,u.Es d f m e z k=some r->∀Q:List U->AH->Prop,(∀y z' n',k y z'=some r->Q y (D.hz z' n'))->∀n,fY (D.o+d) f m (D.hz z n) e Q
 T:∀d f m e z k,u.T d f m e z k=some r->∀Q:Bool->AH->Prop,(∀y z' n',k y z'=some r->Q y (D.hz z' n'))->∀n,eH (D.o+d) f m (D.hz z n) e Q
 L:∀d f m s z tf k,u.L d f m s z tf k=some r->(tf=true->∀m z,k .next m z=D.gk z)->∀Q:Fl->Lo->AH->Prop,(∀fl m' z' n',k fl m' z'=some r->Q fl m' (D.hz z' n'))->∀n,bG (D.o+d) f m (D.hz z n) s Q
 S:∀d f m s z tf k,u.S d f m s z tf k=some r->(tf=true->∀m z,k .next m z=D.gk z)->∀Q:Fl->Lo->AH->Prop,(∀fl m' z' n',k fl m' z'=some r->Q fl m' (D.hz z' n'))->∀n,dh (D.o+d) f m (D.hz z n) s Q
structure Bx(d:Nat)(f:aP)(m:Lo)(H:AH)(u:Pv):Prop where
 E:∀e v,u.E e=some v->jP d f m H e v
 T:∀e c,u.T e=some c->fD d f m H e c
variable{D:Dm Z ρ}{r:ρ}(O:iz D r){d:Nat}{f:aP}{m:Lo}
theorem Hs(F:FnAt x v\/(ia x v/\Callee v))(hx:eT f x .globalImplicit)(h:fY d f m H args λxs bg=>aU d v xs bg Q)
  (hp:fQ args=true):aQ d f m H (.Call (.Name x xp) args [] pos) Q:=
 F.elim (λF=>Ev.jA F hx h hp) λF=>Ev.t9 F.2 (Ev.ll F.1 hx ⟨rfl,h⟩) hp
theorem Ht(hE:∀v,o=some v->jP d f m H e v)(h:o.bind kc=some c):jP d f m H e (.bool c):=
 bE h λv h1 h=>iw h▸hE _ h1
section
variable{z:Z}{n:Nat}{u:Pv}(I:Bx (D.o+d) f m (D.hz z n) u)
include O I
theorem Uc{k:Kd}(V:ji e k)(h:pE D d f m u k=some v):jP (D.o+d) f m (D.hz z n) e v:=by
 induction k with
 |const c=>refine i3 V λ_ _ _ _ V=>?_;exact sE h λQ q=>V _ _ _ _ Q q
 |name x=>refine aF V λp bb=>?_;subst bb;exact cE h λhc h Q q=>Ev.local (.of h) (cQ hc) q
 |sG o j=>
  refine kq V λk p p' bx=>?_;subst bx
  exact bE h λx h2 h=>bE h λxs h3 h=>cE h λhc h Q q=>oE h3 (λys h4 h5=>Ev.sub ((show jP (D.o+d) f m (D.hz z n) o (.aG ys)from kT h4▸I.E _ _ h2) _ (Ev.int ⟨Ao,Op.z6 (Nat.blt_eq.mp hc) (ack h5▸h) q⟩)) rfl)
   λh5=>Ev.sub ((show jP (D.o+d) f m (D.hz z n) o (.aw xs)from oY h5▸I.E _ _ h2) _ (Ev.int ⟨qf,Op.item (.aw _) (Nat.blt_eq.mp hc) h q⟩)) rfl
 |aw es=>refine aF V λp bb=>?_;subst bb;exact dE h (λ_ h=>af h) λ_ h=>bE h λxs h1 h=>cE h λhc h=>sE h λQ q=>Ev.list (Bw I.E h1 _ ⟨afo hc,q⟩)
 |sH t a b=>
  refine aF V λp bb=>?_;subst bb
  exact bE h λc h1 h Q q=>Ev.zV (I.T _ _ h1 _ (dE h (λhc h=>by subst hc;exact I.E _ _ h _ q) λhc h=>by subst hc;exact I.E _ _ h _ q))
 |aG es=>refine fN V λk p aM=>?_;subst aM;exact bE h λxs h1 h=>cE h λhc h=>sE h λQ q=>Ev.tuple (Bw I.E h1 _ ⟨afo hc,q⟩)
 |neg i=>refine Of V λj k p p' i5 By=>?_;subst i5;subst By;exact sE h λQ q=>Ev.zW (Ev.int (Op.neg q))
 |cY op l r=>obtain⟨hc,p,rfl⟩:=V;exact bE h λx h2 h=>bE h λy h3 h Q q=>Ev.cY (I.E _ _ h2 _ (I.E _ _ h3 _ (Bv h q))) hc
 |jO op e r p=>
  subst V;exact bE h λc h1 h=>sE h (Hq (X:=λe v=>jP (D.o+d) f m (D.hz z n) e (.bool v)) (λe v h=>Ht (λv=>I.E e v) h) (λe v h Q q=>Ev.EZ (h Q q)) (λe e' r a c=>jP.jO) h1)
 |gP op l r=>refine aF V λp bb=>?_;subst bb;exact bE h λx h1 h=>bE h λy h2 h Q q=>Ev.rK (I.E _ _ h1 _ (I.E _ _ h2 _ (Hp h q)))
 |hH x args=>
  obtain⟨hp,p,p',rfl⟩:=V;exact cE h λhc h=>bE h λc h2 h=>bE h λxs h3 h Q q=>Hs (O.g _ _ h2) (dj hc) (Bw I.E h3 _ (by
   induction c with
   |f a=>exact O.pc _ _ _ _ h _ _ _ q
   |m=>exact af h)) hp
 |_=>exact af h
omit O in
theorem Ud {k:Kd}(V:ji e k)(h:pT u e k=some c):fD (D.o+d) f m (D.hz z n) e c:=by
 have gen:cond (rO e) ((u.E e).bind kc) none=some c->fD (D.o+d) f m (D.hz z n) e c:=λh Q q=>cE h λhc h=>Ts.plain (Ht (λv=>I.E _ v) h _ (Tr.bool q)) hc
 induction k with
 |not x=>obtain⟨p,rfl⟩:=V;exact bE h λc' h1 h=>sE h λQ q=>Ts.not (I.T _ _ h1 _ q)
 |jO op e r p=>subst V;exact Hq (X:=fD (D.o+d) f m (D.hz z n)) I.T (λe v h=>fD.one h) (λe e' r a c=>fD.jO) h
 |cY op l r=>obtain⟨hc,p,rfl⟩:=V;exact bE h λx h2 h=>bE h λy h3 h=>bE h λv h4 h Q q=>Ts.cY (I.E _ _ h2 _ (I.E _ _ h3 _ (Bv h4 (iw h▸Tr.bool q)))) hc
 |_=>exact gen h
end
include O
theorem xQ(z:Z)(n:Nat)(k:Nat):Bx (D.o+d) f m (D.hz z n) (pv D d f m k):=by
 induction k with
 |zero=>exact⟨λ_ _ h=>af h,λ_ _ h=>af h⟩
 |succ k I=>exact⟨λ_ _ h=>Uc O I (jj _) h,λ_ _ h=>Ud I (jj _) h⟩
variable{u:Ms Z ρ}(I:Hr D r u){z:Z}
theorem Hu(h:Bt D op x y z k=some r)(q:∀y z' n',k y z'=some r->Q y (D.hz z' n'))(n:Nat):br (D.o+d) (compareOp op) x y (D.hz z n) Q:=
 oE h (λv h1 h=>Bv h1 (q _ _ _ h)) λh=>O.cY _ _ _ _ _ h λv h1 h2=>h2 _ _ _ (q _ _ _ h1)
theorem Ue(h:Hd D op x y z k=some r)(q:∀y z' n',k y z'=some r->Q y (D.hz z' n'))(n:Nat):br (D.o+d) (binaryOp op) x y (D.hz z n) Q:=
 oE h (λv h1 h=>Hp h1 (q _ _ _ h)) λh=>O.gP _ _ _ _ _ h λv h1 h2=>h2 _ _ _ (q _ _ _ h1)
theorem Bz(h:u5 D x z k=some r)(q:∀y z' n',k y z'=some r->Q y (D.hz z' n'))(n:Nat):lX (D.o+d) x (D.hz z n) Q:=
 oE h (λv h1 h=>iw h1▸Tr.bool (q _ _ _ h)) λh=>O.tr _ _ _ h λv h1 h2=>h2 _ _ _ (q _ _ _ h1)
include I
theorem Hv(h:hH D u d f m x args z fc=some r)(hp:fQ args=true)(hf:∀c xs z1 n1,fc c xs z1=some r->aU (D.o+d) (D.fv c) xs (D.hz z1 n1) Q)(n:Nat):aQ (D.o+d) f m (D.hz z n) (.Call (.Name x p) args [] p') Q:=
 dE h (λhc h=>bE h λc h1 h=>Hs (O.g _ _ h1) (dj hc) (I.Es _ _ _ _ _ _ h _ (λxs z1 n1 h=>hf _ _ _ _ h) n) hp)
  λ_ h=>cE h λhc h=>bE h λy h1 h=>bE h λa h2 h=>cE h λh3 h=>Ev.t9 (O.lc _ h3) (Ev.local (.of (TH h2▸h1)) (cQ hc) ⟨rfl,I.Es _ _ _ _ _ _ h _ (λxs z1 n1 h=>hf (.f a) _ _ _ h) n⟩) hp
theorem Hw(h:mn D u d f m o a args z fc=some r)(hx:lr o aq p args=true)(hf:∀c xs z1 n1,fc c xs z1=some r->aU (D.o+d) (D.fv c) xs (D.hz z1 n1) Q)(n:Nat):aQ (D.o+d) f m (D.hz z n) (.Call (.Attribute o a aq) args [] p) Q:=
 Ev.TZ (I.E _ _ _ _ _ _ h _ (λx z1 n1 h=>O.mt _ _ _ _ h λc h h1=>⟨_,h1 n1,I.Es _ _ _ _ _ _ h _ (λxs z2 n2 h=>hf _ _ _ _ h) n1⟩) n) hx
theorem Ug(V:ji e kd)(h:He D u d f m e kd z k=some r)(q:∀y z' n',k y z'=some r->Q y (D.hz z' n'))(n:Nat):aQ (D.o+d) f m (D.hz z n) e Q:=by
 have sI:∀{x y z1 n1},D.item x y z1 (λv=>k v z1)=some r->(∃T,d0 (D.hz z1 n1) x T/\gI T)/\br (D.o+d) getItem x y (D.hz z1 n1) Q:=λh=>O.item _ _ _ _ h λv h1 h2=>h2 _ _ _ (q _ _ _ h1)
 induction kd with
 |fP o a=>
  obtain⟨hc,p,rfl⟩:=V;exact Ev.TY (I.E _ _ _ _ _ _ h _ (λx z1 n1 h=>bE h λv h1 h=>dW (O.fl _ _ _ _ h1 n1) λC es F In e1 e2=>⟨C,es,v,F,In,e1,e2,q _ _ _ h⟩) n) hc
 |aG es=>refine fN V λk' p aM=>?_;subst aM;exact Ev.tuple (I.Es _ _ _ _ _ _ h _ (λx z1 n1 h=>cE h λhc h=>⟨afo hc,q _ _ _ h⟩) n)
 |aw es=>refine aF V λp bb=>?_;subst bb;exact Ev.list (I.Es _ _ _ _ _ _ h _ (λx z1 n1 h=>cE h λhc h=>⟨afo hc,q _ _ _ h⟩) n)
 |sG o j=>refine kq V λk' p p' bx=>?_;subst bx;exact Ev.sub (I.E _ _ _ _ _ _ h _ (λx z1 n1 h=>Ev.int (oE h (λv h1 h=>bE h1 λxs h2 h3=>cE h3 λhc h3=>kT h2▸⟨Ao,Op.z6 (Nat.blt_eq.mp hc) h3 (q _ _ _ h)⟩) sI)) n) rfl
 |last o=>refine lU V λk' p p' Hn i5=>?_;subst i5;exact Ev.sub (I.E _ _ _ _ _ _ h _ (λx z1 n1 h=>Ev.zW (Ev.int (Op.neg (O.last _ _ _ h λv h1 h2=>h2 _ _ _ (q _ _ _ h1))))) n) rfl
 |sub o i=>obtain⟨hc,p,rfl⟩:=V;exact Ev.sub (I.E _ _ _ _ _ _ h _ (λx z1 n1 h=>I.E _ _ _ _ _ _ h _ (λy z2 n2 h=>sI h) n1) n) hc
 |qH o lo hi=>
  induction lo with
  |none=>exact O.ev _ _ _ _ _ _ h _ q n
  |some lo=>
   refine fN V λp p' aM=>?_;subst aM
   induction hi with
   |none=>exact Ev.Fi (I.E _ _ _ _ _ _ h _ (λx z1 n1 h=>I.E _ _ _ _ _ _ h _ (λy z2 n2 h=>bE h λxs h1 h=>bE h λi h2 h=>cE h λhc h=>by
     rw[afi,afi]at hc;exact⟨xs,i.toNat,by rw[oY h1];exact .aw xs,by rw[dO h2,af9 (afN hc.1)],afo hc.2.1,afo hc.2.2,q _ _ _ h⟩) n1) n)
   |some hi=>exact Ev.Sg (I.E _ _ _ _ _ _ h _ (λx z1 n1 h=>I.E _ _ _ _ _ _ h _ (λy z2 n2 h=>bE h λxs h1 h=>bE h λi h2 h=>I.E _ _ _ _ _ _ h _ (λy3 z3 n3 h=>bE h λj h3 h=>cE h λhc h=>by
     rw[afi,afi]at hc;exact⟨xs,i.toNat,j.toNat,by rw[oY h1];exact .aw xs,by rw[dO h2,af9 (afN hc.1)],by rw[dO h3,af9 (afN hc.2.1)],afo hc.2.2,q _ _ _ h⟩) n2) n1) n)
 |cY op l r'=>obtain⟨hc,p,rfl⟩:=V;exact Ev.cY (I.E _ _ _ _ _ _ h _ (λx z1 n1 h=>I.E _ _ _ _ _ _ h _ (λy z2 n2 h=>Hu O h q n2) n1) n) hc
 |gP op l r'=>refine aF V λp bb=>?_;subst bb;exact Ev.rK (I.E _ _ _ _ _ _ h _ (λx z1 n1 h=>I.E _ _ _ _ _ _ h _ (λy z2 n2 h=>Ue O h q n2) n1) n)
 |hH x args=>obtain⟨hp,p,p',rfl⟩:=V;exact Hv O I h hp (λc xs z1 n1 h=>O.call _ _ _ _ _ h _ q n1) n
 |mn o a args=>refine cG V λap p hx V=>?_;subst V;exact Hw (fc:=λc xs z=>D.call d c xs z k) O I h hx (λc xs z1 n1 h=>O.call _ _ _ _ _ h _ q n1) n
 |jO op e es p=>
  subst V;cases es with
  |nil=>exact Ev.EZ (I.E _ _ _ _ _ _ h _ q n)
  |cons e' es=>
   induction op with
   |And=>exact Ev.and (I.E _ _ _ _ _ _ h _ (λx z1 n1 h=>bE h λc h1 h=>iw h1▸Tr.bool (iE h (λhc h=>by subst hc;exact I.E _ _ _ _ _ _ h _ q n1) λhc h=>by subst hc;exact⟨rfl,q _ _ _ h⟩)) n)
   |Or=>exact Ev.or (I.E _ _ _ _ _ _ h _ (λx z1 n1 h=>bE h λc h1 h=>iw h1▸Tr.bool (iE h (λhc h=>by subst hc;exact⟨rfl,q _ _ _ h⟩) λhc h=>by subst hc;exact I.E _ _ _ _ _ _ h _ q n1)) n)
 |not x=>refine aF V λp bb=>?_;subst bb;exact Ev.zW (I.E _ _ _ _ _ _ h _ (λv z1 n1 h=>Op.not (Bz O h (λc z2 n2 h=>q _ _ _ h) n1)) n)
 |sH t a b=>refine aF V λp bb=>?_;subst bb;exact Ev.zV (I.T _ _ _ _ _ _ h _ (λc z1 n1 h=>iE h (λhc h=>by subst hc;exact I.E _ _ _ _ _ _ h _ q n1) λhc h=>by subst hc;exact I.E _ _ _ _ _ _ h _ q n1) n)
 |_=>exact O.ev _ _ _ _ _ _ h _ q n
theorem Uh(h:Hf D u d f m e z k=some r)(Q:U->AH->Prop)(q:∀y z' n',k y z'=some r->Q y (D.hz z' n'))(n:Nat):aQ (D.o+d) f m (D.hz z n) e Q:=
 oE h (λv h1 h=>(xQ O z n 9).E _ _ h1 _ (q _ _ _ h)) λh=>Ug O I (jj _) h q n
omit O in
theorem Ui (h:Hg u d f m es z k=some r)(Q:List U->AH->Prop)(q:∀y z' n',k y z'=some r->Q y (D.hz z' n'))(n:Nat):fY (D.o+d) f m (D.hz z n) es Q:=by
 induction es with
 |nil=>exact aI.nil (q _ _ _ h)
 |cons e es=>exact cE h λhc h=>aI.cons (I.E _ _ _ _ _ _ h _ (λx z1 n1 h=>I.Es _ _ _ _ _ _ h _ (λxs z2 n2 h=>q _ _ _ h) n1) n) hc
theorem Uj(V:ji e kd)(h:Hh D u d f m e kd z k=some r)(q:∀y z' n',k y z'=some r->Q y (D.hz z' n'))(n:Nat):eH (D.o+d) f m (D.hz z n) e Q:=by
 have gen:cond (rO e) (u.E d f m e z λv z=>u5 D v z k) none=some r->eH (D.o+d) f m (D.hz z n) e Q:=λh=>cE h λhc h=>Ts.plain (I.E _ _ _ _ _ _ h _ (λx z1 n1 h=>Bz O h q n1) n) hc
 induction kd with
 |not x=>refine aF V λp bb=>?_;subst bb;exact Ts.not (I.T _ _ _ _ _ _ h _ (λb z1 n1 h=>q _ _ _ h) n)
 |jO op e es p=>
  subst V
  induction op with
  |And=>exact Ts.and (I.T _ _ _ _ _ _ h _ (λb z1 n1 h=>iE h (λhc h=>by
    subst hc;cases es with
    |nil=>exact Ts.EX (q _ _ _ h)
    |cons=>exact I.T _ _ _ _ _ _ h _ q n1) λhc h=>by subst hc;exact q _ _ _ h) n)
  |Or=>exact Ts.or (I.T _ _ _ _ _ _ h _ (λb z1 n1 h=>iE h (λhc h=>by subst hc;exact q _ _ _ h) λhc h=>by
    subst hc;cases es with
    |nil=>exact Ts.EY (q _ _ _ h)
    |cons=>exact I.T _ _ _ _ _ _ h _ q n1) n)
 |cY op l r'=>obtain⟨hc,p,rfl⟩:=V;exact Ts.cY (I.E _ _ _ _ _ _ h _ (λx z1 n1 h=>I.E _ _ _ _ _ _ h _ (λy z2 n2 h=>Hu O h (λv z3 n3 h=>Bz O h q n3) n2) n1) n) hc
 |_=>exact gen h
theorem Uk(h:Hi D u d f m e z k=some r)(Q:Bool->AH->Prop)(q:∀y z' n',k y z'=some r->Q y (D.hz z' n'))(n:Nat):eH (D.o+d) f m (D.hz z n) e Q:=
 oE h (λv h1 h=>(xQ O z n 9).T _ _ h1 _ (q _ _ _ h)) λh=>Uj O I (jj _) h q n
omit O in
theorem Ul (h:Hj u d f m ss z tf k=some r)(ht:tf=true->∀m z,k .next m z=D.gk z)(Q:Fl->Lo->AH->Prop)(q:∀fl m' z' n',k fl m' z'=some r->Q fl m' (D.hz z' n'))(n:Nat):bG (D.o+d) f m (D.hz z n) ss Q:=by
 cases ss with
 |nil=>exact Ex.nil (q _ _ _ _ h)
 |cons s ss=>
  induction ss with
  |nil=>
   refine Ex.cons (I.S _ _ _ _ _ _ _ h ht _ (λfl m1 z1 n1 h=>?_) n)
   induction fl with
   |next=>exact Ex.nil (q _ _ _ _ h)
   |_=>exact q _ _ _ _ h
  |cons s' ss=>
   refine Ex.cons (I.S _ _ _ _ _ _ _ h (λe=>nomatch e) _ (λfl m1 z1 n1 h=>?_) n)
   induction fl with
   |next=>exact I.L _ _ _ _ _ _ _ h ht _ q n1
   |_=>exact q _ _ _ _ h
theorem Um(V:ji e kd)(h:Hk D u d f m t e kd z oX k=some r)(n:Nat)(hs:jZ e=true)(he:oX=some r->dh (D.o+d) f m (D.hz z n) (.Assign [t] e p) Q)(q:∀fl m' z' n',k fl m' z'=some r->Q fl m' (D.hz z' n')):dh (D.o+d) f m (D.hz z n) (.Assign [t] e p) Q:=by
 induction t using Expr.casesOn with
 |Name x p'=>exact dE h (λhc h=>Ex.assign (cQ ((afi ..).mp hc).1) (I.E _ _ _ _ _ _ h _ (λv z1 n1 h=>q _ _ _ _ h) n) hs) λ_ h=>he h
 |Attribute o a p'=>
  have gen:(u.E d f m e z λv z=>u.E d f m o z λx z=>D.kb a x v z λz=>k .next m z)=some r->dh (D.o+d) f m (D.hz z n) (.Assign [.Attribute o a p'] e p) Q:=λh=>
   Ex.zN (I.E _ _ _ _ _ _ h _ (λv z1 n1 h=>I.E _ _ _ _ _ _ h _ (λx z2 n2 h=>O.kb _ _ _ _ _ h λz3 h1 h2=>h2 _ _ _ λn'=>q _ _ _ n' h1) n1) n) hs
  exact dE h (λ_ h=>he h) λ_ h=>gen h
 |Subscript o i p'=>exact dE h (λ_ h=>he h) λ_ h=>Ex.ui (I.E _ _ _ _ _ _ h _ (λv z1 n1 h=>I.E _ _ _ _ _ _ h _ (λx z2 n2 h=>I.E _ _ _ _ _ _ h _ (λy z3 n3 h=>O.kS _ _ _ _ _ h λz4 h1 h2=>h2 _ _ _ λn'=>q _ _ _ n' h1) n2) n1) n) hs
 |Tuple ts k' p'=>
  refine dE h (λhk h=>?_) λ_ h=>he h
  refine lU (TO V hk) λx args p1 p2 i5=>?_;subst i5
  refine bE h λns h1 h=>dE h (λhc h=>?_) λ_ h=>he h
  rw[afi]at hc;exact Ex.Pw h1 (λx hx=>(cQ (afn.mp hc.2 x hx)).at_) (I.E _ _ _ _ _ _ h _ (λv z1 n1 h=>bE h λxs h2 h=>cE h λhl h=>⟨xs,kT h2,afB hl,q _ _ _ _ h⟩) n) hs (λL=>rfl) (Bu hc.1)
 |_=>exact he h
theorem Un(V:ji e kd)(h:Hl D u d f m e kd z k=some r)(ht:∀m z,k .next m z=D.gk z){Q:Fl->Lo->AH->Prop}(q:∀fl m' z' n',k fl m' z'=some r->Q fl m' (D.hz z' n'))(n:Nat):aQ (D.o+d) f m (D.hz z n) e λv H'=>Q .next m H':=by
 have tl:∀c xs z1 n1,D.tail d c xs z1=some r->aU (D.o+d) (D.fv c) xs (D.hz z1 n1) λv H'=>Q .next m H':=λc xs z1 n1 h=>O.tail _ _ _ _ h _ (λy z2 n2 h=>q _ _ _ _ ((ht _ _).trans h)) n1
 induction kd with
 |hH x args=>obtain⟨hp,p,p',rfl⟩:=V;exact Hv O I h hp tl n
 |mn o a args=>refine cG V λap p hx V=>?_;subst V;exact Hw (fc:=λc xs z=>D.tail d c xs z) O I h hx tl n
 |_=>exact I.E _ _ _ _ _ _ h _ (λv z1 n1 h=>q _ _ _ _ h) n
theorem Uo(h:Hm D u d f m s z tf k=some r)(ht:tf=true->∀m z,k .next m z=D.gk z)(Q:Fl->Lo->AH->Prop)(q:∀fl m' z' n',k fl m' z'=some r->Q fl m' (D.hz z' n'))(n:Nat):dh (D.o+d) f m (D.hz z n) s Q:=by
 induction s using Stmt.casesOn with
 |Expr e p=>exact cE h λhc h=>by rw[afi]at hc;exact Ex.so (dE h (λqD h=>Un O I (jj _) h (ht qD) q n) λ_ h=>I.E _ _ _ _ _ _ h _ (λv z1 n1 h=>q _ _ _ _ h) n) (Bu hc.2) hc.1
 |Assign ts e p=>
  cases ts with
  |nil=>exact af h
  |cons t ts=>
   induction ts with
   |cons=>exact af h
   |nil=>
    have he:D.st d f m (.Assign [t] e p) z k=some r->dh (D.o+d) f m (D.hz z n) (.Assign [t] e p) Q:=λh=>O.st _ _ _ _ _ _ h _ q n
    exact dE h (λhc h=>Um O I (jj _) h n hc he q) λ_ h=>he h
 |AugAssign t op e p=>
  induction t using Expr.casesOn with
  |Name x p'=>exact cE h λhc h=>bE h λv h2 h=>Ex.OE (.of h2) (cQ hc) (I.E _ _ _ _ _ _ h _ (λy z1 n1 h=>bE h λw h3 h=>TX h3 (q _ _ _ _ h)) n)
  |_=>exact af h
 |If t a b p=>exact Ex.ite (I.T _ _ _ _ _ _ h _ (λc z1 n1 h=>iE h (λhc h=>by subst hc;exact I.L _ _ _ _ _ _ _ h ht _ q n1) λhc h=>by subst hc;exact I.L _ _ _ _ _ _ _ h ht _ q n1) n)
 |Return r' p=>
  induction r' with
  |some e=>exact Ex.ret (I.E _ _ _ _ _ _ h _ (λv z1 n1 h=>q _ _ _ _ h) n)
  |none=>exact Ex.OD (q _ _ _ _ h)
 |_=>exact O.st _ _ _ _ _ _ h _ q n
omit I in
theorem kU (n:Nat):Hr D r (ms D n):=by
 induction n with
 |zero=>exact⟨λ_ _ _ _ _ _ h=>af h,λ_ _ _ _ _ _ h=>af h,λ_ _ _ _ _ _ h=>af h,λ_ _ _ _ _ _ _ h=>af h,λ_ _ _ _ _ _ _ h=>af h⟩
 |succ n I=>exact⟨λ_ _ _ _ _ _ h=>Uh O I h,λ_ _ _ _ _ _ h=>Ui I h,λ_ _ _ _ _ _ h=>Uk O I h,λ_ _ _ _ _ _ _ h=>Ul I h,λ_ _ _ _ _ _ _ h=>Uo O I h⟩
end
def du(G:AH)(dp:Nat)(p:b6):Prop:=
 ∀b t b' n Q,p b t=some b'->(∀n,Q .none (hp b' G n))->aU dp (.ref 864) [.ae .bC,bT t] (hp b G n) Q
section
variable{d:Nat}{f:aP}{m:Lo}{b:B}{G:AH}{n:Nat}
def Hx(b:B)(G:AH)(n:Nat):AH:=((hp b G n).add (.bN (b.pk+1)) (.list [])).set .cD (.dict (fR (fg b) (S "pending") (.ae (.bN (b.pk+1)))))
theorem F.pending(SA:gJ bZ (S "pending"))(q:Q .none (Hx b G n)):br d (λov v=>do setAttr ov (S "pending") v;pure .none) (.ae .bC) (.ae (.bN (b.pk+1))) ((hp b G n).add (.bN (b.pk+1)) (.list [])) Q:=
 Op.setAttr SA (es:=fg b) ((AH.bQ _ _ (by intro e;cases e)).trans rfl) ((AH.bQ _ _ (by intro e;cases e)).trans rfl) (by show 21<=1000;decide) q
theorem Up(ho:o=none\/o=some b.pending):(Hx b G n).Le (hp {b with pending:=[],pk:=b.pk+1,old:=o} G n):=by
 refine .put (by intro e;cases e) (λv e=>?_) (λv e=>?_) (λx h1 h2 v e=>?_) (λx e=>?_) λe=>agz _ e
 ·exact(if_pos rfl).symm.trans e
 ·exact(afp (λz=>some (b8.dict z)) (by kernel_rfl:fR (fg b) (S "pending") (.ae (.bN (b.pk+1)))=fg {b with pending:=[],pk:=b.pk+1,old:=o})).trans e
 ·induction x with
  |bN k=>
   have q:k≠b.pk+1:=λq=>h1 (q▸rfl)
   replace e:=(if_neg q).symm.trans e
   rcases ho with rfl|rfl
   ·exact af e
   ·by_cases q2:k+1=b.pk+1
    ·exact(if_pos (agI q2)).trans ((if_pos q2).symm.trans e)
    ·exact af ((if_neg q2).symm.trans e)
  |cD=>exact(h2 rfl).elim
  |_=>exact e
 ·induction x with
  |bN k=>exact afR e
  |_=>exact e
end
def Keeps(b b':B):Prop:=b'.pk=b.pk/\b'.old=b.old
theorem Keeps.refl:Keeps b b:=⟨rfl,rfl⟩
theorem Keeps.trans(h:Keeps a b)(k:Keeps b c):Keeps a c:=⟨k.1.trans h.1,k.2.trans h.2⟩
theorem Uq(h:kD b x=some b'):Keeps b b':=xe h λ_ h=>by apply sE h;exact .refl
theorem Hy(h:kF b i p j k=some b'):Keeps b b':=by
 refine fb (RA h) λ_ _ _ hh=>ah hh λx _ By=>?_;subst By
 exact .refl
theorem Ur(h:iK b i j k=some b'):Keeps b b':=by
 unfold iK at h;split at h
 ·exact af h
 refine bE h λ_ _ h=>?_
 refine bE h λ_ _ h=>?_
 split at h
 ·exact af h
 refine bE h λ_ _ h=>?_
 split at h
 ·exact af h
 split at h
 ·split at h
  ·split at h
   ·exact af h
   ·exact Hy h
  ·exact af h
 ·exact Hy h
theorem Hz(h:qh b i x j=some b'):Keeps b b':=by
 refine bE h λr h1 h=>?_
 refine bE h1 λy h2 h3=>?_
 obtain rfl:=ack h3;exact(Uq h2).trans (Ur h)
theorem HA(h:ja b x=some b'):Keeps b b':=by
 refine bE h λ_ _ h=>?_
 refine bE h λ_ _ h=>?_
 split at h
 ·exact af h
 refine bE h λ_ _ h=>?_
 refine bE h λ_ _ h=>?_
 split at h
 ·refine bE h λ_ _ h=>?_
  split at h
  ·split at h
   ·apply sE h;exact .refl
   ·exact af h
  ·exact Hz h
 ·exact Hz h
theorem Us(h:ni b (ip x)=some b'):Keeps b b':=by
 refine bE h λb1 h1 h=>?_
 refine bE h λb2 h2 h=>?_
 apply sE h;have k1:Keeps b b1:=xe h1 λ_ h=>by apply sE h;exact .refl
 have h3:ja {b1 with dC:=true} x=some b2:=by
  unfold lA at h2;rw[if_pos (by rfl)]at h2
  exact h2
 have k2:=HA h3;exact⟨k2.1.trans k1.1,k2.2.trans k1.2⟩
theorem HB(h1:b.pk=k+1)(h2:b.old=some xs):(hp b G n).get (.bN k)=some (.list (xs.map g8)):=by
 show(if k=b.pk then _ else _)=_;rw[if_neg (by lia),h2]
 show(if k+1=b.pk then _ else _)=_;rw[if_pos h1.symm]
theorem HC{xs:List α}{i:Nat}(h:(xs.map f)[i]?=some y):∃x,xs[i]?=some x/\y=f x:=by
 rw[afG]at h;refine ah (afX.mp h) λx h1 h2=>?_
 exact⟨x,h1,h2.symm⟩
theorem Ut{xs:List α}(h:xs[i]?=some x):(xs.take (i+1)).all f=((xs.take i).all f&&f x):=by
 rw[List.take_add_one,h,List.all_append];simp
theorem Uu{x y:Str}(h:¬(x !=y)=true):x=y:=by simpa using h
theorem HD:(hp b G n).get (.bN b.pk)=some (.list (b.pending.map g8)):=by
 show(if b.pk=b.pk then _ else _)=_;rw[if_pos rfl]
def HE:List (Str×Addr×Nat):=[(S "is_space",28,10),(S "is_table_part",56,14),(S "is_math_point",63,15),(S "is_html_point",70,16),(S "implied_names",77,17),(S "foster_place",84,18),(S "place_for",92,19),(S "insert_sign",99,20),(S "make",115,22),(S "insert_element",124,23),(S "insert_token",131,24),(S "insert_void",138,25),(S "associate",145,26),(S "OpenStack",246,27),(S "stops_scope",257,28),(S "in_scope",265,29),(S "pop_implied",273,30),(S "mode_of",280,31),(S "mode_for",294,33),(S "reset_mode",301,34),(S "is_space_token",315,36),(S "pop_to_table",322,37),(S "pop_to_body",329,38),(S "pop_to_row",336,39),(S "outside_table",343,40),(S "close_table",350,41),(S "open_part",357,42),(S "table_in_table",364,43),(S "start_in_table",385,46),(S "end_in_table",392,47),(S "sign_in_table",399,48),(S "in_table",406,49),(S "flush_pending",413,50),(S "in_table_text",420,51),(S "table_rules",427,52),(S "unexpected",434,53),(S "is_table_child",441,54),(S "has_in_table",448,55),(S "pop_marked",455,56),(S "close_caption",462,57),(S "in_caption",469,58),(S "leave_columns",476,59),(S "tag_in_columns",483,60),(S "in_column_group",490,61),(S "close_body",497,62),(S "start_in_body",504,63),(S "end_in_body",511,64),(S "in_table_body",518,65),(S "close_row",525,66),(S "start_in_row",532,67),(S "end_in_row",539,68),(S "in_row",546,69),(S "close_cell",553,70),(S "end_in_cell",560,71),(S "in_cell",567,72),(S "row_rules",574,73),(S "Formatting",686,76),(S "Tree",810,78),(S "above",821,79),(S "Builder",888,80),(S "is_html_turn",899,81),(S "ready",907,82),(S "_law_token",914,83),(S "_law_body",921,84),(S "_law_plain",926,85),(S "_law_is_blank",933,86),(S "_law_mode",940,87),(S "_law_split",945,88),(S "_law_holds",952,89),(S "_law_names",957,90),(S "_law_put",964,91),(S "_law_grow",971,92),(S "_law_leave",978,93),(S "_law_settle",983,94),(S "_law_sign",990,95),(S "_law_part",995,96),(S "_law_other",1002,97),(S "_law_tag",1009,98)]
def HF:List ((Addr×Str)×Addr):=[((ff,S "push"),166),((ff,S "pop"),173),((ff,S "current"),180),((ff,S "many"),187),((ff,S "name"),222),((ff,S "pop_until"),236),((ff,S "pop_to"),243),((iJ,S "mark"),634),((iJ,S "clear_to_mark"),641),((cN,S "add"),720),((cN,S "element"),729),((cN,S "text"),736),((cN,S "insert"),758),((cN,S "append"),765),((cN,S "remove"),772),((cN,S "place"),786),((cN,S "last"),793),((cN,S "is_html"),807),((bZ,S "error"),843),((bZ,S "to"),850),((bZ,S "use"),857),((bZ,S "process"),864),((bZ,S "feed"),871),((bZ,S "adjusted"),878),((bZ,S "is_foreign"),885)]
def HG:List (Addr×Str):=[(ff,S "tree"),(ff,S "items"),(iJ,S "tree"),(iJ,S "items"),(cN,S "kinds"),(cN,S "spaces"),(cN,S "names"),(cN,S "attrs"),(cN,S "texts"),(cN,S "parents"),(cN,S "children"),(cN,S "contents"),(bZ,S "rules"),(bZ,S "tree"),(bZ,S "stack"),(bZ,S "formatting"),(bZ,S "mode"),(bZ,S "original"),(bZ,S "modes"),(bZ,S "head"),(bZ,S "form"),(bZ,S "is_foster"),(bZ,S "context"),(bZ,S "errors"),(bZ,S "pending"),(bZ,S "is_skipping"),(bZ,S "is_acknowledged"),(bZ,S "is_done")]
noncomputable def xR:List ((Addr×Str)×Addr)->Addr->Str->Option Addr
 |[],_,_=>none
 |e::r,D,y=>cond (Nat.beq e.1.1 D&&e.1.2==y) (some e.2) (xR r D y)
noncomputable def xS:List (Addr×Str)->Addr->Str->Bool
 |[],_,_=>false
 |e::r,D,y=>(Nat.beq e.1 D&&e.2==y)||xS r D y
noncomputable def sJ {α:Type}:List (Addr×α)->Addr->Option α
 |[],_=>none
 |e::r,c=>cond (Nat.beq e.1 c) (some e.2) (sJ r c)
theorem BA{α:Type}{p:Addr->α->Prop}:∀{l:List (Addr×α)},(∀e,e∈l->p e.1 e.2)->∀a x,sJ l a=some x->p a x:=λ{l}=>by
 induction l with
 |nil=>intro _ a x h;exact af h
 |cons e r ih=>
  intro ha a x h
  replace h:cond (Nat.beq e.1 a) (some e.2) (sJ r a)=some x:=h
  cases q:Nat.beq e.1 a with
  |true=>rw[q]at h;apply sE h;rw[<-afB q];exact ha e (.head _)
  |false=>rw[q]at h;exact ih (λe he=>ha e (.tail _ he)) a x h
theorem aD{α:Type}{p:α->Prop}{x:α}{l:List α}(h:p x)(t:∀e,e∈l->p e):∀e,e∈x::l->p e:=λe he=>by
 cases he with
 |head=>exact h
 |tail _ he=>exact t e he
theorem cw{α:Type}{p:α->Prop}:∀e,e∈([]:List α)->p e:=λe he=>nomatch he
noncomputable def BC (g:Addr):Value->Bool
 |.ref a=>Nat.beq a g
 |_=>false
theorem HH{g:Addr}{v:Value}(h:BC g v=true):v=.ref g:=by
 induction v<;>first|exact afp Value.ref (afB h)|cases h
def BD(e:Str×Addr×Nat):Bool:=cv (((gl)[e.2.2]?).bind AD) (λq=>q.1==e.1&&BC e.2.1 q.2) false&&keepIn kX (.ref e.2.1)
theorem Uv:HE.all (BD)=true:=by kernel_rfl
def Uw(g:Addr)(o:Option (Option Value)):Bool:=cv (o.bind id) (BC g) false
def BE(e:(Addr×Str)×Addr):Bool:=plainGet kX e.1.1 e.1.2&&(Uw e.2 (findIn kX (.ref e.1.1) e.1.2)&&(isFn kX (.ref e.2)&&keepIn kX (.ref e.2)))
theorem Ux:HF.all (BE)=true:=by kernel_rfl
def BF(e:Addr×Str):Bool:=plainGet kX e.1 e.2&&(hasDictIn kX e.1&&cv (findIn kX (.ref e.1) e.2) (λo=>o.isNone) false)
theorem HI:HG.all (BF)=true:=by kernel_rfl
theorem u9{α:Type}{o:Option α}{s:α->Bool}(h:cv o s false=true):∃a,o=some a/\s a=true:=oE h (λa e h=>⟨a,e,h⟩) λh=>nomatch h
theorem Uy:∀{l:List (Str×Addr×Nat)},l.all (BD)=true->∀x q,l.lookup x=some q->FnAt x (.ref q.1):=λ{l}=>by
 induction l with
 |nil=>intro _ x q h;exact af h
 |cons e r ih=>
  intro ha x q h;rw[List.all_cons,afi]at ha;rw[afx]at h;cases c:x==e.1 with
  |false=>rw[c]at h;exact ih ha.2 x q h
  |true=>
   rw[c]at h;apply sE h;have h1:=ha.1;unfold BD at h1;rw[afi]at h1;obtain⟨⟨y,v⟩,e1,e2⟩:=u9 h1.1;rw[afi]at e2;refine⟨gv e.2.2 ?_,h1.2⟩;rw[e1,afr.mp c,<-afr.mp e2.1,<-HH e2.2]
theorem Uz:∀{l:List ((Addr×Str)×Addr)},l.all (BE)=true->∀C x g,xR l C x=some g->MethAt C x g:=λ{l}=>by
 induction l with
 |nil=>intro _ C x g h;exact af h
 |cons e r ih=>
  intro ha C x g h;rw[List.all_cons,afi]at ha
  replace h:cond (Nat.beq e.1.1 C&&e.1.2==x) (some e.2) (xR r C x)=some g:=h
  cases q:(Nat.beq e.1.1 C&&e.1.2==x)with
  |false=>rw[q]at h;exact ih ha.2 C x g h
  |true=>
   rw[q]at h;apply sE h;rw[afi]at q;rw[<-afB q.1,<-afr.mp q.2];have h1:=ha.1;unfold BE at h1;rw[afi,afi,afi]at h1;refine⟨h1.1,?_,h1.2.2.1,h1.2.2.2⟩;refine ah (u9 h1.2.1) λv e1 e2=>?_
   refine bE e1 λo e3 e4=>?_
   rw[e3,show o=some v from e4,HH e2]
theorem HJ:∀{l:List (Addr×Str)},l.all (BF)=true->∀C x,xS l C x=true->fy C x:=λ{l}=>by
 induction l with
 |nil=>intro _ C x h;cases h
 |cons e r ih=>
  intro ha C x h;rw[List.all_cons,afi]at ha
  replace h:((Nat.beq e.1 C&&e.2==x)||xS r C x)=true:=h
  rw[Bool.or_eq_true]at h;rcases h with q|h
  ·rw[afi]at q;rw[<-afB q.1,<-afr.mp q.2];have h1:=ha.1;unfold BF at h1;rw[afi,afi]at h1;refine ah (u9 h1.2.2) λo e1 e2=>?_
   refine⟨h1.1,h1.2.1,e1.trans ?_⟩;rw[Option.isNone_iff_eq_none.mp e2]
  ·exact ih ha.2 C x h
structure aX where
 cq:aP
 names:List Str
 dx:List U
 body:List Stmt
def aY(st:Stmt)(q:String)(a ca:Addr)(names:List Str)(dx:List U):aX:=⟨.fn (S q) (fC st) a (.ref ca) [],names,dx,cO st⟩
def ao(a:Addr)(fi:aX):Prop:=∀(d:Nat) (xs:List U) (X:AH) (Q:U->AH->Prop),Nat.beq (xs.length+fi.dx.length) fi.names.length=true->
 bG d fi.cq (fi.names.zip (xs++fi.dx)).reverse X fi.body (λfl _ H'=>∃bg,AH.Le H' bg/\Q fl.val bg)->aU (d+1) (.ref a) xs X Q
def ko(a:Addr):Option Obj:=kX.lookup a
def sL(o:Option Obj)(g:FuncData->Value):Value:=cv o (λo=>match o.data with
 |.func fd=>g fd
 |_=>.none) .none
def fnX(fa ca:Addr)(st:Stmt)(q:String):Option Obj:=some (H.fn st q (sL (ko fa) (·.defaults)) (sL (ko fa) (·.pyModule)) (.ref ca))
def qI(o:Option Obj):List Value:=cv o (λo=>match o.data with
 |.fields vs=>vs.toList
 |_=>[]) []
noncomputable def xU:List Value->Str->Bool
 |_::.str x _::_,y=>x==y
 |_,_=>false
theorem HL{l:List Value}{y:Str}(h:xU l y=true):∃a tk rs,l=a::.str y tk::rs:=by
 unfold xU at h;split at h
 ·rw[afr.mp h];exact⟨_,_,_,rfl⟩
 ·exact nomatch h
abbrev xV(st:Stmt)(q:String)(fa ca:Addr)(names:List Str)(dv:List Value)(S:Setting)(vs:List Value):Prop:=
 peek kX S (bindArgs (H.k8 st q 3 (sL (ko fa) (·.defaults)) (sL (ko fa) (·.pyModule)) (.ref ca)) ⟨vs,[]⟩)=some (names.zip (vs++dv))
abbrev UA(st:Stmt)(q:String)(fa ca:Addr)(names:List Str)(dx:List U)(dv:List Value):Prop:=
 ∀(S:Setting) (vs:List Value),vs.length=names.length-dx.length->xV st q fa ca names dv S vs
abbrev vc(st:Stmt)(q:String)(ca:Addr)(names:List Str):Prop:=(xU (qI (ko ca)) (S q)&&(nk st&&(oz (fC st)&&names.all λx=>(fC st).names.lookup x==some .local)))=true
theorem ao.of{st:Stmt}{q:String}{fa ca:Addr}{dx:List U}{dv:List Value}{names:List Str}
  (ho:ko fa=fnX fa ca st q)
  (hbind:UA st q fa ca names dx dv)
  (iI:∀(X:AH) (h:Heap) (ρ:aC),bj ρ X h->aZ h ρ dx dv)
  (hc:ko ca=some (H.co (qI (ko ca))))
  (hb:vc st q ca names):ao fa (aY st q fa ca names dx):=by
 intro d xs X Q hl h;unfold vc at hb;rw[afi,afi,afi]at hb;refine kq (HL hb.1) λa tk rs e=>?_
 have hl:=afB hl;refine Call.fn (dx:=dx) (dv:=dv) (names:=names) (names.zip (xs++dx)).reverse (ho:=ho) (hc:=hc) (hv:=(List.toList_toArray).trans e) (hi:=hb.2.1) (hbind:=λS vs e=>hbind S vs ?_) (iI:=λh ρ R=>iI _ h ρ R) (eb:=rfl) (es:=rfl) (hloc:=λx hx=>?_) (ie:=rfl) (h:=h) (hs:=hb.2.2.1)
 ·exact e▸Nat.eq_sub_of_add_eq hl
 ·have:=afn.mp hb.2.2.2 x hx;exact .of (by simpa using this)
theorem ao.o1{st:Stmt}{q:String}{fa ca:Addr}{a:Str}(ho:ko fa=fnX fa ca st q:=by with_unfolding_all exact rfl)(hd:∀(S:Setting) (x:Value),xV st q fa ca [a] [] S [x]:=by intros;rfl)(hc:ko ca=some (H.co (qI (ko ca))):=by with_unfolding_all exact rfl)(hb:vc st q ca [a]:=by with_unfolding_all exact rfl):ao fa (aY st q fa ca [a] []):=ao.of ho (λS=>all1 (hd S)) (λ_ _ _ _=>.nil) hc hb
theorem ao.o2{st:Stmt}{q:String}{fa ca:Addr}{a b:Str}(ho:ko fa=fnX fa ca st q:=by with_unfolding_all exact rfl)(hd:∀(S:Setting) (x y:Value),xV st q fa ca [a,b] [] S [x,y]:=by intros;rfl)(hc:ko ca=some (H.co (qI (ko ca))):=by with_unfolding_all exact rfl)(hb:vc st q ca [a,b]:=by with_unfolding_all exact rfl):ao fa (aY st q fa ca [a,b] []):=ao.of ho (λS=>all2 (hd S)) (λ_ _ _ _=>.nil) hc hb
theorem ao.o3{st:Stmt}{q:String}{fa ca:Addr}{a b c:Str}(ho:ko fa=fnX fa ca st q:=by with_unfolding_all exact rfl)(hd:∀(S:Setting) (x y z:Value),xV st q fa ca [a,b,c] [] S [x,y,z]:=by intros;rfl)(hc:ko ca=some (H.co (qI (ko ca))):=by with_unfolding_all exact rfl)(hb:vc st q ca [a,b,c]:=by with_unfolding_all exact rfl):ao fa (aY st q fa ca [a,b,c] []):=ao.of ho (λS=>r6 (hd S)) (λ_ _ _ _=>.nil) hc hb
noncomputable def un:List U->Option (U×List U)
 |x::r=>some (x,r)
 |[]=>none
noncomputable def fV:List U->Bool
 |[]=>true
 |_::_=>false
theorem lL{l:List U}{p:U×List U}(h:un l=some p):l=p.1::p.2:=by
 induction l with
 |nil=>exact af h
 |cons x l=>exact sE (X:=λp:U×List U=>x::l=p.1::p.2) h rfl
theorem HM{l:List U}(h:fV l=true):l=[]:=by induction l<;>cases h;rfl
noncomputable def dP:U->Nat
 |.ae .bC=>1
 |.ae .stack=>2
 |.ae .ft=>3
 |.ae .tree=>4
 |.ae .state=>5
 |.ae .eG=>6
 |.ae .dY=>7
 |.ae .eR=>8
 |.ae .names=>9
 |.ae .eg=>10
 |.ae .dJ=>11
 |.ae .eF=>12
 |.ae .attrs=>13
 |.ae .items=>14
 |.ae .iC=>15
 |.ae .aH=>16
 |.ae .lW=>17
 |.ae .hZ=>18
 |_=>0
noncomputable def aV:Nat->U
 |1=>.ae .bC
 |2=>.ae .stack
 |3=>.ae .ft
 |4=>.ae .tree
 |5=>.ae .state
 |6=>.ae .eG
 |7=>.ae .dY
 |8=>.ae .eR
 |9=>.ae .names
 |10=>.ae .eg
 |11=>.ae .dJ
 |12=>.ae .eF
 |13=>.ae .attrs
 |14=>.ae .items
 |15=>.ae .iC
 |16=>.ae .aH
 |17=>.ae .lW
 |18=>.ae .hZ
 |_=>.none
theorem eX{x:U}{i:Nat}(h:Nat.beq (dP x) (i+1)=true):x=aV (i+1):=by
 have h:=afB h;rw[<-h];cases x with
 |ae l=>induction l<;>first|rfl|cases h
 |_=>cases h
def HN(x:U):Option aN:=(iO x).bind λl=>(un l).bind λp=>(dN p.1).bind λk=>(un p.2).bind λq=>(dN q.1).bind λn=>some ⟨k,n,q.2⟩
theorem UB{x:U}{t:aN}(h:HN x=some t):x=bT t:=
 bE h λl h1 h=>bE h λp h2 h=>bE h λk h3 h=>bE h λq h4 h=>bE h λn h5 h=>sE (X:=λt=>x=bT t) h (by rw[kT h1,lL h2,ed h3,lL h4,ed h5])
noncomputable def HO (x:U):Option (List Str):=(iO x).bind qr
noncomputable abbrev iP (ss:List Str):U:=.aG (ss.map .str)
theorem UC{x:U}{t:List Str}(h:HO x=some t):x=iP t:=bE h λl h1 h=>by rw[kT h1,xf h]
structure Ps(α:Type) where
 p:List U->Option α
 enc:α->List U
 ok:∀xs a,p xs=some a->xs=enc a
def aj:Ps Unit:=⟨λxs=>cond (fV xs) (some ()) none,λ_=>[],λxs a h=>cE h λh _=>HM h⟩
def nI{α β:Type}(g:U->Option α)(e:α->U)(he:∀x a,g x=some a->x=e a)(r:Ps β):Ps (α×β):=
 ⟨λxs=>(un xs).bind λp=>(g p.1).bind λa=>(r.p p.2).bind λb=>some (a,b),λq=>e q.1::r.enc q.2,λxs a h=>bE h λp h1 h=>bE h λx h2 h=>bE h λy h3 h=>sE (X:=λa:α×β=>xs=e a.1::r.enc a.2) h (by rw[lL h1,he _ _ h2,r.ok _ _ h3])⟩
abbrev bA{β:Type}(r:Ps β):Ps (Str×β):=nI dN .str (λ_ _=>ed) r
abbrev HP{β:Type}(r:Ps β):Ps (Bool×β):=nI kc .bool (λ_ _=>iw) r
abbrev cX{β:Type}(r:Ps β):Ps (Int×β):=nI eW .int (λ_ _=>dO) r
abbrev bt{β:Type}(r:Ps β):Ps (aN×β):=nI HN bT (λ_ _=>UB) r
abbrev ke{β:Type}(r:Ps β):Ps (List U×β):=nI iO .aG (λ_ _=>kT) r
abbrev kW{β:Type}(r:Ps β):Ps (List Str×β):=nI HO iP (λ_ _=>UC) r
section
variable{Z ρ:Type}{D:Dm Z ρ}{r:ρ}
structure cg(Z ρ:Type) where
 call:Nat->List U->Z->(U->Z->Option ρ)->Option ρ
 tail:Nat->List U->Z->Option ρ
structure Lf(Z:Type)(α:Type) where
 β:Type
 m:α->Z->Option β
 v:β->U
 z:Z->β->Z
 t:Option (α->Z->Option Z)
 ht:∀g,t=some g->∀a z0 r,g a z0=some r->∃b,m a z0=some b/\z z0 b=r
def BG{α:Type}(i dd:Nat)(P:Ps α)(d:Nat)(xs:List U)(g:α->Option ρ):Option ρ:=cond (Nat.ble dd d) ((un xs).bind λp=>cond (Nat.beq (dP p.1) (i+1)) ((P.p p.2).bind g) none) none
theorem HQ{α:Type}{i dd d:Nat}{P:Ps α}{xs:List U}{g:α->Option ρ}{X:List U->Prop}(e:BG i dd P d xs g=some r)(h:dd<=d->∀a,g a=some r->X (aV (i+1)::P.enc a)):X xs:=
 cE e λhd e=>bE e λp e1 e=>cE e λhl e=>bE e λa e2 e=>by rw[lL e1,eX hl,P.ok _ _ e2];exact h (afo hd) a e
structure Tl(Z ρ:Type) where
 c:Option (Option Z->Option ρ)
 gk:Z->Option ρ
 ok:∀g,c=some g->∀o r,g o=some r->∃z,o=some z/\gk z=some r
noncomputable def aW {Z:Type}:Tl Z Z:=⟨some id,some,λg e o r h=>by obtain rfl:=ack e;exact⟨r,h,rfl⟩⟩
noncomputable def au {Z ρ:Type}:Tl Z ρ:=⟨none,λ_=>none,λg e=>nomatch e⟩
def aS{α:Type}(c:Tl Z ρ)(i dd:Nat)(P:Ps α)(F:Lf Z α):cg Z ρ:=⟨λd xs z k=>BG i dd P d xs λa=>(F.m a z).bind λb=>k (F.v b) (F.z z b),
 λd xs z=>BG i dd P d xs λa=>cv c.c (λg=>cv F.t (λt=>g (t a z)) ((F.m a z).bind λb=>c.gk (F.z z b))) ((F.m a z).bind λb=>c.gk (F.z z b))⟩
structure cJ(D:Dm Z ρ)(r:ρ)(a:Addr)(F:cg Z ρ):Prop where
 call:∀d xs z k,F.call d xs z k=some r->∀Q:U->AH->Prop,(∀y z' n',k y z'=some r->Q y (D.hz z' n'))->∀n,aU (D.o+d) (.ref a) xs (D.hz z n) Q
 tail:∀d xs z,F.tail d xs z=some r->∀Q:U->AH->Prop,(∀y z' n',D.gk z'=some r->Q y (D.hz z' n'))->∀n,aU (D.o+d) (.ref a) xs (D.hz z n) Q
def bk(hz:Z->Nat->AH)(dd:Nat)(g:Addr){α:Type}(args:α->List U)(F:Lf Z α):Prop:=
 ∀a z b,F.m a z=some b->∀Q:U->AH->Prop,(∀n',Q (F.v b) (hz (F.z z b) n'))->∀n,aU dd (.ref g) (args a) (hz z n) Q
noncomputable def BH {α:Type}(dd:Nat)(P:Ps α)(d:Nat)(xs:List U)(g:α->Option ρ):Option ρ:=cond (Nat.ble dd d) ((P.p xs).bind g) none
theorem HR{α:Type}{dd d:Nat}{P:Ps α}{xs:List U}{g:α->Option ρ}{X:List U->Prop}(e:BH dd P d xs g=some r)(h:dd<=d->∀a,g a=some r->X (P.enc a)):X xs:=
 cE e λhd e=>bE e λa e2 e=>by rw[P.ok _ _ e2];exact h (afo hd) a e
noncomputable def mu {α:Type}(c:Tl Z ρ)(dd:Nat)(P:Ps α)(F:Lf Z α):cg Z ρ:=⟨λd xs z k=>BH dd P d xs λa=>(F.m a z).bind λb=>k (F.v b) (F.z z b),λd xs z=>BH dd P d xs λa=>(F.m a z).bind λb=>c.gk (F.z z b)⟩
theorem nJ{α:Type}{c:Tl Z ρ}{dd:Nat}{P:Ps α}{F:Lf Z α}{g:Addr}(h:bk D.hz dd g P.enc F)(hc:D.gk=c.gk):cJ D r g (mu c dd P F) where
 call d xs z k e Q q n:=HR (X:=λxs=>aU (D.o+d) (.ref g) xs (D.hz z n) Q) e λhd a e=>bE e λb e3 e=>Call.gb (ads hd (af7 ..)) (h _ _ _ e3 Q (λn'=>q _ _ n' e) n)
 tail d xs z e Q q n:=HR (X:=λxs=>aU (D.o+d) (.ref g) xs (D.hz z n) Q) e λhd a e=>bE e λb e3 e=>Call.gb (ads hd (af7 ..)) (h _ _ _ e3 Q (λn'=>q _ _ n' (by exact hc▸e)) n)
theorem eQ{α:Type}{c:Tl Z ρ}{i dd o:Nat}{P:Ps α}{F:Lf Z α}{g:Addr}(h:bk D.hz (o+dd) g (λa=>aV (i+1)::P.enc a) F)(ho:o<=D.o)(hc:D.gk=c.gk):cJ D r g (aS c i dd P F) where
 call d xs z k e Q q n:=HQ (X:=λxs=>aU (D.o+d) (.ref g) xs (D.hz z n) Q) e λhd a e=>bE e λb e3 e=>Call.gb (agu ho hd) (h _ _ _ e3 Q (λn'=>q _ _ n' e) n)
 tail d xs z e Q q n:=HQ (X:=λxs=>aU (D.o+d) (.ref g) xs (D.hz z n) Q) e λhd a e=>by
  rw[hc]at q;have gen:(F.m a z).bind (λb=>c.gk (F.z z b))=some r->aU (D.o+d) (.ref g) (aV (i+1)::P.enc a) (D.hz z n) Q:=λe=>bE e λb e3 e=>Call.gb (agu ho hd) (h _ _ _ e3 Q (λn'=>q _ _ n' e) n)
  exact oE e (λg' e1 e=>oE e (λt e2 e=>ah (c.ok _ e1 _ _ e) λz' e3 e4=>ah (F.ht _ e2 _ _ _ e3) λb e5 e6=>Call.gb (agu ho hd) (h _ _ _ e5 Q (λn'=>q _ _ n' (e6▸e4)) n)) gen) gen
theorem bo{α:Type}{c:Tl Z ρ}{i dd:Nat}{P:Ps α}{F:Lf Z α}{g:Addr}(h:bk D.hz dd g (λa=>aV (i+1)::P.enc a) F)(hc:D.gk=c.gk):cJ D r g (aS c i dd P F):=
 eQ (o:=0) (by rw[Nat.zero_add];exact h) (afw _) hc
def xW(tb:List (Addr×cg Z ρ))(bm:Str->List U->Z->(U->Z->Option ρ)->Option ρ)(d:Nat)(c:Fc)(xs:List U)(z:Z)(k:U->Z->Option ρ):Option ρ:=match c with
 |.f a=>(sJ tb a).bind λF=>F.call d xs z k
 |.m x=>bm x xs z k
def BI(tb:List (Addr×cg Z ρ))(bm:Str->List U->Z->(U->Z->Option ρ)->Option ρ)(gk:Z->Option ρ)(d:Nat)(c:Fc)(xs:List U)(z:Z):Option ρ:=match c with
 |.f a=>(sJ tb a).bind λF=>F.tail d xs z
 |.m x=>bm x xs z λ_ z=>gk z
def xY(hz:Z->Nat->AH)(bi:Str->Value)(r:ρ)(bm:Str->List U->Z->(U->Z->Option ρ)->Option ρ):Prop:=
 ∀x xs z k,bm x xs z k=some r->∀{P:Prop},(∀y z',k y z'=some r->(∀d n (Q:U->AH->Prop),(∀n',Q y (hz z' n'))->aU d (bi x) xs (hz z n) Q)->P)->P
theorem BJ{tb:List (Addr×cg Z ρ)}{bm:Str->List U->Z->(U->Z->Option ρ)->Option ρ}(hb:xY D.hz D.bi r bm)(h:∀e,e∈tb->cJ D r e.1 e.2){d:Nat}{c:Fc}{xs:List U}{z:Z}{k:U->Z->Option ρ}(e:xW tb bm d c xs z k=some r)(Q:U->AH->Prop)(q:∀y z' n',k y z'=some r->Q y (D.hz z' n'))(n:Nat):aU (D.o+d) (D.fv c) xs (D.hz z n) Q:=by
 induction c with
 |f a=>exact bE e λF e2 e=>(BA (p:=cJ D r) h _ _ e2).call _ _ _ _ e Q q n
 |m x=>exact hb _ _ _ _ e λy z' e1 e2=>e2 _ _ _ λn'=>q _ _ n' e1
theorem HS{tb:List (Addr×cg Z ρ)}{bm:Str->List U->Z->(U->Z->Option ρ)->Option ρ}(hb:xY D.hz D.bi r bm)(h:∀e,e∈tb->cJ D r e.1 e.2){d:Nat}{c:Fc}{xs:List U}{z:Z}(e:BI tb bm D.gk d c xs z=some r)(Q:U->AH->Prop)(q:∀y z' n',D.gk z'=some r->Q y (D.hz z' n'))(n:Nat):aU (D.o+d) (D.fv c) xs (D.hz z n) Q:=by
 induction c with
 |f a=>exact bE e λF e2 e=>(BA (p:=cJ D r) h _ _ e2).tail _ _ _ e Q q n
 |m x=>exact hb _ _ _ _ e λy z' e1 e2=>e2 _ _ _ λn'=>q _ _ n' e1
theorem run(O:iz D r){g:Addr}{fi:aX}(F:ao g fi){d:Nat}{xs:List U}{z:Z}{tf:Bool}{fin:Fl->Lo->Z->Option ρ}(ht:tf=true->∀m z,fin .next m z=D.gk z)(h:(ms D 60).L d fi.cq (fi.names.zip (xs++fi.dx)).reverse fi.body z tf fin=some r)
  {Q:U->AH->Prop}(q:∀fl m z' n',fin fl m z'=some r->Q fl.val (D.hz z' n'))(n:Nat)(hl:Nat.beq (xs.length+fi.dx.length) fi.names.length=true):aU (D.o+d+1) (.ref g) xs (D.hz z n) Q:=
 F _ _ _ _ hl ((kU O 60).L _ _ _ _ _ _ _ h ht _ (λfl m z' n' h=>⟨_,.refl _,q _ _ _ n' h⟩) n)
noncomputable def HT:U->Bool
 |.none=>true
 |_=>false
theorem BK{x:U}(h:HT x=true):x=.none:=by rcases x with _|_<;>cases h;rfl
noncomputable def HU (fl:Fl)(_:Lo)(z:Z):Option (U×Z):=some (fl.val,z)
noncomputable def jk (fl:Fl)(_:Lo)(z:Z):Option Z:=cond (HT fl.val) (some z) none
noncomputable def lM (fl:Fl)(_:Lo)(z:Z):Option (Bool×Z):=(kc fl.val).bind λc=>some (c,z)
end
section
variable{Z:Type}
noncomputable def cj {α:Type}(m:α->Z->Option Z):Lf Z α:=⟨Z,m,λ_=>.none,λ_ z=>z,some m,λg e a z r h=>by obtain rfl:=ack e;exact⟨r,h,rfl⟩⟩
noncomputable def sM {α:Type}(m:α->Z->Option (Bool×Z)):Lf Z α:=⟨Bool×Z,m,λr=>.bool r.1,λ_ r=>r.2,none,λg e=>nomatch e⟩
noncomputable def kf {α:Type}(m:α->Z->Option (Int×Z)):Lf Z α:=⟨Int×Z,m,λr=>.int r.1,λ_ r=>r.2,none,λg e=>nomatch e⟩
noncomputable def eY {α β:Type}(v:β->U)(m:α->Z->Option β):Lf Z α:=⟨β,m,v,λz _=>z,none,λg e=>nomatch e⟩
theorem runN{D:Dm Z Z}{α:Type}{args:α->List U}{m:α->Z->Option Z}(O:∀r,iz D r){g:Addr}{fi:aX}(F:ao g fi){d:Nat}(h:∀a z,(ms D 60).L d fi.cq (fi.names.zip (args a++fi.dx)).reverse fi.body z true jk=m a z:=by intros;kernel_rfl)(hg:D.gk=some:=by with_unfolding_all exact rfl)
  (hl:∀a,Nat.beq ((args a).length+fi.dx.length) fi.names.length=true:=by intros;kernel_rfl):bk D.hz (D.o+d+1) g args (cj m):=λa z b e Q q n=>run (O b) F (tf:=true) (λ_ _ _=>by rw[hg];rfl) ((h a z).trans e) (λfl m' z' n' e'=>cE e' λe1 e2=>by rw[BK e1];exact sE (X:=λb=>(∀n',Q .none (D.hz b n'))->Q .none (D.hz z' n')) e2 (λq=>q n') q) n (hl a)
theorem nK{D:Dm Z (Bool×Z)}{α:Type}{args:α->List U}{m:α->Z->Option (Bool×Z)}(O:∀r,iz D r){g:Addr}{fi:aX}(F:ao g fi){d:Nat}(h:∀a z,(ms D 60).L d fi.cq (fi.names.zip (args a++fi.dx)).reverse fi.body z false lM=m a z:=by intros;kernel_rfl)
  (hl:∀a,Nat.beq ((args a).length+fi.dx.length) fi.names.length=true:=by intros;kernel_rfl):bk D.hz (D.o+d+1) g args (sM m):=λa z b e Q q n=>run (O b) F (tf:=false) (λe=>nomatch e) ((h a z).trans e) (λfl m' z' n' e'=>bE e' λc e1 e2=>by rw[iw e1];exact sE (X:=λb:Bool×Z=>(∀n',Q (.bool b.1) (D.hz b.2 n'))->Q (.bool c) (D.hz z' n')) e2 (λq=>q n') q) n (hl a)
theorem iQ{D:Dm Z (U×Z)}{α:Type}{args:α->List U}{F:Lf Z α}(O:∀r,iz D r){g:Addr}{fi:aX}(F':ao g fi){d:Nat}(h:∀a z b,F.m a z=some b->(ms D 60).L d fi.cq (fi.names.zip (args a++fi.dx)).reverse fi.body z false HU=some (F.v b,F.z z b))
  (hl:∀a,Nat.beq ((args a).length+fi.dx.length) fi.names.length=true:=by intros;kernel_rfl):bk D.hz (D.o+d+1) g args F:=λa z b e Q q n=>run (O _) F' (tf:=false) (λe=>nomatch e) (h a z b e) (λfl m' z' n' e'=>sE (X:=λp:U×Z=>(∀n',Q p.1 (D.hz p.2 n'))->Q fl.val (D.hz z' n')) e' (λq=>q n') q) n (hl a)
end
noncomputable def BM:U->Option Nat
 |.ae (.bV i)=>some i
 |_=>none
theorem HV(h:BM x=some i):x=.ae (.bV i):=by
 cases x with
 |ae l=>
  induction l with
  |bV j=>exact afp (λj=>U.ae (.bV j)) (ack h)
  |_=>exact af h
 |_=>exact af h
noncomputable def xZ:U->Option Nat
 |.ae (.bN i)=>some i
 |_=>none
theorem UD(h:xZ x=some i):x=.ae (.bN i):=by
 cases x with
 |ae l=>
  induction l with
  |bN j=>exact afp (λj=>U.ae (.bN j)) (ack h)
  |_=>exact af h
 |_=>exact af h
theorem UE(h:(bt aj).p [v]=some t)(c:(t.1.kind==S "char"&&t.1.rest.isEmpty)=true):v=g8 t.1.name:=by
 rw[afi]at c;have e2:v=bT t.1:=(List.cons.inj (Ps.ok _ _ _ h)).1;rw[e2,show bT t.1=.aG (.str t.1.kind::.str t.1.name::t.1.rest)from rfl,afr.mp c.1,List.isEmpty_iff.mp c.2];rfl
def kY(x:U)(z:B)(K:List Int->(List Int->B)->Option ρ):Option ρ:=
 cv (BM x) (λi=>(z.aa[i]?).bind λy=>K y.kids λxs=>z.b5 i {y with kids:=xs})
  (cond (Nat.beq (dP x) 14) (K z.stack λxs=>{z with stack:=xs}) (cond (Nat.beq (dP x) 15) (K z.marks λxs=>{z with marks:=xs}) none))
structure jl(G:AH)(z:B)(l:Loc)(xs:List Int)(put:List Int->B):Prop where
 get:∀n,(hp z G n).get l=some (.list (cF xs))
 set:∀n ys,(hp z G n).set l (.list (cF ys))=hp (put ys) G n
theorem nL{K:List Int->(List Int->B)->Option ρ}{P:Prop}(h:kY x z K=some r)(g:∀l xs put,x=.ae l->jl G z l xs put->K xs put=some r->P):P:=
 oE h (λi e h=>bE h λy e2 h=>g (.bV i) _ _ (HV e) ⟨λn=>by show(z.aa[i]?).map _=_;rw[e2];rfl,λn ys=>An (x:={y with kids:=ys}) e2 (by show((z.aa.set i _)[i]?).map _=_;rw[agi,if_pos rfl,if_pos (afk.mp e2).1];rfl) (λ_=>rfl) (λ_=>rfl) (λ_=>rfl) (λ_=>rfl) (λ_=>rfl) (λ_=>rfl) (λh=>absurd rfl h)⟩ h)
  λh=>dE h (λe h=>g .items _ _ (eX e) ⟨λ_=>rfl,λ_ _=>PK⟩ h) λ_ h=>cE h λe h=>g .iC _ _ (eX e) ⟨λ_=>rfl,λ_ _=>PL⟩ h
theorem cu{ρ:Type}{r:ρ}[Decidable c]{A:Option ρ}{P:Prop}(h:(if c then A else none)=some r)(g:c->A=some r->P):P:=xe h g
section
variable{d:Nat}{G:AH}{z:B}{l:Loc}{xs:List Int}{put:List Int->B}(A:jl G z l xs put){n:Nat}{Q:U->AH->Prop}
include A
omit A in
theorem jl.ok (h:ay xs.length=true):(cF xs).length<=1000000:=by rw[oG];have:=d9 h;exact ads ‹_› (by decide)
theorem jl.append(h:ay xs.length=true)(q:Q .none (hp (put (xs++[k])) G n)):aU d (.builtin "list.append") [.ae l,.int k] (hp z G n) Q:=
 Call.append (A.get n) (jl.ok h) (by rw[show cF xs++[U.int k]=cF (xs++[k]) by rw[Ap];rfl,A.set];exact q)
theorem jl.i7(h:fS xs=some (k,ys))(q:Q (.int k) (hp (put ys) G n)):aU d (.builtin "list.pop") [.ae l] (hp z G n) Q:=by
 refine aO (Al h) λe le=>?_
 exact Call.i7 (xs:=cF ys) (x:=.int k) ((A.get n).trans (by rw[e,Ap];rfl)) (oG▸le) (by rw[A.set];exact q)
theorem jl.ue{k i:Int}(h:ay xs.length=true)(hi:0<=i/\i<=xs.length)(q:Q .none (hp (put (xs.take i.toNat++k::xs.drop i.toNat)) G n)):aU d (.builtin "list.insert") [.ae l,.int i,.int k] (hp z G n) Q:=by
 obtain⟨a,rfl⟩:∃a:Nat,i=a:=⟨i.toNat,by lia⟩
 rw[afv]at q;refine Call.ue (i:=a) (A.get n) (jl.ok h) (by rw[oG];lia) ?_
 rw[show(cF xs).take a++U.int k::(cF xs).drop a=cF (xs.take a++k::xs.drop a) by unfold cF;simp,A.set]
 exact q
theorem jl.index(h:ay xs.length=true)(hk:ar xs k=true)(q:Q (.int (xs.idxOf k:Nat)) (hp z G n)):aU d (.builtin "list.index") [.ae l,.int k] (hp z G n) Q:=
 Call.index (A.get n) (by have:=d9 h;exact ads ‹_› (by decide)) (by refine ah (ag7.mp hk) λy a e=>?_;rw[<-afr.mp e];exact a) q
theorem jl.len(h:ay xs.length=true)(q:Q (.int xs.length) (hp z G n)):aU d (.builtin "len") [.ae l] (hp z G n) Q:=L.len (A.get n) h q
theorem jl.item(h:b9 xs i=some k)(q:Q (.int k) (hp z G n)):(∃T,d0 (hp z G n) (.ae l) T/\gI T)/\br d getItem (.ae l) (.int i) (hp z G n) Q:=⟨jE (A.get n),Op.lz (.list (A.get n)) (jD h) q⟩
theorem jl.last(h:xs.getLast?=some k)(q:Q (.int k) (hp z G n)):(∃T,d0 (hp z G n) (.ae l) T/\gI T)/\br d getItem (.ae l) (.int (-1)) (hp z G n) Q:=by
 refine aF (agh.mp h) λys e=>?_
 refine⟨jE (A.get n),Op.z5 (xs:=cF ys) (.list ?_) q⟩;rw[A.get,e];unfold cF;rw[afz];rfl
theorem jl.cY(h:xJ op (ar xs k)=some v)(q:Q v (hp z G n)):br d (compareOp op) (.int k) (.ae l) (hp z G n) Q:=by
 induction op with
 |In=>exact Op.Fd (.list (A.get n)) (ack h▸q)
 |NotIn=>exact Op.Po (.list (A.get n)) (ack h▸q)
 |_=>exact af h
theorem jl.UG{Q:Bool->AH->Prop}(h:ay xs.length=true)(q:Q (!xs.isEmpty) (hp z G n)):lX d (.ae l) (hp z G n) Q:=
 Tr.list (A.get n) (jl.ok h) (by rw[show(cF xs).isEmpty=xs.isEmpty by induction xs<;>rfl];exact q)
end
noncomputable def BN:Nat->Option (Nd->Int->U)
 |7=>some λx _=>.str x.kind
 |8=>some λx _=>.str x.dT
 |9=>some λx _=>.str x.name
 |10=>some λx _=>.str x.text
 |11=>some λx _=>.int x.bq
 |12=>some λ_ i=>.ae (.bV i.toNat)
 |_=>none
theorem UH(h:BN (dP x)=some g)(e:nd b i=some y)(q:Q (g y i) (hp b G n)):(∃T,d0 (hp b G n) x T/\gI T)/\br d getItem x (.int i) (hp b G n) Q:=by
 have hx:dP x≠0->x=aV (dP x):=λh=>by
  refine aF (Nat.exists_eq_succ_of_ne_zero h) λj e=>?_
  exact e▸eX (by exact e▸agl _)
 generalize dP x=k at h hx;unfold BN at h;split at h
 ·rw[hx (by decide)];obtain rfl:=ack h;exact⟨jE rfl,R.dY e q⟩
 ·rw[hx (by decide)];obtain rfl:=ack h;exact⟨jE rfl,R.eR e q⟩
 ·rw[hx (by decide)];obtain rfl:=ack h;exact⟨jE rfl,R.names e q⟩
 ·rw[hx (by decide)];obtain rfl:=ack h;exact⟨jE rfl,R.eg e q⟩
 ·rw[hx (by decide)];obtain rfl:=ack h;exact⟨jE rfl,R.dJ e q⟩
 ·rw[hx (by decide)];obtain rfl:=ack h;exact⟨jE rfl,R.eF e q⟩
 ·exact af h
theorem BO(h:un l=some p)(g:fV p.2=true):l=[p.1]:=by rw[lL h,HM g]
def BP(x:Str)(xs:List U)(z:B)(k:U->B->Option ρ):Option ρ:=
 (un xs).bind λp=>
  cond (x==S "len") (cond (fV p.2) (kY p.1 z λxs put=>if ay xs.length then k (.int xs.length) z else none) none)<|
  cond (x==S "pop") (cond (fV p.2) (kY p.1 z λxs put=>(fS xs).bind λr=>k (.int r.1) (put r.2)) none)<|
  (un p.2).bind λp2=>
   cond (x==S "append") (cond (fV p2.2) (cond (Nat.beq (dP p.1) 16) ((iO p2.1).bind λt=>(un t).bind λt1=>(un t1.2).bind λt2=>cond (fV t2.2) ((dN t1.1).bind λa=>(dN t2.1).bind λm=>if ay z.aH.length then k .none {z with aH:=z.aH++[(a,m)]}else none) none)
    (cv (xZ p.1) (λj=>cond (Nat.beq j z.pk) (((bt aj).p [p2.1]).bind λt=>if ay z.pending.length then cond (t.1.kind==S "char"&&t.1.rest.isEmpty) (k .none {z with pending:=z.pending++[t.1.name]}) none else none) none)
     ((eW p2.1).bind λv=>kY p.1 z λxs put=>if ay xs.length then k .none (put (xs++[v]))else none))) none)<|
   cond (x==S "index") (cond (fV p2.2) ((eW p2.1).bind λv=>kY p.1 z λxs put=>if ay xs.length=true/\ar xs v=true then k (.int (xs.idxOf v:Nat)) z else none) none)<|
   cond (x==S "insert") ((un p2.2).bind λp3=>cond (fV p3.2) ((eW p2.1).bind λi=>(eW p3.1).bind λv=>kY p.1 z λxs put=>if ay xs.length=true/\0<=i/\i<=(xs.length:Int)then k .none (put (xs.take i.toNat++v::xs.drop i.toNat))else none) none) none
def UI:List (Str×Value):=[(S "len",.builtin "len"),(S "range",.type "range"),(S "list",.type "list"),(S "str",.type "str"),(S "isinstance",.builtin "isinstance"),(S "append",.builtin "list.append"),(S "pop",.builtin "list.pop"),(S "insert",.builtin "list.insert"),(S "index",.builtin "list.index")]
def eZ(x:Str):Value:=cv (UI.lookup x) id .none
theorem BQ:eZ (S "len")=.builtin "len":=rfl
theorem oZ:eZ (S "append")=.builtin "list.append":=rfl
theorem BR:eZ (S "pop")=.builtin "list.pop":=rfl
theorem ya:eZ (S "insert")=.builtin "list.insert":=rfl
theorem BS:eZ (S "index")=.builtin "list.index":=rfl
theorem UJ(hs:ay z.aH.length=true)(q:Q .none (hp {z with aH:=z.aH++[(x,m)]} G n)):aU d (.builtin "list.append") [.ae .aH,.aG [.str x,.str m]] (hp z G n) Q:=by
 refine Call.append (xs:=bJ z.aH) rfl (by unfold bJ;rw[afj];have:=d9 hs;exact ads ‹_› (by decide)) ?_
 rw[show bJ z.aH++[U.aG [.str x,.str m]]=bJ (z.aH++[(x,m)]) by unfold bJ;rw[afz];rfl,PM];exact q
theorem gQ(e:v=v')(e2:xs=xs')(h:aU d v' xs' H Q):aU d v xs H Q:=by subst e e2;exact h
theorem sN(e:op=UK)(ex:x=x')(ey:y=y')(h:br d (compareOp UK) x' y' H Q):br d (compareOp op) x y H Q:=by subst e ex ey;exact h
theorem lN(ex:x=x')(ey:y=y')(h:u7 d x' y' H Q):u7 d x y H Q:=by subst ex ey;exact h
theorem gR(h:(x==y)=true)(hb:eZ y=v):eZ x=v:=afr.mp h▸hb
theorem sO(h:un l=some p)(g:fV p.2=true)(e:p.1=a):l=[a]:=by rw[BO h g,e]
theorem kg(h:un l=some p)(h2:un p.2=some p2)(g:fV p2.2=true)(e:p.1=a)(e2:p2.1=b):l=[a,b]:=by rw[lL h,sO h2 g e2,e]
theorem BU(h:un l=some p)(h2:un p.2=some p2)(h3:un p2.2=some p3)(g:fV p3.2=true)(e:p.1=a)(e2:p2.1=b)(e3:p3.1=c):l=[a,b,c]:=by rw[lL h,kg h2 h3 g e2 e3,e]
theorem HW(h0:iO x=some t)(h:un t=some p)(h2:un p.2=some p2)(g:fV p2.2=true)(e:dN p.1=some a)(e2:dN p2.1=some b):x=.aG [.str a,.str b]:=by rw[kT h0,kg h h2 g (ed e) (ed e2)]
theorem HX(h:xZ x=some j)(e:Nat.beq j k=true):x=.ae (.bN k):=by rw[UD h,afB e]
theorem HY{ρ:Type}{r:ρ}:xY (λb n=>hp b G n) eZ r BP:=λx xs z k h P g=>
 bE h λp e1 h=>dE h (λe h=>cE h λe2 h=>nL (G:=G) h λl xs put el A h=>cu h λho h=>g _ _ h λd n Q q=>gQ (gR e BQ) (sO e1 e2 el) (A.len ho (q n))) λ_ h=>
 dE h (λe h=>cE h λe2 h=>nL (G:=G) h λl xs put el A h=>bE h λr e3 h=>g _ _ h λd n Q q=>gQ (gR e BR) (sO e1 e2 el) (A.i7 e3 (q n))) λ_ h=>bE h λp2 e2 h=>
 dE h (λe h=>cE h λe3 h=>dE h (λel h=>bE h λt f1 h=>bE h λt1 f2 h=>bE h λt2 f3 h=>cE h λf4 h=>bE h λa f5 h=>bE h λm f6 h=>cu h λho h=>g _ _ h λd n Q q=>gQ (gR e oZ) (kg e1 e2 e3 (eX el) (HW f1 f2 f3 f4 f5 f6)) (UJ ho (q n)))
  λ_ h=>oE h (λj ej h=>cE h λek h=>bE h λt f1 h=>cu h λho h=>cE h λf2 h=>g _ _ h λd n Q q=>gQ (gR e oZ) (kg e1 e2 e3 (HX ej ek) (UE f1 f2)) (L.PQ ho (q n)))
   λh=>bE h λv f1 h=>nL (G:=G) h λl xs put el A h=>cu h λho h=>g _ _ h λd n Q q=>gQ (gR e oZ) (kg e1 e2 e3 el (dO f1)) (A.append ho (q n))) λ_ h=>
 dE h (λe h=>cE h λe3 h=>bE h λv f1 h=>nL (G:=G) h λl xs put el A h=>cu h λho h=>g _ _ h λd n Q q=>gQ (gR e BS) (kg e1 e2 e3 el (dO f1)) (A.index ho.1 ho.2 (q n))) λ_ h=>
 cE h λe h=>bE h λp3 e3 h=>cE h λe4 h=>bE h λi f1 h=>bE h λv f2 h=>nL (G:=G) h λl xs put el A h=>cu h λho h=>g _ _ h λd n Q q=>gQ (gR e ya) (BU e1 e2 e3 e4 el (dO f1) (dO f2)) (A.ue ho.1 ho.2 (q n))
def yb(b:B):Nat->Option (Addr×List (Str×U))
 |1=>some (bZ,fg b)
 |2=>some (ff,ng)
 |3=>some (iJ,qe)
 |4=>some (cN,eI)
 |_=>none
theorem UL(h:dP x=k+1):x=aV (k+1):=eX (by exact h▸agl _)
theorem BV(h:yb b (dP x)=some q):f7 (hp b G n) x q.1 q.2:=by
 have hx:∀k,dP x=k+1->x=aV (k+1):=λk h=>UL h
 generalize dP x=k at h hx;unfold yb at h;split at h
 ·rw[hx 0 rfl];exact sE (X:=λq:Addr×List (Str×U)=>f7 (hp b G n) (aV 1) q.1 q.2) h Fj
 ·rw[hx 1 rfl];exact sE (X:=λq:Addr×List (Str×U)=>f7 (hp b G n) (aV 2) q.1 q.2) h Fo
 ·rw[hx 2 rfl];exact sE (X:=λq:Addr×List (Str×U)=>f7 (hp b G n) (aV 3) q.1 q.2) h PE
 ·rw[hx 3 rfl];exact sE (X:=λq:Addr×List (Str×U)=>f7 (hp b G n) (aV 4) q.1 q.2) h Fn
 ·exact af h
noncomputable def HZ:U->Bool
 |.val v=>handedIn v
 |_=>true
theorem H3(h:HZ u=true):u.plain:=by
 rcases u with _|_<;>first|exact afL|exact h
def yc:List Str:=[S "append",S "pop",S "insert",S "index"]
def BW(x:U)(z:B)(a:Str)(k:Fc->Option ρ):Option ρ:=cv (yb z (dP x)) (λq=>cond (q.2.lookup a).isNone ((xR HF q.1 a).bind λg=>k (.f g)) none)
 (cond (ar yc a) (cv (BM x) (λi=>(z.aa[i]?).bind λ_=>k (.m a)) (cv (xZ x) (λj=>cond (Nat.beq j z.pk) (k (.m a)) none) (cond (Nat.beq (dP x) 14||(Nat.beq (dP x) 15||Nat.beq (dP x) 16)) (k (.m a)) none))) none)
def H4(x:U)(z:B)(a:Str):Option U:=(yb z (dP x)).bind λq=>cond (xS HG q.1 a) ((q.2.lookup a).bind λv=>cond (HZ v) (some v) none) none
def BX:List Str:=[S "len",S "range",S "list",S "str",S "isinstance"]
def gB(x:Str):Option Fc:=cv (HE.lookup x) (λq=>some (.f q.1)) (cond (ar BX x) (some (.m x)) none)
def H5(a:Str)(x v:U)(z:B)(k:B->Option ρ):Option ρ:=cond (Nat.beq (dP x) 1)
 (cond (a==S "is_foster") ((kc v).bind λc=>k {z with dC:=c}) (cond (a==S "is_acknowledged") ((kc v).bind λc=>k {z with dD:=c})
  (cond (a==S "head") ((eW v).bind λc=>k {z with head:=c}) ((dN v).bind λc=>cond (a==S "original") (k {z with original:=c}) (cond (a==S "mode") (k {z with mode:=c}) none))))) none
noncomputable def H6:CmpOp->Bool
 |.NotIn=>true
 |_=>false
theorem UM(h:H6 op=true):op=.NotIn:=by induction op<;>first|rfl|cases h
noncomputable def isIn:CmpOp->Bool
 |.In=>true
 |_=>false
theorem H7(h:isIn op=true):op=.In:=by induction op<;>first|rfl|cases h
def UN(op:CmpOp)(x y:U)(z:B)(k:U->Option ρ):Option ρ:=cond (H6 op&&Nat.beq (dP y) 6) ((dN x).bind λa=>k (.bool (!(kC.lookup a).isSome)))
 ((eW x).bind λa=>cond (isIn op&&Nat.beq (dP y) 17) (k (.bool false)) (kY y z λxs put=>(xJ op (ar xs a)).bind k))
def H8(x y:U)(z:B)(k:U->Option ρ):Option ρ:=cv (BN (dP x)) (λg=>(eW y).bind λi=>(nd z i).bind λn=>k (g n i))
 (cond (Nat.beq (dP x) 6) ((dN y).bind λa=>(kC.lookup a).bind k) ((eW y).bind λi=>kY x z λxs put=>(b9 xs i).bind λv=>k (.int v)))
def UO(x:U)(z:B)(k:U->Option ρ):Option ρ:=kY x z λxs put=>(xs.getLast?).bind λv=>k (.int v)
def UP(x:U)(z:B)(k:Bool->Option ρ):Option ρ:=kY x z λxs put=>if ay xs.length then k (!xs.isEmpty)else none
def UQ(x y v:U)(z:B)(k:B->Option ρ):Option ρ:=(eW y).bind λi=>(nd z i).bind λn=>
 cond (Nat.beq (dP x) 10) ((dN v).bind λs=>if ay z.aa.length then k (z.b5 i.toNat {n with text:=s})else none)
  (cond (Nat.beq (dP x) 11) ((eW v).bind λs=>if ay z.aa.length then k (z.b5 i.toNat {n with bq:=s})else none) none)
noncomputable def UR (op:Operator)(x y:U)(z:B)(k:U->Option ρ):Option ρ:=(dN x).bind λa=>(dN y).bind λb=>(match op with
 |.Add=>if a.length+b.length<=1000000 then k (.str (a++b))else none
 |_=>none)
noncomputable def H9:List Addr:=[469,490,518,546,567,406,420,921]
def BY(a:Addr):Bool:=H9.any (Nat.beq a)
theorem US:H9.all (λa=>keepIn kX (.ref a))=true:=by kernel_rfl
def b7:List (Addr×Nat×(List U->Option U)):=[(441,1,λxs=>((bA aj).p xs).bind λq=>some (.bool (ar jG q.1))),(28,1,λxs=>((bA aj).p xs).bind λq=>some (.bool (fj q.1))),
 (315,2,λxs=>((bt aj).p xs).bind λq=>some (.bool (q.1.kind==S "char"&&fj q.1.name))),(434,1,λxs=>((bt aj).p xs).bind λq=>some (.str (rZ q.1)))]
def BZ(tb:List (Addr×Nat×(List U->Option U)))(d:Nat)(a:Addr)(xs:List U):Option U:=(sJ tb a).bind λF=>cond (Nat.ble F.1 d) (F.2 xs) none
noncomputable def Ia:Kd->Option (Expr×Str)
 |.fP o a=>some (o,a)
 |_=>none
noncomputable def lO:Kd->Option Str
 |.name x=>some x
 |_=>none
noncomputable def yd:Kd->Bool
 |.aw []=>true
 |_=>false
theorem UT(h:Ia (vw e)=some q):∃p,e=.Attribute q.1 q.2 p:=by
 have V:=jj e;generalize vw e=k at h V
 induction k with
 |fP o a=>exact sE (X:=λq:Expr×Str=>∃p,e=.Attribute q.1 q.2 p) h V.2
 |_=>exact af h
theorem mw(h:lO (vw e)=some x):∃p,e=.Name x p:=by
 have V:=jj e;generalize vw e=k at h V
 induction k with
 |name y=>exact sE (X:=λx=>∃p,e=.Name x p) h V
 |_=>exact af h
theorem B1(h:yd (vw e)=true):∃p,e=.List [] p:=by
 have V:=jj e;generalize vw e=k at h V
 induction k with
 |aw es=>
  induction es with
  |nil=>exact V
  |cons=>cases h
 |_=>cases h
noncomputable def ye:List α->Option α
 |[x]=>some x
 |_=>none
theorem vd{α:Type}{l:List α}{x:α}(h:ye l=some x):l=[x]:=by
 cases l with
 |nil=>exact af h
 |cons y l=>
  induction l with
  |nil=>exact sE (X:=λx=>[y]=[x]) h rfl
  |cons=>exact af h
def Ib(keep:Bool)(f:aP)(m:Lo)(s:Stmt)(z:B)(k:Fl->Lo->B->Option ρ):Option ρ:=match s with
 |.Assign ts e _=>(ye ts).bind λt=>(Ia (vw t)).bind λq=>(lO (vw q.1)).bind λx=>cond (yd (vw e)&&(q.2==S "pending"&&iu f x)) ((m.lookup x).bind λv=>cond (Nat.beq (dP v) 1) (k .next m {z with pending:=[],pk:=z.pk+1,old:=cond keep (some z.pending) none}) none) none
 |_=>none
def DB(ρ:Type)(c:Tl B ρ)(G:AH)(o:Nat)(kp:Bool)(pc:List (Addr×Nat×(List U->Option U)))(tb:List (Addr×cg B ρ)):Dm B ρ:=
 {hz:=λb n=>hp b G n,o:=o,bi:=eZ,g:=gB,lc:=BY,mt:=BW,fl:=H4,pc:=BZ pc,cY:=UN,gP:=UR,item:=H8,last:=UO,kb:=H5,kS:=UQ,tr:=UP,call:=xW tb BP,tail:=BI tb BP c.gk,gk:=c.gk,ev:=λ_ _ _ _ _ _=>none,st:=λ_ f m s z k=>Ib kp f m s z k}
def DP(ρ:Type)(pc:List (Addr×Nat×(List U->Option U))):Dm AH ρ:=
 {hz:=λX _=>X,o:=0,bi:=eZ,g:=gB,lc:=BY,mt:=λ_ _ _ _=>none,fl:=λ_ _ _=>none,pc:=BZ pc,cY:=λ_ _ _ _ _=>none,gP:=λ_ _ _ _ _=>none,item:=λ_ _ _ _=>none,last:=λ_ _ _=>none,kb:=λ_ _ _ _ _=>none,kS:=λ_ _ _ _ _=>none,tr:=λ_ _ _=>none,call:=λ_ _ _ _ _=>none,tail:=λ_ _ _ _=>none,gk:=λ_=>none,ev:=λ_ _ _ _ _ _=>none,st:=λ_ _ _ _ _ _=>none}
section
variable{G:AH}
theorem yf.post(h:dh d f m H s λfl m' H'=>∃bg,AH.Le H' bg/\Q fl m' bg):dh d f m H s Q:=
 λA ρ L s Qc E room X p=>h A ρ L s Qc E room X λx v ag m' H' s' q X' S z r=>ah q λbg l q=>p x v ag m' bg s' q (X'.le l) S z r
def lP(a:Addr)(F:Nat×(List U->Option U)):Prop:=∀xs y,F.2 xs=some y->∀(X:AH) (Q:U->AH->Prop),Q y X->aU F.1 (.ref a) xs X Q
theorem UU(h:ar BX x=true):ia x (eZ x)/\Callee (eZ x):=by
 refine ah (ag7.mp h) λy hy e=>?_
 replace e:y=x:=afr.mp e
 subst e;have:∀y∈BX,ia y (eZ y)/\Callee (eZ y):=aD ⟨uD,.ll _⟩ (aD ⟨xa,.type _⟩ (aD ⟨xb,.type _⟩ (aD ⟨AE,.type _⟩ (aD ⟨QG,.ll _⟩ cw))));exact this y hy
def lQ:Fc->Value
 |.f a=>.ref a
 |.m x=>eZ x
theorem yg(h:gB x=some c):FnAt x (lQ c)\/(ia x (lQ c)/\Callee (lQ c)):=
 oE h (λq h1 h=>sE (X:=λc=>FnAt x (lQ c)\/(ia x (lQ c)/\Callee (lQ c))) h (.inl (Uy Uv _ _ h1))) λh=>cE h λhc h=>sE (X:=λc=>FnAt x (lQ c)\/(ia x (lQ c)/\Callee (lQ c))) h (.inr (UU hc))
theorem Ic(h:BY a=true):Callee (.ref a):=by
 refine ah (ag7.mp h) λc h2 h3=>?_
 rw[afB h3];exact .top (afn.mp US _ h2)
theorem Ie(ve:∀e,e∈pc->lP e.1 e.2)(h:BZ pc d a xs=some y)(q:Q y X):aU (o+d) (.ref a) xs X Q:=
 bE h λF h2 h=>cE h λhc h=>Call.gb (ads (afo hc) (af7 ..)) (BA (p:=lP) ve _ _ h2 _ _ h _ _ q)
theorem qJ(ve:∀e,e∈pc->lP e.1 e.2):iz (DP ρ pc) r where
 g x c h:=by induction c<;>exact yg h
 lc a h:=Ic h
 mt x z a k h:=af h
 fl x z a v h:=af h
 pc d a xs y h z n Q q:=Ie ve h q
 cY op x y z k h:=af h
 gP op x y z k h:=af h
 item x y z k h:=af h
 last x z k h:=af h
 kb a x v z k h:=af h
 kS x y v z k h:=af h
 tr x z k h:=af h
 call d v xs z k h:=af h
 tail d v xs z h:=af h
 ev d f m e z k h:=af h
 st d f m s z k h:=af h
theorem mx(hl:d0 H x "list")(ha:ar yc a=true):mq H x a (eZ a):=by
 refine ah (ag7.mp ha) λy hy e=>?_
 replace e:y=a:=afr.mp e
 subst e;have mk:∀id,eZ y=.builtin id->Slot "list" y id->typeOf (.builtin id)=pure (.type "method_descriptor")->mq H x y (eZ y):=λid e sl ty=>.inr ⟨_,_,e,hl,sl,PySem.F.plainAttrs_list,ty⟩
 have:∀y∈yc,(∀id,eZ y=.builtin id->Slot "list" y id->typeOf (.builtin id)=pure (.type "method_descriptor")->mq H x y (eZ y))->mq H x y (eZ y):=
  aD (λmk=>mk _ oZ agB agT) (aD (λmk=>mk _ BR PySem.F.slot_list_pop PySem.F.type_list_pop) (aD (λmk=>mk _ ya PySem.F.slot_list_insert PySem.F.type_list_insert) (aD (λmk=>mk _ BS PySem.F.slot_list_index PySem.F.type_list_index) cw)))
 exact this y hy mk
theorem Ig{P:Prop}(h:(a||b)=true)(f:a=true->P)(g:b=true->P):P:=((Bool.or_eq_true a b).mp h).elim f g
theorem B2(ex:x=x')(ey:y=y')(ev:v=v')(h:l5 d x' y' v' H Q):l5 d x y v H Q:=by subst ex ey ev;exact h
theorem vf(ea:(a==a')=true)(ex:x=x')(ev:v=v')(h:xP d a' x' v' H Q):xP d a x v H Q:=by subst ex ev;exact afr.mp ea▸h
theorem gS(h:(a&&b)=true):a=true:=((afi a b).mp h).1
theorem gw(h:(a&&b)=true):b=true:=((afi a b).mp h).2
theorem my(e:x=x')(h:mq H x' a v):mq H x a v:=by subst e;exact h
theorem Ih{r:ρ}(h:BW x z a k=some r){P:Prop}(g:∀c,k c=some r->(∀n,mq (hp z G n) x a (lQ c))->P):P:=
 oE h (λq h1 h=>cE h λhc h=>bE h λc h2 h=>g _ h λn=>.inl ⟨_,_,_,rfl,Uz Ux _ _ _ h2,BV h1,Option.isNone_iff_eq_none.mp hc⟩) λh=>cE h λe3 h=>
  oE h (λi e h=>bE h λy e2 h=>g _ h λn=>my (HV e) (mx (.list (xs:=cF y.kids) (by show(z.aa[i]?).map _=_;rw[e2];rfl)) e3)) λh=>oE h (λj e h=>cE h λe2 h=>g _ h λn=>my (HX e e2) (mx (.list (xs:=z.pending.map g8) HD) e3)) λh=>cE h λe h=>g _ h λn=>
   Ig e (λe1=>my (eX e1) (mx (.list (xs:=cF z.stack) rfl) e3)) λe=>Ig e (λe1=>my (eX e1) (mx (.list (xs:=cF z.marks) rfl) e3)) λe1=>my (eX e1) (mx (.list (xs:=bJ z.aH) rfl) e3)
theorem UW{ρ:Type}{r:ρ}{k:B->Option ρ}(h:H5 a x v z k=some r){P:Prop}(g:∀z',k z'=some r->(∀d n (Q:U->AH->Prop),(∀n',Q .none (hp z' G n'))->xP d a x v (hp z G n) Q)->P):P:=
 cE h λhc h=>dE h (λe h=>bE h λc h1 h=>g _ h λd n Q q=>vf e (eX hc) (iw h1) (F.PT QW (q n))) λ_ h=>
   dE h (λe h=>bE h λc h1 h=>g _ h λd n Q q=>vf e (eX hc) (iw h1) (F.PU QY (q n))) λ_ h=>
   dE h (λe h=>bE h λc h1 h=>g _ h λd n Q q=>vf e (eX hc) (dO h1) (F.head QV (q n))) λ_ h=>
   bE h λc h1 h=>dE h (λe h=>g _ h λd n Q q=>vf e (eX hc) (ed h1) (F.original QU (q n))) λ_ h=>
   cE h λe h=>g _ h λd n Q q=>vf e (eX hc) (ed h1) (F.mode QT (q n))
theorem UX{ρ:Type}{r:ρ}{kp:Bool}{k:Fl->Lo->B->Option ρ}(h:Ib kp f m s z k=some r)(Q:Fl->Lo->AH->Prop)(q:∀fl m' z' n',k fl m' z'=some r->Q fl m' (hp z' G n'))(n:Nat):dh d f m (hp z G n) s Q:=by
 induction s using Stmt.casesOn with
 |Assign ts e p=>
  refine bE h λt h1 h=>bE h λqa h2 h=>bE h λx h3 h=>cE h λhc h=>bE h λy h4 h=>cE h λhl h5=>?_
  rw[afi,afi]at hc;refine cps λG k=>?_
  refine aF (UT h2) λp1 e1=>?_
  refine aF (mw h3) λp2 e2=>?_
  refine aF (B1 hc.1) λp3 e3=>?_
  refine k ?_;rw[vd h1,e1,e2,e3,show qa.2=S "pending"from afr.mp hc.2.1];rw[eX hl]at h4;exact yf.post (Ex.zN (Ev.j0 (.bN (z.pk+1)) (aI.nil ⟨afw _,afY _,Ev.local (.of h4) (cQ hc.2.2) (F.pending QX ⟨_,Up (o:=cond kp (some z.pending) none) (by induction kp;exact .inl rfl;exact .inr rfl),q _ _ _ n h5⟩)⟩)) rfl)
 |_=>exact af h
theorem ba{c:Tl B ρ}{tb:List (Addr×cg B ρ)}{r:ρ}(ve:∀e,e∈pc->lP e.1 e.2)(vg:∀e,e∈tb->cJ (DB ρ c G o kp pc tb) r e.1 e.2):iz (DB ρ c G o kp pc tb) r where
 g x c h:=by induction c<;>exact yg h
 lc a h:=Ic h
 mt x z a k h P g:=Ih (G:=G) h λc h1 h2=>g c h1 λn=>by have:=h2 n;induction c<;>exact this
 fl x z a v h n:=bE h λq h1 h=>cE h λhc h=>bE h λu h2 h=>cE h λhp h=>⟨_,_,HJ HI _ _ hc,BV h1,h2.trans h,ack h▸H3 hp⟩
 pc d a xs y h z n Q q:=Ie ve h q
 cY op x y z k h P g:=dE h (λhc h=>bE h λa h1 h=>g _ h λd n Q q=>sN (UM (gS hc)) (ed h1) (eX (gw hc)) (Op.O8 rfl q)) λ_ h=>bE h λa h1 h=>
  dE h (λhc h=>g _ h λd n Q q=>sN (H7 (gS hc)) (dO h1) (eX (gw hc)) (Op.O9 rfl q)) λ_ h=>nL (G:=G) h λl xs put el A h=>bE h λv e h=>g _ h λd n Q q=>sN rfl (dO h1) el (A.cY e q)
 gP op x y z k h P g:=bE h λa h1 h=>bE h λb h2 h=>by
  induction op with
  |Add=>exact cu h λhl h=>g _ h λd n Q q=>by rw[ed h1,ed h2];exact Op.cat hl q
  |_=>exact af h
 item x y z k h P g:=oE h (λc hg h=>bE h λi h1 h=>bE h λy' h2 h=>g _ h λd n Q q=>lN rfl (dO h1) (UH hg h2 q))
  λh=>dE h (λhc h=>bE h λa h1 h=>bE h λv h2 h=>g _ h λd n Q q=>lN (eX hc) (ed h1) ⟨⟨_,.map rfl,ug⟩,Op.uh rfl h2 q⟩) λ_ h=>
   bE h λi h1 h=>nL (G:=G) h λl xs put el A h=>bE h λv h2 h=>g _ h λd n Q q=>lN el (dO h1) (A.item h2 q)
 last x z k h P g:=nL (G:=G) (show kY x z (λxs put=>(xs.getLast?).bind λv=>k (.int v))=some r from h) λl xs put el A h=>bE h λv h2 h=>g _ h λd n Q q=>lN el rfl (A.last h2 q)
 kb a x v z k h P g:=UW h g
 kS x y v z k h P g:=bE h λi h1 h=>bE h λnn h2 h=>dE h (λe h=>bE h λs h3 h=>cu h λho h=>g _ h λd n Q q=>B2 (eX e) (dO h1) (ed h3) (L.PS h2 ho (q n))) λ_ h=>
  cE h λe h=>bE h λs h3 h=>cu h λho h=>g _ h λd n Q q=>B2 (eX e) (dO h1) (dO h3) (L.PR h2 ho (q n))
 tr x z k h P g:=nL (G:=G) (show kY x z (λxs put=>if ay xs.length then k (!xs.isEmpty)else none)=some r from h) λl xs put el A h=>cu h λho h=>g _ h λd n Q q=>by exact el▸A.UG ho q
 call d c xs z k h Q q n:=BJ HY vg h Q q n
 tail d c xs z h Q q n:=HS HY vg h Q q n
 ev d f m e z k h:=af h
 st d f m s z k h Q q n:=UX h Q q n
end
theorem rF{A B:α}(h:c=false):(if c=true then A else B)=B:=by rw[h];rfl
theorem rT{A B:α}(h:c=true):(if c=true then A else B)=A:=by rw[h];rfl
theorem sP{α β:Type}{o:Option α}{f g:α->Option β}(h:∀x,f x=g x):o.bind f=o.bind g:=afp o.bind (funext h)
noncomputable def yh {Z:Type}(fl:Fl)(_:Lo)(z:Z):Option (Int×Z):=(eW fl.val).bind λc=>some (c,z)
noncomputable def Ii {Z:Type}(fl:Fl)(_:Lo)(z:Z):Option (Str×Z):=(dN fl.val).bind λc=>some (c,z)
noncomputable def bK:List (Addr×Nat×(List U->Option U)):=[]
theorem cz:∀e,e∈bK->lP e.1 e.2:=cw
noncomputable def hO (ρ:Type)(c:Tl B ρ):List (Addr×cg B ρ):=[]
section
variable{G:AH}
theorem iR{kp:Bool}:∀e,e∈hO ρ c->cJ (DB ρ c G o kp pc tb) r e.1 e.2:=cw
abbrev UY:aX:=aY (H.sub 22 1) "OpenStack.push" 166 165 [S "self",S "node"] []
theorem UZ:ao 166 UY:=ao.o2
abbrev B3:Lf B (Int×Unit):=cj λa b=>qg b a.1
abbrev U0:aX:=aY (H.sub 83 1) "Builder.error" 843 842 [S "self",S "word"] []
theorem U1:ao 843 U0:=ao.o2
abbrev yi:Lf B (Str×Unit):=cj λa b=>fh b a.1
abbrev U2:aX:=aY (H.sub 83 2) "Builder.to" 850 849 [S "self",S "mode"] []
theorem U3:ao 850 U2:=ao.o2
abbrev vh:Lf B (Str×Unit):=cj λa b=>some (b.to a.1)
abbrev U4:aX:=aY (H.sub 77 2) "Formatting.mark" 634 633 [S "self"] []
theorem U5:ao 634 U4:=ao.o1
abbrev Ij:Lf B Unit:=cj λ_ b=>ux b
theorem Ik:bk (λb n=>hp b G n) 1 166 (λa=>aV 2::Ps.enc (cX aj) a) B3:=runN (D:=DB B aW G 0 false bK (hO B aW)) (d:=0) (λ_=>ba cz iR) (UZ)
theorem B4:bk (λb n=>hp b G n) 1 843 (λa=>aV 1::Ps.enc (bA aj) a) yi:=runN (D:=DB B aW G 0 false bK (hO B aW)) (d:=0) (λ_=>ba cz iR) (U1)
theorem yj:bk (λb n=>hp b G n) 1 850 (λa=>aV 1::Ps.enc (bA aj) a) vh:=runN (D:=DB B aW G 0 false bK (hO B aW)) (d:=0) (λ_=>ba cz iR) (U3)
theorem U6:bk (λb n=>hp b G n) 1 634 (λa=>aV 3::Ps.enc aj a) Ij:=runN (D:=DB B aW G 0 false bK (hO B aW)) (d:=0) (λ_=>ba cz iR) (U5)
abbrev U7:aX:=aY (H.sub 22 2) "OpenStack.pop" 173 172 [S "self"] []
theorem U8:ao 173 U7:=ao.o1
abbrev vi:Lf B Unit:=kf λ_ b=>gu b
theorem yk:bk (λb n=>hp b G n) 1 173 (λa=>aV 2::Ps.enc aj a) vi:=λa b r h Q q n=>run (D:=DB (Int×B) au G 0 false bK (hO (Int×B) au)) (d:=0) (z:=b) (tf:=false) (ht:=λe=>nomatch e) (r:=(r.1,r.2)) (fin:=yh) (ba cz iR) U8 (h:=Eq.trans (b:=if ay b.stack.length then(if((b.stack.length:Int)==0) then some (-1,b)else(fS b.stack).bind λr=>some (r.1,{b with stack:=r.2}))else none) (by kernel_rfl) (by
 refine ah (AN h) λys h1 h2=>?_
 rw[if_pos (uF h1).1,(uF h1).2,h1,h2];rfl)) (q:=λfl m z n e=>bE e λc e1 e2=>by
 cases e2;rw[dO e1];exact q n) (n:=n) (hl:=by kernel_rfl)
abbrev U9:aX:=aY (H.sub 22 3) "OpenStack.current" 180 179 [S "self"] []
theorem Va:ao 180 U9:=ao.o1
abbrev yl:Lf B Unit:=eY .int λ_ b=>jH b
theorem B5:bk (λb n=>hp b G n) 1 180 (λa=>aV 2::Ps.enc aj a) yl:=λa b r h Q q n=>run (D:=DB (Int×B) au G 0 false bK (hO (Int×B) au)) (d:=0) (z:=b) (tf:=false) (ht:=λe=>nomatch e) (r:=(r,b)) (fin:=yh) (ba cz iR) Va (h:=Eq.trans (b:=if ay b.stack.length then(if((b.stack.length:Int)==0) then some (-1,b)else if ay b.stack.length then(b9 b.stack ((b.stack.length:Int)-1)).bind λv=>some (v,b)else none)else none) (by kernel_rfl) (by
 refine aO (ig (show jH b=some r from h)) λok h1=>?_
 refine aO (Rc h1 ok) λh2 h3=>?_
 rw[if_pos ok,h3,if_pos ok,h2];rfl)) (q:=λfl m z n e=>bE e λc e1 e2=>by
 cases e2;rw[dO e1];exact q n) (n:=n) (hl:=by kernel_rfl)
abbrev Vb:aX:=aY (H.sub 22 4) "OpenStack.many" 187 186 [S "self"] []
theorem Vc:ao 187 Vb:=ao.o1
abbrev ym:Lf B Unit:=eY .int λ_ b=>if ay b.stack.length then some (b.stack.length:Int)else none
theorem B6:bk (λb n=>hp b G n) 1 187 (λa=>aV 2::Ps.enc aj a) ym:=λa b r h Q q n=>run (D:=DB (Int×B) au G 0 false bK (hO (Int×B) au)) (d:=0) (z:=b) (tf:=false) (ht:=λe=>nomatch e) (r:=(r,b)) (fin:=yh) (ba cz iR) Vc (h:=Eq.trans (b:=if ay b.stack.length then some ((b.stack.length:Int),b)else none) (by kernel_rfl) (by
 refine aO (ig h) λok h1=>?_
 rw[if_pos ok,ack h1])) (q:=λfl m z n e=>bE e λc e1 e2=>by
 cases e2;rw[dO e1];exact q n) (n:=n) (hl:=by kernel_rfl)
def Il(ρ:Type)(c:Tl B ρ):List (Addr×cg B ρ):=(180,aS c 1 1 aj yl)::[]
theorem Vd{kp:Bool}:∀e,e∈Il ρ c->cJ (DB ρ c G o kp pc tb) r e.1 e.2:=aD (bo B5 rfl) (cw)
abbrev Ve:aX:=aY (H.sub 22 9) "OpenStack.name" 222 221 [S "self"] []
theorem Vf:ao 222 Ve:=ao.o1
abbrev yn:Lf B Unit:=eY .str λ_ b=>ij b
theorem B7:bk (λb n=>hp b G n) 2 222 (λa=>aV 2::Ps.enc aj a) yn:=λa b r h Q q n=>run (D:=DB (Str×B) au G 0 false bK (Il (Str×B) au)) (d:=1) (z:=b) (tf:=false) (ht:=λe=>nomatch e) (r:=(r,b)) (fin:=Ii) (ba cz Vd) Vf (h:=Eq.trans (b:=(jH b).bind λk=>if k==-1 then some (S "",b)else(nd b k).bind λx=>if x.dT !=S "html" then some (S "",b)else(nd b k).bind λx=>some (x.name,b)) (by kernel_rfl) (by
 refine bE h λk h1 h2=>?_
 refine bE h2 λx h3 h4=>?_
 rw[h1,<-ack h4];refine(rF (AL (kH h3))).trans ?_;rw[kH h3];exact rF (AM h3))) (q:=λfl m z n e=>bE e λc e1 e2=>by
 cases e2;rw[ed e1];exact q n) (n:=n) (hl:=by kernel_rfl)
abbrev Vg:aX:=aY (H.sub 80 13) "Tree.is_html" 807 806 [S "self",S "node",S "name"] []
theorem Vh:ao 807 Vg:=ao.o3
abbrev Im:Lf B (Int×Str×Unit):=eY .bool λa b=>(el b a.1).bind λx=>some (x.name==a.2.1)
theorem Vi:bk (λb n=>hp b G n) 1 807 (λa=>aV 4::Ps.enc (cX (bA aj)) a) Im:=λa b r h Q q n=>run (D:=DB (Bool×B) au G 0 false bK (hO (Bool×B) au)) (d:=0) (z:=b) (tf:=false) (ht:=λe=>nomatch e) (r:=(r,b)) (fin:=lM) (ba cz iR) Vh (h:=Eq.trans (b:=if a.1 !=-1 then(nd b a.1).bind λx=>if x.dT==S "html" then(nd b a.1).bind λx=>some (x.name==a.2.1,b)else some (x.dT==S "html",b)else some (a.1 !=-1,b)) (by kernel_rfl) (by
 refine bE h λx h3 h4=>?_
 rw[FV (kH h3),kH h3,<-ack h4];show(if x.dT==S "html" then _ else _)=_;rw[uG h3];rfl)) (q:=λfl m z n e=>bE e λc e1 e2=>by
 cases e2;rw[iw e1];exact q n) (n:=n) (hl:=by kernel_rfl)
end
inductive It(Z:Type)
 |go (fl:Fl)(m:Lo)(z:Z)
 |out (z:Z)
def bU(a b:Lo):Prop:=∀x v,a.lookup x=some v->b.lookup x=some v
section
variable{Z:Type}{d:Nat}{f:aP}{m mc:Lo}{H:AH}
theorem St.sub(X:St ρ H L m h)(l:bU mc m):St ρ H L mc h:=⟨X.bR,ah X.fr λm' F M=>⟨m',F,λx v e=>M x v (l x v e)⟩,X.free,X.cells⟩
theorem Ts.sub(l:bU mc m)(h:eH d f mc H e Q):eH d f m H e Q:=λA ρ L s Qc E room X p=>h A ρ L s Qc E room (X.sub l) p
theorem Ex.sub(l:bU mc m)(h:bG d f mc H ss Q):bG d f m H ss Q:=λA ρ L s Qc E room X p=>h A ρ L s Qc E room (X.sub l) p
variable{D:Dm Z (It Z)}
def jQ(D:Dm Z (It Z))(d:Nat)(f:aP)(m:Lo)(lZ:Expr)(body:List Stmt)(z:Z):Option (It Z):=
 (ms D 50).T d f m lZ z λc z=>if c then(ms D 50).L d f m body z false λfl m z=>some (.go fl m z)else some (.out z)
def TurnOk(hz:Z->Nat->AH)(I:Nat->Lo->Z->Prop)(Q:Fl->Lo->AH->Prop)(n:Nat)(m:Lo):It Z->Prop
 |.go .next m' z'=>∃k,k<n/\I k m' z'
 |.go .cont m' z'=>∃k,k<n/\I k m' z'
 |.go .brk m' z'=>∀n',Q .next m' (hz z' n')
 |.go (.ret v) m' z'=>∀n',Q (.ret v) m' (hz z' n')
 |.out z'=>∀n',Q .next m (hz z' n')
theorem Ex.wh(O:∀r,iz D r){lZ:Expr}{body:List Stmt}{pos:Pos}{Q:Fl->Lo->AH->Prop}(I:Nat->Lo->Z->Prop)
  (turn:∀n m z,I n m z->∃mc r,bU mc m/\jQ D d f mc lZ body z=some r/\TurnOk D.hz I Q n m r)(n0:Nat){z0:Z}(h:I n0 m z0)(n:Nat):dh (D.o+d) f m (D.hz z0 n) (.While lZ body [] pos) Q:=by
 refine Ex.while (λk m' H'=>∃z' n',H'=D.hz z' n'/\I k m' z') (λk m' H' i=>?_) n0 ⟨z0,n,rfl,h⟩
 refine cps λG k=>?_
 obtain⟨z',n',rfl,i⟩:=i;obtain⟨mc,r,l,e,t⟩:=turn _ _ _ i;have M:=kU (O r) 50;refine k ?_;refine Ts.sub l (M.T _ _ _ _ _ _ e _ (λc z1 n1 h=>?_) n')
 refine iE h (λhc h=>?_) λhc h=>?_
 ·subst hc;refine Ex.sub l (M.L _ _ _ _ _ _ _ h (λe=>nomatch e) _ (λfl m2 z2 n2 h=>?_) n1)
  have h:=ack h;subst h
  induction fl with
  |next=>exact ah t λk a b=>⟨k,a,z2,n2,rfl,b⟩
  |cont=>exact ah t λk a b=>⟨k,a,z2,n2,rfl,b⟩
  |brk=>exact t n2
  |ret v=>exact t n2
 ·subst hc;have h:=ack h;subst h;exact Ex.nil (t n1)
theorem Ex.step{D:Dm Z (Lo×Z)}(O:∀r,iz D r){s:Stmt}{ss:List Stmt}{z z1:Z}{m1:Lo}{Q:Fl->Lo->AH->Prop}
  (h:(ms D 50).S d f m s z false (λfl m z=>match fl with|.next=>some (m,z)|_=>none)=some (m1,z1))(k:∀n',bG (D.o+d) f m1 (D.hz z1 n') ss Q)(n:Nat):bG (D.o+d) f m (D.hz z n) (s::ss) Q:=
 Ex.cons ((kU (O _) 50).S _ _ _ _ _ _ _ h (λe=>nomatch e) _ (λfl m' z' n' e=>by
  induction fl with
  |next=>have e:=ack e;cases e;exact k n'
  |_=>exact af e) n)
theorem Ex.rest{D:Dm Z (Fl×Z)}(O:∀r,iz D r){ss:List Stmt}{z z1:Z}{sQ:Fl}{Q:Fl->Lo->AH->Prop}
  (h:(ms D 50).L d f m ss z false (λfl m z=>some (fl,z))=some (sQ,z1))(k:∀m' n',Q sQ m' (D.hz z1 n'))(n:Nat):bG (D.o+d) f m (D.hz z n) ss Q:=
 (kU (O _) 50).L _ _ _ _ _ _ _ h (λe=>nomatch e) _ (λfl m' z' n' e=>by
  have e:=ack e;cases e;exact k m' n') n
end
noncomputable def jR:Stmt->Expr
 |.While t _ _ _=>t
 |_=>.Tuple [] 0 default
noncomputable def ef:Stmt->List Stmt
 |.While _ b _ _=>b
 |.For _ _ b _ _=>b
 |_=>[]
noncomputable def Vj:Stmt->Pos
 |.While _ _ _ p=>p
 |_=>default
noncomputable def stI (l:List Stmt)(i:Nat):Stmt:=l.getD i (.Pass default)
abbrev qK(s:Stmt):Stmt:=.While (jR s) (ef s) [] (Vj s)
noncomputable def qL:List Str->Bool
 |[_]|[_,_]|[_,_,_]|[_,_,_,_,_]=>true
 |_=>false
theorem B8(h:qL l=true):(∃x,l=[x])\/(∃x y,l=[x,y])\/(∃x y z,l=[x,y,z])\/∃x y z u v,l=[x,y,z,u,v]:=by
 match l,h with
 |[x],_=>exact .inl ⟨x,rfl⟩
 |[x,y],_=>exact .inr (.inl ⟨x,y,rfl⟩)
 |[x,y,z],_=>exact .inr (.inr (.inl ⟨x,y,z,rfl⟩))
 |[x,y,z,u,v],_=>exact .inr (.inr (.inr ⟨x,y,z,u,v,rfl⟩))
theorem bU.refl(m:Lo):bU m m:=λ_ _ e=>e
theorem bU.both(h:bU a m):bU ((x,v)::a) ((x,v)::m):=λy u e=>by
 rw[afx]at e ⊢;cases q:y==x with
 |true=>rw[q]at e;exact e
 |false=>rw[q]at e;exact h y u e
theorem bU.cons(h:bU a m)(hx:a.lookup x=none):bU a ((x,v)::m):=λy u e=>by
 rw[afx];cases q:y==x with
 |true=>rw[afr.mp q,hx]at e;exact af e
 |false=>exact h y u e
theorem bU.Io:bU ((x,v)::m) ((x,v)::(x,v')::m):=λy u e=>by
 rw[afx]at e ⊢;cases q:y==x with
 |true=>rw[q]at e;exact e
 |false=>rw[q]at e;rw[afx,q];exact e
theorem bU.of(h:∀p,p∈a->m.lookup p.1=some p.2):bU a m:=λx v e=>by
 induction a with
 |nil=>exact af e
 |cons p r ih=>
  rw[afx]at e;cases q:x==p.1 with
  |true=>
   rw[q]at e;rw[afr.mp q,<-ack e];exact h p (.head _)
  |false=>rw[q]at e;exact ih (λp hp=>h p (.tail _ hp)) e
def o4(d:Nat)(f:aP)(m:Lo)(e:Expr):Option U:=(pv (DP Unit []) d f m 9).E e
theorem Ip:Bx d f m X (pv (DP Unit []) d f m 9):=by
 have:=xQ (d:=d) (f:=f) (m:=m) (qJ (r:=()) cw) X 0 9;rw[show(DP Unit []).o+d=d from Nat.zero_add d]at this;exact this
theorem aJ(h:o4 d f m e=some v)(q:Q v X):aQ d f m X e Q:=Ip.E e v h Q q
theorem vj(h:(pv (DP Unit []) d f m 9).T e=some c)(q:Q c X):eH d f m X e Q:=Ip.T e c h Q q
theorem Ex.bu(e:s=s')(h:bG d f m H (s'::ss) Q):bG d f m H (s::ss) Q:=e▸h
theorem ao.go(F:ao a fi)(hl:Nat.beq (xs.length+fi.dx.length) fi.names.length=true)(hm:(fi.names.zip (xs++fi.dx)).reverse=m)(hb:fi.body=body)(h:bG d fi.cq m X body λfl _ H'=>∃bg,AH.Le H' bg/\Q fl.val bg):aU (d+1) (.ref a) xs X Q:=by subst hm hb;exact F _ _ _ _ hl h
theorem aQ.c9(h:aQ d f m H e Q)(g:∀y H',Q y H'->Q' y H'):aQ d f m H e Q':=λA ρ L s Qc E room X p=>h A ρ L s Qc E room X λx v ag H' s' q=>p x v ag H' s' (g _ _ q)
abbrev mA:aX:=aY (H.sub 22 11) "OpenStack.pop_until" 236 235 [S "self",S "names"] []
theorem Vk:ao 236 mA:=ao.o2
abbrev nM:aX:=aY (H.sub 22 12) "OpenStack.pop_to" 243 242 [S "self",S "names"] []
theorem Vl:ao 243 nM:=ao.o2
abbrev sR:aX:=aY (H.sub 77 3) "Formatting.clear_to_mark" 641 640 [S "self"] []
theorem Vm:ao 641 sR:=ao.o1
abbrev Iq:Lf B (List Str×Unit):=kf λa b=>cond (qL a.1) (i8 a.1 b.stack.length b) none
abbrev Ir:Lf B (List Str×Unit):=cj λa b=>cond (qL a.1) (i9 a.1 b.stack.length b) none
abbrev Iu:Lf B Unit:=cj λ_ b=>rX b
def tn(ρ:Type)(c:Tl B ρ):List (Addr×cg B ρ):=(222,aS c 1 2 aj yn)::[]
section
variable{G:AH}
theorem Iv:∀e,e∈tn ρ c->cJ (DB ρ c G o kp pc tb) r e.1 e.2:=aD (bo B7 rfl) (cw)
end
abbrev jm(nm:List Str):Lo:=[(S "names",iP nm),(S "self",.ae .stack)]
theorem Vn(hn:qL nm=true)(b:B):jQ (DB (It B) au G 0 false bK (tn (It B) au)) 2 mA.cq (jm nm) (jR (stI mA.body 0)) (ef (stI mA.body 0)) b=
  if ay b.stack.length then(if decide ((0:Int)<(b.stack.length:Int)) then(ij b).bind λs=>(fS b.stack).bind λr=>if ar nm s then some (.go (.ret (.int r.1)) ((S "node",.int r.1)::(S "name",.str s)::jm nm) {b with stack:=r.2})else some (.go .next ((S "node",.int r.1)::(S "name",.str s)::jm nm) {b with stack:=r.2})else some (.out b))else none:=by
 rcases B8 hn with⟨x,rfl⟩|⟨x,y,rfl⟩|⟨x,y,z,rfl⟩|⟨x,y,z,u,v,rfl⟩<;>kernel_rfl
theorem Vo(hn:qL nm=true)(b:B):jQ (DB (It B) au G 0 false bK (tn (It B) au)) 2 nM.cq (jm nm) (jR (stI nM.body 0)) (ef (stI nM.body 0)) b=
  if ay b.stack.length then(if decide ((1:Int)<(b.stack.length:Int)) then(ij b).bind λs=>if !ar nm s then(fS b.stack).bind λr=>some (.go .next (jm nm) {b with stack:=r.2})else some (.out b)else some (.out b))else none:=by
 rcases B8 hn with⟨x,rfl⟩|⟨x,y,rfl⟩|⟨x,y,z,rfl⟩|⟨x,y,z,u,v,rfl⟩<;>kernel_rfl
theorem Vp(b:B):jQ (DB (It B) au G 0 false bK (hO (It B) au)) 0 sR.cq [(S "self",.ae .ft)] (jR (stI sR.body 0)) (ef (stI sR.body 0)) b=
  if ay b.marks.length then(if decide ((0:Int)<(b.marks.length:Int)) then(fS b.marks).bind λr=>if r.1==-1 then some (.go (.ret .none) [(S "self",.ae .ft)] {b with marks:=r.2})else some (.go .next [(S "self",.ae .ft)] {b with marks:=r.2})else some (.out b))else none:=by kernel_rfl
theorem Vq(h:ij b=some s):ay b.stack.length=true:=by
 refine bE h λk h2 _=>?_
 exact(ig h2).1
section
variable{G:AH}
theorem Vr:bk (λb n=>hp b G n) 3 236 (λa=>aV 2::Ps.enc (kW aj) a) Iq:=λa b r h Q q n=>cE h λhn h=>by
 refine Vk 2 _ _ _ rfl (show bG 2 mA.cq (jm a.1) (hp b G n) [qK (stI mA.body 0),stI mA.body 1] _ from Ex.cons ?_);refine Ex.wh (D:=DB (It B) au G 0 false bK (tn (It B) au)) (d:=2) (λ_=>ba cz Iv) (λk m z=>i8 a.1 k z=some r/\bU (jm a.1) m) (λk m z i=>?_) b.stack.length ⟨h,.refl _⟩ n
 obtain⟨h,l⟩:=i;cases k with
 |zero=>exact af h
 |succ k=>
  refine bE h λs h1 h=>bE h λr1 h2 h=>?_
  obtain⟨ys,h3,e⟩:=AN h2;have run:∀{x},(if ar a.1 s then some (It.go (.ret (.int r1.1)) ((S "node",.int r1.1)::(S "name",.str s)::jm a.1) {z with stack:=ys})else some (.go .next ((S "node",.int r1.1)::(S "name",.str s)::jm a.1) {z with stack:=ys}))=some x->jQ (DB (It B) au G 0 false bK (tn (It B) au)) 2 mA.cq (jm a.1) (jR (stI mA.body 0)) (ef (stI mA.body 0)) z=some x:=λ{x} hx=>by
   rw[Vn hn];refine(rT (uF h3).1).trans ((rT (len_pos h3)).trans ?_);rw[h1];show(fS z.stack).bind _=_;exact h3▸hx
  refine iE h (λc h=>⟨_,_,l,run (rT c),?_⟩) λc h=>⟨_,_,l,run (rF c),k,afY k,e▸h,.cons (.cons (.refl _) rfl) rfl⟩
  have h:=ack h;subst h;exact λn'=>⟨_,.refl _,e▸q n'⟩
theorem Vs:bk (λb n=>hp b G n) 3 243 (λa=>aV 2::Ps.enc (kW aj) a) Ir:=λa b r h Q q n=>cE h λhn h=>by
 refine Vl 2 _ _ _ rfl (show bG 2 nM.cq (jm a.1) (hp b G n) [qK (stI nM.body 0)] _ from Ex.cons ?_);refine Ex.wh (D:=DB (It B) au G 0 false bK (tn (It B) au)) (d:=2) (λ_=>ba cz Iv) (λk m z=>i9 a.1 k z=some r/\bU (jm a.1) m) (λk m z i=>?_) b.stack.length ⟨h,.refl _⟩ n
 obtain⟨h,l⟩:=i;cases k with
 |zero=>exact af h
 |succ k=>
  refine cu h λc0 h=>bE h λs h1 h=>?_
  have run:∀{x},(if !ar a.1 s then(fS z.stack).bind λr=>some (It.go .next (jm a.1) {z with stack:=r.2})else some (.out z))=some x->jQ (DB (It B) au G 0 false bK (tn (It B) au)) 2 nM.cq (jm a.1) (jR (stI nM.body 0)) (ef (stI nM.body 0)) z=some x:=λ{x} hx=>by
   rw[Vo hn];refine(rT (Vq h1)).trans ((rT c0).trans ?_);exact h1▸hx
  refine iE h (λc h=>bE h λr1 h2 h=>?_) λc h=>⟨_,_,l,run (rF c),?_⟩
  ·obtain⟨ys,h3,e⟩:=AN h2;exact⟨_,.go .next (jm a.1) {z with stack:=ys},l,run ((rT c).trans (by rw[h3];rfl)),k,afY k,e▸h,.refl _⟩
  ·have h:=ack h;subst h;exact λn'=>Ex.nil ⟨_,.refl _,q n'⟩
theorem Vt:bk (λb n=>hp b G n) 1 641 (λa=>aV 3::Ps.enc aj a) Iu:=λa b r h Q q n=>by
 refine Vm 0 _ _ _ rfl (show bG 0 sR.cq [(S "self",.ae .ft)] (hp b G n) [qK (stI sR.body 0)] _ from Ex.cons ?_);refine Ex.wh (D:=DB (It B) au G 0 false bK (hO (It B) au)) (d:=0) (λ_=>ba cz iR) (λk m z=>rX z=some r/\bU [(S "self",.ae .ft)] m) (λk m z i=>?_) 0 ⟨h,.refl _⟩ n
 obtain⟨h,l⟩:=i;refine bE h λr1 h1 h=>cu h λc h=>⟨_,.go (.ret .none) [(S "self",.ae .ft)] {z with marks:=r1.2},l,?_,?_⟩
 ·rw[Vp];refine(rT (uF h1).1).trans ((rT (len_pos h1)).trans ?_);rw[h1];exact rT c
 ·have h:=ack h;subst h;exact λn'=>⟨_,.refl _,q n'⟩
end
abbrev Vu:aX:=aY (H.az 10) "implied_names" 77 76 [] []
theorem Vv:ao 77 Vu:=ao.of rfl (λS=>w8 rfl) (λ_ _ _ _=>.nil) rfl rfl
abbrev Iw:Lf B Unit:=eY (λ_=>iP jF) λ_ b=>some ()
section
variable{G:AH}
theorem Vx:bk (λb n=>hp b G n) 1 77 (Ps.enc aj) Iw:=iQ (D:=DB (U×B) au G 0 false bK (hO (U×B) au)) (d:=0) (λ_=>ba cz iR) Vv (λa b r h=>Eq.trans (b:=some (iP jF,b)) rfl (by
 rfl)) (λ_=>by kernel_rfl)
def vk(ρ:Type)(c:Tl B ρ):List (Addr×cg B ρ):=(222,aS c 1 2 aj yn)::(173,aS c 1 1 aj vi)::(77,mu c 1 aj Iw)::[]
theorem Iy:∀e,e∈vk ρ c->cJ (DB ρ c G o kp pc tb) r e.1 e.2:=aD (bo B7 rfl) (aD (bo yk rfl) (aD (nJ Vx rfl) cw))
end
abbrev mB:aX:=aY (H.az 25) "pop_implied" 273 272 [S "stack",S "but"] [.str (S "")]
theorem Vy:ao 273 mB:=ao.of (dv:=[.str (Str.ofString "") 515]) rfl (λS=>all1 λx=>rfl) (λX h ρ R=>.cons (.str _ _) .nil) rfl rfl
abbrev Iz:Lf B Unit:=cj λ_ b=>uq b.stack.length b
abbrev IB:Lo:=[(S "but",.str (S "")),(S "stack",.ae .stack)]
abbrev qM:Lo:=(S "names",iP jF)::IB
theorem Vz(b:B):jQ (DB (It B) au G 0 false bK (vk (It B) au)) 2 mB.cq qM (jR (stI mB.body 1)) (ef (stI mB.body 1)) b=
  (ij b).bind λs=>if ar jF s then(ij b).bind λs=>if s !=S "" then(gu b).bind λr=>some (.go .next qM r.2)else some (.out b)else some (.out b):=by kernel_rfl
section
variable{G:AH}
theorem VA:bk (λb n=>hp b G n) 3 273 (λa=>aV 2::Ps.enc aj a) Iz:=λa b r h Q q n=>by
 refine Vy 2 _ _ _ rfl (show bG 2 mB.cq IB (hp b G n) [stI mB.body 0,qK (stI mB.body 1)] _ from Ex.step (D:=DB (Lo×B) au G 0 false bK (vk (Lo×B) au)) (d:=2) (m1:=qM) (z1:=b) (λ_=>ba cz Iy) rfl (λn=>Ex.cons ?_) n)
 refine Ex.wh (D:=DB (It B) au G 0 false bK (vk (It B) au)) (d:=2) (λ_=>ba cz Iy) (λk m z=>uq k z=some r/\bU qM m) (λk m z i=>?_) b.stack.length ⟨h,.refl _⟩ n
 obtain⟨h,l⟩:=i;cases k with
 |zero=>exact af h
 |succ k=>
  refine bE h λs h1 h=>?_
  have run:∀{x},(if ar jF s then(if s !=S "" then(gu z).bind λr=>some (It.go .next qM r.2)else some (.out z))else some (.out z))=some x->jQ (DB (It B) au G 0 false bK (vk (It B) au)) 2 mB.cq qM (jR (stI mB.body 1)) (ef (stI mB.body 1)) z=some x:=λ{x} hx=>by
   rw[Vz,h1];exact hx
  refine iE h (λc h=>?_) λc h=>⟨_,_,l,run (rF c),?_⟩
  ·exact cu h λc2 h=>bE h λr1 h2 h=>⟨_,.go .next qM r1.2,l,run ((rT c).trans ((rT c2).trans (h2▸rfl))),k,afY k,h,.refl _⟩
  ·have h:=ack h;subst h;exact λn'=>Ex.nil ⟨_,.refl _,q n'⟩
end
noncomputable def IC:Kd->Option (Str×List Expr)
 |.hH x as=>some (x,as)
 |_=>none
theorem VB(h:IC (vw e)=some q):fQ q.2=true/\∃p p',e=.Call (.Name q.1 p) q.2 [] p':=by
 have V:=jj e;generalize vw e=k at h V
 induction k with
 |hH y as=>exact sE (X:=λq:Str×List Expr=>fQ q.2=true/\∃p p',e=.Call (.Name q.1 p) q.2 [] p') h V
 |_=>exact af h
def B9:Stmt->Option (Str×(Str×List Expr)×List Stmt)
 |.For t i b o _=>cond o.isEmpty ((lO (vw t)).bind λx=>(IC (vw i)).bind λq=>some (x,q,b)) none
 |_=>none
theorem VC(h:B9 s=some q):fQ q.2.1.2=true/\∃xp rp cp pos,s=.For (.Name q.1 xp) (.Call (.Name q.2.1.1 rp) q.2.1.2 [] cp) q.2.2 [] pos:=by
 induction s using Stmt.casesOn with
 |For t i b o p=>
  refine cE h λho h=>bE h λx h1 h=>bE h λr h2 h5=>?_
  obtain⟨p1,rfl⟩:=mw h1;obtain⟨pl,p2,p3,rfl⟩:=VB h2
  induction o with
  |cons=>exact nomatch ho
  |nil=>exact sE (X:=λq:Str×(Str×List Expr)×List Stmt=>fQ q.2.1.2=true/\∃xp rp cp pos,Stmt.For (.Name x p1) (.Call (.Name r.1 p2) r.2 [] p3) b [] p=.For (.Name q.1 xp) (.Call (.Name q.2.1.1 rp) q.2.1.2 [] cp) q.2.2 [] pos) h5 ⟨pl,_,_,_,_,rfl⟩
 |_=>exact af h
def VD(s:Stmt):List Expr:=cv (B9 s) (λq=>q.2.1.2) []
section
variable{Z:Type}{d:Nat}{f:aP}{m:Lo}
theorem Ex.VE{D:Dm Z (Fl×Lo×Z)}{D':Dm Z (List U×Z)}(O:∀r,iz D r)(O':∀r,iz D' r)(hd:D'.o=D.o/\D'.hz=D.hz){s:Stmt}{x:Str}{body:List Stmt}{as:List Expr}{Q:Fl->Lo->AH->Prop}
  (hs:B9 s=some (x,(S "range",as),body))(hx:(iu f x&&sD f (S "range"))=true){a b c:Int}{k:Nat}(I:Nat->Lo->Z->Prop){z0:Z}{xs:List U}
  (ha:(ms D' 50).Es d f m as z0 (λxs z=>some (xs,z))=some (xs,z0))(hr:l7 xs a b c k)(h0:I 0 m z0)
  (turn:∀i m z,I i m z->i<k->∃mc r,bU mc ((x,.int (a+i*c))::m)/\(ms D 50).L d f mc body z false (λfl m z=>some (fl,m,z))=some r/\(match r.1 with
   |.next|.cont=>I (i+1) r.2.1 r.2.2
   |.brk=>∀n',Q .next r.2.1 (D.hz r.2.2 n')
   |.ret v=>∀n',Q (.ret v) r.2.1 (D.hz r.2.2 n')))
  (done:∀m z,I k m z->∀n',Q .next m (D.hz z n'))(n:Nat):dh (D.o+d) f m (D.hz z0 n) s Q:=by
 obtain⟨hp,xp,rp,cp,pos,e⟩:=VC hs;rw[e];rw[afi]at hx;refine Ex.Aa a b c k (λi m' H'=>∃z' n',H'=D.hz z' n'/\I i m' z') xa (cQ hx.1) (dj hx.2) ?_ (λi m' H' i1 hi=>?_) (λm' H' i1=>?_) hp
 ·rw[<-hd.1,<-hd.2];exact(kU (O' _) 50).Es _ _ _ _ _ _ ha _ (λys z' n' e=>by
   have e:=ack e;cases e;exact⟨hr,_,_,rfl,h0⟩) n
 ·obtain⟨z',n',rfl,i1⟩:=i1;refine cps λG k=>?_
  obtain⟨mc,r,l,e,t⟩:=turn _ _ _ i1 hi;refine k ?_;refine Ex.sub l ((kU (O _) 50).L _ _ _ _ _ _ _ e (λe=>nomatch e) _ (λfl m2 z2 n2 h=>?_) n')
  have h:=ack h;subst h
  induction fl with
  |next=>exact⟨_,_,rfl,t⟩
  |cont=>exact⟨_,_,rfl,t⟩
  |brk=>exact t n2
  |ret v=>exact t n2
 ·obtain⟨z',n',rfl,i1⟩:=i1;exact Ex.nil (done _ _ i1 n')
end
abbrev VF:aX:=aY (H.az 23) "stops_scope" 257 256 [S "tree",S "node",S "sort"] []
theorem VG:ao 257 VF:=ao.o3
abbrev ID:Lf B (Int×Str×Unit):=eY .bool λa b=>cond (a.2.1==S "table") ((el b a.1).bind λx=>some (ar [S "html",S "table",S "template"] x.name)) none
section
variable{G:AH}
theorem VH:bk (λb n=>hp b G n) 1 257 (λa=>aV 4::Ps.enc (cX (bA aj)) a) ID:=λa b r h Q q n=>cE h λhc h=>by
 obtain⟨k,x,u⟩:=a
 replace hc:x=S "table":=afr.mp hc
 subst hc;exact iQ (D:=DB (U×B) au G 0 false bK (hO (U×B) au)) (α:=Int) (args:=λa=>[aV 4,.int a,.str (S "table")]) (F:=eY .bool λa b=>(el b a).bind λx=>some (ar [S "html",S "table",S "template"] x.name)) (d:=0) (λ_=>ba cz iR) VG (λa b r h=>Eq.trans (b:=(nd b a).bind λx=>(nd b a).bind λy=>some (.bool (x.dT==S "html"&&ar [S "html",S "table",S "template"] y.name),b)) (by kernel_rfl) (by
  refine bE h λx h1 h2=>?_
  rw[kH h1,<-ack h2];show some (U.bool (x.dT==S "html"&&_),b)=_;rw[uG h1];rfl)) (λ_=>by kernel_rfl) k b r h Q q n
def qN(ρ:Type)(c:Tl B ρ):List (Addr×cg B ρ):=(187,aS c 1 1 aj ym)::(257,aS c 3 1 (cX (bA aj)) ID)::[]
theorem yo:∀e,e∈qN ρ c->cJ (DB ρ c G o kp pc tb) r e.1 e.2:=aD (bo B6 rfl) (aD (bo VH rfl) cw)
end
abbrev lR:aX:=aY (H.az 24) "in_scope" 265 264 [S "stack",S "names",S "sort"] []
theorem VI:ao 265 lR:=ao.of (dv:=[]) rfl (λS=>r6 λx y z=>rfl) (λX h ρ R=>.nil) rfl rfl
abbrev IE:Lf B (List Str×Str×Unit):=eY .bool λa b=>cond (a.2.1==S "table"&&qL a.1) (oH b a.1) none
abbrev yq(nm:List Str):Lo:=[(S "sort",.str (S "table")),(S "names",iP nm),(S "stack",.ae .stack)]
abbrev kZ(nm:List Str)(i:Int):Lo:=(S "at",.int i)::(S "tree",.ae .tree)::yq nm
theorem VJ(hn:qL nm=true)(b:B)(i:Int):(ms (DB (Fl×Lo×B) au G 0 false bK (qN (Fl×Lo×B) au)) 50).L 1 lR.cq (kZ nm i) (ef (stI lR.body 1)) b false (λfl m z=>some (fl,m,z))=
  (b9 b.stack i).bind λk=>(nd b k).bind λx=>if x.dT==S "html" then(nd b k).bind λx=>if ar nm x.name then some (.ret (.bool true),(S "node",.int k)::kZ nm i,b)else((el b k).bind λx=>some (ar [S "html",S "table",S "template"] x.name)).bind λc=>if c=true then some (.ret (.bool false),(S "node",.int k)::kZ nm i,b)else some (.next,(S "node",.int k)::kZ nm i,b)
   else((el b k).bind λx=>some (ar [S "html",S "table",S "template"] x.name)).bind λc=>if c=true then some (.ret (.bool false),(S "node",.int k)::kZ nm i,b)else some (.next,(S "node",.int k)::kZ nm i,b):=by
 rcases B8 hn with⟨x,rfl⟩|⟨x,y,rfl⟩|⟨x,y,z,rfl⟩|⟨x,y,z,u,v,rfl⟩<;>kernel_rfl
section
variable{G:AH}
theorem VK:bk (λb n=>hp b G n) 2 265 (λa=>aV 2::Ps.enc (kW (bA aj)) a) IE:=λa b r h Q q n=>cE h λhc h=>by
 obtain⟨nm,VL,u⟩:=a;rw[afi]at hc;obtain⟨hc,hn⟩:=hc
 replace hc:VL=S "table":=afr.mp hc
 subst hc;obtain⟨ok,h⟩:=ig (show oH b nm=some r from h);refine VI 1 _ _ _ rfl (show bG 1 lR.cq (yq nm) (hp b G n) [stI lR.body 0,stI lR.body 1,stI lR.body 2] _ from Ex.step (D:=DB (Lo×B) au G 0 false bK (qN (Lo×B) au)) (d:=1) (m1:=(S "tree",.ae .tree)::yq nm) (z1:=b) (λ_=>ba cz yo) rfl (λn=>Ex.cons ?_) n)
 refine Ex.VE (D:=DB (Fl×Lo×B) au G 0 false bK (qN (Fl×Lo×B) au)) (D':=DB (List U×B) au G 0 false bK (qN (List U×B) au)) (d:=1) (x:=S "at") (as:=VD (stI lR.body 1)) (body:=ef (stI lR.body 1)) (λ_=>ba cz yo) (λ_=>ba cz yo) ⟨rfl,rfl⟩ rfl rfl
  (λi m z=>z=b/\nh b nm (b.stack.reverse.drop i)=some r/\bU ((S "tree",.ae .tree)::yq nm) m)
  (Eq.trans (b:=(if ay b.stack.length then some (b.stack.length:Int)else none).bind λc=>some ([.int (c-1),.int (-1),.int (-1)],b)) rfl (by rw[if_pos ok];rfl)) (Rh ok) ⟨rfl,h,.refl _⟩ (λi m z I hi=>?_) (λm z I n'=>?_) n
 ·obtain⟨rfl,h,l⟩:=I;obtain⟨k,e1,e2⟩:=uH hi ok
  replace h:=e1▸h
  refine bE h λx h1 h=>?_
  have run:∀{y},(if ar nm x.name then some (Fl.ret (.bool true),(S "node",U.int k)::kZ nm ((z.stack.length:Int)-1+i*(-1)),z)else if ar [S "html",S "table",S "template"] x.name then some (.ret (.bool false),(S "node",.int k)::kZ nm ((z.stack.length:Int)-1+i*(-1)),z)else some (.next,(S "node",.int k)::kZ nm ((z.stack.length:Int)-1+i*(-1)),z))=some y->
    (ms (DB (Fl×Lo×B) au G 0 false bK (qN (Fl×Lo×B) au)) 50).L 1 lR.cq (kZ nm ((z.stack.length:Int)-1+i*(-1))) (ef (stI lR.body 1)) z false (λfl m z=>some (fl,m,z))=some y:=λ{y} hy=>by
   rw[VJ hn,e2];show(nd z k).bind _=_;rw[kH h1];refine(rT (uG h1)).trans ?_;show(if ar nm x.name then _ else((el z k).bind _).bind _)=_;exact h1▸hy
  have l':bU (kZ nm ((z.stack.length:Int)-1+i*(-1))) ((S "at",.int ((z.stack.length:Int)-1+i*(-1)))::m):=l.both;refine iE h (λc h=>⟨_,_,l',run (rT c),?_⟩) λc h=>iE h (λc2 h=>⟨_,_,l',run ((rF c).trans (rT c2)),?_⟩) λc2 h=>⟨_,(.next,(S "node",.int k)::kZ nm ((z.stack.length:Int)-1+i*(-1)),z),l',run ((rF c).trans (rF c2)),rfl,h,.cons (.cons (.refl _) rfl) rfl⟩
  ·have h:=ack h;subst h;exact λn'=>⟨_,.refl _,q n'⟩
  ·have h:=ack h;subst h;exact λn'=>⟨_,.refl _,q n'⟩
 ·obtain⟨rfl,h,l⟩:=I
  replace h:=Rg▸h
  have h:=ack h;subst h;exact Ex.rest (D:=DB (Fl×B) au G 0 false bK (qN (Fl×B) au)) (d:=1) (m:=m) (z1:=z) (sQ:=.ret (.bool false)) (λ_=>ba cz yo) rfl (λm' n'=>⟨_,.refl _,q n'⟩) n'
end
def nN(ρ:Type)(c:Tl B ρ):List (Addr×cg B ρ):=(807,aS c 3 1 (cX (bA aj)) Im)::[]
section
variable{G:AH}
theorem vm:∀e,e∈nN ρ c->cJ (DB ρ c G o kp pc tb) r e.1 e.2:=aD (bo Vi rfl) (cw)
end
abbrev fK:aX:=aY (H.az 12) "foster_place" 84 83 [S "builder"] []
theorem VM:ao 84 fK:=ao.o1
abbrev IF:Lf B Unit:=eY (λpl:Int×Int=>.aG [.int pl.1,.int pl.2]) λ_ b=>oL b
abbrev qO(b:B)(k:Int)(s:String):Option Bool:=(el b k).bind λx=>some (x.name==S s)
abbrev nO(i:Int):Lo:=[(S "at",.int i),(S "items",.ae .items),(S "tree",.ae .tree),(S "builder",.ae .bC)]
theorem VN(b:B)(i:Int):jQ (DB (It B) au G 0 false bK (nN (It B) au)) 1 fK.cq (nO i) (jR (stI fK.body 3)) (ef (stI fK.body 3)) b=
  if decide ((0:Int)<i) then(b9 b.stack i).bind λk=>(qO b k "table").bind λc=>if !c then(b9 b.stack i).bind λk=>(qO b k "template").bind λc=>if !c then some (.go .next ((S "at",.int (i-1))::nO i) b)else some (.out b)else some (.out b)else some (.out b):=by kernel_rfl
theorem VO(b:B)(i:Int):(ms (DB (Fl×B) au G 0 false bK (nN (Fl×B) au)) 50).L 1 fK.cq (nO i) [stI fK.body 4,stI fK.body 5,stI fK.body 6,stI fK.body 7,stI fK.body 8] b false (λfl m z=>some (fl,z))=
  (b9 b.stack i).bind λk=>(qO b k "table").bind λc=>if !c then some (.ret (.aG [.int k,.int (-1)]),b)else(nd b k).bind λx=>if x.bq !=-1 then(nd b k).bind λx=>some (.ret (.aG [.int x.bq,.int k]),b)else if decide ((0:Int)<i) then(b9 b.stack (i-1)).bind λk=>some (.ret (.aG [.int k,.int (-1)]),b)else some (.ret (.aG [.int k,.int (-1)]),b):=by kernel_rfl
section
variable{G:AH}
theorem VP:bk (λb n=>hp b G n) 2 84 (λa=>aV 1::Ps.enc aj a) IF:=λa b r h Q q n=>by
 refine aO (ig (show oL b=some r from h)) λok h=>?_
 have f9:0<b.stack.length:=by
  cases e:b.stack with
  |nil=>exact af (e▸h)
  |cons a l=>exact ag3 _
 refine VM 1 _ _ _ rfl (show bG 1 fK.cq [(S "builder",.ae .bC)] (hp b G n) [stI fK.body 0,stI fK.body 1,stI fK.body 2,qK (stI fK.body 3),stI fK.body 4,stI fK.body 5,stI fK.body 6,stI fK.body 7,stI fK.body 8] _ from
  Ex.step (D:=DB (Lo×B) au G 0 false bK (nN (Lo×B) au)) (d:=1) (m1:=[(S "tree",.ae .tree),(S "builder",.ae .bC)]) (z1:=b) (λ_=>ba cz vm) rfl (λn=>
  Ex.step (D:=DB (Lo×B) au G 0 false bK (nN (Lo×B) au)) (d:=1) (m1:=[(S "items",.ae .items),(S "tree",.ae .tree),(S "builder",.ae .bC)]) (z1:=b) (λ_=>ba cz vm) rfl (λn=>
  Ex.step (D:=DB (Lo×B) au G 0 false bK (nN (Lo×B) au)) (d:=1) (m1:=nO ((b.stack.length:Int)-1)) (z1:=b) (λ_=>ba cz vm) (Eq.trans (b:=if ay b.stack.length then some (nO ((b.stack.length:Int)-1),b)else none) (by kernel_rfl) (rT ok)) (λn=>Ex.cons ?_) n) n) n)
 refine Ex.wh (D:=DB (It B) au G 0 false bK (nN (It B) au)) (d:=1) (λ_=>ba cz vm) (λj m z=>z=b/\∃i:Nat,j=b.stack.length-i/\i<b.stack.length/\uu b (b.stack.reverse.drop i)=some r/\bU (nO ((b.stack.length:Int)-1+i*(-1))) m) (λj m z I=>?_) b.stack.length ⟨rfl,0,rfl,f9,h,by rw[show(b.stack.length:Int)-1+((0:Nat):Int)*(-1)=(b.stack.length:Int)-1 by omega];exact .refl _⟩ n
 obtain⟨rfl,i,rfl,hi,h,l⟩:=I;refine ah (uH hi ok) λk e1 e2=>?_
 replace h:=e1▸h
 by_cases ml:i+1<z.stack.length
 ·refine ah (uH ml ok) λk2 e3 _=>?_
  have h0:=h
  replace h:=e3▸h
  refine bE h λx h1 h=>?_
  have hh:∀s,qO z k s=some (x.name==S s):=λs=>by show(el z k).bind _=_;rw[h1];rfl
  have run:∀{y},(if !(x.name==S "table") then(if !(x.name==S "template") then some (It.go .next ((S "at",.int ((z.stack.length:Int)-1+i*(-1)-1))::nO ((z.stack.length:Int)-1+i*(-1))) z)else some (.out z))else some (.out z))=some y->
    jQ (DB (It B) au G 0 false bK (nN (It B) au)) 1 fK.cq (nO ((z.stack.length:Int)-1+i*(-1))) (jR (stI fK.body 3)) (ef (stI fK.body 3)) z=some y:=λ{y} hy=>by
   rw[VN];refine(rT (afT (by lia))).trans ?_
   rw[e2];show(qO z k "table").bind _=_;rw[hh];show(if !(x.name==S "table") then(qO z k "template").bind _ else _)=_;rw[hh];exact hy
  refine iE h (λc h=>cu h λc2 h=>⟨_,.out z,l,run (rF (afp _ c)),λn'=>?_⟩) λc h=>?_
  ·have h:=ack h;subst h;exact Ex.sub l (Ex.rest (D:=DB (Fl×B) au G 0 false bK (nN (Fl×B) au)) (d:=1) (z1:=z) (sQ:=.ret (.aG [.int x.bq,.int k])) (λ_=>ba cz vm) (by
    rw[VO,e2];show(qO z k "table").bind _=_;rw[hh];refine(rF (afp _ c)).trans ?_;rw[kH h1];exact rT c2) (λm' n'=>⟨_,.refl _,q n'⟩) n')
  ·split at h
   ·exact af h
   rename_i c2;have c2:(x.name==S "template")=false:=Bool.eq_false_iff.mpr c2;refine⟨_,.go .next ((S "at",.int ((z.stack.length:Int)-1+i*(-1)-1))::nO ((z.stack.length:Int)-1+i*(-1))) z,l,run ((rT (afp _ c)).trans (rT (afp _ c2))),z.stack.length-(i+1),by exact(agD hi (afY _)),rfl,i+1,rfl,ml,by rw[e3];exact h,?_⟩
   rw[show(z.stack.length:Int)-1+((i+1:Nat):Int)*(-1)=(z.stack.length:Int)-1+i*(-1)-1 by omega]
   exact bU.Io
 ·rw[ag0 (by rw[List.length_reverse];exact af0 ml)]at h
  exact af h
abbrev IH:Lf B (Str×Unit):=eY .str λa b=>some (j5 a.1)
theorem bU.nil:bU [] m:=λ_ _ e=>af e
theorem bU.add(h:m.lookup x=some v)(t:bU a m):bU ((x,v)::a) m:=λy u e=>by
 rw[afx]at e;cases q:y==x with
 |true=>rw[q]at e;rw[afr.mp q,h];exact e
 |false=>rw[q]at e;exact t y u e
theorem VQ:bk (λb n=>hp b G n) 1 280 (Ps.enc (bA aj)) IH:=λa b r h Q q n=>by
 obtain⟨x,u⟩:=a;have h:=ack h;subst h;show aU 1 (.ref 280) [.str x] (hp b G n) Q;refine Call.fn (dx:=[]) (dv:=[]) (names:=[S "name"]) (body:=?b) (scope:=?s) [(S "name",.str x)] (ho:=Q0) (hc:=QZ) (hv:=rfl) (hi:=by kernel_rfl) (hbind:=λS=>all1 λa=>?hb) (iI:=λ_ _ _=>.nil) (eb:=?eb) (es:=?es) (hloc:=?l) (ie:=rfl) (h:=?h)
 case eb=>conv=>lhs;whnf
 case es=>conv=>lhs;whnf
 case l=>exact zT (cQ (f:=.fn (S "mode_of") _ 280 (.ref 279) []) rfl).at_ zS
 case hb=>rfl
 with_reducible refine Ex.cons (Ex.assign (cQ (by kernel_rfl)) ?_ (by kernel_rfl))
 with_reducible refine Ev.se (.aK n) ?k3 L.lC ?_ ?r1 ?r2 ?r3 ?r4
 case k3=>exact qx
 case r1=>rfl
 case r2=>rfl
 case r3=>intro e;cases e
 case r4=>decide
 iterate 12 with_reducible refine fE.cons (Ev.str ?_)
 with_reducible refine fE.nil ⟨?r1,?r2,?_⟩
 case r1=>exact AH.bP ..
 case r2=>exact RG
 rw[nq];with_reducible refine Ex.cons (Ex.ret ?_)
 refine(Ev.uo PySem.F.slot_dict_get agW PySem.F.type_dict_get (Ev.local (.of rfl) (cQ rfl) ⟨.map (AH.bP ..),aI.cons (Ev.local (.of rfl) (cQ rfl) (aI.cons (Ev.str (aI.nil (Call.get (es:=uI) (AH.bP ..) ?_))) rfl)) rfl⟩) rfl);exact RF▸⟨_,rW,q _⟩
def II(ρ:Type)(c:Tl B ρ):List (Addr×cg B ρ):=(280,mu c 1 (bA aj) IH)::[]
theorem VR:∀e,e∈II ρ c->cJ (DB ρ c G o kp pc tb) r e.1 e.2:=aD (nJ VQ rfl) (cw)
def sS(b:B)(k a:Int):Option Str:=(el b k).bind λx=>if a==0 then none else if x.name==S "select" then none else if x.name==S "template" then none else if x.name==S "html" then none else some (j5 x.name)
abbrev VS:aX:=aY (H.az 29) "mode_for" 294 293 [S "builder",S "node",S "at"] []
theorem VT:ao 294 VS:=ao.o3
abbrev IJ:Lf B (Int×Int×Unit):=eY .str λa b=>sS b a.1 a.2.1
theorem VU:bk (λb n=>hp b G n) 2 294 (λa=>aV 1::Ps.enc (cX (cX aj)) a) IJ:=iQ (D:=DB (U×B) au G 0 false bK (II (U×B) au)) (d:=1) (λ_=>ba cz VR) VT (λa b r h=>Eq.trans (b:=(nd b a.1).bind λx=>if x.dT !=S "html" then some (.str (S ""),b)else(nd b a.1).bind λx=>if x.name==S "select" then none else if x.name==S "template" then none else if x.name==S "html" then(if b.head==-1 then some (.str (S "before head"),b)else some (.str (S "after head"),b))else if(a.2.1==0&&ar [S "td",S "th",S "head"] x.name) then some (.str (S ""),b)else some (.str (j5 x.name),b)) (by kernel_rfl) (by
 refine bE (show sS b a.1 a.2.1=some r from h) λx h1 h=>?_
 rw[kH h1];refine(rF (AM h1)).trans ?_;cases c0:a.2.1==0 with
 |true=>rw[c0]at h;exact af h
 |false=>
  rw[c0]at h;exact iE h (λ_ h=>af h) λ_ h=>iE h (λ_ h=>af h) λc1 h=>(rF c1).trans (iE h (λ_ h=>af h) λc2 h=>(rF c2).trans (iE h (λ_ h=>af h) λc3 h=>(rF c3).trans (by rw[<-ack h];rfl))))) (λ_=>by kernel_rfl)
def o5(ρ:Type)(c:Tl B ρ):List (Addr×cg B ρ):=(187,aS c 1 1 aj ym)::(294,aS c 0 2 (cX (cX aj)) IJ)::(850,aS c 0 1 (bA aj) vh)::[]
theorem yr:∀e,e∈o5 ρ c->cJ (DB ρ c G o kp pc tb) r e.1 e.2:=aD (bo B6 rfl) (aD (bo VU rfl) (aD (bo yj rfl) cw))
end
abbrev iS:aX:=aY (H.az 30) "reset_mode" 301 300 [S "builder"] []
theorem VV:ao 301 iS:=ao.o1
abbrev IK:Lf B Unit:=cj λ_ b=>rY b
abbrev o6(a:Int)(md:Str):Lo:=[(S "mode",.str md),(S "at",.int a),(S "builder",.ae .bC)]
abbrev yt(a:Int)(k:Int)(md qP:Str):Lo:=(S "at",.int (a-1))::(S "mode",.str qP)::(S "node",.int k)::o6 a md
theorem IL(b:B)(a:Int)(md:Str):jQ (DB (It B) au G 0 false bK (o5 (It B) au)) 2 iS.cq (o6 a md) (jR (stI iS.body 2)) (ef (stI iS.body 2)) b=
  if(decide ((0:Int)<=a)&&md==S "") then(b9 b.stack a).bind λk=>if a==0 then(sS b k a).bind λqP=>some (.go .next (yt a k md qP) b)else(sS b k a).bind λqP=>some (.go .next (yt a k md qP) b)else some (.out b):=by kernel_rfl
theorem VW(b:B)(a:Int)(md:Str):(ms (DB (Fl×B) au G 0 false bK (o5 (Fl×B) au)) 50).L 2 iS.cq (o6 a md) [stI iS.body 3,stI iS.body 4] b false (λfl m z=>some (fl,z))=
  if md==S "" then some (.next,b.to (S "in body"))else some (.next,b.to md):=by kernel_rfl
theorem bU.yu:bU (o6 (a-1) qP) (yt a k md qP):=.add rfl (.add rfl (.add rfl .nil))
section
variable{G:AH}
theorem VX:bk (λb n=>hp b G n) 3 301 (λa=>aV 1::Ps.enc aj a) IK:=λa b r h Q q n=>by
 obtain⟨ok,h⟩:=ig (show rY b=some r from h);refine bE h λmd hr h2=>?_
 have h2:=ack h2;subst h2;have f9:0<b.stack.length:=by
  cases e:b.stack with
  |nil=>exact af (e▸hr)
  |cons a l=>exact ag3 _
 refine VV 2 _ _ _ rfl (show bG 2 iS.cq [(S "builder",.ae .bC)] (hp b G n) [stI iS.body 0,stI iS.body 1,qK (stI iS.body 2),stI iS.body 3,stI iS.body 4] _ from
  Ex.step (D:=DB (Lo×B) au G 0 false bK (o5 (Lo×B) au)) (d:=2) (m1:=[(S "at",.int ((b.stack.length:Int)-1)),(S "builder",.ae .bC)]) (z1:=b) (λ_=>ba cz yr) (Eq.trans (b:=(if ay b.stack.length then some (b.stack.length:Int)else none).bind λc=>some ([(S "at",.int (c-1)),(S "builder",.ae .bC)],b)) rfl (by rw[if_pos ok];rfl)) (λn=>
  Ex.step (D:=DB (Lo×B) au G 0 false bK (o5 (Lo×B) au)) (d:=2) (m1:=o6 ((b.stack.length:Int)-1) (S "")) (z1:=b) (λ_=>ba cz yr) rfl (λn=>Ex.cons ?_) n) n)
 refine Ex.wh (D:=DB (It B) au G 0 false bK (o5 (It B) au)) (d:=2) (λ_=>ba cz yr) (λj m z=>z=b/\((∃i:Nat,j=b.stack.length-i+1/\i<b.stack.length/\w2 b (b.stack.reverse.drop i)=some md/\bU (o6 ((b.stack.length:Int)-1+i*(-1)) (S "")) m)\/(j=0/\(md==S "")=false/\∃a,bU (o6 a md) m))) (λj m z I=>?_) (b.stack.length-0+1) ⟨rfl,.inl ⟨0,rfl,f9,hr,by rw[show(b.stack.length:Int)-1+((0:Nat):Int)*(-1)=(b.stack.length:Int)-1 by omega];exact .refl _⟩⟩ n
 obtain⟨rfl,I⟩:=I;rcases I with⟨i,rfl,hi,h,l⟩|⟨rfl,c,a,l⟩
 ·obtain⟨k,e1,e2⟩:=uH hi ok;rw[e1]at h;by_cases ml:i+1<z.stack.length
  ·obtain⟨k2,e3,_⟩:=uH ml ok;rw[e3]at h;have c0:(((z.stack.length:Int)-1+i*(-1))==0)=false:=aft.mpr (by lia)
   refine bE h λx h1 h=>?_
   split at h
   ·exact af h
   rename_i c1;split at h
   ·exact af h
   rename_i c2;split at h
   ·exact af h
   rename_i c3;have mf:sS z k ((z.stack.length:Int)-1+i*(-1))=some (j5 x.name):=by
    unfold sS;exact h1▸(rF c0).trans ((if_neg c1).trans ((if_neg c2).trans (if_neg c3)))
   have run:jQ (DB (It B) au G 0 false bK (o5 (It B) au)) 2 iS.cq (o6 ((z.stack.length:Int)-1+i*(-1)) (S "")) (jR (stI iS.body 2)) (ef (stI iS.body 2)) z=some (.go .next (yt ((z.stack.length:Int)-1+i*(-1)) k (S "") (j5 x.name)) z):=by
    rw[IL];refine(rT (by rw[afT (by lia)];kernel_rfl)).trans ?_
    rw[e2];refine(rF c0).trans ?_;rw[mf];rfl
   refine⟨_,_,l,run,?_⟩;refine iE h (λc h=>⟨z.stack.length-(i+1)+1,by exact Nat.succ_lt_succ (agD (Nat.lt_of_succ_lt ml) (afY _)),rfl,.inl ⟨i+1,rfl,ml,by rw[e3];exact h,?_⟩⟩) λc h=>⟨0,by exact ag3 _,rfl,.inr ⟨rfl,?_,(z.stack.length:Int)-1+i*(-1)-1,?_⟩⟩
   ·rw[show(z.stack.length:Int)-1+((i+1:Nat):Int)*(-1)=(z.stack.length:Int)-1+i*(-1)-1 by omega,<-afr.mp c]
    exact .yu
   ·rw[<-ack h];exact c
   ·rw[<-ack h];exact .yu
  ·rw[ag0 (by rw[List.length_reverse];exact af0 ml)]at h
   exact af h
 ·refine⟨_,.out z,l,?_,λn'=>Ex.sub l (Ex.rest (D:=DB (Fl×B) au G 0 false bK (o5 (Fl×B) au)) (d:=2) (z1:=z.to md) (sQ:=.next) (λ_=>ba cz yr) ((VW z a md).trans (rF c)) (λm' n'=>⟨_,.refl _,q n'⟩) n')⟩
  rw[IL];exact rF (by rw[c,agO])
end
abbrev Ca:aX:=aY (H.sub 80 1) "Tree.add" 720 719 [S "self",S "kind",S "space",S "name",S "attrs",S "text"] []
theorem VY:ao 720 Ca:=ao.of rfl (λS=>Qj λx y z u v t=>(by kernel_rfl)) (λ_ _ _ _=>.nil) rfl rfl
abbrev jS:aX:=aY (H.sub 80 6) "Tree.insert" 758 757 [S "self",S "parent",S "node",S "before"] []
theorem VZ:ao 758 jS:=ao.of rfl (λS=>uB λx y z u=>rfl) (λ_ _ _ _=>.nil) rfl rfl
theorem V0(e:s=s')(h:dh d f m H s' Q):dh d f m H s Q:=e▸h
theorem V2(e:s=s')(h:bG d f m H s' Q):bG d f m H s Q:=e▸h
abbrev V3(x:Nd):Lo:=[(S "text",.str x.text),(S "attrs",.aG x.attrs),(S "name",.str x.name),(S "space",.str x.dT),(S "kind",.str x.kind),(S "self",.ae .tree)]
abbrev yw(p k bf:Int):Lo:=[(S "before",.int bf),(S "node",.int k),(S "parent",.int p),(S "self",.ae .tree)]
section
variable{d:Nat}{f:aP}{m:Lo}{H:AH}{l k:Loc}{C:Addr}{es:List (Str×U)}{a x:Str}{y:U}{e:Expr}{px pa pp pc ps:Pos}{ss:List Stmt}{Q:Fl->Lo->AH->Prop}
theorem Ex.ap(F:fy C a)(hx:o4 d f m (.Name x px)=some y)(I:f7 H y C es)(e3:es.lookup a=some (.ae k))(e4:∃ys,H.get k=some (.list ys))(h:aQ d f m H e λz H1=>aU d (.builtin "list.append") [.ae k,z] H1 λ_ H2=>bG d f m H2 ss Q)
  (hm:lr (.Attribute (.Name x px) a pa) pc ps [e]=true)(hn:jy e=true)(hi:f.isFn=true):bG d f m H (.Expr (.Call (.Attribute (.Attribute (.Name x px) a pa) (S "append") pc) [e] [] ps) pp::ss) Q:=
 e4.elim λ_ e4=>Ex.cons (Ex.so (Ev.Ah agB agT (Ev.fP F (aJ hx ⟨es,.ae k,I,e3,afL,.list e4,aI.cons (aQ.c9 h λ_ _ z=>aI.nil z) hn⟩)) hm) hi rfl)
end
section
variable{b b':B}{G:AH}{n:Nat}{Q:U->AH->Prop}
theorem IM(hh:kD b x=some b'/\x.kids=[]/\x.bq=-1/\ay x.attrs.length=true){Q:Fl->Lo->AH->Prop}(q:∀m,Q (.ret (.int (b.aa.length:Int))) m (hp b' G n)):bG 1 Ca.cq (V3 x) (hp b G n) Ca.body Q:=by
 refine V2 (s':=?s) ?e ?h;case e=>conv=>lhs;whnf
 refine fb hh λh hk AO qF=>?_
 refine xe h λok h=>?_
 obtain rfl:=ack h;rw[<-Rn (x:=x)];refine Ex.ap (k:=.dY) uE rfl qw rfl ⟨_,rfl⟩ (aJ (v:=.str x.kind) rfl (A.dY ok ?_)) rfl rfl rfl;refine Ex.ap (k:=.eR) FQ rfl qw rfl ⟨_,rfl⟩ (aJ (v:=.str x.dT) rfl (A.eR ok ?_)) rfl rfl rfl;refine Ex.ap (k:=.names) xc rfl qw rfl ⟨_,rfl⟩ (aJ (v:=.str x.name) rfl (A.names ok ?_)) rfl rfl rfl;refine Ex.ap (k:=.attrs) AF rfl qw rfl ⟨_,rfl⟩ (Ev.wJ xb (dj rfl) (aI.cons (aJ (v:=.aG x.attrs) rfl (aI.nil (Call.Ac (.inr rfl) (bh (d9 qF)) (A.attrs ok ?_))))) rfl) rfl rfl rfl;refine Ex.ap (k:=.eg) AG rfl qw rfl ⟨_,rfl⟩ (aJ (v:=.str x.text) rfl (A.eg ok ?_)) rfl rfl rfl;refine Ex.ap (k:=.dJ) xd rfl qw rfl ⟨_,rfl⟩ (aJ (v:=.int (-1)) rfl (A.Rx AO ok ?_)) rfl rfl rfl;refine Ex.ap (k:=.eF) AI rfl qw rfl ⟨_,rfl⟩ (Ev.j0 (.bV b.aa.length) (aI.nil ⟨afw _,A.new,A.eF hk ok ?_⟩)) rfl rfl rfl;exact Ex.cons (Ex.ret (Ev.rK (Ev.ua uD (dj rfl) (aI.cons (Ev.fP uE (aJ (v:=.ae .tree) rfl ⟨eI,.ae .dY,Fn,rfl,afL,aI.nil (A.len ok (aJ (v:=.int 1) rfl (Op.sub (Int.add_sub_cancel _ _▸q _))))⟩))) rfl)))
abbrev vn:aX:=aY (H.az 81) "above" 821 820 [S "tree",S "node"] []
theorem V4:ao 821 vn:=ao.o2
theorem V5(h:nd b p=some x)(h2:oJ b k x.bq=some up)(hs:k<=900001)(q:Q (.ae (.aK n)) ((hp b G n).add (.aK n) (.list (cF up)))):aU 1 (.ref 821) [.ae .tree,.int p] (hp b G n) Q:=by
 refine V4.go (d:=0) (m:=[(S "node",.int p),(S "tree",.ae .tree)]) (body:=[stI vn.body 0,stI vn.body 1,stI vn.body 2,stI vn.body 3]) rfl rfl rfl ?_;refine Ex.bu (s':=?s0) ?e0 ?_;case e0=>conv=>lhs;whnf
 refine Ex.cons (Ex.assign (cQ rfl) (Ev.j0 (.aK n) (aI.nil ⟨afw _,L.lC,?_⟩)));refine Ex.bu (s':=?s1) ?e1 ?_;case e1=>conv=>lhs;whnf
 refine Ex.cons (Ex.assign (cQ rfl) (Ev.sub (Ev.fP xd (aJ (v:=.ae .tree) rfl ⟨eI,.ae .dJ,FX,rfl,afL,aJ (v:=.int p) rfl (R.FW h ?_)⟩)) rfl));refine Ex.bu (s':=?s2) ?e2 ?_;case e2=>conv=>lhs;whnf
 refine Ex.cons (Ex.while (λj m' H'=>∃vo u rest,H'=(hp b G n).add (.aK n) (.list (cF vo))/\oJ b j u=some rest/\vo++rest=up/\vo.length+j<=900001/\bU [(S "up",.int u),(S "out",.ae (.aK n)),(S "tree",.ae .tree)] m') (λj m' H' i=>?_) k ⟨[],x.bq,up,rfl,h2,rfl,by exact(Nat.zero_add k).symm▸hs,.of (aD rfl (aD rfl (aD rfl cw)))⟩)
 refine kr i λvo u rest bx h2 e1 e2 l=>?_;subst bx
 cases j with
 |zero=>exact af h2
 |succ j=>
  refine Ts.sub l (vj (c:=(u !=-1)) rfl ?_);refine Q9 h2 (λc h2=>bE h2 λy h3 h2=>bE h2 λr2 h4 h2=>?_) (λc h2=>?_)
  ·obtain rfl:=ack h2;refine Ex.sub l (Ex.cons (Ex.so (Ev.Ah agB agT (aJ (v:=.ae (.aK n)) rfl ⟨.list (AH.bP ..),aI.cons (aJ (v:=.int u) rfl (aI.nil (L.Ry (cU (by lia)) ?_)))⟩) rfl)))
   refine Ex.cons (Ex.assign (cQ rfl) (Ev.sub (Ev.fP xd (aJ (v:=.ae .tree) rfl ⟨eI,.ae .dJ,FX,rfl,afL,aJ (v:=.int u) rfl (R.FW h3 ?_)⟩)) rfl));exact Ex.nil ⟨j,afY j,vo++[u],y.bq,r2,rfl,h4,by rw[afs];exact e1,by rw[afl,afF];lia,.of (aD rfl (aD rfl (aD rfl cw)))⟩
  ·obtain rfl:=ack h2;rw[afD]at e1;subst e1;refine Ex.nil (Ex.sub l ?_);refine Ex.bu (s':=?s3) ?e3 ?_;case e3=>conv=>lhs;whnf
   exact Ex.cons (Ex.ret (aJ (v:=.ae (.aK n)) rfl ⟨_,.refl _,q⟩))
theorem V6(h1:nd b p=some x)(h2:oJ b (b.aa.length+1) x.bq=some up)(hs:b.aa.length+1<=900001)(hne:(k==p)=false)(hu:ar up k=false){Q:Fl->Lo->AH->Prop}(q:∀n',Q .next (yw p k bf) (hp b G n')):dh 1 jS.cq (yw p k bf) (hp b G n) (stI jS.body 0) Q:=by
 refine yf.post (V0 (s':=?s) ?e ?h);case e=>conv=>lhs;whnf
 exact Ex.ite<|Ts.or<|vj (c:=(k==p)) rfl<|kI hne<|Ts.or<|Ts.cY<|aJ (v:=.int k) rfl<|Ev.jA QB (dj rfl) (aI.cons<|aJ (v:=.ae .tree) rfl<|aI.cons<|aJ (v:=.int p) rfl<|aI.nil<|Call.gb (afm _)<|V5 h1 h2 hs<|Op.Rz<|Tr.bool<|kI hu<|Ts.EY<|kI rfl<|Ex.nil ⟨_,rW,q _⟩)
end
theorem qQ(h:nd b i=some x):b.aa[i.toNat]?=some x:=by
 refine cC (gK h) λk bb _ e=>?_;subst bb
 exact e
def yx(b:B)(k:Int):Option B:=(nd b k).bind λx=>if x.bq !=-1 then none else some b
abbrev V7:aX:=aY (H.sub 80 8) "Tree.remove" 772 771 [S "self",S "node"] []
theorem V8:ao 772 V7:=ao.o2
abbrev IP:Lf B (Int×Unit):=cj λa b=>yx b a.1
section
variable{G:AH}
theorem V9:bk (λb n=>hp b G n) 1 772 (λa=>aV 4::Ps.enc (cX aj) a) IP:=iQ (D:=DB (U×B) au G 0 false bK (hO (U×B) au)) (d:=0) (λ_=>ba cz iR) V8 (λa b r h=>Eq.trans (b:=(nd b a.1).bind λx=>if x.bq !=-1 then(nd b a.1).bind λx=>(nd b x.bq).bind λ_=>none else some (.none,b)) rfl (by
 refine bE h λx h1 h2=>?_
 rw[h1];exact iE h2 (λ_ h=>af h) λc h=>(rF c).trans (by rw[<-ack h];rfl))) (λ_=>by kernel_rfl)
def IQ(ρ:Type)(c:Tl B ρ):List (Addr×cg B ρ):=(772,aS c 3 1 (cX aj) IP)::[]
theorem Wa:∀e,e∈IQ ρ c->cJ (DB ρ c G o kp pc tb) r e.1 e.2:=aD (bo V9 rfl) (cw)
def yy(b:B)(p k at_:Int):Option (Fl×B):=(nd b p).bind λ_=>(b.aa[p.toNat]?).bind λ_=>(b.aa[p.toNat]?).bind λy=>if ay y.kids.length=true/\0<=at_/\at_<=(y.kids.length:Int)then
 (nd (b.b5 p.toNat {y with kids:=y.kids.take at_.toNat++k::y.kids.drop at_.toNat}) k).bind λz=>if ay (b.b5 p.toNat {y with kids:=y.kids.take at_.toNat++k::y.kids.drop at_.toNat}).aa.length then some (.next,(b.b5 p.toNat {y with kids:=y.kids.take at_.toNat++k::y.kids.drop at_.toNat}).b5 k.toNat {z with bq:=p})else none else none
def yz(b:B)(p k bf:Int):Option (Fl×B):=if bf==k then some (.ret .none,b)else(yx b k).bind λb=>(nd b p).bind λ_=>(b.aa[p.toNat]?).bind λy=>if ay y.kids.length then
 (if bf !=-1 then(nd b p).bind λ_=>(b.aa[p.toNat]?).bind λ_=>(b.aa[p.toNat]?).bind λy=>if ay y.kids.length=true/\ar y.kids bf=true then yy b p k (y.kids.idxOf bf:Nat)else none else yy b p k y.kids.length)else none
def Cb(b:B)(p k bf:Int):Option (Fl×B):=if bf !=-1 then(nd b p).bind λ_=>(b.aa[p.toNat]?).bind λy=>if !(ar y.kids bf) then none else yz b p k bf else yz b p k bf
theorem IS[Decidable c]{P:Prop}(h:(if c then x else y)=some r)(k1:c->x=some r->P)(k2:¬c->y=some r->P):P:=if c0:c then k1 c0 ((if_pos c0).symm.trans h)else k2 c0 ((if_neg c0).symm.trans h)
theorem IT(h1:nd b p=some x)(h:kF b p x k at_=some b'):yy b p k at_=some (.next,b'):=by
 unfold yy;rw[h1,qQ h1];refine cu h λc h=>(if_pos ⟨c.1,c.2.2⟩).trans ?_
 refine bE h λz e h=>?_
 rw[e];exact(if_pos (by rw[RB];exact c.2.1)).trans (by rw[<-ack h])
theorem IU(h1:nd b p=some x)(h3:nd b k=some y)(h4:(y.bq !=-1)=false)(h:(if bf !=-1 then(if x.kids.any (·==bf) then(if bf==k then none else kF b p x k (x.kids.idxOf bf:Nat))else none)else kF b p x k x.kids.length)=some b'):yz b p k bf=some (.next,b'):=by
 have hr:yx b k=some b:=by unfold yx;exact h3▸rF h4
 unfold yz;rw[hr];refine iE h (λc h=>?_) λc h=>?_
 ·refine cu h λc2 h=>iE h (λ_ h=>af h) λc3 h=>(rF c3).trans ?_
  show(nd b p).bind _=_;rw[h1,qQ h1];have ok:ay x.kids.length=true:=cu h λc _=>c.1
  exact(rT ok).trans ((rT c).trans ((if_pos ⟨ok,c2⟩).trans (IT h1 h)))
 ·have c3:(bf==k)=false:=by
   have h5:=FT h3;have h6:bf=-1:=by simpa using c
   exact aft.mpr (by lia)
  refine(rF c3).trans ?_;show(nd b p).bind _=_;rw[h1,qQ h1];have ok:ay x.kids.length=true:=cu h λc _=>c.1
  exact(rT ok).trans ((rF c).trans (IT h1 h))
theorem Wb(h1:nd b p=some x)(h3:nd b k=some y)(h4:(y.bq !=-1)=false)(h:(if bf !=-1 then(if x.kids.any (·==bf) then(if bf==k then none else kF b p x k (x.kids.idxOf bf:Nat))else none)else kF b p x k x.kids.length)=some b'):Cb b p k bf=some (.next,b'):=by
 unfold Cb;cases c:bf !=-1 with
 |false=>exact IU h1 h3 h4 h
 |true=>
  show(nd b p).bind _=_;rw[h1,qQ h1]
  replace h:=c▸h
  refine cu h λc2 _=>(rF (by show(!x.kids.any (·==bf))=false;rw[c2];rfl)).trans (IU h1 h3 h4 (by exact c▸h))
theorem IV(h:iK b p k bf=some b')(q:∀m n,Q .next m (hp b' G n)):bG 1 jS.cq (yw p k bf) (hp b G n) jS.body Q:=by
 unfold iK at h;refine IS h (λ_ h=>af h) λhc h=>bE h λx h1 h=>bE h λup h2 h=>iE h (λ_ h=>af h) λhu h=>bE h λy h3 h=>iE h (λ_ h=>af h) λWc h=>?_
 have ok:ay b.aa.length=true:=Bool.not_eq_false _▸λe=>hc (.inl e)
 have hne:(k==p)=false:=Bool.eq_false_iff.mpr λe=>hc (.inr e)
 refine show bG 1 jS.cq (yw p k bf) (hp b G n) (stI jS.body 0::[stI jS.body 1,stI jS.body 2,stI jS.body 3,stI jS.body 4,stI jS.body 5,stI jS.body 6,stI jS.body 7]) Q from Ex.cons (V6 h1 h2 (afS (d9 ok)) hne hu λn=>?_)
 exact Ex.rest (D:=DB (Fl×B) au G 0 false bK (IQ (Fl×B) au)) (d:=1) (λ_=>ba cz Wa) (Eq.trans (b:=Cb b p k bf) (by kernel_rfl) (Wb h1 h3 Wc h)) q n
abbrev Cc:Lf B (Int×Int×Int×Unit):=cj λa b=>iK b a.1 a.2.1 a.2.2.1
abbrev IW:Lf B (Int×Int×Unit):=cj λa b=>iK b a.1 a.2.1 (-1)
abbrev Wd:aX:=aY (H.sub 80 6) "Tree.insert" 758 757 [S "self",S "parent",S "node",S "before"] [.int (-1)]
theorem We:ao 758 Wd:=ao.of (dv:=[.int (-1) 1130]) rfl (λS=>r6 λx y z=>rfl) (λX h ρ R=>.cons (.int _ _) .nil) rfl rfl
theorem IX:bk (λb n=>hp b G n) 2 758 (λa=>aV 4::Ps.enc (cX (cX (cX aj))) a) Cc:=λa b r h Q q n=>VZ 1 _ _ _ rfl (IV h λ_ n=>⟨_,.refl _,q n⟩)
theorem Wf:bk (λb n=>hp b G n) 2 758 (λa=>aV 4::Ps.enc (cX (cX aj)) a) IW:=λa b r h Q q n=>We 1 _ _ _ rfl (IV h λ_ n=>⟨_,.refl _,q n⟩)
def IY(ρ:Type)(c:Tl B ρ):List (Addr×cg B ρ):=(758,aS c 3 2 (cX (cX aj)) IW)::[]
theorem Wg:∀e,e∈IY ρ c->cJ (DB ρ c G o kp pc tb) r e.1 e.2:=aD (bo Wf rfl) (cw)
abbrev Wh:aX:=aY (H.sub 80 7) "Tree.append" 765 764 [S "self",S "parent",S "node"] []
theorem Wi:ao 765 Wh:=ao.o3
abbrev IZ:Lf B (Int×Int×Unit):=cj λa b=>iK b a.1 a.2.1 (-1)
theorem Wj:bk (λb n=>hp b G n) 3 765 (λa=>aV 4::Ps.enc (cX (cX aj)) a) IZ:=runN (D:=DB B aW G 0 false bK (IY B aW)) (d:=2) (λ_=>ba cz Wg) (Wi)
abbrev Wk:aX:=aY (H.sub 80 1) "Tree.add" 720 719 [S "self",S "kind",S "space",S "name",S "attrs",S "text"] [.str (S "")]
theorem Wl:ao 720 Wk:=ao.of (dv:=[.str (Str.ofString "") 1078]) rfl (λS=>Az λx y z u v=>(by kernel_rfl)) (λX h ρ R=>.cons (.str _ _) .nil) rfl rfl
abbrev I0:Lf B (Str×Str×Str×List U×Unit):=kf λa b=>cond (ay a.2.2.2.1.length) ((kD b ⟨a.1,a.2.1,a.2.2.1,a.2.2.2.1,S "",-1,[]⟩).bind λb1=>some ((b.aa.length:Int),b1)) none
abbrev I2:Lf B (Str×Str×Str×List U×Str×Unit):=kf λa b=>cond (ay a.2.2.2.1.length) ((kD b ⟨a.1,a.2.1,a.2.2.1,a.2.2.2.1,a.2.2.2.2.1,-1,[]⟩).bind λb1=>some ((b.aa.length:Int),b1)) none
theorem Wm:bk (λb n=>hp b G n) 2 720 (λa=>aV 4::Ps.enc (bA (bA (bA (ke aj)))) a) I0:=λa b r h Q q n=>cE h λha h=>bE h λb1 h1 h=>Wl 1 _ _ _ rfl (IM (x:=⟨a.1,a.2.1,a.2.2.1,a.2.2.2.1,S "",-1,[]⟩) ⟨h1,rfl,rfl,ha⟩ λm=>⟨_,.refl _,sE (X:=λr:Int×B=>(∀n',Q (.int r.1) (hp r.2 G n'))->Q (.int (b.aa.length:Int)) (hp b1 G n)) h (λq=>q n) q⟩)
theorem Wn:bk (λb n=>hp b G n) 2 720 (λa=>aV 4::Ps.enc (bA (bA (bA (ke (bA aj))))) a) I2:=λa b r h Q q n=>cE h λha h=>bE h λb1 h1 h=>VY 1 _ _ _ rfl (IM (x:=⟨a.1,a.2.1,a.2.2.1,a.2.2.2.1,a.2.2.2.2.1,-1,[]⟩) ⟨h1,rfl,rfl,ha⟩ λm=>⟨_,.refl _,sE (X:=λr:Int×B=>(∀n',Q (.int r.1) (hp r.2 G n'))->Q (.int (b.aa.length:Int)) (hp b1 G n)) h (λq=>q n) q⟩)
def I3(ρ:Type)(c:Tl B ρ):List (Addr×cg B ρ):=(720,aS c 3 2 (bA (bA (bA (ke aj)))) I0)::[]
theorem Wo:∀e,e∈I3 ρ c->cJ (DB ρ c G o kp pc tb) r e.1 e.2:=aD (bo Wm rfl) (cw)
def I4(ρ:Type)(c:Tl B ρ):List (Addr×cg B ρ):=(720,aS c 3 2 (bA (bA (bA (ke (bA aj))))) I2)::[]
theorem Wq:∀e,e∈I4 ρ c->cJ (DB ρ c G o kp pc tb) r e.1 e.2:=aD (bo Wn rfl) (cw)
abbrev Wr:aX:=aY (H.sub 80 2) "Tree.element" 729 728 [S "self",S "name",S "space",S "attrs"] []
theorem Ws:ao 729 Wr:=ao.of rfl (λS=>uB λx y z u=>rfl) (λ_ _ _ _=>.nil) rfl rfl
abbrev I5:Lf B (Str×Str×List U×Unit):=kf λa b=>cond (a.2.1==S "html") (j3 b a.1 a.2.2.1) none
theorem Wt:bk (λb n=>hp b G n) 3 729 (λa=>aV 4::Ps.enc (bA (bA (ke aj))) a) I5:=iQ (D:=DB (U×B) au G 0 false bK (I3 (U×B) au)) (d:=2) (λ_=>ba cz Wo) Ws (λa b r h=>Eq.trans (b:=(cond (ay a.2.2.1.length) ((kD b ⟨S "element",a.2.1,a.1,a.2.2.1,S "",-1,[]⟩).bind λb1=>some ((b.aa.length:Int),b1)) none).bind λr=>if a.2.1==S "html"&&a.1==S "template" then none else some (.int r.1,r.2)) (by kernel_rfl) (by
 refine cE h λhc h=>IS h (λ_ h=>af h) λhn h=>?_
 have e:a.2.1=S "html":=afr.mp hc;rw[show ay a.2.2.1.length=true from Bool.not_eq_false _▸λe=>hn (.inr e),e]
 show((kD b (gL a.1 a.2.2.1)).bind (λb1=>some ((b.aa.length:Int),b1))).bind _=_
 rw[h];exact rF (c:=S "html"==S "html"&&a.1==S "template") (by rw[show(a.1==S "template")=false from aft.mpr λe=>hn (.inl e),agO]))) (λ_=>by kernel_rfl)
abbrev Wu:aX:=aY (H.sub 80 3) "Tree.text" 736 735 [S "self",S "text"] []
theorem Wv:ao 736 Wu:=ao.o2
abbrev I6:Lf B (Str×Unit):=kf λa b=>wW b a.1
theorem Ww:bk (λb n=>hp b G n) 3 736 (λa=>aV 4::Ps.enc (bA aj) a) I6:=iQ (D:=DB (U×B) au G 0 false bK (I4 (U×B) au)) (d:=2) (λ_=>ba cz Wq) Wv (λa b r h=>Eq.trans (b:=((kD b (kE a.1)).bind λb1=>some ((b.aa.length:Int),b1)).bind λr=>some (.int r.1,r.2)) rfl (by
 rw[show(kD b (kE a.1)).bind (λb1=>some ((b.aa.length:Int),b1))=some r from h];rfl)) (λ_=>by kernel_rfl)
end
abbrev Wx:aX:=aY (H.sub 80 11) "Tree.last" 793 792 [S "self",S "parent"] []
theorem Wy:ao 793 Wx:=ao.o2
abbrev I7:Lf B (Int×Unit):=eY .int λa b=>oK b a.1
section
variable{G:AH}
theorem Wz:bk (λb n=>hp b G n) 1 793 (λa=>aV 4::Ps.enc (cX aj) a) I7:=iQ (D:=DB (U×B) au G 0 false bK (hO (U×B) au)) (d:=0) (λ_=>ba cz iR) Wy (λa b r h=>Eq.trans (b:=(nd b a.1).bind λ_=>(b.aa[a.1.toNat]?).bind λy=>if ay y.kids.length then(if !(!y.kids.isEmpty) then some (.int (-1),b)else(nd b a.1).bind λ_=>(b.aa[a.1.toNat]?).bind λy=>(y.kids.getLast?).bind λv=>some (.int v,b))else none) rfl (by
 refine bE h λx h1 h2=>?_
 refine aO (ig h2) λok h3=>?_
 rw[h1,qQ h1];refine(rT ok).trans ?_;cases e:x.kids.isEmpty with
 |true=>
  rw[e]at h3;rw[<-ack h3];rfl
 |false=>
  rw[e]at h3
  replace h3:x.kids.getLast?=some r:=h3
  show x.kids.getLast?.bind _=_;rw[h3];rfl)) (λ_=>by kernel_rfl)
abbrev WA:aX:=aY (H.sub 80 10) "Tree.place" 786 785 [S "self",S "node"] []
theorem WB:ao 786 WA:=ao.o2
abbrev I8:Lf B (Int×Unit):=eY .int λa b=>ur b a.1
theorem WC:bk (λb n=>hp b G n) 1 786 (λa=>aV 4::Ps.enc (cX aj) a) I8:=iQ (D:=DB (U×B) au G 0 false bK (hO (U×B) au)) (d:=0) (λ_=>ba cz iR) WB (λa b r h=>Eq.trans (b:=(nd b a.1).bind λx=>if x.bq==-1 then some (.int (-1),b)else(nd b a.1).bind λx=>(nd b x.bq).bind λ_=>(b.aa[x.bq.toNat]?).bind λ_=>(b.aa[x.bq.toNat]?).bind λy=>if ay y.kids.length=true/\ar y.kids a.1=true then some (.int (y.kids.idxOf a.1:Nat),b)else none) (by kernel_rfl) (by
 refine bE h λx h1 h2=>?_
 split at h2
 ·exact af h2
 rename_i c;refine bE h2 λp h3 h4=>?_
 split at h4
 ·rename_i c2;rw[h1];refine(if_neg c).trans ?_;show(nd b x.bq).bind _=_;rw[h3,qQ h3];refine(if_pos ⟨c2.2,c2.1⟩).trans ?_;rw[<-ack h4];rfl
 ·exact af h4)) (λ_=>by kernel_rfl)
abbrev WD:aX:=aY (H.az 7) "is_table_part" 56 55 [S "name"] []
theorem WE:ao 56 WD:=ao.o1
abbrev I9:Lf B (Str×Unit):=eY .bool λa b=>some (ar gn a.1)
theorem WG:bk (λb n=>hp b G n) 1 56 (Ps.enc (bA aj)) I9:=iQ (D:=DB (U×B) au G 0 false bK (hO (U×B) au)) (d:=0) (λ_=>ba cz iR) WE (λa b r h=>Eq.trans (b:=some (.bool (ar gn a.1),b)) rfl (by
 rw[<-ack h];rfl)) (λ_=>by kernel_rfl)
def Ja(ρ:Type)(c:Tl B ρ):List (Addr×cg B ρ):=(180,aS c 1 1 aj yl)::(56,mu c 1 (bA aj) I9)::(84,aS c 0 2 aj IF)::[]
theorem WH:∀e,e∈Ja ρ c->cJ (DB ρ c G o kp pc tb) r e.1 e.2:=aD (bo B5 rfl) (aD (nJ WG rfl) (aD (bo VP rfl) cw))
abbrev WI:aX:=aY (H.az 13) "place_for" 92 91 [S "builder",S "target"] [.int (-1)]
theorem WJ:ao 92 WI:=ao.of (dv:=[.int (-1) 272]) rfl (λS=>all1 λx=>rfl) (λX h ρ R=>.cons (.int _ _) .nil) rfl rfl
abbrev Cd:Lf B Unit:=eY (λpl:Int×Int=>.aG [.int pl.1,.int pl.2]) λ_ b=>j4 b
theorem Jb:bk (λb n=>hp b G n) 3 92 (λa=>aV 1::Ps.enc aj a) Cd:=iQ (D:=DB (U×B) au G 0 false bK (Ja (U×B) au)) (d:=2) (λ_=>ba cz WH) WJ (λa b r h=>Eq.trans (b:=(jH b).bind λk=>if k==-1 then some (.aG [.int 0,.int (-1)],b)else if b.dC=true then(nd b k).bind λx=>if x.dT==S "html" then(nd b k).bind λx=>if ar gn x.name then(oL b).bind λpl=>some (.aG [.int pl.1,.int pl.2],b)else some (.aG [.int k,.int (-1)],b)else some (.aG [.int k,.int (-1)],b)else some (.aG [.int k,.int (-1)],b)) (by kernel_rfl) (by
 refine bE h λk h1 h2=>?_
 refine bE h2 λx h3 h4=>?_
 rw[h1];refine(rF (AL (kH h3))).trans ?_;rw[kH h3];show(if b.dC=true then(if x.dT==S "html" then(if ar gn x.name then _ else _)else _)else _)=_;rw[uG h3];cases c:b.dC with
 |false=>
  rw[c]at h4;rw[<-ack h4];rfl
 |true=>
  rw[c]at h4
  replace h4:(if ar gn x.name then oL b else some (k,-1))=some r:=h4
  cases c2:ar gn x.name with
  |false=>
   rw[c2]at h4;rw[<-ack h4];rfl
  |true=>
   rw[c2]at h4
   replace h4:oL b=some r:=h4
   show(oL b).bind _=_;rw[h4];rfl)) (λ_=>by kernel_rfl)
def Jc(ρ:Type)(c:Tl B ρ):List (Addr×cg B ρ):=(92,aS c 0 3 aj Cd)::(793,aS c 3 1 (cX aj) I7)::(786,aS c 3 1 (cX aj) I8)::(736,aS c 3 3 (bA aj) I6)::(758,aS c 3 2 (cX (cX (cX aj))) Cc)::[]
theorem WK:∀e,e∈Jc ρ c->cJ (DB ρ c G o kp pc tb) r e.1 e.2:=aD (bo Jb rfl) (aD (bo Wz rfl) (aD (bo WC rfl) (aD (bo Ww rfl) (aD (bo IX rfl) cw))))
def Ce(b:B)(s:Str)(pl:Int×Int):Option B:=(wW b s).bind λr=>iK r.2 pl.1 r.1 pl.2
def Cf(b:B)(s:Str)(pl:Int×Int)(a:Int):Option B:=if a !=-1 then(nd b a).bind λx=>if x.kind==S "text" then(nd b a).bind λx=>if x.text.length+s.length<=1000000 then(nd b a).bind λy=>if ay b.aa.length then some (b.b5 a.toNat {y with text:=x.text++s})else none else none else Ce b s pl else Ce b s pl
def Cg(b:B)(s:Str):Option B:=(j4 b).bind λpl=>(nd b pl.1).bind λp=>if p.kind==S "document" then some b else(oK b pl.1).bind λl=>if pl.2 !=-1 then(ur b pl.2).bind λat_=>if decide (0<at_) then(nd b pl.1).bind λ_=>(b.aa[pl.1.toNat]?).bind λy=>(b9 y.kids (at_-1)).bind λa=>Cf b s pl a else Ce b s pl else Cf b s pl l
abbrev WL:aX:=aY (H.az 14) "insert_sign" 99 98 [S "builder",S "sign"] []
theorem WM:ao 99 WL:=ao.o2
abbrev WN:Lf B (Str×Unit):=cj λa b=>Cg b a.1
theorem WO:bk (λb n=>hp b G n) 4 99 (λa=>aV 1::Ps.enc (bA aj) a) WN:=runN (D:=DB B aW G 0 false bK (Jc B aW)) (d:=3) (λ_=>ba cz WK) (WM)
theorem Jd(h:(if a !=-1 then(nd b a).bind λx=>if x.kind==S "text" then(if ay b.aa.length=true/\x.text.length+s.length<=1000000 then some (b.b5 a.toNat {x with text:=x.text++s})else none)else qh b pl.1 s pl.2 else qh b pl.1 s pl.2)=some b'):Cf b s pl a=some b':=by
 refine iE h (λc h=>(rT c).trans ?_) λc h=>(rF c).trans h
 refine bE h λx e h=>?_
 rw[e];refine iE h (λc h=>(rT c).trans ?_) λc h=>(rF c).trans h
 exact cu h λc h=>(if_pos c.2).trans ((if_pos c.1).trans h)
theorem WQ(h:ja b s=some b'):Cg b s=some b':=by
 unfold Cg;refine bE h λpl e h=>?_
 rw[e];refine bE h λp e1 h=>?_
 show(nd b pl.1).bind _=_;rw[e1];show(if p.kind==S "document" then _ else _)=_;cases c0:p.kind==S "document"with
 |true=>rw[c0]at h;exact af h
 |false=>
  rw[c0]at h
  replace h:((oK b pl.1).bind λl=>(uw b p pl.2 l).bind λa=>_)=some b':=h
  refine bE h λl e2 h=>bE h λa e3 h=>?_
  show(oK b pl.1).bind _=_;rw[e2];unfold uw at e3;refine iE e3 (λc e3=>(rT c).trans ?_) λc e3=>(rF c).trans (ack e3▸Jd h)
  refine bE e3 λat_ e4 e3=>?_
  rw[e4];refine iE e3 (λc e3=>(rT c).trans ?_) λc e3=>(rF c).trans ?_
  ·show(b.aa[pl.1.toNat]?).bind _=_;rw[qQ e1];show(b9 p.kids (at_-1)).bind _=_;exact e3▸Jd h
  ·rw[<-ack e3]at h;exact h
abbrev Ci:Lf B (Str×Unit):=cj λa b=>ja b a.1
theorem Je:bk (λb n=>hp b G n) 4 99 (λa=>aV 1::Ps.enc (bA aj) a) Ci:=λa b r h Q q n=>WO a b r (WQ h) Q q n
def Cj(ρ:Type)(c:Tl B ρ):List (Addr×cg B ρ):=(729,aS c 3 3 (bA (bA (ke aj))) I5)::[]
theorem Jf:∀e,e∈Cj ρ c->cJ (DB ρ c G o kp pc tb) r e.1 e.2:=aD (bo Wt rfl) (cw)
abbrev WR:aX:=aY (H.az 16) "make" 115 114 [S "builder",S "name",S "attrs",S "space"] []
theorem WS:ao 115 WR:=ao.of rfl (λS=>uB λx y z u=>rfl) (λ_ _ _ _=>.nil) rfl rfl
abbrev Jg:Lf B (Str×List U×Str×Unit):=kf λa b=>cond (a.2.2.1==S "html") (j3 b a.1 a.2.1) none
theorem WT:bk (λb n=>hp b G n) 4 115 (λa=>aV 1::Ps.enc (bA (ke (bA aj))) a) Jg:=iQ (D:=DB (U×B) au G 0 false bK (Cj (U×B) au)) (d:=3) (λ_=>ba cz Jf) WS (λa b r h=>Eq.trans (b:=(cond (a.2.2.1==S "html") (j3 b a.1 a.2.1) none).bind λr=>some (.int r.1,r.2)) rfl (by
 rw[show(cond (a.2.2.1==S "html") (j3 b a.1 a.2.1) none)=some r from h];rfl)) (λ_=>by kernel_rfl)
def Ck(ρ:Type)(c:Tl B ρ):List (Addr×cg B ρ):=(92,aS c 0 3 aj Cd)::(115,aS c 0 4 (bA (ke (bA aj))) Jg)::(758,aS c 3 2 (cX (cX (cX aj))) Cc)::(166,aS c 1 1 (cX aj) B3)::[]
theorem Jh:∀e,e∈Ck ρ c->cJ (DB ρ c G o kp pc tb) r e.1 e.2:=aD (bo Jb rfl) (aD (bo WT rfl) (aD (bo IX rfl) (aD (bo Ik rfl) cw)))
abbrev WU:aX:=aY (H.az 17) "insert_element" 124 123 [S "builder",S "name",S "attrs",S "space"] [.str (S "html")]
theorem WV:ao 124 WU:=ao.of (dv:=[.str (Str.ofString "html") 320]) rfl (λS=>r6 λx y z=>rfl) (λX h ρ R=>.cons (.str _ _) .nil) rfl rfl
abbrev Ji:Lf B (Str×List U×Unit):=kf λa b=>jI b a.1 a.2.1
theorem WW:bk (λb n=>hp b G n) 5 124 (λa=>aV 1::Ps.enc (bA (ke aj)) a) Ji:=iQ (D:=DB (U×B) au G 0 false bK (Ck (U×B) au)) (d:=4) (λ_=>ba cz Jh) WV (λa b r h=>Eq.trans (b:=(j4 b).bind λpl=>(j3 b a.1 a.2.1).bind λr=>(iK r.2 pl.1 r.1 pl.2).bind λb2=>(qg b2 r.1).bind λb3=>some (.int r.1,b3)) (by kernel_rfl) (by
 refine cps λG k=>?_
 refine bE h λpl h1 h=>?_
 refine bE h λr1 h2 h=>?_
 refine bE h λb2 h3 h=>?_
 refine bE h λb3 h4 h=>?_
 refine k ?_;rw[h1];show(j3 b a.1 a.2.1).bind _=_;rw[h2];show(iK r1.2 pl.1 r1.1 pl.2).bind _=_;rw[h3];show(qg b2 r1.1).bind _=_;rw[h4,<-ack h];rfl)) (λ_=>by kernel_rfl)
abbrev WX:aX:=aY (H.az 17) "insert_element" 124 123 [S "builder",S "name",S "attrs",S "space"] [.aG [],.str (S "html")]
theorem WY:ao 124 WX:=ao.of (dv:=[.ref 116,.str (Str.ofString "html") 320]) rfl (λS=>all2 λx y=>rfl) (λX h ρ R=>.cons (FY R RC) (.cons (.str _ _) .nil)) rfl rfl
abbrev Cm:Lf B (Str×Unit):=kf λa b=>jI b a.1 []
theorem Jj:bk (λb n=>hp b G n) 5 124 (λa=>aV 1::Ps.enc (bA aj) a) Cm:=iQ (D:=DB (U×B) au G 0 false bK (Ck (U×B) au)) (d:=4) (λ_=>ba cz Jh) WY (λa b r h=>Eq.trans (b:=(j4 b).bind λpl=>(j3 b a.1 []).bind λr=>(iK r.2 pl.1 r.1 pl.2).bind λb2=>(qg b2 r.1).bind λb3=>some (.int r.1,b3)) (by kernel_rfl) (by
 refine cps λG k=>?_
 refine bE h λpl h1 h=>?_
 refine bE h λr1 h2 h=>?_
 refine bE h λb2 h3 h=>?_
 refine bE h λb3 h4 h=>?_
 refine k ?_;rw[h1];show(j3 b a.1 []).bind _=_;rw[h2];show(iK r1.2 pl.1 r1.1 pl.2).bind _=_;rw[h3];show(qg b2 r1.1).bind _=_;rw[h4,<-ack h];rfl)) (λ_=>by kernel_rfl)
abbrev WZ:aX:=aY (H.az 20) "associate" 145 144 [S "builder",S "node"] []
theorem W0:ao 145 WZ:=ao.o2
abbrev Jk:Lf B (Int×Unit):=cj λa b=>some b
theorem W2:bk (λb n=>hp b G n) 1 145 (λa=>aV 1::Ps.enc (cX aj) a) Jk:=runN (D:=DB B aW G 0 false bK (hO B aW)) (d:=0) (λ_=>ba cz iR) (W0)
def Jl(ρ:Type)(c:Tl B ρ):List (Addr×cg B ρ):=(124,aS c 0 5 (bA (ke aj)) Ji)::(145,aS c 0 1 (cX aj) Jk)::[]
theorem W3:∀e,e∈Jl ρ c->cJ (DB ρ c G o kp pc tb) r e.1 e.2:=aD (bo WW rfl) (aD (bo W2 rfl) cw)
abbrev W4:aX:=aY (H.az 18) "insert_token" 131 130 [S "builder",S "token"] []
theorem W5:ao 131 W4:=ao.o2
abbrev Cn:Lf B (aN×Unit):=kf λa b=>kG b a.1
theorem Jm:bk (λb n=>hp b G n) 6 131 (λa=>aV 1::Ps.enc (bt aj) a) Cn:=λa b r h Q q n=>by
 obtain⟨⟨k,nm,rest⟩,u⟩:=a;refine bE h λas h1 h2=>?_
 refine aF (RD h1) λtl e=>?_
 replace e:rest=.aG as::tl:=e
 subst e;exact iQ (D:=DB (U×B) au G 0 false bK (Jl (U×B) au)) (α:=Str×Str×List U×List U) (args:=λa=>[aV 1,.aG (.str a.1::.str a.2.1::.aG a.2.2.1::a.2.2.2)]) (F:=kf λa b=>jI b a.2.1 a.2.2.1) (d:=5) (λ_=>ba cz W3) W5 (λa b r h=>Eq.trans (b:=(jI b a.2.1 a.2.2.1).bind λr=>some (.int r.1,r.2)) (by kernel_rfl) (by rw[show jI b a.2.1 a.2.2.1=some r from h];rfl)) (λ_=>by kernel_rfl) (k,nm,as,tl) b r h2 Q q n
def Jn(ρ:Type)(c:Tl B ρ):List (Addr×cg B ρ):=(131,aS c 0 6 (bt aj) Cn)::(173,aS c 1 1 aj vi)::[]
theorem W6:∀e,e∈Jn ρ c->cJ (DB ρ c G o kp pc tb) r e.1 e.2:=aD (bo Jm rfl) (aD (bo yk rfl) cw)
abbrev W7:aX:=aY (H.az 19) "insert_void" 138 137 [S "builder",S "token"] []
theorem W8:ao 138 W7:=ao.o2
abbrev Jo:Lf B (aN×Unit):=kf λa b=>wY b a.1
theorem W9:bk (λb n=>hp b G n) 7 138 (λa=>aV 1::Ps.enc (bt aj) a) Jo:=iQ (D:=DB (U×B) au G 0 false bK (Jn (U×B) au)) (d:=6) (λ_=>ba cz W6) W8 (λa b r h=>Eq.trans (b:=(kG b a.1).bind λr=>(gu r.2).bind λr2=>some (.int r.1,{r2.2 with dD:=true})) (by kernel_rfl) (by
 refine bE h λr1 h1 h=>?_
 refine bE h λr2 h2 h=>?_
 rw[h1];show(gu r1.2).bind _=_;rw[h2,<-ack h];rfl)) (λ_=>by kernel_rfl)
end
theorem Co{x:α}:((if c=true then A else some x).bind k)=(if c=true then A.bind k else k x):=by induction c<;>rfl
noncomputable def yA:List Str->Bool
 |[_]|[_,_]|[_,_,_]=>true
 |_=>false
theorem Cp{l:List Str}(h:yA l=true):(∃x,l=[x])\/(∃x y,l=[x,y])\/∃x y z,l=[x,y,z]:=by
 cases l with
 |nil=>cases h
 |cons x l=>
  cases l with
  |nil=>exact .inl ⟨x,rfl⟩
  |cons y l=>
   cases l with
   |nil=>exact .inr (.inl ⟨x,y,rfl⟩)
   |cons z l=>
    induction l with
    |nil=>exact .inr (.inr ⟨x,y,z,rfl⟩)
    |cons=>cases h
def t0(ρ:Type)(c:Tl B ρ):List (Addr×cg B ρ):=(173,aS c 1 1 aj vi)::(222,aS c 1 2 aj yn)::(273,aS c 1 3 aj Iz)::(236,aS c 1 3 (kW aj) Iq)::(243,aS c 1 3 (kW aj) Ir)::(265,aS c 1 2 (kW (bA aj)) IE)::(131,aS c 0 6 (bt aj) Cn)::(138,aS c 0 7 (bt aj) Jo)::(124,aS c 0 5 (bA aj) Cm)::(99,aS c 0 4 (bA aj) Ci)::(843,aS c 0 1 (bA aj) yi)::(850,aS c 0 1 (bA aj) vh)::(634,aS c 2 1 aj Ij)::(641,aS c 2 1 aj Iu)::(187,aS c 1 1 aj ym)::(180,aS c 1 1 aj yl)::(301,aS c 0 3 aj IK)::[]
section
variable{G:AH}
theorem kh{pc:List (Addr×Nat×(List U->Option U))}:∀e,e∈t0 ρ c->cJ (DB ρ c G o kp pc tb) r e.1 e.2:=aD (bo yk rfl) (aD (bo B7 rfl) (aD (bo VA rfl) (aD (bo Vr rfl) (aD (bo Vs rfl) (aD (bo VK rfl) (aD (bo Jm rfl) (aD (bo W9 rfl) (aD (bo Jj rfl) (aD (bo Je rfl) (aD (bo B4 rfl) (aD (bo yj rfl) (aD (bo U6 rfl) (aD (bo Vt rfl) (aD (bo B6 rfl) (aD (bo B5 rfl) (aD (bo VX rfl) cw))))))))))))))))
abbrev Xa:aX:=aY (H.az 2) "is_space" 28 27 [S "c"] []
theorem Xb:ao 28 Xa:=ao.o1
abbrev Xc:aX:=aY (H.az 53) "is_table_child" 441 440 [S "name"] []
theorem Xd:ao 441 Xc:=ao.o1
abbrev Xe:aX:=aY (H.az 33) "is_space_token" 315 314 [S "token"] []
theorem Xf:ao 315 Xe:=ao.o1
abbrev Xg:aX:=aY (H.az 52) "unexpected" 434 433 [S "token"] []
theorem Xh:ao 434 Xg:=ao.o1
def Jp:List (Addr×Nat×(List U->Option U)):=[(28,1,λxs=>((bA aj).p xs).bind λq=>some (.bool (fj q.1)))]
theorem Xi{B:α}:(if a=true then some (x,B)else if b=true then some (y,B)else some (z,B))=some ((if a=true then x else if b=true then y else z),B):=by induction a<;>induction b<;>rfl
theorem Jq:lP 28 (1,λxs=>(Ps.p (bA aj) xs).bind λq=>some (.bool (fj q.1))):=λxs y h X Q q=>bE h λa h1 h=>by
 replace q:=sE (X:=λy=>Q y X->Q (.bool (fj a.1)) X) h id q
 rw[Ps.ok _ _ _ h1];exact run (D:=DP (Bool×AH) bK) (d:=0) (z:=X) (tf:=false) (ht:=λe=>nomatch e) (r:=((fj a.1),X)) (fin:=lM) (qJ cz) Xb (h:=by kernel_rfl) (q:=λfl m z n e=>bE e λc e1 e2=>by
  cases e2;rw[iw e1];exact q) (n:=0) (hl:=by kernel_rfl)
theorem Xj:∀e,e∈Jp->lP e.1 e.2:=aD Jq cw
theorem Xk:lP 441 (1,λxs=>(Ps.p (bA aj) xs).bind λq=>some (.bool (ar jG q.1))):=λxs y h X Q q=>bE h λa h1 h=>by
 replace q:=sE (X:=λy=>Q y X->Q (.bool (ar jG a.1)) X) h id q
 rw[Ps.ok _ _ _ h1];exact run (D:=DP (Bool×AH) bK) (d:=0) (z:=X) (tf:=false) (ht:=λe=>nomatch e) (r:=((ar jG a.1),X)) (fin:=lM) (qJ cz) Xd (h:=by kernel_rfl) (q:=λfl m z n e=>bE e λc e1 e2=>by
  cases e2;rw[iw e1];exact q) (n:=0) (hl:=by kernel_rfl)
theorem Xl:lP 315 (2,λxs=>(Ps.p (bt aj) xs).bind λq=>some (.bool (q.1.kind==S "char"&&fj q.1.name))):=λxs y h X Q q=>bE h λa h1 h=>by
 replace q:=sE (X:=λy=>Q y X->Q (.bool (a.1.kind==S "char"&&fj a.1.name)) X) h id q
 rw[Ps.ok _ _ _ h1];exact run (D:=DP (Bool×AH) Jp) (d:=1) (z:=X) (tf:=false) (ht:=λe=>nomatch e) (r:=((a.1.kind==S "char"&&fj a.1.name),X)) (fin:=lM) (qJ Xj) Xf (h:=by kernel_rfl) (q:=λfl m z n e=>bE e λc e1 e2=>by
  cases e2;rw[iw e1];exact q) (n:=0) (hl:=by kernel_rfl)
theorem Xm:lP 434 (1,λxs=>(Ps.p (bt aj) xs).bind λq=>some (.str (rZ q.1))):=λxs y h X Q q=>bE h λa h1 h=>by
 replace q:=sE (X:=λy=>Q y X->Q (.str (rZ a.1)) X) h id q
 rw[Ps.ok _ _ _ h1];exact run (D:=DP (Str×AH) bK) (d:=0) (z:=X) (tf:=false) (ht:=λe=>nomatch e) (r:=((rZ a.1),X)) (fin:=Ii) (qJ cz) Xh (h:=Eq.trans (by rfl) (Xi (a:=a.1.kind==S "start") (b:=a.1.kind==S "end") (x:=S "unexpected-start-tag") (y:=S "unexpected-end-tag") (z:=S "unexpected-text"))) (q:=λfl m z n e=>bE e λc e1 e2=>by
  cases e2;rw[ed e1];exact q) (n:=0) (hl:=by kernel_rfl)
theorem cx:∀e,e∈b7->lP e.1 e.2:=aD Xk (aD Jq (aD Xl (aD Xm cw)))
abbrev Xn:aX:=aY (H.az 35) "pop_to_table" 322 321 [S "builder"] []
theorem Xo:ao 322 Xn:=ao.o1
abbrev Jr:Lf B Unit:=cj λ_ b=>Fp b
abbrev Xp:aX:=aY (H.az 36) "pop_to_body" 329 328 [S "builder"] []
theorem Xq:ao 329 Xp:=ao.o1
abbrev Js:Lf B Unit:=cj λ_ b=>w3 b
abbrev Xr:aX:=aY (H.az 37) "pop_to_row" 336 335 [S "builder"] []
theorem Xs:ao 336 Xr:=ao.o1
abbrev Jt:Lf B Unit:=cj λ_ b=>Aq b
abbrev Xu:aX:=aY (H.az 89) "_law_body" 921 920 [S "builder",S "token"] []
theorem Xv:ao 921 Xu:=ao.o2
abbrev mD:Lf B (aN×Unit):=cj λa b=>lA b a.1
abbrev Xw:aX:=aY (H.az 54) "has_in_table" 448 447 [S "builder",S "token",S "names"] []
theorem Cq:ao 448 Xw:=ao.o3
abbrev Ju:Lf B (aN×List Str×Unit):=sM λa b=>cond (yA a.2.1) (jK b a.1 a.2.1) none
abbrev Xx:aX:=aY (H.az 55) "pop_marked" 455 454 [S "builder",S "names",S "mode"] []
theorem Cr:ao 455 Xx:=ao.o3
abbrev Jv:Lf B (List Str×Str×Unit):=cj λa b=>cond (yA a.1) (lB b a.1 a.2.1) none
abbrev Xy:aX:=aY (H.az 39) "close_table" 350 349 [S "builder"] []
theorem Xz:ao 350 Xy:=ao.o1
abbrev Jw:Lf B Unit:=sM λ_ b=>w4 b
theorem XA:bk (λb n=>hp b G n) 4 322 (λa=>aV 1::Ps.enc aj a) Jr:=runN (D:=DB B aW G 0 false b7 (t0 B aW)) (d:=3) (λ_=>ba cx kh) (Xo)
theorem XB:bk (λb n=>hp b G n) 4 329 (λa=>aV 1::Ps.enc aj a) Js:=runN (D:=DB B aW G 0 false b7 (t0 B aW)) (d:=3) (λ_=>ba cx kh) (Xq)
theorem XD:bk (λb n=>hp b G n) 4 336 (λa=>aV 1::Ps.enc aj a) Jt:=runN (D:=DB B aW G 0 false b7 (t0 B aW)) (d:=3) (λ_=>ba cx kh) (Xs)
theorem Ct:bk (λb n=>hp b G n) 7 921 (λa=>aV 1::Ps.enc (bt aj) a) mD:=runN (D:=DB B aW G 0 false b7 (t0 B aW)) (d:=6) (λ_=>ba cx kh) (Xv)
theorem XE:bk (λb n=>hp b G n) 3 448 (λa=>aV 1::Ps.enc (bt (kW aj)) a) Ju:=λa b r h Q q n=>cE h λhc h=>by
 obtain⟨a0,a1,u⟩:=a;rcases Cp hc with⟨x,e⟩|⟨x,y,e⟩|⟨x,y,z,e⟩
 ·subst e;exact nK (D:=DB (Bool×B) au G 0 false b7 (t0 (Bool×B) au)) (α:=aN×Str) (args:=λa=>[aV 1,bT a.1,iP [a.2]]) (m:=λa b=>jK b a.1 [a.2]) (d:=2) (λ_=>ba cx kh) Cq (λa z=>by kernel_rfl) (λ_=>by kernel_rfl) (a0,x) b r h Q q n
 ·subst e;exact nK (D:=DB (Bool×B) au G 0 false b7 (t0 (Bool×B) au)) (α:=aN×Str×Str) (args:=λa=>[aV 1,bT a.1,iP [a.2.1,a.2.2]]) (m:=λa b=>jK b a.1 [a.2.1,a.2.2]) (d:=2) (λ_=>ba cx kh) Cq (λa z=>by kernel_rfl) (λ_=>by kernel_rfl) (a0,x,y) b r h Q q n
 ·subst e;exact nK (D:=DB (Bool×B) au G 0 false b7 (t0 (Bool×B) au)) (α:=aN×Str×Str×Str) (args:=λa=>[aV 1,bT a.1,iP [a.2.1,a.2.2.1,a.2.2.2]]) (m:=λa b=>jK b a.1 [a.2.1,a.2.2.1,a.2.2.2]) (d:=2) (λ_=>ba cx kh) Cq (λa z=>by kernel_rfl) (λ_=>by kernel_rfl) (a0,x,y,z) b r h Q q n
theorem XF:bk (λb n=>hp b G n) 5 455 (λa=>aV 1::Ps.enc (kW (bA aj)) a) Jv:=λa b r h Q q n=>cE h λhc h=>by
 obtain⟨a0,a1,u⟩:=a;rcases Cp hc with⟨x,e⟩|⟨x,y,e⟩|⟨x,y,z,e⟩
 ·subst e;exact runN (D:=DB B aW G 0 false b7 (t0 B aW)) (α:=Str×Str) (args:=λa=>[aV 1,iP [a.2],.str a.1]) (m:=λa b=>lB b [a.2] a.1) (d:=4) (λ_=>ba cx kh) Cr (λa z=>Eq.trans (by kernel_rfl) (sP λb1=>sP λs=>Co.symm)) rfl (λ_=>by kernel_rfl) (a1,x) b r h Q q n
 ·subst e;exact runN (D:=DB B aW G 0 false b7 (t0 B aW)) (α:=Str×Str×Str) (args:=λa=>[aV 1,iP [a.2.1,a.2.2],.str a.1]) (m:=λa b=>lB b [a.2.1,a.2.2] a.1) (d:=4) (λ_=>ba cx kh) Cr (λa z=>Eq.trans (by kernel_rfl) (sP λb1=>sP λs=>Co.symm)) rfl (λ_=>by kernel_rfl) (a1,x,y) b r h Q q n
 ·subst e;exact runN (D:=DB B aW G 0 false b7 (t0 B aW)) (α:=Str×Str×Str×Str) (args:=λa=>[aV 1,iP [a.2.1,a.2.2.1,a.2.2.2],.str a.1]) (m:=λa b=>lB b [a.2.1,a.2.2.1,a.2.2.2] a.1) (d:=4) (λ_=>ba cx kh) Cr (λa z=>Eq.trans (by kernel_rfl) (sP λb1=>sP λs=>Co.symm)) rfl (λ_=>by kernel_rfl) (a1,x,y,z) b r h Q q n
theorem XG:bk (λb n=>hp b G n) 5 350 (λa=>aV 1::Ps.enc aj a) Jw:=nK (D:=DB (Bool×B) au G 0 false b7 (t0 (Bool×B) au)) (d:=4) (λ_=>ba cx kh) (Xz)
def tq(ρ:Type)(c:Tl B ρ):List (Addr×cg B ρ):=(921,aS c 0 7 (bt aj) mD)::[]
theorem XH{pc:List (Addr×Nat×(List U->Option U))}:∀e,e∈tq ρ c->cJ (DB ρ c G o kp pc tb) r e.1 e.2:=aD (bo Ct rfl) (cw)
abbrev vp:aX:=aY (H.sub 83 3) "Builder.use" 857 856 [S "self",S "name",S "token"] []
theorem yB:ao 857 vp:=ao.o3
abbrev Jx:Lf B (Str×aN×Unit):=⟨B,λa b=>cond (a.1==S "in body") (mD.m (a.2.1,()) b) none,λ_=>.none,λ_ z=>z,some (λa b=>cond (a.1==S "in body") (mD.m (a.2.1,()) b) none),λg e a z r h=>by obtain rfl:=ack e;exact⟨r,h,rfl⟩⟩
theorem XI:bk (λb n=>hp b G n) 8 857 (λa=>aV 1::Ps.enc (bA (bt aj)) a) Jx:=λa b r h Q q n=>by
 obtain⟨md,t,u⟩:=a;refine dE h (λc h=>?_) λ_ h=>?_
 ·replace c:md=S "in body":=afr.mp c
  subst c;exact runN (D:=DB B aW G 0 false b7 (tq B aW)) (α:=aN) (args:=λt=>[aV 1,.str (S "in body"),bT t]) (m:=λt b=>mD.m (t,()) b) (d:=7) (λ_=>ba cx XH) yB (λa z=>by kernel_rfl) rfl (λ_=>by kernel_rfl) t b r h Q q n
 exact af h
def t1(ρ:Type)(c:Tl B ρ):List (Addr×cg B ρ):=(322,aS c 0 4 aj Jr)::(329,aS c 0 4 aj Js)::(336,aS c 0 4 aj Jt)::(448,aS c 0 3 (bt (kW aj)) Ju)::(455,aS c 0 5 (kW (bA aj)) Jv)::(350,aS c 0 5 aj Jw)::(857,aS c 0 8 (bA (bt aj)) Jx)::t0 ρ c
theorem o7{pc:List (Addr×Nat×(List U->Option U))}:∀e,e∈t1 ρ c->cJ (DB ρ c G o kp pc tb) r e.1 e.2:=aD (bo XA rfl) (aD (bo XB rfl) (aD (bo XD rfl) (aD (bo XE rfl) (aD (bo XF rfl) (aD (bo XG rfl) (aD (bo XI rfl) kh))))))
abbrev XJ:aX:=aY (H.az 38) "outside_table" 343 342 [S "builder",S "token"] []
theorem XK:ao 343 XJ:=ao.o2
abbrev Cu:Lf B (aN×Unit):=cj λa b=>ni b a.1
abbrev XM:aX:=aY (H.az 56) "close_caption" 462 461 [S "builder",S "token"] []
theorem XN:ao 462 XM:=ao.o2
abbrev Jy:Lf B (aN×Unit):=sM λa b=>w7 b a.1
abbrev XO:aX:=aY (H.az 61) "close_body" 497 496 [S "builder",S "token",S "names"] []
theorem Cv:ao 497 XO:=ao.o3
abbrev Jz:Lf B (aN×List Str×Unit):=sM λa b=>cond (yA a.2.1) (oM b a.1 a.2.1) none
abbrev XQ:aX:=aY (H.az 65) "close_row" 525 524 [S "builder",S "token"] []
theorem XR:ao 525 XQ:=ao.o2
abbrev JA:Lf B (aN×Unit):=sM λa b=>r5 b a.1
abbrev XS:aX:=aY (H.az 69) "close_cell" 553 552 [S "builder"] []
theorem XT:ao 553 XS:=ao.o1
abbrev JB:Lf B Unit:=cj λ_ b=>Ax b
theorem JC:bk (λb n=>hp b G n) 9 343 (λa=>aV 1::Ps.enc (bt aj) a) Cu:=runN (D:=DB B aW G 0 false b7 (t1 B aW)) (d:=8) (λ_=>ba cx o7) (XK)
theorem XU:bk (λb n=>hp b G n) 6 462 (λa=>aV 1::Ps.enc (bt aj) a) Jy:=nK (D:=DB (Bool×B) au G 0 false b7 (t1 (Bool×B) au)) (d:=5) (λ_=>ba cx o7) (XN)
theorem XW:bk (λb n=>hp b G n) 5 497 (λa=>aV 1::Ps.enc (bt (kW aj)) a) Jz:=λa b r h Q q n=>cE h λhc h=>by
 obtain⟨a0,a1,u⟩:=a;rcases Cp hc with⟨x,e⟩|⟨x,y,e⟩|⟨x,y,z,e⟩
 ·subst e;exact nK (D:=DB (Bool×B) au G 0 false b7 (t1 (Bool×B) au)) (α:=aN×Str) (args:=λa=>[aV 1,bT a.1,iP [a.2]]) (m:=λa b=>oM b a.1 [a.2]) (d:=4) (λ_=>ba cx o7) Cv (λa z=>by kernel_rfl) (λ_=>by kernel_rfl) (a0,x) b r h Q q n
 ·subst e;exact nK (D:=DB (Bool×B) au G 0 false b7 (t1 (Bool×B) au)) (α:=aN×Str×Str) (args:=λa=>[aV 1,bT a.1,iP [a.2.1,a.2.2]]) (m:=λa b=>oM b a.1 [a.2.1,a.2.2]) (d:=4) (λ_=>ba cx o7) Cv (λa z=>by kernel_rfl) (λ_=>by kernel_rfl) (a0,x,y) b r h Q q n
 ·subst e;exact nK (D:=DB (Bool×B) au G 0 false b7 (t1 (Bool×B) au)) (α:=aN×Str×Str×Str) (args:=λa=>[aV 1,bT a.1,iP [a.2.1,a.2.2.1,a.2.2.2]]) (m:=λa b=>oM b a.1 [a.2.1,a.2.2.1,a.2.2.2]) (d:=4) (λ_=>ba cx o7) Cv (λa z=>by kernel_rfl) (λ_=>by kernel_rfl) (a0,x,y,z) b r h Q q n
theorem XX:bk (λb n=>hp b G n) 5 525 (λa=>aV 1::Ps.enc (bt aj) a) JA:=nK (D:=DB (Bool×B) au G 0 false b7 (t1 (Bool×B) au)) (d:=4) (λ_=>ba cx o7) (XR)
theorem XY:bk (λb n=>hp b G n) 6 553 (λa=>aV 1::Ps.enc aj a) JB:=runN (D:=DB B aW G 0 false b7 (t1 B aW)) (d:=5) (λ_=>ba cx o7) (XT)
end
abbrev yC(p:b6):Lf B (aN×Unit):=cj λa b=>p b a.1
theorem Cw(P:du G dp p):bk (λb n=>hp b G n) (dp+0) 864 (λa=>aV 1::Ps.enc (bt aj) a) (yC p):=λa b r h Q q n=>P _ _ _ n Q h q
def t3(ρ:Type)(c:Tl B ρ)(p:b6):List (Addr×cg B ρ):=(864,aS c 0 0 (bt aj) (yC p))::(343,aS c 0 9 (bt aj) Cu)::(462,aS c 0 6 (bt aj) Jy)::(497,aS c 0 5 (bt (kW aj)) Jz)::(525,aS c 0 5 (bt aj) JA)::(553,aS c 0 6 aj JB)::t1 ρ c
section
variable{G:AH}
theorem o8(P:du G dp p):∀e,e∈t3 ρ c p->cJ (DB ρ c G dp kp pc tb) r e.1 e.2:=aD (eQ (o:=dp) (Cw P) (afm _) rfl) (aD (bo JC rfl) (aD (bo XU rfl) (aD (bo XW rfl) (aD (bo XX rfl) (aD (bo XY rfl) o7)))))
abbrev XZ:aX:=aY (H.az 40) "open_part" 357 356 [S "builder",S "token"] []
theorem X2:ao 357 XZ:=ao.o2
abbrev JD(p:b6):Lf B (aN×Unit):=cj λa b=>Fq p b a.1
abbrev X4:aX:=aY (H.az 41) "table_in_table" 364 363 [S "builder",S "token"] []
theorem X5:ao 364 X4:=ao.o2
abbrev JE(p:b6):Lf B (aN×Unit):=cj λa b=>Fs p b a.1
abbrev X6:aX:=aY (H.az 57) "in_caption" 469 468 [S "builder",S "token"] []
theorem X7:ao 469 X6:=ao.o2
abbrev JF(p:b6):Lf B (aN×Unit):=cj λa b=>Ar p b a.1
abbrev X8:aX:=aY (H.az 58) "leave_columns" 476 475 [S "builder",S "token",S "is_again"] []
theorem X9:ao 476 X8:=ao.o3
abbrev JG(p:b6):Lf B (aN×Bool×Unit):=cj λa b=>As p b a.1 a.2.1
abbrev Yb:aX:=aY (H.az 45) "end_in_table" 392 391 [S "builder",S "token"] []
theorem Yc:ao 392 Yb:=ao.o2
abbrev JH(p:b6):Lf B (aN×Unit):=cj λa b=>Fu b a.1
abbrev Yd:aX:=aY (H.az 46) "sign_in_table" 399 398 [S "builder",S "token"] []
theorem Ye:ao 399 Yd:=ao.o2
abbrev JJ(p:b6):Lf B (aN×Unit):=cj λa b=>Fv p b a.1
abbrev Yg:aX:=aY (H.az 70) "end_in_cell" 560 559 [S "builder",S "token"] []
theorem Yh:ao 560 Yg:=ao.o2
abbrev JK(p:b6):Lf B (aN×Unit):=cj λa b=>FD p b a.1
theorem Yi(P:du G dp p):bk (λb n=>hp b G n) (dp+20) 357 (λa=>aV 1::Ps.enc (bt aj) a) (JD p):=runN (D:=DB B aW G dp false b7 (t3 B aW p)) (d:=19) (λ_=>ba cx (o8 P)) (X2)
theorem Yj(P:du G dp p):bk (λb n=>hp b G n) (dp+20) 364 (λa=>aV 1::Ps.enc (bt aj) a) (JE p):=runN (D:=DB B aW G dp false b7 (t3 B aW p)) (d:=19) (λ_=>ba cx (o8 P)) (X5)
theorem Yk(P:du G dp p):bk (λb n=>hp b G n) (dp+20) 469 (λa=>aV 1::Ps.enc (bt aj) a) (JF p):=runN (D:=DB B aW G dp false b7 (t3 B aW p)) (d:=19) (λ_=>ba cx (o8 P)) (X7)
theorem Yl(P:du G dp p):bk (λb n=>hp b G n) (dp+20) 476 (λa=>aV 1::Ps.enc (bt (HP aj)) a) (JG p):=runN (D:=DB B aW G dp false b7 (t3 B aW p)) (d:=19) (λ_=>ba cx (o8 P)) (X9)
theorem Ym(P:du G dp p):bk (λb n=>hp b G n) (dp+20) 392 (λa=>aV 1::Ps.enc (bt aj) a) (JH p):=runN (D:=DB B aW G dp false b7 (t3 B aW p)) (d:=19) (λ_=>ba cx (o8 P)) (Yc)
theorem Yn(P:du G dp p):bk (λb n=>hp b G n) (dp+20) 399 (λa=>aV 1::Ps.enc (bt aj) a) (JJ p):=runN (D:=DB B aW G dp false b7 (t3 B aW p)) (d:=19) (λ_=>ba cx (o8 P)) (Ye)
theorem Yo(P:du G dp p):bk (λb n=>hp b G n) (dp+20) 560 (λa=>aV 1::Ps.enc (bt aj) a) (JK p):=runN (D:=DB B aW G dp false b7 (t3 B aW p)) (d:=19) (λ_=>ba cx (o8 P)) (Yh)
def t4(ρ:Type)(c:Tl B ρ)(p:b6):List (Addr×cg B ρ):=(357,aS c 0 20 (bt aj) (JD p))::(364,aS c 0 20 (bt aj) (JE p))::(476,aS c 0 20 (bt (HP aj)) (JG p))::(392,aS c 0 20 (bt aj) (JH p))::(399,aS c 0 20 (bt aj) (JJ p))::(560,aS c 0 20 (bt aj) (JK p))::t3 ρ c p
theorem yD(P:du G dp p):∀e,e∈t4 ρ c p->cJ (DB ρ c G dp kp pc tb) r e.1 e.2:=aD (eQ (o:=dp) (Yi P) (afm _) rfl) (aD (eQ (o:=dp) (Yj P) (afm _) rfl) (aD (eQ (o:=dp) (Yl P) (afm _) rfl) (aD (eQ (o:=dp) (Ym P) (afm _) rfl) (aD (eQ (o:=dp) (Yn P) (afm _) rfl) (aD (eQ (o:=dp) (Yo P) (afm _) rfl) (o8 P))))))
abbrev Yp:aX:=aY (H.az 44) "start_in_table" 385 384 [S "builder",S "token"] []
theorem Yq:ao 385 Yp:=ao.o2
abbrev JL(p:b6):Lf B (aN×Unit):=cj λa b=>Ft p b a.1
abbrev Yr:aX:=aY (H.az 59) "tag_in_columns" 483 482 [S "builder",S "token"] []
theorem Ys:ao 483 Yr:=ao.of rfl (λS=>all2 λx y=>(by kernel_rfl)) (λ_ _ _ _=>.nil) rfl rfl
abbrev JM(p:b6):Lf B (aN×Unit):=cj λa b=>Fw p b a.1
abbrev Yt:aX:=aY (H.az 71) "in_cell" 567 566 [S "builder",S "token"] []
theorem Yu:ao 567 Yt:=ao.o2
abbrev JN(p:b6):Lf B (aN×Unit):=cj λa b=>Ay p b a.1
theorem Yv(P:du G dp p):bk (λb n=>hp b G n) (dp+21) 385 (λa=>aV 1::Ps.enc (bt aj) a) (JL p):=runN (D:=DB B aW G dp false b7 (t4 B aW p)) (d:=20) (λ_=>ba cx (yD P)) (Yq)
theorem Yw(P:du G dp p):bk (λb n=>hp b G n) (dp+21) 483 (λa=>aV 1::Ps.enc (bt aj) a) (JM p):=runN (D:=DB B aW G dp false b7 (t4 B aW p)) (d:=20) (λ_=>ba cx (yD P)) (Ys)
theorem Yx(P:du G dp p):bk (λb n=>hp b G n) (dp+21) 567 (λa=>aV 1::Ps.enc (bt aj) a) (JN p):=runN (D:=DB B aW G dp false b7 (t4 B aW p)) (d:=20) (λ_=>ba cx (yD P)) (Yu)
def t5(ρ:Type)(c:Tl B ρ)(p:b6):List (Addr×cg B ρ):=(385,aS c 0 21 (bt aj) (JL p))::(483,aS c 0 21 (bt aj) (JM p))::t4 ρ c p
theorem Cx(P:du G dp p):∀e,e∈t5 ρ c p->cJ (DB ρ c G dp kp pc tb) r e.1 e.2:=aD (eQ (o:=dp) (Yv P) (afm _) rfl) (aD (eQ (o:=dp) (Yw P) (afm _) rfl) (yD P))
abbrev Yy:aX:=aY (H.az 47) "in_table" 406 405 [S "builder",S "token"] []
theorem Yz:ao 406 Yy:=ao.o2
abbrev sT(p:b6):Lf B (aN×Unit):=cj λa b=>nj p b a.1
abbrev YA:aX:=aY (H.az 60) "in_column_group" 490 489 [S "builder",S "token"] []
theorem YB:ao 490 YA:=ao.o2
abbrev JO(p:b6):Lf B (aN×Unit):=cj λa b=>Au p b a.1
theorem JP(P:du G dp p):bk (λb n=>hp b G n) (dp+22) 406 (λa=>aV 1::Ps.enc (bt aj) a) (sT p):=runN (D:=DB B aW G dp false b7 (t5 B aW p)) (d:=21) (λ_=>ba cx (Cx P)) (Yz)
theorem YC(P:du G dp p):bk (λb n=>hp b G n) (dp+22) 490 (λa=>aV 1::Ps.enc (bt aj) a) (JO p):=runN (D:=DB B aW G dp false b7 (t5 B aW p)) (d:=21) (λ_=>ba cx (Cx P)) (YB)
def tu(ρ:Type)(c:Tl B ρ)(p:b6):List (Addr×cg B ρ):=(406,aS c 0 22 (bt aj) (sT p))::(921,aS c 0 7 (bt aj) mD)::[]
theorem JQ(P:du G dp p):∀e,e∈tu ρ c p->cJ (DB ρ c G dp kp pc tb) r e.1 e.2:=aD (eQ (o:=dp) (JP P) (afm _) rfl) (aD (bo Ct rfl) cw)
abbrev JR(p:b6):Lf B (Str×aN×Unit):=⟨B,λa b=>cond (a.1==S "in body") (mD.m (a.2.1,()) b) (cond (a.1==S "in table") ((sT p).m (a.2.1,()) b) none),λ_=>.none,λ_ z=>z,some (λa b=>cond (a.1==S "in body") (mD.m (a.2.1,()) b) (cond (a.1==S "in table") ((sT p).m (a.2.1,()) b) none)),λg e a z r h=>by obtain rfl:=ack e;exact⟨r,h,rfl⟩⟩
theorem YD(P:du G dp p):bk (λb n=>hp b G n) (dp+23) 857 (λa=>aV 1::Ps.enc (bA (bt aj)) a) (JR p):=λa b r h Q q n=>by
 obtain⟨md,t,u⟩:=a;refine dE h (λc h=>?_) λ_ h=>?_
 ·replace c:md=S "in body":=afr.mp c
  subst c;exact runN (D:=DB B aW G dp false b7 (tu B aW p)) (α:=aN) (args:=λt=>[aV 1,.str (S "in body"),bT t]) (m:=λt b=>mD.m (t,()) b) (d:=22) (λ_=>ba cx (JQ P)) yB (λa z=>by kernel_rfl) rfl (λ_=>by kernel_rfl) t b r h Q q n
 refine dE h (λc h=>?_) λ_ h=>?_
 ·replace c:md=S "in table":=afr.mp c
  subst c;exact runN (D:=DB B aW G dp false b7 (tu B aW p)) (α:=aN) (args:=λt=>[aV 1,.str (S "in table"),bT t]) (m:=λt b=>(sT p).m (t,()) b) (d:=22) (λ_=>ba cx (JQ P)) yB (λa z=>by kernel_rfl) rfl (λ_=>by kernel_rfl) t b r h Q q n
 exact af h
def t6(ρ:Type)(c:Tl B ρ)(p:b6):List (Addr×cg B ρ):=(857,aS c 0 23 (bA (bt aj)) (JR p))::t5 ρ c p
theorem vq(P:du G dp p):∀e,e∈t6 ρ c p->cJ (DB ρ c G dp kp pc tb) r e.1 e.2:=aD (eQ (o:=dp) (YD P) (afm _) rfl) (Cx P)
abbrev YE:aX:=aY (H.az 62) "start_in_body" 504 503 [S "builder",S "token"] []
theorem YF:ao 504 YE:=ao.o2
abbrev JS(p:b6):Lf B (aN×Unit):=cj λa b=>Fx p b a.1
abbrev YG:aX:=aY (H.az 63) "end_in_body" 511 510 [S "builder",S "token"] []
theorem YH:ao 511 YG:=ao.o2
abbrev JT(p:b6):Lf B (aN×Unit):=cj λa b=>Fy p b a.1
abbrev YI:aX:=aY (H.az 66) "start_in_row" 532 531 [S "builder",S "token"] []
theorem YJ:ao 532 YI:=ao.o2
abbrev JU(p:b6):Lf B (aN×Unit):=cj λa b=>Fz p b a.1
abbrev YK:aX:=aY (H.az 67) "end_in_row" 539 538 [S "builder",S "token"] []
theorem YL:ao 539 YK:=ao.o2
abbrev JV(p:b6):Lf B (aN×Unit):=cj λa b=>FA p b a.1
theorem YM(P:du G dp p):bk (λb n=>hp b G n) (dp+24) 504 (λa=>aV 1::Ps.enc (bt aj) a) (JS p):=runN (D:=DB B aW G dp false b7 (t6 B aW p)) (d:=23) (λ_=>ba cx (vq P)) (YF)
theorem YN(P:du G dp p):bk (λb n=>hp b G n) (dp+24) 511 (λa=>aV 1::Ps.enc (bt aj) a) (JT p):=runN (D:=DB B aW G dp false b7 (t6 B aW p)) (d:=23) (λ_=>ba cx (vq P)) (YH)
theorem YO(P:du G dp p):bk (λb n=>hp b G n) (dp+24) 532 (λa=>aV 1::Ps.enc (bt aj) a) (JU p):=runN (D:=DB B aW G dp false b7 (t6 B aW p)) (d:=23) (λ_=>ba cx (vq P)) (YJ)
theorem YQ(P:du G dp p):bk (λb n=>hp b G n) (dp+24) 539 (λa=>aV 1::Ps.enc (bt aj) a) (JV p):=runN (D:=DB B aW G dp false b7 (t6 B aW p)) (d:=23) (λ_=>ba cx (vq P)) (YL)
def t7(ρ:Type)(c:Tl B ρ)(p:b6):List (Addr×cg B ρ):=(504,aS c 0 24 (bt aj) (JS p))::(511,aS c 0 24 (bt aj) (JT p))::(532,aS c 0 24 (bt aj) (JU p))::(539,aS c 0 24 (bt aj) (JV p))::t6 ρ c p
theorem JW(P:du G dp p):∀e,e∈t7 ρ c p->cJ (DB ρ c G dp kp pc tb) r e.1 e.2:=aD (eQ (o:=dp) (YM P) (afm _) rfl) (aD (eQ (o:=dp) (YN P) (afm _) rfl) (aD (eQ (o:=dp) (YO P) (afm _) rfl) (aD (eQ (o:=dp) (YQ P) (afm _) rfl) (vq P))))
abbrev YR:aX:=aY (H.az 64) "in_table_body" 518 517 [S "builder",S "token"] []
theorem YS:ao 518 YR:=ao.of rfl (λS=>all2 λx y=>rfl) (λ_ _ _ _=>.nil) rfl (by kernel_rfl)
abbrev JX(p:b6):Lf B (aN×Unit):=cj λa b=>Av p b a.1
abbrev YT:aX:=aY (H.az 68) "in_row" 546 545 [S "builder",S "token"] []
theorem YU:ao 546 YT:=ao.o2
abbrev JY(p:b6):Lf B (aN×Unit):=cj λa b=>Aw p b a.1
theorem YV(P:du G dp p):bk (λb n=>hp b G n) (dp+25) 518 (λa=>aV 1::Ps.enc (bt aj) a) (JX p):=runN (D:=DB B aW G dp false b7 (t7 B aW p)) (d:=24) (λ_=>ba cx (JW P)) (YS)
theorem YW(P:du G dp p):bk (λb n=>hp b G n) (dp+25) 546 (λa=>aV 1::Ps.enc (bt aj) a) (JY p):=runN (D:=DB B aW G dp false b7 (t7 B aW p)) (d:=24) (λ_=>ba cx (JW P)) (YU)
end
def JZ:Stmt->Option (Str×Str×List Stmt)
 |.For t i b o _=>cond o.isEmpty ((lO (vw t)).bind λx=>(lO (vw i)).bind λy=>some (x,y,b)) none
 |_=>none
theorem YX(h:JZ s=some q):∃xp yp pos,s=.For (.Name q.1 xp) (.Name q.2.1 yp) q.2.2 [] pos:=by
 induction s using Stmt.casesOn with
 |For t i b o p=>
  refine cE h λho h=>bE h λx h1 h=>bE h λy h2 h5=>?_
  obtain⟨p1,rfl⟩:=mw h1;obtain⟨p2,rfl⟩:=mw h2
  induction o with
  |cons=>cases ho
  |nil=>exact sE (X:=λq:Str×Str×List Stmt=>∃xp yp pos,Stmt.For (.Name x p1) (.Name y p2) b [] p=.For (.Name q.1 xp) (.Name q.2.1 yp) q.2.2 [] pos) h5 ⟨_,_,_,rfl⟩
 |_=>exact af h
section
variable{Z:Type}{d:Nat}{f:aP}{m:Lo}
theorem Ex.sI{D:Dm Z (Fl×Lo×Z)}(O:∀r,iz D r){s:Stmt}{x y:Str}{body:List Stmt}{Q:Fl->Lo->AH->Prop}
  (hs:JZ s=some (x,y,body))(hx:(iu f x&&iu f y)=true){v:U}(hv:m.lookup y=some v)(I:Nat->Lo->Z->Prop){z0:Z}{xs:List U}
  (h0:I 0 m z0)(it:∀i m z,I i m z->∀n',d8 (D.hz z n') v xs)
  (turn:∀i y m z,I i m z->xs[i]?=some y->∃mc r,bU mc ((x,y)::m)/\(ms D 50).L d f mc body z false (λfl m z=>some (fl,m,z))=some r/\(match r.1 with
   |.next|.cont=>I (i+1) r.2.1 r.2.2
   |.brk=>∀n',Q .next r.2.1 (D.hz r.2.2 n')
   |.ret v=>∀n',Q (.ret v) r.2.1 (D.hz r.2.2 n')))
  (done:∀m z,I xs.length m z->∀n',Q .next m (D.hz z n'))(n:Nat):dh (D.o+d) f m (D.hz z0 n) s Q:=by
 refine cps λG k=>?_
 obtain⟨xp,yp,pos,e⟩:=YX hs;refine k ?_;rw[e];rw[afi]at hx;refine Ex.forIn (cQ hx.1) (λi m' H'=>∃z' n',H'=D.hz z' n'/\I i m' z') xs (Ev.local (.of hv) (cQ hx.2) ⟨⟨z0,n,rfl,h0⟩,λi m' H' i1=>cG i1 λz' n' e i1=>e▸it _ _ _ i1 n'⟩) (λi y m' H' i1 hy=>?_) (λm' H' i1=>?_)
 ·obtain⟨z',n',rfl,i1⟩:=i1;refine cps λG k=>?_
  obtain⟨mc,r,l,e,t⟩:=turn _ _ _ _ i1 hy;refine k ?_;refine Ex.sub l ((kU (O _) 50).L _ _ _ _ _ _ _ e (λe=>nomatch e) _ (λfl m2 z2 n2 h=>?_) n')
  have h:=ack h;subst h
  induction fl with
  |next=>exact⟨_,_,rfl,t⟩
  |cont=>exact⟨_,_,rfl,t⟩
  |brk=>exact t n2
  |ret v=>exact t n2
 ·obtain⟨z',n',rfl,i1⟩:=i1;exact Ex.nil (done _ _ i1 n')
end
def mE(ρ:Type)(c:Tl B ρ):List (Addr×cg B ρ):=(99,aS c 0 4 (bA aj) Ci)::(343,aS c 0 9 (bt aj) Cu)::[]
section
variable{G:AH}
theorem vr:∀e,e∈mE ρ c->cJ (DB ρ c G o kp pc tb) r e.1 e.2:=aD (bo Je rfl) (aD (bo JC rfl) cw)
end
abbrev gT:aX:=aY (H.az 48) "flush_pending" 413 412 [S "builder"] []
theorem YY:ao 413 gT:=ao.o1
abbrev J0:Lf B Unit:=cj λ_ b=>uy b
abbrev Cy(k:Nat):Lo:=[(S "pending",.ae (.bN k)),(S "builder",.ae .bC)]
abbrev iU(k:Nat)(c:Bool):Lo:=(S "is_blank",.bool c)::Cy k
theorem J1(b:B)(k:Nat)(c:Bool)(x:Str):(ms (DB (Fl×Lo×B) au G 0 true b7 (mE (Fl×Lo×B) au)) 50).L 9 gT.cq ((S "each",bT (ip x))::iU k c) (ef (stI gT.body 3)) b false (λfl m z=>some (fl,m,z))=
  if !(fj x) then some (.next,(S "is_blank",.bool false)::(S "each",bT (ip x))::iU k c,b)else some (.next,(S "each",bT (ip x))::iU k c,b):=by kernel_rfl
theorem YZ(b:B)(k:Nat)(x:Str):(ms (DB (Fl×Lo×B) au G 0 true b7 (mE (Fl×Lo×B) au)) 50).L 9 gT.cq ((S "each",bT (ip x))::iU k true) (ef (stI gT.body 4)) b false (λfl m z=>some (fl,m,z))=
  (ja b x).bind λb=>some (.next,(S "each",bT (ip x))::iU k true,b):=by kernel_rfl
theorem Y0(b:B)(k:Nat)(x:Str):(ms (DB (Fl×Lo×B) au G 0 true b7 (mE (Fl×Lo×B) au)) 50).L 9 gT.cq ((S "each",bT (ip x))::iU k false) (ef (stI gT.body 4)) b false (λfl m z=>some (fl,m,z))=
  (ni b (ip x)).bind λb=>some (.next,(S "each",bT (ip x))::iU k false,b):=by kernel_rfl
section
variable{G:AH}
theorem J2{b1 b':B}{k n:Nat}{c:Bool}{xs:List Str}{F:List Str->B->Option B}{g:B->Str->Option B}(hF:∀b,F [] b=some b)(hG:∀x r b,F (x::r) b=(g b x).bind (F r))(hK:∀{b x b2},g b x=some b2->Keeps b b2)
  (it:∀b x,(ms (DB (Fl×Lo×B) au G 0 true b7 (mE (Fl×Lo×B) au)) 50).L 9 gT.cq ((S "each",bT (ip x))::iU k c) (ef (stI gT.body 4)) b false (λfl m z=>some (fl,m,z))=(g b x).bind λb=>some (.next,(S "each",bT (ip x))::iU k c,b))
  (hk:b1.pk=k+1/\b1.old=some xs)(h:F xs b1=some b'){m:Lo}(l:bU (iU k c) m){Q:Fl->Lo->AH->Prop}(q:∀m n,Q .next m (hp b' G n)):dh 9 gT.cq m (hp b1 G n) (stI gT.body 4) Q:=by
 refine Ex.sI (D:=(DB (Fl×Lo×B) au G 0 true b7 (mE (Fl×Lo×B) au))) (d:=9) (x:=S "each") (y:=S "pending") (body:=ef (stI gT.body 4)) (v:=.ae (.bN k)) (xs:=xs.map g8) (λ_=>ba cx vr) rfl rfl (l _ _ rfl) (λi m z=>Keeps b1 z/\F (xs.drop i) z=some b'/\bU (iU k c) m) ⟨.refl,h,l⟩ (λi m z I n'=>.list (HB (I.1.1.trans hk.1) (I.1.2.trans hk.2))) (λi y m z I e=>?_) (λm z I n'=>?_) n
 ·refine dG I λK h l=>?_
  refine ah (HC e) λx e1 aM=>?_;subst aM
  rw[AK e1,hG]at h;refine bE h λb2 h2 h=>⟨_,(.next,(S "each",bT (ip x))::iU k c,b2),l.both,(it z x).trans (by rw[h2];rfl),K.trans (hK h2),h,.cons (.refl _) rfl⟩
 ·have h:=I.2.1;rw[afj,List.drop_length,hF]at h;have h:=ack h;subst h;exact q _ _
theorem Y1:bk (λb n=>hp b G n) 10 413 (λa=>aV 1::Ps.enc aj a) J0:=λa b r h Q q n=>cu h λok h=>by
 refine YY 9 _ _ _ rfl (show bG 9 gT.cq [(S "builder",.ae .bC)] (hp b G n) [stI gT.body 0,stI gT.body 1,stI gT.body 2,stI gT.body 3,stI gT.body 4] _ from Ex.step (D:=(DB (Lo×B) au G 0 true b7 (mE (Lo×B) au))) (d:=9) (m1:=Cy b.pk) (z1:=b) (λ_=>ba cx vr) rfl (λn=>Ex.step (D:=(DB (Lo×B) au G 0 true b7 (mE (Lo×B) au))) (d:=9) (m1:=Cy b.pk) (z1:={b with pending:=[],pk:=b.pk+1,old:=some b.pending}) (λ_=>ba cx vr) rfl (λn=>Ex.step (D:=(DB (Lo×B) au G 0 true b7 (mE (Lo×B) au))) (d:=9) (m1:=iU b.pk true) (z1:={b with pending:=[],pk:=b.pk+1,old:=some b.pending}) (λ_=>ba cx vr) rfl (λn=>Ex.cons (Ex.sI (D:=(DB (Fl×Lo×B) au G 0 true b7 (mE (Fl×Lo×B) au))) (d:=9) (x:=S "each") (y:=S "pending") (body:=ef (stI gT.body 3)) (v:=.ae (.bN b.pk)) (xs:=b.pending.map g8) (λ_=>ba cx vr) rfl rfl rfl
  (λi m z=>z={b with pending:=[],pk:=b.pk+1,old:=some b.pending}/\bU (iU b.pk ((b.pending.take i).all fj)) m) ⟨rfl,.refl _⟩ (λi m z I n'=>?_) (λi y m z I e=>?_) (λm z I n'=>?_) n)) n) n) n)
 ·obtain⟨rfl,_⟩:=I;exact .list (HB rfl rfl)
 ·obtain⟨rfl,l⟩:=I;obtain⟨x,e1,rfl⟩:=HC e;rw[Ut e1];cases c:fj x with
  |false=>exact⟨_,(.next,(S "is_blank",.bool false)::(S "each",bT (ip x))::iU b.pk ((b.pending.take i).all fj),_),l.both,(J1 _ _ _ _).trans (by rw[c];rfl),rfl,by rw[agO];exact .both (.cons (.cons (.refl _) rfl) rfl)⟩
  |true=>exact⟨_,(.next,(S "each",bT (ip x))::iU b.pk ((b.pending.take i).all fj),_),l.both,(J1 _ _ _ _).trans (by rw[c];rfl),rfl,by rw[Bool.and_true];exact .cons (.refl _) rfl⟩
 ·obtain⟨rfl,l⟩:=I;rw[afj,List.take_length]at l;refine Ex.cons (iE h (λc h=>?_) λc h=>?_)<;>rw[c]at l
  ·exact J2 (F:=w5) (g:=ja) (λ_=>rfl) (λ_ _ _=>rfl) HA (λb x=>YZ b _ x) ⟨rfl,rfl⟩ h l λm n=>Ex.nil ⟨_,.refl _,q n⟩
  ·exact J2 (F:=w6) (g:=λb x=>ni b (ip x)) (λ_=>rfl) (λ_ _ _=>rfl) Us (λb x=>Y0 b _ x) ⟨rfl,rfl⟩ h l λm n=>Ex.nil ⟨_,.refl _,q n⟩
def J3(ρ:Type)(c:Tl B ρ)(p:b6):List (Addr×cg B ρ):=(413,aS c 0 10 aj J0)::(864,aS c 0 0 (bt aj) (yC p))::(843,aS c 0 1 (bA aj) yi)::(850,aS c 0 1 (bA aj) vh)::[]
theorem Y2(P:du G dp p):∀e,e∈J3 ρ c p->cJ (DB ρ c G dp kp pc tb) r e.1 e.2:=aD (bo Y1 rfl) (aD (eQ (o:=dp) (Cw P) (afm _) rfl) (aD (bo B4 rfl) (aD (bo yj rfl) cw)))
abbrev J4(p:b6):Lf B (aN×Unit):=cj λa b=>qi p b a.1
abbrev Y3:aX:=aY (H.az 49) "in_table_text" 420 419 [S "builder",S "token"] []
theorem Y4:ao 420 Y3:=ao.o2
def J5(p:b6)(b:B)(t:aN):Option B:=if t.kind !=S "char" then(uy b).bind λb1=>p (b1.to b1.original) t
 else if t.name==S "\x00" then fh b (S "unexpected-null-character")
 else cond (Nat.beq b.pk b.pk) (cond (Nat.beq b.pk b.pk) (if ay b.pending.length then cond (t.kind==S "char"&&t.rest.isEmpty) (some {b with pending:=b.pending++[t.name]}) none else none) none) none
theorem Y5(h:qi p b t=some b'):J5 p b t=some b':=by
 refine iE h (λc h=>(rT c).trans h) λc h=>(rF c).trans ?_
 refine iE h (λc h=>(rT c).trans h) λc2 h=>(rF c2).trans ?_
 rw[agl];refine cu h λok h=>(if_pos ok.1).trans ?_
 rw[ok.2,Uu (x:=t.kind) (y:=S "char") (by exact c▸Bool.false_ne_true)]
 exact h
theorem Y6(P:du G dp p):bk (λb n=>hp b G n) (dp+20) 420 (λa=>aV 1::Ps.enc (bt aj) a) (J4 p):=λa b r h Q q n=>runN (D:=DB B aW G dp false b7 (J3 B aW p)) (α:=aN×Unit) (args:=λa=>aV 1::Ps.enc (bt aj) a) (m:=λa b=>J5 p b a.1) (d:=19) (λ_=>ba cx (Y2 P)) Y4 (λa z=>by kernel_rfl) rfl (λ_=>by kernel_rfl) a b r (Y5 (show qi p b a.1=some r from h)) Q q n
end
theorem oB(f:α->Option β)(e:o=some v):o.bind f=f v:=by rw[e];rfl
theorem iF(x y:α)(e:c=false):(if c=true then x else y)=y:=by rw[e];rfl
theorem iT(x y:α)(e:c=true):(if c=true then x else y)=x:=by rw[e];rfl
theorem Ok.fW(O:Ok b N)(h:b.stack=xs++ys):Ok {b with stack:=xs} N:=O.same rfl ⟨ys,h.symm⟩ O.ze O.zp (afm _)
theorem Cz(O:Ok b N)(hN:N<=800000)(x:Str):fh b x=some {b with aH:=b.aH++[(x,b.mode)]}:=if_pos (cU (by have:=O.ze;exact bh (ads this hN)))
theorem CA(O:Ok b N)(hN:N<=800000)(pk rk:Nat)(old:Option (List Str))(x mode:Str):cW (aB b pk rk old) x mode=some (aB {b with aH:=b.aH++[(x,mode)]} pk rk old):=if_pos (cU (by have:=O.ze;show b.aH.length<=_;exact bh (ads this hN)))
theorem J6{P:List Int->Prop}(h0:P [])(h1:∀l k,P l->P (l++[k]))(l:List Int):P l:=by
 have:∀l:List Int,P l.reverse:=λl=>by
  induction l with
  |nil=>exact h0
  |cons a r ih=>rw[agC];exact h1 _ _ ih
 rw[<-List.reverse_reverse l];exact this _
theorem J7(hN:N<=800000)(O:Ok b N){st:List Int}(h:b.stack=st++[k])(hk:ar names (aE b k)=true)(f:Nat):i8 names (f+1) b=some (k,{b with stack:=st}):=
 (oB _ (mj O hN h)).trans ((oB _ (sz h (by have:=O.zs;exact bh (ads this hN)))).trans (iT _ _ hk))
theorem J8(hN:N<=800000){st:List Int}(f:Nat)(top:List Int):∀b,Ok b N->b.stack=st++top->(∀k∈top,ar names (aE b k)=false)->i8 names (top.length+f) b=i8 names f {b with stack:=st}:=
 J6 (P:=λtop=>∀b,Ok b N->b.stack=st++top->(∀k∈top,ar names (aE b k)=false)->i8 names (top.length+f) b=i8 names f {b with stack:=st})
  (λb O h _=>by rw[afD]at h;rw[<-h,List.length_nil,Nat.zero_add])
  (λl k ih b O h ht=>by
   rw[<-afs]at h;rw[afl,afF,Nat.add_right_comm];exact(oB _ (mj O hN h)).trans ((oB _ (sz h (by have:=O.zs;exact bh (ads ‹_› ‹_›)))).trans ((iF _ _ (ht k (afu.mpr (.inr (.head _))))).trans (ih {b with stack:=st++l} (O.fW h) rfl λk hk=>ht k (afu.mpr (.inl hk)))))) top
theorem Y7(hN:N<=800000)(O:Ok b N){st:List Int}(h:b.stack=st++[k])(hs:st≠[])(hk:ar names (aE b k)=true)(f:Nat):i9 names (f+1) b=some b:=
 (iT _ _ (afT (by rw[h,afl,afF];have:=List.length_pos_iff.mpr hs;lia))).trans ((oB _ (mj O hN h)).trans (iF _ _ (hk▸rfl)))
theorem Y8(hN:N<=800000){st:List Int}(hs:st≠[])(f:Nat)(top:List Int):∀b,Ok b N->b.stack=st++top->(∀k∈top,ar names (aE b k)=false)->i9 names (top.length+f) b=i9 names f {b with stack:=st}:=
 J6 (P:=λtop=>∀b,Ok b N->b.stack=st++top->(∀k∈top,ar names (aE b k)=false)->i9 names (top.length+f) b=i9 names f {b with stack:=st})
  (λb O h _=>by rw[afD]at h;rw[<-h,List.length_nil,Nat.zero_add])
  (λl k ih b O h ht=>by
   rw[<-afs]at h;rw[afl,afF,Nat.add_right_comm];exact(iT _ _ (afT (by rw[h,afl,afl,afF];have:=List.length_pos_iff.mpr hs;omega))).trans ((oB _ (mj O hN h)).trans ((iT _ _ (by rw[ht k (afu.mpr (.inr (.head _)))];rfl)).trans ((oB _ (sz h (by have:=O.zs;lia))).trans (ih {b with stack:=st++l} (O.fW h) rfl λk hk=>ht k (afu.mpr (.inl hk))))))) top
theorem Y9{st:List Int}{c:Int}{N:Nat}(hN:N<=800000)(f:Nat)(top:List Int)(b:B)(O:Ok b N)(h:b.stack=(st++[c])++top)(ht:∀k∈top,ar names (aE b k)=false)(hc:ar names (aE b c)=true)(hf:f=top.length+1+st.length):i8 names f b=some (c,{b with stack:=st}):=by
 rw[hf,Nat.add_assoc,agJ 1,J8 hN _ top b O h ht];exact J7 hN (O.fW h) rfl hc _
def yE:List Str:=[S "html",S "table",S "template"]
theorem Za(O:Ok b N)(hN:N<=800000):∀top:List Int,(∀k∈top,k∈b.stack)->(∀k∈top,aE b k∉names)->(∀k∈top,aE b k∉yE)->nh b names (top++r)=nh b names r:=λkK=>by
 induction kK with
 |nil=>exact λ_ _ _=>rfl
 |cons k t ih=>
  rintro h0 h1 h2
  refine gD (nC O hN (h0 k (.head _))) λi x _ _ e _ e2=>?_
  refine(oB _ e).trans ?_;rw[e2];refine(iF _ _ (iN.mpr (h1 k (by simp)))).trans ?_
  refine(iF _ _ (iN.mpr (h2 k (by simp)))).trans ?_
  exact ih (λk hk=>h0 k (by simp[hk])) (λk hk=>h1 k (by simp[hk])) (λk hk=>h2 k (by simp[hk]))
theorem Zb:S "a"∉jF:=by unfold jF;simp[Bi]
theorem Zc:S "p"∈jF:=by unfold jF;simp
theorem Zd{st:List Int}{N:Nat}(hN:N<=800000):∀(f:Nat) (is:List Int) (b:B),Ok b N->b.stack=(st++[c])++is->ap (is.map (aE b))->aE b c∉jF->is.length<f->
  ∃iV,uq f b=some {b with stack:=(st++[c])++iV}/\iV<+:is/\((iV=[]/\S "a"∉is.map (aE b))\/(∃js k,iV=js++[k]/\aE b k=S "a"/\S "a"∈is.map (aE b))):=λkK=>by
 induction kK with
 |zero=>exact λ_ _ _ _ _ _ h=>absurd h (Nat.not_lt_zero _)
 |succ f ih=>
  rintro is b O h ha hc hf
  rcases af1 is with q|⟨iV,k,q⟩
  ·subst q;rw[afD]at h;refine⟨[],?_,afE _,.inl ⟨rfl,by simp⟩⟩
   refine(oB _ (mj O hN h)).trans ?_;refine(iF _ _ (iN.mpr hc)).trans ?_;rw[afD,<-h]
  ·rw[agb]at q;subst q;have h':b.stack=(st++[c]++iV)++[k]:=by rw[h];simp
   rw[afz,u1]at ha;rcases ha.2 (aE b k) (.head _)with e|e
   ·refine⟨iV++[k],?_,afE _,.inr ⟨iV,k,rfl,e,by simp[e]⟩⟩
    refine(oB _ (mj O hN h')).trans ?_;rw[e];refine(iF _ _ (iN.mpr Zb)).trans ?_;rw[<-afs,<-h']
   ·refine cC (ih iV {b with stack:=st++[c]++iV} (O.fW h') rfl ha.1 hc (by simp at hf;omega)) λZe e1 e2 e3=>?_
    refine⟨Ze,?_,e2.trans (List.prefix_append _ _),?_⟩
    ·refine(oB _ (mj O hN h')).trans ?_;rw[e];refine(iT _ _ (ka.mpr Zc)).trans ?_;refine(iT _ _ (by rw[bne,uY];decide)).trans ?_
     refine(oB _ (sz h' (by have:=O.zs;lia))).trans ?_
     exact e1
    ·have e5:S "a"∈(iV++[k]).map (aE b)↔S "a"∈iV.map (aE b):=by
      rw[afz,afu];constructor
      ·rintro (q|q)
       ·exact q
       ·simp at q;rw[e]at q;exact absurd (sv q) (by decide)
      ·exact .inl
     rcases e3 with⟨q1,q2⟩|⟨js,k',q1,q2,q3⟩
     ·exact .inl ⟨q1,λq=>q2 (e5.mp q)⟩
     ·exact .inr ⟨js,k',q1,q2,e5.mpr q3⟩
theorem Zf{b:B}{N:Nat}(O:Ok b N)(Zg:N<=700000){st:List Int}(h:b.stack=(st++[c])++is)(ha:ap (is.map (aE b)))(hc:ar names (aE b c)=true)(CB:aE b c∉jF)(J9:ar names (S "a")=false)(Zh:ar names (S "p")=false)
  (hm:b.marks=mz++[-1])(hz:b.marks.length<=900000):
  lB b names mode=some {b with stack:=st,marks:=mz,aH:=b.aH++(if S "a"∈is.map (aE b)then[(S "open-elements",b.mode)]else[]),mode:=mode}:=by
 have hN:N<=800000:=by exact ads ‹_› (by decide)
 refine cC (Zd hN b.stack.length is b O h ha CB (by rw[h];simp;exact af7 _ _)) λiV e1 e2 e3=>?_
 refine(oB _ e1).trans ?_;refine aF e2 λr hr=>?_
 have O1:Ok {b with stack:=(st++[c])++iV} N:=O.fW (ys:=r) (by rw[h,<-hr];simp)
 have clear:∀b2:B,b2.marks=b.marks->rX {b2 with stack:=st}=some {b2 with stack:=st,marks:=mz}:=λb2 e=>by
  delta rX fS
  dsimp only;rw[e,hm];refine(oB (v:=((-1:Int),mz)) _ ?_).trans ?_
  ·simp only[List.getLast?_append,List.getLast?_singleton,Option.some_or,Option.bind_some,List.dropLast_concat];exact hm▸if_pos (cU hz)
  ·exact iT _ _ rfl
 have fin:∀(b2:B) (N2:Nat),N2<=800000->Ok b2 N2->b2.stack=(st++[c])++iV->b2.aa=b.aa->b2.marks=b.marks->
   ((i8 names b2.stack.length b2).bind λr=>(rX r.2).bind λb3=>some (b3.to mode))=some {b2 with stack:=st,marks:=mz,mode:=mode}:=λb2 N2 Zi O2 s2 n2 m2=>by
  have u:=Y9 (names:=names) (st:=st) (c:=c) Zi b2.stack.length iV b2 O2 s2 (λk hk=>by
   rw[u0 n2];have jo:aE b k∈is.map (aE b):=by rw[<-hr];simp;exact .inl ⟨k,hk,rfl⟩
   rcases ha _ jo with e|e<;>rw[e]
   ·exact J9
   ·exact Zh) (by rw[u0 n2];exact hc) (by rw[s2];simp;exact(agJ _ _))
  refine(oB _ u).trans ?_;refine(oB _ (clear b2 m2)).trans ?_;rfl
 rcases e3 with⟨q1,q2⟩|⟨js,k,q1,q2,q3⟩
 ·subst q1;rw[afD]at*;refine(oB _ (mj O1 hN (st:=st) (k:=c) rfl)).trans ?_;have e9:aE {b with stack:=st++[c]} c=aE b c:=rfl
  rw[e9];refine(oB (v:=({b with stack:=st++[c]}:B)) _ (iF _ _ (afp _ hc))).trans ?_
  refine(fin {b with stack:=st++[c]} N hN O1 rfl rfl rfl).trans ?_
  rw[if_neg q2];simp
 ·subst q1;have es:({b with stack:=(st++[c])++(js++[k])}:B).stack=(st++[c]++js)++[k]:=by simp
  refine(oB _ (mj O1 hN es)).trans ?_;have e9:aE {b with stack:=(st++[c])++(js++[k])} k=S "a":=q2
  rw[e9];have ee:=Cz O1 hN (S "open-elements");refine(oB _ ((iT _ _ (J9▸rfl)).trans ee)).trans ?_;have O2:Ok {b with stack:=(st++[c])++(js++[k]),aH:=b.aH++[(S "open-elements",b.mode)]} (N+1):=
   O1.same rfl (afE _) (by have:=O.ze;simp;exact this) (by have:=O.zp;show b.pending.length<=_;exact Nat.le_succ_of_le this) (agc _)
  refine(fin _ (N+1) (by exact bh (afS Zg)) O2 rfl rfl rfl).trans ?_
  rw[if_pos q3]
def sU:List Str->Option Str
 |[]=>none
 |[_]=>none
 |x::y::r=>if x==S "select" then none else if x==S "template" then none else if x==S "html" then none else if j5 x==S "" then sU (y::r)else some (j5 x)
theorem Ka(O:Ok b N)(hN:N<=800000):∀l:List Int,(∀k∈l,k∈b.stack)->w2 b l=sU (l.map (aE b))
 |[],_=>rfl
 |[_],_=>rfl
 |k::k2::r,h=>by
  refine gD (nC O hN (h k (.head _))) λi x _ _ e _ e2=>?_
  refine(oB _ e).trans ?_;rw[e2,Ka O hN (k2::r) λk hk=>h k (.tail _ hk)];rfl
theorem Kb:∀l:List Str,ap l->sU (l++y::r)=sU (y::r):=λkK=>by
 induction kK with
 |nil=>exact λ_=>rfl
 |cons x l ih=>
  rintro h
  rw[<-ih λz hz=>h z (.tail _ hz)]
  obtain⟨k3,r3,e3⟩:∃k3 r3,l++y::r=k3::r3:=by induction l<;>exact⟨_,_,rfl⟩
  rw[agE,e3];rcases h x (.head _)with q|q<;>rw[q]<;>rfl
def CC(p:List Str×Str):Bool:=match p.1.reverse with
 |c::_=>!(c==S "select")&&(!(c==S "template")&&(!(c==S "html")&&(!(j5 c==S "")&&j5 c==p.2)))
 |[]=>false
theorem Zj:nE.all CC=true:=rfl
theorem Zk(h:CC (ps,m)=true):sU (ps.reverse++y::r)=some m:=by
 unfold CC at h;dsimp only at h;cases e:ps.reverse with
 |nil=>replace h:=e▸h;cases h
 |cons c q=>
  rw[e]at h;simp only[Bool.and_eq_true,Bool.not_eq_true']at h;refine wz h λh1 h2 h3 h4 h5=>?_
  obtain⟨k3,r3,e3⟩:∃k3 r3,q++y::r=k3::r3:=by induction q<;>exact⟨_,_,rfl⟩
  rw[agE,e3];exact(iF _ _ h1).trans ((iF _ _ h2).trans ((iF _ _ h3).trans ((iF _ _ h4).trans (afp some (afr.mp h5)))))
theorem dM.yu(h:dM ns m):sU ns.reverse=some m:=by
 induction h with
 |@base inl ha=>rw[agC,agC,afs];exact(Kb inl.reverse λx hx=>ha x (agU.mp hx)).trans rfl
 |@tab pre parts inl _ _ h hp ha=>
  rw[List.reverse_append,agC,List.reverse_append,afs,afs];obtain⟨k3,r3,e3⟩:∃k3 r3,parts.reverse++([S "table"]++pre.reverse)=k3::r3:=by cases parts.reverse<;>exact⟨_,_,rfl⟩
  rw[e3,Kb _ λx hx=>ha x (agU.mp hx),<-e3]
  exact Zk (eM Zj hp)
theorem Zl(O:Ok b N)(hN:N<=800000)(h:dM (b.stack.map (aE b)) m):rY b=some (b.to m):=by
 unfold rY;rw[if_pos (cU (by have:=O.zs;exact bh (ads this hN))),Ka O hN _ λk hk=>agU.mp hk,List.map_reverse,h.yu];rfl
theorem CD{l:List α}(h:l.map f=a++b):∃l1 l2,l=l1++l2/\l1.map f=a/\l2.map f=b:=List.map_eq_append_iff.mp h
theorem lS(h:l.map f=a::b):∃x r,l=x::r/\f x=a/\r.map f=b:=List.map_eq_cons_iff.mp h
noncomputable def hS (b:B):Nat:=(b.stack.getLast?.getD 0).toNat
def gf(b:B):Nd:=(b.aa[hS b]?).getD (gL (S "") [])
def Kc(b:B)(name:Str)(attrs:List U):B:=ir b (hS b) (gf b) (gf b).kids.length name attrs
def putL(b:B)(s:Str):B:=fJ b (hS b) (gf b) (gf b).kids.length s
def dF(b:B)(u:Int):Nd:=(b.aa[u.toNat]?).getD (gL (S "") [])
def Ke(b:B)(u:Int)(name:Str)(attrs:List U):B:=ir b u.toNat (dF b u) ((dF b u).kids.length-1) name attrs
def gx(b:B)(u:Int)(s:Str):B:=fJ b u.toNat (dF b u) ((dF b u).kids.length-1) s
theorem jT(O:Ok b N){st:List Int}(h:b.stack=st++[k]):k=(hS b:Int)/\kP b (hS b) (gf b) (-1) (gf b).kids.length:=by
 refine dW (O.el k (by rw[h];simp)) λi x h1 h2 h3 h4=>?_
 have e:hS b=i:=by unfold hS;rw[h,h1];simp
 have e2:gf b=x:=by unfold gf;rw[e,h2];rfl
 refine⟨by rw[h1,e],by rw[e,e2];exact h2,by exact e2▸h3,.inl ⟨rfl,rfl⟩⟩
theorem Kf{b:B}(h:b.stack≠[]):∃st k,b.stack=st++[k]:=by
 rcases af1 b.stack with q|⟨st,k,q⟩
 ·exact(h q).elim
 ·exact⟨st,k,by rw[q,agb]⟩
theorem Kg(O:Ok b N)(hN:N<=800000){st:List Int}(h:b.stack=st++[k])(hf:b.dC=false\/aE b k∉gn):j4 b=some ((hS b:Int),-1):=by
 have e:=(jT O h).1;refine gD (nC O hN (k:=k) (by rw[h];simp)) λi x _ _ e1 _ e2=>?_
 refine(oB _ (xC h (by have:=O.zs;exact bh (ads this hN)))).trans ?_
 refine(oB _ e1).trans ?_;rw[<-e];refine Or.elim hf (λhf=>?_) λhf=>?_
 ·exact iF _ _ hf
 ·cases q:b.dC with
  |false=>exact iF _ _ rfl
  |true=>
   refine(iT _ _ rfl).trans ?_;exact e2▸iF _ _ (iN.mpr hf)
theorem yF(O:Ok b N){kQ:List Int}(h:b.stack=kQ++[k]):∀st u t r,b.stack=st++u::t::r->aE b t=S "table"->u=(hS b:Int)->(-1:Int)=t:=λst u t r e _ eu=>by
 have:=Ta O e h;have e1:=(jT O h).1
 lia
theorem Zm(O:Ok b N)(hN:N<=800000)(h:b.stack≠[])(pk rk:Nat)(old:Option (List Str)){name:Str}(ha:attrs.length<=1000):fH (aB b pk rk old) name attrs=some (aB (Kc b name attrs) pk rk old):=by
 refine fN (Kf h) λst k h=>?_
 refine aO (jT O h) λe P=>?_
 have e0:(aB b pk rk old).path.getLast?=some (hS b:Int):=by show b.stack.getLast?=_;rw[h,<-e];simp
 refine(oB _ e0).trans ?_;refine(oB _ (qC O hN pk rk old P.get P.kind)).trans ?_;exact GN O hN pk rk old ha P.get P.kind P.le
theorem Kh(O:Ok b N)(hN:N<=800000){st:List Int}(h:b.stack=st++[k])(hf:b.dC=false\/aE b k∉gn)(hs:s.length<=1):ja b s=some (putL b s):=
 GH O hN (jT O h).2 hs (Kg O hN h hf)
theorem yG(O:Ok b N)(hN:N<=800000){st:List Int}(h:b.stack=st++[k])(pk rk:Nat)(old:Option (List Str))(hs:s.length<=1):
  (aB b pk rk old).path.getLast?=some (hS b:Int)/\cP (aB b pk rk old) (hS b)=some (c6 (gf b))/\gd (aB b pk rk old) (hS b) (gf b).kids.length s=some (aB (putL b s) pk rk old):=by
 refine aO (jT O h) λe P=>?_
 exact⟨by show b.stack.getLast?=_;rw[h,<-e];simp,qC O hN pk rk old P.get P.kind,GL O hN pk rk old hs P.get P.kind P.le⟩
theorem Ok.putL(O:Ok b N)(h:b.stack≠[]){s:Str}(hs:s.length<=1)(hM:N+1<=M):Ok (putL b s) M:=by
 refine fN (Kf h) λst k h=>?_
 exact O.fJ hs (jT O h).2 (yF O h) hM
theorem nP(O:Ok b N){st:List Int}(h:b.stack=st++u::t::r)(ht:aE b t=S "table"):u=((u.toNat:Nat):Int)/\kP b u.toNat (dF b u) t ((dF b u).kids.length-1)/\0<(dF b u).kids.length:=by
 refine dX (O.tab st u t r h ht) λi x ks h1 h2 h3=>?_
 refine dW (O.el u (by rw[h];simp)) λj y g1 g2 g3 g4=>?_
 have:i=j:=by exact Int.ofNat_inj.mp (h1.symm.trans g1)
 subst this;rw[h2]at g2;obtain rfl:=ack g2;have e:u.toNat=i:=by exact afp _ g1
 have e2:dF b u=x:=by unfold dF;rw[e,h2];rfl
 refine cG (O.el t (by rw[h];simp)) λj y g1 _=>?_
 rw[e,e2];refine⟨h1,⟨h2,g3,.inr ⟨ks,by lia,h3,by rw[h3];simp⟩⟩,by rw[h3];simp⟩
theorem CE(O:Ok b N){st:List Int}(h:b.stack=st++u::t::r)(ht:aE b t=S "table"):∀kQ u' t' r',b.stack=kQ++u'::t'::r'->aE b t'=S "table"->u'=((u.toNat:Nat):Int)->t=t':=λkQ u' t' r' e qD eu=>by
 refine dX (O.tab st u t r h ht) λi x ks h1 h2 h3=>?_
 refine dX (O.tab kQ u' t' r' e qD) λi' x' GO Ki vt Zn=>?_
 have:i=i':=by lia
 subst this;rw[h2]at vt;obtain rfl:=ack vt;have:=h3.symm.trans Zn;have:=agS this rfl;simpa using this.2
theorem Zo(O:Ok b N)(hN:N<=800000):∀top:List Int,(∀k∈top,k∈b.stack)->(∀k∈top,aE b k≠S "table"/\aE b k≠S "template")->uu b (top++k2::r)=uu b (k2::r):=λkK=>by
 induction kK with
 |nil=>exact λ_ _=>rfl
 |cons k t ih=>
  rintro h0 h1
  refine gD (nC O hN (h0 k (.head _))) λi x _ _ e _ e2=>?_
  have ih:=ih (λk hk=>h0 k (by simp[hk])) (λy hy=>h1 y (by simp[hy]))
  obtain⟨k3,r3,e3⟩:∃k3 r3,t++k2::r=k3::r3:=by induction t<;>exact⟨_,_,rfl⟩
  rw[agE,<-ih,e3];refine aO (h1 k (.head _)) λq1 q2=>?_
  refine(oB _ e).trans ?_;rw[e2];refine(iF _ _ (aft.mpr q1)).trans ?_;exact iF _ _ (aft.mpr q2)
theorem Kj(O:Ok b N)(hN:N<=800000){st:List Int}(h:b.stack=st++u::t::r)(ht:aE b t=S "table")(hr:∀k∈r,aE b k≠S "table"/\aE b k≠S "template")(hf:b.dC=true)(hk:b.stack=kQ++[k])(Zp:aE b k∈gn):
  j4 b=some (((u.toNat:Nat):Int),t):=by
 refine gD (nC O hN (k:=k) (by rw[hk];simp)) λi x _ _ e1 _ e2=>?_
 refine(oB _ (xC hk (by have:=O.zs;exact bh (ads this hN)))).trans ?_
 refine(oB _ e1).trans ?_;rw[e2];refine(iT _ _ hf).trans ?_;refine(iT _ _ (ka.mpr Zp)).trans ?_;unfold oL;rw[if_pos (cU (by have:=O.zs;exact bh (ads this hN)))]
 have e3:b.stack.reverse=r.reverse++t::u::st.reverse:=by rw[h];simp
 rw[e3,Zo O hN r.reverse (λk hk=>by rw[h];simp at hk ⊢;simp[hk]) (λk hk=>hr k (by simpa using hk))]
 refine cps λG k=>?_
 refine gD (nC O hN (k:=t) (by rw[h];simp)) λi' x' a1 a2 a3 _ a5=>?_
 refine k ?_;refine(oB _ a3).trans ?_;rw[a5];refine(iT _ _ (by rw[ht];exact agj _)).trans ?_
 refine cps λG k=>?_
 refine dG (nP O h ht) λhu P _=>?_
 have qB:t∈(dF b u).kids:=by
  rcases P.ok with⟨q,_⟩|⟨ks,_,q,_⟩
  ·exfalso;lia
  ·rw[q];simp
 refine dW (O.tree.bV _ _ P.get t qB) λc y q1 q2 q3 q4=>?_
 have:c=i':=by exact Int.ofNat_inj.mp (q1.symm.trans a1)
 refine k ?_;subst this;rw[a2]at q3;obtain rfl:=ack q3;exact q4.symm▸iT _ _ (bne_iff_ne.mpr (by exact nofun))
theorem Zq(O:Ok b N)(hN:N<=800000){st:List Int}(h:b.stack=st++u::t::r)(ht:aE b t=S "table")(hn:name≠S "template")(ha:attrs.length<=1000)(hp:j4 b=some (((u.toNat:Nat):Int),t)):
  jI b name attrs=some ((b.aa.length:Int),Ke b u name attrs):=GI O hN (nP O h ht).2.1 hn ha hp
theorem Zr(O:Ok b N)(hN:N<=800000){st:List Int}(h:b.stack=st++u::t::r)(ht:aE b t=S "table")(hs:s.length<=1)(hp:j4 b=some (((u.toNat:Nat):Int),t)):
  ja b s=some (gx b u s):=GH O hN (nP O h ht).2.1 hs hp
theorem Zs(O:Ok b N)(hN:N<=800000){st:List Int}(h:b.stack=st++u::t::r)(ht:aE b t=S "table")(pk rk:Nat)(old:Option (List Str))(ha:attrs.length<=1000):
  cP (aB b pk rk old) u=some (c6 (dF b u))/\j7 (aB b pk rk old) u ((dF b u).kids.length-1) name attrs=some (aB (Ke b u name attrs) pk rk old):=by
 refine dG (nP O h ht) λhu P _=>?_
 constructor
 ·have:=qC O hN pk rk old P.get P.kind;rw[<-hu]at this;exact this
 ·have:=GN O hN pk rk old (name:=name) (attrs:=attrs) ha P.get P.kind P.le;rw[<-hu]at this;exact this
theorem Zt(O:Ok b N)(hN:N<=800000){st:List Int}(h:b.stack=st++u::t::r)(ht:aE b t=S "table")(pk rk:Nat)(old:Option (List Str))(hs:s.length<=1):
  cP (aB b pk rk old) u=some (c6 (dF b u))/\gd (aB b pk rk old) u (((dF b u).kids.length:Int)-1) s=some (aB (gx b u s) pk rk old):=by
 refine dG (nP O h ht) λhu P hz=>?_
 constructor
 ·have:=qC O hN pk rk old P.get P.kind;rw[<-hu]at this;exact this
 ·have:=GL O hN pk rk old (s:=s) hs P.get P.kind P.le;rw[<-hu,show(((dF b u).kids.length-1:Nat):Int)=((dF b u).kids.length:Int)-1 by exact aha hz]at this
  exact this
theorem Ok.gx(O:Ok b N){st:List Int}(h:b.stack=st++u::t::r)(ht:aE b t=S "table")(hs:s.length<=1)(hM:N+1<=M):Ok (gx b u s) M:=
 O.fJ hs (nP O h ht).2.1 (CE O h ht) hM
theorem qR(O:Ok b N)(hN:N<=800000)(pk rk:Nat)(old:Option (List Str))(h:∀x∈b.stack.map (aE b),PyData.strOk x=true):cV (aB b pk rk old)=true:=by
 unfold cV;rw[nF,afi,afi];refine⟨⟨cU (by have:=O.zs;show b.stack.length<=_;exact bh (ads this hN)),afn.mpr h⟩,afn.mpr λk hk=>?_⟩
 refine dW (O.el k hk) λi x h1 h2 h3 _=>?_
 rw[h1,qC O hN pk rk old h2 h3];rfl
theorem Zu(O:Ok b N)(hN:N<=800000)(pk rk:Nat)(old:Option (List Str))(hn:b.stack.map (aE b)=pre++S "table"::(ps++inl))(h0:∀x∈pre,PyData.strOk x=true)(hp:eP ps m)(ha:ap inl)(hk:keep<=b.stack.length):
  fm (aB b pk rk old) keep=some (aB {b with stack:=b.stack.take keep,aH:=b.aH++(if fk ps=true/\S "a"∈inl then[(S "open-elements",m)]else[])} (pk+1) rk old):=by
 have ck:=qR O hN pk rk old (by exact hn▸u2 h0 hp ha)
 unfold fm;rw[if_pos ck,nF,hn,Bo hp ha,Bp hp ha,xH hp ha];have hd:((pre++S "table"::(ps++inl)).drop ((pre.length:Int)+(ps.length:Int)).toNat)=((S "table"::ps).drop ps.length)++inl:=by
  have e:((pre.length:Int)+(ps.length:Int)).toNat=pre.length+ps.length:=by rfl
  rw[e,<-List.drop_drop,List.drop_left,<-agE,List.drop_append_of_le_length (by simp)]
 have Zv:ar ((pre++S "table"::(ps++inl)).drop ((pre.length:Int)+(ps.length:Int)).toNat) (S "a")=decide (S "a"∈inl):=by
  rw[hd,Bool.eq_iff_iff,ka,afO,afu];constructor
  ·rintro (q|q)
   ·exfalso;have:=agt q;rcases ahc.mp this with q|q
    ·exact absurd (sv q) (by decide)
    ·exact GS hp (by decide) q
   ·exact q
  ·exact .inr
 rw[Zv];have fin:∀E,(if keep<=(aB {b with aH:=E} pk rk old).path.length then some {(aB {b with aH:=E} pk rk old)with path:=(aB {b with aH:=E} pk rk old).path.take keep,pk:=(aB {b with aH:=E} pk rk old).pk+1}else none)=some (aB {b with stack:=b.stack.take keep,aH:=E} (pk+1) rk old):=λE=>if_pos hk
 by_cases q:fk ps=true/\S "a"∈inl
 ·rw[if_pos q];refine(oB _ ((iT _ _ (by rw[q.1,afT q.2];rfl)).trans (CA O hN pk rk old (S "open-elements") m))).trans ?_
  exact fin _
 ·rw[if_neg q];refine(oB (v:=aB b pk rk old) _ (iF _ _ ?_)).trans ?_
  ·rw[Bool.and_eq_false_iff,decide_eq_false_iff_not];by_cases q1:fk ps=true
   ·exact .inr λq2=>q ⟨q1,q2⟩
   ·exact .inl (by simpa using q1)
  ·rw[afD];exact fin b.aH
theorem Zw(O:Ok b N)(hN:N<=800000)(pk rk:Nat)(old:Option (List Str)){st:List Int}(h:b.stack=st++[k]):fT (aB b pk rk old)=some (aB {b with stack:=st} pk rk old):=by
 have:fS (aB b pk rk old).path=some (k,st):=by
  show fS b.stack=_;unfold fS;rw[h];simp only[List.getLast?_append,List.getLast?_singleton,Option.some_or,Option.bind_some,List.dropLast_concat];rw[<-h,if_pos (cU (by have:=O.zs;exact bh (ads ‹_› ‹_›)))]
 exact oB _ this
abbrev names(b:B):List Str:=b.stack.map (aE b)
def yH:List Str:=[S "caption",S "td",S "th"]
def dw(ns:List Str):List Int:=(ns.filter (ar yH)).map λ_=>-1
theorem sV:dw (a++b)=dw a++dw b:=by unfold dw;rw[List.filter_append,afz]
theorem yI(h:ap l):dw l=[]:=by
 unfold dw;rw[List.filter_eq_nil_iff.mpr λx hx=>by
  have:=xG (f:=λx=>!ar yH x) h rfl rfl x hx
  rw[afH]at this;rw[this];decide];rfl
theorem Zx(l:List Str):(dw l).length<=l.length:=by unfold dw;rw[afj];exact ag2 ..
set_option genCtorIdx true in
inductive Rf
 |old (i:Nat)
 |fW (i:Nat)
 |new (j:Nat)
deriving DecidableEq
set_option genCtorIdx true in
inductive Itm
 |nm (x:Str)
 |inl (la ha:Bool)
 |any
 |pre (m:Str)
deriving DecidableEq
set_option genCtorIdx true in
inductive Kk
 |el (p:Rf)(fo:Bool)(x:Str)(own:Bool)
 |put (p:Rf)
deriving DecidableEq
abbrev Sk:=List (Itm×Rf)
structure Sy where
 st:Sk
 tr:List Kk
 n:Nat
 bJ:List (Str×Str)
 mode:Str
 marks:Nat
 fo:Bool
 dD:Bool
 pt:Bool
 bN:Bool
 nQ:Bool
 vx:Str
structure Eb where
 b:B
 o:Nat->List Int
 as:List U
 sg:Str
 N:Nat
 ms:List Int
noncomputable def Eb.bM (E:Eb):Rf->List Int
 |.old i=>E.o i
 |.fW i=>(E.o i).dropLast
 |.new j=>[((E.b.aa.length+j:Nat):Int)]
noncomputable def Eb.ids (E:Eb):Sk->List Int
 |[]=>[]
 |e::r=>E.ids r++E.bM e.2
noncomputable def jq (l:List Int):Int:=l.getLast?.getD 0
def Zy(b:B)(u:Int)(fo:Bool)(x:Str)(as:List U):B:=
 {b with aa:=eK b.aa u.toNat (dF b u) (cond fo ((dF b u).kids.length-1) (dF b u).kids.length) (gL x as)}
def CF(b:B)(u:Int)(s:Str):B:=fJ b u.toNat (dF b u) (dF b u).kids.length s
def Eb.tr(E:Eb):List Kk->B
 |[]=>E.b
 |.el p fo x own::r=>Zy (E.tr r) (jq (E.bM p)) fo x (cond own E.as [])
 |.put p::r=>CF (E.tr r) (jq (E.bM p)) E.sg
def qT(ms:List Int):Itm->List Str->Prop
 |.nm x,l=>l=[x]/\(x=S "html"->ms=[])
 |.inl la ha,l=>ap l/\l.getLast?=some (cond la (S "a") (S "p"))/\ar l (S "a")=ha
 |.any,l=>ap l
 |.pre m,l=>dM l m/\dw l=ms
structure Sm(E:Eb)(s:Sy)(b:B):Prop where
 ok:Ok b (E.N+(s.tr.length+s.bJ.length))
 lm:s.tr.length+s.bJ.length<=200
 st:b.stack=E.ids s.st
 it:∀e∈s.st,qT E.ms e.1 ((E.bM e.2).map (aE b))
 nd:b.aa=(E.tr s.tr).aa
 ln:s.pt=false->b.aa.length=E.b.aa.length+s.n
 er:b.aH=E.b.aH++s.bJ
 md:b.mode=s.mode
 mr:b.marks=E.ms++List.replicate s.marks (-1)
 fo:b.dC=s.fo
 ak:b.dD=s.dD
 pe:b.pending=cond s.bN [E.sg] []
 og:s.nQ=true->b.original=s.vx
structure d5(E:Eb):Prop where
 N:E.N<=100000
 N1:1<=E.N
 as:E.as.length<=1000
 sg:E.sg.length<=1
 ms:E.ms.length<=100000
theorem Eb.nR(E:Eb):∀x y:Sk,E.ids (x++y)=E.ids y++E.ids x
 |[],y=>(afD _).symm
 |e::x,y=>by
  show E.ids (x++y)++E.bM e.2=E.ids y++(E.ids x++E.bM e.2);rw[E.nR x y,afs]
theorem Eb.mem(E:Eb):∀{l:Sk},e∈l->∀k∈E.bM e.2,k∈E.ids l:=λ{l}=>by
 induction l with
 |nil=>intro h;cases h
 |cons a r ih=>
  intro h k hk;cases h with
  |head=>exact afu.mpr (.inr hk)
  |tail _ h=>exact afu.mpr (.inl (ih h k hk))
def mF:Sk->Option Str
 |(.nm x,_)::_=>some x
 |(.inl la _,_)::_=>some (cond la (S "a") (S "p"))
 |_=>none
def mG(ns:List Str):Bool:=!ar ns (S "a")&&!ar ns (S "p")
noncomputable def Kl:Sk->Option Sk
 |(.nm _,_)::r=>some r
 |(.inl _ _,.old i)::r=>some ((.any,.fW i)::r)
 |_=>none
def o9(ns:List Str):Sk->Option Sk
 |(.nm x,_)::r=>cond (ar ns x) (some r) (o9 ns r)
 |(.inl _ _,_)::r=>cond (mG ns) (o9 ns r) none
 |_=>none
noncomputable def sW:Sk->Bool
 |(.nm _,_)::_=>true
 |(.pre _,_)::_=>true
 |_=>false
def qU(ns:List Str):Sk->Option Sk
 |(.nm x,q)::r=>cond (sW r) (cond (ar ns x) (some ((.nm x,q)::r)) (qU ns r)) none
 |(.inl _ _,_)::r=>cond (sW r) (cond (mG ns) (qU ns r) none) none
 |_=>none
def nS(ns:List Str):Sk->Option Bool
 |(.nm x,_)::r=>cond (ar ns x) (some true) (cond (ar yE x) (some false) (nS ns r))
 |(.inl _ _,_)::r=>cond (mG ns) (nS ns r) none
 |_=>none
def vy:Sk->Option Rf
 |(.nm x,_)::r=>cond (x==S "table") (match r with
  |[(.pre _,q)]=>some q
  |_=>none) (cond (x==S "template") none (vy r))
 |(.inl _ _,_)::r=>vy r
 |_=>none
section
variable{E:Eb}{s:Sy}{b:B}
theorem Sm.N(r:Sm E s b)(e:d5 E):E.N+(s.tr.length+s.bJ.length)<=700000:=by have:=r.lm;have:=e.N;exact bh (agu ‹_› ‹_›)
theorem Sm.mem(r:Sm E s b)(h:e∈s.st):∀k∈E.bM e.2,k∈b.stack:=λk hk=>r.st▸E.mem h k hk
theorem Sm.fW(r:Sm E s b)(h:s.st=x++l):b.stack=E.ids l++E.ids x/\Sm E {s with st:=l} {b with stack:=E.ids l}:=by
 have e:b.stack=E.ids l++E.ids x:=by rw[r.st,h,E.nR]
 exact⟨e,⟨r.ok.fW e,r.lm,rfl,λe he=>r.it e (h▸afu.mpr (.inr he)),r.nd,r.ln,r.er,r.md,r.mr,r.fo,r.ak,r.pe,r.og⟩⟩
theorem Sm.CG(r:Sm E s b)(h:s.st=(.nm x,q)::l):∃k,E.bM q=[k]/\aE b k=x/\b.stack=E.ids l++[k]:=by
 refine aO (r.it (.nm x,q) (h▸.head _)) λe _=>?_
 refine cK (lS e) λk l' e1 e2 e3=>?_
 have e4:l'=[]:=agx.mp e3;refine⟨k,by rw[e1,e4],e2,?_⟩
 rw[r.st,h];show E.ids l++E.bM q=_;rw[e1,e4]
theorem Sm.top(r:Sm E s b)(h:mF s.st=some x):∃k it q l,s.st=(it,q)::l/\aE b k=x/\jq (E.bM q)=k/\b.stack=(E.ids l++(E.bM q).dropLast)++[k]:=by
 have fin:∀it q l,s.st=(it,q)::l->((E.bM q).map (aE b)).getLast?=some x->∃k it q l,s.st=(it,q)::l/\aE b k=x/\jq (E.bM q)=k/\b.stack=(E.ids l++(E.bM q).dropLast)++[k]:=λit q l e h=>by
  rw[List.getLast?_map]at h;refine ah (afX.mp h) λk e1 e2=>?_
  refine aF (agh.mp e1) λys e3=>?_
  refine⟨k,it,q,l,e,e2,by unfold jq;rw[e1];rfl,?_⟩
  rw[r.st,e];show E.ids l++E.bM q=_;rw[e3,ag5,afs]
 cases e:s.st with
 |nil=>exact af (e▸h)
 |cons a l=>
  obtain⟨it,q⟩:=a;have i:=r.it (it,q) (e▸.head _)
  replace h:=e▸h
  induction it with
  |nm y=>obtain rfl:=ack h;exact fin _ _ _ e (i.1▸rfl)|>λ⟨k,a,b,c,d,f⟩=>⟨k,a,b,c,e▸d,f⟩
  |inl la ha=>obtain rfl:=ack h;exact fin _ _ _ e i.2.1|>λ⟨k,a,b,c,d,f⟩=>⟨k,a,b,c,e▸d,f⟩
  |_=>exact af h
theorem yJ(h:mG ns=true)(ha:ap l):∀x∈l,ar ns x=false:=λx hx=>by
 unfold mG at h;rw[afi,afH,afH]at h;rcases ha x hx with e|e<;>rw[e]
 ·exact h.1
 ·exact h.2
end
section
variable{E:Eb}{s:Sy}{b:B}(e:d5 E)
theorem Sm.hN(r:Sm E s b)(e:d5 E):E.N+(s.tr.length+s.bJ.length)<=800000:=by have:=r.N e;exact ads ‹_› (by decide)
theorem Sm.z(r:Sm E s b)(e:d5 E):b.stack.length<=900000:=by have:=r.ok.zs;have:=r.N e;exact bh (ads ‹_› ‹_›)
include e
theorem Zz(r:Sm E s b)(h:mF s.st=some x):ij b=some x:=by
 refine cps λgG kK=>?_
 refine lV (r.top h) λk it q l _ e2 _ e4=>?_
 refine kK ?_;rw[mj r.ok (r.hN e) e4,e2]
theorem ZA(r:Sm E s b)(h:Kl s.st=some l):∃k b',gu b=some (k,b')/\Sm E {s with st:=l} b':=by
 apply EL (a:=l);intro gG kK;cases es:s.st with
 |nil=>exact af (es▸h)
 |cons a r'=>
  obtain⟨it,q⟩:=a
  replace h:=es▸h
  induction it with
  |nm x=>
   apply sE h;refine cC (r.CG es) λk _ _ e3=>?_
   refine kK _ ?_;exact⟨k,_,sz e3 (r.z e),(r.fW (x:=[(.nm x,q)]) es).2⟩
  |inl la ha=>
   induction q with
   |old i=>
    obtain rfl:=ack h;refine aO (r.fW (x:=[(.inl la ha,.old i)]) es) λe1 r2=>?_
    have i1:=r.it (.inl la ha,.old i) (es▸.head _);refine ah (afX.mp ((List.getLast?_map (f:=aE b)).symm.trans i1.2.1)) λk e2 _=>?_
    refine aF (agh.mp e2) λys e3=>?_
    replace e3:E.o i=ys++[k]:=e3
    have e4:b.stack=(E.ids r'++ys)++[k]:=by rw[r.st,es,afs,<-e3];rfl
    have e5:E.ids ((.any,.fW i)::r')=E.ids r'++ys:=by show E.ids r'++(E.o i).dropLast=_;rw[e3,ag5]
    refine kK _ ?_;refine⟨k,_,sz e4 (r.z e),⟨r.ok.fW e4,r.lm,e5.symm,afV.mpr ⟨?_,r2.it⟩,r.nd,r.ln,r.er,r.md,r.mr,r.fo,r.ak,r.pe,r.og⟩⟩;have a1:ap ((E.o i).map (aE b)):=i1.1;rw[e3,afz,u1]at a1;show ap ((E.o i).dropLast.map (aE b));rw[e3,ag5];exact a1.1
   |_=>exact af h
  |_=>exact af h
omit e in
theorem vz {f:Int->Str}{l:List Int}(h:∀x∈l.map f,ar ns x=false):∀k∈l,ar ns (f k)=false:=λk hk=>h _ (afQ.mpr ⟨k,hk,rfl⟩)
theorem ZC{l:Sk}:∀(k:Sk) (s:Sy) (b:B),Sm E s b->s.st=k->o9 ns k=some l->∃i x,k=x++l/\i8 ns (E.ids k).length b=some (i,{b with stack:=E.ids l}):=λkK=>by
 induction kK with
 |nil=>exact λ_ _ _ _ h=>nomatch h
 |cons aA k ih=>
  obtain⟨it,q⟩:=aA
  rintro s b r es h
  refine aO (r.fW (x:=[(it,q)]) es) λe1 r2=>?_
  replace e1:b.stack=E.ids k++E.bM q:=e1
  have len:(E.ids ((it,q)::k)).length=(E.bM q).length+(E.ids k).length:=by show(E.ids k++E.bM q).length=_;rw[afl,agJ]
  have skip:(∀i∈E.bM q,ar ns (aE b i)=false)->o9 ns k=some l->∃i x,(it,q)::k=x++l/\i8 ns (E.ids ((it,q)::k)).length b=some (i,{b with stack:=E.ids l}):=λhq h=>by
   refine cG (ih _ _ r2 rfl h) λi x e2 e3=>?_
   refine⟨i,(it,q)::x,by rw[e2];rfl,?_⟩
   rw[len,J8 (r.hN e) _ _ b r.ok e1 hq];exact e3
  induction it with
  |nm x=>
   refine cC (r.CG es) λi e2 e3 e4=>?_
   replace h:cond (ar ns x) (some k) (o9 ns k)=some l:=h
   cases hx:ar ns x with
   |true=>
    rw[hx]at h;apply sE h;refine⟨i,[(.nm x,q)],rfl,?_⟩;rw[len,e2,agJ];exact J7 (r.hN e) r.ok e4 (e3▸hx) _
   |false=>rw[hx]at h;exact skip (λj hj=>by rw[e2,afJ]at hj;rw[hj,e3];exact hx) h
  |inl la ha=>
   replace h:cond (mG ns) (o9 ns k) none=some l:=h
   cases hx:mG ns with
   |true=>rw[hx]at h;exact skip (vz (yJ hx (r.it (.inl la ha,q) (es▸.head _)).1)) h
   |false=>rw[hx]at h;exact af h
  |_=>exact af h
omit e in
theorem Km (r:Sm E s b)(h:s.st=x++l)(hf:sW l=true):E.ids l≠[]:=λq=>by
 induction l with
 |nil=>cases hf
 |cons a l=>
  obtain⟨it,rf⟩:=a;have i:=r.it (it,rf) (h▸afu.mpr (.inr (.head _)));have q2:E.bM rf=[]:=(List.append_eq_nil_iff.mp q).2
  replace i:=q2▸i
  induction it with
  |nm x=>exact nomatch i.1
  |pre m=>exact i.1.ne rfl
  |_=>cases hf
theorem ZD{l:Sk}:∀(k:Sk) (s:Sy) (b:B),Sm E s b->s.st=k->qU ns k=some l->∃x,k=x++l/\i9 ns (E.ids k).length b=some {b with stack:=E.ids l}:=λkK=>by
 induction kK with
 |nil=>exact λ_ _ _ _ h=>nomatch h
 |cons aA k ih=>
  obtain⟨it,q⟩:=aA
  rintro s b r es h
  refine aO (r.fW (x:=[(it,q)]) es) λe1 r2=>?_
  replace e1:b.stack=E.ids k++E.bM q:=e1
  have len:(E.ids ((it,q)::k)).length=(E.bM q).length+(E.ids k).length:=by show(E.ids k++E.bM q).length=_;rw[afl,agJ]
  have skip:sW k=true->(∀i∈E.bM q,ar ns (aE b i)=false)->qU ns k=some l->∃x,(it,q)::k=x++l/\i9 ns (E.ids ((it,q)::k)).length b=some {b with stack:=E.ids l}:=λhf hq h=>by
   refine ah (ih _ _ r2 rfl h) λx e2 e3=>?_
   refine⟨(it,q)::x,by rw[e2];rfl,?_⟩
   rw[len,Y8 (r.hN e) (Km r (x:=[(it,q)]) es hf) _ _ b r.ok e1 hq];exact e3
  induction it with
  |nm x=>
   refine cC (r.CG es) λi e2 e3 e4=>?_
   replace h:cond (sW k) (cond (ar ns x) (some ((.nm x,q)::k)) (qU ns k)) none=some l:=h
   refine cE h λhf h=>?_
   cases hx:ar ns x with
   |true=>
    replace h:=hx▸h;apply sE h
    refine⟨[],rfl,?_⟩;rw[len,e2,agJ];exact(Y7 (r.hN e) r.ok e4 (Km r (x:=[(.nm x,q)]) es hf) (e3▸hx) _).trans (by rw[show E.ids ((.nm x,q)::k)=b.stack from by rw[r.st,es]])
   |false=>replace h:=hx▸h;exact skip hf (λj hj=>by rw[e2,afJ]at hj;rw[hj,e3];exact hx) h
  |inl la ha=>
   replace h:cond (sW k) (cond (mG ns) (qU ns k) none) none=some l:=h
   exact cE h λhf h=>cE h λhx h=>skip hf (vz (yJ hx (r.it (.inl la ha,q) (es▸.head _)).1)) h
  |_=>exact af h
theorem ZE(r:Sm E s b){c:Bool}:∀(k x:Sk),s.st=x++k->nS ns k=some c->nh b ns (E.ids k).reverse=some c:=λkK=>by
 induction kK with
 |nil=>exact λ_ _ h=>nomatch h
 |cons aA k ih=>
  obtain⟨it,q⟩:=aA
  rintro y es h
  have m0:(it,q)∈s.st:=es▸afu.mpr (.inr (.head _));have Kn:(E.ids ((it,q)::k)).reverse=(E.bM q).reverse++(E.ids k).reverse:=List.reverse_append;have skip:(∀i∈E.bM q,ar ns (aE b i)=false)->(∀i∈E.bM q,ar yE (aE b i)=false)->nS ns k=some c->nh b ns (E.ids ((it,q)::k)).reverse=some c:=λh1 h2 h=>by
   rw[Kn,Za r.ok (r.hN e) _ (λi hi=>r.mem m0 i (agU.mp hi)) (λi hi=>iN.mp (h1 i (agU.mp hi))) λi hi=>iN.mp (h2 i (agU.mp hi))]
   exact ih (y++[(it,q)]) (by rw[es,afs];rfl) h
  induction it with
  |nm x=>
   refine aO (r.it _ m0) λe2 _=>?_
   refine cK (lS e2) λi l' e3 e4 e5=>?_
   have e6:E.bM q=[i]:=by rw[e3,agx.mp e5]
   have m1:i∈b.stack:=r.mem m0 i (e6▸.head _);refine gD (nC r.ok (r.hN e) m1) λ_ y' _ _ f1 _ f2=>?_
   have one:nh b ns (E.ids ((.nm x,q)::k)).reverse=(if ar ns x then some true else if ar [S "html",S "table",S "template"] x then some false else nh b ns (E.ids k).reverse):=by
    rw[Kn,e6];refine(oB _ f1).trans ?_;rw[f2,e4];rfl
   replace h:cond (ar ns x) (some true) (cond (ar yE x) (some false) (nS ns k))=some c:=h
   rw[one];exact dE h (λh1 h=>(iT _ _ h1).trans h) λh1 h=>(iF _ _ h1).trans (dE h (λh2 h=>(iT _ _ h2).trans h) λh2 h=>(iF _ _ h2).trans (ih (y++[(.nm x,q)]) (by rw[es,afs];rfl) h))
  |inl la ha=>exact cE h λhx h=>skip (vz (yJ hx (r.it _ m0).1)) (vz (yJ rfl (r.it _ m0).1)) h
  |_=>exact af h
end
set_option tactic.hygienic true
theorem vA(b:B)(p:Nat)(xp:Nd)(at_:Nat)(s:Str):fJ b p xp at_ s={b with aa:=(fJ b p xp at_ s).aa}:=by
 unfold fJ;split
 ·split
  ·split<;>rfl
  ·rfl
 ·rfl
theorem Ko(h:b'.aa=b.aa):(fJ b' p xp at_ s).aa=(fJ b p xp at_ s).aa:=by
 obtain⟨ns,st,ma,mo,og,hd,fo,ac,er,pe,pk,old⟩:=b;obtain⟨Ad,kQ,ma',mo',og',oA,fo',ac',er',pe',jr,yK⟩:=b';cases show Ad=ns from h;unfold fJ;dsimp only;split
 ·split
  ·split<;>rfl
  ·rfl
 ·rfl
noncomputable def room (s:Sy):Bool:=Nat.ble (s.tr.length+s.bJ.length) 150
noncomputable def sX:Sk->Option Rf
 |(.nm _,q)::_=>some q
 |(.inl _ _,q)::_=>some q
 |(.pre _,q)::_=>some q
 |_=>none
noncomputable def Sy.el (s:Sy)(q:Rf)(fo:Bool)(x:Str)(own:Bool):Sy:={s with st:=(.nm x,.new s.n)::s.st,tr:=.el q fo x own::s.tr,n:=s.n+1}
def vB(x:Str)(own:Bool)(s:Sy):Option Sy:=
 cond (room s&&(!s.pt&&(!(x==S "template")&&!(x==S "html"))))
  (cond (s.fo&&cv (mF s.st) (ar gn) true) (cond (cv (mF s.st) (ar gn) false&&!(x==S "table")) ((vy s.st).bind λq=>some (s.el q true x own)) none) ((sX s.st).bind λq=>some (s.el q false x own))) none
noncomputable def vC (w:Str)(s:Sy):Option Sy:=cond (room s) (some {s with bJ:=s.bJ++[(w,s.mode)]}) none
noncomputable def nT (w m:Str)(s:Sy):Option Sy:=cond (room s) (some {s with bJ:=s.bJ++[(w,m)]}) none
def Kp(s:Sy):Option Sy:=cond (room s&&(cv (mF s.st) (λy=>!(s.fo&&ar gn y)) false)) ((sX s.st).bind λq=>some {s with tr:=.put q::s.tr,pt:=true}) none
noncomputable def Kq (s:Sy):Option Sy:=cond (Nat.ble s.marks 100) (some {s with marks:=s.marks+1}) none
def ZF(ns:List Str):Sk->Option (Bool×Sk)
 |(.nm c,_)::r=>cond (ar ns c) (some (false,r)) none
 |(.inl _ ha,_)::r=>(match r with
  |(.nm c,_)::r=>cond (ar ns c) (some (ha,r)) none
  |_=>none)
 |_=>none
noncomputable def ZG:Nat->Option Nat
 |0=>none
 |k+1=>some k
def CH(ns:List Str)(m:Str)(s:Sy):Option Sy:=
 cond (room s&&(mG ns&&(ns.all (λx=>!ar jF x)&&Nat.ble s.marks 100))) ((ZF ns s.st).bind λp=>(ZG s.marks).bind λk=>some {s with st:=p.2,marks:=k,bJ:=cond p.1 (s.bJ++[(S "open-elements",s.mode)]) s.bJ,mode:=m}) none
noncomputable def CI (s:Sy):Option Sy:=match s.st with
 |[(.pre m,_)]=>some {s with mode:=m}
 |_=>none
section
variable{E:Eb}{s:Sy}{b:B}(e:d5 E)
theorem pd(h:room s=true):s.tr.length+s.bJ.length<=150:=afo h
theorem Sm.dI(r:Sm E s b)(h:sX s.st=some q):∃k,jq (E.bM q)=k/\∃st,b.stack=st++[k]:=by
 refine cps λG k=>?_
 cases es:s.st with
 |nil=>exact af (es▸h)
 |cons a l=>
  obtain⟨it,q'⟩:=a;have i:=r.it (it,q') (es▸.head _)
  replace h:=es▸h
  have fin:E.bM q'≠[]->q'=q->∃k,jq (E.bM q)=k/\∃st,b.stack=st++[k]:=λhne hq=>by
   subst hq;obtain⟨st,k,h⟩:∃st k,E.bM q'=st++[k]:=by
    rcases af1 (E.bM q')with h|⟨st,k,h⟩
    ·exact(hne h).elim
    ·exact⟨st,k,by rw[h,agb]⟩
   refine⟨k,by unfold jq;rw[h,agM];rfl,E.ids l++st,?_⟩
   rw[r.st,es,afs,<-h];rfl
  induction it with
  |nm x=>refine k ?_;exact fin (λz=>by rw[z]at i;exact nomatch i.1) (ack h)
  |inl la ha=>refine k ?_;exact fin (λz=>by rw[z]at i;exact nomatch i.2.1) (ack h)
  |pre m=>refine k ?_;exact fin (λz=>by rw[z]at i;exact i.1.ne rfl) (ack h)
  |any=>exact af h
theorem Sm.gU(r:Sm E s b):∀(k x:Sk),s.st=x++k->vy k=some q->∃st u t r',E.ids k=st++u::t::r'/\jq (E.bM q)=u/\aE b t=S "table"/\∀i∈r',aE b i≠S "table"/\aE b i≠S "template"
 |[],_,_,h=>nomatch h
 |(it,q')::k,y,es,h=>by
  have m0:(it,q')∈s.st:=es▸afu.mpr (.inr (.head _));have skip:(∀i∈E.bM q',aE b i≠S "table"/\aE b i≠S "template")->vy k=some q->∃st u t r',E.ids ((it,q')::k)=st++u::t::r'/\jq (E.bM q)=u/\aE b t=S "table"/\∀i∈r',aE b i≠S "table"/\aE b i≠S "template":=λhq h=>by
   refine lV (r.gU k (y++[(it,q')]) (by rw[es,afs];rfl) h) λst u t r' e1 e2 e3 e4=>?_
   refine⟨st,u,t,r'++E.bM q',?_,e2,e3,agg.mpr ⟨e4,hq⟩⟩;show E.ids k++E.bM q'=_;rw[e1,afs];rfl
  induction it with
  |nm x=>
   refine aO (r.it _ m0) λe2 _=>?_
   refine cK (lS e2) λi l' e3 e4 e5=>?_
   have e6:E.bM q'=[i]:=by rw[e3,agx.mp e5]
   refine dE (A:=match k with|[(.pre _,q)]=>some q|_=>none) h (λhx h=>?_) λhx h=>dE h (λ_ h=>nomatch h) λhy h=>skip (λj hj=>?_) h
   ·cases k with
    |nil=>exact af h
    |cons a2 k=>
     obtain⟨CJ,q2⟩:=a2
     induction CJ with
     |pre p=>
      induction k with
      |cons=>exact af h
      |nil=>
       cases h;have i2:=r.it (.pre p,q) (es▸afu.mpr (.inr (.tail _ (.head _))));obtain⟨st,u,h⟩:∃st u,E.bM q=st++[u]:=by
        rcases af1 (E.bM q)with h|⟨st,k,h⟩
        ·rw[h]at i2;exact absurd rfl i2.1.ne
        ·exact⟨st,k,by rw[h,agb]⟩
       refine⟨st,u,i,[],?_,by unfold jq;rw[h,agM];rfl,by rw[e4];exact afr.mp hx,λ_ h=>nomatch h⟩
       show([]++E.bM q)++E.bM q'=_;rw[e6,h,List.nil_append,afs];rfl
     |_=>exact af h
   ·rw[e6,afJ]at hj;rw[hj,e4];exact⟨λz=>by rw[z]at hx;exact absurd hx (by decide),λz=>by rw[z]at hy;exact absurd hy (by decide)⟩
  |inl la ha=>
   have i:=(r.it _ m0).1;have j1:=vz (ns:=[S "table",S "template"]) (λx hx=>(by
    have:=xG (f:=λx=>!ar [S "table",S "template"] x) i rfl rfl x hx
    simpa using this:ar [S "table",S "template"] x=false))
   exact skip (λk hk=>by
    have:=iN.mp (j1 k hk);exact⟨λz=>this (z▸.head _),λz=>this (z▸.tail _ (.head _))⟩) h
  |_=>exact af h
theorem Sm.ir(r:Sm E s b){fo:Bool}(hu:jq (E.bM q)=u)(hr:s.tr.length+s.bJ.length<=150)(hp:s.pt=false)(hx:x≠S "html")(P:kP b u.toNat (dF b u) before (cond fo ((dF b u).kids.length-1) (dF b u).kids.length))
  (h1:∀st u' t r,b.stack=st++u'::t::r->aE b t=S "table"->u'=(u.toNat:Int)->before=t)(h2:x=S "table"->before=-1/\∃st,b.stack=st++[(u.toNat:Int)]):
  Sm E (s.el q fo x own) (Mine.ir b u.toNat (dF b u) (cond fo ((dF b u).kids.length-1) (dF b u).kids.length) x (cond own E.as [])):=by
 have len:=r.ln hp;refine⟨r.ok.ir P h1 h2 (by show _<=E.N+((s.tr.length+1)+s.bJ.length);lia),by show(s.tr.length+1)+s.bJ.length<=200;lia,?_,afV.mpr ⟨?_,λa ha=>?_⟩,?_,λ_=>?_,r.er,r.md,r.mr,r.fo,r.ak,r.pe,r.og⟩
 ·show b.stack++[(b.aa.length:Int)]=E.ids s.st++[((E.b.aa.length+s.n:Nat):Int)];rw[r.st,len]
 ·refine⟨?_,λz=>absurd z hx⟩
  show[aE _ (((E.b.aa.length+s.n:Nat):Int))]=[x];rw[<-len,Te P.get]
 ·rw[aga λk hk=>Td r.ok P.get (r.mem ha k hk)]
  exact r.it a ha
 ·show eK _ _ _ _ _=eK (E.tr s.tr).aa _ _ _ _;unfold dF;rw[r.nd,hu]
 ·show(eK _ _ _ _ _).length=_;rw[GD,len];rfl
theorem Kr(r:Sm E s b)(e:d5 E){own:Bool}(h:vB x own s=some s'):∃n b',jI b x (cond own E.as [])=some (n,b')/\Sm E s' b':=by
 refine cps λgG kK=>?_
 refine cE h λhc h=>?_
 simp only[Bool.and_eq_true,Bool.not_eq_true']at hc;refine cps λG k=>?_
 refine fb hc λh1 h2 h3 h4=>?_
 have hx:x≠S "html":=aft.mp h4;have hm:x≠S "template":=aft.mp h3;have ha:(cond own E.as []).length<=1000:=by induction own;exact afw _;exact e.as
 refine k ?_;refine dE h (λhf h=>cE h λhg h=>bE h λq hq h=>?_) λhf h=>bE h λq hq h=>?_
 ·obtain rfl:=ack h;simp only[Bool.and_eq_true,Bool.not_eq_true']at hf hg;obtain⟨y,ey,hy⟩:∃y,mF s.st=some y/\ar gn y=true:=oE hg.1 (λy e h=>⟨y,e,h⟩) λh=>nomatch h
  refine lV (r.top ey) λk it q2 l _ f2 _ f4=>?_
  refine lV (r.gU s.st [] rfl hq) λst u t r' g1 g2 g3 g4=>?_
  have es:b.stack=st++u::t::r':=r.st.trans g1;have hp:=Kj r.ok (r.hN e) es g3 g4 (r.fo▸hf.1) f4 (by rw[f2];exact ka.mp hy)
  refine kK ?_;exact⟨_,_,Zq r.ok (r.hN e) es g3 hm ha hp,r.ir (fo:=true) g2 (pd h1) h2 hx (nP r.ok es g3).2.1 (CE r.ok es g3) λz=>absurd z (aft.mp hg.2)⟩
 ·cases h;refine ah (r.dI hq) λk f1 hh=>aF hh λst f2=>?_
  refine aO (jT r.ok f2) λf3 P=>?_
  have hl:j4 b=some ((hS b:Int),-1):=Kg r.ok (r.hN e) f2 (by
   rw[r.fo];cases z:s.fo with
   |false=>exact .inl rfl
   |true=>
    rw[z,agA]at hf;refine .inr ?_;cases ey:mF s.st with
    |none=>rw[ey]at hf;exact nomatch hf
    |some y=>
     rw[ey]at hf;refine lV (r.top ey) λk' _ _ _ _ g2 _ g4=>?_
     have:k=k':=by have:=agS (f2.symm.trans g4) rfl;simpa using this.2
     rw[this,g2];exact iN.mp hf)
  have eu:hS b=k.toNat:=by rw[f3];rfl
  have en:gf b=dF b k:=by delta gf dF;rw[eu]
  rw[eu,en]at P;rw[eu]at hl;refine kK ?_;refine⟨_,_,GI r.ok (r.hN e) P hm ha hl,r.ir (fo:=false) f1 (pd h1) h2 hx P ?_ λ_=>⟨rfl,st,by rw[<-eu,<-f3];exact f2⟩⟩
  have:=yF r.ok f2
  replace this:=eu▸this
  exact this
theorem Sm.put(r:Sm E s b)(e:d5 E)(h1:s.tr.length+s.bJ.length<=150)(f1:jq (E.bM q)=k){st:List Int}(f2:b.stack=st++[k]):Sm E {s with tr:=.put q::s.tr,pt:=true} (putL b E.sg):=by
 refine aO (jT r.ok f2) λf3 P=>?_
 have O2:=r.ok.fJ e.sg P (yF r.ok f2) (afm _);have nm:∀k∈b.stack,aE (putL b E.sg) k=aE b k:=λk hk=>GQ r.ok P.get hk
 have eq:putL b E.sg={b with aa:=(putL b E.sg).aa}:=vA ..
 have eu:hS b=k.toNat:=by rw[f3];rfl
 have nd:(putL b E.sg).aa=(CF (E.tr s.tr) (jq (E.bM q)) E.sg).aa:=by
  delta CF putL gf dF
  rw[f1,eu,<-r.nd];exact(Ko r.nd.symm).symm
 rw[eq]at nm ⊢;rw[show Mine.fJ b (hS b) (gf b) (gf b).kids.length E.sg=putL b E.sg from rfl,eq]at O2;exact⟨O2.same rfl (afE _) (ads O2.ze (by show _<=E.N+((s.tr.length+1)+s.bJ.length);omega)) (ads O2.zp (by show _<=E.N+((s.tr.length+1)+s.bJ.length);omega)) (by show _<=E.N+((s.tr.length+1)+s.bJ.length);omega),by show(s.tr.length+1)+s.bJ.length<=200;omega,r.st,λa ha=>by
  rw[aga λk hk=>nm k (r.mem ha k hk)]
  exact r.it a ha,nd,λz=>(nomatch z),r.er,r.md,r.mr,r.fo,r.ak,r.pe,r.og⟩
theorem ZH(r:Sm E s b)(e:d5 E){s':Sy}(h:Kp s=some s'):∃b',ja b E.sg=some b'/\Sm E s' b':=by
 refine cps λgG kK=>?_
 refine cE h λhc h=>bE h λq hq h=>?_
 obtain rfl:=ack h;rw[afi]at hc;obtain⟨y,ey,hy⟩:∃y,mF s.st=some y/\(!(s.fo&&ar gn y))=true:=oE hc.2 (λy e h=>⟨y,e,h⟩) λh=>nomatch h
 refine ah (r.dI hq) λk f1 hh=>aF hh λst f2=>?_
 refine lV (r.top ey) λk' _ _ _ _ g2 _ g4=>?_
 have CK:k=k':=by have:=agS (f2.symm.trans g4) rfl;simpa using this.2
 have hf:b.dC=false\/aE b k∉gn:=by
  rw[r.fo,CK,g2];rw[afH,Bool.and_eq_false_iff]at hy;exact hy.imp id iN.mp
 refine kK ?_;exact⟨_,Kh r.ok (r.hN e) f2 hf e.sg,r.put e (pd hc.1) f1 f2⟩
theorem Sm.err(r:Sm E s b)(h:room s=true)(w m:Str):Sm E {s with bJ:=s.bJ++[(w,m)]} {b with aH:=b.aH++[(w,m)]}:=by
 have h1:=pd h;have l:(s.bJ++[(w,m)]).length=s.bJ.length+1:=by rw[afl];rfl
 have l2:(b.aH++[(w,m)]).length=b.aH.length+1:=by rw[afl];rfl
 have:=r.ok.ze;have:=r.ok.zp;exact⟨r.ok.same rfl (afE _) (by show(b.aH++[(w,m)]).length<=E.N+(s.tr.length+(s.bJ++[(w,m)]).length);lia) (by show b.pending.length<=E.N+(s.tr.length+(s.bJ++[(w,m)]).length);lia) (by show _<=E.N+(s.tr.length+(s.bJ++[(w,m)]).length);lia),by show s.tr.length+(s.bJ++[(w,m)]).length<=200;lia,r.st,r.it,r.nd,r.ln,by show b.aH++_=E.b.aH++(s.bJ++_);rw[r.er,afs],r.md,r.mr,r.fo,r.ak,r.pe,r.og⟩
theorem CL(r:Sm E s b)(e:d5 E)(h:vC w s=some s'):∃b',fh b w=some b'/\Sm E s' b':=
 cE h λhc h=>by apply sE h;exact⟨_,(Cz r.ok (r.hN e) w).trans (r.md▸rfl),r.err hc w s.mode⟩
theorem Ks(r:Sm E s b)(e:d5 E)(h:Nat.ble s.marks 100=true):b.marks.length<=900000:=by
 have:=afo h;have:=e.ms;rw[r.mr,afl,List.length_replicate];exact bh (agu ‹_› ‹_›)
theorem ZI(r:Sm E s b)(e:d5 E)(h:Kq s=some s'):∃b',ux b=some b'/\Sm E s' b':=
 cE h λhc h=>by
  apply sE h;exact⟨_,if_pos (cU (Ks r e hc)),⟨r.ok.same rfl (afE _) r.ok.ze r.ok.zp (afm _),r.lm,r.st,r.it,r.nd,r.ln,r.er,r.md,by show b.marks++[-1]=_;rw[r.mr,afs,List.replicate_succ'],r.fo,r.ak,r.pe,r.og⟩⟩
theorem ZJ(r:Sm E s b)(e:d5 E)(h:CI s=some s'):∃b',rY b=some b'/\Sm E s' b':=by
 apply EL (a:=s');intro G k;unfold CI at h;split at h
 ·rename_i m q es;apply sE h;have i:=r.it (.pre m,q) (es▸.head _);have e1:b.stack=E.bM q:=by rw[r.st,es];rfl
  refine k _ ?_;exact⟨_,Zl (m:=m) r.ok (r.hN e) (by exact e1▸i.1),⟨r.ok.same rfl (afE _) r.ok.ze r.ok.zp (afm _),r.lm,r.st,r.it,r.nd,r.ln,r.er,rfl,r.mr,r.fo,r.ak,r.pe,r.og⟩⟩
 ·exact af h
theorem Kt(r:Sm E s b)(e:d5 E)(h:CH ns m s=some s'):∃b',lB b ns m=some b'/\Sm E s' b':=by
 refine cps λgG kK=>?_
 refine cE h λhc h=>bE h λp hp h=>bE h λk hk h=>?_
 obtain rfl:=ack h;simp only[Bool.and_eq_true]at hc;refine fb hc λh1 h2 h3 h4=>?_
 have h1:=pd h1;have ho:=h2;unfold mG at ho;rw[afi,afH,afH]at ho;have CK:s.marks=k+1:=by
  cases z:s.marks with
  |zero=>exact af (z▸hk)
  |succ=>replace hk:=z▸hk;apply sE hk;rfl
 have hm:b.marks=(E.ms++List.replicate k (-1))++[-1]:=by rw[r.mr,CK,List.replicate_succ',afs]
 have key:∀(c:Str) (q:Rf) (l x:Sk) (is:List Int),s.st=x++(.nm c,q)::l->ar ns c=true->ap (is.map (aE b))->b.stack=E.ids ((.nm c,q)::l)++is->(ar (is.map (aE b)) (S "a")=p.1)->p.2=l->∃b',lB b ns m=some b'/\Sm E {s with st:=p.2,marks:=k,bJ:=cond p.1 (s.bJ++[(S "open-elements",s.mode)]) s.bJ,mode:=m} b':=by
  intro c q l x is es hn ha eb hi hl;subst hl;refine aO (r.it (.nm c,q) (es▸afu.mpr (.inr (.head _)))) λe2 _=>?_
  refine cK (lS e2) λi l' e3 e4 e5=>?_
  have e6:E.bM q=[i]:=by rw[e3,agx.mp e5]
  have ZK:b.stack=(E.ids p.2++[i])++is:=by rw[eb,<-e6];rfl
  have CB:aE b i∉jF:=by
   have:=afn.mp h3 c (ka.mp hn);rw[afH]at this;exact e4▸iN.mp this
  refine⟨_,Zf r.ok (r.N e) ZK ha (by exact e4▸hn) CB ho.1 ho.2 hm (Ks r e h4),?_⟩
  refine aO (r.fW (x:=x++[(.nm c,q)]) (l:=p.2) (by rw[es,afs];rfl)) λ_ r2=>?_
  have base:∀E',(E'=s.bJ\/E'=s.bJ++[(S "open-elements",s.mode)])->Sm E {s with st:=p.2,marks:=k,bJ:=E',mode:=m} {b with stack:=E.ids p.2,marks:=E.ms++List.replicate k (-1),aH:=E.b.aH++E',mode:=m}:=λE' hE=>by
   have lE:s.bJ.length<=E'.length/\E'.length<=s.bJ.length+1:=by
    rcases hE with z|z<;>rw[z]
    ·exact⟨afm _,agc _⟩
    ·rw[afl,afF];exact⟨agc _,afm _⟩
   have:=r2.ok.ze;have z1:b.aH.length=E.b.aH.length+s.bJ.length:=by rw[r.er,afl]
   have:=r2.ok.zp;exact⟨r2.ok.same rfl (afE _) (by show(E.b.aH++E').length<=E.N+(s.tr.length+E'.length);rw[afl];have:b.aH.length<=E.N+(s.tr.length+s.bJ.length):=r2.ok.ze;lia) (ads r2.ok.zp (by show _<=E.N+(s.tr.length+E'.length);show E.N+(s.tr.length+s.bJ.length)<=_;omega)) (by show E.N+(s.tr.length+s.bJ.length)<=E.N+(s.tr.length+E'.length);omega),by show s.tr.length+E'.length<=200;lia,rfl,r2.it,r.nd,r.ln,rfl,rfl,rfl,r.fo,r.ak,r.pe,r.og⟩
  cases Ku:p.1 with
  |true=>
   rw[Ku]at hi;rw[if_pos (ka.mp hi),r.md,r.er,afs];exact base _ (.inr rfl)
  |false=>
   rw[Ku]at hi;rw[if_neg (iN.mp hi),afD,r.er];exact base _ (.inl rfl)
 cases es:s.st with
 |nil=>exact af (es▸hp)
 |cons a l=>
  obtain⟨it,q⟩:=a;have ii:=r.it (it,q) (es▸.head _);rw[es]at hp
  induction it with
  |nm c=>
   replace hp:cond (ar ns c) (some (false,l)) none=some p:=hp
   exact cE hp λhn hp=>by
    obtain rfl:=ack hp;refine kK ?_;exact key c q l [] [] es hn kR (by rw[r.st,es,afD]) rfl rfl
  |inl la ha=>
   cases l with
   |nil=>exact af hp
   |cons a2 l=>
    obtain⟨CJ,q2⟩:=a2
    induction CJ with
    |nm c=>
     replace hp:cond (ar ns c) (some (ha,l)) none=some p:=hp
     exact cE hp λhn hp=>by
      obtain rfl:=ack hp;refine kK ?_;exact key c q2 l [(.inl la ha,q)] (E.bM q) es hn ii.1 (by rw[r.st,es];rfl) ii.2.2 rfl
    |_=>exact af hp
  |_=>exact af hp
end
set_option tactic.hygienic false
inductive Ou
 |sign
 |err (w:Str)
 |mark
 |qV (ns:List Str)
 |sY (ns:List Str)(m:Str)
inductive Oc
 |sZ
 |i7
 |eV (x:Str)
 |nU
 |yL
 |to (m:Str)
 |gU (c:Bool)
 |text
 |push
 |has (ns:List Str)
 |scope (ns:List Str)
 |tc
 |td
 |qW (ns:List Str)
 |pf
inductive Pg
 |ret
 |fail
 |flush
 |gy
 |ite (c:Bool)(x y:Pg)
 |seq (x y:Pg)
 |u (o:Ou)(k:Pg)
 |ul (o:Ou)
 |op (o:Oc)(k:Str->Bool->Pg)
structure Qt where
 kind:Str
 name:Str
 bl:Bool
 yM:Bool
def d6(t:aN):Qt:=⟨t.kind,t.name,fj t.name,t.name==S "\x00"⟩
def Kv(q:Qt):Str:=if q.kind==S "start" then S "unexpected-start-tag"else if q.kind==S "end" then S "unexpected-end-tag"else S "unexpected-text"
def CM(t:aN)(o:Ou)(b:B):Option B:=match o with
 |.sign=>ja b t.name
 |.err w=>fh b w
 |.mark=>ux b
 |.qV ns=>i9 ns b.stack.length b
 |.sY ns m=>lB b ns m
def CN(t:aN)(o:Oc)(b:B)(k:Str->Bool->B->Option B):Option B:=match o with
 |.sZ=>(ij b).bind λs=>k s true b
 |.i7=>(gu b).bind λr=>k (S "") true r.2
 |.eV x=>(jI b x []).bind λr=>k (S "") true r.2
 |.nU=>(kG b t).bind λr=>k (S "") true r.2
 |.yL=>(wY b t).bind λr=>k (S "") true r.2
 |.to m=>k (S "") true (b.to m)
 |.gU c=>k (S "") true {b with dC:=c}
 |.text=>k (S "") true {b with pending:=[],pk:=b.pk+1,old:=none,original:=b.mode,mode:=S "in table text"}
 |.push=>if ay b.pending.length=true/\t.rest=[]then k (S "") true {b with pending:=b.pending++[t.name]}else none
 |.has ns=>(jK b t ns).bind λr=>k (S "") r.1 r.2
 |.scope ns=>(oH b ns).bind λc=>k (S "") c b
 |.tc=>(w7 b t).bind λr=>k (S "") r.1 r.2
 |.td=>(w4 b).bind λr=>k (S "") r.1 r.2
 |.qW ns=>(oM b t ns).bind λr=>k (S "") r.1 r.2
 |.pf=>(r5 b t).bind λr=>k (S "") r.1 r.2
def Pg.run(t:aN)(P:B->Option B):Pg->B->Option B
 |.ret,b=>some b
 |.fail,_=>none
 |.flush,b=>(uy b).bind λb1=>P (b1.to b1.original)
 |.gy,b=>P b
 |.ite c x y,b=>if c then x.run t P b else y.run t P b
 |.seq x y,b=>(x.run t P b).bind λb=>y.run t P b
 |.u o k,b=>(CM t o b).bind λb=>k.run t P b
 |.ul o,b=>CM t o b
 |.op o k,b=>CN t o b λx c b=>(k x c).run t P b
noncomputable def yN (l:Option Sk)(s:Sy):Option Sy:=l.bind λl=>some {s with st:=l}
def CO(ns:List Str)(s:Sy):Option Sy:=yN (qU ns s.st) s
def CP(q:Qt)(o:Ou)(s:Sy):Option Sy:=match o with
 |.sign=>cond (q.kind==S "char") (Kp s) none
 |.err w=>vC w s
 |.mark=>Kq s
 |.qV ns=>CO ns s
 |.sY ns m=>CH ns m s
def aT(o:Option Sy):Option (Str×Bool×Sy):=o.bind λs=>some (S "",true,s)
def vD(q:Qt)(ns:List Str)(s:Sy):Option (Bool×Sy):=(nS ns s.st).bind λc=>cond c (some (true,s)) ((vC (Kv q) s).bind λs=>some (false,s))
def te(o:Option (Bool×Sy))(f:Sy->Option Sy):Option (Str×Bool×Sy):=o.bind λr=>cond r.1 (aT (f r.2)) (some (S "",false,r.2))
noncomputable def nV (s:Sy):Option Sy:=yN (Kl s.st) s
noncomputable def Sy.to (s:Sy)(m:Str):Sy:={s with mode:=m}
def ZL(ns:List Str)(s:Sy):Option (Bool×Sy):=(nS ns s.st).bind λc=>some (c,s)
def ZM(s:Sy):Option Sy:=(yN (o9 [S "table"] s.st) s).bind CI
def Kw(ns:List Str)(m:Str)(s:Sy):Option Sy:=(CO ns s).bind λs=>(nV s).bind λs=>some (s.to m)
def Kx(q:Qt)(o:Oc)(s:Sy):Option (Str×Bool×Sy):=match o with
 |.sZ=>(mF s.st).bind λx=>some (x,true,s)
 |.i7=>aT (nV s)
 |.eV x=>aT (vB x false s)
 |.nU=>aT (cond (q.kind==S "start") (vB q.name true s) none)
 |.yL=>aT (cond (q.kind==S "start") ((vB q.name true s).bind λs=>(nV s).bind λs=>some {s with dD:=true}) none)
 |.to m=>some (S "",true,s.to m)
 |.gU c=>some (S "",true,{s with fo:=c})
 |.text=>cond s.bN none (some (S "",true,{s with vx:=s.mode,mode:=S "in table text",nQ:=true}))
 |.push=>cond (q.kind==S "char"&&!s.bN) (some (S "",true,{s with bN:=true})) none
 |.has ns=>te (vD q ns s) some
 |.scope ns=>(nS ns s.st).bind λc=>some (S "",c,s)
 |.tc=>te (vD q [S "caption"] s) (CH [S "caption"] (S "in table"))
 |.td=>te (ZL [S "table"] s) ZM
 |.qW ns=>te (vD q ns s) (Kw [S "tbody",S "tfoot",S "thead",S "template",S "html"] (S "in table"))
 |.pf=>te (vD q [S "tr"] s) (Kw [S "tr",S "template",S "html"] (S "in table body"))
def Pg.sy(q:Qt)(P:Sy->Option Sy):Pg->Sy->Option Sy
 |.ret,s=>some s
 |.fail,_=>none
 |.flush,_=>none
 |.gy,s=>P s
 |.ite c x y,s=>cond c (x.sy q P s) (y.sy q P s)
 |.seq x y,s=>(x.sy q P s).bind λs=>y.sy q P s
 |.u o k,s=>(CP q o s).bind λs=>k.sy q P s
 |.ul o,s=>CP q o s
 |.op o k,s=>(Kx q o s).bind λr=>(k r.1 r.2.1).sy q P r.2.2
structure Tq(E:Eb)(t:aN):Prop where
 as:(t.kind==S "start")=true->jJ t=some E.as
 sg:(t.kind==S "char")=true->t.name=E.sg/\t.rest=[]
def nW(E:Eb)(o:Option B)(s':Sy):Prop:=∃b',o=some b'/\Sm E s' b'
def Ky(E:Eb)(o:Option (Bool×B))(c:Bool)(s':Sy):Prop:=∃b',o=some (c,b')/\Sm E s' b'
section
variable{E:Eb}{s s':Sy}{b:B}{t:aN}(e:d5 E)
theorem Sm.to(r:Sm E s b)(m:Str):Sm E (s.to m) (b.to m):=⟨r.ok.same rfl (afE _) r.ok.ze r.ok.zp (afm _),r.lm,r.st,r.it,r.nd,r.ln,r.er,rfl,r.mr,r.fo,r.ak,r.pe,r.og⟩
include e
theorem vE(r:Sm E s b)(h:nV s=some s'):∃k b',gu b=some (k,b')/\Sm E s' b':=bE h λl h1 h=>by apply sE h;exact ZA e r h1
theorem CQ(r:Sm E s b)(h:CO ns s=some s'):nW E (i9 ns b.stack.length b) s':=bE h λl h1 h=>by
 refine sE h ?_;refine ah (ZD e s.st s b r rfl h1) λx e1 e2=>?_
 rw[r.st];exact⟨_,e2,(r.fW e1).2⟩
theorem ZN(r:Sm E s b)(h:yN (o9 ns s.st) s=some s'):∃k b',i8 ns b.stack.length b=some (k,b')/\Sm E s' b':=bE h λl h1 h=>by
 apply sE h;refine cG (ZC e s.st s b r rfl h1) λi x e1 e2=>?_
 exact r.st▸⟨i,_,e2,(r.fW e1).2⟩
theorem yO(r:Sm E s b)(h:nS ns s.st=some c):oH b ns=some c:=by
 unfold oH;rw[if_pos (cU (r.z e)),r.st];exact ZE e r s.st [] rfl h
theorem pg(r:Sm E s b)(h:vD (d6 t) ns s=some (c,s')):Ky E (jK b t ns) c s':=bE h λc' h1 h=>by
 have h1:=yO e r h1;unfold jK;rw[h1]
 induction c' with
 |true=>cases h;exact⟨b,rfl,r⟩
 |false=>
  exact bE h λs1 h2 h=>by
   cases h;refine ah (CL r e h2) λb' e1 r'=>?_
   exact⟨b',(oB _ e1).trans rfl,r'⟩
omit e in
theorem vG (h:te o F=some (x,c,s')){X:Bool->Sy->Prop}(g:∀s1,o=some (true,s1)->F s1=some s'->x=S ""->X true s')(g':o=some (false,s')->x=S ""->X false s'):X c s':=bE h λr h1 h=>by
 obtain⟨c',s1⟩:=r
 induction c' with
 |true=>exact bE h λs2 h2 h=>by cases h;exact g s1 h1 h2 rfl
 |false=>cases h;exact g' h1 rfl
theorem Kz(T:Tq E t)(r:Sm E s b)(h:CP (d6 t) o s=some s'):nW E (CM t o b) s':=by
 induction o with
 |sign=>exact cE h λhc h=>by show nW E (ja b t.name) s';rw[(T.sg hc).1];exact ZH r e h
 |err w=>exact CL r e h
 |mark=>exact ZI r e h
 |qV ns=>exact CQ e r h
 |sY ns m=>exact Kt r e h
def qX(E:Eb)(t:aN)(o:Oc)(b:B)(x:Str)(c:Bool)(s':Sy):Prop:=∃b',(∀k,CN t o b k=k x c b')/\Sm E s' b'
theorem KA(T:Tq E t)(r:Sm E s b)(h:cond ((d6 t).kind==S "start") (vB (d6 t).name true s) none=some s'):∃n b',kG b t=some (n,b')/\Sm E s' b':=cE h λhc h=>by
 unfold kG;rw[T.as hc];exact Kr r e h
omit e in
theorem mH (hf:∀k,CN t o b k=f.bind λr=>k (S "") r.1 r.2)(hx:x=S "")(h:Ky E f c s'):qX E t o b x c s':=by
 refine ah h λb' e1 r=>?_
 exact⟨b',λk=>by rw[hf,e1,hx];rfl,r⟩
theorem ZO(T:Tq E t)(r:Sm E s b)(h:Kx (d6 t) o s=some (x,c,s')):qX E t o b x c s':=by
 induction o with
 |sZ=>exact bE h λy h1 h=>by cases h;exact⟨b,λk=>oB _ (Zz e r h1),r⟩
 |i7=>exact bE h λy h1 h=>by cases h;refine cG (vE e r h1) λk b' e1 r'=>?_;exact⟨b',λk=>oB _ e1,r'⟩
 |eV y=>exact bE h λy h1 h=>by cases h;refine cG (Kr r e h1) λk b' e1 r'=>?_;exact⟨b',λk=>oB _ e1,r'⟩
 |nU=>exact bE h λy h1 h=>by cases h;refine cG (KA e T r h1) λk b' e1 r'=>?_;exact⟨b',λk=>oB _ e1,r'⟩
 |yL=>
  exact bE h λy h1 h=>by
   cases h;refine cE h1 λhc g1=>bE g1 λs1 g2 g3=>bE g3 λs2 g4 h3=>?_
   refine sE h3 ?_;refine cG (KA (s':=s1) e T r (by exact hc.symm▸g2)) λk b1 e1 r1=>?_
   refine cG (vE e r1 g4) λk2 b2 e2 r2=>?_
   have e3:wY b t=some (k,{b2 with dD:=true}):=(oB _ e1).trans (oB _ e2)
   exact⟨_,λk=>oB _ e3,⟨r2.ok.same rfl (afE _) r2.ok.ze r2.ok.zp (afm _),r2.lm,r2.st,r2.it,r2.nd,r2.ln,r2.er,r2.md,r2.mr,r2.fo,rfl,r2.pe,r2.og⟩⟩
 |to m=>cases h;exact⟨_,λk=>rfl,r.to m⟩
 |gU c=>cases h;exact⟨_,λk=>rfl,⟨r.ok.same rfl (afE _) r.ok.ze r.ok.zp (afm _),r.lm,r.st,r.it,r.nd,r.ln,r.er,r.md,r.mr,rfl,r.ak,r.pe,r.og⟩⟩
 |text=>
  replace h:cond s.bN none (some (S "",true,{s with vx:=s.mode,mode:=S "in table text",nQ:=true}))=some (x,c,s'):=h
  cases hp:s.bN with
  |true=>exact af (hp▸h)
  |false=>
   replace h:=hp▸h;cases h
   exact⟨_,λk=>rfl,⟨r.ok.same rfl (afE _) r.ok.ze (afw _) (afm _),r.lm,r.st,r.it,r.nd,r.ln,r.er,rfl,r.mr,r.fo,r.ak,rfl,λ_=>r.md⟩⟩
 |push=>
  exact cE h λhc h=>by
   cases h;rw[afi,afH]at hc;have hp:b.pending=[]:=by rw[r.pe,hc.2];rfl
   have:=e.N1;refine⟨_,λk=>if_pos ⟨by rw[hp];rfl,(T.sg hc.1).2⟩,⟨r.ok.same rfl (afE _) r.ok.ze ?_ (afm _),r.lm,r.st,r.it,r.nd,r.ln,r.er,r.md,r.mr,r.fo,r.ak,by show b.pending++[t.name]=_;rw[hp,(T.sg hc.1).1];rfl,r.og⟩⟩
   show(b.pending++[t.name]).length<=E.N+(s.tr.length+s.bJ.length);rw[hp,List.nil_append,afF];exact agH this
 |has ns=>exact vG (X:=λc s'=>qX E t (.has ns) b x c s') h (λs1 h1 h2 hx=>by refine sE h2 ?_;exact mH (λk=>rfl) hx (pg e r h1)) λh1 hx=>mH (λk=>rfl) hx (pg e r h1)
 |scope ns=>exact bE h λy h1 h=>by cases h;exact⟨b,λk=>oB _ (yO e r h1),r⟩
 |tc=>
  exact vG (X:=λc s'=>qX E t .tc b x c s') h (λs1 h1 h2 hx=>mH (λk=>rfl) hx (by
   refine ah (pg e r h1) λb1 e1 r1=>?_
   refine ah (Kt r1 e h2) λb2 e2 r2=>?_
   exact⟨b2,(oB _ e1).trans ((iF _ _ rfl).trans (oB _ e2)),r2⟩)) λh1 hx=>mH (λk=>rfl) hx (by
   refine ah (pg e r h1) λb1 e1 r1=>?_
   exact⟨b1,(oB _ e1).trans (iT _ _ rfl),r1⟩)
 |td=>
  exact vG (X:=λc s'=>qX E t .td b x c s') h (λs1 h1 h2 hx=>mH (λk=>rfl) hx (bE h1 λc1 h3 h1=>by
   cases h1;refine bE h2 λs2 h4 h5=>?_
   refine cG (ZN e r h4) λk b1 e1 r1=>?_
   refine ah (ZJ r1 e h5) λb2 e2 r2=>?_
   exact⟨b2,(oB _ (yO e r h3)).trans ((iF _ _ rfl).trans ((oB _ e1).trans (oB _ e2))),r2⟩)) λh1 hx=>mH (λk=>rfl) hx (bE h1 λc1 h3 h1=>by
   cases h1;exact⟨b,(oB _ (yO e r h3)).trans (iT _ _ rfl),r⟩)
 |qW ns=>
  exact vG (X:=λc s'=>qX E t (.qW ns) b x c s') h (λs1 h1 h2 hx=>mH (λk=>rfl) hx (bE h2 λs2 g2 g3=>bE g3 λs3 g4 h4=>by
   refine sE h4 ?_;refine ah (pg e r h1) λb1 e1 r1=>?_
   refine ah (CQ e r1 g2) λb2 e2 r2=>?_
   refine cG (vE e r2 g4) λk b3 e3 r3=>?_
   exact⟨b3.to _,(oB _ e1).trans ((iF _ _ rfl).trans ((oB _ e2).trans (oB _ e3))),r3.to _⟩)) λh1 hx=>mH (λk=>rfl) hx (by
   refine ah (pg e r h1) λb1 e1 r1=>?_
   exact⟨b1,(oB _ e1).trans (iT _ _ rfl),r1⟩)
 |pf=>
  exact vG (X:=λc s'=>qX E t .pf b x c s') h (λs1 h1 h2 hx=>mH (λk=>rfl) hx (bE h2 λs2 g2 g3=>bE g3 λs3 g4 h4=>by
   refine sE h4 ?_;refine ah (pg e r h1) λb1 e1 r1=>?_
   refine ah (CQ e r1 g2) λb2 e2 r2=>?_
   refine cG (vE e r2 g4) λk b3 e3 r3=>?_
   exact⟨b3.to _,(oB _ e1).trans ((iF _ _ rfl).trans ((oB _ e2).trans (oB _ e3))),r3.to _⟩)) λh1 hx=>mH (λk=>rfl) hx (by
   refine ah (pg e r h1) λb1 e1 r1=>?_
   exact⟨b1,(oB _ e1).trans (iT _ _ rfl),r1⟩)
theorem Pg.ok(T:Tq E t)(hP:∀s s' b,Sm E s b->P s=some s'->nW E (Q b) s'):∀(p:Pg) (s s':Sy) (b:B),Sm E s b->p.sy (d6 t) P s=some s'->nW E (p.run t Q b) s':=λp=>by
 induction p with
 |ret=>intro s s' b r h;refine sE h ?_;exact⟨b,rfl,r⟩
 |fail=>intro s s' b r h;exact af h
 |flush=>intro s s' b r h;exact af h
 |gy=>exact hP
 |ite c x y ix iy=>
  intro s s' b r h
  induction c with
  |true=>exact ix s s' b r h
  |false=>exact iy s s' b r h
 |seq x y ix iy=>
  exact λs s' b r h=>bE h λs1 h1 h=>by
   refine ah (ix s s1 b r h1) λb1 e1 r1=>?_
   refine ah (iy s1 s' b1 r1 h) λb2 e2 r2=>?_
   exact⟨b2,(oB _ e1).trans e2,r2⟩
 |u o k ik=>
  exact λs s' b r h=>bE h λs1 h1 h=>by
   refine ah (Kz e T r h1) λb1 e1 r1=>?_
   refine ah (ik s1 s' b1 r1 h) λb2 e2 r2=>?_
   exact⟨b2,(oB _ e1).trans e2,r2⟩
 |ul o=>exact λs s' b r h=>Kz e T r h
 |op o k ik=>
  exact λs s' b r h=>bE h λa h1 h=>by
   refine ah (ZO e T r h1) λb1 e1 r1=>?_
   refine ah (ik _ _ _ s' b1 r1 h) λb2 e2 r2=>?_
   exact⟨b2,(e1 _).trans e2,r2⟩
end
noncomputable abbrev eN (o:Oc)(k:Pg):Pg:=.op o λ_ _=>k
noncomputable abbrev iW (o:Oc)(k:Bool->Pg):Pg:=.op o λ_ c=>k c
def ph(q:Qt):Pg:=
 .ite (q.kind==S "char") (.ul .sign)<|
 .ite (q.kind==S "start"&&ar [S "a",S "p",S "table"] q.name) (eN .nU (.ite (q.name==S "table") (eN (.to (S "in table")) .ret) .ret))<|
 .ite (q.kind==S "end") (.op .sZ λs _=>.ite (s==q.name) (eN .i7 .ret) .ret) .ret
def CR(q:Qt):Pg:=.u (.err (S "foster-parented")) (eN (.gU true) (.seq (ph q) (eN (.gU false) .ret)))
def ZP(q:Qt):Pg:=.u (.qV [S "table",S "template",S "html"])<|
 .ite (q.name==S "caption") (.u .mark (eN .nU (eN (.to (S "in caption")) .ret)))<|
 .ite (q.name==S "colgroup") (eN .nU (eN (.to (S "in column group")) .ret))<|
 .ite (q.name==S "col") (eN (.eV (S "colgroup")) (eN (.to (S "in column group")) .gy))<|
 .ite (ar [S "tbody",S "tfoot",S "thead"] q.name) (eN .nU (eN (.to (S "in table body")) .ret))<|
 eN (.eV (S "tbody")) (eN (.to (S "in table body")) .gy)
def ZQ(q:Qt):Pg:=.u (.err (S "unexpected-start-tag")) (iW .td λc=>.ite c .gy .ret)
def ZR(q:Qt):Pg:=
 .ite (ar [S "caption",S "colgroup",S "col",S "tbody",S "tfoot",S "thead",S "td",S "th",S "tr"] q.name) (ZP q)<|
 .ite (q.name==S "table") (ZQ q)<|
 .ite (ar [S "style",S "script",S "template"] q.name) .fail<|
 .ite (q.name==S "input") .fail<|
 .ite (q.name==S "form") .fail (CR q)
def ZS(q:Qt):Pg:=
 .ite (q.name==S "table") (iW .td λc=>.ite (!c) (.ul (.err (S "unexpected-end-tag"))) .ret)<|
 .ite (q.name==S "template") .fail<|
 .ite (ar [S "body",S "caption",S "col",S "colgroup",S "html",S "tbody",S "td",S "tfoot",S "th",S "thead",S "tr"] q.name) (.ul (.err (S "unexpected-end-tag"))) (CR q)
def ZT(q:Qt):Pg:=.op .sZ λs _=>.ite (ar [S "table",S "tbody",S "template",S "tfoot",S "thead",S "tr"] s) (eN .text .gy) (CR q)
def qY(q:Qt):Pg:=
 .ite (q.kind==S "char") (ZT q)<|
 .ite (q.kind==S "start") (ZR q)<|
 .ite (q.kind==S "end") (ZS q)<|
 .ite (q.kind==S "comment") .fail<|
 .ite (q.kind==S "doctype") (.ul (.err (S "unexpected-doctype"))) (ph q)
def ZU(q:Qt):Pg:=
 .ite (q.kind !=S "char") .flush<|.ite q.yM (.ul (.err (S "unexpected-null-character"))) (eN .push .ret)
def ZV(q:Qt):Pg:=
 .ite (q.kind==S "end"&&q.name==S "caption") (iW .tc λ_=>.ret)<|
 .ite (q.kind==S "start"&&ar jG q.name||(q.kind==S "end"&&q.name==S "table")) (iW .tc λc=>.ite c .gy .ret)<|
 .ite (q.kind==S "end"&&(ar [S "body",S "html"] q.name||ar jG q.name)) (.ul (.err (S "unexpected-end-tag"))) (ph q)
def KC(q:Qt)(again:Bool):Pg:=.op .sZ λs _=>.ite (s !=S "colgroup") (.ul (.err (Kv q))) (eN .i7 (.ite again (eN (.to (S "in table")) .gy) (eN (.to (S "in table")) .ret)))
def ZW(q:Qt):Pg:=
 .ite (q.name==S "template") .fail<|
 .ite (q.kind==S "start"&&q.name==S "html") (ph q)<|
 .ite (q.kind==S "start"&&q.name==S "col") (eN .yL .ret)<|
 .ite (!(q.kind==S "start")&&q.name==S "col") (.ul (.err (S "unexpected-end-tag")))<|
 KC q (q.kind==S "start"||q.name !=S "colgroup")
def ZX(q:Qt):Pg:=
 .ite (q.kind==S "start"||q.kind==S "end") (ZW q)<|
 .ite (q.kind==S "comment") .fail<|
 .ite (q.kind==S "doctype") (.ul (.err (S "unexpected-doctype")))<|
 .ite (q.kind==S "eof") (ph q)<|
 .ite (q.kind==S "char"&&q.bl) (.ul .sign) (KC q true)
def ZY(q:Qt):Pg:=
 .ite (q.name==S "tr") (.u (.qV [S "tbody",S "tfoot",S "thead",S "template",S "html"]) (eN .nU (eN (.to (S "in row")) .ret)))<|
 .ite (ar [S "td",S "th"] q.name) (.u (.err (S "unexpected-start-tag")) (.u (.qV [S "tbody",S "tfoot",S "thead",S "template",S "html"]) (eN (.eV (S "tr")) (eN (.to (S "in row")) .gy))))<|
 .ite (ar jG q.name) (iW (.qW [S "tbody",S "tfoot",S "thead"]) λc=>.ite c .gy .ret) (qY q)
def ZZ(q:Qt):Pg:=
 .ite (ar [S "tbody",S "tfoot",S "thead"] q.name) (iW (.qW [q.name]) λ_=>.ret)<|
 .ite (q.name==S "table") (iW (.qW [S "tbody",S "tfoot",S "thead"]) λc=>.ite c .gy .ret)<|
 .ite (ar [S "body",S "caption",S "col",S "colgroup",S "html",S "td",S "th",S "tr"] q.name) (.ul (.err (S "unexpected-end-tag"))) (qY q)
def Z0(q:Qt):Pg:=.ite (q.kind==S "start") (ZY q)<|.ite (q.kind==S "end") (ZZ q) (qY q)
def Z1(q:Qt):Pg:=
 .ite (ar [S "td",S "th"] q.name) (.u (.qV [S "tr",S "template",S "html"]) (eN .nU (eN (.to (S "in cell")) (.ul .mark))))<|
 .ite (ar jG q.name) (iW .pf λc=>.ite c .gy .ret) (qY q)
def Z2(q:Qt):Pg:=
 .ite (q.name==S "tr") (iW .pf λ_=>.ret)<|
 .ite (q.name==S "table") (iW .pf λc=>.ite c .gy .ret)<|
 .ite (ar [S "tbody",S "tfoot",S "thead"] q.name) (iW (.has [q.name]) λc=>.ite c (iW (.scope [S "tr"]) λc=>.ite c (iW .pf λ_=>.gy) .ret) .ret)<|
 .ite (ar [S "body",S "caption",S "col",S "colgroup",S "html",S "td",S "th"] q.name) (.ul (.err (S "unexpected-end-tag"))) (qY q)
def Z3(q:Qt):Pg:=.ite (q.kind==S "start") (Z1 q)<|.ite (q.kind==S "end") (Z2 q) (qY q)
def Z4(q:Qt):Pg:=
 .ite (ar [S "td",S "th"] q.name) (iW (.has [q.name]) λc=>.ite c (.ul (.sY [q.name] (S "in row"))) .ret)<|
 .ite (ar [S "body",S "caption",S "col",S "colgroup",S "html"] q.name) (.ul (.err (S "unexpected-end-tag")))<|
 .ite (ar [S "table",S "tbody",S "tfoot",S "thead",S "tr"] q.name) (iW (.has [q.name]) λc=>.ite c (.u (.sY [S "td",S "th"] (S "in row")) .gy) .ret) (ph q)
def Z5(q:Qt):Pg:=
 .ite (q.kind==S "end") (Z4 q)<|
 .ite (q.kind==S "start"&&ar jG q.name) (iW (.has [S "td",S "th"]) λc=>.ite c (.u (.sY [S "td",S "th"] (S "in row")) .gy) .ret) (ph q)
def KD(q:Qt)(mode:Str):Pg:=
 .ite (mode==S "in caption") (ZV q)<|
 .ite (mode==S "in column group") (ZX q)<|
 .ite (mode==S "in table body") (Z0 q)<|
 .ite (mode==S "in row") (Z3 q)<|
 .ite (mode==S "in cell") (Z5 q)<|
 .ite (mode==S "in table") (qY q)<|
 .ite (mode==S "in table text") (ZU q)<|
 .ite (mode==S "in body") (ph q) .fail
theorem Z6(p:b6)(mode:Str)(b:B)(t:aN):qj p mode b t=(KD (d6 t) mode).run t (λb=>p b t) b:=rfl
noncomputable def Z7 (k:Sk):Bool:=(sX k).isSome
def CS(q:Qt):Nat->Sy->Option Sy
 |0,_=>none
 |n+1,s=>cond (Z7 s.st) ((KD q s.mode).sy q (CS q n) s) none
theorem KG(O:Ok b N)(hN:N<=800000){st:List Int}(h:b.stack=st++[k]):oN b=some ():=by
 refine gD (nC O hN (k:=k) (by rw[h];simp)) λi x _ _ e _ _=>?_
 unfold oN;exact(oB _ (xC h (by have:=O.zs;exact bh (ads this hN)))).trans (oB _ e)
theorem KH(e:d5 E)(T:Tq E t):∀(n:Nat) (s s':Sy) (b:B),Sm E s b->CS (d6 t) n s=some s'->nW E (jb n b t) s'
 |0,_,_,_,_,h=>nomatch h
 |n+1,s,s',b,r,h=>cE h λhc h=>by
  refine aF (Option.isSome_iff_exists.mp hc) λq hq=>?_
  refine ah (r.dI hq) λk _ hh=>aF hh λst hs=>?_
  have e1:jb (n+1) b t=qj (jb n) b.mode b t:=oB _ (KG r.ok (r.hN e) hs);rw[e1,Z6,r.md];exact Pg.ok e T (KH e T n) _ _ _ _ r h
inductive Cs
 |gh (m:Str)(k:Nat)
 |pj
 |jt (fl:Bool)(ha:Option Bool)
 |dI (ps:List Str)(m:Str)(fl:Bool)(ha:Option Bool)(k:Nat)(z:Sk)(ks:List Sk)
def ju(ps:List Str):Bool:=(nE.lookup ps).isSome
def yP:Cs->Option (Str×Nat)
 |.gh m k=>some (m,k)
 |.pj=>none
 |.jt _ _=>some (S "in body",0)
 |.dI ps m _ _ k _ _=>cond (ju ps) (some (m,k+1)) none
noncomputable def CT (a b:Option Bool):Option Bool:=a.bind λx=>b.bind λy=>some (x||y)
def yQ(a:Option Bool):Cs->Option Cs
 |.gh m k=>some (.gh m k)
 |.pj=>none
 |.jt _ ha=>some (.jt true (CT ha a))
 |.dI ps m _ ha k z ks=>some (.dI ps m true (CT ha a) k z ks)
def Z8(e:Itm×Rf)(r:Sk)(x:Str):Cs->Option Cs
 |.dI ps m fl _ k z ks=>cond fl none ((lK.lookup (ps++[x])).bind λm'=>some (.dI (ps++[x]) m' false (some false) k z (ks++[e::r])))
 |_=>none
noncomputable def Z9:Cs->Option Cs
 |.pj=>some (.jt false (some false))
 |_=>none
noncomputable def yR:Sk->Bool
 |[]=>true
 |_::_=>false
def clN(e:Itm×Rf)(r:Sk)(c:Option Cs)(x:Str):Option Cs:=
 cond (Th x) (c.bind (yQ (some (x==S "a"))))<|cond (x==S "html") (cond (yR r) (some .pj) none)<|cond (x==S "body") (c.bind Z9)<|
 cond (x==S "table") (c.bind λc=>(yP c).bind λp=>some (.dI [] (S "in table") false (some false) p.2 r [e::r])) (c.bind (Z8 e r x))
def clI(e:Itm×Rf)(r:Sk)(c:Option Cs):Itm->Option Cs
 |.pre m=>cond (yR r) (some (.gh m 0)) none
 |.any=>c.bind (yQ none)
 |.inl _ ha=>c.bind (yQ (some ha))
 |.nm x=>clN e r c x
def qZ:Sk->Option Cs
 |[]=>none
 |e::r=>clI e r (qZ r) e.1
def vH(inl:List Str)(fl:Bool)(ha:Option Bool):Prop:=ap inl/\(fl=false->inl=[])/\∀v,ha=some v->inl.isEmpty=!fl/\ar inl (S "a")=v
structure aaa(E:Eb)(f:Int->Str)(l:Sk)(ps:List Str)(m:Str)(k:Nat)(z:Sk)(ks:List Sk)(inl:List Str)(mo:Str):Prop where
 iX:eP ps m
 gh:dM ((E.ids z).map f) mo
 mr:dw ((E.ids z).map f)=E.ms++List.replicate k (-1)
 ns:(E.ids l).map f=(E.ids z).map f++S "table"::(ps++inl)
 zx:∃x,l=x++z
 ks:∀(j:Nat) sk,ks[j]?=some sk->(∃x,l=x++sk)/\(E.ids sk).length=(E.ids z).length+1+j
def pn(E:Eb)(f:Int->Str)(l:Sk):Cs->Prop
 |.gh m k=>dM ((E.ids l).map f) m/\dw ((E.ids l).map f)=E.ms++List.replicate k (-1)
 |.pj=>(E.ids l).map f=[S "html"]/\E.ms=[]
 |.jt fl ha=>E.ms=[]/\∃inl,(E.ids l).map f=S "html"::S "body"::inl/\vH inl fl ha
 |.dI ps m fl ha k z ks=>ks.length=ps.length+1/\∃inl mo,vH inl fl ha/\aaa E f l ps m k z ks inl mo
theorem KI{α β:Type}[BEq α][LawfulBEq α]{l:List (α×β)}{x:α}{v:β}(h:l.lookup x=some v):(x,v)∈l:=by
 induction l with
 |nil=>exact af h
 |cons a r ih=>
  rw[afx]at h;cases q:x==a.1 with
  |true=>rw[q]at h;apply sE h;rw[afr.mp q];exact .head _
  |false=>rw[q]at h;exact .tail _ (ih h)
theorem aab:lK.all (λp=>dw p.1==cond (ju p.1) [-1] [])=true:=rfl
theorem aac:lK.all (λp=>cond (ju p.1) ((nE.lookup p.1)==some p.2) true)=true:=rfl
theorem aad(h:eP ps m):dw ps=cond (ju ps) [-1] []:=afr.mp (eM aab h)
theorem aae{m:Str}(h:eP ps m)(g:ju ps=true):Holds ps m:=by
 have:=eM aac h;dsimp only at this;rw[g]at this;exact KI (afr.mp this)
theorem yS(h:eP ps m)(ha:ap inl):dw (pre++S "table"::(ps++inl))=dw pre++cond (ju ps) [-1] []:=by
 rw[show pre++S "table"::(ps++inl)=pre++([S "table"]++(ps++inl))from rfl,sV,sV,sV,yI ha,aad h,afD];exact afp (dw pre++·) (by rw[show dw [S "table"]=[] by kernel_rfl];rfl)
section
variable{E:Eb}{f:Int->Str}
theorem KJ(h:pn E f l c)(g:yP c=some (m,k)):dM ((E.ids l).map f) m/\dw ((E.ids l).map f)=E.ms++List.replicate k (-1):=by
 induction c with
 |gh=>cases g;exact h
 |pj=>exact af g
 |jt fl ha=>
  cases g;obtain⟨h1,inl,h2,h3⟩:=h;rw[h2,h1];exact⟨.base h3.1,(sV (a:=[S "html",S "body"])).trans (by rw[yI h3.1,show dw [S "html",S "body"]=[] by kernel_rfl];rfl)⟩
 |dI ps m' fl ha k' z ks=>
  exact cE g λhh g=>by
    cases g;refine cps λG k=>?_
    obtain⟨_,inl,mo,h1,h2⟩:=h;refine k ?_;rw[h2.ns];refine⟨.tab h2.gh (aae h2.iX hh) h1.1,?_⟩;rw[yS h2.iX h1.1,hh,h2.mr,afs,List.replicate_succ'];rfl
theorem vH.add(h:vH inl fl ha)(h2:ap l2)(h3:∀v,a=some v->l2.isEmpty=false/\ar l2 (S "a")=v):vH (inl++l2) true (CT ha a):=by
 refine⟨u1.mpr ⟨h.1,h2⟩,λz=>(nomatch z),λv hv=>?_⟩
 refine bE hv λx e1 hv=>bE hv λy e2 hv=>?_
 apply sE hv;obtain⟨f1,f2⟩:=h.2.2 x e1;obtain⟨g1,g2⟩:=h3 y e2;refine⟨?_,?_⟩
 ·show(inl++l2).isEmpty=false;rw[List.isEmpty_eq_false_iff]at g1 ⊢;exact λz=>g1 (List.append_eq_nil_iff.mp z).2
 ·unfold ar at f2 g2 ⊢;rw[List.any_append,f2,g2]
theorem CU(h:pn E f r c)(g:yQ a c=some c')(h2:ap ((E.bM e.2).map f))(h3:∀v,a=some v->((E.bM e.2).map f).isEmpty=false/\ar ((E.bM e.2).map f) (S "a")=v):pn E f (e::r) c':=by
 have es:(E.ids (e::r)).map f=(E.ids r).map f++(E.bM e.2).map f:=afz
 induction c with
 |pj=>exact af g
 |gh m k=>
  apply sE g;show dM ((E.ids (e::r)).map f) m/\dw ((E.ids (e::r)).map f)=_;rw[es,sV,yI h2,afD];refine⟨?_,h.2⟩;have h1:=h.1;generalize(E.ids r).map f=ns at h1;cases h1 with
  |base ha=>exact dM.base (u1.mpr ⟨ha,h2⟩)
  |tab h hp ha=>rw[afs,agE,afs];exact .tab h hp (u1.mpr ⟨ha,h2⟩)
 |jt fl ha=>
  apply sE g;obtain⟨h1,inl,h4,h5⟩:=h;exact⟨h1,inl++(E.bM e.2).map f,by rw[es,h4];rfl,h5.add h2 h3⟩
 |dI ps m fl ha k z ks=>
  apply sE g;refine cps λG k=>?_
  obtain⟨h0,inl,mo,h4,h5⟩:=h;obtain⟨x,hx⟩:=h5.zx;refine k ?_;refine⟨h0,inl++(E.bM e.2).map f,mo,h4.add h2 h3,⟨h5.iX,h5.gh,h5.mr,?_,⟨e::x,by rw[hx];rfl⟩,λj sk hj=>?_⟩⟩
  ·rw[es,h5.ns,afs,agE,afs]
  ·obtain⟨⟨y,hy⟩,hl⟩:=h5.ks j sk hj;exact⟨⟨e::y,by rw[hy];rfl⟩,hl⟩
theorem CV(h:yR r=true):r=[]:=by induction r;rfl;cases h
theorem aaf:∀(l:Sk) (c:Cs),qZ l=some c->(∀e∈l,qT E.ms e.1 ((E.bM e.2).map f))->pn E f l c:=λkK=>by
 induction kK with
 |nil=>exact λ_ h _=>nomatch h
 |cons aA r ih=>
  obtain⟨it,q⟩:=aA
  rintro c h hi
  have ih:=λc h=>ih c h λe he=>hi e (.tail _ he)
  have i0:=hi (it,q) (.head _);have es:(E.ids ((it,q)::r)).map f=(E.ids r).map f++(E.bM q).map f:=afz
  induction it with
  |pre m=>
   refine cE h λhn h=>?_
   apply sE h;rw[CV hn]at es ⊢;show dM ((E.ids [(.pre m,q)]).map f) m/\dw ((E.ids [(.pre m,q)]).map f)=_;exact es▸⟨i0.1,i0.2.trans (afD _).symm⟩
  |any=>exact bE h λc1 h1 h=>CU (ih c1 h1) h i0 λv z=>nomatch z
  |inl la ha=>
   exact bE h λc1 h1 h=>CU (ih c1 h1) h i0.1 λv z=>by
     apply sE z;exact⟨List.isEmpty_eq_false_iff.mpr λz=>(by have:=i0.2.1;rw[z]at this;exact nomatch this),i0.2.2⟩
  |nm x=>
   obtain⟨i1,i2⟩:=i0
   replace i1:(E.bM q).map f=[x]:=i1
   replace es:=i1▸es
   refine dE h (λhx h=>bE h λc1 h1 h=>?_) λ_ h=>dE h (λhx h=>cE h λhn h=>?_) λ_ h=>dE h (λhx h=>bE h λc1 h1 h=>?_) λ_ h=>dE h (λhx h=>bE h λc1 h1 h=>bE h λp h2 h=>?_) λ_ h=>bE h λc1 h1 h=>?_
   ·refine CU (ih c1 h1) h (λy hy=>?_) λv z=>?_
    ·rw[i1,afJ]at hy;exact hy▸(Bool.or_eq_true_iff.mp hx).imp afr.mp afr.mp
    ·apply sE z;exact i1▸⟨rfl,Bool.or_false _⟩
   ·apply sE h;have hx:=afr.mp hx;rw[CV hn,hx]at es ⊢;exact⟨es,i2 hx⟩
   ·induction c1 with
    |pj=>
     apply sE h;obtain⟨j1,j2⟩:=ih _ h1;exact⟨j2,[],by rw[es,j1,afr.mp hx];rfl,kR,λ_=>rfl,λv z=>by apply sE z;exact⟨rfl,rfl⟩⟩
    |_=>exact af h
   ·apply sE h;obtain⟨m,k⟩:=p;obtain⟨j1,j2⟩:=KJ (ih _ h1) h2;refine⟨rfl,[],m,⟨kR,λ_=>rfl,λv z=>by apply sE z;exact⟨rfl,rfl⟩⟩,⟨.plain (.head _),j1,j2,by rw[es,afr.mp hx];rfl,⟨[_],rfl⟩,λj sk hj=>?_⟩⟩
    induction j with
    |zero=>
     apply sE hj;have:=afp List.length es;rw[afj,afl,afj]at this;exact⟨⟨[],rfl⟩,this⟩
    |succ j=>exact af hj
   ·induction c1 with
    |dI ps m fl ha k z ks=>
     replace h:cond fl none ((lK.lookup (ps++[x])).bind λm'=>some (.dI (ps++[x]) m' false (some false) k z (ks++[(.nm x,q)::r])))=some c:=h
     induction fl with
     |true=>exact af h
     |false=>
      refine bE h λm' h2 h=>?_
      apply sE h;refine cps λG k=>?_
      obtain⟨h0,inl,mo,h4,h5⟩:=ih _ h1;have e0:=h4.2.1 rfl;refine k ?_;subst e0;obtain⟨y,hy⟩:=h5.zx;have d7:=h5.ns;rw[afD]at d7;refine⟨by rw[afl,afl,h0];rfl,[],mo,⟨kR,λ_=>rfl,λv z=>by apply sE z;exact⟨rfl,rfl⟩⟩,⟨KI h2,h5.gh,h5.mr,by rw[es,d7,afs,afD];rfl,⟨(.nm x,q)::y,by rw[hy];rfl⟩,λj sk hj=>?_⟩⟩
      by_cases CW:j<ks.length
      ·rw[afU CW]at hj;obtain⟨⟨y,hy⟩,hl⟩:=h5.ks j sk hj;exact⟨⟨(.nm x,q)::y,by rw[hy];rfl⟩,hl⟩
      ·rw[af2 (af0 CW)]at hj;have:j-ks.length=0:=by
        cases z:j-ks.length with
        |zero=>rfl
        |succ=>rw[z]at hj;exact af hj
       replace hj:=this▸hj
       apply sE hj;have e1:=afp List.length es;have e2:=afp List.length d7;rw[afj,afl,afj]at e1;rw[afj,afl,afj,afP]at e2;refine⟨⟨[],rfl⟩,?_⟩;rw[e1,e2,show j=ks.length from by exact Nat.le_antisymm (Nat.le_of_sub_eq_zero this) (af0 CW),h0]
       show _+1=_;exact(Nat.add_right_comm _ _ _)
    |_=>exact af h
end
structure Vw where
 ps:List Str
 m:Str
 fl:Bool
 ha:Bool
 z:Sk
 ks:List Sk
def Vw.hd(v:Vw):Bool:=fk v.ps
noncomputable def pq (c:Bool)(f:Sy->Option Sy)(s:Sy):Option Sy:=cond c (f s) (some s)
def vI(x:Str)(own:Bool)(s:Sy):Option Sy:=cond (room s&&(!s.pt&&!(x==S "html"))) ((sX s.st).bind λq=>some (s.el q false x own)) none
def KN:Sk->Option Rf
 |(.pre _,q)::r=>cond (yR r) (some q) none
 |_=>none
def KO(z:Sk)(x:Str)(s:Sy):Option Sy:=cond (room s&&(!s.pt&&(!(x==S "html")&&!(x==S "table")))) ((KN z).bind λq=>some (s.el q true x true)) none
def vJ(v:Vw)(t:Sk)(s:Sy):Option Sy:=(pq (v.hd&&v.ha) (nT (S "open-elements") v.m) s).bind λs=>some {s with st:=t}
def CX:List Str->Sy->Option Sy
 |[],s=>some s
 |x::r,s=>(pq (x==S "tr") (nT (S "unexpected-start-tag") (S "in table body")) s).bind λs=>(vI x false s).bind λs=>CX r s
def KP(v:Vw)(x:Str)(s:Sy):Option Sy:=
 (v.ks[lF (fU v.ps) (kL x) (kL x).length 0]?).bind λt=>(vJ v t s).bind λs=>(CX ((kL x).drop (lF (fU v.ps) (kL x) (kL x).length 0)) s).bind λs=>
 (vI x true s).bind λs=>cond (x==S "col") (nV s) (some s)
def nv:Str:=S "non-void-html-element-start-tag-with-trailing-solidus"
def CY(q:Qt)(out:Bool)(fo:Option Sk)(m:Str)(s:Sy):Option Sy:=
 (pq out (nT (S "foster-parented") m) s).bind λs=>
 cond (q.kind==S "end") ((mF s.st).bind λy=>pq (y==q.name) nV s)
  (cond (q.kind==S "start") (cond (ar [S "a",S "p",S "table"] q.name) (cv fo (λz=>KO z q.name s) (vI q.name true s)) (pq (q.name==S "col") (nT nv m) s)) none)
def CZ(q:Qt)(v:Vw)(s:Sy):Option Sy:=
 cond (ar [S "a",S "p"] q.name||((q.kind==S "start")&&((q.name==S "table")&&v.hd))) (CY q (!v.hd) (cond (!v.hd&&!v.fl) (some v.z) none) v.m s)<|
 cond (q.kind==S "start"&&q.name==S "table") ((nT (S "unexpected-start-tag") v.m s).bind λs=>(vJ v v.z s).bind λs=>vI q.name true s)<|
 cond (q.kind==S "start") (KP v q.name s)<|
 cond (q.name==S "table") (vJ v v.z s)<|
 cond (ar v.ps q.name) ((v.ks[v.ps.idxOf q.name]?).bind λt=>vJ v t s) (nT (S "unexpected-end-tag") v.m s)
def vK(q:Qt)(ps:List Str):Bool:=ps==[S "colgroup"]&&(q.name !=S "col"&&!(q.kind==S "end"&&q.name==S "colgroup"))
def aag(q:Qt)(s:Sy):Cs->Option Sy
 |.jt _ _=>CY q false none (S "in body") s
 |.dI ps m fl ha k z ks=>ha.bind λha=>cond (vK q ps) (cond fl none ((ks[0]?).bind λt=>CZ q ⟨[],S "in table",false,false,z,[t]⟩ {s with st:=t})) (CZ q ⟨ps,m,fl,ha,z,ks⟩ s)
 |_=>none
def KQ(q:Qt)(s:Sy):Option Sy:=(qZ s.st).bind (aag q s)
noncomputable def yT (s:Sy):Option Sy:=cond (room s) ((sX s.st).bind λp=>some {s with tr:=.put p::s.tr,pt:=true}) none
noncomputable def C0 (s:Sy):Option Sy:=cond s.bN none (some {s with bN:=true})
def aah(q:Qt)(s:Sy):Cs->Option Sy
 |.jt _ _=>yT s
 |.dI ps m fl ha k z ks=>ha.bind λha=>cond (fk ps||(ps==[S "colgroup"]&&q.bl)) (yT s) (cond fl ((nT (S "foster-parented") m s).bind yT) (cond (ps==[S "colgroup"]) ((ks[0]?).bind λt=>C0 {s with st:=t}) (C0 s)))
 |_=>none
def KR(q:Qt)(s:Sy):Option Sy:=(qZ s.st).bind (aah q s)
noncomputable def C4 (a b:Sy):Bool:=decide (a.st=b.st)&&(decide (a.tr=b.tr)&&(decide (a.bJ=b.bJ)&&(a.bN==b.bN)))
def C5(s:Sy)(c:Cs):Bool:=cond s.bN
 (match c with
  |.dI ps m fl _ k _ _=>s.nQ&&((s.mode==S "in table text")&&(!fl&&(!ju ps&&(!(ps==[S "colgroup"])&&(m==s.vx&&Nat.beq k s.marks)))))
  |_=>false)
 (cv (yP c) (λp=>p.1==s.mode&&Nat.beq p.2 s.marks) (match c with
  |.dI ps m fl _ k _ _=>m==s.mode&&(Nat.beq k s.marks&&!(ps==[S "colgroup"]&&fl))
  |_=>false))
def C6(s:Sy):Bool:=!s.fo&&(Nat.ble (s.tr.length+s.bJ.length) 6)&&cv (qZ s.st) (C5 s) false
def KS(q:Qt)(s:Sy):Option Sy:=cond (q.kind==S "start"&&(q.name==S "col"&&!s.dD)) (vC nv s) (some s)
def C7(q:Qt)(n:Nat)(s:Sy):Option Sy:=(CS q n s).bind (KS q)
def KU(q:Qt)(s:Sy):Option Sy:=cond (q.kind==S "char") (KR q s) (KQ q s)
def pz(q:Qt)(n:Nat)(s:Sy):Bool:=cv (C7 q n s) (λa=>cv (KU q s) (λb=>C4 a b&&C6 a) false) false
noncomputable def pA:Option (Bool×Bool)->Sk
 |none=>[]
 |some p=>[(.inl p.1 p.2,.old 2)]
noncomputable def tg (i:Nat):List Str->Sk
 |[]=>[]
 |x::r=>tg (i+1) r++[(.nm x,.old i)]
def C8(st:Sk)(m:Str)(k:Nat):Sy:=⟨st,[],0,[],m,k,false,false,false,false,false,S ""⟩
def KW(il:Option (Bool×Bool)):Sy:=C8 (pA il++[(.nm (S "body"),.old 1),(.nm (S "html"),.old 0)]) (S "in body") 0
def yU(mo:Str)(p:List Str×Str)(il:Option (Bool×Bool)):Sy:=C8 (pA il++(tg 3 p.1++[(.nm (S "table"),.old 1),(.pre mo,.old 0)])) p.2 (cond (ju p.1) 1 0)
noncomputable def q0:List (Option (Bool×Bool)):=[none,some (true,true),some (false,true),some (false,false)]
def yV:List Str:=[S "in body",S "in caption",S "in cell"]
def allB(f:Sy->Bool):Bool:=q0.all (λil=>f (KW il))&&yV.all λmo=>(nE++plainT).all (λp=>q0.all λil=>f (yU mo p il))&&xF.all λp=>f (yU mo p none)
def qS(x:Str):Qt:=⟨S "start",x,fj x,x==S "\x00"⟩
def qE(x:Str):Qt:=⟨S "end",x,fj x,x==S "\x00"⟩
def fX:List Str:=[S "tr",S "td",S "tbody",S "a",S "table",S "th",S "col",S "caption",S "colgroup",S "thead",S "tfoot",S "p"]
set_option tactic.hygienic true
theorem aai:fX.all (λx=>allB (pz (qS x) 8))=true:=by kernel_rfl
theorem aaj:fX.all (λx=>allB (pz (qE x) 8))=true:=by kernel_rfl
theorem aak(x:Str):[true,false].all (λbl=>allB (pz ⟨S "char",x,bl,false⟩ 8))=true:=by kernel_rfl
def yW(f:Sy->Bool):Bool:=yV.all λmo=>plainT.all λp=>f (yU mo p none)
theorem aal:fX.all (λx=>yW (pz (qS x) 7))=true:=by kernel_rfl
theorem aam:fX.all (λx=>yW (pz (qE x) 7))=true:=by kernel_rfl
set_option tactic.hygienic false
def eA(E:Eb)(rk:Nat)(old:Option (List Str))(o:Option LS)(s':Sy):Prop:=∃b' pk,o=some (aB b' pk rk old)/\Sm E s' b'
structure jU(E:Eb)(s:Sy)(b:B)(v:Vw)(inl:List Str):Prop where
 iX:eP v.ps v.m
 ns:names b=(E.ids v.z).map (aE b)++S "table"::(v.ps++inl)
 tj:ap inl
 em:inl.isEmpty=!v.fl
 ha:ar inl (S "a")=v.ha
 mI:∀x∈(E.ids v.z).map (aE b),PyData.strOk x=true
 zx:∃x,s.st=x++v.z
 ks:∀(j:Nat) sk,v.ks[j]?=some sk->(∃x,s.st=x++sk)/\(E.ids sk).length=(E.ids v.z).length+1+j
section
variable{E:Eb}{s s':Sy}{b:B}{t:aN}{pk rk:Nat}{old:Option (List Str)}(e:d5 E)
theorem eA.bind(h:eA E rk old o s1)(g:∀b1 tm,Sm E s1 b1->eA E rk old (f (aB b1 tm rk old)) s'):eA E rk old (o.bind f) s':=by
 refine cG h λb1 tm e1 r1=>?_
 exact e1▸g b1 tm r1
theorem aan(h:gu b=some (k,b')):fT (aB b pk rk old)=some (aB b' pk rk old):=by
 refine bE h λp h1 h2=>?_
 cases h2;exact oB (λr=>some {aB b pk rk old with path:=r.2}) h1
include e
theorem KY(r:Sm E s b)(h:nV s=some s'):eA E rk old (fT (aB b pk rk old)) s':=by
 refine cG (vE e r h) λk b' e1 r'=>?_
 exact⟨b',pk,aan e1,r'⟩
theorem q5(r:Sm E s b)(h:nT w m s=some s'):cW (aB b pk rk old) w m=some (aB {b with aH:=b.aH++[(w,m)]} pk rk old)/\Sm E s' {b with aH:=b.aH++[(w,m)]}:=
 cE h λhc h=>by apply sE h;exact⟨CA r.ok (r.hN e) pk rk old w m,r.err hc w m⟩
theorem yX(r:Sm E s b)(h:vI x own s=some s'):eA E rk old (fH (aB b pk rk old) x (cond own E.as [])) s':=cE h λhc h=>bE h λq hq h=>by
 apply sE h;simp only[Bool.and_eq_true,Bool.not_eq_true']at hc;refine dG hc λh1 h2 h3=>?_
 have hx:x≠S "html":=aft.mp h3;have ha:(cond own E.as []).length<=1000:=by induction own;exact afw _;exact e.as
 refine ah (r.dI hq) λk f1 hh=>aF hh λst f2=>?_
 refine aO (jT r.ok f2) λf3 P=>?_
 have hg:=Zm r.ok (r.hN e) (by rw[f2];simp) pk rk old (name:=x) ha
 have eu:hS b=k.toNat:=by rw[f3];rfl
 have en:gf b=dF b k:=by delta gf dF;rw[eu]
 have h5:=yF r.ok f2;unfold Kc at hg;rw[eu,en]at P hg
 replace h5:=eu▸h5
 exact⟨_,pk,hg,r.ir (fo:=false) f1 (pd h1) h2 hx P h5 λ_=>⟨rfl,st,by rw[<-eu,<-f3];exact f2⟩⟩
omit e in
theorem jU.cV (V:jU E s b v inl)(r:Sm E s b)(e:d5 E):Mine.cV (aB b pk rk old)=true:=
 qR r.ok (r.hN e) pk rk old (by have h:=V.ns;unfold Mine.names at h;exact h▸u2 V.mI V.iX V.tj)
omit e in
theorem jU.eB (V:jU E s b v inl):cy (bc (aB b pk rk old))=(E.ids v.z).length/\cH (bc (aB b pk rk old))=v.ps/\dt (bc (aB b pk rk old))=v.m:=by
 rw[nF,show b.stack.map (aE b)=_ from V.ns,Bo V.iX V.tj,afj];exact⟨rfl,Bp V.iX V.tj,xH V.iX V.tj⟩
theorem yY(r:Sm E s b)(V:jU E s b v inl)(hk:∃x,s.st=x++k)(hn:(E.ids k).length=n)(h:vJ v k s=some s'):eA E rk old (fm (aB b pk rk old) n) s':=by
 refine aF hk λx hx=>?_
 have eb:b.stack=E.ids k++E.ids x:=by rw[r.st,hx,E.nR]
 have L:=Zu r.ok (r.hN e) pk rk old V.ns V.mI V.iX V.tj (keep:=n) (by rw[eb,afl,hn];exact agq ..)
 have et:b.stack.take n=E.ids k:=by rw[eb,<-hn,List.take_left]
 replace L:=et▸L
 refine bE h λs1 h1 h=>?_
 apply sE h;have hl:(fk v.ps=true/\S "a"∈inl)↔(v.hd&&v.ha)=true:=by rw[afi,<-V.ha,ka];rfl
 cases hb:(v.hd&&v.ha)with
 |true=>
  rw[hb]at hl h1;rw[if_pos (hl.mpr rfl)]at L;refine aO (q5 (pk:=pk) (rk:=rk) (old:=old) e r h1) λ_ r1=>?_
  have hs:s1.st=x++k:=by
   refine cE h1 λ_ h1=>?_
   apply sE h1;exact hx
  exact⟨_,_,L,(r1.fW hs).2⟩
 |false=>
  rw[hb]at hl h1;apply sE h1;rw[if_neg (λz=>nomatch hl.mp z),afD]at L
  exact⟨_,_,L,(r.fW hx).2⟩
theorem KZ:∀(l:List Str) (s s':Sy) (b:B) (pk:Nat),Sm E s b->CX l s=some s'->eA E rk old (sr l (aB b pk rk old)) s'
 |[],_,_,b,pk,r,h=>by cases h;exact⟨b,pk,rfl,r⟩
 |x::l,s,s',b,pk,r,h=>bE h λs1 h1 h=>bE h λs2 h2 h=>by
  refine eA.bind (s1:=s1) ?_ λb1 tm r1=>(yX (own:=false) e r1 h2).bind λb2 C9 r2=>KZ l s2 s' b2 C9 r2 h
  cases hb:(x==S "tr")with
  |true=>
   rw[hb]at h1;refine aO (q5 (pk:=pk) (rk:=rk) (old:=old) e r h1) λe1 r1=>?_
   exact⟨_,pk,(iT _ _ rfl).trans e1,r1⟩
  |false=>
   rw[hb]at h1;apply sE h1;exact⟨b,pk,rfl,r⟩
theorem aao(r:Sm E s b)(V:jU E s b v inl)(h:KP v x s=some s'):eA E rk old (lH (aB b pk rk old) x E.as (E.ids v.z).length v.ps) s':=bE h λk hk h=>bE h λs1 h1 h=>bE h λs2 h2 h=>bE h λs3 h3 h=>by
 refine aO (V.ks _ _ hk) λk1 k2=>?_
 have c:ay v.ps.length=true/\v.ps.all PyData.strOk=true/\0<=((E.ids v.z).length:Int):=⟨cU (by
  have h1:=afp List.length V.ns;have h2:=r.z e;unfold Mine.names at h1;rw[afj,afl,afP,afl]at h1
  lia),eM G1 V.iX,afI _⟩
 unfold lH;rw[if_pos c];refine eA.bind (yY e r V k1 k2 h1) λb1 tm r1=>(KZ e _ _ _ b1 tm r1 h2).bind λb2 C9 r2=>(yX (own:=true) e r2 h3).bind λb3 pk3 r3=>?_
 cases hb:(x==S "col")with
 |true=>rw[hb]at h;exact KY e r3 h
 |false=>rw[hb]at h;apply sE h;exact⟨b3,pk3,rfl,r3⟩
end
structure pB(E:Eb)(t:aN):Prop extends Tq E t where
 fl:(t.kind==S "start")=true->qk t=some (t.name==S "col")
section
variable{E:Eb}{s s':Sy}{b:B}{t:aN}{pk rk:Nat}{old:Option (List Str)}(e:d5 E)
theorem aap(h:KN z=some q):∃m,z=[(.pre m,q)]:=by
 induction z with
 |nil=>exact af h
 |cons a z=>
  obtain⟨it,q'⟩:=a
  induction it with
  |pre m=>exact cE h λhn h=>by apply sE h;exact⟨m,by rw[CV hn]⟩
  |_=>exact af h
theorem K0{st r:List Int}(h:(st++u::r).length<=900000):b9 (st++u::r) ((st.length:Int)+1-1)=some u:=by
 rw[afl,afP]at h;rw[Int.add_sub_cancel];unfold b9;rw[if_pos ⟨afI _,by lia⟩,afv,af2 (afm _),Nat.sub_self];rfl
theorem iA(h:c=true)(k:eA E rk old x s'):eA E rk old (if c=true then x else y) s':=by rw[iT _ _ h];exact k
theorem gz(h:c=false)(k:eA E rk old y s'):eA E rk old (if c=true then x else y) s':=by rw[iF _ _ h];exact k
include e
theorem aaq(r:Sm E s b){z:Sk}(hs:b.stack=E.ids z++k::r')(ht:aE b k=S "table")(hz:∃x,s.st=x++z)(h:KO z x s=some s'):
  eA E rk old ((b9 (aB b pk rk old).path (((E.ids z).length:Int)-1)).bind λh=>(cP (aB b pk rk old) h).bind λy=>if 0<y.kids.length then j7 (aB b pk rk old) h (y.kids.length-1) x E.as else none) s':=cE h λhc h=>bE h λq hq h=>by
 apply sE h;simp only[Bool.and_eq_true,Bool.not_eq_true']at hc;refine fb hc λh1 h2 h3 h4=>?_
 refine aF (aap hq) λm bb=>?_;subst bb
 refine aF hz λy hy=>?_
 have i:=r.it (.pre m,q) (hy▸afu.mpr (.inr (.head _)));obtain⟨st,u,hu⟩:∃st u,E.bM q=st++[u]:=by
  rcases af1 (E.bM q)with h|⟨st,k,h⟩
  ·rw[h]at i;exact absurd rfl i.1.ne
  ·exact⟨st,k,by rw[h,agb]⟩
 have ez:E.ids [(.pre m,q)]=st++[u]:=hu;have es:b.stack=st++u::k::r':=by rw[hs,ez,afs];rfl
 have g1:b9 (aB b pk rk old).path (((E.ids [(.pre m,q)]).length:Int)-1)=some u:=by
  show b9 b.stack _=_;rw[ez,afl,es];exact K0 (by exact es▸r.z e)
 refine aO (Zs r.ok (r.hN e) es ht pk rk old (name:=x) (attrs:=E.as) e.as) λg2 g3=>?_
 refine dG (nP r.ok es ht) λf1 f2 f3=>?_
 exact⟨_,pk,(oB _ g1).trans ((oB _ g2).trans ((if_pos f3).trans g3)),r.ir (fo:=true) (by unfold jq;rw[hu,agM];rfl) (pd h1) h2 (aft.mp h3) f2 (CE r.ok es ht) λz=>absurd z (aft.mp h4)⟩
theorem K1(T:pB E t)(r:Sm E s b)(ck:cV (aB b pk rk old)=true)(ho:(decide (0<=place)&&!fk parts)=out)(hp:ay parts.length=true)(hm:dt (bc (aB b pk rk old))=m)
  (hf:(out&&(((bc (aB b pk rk old)).length:Int)==place+1+(parts.length:Int)))=fo.isSome)(hz:∀z,fo=some z->place=(E.ids z).length/\(∃x,s.st=x++z)/\∃k r',b.stack=E.ids z++k::r'/\aE b k=S "table")(h:CY (d6 t) out fo m s=some s'):
  eA E rk old (kM (aB b pk rk old) t place parts) s':=bE h λs1 h1 h=>by
 unfold kM;rw[if_pos ⟨ck,hp⟩];dsimp only;rw[ho,hm,hf];have key:∀b1,Sm E s1 b1->s1.st=s.st->b1.stack=b.stack->b1.aa=b.aa->(if out=true then cW (aB b pk rk old) (S "foster-parented") m else some (aB b pk rk old))=some (aB b1 pk rk old)->eA E rk old ((if out=true then cW (aB b pk rk old) (S "foster-parented") m else some (aB b pk rk old)).bind λs1=>
  if t.kind==S "end" then(match(bc (aB b pk rk old)).getLast? with|some x=>if x==t.name then fT s1 else some s1|none=>none)
  else if ar [S "a",S "p",S "table"] t.name then(jJ t).bind λas=>
   (if fo.isSome=true then(b9 s1.path (place-1)).bind λh=>(cP s1 h).bind λy=>if 0<y.kids.length then j7 s1 h (y.kids.length-1) t.name as else none
    else fH s1 t.name as)
  else(qk t).bind λf=>if f=true then cW s1 (S "non-void-html-element-start-tag-with-trailing-solidus") m else some s1) s':=λb1 r1 es eb en e1=>by
  rw[e1];refine dE h (λhk h=>?_) λhk h=>cE h λhs h=>?_
  ·refine bE h λy hy h=>?_
   refine lV (r1.top hy) λk _ _ _ _ f2 _ f4=>?_
   have f5:(bc (aB b pk rk old)).getLast?=some y:=by rw[nF,<-eb,f4,afz,List.map_singleton,agM,u0 en.symm,f2]
   refine iA hk ?_;rw[f5];dsimp only;cases hb:(y==t.name)with
   |true=>
    replace h:pq (y==t.name) nV s1=some s':=h
    rw[hb]at h;exact KY e r1 h
   |false=>
    replace h:pq (y==t.name) nV s1=some s':=h
    rw[hb]at h;apply sE h;exact⟨b1,pk,rfl,r1⟩
  ·refine gz hk (dE h (λhn h=>iA hn ?_) λhn h=>gz hn ?_)
   ·rw[T.as hs]
    induction fo with
    |none=>exact yX (own:=true) e r1 h
    |some z=>
     refine dG (hz z rfl) λp1 p2 hh=>cG hh λk r' p3 p4=>?_
     exact p1▸aaq e r1 (by rw[eb,p3]) (by rw[u0 en,p4]) (by exact es▸p2) h
   ·rw[T.fl hs];show eA E rk old (if t.name==S "col" then cW (aB b1 pk rk old) nv m else some (aB b1 pk rk old)) s'
    replace h:pq (t.name==S "col") (nT nv m) s1=some s':=h
    cases hb:(t.name==S "col")with
    |true=>rw[hb]at h;refine aO (q5 (pk:=pk) (rk:=rk) (old:=old) e r1 h) λe2 r2=>?_;exact⟨_,pk,(iT _ _ rfl).trans e2,r2⟩
    |false=>rw[hb]at h;apply sE h;exact⟨b1,pk,iF _ _ rfl,r1⟩
 cases hb:out with
 |true=>
  rw[hb]at h1 key;refine aO (q5 (pk:=pk) (rk:=rk) (old:=old) e r h1) λe1 r1=>?_
  exact key _ r1 (cE h1 λ_ h1=>by apply sE h1;rfl) rfl rfl ((iT _ _ rfl).trans e1)
 |false=>
  rw[hb]at h1 key;obtain rfl:=ack h1;exact key b r rfl rfl rfl (iF _ _ rfl)
def Dc(s1:LS)(t:aN)(place:Int)(parts:List Str)(mode:Str):Option LS:=
 if(place==-1||(ar [S "a",S "p"] t.name||((t.kind==S "start")&&((t.name==S "table")&&fk parts)))) then kM s1 t place parts
 else if t.kind==S "start"&&t.name==S "table" then(cW s1 (S "unexpected-start-tag") mode).bind λs2=>(fm s2 place.toNat).bind λs3=>(jJ t).bind λas=>fH s3 t.name as
 else if t.kind==S "start" then(jJ t).bind λas=>lH s1 t.name as place parts
 else if t.name==S "table" then fm s1 place.toNat
 else if ar parts t.name then fm s1 (place+1+(parts.idxOf t.name:Nat)).toNat
 else cW s1 (S "unexpected-end-tag") mode
omit e in
theorem aar (s:LS)(t:aN):me s t=if cV s then(if vK (d6 t) (cH (bc s)) then fT s else some s).bind λs1=>if cV s1 then Dc s1 t (cy (bc s)) (if vK (d6 t) (cH (bc s)) then[]else cH (bc s)) (dt (bc s1))else none else none:=rfl
omit e in
theorem jU.len (V:jU E s b v inl):b.stack.length=(E.ids v.z).length+(1+(v.ps.length+inl.length)):=by
 have h1:=afp List.length V.ns;unfold Mine.names at h1;rw[afj,afl,afP,afl,afj]at h1
 lia
theorem K2(T:pB E t)(r:Sm E s b)(V:jU E s b v inl)(h:CZ (d6 t) v s=some s'):eA E rk old (Dc (aB b pk rk old) t (E.ids v.z).length v.ps v.m) s':=by
 have hp:(((E.ids v.z).length:Int)==-1)=false:=aft.mpr (by lia)
 have len:=V.len;have hz:=r.z e;have ok:=V.cV (pk:=pk) (rk:=rk) (old:=old) r e;unfold Dc;rw[hp,agL];refine dE h (λc h=>?_) λc h=>dE h (λc2 h=>?_) λc2 h=>dE h (λc3 h=>?_) λc3 h=>dE h (λc4 h=>?_) λc4 h=>dE h (λc5 h=>?_) λc5 h=>?_
 ·refine iA c ?_;refine K1 e T r ok (by rw[afT (afI _),agA];rfl) (cU (by lia)) V.eB.2.2 ?_ (λz yZ=>?_) h
  ·have:(((bc (aB b pk rk old)).length:Int)==((E.ids v.z).length:Int)+1+(v.ps.length:Int))=!v.fl:=by
    rw[<-V.em,nF,afj,len]
    induction inl with
    |nil=>exact afr.mpr (by simp;lia)
    |cons=>exact aft.mpr (by simp;lia)
   rw[this];cases(!v.hd&&!v.fl)<;>rfl
  ·have hz2:v.z=z:=by
    cases hc:(!v.hd&&!v.fl)with
    |true=>rw[hc]at yZ;exact ack yZ
    |false=>rw[hc]at yZ;exact af yZ
   subst hz2;refine⟨rfl,V.zx,?_⟩;refine aF V.zx λx hx=>?_
   have eb:b.stack=E.ids v.z++E.ids x:=by rw[r.st,hx,E.nR]
   have hn:=V.ns;unfold Mine.names at hn;rw[eb,afz]at hn;refine cK (lS (List.append_cancel_left hn)) λk r' e1 e2 _=>?_
   exact⟨k,r',by rw[eb,e1],e2⟩
 ·refine gz c (iA c2 ?_);refine bE h λs1 h1 h=>bE h λs2 h2 h=>?_
  refine aO (q5 (pk:=pk) (rk:=rk) (old:=old) e r h1) λe1 r1=>?_
  have hs:s1.st=s.st:=cE h1 λ_ h1=>by apply sE h1;rfl
  rw[e1];show eA E rk old ((fm (aB {b with aH:=b.aH++[(S "unexpected-start-tag",v.m)]} pk rk old) (((E.ids v.z).length:Nat):Int).toNat).bind λs3=>(jJ t).bind λas=>fH s3 t.name as) s'
  refine eA.bind (yY e r1 ⟨V.iX,V.ns,V.tj,V.em,V.ha,V.mI,by rw[hs];exact V.zx,by rw[hs];exact V.ks⟩ (by rw[hs];exact V.zx) rfl h2) λb2 C9 r2=>?_
  rw[T.as (agd.mp c2).1];exact yX (own:=true) e r2 h
 ·refine gz c (gz c2 (iA c3 ?_));rw[T.as c3];exact aao e r V h
 ·exact gz c (gz c2 (gz c3 (iA c4 (yY e r V V.zx rfl h))))
 ·refine gz c (gz c2 (gz c3 (gz c4 (iA c5 ?_))));refine bE h λk hk h=>?_
  refine aO (V.ks _ _ hk) λk1 k2=>?_
  exact yY e r V k1 k2 h
 ·refine gz c (gz c2 (gz c3 (gz c4 (gz c5 ?_))));refine aO (q5 (pk:=pk) (rk:=rk) (old:=old) e r h) λe1 r1=>?_
  exact⟨_,pk,e1,r1⟩
end
theorem K3(x:Str):fj x=hB x:=by
 delta fj hB Gw ar
 simp only[List.any_cons,List.any_nil,Bool.or_false];cases(S "\t"==x)<;>cases(S "\n"==x)<;>cases(S "\x0c"==x)<;>cases(S "\r"==x)<;>cases(S " "==x)<;>rfl
section
variable{E:Eb}{s s':Sy}{b:B}{t:aN}{pk rk:Nat}{old:Option (List Str)}(e:d5 E)
theorem Sm.cls(r:Sm E s b)(h:qZ s.st=some c):pn E (aE b) s.st c:=aaf s.st c h r.it
theorem Sm.names(r:Sm E s b):names b=(E.ids s.st).map (aE b):=by unfold Mine.names;rw[r.st]
theorem Sm.K4(r:Sm E s b){z:Sk}(h:pn E (aE b) s.st (.dI ps m fl (some ha) k z ks)):∃inl,jU E s b ⟨ps,m,fl,ha,z,ks⟩ inl:=by
 refine cps λG k=>?_
 obtain⟨_,inl,mo,h1,h2⟩:=h;refine aO (h1.2.2 ha rfl) λh3 h4=>?_
 refine k ?_;exact⟨inl,h2.iX,r.names.trans h2.ns,h1.1,h3,h4,λx hx=>h2.gh.names x hx,h2.zx,h2.ks⟩
structure aas(b:B)(pk rk:Nat)(old:Option (List Str)):Prop where
 ok:cV (aB b pk rk old)=true
 pl:cy (bc (aB b pk rk old))=-1
 ps:cH (bc (aB b pk rk old))=[]
 md:dt (bc (aB b pk rk old))=S "in body"
theorem Sm.jt(r:Sm E s b)(e:d5 E)(h:pn E (aE b) s.st (.jt fl ha)):aas b pk rk old:=by
 obtain⟨_,inl,h1,h2⟩:=h;have hn:b.stack.map (aE b)=S "html"::S "body"::inl:=r.names.trans h1;refine⟨qR r.ok (r.hN e) pk rk old λx hx=>(dM.base h2.1).names x (hn▸hx),?_,?_,?_⟩<;>rw[nF,hn]
 ·exact GZ h2.1
 ·exact Tx h2.1
 ·exact G0 h2.1
theorem K5(r:Sm E s b)(e:d5 E)(h:pn E (aE b) s.st (.dI [S "colgroup"] m false (some ha) k z ks))(hk:ks[0]?=some k0):
  ∃b1,fT (aB b pk rk old)=some (aB b1 pk rk old)/\Sm E {s with st:=k0} b1/\b1.pending=b.pending/\jU E {s with st:=k0} b1 ⟨[],S "in table",false,false,z,[k0]⟩ []:=by
 refine cps λG k=>?_
 obtain⟨_,inl,mo,h1,h2⟩:=h;have e0:=h1.2.1 rfl;refine k ?_;subst e0;refine cps λG k=>?_
 obtain⟨⟨x,hx⟩,hl⟩:=h2.ks 0 k0 hk;refine aO (r.fW hx) λe1 r1=>?_
 have e2:=r.names.trans h2.ns;have e3:names b=(E.ids k0).map (aE b)++(E.ids x).map (aE b):=by unfold Mine.names;rw[e1,afz]
 have e4:(E.ids k0).map (aE b)++(E.ids x).map (aE b)=((E.ids z).map (aE b)++[S "table"])++[S "colgroup"]:=by rw[<-e3,e2,afs];rfl
 refine aO (List.append_inj e4 (by rw[afj,hl,afl,afj];rfl)) λe5 e6=>?_
 refine cK (lS e6) λi l' e7 _ e8=>?_
 refine k ?_;rw[e7,agx.mp e8]at e1;refine⟨_,Zw r.ok (r.hN e) pk rk old e1,r1,rfl,⟨.plain (.head _),e5,kR,rfl,rfl,λx hx=>h2.gh.names x hx,?_,λj sk hj=>?_⟩⟩
 ·refine aF h2.zx λy hy=>?_
  rcases List.append_eq_append_iff.mp (hy.symm.trans hx)with⟨u,hu,hv⟩|⟨u,hu,hv⟩
  ·have h9:(E.ids z).length=(E.ids (u++k0)).length:=afp (λl=>(E.ids l).length) hv
   rw[E.nR,afl,hl]at h9
   lia
  ·exact⟨u,hv⟩
 ·induction j with
  |zero=>apply sE hj;exact⟨⟨[],rfl⟩,hl⟩
  |succ j=>exact af hj
theorem jU.K6(V:jU E s b v inl):(decide (((E.ids v.z).length:Int)+1+(v.ps.length:Int)<((bc (aB b pk rk old)).length:Int)))=v.fl:=by
 rw[nF,afj,V.len];have em:=V.em
 induction inl with
 |nil=>rw[show v.fl=false by cases h:v.fl<;>rw[h]at em<;>first|rfl|cases em];exact agK (by simp;lia)
 |cons=>rw[show v.fl=true by cases h:v.fl<;>rw[h]at em<;>first|rfl|cases em];exact afT (by simp;lia)
theorem aat(n:Nat):((n:Int)==-1)=false:=aft.mpr (by exact nofun)
include e
theorem aau(T:pB E t)(r:Sm E s b)(h:KQ (d6 t) s=some s'):eA E rk old (me (aB b pk rk old) t) s':=bE h λc hc h=>by
 have C:=r.cls hc;rw[aar]
 induction c with
 |jt fl ha=>
  obtain⟨ok,pl,ps,md⟩:=r.jt (pk:=pk) (rk:=rk) (old:=old) e C;refine iA ok ?_;rw[pl,ps,if_neg (show¬(vK (d6 t) []=true)from nofun),if_neg (show¬(vK (d6 t) []=true)from nofun)];show eA E rk old (if cV (aB b pk rk old) then _ else none) s';refine iA ok (iA rfl (K1 e T r ok (out:=false) rfl rfl md (fo:=none) rfl (λz hz=>nomatch hz) h))
 |dI ps m fl ha k z ks=>
  exact bE h λtv h1 h=>by
    subst h1;refine cps λG k=>?_
    refine aF (r.K4 C) λinl V=>?_
    have ok:=V.cV (pk:=pk) (rk:=rk) (old:=old) r e;refine dG (V.eB (pk:=pk) (rk:=rk) (old:=old)) λf1 f2 f3=>?_
    refine k ?_;refine iA ok ?_;rw[f1,f2];refine dE h (λhg h=>?_) λhg h=>?_
    ·induction fl with
     |true=>exact af h
     |false=>
      refine bE h λk0 hk h=>?_
      have hp:ps=[S "colgroup"]:=afr.mp (agd.mp hg).1
      replace C:=hp▸C
      refine cps λG k=>?_
      refine jY (K5 (pk:=pk) (rk:=rk) (old:=old) r e C hk) λb1 e1 r1 _ V1=>?_
      refine dG (V1.eB (pk:=pk) (rk:=rk) (old:=old)) λg1 g2 g3=>?_
      refine k ?_;rw[if_pos hg,if_pos hg,e1];show eA E rk old (if cV (aB b1 pk rk old) then _ else none) s';refine iA (V1.cV r1 e) ?_;rw[g3];exact K2 e T r1 V1 h
    ·rw[iF _ _ hg,iF _ _ hg];show eA E rk old (if cV (aB b pk rk old) then _ else none) s';refine iA ok ?_;exact f3▸K2 e T r V h
 |_=>exact af h
theorem Dd(r:Sm E s b)(h:yT s=some s'):∃i y,(aB b pk rk old).path.getLast?=some i/\cP (aB b pk rk old) i=some y/\ay y.kids.length=true/\gd (aB b pk rk old) i y.kids.length E.sg=some (aB (putL b E.sg) pk rk old)/\Sm E s' (putL b E.sg):=cE h λhc h=>bE h λq hq h=>by
 apply sE h;refine ah (r.dI hq) λk f1 hh=>aF hh λst f2=>?_
 refine dG (yG r.ok (r.hN e) f2 pk rk old e.sg) λg1 g2 g3=>?_
 have zk:=r.ok.zk _ _ (jT r.ok f2).2.get;have:=r.hN e;exact⟨_,_,g1,g2,cU (by show(gf b).kids.length<=_;exact bh (ads ‹_› ‹_›)),g3,r.put e (pd hc) f1 f2⟩
def K7(s:LS)(x:Str)(i:Int)(y:LN)(place:Int)(parts:List Str)(mode:Str):Option LS:=
 if place==-1||(fk parts||((parts==[S "colgroup"])&&hB x)) then gd s i y.kids.length x
 else if decide (place+1+(parts.length:Int)<((bc s).length:Int)) then(cW s (S "foster-parented") mode).bind λs1=>gd s1 i y.kids.length x
 else(if parts==[S "colgroup"] then fT s else some s).bind λs1=>if ay s1.run.length then some {s1 with run:=s1.run++[x]}else none
omit e in
theorem De {s:LS}(ok:cV s=true)(h1:s.path.getLast?=some i)(h2:cP s i=some y)(h3:ay y.kids.length=true):l9 s x=K7 s x i y (cy (bc s)) (cH (bc s)) (dt (bc s)):=by
 exact(iT _ _ ok).trans ((oB _ h1).trans ((oB _ h2).trans (iT _ _ h3)))
omit e in
theorem aav (r:Sm E s b)(e:d5 E){st:List Int}(h:b.stack=st++[k]):∃i y,(aB b pk rk old).path.getLast?=some i/\cP (aB b pk rk old) i=some y/\ay y.kids.length=true:=by
 refine dG (yG r.ok (r.hN e) h pk rk old e.sg) λg1 g2 g3=>?_
 have zk:=r.ok.zk _ _ (jT r.ok h).2.get;have:=r.hN e;exact⟨_,_,g1,g2,cU (by show(gf b).kids.length<=_;lia)⟩
omit e in
theorem aaw (r:Sm E s b)(V:jU E s b v inl):∃st k,b.stack=st++[k]:=by
 rcases af1 b.stack with h|⟨st,k,h⟩
 ·have:=V.len;rw[h]at this;exact absurd this (by show¬(0=_);lia)
 ·exact⟨st,k,by rw[h,agb]⟩
omit e in
theorem Sm.push (r:Sm E s b)(e:d5 E)(hp:s.bN=false):b.pending=[]/\Sm E {s with bN:=true} {b with pending:=[E.sg]}:=by
 have h0:b.pending=[]:=by rw[r.pe,hp];rfl
 have:=e.N1;exact⟨h0,⟨r.ok.same rfl (afE _) r.ok.ze (by show 1<=E.N+(s.tr.length+s.bJ.length);exact agH this) (afm _),r.lm,r.st,r.it,r.nd,r.ln,r.er,r.md,r.mr,r.fo,r.ak,rfl,r.og⟩⟩
theorem K8(r:Sm E s b)(h:C0 s=some s'):(if ay (aB b pk rk old).run.length then some {aB b pk rk old with run:=(aB b pk rk old).run++[E.sg]}else none)=some (aB {b with pending:=[E.sg]} pk rk old)/\Sm E s' {b with pending:=[E.sg]}:=by
 replace h:cond s.bN none (some {s with bN:=true})=some s':=h
 cases hp:s.bN with
 |true=>rw[hp]at h;exact af h
 |false=>
  rw[hp]at h;apply sE h;refine aO (r.push e hp) λh0 r1=>?_
  refine⟨?_,r1⟩;show(if ay b.pending.length then some {aB b pk rk old with run:=b.pending++[E.sg]}else none)=_
  rw[h0];rfl
theorem aax(T:pB E t)(r:Sm E s b)(hk:(t.kind==S "char")=true)(h:KR (d6 t) s=some s'):eA E rk old (l9 (aB b pk rk old) t.name) s':=bE h λc hc h=>by
 have C:=r.cls hc;rw[(T.sg hk).1]
 induction c with
 |jt fl ha=>
  obtain⟨ok,pl,ps,md⟩:=r.jt (pk:=pk) (rk:=rk) (old:=old) e C;refine gD (Dd (pk:=pk) (rk:=rk) (old:=old) e r h) λi y h1 h2 h3 h4 h5=>?_
  rw[De ok h1 h2 h3,pl];exact iA rfl ⟨_,pk,h4,h5⟩
 |dI ps m fl ha k z ks=>
  exact bE h λtv h1 h=>by
    subst h1;refine aF (r.K4 C) λinl V=>?_
    have ok:=V.cV (pk:=pk) (rk:=rk) (old:=old) r e;refine dG (V.eB (pk:=pk) (rk:=rk) (old:=old)) λf1 f2 f3=>?_
    refine fN (aaw r V) λst k' hs=>?_
    refine cK (aav (pk:=pk) (rk:=rk) (old:=old) r e hs) λi y g1 g2 g3=>?_
    rw[De ok g1 g2 g3,f1,f2,f3];have K9:(d6 t).bl=hB E.sg:=by rw[<-K3,<-(T.sg hk).1];rfl
    unfold K7;rw[aat,agL];refine dE h (λq1 h=>iA (by rw[<-K9];exact q1) ?_) λq1 h=>gz (by rw[<-K9];exact q1) (dE h (λq2 h=>iA (V.K6.trans q2) ?_) λq2 h=>gz (V.K6.trans q2) (dE h (λq3 h=>?_) λq3 h=>?_))
    ·refine gD (Dd (pk:=pk) (rk:=rk) (old:=old) e r h) λi' y' p1 p2 _ p4 p5=>?_
     cases g1.symm.trans p1;cases g2.symm.trans p2;exact⟨_,pk,p4,p5⟩
    ·refine bE h λs1 h1 h=>?_
     refine aO (q5 (pk:=pk) (rk:=rk) (old:=old) e r h1) λe1 r1=>?_
     refine gD (Dd (pk:=pk) (rk:=rk) (old:=old) e r1 h) λi' y' p1 p2 _ p4 p5=>?_
     cases g1.symm.trans p1;cases g2.symm.trans p2;exact⟨_,pk,(oB _ e1).trans p4,p5⟩
    ·refine bE h λk0 hk0 h=>?_
     have hp:ps=[S "colgroup"]:=afr.mp q3;have q2:fl=false:=q2;rw[hp,q2]at C;refine jY (K5 (pk:=pk) (rk:=rk) (old:=old) r e C hk0) λb1 e1 r1 _ V1=>?_
     refine aO (K8 (pk:=pk) (rk:=rk) (old:=old) e r1 h) λe2 r2=>?_
     exact⟨_,pk,(oB _ ((iT _ _ q3).trans e1)).trans e2,r2⟩
    ·refine aO (K8 (pk:=pk) (rk:=rk) (old:=old) e r h) λe2 r2=>?_
     exact⟨_,pk,(oB (v:=aB b pk rk old) _ (iF _ _ q3)).trans e2,r2⟩
 |_=>exact af h
def vL(t:aN)(b1:B):Option B:=if t.kind==S "start" then(qk t).bind λf=>if f then(if !b1.dD then fh b1 (S "non-void-html-element-start-tag-with-trailing-solidus")else some b1)else some b1 else some b1
theorem aay(T:pB E t)(r:Sm E s b)(h:KS (d6 t) s=some s'):nW E (vL t b) s':=by
 unfold vL
 replace h:cond ((t.kind==S "start")&&(t.name==S "col"&&!s.dD)) (vC nv s) (some s)=some s':=h
 cases hs:(t.kind==S "start")with
 |false=>
  replace h:=hs▸h
  apply sE h;exact⟨b,rfl,r⟩
 |true=>
  rw[if_pos rfl,T.fl hs];show nW E (if t.name==S "col" then _ else _) s';rw[hs,agA]at h;cases hc:(t.name==S "col")with
  |false=>rw[hc]at h;apply sE h;exact⟨b,iF _ _ rfl,r⟩
  |true=>
   rw[hc,agA]at h;rw[if_pos rfl,r.ak];cases ha:s.dD with
   |true=>rw[ha]at h;apply sE h;exact⟨b,iF _ _ rfl,r⟩
   |false=>rw[ha]at h;refine ah (CL r e h) λb' e1 r1=>?_;exact⟨b',(iT _ _ rfl).trans e1,r1⟩
theorem aaz(T:pB E t)(r:Sm E s b)(h:C7 (d6 t) n s=some s'):nW E ((jb n b t).bind (vL t)) s':=bE h λs1 h1 h=>by
 refine ah (KH e T.toTq n s s1 b r h1) λb1 e1 r1=>?_
 refine ah (aay e T r1 h) λb2 e2 r2=>?_
 exact⟨b2,(oB _ e1).trans e2,r2⟩
end
inductive Shape:List Str->Str->Prop
 |gh {ns:List Str} {m:Str} (h:dM ns m):Shape ns m
 |tab {pre parts inl:List Str} {mo m:Str} (h:dM pre mo) (hp:(parts,m)∈plainT++xF) (ha:ap inl) (hc:parts=[S "colgroup"]->inl=[]):Shape (pre++S "table"::(parts++inl)) m
structure ki(b:B)(N:Nat):Prop where
 ok:Ok b N
 shape:Shape (names b) b.mode
 marks:b.marks=dw (names b)
 gU:b.dC=false
 bN:b.pending=[]
structure jV(b:B)(N c:Nat):Prop where
 base:ki {b with mode:=b.original,pending:=[]} N
 pl:∃pre mo parts,names b=pre++S "table"::(parts++[])/\dM pre mo/\qG parts b.original
 mode:b.mode=S "in table text"
 ne:b.pending≠[]
 zp:b.pending.length<=c
 sg:∀x∈b.pending,x.length<=1
def Inv(b:B)(N c:Nat):Prop:=ki b N\/jV b N c
theorem Ok.more(O:Ok b N)(h:N<=M):Ok b M:=O.same rfl (afE _) (ads O.ze h) (ads O.zp h) h
section
variable{E:Eb}{b:B}
theorem Sm.La{st:Sk}(hb:E.b=b)(O:Ok b E.N)(hs:b.stack=E.ids st)(hi:∀e∈st,qT E.ms e.1 ((E.bM e.2).map (aE b)))(hm:b.marks=E.ms++List.replicate k (-1))(hf:b.dC=false)(ha:b.dD=false)(hp:b.pending=[]):Sm E (C8 st b.mode k) b:=by
 subst hb;exact⟨O,afw _,hs,hi,rfl,λ_=>rfl,(afD _).symm,rfl,hm,hf,ha,hp,λz=>nomatch z⟩
theorem Lb(ho:E.o 2=is)(ha:ap (is.map (aE b))):∃il,il∈q0/\(is=[]->il=none)/\E.ids (pA il)=is/\∀e∈pA il,qT E.ms e.1 ((E.bM e.2).map (aE b)):=by
 refine cps λgG kK=>?_
 rcases af1 is with h|⟨js,k,h⟩
 ·refine kK ?_;exact⟨none,.head _,λ_=>rfl,h.symm,λ_ z=>nomatch z⟩
 ·rw[agb]at h;have mk:∀la tv,some (la,tv)∈q0->(is.map (aE b)).getLast?=some (cond la (S "a") (S "p"))->ar (is.map (aE b)) (S "a")=tv->∃il,il∈q0/\(is=[]->il=none)/\E.ids (pA il)=is/\∀e∈pA il,qT E.ms e.1 ((E.bM e.2).map (aE b)):=λla tv hm h1 h2=>
   ⟨some (la,tv),hm,λz=>(by rw[z]at h1;exact nomatch h1),ho,λe he=>by
    rw[afJ.mp he];show ap ((E.o 2).map _)/\((E.o 2).map _).getLast?=_/\ar ((E.o 2).map _) _=_;exact ho▸⟨ha,h1,h2⟩⟩
  have hl:(is.map (aE b)).getLast?=some (aE b k):=by rw[h,afz,List.map_singleton,agM]
  have hk:aE b k∈is.map (aE b):=by rw[h,afz];exact afu.mpr (.inr (.head _))
  rcases ha _ hk with e|e
  ·refine kK ?_;exact mk true true (.tail _ (.head _)) (by rw[hl,e];rfl) (ka.mpr (e▸hk))
  ·cases hh:ar (is.map (aE b)) (S "a")with
   |true=>refine kK ?_;exact mk false true (.tail _ (.tail _ (.head _))) (by rw[hl,e];rfl) hh
   |false=>refine kK ?_;exact mk false false (.tail _ (.tail _ (.tail _ (.head _)))) (by rw[hl,e];rfl) hh
theorem Df(h:E.bM q=[k])(e:aE b k=x)(g:x=S "html"->E.ms=[]):qT E.ms (.nm x) ((E.bM q).map (aE b)):=by
 rw[h];exact⟨afp (·::[]) e,g⟩
theorem aaA:∀(parts:List Str) (ps:List Int) (i:Nat),ps.map (aE b)=parts->(∀j,E.o (i+j)=(ps[j]?).toList)->(∀x∈parts,x≠S "html")->E.ids (tg i parts)=ps/\∀e∈tg i parts,qT E.ms e.1 ((E.bM e.2).map (aE b)):=λkK=>by
 induction kK with
 |nil=>exact λps _ h _ _=>⟨(agx.mp h).symm,λ_ z=>nomatch z⟩
 |cons x r ih=>
  rintro ps i h ho hx
  refine cK (lS h) λp Lc e1 e2 e3=>?_
  subst e1;refine aO (ih Lc (i+1) e3 (λj=>by rw[Nat.add_assoc,agJ 1,ho];rfl) λy hy=>hx y (.tail _ hy)) λh1 h2=>?_
  have h0:E.o i=[p]:=ho 0;refine⟨?_,agg.mpr ⟨h2,λe he=>?_⟩⟩
  ·show E.ids (tg (i+1) r++_)=_;rw[E.nR,h1];show([]++E.o i)++Lc=_;rw[h0];rfl
  ·rw[afJ.mp he];show(E.o i).map _=_/\_;rw[h0];exact⟨afp (·::[]) e2,λz=>absurd z (hx x (.head _))⟩
noncomputable def q6 (pre:List Int)(t is ps:List Int):Nat->List Int
 |0=>pre
 |1=>t
 |2=>is
 |k+3=>(ps[k]?).toList
theorem aaB:lK.all (λp=>p.1.all λx=>!(x==S "html"))=true:=rfl
theorem aaC:nE.all (λp=>ar yV p.2)=true:=rfl
theorem dM.mo(h:dM ns m):m∈yV:=by
 induction h with
 |base=>exact .head _
 |tab _ hp _=>exact ka.mp (eM aaC hp)
structure Dg(b:B)(N:Nat):Prop where
 ok:Ok b N
 marks:b.marks=dw (names b)
 gU:b.dC=false
 bN:b.pending=[]
 dD:b.dD=false
 hN:N<=100000
 h1:1<=N
variable{N:Nat}{as:List U}{sg:Str}(A:Dg b N)(has:as.length<=1000)(q7:sg.length<=1)
include A has q7
theorem aaD{inl:List Str}(h:names b=S "html"::S "body"::inl)(ha:ap inl)(hm:b.mode=S "in body"):∃(E:Eb) (il:Option (Bool×Bool)),(d5 E/\E.as=as/\E.sg=sg/\E.N=N)/\il∈q0/\Sm E (KW il) b:=by
 refine cps λgG kK=>?_
 refine cK (lS h) λp0 r e1 e2 e3=>?_
 refine cK (lS e3) λp1 is e4 e5 e6=>?_
 subst e4;refine jY (Lb (b:=b) (is:=is) (E:=⟨b,q6 [p0] [p1] is [],as,sg,N,[]⟩) rfl (by exact e6▸ha)) λil h1 _ h3 h4=>?_
 refine kK ?_;refine⟨⟨b,q6 [p0] [p1] is [],as,sg,N,[]⟩,il,⟨⟨A.hN,A.h1,has,q7,afw _⟩,rfl,rfl,rfl⟩,h1,?_⟩;have:=Sm.La (E:=⟨b,q6 [p0] [p1] is [],as,sg,N,[]⟩) (k:=0) (st:=pA il++[(.nm (S "body"),.old 1),(.nm (S "html"),.old 0)]) rfl A.ok (by rw[Eb.nR,h3,e1];rfl) (agg.mpr ⟨h4,afV.mpr ⟨Df rfl e5 λ_=>rfl,afV.mpr ⟨Df rfl e2 λ_=>rfl,λ_ z=>nomatch z⟩⟩⟩) (by
  rw[A.marks,h,show S "html"::S "body"::inl=[S "html",S "body"]++inl from rfl,sV,yI ha,show dw [S "html",S "body"]=[] by kernel_rfl];rfl) A.gU A.dD A.bN
 replace this:=hm▸this
 exact this
theorem Dh{pre parts inl:List Str}(h:names b=pre++S "table"::(parts++inl))(ho:dM pre mo)(hp:eP parts m)(ha:ap inl)(hm:b.mode=m):∃(E:Eb) (il:Option (Bool×Bool)),(d5 E/\E.as=as/\E.sg=sg/\E.N=N)/\il∈q0/\(inl=[]->il=none)/\Sm E (yU mo (parts,m) il) b:=by
 refine cps λgG kK=>?_
 refine cK (CD h) λl1 l2 e1 e2 e3=>?_
 refine cK (lS e3) λt r e4 e5 e6=>?_
 refine cK (CD e6) λps is e7 e8 e9=>?_
 subst e4;subst e7;refine jY (Lb (b:=b) (is:=is) (E:=⟨b,q6 l1 [t] is ps,as,sg,N,dw pre⟩) rfl (by exact e9▸ha)) λil h1 h2 h3 h4=>?_
 obtain⟨g1,g2⟩:=aaA (b:=b) (E:=⟨b,q6 l1 [t] is ps,as,sg,N,dw pre⟩) parts ps 3 e8 (λj=>by rw[agJ];rfl) (λx hx=>by
  have:=afn.mp (eM aaB hp) x hx;rw[afH]at this;exact aft.mp this)
 have hl:(dw pre).length<=100000:=by
  have:=Zx pre;have z:=A.ok.zs;have:=A.hN;have q:=afp List.length e2;rw[afj]at q;rw[e1,afl]at z
  lia
 refine kK ?_;refine⟨⟨b,q6 l1 [t] is ps,as,sg,N,dw pre⟩,il,⟨⟨A.hN,A.h1,has,q7,hl⟩,rfl,rfl,rfl⟩,h1,λz=>h2 (agx.mp (e9.trans z)),?_⟩
 have:=Sm.La (E:=⟨b,q6 l1 [t] is ps,as,sg,N,dw pre⟩) (k:=cond (ju parts) 1 0) (st:=pA il++(tg 3 parts++[(.nm (S "table"),.old 1),(.pre mo,.old 0)])) rfl A.ok (by
   rw[Eb.nR,Eb.nR,h3,g1,e1,afs];show l1++t::(ps++is)=(([]++l1)++[t])++(ps++is);rw[List.nil_append,afs];rfl)
  (agg.mpr ⟨h4,agg.mpr ⟨g2,afV.mpr ⟨Df rfl e5 λz=>absurd z (by rw[Bi];decide),afV.mpr ⟨by show dM (l1.map _) mo/\dw (l1.map _)=_;exact e2.symm▸⟨ho,rfl⟩,λ_ z=>nomatch z⟩⟩⟩⟩) (by
  rw[A.marks,h,yS hp ha];cases ju parts<;>rfl) A.gU A.dD A.bN
 rw[hm]at this;exact this
theorem aaE(hs:Shape (names b) b.mode)(hf:allB f=true):∃(E:Eb) (s:Sy),(d5 E/\E.as=as/\E.sg=sg/\E.N=N)/\f s=true/\Sm E s b:=by
 refine cps λgG kK=>?_
 have Di:=agd.mp hf;have tb:∀{pre parts inl:List Str} {mo m:Str},names b=pre++S "table"::(parts++inl)->dM pre mo->(parts,m)∈nE++plainT->ap inl->b.mode=m->∃(E:Eb) (s:Sy),(d5 E/\E.as=as/\E.sg=sg/\E.N=N)/\f s=true/\Sm E s b:=λ{pre parts inl mo m} h ho hp ha hm=>by
  refine dW (Dh A has q7 h ho (m:=m) ((afu.mp hp).elim .holds .plain) ha hm) λE il h1 h2 _ h3=>?_
  have h4:=eM Di.2 ho.mo;have h5:=agd.mp h4;exact⟨E,_,h1,eM (eM h5.1 hp) h2,h3⟩
 generalize d7:names b=ns at hs;generalize hm:b.mode=m at hs;cases hs with
 |gh h=>
  induction h with
  |base ha=>
   refine cK (aaD A has q7 d7 ha hm) λE il h1 h2 h3=>?_
   refine kK ?_;exact⟨E,_,h1,eM Di.1 h2,h3⟩
  |tab h hp ha=>refine kK ?_;exact tb d7 h (afu.mpr (.inl hp)) ha hm
 |@tab pre parts inl mo _ h hp ha hc=>
  rcases afu.mp hp with q|q
  ·refine kK ?_;exact tb d7 h (afu.mpr (.inr q)) ha hm
  ·have e1:(parts,m)=([S "colgroup"],S "in column group"):=afJ.mp q;have e2:parts=[S "colgroup"]:=afp Prod.fst e1;refine dW (Dh A has q7 d7 h (m:=m) (by rw[eP,e1];exact eP.Tg) ha hm) λE il h1 h2 h4 h3=>?_
   rw[h4 (hc e2)]at h3;have h5:=agd.mp (eM Di.2 h.mo);refine kK ?_;exact⟨E,_,h1,eM h5.2 q,h3⟩
theorem aaF(h:names b=pre++S "table"::(parts++[]))(ho:dM pre mo)(hp:qG parts m)(hm:b.mode=m)(hf:yW f=true):∃(E:Eb) (s:Sy),(d5 E/\E.as=as/\E.sg=sg/\E.N=N)/\f s=true/\Sm E s b:=by
 refine dW (Dh A has q7 h ho (m:=m) (.plain hp) kR hm) λE il h1 h2 h4 h3=>?_
 rw[h4 rfl]at h3;exact⟨E,_,h1,eM (eM hf ho.mo) hp,h3⟩
end
section
variable{E:Eb}{s:Sy}{b:B}
theorem Ld(h:eP ps m)(hh:ju ps=false):(ps,m)∈plainT++xF:=by
 rcases afu.mp h with q|q
 ·have:nE.all (λp=>ju p.1)=true:=rfl
  rw[eM this q]at hh;exact nomatch hh
 ·exact q
structure Lg(E:Eb)(s:Sy)(b:B):Prop where
 i:s.bN=false->ki b (E.N+6)
 t:s.bN=true->b.mode=S "in table text"/\ki {b with mode:=b.original,pending:=[]} (E.N+6)/\∃pre mo parts,names b=pre++S "table"::(parts++[])/\dM pre mo/\qG parts b.original
theorem aaG(e:d5 E)(r:Sm E s b)(h:C6 s=true):Lg E s b:=by
 unfold C6 at h;rw[afi,afi,afH]at h;refine cps λG k=>?_
 obtain⟨⟨h1,h2⟩,h3⟩:=h;have h2:=afo h2;have O:Ok b (E.N+6):=r.ok.more (by exact agv h2 _)
 have hf:b.dC=false:=r.fo.trans h1;obtain⟨c,hc,h3⟩:∃c,qZ s.st=some c/\C5 s c=true:=oE h3 (λc e h=>⟨c,e,h⟩) λh=>nomatch h
 have C:=r.cls hc;have nm:=r.names;refine k ?_;unfold C5 at h3;cases hp:s.bN with
 |false=>
  refine⟨λ_=>?_,λz=>absurd (hp.symm.trans z) (by decide)⟩
  replace h3:=hp▸h3
  have pe:b.pending=[]:=by rw[r.pe,hp];rfl
  cases hq:yP c with
  |some p=>
   rw[hq]at h3
   replace h3:(p.1==s.mode&&Nat.beq p.2 s.marks)=true:=h3
   rw[afi]at h3;obtain⟨p1,p2⟩:=p;refine aO (KJ C hq) λj1 j2=>?_
   refine⟨O,?_,?_,hf,pe⟩
   ·rw[r.md,nm,<-afr.mp h3.1];exact .gh j1
   ·rw[r.mr,nm,j2,show p2=s.marks from afB h3.2]
  |none=>
   replace h3:=hq▸h3
   induction c with
   |dI ps m fl ha k z ks=>
    replace h3:(m==s.mode&&(Nat.beq k s.marks&&!(ps==[S "colgroup"]&&fl)))=true:=h3
    rw[afi,afi,afH,Bool.and_eq_false_iff]at h3;refine dG h3 λg1 g2 g3=>?_
    obtain⟨_,inl,mo,a1,a2⟩:=C;cases hh:ju ps with
    |true=>
     replace hq:cond (ju ps) (some (m,k+1)) none=none:=hq
     replace hq:=hh▸hq;cases hq
    |false=>
     refine⟨O,?_,?_,hf,pe⟩
     ·rw[r.md,nm,a2.ns,<-afr.mp g1];exact .tab a2.gh (Ld a2.iX hh) a1.1 λz=>a1.2.1 (g3.resolve_left λq=>by replace q:=z▸q;exact absurd q (by decide))
     ·rw[r.mr,nm,a2.ns,yS a2.iX a1.1,hh,a2.mr,afB g2];exact(afD _).symm
   |_=>cases h3
 |true=>
  refine⟨λz=>absurd (hp.symm.trans z) (by decide),λ_=>?_⟩
  replace h3:=hp▸h3
  induction c with
  |dI ps m fl ha k z ks=>
   replace h3:(s.nQ&&((s.mode==S "in table text")&&(!fl&&(!ju ps&&(!(ps==[S "colgroup"])&&(m==s.vx&&Nat.beq k s.marks))))))=true:=h3
   simp only[Bool.and_eq_true,Bool.not_eq_true']at h3;refine cps λG k=>?_
   refine N9 h3 λg1 g2 g3 g4 g5 g6 g7=>?_
   obtain⟨_,inl,mo,a1,a2⟩:=C;have e0:=a1.2.1 g3;refine k ?_;subst e0;have og:=r.og g1;have pc:=Ld a2.iX g4;have ns:=nm.trans a2.ns;have hm:b.original=m:=og.trans (afr.mp g6).symm;refine⟨r.md.trans (afr.mp g2),⟨O.same rfl (afE _) O.ze (afw _) (afm _),?_,?_,hf,rfl⟩,_,mo,ps,ns,a2.gh,?_⟩
   ·show Shape (names b) b.original;rw[ns,hm];exact .tab a2.gh pc kR λ_=>rfl
   ·show b.marks=dw (names b);rw[r.mr,ns,yS a2.iX kR,g4,a2.mr,afB g7];exact(afD _).symm
   ·rw[hm];exact(afu.mp pc).elim id λq=>absurd (afp Prod.fst (afJ.mp q)) (aft.mp g5)
  |_=>cases h3
theorem aaH(h:C4 a c=true)(ra:Sm E a b1)(rc:Sm E c b2)(pk rk:Nat)(old:Option (List Str)):aB b2 pk rk old=aB b1 pk rk old:=by
 unfold C4 at h;rw[afi,afi,afi,afO,afO,afO]at h;refine fb h λh1 h2 h3 h4=>?_
 unfold aB;rw[ra.nd,rc.nd,ra.st,rc.st,ra.er,rc.er,ra.pe,rc.pe,h1,h2,h3,afr.mp h4]
theorem Lh(e:d5 E)(T:pB E t)(r:Sm E s b)(h:pz (d6 t) n s=true):∃b' s',((jb n b t).bind (vL t))=some b'/\Sm E s' b'/\Lg E s' b'/\
  ∀pk rk old,∃jr,(if t.kind==S "char" then l9 (aB b pk rk old) t.name else me (aB b pk rk old) t)=some (aB b' jr rk old):=by
 refine cps λgG kK=>?_
 obtain⟨a,ha,h⟩:∃a,C7 (d6 t) n s=some a/\_:=oE h (λa e h=>⟨a,e,h⟩) λh=>nomatch h
 obtain⟨c,hc,h⟩:∃c,KU (d6 t) s=some c/\_:=oE h (λa e h=>⟨a,e,h⟩) λh=>nomatch h
 rw[afi]at h;refine ah (aaz e T r ha) λb1 e1 r1=>?_
 refine kK ?_;refine⟨b1,a,e1,r1,aaG e r1 h.2,λpk rk old=>?_⟩
 have key:eA E rk old (if t.kind==S "char" then l9 (aB b pk rk old) t.name else me (aB b pk rk old) t) c:=dE hc (λhk hc=>iA hk (aax e T r hk hc)) λhk hc=>gz hk (aau e T r hc)
 refine cG key λb2 jr e2 r2=>?_
 exact⟨jr,e2.trans (afp some (aaH h.1 r1 r2 jr rk old))⟩
end
structure iB(b b':B):Prop where
 eq:b'={b with aa:=b'.aa,aH:=b'.aH}
 nm:∀k∈b.stack,aE b' k=aE b k
theorem iB.refl(b:B):iB b b:=⟨rfl,λ_ _=>rfl⟩
theorem iB.st(h:iB b b'):b'.stack=b.stack:=by rw[h.eq]
theorem iB.trans(h:iB a b)(k:iB b c):iB a c:=⟨by rw[k.eq,h.eq],λz hz=>(k.nm z (by rw[h.st];exact hz)).trans (h.nm z hz)⟩
theorem iB.names(h:iB b b'):names b'=names b:=by
 unfold Mine.names;exact h.st.symm▸aga λk hk=>h.nm k hk
theorem Li(O:Ok b N)(hp:b.aa[p]?=some xp):iB b (fJ b p xp at_ s):=⟨by rw[vA],λk hk=>GQ O hp hk⟩
theorem aaI:∀(xs:List Str) (b:B) (M:Nat),Ok b M->M+xs.length<=700000->(∃st k,b.stack=st++[k])->b.dC=false->(∀x∈xs,x.length<=1)->
  ∃b',w5 xs b=some b'/\Ok b' (M+xs.length)/\iB b b'/\∀place pk rk old,oV true place xs (aB b pk rk old)=some (aB b' pk rk old):=λkK=>by
 induction kK with
 |nil=>exact λb M O _ _ _ _=>⟨b,rfl,O,.refl b,λ_ _ _ _=>rfl⟩
 |cons x r ih=>
  rintro b M O hM ⟨st,k,hs⟩ hf hx
  rw[afP]at hM;refine aO (afV.mp hx) λq8 hx=>?_
  have e1:=Kh O (by exact bh (af4 hM)) hs (.inl hf) q8
  have O1:=O.putL (by rw[hs];simp) q8 (Nat.le_refl (M+1))
  have L1:iB b (putL b x):=Li O (jT O hs).2.get;refine jY (ih (putL b x) (M+1) O1 (by lia) ⟨st,k,L1.st.trans hs⟩ (by rw[L1.eq];exact hf) hx) λb' e2 O2 L2 eB=>?_
  refine⟨b',(oB _ e1).trans e2,by(rw[afP,show M+(r.length+1)=M+1+r.length by omega];exact O2),L1.trans L2,λplace pk rk old=>?_⟩
  refine dG (yG O (by exact bh (af4 hM)) hs pk rk old q8) λl1 l2 l3=>?_
  have zk:=O.zk _ _ (jT O hs).2.get;exact(oB _ ((iT _ _ rfl).trans l1)).trans ((oB _ l2).trans ((iT _ _ (cU (by show(gf b).kids.length<=_;exact bh (ads ‹_› (af4 ‹_›))))).trans ((oB _ l3).trans ((oB _ rfl).trans (eB place pk rk old)))))
theorem aaJ:∀(xs:List Str) (b:B) (M:Nat),Ok b M->M+2*xs.length<=700000->b.stack=fq++u::t::r0->aE b t=S "table"->(∀k∈r0,aE b k≠S "table"/\aE b k≠S "template")->(∃st k,b.stack=st++[k]/\aE b k∈gn)->b.dC=false->b.mode=S "in table text"->(∀x∈xs,x.length<=1)->
  ∃b',w6 xs b=some b'/\Ok b' (M+2*xs.length)/\iB b b'/\∀pk rk old,oV false ((fq.length:Int)+1) xs (aB b pk rk old)=some (aB b' pk rk old):=λkK=>by
 induction kK with
 |nil=>exact λb M O _ _ _ _ _ _ _ _=>⟨b,rfl,O,.refl b,λ_ _ _=>rfl⟩
 |cons x r ih=>
  rintro b M O hM hs ht hr ⟨st,c,kO,hc⟩ hf hm hx
  rw[afP]at hM;refine aO (afV.mp hx) λq8 hx=>?_
  have ee:fh b (S "foster-parented")=some {b with aH:=b.aH++[(S "foster-parented",S "in table text")]}:=(Cz O (by exact bh (af4 hM)) (S "foster-parented")).trans (hm▸rfl)
  have le:(b.aH++[(S "foster-parented",S "in table text")]).length=b.aH.length+1:=by rw[afl];rfl
  have ze:=O.ze;have zp:=O.zp;have O1:Ok {b with aH:=b.aH++[(S "foster-parented",S "in table text")],dC:=true} (M+1):=O.same rfl (afE _) (by show(b.aH++_).length<=_;exact ads (Nat.le_of_eq le) (afS ze)) (by show b.pending.length<=_;exact Nat.le_succ_of_le zp) (agc _)
  have vM:=Kj O1 (by lia) (st:=fq) (u:=u) (t:=t) (r:=r0) hs ht (λk hk=>hr k hk) rfl (kQ:=st) (k:=c) kO hc
  have sg:=Zr O1 (by lia) (st:=fq) (u:=u) (t:=t) (r:=r0) hs ht q8 vM
  refine dG (nP O (st:=fq) (u:=u) (t:=t) (r:=r0) hs ht) λ_ P _=>?_
  have O2:=O.gx (st:=fq) (u:=u) (t:=t) (r:=r0) hs ht q8 (afm (M+1));have L0:iB b (gx b u x):=Li O P.get;have Lj:=O2.ze;rw[show(gx b u x).aH=b.aH by rw[gx,vA]]at Lj
  refine cps λG k=>?_
  have L:iB b {b with aa:=(gx b u x).aa,aH:=b.aH++[(S "foster-parented",S "in table text")]}:=⟨rfl,λk hk=>L0.nm k hk⟩
  have O3:Ok {b with aa:=(gx b u x).aa,aH:=b.aH++[(S "foster-parented",S "in table text")]} (M+2):=O2.same rfl (L0.st▸afE _) (by show(b.aH++_).length<=_;exact ads (Nat.le_of_eq le) (afS Lj)) (by show b.pending.length<=_;exact agH zp) (agc _)
  have step:ni b (ip x)=some {b with aa:=(gx b u x).aa,aH:=b.aH++[(S "foster-parented",S "in table text")]}:=by
   have hn:(gx {b with aH:=b.aH++[(S "foster-parented",S "in table text")],dC:=true} u x).aa=(gx b u x).aa:=Ko (b:=b) (b':={b with aH:=b.aH++[(S "foster-parented",S "in table text")],dC:=true}) rfl
   have h2:gx {b with aH:=b.aH++[(S "foster-parented",S "in table text")],dC:=true} u x={b with aa:=(gx b u x).aa,aH:=b.aH++[(S "foster-parented",S "in table text")],dC:=true}:=(vA ..).trans (afp (λns=>({b with aa:=ns,aH:=b.aH++[(S "foster-parented",S "in table text")],dC:=true}:B)) hn)
   refine(oB _ ee).trans ((oB _ ((iT _ _ (agj _)).trans sg)).trans ?_);rw[h2];exact afp (λf=>some ({b with aa:=(gx b u x).aa,aH:=b.aH++[(S "foster-parented",S "in table text")],dC:=f}:B)) hf.symm
  obtain⟨b',e2,O4,L3,eB⟩:=ih _ (M+2) O3 (by lia) (L.st.trans hs) ((L.nm t (by rw[hs];simp)).trans ht) (λk hk=>by
   rw[L.nm k (by rw[hs];simp[hk])];exact hr k hk) ⟨st,c,L.st.trans kO,by rw[L.nm c (by rw[kO];simp)];exact hc⟩ hf hm hx
  refine k ?_;refine⟨b',(oB _ step).trans e2,by(rw[afP,show M+2*(r.length+1)=M+2+2*r.length by omega];exact O4),L.trans L3,λpk rk old=>?_⟩
  have zk:=O.zk _ _ P.get;refine aO (Zt O (by exact bh (af4 hM)) (st:=fq) (u:=u) (t:=t) (r:=r0) hs ht pk rk old q8) λl1 l2=>?_
  have aaK:b9 (aB b pk rk old).path ((fq.length:Int)+1-1)=some u:=by
   show b9 b.stack _=_;have:=O.zs;rw[hs]at this ⊢;exact K0 (by exact bh (ads this (af4 hM)))
  refine(oB _ ((iF _ _ rfl).trans aaK)).trans ((oB _ l1).trans ((iT _ _ (cU (by show(dF b u).kids.length<=_;exact bh (ads zk (af4 hM))))).trans ((oB _ l2).trans ((oB _ ((iT _ _ rfl).trans (CA O2 (by lia) pk rk old (S "foster-parented") (S "in table text")))).trans ?_))))
  rw[show aB {gx b u x with aH:=(gx b u x).aH++[(S "foster-parented",S "in table text")]} pk rk old=aB {b with aa:=(gx b u x).aa,aH:=b.aH++[(S "foster-parented",S "in table text")]} pk rk old by rw[gx,vA]]
  exact eB pk rk old
theorem aaL:plainT.all (λp=>p.1.all λx=>ar gn x&&!ar [S "table",S "template"] x)=true:=rfl
theorem aaM:plainT.all (λp=>!fk p.1&&!(p.1==[S "colgroup"]))=true:=rfl
section
variable{b:B}{N c:Nat}
theorem jV.mI(J:jV b N c):∀x∈names b,PyData.strOk x=true:=by
 refine dX J.pl λpre mo parts h1 h2 h3=>?_
 exact h1▸u2 h2.names (.plain h3) kR
theorem Ok.aaN(O:Ok {b with mode:=m,pending:=[]} N)(h:b.pending.length<=c):Ok b (N+c):=O.same rfl (afE _) (ads O.ze (agq _ _)) (ads h (af7 _ _)) (agq _ _)
theorem jV.ok(J:jV b N c):Ok b (N+c):=J.base.ok.aaN J.zp
structure Dj(b:B)(fq:List Int)(u t:Int)(r0:List Int)(pre parts:List Str):Prop where
 st:b.stack=fq++u::t::r0
 ht:aE b t=S "table"
 no:∀k∈r0,aE b k≠S "table"/\aE b k≠S "template"
 last:∃st k,b.stack=st++[k]/\aE b k∈gn
 len:pre.length=fq.length+1
 ns:names b=pre++S "table"::(parts++[])
 pl:qG parts b.original
theorem jV.nQ(J:jV b N c):∃fq u t r0 pre parts,Dj b fq u t r0 pre parts:=by
 refine cps λG k=>?_
 refine dX J.pl λpre mo parts h1 h2 h3=>?_
 refine cK (CD h1) λl1 l2 e1 e2 e3=>?_
 refine cK (lS e3) λt r e4 e5 e6=>?_
 refine k ?_;subst e4;obtain⟨fq,u,hu⟩:∃st u,l1=st++[u]:=by
  rcases af1 l1 with h|⟨st,k,h⟩
  ·rw[h]at e2;exact absurd e2.symm h2.ne
  ·exact⟨st,k,by rw[h,agb]⟩
 subst hu;have hp:=eM aaL h3;have hr:∀k∈r,ar gn (aE b k)=true/\ar [S "table",S "template"] (aE b k)=false:=λk hk=>by
  have:=afn.mp hp (aE b k) (by rw[<-afD parts,<-e6];exact afQ.mpr ⟨k,hk,rfl⟩)
  rw[afi,afH]at this;exact this
 refine⟨fq,u,t,r,pre,parts,by rw[e1,afs];rfl,e5,λk hk=>?_,?_,by rw[<-e2,afj,afl];rfl,h1,h3⟩
 ·have:=iN.mp (hr k hk).2;exact⟨λz=>this (z▸.head _),λz=>this (z▸.tail _ (.head _))⟩
 ·rcases af1 r with h|⟨st,k,h⟩
  ·exact⟨fq++[u],t,by rw[e1,h],by exact e5▸.head _⟩
  ·rw[agb]at h;exact⟨fq++[u]++t::st,k,by rw[e1,h,afs,afs,afs];rfl,ka.mp (hr k (by rw[h];simp)).1⟩
theorem Dj.eB(T:Dj b fq u t r0 pre parts)(pk rk:Nat)(old:Option (List Str)):cy (bc (aB b pk rk old))=(fq.length:Int)+1/\cH (bc (aB b pk rk old))=parts/\bc (aB b pk rk old)=pre++S "table"::(parts++[]):=by
 have e:bc (aB b pk rk old)=pre++S "table"::(parts++[]):=(nF ..).trans T.ns;refine⟨?_,?_,e⟩<;>rw[e]
 ·rw[Bo (.plain T.pl) kR,T.len];rfl
 ·exact Bp (.plain T.pl) kR
theorem aaO(J:jV b N c)(hN:N<=100000)(hc:c<=100000):∃b1,uy b=some b1/\ki (b1.to b1.original) (N+2*c)/\(∃pre mo parts,names b1=pre++S "table"::(parts++[])/\dM pre mo/\qG parts b1.original)/\b1.dD=b.dD/\
  ∀pk rk old,l8 (aB b pk rk old)=some (aB b1 pk (rk+1) (some b.pending)):=by
 refine cps λG k=>?_
 refine fN J.nQ λfq u hh=>lU hh λt r0 pre parts T=>?_
 have hz:=J.zp;have O1:Ok {b with pending:=[],pk:=b.pk+1,old:=some b.pending} N:=J.base.ok.same rfl (afE _) J.base.ok.ze (afw _) (afm _)
 have ck:=λpk rk old=>qR J.ok (by exact bh (agu ‹_› ‹_›)) pk rk old J.mI
 have fin:∀b',Ok b' (N+2*c)->iB {b with pending:=[],pk:=b.pk+1,old:=some b.pending} b'->ki (b'.to b'.original) (N+2*c)/\(∃pre mo parts,names b'=pre++S "table"::(parts++[])/\dM pre mo/\qG parts b'.original)/\b'.dD=b.dD:=λb' O2 L=>by
  have eo:b'.original=b.original:=by rw[L.eq]
  have en:names b'=names b:=L.names;refine⟨⟨O2.same rfl (afE _) O2.ze O2.zp (afm _),?_,?_,?_,?_⟩,?_,by rw[L.eq]⟩
  ·show Shape (names b') b'.original;rw[en,eo];exact J.base.shape
  ·show b'.marks=dw (names b');rw[en,L.eq];exact J.base.marks
  ·show b'.dC=false;rw[L.eq];exact J.base.gU
  ·show b'.pending=[];rw[L.eq]
  ·rw[en,eo];exact J.pl
 have settle:∀pk rk old,l8 (aB b pk rk old)=oV (b.pending.all hB) ((fq.length:Int)+1) b.pending (aB {b with pending:=[],pk:=b.pk+1,old:=some b.pending} pk (rk+1) (some b.pending)):=λpk rk old=>by
  unfold l8;rw[if_pos ⟨ck pk rk old,cU (by show b.pending.length<=_;exact bh (ads hz hc))⟩,(T.eB pk rk old).1];rfl
 have sf:b.pending.all fj=b.pending.all hB:=by congr 1;funext x;exact K3 x
 refine k ?_;cases hb:b.pending.all hB with
 |true=>
  refine cG T.last λst k hs _=>?_
  refine jY (aaI b.pending {b with pending:=[],pk:=b.pk+1,old:=some b.pending} N O1 (by lia) ⟨st,k,hs⟩ J.base.gU J.sg) λb' e1 O2 L eB=>?_
  refine dG (fin b' (O2.more (by lia)) L) λf1 f2 f3=>?_
  refine⟨b',(iT _ _ (cU (by exact bh (ads hz hc)))).trans ((iT _ _ (sf.trans hb)).trans e1),f1,f2,f3,λpk rk old=>?_⟩
  rw[settle,hb];exact eB _ pk (rk+1) (some b.pending)
 |false=>
  refine jY (aaJ (fq:=fq) (u:=u) (t:=t) (r0:=r0) b.pending {b with pending:=[],pk:=b.pk+1,old:=some b.pending} N O1 (by lia) T.st T.ht T.no T.last J.base.gU J.mode J.sg) λb' e1 O2 L eB=>?_
  refine dG (fin b' (O2.more (by lia)) L) λf1 f2 f3=>?_
  refine⟨b',(iT _ _ (cU (by exact bh (ads hz hc)))).trans ((iF _ _ (sf.trans hb)).trans e1),f1,f2,f3,λpk rk old=>?_⟩
  rw[settle,hb];exact eB pk (rk+1) (some b.pending)
end
structure q9(t:aN)(as:List U):Prop where
 kind:t.kind=S "start"
 name:t.name∈fX
 rest:t.rest=[.aG as,.bool (t.name==S "col")]
 len:as.length<=1000
structure Dk(t:aN):Prop where
 kind:t.kind=S "end"
 name:t.name∈fX
structure Dl(t:aN):Prop where
 kind:t.kind=S "char"
 len:t.name.length<=1
 rest:t.rest=[]
 yM:t.name≠S "\x00"
theorem q9.attrs(h:q9 t as):jJ t=some as:=by unfold jJ;rw[h.rest]
theorem q9.flag(h:q9 t as):qk t=some (t.name==S "col"):=by unfold qk;rw[h.rest]
noncomputable def pC (b:B):B:={b with dD:=false}
theorem Ll(b:B)(t:aN):ql b t=(jb 8 (pC b) t).bind (vL t):=rfl
def tw(b:B)(N c:Nat)(k:aN):Prop:=∃b',ql b k=some b'/\Inv b' (N+2*c+6) (c+1)/\∀pk rk old,∃jr Dn yK,su (aB b pk rk old) k=some (aB b' jr Dn yK)
section
variable{b:B}{N c:Nat}{k:aN}{as:List U}{sg:Str}
theorem ki.more(I:ki b N)(h:N<=M):ki b M:=⟨I.ok.more h,I.shape,I.marks,I.gU,I.bN⟩
theorem Shape.ok(h:Shape ns m):(∀x∈ns,PyData.strOk x=true)/\dt ns=m:=by
 cases h with
 |gh h=>exact⟨h.names,h.mode⟩
 |tab h hp ha hc=>
  have wV:eP _ m:=afu.mpr (.inr hp);exact⟨u2 h.names wV ha,xH wV ha⟩
theorem aaP(I:ki b N)(hN:N<=700000)(pk rk:Nat)(old:Option (List Str)):l8 (aB b pk rk old)=some (aB b pk (rk+1) (some [])):=by
 unfold l8;have e:(aB b pk rk old).run=[]:=I.bN;rw[if_pos ⟨qR I.ok (ads ‹_› (by decide)) pk rk old I.shape.ok.1,by rw[e];rfl⟩,e]
 show some _=some _
 delta aB;dsimp only
 rw[I.bN]
structure vO(k:aN)(as:List U)(sg:Str):Prop where
 T:∀E:Eb,E.as=as->E.sg=sg->pB E k
 as:as.length<=1000
 sg:sg.length<=1
 c8:allB (pz (d6 k) 8)=true
 c7:(k.kind==S "char")=false->yW (pz (d6 k) 7)=true
theorem Dp(K:vO k as sg)(I:ki b N)(h1:1<=N)(hN:N<=100000):tw b N c k:=by
 have A:Dg (pC b) N:=⟨I.ok.same rfl (afE _) I.ok.ze I.ok.zp (afm _),I.marks,I.gU,I.bN,rfl,hN,h1⟩;obtain⟨E,s,⟨e,h2,h3,h4⟩,hf,r⟩:=aaE A K.as K.sg I.shape K.c8;refine dW (Lh e (K.T E h2 h3) r hf) λb' s' e1 r1 F eB=>?_
 refine⟨b',e1,?_,λpk rk old=>?_⟩
 ·cases hp:s'.bN with
  |false=>exact .inl ((F.i hp).more (by omega))
  |true=>
   refine dG (F.t hp) λg1 g2 g3=>?_
   have rg:b'.pending=[sg]:=by rw[r1.pe,hp,h3];rfl
   exact .inr ⟨g2.more (by omega),g3,g1,by rw[rg];simp,by rw[rg];exact af7 _ _,λx hx=>by rw[rg]at hx;rw[afJ.mp hx];exact K.sg⟩
 ·unfold su;cases hc:(k.kind==S "char")with
  |true=>
   refine aF (eB pk rk old) λjr h=>?_
   rw[hc]at h;exact⟨jr,rk,old,h⟩
  |false=>
   refine aF (eB pk (rk+1) (some [])) λjr h=>?_
   rw[hc]at h;exact⟨jr,rk+1,some [],(oB _ (aaP I (ads ‹_› (by decide)) pk rk old)).trans h⟩
theorem jV.dD(J:jV b N c):jV (pC b) N c:=⟨⟨J.base.ok.same rfl (afE _) J.base.ok.ze J.base.ok.zp (afm _),J.base.shape,J.base.marks,J.base.gU,J.base.bN⟩,J.pl,J.mode,J.ne,J.zp,J.sg⟩
theorem jV.gy(J:jV b N c)(hN:N<=100000)(hc:c<=100000)(n:Nat)(k:aN):jb (n+1) b k=qi (jb n) b k:=by
 refine cps λG k=>?_
 refine fN J.nQ λfq u hh=>lU hh λt r0 pre parts T=>?_
 refine cG T.last λst k' hs _=>?_
 refine k ?_;refine(oB _ (KG J.ok (by exact bh (agu ‹_› ‹_›)) hs)).trans ?_
 rw[J.mode]
 kernel_rfl
theorem stepT(K:vO k as sg)(J:jV b N c)(h1:1<=N)(hN:N<=50000)(hc:c<=1000)(hk:(k.kind==S "char")=false):tw b N c k:=by
 obtain⟨b1,e1,I1,⟨pre,mo,parts,p1,p2,p3⟩,ha,aaQ⟩:=aaO J.dD (ads ‹_› (by decide)) (ads ‹_› (by decide))
 have A:Dg (b1.to b1.original) (N+2*c):=⟨I1.ok,I1.marks,I1.gU,I1.bN,ha,by lia,by exact agH h1⟩
 obtain⟨E,s,⟨e,h2,h3,h4⟩,hf,r⟩:=aaF A K.as K.sg (b:=b1.to b1.original) p1 p2 p3 rfl (K.c7 hk);refine dW (Lh e (K.T E h2 h3) r hf) λb' s' e2 r1 F eB=>?_
 refine⟨b',?_,?_,λpk rk old=>?_⟩
 ·rw[Ll,J.dD.gy (ads ‹_› (by decide)) (ads ‹_› (by decide))]
  have:qi (jb 7) (pC b) k=jb 7 (b1.to b1.original) k:=(iT _ _ (by rw[bne,hk];rfl)).trans (oB _ e1)
  exact this▸e2
 ·cases hp:s'.bN with
  |false=>exact .inl ((F.i hp).more (by exact h4▸afm _))
  |true=>
   refine dG (F.t hp) λg1 g2 g3=>?_
   have rg:b'.pending=[sg]:=by rw[r1.pe,hp,h3];rfl
   exact .inr ⟨g2.more (by exact h4▸afm _),g3,g1,by rw[rg];simp,by rw[rg];exact af7 _ _,λx hx=>by rw[rg]at hx;rw[afJ.mp hx];exact K.sg⟩
 ·refine aF (eB pk (rk+1) (some (pC b).pending)) λjr h=>?_
  rw[hk]at h;refine⟨jr,rk+1,some (pC b).pending,?_⟩;exact(iF _ _ hk).trans ((oB _ (aaQ pk rk old)).trans h)
theorem Lm(h:q9 k as):vO k as (S ""):=by
 have hq:d6 k=qS k.name:=by delta d6 qS;rw[h.kind]
 have nc:(k.kind==S "char")=false:=by rw[h.kind];kernel_rfl
 exact⟨λE h1 h2=>⟨⟨λ_=>by rw[h1];exact h.attrs,λz=>(by rw[nc]at z;exact nomatch z)⟩,λ_=>h.flag⟩,h.len,afw _,by exact hq▸eM aai h.name,λ_=>by exact hq▸eM aal h.name⟩
theorem Ln(h:Dk k):vO k [] (S ""):=by
 have hq:d6 k=qE k.name:=by delta d6 qE;rw[h.kind]
 have nc:(k.kind==S "char")=false:=by rw[h.kind];kernel_rfl
 have ns:(k.kind==S "start")=false:=by rw[h.kind];kernel_rfl
 exact⟨λE h1 h2=>⟨⟨λz=>(by rw[ns]at z;exact nomatch z),λz=>(by rw[nc]at z;exact nomatch z)⟩,λz=>(by rw[ns]at z;exact nomatch z)⟩,afw _,afw _,by exact hq▸eM aaj h.name,λ_=>by exact hq▸eM aam h.name⟩
theorem aaR(h:Dl k):vO k [] k.name:=by
 have hq:d6 k=⟨S "char",k.name,fj k.name,false⟩:=by unfold d6;rw[h.kind,aft.mpr h.yM]
 have ic:(k.kind==S "char")=true:=by exact h.kind▸agj _
 have ns:(k.kind==S "start")=false:=by rw[h.kind];kernel_rfl
 refine⟨λE h1 h2=>⟨⟨λz=>(by rw[ns]at z;exact nomatch z),λ_=>⟨h2.symm,h.rest⟩⟩,λz=>(by rw[ns]at z;exact nomatch z)⟩,afw _,h.len,?_,λz=>(by replace z:=ic▸z;cases z)⟩
 rw[hq];exact eM (aak k.name) (by cases fj k.name;exact .tail _ (.head _);exact .head _)
theorem aaS(I:Inv b N c)(h1:1<=N)(hN:N<=50000)(hc:c<=1000)(h:q9 k as):tw b N c k:=
 I.elim (λI=>Dp (Lm h) I h1 (by exact bh hN)) λJ=>stepT (Lm h) J h1 hN hc (by rw[h.kind];kernel_rfl)
theorem aaT(I:Inv b N c)(h1:1<=N)(hN:N<=50000)(hc:c<=1000)(h:Dk k):tw b N c k:=
 I.elim (λI=>Dp (Ln h) I h1 (by exact bh hN)) λJ=>stepT (Ln h) J h1 hN hc (by rw[h.kind];kernel_rfl)
theorem aaU(I:Inv b N c)(h1:1<=N)(hN:N<=50000)(hc:c<=1000)(h:Dl k):tw b N c k:=by
 refine Or.elim I (λI=>?_) λJ=>?_
 ·exact Dp (aaR h) I h1 (by exact bh hN)
 have ic:(k.kind==S "char")=true:=by exact h.kind▸agj _
 have hz:=J.zp;have hl:(b.pending++[k.name]).length=b.pending.length+1:=by rw[afl];rfl
 refine⟨{pC b with pending:=b.pending++[k.name]},?_,.inr ⟨J.dD.base.more (by lia),J.pl,J.mode,by simp,by show(b.pending++[k.name]).length<=_;exact ads (Nat.le_of_eq hl) (afS hz),λx hx=>?_⟩,λpk rk old=>⟨pk,rk,old,?_⟩⟩
 ·rw[Ll,J.dD.gy (ads ‹_› (by decide)) (ads ‹_› (by decide))]
  refine(oB (v:=({pC b with pending:=b.pending++[k.name]}:B)) _ ((iF _ _ (by rw[bne,ic];rfl)).trans ((iF _ _ (aft.mpr h.yM)).trans (if_pos ⟨cU (by show b.pending.length<=_;exact bh (ads hz hc)),h.rest⟩)))).trans ?_
  exact iF _ _ (by rw[h.kind];kernel_rfl)
 ·rcases afu.mp hx with q|q
  ·exact J.sg x q
  ·rw[afJ.mp q];exact h.len
 ·refine fN J.nQ λfq u hh=>lU hh λt r0 pre parts T=>?_
  refine cps λG k=>?_
  refine dG (T.eB pk rk old) λf1 f2 f3=>?_
  refine cG T.last λst k' hs _=>?_
  refine dG (yG J.ok (by exact bh (agu hN hc)) hs pk rk old h.len) λg1 g2 g3=>?_
  have zk:=J.ok.zk _ _ (jT J.ok hs).2.get;have hh:=eM aaM T.pl;refine k ?_;rw[afi,afH,afH]at hh;refine(iT _ _ ic).trans ?_;rw[De (qR J.ok (by exact bh (agu ‹_› ‹_›)) pk rk old J.mI) g1 g2 (cU (by show(gf b).kids.length<=_;exact bh (ads ‹_› (agu ‹_› ‹_›)))),f1,f2]
  refine(iF _ _ ?_).trans ((iF _ _ (agK ?_)).trans ((oB (v:=aB b pk rk old) _ (iF _ _ hh.2)).trans ?_))
  ·rw[hh.1,hh.2];exact Bool.or_eq_false_iff.mpr ⟨aft.mpr (by exact nofun),rfl⟩
  ·rw[f3,afl,afP,T.len,afD];lia
  ·exact if_pos (cU (by show b.pending.length<=_;exact bh (ads ‹_› ‹_›)))
end
theorem tA{P:Nat->Nd->Prop}(h0:P 0 ⟨S "document",S "",S "",[],S "",-1,[1]⟩)(h1:P 1 {gL (S "html") []with bq:=0,kids:=[2,3]})(h2:P 2 {gL (S "head") []with bq:=1})(h3:P 3 {gL (S "body") []with bq:=1}):∀(i:Nat) (x:Nd),b0.aa[i]?=some x->P i x:=by
 intro i x e;rcases i with _|_|_|_|i
 ·apply sE e;exact h0
 ·apply sE e;exact h1
 ·apply sE e;exact h2
 ·apply sE e;exact h3
 ·have:b0.aa[i+4]?=none:=by rw[afK];show 4<=i+4;exact af7 _ _
  rw[this]at e;exact af e
theorem aaV:names b0=[S "html",S "body"]:=rfl
theorem aaW:Inv b0 10 0:=by
 refine .inl ⟨⟨⟨tA ?_ ?_ ?_ ?_,tA ?_ ?_ ?_ ?_,tA ?_ ?_ ?_ ?_⟩,?_,?_,?_,tA ?_ ?_ ?_ ?_,?_,?_,?_,?_,tA ?_ ?_ ?_ ?_,tA ?_ ?_ ?_ ?_⟩,?_,?_,rfl,rfl⟩
 ·intro k hk;have:k=1:=by simpa using hk
  exact⟨1,_,this,by decide,rfl,rfl⟩
 ·intro k hk;have:k=2\/k=3:=by simpa using hk
  rcases this with e|e
  ·exact⟨2,_,e,by decide,rfl,rfl⟩
  ·exact⟨3,_,e,by decide,rfl,rfl⟩
 ·intro k hk;cases hk
 ·intro k hk;cases hk
 ·show[(1:Int)].Nodup;decide
 ·show[(2:Int),3].Nodup;decide
 ·exact List.nodup_nil
 ·exact List.nodup_nil
 ·exact .inl rfl
 ·exact .inr ⟨0,rfl,by decide⟩
 ·exact .inr ⟨1,rfl,by decide⟩
 ·exact .inr ⟨1,rfl,by decide⟩
 ·intro k hk;have:k=1\/k=3:=by
   have h:k∈[(1:Int),3]:=hk;simpa using h
  rcases this with e|e
  ·exact⟨1,_,e,rfl,rfl,rfl⟩
  ·exact⟨3,_,e,rfl,rfl,rfl⟩
 ·show[(1:Int),3].Pairwise (·<·);decide
 ·intro st u t r e ht;exfalso;have e':[(1:Int),3]=st++u::t::r:=e;have hm:t=1\/t=3:=by
   have:t∈[(1:Int),3]:=by rw[e'];simp
   simpa using this
  rcases hm with q|q
  ·rw[q]at ht;have h:aE b0 1=S "html":=rfl;rw[h]at ht;exact absurd (sv ht) (by decide)
  ·rw[q]at ht;have h:aE b0 3=S "body":=rfl;rw[h]at ht;exact absurd (sv ht) (by decide)
 ·intro h;exact absurd h (by decide)
 ·intro _;exact .inl rfl
 ·intro _;exact .inl rfl
 ·intro _;exact .inl rfl
 ·show 4<=10;decide
 ·show 0<=10;decide
 ·show 0<=10;decide
 ·show 2<=10;decide
 ·show 1<=10;decide
 ·show 2<=10;decide
 ·show 0<=10;decide
 ·show 0<=10;decide
 ·show(S "").length<=10;decide
 ·show(S "").length<=10;decide
 ·show(S "").length<=10;decide
 ·show(S "").length<=10;decide
 ·exact aaV▸.gh (.base kR)
 ·kernel_rfl
abbrev Lq:Lf B Unit:=eY .int λ_ b=>jH b
abbrev Lr:Lf B Unit:=eY (λ_=>.bool false) λ_ b=>oN b
abbrev Ls:Lf B (aN×Unit):=eY (λ_=>.bool true) λ_ b=>oN b
abbrev aaX:aX:=aY (H.sub 83 6) "Builder.adjusted" 878 877 [S "self"] []
theorem aaY:ao 878 aaX:=ao.o1
abbrev aaZ:aX:=aY (H.sub 83 7) "Builder.is_foreign" 885 884 [S "self"] []
theorem aa0:ao 885 aaZ:=ao.o1
abbrev aa1:aX:=aY (H.az 84) "is_html_turn" 899 898 [S "builder",S "token"] []
theorem aa2:ao 899 aa1:=ao.o2
abbrev aa3:aX:=aY (H.sub 83 4) "Builder.process" 864 863 [S "self",S "token"] []
theorem aa4:ao 864 aa3:=ao.o2
abbrev aa5:aX:=aY (H.sub 83 5) "Builder.feed" 871 870 [S "self",S "token"] []
theorem Lu:ao 871 aa5:=ao.o2
section
variable{G:AH}
theorem aa6:bk (λb n=>hp b G n) 2 878 (λa=>aV 1::Ps.enc aj a) Lq:=λa b r h Q q n=>run (D:=DB (Int×B) au G 0 false b7 (t0 (Int×B) au)) (d:=1) (z:=b) (tf:=false) (ht:=λe=>nomatch e) (r:=(r,b)) (fin:=yh) (ba cx kh) aaY (h:=Eq.trans (b:=(if ay b.stack.length then some (b.stack.length:Int)else none).bind λc=>if c==1 then(jH b).bind λk=>some (k,b)else(jH b).bind λk=>some (k,b)) (by kernel_rfl) (by
 have h:jH b=some r:=h;rw[if_pos (ig h).1,h];show(if((b.stack.length:Int)==1) then some (r,b)else some (r,b))=_;cases((b.stack.length:Int)==1)<;>rfl)) (q:=λfl m z n e=>bE e λc e1 e2=>by
 cases e2;rw[dO e1];exact q n) (n:=n) (hl:=by kernel_rfl)
def ta(ρ:Type)(c:Tl B ρ):List (Addr×cg B ρ):=(878,aS c 0 2 aj Lq)::[]
theorem aa7{ρ:Type}{c:Tl B ρ}{kp:Bool}{pc:List (Addr×Nat×(List U->Option U))}{tb:List (Addr×cg B ρ)}{r:ρ}{o:Nat}:∀e,e∈ta ρ c->cJ (DB ρ c G o kp pc tb) r e.1 e.2:=aD (bo aa6 rfl) (cw)
theorem aa8:bk (λb n=>hp b G n) 3 885 (λa=>aV 1::Ps.enc aj a) Lr:=λa b r h Q q n=>run (D:=DB (Bool×B) au G 0 false b7 (ta (Bool×B) au)) (d:=2) (z:=b) (tf:=false) (ht:=λe=>nomatch e) (r:=(false,b)) (fin:=lM) (ba cx aa7) aa0 (h:=Eq.trans (b:=(jH b).bind λk=>if k !=-1 then(nd b k).bind λx=>some (x.dT !=S "html",b)else some (k !=-1,b)) (by kernel_rfl) (by
 refine bE h λk h1 h2=>?_
 refine bE h2 λx h3 _=>?_
 rw[h1];show(if k !=-1 then _ else _)=_;rw[if_pos (FV (kH h3)),kH h3,show(some x).bind (λx=>some (x.dT !=S "html",b))=some (x.dT !=S "html",b)from rfl,AM h3])) (q:=λfl m z n e=>bE e λc e1 e2=>by
 cases e2;rw[iw e1];exact q n) (n:=n) (hl:=by kernel_rfl)
def th(ρ:Type)(c:Tl B ρ):List (Addr×cg B ρ):=(885,aS c 0 3 aj Lr)::[]
theorem aa9{ρ:Type}{c:Tl B ρ}{kp:Bool}{pc:List (Addr×Nat×(List U->Option U))}{tb:List (Addr×cg B ρ)}{r:ρ}{o:Nat}:∀e,e∈th ρ c->cJ (DB ρ c G o kp pc tb) r e.1 e.2:=aD (bo aa8 rfl) (cw)
theorem aba:bk (λb n=>hp b G n) 4 899 (λa=>aV 1::Ps.enc (bt aj) a) Ls:=λa b r h Q q n=>run (D:=DB (Bool×B) au G 0 false b7 (th (Bool×B) au)) (d:=3) (z:=b) (tf:=false) (ht:=λe=>nomatch e) (r:=(true,b)) (fin:=lM) (ba cx aa9) aa2 (h:=Eq.trans (b:=(oN b).bind λ_=>some (true,b)) (by kernel_rfl) (by rw[show oN b=some r from h];rfl)) (q:=λfl m z n e=>bE e λc e1 e2=>by
 cases e2;rw[iw e1];exact q n) (n:=n) (hl:=by kernel_rfl)
def tr(ρ:Type)(c:Tl B ρ)(p:b6):List (Addr×cg B ρ):=(469,aS c 0 20 (bt aj) (JF p))::(490,aS c 0 22 (bt aj) (JO p))::(518,aS c 0 25 (bt aj) (JX p))::(546,aS c 0 25 (bt aj) (JY p))::(567,aS c 0 21 (bt aj) (JN p))::(406,aS c 0 22 (bt aj) (sT p))::(420,aS c 0 20 (bt aj) (J4 p))::(921,aS c 0 7 (bt aj) mD)::[]
theorem abb{p:b6}{dp:Nat}(P:du G dp p){ρ:Type}{c:Tl B ρ}{kp:Bool}{pc:List (Addr×Nat×(List U->Option U))}{tb:List (Addr×cg B ρ)}{r:ρ}:∀e,e∈tr ρ c p->cJ (DB ρ c G dp kp pc tb) r e.1 e.2:=aD (eQ (o:=dp) (Yk P) (afm _) rfl) (aD (eQ (o:=dp) (YC P) (afm _) rfl) (aD (eQ (o:=dp) (YV P) (afm _) rfl) (aD (eQ (o:=dp) (YW P) (afm _) rfl) (aD (eQ (o:=dp) (Yx P) (afm _) rfl) (aD (eQ (o:=dp) (JP P) (afm _) rfl) (aD (eQ (o:=dp) (Y6 P) (afm _) rfl) (aD (bo Ct rfl) cw)))))))
end
abbrev Lv(p:b6):Lf B (Str×aN×Unit):=cj λa b=>qj p a.1 b a.2.1
section
variable{G:AH}{p:b6}{dp:Nat}
theorem pD(P:du G dp p){s md:Str}(m:aN->B->Option B){t:aN}{b r:B}(e:∀t z,(ms (DB B aW G dp false b7 (tr B aW p)) 60).L 25 vp.cq (vp.names.zip ([aV 1,.str s,bT t]++vp.dx)).reverse vp.body z true jk=m t z)(c:(md==s)=true)(h:m t b=some r){Q:U->AH->Prop}(q:∀n',Q .none (hp r G n'))(n:Nat):aU (dp+26) (.ref 857) [aV 1,.str md,bT t] (hp b G n) Q:=
 afr.mp c▸runN (α:=aN) (args:=λt=>[aV 1,.str s,bT t]) (d:=25) (λ_=>ba cx (abb P)) yB e rfl (λ_=>rfl) t b r h Q q n
theorem abc(P:du G dp p):bk (λb n=>hp b G n) (dp+26) 857 (λa=>aV 1::Ps.enc (bA (bt aj)) a) (Lv p):=λa b r h Q q n=>by
 have h:qj p a.1 b a.2.1=some r:=h;unfold qj at h;exact iE h (λc h=>pD P (λt b=>Ar p b t) (λ_ _=>by kernel_rfl) c h q n) λ_ h=>iE h (λc h=>pD P (λt b=>Au p b t) (λ_ _=>by kernel_rfl) c h q n) λ_ h=>iE h (λc h=>pD P (λt b=>Av p b t) (λ_ _=>by kernel_rfl) c h q n) λ_ h=>iE h (λc h=>pD P (λt b=>Aw p b t) (λ_ _=>by kernel_rfl) c h q n) λ_ h=>iE h (λc h=>pD P (λt b=>Ay p b t) (λ_ _=>by kernel_rfl) c h q n) λ_ h=>iE h (λc h=>pD P (λt b=>nj p b t) (λ_ _=>by kernel_rfl) c h q n) λ_ h=>iE h (λc h=>pD P (λt b=>qi p b t) (λ_ _=>by kernel_rfl) c h q n) λ_ h=>iE h (λc h=>pD P (λt b=>lA b t) (λ_ _=>by kernel_rfl) c h q n) λ_ h=>af h
end
def tp(ρ:Type)(c:Tl B ρ)(p:b6):List (Addr×cg B ρ):=(899,aS c 0 4 (bt aj) Ls)::(857,aS c 0 26 (bA (bt aj)) (Lv p))::[]
section
variable{G:AH}
theorem abd{p:b6}{dp:Nat}(P:du G dp p){ρ:Type}{c:Tl B ρ}{kp:Bool}{pc:List (Addr×Nat×(List U->Option U))}{tb:List (Addr×cg B ρ)}{r:ρ}:∀e,e∈tp ρ c p->cJ (DB ρ c G dp kp pc tb) r e.1 e.2:=aD (bo aba rfl) (aD (eQ (o:=dp) (abc P) (afm _) rfl) cw)
abbrev abe(p:b6):Lf B (aN×Unit):=cj λa b=>(oN b).bind λ_=>qj p b.mode b a.1
theorem abf{p:b6}{dp:Nat}(P:du G dp p):bk (λb n=>hp b G n) (dp+27) 864 (λa=>aV 1::Ps.enc (bt aj) a) (abe p):=runN (D:=DB B aW G dp false b7 (tp B aW p)) (d:=26) (λ_=>ba cx (abd P)) (aa4)
theorem abg(k:Nat):du G (27*k) (jb k):=by
 induction k with
 |zero=>exact λb t b' n Q h q=>nomatch h
 |succ k ih=>exact λb t b' n Q h q=>abf ih (t,()) b b' h Q q n
def tf(ρ:Type)(c:Tl B ρ)(p:b6):List (Addr×cg B ρ):=(864,aS c 0 0 (bt aj) (yC p))::(843,aS c 0 1 (bA aj) yi)::[]
theorem Lw{p:b6}{dp:Nat}(P:du G dp p){ρ:Type}{c:Tl B ρ}{kp:Bool}{pc:List (Addr×Nat×(List U->Option U))}{tb:List (Addr×cg B ρ)}{r:ρ}:∀e,e∈tf ρ c p->cJ (DB ρ c G dp kp pc tb) r e.1 e.2:=aD (eQ (o:=dp) (Cw P) (afm _) rfl) (aD (bo B4 rfl) cw)
theorem abh{b b':B}{n:Nat}{Q:U->AH->Prop}{t:aN}(ht:(∃x f tl,t.rest=x::.bool f::tl)\/t.rest=[])(h:ql b t=some b')(q:∀n,Q .none (hp b' G n)):aU 250 (.ref 871) [.ae .bC,bT t] (hp b G n) Q:=by
 have P:=abg (G:=G) 8;obtain⟨k,nm,r⟩:=t;rcases ht with⟨x,f,tl,e⟩|e
 ·replace e:r=x::.bool f::tl:=e
  subst e;exact Call.gb (d:=27*8+2) (by decide) (runN (D:=DB B aW G (27*8) false b7 (tf B aW (jb 8))) (α:=Str×Str×U×Bool×List U) (args:=λa=>[aV 1,.aG (.str a.1::.str a.2.1::a.2.2.1::.bool a.2.2.2.1::a.2.2.2.2)]) (m:=λa b=>ql b ⟨a.1,a.2.1,a.2.2.1::.bool a.2.2.2.1::a.2.2.2.2⟩) (d:=1) (λ_=>ba cx (Lw P)) Lu (λa z=>by kernel_rfl) rfl (λ_=>by kernel_rfl) (k,nm,x,f,tl) b b' h Q q n)
 ·replace e:r=[]:=e
  subst e;exact Call.gb (d:=27*8+2) (by decide) (runN (D:=DB B aW G (27*8) false b7 (tf B aW (jb 8))) (α:=Str×Str) (args:=λa=>[aV 1,.aG [.str a.1,.str a.2]]) (m:=λa b=>ql b ⟨a.1,a.2,[]⟩) (d:=1) (λ_=>ba cx (Lw P)) Lu (λa z=>by kernel_rfl) rfl (λ_=>by kernel_rfl) (k,nm) b b' h Q q n)
end
set_option tactic.hygienic true
section
variable{d:Nat}{f:aP}{m:Lo}{H:AH}{X:AH}
def nX(d:Nat)(g:Value)(args:List U)(H:AH)(Q:U->AH->Prop):Prop:=
 ∀(A:Around) (ρ:aC) (s:Shared) (vs:List Value) (Qc:Value->Shared->Prop) (E:Value->Shared->Prop),eS A d->bj ρ H s.heap->aZ s.heap ρ args vs->gm ρ s Q Qc->
  codeAny (model bX wX) A (.call g ⟨vs,[]⟩) (λr s'=>match r with|.ok (.ret v)=>Qc v s'|.ok _=>False|.error e=>E e s') s
theorem pF.def{names:List Str}(fz:Lo)
  (ho:kX.lookup fa=some ⟨oc,od,.func (fnOf name qual params body scope dV kV doc pm an dS ct),zU⟩)(mR:codeIn kX dS qual=true)
  (hbind:∀(S:Setting) (vs:List Value),vs.length=args.length->peek kX S (bindArgs (fnOf name qual params body scope dV kV doc pm an dS ct) ⟨vs,[]⟩)=some (names.zip (vs++dv)))
  (iI:∀(h:Heap) (ρ:aC),bj ρ H h->aZ h ρ dx dv)
  (hloc:∀x∈names,eh scope.names x .local)
  (ie:fz=(names.zip (args++dx)).reverse)
  (h:bG d (.fn qual scope fa dS []) fz H body (λfl _ H'=>∃bg,AH.Le H' bg/\Q fl.val bg))
  (hs:oz scope=true:=by kernel_rfl):nX (d+1) (.ref fa) args H Q:=
 fb (EW hs) λmS mT hk jB=>
 λA ρ s vs Qc E room R rv p=>by
  subst ie;have KX:=R.lq;refine aO (ub room (envOf qual scope s.heap.objs.size fa dS)) λmU lu=>?_
  have rb:=bW.zip names (rv.append (iI _ _ R));refine codeAny_call_def (fd:=fnOf name qual params body scope dV kV doc pm an dS ct) (body:=body) (binds:=names.zip (vs++dv)) mU (KX _ _ ho) rfl (R.bs.mO.keeps R.base) (codeRec_of KX mR) rfl
   (kp_binds KX λS=>hbind S vs rv.length.symm) jB (λy hy=>?_) (λcM d7 i6=>?_) mS mT hk
  ·refine aO (List.of_mem_zip hy) λa b=>?_
   exact(hloc y.1 a).eq
  ·have aR:=d7.lt;have S:Step ρ s.heap ρ cM:=⟨λ_ _ e=>e,λ_ _ e=>.inl e,λa o e _ _=>i6 a o e,λa o e=>⟨o,i6 a o e⟩⟩
   have fA:bj ρ H cM:=⟨R.bs,λl o e=>ah (R.obj l o e) λa e1 q=>⟨a,e1,q.step S .none λob z=>i6 a ob z⟩,R.low,λl a e=>aF (R.live l a e) λo z=>⟨o,i6 a o z⟩,R.inj,R.new,λb o e=>i6 b o (R.base b o e),let⟨b,o',q,z⟩:=R.top;⟨b,o',q,i6 b o' z⟩⟩
   have fZ:St ρ H (cm:=[]) ⟨s.heap.objs.size,[]⟩ (names.zip (args++dx)).reverse cM:=⟨fA,⟨_,⟨d7,fA.base,let⟨b,o',q,z⟩:=R.top;ads q (af8 z)⟩,(bW.reverse (bW.zip names ((rv.append (iI _ _ R)).step S .none))).EV⟩,R.lg,λ_ _ e=>nomatch e⟩
   refine h _ ρ ⟨s.heap.objs.size,[]⟩ _ _ _ lu fZ λfl v ag m' H' s' q X' S' z' r'=>?_
   have SS:Step ρ s.heap ag s'.heap:=((bO.weak S).trans S').fresh (ku _)
   induction r' with
   |next=>refine ah q λbg le q=>?_;exact p _ _ ag bg s' q (X'.bR.le le) SS ⟨z'.gens,z'.os⟩ .none
   |brk=>refine ah q λbg le q=>?_;exact p _ _ ag bg s' q (X'.bR.le le) SS ⟨z'.gens,z'.os⟩ .none
   |cont=>refine ah q λbg le q=>?_;exact p _ _ ag bg s' q (X'.bR.le le) SS ⟨z'.gens,z'.os⟩ .none
   |ret r=>refine ah q λbg le q=>?_;exact p _ _ ag bg s' q (X'.bR.le le) SS ⟨z'.gens,z'.os⟩ r
end
section
variable{d:Nat}{X:AH}
theorem pF.fn{st:Stmt}{names:List Str}{Q:U->AH->Prop}(fz:Lo)
  (ho:kX.lookup fa=some (H.fn st q df md (.ref ca)))(hc:kX.lookup ca=some ⟨.type "code",none,.fields vs,#[]⟩)(hv:vs.toList=a::.str (S q) tk::rs)(hi:nk st=true)
  (hbind:∀(S:Setting) (vs:List Value),vs.length=args.length->peek kX S (bindArgs (H.k8 st q 3 df md (.ref ca)) ⟨vs,[]⟩)=some (names.zip (vs++dv)))
  (iI:∀(h:Heap) (ρ:aC),bj ρ X h->aZ h ρ dx dv)
  (eb:cO st=body)(es:fC st=scope)
  (hloc:∀x∈names,eh scope.names x .local)
  (ie:fz=(names.zip (args++dx)).reverse)
  (h:bG d (.fn (S q) scope fa (.ref ca) []) fz X body (λfl _ H'=>∃bg,AH.Le H' bg/\Q fl.val bg))
  (hs:oz scope=true:=by kernel_rfl):nX (d+1) (.ref fa) args X Q:=by
 subst eb es;have e:=FI (q:=q) (df:=df) (md:=md) (cd:=.ref ca) hi;refine pF.def fz (ho.trans (afp some (afp (λz=>Obj.mk (.type "function") none (.func z) #[]) e))) (uc hc hv) (λS vs hv=>?_) iI hloc ie h hs
 exact e▸hbind S vs hv
end
section
variable{d:Nat}{f:aP}{m:Lo}{H:AH}
theorem Call.new{l dl:Loc}(hm:makesIn kX C=true)(hi:findIn kX (.ref C) "__init__"=some (some (.ref fI)))(hf:typeIn kX (.ref fI)=some (.type "function"))
  (rh:H.new dl)(hl:(H.add dl (.dict [])).new l)
  (h:nX d (.ref fI) (.ae l::args) ((H.add dl (.dict [])).add l (.inst C dl)) λv H'=>v=.none/\Q (.ae l) H'):aU (d+1) (.ref C) args H Q:=
 λA ρ s vs Qc E room R rv p=>by
  obtain⟨hh,g,dr,t,os⟩:=s;refine wpAny_call ?_;have KX:kX.In hh:=R.lq;refine make_core (makes_of KX hm) (looks_findIn KX hi) (λself=>bind_fn KX self hf) (.inl rfl) ?_
  have lu:eS (A.under (.builtin "type.__call__" ⟨.ref C::vs,[]⟩)) d:=by
   obtain⟨a,b,c⟩:=room;refine⟨a,?_,?_⟩
   ·show A.depth+1+d<=1000;lia
   ·have:(A.under (.builtin "type.__call__" ⟨.ref C::vs,[]⟩)).units<=A.units+10:=by
     show A.units+_<=A.units+10;exact agv (afo rfl) _
    lia
  obtain⟨fA,p8⟩:=R.alloc (l:=dl) (o:=.dict []) (ob:=emptyDict) rh rfl λag _ e=>⟨[],0,e,.nil⟩
  obtain⟨cL,bF⟩:=fA.alloc (l:=l) (o:=.inst C dl) (ob:=instObj C hh.objs.size) hl rfl λag S e=>⟨hh.objs.size,S.ext _ _ (aC.bP ..),e⟩
  have S:=p8.trans bF;have ea:((ρ.add dl hh.objs.size).add l (hh.push emptyDict).objs.size) l=some (hh.objs.size+1):=by rw[aC.bP,Heap.size_push]
  have c:=h (A.under (.builtin "type.__call__" ⟨.ref C::vs,[]⟩)) _ ⟨(hh.push emptyDict).push (instObj C hh.objs.size),g,dr,t,os⟩ (.ref (hh.objs.size+1)::vs) (λv s'=>v=.none/\Qc (.ref (hh.objs.size+1)) s') E lu cL (.cons (.ae ea) (rv.step S .none)) λy v ag H' s' q R' S' z' r'=>?_
  ·refine codeAny_mono c λr s' z=>?_
   rcases r with e|(v|_|_|_)<;>exact z
  ·obtain⟨rfl,q⟩:=q;refine r'.k ?_;exact⟨rfl,p _ _ ag H' s' q R' (S.trans S') ⟨z'.gens,z'.os⟩ (.ae (S'.ext _ _ ea))⟩
theorem Ev.abi(l:Loc)(h3:∃o,kX.lookup 3=some o)(hn:H.new l)(q:Q (.ae l) (H.add l (.map []))):aQ d f m H (.Dict [] [] pos) Q:=
 λA ρ L s Qc E room X p=>by
  have R:=X.bR;have xh:(s.heap.objs.size==sysModules)=false:=by
   refine aF h3 λo e=>?_
   have:=af8 (R.base _ _ (R.bs.X _ _ e));exact aft.mpr λe=>by
    replace this:=e▸this
    exact absurd this (by decide)
  refine aO (R.alloc (o:=.map []) hn (ob:={cls:=.type "dict",data:=.dict #[]}) rfl λag S' e=>⟨[],Heap.DictOf.new s.heap,.nil,xh⟩) λR' S'=>?_
  refine wpAny_Dict_empty ?_;exact p (.ae l) _ _ _ {s with heap:=s.heap.push {cls:=.type "dict",data:=.dict #[]}} q R' S' ⟨rfl,rfl⟩ (.ae (aC.bP ..))
theorem abj{id:Str}(h:(id !="super")=true):attributeBase (.Call (.Name id np) [] [] cp) fP env whole=whole:=by
 unfold attributeBase;dsimp only;rw[h,Bool.true_or,Bool.true_or,Bool.true_or,if_pos rfl]
theorem bW.abk(r:bW h ρ es kvs):∀(i:Nat) (k:Str) (v:Value),es[i]?=some (k,.val v)->kvs[i]?=some (k,v):=
 λi k v=>bW.rec (motive:=λes kvs _=>∀i,es[i]?=some (k,.val v)->kvs[i]?=some (k,v)) (λ_ e=>af e) (λ{k'} {x} {v'} _ _ a _ q i=>Nat.casesOn i (λe=>by
  have e':=ack e;have e1:k'=k:=afp Prod.fst e';have e2:x=.val v:=afp Prod.snd e';subst e1;subst e2;rw[a.Oj];rfl) λi=>q i) r i
inductive JI{cm:List (Str×Loc)}(L:gj cm)(it a:Addr)(bp:aC)(s₁:Shared)(kvs:List (Str×Value))(ep:Nat)(n:Nat)(I:Nat->Lo->AH->Prop):Nat->Shared->Prop
 |mk {i:Nat} {ρ:aC} {m:Lo} {H:AH} {s:Shared} {ok ov:Value} (hi:i<=n) (hI:I i m H) (Y:l6 L it bp s₁ ρ H m s) (g:IsItemIter s.heap it a i kvs.length ep ok ov) (at_:s.heap.DictAt (strKind bX wX) a kvs ep) (fa:∀l,ρ l≠some a):JI L it a bp s₁ kvs ep n I (n-i) s
theorem Ex.abl{xk xv:Str}(uX:eh f.cs.names xk .local)(hxv:eh f.cs.names xv .local)(hkf:f.cs.kind=.function)
  (l:Loc)(es:List (Str×U))(hn:H.new l)
  (h:aQ d f m H (.Call (.Name fx fp) [] [] cp) λv H₁=>v=.ae l/\H₁=H.add l (.map es))
  (no:∀y∈es,∃v,y.2=.val v)(I:Nat->Lo->AH->Prop)(start:I 0 m H)
  (turn:∀i y m' H',I i m' H'->es[i]?=some y->bG d f ((xv,y.2)::(xk,.str y.1)::m') H' body λfl fw bH=>match fl with
    |.next|.cont=>I (i+1) fw bH
    |.brk=>Q .next fw bH
    |.ret v=>Q (.ret v) fw bH)
  (done:∀m' H',I es.length m' H'->bG d f m' H' [] Q)
  (abm:(fx !="super")=true)(abn:(ib.endLine==abo.line)=true):
  dh d f m H (.For (.Tuple [.Name xk pk,.Name xv pvv] x1 pt) (.Call (.Attribute (.Call (.Name fx fp) [] [] cp) "items" ib) [] [] abo) body [] pos) Q:=
 λA ρ L s Qc E room X p=>wpAny_For (wpAny_Call_method (T:="dict") (id:="dict.items") (abj abm) rfl abn agW PySem.F.slot_dict_items PySem.F.type_dict_items (h A ρ L s _ E room X λv u bp H₁ s₁ q R S z r=>by
  refine aO q λjd bb=>?_;subst jd;subst bb
  refine gD (R.map (AH.bP ..) r) λa kvs aM ea hd rp d7=>?_;subst aM
  have n0:ρ l=none:=X.bR.new l hn;refine⟨hd.typeIs,hd.mapOf.noDict,?_⟩;refine aF hd.dictAt λep qF=>?_
  have Rd:=bj.cB X.bR n0 R;have Sd:Step ρ s.heap (bp.cB l) s₁.heap:=bO.cB S n0;have fa:∀k,bp.cB l k≠some a:=λk e=>by
   refine aO (aC.nr e) λe' ne=>?_
   exact ne (R.inj k l a e' ea)
  have aL:a≠L.L:=λe=>(X.bY R S).free l (by rw[ea,e])
  generalize hρ:bp.cB l=y4 at Rd Sd fa;have fZ:=X.bY Rd Sd;have le:=rp.length;refine method_meetsIn PySem.F.slot_dict_items PySem.F.entry_dict_items rfl (PySem.evalArgs_none ⟨rfl,hd.typeIs,PySem.F.args_dict_items_1 _,_,meets_dict_items (strKind bX wX) a d7,⟨kvs,hd⟩,?_⟩);refine wpAny_pyIter_items (knd:=strKind bX wX) (d:=a) (kvs:=kvs) (ep:=ep) ⟨_,afW _ rfl,rfl,rfl⟩ (qF.push _) ?_;dsimp only;have ny:(s₁.heap.push {cls:=.type "dict_items",data:=.fields #[.ref a]}).objs.size=s₁.heap.objs.size+1:=Heap.size_push ..;have abp:∀b,s₁.heap.objs.size<=b->s₁.heap.get? b=none:=λb hb=>by
   cases q:s₁.heap.get? b with
   |none=>rfl
   |some o=>exact absurd (af8 q) (ahg.mpr hb)
  have lD:s₁.heap.get? (s₁.heap.objs.size+1)=none:=abp _ (agc _);have oU:hX.get? (s₁.heap.objs.size+1)=none:=by
   cases q:hX.get? (s₁.heap.objs.size+1)with
   |none=>rfl
   |some o=>have:=R.base _ _ q;rw[lD]at this;exact af this
  have Lx:a<s₁.heap.objs.size:=qF.lt_size;have Dq:((s₁.heap.push {cls:=.type "dict_items",data:=.fields #[.ref a]}).push {cls:=.type "dict_itemiterator",data:=.fields #[.none,.bool false,.ref a,.int 0 0,.int kvs.length 0,.int ep 0,.none,.none]}).get? (s₁.heap.objs.size+1)=some {cls:=.type "dict_itemiterator",data:=.fields #[.none,.bool false,.ref a,.int 0 0,.int kvs.length 0,.int ep 0,.none,.none]}:=by
   have:=afW (h:=s₁.heap.push {cls:=.type "dict_items",data:=.fields #[.ref a]}) (o:={cls:=.type "dict_itemiterator",data:=.fields #[.none,.bool false,.ref a,.int 0 0,.int kvs.length 0,.int ep 0,.none,.none]}) rfl
   rwa [ny]at this
  have k2:∀b o,s₁.heap.get? b=some o->((s₁.heap.push {cls:=.type "dict_items",data:=.fields #[.ref a]}).push {cls:=.type "dict_itemiterator",data:=.fields #[.none,.bool false,.ref a,.int 0 0,.int kvs.length 0,.int ep 0,.none,.none]}).get? b=some o:=λb o e=>afy _ (afy _ e)
  rw[ny];have ai:a≠s₁.heap.objs.size+1:=λe=>by rw[e]at Lx;exact absurd Lx (ahg.mpr (agc _))
  generalize hh2:(s₁.heap.push {cls:=.type "dict_items",data:=.fields #[.ref a]}).push {cls:=.type "dict_itemiterator",data:=.fields #[.none,.bool false,.ref a,.int 0 0,.int kvs.length 0,.int ep 0,.none,.none]}=h2 at Dq k2;clear ny hh2;generalize wD:s₁.heap.objs.size+1=it at lD oU Dq ai;have hL:it≠L.L:=by
   refine ah fZ.fr λm' F M=>?_
   intro e;rw[e]at lD;refine i3 F.ns λo es ep e2 _=>?_
   rw[lD]at e2;exact af e2
  have fi:∀k,y4 k≠some it:=λk e=>by
   refine aF (Rd.live k _ e) λo z=>?_
   rw[lD]at z;exact af z
  have K:rQ L.L it s₁.heap:=⟨lD,oU,hL⟩;refine codeAny_forLoop_any (JI L it a y4 s₁ kvs ep es.length I) (λn bw hJ=>?_) es.length (.mk (afw _) start ⟨fZ.bY (Rd.keeps k2) (Step.keeps k2),.weak (Step.keeps k2),⟨rfl,rfl⟩,fi⟩ Dq (qF.at λo e=>k2 _ o e) fa)
  induction hJ with|mk hi i2 Y tC y5 y6=>
  rename_i i de fw bH bw ok ov;have en:∀xs n,(Data.fields #[Value.none,.bool false,.ref a,.int i 0,.int kvs.length 0,.int ep 0,ok,ov])≠.seq xs n:=λxs n z=>by cases z
  by_cases aR:i<es.length
  ·refine aF (no es[i] (agR aR)) λv0 ev=>?_
   have ei:es[i]?=some (es[i].1,.val v0):=by rw[afq aR,<-ev]
   have hx:=rp.abk _ _ _ ei;refine wpAny_pyNext_items_item tC y5 hx λkey cM abq heo abr afg i6=>?_
   refine aF (Value.isStrOf_shape abq) λt bb=>?_;subst bb
   refine wpAny_letOwnedTupleGo_items heo λrM Ly y7=>?_
   replace y7:Heap.SameBut it cM rM:=y7
   have eb:Heap.ExtBut it bw.heap rM:=λb o hb e=>y7.extBut b o hb (i6 b o hb e)
   refine aO (Y.next K (tk:=bw.toks) tC en eb Ly) λY' S'=>?_
   have hiH:it<bw.heap.objs.size:=af8 tC;have abt:rM.IsTuple bw.heap.objs.size #[.str es[i].1 t,v0]:=⟨_,(y7.2 _ (Nat.ne_of_gt hiH)).trans abr,rfl,_,rfl⟩;refine wpAny_assign_Tuple room.1 abt rfl rfl λoS abu=>?_
   have kk:∀b o,rM.get? b=some o->oS.get? b=some o:=λb o e=>abu b o (λq=>by rw[q,ku]at e;exact af e) e
   have X3:=Y'.X.bY (Y'.X.bR.keeps kk) (Step.keeps kk);refine Fh (s:={bw with heap:=oS}) (ns:=[xk,xv]) (xs:=[.str es[i].1,.val v0]) hkf rfl (λy hy=>by
    cases hy with
    |head=>exact uX
    |tail _ hy=>cases hy with
     |head=>exact hxv
     |tail _ hy=>cases hy) rfl X3 (.cons (.str _ t) (.cons (.val v0) .nil)) λdK i4 dZ fO=>?_
   have abv:bO (some L.L) y4 s₁.heap de dK.heap:=(Y'.S.trans (.weak (Step.keeps kk))).trans dZ;have zz:dH s₁ dK:=⟨fO.gens.trans Y.z.gens,fO.os.trans Y.z.os⟩;refine turn i (es[i].1,.val v0) fw bH i2 ei A de L dK _ _ room i4 λfl Ph jC qb mY lx ly oD kz uj z9=>?_
   have Dr:=dZ.keep it _ (kk _ _ Ly) Y.fr (λq=>hL (ack q).symm)
   have Lz:=kz.keep it _ Dr Y.fr (λq=>hL (ack q).symm)
   have LA:lx.heap.DictAt (strKind bX wX) a kvs ep:=y5.at λo e=>kz.keep a _ (dZ.keep a _ (kk _ _ (eb a o ai e)) y6 (λq=>aL (ack q).symm)) y6 (λq=>aL (ack q).symm)
   have LB:∀l,jC l≠some a:=by
    obtain⟨o,e⟩:∃o,bw.heap.get? a=some o:=cG y5 λo _ e _=>⟨o,e⟩
    exact kz.free y6 (dZ.keep a _ (kk _ _ (eb a o ai e)) y6 (λq=>aL (ack q).symm))
   have Ds:=abv.trans kz;have Dt:=zz.trans uj;have SS:=(bO.weak Sd).trans Ds;have zs:=z.trans Dt
   induction z9 with
   |next=>exact⟨_,agD aR (afY _),.mk aR ly ⟨oD,Ds,Dt,kz.free Y.fr Dr⟩ Lz LA LB⟩
   |cont=>exact⟨_,agD aR (afY _),.mk aR ly ⟨oD,Ds,Dt,kz.free Y.fr Dr⟩ Lz LA LB⟩
   |brk=>exact p _ _ jC qb mY lx ly oD SS zs .next
   |ret rr=>exact p _ _ jC qb mY lx ly oD SS zs (.ret rr)
  ·have:i=es.length:=by exact Nat.le_antisymm hi (af0 aR)
   subst this;refine wpAny_pyNext_items_end room.1 tC y5 (afK (Nat.le_of_eq le.symm)) λh' eb=>?_
   have X':St de bH L fw h':=Y.X.ou hL (Y.X.bR.last tC en Y.fr oU eb (Rd.z8 Y.S lD)) (gY.tX eb) (DictAt.of tC en);have T':bO (some L.L) y4 s₁.heap de h':=Y.S.last lD eb;refine done fw bH i2 A de L {bw with heap:=h'} _ _ room X' ?_
   exact p.after (s':={bw with heap:=h'}) ((bO.weak Sd).trans T') (z.trans ⟨Y.z.gens,Y.z.os⟩))) (λ_=>rfl)
end
set_option tactic.hygienic false
noncomputable def Du:Loc->Nat
 |.bV n|.bz n|.bN n|.path n|.run n|.aK n=>n
 |_=>0
noncomputable def abw:List (Nat->Loc):=[.bC,.cD,.tree,.dg,.dY,.eR,.names,.attrs,.eg,.dJ,.eF,.lW,.stack,.gF,.items,.ft,.gH,.iC,.pU,.owners,.aH,.eG,.state,.hZ,.tokens].map (λl _=>l)++[.bV,.bz,.bN,.path,.run,.aK]
theorem LC(l:Loc):(abw.getD l.ctorIdx .bV) (Du l)=l:=by induction l<;>rfl
noncomputable def lEq (a b:Loc):Bool:=Nat.beq a.ctorIdx b.ctorIdx&&Nat.beq (Du a) (Du b)
theorem abx{a b:Loc}(h:lEq a b=true):a=b:=by
 refine aO ((afi _ _).mp h) λh1 h2=>?_
 rw[<-LC a,<-LC b,afB h1,afB h2]
theorem aby(a:Loc):lEq a a=true:=(afi _ _).mpr ⟨agl _,agl _⟩
noncomputable def cZ:List (Loc×b8)->Loc->Option b8
 |[],_=>none
 |p::r,l=>if lEq l p.1 then some p.2 else cZ r l
noncomputable def LH (xs:List (Loc×b8)):AH:=⟨cZ xs,λl=>cZ xs l=none⟩
theorem tD(h:l≠k):cZ ((k,o)::xs) l=cZ xs l:=if_neg λe=>h (abx e)
theorem vP:cZ ((k,o)::xs) k=some o:=if_pos (aby k)
theorem jW:(LH xs).add l o=LH ((l,o)::xs):=by
 refine AH.wU vP (λk h=>tD h) λk=>?_
 by_cases q:k=l
 ·subst q;constructor
  ·intro h;have h':cZ ((k,o)::xs) k=none:=h;rw[vP]at h';exact nomatch h'
  ·intro h;exact absurd rfl h.2
 ·constructor
  ·intro h;have h':cZ ((l,o)::xs) k=none:=h;rw[tD q]at h';exact⟨h',q⟩
  ·intro h;show cZ ((l,o)::xs) k=none;rw[tD q];exact h.1
theorem y8(e:cZ xs l=some o'):(LH xs).set l o=LH ((l,o)::xs):=by
 refine AH.eJ vP (λk h=>tD h) λk=>?_
 show cZ ((l,o)::xs) k=none↔cZ xs k=none;by_cases q:k=l
 ·subst q;rw[vP,e];exact⟨λh=>by(exact nomatch h),λh=>by(exact nomatch h)⟩
 ·rw[tD q]
theorem Dv:∀{xs:List (Loc×b8)},cZ xs l=some o->(l,o)∈xs
 |(k,y)::r,h=>by
  by_cases q:l=k
  ·subst q;rw[vP]at h;cases h;exact agf ..
  ·rw[tD q]at h;exact af3 _ (Dv h)
theorem LD(h1:ys.map (λp=>cZ xs p.1)=ys.map λp=>some p.2)(h2:(xs.all λp=>(cZ ys p.1).isSome)=true):AH.Le (LH xs) (LH ys):=
 ⟨λl o e=>List.map_inj_left.mp h1 _ (Dv e),λl e=>by
  show cZ xs l=none;cases q:cZ xs l with
  |none=>rfl
  |some o=>exact nomatch (e:cZ ys l=none)▸afn.mp h2 _ (Dv q)⟩
theorem pF.of{st:Stmt}
  (ho:ko fa=fnX fa ca st q)
  (hbind:∀(S:Setting) (vs:List Value),vs.length=km.length-dx.length->peek kX S (bindArgs (H.k8 st q 3 (sL (ko fa) (·.defaults)) (sL (ko fa) (·.pyModule)) (.ref ca)) ⟨vs,[]⟩)=some (km.zip (vs++dv)))
  (hc:ko ca=some (H.co (qI (ko ca))))
  (hb:(xU (qI (ko ca)) (S q)&&(nk st&&(oz (fC st)&&km.all λx=>(fC st).names.lookup x==some .local)))=true)
  {body:List Stmt}(iI:∀(h:Heap) (ρ:aC),bj ρ X h->aZ h ρ dx dv)(hl:Nat.beq (xs.length+dx.length) km.length=true)(hm:(km.zip (xs++dx)).reverse=m)(hs:cO st=body)
  (h:bG d (aY st q fa ca km dx).cq m X body (λfl _ H'=>∃bg,AH.Le H' bg/\Q fl.val bg)):nX (d+1) (.ref fa) xs X Q:=by
 rw[afi,afi,afi]at hb;refine kq (HL hb.1) λa tk rs e=>?_
 refine pF.fn m (ho:=ho) (hc:=hc) (hv:=(List.toList_toArray).trans e) (hi:=hb.2.1) (hbind:=λS vs e=>hbind S vs (e▸Nat.eq_sub_of_add_eq (afB hl))) (iI:=iI) (eb:=hs) (es:=rfl) (hloc:=λx hx=>.of (eq_of_beq (afn.mp hb.2.2.2 x hx))) (ie:=hm.symm) (h:=h) (hs:=hb.2.2.1)
section
variable{d:Nat}{f:aP}{m:Lo}{xs xs':List (Loc×b8)}{l dl k:Loc}{C:Addr}{es:List (Str×U)}{a x:Str}{v:U}{e:Expr}{px pa pp pc ps:Pos}{ss:List Stmt}{Q:Fl->Lo->AH->Prop}
theorem I.list{Q:U->AH->Prop}(hn:cZ xs l=none)(q:Q (.ae l) (LH ((l,.list [])::xs))):aQ d f m (LH xs) (.List [] pos) Q:=
 Ev.j0 l (aI.nil ⟨afw _,hn,jW▸q⟩)
theorem I.dict{Q:U->AH->Prop}(hn:cZ xs l=none)(q:Q (.ae l) (LH ((l,.map [])::xs))):aQ d f m (LH xs) (.Dict [] [] pos) Q:=
 Ev.abi l qx hn (jW▸q)
theorem I.s(SA:gJ C a)(hx:o4 d f m (.Name x px)=some (.ae l))(h:aQ d f m (LH xs) e λy H'=>y=v/\H'=LH xs')(hc:jZ e=true)(e1:cZ xs' l=some (.inst C dl))(e2:cZ xs' dl=some (.dict es))(hz:Nat.ble es.length 1000=true)
  (q:bG d f m (LH ((dl,.dict (fR es a v))::xs')) ss Q):bG d f m (LH xs) (.Assign [.Attribute (.Name x px) a pa] e pp::ss) Q:=
 Ex.cons (Ex.zN (h.c9 λy H' z=>by
  obtain⟨rfl,rfl⟩:=z;exact aJ hx (Op.setAttr SA e1 e2 (afo hz) (y8 e2▸q))) hc)
theorem I.p(F:fy C a)(hx:o4 d f m (.Name x px)=some (.ae l))(e1:cZ xs l=some (.inst C dl))(e2:cZ xs dl=some (.dict es))(e3:es.lookup a=some (.ae k))(e4:cZ xs k=some (.list ys))(h:aQ d f m (LH xs) e λy H'=>y=v/\H'=LH xs')(e5:cZ xs' k=some (.list ys))
  (hz:Nat.ble ys.length 1000000=true)(hm:lr (.Attribute (.Name x px) a pa) pc ps [e]=true)(hn:jy e=true)(hi:f.isFn=true)(q:bG d f m (LH ((k,.list (ys++[v]))::xs')) ss Q):bG d f m (LH xs) (.Expr (.Call (.Attribute (.Attribute (.Name x px) a pa) (S "append") pc) [e] [] ps) pp::ss) Q:=
 Ex.ap F hx ⟨_,_,rfl,e1,e2⟩ e3 ⟨_,e4⟩ (h.c9 λy H' z=>by
  obtain⟨rfl,rfl⟩:=z;exact Call.append e5 (afo hz) (y8 e5▸q)) hm hn hi
theorem I.new{Q:U->AH->Prop}(hm:makesIn kX C=true)(hi:findIn kX (.ref C) "__init__"=some (some (.ref fI)))(hf:typeIn kX (.ref fI)=some (.type "function"))
  (rh:cZ xs dl=none)(hl:cZ ((dl,.dict [])::xs) l=none)
  (h:nX d (.ref fI) (.ae l::args) (LH ((l,.inst C dl)::(dl,.dict [])::xs)) λv H'=>v=.none/\Q (.ae l) H'):aU (d+1) (.ref C) args (LH xs) Q:=by
 refine Call.new hm hi hf (l:=l) (dl:=dl) rh ?_ ?_
 ·rw[jW];exact hl
 ·rw[jW,jW];exact h
end
theorem pG(h:findIn kX (.ref cN) name=some none):gJ cN name:=⟨by kernel_rfl,by kernel_rfl,by unfold takerIn;rw[h];rfl,by kernel_rfl⟩
theorem abz:makesIn kX cN=true:=by kernel_rfl
theorem abA:findIn kX (.ref cN) "__init__"=some (some (.ref 711)):=by kernel_rfl
theorem abB:typeIn kX (.ref 711)=some (.type "function"):=rfl
theorem LF(h:findIn kX (.ref ff) name=some none):gJ ff name:=⟨by kernel_rfl,by kernel_rfl,by unfold takerIn;rw[h];rfl,by kernel_rfl⟩
theorem abC:makesIn kX ff=true:=by kernel_rfl
theorem abD:findIn kX (.ref ff) "__init__"=some (some (.ref 159)):=rfl
theorem abE:typeIn kX (.ref 159)=some (.type "function"):=rfl
theorem LG(h:findIn kX (.ref iJ) name=some none):gJ iJ name:=⟨by kernel_rfl,by kernel_rfl,by unfold takerIn;rw[h];rfl,by kernel_rfl⟩
theorem abF:makesIn kX iJ=true:=by kernel_rfl
theorem abG:findIn kX (.ref iJ) "__init__"=some (some (.ref 620)):=by kernel_rfl
theorem abH:typeIn kX (.ref 620)=some (.type "function"):=rfl
theorem gi(h:findIn kX (.ref bZ) name=some none):gJ bZ name:=⟨by kernel_rfl,by kernel_rfl,by unfold takerIn;rw[h];rfl,by kernel_rfl⟩
theorem abI:makesIn kX bZ=true:=by kernel_rfl
theorem abJ:findIn kX (.ref bZ) "__init__"=some (some (.ref 836)):=by kernel_rfl
theorem abK:typeIn kX (.ref 836)=some (.type "function"):=rfl
theorem abL:kX.lookup 712=some (H.tu []):=rfl
abbrev nY:aX:=aY (H.sub 80 1) "Tree.add" 720 719 [S "self",S "kind",S "space",S "name",S "attrs",S "text"] [.str (S ""),.str (S ""),.aG [],.str (S "")]
theorem abM:ao 720 nY:=ao.of (dv:=[.str (Str.ofString "") 1076,.str (Str.ofString "") 1077,.ref 712,.str (Str.ofString "") 1078]) rfl (λS=>all2 λa b=>(by kernel_rfl)) (λX h ρ R=>.cons (.str _ _) (.cons (.str _ _) (.cons (FY R abL) (.cons (.str _ _) .nil)))) rfl rfl
section
variable{xs:List (Loc×b8)}{Q:U->AH->Prop}
theorem abN(t1:cZ xs .tree=some (.inst cN .dg))(t2:cZ xs .dg=some (.dict eI))(k0:cZ xs .dY=some (.list []))(k1:cZ xs .eR=some (.list []))(k2:cZ xs .names=some (.list []))(k3:cZ xs .attrs=some (.list []))(k4:cZ xs .eg=some (.list []))(k5:cZ xs .dJ=some (.list []))(k6:cZ xs .eF=some (.list []))(kk:cZ xs (.bV 0)=none)
  (q:Q (.int 0) (LH ((.eF,.list [.ae (.bV 0)])::(.bV 0,.list [])::(.dJ,.list [.int (-1)])::(.eg,.list [.str (S "")])::(.attrs,.list [.aw []])::(.names,.list [.str (S "")])::(.eR,.list [.str (S "")])::(.dY,.list [.str (S "document")])::xs))):aU 2 (.ref 720) [.ae .tree,.str (S "document")] (LH xs) Q:=by
 refine abM.go (d:=1) (m:=[(S "text",.str (S "")),(S "attrs",.aG []),(S "name",.str (S "")),(S "space",.str (S "")),(S "kind",.str (S "document")),(S "self",.ae .tree)]) (body:=[stI nY.body 0,stI nY.body 1,stI nY.body 2,stI nY.body 3,stI nY.body 4,stI nY.body 5,stI nY.body 6,stI nY.body 7]) rfl rfl rfl ?_;refine Ex.bu (s':=?s0) ?e0 ?_;case e0=>conv=>lhs;whnf
 refine I.p (l:=.tree) (dl:=.dg) (es:=eI) (k:=.dY) (ys:=[]) uE rfl t1 t2 rfl k0 (aJ (v:=.str (S "document")) rfl ⟨rfl,rfl⟩) k0 rfl rfl rfl rfl ?_;refine Ex.bu (s':=?s1) ?e1 ?_;case e1=>conv=>lhs;whnf
 refine I.p (l:=.tree) (dl:=.dg) (es:=eI) (k:=.eR) (ys:=[]) FQ rfl t1 t2 rfl k1 (aJ (v:=.str (S "")) rfl ⟨rfl,rfl⟩) k1 rfl rfl rfl rfl ?_;refine Ex.bu (s':=?s2) ?e2 ?_;case e2=>conv=>lhs;whnf
 refine I.p (l:=.tree) (dl:=.dg) (es:=eI) (k:=.names) (ys:=[]) xc rfl t1 t2 rfl k2 (aJ (v:=.str (S "")) rfl ⟨rfl,rfl⟩) k2 rfl rfl rfl rfl ?_;refine Ex.bu (s':=?s3) ?e3 ?_;case e3=>conv=>lhs;whnf
 refine I.p (l:=.tree) (dl:=.dg) (es:=eI) (k:=.attrs) (ys:=[]) AF rfl t1 t2 rfl k3 (Ev.wJ xb (dj rfl) (aI.cons (aJ (v:=.aG []) rfl (aI.nil (Call.Ac (.inr rfl) (afw _) ⟨rfl,rfl⟩)))) rfl) k3 rfl rfl rfl rfl ?_;refine Ex.bu (s':=?s4) ?e4 ?_;case e4=>conv=>lhs;whnf
 refine I.p (l:=.tree) (dl:=.dg) (es:=eI) (k:=.eg) (ys:=[]) AG rfl t1 t2 rfl k4 (aJ (v:=.str (S "")) rfl ⟨rfl,rfl⟩) k4 rfl rfl rfl rfl ?_;refine Ex.bu (s':=?s5) ?e5 ?_;case e5=>conv=>lhs;whnf
 refine I.p (l:=.tree) (dl:=.dg) (es:=eI) (k:=.dJ) (ys:=[]) xd rfl t1 t2 rfl k5 (aJ (v:=.int (-1)) rfl ⟨rfl,rfl⟩) k5 rfl rfl rfl rfl ?_;refine Ex.bu (s':=?s6) ?e6 ?_;case e6=>conv=>lhs;whnf
 refine I.p (l:=.tree) (dl:=.dg) (es:=eI) (k:=.eF) (ys:=[]) AI rfl t1 t2 rfl k6 (I.list (l:=.bV 0) kk ⟨rfl,rfl⟩) k6 rfl rfl rfl rfl ?_;refine Ex.bu (s':=?s8) ?e8 ?_;case e8=>conv=>lhs;whnf
 exact Ex.cons (Ex.ret (Ev.rK (Ev.ua uD (dj rfl) (aI.cons (Ev.fP uE (aJ (v:=.ae .tree) rfl ⟨eI,.ae .dY,⟨_,_,rfl,t1,t2⟩,rfl,afL,aI.nil (Call.len (xs:=[.str (S "document")]) (.list rfl) (by decide) (aJ (v:=.int 1) rfl (Op.sub ⟨_,.refl _,q⟩)))⟩))))))
theorem abO(hn:cZ xs .items=none)(q:Q .none (LH ((.gF,.dict ng)::(.items,.list [])::(.gF,.dict [(S "tree",.ae .tree)])::(.stack,.inst ff .gF)::(.gF,.dict [])::xs))):nX 4 (.ref 159) [.ae .stack,.ae .tree] (LH ((.stack,.inst ff .gF)::(.gF,.dict [])::xs)) Q:=by
 refine pF.of (st:=H.sub 22 0) (q:="OpenStack.__init__") (ca:=158) (dx:=[]) (dv:=[]) (km:=[S "self",S "tree"]) rfl (λS=>all2 λx y=>rfl) rfl rfl (m:=[(S "tree",.ae .tree),(S "self",.ae .stack)]) (body:=[stI (cO (H.sub 22 0)) 0,stI (cO (H.sub 22 0)) 1]) (λ_ _ _=>.nil) rfl rfl rfl ?_
 refine Ex.bu (s':=?s1) ?e1 ?_;case e1=>conv=>lhs;whnf
 refine I.s (l:=.stack) (dl:=.gF) (LF (by kernel_rfl)) rfl (aJ (v:=.ae .tree) rfl ⟨rfl,rfl⟩) rfl rfl rfl rfl ?_
 refine Ex.bu (s':=?s2) ?e2 ?_;case e2=>conv=>lhs;whnf
 refine I.s (l:=.stack) (dl:=.gF) (LF rfl) rfl (I.list (l:=.items) hn ⟨rfl,rfl⟩) rfl rfl rfl rfl ?_;exact Ex.nil ⟨_,.refl _,q⟩
theorem abP(hn:cZ xs .iC=none)(q:Q .none (LH ((.gH,.dict qe)::(.iC,.list [])::(.gH,.dict [(S "tree",.ae .tree)])::(.ft,.inst iJ .gH)::(.gH,.dict [])::xs))):nX 4 (.ref 620) [.ae .ft,.ae .tree] (LH ((.ft,.inst iJ .gH)::(.gH,.dict [])::xs)) Q:=by
 refine pF.of (st:=H.sub 77 0) (q:="Formatting.__init__") (ca:=619) (dx:=[]) (dv:=[]) (km:=[S "self",S "tree"]) rfl (λS=>all2 λx y=>rfl) rfl rfl (m:=[(S "tree",.ae .tree),(S "self",.ae .ft)]) (body:=[stI (cO (H.sub 77 0)) 0,stI (cO (H.sub 77 0)) 1]) (λ_ _ _=>.nil) rfl rfl rfl ?_
 refine Ex.bu (s':=?s3) ?e3 ?_;case e3=>conv=>lhs;whnf
 refine I.s (l:=.ft) (dl:=.gH) (LG (by kernel_rfl)) rfl (aJ (v:=.ae .tree) rfl ⟨rfl,rfl⟩) rfl rfl rfl rfl ?_
 refine Ex.bu (s':=?s4) ?e4 ?_;case e4=>conv=>lhs;whnf
 refine I.s (l:=.ft) (dl:=.gH) (LG rfl) rfl (I.list (l:=.iC) hn ⟨rfl,rfl⟩) rfl rfl rfl rfl ?_;exact Ex.nil ⟨_,.refl _,q⟩
abbrev XI1:List (Loc×b8):=[(.cD,.dict [(S "rules",.ae .eG)]),(.bC,.inst bZ .cD),(.cD,.dict []),(.eG,.map kC),(.path 0,.cell none)]
abbrev LI:List (Loc×b8):=(.dY,.list [.str (S "document")])::(.eR,.list [.str (S "")])::(.names,.list [.str (S "")])::(.attrs,.list [.aw []])::(.eg,.list [.str (S "")])::(.dJ,.list [.int (-1)])::(.eF,.list [.ae (.bV 0)])::(.bV 0,.list [])::(.lW,.map [])::(.dg,.dict eI)::(.tree,.inst cN .dg)::[(.cD,.dict [(S "rules",.ae .eG)]),(.bC,.inst bZ .cD),(.eG,.map kC),(.path 0,.cell none)]
theorem abQ(q:Q .none (LH LI)):nX 4 (.ref 711) [.ae .tree] (LH ((.tree,.inst cN .dg)::(.dg,.dict [])::XI1)) Q:=by
 refine pF.of (st:=H.sub 80 0) (q:="Tree.__init__") (ca:=710) (dx:=[]) (dv:=[]) (km:=[S "self"]) rfl (λS=>all1 λx=>rfl) rfl rfl (m:=[(S "self",.ae .tree)]) (body:=[stI (cO (H.sub 80 0)) 0,stI (cO (H.sub 80 0)) 1,stI (cO (H.sub 80 0)) 2,stI (cO (H.sub 80 0)) 3,stI (cO (H.sub 80 0)) 4,stI (cO (H.sub 80 0)) 5,stI (cO (H.sub 80 0)) 6,stI (cO (H.sub 80 0)) 7,stI (cO (H.sub 80 0)) 8]) (λ_ _ _=>.nil) rfl rfl rfl ?_
 refine Ex.bu (s':=?s5) ?e5 ?_;case e5=>conv=>lhs;whnf
 refine I.s (l:=.tree) (dl:=.dg) (pG (by kernel_rfl)) rfl (I.list (l:=.dY) rfl ⟨rfl,rfl⟩) rfl rfl rfl rfl ?_
 refine Ex.bu (s':=?s6) ?e6 ?_;case e6=>conv=>lhs;whnf
 refine I.s (l:=.tree) (dl:=.dg) (pG rfl) rfl (I.list (l:=.eR) rfl ⟨rfl,rfl⟩) rfl rfl rfl rfl ?_;refine Ex.bu (s':=?s7) ?e7 ?_;case e7=>conv=>lhs;whnf
 refine I.s (l:=.tree) (dl:=.dg) (pG rfl) rfl (I.list (l:=.names) rfl ⟨rfl,rfl⟩) rfl rfl rfl rfl ?_;refine Ex.bu (s':=?s8) ?e8 ?_;case e8=>conv=>lhs;whnf
 refine I.s (l:=.tree) (dl:=.dg) (pG rfl) rfl (I.list (l:=.attrs) rfl ⟨rfl,rfl⟩) rfl rfl rfl rfl ?_;refine Ex.bu (s':=?s9) ?e9 ?_;case e9=>conv=>lhs;whnf
 refine I.s (l:=.tree) (dl:=.dg) (pG rfl) rfl (I.list (l:=.eg) rfl ⟨rfl,rfl⟩) rfl rfl rfl rfl ?_;refine Ex.bu (s':=?s10) ?e10 ?_;case e10=>conv=>lhs;whnf
 refine I.s (l:=.tree) (dl:=.dg) (pG rfl) rfl (I.list (l:=.dJ) rfl ⟨rfl,rfl⟩) rfl rfl rfl rfl ?_;refine Ex.bu (s':=?s11) ?e11 ?_;case e11=>conv=>lhs;whnf
 refine I.s (l:=.tree) (dl:=.dg) (pG rfl) rfl (I.list (l:=.eF) rfl ⟨rfl,rfl⟩) rfl rfl rfl rfl ?_;refine Ex.bu (s':=?s12) ?e12 ?_;case e12=>conv=>lhs;whnf
 refine I.s (l:=.tree) (dl:=.dg) (pG rfl) rfl (I.dict (l:=.lW) rfl ⟨rfl,rfl⟩) rfl rfl rfl rfl ?_;refine Ex.bu (s':=?s20) ?Dw ?_;case Dw=>conv=>lhs;whnf
 exact Ex.cons (Ex.so (Ev.OO QL (aJ (v:=.ae .tree) rfl ⟨⟨eI,⟨.tree,.dg,rfl,rfl,rfl⟩,by kernel_rfl⟩,aI.cons (aJ (v:=.str (S "document")) rfl (aI.nil (Call.gb (by decide) (abN rfl rfl rfl rfl rfl rfl rfl rfl rfl rfl (Ex.nil ⟨_,LD (ys:=LI) rfl rfl,q⟩)))))⟩)))
def bI:B:={aa:=[⟨S "document",S "",S "",[],S "",-1,[]⟩],stack:=[],marks:=[],mode:=S "initial",original:=S "",head:=-1,dC:=false,dD:=false,aH:=[],pending:=[],pk:=0,old:=none}
theorem abR(q:Q .none (LH [(.cD,.dict (fg bI)),(.bC,.inst bZ .cD),(.dY,.list [.str (S "document")]),(.eR,.list [.str (S "")]),(.names,.list [.str (S "")]),(.attrs,.list [.aw []]),(.eg,.list [.str (S "")]),(.dJ,.list [.int (-1)]),(.eF,.list [.ae (.bV 0)]),(.bV 0,.list []),(.lW,.map []),(.dg,.dict eI),(.tree,.inst cN .dg),(.items,.list []),(.gF,.dict ng),(.stack,.inst ff .gF),(.iC,.list []),(.gH,.dict qe),(.ft,.inst iJ .gH),(.pU,.list []),(.owners,.map []),(.aH,.list []),(.bN 0,.list []),(.eG,.map kC),(.path 0,.cell none)])):nX 6 (.ref 836) [.ae .bC,.ae .eG] (LH ((.bC,.inst bZ .cD)::(.cD,.dict [])::[(.eG,.map kC),(.path 0,.cell none)])) Q:=by
 refine pF.of (st:=H.sub 83 0) (q:="Builder.__init__") (ca:=835) (dx:=[.bool false]) (dv:=[.bool false]) (km:=[S "self",S "rules",S "is_scripting"]) rfl (λS=>all2 λx y=>(by kernel_rfl)) rfl rfl (m:=[(S "is_scripting",.bool false),(S "rules",.ae .eG),(S "self",.ae .bC)]) (body:=[stI (cO (H.sub 83 0)) 0,stI (cO (H.sub 83 0)) 1,stI (cO (H.sub 83 0)) 2,stI (cO (H.sub 83 0)) 3,stI (cO (H.sub 83 0)) 4,stI (cO (H.sub 83 0)) 5,stI (cO (H.sub 83 0)) 6,stI (cO (H.sub 83 0)) 7,stI (cO (H.sub 83 0)) 8,stI (cO (H.sub 83 0)) 9,stI (cO (H.sub 83 0)) 10,stI (cO (H.sub 83 0)) 11,stI (cO (H.sub 83 0)) 12,stI (cO (H.sub 83 0)) 13,stI (cO (H.sub 83 0)) 14,stI (cO (H.sub 83 0)) 15,stI (cO (H.sub 83 0)) 16,stI (cO (H.sub 83 0)) 17,stI (cO (H.sub 83 0)) 18,stI (cO (H.sub 83 0)) 19,stI (cO (H.sub 83 0)) 20]) (λh ρ R=>.cons (.bool _) .nil) rfl rfl rfl ?_
 refine Ex.bu (s':=?s13) ?e13 ?_;case e13=>conv=>lhs;whnf
 refine I.s (l:=.bC) (dl:=.cD) (gi (by kernel_rfl)) rfl (aJ (v:=.ae .eG) rfl ⟨rfl,rfl⟩) rfl rfl rfl rfl ?_
 refine Ex.bu (s':=?s14) ?e14 ?_;case e14=>conv=>lhs;whnf
 refine I.s (l:=.bC) (dl:=.cD) (gi rfl) rfl (Ev.jA QA (dj rfl) (aI.nil (Call.gb (by decide) (I.new (l:=.tree) (dl:=.dg) abz abA abB rfl rfl (abQ ⟨rfl,rfl,rfl⟩)))) rfl) rfl rfl rfl rfl ?_
 refine Ex.bu (s':=?s15) ?e15 ?_;case e15=>conv=>lhs;whnf
 refine I.s (l:=.bC) (dl:=.cD) (gi rfl) rfl (Ev.jA Qo (dj rfl) (aI.cons (Ev.fP AJ (aJ (v:=.ae .bC) rfl ⟨_,.ae .tree,⟨.bC,.cD,rfl,rfl,rfl⟩,rfl,afL,aI.nil (Call.gb (by decide) (I.new (l:=.stack) (dl:=.gF) abC abD abE rfl rfl (abO rfl ⟨rfl,rfl,rfl⟩)))⟩))) rfl) rfl rfl rfl rfl ?_
 refine Ex.bu (s':=?s16) ?e16 ?_;case e16=>conv=>lhs;whnf
 refine I.s (l:=.bC) (dl:=.cD) (gi rfl) rfl (Ev.jA Qz (dj rfl) (aI.cons (Ev.fP AJ (aJ (v:=.ae .bC) rfl ⟨_,.ae .tree,⟨.bC,.cD,rfl,rfl,rfl⟩,rfl,afL,aI.nil (Call.gb (by decide) (I.new (l:=.ft) (dl:=.gH) abF abG abH rfl rfl (abP rfl ⟨rfl,rfl,rfl⟩)))⟩))) rfl) rfl rfl rfl rfl ?_
 refine Ex.bu (s':=?s17) ?e17 ?_;case e17=>conv=>lhs;whnf
 refine I.s (l:=.bC) (dl:=.cD) (gi rfl) rfl (aJ (v:=.str (S "initial")) rfl ⟨rfl,rfl⟩) rfl rfl rfl rfl ?_;refine Ex.bu (s':=?s18) ?e18 ?_;case e18=>conv=>lhs;whnf
 refine I.s (l:=.bC) (dl:=.cD) (gi rfl) rfl (aJ (v:=.str (S "")) rfl ⟨rfl,rfl⟩) rfl rfl rfl rfl ?_;refine Ex.bu (s':=?s19) ?e19 ?_;case e19=>conv=>lhs;whnf
 refine I.s (l:=.bC) (dl:=.cD) (gi rfl) rfl (I.list (l:=.pU) rfl ⟨rfl,rfl⟩) rfl rfl rfl rfl ?_;refine Ex.bu (s':=?s20) ?Dw ?_;case Dw=>conv=>lhs;whnf
 refine I.s (l:=.bC) (dl:=.cD) (gi rfl) rfl (aJ (v:=.int (-1)) rfl ⟨rfl,rfl⟩) rfl rfl rfl rfl ?_;refine Ex.bu (s':=?s21) ?e21 ?_;case e21=>conv=>lhs;whnf
 refine I.s (l:=.bC) (dl:=.cD) (gi rfl) rfl (aJ (v:=.int (-1)) rfl ⟨rfl,rfl⟩) rfl rfl rfl rfl ?_;refine Ex.bu (s':=?s22) ?e22 ?_;case e22=>conv=>lhs;whnf
 refine I.s (l:=.bC) (dl:=.cD) (gi rfl) rfl (I.dict (l:=.owners) rfl ⟨rfl,rfl⟩) rfl rfl rfl rfl ?_;refine Ex.bu (s':=?s23) ?e23 ?_;case e23=>conv=>lhs;whnf
 refine I.s (l:=.bC) (dl:=.cD) (gi rfl) rfl (aJ (v:=.bool true) rfl ⟨rfl,rfl⟩) rfl rfl rfl rfl ?_;refine Ex.bu (s':=?s24) ?e24 ?_;case e24=>conv=>lhs;whnf
 refine I.s (l:=.bC) (dl:=.cD) (gi rfl) rfl (aJ (v:=.bool false) rfl ⟨rfl,rfl⟩) rfl rfl rfl rfl ?_;refine Ex.bu (s':=?s25) ?e25 ?_;case e25=>conv=>lhs;whnf
 refine I.s (l:=.bC) (dl:=.cD) (gi rfl) rfl (aJ (v:=.bool false) rfl ⟨rfl,rfl⟩) rfl rfl rfl rfl ?_;refine Ex.bu (s':=?s26) ?e26 ?_;case e26=>conv=>lhs;whnf
 refine I.s (l:=.bC) (dl:=.cD) (gi rfl) rfl (aJ (v:=.int (-1)) rfl ⟨rfl,rfl⟩) rfl rfl rfl rfl ?_;refine Ex.bu (s':=?s27) ?e27 ?_;case e27=>conv=>lhs;whnf
 refine I.s (l:=.bC) (dl:=.cD) (gi rfl) rfl (aJ (v:=.str (S "no-quirks")) rfl ⟨rfl,rfl⟩) rfl rfl rfl rfl ?_;refine Ex.bu (s':=?s28) ?e28 ?_;case e28=>conv=>lhs;whnf
 refine I.s (l:=.bC) (dl:=.cD) (gi rfl) rfl (I.list (l:=.aH) rfl ⟨rfl,rfl⟩) rfl rfl rfl rfl ?_;refine Ex.bu (s':=?s29) ?e29 ?_;case e29=>conv=>lhs;whnf
 refine I.s (l:=.bC) (dl:=.cD) (gi rfl) rfl (I.list (l:=.bN 0) rfl ⟨rfl,rfl⟩) rfl rfl rfl rfl ?_;refine Ex.bu (s':=?s30) ?e30 ?_;case e30=>conv=>lhs;whnf
 refine I.s (l:=.bC) (dl:=.cD) (gi rfl) rfl (aJ (v:=.str (S "")) rfl ⟨rfl,rfl⟩) rfl rfl rfl rfl ?_;refine Ex.bu (s':=?s31) ?e31 ?_;case e31=>conv=>lhs;whnf
 refine I.s (l:=.bC) (dl:=.cD) (gi rfl) rfl (aJ (v:=.bool false) rfl ⟨rfl,rfl⟩) rfl rfl rfl rfl ?_;refine Ex.bu (s':=?s32) ?e32 ?_;case e32=>conv=>lhs;whnf
 refine I.s (l:=.bC) (dl:=.cD) (gi rfl) rfl (aJ (v:=.bool false) rfl ⟨rfl,rfl⟩) rfl rfl rfl rfl ?_;refine Ex.bu (s':=?s33) ?e33 ?_;case e33=>conv=>lhs;whnf
 refine I.s (l:=.bC) (dl:=.cD) (gi rfl) rfl (aJ (v:=.bool false) rfl ⟨rfl,rfl⟩) rfl rfl rfl rfl ?_;exact Ex.nil ⟨_,LD (ys:=[(.cD,.dict (fg bI)),(.bC,.inst bZ .cD),(.dY,.list [.str (S "document")]),(.eR,.list [.str (S "")]),(.names,.list [.str (S "")]),(.attrs,.list [.aw []]),(.eg,.list [.str (S "")]),(.dJ,.list [.int (-1)]),(.eF,.list [.ae (.bV 0)]),(.bV 0,.list []),(.lW,.map []),(.dg,.dict eI),(.tree,.inst cN .dg),(.items,.list []),(.gF,.dict ng),(.stack,.inst ff .gF),(.iC,.list []),(.gH,.dict qe),(.ft,.inst iJ .gH),(.pU,.list []),(.owners,.map []),(.aH,.list []),(.bN 0,.list []),(.eG,.map kC),(.path 0,.cell none)]) (by kernel_rfl) rfl,q⟩
end
theorem Ev.pH(F:FnAt x v)(hx:eT f x .globalImplicit)(q:Q (.val v) H):aQ d f m H (.Name x pos) Q:=Ev.EO F.at_ hx q
def nZ:List (Str×U):=[(S "in caption",.val (.ref 469)),(S "in column group",.val (.ref 490)),(S "in table body",.val (.ref 518)),(S "in row",.val (.ref 546)),(S "in cell",.val (.ref 567))]
def k7:List (Str×U):=[(S "in table",.val (.ref 406)),(S "in table text",.val (.ref 420))]
theorem abS:(nZ.map (·.1)).Nodup:=by decide+kernel
theorem abT:(k7.map (·.1)).Nodup:=by decide+kernel
abbrev LK:aX:=aY (H.az 72) "row_rules" 574 573 [] []
theorem abU:ao 574 LK:=ao.of rfl (λS=>w8 rfl) (λ_ _ _ _=>.nil) rfl rfl
theorem abV(hn:X.new .eG)(q:Q (.ae .eG) (X.add .eG (.map nZ))):aU 1 (.ref 574) [] X Q:=by
 refine abU.go (d:=0) (m:=[]) (body:=[stI LK.body 0]) rfl rfl rfl ?_;refine Ex.bu (s':=?s0) ?e0 ?_;case e0=>conv=>lhs;whnf
 with_reducible refine Ex.cons (Ex.ret (Ev.se .eG ?k3 hn ?dd ?r1 ?r2 ?r3 ?r4))
 case k3=>exact qx
 case r1=>rfl
 case r2=>rfl
 case r3=>exact nofun
 case r4=>decide
 case dd=>
 with_reducible refine fE.cons (Ev.pH Qs (dj ?hg) ?_)
 case hg=>rfl
 with_reducible refine fE.cons (Ev.pH Qu (dj ?hg) ?_)
 case hg=>rfl
 with_reducible refine fE.cons (Ev.pH Qv (dj ?hg) ?_)
 case hg=>rfl
 with_reducible refine fE.cons (Ev.pH Qw (dj ?hg) ?_)
 case hg=>rfl
 with_reducible refine fE.cons (Ev.pH Qx (dj ?hg) ?_)
 case hg=>rfl
 with_reducible refine fE.nil ⟨?r1,?r2,?_⟩
 case r1=>exact AH.bP ..
 case r2=>exact abS
 exact nq.symm▸⟨_,.refl _,q⟩
abbrev LL:aX:=aY (H.az 50) "table_rules" 427 426 [] []
theorem abW:ao 427 LL:=ao.of rfl (λS=>w8 rfl) (λ_ _ _ _=>.nil) rfl rfl
theorem abX(hn:X.new (.aK n))(q:Q (.ae (.aK n)) (X.add (.aK n) (.map k7))):aU 1 (.ref 427) [] X Q:=by
 refine abW.go (d:=0) (m:=[]) (body:=[stI LL.body 0]) rfl rfl rfl ?_;refine Ex.bu (s':=?s0) ?e0 ?_;case e0=>conv=>lhs;whnf
 with_reducible refine Ex.cons (Ex.ret (Ev.se (.aK n) ?k3 hn ?dd ?r1 ?r2 ?r3 ?r4))
 case k3=>exact qx
 case r1=>rfl
 case r2=>rfl
 case r3=>exact nofun
 case r4=>decide
 case dd=>
 with_reducible refine fE.cons (Ev.pH Qp (dj ?hg) ?_)
 case hg=>rfl
 with_reducible refine fE.cons (Ev.pH Qq (dj ?hg) ?_)
 case hg=>rfl
 with_reducible refine fE.nil ⟨?r1,?r2,?_⟩
 case r1=>exact AH.bP ..
 case r2=>exact abT
 exact nq.symm▸⟨_,.refl _,q⟩
abbrev abY:aX:=aY (H.az 16) "make" 115 114 [S "builder",S "name",S "attrs",S "space"] [.str (S "html")]
theorem abZ:ao 115 abY:=ao.of (dv:=[.str (Str.ofString "html") 309]) rfl (λS=>r6 λx y z=>rfl) (λX h ρ R=>.cons (.str _ _) .nil) rfl rfl
abbrev LM:Lf B (Str×List U×Unit):=kf λa b=>j3 b a.1 a.2.1
section
variable{G:AH}
theorem ab0:bk (λb n=>hp b G n) 4 115 (λa=>aV 1::Ps.enc (bA (ke aj)) a) LM:=iQ (D:=DB (U×B) au G 0 false bK (Cj (U×B) au)) (d:=3) (λ_=>ba cz Jf) abZ (λa b r h=>Eq.trans (b:=(j3 b a.1 a.2.1).bind λr=>some (.int r.1,r.2)) (by kernel_rfl) (by
 rw[show j3 b a.1 a.2.1=some r from h];rfl)) (λ_=>by kernel_rfl)
def LO(ρ:Type)(c:Tl B ρ):List (Addr×cg B ρ):=(115,aS c 0 4 (bA (ke aj)) LM)::(765,aS c 3 3 (cX (cX aj)) IZ)::(166,aS c 1 1 (cX aj) B3)::(124,aS c 0 5 (bA aj) Cm)::(173,aS c 1 1 aj vi)::(850,aS c 0 1 (bA aj) vh)::[]
theorem ab1:∀e,e∈LO ρ c->cJ (DB ρ c G o kp pc tb) r e.1 e.2:=aD (bo ab0 rfl) (aD (bo Wj rfl) (aD (bo Ik rfl) (aD (bo Jj rfl) (aD (bo yk rfl) (aD (bo yj rfl) cw)))))
abbrev ab2:aX:=aY (H.az 86) "ready" 907 906 [S "builder",S "mode"] [.str (S "in body")]
theorem ab3:ao 907 ab2:=ao.of (dv:=[.str (Str.ofString "in body") 1350]) rfl (λS=>all1 λx=>rfl) (λX h ρ R=>.cons (.str _ _) .nil) rfl rfl
theorem ab4(q:∀n,Q (.aG [.int 1,.int 3]) (hp b0 G n)):aU 7 (.ref 907) [.ae .bC] (hp bI G n) Q:=
 run (D:=DB (U×B) au G 0 false bK (LO (U×B) au)) (d:=6) (z:=bI) (tf:=false) (ht:=λe=>nomatch e) (r:=(.aG [.int 1,.int 3],b0)) (fin:=HU) (ba cz ab1) ab3 (h:=by kernel_rfl) (q:=λfl m z n e=>sE (X:=λp:U×B=>(∀n',Q p.1 (hp p.2 G n'))->Q fl.val (hp z G n)) e (λq=>q n) q) (n:=n) (hl:=by kernel_rfl)
end
noncomputable def bB (ss:List Str):U:=.aw (ss.map .str)
section
variable{b:B}{G:AH}{x:LX}{s s':LS}{n:Nat}{Q:U->AH->Prop}
theorem ab5:(r++[y]).map f=r.map f++[f y]:=by rw[afz];rfl
theorem ab6:(sq.map (·.1)).Nodup:=by decide+kernel
def y9:List (Str×U):=[(S "table",.str (S "in table")),(S "caption",.str (S "in caption")),(S "colgroup",.str (S "in column group")),(S "tr",.str (S "in row")),(S "tbody",.str (S "in table body")),(S "thead",.str (S "in table body")),(S "tfoot",.str (S "in table body")),(S "td",.str (S "in cell")),(S "th",.str (S "in cell"))]
theorem ab7:(y9.lookup y).getD (.str m)=.str (jf m y):=by
 have e:y9=sq.map λp=>(p.1,U.str p.2):=rfl
 rw[e,FZ];unfold jf;cases sq.lookup y<;>rfl
theorem za{l:List α}{i:Nat}(h:(l.map f)[i]?=some y):∃a,l[i]?=some a/\f a=y:=by
 rw[afG]at h;exact afX.mp h
theorem ab8{l:List Str}(h:l[i]?=some y):(l.take (i+1)).foldl jf m=jf ((l.take i).foldl jf m) y:=by
 rw[List.take_add_one,h,List.foldl_append];rfl
theorem ab9(h:cP s i=some y):uP s i=y.name:=by
 refine cC (uS h) λk e h1 _=>?_
 subst e;unfold uP;rw[afv,h1];rfl
noncomputable def Dx:U->U
 |.aw (x::_)=>x
 |y=>y
theorem Dy(h:cV s=true):∀i∈s.path,∃y,cP s i=some y:=λi hi=>by
 unfold cV at h;rw[afi]at h;exact Option.isSome_iff_exists.mp (afn.mp h.2 i hi)
theorem vQ(h:cV s=true):s.path.length<=900000:=by
 unfold cV at h;rw[afi,afi]at h;exact d9 h.1.1
theorem aca(h:cV s=true):((s.path.map (cI s)).filter λ_=>true).map Dx=(bc s).map .str:=by
 rw[agw.mpr λ_ _=>rfl,agr]
 unfold bc;rw[agr];refine aga λi hi=>?_
 refine aF (Dy h i hi) λy hy=>?_
 show Dx (cI s i)=.str (uP s i);rw[uT hy,ab9 hy];rfl
abbrev pI(l:List (Str×NameKind)):Scope:=⟨.function,(S ".0",.local)::l,false,false,[]⟩
theorem acb:AH.Le (((hp b G n).add (.aK n) o).add (.aK (n+1)) o') (hp b G (n+2)):=rW.Px.trans rW
def lT(X:AH)(n:Nat)(u v:Option U):AH:=(X.add (.aK n) (.cell u)).add (.aK (n+1)) (.cell v)
theorem Dz:Loc.aK n≠.aK (n+1):=λe=>by injection e with e;lia
theorem DA:(lT X n u v).get (.aK n)=some (.cell u):=(AH.bQ _ _ Dz).trans (AH.bP ..)
theorem vR:(lT X n u v).get (.aK (n+1))=some (.cell v):=AH.bP ..
theorem LP:(lT X n u v).set (.aK (n+1)) (.cell v')=lT X n u v':=nq
theorem acd:(lT X n u v).set (.aK n) (.cell u')=lT X n u' v:=by
 refine AH.eJ DA (λl h=>?_) λl=>af5
 unfold lT;by_cases q:l=.aK (n+1)
 ·rw[q,AH.bP,AH.bP]
 ·rw[AH.bQ _ _ q,AH.bQ _ _ q,AH.bQ _ _ h,AH.bQ _ _ h]
theorem ace(h:X.new (.aK k))(hk:n+2<=k):(lT X n u v).new (.aK k):=⟨⟨h,λe=>by injection e with e;lia⟩,λe=>by injection e with e;exact agz _ (e▸hk)⟩
theorem acf{ns:List Str}(h:ns[i]?=some y):hC (ns.take (i+1)) 0 (-1)=if y==S "table" then(i:Int)else hC (ns.take i) 0 (-1):=by
 rw[List.take_add_one,h];show hC (ns.take i++[y]) 0 (-1)=_;rw[GV];have:(ns.take i).length=i:=by
  refine aF (afk.mp h) λaR _=>?_
  rw[List.length_take];exact Nat.min_eq_left (Nat.le_of_lt aR)
 rw[this];show(if y==S "table" then(0:Int)+i else _)=_;rw[Int.zero_add]
theorem LQ:∀(ns:List Str) (i p:Int),(hC ns i p=p)\/(i<=hC ns i p/\hC ns i p<i+ns.length)
 |[],i,p=>.inl rfl
 |x::r,i,p=>by
  unfold hC;rcases LQ r (i+1) (if x==S "table" then i else p)with h|⟨h1,h2⟩
  ·rw[h];by_cases q:(x==S "table")=true
   ·rw[if_pos q];right;rw[afP];omega
   ·rw[if_neg q];exact .inl rfl
  ·right;rw[afP];omega
theorem DC(ns:List Str):cy ns=-1\/(0<=cy ns/\cy ns<ns.length):=by
 rcases LQ ns 0 (-1)with h|⟨h1,h2⟩
 ·exact .inl h
 ·right;unfold cy;lia
theorem acg(ns:List Str):(((ns.drop (cy ns+1).toNat).map U.str).filter λy=>match y with|.str z=>decide (0<=cy ns)&&ar iq z|_=>false)=(cH ns).map .str:=by
 rw[List.filter_map]
 congr 1
 unfold cH;by_cases h:0<=cy ns
 ·rw[if_pos h];refine List.filter_congr λz hz=>?_
  show(decide (0<=cy ns)&&ar iq z)=_;rw[afT h];rfl
 ·rw[if_neg h,List.filter_eq_nil_iff];intro z hz;show¬(decide (0<=cy ns)&&ar iq z)=true;rw[agK h];simp
def vS(p:Int):U->Bool
 |.str z=>decide (0<=p)&&ar iq z
 |_=>false
end
section
variable{d:Nat}{f:aP}{m:Lo}{b:B}{G:AH}{x:LX}{s s':LS}{n:Nat}{X:AH}
theorem V.LR(q:Q (.ae (.path (s.pk+1))) (hp b (lG x s) n)):(∃T,d0 (hp b (lG x s) n) (.ae .state) T/\gI T)/\br d getItem (.ae .state) (.str (S "path")) (hp b (lG x s) n) Q:=
 ⟨⟨_,.map oW,ug⟩,Op.uh (y:=.ae (.path (s.pk+1))) oW rfl q⟩
theorem V.ach(q:Q (.ae (.run s.rk)) (hp b (lG x s) n)):(∃T,d0 (hp b (lG x s) n) (.ae .state) T/\gI T)/\br d getItem (.ae .state) (.str (S "run")) (hp b (lG x s) n) Q:=
 ⟨⟨_,.map oW,ug⟩,Op.uh (y:=.ae (.run s.rk)) oW rfl q⟩
theorem aci(h:l.getLast?=some i):∃r,l=r++[i]:=agh.mp h
theorem V.last(h:s.path.getLast?=some i)(hy:cP s i=some y)(q:Q (.aw [.str y.name,.aw y.attrs,.ae (.bz i.toNat)]) (hp b (lG x s) n)):
  (∃T,d0 (hp b (lG x s) n) (.ae (.path (s.pk+1))) T/\gI T)/\br d getItem (.ae (.path (s.pk+1))) (.int (-1)) (hp b (lG x s) n) Q:=by
 refine aF (aci h) λr e=>?_
 refine⟨jE nA,Op.z5 (xs:=r.map (cI s)) (y:=cI s i) (.list ?_) (by rw[uT hy];exact q)⟩
 rw[nA,e,afz];rfl
theorem V.LU(h:b9 s.path j=some i)(hy:cP s i=some y)(q:Q (.aw [.str y.name,.aw y.attrs,.ae (.bz i.toNat)]) (hp b (lG x s) n)):
  (∃T,d0 (hp b (lG x s) n) (.ae (.path (s.pk+1))) T/\gI T)/\br d getItem (.ae (.path (s.pk+1))) (.int j) (hp b (lG x s) n) Q:=
 ⟨jE nA,Op.lz (y:=cI s i) (.list nA) (jD h) (by rw[uT hy];exact q)⟩
theorem LV(h:je s k=some z):cf s k=if z.tx=true then .str z.text else .aw [.str z.name,.aw z.attrs,.ae (.bz k.toNat)]:=by
 refine cC (gK h) λc e _ h1=>?_
 subst e;unfold cf;rw[afv,h1]
theorem V.acj(h:cW s z y=some s')(q:Q .none (hp b (lG x s') n)):aU d (.builtin "list.append") [.ae .hZ,.aG [.str z,.str y]] (hp b (lG x s) n) Q:=by
 unfold cW at h;refine aO (ig h) λhz h=>?_
 cases h;refine Call.append (xs:=bJ s.aH) Bc (by unfold bJ;rw[afj];have:=d9 hz;exact bh this) ?_
 have:bJ s.aH++[U.aG [.str z,.str y]]=bJ (s.aH++[(z,y)]):=by unfold bJ;rw[afz];rfl
 rw[this,kN rfl,Sp];exact q
end
section
variable{s s':LS}
theorem LW(h:cP s i=some y):cP {s with aa:=s.aa++[z]} i=some y:=by
 refine cC (uS h) λk e h1 ht=>?_
 refine bE h λu h2 h3=>?_
 subst e;have e1:je {s with aa:=s.aa++[z]} (k:Int)=some u:=by
  unfold je b9 at h2 ⊢;by_cases q:0<=(k:Int)/\(k:Int)<1000000
  ·rw[if_pos q]at h2 ⊢;have vt:s.aa[(k:Int).toNat]?=some u:=h2;refine aF (afk.mp vt) λaR _=>?_
   show(s.aa++[z])[(k:Int).toNat]?=some u;rw[afU aR];exact vt
  ·rw[if_neg q]at h2;cases h2
 unfold cP;rw[e1];exact h3
noncomputable def rj (s:LS)(name:Str)(as:List U):U:=.aw [.str name,.aw as,.ae (.bz s.aa.length)]
theorem LY:cf {s with aa:=s.aa++[⟨false,name,as,S "",[]⟩]} (s.aa.length:Int)=rj s name as:=by
 unfold cf rj;dsimp only;rw[afv,af2 (afm _)];simp
theorem acm(h:t.aa[s.aa.length]?=some ⟨false,name,as,S "",[]⟩):cI t (s.aa.length:Int)=rj s name as:=by
 unfold cI rj;rw[afv,h]
abbrev tE(s:LS)(name:Str)(as:List U):LS:={s with aa:=s.aa++[⟨false,name,as,S "",[]⟩]}
end
section
variable{s s':LS}
theorem zb(s:LS):(bc s).length=s.path.length:=afj ..
theorem vU(h:cV s=true):ay (bc s).length=true:=by rw[zb];exact afT (vQ h)
theorem acn(ns:List Str):(cH ns).length<=ns.length:=by
 unfold cH;split
 ·refine ads (ag2 ..) ?_;rw[ag4];exact Nat.sub_le _ _
 ·exact afw _
theorem V.aco(hz:ay ps.length=true)(q:Q (.int ps.length) X):aU d (.builtin "len") [bB ps] X Q:=
 Call.len (xs:=ps.map .str) (.aw _) (by rw[afj];have:=d9 hz;exact bh this) (by rw[afj];exact q)
theorem acp(ns:List Str)(h:0<=cy ns):cy ns+1+(cH ns).length<=ns.length:=by
 have h1:(cH ns).length<=(ns.drop (cy ns+1).toNat).length:=by
  unfold cH;rw[if_pos h];exact ag2 ..
 rw[ag4]at h1;rcases DC ns with e|⟨_,e⟩
 ·exact absurd (e▸h) (by decide)
 ·refine(Int.eq_ofNat_of_zero_le h).elim λk hk=>?_
  rw[hk]at h1 e ⊢;exact agy.mpr (agJ (k+1) _▸Nat.add_le_of_le_sub (agP.mp e) h1)
theorem vV(h:cV s=true):ay (cH (bc s)).length=true:=afT (by have:=vQ h;have:=acn (bc s);rw[zb]at this;exact bh (ads ‹_› ‹_›))
end
section
variable{d:Nat}{X:AH}
theorem gN.strs:∀ss:List Str,gN X (ss.map .str) (ss.map .str)
 |[]=>.nil
 |x::r=>.cons (.str x) (gN.strs r)
theorem LZ:∀ps qs:List Str,PyData.eqvAll (ps.map .str) (qs.map .str)=(ps==qs)
 |[],[]=>rfl
 |[],_::_=>rfl
 |_::_,[]=>rfl
 |x::r,y::t=>by
  show(PyData.eqv (.str x) (.str y)&&PyData.eqvAll (r.map .str) (t.map .str))=_;rw[LZ r t];rfl
theorem V.acq(h1:ps.all PyData.strOk=true)(h2:qs.all PyData.strOk=true)(q:Q (.bool (ps==qs)) X):br d (compareOp .Eq) (bB ps) (bB qs) X Q:=by
 refine Op.Gl (da:=.list (ps.map .str)) (db:=.list (qs.map .str)) (.aw (gN.strs ps)) (.aw (gN.strs qs)) ?_ ?_ ?_ ?_
 ·show PyData.canLayAll0 _=true;rw[canLayAll_strs'];exact h1
 ·show PyData.canLayAll0 _=true;rw[canLayAll_strs'];exact h2
 ·show min (PyData.depthAll _+1) _<=_;rw[depthAll_strs'];exact ag3 _
 ·show Q (.bool (PyData.eqvAll _ _)) X;rw[LZ];exact q
theorem V.acr(hz:ay s.run.length=true)(q:Q .none (hp b (lG x {s with run:=s.run++[t]}) n)):aU d (.builtin "list.append") [.ae (.run s.rk),.str t] (hp b (lG x s) n) Q:=by
 refine Call.append (xs:=s.run.map .str) xy (by rw[afj];have:=d9 hz;exact bh this) ?_
 have:s.run.map U.str++[U.str t]=(s.run++[t]).map .str:=by rw[afz];rfl
 rw[this,kN rfl,Sq];exact q
theorem L4(ns:List Str):(cH ns).all PyData.strOk=true:=by
 rw[afn];intro y hy;unfold cH at hy;split at hy
 ·exact TA (ka.mp (List.mem_filter.mp hy).2)
 ·exact nomatch hy
end
theorem V.acs(ha:PyData.strOk a=true)(hb:PyData.strOk b=true)(hc:PyData.strOk c=true)(he:PyData.strOk e=true)(q:Q (.bool (!(a==c&&b==e))) X):br d (compareOp .NotEq) (.aG [.str a,.str b]) (.aG [.str c,.str e]) X Q:=by
 refine Op.A8 (da:=.tuple [.str a,.str b]) (db:=.tuple [.str c,.str e]) (.aG (gN.strs [a,b])) (.aG (gN.strs [c,e])) ?_ ?_ ?_ ?_
 ·simp[PyData.canLay0,PyData.canLayAll0,ha,hb]
 ·simp[PyData.canLay0,PyData.canLayAll0,hc,he]
 ·simp only[PyData.depth,PyData.depthAll];exact ag3 _
 ·show Q (.bool (!(a==c&&(b==e&&true)))) X;rw[Bool.and_true];exact q
noncomputable def dQ (x:U):Option (List Str):=(nG x).bind qr
theorem rm(h:dQ x=some t):x=bB t:=bE h λl h1 h=>by rw[oY h1,xf h];rfl
theorem acu(ss:List Str):qr (ss.map .str)=some ss:=by
 induction ss with
 |nil=>rfl
 |cons a r ih=>exact(afp (λo:Option (List Str)=>o.map (a::·)) ih)
theorem tF(ss:List Str):dQ (bB ss)=some ss:=acu ss
abbrev ro(r:Ps β):Ps (List Str×β):=nI dQ bB (λ_ _=>rm) r
noncomputable def oa:U->Option Nat
 |.ae (.bz i)=>some i
 |_=>none
theorem oe(h:oa x=some i):x=.ae (.bz i):=by
 cases x with
 |ae l=>
  induction l with
  |bz j=>exact afp (λj=>U.ae (.bz j)) (ack h)
  |_=>exact af h
 |_=>exact af h
noncomputable def pJ:U->Option Nat
 |.ae (.path i)=>some i
 |_=>none
theorem L5(h:pJ x=some i):x=.ae (.path i):=by
 cases x with
 |ae l=>
  induction l with
  |path j=>exact afp (λj=>U.ae (.path j)) (ack h)
  |_=>exact af h
 |_=>exact af h
noncomputable def vW:U->Option Nat
 |.ae (.run i)=>some i
 |_=>none
theorem acv(h:vW x=some i):x=.ae (.run i):=by
 cases x with
 |ae l=>
  induction l with
  |run j=>exact afp (λj=>U.ae (.run j)) (ack h)
  |_=>exact af h
 |_=>exact af h
noncomputable def L6 (y:LN)(i:Int):U:=.aw [.str y.name,.aw y.attrs,.ae (.bz i.toNat)]
def zc(s:LS):Int:=((fS s.path).map (·.1)).getD 0
noncomputable def dy (s:LS)(i:Nat):Option LN:=(s.aa[i]?).bind λx=>if x.tx then none else some x
def zd(s:LS)(i:Nat)(a:Int)(t:Str):Option LS:=(s.aa[i]?).bind λ_=>gd s (i:Int) a t
theorem kj(h:dy s i=some y):s.aa[i]?=some y/\y.tx=false:=bE h λx h1 h=>by
 cases c:x.tx with
 |true=>rw[c]at h;exact af h
 |false=>
  rw[c]at h;apply sE h;exact⟨h1,c⟩
theorem vX(h:cP s i=some y):∃k:Nat,i=(k:Int)/\dy s k=some y:=by
 refine cC (uS h) λk e h1 h2=>?_
 exact⟨k,e,by unfold dy;rw[h1];exact if_neg (by rw[h2];decide)⟩
theorem pK(h:dy s i=some y):(hp b (lG x s) n).get (.bz i)=some (.list (y.kids.map (cf s))):=by
 refine aO (kj h) λh1 h2=>?_
 rw[lI rfl,iM,h1];exact if_neg (by rw[h2];decide)
def DD(x:U):Option Nat:=(nG x).bind λl=>(un l).bind λp=>(un p.2).bind λp=>(un p.2).bind λp=>oa p.1
noncomputable def DE:U->Bool
 |.val (.type "str")=>true
 |_=>false
theorem L7(h:DE x=true):x=.val (.type "str"):=by
 unfold DE at h;split at h
 ·rfl
 ·exact nomatch h
theorem L8:eZ (S "isinstance")=.builtin "isinstance":=rfl
def pL(x y:U):Bool:=@decide (x=y) (Classical.propDecidable _)
theorem DF(h:pL x y=true):x=y:=@afN _ (Classical.propDecidable _) h
theorem DG(h:x=y):pL x y=true:=@afT _ (Classical.propDecidable _) h
def L9(x:U)(z:LS)(a:Str)(k:Fc->Option ρ):Option ρ:=cond (ar yc a) (cv (nG x) (λ_=>k (.m a)) (cv (pJ x) (λj=>cond (Nat.beq j (z.pk+1)) (k (.m a)) none)
 (cv (vW x) (λj=>cond (Nat.beq j z.rk) (k (.m a)) none) (cv (oa x) (λi=>(dy z i).bind λ_=>k (.m a)) (cond (Nat.beq (dP x) 18) (k (.m a)) none))))) none
def DH(x:Str)(xs:List U)(z:LS)(k:U->LS->Option ρ):Option ρ:=
 (un xs).bind λp=>
  cond (x==S "len") (cond (fV p.2) (cv (oa p.1) (λi=>(dy z i).bind λy=>if ay y.kids.length then k (.int y.kids.length) z else none) ((dQ p.1).bind λss=>if ay ss.length then k (.int ss.length) z else none)) none)<|
  cond (x==S "pop") (cond (fV p.2) ((pJ p.1).bind λj=>cond (Nat.beq j (z.pk+1)) ((fT z).bind λz'=>k (cI z (zc z)) z') none) none)<|
  (un p.2).bind λp2=>
   cond (x==S "isinstance") (cond (fV p2.2&&DE p2.1) (cv (dN p.1) (λ_=>k (.bool true) z) ((nG p.1).bind λ_=>k (.bool false) z)) none)<|
   cond (x==S "append") (cond (fV p2.2) (cv (vW p.1) (λj=>cond (Nat.beq j z.rk) ((dN p2.1).bind λa=>if ay z.run.length then k .none {z with run:=z.run++[a]}else none) none)
    (cv (oa p.1) (λi=>(dy z i).bind λy=>(DD p2.1).bind λj=>cond (pL (cf z (j:Int)) p2.1) (if ay y.kids.length then k .none (z.b5 i {y with kids:=y.kids++[(j:Int)]})else none) none)
    (cv (pJ p.1) (λi=>cond (Nat.beq i (z.pk+1)) ((DD p2.1).bind λj=>cond (pL (cI z (j:Int)) p2.1) (if ay z.path.length then k .none {z with path:=z.path++[(j:Int)]}else none) none) none)
    (cond (Nat.beq (dP p.1) 18) ((iO p2.1).bind λt=>(un t).bind λt1=>(un t1.2).bind λt2=>cond (fV t2.2) ((dN t1.1).bind λa=>(dN t2.1).bind λm=>(cW z a m).bind λz'=>k .none z') none) none)))) none)<|
   cond (x==S "index") (cond (fV p2.2) ((dQ p.1).bind λss=>(dN p2.1).bind λa=>if ay ss.length=true/\ar ss a=true then k (.int (ss.idxOf a:Nat)) z else none) none)<|
   cond (x==S "insert") ((un p2.2).bind λp3=>cond (fV p3.2) ((eW p2.1).bind λa=>(oa p.1).bind λi=>(dy z i).bind λy=>cv (dN p3.1) (λt=>if ay y.kids.length=true/\valid z=true/\0<=a/\a<=(y.kids.length:Int)then k .none {z with aa:=(z.aa.set i {y with kids:=y.kids.take a.toNat++(z.aa.length:Int)::y.kids.drop a.toNat})++[⟨true,S "",[],t,[]⟩]}else none) ((DD p3.1).bind λj=>cond (pL (cf z (j:Int)) p3.1) (if ay y.kids.length=true/\0<=a/\a<=(y.kids.length:Int)then k .none (z.b5 i {y with kids:=y.kids.take a.toNat++(j:Int)::y.kids.drop a.toNat})else none) none)) none) none
def Ma(x y:U)(z:LS)(k:U->Option ρ):Option ρ:=cond (Nat.beq (dP x) 5) ((dN y).bind λa=>((j8 z).lookup a).bind k)
 (cv (pJ x) (λj=>cond (Nat.beq j (z.pk+1)) ((eW y).bind λi=>(b9 z.path i).bind λc=>(cP z c).bind λn=>k (L6 n c)) none)
  (cv (oa x) (λi=>(dy z i).bind λn=>(eW y).bind λa=>(b9 n.kids a).bind λc=>(je z c).bind λu=>if u.tx then k (.str u.text)else k (.aw [.str u.name,.aw u.attrs,.ae (.bz c.toNat)]))
  ((nG x).bind λxs=>(eW y).bind λi=>cond (decide (0<=i)&&Nat.blt i.toNat 1000000) ((xs[i.toNat]?).bind k) none)))
def laL(x:U)(z:LS)(k:U->Option ρ):Option ρ:=cv (pJ x) (λj=>cond (Nat.beq j (z.pk+1)) (z.path.getLast?.bind λc=>(cP z c).bind λn=>k (L6 n c)) none)
 ((dQ x).bind λss=>ss.getLast?.bind λa=>k (.str a))
noncomputable def Mb:CmpOp->Bool
 |.Eq=>true
 |_=>false
theorem acw(h:Mb op=true):op=.Eq:=by induction op<;>first|rfl|cases h
noncomputable def Mc:CmpOp->Bool
 |.NotEq=>true
 |_=>false
theorem acx(h:Mc op=true):op=.NotEq:=by induction op<;>first|rfl|cases h
def DI(x:U):Option (Str×Str):=(iO x).bind λt=>(un t).bind λt1=>(un t1.2).bind λt2=>cond (fV t2.2) ((dN t1.1).bind λa=>(dN t2.1).bind λb=>some (a,b)) none
theorem Md(h:DI x=some p):x=.aG [.str p.1,.str p.2]:=
 bE h λt h1 h=>bE h λt1 h2 h=>bE h λt2 h3 h=>cE h λh4 h=>bE h λa h5 h=>bE h λb h6 h=>sE (X:=λp:Str×Str=>x=.aG [.str p.1,.str p.2]) h (by rw[kT h1,lL h2,BO h3 h4,ed h5,ed h6])
def acy(op:CmpOp)(x y:U)(z:LS)(k:U->Option ρ):Option ρ:=cv (dN x) (λa=>cond (isIn op) ((dQ y).bind λss=>k (.bool (ar ss a))) none)
 (cv (iO x) (λ_=>cond (Mc op) ((DI x).bind λp=>(DI y).bind λq=>cond ((PyData.strOk p.1&&PyData.strOk p.2)&&(PyData.strOk q.1&&PyData.strOk q.2)) (k (.bool (!(p.1==q.1&&p.2==q.2)))) none) none)
  (cond (Mb op) ((dQ x).bind λxs=>(dQ y).bind λys=>cond (xs.all PyData.strOk&&ys.all PyData.strOk) (k (.bool (xs==ys))) none) none))
noncomputable def acz (op:Operator)(x y:U)(z:LS)(k:U->Option ρ):Option ρ:=(dN x).bind λa=>(dN y).bind λb=>(match op with
 |.Add=>if a.length+b.length<=1000000 then k (.str (a++b))else none
 |_=>none)
def siL(x y v:U)(z:LS)(k:LS->Option ρ):Option ρ:=(oa x).bind λi=>(dy z i).bind λn=>(eW y).bind λa=>(dN v).bind λt=>(b9 n.kids a).bind λc=>(je z c).bind λu=>if u.tx then(if ay n.kids.length=true/\valid z=true/\nz z i a c=true then k (z.b5 c.toNat {u with text:=t})else none)else none
def evL(f:aP)(e:Expr)(z:LS)(k:U->LS->Option ρ):Option ρ:=(lO (vw e)).bind λx=>cond (x==S "str"&&sD f x) (k (.val (.type "str")) z) none
noncomputable def Me:Kd->Option (Expr×Expr)
 |.sub o i=>some (o,i)
 |_=>none
noncomputable def Mf:Kd->Option Str
 |.const v=>dN v
 |_=>none
noncomputable def Mg:Kd->Option (Expr×Expr)
 |.qH o lo hi=>cond lo.isNone (hi.bind λh=>some (o,h)) none
 |_=>none
def DJ(e:Expr):Option (Str×Str):=(Me (vw e)).bind λq=>(lO (vw q.1)).bind λx=>(Mf (vw q.2)).bind λa=>some (x,a)
noncomputable def Mh:Kd->Option (List Expr)
 |.aw es=>some es
 |_=>none
noncomputable def Mi:Kd->Option (Str×List Expr)
 |.hH x args=>some (x,args)
 |_=>none
noncomputable def Mj:List α->Option (α×α×α)
 |[a,b,c]=>some (a,b,c)
 |_=>none
def Mk(e:Expr):Option (Expr×Expr):=(Mh (vw e)).bind λes=>(Mj es).bind λq=>(Mi (vw q.2.1)).bind λc=>(ye c.2).bind λb=>cond (yd (vw q.2.2)&&(c.1==S "list"&&(jy q.1&&jy b))) (some (q.1,b)) none
def tG(x:U):Option (List U):=cv (iO x) some (nG x)
def stD(d:Nat)(f:aP)(m:Lo)(x:Str)(e:Expr)(z:LS)(k:Fl->Lo->LS->Option ρ):Option ρ:=(Mk e).bind λq=>cond (iu f x&&sD f (S "list")) ((o4 d f m q.1).bind λv=>(dN v).bind λnm=>(o4 d f m q.2).bind λv=>(tG v).bind λas=>if ay as.length=true/\valid z=true then k .next ((x,rj z nm as)::m) (tE z nm as)else none) none
def stA(f:aP)(m:Lo)(x:Str)(e:Expr)(z:LS)(k:Fl->Lo->LS->Option ρ):Option ρ:=(Mg (vw e)).bind λq=>(DJ q.1).bind λx'=>(lO (vw q.2)).bind λy=>cond (x==x'.1&&(x'.2==S "path"&&(iu f x&&iu f y))) ((m.lookup x).bind λv=>cond (Nat.beq (dP v) 5) ((m.lookup y).bind λu=>(eW u).bind λi=>if ay z.path.length=true/\0<=i then k .next m {z with path:=z.path.take i.toNat,pk:=z.pk+1}else none) none) none
def stR(f:aP)(m:Lo)(x:Str)(e:Expr)(z:LS)(k:Fl->Lo->LS->Option ρ):Option ρ:=cond (yd (vw e)&&iu f x) ((m.lookup x).bind λv=>cond (Nat.beq (dP v) 5) (k .next m {z with run:=[],rk:=z.rk+1,old:=some z.run}) none) none
def stK(d:Nat)(f:aP)(m:Lo)(s:Stmt)(z:LS)(k:Fl->Lo->LS->Option ρ):Option ρ:=match s with
 |.Assign ts e _=>(ye ts).bind λt=>cv (lO (vw t)) (λx=>stD d f m x e z k) ((DJ t).bind λx=>cond (x.2==S "path") (stA f m x.1 e z k) (cond (x.2==S "run") (stR f m x.1 e z k) none))
 |_=>none
def DL(ρ:Type)(b:B)(xt:LX)(c:Tl LS ρ)(tb:List (Addr×cg LS ρ)):Dm LS ρ:=
 {hz:=λs n=>hp b (lG xt s) n,o:=0,bi:=eZ,g:=gB,lc:=λ_=>false,mt:=L9,fl:=λ_ _ _=>none,pc:=λ_ _ _=>none,cY:=acy,gP:=acz,item:=Ma,last:=laL,kb:=λ_ _ _ _ _=>none,kS:=siL,tr:=λ_ _ _=>none,call:=xW tb DH,tail:=BI tb DH c.gk,gk:=c.gk,ev:=λ_ f _ e z k=>evL f e z k,st:=stK}
theorem acA(h:Me (vw e)=some q):mW q.2=true/\∃p,e=.Subscript q.1 q.2 p:=by
 have V:=jj e;generalize vw e=k at h V
 induction k with
 |sub o i=>exact sE (X:=λq:Expr×Expr=>mW q.2=true/\∃p,e=.Subscript q.1 q.2 p) h V
 |_=>exact af h
theorem acB(h:Mg (vw e)=some q):∃p p',e=.Subscript q.1 (.Slice none (some q.2) none p) p':=by
 have V:=jj e;generalize vw e=k at h V
 induction k with
 |qH o lo hi=>
  refine cE h λhl h=>bE h λu hu h=>sE (X:=λq:Expr×Expr=>∃p p',e=.Subscript q.1 (.Slice none (some q.2) none p) p') h ?_
  rw[Option.isNone_iff_eq_none.mp hl,hu]at V;exact V
 |_=>exact af h
theorem acC(h:Mf (vw e)=some a)(q:Q (.str a) X):aQ d f m X e Q:=by
 have V:=jj e;generalize vw e=k at h V
 induction k with
 |const v=>refine i3 V λ_ _ _ _ V=>?_;exact V _ _ _ _ _ (ed h▸q)
 |_=>exact af h
theorem DK(h:DJ e=some x):∃o i p p',e=.Subscript o i p/\mW i=true/\o=.Name x.1 p'/\(∀X (Q:U->AH->Prop),Q (.str x.2) X->aQ d f m X i Q):=
 bE h λq h1 h=>bE h λx h2 h=>bE h λa h3 h=>sE (X:=λx:Str×Str=>∃o i p p',e=.Subscript o i p/\mW i=true/\o=.Name x.1 p'/\(∀X (Q:U->AH->Prop),Q (.str x.2) X->aQ d f m X i Q)) h
  (let⟨h4,p,e1⟩:=acA h1;aF (mw h2) λp' e2=>⟨_,_,_,_,e1,h4,e2,λX Q q=>acC h3 q⟩)
theorem acD(h:Mh (vw e)=some es):∃p,e=.List es p:=by
 have V:=jj e;generalize vw e=k at h V
 induction k with
 |aw es=>exact sE (X:=λes=>∃p,e=.List es p) h V
 |_=>exact af h
theorem acE(h:Mi (vw e)=some q):∃p p',e=.Call (.Name q.1 p) q.2 [] p':=by
 have V:=jj e;generalize vw e=k at h V
 induction k with
 |hH x args=>exact sE (X:=λq:Str×List Expr=>∃p p',e=.Call (.Name q.1 p) q.2 [] p') h V.2
 |_=>exact af h
theorem acF{α:Type}{l:List α}{q:α×α×α}(h:Mj l=some q):l=[q.1,q.2.1,q.2.2]:=by
 cases l with
 |nil=>exact af h
 |cons a l=>
  cases l with
  |nil=>exact af h
  |cons b l=>
   cases l with
   |nil=>exact af h
   |cons c l=>
    induction l with
    |nil=>exact sE (X:=λq:α×α×α=>[a,b,c]=[q.1,q.2.1,q.2.2]) h rfl
    |cons=>exact af h
theorem acG(h:Mk e=some q):jy q.1=true/\jy q.2=true/\∃p1 p2 p3 p4,e=.List [q.1,.Call (.Name (S "list") p1) [q.2] [] p2,.List [] p3] p4:=
 bE h λes h1 h=>bE h λt h2 h=>bE h λc h3 h=>bE h λb h4 h=>cE h λhc h=>sE (X:=λq:Expr×Expr=>jy q.1=true/\jy q.2=true/\∃p1 p2 p3 p4,e=.List [q.1,.Call (.Name (S "list") p1) [q.2] [] p2,.List [] p3] p4) h (by
  rw[afi,afi,afi]at hc;refine cps λG k=>?_
  refine aF (acD h1) λp e1=>?_
  refine fN (acE h3) λp1 p2 e2=>?_
  refine aF (B1 hc.1) λp3 e3=>?_
  refine k ?_;rw[acF h2,e2,e3,afr.mp hc.2.1,vd h4]at e1;exact⟨hc.2.2.1,hc.2.2.2,_,_,_,_,e1⟩)
section
variable{b:B}{xt:LX}
theorem V.acH(h:fT s=some s')(q:Q (cI s (zc s)) (hp b (lG xt s') n)):aU d (.builtin "list.pop") [.ae (.path (s.pk+1))] (hp b (lG xt s) n) Q:=
 bE h λr h1 h=>by
  refine aO (Al h1) λe hz=>?_
  have ht:zc s=r.1:=by unfold zc;rw[h1];rfl
  replace q:=ht▸q
  obtain rfl:=ack h;refine Call.i7 (xs:=r.2.map (cI s)) (x:=cI s r.1) ?_ (by rw[afj];exact hz) ?_
  ·rw[nA,e,afz];rfl
  ·rw[kN rfl,Gy];exact q
theorem mJ{xs:List α}(h:ay xs.length=true):(xs.map f).length<=1000000:=by rw[afj];exact ads (d9 h) (by decide)
theorem V.acI{y:LN}(h:dy s i=some y)(ho:ay y.kids.length=true)(q:Q .none (hp b (lG xt (s.b5 i {y with kids:=y.kids++[(j:Int)]})) n)):aU d (.builtin "list.append") [.ae (.bz i),cf s j] (hp b (lG xt s) n) Q:=by
 refine Call.append (xs:=y.kids.map (cf s)) (pK h) (mJ ho) ?_;rw[<-List.map_singleton,<-afz,kN rfl,Gz (kj h).1 (kj h).2];exact q
theorem V.acJ{s:LS}(h:dy s i=some y)(ho:ay y.kids.length=true/\0<=a/\a<=(y.kids.length:Int))(q:Q .none (hp b (lG xt (s.b5 i {y with kids:=y.kids.take a.toNat++(j:Int)::y.kids.drop a.toNat})) n)):aU d (.builtin "list.insert") [.ae (.bz i),.int a,cf s j] (hp b (lG xt s) n) Q:=by
 obtain⟨c,rfl⟩:∃c:Nat,a=c:=⟨a.toNat,by lia⟩
 rw[afv]at q;refine Call.ue (i:=c) (xs:=y.kids.map (cf s)) (pK h) (mJ ho.1) (by rw[afj];lia) ?_
 rw[<-List.map_take,<-ahb,<-agk,<-afz,kN rfl,Gz (kj h).1 (kj h).2];exact q
theorem aU.post(h:aU d g xs X λv H'=>∃bg,AH.Le H' bg/\Q v bg):aU d g xs X Q:=
 λA ρ s vs Qc E room R rv p=>h A ρ s vs Qc E room R rv λy v ag H' s' q R S z r=>ah q λbg l q=>p y v ag bg s' q (R.le l) S z r
theorem V.Ml(hy:dy s i=some y)(hc:b9 y.kids a=some c)(q:Q (cf s c) (hp b (lG xt s) n)):(∃T,d0 (hp b (lG xt s) n) (.ae (.bz i)) T/\gI T)/\br d getItem (.ae (.bz i)) (.int a) (hp b (lG xt s) n) Q:=
 ⟨jE (pK hy),Op.lz (.list (pK hy)) (jD hc) q⟩
theorem V.acK{t:Str}(h:dy s i=some y)(ho:ay y.kids.length=true/\valid s=true/\0<=a/\a<=(y.kids.length:Int))(q:Q .none (hp b (lG xt {s with aa:=(s.aa.set i {y with kids:=y.kids.take a.toNat++(s.aa.length:Int)::y.kids.drop a.toNat})++[⟨true,S "",[],t,[]⟩]}) n)):aU d (.builtin "list.insert") [.ae (.bz i),.int a,.str t] (hp b (lG xt s) n) Q:=by
 obtain⟨c,rfl⟩:∃c:Nat,a=c:=⟨a.toNat,by lia⟩
 rw[afv]at q;refine aU.post (Call.ue (i:=c) (xs:=y.kids.map (cf s)) (pK h) (mJ ho.1) (by rw[afj];lia) ?_)
 rw[kN rfl];exact⟨_,xx (Sv ho.2.1 (kj h).1 (kj h).2),q⟩
theorem V.acL(h:dy s i=some y)(hc:b9 y.kids a=some c)(hu:je s c=some u)(ht:u.tx=true)(ho:ay y.kids.length=true/\valid s=true/\nz s i a c=true)(q:Q (hp b (lG xt (s.b5 c.toNat {u with text:=t})) n)):l5 d (.ae (.bz i)) (.int a) (.str t) (hp b (lG xt s) n) Q:=by
 refine cC (gK hc) λj ej _ hj=>?_
 refine Set.Am (xs:=y.kids.map (cf s)) (y:=cf s c) (pK h) (jD hc) (by rw[afj];exact ho.1) ?_
 have e:=SG (x:=xt) (t:=t) ho.2.1 (kj h).1 (kj h).2 hj hu ht (ej▸ho.2.2);rw[ej,afv,kN rfl,e];exact q
theorem V.acM{Q:U->AH->Prop}(ho:ay s.path.length=true)(q:Q .none (hp b (lG xt {s with path:=s.path++[(j:Int)]}) n)):aU d (.builtin "list.append") [.ae (.path (s.pk+1)),cI s j] (hp b (lG xt s) n) Q:=by
 refine Call.append (xs:=s.path.map (cI s)) nA (mJ ho) ?_;rw[<-List.map_singleton (f:=cI s) (a:=(j:Int)),<-afz,kN rfl,Gy];exact q
theorem DN(h:vW x=some j)(e:Nat.beq j k=true):x=.ae (.run k):=by rw[acv h,afB e]
theorem vY(h:pJ x=some j)(e:Nat.beq j k=true):x=.ae (.path k):=by rw[L5 h,afB e]
theorem acN(h:L9 x z a k=some r){P:Prop}(g:∀c,k c=some r->(∀n,mq (hp b (lG xt z) n) x a (lQ c))->P):P:=
 cE h λe3 h=>oE h (λl e h=>g _ h λn=>my (oY e) (mx (.aw _) e3)) λh=>oE h (λj e h=>cE h λe2 h=>g _ h λn=>my (vY e e2) (mx (.list nA) e3))
  λh=>oE h (λj e h=>cE h λe2 h=>g _ h λn=>my (DN e e2) (mx (.list xy) e3)) λh=>oE h (λi e h=>bE h λy e2 h=>g _ h λn=>my (oe e) (mx (.list (pK e2)) e3))
  λh=>cE h λe h=>g _ h λn=>my (eX e) (mx (.list Bc) e3)
theorem Mm:xY (λs n=>hp b (lG xt s) n) eZ r DH:=λx xs z k h P g=>
 bE h λp e1 h=>dE h (λe h=>cE h λe2 h=>oE h (λi ei h=>bE h λy hy h=>cu h λho h=>g _ _ h λd n Q q=>gQ (gR e BQ) (sO e1 e2 (oe ei)) (Call.len (.list (pK hy)) (mJ ho) (by rw[afj];exact q n)))
  λh=>bE h λss e3 h=>cu h λho h=>g _ _ h λd n Q q=>gQ (gR e BQ) (sO e1 e2 (rm e3)) (V.aco ho (q n))) λ_ h=>
 dE h (λe h=>cE h λe2 h=>bE h λj ej h=>cE h λek h=>bE h λz' hz h=>g _ _ h λd n Q q=>gQ (gR e BR) (sO e1 e2 (vY ej ek)) (V.acH hz (q n))) λ_ h=>bE h λp2 e2 h=>
 dE h (λe h=>cE h λe3 h=>oE h (λt ht h=>g _ _ h λd n Q q=>gQ (gR e L8) (kg e1 e2 (gS e3) (ed ht) (L7 (gw e3))) (Call.isStr (q n))) λh=>bE h λl hl h=>g _ _ h λd n Q q=>gQ (gR e L8) (kg e1 e2 (gS e3) (oY hl) (L7 (gw e3))) (Call.Pp (.aw _) (q n))) λ_ h=>
 dE h (λe h=>cE h λe3 h=>oE h (λj ej h=>cE h λek h=>bE h λa ha h=>cu h λho h=>g _ _ h λd n Q q=>gQ (gR e oZ) (kg e1 e2 e3 (DN ej ek) (ed ha)) (V.acr ho (q n)))
  λh=>oE h (λi ei h=>bE h λy hy h=>bE h λj _ h=>cE h λhk h=>cu h λho h=>g _ _ h λd n Q q=>gQ (gR e oZ) (kg e1 e2 e3 (oe ei) (DF hk).symm) (V.acI hy ho (q n)))
  λh=>oE h (λi ei h=>cE h λek h=>bE h λj _ h=>cE h λhk h=>cu h λho h=>g _ _ h λd n Q q=>gQ (gR e oZ) (kg e1 e2 e3 (vY ei ek) (DF hk).symm) (V.acM ho (q n)))
  λh=>cE h λel h=>bE h λt f1 h=>bE h λt1 f2 h=>bE h λt2 f3 h=>cE h λf4 h=>bE h λa f5 h=>bE h λm f6 h=>bE h λz' hz h=>g _ _ h λd n Q q=>gQ (gR e oZ) (kg e1 e2 e3 (eX el) (HW f1 f2 f3 f4 f5 f6)) (V.acj hz (q n))) λ_ h=>
 dE h (λe h=>cE h λe3 h=>bE h λss f1 h=>bE h λa f2 h=>cu h λho h=>g _ _ h λd n Q q=>gQ (gR e BS) (kg e1 e2 e3 (rm f1) (ed f2)) (Call.Se (.aw _) (ads (d9 ho.1) (by decide)) (ka.mp ho.2) (q n))) λ_ h=>
 cE h λe h=>bE h λp3 e3 h=>cE h λe4 h=>bE h λa f1 h=>bE h λi f2 h=>bE h λy hy h=>oE h (λt ht h=>cu h λho h=>g _ _ h λd n Q q=>gQ (gR e ya) (BU e1 e2 e3 e4 (oe f2) (dO f1) (ed ht)) (V.acK hy ho (q n)))
  λh=>bE h λj _ h=>cE h λhk h=>cu h λho h=>g _ _ h λd n Q q=>gQ (gR e ya) (BU e1 e2 e3 e4 (oe f2) (dO f1) (DF hk).symm) (V.acJ hy ho (q n))
theorem acO(h:tG x=some as):d8 X x as\/x=.aG as:=oE h (λa h1 h=>.inr (sE (X:=λas=>x=.aG as) h (kT h1))) λh=>.inl (oY h▸.aw as)
theorem acP(h:stK d f m s z k=some r)(Q:Fl->Lo->AH->Prop)(q:∀fl m' z' n',k fl m' z'=some r->Q fl m' (hp b (lG xt z') n'))(n:Nat):dh (0+d) f m (hp b (lG xt z) n) s Q:=by
 induction s using Stmt.casesOn with
 |Assign ts e p=>
  refine bE h λt h1 h=>oE h (λx h2 h=>bE h λqq h3 h=>cE h λhc h=>bE h λv1 h4 h=>bE h λnm h5 h=>bE h λv2 h6 h=>bE h λas h7 h=>cu h λho h=>?_) λh=>bE h λx h2 h=>dE h (λhx h=>bE h λqq h3 h=>bE h λx' h4 h=>bE h λy h5 h=>cE h λhc h=>bE h λv h6 h=>cE h λhl h=>bE h λu h7 h=>bE h λi h8 h=>cu h λho h=>?_) λ_ h=>cE h λhx h=>cE h λhc h=>bE h λv h3 h=>cE h λhl h=>?_
  ·rw[afi]at hc;refine cps λG k=>?_
   refine aF (mw h2) λp1 e1=>?_
   refine dG (acG h3) λn1 n2 hh=>lU hh λp2 p3 p4 p5 e2=>?_
   refine k ?_;have PV:∀(X:AH) (e:Expr) (v:U),o4 d f m e=some v->jP (0+d) f m X e v:=λX=>(xQ (d:=d) (f:=f) (m:=m) (qJ (r:=()) cw) X 0 9).E
   rw[vd h1,e1,e2];refine Ex.assign (cQ hc.1) (Ev.list (aI.cons (PV _ _ _ h4 _ (aI.cons (Ev.wJ xb (dj hc.2) (aI.cons (PV _ _ _ h6 _ (aI.nil (Call.Ac (acO h7) (ads (d9 ho.1) (by decide)) (aI.cons (Ev.j0 (.bz z.aa.length) (aI.nil ⟨afw _,afm _,?_⟩)) rfl)))) n2) (by show(jy _&&true)=true;rw[n2];rfl)) rfl)) n1)) rfl
   rw[lJ rfl,Su ho.2,ed h5];exact aI.nil ⟨afo rfl,q _ _ _ _ h⟩
  ·rw[afi,afi,afi]at hc;refine cps λG k=>?_
   refine lV (DK (d:=0+d) (f:=f) (m:=m) h2) λo i1 p1 p2 e1 n1 e2 v1=>?_
   refine fN (acB h3) λp3 p4 e3=>?_
   refine lV (DK (d:=0+d) (f:=f) (m:=m) h4) λo2 i2 p5 p6 e4 n2 e5 v2=>?_
   refine aF (mw h5) λp7 e6=>?_
   obtain⟨j,rfl⟩:∃j:Nat,i=j:=⟨i.toNat,by lia⟩
   refine k ?_;rw[vd h1,e1,e2,e3,e4,e5,e6,<-afr.mp hc.1];rw[eX hl]at h6;rw[dO h8]at h7;exact yf.post (Ex.ui (Ev.Sh (Ev.sub (Ev.local (.of h6) (cQ hc.2.2.1) (v2 _ _ (by rw[afr.mp hc.2.1];exact V.LR (Ev.local (.of h7) (cQ hc.2.2.2) ⟨.path (z.pk+2),z.path.map (cI z),j,.list nA,rfl,by rw[afj];exact ads (d9 ho.1) (by decide),afY _,by
    rw[<-List.map_take,lJ rfl];refine Ev.local (.of h6) (cQ hc.2.2.1) (v1 _ _ (Set.map (es:=j8 z) ((lI rfl).trans (AH.bQ _ _ (by intro e;cases e))) (show 3<=1000 by decide) ?_))
    rw[kN rfl,afr.mp hx];exact⟨_,xx SI,q _ _ _ _ h⟩⟩)))) n2)) rfl)
  ·rw[afi]at hc;refine lV (DK (d:=0+d) (f:=f) (m:=m) h2) λo i1 p1 p2 e1 n1 e2 v1=>?_
   refine aF (B1 hc.1) λp3 e3=>?_
   rw[vd h1,e1,e2,e3];rw[eX hl]at h3;exact yf.post (Ex.ui (Ev.j0 (.run (z.rk+1)) (aI.nil ⟨afw _,afY _,by
    rw[lJ rfl];refine Ev.local (.of h3) (cQ hc.2) (v1 _ _ (Set.map (es:=j8 z) ((lI rfl).trans (AH.bQ _ _ (by intro e;cases e))) (show 3<=1000 by decide) ?_))
    rw[kN rfl,afr.mp hx];exact⟨_,xx SJ,q _ _ _ _ h⟩⟩)) rfl)
 |_=>exact af h
theorem jv{r:ρ}(vg:∀e,e∈tb->cJ (DL ρ b xt c tb) r e.1 e.2):iz (DL ρ b xt c tb) r where
 g x c h:=by induction c<;>exact yg h
 lc a h:=nomatch h
 mt x z a k h P g:=acN (b:=b) (xt:=xt) h λc h1 h2=>g c h1 λn=>by have:=h2 n;induction c<;>exact this
 fl x z a v h n:=af h
 pc d a xs y h z n Q q:=af h
 cY op x y z k h P g:=oE h (λa h1 h=>cE h λhc h=>bE h λss h2 h=>g _ h λd n Q q=>sN (H7 hc) (ed h1) (rm h2) (Op.Pn (.aw _) q))
  λh=>oE h (λ_ _ h=>cE h λhc h=>bE h λp h1 h=>bE h λp2 h2 h=>cE h λho h=>g _ h λd n Q q=>sN (acx hc) (Md h1) (Md h2) (V.acs (gS (gS ho)) (gw (gS ho)) (gS (gw ho)) (gw (gw ho)) q))
  λh=>cE h λhc h=>bE h λxs h1 h=>bE h λys h2 h=>cE h λho h=>g _ h λd n Q q=>sN (acw hc) (rm h1) (rm h2) (V.acq (gS ho) (gw ho) q)
 gP op x y z k h P g:=bE h λa h1 h=>bE h λb h2 h=>by
  induction op with
  |Add=>exact cu h λhl h=>g _ h λd n Q q=>by rw[ed h1,ed h2];exact Op.cat hl q
  |_=>exact af h
 item x y z k h P g:=dE h (λhc h=>bE h λa h1 h=>bE h λv h2 h=>g _ h λd n Q q=>lN (eX hc) (ed h1) ⟨⟨_,.map oW,ug⟩,Op.uh oW h2 q⟩)
  λ_ h=>oE h (λj ej h=>cE h λek h=>bE h λi hi h=>bE h λc hc h=>bE h λy hy h=>g _ h λd n Q q=>lN (vY ej ek) (dO hi) (V.LU hc hy q))
  λh=>oE h (λi ei h=>bE h λy' hy h=>bE h λa ha h=>bE h λc hc h=>bE h λu hu h=>iE h (λht h=>g _ h λd n Q q=>lN (oe ei) (dO ha) (V.Ml hy hc (by rw[LV hu];exact(rT ht).symm▸q))) λht h=>g _ h λd n Q q=>lN (oe ei) (dO ha) (V.Ml hy hc (by rw[LV hu];exact(rF ht).symm▸q)))
  λh=>bE h λxs h1 h=>bE h λi h2 h=>cE h λho h=>bE h λv h3 h=>g _ h λd n Q q=>lN (oY h1) ((dO h2).trans (afp U.int (af9 (afN (gS ho))).symm)) ⟨qf,Op.item (.aw _) (Nat.blt_eq.mp (gw ho)) h3 q⟩
 last x z k h P g:=oE h (λj ej h=>cE h λek h=>bE h λc hc h=>bE h λy hy h=>g _ h λd n Q q=>lN (vY ej ek) rfl (V.last hc hy q))
  λh=>bE h λss h1 h=>bE h λa h2 h=>g _ h λd n Q q=>lN (rm h1) rfl (by
   refine aF (agh.mp h2) λr e=>?_
   exact e▸⟨qf,Op.z5 (xs:=r.map .str) (y:=.str a) (by exact ab5▸.aw _) q⟩)
 kb a x v z k h:=af h
 kS x y v z k h P g:=bE h λi ei h=>bE h λy' hy h=>bE h λa ha h=>bE h λt ht h=>bE h λc hc h=>bE h λu hu h=>cu h λj9 h=>cu h λho h=>g _ h λd n Q q=>B2 (oe ei) (dO ha) (ed ht) (V.acL hy hc hu j9 ho (q n))
 tr x z k h:=af h
 call d c xs z k h Q q n:=BJ Mm vg h Q q n
 tail d c xs z h Q q n:=HS Mm vg h Q q n
 ev d f m e z k h Q q n:=bE h λx h1 g=>cE g λhc g=>by
  refine aF (mw h1) λp e1=>?_
  rw[e1,afr.mp (gS hc)];exact Ev.ll AE (afr.mp (gS hc)▸dj (gw hc)) (q _ _ _ g)
 st d f m s z k h Q q n:=acP h Q q n
end
theorem bS(h:o=some a)(g:F a=r):o.bind F=r:=by exact h▸g
abbrev acQ:aX:=aY (H.az 91) "_law_is_blank" 933 932 [S "sign"] []
theorem acR:ao 933 acQ:=ao.o1
abbrev DO:aX:=aY (H.az 94) "_law_holds" 952 951 [S "parts"] []
theorem acS:ao 952 DO:=ao.o1
abbrev vZ:aX:=aY (H.az 92) "_law_mode" 940 939 [S "names"] []
theorem acT:ao 940 vZ:=ao.o1
abbrev Mn:aX:=aY (H.az 95) "_law_names" 957 956 [S "state"] []
theorem acU:ao 957 Mn:=ao.o1
theorem Mo{hz:Z->Nat->AH}{Q:U->AH->Prop}(q:∀n,Q (.bool c) (hz z n)):∀(fl:Fl) (m:Lo) (z':Z) (n':Nat),lM fl m z'=some (c,z)->Q fl.val (hz z' n'):=λfl m z' n' e=>
 bE e λc' e1 e2=>aO (Prod.mk.inj (ack e2)) λe3 e4=>e4▸iw e1▸e3▸q n'
theorem Mp{t:Str}(q:Q (.bool (hB t)) X):aU 1 (.ref 933) [.str t] X Q:=
 run (D:=DP (Bool×AH) []) (xs:=[.str t]) (d:=0) (z:=X) (tf:=false) (ht:=λe=>nomatch e) (r:=(hB t,X)) (fin:=lM) (qJ cw) acR (h:=by kernel_rfl) (q:=Mo λ_=>q) (n:=0) (hl:=by kernel_rfl)
section
variable(s:LS)(ps:List Str)
def acV:Option (Bool×LS):=(dQ (bB ps)).bind λss=>if ay ss.length then(if decide (0<(ss.length:Int)) then(dQ (bB ps)).bind λss=>ss.getLast?.bind λa=>some (ar [S "caption",S "td",S "th"] a,s)else some (decide (0<(ss.length:Int)),s))else none
theorem acW:(ms (DL (Bool×LS) b xt au []) 60).L 0 DO.cq [(S "parts",bB ps)] DO.body s false lM=acV s ps:=by kernel_rfl
end
theorem acX{xt:LX}{ps:List Str}(hz:ay ps.length=true)(q:∀n,Q (.bool (fk ps)) (hp b (lG xt s) n)):aU 1 (.ref 952) [bB ps] (hp b (lG xt s) n) Q:=
 run (D:=DL (Bool×LS) b xt au []) (xs:=[bB ps]) (d:=0) (z:=s) (tf:=false) (ht:=λe=>nomatch e) (r:=(fk ps,s)) (fin:=lM) (jv cw) acS (h:=(acW s ps).trans (bS (tF ps) ((if_pos hz).trans (by
  delta fk
  cases c:decide (0<(ps.length:Int))with
  |false=>rfl
  |true=>refine bS (tF ps) ?_;cases e:ps.getLast? with
   |some x=>rfl
   |none=>rw[List.getLast?_eq_none_iff.mp e]at c;exact nomatch c)))) (q:=Mo q) (n:=n) (hl:=by kernel_rfl)
section
variable{b:B}{G:AH}{n:Nat}{Q:U->AH->Prop}
theorem Mq(q:∀n,Q (.str (dt ns)) (hp b G n)):aU 2 (.ref 940) [bB ns] (hp b G n) Q:=by
 refine acT.go (d:=1) (m:=[(S "names",bB ns)]) (body:=[stI vZ.body 0,stI vZ.body 1,stI vZ.body 2,stI vZ.body 3]) rfl rfl rfl ?_;refine Ex.bu (s':=?s0) ?e0 ?_;case e0=>conv=>lhs;whnf
 with_reducible refine Ex.cons (Ex.assign (cQ ?hx) ?_)
 case hx=>rfl
 with_reducible refine Ev.se (.aK n) ?k3 L.lC ?dd ?r1 ?r2 ?r3 ?r4
 case k3=>exact qx
 case r1=>rfl
 case r2=>rfl
 case r3=>exact nofun
 case r4=>decide
 case dd=>
 iterate 9 with_reducible refine fE.cons (Ev.str ?_)
 with_reducible refine fE.nil ⟨?r1,?r2,?_⟩
 case r1=>exact AH.bP ..
 case r2=>exact ab6
 rw[nq];refine Ex.bu (s':=?s1) ?e1 ?_;case e1=>conv=>lhs;whnf
 with_reducible refine Ex.cons (Ex.assign (cQ ?hx) (aJ (v:=.str (S "in body")) ?hv ?_))
 case hx=>rfl
 case hv=>rfl
 refine Ex.bu (s':=?s2) ?e2 ?_;case e2=>conv=>lhs;whnf
 with_reducible refine Ex.cons (Ex.forIn (cQ ?hx) (λi m' H'=>H'=(hp b G n).add (.aK n) (.map y9)/\bU [(S "mode",.str ((ns.take i).foldl jf (S "in body"))),(S "told",.ae (.aK n))] m') (ns.map .str) (aJ (v:=bB ns) ?hv ⟨⟨rfl,?l0⟩,λ_ _ _ _=>.aw _⟩) ?turn ?done)
 case hx=>rfl
 case hv=>rfl
 case l0=>exact .of (aD rfl (aD rfl cw))
 case turn=>
  intro i y m' H' I e;refine aO I λjd l=>?_;subst jd
  refine ah (za e) λz e1 aM=>?_;subst aM
  refine Ex.sub l.both (Ex.cons (Ex.assign (cQ rfl) ?_));with_reducible refine Ev.uo PySem.F.slot_dict_get agW PySem.F.type_dict_get (aJ (v:=.ae (.aK n)) ?hv ⟨?hm,aI.cons (aJ (v:=.str z) ?h1 (aI.cons (aJ (v:=.str ((ns.take i).foldl jf (S "in body"))) ?h2 (aI.nil (Call.get (es:=y9) ?hg ?_)))))⟩) ?h0
  case h0=>rfl
  case hv=>rfl
  case h1=>rfl
  case h2=>rfl
  case hm=>exact .map (AH.bP ..)
  case hg=>exact AH.bP ..
  rw[ab7,<-ab8 e1];exact Ex.nil ⟨rfl,.of (aD rfl (aD rfl cw))⟩
 case done=>
  intro m' H' I;refine aO I λjd l=>?_;subst jd
  rw[afj,List.take_length]at l;refine Ex.nil (Ex.sub l ?_);refine Ex.bu (s':=?s3) ?e3 ?_;case e3=>conv=>lhs;whnf
  with_reducible refine Ex.cons (Ex.ret (aJ (v:=.str (dt ns)) ?hv ?_))
  case hv=>rfl
  exact⟨_,rW,q _⟩
end
section
variable{b:B}{x:LX}{s:LS}{n:Nat}{Q:U->AH->Prop}
theorem Mr(ck:cV s=true)(q:Q (bB (bc s)) (hp b (lG x s) n)):aU 1 (.ref 957) [.ae .state] (hp b (lG x s) n) Q:=by
 refine acU.go (d:=0) (m:=[(S "state",.ae .state)]) (body:=[stI Mn.body 0]) rfl rfl rfl ?_;refine Ex.bu (s':=?s0) ?e0 ?_;case e0=>conv=>lhs;whnf
 with_reducible refine Ex.cons (Ex.ret ?_)
 refine Ev.uM (cs:=pI [(S "node",.local)]) rfl (.aK n) (λ_=>true) Dx (Ev.sub (aJ (v:=.ae .state) rfl (Ev.str ⟨⟨_,.map oW,ug⟩,Op.uh (y:=.ae (.path (s.pk+1))) oW rfl ⟨s.path.map (cI s),⟨.list nA,L.lC,?len,?no,?ok⟩,?_⟩⟩))) ?f1 ?f2 ?f3
 case f1=>rfl
 case f2=>rfl
 case f3=>rfl
 case len=>rw[afj];exact ads (vQ ck) (by decide)
 case no=>
  intro y hy _;refine ah (afQ.mp hy) λi hi aM=>?_;subst aM
  refine aF (Dy ck i hi) λz hz=>?_
  rw[uT hz];exact .str _
 case ok=>
  intro Lp y hy acc;refine ah (afQ.mp hy) λi hi aM=>?_;subst aM
  refine aF (Dy ck i hi) λz hz=>?_
  rw[uT hz];exact⟨rfl,λ_=>aJ (v:=.str z.name) rfl ⟨rfl,rfl⟩⟩
 rw[aca ck];exact⟨_,.refl _,q⟩
end
def Mt(f:aP)(x:Str):Bool:=nH f.cs&&(!(x==("__debug__":Str))&&f.cs.names.lookup x==some .cell)
theorem oh(h:Mt f x=true):eT f x .cell:=⟨xO (gS h),.of (afr.mp (gw (gw h))),by have h:=gS (gw h);rw[afH]at h;exact h⟩
section
variable{b:B}{G:AH}{n:Nat}{Q:U->AH->Prop}
theorem acY(hz:ay ns.length=true)(q:∀n,Q (.aG [.int (cy ns),bB (cH ns)]) (hp b G n)):aU 2 (.ref 945) [bB ns] (hp b G n) Q:=by
 have eO:=d9 hz;refine Call.SK (names:=[S "names"]) (body:=?b) (scope:=?s) [(S "names",bB ns)] (S "parts") (S "place") (.aK n) (.aK (n+1)) (ho:=Q4) (hc:=Q3) (hv:=rfl) (hi:=by kernel_rfl) (hq:=by kernel_rfl) (hbind:=all1 λa=>?hb) (eb:=?eb) (es:=?es) (hloc:=zT (.of (by kernel_rfl)) zS) (fB:=?cs) (hx:=Oz rfl) (ie:=rfl) (xr:=L.lC) (xu:=agc n) (hne:=Ne.symm Dz) (h:=?h) (hs:=?hs)
 case eb=>conv=>lhs;whnf
 case es=>conv=>lhs;whnf
 case cs=>intro L;kernel_rfl
 case hs=>rfl
 case hb=>rfl
 show bG _ _ _ (lT (hp b G n) n none none) _ _;with_reducible refine Ex.cons (Ex.wO (l:=.aK n) ?hc (oh ?hx) (aJ (v:=.aG (iq.map .str)) ?hv ⟨⟨_,DA⟩,?_⟩))
 case hc=>rfl
 case hx=>rfl
 case hv=>rfl
 rw[acd];with_reducible refine Ex.cons (Ex.wO (l:=.aK (n+1)) ?hc (oh ?hx) (aJ (v:=.int (-1)) ?hv ⟨⟨_,vR⟩,?_⟩))
 case hc=>rfl
 case hx=>rfl
 case hv=>rfl
 rw[LP];with_reducible refine Ex.cons (Ex.Aa 0 ns.length 1 ns.length (λi m' H'=>H'=lT (hp b G n) n (some (.aG (iq.map .str))) (some (.int (hC (ns.take i) 0 (-1))))/\bU [(S "names",bB ns)] m') xa (cQ ?hx) (dj ?hy) (aI.cons (Ev.ua uD (dj ?hz) (aI.cons (aJ (v:=bB ns) ?hv (aI.nil (Call.len (xs:=ns.map .str) (.aw _) ?hl (aI.nil ⟨?ra,rfl,?l0⟩))))))) ?turn ?done)
 case hx=>rfl
 case hy=>rfl
 case hz=>rfl
 case hv=>rfl
 case hl=>rw[afj];exact ads eO (by decide)
 case ra=>rw[afj];exact .up (n:=(ns.length:Int)) (by exact afI _) (by lia)
 case l0=>exact .of (aD rfl cw)
 case turn=>
  intro i m' H' I hi;refine aO I λjd l=>?_;subst jd
  have e1:ns[i]?=some ns[i]:=afq hi;have pt:=acf e1;rw[Int.mul_one,Int.zero_add];refine Ex.sub l.both ?_;with_reducible refine Ex.cons (Ex.ite (Ts.cY (Ev.sub (aJ (v:=bB ns) ?hv (aJ (v:=.int (i:Int)) ?hw ⟨qf,Op.item (xs:=ns.map .str) (y:=.str ns[i]) (i:=i) (.aw _) ?hm ?hy (Ev.str (Op.wK (Tr.bool ?_)))⟩)))))
  case hv=>rfl
  case hw=>rfl
  case hm=>exact bh (ads ‹_› ‹_›)
  case hy=>rw[afG,e1];rfl
  cases c:(ns[i]==S "table")
  ·rw[c]at pt;exact kI rfl (Ex.nil (Ex.nil ⟨by rw[pt];rfl,.of (aD rfl cw)⟩))
  ·rw[c]at pt;refine qt rfl ?_;with_reducible refine Ex.cons (Ex.wO (l:=.aK (n+1)) ?hc (oh ?hx) (aJ (v:=.int (i:Int)) ?hv ⟨⟨_,vR⟩,?_⟩))
   case hc=>rfl
   case hx=>rfl
   case hv=>rfl
   rw[LP];exact Ex.nil (Ex.nil ⟨by rw[pt];rfl,.of (aD rfl cw)⟩)
 case done=>
  intro m' H' I;refine aO I λjd l=>?_;subst jd
  rw[List.take_length];have hb:=DC ns;refine Ex.nil (Ex.sub l ?_);show bG _ _ _ (lT (hp b G n) n (some (.aG (iq.map .str))) (some (.int (cy ns)))) _ _;with_reducible refine Ex.cons (Ex.ret (Ev.tuple (aI.cons (Ev.cell (l:=.aK (n+1)) ?hc (.inl (oh ?hx)) vR (aI.cons ?_)))))
  case hc=>rfl
  case hx=>rfl
  refine Ev.uM (cs:=pI [(S "name",.local),(S "parts",.cell),(S "place",.cell)]) rfl (.aK (n+2)) (vS (cy ns)) id (Ev.Fi (aJ (v:=bB ns) rfl ?_)) ?f1 ?f2 ?f3;case f1=>rfl
  case f2=>rfl
  case f3=>rfl
  with_reducible refine Ev.rK (Ev.cell (l:=.aK (n+1)) ?hc (.inl (oh ?hx)) vR (aJ (v:=.int 1) ?hv (Op.add ?_)))
  case hc=>rfl
  case hx=>rfl
  case hv=>rfl
  refine⟨ns.map .str,(cy ns+1).toNat,.aw _,by rw[af9 (by lia)],by rw[afj];lia,by rw[afj];exact ads eO (by decide),(ns.map .str).drop (cy ns+1).toNat,⟨.aw _,ace (agq n 2) (afm _),?len,?no,?ok⟩,?_⟩
  case len=>rw[ag4,afj];exact bh (ads (Nat.sub_le _ _) eO)
  case no=>
   intro y hy _;refine ah (afQ.mp (agt hy)) λz hz aM=>?_;subst aM
   exact .str _
  case ok=>
   intro Lp y hy acc;refine ah (afQ.mp (agt hy)) λz hz aM=>?_;subst aM
   refine⟨?_,λ_=>aJ (v:=.str z) rfl ⟨rfl,rfl⟩⟩
   show eH _ _ _ _ _ _;with_reducible refine Ts.and (Ts.cY (Ev.cell (l:=.aK (n+1)) (v:=.int (cy ns)) ?hc (.inl (oh ?hx)) ?hg (aJ (v:=.int 0) ?hv (Op.E1 (Tr.bool ?_)))))
   case hc=>rfl
   case hx=>rfl
   case hv=>rfl
   case hg=>exact(AH.bQ _ _ (by intro e;injection e with e;exact nomatch e)).trans vR
   cases c:decide (0<=cy ns)
   ·exact kI rfl ⟨by unfold vS;rw[c];rfl,rfl⟩
   ·refine qt rfl ?_;with_reducible refine Ts.and (Ts.cY (aJ (v:=.str z) ?hv (Ev.cell (l:=.aK n) (v:=.aG (iq.map .str)) ?hc (.inl (oh ?hx)) ?hg (Op.FR (Tr.bool ?_)))))
    case hc=>rfl
    case hx=>rfl
    case hv=>rfl
    case hg=>exact(AH.bQ _ _ (by intro e;injection e with e;exact nomatch e)).trans DA
    cases c2:ar iq z
    ·exact kI rfl ⟨by unfold vS;rw[c];exact c2.symm,rfl⟩
    ·exact qt rfl (Ts.EX ⟨by unfold vS;rw[c];exact c2.symm,rfl⟩)
  have e3:(((ns.map U.str).drop (cy ns+1).toNat).filter (vS (cy ns))).map id=(cH ns).map .str:=by
   rw[List.map_id,<-ahb];exact acg ns
  rw[e3];exact aI.nil ⟨afo rfl,_,acb,q _⟩
end
abbrev DQ:aX:=aY (H.az 96) "_law_put" 964 963 [S "kids",S "at",S "sign"] []
theorem acZ:ao 964 DQ:=ao.o3
section
variable(s:LS)(i:Nat)(a:Int)(t:Str)
def DR:Option LS:=(dy s i).bind λ_=>(dy s i).bind λy=>if ay y.kids.length=true/\valid s=true/\0<=a/\a<=(y.kids.length:Int)then some {s with aa:=(s.aa.set i {y with kids:=y.kids.take a.toNat++(s.aa.length:Int)::y.kids.drop a.toNat})++[⟨true,S "",[],t,[]⟩]}else none
def ac0:Option LS:=(dy s i).bind λn=>(b9 n.kids (a-1)).bind λc=>(je s c).bind λu=>if u.tx then(if u.text.length+t.length<=1000000 then(dy s i).bind λn=>(b9 n.kids (a-1)).bind λc=>(je s c).bind λu'=>if u'.tx then(if ay n.kids.length=true/\valid s=true/\nz s i (a-1) c=true then some (s.b5 c.toNat {u' with text:=u.text++t})else none)else none else none)else none
def Mu:Option LS:=if decide (0<a) then(dy s i).bind λn=>(b9 n.kids (a-1)).bind λc=>(je s c).bind λu=>if u.tx then ac0 s i a t else DR s i a t else DR s i a t
theorem ac1:(ms (DL LS b xt aW []) 60).L 0 DQ.cq [(S "sign",.str t),(S "at",.int a),(S "kids",.ae (.bz i))] DQ.body s true jk=Mu s i a t:=by kernel_rfl
end
theorem ac2{i:Nat}(h:gd s (i:Int) a t=some r):Mu s i a t=some r:=bE h λy hy h=>by
 refine ah (vX hy) λk e hj=>?_
 obtain rfl:i=k:=Int.ofNat.inj e;have eV:(if ay y.kids.length=true/\valid s=true/\0<=a/\a<=(y.kids.length:Int)then some {s with aa:=(s.aa.set i {y with kids:=y.kids.take a.toNat++(s.aa.length:Int)::y.kids.drop a.toNat})++[(⟨true,S "",[],t,[]⟩:LN)]}else none)=some r->DR s i a t=some r:=λh=>bS hj (bS hj h)
 refine iE h (λc h=>(if_pos c).trans (bE h λk hk h=>bE h λu hu h=>bS hj (bS hk (bS hu ?_)))) λc h=>(if_neg (by rw[c];decide)).trans (eV h)
 exact iE h (λht h=>cu h λho h=>(if_pos ht).trans (bS hj (bS hk (bS hu ((if_pos ht).trans ((if_pos ho.2.2.2).trans (bS hj (bS hk (bS hu ((if_pos ht).trans ((if_pos ⟨ho.1,ho.2.1,ho.2.2.1⟩).trans h))))))))))) λht h=>(if_neg (by rw[ht];decide)).trans (eV h)
theorem ac3{xt:LX}{n i:Nat}(h:gd s (i:Int) a t=some s')(q:∀n,Q .none (hp b (lG xt s') n)):aU 1 (.ref 964) [.ae (.bz i),.int a,.str t] (hp b (lG xt s) n) Q:=
 run (D:=DL LS b xt aW []) (xs:=[.ae (.bz i),.int a,.str t]) (d:=0) (z:=s) (tf:=true) (ht:=λ_ _ _=>rfl) (fin:=jk) (r:=s') (jv cw) acZ (h:=(ac1 s i a t).trans (ac2 h)) (q:=λfl m z' n' e=>cE e λe1 e2=>by obtain rfl:=ack e2;rw[BK e1];exact q n') (n:=n) (hl:=by kernel_rfl)
def jw(s:LS):Option (List Str):=if cV s then some (bc s)else none
def oj(ns:List Str):Option (Int×List Str):=if ay ns.length then some (cy ns,cH ns)else none
def pM(ps:List Str):Option Bool:=if ay ps.length then some (fk ps)else none
abbrev ac4:Lf LS Unit:=eY bB λ_ s=>jw s
abbrev ac5:Lf LS (List Str×Unit):=eY (λp:Int×List Str=>.aG [.int p.1,bB p.2]) λa _=>oj a.1
abbrev ac6:Lf LS (List Str×Unit):=eY .bool λa _=>pM a.1
abbrev ac7:Lf LS (List Str×Unit):=eY .str λa _=>some (dt a.1)
abbrev ac8:Lf LS (Str×Unit):=eY .bool λa _=>some (hB a.1)
abbrev Mv{β:Type}(r:Ps β):Ps (Nat×β):=nI oa (λi=>.ae (.bz i)) (λ_ _=>oe) r
abbrev DS:Lf LS (Nat×Int×Str×Unit):=cj λa s=>zd s a.1 a.2.1 a.2.2.1
def jX(ρ:Type)(c:Tl LS ρ):List (Addr×cg LS ρ):=(957,aS c 4 1 aj ac4)::(945,mu c 2 (ro aj) ac5)::(952,mu c 1 (ro aj) ac6)::(940,mu c 2 (ro aj) ac7)::(933,mu c 1 (bA aj) ac8)::(964,mu c 1 (Mv (cX (bA aj))) DS)::[]
section
variable{b:B}{xt:LX}
theorem ac9:bk (λs n=>hp b (lG xt s) n) 1 964 (Mv (cX (bA aj))).enc DS:=λa s r h Q q n=>by
 delta DS cj at h
 dsimp only at h;exact bE h λ_ _ h=>ac3 (b:=b) (xt:=xt) (s:=s) (i:=a.1) (Q:=Q) h q
theorem tH{ρ:Type}{c:Tl LS ρ}{tb:List (Addr×cg LS ρ)}{r:ρ}:∀e,e∈jX ρ c->cJ (DL ρ b xt c tb) r e.1 e.2:=
 aD (bo (λa s r h Q q n=>cu h λck h=>by obtain rfl:=ack h;exact Mr ck (q n)) rfl)
  (aD (nJ (λa s r h Q q n=>cu h λck h=>by obtain rfl:=ack h;exact acY ck q) rfl)
  (aD (nJ (λa s r h Q q n=>cu h λck h=>by obtain rfl:=ack h;exact acX ck q) rfl)
  (aD (nJ (λa s r h Q q n=>by obtain rfl:=ack h;exact Mq q) rfl)
  (aD (nJ (λa s r h Q q n=>by obtain rfl:=ack h;exact Mp (q n)) rfl)
  (aD (nJ ac9 rfl) cw)))))
end
abbrev DT:aX:=aY (H.az 98) "_law_leave" 978 977 [S "state",S "keep"] []
theorem ada:ao 978 DT:=ao.o2
abbrev P1(ss:List Str):Option (List Str×Unit):=(ro aj).p [bB ss]
theorem tI(ss:List Str):P1 ss=some (ss,()):=by
 show((dQ (bB ss)).bind λa=>some (a,()))=_
 rw[tF];rfl
def v5(s:LS)(i:Int):Option LS:=if ay s.path.length=true/\0<=i then some {s with path:=s.path.take i.toNat,pk:=s.pk+1}else none
def Mw(s:LS)(i:Int):Option LS:=(jw s).bind λns=>(P1 ns).bind λq=>(oj q.1).bind λp=>(P1 p.2).bind λq2=>(pM q2.1).bind λc=>
 if c then(dQ (bB p.2)).bind λss=>if ay ss.length then
  cond (decide (0<=p.1+(ss.length:Int))&&(Nat.ble (p.1+(ss.length:Int)).toNat (ns.map U.str).length&&Nat.ble (ns.map U.str).length 1000000)) ((dQ (.aw ((ns.map U.str).drop (p.1+(ss.length:Int)).toNat))).bind λs2=>
   if ar s2 (S "a") then(P1 ns).bind λq3=>(cW s (S "open-elements") (dt q3.1)).bind λs1=>v5 s1 i else v5 s i) none else none
 else v5 s i
theorem adb{b:B}{xt:LX}(s:LS)(i:Int):(ms (DL LS b xt aW (jX LS aW)) 60).L 3 DT.cq [(S "keep",.int i),(S "state",.ae .state)] DT.body s true jk=Mw s i:=by kernel_rfl
theorem Mx{ns:List Str}(h:fk (cH ns)=true):0<=cy ns:=by
 by_cases c:0<=cy ns
 ·exact c
 ·unfold cH at h;rw[if_neg c]at h;exact nomatch h
theorem v7{b:B}{xt:LX}{s':LS}{Q:U->AH->Prop}(q:∀n,Q .none (hp b (lG xt s') n)):∀(fl:Fl) (m:Lo) (z':LS) (n':Nat),jk fl m z'=some s'->Q fl.val (hp b (lG xt z') n'):=λfl m z' n' e=>
 cE e λe1 e2=>by obtain rfl:=ack e2;rw[BK e1];exact q n'
theorem ade(ns:List Str)(k:Nat):dQ (.aw ((ns.map U.str).drop k))=some (ns.drop k):=by exact ahb▸tF _
section
variable{s:LS}{ns ps:List Str}
theorem DU(ck:cV s=true){F:List Str->Int×List Str->Option LS}:((jw s).bind λns=>(P1 ns).bind λq=>(oj q.1).bind λp=>F ns p)=F (bc s) (cy (bc s),cH (bc s)):=by
 rw[jw,if_pos ck];show(P1 (bc s)).bind _=_;rw[tI];show(oj (bc s)).bind _=_;rw[oj,if_pos (vU ck)];rfl
theorem My(ck:cV s=true){F:List Str->Option LS}:(jw s).bind F=F (bc s):=by rw[jw,if_pos ck];rfl
theorem zf{F:List Str×Unit->Option LS}:(P1 ns).bind F=F (ns,()):=by rw[tI];rfl
theorem v8(h:ay ps.length=true){F:Bool->Option LS}:((P1 ps).bind λq=>(pM q.1).bind F)=F (fk ps):=by
 rw[tI];show(pM ps).bind F=_;rw[pM,if_pos h];rfl
theorem tJ{F:List Str->Option LS}:(dQ (bB ns)).bind F=F ns:=by rw[tF];rfl
theorem v9(h:ay ps.length=true){F:List Str->Option LS}:((dQ (bB ps)).bind λss=>if ay ss.length then F ss else none)=F ps:=tJ.trans (if_pos h)
theorem drS{k:Nat}{F:List Str->Option LS}:(dQ (.aw ((ns.map U.str).drop k))).bind F=F (ns.drop k):=by rw[ade];rfl
theorem cT{α:Type}{c:Bool}{A B:α}(h:c=true):cond c A B=A:=by rw[h];rfl
theorem DV(h:ay s.path.length=true)(k:Nat):v5 s (k:Int)=some {s with path:=s.path.take k,pk:=s.pk+1}:=by
 unfold v5;rw[if_pos ⟨h,afI _⟩,afv]
theorem adf(ck:cV s=true)(c:fk (cH (bc s))=true):(decide (0<=cy (bc s)+((cH (bc s)).length:Int))&&(Nat.ble (cy (bc s)+((cH (bc s)).length:Int)).toNat ((bc s).map U.str).length&&Nat.ble ((bc s).map U.str).length 1000000))=true:=by
 have hp:=acp (bc s) (Mx c);have hq:=Mx c;have hn:=vQ ck;rw[zb]at hp;rw[afj,zb,afi,afi];exact⟨afT (by lia),Nat.ble_eq.mpr (by lia),Nat.ble_eq.mpr (ads hn (by decide))⟩
end
theorem adg{s s1:LS}{x y:Str}(h:cW s x y=some s1):s1.path=s.path:=cu h λ_ h=>by apply sE h;rfl
theorem adh{s r:LS}{k:Nat}(h:fm s k=some r):Mw s (k:Int)=some r:=by
 refine cu h λck h=>bE h λs1 h1 h=>cu h λhk h=>(DU ck).trans ((v8 (vV ck)).trans ?_)
 have hl:=cU (vQ ck);cases c:fk (cH (bc s))with
 |false=>
  rw[c]at h1;obtain rfl:=ack (show some s=some s1 from h1);exact(DV hl k).trans h
 |true=>
  rw[c]at h1;refine(rT rfl).trans ((v9 (vV ck)).trans ((cT (adf ck c)).trans (drS.trans ?_)));refine iE h1 (λc1 h1=>(rT c1).trans (zf.trans ?_)) λc1 h1=>(rF c1).trans ?_
  ·exact h1▸(DV (s:=s1) (adg h1▸hl) k).trans h
  ·obtain rfl:=ack h1;exact(DV hl k).trans h
section
variable{b:B}{xt:LX}
theorem Mz{s s':LS}{n keep:Nat}{Q:U->AH->Prop}(h:fm s keep=some s')(q:∀n,Q .none (hp b (lG xt s') n)):aU 4 (.ref 978) [.ae .state,.int (keep:Nat)] (hp b (lG xt s) n) Q:=
 run (D:=DL LS b xt aW (jX LS aW)) (d:=3) (z:=s) (tf:=true) (ht:=λ_ _ _=>rfl) (fin:=jk) (r:=s') (jv tH) ada (h:=(adb s keep).trans (adh h)) (q:=v7 q) (n:=n) (hl:=by kernel_rfl)
end
abbrev DW:aX:=aY (H.az 100) "_law_sign" 990 989 [S "state",S "sign"] []
theorem adi:ao 990 DW:=ao.o2
def wa(s:LS)(i:Nat)(t:Str):Option LS:=(dy s i).bind λy=>if ay y.kids.length then(zd s i y.kids.length t).bind λs1=>some s1 else none
noncomputable abbrev c2 {α:Type}(c:Bool)(X:Option α):Option α:=cond c (cond c X none) none
def DX(s:LS)(c:Nat)(pl:Int)(ns ps xs:List Str)(t:Str):Option LS:=(dQ (bB ns)).bind λn1=>if ay n1.length then(dQ (bB ps)).bind λn2=>if ay n2.length then
  (if decide (pl+1+(n2.length:Int)<(n1.length:Int)) then(P1 ns).bind λq=>(cW s (S "foster-parented") (dt q.1)).bind λs1=>wa s1 c t
  else if xs==[S "colgroup"] then c2 (Nat.beq (s.pk+1) (s.pk+1)) ((fT s).bind λs1=>c2 (Nat.beq s1.rk s1.rk) (if ay s1.run.length then some {s1 with run:=s1.run++[t]}else none))
  else c2 (Nat.beq s.rk s.rk) (if ay s.run.length then some {s with run:=s.run++[t]}else none))else none else none
def MA(s:LS)(t:Str):Option LS:=(jw s).bind λns=>(P1 ns).bind λq=>(oj q.1).bind λp=>
 (dQ (bB p.2)).bind λxs=>cond (xs.all PyData.strOk&&[S "colgroup"].all PyData.strOk) (cond (Nat.beq (s.pk+1) (s.pk+1)) (s.path.getLast?.bind λc=>(cP s c).bind λ_=>
  if p.1==-1 then wa s c.toNat t else(P1 p.2).bind λq=>(pM q.1).bind λhb=>if hb then wa s c.toNat t else if xs==[S "colgroup"] then(if hB t then wa s c.toNat t else DX s c.toNat p.1 ns p.2 xs t)else DX s c.toNat p.1 ns p.2 xs t) none) none
theorem adj{b:B}{xt:LX}(s:LS)(t:Str):(ms (DL LS b xt aW (jX LS aW)) 60).L 3 DW.cq [(S "sign",.str t),(S "state",.ae .state)] DW.body s true jk=MA s t:=by kernel_rfl
theorem rq{α:Type}{n:Nat}{X:Option α}:c2 (Nat.beq n n) X=X:=by rw[agl];rfl
theorem adk{s s1:LS}{x y:Str}(h:cW s x y=some s1):s1.aa=s.aa:=cu h λ_ h=>by apply sE h;rfl
theorem adl{o1 o2:Option LN}{y y0:LN}{G:LN->Option LS}{r:LS}(h1:o1=some y)(h2:o2=some y0)(ho:ay y.kids.length=true)(h:G y=some r):(o1.bind λy=>if ay y.kids.length then(o2.bind λ_=>G y).bind λs1=>some s1 else none)=some r:=by
 rw[h1,h2];refine(if_pos ho).trans ?_;show(G y).bind _=_;rw[h];rfl
theorem zg{s r:LS}{k:Nat}{y:LN}{t:Str}(h1:dy s k=some y)(ho:ay y.kids.length=true)(h:gd s (k:Int) y.kids.length t=some r):wa s k t=some r:=
 adl (G:=λy=>gd s (k:Int) y.kids.length t) h1 (kj h1).1 ho h
theorem MB{s r:LS}{k:Nat}{y:LN}{t:Str}(ck:cV s=true)(h1:dy s k=some y)(ho:ay y.kids.length=true){c:Bool}(hc:(cH (bc s)==[S "colgroup"])=c)
  (h:(if decide (cy (bc s)+1+((cH (bc s)).length:Int)<((bc s).length:Int)) then(cW s (S "foster-parented") (dt (bc s))).bind λs1=>gd s1 (k:Int) y.kids.length t
   else(if c=true then fT s else some s).bind λs1=>if ay s1.run.length then some {s1 with run:=s1.run++[t]}else none)=some r):DX s k (cy (bc s)) (bc s) (cH (bc s)) (cH (bc s)) t=some r:=by
 subst hc;refine(v9 (vU ck)).trans ((v9 (vV ck)).trans ?_);refine iE h (λc h=>(rT c).trans (zf.trans ?_)) λc h=>(rF c).trans ?_
 ·refine bE h λs1 h2 h=>?_
  rw[h2];exact zg (by unfold dy;rw[adk h2];exact h1) ho h
 ·refine bE h λs1 h2 h=>iE h2 (λc h2=>(rT c).trans (rq.trans ?_)) λc h2=>(rF c).trans (rq.trans ?_)
  ·rw[h2];exact rq.trans h
  ·obtain rfl:=ack h2;exact h
theorem adm{s r:LS}{t:Str}(h:l9 s t=some r):MA s t=some r:=by
 refine cu h λck h=>bE h λi hi h=>bE h λy hy h=>cu h λho h=>(DU ck).trans (tJ.trans ((cT ?_).trans ((cT (agl _)).trans ?_)))
 ·rw[L4];decide+kernel
 ·rw[hi];show(cP s i).bind _=_;rw[hy];refine ah (vX hy) λk bb h1=>?_;subst bb
  dsimp only at h;show(if _ then _ else _)=_;cases c1:(cy (bc s)==-1)with
  |true=>replace h:=c1▸h;exact zg h1 ho h
  |false=>
   rw[c1,agL]at h;refine(rF rfl).trans ((v8 (vV ck)).trans ?_);cases c2:fk (cH (bc s))with
   |true=>rw[c2]at h;exact zg h1 ho h
   |false=>
    rw[c2,agL]at h;refine(rF rfl).trans ?_;cases c3:(cH (bc s)==[S "colgroup"])with
    |false=>rw[c3]at h;exact MB ck h1 ho c3 h
    |true=>
     rw[c3,agA]at h;refine iE h (λc h=>(rT rfl).trans ((rT c).trans (zg h1 ho h))) λc h=>(rT rfl).trans ((rF c).trans (MB ck h1 ho c3 h))
section
variable{b:B}{xt:LX}
theorem adn{s s':LS}{n:Nat}{t:Str}{Q:U->AH->Prop}(h:l9 s t=some s')(q:∀n,Q .none (hp b (lG xt s') n)):aU 4 (.ref 990) [.ae .state,.str t] (hp b (lG xt s) n) Q:=
 run (D:=DL LS b xt aW (jX LS aW)) (d:=3) (z:=s) (tf:=true) (ht:=λ_ _ _=>rfl) (fin:=jk) (r:=s') (jv tH) adi (h:=(adj s t).trans (adm h)) (q:=v7 q) (n:=n) (hl:=by kernel_rfl)
end
abbrev DY:aX:=aY (H.az 97) "_law_grow" 971 970 [S "state",S "name",S "attrs"] []
theorem ado:ao 971 DY:=ao.o3
def DZ(s:LS)(j:Nat)(v:U):Option LS:=c2 (Nat.beq (s.pk+1) (s.pk+1)) (cond (pL (cI s (j:Int)) v) (if ay s.path.length then some {s with path:=s.path++[(j:Int)]}else none) none)
def MC(s:LS)(nm:Str)(as:List U)(F:LS->U->Option LS):Option LS:=if ay as.length=true/\valid s=true then F (tE s nm as) (rj s nm as)else none
def MD(s:LS)(nm:Str)(av:U):Option LS:=(tG av).bind λas=>MC s nm as λs1 v=>cond (Nat.beq (s1.pk+1) (s1.pk+1)) (s1.path.getLast?.bind λc=>(cP s1 c).bind λ_=>(dy s1 c.toNat).bind λ_=>(dy s1 c.toNat).bind λy=>cond (pL (cf s1 (s.aa.length:Nat)) v)
 (if ay y.kids.length then DZ (s1.b5 c.toNat {y with kids:=y.kids++[((s.aa.length:Nat):Int)]}) s.aa.length v else none) none) none
theorem adp(s:LS)(nm:Str)(av:U):(ms (DL LS b xt aW (jX LS aW)) 60).L 0 DY.cq [(S "attrs",av),(S "name",.str nm),(S "state",.ae .state)] DY.body s true jk=MD s nm av:=by kernel_rfl
theorem pN(h:dy s k=some y):dy (tE s nm as) k=some y/\(tE s nm as).aa[s.aa.length]?=some ⟨false,nm,as,S "",[]⟩/\k<s.aa.length:=by
 refine aO (kj h) λh1 h2=>?_
 refine aF (afk.mp h1) λaR _=>?_
 refine⟨?_,List.getElem?_concat_length,aR⟩;unfold dy;rw[show(tE s nm as).aa[k]?=s.aa[k]? from afU aR,h1];exact if_neg (by rw[h2];decide)
theorem adq{c1 c2 c3 c4 c5:Prop}[Decidable (c1/\c2/\c3/\c4/\c5)]{r:LS}{P:Prop}(h:(if c1/\c2/\c3/\c4/\c5 then A else none)=some r)(g:c1->c2->c3->c4->c5->A=some r->P):P:=cu h λ⟨a,b,c,d,e⟩ h=>g a b c d e h
theorem ME{s r:LS}{nm:Str}(h0:dy s k=some y)(h:j7 s (k:Int) a nm as=some r)(h1:cP s (k:Int)=some y):
  (ay as.length=true/\valid s=true)/\ay y.kids.length=true/\a<=y.kids.length/\DZ ((tE s nm as).b5 k {y with kids:=y.kids.take a++((s.aa.length:Nat):Int)::y.kids.drop a}) s.aa.length (rj s nm as)=some r:=by
 refine bE h λy' e h=>?_
 obtain rfl:y'=y:=ack (e.symm.trans h1);refine adq h λc1 c2 c3 c4 c5 h=>⟨⟨c4,c2⟩,c1,c5,rq.trans ((cT (DG (acm ?_))).trans ((if_pos c3).trans ?_))⟩
 ·exact(List.getElem?_set_ne (afZ (pN (nm:=nm) (as:=as) h0).2.2)).trans (pN h0).2.1
 ·rw[<-h];exact afp (λns=>some (LS.mk ns (s.path++[(s.aa.length:Int)]) s.run s.aH s.pk s.rk s.old)) (List.set_append_left _ _ (pN (nm:=nm) (as:=as) h0).2.2)
theorem adt(hv:tG av=some as)(h:fH s nm as=some r):MD s nm av=some r:=by
 refine bE h λi hi h=>bE h λy hy h=>?_
 refine ah (vX hy) λk bb h0=>?_;subst bb
 refine fb (ME h0 h hy) λc1 c2 _ h=>?_
 refine bS hv ((if_pos c1).trans ((cT (agl _)).trans (bS hi (bS (LW hy) ?_))));refine bS (pN h0).1 (bS (pN h0).1 ((cT (DG LY)).trans ((if_pos c2).trans ?_)));rw[agG (afm _),List.drop_of_length_le (afm _)]at h;exact h
section
variable{b:B}{xt:LX}
theorem adu(hv:tG av=some as)(h:fH s nm as=some s')(q:∀n,Q .none (hp b (lG xt s') n)):aU 1 (.ref 971) [.ae .state,.str nm,av] (hp b (lG xt s) n) Q:=
 run (D:=DL LS b xt aW (jX LS aW)) (xs:=[.ae .state,.str nm,av]) (d:=0) (z:=s) (tf:=true) (ht:=λ_ _ _=>rfl) (fin:=jk) (r:=s') (jv tH) ado (h:=(adp s nm av).trans (adt hv h)) (q:=v7 q) (n:=n) (hl:=by kernel_rfl)
end
abbrev psX(r:Ps β):Ps (U×β):=nI some id (λ_ _ e=>ack e) r
abbrev adv:Lf LS (Str×U×Unit):=cj λa s=>(tG a.2.1).bind λas=>fH s a.1 as
def wb(ρ:Type)(c:Tl LS ρ):List (Addr×cg LS ρ):=(971,aS c 4 1 (bA (psX aj)) adv)::jX ρ c
theorem D0:∀e,e∈wb ρ c->cJ (DL ρ b xt c tb) r e.1 e.2:=
 aD (bo (λa s r h Q q n=>bE h λas hv h=>adu hv h q) rfl) (tH)
abbrev D2:aX:=aY (H.az 102) "_law_other" 1002 1001 [S "state",S "token",S "place",S "parts"] []
theorem adw:ao 1002 D2:=ao.of rfl (λS=>uB λx y z u=>rfl) (λ_ _ _ _=>.nil) rfl rfl
noncomputable abbrev gA (k n:Str)(as:List U)(f:Bool)(tl:List U):aN:=⟨k,n,.aG as::.bool f::tl⟩
def MF(s:LS):Option LS:=c2 (Nat.beq (s.pk+1) (s.pk+1)) ((fT s).bind λs1=>some s1)
def MG(s:LS)(nm:Str)(as:List U)(pl:Int):Option LS:=MC s nm as λs1 v=>cond (Nat.beq (s1.pk+1) (s1.pk+1)) ((b9 s1.path (pl-1)).bind λc=>(cP s1 c).bind λ_=>(dy s1 c.toNat).bind λ_=>(dy s1 c.toNat).bind λy1=>if ay y1.kids.length then(dy s1 c.toNat).bind λy=>cond (pL (cf s1 (s.aa.length:Nat)) v)
 (if ay y.kids.length=true/\0<=(y1.kids.length:Int)-1/\(y1.kids.length:Int)-1<=(y.kids.length:Int)then DZ (s1.b5 c.toNat {y with kids:=y.kids.take ((y1.kids.length:Int)-1).toNat++((s.aa.length:Nat):Int)::y.kids.drop ((y1.kids.length:Int)-1).toNat}) s.aa.length v else none) none else none) none
section
variable(k nm:Str)(as:List U)(f:Bool)(ns ps:List Str)(pl:Int)(mode:Str)
def zh(s:LS)(o:Bool):Option LS:=if k==S "end" then(dQ (bB ns)).bind λss=>ss.getLast?.bind λa=>if a==nm then MF s else some s
 else if ar [S "a",S "p",S "table"] nm then(if o then(dQ (bB ns)).bind λn1=>if ay n1.length then(dQ (bB ps)).bind λn2=>if ay n2.length then(if((n1.length:Int)==pl+1+(n2.length:Int)) then MG s nm as pl else fH s nm as)else none else none else fH s nm as)
 else if f then(cW s (S "non-void-html-element-start-tag-with-trailing-solidus") mode).bind λs1=>some s1 else some s
def D3(s:LS)(o:Bool):Option LS:=if o then(cW s (S "foster-parented") mode).bind λs1=>zh k nm as f ns ps pl mode s1 o else zh k nm as f ns ps pl mode s o
end
def MH(s:LS)(k nm:Str)(as:List U)(f:Bool)(pl:Int)(ps:List Str):Option LS:=(jw s).bind λns=>(P1 ns).bind λq=>if decide (0<=pl) then(P1 ps).bind λq2=>(pM q2.1).bind λc=>D3 k nm as f ns ps pl (dt q.1) s (!c)else D3 k nm as f ns ps pl (dt q.1) s (decide (0<=pl))
theorem adx(s:LS)(k nm:Str)(as:List U)(f:Bool)(tl:List U)(pl:Int)(ps:List Str):(ms (DL LS b xt aW (wb LS aW)) 60).L 2 D2.cq [(S "parts",bB ps),(S "place",.int pl),(S "token",bT (gA k nm as f tl)),(S "state",.ae .state)] D2.body s true jk=MH s k nm as f pl ps:=by kernel_rfl
theorem D4(h:o=some r):(o.bind λs1=>some s1)=some r:=by rw[h];rfl
theorem ady(h:fT s=some r):MF s=some r:=rq.trans (D4 h)
theorem adz(h:((b9 s.path (pl-1)).bind λh=>(cP s h).bind λy=>if 0<y.kids.length then j7 s h (y.kids.length-1) nm as else none)=some r):MG s nm as pl=some r:=
 bE h λi hi h=>bE h λy hy h=>cu h λhl h=>by
  refine ah (vX hy) λk bb h0=>?_;subst bb
  refine fb (ME h0 h hy) λc1 c2 c3 h=>?_
  have e:((y.kids.length:Int)-1)=((y.kids.length-1:Nat):Int):=by lia
  refine(if_pos c1).trans ((cT (agl _)).trans (bS hi (bS (LW hy) (bS (pN h0).1 (bS (pN h0).1 ((if_pos c2).trans (bS (pN h0).1 ((cT (DG LY)).trans ((if_pos ⟨c2,by lia,by lia⟩).trans ?_)))))))))
  exact e▸h
theorem MI(hn:ay ns.length=true)(hz:ay ps.length=true)(h:(if k==S "end" then(match ns.getLast? with|some x=>if x==nm then fT s else some s|none=>none)
  else if ar [S "a",S "p",S "table"] nm then
   (if(o&&((ns.length:Int)==pl+1+(ps.length:Int))) then(b9 s.path (pl-1)).bind λh=>(cP s h).bind λy=>if 0<y.kids.length then j7 s h (y.kids.length-1) nm as else none
    else fH s nm as)
  else if f=true then cW s (S "non-void-html-element-start-tag-with-trailing-solidus") mode else some s)=some r):zh k nm as f ns ps pl mode s o=some r:=by
 refine iE h (λc h=>(rT c).trans (tJ.trans ?_)) λc h=>(rF c).trans (iE h (λc h=>(rT c).trans ?_) λc h=>(rF c).trans (iE h (λc h=>(rT c).trans (D4 h)) λc h=>(rF c).trans h))
 ·cases hl:ns.getLast? with
  |none=>exact af (hl▸h)
  |some x=>
   rw[hl]at h;exact iE h (λc h=>(rT c).trans (ady h)) λc h=>(rF c).trans h
 ·induction o with
  |false=>exact(rF rfl).trans h
  |true=>exact(rT rfl).trans ((v9 hn).trans ((v9 hz).trans (iE h (λc h=>(rT c).trans (adz h)) λc h=>(rF c).trans h)))
theorem adA(h:kM s (gA k nm as f tl) pl ps=some r):MH s k nm as f pl ps=some r:=
 cu h λck h=>bE h λs1 h1 h=>(My ck.1).trans (zf.trans (by
  have X:∀{o s1},(if o=true then cW s (S "foster-parented") (dt (bc s))else some s)=some s1->zh k nm as f (bc s) ps pl (dt (bc s)) s1 o=some r->D3 k nm as f (bc s) ps pl (dt (bc s)) s o=some r:=λh1 h2=>
   iE h1 (λc h1=>(rT c).trans (bS h1 h2)) λc h1=>(rF c).trans (by obtain rfl:=ack h1;exact h2)
  cases c:decide (0<=pl)with
  |true=>
   rw[c,agA]at h1 h;exact(rT rfl).trans ((v8 ck.2).trans (X h1 (MI (vU ck.1) ck.2 h)))
  |false=>
   rw[c,Bool.false_and]at h1 h;exact(rF (by decide)).trans (X h1 (MI (vU ck.1) ck.2 h))))
section
variable{b:B}{xt:LX}
theorem adB(h:kM s (gA k nm as f tl) pl ps=some s')(q:∀n,Q .none (hp b (lG xt s') n)):aU 3 (.ref 1002) [.ae .state,bT (gA k nm as f tl),.int pl,bB ps] (hp b (lG xt s) n) Q:=
 run (D:=DL LS b xt aW (wb LS aW)) (xs:=[.ae .state,bT (gA k nm as f tl),.int pl,bB ps]) (d:=2) (z:=s) (tf:=true) (ht:=λ_ _ _=>rfl) (fin:=jk) (r:=s') (jv D0) adw (h:=(adx s k nm as f tl pl ps).trans (adA h)) (q:=v7 q) (n:=n) (hl:=by kernel_rfl)
end
def zi(l:List U):Option (List U×Bool×List U):=(un l).bind λp=>(iO p.1).bind λas=>(un p.2).bind λp2=>(kc p2.1).bind λf=>some (as,f,p2.2)
theorem MJ(h:zi l=some q):l=.aG q.1::.bool q.2.1::q.2.2:=
 bE h λp h1 h=>bE h λas h2 h=>bE h λp2 h3 h=>bE h λf h4 h=>sE (X:=λq:List U×Bool×List U=>l=.aG q.1::.bool q.2.1::q.2.2) h (by rw[lL h1,kT h2,lL h3,iw h4])
abbrev adC:Lf LS (aN×Int×List Str×Unit):=cj λa s=>(zi a.1.rest).bind λ_=>kM s a.1 a.2.1 a.2.2.1
abbrev MK:Lf LS (Int×Unit):=cj λa s=>cond (decide (0<=a.1)) (fm s a.1.toNat) none
abbrev adD:Lf LS (Str×List U×Int×List Str×Unit):=cj λa s=>lH s a.1 a.2.1 a.2.2.1 a.2.2.2.1
abbrev D5:Ps (aN×Int×List Str×Unit):=bt (cX (ro aj))
abbrev D6:Ps (Str×List U×Int×List Str×Unit):=bA (ke (cX (ro aj)))
def zj(ρ:Type)(c:Tl LS ρ):List (Addr×cg LS ρ):=(1002,aS c 4 3 D5 adC)::(978,aS c 4 4 (cX aj) MK)::(995,aS c 4 5 D6 adD)::wb ρ c
abbrev kl:aX:=aY (H.az 103) "_law_tag" 1009 1008 [S "state",S "token"] []
theorem adE:ao 1009 kl:=ao.o2
def wc(s:LS)(i:Int):Option LS:=cond (decide (0<=i)) (fm s i.toNat) none
section
variable(k nm:Str)(as:List U)(f:Bool)(tl:List U)(pl:Int)
def zl(s:LS)(ps:List Str)(mode:Str):Option LS:=if (k==S "start")&&(nm==S "table") then(cW s (S "unexpected-start-tag") mode).bind λs2=>(wc s2 pl).bind λs3=>fH s3 nm as
 else if k==S "start" then(D6.p [.str nm,.aG as,.int pl,bB ps]).bind λa=>lH s a.1 a.2.1 a.2.2.1 a.2.2.2.1
 else if nm==S "table" then wc s pl
 else(dQ (bB ps)).bind λss=>if ar ss nm then(dQ (bB ps)).bind λss=>if ay ss.length=true/\ar ss nm=true then wc s (pl+1+(ss.idxOf nm:Nat))else none
 else(cW s (S "unexpected-end-tag") mode).bind λs1=>some s1
def zm(s:LS)(ps:List Str):Option LS:=(D5.p [bT (gA k nm as f tl),.int pl,bB ps]).bind λa=>(zi a.1.rest).bind λ_=>kM s a.1 a.2.1 a.2.2.1
def tK(s:LS)(ps:List Str):Option LS:=(jw s).bind λns=>(P1 ns).bind λq=>
 if pl==-1 then zm k nm as f tl pl s ps else if ar [S "a",S "p"] nm then zm k nm as f tl pl s ps else if k==S "start" then(if nm==S "table" then(P1 ps).bind λq2=>(pM q2.1).bind λc=>if c then zm k nm as f tl pl s ps else zl k nm as pl s ps (dt q.1)else zl k nm as pl s ps (dt q.1))else zl k nm as pl s ps (dt q.1)
end
def ML(s:LS)(k nm:Str)(as:List U)(f:Bool)(tl:List U):Option LS:=(jw s).bind λns=>(P1 ns).bind λq=>(oj q.1).bind λp=>(dQ (bB p.2)).bind λxs=>cond (xs.all PyData.strOk&&[S "colgroup"].all PyData.strOk)
 (if xs==[S "colgroup"] then(if !(nm==S "col") then cond ((PyData.strOk k&&PyData.strOk nm)&&(PyData.strOk (S "end")&&PyData.strOk (S "colgroup"))) (if !(k==S "end"&&nm==S "colgroup") then c2 (Nat.beq (s.pk+1) (s.pk+1)) ((fT s).bind λs1=>tK k nm as f tl p.1 s1 [])else tK k nm as f tl p.1 s p.2) none else tK k nm as f tl p.1 s p.2)else tK k nm as f tl p.1 s p.2) none
def D7(v:U):Option (U×U):=(iO v).bind λt=>(un t).bind λa=>(un a.2).bind λb=>cond (fV b.2) (some (a.1,b.1)) none
theorem adF(h:D7 v=some p):v=.aG [p.1,p.2]:=bE h λt h1 h=>bE h λa h2 h=>bE h λb h3 h=>cE h λh4 h=>sE (X:=λp:U×U=>v=.aG [p.1,p.2]) h (by rw[kT h1,lL h2,BO h3 h4])
noncomputable def MM:List Stmt->Expr
 |.Assign _ e _::_=>e
 |_=>.Tuple [] 0 default
noncomputable def D8:List Stmt->Expr
 |.Assign [t] _ _::_=>t
 |_=>.Tuple [] 0 default
noncomputable def D9:Expr->List Expr×Nat×Pos
 |.Tuple es k p=>(es,k,p)
 |_=>([],0,default)
noncomputable def adG:List Stmt->Pos
 |.Assign _ _ p::_=>p
 |_=>default
theorem adH(s:LS)(k nm:Str)(as:List U)(f:Bool)(tl:List U):((ms (DL LS b xt aW (zj LS aW)) 60).E 5 kl.cq [(S "token",bT (gA k nm as f tl)),(S "state",.ae .state)] (MM kl.body) s λv z=>(D7 v).bind λp=>(ms (DL LS b xt aW (zj LS aW)) 60).L 5 kl.cq [(S "kind",p.1),(S "name",p.2),(S "token",bT (gA k nm as f tl)),(S "state",.ae .state)] kl.body.tail z true jk)=ML s k nm as f tl:=by kernel_rfl
theorem MN{g:List Str×Unit->α}:((P1 ps).bind λb=>some (g b))=some (g (ps,())):=by rw[tI];rfl
theorem adI{f:Bool}:D5.p [bT (gA k nm as f tl),.int pl,bB ps]=some (gA k nm as f tl,pl,ps,()):=(afp (λo:Option (Int×List Str×Unit)=>o.bind λb=>some (gA k nm as f tl,b)) MN)
theorem adJ{pl:Int}:D6.p [.str nm,.aG as,.int pl,bB ps]=some (nm,as,pl,ps,()):=(afp (λo:Option (Int×List Str×Unit)=>(o.bind λb=>some (as,b)).bind λb=>some (nm,b)) MN)
theorem zo(hi:0<=i)(h:fm s i.toNat=some r):wc s i=some r:=(cT (afT hi)).trans h
theorem Ea(h:kM s (gA k nm as f tl) pl ps=some r):zm k nm as f tl pl s ps=some r:=bS adI (bS (a:=(as,f,tl)) rfl h)
theorem adK(hp:0<=pl)(hz:ay ps.length=true)
  (h:(if (k==S "start")&&(nm==S "table") then(cW s (S "unexpected-start-tag") mode).bind λs2=>(fm s2 pl.toNat).bind λs3=>fH s3 nm as
  else if k==S "start" then lH s nm as pl ps else if nm==S "table" then fm s pl.toNat
  else if ar ps nm then fm s (pl+1+(ps.idxOf nm:Nat)).toNat else cW s (S "unexpected-end-tag") mode)=some r):zl k nm as pl s ps mode=some r:=
 iE h (λc h=>(rT c).trans (bE h λs2 h2 h=>bE h λs3 h3 h=>bS h2 (bS (zo hp h3) h))) λc h=>(rF c).trans (iE h (λc h=>(rT c).trans (bS adJ h)) λc h=>(rF c).trans (iE h (λc h=>(rT c).trans (zo hp h)) λc h=>(rF c).trans (tJ.trans
  (iE h (λc h=>(rT c).trans (tJ.trans ((if_pos ⟨hz,c⟩).trans (zo (by lia) h)))) λc h=>(rF c).trans (D4 h)))))
theorem MO(hp:(pl==-1)=false->0<=pl)(hz:ay ps.length=true)(ck:cV s=true)
  (h:(if(pl==-1||(ar [S "a",S "p"] nm||((k==S "start")&&((nm==S "table")&&fk ps)))) then kM s (gA k nm as f tl) pl ps
  else if (k==S "start")&&(nm==S "table") then(cW s (S "unexpected-start-tag") (dt (bc s))).bind λs2=>(fm s2 pl.toNat).bind λs3=>fH s3 nm as
  else if k==S "start" then lH s nm as pl ps else if nm==S "table" then fm s pl.toNat
  else if ar ps nm then fm s (pl+1+(ps.idxOf nm:Nat)).toNat else cW s (S "unexpected-end-tag") (dt (bc s)))=some r):tK k nm as f tl pl s ps=some r:=by
 refine(My ck).trans (zf.trans ?_);cases c1:(pl==-1)with
 |true=>replace h:=c1▸h;exact(rT rfl).trans (Ea h)
 |false=>
  rw[c1,agL]at h;refine(rF rfl).trans ?_;cases c2:ar [S "a",S "p"] nm with
  |true=>rw[c2]at h;exact(rT rfl).trans (Ea h)
  |false=>
   rw[c2,agL]at h;refine(rF rfl).trans (iE h (λc h=>?_) λc h=>?_)
   ·rw[afi,afi]at c;exact(rT c.1).trans ((rT c.2.1).trans ((v8 hz).trans ((rT c.2.2).trans (Ea h))))
   ·have h4:=adK (hp c1) hz h;cases c3:(k==S "start")with
    |false=>exact(rF rfl).trans h4
    |true=>
     rw[c3,agA]at c;refine(rT rfl).trans ?_;cases c4:(nm==S "table")with
     |false=>exact(rF rfl).trans h4
     |true=>rw[c4,agA]at c;exact(rT rfl).trans ((v8 hz).trans ((rF c).trans h4))
theorem adL(hk:PyData.strOk k=true)(hn:PyData.strOk nm=true)(h:me s (gA k nm as f tl)=some r):ML s k nm as f tl=some r:=by
 refine cu h λck h=>bE h λs1 h1 h=>cu h λadM h=>(DU ck).trans (tJ.trans ((cT ?_).trans ?_))
 ·rw[L4];decide+kernel
 ·have hp:(cy (bc s)==-1)=false->0<=cy (bc s):=λc=>(DC (bc s)).elim (λe=>nomatch (afr.mpr e).symm.trans c) λe=>e.1
  have Ec:((cH (bc s)==[S "colgroup"])&&((nm !=S "col")&&!(k==S "end"&&nm==S "colgroup")))=false->tK k nm as f tl (cy (bc s)) s (cH (bc s))=some r:=λc=>by
   rw[c]at h h1;obtain rfl:=ack (show some s=some s1 from h1);exact MO hp (vV ck) ck h
  cases c1:(cH (bc s)==[S "colgroup"])with
  |false=>exact(rF rfl).trans (Ec (c1.symm▸rfl))
  |true=>
   refine(rT rfl).trans ?_;cases c2:(nm==S "col")with
   |true=>exact(rF rfl).trans (Ec (by rw[show(nm !=S "col")=false by exact afp (! ·) c2,Bool.false_and,agO]))
   |false=>
    refine(rT rfl).trans ((cT (by rw[hk,hn];decide+kernel)).trans ?_)
    cases c3:(k==S "end"&&nm==S "colgroup")with
    |true=>exact(rF rfl).trans (Ec (by rw[c3,Bool.not_true,agO,agO]))
    |false=>
     have c:((cH (bc s)==[S "colgroup"])&&((nm !=S "col")&&!(k==S "end"&&nm==S "colgroup")))=true:=by rw[c1,c3,show(nm !=S "col")=true by exact afp (! ·) c2];rfl
     rw[c]at h h1;exact(rT rfl).trans (rq.trans (bS h1 (MO hp rfl adM h)))
theorem Ex.swap{r:Z}(O:iz D r){body rest:List Stmt}(hb:body=.Assign [.Tuple elts k MP] e p::rest)(hc:(jZ e&&(nH f.cs&&(iu f x&&iu f y)))=true)(hw:∀L,swappedStores [.Tuple elts k MP] e (f.env L)=pure (some [x,y]))
  {z:Z}(h:((ms D 60).E d f m e z λv z=>(D7 v).bind λq=>(ms D 60).L d f ((x,q.1)::(y,q.2)::m) rest z true fin)=some r)(ht:∀m z,fin .next m z=D.gk z)(Q:Fl->Lo->AH->Prop)(q:∀fl m' z' n',fin fl m' z'=some r->Q fl m' (D.hz z' n'))(n:Nat):bG (D.o+d) f m (D.hz z n) body Q:=by
 rw[afi,afi,afi]at hc;subst hb;exact Ex.cons (Ex.Sl (cQ hc.2.2.1).at_ (cQ hc.2.2.2).at_ ((kU O 60).E _ _ _ _ _ _ h _ (λv z1 n1 h=>bE h λa h1 h=>⟨_,_,adF h1,(kU O 60).L _ _ _ _ _ _ _ h (λ_=>ht) _ q n1⟩) n) hw hc.1 (Bu hc.2.1))
abbrev eE:aX:=aY (H.az 101) "_law_part" 995 994 [S "state",S "name",S "attrs",S "place",S "parts"] []
theorem adN:ao 995 eE:=ao.of rfl (λS=>Az λa b c d e=>rfl) (λ_ _ _ _=>.nil) rfl rfl
def mK(ρ:Type)(c:Tl LS ρ):List (Addr×cg LS ρ):=(978,aS c 4 4 (cX aj) MK)::wb ρ c
section
variable(k:Nat)(hd W:List Str)(pl:Int)(as:List U)(nm:Str)(b:B)(xt:LX)(s:LS)
abbrev mL:Lo:=[(S "keep",.int (k:Nat)),(S "held",bB hd),(S "wanted",bB W),(S "place",.int pl),(S "attrs",.aG as),(S "name",.str nm),(S "state",.ae .state)]
def MQ:Option (It LS):=(dQ (bB W)).bind λss=>if ay ss.length then(if decide ((k:Int)<(ss.length:Int)) then cond (decide (0<=(k:Int))&&(decide (0<=(k:Int)+1)&&Nat.ble (hd.map U.str).length 1000000)) (cond (decide (0<=(k:Int))&&Nat.blt (k:Int).toNat 1000000) (((W.map U.str)[(k:Int).toNat]?).bind λv=>(dQ (.aw (((hd.map U.str).drop (k:Int).toNat).take (((k:Int)+1).toNat-(k:Int).toNat)))).bind λxs=>(dQ (.aw [v])).bind λys=>cond (xs.all PyData.strOk&&ys.all PyData.strOk) (if xs==ys then some (.go .next ((S "keep",.int ((k:Int)+1))::mL k hd W pl as nm) s)else some (.out s)) none) none) none else some (.out s))else none
theorem MR:jQ (DL (It LS) b xt au (mK (It LS) au)) 4 eE.cq (mL k hd W pl as nm) (jR (stI eE.body 3)) (ef (stI eE.body 3)) s=MQ k hd W pl as nm s:=by kernel_rfl
abbrev rt:Lo:=[(S "attrs",.aG as),(S "name",.str nm),(S "state",.ae .state)]
theorem adO(x:Str):(ms (DL (Fl×Lo×LS) b xt au (mK (Fl×Lo×LS) au)) 50).L 4 eE.cq ((S "each",.str x)::rt as nm) (ef (stI eE.body 5)) s false (λfl m z=>some (fl,m,z))=
  if x==S "tr" then(cW s (S "unexpected-start-tag") (S "in table body")).bind λs1=>(fH s1 x []).bind λs2=>some (.next,(S "each",.str x)::rt as nm,s2)else(fH s x []).bind λs2=>some (.next,(S "each",.str x)::rt as nm,s2):=by kernel_rfl
theorem adP:(ms (DL (Fl×LS) b xt au (mK (Fl×LS) au)) 50).L 4 eE.cq (rt as nm) [stI eE.body 6,stI eE.body 7] s false (λfl m z=>some (fl,z))=
  (fH s nm as).bind λs1=>if nm==S "col" then c2 (Nat.beq (s1.pk+1) (s1.pk+1)) ((fT s1).bind λs2=>some (.next,s2))else some (.next,s1):=by kernel_rfl
end
def zq:List (Str×U):=[(S "td",.aw [.str (S "tbody"),.str (S "tr")]),(S "th",.aw [.str (S "tbody"),.str (S "tr")]),(S "tr",.aw [.str (S "tbody")]),(S "col",.aw [.str (S "colgroup")])]
theorem MS{α:Type}{f:α->U}:∀l:List (Str×α),(l.map λp=>(p.1,f p.2)).lookup k=(l.lookup k).map f
 |[]=>rfl
 |(y,v)::r=>by
  rw[agk,afx,afx,MS r];cases(k==y)<;>rfl
theorem adQ:(zq.lookup k).getD (.aw [])=bB (kL k):=by
 have e:zq=uQ.map λp=>(p.1,bB p.2):=rfl
 rw[e,MS];unfold kL;cases uQ.lookup k<;>rfl
theorem adR:(zq.map (·.1)).Nodup:=by decide+kernel
theorem Ed:∀{l:List (Str×α)},l.lookup k=some a->a∈l.map (·.2)
 |(y,v)::r,h=>by
  rw[afx]at h;cases c:(k==y)
  ·rw[c]at h;exact af3 _ (Ed h)
  ·rw[c]at h;cases h;exact agf ..
theorem MT(k:Str):(kL k).length<=2/\(kL k).all PyData.strOk=true:=by
 unfold kL;cases h:uQ.lookup k with
 |none=>exact⟨afw _,rfl⟩
 |some a=>
  have h1:(uQ.map (·.2)).all (λa=>decide (a.length<=2)&&a.all PyData.strOk)=true:=by decide+kernel
  have:=afn.mp h1 a (Ed h);simpa using this
def MU:U->U
 |.str z=>.str (if ar [S "thead",S "tfoot"] z then S "tbody"else z)
 |y=>y
theorem adS(ps:List Str):(((ps.map U.str).filter λ_=>true).map MU)=(fU ps).map .str:=by
 rw[agw.mpr λ_ _=>rfl,agr]
 unfold fU;rw[agr];rfl
theorem adT(h:ps.all PyData.strOk=true):(fU ps).all PyData.strOk=true:=by
 rw[afn]at h ⊢;intro y hy;refine ah (afQ.mp hy) λz hz aM=>?_;subst aM
 split
 ·decide+kernel
 ·exact h z hz
theorem MV:∀(j k:Nat),k<=W.length->lF hd W j k<=W.length
 |0,k,h=>h
 |j+1,k,h=>by
  unfold lF;cases c:decide ((k:Int)<(W.length:Int))
  ·rw[if_neg (by decide)];exact h
  ·have aR:k<W.length:=by have:=afN c;exact agy.mp this
   rw[if_pos rfl,afq aR];dsimp only;split
   ·exact MV j (k+1) aR
   ·exact h
theorem adU{ps:List Str}(h:ps.all PyData.strOk=true):((ps.drop k).take 1).all PyData.strOk=true:=by
 rw[afn]at h ⊢;exact λy hy=>h y (agt (List.mem_of_mem_take hy))
theorem MW:(dQ (bB ns)).bind F=F ns:=by rw[tF];rfl
def MX:Stmt->Option (Str×Expr×List Stmt)
 |.For t i b o _=>cond (o.isEmpty&&pX i) ((lO (vw t)).bind λx=>some (x,i,b)) none
 |_=>none
theorem adV(h:MX s=some q):pX q.2.1=true/\∃xp pos,s=.For (.Name q.1 xp) q.2.1 q.2.2 [] pos:=by
 induction s using Stmt.casesOn with
 |For t i b o p=>
  refine cE h λho h=>bE h λx h1 h5=>?_
  refine aF (mw h1) λp1 bb=>?_;subst bb
  rw[List.isEmpty_iff.mp (gS ho)];exact sE (X:=λq:Str×Expr×List Stmt=>pX q.2.1=true/\∃xp pos,Stmt.For (.Name x p1) i b [] p=.For (.Name q.1 xp) q.2.1 q.2.2 [] pos) h5 ⟨gw ho,_,_,rfl⟩
 |_=>exact af h
section
variable{Z:Type}{d:Nat}{f:aP}{m:Lo}
theorem Ex.itE{D:Dm Z (Fl×Lo×Z)}(O:∀r,iz D r){s:Stmt}{x:Str}{it:Expr}{body:List Stmt}{Q:Fl->Lo->AH->Prop}
  (hs:MX s=some (x,it,body))(hx:iu f x=true){v:U}{z0:Z}(hv:((ms D 50).E d f m it z0 λv z=>some (.ret v,[],z))=some (.ret v,[],z0))(I:Nat->Lo->Z->Prop){xs:List U}
  (h0:I 0 m z0)(it:∀i m z,I i m z->∀n',d8 (D.hz z n') v xs)
  (turn:∀i y m z,I i m z->xs[i]?=some y->∃mc r,bU mc ((x,y)::m)/\(ms D 50).L d f mc body z false (λfl m z=>some (fl,m,z))=some r/\(match r.1 with
   |.next|.cont=>I (i+1) r.2.1 r.2.2
   |.brk=>∀n',Q .next r.2.1 (D.hz r.2.2 n')
   |.ret v=>∀n',Q (.ret v) r.2.1 (D.hz r.2.2 n')))
  (done:∀m z,I xs.length m z->∀n',Q .next m (D.hz z n'))(n:Nat):dh (D.o+d) f m (D.hz z0 n) s Q:=by
 refine cps λG k=>?_
 obtain⟨hn,xp,pos,e⟩:=adV hs;refine k ?_;rw[e];refine Ex.forIn (cQ hx) (λi m' H'=>∃z' n',H'=D.hz z' n'/\I i m' z') xs ((kU (O _) 50).E _ _ _ _ _ _ hv _ (λv' z' n' e=>?_) n) (λi y m' H' i1 hy=>?_) (λm' H' i1=>?_) hn
 ·injection ack e with e1 e2
  injection e1 with e1
  injection e2 with _ e2
  rw[e1,e2];exact⟨⟨z0,n',rfl,h0⟩,λi m' H' i1=>cG i1 λz' n' e i1=>e▸it _ _ _ i1 n'⟩
 ·obtain⟨z',n',rfl,i1⟩:=i1;refine cps λG k=>?_
  obtain⟨mc,r,l,e,t⟩:=turn _ _ _ _ i1 hy;refine k ?_;refine Ex.sub l ((kU (O _) 50).L _ _ _ _ _ _ _ e (λe=>nomatch e) _ (λfl m2 z2 n2 h=>?_) n')
  have h:=ack h;subst h
  induction fl with
  |next=>exact⟨_,_,rfl,t⟩
  |cont=>exact⟨_,_,rfl,t⟩
  |brk=>exact t n2
  |ret v=>exact t n2
 ·obtain⟨z',n',rfl,i1⟩:=i1;exact Ex.nil (done _ _ i1 n')
end
theorem MY{k:Nat}(hl:hd.length<=900000)(hW:W.length<=2)(hh:hd.all PyData.strOk=true)(hw:W.all PyData.strOk=true):MQ k hd W pl as nm s=
  if decide ((k:Int)<(W.length:Int)) then(match W[k]? with|some x=>if (hd.drop k).take 1==[x] then some (It.go .next ((S "keep",.int ((k:Int)+1))::mL k hd W pl as nm) s)else some (It.out s)|none=>none)else some (It.out s):=by
 refine MW.trans ((if_pos (cU (ads hW (by decide)))).trans ?_)
 cases c:decide ((k:Int)<(W.length:Int))with
 |false=>rfl
 |true=>
  have aR:k<W.length:=by have:=afN c;exact agy.mp this
  refine(cT ?a).trans ((cT ?b).trans ?_);case a=>rw[afT (by exact afI _),afT (by exact afI _),Nat.ble_eq.mpr (by rw[afj];exact bh hl)];rfl
  case b=>rw[afT (by exact afI _),Nat.blt_eq.mpr (by exact bh (ads aR hW))];rfl
  rw[show(k:Int).toNat=k from rfl,show((k:Int)+1).toNat=k+1 from rfl,Nat.add_sub_cancel_left,afG,afq aR,<-ahb,<-List.map_take];refine(show _=_ from rfl:_=(dQ (bB ((hd.drop k).take 1))).bind λxs=>cond (xs.all PyData.strOk&&[W[k]].all PyData.strOk) (if xs==[W[k]] then some (It.go .next ((S "keep",.int ((k:Int)+1))::mL k hd W pl as nm) s)else some (It.out s)) none).trans (MW.trans (cT ?_))
  rw[adU hh,List.all_cons,afn.mp hw _ (agR aR)];rfl
section
variable{b:B}{xt:LX}
theorem wd:∀e,e∈mK ρ c->cJ (DL ρ b xt c tb) r e.1 e.2:=
 aD (bo (λa s r h Q q n=>cE h λhi h=>by
   have e:=Mz (xt:=xt) (b:=b) (n:=n) h q;rw[af9 (afN hi)]at e;exact e) rfl) (D0)
noncomputable def adW:Stmt->Expr
 |.For _ i _ _ _=>i
 |_=>.Tuple [] 0 default
theorem adX(h:lH s name as place parts=some s')(q:∀n,Q .none (hp b (lG xt s') n)):aU 5 (.ref 995) [.ae .state,.str name,.aG as,.int place,bB parts] (hp b (lG xt s) n) Q:=by
 refine cu h λhc g0=>bE g0 λs1 h1 g1=>bE g1 λs2 h2 g2=>bE g2 λs3 h3 g3=>?_
 clear h g0 g1 g2;refine dG hc λhz hps vM=>?_
 refine aO (MT name) λzr Ee=>?_
 have MZ:=adT hps;have M0:(fU parts).length<=900000:=by unfold fU;rw[afj];exact d9 hz
 refine(adN).go (d:=4) (m:=[(S "parts",bB parts),(S "place",.int place),(S "attrs",.aG as),(S "name",.str name),(S "state",.ae .state)]) (body:=[stI eE.body 0,stI eE.body 1,stI eE.body 2,stI eE.body 3,stI eE.body 4,stI eE.body 5,stI eE.body 6,stI eE.body 7]) rfl rfl rfl ?_;generalize hW:kL name=W at h1 h2 zr Ee;have rest:∀m n',bU (mL (lF (fU parts) W W.length 0) (fU parts) W place as name) m->bG 4 eE.cq m (hp b (lG xt s) n') [stI eE.body 4,stI eE.body 5,stI eE.body 6,stI eE.body 7] λfl _ H'=>∃bg,AH.Le H' bg/\Q fl.val bg:=by
  have hK:=MV (hd:=fU parts) (W:=W) W.length 0 (afw _);generalize lF (fU parts) W W.length 0=K at h1 h2 hK;intro m n' l;refine Ex.sub l (Ex.step (D:=DL (Lo×LS) b xt au (mK (Lo×LS) au)) (d:=4) (z1:=s1) (m1:=mL K (fU parts) W place as name) (λ_=>jv wd) (Eq.trans (b:=(wc s (place+1+(K:Int))).bind λs1=>some (mL K (fU parts) W place as name,s1)) (by kernel_rfl) (bS (zo (by lia) h1) rfl)) (λn2=>Ex.cons (Ex.itE (D:=DL (Fl×Lo×LS) b xt au (mK (Fl×Lo×LS) au)) (d:=4) (x:=S "each") (xs:=(W.drop K).map .str) (v:=bB (W.drop K)) (λ_=>jv wd) (it:=adW (stI eE.body 5)) (body:=ef (stI eE.body 5)) rfl rfl (Eq.trans (b:=cond (decide (0<=(K:Int))&&(Nat.ble (K:Int).toNat (W.map U.str).length&&Nat.ble (W.map U.str).length 1000000)) (some (.ret (.aw ((W.map U.str).drop K)),[],s1)) none) rfl ?ev) (λi m z=>sr ((W.drop K).drop i) z=some s2/\bU (rt as name) m) ⟨h2,?l0⟩ (λi m z I n'=>.aw _) (λi y m z I e=>?turn) (λm z I n'=>?done) n2)) n')
  case ev=>
   refine(cT ?_).trans (ahb▸rfl);rw[afT (by exact afI _),Nat.ble_eq.mpr (by rw[afj];exact hK),Nat.ble_eq.mpr (by rw[afj];exact bh zr)];rfl
  case l0=>exact .cons (.cons (.cons (.cons (.refl _) rfl) rfl) rfl) rfl
  case turn=>
   refine aO I λhs l=>?_
   refine ah (za e) λt e1 aM=>?_;subst aM
   rw[AK e1]at hs;refine bE hs λsb hb hs=>bE hs λsc hc hs=>⟨(S "each",.str t)::rt as name,(.next,(S "each",.str t)::rt as name,sc),l.both,(adO as name b xt z t).trans (iE hb (λc hb=>(rT c).trans (bS hb (bS hc rfl))) λc hb=>(rF c).trans (by obtain rfl:=ack hb;exact bS hc rfl)),hs,.cons (.refl _) rfl⟩
  case done=>
   refine aO I λhs l=>?_
   rw[afj,List.drop_length]at hs;obtain rfl:=ack hs;exact Ex.sub l (Ex.rest (D:=DL (Fl×LS) b xt au (mK (Fl×LS) au)) (d:=4) (z1:=s') (sQ:=.next) (λ_=>jv wd) ((adP ..).trans (bS h3 (iE g3 (λc h=>(rT c).trans (rq.trans (bS h rfl))) λc h=>(rF c).trans (by apply sE h;rfl)))) (λm' n'=>⟨_,.refl _,q n'⟩) n')
 obtain⟨K,M1⟩:∃K,lF (fU parts) W W.length 0=K:=⟨_,rfl⟩;rw[M1]at rest;clear h1 h2 h3 g3;refine Ex.bu (s':=?s0) ?e0 ?_;case e0=>conv=>lhs;whnf
 with_reducible refine Ex.cons (Ex.assign (cQ ?hx) ?_)
 case hx=>rfl
 with_reducible refine Ev.uo PySem.F.slot_dict_get agW PySem.F.type_dict_get ?_ ?h0
 case h0=>rfl
 with_reducible refine Ev.se (.aK n) ?k3 L.lC ?_ ?r1 ?r2 ?r3 ?r4
 case k3=>exact qx
 case r1=>rfl
 case r2=>rfl
 case r3=>intro e;cases e
 case r4=>decide
 with_reducible refine fE.cons (aJ (v:=.aw [.str (S "tbody"),.str (S "tr")]) (by kernel_rfl) ?_)
 with_reducible refine fE.cons (aJ (v:=.aw [.str (S "tbody"),.str (S "tr")]) (by kernel_rfl) ?_)
 with_reducible refine fE.cons (aJ (v:=.aw [.str (S "tbody")]) (by kernel_rfl) ?_)
 with_reducible refine fE.cons (aJ (v:=.aw [.str (S "colgroup")]) (by kernel_rfl) ?_)
 with_reducible refine fE.nil ?_
 refine⟨AH.bP ..,adR,?_⟩;rw[nq];refine⟨.map (AH.bP ..),?_⟩;with_reducible refine aI.cons (aJ (v:=.str name) (by kernel_rfl) ?_)
 with_reducible refine aI.cons (aJ (v:=.aw []) (by kernel_rfl) ?_)
 with_reducible refine aI.nil ?_
 refine Call.get (es:=zq) (AH.bP ..) ?_;rw[adQ,hW];refine Ex.le rW ?_;refine Ex.bu (s':=?s1) ?e1 ?_;case e1=>conv=>lhs;whnf
 refine Ex.cons (Ex.A6 (cs:=pI [(S "part",.local)]) (y:=S "held") rfl (.aK (n+1)) (λ_=>true) MU (cQ rfl) (aJ (v:=bB parts) rfl ⟨parts.map .str,⟨.aw _,L.lC,mJ hz,?no,?ok⟩,?_⟩) ?f0 ?f1 ?f2 ?f3)
 case f0=>rfl
 case f1=>rfl
 case f2=>rfl
 case f3=>rfl
 case no=>
  intro y hy _;refine ah (afQ.mp hy) λz hz aM=>?_;subst aM
  exact .str _
 case ok=>
  intro Lp y hy acc;refine ah (afQ.mp hy) λz hz aM=>?_;subst aM
  exact⟨rfl,λ_=>aJ (Eq.trans (b:=cond (ar [S "thead",S "tfoot"] z) (some (.str (S "tbody"))) (some (.str z))) rfl (by show _=some (U.str (if ar [S "thead",S "tfoot"] z then S "tbody"else z));cases ar [S "thead",S "tfoot"] z<;>rfl)) ⟨rfl,rfl⟩⟩
 rw[adS];refine Ex.step (D:=DL (Lo×LS) b xt au (mK (Lo×LS) au)) (d:=4) (z1:=s) (m1:=[(S "keep",.int 0),(S "held",bB (fU parts)),(S "wanted",bB W),(S "parts",bB parts),(S "place",.int place),(S "attrs",.aG as),(S "name",.str name),(S "state",.ae .state)]) (λ_=>jv wd) rfl (λn3=>Ex.bu (s':=qK (stI eE.body 3)) rfl (Ex.cons (Ex.wh (D:=DL (It LS) b xt au (mK (It LS) au)) (d:=4) (λ_=>jv wd) (λj m z=>z=s/\∃k,k<=W.length/\j=W.length-k/\lF (fU parts) W j k=K/\bU (mL k (fU parts) W place as name) m) (λj m z I=>?turn) W.length (z0:=s) ⟨rfl,0,afw _,rfl,M1,.both (.both (.both (.cons (.refl _) rfl)))⟩ n3))) (n+1)
 case turn=>
  obtain⟨rfl,k,hk,rfl,e,l⟩:=I;cases c1:decide ((k:Int)<(W.length:Int))with
  |false=>
   have M3:k=W.length:=by have:=of_decide_eq_false c1;exact Nat.le_antisymm ‹_› (af0 λq=>of_decide_eq_false c1 (agP.mpr q))
   refine⟨_,.out z,l,(MR ..).trans ((MY M0 zr MZ Ee).trans (rF c1)),λn'=>rest m n' ?_⟩
   rw[M3,Nat.sub_self]at e;exact e▸M3▸l
  |true=>
   have aR:k<W.length:=by have:=afN c1;exact agy.mp this
   obtain⟨j,ej⟩:∃j,W.length-k=j+1:=⟨W.length-k-1,(Nat.sub_add_cancel (Nat.sub_pos_of_lt aR)).symm⟩;rw[ej]at e ⊢;unfold lF at e;rw[if_pos c1,afq aR]at e;dsimp only at e;have E:∀r,(if ((fU parts).drop k).take 1==[W[k]] then some (It.go .next ((S "keep",.int ((k:Int)+1))::mL k (fU parts) W place as name) z)else some (It.out z))=some r->jQ (DL (It LS) b xt au (mK (It LS) au)) 4 eE.cq (mL k (fU parts) W place as name) (jR (stI eE.body 3)) (ef (stI eE.body 3)) z=some r:=λr h=>
    (MR ..).trans ((MY M0 zr MZ Ee).trans ((rT c1).trans (by rw[afq aR];exact h)))
   cases c2:(((fU parts).drop k).take 1==[W[k]])with
   |false=>
    replace e:=c2▸e
    exact⟨_,.out z,l,E _ (rF c2),λn'=>rest m n' (by exact e▸l)⟩
   |true=>
    replace e:=c2▸e
    exact⟨_,.go .next _ z,l,E _ (rT c2),j,afY j,rfl,k+1,aR,(afp Nat.pred ej).symm,e,.Io⟩
end
section
variable{b:B}{x:LX}{s s':LS}{n:Nat}
theorem M4(h1:s.rk=k+1)(h2:s.old=some o):(hp b (lG x s) n).get (.run k)=some (.list (o.map .str)):=by
 show(if k=s.rk then _ else _)=_;rw[if_neg (by lia),h2]
 show(if k+1=s.rk then _ else _)=_;rw[if_pos h1.symm]
def boolOf:U->U
 |.str t=>.bool (hB t)
 |y=>y
theorem adY(r:List Str):(((r.map U.str).filter λ_=>true).map boolOf)=(r.map hB).map .bool:=by
 rw[agw.mpr λ_ _=>rfl,agr,agr];rfl
theorem adZ(r:List Str):(r.map hB).all id=r.all hB:=by rw[List.all_map];rfl
theorem ad0(h:gd s i a t=some s'):s'.rk=s.rk/\s'.old=s.old/\s'.pk=s.pk:=by
 unfold gd at h;refine bE h λy _ h=>?_
 dsimp only at h;split at h
 ·refine bE h λ_ _ h=>?_
  refine bE h λ_ _ h=>?_
  split at h
  ·split at h
   ·apply sE h;exact⟨rfl,rfl,rfl⟩
   ·exact af h
  ·split at h
   ·apply sE h;exact⟨rfl,rfl,rfl⟩
   ·exact af h
 ·split at h
  ·apply sE h;exact⟨rfl,rfl,rfl⟩
  ·exact af h
theorem ad1(h:cW s z y=some s'):s'.rk=s.rk/\s'.old=s.old/\s'.pk=s.pk:=by
 unfold cW at h;split at h
 ·apply sE h;exact⟨rfl,rfl,rfl⟩
 ·exact af h
end
abbrev om:aX:=aY (H.az 99) "_law_settle" 983 982 [S "state"] []
theorem ad2:ao 983 om:=ao.o1
abbrev ry(bl:Bool)(pl:Int)(k:Nat):Lo:=[(S "place",.int pl),(S "is_blank",.bool bl),(S "run",.ae (.run k)),(S "state",.ae .state)]
section
variable(bl:Bool)(pl:Int)(k:Nat)(b:B)(xt:LX)(s:LS)(x:Str)
def M5:Option (Fl×Lo×LS):=if bl then cond (Nat.beq (s.pk+1) (s.pk+1)) (s.path.getLast?.bind λc=>(cP s c).bind λ_=>(dy s c.toNat).bind λy=>if ay y.kids.length then(zd s c.toNat y.kids.length x).bind λs1=>some (.next,(S "kids",.ae (.bz c.toNat))::(S "sign",.str x)::ry bl pl k,s1)else none) none
 else cond (Nat.beq (s.pk+1) (s.pk+1)) ((b9 s.path (pl-1)).bind λc=>(cP s c).bind λ_=>(dy s c.toNat).bind λy=>if ay y.kids.length then(zd s c.toNat ((y.kids.length:Int)-1) x).bind λs1=>(cW s1 (S "foster-parented") (S "in table text")).bind λs2=>some (.next,(S "kids",.ae (.bz c.toNat))::(S "sign",.str x)::ry bl pl k,s2)else none) none
theorem ad3(hb:bl=true\/bl=false):(ms (DL (Fl×Lo×LS) b xt au (jX (Fl×Lo×LS) au)) 50).L 3 om.cq ((S "sign",.str x)::ry bl pl k) (ef (stI om.body 4)) s false (λfl m z=>some (fl,m,z))=M5 bl pl k s x:=by
 rcases hb with rfl|rfl
 ·kernel_rfl
 ·kernel_rfl
end
theorem ad4(hi:(if bl=true then s.path.getLast? else b9 s.path (pl-1))=some i)(hy:cP s i=some y)(ho:ay y.kids.length=true)(h1:gd s i (if bl=true then(y.kids.length:Int)else(y.kids.length:Int)-1) x=some s1)
  (h2:(if !bl then cW s1 (S "foster-parented") (S "in table text")else some s1)=some s2):M5 bl pl k s x=some (.next,(S "kids",.ae (.bz i.toNat))::(S "sign",.str x)::ry bl pl k,s2):=by
 refine ah (vX hy) λj bb hj=>?_;subst bb
 induction bl with
 |true=>
  apply sE h2;exact(rT rfl).trans ((cT (agl _)).trans (bS hi (bS hy (bS hj ((if_pos ho).trans (bS (bS (kj hj).1 h1) rfl))))))
 |false=>exact(rF rfl).trans ((cT (agl _)).trans (bS hi (bS hy (bS hj ((if_pos ho).trans (bS (bS (kj hj).1 h1) (bS h2 rfl)))))))
section
variable{b:B}{xt:LX}
theorem ad5(h:l8 s=some s')(q:∀n,Q .none (hp b (lG xt s') n)):aU 4 (.ref 983) [.ae .state] (hp b (lG xt s) n) Q:=by
 refine cu h λhc h=>?_
 refine aO hc λck hz=>?_
 have D1:=λ(r:Lo×LS)=>jv (b:=b) (xt:=xt) (c:=au) (tb:=jX (Lo×LS) au) (r:=r) tH
 refine(ad2).go (d:=3) (m:=[(S "state",.ae .state)]) (body:=[stI om.body 0,stI om.body 1,stI om.body 2,stI om.body 3,stI om.body 4]) rfl rfl rfl ?_;refine Ex.step (D:=DL (Lo×LS) b xt au (jX (Lo×LS) au)) (d:=3) (z1:=s) (m1:=[(S "run",.ae (.run s.rk)),(S "state",.ae .state)]) D1 rfl (λn1=>Ex.step (D:=DL (Lo×LS) b xt au (jX (Lo×LS) au)) (d:=3) (z1:={s with run:=[],rk:=s.rk+1,old:=some s.run}) (m1:=[(S "run",.ae (.run s.rk)),(S "state",.ae .state)]) D1 rfl (λn2=>?_) n1) n
 have Ef:cV {s with run:=[],rk:=s.rk+1,old:=some s.run}=true:=ck
 have M6:bc {s with run:=[],rk:=s.rk+1,old:=some s.run}=bc s:=rfl
 have Eg:({s with run:=[],rk:=s.rk+1,old:=some s.run}:LS).rk=s.rk+1:=rfl
 have Eh:({s with run:=[],rk:=s.rk+1,old:=some s.run}:LS).old=some s.run:=rfl
 generalize({s with run:=[],rk:=s.rk+1,old:=some s.run}:LS)=s0 at h Ef M6 Eg Eh
 refine Ex.bu (s':=?s2) ?e2 ?_;case e2=>conv=>lhs;whnf
 with_reducible refine Ex.cons (Ex.assign (cQ ?hx) ?_)
 case hx=>rfl
 refine Ev.ua QH (dj rfl) (aI.cons (Ev.uM (cs:=pI [(S "sign",.local),(S "_law_is_blank",.globalImplicit)]) rfl (.aK n2) (λ_=>true) boolOf (aJ (v:=.ae (.run s.rk)) rfl ⟨s.run.map .str,⟨.list (M4 Eg Eh),L.lC,mJ hz,?no,?ok⟩,?_⟩) ?f1 ?f2 ?f3))
 case f1=>rfl
 case f2=>rfl
 case f3=>rfl
 case no=>
  intro y hy _;refine ah (afQ.mp hy) λz hz aM=>?_;subst aM
  exact .bool _
 case ok=>
  intro Lp y hy acc;refine ah (afQ.mp hy) λz hz aM=>?_;subst aM
  exact⟨rfl,λ_=>Ev.jA QF (dj rfl) (aI.cons (aJ (v:=.str z) rfl (aI.nil (Call.gb (show 1<=3 by decide) (Mp ⟨rfl,rfl⟩)))))⟩
 rw[adY];refine aI.nil (Call.all ?_);rw[adZ];generalize s.run.all hB=bl at h;refine Ex.step (D:=DL (Lo×LS) b xt au (jX (Lo×LS) au)) (d:=3) (z1:=s0) (m1:=ry bl (cy (bc s)) s.rk) D1 (Eq.trans (b:=(jw s0).bind λns=>(P1 ns).bind λq=>(oj q.1).bind λp=>some (ry bl p.1 s.rk,s0)) (by kernel_rfl) ?_) (λn3=>?_) n2
 ·exact bS (if_pos Ef:jw s0=_) (bS (tI _) (bS (if_pos (vU Ef):oj (bc s0)=_) (M6▸rfl)))
 generalize cy (bc s)=pl at h;refine Ex.cons (Ex.sI (D:=DL (Fl×Lo×LS) b xt au (jX (Fl×Lo×LS) au)) (d:=3) (x:=S "sign") (y:=S "run") (body:=ef (stI om.body 4)) (v:=.ae (.run s.rk)) (xs:=s.run.map .str) (λ_=>jv tH) rfl rfl rfl (λi m z=>oV bl pl (s.run.drop i) z=some s'/\z.rk=s.rk+1/\z.old=some s.run/\bU (ry bl pl s.rk) m) ⟨h,Eg,Eh,.refl _⟩ (λi m z I n'=>.list (M4 I.2.1 I.2.2.1)) (λi y m z I e=>?turn) (λm z I n'=>?done) n3)
 case turn=>
  refine fb I λh hr ho l=>?_
  refine ah (za e) λt e1 aM=>?_;subst aM
  rw[AK e1]at h;refine bE h λj hj h=>bE h λy hy h=>cu h λhk h=>bE h λs3 h3 h=>bE h λs4 h4 h=>?_
  refine dG (ad0 h3) λk1 k2 _=>?_
  have K:s4.rk=s3.rk/\s4.old=s3.old:=iE h4 (λ_ h4=>dG (ad1 h4) λa b _=>⟨a,b⟩) λ_ h4=>by apply sE h4;exact⟨rfl,rfl⟩
  exact⟨_,_,l.both,(ad3 bl pl s.rk b xt z t (Bool.eq_false_or_eq_true bl)).trans (ad4 hj hy hk h3 h4),h,K.1.trans (k1.trans hr),K.2.trans (k2.trans ho),.cons (.cons (.refl _) rfl) rfl⟩
 case done=>
  have h:=I.1;rw[afj,List.drop_length]at h;obtain rfl:=ack h;exact Ex.nil ⟨_,.refl _,q _⟩
end
section
variable{b:B}{xt:LX}
theorem ad6:∀e,e∈zj ρ c->cJ (DL ρ b xt c tb) r e.1 e.2:=
 aD (bo (λa s r h Q q n=>bE h λt ht h=>by
   obtain⟨⟨k,nm,rest⟩,pl,ps,u⟩:=a;obtain rfl:rest=.aG t.1::.bool t.2.1::t.2.2:=MJ ht;exact adB h q) rfl)
  (aD (bo (λa s r h Q q n=>cE h λhi h=>by
   have e:=Mz (xt:=xt) (b:=b) (n:=n) h q;rw[af9 (afN hi)]at e;exact e) rfl)
  (aD (bo (λa s r h Q q n=>adX h q) rfl) D0))
theorem ad7(hk:PyData.strOk k=true)(hn:PyData.strOk nm=true)(h:me s (gA k nm as f tl)=some s')(q:∀n,Q .none (hp b (lG xt s') n)):aU 6 (.ref 1009) [.ae .state,bT (gA k nm as f tl)] (hp b (lG xt s) n) Q:=
 adE 5 [.ae .state,bT (gA k nm as f tl)] _ _ rfl (by
  have X:=Ex.swap (D:=DL LS b xt aW (zj LS aW)) (f:=kl.cq) (m:=[(S "token",bT (gA k nm as f tl)),(S "state",.ae .state)]) (z:=s) (d:=5) (e:=MM kl.body) (rest:=kl.body.tail) (body:=kl.body) (x:=S "kind") (y:=S "name") (elts:=(D9 (D8 kl.body)).1) (k:=(D9 (D8 kl.body)).2.1) (MP:=(D9 (D8 kl.body)).2.2) (p:=adG kl.body) (fin:=jk) (jv ad6 (r:=s')) rfl rfl (λL=>by kernel_rfl) ((adH s k nm as f tl).trans (adL hk hn h)) (λ_ _=>rfl) (λfl m H'=>∃bg,AH.Le H' bg/\Q fl.val bg) (λfl m z' n' e=>⟨_,.refl _,v7 q fl m z' n' e⟩) n
  exact X)
end
def pO:Str:=S "x y\n\x0b\r\t\x0c"
noncomputable def drawnOf (cA:Int):Nat:=(cA.fmod 32).toNat
def fs(cA:Int)(k:Nat):aN:=
 if 24<=drawnOf cA then⟨S "char",⟨#[(pO.cps[drawnOf cA-24]?).getD 0]⟩,[]⟩
 else if 12<=drawnOf cA then⟨S "end",(fX[drawnOf cA-12]?).getD (S ""),[.aG [],.bool false]⟩
 else⟨S "start",(fX[drawnOf cA]?).getD (S ""),[.aG [.aG [.str (S "at"),.str (Str.ofString (toString (k:Int)))]],.bool ((fX[drawnOf cA]?).getD (S "")==S "col")]⟩
theorem ad8(cA:Int)(k:Nat):(∃x f tl,(fs cA k).rest=x::.bool f::tl)\/(fs cA k).rest=[]:=by
 unfold fs;split
 ·exact .inr rfl
 ·split
  ·exact .inl ⟨_,_,_,rfl⟩
  ·exact .inl ⟨_,_,_,rfl⟩
theorem ad9(c:((fs cA k).kind==S "char")=false):∃kk nm as f,fs cA k=gA kk nm as f []:=by
 unfold fs at c ⊢;split
 ·rename_i q;rw[if_pos q]at c;exact nomatch (agj (S "char")).symm.trans c
 ·split
  ·exact⟨_,_,_,_,rfl⟩
  ·exact⟨_,_,_,_,rfl⟩
theorem Ei(cA:Int):cA.fmod 32=(drawnOf cA:Int)/\drawnOf cA<32:=by
 have h1:=Int.fmod_nonneg_of_pos cA (b:=32) (by decide)
 have h2:=Int.fmod_lt_of_pos cA (b:=32) (by decide)
 exact⟨(af9 h1).symm,(Int.toNat_lt h1).mpr h2⟩
theorem tL(h:i<12):∃y,fX[i]?=some y/\y∈fX:=⟨fX[i]'(by simpa[fX]using h),afq _,agR _⟩
theorem aea:pO.cps.size=8:=by decide+kernel
theorem Ej(h:i<8):∃c,pO.cps[i]?=some c/\c∈pO.cps.toList:=⟨pO.cps[i]'(by exact aea▸h),Array.getElem?_eq_getElem _,by simp⟩
theorem aeb:PySem.wordsOf (S "tr td tbody a table th col caption colgroup thead tfoot p")=fX:=by decide+kernel
theorem aec(cA:Int)(k:Nat):(∃as,q9 (fs cA k) as)\/Dk (fs cA k)\/Dl (fs cA k):=by
 refine aO (Ei cA) λ_ h=>?_
 unfold fs;by_cases c1:24<=drawnOf cA
 ·rw[if_pos c1];refine ah (Ej (i:=drawnOf cA-24) (by exact agp c1 h)) λc e hm=>?_
  rw[e];refine .inr (.inr ⟨rfl,afm _,rfl,λq=>?_⟩)
  have hz:pO.cps.toList.all (λc=>c !=0)=true:=by decide+kernel
  have h0:=afn.mp hz c hm;have q':(⟨#[c]⟩:Str).cps=(S "\x00").cps:=afp Str.cps q;have q2:(#[c]:Array Nat)=#[0]:=q';have q3:c=0:=by simpa using q2
  replace h0:=q3▸h0;cases h0
 ·rw[if_neg c1];by_cases c2:12<=drawnOf cA
  ·rw[if_pos c2];refine ah (tL (i:=drawnOf cA-12) (by exact agp c2 (agV c1))) λy e hm=>?_
   exact e▸.inr (.inl ⟨rfl,hm⟩)
  ·rw[if_neg c2];refine ah (tL (i:=drawnOf cA) (by exact agV c2)) λy e hm=>?_
   rw[e];exact .inl ⟨_,rfl,hm,rfl,by show 1<=1000;decide⟩
section
variable{b:B}{G:AH}{x:LX}{s s':LS}{n:Nat}{Q:U->AH->Prop}
abbrev tM:aX:=aY (H.az 88) "_law_token" 914 913 [S "number",S "at"] []
theorem aed:ao 914 tM:=ao.o2
theorem M7(hk:k<=1000)(q:Q (bT (fs cA k)) X):aU 1 (.ref 914) [.int cA,.int (k:Nat)] X Q:=by
 refine aed.go (d:=0) (m:=[(S "at",.int (k:Nat)),(S "number",.int cA)]) (body:=[stI tM.body 0,stI tM.body 1,stI tM.body 2,stI tM.body 3,stI tM.body 4]) rfl rfl rfl ?_;refine aO (Ei cA) λhd aR=>?_
 unfold fs at q;generalize drawnOf cA=dn at hd aR q;refine Ex.bu (s':=?s0) ?e0 ?_;case e0=>conv=>lhs;whnf
 with_reducible refine Ex.cons (Ex.assign (cQ ?hx) (Ev.uo PySem.F.slot_str_split PySem.F.plainAttrs_str PySem.F.type_str_split (aJ (v:=.str (S "tr td tbody a table th col caption colgroup thead tfoot p")) ?hv ⟨.str _,aI.nil (Call.split ?a ?b ?c ?_)⟩) ?h0))
 case h0=>rfl
 case hx=>rfl
 case hv=>rfl
 case a=>decide+kernel
 case b=>decide+kernel
 case c=>decide+kernel
 rw[aeb];refine Ex.bu (s':=?s1) ?e1 ?_;case e1=>conv=>lhs;whnf
 refine Ex.cons (Ex.assign (cQ rfl) (Ev.rK (aJ (v:=.int cA) rfl (aJ (v:=.int 32) rfl (Op.mod (by decide) ?_)))))
 rw[hd];refine Ex.bu (s':=?s2) ?e2 ?_;case e2=>conv=>lhs;whnf
 refine Ex.cons (Ex.ite (vj (c:=decide ((24:Int)<=(dn:Int))) rfl ?_));cases c1:decide ((24:Int)<=(dn:Int))
 ·have tN:¬24<=dn:=λh=>of_decide_eq_false c1 (agy.mpr h)
  rw[if_neg tN]at q;refine kI rfl (Ex.nil ?_);refine Ex.bu (s':=?s3) ?e3 ?_;case e3=>conv=>lhs;whnf
  refine Ex.cons (Ex.ite (vj (c:=decide ((12:Int)<=(dn:Int))) rfl ?_));cases c2:decide ((12:Int)<=(dn:Int))
  ·have tO:¬12<=dn:=λh=>of_decide_eq_false c2 (agy.mpr h)
   rw[if_neg tO]at q;refine ah (tL (i:=dn) (agV tO)) λy e hm=>?_
   rw[e]at q;refine kI rfl (Ex.nil ?_);refine Ex.bu (s':=?s4) ?e4 ?_;case e4=>conv=>lhs;whnf
   have it:∀{H:AH} {d:Nat} {Q:U->AH->Prop},Q (.str y) H->u7 d (.aw (fX.map .str)) (.int (dn:Int)) H Q:=λq=>⟨qf,Op.item (xs:=fX.map .str) (.aw _) (bh aR) (by rw[afG,e];rfl) q⟩
   exact Ex.cons<|Ex.ret<|Ev.tuple<|aI.cons<|aJ (v:=.str (S "start")) rfl<|aI.cons<|Ev.sub<|aJ (v:=.aw (fX.map .str)) rfl<|aJ (v:=.int (dn:Int)) rfl<|it<|aI.cons<|Ev.tuple<|aI.cons<|Ev.tuple<|aI.cons<|aJ (v:=.str (S "at")) rfl<|aI.cons<|Ev.wJ AE (dj rfl) (aI.cons<|aJ (v:=.int (k:Nat)) rfl<|aI.nil<|Call.Sa (bh hk)<|aI.nil ⟨afo rfl,aI.nil ⟨afo rfl,aI.cons<|Ev.cY<|Ev.sub<|aJ (v:=.aw (fX.map .str)) rfl<|aJ (v:=.int (dn:Int)) rfl<|it<|aJ (v:=.str (S "col")) rfl<|Op.wK<|aI.nil ⟨afo rfl,_,.refl _,q⟩⟩⟩)
  ·have tO:12<=dn:=agy.mp (afN c2);rw[if_pos tO]at q;refine ah (tL (i:=dn-12) (by exact agp tO (agV tN))) λy e hm=>?_
   rw[e]at q;have e0:(dn:Int)-12=((dn-12:Nat):Int):=by exact(aha tO).symm
   refine qt rfl ?_;exact Ex.cons (Ex.ret (Ev.tuple (aI.cons (aJ (v:=.str (S "end")) rfl (aI.cons (Ev.sub (aJ (v:=.aw (fX.map .str)) rfl (aJ (v:=.int ((dn:Int)-12)) rfl (e0▸⟨qf,Op.item (xs:=fX.map .str) (.aw _) (agY (Nat.sub_le _ _) (bh aR)) (by rw[afG,e];rfl) (aI.cons (aJ (v:=.aG []) rfl (aI.cons (aJ (v:=.bool false) rfl (aI.nil ⟨afo rfl,_,.refl _,q⟩)))))⟩)))))))))
 ·have tN:24<=dn:=agy.mp (afN c1);rw[if_pos tN]at q;refine ah (Ej (i:=dn-24) (by exact agp tN aR)) λc e hm=>?_
  rw[e]at q;have e0:(dn:Int)-24=((dn-24:Nat):Int):=by exact(aha tN).symm
  refine qt rfl ?_;exact Ex.cons (Ex.ret (Ev.tuple (aI.cons (aJ (v:=.str (S "char")) rfl (aI.cons (Ev.sub (aJ (v:=.str pO) rfl (aJ (v:=.int ((dn:Int)-24)) rfl (e0▸⟨⟨_,.str _,O6⟩,Op.O7 (agY (Nat.sub_le _ _) (bh aR)) e (aI.nil ⟨afo rfl,_,.refl _,q⟩)⟩)))))))))
end
def oo(b:B):Nat->Int->U
 |0,_=>.none
 |f+1,i=>match nd b i with
  |some x=>if x.kind==S "text" then .str x.text else .aw [.str x.name,.aw x.attrs,.aw (x.kids.map (oo b f))]
  |none=>.none
def mM(b:B):Nat->Int->Prop
 |0,_=>False
 |f+1,i=>∃x,nd b i=some x/\x.kids.length<=900000/\((x.kind==S "text")=false->∀k∈x.kids,mM b f k)
noncomputable def Ek:Loc->Bool
 |.tree|.dg|.dY|.names|.attrs|.eg|.eF|.bV _=>true
 |_=>false
noncomputable def El:AH:=⟨λ_=>none,λ_=>False⟩
structure gC(b:B)(n:Nat)(X:AH):Prop where
 get:∀l o,Ek l=true->(hp b El 0).get l=some o->X.get l=some o
 new:∀k,n<=k->X.new (.aK k)
theorem gC.add(V:gC b n X):gC b (n+1) (X.add (.aK n) o):=
 ⟨λl o h e=>by rw[AH.bQ _ _ (λq=>by replace h:=q▸h;cases h)];exact V.get l o h e,λk hk=>⟨V.new k (Nat.le_of_lt ‹_›),λq=>by injection q with q;exact agz _ (q▸hk)⟩⟩
theorem gC.aee:gC b n (hp b G n):=
 ⟨λl o h e=>by induction l<;>first|exact e|(cases h),λk hk=>hk⟩
theorem gC.inst(V:gC b n X):f7 X (.ae .tree) cN eI:=⟨.tree,.dg,rfl,V.get _ _ rfl rfl,V.get _ _ rfl rfl⟩
theorem gC.bV(V:gC b n X)(h:nd b i=some x):X.get (.bV i.toNat)=some (.list (cF x.kids)):=V.get _ _ rfl (PO h)
theorem R.aef(V:gC b n X)(h:nd b i=some x)(q:Q (.ae (.bV i.toNat)) X):br d getItem (.ae .eF) (.int i) X Q:=by
 refine cC (gK h) λk bb hk e=>?_;subst bb
 refine aF (afk.mp e) λaR _=>?_
 exact Op.item (.list (V.get .eF _ rfl rfl)) hk (by rw[afG,List.getElem?_range aR];rfl) q
def M8(as:List U):Prop:=∀a∈as,∃u v,a=.aG [.str u,.str v]
def Em(b:B):Prop:=∀x∈b.aa,M8 x.attrs
theorem Eo:∀{as:List U},M8 as->fF l as
 |[],_=>.nil
 |a::r,h=>by
  refine fN (h a (agf ..)) λu v aM=>?_;subst aM
  exact .cons (.aG (.cons (.str _) (.cons (.str _) .nil))) (Eo λa ha=>h a (af3 _ ha))
theorem M9(h:nd b i=some x):x∈b.aa:=by
 refine cC (gK h) λk _ _ e=>?_
 exact age e
theorem Ep(hA:Em b):∀(f:Nat) (i:Int),ew l (oo b f i)
 |0,_=>.none
 |f+1,i=>by
  unfold oo;cases e:nd b i with
  |none=>exact .none
  |some x=>
   dsimp only;split
   ·exact .str _
   ·exact .aw (.cons (.str _) (.cons (.aw (Eo (hA x (M9 e)))) (.cons (.aw (fF.all λy hy=>by
     refine ah (afQ.mp hy) λk _ aM=>?_;subst aM
     exact Ep hA f k)) .nil)))
def Na(b:B)(f:Nat):U->U
 |.int k=>oo b f k
 |y=>y
theorem aeg(ks:List Int):(((cF ks).filter λ_=>true).map (Na b f))=ks.map (oo b f):=by
 rw[agw.mpr λ_ _=>rfl]
 unfold cF;rw[agr];rfl
theorem gC.at(V:gC b (n+1) X)(hc:X.get (.aK n)=some (.cell (some (.ae .tree))))(F:fy cN a)(hx:f.cm.lookup x=some (.aK n))(hn:Mt f x=true)(hl:eI.lookup a=some (.ae l))(hg:(hp b El 0).get l=some (.list xs))(ht:Ek l=true)(hi:o4 d f m e=some (.int i))(he:mW e=true)(q:br d getItem (.ae l) (.int i) X Q):aQ d f m X (.Subscript (.Attribute (.Name x px) a pa) e ps) Q:=
 Ev.sub (Ev.fP F (Ev.cell hx (.inl (oh hn)) hc ⟨eI,.ae l,V.inst,hl,afL,aJ hi ⟨jE (V.get l _ ht hg),q⟩⟩) rfl) he
section
variable{b:B}
theorem w_plain(hA:Em b):∀(f:Nat) (i:Int) (n:Nat) (X:AH) (Q:U->AH->Prop),gC b n X->mM b f i->Q (oo b f i) X->aU f (.ref 926) [.ae .tree,.int i] X Q
 |0,_,_,_,_,_,h,_=>h.elim
 |f+1,i,n,X,Q,V,h,q=>by
  refine cC h λy hy hz hk=>?_
  refine Call.SN (body:=?b) (scope:=?s) (S "tree") (S "node") (.aK n) (ho:=Q2) (hc:=Q1) (hv:=rfl) (hi:=by kernel_rfl) (hq:=by kernel_rfl) (hbind:=λa b=>?hb) (eb:=?eb) (es:=?es) (uX:=.of (by kernel_rfl)) (Bh:=.of (by kernel_rfl)) (fB:=?cs) (hn:=V.new n (afm _)) (h:=?h) (hs:=?hs)
  case eb=>conv=>lhs;whnf
  case es=>conv=>lhs;whnf
  case cs=>intro L;kernel_rfl
  case hs=>rfl
  case hb=>rfl
  have V1:gC b (n+1) (X.add (.aK n) (.cell (some (.ae .tree)))):=V.add;unfold oo at q
  replace q:=hy▸q
  dsimp only at q;have hc:(X.add (.aK n) (.cell (some (.ae .tree)))).get (.aK n)=some (.cell (some (.ae .tree))):=AH.bP ..;generalize Nb:X.add (.aK n) (.cell (some (.ae .tree)))=X1 at V1 hc;have it:∀{l:Loc} {F:Nd->U} {d:Nat} {Q:U->AH->Prop},Ek l=true->(hp b El 0).get l=some (.list (b.aa.map F))->Q (F y) X1->br d getItem (.ae l) (.int i) X1 Q:=λh1 h2 q=>Op.lz (.list (V1.get _ _ h1 h2)) (jD hy) q
  refine Ex.cons (Ex.ite (Ts.cY (gC.at (l:=.dY) V1 hc uE rfl rfl rfl rfl rfl rfl rfl (it (F:=λx=>.str x.kind) rfl rfl (aJ (v:=.str (S "text")) rfl (Op.wK (Tr.bool ?_)))))))
  cases c:(y.kind==S "text")
  ·rw[c,if_neg (by decide)]at q
   have jo:=hk c;refine kI rfl (Ex.nil ?_);refine Ex.cons (Ex.ret (Ev.list (aI.cons (gC.at (l:=.names) V1 hc xc rfl rfl rfl rfl rfl rfl rfl (it (F:=λx=>.str x.name) rfl rfl (aI.cons (gC.at (l:=.attrs) V1 hc AF rfl rfl rfl rfl rfl rfl rfl (it (F:=λx=>.aw x.attrs) rfl rfl (aI.cons ?_)))))))))
   refine Ev.uM (cs:=pI [(S "kid",.local),(S "_law_plain",.globalImplicit),(S "tree",.cell)]) rfl (.aK (n+1)) (λ_=>true) (Na b f) (gC.at (l:=.eF) V1 hc AI rfl rfl rfl rfl rfl rfl rfl (R.aef V1 hy ⟨cF y.kids,⟨.list (V1.bV hy),V1.new _ (afm _),?len,?no,?ok⟩,?_⟩)) ?f1 ?f2 ?f3
   case f1=>rfl
   case f2=>rfl
   case f3=>rfl
   case len=>exact oG▸bh hz
   case no=>
    intro z eO _;refine ah (afQ.mp eO) λk _ aM=>?_;subst aM
    exact Ep hA f k
   case ok=>
    intro Lp z eO acc;refine ah (afQ.mp eO) λk hkm aM=>?_;subst aM
    exact⟨rfl,λ_=>Ev.jA FP (dj rfl) (aI.cons (Ev.cell (l:=.aK n) (v:=.ae .tree) rfl (.inl (oh rfl)) ((AH.bQ _ _ Dz).trans hc) (aI.cons (aJ (v:=.int k) rfl (aI.nil (w_plain hA f k (n+2) _ _ V1.add (jo k hkm) ⟨rfl,rfl⟩))))))⟩
   rw[aeg];subst Nb;exact aI.nil ⟨afo rfl,_,rfl,.aw (.cons (.str _) (.cons (.aw (Eo (hA y (M9 hy)))) (.cons (.aw (fF.all λz hz=>by
    refine ah (afQ.mp hz) λk _ aM=>?_;subst aM
    exact Ep hA f k)) .nil))),q⟩
  ·rw[c,if_pos rfl]at q;refine qt rfl ?_;exact Ex.cons (Ex.ret (gC.at (l:=.eg) V1 hc AG rfl rfl rfl rfl rfl rfl rfl (it (F:=λx=>.str x.text) rfl rfl ⟨_,Nb.symm,.str _,q⟩)))
end
abbrev dc(x:Str):Prop:=PyData.strOk x=true
theorem Nc:dc (S ""):=by decide+kernel
theorem aeh(h:dc x)(k:dc y):dc (x++y):=by
 unfold dc PyData.strOk at h k ⊢;show(x.cps++y.cps).all _=true;rw[Array.all_append,h,k];rfl
def pP(as:List U):Prop:=∀a∈as,∃u v,a=.aG [.str u,.str v]/\dc u/\dc v
structure Cl(s:LS):Prop where
 nd:∀(i:Nat) (x:LN),s.aa[i]?=some x->dc x.name/\dc x.text/\pP x.attrs/\∀k∈x.kids,(i:Int)<k/\k<s.aa.length
 n0:∃x,s.aa[0]?=some x/\x.tx=true/\x.kids=[1]
 n1:∃x,s.aa[1]?=some x/\x.tx=false/\x.name=S "html"/\x.attrs=[]
 er:∀e∈s.aH,dc e.1/\dc e.2
 rn:∀t∈s.run,dc t
theorem Cl.zu(C:Cl s)(h1:s'.aa=s.aa)(h2:s'.aH=s.aH)(h3:∀t∈s'.run,dc t):Cl s':=by
 refine⟨?_,?_,?_,?_,h3⟩
 ·exact h1▸C.nd
 ·exact h1▸C.n0
 ·exact h1▸C.n1
 ·exact h2▸C.er
theorem Cl.pos(C:Cl s)(h:cP s i=some x):∃k:Nat,i=(k:Int)/\s.aa[k]?=some x/\x.tx=false/\0<k:=by
 refine cC (uS h) λk e h1 ht=>?_
 refine⟨k,e,h1,ht,?_⟩
 induction k with
 |zero=>
  refine cC C.n0 λy e1 e2 _=>?_
  rw[e1]at h1;obtain rfl:=ack h1
  replace ht:=e2▸ht;cases ht
 |succ k=>exact ag3 k
theorem Cl.node(C:Cl s)(h:cP s i=some x)(hn:dc y.name)(ht:dc y.text)(ha:pP y.attrs)(hk:y.kids=[]):
  Cl {s with aa:=(s.aa.set i.toNat {x with kids:=x.kids.take a++(s.aa.length:Int)::x.kids.drop a})++[y],path:=p}:=by
 refine jY (C.pos h) λk bb h1 j9 Nf=>?_;subst bb
 refine aF (afk.mp h1) λaR _=>?_
 rw[afv];have g:∀j:Nat,((s.aa.set k {x with kids:=x.kids.take a++(s.aa.length:Int)::x.kids.drop a})++[y])[j]?=if j=k then some {x with kids:=x.kids.take a++(s.aa.length:Int)::x.kids.drop a}else if j=s.aa.length then some y else s.aa[j]?:=λj=>by
  by_cases q:j<s.aa.length
  ·rw[afU (by rw[af6];exact q),uU h1]
   by_cases q2:j=k
   ·rw[if_pos q2,if_pos q2]
   ·rw[if_neg q2,if_neg q2,if_neg (by exact afZ q)]
  ·rw[af2 (by rw[af6];exact af0 q),af6,if_neg (by lia)]
   by_cases q2:j=s.aa.length
   ·rw[if_pos q2,q2];simp
   ·rw[if_neg q2,afK (by simp;lia),afK (by exact af0 q)]
 have len:((s.aa.set k {x with kids:=x.kids.take a++(s.aa.length:Int)::x.kids.drop a})++[y]).length=s.aa.length+1:=by simp
 refine cC C.n0 λy0 e1 e2 e3=>?_
 refine jY C.n1 λy1 f1 f2 f3 f4=>?_
 refine aF (afk.mp e1) λl0 _=>?_
 refine aF (afk.mp f1) λl1 _=>?_
 refine fb (C.nd k x h1) λc1 c2 c3 c4=>?_
 refine⟨λj z hz=>?_,⟨y0,?_,e2,e3⟩,?_,C.er,C.rn⟩
 ·show _/\_/\_/\∀c∈z.kids,(j:Int)<c/\c<(_:Nat);have eO:=(g j).symm.trans hz;rw[len];by_cases q:j=k
  ·rw[if_pos q]at eO;apply sE eO;refine⟨c1,c2,c3,λc hc=>?_⟩
   rw[q];rcases afu.mp hc with hc|hc
   ·have:=c4 c (List.mem_of_mem_take hc);omega
   ·rcases ahc.mp hc with hc|hc
    ·rw[hc];lia
    ·have:=c4 c (agt hc);omega
  ·rw[if_neg q]at eO;by_cases q2:j=s.aa.length
   ·rw[if_pos q2]at eO;apply sE eO;exact⟨hn,ht,ha,λc hc=>by rw[hk]at hc;exact nomatch hc⟩
   ·rw[if_neg q2]at eO;refine fb (C.nd j z eO) λd1 d2 d3 d4=>?_
    exact⟨d1,d2,d3,λc hc=>by have:=d4 c hc;lia⟩
 ·exact(g 0).trans (by rw[if_neg (by exact afZ Nf),if_neg (by exact afZ l0)];exact e1)
 ·by_cases q:(1:Nat)=k
  ·refine⟨_,(g 1).trans (if_pos q),?_⟩;rw[<-q,f1]at h1;apply sE h1;exact⟨f2,f3,f4⟩
  ·exact⟨y1,(g 1).trans (by rw[if_neg q,if_neg (by exact afZ l1)];exact f1),f2,f3,f4⟩
theorem Cl.text(C:Cl s)(h:cP s i=some x)(hj:b9 x.kids j=some k)(hy:je s k=some y)(mZ:y.tx=true)(ht:dc t):Cl (s.b5 k.toNat {y with text:=t}):=by
 refine jY (C.pos h) λa bb h1 j9 Nf=>?_;subst bb
 refine cC (gK hy) λc bb _ h2=>?_;subst bb
 rw[afv];have g:=uU (z:={y with text:=t}) h2
 refine cC (gK hj) λjn _ _ hjn=>?_
 have hc:=(C.nd a x h1).2.2.2 _ (age hjn);refine cC C.n0 λy0 e1 e2 e3=>?_
 refine jY C.n1 λy1 f1 f2 f3 f4=>?_
 have len:(s.aa.set c {y with text:=t}).length=s.aa.length:=af6
 refine⟨λj z hz=>?_,⟨y0,?_,e2,e3⟩,⟨y1,?_,f2,f3,f4⟩,C.er,C.rn⟩
 ·show _/\_/\_/\∀c∈z.kids,(j:Int)<c/\c<(_:Nat);have eO:(s.aa.set c {y with text:=t})[j]?=some z:=hz
  rw[g]at eO;show _/\_/\_/\∀c'∈z.kids,(j:Int)<c'/\c'<((s.aa.set c {y with text:=t}).length:Nat)
  rw[len];by_cases q:j=c
  ·rw[if_pos q]at eO;apply sE eO;refine fb (C.nd c y h2) λd1 d2 d3 d4=>?_
   exact⟨d1,ht,d3,q▸d4⟩
  ·rw[if_neg q]at eO;exact C.nd j z eO
 ·show(s.aa.set c _)[0]?=_;rw[g,if_neg (by lia)];exact e1
 ·show(s.aa.set c _)[1]?=_;rw[g,if_neg (λq=>by rw[<-q,f1]at h2;obtain rfl:=ack h2;rw[mZ]at f2;exact nomatch f2)];exact f1
theorem Cl.err(C:Cl s)(h:cW s x y=some s')(hx:dc x)(hy:dc y):Cl s':=by
 unfold cW at h;refine aO (ig h) λ_ h=>?_
 apply sE h;refine⟨C.nd,C.n0,C.n1,λe he=>?_,C.rn⟩
 rcases afu.mp he with he|he
 ·exact C.er e he
 ·rw[afJ.mp he];exact⟨hx,hy⟩
theorem Cl.put(C:Cl s)(h:gd s i a t=some s')(ht:dc t):Cl s':=by
 unfold gd at h;refine bE h λx hx h=>?_
 dsimp only at h;have eV:∀{s'},(if ay x.kids.length=true/\valid s=true/\0<=a/\a<=x.kids.length then
   some {s with aa:=(s.aa.set i.toNat {x with kids:=x.kids.take a.toNat++(s.aa.length:Int)::x.kids.drop a.toNat})++[(⟨true,S "",[],t,[]⟩:LN)]}else none)=some s'->Cl s':=λh=>by
  split at h
  ·apply sE h;exact C.node hx (y:=⟨true,S "",[],t,[]⟩) (p:=s.path) Nc ht (λa ha=>by cases ha) rfl
  ·exact af h
 split at h
 ·refine bE h λk hk h=>?_
  refine bE h λy hy h=>?_
  split at h
  ·rename_i mZ;split at h
   ·apply sE h;refine cC (gK hy) λc bb _ h2=>?_;subst bb
    exact C.text hx hk hy mZ (aeh (C.nd c y h2).2.1 ht)
   ·exact af h
  ·exact eV h
 ·exact eV h
structure NodeOk(s s':LS)(i:Int)(y:LN)(at_:Nat)(name:Str)(as:List U):Prop where
 el:cP s i=some y
 val:valid s=true
 len:y.kids.length<=900000
 path:s.path.length<=900000
 atl:as.length<=900000
 qF:at_<=y.kids.length
 eq:s'={s with aa:=(s.aa.set i.toNat {y with kids:=y.kids.take at_++(s.aa.length:Int)::y.kids.drop at_})++[⟨false,name,as,S "",[]⟩],path:=s.path++[(s.aa.length:Int)]}
theorem aei(h:j7 s i at_ name as=some s'):∃y,NodeOk s s' i y at_ name as:=by
 unfold j7 at h;refine bE h λy hy h=>?_
 split at h
 ·rename_i c;refine wz c λc1 c2 c3 c4 c5=>?_
  cases h;exact⟨y,hy,c2,d9 c1,d9 c3,d9 c4,c5,rfl⟩
 ·cases h
theorem Cl.Ng(C:Cl s)(h:j7 s i a name as=some s')(hn:dc name)(ha:pP as):Cl s':=by
 refine aF (aei h) λy N=>?_
 rw[N.eq];exact C.node N.el (y:=⟨false,name,as,S "",[]⟩) hn Nc ha rfl
theorem Cl.zw(C:Cl s)(h:fH s name as=some s')(hn:dc name)(ha:pP as):Cl s':=by
 unfold fH at h;refine bE h λi hi h=>?_
 refine bE h λy hy h=>?_
 exact C.Ng h hn ha
theorem Cl.i7(C:Cl s)(h:fT s=some s'):Cl s':=by
 unfold fT at h;refine bE h λr _ h=>?_
 apply sE h;exact C.zu rfl rfl C.rn
theorem rA(ns:List Str):dc (dt ns):=by
 have:∀(l:List Str) (m:Str),dc m->dc (l.foldl jf m):=λl=>by
  induction l with
  |nil=>exact λm h=>h
  |cons x r ih=>
   intro m h;refine ih _ ?_;unfold jf;cases q:sq.lookup x with
   |none=>exact h
   |some y=>
    have sf:(sq.map (·.2)).all PyData.strOk=true:=by decide+kernel
    exact afn.mp sf y (Ed q)
 exact this ns _ (by decide+kernel)
theorem Cl.leave(C:Cl s)(h:fm s keep=some s'):Cl s':=by
 unfold fm at h;refine aO (ig h) λ_ h=>?_
 refine bE h λs1 h1 h=>?_
 have C1:Cl s1:=by
  split at h1
  ·exact C.err h1 (by decide+kernel) (rA _)
  ·apply sE h1;exact C
 split at h
 ·apply sE h;exact C1.zu rfl rfl C1.rn
 ·exact af h
theorem Cl.Nh:∀{r:List Str} {s s':LS},Cl s->(∀t∈r,dc t)->oV bl place r s=some s'->Cl s'
 |[],s,s',C,_,h=>by cases h;exact C
 |x::r,s,s',C,hr,h=>by
  unfold oV at h;refine bE h λi _ h=>?_
  refine bE h λy _ h=>?_
  refine aO (ig h) λ_ h=>?_
  refine bE h λs1 h1 h=>?_
  refine bE h λs2 h2 h=>?_
  have C1:=C.put h1 (hr x (agf ..));have C2:Cl s2:=by
   split at h2
   ·exact C1.err h2 (by decide+kernel) (by decide+kernel)
   ·apply sE h2;exact C1
  exact C2.Nh (λt ht=>hr t (af3 _ ht)) h
theorem Cl.settle(C:Cl s)(h:l8 s=some s'):Cl s':=by
 unfold l8 at h;split at h
 ·exact Cl.Nh (s:={s with run:=[],rk:=s.rk+1,old:=some s.run}) (C.zu rfl rfl λt ht=>by cases ht) C.rn h
 ·exact af h
theorem Cl.sign(C:Cl s)(ht:dc t)(h:l9 s t=some s'):Cl s':=by
 unfold l9 at h;refine aO (ig h) λ_ h=>?_
 refine bE h λi _ h=>?_
 refine bE h λy _ h=>?_
 refine aO (ig h) λ_ h=>?_
 dsimp only at h;split at h
 ·exact C.put h ht
 ·split at h
  ·refine bE h λs1 h1 h=>?_
   exact(C.err h1 (by decide+kernel) (rA _)).put h ht
  ·refine bE h λs1 h1 h=>?_
   have C1:Cl s1:=by
    split at h1
    ·exact C.i7 h1
    ·apply sE h1;exact C
   refine aO (ig h) λ_ h=>?_
   apply sE h;refine C1.zu rfl rfl λu hu=>?_
   rcases afu.mp hu with hu|hu
   ·exact C1.rn u hu
   ·rw[afJ.mp hu];exact ht
theorem Cl.Ni:∀{r:List Str} {s s':LS},Cl s->(∀t∈r,dc t)->sr r s=some s'->Cl s'
 |[],s,s',C,_,h=>by cases h;exact C
 |x::r,s,s',C,hr,h=>by
  unfold sr at h;refine bE h λs1 h1 h=>?_
  refine bE h λs2 h2 h=>?_
  have C1:Cl s1:=by
   split at h1
   ·exact C.err h1 (by decide+kernel) (by decide+kernel)
   ·apply sE h1;exact C
  exact(C1.zw h2 (hr x (agf ..)) (λa ha=>by cases ha)).Ni (λt ht=>hr t (af3 _ ht)) h
theorem Cl.part(C:Cl s)(hn:dc name)(ha:pP as)(h:lH s name as place parts=some s'):Cl s':=by
 unfold lH at h;split at h
 ·dsimp only at h;refine bE h λs1 h1 h=>?_
  refine bE h λs2 h2 h=>?_
  refine bE h λs3 h3 h=>?_
  have hw:=afn.mp (MT name).2;have C3:=((C.leave h1).Ni (λt ht=>hw t (agt ht)) h2).zw h3 hn ha
  split at h
  ·exact C3.i7 h
  ·apply sE h;exact C3
 ·exact af h
structure zy(t:aN):Prop where
 name:dc t.name
 attrs:∀as,jJ t=some as->pP as
theorem Cl.other(C:Cl s)(T:zy t)(h:kM s t place parts=some s'):Cl s':=by
 unfold kM at h;split at h
 ·dsimp only at h;refine bE h λs1 h1 h=>?_
  have C1:Cl s1:=by
   split at h1
   ·exact C.err h1 (by decide+kernel) (rA _)
   ·apply sE h1;exact C
  split at h
  ·split at h
   ·split at h
    ·exact C1.i7 h
    ·apply sE h;exact C1
   ·exact af h
  ·split at h
   ·refine bE h λas has h=>?_
    split at h
    ·refine bE h λk _ h=>?_
     refine bE h λy _ h=>?_
     split at h
     ·exact C1.Ng h T.name (T.attrs as has)
     ·exact af h
    ·exact C1.zw h T.name (T.attrs as has)
   ·refine bE h λf _ h=>?_
    split at h
    ·exact C1.err h (by decide+kernel) (rA _)
    ·apply sE h;exact C1
 ·exact af h
theorem Cl.tag(C:Cl s)(T:zy t)(h:me s t=some s'):Cl s':=by
 unfold me at h;refine aO (ig h) λ_ h=>?_
 refine bE h λs1 h1 h=>?_
 have C1:Cl s1:=by
  split at h1
  ·exact C.i7 h1
  ·apply sE h1;exact C
 refine aO (ig h) λ_ h=>?_
 generalize(if cH (bc s)==[S "colgroup"]&&(t.name !=S "col"&&!(t.kind==S "end"&&t.name==S "colgroup")) then[]else cH (bc s))=parts at h;split at h
 ·exact C1.other T h
 ·split at h
  ·refine bE h λs2 h2 h=>?_
   refine bE h λs3 h3 h=>?_
   refine bE h λas has h=>?_
   exact((C1.err h2 (by decide+kernel) (rA _)).leave h3).zw h T.name (T.attrs as has)
  ·split at h
   ·refine bE h λas has h=>?_
    exact C1.part T.name (T.attrs as has) h
   ·split at h
    ·exact C1.leave h
    ·split at h
     ·exact C1.leave h
     ·exact C1.err h (by decide+kernel) (rA _)
theorem Cl.step(C:Cl s)(T:zy t)(h:su s t=some s'):Cl s':=by
 unfold su at h;split at h
 ·exact C.sign T.name h
 ·refine bE h λs1 h1 h=>?_
  exact(C.settle h1).tag T h
theorem aej{k:Nat}(h:k<=12):dc (Str.ofString (toString (k:Int))):=by
 have ha:(List.range 13).all (λk=>PyData.strOk (Str.ofString (toString (k:Int))))=true:=by decide+kernel
 exact afn.mp ha k (ahh.mpr (by exact afS h))
theorem we:dc (S "char")/\dc (S "start")/\dc (S "end")/\dc (S "at"):=by decide+kernel
theorem aek:Cl (aB b0 0 0 none):=by
 refine⟨λi x h=>?_,⟨_,rfl,by kernel_rfl,rfl⟩,⟨_,rfl,by kernel_rfl,rfl,rfl⟩,λe he=>(by cases he),λt ht=>(by cases ht)⟩
 have h':(b0.aa.map c6)[i]?=some x:=h
 match i,h' with
 |0,h'=>apply sE h';exact⟨by decide+kernel,by decide+kernel,λa ha=>(by cases ha),λk hk=>by
   have jo:k∈([1]:List Int):=hk;rw[afJ.mp jo];decide⟩
 |1,h'=>apply sE h';exact⟨by decide+kernel,by decide+kernel,λa ha=>(by cases ha),λk hk=>by
   have jo:k∈([2,3]:List Int):=hk;rcases ahc.mp jo with e|e
   ·rw[e];decide
   ·rw[afJ.mp e];decide⟩
 |2,h'=>apply sE h';exact⟨by decide+kernel,by decide+kernel,λa ha=>(by cases ha),λk hk=>by cases hk⟩
 |3,h'=>apply sE h';exact⟨by decide+kernel,by decide+kernel,λa ha=>(by cases ha),λk hk=>by cases hk⟩
 |i+4,h'=>exact af h'
theorem Nj(h:y∈fX):dc y:=by
 have:fX.all PyData.strOk=true:=by decide+kernel
 exact afn.mp this y h
theorem Nk(cA:Int){k:Nat}(hk:k<=12):zy (fs cA k)/\dc (fs cA k).kind:=by
 refine aO (Ei cA) λ_ h=>?_
 unfold fs;by_cases c1:24<=drawnOf cA
 ·rw[if_pos c1];refine ah (Ej (i:=drawnOf cA-24) (by exact agp c1 h)) λc e hm=>?_
  rw[e];have hz:pO.cps.toList.all (λc=>decide (c<0x110000))=true:=by decide+kernel
  have h0:=afn.mp hz c hm;refine⟨⟨?_,λas e=>by exact af e⟩,we.1⟩
  show(#[c]:Array Nat).all _=true;simpa using h0
 ·rw[if_neg c1];by_cases c2:12<=drawnOf cA
  ·rw[if_pos c2];refine ah (tL (i:=drawnOf cA-12) (by exact agp c2 (agV c1))) λy e hm=>?_
   rw[e];exact⟨⟨Nj hm,λas e=>(by refine sE e ?_;exact λa ha=>(by cases ha))⟩,we.2.2.1⟩
  ·rw[if_neg c2];refine ah (tL (i:=drawnOf cA) (by exact agV c2)) λy e hm=>?_
   rw[e];refine⟨⟨Nj hm,λas e=>?_⟩,we.2.1⟩
   have e':some [U.aG [.str (S "at"),.str (Str.ofString (toString (k:Int)))]]=some as:=e;refine sE e' ?_;exact λa ha=>⟨_,_,afJ.mp ha,we.2.2.2,aej hk⟩
structure Fin(b:B)(N c:Nat):Prop where
 el:∀k∈b.stack,∃x,nd b k=some x/\x.name=aE b k
 mode:b.mode=if b.pending.isEmpty then dt (names b)else S "in table text"
 marks:b.marks=dw (names b)
 mI:∀x∈names b,dc x
 kind:∀(i:Nat) (x:Nd),b.aa[i]?=some x->0<i->x.kind=S "element"\/x.kind=S "text"
 zn:b.aa.length<=N
 zs:b.stack.length<=N
 ze:b.aH.length<=N
 zk:∀(i:Nat) (x:Nd),b.aa[i]?=some x->x.kids.length<=N
 zp:b.pending.length<=N+c
theorem ael(O:Ok b N)(hN:N<=800000):∀k∈b.stack,∃x,nd b k=some x/\x.name=aE b k:=λk hk=>by
 refine cK (O.el k hk) λi x aM h2 _=>?_;subst aM
 refine⟨x,(O.nd hN i).trans h2,?_⟩;unfold aE;rw[afv,h2];rfl
theorem ki.fin(I:ki b N)(hN:N<=800000)(c:Nat):Fin b N c:=by
 refine⟨ael I.ok hN,?_,I.marks,I.shape.ok.1,I.ok.kind,I.ok.zn,I.ok.zs,I.ok.ze,I.ok.zk,by have:=I.ok.zp;exact agH this⟩
 exact I.bN▸I.shape.ok.2.symm
theorem Inv.fin(I:Inv b N c)(hN:N<=800000):Fin b N c:=by
 refine Or.elim I (λI=>?_) λJ=>?_
 ·exact I.fin hN c
 ·have F:=J.base.fin hN c;refine⟨F.el,?_,F.marks,F.mI,F.kind,F.zn,F.zs,F.ze,F.zk,by have:=J.zp;exact Nat.le_add_left_of_le this⟩
  rw[J.mode];cases e:b.pending with
  |nil=>exact absurd e J.ne
  |cons=>rfl
noncomputable def oq:U->PyData
 |.aG [.str u,.str v]=>.tuple [.str u,.str v]
 |_=>.none
def iY(b:B):Nat->Int->PyData
 |0,_=>.none
 |f+1,i=>match nd b i with
  |some x=>if x.kind==S "text" then .str x.text else .list [.str x.name,.list (x.attrs.map oq),.list (x.kids.map (iY b f))]
  |none=>.none
theorem Er:∀{as:List U},pP as->gN X as (as.map oq)
 |[],_=>.nil
 |a::r,h=>by
  refine cG (h a (agf ..)) λu v aM _=>?_;subst aM
  exact .cons (.aG (.cons (.str _) (.cons (.str _) .nil))) (Er λa ha=>h a (af3 _ ha))
theorem Nl:∀{as:List U},pP as->PyData.canLayAll0 (as.map oq)=true/\PyData.depthAll (as.map oq)<=1
 |[],_=>⟨rfl,afw _⟩
 |a::r,h=>by
  refine cK (h a (agf ..)) λu v aM hu hv=>?_;subst aM
  refine aO (Nl (as:=r) λa ha=>h a (af3 _ ha)) λi1 i2=>?_
  constructor
  ·show(PyData.canLay0 (.tuple [.str u,.str v])&&PyData.canLayAll0 (r.map oq))=true;rw[i1,Bool.and_true];show((PyData.strOk u)&&(PyData.strOk v&&true))=true;rw[hu,hv];rfl
  ·show max (PyData.depth (.tuple [.str u,.str v])) (PyData.depthAll (r.map oq))<=1;exact agN.mpr ⟨afm 1,i2⟩
theorem rB:∀{l:List α},(∀a∈l,fG X (f a) (g a))->gN X (l.map f) (l.map g)
 |[],_=>.nil
 |a::r,h=>.cons (h a (agf ..)) (rB λa ha=>h a (af3 _ ha))
theorem tP:∀{l:List α},(∀a∈l,(g a).canLay0=true)->PyData.canLayAll0 (l.map g)=true
 |[],_=>rfl
 |a::r,h=>by
  show((g a).canLay0&&PyData.canLayAll0 (r.map g))=true;rw[h a (agf ..),tP λa ha=>h a (af3 _ ha)];rfl
theorem tQ:∀{l:List α},(∀a∈l,(g a).depth<=n)->PyData.depthAll (l.map g)<=n
 |[],_=>afw _
 |a::r,h=>by
  show max (g a).depth (PyData.depthAll (r.map g))<=n;have h1:=h a (agf ..);have h2:=tQ (l:=r) λa ha=>h a (af3 _ ha)
  exact agN.mpr ⟨‹_›,‹_›⟩
section
variable{b:B}{N c:Nat}{s:LS}
theorem tR{i:Nat}(h:b.aa[i]?=some x):(aB b pk rk old).aa[i]?=some (c6 x):=by
 show(b.aa.map c6)[i]?=_;rw[afG,h];rfl
theorem aem(F:Fin b N c)(hN:N<=800000)(C:Cl (aB b pk rk old)):∀(f i:Nat),b.aa.length<=f+i->i<b.aa.length->mM b f (i:Int):=λkK=>by
 induction kK with
 |zero=>exact λi h hi=>absurd hi (by omega)
 |succ f ih=>
  rintro i h hi
  have e:b.aa[i]?=some b.aa[i]:=afq hi;have e':nd b (i:Int)=some b.aa[i]:=by
   unfold Mine.nd;rw[mi (by have:=F.zn;exact bh (ads this hN)) i];exact e
  refine⟨_,e',by have:=F.zk i _ e;exact bh (ads ‹_› ‹_›),λ_ k hk=>?_⟩
  have hc:=(C.nd i _ (tR e)).2.2.2 k hk;have len:(aB b pk rk old).aa.length=b.aa.length:=afj ..
  replace hc:=len▸hc
  obtain⟨j,rfl⟩:∃j:Nat,k=j:=⟨k.toNat,by lia⟩
  exact ih j (by lia) (by lia)
theorem mM.at(h:mM b (f+1) i):∃(j:Nat) (x:Nd),i=(j:Int)/\b.aa[j]?=some x/\nd b i=some x/\((x.kind==S "text")=false->∀k∈x.kids,mM b f k):=by
 refine ah h λx e z=>?_
 refine ah (gK e) λj e1 z2=>?_
 exact⟨j,x,e1,z2.2,e,z.2⟩
theorem aen(C:Cl (aB b pk rk old)):Em b:=λx hx=>by
 refine aF (List.mem_iff_getElem?.mp hx) λi hi=>?_
 intro a ha;refine cG ((C.nd i _ (tR hi)).2.2.1 a ha) λu v e _=>?_
 exact⟨u,v,e⟩
theorem aeo(C:Cl (aB b pk rk old))(f:Nat):∀(i:Int),mM b f i->(iY b f i).canLay0=true/\(iY b f i).depth<=2*f+2:=by
 induction f with
 |zero=>exact λi h=>h.elim
 |succ f ih=>
  intro i h;refine dW h.at λj x ei e' e hk=>?_
  refine fb (C.nd j _ (tR e')) λh1 h2 h3 _=>?_
  unfold iY;rw[e];dsimp only;cases q:(x.kind==S "text")
  ·rw[if_neg (by decide)]
   have jo:=hk q;refine aO (Nl h3) λa1 a2=>?_
   constructor
   ·show(PyData.strOk x.name&&(PyData.canLayAll0 (x.attrs.map oq)&&(PyData.canLayAll0 (x.kids.map (iY b f))&&true)))=true;have a1':PyData.canLayAll0 (x.attrs.map oq)=true:=a1;have Ki:PyData.strOk x.name=true:=h1;rw[Ki,a1',tP λk hk=>(ih k (jo k hk)).1];rfl
   ·have d:=tQ (g:=iY b f) (n:=2*f+2) (l:=x.kids) λk hk=>(ih k (jo k hk)).2
    have a2':PyData.depthAll (x.attrs.map oq)<=1:=a2;exact afS (agN.mpr ⟨afw _,agN.mpr ⟨ads (afS a2') (af7 _ _),agN.mpr ⟨afS d,afw _⟩⟩⟩)
  ·rw[if_pos rfl];exact⟨h2,afw _⟩
theorem aep{old:Option (List Str)}(C:Cl (aB b pk rk old))(f:Nat):∀(i:Int),mM b f i->fG X (oo b f i) (iY b f i):=by
 induction f with
 |zero=>exact λi h=>h.elim
 |succ f ih=>
  intro i h;refine dW h.at λj x ei e' e hk=>?_
  refine fb (C.nd j _ (tR e')) λh1 h2 h3 _=>?_
  unfold iY oo;rw[e];dsimp only;cases q:(x.kind==S "text")
  ·rw[if_neg (by decide),if_neg (by decide)]
   exact .aw (.cons (.str _) (.cons (.aw (Er h3)) (.cons (.aw (rB λk jo=>ih k (hk q k jo))) .nil)))
  ·rw[if_pos rfl,if_pos rfl];exact .str _
theorem aeq(F:Fin b N c){pk rk:Nat}(C:Cl (aB b pk rk old))(f:Nat):∀(i:Int),mM b f i->0<i->fG (hp b (lG x (aB b pk rk old)) n) (cf (aB b pk rk old) i) (iY b f i):=by
 induction f with
 |zero=>exact λi h _=>h.elim
 |succ f ih=>
  intro i h hi;refine dW h.at λj y ei e' e hk=>?_
  refine fb (C.nd j _ (tR e')) λh1 h2 h3 h4=>?_
  have hl:=tR (pk:=pk) (rk:=rk) (old:=old) e';unfold iY;rw[e];dsimp only;have ek:cf (aB b pk rk old) i=if y.kind !=S "element" then .str y.text else .aw [.str y.name,.aw y.attrs,.ae (.bz j)]:=by
   unfold cf;rw[ei,afv,hl];rfl
  rw[ek];rcases F.kind j y e' (by lia)with q|q
  ·rw[q,if_neg (by rw[bne_self_eq_false];decide),if_neg (by decide)]
   refine .aw (.cons (.str _) (.cons (.aw (Er h3)) (.cons (.ae (xs:=y.kids.map (cf (aB b pk rk old))) ?_ (rB λk jo=>ih k (hk (by rw[q];simp[uY]) k jo) (by have:=h4 k jo;lia))) .nil)))
   rw[lI rfl,iM,hl];show(if y.kind !=S "element" then none else some (b8.list (y.kids.map (cf (aB b pk rk old)))))=_;rw[q,if_neg (by rw[bne_self_eq_false];decide)]
  ·rw[q,if_pos (by decide+kernel),if_pos (by rw[agj])]
   exact .str _
end
theorem Inv.more(I:Inv b N c)(h:N<=M):Inv b M c:=by
 refine Or.elim I (λI=>?_) λJ=>?_
 ·exact .inl (I.more h)
 ·exact .inr ⟨J.base.more h,J.pl,J.mode,J.ne,J.zp,J.sg⟩
theorem Inv.cV(I:Inv b N c)(hN:N+c<=800000)(pk rk:Nat)(old:Option (List Str)):Mine.cV (aB b pk rk old)=true:=by
 have F:=I.fin (by exact af4 hN)
 have O:Ok b (N+c):=by
  refine Or.elim I (λI=>?_) λJ=>?_
  ·exact I.ok.same rfl (afE _) (ads I.ok.ze (agq _ _)) (ads I.ok.zp (agq _ _)) (agq _ _)
  ·exact J.ok
 exact qR O hN pk rk old F.mI
structure At(i:Nat)(b:B)(s:LS):Prop where
 Nm:Inv b (10+32*i) i
 cl:Cl s
 eB:∃pk rk old,s=aB b pk rk old
theorem At.start:At 0 b0 (aB b0 0 0 none):=⟨aaW,aek,_,_,_,rfl⟩
theorem At.step(A:At i b s)(hi:i<=13)(cA:Int)(hk:k<=12):∃b' s',ql b (fs cA k)=some b'/\su s (fs cA k)=some s'/\At (i+1) b' s':=by
 obtain⟨I,C,pk,rk,old,rfl⟩:=A;have st:tw b (10+32*i) i (fs cA k):=by
  rcases aec cA k with⟨as,h⟩|h|h
  ·exact aaS I (by omega) (by exact bh (agv (Nat.mul_le_mul_left 32 hi) 10)) (by exact bh hi) h
  ·exact aaT I (by omega) (by exact bh (agv (Nat.mul_le_mul_left 32 hi) 10)) (by exact bh hi) h
  ·exact aaU I (by omega) (by exact bh (agv (Nat.mul_le_mul_left 32 hi) 10)) (by exact bh hi) h
 refine cC st λb' e1 I' eB=>?_
 refine kq (eB pk rk old) λjr Dn yK e2=>?_
 exact⟨b',_,e1,e2,I'.more (by lia),C.step (Nk cA hk).1 e2,jr,Dn,yK,rfl⟩
section
variable{i:Nat}{b:B}{s:LS}
theorem At.fin(A:At i b s)(hi:i<=14):Fin b (10+32*i) i:=A.Nm.fin (by exact bh (agv (Nat.mul_le_mul_left 32 hi) 10))
theorem At.cV(A:At i b s)(hi:i<=14):cV s=true:=by
 refine kq A.eB λpk rk old bx=>?_;subst bx
 exact A.Nm.cV (by lia) pk rk old
theorem At.names(A:At i b s):bc s=names b:=by
 refine kq A.eB λpk rk old bx=>?_;subst bx
 exact nF ..
theorem At.run(A:At i b s):s.run=b.pending:=by
 refine kq A.eB λpk rk old bx=>?_;subst bx
 rfl
theorem At.aH(A:At i b s):s.aH=b.aH:=by
 refine kq A.eB λpk rk old bx=>?_;subst bx
 rfl
theorem At.mode(A:At i b s)(hi:i<=14):b.mode=if s.run.isEmpty then dt (bc s)else S "in table text":=by
 rw[A.run,A.names];exact(A.fin hi).mode
def wg(b:B):PyData:=.tuple [.str b.mode,.list ((names b).map .str),.list (b.marks.map .int)]
def rC(x:Str):PyData:=.tuple [.str (S "char"),.str x]
noncomputable def pQ (es:List (Str×Str)):PyData:=.list (es.map λe=>.tuple [.str e.1,.str e.2])
theorem aer{ss:List Str}(h:∀x∈ss,dc x):PyData.canLayAll0 (ss.map .str)=true:=tP λa ha=>h a ha
theorem aes(ks:List Int):PyData.canLayAll0 (ks.map .int)=true:=tP λa ha=>rfl
theorem At.aet(A:At i b s)(hi:i<=14):(wg b).canLay0=true:=by
 have F:=A.fin hi;have hm:dc b.mode:=by
  rw[F.mode];split
  ·exact rA _
  ·decide+kernel
 show(PyData.strOk b.mode&&(PyData.canLayAll0 ((Mine.names b).map .str)&&(PyData.canLayAll0 (b.marks.map .int)&&true)))=true;rw[hm,aer F.mI,aes];rfl
theorem aeu(b:B):(wg b).depth<=10:=by
 have h1:=tQ (g:=PyData.str) (n:=0) (l:=Mine.names b) λk hk=>afm _
 have h2:=tQ (g:=PyData.int) (n:=0) (l:=b.marks) λk hk=>afm _
 exact ads (afS (agN.mpr ⟨afw _,agN.mpr ⟨afS h1,agN.mpr ⟨afS h2,afw _⟩⟩⟩)) (by decide:2<=10)
theorem Et(h:d.canLay0=true):PyData.eqv d d=true:=PySem.SeqAt.eqv_refl d h
theorem At.aev(A:At i b s):(PyData.list (b.pending.map rC)).canLay0=true:=by
 show PyData.canLayAll0 _=true;refine tP λa ha=>?_
 have h:=A.cl.rn a (by exact A.run▸ha)
 show(PyData.strOk (S "char")&&(PyData.strOk a&&true))=true;rw[show PyData.strOk (S "char")=true from we.1,h];rfl
theorem aew(ss:List Str):(PyData.list (ss.map rC)).depth<=10:=by
 have h1:=tQ (g:=rC) (n:=1) (l:=ss) λk hk=>by unfold rC;simp only[PyData.depth,PyData.depthAll];exact afm _
 simp only[PyData.depth];exact bh (afS h1)
theorem At.aex(A:At i b s):(pQ b.aH).canLay0=true:=by
 show PyData.canLayAll0 _=true;refine tP λa ha=>?_
 refine aO (A.cl.er a (by exact A.aH▸ha)) λh1 h2=>?_
 show(PyData.strOk a.1&&(PyData.strOk a.2&&true))=true;rw[h1,h2];rfl
theorem aey(es:List (Str×Str)):(pQ es).depth<=10:=by
 have h1:=tQ (g:=λe:Str×Str=>PyData.tuple [.str e.1,.str e.2]) (n:=1) (l:=es) λk hk=>by simp only[PyData.depth,PyData.depthAll];exact afm _
 unfold pQ;simp only[PyData.depth];exact bh (afS h1)
def Nn:U->Bool
 |.str z=>ar yH z
 |_=>false
theorem aez(ns:List Str):(((ns.map U.str).filter Nn).map λ_=>U.int (-1))=(dw ns).map .int:=by
 rw[List.filter_map,agr];unfold dw;rw[agr];rfl
def Np(b:B):U->U
 |.int k=>.str (aE b k)
 |y=>y
theorem aeA(b:B):((cF b.stack).filter λ_=>true).map (Np b)=(Mine.names b).map .str:=by
 rw[agw.mpr λ_ _=>rfl]
 unfold cF Mine.names;rw[agr,agr];rfl
def Nq:U->U
 |.str x=>g8 x
 |y=>y
theorem aeB(ss:List Str):(((ss.map U.str).filter λ_=>true).map Nq)=ss.map g8:=by
 rw[agw.mpr λ_ _=>rfl,agr];rfl
section
variable{X:AH}
theorem Nr(ss:List Str):gN X (ss.map .str) (ss.map .str):=rB λa _=>.str a
theorem Nt(ks:List Int):gN X (ks.map .int) (ks.map .int):=rB λa _=>.int a
theorem Nu(ss:List Str):gN X (ss.map g8) (ss.map rC):=rB λa _=>.aG (.cons (.str _) (.cons (.str _) .nil))
theorem Nv(es:List (Str×Str)):gN X (bJ es) (es.map λe=>.tuple [.str e.1,.str e.2]):=rB λa _=>.aG (.cons (.str _) (.cons (.str _) .nil))
theorem Nw(h1:fG X u (.str b.mode))(h2:fG X v (.list ((Mine.names b).map .str)))(h3:fG X w (.list (b.marks.map .int))):fG X (.aG [u,v,w]) (wg b):=.aG (.cons h1 (.cons h2 (.cons h3 .nil)))
end
end
abbrev BL:Type:=B×LS
noncomputable def xT (ts:List U):LX:=⟨some (.ae .bC),some ts⟩
noncomputable def zA:List U->Bool
 |[]=>true
 |_::.bool _::_=>true
 |_=>false
theorem aeC(h:zA l=true):(∃x f tl,l=x::.bool f::tl)\/l=[]:=by
 unfold zA at h;split at h
 ·exact .inr rfl
 ·exact .inl ⟨_,_,_,rfl⟩
 ·exact nomatch h
def Eu(t:aN)(z:BL):Option BL:=cond (zA t.rest) ((ql z.1 t).bind λb=>some (b,z.2)) none
def zB(x:Str)(z:BL):Option BL:=(l9 z.2 x).bind λs=>some (z.1,s)
def wi(z:BL):Option BL:=(l8 z.2).bind λs=>some (z.1,s)
def zC(t:aN)(z:BL):Option BL:=cond (PyData.strOk t.kind&&PyData.strOk t.name) ((zi t.rest).bind λ_=>(me z.2 t).bind λs=>some (z.1,s)) none
def tbM(ρ:Type):List (Addr×cg BL ρ):=(871,aS au 0 250 (bt aj) (cj λa z=>Eu a.1 z))::(990,aS au 4 4 (bA aj) (cj λa z=>zB a.1 z))::(983,aS au 4 4 aj (cj λ_ z=>wi z))::(1009,aS au 4 6 (bt aj) (cj λa z=>zC a.1 z))::(957,aS au 4 1 aj (eY bB λ_ z=>jw z.2))::(940,mu au 2 (ro aj) (eY .str λa _=>some (dt a.1)))::[]
def zD(f:aP)(x:Str):Bool:=nH f.cs&&(!(x==("__debug__":Str))&&((f.cs.names.lookup x==some .cell)&&cv (f.cm.lookup x) (λl=>cv (pJ (.ae l)) (Nat.beq 0) false) false))
def trM(x:U)(z:BL)(k:Bool->Option ρ):Option ρ:=(vW x).bind λj=>cond (Nat.beq j z.2.rk) (if ay z.2.run.length then k (!z.2.run.isEmpty)else none) none
def evM(f:aP)(e:Expr)(z:BL)(k:U->BL->Option ρ):Option ρ:=(lO (vw e)).bind λx=>cond (zD f x) (k (.ae .bC) z) none
def itM(x y:U)(z:BL)(k:U->Option ρ):Option ρ:=cond (Nat.beq (dP x) 5) (Ma x y z.2 k) (H8 x y z.1 k)
def DM(ρ:Type)(ts:List U):Dm BL ρ:=
 {hz:=λz n=>hp z.1 (lG (xT ts) z.2) n,o:=0,bi:=eZ,g:=gB,lc:=λ_=>false,mt:=λx z a k=>BW x z.1 a k,fl:=λx z a=>H4 x z.1 a,pc:=λ_ _ _=>none,cY:=λ_ _ _ _ _=>none,gP:=λ_ _ _ _ _=>none,item:=itM,last:=λ_ _ _=>none,kb:=λ_ _ _ _ _=>none,kS:=λ_ _ _ _ _=>none,tr:=trM,call:=xW (tbM ρ) λ_ _ _ _=>none,tail:=λ_ _ _ _=>none,gk:=λ_=>none,ev:=λ_ f _ e z k=>evM f e z k,st:=λ_ _ _ _ _ _=>none}
theorem wj(h:zD f x=true):eT f x .cell/\f.cm.lookup x=some (.path 0):=by
 unfold zD at h;have h2:=gw (gw h);exact⟨⟨xO (gS h),.of (afr.mp (gS h2)),by simpa using gS (gw h)⟩,by
  refine ah (u9 (gw h2)) λl e1 e2=>?_
  refine ah (u9 e2) λj e3 e4=>?_
  have e5:=L5 e3;injection e5 with e5
  rw[e1,e5,afB e4]⟩
section
theorem Nx:iz (DM ρ ts) r where
 g x c h:=by induction c<;>exact yg h
 lc a h:=nomatch h
 mt x z a k h P g:=Ih (G:=lG (xT ts) z.2) h λc h1 h2=>g c h1 λn=>by have:=h2 n;induction c<;>exact this
 fl x z a v h n:=bE h λq h1 h=>cE h λhc h=>bE h λu h2 h=>cE h λhp h=>⟨_,_,HJ HI _ _ hc,BV h1,h2.trans h,ack h▸H3 hp⟩
 pc d a xs y h z n Q q:=af h
 cY op x y z k h:=af h
 gP op x y z k h:=af h
 item x y z k h P g:=dE h (λ_ h=>(jv (b:=z.1) (xt:=xT ts) (c:=au) (tb:=[]) (r:=r) cw).item x y z.2 k h g)
  λ_ h=>(ba (G:=lG (xT ts) z.2) (c:=au) (o:=0) (kp:=false) (pc:=[]) (tb:=[]) (r:=r) cw cw).item x y z.1 k h g
 last x z k h:=af h
 kb a x v z k h:=af h
 kS x y v z k h:=af h
 tr x z k h P g:=bE h λj h1 h=>cE h λh2 h=>cu h λho h=>g _ h λd n Q q=>by
  rw[DN h1 h2];exact Tr.list xy (mJ ho) (by rw[show(z.2.run.map U.str).isEmpty=z.2.run.isEmpty by cases z.2.run<;>rfl];exact q)
 call d c xs z k h Q q n:=BJ (D:=DM ρ ts) (bm:=λ_ _ _ _=>none) (λ_ _ _ _ h=>af h) (aD (bo (λa z r h Q q n=>cE h λhr h=>bE h λb hb h=>abh (aeC hr) hb λn=>by obtain rfl:=ack h;exact q n) rfl)
  (aD (bo (λa z r h Q q n=>bE h λs hs h=>adn hs λn=>by obtain rfl:=ack h;exact q n) rfl)
  (aD (bo (λa z r h Q q n=>bE h λs hs h=>ad5 hs λn=>by obtain rfl:=ack h;exact q n) rfl)
  (aD (bo (λa z r h Q q n=>cE h λho g1=>bE g1 λt ht g2=>bE g2 λs hs g3=>by
   obtain⟨⟨kk,nm,rest⟩,u⟩:=a;obtain rfl:rest=.aG t.1::.bool t.2.1::t.2.2:=MJ ht;exact ad7 (gS ho) (gw ho) hs λn=>by obtain rfl:=ack g3;exact q n) rfl)
  (aD (bo (λa z r h Q q n=>cu h λck h=>by obtain rfl:=ack h;exact Mr ck (q n)) rfl)
  (aD (nJ (λa z r h Q q n=>by obtain rfl:=ack h;exact Mq q) rfl) cw)))))) h Q q n
 tail d c xs z h:=af h
 ev d f m e z k h Q q n:=bE h λx h1 g=>cE g λhc g=>by
  refine aF (mw h1) λp e1=>?_
  exact e1▸Ev.cell (wj hc).2 (.inl (wj hc).1) (show(hp z.1 (lG (xT ts) z.2) n).get (.path 0)=_ from rfl) (q _ _ _ g)
 st d f m s z k h:=af h
end
abbrev fL:aP:=.fn (S "law") (fC (H.az 104)) 1014 (.ref 1013) [(S "builder",.path 0)]
abbrev bL:List Stmt:=cO (H.az 104)
abbrev tB(i:Nat):Stmt:=stI (ef (stI bL 11)) i
def pR:U:=.aw [.str (S "html"),.aw [],.ae (.bz 1)]
abbrev gV:Lo:=[(S "state",.ae .state),(S "root",pR)]
noncomputable def nx:Fl->Lo->Z->Option (Lo×Z)
 |.next,m,z=>some (m,z)
 |_,_,_=>none
section
variable(t:aN)(ts:List U)(z:BL)
theorem aeD:(ms (DM (Lo×BL) ts) 50).S 500 fL ((S "token",bT t)::gV) (tB 0) z false nx=(Eu t z).bind λz=>some ((S "token",bT t)::gV,z):=by kernel_rfl
theorem aeE:(ms (DM (Lo×BL) ts) 50).S 500 fL ((S "token",bT t)::gV) (tB 1) z false nx=if t.kind==S "char" then(zB t.name z).bind λz=>some ((S "token",bT t)::gV,z)else(wi z).bind λz=>(zC t z).bind λz=>some ((S "token",bT t)::gV,z):=by kernel_rfl
theorem aeF:(ms (DM (Lo×BL) ts) 50).S 500 fL ((S "token",bT t)::gV) (tB 2) z false nx=(jw z.2).bind λns=>some ((S "names",bB ns)::(S "token",bT t)::gV,z):=by kernel_rfl
theorem aeG(ns:List Str)(mk:U):(ms (DM (Lo×BL) ts) 50).S 500 fL ((S "marks",mk)::(S "names",bB ns)::gV) (tB 4) z false nx=cond (Nat.beq z.2.rk z.2.rk) (if ay z.2.run.length then(if !z.2.run.isEmpty then some ((S "due",.aG [.str (S "in table text"),bB ns,mk])::(S "marks",mk)::(S "names",bB ns)::gV,z)else(P1 ns).bind λq=>some ((S "due",.aG [.str (dt q.1),bB ns,mk])::(S "marks",mk)::(S "names",bB ns)::gV,z))else none) none:=by kernel_rfl
end
section
theorem tS(h:((ms (DM (U×BL) ts) 50).E 500 fL m e z λv z=>some (v,z))=some (v,z1))(q:∀n,Q v (hp z1.1 (lG (xT ts) z1.2) n))(n:Nat):aQ 500 fL m (hp z.1 (lG (xT ts) z.2) n) e Q:=
 (kU Nx 50).E _ _ _ _ _ _ h Q (λv' z' n' e=>by refine aO (Prod.mk.inj (ack e)) λjd bb=>?_;subst jd;subst bb;exact q n') n
theorem Ew(hc:zD f x=true)(hg:X.get (.path 0)=some (.cell (some (.ae .bC))))(q:Q (.ae .bC) X):aQ d f m X (.Name x p) Q:=Ev.cell (wj hc).2 (.inl (wj hc).1) hg q
theorem aeH(hf:Eu t (b1,s1)=some (b2,s1))(hl:(if t.kind==S "char" then zB t.name (b2,s1)else(wi (b2,s1)).bind (zC t))=some (b2,s2))(A2:At (i+1) b2 s2)(hi:i<13)(l:bU gV m)
  (q:∀m' n',bU gV m'->Q .next m' (hp b2 (lG (xT ts) s2) n')):bG 500 fL ((S "token",bT t)::m) (hp b1 (lG (xT ts) s1) n) [tB 0,tB 1,tB 2,tB 3,tB 4,tB 5,tB 6,tB 7] Q:=by
 have ck:=A2.cV (by lia)
 have F:=A2.fin (by lia)
 have d7:=A2.names;have hm:=A2.mode (by lia)
 have xB:=A2.run;have Ny:ay s2.run.length=true:=cU (by rw[xB];have:=F.zp;lia)
 have hzs:ay (names b2).length=true:=cU (by
  show(b2.stack.map (aE b2)).length<=_;rw[afj];have:=F.zs;lia)
 have hN:jw s2=some (names b2):=by exact d7▸if_pos ck
 have D1:=λr=>Nx (ρ:=Lo×BL) (ts:=ts) (r:=r)
 refine Ex.sub l.both (Ex.step (D:=DM (Lo×BL) ts) (d:=500) (z:=(b1,s1)) (z1:=(b2,s1)) (m1:=(S "token",bT t)::gV) D1 ((aeD ..).trans (bS hf rfl)) (λn=>Ex.step (D:=DM (Lo×BL) ts) (d:=500) (z:=(b2,s1)) (z1:=(b2,s2)) (m1:=(S "token",bT t)::gV) D1 ((aeE ..).trans (iE hl (λc h=>(rT c).trans (bS h rfl)) λc h=>(rF c).trans (bE h λz h1 h2=>bS h1 (bS h2 rfl)))) (λn=>Ex.step (D:=DM (Lo×BL) ts) (d:=500) (z:=(b2,s2)) (z1:=(b2,s2)) (m1:=(S "names",bB (names b2))::(S "token",bT t)::gV) D1 ((aeF t ts (b2,s2)).trans (bS hN rfl)) (λn=>Ex.sub (mc:=(S "names",bB (names b2))::gV) (.both (.cons (.refl _) rfl)) ?_) n) n) n)
 refine Ex.bu (s':=?s3) ?e3 ?_;case e3=>conv=>lhs;whnf
 refine Ex.cons (Ex.A6 (cs:=pI [(S "name",.local)]) (y:=S "marks") rfl (.aK n) Nn (λ_=>.int (-1)) (cQ rfl) (aJ (v:=bB (names b2)) rfl ⟨(names b2).map .str,⟨.aw _,L.lC,mJ hzs,λy hy _=>.int _,λLp y hy acc=>?ok⟩,?_⟩) ?f0 ?f1 ?f2 ?f3)
 case f0=>rfl
 case f1=>rfl
 case f2=>rfl
 case f3=>rfl
 case ok=>
  refine ah (afQ.mp hy) λz hz aM=>?_;subst aM
  exact⟨vj (c:=ar yH z) rfl ⟨rfl,rfl⟩,λ_=>aJ (v:=.int (-1)) rfl ⟨rfl,rfl⟩⟩
 rw[aez,<-F.marks];refine Ex.step (D:=DM (Lo×BL) ts) (d:=500) (z:=(b2,s2)) (z1:=(b2,s2)) (m1:=(S "due",.aG [.str b2.mode,bB (names b2),.aw (cF b2.marks)])::(S "marks",.aw (cF b2.marks))::(S "names",bB (names b2))::gV) D1 ((aeG ..).trans ((cT (agl _)).trans ((if_pos Ny).trans ?_))) (λn=>?_) n
 ·cases c:s2.run.isEmpty with
  |true=>rw[c,if_pos rfl,d7]at hm;exact(rF rfl).trans (bS (tI _) (hm▸rfl))
  |false=>rw[c,if_neg (by decide)]at hm;exact(rT rfl).trans (hm▸rfl)
 refine Ex.bu (s':=?s5) ?e5 ?_;case e5=>conv=>lhs;whnf
 refine Ex.cons (Ex.A6 (cs:=pI [(S "node",.local),(S "builder",.cell)]) (y:=S "held") rfl (.aK n) (λ_=>true) (Np b2) (cQ rfl) (Ev.fP QK (Ev.fP QM (Ew rfl rfl ⟨fg b2,.ae .stack,Fj,Q6,afL,⟨ng,.ae .items,Fo,Q8,afL,⟨cF b2.stack,⟨.list rfl,L.lC,by rw[oG];have:=F.zs;lia,?no,λLp y hy acc=>?ok⟩,?_⟩⟩⟩))) ?f0 ?f1 ?f2 ?f3)
 case f0=>rfl
 case f1=>rfl
 case f2=>rfl
 case f3=>rfl
 case no=>
  intro y hy _;refine ah (afQ.mp hy) λk hk aM=>?_;subst aM
  exact .str _
 case ok=>
  refine ah (afQ.mp hy) λk hk aM=>?_;subst aM
  refine ah (F.el k hk) λx x1 x2=>?_
  have gt:∀o l,l≠Loc.aK n->(hp b2 (lG (xT ts) s2) n).get l=some o->((hp b2 (lG (xT ts) s2) n).add (.aK n) (.list acc)).get l=some o:=λo l hl e=>(AH.bQ _ _ hl).trans e
  refine⟨rfl,λ_=>Ev.sub (Ev.fP xc (Ev.fP AJ (Ew rfl (gt _ _ (by intro e;cases e) rfl) ⟨fg b2,.ae .tree,⟨.bC,.cD,rfl,gt _ _ (by intro e;cases e) rfl,gt _ _ (by intro e;cases e) rfl⟩,Q5,afL,⟨eI,.ae .names,⟨.tree,.dg,rfl,gt _ _ (by intro e;cases e) rfl,gt _ _ (by intro e;cases e) rfl⟩,Q7,afL,aJ (v:=.int k) rfl ?_⟩⟩)))⟩
  have hN:((hp b2 (lG (xT ts) s2) n).add (.aK n) (.list acc)).get .names=some (.list (b2.aa.map λx=>.str x.name)):=gt _ _ (by intro e;cases e) rfl
  exact⟨jE hN,Op.lz (.list hN) (jD x1) ⟨by rw[x2];rfl,rfl⟩⟩
 rw[aeA];refine Ex.bu (s':=?s6) ?e6 ?_;case e6=>conv=>lhs;whnf
 have rh:=A2.aet (by lia)
 have Ey:=A2.aev;refine Ex.cons (Ex.ite (Ts.cY (tS (ts:=ts) (z:=(b2,s2)) (z1:=(b2,s2)) (v:=.aG [.str b2.mode,bB (names b2),.ae .iC]) rfl (λn1=>aJ (v:=.aG [.str b2.mode,bB (names b2),.aw (cF b2.marks)]) rfl (Op.A8 (da:=wg b2) (db:=wg b2) (Nw (.str _) (.aw (Nr _)) (.ae (l:=.iC) (show(hp b2 (lG (xT ts) s2) n1).get .iC=some (.list (cF b2.marks))from rfl) (Nt _))) (Nw (.str _) (.aw (Nr _)) (.aw (Nt _))) rh rh (by have:=aeu b2;lia) (Tr.bool (kI (by rw[Et rh];rfl) (Ex.nil ?_))))) n)))
 refine Ex.bu (s':=?s7) ?e7 ?_;case e7=>conv=>lhs;whnf
 refine Ex.cons (Ex.ite (Ts.cY (tS (ts:=ts) (z:=(b2,s2)) (z1:=(b2,s2)) (v:=.ae (.bN b2.pk)) rfl (λn2=>Ev.uM (cs:=pI [(S "sign",.local)]) rfl (.aK n2) (λ_=>true) Nq (Ev.sub (aJ (v:=.ae .state) rfl (aJ (v:=.str (S "run")) rfl (V.ach ⟨s2.run.map .str,⟨.list xy,L.lC,mJ Ny,λy hy _=>?no,λLp y hy acc=>?ok⟩,?_⟩))) rfl) ?f1 ?f2 ?f3) n1)))
 case f1=>rfl
 case f2=>rfl
 case f3=>rfl
 case no=>
  refine ah (afQ.mp hy) λz hz aM=>?_;subst aM
  exact .aG (.cons (.str _) (.cons (.str _) .nil))
 case ok=>
  refine ah (afQ.mp hy) λz hz aM=>?_;subst aM
  exact⟨rfl,λ_=>aJ (v:=g8 z) rfl ⟨rfl,rfl⟩⟩
 rw[aeB,xB];exact Op.A8 (da:=.list (b2.pending.map rC)) (db:=.list (b2.pending.map rC)) (.ae HD (Nu _)) (.aw (Nu _)) Ey Ey (by have:=aew b2.pending;lia) (Tr.bool (kI (by rw[Et Ey];rfl) (Ex.nil (Ex.nil (q _ _ (.cons (.cons (.cons (.cons (.refl _) rfl) rfl) rfl) rfl))))))
end
theorem Cl.zero(C:Cl (aB b pk rk old))(hN:b.aa.length<=800000):∃y,Mine.nd b 0=some y/\y.kids=[1]:=by
 refine cC C.n0 λz z1 _ z3=>?_
 have Nz:(b.aa.map c6)[0]?=some z:=z1;rw[afG]at Nz;refine ah (afX.mp Nz) λy y1 y2=>?_
 refine⟨y,?_,by rw[<-z3,<-y2];rfl⟩
 have:Mine.nd b ((0:Nat):Int)=some y:=by
  unfold Mine.nd;rw[mi (ads ‹_› (by decide)) 0];exact y1
 exact this
theorem Cl.mV(C:Cl (aB b pk rk old)):1<b.aa.length:=by
 refine ah C.n1 λz z1 _=>?_
 refine aF (afk.mp z1) λh _=>?_
 have e:(aB b pk rk old).aa.length=b.aa.length:=afj ..;exact e▸h
theorem Cl.one(C:Cl s):cf s 1=pR:=by
 refine jY C.n1 λz z1 z2 z3 z4=>?_
 unfold cf;rw[show((1:Int).toNat)=1 from rfl,z1];dsimp only;rw[if_neg (by rw[z2];decide),z3,z4];rfl
section
theorem aeI(A:At 13 b s)(l:bU gV m):bG 500 fL m (hp b (lG (xT ts) s) n) [stI bL 12] (λfl _ _=>fl.val=.bool true):=by
 have F:=A.fin (by exact agc _)
 have C:=A.cl;have hel:=A.aex;refine kq A.eB λpk rk old bx=>?_;subst bx
 have NA:=F.zn;refine ah (C.zero (by exact bh NA)) λy y1 y2=>?_
 obtain⟨z,z1,z2⟩:∃z,b.aa[0]?=some z/\z.kids=[1]:=by
  refine cC (gK y1) λc e1 _ e2=>?_
  obtain rfl:0=c:=Int.ofNat.inj e1;exact⟨y,e2,y2⟩
 have P1:mM b 440 1:=aem F (by exact af7 _ _) C 440 1 (by exact bh NA) C.mV
 have vM:=aeo C 440 1 P1;have hl:(PyData.tuple [iY b 440 1,pQ b.aH]).canLay0=true:=by
  show((iY b 440 1).canLay0&&((pQ b.aH).canLay0&&true))=true;rw[vM.1,hel];rfl
 have hd:(PyData.tuple [iY b 440 1,pQ b.aH]).depth<=1000:=by
  have h1:=vM.2;have h2:=aey b.aH;exact bh (afS (agN.mpr ⟨h1,agN.mpr ⟨bh h2,afw _⟩⟩))
 refine Ex.sub l (Ex.bu (s':=?s) ?e ?_);case e=>conv=>lhs;whnf
 refine Ex.cons (Ex.ret (Ev.cY (Ev.tuple (aI.cons (Ev.jA FP (dj rfl) (aI.cons (tS (ts:=ts) (z:=(b,aB b pk rk old)) (z1:=(b,aB b pk rk old)) (v:=.ae .tree) rfl (λn1=>aI.cons (tS (ts:=ts) (z:=(b,aB b pk rk old)) (z1:=(b,aB b pk rk old)) (v:=.int 1) (Eq.trans (b:=(nd b 0).bind λ_=>(b.aa[0]?).bind λy=>(b9 y.kids 0).bind λv=>some (.int v,(b,aB b pk rk old))) rfl (bS y1 (bS z1 (z2▸rfl)))) (λn2=>aI.nil (Call.gb (show 440<=500 by decide) (w_plain (aen C) 440 1 n2 _ _ gC.aee P1 (aI.cons (tS (ts:=ts) (z:=(b,aB b pk rk old)) (z1:=(b,aB b pk rk old)) (v:=.ae .aH) rfl (λn3=>aI.nil ⟨afo rfl,?_⟩) n2))))) n1)) n)))))))
 refine Ev.tuple (aI.cons (aJ (v:=pR) rfl (aI.cons (tS (ts:=ts) (z:=(b,aB b pk rk old)) (z1:=(b,aB b pk rk old)) (v:=.ae .hZ) rfl (λn4=>aI.nil ⟨afo rfl,?_⟩) n3))))
 have aeJ:fG (hp b (lG (xT ts) (aB b pk rk old)) n4) pR (iY b 440 1):=by
  have:=aeq (x:=xT ts) (n:=n4) F C 440 1 P1 (by decide)
  rwa [C.one]at this
 exact Op.Gl (da:=.tuple [iY b 440 1,pQ b.aH]) (db:=.tuple [iY b 440 1,pQ b.aH]) (.aG (.cons (aep C 440 1 P1) (.cons (.ae (l:=.aH) (show(hp b (lG (xT ts) (aB b pk rk old)) n4).get .aH=some (.list (bJ b.aH))from rfl) (Nv _)) .nil))) (.aG (.cons aeJ (.cons (.ae Bc (Nv _)) .nil))) hl hl (ads (Nat.min_le_left _ _) (bh hd)) (by rw[Et hl];exact rfl)
end
noncomputable def x0:LX:=⟨some (.ae .bC),none⟩
def s0:LS:=aB b0 0 0 none
theorem aeK:(lG (xT ts) s).set .tokens (.list ts')=lG (xT ts') s:=by
 refine AH.eJ rfl (λl h=>?_) λl=>?_
 ·induction l with
  |tokens=>exact(h rfl).elim
  |path k=>induction k<;>rfl
  |_=>rfl
 ·induction l with
  |tokens=>exact⟨λe=>(by cases e),λe=>(by cases e)⟩
  |_=>exact af5
noncomputable def rD:List Int:=[1,24,3,24,0,26,3,24,1,4,6,16]
def numAt(ns:List Int)(i:Nat):Int:=if i<ns.length then(ns[i]?).getD 0 else(rD[i]?).getD 0
def TK(ns:List Int):List aN:=fs 4 0::(List.range 12).map λi=>fs (numAt ns i) (i+1)
theorem Ez(ns:List Int):(TK ns).length=13:=by simp[TK]
theorem NB(h:i<12):(TK ns)[i+1]?=some (fs (numAt ns i) (i+1)):=by
 unfold TK;rw[List.getElem?_cons_succ,afG,List.getElem?_range h];rfl
theorem aeL(h:i<12):((TK ns).take (i+1)).map bT++[bT (fs (numAt ns i) (i+1))]=((TK ns).take (i+1+1)).map bT:=by
 rw[List.take_add_one (i:=i+1),NB h,afz];rfl
theorem aeM(c:i<ns.length):numAt ns i=ns[i]:=by
 unfold numAt;rw[if_pos c,afq c];rfl
theorem aeN(c:¬i<ns.length)(h:i<12):(rD.map U.int)[i]?=some (.int (numAt ns i)):=by
 unfold numAt;rw[if_neg c,afG,afq (l:=rD) (i:=i) h];rfl
theorem aeO(h:(TK ns)[i]?=some t):i<13/\∃num k,k<=12/\t=fs num k:=by
 have hi:i<13:=by
  obtain⟨aR,_⟩:=afk.mp h;rw[Ez]at aR;exact aR
 refine⟨hi,?_⟩
 induction i with
 |zero=>exact⟨4,0,by decide,(ack h).symm⟩
 |succ i=>
  rw[NB (by exact Nat.le_of_succ_le_succ hi)]at h
  exact⟨_,i+1,by exact Nat.le_of_succ_le_succ hi,(ack h).symm⟩
abbrev wk(ns:List Int):Lo:=[(S "script",.aw (ns.map U.int)),(S "spare",.aG (rD.map .int)),(S "tokens",.ae .tokens),(S "state",.ae .state),(S "root",pR)]
section
theorem Ev.bu(h:e=e')(g:aQ d f m X e' Q):aQ d f m X e Q:=h▸g
noncomputable def NC:Expr->List Expr
 |.Call _ args _ _=>args
 |_=>[]
noncomputable def aeP:Stmt->Expr
 |.Expr e _=>e
 |_=>.Tuple [] 0 default
abbrev aeQ:Expr:=(NC ((NC (aeP (stI (ef (stI bL 10)) 0))).headD default)).headD default
theorem aeR(hi:i<12)(f9:ns.length<=63)(q:Q (.int (numAt ns i)) X):aQ 500 fL ((S "at",.int (i:Nat))::wk ns) X aeQ Q:=by
 refine Ev.bu (e':=?e) ?h ?_;case h=>conv=>lhs;whnf
 refine Ev.zV (Ts.cY (aJ (v:=.int (i:Nat)) rfl (Ev.ua uD (dj rfl) (aI.cons (aJ (v:=.aw (ns.map .int)) rfl (aI.nil (Call.len (.aw _) (by rw[afj];exact bh f9) (Op.E0 (Tr.bool ?_)))))))))
 rw[afj];by_cases c:i<ns.length
 ·exact qt (afT (by exact agy.mpr c)) (Ev.sub (aJ (v:=.aw (ns.map .int)) rfl (aJ (v:=.int (i:Nat)) rfl ⟨qf,Op.item (xs:=ns.map .int) (i:=i) (y:=.int (numAt ns i)) (.aw _) (by exact bh hi) (by rw[afG,afq c,aeM c];rfl) q⟩)) rfl)
 ·exact kI (agK (by lia)) (Ev.sub (aJ (v:=.aG (rD.map .int)) rfl (aJ (v:=.int (i:Nat)) rfl ⟨Ao,Op.z6 (xs:=rD.map .int) (i:=i) (y:=.int (numAt ns i)) (by exact bh hi) (aeN c hi) q⟩)) rfl)
theorem aeS(f9:ns.length<=63)(l:bU (wk ns) m)(q:∀m',bU (wk ns) m'->bG 500 fL m' (hp b0 (lG (xT ((TK ns).map bT)) s0) n) rest Q):bG 500 fL m (hp b0 (lG (xT [bT (fs 4 0)]) s0) n) (stI bL 10::rest) Q:=by
 refine Ex.bu (s':=?s) ?e ?_;case e=>conv=>lhs;whnf
 refine Ex.cons (Ex.Aa 0 12 1 12 (λi m' H'=>H'=hp b0 (lG (xT (((TK ns).take (i+1)).map bT)) s0) n/\bU (wk ns) m') xa (cQ rfl) (dj rfl) (aI.cons (aJ (v:=.int 12) rfl (aI.nil ⟨l7.up (n:=12) (by decide) (by decide),rfl,l⟩))) (λi m' H' I hi=>?turn) λm' H' I=>?done)
 case done=>
  obtain⟨rfl,l⟩:=I;rw[agG (l:=TK ns) (Nat.le_of_eq (Ez ns))];exact Ex.nil (q _ l)
 case turn=>
  obtain⟨rfl,l⟩:=I;rw[show(0:Int)+(i:Int)*1=(i:Int) by lia]
  refine Ex.sub (mc:=(S "at",.int (i:Nat))::wk ns) l.both (Ex.cons (Ex.so (Ev.Ah agB agT (aJ (v:=.ae .tokens) rfl ⟨d0.list rfl,aI.cons (Ev.jA FO (dj rfl) (aI.cons (aeR hi f9 (aI.cons (aJ (v:=.int ((i:Int)+1)) rfl (aI.nil (Call.gb (show 1<=500 by decide) (M7 (cA:=numAt ns i) (k:=i+1) (by exact bh hi) (aI.nil (Call.append (xs:=((TK ns).take (i+1)).map bT) rfl (by rw[afj,List.length_take];exact bh (Nat.min_le_right _ _)) ?_))))))))))⟩))))
  rw[kN rfl,aeK,aeL hi];exact Ex.nil ⟨rfl,.cons (.refl _) rfl⟩
end
theorem aeT(h:(∃x f tl,l=x::.bool f::tl)\/l=[]):zA l=true:=h.elim (λ⟨_,_,_,e⟩=>e▸rfl) λe=>e▸rfl
theorem aeU(hk:PyData.strOk t.kind=true)(hn:PyData.strOk t.name=true)(FG:(t.kind==S "char")=false->∃kk nm as f,t=gA kk nm as f [])(h:su s1 t=some s2):(if t.kind==S "char" then zB t.name (b,s1)else(wi (b,s1)).bind (zC t))=some (b,s2):=
 iE h (λc h=>(rT c).trans (bS h rfl)) λc h=>(rF c).trans (bE h λs3 h3 h4=>by
  refine lU (FG c) λkk nm as f i5=>?_;subst i5
  exact bS (bS h3 rfl:wi (b,s1)=some (b,s3)) ((cT (by rw[hk,hn];rfl)).trans (bS (a:=(as,f,[])) rfl (bS h4 rfl))))
section
theorem aeV(l:bU [(S "tokens",.ae .tokens),(S "state",.ae .state),(S "root",pR)] m):bG 500 fL m (hp b0 (lG (xT ((TK ns).map bT)) s0) n) [stI bL 11,stI bL 12] (λfl _ _=>fl.val=.bool true):=by
 refine Ex.sub l (Ex.bu (s':=?s) ?e ?_);case e=>conv=>lhs;whnf
 refine Ex.cons (Ex.forIn (cQ rfl) (λi m' H'=>∃b s n',H'=hp b (lG (xT ((TK ns).map bT)) s) n'/\At i b s/\bU gV m') ((TK ns).map bT) (aJ (v:=.ae .tokens) rfl ⟨⟨b0,s0,_,rfl,At.start,.cons (.refl _) rfl⟩,λi m' H' I=>i3 I λb s n' e _=>e▸.list rfl⟩) (λi y m' H' I e=>?turn) (λm' H' I=>?done) rfl)
 case done=>
  refine dX I λb s n' bx A l=>?_;subst bx
  rw[afj,Ez]at A;exact Ex.nil (aeI A l)
 case turn=>
  refine dX I λb1 s1 n1 bx A1 l=>?_;subst bx
  refine ah (za e) λt e1 aM=>?_;subst aM
  obtain⟨hi,num,k,hk,rfl⟩:=aeO e1;refine cK (A1.step (by exact Nat.le_of_lt hi) num hk) λb2 s2 e2 e3 A2=>?_
  have TS:=Nk num hk;exact aeH (Eq.trans (cT (aeT (ad8 num k))) (bS e2 rfl)) (aeU TS.2 TS.1.name (λc=>ad9 c) e3) A2 hi l λm' n' l=>⟨b2,s2,n',rfl,A2,l⟩
end
theorem aeW:H0=LH []:=AH.ext (λ_=>rfl) (λ_=>⟨λ_=>rfl,λ_=>afL⟩)
theorem aeX:H0.add (.path 0) (.cell none)=LH [(.path 0,.cell none)]:=by rw[aeW,jW]
theorem LHx:(H0.add (.path 0) (.cell none)).add .eG (.map kC)=LH [(.eG,.map kC),(.path 0,.cell none)]:=by rw[aeX,jW]
theorem aeY:AH.Le (LH ((.path 0,.cell (some (.ae .bC)))::[(.cD,.dict (fg bI)),(.bC,.inst bZ .cD),(.dY,.list [.str (S "document")]),(.eR,.list [.str (S "")]),(.names,.list [.str (S "")]),(.attrs,.list [.aw []]),(.eg,.list [.str (S "")]),(.dJ,.list [.int (-1)]),(.eF,.list [.ae (.bV 0)]),(.bV 0,.list []),(.lW,.map []),(.dg,.dict eI),(.tree,.inst cN .dg),(.items,.list []),(.gF,.dict ng),(.stack,.inst ff .gF),(.iC,.list []),(.gH,.dict qe),(.ft,.inst iJ .gH),(.pU,.list []),(.owners,.map []),(.aH,.list []),(.bN 0,.list []),(.eG,.map kC),(.path 0,.cell none)])) (hp bI (LH [(.path 0,.cell (some (.ae .bC)))]) 0):=by
 refine⟨λl o e=>?_,λl e=>?_⟩
 ·induction l with
  |bV i=>induction i with
   |zero=>exact e
   |succ i=>exact af e
  |bN i=>induction i with
   |zero=>exact e
   |succ i=>exact af e
  |path i=>induction i with
   |zero=>exact e
   |succ i=>exact af e
  |aK i=>exact af e
  |_=>first|exact e|(cases e)
 ·induction l with
  |bV i=>induction i with
   |zero=>exact absurd e (Nat.not_succ_le_zero 0)
   |succ i=>rfl
  |bN i=>induction i with
   |zero=>exact absurd e (agz 0)
   |succ i=>rfl
  |path i=>induction i with
   |zero=>cases e
   |succ i=>rfl
  |_=>first|rfl|exact e.elim
def ND:U:=.aw [.str (S "head"),.aw [],.ae (.bz 2)]
def tT:U:=.aw [.str (S "body"),.aw [],.ae (.bz 3)]
def LS0:List (Loc×b8):=[(.state,.map [(S "path",.ae (.path 1)),(S "run",.ae (.run 0)),(S "errors",.ae .hZ)]),(.hZ,.list []),(.run 0,.list []),(.path 1,.list [pR,tT]),(.bz 1,.list [ND,tT]),(.bz 2,.list []),(.state,.map []),(.bz 3,.list []),(.path 0,.cell (some (.ae .bC)))]
theorem aeZ:AH.Le (LH LS0) (lG x0 s0):=by
 have g:∀k:Nat,(lG x0 s0).get (.bz k)=match k with|1=>some (.list [ND,tT])|2=>some (.list [])|3=>some (.list [])|_=>none:=λk=>by
  rw[iM]
  match k with
  |0=>kernel_rfl
  |1=>kernel_rfl
  |2=>kernel_rfl
  |3=>kernel_rfl
  |k+4=>rfl
 refine⟨λl o e=>?_,λl e=>?_⟩
 ·induction l with
  |bz k=>
   rw[g]at e
   match k,e with
   |1,e=>exact e
   |2,e=>exact e
   |3,e=>exact e
  |path k=>match k,e with
   |0,e=>exact e
   |1,e=>
    have h:(lG x0 s0).get (.path 1)=some (.list [pR,tT]):=by kernel_rfl
    rw[h]at e;exact e
  |run k=>match k,e with
   |0,e=>exact e
  |tokens=>exact af e
  |_=>first|exact e|(cases e)
 ·induction l with
  |bz k=>
   have e':4<=k:=e
   match k,e' with
   |k+4,_=>rfl
  |path k=>
   have e':1<k:=e
   match k,e' with
   |k+2,_=>rfl
  |run k=>
   have e':0<k:=e
   match k,e' with
   |k+1,_=>rfl
  |tokens=>rfl
  |_=>exact e.elim
theorem ae0:(lG x0 s).add .tokens (.list ts)=lG (xT ts) s:=by
 refine AH.wU rfl (λl h=>?_) λl=>?_
 ·induction l with
  |tokens=>exact absurd rfl h
  |path k=>induction k<;>rfl
  |_=>rfl
 ·induction l with
  |tokens=>exact⟨λe=>(by cases e),λe=>absurd rfl e.2⟩
  |_=>exact⟨λe=>⟨e,λq=>(by cases q)⟩,λe=>e.1⟩
def ae1:LN:=⟨false,S "html",[],S "",[2,3]⟩
theorem ae2:cP s0 1=some ae1:=rfl
theorem ae3:b9 s0.path 0=some 1:=rfl
theorem ae4:kX.lookup 1014=some (open H in fn (az 104) "law" vN (s "law_nt0624_01" 1361) (r 1013)):=rfl
theorem ae5:kX.lookup 1013=some (open H in co [(s "law" 1506),(s "law" 1507),(s "/claim/cut.py" 1508),(i 928 0),(i 1 0),(i 0 0),(i 0 0),(i 3 0),(r 1010),vT,(i 181 0),(r 1011),vN,vN,vN,(r 1012),(i 1509 0),(i 928 0),(s "/claim/cut.py" 1510)]):=rfl
theorem ae6{s:Shared}{ns:List Int}{st:Stmt}(B:Bs)
  (ho:kX.lookup 1014=some (H.fn st "law" .none md (.ref 1013)))(hc:kX.lookup 1013=some ⟨.type "code",none,.fields us,#[]⟩)(hv:us.toList=a::.str (S "law") tk::rs)(hi:nk st=true)(hq:uC st=S "law")
  (rv:aZ hX (λ_=>none) [.aw (ns.map U.int)] vs)
  (p:∀ag H' s',bj ag H' s'.heap->dH {s with heap:=hX} s'->Qc (.bool true) s')
  (hbind:∀(a:Value),bindArgs (H.k8 st "law" 3 .none md (.ref 1013)) ⟨[a],[]⟩=pure [(S "script",a)])
  (eb:cO st=body)(es:fC st=scope)(hl:eh scope.names (S "script") .local)(fB:∀L,cellsFrom (L+1) scope.names []=[(S "builder",L+1)])(hs:qd scope=true)
  (h:bG 500 (.fn (S "law") scope 1014 (.ref 1013) [(S "builder",.path 0)]) [(S "script",.aw (ns.map U.int))] (H0.add (.path 0) (.cell none)) body (λfl _ _=>fl.val=.bool true)):wpAny (model bX wX) callerA (call (.ref 1014) vs) Qc E {s with heap:=hX}:=by
 subst eb es;have e:=Bg (md:=md) (cd:=.ref 1013) hi hq;refine ah rv.one λv bb r=>?_;subst bb
 refine PW (names:=[S "script"]) (args:=[.aw (ns.map U.int)]) (Q:=λv _=>v=.bool true) B _ (S "builder") (.path 0) (B.X _ _ (ho.trans (afp some (afp (λz=>Obj.mk (.type "function") none (.func z) #[]) e)))) (codeRec_of B.X (uc hc hv)) B.mO ?_ (zT hl zS) fB rfl h (Qa (by decide)) rv (λy v ag H' s' q R z r=>?_) hs
 ·exact e▸hbind v
 ·subst q;refine r.k ?_;exact p ag H' s' R z
theorem bU.trans(h:bU a b)(l:bU b m):bU a m:=λx v e=>l x v (h x v e)
theorem h0n(h:l≠Loc.path 0):(H0.add (.path 0) (.cell none)).new l:=⟨afL,h⟩
section
theorem ae7{ns:List Int}(l:bU [(S "script",.aw (ns.map U.int))] m)(q:∀m',bU [(S "state",.ae .state),(S "script",.aw (ns.map U.int))] m'->bG 500 fL m' (hp b0 (lG x0 s0) n) rest Q):bG 500 fL m (hp b0 (LH [(.path 0,.cell (some (.ae .bC)))]) n) (stI bL 5::stI bL 6::rest) Q:=by
 refine Ex.sub l (Ex.bu (s':=?s) ?e ?_);case e=>conv=>lhs;whnf
 refine Ex.cons (Ex.assign (x:=S "page") (cQ rfl) (Ev.list (aI.cons (aJ (v:=.str (S "body")) rfl (aI.cons (aJ (v:=.aw []) rfl (aI.cons (Ev.j0 (.bz 3) (aI.nil ⟨afw _,rfl,?_⟩)) rfl)) rfl)) rfl)) rfl);rw[lJ rfl,jW];refine aI.nil ⟨afo rfl,?_⟩;refine Ex.bu (s':=?s2) ?e2 ?_;case e2=>conv=>lhs;whnf
 with_reducible refine Ex.cons (Ex.assign (cQ ?hx) ?_)
 case hx=>rfl
 with_reducible refine Ev.se .state ?k3 ?kn ?_ ?r1 ?r2 ?r3 ?r4
 case k3=>exact qx
 case kn=>exact(rfl:cZ [(Loc.bz 3,b8.list []),(.path 0,.cell (some (.ae .bC)))] .state=none)
 case r1=>rfl
 case r2=>rfl
 case r3=>intro e;cases e
 case r4=>decide
 rw[lJ rfl,jW];with_reducible refine fE.cons ?_
 with_reducible refine Ev.j0 (.path 1) ?_
 with_reducible refine aI.cons (Ev.list ?_)
 with_reducible refine aI.cons (aJ (v:=.str (S "html")) (by kernel_rfl) ?_)
 with_reducible refine aI.cons (aJ (v:=.aw []) (by kernel_rfl) ?_)
 with_reducible refine aI.cons (Ev.j0 (.bz 1) ?_)
 with_reducible refine aI.cons (Ev.list ?_)
 with_reducible refine aI.cons (aJ (v:=.str (S "head")) (by kernel_rfl) ?_)
 with_reducible refine aI.cons (aJ (v:=.aw []) (by kernel_rfl) ?_)
 with_reducible refine aI.cons (Ev.j0 (.bz 2) ?_)
 with_reducible refine aI.nil ?_
 refine⟨afw _,rfl,?_⟩;rw[lJ rfl,jW];with_reducible refine aI.nil ?_
 refine⟨afo rfl,?_⟩;with_reducible refine aI.cons (aJ (v:=tT) (by kernel_rfl) ?_)
 with_reducible refine aI.nil ?_
 refine⟨afo rfl,rfl,?_⟩;rw[lJ rfl,jW];with_reducible refine aI.nil ?_
 refine⟨afo rfl,?_⟩;with_reducible refine aI.cons (aJ (v:=tT) (by kernel_rfl) ?_)
 with_reducible refine aI.nil ?_
 refine⟨afo rfl,rfl,?_⟩;rw[lJ rfl,jW];with_reducible refine fE.cons ?_
 with_reducible refine Ev.j0 (.run 0) ?_
 with_reducible refine aI.nil ?_
 refine⟨afw _,rfl,?_⟩;rw[lJ rfl,jW];with_reducible refine fE.cons ?_
 with_reducible refine Ev.j0 .hZ ?_
 with_reducible refine aI.nil ?_
 refine⟨afw _,rfl,?_⟩;rw[lJ rfl,jW];with_reducible refine fE.nil ?_
 refine⟨rfl,by decide+kernel,?_⟩
 rw[kN rfl,y8 rfl];exact Ex.le (xx aeZ) (q _ (.both (.cons (.refl _) rfl)))
theorem ae8{ns:List Int}(f9:ns.length<=63)(l:bU [(S "state",.ae .state),(S "script",.aw (ns.map U.int))] m):bG 500 fL m (hp b0 (lG x0 s0) n) [stI bL 7,stI bL 8,stI bL 9,stI bL 10,stI bL 11,stI bL 12] (λfl _ _=>fl.val=.bool true):=by
 refine Ex.sub l (Ex.bu (s':=?s) ?e ?_);case e=>conv=>lhs;whnf
 with_reducible refine Ex.cons (Ex.assign (cQ ?h7) ?_)
 case h7=>rfl
 with_reducible refine Ev.sub (Ev.sub (aJ (v:=.ae .state) (by kernel_rfl) ?_))
 with_reducible refine aJ (v:=.str (S "path")) (by kernel_rfl) ?_
 with_reducible refine V.LR ?_
 with_reducible refine aJ (v:=.int 0) (by kernel_rfl) ?_
 with_reducible refine V.LU ae3 ae2 ?_
 refine Ex.bu (s':=?s2) ?e2 ?_;case e2=>conv=>lhs;whnf
 with_reducible refine Ex.cons (Ex.assign (cQ ?h8) (aJ (v:=.aG (rD.map .int)) (by kernel_rfl) ?_))
 case h8=>rfl
 refine Ex.bu (s':=?s3) ?e3 ?_;case e3=>conv=>lhs;whnf
 with_reducible refine Ex.cons (Ex.assign (cQ ?h9) (Ev.j0 .tokens (aI.cons (Ev.jA FO (dj ?g9) (aI.cons (aJ (v:=.int 4) (by kernel_rfl) (aI.cons (aJ (v:=.int (0:Nat)) (by kernel_rfl) (aI.nil ?_)))))))))
 case h9=>rfl
 case g9=>rfl
 refine Call.gb (show 1<=500 by decide) (M7 (k:=0) (by decide) ?_)
 with_reducible refine aI.nil ?_
 refine⟨afo rfl,rfl,?_⟩;rw[lJ rfl,ae0];exact aeS f9 (.of (aD rfl (aD rfl (aD rfl (aD rfl (aD rfl cw)))))) λm' l=>aeV (bU.trans (.of (aD rfl (aD rfl (aD rfl cw)))) l)
end
theorem afh:PySem.Challenge.rw_nt0624_01.Holds:=by
 refine Qd λs ns vs Qc E BB f9 rv p=>?_
 refine ae6 BB ae4 ae5 rfl rfl rfl rv p ?hb (body:=[stI bL 0,stI bL 1,stI bL 2,stI bL 3,stI bL 4,stI bL 5,stI bL 6,stI bL 7,stI bL 8,stI bL 9,stI bL 10,stI bL 11,stI bL 12]) (scope:=fC (H.az 104)) rfl rfl (.of rfl) (λL=>by kernel_rfl) rfl ?h
 case hb=>intro a;kernel_rfl
 case h=>
 clear p rv;refine Ex.bu (s':=?s0) ?e0 ?_;case e0=>conv=>lhs;whnf
 with_reducible refine Ex.cons (Ex.assign (cQ ?h1) (Ev.jA Qy (dj ?g1) (aI.nil ?_)))
 case h1=>rfl
 case g1=>rfl
 refine Call.gb (show 1<=500 by decide) (abV (h0n (by intro e;cases e)) ?_)
 refine Ex.bu (s':=?s1) ?e1 ?_;case e1=>conv=>lhs;whnf
 refine Ex.cons (Ex.abl (l:=.aK 0) (es:=k7) (.of rfl) (.of rfl) rfl ⟨⟨afL,by intro e;cases e⟩,by intro e;cases e⟩ ?ev ?no (λi m' H'=>H'=(H0.add (.path 0) (.cell none)).add .eG (.map (nZ++k7.take i))/\bU [(S "rules",.ae .eG),(S "script",.aw (ns.map U.int))] m') ⟨rfl,.refl _⟩ (λi y m' H' I e=>?turn) (λm' H' I=>?done) rfl rfl)
 case no=>
  intro y hy;have Bk:y∈[(S "in table",U.val (.ref 406)),(S "in table text",.val (.ref 420))]:=hy;rcases ahc.mp Bk with e|e
  ·rw[e];exact⟨_,rfl⟩
  ·rw[afJ.mp e];exact⟨_,rfl⟩
 case ev=>exact Ev.jA Qr (dj rfl) (aI.nil (Call.gb (show 1<=500 by decide) (abX ⟨⟨afL,by intro e;cases e⟩,by intro e;cases e⟩ ⟨rfl,rfl⟩)))
 case turn=>
  obtain⟨rfl,l⟩:=I;have st:fR (nZ++k7.take i) y.1 y.2=nZ++k7.take (i+1)/\(nZ++k7.take i).length<=1000:=by
   match i,e with
   |0,e=>apply sE e;exact⟨by kernel_rfl,by decide⟩
   |1,e=>apply sE e;exact⟨by kernel_rfl,by decide⟩
   |i+2,e=>exact af e
  refine Ex.sub l.both.both (Ex.cons (Ex.ui (aJ (v:=y.2) rfl (aJ (v:=.ae .eG) rfl (aJ (v:=.str y.1) rfl (Set.map (es:=nZ++k7.take i) (AH.bP ..) st.2 ?_)))) rfl));rw[nq,st.1];exact Ex.nil ⟨rfl,.cons (.cons (.refl _) rfl) rfl⟩
 case done=>
 obtain⟨rfl,l⟩:=I;have st:fR (nZ++k7.take k7.length) (S "in body") (.val (.ref 921))=kC:=rfl;refine Ex.nil (Ex.sub l (Ex.bu (s':=?s2) ?e2 ?_));case e2=>conv=>lhs;whnf
 refine Ex.cons (Ex.ui (Ev.pH QE (dj rfl) (aJ (v:=.ae .eG) rfl (aJ (v:=.str (S "in body")) rfl (Set.map (es:=nZ++k7.take k7.length) (AH.bP ..) (by decide) ?_)))) rfl)
 rw[nq,st,LHx];refine Ex.bu (s':=?s3) ?e3 ?_;case e3=>conv=>lhs;whnf
 with_reducible refine Ex.cons (Ex.wO (l:=.path 0) ?hc ?hn (Ev.jA QC (dj ?g3) (aI.cons (aJ (v:=.ae .eG) (by kernel_rfl) (aI.nil ?_)))))
 case hc=>rfl
 case hn=>exact(wj (x:=S "builder") (f:=fL) rfl).1
 case g3=>rfl
 refine Call.gb (by decide) (I.new (l:=.bC) (dl:=.cD) abI abJ abK rfl rfl (abR ?_))
 refine⟨rfl,⟨_,rfl⟩,?_⟩;rw[y8 rfl];refine Ex.le aeY ?_;refine Ex.bu (s':=?s4) ?e4 ?_;case e4=>conv=>lhs;whnf
 with_reducible refine Ex.cons (Ex.so (Ev.jA QD (dj ?g4) (aI.cons (Ew ?hb ?hg (aI.nil ?_)))))
 case g4=>rfl
 case hb=>rfl
 case hg=>rfl
 exact Call.gb (by decide) (ab4 λn=>ae7 (.cons (.refl _) rfl) λm' l=>ae8 f9 l)
end
end Mine
theorem PySem.Challenge.cw_nt0624_01_holds : PySem.Challenge.rw_nt0624_01.Holds :=
 Mine.afh
