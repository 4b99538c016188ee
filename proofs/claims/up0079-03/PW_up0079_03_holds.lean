import PyProof.Rows.All
import Wide.All
import OpenK.AllK
import Wide.FinOn
import Lean
import PySem.Challenge.RW_up0079_03
set_option maxRecDepth 100000
set_option linter.all false
set_option Elab.async false
set_option genSizeOf false
set_option genInjectivity false
set_option genCtorIdx false
set_option tactic.hygienic false
set_option bootstrap.genMatcherCode false
noncomputable section
namespace Mine.Internal
section
open PySem PySem.W PySem.Calls PyProof.Rows
abbrev aa:=@congrArg
abbrev aP:=@PySem.wpAny_bind
abbrev aH:=@Nat.le_trans
abbrev bw:=@Nat.le_of_ble_eq_true
abbrev aT:=@Option.some.inj
abbrev bM:=@List.getElem?_eq_some_iff
abbrev bZ:=@List.getElem?_eq_getElem
abbrev bJ:=@List.length_map
abbrev cH:=@Nat.eq_of_beq_eq_true
abbrev bX:=@PySem.wpAny_pure
abbrev cG:=@List.length_append
abbrev cg:=@List.length_set
abbrev dD:=@List.mem_of_getElem?
abbrev dO:=@Nat.ble_eq_true_of_le
abbrev bP:=@List.mem_map
abbrev dU:=@List.getElem?_set_ne
abbrev dF:=@List.length_range
abbrev eE:=@Bool.false_ne_true
abbrev eF:=@List.mem_cons_self
abbrev eY:=@List.mem_cons_of_mem
abbrev fT:=@Heap.get?_push_of_some
abbrev cS:=@List.mem_cons
abbrev dW:=@beq_self_eq_true
abbrev dJ:=@List.mem_filter
abbrev cT:=@Nat.le_of_eq
abbrev gy:=@Nat.ne_of_beq_eq_false
abbrev cL:=@Nat.le_refl
abbrev dh:=@Nat.beq_refl
abbrev fU:=@Nat.lt_of_le_of_lt
abbrev gf:=@List.mem_singleton
abbrev fV:=@List.getElem?_map
abbrev fN:=@List.not_mem_nil
abbrev g8:=@Bool.and_eq_true_iff
abbrev ko:=@Fast.te14364793385576792824
abbrev fO:=@List.nodup_cons
abbrev fP:=@List.append_nil
abbrev iQ:=@List.getElem?_eq_none
abbrev fE:=@List.mem_range
abbrev fF:=@decide_eq_true
abbrev eL:=@Nat.le_of_lt
abbrev iB:=@Heap.get?_push_size
abbrev jd:=@List.length_filter_le
abbrev g9:=@Nat.le_succ_of_le
abbrev jH:=@builtinLookup_eq_fast
abbrev iC:=@Bool.eq_false_iff
abbrev iD:=@of_decide_eq_true
abbrev iE:=@PySem.wpAny_of_eq
abbrev l7:=@Fast.te10110043849684766642
abbrev je:=@Nat.lt_of_lt_of_le
abbrev jf:=@Int.natCast_nonneg
abbrev ia:=@List.map_append
abbrev fW:=@Int.le_trans
abbrev kq:=@Nat.add_le_add_right
abbrev fG:=@Nat.zero_le
abbrev iR:=@List.take_length
abbrev gh:=@List.map_map
abbrev lE:=@List.length_replicate
abbrev iS:=@decide_eq_false
abbrev jg:=@List.all_eq_true
abbrev ku:=@List.append_assoc
abbrev kC:=@List.foldl_append
abbrev m9:=@Option.map_eq_some_iff
abbrev nc:=@List.getElem?_set_self
abbrev jI:=@typeLookup_type
abbrev kD:=@Nat.lt_succ_self
abbrev kE:=@Nat.le_of_not_lt
abbrev l8:=@Bool.or_eq_true_iff
abbrev iF:=@Heap.lt_size
abbrev jh:=@Nat.lt_irrefl
abbrev lF:=@Nat.succ_le_succ
abbrev jJ:=@List.map_cons
abbrev lG:=@wpAny_specialOf
abbrev lH:=@Bool.eq_iff_iff
abbrev ng:=@Nat.lt_of_lt_of_eq
abbrev l9:=@Nat.zero_lt_succ
abbrev jK:=@Int.ofNat_lt
abbrev nX:=@PySem.wpAny_holding
abbrev nY:=@beq_eq_false_iff_ne
abbrev nZ:=@Int.toNat_of_nonneg
abbrev mh:=@List.mem_append
abbrev qQ:=@List.getElem?_eq_none_iff
abbrev qR:=@Option.isSome_iff_exists
abbrev qS:=@List.eq_of_mem_replicate
abbrev pL:=@List.getElem?_of_mem
abbrev n5:=@Nat.lt_succ_of_lt
abbrev jj:=@Int.not_lt
abbrev pM:=@List.map_congr_left
abbrev n6:=@PySem.wpAny_load
abbrev n7:=@Nat.le_add_right
abbrev pN:=@List.mem_filterMap
abbrev sN:=@Int.le_add_of_nonneg_right
abbrev qT:=@Heap.get?_update_self
abbrev gz:=@Ne.symm
abbrev mj:=@Int.ofNat_le
abbrev mq:=@Nat.ne_of_lt
abbrev qU:=@Nat.not_succ_le_self
abbrev pO:=@getMethod_builtin
abbrev iG:=@congrFun
abbrev qV:=@Nat.add_le_add_left
abbrev pP:=@List.lookup_cons
end
abbrev Nm:=Nat
noncomputable def names0:List String:=["A0","BROKEN","DEVICE","DONE","Descriptors","FRESH","FileTable","NODE","OpenFile","PIPE","Parts","Pipe","PipeTable","Process","ProcessCalls","READY","READ_CHANNEL","RUNNING","SLEEP","SLEEPING","TICKS","Table","UNUSED","WRITE_CHANNEL","ZOMBIE","a count below 0","a file that is closed","a pipe without room","a table without room, or blocks without octets","again","alive","all","all_files","append","at","back","begin","block","box","calls","cell","channel","channel_of","child","children","clear","close","close_all","copy","count"]
noncomputable def names1:List String:=["cwd","deed","deeds","descriptors","device","devices","done","dup","","ends","enter","exit","extend","file","files","find","first","fork","found","free","free_place","fresh","from","fstat","get","getpid","given","great","hand","held","holders","ident","in_call","ins","is_alive","is_late","is_small","is_there","is_write","job","journal","journaled","k","keepers","kernel","kill","killed","kind","last","law"]
noncomputable def names2:List String:=["left","let_close","let_go","made","major","make","many","mixed","most","name","nap","need_next","need_room","neither a text nor octets","new","next","next_pid","no descriptors","no end of a pipe","no room","no such descriptor","no such process","node","nodes","not all could be written","not open for reading","not open for writing","notes","nothing to wait for","number","octet","octets","octets_of","open","open_device","open files","open_node","open_pipe","other","outs","pair","parent","part","paths","pc","pid","piece","pipe","pipes","place"]
noncomputable def names3:List String:=["places","pop","process","processes","progress","put","read","read_count","read_open","readable","reader","ready","reap","refused","registers","reparent","ring","room","row","rows","running","script","self","share","side","sign","size","sleep","sleep_on","sleeping","slots","some","space","stat","state","status","table","take","taken","the first process","the first process ends","ticks","told","turn","turns","_law_begun","_law_box","_law_deed","_law_ends","_law_fits"]
noncomputable def names4:List String:=["_law_kill_right","_law_left","_law_made","_law_parts","_law_plan","_law_ready","_law_same","_law_take","_law_turn_right","unused","update","uptime","_wall","value","victim","wait","waiting","waits_for","wakes","wakeup","way","whole","writable","write","write_count","write_open","write_piece","writer","zombie"]
noncomputable def names:List String:=names0++names1++names2++names3++names4
abbrev jL:=Nat
abbrev dP:=Nat
abbrev Tag:=Nat
structure Loc where
 k:Nat
 i:Nat
noncomputable def Loc.t(l:Loc):Tag:=l.casesOn fun k _=>Nat.mod k 64
noncomputable def Loc.beq(a b:Loc):Bool:=a.casesOn fun k i=>b.casesOn fun m j=>Nat.beq k m&&Nat.beq i j
inductive V where
 |none
 |bool (b:Bool)
 |int (i:Int)
 |str (s:Nm)
 |bytes (l:List Nat)
 |tup (l:List V)
 |fl (l:List V)
 |ref (l:Loc)
set_option genCtorIdx true in
inductive Bo where
 |add | sub | mul | fdiv | mod | pow
set_option genCtorIdx true in
inductive Co where
 |eq | ne | lt | le | gt | ge | is | jM | mem | qW
set_option genCtorIdx true in
inductive Bi where
 |len | bytes | bB | min | max | sorted | qX
set_option genCtorIdx true in
inductive Ki where
 |str | bytes | uT
set_option genCtorIdx true in
inductive Ex where
 |lI | noRoom | cU | stuck
 deriving DecidableEq
mutual
inductive E where
 |c (v:V)
 |v (n:Nm)
 |g (n:Nm)
 |at (e:E) (n:Nm)
 |ix (e i:E)
 |pQ (e lo:E)
 |qY (e hi:E)
 |bin (o:Bo) (x y:E)
 |lop (o:Bo) (z:Bool) (x y:E)
 |cmp (x:E) (o:Co) (y:E)
 |pR (x:E) (o:Co) (y:E) (o':Co) (z:E)
 |an (es:List E)
 |or (es:List E)
 |no (e:E)
 |neg (e:E)
 |ite (t a b:E)
 |tup (es:List E)
 |lst (z:Bool) (es:List E)
 |dct (ks:List Nm) (es:List E)
 |comp (z:Bool) (e:E) (t:T) (it:It) (cs:List E) (sc:List (Nm×Nat))
 |call (f:dP) (es:List E)
 |ao (e:E) (m:Nm) (es:List E)
 |new (c:jL) (es:List E)
 |bi (b:Bi) (es:List E)
 |nh (e:E) (k:Ki)
inductive It where
 |e (e:E)
 |fq (es:List E)
 |enum (e:E)
inductive T where
 |v (n:Nm)
 |at (e:E) (n:Nm)
 |ix (e i:E)
 |tup (ts:List T)
end
inductive S where
 |asg (t:T) (e:E)
 |aug (t:T) (o:Bo) (e:E)
 |ex (e:E)
 |ret (e:E)
 |qZ
 |ite (c:E) (a b:List S)
 |lJ (c:E) (b:List S)
 |c7 (t:T) (it:It) (b:List S)
 |raise (x:Ex) (y:Nm)
 |sO (b:List S) (x:Ex) (h:List S)
 |sQ (b:List S) (x:Ex) (h:List S) (y:Ex) (k:List S)
 |del (e i:E)
 |pass
 |raw (x:PySem.Stmt)
 |bad
noncomputable abbrev ci(n:Nat):E := .c (.int (.ofNat n))
structure sR where
 params:List Nm
 dflt:List V
 body:List S
noncomputable def aF{α:Type}:List (Nm×α)→Nm→Option α
 |[],_=>none
 |(k,v)::r,n=>bif Nat.beq k n then some v else aF r n
noncomputable abbrev pw:PySem.Program:=PySem.Challenge.pw_up0079_03
noncomputable def IT(p:Nat):PySem.Stmt→List PySem.Stmt
 |.FunctionDef _ _ b _ _ _ _ _ _ _=>b
 |.ClassDef _ _ _ b _ _ _ _ _ _ _=>b
 |.If _ a b _=>(match p with | 0=>a | _=>b)
 |.While _ b _ _=>b
 |.For _ _ b _ _=>b
 |.Try b hs _ _ _=>(match p with
  |p+2=>(match hs[p]? with | some (.ExceptHandler _ _ b _)=>b | _=>[])
  |_=>b)
 |_=>[]
noncomputable def BK(s:PySem.Stmt):List Nat→PySem.Stmt
 |p::i::r=>BK (((IT p s)[i]?).getD (.Pass ⟨0,0,0,0⟩)) r
 |_=>s
noncomputable def n8:List Nat→PySem.Stmt
 |i::r=>BK ((pw.main.body[i]?).getD (.Pass ⟨0,0,0,0⟩)) r
 |[] => .Pass ⟨0,0,0,0⟩
noncomputable def IU:List S:=[.ret (.comp true (.tup [.v (nat_lit 129),.v (nat_lit 63)]) (.tup [.v (nat_lit 129),.v (nat_lit 63)]) (.enum (.at (.v (nat_lit 172)) (nat_lit 180))) [(.cmp (.v (nat_lit 63)) .jM (.c .none))] [((nat_lit 129),(nat_lit 0)),((nat_lit 63),(nat_lit 0))])]
noncomputable def IV:List sR:=[⟨[92],[],[.bad]⟩,⟨[172,81,176],[(.int (.ofNat (nat_lit 512)))],[.ite (.cmp (.v 176) .lt (ci 1)) [.raise .lI 27] [],.asg (.at (.v 172) 81) (.v 81),.asg (.at (.v 172) 176) (.v 176),.asg (.at (.v 172) 166) (.bi .bB [.v 176]),.asg (.at (.v 172) 157) (ci 0),.asg (.at (.v 172) 224) (ci 0),.asg (.at (.v 172) 158) (.c (.bool true)),.asg (.at (.v 172) 225) (.c (.bool true))]⟩,⟨[172],[],[.ret (.bin .sub (.at (.v 172) 224) (.at (.v 172) 157))]⟩,⟨[172],[],[.ret (.bin .sub (.at (.v 172) 176) (.ao (.v 172) 216 []))]⟩,⟨[172,174],[],[.ret (.tup [.c (.str 147),.at (.v 172) 81,.v 174])]⟩,⟨[172,131],[],[.ite (.no (.at (.v 172) 158)) [.ret (.tup [ci 0,.g 1])] [],.asg (.v 188) (.bi .min [.bi .len [.v 131],.ao (.v 172) 167 []]),.c7 (.v 130) (.e (.qY (.v 131) (.v 188))) [.asg (.ix (.at (.v 172) 166) (.bin .mod (.at (.v 172) 224) (.at (.v 172) 176))) (.v 130),.aug (.at (.v 172) 224) .add (ci 1)],.ret (.tup [.v 188,.ite (.cmp (.v 188) .eq (.bi .len [.v 131])) (.g 3) (.g 18)])]⟩,⟨[172,49],[],[.ite (.an [.cmp (.v 49) .gt (ci 0),.cmp (.ao (.v 172) 216 []) .eq (ci 0),.at (.v 172) 225]) [.ret (.tup [.c (.bytes []),.g 18])] [],.asg (.v 76) (.bi .bB []),.lJ (.an [.cmp (.bi .len [.v 76]) .lt (.v 49),.cmp (.ao (.v 172) 216 []) .gt (ci 0)]) [.ex (.ao (.v 76) 33 [.ix (.at (.v 172) 166) (.bin .mod (.at (.v 172) 157) (.at (.v 172) 176))]),.aug (.at (.v 172) 157) .add (ci 1)],.ret (.tup [.bi .bytes [.v 76],.g 3])]⟩,⟨[172,174],[],[.ite (.cmp (.v 174) .qW (.tup [.g 16,.g 23])) [.raise .lI 118] [],.ite (.cmp (.v 174) .eq (.g 16)) [.asg (.at (.v 172) 158) (.c (.bool false))] [.asg (.at (.v 172) 225) (.c (.bool false))],.ret (.an [.no (.at (.v 172) 158),.no (.at (.v 172) 225)])]⟩,⟨[172,176],[(.int (.ofNat (nat_lit 512)))],[.asg (.at (.v 172) 176) (.v 176),.asg (.at (.v 172) 103) (ci 0),.asg (.at (.v 172) 148) (.dct [] [])]⟩,⟨[172],[],[.asg (.v 147) (.new 0 [.at (.v 172) 103,.at (.v 172) 176]),.asg (.ix (.at (.v 172) 148) (.at (.v 172) 103)) (.v 147),.aug (.at (.v 172) 103) .add (ci 1),.ret (.v 147)]⟩,⟨[172,147,174],[],[.ite (.an [.ao (.v 147) 46 [.v 174],.cmp (.ao (.at (.v 172) 148) 74 [.at (.v 147) 81]) .is (.v 147)]) [.del (.at (.v 172) 148) (.at (.v 147) 81)] []]⟩,⟨[172],[],[.ret (.bi .len [.at (.v 172) 148])]⟩,⟨[213],[],[.ite (.nh (.v 213) .str) [.raw (n8 [17,0,0,0,0]),.raw (n8 [17,0,0,0,1])] [],.ite (.no (.nh (.v 213) .uT)) [.raise .lI 113] [],.ret (.bi .bytes [.v 213])]⟩,⟨[172,186,64,123,143,90,55],[.none,.none,.none,.none],[.asg (.at (.v 172) 186) (.v 186),.asg (.at (.v 172) 64) (.v 64),.asg (.at (.v 172) 123) (.v 123),.asg (.at (.v 172) 143) (.v 143),.asg (.at (.v 172) 90) (.v 90),.asg (.at (.v 172) 55) (.ite (.cmp (.v 55) .is (.c .none)) (.dct [] []) (.v 55)),.asg (.at (.v 172) 191) (ci 0)]⟩,⟨[172,94],[],[.asg (.at (.v 172) 94) (.v 94)]⟩,⟨[172,145],[],[.asg (.v 68) (.ao (.at (.at (.v 172) 94) 186) 65 [.v 145]),.ite (.cmp (.v 68) .is (.c .none)) [.raise .cU 121] [],.ret (.v 68)]⟩,⟨[172,152,41],[],[.ite (.at (.v 152) 96) [.asg (.at (.v 152) 154) (ci 0),.raise .cU 96] [],.ex (.ao (.at (.at (.v 172) 94) 186) 177 [.v 152,.v 41]),.ret (.c .none)]⟩,⟨[172,51],[],[.bad]⟩,⟨[172,152],[],[.bad]⟩,⟨[172,152],[],[.asg (.v 43) (.ao (.at (.at (.v 172) 94) 186) 67 [.v 152,.at (.at (.v 172) 94) 64]),.ite (.cmp (.at (.v 43) 50) .jM (.c .none)) [.ex (.ao (.at (.at (.v 172) 94) 123) 173 [.at (.v 43) 50])] [],.ret (.at (.v 43) 145)]⟩,⟨[172,152],[],[.ite (.cmp (.at (.v 152) 64) .jM (.c .none)) [.c7 (.tup [.v 129,.v 63]) (.e (.ao (.at (.v 152) 64) 32 [])) [.ex (.ao (.v 172) 46 [.v 152,.v 129])]] [],.ite (.cmp (.at (.v 152) 50) .jM (.c .none)) [.asg (.tup [.v 122,.at (.v 152) 50]) (.tup [.at (.v 152) 50,.c .none]),.raw (n8 [19,0,6,0,1,0,1])] []]⟩,⟨[172,152,185],[],[.ite (.cmp (.v 152) .is (.at (.at (.at (.v 172) 94) 186) 66)) [.raise .stuck 190] [],.ex (.ao (.v 172) 102 [.v 152]),.asg (.at (.v 152) 154) (ci 0),.ex (.ao (.at (.at (.v 172) 94) 186) 61 [.v 152,.v 185]),.ret (ci 0)]⟩,⟨[172,152],[],[.ret (.ao (.at (.at (.v 172) 94) 186) 215 [.v 152])]⟩,⟨[172,152,145],[],[.ite (.cmp (.ao (.v 172) 152 [.v 145]) .is (.at (.at (.at (.v 172) 94) 186) 66)) [.raise .cU 189] [],.ex (.ao (.at (.at (.v 172) 94) 186) 95 [.v 145]),.ret (ci 0)]⟩,⟨[172,152],[],[.bad]⟩,⟨[172,152,191],[],[.ite (.cmp (.at (.v 152) 154) .eq (ci 0)) [.asg (.at (.v 152) 154) (.bin .add (.at (.at (.v 172) 94) 191) (ci 1))] [],.ite (.cmp (.bin .sub (.at (.at (.v 172) 94) 191) (.bin .sub (.at (.v 152) 154) (ci 1))) .lt (.v 191)) [.ret (.ao (.v 172) 178 [.v 152,.g 20])] [],.asg (.at (.v 152) 154) (ci 0),.ret (ci 0)]⟩,⟨[172,152,129],[],[.asg (.v 63) (.ao (.at (.v 152) 64) 187 [.v 129]),.ex (.ao (.v 172) 101 [.v 63]),.ret (ci 0)]⟩,⟨[172,63],[],[.asg (.v 147) (.at (.v 63) 147),.ex (.ao (.at (.at (.v 172) 94) 64) 46 [.v 63]),.ite (.cmp (.v 147) .jM (.c .none)) [.ex (.ao (.at (.at (.v 172) 94) 186) 219 [.ao (.v 147) 41 [.g 16]]),.ex (.ao (.at (.at (.v 172) 94) 186) 219 [.ao (.v 147) 41 [.g 23]])] []]⟩,⟨[172,152,129],[],[.asg (.v 63) (.ao (.at (.v 152) 64) 74 [.v 129]),.asg (.v 68) (.ao (.at (.v 152) 64) 155 [.v 63]),.ex (.ao (.at (.at (.v 172) 94) 64) 173 [.v 63]),.ret (.v 68)]⟩,⟨[172,152],[],[.ite (.cmp (.ao (.at (.v 152) 64) 69 []) .lt (ci 2)) [.raise .noRoom 53] [],.asg (.tup [.v 160,.v 227]) (.ao (.at (.at (.v 172) 94) 64) 137 []),.ret (.tup [.ao (.at (.v 152) 64) 155 [.v 160],.ao (.at (.v 152) 64) 155 [.v 227]])]⟩,⟨[172,152,129],[],[.bad]⟩,⟨[172,152,129,49],[],[.ite (.cmp (.v 49) .lt (ci 0)) [.raise .cU 25] [],.asg (.v 63) (.ao (.at (.v 152) 64) 74 [.v 129]),.asg (.tup [.v 131,.v 184]) (.ao (.at (.at (.v 172) 94) 64) 156 [.v 63,.v 49]),.ite (.cmp (.v 184) .eq (.g 18)) [.ret (.ao (.v 172) 178 [.v 152,.ao (.at (.at (.v 172) 94) 64) 217 [.v 63,.c (.bool false)]])] [],.ite (.cmp (.at (.v 63) 147) .jM (.c .none)) [.ex (.ao (.at (.at (.v 172) 94) 186) 219 [.ao (.at (.v 63) 147) 41 [.g 23]])] [],.ret (.v 131)]⟩,⟨[172,152,129,131],[],[.asg (.v 131) (.call 12 [.v 131]),.asg (.v 63) (.ao (.at (.v 152) 64) 74 [.v 129]),.asg (.v 56) (.at (.v 152) 154),.asg (.tup [.v 49,.v 184]) (.ao (.at (.at (.v 172) 94) 64) 223 [.v 63,.pQ (.v 131) (.v 56)]),.ite (.cmp (.at (.v 63) 147) .jM (.c .none)) [.ex (.ao (.at (.at (.v 172) 94) 186) 219 [.ao (.at (.v 63) 147) 41 [.g 16]])] [],.ite (.cmp (.v 184) .eq (.g 18)) [.asg (.at (.v 152) 154) (.bin .add (.v 56) (.v 49)),.ret (.ao (.v 172) 178 [.v 152,.ao (.at (.at (.v 172) 94) 64) 217 [.v 63,.c (.bool true)]])] [],.asg (.at (.v 152) 154) (ci 0),.ite (.or [.cmp (.v 184) .eq (.g 1),.cmp (.bin .add (.v 56) (.v 49)) .lt (.bi .len [.v 131])]) [.raise .cU 124] [],.ret (.bi .len [.v 131])]⟩,⟨[172,97,159,222],[],[.asg (.at (.v 172) 97) (.v 97),.asg (.at (.v 172) 159) (.v 159),.asg (.at (.v 172) 222) (.v 222),.asg (.at (.v 172) 80) (ci 1),.asg (.at (.v 172) 149) (ci 0),.asg (.at (.v 172) 147) (.c .none),.asg (.at (.v 172) 122) (.c .none),.asg (.at (.v 172) 104) (ci 0)]⟩,⟨[172],[],[.ret (.ite (.at (.v 172) 222) (.g 23) (.g 16))]⟩,⟨[172,49],[],[.bad]⟩,⟨[172,108,148,123,90,55,37],[],[.ite (.or [.cmp (.v 108) .lt (ci 1),.cmp (.v 37) .lt (ci 1)]) [.raise .lI 28] [],.asg (.at (.v 172) 108) (.v 108),.asg (.at (.v 172) 148) (.v 148),.asg (.at (.v 172) 123) (.v 123),.asg (.at (.v 172) 90) (.v 90),.asg (.at (.v 172) 55) (.v 55),.asg (.at (.v 172) 37) (.v 37),.asg (.at (.v 172) 133) (.lst false [])]⟩,⟨[172],[],[.ret (.bi .len [.at (.v 172) 133])]⟩,⟨[172,106],[],[.ite (.cmp (.bin .add (.bi .len [.at (.v 172) 133]) (.v 106)) .gt (.at (.v 172) 108)) [.raise .noRoom 135] []]⟩,⟨[172,63],[],[.ex (.ao (.v 172) 112 [ci 1]),.ex (.ao (.at (.v 172) 133) 33 [.v 63]),.ret (.v 63)]⟩]
noncomputable def IW:List sR:=[⟨[172],[],[.ex (.ao (.v 172) 112 [ci 2]),.asg (.v 147) (.ao (.at (.v 172) 148) 105 []),.asg (.v 59) (.lst false []),.c7 (.v 159) (.e (.tup [.c (.bool true),.c (.bool false)])) [.asg (.v 63) (.new 4 [.g 9,.v 159,.no (.v 159)]),.asg (.at (.v 63) 147) (.v 147),.ex (.ao (.v 59) 33 [.ao (.v 172) 60 [.v 63]])],.ret (.tup [.ix (.v 59) (ci 0),.ix (.v 59) (ci 1)])]⟩,⟨[172,122,159,222],[],[.bad]⟩,⟨[172,122,159,222],[],[.bad]⟩,⟨[172,63],[],[.ite (.cmp (.at (.v 63) 80) .lt (ci 1)) [.raise .lI 26] [],.aug (.at (.v 63) 80) .add (ci 1),.ret (.v 63)]⟩,⟨[172,63],[],[.ite (.cmp (.at (.v 63) 80) .lt (ci 1)) [.raise .lI 26] [],.ite (.an [.cmp (.at (.v 63) 80) .eq (ci 1),.cmp (.at (.v 63) 97) .ne (.g 9)]) [.ex (.ao (.at (.v 172) 90) 36 [])] [],.aug (.at (.v 63) 80) .sub (ci 1),.ite (.cmp (.at (.v 63) 80) .gt (ci 0)) [.qZ] [],.asg (.at (.v 172) 133) (.comp false (.v 138) (.v 138) (.e (.at (.v 172) 133)) [(.cmp (.v 138) .jM (.v 63))] [(138,(nat_lit 0)),(63,(nat_lit 1))]),.ite (.cmp (.at (.v 63) 97) .eq (.g 9)) [.ex (.ao (.at (.v 172) 148) 46 [.at (.v 63) 147,.ao (.v 63) 174 []]),.qZ] [],.raw (n8 [25,0,8,0,6])]⟩,⟨[172,63],[],[.bad]⟩,⟨[172,63,49],[],[.ite (.no (.at (.v 63) 159)) [.raise .cU 125] [],.ite (.cmp (.at (.v 63) 97) .eq (.g 9)) [.ret (.ao (.at (.v 63) 147) 156 [.v 49])] [],.ite (.cmp (.at (.v 63) 97) .eq (.g 2)) [.ret (.ao (.ao (.v 172) 54 [.v 63]) 156 [.v 49])] [],.asg (.v 131) (.ao (.at (.v 63) 122) 156 [.at (.v 63) 149,.v 49]),.aug (.at (.v 63) 149) .add (.bi .len [.v 131]),.ret (.tup [.v 131,.g 3])]⟩,⟨[172],[],[.bad]⟩,⟨[172,63,131],[],[.ite (.no (.at (.v 63) 222)) [.raise .cU 126] [],.ite (.cmp (.at (.v 63) 97) .eq (.g 9)) [.ret (.ao (.at (.v 63) 147) 223 [.v 131])] [],.ite (.cmp (.at (.v 63) 97) .eq (.g 2)) [.ret (.tup [.ao (.ao (.v 172) 54 [.v 63]) 223 [.v 131],.g 3])] [],.asg (.v 56) (ci 0),.lJ (.cmp (.v 56) .lt (.bi .len [.v 131])) [.raw (n8 [25,0,12,0,4,0,0]),.asg (.v 49) (.ao (.v 172) 226 [.v 63,.v 142]),.aug (.v 56) .add (.v 49),.ite (.cmp (.v 49) .lt (.bi .len [.v 142])) [.raw (n8 [25,0,12,0,4,0,3,0,0])] []],.ret (.tup [.v 56,.g 3])]⟩,⟨[172,63,131],[],[.bad]⟩,⟨[172,63],[],[.bad]⟩,⟨[172,63,88],[],[.ite (.cmp (.at (.v 63) 97) .eq (.g 9)) [.ret (.ao (.at (.v 63) 147) 41 [.ite (.v 88) (.g 23) (.g 16)])] [],.ret (.ao (.ao (.v 172) 54 [.v 63]) 41 [])]⟩,⟨[172,108],[(.int (.ofNat (nat_lit 16)))],[.ite (.cmp (.v 108) .lt (ci 1)) [.raise .lI 117] [],.asg (.at (.v 172) 108) (.v 108),.asg (.at (.v 172) 180) (.lop .mul false (.lst true [.c .none]) (.v 108))]⟩,⟨[172,63],[],[.c7 (.v 129) (.fq [.at (.v 172) 108]) [.ite (.cmp (.ix (.at (.v 172) 180) (.v 129)) .is (.c .none)) [.asg (.ix (.at (.v 172) 180) (.v 129)) (.v 63),.ret (.v 129)] []],.raise .noRoom 53]⟩,⟨[172],[],[.ret (.bi .len [.comp true (.v 63) (.v 63) (.e (.at (.v 172) 180)) [(.cmp (.v 63) .is (.c .none))] [(63,(nat_lit 0))]])]⟩,⟨[172,129],[],[.ite (.or [.no (.pR (ci 0) .le (.v 129) .lt (.at (.v 172) 108)),.cmp (.ix (.at (.v 172) 180) (.v 129)) .is (.c .none)]) [.raise .cU 120] [],.ret (.ix (.at (.v 172) 180) (.v 129))]⟩,⟨[172,129],[],[.asg (.v 63) (.ao (.v 172) 74 [.v 129]),.asg (.ix (.at (.v 172) 180) (.v 129)) (.c .none),.ret (.v 63)]⟩,⟨[172],[],IU⟩,⟨[172,186],[],[.asg (.v 68) (.new 6 [.at (.v 172) 108]),.c7 (.tup [.v 129,.v 63]) (.e (.ao (.v 172) 32 [])) [.asg (.ix (.at (.v 68) 180) (.v 129)) (.ao (.v 186) 173 [.v 63])],.ret (.v 68)]⟩,⟨[172,186],[],[.bad]⟩,⟨[172,149],[],[.asg (.at (.v 172) 149) (.v 149),.ex (.ao (.v 172) 45 [])]⟩,⟨[172],[],[.asg (.at (.v 172) 145) (ci 0),.asg (.at (.v 172) 184) (.g 22),.asg (.at (.v 172) 141) (.c .none),.asg (.at (.v 172) 182) (.c .none),.asg (.at (.v 172) 164) (.lop .mul false (.lst true [ci 0]) (ci 32)),.asg (.at (.v 172) 144) (ci 0),.asg (.at (.v 172) 64) (.c .none),.asg (.at (.v 172) 50) (.c .none),.asg (.at (.v 172) 109) (.c (.str 58)),.asg (.at (.v 172) 41) (.c .none),.asg (.at (.v 172) 96) (.c (.bool false)),.asg (.at (.v 172) 185) (ci 0),.asg (.at (.v 172) 82) (.c .none),.asg (.at (.v 172) 154) (ci 0),.asg (.at (.v 172) 192) (.c .none),.asg (.at (.v 172) 218) (.c .none),.asg (.at (.v 172) 89) (.c .none),.asg (.at (.v 172) 194) (ci 0)]⟩,⟨[172],[],[.ret (.cmp (.at (.v 172) 184) .ne (.g 22))]⟩,⟨[172],[],[.bad]⟩,⟨[172],[],[.bad]⟩,⟨[172],[],[.ret (.tup [.at (.v 172) 145,.at (.v 172) 184,.at (.v 172) 109,.ite (.cmp (.at (.v 172) 141) .is (.c .none)) (ci 0) (.at (.at (.v 172) 141) 145)])]⟩,⟨[172,108],[],[.asg (.at (.v 172) 150) (.comp true (.new 7 [.v 149]) (.v 149) (.fq [.v 108]) [] [(149,(nat_lit 0)),(13,(nat_lit 2))]),.asg (.at (.v 172) 116) (ci 1),.asg (.at (.v 172) 98) (.bin .sub (.v 108) (ci 1)),.asg (.at (.v 172) 66) (.c .none),.asg (.at (.v 172) 170) (.c .none)]⟩,⟨[172],[],[.c7 (.v 152) (.e (.at (.v 172) 150)) [.ite (.cmp (.at (.v 152) 184) .eq (.g 22)) [.ret (.v 152)] []],.raise .noRoom 153]⟩,⟨[172,109],[(.str 58)],[.asg (.v 152) (.ao (.v 172) 70 []),.ex (.ao (.v 152) 45 []),.asg (.at (.v 152) 145) (.at (.v 172) 116),.aug (.at (.v 172) 116) .add (ci 1),.asg (.at (.v 152) 184) (.g 5),.asg (.at (.v 152) 109) (.v 109),.ite (.cmp (.at (.v 172) 66) .is (.c .none)) [.asg (.at (.v 172) 66) (.v 152)] [],.ret (.v 152)]⟩,⟨[172,145],[],[.c7 (.v 152) (.e (.at (.v 172) 150)) [.ite (.an [.ao (.v 152) 87 [],.cmp (.at (.v 152) 145) .eq (.v 145)]) [.ret (.v 152)] []],.ret (.c .none)]⟩,⟨[172],[],[.ret (.comp true (.v 152) (.v 152) (.e (.at (.v 172) 150)) [(.ao (.v 152) 87 [])] [(152,(nat_lit 0))])]⟩,⟨[172,152],[],[.ret (.comp true (.v 138) (.v 138) (.e (.at (.v 172) 150)) [(.an [.ao (.v 138) 87 [],.cmp (.at (.v 138) 141) .is (.v 152)])] [(138,(nat_lit 0)),(152,(nat_lit 1))])]⟩,⟨[172,152],[],[.asg (.at (.v 152) 184) (.g 15),.asg (.at (.v 152) 41) (.c .none),.ite (.cmp (.at (.v 172) 170) .is (.v 152)) [.asg (.at (.v 172) 170) (.c .none)] []]⟩,⟨[172],[],[.bad]⟩,⟨[172],[],[.bad]⟩,⟨[172,141,64],[.none],[.asg (.v 43) (.ao (.v 172) 114 [.at (.v 141) 109]),.sO [.asg (.at (.v 43) 182) (.ite (.cmp (.at (.v 141) 182) .is (.c .none)) (.c .none) (.ao (.at (.v 141) 182) 48 []))] .noRoom [.ex (.ao (.v 43) 45 []),.raw (n8 [36,0,9,0,1,2,1])],.asg (.at (.v 43) 164) (.bi .qX [.at (.v 141) 164]),.asg (.ix (.at (.v 43) 164) (.g 0)) (ci 0),.asg (.at (.v 43) 144) (.at (.v 141) 144),.asg (.at (.v 43) 141) (.v 141),.asg (.at (.v 43) 64) (.ite (.cmp (.at (.v 141) 64) .is (.c .none)) (.c .none) (.ao (.at (.v 141) 64) 48 [.v 64])),.asg (.at (.v 43) 50) (.at (.v 141) 50),.ex (.ao (.v 172) 161 [.v 43]),.ret (.v 43)]⟩,⟨[172,152],[],[.c7 (.v 43) (.e (.ao (.v 172) 44 [.v 152])) [.asg (.at (.v 43) 141) (.at (.v 172) 66),.ite (.cmp (.at (.v 43) 184) .eq (.g 24)) [.ex (.ao (.v 172) 219 [.ao (.v 172) 42 [.at (.v 172) 66]])] []]]⟩,⟨[172,152],[],[.ret (.tup [.c (.str 43),.at (.v 152) 145])]⟩,⟨[172,152,185],[],[.ite (.cmp (.v 152) .is (.at (.v 172) 66)) [.raise .stuck 190] [],.ex (.ao (.v 172) 165 [.v 152]),.asg (.at (.v 152) 184) (.g 24),.asg (.at (.v 152) 41) (.c .none),.asg (.at (.v 152) 185) (.v 185),.ite (.cmp (.at (.v 172) 170) .is (.v 152)) [.asg (.at (.v 172) 170) (.c .none)] [],.ite (.cmp (.at (.v 152) 141) .jM (.c .none)) [.ex (.ao (.v 172) 219 [.ao (.v 172) 42 [.at (.v 152) 141]])] []]⟩,⟨[172,152],[],[.asg (.v 192) (.tup [.at (.v 152) 145,.at (.v 152) 185]),.ite (.cmp (.at (.v 152) 182) .jM (.c .none)) [.ex (.ao (.at (.v 152) 182) 69 [])] [],.ex (.ao (.v 152) 45 []),.ret (.v 192)]⟩]
noncomputable def IX:List sR:=[⟨[172,152],[],[.asg (.v 44) (.ao (.v 172) 44 [.v 152]),.c7 (.v 43) (.e (.v 44)) [.ite (.cmp (.at (.v 43) 184) .eq (.g 24)) [.ret (.ao (.v 172) 162 [.v 43])] []],.ite (.or [.cmp (.v 44) .eq (.lst true []),.at (.v 152) 96]) [.raise .cU 128] [],.ex (.ao (.v 172) 177 [.v 152,.ao (.v 172) 42 [.v 152]]),.ret (.c .none)]⟩,⟨[172,152,41],[],[.asg (.at (.v 152) 184) (.g 19),.asg (.at (.v 152) 41) (.v 41),.ite (.cmp (.at (.v 172) 170) .is (.v 152)) [.asg (.at (.v 172) 170) (.c .none)] []]⟩,⟨[172,41],[],[.asg (.v 106) (ci 0),.c7 (.v 152) (.e (.at (.v 172) 150)) [.ite (.an [.cmp (.at (.v 152) 184) .eq (.g 19),.cmp (.at (.v 152) 41) .eq (.v 41)]) [.ex (.ao (.v 172) 161 [.v 152]),.aug (.v 106) .add (ci 1)] []],.ret (.v 106)]⟩,⟨[172,145],[],[.asg (.v 152) (.ao (.v 172) 65 [.v 145]),.ite (.cmp (.v 152) .is (.c .none)) [.raw (n8 [36,0,17,0,1,0,0])] [],.asg (.at (.v 152) 96) (.c (.bool true)),.ite (.cmp (.at (.v 152) 184) .eq (.g 19)) [.ex (.ao (.v 172) 161 [.v 152])] []]⟩,⟨[172],[],[.ret (.comp true (.ao (.v 152) 168 []) (.v 152) (.e (.ao (.v 172) 31 [])) [] [(152,(nat_lit 0))])]⟩,⟨[171],[],[.asg (.v 38) (.dct [77,107,34] [.lst false [],ci 17,ci 0]),.c7 (.v 40) (.e (.qY (.v 171) (ci 30))) [.ite (.cmp (.v 40) .ge (.bin .pow (ci 10) (ci 18))) [.ex (.ao (.ix (.v 38) (.c (.str 77))) 33 [.bin .mod (.bin .sub (.v 40) (.bin .pow (ci 10) (ci 18))) (.bin .pow (ci 10) (ci 160))])] [.asg (.ix (.v 38) (.c (.str 107))) (.bin .mod (.bin .add (.bin .mul (.ix (.v 38) (.c (.str 107))) (ci 30011)) (.v 40)) (ci 2147483543))]],.ret (.v 38)]⟩,⟨[38,106],[],[.lJ (.an [.cmp (.ix (.v 38) (.c (.str 77))) .ne (.lst true []),.cmp (.ix (.ix (.v 38) (.c (.str 77))) (.neg (ci 1))) .eq (ci 0)]) [.ex (.ao (.ix (.v 38) (.c (.str 77))) 151 [])],.ite (.cmp (.ix (.v 38) (.c (.str 77))) .ne (.lst true [])) [.asg (.v 221) (.ao (.ix (.v 38) (.c (.str 77))) 151 []),.ex (.ao (.ix (.v 38) (.c (.str 77))) 33 [.bin .fdiv (.v 221) (.v 106)]),.ret (.bin .mod (.v 221) (.v 106))] [],.aug (.ix (.v 38) (.c (.str 34))) .add (ci 1),.ret (.bin .mod (.bin .fdiv (.bin .mod (.bin .pow (.bin .add (.ix (.v 38) (.c (.str 107))) (.bin .mul (ci 7919) (.ix (.v 38) (.c (.str 34))))) (ci 3)) (ci 2147483543)) (ci 8)) (.v 106))]⟩,⟨[167,106,148],[],[.asg (.v 39) (.new 3 [.new 2 [.new 8 [.bin .add (.v 106) (ci 2)],.new 5 [.bin .add (.bin .mul (ci 2) (.v 148)) (ci 2),.new 1 [.v 167],.c .none,.c .none,.dct [] [],ci 16]]]),.asg (.v 66) (.ao (.at (.at (.v 39) 94) 186) 114 [.c (.str 66)]),.asg (.at (.v 66) 64) (.new 6 [.bin .add (.bin .mul (ci 2) (.v 148)) (ci 1)]),.ex (.ao (.at (.at (.v 39) 94) 186) 161 [.v 66]),.ret (.v 39)]⟩,⟨[39,145,51],[],[.asg (.tup [.v 152,.v 97]) (.tup [.ao (.v 39) 152 [.v 145],.ix (.v 51) (ci 0)]),.sQ [.ite (.cmp (.v 97) .eq (.c (.str 223))) [.ret (.ao (.v 39) 223 [.v 152,.ix (.v 51) (ci 1),.ix (.v 51) (ci 2)])] [],.ite (.cmp (.v 97) .eq (.c (.str 156))) [.ret (.ao (.v 39) 156 [.v 152,.ix (.v 51) (ci 1),.ix (.v 51) (ci 2)])] [],.ite (.cmp (.v 97) .eq (.c (.str 46))) [.ret (.ao (.v 39) 46 [.v 152,.ix (.v 51) (ci 1)])] [],.ite (.cmp (.v 97) .eq (.c (.str 57))) [.ret (.ao (.v 39) 57 [.v 152,.ix (.v 51) (ci 1)])] [],.ite (.cmp (.v 97) .eq (.c (.str 110))) [.ret (.ao (.v 39) 177 [.v 152,.ix (.v 51) (ci 1)])] [],.ite (.cmp (.v 97) .eq (.c (.str 61))) [.ret (.ao (.v 39) 61 [.v 152,.ix (.v 51) (ci 1)])] [],.ite (.cmp (.v 97) .eq (.c (.str 147))) [.ret (.ao (.v 39) 147 [.v 152])] [],.ret (.ite (.cmp (.v 97) .eq (.c (.str 67))) (.ao (.v 39) 67 [.v 152]) (.ao (.v 39) 215 [.v 152]))] .cU [.ret (.c (.str 163))] .noRoom [.ret (.c (.str 119))]]⟩,⟨[38,140,106,148],[],[.asg (.v 52) (.lop .add false (.lop .mul true (.lst true [.tup [ci 1,.tup [.c (.str 147)]]]) (.v 148)) (.comp true (.tup [.bin .add (ci 1) (.call 86 [.v 38,.bin .add (.v 92) (ci 1)]),.tup [.c (.str 67)]]) (.v 92) (.fq [.v 106]) [] [(92,(nat_lit 0)),(207,(nat_lit 2)),(38,(nat_lit 1))])),.c7 (.v 129) (.fq [.bin .mul (ci 2) (.v 148)]) [.asg (.v 93) (.comp true (.bin .add (ci 1) (.call 86 [.v 38,.bin .add (.v 106) (ci 1)])) (.v 92) (.fq [.bin .add (ci 1) (.bin .fdiv (.call 86 [.v 38,ci 3]) (ci 2))]) [] [(92,(nat_lit 0)),(207,(nat_lit 2)),(38,(nat_lit 1)),(106,(nat_lit 1))]),.ex (.ao (.v 52) 62 [.comp true (.tup [.v 145,.tup [.c (.str 46),.v 129]]) (.v 145) (.fq [ci 1,.bin .add (.v 106) (ci 2)]) [(.cmp (.v 145) .qW (.v 93))] [(145,(nat_lit 0)),(93,(nat_lit 1)),(129,(nat_lit 1))]])],.c7 (.tup [.v 145,.v 51]) (.e (.v 52)) [.asg (.v 192) (.comp true (.call 88 [.v 39,.v 145,.v 51]) (.v 39) (.e (.v 140)) [] [(39,(nat_lit 0)),(202,(nat_lit 2)),(51,(nat_lit 1)),(145,(nat_lit 1))]),.ite (.or [.cmp (.ix (.v 192) (ci 0)) .ne (.ix (.v 192) (ci 1)),.cmp (.ix (.v 192) (ci 0)) .mem (.tup [.c .none,.c (.str 163),.c (.str 119)])]) [.ret (.c (.bool false))] []],.ret (.c (.bool true))]⟩,⟨[140,127],[],[.asg (.v 192) (.lst false []),.c7 (.v 39) (.e (.v 140)) [.asg (.v 169) (.comp true (.v 168) (.v 168) (.e (.ao (.at (.at (.v 39) 94) 186) 169 [])) [(.cmp (.ix (.v 168) (ci 0)) .ne (.ix (.v 127) (.c (.str 214))))] [(168,(nat_lit 0)),(127,(nat_lit 1))]),.ex (.ao (.v 192) 33 [.tup [.v 169,.ao (.at (.at (.v 39) 94) 64) 49 [],.ao (.at (.at (.at (.v 39) 94) 64) 148) 49 []]])],.ret (.cmp (.ix (.v 192) (ci 0)) .eq (.ix (.v 192) (ci 1)))]⟩,⟨[39],[],[.ret (.comp true (.ix (.v 168) (ci 0)) (.v 168) (.e (.ao (.at (.at (.v 39) 94) 186) 169 [])) [(.cmp (.ix (.v 168) (ci 1)) .eq (.c (.str 161)))] [(168,(nat_lit 0))])]⟩,⟨[38,127,193],[],[.ex (.ao (.v 127) 210 [.dct [214,100,97,72] [ci 0,.call 86 [.v 38,ci 3],.call 86 [.v 38,ci 4],.bin .add (.v 193) (.call 86 [.v 38,ci 6])]])]⟩,⟨[38,39,127,145],[],[.ite (.cmp (.v 145) .mem (.ix (.v 127) (.c (.str 29)))) [.ret (.ao (.ix (.v 127) (.c (.str 29))) 151 [.v 145])] [],.asg (.tup [.v 79,.v 220,.v 131]) (.tup [.ao (.at (.ao (.v 39) 152 [.v 145]) 64) 32 [],.call 86 [.v 38,ci 16],.ao (.ix (.v 127) (.c (.str 78))) 74 [.v 145,.c (.bytes [])]]),.asg (.tup [.v 83,.v 139]) (.tup [.comp true (.ix (.v 168) (ci 0)) (.v 168) (.e (.v 79)) [(.at (.ix (.v 168) (ci 1)) 159)] [(168,(nat_lit 0))],.comp true (.ix (.v 168) (ci 0)) (.v 168) (.e (.v 79)) [(.at (.ix (.v 168) (ci 1)) 222)] [(168,(nat_lit 0))]]),.ite (.an [.cmp (.v 220) .lt (ci 10),.cmp (.v 139) .ne (.lst true []),.or [.cmp (.v 220) .lt (ci 5),.cmp (.v 131) .ne (.c (.bytes []))]]) [.ite (.cmp (.v 131) .eq (.c (.bytes []))) [.asg (.v 131) (.bi .bytes [.comp true (.bin .add (.bin .mod (.ix (.v 127) (.c (.str 71))) (ci 99)) (.v 92)) (.v 92) (.fq [.bin .add (ci 1) (.call 86 [.v 38,.bin .add (.ix (.v 127) (.c (.str 167))) (ci 2)])]) [] [(92,(nat_lit 0)),(127,(nat_lit 1))]]),.aug (.ix (.v 127) (.c (.str 71))) .add (.bi .len [.v 131])] [],.ret (.tup [.c (.str 223),.ix (.v 139) (.bin .mod (.v 220) (.bi .len [.v 139])),.v 131])] [],.ite (.an [.cmp (.v 220) .lt (ci 10),.cmp (.v 83) .ne (.lst true [])]) [.ret (.tup [.c (.str 156),.ix (.v 83) (.bin .mod (.v 220) (.bi .len [.v 83])),.bin .add (ci 1) (.call 86 [.v 38,ci 4])])] [],.ite (.an [.cmp (.v 220) .mem (.tup [ci 10,ci 11]),.cmp (.v 79) .ne (.lst true [])]) [.ret (.tup [.ix (.lst true [.c (.str 46),.c (.str 57)]) (.bin .sub (.v 220) (ci 10)),.ix (.ix (.v 79) (.call 86 [.v 38,.bi .len [.v 79]])) (ci 0)])] [],.ite (.or [.cmp (.v 220) .eq (ci 14),.an [.cmp (.v 220) .eq (ci 15),.cmp (.v 145) .gt (ci 1)]]) [.ret (.ite (.cmp (.v 220) .eq (ci 14)) (.tup [.c (.str 110),.bin .add (ci 1) (.call 86 [.v 38,ci 3])]) (.tup [.c (.str 61),.call 86 [.v 38,ci 100]]))] [],.ret (.tup [.ite (.cmp (.v 220) .mem (.tup [ci 12,ci 13])) (.ix (.lst true [.c (.str 147),.c (.str 67)]) (.bin .sub (.v 220) (ci 12))) (.c (.str 215))])]⟩,⟨[39,127,168,169],[],[.ite (.cmp (.ix (.v 127) (.c (.str 97))) .eq (ci 1)) [.ret (.an [.cmp (.ix (.ao (.ix (.v 127) (.c (.str 29))) 74 [.ix (.v 168) (ci 0),.tup [.c (.str 58)]]) (ci 0)) .eq (.c (.str 223)),.cmp (.at (.ao (.v 39) 152 [.ix (.v 168) (ci 0)]) 154) .gt (ci 0)])] [],.ite (.cmp (.ix (.v 127) (.c (.str 97))) .eq (ci 2)) [.ret (.cmp (.ix (.v 168) (ci 1)) .eq (.c (.str 179)))] [],.ret (.or [.cmp (.ix (.v 127) (.c (.str 97))) .eq (ci 0),.cmp (.ix (.v 168) (ci 0)) .mem (.comp true (.ix (.v 138) (ci 3)) (.v 138) (.e (.v 169)) [] [(138,(nat_lit 0))])])]⟩,⟨[38,39,127,85],[],[.asg (.v 169) (.ao (.at (.at (.v 39) 94) 186) 169 []),.asg (.v 30) (.comp true (.v 168) (.v 168) (.e (.v 169)) [(.an [.cmp (.ix (.v 168) (ci 0)) .gt (ci 1),.cmp (.ix (.v 168) (ci 1)) .ne (.c (.str 228))])] [(168,(nat_lit 0))]),.asg (.v 181) (.comp true (.ix (.v 168) (ci 0)) (.v 168) (.e (.v 30)) [(.call 94 [.v 39,.v 127,.v 168,.v 169])] [(168,(nat_lit 0)),(199,(nat_lit 2)),(39,(nat_lit 1)),(127,(nat_lit 1)),(169,(nat_lit 1))]),.ite (.an [.cmp (.v 181) .eq (.lst true []),.v 85]) [.asg (.v 181) (.comp true (.ix (.v 168) (ci 0)) (.v 168) (.e (.v 30)) [] [(168,(nat_lit 0))])] [],.ite (.cmp (.v 181) .eq (.lst true [])) [.ret (.c (.bool true))] [],.asg (.ix (.v 127) (.c (.str 214))) (.ix (.v 181) (.call 86 [.v 38,.bi .len [.v 181]])),.ite (.cmp (.ao (.v 39) 95 [.at (.at (.at (.v 39) 94) 186) 66,.ix (.v 127) (.c (.str 214))]) .ne (ci 0)) [.ret (.c (.bool false))] [],.ret (.cmp (.at (.ao (.v 39) 152 [.ix (.v 127) (.c (.str 214))]) 184) .eq (.c (.str 161)))]⟩,⟨[38,140,127,193],[],[.asg (.v 145) (.ix (.v 127) (.c (.str 214))),.ex (.call 92 [.v 38,.v 127,.bin .add (.v 193) (ci 3)]),.ret (.cmp (.comp true (.call 88 [.v 39,.v 145,.tup [.c (.str 61),.neg (ci 1)]]) (.v 39) (.e (.v 140)) [] [(39,(nat_lit 0)),(202,(nat_lit 2)),(145,(nat_lit 1))]) .eq (.lst true [ci 0,ci 0]))]⟩,⟨[38,140,127,193,161],[],[.ite (.or [.cmp (.v 161) .eq (.lst true []),.cmp (.bin .mod (.v 193) (ci 3)) .eq (ci 2)]) [.c7 (.v 39) (.e (.v 140)) [.asg (.at (.at (.v 39) 94) 191) (.bin .add (.at (.at (.v 39) 94) 191) (ci 1)),.ex (.ao (.at (.at (.v 39) 94) 186) 219 [.g 20])]] [],.ite (.cmp (.v 161) .eq (.lst true [])) [.ret (.c (.bool true))] [],.asg (.v 145) (.ix (.v 161) (.call 86 [.v 38,.bi .len [.v 161]])),.ite (.an [.cmp (.v 145) .eq (.ix (.v 127) (.c (.str 214))),.cmp (.ix (.v 127) (.c (.str 100))) .eq (ci 0)]) [.ret (.call 96 [.v 38,.v 140,.v 127,.v 193])] [],.asg (.v 51) (.call 93 [.v 38,.ix (.v 140) (ci 0),.v 127,.v 145]),.asg (.v 192) (.comp true (.call 88 [.v 39,.v 145,.v 51]) (.v 39) (.e (.v 140)) [] [(39,(nat_lit 0)),(202,(nat_lit 2)),(51,(nat_lit 1)),(145,(nat_lit 1))]),.ite (.cmp (.v 145) .eq (.ix (.v 127) (.c (.str 214)))) [.aug (.ix (.v 127) (.c (.str 100))) .sub (ci 1),.ite (.cmp (.ix (.v 192) (ci 1)) .is (.c .none)) [.ret (.an [.cmp (.ix (.v 192) (ci 0)) .eq (.c (.str 163)),.call 96 [.v 38,.v 140,.v 127,.v 193]])] [],.ite (.cmp (.ix (.v 51) (ci 0)) .eq (.c (.str 61))) [.ex (.call 92 [.v 38,.v 127,.bin .add (.v 193) (ci 3)])] []] [],.ite (.cmp (.ix (.v 192) (ci 0)) .is (.c .none)) [.asg (.ix (.ix (.v 127) (.c (.str 29))) (.v 145)) (.v 51)] [.ite (.cmp (.ix (.v 51) (ci 0)) .mem (.tup [.c (.str 156),.c (.str 223)])) [.asg (.ix (.ix (.v 127) (.c (.str 78))) (.v 145)) (.ite (.nh (.ix (.v 192) (ci 0)) .bytes) (.ix (.v 192) (ci 0)) (.c (.bytes [])))] []],.ret (.cmp (.ix (.v 192) (ci 0)) .eq (.ix (.v 192) (ci 1)))]⟩,⟨[39,106],[],[.asg (.tup [.v 186,.v 64,.v 79]) (.tup [.at (.at (.v 39) 94) 186,.at (.at (.v 39) 94) 64,.lst false []]),.c7 (.v 152) (.e (.ao (.v 186) 31 [])) [.c7 (.tup [.v 129,.v 63]) (.e (.ao (.at (.v 152) 64) 32 [])) [.ex (.ao (.v 79) 33 [.tup [.at (.v 152) 145,.v 129,.at (.at (.v 63) 147) 81,.at (.v 63) 159,.at (.v 63) 80]])]],.asg (.v 131) (.comp true (.tup [.v 81,.ao (.ix (.at (.at (.v 64) 148) 148) (.v 81)) 156 [ci 9]]) (.v 81) (.e (.bi .sorted [.at (.at (.v 64) 148) 148])) [] [(81,(nat_lit 0)),(64,(nat_lit 1))]),.c7 (.v 168) (.e (.ao (.v 186) 169 [])) [.ite (.an [.cmp (.ix (.v 168) (ci 0)) .gt (ci 1),.cmp (.ix (.v 168) (ci 1)) .ne (.c (.str 228))]) [.ex (.ao (.v 39) 61 [.ao (.v 39) 152 [.ix (.v 168) (ci 0)],.bin .add (ci 50) (.ix (.v 168) (ci 0))])] []],.asg (.v 192) (.comp true (.call 88 [.v 39,ci 1,.tup [.c (.str 215)]]) (.v 193) (.fq [.bin .add (.v 106) (ci 2)]) [] [(193,(nat_lit 0)),(202,(nat_lit 2)),(39,(nat_lit 1))]),.c7 (.tup [.v 129,.v 63]) (.e (.ao (.at (.at (.v 186) 66) 64) 32 [])) [.ex (.ao (.v 39) 46 [.at (.v 186) 66,.v 129])],.ret (.lst true [.v 79,.v 131,.v 192,.comp true (.ix (.v 168) (ci 0)) (.v 168) (.e (.ao (.v 186) 169 [])) [] [(168,(nat_lit 0))],.ao (.v 64) 49 [],.ao (.at (.v 64) 148) 49 []])]⟩,⟨[171],[],[.asg (.v 38) (.call 85 [.v 171]),.asg (.v 86) (.an [.cmp (.bi .len [.v 171]) .lt (ci 2),.cmp (.ix (.v 38) (.c (.str 77))) .eq (.lst true [])]),.asg (.v 106) (.ite (.v 86) (ci 2) (.bin .add (ci 2) (.call 86 [.v 38,ci 4]))),.asg (.v 148) (.ite (.v 86) (ci 1) (.bin .add (ci 2) (.call 86 [.v 38,.ite (.cmp (.v 106) .lt (ci 4)) (ci 2) (ci 1)]))),.asg (.v 167) (.bin .add (ci 1) (.call 86 [.v 38,ci 4])),.asg (.v 140) (.comp true (.call 87 [.v 167,.v 106,.v 148]) (.v 92) (.fq [ci 2]) [] [(92,(nat_lit 0)),(203,(nat_lit 2)),(106,(nat_lit 1)),(148,(nat_lit 1)),(167,(nat_lit 1))]),.ite (.no (.call 89 [.v 38,.v 140,.v 106,.v 148])) [.ret (.c (.bool false))] [],.asg (.v 127) (.dct [29,78,71,167] [.dct [] [],.dct [] [],ci 0,.v 167]),.ex (.call 92 [.v 38,.v 127,ci 0]),.c7 (.v 193) (.fq [.ite (.v 86) (ci 7) (ci 15)]) [.asg (.v 161) (.call 91 [.ix (.v 140) (ci 0)]),.ite (.an [.cmp (.ix (.v 127) (.c (.str 214))) .eq (ci 0),.or [.cmp (.v 193) .ge (.ix (.v 127) (.c (.str 72))),.cmp (.v 161) .eq (.lst true [])]]) [.ite (.no (.call 95 [.v 38,.ix (.v 140) (ci 0),.v 127,.or [.cmp (.v 193) .gt (.bin .add (.ix (.v 127) (.c (.str 72))) (ci 3)),.cmp (.v 161) .eq (.lst true [])]])) [.ret (.c (.bool false))] [],.ite (.cmp (.ix (.v 127) (.c (.str 214))) .gt (ci 0)) [.asg (.v 161) (.call 91 [.ix (.v 140) (ci 0)])] []] [],.ite (.or [.no (.call 90 [.v 140,.v 127]),.no (.call 97 [.v 38,.v 140,.v 127,.v 193,.v 161])]) [.ret (.c (.bool false))] []],.ite (.an [.cmp (.ix (.v 127) (.c (.str 214))) .gt (ci 0),.no (.call 96 [.v 38,.v 140,.v 127,ci 15])]) [.ret (.c (.bool false))] [],.ite (.no (.call 90 [.v 140,.v 127])) [.ret (.c (.bool false))] [],.asg (.v 100) (.comp true (.call 98 [.v 39,.v 106]) (.v 39) (.e (.v 140)) [] [(39,(nat_lit 0)),(201,(nat_lit 2)),(106,(nat_lit 1))]),.ret (.an [.cmp (.ix (.v 100) (ci 0)) .eq (.ix (.v 100) (ci 1)),.cmp (.ix (.ix (.ix (.v 100) (ci 0)) (ci 2)) (.neg (ci 1))) .eq (.c (.str 163)),.cmp (.pQ (.ix (.v 100) (ci 0)) (ci 3)) .eq (.lst true [.lst true [ci 1],ci 0,ci 0])])]⟩]
noncomputable def BL:List sR:=IV++IW++IX
noncomputable def bu(f:dP):sR:=(BL[f]?).getD ⟨[],[],[.bad]⟩
noncomputable def IY:List (List Nat):=[[0],[13,0],[13,1],[13,2],[13,3],[13,4],[13,5],[13,6],[14,0],[14,1],[14,2],[14,3],[17],[18,0],[19,0],[19,1],[19,2],[19,3],[19,4],[19,5],[19,6],[19,7],[19,8],[19,9],[19,10],[19,11],[19,12],[19,13],[19,14],[19,15],[19,16],[19,17],[19,18],[24,0],[24,1],[24,2],[25,0],[25,1],[25,2],[25,3],[25,4],[25,5],[25,6],[25,7],[25,8],[25,9],[25,10],[25,11],[25,12],[25,13],[25,14],[25,15],[26,0],[26,1],[26,2],[26,3],[26,4],[26,5],[26,6],[26,7],[35,0],[35,1],[35,2],[35,3],[35,4],[35,5],[36,0],[36,1],[36,2],[36,3],[36,4],[36,5],[36,6],[36,7],[36,8],[36,9],[36,10],[36,11],[36,12],[36,13],[36,14],[36,15],[36,16],[36,17],[36,18],[38],[39],[40],[41],[42],[43],[44],[45],[46],[47],[48],[49],[50],[51],[52]]
noncomputable def BN:List (Nm×V):=[(3,(.int (.ofNat (nat_lit 0)))),(18,(.int (.ofNat (nat_lit 1)))),(1,(.int (.ofNat (nat_lit 2)))),(16,(.int (.ofNat (nat_lit 0)))),(23,(.int (.ofNat (nat_lit 1)))),(20,(.tup [(.str 191)])),(9,(.str 147)),(7,(.str 122)),(2,(.str 54)),(22,(.str 209)),(5,(.str 71)),(15,(.str 161)),(17,(.str 170)),(19,(.str 179)),(24,(.str 228)),(0,(.int (.ofNat (nat_lit 10))))]
noncomputable def yk:List (List (Nm×dP)):=[[(216,2),(167,3),(41,4),(223,5),(156,6),(46,7)],[(105,9),(46,10),(49,11)],[],[(152,15),(178,16),(91,17),(75,18),(67,19),(102,20),(61,21),(215,22),(95,23),(211,24),(177,25),(46,26),(101,27),(57,28),(147,29),(73,30),(156,31),(223,32)],[(174,34),(35,35)],[(49,37),(112,38),(60,39),(137,40),(136,41),(134,42),(173,43),(46,44),(54,45),(156,46),(146,47),(223,48),(226,49),(183,50),(217,51)],[(155,53),(69,54),(74,55),(187,56),(32,57),(48,58),(47,59)],[(45,61),(87,62),(84,63),(168,65)],[(70,67),(114,68),(65,69),(31,70),(44,71),(161,72),(115,73),(111,74),(67,75),(165,76),(42,77),(61,78),(162,79),(215,80),(177,81),(219,82),(95,83),(169,84)]]
noncomputable def yl:List (List Nm):=[[81,157,158,166,176,224,225],[103,148,176],[55,64,90,123,143,186,191],[94],[80,97,104,122,147,149,159,222],[37,55,90,108,123,133,148],[108,180],[41,50,64,82,89,96,109,141,144,145,149,154,164,182,184,185,192,194,218],[66,98,116,150,170]]
noncomputable def IZ:List dP:=[1,8,13,14,33,36,52,60,66]
noncomputable def ym:List Nm:=[11,12,10,14,8,6,4,13,21]
noncomputable def uU:List (Option Nm):=(List.range 100).map (aF [(0,212),(12,132),(85,196),(86,207),(87,203),(88,202),(89,195),(90,206),(91,205),(92,204),(93,197),(94,199),(95,200),(96,198),(97,208),(98,201),(99,99)])
noncomputable def ao(c:jL)(n:Nm):Option dP:=(yk[c]?).bind fun l=>aF l n
noncomputable def fX(c:jL)(n:Nm):Bool:=((yl[c]?).getD []).contains n
noncomputable def sU(c:jL):dP:=(IZ[c]?).getD 0
noncomputable def yo(n:Nm):Option V:=aF BN n
inductive Cell where
 |list (l:List V)
 |sd (l:List (Nm×V))
 |bI (l:List (Int×V))
 |bB (l:List Nat)
 |inst (l:List (Nm×V))
structure St where
 hp:Loc→Option Cell
 us:Loc→Bool
abbrev Lv:=List (Nm×V)
def aQ {α:Type}(o:Option α)(k:α→Prop):Prop:=o.elim False k
noncomputable def aB:Lv→Nm→V→Lv
 |[],n,v=>[(n,v)]
 |(k,w)::r,n,v=>bif Nat.beq k n then(k,v)::r else(k,w)::aB r n v
noncomputable def St.set(s:St)(l:Loc)(c:Cell):St:=⟨fun l'=>bif Loc.beq l' l then some c else s.hp l',s.us⟩
noncomputable def St.new(s:St)(l:Loc)(c:Cell):St:=⟨fun l'=>bif Loc.beq l' l then some c else s.hp l',fun l'=>Loc.beq l' l||s.us l'⟩
def fu (t:Tag)(c:Cell)(σ:St)(Q:V→St→Prop):Prop:=∃l:Loc,l.t=t∧σ.us l=false∧Q (.ref l) (σ.new l c)
def newL (z:Bool)(vs:List V)(σ:St)(Q:V→St→Prop):Prop:=bif z then Q (.fl vs) σ else fu 0 (.list vs) σ Q
noncomputable def V.int? : V→Option Int
 |.int i=>some i
 |_=>Option.none
noncomputable def V.nj : V→Option Nm
 |.str n=>some n
 |_=>Option.none
noncomputable def V.uV : V→Option (List Nat)
 |.bytes l=>some l
 |_=>Option.none
noncomputable def V.uW : V→Option (List V)
 |.tup l=>some l
 |_=>Option.none
noncomputable def V.ref? : V→Option Loc
 |.ref l=>some l
 |_=>Option.none
noncomputable def Cell.pS : Cell→Option (List V)
 |.list l=>some l
 |_=>Option.none
noncomputable def Cell.yp : Cell→Option (List (Nm×V))
 |.sd l=>some l
 |_=>Option.none
noncomputable def Cell.BO : Cell→Option (List (Int×V))
 |.bI l=>some l
 |_=>Option.none
noncomputable def Cell.uX : Cell→Option (List (Nm×V))
 |.inst l=>some l
 |_=>Option.none
noncomputable def cls?(t:Tag):Option jL:=bif Nat.ble 3 t then some (Nat.sub t 3) else none
noncomputable def St.lst(s:St)(l:Loc):Option (List V):=(s.hp l).bind Cell.pS
noncomputable def St.dct(s:St)(l:Loc):Option (List (Int×V)):=(s.hp l).bind Cell.BO
noncomputable def St.BP(s:St)(l:Loc):Option (List (Nm×V)):=(s.hp l).bind Cell.yp
noncomputable def St.obj(s:St)(l:Loc):Option (List (Nm×V)):=(s.hp l).bind Cell.uX
noncomputable def ic(s:St):V→Option (List V)
 |.fl l=>some l
 |.ref l=>s.lst l
 |_=>none
noncomputable def one{α:Type}:List α→Option α
 |[a]=>some a
 |_=>none
noncomputable def two{α:Type}:List α→Option (α×α)
 |[a,b]=>some (a,b)
 |_=>none
noncomputable def on{α:Type}(c:Prop)[Decidable c](a:α):Option α:=if c then some a else none
mutual
noncomputable def T.names:T→List Nm
 |.v n=>[n]
 |.at _ _=>[]
 |.ix _ _=>[]
 |.tup ts=>T.BQ ts
noncomputable def T.BQ:List T→List Nm
 |[]=>[]
 |t::r=>T.names t++T.BQ r
end
noncomputable def dQ(ns:List Nm)(lv:Lv):Lv:=lv.filter fun x => !(ns.contains x.1)
noncomputable def bz:Nat:=1000000
noncomputable def place(n:Nat)(i:Int):Option Nat:=if 0≤i then(if i<n then some i.toNat else none) else(if 0≤i+n then some (i+n).toNat else none)
abbrev clip:=PySem.clipAt
noncomputable def all2(f:V→V→Option Bool):List V→List V→Option Bool
 |[],[]=>some true
 |x::a,y::b=>(f x y).bind fun p=>(all2 f a b).bind fun q=>some (p&&q)
 |_,_=>some false
noncomputable def V.kind:V→Nat
 |.none=>1
 |.int _=>2
 |.str _=>3
 |.tup _=>4
 |_=>0
noncomputable def apart(a b:V):Option Bool:=bif Nat.beq a.kind 0||Nat.beq b.kind 0||(Nat.beq a.kind b.kind) then none else some false
noncomputable def cC:Nat→St→V→V→Option Bool
 |0,_,_,_=>none
 |d+1,s,a,b=>match a with
  |.none=>(match b with | .none=>some true | b=>apart .none b)
  |.bool x=>(match b with | .bool y=>some (x==y) | _=>none)
  |.int x=>(match b with | .int y=>some (x==y) | b=>apart (.int x) b)
  |.str x=>(match b with | .str y=>some (Nat.beq x y) | b=>apart (.str x) b)
  |.bytes x=>(b.uV).map fun y=>x==y
  |.tup x=>(match b with | .tup y=>all2 (cC d s) x y | b=>apart (.tup x) b)
  |a=>(ic s a).bind fun x=>(ic s b).bind fun y=>if x.length=y.length then all2 (cC d s) x y else some false
noncomputable def lM:Nat:=9
noncomputable def nq(s:St)(x:V):List V→Option Bool
 |[]=>some false
 |y::r=>(cC lM s y x).bind fun a=>(nq s x r).bind fun b=>some (a||b)
noncomputable def fH:List (Int×V)→Int→Option V
 |[],_=>none
 |(k,v)::r,n=>if k=n then some v else fH r n
noncomputable def nt:List (Int×V)→Int→V→List (Int×V)
 |[],n,v=>[(n,v)]
 |(k,w)::r,n,v=>if k=n then(k,v)::r else(k,w)::nt r n v
noncomputable def jN:List (Int×V)→Int→List (Int×V)
 |[],_=>[]
 |(k,w)::r,n=>if k=n then r else(k,w)::jN r n
noncomputable def eV(s:St):V→Option Bool
 |.none=>some false
 |.bool b=>some b
 |.int i=>some (decide (i≠0))
 |.bytes l=>some (decide (l.length≠0))
 |.tup l=>some (decide (l.length≠0))
 |.str _=>none
 |v=>(ic s v).map fun x=>decide (x.length≠0)
noncomputable def yq(s:St)(v:V):Option (Loc×jL×List (Nm×V)):=v.ref?.bind fun l=>(cls? l.t).bind fun c=>(s.obj l).bind fun fs=>some (l,c,fs)
noncomputable def mu(s:St)(v:V)(n:Nm):Option V:=(yq s v).bind fun o=>bif fX o.2.1 n then aF o.2.2 n else none
noncomputable def gC(s:St)(v:V)(n:Nm)(x:V):Option St:=(yq s v).bind fun o=>bif fX o.2.1 n&&Nat.blt o.2.2.length 900 then some (s.set o.1 (.inst (aB o.2.2 n x))) else none
noncomputable def at_(l:List V)(i:V):Option V:=i.int?.bind fun i=>(place l.length i).bind fun k=>l[k]?
noncomputable def Cell.ix:Cell→V→Option V
 |.list x,i=>at_ x i
 |.bB x,i=>i.int?.bind fun i=>(place x.length i).bind fun k=>(x[k]?).map fun(b:Nat)=>V.int (b:Int)
 |.sd d,i=>i.nj.bind fun k=>aF d k
 |.bI d,i=>i.int?.bind fun k=>fH d k
 |.inst _,_=>none
noncomputable def fy(s:St)(v i:V):Option V:=match v with
 |.tup l=>at_ l i
 |.fl l=>at_ l i
 |.ref l=>(s.hp l).bind fun c=>c.ix i
 |_=>none
noncomputable def Cell.put:Cell→V→V→Option Cell
 |.list y,i,x=>i.int?.bind fun i=>(on (0≤i) i).bind fun i=>(place y.length i).map fun k => .list (y.set k x)
 |.bB y,i,x=>i.int?.bind fun i=>x.int?.bind fun b=>(on (0≤b∧b<256) b).bind fun b=>(place y.length i).map fun k => .bB (y.set k b.toNat)
 |.sd d,i,x=>i.nj.bind fun k=>on (d.length<bz) (.sd (aB d k x))
 |.bI d,i,x=>i.int?.bind fun k=>on (d.length<bz) (.bI (nt d k x))
 |.inst _,_,_=>none
noncomputable def fQ(s:St)(v i x:V):Option St:=v.ref?.bind fun l=>(s.hp l).bind fun c=>(c.put i x).map fun c=>s.set l c
noncomputable def cut{α:Type}(l:List α)(lo hi:Option Int):List α:=(l.take ((hi.map (clip l.length)).getD l.length)).drop ((lo.map (clip l.length)).getD 0)
noncomputable def slice(s:St)(v:V)(lo hi:Option Int):Option V:=match v with
 |.bytes l=>some (.bytes (cut l lo hi))
 |v=>(ic s v).map fun x => .fl (cut x lo hi)
noncomputable def rep(l:List V):Nat→List V
 |0=>[]
 |n+1=>l++rep l n
noncomputable def jO(o:Bo)(a b:V):Option V:=match o with
 |.add=>(match a with
  |.int x=>b.int?.map fun y => .int (x+y)
  |.bytes x=>b.uV.bind fun y=>on (x.length+y.length≤bz) (.bytes (x++y))
  |_=>none)
 |.sub=>a.int?.bind fun x=>b.int?.map fun y => .int (x - y)
 |.mul=>a.int?.bind fun x=>b.int?.bind fun y=>on (x.natAbs<2 ^ 64∨y.natAbs<2 ^ 64) (.int (x * y))
 |.fdiv=>a.int?.bind fun x=>b.int?.bind fun y=>on (y≠0) (.int (x.fdiv y))
 |.mod=>a.int?.bind fun x=>b.int?.bind fun y=>on (y≠0) (.int (x.fmod y))
 |.pow=>a.int?.bind fun x=>b.int?.bind fun y=>on (0≤y∧y≤1000∧x.natAbs<2 ^ 64) (.int (x ^ y.toNat))
noncomputable def lop(s:St)(o:Bo)(a b:V):Option (List V):=match o with
 |.add=>(ic s a).bind fun x=>(ic s b).bind fun y=>on (x.length+y.length≤bz) (x++y)
 |.mul=>(ic s a).bind fun x=>b.int?.bind fun y=>on (0≤y∧y≤1000∧x.length≤1000) (rep x y.toNat)
 |_=>none
noncomputable def ii(a b:V)(f:Int→Int→Bool):Option Bool:=a.int?.bind fun x=>b.int?.map fun y=>f x y
noncomputable def isNone:V→Bool
 |.none=>true
 |_=>false
noncomputable def jk(s:St)(a b:V):Option Bool:=match a with
 |.none=>some (isNone b)
 |.ref l=>(match b with
  |.none=>some false
  |.ref m=>(s.hp l).map fun _=>Loc.beq l m
  |_=>none)
 |_=>bif isNone b then some false else none
noncomputable def yr(s:St)(a b:V):Option Bool:=match b with
 |.tup l=>nq s a l
 |.fl l=>nq s a l
 |.ref l=>(s.hp l).bind fun c=>(match c with
  |.list x=>nq s a x
  |.bI d=>a.int?.map fun k=>(fH d k).isSome
  |_=>none)
 |_=>none
noncomputable def eN(s:St)(o:Co)(a b:V):Option Bool:=match o with
 |.eq=>cC lM s a b
 |.ne=>(cC lM s a b).map (!·)
 |.lt=>ii a b fun x y=>decide (x<y)
 |.le=>ii a b fun x y=>decide (x≤y)
 |.gt=>ii a b fun x y=>decide (y<x)
 |.ge=>ii a b fun x y=>decide (y≤x)
 |.is=>jk s a b
 |.jM=>(jk s a b).map (!·)
 |.mem=>yr s a b
 |.qW=>(yr s a b).map (!·)
noncomputable def sV:List V→Option (List Nat)
 |[]=>some []
 |x::r=>x.int?.bind fun i=>(on (0≤i∧i<256) i).bind fun i=>(sV r).map (i.toNat::·)
noncomputable def n9(x:Int):List Int→List Int
 |[]=>[x]
 |y::r=>if x≤y then x::y::r else y::n9 x r
noncomputable def gE:List Int→List Int
 |[]=>[]
 |x::r=>n9 x (gE r)
noncomputable def Cell.len:Cell→Option Nat
 |.list x=>some x.length
 |.sd x=>some x.length
 |.bI x=>some x.length
 |.bB x=>some x.length
 |.inst _=>none
noncomputable def sW(s:St):V→Option Nat
 |.bytes l=>some l.length
 |.tup l=>some l.length
 |.fl l=>some l.length
 |.ref l=>(s.hp l).bind Cell.len
 |_=>none
noncomputable def sX(s:St):V→Option (List Nat)
 |.bytes l=>some l
 |.fl l=>sV l
 |.ref l=>(s.hp l).bind fun c=>(match c with
  |.bB x=>some x
  |_=>none)
 |_=>none
def BR (b:Bi)(as:List V)(σ:St)(Q:V→St→Prop):Prop:=match b with
 |.len=>aQ ((one as).bind (sW σ)) fun(n:Nat)=>Q (.int (n:Int)) σ
 |.bytes=>aQ ((one as).bind (sX σ)) fun l=>Q (.bytes l) σ
 |.bB=>(match as with
  |[]=>fu 2 (.bB []) σ Q
  |as=>aQ ((one as).bind V.int?) fun n=>(0≤n∧n≤1000)∧fu 2 (.bB (List.replicate n.toNat 0)) σ Q)
 |.min=>aQ (two as) fun q=>aQ q.1.int? fun a=>aQ q.2.int? fun b=>Q (.int (if b<a then b else a)) σ
 |.max=>aQ (two as) fun q=>aQ q.1.int? fun a=>aQ q.2.int? fun b=>Q (.int (if a<b then b else a)) σ
 |.qX=>aQ ((one as).bind (ic σ)) fun x=>fu 0 (.list x) σ Q
 |.sorted=>aQ ((one as).bind fun v=>v.ref?.bind σ.dct) fun d=>d.length<64∧Q (.fl ((gE (d.map (·.1))).map .int)) σ
noncomputable def yt(k:Ki)(v:V):Option Bool:=match v with
 |.bytes _=>(match k with | .str=>some false | _=>some true)
 |.int _=>(match k with | .bytes=>some false | _=>none)
 |.str _=>(match k with | .bytes=>some false | .str=>some true | _=>none)
 |_=>none
noncomputable def Cell.tag:Cell→Tag
 |.list _=>0
 |.bB _=>2
 |.inst _=>3
 |_=>1
noncomputable def Cell.ao(s:St)(l:Loc)(m:Nm)(as:List V):Cell→Option (V×Cell)
 |.list x=>
  bif Nat.beq m 33 then(one as).bind fun v=>on (x.length<bz) (.none,.list (x++[v]))
  else bif Nat.beq m 151 then(match as with | []=>x.getLast?.map fun v=>(v,.list x.dropLast) | _=>none)
  else bif Nat.beq m 62 then(one as).bind fun v=>(match v with
   |.fl y=>on (x.length+y.length≤bz) (.none,.list (x++y))
   |_=>none)
  else none
 |.bB x=>bif Nat.beq m 33 then(one as).bind fun v=>v.int?.bind fun b=>on (0≤b∧b<256∧x.length<bz) (.none,.bB (x++[b.toNat])) else none
 |.bI d=>
  bif Nat.beq m 74 then(match as with
   |[k]=>k.int?.map fun k=>((fH d k).getD .none,.bI d)
   |as=>(two as).bind fun q=>q.1.int?.map fun k=>((fH d k).getD q.2,.bI d))
  else bif Nat.beq m 151 then(one as).bind fun k=>k.int?.bind fun k=>(fH d k).map fun x=>(x,.bI (jN d k))
  else none
 |.sd d=>bif Nat.beq m 210 then(one as).bind fun v=>v.ref?.bind fun l2=>(s.BP l2).bind fun e=>on (Loc.beq l2 l=false∧d.length+e.length≤bz) (.none,.sd (e.foldl (fun d x=>aB d x.1 x.2) d)) else none
 |.inst _=>none
noncomputable def iH(s:St)(l:Loc)(m:Nm)(as:List V):Option (V×St):=(s.hp l).bind fun c=>bif Nat.beq c.tag l.t then(c.ao s l m as).map fun q=>(q.1,s.set l q.2) else none
inductive Src where
 |items (l:List V)
 |lst (l:Loc) (i:Nat)
 |enum (l:Loc) (i:Nat)
noncomputable def Src.next(s:St):Src→Option (Option (V×Src))
 |.items l=>some (match l with | []=>none | v::r=>some (v,.items r))
 |.lst l i=>(s.lst l).map fun x=>(x[i]?).map fun v=>(v,.lst l (i+1))
 |.enum l i=>(s.lst l).map fun x=>(x[i]?).map fun v=>(.tup [.int i,v],.enum l (i+1))
noncomputable def srcOf(s:St):V→Option Src
 |.tup l=>some (.items l)
 |.fl l=>some (.items l)
 |.bytes l=>some (.items (l.map fun(b:Nat) => .int b))
 |.ref l=>(s.lst l).map fun _ => .lst l 0
 |_=>none
noncomputable def yu(s:St)(v:V):Option Src:=v.ref?.bind fun l=>(s.lst l).map fun _ => .enum l 0
noncomputable def uY(a b:Int):Option (List V):=on (a.natAbs≤1000∧b.natAbs≤1000) ((List.range (b - a).toNat).map fun(k:Nat) => .int (a+k))
noncomputable def rj(as:List V):Option (List V):=match as with
 |[b]=>b.int?.bind fun b=>uY 0 b
 |as=>(two as).bind fun q=>q.1.int?.bind fun a=>q.2.int?.bind fun b=>uY a b
inductive Fl where
 |next | ret (v:V) | exc (x:Ex)
noncomputable def gG:Nat:=100000
abbrev Cx:=dP→List V→St→(V→St→Prop)→(Ex→St→Prop)→Prop
abbrev bV:Ex→St→Prop:=fun _ _=>False
def nu(elt:Lv→St→(V→St→Prop)→Prop)(asg:V→Lv→St→(Lv→St→Prop)→Prop)(cond:Lv→St→(Bool→St→Prop)→Prop):Nat→Src→Lv→St→(List V→St→Prop)→Prop
 |0,_,_,_,_=>False
 |n+1,src,lv,σ,Q=>aQ (src.next σ) fun q=>q.elim (Q [] σ) fun x=>asg x.1 lv σ fun lv σ=>cond lv σ fun b σ=>
   bif b then elt lv σ fun y σ=>nu elt asg cond n x.2 lv σ fun ys σ=>Q (y::ys) σ else nu elt asg cond n x.2 lv σ Q
noncomputable def Cell.has(m:Nm):Cell→Bool
 |.list _=>Nat.beq m 33||Nat.beq m 151||Nat.beq m 62
 |.bB _=>Nat.beq m 33
 |.bI _=>Nat.beq m 74||Nat.beq m 151
 |.sd _=>Nat.beq m 210
 |.inst _=>false
noncomputable def oh(st:St)(v:V)(m:Nm):Option (Loc×Option dP):=v.ref?.bind fun l=>(st.hp l).bind fun c=>match cls? l.t with
 |some k=>c.uX.bind fun _=>bif fX k m then none else(Mine.Internal.ao k m).map fun f=>(l,some f)
 |none=>bif Nat.beq c.tag l.t&&c.has m then some (l,none) else none
def uZ(cx:Cx)(v:V)(m:Nm)(as:List V)(q:Loc×Option dP)(σ:St)(Q:V→St→Prop)(X:Ex→St→Prop):Prop:=match q.2 with
 |some f=>cx f (v::as) σ Q X
 |none=>aQ (iH σ q.1 m as) fun r=>Q r.1 r.2
def jP (cx:Cx)(c:jL)(as:List V)(σ:St)(Q:V→St→Prop)(X:Ex→St→Prop):Prop:=
 fu (Nat.add c 3) (.inst []) σ fun v σ=>cx (sU c) (v::as) σ (fun r σ=>isNone r=true∧Q v σ) X
def yv(ks:List Nm)(vs:List V)(σ:St)(Q:V→St→Prop):Prop:=match ks with
 |[]=>fu 1 (.bI []) σ Q
 |_::_=>ks.length=vs.length∧fu 1 (.sd ((ks.zip vs).foldl (fun d x=>aB d x.1 x.2) [])) σ Q
noncomputable def yw(v:V)(lo hi:Option V)(st:St):Option V:=match lo,hi with
 |some a,none=>a.int?.bind fun a=>slice st v (some a) none
 |none,some b=>b.int?.bind fun b=>slice st v none (some b)
 |_,_=>none
mutual
def wE (cx:Cx):E→Lv→St→(V→St→Prop)→(Ex→St→Prop)→Prop
 |.c v,_,σ,Q,_=>Q v σ
 |.v n,lv,σ,Q,_=>aQ (aF lv n) fun x=>Q x σ
 |.g n,_,σ,Q,_=>aQ (yo n) fun x=>Q x σ
 |.at e n,lv,σ,Q,X=>wE cx e lv σ (fun v σ=>aQ (mu σ v n) fun x=>Q x σ) X
 |.ix e i,lv,σ,Q,X=>wE cx e lv σ (fun v σ=>wE cx i lv σ (fun i σ=>aQ (fy σ v i) fun x=>Q x σ) X) X
 |.pQ e lo,lv,σ,Q,X=>wE cx e lv σ (fun v σ=>wE cx lo lv σ (fun a σ=>aQ (yw v (some a) none σ) fun x=>Q x σ) X) X
 |.qY e hi,lv,σ,Q,X=>wE cx e lv σ (fun v σ=>wE cx hi lv σ (fun a σ=>aQ (yw v none (some a) σ) fun x=>Q x σ) X) X
 |.bin o x y,lv,σ,Q,X=>wE cx x lv σ (fun a σ=>wE cx y lv σ (fun b σ=>aQ (jO o a b) fun x=>Q x σ) X) X
 |.lop o z x y,lv,σ,Q,X=>wE cx x lv σ (fun a σ=>wE cx y lv σ (fun b σ=>aQ (lop σ o a b) fun x=>newL z x σ Q) X) X
 |.cmp x o y,lv,σ,Q,X=>wE cx x lv σ (fun a σ=>wE cx y lv σ (fun b σ=>aQ (eN σ o a b) fun r=>Q (.bool r) σ) X) X
 |.pR x o y o' z,lv,σ,Q,X=>wE cx x lv σ (fun a σ=>wE cx y lv σ (fun b σ=>aQ (eN σ o a b) fun r=>
   bif r then wE cx z lv σ (fun c σ=>aQ (eN σ o' b c) fun r=>Q (.bool r) σ) X else Q (.bool false) σ) X) X
 |.an es,lv,σ,Q,X=>mw cx es lv σ Q X
 |.or es,lv,σ,Q,X=>pT cx es lv σ Q X
 |.no e,lv,σ,Q,X=>wE cx e lv σ (fun v σ=>aQ (eV σ v) fun b=>Q (.bool (!b)) σ) X
 |.neg e,lv,σ,Q,X=>wE cx e lv σ (fun v σ=>aQ v.int? fun i=>Q (.int (-i)) σ) X
 |.ite t a b,lv,σ,Q,X=>wC cx t lv σ (fun r σ=>bif r then wE cx a lv σ Q X else wE cx b lv σ Q X) X
 |.tup es,lv,σ,Q,X=>wL cx es lv σ (fun vs σ=>Q (.tup vs) σ) X
 |.lst z es,lv,σ,Q,X=>wL cx es lv σ (fun vs σ=>newL z vs σ Q) X
 |.dct ks es,lv,σ,Q,X=>wL cx es lv σ (fun vs σ=>yv ks vs σ Q) X
 |.comp z e t it cs _,lv,σ,Q,X=>wI cx it lv σ (fun src σ=>
   nu (fun lv σ K=>wE cx e lv σ K bV) (fun v lv σ K=>wA cx t v lv σ K) (fun lv σ K=>wCs cx true cs lv σ K bV) gG src (dQ t.names lv) σ fun vs σ=>newL z vs σ Q) X
 |.call f es,lv,σ,Q,X=>wL cx es lv σ (fun vs σ=>cx f vs σ Q X) X
 |.ao e m es,lv,σ,Q,X=>wE cx e lv σ (fun v σ=>aQ (oh σ v m) fun q=>wL cx es lv σ (fun vs σ=>uZ cx v m vs q σ Q X) X) X
 |.new c es,lv,σ,Q,X=>wL cx es lv σ (fun vs σ=>jP cx c vs σ Q X) X
 |.bi b es,lv,σ,Q,X=>wL cx es lv σ (fun vs σ=>BR b vs σ Q) X
 |.nh e k,lv,σ,Q,X=>wE cx e lv σ (fun v σ=>aQ (yt k v) fun r=>Q (.bool r) σ) X
def wL (cx:Cx):List E→Lv→St→(List V→St→Prop)→(Ex→St→Prop)→Prop
 |[],_,σ,Q,_=>Q [] σ
 |e::r,lv,σ,Q,X=>wE cx e lv σ (fun v σ=>wL cx r lv σ (fun vs σ=>Q (v::vs) σ) X) X
def mw (cx:Cx):List E→Lv→St→(V→St→Prop)→(Ex→St→Prop)→Prop
 |[],_,_,_,_=>False
 |e::r,lv,σ,Q,X=>wE cx e lv σ (fun v σ=>match r with
  |[]=>Q v σ
  |_::_=>aQ (eV σ v) fun b=>bif b then mw cx r lv σ Q X else Q v σ) X
def pT (cx:Cx):List E→Lv→St→(V→St→Prop)→(Ex→St→Prop)→Prop
 |[],_,_,_,_=>False
 |e::r,lv,σ,Q,X=>wE cx e lv σ (fun v σ=>match r with
  |[]=>Q v σ
  |_::_=>aQ (eV σ v) fun b=>bif b then Q v σ else pT cx r lv σ Q X) X
def wC (cx:Cx):E→Lv→St→(Bool→St→Prop)→(Ex→St→Prop)→Prop
 |.no e,lv,σ,Q,X=>wC cx e lv σ (fun b σ=>Q (!b) σ) X
 |.an es,lv,σ,Q,X=>wCs cx true es lv σ Q X
 |.or es,lv,σ,Q,X=>wCs cx false es lv σ Q X
 |.cmp x o y,lv,σ,Q,X=>wE cx x lv σ (fun a σ=>wE cx y lv σ (fun b σ=>aQ (eN σ o a b) fun r=>Q r σ) X) X
 |.pR x o y o' z,lv,σ,Q,X=>wE cx x lv σ (fun a σ=>wE cx y lv σ (fun b σ=>aQ (eN σ o a b) fun r=>
   bif r then wE cx z lv σ (fun c σ=>aQ (eN σ o' b c) fun r=>Q r σ) X else Q false σ) X) X
 |.v n,lv,σ,Q,_=>aQ (aF lv n) fun v=>aQ (eV σ v) fun b=>Q b σ
 |.at e n,lv,σ,Q,X=>wE cx e lv σ (fun v σ=>aQ (mu σ v n) fun v=>aQ (eV σ v) fun b=>Q b σ) X
 |.call f es,lv,σ,Q,X=>wL cx es lv σ (fun vs σ=>cx f vs σ (fun v σ=>aQ (eV σ v) fun b=>Q b σ) X) X
 |.ao e m es,lv,σ,Q,X=>wE cx e lv σ (fun v σ=>aQ (oh σ v m) fun q=>wL cx es lv σ (fun vs σ=>uZ cx v m vs q σ (fun v σ=>aQ (eV σ v) fun b=>Q b σ) X) X) X
 |.nh e k,lv,σ,Q,X=>wE cx e lv σ (fun v σ=>aQ (yt k v) fun r=>Q r σ) X
 |.c v,_,σ,Q,_=>aQ (eV σ v) fun b=>Q b σ
 |_,_,_,_,_=>False
def wCs (cx:Cx)(an:Bool):List E→Lv→St→(Bool→St→Prop)→(Ex→St→Prop)→Prop
 |[],_,σ,Q,_=>Q an σ
 |e::r,lv,σ,Q,X=>wC cx e lv σ (fun b σ=>bif b==an then wCs cx an r lv σ Q X else Q b σ) X
def wI (cx:Cx):It→Lv→St→(Src→St→Prop)→(Ex→St→Prop)→Prop
 |.e e,lv,σ,Q,X=>wE cx e lv σ (fun v σ=>aQ (srcOf σ v) fun x=>Q x σ) X
 |.fq es,lv,σ,Q,X=>wL cx es lv σ (fun vs σ=>aQ (rj vs) fun x=>Q (.items x) σ) X
 |.enum e,lv,σ,Q,X=>wE cx e lv σ (fun v σ=>aQ (yu σ v) fun x=>Q x σ) X
def wA (cx:Cx):T→V→Lv→St→(Lv→St→Prop)→Prop
 |.v n,x,lv,σ,K=>K (aB lv n x) σ
 |.at e n,x,lv,σ,K=>wE cx e lv σ (fun v σ=>aQ (gC σ v n x) fun σ=>K lv σ) bV
 |.ix e i,x,lv,σ,K=>wE cx e lv σ (fun v σ=>wE cx i lv σ (fun i σ=>aQ (fQ σ v i x) fun σ=>K lv σ) bV) bV
 |.tup ts,x,lv,σ,K=>aQ x.uW fun vs=>Nat.beq vs.length ts.length=true∧sY cx ts vs lv σ K
def sY (cx:Cx):List T→List V→Lv→St→(Lv→St→Prop)→Prop
 |[],_,lv,σ,K=>K lv σ
 |t::ts,vs,lv,σ,K=>match vs with
  |[]=>K lv σ
  |x::xs=>wA cx t x lv σ fun lv σ=>sY cx ts xs lv σ K
end
def iI(k:Lv→St→Prop)(Q:Fl→Lv→St→Prop)(fl:Fl)(lv:Lv)(σ:St):Prop:=match fl with
 |.next=>k lv σ
 |.ret v=>Q (.ret v) lv σ
 |.exc _=>False
def sZ (c:Lv→St→(Bool→St→Prop)→Prop)(b:Lv→St→(Fl→Lv→St→Prop)→Prop):Nat→Lv→St→(Fl→Lv→St→Prop)→Prop
 |0,_,_,_=>False
 |n+1,lv,σ,Q=>c lv σ fun r σ=>bif r then b lv σ (iI (fun lv σ=>sZ c b n lv σ Q) Q) else Q .next lv σ
def s6 (asg:V→Lv→St→(Lv→St→Prop)→Prop)(b:Lv→St→(Fl→Lv→St→Prop)→Prop):Nat→Src→Lv→St→(Fl→Lv→St→Prop)→Prop
 |0,_,_,_,_=>False
 |n+1,src,lv,σ,Q=>aQ (src.next σ) fun q=>q.elim (Q .next lv σ) fun x=>asg x.1 lv σ fun lv σ=>b lv σ (iI (fun lv σ=>s6 asg b n x.2 lv σ Q) Q)
noncomputable def pU(o:Bo)(a b:V):Option V:=match o with
 |.add=>a.int?.bind fun x=>b.int?.map fun y => .int (x+y)
 |.sub=>a.int?.bind fun x=>b.int?.map fun y => .int (x - y)
 |_=>none
def I0 (cx:Cx)(t:T)(o:Bo)(e:E)(lv:Lv)(σ:St)(K:Lv→St→Prop)(X:Ex→St→Prop):Prop:=match t with
 |.v n=>aQ (aF lv n) fun a=>wE cx e lv σ (fun b σ=>aQ (pU o a b) fun x=>K (aB lv n x) σ) X
 |.at e' n=>wE cx e' lv σ (fun v σ=>aQ (mu σ v n) fun a=>wE cx e lv σ (fun b σ=>aQ (pU o a b) fun x=>aQ (gC σ v n x) fun σ=>K lv σ) X) X
 |.ix e' i=>wE cx e' lv σ (fun v σ=>wE cx i lv σ (fun i σ=>aQ (fy σ v i) fun a=>wE cx e lv σ (fun b σ=>aQ (pU o a b) fun x=>aQ (fQ σ v i x) fun σ=>K lv σ) X) X) X
 |.tup _=>False
def dX (k:Lv→St→Prop)(Q:Fl→Lv→St→Prop)(fl:Fl)(lv:Lv)(σ:St):Prop:=match fl with
 |.next=>k lv σ
 |fl=>Q fl lv σ
noncomputable def E.nj : E→Option Nm
 |.c x=>x.nj
 |_=>none
noncomputable def S.BS : S→Option E
 |.ret e=>some e
 |_=>none
noncomputable def rm(h:List S):Option V:=(one h).bind fun m=>m.BS.bind fun e=>e.nj.map .str
def BU(x:Ex)(h:List S)(Q:Fl→Lv→St→Prop)(fl:Fl)(lv:Lv)(σ:St):Prop:=match fl with
 |.exc z=>x=z∧aQ (rm h) fun v=>Q (.ret v) lv σ
 |fl=>Q fl lv σ
def yx(x:Ex)(h:List S)(y:Ex)(k:List S)(Q:Fl→Lv→St→Prop)(fl:Fl)(lv:Lv)(σ:St):Prop:=match fl with
 |.exc z=>if x=z then aQ (rm h) fun v=>Q (.ret v) lv σ else y=z∧aQ (rm k) fun v=>Q (.ret v) lv σ
 |fl=>Q fl lv σ
noncomputable def yy(st:St)(v i:V):Option St:=v.ref?.bind fun l=>(st.dct l).bind fun d=>i.int?.bind fun k=>bif (fH d k).isSome then some (st.set l (.bI (jN d k))) else none
mutual
def wS (cx:Cx):S→Lv→St→(Fl→Lv→St→Prop)→Prop
 |.asg t e,lv,σ,Q=>wE cx e lv σ (fun v σ=>wA cx t v lv σ fun lv σ=>Q .next lv σ) fun x σ=>Q (.exc x) lv σ
 |.aug t o e,lv,σ,Q=>I0 cx t o e lv σ (fun lv σ=>Q .next lv σ) fun x σ=>Q (.exc x) lv σ
 |.ex e,lv,σ,Q=>wE cx e lv σ (fun _ σ=>Q .next lv σ) fun x σ=>Q (.exc x) lv σ
 |.ret e,lv,σ,Q=>wE cx e lv σ (fun v σ=>Q (.ret v) lv σ) fun x σ=>Q (.exc x) lv σ
 |.qZ,lv,σ,Q=>Q (.ret .none) lv σ
 |.ite c a b,lv,σ,Q=>wC cx c lv σ (fun r σ=>bif r then wB cx a lv σ Q else wB cx b lv σ Q) fun x σ=>Q (.exc x) lv σ
 |.lJ c b,lv,σ,Q=>sZ (fun lv σ K=>wC cx c lv σ K bV) (fun lv σ K=>wB cx b lv σ K) gG lv σ Q
 |.c7 t it b,lv,σ,Q=>wI cx it lv σ (fun src σ=>s6 (fun v lv σ K=>wA cx t v lv σ K) (fun lv σ K=>wB cx b lv σ K) gG src lv σ Q) fun x σ=>Q (.exc x) lv σ
 |.raise x _,lv,σ,Q=>Q (.exc x) lv σ
 |.sO b x h,lv,σ,Q=>wB cx b lv σ (BU x h Q)
 |.sQ b x h y k,lv,σ,Q=>wB cx b lv σ (yx x h y k Q)
 |.del e i,lv,σ,Q=>wE cx e lv σ (fun v σ=>wE cx i lv σ (fun i σ=>aQ (yy σ v i) fun σ=>Q .next lv σ) fun x σ=>Q (.exc x) lv σ) fun x σ=>Q (.exc x) lv σ
 |.pass,lv,σ,Q=>Q .next lv σ
 |.raw _,_,_,_=>False
 |.bad,_,_,_=>False
def wB (cx:Cx):List S→Lv→St→(Fl→Lv→St→Prop)→Prop
 |[],lv,σ,Q=>Q .next lv σ
 |s::r,lv,σ,Q=>wS cx s lv σ (dX (fun lv σ=>wB cx r lv σ Q) Q)
end
noncomputable def oi(ps:List Nm)(ds:List V)(as:List V):Option Lv:=
 bif Nat.ble as.length ps.length&&Nat.ble ps.length (as.length+ds.length) then some (ps.zip (as++ds.drop (as.length+ds.length - ps.length))) else none
def cW (Q:V→St→Prop)(X:Ex→St→Prop)(fl:Fl)(_:Lv)(σ:St):Prop:=match fl with
 |.ret v=>Q v σ
 |.next=>Q .none σ
 |.exc x=>X x σ
noncomputable def gi(l:Loc):Loc:=l.casesOn fun k i=>⟨bif Nat.blt k 4096 then k else bif Nat.blt k 8192 then Nat.add k 4096 else bif Nat.blt k 12288 then Nat.sub k 4096 else k,i⟩
mutual
noncomputable def cj:V→V
 |.tup l => .tup (fY l)
 |.fl l => .fl (fY l)
 |.ref l => .ref (gi l)
 |.none => .none
 |.bool b => .bool b
 |.int i => .int i
 |.str s => .str s
 |.bytes l => .bytes l
noncomputable def fY:List V→List V
 |[]=>[]
 |v::r=>cj v::fY r
end
noncomputable def eZ:Cell→Cell
 |.list l => .list (fY l)
 |.sd d => .sd (d.map fun x=>(x.1,cj x.2))
 |.bI d => .bI (d.map fun x=>(x.1,cj x.2))
 |.bB l => .bB l
 |.inst d => .inst (d.map fun x=>(x.1,cj x.2))
noncomputable def eG(σ:St):St:=⟨fun l=>(σ.hp (gi l)).map eZ,fun l=>σ.us (gi l)⟩
def wF (cx:Cx)(f:dP)(as:List V)(σ:St)(Q:V→St→Prop)(X:Ex→St→Prop):Prop:=
 aQ (oi (bu f).params (bu f).dflt as) fun lv=>wB cx (bu f).body lv σ (cW Q X)
def Wk (σ τ:St):Prop:=∀l,σ.us l=true→τ.us l=true∧τ.hp l=σ.hp l
def ah:Nat→Cx
 |0,_,_,_,_,_=>False
 |d+1,f,as,σ,Q,X=>(∃τ,Wk σ τ∧wF (ah d) f as τ Q X)∨∃τ,Wk (eG σ) τ∧wF (ah d) f (fY as) τ (fun r σ=>Q (cj r) (eG σ)) fun x σ=>X x (eG σ)
open PySem in
section
noncomputable def jQ(n:Nm):Str:=match names[n]? with
 |some x=>Str.ofString x
 |none=>⟨#[2000000+n]⟩
noncomputable abbrev Nm.s(n:Nm):Str:=jQ n
abbrev Ps:=List Pos
noncomputable def hd(ps:Ps):Pos:=ps.headD ⟨0,0,0,0⟩
noncomputable abbrev tl(ps:Ps):Ps:=ps.tail
noncomputable def aS(n:String):Str:=Str.ofString n
noncomputable def toC:V→Const
 |.none => .none
 |.bool b => .bool b
 |.int i => .int i
 |.str n => .str n.s
 |.bytes l => .bytes (l.map UInt8.ofNat)
 |_ => .ellipsis
noncomputable def pW:Bo→Operator
 |.add => .Add | .sub => .Sub | .mul => .Mult | .fdiv => .FloorDiv | .mod => .Mod | .pow => .Pow
noncomputable def u5:Co→CmpOp
 |.eq => .Eq | .ne => .NotEq | .lt => .Lt | .le => .LtE | .gt => .Gt | .ge => .GtE | .is => .Is | .jM => .IsNot | .mem => .In | .qW => .NotIn
noncomputable def yz:Bi→String
 |.len=>"len" | .bytes=>"bytes" | .bB=>"bytearray" | .min=>"min" | .max=>"max" | .sorted=>"sorted" | .qX=>"list"
noncomputable def fname(f:dP):Str:=match (uU[f]?).join with
 |some n=>n.s
 |none=>aS ""
noncomputable def cname(c:jL):Str:=match ym[c]? with
 |some n=>n.s
 |none=>aS ""
noncomputable def Ex.txt:Ex→String
 |.lI=>"BadArgument" | .noRoom=>"NoRoom" | .cU=>"BadCall" | .stuck=>"Stuck"
noncomputable def pX(ps:Ps):Ki→Expr×Ps
 |.str=>(.Name (aS "str") (hd ps),tl ps)
 |.bytes=>(.Name (aS "bytes") (hd ps),tl ps)
 |.uT=>(.Tuple [.Name (aS "bytes") (hd (tl ps)),.Name (aS "bytearray") (hd (tl (tl ps)))] 0 (hd ps),tl (tl (tl ps)))
noncomputable def oj(ps:Ps):List Nm→List (Option Expr)×Ps
 |[]=>([],ps)
 |k::r=>(some (.Constant (.str k.s) 0 (hd ps))::(oj (tl ps) r).1,(oj (tl ps) r).2)
noncomputable def I6:Nat→NameKind
 |0 => .local
 |1 => .free
 |_ => .globalImplicit
noncomputable def ie(l:List (Nm×Nat)):Scope:=⟨.function,(aS ".0",.local)::l.map fun x=>(x.1.s,I6 x.2),false,false,[]⟩
mutual
noncomputable def ay:E→Ps→Expr×Ps
 |.c v,ps=>(.Constant (toC v) 0 (hd ps),tl ps)
 |.v n,ps=>(.Name n.s (hd ps),tl ps)
 |.g n,ps=>(.Name n.s (hd ps),tl ps)
 |.at e n,ps=>(.Attribute (ay e (tl ps)).1 n.s (hd ps),(ay e (tl ps)).2)
 |.ix e i,ps=>(.Subscript (ay e (tl ps)).1 (ay i (ay e (tl ps)).2).1 (hd ps),(ay i (ay e (tl ps)).2).2)
 |.pQ e lo,ps=>(.Subscript (ay e (tl ps)).1 (.Slice (some (ay lo (tl (ay e (tl ps)).2)).1) none none (hd (ay e (tl ps)).2)) (hd ps),(ay lo (tl (ay e (tl ps)).2)).2)
 |.qY e hi,ps=>(.Subscript (ay e (tl ps)).1 (.Slice none (some (ay hi (tl (ay e (tl ps)).2)).1) none (hd (ay e (tl ps)).2)) (hd ps),(ay hi (tl (ay e (tl ps)).2)).2)
 |.bin o x y,ps=>(.BinOp (ay x (tl ps)).1 (pW o) (ay y (ay x (tl ps)).2).1 (hd ps),(ay y (ay x (tl ps)).2).2)
 |.lop o _ x y,ps=>(.BinOp (ay x (tl ps)).1 (pW o) (ay y (ay x (tl ps)).2).1 (hd ps),(ay y (ay x (tl ps)).2).2)
 |.cmp x o y,ps=>(.Compare (ay x (tl ps)).1 [u5 o] [(ay y (ay x (tl ps)).2).1] (hd ps),(ay y (ay x (tl ps)).2).2)
 |.pR x o y o' z,ps=>(.Compare (ay x (tl ps)).1 [u5 o,u5 o'] [(ay y (ay x (tl ps)).2).1,(ay z (ay y (ay x (tl ps)).2).2).1] (hd ps),(ay z (ay y (ay x (tl ps)).2).2).2)
 |.an es,ps=>(.BoolOp .And (toL es (tl ps)).1 (hd ps),(toL es (tl ps)).2)
 |.or es,ps=>(.BoolOp .Or (toL es (tl ps)).1 (hd ps),(toL es (tl ps)).2)
 |.no e,ps=>(.UnaryOp .Not (ay e (tl ps)).1 (hd ps),(ay e (tl ps)).2)
 |.neg e,ps=>(.UnaryOp .USub (ay e (tl ps)).1 (hd ps),(ay e (tl ps)).2)
 |.ite t a b,ps=>(.IfExp (ay t (tl ps)).1 (ay a (ay t (tl ps)).2).1 (ay b (ay a (ay t (tl ps)).2).2).1 (hd ps),(ay b (ay a (ay t (tl ps)).2).2).2)
 |.tup es,ps=>(.Tuple (toL es (tl ps)).1 0 (hd ps),(toL es (tl ps)).2)
 |.lst _ es,ps=>(.List (toL es (tl ps)).1 (hd ps),(toL es (tl ps)).2)
 |.dct ks es,ps=>(.Dict (oj (tl ps) ks).1 (toL es (oj (tl ps) ks).2).1 (hd ps),(toL es (oj (tl ps) ks).2).2)
 |.comp _ e t it cs sc,ps=>(.ListComp (ay e (tl ps)).1 [⟨(toT t (ay e (tl ps)).2).1,(jR it (toT t (ay e (tl ps)).2).2).1,(toL cs (jR it (toT t (ay e (tl ps)).2).2).2).1,0⟩] (ie sc) (hd ps),(toL cs (jR it (toT t (ay e (tl ps)).2).2).2).2)
 |.call f es,ps=>(.Call (.Name (fname f) (hd (tl ps))) (toL es (tl (tl ps))).1 [] (hd ps),(toL es (tl (tl ps))).2)
 |.ao e m es,ps=>(.Call (.Attribute (ay e (tl (tl ps))).1 m.s (hd (tl ps))) (toL es (ay e (tl (tl ps))).2).1 [] (hd ps),(toL es (ay e (tl (tl ps))).2).2)
 |.new c es,ps=>(.Call (.Name (cname c) (hd (tl ps))) (toL es (tl (tl ps))).1 [] (hd ps),(toL es (tl (tl ps))).2)
 |.bi b es,ps=>(.Call (.Name (aS (yz b)) (hd (tl ps))) (toL es (tl (tl ps))).1 [] (hd ps),(toL es (tl (tl ps))).2)
 |.nh e k,ps=>(.Call (.Name (aS "isinstance") (hd (tl ps))) [(ay e (tl (tl ps))).1,(pX (ay e (tl (tl ps))).2 k).1] [] (hd ps),(pX (ay e (tl (tl ps))).2 k).2)
noncomputable def toL:List E→Ps→List Expr×Ps
 |[],ps=>([],ps)
 |e::r,ps=>((ay e ps).1::(toL r (ay e ps).2).1,(toL r (ay e ps).2).2)
noncomputable def jR:It→Ps→Expr×Ps
 |.e e,ps=>ay e ps
 |.fq es,ps=>(.Call (.Name (aS "range") (hd (tl ps))) (toL es (tl (tl ps))).1 [] (hd ps),(toL es (tl (tl ps))).2)
 |.enum e,ps=>(.Call (.Name (aS "enumerate") (hd (tl ps))) [(ay e (tl (tl ps))).1] [] (hd ps),(ay e (tl (tl ps))).2)
noncomputable def toT:T→Ps→Expr×Ps
 |.v n,ps=>(.Name n.s (hd ps),tl ps)
 |.at e n,ps=>(.Attribute (ay e (tl ps)).1 n.s (hd ps),(ay e (tl ps)).2)
 |.ix e i,ps=>(.Subscript (ay e (tl ps)).1 (ay i (ay e (tl ps)).2).1 (hd ps),(ay i (ay e (tl ps)).2).2)
 |.tup ts,ps=>(.Tuple (jl ts (tl ps)).1 0 (hd ps),(jl ts (tl ps)).2)
noncomputable def jl:List T→Ps→List Expr×Ps
 |[],ps=>([],ps)
 |t::r,ps=>((toT t ps).1::(jl r (toT t ps).2).1,(jl r (toT t ps).2).2)
end
noncomputable def mz(x:Ex)(q:Pos):Expr := .Name (aS x.txt) q
noncomputable def kids:Expr→List Expr
 |.Attribute e _ _ | .UnaryOp _ e _=>[e]
 |.Subscript a b _ | .BinOp a _ b _=>[a,b]
 |.Slice a b _ _=>a.toList++b.toList
 |.Compare a _ es _ | .Call a es _ _=>a::es
 |.BoolOp _ es _ | .Tuple es _ _ | .List es _=>es
 |.IfExp a b c _=>[a,b,c]
 |.Dict ks es _=>ks.filterMap id++es
 |.ListComp e gs _ _=>e::gs.flatMap fun g=>g.target::g.iter::g.ifs
 |_=>[]
noncomputable def BV:Nat→Expr→Ps
 |0,_=>[]
 |n+1,e=>e.pos::(kids e).flatMap (BV n)
noncomputable def BW:Stmt→List Expr×List Stmt
 |.Assign ts e _=>(ts++[e],[])
 |.AugAssign t _ e _=>([t,e],[])
 |.Expr e _=>([e],[])
 |.Return e _ | .Raise e _ _=>(e.toList,[])
 |.If c a b _=>([c],a++b)
 |.While c b _ _=>([c],b)
 |.For t i b _ _=>([t,i],b)
 |.Delete ts _=>(ts,[])
 |.Try b hs _ _ _=>(hs.flatMap (fun h=>match h with | .ExceptHandler t _ _ q=>t.toList.map fun t => .Attribute t (aS "") q),b++hs.flatMap (fun h=>match h with | .ExceptHandler _ _ b _=>b))
 |_=>([],[])
noncomputable def yC:Nat→Stmt→Ps
 |0,_=>[]
 |n+1,s=>s.pos::((BW s).1.flatMap (BV 30)++(BW s).2.flatMap (yC n))
mutual
noncomputable def toS:S→Ps→Stmt×Ps
 |.asg t e,ps=>(.Assign [(toT t (tl ps)).1] (ay e (toT t (tl ps)).2).1 (hd ps),(ay e (toT t (tl ps)).2).2)
 |.aug t o e,ps=>(.AugAssign (toT t (tl ps)).1 (pW o) (ay e (toT t (tl ps)).2).1 (hd ps),(ay e (toT t (tl ps)).2).2)
 |.ex e,ps=>(.Expr (ay e (tl ps)).1 (hd ps),(ay e (tl ps)).2)
 |.ret e,ps=>(.Return (some (ay e (tl ps)).1) (hd ps),(ay e (tl ps)).2)
 |.qZ,ps=>(.Return none (hd ps),tl ps)
 |.ite c a b,ps=>(.If (ay c (tl ps)).1 (dj a (ay c (tl ps)).2).1 (dj b (dj a (ay c (tl ps)).2).2).1 (hd ps),(dj b (dj a (ay c (tl ps)).2).2).2)
 |.lJ c b,ps=>(.While (ay c (tl ps)).1 (dj b (ay c (tl ps)).2).1 [] (hd ps),(dj b (ay c (tl ps)).2).2)
 |.c7 t it b,ps=>(.For (toT t (tl ps)).1 (jR it (toT t (tl ps)).2).1 (dj b (jR it (toT t (tl ps)).2).2).1 [] (hd ps),(dj b (jR it (toT t (tl ps)).2).2).2)
 |.raise x y,ps=>(.Raise (some (.Call (mz x (hd (tl (tl ps)))) [.Constant (.str y.s) 0 (hd (tl (tl (tl ps))))] [] (hd (tl ps)))) none (hd ps),tl (tl (tl (tl ps))))
 |.sO b x h,ps=>(.Try (dj b (tl (tl (tl ps)))).1 [.ExceptHandler (some (mz x (hd (tl (tl ps))))) none (dj h (dj b (tl (tl (tl ps)))).2).1 (hd (tl ps))] [] [] (hd ps),(dj h (dj b (tl (tl (tl ps)))).2).2)
 |.sQ b x h y k,ps=>(.Try (dj b (tl (tl (tl (tl (tl ps)))))).1 [.ExceptHandler (some (mz x (hd (tl (tl ps))))) none (dj h (dj b (tl (tl (tl (tl (tl ps)))))).2).1 (hd (tl ps)),
   .ExceptHandler (some (mz y (hd (tl (tl (tl (tl ps))))))) none (dj k (dj h (dj b (tl (tl (tl (tl (tl ps)))))).2).2).1 (hd (tl (tl (tl ps))))] [] [] (hd ps),(dj k (dj h (dj b (tl (tl (tl (tl (tl ps)))))).2).2).2)
 |.del e i,ps=>(.Delete [.Subscript (ay e (tl (tl ps))).1 (ay i (ay e (tl (tl ps))).2).1 (hd (tl ps))] (hd ps),(ay i (ay e (tl (tl ps))).2).2)
 |.pass,ps=>(.Pass (hd ps),tl ps)
 |.raw x,ps=>(x,ps.drop (yC 30 x).length)
 |.bad,ps=>(.Pass (hd ps),tl ps)
noncomputable def dj:List S→Ps→List Stmt×Ps
 |[],ps=>([],ps)
 |m::ms,ps=>((toS m ps).1::(dj ms (toS m ps).2).1,(dj ms (toS m ps).2).2)
end
end
open PySem PySem.W PySem.Calls PyProof.Rows
abbrev QQ:=Value→Shared→Prop
abbrev QR:=Result→Shared→Prop
abbrev QF:=Fl→Lv→St→Prop
abbrev QA:=List V→St→Prop
abbrev QB:=Bool→St→Prop
abbrev QS:=Src→St→Prop
abbrev QX:=Ex→St→Prop
abbrev QV:=V→St→Prop
abbrev QL:=Lv→St→Prop
abbrev QC:=Nat→Nat→Option Cell
abbrev QU:=Nat→Nat→Bool
abbrev QN:=Str→Option Value
abbrev QT:=Unit→Shared→Prop
section
variable{α β:Type}{C:Prop}
def bR(h:aQ o k)(f:∀a,o=some a→k a→C):C:=by
 cases o with
 |none=>exact h.elim
 |some a=>exact f a rfl h
def ig[Decidable c](h:on c a=some r)(f:c→a=r→C):C:=by
 by_cases q:c
 ·rw[on,if_pos q] at h;exact f q (aT h)
 ·rw[on,if_neg q] at h;cases h
def aX(h:o.bind g=some r)(f:∀a,o=some a→g a=some r→C):C:=by
 cases o with
 |none=>cases h
 |some a=>exact f a rfl h
def bW(h:o.map g=some r)(f:∀a,o=some a→g a=r→C):C:=by
 cases o with
 |none=>cases h
 |some a=>exact f a rfl (aT h)
def bU(h:x=none)(e:x=some a):C:=nomatch h.symm.trans e
def gj(h:∀a,x=some a→False):x=none:=by
 cases x with
 |none=>rfl
 |some a=>exact(h a rfl).elim
def cA(h:x=some a)(e:x=some b):a=b:=aT (h.symm.trans e)
def yD(h:(bif b then x else none)=some r):b=true∧x=some r:=by
 cases b with
 |false=>cases h
 |true=>exact⟨rfl,h⟩
def aE(h:(a&&b)=true):a=true∧b=true:=by
 cases a with
 |false=>exact Bool.noConfusion h
 |true=>exact⟨rfl,h⟩
def oq(h:(a&&b)=true)(f:a=true→b=true→C):C:=f (aE h).1 (aE h).2
end
section
variable{k n:Nat}{α:Type}{v:α}{r:List (Nm×α)}
def dY(h:k≠n):Nat.beq k n=false:=iC.mpr fun e=>h (cH e)
def dK(h:b=true):(bif b then x else y)=x:=h▸rfl
def cR(h:b=false):(bif b then x else y)=y:=h▸rfl
def fZ:aF ((k,v)::r) k=some v:=dK (dh k)
def dZ(h:k≠n):aF ((k,v)::r) n=aF r n:=cR (dY h)
def pY{v w:V}{r:Lv}:aB ((k,w)::r) k v=(k,v)::r:=dK (dh k)
def ou{v w:V}{r:Lv}(h:k≠n):aB ((k,w)::r) n v=(k,w)::aB r n v:=cR (dY h)
end
def oz{n:Nm}:∀{lv:Lv},aF (aB lv n x) n=some x:=by
 intro lv
 induction lv with
 |nil=>exact fZ
 |cons q r ih=>
  by_cases h:q.1=n
  ·rw[←h];exact(aa (aF · _) pY).trans fZ
  ·exact(aa (aF · n) (ou h)).trans ((dZ h).trans ih)
def rq{n m:Nm}(e:m≠n):∀{lv:Lv},aF (aB lv n x) m=aF lv m:=by
 intro lv
 induction lv with
 |nil=>exact dZ (gz e)
 |cons q r ih=>
  by_cases h:q.1=n
  ·rw[←h] at e ⊢
   exact(aa (aF · m) pY).trans ((dZ (gz e)).trans (dZ (gz e)).symm)
  ·refine(aa (aF · m) (ou h)).trans ?_
   by_cases h':q.1=m
   ·rw[←h'];exact fZ.trans fZ.symm
   ·exact(dZ h').trans (ih.trans (dZ h').symm)
section
variable{v:V}{σ:St}{l m:Loc}
def cps{p:Prop}(h:∀C:Prop,(p→C)→C):p:=h p id
def nn{C:Prop}(h:none=some a):C:=Option.noConfusion rfl (heq_of_eq h)
def sn{C:Prop}(h:some a=none):C:=nn h.symm
def ft{C:Prop}(h:false=true):C:=Bool.noConfusion h
def tf{C:Prop}(h:true=false):C:=Bool.noConfusion h
def vk{a b:V}{C:Prop}(n:Nat.beq a.kind b.kind=false)(h:a=b):C:=ft (n.symm.trans ((aa (fun v=>Nat.beq v.kind b.kind) h).trans (dh _)))
def I7{i:Int}:v.int?=some i→v = .int i:=V.casesOn v nn (fun _=>nn) (fun _ h=>aT h▸rfl) (fun _=>nn) (fun _=>nn) (fun _=>nn) (fun _=>nn) fun _=>nn
def BX{i:Nm}:v.nj=some i→v = .str i:=V.casesOn v nn (fun _=>nn) (fun _=>nn) (fun _ h=>aT h▸rfl) (fun _=>nn) (fun _=>nn) (fun _=>nn) fun _=>nn
def I8{i:List Nat}:v.uV=some i→v = .bytes i:=V.casesOn v nn (fun _=>nn) (fun _=>nn) (fun _=>nn) (fun _ h=>aT h▸rfl) (fun _=>nn) (fun _=>nn) fun _=>nn
def BY{i:List V}:v.uW=some i→v = .tup i:=V.casesOn v nn (fun _=>nn) (fun _=>nn) (fun _=>nn) (fun _=>nn) (fun _ h=>aT h▸rfl) (fun _=>nn) fun _=>nn
def pZ{i:Loc}:v.ref?=some i→v = .ref i:=V.casesOn v nn (fun _=>nn) (fun _=>nn) (fun _=>nn) (fun _=>nn) (fun _=>nn) (fun _=>nn) fun _ h=>aT h▸rfl
def BZ{l:List α}{a:α}:one l=some a→l=[a]:=by
 rcases l with _ | ⟨x,_ | ⟨y,l⟩⟩
 ·exact nn
 ·exact fun h=>aT h▸rfl
 ·exact nn
def B3{l:List α}{q:α×α}:two l=some q→l=[q.1,q.2]:=by
 rcases l with _ | ⟨x,_ | ⟨y,_ | ⟨z,l⟩⟩⟩
 ·exact nn
 ·exact nn
 ·exact fun h=>aT h▸rfl
 ·exact nn
def s7{x:List V}(h:σ.lst l=some x):σ.hp l=some (.list x):=aX h fun c e=>Cell.casesOn (motive:=fun c=>σ.hp l=some c→c.pS=some x→_) c (fun _ e h=>aT h▸e) (fun _ _=>nn) (fun _ _=>nn) (fun _ _=>nn) (fun _ _=>nn) e
def B4{x:List (Int×V)}(h:σ.dct l=some x):σ.hp l=some (.bI x):=aX h fun c e=>Cell.casesOn (motive:=fun c=>σ.hp l=some c→c.BO=some x→_) c (fun _ _=>nn) (fun _ _=>nn) (fun _ e h=>aT h▸e) (fun _ _=>nn) (fun _ _=>nn) e
def I9{x:List (Nm×V)}(h:σ.BP l=some x):σ.hp l=some (.sd x):=aX h fun c e=>Cell.casesOn (motive:=fun c=>σ.hp l=some c→c.yp=some x→_) c (fun _ _=>nn) (fun _ e h=>aT h▸e) (fun _ _=>nn) (fun _ _=>nn) (fun _ _=>nn) e
def obj_some{x:List (Nm×V)}(h:σ.obj l=some x):σ.hp l=some (.inst x):=aX h fun c e=>Cell.casesOn (motive:=fun c=>σ.hp l=some c→c.uX=some x→_) c (fun _ _=>nn) (fun _ _=>nn) (fun _ _=>nn) (fun _ _=>nn) (fun _ e h=>aT h▸e) e
def B5(h:Loc.beq l m=true):l=m:=by
 cases l;cases m
 exact oq h fun h1 h2=>(cH h1)▸(cH h2)▸rfl
def mD:Loc.beq l l=true:=by cases l;exact(g8).mpr ⟨dh _,dh _⟩
def mE(h:l≠m):Loc.beq l m=false:=iC.mpr fun e=>h (B5 e)
variable{c:Cell}
def St.jS:(σ.set l c).hp l=some c:=dK mD
def St.jT(h:m≠l):(σ.set l c).hp m=σ.hp m:=cR (mE h)
end
noncomputable def iT(k:Nat):Nat:=bif Nat.blt k 4096 then k else bif Nat.blt k 8192 then k+4096 else bif Nat.blt k 12288 then k - 4096 else k
section
variable{k n:Nat}
def rt(h:n≤k):Nat.blt k n=false:=iC.mpr fun z=>Nat.not_le_of_lt (bw z) h
def B6(h:k<4096):iT k=k:=dK (dO h)
def B7(h:4096≤k)(h2:k<8192):iT k=k+4096:=(cR (rt h)).trans (dK (dO h2))
def B8(h:8192≤k)(h2:k<12288):iT k=k - 4096:=(cR (rt (aH (by decide) h))).trans ((cR (rt h)).trans (dK (dO h2)))
def B9(h:12288≤k):iT k=k:=(cR (rt (aH (by decide) h))).trans ((cR (rt (aH (by decide) h))).trans (cR (rt h)))
def yE(h:8192≤k):4096≤k - 4096:=Nat.le_sub_of_add_le h
def yF(h:8192≤k)(h2:k<12288):k - 4096<8192:=Nat.sub_lt_right_of_lt_add (aH (by decide) h) h2
def zone{C:Nat→Nat→Prop}(lo:∀n,n<4096→C n n)(a:∀n,4096≤n→n<8192→C n (n+4096))(b:∀n,8192≤n→n<12288→C n (n - 4096))(hi:∀n,12288≤n→C n n)(n:Nat):C n (iT n):=
 (Nat.lt_or_ge n 4096).elim (fun h=>(B6 h).symm▸lo n h) fun h=>(Nat.lt_or_ge n 8192).elim (fun h2=>(B7 h h2).symm▸a n h h2) fun h=>(Nat.lt_or_ge n 12288).elim (fun h2=>(B8 h h2).symm▸b n h h2) fun h=>(B9 h).symm▸hi n h
def Ja:iT k % 64=k % 64:=zone (C:=fun n m=>m % 64=n % 64) (fun _ _=>rfl) (fun n _ _=>Nat.add_mul_mod_self_left n 64 64) (fun n h _=>Nat.sub_mul_mod (x:=n) (n:=64) (k:=64) (aH (by decide) h)) (fun _ _=>rfl) k
def Jb:iT (iT k)=k:=zone (C:=fun n m=>iT m=n) (fun _ h=>B6 h) (fun n h h2=>(B8 (kq h 4096) (Nat.add_lt_add_right h2 4096)).trans (Nat.add_sub_cancel ..))
 (fun n h h2=>(B7 (yE h) (yF h h2)).trans (Nat.sub_add_cancel (aH (by decide) h))) (fun _ h=>B9 h) k
end
def Jc:(gi l).t=l.t:=by cases l;exact Ja
def mF:gi (gi l)=l:=by obtain⟨k,i⟩:=l;exact aa (fun k=>Loc.mk k i) Jb
def yG:(fY l).length=l.length:=by
 induction l with
 |nil=>rfl
 |cons x l ih=>exact aa Nat.succ ih
def u6(v:V):cj (cj v)=v:=
 V.rec (motive_1:=fun v=>cj (cj v)=v) (motive_2:=fun l=>fY (fY l)=l) rfl (fun _=>rfl) (fun _=>rfl) (fun _=>rfl) (fun _=>rfl) (fun _ h=>aa V.tup h) (fun _ h=>aa V.fl h) (fun _=>aa V.ref mF) rfl (fun v l h h2=>(aa (fun x=>x::fY (fY l)) h).trans (aa (v::·) h2)) v
inductive Role where
 |pin (o:Obj)
 |cell (l:Loc)
 |var
 |iU (o:Obj)
 |x
structure Wd where
 aC:Addr→Option Role
 loc:Loc→Option (Addr×Addr)
abbrev QW:=Value→Wd→Shared→Prop
noncomputable abbrev lN(t:String)(items:List Value)(n:Nat):Obj:={cls := .type t,data := .seq ⟨items⟩ n}
noncomputable abbrev jm:List Value→Nat→Obj:=lN "list"
structure Wd.Le(W W':Wd):Prop where
 r:∀{a t items k},W.aC a=some (.pin (lN t items k))→W'.aC a=some (.pin (lN t items k))
 l:∀{l a},W.loc l=some a→W'.loc l=some a
structure Wd.Ge(W W':Wd):Prop where
 r:∀{a r},W.aC a=some r→W'.aC a=some r
 l:∀{l a},W.loc l=some a→W'.loc l=some a
def Wd.Ge.le{W W':Wd}(h:W.Ge W'):W.Le W':=⟨h.r,h.l⟩
def Wd.Ge.refl(W:Wd):W.Ge W:=⟨id,id⟩
def Wd.Le.refl(W:Wd):W.Le W:=⟨id,id⟩
def Wd.Ge.trans{W W' u7:Wd}(x:W.Ge W')(y:W'.Ge u7):W.Ge u7:=⟨fun e=>y.r (x.r e),fun e=>y.l (x.l e)⟩
structure PC where
 prog:Program
 w:World
 K:Frag
 base:Heap
 mg:Str→Option Value
 mb:Str→Option Value
 cls:jL→Addr
 exc:Ex→Addr
 fn:dP→Addr
noncomputable abbrev PC.M(p:PC):Model:=model p.prog p.w
noncomputable def PC.w0(p:PC):Wd:=⟨fun a=>(p.base.get? a).map .pin,fun _=>none⟩
def SeqAt(W:Wd)(t:String)(a:Addr)(items:List Value):Prop:=∃k,W.aC a=some (.pin (lN t items k))
def SeqAt.le(h:W.Le W')(x:SeqAt W t a items):SeqAt W' t a items:=x.elim fun k x=>⟨k,h.r x⟩
def iJ(W:Wd)(t:String)(n:Nat)(R:List Value→Prop)(v:Value):Prop:=∃a items,v = .ref a∧SeqAt W t a items∧n≤bz∧R items
theorem iJ.le(h:W.Le W')(x:iJ W t n R v)(k:∀items,R items→R' items):iJ W' t n R' v:=
 x.elim fun a x=>x.elim fun items x=>⟨a,items,x.1,x.2.1.le h,x.2.2.1,k _ x.2.2.2⟩
mutual
def aD (W:Wd):V→Value→Prop
 |.none,v=>v = .none
 |.bool b,v=>v = .bool b
 |.int i,v=>∃t,v = .int i t
 |.str n,v=>∃t,v = .str n.s t
 |.bytes l,v=>∃b t,v = .bytes b t∧b.toList.map UInt8.toNat=l∧l.length≤bz
 |.tup l,v=>iJ W "tuple" l.length (aN W l) v
 |.fl l,v=>iJ W "list" l.length (aN W l) v
 |.ref l,v=>∃a,v = .ref a∧(W.loc l).map Prod.fst=some a
def aN(W:Wd):List V→List Value→Prop
 |[],vs=>vs=[]
 |x::r,vs=>∃v vs',vs=v::vs'∧aD W x v∧aN W r vs'
end
section
variable{W:Wd}
def Jd(h:W.Le W')(e:(W.loc l).map Prod.fst=some a):(W'.loc l).map Prod.fst=some a:=bW e fun q e1 e2=>(aa _ (h.l e1)).trans (aa some e2)
def aD.le'(h:W.Le W')(x:V):∀v,aD W x v→aD W' x v:=
 V.rec (motive_1:=fun x=>∀v,aD W x v→aD W' x v) (motive_2:=fun l=>∀vs,aN W l vs→aN W' l vs) (fun _ e=>e) (fun _ _ e=>e) (fun _ _ e=>e) (fun _ _ e=>e) (fun _ _ e=>e)
  (fun _ ih _ e=>iJ.le h e ih) (fun _ ih _ e=>iJ.le h e ih) (fun _ _ e=>e.elim fun a e=>⟨a,e.1,Jd h e.2⟩) (fun _ e=>e)
  (fun _ _ i1 i2 _ e=>e.elim fun v e=>e.elim fun vs e=>⟨v,vs,e.1,i1 v e.2.1,i2 vs e.2.2⟩) x
def aD.le(r:aD W x v)(h:W.Le W'):aD W' x v:=aD.le' h x v r
def aN.nil:aN W [] []:=rfl
def aN.cons(a:aD W x v)(b:aN W l vs):aN W (x::l) (v::vs):=⟨v,vs,rfl,a,b⟩
@[elab_as_elim] theorem gk {x:V} {l:List V} {vs:List Value} {P:List Value→Prop} (r:aN W (x::l) vs) (k:∀v vs,aD W x v→aN W l vs→P (v::vs)):P vs:=
 r.elim fun v r=>r.elim fun vs' r=>r.1▸k v vs' r.2.1 r.2.2
theorem aN.le:∀{vs:List Value},aN W l vs→W.Le W'→aN W' l vs:=by
 induction l with
 |nil=>exact fun e _=>e
 |cons x l ih=>exact fun r h=>gk r fun v vs a b => .cons (a.le h) (ih b h)
theorem aN.length:∀{vs:List Value},aN W l vs→vs.length=l.length:=by
 induction l with
 |nil=>exact fun e=>e▸rfl
 |cons x l ih=>exact fun r=>gk r fun v vs a b=>aa Nat.succ (ih b)
def aN.get:∀{vs:List Value} {k:Nat} {x:V},aN W l vs→l[k]?=some x→∃v,vs[k]?=some v∧aD W x v:=by
 induction l with
 |nil=>exact fun _ e=>nn e
 |cons x l ih=>
  intro vs k y r
  refine gk r fun v vs a b e=>?_
  cases k with
  |zero=>exact⟨v,rfl,aT e▸a⟩
  |succ k=>exact ih (vs:=vs) (k:=k) b e
def aN.append(c:aN W m ws):∀{vs:List Value},aN W l vs→aN W (l++m) (vs++ws):=by
 induction l with
 |nil=>exact fun e=>e▸c
 |cons x l ih=>exact fun r=>gk r fun v vs a b => .cons a (ih b)
theorem aN.take:∀{vs:List Value} {k:Nat},aN W l vs→aN W (l.take k) (vs.take k):=by
 induction l with
 |nil=>intro vs k e;cases e;rw[List.take_nil,List.take_nil];exact .nil
 |cons x l ih=>exact fun{vs k} r=>gk r fun v vs a b=>Nat.casesOn k .nil fun k => .cons a (ih b)
theorem aN.drop:∀{vs:List Value} {k:Nat},aN W l vs→aN W (l.drop k) (vs.drop k):=by
 induction l with
 |nil=>intro vs k e;cases e;rw[List.drop_nil,List.drop_nil];exact .nil
 |cons x l ih=>exact fun{vs k} r=>gk r fun v vs a b=>Nat.casesOn k (.cons a b) fun k=>ih b
theorem aN.set(c:aD W y w):∀{vs:List Value} {k:Nat},aN W l vs→aN W (l.set k y) (vs.set k w):=by
 induction l with
 |nil=>exact fun e=>e ▸ .nil
 |cons x l ih=>exact fun{vs k} r=>gk r fun v vs a b=>Nat.casesOn k (.cons c b) fun k => .cons a (ih b)
theorem aN.dropLast(h:aN W l vs):aN W l.dropLast vs.dropLast:=by
 rw[List.dropLast_eq_take,List.dropLast_eq_take,h.length];exact h.take
end
def fK (P:Params)(W:Wd):List (Nm×V)→List DictEntry→Prop
 |[],es=>es=[]
 |q::r,es=>∃t v es',es=⟨PyData.keyHash P q.1.s,.str q.1.s t,v⟩::es'∧aD W q.2 v∧fK P W r es'
def eW {α κ:Type}(k:α→κ)(W:Wd):List (α×V)→List (κ×Value)→Prop
 |[],es=>es=[]
 |q::r,es=>∃v es',es=(k q.1,v)::es'∧aD W q.2 v∧eW k W r es'
abbrev jU:Wd→List (Nm×V)→List (Str×Value)→Prop:=eW Nm.s
abbrev s8:Wd→List (Int×V)→List (Int×Value)→Prop:=eW id
section
@[elab_as_elim] theorem ru {q:Nm×V} {r:List (Nm×V)} {es:List DictEntry} {C:List DictEntry→Prop} (x:fK P W (q::r) es) (f:∀t v es',aD W q.2 v→fK P W r es'→C (⟨PyData.keyHash P q.1.s,.str q.1.s t,v⟩::es')):C es:=
 x.elim fun t x=>x.elim fun v x=>x.elim fun es' x=>x.1▸f t v es' x.2.1 x.2.2
@[elab_as_elim] theorem ny {q:α×V} {r:List (α×V)} {es:List (κ×Value)} {C:List (κ×Value)→Prop} (x:eW k W (q::r) es) (f:∀v es',aD W q.2 v→eW k W r es'→C ((k q.1,v)::es')):C es:=
 x.elim fun v x=>x.elim fun es' x=>x.1▸f v es' x.2.1 x.2.2
theorem fK.le(h:W.Le W'):∀{es:List DictEntry},fK P W l es→fK P W' l es:=by
 induction l with
 |nil=>exact id
 |cons q r ih=>exact fun x=>ru x fun t v es a b=>⟨t,v,es,rfl,a.le h,ih b⟩
theorem eW.le(h:W.Le W'):∀{es:List (κ×Value)},eW k W l es→eW k W' l es:=by
 induction l with
 |nil=>exact id
 |cons q r ih=>exact fun x=>ny x fun v es a b=>⟨v,es,rfl,a.le h,ih b⟩
theorem eW.length:∀{es:List (κ×Value)},eW k W l es→es.length=l.length:=by
 induction l with
 |nil=>exact fun e=>e▸rfl
 |cons q r ih=>exact fun x=>ny x fun v es a b=>aa Nat.succ (ih b)
end
noncomputable abbrev dR(b:Array UInt8):Obj:={cls := .type "bytearray",data := .bytearray b 0}
def ir (p:PC)(W:Wd)(h:Heap)(l:Loc)(a d:Addr):Cell→Prop
 |.list vs=>∃items n,h.get? a=some (jm items n)∧aN W vs items∧vs.length≤bz
 |.sd x=>∃kvs,h.DictOf (strKind p.prog p.w) a kvs∧jU W x kvs∧x.length≤bz
 |.bI x=>∃kvs,h.DictOf (intKind p.prog p.w) a kvs∧s8 W x kvs∧x.length≤bz
 |.bB b=>∃bs,h.get? a=some (dR bs)∧bs.toList.map UInt8.toNat=b∧b.length≤bz
 |.inst fs=>∃c es n,cls? l.t=some c∧(h.get? a=some (instObj (p.cls c) d)∧h.get? d=some (dictOf es n))∧fK p.w.params W fs es∧fs.length≤900∧∀q∈fs,fX c q.1=true
section
variable{h h':Heap}
def Ca{K:Type}[DecidableEq K]{knd:KeyKind prog w K}{kvs:List (K×Value)}(x:h.DictOf knd a kvs)(k:∀o,h.get? a=some o→h'.get? a=some o):h'.DictOf knd a kvs:=
 x.elim fun o x=>x.elim fun es x=>x.elim fun ep x=>⟨o,es,ep,k _ x.1,x.2⟩
def ir.keep(le:W.Le W')(ka:∀o,h.get? a=some o→h'.get? a=some o)(kd:∀o,h.get? d=some o→h'.get? d=some o):ir p W h l a d c→ir p W' h' l a d c:=by
 cases c with
 |list _=>exact fun x=>x.elim fun i x=>x.elim fun n x=>⟨i,n,ka _ x.1,x.2.1.le le,x.2.2⟩
 |sd _=>exact fun x=>x.elim fun i x=>⟨i,Ca x.1 ka,x.2.1.le le,x.2.2⟩
 |bI _=>exact fun x=>x.elim fun i x=>⟨i,Ca x.1 ka,x.2.1.le le,x.2.2⟩
 |bB _=>exact fun x=>x.elim fun i x=>⟨i,ka _ x.1,x.2⟩
 |inst _=>exact fun x=>x.elim fun c x=>x.elim fun es x=>x.elim fun n x=>⟨c,es,n,x.1,⟨ka _ x.2.1.1,kd _ x.2.1.2⟩,x.2.2.1.le le,x.2.2.2⟩
end
structure FC where
 A:Around
 env:Env
 frs:List Env
 fr:Addr
 lvl:Nat
 own:Bool
structure bA(p:PC)(f:FC):Prop where
 frames:f.A.frames=some f.frs
 head:∃e r,f.frs=e::r∧e.frame=some f.fr∧e.scope.isGenerator=false∧e.scope.isCoroutine=false∧e.builtins=builtinsNs∧e.globals=mainGlobals
 aG:f.A.depth+15 * f.lvl+150<recursionLimit
 units:f.A.units+60 * f.lvl+200<cLine
 handled:f.A.handled=none
 cellsOf:∀{n},(f.env.kindOf n=some .cell∨f.env.kindOf n=some .free)→∃c,f.env.cells.lookup n=some c
 frame:f.env.frame=some f.fr
 kind:f.env.scope.kind = .function
 globals:f.env.globals=mainGlobals
 builtins:f.env.builtins=builtinsNs
 apart:(f.env.locals::f.env.cells.map (·.2)).Nodup
def p7(W:Wd)(env:Env)(m:QN)(h:Heap)(n:Nm)(x:V):Prop:=
 ∃v,aD W x v∧(env.kindOf n.s=some .local→m n.s=some v)∧(env.kindOf n.s=some .cell∨env.kindOf n.s=some .free→∃c,env.cells.lookup n.s=some c∧h.IsCell c (some v))
def gH (W:Wd)(env:Env)(lv:Lv)(h:Heap):Prop:=∃m,h.Ns env.locals m∧∀n x,aF lv n=some x→p7 W env m h n x
def rz(o:Obj):Prop:=∀vs,o.data ≠ .fields vs
def lO:Role→Obj→Prop
 |.pin o,ob=>ob=o
 |.cell _,_=>True
 |.var,ob=>rz ob
 |.iU o,ob=>rz o∧∃sl,ob={o with slots:=sl}
 |.x,_=>True
noncomputable def Role.code:Role→Nat
 |.pin _=>0
 |.cell _=>1
 |.var=>2
 |.iU _=>3
 |.x=>4
noncomputable def Role.isFrame(r:Role):Bool:=Nat.beq r.code 2||Nat.beq r.code 3
structure Inv(p:PC)(f:FC)(W:Wd)(lv:Lv)(σ:St)(s:Shared):Prop where
 aC:∀{a r},W.aC a=some r→∃o,s.heap.get? a=some o∧lO r o
 pins:∀{a o},p.base.get? a=some o→W.aC a=some (.pin o)
 loc:∀{l q},W.loc l=some q→(W.aC q.1=some (.cell l)∧W.aC q.2=some (.cell l))∧σ.us l=true
 cell:∀{l q c},W.loc l=some q→σ.hp l=some c→ir p W s.heap l q.1 q.2 c
 vars:gH W f.env lv s.heap
 var:W.aC f.env.locals=some .var
 cells:∀x∈f.env.cells,(W.aC x.2=some .var∨(f.own=false∧∃o,W.aC x.2=some (.iU o)))∧∃v,s.heap.IsCell x.2 v
 frs:∀e∈f.frs,∃L r,e.frame=some L∧e.scope.kind ≠ .module∧W.aC L=some r∧r.isFrame=true
 above:p.base.objs.size≤f.env.locals
structure Step(W:Wd)(s:Shared)(W':Wd)(s':Shared):Prop where
 ge:W.Ge W'
 keep:∀{a o},W.aC a=none→s.heap.get? a=some o→s'.heap.get? a=some o
 new:∀{a r},W.aC a=none→W'.aC a=some r→s.heap.get? a=none
 g:s'.gens=s.gens
 os:s'.os=s.os
section
variable{W W':Wd}
theorem Step.le(st:Step W s W' s'):W.Le W':=st.ge.le
theorem Step.refl(W:Wd)(s:Shared):Step W s W s:=⟨.refl W,fun _ e=>e,fun n e=>bU n e,rfl,rfl⟩
theorem Step.trans(x:Step W s W' s')(y:Step W' s' u7 s''):Step W s u7 s'':=
 ⟨x.ge.trans y.ge,fun{a o} n e=>y.keep (gj fun r h=>bU (x.new n h) e) (x.keep n e),fun{a r} n e=>gj fun o h=>by
  cases q:W'.aC a with
  |some r'=>exact bU (x.new n q) h
  |none=>exact bU (y.new q e) (x.keep n h),y.g.trans x.g,y.os.trans x.os⟩
def Step.keeps(k:∀b o,s.heap.get? b=some o→s'.heap.get? b=some o)(g:s'.gens=s.gens)(o:s'.os=s.os):Step W s W s':=⟨.refl W,fun _=>k _ _,fun n e=>bU n e,g,o⟩
def Step.p8(h:s'.heap=s.heap)(g:s'.gens=s.gens)(o:s'.os=s.os):Step W s W s' := .keeps (fun _ _ e=>h▸e) g o
def lP{h h':Heap}{c:Addr}(x:h.IsCell c v)(k:∀o,h.get? c=some o→h'.get? c=some o):h'.IsCell c v:=x.elim fun o x=>⟨o,k _ x.1,x.2⟩
def Cb{h h':Heap}(x:h.Ns a m)(k:∀o,h.get? a=some o→h'.get? a=some o):h'.Ns a m:=x.elim fun o x=>x.elim fun es x=>x.elim fun ep x=>⟨o,es,ep,k _ x.1,x.2⟩
def jn{α β:Type}[BEq α][LawfulBEq α]{x:α}{y:β}{l:List (α×β)}(e:l.lookup x=some y):(x,y)∈l:=by
 induction l with
 |nil=>exact nn e
 |cons q r ih=>
  rw[pP] at e
  cases h:x==q.1 with
  |true=>rw[h] at e;rw[eq_of_beq h,←aT e];exact .head _
  |false=>rw[h] at e;exact .tail _ (ih e)
def gH.keep(x:gH W env lv h)(le:W.Le W')(kn:∀m,h.Ns env.locals m→h'.Ns env.locals m)(k:∀c v,(∃n,(n,c)∈env.cells)→h.IsCell c v→h'.IsCell c v):gH W' env lv h':=
 x.elim fun m x=>⟨m,kn m x.1,fun n y hy=>(x.2 n y hy).elim fun v q=>⟨v,q.1.le le,q.2.1,fun hk=>(q.2.2 hk).elim fun c z=>⟨c,z.1,k c _ ⟨_,jn z.1⟩ z.2⟩⟩⟩
def gH.keeps{env:Env}(x:gH W env lv h)(le:W.Le W')(k:∀b o,h.get? b=some o→h'.get? b=some o):gH W' env lv h':=x.keep le (fun _ h=>Cb h (k _)) fun _ _ _ h=>lP h (k _)
def Je(r:∀{a r},W.aC a=some r→W'.aC a=some r)(h:W.aC a=some .var∨(own=false∧∃o,W.aC a=some (.iU o))):W'.aC a=some .var∨(own=false∧∃o,W'.aC a=some (.iU o)):=h.imp r fun h=>h.imp id fun h=>h.elim fun o h=>⟨o,r h⟩
def Inv.keeps'(I:Inv p f W lv σ s)(k:∀b o,s.heap.get? b=some o→s'.heap.get? b=some o)(le:W.Ge W')(hr:∀{a r},W.aC a=none→W'.aC a=some r→∃o,s'.heap.get? a=some o∧lO r o)
  (hl:∀{l q},W'.loc l=some q→(W'.aC q.1=some (.cell l)∧W'.aC q.2=some (.cell l))∧σ'.us l=true) (hc:∀{l q c},W'.loc l=some q→σ'.hp l=some c→ir p W' s'.heap l q.1 q.2 c):Inv p f W' lv σ' s':=
 ⟨fun{a r} e=>by
  cases q:W.aC a with
  |none=>exact hr q e
  |some r'=>
   obtain rfl:=cA (le.r q) e
   exact(I.aC q).elim fun o h=>⟨o,k _ _ h.1,h.2⟩,fun e=>le.r (I.pins e),hl,hc,I.vars.keeps le.le k,le.r I.var,fun x hx=>(I.cells x hx).imp (Je le.r) fun h=>h.elim fun v h=>⟨v,lP h (k _)⟩,
  fun e he=>(I.frs e he).elim fun L h=>h.elim fun r h=>⟨L,r,h.1,h.2.1,le.r h.2.2.1,h.2.2.2⟩,I.above⟩
def Inv.keeps(I:Inv p f W lv σ s)(k:∀b o,s.heap.get? b=some o→s'.heap.get? b=some o):Inv p f W lv σ s':=
 I.keeps' k (.refl W) (fun n e=>bU n e) I.loc fun e h=>(I.cell e h).keep (.refl W) (k _) (k _)
def Inv.p8(I:Inv p f W lv σ s)(h:s'.heap=s.heap):Inv p f W lv σ s':=I.keeps fun _ _ e=>h▸e
def Inv.free(I:Inv p f W lv σ s)(h:s.heap.get? a=none):W.aC a=none:=gj fun r e=>(I.aC e).elim fun o q=>bU h q.1
def gK(h:Heap):h.get? h.objs.size=none:=gj fun _ q=>jh _ (iF q)
def Inv.Cc(I:Inv p f W lv σ s):p.w0.Le W:=⟨fun e=>bW e fun o e1 e2=>(I.pins e1).trans (aa some e2),nn⟩
theorem Inv.base(I:Inv p f W lv σ s)(e:p.base.get? a=some o):s.heap.get? a=some o:=(I.aC (I.pins e)).elim fun o' h=>h.1.trans (aa some h.2)
def Inv.stays(I:Inv p f W lv σ s):p.base.StaysIn s.heap:=fun _ _ e=>I.base e
def Inv.p9(I:Inv p f W lv σ s)(h:W.aC a=some r)(n:Nat.beq r.code 0=false):p.base.get? a=none:=gj fun o e=>eE (n.symm.trans (aa (fun r=>Nat.beq r.code 0) (cA h (I.pins e))))
def u9{h:Heap}(x:h.Ns a m):∃o,h.get? a=some o∧lO .var o:=x.elim fun o x=>x.elim fun es x=>x.elim fun ep x=>⟨o,x.1,fun vs e=>nomatch x.2.1.symm.trans e⟩
def Cd{h:Heap}(x:h.Ns a m)(y:h.Ns a m'):m=m':=by
 obtain⟨o,es,ep,ho,hd,_,e⟩:=x
 obtain⟨o',es',WU,ho',hd',_,e'⟩:=y
 rw[ho] at ho';cases ho';rw[hd] at hd';cases hd'
 exact funext fun y=>(e y).symm.trans (e' y)
def Inv.chg(I:Inv p f W lv σ s)(hb:W.aC b=some r)(k:∀{a o},a≠b→a≠f.env.locals→s.heap.get? a=some o→s'.heap.get? a=some o)(hx:b≠f.env.locals→∃o,s'.heap.get? b=some o∧lO r o)
  (hv:gH W f.env lv' s'.heap) (hq:∀x∈f.env.cells,∃v,s'.heap.IsCell x.2 v) (hu:σ'.us=σ.us) (hc:∀{l q c},W.loc l=some q→σ'.hp l=some c→ir p W s'.heap l q.1 q.2 c):Inv p f W lv' σ' s':=
 ⟨fun{a r'} e=>by
  by_cases y:a=f.env.locals
  ·subst y
   obtain rfl:=cA I.var e
   exact hv.elim fun m h=>u9 h.1
  ·by_cases z:a=b
   ·subst z
    obtain rfl:=cA hb e
    exact hx y
   ·exact(I.aC e).elim fun o h=>⟨o,k z y h.1,h.2⟩,I.pins,fun e=>⟨(I.loc e).1,hu▸(I.loc e).2⟩,hc,hv,I.var,fun x hx=>⟨(I.cells x hx).1,hq x hx⟩,I.frs,I.above⟩
def yH(h:W.aC a=some r)(h':W.aC b=some r')(n:r≠r'):a≠b:=fun z=>n (cA (z▸h) h')
def yI{r r':Role}(n:Nat.beq r.code r'.code=false):r≠r':=fun e=>by rw[e,dh] at n;exact tf n
def kF(h:W.aC a=some r)(h':W.aC b=some r')(n:Nat.beq r.code r'.code=false):a≠b:=yH h h' (yI n)
def Step.chg(I:Inv p f W lv σ s)(hb:W.aC b=some r)(k:∀{a o},a≠b→a≠f.env.locals→s.heap.get? a=some o→s'.heap.get? a=some o)(g:s'.gens=s.gens)(o:s'.os=s.os):Step W s W s':=
 ⟨.refl W,fun n e=>k (fun z=>bU (z▸n) hb) (fun z=>bU (z▸n) I.var) e,fun n e=>bU n e,g,o⟩
def s9(ok:bA p f):∀x∈f.env.cells,x.2≠f.env.locals:=fun x hx z=>(fO.mp ok.apart).1 (z▸bP.mpr ⟨x,hx,rfl⟩)
def Inv.bC(ok:bA p f)(I:Inv p f W lv σ s)(hl:W.loc l=some q)(hb:b=q.1∨b=q.2)(k:∀{a o},a≠b→a≠f.env.locals→s.heap.get? a=some o→s'.heap.get? a=some o)(kn:∀m,s.heap.Ns f.env.locals m→s'.heap.Ns f.env.locals m)
  (hx:∃o,s'.heap.get? b=some o) (hc:ir p W s'.heap l q.1 q.2 c') (g:s'.gens=s.gens) (o:s'.os=s.os):Inv p f W lv (σ.set l c') s'∧Step W s W s':=by
 have rb:W.aC b=some (.cell l):=hb.elim (fun e=>e▸(I.loc hl).1.1) fun e=>e▸(I.loc hl).1.2
 have kr:∀{a r},W.aC a=some r→r ≠ .cell l→a≠f.env.locals→∀o,s.heap.get? a=some o→s'.heap.get? a=some o:=fun ha n y o e=>k (yH ha rb n) y e
 have kc:∀{x},x∈f.env.cells→∀o,s.heap.get? x.2=some o→s'.heap.get? x.2=some o:=fun{x} hx=>(I.cells x hx).1.elim (fun h=>kr h (yI rfl) (s9 ok x hx)) fun h=>h.2.elim fun o h=>kr h (yI rfl) (s9 ok x hx)
 refine⟨I.chg rb k (fun _=>hx.elim fun o e=>⟨o,e,trivial⟩) (I.vars.keep (.refl W) kn fun c v hc h=>hc.elim fun n hc=>lP h (kc hc))
  (fun x hx=>(I.cells x hx).2.elim fun v h=>⟨v,lP h (kc hx)⟩) rfl fun{m q' c₁} e h=>?_,.chg I rb k g o⟩
 by_cases z:m=l
 ·subst z
  obtain rfl:=cA hl e
  obtain rfl:=cA St.jS h
  exact hc
 ·have n:Role.cell m ≠ .cell l:=fun w=>z (by injection w)
  exact(I.cell e ((St.jT z).symm.trans h)).keep (.refl W) (kr (I.loc e).1.1 n (kF (I.loc e).1.1 I.var rfl)) (kr (I.loc e).1.2 n (kF (I.loc e).1.2 I.var rfl))
def Inv.Ce(ok:bA p f)(I:Inv p f W lv σ s)(hl:W.loc l=some q)(ha:a=q.1)(hs:Heap.SameBut a s.heap h')(hx:∃o,h'.get? a=some o)(hc:ir p W h' l q.1 q.2 c'):
  Inv p f W lv (σ.set l c') {s with heap:=h',toks:=tk}∧Step W s W {s with heap:=h',toks:=tk}:=
 I.bC (s':={s with heap:=h',toks:=tk}) ok hl (.inl ha) (fun n _ e=>(hs.2 _ n).trans e) (fun m h=>h.sameBut hs fun z=>kF (I.loc hl).1.1 I.var rfl (ha▸z.symm)) hx hc rfl rfl
end
noncomputable def oA:List String:=Builtin.Bytes.decodersThatHold++["bytearray.__contains__","bytearray.__mod__","bytearray.__rmod__","_struct.pack_into.held","bytearray.find.held"]
noncomputable def oB:Code→Bool
 |.builtin id _=>oA.contains id
 |_=>false
def tg(l:List (Code×Pos)):Prop:=∀x∈l,oB x.1=false
def av{α:Type}(M:Model)(A:Around)(t:Sem α)(Q:α→Shared→Prop)(E:QQ)(s:Shared):Prop:=
 ∀Γ p,Γ.In A→oB Γ.code=false→tg Γ.below→Sem.wp M Γ t (fun a _ s'=>Q a s') (fun e _ s'=>E e s') p s
def dM(M:Model)(A:Around)(c:Code)(R:QR)(s:Shared):Prop:=
 ∀Γ p,Γ.code=c→Γ.Below A→tg Γ.below→wpCode M Γ R p s
section
variable{E:QQ}
def of(h:PySem.wpAny M A t Q E s):av M A t Q E s:=fun Γ p hΓ _ _=>h Γ p hΓ
def Cf(h:PySem.codeAny M A c R s):dM M A c R s:=fun Γ p hc hΓ _=>h Γ p hc hΓ
def aV(h:Q a s):av M A (pure a) Q E s:=fun _ _ _ _ _=>h
def WV(h:E e s):av M A (throw e:Sem α) Q E s:=fun _ _ _ _ _=>h
def bF(h:av M A t Q E s)
  (hQ:∀a s,Q a s→Q' a s) (hE:∀e s,E e s→E' e s):av M A t Q' E' s:=
 fun Γ p h1 h2 h3=>Sem.wp_mono M Γ t (fun a _ s=>hQ a s) (fun e _ s=>hE e s) p s (h Γ p h1 h2 h3)
def ai(h:av M A m (fun a s'=>av M A (f a) Q E s') E s):
  av M A (m>>=f) Q E s:=fun Γ p h1 h2 h3=>by
 rw[Sem.wp_bind']
 exact Sem.wp_mono M Γ m (fun a p' s' h'=>h' Γ p' h1 h2 h3) (fun _ _ _ h'=>h') p s (h Γ p h1 h2 h3)
def WX(h:av M A m Q (fun e s'=>av M A (k e) Q E s') s):
  av M A (tryCatch m k) Q E s:=fun Γ p h1 h2 h3=>by
 rw[Sem.wp_tryCatch']
 exact Sem.wp_mono M Γ m (fun _ _ _ h'=>h') (fun e p' s' h'=>h' Γ p' h1 h2 h3) p s (h Γ p h1 h2 h3)
def oE
  (h:av M A m Q (fun e s'=>av M A (k e) (fun _ s''=>E e s'') E s') s):av M A (m.onRaise k) Q E s:=fun Γ p h1 h2 h3=>by
 rw[Sem.wp_onRaise]
 exact Sem.wp_mono M Γ m (fun _ _ _ h'=>h') (fun e p' s' h'=>h' Γ p' h1 h2 h3) p s (h Γ p h1 h2 h3)
def yJ{Q:Except Value α→Shared→Prop}(h:av M A m (fun a=>Q (.ok a)) (fun e=>Q (.error e)) s):
  av M A m.attempt Q E s:=fun Γ p h1 h2 h3=>by rw[Sem.wp_attempt];exact h Γ p h1 h2 h3
def c8(h:av M A m Q E s):av M A (holding vs m) Q E s:=
 fun Γ p h1 h2 h3=>by rw[Sem.wp_holding];exact h Γ p h1 h2 h3
def Cg(h:av M A m Q E s):av M A (operate vs m) Q E s:=
 fun Γ p h1 h2 h3=>by rw[Sem.wp_operate];exact h Γ p h1 h2 h3
def Ci(h:av M A (storeName env x v) Q E s):av M A (bindName env x v) Q E s:=
 fun Γ p h1 h2 h3=>by rw[Sem.wp_bindName];exact h Γ p h1 h2 h3
def Jf[Decidable c](h:if c then av M A a Q E s else av M A b Q E s):
  av M A (if c then a else b) Q E s:=by
 by_cases z:c
 ·rw[if_pos z] at h ⊢;exact h
 ·rw[if_neg z] at h ⊢;exact h
def Cj[Decidable c](ha:c→av M A a Q E s)(hb:¬c→av M A b Q E s):
  av M A (if c then a else b) Q E s:=by
 by_cases h:c
 ·rw[if_pos h];exact ha h
 ·rw[if_neg h];exact hb h
def kG(h:c=false)(k:av M A y Q E s):av M A (if c=true then x else y) Q E s:=by subst h;exact k
def Jg(h:c=true)(k:av M A x Q E s):av M A (if c=true then x else y) Q E s:=by subst h;exact k
def Ck[Decidable c](h:¬c)(k:av M A y Q E s):av M A (if c then x else y) Q E s:=by rw[if_neg h];exact k
def Jh[Decidable c](h:c)(k:av M A x Q E s):av M A (if c then x else y) Q E s:=by rw[if_pos h];exact k
def vc(h:Q () s):av M A (PySem.rule tag) Q E s:=fun _ _ _ _ _=>h
def iV(h:Q () s):av M A (standAt pos) Q E s:=fun _ _ _ _ _=>h
def yK(h:Q () s):av M A point Q E s:=of (PySem.wpAny_point h)
def jV(h:t=pure a)(hQ:Q a s):av M A t Q E s:=h▸aV hQ
def Ji[Decidable c](h:av M A (k ()) Q E s):
  av M A (if c then(standAt pos>>=k) else k ()) Q E s:=by
 by_cases z:c
 ·rw[if_pos z];exact ai (iV h)
 ·rw[if_neg z];exact h
def Cm(h:Q () s):av M A (release vs keep) Q E s:=fun Γ p _ _ _=>by
 rw[Sem.wp_release];exact h
def Looks.WY(x:Looks M s.heap t r)(q:Q r s):av M A t Q E s:=of (x.here q)
def Jj(h:av M A m Q (notedBy M A env E) s):av M A (m.onRaise fun x=>do noteFrame x env;theTreesLotGoes x) Q E s:=
 oE (bF h (fun _ _ q=>q) fun _ _ hx=>ai (bF (of hx) (fun _ _ e=>of (PySem.wpAny_theTreesLotGoes e)) fun _ _ e=>e))
def Jk(h:av M A m Q (notedBy M A env E) s):
  av M A (m.onRaise fun x=>do noteFrame x env;standAt pos) Q E s:=
 oE (bF h (fun _ _ q=>q) fun _ _ hx=>ai (bF (of hx) (fun _ _ e=>iV e) fun _ _ e=>e))
def yL{Γ:Ctx}(h1:oB Γ.code=false)(h2:tg Γ.below)(p:Pos):tg ((Γ.code,p)::Γ.below):=fun x hx=>by
 rcases cS.mp hx with rfl | hx
 ·exact h1
 ·exact h2 x hx
def yM(hnb:h≠some byPass)
  (hc:dM M (A.mark h) c (fun r s'=>match r with | .ok f=>Q f s' | .error e=>E e s') s):
  av M A (run c h) Q E s:=
 fun Γ p h1 h2 h3=>by rw[Sem.wp_run];exact hc _ p rfl (h1.enter c h p hnb) (yL h2 h3 p)
def Jl
  (hc:dM M A c (fun r s'=>match r with | .ok (.ret v)=>Q v s' | .ok _=>False | .error e=>E e s') s):
  av M A (runValue c) Q E s:=fun Γ p h1 h2 h3=>by rw[Sem.wp_runValue];exact hc _ p rfl (h1.enter c none p (by intro x;exact nn x)) (yL h2 h3 p)
def nA
  (hc:dM M A (.call f ⟨pos,kw⟩) (fun r s'=>match r with | .ok (.ret v)=>Q v s' | .ok _=>False | .error e=>E e s') s):
  av M A (call f pos kw) Q E s:=Jl hc
def Cp(h:dM M A c R s)(hR:∀r s,R r s→R' r s):dM M A c R' s:=
 fun Γ p hc hΓ h3=>wpCode_mono hR (h Γ p hc hΓ h3)
def WZ(h:dM M A.in1 c R s):dM M A c R s:=
 fun Γ p hc hΓ h3=>h Γ p hc ⟨hΓ.1,hΓ.2.1,hΓ.2.2.1,hΓ.2.2.2.1,g9 hΓ.2.2.2.2⟩ h3
def kH(ho:oB c=false)
  (h:av M (A.under c) (M.den c) (fun fin s'=>match fin with | .done f=>R (.ok f) s' | .again c'=>c'.quiet=true∧dM M A c' R s')
   (fun e s'=>R (.error e) s') s):dM M A c R s:=fun Γ p hc hΓ h3=>by
 rw[wpCode_iff_wp,hc]
 refine Sem.wp_mono M Γ _ (fun fin p' s' h'=>?_) (fun _ _ _ h'=>h') p s (h Γ p (hc▸hΓ.in) (hc▸ho) h3)
 cases fin with
 |done f=>exact h'
 |again c'=>exact⟨h'.1,h'.2 (Γ.goto c') p' rfl (hΓ.goto c') h3⟩
def Jm(ho:oB c=false)(hq:c.quiet=true)(I:Nat→Shared→Prop)
  (bC:∀n s,I n s→av M (A.under c) (M.den c)
   (fun fin s'=>match fin with | .done f=>R (.ok f) s' | .again c'=>c'=c∧∃m,m<n∧I m s') (fun e s'=>R (.error e) s') s)
  (n:Nat) (h:I n s):dM M A c R s:=by
 induction n using Nat.strongRecOn generalizing s with
 |ind n ih=>
  refine kH ho (bF (bC n s h) (fun fin s' hf=>?_) fun _ _ h'=>h')
  cases fin with
  |done f=>exact hf
  |again c'=>obtain⟨rfl,m,hm,hI⟩:=hf;exact⟨hq,ih m hm hI⟩
def Cq(ho:oB c=false)(hq:c.quiet=true)(I:Nat→Shared→Prop)
  (bC:∀n s,I n s→av M (A.under c) (M.den c)
   (fun fin s'=>match fin with | .done f=>R (.ok f) s' | .again c'=>(c'=c∧∃m,m<n∧I m s')∨(c'.quiet=true∧dM M A c' R s')) (fun e s'=>R (.error e) s') s)
  (n:Nat) (h:I n s):dM M A c R s:=by
 induction n using Nat.strongRecOn generalizing s with
 |ind n ih=>
  refine kH ho (bF (bC n s h) (fun fin s' hf=>?_) fun _ _ h'=>h')
  cases fin with
  |done f=>exact hf
  |again c'=>
   rcases hf with⟨rfl,m,hm,hI⟩ | hf
   ·exact⟨hq,ih m hm hI⟩
   ·exact hf
def Cr{lower upper step:Option Expr}
  (h:av M A (evalPart lower env) (fun l s₁=>av M A (evalPart upper env) (fun u s₂=>av M A (evalPart step env) (fun st s₃=>
   Q (.ref s₃.heap.objs.size) {s₃ with heap:=s₃.heap.push {cls := .type "slice",data := .fields #[l,u,st]}}) E s₂) E s₁) E s):
  av M A (eval (.Slice lower upper step p) env) Q E s:=by
 rw[arm_eval_Slice]
 exact ai (bF h (fun l s₁ h₁=>ai (c8 (bF h₁ (fun u s₂ h₂=>ai (c8 (bF h₂ (fun st s₃ h₃=>of (wpAny_newObj_type h₃)) fun _ _ x=>x))) fun _ _ x=>x))) fun _ _ x=>x)
def qb{id:Str}
  (h:av M A (eval (.Name id p) env) (fun f s₁=>av M A (callWith pos f [] (backTo pos (starEach args env)) []) Q E s₁) E s):
  av M A (eval (.Call (.Name id p) args [] pos) env) Q E s:=by
 exact ai h
def callWith_of{P:Heap→Prop}(hplain:(args.any (·.1)||keywords.any (·.1.isNone))=false)
  (hk:∀h,P h→∃k,(k=Keeper.frame∨k=Keeper.machine∨k=Keeper.boundFrame)∧Looks M h (keeperOf f) k)
  (h:av M A (evalArgs f true args keywords) (fun a s₁=>P s₁.heap∧av M A (call f (first++a.pos) a.kw) Q E s₁) E s):av M A (callWith pos f first args keywords) Q E s:=by
 refine ai (c8 (bF h (fun a s₁ h₁=>ai (iV ?_)) fun _ _ x=>x))
 obtain⟨k,hk',L⟩:=hk _ h₁.1
 rw[hplain]
 refine ai (of (L.here ?_))
 have tail:∀{t:Sem Value},av M A t Q E s₁→av M A (t>>=fun r=>holding [r] point>>=fun _=>pure r) Q E s₁:=
  fun ht=>ai (bF ht (fun r s₂ hr=>ai (c8 (yK (aV hr)))) fun _ _ x=>x)
 have marked (mk:Value):av M A (callMarked mk f (first++a.pos) a.kw) Q E s₁:=by
  unfold callMarked
  exact fun Γ p h1 h2 h3=>by rw[Sem.wp_keep];exact h₁.2 Γ p h1 h2 h3
 rcases hk' with rfl | rfl | rfl
 ·exact Cj (fun _=>tail h₁.2) fun _=>tail (marked _)
 ·exact tail h₁.2
 ·exact Cj (fun _=>tail h₁.2) fun _=>tail (marked _)
def evalArgs_plain
  (h:av M A (spliced ((false,x)::rest)) (fun vs s'=>Q ⟨vs,[]⟩ s') E s):av M A (evalArgs f true ((false,x)::rest) []) Q E s:=by
 exact ai (bF h (fun vs s' h'=>c8 (ai (aV (ai (aV (aV h')))))) fun _ _ x=>x)
def Jo(h:av M A (loadName env x) Q E s)(hd:(x==("__debug__":Str))=false):
  av M A (eval (.Name x pos) env) Q E s:=by
 rw[eval_Name env x pos hd]
 exact ai (iV h)
def compPost(M:Model)(A:Around)(E:QQ)(use:Option (Value→Sem Unit))(Q:QQ)(acc:Value)(C:Addr)(r:Result)(s':Shared):Prop:=
 match r,use with
 |.ok _,none=>∃m,s'.heap.Ns C m∧∀h',Heap.SameBut C s'.heap h'→Q acc {s' with heap:=h'}
 |.ok _,some u=>av M A (u acc) (fun _ s''=>∃m,s''.heap.Ns C m∧∀h',Heap.SameBut C s''.heap h'→Q .none {s'' with heap:=h'}) E s'
 |.error _,_=>False
def Jp{e:Expr}
  {Q:QQ}
  (hcl:clausesOf e=g::gs) (hs:∀x,foldedSetIterable g.iter env x=pure x) (hclos:closureFor scope env=pure cl)
  (hkind:scope.kind = .function) (hnames:∀x∈scope.names,x.2 = .local→scope.names.lookup x.1=some .local)
  (h:av M A first (fun x s₁=>av M A (pyIter x) (fun it s₂=>av M A newAcc (fun acc s₃=>
   av M A (newFunctionEnv scope env.globals cl [] env.qual none .none (some env)) (fun cenv s₄=>
    dM M A (.compStart e 0 it acc {cenv with scope:=relabel scope env}) (compPost M A E use Q acc cenv.locals) s₄) E s₃) E s₂) E s₁) E s):
  av M A (comprehension e scope env pos newAcc false first use) Q E s:=by
 unfold comprehension
 rw[hclos,hcl]
 refine ai (bF h (fun x s₁ h₁=>ai (iV (ai (jV (hs x) (ai (c8 (bF h₁ (fun it s₂ h₂=>
  Ji (ai (bF h₂ (fun acc s₃ h₃=>ai (aV (ai (bF h₃ (fun cenv s₄ h₄=>?_) fun _ _ h'=>h')))) fun _ _ h'=>h')))
   fun _ _ h'=>h'))))))) fun _ _ h'=>h')
 dsimp only
 have hv:∀x∈(scope.names.filter fun x=>(x.2 == .local||x.2 == .cell)&&x.1 != (".0":Str)).reverse,x.2 = .local →
   Env.kindOf {cenv with scope:=relabel scope env} x.1=some .local:=fun x hx hl=>lookup_relabel_local (hnames x (dJ.mp (List.mem_reverse.mp hx)).1 hl)
 have hv':∀x∈(scope.names.filter fun x=>(x.2 == .local||x.2 == .cell)&&x.1 != (".0":Str)).reverse.drop 1++(scope.names.filter fun x=>(x.2 == .local||x.2 == .cell)&&x.1 != (".0":Str)).reverse.take 1,
   x.2 = .local→Env.kindOf {cenv with scope:=relabel scope env} x.1=some .local:=fun x hx hl=>by
  rcases mh.mp hx with h1 | h1
  ·exact hv x (List.mem_of_mem_drop h1) hl
  ·exact hv x (List.mem_of_mem_take h1) hl
 refine c8 (ai (yJ (c8 (yM (h:=none) nn (Cp h₄ fun r s' hr=>?_)))))
 cases r with
 |ok f=>
  cases use with
  |none=>
   refine cps fun C9 k9=>?_
   obtain⟨m,hn,hr⟩:=hr
   refine k9 ?_
   exact ai (c8 (of (wpAny_comp_letGo (cenv:={cenv with scope:=relabel scope env}) hkind _ s' m hv hn fun h' m' _ hs'=>aV (hr h' hs'))))
  |some u=>
   refine ai (vc (ai (c8 (bF hr (fun _ s'' hr'=>?_) fun _ _ h'=>h'))))
   obtain⟨m,hn,hr'⟩:=hr'
   exact ai (of (wpAny_comp_letGo (cenv:={cenv with scope:=relabel scope env}) hkind _ s'' m hv' hn fun h' m' _ hs'=>aV (hr' h' hs')))
 |error x=>cases use <;> exact hr.elim
end
section
variable{E:QQ}
def Jq
  (h0:dM (model prog w) A (.compLoop (.ListComp elt (⟨target,iter,ifs,0⟩::rest) scope pos) 0 it acc env) R s)
  (h:av (model prog w) A (pyIter it) (fun it' s'=>dM (model prog w) A (.compLoop (.ListComp elt (⟨target,iter,ifs,0⟩::rest) scope pos) 0 it' acc env) R s') (fun _ _=>False) s):
  dM (model prog w) A (.compStart (.ListComp elt (⟨target,iter,ifs,0⟩::rest) scope pos) 0 it acc env) R s:=by
 refine kH rfl ?_
 refine Jk ?_
 refine ai (of (wpAny_askSetting (Jf ?_)))
 split
 ·first
   |exact ai (aV (aV (And.intro rfl h0)))
   |exact aV (And.intro rfl h0)
 ·exact ai (vc (ai (iV (ai (bF h (fun it' s' h'=>aV (And.intro rfl h')) fun _ _ x=>x.elim)))))
def Jr(h:av (model prog w) A (isTrue c env (eval c env)) Q E s):
  av (model prog w) A (forIn [c] true fun c r=>if r=true then do let ok ←isTrue c env (eval c env);pure (ForInStep.yield ok) else pure (ForInStep.yield r)) Q E s:=by
 simp only [List.forIn_cons,List.forIn_nil,if_true]
 exact ai (ai (bF h (fun b s' hb=>aV (aV hb)) fun _ _ x=>x))
def Js{K:Type}[DecidableEq K]{knd:KeyKind prog w K}(hlen:pairs.length≤15)
  (h:av (model prog w) A (evalPairs pairs) (fun vs s₁=>∃kvs,Carries knd vs kvs∧s₁.heap.DictOf knd s.heap.objs.size [] ∧
   ∀h',h'.DictOf knd s.heap.objs.size (merged [] kvs)→Heap.SameBut s.heap.objs.size s₁.heap h'→Q s.heap.objs.size {s₁ with heap:=h',toks:=s₁.toks+vs.length}) E
   {s with heap:=s.heap.push {cls := .type "dict",data := .dict #[]}}):
  av (model prog w) A (subDict pairs) Q E s:=by
 refine ai (of (wpAny_alloc ?_))
 refine ai (c8 ?_)
 rw[if_pos hlen]
 have h':av (model prog w) A (evalPairs pairs) (fun vs s₁=>vs.length=pairs.length∧∃kvs,Carries knd vs kvs∧s₁.heap.DictOf knd s.heap.objs.size [] ∧
   ∀h',h'.DictOf knd s.heap.objs.size (merged [] kvs)→Heap.SameBut s.heap.objs.size s₁.heap h'→Q s.heap.objs.size {s₁ with heap:=h',toks:=s₁.toks+vs.length}) E
   {s with heap:=s.heap.push {cls := .type "dict",data := .dict #[]}}:=fun Γ p h1 h2 h3=>wp_evalPairs_len _ Γ pairs _ _ p _ (h Γ p h1 h2 h3)
 refine ai (bF h' (fun vs s₁ h₁=>?_) fun _ _ e=>e)
 refine cps fun C9 k9=>?_
 obtain⟨hvl,kvs,hc,hm,hQ⟩:=h₁
 refine k9 ?_
 have hsz:([]:List (K×Value)).length+kvs.length≤sizeLine:=by
  have e:=hc.length
  rw[sizeLine_eq,List.length_nil];lia
 refine c8 ?_
 exact ai (of (wpAny_storeAll (knd:=knd) vs kvs [] s₁ _ hc hm hsz fun h' hm' hs'=>aV (aV (hQ h' hm' hs'))))
def tail_any{value slice:Expr}{T id:String}(hT:s.TypeIs o T)
  (hl:typeLookup (.type T) "__getitem__"=pure (some (.builtin id))) (hg:av (model prog w) A (getItem o i) Q E s)
  (hs:subscripted slice false o i=operate ops (getItem o i)):av (model prog w) A (subscriptTail value slice o i) Q E s:=by
 refine ai ?_
 rw[getitemInPython_of_ne hT.not_modules]
 refine ai (of (lG hT hl ?_))
 have fin:av (model prog w) A (subscripted slice false o i) (fun r s₃=>av (model prog w) A (letTemporaryGo value o r>>=fun _=>pure r) Q E s₃) E s:=by
  rw[hs]
  exact Cg (bF hg (fun r s₃ h₃=>ai (of (wpAny_letTemporaryGo (aV h₃)))) fun _ _ x=>x)
 first
  |exact aV (ai fin)
  |exact ai (aV (ai fin))
  |exact ai fin
end
section
variable{E:QQ}
def Jt(h:∀st,tg st→Q st s):av M A stack Q E s:=fun Γ p _ h1 h2=>h _ (yL h1 h2 p)
def yN{id:String}(ho:oA.contains id=false)(hb:entryFor table id=some b)
  (h:av (model prog w) (A.under (.builtin id args)) (b args)
   (fun fin s'=>match fin with | .done f=>R (.ok f) s' | .again c'=>c'.quiet=true∧dM (model prog w) A c' R s') (fun e s'=>R (.error e) s') s):
  dM (model prog w) A (.builtin id args) R s:=by
 refine kH ho ?_
 show av _ _ (match entryFor table id with | some b=>b args | none=>unsupported ((withoutEnding? id "#data").getD id)) _ _ s
 rw[hb];exact h
def Ct{id:String}(hq:plainId id=true)(ho:oA.contains id=false)(hb:entryFor table id=some b)
  (h:av (model prog w) A.in1 (checkBuiltinCall id args) (fun _ s₁=>av (model prog w) A.in1 (b args)
   (fun fin s'=>match fin with | .done f=>R (.ok f) s' | .again c'=>c'.quiet=true∧dM (model prog w) A c' R s') (fun e s'=>R (.error e) s') s₁)
   (fun e s'=>R (.error e) s') s):dM (model prog w) A (.call (.builtin id) args) R s:=by
 refine kH rfl ?_
 show av _ A.in1 (do checkBuiltinCall id args;again (.builtin id args)) _ _ s
 refine ai (bF h (fun _ s₁ h₁=>aV ⟨plainId_quiet hq _,yN ho hb ?_⟩) fun _ _ e=>e)
 rw[Around.under_plainId hq _];exact h₁
def Cu{id:String}(hq:(Code.builtin id args).quiet=true)(ho:oA.contains id=false)(hb:entryFor table id=some b)
  (h:av (model prog w) A.in1 (checkBuiltinCall id args) (fun _ s₁=>av (model prog w) (A.under (.builtin id args)) (b args)
   (fun fin s'=>match fin with | .done f=>R (.ok f) s' | .again c'=>c'.quiet=true∧dM (model prog w) A c' R s') (fun e s'=>R (.error e) s') s₁)
   (fun e s'=>R (.error e) s') s):dM (model prog w) A (.call (.builtin id) args) R s:=by
 refine kH rfl ?_
 show av _ A.in1 (do checkBuiltinCall id args;again (.builtin id args)) _ _ s
 exact ai (bF h (fun _ s₁ h₁=>aV (And.intro hq (yN ho hb h₁))) fun _ _ h'=>h')
def Ju{T:String}{id:String}(h:Slot T name id)(ho:oA.contains id=false)(hT:s.TypeIs self T)
  (hb:entryFor table id=some b) (ha:argsOk id ⟨self::rest,[]⟩)
  (hc:av (model prog w) A.in1 (b ⟨self::rest,[]⟩) (fun fin s'=>∃v,fin = .done (.ret v)∧Q v s') E s):
  av (model prog w) A (call (.builtin id) (self::rest)) Q E s:=by
 refine nA (Ct h.plain ho hb (of (h.check _ _ _ _ _ _ _ _ hT ha (bF hc (fun fin s' h'=>?_) fun _ _ h'=>h'))))
 obtain⟨v,rfl,hv⟩:=h';exact hv
def rC{id x:String}(h:oB (.builtin id args)=false)(hc:oA.contains x=true):id≠x:=fun e=>by
 subst e
 rw[show oB (.builtin id args)=oA.contains id from rfl,hc] at h;exact tf h
def Cv{v:Value}(q:Q false s):av (model prog w) A (Builtin.Bytes.exported v) Q E s:=by
 refine ai (Jt fun st hst=>aV ?_)
 rw[List.any_eq_false.mpr (fun x hx=>?_)]
 ·exact q
 ·have h:=hst x hx
  clear hx hst
  obtain⟨c,p⟩:=x
  dsimp only at h ⊢
  delta PySem.Builtin.Bytes.exported.match_1
  cases c with
  |builtin id args=>
   obtain⟨pos,kw⟩:=args
   show ¬(dite (id="bytearray.__contains__") _ fun _=>dite (id="bytearray.__mod__") _ fun _=>dite (id="bytearray.__rmod__") _ fun _=>dite (id="_struct.pack_into.held") _ fun _=>dite (id="bytearray.find.held") _ fun _=>_)=true
   rw[dif_neg (rC h (by decide +kernel)),dif_neg (rC h (by decide +kernel)),dif_neg (rC h (by decide +kernel)),dif_neg (rC h (by decide +kernel)),dif_neg (rC h (by decide +kernel))]
   cases pos with
   |nil=>exact eE
   |cons v' tail=>
    intro hh
    obtain⟨_,h2⟩:=g8.mp hh
    exact rC h (List.contains_iff_mem.mpr (List.mem_append_left _ (List.contains_iff_mem.mp h2))) rfl
  |_=>exact eE
end
section
variable{E:QQ}
def yO:Slot "bytearray" "__getitem__" "bytearray.__getitem__":=
 .of (owner:="bytearray") (n:="__getitem__") (by rw[jI,jH];kernel_rfl) (by decide +kernel) (by decide +kernel) (by decide +kernel)
  (by first | exact .inl (by decide +kernel) | exact .inr (by decide +kernel)) (by rw[isSubtype_type];kernel_rfl)
def Cw:Slot "bytearray" "__setitem__" "bytearray.__setitem__":=
 .of (owner:="bytearray") (n:="__setitem__") (by rw[jI,jH];kernel_rfl) (by decide +kernel) (by decide +kernel) (by decide +kernel)
  (by first | exact .inl (by decide +kernel) | exact .inr (by decide +kernel)) (by rw[isSubtype_type];kernel_rfl)
def Cy:Slot "bytearray" "__len__" "bytearray.__len__":=
 .of (owner:="bytearray") (n:="__len__") (by rw[jI,jH];kernel_rfl) (by decide +kernel) (by decide +kernel) (by decide +kernel)
  (by first | exact .inl (by decide +kernel) | exact .inr (by decide +kernel)) (by rw[isSubtype_type];kernel_rfl)
def Cz:Slot "bytearray" "append" "bytearray.append":=
 .of (owner:="bytearray") (n:="append") (by rw[jI,jH];kernel_rfl) (by decide +kernel) (by decide +kernel) (by decide +kernel)
  (by first | exact .inl (by decide +kernel) | exact .inr (by decide +kernel)) (by rw[isSubtype_type];kernel_rfl)
def Jv:entryFor table "bytearray.__getitem__"=some Builtin.«bytearray.__getitem__»:=by first | exact entryFor_of_fast (by kernel_rfl) | exact entryFor_of_tree (by kernel_rfl)
def Jw:entryFor table "bytearray.__setitem__"=some Builtin.«bytearray.__setitem__»:=by first | exact entryFor_of_fast (by kernel_rfl) | exact entryFor_of_tree (by kernel_rfl)
def Jx:entryFor table "bytearray.__len__"=some Builtin.«bytearray.__len__»:=by first | exact entryFor_of_fast (by kernel_rfl) | exact entryFor_of_tree (by kernel_rfl)
def Jy:entryFor table "bytearray.append"=some Builtin.«bytearray.append»:=by first | exact entryFor_of_fast (by kernel_rfl) | exact entryFor_of_tree (by kernel_rfl)
def Jz(a b:Value):argsOk "bytearray.__getitem__" ⟨[a,b],[]⟩:=by unfold argsOk;kernel_rfl
def JA(a b c:Value):argsOk "bytearray.__setitem__" ⟨[a,b,c],[]⟩:=by unfold argsOk;kernel_rfl
def JB(a:Value):argsOk "bytearray.__len__" ⟨[a],[]⟩:=by unfold argsOk;kernel_rfl
def JC(a b:Value):argsOk "bytearray.append" ⟨[a,b],[]⟩:=by unfold argsOk;kernel_rfl
def vd(h:s.heap.get? a=some (dR b))(q:Q b s):PySem.wpAny (model prog w) A (Builtin.Bytes.payload (.ref a)) Q E s:=by
 exact aP (aP (n6 h (bX (bX q))))
def CA(h:Builtin.Bytes.fitsIndex i=true)(q:Q (some i) s):PySem.wpAny (model prog w) A (Builtin.Bytes.subscript? (.int i t)) Q E s:=by
 refine aP (lG (typeIs_int s i t) PySem.F.slot_int_index.lookup ?_)
 show PySem.wpAny _ A (if(!Builtin.Bytes.fitsIndex i)=true then _ else pure (some i)) _ E s
 rw[h]
 exact bX q
def JD(h:s.heap.get? a=some (dR b))(hr:Builtin.Bytes.fitsIndex i=true)(hx:(seqIndex? i b.size).bind (b[·]?)=some c)
  (q:Q (.int c.toNat s.toks) {s with toks:=s.toks+1}):PySem.wpAny (model prog w) A (getItem (.ref a) (.int i t)) Q E s:=by
 have hT:s.TypeIs (.ref a) "bytearray":=⟨_,h,rfl⟩
 refine wpAny_getItem_slot hT (by decide) yO (wpAny_call_entry yO hT Jv ?_ (Jz _ _))
 show PySem.wpAny _ _ (Builtin.Bytes.subscript? (.int i t)>>=_) _ _ s
 refine aP (CA hr ?_)
 refine aP (vd h ?_)
 rw[hx]
 exact aP (PySem.wpAny_mkInt (bX ⟨_,rfl,q⟩))
def tn(h:s.heap.get? a=some (dR b))(hz:(f b).size≤sizeLine)(q:∀h',h'.get? a=some (dR (f b))→Heap.SameBut a s.heap h'→Q () {s with heap:=h'}):
  PySem.wpAny (model prog w) A (Builtin.Bytes.write (.ref a) f) Q E s:=by
 have e:(s.heap.update a (Obj.mapBytearray f)).get? a=some (dR (f b)):=qT _ h rfl
 refine aP (n6 h ?_)
 refine aP (PySem.wpAny_update h ?_)
 exact PySem.wpAny_lookBehind e (by
  show(if(f b).size > sizeLine then some _ else none)=none
  rw[if_neg (Nat.not_lt.mpr hz)]) (q _ e (Heap.SameBut.update ..))
def CB(h0:0≤i)(h1:i<256)(q:Q i.toNat.toUInt8 s):PySem.wpAny (model prog w) A (Builtin.Bytes.byteValue (.int i t)) Q E s:=by
 show PySem.wpAny _ A (if(decide (i<0)||decide (i≥256))=true then _ else _) _ E s
 rw[if_neg (by simp;lia)]
 exact bX q
def JE(h:s.heap.get? a=some (dR b))(hr:Builtin.Bytes.fitsIndex i=true)(hx:seqIndex? i b.size=some k)(hz:b.size≤sizeLine)
  (h0:0≤x) (h1:x<256) (q:∀h',h'.get? a=some (dR (b.setIfInBounds k x.toNat.toUInt8))→Heap.SameBut a s.heap h'→Q () {s with heap:=h'}):
  PySem.wpAny (model prog w) A (setItem (.ref a) (.int i t) (.int x u)) Q E s:=by
 have hT:s.TypeIs (.ref a) "bytearray":=⟨_,h,rfl⟩
 unfold setItem
 try with_reducible refine nX ?_
 first | refine aP (bX ?_) | skip
 refine aP (wpAny_sequenceKey hT (by decide) ?_)
 refine aP (wpAny_callSpecial?_slot (name:=Str.ofString "__setitem__") hT Cw
  (wpAny_call_entry Cw hT Jw ?_ (JA _ _ _)))
 refine aP (CA hr ?_)
 refine aP (CB h0 h1 ?_)
 refine aP (vd h ?_)
 rw[hx]
 refine aP (tn h (by simpa using hz) fun h' g hs=>?_)
 exact aP (bX (bX ⟨.none,rfl,bX (q h' g hs)⟩))
def JF(h:s.heap.get? a=some (dR b))(hz:b.size≤bz)(q:Q (.int b.size (s.toks+1)) {s with toks:=s.toks+1+1}):PySem.wpAny (model prog w) A (call (.builtin "len") [.ref a]) Q E s:=by
 have hT:s.TypeIs (.ref a) "bytearray":=⟨_,h,rfl⟩
 have hl:bz=1000000:=rfl
 refine Calls.call_function_entry kind_len plain_len entry_len (args_len1 _) ?_
 refine aP (m:=oneArg "len" _) (bX ?_)
 refine aP (m:=callSpecial? (.ref a) (Str.ofString "__len__")) (wpAny_callSpecial?_slot (name:=Str.ofString "__len__") hT Cy (wpAny_call_entry Cy hT Jx ?_ (JB _)))
 show PySem.wpAny _ _ (Builtin.Bytes.payload (.ref a)>>=fun b=>retInt b.size) _ _ s
 refine aP (vd h ?_)
 refine aP (PySem.wpAny_mkInt (bX ⟨_,rfl,?_⟩))
 refine aP (nX (bX ?_))
 refine aP (wpAny_letGo ?_)
 rw[if_neg (by lia)]
 rw[if_neg (by lia)]
 exact aP (PySem.wpAny_mkInt (bX ⟨_,rfl,q⟩))
def JG(h:s.heap.get? a=some (dR b))(q:Q () s):av (model prog w) A (Builtin.Bytes.checkResize (.ref a)) Q E s:=by
 refine ai ?_
 refine ai (Cv ?_)
 exact ai (ai (of (n6 h (aV (aV (aV q))))))
def JH(h:s.heap.get? a=some (dR b))(hz:b.size<bz)(h0:0≤x)(h1:x<256)
  (q:∀h',h'.get? a=some (dR (b.push x.toNat.toUInt8))→Heap.SameBut a s.heap h'→Q .none {s with heap:=h'}):
  av (model prog w) A (call (.builtin "bytearray.append") [.ref a,.int x u]) Q E s:=by
 have hT:s.TypeIs (.ref a) "bytearray":=⟨_,h,rfl⟩
 refine Ju Cz (by decide +kernel) hT Jy (JC _ _) ?_
 show av _ _ (Builtin.Bytes.byteValue (.int x u)>>=_) _ _ s
 refine ai (of (CB h0 h1 ?_))
 refine ai (JG h ?_)
 refine ai (of (tn h (by simp;exact aH hz (by decide +kernel:bz≤sizeLine)) fun h' g hs=>?_))
 exact aV ⟨.none,rfl,q h' g hs⟩
end
inductive PK(W:Wd)(s:Shared){α:Type}(K:α→Wd→Shared→Prop)(a:α)(s':Shared):Prop
 |mk (W':Wd) (st:Step W s W' s') (k:K a W' s')
def Ev (M:Model)(A:Around)(W:Wd)(s:Shared){α:Type}(t:Sem α)(K:α→Wd→Shared→Prop)(X:QW):Prop:=av M A t (PK W s K) (PK W s X) s
def gS (p:PC)(W:Wd)(x:Ex)(e:Value)(h:Heap):Prop:=
 ∃ea oe vs,e = .ref ea∧W.aC ea=some .x∧h.get? ea=some oe∧oe.cls = .ref (p.exc x)∧oe.data = .fields vs ∧
  (vs[1]?=some .none∨∃T oT ts,vs[1]?=some (.ref T)∧T≠ea∧W.aC T=some .x∧h.get? T=some oT∧oT.data = .fields ts∧ts[3]?=some .none)
inductive KR(p:PC)(f:FC)(lv:Lv){α β:Type}(R:Wd→α→β→Prop)(Q:β→St→Prop)(a:α)(W:Wd)(s:Shared):Prop
 |mk (σ:St) (b:β) (I:Inv p f W lv σ s) (r:R W a b) (q:Q b σ)
inductive KX(p:PC)(f:FC)(lv:Lv)(X:QX)(e:Value)(W:Wd)(s:Shared):Prop
 |mk (σ:St) (x:Ex) (I:Inv p f W lv σ s) (r:gS p W x e s.heap) (q:X x σ)
abbrev RV:Wd→Value→V→Prop:=fun W a b=>aD W b a
abbrev JI:Wd→List Value→List V→Prop:=fun W a b=>aN W b a
abbrev KV(p:PC)(f:FC)(lv:Lv)(Q:QV):Value→Wd→Shared→Prop:=KR p f lv RV Q
abbrev KB(p:PC)(f:FC)(lv:Lv)(Q:QB):Bool→Wd→Shared→Prop:=KR p f lv (fun _ a b=>a=b) Q
abbrev KU(p:PC)(f:FC)(lv:Lv)(Q:St→Prop):Unit→Wd→Shared→Prop:=KR p f lv (fun _ _ (_:Unit)=>True) fun _=>Q
section
variable{K:α→Wd→Shared→Prop}
def PK.to(st:Step W₀ s₀ W s)(h:PK W s K a s'):PK W₀ s₀ K a s':=h.casesOn fun W' st' k=>⟨W',st.trans st',k⟩
def PK.here(k:K a W s):PK W s K a s:=⟨W,.refl W s,k⟩
def Ev.mono(h:Ev M A W s t K X)(k:∀a W' s',Step W s W' s'→K a W' s'→K' a W' s')(x:∀a W' s',X a W' s'→X' a W' s'):Ev M A W s t K' X':=
 bF h (fun _ _ h=>h.casesOn fun W' st q=>⟨W',st,k _ _ _ st q⟩) fun _ _ h=>h.casesOn fun W' st q=>⟨W',st,x _ _ _ q⟩
theorem Ev.to(st:Step W₀ s₀ W s)(h:av M A t (PK W s K) (PK W s X) s):av M A t (PK W₀ s₀ K) (PK W₀ s₀ X) s:=bF h (fun _ _=>PK.to st) fun _ _=>PK.to st
def Ev.bind(h:Ev M A W s t K X)(c:∀a W' s',Step W s W' s'→K a W' s'→Ev M A W' s' (g a) K2 X):Ev M A W s (t>>=g) K2 X:=
 ai (bF h (fun a s' h=>h.casesOn fun W' st k=>Ev.to st (c a W' s' st k)) fun _ _ x=>x)
def Ev.val(k:K a W s):Ev M A W s (pure a) K X:=aV (.here k)
def Ev.f7(v:∀Q E,av M A t Q E s→av M A t' Q E s)(h:Ev M A W s t K X):Ev M A W s t' K X:=v _ _ h
def Ev.re(e:t=t')(h:Ev M A W s t' K X):Ev M A W s t K X:=e▸h
def Ev.stand(h:Ev M A W s (g ()) K X):Ev M A W s (standAt pos>>=g) K X:=ai (iV h)
def Ev.aU(h:Ev M A W s t K X):Ev M A W s (holding vs t) K X:=c8 h
theorem Ev.point(h:Ev M A W s (g ()) K X):Ev M A W s (PySem.point>>=g) K X:=ai (yK h)
def Ev.op{t:Sem Value}{K:QW}(h:Ev M A W s t K X):Ev M A W s (operate vs t) K X:=Cg h
theorem Ev.release(h:Ev M A W s (g ()) K X):Ev M A W s (PySem.release vs keep>>=g) K X:=ai (Cm h)
def Ev.JJ(h:Ev (model prog w) A W s (g ()) K X):Ev (model prog w) A W s (letTemporaryGo base o r>>=g) K X:=ai (of <| PySem.wpAny_letTemporaryGo h)
def Ev.pick(w:bif b then P else P')(ht:P→Ev M A W s t K X)(hf:P'→Ev M A W s u K X):Ev M A W s (if b=true then t else u) K X:=by
 cases b with
 |true=>exact ht w
 |false=>exact hf w
def PK.near(h:s₁.heap=s.heap)(g:s₁.gens=s.gens)(o:s₁.os=s.os)(x:PK W s₁ K a s'):PK W s K a s' := .to (.p8 h g o) x
end
section
def PK.fin(I:Inv p f W lv σ s)(q:Q b σ)(r:R W a b)(h:s'.heap=s.heap)(g:s'.gens=s.gens)(o:s'.os=s.os):PK W s (KR p f lv R Q) a s':=⟨W,.p8 h g o,σ,b,I.p8 h,r,q⟩
def PK.now(I:Inv p f W lv σ s)(q:Q b σ)(r:R W a b):PK W s (KR p f lv R Q) a {s with toks:=tk} := .fin I q r rfl rfl rfl
def Ev.bindR(h:Ev M A W s t (KR p f lv R Q) X)
  (c:∀{a W' s' σ' b},Step W s W' s'→Inv p f W' lv σ' s'→R W' a b→Q b σ'→Ev M A W' s' (g a) K2 X):Ev M A W s (t>>=g) K2 X:=
 h.bind fun a W' s' st k=>k.casesOn fun σ' b I r q=>c st I r q
def Ev.map(h:Ev M A W s t (KR p f lv R Q) X)(c:∀{a W' s' σ' b},Step W s W' s'→Inv p f W' lv σ' s'→R W' a b→Q b σ'→K2 a W' s'):Ev M A W s t K2 X:=
 h.mono (fun a W' s' st k=>k.casesOn fun σ' b I r q=>c st I r q) fun _ _ _ x=>x
end
noncomputable def yP(K:Frag)(C:Addr)(x:Str):Bool:=
 plainGet K C x&&(hasDictIn K C&&((findIn K (.ref C) x==some none)&&((findIn K (.ref C) "__setattr__"==some (some (.builtin "object.__setattr__")))&&(plainOver K C&&(takerIn K C x==some none)))))
def tu:Nat:=ym.length
def qc(f:dP):Bool:=(uU[f]?).join.isSome
noncomputable def tw:List String:=["len","bytes","bytearray","min","max","sorted","list","range","enumerate","isinstance","str"]
structure aO(p:PC):Prop where
 X:p.K.In p.base
 g:p.base.Ns mainGlobals p.mg
 b:p.base.Ns builtinsNs p.mb
 nolimit:p.base.NoLimit
 seer:p.base.NoSeer
 tree:p.prog.given.tree=none
 bi:∀x:Str,x≠"__name__"→p.mb x=bootBuiltins x
 inj:∀n m:Nm,n.s=m.s→n=m
 qd:∀n:Nm,(n.s==("__debug__":Str))=false∧(n.s==("__classdict__":Str))=false
 dot0:∀n:Nm,n.s≠aS ".0"
 con:∀n v,yo n=some v→∃cv,p.mg n.s=some cv∧aD p.w0 v cv
 field:∀c n,fX c n=true→yP p.K (p.cls c) n.s=true
 ve:∀f,qc f=true→p.mg (fname f)=some (.ref (p.fn f))∧(fname f==("__debug__":Str))=false
 yQ:∀c,Nat.blt c tu=true→p.mg (cname c)=some (.ref (p.cls c))∧(cname c==("__debug__":Str))=false
 CC:∀n∈tw,p.mg (aS n)=none
 CD:∀c m f,ao c m=some f→findIn p.K (.ref (p.cls c)) m.s=some (some (.ref (p.fn f)))∧findIn p.K (.ref (p.cls c)) "__getattribute__"=some (some (.builtin "object.__getattribute__"))∧findIn p.K (.ref (p.cls c)) "__getattr__"=some none
 tB:∀f,typeIn p.K (.ref (p.fn f))=some (.type "function")∧keepIn p.K (.ref (p.fn f))=true
 yR:∀c,Nat.blt c tu=true→makesIn p.K (p.cls c)=true∧findIn p.K (.ref (p.cls c)) "__init__"=some (some (.ref (p.fn (sU c))))∧keepIn p.K (.ref (p.cls c))=true
def CE(n:Nm)(t:Tok):(Value.str n.s t).isStr n.s=true:=dW _
def JK{n:Nm}:getL n.s (⟨hs,.str n.s t,v⟩::r)=some (some v):=by unfold getL;rw[List.find?_cons,CE]
section
variable{P:Params}{W:Wd}{n:Nm}(inj:∀n m:Nm,n.s=m.s→n=m)
include inj
theorem CF(t:Tok)(h:n≠m):(Value.str n.s t).isStr m.s=false:=nY.mpr fun q=>h (inj _ _ q)
theorem CG(h:m≠n):getL n.s (⟨hs,.str m.s t,v⟩::r)=getL n.s r:=by unfold getL;rw[List.find?_cons,CF inj t h];rfl
theorem fK.get:∀{es:List DictEntry},fK P W fs es→aF fs n=some x→∃v,getL n.s es=some (some v)∧aD W x v:=by
 induction fs with
 |nil=>exact fun _ h=>nn h
 |cons q r ih=>
  refine fun f=>ru f fun t v es a b h=>?_
  by_cases e:q.1=n
  ·subst e;exact⟨v,JK,cA fZ h▸a⟩
  ·rw[CG inj e];exact ih b ((dZ e).symm.trans h)
theorem fK.none:∀{es:List DictEntry},fK P W fs es→aF fs n=none→getL n.s es=some none:=by
 induction fs with
 |nil=>exact fun e _=>e▸rfl
 |cons q r ih=>
  refine fun f=>ru f fun t v es a b h=>?_
  have e:q.1≠n:=fun e=>by subst e;exact bU h fZ
  rw[CG inj e];exact ih b ((dZ e).symm.trans h)
theorem fK.vf(F:fK P W fs es):(getL n.s es).isSome=true:=by
 cases h:aF fs n with
 |none=>rw[F.none inj h];rfl
 |some x=>exact(F.get inj h).elim fun v e=>e.1▸rfl
theorem fK.put(r:aD W x v):∀{es:List DictEntry},fK P W fs es→fK P W (aB fs n x) (putL n.s (PyData.keyHash P n.s) (.str n.s t) v es):=by
 induction fs with
 |nil=>exact fun e=>e▸⟨t,v,[],rfl,r,rfl⟩
 |cons q fs ih=>
  refine fun f=>ru f fun t' v' es a b=>?_
  unfold putL
  by_cases h:q.1=n
  ·subst h
   rw[if_pos (CE q.1 t')]
   exact(show aB (q::fs) q.1 x=(q.1,x)::fs from pY)▸⟨t',v,es,rfl,r,b⟩
  ·rw[if_neg (iC.mp (CF inj t' h))]
   exact(show aB (q::fs) n x=q::aB fs n x from ou h)▸⟨t',v',_,rfl,a,ih b⟩
end
theorem fK.length:∀{es:List DictEntry},fK P W fs es→es.length=fs.length:=by
 induction fs with
 |nil=>exact fun e=>e▸rfl
 |cons q r ih=>exact fun f=>ru f fun _ _ _ _ b=>aa Nat.succ (ih b)
def CH:(aB fs n x).length≤fs.length+1:=by
 induction fs with
 |nil=>exact cL _
 |cons q r ih=>
  by_cases h:q.1=n
  ·subst h;exact(aa List.length (pY (r:=r) (w:=q.2) (v:=x)))▸Nat.le_succ _
  ·exact(aa List.length (ou (w:=q.2) (r:=r) (v:=x) h))▸lF ih
def JL(h:q∈aB fs n x):q.1=n∨q∈fs:=by
 induction fs with
 |nil=>cases h with
  |head=>exact .inl rfl
  |tail _ h=>cases h
 |cons y r ih=>
  by_cases e:y.1=n
  ·have h:q∈(n,x)::r:=e▸(show aB (y::r) y.1 x=_ from pY)▸(e▸h)
   cases h with
   |head=>exact .inl rfl
   |tail _ h=>exact .inr (.tail _ h)
  ·have h:q∈y::aB r n x:=(show aB (y::r) n x=_ from ou e)▸h
   cases h with
   |head=>exact .inr (.head _)
   |tail _ h=>exact(ih h).imp id (.tail _)
def JM{fs:List (Nm×V)}(hf:∀q∈fs,fX c q.1=true)(h:fX c n=false):aF fs n=none:=by
 induction fs with
 |nil=>rfl
 |cons q r ih=>exact(dZ fun e=>eE (h.symm.trans ((aa (fX c) e).symm.trans (hf q (.head _))))).trans (ih fun q hq=>hf q (.tail _ hq))
def JN:aD W x v→handedIn v=true:=
 V.casesOn x (fun e=>e▸rfl) (fun _ e=>e▸rfl) (fun _ e=>e.elim fun _ e=>e▸rfl) (fun _ e=>e.elim fun _ e=>e▸rfl) (fun _ e=>e.elim fun _ e=>e.elim fun _ e=>e.1▸rfl)
  (fun _ e=>e.elim fun _ e=>e.elim fun _ e=>e.1▸rfl) (fun _ e=>e.elim fun _ e=>e.elim fun _ e=>e.1▸rfl) fun _ e=>e.elim fun _ e=>e.1▸rfl
noncomputable def led(base:Heap)(L:Addr)(h:Heap)(a:Addr):List (Addr×Obj):=(List.range h.objs.size).filterMap fun b=>if b=a∨b=L∨(base.get? b).isSome then none else(h.get? b).map (b,·)
def JO(h1:h.get? b=some o)(h2:b≠a)(h3:b≠L)(h4:base.get? b=none):(b,o)∈led base L h a:=
 pN.mpr ⟨b,fE.mpr (iF h1),(if_neg (not_or.mpr ⟨h2,not_or.mpr ⟨h3,by rw[h4];exact eE⟩⟩)).trans (aa _ h1)⟩
def yS(m:q∈led base L h a):h.get? q.1=some q.2∧q.1≠a∧q.1≠L∧base.get? q.1=none:=by
 obtain⟨b,_,e⟩:=pN.mp m
 by_cases z:b=a∨b=L∨(base.get? b).isSome
 ·rw[if_pos z] at e;exact nn e
 ·rw[if_neg z] at e
  exact bW e fun o e1 e2=>e2▸⟨e1,fun q=>z (.inl q),fun q=>z (.inr (.inl q)),gj fun o e=>z (.inr (.inr (e▸rfl)))⟩
section
def Inv.fr(I:Inv p f W lv σ s):∃m,Fr p.base f.env.locals s.heap m:=I.vars.elim fun m h=>⟨m,h.1,I.stays,I.above⟩
def aO.at(P:aO p)(I:Inv p f W lv σ s):p.K.In s.heap:=P.X.keeps I.stays
structure JP(p:PC)(W:Wd)(s:Shared)(l:Loc)(c:jL)(fs:List (Nm×V))(q:Addr×Addr)(es:List DictEntry)(n:Nat):Prop where
 loc:W.loc l=some q
 at_:InstAt s.heap q.1 (instObj (p.cls c) q.2) (p.cls c) (some (dictOf es n))
 rel:fK p.w.params W fs es
 few:fs.length≤900
 fields:∀q∈fs,fX c q.1=true
@[elab_as_elim] theorem oF {l:Loc} {cv:Value} {C:Value→Prop} (r:aD W (.ref l) cv) (k:∀q,W.loc l=some q→C (.ref q.1)):C cv:=r.elim fun a r=>bW r.2 fun q e e2=>r.1▸e2▸k q e
@[elab_as_elim] theorem Inv.inst {C:Value→Prop} (I:Inv p f W lv σ s) {l:Loc} {fs:List (Nm×V)} {c:jL} {cv:Value} (r:aD W (.ref l) cv) (ht:cls? l.t=some c) (h:σ.hp l=some (.inst fs)) (k:∀q es n,JP p W s l c fs q es n→C (.ref q.1)):C cv:=
 oF r fun q e=>(I.cell e h).elim fun c' x=>x.elim fun es x=>x.elim fun n x=>by
  obtain rfl:=cA ht x.1
  exact k q es n ⟨e,⟨x.2.1.1,rfl,rfl,x.2.1.2⟩,x.2.2.1,x.2.2.2.1,x.2.2.2.2⟩
def CI(h:yq σ v=some o):v = .ref o.1∧cls? o.1.t=some o.2.1∧σ.hp o.1=some (.inst o.2.2):=
 aX h fun l e1 h=>aX h fun c e2 h=>aX h fun fs e3 h=>aT h▸⟨pZ e1,e2,obj_some e3⟩
structure vg(K:Frag)(C:Addr)(x:Str):Prop where
 get:plainGet K C x=true
 dict:hasDictIn K C=true
 no:findIn K (.ref C) x=some none
 set:findIn K (.ref C) "__setattr__"=some (some (.builtin "object.__setattr__"))
 over:plainOver K C=true
 JQ:takerIn K C x=some none
def vg.of{K:Frag}(h:yP K C x=true):vg K C x:=
 oq h fun a h=>oq h fun b h=>oq h fun c h=>oq h fun d h=>oq h fun e g=>⟨a,b,eq_of_beq c,eq_of_beq d,e,eq_of_beq g⟩
def CJ{M:Model}(hM:M=p.M)(P:aO p)(I:Inv p f W lv σ s)(r:aD W v cv)(h:mu σ v n=some x)(q:Q x σ):Ev M f.A W s (getAttr cv n.s ex) (KV p f lv Q) X:=by
 subst hM
 refine aX h fun o e h1=>?_
 obtain⟨hf,h2⟩:=yD h1
 obtain⟨ev,ht,hc⟩:=CI e
 refine I.inst (C:=fun cv=>Ev p.M f.A W s (getAttr cv n.s ex) (KV p f lv Q) X) (ev▸r) ht hc fun a es k O=>?_
 have ok:=vg.of (P.field _ n hf)
 refine(O.rel.get P.inj h2).elim fun v' g=>of <| get_value (P.at I) O.at_ (plainGet_of ok.get).1 (findObj_own ok.dict ok.no rfl ?_) (JN g.2) (.now I q g.2)
 exact g.1
def CK(ok':bA p f)(P:aO p)(I:Inv p f W lv σ s){v x:V}(r:aD W v cv)(rx:aD W x cx)(h:gC σ v n x=some σ')(q:Q σ'):Ev p.M f.A W s (setAttr cv n.s cx) (KU p f lv Q) X:=by
 refine aX h fun o e h1=>?_
 obtain⟨hf,h2⟩:=yD h1
 obtain⟨hf,hz⟩:=aE hf
 obtain rfl:=aT h2
 obtain⟨ev,ht,hc⟩:=CI e
 refine I.inst (C:=fun cv=>Ev p.M f.A W s (setAttr cv n.s cx) (KU p f lv Q) X) (ev▸r) ht hc fun a es k O=>?_
 have ok:=vg.of (P.field _ n hf)
 obtain⟨m,hF⟩:=I.fr
 obtain⟨⟨ra,rd⟩,_⟩:=I.loc O.loc
 have D:s.heap.get? a.2=some (dictOf es k):=O.at_.dict
 have nd:a.2≠f.env.locals:=kF rd I.var rfl
 have bd:=I.p9 rd rfl
 have N:News p.base f.env.locals s.heap ((a.2,dictOf es k)::led p.base f.env.locals s.heap a.2):=fun z hz=>by
  rcases cS.mp hz with rfl | hz
  ·exact⟨D,nd,bd⟩
  ·exact⟨(yS hz).1,(yS hz).2.2⟩
 have hz':(aB o.2.2 n x).length≤900:=aH CH (bw hz)
 have len:(putL n.s (PyData.keyHash p.w.params n.s) (.str n.s (s.toks+1)) cx es).length≤1000:=by
  rw[fK.length (O.rel.put (n:=n) (t:=s.toks+1) P.inj rx)]
  exact aH hz' (bw rfl)
 refine of <| set_dict hF P.X N O.at_ rfl ok.set ok.over ok.JQ ok.dict (O.rel.vf P.inj) rfl (.head fun q hq=>(yS hq).2.1) len fun h' F' N'=>?_
 have hk:∀{b o},b≠a.2→b≠f.env.locals→s.heap.get? b=some o→h'.get? b=some o:=fun{b o} n nl e=>by
  cases z:p.base.get? b with
  |some o'=>exact(F'.keep b o' z).trans ((I.base z).symm.trans e)
  |none=>exact(N' (b,o) (.tail _ (JO e n nl z))).1
 have T:=I.bC (s':={s with heap:=h',toks:=s.toks+2}) (c' := .inst (aB o.2.2 n x)) ok' O.loc (.inr rfl) hk (fun m' hm'=>Cd hF.ns hm'▸F'.ns) ⟨_,(N' _ (.head _)).1⟩
  ⟨o.2.1,_,_,ht,⟨hk (fun z=>by have:=aa Obj.cls (cA ((aa s.heap.get? z).symm.trans O.at_.at_) O.at_.dict);cases this) (kF ra I.var rfl) O.at_.at_,(N' _ (.head _)).1⟩,O.rel.put P.inj rx,hz',fun q hq=>(JL hq).elim (fun e=>e▸hf) (O.fields q)⟩ rfl rfl
 exact⟨W,T.2,_,(),T.1,trivial,q⟩
end
noncomputable def Wd.put(W:Wd)(a:Addr)(r:Role):Wd:=⟨fun b=>if b=a then some r else W.aC b,W.loc⟩
def Wd.own(W:Wd)(l:Loc)(a d:Addr):Wd:=⟨fun b=>if b=a∨b=d then some (.cell l) else W.aC b,fun k=>bif Loc.beq k l then some (a,d) else W.loc k⟩
section
variable{W:Wd}
def Wd.qe(n:W.aC a=none):W.Ge (W.put a r):=⟨fun{b _} e=>(if_neg fun z:b=a=>bU (z▸n) e).trans e,id⟩
def Wd.qf:(W.put a r).aC a=some r:=if_pos rfl
def Wd.vh(h:b≠a):(W.put a r).aC b=W.aC b:=if_neg h
theorem Inv.put(I:Inv p f W lv σ s)(n:W.aC a=none)(h:s.heap.get? a=some o)(ok:lO r o):Inv p f (W.put a r) lv σ s:=
 have le:=Wd.qe n
 I.keeps' (fun _ _ e=>e) le (fun{b r'} n' e=>by
  by_cases z:b=a
  ·subst z;exact⟨o,h,cA Wd.qf e▸ok⟩
  ·exact bU n' ((Wd.vh z).symm.trans e)) (fun e=>⟨(I.loc e).1.imp le.r le.r,(I.loc e).2⟩) fun e h=>(I.cell e h).keep le.le (fun _ e=>e) fun _ e=>e
theorem Step.put(st:Step W₀ s₀ W s)(n:W.aC a=none)(h:s₀.heap.get? a=none):Step W₀ s₀ (W.put a r) s:=
 ⟨st.ge.trans (Wd.qe n),st.keep,fun{b r'} n' e=>by
  by_cases z:b=a
  ·subst z;exact h
  ·exact st.new n' ((Wd.vh z).symm.trans e),st.g,st.os⟩
def yT(h:b=a∨b=d):(W.own l a d).aC b=some (.cell l):=if_pos h
def vj(h:¬(b=a∨b=d)):(W.own l a d).aC b=W.aC b:=if_neg h
def yU:(W.own l a d).loc l=some (a,d):=dK mD
def Inv.CL(I:Inv p f W lv σ s)(h:σ.us l=false):W.loc l=none:=gj fun _ e=>eE (h.symm.trans (I.loc e).2)
def Wd.CM(na:W.aC a=none)(nd:W.aC d=none)(nl:W.loc l=none):W.Ge (W.own l a d):=
 ⟨fun{b _} e=>(vj fun z=>z.elim (fun z=>bU (z▸na) e) fun z=>bU (z▸nd) e).trans e,fun{k _} e=>(cR (mE fun z:k=l=>bU (z▸nl) e)).trans e⟩
theorem Inv.own(I:Inv p f W lv σ s)(na:W.aC a=none)(nd:W.aC d=none)(ha:∃o,s.heap.get? a=some o)(hd:∃o,s.heap.get? d=some o)(hu:σ.us l=false)(hc:∀{W'},W.Le W'→ir p W' s.heap l a d c):Inv p f (W.own l a d) lv (σ.new l c) s:=
 have le:=Wd.CM na nd (I.CL hu)
 I.keeps' (fun _ _ e=>e) le (fun{b r'} n' e=>by
  by_cases z:b=a∨b=d
  ·obtain rfl:=cA (yT z) e
   exact z.elim (fun z=>z▸ha.elim fun o h=>⟨o,h,trivial⟩) fun z=>z▸hd.elim fun o h=>⟨o,h,trivial⟩
  ·exact bU n' ((vj z).symm.trans e)) (fun{k q} e=>by
  by_cases z:k=l
  ·subst z
   obtain rfl:=cA yU e
   exact⟨⟨yT (.inl rfl),yT (.inr rfl)⟩,(aa (· || _) mD).trans (Bool.true_or _)⟩
  ·have e:W.loc k=some q:=(cR (mE z)).symm.trans e
   exact⟨(I.loc e).1.imp le.r le.r,(aa (_||·) (I.loc e).2).trans (Bool.or_true _)⟩) fun{k q c₁} e h=>by
  by_cases z:k=l
  ·subst z
   obtain rfl:=cA yU e
   obtain rfl:=cA (dK mD) h
   exact hc le.le
  ·have e:W.loc k=some q:=(cR (mE z)).symm.trans e
   exact(I.cell e ((cR (mE z)).symm.trans h)).keep le.le (fun _ e=>e) fun _ e=>e
theorem Step.own(I:Inv p f W lv σ s)(st:Step W₀ s₀ W s)(na:W.aC a=none)(nd:W.aC d=none)(hu:σ.us l=false)(h:s₀.heap.get? a=none)(h':s₀.heap.get? d=none):Step W₀ s₀ (W.own l a d) s:=
 ⟨st.ge.trans (Wd.CM na nd (I.CL hu)),st.keep,fun{b r'} n' e=>by
  by_cases z:b=a∨b=d
  ·exact z.elim (fun z=>z▸h) fun z=>z▸h'
  ·exact st.new n' ((vj z).symm.trans e),st.g,st.os⟩
theorem aD.own:aD (W.own l a d) (.ref l) (.ref a):=⟨a,rfl,aa _ yU⟩
theorem PK.fu(I:Inv p f W lv σ s)(st:Step W₀ s₀ W s)(h0:s₀.heap.get? a=none)(na:W.aC a=none)(ha:∃o,s.heap.get? a=some o)(w:fu t c σ Q)(hc:∀{W' l},l.t=t→W.Le W'→ir p W' s.heap l a a c):PK W₀ s₀ (KV p f lv Q) (.ref a) s:=
 w.elim fun l w=>⟨_,st.own I na na w.2.1 h0 h0,_,_,I.own na na ha ha w.2.1 (hc w.1),.own,w.2.2⟩
theorem PK.newL(I:Inv p f W lv σ s)(st:Step W₀ s₀ W s)(h0:s₀.heap.get? a=none)(na:W.aC a=none)(ha:s.heap.get? a=some (jm items n))(r:aN W vs items)(hz:vs.length≤bz)
  (w:newL z vs σ Q):PK W₀ s₀ (KV p f lv Q) (.ref a) s:=by
 cases z with
 |false=>exact .fu I st h0 na ⟨_,ha⟩ w fun _ le=>⟨items,n,ha,r.le le,hz⟩
 |true=>exact⟨_,st.put (r := .pin (jm items n)) na h0,σ,.fl vs,I.put na ha rfl,⟨a,items,rfl,⟨n,Wd.qf⟩,hz,r.le (Wd.qe na).le⟩,w⟩
theorem PK.tup(I:Inv p f W lv σ s)(st:Step W₀ s₀ W s)(h0:s₀.heap.get? a=none)(na:W.aC a=none)(ha:s.heap.get? a=some (lN "tuple" items k))(r:aN W vs items)(hz:vs.length≤bz)(w:Q (.tup vs) σ):
  PK W₀ s₀ (KV p f lv Q) (.ref a) s:=⟨_,st.put (r := .pin (lN "tuple" items k)) na h0,σ,.tup vs,I.put na ha rfl,⟨a,items,rfl,⟨k,Wd.qf⟩,hz,r.le (Wd.qe na).le⟩,w⟩
theorem Inv.push(I:Inv p f W lv σ s):Inv p f W lv σ {s with heap:=s.heap.push o}:=I.keeps fun _ _ e=>fT _ e
theorem Step.push:Step W s W {s with heap:=s.heap.push o} := .keeps (fun _ _ e=>fT _ e) rfl rfl
def Inv.jo(I:Inv p f W lv σ s):W.aC s.heap.objs.size=none:=I.free (gK _)
def p7.set(hin:∀n m:Nm,n.s=m.s→n=m)(hx:p7 W env m' h' n x)(hm:∀{y:Nm},y≠n→∀v,m y.s=some v→m' y.s=some v)
  (hc:∀{y:Nm} {c v},y≠n→env.cells.lookup y.s=some c→h.IsCell c v→h'.IsCell c v) (hv:∀y z,aF lv y=some z→p7 W env m h y z) (y:Nm) (z:V) (e:aF (aB lv n x) y=some z):p7 W env m' h' y z:=by
 by_cases q:y=n
 ·subst q;exact cA oz e▸hx
 ·exact(hv y z ((rq q).symm.trans e)).elim fun v k=>⟨v,k.1,fun w=>hm q v (k.2.1 w),fun w=>(k.2.2 w).elim fun c k=>⟨c,k.1,hc q k.1 k.2⟩⟩
def Inv.CN(hin:∀n m:Nm,n.s=m.s→n=m)(ok:bA p f)(I:Inv p f W lv σ s)(hm:s.heap.Ns f.env.locals m)
  (hn:h'.Ns f.env.locals fun y=>if y=n.s then some v else m y) (hs:Heap.SameBut f.env.locals s.heap h') (hk:f.env.kindOf n.s=some .local) (r:aD W x v):
  Inv p f W (aB lv n x) σ {s with heap:=h',toks:=tk}∧Step W s W {s with heap:=h',toks:=tk}:=by
 have k:∀{b o},b≠f.env.locals→s.heap.get? b=some o→h'.get? b=some o:=fun n q=>(hs.2 _ n).trans q
 obtain⟨m',hm',hv⟩:=I.vars
 obtain rfl:=Cd hm hm'
 refine⟨I.chg (s':={s with heap:=h',toks:=tk}) I.var (fun n _=>k n) (fun n=>absurd rfl n) ⟨_,hn,p7.set hin (m:=m) (h:=s.heap) ⟨v,r,fun _=>if_pos rfl,fun w=>?_⟩ (fun q v e=>(if_neg fun w=>q (hin _ _ w)).trans e) (fun q e h=>lP h fun _=>k ?_) hv⟩
  (fun x hx=>(I.cells x hx).2.elim fun v h=>⟨v,lP h fun _=>k (s9 ok x hx)⟩) rfl fun e h=>(I.cell e h).keep (.refl W) (fun _=>k (kF (I.loc e).1.1 I.var rfl)) fun _=>k (kF (I.loc e).1.2 I.var rfl),.chg I I.var (fun n _=>k n) rfl rfl⟩
 ·rw[hk] at w
  exact w.elim (fun w=>nomatch w) fun w=>nomatch w
 ·exact s9 ok (_,_) (jn e)
def CO{l:List (α×β)}(nd:(l.map (·.2)).Nodup)(hx:x∈l)(hy:y∈l)(e:x.2=y.2):x=y:=by
 induction l with
 |nil=>cases hx
 |cons q r ih=>
  obtain⟨n1,n2⟩:=fO.mp nd
  have out:∀{z},z∈r→z.2≠q.2:=fun hz e=>n1 (bP.mpr ⟨_,hz,e⟩)
  rcases cS.mp hx with hx | hx
  ·rcases cS.mp hy with hy | hy
   ·rw[hx,hy]
   ·exact absurd (e.symm.trans (aa Prod.snd hx)) (out hy)
  ·rcases cS.mp hy with hy | hy
   ·exact absurd (e.trans (aa Prod.snd hy)) (out hx)
   ·exact ih n2 hx hy
def Inv.setCell(hin:∀n m:Nm,n.s=m.s→n=m)(ok:bA p f)(I:Inv p f W lv σ s)(hown:f.own=true){c:Addr}(hc:f.env.cells.lookup n.s=some c)(hv:h'.IsCell c (some v))
  (hs:Heap.SameBut c s.heap h') (hk:f.env.kindOf n.s≠some .local) (r:aD W x v):Inv p f W (aB lv n x) σ {s with heap:=h',toks:=tk}∧Step W s W {s with heap:=h',toks:=tk}:=by
 have k:∀{b o},b≠c→s.heap.get? b=some o→h'.get? b=some o:=fun n q=>(hs.2 _ n).trans q
 have mc:=jn hc
 have rc:=(I.cells _ mc).1.resolve_right fun h=>eE (h.1.symm.trans hown)
 have cl:=s9 ok _ mc
 obtain⟨m,hm,hvs⟩:=I.vars
 have kc:∀x∈f.env.cells,∀v,x.2≠c→s.heap.IsCell x.2 v→h'.IsCell x.2 v:=fun x hx v n h=>lP h fun _=>k n
 refine⟨I.chg (s':={s with heap:=h',toks:=tk}) rc (fun n _=>k n) (fun _=>hv.elim fun o h=>⟨o,h.1,fun vs e=>nomatch h.2.symm.trans e⟩) ⟨m,hm.sameBut hs (gz cl),p7.set hin (m:=m) (h:=s.heap) ⟨v,r,fun w=>absurd w hk,fun _=>⟨c,hc,hv⟩⟩ (fun _ _ e=>e) (fun{y d w} q e h=>?_) hvs⟩
  (fun x hx=>?_) rfl fun e h=>(I.cell e h).keep (.refl W) (fun _=>k (kF (I.loc e).1.1 rc rfl)) fun _=>k (kF (I.loc e).1.2 rc rfl),.chg I rc (fun n _=>k n) rfl rfl⟩
 ·exact kc (_,_) (jn e) w (fun z=>q (hin _ _ (aa Prod.fst (CO (fO.mp ok.apart).2 (jn e) mc z)))) h
 ·by_cases z:x.2=c
  ·exact⟨_,z▸hv⟩
  ·exact(I.cells x hx).2.elim fun v h=>⟨v,kc x hx v z h⟩
end
section
noncomputable def CP:V→Bool
 |.tup _=>false
 |.fl _=>false
 |.ref _=>false
 |.bytes l=>(l.all fun b=>Nat.blt b 256)&&Nat.blt l.length 99
 |_=>true
def CQ(h:Nat.ble n m=true)(h2:Nat.ble m bz=true):n≤bz:=aH (bw h) (bw h2)
def ofBytes{l:List Nat}(h:(l.all fun b=>Nat.blt b 256)=true):(l.map UInt8.ofNat).map UInt8.toNat=l:=by
 induction l with
 |nil=>rfl
 |cons b l ih=>
  have h1:=aE h
  rw[jJ,jJ,ih h1.2,UInt8.toNat_ofNat_of_lt' (bw h1.1)]
def JR(I:Inv p f W lv σ s)(ok:CP v=true)(q:Q v σ):Ev p.M f.A W s (constValue f.env (toC v)) (KV p f lv Q) X:=by
 cases v with
 |none=>exact Ev.val ⟨σ,.none,I,rfl,q⟩
 |bool b=>exact Ev.val ⟨σ,.bool b,I,rfl,q⟩
 |int i=>exact of <| wpAny_mkInt (.now I q ⟨_,rfl⟩)
 |str n=>exact of <| wpAny_mkText (.now I q ⟨_,rfl⟩)
 |bytes l=>exact of <| wpAny_mkTextBytes (.now I q ⟨_,_,rfl,ofBytes (aE ok).1,eL (je (bw (aE ok).2) (CQ (m:=99) rfl rfl))⟩)
 |tup _=>exact ft ok
 |fl _=>exact ft ok
 |ref _=>exact ft ok
abbrev Sc:=List (Str×NameKind)
structure KM(sc:Sc)(env:Env):Prop where
 l:∀{x},sc.lookup x=some .local→env.kindOf x=some .local
 c:∀{x},sc.lookup x=some .cell→env.kindOf x=some .cell
 fr:∀{x},sc.lookup x=some .free→env.kindOf x=some .cell∨env.kindOf x=some .free
 g:∀{x},sc.lookup x=some .globalImplicit→env.kindOf x=some .globalImplicit
noncomputable def isVar(k:Option NameKind):Bool:=k==some .local||(k==some .cell||k==some .free)
def vm(k:Option NameKind):Prop:=k=some .local∨k=some .cell∨k=some .free
def KM.var(k:KM sc env)(h:isVar (sc.lookup x)=true):vm (env.kindOf x):=
 (l8.mp h).elim (fun h => .inl (k.l (eq_of_beq h))) fun h=>(l8.mp h).elim (fun h => .inr (.inl (k.c (eq_of_beq h)))) fun h => .inr (k.fr (eq_of_beq h))
def CR(P:aO p)(ok:bA p f)(I:Inv p f W lv σ s)(hk:vm (f.env.kindOf n.s))(h:aF lv n=some x)(q:Q x σ):Ev p.M f.A W s (loadName f.env n.s) (KV p f lv Q) X:=by
 refine cps fun C9 k9=>?_
 obtain⟨m,hm,hv⟩:=I.vars
 obtain⟨v,r,z,z'⟩:=hv n x h
 refine k9 ?_
 rcases hk with e | e | e
 ·exact of <| wpAny_loadName_local ok.kind e hm (z e) (.now I q r)
 ·exact(z' (.inl e)).elim fun c y=>of <| wpAny_loadName_cell ok.kind e y.1 y.2 (.now I q r)
 ·exact(z' (.inr e)).elim fun c y=>of <| wpAny_loadName_free ok.kind e y.1 y.2 (.now I q r) (P.qd n).2
def JS(P:aO p)(ok:bA p f)(I:Inv p f W lv σ s)(hk:vm (f.env.kindOf n.s))(h:aF lv n=some x)(q:Q x σ):Ev p.M f.A W s (eval (.Name n.s pos) f.env) (KV p f lv Q) X:=
 Jo (CR P ok I hk h q) (P.qd n).1
def named(P:aO p)(ok:bA p f)(I:Inv p f W lv σ s){Q E:QQ}(hk:f.env.kindOf x=some .globalImplicit)(h:p.mg x=some v)(hd:(x==("__debug__":Str))=false)(q:Q v s):
  av p.M f.A (eval (.Name x pos) f.env) Q E s:=of <| Name_function_global ok.kind hk (loadGlobal_global (ok.globals▸P.g.keeps I.stays) h q) hd
def JT(P:aO p)(ok:bA p f)(I:Inv p f W lv σ s)(hk:f.env.kindOf n.s=some .globalImplicit)(h:yo n=some x)(q:Q x σ):Ev p.M f.A W s (eval (.Name n.s pos) f.env) (KV p f lv Q) X:=
 (P.con n x h).elim fun cv z=>named P ok I hk z.1 (P.qd n).1 (.now I q (z.2.le I.Cc))
def JU(P:aO p)(ok:bA p f)(I:Inv p f W lv σ s){Q E:QQ}(hk:f.env.kindOf (aS x)=some .globalImplicit)
  (h:x∈tw) (hb:bootBuiltins (aS x)=some v) (hd:(aS x==("__debug__":Str))=false) (hn:aS x≠"__name__") (q:Q v s):av p.M f.A (eval (.Name (aS x) pos) f.env) Q E s:=
 of <| Name_function_global ok.kind hk (loadGlobal_builtin (ok.globals▸P.g.keeps I.stays) (P.CC x h) (ok.builtins▸P.b.keeps I.stays) ((P.bi _ hn).trans hb) q) hd
end
def gM(h:n≤bz):n≤sizeLine:=aH h (by decide +kernel)
def vn(z:n≤bz):(n:Int)<2 ^ 63:=Int.lt_of_le_of_lt (mj.mpr z) (by decide +kernel)
def vo(h:place n i=some k):k<n∧((0≤i∧i=k)∨(i<0∧i+n=k)):=by
 unfold place at h
 by_cases h0:0≤i
 ·rw[if_pos h0] at h
  by_cases h1:i<n
  ·rw[if_pos h1] at h
   obtain rfl:=aT h
   exact⟨(Int.toNat_lt h0).mpr h1,.inl ⟨h0,(nZ h0).symm⟩⟩
  ·rw[if_neg h1] at h;exact nn h
 ·rw[if_neg h0] at h
  by_cases h1:0≤i+n
  ·rw[if_pos h1] at h
   obtain rfl:=aT h
   have hi:=Int.not_le.mp h0
   exact⟨(Int.toNat_lt h1).mpr (by have:=Int.add_lt_add_right hi n;rwa [Int.zero_add] at this),.inr ⟨hi,(nZ h1).symm⟩⟩
  ·rw[if_neg h1] at h;exact nn h
def seqIndex_of(h:place n i=some k):seqIndex? i n=some k:=by
 obtain⟨a,b⟩:=vo h
 unfold seqIndex?
 rcases b with⟨b1,rfl⟩ | ⟨b1,b2⟩
 ·have:¬((k:Int)<0):=jj.mpr b1
  simp [this,a]
 ·simp only [b1,if_true,b2]
  simp [a]
def rD(h:place n i=some k)(z:n≤bz) : -(2 ^ 63)≤i∧i<2 ^ 63:=by
 obtain⟨a,b⟩:=vo h
 have l:=vn z
 rcases b with⟨b1,rfl⟩ | ⟨b1,b2⟩
 ·exact⟨fW (by decide) b1,Int.lt_trans (jK.mpr a) l⟩
 ·exact⟨by lia,Int.lt_trans b1 (by decide)⟩
def fits_of(h:place n i=some k)(z:n≤bz):Builtin.Bytes.fitsIndex i=true:=(g8).mpr ⟨fF (rD h z).1,fF (rD h z).2⟩
section
variable{W W':Wd}{α κ:Type}[DecidableEq κ]{k:α→κ}
def JV{es:List (κ×Value)}:valueAt ((a,v)::es) a=some v:=by unfold valueAt;rw[List.find?_cons,fF rfl];rfl
def CS{es:List (κ×Value)}(h:b≠a):valueAt ((b,v)::es) a=valueAt es a:=by unfold valueAt;rw[List.find?_cons,iS h]
structure yV(g:List (α×V)→α→Option V)(p:List (α×V)→α→V→List (α×V))(k:α→κ):Prop where
 inj:∀{a b},k a=k b→a=b
 gn:∀{a},g [] a=none
 gs:∀{a v r},g ((a,v)::r) a=some v
 ge:∀{a b v r},a≠b→g ((a,v)::r) b=g r b
 pn:∀{a v},p [] a v=[(a,v)]
 ps:∀{a v w r},p ((a,w)::r) a v=(a,v)::r
 pe:∀{a b v w r},a≠b→p ((a,w)::r) b v=(a,w)::p r b v
variable{g:List (α×V)→α→Option V}{pt:List (α×V)→α→V→List (α×V)}(G:yV g pt k)
include G
theorem eW.get{d:List (α×V)}:∀{es:List (κ×Value)},eW k W d es→g d n=some x→∃v,valueAt es (k n)=some v∧aD W x v:=by
 induction d with
 |nil=>exact fun _ h=>nn (G.gn.symm.trans h)
 |cons q r ih=>
  refine fun f=>ny f fun v es a b h=>?_
  by_cases e:q.1=n
  ·subst e;exact⟨v,JV,cA G.gs h▸a⟩
  ·rw[CS fun z=>e (G.inj z)];exact ih b ((G.ge e).symm.trans h)
theorem eW.none:∀{es:List (κ×Value)},eW k W d es→g d n=none→valueAt es (k n)=none:=by
 induction d with
 |nil=>exact fun e _=>e▸rfl
 |cons q r ih=>
  refine fun f=>ny f fun v es a b h=>?_
  have e:q.1≠n:=fun e=>by subst e;exact bU h G.gs
  rw[CS fun z=>e (G.inj z)];exact ih b ((G.ge e).symm.trans h)
theorem eW.vf(r:eW k W d es):(valueAt es (k n)).isSome=(g d n).isSome:=by
 cases h:g d n with
 |none=>rw[r.none G h];rfl
 |some x=>exact(r.get G h).elim fun v e=>e.1▸rfl
omit G in
theorem JW{es:List (κ×Value)}(h:a∉es.map (·.1)):stored ((a,v')::es) a v=(a,v)::es:=by
 have:(es.map fun kv=>if kv.1=a then(kv.1,v) else kv)=es:=map_store_of_not_mem es a v h
 simp only [stored,List.any_cons,decide_true,Bool.true_or,if_true,jJ,this]
omit G in
theorem JX{es:List (κ×Value)}(h:a≠n):stored ((a,v')::es) n v=(a,v')::stored es n v:=by
 unfold stored
 simp only [List.any_cons,h,decide_false,Bool.false_or,jJ,if_false]
 split <;> rfl
theorem eW.put{v:Value}(r:aD W x v):∀{es:List (κ×Value)},eW k W d es→(es.map (·.1)).Nodup→eW k W (pt d n x) (stored es (k n) v):=by
 induction d with
 |nil=>exact fun e _=>e▸G.pn▸⟨v,[],rfl,r,rfl⟩
 |cons q d ih=>
  refine fun f=>ny f fun v' es a b nd=>?_
  have vp:=fO.mp nd
  by_cases h:q.1=n
  ·subst h
   rw[JW vp.1]
   exact(show pt (q::d) q.1 x=_ from G.ps)▸⟨v,es,rfl,r,b⟩
  ·rw[JX fun z=>h (G.inj z)]
   exact(show pt (q::d) n x=_ from G.pe h)▸⟨v',_,rfl,a,ih b vp.2⟩
theorem CT:(pt d n x).length≤d.length+1:=by
 induction d with
 |nil=>exact G.pn▸cL _
 |cons q r ih=>
  by_cases h:q.1=n
  ·subst h;exact(show pt (q::r) q.1 x=_ from G.ps)▸Nat.le_succ _
  ·exact(show pt (q::r) n x=_ from G.pe h)▸lF ih
end
def tC(P:aO p):yV aF aB Nm.s:=⟨P.inj _ _,rfl,fZ,dZ,rfl,pY,ou⟩
def oG:yV fH nt (id:Int→Int):=⟨id,rfl,if_pos rfl,fun h=>if_neg h,rfl,if_pos rfl,fun h=>if_neg h⟩
section
variable{prog:Program}{w:World}{K:Type}[DecidableEq K]{knd:PySem.KeyKind prog w K}{h:Heap}{a:Addr}{kvs:List (K×Value)}
def DictOf.nodup(d:h.DictOf knd a kvs):(kvs.map (·.1)).Nodup:=by
 obtain⟨_,_,_,_,_,_,_,_,n⟩:=d
 exact n
def DictOf.there(d:h.DictOf knd a kvs):∃o,h.get? a=some o:=d.elim fun o d=>d.elim fun _ d=>d.elim fun _ d=>⟨o,d.1⟩
end
section
variable{C:Value→Prop}
def SeqAt.obj(I:Inv p f W lv σ s)(h:SeqAt W t a items):∃n,s.heap.get? a=some (lN t items n):=h.elim fun k h=>(I.aC h).elim fun o' z=>⟨k,z.1.trans (aa some z.2)⟩
def vq{h:Heap}(e:h.get? a=some (lN "tuple" items n)):h.IsTuple a ⟨items⟩:=⟨_,e,rfl,n,rfl⟩
def gm{h:Heap}(e:h.get? a=some (jm items n)):h.IsList a ⟨items⟩:=⟨_,e,rfl,n,rfl⟩
@[elab_as_elim] theorem nB (I:Inv p f W lv σ s) (r:aD W (.ref l) cv) (h:σ.hp l=some (.list xs)) (k:∀q items n,W.loc l=some q→s.heap.get? q.1=some (jm items n)→aN W xs items→xs.length≤bz→C (.ref q.1)):C cv:=
 oF r fun q e=>(I.cell e h).elim fun items x=>x.elim fun n x=>k q items n e x.1 x.2.1 x.2.2
@[elab_as_elim] theorem jW (I:Inv p f W lv σ s) (r:aD W v cv) (h:ic σ v=some xs) (k:∀a items n,s.heap.get? a=some (jm items n)→aN W xs items→xs.length≤bz→C (.ref a)):C cv:=by
 cases v with
 |fl l=>
  obtain rfl:=aT h
  exact r.elim fun a r=>r.elim fun items r=>r.1▸(r.2.1.obj I).elim fun n g=>k a items n g r.2.2.2 r.2.2.1
 |ref l=>exact nB I r (s7 h) fun q items n e g rr z=>k q.1 items n g rr z
 |_=>exact nn h
@[elab_as_elim] theorem oH (I:Inv p f W lv σ s) (r:aD W (.tup xs) cv) (k:∀a items,s.heap.IsTuple a ⟨items⟩→aN W xs items→xs.length≤bz→C (.ref a)):C cv:=
 r.elim fun a r=>r.elim fun items r=>r.1▸k a items ((r.2.1.obj I).elim fun n g=>vq g) r.2.2.2 r.2.2.1
@[elab_as_elim] theorem oK (I:Inv p f W lv σ s) {d:List (Int×V)} (r:aD W (.ref l) cv) (h:σ.hp l=some (.bI d)) (k:∀q kvs,W.loc l=some q→s.heap.DictOf (intKind p.prog p.w) q.1 kvs→s8 W d kvs→d.length≤bz→C (.ref q.1)):C cv:=
 oF r fun q e=>(I.cell e h).elim fun kvs x=>k q kvs e x.1 x.2.1 x.2.2
@[elab_as_elim] theorem rE (I:Inv p f W lv σ s) {d:List (Nm×V)} (r:aD W (.ref l) cv) (h:σ.hp l=some (.sd d)) (k:∀q kvs,W.loc l=some q→s.heap.DictOf (strKind p.prog p.w) q.1 kvs→jU W d kvs→d.length≤bz→C (.ref q.1)):C cv:=
 oF r fun q e=>(I.cell e h).elim fun kvs x=>k q kvs e x.1 x.2.1 x.2.2
@[elab_as_elim] theorem rF (I:Inv p f W lv σ s) {b:List Nat} (r:aD W (.ref l) cv) (h:σ.hp l=some (.bB b)) (k:∀q bs,W.loc l=some q→s.heap.get? q.1=some (dR bs)→bs.toList.map UInt8.toNat=b→bs.size=b.length→b.length≤bz→C (.ref q.1)):C cv:=
 oF r fun q e=>(I.cell e h).elim fun bs x=>k q bs e x.1 x.2.1 (x.2.1▸((bJ _).trans Array.length_toList).symm) x.2.2
@[elab_as_elim] theorem cM {i:Int} (r:aD W v cv) (h:v.int?=some i) (k:∀t,C (.int i t)):C cv:=by
 obtain rfl:=I7 h
 exact r.elim fun t e=>e▸k t
@[elab_as_elim] theorem CU {i:Nm} (r:aD W v cv) (h:v.nj=some i) (k:∀t,C (.str i.s t)):C cv:=by
 obtain rfl:=BX h
 exact r.elim fun t e=>e▸k t
@[elab_as_elim] theorem CV {l:List Nat} (r:aD W v cv) (h:v.uV=some l) (k:∀b t,b.toList.map UInt8.toNat=l→l.length≤bz→C (.bytes b t)):C cv:=by
 obtain rfl:=I8 h
 exact r.elim fun b e=>e.elim fun t e=>e.1▸k b t e.2.1 e.2.2
end
def qg{k:Nat}(h:items[k]?=some v):(⟨items⟩:Array Value)[k]?=some v:=(List.getElem?_toArray ..).trans h
section
variable{E:QQ}
def JY(hl:s.heap.IsList l items)
  (h:place items.size i=some k) (z:items.size≤bz) (hx:items[k]?=some x) (q:Q x s):av (model prog w) A (getItem (.ref l) (.int i t)) Q E s:=by
 obtain⟨a,b⟩:=vo h
 obtain⟨c,d⟩:=rD h z
 rcases b with⟨b1,rfl⟩ | ⟨b1,b2⟩
 ·exact of <| wpAny_getItem_list hl b1 d (by rw[Int.toNat_natCast];exact hx) q
 ·exact of <| wpAny_getItem_list_neg hl b1 (Int.neg_le_of_neg_le (by have:=jf k;rw[←b2] at this;exact Int.le_of_sub_nonneg (by rw[Int.sub_neg,Int.add_comm];exact this))) c (by rw[b2,Int.toNat_natCast];exact hx) q
def oM:(PySem.intKind prog w).is k (.int k t)=true:=by simp [PySem.intKind,Value.isInt]
def yW:(PySem.strKind prog w).is k (.str k t)=true:=by simp [PySem.strKind,Value.isStrOf]
def JZ(items:Array Value)(n:Nat)(j:Nat)(v:Value):∃n',Obj.mapSeq (·.setIfInBounds j v) {cls := .type "list",data := .seq items n}={cls := .type "list",data := .seq (items.setIfInBounds j v) n'}:=by
 exact⟨_,rfl⟩
def J0{k:Int}(hl:s.heap.get? l=some {cls := .type "list",data := .seq items n})
  (h0:0≤k) (hfit:k<2 ^ 63) (hn:k<items.size)
  (hQ:∀h' n',h'.get? l=some {cls := .type "list",data := .seq (items.setIfInBounds k.toNat v) n'}→Heap.SameBut l s.heap h'→Q () {s with heap:=h'}):
  PySem.wpAny (model prog w) A (setItem (.ref l) (.int k t) v) Q E s:=by
 have hL:s.heap.IsList l items:=⟨_,hl,rfl,n,rfl⟩
 unfold setItem
 try with_reducible refine nX ?_
 first | refine aP (bX ?_) | skip
 refine aP (PySem.wpAny_sequenceKey hL.typeIs (by decide) ?_)
 refine aP (PySem.wpAny_callSpecial?_slot (name:=Str.ofString "__setitem__") hL.typeIs slot_list_setitem
  (PySem.wpAny_call_entry slot_list_setitem hL.typeIs entry_list_setitem ?_ (args_list_setitem _ _ _)))
 show PySem.wpAny _ _ (Builtin.List.listSubscript? (.int k t)>>=_) _ _ s
 refine aP (PySem.wpAny_listSubscript_int (fitsIndex_of h0 hfit) ?_)
 clear hfit
 obtain⟨j,rfl⟩:=Int.eq_ofNat_of_zero_le h0
 have hx':items[j]?=some items[j]:=Array.getElem?_eq_getElem (jK.mp hn)
 refine aP (aP (PySem.wpAny_seqItemAt hl rfl (bX ?_)))
 rw[hx']
 show PySem.wpAny _ _ (setSeqItemAt l j v>>=_) _ _ s
 obtain⟨n',e⟩:=JZ items n j v
 have CW:(s.heap.update l (Obj.mapSeq (·.setIfInBounds j v))).get? l=some {cls := .type "list",data := .seq (items.setIfInBounds j v) n'}:=by
  rw[qT _ hl (by rw[e];rfl),e]
 refine aP (PySem.wpAny_setSeqItemAt hl rfl ?_)
 first
  |exact aP (bX (bX ⟨.none,rfl,bX (hQ _ _ CW (Heap.SameBut.update ..))⟩))
  |exact bX ⟨.none,rfl,bX (hQ _ _ CW (Heap.SameBut.update ..))⟩
end
section
inductive CX(M:Model)(A:Around)(o i:Value)(Q:QQ)(E:QQ)(s:Shared):Prop
 |mk (T id:String) (t:s.TypeIs o T) (l:typeLookup (.type T) "__getitem__"=pure (some (.builtin id))) (g:av M A (getItem o i) Q E s)
def CY(h:at_ l i=some x):∃j k,i.int?=some j∧place l.length j=some k∧l[k]?=some x:=aX h fun j e h=>aX h fun k e2 h=>⟨j,k,e,e2,h⟩
def CZ(P:aO p)(I:Inv p f W lv σ s){cv ci:Value}(r:aD W v cv)(ri:aD W i ci)(h:fy σ v i=some x)(q:Q x σ):CX p.M f.A cv ci (PK W s (KV p f lv Q)) (PK W s X) s:=by
 have lst:∀{a:Addr} {items:List Value} {vs:List V},s.heap.IsList a ⟨items⟩→aN W vs items→vs.length≤bz→at_ vs i=some x→CX p.M f.A (.ref a) ci (PK W s (KV p f lv Q)) (PK W s X) s:=fun{a items vs} hl rr z h=>by
  obtain⟨j,k,e,hk,hx⟩:=CY h
  refine cM ri e fun t=>(rr.get hx).elim fun cx hc=>⟨"list",_,hl.typeIs,slot_list_getitem.lookup,JY hl (k:=k) ?_ (aH (cT rr.length) z) (qg hc.1) (.now I q hc.2)⟩
  exact(aa (place · j) rr.length).trans hk
 cases v with
 |tup l=>
  obtain⟨j,k,e,hk,hx⟩:=CY h
  refine oH I r fun a items hT rr z=>cM ri e fun t=>(rr.get hx).elim fun cx hc=>⟨"tuple",_,hT.typeIs,slot_tuple_getitem.lookup,of <| getItem_tuple hT (rD hk z).1 (rD hk z).2 (j:=k) (seqIndex_of ?_) (qg hc.1) (.now I q hc.2)⟩
  exact(aa (place · j) rr.length).trans hk
 |fl l=>exact jW I r (σ:=σ) rfl fun a items n g rr z=>lst (gm g) rr z h
 |ref l=>
  refine aX h fun c hc h1=>?_
  cases c with
  |list vs=>exact nB I r hc fun q' items n e g rr z=>lst (gm g) rr z h1
  |bB b=>
   refine aX h1 fun j e h2=>aX h2 fun k hk h3=>bW h3 fun u hu hx=>?_
   subst hx
   refine rF I r hc fun q' bs _ g rr hn z=>cM ri e fun t=>?_
   rw[←rr,fV] at hu
   refine bW hu fun u' h1 h2=>⟨_,_,⟨_,g,rfl⟩,yO.lookup,of <| JD g (fits_of hk z) (c:=u') ?_ (.now I q (h2▸⟨_,rfl⟩))⟩
   rw[hn,seqIndex_of hk]
   exact(Array.getElem?_toList ..).symm.trans h1
  |sd d=>
   exact aX h1 fun k e hx=>rE I r hc fun q' kvs _ g rr z=>CU ri e fun t=>(rr.get (tC P) hx).elim fun y hy=>⟨"dict",_,g.typeIs,slot_dict_getitem.lookup,of <| wpAny_getItem_of (knd:=strKind p.prog p.w) (k:=k.s) yW g.mapOf hy.1 (.now I q hy.2)⟩
  |bI d=>
   exact aX h1 fun k e hx=>oK I r hc fun q' kvs _ g rr z=>cM ri e fun t=>(rr.get oG hx).elim fun y hy=>⟨"dict",_,g.typeIs,slot_dict_getitem.lookup,of <| wpAny_getItem_of (knd:=intKind p.prog p.w) (k:=k) oM g.mapOf hy.1 (.now I q hy.2)⟩
  |inst _=>exact nn h1
 |_=>exact nn h
def J1(P:aO p)(I:Inv p f W lv σ s){cv ci:Value}(r:aD W v cv)(ri:aD W i ci)(h:fy σ v i=some x)(q:Q x σ):Ev p.M f.A W s (getItem cv ci) (KV p f lv Q) X:=
 (CZ P I r ri h q).casesOn fun _ _ _ _ g=>g
def J2{value slice:Expr}(P:aO p)(I:Inv p f W lv σ s){cv ci:Value}(r:aD W v cv)(ri:aD W i ci)(h:fy σ v i=some x)(hs:subscripted slice false cv ci=operate [cv,ci] (getItem cv ci))(q:Q x σ):
  Ev p.M f.A W s (subscriptTail value slice cv ci) (KV p f lv Q) X:=(CZ P I r ri h q).casesOn fun _ _ t l g=>tail_any t l g hs
def PK.turned(ok:bA p f)(I:Inv p f W lv σ s)(hl:W.loc l=some q)(w:Q x (σ.set l c'))(r:R W a x)(hs:Heap.SameBut q.1 s.heap h')(hx:∃o,h'.get? q.1=some o)(hc:ir p W h' l q.1 q.2 c')
  : PK W s (KR p f lv R Q) a {s with heap:=h',toks:=tk}:=
 have T:=I.Ce (tk:=tk) ok hl rfl hs hx hc
 ⟨W,T.2,_,x,T.1,r,w⟩
def PK.tD{Q:St→Prop}(ok:bA p f)(I:Inv p f W lv σ s)(hl:W.loc l=some q)(w:Q (σ.set l c'))(hs:Heap.SameBut q.1 s.heap h')(hx:∃o,h'.get? q.1=some o)(hc:ir p W h' l q.1 q.2 c'):
  PK W s (KU p f lv Q) () {s with heap:=h',toks:=tk}:=
 have T:=I.Ce (tk:=tk) ok hl rfl hs hx hc
 ⟨W,T.2,_,(),T.1,trivial,w⟩
def C0(ok:bA p f)(P:aO p)(I:Inv p f W lv σ s){cv ci cx:Value}{Q:St→Prop}(r:aD W v cv)(ri:aD W i ci)(rx:aD W x cx)(h:fQ σ v i x=some σ')(w:Q σ'):Ev p.M f.A W s (setItem cv ci cx) (KU p f lv Q) X:=by
 refine aX h fun l e h1=>aX h1 fun c hc h2=>bW h2 fun c' hp e2=>?_
 subst e2
 obtain rfl:=pZ e
 cases c with
 |inst _=>exact nn hp
 |bB b=>
  refine aX hp fun i e1 h3=>aX h3 fun y e2 h4=>aX h4 fun y' hy h5=>ig hy fun hb ey=>bW h5 fun k hk ek=>?_
  subst ey ek
  refine rF I r hc fun q bs hl g rr hn z=>cM ri e1 fun t=>cM rx e2 fun u=>of <| JE g (fits_of hk z) (k:=k) (hn▸seqIndex_of hk) (hn▸gM z) hb.1 hb.2 fun h' g' hs => .tD ok I hl w hs ⟨_,g'⟩ ⟨_,g',?_,by rw[cg];exact z⟩
  rw[←rr,Array.toList_setIfInBounds,List.map_set,show(y.toNat.toUInt8).toNat=y.toNat from UInt8.toNat_ofNat_of_lt' ((Int.toNat_lt hb.1).mpr hb.2)]
 |list vs=>
  refine aX hp fun i e1 h3=>aX h3 fun i' hi h4=>ig hi fun h0 ei=>bW h4 fun k hk ek=>?_
  subst ei ek
  obtain⟨q1,q2⟩:=vo hk
  obtain rfl:i=k:=q2.elim (·.2) fun q=>absurd h0 (Int.not_le.mpr q.1)
  refine nB I r hc fun q items n hl g rr z=>cM ri e1 fun t=>of <| J0 g h0 (rD hk z).2 (jK.mpr (ng q1 rr.length.symm)) fun h' n' g' hs => .tD (tk:=s.toks) ok I hl w hs ⟨_,g'⟩ ⟨_,n',g'.trans (by rw[Int.toNat_natCast,List.setIfInBounds_toArray]),rr.set rx,by rw[cg];exact z⟩
 |sd d=>
  refine aX hp fun k e1 h3=>ig h3 fun zz ek=>?_
  subst ek
  refine rE I r hc fun q kvs hl g rr z=>CU ri e1 fun t=>of <| wpAny_setItem_pairs (knd:=PySem.strKind p.prog p.w) (k:=k.s) yW g (fun h' g' hs => .tD ok I hl w hs (DictOf.there g') ⟨_,g',rr.put (tC P) rx (DictOf.nodup g),aH (CT (tC P)) zz⟩) (gM (rr.length▸z))
 |bI d=>
  refine aX hp fun k e1 h3=>ig h3 fun zz ek=>?_
  subst ek
  refine oK I r hc fun q kvs hl g rr z=>cM ri e1 fun t=>of <| wpAny_setItem_pairs (knd:=PySem.intKind p.prog p.w) (k:=k) oM g (fun h' g' hs => .tD ok I hl w hs (DictOf.there g') ⟨_,g',rr.put oG rx (DictOf.nodup g),aH (CT oG) zz⟩) (gM (rr.length▸z))
def yX(l:List α)(lo hi:Option Int):cut l lo hi=(l.drop (lo.elim 0 (clipAt l.length))).take (hi.elim l.length (clipAt l.length) - lo.elim 0 (clipAt l.length)):=by
 unfold cut
 rw[show((lo.map (clip l.length)).getD 0)=lo.elim 0 (clipAt l.length) by cases lo <;> rfl,show((hi.map (clip l.length)).getD l.length)=hi.elim l.length (clipAt l.length) by cases hi <;> rfl,List.drop_take]
def C1{lo hi:Option Int}:(cut l lo hi).length≤l.length:=by
 rw[yX,List.length_take,List.length_drop];exact aH (Nat.min_le_right _ _) (Nat.sub_le _ _)
noncomputable abbrev tE(ca cb:Value):Obj:={cls := .type "slice",data := .fields #[ca,cb,.none]}
def C2{lo hi:Option Expr}(I:Inv p f W lv σ s)(r:aD W v cv)(pa:IsPart ca a)(pb:IsPart cb b)(h:Mine.Internal.slice σ v a b=some x)(w:Q x σ):
  Ev p.M f.A W {s with heap:=s.heap.push (tE ca cb)} (subscriptTail base (.Slice lo hi none pp) cv (.ref s.heap.objs.size)) (KV p f lv Q) X:=by
 have I':=I.push (o:=tE ca cb)
 have lst:∀{xs:List V},ic σ v=some xs→x = .fl (cut xs a b)→Ev p.M f.A W {s with heap:=s.heap.push (tE ca cb)} (subscriptTail base (.Slice lo hi none pp) cv (.ref s.heap.objs.size)) (KV p f lv Q) X:=fun{xs} hc e=>by
  subst e
  refine jW I r hc fun a1 items n g rr z=>?_
  have hL:=(gm g).push (tE ca cb)
  have hn:(⟨items⟩:Array Value).size=xs.length:=rr.length
  refine tail_any hL.typeIs slot_list_getitem.lookup (of <| wpAny_getItem_list_slice hL (Heap.IsSliceOf.new ..) pa pb .none (by simp) ?_ (gM (aH (cT hn) z))) rfl
  rw[slicePick_plain,hn]
  exact .newL (z:=true) I'.push (.push) (gK _) I'.jo (iB _ rfl) (vs:=cut xs a b) (by rw[yX];exact rr.drop.take) (aH C1 z) w
 cases v with
 |bytes l=>
  obtain rfl:=aT h
  obtain⟨bs,t,rfl,e,z⟩:=r
  have hl:bs.size=l.length:=e▸((bJ _).trans Array.length_toList).symm
  refine tail_any (typeIs_bytes _ bs t) FB.slot_bytes_getitem.lookup (of <| getItem_meets (typeIs_bytes _ _ _) (by decide) FB.slot_bytes_getitem FB.entry_bytes_getitem (FB.args_bytes_getitem_2 _ _) (KBc.meets_slice2 bs t _ pa pb)
   ⟨Heap.IsSliceOf.new _ _ _ _,aH (KBc.size_picked_le bs a b) (by rw[hl];exact gM z),fun t' k => .now I' w ⟨_,_,rfl,?_,aH C1 z⟩⟩) rfl
  rw[KBc.picked_eq,yX,hl,←e,List.map_take,List.map_drop]
 |fl l=>exact lst rfl (aT h).symm
 |ref l=>exact bW h fun xs hc e=>lst hc e.symm
 |_=>exact nn h
end
def C4(h:k.natAbs<2 ^ 64):Builtin.Int.intBits k≤64:=intBits_le_64 (by omega) (by omega)
def J3(h:a.natAbs<2 ^ 64∨b.natAbs<2 ^ 64):IntMulOk a b:=h.elim (fun h => .of_left (C4 h)) fun h => .of_right (C4 h)
def J4(h0:0≤b)(h1:b≤1000):¬(!Builtin.List.listFitsIndex b)=true:=by simp [Builtin.List.listFitsIndex];omega
section
def bA.deep(ok:bA p f)(h:Nat.ble n 150=true):f.A.depth+n<recursionLimit:=fU (aH (qV (bw h) _) (kq (n7 _ _) _)) ok.aG
def bA.unit(ok:bA p f)(h:Nat.ble n 200=true):f.A.units+n<cLine:=fU (aH (qV (bw h) _) (kq (n7 _ _) _)) ok.units
def J6(ok:bA p f)(P:aO p)(I:Inv p f W lv σ s):PylongRoom p.M f.A s:=
 ok.head.elim fun e h=>h.elim fun r h=>PylongRoom.of (P.nolimit.keeps I.stays) (ok.deep (n:=100) rfl) (SeerAt.of (P.seer.keeps I.stays) P.tree (ok.frames.trans (aa some h.1)) h.2.2.1 h.2.2.2.1 h.2.2.2.2.1 h.2.2.2.2.2)
def C5:∀{n},(rep l n).length=l.length * n:=by
 intro n
 induction n with
 |zero=>rfl
 |succ n ih=>rw[rep,cG,ih,Nat.mul_succ,Nat.add_comm]
def J7(r:aN W vs items):aN W (rep vs n) (List.replicate n items).flatten:=by
 induction n with
 |zero=>exact .nil
 |succ n ih=>rw[List.replicate_succ,List.flatten_cons];exact aN.append ih r
def J8(r:aN W vs items)(n:Nat):aN W (rep vs n) (List.foldl (fun x1 x2=>x1++x2) #[] (List.replicate (if(⟨items⟩:Array Value).isEmpty=true then 0 else n) (⟨items⟩:Array Value))).toList:=by
 have key:∀(n:Nat) (acc:Array Value),(List.foldl (fun x1 x2=>x1++x2) acc (List.replicate n (⟨items⟩:Array Value))).toList=acc.toList++(List.replicate n items).flatten:=by
  intro n
  induction n with
  |zero=>intro acc;exact(fP _).symm
  |succ n ih=>intro acc;rw[List.replicate_succ,List.foldl_cons,ih,Array.toList_append,List.replicate_succ,List.flatten_cons,ku]
 rw[key]
 cases items with
 |nil=>
  have hv:vs=[]:=List.length_eq_zero_iff.mp r.length.symm
  subst hv
  have:∀n,rep [] n=[]:=fun n=>List.length_eq_zero_iff.mp (C5.trans (Nat.zero_mul _))
  rw[this];exact .nil
 |cons a b=>exact J7 r
def J9{b1 b2:Array UInt8}:(b1++b2).toList.map UInt8.toNat=b1.toList.map UInt8.toNat++b2.toList.map UInt8.toNat:=by rw[Array.toList_append,ia]
def bsize{b:Array UInt8}(h:b.toList.map UInt8.toNat=l):b.size=l.length:=h▸((bJ _).trans Array.length_toList).symm
def Ka(ok:bA p f)(P:aO p)(I:Inv p f W lv σ s)(ra:aD W a ca)(rb:aD W b cb)(h:jO o a b=some x)(w:Q x σ):Ev p.M f.A W s (binaryOp (pW o) ca cb) (KV p f lv Q) X:=by
 have fin:∀{i:Int} {t tk:Tok},x = .int i→PK W s (KV p f lv Q) (.int i t) {s with toks:=tk}:=fun e => .now I w (e▸⟨_,rfl⟩)
 cases o with
 |add=>
  cases a with
  |int i=>exact bW h fun j e q=>ra.elim fun t ra=>ra▸cM rb e fun u=>of <| PySem.P.add_int (fin q.symm)
  |bytes l=>
   refine aX h fun j e q=>ig q fun z q=>?_
   subst q
   obtain⟨b1,t,rfl,e1,_⟩:=ra
   refine CV rb e fun b2 u e2 _=>of <| PySem.W.KBy.add_bytes ?_ fun t' k=>PK.now I w ⟨_,_,rfl,by rw[J9,e1,e2],by rw[cG];exact z⟩
   rw[bsize e1,bsize e2];exact aH z (by decide +kernel)
  |_=>exact nn h
 |sub=>exact aX h fun i e1 h=>bW h fun j e2 q=>cM ra e1 fun t=>cM rb e2 fun u=>of <| PySem.P.sub_int (fin q.symm)
 |mul=>exact aX h fun i e1 h=>aX h fun j e2 h=>ig h fun z q=>cM ra e1 fun t=>cM rb e2 fun u=>of <| PySem.P.mul_int (fin q.symm) (J3 z)
 |fdiv=>exact aX h fun i e1 h=>aX h fun j e2 h=>ig h fun z q=>cM ra e1 fun t=>cM rb e2 fun u=>of <| floordiv_int z (fin q.symm) (.inr (J6 ok P I))
 |mod=>exact aX h fun i e1 h=>aX h fun j e2 h=>ig h fun z q=>cM ra e1 fun t=>cM rb e2 fun u=>of <| mod_int' z (fin q.symm)
 |pow=>exact aX h fun i e1 h=>aX h fun j e2 h=>ig h fun z q=>cM ra e1 fun t=>cM rb e2 fun u=>of <| pow_int_small z.1 (by have:=z.2.1;omega) z.2.2 (fin q.symm)
def Kc(I:Inv p f W lv σ s)(ra:aD W a ca)(rb:aD W b cb)(h:lop σ o a b=some x)(w:newL z x σ Q):Ev p.M f.A W s (binaryOp (pW o) ca cb) (KV p f lv Q) X:=by
 have fin:∀{items:List Value},x.length≤bz→aN W x items→PK W s (KV p f lv Q) (.ref s.heap.objs.size) {s with heap:=s.heap.push (jm items 0)}:=fun hz r => .newL I.push .push (gK _) I.jo (iB _ rfl) r hz w
 cases o with
 |add=>
  refine aX h fun x1 c1 h=>aX h fun x2 c2 h=>ig h fun hz q=>jW I ra c1 fun a1 i1 n1 g1 r1 z1=>jW I rb c2 fun a2 i2 n2 g2 r2 z2=>?_
  subst q
  refine of <| concat_meets ⟨_,g1,rfl⟩ ⟨_,g2,rfl⟩ noFill_list_add seq_list_add PySem.F.slot_list_add PySem.F.entry_list_add (PySem.F.args_list_add_2 _ _) (list_addW a1 a2 ⟨i1⟩ ⟨i2⟩ n1 n2 _ _ _ _ ?_) ⟨g1,g2,?_⟩
  ·show i1.length+i2.length≤sizeLine
   rw[r1.length,r2.length];exact gM hz
  ·rw[show(⟨i1⟩++⟨i2⟩:Array Value)=⟨i1++i2⟩ by simp]
   exact fin (by rw[cG];exact hz) (aN.append r2 r1)
 |mul=>
  refine aX h fun x1 c1 h=>aX h fun b' e h=>ig h fun z q=>jW I ra c1 fun a1 i1 n1 g1 r1 z1=>cM rb e fun u=>?_
  subst q
  have hb:b'.toNat≤1000:=Int.toNat_le.mpr z.2.1
  have hm:x1.length * b'.toNat≤1000000:=Nat.mul_le_mul z.2.2 hb
  have hs:(⟨i1⟩:Array Value).size * b'.toNat≤1000000:=by show i1.length * b'.toNat≤_;rw[r1.length];exact hm
  exact of <| wpAny_binaryOp_repeat_ref (T:="list") (U:="int") (by decide) ⟨_,g1,rfl⟩ (fun s'=>typeIs_int s' b' u) noFill_list_mul F.fills_int_mul F.slot_int_rmul repeat_list F.slot_int_index.lookup
   (call_meets F.slot_int_rmul (typeIs_int s b' u) F.entry_int_rmul (F.args_int_rmul_2 _ _) (int___rmul___int_list b' u a1 ⟨i1⟩ n1)
   ⟨g1,rfl,⟨_,g1,rfl⟩,call_meets F.slot_list_mul ⟨_,g1,rfl⟩ F.entry_list_mul (F.args_list_mul_2 _ _)
    (AutoListH.list___mul___list_int_3 a1 ⟨i1⟩ n1 b' u (J4 z.1 z.2.1) (Nat.not_lt.mpr (aH hs (by decide:1000000≤(2 ^ 63 - 1) / 8))) (fun h=>absurd (iD h) (Nat.not_lt.mpr (aH hs (by decide +kernel:1000000≤2 ^ 24)))))
    ⟨g1,fin (by rw[C5];exact hm) (J8 r1 b'.toNat)⟩⟩)
 |_=>exact nn h
end
noncomputable def Kd:Value→Nat
 |.none=>1 | .bool _=>2 | .int _ _=>3 | .str _ _=>4 | .bytes _ _=>5 | .ref _=>6 | _=>0
noncomputable def V.code:V→Nat
 |.none=>1 | .bool _=>2 | .int _=>3 | .str _=>4 | .bytes _=>5 | .tup _=>6 | .fl _=>6 | .ref _=>6
def oN{P:Prop}(c:a=b)(h:Nat.beq a b=false):P:=by subst c;rw[dh] at h;exact tf h
open PySem.SeqAt in
section
theorem aD.code:aD W x v→x.code=Kd v:=
 V.casesOn x (fun e=>e▸rfl) (fun _ e=>e▸rfl) (fun _ e=>e.elim fun _ e=>e▸rfl) (fun _ e=>e.elim fun _ e=>e▸rfl) (fun _ e=>e.elim fun _ e=>e.elim fun _ e=>e.1▸rfl)
  (fun _ e=>e.elim fun _ e=>e.elim fun _ e=>e.1▸rfl) (fun _ e=>e.elim fun _ e=>e.elim fun _ e=>e.1▸rfl) fun _ e=>e.elim fun _ e=>e.1▸rfl
structure Apart(W:Wd):Prop where
 nm:∀n m:Nm,n.s=m.s→n=m
 lc:∀{l q},W.loc l=some q→W.aC q.1=some (.cell l)
def vv{P:Prop}(x:iJ W t n R v)(y:iJ W t' n' R' v)(k:∀items,t=t'→R items→R' items→P):P:=by
 obtain⟨a,i,rfl,⟨k1,e1⟩,_,r1⟩:=x
 obtain⟨a',i',e,⟨k2,e2⟩,_,r2⟩:=y
 cases e
 have z:=cA e1 e2
 cases z
 exact k i rfl r1 r2
def vz(h:Apart W){P:Prop}(x:iJ W t n R v)(y:aD W (.ref l) v):P:=
 oF (C:=fun v=>iJ W t n R v→P) y (fun q e x=>x.elim fun a x=>x.elim fun i x=>x.2.1.elim fun k z=>by
  have:=x.1;injection this with this
  exact(kF (h.lc e) z rfl this).elim) x
def aD.inj'(h:Apart W)(x:V):∀y v,aD W x v→aD W y v→x=y:=
 V.rec (motive_1:=fun x=>∀y v,aD W x v→aD W y v→x=y) (motive_2:=fun l=>∀m vs,aN W l vs→aN W m vs→l=m)
  (fun y v e r=>by cases y <;> first | exact oN (e.code.trans r.code.symm) rfl | rfl)
  (fun b y v e r=>by cases y <;> first | exact oN (e.code.trans r.code.symm) rfl | exact aa _ (by injection (e:v=_).symm.trans r))
  (fun b y v e r=>by cases y <;> first | exact oN (e.code.trans r.code.symm) rfl | exact e.elim fun _ e=>r.elim fun _ r=>aa _ (by injection e.symm.trans r))
  (fun b y v e r=>by cases y <;> first | exact oN (e.code.trans r.code.symm) rfl | exact e.elim fun _ e=>r.elim fun _ r=>aa _ (h.nm _ _ (by injection e.symm.trans r)))
  (fun b y v e r=>by cases y <;> first | exact oN (e.code.trans r.code.symm) rfl | (obtain⟨_,_,rfl,q,_⟩:=e;obtain⟨_,_,z,q',_⟩:=r;cases z;rw[←q,←q']))
  (fun l ih y v e r=>by
   cases y with
   |tup m=>exact vv e r fun i _ r1 r2=>aa _ (ih m i r1 r2)
   |fl m=>exact vv e r fun i t _ _=>absurd t (by decide)
   |ref l=>exact vz h e r
   |_=>exact oN (e.code.trans r.code.symm) rfl)
  (fun l ih y v e r=>by
   cases y with
   |fl m=>exact vv e r fun i _ r1 r2=>aa _ (ih m i r1 r2)
   |tup m=>exact vv e r fun i t _ _=>absurd t (by decide)
   |ref l=>exact vz h e r
   |_=>exact oN (e.code.trans r.code.symm) rfl)
  (fun l y v e r=>by
   cases y with
   |fl m=>exact vz h r e
   |tup m=>exact vz h r e
   |ref m=>
    obtain⟨a,rfl,e⟩:=e
    obtain⟨a',z,r⟩:=r
    cases z
    exact bW e fun q e1 e2=>bW r fun q' r1 r2=>aa _ (by have:=cA (h.lc e1) ((aa W.aC (e2.trans r2.symm)).trans (h.lc r1));injection this)
   |_=>exact oN (e.code.trans r.code.symm) rfl)
  (fun m vs e r=>by
   cases m with
   |nil=>rfl
   |cons y m=>obtain⟨_,_,r,_⟩:=r;exact nomatch e.symm.trans r)
  (fun x l i1 i2 m vs e r=>by
   obtain⟨v,vs,rfl,a,b⟩:=e
   cases m with
   |nil=>exact nomatch r
   |cons y m=>
    obtain⟨_,_,z,a',b'⟩:=r
    cases z
    rw[i1 y v a a',i2 m vs b b']) x
def Inv.apart(P:aO p)(I:Inv p f W lv σ s):Apart W:=⟨P.inj,fun h=>(I.loc h).1.1⟩
def Inv.inj(P:aO p)(I:Inv p f W lv σ s)(a:aD W x v)(b:aD W y v):x=y:=aD.inj' (I.apart P) x y v a b
def at2 (g:V→V→Option Bool)(e:Nat→Bool)(a b:List V):Prop:=∀j x y,a[j]?=some x→b[j]?=some y→g x y=some (e j)
def C6:∀{b:List V} {r:Bool},all2 g a b=some r→∃e:Nat→Bool,at2 g e a b∧r=((List.range (min a.length b.length)).all e&&a.length==b.length):=by
 induction a with
 |nil=>intro b r h;cases b <;> exact⟨fun _=>true,fun _ _ _=>nn,(aT h).symm⟩
 |cons x a ih=>
  intro b r h
  cases b with
  |nil=>exact⟨fun _=>true,fun _ _ _ _=>nn,(aT h).symm⟩
  |cons y b=>
   refine aX h fun p' h1 h=>aX h fun q' h2 h=>(ih h2).elim fun e he=>⟨fun j=>Nat.casesOn j p' e,fun j x' y' h3 h4=>?_,?_⟩
   ·cases j with
    |zero=>exact aT h3▸aT h4▸h1
    |succ j=>exact he.1 j x' y' h3 h4
   ·rw[←aT h,he.2,List.length_cons,List.length_cons,Nat.succ_min_succ,List.range_succ_eq_map,List.all_cons,List.all_map,Bool.and_assoc]
    exact aa (fun z=>p'&&((List.range (min a.length b.length)).all e&&z)) (lH.mpr (by rw[beq_iff_eq,beq_iff_eq];exact⟨aa _,Nat.succ.inj⟩))
def C7(hg:∀x b,g x x=some b→b=true):∀{r:Bool},all2 g a a=some r→r=true:=by
 induction a with
 |nil=>exact fun h=>(aT h).symm
 |cons x a ih=>exact fun h=>aX h fun p' h1 h=>aX h fun q' h2 h=>(aT h).symm.trans (by rw[hg _ _ h1,ih h2];rfl)
def Ke:∀(x:V) (b:Bool),cC d σ x x=some b→b=true:=by
 induction d with
 |zero=>exact fun _ _=>nn
 |succ d ih=>
  have lst:∀{x b},((ic σ x).bind fun x'=>(ic σ x).bind fun y=>if x'.length=y.length then all2 (cC d σ) x' y else some false)=some b→b=true:=fun h=>aX h fun x1 h1 h=>aX h fun x2 h2 h=>by
   obtain rfl:=cA h1 h2
   rw[if_pos rfl] at h
   exact C7 ih h
  intro x b h
  cases x with
  |tup l=>exact C7 ih h
  |ref l=>exact lst (x := .ref l) h
  |fl l=>exact lst (x := .fl l) h
  |none=>exact(aT h).symm
  |bool c=>exact(aT h).symm.trans (dW c)
  |int i=>exact(aT h).symm.trans (dW i)
  |str n=>exact(aT h).symm.trans (dh n)
  |bytes l=>exact(aT h).symm.trans (dW l)
def EqAt.Kf:EqAt A s (.bytes b t) (.bytes c u) (b.toList==c.toList):=fun prog w E Q h=>by
 refine nX (PySem.wpAny_ite_split (fun hab=>?_) fun _=>aP (eq_bytes (PySem.wpAny_truthy_bool h)))
 have e:=eq_of_beq hab
 injection e with e1 e2
 subst e1
 rw[dW] at h
 exact aP (PySem.wpAny_rule (bX h))
def bytes_inj{l:List UInt8}:∀{m},l.map UInt8.toNat=m.map UInt8.toNat→l=m:=by
 induction l with
 |nil=>exact fun e=>(List.map_eq_nil_iff.mp e.symm).symm
 |cons a l ih=>exact fun e=>(List.map_eq_cons_iff.mp e.symm).elim fun b e=>e.elim fun m e=>by rw[e.1,UInt8.toNat_inj.mp e.2.1,ih e.2.2.symm]
def Kg{b c:Array UInt8}(h:b.toList.map UInt8.toNat=x)(h':c.toList.map UInt8.toNat=y):(b.toList==c.toList)=(x==y):=
 lH.mpr (by rw[beq_iff_eq,beq_iff_eq,←h,←h'];exact⟨aa _,bytes_inj⟩)
structure C3(A:Around)(s:Shared)(v u:Value)(b:Bool):Prop where
 e:EqAt A s v u b
 r:RcAt A s v u b
 n:RcNeAt A s v u (!b)
def Kh(h:apart x y=some b):b=false:=by
 unfold apart at h
 cases q:(Nat.beq x.kind 0||Nat.beq y.kind 0||Nat.beq x.kind y.kind) with
 |true=>rw[q] at h;exact nn h
 |false=>rw[q] at h;exact(aT h).symm
def vA(I:Inv p f W lv σ s)(h0:A.units<cLine)(h:apart x y=some b)(rx:aD W x v)(ry:aD W y u):C3 A s v u b:=by
 have tp:∀{l:List V} {v:Value},aD W (.tup l) v→∃a items,v = .ref a∧s.heap.IsTuple a items:=fun r=>oH I r fun a items h _ _=>⟨a,_,rfl,h⟩
 obtain rfl:=Kh h
 cases x with
 |none=>
  cases rx
  cases y with
  |int _=>obtain⟨t',rfl⟩:=ry;exact⟨EqAt.none_int _ _,RcAt.none_int _ _,RcNeAt.none_int _ _⟩
  |str _=>obtain⟨t',rfl⟩:=ry;exact⟨EqAt.none_str _ _,RcAt.none_str _ _,RcNeAt.none_str _ _⟩
  |tup _=>obtain⟨a2,i2,rfl,t2⟩:=tp ry;exact⟨EqAt.none_tuple t2 h0,RcAt.none_tuple t2 h0,RcNeAt.none_tuple t2 h0⟩
  |_=>exact nn h
 |int _=>
  obtain⟨t,rfl⟩:=rx
  cases y with
  |none=>cases ry;exact⟨EqAt.int_none _ _,RcAt.int_none _ _,RcNeAt.int_none _ _⟩
  |str _=>obtain⟨t',rfl⟩:=ry;exact⟨EqAt.int_str _ _ _ _,RcAt.int_str _ _ _ _,RcNeAt.int_str _ _ _ _⟩
  |tup _=>obtain⟨a2,i2,rfl,t2⟩:=tp ry;exact⟨EqAt.int_tuple _ _ t2 h0,RcAt.int_tuple _ _ t2 h0,RcNeAt.int_tuple _ _ t2 h0⟩
  |_=>exact nn h
 |str _=>
  obtain⟨t,rfl⟩:=rx
  cases y with
  |none=>cases ry;exact⟨EqAt.str_none _ _,RcAt.str_none _ _,RcNeAt.str_none _ _⟩
  |int _=>obtain⟨t',rfl⟩:=ry;exact⟨EqAt.str_int _ _ _ _,RcAt.str_int _ _ _ _,RcNeAt.str_int _ _ _ _⟩
  |tup _=>obtain⟨a2,i2,rfl,t2⟩:=tp ry;exact⟨EqAt.str_tuple _ _ t2 h0,RcAt.str_tuple _ _ t2 h0,RcNeAt.str_tuple _ _ t2 h0⟩
  |_=>exact nn h
 |tup _=>
  obtain⟨a2,i2,rfl,t2⟩:=tp rx
  cases y with
  |none=>cases ry;exact⟨EqAt.tuple_none t2 h0,RcAt.tuple_none t2 h0,RcNeAt.tuple_none t2 h0⟩
  |int _=>obtain⟨t',rfl⟩:=ry;exact⟨EqAt.tuple_int _ _ t2 h0,RcAt.tuple_int _ _ t2 h0,RcNeAt.tuple_int _ _ t2 h0⟩
  |str _=>obtain⟨t',rfl⟩:=ry;exact⟨EqAt.tuple_str _ _ t2 h0,RcAt.tuple_str _ _ t2 h0,RcNeAt.tuple_str _ _ t2 h0⟩
  |_=>exact nn h
 |_=>exact nn h
def vB(W:Wd)(σ:St)(s:Shared)(d:Nat):Prop:=∀{A:Around} {x y:V} {b:Bool} {v u:Value},cC d σ x y=some b→aD W x v→aD W y u→A.units+d<cLine→C3 A s v u b
def vC(ih:vB W σ s d)(hd:A.units+d<cLine)(r1:aN W l1 i1)(r2:aN W l2 i2)(he:at2 (cC d σ) e l1 l2)(j:Nat)(h1:j<(⟨i1⟩:Array Value).size)(h2:j<(⟨i2⟩:Array Value).size):
  EqAt A s (⟨i1⟩:Array Value)[j] (⟨i2⟩:Array Value)[j] (e j):=by
 have z1:=bZ (ng h1 r1.length)
 have z2:=bZ (ng h2 r2.length)
 refine(r1.get z1).elim fun v1 q1=>(r2.get z2).elim fun v2 q2=>?_
 rw[show(⟨i1⟩:Array Value)[j]=v1 from cA (bZ h1) q1.1,show(⟨i2⟩:Array Value)[j]=v2 from cA (bZ h2) q2.1]
 exact(ih (he j _ _ z1 z2) q1.2 q2.2 hd).e
def C8(P:aO p)(I:Inv p f W lv σ s)(h:cC d σ x y=some b)(rx:aD W x (.ref a1))(ry:aD W y (.ref a2))(k:RcAt A s (.ref a1) (.ref a2) b∧RcNeAt A s (.ref a1) (.ref a2) (!b)):C3 A s (.ref a1) (.ref a2) b:=by
 refine⟨?_,k.1,k.2⟩
 by_cases q:a1=a2
 ·subst q
  obtain rfl:=I.inj P rx ry
  rw[Ke _ _ h]
  exact EqAt.same _
 ·exact EqAt.of_refs q k.1
def Km(P:aO p)(I:Inv p f W lv σ s)(ih:vB W σ s d)(h0:A.units<cLine)(hd:A.in1.units+d<cLine)(h:all2 (cC d σ) l1 l2=some b)(rx:aD W (.tup l1) v)(ry:aD W (.tup l2) u):C3 A s v u b:=by
 refine oH I rx (C:=fun v=>aD W (.tup l1) v→C3 A s v u b) (fun a1 i1 t1 r1 _ rx=>oH I ry (C:=fun u=>aD W (.tup l2) u→C3 A s (.ref a1) u b) (fun a2 i2 t2 r2 _ ry=>(C6 h).elim fun e he=>C8 P I (d:=d+1) (x := .tup l1) (y := .tup l2) h rx ry ?_) ry) rx
 have h2:=RcAt.tuples t1 t2 h0 (vC ih hd r1 r2 he.1)
 have h3:=RcNeAt.tuples t1 t2 h0 (vC ih hd r1 r2 he.1)
 rw[show(⟨i1⟩:Array Value).size=l1.length from r1.length,show(⟨i2⟩:Array Value).size=l2.length from r2.length,←he.2] at h2 h3
 exact⟨h2,h3⟩
def Ko(P:aO p)(I:Inv p f W lv σ s)(ih:vB W σ s d)(h0:A.units<cLine)(hd:A.in1.units+d<cLine)(c1:ic σ y1=some x1)(c2:ic σ y2=some x2)
  (h:(if x1.length=x2.length then all2 (cC d σ) x1 x2 else some false)=some b) (hv:cC (d+1) σ y1 y2=some b) (rx:aD W y1 v) (ry:aD W y2 u):C3 A s v u b:=by
 refine jW I rx c1 (C:=fun v=>aD W y1 v→C3 A s v u b) (fun a1 i1 n1 g1 r1 _ rx=>jW I ry c2 (C:=fun u=>aD W y2 u→C3 A s (.ref a1) u b) (fun a2 i2 n2 g2 r2 _ ry=>C8 P I hv rx ry ?_) ry) rx
 have t1:=gm g1
 have t2:=gm g2
 have z1:(⟨i1⟩:Array Value).size=x1.length:=r1.length
 have z2:(⟨i2⟩:Array Value).size=x2.length:=r2.length
 by_cases zz:x1.length=x2.length
 ·rw[if_pos zz] at h
  refine(C6 h).elim fun e he=>?_
  have eb:b=(List.range x1.length).all e:=by rw[he.2,zz,Nat.min_self,dW,Bool.and_true]
  have h2:=RcAt.lists t1 t2 (by rw[z1,z2,zz]) h0 (vC ih hd r1 r2 he.1)
  have h3:=RcNeAt.lists t1 t2 (by rw[z1,z2,zz]) h0 (vC ih hd r1 r2 he.1)
  rw[z1,←eb] at h2 h3
  exact⟨h2,h3⟩
 ·rw[if_neg zz] at h
  obtain rfl:=aT h
  have ne:((⟨i1⟩:Array Value).size != (⟨i2⟩:Array Value).size)=true:=by rw[z1,z2];exact bne_iff_ne.mpr zz
  exact⟨RcAt.lists_lengths t1 t2 ne h0,RcNeAt.lists_lengths t1 t2 ne h0⟩
def yY(P:aO p)(I:Inv p f W lv σ s)(d:Nat):vB W σ s d:=by
 induction d with
 |zero=>exact fun h=>nn h
 |succ d ih=>
  intro A x y b v u h rx ry hu
  have h0:A.units<cLine:=fU (n7 _ _) hu
  have hd:A.in1.units+d<cLine:=fU (cT (Nat.add_right_comm ..)) hu
  have lst:((ic σ x).bind fun x'=>(ic σ y).bind fun y=>if x'.length=y.length then all2 (cC d σ) x' y else some false)=some b→C3 A s v u b:=fun h'=>aX h' fun x1 c1 h'=>aX h' fun x2 c2 h'=>Ko P I ih h0 hd c1 c2 h' h rx ry
  cases x with
  |none=>
   cases y with
   |none=>cases h;cases rx;cases ry;exact⟨EqAt.same _,RcAt.none_none,RcNeAt.none_none⟩
   |_=>exact vA I h0 h rx ry
  |bool _=>
   cases y with
   |bool _=>cases h;cases rx;cases ry;exact⟨EqAt.bool_bool _ _,RcAt.bool_bool _ _,RcNeAt.bool_bool _ _⟩
   |_=>exact nn h
  |int _=>
   cases y with
   |int _=>cases h;obtain⟨t,rfl⟩:=rx;obtain⟨t',rfl⟩:=ry;exact⟨EqAt.int_int _ _ _ _,RcAt.int_int _ _ _ _,RcNeAt.int_int _ _ _ _⟩
   |_=>exact vA I h0 h rx ry
  |str n=>
   cases y with
   |str m=>
    cases h;obtain⟨t,rfl⟩:=rx;obtain⟨t',rfl⟩:=ry
    rw[show Nat.beq n m=(n.s==m.s) from lH.mpr ⟨fun e=>cH e▸dW _,fun e=>P.inj _ _ (eq_of_beq e)▸dh n⟩]
    exact⟨EqAt.str_str _ _ _ _,RcAt.str_str _ _ _ _,RcNeAt.str_str _ _ _ _⟩
   |_=>exact vA I h0 h rx ry
  |bytes l=>
   refine bW h fun m e h=>?_
   obtain⟨b1,t,rfl,e1,_⟩:=rx
   refine CV ry e fun b2 t' e2 _=>?_
   rw[←h,←Kg e1 e2]
   exact⟨EqAt.Kf,fun prog w E Q h=>eq_bytes h,fun prog w E Q h=>ne_bytes h⟩
  |tup l1=>
   cases y with
   |tup l2=>exact Km P I ih h0 hd h rx ry
   |_=>exact vA I h0 h rx ry
  |fl l1=>exact lst h
  |ref l1=>exact lst h
end
section
structure rG(p:PC)(f:FC)(s:Shared)(o o':CmpOp)(v u:Value)(b:Bool):Prop where
 y:∀{Q E:QQ},(∀tk,Q (.bool b) {s with toks:=tk})→av p.M f.A (compareOp o v u) Q E s
 n:∀{Q E:QQ},(∀tk,Q (.bool !b) {s with toks:=tk})→av p.M f.A (compareOp o' v u) Q E s
def rG.plain{v u:Value}(h:plainIs v u=true)(e:(v==u)=b):rG p f s .Is .IsNot v u b:=e▸⟨fun q=>of <| wpAny_is_plain h (q s.toks),fun q=>of <| wpAny_isNot_plain h (q s.toks)⟩
structure Kq(x:V)(v:Value):Prop where
 l:plainIs v .none=true
 r:plainIs .none v=true
 e:(v == .none)=isNone x
 e':(Value.none==v)=isNone x
def yZ:aD W x v→Kq x v:=
 V.casesOn x (fun e=>e▸⟨rfl,rfl,rfl,rfl⟩) (fun _ e=>e▸⟨rfl,rfl,rfl,rfl⟩) (fun _ e=>e.elim fun _ e=>e▸⟨rfl,rfl,rfl,rfl⟩) (fun _ e=>e.elim fun _ e=>e▸⟨rfl,rfl,rfl,rfl⟩) (fun _ e=>e.elim fun _ e=>e.elim fun _ e=>e.1▸⟨rfl,rfl,rfl,rfl⟩)
  (fun _ e=>e.elim fun _ e=>e.elim fun _ e=>e.1▸⟨rfl,rfl,rfl,rfl⟩) (fun _ e=>e.elim fun _ e=>e.elim fun _ e=>e.1▸⟨rfl,rfl,rfl,rfl⟩) fun _ e=>e.elim fun _ e=>e.1▸⟨rfl,rfl,rfl,rfl⟩
def y9(h:decide (a=b)=false):Value.type a ≠ .type b:=fun e=>of_decide_eq_false h (by injection e)
def dict_cls{K:Type}[DecidableEq K]{knd:KeyKind prog w K}{h:Heap}{kvs:List (K×Value)}(x:h.DictOf knd a kvs):∃o,h.get? a=some o∧o.cls ≠ .type "tuple":=
 x.elim fun o x=>x.elim fun es x=>x.elim fun ep x=>⟨o,x.1,fun e=>y9 rfl (x.2.1.1.symm.trans e)⟩
theorem ir.cls{a d:Addr}{c:Cell}(r:ir p W h l a d c):∃o,h.get? a=some o∧o.cls ≠ .type "tuple":=by
 cases c with
 |list _=>exact r.elim fun _ r=>r.elim fun _ r=>⟨_,r.1,y9 rfl⟩
 |sd _=>exact r.elim fun _ r=>dict_cls r.1
 |bI _=>exact r.elim fun _ r=>dict_cls r.1
 |bB _=>exact r.elim fun _ r=>⟨_,r.1,y9 rfl⟩
 |inst _=>exact r.elim fun _ r=>r.elim fun _ r=>r.elim fun _ r=>⟨_,r.2.1.1,fun e=>nomatch e⟩
def Dc(I:Inv p f W lv σ s)(h:jk σ x y=some b)(rx:aD W x cx)(ry:aD W y cy):rG p f s .Is .IsNot cx cy b:=by
 have nx:=yZ rx
 have left:(bif isNone y then some false else none)=some b→isNone x=false→rG p f s .Is .IsNot cx cy b:=fun h e=>by
  cases y with
  |none=>exact ry ▸ .plain nx.l (nx.e.trans (e.trans (aT h)))
  |_=>exact nn h
 cases x with
 |none=>exact rx ▸ .plain (yZ ry).r ((yZ ry).e'.trans (aT h))
 |ref l=>
  cases y with
  |none=>exact ry ▸ .plain nx.l (nx.e.trans (aT h))
  |ref m=>
   refine bW h fun c hc e=>oF rx fun q1 e1=>oF ry fun q2 e2=>?_
   subst e
   by_cases z:l=m
   ·subst z
    obtain rfl:=cA e1 e2
    rw[mD]
    exact⟨fun q=>of <| wpAny_is_ref_self (q s.toks),fun q=>of <| wpAny_isNot_ref_self (q s.toks)⟩
   ·rw[mE z]
    refine(I.cell e1 hc).cls.elim fun ob g=>(I.aC (I.loc e2).1.1).elim fun o2 g2=>?_
    have ne:=yH (I.loc e1).1.1 (I.loc e2).1.1 fun w=>z (by injection w)
    exact⟨fun q=>of <| wpAny_is_ref_other ne g.1 g2.1 g.2 (q s.toks),fun q=>of <| wpAny_isNot_ref_other ne g.1 g2.1 g.2 (q s.toks)⟩
  |_=>exact nn h
 |bool _=>exact left h rfl
 |int _=>exact left h rfl
 |str _=>exact left h rfl
 |bytes _=>exact left h rfl
 |tup _=>exact left h rfl
 |fl _=>exact left h rfl
def rH(P:aO p)(h:p.base.get? a=none):(a==sysModules)=false:=by
 obtain⟨mm,⟨o,_,_,ho,_⟩,_⟩:=P.seer.mods
 exact nY.mpr fun z=>bU h (z▸ho)
open Classical in
def De:∀{b:Bool},nq σ x l=some b→(∀y∈l,∃r,cC lM σ y x=some r)∧b=l.any (fun y=>decide (cC lM σ y x=some true)):=by
 induction l with
 |nil=>exact fun h=>⟨fun _ h=>absurd h fN,(aT h).symm⟩
 |cons y r ih=>
  refine fun h=>aX h fun p' h1 h=>aX h fun q' h3 h=>⟨fun z hz=>?_,?_⟩
  ·rcases cS.mp hz with rfl | hz
   ·exact⟨_,h1⟩
   ·exact(ih h3).1 z hz
  ·rw[List.any_cons,h1,←(ih h3).2,←aT h]
   cases p' with
   |true=>rw[fF rfl]
   |false=>rw[iS (fun e=>eE (aT e))]
def aN.back:∀{items:List Value},aN W l items→∀{cy:Value},cy∈items→∃y∈l,aD W y cy:=by
 induction l with
 |nil=>exact fun r _ hc=>absurd (r▸hc) fN
 |cons y l ih=>
  intro items r cy
  exact gk r fun v vs a b hc=>(cS.mp hc).elim (fun e=>⟨y,.head _,e▸a⟩) fun hc=>(ih b hc).elim fun z hz=>⟨z,.tail _ hz.1,hz.2⟩
def vD (W:Wd)(σ:St)(x:V)(cy:Value):Prop:=∃y,aD W y cy∧cC lM σ y x=some true
def Df(P:aO p)(I:Inv p f W lv σ s)(ry:aD W y cy):vD W σ x cy↔cC lM σ y x=some true:=⟨fun h=>h.elim fun y' h=>I.inj P h.1 ry▸h.2,fun h=>⟨y,ry,h⟩⟩
open Classical in
def Dg(P:aO p)(ok:bA p f)(I:Inv p f W lv σ s)(h:nq σ x l=some b)(rx:aD W x cx)(rl:aN W l items):
  ∃e:Value→Bool,(∀y,y∈(⟨items⟩:Array Value)→SeqAt.EqAt f.A.in1 s y cx (e y))∧(⟨items⟩:Array Value).any e=b:=by
 refine⟨fun cy=>decide (vD W σ x cy),fun cy hc=>(rl.back (Array.mem_toList_iff.mpr hc)).elim fun y hy=>((De h).1 y hy.1).elim fun r hr=>?_,?_⟩
 ·have e:decide (vD W σ x cy)=r:=(decide_eq_decide.mpr (Df P I hy.2)).trans (hr▸(show decide (some r=some true)=r by cases r <;> rfl))
  show SeqAt.EqAt f.A.in1 s cy cx (decide (vD W σ x cy))
  rw[e]
  exact(yY P I lM hr hy.2 rx (ok.unit (n:=10) rfl |> fun h=>fU (cT (Nat.add_right_comm f.A.units 1 9)) h)).e
 ·rw[(De h).2,List.any_toArray]
  clear h
  induction l generalizing items with
  |nil=>exact rl▸rfl
  |cons y l ih=>exact gk rl fun v vs a b=>by rw[List.any_cons,List.any_cons,ih b,decide_eq_decide.mpr (Df P I a)]
def Dh(P:aO p)(ok:bA p f)(I:Inv p f W lv σ s)(h:yr σ x y=some b)(rx:aD W x cx)(ry:aD W y cy):rG p f s .In .NotIn cx cy b:=by
 have lst:∀{a:Addr} {items:List Value} {vs:List V},s.heap.IsList a ⟨items⟩→aN W vs items→nq σ x vs=some b→rG p f s .In .NotIn cx (.ref a) b:=fun hl rr h=>(Dg P ok I h rx rr).elim fun e he=>he.2▸⟨fun q=>of <| SeqAt.in_listAt e hl he.1 (q s.toks),fun q=>of <| SeqAt.notIn_listAt e hl he.1 (q s.toks)⟩
 cases y with
 |tup l=>exact oH I ry fun a items hT rr _=>(Dg P ok I h rx rr).elim fun e he=>he.2▸⟨fun q=>of <| SeqAt.in_tupleAt e hT he.1 (q s.toks),fun q=>of <| SeqAt.notIn_tupleAt e hT he.1 (q s.toks)⟩
 |fl l=>exact jW I ry (σ:=σ) rfl fun a items n g rr _=>lst (gm g) rr h
 |ref l=>
  refine aX h fun c hc h1=>?_
  cases c with
  |list xs=>exact nB I ry hc fun q items n _ g rr _=>lst (gm g) rr h1
  |bI d=>
   refine bW h1 fun k e eb=>?_
   subst eb
   refine cM rx e fun t=>oK I ry hc fun q kvs hl g rr _=>?_
   have nm:=rH P (I.p9 (I.loc hl).1.1 rfl)
   rw[←rr.vf oG]
   exact⟨fun q=>of <| wpAny_in_of (knd:=PySem.intKind p.prog p.w) (k:=k) oM nm g.mapOf (q _),fun q=>of <| wpAny_notIn_of (knd:=PySem.intKind p.prog p.w) (k:=k) oM nm g.mapOf (q _)⟩
  |_=>exact nn h1
 |_=>exact nn h
def Kr{C:Value→Value→Prop}(h:ii a b g=some r)(ra:aD W a ca)(rb:aD W b cb)(k:∀i j t u,r=g i j→C (.int i t) (.int j u)):C ca cb:=
 aX h fun i e1 h=>bW h fun j e2 e=>cM ra e1 fun t=>cM rb e2 fun u=>k i j t u e.symm
def rI(P:aO p)(ok:bA p f)(I:Inv p f W lv σ s){Q:QV}(rx:aD W x cx)(ry:aD W y cy)(h:eN σ o x y=some b)(w:Q (.bool b) σ):Ev p.M f.A W s (compareOp (u5 o) cx cy) (KV p f lv Q) X:=by
 have fin:∀tk,PK W s (KV p f lv Q) (.bool b) {s with toks:=tk}:=fun tk => .now I w rfl
 have hu:f.A.units+lM<cLine:=ok.unit rfl
 have cmp:∀{op:CmpOp} {g:Int→Int→Bool},ii x y g=some b→(∀{i j:Int} {t u:Tok} {Q E:QQ},Q (.bool (g i j)) s→PySem.wpAny p.M f.A (compareOp op (.int i t) (.int j u)) Q E s)→Ev p.M f.A W s (compareOp op cx cy) (KV p f lv Q) X:=fun{op g} h k=>
  Kr (C:=fun ca cb=>Ev p.M f.A W s (compareOp op ca cb) (KV p f lv Q) X) h rx ry fun i j t u e=>of <| k (e▸fin s.toks)
 cases o with
 |eq=>exact of <| (yY P I lM h rx ry hu).r _ _ _ _ (fin s.toks)
 |ne=>exact bW h fun r h1 e=>of <| (yY P I lM h1 rx ry hu).n _ _ _ _ (e▸fin s.toks)
 |lt=>exact cmp h PySem.P.lt_int
 |le=>exact cmp h PySem.P.le_int
 |gt=>exact cmp h PySem.P.gt_int
 |ge=>exact cmp h PySem.P.ge_int
 |is=>exact(Dc I h rx ry).y fin
 |jM=>exact bW h fun r h1 e=>(Dc I h1 rx ry).n (e▸fin)
 |mem=>exact(Dh P ok I h rx ry).y fin
 |qW=>exact bW h fun r h1 e=>(Dh P ok I h1 rx ry).n (e▸fin)
def Di:(!(⟨items⟩:Array Value).isEmpty)=decide (items.length≠0):=by cases items <;> rfl
def za(I:Inv p f W lv σ s)(rx:aD W x cx)(h:eV σ x=some b)(w:Q b σ):Ev p.M f.A W s (truthy cx) (KB p f lv Q) X:=by
 have fin:∀{b' tk},b'=b→PK W s (KB p f lv Q) b' {s with toks:=tk}:=fun e => .now I w e
 have lst:((ic σ x).map fun x=>decide (x.length≠0))=some b→Ev p.M f.A W s (truthy cx) (KB p f lv Q) X:=fun h=>bW h fun xs hc e=>jW I rx hc fun a items n g rr z=>of <| wpAny_truthy_list (gm g) (vn (aH (cT rr.length) z)) (fin (Di.trans (rr.length▸e)))
 cases x with
 |none=>exact rx▸of (truthy_none (fin (aT h)))
 |bool _=>exact rx▸of (wpAny_truthy_bool (fin (aT h)))
 |int i=>exact rx.elim fun t rx=>rx▸of (PySem.P.truthy_int (fin ((show(i != 0)=decide (i≠0) by by_cases q:i=0 <;> simp [q]).trans (aT h))))
 |bytes l=>
  obtain⟨bs,t,rfl,e,z⟩:=rx
  have hn:=bsize e
  exact of <| truthy_bytes (aH (cT hn) (aH z (by decide +kernel))) (fin ((show((bs.size:Int) != 0)=decide (l.length≠0) by rw[hn];by_cases q:l.length=0 <;> simp [q]).trans (aT h)))
 |tup l=>exact oH I rx fun a items hT rr z=>of <| truthy_tuple hT (vn (aH (cT rr.length) z)) (fin (Di.trans (rr.length▸aT h)))
 |fl l=>exact lst h
 |ref l=>exact lst h
 |str _=>exact nn h
end
noncomputable def jX(sc:Sc)(x:Str):Bool:=sc.lookup x==some .globalImplicit
def Dj (sc:Sc):Ki→Bool
 |.str=>jX sc (aS "str")
 |.bytes=>jX sc (aS "bytes")
 |.uT=>jX sc (aS "bytes")&&jX sc (aS "bytearray")
def Dk(sc:Sc)(ns:List Nm)(scope:Scope):Bool:=
 scope.kind == .function&&(scope.names.all (fun x=>match x.2 with
  |.local=>scope.names.lookup x.1==some .local&&(x.1==aS ".0"||ns.any fun n=>n.s==x.1)
  |.free=>sc.lookup x.1==some .free||sc.lookup x.1==some .cell
  |.globalImplicit=>true
  |_=>false)&&(decide ((scope.names.map (·.1)).Nodup)&&ns.all fun n=>scope.names.lookup n.s==some .local))
noncomputable def It.iu:It→Bool
 |.enum _=>true
 |_=>false
noncomputable def T.isTup:T→Bool
 |.tup _=>true
 |_=>false
noncomputable def zb:E→Bool
 |.call _ es => !es.isEmpty
 |.new _ es => !es.isEmpty
 |.bi _ es => !es.isEmpty
 |_=>true
noncomputable def few(es:List E):Bool:=Nat.blt es.length 25
mutual
def b8 (sc:Sc):E→Ps→Bool
 |.c v,_=>CP v
 |.v n,_=>isVar (sc.lookup n.s)
 |.g n,_=>jX sc n.s
 |.at e _,ps=>zb e&&b8 sc e (tl ps)
 |.ix e i,ps=>b8 sc e (tl ps)&&b8 sc i (ay e (tl ps)).2
 |.pQ e i,ps=>b8 sc e (tl ps)&&b8 sc i (tl (ay e (tl ps)).2)
 |.qY e i,ps=>b8 sc e (tl ps)&&b8 sc i (tl (ay e (tl ps)).2)
 |.bin _ x y,ps=>b8 sc x (tl ps)&&b8 sc y (ay x (tl ps)).2
 |.lop _ _ x y,ps=>b8 sc x (tl ps)&&b8 sc y (ay x (tl ps)).2
 |.cmp x _ y,ps=>b8 sc x (tl ps)&&b8 sc y (ay x (tl ps)).2
 |.pR x _ y _ z,ps=>b8 sc x (tl ps)&&(b8 sc y (ay x (tl ps)).2&&b8 sc z (ay y (ay x (tl ps)).2).2)
 |.an es,ps=>iw sc es (tl ps)
 |.or es,ps=>iw sc es (tl ps)
 |.no e,ps=>b8 sc e (tl ps)
 |.neg e,ps=>b8 sc e (tl ps)
 |.ite t a b,ps=>b8 sc t (tl ps)&&(b8 sc a (ay t (tl ps)).2&&b8 sc b (ay a (ay t (tl ps)).2).2)
 |.tup es,ps=>few es&&iw sc es (tl ps)
 |.lst _ es,ps=>few es&&iw sc es (tl ps)
 |.dct ks es,ps=>Nat.beq ks.length es.length&&(Nat.blt ks.length 15&&iw sc es (oj (tl ps) ks).2)
 |.comp _ e t it cs s,ps=>Dk sc t.names (ie s)&&((!it.iu||t.isTup)&&(Nat.ble cs.length 1&&(b8 (ie s).names e (tl ps)&&(mG (ie s).names t (ay e (tl ps)).2&&(zd sc it (toT t (ay e (tl ps)).2).2&&iw (ie s).names cs (jR it (toT t (ay e (tl ps)).2).2).2)))))
 |.call f es,ps=>qc f&&(jX sc (fname f)&&(few es&&iw sc es (tl (tl ps))))
 |.ao e _ es,ps=>zb e&&(((hd (tl ps)).endLine==(hd ps).line)&&(few es&&(b8 sc e (tl (tl ps))&&iw sc es (ay e (tl (tl ps))).2)))
 |.new c es,ps=>Nat.blt c tu&&(jX sc (cname c)&&(few es&&iw sc es (tl (tl ps))))
 |.bi b es,ps=>jX sc (aS (yz b))&&(few es&&iw sc es (tl (tl ps)))
 |.nh e k,ps=>jX sc (aS "isinstance")&&(b8 sc e (tl (tl ps))&&Dj sc k)
def iw (sc:Sc):List E→Ps→Bool
 |[],_=>true
 |e::r,ps=>b8 sc e ps&&iw sc r (ay e ps).2
def zd (sc:Sc):It→Ps→Bool
 |.e e,ps=>b8 sc e ps
 |.fq es,ps=>jX sc (aS "range")&&(few es&&iw sc es (tl (tl ps)))
 |.enum e,ps=>jX sc (aS "enumerate")&&b8 sc e (tl (tl ps))
def mG (sc:Sc):T→Ps→Bool
 |.v n,_=>sc.lookup n.s==some .local||sc.lookup n.s==some .cell
 |.at e _,ps=>b8 sc e (tl ps)
 |.ix e i,ps=>b8 sc e (tl ps)&&b8 sc i (ay e (tl ps)).2
 |.tup ts,ps=>ze sc ts (tl ps)
def ze (sc:Sc):List T→Ps→Bool
 |[],_=>true
 |t::r,ps=>mG sc t ps&&ze sc r (toT t ps).2
end
def jY(h:jX sc x=true):sc.lookup x=some .globalImplicit:=eq_of_beq h
def Ks:∀{ps:Ps},(toL es ps).1.length=es.length:=by
 induction es with
 |nil=>exact rfl
 |cons e r ih=>exact aa Nat.succ ih
def mH:∀{ps:Ps},starEach (toL es ps).1 env=(toL es ps).1.map fun e=>(false,eval e env):=by
 induction es with
 |nil=>exact rfl
 |cons e r ih=>exact fun{ps}=>(show starEach ((ay e ps).1::(toL r (ay e ps).2).1) env=(false,eval (ay e ps).1 env)::starEach (toL r (ay e ps).2).1 env by cases e <;> rfl).trans (aa _ ih)
def zf{l:List α}{g:α→Sem Value}:backTo pos (l.map fun e=>(false,g e))=l.map fun e=>(false,g e):=by
 unfold backTo
 rw[gh]
 rfl
def Dl:backTo pos (starEach (toL es ps).1 env)=(toL es ps).1.map fun e=>(false,eval e env):=by
 rw[mH];exact zf
def Ku:∀{ps:Ps},assignEach (jl ts ps).1 env=(jl ts ps).1.map fun e=>(false,assign e env):=by
 induction ts with
 |nil=>exact rfl
 |cons t r ih=>exact fun{ps}=>(show assignEach ((toT t ps).1::(jl r (toT t ps).2).1) env=(false,assign (toT t ps).1 env)::assignEach (jl r (toT t ps).2).1 env by cases t <;> rfl).trans (aa _ ih)
def tF:spliced ((false,t)::r)=(do let v ←t;let vs ←holding [v] (spliced r);pure (v::vs)):=by
 rw[spliced]
 rfl
def Kv{es:List Expr}(h:es.length<25):methodCallForm (es.length+0) (es.map fun e=>(false,eval e env)) []=true:=by
 unfold methodCallForm
 simp
 lia
def Dm(h:zb e=true):attributeBase (ay e ps).1 x env t=t:=by
 cases e with
 |call f es=>cases es with | nil=>cases h | cons _ _=>rfl
 |new c es=>cases es with | nil=>cases h | cons _ _=>rfl
 |bi b es=>cases es with | nil=>cases h | cons _ _=>rfl
 |_=>rfl
def Dn:behindInMarks op (ay e ps).1=false:=by cases e <;> rfl
def Dp:markedEach [op] [(ay e ps).1] [t]=[t]:=by
 show[markedBehindIn op (ay e ps).1 t]=[t]
 unfold markedBehindIn
 rw[Dn]
def Dq:markedEach [op,op'] [r,(ay e ps).1] [t,t']=[t,t']:=by
 show t::[markedBehindIn op' (ay e ps).1 t']=[t,t']
 unfold markedBehindIn
 rw[Dn]
def Dr(env:Env)(v:Value):foldedSetIterable (jR it ps).1 env v=pure v:=by
 cases it with
 |e e=>cases e <;> rfl
 |_=>rfl
def Kw:subscripted (ay i ps).1 false o v=operate [o,v] (getItem o v):=by cases i <;> rfl
def Ky:augStore (ay i ps).1 ov iv new=(do holding [new,ov,iv] (setItem ov iv new);release [new,ov,iv] [];pure .next):=by cases i <;> rfl
section
def mJ(W:Wd)(h:Heap)(I J:Addr):Src→Prop
 |.items vs=>J=I ∧
  ((∃t i items,h.IsTupleIter I t i∧SeqAt W "tuple" t items∧aN W vs (items.drop i)) ∨
  (∃t i items,h.IsListIter I t i∧SeqAt W "list" t items∧aN W vs (items.drop i)) ∨
  (∃x left,IsRangeIter h I x left 1∧vs=(List.range left.toNat).map fun(k:Nat)=>V.int (x+k)) ∨
  (∃b t i,KBw.IsBytesIter h I b t i∧vs=(b.toList.drop i).map fun c=>V.int c.toNat))
 |.lst l i=>J=I∧∃q,W.loc l=some q∧h.IsListIter I q.1 i
 |.enum l i=>I≠J∧∃q old,W.loc l=some q∧IsEnum h I J i old∧h.IsListIter J q.1 i
def mJ.keep(x:mJ W h I J src)(le:W.Le W')(kI:∀o,h.get? I=some o→h'.get? I=some o)(kJ:∀o,h.get? J=some o→h'.get? J=some o):mJ W' h' I J src:=by
 cases src with
 |items vs=>
  refine x.imp id fun x=>x.imp (fun x=>?_) fun x=>x.imp (fun x=>?_) fun x=>x.imp (fun x=>?_) fun x=>?_
  ·refine cps fun C9 k9=>?_;obtain⟨t,i,items,⟨o,ho,r⟩,a,b⟩:=x;exact k9 ⟨t,i,items,⟨o,kI _ ho,r⟩,a.le le,b.le le⟩
  ·refine cps fun C9 k9=>?_;obtain⟨t,i,items,⟨o,ho,r⟩,a,b⟩:=x;exact k9 ⟨t,i,items,⟨o,kI _ ho,r⟩,a.le le,b.le le⟩
  ·obtain⟨y,left,ho,e⟩:=x;exact⟨y,left,kI _ ho,e⟩
  ·obtain⟨b,t,i,⟨o,ho,r⟩,e⟩:=x;exact⟨b,t,i,⟨o,kI _ ho,r⟩,e⟩
 |lst l i=>obtain⟨e,a,el,o,ho,r⟩:=x;exact⟨e,a,le.l el,o,kI _ ho,r⟩
 |enum l i=>obtain⟨n,a,old,e,ho,o,ho',r⟩:=x;exact⟨n,a,old,le.l e,kI _ ho,o,kJ _ ho',r⟩
def isIt (n:String):Prop:=decide (n="list")=false∧(["zip","dict_itemiterator","dict_reverseitemiterator","odict_iterator","itertools.zip_longest","itertools.pairwise"].contains n)=false
def mJ.obj(x:mJ W h I J src):∃o o' n n',h.get? I=some o∧h.get? J=some o'∧o.cls = .type n∧o'.cls = .type n'∧n≠"list"∧n'≠"list":=by
 cases src with
 |items vs=>
  refine cps fun C9 k9=>?_
  obtain⟨rfl,⟨t,i,items,⟨o,ho,hc,_⟩,_⟩ | ⟨t,i,items,⟨o,ho,hc,_⟩,_⟩ | ⟨y,left,ho,_⟩ | ⟨b,t,i,⟨o,ho,hc,_⟩,_⟩⟩:=x
  ·exact k9 ⟨o,o,_,_,ho,ho,hc,hc,by decide,by decide⟩
  ·exact k9 ⟨o,o,_,_,ho,ho,hc,hc,by decide,by decide⟩
  ·exact k9 ⟨_,_,_,_,ho,ho,rfl,rfl,by decide,by decide⟩
  ·exact k9 ⟨o,o,_,_,ho,ho,hc,hc,by decide,by decide⟩
 |lst l i=>obtain⟨rfl,a,_,o,ho,hc,_⟩:=x;exact⟨o,o,_,_,ho,ho,hc,hc,by decide,by decide⟩
 |enum l i=>obtain⟨_,a,old,_,ho,o,ho',hc,_⟩:=x;exact⟨_,o,_,_,ho,ho',rfl,hc,by decide,by decide⟩
structure Go(W:Wd)(s₀ s:Shared)(I J:Addr)(src:Src):Prop where
 at_:mJ W s.heap I J src
 nI:W.aC I=none
 nJ:W.aC J=none
 fI:s₀.heap.get? I=none
 fJ:s₀.heap.get? J=none
def Step.old(st:Step W₀ s₀ W s)(I:Inv p f W lv σ s)(h:s.heap.get? a=none):s₀.heap.get? a=none:=gj fun o e=>by
 cases q:W₀.aC a with
 |none=>exact bU h (st.keep q e)
 |some r=>exact(I.aC (st.ge.r q)).elim fun o z=>bU h z.1
def Step.stay(st:Step W s W' s')(n:W.aC a=none)(e:s.heap.get? a=some o):W'.aC a=none:=gj fun _ h=>bU (st.new n h) e
theorem Go.keep(x:Go W s₀ s I J src)(st:Step W s W' s'):Go W' s₀ s' I J src:=by
 refine cps fun C9 k9=>?_
 obtain⟨o,o',_,_,h,h',_⟩:=x.at_.obj
 refine k9 ?_
 exact⟨x.at_.keep st.le (fun _=>st.keep x.nI) (fun _=>st.keep x.nJ),st.stay x.nI h,st.stay x.nJ h',x.fI,x.fJ⟩
def Inv.off(I':Inv p f W lv σ s)(nI:W.aC I=none)(nJ:W.aC J=none)(k:∀b o,b≠I→b≠J→s.heap.get? b=some o→s'.heap.get? b=some o):Inv p f W lv σ s':=by
 have kr:∀{a r},W.aC a=some r→∀o,s.heap.get? a=some o→s'.heap.get? a=some o:=fun h o e=>k _ o (fun z=>bU (z▸nI) h) (fun z=>bU (z▸nJ) h) e
 have kc:∀{x},x∈f.env.cells→∀o,s.heap.get? x.2=some o→s'.heap.get? x.2=some o:=fun{x} hx=>(I'.cells x hx).1.elim kr fun h=>h.2.elim fun _=>kr
 exact⟨fun e=>(I'.aC e).elim fun o h=>⟨o,kr e o h.1,h.2⟩,I'.pins,I'.loc,fun e h=>(I'.cell e h).keep (.refl W) (kr (I'.loc e).1.1) (kr (I'.loc e).1.2),I'.vars.keep (.refl W) (fun m h=>Cb h (kr I'.var)) fun c v hc h=>hc.elim fun n hc=>lP h (kc hc),
  I'.var,fun x hx=>⟨(I'.cells x hx).1,(I'.cells x hx).2.elim fun v h=>⟨v,lP h (kc hx)⟩⟩,I'.frs,I'.above⟩
def Step.off(st:Step W₀ s₀ W s)(fI:s₀.heap.get? I=none)(fJ:s₀.heap.get? J=none)(k:∀b o,b≠I→b≠J→s.heap.get? b=some o→s'.heap.get? b=some o)(g:s'.gens=s.gens)(os:s'.os=s.os):Step W₀ s₀ W s':=
 ⟨st.ge,fun{a o} n e=>k a o (fun z=>bU (z▸fI) e) (fun z=>bU (z▸fJ) e) (st.keep n e),st.new,g.trans st.g,os.trans st.os⟩
def Kz{E:QQ}(ho:s.heap.get? I=some o)(hc:o.cls = .type n)
  (hn:(["enumerate","zip","dict_itemiterator","dict_reverseitemiterator","odict_iterator","itertools.zip_longest","itertools.pairwise"].contains n)=false) (q:Q () s):av M A (letOwnedTupleGo t (.ref I) v) Q E s:=by
 have key:av M A (do
   let (.ref r,.ref a):=((Value.ref I,v):Value×Value) | return
   let o ←load r
   match o.cls,o.data with
   |.type n,.fields vs=>
    if["enumerate","zip","dict_itemiterator","dict_reverseitemiterator","odict_iterator","itertools.zip_longest","itertools.pairwise"].contains n&&vs[0]?==some (rawInt a) then
     PySem.rule "for.unpacks-the-owned-tuple"
     updateField r 0 .none
   |_,_=>pure ():Sem Unit) Q E s:=by
  cases v with
  |ref a=>
   refine ai (of <| wpAny_load ho ?_)
   rw[hc]
   cases o.data with
   |fields vs=>
    dsimp only
    rw[hn,Bool.false_and]
    exact aV q
   |_=>exact aV q
  |_=>exact aV q
 cases t with
 |Tuple _ _ _=>exact key
 |List _ _=>exact key
 |_=>exact aV q
noncomputable def Src.iu:Src→Bool
 |.enum _ _=>true
 |_=>false
structure zg(p:PC)(f:FC)(W₀ W:Wd)(lv:Lv)(σ:St)(s₀ s:Shared)(W':Wd)(s':Shared):Prop where
 inv:Inv p f W' lv σ s'
 st:Step W₀ s₀ W' s'
 le:W.Le W'
 k:∀{b o},W.aC b=none→s.heap.get? b=some o→o.cls = .type "list"→s'.heap.get? b=some o∧W'.aC b=none
def vF(p:PC)(f:FC)(W₀ W:Wd)(lv:Lv)(σ:St)(s₀ s:Shared)(I J:Addr)(en:Bool):Option (V×Src)→Option Value→Shared→Prop
 |none,r,s'=>r=none∧zg p f W₀ W lv σ s₀ s W s'
 |some x,r,s'=>∃cv,r=some cv∧∀{t:Expr} {E:QQ} {Q:QT},(en=true→∃es x q,t = .Tuple es x q) →
   (∀s'' W',zg p f W₀ W lv σ s₀ s W' s''→aD W' x.1 cv→Go W' s₀ s'' I J x.2→Q () s'')→av p.M f.A (letOwnedTupleGo t (.ref I) cv) Q E s'
def drop_nil{l:List α}(h:l.drop i=[]):l[i]?=none:=iQ (List.drop_eq_nil_iff.mp h)
def rK{l r:List α}(h:l.drop i=v::r):l[i]?=some v∧l.drop (i+1)=r:=by
 have h1:(l.drop i)[0]?=some v:=by rw[h];rfl
 have h2:(l.drop i).drop 1=r:=by rw[h];rfl
 rw[List.getElem?_drop,Nat.add_zero] at h1
 rw[List.drop_drop] at h2
 exact⟨h1,h2⟩
def KC{left x:Int}(h:[]=(List.range left.toNat).map fun(k:Nat)=>V.int (x+k)):left≤0:=Int.toNat_eq_zero.mp (List.range_eq_nil.mp (List.map_eq_nil_iff.mp h.symm))
def KD{left x:Int}(h:v::vs=(List.range left.toNat).map fun(k:Nat)=>V.int (x+k)):0<left∧v = .int x∧vs=(List.range (left - 1).toNat).map fun(k:Nat)=>V.int (x+1+k):=by
 cases e:left.toNat with
 |zero=>rw[e] at h;cases h
 |succ m=>
  rw[e,List.range_succ_eq_map,jJ,gh] at h
  injection h with h1 h2
  refine⟨Int.not_le.mp fun z=>(by rw[Int.toNat_eq_zero.mpr z] at e;cases e),h1.trans (aa V.int (Int.add_zero x)),h2.trans ?_⟩
  rw[Int.pred_toNat,e]
  exact pM fun k _=>aa V.int (by show x+((k+1:Nat):Int)=_;rw[Int.natCast_add,Int.add_comm (k:Int),Int.add_assoc];rfl)
def Go.gone(I':Inv p f W lv σ s)(g:Go W s₀ s I J src)(st:Step W₀ s₀ W s)(k:∀b o,b≠I→b≠J→s.heap.get? b=some o→h'.get? b=some o):zg p f W₀ W lv σ s₀ s W {s with heap:=h',toks:=tk}:=by
 refine cps fun C9 k9=>?_
 obtain⟨o,o',n,n',h,h',c,c',l,l'⟩:=g.at_.obj
 refine k9 ?_
 have ne:∀{a b:Addr} {o ob:Obj} {n:String},s.heap.get? a=some o→o.cls = .type n→n≠"list"→s.heap.get? b=some ob→ob.cls = .type "list"→b≠a:=fun h c l hb cb z=>l (by have:=cA (z▸hb) h;subst this;injection c.symm.trans cb)
 exact⟨I'.off g.nI g.nJ k,st.off g.fI g.fJ k rfl rfl,.refl W,fun n hb cb=>⟨k _ _ (ne h c l hb cb) (ne h' c' l' hb cb) hb,n⟩⟩
def Go.one(I':Inv p f W lv σ s)(g:Go W s₀ s I I src)(st:Step W₀ s₀ W s)(hs:Heap.SameBut I s.heap h')(rv:aD W v cv)(x':mJ W h' I I src')(ho:h'.get? I=some o)(hc:o.cls = .type n)
  (hn:(["enumerate","zip","dict_itemiterator","dict_reverseitemiterator","odict_iterator","itertools.zip_longest","itertools.pairwise"].contains n)=false):vF p f W₀ W lv σ s₀ s I I en (some (v,src')) (some cv) {s with heap:=h',toks:=tk}:=
 ⟨cv,rfl,fun _ q=>Kz (s:={s with heap:=h',toks:=tk}) ho hc hn (q _ W (g.gone I' st fun _ _ n _ e=>(hs.2 _ n).trans e) rv ⟨x',g.nI,g.nI,g.fI,g.fI⟩)⟩
theorem Go.next(ok:bA p f)(P:aO p)(I':Inv p f W lv σ s)(g:Go W s₀ s I J src)(st:Step W₀ s₀ W s){E:QQ}{q:Option (V×Src)}(hq:src.next σ=some q):av p.M f.A (pyNext (.ref I)) (vF p f W₀ W lv σ s₀ s I J src.iu q) E s:=by
 have stop:∀{h':Heap} {en:Bool},Heap.ExtBut I s.heap h'→vF p f W₀ W lv σ s₀ s I J en none none {s with heap:=h'}:=fun{h' _} k=>⟨rfl,g.gone (tk:=s.toks) I' st fun b o n _ e=>k b o n e⟩
 have lst:∀{a:Addr} {i:Nat} {items:List Value} {vs:List V} {src':V→Src} {n:Nat},J=I→s.heap.IsListIter I a i→s.heap.get? a=some (jm items n)→(∀{h'},h'.IsListIter I a (i+1)→∀v,vs[i]?=some v→mJ W h' I I (src' v))→aN W vs items →
   q=(vs[i]?).map (fun v=>(v,src' v))→av p.M f.A (pyNext (.ref I)) (vF p f W₀ W lv σ s₀ s I J false q) E s:=fun{a i items vs src' n} eJ hi g1 x' rr eq=>by
  subst eJ eq
  cases hx:vs[i]? with
  |none=>exact of <| wpAny_pyNext_list_end ok.handled hi (gm g1) (List.getElem?_toArray .. |>.trans (iQ (rr.length▸qQ.mp hx))) fun h' he=>stop he
  |some v=>exact(rr.get hx).elim fun cv hz=>of <| wpAny_pyNext_list_item hi (gm g1) (x:=cv) (qg hz.1) fun h' hi' hs=>hi'.elim fun o ho=>Go.one (tk:=s.toks) I' g st hs hz.2 (x' hi' v hx) ho.1 ho.2.1 (by decide)
 cases src with
 |lst l i=>
  refine bW hq fun xs hc e=>g.at_.elim fun eJ a=>a.elim fun qa a=>(I'.cell a.1 (s7 hc)).elim fun items c=>c.elim fun n c=>lst (src':=fun _ => .lst l (i+1)) eJ a.2 c.1 (fun hi' v _=>⟨rfl,qa,a.1,hi'⟩) c.2.1 e.symm
 |items vs=>
  obtain rfl:=aT hq
  obtain⟨rfl,a⟩:=g.at_
  have one:=fun{h':Heap} {tk:Nat} {v:V} {cv:Value} {r:List V} {o:Obj} {n:String}=>Go.one (h':=h') (tk:=tk) (src' := .items r) (v:=v) (cv:=cv) (en:=false) (o:=o) (n:=n) I' g st
  cases vs with
  |nil=>
   refine cps fun C9 k9=>?_
   rcases a with⟨t,i,items,hi,ht,r⟩ | ⟨t,i,items,hi,ht,r⟩ | ⟨x,left,hi,ev⟩ | ⟨bs,t,i,hi,ev⟩
   ·exact k9 ((ht.obj I').elim fun n g1=>of <| wpAny_pyNext_tuple_end ok.handled hi (vq g1) (List.getElem?_toArray .. |>.trans (drop_nil r)) fun h' he=>stop he)
   ·exact k9 ((ht.obj I').elim fun n g1=>of <| wpAny_pyNext_list_end ok.handled hi (gm g1) (List.getElem?_toArray .. |>.trans (drop_nil r)) fun h' he=>stop he)
   ·exact k9 (of <| wpAny_pyNext_range_end ok.handled hi (KC ev) fun h' he=>stop he)
   ·exact k9 (of <| KBw.next_end ok.handled hi (Array.getElem?_toList .. |>.symm.trans (drop_nil (List.map_eq_nil_iff.mp ev.symm))) fun h' he=>stop he)
  |cons v vs=>
   refine cps fun C9 k9=>?_
   rcases a with⟨t,i,items,hi,ht,r⟩ | ⟨t,i,items,hi,ht,r⟩ | ⟨x,left,hi,ev⟩ | ⟨bs,t,i,hi,ev⟩
   ·obtain⟨cv,rest,er,rv,rr⟩:=r
    exact k9 ((ht.obj I').elim fun n g1=>of <| wpAny_pyNext_tuple_item hi (vq g1) (qg (rK er).1) fun h' hi' hs=>hi'.elim fun o ho=>one (tk:=s.toks) hs rv ⟨rfl,.inl ⟨t,i+1,items,hi',ht,(rK er).2▸rr⟩⟩ ho.1 ho.2.1 (by decide))
   ·obtain⟨cv,rest,er,rv,rr⟩:=r
    exact k9 ((ht.obj I').elim fun n g1=>of <| wpAny_pyNext_list_item hi (gm g1) (qg (rK er).1) fun h' hi' hs=>hi'.elim fun o ho=>one (tk:=s.toks) hs rv ⟨rfl,.inr (.inl ⟨t,i+1,items,hi',ht,(rK er).2▸rr⟩)⟩ ho.1 ho.2.1 (by decide))
   ·obtain⟨hz,zh,zj⟩:=KD ev
    exact k9 (of <| wpAny_pyNext_range_item hi hz fun h' hi' hs=>one hs (zh▸⟨s.toks,rfl⟩) ⟨rfl,.inr (.inr (.inl ⟨x+1,left - 1,hi',zj⟩))⟩ hi' rfl (by decide))
   ·obtain⟨u,us,ed,zh,zj⟩:=List.map_eq_cons_iff.mp ev.symm
    exact k9 (of <| KBw.next_item hi (Array.getElem?_toList .. |>.symm.trans (rK ed).1) fun h' hi' hs=>hi'.elim fun o ho=>one hs (zh▸⟨s.toks,rfl⟩) ⟨rfl,.inr (.inr (.inr ⟨bs,t,i+1,hi',(rK ed).2▸zj.symm⟩))⟩ ho.1 ho.2.1 (by decide))
 |enum l i=>
  refine bW hq fun xs hc e=>g.at_.elim fun zk a=>a.elim fun qa a=>a.elim fun old a=>(I'.cell a.1 (s7 hc)).elim fun items c=>c.elim fun n c=>?_
  subst e
  cases hx:xs[i]? with
  |none=>exact of <| wpAny_pyNext_enum_end ok.handled a.2.1 a.2.2 (gm c.1) (List.getElem?_toArray .. |>.trans (iQ (c.2.1.length▸qQ.mp hx))) fun h' he=>⟨rfl,g.gone (tk:=s.toks) I' st fun b o _ n e=>he b o n e⟩
  |some v=>
   refine(c.2.1.get hx).elim fun cv hz=>of <| wpAny_pyNext_enum_item a.2.1 a.2.2 (gm c.1) (x:=cv) (qg hz.1) zk fun h' ho hi' hT hsz hk=>⟨_,rfl,fun ht q=>?_⟩
   obtain⟨es,x,pq,rfl⟩:=ht rfl
   refine of <| wpAny_letOwnedTupleGo_enum ho fun h₂ KG hs₂=>?_
   have hnone:=gK s.heap
   have sI:s.heap.objs.size≠I:=fun q=>bU (q▸hnone) a.2.1
   have G:=g.gone (h':=h₂) (tk:=s.toks+1) I' st fun b' o n1 n2 q=>(hs₂.2 b' n1).trans (hk b' o n1 n2 q)
   have hT2:=(hs₂.2 _ sI).trans hT
   have nT:=I'.jo
   have le:=Wd.qe (r := .pin (lN "tuple" [.int i s.toks,cv] 0)) nT
   have ne:∀{b r},W.aC b=none→b≠s.heap.objs.size→(W.put s.heap.objs.size r).aC b=none:=fun n h=>(Wd.vh h).trans n
   refine cps fun C9 k9=>?_
   obtain⟨oJ,gJ,cJ,rJ⟩:=hi'
   refine k9 ?_
   have KJ:=(hs₂.2 J (gz zk)).trans gJ
   refine q _ _ ⟨G.inv.put (r := .pin (lN "tuple" [.int i s.toks,cv] 0)) nT hT2 rfl,G.st.put nT (st.old I' hnone),le.le,fun n e c=>⟨(G.k n e c).1,ne n fun z=>bU hnone (z▸e)⟩⟩ ⟨_,[.int i s.toks,cv],rfl,⟨0,Wd.qf⟩,?_,_,_,rfl,⟨_,rfl⟩,_,_,rfl,hz.2.le le.le,rfl⟩
    ⟨⟨zk,qa,cv,le.l a.1,KG,oJ,KJ,cJ,rJ⟩,ne g.nI (gz sI),ne g.nJ fun z=>?_,g.fI,g.fJ⟩
   ·exact CQ (m:=2) rfl rfl
   ·obtain⟨o,ho,_⟩:=a.2.2
    exact bU (z▸hnone) ho
end
section
variable{p:PC}{f:FC}
abbrev bot:Value→Shared→Prop:=fun _ _=>False
def Ds (p:PC)(f:FC)(lv:Lv)(W₀:Wd)(s₀:Shared)(W:Wd)(σ:St)(s:Shared)(x:Value)(src:Src):Prop:=
 ∀{E Q:QQ},(∀{I J s₂},Inv p f W lv σ s₂→Go W s₀ s₂ I J src→Step W₀ s₀ W s₂→Q (.ref I) s₂)→av p.M f.A (pyIter x) Q E s
def Inv.tG(I':Inv p f W lv σ s)(st:Step W₀ s₀ W s){Q:QQ}(q:∀{I J s₂},Inv p f W lv σ s₂→Go W s₀ s₂ I J src→Step W₀ s₀ W s₂→Q (.ref I) s₂)
  (h:mJ W (s.heap.push o) s.heap.objs.size s.heap.objs.size src):Q (.ref s.heap.objs.size) {s with heap:=s.heap.push o}:=
 q I'.push ⟨h,I'.jo,I'.jo,st.old I' (gK _),st.old I' (gK _)⟩ (st.trans .push)
def KL(I':Inv p f W lv σ s)(st:Step W₀ s₀ W s){cv:Value}(r:aD W v cv)(h:srcOf σ v=some src):Ds p f lv W₀ s₀ W σ s cv src:=by
 intro E Q q
 cases v with
 |tup l=>
  obtain rfl:=aT h
  obtain⟨a,items,rfl,ht,_,rr⟩:=r
  exact(ht.obj I').elim fun n g=>of <| wpAny_pyIter_tuple (vq g) (I'.tG st q ⟨rfl,.inl ⟨a,0,items,⟨_,iB _ rfl,rfl,rfl⟩,ht,rr⟩⟩)
 |fl l=>
  obtain rfl:=aT h
  obtain⟨a,items,rfl,ht,_,rr⟩:=r
  exact(ht.obj I').elim fun n g=>of <| wpAny_pyIter_list (gm g) (I'.tG st q ⟨rfl,.inr (.inl ⟨a,0,items,⟨_,iB _ rfl,rfl,rfl⟩,ht,rr⟩)⟩)
 |bytes l=>
  obtain rfl:=aT h
  obtain⟨b,t,rfl,rfl,_⟩:=r
  exact of <| KBw.pyIter_bytes (I'.tG st q ⟨rfl,.inr (.inr (.inr ⟨b,t,0,⟨_,iB _ rfl,rfl,rfl⟩,gh⟩))⟩)
 |ref l=>
  refine bW h fun xs hc e=>?_
  subst e
  exact nB I' r (s7 hc) fun qa items n e1 g rr _=>of <| wpAny_pyIter_list (gm g) (I'.tG st q ⟨rfl,qa,e1,_,iB _ rfl,rfl,rfl⟩)
 |_=>exact nn h
def Go.self(g:Go W s₀ s I J src){E Q:QQ}(q:Q (.ref I) s):av p.M f.A (pyIter (.ref I)) Q E s:=by
 have a:=g.at_
 cases src with
 |items vs=>
  rcases a.2 with⟨t,i,items,h,_⟩ | ⟨t,i,items,h,_⟩ | ⟨x,left,h,_⟩ | ⟨b,t,i,h,_⟩
  ·exact of <| wpAny_pyIter_tupleiter h q
  ·exact of <| wpAny_pyIter_listiter h q
  ·exact of <| wpAny_pyIter_rangeiter h q
  ·exact of <| KBw.pyIter_self h q
 |lst l i=>exact a.2.elim fun _ h=>of <| wpAny_pyIter_listiter h.2 q
 |enum l i=>exact a.2.elim fun _ h=>h.elim fun _ h=>of <| wpAny_pyIter_enum h.2.1 q
structure iK where
 prog:Program
 w:World
 A:Around
 R:Result→Shared→Prop
 I:Nat→Shared→Prop
 elt:Expr
 target:Expr
 ifs:List Expr
 it:Value
 acc:Value
 env:Env
noncomputable abbrev iK.M(z:iK):Model:=model z.prog z.w
def iK.less(z:iK)(n:Nat)(s:Shared):Prop:=∃m,m<n∧z.I m s
def iK.k4(z:iK)(n:Nat)(x:Value)(s:Shared):Prop:=av z.M z.A (call (.builtin "list.append") [z.acc,x]) (fun _ s=>z.less n s) bot s
def iK.k3(z:iK)(n:Nat)(ok:Bool)(s:Shared):Prop:=if ok=true then av z.M z.A (eval z.elt z.env) (z.k4 n) bot s else z.less n s
noncomputable abbrev vG(ifs:List Expr)(env:Env):Sem Bool:=forIn ifs true fun c r=>if r=true then do let ok ←isTrue c env (eval c env);pure (ForInStep.yield ok) else pure (ForInStep.yield r)
def iK.k2(z:iK)(n:Nat)(_:Unit)(s:Shared):Prop:=av z.M z.A (vG z.ifs z.env) (z.k3 n) bot s
def iK.k1(z:iK)(n:Nat)(v:Value)(_:Unit)(s:Shared):Prop:=av z.M z.A (assign z.target z.env v) (z.k2 n) bot s
def iK.k0(z:iK)(n:Nat):Option Value→Shared→Prop
 |none,s=>z.R (.ok .next) s
 |some v,s=>av z.M z.A (letOwnedTupleGo z.target z.it v) (z.k1 n v) bot s
def KN(z:iK)(bC:∀n s,z.I n s→av z.M z.A (pyNext z.it) (z.k0 n) bot s)(n:Nat)(h:z.I n s):
  dM z.M z.A (.compLoop (.ListComp z.elt [⟨z.target,iter,z.ifs,0⟩] scope pos) 0 z.it z.acc z.env) z.R s:=by
 refine Jm rfl rfl z.I (fun n s hI=>?_) n h
 show av _ z.A ((compTurn (.ListComp z.elt [⟨z.target,iter,z.ifs,0⟩] scope pos) 0 z.it z.acc z.env).onRaise (fun x=>do noteFrame x z.env;theTreesLotGoes x)) _ _ s
 refine Jj ?_
 rw[compTurn_list]
 refine ai (iV (ai (bF (bC n s hI) (fun r s₁ h₁=>?_) fun _ _ h'=>h'.elim)))
 cases r with
 |none=>exact aV h₁
 |some v=>
  refine ai (bF h₁ (fun _ s₁' h₁'=>?_) fun _ _ h'=>h'.elim)
  refine ai (bF h₁' (fun _ s₂ h₂=>ai (bF h₂ (fun ok s₃ h₃=>?_) fun _ _ h'=>h'.elim)) fun _ _ h'=>h'.elim)
  cases ok with
  |false=>exact aV ⟨rfl,h₃⟩
  |true=>exact ai (ai (bF (show av z.M z.A (eval z.elt z.env) (z.k4 n) bot s₃ from h₃) (fun x s₄ h₄=>ai (bF h₄ (fun _ s₅ h₅=>aV (aV ⟨rfl,h₅⟩)) fun _ _ h'=>h'.elim)) fun _ _ h'=>h'.elim))
def KO{env:Env}{names:List (Str×NameKind)}:(names.map fun(n,k)=>if(k==NameKind.free&&env.scope.kind == .function&&env.kindOf n==some .cell) then(n,NameKind.cell) else(n,k)).lookup x =
  (names.lookup x).map fun k=>if(k==NameKind.free&&env.scope.kind == .function&&env.kindOf x==some .cell) then NameKind.cell else k:=by
 induction names with
 |nil=>rfl
 |cons q r ih=>
  obtain⟨n,k⟩:=q
  rw[jJ,pP]
  have split:∀{b:Bool},(if b=true then(n,NameKind.cell) else(n,k))=(n,if b=true then NameKind.cell else k):=fun{b}=>by cases b <;> rfl
  show List.lookup x ((if(k==NameKind.free&&env.scope.kind == .function&&env.kindOf n==some .cell)=true then(n,NameKind.cell) else(n,k))::_)=_
  rw[split,pP,pP]
  cases hx:x==n with
  |true=>rw[eq_of_beq hx];rfl
  |false=>exact ih
noncomputable def rL(env:Env)(x:Str×NameKind):Option (Str×Addr):=if x.2 == .free then(env.cells.lookup x.1).map (x.1,·) else none
def KP{names:List (Str×NameKind)}:∀{acc:List (Str×Addr)},(∀x∈names,x.2 = .free→∃c,env.cells.lookup x.1=some c) →
  (forIn names acc fun(x:Str×NameKind) (cs:List (Str×Addr))=>(if(x.2 == .free)=true then do let a ←cellOf env x.1;pure (ForInStep.yield ((x.1,a)::cs)) else pure (ForInStep.yield cs):Sem (ForInStep (List (Str×Addr)))))=pure ((names.filterMap (rL env)).reverse++acc):=by
 induction names with
 |nil=>exact fun _=>rfl
 |cons q r ih=>
  intro acc h
  rw[List.forIn_cons,List.filterMap_cons]
  have ih:=fun acc=>ih (acc:=acc) fun x hx=>h x (.tail _ hx)
  unfold rL
  cases e:(q.2==NameKind.free) with
  |true=>
   refine(h q (.head _) (eq_of_beq e)).elim fun c ec=>?_
   have e1:cellOf env q.1=pure c:=by unfold cellOf;rw[ec]
   rw[if_pos rfl,if_pos rfl,e1,ec,Option.map_some,List.reverse_cons,ku]
   exact ih _
  |false=>exact ih acc
structure vH(names:List (Str×NameKind))(env:Env)(cl:List (Str×Addr)):Prop where
 of:∀{n c},(n,c)∈cl→(n,NameKind.free)∈names∧env.cells.lookup n=some c
 has:∀{n},(n,NameKind.free)∈names→∃c,(n,c)∈cl∧env.cells.lookup n=some c
 nodup:(cl.map (·.1)).Nodup
def vI(h:rL env x=some y):x=(y.1,.free)∧env.cells.lookup y.1=some y.2:=by
 unfold rL at h
 cases e:(x.2==NameKind.free) with
 |true=>
  rw[e,if_pos rfl] at h
  exact bW h fun c e1 e2=>e2▸⟨(show x=(x.1,x.2) from rfl).trans (aa _ (eq_of_beq e)),e1⟩
 |false=>rw[e] at h;exact nn h
def KQ{env:Env}(h:∀x∈scope.names,x.2 = .free→∃c,env.cells.lookup x.1=some c)(nd:(scope.names.map (·.1)).Nodup):∃cl,closureFor scope env=pure cl∧vH scope.names env cl:=by
 refine⟨_,(show closureFor scope env=pure ((scope.names.filterMap (rL env)).reverse++[]) from ?_),fun hm=>?_,fun{n} hm=>?_,?_⟩
 ·unfold closureFor
  have:(forIn scope.names ([]:List (Str×Addr)) fun(x:Str×NameKind) (r:List (Str×Addr))=>(match x with | (name,kind)=>if(kind == .free)=true then do let a ←cellOf env name;pure (ForInStep.yield ((name,a)::r)) else pure (ForInStep.yield r):Sem (ForInStep (List (Str×Addr)))))=pure _:=KP h
  first
  |exact this
  |(rw[show(forIn scope.names ([]:List (Str×Addr)) _:Sem (List (Str×Addr)))=pure _ from this];rfl)
  |(simp only [bind_pure];exact this)
 ·rw[fP,List.mem_reverse] at hm
  exact(pN.mp hm).elim fun x hx=>⟨(vI hx.2).1▸hx.1,(vI hx.2).2⟩
 ·exact(h _ hm rfl).elim fun c ec=>⟨c,by rw[fP,List.mem_reverse];exact pN.mpr ⟨_,hm,aa (Option.map (n,·)) ec⟩,ec⟩
 ·rw[fP,List.map_reverse]
  refine(List.reverse_perm _).nodup_iff.mpr ?_
  clear h
  generalize scope.names=l at nd
  induction l with
  |nil=>exact .nil
  |cons q r ih=>
   obtain⟨n1,n2⟩:=fO.mp nd
   rw[List.filterMap_cons]
   cases e:rL env q with
   |none=>exact ih n2
   |some y=>
    refine fO.mpr ⟨fun hm=>n1 ?_,ih n2⟩
    obtain⟨z,hz,ez⟩:=bP.mp hm
    obtain⟨x,hx,ex⟩:=pN.mp hz
    exact bP.mpr ⟨x,hx,(aa Prod.fst (vI ex).1).trans (ez.trans (aa Prod.fst (vI e).1).symm)⟩
end
noncomputable def FC.mine(f:FC):List Addr:=f.env.locals::f.env.cells.map (·.2)
noncomputable def Wd.into(W:Wd)(f:FC)(h:Heap)(nv:List Addr):Wd:=⟨fun b=>if b∈nv then some .var else if b∈f.mine then(h.get? b).map .iU else W.aC b,W.loc⟩
noncomputable def Wd.back(W' W:Wd)(f:FC)(nv:List Addr):Wd:=⟨fun b=>if b∈nv∨b∈f.mine then W.aC b else W'.aC b,W'.loc⟩
structure jq(p:PC)(f f':FC)(s s':Shared)(nv:List Addr):Prop where
 keep:∀b o,s.heap.get? b=some o→s'.heap.get? b=some o
 new:∀a∈nv,s.heap.get? a=none
 obj:∀a∈nv,∃o,s'.heap.get? a=some o∧rz o
 loc:f'.env.locals∈nv
 cells:∀x∈f'.env.cells,(x.2∈nv∨(f'.own=false∧x.2∈f.mine))∧∃v,s'.heap.IsCell x.2 v
 frs:∀e∈f'.frs,e∈f.frs∨∃L,e.frame=some L∧e.scope.kind ≠ .module∧L∈nv
 above:p.base.objs.size≤f'.env.locals
 g:s'.gens=s.gens
 os:s'.os=s.os
section
variable{W:Wd}{s:Shared}
def vJ(h:r.isFrame=true)(x:lO r o):rz o:=by
 cases r with
 |var=>exact x
 |iU _=>exact x.2.elim fun sl e=>e▸x.1
 |_=>exact ft h
def Dt(h:r.isFrame=true)(x:lO r o):lO r {o with slots:=sl}:=by
 cases r with
 |var=>exact x
 |iU _=>exact⟨x.1,x.2.elim fun qh e=>⟨sl,e▸rfl⟩⟩
 |_=>exact ft h
theorem Inv.mine(I:Inv p f W lv σ s)(h:a∈f.mine):∃r o,W.aC a=some r∧r.isFrame=true∧s.heap.get? a=some o∧lO r o:=by
 have go:∀{r},W.aC a=some r→r.isFrame=true→∃r o,W.aC a=some r∧r.isFrame=true∧s.heap.get? a=some o∧lO r o:=fun{r} e h=>(I.aC e).elim fun o q=>⟨r,o,e,h,q⟩
 rcases cS.mp h with e | e
 ·exact go (e▸I.var) rfl
 ·exact(bP.mp e).elim fun x q=>(I.cells x q.1).1.elim (fun h=>go (q.2▸h) rfl) fun h=>h.2.elim fun o h=>go (q.2▸h) rfl
def rM(h:a∈nv):(W.into f s.heap nv).aC a=some .var:=if_pos h
def jq.vK(N:jq p f f' s s' nv)(h:s.heap.get? a=some o):a∉nv:=fun z=>bU (N.new a z) h
def rN(N:jq p f f' s s' nv)(h:s.heap.get? a=some o)(m:a∈f.mine):(W.into f s.heap nv).aC a=some (.iU o):=(if_neg (N.vK h)).trans ((if_pos m).trans (aa _ h))
def rO(n:a∉nv)(m:a∉f.mine):(W.into f s.heap nv).aC a=W.aC a:=(if_neg n).trans (if_neg m)
def Inv.KW(I:Inv p f W lv σ s)(h:W.aC a=some r)(n:r.isFrame=false):a∉f.mine:=fun m=>(I.mine m).elim fun r' q=>q.elim fun o q=>eE (n.symm.trans (cA q.1 h▸q.2.1))
def Inv.vL(I:Inv p f W lv σ s)(h:W.aC a=none):a∉f.mine:=fun m=>(I.mine m).elim fun r' q=>q.elim fun o q=>bU h q.1
def vM(N:jq p f f' s s' nv)(I:Inv p f W lv σ s)(h:W.aC a=some r)(n:r.isFrame=false):(W.into f s.heap nv).aC a=some r:=
 (I.aC h).elim fun o q=>(rO (N.vK q.1) (I.KW h n)).trans h
def tH(I:Inv p f W lv σ s)(h:W.aC a=none)(n:a∉nv):(W.into f s.heap nv).aC a=none:=(rO n (I.vL h)).trans h
def vN(N:jq p f f' s s' nv)(I:Inv p f W lv σ s):W.Le (W.into f s.heap nv):=⟨fun e=>vM N I e rfl,id⟩
def Inv.enter(N:jq p f f' s s' nv)(I:Inv p f W lv σ s)(hv:gH (W.into f s.heap nv) f'.env lv' s'.heap):Inv p f' (W.into f s.heap nv) lv' σ s':=
 ⟨fun{a r} e=>by
  by_cases z:a∈nv
  ·exact(N.obj a z).elim fun o q=>⟨o,q.1,cA (rM z) e▸q.2⟩
  ·by_cases m:a∈f.mine
   ·refine(I.mine m).elim fun r' q=>q.elim fun o q=>⟨o,N.keep _ _ q.2.2.1,cA (rN N q.2.2.1 m) e▸⟨vJ q.2.1 q.2.2.2,o.slots,rfl⟩⟩
   ·exact(I.aC ((rO z m).symm.trans e)).elim fun o q=>⟨o,N.keep _ _ q.1,q.2⟩,
 fun e=>vM N I (I.pins e) rfl,fun e=>⟨(I.loc e).1.imp (vM N I · rfl) (vM N I · rfl),(I.loc e).2⟩,fun e h=>(I.cell e h).keep (vN N I) (N.keep _) (N.keep _),hv,rM N.loc,
 fun x hx=>⟨(N.cells x hx).1.imp rM fun h=>⟨h.1,(I.mine h.2).elim fun r q=>q.elim fun o q=>⟨o,rN N q.2.2.1 h.2⟩⟩,(N.cells x hx).2⟩,
 fun e he=>(N.frs e he).elim (fun h=>(I.frs e h).elim fun L q=>q.elim fun r q=>by
  by_cases m:L∈f.mine
  ·exact(I.mine m).elim fun r' y=>y.elim fun o y=>⟨L,_,q.1,q.2.1,rN N y.2.2.1 m,rfl⟩
  ·exact(I.aC q.2.2.1).elim fun o y=>⟨L,r,q.1,q.2.1,(rO (N.vK y.1) m).trans q.2.2.1,q.2.2.2⟩) fun h=>h.elim fun L q=>⟨L,_,q.1,q.2.1,rM q.2.2,rfl⟩,N.above⟩
theorem gH.slots(x:gH W env lv h)(le:W.Le W')(kl:∃sl,∀o,h.get? env.locals=some o→h'.get? env.locals=some {o with slots:=sl})(k:∀c o,(∃n,(n,c)∈env.cells)→h.get? c=some o→∃sl,h'.get? c=some {o with slots:=sl}):gH W' env lv h':=
 x.keep le (fun m h=>h.elim fun o h=>h.elim fun es h=>h.elim fun ep h=>kl.elim fun sl e=>⟨_,es,ep,e o h.1,h.2⟩) fun c v hc h=>h.elim fun o h=>(k c o hc h.1).elim fun sl e=>⟨_,e,h.2⟩
variable(N:jq p f f' s s' nv)(I:Inv p f W lv σ s)(st:Step (W.into f s.heap nv) s₀ W' s₂)
include N I
theorem jq.step(hs:Step W s₀ W s):Step (W.into f s.heap nv) s₀ (W.into f s.heap nv) s':=
 ⟨.refl _,fun{a o} n e=>by
  by_cases z:a∈nv
  ·exact bU n (rM z)
  ·by_cases m:a∈f.mine
   ·exact(I.mine m).elim fun r q=>q.elim fun o q=>bU n (rN N q.2.2.1 m)
   ·exact N.keep _ _ (hs.keep ((rO z m).symm.trans n) e),fun n e=>bU n e,N.g.trans hs.g,N.os.trans hs.os⟩
include st
theorem Inv.flew(J:Inv p f' W' KY σ' s₂)(m:a∈f.mine)(h:s.heap.get? a=some o):∃sl,s₂.heap.get? a=some {o with slots:=sl}:=
 (J.aC (st.ge.r (rN N h m))).elim fun o' q=>q.2.2.elim fun sl e=>⟨sl,q.1.trans (aa some e)⟩
omit N I st in
theorem tK(h:¬(a∈nv∨a∈f.mine)):(W'.back W f nv).aC a=W'.aC a:=if_neg h
omit N I st in
theorem zl(h:a∈nv∨a∈f.mine):(W'.back W f nv).aC a=W.aC a:=if_pos h
theorem vO(h:W'.aC a=some r)(n:r.isFrame=false):(W'.back W f nv).aC a=some r:=
 (tK fun z=>eE (n.symm.trans (z.elim (fun z=>cA (st.ge.r (rM z)) h▸rfl) fun z=>(I.mine z).elim fun r q=>q.elim fun o q=>cA (st.ge.r (rN N q.2.2.1 z)) h▸rfl))).trans h
theorem zm:W'.Le (W'.back W f nv):=⟨fun e=>vO N I st e rfl,id⟩
theorem Step.leave(hs:Step W s₀ W s):Step W s₀ (W'.back W f nv) s₂:=
 have off:∀{a},W.aC a=none→a∉nv→¬(a∈nv∨a∈f.mine):=fun h n z=>z.elim n (I.vL h)
 ⟨⟨fun{a r} e=>by
  by_cases z:a∈nv∨a∈f.mine
  ·exact(zl z).trans e
  ·exact(tK z).trans (st.ge.r ((rO (fun y=>z (.inl y)) fun y=>z (.inr y)).trans e)),st.ge.l⟩,
 fun n e=>st.keep (tH I n (N.vK (hs.keep n e))) e,fun{a r} n e=>by
  by_cases z:a∈nv
  ·exact gj fun o h=>bU (N.new a z) (hs.keep n h)
  ·exact st.new (tH I n z) ((tK (off n z)).symm.trans e),st.g,st.os⟩
theorem Inv.leave(hs:Step W s₀ W s)(J:Inv p f' W' KY σ' s₂):Inv p f (W'.back W f nv) lv σ' s₂:=
 have S:=Step.leave N I st hs
 have fl:∀{a o},a∈f.mine→s.heap.get? a=some o→∃sl,s₂.heap.get? a=some {o with slots:=sl}:=I.flew N st J
 have mc:∀{x},x∈f.env.cells→x.2∈f.mine:=fun hx => .tail _ (bP.mpr ⟨_,hx,rfl⟩)
 ⟨fun{a r} e=>by
  by_cases z:a∈nv∨a∈f.mine
  ·have e:=(zl z).symm.trans e
   exact z.elim (fun z=>(I.aC e).elim fun o q=>bU (N.new a z) q.1) fun z=>(I.mine z).elim fun r' q=>q.elim fun o q=>(fl z q.2.2.1).elim fun sl h=>⟨_,h,cA q.1 e▸Dt q.2.1 q.2.2.2⟩
  ·exact J.aC ((tK z).symm.trans e),fun e=>S.ge.r (I.pins e),fun e=>⟨(J.loc e).1.imp (vO N I st · rfl) (vO N I st · rfl),(J.loc e).2⟩,
 fun e h=>(J.cell e h).keep (zm N I st) (fun _ e=>e) fun _ e=>e,
 I.vars.slots S.le (I.aC I.var |>.elim fun o h=>(fl (.head _) h.1).elim fun sl e=>⟨sl,fun o' h'=>cA h.1 h'▸e⟩) fun c o hc h=>hc.elim fun n hc=>fl (mc hc) h,S.ge.r I.var,
 fun x hx=>⟨(I.cells x hx).1.imp S.ge.r fun h=>⟨h.1,h.2.elim fun o h=>⟨o,S.ge.r h⟩⟩,(I.cells x hx).2.elim fun v h=>h.elim fun o h=>(fl (mc hx) h.1).elim fun sl e=>⟨v,_,e,h.2⟩⟩,
 fun e he=>(I.frs e he).elim fun L q=>q.elim fun r q=>⟨L,r,q.1,q.2.1,S.ge.r q.2.2.1,q.2.2.2⟩,I.above⟩
end
section
def Step.same(x:Step W₀ s₀ W s):Step W s₀ W s:=⟨.refl W,fun n e=>x.keep (gj fun _ h=>bU n (x.ge.r h)) e,fun n e=>bU n e,x.g,x.os⟩
def Step.over(x:Step W₀ s₀ W s)(y:Step W s₀ W' s'):Step W₀ s₀ W' s':=⟨x.ge.trans y.ge,fun n e=>y.keep (x.stay n e) e,fun{a r} n e=>by
  cases q:W.aC a with
  |some r'=>exact x.new n q
  |none=>exact y.new q e,y.g,y.os⟩
end
inductive KI(p:PC)(f:FC)(lv:Lv)(W₀:Wd)(s₀:Shared)(en:Bool)(Q:QS)(x:Value)(W:Wd)(s:Shared):Prop
 |mk (σ:St) (src:Src) (I:Inv p f W lv σ s) (r:Ds p f lv W₀ s₀ W σ s x src) (e:src.iu=true→en=true) (q:Q src σ)
inductive KA(p:PC)(f:FC)(K:QL)(u:Unit)(W:Wd)(s:Shared):Prop
 |mk (lv:Lv) (σ:St) (I:Inv p f W lv σ s) (q:K lv σ)
structure Ft(p:PC)(n:Nat)(f:FC)(sc:Sc):Prop where
 ok:bA p f
 lv:n+1≤f.lvl
 km:KM sc f.env
 own:∀{x},sc.lookup x=some .cell→f.own=true
abbrev W0(cs:List Expr)(env:Env):Sem Bool:=vG cs env
abbrev Du(n:Nat):Wd→List Value→List V→Prop:=fun W a b=>aN W b a∧b.length=n
section
variable(p:PC)(cx:Cx)(n:Nat)
abbrev SE(m:E):Prop:=∀{ps:Ps} {sc:Sc} {f:FC} {lv:Lv} {W:Wd} {σ:St} {s:Shared} {Q:QV} {X:QX},Ft p n f sc→b8 sc m ps=true→Inv p f W lv σ s→wE cx m lv σ Q X→Ev p.M f.A W s (eval (ay m ps).1 f.env) (KV p f lv Q) (KX p f lv X)
abbrev SL(ms:List E):Prop:=∀{ps:Ps} {sc:Sc} {f:FC} {lv:Lv} {W:Wd} {σ:St} {s:Shared} {Q:QA} {X:QX},Ft p n f sc→iw sc ms ps=true→Inv p f W lv σ s→wL cx ms lv σ Q X →
 Ev p.M f.A W s (spliced ((toL ms ps).1.map fun e=>(false,eval e f.env))) (KR p f lv (Du ms.length) Q) (KX p f lv X)
abbrev SC(m:E):Prop:=∀{ps:Ps} {sc:Sc} {f:FC} {lv:Lv} {W:Wd} {σ:St} {s:Shared} {Q:QB} {X:QX},Ft p n f sc→b8 sc m ps=true→Inv p f W lv σ s→wC cx m lv σ Q X→Ev p.M f.A W s (isTrue (ay m ps).1 f.env (eval (ay m ps).1 f.env)) (KB p f lv Q) (KX p f lv X)
abbrev SI(it:It):Prop:=∀{ps:Ps} {sc:Sc} {f:FC} {lv:Lv} {W:Wd} {σ:St} {s:Shared} {Q:QS} {X:QX},Ft p n f sc→zd sc it ps=true→Inv p f W lv σ s→wI cx it lv σ Q X→Ev p.M f.A W s (eval (jR it ps).1 f.env) (KI p f lv W s it.iu Q) (KX p f lv X)
abbrev ST(t:T):Prop:=∀{ps:Ps} {sc:Sc} {f:FC} {lv:Lv} {W:Wd} {σ:St} {s:Shared} {v:V} {cv:Value} {K:QL} {X:QW},Ft p n f sc→mG sc t ps=true→Inv p f W lv σ s→aD W v cv→wA cx t v lv σ K→Ev p.M f.A W s (assign (toT t ps).1 f.env cv) (KA p f K) X
end
section
variable{s':Shared}{cl:List (Str×Addr)}
noncomputable def mK(f:FC)(scope:Scope)(cl:List (Str×Addr))(C:Addr):FC:={f with env:=compEnvC scope cl C f.env,own:=false}
def vP{α β:Type}[BEq α][LawfulBEq α]{x:α}{y:β}{l:List (α×β)}(nd:(l.map (·.1)).Nodup)(h:(x,y)∈l):l.lookup x=some y:=by
 induction l with
 |nil=>cases h
 |cons q r ih=>
  obtain⟨n1,n2⟩:=fO.mp nd
  rw[pP]
  rcases cS.mp h with z | z
  ·rw[←z,show(x==(x,y).1)=true from dW x]
  ·rw[show(x==q.1)=false from nY.mpr fun e=>n1 (bP.mpr ⟨_,z,e⟩)]
   exact ih n2 z
def Dv(h:aF (dQ ns lv) n=some x):ns.contains n=false∧aF lv n=some x:=by
 induction lv with
 |nil=>exact nn h
 |cons q r ih=>
  unfold dQ at h ih
  rw[List.filter_cons] at h
  cases z:ns.contains q.1 with
  |true=>
   rw[z,if_neg (show ¬((!true)=true) from ft)] at h
   have ih:=ih h
   exact⟨ih.1,(dZ fun e:q.1=n=>eE ((e▸ih.1).symm.trans z)).trans ih.2⟩
  |false=>
   rw[z,if_pos (show(!false)=true from rfl)] at h
   by_cases e:q.1=n
   ·exact⟨e▸z,by rw[←e] at h ⊢;exact fZ.trans (fZ.symm.trans h)⟩
   ·exact(ih ((dZ e).symm.trans h)).imp id fun y=>(dZ e).trans y
structure nF(sc:Sc)(ns:List Nm)(scope:Scope):Prop where
 kind:scope.kind = .function
 loc:∀x,(x,NameKind.local)∈scope.names→scope.names.lookup x=some .local∧(x=aS ".0"∨∃n∈ns,n.s=x)
 free:∀x,(x,NameKind.free)∈scope.names→sc.lookup x=some .free∨sc.lookup x=some .cell
 only:∀x k,(x,k)∈scope.names→k = .local∨k = .free∨k = .globalImplicit
 nodup:(scope.names.map (·.1)).Nodup
def nF.of(h:Dk sc ns scope=true):nF sc ns scope:=by
 obtain⟨h1,h⟩:=aE h
 obtain⟨h2,h⟩:=aE h
 have h2:=fun x hx=>jg.mp h2 x hx
 refine⟨eq_of_beq h1,fun x hx=>(aE (h2 _ hx)).imp eq_of_beq fun e=>(l8.mp e).imp eq_of_beq fun q=>(List.any_eq_true.mp q).imp fun n q=>⟨q.1,eq_of_beq q.2⟩,fun x hx=>(l8.mp (h2 _ hx)).imp eq_of_beq eq_of_beq,fun x k hx=>?_,iD (aE h).1⟩
 have h2:=h2 _ hx
 cases k with
 |«local»=>exact .inl rfl
 |free=>exact .inr (.inl rfl)
 |globalImplicit=>exact .inr (.inr rfl)
 |_=>exact ft h2
def vQ(x:Str):(mK f scope cl C).env.kindOf x=(scope.names.lookup x).map fun k=>if(k==NameKind.free&&f.env.scope.kind == .function&&f.env.kindOf x==some .cell) then NameKind.cell else k:=KO
def KZ:(if b=true then NameKind.cell else .free) = .cell∨(if b=true then NameKind.cell else .free) = .free:=by
 cases b with
 |true=>exact .inl rfl
 |false=>exact .inr rfl
def K0:(if b=true then NameKind.cell else .free) ≠ .local:=by cases b <;> nofun
def KM.comp(so:nF sc ns scope):KM scope.names (mK f scope cl C).env where
 l:=fun h=>(vQ _).trans (by rw[h];rfl)
 c:=fun h=>(so.only _ _ (jn h)).elim (fun h=>NameKind.noConfusion h) fun h=>h.elim (fun h=>NameKind.noConfusion h) (fun h=>NameKind.noConfusion h)
 fr:=fun h=>by rw[vQ,h];exact KZ.imp (aa some) (aa some)
 g:=fun h=>(vQ _).trans (by rw[h];rfl)
def zo(so:nF sc ns scope)(h:(mK f scope cl C).env.kindOf x=some k):(k = .local∧(x=aS ".0"∨∃n∈ns,n.s=x))∨(k ≠ .local∧(x,NameKind.free)∈scope.names)∨k = .globalImplicit:=by
 rw[vQ] at h
 refine bW h fun k0 e1 e2=>?_
 have hm:=jn e1
 rcases so.only x k0 hm with z | z | z
 ·subst z;exact .inl ⟨e2.symm,(so.loc x hm).2⟩
 ·subst z;exact .inr (.inl ⟨e2▸K0,hm⟩)
 ·subst z;exact .inr (.inr e2.symm)
def Dw(so:nF sc ns scope)(h:(mK f scope cl C).env.kindOf x=some .cell∨(mK f scope cl C).env.kindOf x=some .free):(x,NameKind.free)∈scope.names:=
 h.elim (fun h=>(zo so h).elim (fun h=>nomatch h.1) fun h=>h.elim (·.2) (fun h=>NameKind.noConfusion h)) fun h=>(zo so h).elim (fun h=>nomatch h.1) fun h=>h.elim (·.2) (fun h=>NameKind.noConfusion h)
def K5{cells:List (Str×Addr)}{names:List (Str×NameKind)}{env:Env}(nd:(env.cells.map (·.2)).Nodup)(h:∀{n c},(n,c)∈cl→env.cells.lookup n=some c)(nf:(cl.map (·.1)).Nodup):(cl.map (·.2)).Nodup:=by
 induction cl with
 |nil=>exact .nil
 |cons q r ih=>
  obtain⟨n1,n2⟩:=fO.mp nf
  refine fO.mpr ⟨fun hm=>?_,ih (fun hm=>h (.tail _ hm)) n2⟩
  obtain⟨x,hx,e⟩:=bP.mp hm
  have e:x=q:=CO nd (jn (h (.tail _ hx))) (jn (h (.head _))) e
  exact n1 (e▸bP.mpr ⟨_,hx,rfl⟩)
def bA.comp(ok:bA p f)(so:nF sc ns scope)(co:vH scope.names f.env cl)(hC:C∉f.mine):bA p (mK f scope cl C):=
 ⟨ok.frames,ok.head,ok.aG,ok.units,ok.handled,fun h=>(co.has (Dw so h)).imp fun c h=>vP co.nodup h.1,ok.frame,so.kind,ok.globals,ok.builtins,
 fO.mpr ⟨fun hm=>(bP.mp hm).elim fun x q=>hC (.tail _ (bP.mpr ⟨_,jn (co.of q.1).2,q.2⟩)),K5 (cells:=[]) (names:=[]) (fO.mp ok.apart).2 (fun h=>(co.of h).2) co.nodup⟩⟩
def jq.comp(I:Inv p f W lv σ s)(co:vH scope.names f.env cl)(k:∀b o,s.heap.get? b=some o→s'.heap.get? b=some o)(hC:s.heap.get? C=none)(K6:s.heap.objs.size≤C)(hN:s'.heap.Ns C fun _=>none)(g:s'.gens=s.gens)(o:s'.os=s.os):jq p f (mK f scope cl C) s s' [C]:=
 ⟨k,fun a h=>gf.mp h▸hC,fun a h=>gf.mp h▸u9 hN,.head _,fun x hx=>have m:=jn (co.of hx).2;⟨.inr ⟨rfl,.tail _ (bP.mpr ⟨_,m,rfl⟩)⟩,(I.cells _ m).2.imp fun v h=>lP h (k _)⟩,fun e h => .inl h,
 aH I.above (aH ((I.aC I.var).elim fun o h=>eL (iF h.1)) K6),g,o⟩
def gH.comp(P:aO p)(km:KM sc f.env)(so:nF sc ns scope)(co:vH scope.names f.env cl)(I:Inv p f W lv σ s)(k:∀b o,s.heap.get? b=some o→s'.heap.get? b=some o)(hN:s'.heap.Ns C fun _=>none)(le:W.Le W'):gH W' (mK f scope cl C).env (dQ ns lv) s'.heap:=by
 refine I.vars.elim fun m hm=>⟨_,hN,fun n x hx=>(hm.2 n x (Dv hx).2).elim fun v q=>⟨v,q.1.le le,fun h=>?_,fun h=>?_⟩⟩
 ·exact(zo so h).elim (fun h=>h.2.elim (fun h=>absurd h (P.dot0 n)) fun h=>h.elim fun y h=>Bool.noConfusion ((Dv hx).1.symm.trans (List.contains_iff_mem.mpr (P.inj _ _ h.2▸h.1)))) fun h=>h.elim (fun h=>absurd rfl h.1) (fun h=>NameKind.noConfusion h)
 ·have hm:=Dw so h
  obtain⟨c,e,i⟩:=q.2.2 ((so.free _ hm).elim km.fr fun h => .inl (km.c h))
  exact(co.has hm).elim fun c' y=>⟨c',vP co.nodup y.1,cA e y.2▸lP i (k _)⟩
end
section
variable{src:Src}
def Dy(h:src.next σ=some (some (v,src'))):src'.iu=src.iu:=by
 cases src with
 |items vs=>
  cases vs with
  |nil=>cases h
  |cons x r=>exact aa (fun q=>(Option.elim q src' fun q=>q.2).iu) (aT h).symm
 |lst l i=>exact bW h fun _ _ h=>bW h fun _ _ h=>aa (fun q:V×Src=>q.2.iu) h.symm
 |enum l i=>exact bW h fun _ _ h=>bW h fun _ _ h=>aa (fun q:V×Src=>q.2.iu) h.symm
structure iW(p:PC)(f:FC)(W₀:Wd)(s₀:Shared) where
 elt':Lv→St→QV→Prop
 asg:V→Lv→St→QL→Prop
 cond:Lv→St→QB→Prop
 elt:Expr
 target:Expr
 ifs:List Expr
 I:Addr
 J:Addr
 D:Addr
 en:Bool
 Q:List V→St→Prop
 R:Result→Shared→Prop
structure iW.At(c:iW p f W₀ s₀)(W:Wd)(lv:Lv)(σ:St)(s:Shared)(src:Src)(acc:List V):Prop where
 inv:Inv p f W lv σ s
 go:Go W s₀ s c.I c.J src
 st:Step W₀ s₀ W s
 nD:W.aC c.D=none
 eD:∃items k,s.heap.get? c.D=some (jm items k)∧aN W acc items
 en:src.iu=true→c.en=true
inductive iW.Inv(c:iW p f W₀ s₀)(n:Nat)(s:Shared):Prop
 |mk (W:Wd) (lv:Lv) (σ:St) (src:Src) (acc:List V) (Q:QA) (a:c.At W lv σ s src acc) (z:acc.length+n≤bz) (w:nu c.elt' c.asg c.cond n src lv σ Q) (q:∀ys σ,Q ys σ→c.Q (acc++ys) σ)
noncomputable abbrev iW.z(c:iW p f W₀ s₀):iK:=⟨p.prog,p.w,f.A,c.R,c.Inv,c.elt,c.target,c.ifs,.ref c.I,.ref c.D,f.env⟩
structure iW.Ok(c:iW p f W₀ s₀):Prop where
 fD:s₀.heap.get? c.D=none
 hE:∀{W lv σ s K},Mine.Internal.Inv p f W lv σ s→c.elt' lv σ K→Ev p.M f.A W s (eval c.elt f.env) (KV p f lv K) (KX p f lv bV)
 hT:∀{W lv σ s v cv K},Mine.Internal.Inv p f W lv σ s→aD W v cv→c.asg v lv σ K→Ev p.M f.A W s (assign c.target f.env cv) (KA p f K) (KX p f lv bV)
 hC:∀{W lv σ s K},Mine.Internal.Inv p f W lv σ s→c.cond lv σ K→Ev p.M f.A W s (vG c.ifs f.env) (KB p f lv K) (KX p f lv bV)
 ht:c.en=true→∃es x q,c.target = .Tuple es x q
 hR:∀{W lv σ s items k vs},Mine.Internal.Inv p f W lv σ s→Step W₀ s₀ W s→W.aC c.D=none→s.heap.get? c.D=some (jm items k)→aN W vs items→vs.length≤bz→c.Q vs σ→c.R (.ok .next) s
def Ev.sure{K:α→Wd→Shared→Prop}(h:Ev p.M f.A W s t K (KX p f lv bV))(q:∀a W' s',Step W s W' s'→K a W' s'→Q a s'):av p.M f.A t Q bot s:=
 bF h (fun a s' h=>h.casesOn fun W' st k=>q a W' s' st k) fun _ _ h=>h.casesOn fun _ _ k=>k.casesOn fun _ _ _ _ q=>q
variable{c:iW p f W₀ s₀}
def iW.At.on(a:c.At W lv σ s src acc)(st:Step W s W' s')(J:Mine.Internal.Inv p f W' lv' σ' s'):c.At W' lv' σ' s' src acc:=
 a.eD.elim fun items h=>h.elim fun k h=>⟨J,a.go.keep st,a.st.trans st,st.stay a.nD h.1,⟨items,k,st.keep a.nD h.1,h.2.le st.le⟩,a.en⟩
def iW.bC(ok:bA p f)(P:aO p)(h:c.Ok)(n:Nat)(s:Shared)(i:c.Inv n s):av p.M f.A (pyNext (.ref c.I)) (c.z.k0 n) bot s:=by
 obtain⟨W,lv,σ,src,acc,Q,a,z,w,q⟩:=i
 cases n with
 |zero=>exact w.elim
 |succ n=>
  have z':acc.length≤bz:=aH (n7 _ _) z
  have zn:acc.length+n≤bz:=aH (Nat.le_succ _) z
  refine bR w fun nx hq w=>bF (a.go.next ok P a.inv a.st hq) (fun r s₁ h₁=>?_) fun _ _ x=>x
  obtain⟨items,k,e,rr⟩:=a.eD
  cases nx with
  |none=>
   obtain⟨rfl,G⟩:=h₁
   exact h.hR G.inv G.st (G.k a.nD e rfl).2 (G.k a.nD e rfl).1 (rr.le G.le) z' ((aa (fun l=>c.Q l σ) (fP acc)).mp (q [] σ w))
  |some x=>
   obtain⟨cv,rfl,hgo⟩:=h₁
   refine hgo (fun z=>h.ht (a.en z)) fun s2 W2 G rv g2=>(h.hT G.inv rv w).sure fun _ W3 s3 st3 k3=>k3.casesOn fun oO σ3 I3 w=>?_
   have a3:c.At W3 oO σ3 s3 x.2 acc:=iW.At.on (c:=c) ⟨G.inv,g2,G.st,(G.k a.nD e rfl).2,⟨items,k,(G.k a.nD e rfl).1,rr.le G.le⟩,fun z=>a.en ((Dy (v:=x.1) hq).symm.trans z)⟩ st3 I3
   refine(h.hC I3 w).sure fun b W4 s4 iX k4=>k4.casesOn fun rP b' I4 eb w=>?_
   subst eb
   have a4:=a3.on iX I4
   cases b with
   |false=>exact⟨n,kD n,W4,oO,rP,x.2,acc,Q,a4,zn,w,q⟩
   |true=>
    refine(h.hE I4 w).sure fun cx W5 s5 K7 k5=>k5.casesOn fun Dz y I5 ry w=>?_
    obtain⟨_,g5,st',nD,⟨items,k,e,rr⟩,en⟩:=a4.on K7 I5
    refine of <| wpAny_list_append_plain ⟨_,e⟩ (fun h' hp hs=>hp.elim fun k' e'=>?_) (gM (aH (cT rr.length) z'))
    have kk:∀b o,b≠c.D→b≠c.D→s5.heap.get? b=some o→h'.get? b=some o:=fun b o n _ e=>(hs.2 b n).trans e
    have ne:∀{b:Addr} {o:Obj} {m:String},s5.heap.get? b=some o→o.cls = .type m→m≠"list"→b≠c.D:=fun h hc l z=>l (by have:=cA (z▸h) e;subst this;injection hc.symm)
    refine cps fun C9 k9=>?_
    obtain⟨o1,o2,m1,m2,p1,p2,p3,p4,p5,p6⟩:=g5.at_.obj
    refine k9 ?_
    exact⟨n,kD n,W5,oO,Dz,x.2,acc++[y],_,⟨I5.off nD nD kk,⟨g5.at_.keep (.refl _) (fun o=>kk _ o (ne p1 p3 p5) (ne p1 p3 p5)) fun o=>kk _ o (ne p2 p4 p6) (ne p2 p4 p6),g5.nI,g5.nJ,g5.fI,g5.fJ⟩,st'.off h.fD h.fD kk rfl rfl,nD,⟨items++[cx],k',e'.trans (aa (fun a:Array Value=>some ({cls := .type "list",data := .seq a k'}:Obj)) (List.push_toArray items cx)),aN.append (.cons ry .nil) rr⟩,en⟩,
     (by rw[cG,List.length_singleton,Nat.add_right_comm];exact z),w,fun ys σ h=>(ku acc [y] ys).symm▸q _ σ h⟩
end
section
def K8(hz:Nat.ble cs.length 1=true)(h:∀c∈cs,SC p cx n c){K:QB}(g:Ft p n f sc)(k:iw sc cs ps=true)(I:Inv p f W lv σ s)(w:wCs cx true cs lv σ K bV):
  Ev p.M f.A W s (vG (toL cs ps).1 f.env) (KB p f lv K) (KX p f lv bV):=by
 rcases cs with _ | ⟨c,_ | ⟨_,_⟩⟩
 ·exact Ev.val ⟨σ,true,I,rfl,w⟩
 ·exact .f7 (fun Q E x=>Jr x) ((h c (.head _) g (aE k).1 I w).map fun{a W' s' σ' b} _ I e q=>⟨σ',b,I,e,by cases b <;> exact q⟩)
 ·exact ft hz
def K9{c:iW p f W₀ s₀}(ok:bA p f)(P:aO p)(h:c.Ok)(i:c.Inv N s):dM p.M f.A (.compStart (.ListComp c.elt [⟨c.target,iter,c.ifs,0⟩] scope pos) 0 (.ref c.I) (.ref c.D) f.env) c.R s:=
 have l:=KN c.z (iW.bC ok P h) N i
 i.casesOn fun _ _ _ _ _ _ a _ _ _=>Jq l (a.go.self l)
def Lh(so:nF sc ns scope){P:Prop}(h:scope.names.lookup x=some .cell):P:=(so.only _ _ (jn h)).elim (fun h=>NameKind.noConfusion h) fun h=>h.elim (fun h=>NameKind.noConfusion h) (fun h=>NameKind.noConfusion h)
def DA{it:It}(h:(!it.iu||t.isTup)=true)(e:it.iu=true):∃es x q,(toT t ps).1 = .Tuple es x q:=by
 rw[e] at h
 cases t with
 |tup ts=>exact⟨_,_,_,rfl⟩
 |_=>exact ft h
structure Li(p:PC)(f:FC)(lv:Lv)(W:Wd)(s:Shared)(W':Wd)(σ':St)(s':Shared)(D C:Addr)(vs:List V)(items:List Value)(k:Nat):Prop where
 inv:Inv p f W' lv σ' s'
 st:Step W s W' s'
 nC:W'.aC C=none
 fC:s.heap.get? C=none
 ns:∃m,s'.heap.Ns C m
 ne:D≠C
 nD:W'.aC D=none
 fD:s.heap.get? D=none
 eD:s'.heap.get? D=some (jm items k)
 rr:aN W' vs items
 z:vs.length≤bz
def DB(P:aO p){it:It}(h1:SI p cx n it)(h2:SE p cx n e1)(h3:ST p cx n tt)(h4:∀c∈cs,SC p cx n c)
  {use:Option (Value→Sem Unit)} {K:QW} (g:Ft p n f sc) (h:b8 sc (.comp z e1 tt it cs l) ps=true) (I:Inv p f W lv σ s)
  (w:wI cx it lv σ (fun src σ=>nu (fun lv σ K=>wE cx e1 lv σ K bV) (fun v lv σ K=>wA cx tt v lv σ K) (fun lv σ K=>wCs cx true cs lv σ K bV) gG src (dQ tt.names lv) σ Qf) X)
  (hQ:∀{W' σ' s' D C vs items k},Li p f lv W s W' σ' s' D C vs items k→Qf vs σ'→compPost p.M f.A (PK W s (KX p f lv X)) use (PK W s K) (.ref D) C (.ok .next) s'):
  Ev p.M f.A W s (comprehension (ay (.comp z e1 tt it cs l) ps).1 (ie l) f.env pos (newList []) false (eval (jR it (toT tt (ay e1 (tl ps)).2).2).1 f.env) use) K (KX p f lv X):=by
 refine cps fun C9 k9=>?_
 obtain⟨k1,h⟩:=aE h
 obtain⟨k2,h⟩:=aE h
 obtain⟨k3,h⟩:=aE h
 obtain⟨k4,h⟩:=aE h
 obtain⟨k5,h⟩:=aE h
 obtain⟨k6,k7⟩:=aE h
 refine k9 ?_
 have so:=nF.of k1
 obtain⟨cl,hclos,co⟩:=KQ (env:=f.env) (scope:=ie l) (fun x hx hk=>g.ok.cellsOf ((so.free x.1 (hk▸hx)).elim g.km.fr fun h => .inl (g.km.c h))) so.nodup
 refine Jp rfl (fun x=>Dr _ _) hclos so.kind (fun x hx hk=>(so.loc x.1 (hk▸hx)).1) ?_
 refine bF (h1 g k6 I w) (fun x s₁ h₁=>h₁.casesOn fun W1 st1 h₁=>h₁.casesOn fun σ1 src I1 Ll en w=>?_) fun _ _ x=>x
 refine Ll fun{I J s₂} I2 g2 st2=>?_
 have hcell:∀y∈(ie l).names,y.2 ≠ .cell:=fun y hy hk=>(so.only y.1 y.2 hy).elim (fun e=>nomatch e.symm.trans hk) fun h=>h.elim (fun e=>nomatch e.symm.trans hk) fun e=>nomatch e.symm.trans hk
 refine of <| wpAny_newObj_type (of <| wpAny_newFunctionEnv hcell (fun y hy=>nomatch hy) (fun h₁ zp zq=>?_) so.kind)
 generalize zv:s₂.heap.push {cls := .type "list",dict:=none,data := .seq ([]:List Value).toArray}=H2 at zp zq ⊢
 have Lm:H2.objs.size=s₂.heap.objs.size+1:=by rw[←zv,Heap.size_push]
 have lt:s₂.heap.objs.size<H2.objs.size:=Lm▸kD _
 have old:∀b o,s₂.heap.get? b=some o→h₁.get? b=some o:=fun b o e=>
  zq.extBut b o (mq (Nat.lt_trans (iF e) lt)) (fT _ (zv▸fT _ e))
 have eD:h₁.get? s₂.heap.objs.size=some {cls := .type "list",data := .seq #[]}:=zq.extBut _ _ (mq lt) (fT _ (zv▸iB _ rfl))
 have fC:s₂.heap.get? H2.objs.size=none:=gj fun o e=>Nat.lt_asymm (iF e) lt
 have DC:∀{b o},s₂.heap.get? b=some o→b∉[H2.objs.size]:=fun e m=>bU (gf.mp m▸fC) e
 have DE:s₂.heap.objs.size∉[H2.objs.size]:=fun m=>mq lt (gf.mp m)
 have N:=jq.comp (s':={s₂ with heap:=h₁,toks:=s₂.toks+([]:List (Str×Value)).length}) I2 co old fC (eL lt) zp rfl rfl
 have I4:=I2.enter N (gH.comp P g.km so co I2 old zp (vN N I2))
 have hs:=st2.same
 have gI:=g2.at_.obj
 refine cps fun C9 k9=>?_
 obtain⟨_,_,_,_,gI,gJ,_⟩:=gI
 refine k9 ?_
 have g':∀{sc'},sc'=(ie l).names→Ft p n (mK f (ie l) cl H2.objs.size) sc':=fun e=>e▸⟨g.ok.comp so co (I2.vL (I2.free fC)),g.lv,KM.comp so,Lh so⟩
 have hc:iW.Ok (p:=p) (f:=mK f (ie l) cl H2.objs.size) (W₀:=W1.into f s₂.heap [H2.objs.size]) (s₀:=s) ⟨fun lv σ K=>wE cx e1 lv σ K bV,fun v lv σ K=>wA cx tt v lv σ K,fun lv σ K=>wCs cx true cs lv σ K bV,_,_,_,I,J,s₂.heap.objs.size,it.iu,Qf,compPost p.M f.A (PK W s (KX p f lv X)) use (PK W s K) (.ref s₂.heap.objs.size) H2.objs.size⟩:=
  ⟨st2.old I2 (gK _),fun I w=>h2 (g' rfl) k4 I w,fun I r w=>h3 (g' rfl) k5 I r w,fun I w=>K8 k3 h4 (g' rfl) k7 I w,DA k2,fun{W5 W6 Dz s5 items k vs} J5 S5 nD e5 rr hz q=>hQ ⟨Inv.leave N I2 S5 hs J5,st2.over (Step.leave N I2 S5 hs),(zl (.inl (.head _))).trans (I2.free fC),st2.old I2 fC,J5.vars.imp fun m hm=>hm.1,mq lt,(tK fun h=>h.elim DE (I2.vL I2.jo)).trans nD,st2.old I2 (gK _),e5,rr.le (zm N I2 S5),hz⟩ q⟩
 exact K9 (g' rfl).ok P hc ⟨_,_,σ1,src,[],_,⟨I4,⟨g2.at_.keep (vN N I2) (old _) (old _),tH I2 g2.nI (DC gI),tH I2 g2.nJ (DC gJ),g2.fI,g2.fJ⟩,N.step I2 hs,tH I2 I2.jo DE,⟨[],0,eD,.nil⟩,en⟩,(show 0+gG≤bz from bw rfl),w,fun _ _ h=>h⟩
def Lr(P:aO p)(h1:SI p cx n it)(h2:SE p cx n e1)(h3:ST p cx n tt)(h4:∀c∈cs,SC p cx n c):SE p cx n (.comp z e1 tt it cs l):=fun g h I w=>
 .re (arm_eval_ListComp ..) (DB (use:=none) P h1 h2 h3 h4 g h I w fun{W' σ' s' D C vs items k} L q=>L.ns.imp fun m hm=>⟨hm,fun h' hs'=>
  have kk:∀b o,b≠C→b≠C→s'.heap.get? b=some o→h'.get? b=some o:=fun b o n _ e=>(hs'.2 b n).trans e
  .newL (L.inv.off L.nC L.nC kk) (L.st.off L.fC L.fC kk rfl rfl) L.fD L.nD ((hs'.2 _ L.ne).trans L.eD) L.rr L.z q⟩)
end
section
variable{f:FC}
def Lu(h:∀a,fv ≠ .ref a):∀hp:Heap,∃k,(k=Keeper.frame∨k=Keeper.machine∨k=Keeper.boundFrame)∧Looks M hp (keeperOf fv) k:=fun hp=>
 ⟨.machine,.inr (.inl rfl),Looks.of_pure (by cases fv <;> first | rfl | exact absurd rfl (h _))⟩
def Callee(p:PC)(fv:Value):Prop:=(∀a,fv ≠ .ref a)∨keepIn p.K fv=true
def DF(P:aO p)(hk:Callee p fv)(hst:starEach args f.env=args.map fun e=>(false,eval e f.env))(Q E:QQ)
  (h:av p.M f.A (spliced (args.map fun e=>(false,eval e f.env))) (fun vs s₁=>p.K.In s₁.heap∧av p.M f.A (call fv (first++vs) []) Q E s₁) E s):
  av p.M f.A (callWith pos fv first (backTo pos (starEach args f.env)) (backToKw pos (keywordEach [] f.env))) Q E s:=by
 rw[hst,zf,show backToKw pos (keywordEach [] f.env)=[] from rfl]
 refine callWith_of (P:=p.K.In) ?_ (fun h X=>hk.elim (fun hk=>Lu hk h) fun hk=>keeps_K hk h X) ?_
 ·rw[List.any_map];exact Bool.or_eq_false_iff.mpr ⟨List.any_eq_false.mpr fun _ _=>eE,rfl⟩
 ·cases args with
  |nil=>
   refine ai (bF h (fun vs s' h'=>?_) fun _ _ x=>x)
   refine ai (aV (c8 ?_))
   exact ai (aV (ai (aV (aV h'))))
  |cons a r=>exact Mine.Internal.evalArgs_plain h
theorem Ev.callWith(P:aO p){K:QW}(hk:Callee p fv)(hst:starEach args f.env=args.map fun e=>(false,eval e f.env))
  (hA:Ev p.M f.A W s (spliced (args.map fun e=>(false,eval e f.env))) (KR p f lv (Du n) Q) X) (hc:∀{W' σ' s' bS vs},Step W s W' s'→Inv p f W' lv σ' s'→aN W' vs bS→Q vs σ'→Ev p.M f.A W' s' (call fv (first++bS) []) K X):
  Ev p.M f.A W s (PySem.callWith pos fv first (backTo pos (starEach args f.env)) (backToKw pos (keywordEach [] f.env))) K X:=
 DF P hk hst _ _ (bF hA (fun bS s1 h=>h.casesOn fun W' st k=>k.casesOn fun σ' vs I r q=>⟨P.at I,Ev.to st (hc st I r.1 q)⟩) fun _ _ x=>x)
def eg(p:PC)(cx:Cx)(n:Nat):Prop:=∀{f W lv σ s fid vs bS Q X},bA p f→n≤f.lvl→Inv p f W lv σ s→aN W vs bS→cx fid vs σ Q X→Ev p.M f.A W s (call (.ref (p.fn fid)) bS []) (KV p f lv Q) (KX p f lv X)
noncomputable def zw:Bi→Value
 |.len => .builtin "len" | .bytes => .type "bytes" | .bB => .type "bytearray" | .min => .builtin "min" | .max => .builtin "max" | .sorted => .builtin "sorted" | .qX => .type "list"
def Lx(b:Bi):∀a,zw b ≠ .ref a:=by cases b <;> intro a h <;> cases h
structure oQ(x:String)(v:Value):Prop where
 mem:x∈tw
 boot:bootBuiltins (aS x)=some v
 qd:(aS x==("__debug__":Str))=false∧aS x≠"__name__"
def vR(b:Bi):oQ (yz b) (zw b):=by cases b <;> exact⟨by decide +kernel,by decide +kernel,by decide +kernel⟩
def oQ.name(P:aO p)(ok:bA p f)(I:Inv p f W lv σ s){E:QQ}(b:oQ x v)(hk:f.env.kindOf (aS x)=some .globalImplicit)(q:Q v s):
  av p.M f.A (eval (.Name (aS x) pos) f.env) Q E s:=JU P ok I hk b.mem b.boot b.qd.1 b.qd.2 q
end
section
variable{E:QQ}{os:OsState}
def Ly(Y:Makes (model prog w) h C)(hi:Looks (model prog w) h (typeLookup (.ref C) "__init__") (some (.ref fI)))
  (hb:∀self,Looks (model prog w) h (bindSpecial (.ref fI) self) (.ref fI,[self]))
  (hq:av (model prog w) (A.under (.builtin "type.__call__" ⟨.ref C::rest,[]⟩)) (PySem.call (.ref fI) (.ref (h.objs.size+1)::rest)) (fun v s'=>v = .none∧Q (.ref (h.objs.size+1)) s') E ⟨(h.push emptyDict).push (instObj C h.objs.size),g,d,t,os⟩):
  av (model prog w) A (PySem.call (.ref C) rest) Q E ⟨h,g,d,t,os⟩:=by
 have Y':=Y
 refine cps fun C9 k9=>?_
 obtain⟨⟨oc,od,cd,sl,hC,e1,e2,e4⟩,made,base,self,top,call,typ⟩:=Y
 refine k9 ?_
 refine nA (kH rfl ?_)
 refine ai (of (n6 hC ?_))
 refine ai (of (call.at ?_))
 dsimp only
 rw[tc_bind]
 refine ai (aV (ai (aV ?_)))
 refine aV (a:=Fin.again (.call (.builtin "type.__call__") ⟨.ref C::rest,[]⟩)) (And.intro rfl ?_)
 refine Cu (Code.quiet_builtin _ (by decide +kernel)) (by decide +kernel) entry_typeCall (of (check_slot tc_kind tc_split typ (tc_args _ _ _) ?_))
 have hm:Looks (model prog w) h (mroOf (.ref C)) cd.mro:=((Looks.ld (part:=none) hC).andThen .now).andThen .now
 refine ai (of (hm.at ?_))
 rw[e4]
 refine ai (of (made.at ?_))
 show av _ _ (holding _ (PySem.call (.builtin "object.__new__") (.ref C::rest))>>=_) _ _ _
 refine ai (c8 (of (PySem.wpAny_call (new_K Y' hi (.inl rfl) ?_))))
 have k:∀b o,h.get? b=some o→((h.push emptyDict).push (instObj C h.objs.size)).get? b=some o:=fun b o e=>fT _ (fT _ e)
 have hx:((h.push emptyDict).push (instObj C h.objs.size)).get? (h.objs.size+1)=some (instObj C h.objs.size):=by heap_get
 have t1:Looks (model prog w) ((h.push emptyDict).push (instObj C h.objs.size)) (typeOf (.ref (h.objs.size+1))) (.ref C):=(Looks.ld hx).andThen .now
 have s1:=self.keeps k
 have i1:=hi.keeps k
 have b1:=(hb (.ref (h.objs.size+1))).keeps k
 refine ai ?_
 refine ai (of (t1.here ?_))
 refine of (s1.here ?_)
 refine ai (c8 ?_)
 refine ai (of ((t1.andThen i1).here ?_))
 refine c8 (ai (of (b1.here ?_)))
 refine ai (bF hq (fun v s' z=>?_) fun _ _ x=>x)
 obtain⟨rfl,z⟩:=z
 exact aV (aV z)
end
section
noncomputable def FC.down(f:FC)(c:Code):FC:={f with A:=f.A.under c,lvl:=f.lvl - 1}
def vS(h:a+k * l+c<r)(hl:1≤l)(hb:b≤k):a+b+k * (l - 1)+c<r:=by
 have e:k * l=k * (l - 1)+k:=(aa (k * ·) (Nat.sub_add_cancel hl).symm).trans (Nat.mul_succ _ _)
 rw[e] at h
 rw[Nat.add_assoc a,Nat.add_comm b]
 exact fU (kq (qV (qV hb _) a) c) h
theorem bA.down(ok:bA p f)(hw:c.weight≤1)(hu:c.cUnits≤1)(he:c.envs=[])(hl:1≤f.lvl):bA p (f.down c) where
 frames:=(aa (fun l=>pushEnvs l f.A.frames) he).trans ok.frames
 head:=ok.head
 aG:=vS ok.aG hl (aH hw (by decide))
 units:=vS ok.units hl (aH hu (by decide))
 handled:=ok.handled
 cellsOf:=ok.cellsOf
 frame:=ok.frame
 kind:=ok.kind
 globals:=ok.globals
 builtins:=ok.builtins
 apart:=ok.apart
theorem Inv.down(I:Inv p f W lv σ s):Inv p (f.down c) W lv σ s:=⟨I.aC,I.pins,I.loc,I.cell,I.vars,I.var,I.cells,I.frs,I.above⟩
def Inv.up(I:Inv p (f.down c) W lv σ s):Inv p f W lv σ s:=⟨I.aC,I.pins,I.loc,I.cell,I.vars,I.var,I.cells,I.frs,I.above⟩
def Lz:cls? (Nat.add c 3)=some c:=(dK (dO (Nat.le_add_left 3 c))).trans (aa some (Nat.add_sub_cancel c 3))
def LA(h:isNone v=true)(r:aD W v cv):cv = .none:=by
 cases v with
 |none=>exact r
 |_=>exact ft h
def LB(C:eg p cx n)(ok:bA p f)(P:aO p)(hn:n+1≤f.lvl)(I:Inv p f W lv σ s)(hc:Nat.blt c tu=true)(ra:aN W args fL)(w:jP cx c args σ Q X):
  Ev p.M f.A W s (call (.ref (p.cls c)) fL []) (KV p f lv Q) (KX p f lv X):=by
 refine cps fun C9 k9=>?_
 obtain⟨m1,m2,m3⟩:=P.yR c hc
 obtain⟨l,hl,hu,w⟩:=w
 refine k9 ?_
 have H:=P.at I
 have n1:s.heap.get? (s.heap.objs.size+1)=none:=gj fun o e=>qU _ (eL (iF e))
 have I':=I.push.push (s:={s with heap:=s.heap.push emptyDict}) (o:=instObj (p.cls c) s.heap.objs.size)
 have gd:((s.heap.push emptyDict).push (instObj (p.cls c) s.heap.objs.size)).get? s.heap.objs.size=some emptyDict:=fT _ (iB _ rfl)
 have ga:((s.heap.push emptyDict).push (instObj (p.cls c) s.heap.objs.size)).get? (s.heap.objs.size+1)=some (instObj (p.cls c) s.heap.objs.size):=by heap_get
 have st:=Step.own I' (Step.push.trans .push) (I.free n1) I.jo hu n1 (gK _)
 have I2:=Inv.own (c := .inst []) I' (I.free n1) I.jo ⟨_,ga⟩ ⟨_,gd⟩ hu fun{W'} le=>⟨c,[],0,hl▸Lz,⟨ga,gd⟩,rfl,fG _,fun _ h=>nomatch h⟩
 have h:=C (ok.down (c := .builtin "type.__call__" ⟨.ref (p.cls c)::fL,[]⟩) (cL _) (cL _) rfl (aH (Nat.le_add_left 1 n) hn)) (show n≤f.lvl - 1 from Nat.le_sub_of_add_le hn) I2.down (.cons .own (ra.le st.le)) w
 exact Ly (makes_of H m1) (looks_findIn H m2) (fun self=>bind_fn H self (P.tB _).1) (bF h (fun v s2 h2=>h2.casesOn fun W2 st2 k=>k.casesOn fun σ2 b I3 r q=>⟨LA q.1 r,W2,st.trans st2,σ2,_,I3.up,aD.own.le st2.le,q.2⟩)
  fun e s2 h2=>h2.casesOn fun W2 st2 k=>k.casesOn fun σ2 x I3 r q=>⟨W2,st.trans st2,σ2,x,I3.up,r,q⟩)
end
section
variable{E:QQ}
def DG:mroOf (.type "bytearray")=pure [.type "bytearray",.type "object"]:=by rw[mroOf_type];kernel_rfl
def LC:typeLookup (.type "bytearray") "__new__"=pure (some (.builtin "bytearray.__new__")):=by rw[jI,jH];kernel_rfl
def LD:Slot "bytearray" "__init__" "bytearray.__init__":=
 .of (owner:="bytearray") (n:="__init__") (by rw[jI,jH];kernel_rfl) (by decide +kernel) (by decide +kernel) (by decide +kernel)
  (by first | exact .inl (by decide +kernel) | exact .inr (by decide +kernel)) (by rw[isSubtype_type];kernel_rfl)
def vU:isSubtype (.type "bytearray") (.type "bytearray")=pure true:=by rw[isSubtype_type];kernel_rfl
def DH:TypeCalled "bytearray" "bytearray.__new__" "bytearray.__init__":=
 ⟨by decide +kernel,by decide +kernel,⟨_,_,DG⟩,madeBy_type DG LC (by decide +kernel),by decide +kernel,vU,LD⟩
def LF:entryFor table "bytearray.__new__"=some Builtin.«list.__new__»:=entryFor_alias (id':="list.__new__") (by kernel_rfl) rfl (by decide +kernel) (by kernel_rfl)
def DI:plainId "bytearray.__new__"=true:=by decide +kernel
set_option maxRecDepth 1000000 in
set_option maxHeartbeats 4000000 in
def LG:("bytearray.__new__".splitOn ".__new__").headD ""="bytearray":=by simp +decide [String.splitOn,String.splitOnAux]
def DJ(hc:checkBuiltinCall "bytearray.__new__" ⟨.type "bytearray"::args,[]⟩=pure ())
  (h:Q₁ (.ref s.heap.objs.size) {s with heap:=s.heap.push (dR #[])}):
  PySem.codeAny (model prog w) A (.call (.builtin "bytearray.__new__") ⟨.type "bytearray"::args,[]⟩) (wants Q₁ fun _ _=>False) s:=by
 refine PySem.codeAny_of_tree ?_
 refine aP (iE hc (bX ⟨plainId_quiet DI _,codeAny_builtin_stack LF rfl fun p st=>?_⟩))
 rw[Around.under_plainId DI _]
 have hsub:=vU
 have hown:=LG
 obtain⟨hp,g,d,tk,os⟩:=s
 simp only [hown]
 wp_walk
 exact h
def DK{T newId initId:String}{Bi:Builtin}(ft:TypeCalled T newId initId)(LJ:oA.contains initId=false)
  (hct:checkTypeCall T ⟨args,[]⟩=pure ()) (entryI:entryFor table initId=some Bi)
  (hnew:dM (model prog w) A.in1 (.call (.builtin newId) ⟨.type T::args,[]⟩) (wants Q₁ fun _ _=>False) s)
  (hnext:∀obj s₁,Q₁ obj s₁→s₁.TypeIs obj T∧argsOk initId ⟨obj::args,[]⟩ ∧
   av (model prog w) A.in1.in1 (Bi ⟨obj::args,[]⟩) (fun fin s'=>fin = .done (.ret .none)∧Q obj s') E s₁):
  av (model prog w) A (call (.type T) args) Q E s:=by
 obtain⟨c,tl,LL⟩:=ft.mro
 refine nA (kH rfl ?_)
 refine aV ⟨Code.quiet_builtin _ (by decide +kernel),yN (by decide +kernel) PySem.F.entry_type_call ?_⟩
 rw[Around.under_plain (weight_type_call_type T args []) rfl]
 refine kG ft.notType ?_
 refine kG ft.canCreate ?_
 refine ai (jV hct ?_)
 refine ai (jV LL ?_)
 refine kG rfl ?_
 refine ai (jV ft.made ?_)
 refine ai (aV ?_)
 refine ai (c8 (nA (Cp hnew fun r s₁ hr=>?_)))
 obtain⟨obj,rfl,hr⟩:∃obj,r = .ok (.ret obj)∧Q₁ obj s₁:=by
  cases r with
  |error e=>exact hr.elim
  |ok fl=>cases fl with | ret obj=>exact⟨obj,rfl,hr⟩ | _=>exact hr.elim
 obtain⟨hT,hok,hsi⟩:=hnext _ _ hr
 refine ai (of (wpAny_isInstance hT ft.sub ?_))
 refine kG rfl ?_
 refine ai (c8 ?_)
 refine ai (of (lG hT ft.init.lookup ?_))
 refine c8 ?_
 refine ai (jV (ft.init.bind obj) ?_)
 refine ai (nA (Ct ft.init.plain LJ entryI (of (ft.init.check _ _ _ _ _ _ _ _ hT hok ?_))))
 refine bF hsi (fun fin s₂ h₂=>?_) fun _ _ x=>x
 obtain⟨rfl,hq⟩:=h₂
 refine aV ?_
 exact aV hq
def LM:typeLookup (.type "bytearray") "__release_buffer__"=pure (some (.builtin "bytearray.__release_buffer__")):=by rw[jI,jH];kernel_rfl
def zx(h:s.heap.get? a=some (dR b))(q:Q false s):PySem.wpAny (model prog w) A (Builtin.Bytes.ownRelease (.ref a)) Q E s:=by
 have hT:s.TypeIs (.ref a) "bytearray":=⟨_,h,rfl⟩
 refine aP (aP (lG hT LM ?_))
 dsimp only
 rw[show("bytearray.__release_buffer__".endsWith ("."++"__release_buffer__"))=true by decide +kernel,show("bytearray.__release_buffer__".dropRight ("__release_buffer__".length+1))="bytearray" by decide +kernel]
 exact wpAny_isInstance hT vU (bX q)
def DL:entryFor table "bytearray.__init__"=some Builtin.«bytearray.__init__»:=by first | exact entryFor_of_fast (by kernel_rfl) | exact entryFor_of_tree (by kernel_rfl)
def LN(a:Value):argsOk "bytearray.__init__" ⟨[a],[]⟩:=by unfold argsOk;kernel_rfl
def LP(a b:Value):argsOk "bytearray.__init__" ⟨[a,b],[]⟩:=by unfold argsOk;kernel_rfl
def LQ:Builtin.Bytes.bindOptional "bytearray.__init__" "bytearray" ["source","encoding","errors"] [] []=pure [none,none,none]:=by kernel_rfl
def LR(v:Value):Builtin.Bytes.bindOptional "bytearray.__init__" "bytearray" ["source","encoding","errors"] [v] []=pure [some v,none,none]:=by kernel_rfl
def DM(h:s.heap.get? a=some (dR #[]))(q:Q false s):av (model prog w) A (Builtin.Bytes.exported (.ref a) <||> (do return (←Builtin.Bytes.exportsOf (.ref a)) > 0)) Q E s:=by
 refine ai (Cv ?_)
 exact ai (ai (of (n6 h (aV (aV q)))))
def LS{Q:Shared→Prop}(h:s.heap.get? a=some (dR #[]))(q:∀h',h'.get? a=some (dR #[])→Heap.SameBut a s.heap h'→Q {s with heap:=h'}):
  av (model prog w) A (Builtin.«bytearray.__init__» ⟨[.ref a],[]⟩) (fun fin s'=>fin = .done (.ret .none)∧Q s') E s:=by
 refine ai (of (zx h ?_))
 refine kG rfl ?_
 refine ai (jV LQ ?_)
 refine ai (jV (a:=()) rfl ?_)
 refine ai (jV (a:=()) rfl ?_)
 refine ai (DM h ?_)
 refine kG rfl ?_
 refine ai (of (tn h (fG _) fun h' g hs=>?_))
 exact ai (aV (aV ⟨rfl,q h' g hs⟩))
def LU(h0:0≤n)(h1:n≤1000):(!Builtin.Bytes.fitsIndex n)=false∧¬n<0∧(n==2 ^ 63 - 1)=false∧Builtin.Bytes.tooLong n.toNat=false∧(Array.replicate n.toNat (0:UInt8)).size≤sizeLine:=by
 refine⟨?_,jj.mpr h0,?_,?_,?_⟩
 ·simp only [Builtin.Bytes.fitsIndex];simp;lia
 ·exact nY.mpr (by lia)
 ·simp [Builtin.Bytes.tooLong,sizeLine_eq];lia
 ·simp [sizeLine_eq];lia
def LV{Q:Shared→Prop}(h:s.heap.get? a=some (dR #[]))(h0:0≤n)(h1:n≤1000)(q:∀h',h'.get? a=some (dR (Array.replicate n.toNat 0))→Heap.SameBut a s.heap h'→Q {s with heap:=h'}):
  av (model prog w) A (Builtin.«bytearray.__init__» ⟨[.ref a,.int n t],[]⟩) (fun fin s'=>fin = .done (.ret .none)∧Q s') E s:=by
 obtain⟨f1,f2,f3,f4,f5⟩:=LU h0 h1
 refine ai (of (zx h ?_))
 refine kG rfl ?_
 refine ai (jV (LR _) ?_)
 refine ai (jV (a:=()) rfl ?_)
 refine ai (jV (a:=()) rfl ?_)
 refine ai (DM h ?_)
 refine kG rfl ?_
 refine ai (of (tn h (fG _) fun h' g hs=>?_))
 refine ai (jV (a:=none) rfl ?_)
 refine kG rfl ?_
 refine ai (aV ?_)
 refine ai (of (lG (typeIs_int _ n t) PySem.F.slot_int_index.lookup ?_))
 refine Jg rfl ?_
 refine ai (yJ (jV (a:=n) rfl ?_))
 refine kG f1 ?_
 refine Ck f2 ?_
 refine kG f3 ?_
 refine kG f4 ?_
 refine ai (vc ?_)
 by_cases hn:n > 0
 ·refine Jh hn (ai (of (tn g f5 fun h2 g2 hs2=>?_)))
  exact ai (aV (aV ⟨rfl,q h2 g2 ⟨hs2.1.trans hs.1,fun b hb=>(hs2.2 b hb).trans (hs.2 b hb)⟩⟩))
 ·refine Ck hn ?_
  have:n=0:=Int.le_antisymm (jj.mp hn) h0
  subst this
  exact ai (aV (aV ⟨rfl,q h' g hs⟩))
def LW{Q:QQ}(q:∀h',h'.get? s.heap.objs.size=some (dR #[])→(∀b o,b≠s.heap.objs.size→s.heap.get? b=some o→h'.get? b=some o)→Q (.ref s.heap.objs.size) {s with heap:=h'}):
  av (model prog w) A (call (.type "bytearray") []) Q E s:=by
 have hn:PySem.codeAny (model prog w) A.in1 (.call (.builtin "bytearray.__new__") ⟨[.type "bytearray"],[]⟩) (wants (fun obj s₁=>obj = .ref s.heap.objs.size∧s₁={s with heap:=s.heap.push (dR #[])}) fun _ _=>False) s:=
  DJ (by kernel_rfl) ⟨rfl,rfl⟩
 refine DK DH (by decide +kernel) (by kernel_rfl) DL (Cf hn) fun obj s₁ h₁=>?_
 obtain⟨rfl,rfl⟩:=h₁
 have hS:(s.heap.push (dR #[])).get? s.heap.objs.size=some (dR #[]):=iB _ rfl
 exact⟨⟨_,hS,rfl⟩,LN _,LS hS fun h' g hs=>q h' g fun b o hb e=>(hs.2 b hb).trans (fT _ e)⟩
def LY{t:Tok}(h0:0≤n)(h1:n≤1000)(q:∀h',h'.get? s.heap.objs.size=some (dR (Array.replicate n.toNat 0))→(∀b o,b≠s.heap.objs.size→s.heap.get? b=some o→h'.get? b=some o)→Q (.ref s.heap.objs.size) {s with heap:=h'}):
  av (model prog w) A (call (.type "bytearray") [.int n t]) Q E s:=by
 have hn:PySem.codeAny (model prog w) A.in1 (.call (.builtin "bytearray.__new__") ⟨[.type "bytearray",.int n t],[]⟩) (wants (fun obj s₁=>obj = .ref s.heap.objs.size∧s₁={s with heap:=s.heap.push (dR #[])}) fun _ _=>False) s:=
  DJ (by kernel_rfl) ⟨rfl,rfl⟩
 refine DK DH (by decide +kernel) (by kernel_rfl) DL (Cf hn) fun obj s₁ h₁=>?_
 obtain⟨rfl,rfl⟩:=h₁
 have hS:(s.heap.push (dR #[])).get? s.heap.objs.size=some (dR #[]):=iB _ rfl
 exact⟨⟨_,hS,rfl⟩,LP _ _,LV hS h0 h1 fun h' g hs=>q h' g fun b o hb e=>(hs.2 b hb).trans (fT _ e)⟩
end
def DN(x:Int)(l:List Int):(n9 x l).Perm (x::l):=by
 induction l with
 |nil=>exact .refl _
 |cons y r ih=>
  unfold n9
  by_cases h:x≤y
  ·rw[if_pos h]
  ·rw[if_neg h];exact(ih.cons y).trans (.swap x y r)
def DO(l:List Int):(gE l).Perm l:=by
 induction l with
 |nil=>exact .refl _
 |cons x r ih=>exact(DN x _).trans (ih.cons x)
def LZ(x:Int)(h:l.Pairwise (· ≤ ·)):(n9 x l).Pairwise (· ≤ ·):=by
 induction l with
 |nil=>exact List.pairwise_singleton ..
 |cons y r ih=>
  obtain⟨h1,h2⟩:=List.pairwise_cons.mp h
  unfold n9
  by_cases hx:x≤y
  ·rw[if_pos hx]
   exact List.pairwise_cons.mpr ⟨fun z hz=>(cS.mp hz).elim (fun e=>e▸hx) fun hz=>fW hx (h1 z hz),h⟩
  ·rw[if_neg hx]
   exact List.pairwise_cons.mpr ⟨fun z hz=>(cS.mp ((DN x r).mem_iff.mp hz)).elim (fun e=>e▸Int.le_of_lt (Int.not_le.mp hx)) (h1 z),ih h2⟩
def L1(l:List Int):(gE l).Pairwise (· ≤ ·):=by
 induction l with
 |nil=>exact .nil
 |cons x r ih=>exact LZ x ih
def L3(h:m.Perm l)(hs:m.Pairwise (· ≤ ·)):m=gE l:=List.Perm.eq_of_pairwise (fun a b _ _ h1 h2=>Int.le_antisymm h1 h2) hs (L1 l) (h.trans (DO l).symm)
section
def IntsAre.rel(h:IntsAre vs ns):aN W (ns.map .int) vs:=by
 induction h with
 |nil=>exact .nil
 |cons n t h ih=>exact .cons ⟨t,rfl⟩ ih
def L4:∀{y:List Nat} {vs:List Value},sV x=some y→aN W x vs→IntsAre vs (y.map fun(b:Nat)=>(b:Int))∧∀n∈y,n<256:=by
 induction x with
 |nil=>exact fun h r=>by obtain rfl:=aT h;exact r▸⟨.nil,fun _ h=>nomatch h⟩
 |cons x r ih=>
  refine fun{y vs} h rr=>aX h fun i e h1=>aX h1 fun i' hq h2=>ig hq fun hi ei=>bW h2 fun y' h' ey=>gk rr fun v vs rv r2=>?_
  subst ei ey
  have ih:=ih h' r2
  refine cM rv e fun t=>⟨?_,fun n hn=>(cS.mp hn).elim (fun e=>e▸(Int.toNat_lt hi.1).mpr hi.2) (ih.2 n)⟩
  rw[jJ,nZ hi.1]
  exact .cons i t ih.1
def eW.keys{α κ:Type}{k:α→κ}{d:List (α×V)}:∀{kvs:List (κ×Value)},eW k W d kvs→kvs.map (·.1)=d.map fun q=>k q.1:=by
 induction d with
 |nil=>exact fun e=>e▸rfl
 |cons q r ih=>exact fun e=>ny e fun v es a b=>aa _ (ih b)
def L6:∀{ks:List Int},vs.length=ks.length→(∀(i:Nat) (v:Value),vs[i]?=some v→∃k,ks[i]?=some k∧Value.isInt k v=true)→IntsAre vs ks:=by
 induction vs with
 |nil=>
  intro ks h _
  cases ks with
  |nil=>exact .nil
  |cons _ _=>cases h
 |cons v vs ih=>
  intro ks h hk
  cases ks with
  |nil=>cases h
  |cons k ks=>
   obtain⟨k',e,hv⟩:=hk 0 v rfl
   obtain rfl:=aT e
   have ih:=ih (ks:=ks) (Nat.succ.inj h) fun i v hv=>hk (i+1) v hv
   cases v with
   |int i t=>exact(eq_of_beq hv:i=k) ▸ .cons _ _ ih
   |_=>exact ft hv
def PK.kept(I:Inv p f W lv σ s)(k:∀b o,s.heap.get? b=some o→h'.get? b=some o)(q:Q b σ)(r:R W a b):PK W s (KR p f lv R Q) a {s with heap:=h',toks:=tk}:=
 ⟨W,.keeps k rfl rfl,σ,b,I.keeps k,r,q⟩
def PK.DP(I:Inv p f W lv σ s)(nD:s.heap.get? D=none)(keep:∀b o,b≠D→s.heap.get? b=some o→H.get? b=some o)(he:H.get? D=some (jm items e))(r:aN W vs items)(z:vs.length≤bz)(w:Mine.Internal.newL zz vs σ Q):
  PK W s (KV p f lv Q) (.ref D) {s with heap:=H,toks:=tk}:=
 have kk:∀b o,s.heap.get? b=some o→H.get? b=some o:=fun b o e=>keep b o (fun z=>bU (z▸nD) e) e
 .newL (I.keeps kk) (.keeps kk rfl rfl) nD (I.free nD) he r z w
def PK.DQ{H:Heap}(I:Inv p f W lv σ s)(w:Mine.Internal.fu 2 (.bB b) σ Q)(hb:bs.toList.map UInt8.toNat=b)(z:b.length≤bz)(he:H.get? s.heap.objs.size=some (dR bs))(keep:∀b o,b≠s.heap.objs.size→s.heap.get? b=some o→H.get? b=some o):
  PK W s (KV p f lv Q) (.ref s.heap.objs.size) {s with heap:=H}:=
 have kk:∀b o,s.heap.get? b=some o→H.get? b=some o:=fun b o e=>keep b o (fun z=>bU (z▸gK _) e) e
 .fu (s:={s with heap:=H}) (I.keeps kk) (.keeps kk rfl rfl) (gK _) I.jo ⟨_,he⟩ w fun _ _=>⟨bs,he,hb,z⟩
def tL{n m:Nat}(h:n≤bz)(e:m=n):(m:Int)<2 ^ 63:=vn (e▸h)
def qi{n m:Nat}(e:m=n):aD W (.int (n:Int)) (.int (m:Int) t):=⟨t,e▸rfl⟩
def L7(P:aO p)(I:Inv p f W lv σ s){v:V}(r:aD W v cv)(h:sW σ v=some n)(q:Q (.int n) σ):Ev p.M f.A W s (call (.builtin "len") [cv] []) (KV p f lv Q) X:=by
 cases v with
 |bytes l=>
  obtain rfl:=aT h
  obtain⟨bs,t,rfl,e,z⟩:=r
  exact of <| len_bytes (bsize e▸aH z (by decide +kernel)) (.now I q (qi (bsize e)))
 |tup l=>
  obtain rfl:=aT h
  exact oH I r fun a items g rr z=>of <| PyProof.Rows.len_tuple g (tL z rr.length) (.now I q (qi rr.length))
 |fl l=>
  obtain rfl:=aT h
  exact jW I r (σ:=σ) rfl fun a items n g rr z=>of <| call_len_list (gm g) (tL z rr.length) (.now I q (qi rr.length))
 |ref l=>
  refine aX h fun c hc h1=>?_
  cases c with
  |list xs=>
   obtain rfl:=aT h1
   exact nB I r hc fun a items n _ g rr z=>of <| call_len_list (gm g) (tL z rr.length) (.now I q (qi rr.length))
  |sd d=>
   obtain rfl:=aT h1
   exact rE I r hc fun a kvs hl g rr z=>of <| call_len_dict (rH P (I.p9 (I.loc hl).1.1 rfl)) g (tL z rr.length) (.now I q (qi rr.length))
  |bI d=>
   obtain rfl:=aT h1
   exact oK I r hc fun a kvs hl g rr z=>of <| call_len_dict (rH P (I.p9 (I.loc hl).1.1 rfl)) g (tL z rr.length) (.now I q (qi rr.length))
  |bB b=>
   obtain rfl:=aT h1
   exact rF I r hc fun a bs _ g rr hn z=>of <| JF g (hn▸z) (.now I q (qi hn))
  |inst _=>exact nn h1
 |_=>exact nn h
def L8(ok:bA p f)(P:aO p)(I:Inv p f W lv σ s){l:Loc}{d:List (Int×V)}{cv:Value}(r:aD W (.ref l) cv)(hc:σ.dct l=some d)(hz:d.length<64)(q:Q (.fl ((gE (d.map (·.1))).map .int)) σ):
  Ev p.M f.A W s (call (.builtin "sorted") [cv] []) (KV p f lv Q) X:=by
 refine oK I r (B4 hc) fun a kvs hl g rr z=>?_
 obtain⟨o,es,ep,ho,hr⟩:=g
 have hlen:=rr.length
 refine of <| Calls.call_function_entry kind_sorted plain_sorted entry_sorted (args_sorted1 _) ?_
 refine aP (m:=checkCount "sorted" 1 1 _) (bX ?_)
 refine aP (kdu_collect (A:=f.A.in1) (kdl_dict (knd:=PySem.intKind p.prog p.w) (kvs:=kvs) (ep:=ep) (rH P (I.p9 (I.loc hl).1.1 rfl))) ok.handled ⟨o,es,ho,hr⟩ (gM (hlen▸z)) fun h' tk acc hk hacc=>?_)
 have hlk:acc.toList.length=kvs.length:=Array.length_toList.trans hacc.1
 have hI:IntsAre acc.toList (d.map (·.1)):=by
  refine(rr.keys:kvs.map (·.1)=d.map (·.1))▸L6 (hlk.trans (bJ _).symm) fun i v hv=>(hacc.2 i v ((Array.getElem?_toList ..).symm.trans hv)).elim fun k y=>y.elim fun x y=>⟨k,?_,y.2⟩
  rw[fV,y.1];rfl
 refine aP (wpAny_newList ?_ (gM (hlk▸hlen▸z)))
 have zy:(h'.push (seqObj "list" acc.toList.toArray 0)).get? h'.objs.size=some (seqObj "list" acc.toList.toArray 0):=iB _ rfl
 refine aP (nX (wpAny_call_entry slot_list_sort ⟨_,zy,rfl⟩ entry_list_sort (list_sort_tree zy hI (hlk▸hlen▸hz) fun out ns' a1 a2 a3=>⟨_,rfl,?_⟩) (args_list_sort _)))
 refine bX ⟨_,rfl,?_⟩
 obtain⟨e,he⟩:=sortedHeap_at (out:=out) zy
 refine .DP (zz:=true) I (gj fun o e=>jh _ (iF (hk _ _ e))) (fun b o hb e=>?_) he (L3 a2 a3▸IntsAre.rel a1) (by rw[bJ,(DO _).length_eq,bJ];exact z) q
 have e2:(h'.push (seqObj "list" acc.toList.toArray 0)).get? b=some o:=fT _ (hk b o e)
 exact(sortedHeap_old hb (iF e2)).trans e2
end
section
variable{E:QQ}
def Ma:typeLookup (.type "bytes") "__bytes__"=pure (some (.builtin "bytes.__bytes__")):=by rw[jI,jH];kernel_rfl
def Mb:typeLookup (.type "bytearray") "__bytes__"=pure none:=by rw[jI,jH];kernel_rfl
def Mc:typeLookup (.type "bytearray") "__index__"=pure none:=by rw[jI,jH];kernel_rfl
def zC:typeLookup (.type "bytearray") "__buffer__"=pure (some (.builtin "bytearray.__buffer__")):=by rw[jI,jH];kernel_rfl
def Me(hQ:Q (.bytes b t) s):
  PySem.codeAny (model prog w) A (.call (.builtin "bytes.__new__") ⟨[.type "bytes",.bytes b t],[]⟩) (wants Q E) s:=by
 refine PySem.codeAny_of_tree ?_
 refine aP (iE (PySem.F.bm_newCall _) (bX ⟨plainId_quiet PySem.F.bm_plain _,PySem.codeAny_builtin PySem.F.bm_entry ?_⟩))
 rw[Around.under_plainId PySem.F.bm_plain _]
 have hT:s.TypeIs (.bytes b t) "bytes":=typeIs_bytes s b t
 refine aP (iE (a:=true) rfl ?_)
 refine bm_if_false rfl ?_
 refine aP (iE PySem.F.bm_sub ?_)
 refine bm_if_false rfl ?_
 refine aP (iE (PySem.F.bm_bind _) ?_)
 refine aP (iE (a:=()) rfl ?_)
 refine aP (iE (a:=()) rfl ?_)
 refine bm_if_false rfl ?_
 refine aP (lG hT Ma ?_)
 refine aP (PySem.wpAny_rule ?_)
 refine aP (wpAny_typeOf hT ?_)
 refine bm_if_true (by decide) ?_
 exact bX hQ
def Mf(h:s.heap.get? a=some (dR b))(hz:b.size≤sizeLine)(hQ:∀t,Q (.bytes b t) {s with toks:=s.toks+1}):
  PySem.codeAny (model prog w) A (.call (.builtin "bytes.__new__") ⟨[.type "bytes",.ref a],[]⟩) (wants Q E) s:=by
 refine PySem.codeAny_of_tree ?_
 refine aP (iE (PySem.F.bm_newCall _) (bX ⟨plainId_quiet PySem.F.bm_plain _,PySem.codeAny_builtin PySem.F.bm_entry ?_⟩))
 rw[Around.under_plainId PySem.F.bm_plain _]
 have hT:s.TypeIs (.ref a) "bytearray":=⟨_,h,rfl⟩
 refine aP (iE (a:=true) rfl ?_)
 refine bm_if_false rfl ?_
 refine aP (iE PySem.F.bm_sub ?_)
 refine bm_if_false rfl ?_
 refine aP (iE (PySem.F.bm_bind _) ?_)
 refine aP (iE (a:=()) rfl ?_)
 refine aP (iE (a:=()) rfl ?_)
 refine bm_if_false rfl ?_
 refine aP (lG hT Mb ?_)
 refine aP (aP ?_)
 refine aP (n6 h ?_)
 refine bX (bX ?_)
 refine bm_if_false rfl ?_
 refine aP (lG hT Mc ?_)
 refine bm_if_true rfl ?_
 first
  |show PySem.wpAny _ _ (Builtin.Bytes.buffer? "bytes.__new__" (.ref a) true>>=_) _ _ _
  |(refine aP ?_;show PySem.wpAny _ _ (Builtin.Bytes.buffer? "bytes.__new__" (.ref a) true>>=_) _ _ _)
 refine aP ?_
 refine aP (lG hT zC ?_)
 dsimp only
 refine aP ?_
 refine aP (lG hT zC ?_)
 dsimp only
 rw[show("bytearray.__buffer__".endsWith ("."++"__buffer__"))=true by decide +kernel,show("bytearray.__buffer__".dropRight ("__buffer__".length+1))="bytearray" by decide +kernel]
 refine wpAny_isInstance hT vU ?_
 refine bm_if_false rfl ?_
 refine aP (lG hT zC ?_)
 refine aP (zx h ?_)
 refine bm_if_false rfl ?_
 refine aP (vd h ?_)
 refine bX ?_
 refine aP (PySem.wpAny_rule ?_)
 refine aP (wpAny_mkBytes ?_ hz)
 exact bX (hQ _)
def W7(a:Value):checkTypeCall "bytes" ⟨[a],[]⟩=pure ():=PySem.F.bm_typeCall a
def DR(hn:PySem.codeAny (model prog w) A.in1 (.call (.builtin "bytes.__new__") ⟨[.type "bytes",v],[]⟩) (wants (fun obj s₁=>s₁.TypeIs obj "bytes"∧Q obj s₁) E) s):
  PySem.wpAny (model prog w) A (call (.type "bytes") [v]) Q E s:=
 callType_codes (Q₁:=fun obj s₁=>s₁.TypeIs obj "bytes"∧Q obj s₁) PySem.F.bm_called (PySem.F.bm_typeCall _) PySem.F.entry_object_init hn fun obj s₁ h₁=>
  ⟨h₁.1,PySem.F.args_object_init_2 obj _,object_init_meets PySem.F.bm_called.init.lookup PySem.F.bm_called.made (by decide) prog w A.in1 _ s₁ ⟨h₁.1,rfl,h₁.2⟩⟩
end
section
def Mg:(∀n∈y,n<256)→(byteArr (y.map fun(b:Nat)=>(b:Int))).toList.map UInt8.toNat=y:=by
 induction y with
 |nil=>exact fun _=>rfl
 |cons n r ih=>
  intro h
  have ih:=ih fun m hm=>h m (.tail _ hm)
  unfold byteArr at ih ⊢
  simp only [jJ] at ih ⊢
  rw[ih,show((n:Int).toNat.toUInt8).toNat=n from UInt8.toNat_ofNat_of_lt' (h n (.head _))]
def Mh(ok:bA p f)(P:aO p)(I:Inv p f W lv σ s)(r:aD W v cv)(h:sX σ v=some y)(q:Q (.bytes y) σ):Ev p.M f.A W s (call (.type "bytes") [cv] []) (KV p f lv Q) X:=by
 cases v with
 |bytes l=>
  obtain rfl:=aT h
  obtain⟨bs,t,rfl,e,z⟩:=r
  exact of <| DR (Me ⟨typeIs_bytes _ _ _,.now (tk:=s.toks) I q ⟨_,_,rfl,e,z⟩⟩)
 |fl x=>
  refine jW I r (σ:=σ) rfl fun a items n g rr z=>?_
  obtain⟨h1,h2⟩:=L4 h rr
  have hz:y.length≤bz:=((bJ _).trans (bJ _))▸(IntsAre.rel (W:=W) h1).length▸rr.length▸z
  exact of <| call_bytes_ints (gm g) h1 (fun n hn=>(bP.mp hn).elim fun m e=>e.2▸⟨jf m,jK.mpr (h2 m e.1)⟩) (gM (rr.length▸z)) ok.handled fun h' t k hk => .kept I hk q ⟨_,_,rfl,Mg h2,hz⟩
 |ref l=>
  refine aX h fun c hc h1=>?_
  cases c with
  |bB b=>
   obtain rfl:=aT h1
   exact rF I r hc fun a bs _ g rr hn z=>of <| DR (Mf g (hn▸gM z) fun t=>⟨typeIs_bytes _ _ _,.now I q ⟨_,_,rfl,rr,z⟩⟩)
  |_=>exact nn h1
 |_=>exact nn h
@[elab_as_elim] theorem kK {args:List V} {v:V} {fL:List Value} {C:List Value→Prop} (r:aN W args fL) (e:one args=some v) (k:∀cv,aD W v cv→C [cv]):C fL:=by
 rw[BZ e] at r
 exact gk r fun cv vs rv r=>r▸k cv rv
@[elab_as_elim] theorem zD {args:List V} {q:V×V} {i j:Int} {fL:List Value} {C:List Value→Prop} (r:aN W args fL) (e:two args=some q) (e1:q.1.int?=some i) (e2:q.2.int?=some j) (k:∀t u,C [.int i t,.int j u]):C fL:=by
 rw[B3 e] at r
 exact gk r fun cv vs rv r=>cM rv e1 fun t=>gk r fun cv vs rv r=>cM rv e2 fun u=>r▸k t u
def Mi(ok:bA p f)(P:aO p)(I:Inv p f W lv σ s)(r:aN W args fL)(w:BR b args σ Q):Ev p.M f.A W s (call (zw b) fL []) (KV p f lv Q) X:=by
 cases b with
 |len=>exact bR w fun n e q=>aX e fun v e1 e2=>kK r e1 fun cv rv=>L7 P I rv e2 q
 |bytes=>exact bR w fun n e q=>aX e fun v e1 e2=>kK r e1 fun cv rv=>Mh ok P I rv e2 q
 |sorted=>
  refine bR w fun d e q=>aX e fun v e1 e=>aX e fun l el hd=>kK r e1 fun cv rv=>?_
  obtain rfl:=pZ el
  exact L8 ok P I rv hd q.1 q.2
 |qX=>
  exact bR w fun x e q=>aX e fun v e1 e2=>kK r e1 fun cv rv=>jW I rv e2 fun a items n g rr z=>of <| call_list_seq a (.inl rfl) g rfl rfl (fun h' c' hk he => .DP (zz:=false) (tk:=s.toks) I (gK _) (fun b o _ e=>hk b o e) he rr z q) (gM (aH (cT rr.length) z))
 |bB=>
  cases args with
  |nil=>exact r▸LW fun h' g hk => .DQ I w rfl (fG _) g hk
  |cons v vs=>
   refine bR w fun n e q=>aX e fun v e1 e2=>kK r e1 fun cv rv=>cM rv e2 fun t=>LY q.1.1 q.1.2 fun h' g hk => .DQ I q.2 (by simp) ?_ g hk
   rw[lE];exact aH (Int.toNat_le.mpr q.1.2) (by decide +kernel)
 |min=>
  exact bR w fun q e w=>bR w fun i e1 w=>bR w fun j e2 w=>zD r e e1 e2 fun t u=>of <| min_two_ints ok.handled fun h' tk hk => .kept I hk w (by split <;> exact⟨_,rfl⟩)
 |max=>
  exact bR w fun q e w=>bR w fun i e1 w=>bR w fun j e2 w=>zD r e e1 e2 fun t u=>of <| max_two_ints ok.handled fun h' tk hk => .kept I hk w (by show aD W (.int (if i<j then j else i)) (if j > i then _ else _);split <;> exact⟨_,rfl⟩)
end
section
def mO{C:Prop}(h:(bif b then x else y)=some r)(t:b=true→x=some r→C)(f:b=false→y=some r→C):C:=by
 cases b with
 |true=>exact t rfl h
 |false=>exact f rfl h
def Mj(P:aO p)(I:Inv p f W lv σ s)(r:aD W (.ref l) cv)(ht:cls? l.t=some c)(hc:σ.hp l=some (.inst fs))(hm:ao c m=some fid)(hf:fX c m=false){Q:Value×List Value→Shared→Prop}{E:QQ}
  (q:Q (.ref (p.fn fid),[cv]) s):av p.M f.A (getMethod cv m.s pl) Q E s:=by
 revert q
 refine I.inst (C:=fun cv=>Q (.ref (p.fn fid),[cv]) s→av p.M f.A (getMethod cv m.s pl) Q E s) r ht hc fun a es n O q=>?_
 obtain⟨m1,m2,m3⟩:=P.CD c m fid hm
 exact of <| method_fn (P.at I) O.at_ m2 m3 m1 (P.tB fid).1 (by show(lookIn m.s (dictOf es n)).map (·.isSome)=some false;rw[lookIn_dict,O.rel.none (n:=m) P.inj (JM O.fields hf)];rfl) q
noncomputable def mP(t:Tag)(m:Nm):String:=
 bif Nat.beq t 0 then(bif Nat.beq m 33 then "list.append" else bif Nat.beq m 151 then "list.pop" else "list.extend")
 else bif Nat.beq t 2 then "bytearray.append" else bif Nat.beq m 74 then "dict.get" else bif Nat.beq m 151 then "dict.pop" else "dict.update"
def Mk:PlainAttrs "bytearray":=⟨⟨"bytearray.__getattribute__",by rw[jI,jH];kernel_rfl,by decide +kernel⟩,by rw[jI,jH];kernel_rfl⟩
def Ml:typeOf (.builtin "bytearray.append")=pure (.type "method_descriptor"):=by show builtinType _=_;rw[builtinType_eq_fast];kernel_rfl
def qj{h:Heap}(e:h.get? a=some o)(d:o.dict=none):∀b,Value.ref a = .ref b→∃o,h.get? b=some o∧o.dict=none:=fun b z=>by injection z with z;exact z▸⟨o,e,d⟩
def Mm(ok:bA p f)(P:aO p)(I:Inv p f W lv σ s)(r:aD W (.ref l) cv)(hc:σ.hp l=some c)(ht:Nat.beq c.tag l.t=true)(h:c.has m=true){Q:Value×List Value→Shared→Prop}{E:QQ}
  (q:Q (.builtin (mP l.t m),[cv]) s):av p.M f.A (getMethod cv m.s pl) Q E s:=by
 rw[←cH ht] at q
 revert q
 have or:=fun{b c:Bool} (h:(b||c)=true)=>l8.mp h
 cases c with
 |list xs=>
  refine nB I r hc fun a items k _ g _ _=>?_
  have hT:s.TypeIs (.ref a.1) "list":=⟨_,g,rfl⟩
  rcases or h with h | h
  ·rcases or h with h | h
   ·cases cH h
    exact fun q=>of <| pO hT PySem.F.plainAttrs_list PySem.F.slot_list_append PySem.F.type_list_append (qj g rfl) q
   ·cases cH h
    exact fun q=>of <| pO hT PySem.F.plainAttrs_list PySem.F.slot_list_pop PySem.F.type_list_pop (qj g rfl) q
  ·cases cH h
   exact fun q=>of <| pO hT PySem.F.plainAttrs_list PySem.F.slot_list_extend PySem.F.type_list_extend (qj g rfl) q
 |bB b=>
  cases cH h
  exact rF I r hc fun a bs _ g _ _ _=>fun q=>of <| pO ⟨_,g,rfl⟩ Mk Cz Ml (qj g rfl) q
 |bI d=>
  refine oK I r hc fun a kvs _ g _ _=>?_
  have hT:=g.typeIs
  obtain⟨o,es,ep,ho,hsh,_⟩:=g
  rcases or h with h | h
  ·cases cH h
   exact fun q=>of <| pO hT PySem.F.plainAttrs_dict PySem.F.slot_dict_get PySem.F.type_dict_get (qj ho hsh.2.1) q
  ·cases cH h
   exact fun q=>of <| pO hT PySem.F.plainAttrs_dict PySem.F.slot_dict_pop PySem.F.type_dict_pop (qj ho hsh.2.1) q
 |sd d=>
  refine rE I r hc fun a kvs _ g _ _=>?_
  have hT:=g.typeIs
  obtain⟨o,es,ep,ho,hsh,_⟩:=g
  cases cH h
  exact fun q=>of <| pO hT PySem.F.plainAttrs_dict PySem.F.slot_dict_update PySem.F.type_dict_update (qj ho hsh.2.1) q
 |inst fs=>exact ft h
def DS:∀{kvs:List (Int×Value)},s8 W d kvs→(kvs.map (·.1)).Nodup→s8 W (jN d k) (without kvs k):=by
 induction d with
 |nil=>exact fun e _=>e▸rfl
 |cons q r ih=>
  refine fun e=>ny e fun v kvs rv rr nd=>?_
  obtain⟨n1,n2⟩:=fO.mp nd
  show s8 W (if q.1=k then r else(q.1,q.2)::jN r k) (without ((q.1,v)::kvs) k)
  by_cases h:q.1=k
  ·subst h
   rw[if_pos rfl,show without ((q.1,v)::kvs) q.1=without kvs q.1 by simp [without],without_of_not_mem kvs q.1 n1]
   exact rr
  ·rw[if_neg h,show without ((q.1,v)::kvs) k=(q.1,v)::without kvs k by simp [without,h]]
   exact⟨v,_,rfl,rv,ih rr n2⟩
def DT:(jN d k).length≤d.length:=by
 induction d with
 |nil=>exact cL _
 |cons q r ih=>
  show(if q.1=k then r else(q.1,q.2)::jN r k).length≤_
  by_cases h:q.1=k
  ·rw[if_pos h];exact Nat.le_succ _
  ·rw[if_neg h];exact lF ih
end
section
variable{σ:St}
def set_same(hc:σ.hp l=some c):σ.set l c=σ:=aa (fun h=>St.mk h σ.us) (funext fun k=>by
 by_cases e:k=l
 ·rw[e,hc];exact dK mD
 ·exact cR (mE e))
def Mn(ok:bA p f)(I:Inv p f W lv σ s)(r:aD W (.ref l) cv)(h:σ.hp l=some (.bB b))(rx:aD W x v)(ex:x.int?=some i)(z:0≤i∧i<256∧b.length<bz)(q:Q .none (σ.set l (.bB (b++[i.toNat])))):
  Ev p.M f.A W s (call (.builtin "bytearray.append") [cv,v] []) (KV p f lv Q) X:=
 rF I r h fun a bs hl g rr hn _=>cM rx ex fun u=>JH g (hn▸z.2.2) z.1 z.2.1 fun h' g' hs => .turned (tk:=s.toks) ok I hl q rfl hs ⟨_,g'⟩ ⟨_,g',by
  rw[Array.toList_push,ia,rr,List.map_singleton,show(i.toNat.toUInt8).toNat=i.toNat from UInt8.toNat_ofNat_of_lt' ((Int.toNat_lt z.1).mpr z.2.1)],by rw[cG];exact z.2.2⟩
def DU{K:Type}[DecidableEq K]{kvs:List (K×Value)}{k:K}(nd:(kvs.map (·.1)).Nodup):((stored kvs k v).map (·.1)).Nodup:=by
 unfold stored
 split
 ·rw[gh]
  refine Eq.mpr (aa List.Nodup (pM fun q _=>?_)) nd
  show(if q.1=k then(q.1,v) else q).1=q.1
  split <;> rfl
 ·rename_i hq
  rw[ia]
  refine List.nodup_append.mpr ⟨nd,(List.pairwise_singleton ..),fun x hx y hy e=>?_⟩
  obtain⟨q,h1,h2⟩:=bP.mp hx
  exact hq (List.any_eq_true.mpr ⟨q,h1,fF (h2.trans (e.trans (gf.mp hy)))⟩)
def Mp(P:aO p):∀{more:List (Str×Value)} {d:List (Nm×V)} {kvs:List (Str×Value)},jU W e more→jU W d kvs→(kvs.map (·.1)).Nodup→jU W (e.foldl (fun d x=>aB d x.1 x.2) d) (merged kvs more):=by
 induction e with
 |nil=>exact fun r rr _=>r▸rr
 |cons q e ih=>
  intro more d kvs r rr nd
  obtain⟨v,more,rfl,rv,r⟩:=r
  exact ih (more:=more) (kvs:=stored kvs q.1.s v) r (rr.put (tC P) rv nd) (DU nd)
def Mq(h:Nat.beq m 33=true):mP 0 m="list.append":=dK h
def Mr(h:Nat.beq m 33=false)(h2:Nat.beq m 151=true):mP 0 m="list.pop":=(cR h:(bif Nat.beq m 33 then _ else _)=_).trans (dK h2)
def Ms(h:Nat.beq m 33=false)(h2:Nat.beq m 151=false):mP 0 m="list.extend":=(cR h:(bif Nat.beq m 33 then _ else _)=_).trans (cR h2)
def Mt(h:Nat.beq m 74=true):mP 1 m="dict.get":=dK h
def Mu(h:Nat.beq m 74=false)(h2:Nat.beq m 151=true):mP 1 m="dict.pop":=(cR h:(bif Nat.beq m 74 then _ else _)=_).trans (dK h2)
def DV{l:List (Nm×V)}:∀{d:List (Nm×V)},(l.foldl (fun d x=>aB d x.1 x.2) d).length≤d.length+l.length:=by
 induction l with
 |nil=>exact cL _
 |cons x l ih=>exact aH ih (aH (kq CH l.length) (cT (Nat.add_right_comm _ _ _)))
def Mv(ok:bA p f)(I:Inv p f W lv σ s)(r:aD W (.ref l) cv)(hc:σ.hp l=some (.list xs))(ra:aN W args fL)(h:Cell.ao σ l m args (.list xs)=some q)(w:Q q.1 (σ.set l q.2)):
  Ev p.M f.A W s (call (.builtin (mP 0 m)) (cv::fL) []) (KV p f lv Q) X:=by
 refine nB I r hc fun a items n hl g rr z=>mO h (fun h1 h=>aX h fun x e h=>ig h fun z' eq=>?_) fun h1 h=>mO h (fun h2 h=>?_) fun h2 h=>mO h (fun h3 h=>aX h fun y e h=>?_) fun _ h=>nn h
 ·subst eq
  rw[Mq h1]
  exact kK ra e fun cx rx=>of <| wpAny_list_append_plain ⟨n,g⟩ (fun h' hp hs=>hp.elim fun n' g' => .turned (tk:=s.toks) ok I hl w rfl hs ⟨_,g'⟩ ⟨items++[cx],n',g'.trans (aa (fun a:Array Value=>some ({cls := .type "list",data := .seq a n'}:Obj)) (List.push_toArray items cx)),aN.append (.cons rx .nil) rr,by rw[cG];exact z'⟩) (gM (aH (cT rr.length) z))
 ·rw[Mr h1 h2]
  cases args with
  |nil=>
   refine bW h fun x hx eq=>?_
   subst eq
   obtain⟨v,hv,rv⟩:=rr.get (List.getLast?_eq_getElem?.symm.trans hx)
   obtain rfl:fL=[]:=ra
   exact of <| Copied.pop_at g (y:=v) (qg ((aa (fun n=>items[n - 1]?) rr.length).trans hv)) (fun h' hs g' => .turned (tk:=s.toks) ok I hl w rv hs ⟨_,g'⟩ ⟨items.dropLast,n+1,g'.trans (by simp),rr.dropLast,by rw[List.length_dropLast];exact aH (Nat.sub_le _ _) z⟩) (gM (aH (cT rr.length) z))
  |cons _ _=>exact nn h
 ·rw[Ms h1 h2]
  cases y with
  |fl y=>
   refine ig h fun z' eq=>kK ra e fun cx rx=>jW I rx (σ:=σ) rfl fun b items2 n2 g2 tM _=>?_
   subst eq
   have hsz:(⟨items⟩:Array Value).size+(⟨items2⟩:Array Value).size≤sizeLine:=gM (aH (cT (congr (aa _ rr.length) tM.length)) z')
   refine of <| call_meets PySem.F.slot_list_extend ⟨_,g,rfl⟩ PySem.F.entry_list_extend (PySem.F.args_list_extend_2 _ _) (AutoSeq1.list_extend_list_list_0 a.1 ⟨items⟩ n b ⟨items2⟩ n2 (extend_door hsz) (aH (n7 _ _) hsz) (g9 hsz)) ⟨g,g2,?_⟩
   have ho':(s.heap.update a.1 (Obj.mapSeq fun x=>x++⟨items2⟩)).get? a.1=some {cls := .type "list",data := .seq (⟨items⟩++⟨items2⟩) (if((⟨items⟩:Array Value)++⟨items2⟩).size==(⟨items⟩:Array Value).size then n else n+1)}:=by
    rw[qT _ g (by rw[mapSeq_app];rfl),mapSeq_app]
   exact .turned (tk:=s.toks) ok I hl w rfl (Heap.SameBut.update ..) ⟨_,ho'⟩ ⟨items++items2,_,ho'.trans (by rw[show(⟨items⟩++⟨items2⟩:Array Value)=⟨items++items2⟩ by simp]),aN.append tM rr,by rw[cG];exact z'⟩
  |_=>exact nn h
def Mw(ok:bA p f)(P:aO p)(I:Inv p f W lv σ s)(r:aD W (.ref l) cv)(hc:σ.hp l=some (.bI d))(ra:aN W args fL)(h:Cell.ao σ l m args (.bI d)=some q)(w:Q q.1 (σ.set l q.2)):
  Ev p.M f.A W s (call (.builtin (mP 1 m)) (cv::fL) []) (KV p f lv Q) X:=by
 refine oK I r hc fun a kvs hl g rr z=>?_
 have nm:=rH P (I.p9 (I.loc hl).1.1 rfl)
 have got:∀{k:Int} {x:V} {cx:Value},aD W x cx→aD W ((fH d k).getD x) ((valueAt kvs k).getD cx):=fun{k x cx} rx=>by
  cases e:fH d k with
  |none=>exact(rr.none oG e:valueAt kvs k=none).symm▸rx
  |some y=>exact(rr.get oG e).elim fun v h=>(h.1:valueAt kvs k=some v).symm▸h.2
 refine mO h (fun h1 h=>?_) fun h1 h=>mO h (fun h2 h=>aX h fun y e h=>aX h fun k ek h=>bW h fun x hx eq=>?_) fun _ h=>nn h
 ·rw[Mt h1]
  have two:∀{as:List V},((Mine.Internal.two as).bind fun q=>q.1.int?.map fun k=>((fH d k).getD q.2,Cell.bI d))=some q→aN W as fL→Ev p.M f.A W s (call (.builtin "dict.get") (.ref a.1::fL) []) (KV p f lv Q) X:=fun h ra=>by
   refine aX h fun qq e h=>bW h fun k ek eq=>?_
   subst eq
   rw[B3 e] at ra
   rw[set_same hc] at w
   exact gk ra fun _ _ rk r=>cM rk ek fun t=>gk r fun cx _ rx r=>r▸(of <| call_meetsIn PySem.F.slot_dict_get g.typeIs PySem.F.entry_dict_get (PySem.F.args_dict_get_3 _ _ _) (meets_dict_get_default (PySem.intKind p.prog p.w) a.1 (k:=k) oM nm _) ⟨_,g.mapOf,.now I w (got rx)⟩)
  rcases args with _ | ⟨y,_ | ⟨y2,as⟩⟩
  ·exact two h ra
  ·refine bW h fun k ek eq=>?_
   subst eq
   rw[set_same hc] at w
   exact gk ra fun _ _ rk r=>cM rk ek fun t=>r▸(of <| call_meetsIn PySem.F.slot_dict_get g.typeIs PySem.F.entry_dict_get (PySem.F.args_dict_get_2 _ _) (meets_dict_get (PySem.intKind p.prog p.w) a.1 (k:=k) oM nm) ⟨_,g.mapOf,.now I w (got (x := .none) rfl)⟩)
  ·exact two h ra
 ·subst eq
  rw[Mu h1 h2]
  exact kK ra e fun cx rx=>cM rx ek fun t=>(rr.get oG hx).elim fun v hv=>(of <| call_meetsIn PySem.F.slot_dict_pop g.typeIs PySem.F.entry_dict_pop (PySem.F.args_dict_pop_2 _ _) (meets_dict_pop_there (PySem.intKind p.prog p.w) a.1 (k:=k) oM [] (.inl rfl) (by rfl)) ⟨kvs,v,g,gM (aH (cT rr.length) z),hv.1,fun h' g' hs => .turned ok I hl w hv.2 hs (DictOf.there g') ⟨_,g',DS rr (DictOf.nodup g),aH DT z⟩⟩)
def Mx(ok:bA p f)(P:aO p)(I:Inv p f W lv σ s)(r:aD W (.ref l) cv)(ra:aN W args fL)(h:iH σ l m args=some q)(w:Q q.1 q.2):Ev p.M f.A W s (call (.builtin (mP l.t m)) (cv::fL) []) (KV p f lv Q) X:=by
 refine aX h fun c hc h=>mO h (fun ht h=>bW h fun q hq eq=>?_) fun _ h=>nn h
 subst eq
 rw[←cH ht]
 cases c with
 |list xs=>exact Mv ok I r hc ra hq w
 |bI d=>exact Mw ok P I r hc ra hq w
 |bB b=>
  refine mO hq (fun h1 h=>aX h fun x e h=>aX h fun i ei h=>ig h fun z eq=>?_) fun _ h=>nn h
  subst eq
  exact kK ra e fun cx rx=>Mn ok I r hc rx ei z w
 |sd d=>
  refine mO hq (fun h1 h=>aX h fun x e h=>aX h fun l2 el h=>aX h fun d2 hd2 h=>ig h fun z eq=>?_) fun _ h=>nn h
  subst eq
  cases cH h1
  refine kK ra e fun cx rx=>?_
  rw[pZ el] at rx
  refine rE I r hc fun a kvs hl g rr _=>rE I rx (I9 hd2) fun b more hl2 g2 tM _=>?_
  have hab:a.1≠b.1:=fun z'=>by
   have:=cA (I.loc hl).1.1 (z'▸(I.loc hl2).1.1)
   injection this with this
   exact eE (z.1.symm.trans (this▸mD))
  rw[show mP (Cell.sd d).tag 210="dict.update" from rfl]
  exact of <| call_meetsIn PySem.F.slot_dict_update g.typeIs PySem.F.entry_dict_update (PySem.F.args_dict_update_2 _ _) (meets_dict_update (PySem.strKind p.prog p.w) a.1 b.1 hab (rH P (I.p9 (I.loc hl2).1.1 rfl))) ⟨kvs,more,g,g2,gM (aH (cT (congr (aa _ rr.length) tM.length)) z.2),fun h' g' _ hs => .turned (tk:=s.toks) ok I hl w rfl hs (DictOf.there g') ⟨_,g',Mp P tM rr (DictOf.nodup g),aH DV z.2⟩⟩
 |inst _=>exact nn hq
end
section
variable{p:PC}{f:FC}
def Frag.zE:Frag.In [] h:=fun a o e=>nn e
def My:oQ "str" (.type "str"):=⟨by decide +kernel,by decide +kernel,by decide +kernel⟩
def Mz:oQ "bytearray" (.type "bytearray"):=vR .bB
def MA(ok:bA p f)(P:aO p)(I:Inv p f W lv σ s)(km:KM sc f.env)(r:aD W v cv)(h:Dj sc k=true)(hb:yt k v=some b)
  {Q E:QQ} (q:∀{h' tk},(∀b o,s.heap.get? b=some o→h'.get? b=some o)→Q (.bool b) {s with heap:=h',toks:=tk}):
  av p.M f.A (eval (pX ps k).1 f.env) (fun t s₁=>p.K.In s₁.heap∧av p.M f.A (call (.builtin "isinstance") [cv,t] []) Q E s₁) E s:=by
 have q':∀{tk},Q (.bool b) {s with toks:=tk}:=q fun _ _ e=>e
 cases k with
 |str=>
  refine My.name P ok I (km.g (jY h)) ⟨P.at I,?_⟩
  cases v with
  |bytes l=>
   cases hb
   obtain⟨bs,t,rfl,_⟩:=r
   exact of <| kia_one (K:=[]) kitx_bytes Frag.zE trivial (by kernel_rfl) (fun e=>by cases e) fun tk=>q'
  |str x=>
   cases hb
   obtain⟨t,rfl⟩:=r
   exact of <| PySem.IsiPair.str_str q'
  |_=>exact nn hb
 |bytes=>
  refine(vR .bytes).name P ok I (km.g (jY h)) ⟨P.at I,?_⟩
  cases v with
  |bytes l=>
   cases hb
   obtain⟨bs,t,rfl,_⟩:=r
   exact of <| kia_one (K:=[]) kitx_bytes Frag.zE trivial (by kernel_rfl) (fun e=>by cases e) fun tk=>q'
  |int x=>
   cases hb
   obtain⟨t,rfl⟩:=r
   exact of <| PySem.IsiPair.int_bytes q'
  |str x=>
   cases hb
   obtain⟨t,rfl⟩:=r
   exact of <| PySem.IsiPair.str_bytes q'
  |_=>exact nn hb
 |uT=>
  obtain⟨h1,h2⟩:=aE h
  cases v with
  |bytes l=>
   cases hb
   obtain⟨bs,t,rfl,_⟩:=r
   show av p.M f.A (eval (.Tuple [.Name (aS "bytes") _,.Name (aS "bytearray") _] 0 _) f.env) _ _ s
   rw[arm_eval_Tuple,show backTo _ (starEach [Expr.Name (aS "bytes") _,Expr.Name (aS "bytearray") _] f.env)=[(false,eval (.Name (aS "bytes") _) f.env),(false,eval (.Name (aS "bytearray") _) f.env)] from rfl]
   refine ai (iV (ai ?_))
   rw[tF]
   refine ai ((vR .bytes).name P ok I (km.g (jY h1)) ?_)
   refine ai (c8 ?_)
   rw[tF]
   refine ai (Mz.name P ok I (km.g (jY h2)) ?_)
   refine ai (c8 (aV (aV (aV ?_))))
   have kp:∀b o,s.heap.get? b=some o→(s.heap.push {cls := .type "tuple",data := .seq [Value.type "bytes",Value.type "bytearray"].toArray}).get? b=some o:=fun b o e=>fT _ e
   exact of <| wpAny_newTuple ⟨P.at I.push,of <| kia_tup (K:=[]) kitx_bytes Frag.zE trivial (iB _ rfl) (b:=true) (by kernel_rfl) (fun e=>by cases e) fun tk=>q kp⟩ (by decide +kernel)
  |_=>exact nn hb
def MB(h:a.natAbs≤1000∧b.natAbs≤1000):Builtin.Range.small a b 1=true∧(List.range (b - a).toNat).map (fun(k:Nat)=>V.int (a+k))=(List.range (Builtin.Range.rangeSize a b 1).toNat).map fun(k:Nat)=>V.int (a+k):=by
 refine⟨small_one (by lia) (by lia) (by lia) (by lia),?_⟩
 rw[rangeSize_one]
 congr 2
 split <;> lia
def DW(I:Inv p f W lv σ s)(st:Step W₀ s₀ W s)(h:uY a b=some vs)(q:Q (.items vs) σ):
  PK W s (KI p f lv W₀ s₀ en Q) (.ref s.heap.objs.size) {s with heap:=s.heap.push {cls := .type "range",data := .fields #[.int a t,.int b u,.int 1 v]},toks:=tk}:=
 ig h fun z ev=>by
  obtain⟨z1,z2⟩:=MB z
  have kp:∀b' o,s.heap.get? b'=some o→(s.heap.push {cls := .type "range",data := .fields #[.int a t,.int b u,.int 1 v]}).get? b'=some o:=fun b o e=>fT _ e
  have I1:Inv p f W lv σ {s with heap:=s.heap.push {cls := .type "range",data := .fields #[.int a t,.int b u,.int 1 v]},toks:=tk}:=I.keeps kp
  have st1:=(Step.keeps (W:=W) (s':={s with heap:=s.heap.push {cls := .type "range",data := .fields #[.int a t,.int b u,.int 1 v]},toks:=tk}) kp rfl rfl)
  exact⟨W,st1,σ,.items vs,I1,fun{E Q} q=>of <| wpAny_pyIter_range (IsRange.new s.heap a b 1 t u v) z1 (I1.tG (st.trans st1) (o:={cls := .type "range_iterator",data := .fields #[rawInt a,rawInt (Builtin.Range.rangeSize a b 1),rawInt 1]}) q ⟨rfl,.inr (.inr (.inl ⟨a,_,iB _ rfl,ev.symm.trans z2⟩))⟩),ft,q⟩
def MC(I:Inv p f W lv σ s)(st:Step W₀ s₀ W s)(ra:aN W args fL)(h:rj args=some vs)(q:Q (.items vs) σ):Ev p.M f.A W s (call (.type "range") fL []) (KI p f lv W₀ s₀ en Q) X:=by
 have two:∀{as:List V},((Mine.Internal.two as).bind fun q=>q.1.int?.bind fun a=>q.2.int?.bind fun b=>uY a b)=some vs→aN W as fL→Ev p.M f.A W s (call (.type "range") fL []) (KI p f lv W₀ s₀ en Q) X:=fun h ra=>
  aX h fun _ e h=>aX h fun a e1 h=>aX h fun b e2 h=>zD ra e e1 e2 fun t u=>of <| call_range_2 (DW I st h q)
 rcases args with _ | ⟨x,_ | ⟨y,r⟩⟩
 ·exact two (as:=[]) h ra
 ·exact aX h fun b e h=>kK ra rfl fun cv rv=>cM rv e fun t=>of <| call_range_1 (DW I st h q)
 ·exact two (as:=x::y::r) h ra
def MD(I:Inv p f W lv σ s)(st:Step W₀ s₀ W s)(r:aD W v cv)(h:yu σ v=some src)(q:Q src σ):Ev p.M f.A W s (call (.type "enumerate") [cv] []) (KI p f lv W₀ s₀ true Q) X:=by
 refine aX h fun l el h=>bW h fun xs hx e=>?_
 subst e
 rw[pZ el] at r
 refine nB I r (s7 hx) fun a items n hl g rr z=>of <| call_enumerate_list (gm g) fun h' hE hL hz hk=>?_
 have n0:=gK s.heap
 have n1:s.heap.get? (s.heap.objs.size+1)=none:=gj fun o e=>qU _ (eL (iF e))
 have I1:Inv p f W lv σ {s with heap:=h'}:=I.keeps hk
 have st1:Step W s W {s with heap:=h'} := .keeps hk rfl rfl
 have at_:mJ W h' (s.heap.objs.size+1) s.heap.objs.size (.enum l 0):=⟨Nat.succ_ne_self _,a,.none,hl,hE,hL⟩
 exact⟨W,st1,σ,_,I1,fun{E Q} q=>of <| wpAny_pyIter_enum hE (q I1 ⟨at_,I.free n1,I.free n0,st.old I n1,st.old I n0⟩ (st.trans st1)),fun _=>rfl,q⟩
def DX(ok:bA p f)(I:Inv p f W lv σ s){Q:QA}(r:aD W (.tup vs) cv)(h:vs.length=n)(q:Q vs σ):Ev p.M f.A W s (unpackItems cv n none) (KR p f lv JI Q) X:=by
 refine oH I r fun a items g rr z=>?_
 rw[←h,show vs.length=(⟨items⟩:Array Value).size from rr.length.symm]
 exact of <| wpAny_unpackItems_tuple ok.handled g fun h' he=>have kp:∀b o,s.heap.get? b=some o→h'.get? b=some o:=fun b o e=>he b o (mq (iF e)) e;⟨W,.keeps kp rfl rfl,σ,vs,I.keeps kp,rr,q⟩
def zF(ok:bA p f)(P:aO p)(km:KM sc f.env)(ow:∀{x},sc.lookup x=some .cell→f.own=true)(I:Inv p f W lv σ s){K:QL}(r:aD W x cv)(h:sc.lookup n.s=some .local∨sc.lookup n.s=some .cell)(q:K (aB lv n x) σ):
  Ev p.M f.A W s (bindName f.env n.s cv) (KA p f K) X:=by
 refine Ci ?_
 rcases h with h | h
 ·obtain⟨m,hm,_⟩:=I.vars
  exact of <| wpAny_storeName_local (km.l h) hm (fun h' hn hs=>have T:=I.CN (tk:=s.toks+1) P.inj ok hm hn hs (km.l h) r;⟨W,T.2,_,σ,T.1,q⟩) (by rw[ok.kind];rfl)
 ·obtain⟨c,hc⟩:=ok.cellsOf (.inl (km.c h))
  obtain⟨v₀,ME⟩:=(I.cells _ (jn hc)).2
  exact of <| wpAny_storeName_cell ok.kind (km.c h) hc ME fun h' hv hs=>have T:=I.setCell (tk:=s.toks) P.inj ok (ow h) hc hv hs (by rw[km.c h];nofun) r;⟨W,T.2,_,σ,T.1,q⟩
def DY(hp:(apos.endLine==pos.line)=true)(hst:starEach args env=args.map fun e=>(false,eval e env))(hlen:args.length<25)
  (h:∀(pl:Sem Bool) (Q:Value×List Value→Shared→Prop) (E:QQ),Q (fv,first) s→av p.M f.A (getMethod ov x pl) Q E s) (Q E:QQ)
  (q:av p.M f.A (callWith pos fv first (backTo pos (starEach args env)) (backToKw pos (keywordEach [] env))) Q E s):
  av p.M f.A (methodCall o x apos pos env ov (args.length+0) (backTo pos (starEach args env)) (backToKw pos (keywordEach [] env))) Q E s:=by
 have e0:backToKw pos (keywordEach [] env)=[]:=rfl
 rw[e0] at q ⊢
 rw[hst,zf] at q ⊢
 unfold methodCall
 rw[Kv hlen]
 refine ai (c8 ?_)
 refine h _ _ _ ?_
 have:methodCallPos true o env apos pos=pure pos:=by
  unfold methodCallPos
  rw[if_pos (by simp [hp])]
 rw[this]
 exact ai (aV q)
end
section
def MF:SE p cx n (.c v):=fun g h I w => .re (arm_eval_Constant ..) (JR I h w)
def MG(P:aO p):SE p cx n (.v m):=fun g h I w=>bR w fun x hx w=>JS P g.ok I (g.km.var h) hx w
def MH(P:aO p):SE p cx n (.g m):=fun g h I w=>bR w fun x hx w=>JT P g.ok I (g.km.g (jY h)) hx w
def MI(P:aO p)(h1:SE p cx n e1):SE p cx n (.at e1 m):=fun{ps sc f lv W σ s Q X} g h I w=>by
 refine .re (arm_eval_Attribute ..) ?_
 rw[Dm (aE h).1]
 exact(h1 g (aE h).2 I w).bindR fun st1 I1 r1 w=>Ev.stand (bR w fun x hx w=>(Ev.aU (CJ rfl P I1 r1 hx w)).bindR fun st2 I2 r2 w=>Ev.JJ (Ev.val ⟨_,_,I2,r2,w⟩))
def MJ(P:aO p)(h1:SE p cx n e1)(h2:SE p cx n i):SE p cx n (.ix e1 i):=fun g h I w=>
 .re (arm_eval_Subscript ..) ((h1 g (aE h).1 I w).bindR fun st1 I1 r1 w=>(Ev.aU (h2 g (aE h).2 I1 w)).bindR fun st2 I2 r2 w=>Ev.stand (bR w fun x hx w=>J2 P I2 (r1.le st2.le) r2 hx Kw w))
def MK(P:aO p)(h1:SE p cx n x)(h2:SE p cx n y):SE p cx n (.bin o x y):=fun g h I w=>
 .re (arm_eval_BinOp ..) ((h1 g (aE h).1 I w).bindR fun st1 I1 r1 w=>(Ev.aU (h2 g (aE h).2 I1 w)).bindR fun st2 I2 r2 w=>Ev.stand (Ev.op (bR w fun x hx w=>Ka g.ok P I2 (r1.le st2.le) r2 hx w)))
def ML(h1:SE p cx n x)(h2:SE p cx n y):SE p cx n (.lop o zz x y):=fun g h I w=>
 .re (arm_eval_BinOp ..) ((h1 g (aE h).1 I w).bindR fun st1 I1 r1 w=>(Ev.aU (h2 g (aE h).2 I1 w)).bindR fun st2 I2 r2 w=>Ev.stand (Ev.op (bR w fun x hx w=>Kc I2 (r1.le st2.le) r2 hx w)))
def MM(P:aO p)(h1:SE p cx n x)(h2:SE p cx n y):SE p cx n (.cmp x o y):=fun{ps sc f lv W σ s Q X} g h I w=>by
 refine .re (arm_eval_Compare ..) ((h1 g (aE h).1 I w).bindR fun st1 I1 r1 w=>?_)
 rw[arm_evalEach_cons,arm_evalEach_nil,Dp]
 exact(Ev.aU (h2 g (aE h).2 I1 w)).bindR fun st2 I2 r2 w=>Ev.stand (Ev.op (bR w fun r hr w=>rI P g.ok I2 (r1.le st2.le) r2 hr w))
def DZ{t u:Sem α}{K:α→Wd→Shared→Prop}(ht:r=true→Ev M A W s t K X)(hf:r=false→Ev M A W s u K X):Ev M A W s (if r=true then t else u) K X:=by
 cases r with
 |true=>exact ht rfl
 |false=>exact hf rfl
section
variable{K:α→Wd→Shared→Prop}
def W8{b:Bool}(r:aD W (.bool b) cv){C:Value→Prop}(k:C (.bool b)):C cv:=r.symm▸k
def W9{t:Sem Value}{g:Value→Bool→Sem α}{Q:QB}(h:Ev p.M f.A W s t (KV p f lv fun v σ=>∃b,v = .bool b∧Q b σ) X)
  (k:∀{W' s' σ' b},Step W s W' s'→Inv p f W' lv σ' s'→Q b σ'→Ev p.M f.A W' s' (g (.bool b) b) K X):Ev p.M f.A W s (operate vs t>>=fun r=>holding (r::ws) (truthy r)>>=fun b=>g r b) K X:=
 (Ev.op h).bindR fun{a W' s' σ' b} st I r w=>w.elim fun b' y=>by
  obtain⟨rfl,y2⟩:=y
  obtain rfl:a = .bool b':=r
  exact .f7 (fun Q E x=>ai (c8 (of <| wpAny_truthy_bool x))) (k st I y2)
end
def MN(P:aO p){o o':Co}(h1:SE p cx n x)(h2:SE p cx n y)(h3:SE p cx n z):SE p cx n (.pR x o y o' z):=fun{ps sc f lv W σ s Q X} g h I w=>by
 refine .re (arm_eval_Compare ..) ((h1 g (aE h).1 I w).bindR fun st1 I1 r1 w=>?_)
 rw[arm_evalEach_cons,arm_evalEach_cons,arm_evalEach_nil,Dq]
 refine(Ev.aU (h2 g (aE (aE h).2).1 I1 w)).bindR fun{cb W2 s2 σ2 b} st2 I2 r2 w=>?_
 refine Ev.stand ((Ev.aU (bR w fun r hr w=>rI (Q:=fun v σ=>∃r,v = .bool r∧(bif r then wE cx z lv σ (fun c σ=>aQ (eN σ o' b c) fun r=>Q (.bool r) σ) X else Q (.bool false) σ)) P g.ok I2 (r1.le st2.le) r2 hr ⟨r,rfl,w⟩)).bindR fun{cr W3 s3 σ3 vr} st3 I3 r3 w3=>w3.elim fun r y=>?_)
 obtain⟨rfl,w⟩:=y
 obtain rfl:cr = .bool r:=r3
 refine Ev.release (.f7 (fun Q E x=>ai (c8 (of <| wpAny_truthy_bool x))) (DZ (fun hb=>?_) fun hb=>?_))
 ·rw[hb] at w
  exact(Ev.aU (h3 g (aE (aE h).2).2 I3 w)).bindR fun iX I4 r4 w=>Ev.stand (Ev.op (bR w fun r hr w=>rI P g.ok I4 ((r2.le st3.le).le iX.le) r4 hr w))
 ·rw[hb] at w ⊢
  exact Ev.val ⟨_,.bool false,I3,rfl,w⟩
def MO(h1:SE p cx n e1):SE p cx n (.no e1):=fun{ps sc f lv W σ s Q X} g h I w=>by
 refine .re (arm_eval_UnaryOp ..) ((h1 g h I w).bindR fun{cv W1 s1 σ1 v} st1 I1 r1 w=>Ev.stand (Ev.aU (Ev.f7 (t:=truthy cv>>=fun t=>pure (Value.bool (!t))) (fun Q E x=>?_) (bR w fun b hb w=>(za (Q:=fun r σ=>Q (.bool (!r)) σ) I1 r1 hb w).bindR fun{a W2 s2 σ2 b2} st2 I2 r2 w=>?_))))
 ·unfold unaryOp
  exact c8 x
 ·exact Ev.val ⟨_,.bool (!b2),I2,r2▸rfl,w⟩
def MP(h1:SE p cx n e1):SE p cx n (.neg e1):=fun{ps sc f lv W σ s Q X} g h I w=>
 .re (arm_eval_UnaryOp ..) ((h1 g h I w).bindR fun st1 I1 r1 w=>Ev.stand (Ev.aU (bR w fun i hi w=>cM r1 hi fun t=>of <| PySem.P.neg_int (.now I1 w ⟨_,rfl⟩))))
def MQ(h1:SC p cx n t)(h2:SE p cx n a)(h3:SE p cx n b):SE p cx n (.ite t a b):=fun{ps sc f lv W σ s Q X} g h I w=>
 .re (arm_eval_IfExp ..) ((h1 g (aE h).1 I w).bindR fun st1 I1 r1 w=>by
  subst r1
  exact Ev.pick w (fun w=>h2 g (aE (aE h).2).1 I1 w) fun w=>h3 g (aE (aE h).2).2 I1 w)
def sL(hs:∀m∈ms,SE p cx n m):SL p cx n ms:=by
 induction ms with
 |nil=>exact fun g h I w=>Ev.val ⟨_,_,I,⟨.nil,rfl⟩,w⟩
 |cons x ms ih=>exact fun g h I w => .re tF ((hs x (.head _) g (aE h).1 I w).bindR fun st1 I1 r1 w=>(Ev.aU (ih (fun m hm=>hs m (.tail _ hm)) g (aE h).2 I1 w)).bindR fun st2 I2 r2 w=>Ev.val ⟨_,_,I2,⟨.cons (r1.le st2.le) r2.1,aa Nat.succ r2.2⟩,w⟩)
def D3{vs:List V}(h:few es=true)(e:vs.length=es.length):vs.length≤bz:=e▸aH (eL (bw h)) (bw (m:=bz) rfl)
def D4(r:aN W vs bS)(z:vs.length≤bz):bS.length≤sizeLine:=gM (aH (cT r.length) z)
def MR(h1:SL p cx n es):SE p cx n (.tup es):=fun{ps sc f lv W σ s Q X} g h I w=>
 .re ((arm_eval_Tuple ..).trans (aa (fun x=>standAt (hd ps)>>=fun _=>spliced x>>=fun vs=>newTuple vs) Dl)) (Ev.stand ((h1 g (aE h).2 I w).bindR fun st1 I1 r1 w=>have z:=D3 (aE h).1 r1.2
  of <| wpAny_newTuple (.tup I1.push .push (gK _) I1.jo (iB _ rfl) r1.1 z w) (D4 r1.1 z)))
def MS(h1:SL p cx n es):SE p cx n (.lst zz es):=fun{ps sc f lv W σ s Q X} g h I w=>
 .re ((arm_eval_List ..).trans (aa (fun x=>standAt (hd ps)>>=fun _=>spliced x>>=fun vs=>newList vs) Dl)) (Ev.stand ((h1 g (aE h).2 I w).bindR fun st1 I1 r1 w=>have z:=D3 (aE h).1 r1.2
  of <| wpAny_newList (.newL I1.push .push (gK _) I1.jo (iB _ rfl) r1.1 z w) (D4 r1.1 z)))
def MT(P:aO p)(C:eg p cx n)(h1:SL p cx n es):SE p cx n (.call fn es):=fun{ps sc f lv W σ s Q X} g h I w=>by
 obtain⟨k1,h⟩:=aE h
 obtain⟨k2,h⟩:=aE h
 exact Ev.f7 (fun Q E x=>qb (named P g.ok I (g.km.g (jY k2)) (P.ve _ k1).1 (P.ve _ k1).2 x)) (Ev.callWith P (.inr (P.tB fn).2) mH (h1 g (aE h).2 I w) fun st1 I1 r1 w=>C g.ok (Nat.le_of_succ_le g.lv) I1 r1 w)
def MU(P:aO p)(C:eg p cx n)(h1:SL p cx n es):SE p cx n (.new k es):=fun{ps sc f lv W σ s Q X} g h I w=>by
 obtain⟨k1,h⟩:=aE h
 obtain⟨k2,h⟩:=aE h
 exact Ev.f7 (fun Q E x=>qb (named P g.ok I (g.km.g (jY k2)) (P.yQ _ k1).1 (P.yQ _ k1).2 x)) (Ev.callWith P (.inr (P.yR k k1).2.2) mH (h1 g (aE h).2 I w) fun st1 I1 r1 w=>LB C g.ok P g.lv I1 k1 r1 w)
def MV(P:aO p)(h1:SL p cx n es):SE p cx n (.bi k es):=fun{ps sc f lv W σ s Q X} g h I w=>by
 obtain⟨k2,h⟩:=aE h
 exact Ev.f7 (fun Q E x=>qb ((vR k).name P g.ok I (g.km.g (jY k2)) x)) (Ev.callWith P (.inl (Lx k)) mH (h1 g (aE h).2 I w) fun st1 I1 r1 w=>Mi g.ok P I1 r1 w)
def MW(P:aO p)(C:eg p cx n)(h1:SE p cx n e1)(h2:SL p cx n es):SE p cx n (.ao e1 m es):=fun{ps sc f lv W σ s Q X} g h I w=>by
 obtain⟨k1,h⟩:=aE h
 obtain⟨k2,h⟩:=aE h
 obtain⟨k3,h⟩:=aE h
 obtain⟨k4,k5⟩:=aE h
 have hlen:(toL es (ay e1 (tl (tl ps))).2).1.length<25:=by rw[Ks];exact bw k3
 refine .re (arm_eval_Call ..) ?_
 rw[Dm k1]
 refine(h1 g k4 I w).bindR fun{cv W1 s1 σ1 v} st1 I1 r1 w=>Ev.stand (bR w fun q h5 w=>aX h5 fun l el h6=>aX h6 fun c hc hq=>?_)
 obtain rfl:=pZ el
 cases hk:cls? l.t with
 |some k=>
  rw[hk] at hq
  refine aX hq fun fs hfs hq=>mO hq (fun _ h=>nn h) fun hf h=>bW h fun fid hm eq=>?_
  subst eq
  have hc':σ1.hp l=some (.inst fs):=obj_some ((aa (fun o=>Option.bind o Cell.uX) hc).trans hfs)
  exact Ev.f7 (DY k2 mH hlen fun pl Q E q=>Mj P I1 r1 hk hc' hm hf q) (Ev.callWith P (.inr (P.tB fid).2) mH (h2 g k5 I1 w) fun st2 I2 r2 w=>C g.ok (Nat.le_of_succ_le g.lv) I2 (.cons (r1.le st2.le) r2) w)
 |none=>
  rw[hk] at hq
  refine mO hq (fun hb h=>?_) fun _ h=>nn h
  obtain rfl:=aT h
  exact Ev.f7 (DY k2 mH hlen fun pl Q E q=>Mm g.ok P I1 r1 hc (aE hb).1 (aE hb).2 q) (Ev.callWith P (.inl fun a q=>nomatch q) mH (h2 g k5 I1 w) fun st2 I2 r2 w=>bR w fun q hq w=>Mx g.ok P I2 (r1.le st2.le) r2 hq w)
end
section
abbrev MX(p:PC)(cx:Cx)(n:Nat)(ms:List E):Prop:=∀(an:Bool) {ps:Ps} {sc:Sc} {f:FC} {lv:Lv} {W:Wd} {σ:St} {s:Shared} {Q:QB} {X:QX},Ft p n f sc→iw sc ms ps=true→Inv p f W lv σ s→wCs cx an ms lv σ Q X →
 Ev p.M f.A W s (allTrue (if an then .And else .Or) (toL ms ps).1 f.env) (KB p f lv Q) (KX p f lv X)
def D5{oR:List E→Lv→St→QV→QX→Prop}(hs:∀m∈ms,SE p cx n m)
  (h1:∀{e lv σ Q X},oR [e] lv σ Q X→wE cx e lv σ Q X) (h2:∀{e e' r lv σ Q X},oR (e::e'::r) lv σ Q X→wE cx e lv σ (fun v σ=>aQ (eV σ v) fun b=>bif b==an then oR (e'::r) lv σ Q X else Q v σ) X) (h0:∀{lv σ Q X},¬oR [] lv σ Q X)
  {ps:Ps} {sc:Sc} {f:FC} {lv:Lv} {W:Wd} {σ:St} {s:Shared} {pos:Pos} {Q:QV} {X:QX} (g:Ft p n f sc) (k:iw sc ms ps=true) (I:Inv p f W lv σ s) (w:oR ms lv σ Q X):
  Ev p.M f.A W s (boolOp pos (if an then .And else .Or) (evalEach (toL ms ps).1 f.env)) (KV p f lv Q) (KX p f lv X):=by
 induction ms generalizing ps W σ s with
 |nil=>exact absurd w h0
 |cons x ms ih=>
  cases ms with
  |nil=>exact .re (by cases an <;> rfl) (hs x (.head _) g (aE k).1 I (h1 w))
  |cons y ms=>
   have ih:=fun{W σ s}=>ih (fun m hm=>hs m (.tail _ hm)) (ps:=(ay x ps).2) (W:=W) (σ:=σ) (s:=s) (aE k).2
   exact(hs x (.head _) g (aE k).1 I (h2 w)).bindR fun{cv W1 s1 σ1 v} st1 I1 r1 w=>Ev.stand ((Ev.aU (bR w fun b hb w=>za (Q:=fun b σ=>bif b==an then oR (y::ms) lv σ Q X else Q v σ) I1 r1 hb w)).bindR fun{cb W2 s2 σ2 b} st2 I2 r2 w=>by
    subst r2
    cases an <;> cases cb <;> first | exact ih I2 w | exact Ev.val ⟨_,v,I2,r1.le st2.le,w⟩)
def MY(hs:∀m∈es,SE p cx n m):SE p cx n (.an es):=fun{ps sc f lv W σ s Q X} g h I w => .re (arm_eval_BoolOp ..) (D5 (an:=true) (oR:=mw cx) hs (fun w=>w) (fun{e e' r lv σ Q X} w=>(funext fun v=>funext fun σ=>aa (aQ (eV σ v)) (funext fun b=>by cases b <;> rfl):(fun v σ=>aQ (eV σ v) fun b=>bif b==true then mw cx (e'::r) lv σ Q X else Q v σ)=fun v σ=>aQ (eV σ v) fun b=>bif b then mw cx (e'::r) lv σ Q X else Q v σ)▸w) (fun h=>h) g h I w)
def MZ(hs:∀m∈es,SE p cx n m):SE p cx n (.or es):=fun{ps sc f lv W σ s Q X} g h I w => .re (arm_eval_BoolOp ..) (D5 (an:=false) (oR:=pT cx) hs (fun w=>w) (fun{e e' r lv σ Q X} w=>(funext fun v=>funext fun σ=>aa (aQ (eV σ v)) (funext fun b=>by cases b <;> rfl):(fun v σ=>aQ (eV σ v) fun b=>bif b==false then pT cx (e'::r) lv σ Q X else Q v σ)=fun v σ=>aQ (eV σ v) fun b=>bif b then Q v σ else pT cx (e'::r) lv σ Q X)▸w) (fun h=>h) g h I w)
def M0(h1:SC p cx n e1):SC p cx n (.no e1):=fun{ps sc f lv W σ s Q X} g h I w => .re (arm_isTrue_UnaryOp ..) ((h1 g h I w).bindR fun{c W1 s1 σ1 b} st1 I1 r1 w=>Ev.val ⟨_,!b,I1,r1▸rfl,w⟩)
def D6(hs:∀m∈ms,SC p cx n m):MX p cx n ms:=by
 induction ms with
 |nil=>exact fun an {ps sc f lv W σ s Q X} g h I w => .re (arm_allTrue_nil ..) (Ev.val ⟨_,an,I,by cases an <;> rfl,w⟩)
 |cons x ms ih=>
  exact fun an {ps sc f lv W σ s Q X} g h I w => .re (arm_allTrue_cons ..) ((hs x (.head _) g (aE h).1 I w).bindR fun{c W1 s1 σ1 b} st1 I1 r1 w=>by
   have ih:=ih (fun m hm=>hs m (.tail _ hm)) an g (aE h).2 I1 (Q:=Q) (X:=X)
   subst r1
   cases an <;> cases c <;> first | exact ih w | exact Ev.val ⟨_,_,I1,rfl,w⟩)
def M1(hs:∀m∈es,SC p cx n m):SC p cx n (.an es):=fun{ps sc f lv W σ s Q X} g h I w => .re (arm_isTrue_BoolOp ..) (D6 hs true g h I w)
def M3(hs:∀m∈es,SC p cx n m):SC p cx n (.or es):=fun{ps sc f lv W σ s Q X} g h I w => .re (arm_isTrue_BoolOp ..) (D6 hs false g h I w)
def D7{t:Sem Value}(h:Ev p.M f.A W s t (KV p f lv fun v σ=>∃b,v = .bool b∧Q b σ) X):Ev p.M f.A W s (operate vs t>>=fun r=>holding [r] (truthy r)) (KB p f lv Q) X:=
 (Ev.op h).bindR fun{a W' s' σ' b} st I r w=>w.elim fun b' y=>by
  obtain⟨rfl,y2⟩:=y
  obtain rfl:a = .bool b':=r
  exact Ev.aU (of <| wpAny_truthy_bool (.fin I y2 rfl rfl rfl rfl))
def M4(P:aO p){o:Co}(h1:SE p cx n x)(h2:SE p cx n y):SC p cx n (.cmp x o y):=fun{ps sc f lv W σ s Q X} g h I w=>by
 refine .re (arm_isTrue_Compare ..) ((h1 g (aE h).1 I w).bindR fun st1 I1 r1 w=>?_)
 rw[arm_evalEach_cons,arm_evalEach_nil,Dp]
 exact(Ev.aU (h2 g (aE h).2 I1 w)).bindR fun st2 I2 r2 w=>Ev.stand (D7 (bR w fun r hr w=>rI P g.ok I2 (r1.le st2.le) r2 hr ⟨r,rfl,w⟩))
def M5(P:aO p){o o':Co}(h1:SE p cx n x)(h2:SE p cx n y)(h3:SE p cx n z):SC p cx n (.pR x o y o' z):=fun{ps sc f lv W σ s Q X} g h I w=>by
 refine .re (arm_isTrue_Compare ..) ((h1 g (aE h).1 I w).bindR fun st1 I1 r1 w=>?_)
 rw[arm_evalEach_cons,arm_evalEach_cons,arm_evalEach_nil,Dq]
 refine(Ev.aU (h2 g (aE (aE h).2).1 I1 w)).bindR fun{cb W2 s2 σ2 b} st2 I2 r2 w=>?_
 refine Ev.stand ((Ev.aU (bR w fun r hr w=>rI (Q:=fun v σ=>∃r,v = .bool r∧(bif r then wE cx z lv σ (fun c σ=>aQ (eN σ o' b c) fun r=>Q r σ) X else Q false σ)) P g.ok I2 (r1.le st2.le) r2 hr ⟨r,rfl,w⟩)).bindR fun{cr W3 s3 σ3 vr} st3 I3 r3 w3=>w3.elim fun r y=>?_)
 obtain⟨rfl,w⟩:=y
 obtain rfl:cr = .bool r:=r3
 refine Ev.release (.f7 (fun Q E x=>ai (c8 (of <| wpAny_truthy_bool x))) (DZ (fun hb=>?_) fun hb=>?_))
 ·rw[hb] at w
  exact(Ev.aU (h3 g (aE (aE h).2).2 I3 w)).bindR fun iX I4 r4 w=>Ev.stand (D7 (bR w fun r hr w=>rI P g.ok I4 ((r2.le st3.le).le iX.le) r4 hr ⟨r,rfl,w⟩))
 ·rw[hb] at w
  exact Ev.val ⟨_,_,I3,rfl,w⟩
def M6(hp:∀ps env (t:Sem Value),isTrue (ay x ps).1 env t=(do let v ←t;standAt (ay x ps).1.pos;holding [v] (truthy v)))(he:∀{lv σ Q X},wC cx x lv σ Q X→wE cx x lv σ (fun v σ=>aQ (eV σ v) fun b=>Q b σ) X)(h1:SE p cx n x):SC p cx n x:=fun{ps sc f lv W σ s Q X} g h I w=>
 .re (hp ..) ((h1 g h I (he w)).bindR fun st1 I1 r1 w=>Ev.stand (Ev.aU (bR w fun b hb w=>za I1 r1 hb w)))
end
section
def rQ(env:Env)(pos:Pos):List Nm→Ps→List E→Ps→List (Sem Value×Sem Value)
 |k::ks,ps,e::es,qs=>(eval (.Constant (.str k.s) 0 (hd ps)) env,do let x ←eval (ay e qs).1 env;standAt pos;pure x)::rQ env pos ks (tl ps) es (ay e qs).2
 |_,_,_,_=>[]
def M7:∀{ps:Ps} {es:List E} {qs:Ps},ks.length=es.length →
  (evalEachOpt (oj ps ks).1 env).zip ((evalEach (toL es qs).1 env).map fun v=>do let x ←v;standAt pos;pure x)=(rQ env pos ks ps es qs).map (fun p=>(some p.1,p.2))∧(rQ env pos ks ps es qs).length=ks.length:=by
 induction ks with
 |nil=>
  intro ps es qs h
  cases es with
  |nil=>exact⟨rfl,rfl⟩
  |cons _ _=>cases h
 |cons k ks ih=>
  intro ps es qs h
  cases es with
  |nil=>cases h
  |cons e es=>exact(ih (ps:=tl ps) (qs:=(ay e qs).2) (Nat.succ.inj h)).imp (aa (List.cons _)) (aa Nat.succ)
def vV (W:Wd):List Nm→List (Value×Value)→List V→Prop
 |[],ps,vs=>ps=[]∧vs=[]
 |n::ns,ps,vs=>∃t cv ps' v vs',ps=(.str n.s t,cv)::ps'∧vs=v::vs'∧aD W v cv∧vV W ns ps' vs'
def vV.M8(P:aO p):∀{ps:List (Value×Value)} {vs:List V},vV W ns ps vs→∃kvs,Carries (PySem.strKind p.prog p.w) ps kvs∧ns.length=vs.length ∧
  ∀{d:List (Nm×V)} {acc:List (Str×Value)},jU W d acc→(acc.map (·.1)).Nodup→jU W ((ns.zip vs).foldl (fun d x=>aB d x.1 x.2) d) (merged acc kvs):=by
 induction ns with
 |nil=>exact fun h=>by obtain⟨rfl,rfl⟩:=h;exact⟨[],trivial,rfl,fun r _=>r⟩
 |cons n ns ih=>
  intro ps vs h
  refine cps fun C9 k9=>?_
  obtain⟨t,cv,ps',v,vs',rfl,rfl,r,h⟩:=h
  refine k9 ?_
  exact(ih h).elim fun kvs q=>⟨(n.s,cv)::kvs,⟨yW,rfl,q.1⟩,aa Nat.succ q.2.1,fun rr nd=>q.2.2 (rr.put (tC P) r nd) (DU nd)⟩
def sP(hs:∀m∈ms,SE p cx n m):∀{qs ps:Ps} {pos:Pos} {sc:Sc} {f:FC} {lv:Lv} {W:Wd} {σ:St} {s:Shared} {Q:QA} {X:QX},Ft p n f sc→iw sc ms ps=true→ks.length=ms.length→Inv p f W lv σ s→wL cx ms lv σ Q X →
  Ev p.M f.A W s (evalPairs (rQ f.env pos ks qs ms ps)) (KR p f lv (fun W a b=>vV W ks a b) Q) (KX p f lv X):=by
 induction ms generalizing ks with
 |nil=>
  intro qs ps pos sc f lv W σ s Q X g h hl I w
  cases ks with
  |cons _ _=>cases hl
  |nil=>exact Ev.val ⟨_,[],I,⟨rfl,rfl⟩,w⟩
 |cons x ms ih=>
  intro qs ps pos sc f lv W σ s Q X g h hl I w
  cases ks with
  |nil=>cases hl
  |cons k ks=>
   refine .re (show evalPairs (rQ f.env pos (k::ks) qs (x::ms) ps)=evalPairs ((eval (.Constant (.str k.s) 0 (hd qs)) f.env,do let x ←eval (ay x ps).1 f.env;standAt pos;pure x)::rQ f.env pos ks (tl qs) ms (ay x ps).2) from rfl) ?_
   rw[evalPairs,eval_Constant]
   refine ai (of <| wpAny_mkText ?_)
   have vW:Step W s W {s with toks:=s.toks+1} := .p8 rfl rfl rfl
   have hv:Ev p.M f.A W {s with toks:=s.toks+1} (eval (ay x ps).1 f.env>>=fun a=>standAt pos>>=fun _=>pure a) (KV p f lv fun v σ=>wL cx ms lv σ (fun vs σ=>Q (v::vs) σ) X) (KX p f lv X):=
    (hs x (.head _) g (aE h).1 (I.p8 (s':={s with toks:=s.toks+1}) rfl) w).bindR fun{cv W1 s1 σ1 v} st1 I1 r1 w=>Ev.stand (Ev.val ⟨σ1,v,I1,r1,w⟩)
   refine Ev.to vW ((Ev.aU hv).bindR fun{cv W1 s1 σ1 v} st1 I1 r1 w=>?_)
   exact(Ev.aU (ih (fun m hm=>hs m (.tail _ hm)) g (aE h).2 (Nat.succ.inj hl) I1 w)).bindR fun{a W2 s2 σ2 vs} st2 I2 r2 w=>Ev.val ⟨σ2,v::vs,I2,⟨_,_,_,_,_,rfl,rfl,r1.le st2.le,r2⟩,w⟩
def M9(P:aO p)(hs:∀m∈es,SE p cx n m):SE p cx n (.dct ks es):=fun{ps sc f lv W σ s Q X} g h I w=>by
 obtain⟨k1,h⟩:=aE h
 obtain⟨k2,h⟩:=aE h
 have hl:=cH k1
 have dt:∀{K:Type} [DecidableEq K] {knd:KeyKind p.prog p.w K} {h:Heap} {a:Addr},h.get? a=some {cls := .type "dict",data := .dict #[]}→h.DictOf knd a []:=fun e=>⟨_,#[],0,e,⟨rfl,rfl,rfl⟩,rfl,fun _ he=>by simp at he,Pairs.nil,List.nodup_nil⟩
 have gD:(s.heap.push {cls := .type "dict",data := .dict #[]}).get? s.heap.objs.size=some {cls := .type "dict",data := .dict #[]}:=iB _ rfl
 cases ks with
 |nil=>
  cases es with
  |cons _ _=>cases hl
  |nil=>exact .re (eval_Dict_empty ..) (Ev.stand (of <| wpAny_newObj_type (.fu I.push .push (gK _) I.jo ⟨_,gD⟩ w fun _ _=>⟨[],dt gD,rfl,fG _⟩)))
 |cons k ks=>
  obtain⟨hsh,hlen⟩:=M7 (env:=f.env) (pos:=hd ps) (ps:=tl ps) (qs:=(oj (tl ps) (k::ks)).2) hl
  have h15:=eL (bw k2)
  refine .re ((arm_eval_Dict ..).trans (by rw[hsh,dictDisplay_pairs _ (fun q=>by rw[q] at hlen;cases hlen) (fU (hlen▸h15) (by decide))])) (Ev.stand ?_)
  have nD:=I.jo
  refine ai (Js (knd:=PySem.strKind p.prog p.w) (hlen▸h15) (bF (sP hs g h hl (I.push (o:={cls := .type "dict",data := .dict #[]})) w) (fun ps s1 k1=>k1.casesOn fun W1 st1 k1=>k1.casesOn fun σ1 vs I1 r1 w=>?_) fun _ _=>PK.to .push))
  refine cps fun C9 k9=>?_
  obtain⟨kvs,c1,c2,c3⟩:=r1.M8 P
  refine k9 ?_
  have zG:=st1.stay nD gD
  have Na:=st1.keep nD gD
  refine⟨kvs,c1,dt Na,fun h2 hd hs=>aV ?_⟩
  have kk:∀b o,b≠s.heap.objs.size→b≠s.heap.objs.size→s1.heap.get? b=some o→h2.get? b=some o:=fun b o n _ e=>(hs.2 b n).trans e
  exact .fu (s:={s1 with heap:=h2,toks:=s1.toks+ps.length}) (I1.off zG zG kk) ((Step.push.trans st1).off (gK _) (gK _) kk rfl rfl) (gK _) zG (DictOf.there hd) w.2 fun _ le=>
   ⟨_,hd,eW.le le (c3 (d:=[]) (acc:=[]) rfl List.nodup_nil),aH DV (aH (cT (Nat.zero_add _)) (by rw[List.length_zip];exact aH (Nat.min_le_left _ _) (aH h15 (bw rfl))))⟩
def Nb(h:srcOf σ v=some src):src.iu=true→false=true:=by
 cases v with
 |tup _=>exact aT h▸id
 |fl _=>exact aT h▸id
 |bytes _=>exact aT h▸id
 |ref l=>exact bW h fun _ _ e=>e▸id
 |_=>exact nn h
def D8(h1:SE p cx n x):SI p cx n (.e x):=fun{ps sc f lv W σ s Q X} g h I w=>(h1 g h I w).map fun st I r w=>bR w fun src hs q=>⟨_,src,I,KL I st r hs,Nb hs,q⟩
def Nc:oQ "range" (.type "range"):=⟨by decide +kernel,by decide +kernel,by decide +kernel⟩
def Nd:oQ "enumerate" (.type "enumerate"):=⟨by decide +kernel,by decide +kernel,by decide +kernel⟩
def D9(P:aO p)(h1:SL p cx n es):SI p cx n (.fq es):=fun{ps sc f lv W σ s Q X} g h I w=>by
 obtain⟨k2,h⟩:=aE h
 exact Ev.f7 (fun Q E x=>qb (Nc.name P g.ok I (g.km.g (jY k2)) x)) (Ev.callWith P (.inl fun a q=>nomatch q) mH (h1 g (aE h).2 I w) fun st1 I1 r1 w=>bR w fun l hl q=>MC I1 st1 r1 hl q)
def Nf:starEach [(ay x ps).1] env=[(ay x ps).1].map fun e=>(false,eval e env):=mH (es:=[x])
def Ea(P:aO p)(h1:SE p cx n x):SI p cx n (.enum x):=fun{ps sc f lv W σ s Q X} g h I w=>by
 obtain⟨k2,h⟩:=aE h
 exact Ev.f7 (fun Q E x=>qb (Nd.name P g.ok I (g.km.g (jY k2)) x)) (Ev.callWith P (.inl fun a q=>nomatch q) Nf (sL (fun m hm=>gf.mp hm▸h1) (ms:=[x]) g ((Bool.and_true _).trans h) I (Q:=fun vs σ=>aQ ((one vs).bind (yu σ)) fun x=>Q x σ) w) fun st1 I1 r1 w=>bR w fun src hs q=>aX hs fun v e1 e2=>kK r1 e1 fun cv rv=>MD I1 st1 rv e2 q)
def Ng:oQ "isinstance" (.builtin "isinstance"):=⟨by decide +kernel,by decide +kernel,by decide +kernel⟩
def Nh:starEach [(ay e1 ps).1,(pX qs k).1] env=[(ay e1 ps).1,(pX qs k).1].map fun e=>(false,eval e env):=
 (show starEach ((ay e1 ps).1::[(pX qs k).1]) env=(false,eval (ay e1 ps).1 env)::starEach [(pX qs k).1] env by cases e1 <;> rfl).trans (aa _ (by cases k <;> rfl))
def Ni(P:aO p)(h1:SE p cx n e1):SE p cx n (.nh e1 k):=fun{ps sc f lv W σ s Q X} g h I w=>by
 obtain⟨k2,h⟩:=aE h
 obtain⟨k3,k4⟩:=aE h
 refine Ev.f7 (fun Q E x=>qb (Ng.name P g.ok I (g.km.g (jY k2)) x)) (DF (fv := .builtin "isinstance") P (.inl fun a q=>nomatch q) Nh _ _ ?_)
 rw[jJ,tF]
 refine ai (bF (h1 g k3 I w) (fun cv s1 k=>k.casesOn fun W1 st1 k=>k.casesOn fun σ1 v I1 r1 w=>ai (c8 (bR w fun b hb w=>?_))) fun _ _ x=>x)
 rw[jJ,tF]
 exact ai (bF (MA g.ok P I1 g.km r1 k4 hb fun hk=>PK.to st1 (.kept I1 hk w rfl)) (fun t s2 h2=>ai (c8 (aV (aV (aV h2))))) fun _ _ x=>x)
end
section
variable{lo hi:E}
theorem Ev.bV{t:Sem α}{K:α→Wd→Shared→Prop}(h:Ev M A W s t K (KX p f lv bV)):Ev M A W s t K X:=h.mono (fun _ _ _ _ k=>k) fun _ _ _ k=>k.casesOn fun _ _ _ _ q=>q.elim
def Nj(h1:SE p cx n e1)(h2:SE p cx n lo):SE p cx n (.pQ e1 lo):=fun{ps sc f lv W σ s Q X} g h I w=>
 .re (arm_eval_Subscript ..) ((h1 g (aE h).1 I w).bindR fun st1 I1 r1 w=>ai (c8 (Cr (bF (h2 g (aE h).2 I1 w) (fun ca s2 k=>k.casesOn fun W2 st2 k=>k.casesOn fun σ2 a I2 r2 w=>
  aV (aV (ai (iV (Ev.to (st2.trans .push) (bR w fun x hx w=>aX hx fun j e hx=>cM r2 e fun t=>Ev.to (s₀:={s2 with heap:=s2.heap.push (tE (.int j t) .none)}) (.refl _ _) (C2 I2 (r1.le st2.le) (.int j t) .none hx w))))))) fun _ _ x=>x))))
def Nk(h1:SE p cx n e1)(h2:SE p cx n hi):SE p cx n (.qY e1 hi):=fun{ps sc f lv W σ s Q X} g h I w=>
 .re (arm_eval_Subscript ..) ((h1 g (aE h).1 I w).bindR fun st1 I1 r1 w=>ai (c8 (Cr (aV (bF (h2 g (aE h).2 I1 w) (fun ca s2 k=>k.casesOn fun W2 st2 k=>k.casesOn fun σ2 a I2 r2 w=>
  aV (ai (iV (Ev.to (st2.trans .push) (bR w fun x hx w=>aX hx fun j e hx=>cM r2 e fun t=>C2 I2 (r1.le st2.le) .none (.int j t) hx w))))) fun _ _ x=>x)))))
section
def Ev.done{t:Sem Unit}{K:QL}(h:Ev p.M f.A W s t (KU p f lv fun σ=>K lv σ) X):Ev p.M f.A W s (holding vs t>>=fun _=>PySem.release ws ks) (KA p f K) X:=
 (Ev.aU h).bindR fun st I _ q=>Cm (.here ⟨lv,_,I,q⟩)
end
def Eb(P:aO p):ST p cx n (.v m):=fun{ps sc f lv W σ s v cv K X} g h I r w => .re (arm_assign_Name ..) (Ev.stand (zF g.ok P g.km g.own I r ((l8.mp h).imp eq_of_beq eq_of_beq) w))
def Ec(P:aO p)(h1:SE p cx n e1):ST p cx n (.at e1 m):=fun{ps sc f lv W σ s v cv K X} g h I r w=>
 .re (arm_assign_Attribute ..) ((Ev.aU (h1 g h I w).bV).bindR fun st1 I1 r1 w=>Ev.stand (bR w fun σ' hs w=>Ev.done (CK g.ok P I1 r1 (r.le st1.le) hs w)))
def Ed(P:aO p)(h1:SE p cx n e1)(h2:SE p cx n i):ST p cx n (.ix e1 i):=fun{ps sc f lv W σ s v cv K X} g h I r w=>
 .re (arm_assign_Subscript ..) ((Ev.aU (h1 g (aE h).1 I w).bV).bindR fun st1 I1 r1 w=>(Ev.aU (h2 g (aE h).2 I1 w).bV).bindR fun st2 I2 r2 w=>Ev.stand (bR w fun σ' hs w=>Ev.done (C0 g.ok P I2 (r1.le st2.le) r2 ((r.le st1.le).le st2.le) hs w)))
def Nl:∀{ps:Ps},(jl ts ps).1.length=ts.length:=by
 induction ts with
 |nil=>exact rfl
 |cons t r ih=>exact aa Nat.succ ih
def Nn{l:List α}{g:α→β}:(l.map fun e=>((false,g e):Bool×β)).findIdx? (·.1)=none:=by simp
def Np(hs:∀t∈ts,ST p cx n t):∀{ps:Ps} {sc:Sc} {f:FC} {lv:Lv} {W:Wd} {σ:St} {s:Shared} {vs:List V} {bS:List Value} {K:QL} {X:QW},Ft p n f sc→ze sc ts ps=true→Inv p f W lv σ s→aN W vs bS→sY cx ts vs lv σ K →
  Ev p.M f.A W s (assignInOrder ((jl ts ps).1.map fun e=>assign e f.env) bS) (KA p f K) X:=by
 induction ts with
 |nil=>exact fun g h I r w=>Ev.val ⟨_,_,I,w⟩
 |cons t ts ih=>
  intro ps sc f lv W σ s vs bS K X g h I r w
  cases vs with
  |nil=>exact r.symm▸Ev.val ⟨_,_,I,w⟩
  |cons v vs=>exact gk r fun cv bS rv rr=>(Ev.aU (hs t (.head _) g (aE h).1 I rv w)).bind fun _ W1 s1 st1 k=>k.casesOn fun oS σ1 I1 w=>ih (fun t ht=>hs t (.tail _ ht)) g (aE h).2 I1 (rr.le st1.le) w
def Ef{ts:List T}(hs:∀t∈ts,ST p cx n t):ST p cx n (.tup ts):=fun{ps sc f lv W σ s v cv K X} g h I r w=>by
 refine .re (arm_assign_Tuple ..) (Ev.stand ?_)
 unfold PySem.unpack
 rw[Ku,Nn,bJ,gh,Nl]
 refine bR w fun vs e w=>?_
 rw[BY e] at r
 exact(Ev.aU (DX (Q:=fun vs σ=>sY cx ts vs lv σ K) g.ok I r (cH w.1) w.2)).bindR fun st1 I1 r1 w=>Np hs g h I1 r1 w
def zH{P:α→Prop}{m:α}{ms:List α}(h:P m)(h2:∀x∈ms,P x):∀x∈m::ms,P x:=fun x hx=>(cS.mp hx).elim (fun e=>e▸h) (h2 x)
abbrev qk(p:PC)(cx:Cx)(n:Nat)(m:E):Prop:=SE p cx n m∧SC p cx n m
def qk.no(h:SE p cx n x)(hw:∀{lv σ Q X},¬wC cx x lv σ Q X):qk p cx n x:=⟨h,fun g k I w=>(hw w).elim⟩
def qk.plain(h:SE p cx n x)(hp:∀ps env (t:Sem Value),isTrue (ay x ps).1 env t=(do let v ←t;standAt (ay x ps).1.pos;holding [v] (truthy v)))(he:∀{lv σ Q X},wC cx x lv σ Q X→wE cx x lv σ (fun v σ=>aQ (eV σ v) fun b=>Q b σ) X):qk p cx n x:=⟨h,M6 hp he h⟩
def sE(P:aO p)(C:eg p cx n)(m:E):qk p cx n m:=
 E.rec (motive_1:=fun m=>qk p cx n m) (motive_2:=fun it=>SI p cx n it) (motive_3:=fun t=>ST p cx n t) (motive_4:=fun es=>∀m∈es,qk p cx n m) (motive_5:=fun ts=>∀t∈ts,ST p cx n t)
  (fun v => .plain MF (fun _ _ _=>rfl) fun w=>w)
  (fun m => .plain (MG P) (fun _ _ _=>rfl) fun w=>w)
  (fun m => .no (MH P) fun h=>h)
  (fun e m h => .plain (MI P h.1) (fun _ _ _=>rfl) fun w=>w)
  (fun e i h h2 => .no (MJ P h.1 h2.1) fun h=>h)
  (fun e i h h2 => .no (Nj h.1 h2.1) fun h=>h)
  (fun e i h h2 => .no (Nk h.1 h2.1) fun h=>h)
  (fun o x y h h2 => .no (MK P h.1 h2.1) fun h=>h)
  (fun o z x y h h2 => .no (ML h.1 h2.1) fun h=>h)
  (fun x o y h h2=>⟨MM P h.1 h2.1,M4 P h.1 h2.1⟩)
  (fun x o y o' z h h2 h3=>⟨MN P h.1 h2.1 h3.1,M5 P h.1 h2.1 h3.1⟩)
  (fun es h=>⟨MY fun m hm=>(h m hm).1,M1 fun m hm=>(h m hm).2⟩)
  (fun es h=>⟨MZ fun m hm=>(h m hm).1,M3 fun m hm=>(h m hm).2⟩)
  (fun e h=>⟨MO h.1,M0 h.2⟩)
  (fun e h => .no (MP h.1) fun h=>h)
  (fun t a b h h2 h3 => .no (MQ h.2 h2.1 h3.1) fun h=>h)
  (fun es h => .no (MR (sL fun m hm=>(h m hm).1)) fun h=>h)
  (fun z es h => .no (MS (sL fun m hm=>(h m hm).1)) fun h=>h)
  (fun ks es h => .no (M9 P fun m hm=>(h m hm).1) fun h=>h)
  (fun z e t it cs sc h h2 h3 h4 => .no (Lr P h3 h.1 h2 fun m hm=>(h4 m hm).2) fun h=>h)
  (fun f es h => .plain (MT P C (sL fun m hm=>(h m hm).1)) (fun _ _ _=>rfl) fun w=>w)
  (fun e m es h h2 => .plain (MW P C h.1 (sL fun m hm=>(h2 m hm).1)) (fun _ _ _=>rfl) fun w=>w)
  (fun c es h => .no (MU P C (sL fun m hm=>(h m hm).1)) fun h=>h)
  (fun b es h => .no (MV P (sL fun m hm=>(h m hm).1)) fun h=>h)
  (fun e k h => .plain (Ni P h.1) (fun _ _ _=>rfl) fun w=>w)
  (fun e h=>D8 h.1) (fun es h=>D9 P (sL fun m hm=>(h m hm).1)) (fun e h=>Ea P h.1)
  (fun m=>Eb P) (fun e m h=>Ec P h.1) (fun e i h h2=>Ed P h.1 h2.1) (fun ts h=>Ef h)
  (fun _ h=>nomatch h) (fun m ms h h2=>zH h h2)
  (fun _ h=>nomatch h) (fun m ms h h2=>zH (P:=fun t=>ST p cx n t) h h2) m
def sI(P:aO p)(C:eg p cx n)(it:It):SI p cx n it:=by
 cases it with
 |e e=>exact D8 (sE P C e).1
 |fq es=>exact D9 P (sL fun m _=>(sE P C m).1)
 |enum e=>exact Ea P (sE P C e).1
def sT(P:aO p)(C:eg p cx n)(t:T):ST p cx n t:=
 T.rec (motive_1:=fun _=>True) (motive_2:=fun _=>True) (motive_3:=fun t=>ST p cx n t) (motive_4:=fun _=>True) (motive_5:=fun ts=>∀t∈ts,ST p cx n t)
  (fun _=>trivial) (fun _=>trivial) (fun _=>trivial) (fun _ _ _=>trivial) (fun _ _ _ _=>trivial) (fun _ _ _ _=>trivial) (fun _ _ _ _=>trivial) (fun _ _ _ _ _=>trivial) (fun _ _ _ _ _ _=>trivial) (fun _ _ _ _ _=>trivial) (fun _ _ _ _ _ _ _ _=>trivial)
  (fun _ _=>trivial) (fun _ _=>trivial) (fun _ _=>trivial) (fun _ _=>trivial) (fun _ _ _ _ _ _=>trivial) (fun _ _=>trivial) (fun _ _ _=>trivial) (fun _ _ _=>trivial) (fun _ _ _ _ _ _ _ _ _ _=>trivial) (fun _ _ _=>trivial) (fun _ _ _ _ _=>trivial) (fun _ _ _=>trivial) (fun _ _ _=>trivial) (fun _ _ _=>trivial)
  (fun _ _=>trivial) (fun _ _=>trivial) (fun _ _=>trivial) (fun m=>Eb P) (fun e m _=>Ec P (sE P C e).1) (fun e i _ _=>Ed P (sE P C e).1 (sE P C i).1) (fun ts h=>Ef h)
  trivial (fun _ _ _ _=>trivial) (fun _ h=>nomatch h) (fun m ms h h2=>zH (P:=fun t=>ST p cx n t) h h2) t
end
noncomputable def vX:List T→Option (List Nm)
 |[]=>some []
 |t::r=>match t with
  |.v n=>(vX r).map (n::·)
  |_=>none
def Nq:∀{ns:List Nm},vX ts=some ns→ts=ns.map .v:=by
 induction ts with
 |nil=>exact fun h=>aT h▸rfl
 |cons t r ih=>
  intro ns h
  cases t with
  |v n=>exact bW h fun l hl e=>e▸aa _ (ih hl)
  |_=>exact nn h
noncomputable def gT(kd:Str→Option NameKind)(ts:List Expr):List Str:=ts.filterMap fun
 |.Name id pos=>if kd id==some .local&&pos.line==(ts.head?.map (·.pos.line)).getD 0 then some id else none
 |_=>none
noncomputable def tN(kd:Str→Option NameKind)(ts vs:List Expr):Nat:=
 bif !(ts.length==2||ts.length==3)||vs.length != ts.length then 0
 else bif (gT kd ts).length != ts.length||(gT kd ts).eraseDups.length != (gT kd ts).length then 0
 else bif vs.all (foldedForSure 8) then 0 else bif vs.all (constantsAlone 8) then 1 else 2
def Eg(sc:Sc)(ps:Ps)(l:List (Nm×Nat))(q:Pos):T→Bool
 |.v n=>sc.lookup n.s==some .cell||(sc.lookup n.s==some .local)&&(((hd ps).line==q.line) && !((ie l).names.any fun x=>x.1==n.s&&(x.2 == .local||x.2 == .cell)))
 |_=>true
def zI (sc:Sc)(ts:List T)(ts' vs':List Expr):Bool:=match tN (fun x=>sc.lookup x) ts' vs' with
 |0=>true
 |1=>false
 |_=>match vX ts with
  |none=>false
  |some ns=>(gT (fun x=>sc.lookup x) ts'==ns.map (·.s))&&(decide ns.Nodup&&ns.all fun n=>sc.lookup n.s==some .local)
def Nr (sc:Sc)(t:T)(ps:Ps):E→Ps→Bool
 |.comp _ _ _ _ _ l,qs=>Eg sc ps l (hd qs) t
 |.tup es,qs=>match t with
  |.tup ts=>zI sc ts (jl ts (tl ps)).1 (toL es (tl qs)).1
  |_=>true
 |_,_=>true
noncomputable def tO:E→Bool
 |.comp _ _ _ _ _ _=>false
 |_=>true
def nG (sc:Sc)(x:Ex):Bool:=jX sc (aS x.txt)
mutual
def Eh (sc:Sc):S→Ps→Bool
 |.asg t e,ps=>mG sc t (tl ps)&&(b8 sc e (toT t (tl ps)).2&&Nr sc t (tl ps) e (toT t (tl ps)).2)
 |.aug t _ e,ps=>mG sc t (tl ps)&&b8 sc e (toT t (tl ps)).2
 |.ex e,ps=>tO e&&b8 sc e (tl ps)
 |.ret e,ps=>b8 sc e (tl ps)
 |.qZ,_=>true
 |.ite c a b,ps=>b8 sc c (tl ps)&&(mQ sc a (ay c (tl ps)).2&&mQ sc b (dj a (ay c (tl ps)).2).2)
 |.lJ c b,ps=>b8 sc c (tl ps)&&mQ sc b (ay c (tl ps)).2
 |.c7 t it b,ps=>mG sc t (tl ps)&&(zd sc it (toT t (tl ps)).2&&((!it.iu||t.isTup)&&mQ sc b (jR it (toT t (tl ps)).2).2))
 |.raise x _,_=>nG sc x
 |.sO b x _,ps=>mQ sc b (tl (tl (tl ps)))&&nG sc x
 |.sQ b x _ y _,ps=>mQ sc b (tl (tl (tl (tl (tl ps)))))&&(nG sc x&&nG sc y)
 |.del e i,ps=>b8 sc e (tl (tl ps))&&b8 sc i (ay e (tl (tl ps))).2
 |_,_=>true
def mQ (sc:Sc):List S→Ps→Bool
 |[],_=>true
 |m::ms,ps=>Eh sc m ps&&mQ sc ms (toS m ps).2
end
structure oU(sc:Sc)(f:FC):Prop where
 all:∀x,f.env.kindOf x=sc.lookup x
 top:∃r,f.frs=f.env::r
def oU.km(k:oU sc f):KM sc f.env:=⟨fun{x} h=>(k.all x).trans h,fun{x} h=>(k.all x).trans h,fun{x} h => .inr ((k.all x).trans h),fun{x} h=>(k.all x).trans h⟩
def Nu(h:tO e=true):swapsWithSole [t] (ay e qs).1 line env=pure false:=by
 cases e <;> first | rfl | exact ft h
def Xa(h:∀n,t ≠ .v n)(hv:v = .ListComp a gs sc q):swapsWithSole [(toT t ps).1] v line env=pure false:=by
 subst hv
 cases t with
 |v n=>exact absurd rfl (h n)
 |_=>rfl
def Nv(h:(∀es,e ≠ .tup es)∨∀ts,t ≠ .tup ts):swappedStores [(toT t ps).1] (ay e qs).1 env=pure none:=by
 cases t with
 |tup ts=>
  cases e with
  |tup es=>exact h.elim (fun h=>absurd rfl (h es)) fun h=>absurd rfl (h ts)
  |_=>rfl
 |_=>rfl
def Ny:∀{ps:Ps},((toL es ps).1.any fun | .Starred .. => true | _=>false)=false:=by
 induction es with
 |nil=>exact rfl
 |cons e r ih=>exact fun{ps}=>(show((toL (e::r) ps).1.any fun | .Starred .. => true | _=>false)=((toL r (ay e ps).2).1.any fun | .Starred .. => true | _=>false) by cases e <;> rfl).trans ih
def Nz(hb:env.blockKind = .function):
  (tN env.kindOf ts (toL es qs).1=0→swappedStores [.Tuple ts 0 q] (.Tuple (toL es qs).1 0 q') env=pure none) ∧
  (2≤tN env.kindOf ts (toL es qs).1→swappedStores [.Tuple ts 0 q] (.Tuple (toL es qs).1 0 q') env=pure (some (gT env.kindOf ts))):=by
 unfold swappedStores tN
 rw[hb]
 change (_→(if(_||false)=true then pure none else if _=true then pure none else if((gT env.kindOf ts).length != ts.length||(gT env.kindOf ts).eraseDups.length != (gT env.kindOf ts).length)=true then pure none else if _=true then pure none else if _=true then(do let _ ←_;pure (some (gT env.kindOf ts))) else pure (some (gT env.kindOf ts)))=_)∧(_→(if(_||false)=true then pure none else if _=true then pure none else if((gT env.kindOf ts).length != ts.length||(gT env.kindOf ts).eraseDups.length != (gT env.kindOf ts).length)=true then pure none else if _=true then pure none else if _=true then(do let _ ←_;pure (some (gT env.kindOf ts))) else pure (some (gT env.kindOf ts)))=_)
 rw[Bool.or_false]
 generalize hst:(List.any (toL es qs).1 _)=c2
 have h2:c2=false:=hst.symm.trans Ny
 clear hst
 subst h2
 generalize (!(ts.length==2||ts.length==3)||(toL es qs).1.length != ts.length)=c1
 generalize ((gT env.kindOf ts).length != ts.length||(gT env.kindOf ts).eraseDups.length != (gT env.kindOf ts).length)=c3
 generalize (toL es qs).1.all (foldedForSure 8)=c4
 generalize (toL es qs).1.all (constantsAlone 8)=c5
 cases c1 <;> cases c3 <;> cases c4 <;> cases c5 <;> exact⟨fun h=>(by first | rfl | cases h),fun h=>(by first | rfl | exact absurd h (by decide))⟩
def oV(lv:Lv):List (Nm×V)→Lv
 |[]=>lv
 |q::r=>oV (aB lv q.1 q.2) r
theorem vY:∀{l:List (Nm×V)} {lv:Lv},m∉l.map (·.1)→aF (oV lv l) m=aF lv m
 |[],_,_=>rfl
 |q::r,lv,h=>by
  have h':=not_or.mp fun x=>h (cS.mpr x)
  exact(vY (l:=r) h'.2).trans (rq h'.1)
theorem zJ:∀{l:List (Nm×V)} {lv:Lv},(l.map (·.1)).Nodup→(m,x)∈l→aF (oV lv l) m=some x
 |q::r,lv,nd,h=>by
  obtain⟨n1,n2⟩:=fO.mp nd
  cases h with
  |head=>exact(vY n1).trans (oz)
  |tail _ h=>exact zJ (l:=r) n2 h
def NC(nd:(l.map (·.1)).Nodup)(m:Nm):aF (oV lv l) m=aF (oV lv l.reverse) m:=by
 have vp:(l.reverse.map (·.1)).Nodup:=by rw[List.map_reverse];exact(List.reverse_perm _).nodup_iff.mpr nd
 by_cases h:m∈l.map (·.1)
 ·obtain⟨q,hq,e⟩:=bP.mp h
  subst e
  rw[zJ nd hq,zJ vp (List.mem_reverse.mpr hq)]
 ·rw[vY h,vY (by rw[List.map_reverse,List.mem_reverse];exact h)]
def Ei (W:Wd):Fl→Flow→Prop
 |.next,a=>a = .next
 |.ret v,a=>∃cv,a = .ret cv∧aD W v cv
 |.exc _,_=>False
inductive KF(p:PC)(f:FC)(Q:QF)(a:Flow)(W:Wd)(s:Shared):Prop
 |mk (fl:Fl) (lv:Lv) (σ:St) (I:Inv p f W lv σ s) (r:Ei W fl a) (q:Q fl lv σ)
inductive oW(p:PC)(f:FC)(Q:QF)(e:Value)(W:Wd)(s:Shared):Prop
 |mk (x:Ex) (lv:Lv) (σ:St) (I:Inv p f W lv σ s) (r:gS p W x e s.heap) (q:Q (.exc x) lv σ)
abbrev cP(p:PC)(f:FC)(W:Wd)(s:Shared)(t:Sem Flow)(Q:QF):Prop:=Ev p.M f.A W s t (KF p f Q) (oW p f Q)
structure Fs(p:PC)(n:Nat)(f:FC)(sc:Sc):Prop where
 ok:bA p f
 lv:n+1≤f.lvl
 km:oU sc f
 own:f.own=true
def Fs.ft(g:Fs p n f sc):Ft p n f sc:=⟨g.ok,g.lv,g.km.km,fun _=>g.own⟩
section
def Ev.fx{t:Sem α}{K:α→Wd→Shared→Prop}(h:Ev p.M f.A W s t K (KX p f lv fun x σ=>Q (.exc x) lv σ)):Ev p.M f.A W s t K (oW p f Q):=h.mono (fun _ _ _ _ k=>k) fun _ _ _ k=>k.casesOn fun σ x I r q=>⟨x,lv,σ,I,r,q⟩
theorem cP.val(I:Inv p f W lv σ s)(r:Ei W fl a)(q:Q fl lv σ):cP p f W s (pure a) Q:=Ev.val ⟨fl,lv,σ,I,r,q⟩
theorem cP.next(I:Inv p f W lv σ s)(q:Q .next lv σ):cP p f W s (pure .next) Q:=cP.val (fl := .next) I rfl q
def cP.seq(h:cP p f W s t (dX k Q))(c:∀{W' s' lv σ},Step W s W' s'→Inv p f W' lv σ s'→k lv σ→cP p f W' s' g Q):cP p f W s (t>>=fun a=>match a with | .next=>g | a=>pure a) Q:=
 ai (bF h (fun a s' k=>k.casesOn fun W' st k=>k.casesOn fun fl lv σ I r q=>by
  cases fl with
  |next=>exact(r:a = .next)▸Ev.to st (c st I q)
  |ret v=>
   obtain⟨cv,rfl,rv⟩:=r
   exact aV ⟨W',st,.ret v,lv,σ,I,⟨cv,rfl,rv⟩,q⟩
  |exc x=>exact r.elim) fun e s' k=>k.casesOn fun W' st k=>k.casesOn fun x lv σ I r q=>⟨W',st,x,lv,σ,I,r,q⟩)
def Ej(I:Inv p f W lv σ s){a b x:V}{Q:QV}(ra:aD W a ca)(rb:aD W b cb)(h:pU o a b=some x)(w:Q x σ):Ev p.M f.A W s (inplaceOp (pW o) ca cb) (KV p f lv Q) X:=by
 cases o with
 |add=>exact aX h fun i e1 h=>bW h fun j e2 e=>cM ra e1 fun t=>cM rb e2 fun u=>of <| PySem.AutoIntOps.iadd_0 (.now I w (e▸⟨_,rfl⟩))
 |sub=>exact aX h fun i e1 h=>bW h fun j e2 e=>cM ra e1 fun t=>cM rb e2 fun u=>of <| PySem.AutoIntOps.isub_0 (.now I w (e▸⟨_,rfl⟩))
 |_=>exact nn h
def Ev.zK{t:Sem Unit}{K:St→Prop}(h:Ev p.M f.A W s t (KU p f lv K) (oW p f Q))(hf:∀{W' σ s'},Inv p f W' lv σ s'→K σ→cP p f W' s' g Q):cP p f W s (holding vs t>>=fun _=>PySem.release ws []>>=fun _=>g) Q:=
 (Ev.aU h).bindR fun st I _ q=>Ev.release (hf I q)
end
section
abbrev SS(p:PC)(cx:Cx)(n:Nat)(m:S):Prop:=∀{ps:Ps} {sc:Sc} {f:FC} {lv:Lv} {W:Wd} {σ:St} {s:Shared} {Q:QF},Fs p n f sc→Eh sc m ps=true→Inv p f W lv σ s→wS cx m lv σ Q→cP p f W s (exec (toS m ps).1 f.env) Q
abbrev SB(p:PC)(cx:Cx)(n:Nat)(ms:List S):Prop:=∀{ps:Ps} {sc:Sc} {f:FC} {lv:Lv} {W:Wd} {σ:St} {s:Shared} {Q:QF},Fs p n f sc→mQ sc ms ps=true→Inv p f W lv σ s→wB cx ms lv σ Q→cP p f W s (execs (dj ms ps).1 f.env) Q
def plainKind(ok:bA p f):interactive f.env=false:=by unfold interactive;rw[ok.kind];rfl
def Ek(ok:bA p f):f.env.blockKind = .function:=by unfold Env.blockKind;rw[ok.kind];rfl
def mR(P:aO p)(C:eg p cx n)(g:Fs p n f sc)(h:b8 sc e ps=true)(I:Inv p f W lv σ s)(w:wE cx e lv σ Q fun x σ=>Q' (.exc x) lv σ):
  Ev p.M f.A W s (eval (ay e ps).1 f.env) (KV p f lv Q) (oW p f Q'):=((sE P C e).1 g.ft h I w).fx
def NF:SS p cx n .pass:=fun{ps sc f lv W σ s Q} g h I w => .re (arm_exec_Pass ..) (Ev.stand (cP.next I w))
def NG:SS p cx n .qZ:=fun{ps sc f lv W σ s Q} g h I w => .re (arm_exec_Return ..) (Ev.stand (cP.val (fl := .ret .none) I ⟨_,rfl,rfl⟩ w))
def NH(P:aO p)(C:eg p cx n):SS p cx n (.ret e):=fun{ps sc f lv W σ s Q} g h I w => .re (arm_exec_Return ..) (Ev.stand ((mR P C g h I w).bindR fun{cv _ _ _ v} st1 I1 r1 w=>cP.val (fl := .ret v) I1 ⟨cv,rfl,r1⟩ w))
def NI(h:tO e=true):swapsWith (ay e ps).1 none line env=pure false:=by cases e <;> first | rfl | exact ft h
def NJ(P:aO p)(C:eg p cx n):SS p cx n (.ex e):=fun{ps sc f lv W σ s Q} g h I w=>by
 refine .re (arm_exec_Expr ..) ?_
 rw[plainKind g.ok,NI (aE h).1]
 exact Ev.stand (.f7 (fun Q E x=>ai (aV x)) ((mR P C g (aE h).2 I w).bindR fun st1 I1 r1 w=>of <| wpAny_dropValue (.here ⟨.next,_,_,I1,rfl,w⟩)))
def NK(P:aO p)(C:eg p cx n)(h1:SB p cx n a)(h2:SB p cx n b):SS p cx n (.ite c a b):=fun{ps sc f lv W σ s Q} g h I w=>
 .re (arm_exec_If ..) (Ev.stand (((sE P C c).2 g.ft (aE h).1 I w).fx.bindR fun{c W1 s1 σ1 b} st1 I1 r1 w=>by
  subst r1
  cases c with
  |true=>exact h1 g (aE (aE h).2).1 I1 w
  |false=>exact h2 g (aE (aE h).2).2 I1 w))
def El:SB p cx n []:=fun{ps sc f lv W σ s Q} g h I w => .re (arm_execs_nil ..) (cP.next I w)
def Em(h1:SS p cx n m)(h2:SB p cx n ms):SB p cx n (m::ms):=fun{ps sc f lv W σ s Q} g h I w=>
 .re (arm_execs_cons ..) (cP.seq (k:=fun lv σ=>wB cx ms lv σ Q) (h1 g (aE h).1 I w) fun st I' w=>h2 g (aE h).2 I' w)
def NL{K:St→Prop}(ok:bA p f)(I:Inv p f W lv σ s)(r:aD W v cv)(rk:aD W k ck)(h:yy σ v k=some σ')(q:K σ'):Ev p.M f.A W s (delItem cv ck) (KU p f lv K) X:=by
 refine aX h fun l el h=>aX h fun d hd h=>aX h fun i ei h=>?_
 obtain⟨hk,e⟩:=yD h
 obtain rfl:=aT e
 rw[pZ el] at r
 refine oK I r (B4 hd) fun a kvs hl g rr z=>cM rk ei fun u=>?_
 refine Ev.aU ?_
 refine ai (Mine.Internal.of <| wpAny_sequenceKey g.typeIs (by decide) ?_)
 refine ai (Mine.Internal.of <| wpAny_callSpecial?_slot (name:=Str.ofString "__delitem__") g.typeIs PySem.F.slot_dict_delitem
  (call_meetsIn PySem.F.slot_dict_delitem g.typeIs PySem.F.entry_dict_delitem (PySem.F.args_dict_delitem_2 _ _) (meets_dict_delitem_pairs (PySem.intKind p.prog p.w) a.1 (k:=i) oM) ⟨kvs,g,gM (aH (cT rr.length) z),(rr.vf oG (n:=i):(valueAt kvs i).isSome=_).trans hk,fun h' g' hs=>?_⟩))
 exact aV (PK.tD ok I hl q hs (DictOf.there g') ⟨_,g',DS rr (DictOf.nodup g),aH DT z⟩)
def NN(P:aO p)(C:eg p cx n):SS p cx n (.del e i):=fun{ps sc f lv W σ s Q} g h I w=>by
 refine .re (arm_exec_Delete ..) (Ev.stand ?_)
 rw[arm_deleteEach_cons,arm_deleteEach_nil,arm_delete_Subscript]
 simp only [bind_assoc]
 exact(mR P C g (aE h).1 I w).bindR fun st1 I1 r1 w=>(Ev.aU (mR P C g (aE h).2 I1 w)).bindR fun st2 I2 r2 w=>Ev.stand (bR w fun σ' hs w=>Ev.zK (NL g.ok I2 (r1.le st2.le) r2 hs w) fun I3 w => .f7 (fun Q E x=>ai (aV x)) (cP.next I3 w))
def NO(P:aO p)(C:eg p cx n){o:Bo}:SS p cx n (.aug (.v nm) o e):=fun{ps sc f lv W σ s Q} g h I w=>by
 obtain⟨h1,h2⟩:=aE h
 have hv:=(l8.mp h1).imp eq_of_beq eq_of_beq
 have hk:vm (f.env.kindOf nm.s):=hv.elim (fun e => .inl (g.km.km.l e)) fun e => .inr (.inl (g.km.km.c e))
 exact .re (arm_exec_AugAssign ..) (Ev.stand (bR w fun a ha w=>(CR P g.ok I hk ha w).bindR fun st1 I1 r1 w=>(Ev.aU (mR P C g h2 I1 w)).bindR fun st2 I2 r2 w=>Ev.stand ((Ev.op (bR w fun x hx w=>Ej I2 (r1.le st2.le) r2 hx w)).bindR fun st3 I3 r3 w=>
  Ev.stand ((zF (K:=fun lv σ=>Q .next lv σ) g.ok P g.km.km (fun _=>g.own) I3 r3 hv w).bind fun _ W4 s4 iX k=>k.casesOn fun vZ rP I4 w=>cP.next I4 w))))
def En(P:aO p)(C:eg p cx n){lv:Lv}{t:Sem Value}(g:Fs p n f sc)(h:b8 sc e ps=true)
  (T:Ev p.M f.A W s t (KV p f lv fun a σ=>wE cx e lv σ (fun b σ=>aQ (pU o a b) fun x=>Qx x σ) fun x σ=>Q (.exc x) lv σ) (oW p f Q)):
  Ev p.M f.A W s (t>>=fun old=>holding [old] (eval (ay e ps).1 f.env)>>=fun w=>standAt pos>>=fun _=>operate [old,w] (inplaceOp (pW o) old w)) (KV p f lv Qx) (oW p f Q):=
 T.bindR fun st2 I2 r2 w=>(Ev.aU (mR P C g h I2 w)).bindR fun st3 I3 r3 w=>Ev.stand (Ev.op (bR w fun x hx w=>Ej I3 (r2.le st3.le) r3 hx w))
def NP(P:aO p)(C:eg p cx n){o:Bo}:SS p cx n (.aug (.at e1 nm) o e):=fun{ps sc f lv W σ s Q} g h I w=>by
 obtain⟨h1,h2⟩:=aE h
 refine .re (arm_exec_AugAssign_2 ..) (Ev.stand ((mR P C g h1 I w).bindR fun{cv W1 s1 σ1 v} st1 I1 r1 w=>?_))
 have t1:=En (o:=o) (pos:=hd ps) (t:=getAttr cv nm.s true) (Q:=Q) (Qx:=fun x σ=>aQ (gC σ v nm x) fun σ=>Q .next lv σ) P C g h2 (bR w fun a ha w=>CJ rfl P I1 r1 ha w)
 exact Ev.bindR (R:=RV) (Q:=fun x σ=>aQ (gC σ v nm x) fun σ=>Q .next lv σ) (Ev.aU (Ev.stand t1)) fun st2 I2 r2 w=>Ev.stand (bR w fun σ' hs w=>Ev.zK (CK (Q:=fun σ=>Q .next lv σ) g.ok P I2 (r1.le st2.le) r2 hs w) fun I3 w=>cP.next I3 w)
def NQ(P:aO p)(C:eg p cx n){o:Bo}:SS p cx n (.aug (.ix e1 i) o e):=fun{ps sc f lv W σ s Q} g h I w=>by
 obtain⟨h1,h2⟩:=aE h
 refine .re (arm_exec_AugAssign_3 ..) (Ev.stand ((mR P C g (aE h1).1 I w).bindR fun{cv W1 s1 σ1 v} st1 I1 r1 w=>(Ev.aU (mR P C g (aE h1).2 I1 w)).bindR fun{ci W2 s2 σ2 iv} st2 I2 r2 w=>
  ?_))
 have t1:=En (o:=o) (pos:=hd ps) (t:=getItem cv ci) (Q:=Q) (Qx:=fun x σ=>aQ (fQ σ v iv x) fun σ=>Q .next lv σ) P C g h2 (bR w fun a ha w=>J1 P I2 (r1.le st2.le) r2 ha w)
 refine Ev.bindR (R:=RV) (Q:=fun x σ=>aQ (fQ σ v iv x) fun σ=>Q .next lv σ) (Ev.aU (Ev.stand t1)) fun st3 I3 r3 w=>Ev.stand ?_
 rw[Ky]
 exact bR w fun σ' hs w=>Ev.zK (C0 (Q:=fun σ=>Q .next lv σ) g.ok P I3 ((r1.le st2.le).le st3.le) (r2.le st3.le) r3 hs w) fun I4 w=>cP.next I4 w
def NR(P:aO p)(C:eg p cx n):SS p cx n (.aug t o e):=by
 cases t with
 |v m=>exact NO P C
 |«at» e1 m=>exact NP P C
 |ix e1 i=>exact NQ P C
 |tup ts=>exact fun{ps sc f lv W σ s Q} g h I w=>w.elim
end
noncomputable def E.isTup:E→Bool
 |.tup _=>true
 |_=>false
section
def NS{K:QL}{ns:List Nm}:∀{xs:List V} {lv:Lv},ns.length=xs.length→sY cx (ns.map .v) xs lv σ K→K (oV lv (ns.zip xs)) σ:=by
 induction ns with
 |nil=>
  intro xs lv h w
  cases xs with
  |nil=>exact w
  |cons _ _=>cases h
 |cons n ns ih=>
  intro xs lv h w
  cases xs with
  |nil=>cases h
  |cons x xs=>exact ih (lv:=aB lv n x) (Nat.succ.inj h) w
def NT(P:aO p)(g:Fs p n f sc):∀{bS:List Value} {W:Wd} {lv:Lv} {s:Shared} {K:QL} {X:QW},(∀q∈l,sc.lookup q.1.s=some .local)→Inv p f W lv σ s→aN W (l.map (·.2)) bS→K (oV lv l) σ →
  Ev p.M f.A W s (assignInOrder (l.map fun q=>bindName f.env q.1.s) bS) (KA p f K) X:=by
 induction l with
 |nil=>exact fun _ I r w=>r▸Ev.val ⟨_,σ,I,w⟩
 |cons q l ih=>
  intro bS W lv s K X h I r w
  exact gk r fun cv bS rv rr=>(Ev.aU (zF (K:=fun lv' σ'=>lv'=aB lv q.1 q.2∧σ'=σ) g.ok P g.km.km (fun _=>g.own) I rv (.inl (h q (.head _))) ⟨rfl,rfl⟩)).bind fun _ W1 s1 st1 k=>k.casesOn fun oS σ1 I1 e=>by
   obtain⟨rfl,rfl⟩:=e
   exact ih (fun q hq=>h q (.tail _ hq)) I1 (rr.le st1.le) w
def Inv.NU(I:Inv p f W lv σ s)(h:∀n,aF lv' n=aF lv n):Inv p f W lv' σ s:=
 ⟨I.aC,I.pins,I.loc,I.cell,I.vars.imp fun m x=>⟨x.1,fun n y hy=>x.2 n y ((h n).symm.trans hy)⟩,I.var,I.cells,I.frs,I.above⟩
theorem aN.reverse:∀{vs:List Value},aN W l vs→aN W l.reverse vs.reverse:=by
 induction l with
 |nil=>exact fun r=>r ▸ .nil
 |cons x l ih=>
  refine fun r=>gk r fun v vs a b=>?_
  rw[List.reverse_cons,List.reverse_cons]
  exact aN.append (.cons a .nil) (ih b)
def NV(P:aO p)(g:Fs p n f sc){ns:List Nm}{v:V}{st:List (Value→Sem Unit)}(nd:ns.Nodup)(hl:∀n∈ns,sc.lookup n.s=some .local)(I:Inv p f W lv σ s)(r:aD W v cv)(w:wA cx (.tup (ns.map .v)) v lv σ fun lv σ=>Q .next lv σ):
  cP p f W s (assignStores f.env cv (some (ns.map (·.s))) st) Q:=by
 refine bR w fun vs e w=>?_
 rw[BY e] at r
 have hz:ns.length=vs.length:=((cH w.1).trans (bJ _)).symm
 have zL:(ns.zip vs).map (·.1)=ns:=by rw[List.map_fst_zip];exact cT hz
 have NW:(ns.zip vs).map (·.2)=vs:=by rw[List.map_snd_zip];exact cT hz.symm
 refine .f7 (fun Q E x=>ai (vc x)) ?_
 rw[bJ]
 refine Ev.bindR (Q:=fun vs' σ'=>vs'=vs∧σ'=σ) (DX g.ok I r hz.symm ⟨rfl,rfl⟩) fun{bS W1 s1 σ1 v5} st1 I1 r1 q=>?_
 obtain⟨rfl,rfl⟩:=q
 have t:=NT P g (l:=(ns.zip v5).reverse) (bS:=bS.reverse) (K:=fun lv' σ'=>(∀m,aF (oV lv (ns.zip v5)) m=aF lv' m)∧σ'=σ1) (X:=oW p f Q) (fun q hq=>hl _ (zL▸List.mem_map_of_mem (List.mem_reverse.mp hq))) I1 (by rw[List.map_reverse,NW];exact r1.reverse) ⟨fun m=>NC (zL.symm▸nd) m,rfl⟩
 have e:((ns.zip v5).reverse.map fun q=>bindName f.env q.1.s)=((ns.map (·.s)).reverse.map fun n=>bindName f.env n):=by
  conv=>rhs;rw[←zL]
  rw[gh,←List.map_reverse,gh];rfl
 rw[e] at t
 exact t.bind fun _ W2 s2 st2 k=>k.casesOn fun jr σ2 I2 q=>cP.next (I2.NU q.1) (q.2▸NS (K:=fun lv σ=>Q .next lv σ) (xs:=v5) hz w.2)
end
section
variable{m:Nm}
def Eo(P:aO p)(C:eg p cx n)(g:Fs p n f sc)(h:mG sc t ps=true)(I:Inv p f W lv σ s)(r:aD W v cv)(w:wA cx t v lv σ fun lv σ=>Q .next lv σ):
  cP p f W s (assignStores f.env cv none ((assignEach [(toT t ps).1] f.env).map (·.2))) Q:=by
 rw[show assignEach [(toT t ps).1] f.env=[(false,assign (toT t ps).1 f.env)] by cases t <;> rfl]
 exact Ev.bind (K:=KA p f fun lv σ=>Q .next lv σ) (sT P C t g.ft h I r w) fun _ W1 s1 st1 k=>k.casesOn fun oS σ1 I1 w=>cP.next I1 w
def Ep(P:aO p)(C:eg p cx n)(g:Fs p n f sc)(h2:b8 sc e qs=true)(I:Inv p f W lv σ s)(hu:swapsWithSole [(toT t ps).1] (ay e qs).1 pos.line f.env=pure false)(w:wE cx e lv σ (fun v σ=>wA cx t v lv σ fun lv σ=>Q .next lv σ) fun x σ=>Q (.exc x) lv σ)
  (hs:∀{W1 σ1 s1 cv v},Inv p f W1 lv σ1 s1→aD W1 v cv→(wA cx t v lv σ1 fun lv σ=>Q .next lv σ)→cP p f W1 s1 (swappedStores [(toT t ps).1] (ay e qs).1 f.env>>=fun sw=>assignStores f.env cv sw ((assignEach [(toT t ps).1] f.env).map (·.2))) Q):
  cP p f W s (exec (.Assign [(toT t ps).1] (ay e qs).1 pos) f.env) Q:=by
 refine .re (arm_exec_Assign ..) (Ev.stand ?_)
 rw[hu]
 exact .f7 (fun Q E x=>ai (aV x)) ((mR P C g h2 I w).bindR fun st1 I1 r1 w=>hs I1 r1 w)
def v7(P:aO p)(C:eg p cx n)(g:Fs p n f sc)(h1:mG sc t ps=true)(h2:b8 sc e qs=true)(I:Inv p f W lv σ s)(hu:swapsWithSole [(toT t ps).1] (ay e qs).1 pos.line f.env=pure false)(w:wE cx e lv σ (fun v σ=>wA cx t v lv σ fun lv σ=>Q .next lv σ) fun x σ=>Q (.exc x) lv σ)
  (hs:(∀es,e ≠ .tup es)∨∀ts,t ≠ .tup ts):cP p f W s (exec (.Assign [(toT t ps).1] (ay e qs).1 pos) f.env) Q:=
 Ep P C g h2 I hu w fun{W1 σ1 s1 cv v} I1 r1 w=>by
  rw[Nv hs]
  exact .f7 (fun Q E x=>ai (aV x)) (Eo P C g h1 I1 r1 w)
def NX(g:Fs p n f sc)(hu:((sc.lookup m.s==some .local)&&(((hd ps).line==q.line) && !((ie l).names.any fun x=>x.1==m.s&&(x.2 == .local||x.2 == .cell))))=true):
  swapsWithSole [(toT (.v m) ps).1] (.ListComp a gs (ie l) q) line f.env=pure true:=by
 obtain⟨h1,h⟩:=aE hu
 obtain⟨h2,h3⟩:=aE h
 show(pure (f.env.blockKind == .function&&f.env.kindOf m.s==some .local&&(hd ps).line==q.line && !((ie l).names.any fun x=>x.1==m.s&&(x.2 == .local||x.2 == .cell))):Sem Bool)=pure true
 rw[Ek g.ok,g.km.all,h1,h2,h3];rfl
def NY(g:Fs p n f sc)(hu:sc.lookup m.s=some .cell):
  swapsWithSole [.Name m.s (hd ps)] (.ListComp a gs (ie l) q) line f.env=pure false:=by
 show(pure (f.env.blockKind == .function&&f.env.kindOf m.s==some .local&&(hd ps).line==q.line && !((ie l).names.any fun x=>x.1==m.s&&(x.2 == .local||x.2 == .cell))):Sem Bool)=pure false
 rw[g.km.all,hu]
 exact aa pure (by cases f.env.blockKind == .function <;> rfl)
def NZ{Q:QV}(I:Inv p f W lv σ s)(st:Step W₀ s₀ W s)(h0:s₀.heap.get? a=none)(na:W.aC a=none)(ha:s.heap.get? a=some (jm items k))(r:aN W vs items)(hz:vs.length≤bz)(w:newL z vs σ Q)(hb:b≠a)(nb:W.aC b=none):
  ∃W' σ' v,Step W₀ s₀ W' s∧W'.aC b=none∧Inv p f W' lv σ' s∧aD W' v (.ref a)∧Q v σ':=by
 cases z with
 |false=>exact w.elim fun l w=>⟨_,_,_,st.own I na na w.2.1 h0 h0,(vj fun h=>h.elim hb hb).trans nb,I.own (c := .list vs) na na ⟨_,ha⟩ ⟨_,ha⟩ w.2.1 fun le=>⟨items,k,ha,r.le le,hz⟩,.own,w.2.2⟩
 |true=>exact⟨_,σ,.fl vs,st.put (r := .pin (jm items k)) na h0,(Wd.vh hb).trans nb,I.put na ha rfl,⟨a,items,rfl,⟨k,Wd.qf⟩,hz,r.le (Wd.qe na).le⟩,w⟩
def N3(P:aO p)(C:eg p cx n)(hu:Eg sc ps l (hd qs) t=true)(g:Fs p n f sc)(h1:mG sc t ps=true)(h2:b8 sc (.comp z e tt it cs l) qs=true)(I:Inv p f W lv σ s)
  (w:wE cx (.comp z e tt it cs l) lv σ (fun v σ=>wA cx t v lv σ fun lv σ=>Q .next lv σ) fun x σ=>Q (.exc x) lv σ):cP p f W s (exec (.Assign [(toT t ps).1] (ay (.comp z e tt it cs l) qs).1 pos) f.env) Q:=by
 cases t with
 |v m=>
  rcases l8.mp hu with hu | hu
  ·exact v7 P C g h1 h2 I (NY g (eq_of_beq hu)) w (.inl fun es x=>Bool.noConfusion (aa E.isTup x))
  have hl:=eq_of_beq (aE hu).1
  refine .re (arm_exec_Assign ..) (Ev.stand ?_)
  rw[show swapsWithSole [(toT (.v m) ps).1] (ay (.comp z e tt it cs l) qs).1 pos.line f.env=pure true from NX g hu]
  refine .f7 (fun Q E x=>ai (aV x)) (.re ?_ (Ev.fx (DB (pos:=firstIterPos [⟨(toT tt (ay e (tl qs)).2).1,(jR it (toT tt (ay e (tl qs)).2).2).1,(toL cs (jR it (toT tt (ay e (tl qs)).2).2).2).1,0⟩] (hd qs)) (use:=some (assign (.Name m.s (hd ps)) f.env)) (K:=fun _ W s=>KF p f Q .next W s) P (sI P C it) (sE P C e).1 (sT P C tt) (fun c hc=>(sE P C c).2) g.ft h2 I w fun{W' σ' s' D C vs items k} L q=>?_) |>.bind fun _ W1 s1 st1 k=>Ev.val k))
  ·show((comprehension _ _ _ _ _ _ _ (some fun v=>assign (.Name m.s (hd ps)) f.env v)>>=fun _=>pure ())>>=fun _=>pure Flow.next)=_
   simp only [bind_assoc,pure_bind]
   rfl
  ·obtain⟨W2,σ2,v,st2,nC,I2,rv,q⟩:=NZ L.inv L.st L.fD L.nD L.eD L.rr L.z q L.ne.symm L.nC
   refine cps fun C9 k9=>?_
   obtain⟨mC,N4⟩:=L.ns
   obtain⟨mm,hm,_⟩:=I2.vars
   refine k9 ?_
   show av p.M f.A (assign (.Name m.s (hd ps)) f.env (.ref D)) _ _ s'
   rw[arm_assign_Name]
   have N5:C≠f.env.locals:=fun e=>bU (e▸nC) I2.var
   refine ai (iV (Ci (Mine.Internal.of <| wpAny_storeName_local (g.km.km.l hl) hm (fun h' hn hs=>?_) (by rw[g.ok.kind];rfl))))
   have T:=I2.CN (tk:=s'.toks+1) P.inj g.ok hm hn hs (g.km.km.l hl) rv
   refine⟨mC,N4.sameBut hs N5,fun h2 hs2=>?_⟩
   have kk:∀b o,b≠C→b≠C→h'.get? b=some o→h2.get? b=some o:=fun b o n _ e=>(hs2.2 b n).trans e
   exact⟨W2,(st2.trans T.2).off L.fC L.fC kk rfl rfl,.next,_,σ2,T.1.off nC nC kk,rfl,q⟩
 |_=>exact v7 P C g h1 h2 I rfl w (.inl fun es x=>Bool.noConfusion (aa E.isTup x))
def N6(P:aO p)(C:eg p cx n){es:List E}(g:Fs p n f sc)(h1:mG sc (.tup ts) ps=true)(h2:b8 sc (.tup es) qs=true)(h3:zI sc ts (jl ts (tl ps)).1 (toL es (tl qs)).1=true)(I:Inv p f W lv σ s)
  (w:wE cx (.tup es) lv σ (fun v σ=>wA cx (.tup ts) v lv σ fun lv σ=>Q .next lv σ) fun x σ=>Q (.exc x) lv σ):cP p f W s (exec (.Assign [(toT (.tup ts) ps).1] (ay (.tup es) qs).1 pos) f.env) Q:=by
 refine Ep (t := .tup ts) (e := .tup es) P C g h2 I rfl w fun{W1 σ1 s1 cv v} I1 r1 w=>?_
 have hk:f.env.kindOf=fun x=>sc.lookup x:=funext g.km.all
 obtain⟨e0,e2⟩:=Nz (es:=es) (qs:=tl qs) (ts:=(jl ts (tl ps)).1) (q:=hd ps) (q':=hd qs) (Ek g.ok)
 rw[hk] at e0 e2
 unfold zI at h3
 generalize hc:tN (fun x=>sc.lookup x) (jl ts (tl ps)).1 (toL es (tl qs)).1=c at h3 e0 e2
 match c,h3 with
 |0,_=>exact .re (aa (· >>= _) (e0 rfl)) (.f7 (fun Q E x=>ai (aV x)) (Eo P C g h1 I1 r1 w))
 |c+2,h3=>
  cases ha:vX ts with
  |none=>rw[ha] at h3;exact ft h3
  |some ns=>
   rw[ha] at h3
   obtain⟨k1,h⟩:=aE h3
   obtain⟨k2,k3⟩:=aE h
   refine .re (aa (· >>= _) (e2 (Nat.le_add_left 2 c))) (.f7 (fun Q E x=>ai (aV x)) ?_)
   rw[Nq ha] at w
   rw[eq_of_beq k1]
   exact NV P g (iD k2) (fun n hn=>eq_of_beq (jg.mp k3 n hn)) I1 r1 w
 |1,h3=>exact ft h3
noncomputable def Er:E→Bool
 |.tup _=>true
 |_=>false
def N7{C:Prop}(h:tO e=false):(∀z e' tt it cs l,e = .comp z e' tt it cs l→C)→C:=by
 cases e with
 |comp z e tt it cs l=>exact fun k=>k z e tt it cs l rfl
 |_=>exact Bool.noConfusion h
def N8{C:Prop}(h:Er e=true):(∀es,e = .tup es→C)→C:=by
 cases e with
 |tup es=>exact fun k=>k es rfl
 |_=>exact Bool.noConfusion h
def N9(P:aO p)(C:eg p cx n):SS p cx n (.asg t e):=fun{ps sc f lv W σ s Q} g h I w=>by
 obtain⟨h1,h⟩:=aE h
 obtain⟨h2,h3⟩:=aE h
 cases hn:tO e with
 |false=>
  refine N7 hn fun z e' tt it cs l q=>?_
  subst q
  exact N3 P C h3 g h1 h2 I w
 |true=>cases ht:Er e with
  |false=>exact v7 P C g h1 h2 I (Nu hn) w (.inl fun es x=>by rw[x] at ht;exact Bool.noConfusion ht)
  |true=>
   refine N8 ht fun es q=>?_
   subst q
   cases t with
   |tup ts=>exact N6 P C g h1 h2 h3 I w
   |_=>exact v7 P C g h1 h2 I rfl w (.inr fun ts x=>Bool.noConfusion (aa T.isTup x))
end
section
def Es{Q:α→Shared→Prop}{E:QQ}(h:av M A m Q bot s):av M A (m.onRaise fun x=>do noteFrame x env;theTreesLotGoes x) Q E s:=
 oE (bF h (fun _ _ x=>x) fun _ _ x=>x.elim)
def Oa(h:R (.ok .next) s):dM (model prog w) A (.block [] env) R s:=by
 refine kH rfl ?_
 show av _ _ ((execs [] env).onRaise (fun x=>do noteFrame x env;theTreesLotGoes x)>>=fun f=>pure (Fin.done f)) _ _ s
 rw[arm_execs_nil]
 exact ai (oE (aV (aV h)))
def Et(h:cP p f W s t (iI k Q))(hk:∀{W1 oS σ1 s1},Step W s W1 s1→Inv p f W1 oS σ1 s1→k oS σ1→F (.again c) s1)
  (hd:∀{W1 a s1},Step W s W1 s1→KF p f Q a W1 s1→F (.done a) s1):
  av p.M f.A (t>>=fun a=>match a with | .next | .cont=>PySem.again c | .brk=>pure (.done .next) | .ret v=>pure (.done (.ret v))) F bot s:=
 ai (bF h (fun a s1 k=>k.casesOn fun W1 st k=>k.casesOn fun fl lv σ I r q=>by
  cases fl with
  |next=>
   obtain rfl:a = .next:=r
   exact aV (hk st I q)
  |ret v=>
   obtain⟨cv,rfl,rv⟩:=r
   exact aV (hd st ⟨.ret v,lv,σ,I,⟨cv,rfl,rv⟩,q⟩)
  |exc x=>exact r.elim) fun _ _ k=>k.casesOn fun _ _ k=>k.casesOn fun _ _ _ _ _ q=>q)
inductive Eu(p:PC)(f:FC)(asg:V→Lv→St→QL→Prop)(b:Lv→St→QF→Prop)(Q:QF)(W₀:Wd)(s₀:Shared)(Ia J:Addr)(en:Bool)(n:Nat)(s:Shared):Prop
 |mk (W:Wd) (σ:St) (src:Src) (lv:Lv) (I:Inv p f W lv σ s) (g:Go W s₀ s Ia J src) (st:Step W₀ s₀ W s) (e:src.iu=true→en=true) (w:s6 asg b n src lv σ Q)
def Ob{en:Bool}(ok:bA p f)(P:aO p)
  (hT:∀{W lv σ s v cv K},Inv p f W lv σ s→aD W v cv→asg v lv σ K→Ev p.M f.A W s (assign target f.env cv) (KA p f K) (KX p f lv bV)) (hB:∀{W lv σ s Q},Inv p f W lv σ s→b lv σ Q→cP p f W s (execs body f.env) Q)
  (ht:en=true→∃es x q,target = .Tuple es x q) (hR:∀{a s},PK W₀ s₀ (KF p f Q) a s→R (.ok a) s) (N:Nat) (s:Shared) (h:Eu p f asg b Q W₀ s₀ Ia J en N s):dM p.M f.A (.forLoop target (.ref Ia) body [] f.env) R s:=by
 refine Cq rfl rfl (Eu p f asg b Q W₀ s₀ Ia J en) (fun n s h=>?_) N h
 obtain⟨W,σ,src,lv,I,g,st,e,w⟩:=h
 refine Es (ai (iV ?_))
 cases n with
 |zero=>exact w.elim
 |succ n=>
  refine bR w fun nx hq w=>ai (oE (bF (g.next ok P I st hq) (fun r s₁ h₁=>?_) fun _ _ (x:False)=>x.elim))
  cases nx with
  |none=>
   obtain⟨rfl,G⟩:=h₁
   exact aV (.inr ⟨rfl,Oa (hR ⟨W,G.st,.next,lv,σ,G.inv,rfl,w⟩)⟩)
  |some x=>
   obtain⟨cv,rfl,hgo⟩:=h₁
   refine ai (hgo (fun z=>ht (e z)) fun s2 W2 G rv g2=>ai ((hT G.inv rv w).sure fun _ W3 s3 st3 k3=>k3.casesOn fun oO σ3 I3 w=>?_))
   exact Et (hB I3 w) (fun{W4 vZ rP s4} iX I4 w => .inl ⟨rfl,n,kD n,W4,rP,x.2,vZ,I4,(g2.keep st3).keep iX,(G.st.trans st3).trans iX,fun z=>e ((Dy (v:=x.1) hq).symm.trans z),w⟩) fun iX k=>hR (.to ((G.st.trans st3).trans iX) (.here k))
inductive Ew(p:PC)(f:FC)(c:Lv→St→QB→Prop)(b:Lv→St→QF→Prop)(Q:QF)(W₀:Wd)(s₀:Shared)(n:Nat)(s:Shared):Prop
 |mk (W:Wd) (σ:St) (lv:Lv) (I:Inv p f W lv σ s) (st:Step W₀ s₀ W s) (w:sZ c b n lv σ Q)
def Oc
  (hC:∀{W lv σ s K},Inv p f W lv σ s→c lv σ K→Ev p.M f.A W s (isTrue test f.env (eval test f.env)) (KB p f lv K) (KX p f lv bV)) (hB:∀{W lv σ s Q},Inv p f W lv σ s→b lv σ Q→cP p f W s (execs body f.env) Q)
  (hR:∀{a s},PK W₀ s₀ (KF p f Q) a s→R (.ok a) s) (N:Nat) (s:Shared) (h:Ew p f c b Q W₀ s₀ N s):dM p.M f.A (.whileLoop test body [] f.env) R s:=by
 refine Cq rfl rfl (Ew p f c b Q W₀ s₀) (fun n s h=>?_) N h
 obtain⟨W,σ,lv,I,st,w⟩:=h
 refine Es ?_
 cases n with
 |zero=>exact w.elim
 |succ n=>
  refine ai ((hC I w).sure fun a W1 s1 st1 k=>k.casesOn fun σ1 r I1 e w=>?_)
  subst e
  cases a with
  |false=>
   rw[arm_execs_nil]
   exact ai (aV (aV (hR ⟨W1,st.trans st1,.next,lv,σ1,I1,rfl,w⟩)))
  |true=>exact Et (hB I1 w) (fun{W4 vZ rP s4} iX I4 w => .inl ⟨rfl,n,kD n,W4,rP,vZ,I4,(st.trans st1).trans iX,w⟩) fun iX k=>hR (.to ((st.trans st1).trans iX) (.here k))
def Od(P:aO p)(C:eg p cx n)(hb:SB p cx n b):SS p cx n (.lJ c b):=fun{ps sc f lv W σ s Q} g h I w=>
 .re (arm_exec_While ..) (Ev.stand (oE (yM (h:=none) nn (Oc (fun I w=>(sE P C c).2 g.ft (aE h).1 I w) (fun I w=>hb g (aE h).2 I w) (fun k=>k) _ s ⟨W,σ,lv,I,.refl W s,w⟩))))
def Oe(P:aO p)(C:eg p cx n)(hb:SB p cx n b):SS p cx n (.c7 t it b):=fun{ps sc f lv W σ s Q} g h I w=>by
 obtain⟨h1,h⟩:=aE h
 obtain⟨h2,h⟩:=aE h
 obtain⟨h3,h4⟩:=aE h
 refine .re (arm_exec_For ..) (Ev.stand (ai (bF (sI P C it g.ft h2 I w).fx (fun x s1 k=>k.casesOn fun W1 st1 k=>k.casesOn fun σ1 src I1 Of en w=>?_) fun _ _ x=>x)))
 rw[Dr]
 exact ai (aV (ai (iV (ai (c8 (Of fun{Ia J s2} I2 g2 st2=>oE (yM (h:=none) nn (Ob g.ok P (fun I r w=>sT P C t g.ft h1 I r w) (fun I w=>hb g h4 I w) (DA h3) (fun k=>k) _ s2 ⟨W1,σ1,src,lv,I2,g2,st2,en,w⟩))))))))
end
section
def Og
  (h:av (model prog w) (A.deeper env) (execs body env) (fun f s'=>R (.ok (.ret (match f with | .ret v=>v | _ => .none))) s')
   (fun e s'=>av (model prog w) (A.deeper env) (leaving env e) (fun _ s''=>R (.error e) s'') (fun e' s''=>R (.error e') s'') s') s):
  dM (model prog w) A (.func body env) R s:=by
 refine kH rfl ?_
 refine ai (yK (ai (oE (bF h (fun f s' h'=>?_) fun _ _ h'=>h'))))
 cases f <;> exact aV h'
def zM
  (hroom:A.depth<recursionLimit) (ho:s.heap.get? a=some o) (hdata:o.data = .func fd) (hlim:s.heap.NoLimit) (hcd:s.heap.CodeRec fd.code fd.qualname)
  (hbody:fd.body = .stmts body) (hbind:Looks (model prog w) s.heap (bindArgs fd ⟨vals,[]⟩) binds) (hclo:fd.closure=[])
  (hkind:∀x∈binds,fd.scope.names.lookup x.1=some .local∨(fd.scope.names.lookup x.1=some .cell∧((cellsFrom (s.heap.objs.size+1) fd.scope.names []).lookup x.1).isSome=true))
  (hco:fd.scope.isCoroutine=false) (hgen:fd.scope.isGenerator=false) (hk:fd.scope.kind = .function)
  (h:∀s₁,InCallC s (callEnvC fd s.heap.objs.size a).locals (bindL (callEnvC fd s.heap.objs.size a).kindOf binds fun _=>none) (callEnvC fd s.heap.objs.size a).cells
    (bindC (callEnvC fd s.heap.objs.size a).kindOf binds fun _=>none) s₁ →
   av (model prog w) (A.deeper (callEnvC fd s.heap.objs.size a)) (execs body (callEnvC fd s.heap.objs.size a)) (fun f s'=>R (.ok (.ret (match f with | .ret v=>v | _ => .none))) s')
    (fun e s'=>av (model prog w) (A.deeper (callEnvC fd s.heap.objs.size a)) (leaving (callEnvC fd s.heap.objs.size a) e) (fun _ s''=>R (.error e) s'') (fun e' s''=>R (.error e') s'') s') s₁):
  dM (model prog w) A (.call (.ref a) ⟨vals,[]⟩) R s:=by
 refine kH rfl ?_
 refine(?_:av _ A.in1 (load a>>=_) _ _ s)
 refine ai (of (n6 ho ?_))
 refine cps fun C9 k9=>?_
 obtain⟨c,oc,vs,tq,hc,hoc,hdc,hq⟩:=hcd
 refine k9 ?_
 rw[hdata]
 refine(?_:av _ A.in1 (callFunction a fd ⟨vals,[]⟩) _ _ s)
 unfold callFunction
 rw[hco,hgen,hbody,hc]
 refine ai (m:=field (.ref c) 1) (of (wpAny_field hoc hdc hq (ai (aV ?_))))
 rw[hclo]
 refine ai (of (hbind _ _ _ _ (fun _ _ e=>e) (ai (of (wpAny_newFunctionEnv_cells hk hkind fun env he s' x=>?_)))))
 subst he
 refine ai (of (wpAny_enterFrame (hlim.keeps x.toInCall.keep) hroom (aV (And.intro rfl ?_))))
 have e:newEnv fd.scope s.heap.objs.size fd.globals (cellsFrom (s.heap.objs.size+1) fd.scope.names []) (fd.qualname++".<locals>.") (some a) (.ref c) none fd.builtins=callEnvC fd s.heap.objs.size a:=by unfold callEnvC;rw[hc]
 have x':InCallC s (callEnvC fd s.heap.objs.size a).locals (bindL (callEnvC fd s.heap.objs.size a).kindOf binds fun _=>none) (callEnvC fd s.heap.objs.size a).cells (bindC (callEnvC fd s.heap.objs.size a).kindOf binds fun _=>none) s':=e▸x
 rw[e]
 exact Og (h s' x')
end
def Ey:∀{n:Nat} {acc:List (Str×Addr)},(cellsFrom n l acc).map (·.1)=((l.filter (·.2 == .cell)).map (·.1)).reverse++acc.map (·.1):=by
 induction l with
 |nil=>exact rfl
 |cons q r ih=>
  intro n acc
  unfold cellsFrom
  by_cases h:(q.2 == .cell)=true
  ·rw[if_pos h,ih,List.filter_cons,if_pos h,jJ,jJ,List.reverse_cons,ku];rfl
  ·rw[if_neg h,ih,List.filter_cons,if_neg h]
def Ez(h:(l.map (·.1)).Nodup):((cellsFrom n l []).map (·.1)).Nodup:=by
 rw[Ey,List.map_nil,fP]
 exact(List.reverse_perm _).nodup_iff.mpr (h.sublist (List.Sublist.map _ List.filter_sublist))
def tP(h:sc.lookup x=some .cell):((cellsFrom n sc []).lookup x).isSome=true:=by
 have m:x∈(cellsFrom n sc []).map (·.1):=by
  rw[Ey]
  exact List.mem_append_left _ (List.mem_reverse.mpr (bP.mpr ⟨(x,.cell),dJ.mpr ⟨jn h,rfl⟩,rfl⟩))
 generalize cellsFrom n sc []=l at m
 induction l with
 |nil=>cases m
 |cons q r ih=>
  rw[pP]
  cases e:x==q.1 with
  |true=>rfl
  |false=>exact ih ((cS.mp m).resolve_left fun z=>eE (e.symm.trans (z▸dW x)))
section
variable{kindOf:Str→Option NameKind}
def Oh(hn:n∉bs.map (·.1)):bindL kindOf bs m n=m n:=by
 induction bs generalizing m with
 |nil=>rfl
 |cons q r ih=>
  unfold bindL
  rw[ih fun z=>hn (.tail _ z)]
  split
  ·exact if_neg fun(z:n=q.1)=>hn (z ▸ .head _)
  ·rfl
def zN(nd:(bs.map (·.1)).Nodup)(h:(n,v)∈bs)(hk:kindOf n=some .local):bindL kindOf bs m n=some v:=by
 induction bs generalizing m with
 |nil=>cases h
 |cons q r ih=>
  obtain⟨n1,n2⟩:=fO.mp nd
  unfold bindL
  cases h with
  |head=>rw[if_pos hk,Oh n1];exact if_pos rfl
  |tail _ h=>exact ih n2 h
def Oi(hn:n∉bs.map (·.1)):bindC kindOf bs m n=m n:=by
 induction bs generalizing m with
 |nil=>rfl
 |cons q r ih=>
  unfold bindC
  rw[ih fun z=>hn (.tail _ z)]
  split
  ·rfl
  ·exact if_neg fun(z:n=q.1)=>hn (z ▸ .head _)
def Oj(nd:(bs.map (·.1)).Nodup)(h:(n,v)∈bs)(hk:kindOf n≠some .local):bindC kindOf bs m n=some v:=by
 induction bs generalizing m with
 |nil=>cases h
 |cons q r ih=>
  obtain⟨n1,n2⟩:=fO.mp nd
  unfold bindC
  cases h with
  |head=>rw[if_neg hk,Oi n1];exact if_pos rfl
  |tail _ h=>exact ih n2 h
end
structure tQ(p:PC)(fid:dP)(a:Addr)(o:Obj)(fd:FuncData)(ps:Ps):Prop where
 obj:p.base.get? a=some o
 data:o.data = .func fd
 zO:fd.body = .stmts (dj (bu fid).body ps).1
 kL:fd.closure=[]
 code:p.base.CodeRec fd.code fd.qualname
 co:fd.scope.isCoroutine=false
 gen:fd.scope.isGenerator=false
 kind:fd.scope.kind = .function
 glob:fd.globals=mainGlobals
 blt:fd.builtins=builtinsNs
 names:(fd.scope.names.map (·.1)).Nodup
 v8:∀x,fd.scope.names.lookup x≠some .free
 ok:mQ fd.scope.names (bu fid).body ps=true
 bind:∀W as lv bS,p.w0.Le W→oi (bu fid).params (bu fid).dflt as=some lv→aN W as bS→∃bs,Looks p.M p.base (bindArgs fd ⟨bS,[]⟩) bs∧jU W lv bs
 params:∀as lv,oi (bu fid).params (bu fid).dflt as=some lv→(lv.map (·.1)).Nodup∧∀n∈lv.map (·.1),fd.scope.names.lookup n.s=some .local∨fd.scope.names.lookup n.s=some .cell
section
variable{f:FC}
noncomputable def FC.call(f:FC)(fd:FuncData)(L a:Addr):FC:={A:=f.A.deeper (callEnvC fd L a),env:=callEnvC fd L a,frs:=callEnvC fd L a::f.frs,fr:=L,lvl:=f.lvl - 1,own:=true}
def eW.mem:∀{bs:List (Str×Value)} {n:Nm} {x:V},jU W l bs→aF l n=some x→∃v,(n.s,v)∈bs∧aD W x v:=by
 induction l with
 |nil=>exact fun _ h=>nn h
 |cons q r ih=>
  intro bs n x k
  refine ny k fun v es a b h=>?_
  by_cases e:q.1=n
  ·subst e;exact⟨v,.head _,cA fZ h▸a⟩
  ·exact(ih b ((dZ e).symm.trans h)).imp fun w q=>⟨.tail _ q.1,q.2⟩
abbrev ql(s:Shared)(fd:FuncData)(a:Addr)(bs:List (Str×Value))(s₁:Shared):Prop:=
 InCallC s (callEnvC fd s.heap.objs.size a).locals (bindL (callEnvC fd s.heap.objs.size a).kindOf bs fun _=>none) (callEnvC fd s.heap.objs.size a).cells (bindC (callEnvC fd s.heap.objs.size a).kindOf bs fun _=>none) s₁
variable{fid:dP}{a:Addr}{o:Obj}{fd:FuncData}{ps:Ps}{bs:List (Str×Value)}(F:tQ p fid a o fd ps)
def ql.big(x:ql s fd a bs s₁)(h:c∈(f.call fd s.heap.objs.size a).mine):s.heap.objs.size≤c:=(cS.mp h).elim (fun e=>cT e.symm) fun h=>(bP.mp h).elim fun q e=>e.2▸eL (x.above q.1 q.2 e.1)
include F
theorem bA.call(ok:bA p f)(hl:1≤f.lvl)(x:ql s fd a bs s₁):bA p (f.call fd s.heap.objs.size a) where
 frames:=Around.frames_deeper ok.frames
 head:=⟨_,_,rfl,rfl,F.gen,F.co,F.blt,F.glob⟩
 aG:=vS ok.aG hl (by decide)
 units:=vS ok.units hl (by decide)
 handled:=ok.handled
 cellsOf:=fun h=>h.elim (fun h=>qR.mp (tP h)) fun h=>absurd h (F.v8 _)
 frame:=rfl
 kind:=F.kind
 globals:=F.glob
 builtins:=F.blt
 apart:=fO.mpr ⟨fun hb=>(bP.mp hb).elim fun q e=>jh _ (e.2▸x.above q.1 q.2 e.1),by
  have:=x.apart
  rw[List.Nodup,List.pairwise_map]
  exact this⟩
theorem jq.call(I:Inv p f W lv σ s)(x:ql s fd a bs s₁):jq p f (f.call fd s.heap.objs.size a) s s₁ (f.call fd s.heap.objs.size a).mine:=
 have hcn:=Ez (n:=s.heap.objs.size+1) F.names
 have cl:∀q∈(callEnvC fd s.heap.objs.size a).cells,∃v,s₁.heap.IsCell q.2 v:=fun q hq=>⟨_,x.cell q.1 q.2 (vP hcn hq)⟩
 have sm:=x.toInCall.same
 ⟨x.toInCall.keep,fun c h=>gj fun o e=>jh _ (je (iF e) (x.big h)),
 fun c h=>(cS.mp h).elim (fun e=>e▸u9 x.toInCall.ns) fun h=>(bP.mp h).elim fun q e=>e.2▸(cl q e.1).elim fun v h=>h.elim fun o h=>⟨o,h.1,fun vs e=>nomatch h.2.symm.trans e⟩,.head _,
 fun q hq=>⟨.inl (.tail _ (bP.mpr ⟨q,hq,rfl⟩)),cl q hq⟩,fun e h=>(cS.mp h).elim (fun e => .inr ⟨_,e▸rfl,e▸(show fd.scope.kind≠_ by rw[F.kind];nofun),.head _⟩) .inl,
 aH I.above ((I.aC I.var).elim fun o h=>eL (iF h.1)),sm.elim fun _ h=>h.elim fun _ e=>e▸rfl,sm.elim fun _ h=>h.elim fun _ e=>e▸rfl⟩
theorem gH.call(P:aO p)(rb:jU W jr bs)(nd:(jr.map (·.1)).Nodup)(x:ql s fd a bs s₁)(le:W.Le W'):gH W' (callEnvC fd s.heap.objs.size a) jr s₁.heap:=
 ⟨_,x.toInCall.ns,fun n y hy=>(rb.mem hy).elim fun v hv=>by
  have EA:(bs.map (·.1)).Nodup:=by
   rw[rb.keys,List.Nodup,List.pairwise_map]
   exact(List.pairwise_map.mp nd).imp fun hne e=>hne (P.inj _ _ e)
  refine⟨v,hv.2.le le,fun h=>zN EA hv.1 h,fun h=>h.elim (fun h=>?_) fun h=>absurd h (F.v8 _)⟩
  obtain⟨c,hc⟩:=qR.mp (tP (n:=s.heap.objs.size+1) h)
  have:=x.cell n.s c hc
  rw[Oj EA hv.1 (by rw[h];nofun)] at this
  exact⟨c,hc,this⟩⟩
end
section
noncomputable def FC.kM(f:FC):List Addr:=f.frs.filterMap (·.frame)
def Inv.iU(I:Inv p f W lv σ s)(h:b∈f.kM):∃r o,W.aC b=some r∧r.isFrame=true∧s.heap.get? b=some o∧lO r o:=
 (pN.mp h).elim fun e q=>(I.frs e q.1).elim fun L y=>y.elim fun r y=>by
  obtain rfl:=cA q.2 y.1
  exact(I.aC y.2.2.1).elim fun o z=>⟨r,o,y.2.2.1,y.2.2.2,z⟩
def Inv.EB(I:Inv p f W lv σ s)(hB:∀b∈f.kM,B.get? b=none):s.heap.FunFrames B f.frs:=by
 have h:∀e∈f.frs,e.scope.kind ≠ .module∧∃L o,e.frame=some L∧B.get? L=none∧s.heap.get? L=some o∧rz o:=fun e he=>(I.frs e he).elim fun L y=>y.elim fun r y=>
  ⟨y.2.1,(I.aC y.2.2.1).elim fun o z=>⟨L,o,y.1,hB L (pN.mpr ⟨e,he,y.1⟩),z.1,vJ y.2.2.2 z.2⟩⟩
 generalize f.frs=l at h
 induction l with
 |nil=>trivial
 |cons e r ih=>exact⟨(h e (.head _)).1,(h e (.head _)).2,ih fun e he=>h e (.tail _ he)⟩
theorem Inv.slots(I:Inv p f W lv σ s)(hx:W.aC ea=some .x)(k:∀b o,b≠ea→b∉f.kM→s.heap.get? b=some o→h'.get? b=some o)(kf:∀b o,b∈f.kM→s.heap.get? b=some o→∃sl,h'.get? b=some {o with slots:=sl})(kx:∃o,h'.get? ea=some o):
  Inv p f W lv σ {s with heap:=h'}∧Step W s W {s with heap:=h'}:=by
 have kk:∀{b o},b≠ea→s.heap.get? b=some o→∃sl,h'.get? b=some {o with slots:=sl}:=fun{b o} hb e=>by
  by_cases hf:b∈f.kM
  ·exact kf b o hf e
  ·exact⟨o.slots,k b o hb hf e⟩
 have nf:∀{b r},W.aC b=some r→r.isFrame=false→b∉f.kM:=fun h n m=>(I.iU m).elim fun r' q=>q.elim fun o q=>eE (n.symm.trans (cA q.1 h▸q.2.1))
 have km:∀{b},b∈f.mine→b≠ea:=fun m z=>eE ((I.mine m).elim fun r q=>q.elim fun o q=>(cA (z▸hx) q.1▸q.2.1:Role.x.isFrame=true))
 have mc:∀{x},x∈f.env.cells→x.2∈f.mine:=fun hx => .tail _ (bP.mpr ⟨_,hx,rfl⟩)
 refine⟨⟨fun{a r} e=>?_,I.pins,I.loc,fun e h=>(I.cell e h).keep (.refl W) (fun _=>k _ _ (kF (I.loc e).1.1 hx rfl) (nf (I.loc e).1.1 rfl)) fun _=>k _ _ (kF (I.loc e).1.2 hx rfl) (nf (I.loc e).1.2 rfl),
  I.vars.slots (.refl W) ((I.aC I.var).elim fun o h=>(kk (km (.head _)) h.1).elim fun sl e=>⟨sl,fun o' h'=>cA h.1 h'▸e⟩) fun c o hc h=>hc.elim fun n hc=>kk (km (mc hc)) h,I.var,fun x hx=>⟨(I.cells x hx).1,(I.cells x hx).2.elim fun v h=>h.elim fun o h=>(kk (km (mc hx)) h.1).elim fun sl e=>⟨v,_,e,h.2⟩⟩,I.frs,I.above⟩,
  .refl W,fun n e=>k _ _ (fun z=>bU (z▸n) hx) (fun m=>(I.iU m).elim fun r q=>q.elim fun o q=>bU n q.1) e,fun n e=>bU n e,rfl,rfl⟩
 by_cases z:a=ea
 ·obtain rfl:=cA (z▸hx) e
  exact z▸kx.imp fun o h=>⟨h,trivial⟩
 ·by_cases m:a∈f.kM
  ·exact(I.iU m).elim fun r' q=>q.elim fun o q=>(kf a o m q.2.2.1).elim fun sl h=>⟨_,h,cA q.1 e▸Dt q.2.1 q.2.2.2⟩
  ·exact(I.aC e).imp fun o h=>⟨k a o z m h.1,h.2⟩
def EC(I:Inv p f W lv σ s)(own:W.aC ea=some .x)(ho:s.heap.get? ea=some oe)(hc:oe.cls = .ref (p.exc x))(hd:oe.data = .fields vs)
  (hL:Heap.Left (hideAll s.heap (ea::f.kM)) (env::outer) ea oe.cls s.heap h'):∃W',Step W s W' {s with heap:=h'}∧Inv p f W' lv σ {s with heap:=h'}∧gS p W' x (.ref ea) h':=by
 refine cps fun C9 k9=>?_
 obtain⟨k1,k2,⟨Ol,vs',T,oT,ts,a1,a2,a3,a4,a5,a6,a7,a8,a9⟩,k4⟩:=hL
 refine k9 ?_
 have fl:∀b o,b∈f.kM→s.heap.get? b=some o→∃sl,h'.get? b=some {o with slots:=sl}:=fun b o hb e=>(I.iU hb).elim fun r q=>q.elim fun o' q=>k4 b o e (cA q.2.2.1 e▸vJ q.2.1 q.2.2.2)
 obtain⟨J,st⟩:=I.slots (h':=h') own (fun b o n1 n2 e=>k1 b o (hideAll_get _ e (by simp [n1,n2]))) fl ⟨_,a1⟩
 have ED:s.heap.get? T=none:=gj fun ot q=>by
  have:T∉ea::f.kM:=fun hm=>(cS.mp hm).elim a6 fun hm=>(I.iU hm).elim fun r y=>y.elim fun o' y=>(fl T o' hm y.2.2.1).elim fun sl h=>by
   obtain rfl:=cA a7 h
   exact vJ y.2.1 y.2.2.2 ts a8
  exact bU a5 (hideAll_get _ q this)
 have nT:=I.free ED
 exact⟨_,st.put (r := .x) nT ED,J.put (r := .x) nT a7 trivial,ea,Ol,vs',rfl,(Wd.qe nT).r own,a1,a2.trans hc,a3,.inr ⟨T,oT,ts,a4,a6,Wd.qf,a7,a8,a9⟩⟩
def Om{ts:Array Value}(h:ts[i]?=some v):ts.setIfInBounds i v=ts:=by
 apply Array.ext_getElem?
 intro j
 rw[Array.getElem?_setIfInBounds]
 by_cases z:i=j
 ·subst z;rw[if_pos rfl,if_pos (Array.getElem?_eq_some_iff.mp h).1,h]
 ·rw[if_neg z]
def EE{h:Heap}{T:Addr}(hT:h.get? T=some oT)(nH:oT.data = .fields ts)(h3:ts[3]?=some .none)(b:Addr)(o:Obj)(e:h.get? b=some o):(h.update T (Obj.mapFields (·.setIfInBounds 3 Value.none))).get? b=some o:=by
 have e1:Obj.mapFields (·.setIfInBounds 3 Value.none) oT=oT:=by
  obtain⟨c,d,dt,sl⟩:=oT
  cases nH
  unfold Obj.mapFields
  dsimp only
  rw[Om h3]
 by_cases z:b=T
 ·subst z
  rw[hT] at e;cases e
  rw[qT _ hT (by rw[e1];exact Obj.isFreed_of_fields nH),e1]
 ·exact(Heap.get?_update_other _ _ (gz z)).trans e
def EF{E:QQ}(I:Inv p f W lv σ s)(X:gS p W x e s.heap)(hfr:f.A.frames=some (env::outer))(EG:f.frs=env::outer)(hf:env.frame=some L):
  PySem.wpAny p.M f.A (leaving env e) (fun _ s'=>∃W',Step W s W' s'∧Inv p f W' lv σ s'∧gS p W' x e s'.heap) E s:=by
 refine cps fun C9 k9=>?_
 obtain⟨ea,oe,vs,rfl,own,ho,hc,hd,h⟩:=X
 refine k9 ?_
 have hB:∀(h:Heap),∀b∈f.kM,(hideAll h (ea::f.kM)).get? b=none:=fun h b hb=>hideAll_none _ (.tail _ hb)
 rcases h with h1 | ⟨T,oT,ts,h1,Oo,Oq,hT,nH,h3⟩
 ·exact wpAny_leaving_first hfr (EG▸I.EB (hB _)) hf ho (fun b o e=>of_hideAll _ e) (hideAll_none _ (.head _)) hd h1 fun h' hL=>EC I own ho hc hd hL
 ·unfold leaving noteFrame
  simp only [hf]
  refine aP (aP (wpAny_field ho hd h1 ?_))
  rw[if_pos (show(Value.ref T != Value.none)=true from rfl)]
  refine aP (wpAny_field hT nH h3 ?_)
  rw[if_neg (show ¬((Value.none==rawInt L)=true) from by simp [rawInt])]
  refine aP (wpAny_setField hT nH (Array.getElem?_eq_some_iff.mp h3).1 ?_)
  have same:=EE hT nH h3
  generalize s.heap.update T (Obj.mapFields (·.setIfInBounds 3 Value.none))=h2 at same ⊢
  have I1:Inv p f W lv σ {s with heap:=h2}:=I.keeps same
  refine wpAny_newEntry (s:={s with heap:=h2}) hfr (EG▸I1.EB (hB _)) hf (same _ _ ho) (fun b o e=>of_hideAll _ e) (hideAll_none _ (.head _)) hd (Array.getElem?_eq_some_iff.mp h1).1 fun h' hL=>?_
  obtain⟨W',st,J,X'⟩:=EC I1 own (same _ _ ho) hc hd hL
  exact⟨W',(Step.keeps (W:=W) (s:=s) (s':={s with heap:=h2}) same rfl rfl).trans st,J,X'⟩
end
def Role.sw(r:Role):Role:=match r with
 |.cell l => .cell (gi l)
 |r=>r
def Wd.sw(W:Wd):Wd:=⟨fun a=>(W.aC a).map Role.sw,fun l=>W.loc (gi l)⟩
def Role.zP{r:Role}:r.sw.sw=r:=by
 cases r with
 |cell l=>exact aa _ mF
 |_=>rfl
def Role.Ot{r:Role}:r.sw.isFrame=r.isFrame:=by cases r <;> rfl
theorem Wd.zP(W:Wd):W.sw.sw=W:=congr (aa Wd.mk (funext fun a=>by
  show((W.aC a).map Role.sw).map Role.sw=W.aC a
  cases W.aC a with
  |none=>rfl
  |some r=>exact aa some Role.zP)) (funext fun l=>aa W.loc mF)
section
variable{W:Wd}
def kN(e:W.aC a=some r):W.sw.aC a=some r.sw:=aa (Option.map Role.sw) e
def Ou(e:W.loc l=some q):W.sw.loc (gi l)=some q:=(aa W.loc mF).trans e
theorem iJ.sw(x:iJ W t n R v)(e:m=n)(k:∀items,R items→R' items):iJ W.sw t m R' v:=
 x.elim fun a x=>x.elim fun items x=>⟨a,items,x.1,x.2.1.elim fun j h=>⟨j,kN h⟩,e▸x.2.2.1,k _ x.2.2.2⟩
theorem aD.sw(x:V):∀{v},aD W x v→aD W.sw (cj x) v:=
 V.rec (motive_1:=fun x=>∀{v},aD W x v→aD W.sw (cj x) v) (motive_2:=fun l=>∀{vs},aN W l vs→aN W.sw (fY l) vs) (fun e=>e) (fun _ _ e=>e) (fun _ _ e=>e) (fun _ _ e=>e) (fun _ _ e=>e)
  (fun _ ih _ e=>iJ.sw e yG fun _=>ih) (fun _ ih _ e=>iJ.sw e yG fun _=>ih) (fun _ _ e=>e.elim fun a e=>⟨a,e.1,bW e.2 fun q e1 e2=>(aa _ (Ou e1)).trans (aa some e2)⟩) (fun e=>e)
  (fun _ _ i1 i2 _ e=>e.elim fun v e=>e.elim fun vs e=>⟨v,vs,e.1,i1 e.2.1,i2 e.2.2⟩) x
theorem aN.sw{l:List V}:∀{vs:List Value},aN W l vs→aN W.sw (fY l) vs:=by
 induction l with
 |nil=>exact fun e=>e
 |cons x l ih=>exact fun r=>gk r fun v vs a b => .cons (aD.sw x a) (ih b)
theorem eW.sw{d:List (α×V)}:∀{es:List (κ×Value)},eW k W d es→eW k W.sw (d.map fun x=>(x.1,cj x.2)) es:=by
 induction d with
 |nil=>exact fun e=>e
 |cons q r ih=>exact fun x=>ny x fun v es a b=>⟨v,es,rfl,aD.sw _ a,ih b⟩
theorem fK.sw{d:List (Nm×V)}:∀{es:List DictEntry},fK P W d es→fK P W.sw (d.map fun x=>(x.1,cj x.2)) es:=by
 induction d with
 |nil=>exact fun e=>e
 |cons q r ih=>exact fun x=>ru x fun t v es a b=>⟨t,v,es,rfl,aD.sw _ a,ih b⟩
theorem ir.sw:ir p W h (gi l) a d c→ir p W.sw h l a d (eZ c):=by
 cases c with
 |list _=>exact fun x=>x.elim fun i x=>x.elim fun n x=>⟨i,n,x.1,x.2.1.sw,yG.symm▸x.2.2⟩
 |sd _=>exact fun x=>x.elim fun i x=>⟨i,x.1,x.2.1.sw,(bJ _).symm▸x.2.2⟩
 |bI _=>exact fun x=>x.elim fun i x=>⟨i,x.1,x.2.1.sw,(bJ _).symm▸x.2.2⟩
 |bB _=>exact id
 |inst _=>exact fun x=>x.elim fun c x=>x.elim fun es x=>x.elim fun n x=>⟨c,es,n,Jc▸x.1,x.2.1,x.2.2.1.sw,(bJ _).symm▸x.2.2.2.1,fun q hq=>(bP.mp hq).elim fun y e=>e.2▸x.2.2.2.2 y e.1⟩
def Ov{g:V→V}(h:aF (lv.map fun q=>(q.1,g q.2)) n=some x):∃y,aF lv n=some y∧g y=x:=by
 induction lv with
 |nil=>exact nn h
 |cons q r ih=>
  by_cases e:q.1=n
  ·subst e;exact⟨q.2,fZ,cA fZ h⟩
  ·exact(ih ((dZ e).symm.trans h)).imp fun y z=>⟨(dZ e).trans z.1,z.2⟩
def qm (lv:Lv):Lv:=lv.map fun q=>(q.1,cj q.2)
def EH:qm (qm lv)=lv:=by
 induction lv with
 |nil=>rfl
 |cons q r ih=>exact(aa (fun x=>(q.1,x)::qm (qm r)) (u6 q.2)).trans (aa (q::·) ih)
theorem Inv.sw(I:Inv p f W lv σ s):Inv p f W.sw (qm lv) (eG σ) s:=
 ⟨fun{a r} e=>bW e fun r' e1 e2=>(I.aC e1).imp fun o h=>⟨h.1,e2▸(by cases r' <;> exact h.2)⟩,fun e=>kN (I.pins e),fun{l q} e=>⟨(I.loc e).1.imp (fun h=>(kN (r := .cell (gi l)) h).trans (aa (fun l=>some (Role.cell l)) (mF (l:=l)))) fun h=>(kN (r := .cell (gi l)) h).trans (aa (fun l=>some (Role.cell l)) (mF (l:=l))),(I.loc e).2⟩,
 fun{l q c} e h=>bW h fun c' e1 e2=>e2▸(I.cell e e1).sw,I.vars.imp fun m x=>⟨x.1,fun n y hy=>(Ov hy).elim fun z q=>q.2▸(x.2 n z q.1).imp fun v k=>⟨aD.sw _ k.1,k.2⟩⟩,kN I.var,
 fun x hx=>⟨(I.cells x hx).1.imp kN fun h=>⟨h.1,h.2.imp fun o h=>kN h⟩,(I.cells x hx).2⟩,fun e he=>(I.frs e he).imp fun L h=>h.elim fun r h=>⟨r.sw,h.1,h.2.1,kN h.2.2.1,Role.Ot.trans h.2.2.2⟩,I.above⟩
def EI(e:W.sw.aC a=none):W.aC a=none:=gj fun _ h=>bU e (kN h)
theorem Step.sw(st:Step W s W' s'):Step W.sw s W'.sw s':=
 ⟨⟨fun e=>bW e fun r e1 e2=>(kN (st.ge.r e1)).trans (aa some e2),st.ge.l⟩,fun n e=>st.keep (EI n) e,fun n e=>bW e fun r e1 _=>st.new (EI n) e1,st.g,st.os⟩
theorem PK.sw{K K':α→Wd→Shared→Prop}{a:α}(h:PK W.sw s K a s')(k:∀{W'},K a W' s'→K' a W'.sw s'):PK W s K' a s':=h.casesOn fun W' st q=>⟨W'.sw,Wd.zP W▸st.sw,k q⟩
theorem gS.sw(X:gS p W x e h):gS p W.sw x e h:=
 X.elim fun ea X=>X.elim fun oe X=>X.elim fun vs X=>⟨ea,oe,vs,X.1,kN X.2.1,X.2.2.1,X.2.2.2.1,X.2.2.2.2.1,X.2.2.2.2.2.imp id fun h=>h.imp fun T h=>h.imp fun oT h=>h.imp fun ts h=>⟨h.1,h.2.1,kN h.2.2.1,h.2.2.2⟩⟩
theorem Ev.sw{A:Around}{t:Sem Value}(h:Ev M A W.sw s t (KV p f (qm lv) fun r σ=>Q (cj r) (eG σ)) (KX p f (qm lv) fun x σ=>X x (eG σ))):Ev M A W s t (KV p f lv Q) (KX p f lv X):=
 bF h (fun _ _ h=>h.sw fun k=>k.casesOn fun σ b I r q=>⟨_,_,EH (lv:=lv)▸I.sw,aD.sw b r,q⟩) fun _ _ h=>h.sw fun k=>k.casesOn fun σ x I r q=>⟨_,x,EH (lv:=lv)▸I.sw,r.sw,q⟩
end
section
structure tR(p:PC):Prop where
 all:∀fid,(bu fid).body=[.bad]∨∃o fd ps,tQ p fid (p.fn fid) o fd ps
def gS.Ow(k:∀{a},W.aC a=some .x→W'.aC a=some .x)(X:gS p W x e h):gS p W' x e h:=
 X.elim fun ea X=>X.elim fun oe X=>X.elim fun vs X=>⟨ea,oe,vs,X.1,k X.2.1,X.2.2.1,X.2.2.2.1,X.2.2.2.2.1,X.2.2.2.2.2.imp id fun h=>h.imp fun T h=>h.imp fun oT h=>h.imp fun ts h=>⟨h.1,h.2.1,k h.2.2.1,h.2.2.2⟩⟩
def EJ(P:aO p)(Fs:tR p)(HB:∀ms,SB p cx n ms)(ok:bA p f)(hn:n+2≤f.lvl)(I:Inv p f W lv σ s)(ra:aN W vs bS)(w:wF cx fid vs σ Q X):
  Ev p.M f.A W s (call (.ref (p.fn fid)) bS []) (KV p f lv Q) (KX p f lv X):=by
 refine bR w fun jr hb w=>?_
 rcases Fs.all fid with hbad | ⟨o,fd,ps,F⟩
 ·rw[hbad] at w
  exact w.elim
 ·obtain⟨bs,hbind,rb⟩:=F.bind W vs jr bS I.Cc hb ra
  obtain⟨nd,hnames⟩:=F.params vs jr hb
  refine nA (zM (ok.deep (n:=1) rfl |> fun h=>fU (n7 _ 1) h) (I.base F.obj) F.data (P.nolimit.keeps I.stays) (F.code.keeps I.stays) F.zO (hbind.keeps I.stays) F.kL (fun x hx=>?_) F.co F.gen F.kind fun s₁ x=>?_)
  ·have:x.1∈jr.map fun q=>q.1.s:=rb.keys▸bP.mpr ⟨x,hx,rfl⟩
   exact(bP.mp this).elim fun q e=>e.2▸(hnames q.1 (bP.mpr ⟨q,e.1,rfl⟩)).imp id fun h=>⟨h,tP h⟩
  ·have N:=jq.call F I x
   have J:=I.enter N (gH.call F P rb nd x (vN N I))
   have vW:=N.step I (.refl W s)
   have gU:=ok.call F (aH (Nat.le_add_left 1 (n+1)) hn) x
   refine bF (HB (bu fid).body (ps:=ps) (sc:=fd.scope.names) ⟨gU,Nat.le_sub_of_add_le hn,⟨fun _=>rfl,_,rfl⟩,rfl⟩ F.ok J w) (fun a s' k=>k.casesOn fun W' st k=>k.casesOn fun fl oO σ' J' r q=>?_) fun e s' k=>k.casesOn fun W' st k=>k.casesOn fun x oO σ' J' r q=>
    Mine.Internal.of (PySem.wpAny_mono (EF (E:=fun _ _=>False) J' r gU.frames rfl rfl) (fun _ s'' h2=>h2.elim fun W2 h2=>?_) fun _ _ x=>x.elim)
   ·have T:=vW.trans st
    have I':=Inv.leave N I T (.refl W s) J'
    have S':=Step.leave N I T (.refl W s)
    cases fl with
    |next=>
     obtain rfl:a = .next:=r
     exact⟨_,S',σ',.none,I',rfl,q⟩
    |ret v=>
     obtain⟨cv,rfl,rv⟩:=r
     exact⟨_,S',σ',v,I',rv.le (zm N I T),q⟩
    |exc x=>exact r.elim
   ·have T:=(vW.trans st).trans h2.1
    exact⟨_,Step.leave N I T (.refl W s),σ',x,Inv.leave N I T (.refl W s) h2.2.1,h2.2.2.Ow fun h=>vO N I T h rfl,q⟩
def Inv.wk(I:Inv p f W lv σ s)(h:Wk σ τ):Inv p f W lv τ s:=⟨I.aC,I.pins,fun e=>⟨(I.loc e).1,(h _ (I.loc e).2).1⟩,fun e z=>I.cell e ((h _ (I.loc e).2).2.symm.trans z),I.vars,I.var,I.cells,I.frs,I.above⟩
def Ox(P:aO p)(Fs:tR p)(HB:∀ms,SB p (ah d) (2 * d) ms):eg p (ah (d+1)) (2 * (d+1)):=fun ok hn I ra w=>
 w.elim (fun w=>w.elim fun _ w=>EJ P Fs HB ok hn (I.wk w.1) ra w.2) fun w=>w.elim fun _ w=>Ev.sw (EJ P Fs HB ok hn (I.sw.wk w.1) ra.sw w.2)
end
noncomputable abbrev lQ(BE:Addr):List Value:=[.ref BE,.type "ValueError",.type "Exception",.type "BaseException",.type "object"]
def we:(Value.ref C::lQ BE).contains (.type "ValueError")=true∧(Value.ref C::lQ BE).contains (.type "BaseException")=true∧(Value.ref C::lQ BE).contains (.type "object")=true ∧
  (Value.ref C::lQ BE).contains (.type "AttributeError")=false∧(Value.ref C::lQ BE).contains (.type "NameError")=false:=⟨rfl,rfl,rfl,rfl,rfl⟩
noncomputable abbrev mS(nm q:Str)(C N BE:Addr)(bs:List Value)(sn:List Str)(sub:List Value)(ab:Bool)(col:Option Bool)(dd:Option Addr)(k0 k1 k2 k3 k5:Option Value):Obj:=
 excClassObj nm q C N bs (lQ BE) true sn sub ab col dd k0 k1 k2 k3 k5 "ValueError.__new__"
section
variable{M:Model}{A:Around}{E:QQ}{h:Heap}{g:Array GenState}{d:Drawn}{t:Nat}{os:OsState}
variable{nm q:Str}{C N BE:Addr}{bs:List Value}{sn:List Str}{sub:List Value}{ab:Bool}{col:Option Bool}{dd:Option Addr}{k0 k1 k2 k3 k5:Option Value}
def EK(hC:h.get? C=some (mS nm q C N BE bs sn sub ab col dd k0 k1 k2 k3 k5))(hb:(Value.ref C::lQ BE).contains b=r):Looks M h (isSubtype (.ref C) b) r:=fun _ _ _ s k z=>by
 obtain⟨_,_,_,_,_⟩:=s
 exact wpAny_isSubtype_exc (k _ _ hC) (hb.symm▸z)
def Oz(hC:h.get? C=some (mS nm q C N BE bs sn sub ab col dd k0 k1 k2 k3 k5))(he:h.get? e=some oe)(hcls:oe.cls = .ref C)(hb:(Value.ref C::lQ BE).contains b=r):Looks M h (isInstance (.ref e) b) r:=
 ((Looks.ld he).andThen (hcls ▸ .now)).andThen (EK hC hb)
def OA(hC:h.get? C=some (mS nm q C N BE bs sn sub ab col dd k0 k1 k2 k3 k5))(he:h.get? e=some oe)(hcls:oe.cls = .ref C)(hq:Q () ⟨h,g,d,t,os⟩):
  PySem.wpAny M A (checkBuiltinCall "ValueError.__init__" ⟨.ref e::rest,[]⟩) Q E ⟨h,g,d,t,os⟩:=by
 have F:=PySem.F.excBase_ValueError
 have tS:=(we (C:=C) (BE:=BE)).1
 have Xb:=F.noStar
 simp only [checkBuiltinCall,F.initKind,F.initSplit,F.initRow]
 repeat (first | (with_reducible refine wpAny_loadPart_at he ?_;rw[hcls]) | with_reducible refine wpAny_loadPart_at hC ?_ | (with_reducible refine wpAny_isSubtype_exc hC ?_;rw[tS]) | wp_step)
 refine PySem.wpAny_onRaise ?_
 rw[show ∀(a b:String) (n:Nat),Bind.check ⟨.positional,"*","ValueError",.self,[⟨"args",.varPos,false⟩]⟩ a b n (List.map (fun x=>x.fst) ({pos:=Value.ref e::rest}:Args).kw)=pure () from
  fun a b n=>check_star_args _ _ _ _ _ _]
 exact bX hq
end
section
variable{prog:Program}{w:World}{A:Around}{R:QR}{h:Heap}{g:Array GenState}{d:Drawn}{t:Nat}{os:OsState}
variable{nm q:Str}{C N BE:Addr}{bs:List Value}{sn:List Str}{sub:List Value}{ab:Bool}{col:Option Bool}{dd:Option Addr}{k0 k1 k2 k3 k5:Option Value}
def OB(hC:h.get? C=some (mS nm q C N BE bs sn sub ab col dd k0 k1 k2 k3 k5))
  (hq:R (.ok (.ret (.ref (h.objs.size+1)))) ⟨(h.push {cls := .type "tuple",data := .seq rest.toArray}).push
   {cls := .ref C,data := .fields #[.ref h.objs.size,.none,.none,.none,.bool false,.none]},g,d,t,os⟩) (hrest:rest.length≤sizeLine):
  PySem.codeAny (model prog w) A (.builtin "ValueError.__new__" ⟨.ref C::rest,[]⟩) R ⟨h,g,d,t,os⟩:=by
 have F:=PySem.F.excBase_ValueError
 have Xc:=F.ends
 obtain⟨tS,-,-,OC,hcN⟩:=we (C:=C) (BE:=BE)
 refine PySem.codeAny_builtinAt F.entry ?_
 refine PySem.wpAt_bind ?_
 refine PySem.wpAt_bind (PySem.wpAt_stack fun p below=>PySem.wpAt_of_wpAny ?_)
 wp_walk
 refine PySem.wpAt_of_wpAny ?_
 rw[F.owner]
 repeat (first | with_reducible refine wpAny_madeHere_exc F.canon hC ?_ | with_reducible refine wpAny_loadPart_at hC ?_ | (with_reducible refine wpAny_isSubtype_exc hC ?_;first | rw[tS] | rw[OC] | rw[hcN]) | wp_step)
 rw[Heap.size_push]
 exact hq
def OD{Q E:QQ}(hC:h.get? C=some (mS nm q C N BE bs sn sub ab col dd k0 k1 k2 k3 k5))(he:h.get? e=some oe)
  (ho:oe={cls := .ref C,data := .fields #[.ref tp,.none,.none,.none,.bool false,.none]})
  (hq:∀h' tp',(∀b o,b≠e→h.get? b=some o→h'.get? b=some o)→h'.get? e=some {cls := .ref C,data := .fields #[.ref tp',.none,.none,.none,.bool false,.none]}→Q .none ⟨h',g,d,t,os⟩):
  PySem.wpAny (model prog w) A (call (.builtin "ValueError.__init__") [.ref e,v]) Q E ⟨h,g,d,t,os⟩:=by
 have F:=PySem.F.excBase_ValueError
 subst ho
 have hrest:[v].length≤sizeLine:=by size_fits
 refine PySem.wpAny_call (PySem.codeAny_call_builtin F.init.plain F.initEntry (OA hC he rfl ?_))
 wp_walk
 refine hq _ h.objs.size (fun b o n hb=>(Heap.get?_update_other _ _ (gz n)).trans (fT _ hb)) ?_
 exact qT _ (fT _ he) rfl
def OE{E:QQ}(hC:h.get? C=some (mS nm q C N BE bs sn sub ab col dd k0 k1 k2 k3 k5))
  (he:h.get? e=some {cls := .ref C,data := .fields fs}) (hs:Looks (model prog w) h (typeLookup (.ref C) "__setattr__") (some (.builtin "object.__setattr__"))) (hr:Looks (model prog w) h (typeLookup (.ref C) name) none)
  (hq:∀h' tk' dx,(∀b o,b≠e→h.get? b=some o→h'.get? b=some o)→h'.get? e=some {cls := .ref C,dict:=some dx,data := .fields fs}→Q () ⟨h',g,d,tk',os⟩):
  PySem.wpAny (model prog w) A (setAttr (.ref e) name v) Q E ⟨h,g,d,t,os⟩:=by
 have SF:=PySem.F.store_object
 have t1:Looks (model prog w) h (typeOf (.ref e)) (.ref C):=(Looks.ld he).andThen .now
 obtain⟨-,-,OF,-,-⟩:=we (C:=C) (BE:=BE)
 have hm:Looks (model prog w) h (mroOf (.ref C)) (.ref C::lQ BE):=(Looks.ld (part:=none) hC).andThen .now |>.andThen .now
 refine aP (wpAny_mkText ?_)
 refine aP (aP (aP (t1.at (hs.at ?_))))
 refine nX ?_
 rw[SF.slot.bind]
 refine aP (bX (aP (PySem.wpAny_call ?_)))
 refine PySem.codeAny_call_builtin SF.slot.plain SF.entry (@check_slot (model prog w) _ _ ⟨h,g,d,t+1,os⟩ "object.__setattr__" "object" "__setattr__" (.ref e) [.str name t,v] [] _ SF.kind SF.split (Oz hC he rfl OF) (SF.args (.ref e) (.str name t) v) ?_)
 show PySem.wpAny _ _ (Builtin.«object.__setattr__» ⟨[.ref e,.str name t,v],[]⟩) _ _ _
 rw[osa_eq,refuse_eq]
 refine aP (aP (t1.here (aP (hm.here ?_))))
 rw[refuseLoop_ref,refuseLoop_ref,PySem.F.store_ValueError.passes]
 refine bX (aP (t1.here (aP (hr.here ?_))))
 refine aP (m:=Builtin.ObjectAttr.storeTaker? none) (bX ?_)
 refine aP (bX (aP ?_))
 have hxs:e≠h.objs.size:=mq (iF he)
 refine aP (wpAny_loadPart_at he ?_)
 have cd:Looks (model prog w) h (classData C) {name:=nm,bases:=bs,mro := .ref C::lQ BE,ns:=N,qualname:=q,hasDict:=true,slotNames:=sn,subclasses:=sub,abstract:=ab,collection:=col,hasDel:=false}:=(Looks.ld (part:=none) hC).andThen .now
 refine aP (cd.here ?_)
 rw[if_neg (by simp),if_neg (by simp [typeHasDict])]
 have EL:(h.push {cls := .type "dict",data := .dict #[]}).get? e=some {cls := .ref C,data := .fields fs}:=fT _ he
 refine aP (wpAny_alloc ?_)
 refine aP (PySem.wpAny_update EL ?_)
 refine bX ?_
 have hgd:((h.push {cls := .type "dict",data := .dict #[]}).update e fun o=>{cls:=o.cls,dict:=some h.objs.size,data:=o.data,slots:=o.slots}).get? h.objs.size=some {cls := .type "dict",data := .dict #[]}:=
  (Heap.get?_update_ne _ _ _ _ hxs.symm).trans (Heap.get?_push_at rfl rfl)
 have hnd:((h.push {cls := .type "dict",data := .dict #[]}).update e fun o=>{cls:=o.cls,dict:=some h.objs.size,data:=o.data,slots:=o.slots}).Ns h.objs.size (fun _=>none):=
  ⟨_,#[],_,hgd,rfl,fun e he=>absurd he (by simp),fun _=>rfl⟩
 refine aP (bX (aP (wpAny_nsSet1 (Heap.Ns1.of_empty hnd) fun h' hn' hs=>?_)))
 obtain⟨oD,esD,Xd,OG,OH,OI⟩:=hn'.count (Within.cons name v Within.nil)
 refine aP (wpAny_lookBehind OG (by rw[OH];exact pastItsLine_dict (aH OI (by rw[List.length_cons,List.length_nil,sizeLine_eq];lia))) ?_)
 refine bX ?_
 refine bX (bX (hq h' _ h.objs.size (fun b o n hb=>?_) ?_))
 ·exact(hs.2 b (mq (iF hb))).trans ((Heap.get?_update_ne _ _ _ _ n).trans (fT _ hb))
 ·exact(hs.2 e hxs).trans (qT _ EL rfl)
end
section
variable{prog:Program}{w:World}{A:Around}{C:Addr}{Q E:QQ}{h:Heap}{g:Array GenState}{d:Drawn}{t:Nat}{os:OsState}
variable{nm q:Str}{N BE:Addr}{bs:List Value}{sn:List Str}{sub:List Value}{ab:Bool}{col:Option Bool}{dd:Option Addr}{k0 k1 k2 k3 k5:Option Value}
noncomputable abbrev nK(rest:List Value):Obj:={cls := .type "tuple",data := .seq rest.toArray}
noncomputable abbrev iY(C t:Addr):Obj:={cls := .ref C,data := .fields #[.ref t,.none,.none,.none,.bool false,.none]}
def OJ(hC:h.get? C=some (mS nm q C N BE bs sn sub ab col dd k0 k1 k2 k3 k5))(call:Looks (model prog w) h (specialOf (.ref C) "__call__") (some (.builtin "type.__call__")))
  (typ:Looks (model prog w) h (isInstance (.ref C) (.type "type")) true) (hi:Looks (model prog w) h (typeLookup (.ref C) "__init__") (some (.ref fI)))
  (hb:∀self,Looks (model prog w) h (bindSpecial (.ref fI) self) (.ref fI,[self])) (cn:Looks (model prog w) h (checkBuiltinCall "ValueError.__new__" ⟨.ref C::rest,[]⟩) ()) (hrest:rest.length≤sizeLine)
  (hq:av (model prog w) (A.under (.builtin "type.__call__" ⟨.ref C::rest,[]⟩)) (PySem.call (.ref fI) (.ref (h.objs.size+1)::rest)) (fun v s'=>v = .none∧Q (.ref (h.objs.size+1)) s') E ⟨(h.push (nK rest)).push (iY C h.objs.size),g,d,t,os⟩):
  av (model prog w) A (PySem.call (.ref C) rest) Q E ⟨h,g,d,t,os⟩:=by
 have F:=PySem.F.excBase_ValueError
 refine nA (kH rfl ?_)
 refine ai (of (n6 hC ?_))
 refine ai (of (call.at ?_))
 dsimp only
 rw[tc_bind]
 refine ai (aV (ai (aV ?_)))
 refine aV (a:=Fin.again (.call (.builtin "type.__call__") ⟨.ref C::rest,[]⟩)) (And.intro rfl ?_)
 refine Cu (Code.quiet_builtin _ (by decide +kernel)) (by decide +kernel) entry_typeCall (of (check_slot tc_kind tc_split typ (tc_args _ _ _) ?_))
 have hm:Looks (model prog w) h (mroOf (.ref C)) (.ref C::lQ BE):=((Looks.ld (part:=none) hC).andThen .now).andThen .now
 refine ai (of (hm.at ?_))
 rw[if_neg (by simp)]
 refine ai (of (wpAny_madeBy_exc hC ?_))
 show av _ _ (holding _ (PySem.call (.builtin "ValueError.__new__") (.ref C::rest))>>=_) _ _ _
 refine ai (c8 (of (PySem.wpAny_call (PySem.codeAny_call_builtin_code (Code.quiet_builtin _ F.quiet) (cn.here (OB hC ?_ hrest))))))
 have k:∀b o,h.get? b=some o→((h.push (nK rest)).push (iY C h.objs.size)).get? b=some o:=fun b o e=>fT _ (fT _ e)
 have hx:((h.push (nK rest)).push (iY C h.objs.size)).get? (h.objs.size+1)=some (iY C h.objs.size):=by heap_get
 have t1:Looks (model prog w) ((h.push (nK rest)).push (iY C h.objs.size)) (typeOf (.ref (h.objs.size+1))) (.ref C):=(Looks.ld hx).andThen .now
 have s1:Looks (model prog w) ((h.push (nK rest)).push (iY C h.objs.size)) (isSubtype (.ref C) (.ref C)) true:=EK (k _ _ hC) (List.contains_cons.trans (by rw[dW];rfl))
 have i1:=hi.keeps k
 have b1:=(hb (.ref (h.objs.size+1))).keeps k
 refine ai ?_
 refine ai (of (t1.here ?_))
 refine of (s1.here ?_)
 refine ai (c8 ?_)
 refine ai (of ((t1.andThen i1).here ?_))
 refine c8 (ai (of (b1.here ?_)))
 refine ai (bF hq (fun v s' z=>?_) fun _ _ x=>x)
 obtain⟨rfl,z⟩:=z
 exact aV (aV z)
end
structure EM(p:PC)(fI:Addr)(o:Obj)(fd:FuncData):Prop where
 obj:p.base.get? fI=some o
 data:o.data = .func fd
 body:∃q1 q2 q3 q4 q5 q6 q7 q8 q9 tT:Pos,(q2.endLine==q5.line)=true∧fd.body = .stmts [
  .Expr (.Call (.Attribute (.Name (aS "ValueError") q1) (aS "__init__") q2) [.Name (aS "self") q3,.Name (aS "reason") q4] [] q5) q6,
  .Assign [.Attribute (.Name (aS "self") q7) (aS "reason") q8] (.Name (aS "reason") q9) tT]
 kL:fd.closure=[]
 code:p.base.CodeRec fd.code fd.qualname
 co:fd.scope.isCoroutine=false
 gen:fd.scope.isGenerator=false
 kind:fd.scope.kind = .function
 glob:fd.globals=mainGlobals
 blt:fd.builtins=builtinsNs
 tU:fd.scope.names.lookup (aS "self")=some .local
 tV:fd.scope.names.lookup (aS "reason")=some .local
 EN:fd.scope.names.lookup (aS "ValueError")=some .globalImplicit
 bind:∀e v:Value,Looks p.M p.base (bindArgs fd ⟨[e,v],[]⟩) [(aS "self",e),(aS "reason",v)]
 typ:typeIn p.K (.ref fI)=some (.type "function")
 EO:p.mg (aS "ValueError")=none
 OL:nsIn p.K cStatics "thirdparty.any"=some none
def OM{K:Frag}:findCls K (.type "ValueError") (.type "type") (aS "__init__")=some (.val (.builtin "ValueError.__init__")):=by kernel_rfl
section
variable{prog:Program}{w:World}{A:Around}{s:Shared}{K:Frag}
def ON{E:QQ}(X:K.In s.heap)(h:Q (.builtin "ValueError.__init__",[]) {s with toks:=s.toks+1}):PySem.wpAny (model prog w) A (getMethod (.type "ValueError") (aS "__init__") pl) Q E s:=by
 have OO:opaqueClassAbove (.type "ValueError")=pure none:=by unfold opaqueClassAbove;dsimp only;rw[show Manifest.isStub "ValueError"=false from by decide +kernel];rfl
 have ht:typeOf (.type "ValueError")=pure (.type "type"):=by first | rfl | kernel_rfl
 have L0:Looks (model prog w) s.heap (typeOf (.type "ValueError")) (.type "type"):=Looks.of_pure ht
 have hg:findIn K (.type "type") "__getattribute__"=some (some (.builtin "type.__getattribute__")):=type_tga
 refine aP (aP (L0.here ((looks_findIn X hg).here ?_)))
 dsimp only
 rw[if_pos canon_tga]
 refine aP (PySem.wpAny_mono (Q:=fun v=>Q (v,[])) (E:=E) ?_ (fun _ _ z=>bX z) fun _ _ z=>z)
 have LO:Looks (model prog w) s.heap (opaqueClassAbove (.type "ValueError")) none:=Looks.of_pure OO
 have hh:handedIn (.builtin "ValueError.__init__")=true:=by first | rfl | decide +kernel
 refine cls_open X LO L0 hg (looks_hook X (r:=none) (by rfl)) (by show subIn K _ _=_;rfl) OM
  (bX (by show PySem.wpAny _ _ (handedOut _) _ _ _;rw[handedOut_of hh];exact bX h))
end
section
variable{p:PC}{A:Around}{s:Shared}
variable{C N BE:Addr}{nm q:Str}{bs:List Value}{sn:List Str}{sub:List Value}{ab:Bool}{col:Option Bool}{dd:Option Addr}{k0 k1 k2 k3 k5:Option Value}
def OP(hp:(q2.endLine==q5.line)=true):∃pl:Sem Bool,eval (.Call (.Attribute (.Name (aS "ValueError") q1) (aS "__init__") q2) [.Name (aS "self") q3,.Name (aS "reason") q4] [] q5) env=(do
   let ov ←eval (.Name (aS "ValueError") q1) env
   standAt q2.atName
   let (f,first) ←holding [ov] (getMethod ov (aS "__init__") pl)
   callWith q5 f first (backTo q5 (starEach [.Name (aS "self") q3,.Name (aS "reason") q4] env)) (backToKw q5 (keywordEach [] env))):=by
 refine⟨(do return (←importBound (.Name (aS "ValueError") q1) env).getD true),?_⟩
 rw[arm_eval_Call]
 have hm:∀few,methodCallPos few (.Name (aS "ValueError") q1) env q2 q5=pure q5:=fun few=>by unfold methodCallPos;rw[hp,Bool.or_true,if_pos rfl]
 unfold methodCall
 simp only [hm,pure_bind]
 rfl
def OQ(P:aO p)(F:EM p fI o fd)(hbody:fd.body = .stmts body)
  (hk:∀x,env.kindOf x=fd.scope.names.lookup x) (hkind:env.scope.kind = .function) (hg:env.globals=mainGlobals) (hb:env.builtins=builtinsNs) (ns:s.heap.Ns env.locals mL) (vs:mL (aS "self")=some (.ref e)) (vr:mL (aS "reason")=some v)
  (base:p.base.StaysIn s.heap) (hC:s.heap.get? C=some (mS nm q C N BE bs sn sub ab col dd k0 k1 k2 k3 k5)) (he:s.heap.get? e=some (iY C tp)) (nl:env.locals≠e) (nb:p.base.get? e=none)
  (hs:findIn p.K (.ref C) "__setattr__"=some (some (.builtin "object.__setattr__"))) (hr:findIn p.K (.ref C) (aS "reason")=some none) (nC:C≠e)
  {Q:Flow→Shared→Prop} {E:QQ}
  (hq:∀s' tp' dx,(∀b ob,b≠e→s.heap.get? b=some ob→s'.heap.get? b=some ob)→s'.gens=s.gens→s'.os=s.os→s'.heap.get? e=some {iY C tp' with dict:=some dx}→Q .next s'):
  PySem.wpAny p.M A (execs body env) Q E s:=by
 obtain⟨q1,q2,q3,q4,q5,q6,q7,q8,q9,tT,hp,hB⟩:=F.body
 rw[hbody] at hB
 cases hB
 refine wpAny_execs_cons ?_
 rw[arm_exec_Expr,show interactive env=false from by unfold interactive;rw[hkind];rfl]
 refine aP (PySem.wpAny_standAt ?_)
 rw[if_neg eE]
 refine aP (iE (a:=false) rfl ?_)
 rw[if_neg eE]
 obtain⟨pl,heq⟩:=OP (q1:=q1) (q3:=q3) (q4:=q4) (env:=env) hp
 refine aP (methodCall_KW (pl:=pl) ?_ heq)
 refine Name_function_global hkind ((hk _).trans F.EN) (Calls.loadGlobal_builtin (hg▸P.g.keeps base) F.EO (hb▸P.b.keeps base) ((P.bi _ (by decide)).trans PyProof.Rows.Boot.«ValueError») ?_) (by decide)
 refine ON (P.X.keeps base) ?_
 refine Calls.callWith_builtin rfl (Calls.evalArgs_plain (Calls.spliced_cons ?_))
 have ld:∀{x:Str} {q:Pos} {y:Value} {Q:QQ} {s1:Shared} {mm:QN},fd.scope.names.lookup x=some .local→s1.heap.Ns env.locals mm→mm x=some y→(x==("__debug__":Str))=false→Q y s1→PySem.wpAny p.M A (eval (.Name x q) env) Q E s1:=
  fun h1 h2 h3 h4 h5=>PySem.wpAny_Name (wpAny_loadName_local hkind ((hk _).trans h1) h2 h3 h5) h4
 refine ld F.tU ns vs (by decide) ?_
 refine Calls.spliced_cons (ld F.tV ns vr (by decide) (Calls.spliced_nil ?_))
 obtain⟨hh,g,d,t,os⟩:=s
 refine OD hC he rfl fun h1 OR k1 e1=>?_
 refine wpAny_dropValue ?_
 refine wpAny_execs_cons ?_
 rw[arm_exec_Assign]
 refine aP (PySem.wpAny_standAt ?_)
 refine aP (iE (a:=false) rfl ?_)
 rw[if_neg eE]
 have EP:h1.Ns env.locals mL:=let ⟨o,es,ep,e,r⟩:=ns;⟨o,es,ep,k1 _ _ nl e,r⟩
 refine aP (ld F.tV EP vr (by decide) ?_)
 refine aP (iE (a:=none) rfl ?_)
 show PySem.wpAny _ _ (assign (.Attribute (.Name (aS "self") q7) (aS "reason") q8) env v>>=fun _=>pure Flow.next) _ _ _
 rw[arm_assign_Attribute]
 refine aP (aP (nX (ld F.tU EP vs (by decide) (aP (PySem.wpAny_standAt (aP (nX ?_)))))))
 have X1:p.K.In h1:=P.X.keeps fun b ob hb=>k1 _ _ (fun z=>by rw[z,nb] at hb;exact nn hb) (base b ob hb)
 refine OE (k1 _ _ nC hC) e1 (looks_findIn X1 hs) (looks_findIn X1 hr) fun h2 Xe dx k2 e2=>?_
 refine PySem.wpAny_release ?_
 refine bX (bX ?_)
 exact hq _ OR dx (fun b ob n hb=>k2 _ _ n (k1 _ _ n hb)) rfl rfl e2
end
structure jZ(p:PC):Prop where
 ER:∀x y,exmOne p.K (.ref (p.exc x)) (.ref (p.exc y))=some (decide (x=y))
 cn:∀x v,Looks p.M p.base (checkBuiltinCall "ValueError.__new__" ⟨[.ref (p.exc x),v],[]⟩) ()
 tW:∀x,p.mg (aS x.txt)=some (.ref (p.exc x))∧(aS x.txt==("__debug__":Str))=false
 made:∃fI o fd,EM p fI o fd∧∀x,findIn p.K (.ref (p.exc x)) "__init__"=some (some (.ref fI))
 obj:∀x,∃nm q N BE bs sn sub ab col dd k0 k1 k2 k3 k5,p.base.get? (p.exc x)=some (mS nm q (p.exc x) N BE bs sn sub ab col dd k0 k1 k2 k3 k5)
 fits:∀x,findIn p.K (.ref (p.exc x)) "__setattr__"=some (some (.builtin "object.__setattr__"))∧findIn p.K (.ref (p.exc x)) (aS "reason")=some none ∧
  specialIn p.K (.ref (p.exc x)) "__call__"=some (some (.builtin "type.__call__"))∧instIn p.K (.ref (p.exc x)) (.type "type")=some true∧keepIn p.K (.ref (p.exc x))=true
section
def OS(P:aO p)(XO:jZ p)(ok:bA p f)(I:Inv p f W lv σ s){Q E:QQ}
  (hq:∀e s' tp dx,(∀b o,s.heap.get? b=some o→s'.heap.get? b=some o)→s'.gens=s.gens→s'.os=s.os→s.heap.get? e=none→s'.heap.get? e=some {iY (p.exc x) tp with dict:=some dx}→Q (.ref e) s'):
  av p.M f.A (call (.ref (p.exc x)) [v]) Q E s:=by
 refine cps fun C9 k9=>?_
 obtain⟨fI,o,fd,F,OT⟩:=XO.made
 obtain⟨nm,q,N,BE,bs,sn,sub,ab,col,dd,k0,k1,k2,k3,k5,hC⟩:=XO.obj x
 obtain⟨f1,f2,f3,f4,f5⟩:=XO.fits x
 refine k9 ?_
 have X:=P.at I
 have ES:=I.base hC
 have hst:=I.stays
 have aG:=ok.deep (n:=1) rfl
 obtain⟨hh,g,d,t,os⟩:=s
 obtain⟨body,hbody⟩:∃body,fd.body = .stmts body:=by
  refine cps fun C9 k9=>?_
  obtain⟨q1,q2,q3,q4,q5,q6,q7,q8,q9,tT,hp,hB⟩:=F.body
  refine k9 ?_
  exact⟨_,hB⟩
 refine OJ ES (looks_specialIn X f3) (looks_instIn X f4) (looks_findIn X (OT x)) (fun self=>bind_fn X self F.typ) ((XO.cn x v).keeps hst) (by size_fits) ?_
 have k:∀b o,hh.get? b=some o→((hh.push (nK [v])).push (iY (p.exc x) hh.objs.size)).get? b=some o:=fun b o e=>fT _ (fT _ e)
 have tX:p.base.StaysIn ((hh.push (nK [v])).push (iY (p.exc x) hh.objs.size)):=fun b o e=>k _ _ (hst b o e)
 have hx:((hh.push (nK [v])).push (iY (p.exc x) hh.objs.size)).get? (hh.objs.size+1)=some (iY (p.exc x) hh.objs.size):=by heap_get
 have en:hh.get? (hh.objs.size+1)=none:=gj fun o e=>qU _ (eL (iF e))
 have eb:p.base.get? (hh.objs.size+1)=none:=gj fun o e=>bU en (hst _ _ e)
 have nd:(aS "self":Str)≠aS "reason":=by decide
 refine nA (zM (s:=⟨(hh.push (nK [v])).push (iY (p.exc x) hh.objs.size),g,d,t,os⟩) aG (tX _ _ F.obj) F.data (P.nolimit.keeps tX) (F.code.keeps tX) hbody ((F.bind _ _).keeps tX) F.kL ?_ F.co F.gen F.kind fun s₁ y=>?_)
 ·intro z hz
  simp only [cS,fN,or_false] at hz
  rcases hz with rfl | rfl
  ·exact .inl F.tU
  ·exact .inl F.tV
 ·have kk:=y.toInCall.keep
  obtain⟨h1,Xf,e1⟩:=y.toInCall.same
  refine of (OQ P F hbody (e:=hh.objs.size+1) (tp:=hh.objs.size) (v:=v) (fun _=>rfl) F.kind F.glob F.blt y.toInCall.ns ?_ ?_ (fun b o e=>kk _ _ (tX b o e)) (kk _ _ (k _ _ ES)) (kk _ _ hx) ?_ eb f1 f2 ?_ fun s2 tp dx k2 g2 o2 e2=>?_)
  ·exact zN (by simp [nd]) (.head _) F.tU
  ·exact zN (by simp [nd]) (.tail _ (.head _)) F.tV
  ·intro z
   have:=y.toInCall.fresh
   rw[z] at this
   simp only [Heap.size_push] at this
   lia
  ·exact fun z=>bU eb (z▸hC)
  ·exact⟨rfl,hq _ s2 tp dx (fun b ob e=>k2 b ob (fun z=>bU en (z▸e)) (kk _ _ (k _ _ e))) (g2.trans (e1▸rfl)) (o2.trans (e1▸rfl)) en e2⟩
end
section
variable{sn:List Str}{sub:List Value}
def OU{E:QQ}(hh:A.handled=none)
  (h:av (model prog w) A x (fun v s₁=>∃e t dx,v = .ref e∧s₁.heap.get? C=some (mS nm q C N BE bs sn sub ab col dd k0 k1 k2 k3 k5)∧s₁.heap.get? e=some {iY C t with dict:=some dx}∧E (.ref e) s₁) E s):
  av (model prog w) A (raiseStmt env (some x) none) Q E s:=by
 have tS:=(we (C:=C) (BE:=BE)).2.1
 refine ai (bF h (fun v s₁ h₁=>?_) fun _ _ x=>x)
 refine cps fun C9 k9=>?_
 obtain⟨e,t,dx,rfl,hC,he,hE⟩:=h₁
 obtain⟨hp,g,d,tk,os⟩:=s₁
 refine k9 ?_
 refine of ?_
 repeat (first | with_reducible refine wpAny_loadPart_at he ?_ | with_reducible refine wpAny_loadPart_at hC ?_ | (with_reducible refine wpAny_isSubtype_exc hC ?_;rw[tS]) | wp_step)
 exact PySem.wpAny_raiseNew_none hh hE
end
section
def OV(P:aO p)(XO:jZ p):SS p cx n (.raise x y):=fun{ps sc f lv W σ s Q} g hX I w=>by
 refine .re (arm_exec_Raise ..) (Ev.stand ?_)
 refine cps fun C9 k9=>?_
 obtain⟨nm,q,N,BE,bs,sn,sub,ab,col,dd,k0,k1,k2,k3,k5,hC⟩:=XO.obj x
 refine k9 ?_
 refine OU (x:=do let v ←eval (.Call (mz x (hd (tl (tl ps)))) [.Constant (.str y.s) 0 (hd (tl (tl (tl ps))))] [] (hd (tl ps))) f.env;standAt (hd ps);pure v) (C:=p.exc x) (nm:=nm) (q:=q) (N:=N) (BE:=BE) (bs:=bs) (sn:=sn) (sub:=sub) (ab:=ab) (col:=col) (dd:=dd) (k0:=k0) (k1:=k1) (k2:=k2) (k3:=k3) (k5:=k5) g.ok.handled ?_
 refine ai (qb (of (Name_function_global g.ok.kind ((g.km.all _).trans (jY hX)) (loadGlobal_global (g.ok.globals▸P.g.keeps I.stays) (XO.tW x).1 ?_) (XO.tW x).2)))
 refine callWith_of (P:=p.K.In) rfl (fun h X=>keeps_K (XO.fits x).2.2.2.2 h X) (of (Calls.evalArgs_plain (Calls.spliced_cons (Constant_str (k:=0) (pos:=hd (tl (tl (tl ps)))) (Calls.spliced_nil ⟨P.X.keeps I.stays,?_⟩)))))
 have I1:Inv p f W lv σ {s with toks:=s.toks+1}:=I.p8 rfl
 refine OS P XO g.ok I1 fun e s' tp dx k gg o en ee=>ai (iV (aV ?_))
 have nE:=I.free en
 exact⟨e,tp,dx,rfl,k _ _ (I.base hC),ee,_,(Step.keeps (W:=W) (s:=s) (s':=s') k gg o).put (r := .x) nE en,x,lv,σ,(I.keeps k).put (r := .x) nE ee trivial,⟨e,_,_,rfl,Wd.qf,ee,rfl,rfl,.inl rfl⟩,w⟩
end
section
def OW{E:QQ}(X:gS p W x e s.heap)
  (h:∀s',(∀b o,s.heap.get? b=some o→s'.heap.get? b=some o)→s'.gens=s.gens→s'.os=s.os→Q () s'):PySem.wpAny p.M A (setFlight e none) Q E s:=by
 refine cps fun C9 k9=>?_
 obtain⟨ea,oe,vs,rfl,own,ho,hc,hd,hh⟩:=X
 refine k9 ?_
 rcases hh with h1 | ⟨T,oT,ts,h1,Oo,Oq,hT,nH,h3⟩
 ·unfold setFlight
  refine aP (wpAny_field ho hd h1 ?_)
  rw[if_neg (by simp)]
  exact bX (h s (fun _ _ e=>e) rfl rfl)
 ·exact wpAny_setFlight_none ho hd h1 hT nH (Array.getElem?_eq_some_iff.mp h3).1 (h _ (fun b o e=>EE hT nH h3 b o e) rfl rfl)
def ET(xa:gS p W x e h):e≠byPass:=by
 obtain⟨ea,_,_,rfl,_⟩:=xa;intro q;cases q
def EU(P:aO p)(XO:jZ p)(ok:bA p f)(km:oU sc f)(hX:nG sc y=true)(I:Inv p f W lv σ s)(xa:gS p W x e s.heap)
  (h:R (.ok (if x=y then .brk else .next)) s):PySem.codeAny p.M A (.handlers e [.ExceptHandler (some (mz y q)) none [] pos] f.env) R s:=by
 refine codeAny_handlers_test (Name_function_global ok.kind ((km.all _).trans (jY hX)) (loadGlobal_global (ok.globals▸P.g.keeps I.stays) (XO.tW y).1 ?_) (XO.tW y).2)
 refine cps fun C9 k9=>?_
 obtain⟨ea,oe,vs,rfl,own,ho,hc,hd,hh⟩:=xa
 refine k9 ?_
 have t1:Looks p.M s.heap (typeOf (.ref ea)) (.ref (p.exc x)):=(Looks.ld ho).andThen (by rw[hc];exact .now)
 refine(exm_one (P.X.keeps I.stays) t1 (XO.ER x y)).here ?_
 by_cases z:x=y
 ·rw[if_pos z] at h;rw[fF z];exact h
 ·rw[if_neg z] at h;rw[iS z];exact h
def OX{m:S}{e:E}(h:m.BS=some e):m = .ret e:=by cases m <;> cases h;rfl
def OY{e:E}(h:e.nj=some v):e = .c (.str v):=by
 cases e with
 |c v=>rw[BX h]
 |_=>exact nn h
def EV(P:aO p)(XO:jZ p)(ok:bA p f)(km:oU sc f){m:List S}{ps:Ps}(hX:nG sc x=true)(I:Inv p f W lv σ s)(xa:gS p W x e s.heap)(w:aQ (rm m) fun v=>Q (.ret v) lv σ):
  PySem.wpAny p.M f.A (handleBy e f.env (.ExceptHandler (some (mz x q)) none (dj m ps).1 pos::rest)) (PK W s (KF p f Q)) bot s:=by
 refine bR w fun v hr w=>aX hr fun a ha h1=>aX h1 fun e1 he h2=>bW h2 fun n hv hr=>?_
 cases BZ ha
 cases OX he
 cases OY hv
 cases hr
 refine wpAny_handleBy_cons (EU P XO ok km hX I xa ?_) (ET xa)
 rw[if_pos rfl]
 refine codeAny_handlers_suite (OW xa fun s1 k1 g1 o1=>wpAny_execs_cons (wpAny_Return_some (Constant_str ?_)))
 exact⟨W,.keeps k1 g1 o1,.ret (.str n),lv,σ,I.keeps k1,⟨_,rfl,_,rfl⟩,w⟩
def EW(P:aO p)(XO:jZ p)(ok:bA p f)(km:oU sc f)(hX:nG sc x=true)(I:Inv p f W lv σ s)(xa:gS p W x e s.heap)(w:aQ (rm m) fun v=>Q (.ret v) lv σ):
  cP p f W s (handleBy e f.env (.ExceptHandler (some (mz x q)) none (dj m ps).1 pos::rest)) Q:=bF (Mine.Internal.of (EV P XO ok km hX I xa w)) (fun _ _ z=>z) fun _ _ z=>z.elim
def OZ(P:aO p)(XO:jZ p)(ok:bA p f)(km:oU sc f)(hY:nG sc y=true)(hX:nG sc x=true)(ne:x≠y)(I:Inv p f W lv σ s)(xa:gS p W x e s.heap)(w:aQ (rm m) fun v=>Q (.ret v) lv σ):
  cP p f W s (handleBy e f.env (.ExceptHandler (some (mz y q')) nm body pos' :: .ExceptHandler (some (mz x q)) none (dj m ps).1 pos::rest)) Q:=
 bF (Mine.Internal.of (wpAny_handleBy_cons (Q:=PK W s (KF p f Q)) (E:=bot) (EU P XO ok km hY I xa (by rw[if_neg ne];exact EV P XO ok km hX I xa w)) (ET xa))) (fun _ _ z=>z) fun _ _ z=>z.elim
def EX(ok:bA p f)(km:oU sc f)(hb:cP p f W s body Qb)(hp:∀{lv σ},(Qb .next lv σ→Q .next lv σ)∧∀v,Qb (.ret v) lv σ→Q (.ret v) lv σ)
  (hk:∀{W' x lv' σ' s' e},Inv p f W' lv' σ' s'→gS p W' x e s'.heap→Qb (.exc x) lv' σ'→cP p f W' s' (handleBy e f.env (h₀::hs)) Q):cP p f W s (tryStmt false body (h₀::hs) (execs [] f.env) [] f.env) Q:=by
 refine ai (yJ (bF hb (fun a s' k=>k.casesOn fun W' st k=>k.casesOn fun fl oS σ1 I r q=>?_) fun e s1 k=>k.casesOn fun W1 st1 k=>k.casesOn fun x oS σ1 I1 xa q=>?_))
 ·have q':PK W s (KF p f Q) a s':=⟨W',st,fl,oS,σ1,I,r,by
   cases fl with
   |next=>exact hp.1 q
   |ret v=>exact hp.2 v q
   |exc x=>exact r.elim⟩
  cases a <;> exact aV q'
 ·obtain⟨r,htop⟩:=km.top
  have lv:=ai (f:=fun _:Unit=>handleBy e f.env (h₀::hs)) (Mine.Internal.of (PySem.wpAny_mono (EF (E:=bot) I1 xa (htop▸ok.frames) htop ok.frame) (fun _ s2 h2=>(h2.elim fun W2 h2=>Ev.to h2.1 (hk h2.2.1 h2.2.2 q):av p.M f.A (handleBy e f.env (h₀::hs)) (PK W1 s1 (KF p f Q)) (PK W1 s1 (oW p f Q)) s2)) fun _ _ x=>x.elim))
  unfold leaving at lv
  rw[bind_assoc] at lv
  exact Ev.to st1 lv
end
section
def O0(P:aO p)(XO:jZ p)(hb:SB p cx n b):SS p cx n (.sO b x h):=fun{ps sc f lv W σ s Q} g hh I w=>
 .re (arm_exec_Try ..) (Ev.stand (EX (Qb:=BU x h Q) g.ok g.km (hb g (aE hh).1 I w) ⟨id,fun _=>id⟩ fun I' xa w=>EW P XO g.ok g.km (aE hh).2 I' (w.1▸xa) w.2))
def O1(P:aO p)(XO:jZ p)(hb:SB p cx n b):SS p cx n (.sQ b x h y k):=fun{ps sc f lv W σ s Q} g hh I w=>by
 obtain⟨h1,h2⟩:=aE (aE hh).2
 refine .re (arm_exec_Try ..) (Ev.stand (EX (Qb:=yx x h y k Q) g.ok g.km (hb g (aE hh).1 I w) ⟨id,fun _=>id⟩ fun{W' z lv' σ' s' e} I' xa w=>?_))
 by_cases q:x=z
 ·exact EW P XO g.ok g.km h1 I' (q▸xa) ((if_pos q).mp w)
 ·obtain⟨q2,w⟩:=(if_neg q).mp w
  exact OZ P XO g.ok g.km h1 h2 (fun e=>q (e.symm.trans q2)) I' (q2▸xa) w
def sS(P:aO p)(XO:jZ p)(C:eg p cx n)(m:S):SS p cx n m:=
 S.rec (motive_1:=fun m=>SS p cx n m) (motive_2:=fun ms=>SB p cx n ms) (fun _ _=>N9 P C) (fun _ _ _=>NR P C) (fun _=>NJ P C) (fun _=>NH P C) NG (fun _ a b h1 h2=>NK P C h1 h2) (fun _ b h=>Od P C h) (fun _ _ b h=>Oe P C h)
  (fun _ _=>OV P XO) (fun b _ _ h _=>O0 P XO h) (fun b _ _ _ _ h _ _=>O1 P XO h) (fun _ _=>NN P C) NF (fun _ {ps sc f lv W σ s Q} g h I w=>w.elim) (fun{ps sc f lv W σ s Q} g h I w=>w.elim) El (fun m ms h1 h2=>Em h1 h2) m
def sB(P:aO p)(XO:jZ p)(C:eg p cx n)(ms:List S):SB p cx n ms:=by
 induction ms with
 |nil=>exact El
 |cons m ms ih=>exact Em (sS P XO C m) ih
def O3(P:aO p)(XO:jZ p)(Fs:tR p)(d:Nat):eg p (ah d) (2 * d):=by
 induction d with
 |zero=>exact fun _ _ _ _ w=>w.elim
 |succ d ih=>exact Ox P Fs fun ms=>sB P XO ih ms
end
section
def EY:leftWithCleanup #[]=false:=by kernel_rfl
def O5{R:QR}(hreg:s.asleep)(hgens:s.gens=#[])
  (h:av (model prog w) callerA t (fun fin s'=>∃f,fin = .done f∧R (.ok f) s'∧s'.gens=#[]) bot s):
  ∃n r s',schedN (denote table) prog w n (.single s ⟨t,.builtin "claim.caller" {},default,[]⟩) = .halted (outcomeOf r) s'∧s'.heap.life=s.heap.life∧R r s':=by
 have h':Sem.wp (model prog w) ⟨.builtin "claim.caller" {},none,none,[],none⟩ t (Sem.finPost (model prog w) ⟨.builtin "claim.caller" {},none,none,[],none⟩ fun r s'=>(R r s'∧s'.gens=#[])∧leftWithCleanup s'.gens=false)
   (fun e _ s'=>(R (.error e) s'∧s'.gens=#[])∧leftWithCleanup s'.gens=false) default s:=
  Sem.wp_mono _ _ t (fun fin p' s' x=>by obtain⟨f,rfl,a,b⟩:=x;exact⟨⟨a,b⟩,by rw[b];exact EY⟩) (fun _ _ _ x=>x.elim) default s (h _ default caller_in (by decide +kernel) fun x hx=>nomatch hx)
 obtain⟨n,r,s₁,hn,hR,hg⟩:=(wp_iff_halts (M:=model prog w) (R:=fun r s'=>R r s'∧s'.gens=#[]) ..).mp h'
 obtain⟨s₂,hr,hf,hc⟩:=runNI_real _ _ _ hn (outcomeOf_ends r)
 obtain rfl:s₂=s₁:=Shared.eq_of_forget_eq hf hg
 have e:=sched_gens (G:=#[]) EY hr (outcomeOf_ends r) hg rfl hc hreg
 refine⟨n,r,s₂,?_,runN_life _ _ _ hr,hR⟩
 obtain⟨a1,a2,a3,a4,a5⟩:=s
 obtain⟨b1,b2,b3,b4,b5⟩:=s₂
 cases (show a2=#[] from hgens)
 cases (show b2=#[] from hg)
 exact e
def O6{c:ClaimW}{tree:List Value→Sem Fin}(hz:s.asleep)(hgens:s.gens=#[])
  (hspec:∀args,c.pre args=true→WData.layableAll args=true→∀ord:List DictEntry→List DictEntry,(∀l,(ord l).Perm l) →
   ∃vs s₁,layAllW c.records (classAt s.heap) w.params ord args s=some (vs,s₁) ∧
    av (model c.prog w) callerA (tree vs) (fun fin s'=>∃f,fin = .done f∧(c.Ends s args vs s₁ (.ok f) s'∧s'.os=s.os∧kept s'.heap)∧s'.gens=#[]) bot s₁):
  c.CallFrom (fun vs=>⟨tree vs,.builtin "claim.caller" {},default,[]⟩) w free gens kept s:=by
 intro args hpre hlay ord hord
 refine(hspec args hpre hlay ord hord).elim fun vs x=>x.elim fun s₁ x=>?_
 have hal:=layAllW_rest _ _ _ x.1
 refine(O5 (R:=fun r s'=>c.Ends s args vs s₁ r s'∧s'.os=s.os∧kept s'.heap) (Shared.asleep_of_life hal.2.2.2 hz) (hal.1.trans hgens) x.2).elim fun k y=>y.elim fun r y=>y.elim fun s' y=>?_
 exact⟨vs,s₁,x.1,k,_,s',y.1,Or.imp (fun h=>h.imp fun v h=>⟨aa outcomeOf h.1,h.2.1,h.2.2.1,h.2.2.2.1,fun b o y _=>h.2.2.2.2.1 b o y,h.2.2.2.2.2⟩)
  (fun h=>h.imp fun e h=>h.imp fun ob h=>h.imp fun cls h=>⟨aa outcomeOf h.1,h.2.1,h.2.2.1,h.2.2.2.1,h.2.2.2.2.1,fun b o y _=>h.2.2.2.2.2 b o y⟩) y.2.2.1,(fun _ i x hx=>by rw[hgens] at hx;simp at hx),y.2.2.2.2,aa Life.seen (y.2.1.trans hal.2.2.2),Shared.rest_eq y.2.2.2.1⟩
abbrev EZ(Hf:World→Heap)(q:Program)(loose:List Str)(XP:QN→Heap→Prop)(r:RowW)(d:DefRec):Prop:=
 ∀(w:World) (s₀ s₁:Shared) (mg mb:QN),Ground q loose r.records XP w s₀ mg mb s₁.heap→(∀b o,(Hf w).get? b=some o→s₁.heap.get? b=some o)→∀(a:Addr),mg d.name=some (.ref a)→s₁.gens=#[] →
  ∀(args:List WData) (vals:List Value) (as:List Addr),r.claim.pre args=true→WData.layableAll args=true→ReadsAllW r.records (classAt s₀.heap) s₁.heap vals args as→WellAll w.params s₁.heap vals args→(∀a∈as,(a==sysModules)=false) →
   av (model r.prog w) callerA (PySem.call (.ref a) vals) (fun v s'=>GoodWG r.claim (classAt s₀.heap) (ExcName.means s₀.heap) args s₁ (.ok (.ret v)) s'∧s'.gens=#[]) bot s₁
def O7{Hf:World→Heap}{r:OpenRow}
  (left:LeftO r.prog q loose Xt (fun s=>s.heap) Hf N) (hX:∀s,Xt s=true→XP (s.heap.nsMap mainGlobals) s.heap) (hXk:∀mg h h',XP mg h→(∀b o,h.get? b=some o→h'.get? b=some o)→XP mg h')
  (hdef:defOf q r.name=some (d,kwd)) (hp:r.prog.theDef r.name=some (d.params,d.body,d.scope)) (hk:kwWritten? d.params.kwonlyargs d.params.kw_defaults=some kwd) (hRf:∀s,Xt s=true→RecFacts r.records s.heap) (hwr:(!r.writes||r.records.isEmpty)=true)
  (k1:r.wellSaid=true) (ok:(chainsOk q&&opensWell r.prog&&(frees r.toRowW&&r.within.isEmpty))=true) (hb:r.prog.bare) (hw:r.toRowW.promised) (call:EZ Hf q loose XP r.toRowW d):r.Holds:=by
 have gO:=aE ok
 have gU:=aE gO.1
 have rR:=aE gO.2
 have fr:=frees_parts rR.1
 refine⟨k1,hw,⟨⟨hb,gU.2,by show r.toRowW.makers.map _=[];rw[fr.2.2.2.2];rfl⟩,hw.witness,fun w=>⟨(left.behind hX gU.1 w).1,fun s' hs'=>((left.behind (XP:=fun mg h=>XP mg h∧RecFacts r.records h) (fun s hs=>⟨hX s hs,hRf s hs⟩) gU.1 w).2 s' hs').elim fun s₀ x=>x.2.2.elim fun s z=>?_⟩⟩⟩
 have j3:=z.2.2.2.2.1
 have RF:=j3.X.2
 have G0:Ground q loose [] XP w s (s.heap.nsMap mainGlobals) (s.heap.nsMap builtinsNs) s.heap:=⟨j3.T,j3.B,j3.D,j3.TE,j3.TD,j3.W,j3.X.1,j3.cls,j3.has,j3.apart,j3.once,j3.K⟩
 refine⟨s₀,x.1,x.2.1,s,z.1,fun n hn=>?_,RF.1,RF.2.1,?_⟩
 ·obtain rfl:n=r.name:=by split at hn <;> simp_all
  exact pinned_of_view z.2.2.2.1 G0 hdef hp hk
 have hgens:s.gens=#[]:=Array.eq_empty_of_size_eq_zero (beq_iff_eq.mp z.2.2.1)
 have G:Ground q loose r.records XP w s _ _ s.heap:=RF.ground G0
 refine O6 (c:=r.toRowW.claim) (tree:=fun vs=>do match ←nsGet mainNs r.name with
   |some f=>do ret (←PySem.call f vs)
   |none=>unsupported "claim.caller:no-such-global") z.2.1 hgens fun args hpre hlay ord hord=>?_
 refine(qR.mp (layAllW_isSome (P:=w.params) (ord:=ord) G.has args r.toRowW.args s (pre_splitW hpre).1)).elim fun vs hlaid=>?_
 have keeps:=layAllW_keeps _ _ _ hlaid
 have hal:=layAllW_rest _ _ _ hlaid
 refine(reads_layAllW hord _ _ _ hlaid hlay vs.2.heap (fun _ _ e=>e)).elim fun as y=>?_
 have L:Laid r.records w s vs.2 args vs.1 as:=⟨⟨ord,hord,hlaid⟩,y.1,y.2.1,y.2.2,keeps,hal.1.trans hgens,hal.2.2.1⟩
 have G₁:=G.keeps hXk keeps
 refine(G₁.fn hdef).elim fun a b=>⟨vs.1,vs.2,hlaid,?_⟩
 have h1:s.heap.nsMap mainGlobals d.name=some (.ref a):=defOf_name hdef▸b.elim fun _ b=>b.elim fun _ b=>b.elim fun _ b=>b.elim fun _ b=>b.elim fun _ b=>b.elim fun _ b=>b.1
 refine ai (of (wpAny_nsGet G₁.T.g ?_))
 rw[show s.heap.nsMap mainGlobals r.name=some (.ref a) from defOf_name hdef▸h1]
 refine ai (bF (call w s vs.2 _ _ G₁ (fun b o e=>keeps b o (z.2.2.2.2.2.symm▸e)) a h1 (hal.1.trans hgens) args vs.1 as hpre hlay L.reads L.well (L.low G.low)) (fun v s' g=>?_) fun _ _ x=>x)
 have z':=g.1.laid (c:=r.toRowW.claim) fr.1 (List.isEmpty_iff.mp rR.2) (ident_freeW fr.2.1 fr.2.2.1 fr.2.2.2.1) L
 exact aV ⟨_,rfl,⟨z'.1,z'.2.1,fun q=>⟨namesKept_of z.1 z.2.2.2.1 _ keeps g.1.2.1.old,noTable hwr q⟩⟩,g.2⟩
end
section
noncomputable abbrev fst(fd:FuncData)(L a:Addr)(n:Nat):FC:={A:=callerA.deeper (callEnvC fd L a),env:=callEnvC fd L a,frs:=[callEnvC fd L a],fr:=L,lvl:=n,own:=true}
noncomputable def Wd.first(p:PC)(nv:List Addr):Wd:=⟨fun b=>if b∈nv then some .var else(p.base.get? b).map .pin,fun _=>none⟩
def bA.first(F:tQ p fid a o fd ps)(hn:n≤22)(x:ql s fd a bs s₁):bA p (fst fd s.heap.objs.size a n) where
 frames:=Around.frames_deeper (A:=callerA) rfl
 head:=⟨_,_,rfl,rfl,F.gen,F.co,F.blt,F.glob⟩
 aG:=fU (kq (qV (Nat.mul_le_mul_left 15 hn) _) 150) (by decide:callerA.depth+1+15 * 22+150<1000)
 units:=fU (kq (qV (Nat.mul_le_mul_left 60 hn) _) 200) (by decide:callerA.units+3+60 * 22+200<9900)
 handled:=rfl
 cellsOf:=fun h=>h.elim (fun h=>qR.mp (tP h)) fun h=>absurd h (F.v8 _)
 frame:=rfl
 kind:=F.kind
 globals:=F.glob
 builtins:=F.blt
 apart:=fO.mpr ⟨fun hb=>(bP.mp hb).elim fun q e=>jh _ (e.2▸x.above q.1 q.2 e.1),by
  have:=x.apart
  rw[List.Nodup,List.pairwise_map]
  exact this⟩
theorem Inv.first(P:aO p)(F:tQ p fid a o fd ps)(hs:s.heap=p.base)(x:ql s fd a bs s₁)(rb:jU p.w0 jr bs)(nd:(jr.map (·.1)).Nodup):Inv p (fst fd s.heap.objs.size a n) (Wd.first p (fst fd s.heap.objs.size a n).mine) jr σ s₁:=by
 have hcn:=Ez (n:=s.heap.objs.size+1) F.names
 have cl:∀q∈(callEnvC fd s.heap.objs.size a).cells,∃v,s₁.heap.IsCell q.2 v:=fun q hq=>⟨_,x.cell q.1 q.2 (vP hcn hq)⟩
 have big:∀c∈(fst fd s.heap.objs.size a n).mine,s.heap.objs.size≤c:=fun c h=>(cS.mp h).elim (fun e=>cT e.symm) fun h=>(bP.mp h).elim fun q e=>e.2▸eL (x.above q.1 q.2 e.1)
 have nb:∀{b o},p.base.get? b=some o→b∉(fst fd s.heap.objs.size a n).mine:=fun{b o} e h=>jh _ (je (iF (hs▸e)) (big b h))
 have le:p.w0.Le (Wd.first p (fst fd s.heap.objs.size a n).mine):=⟨fun{b t items k} e=>by
  obtain⟨o,e1,e2⟩:=m9.mp e
  exact(if_neg (nb e1)).trans ((aa (Option.map Role.pin) e1).trans (aa some e2)),nn⟩
 have jk:∀{c},c∈(fst fd s.heap.objs.size a n).mine→(Wd.first p (fst fd s.heap.objs.size a n).mine).aC c=some .var:=fun h=>if_pos h
 exact{
  aC:=fun{b r} e=>by
   by_cases z:b∈(fst fd s.heap.objs.size a n).mine
   ·have h:∃o,s₁.heap.get? b=some o∧rz o:=(cS.mp z).elim (fun e=>e▸u9 x.toInCall.ns) fun h=>(bP.mp h).elim fun q e=>e.2▸(cl q e.1).elim fun v h=>h.elim fun o h=>⟨o,h.1,fun vs e=>nomatch h.2.symm.trans e⟩
    exact h.elim fun o h=>⟨o,h.1,cA (jk z) e▸h.2⟩
   ·obtain⟨o,e1,e2⟩:=m9.mp ((if_neg z).symm.trans e)
    exact⟨o,x.toInCall.keep _ _ (hs.symm▸e1),e2▸rfl⟩
  pins:=fun e=>(if_neg (nb e)).trans (aa (Option.map Role.pin) e)
  loc:=nn
  cell:=nn
  vars:=gH.call F P rb nd x le
  var:=jk (.head _)
  cells:=fun q hq=>⟨.inl (jk (.tail _ (bP.mpr ⟨q,hq,rfl⟩))),cl q hq⟩
  frs:=fun e he=>by
   obtain rfl:=gf.mp he
   exact⟨_,_,rfl,(show fd.scope.kind≠_ by rw[F.kind];nofun),jk (.head _),rfl⟩
  above:=hs▸cL _}
def O8(P:aO p)(XO:jZ p)(Fs:tR p)(hlt:(bu fid).body≠[.bad])(hd:2 * d+2≤22)(hs:s.heap=p.base)(ra:aN p.w0 as bS)(w:wF (ah d) fid as σ (fun r _=>r = .bool true) bV):
  av p.M callerA (call (.ref (p.fn fid)) bS []) (fun v s'=>v = .bool true∧(∀b o,s.heap.get? b=some o→s'.heap.get? b=some o)∧s'.gens=s.gens∧s'.os=s.os) bot s:=by
 refine bR w fun jr hb w=>?_
 refine cps fun C9 k9=>?_
 obtain⟨o,fd,ps,F⟩:=(Fs.all fid).resolve_left hlt
 obtain⟨bs,hbind,rb⟩:=F.bind p.w0 as jr bS (.refl _) hb ra
 obtain⟨nd,hnames⟩:=F.params as jr hb
 refine k9 ?_
 refine nA (zM (by decide) (hs▸F.obj) F.data (hs▸P.nolimit) (hs▸F.code) F.zO (hs▸hbind) F.kL (fun x hx=>?_) F.co F.gen F.kind fun s₁ x=>?_)
 ·have:x.1∈jr.map fun q=>q.1.s:=rb.keys▸bP.mpr ⟨x,hx,rfl⟩
  exact(bP.mp this).elim fun q e=>e.2▸(hnames q.1 (bP.mpr ⟨q,e.1,rfl⟩)).imp id fun h=>⟨h,tP h⟩
 ·have J:=Inv.first (σ:=σ) (n:=2 * d+2) P F hs x rb nd
  refine bF (sB P XO (O3 P XO Fs d) (bu fid).body (ps:=ps) (sc:=fd.scope.names) ⟨bA.first F hd x,Nat.le_succ _,⟨fun _=>rfl,_,rfl⟩,rfl⟩ F.ok J w) (fun a s' k=>k.casesOn fun W' st k=>k.casesOn fun fl oO σ' J' r q=>?_) fun e s' k=>k.casesOn fun W' st k=>k.casesOn fun x oO σ' J' r q=>q.elim
  have kp:∀b o,s.heap.get? b=some o→s'.heap.get? b=some o:=fun b o e=>(J'.aC (J'.pins (hs▸e))).elim fun o' h=>h.1.trans (aa some h.2)
  have sm:=x.toInCall.same
  have g:s₁.gens=s.gens:=sm.elim fun _ h=>h.elim fun _ e=>e▸rfl
  have os:s₁.os=s.os:=sm.elim fun _ h=>h.elim fun _ e=>e▸rfl
  cases fl with
  |next=>exact vk rfl q
  |ret v=>
   obtain⟨cv,rfl,rv⟩:=r
   obtain rfl:v = .bool true:=q
   exact⟨rv,kp,st.g.trans g,st.os.trans os⟩
  |exc x=>exact r.elim
end
noncomputable abbrev Ch:=Option (Nm×List Int)
noncomputable def Ch.v(c:Ch):V:=c.elim .none fun x => .tup (.str x.1::x.2.map .int)
noncomputable def Ch.is(a b:Ch):Bool:=a.elim b.isNone fun x=>b.elim false fun y=>Nat.beq x.1 y.1&&x.2==y.2
structure Pr where
 pid:Int
 st:Nm
 par:Option Nat
 fs:Option (List (Option Nat))
 name:Nm
 ch:Ch
 cN:Bool
 bN:Int
 prog:Int
structure Fi where
 rd:Bool
 aK:Int
 pipe:Nat
structure Pp where
 rc:Int
 wc:Int
 bq:List Nat
 ro:Bool
 wo:Bool
structure Kn where
 n:Nat
 size:Int
 br:Int
 slots:Nat
 af:List Pr
 bG:Int
 first:Option Nat
 aj:List Fi
 aW:List Nat
 ak:List Pp
 made:Nat
 dict:List Nat
 bO:Int
structure Gh where
 v:Nat
 d:Nat→Nat
 rg:Nat→Nat
 n:Nat→Nat
 j:Nat→Nat→Option Cell
noncomputable abbrev lb(o i:Nat):Loc:=⟨Nat.add 4096 o,i⟩
noncomputable abbrev rf(o i:Nat):V := .ref (lb o i)
noncomputable abbrev ro(n:Nat)(o:Option Nat):V:=o.elim .none fun i=>rf n i
noncomputable def Pr.nil:Pr:=⟨0,209,none,none,58,none,false,0,0⟩
noncomputable def Kn.pr(k:Kn)(i:Nat):Pr:=(k.af[i]?).getD Pr.nil
noncomputable def Kn.fi(k:Kn)(i:Nat):Fi:=(k.aj[i]?).getD ⟨true,0,0⟩
noncomputable def Kn.pp(k:Kn)(i:Nat):Pp:=(k.ak[i]?).getD ⟨0,0,[],false,false⟩
noncomputable def vx(f:Nat→Nat)(i:Nat):Nat:=Nat.add i (Nat.mul 128 (f i))
def bY(d rg:Nat→Nat)(i:Nat)(p:Pr):List (Nm×V):=[(149,.int i),(145,.int p.pid),(184,.str p.st),(141,p.par.elim .none fun j=>rf 10 j),(182,.none),(164,rf 0 (vx rg i)),(144,.int 0),
 (64,p.fs.elim .none fun _=>rf 9 (vx d i)),(50,.none),(109,.str p.name),(41,p.ch.v),(96,.bool p.cN),(185,.int p.bN),(82,.none),(154,.int p.prog),(192,.none),(218,.none),(89,.none),(194,.int 0)]
def lR(x:Fi):List (Nm×V):=[(97,.str 147),(159,.bool x.rd),(222,.bool (!x.rd)),(80,.int x.aK),(149,.int 0),(147,rf 3 x.pipe),(122,.none),(104,.int 0)]
def gV(size:Int)(i:Nat)(p:Pp):List (Nm×V):=[(81,.int i),(176,.int size),(166,rf 2 i),(157,.int p.rc),(224,.int p.wc),(158,.bool p.ro),(225,.bool p.wo)]
noncomputable def Kn.places(k:Kn):List V:=(List.range k.n).map fun i=>rf 10 i
def wg(k:Kn):List (Nm×V):=[(150,.fl k.places),(116,.int k.bG),(98,.int (k.n - 1)),(66,k.first.elim .none fun i=>rf 10 i),(170,.none)]
def E0(k:Kn)(v:Nat):List (Nm×V):=[(108,.int k.br),(148,rf 4 0),(123,.none),(90,.none),(55,rf 65 0),(37,.int 16),(133,rf 128 v)]
def E4(k:Kn):List (Nm×V):=[(176,.int k.size),(103,.int k.made),(148,rf 1 0)]
def wh(k:Kn):List (Nm×V):=[(186,rf 11 0),(64,rf 8 0),(123,.none),(143,.none),(90,.none),(55,rf 129 0),(191,.int k.bO)]
noncomputable def cX(f:Option Nat):V:=f.elim .none fun f=>rf 7 f
def iL(k:Kn)(d:Nat→Nat)(x:Nat)(z:Option Cell):Option Cell:=bif Nat.beq (x / 128) (d (x % 128)) then(k.pr (x % 128)).fs.elim z fun sl=>some (.list (sl.map cX)) else z
def jt(k:Kn)(g:Gh)(x:Nat):Option Cell:=iL k g.d x (g.j 64 x)
def zeros:List V:=rep [.int 0] 32
def zQ (k:Kn)(v:Nat)(o x:Nat)(op z:Option Cell):Option Cell:=
 bif Nat.beq o 7 then some (.inst (lR (k.fi x))) else
 bif Nat.beq o 3 then some (.inst (gV k.size x (k.pp x))) else
 bif Nat.beq o 2 then some (.bB (k.pp x).bq) else
 bif Nat.beq o 11 then(bif Nat.beq x 0 then some (.inst (wg k)) else z) else
 bif Nat.beq o 8 then(bif Nat.beq x 0 then some (.inst (E0 k v)) else z) else
 bif Nat.beq o 4 then(bif Nat.beq x 0 then some (.inst (E4 k)) else z) else
 bif Nat.beq o 1 then(bif Nat.beq x 0 then some (.bI (k.dict.map fun(p:Nat)=>((p:Int),rf 3 p))) else z) else
 bif Nat.beq o 5 then(bif Nat.beq x 0 then some (.inst (wh k)) else z) else
 bif Nat.beq o 6 then(bif Nat.beq x 0 then some (.inst [(94,rf 5 0)]) else z) else
 bif Nat.beq o 9 then some (.inst [(108,.int k.slots),(180,rf 64 x)]) else
 bif Nat.beq o 128 then(bif Nat.beq x v then some (.list (k.aW.map fun f=>rf 7 f)) else op) else
 bif Nat.beq o 0 then some (.list zeros) else z
def rS (k:Kn)(v:Nat)(d rg:Nat→Nat)(o x:Nat)(sl op z:Option Cell):Option Cell:=
 bif Nat.beq o 10 then some (.inst (bY d rg x (k.pr x))) else
 bif Nat.beq o 64 then sl else zQ k v o x op z
def fz (k:Kn)(g:Gh)(o x:Nat):Option Cell:=rS k g.v g.d g.rg o x (jt k g x) (g.j 128 x) (g.j o x)
noncomputable def fc(k:Kn)(g:Gh)(o x:Nat):Bool:=
 bif Nat.beq o 9||Nat.beq o 64 then Nat.ble (x / 128) (g.d (x % 128)) else
 bif Nat.beq o 0 then Nat.ble (x / 128) (g.rg (x % 128)) else
 bif Nat.beq o 7 then Nat.blt x k.aj.length else
 bif Nat.beq o 3||Nat.beq o 2 then Nat.blt x k.ak.length else
 bif Nat.beq o 128 then Nat.ble x g.v else
 bif Nat.ble 192 o then Nat.blt x (g.n o) else true
noncomputable def f9(n:Nat):Bool:=Nat.ble 4096 n&&Nat.blt n 8192
noncomputable def Ho(f:QC)(u:QU)(r:St):St:=⟨fun l=>l.casesOn fun n i=>bif f9 n then f (Nat.sub n 4096) i else r.hp ⟨n,i⟩,fun l=>l.casesOn fun n i=>bif f9 n then u (Nat.sub n 4096) i else r.us ⟨n,i⟩⟩
def H (k:Kn)(g:Gh)(r:St):St:=Ho (fz k g) (fc k g) r
noncomputable def cO{α:Type}(f:Nat→Nat→α)(o x:Nat)(c:α):Nat→Nat→α:=fun a y=>bif Nat.beq a o&&Nat.beq y x then c else f a y
def St.use(σ:St)(l:Loc):St:=⟨σ.hp,fun m=>Loc.beq m l||σ.us m⟩
section
def St.ext{σ τ:St}(h:∀l,σ.hp l=τ.hp l)(u:∀l,σ.us l=τ.us l):σ=τ:=by
 cases σ;cases τ;exact congr (aa St.mk (funext h)) (funext u)
def qn(h:∀a y,f a y=f' a y)(hu:∀a y,u a y=u' a y):Ho f u r=Ho f' u' r:=(funext fun a=>funext (h a):f=f')▸(funext fun a=>funext (hu a):u=u')▸rfl
def wj(h:Nat.blt o 4096=true):f9 (Nat.add 4096 o)=true:=by
 have h:=bw h
 exact(g8).mpr ⟨dO (n7 ..),dO (Nat.add_lt_add_left h 4096)⟩
def O9(h:f9 n=true):Nat.beq n (Nat.add 4096 o)=Nat.beq (Nat.sub n 4096) o:=by
 have h:=bw (aE h).1
 refine lH.mpr ⟨fun e=>?_,fun e=>?_⟩
 ·rw[cH e];exact(aa (Nat.beq · o) (Nat.add_sub_cancel_left ..)).trans (dh o)
 ·rw[←cH e];exact(aa (Nat.beq n) (Nat.add_sub_cancel' h)).trans (dh n)
def Pb{n:Nat}(ho:Nat.blt o 4096=true)(h:f9 n=false):Nat.beq n (Nat.add 4096 o)=false:=dY fun e=>eE (h.symm.trans (e▸wj ho))
def Pc{c z w:α}:(bif b then c else bif true then z else w)=bif true then(bif b then c else z) else w:=rfl
def Pd{c z w y:α}:(bif false&&b then c else bif false then z else w)=bif false then y else w:=rfl
def E5{f:Nat→Nat→α}{c:α}(ho:Nat.blt o 4096=true):(bif Loc.beq ⟨n,i⟩ (lb o x) then c else bif f9 n then f (Nat.sub n 4096) i else R)=bif f9 n then cO f o x c (Nat.sub n 4096) i else R:=by
 rcases Bool.eq_false_or_eq_true (f9 n) with h | h
 ·rw[h,show Loc.beq ⟨n,i⟩ (lb o x)=(Nat.beq n (Nat.add 4096 o)&&Nat.beq i x) from rfl,O9 h];exact Pc
 ·rw[h,show Loc.beq ⟨n,i⟩ (lb o x)=(Nat.beq n (Nat.add 4096 o)&&Nat.beq i x) from rfl,Pb ho h];exact Pd
def kO(ho:Nat.blt o 4096=true):(Ho f u r).set (lb o x) c=Ho (cO f o x (some c)) u r:=St.ext (fun l=>by cases l;exact E5 ho) fun _=>rfl
def rT{a b:Bool}:(a||b)=bif a then true else b:=by cases a <;> rfl
def lS(ho:Nat.blt o 4096=true):(Ho f u r).use (lb o x)=Ho f (cO u o x true) r:=St.ext (fun _=>rfl) fun l=>by cases l;exact rT.trans (E5 ho)
def wm(h:Nat.blt o 4096=true):(H k g r).hp (lb o x)=fz k g o x:=(dK (wj h)).trans (aa (fz k g · x) (Nat.add_sub_cancel_left ..))
def cV{f:Nat→Nat→α}{c:α}(h:a=o→y≠x):cO f o x c a y=f a y:=by
 by_cases e:a=o
 ·exact(aa (fun b=>bif Nat.beq a o&&b then c else f a y) (dY (h e))).trans (cR (Bool.and_false _))
 ·exact aa (fun b=>bif b&&Nat.beq y x then c else f a y) (dY e)
def iy{f:Nat→Nat→α}{c:α}:cO f o x c o x=c:=dK ((congr (aa and (dh o)) (dh x)).trans rfl)
def iM{f f':Nat→Nat→α}{c:α}(h:∀a y,(a=o→y≠x)→f' a y=f a y)(h2:f' o x=c)(a y:Nat):cO f o x c a y=f' a y:=by
 by_cases e:a=o∧y=x
 ·rw[e.1,e.2];exact iy.trans h2.symm
 ·exact(cV fun z w=>e ⟨z,w⟩).trans (h a y fun z w=>e ⟨z,w⟩).symm
def iZ(ho:Nat.blt o 4096=true)(h:∀a y,(a=o→y≠x)→fz k' g' a y=fz k g a y)(h2:fz k' g' o x=some c)(hu:∀a y,fc k' g' a y=fc k g a y):(H k g r).set (lb o x) c=H k' g' r:=
 (kO ho).trans (qn (iM h h2) fun a y=>(hu a y).symm)
def E6(ho:Nat.blt o 4096=true)(h:∀a y,(a=o→y≠x)→fz k' g' a y=fz k g a y)(h2:fz k' g' o x=some c)(hu:∀a y,(a=o→y≠x)→fc k' g' a y=fc k g a y)(zR:fc k' g' o x=true):(H k g r).new (lb o x) c=H k' g' r:=
 ((aa (St.set · (lb o x) c) (lS ho)).trans (kO ho)).trans (qn (iM h h2) (iM hu zR))
end
noncomputable def Kn.aA(k:Kn)(i:Nat)(p:Pr):Kn:={k with af:=k.af.set i p}
noncomputable def Kn.gp(k:Kn)(i:Nat)(p:Fi):Kn:={k with aj:=k.aj.set i p}
noncomputable def Kn.aY(k:Kn)(i:Nat)(p:Pp):Kn:={k with ak:=k.ak.set i p}
section
variable{k:Kn}{j:Nat}
def wu{l:List α}{a d:α}(h:i<l.length):((l.set i a)[i]?).getD d=a:=by rw[nc h];rfl
def rU{l:List α}{a d:α}(h:j≠i):((l.set i a)[j]?).getD d=(l[j]?).getD d:=by rw[dU (gz h)]
def gq(h:i<k.af.length):(k.aA i p).pr i=p:=wu h
def mT(h:j≠i):(k.aA i p).pr j=k.pr j:=rU h
def kind(t:a=o→x=x')(f:z=z'):(bif Nat.beq a o then x else z)=bif Nat.beq a o then x' else z':=by
 rcases Bool.eq_false_or_eq_true (Nat.beq a o) with h | h
 ·rw[h];exact t (cH h)
 ·rw[h];exact f
def Pe(h:i<k.af.length)(hf:p.fs=(k.pr i).fs):(H k g r).set (lb 10 i) (.inst (bY g.d g.rg i p))=H (k.aA i p) g r:=
 iZ rfl (fun a y hn=>kind (fun e=>aa (fun p=>some (Cell.inst (bY g.d g.rg y p))) (mT (hn e))) (kind (fun _=>by
  have:((k.aA i p).pr (y % 128)).fs=(k.pr (y % 128)).fs:=by
   by_cases e:y % 128=i
   ·rw[e,gq h,hf]
   ·rw[mT e]
  unfold jt iL
  rw[this]) rfl)) (aa (fun p=>some (Cell.inst (bY g.d g.rg i p))) (gq h)) fun _ _=>rfl
def Pf(h:i<k.aj.length):(H k g r).set (lb 7 i) (.inst (lR f))=H (k.gp i f) g r:=
 iZ rfl (fun a y hn=>kind (fun _=>rfl) (kind (fun _=>rfl) (kind (fun e=>aa (fun p=>some (Cell.inst (lR p))) (rU (hn e))) rfl))) (aa (fun p=>some (Cell.inst (lR p))) (wu h)) fun a y=>by
  unfold fc;rw[show(k.gp i f).aj.length=k.aj.length from cg];rfl
end
def aL(P:α→Prop)(e:a=b)(h:P a):P b:=e▸h
section
abbrev Is(cx:Cx)(lv:Lv)(σ:St)(e:E)(v:V):Prop:=∀(K:QV) (X:QX),K v σ→wE cx e lv σ K X
abbrev lT(cx:Cx)(lv:Lv)(σ:St)(e:E)(b:Bool):Prop:=∀(K:QB) (X:QX),K b σ→wC cx e lv σ K X
def aq{o:Option α}{a:α}(h:o=some a)(q:k a):aQ o k:=h▸q
def B.set(he:Is cx lv σ e v)(ho:Is cx lv σ o u)(hs:gC σ u n v=some σ')(q:wB cx r lv σ' Q):wB cx (.asg (.at o n) e::r) lv σ Q:=he _ _ (ho _ _ (aq hs q))
def B.seq(h:wB cx r lv σ Q):dX (fun lv σ=>wB cx r lv σ Q) Q .next lv σ:=h
def B.nil(h:Q .next lv σ):wB cx [] lv σ Q:=h
def B.ju(h:wE cx e lv σ (fun _ σ=>wB cx r lv σ Q) fun x σ=>Q (.exc x) lv σ):wB cx (.ex e::r) lv σ Q:=h
def B.E7(he:Is cx lv σ e v)(q:wB cx r (aB lv n v) σ Q):wB cx (.asg (.v n) e::r) lv σ Q:=he _ _ q
def B.zS(hc:∀(K:QB) (X:QX),K t σ'→wC cx e lv σ K X)(q:t=true→wB cx a lv σ' (dX (fun lv σ=>wB cx r lv σ Q) Q))(q2:t=false→wB cx b lv σ' (dX (fun lv σ=>wB cx r lv σ Q) Q)):wB cx (.ite e a b::r) lv σ Q:=hc _ _ (by
 cases t with
 |true=>exact q rfl
 |false=>exact q2 rfl)
theorem B.ite(hc:lT cx lv σ e t)(q:t=true→wB cx a lv σ (dX (fun lv σ=>wB cx r lv σ Q) Q))(q2:t=false→wB cx b lv σ (dX (fun lv σ=>wB cx r lv σ Q) Q)):wB cx (.ite e a b::r) lv σ Q:=B.zS hc q q2
end
section
def jv(h:i<k.af.length)(e:aB (bY g.d g.rg i (k.pr i)) n v=bY g.d g.rg i p)(hf:fX 7 n=true)(hi:p.fs=(k.pr i).fs):gC (H k g r) (rf 10 i) n v=some (H (k.aA i p) g r):=by
 refine(show gC (H k g r) (rf 10 i) n v=bif fX 7 n&&true then some ((H k g r).set (lb 10 i) (.inst (aB (bY g.d g.rg i (k.pr i)) n v))) else none from rfl).trans ?_
 rw[hf,e,Pe h hi]
 rfl
def E8(w:Wk σ τ)(h:wF (ah d) f as τ Q X):ah (d+1) f as σ Q X:=Or.inl ⟨τ,w,h⟩
def aZ(h:wF (ah d) f as σ Q X):ah (d+1) f as σ Q X:=E8 (fun _ h=>⟨h,rfl⟩) h
def zT(q:Q (.int ((k.pp i).wc - (k.pp i).rc)) (H k g r)):ah (d+1) 2 [rf 3 i] (H k g r) Q X:=aZ q
def Pg(q:Q (.int (k.size - ((k.pp i).wc - (k.pp i).rc))) (H k g r)):ah (d+2) 3 [rf 3 i] (H k g r) Q X:=aZ (zT q)
def tY(q:Q (.tup [.str 147,.int i,.int s]) (H k g r)):ah (d+1) 4 [rf 3 i,.int s] (H k g r) Q X:=aZ q
def zU(q:Q (.bool (!(Nat.beq (k.pr i).st 209))) (H k g r)):ah (d+1) 62 [rf 10 i] (H k g r) Q X:=aZ q
end
section
variable{k:Kn}
def tZ:(k.aA i p).aA i p'=k.aA i p':=aa (fun l=>{k with af:=l}) (List.set_set ..)
def oX(h:i<k.af.length)(e:aB (bY g.d g.rg i p) n v=bY g.d g.rg i p')(hf:fX 7 n=true)(hi:p'.fs=p.fs):gC (H (k.aA i p) g r) (rf 10 i) n v=some (H (k.aA i p') g r):=
 (jv (k:=k.aA i p) ((cg ..).symm▸h) ((aa (fun p=>aB (bY g.d g.rg i p) n v) (gq h)).trans e) hf (hi.trans (aa Pr.fs (gq h)).symm)).trans (aa (fun k=>some (H k g r)) tZ)
def E9(h:i<k.af.length)(q:Q .none (H (k.aA i {k.pr i with st:=179,ch:=c}) g r)):ah (d+1) 81 [rf 11 0,rf 10 i,c.v] (H k g r) Q X:=
 aZ (B.set (fun _ _ h=>h) (fun _ _ h=>h) (jv (p:={k.pr i with st:=179}) h rfl rfl rfl) (B.set (v:=c.v) (fun _ _ h=>h) (fun _ _ h=>h) (oX (p':={k.pr i with st:=179,ch:=c}) h rfl rfl rfl) (B.ite (t:=false) (fun _ _ h=>h) (fun e=>ft e) fun _=>q)))
def wz(h:i<k.af.length)(q:Q .none (H (k.aA i {k.pr i with st:=161,ch:=none}) g r)):ah (d+1) 72 [rf 11 0,rf 10 i] (H k g r) Q X:=
 aZ (B.set (fun _ _ h=>h) (fun _ _ h=>h) (jv (p:={k.pr i with st:=161}) h rfl rfl rfl) (B.set (v := .none) (fun _ _ h=>h) (fun _ _ h=>h) (oX (p':={k.pr i with st:=161,ch:=none}) h rfl rfl rfl) (B.ite (t:=false) (fun _ _ h=>h) (fun e=>ft e) fun _=>q)))
end
def kP{l:List ι}(h:l[i]?=some x):l.take (i+1)=l.take i++[x]:=by rw[List.take_add_one,h];rfl
section
variable{vs:List α}
abbrev Nx(src:Nat→Src)(vs:List α)(h:α→V)(m:Nat)(σ:St):Prop:=(src m).next σ=some ((vs[m]?).map fun v=>(h v,src (m+1)))
noncomputable def jw(vs:List α)(h:α→V)(m:Nat):Src := .items ((vs.drop m).map h)
def kQ:Nx (jw vs h) vs h m σ:=by
 unfold Nx jw
 by_cases e:m<vs.length
 ·rw[List.drop_eq_getElem_cons e,bZ e];rfl
 ·rw[List.drop_eq_nil_of_le (kE e),iQ (kE e)];rfl
def zV(e:σ.lst l=some (vs.map h)):Nx (fun m => .lst l m) vs h m σ:=by
 show(σ.lst l).map (fun x=>(x[m]?).map fun v=>(v,Src.lst l (m+1)))=_
 rw[e,Option.map_some,fV,Option.map_map];rfl
def kR(J:Nat→Lv→St→Prop)(hs:∀m lv σ,J m lv σ→Nx src vs h m σ)
  (step:∀m a lv σ,vs[m]?=some a→J m lv σ→∀k:QL,(∀lv σ,J (m+1) lv σ→k lv σ)→asg (h a) lv σ fun lv σ=>bd lv σ (iI k Q)) (fin:∀lv σ,J vs.length lv σ→Q .next lv σ):
  ∀{n m:Nat} {lv:Lv} {σ:St},m≤vs.length→vs.length<n+m→J m lv σ→s6 asg bd n (src m) lv σ Q:=by
 intro n
 induction n with
 |zero=>exact fun a b _=>absurd a (Nat.not_le_of_lt (ng b (Nat.zero_add _)))
 |succ n ih=>
  intro m lv σ a b q
  refine aq (hs m lv σ q) ?_
  cases e:vs[m]? with
  |none=>exact fin _ _ (Nat.le_antisymm a (qQ.mp e)▸q)
  |some v=>exact step m v lv σ e q _ fun lv σ hJ=>ih (bM.mp e).1 (Nat.succ_add_eq_add_succ n m▸b) hJ
def Fb{cond:Lv→St→QB→Prop}{Q:QA}(J:Nat→List V→Lv→St→Prop)(hs:∀m ys lv σ,J m ys lv σ→Nx src vs h m σ)
  (step:∀m a ys lv σ,vs[m]?=some a→J m ys lv σ→∀k:List V→Lv→St→Prop,(∀ys lv σ,J (m+1) ys lv σ→k ys lv σ)→asg (h a) lv σ fun lv σ=>cond lv σ fun b σ=>bif b then elt lv σ fun y σ=>k (ys++[y]) lv σ else k ys lv σ) (fin:∀ys lv σ,J vs.length ys lv σ→Q ys σ):
  ∀{n m:Nat} {ys:List V} {lv:Lv} {σ:St},m≤vs.length→vs.length<n+m→J m ys lv σ→nu elt asg cond n (src m) lv σ fun r σ=>Q (ys++r) σ:=by
 intro n
 induction n with
 |zero=>exact fun a b _=>absurd a (Nat.not_le_of_lt (ng b (Nat.zero_add _)))
 |succ n ih=>
  intro m ys lv σ a b q
  refine aq (hs m ys lv σ q) ?_
  cases e:vs[m]? with
  |none=>exact(aa (Q · σ) (fP ys)).mpr (fin _ _ _ (Nat.le_antisymm a (qQ.mp e)▸q))
  |some v=>
   have:=step m v ys lv σ e q (fun zs lv σ=>nu elt asg cond n (src (m+1)) lv σ fun r σ=>Q (zs++r) σ) fun ys lv σ hJ=>ih (bM.mp e).1 (Nat.succ_add_eq_add_succ n m▸b) hJ
   simp only [ku] at this
   exact this
end
section
variable{x:Nm}
def Ph{elt:E}{cs:List E}{src:Nat→Src}{L:Option α→Lv}(hs:∀m,Nx src vs h m σ)(hL:∀o v (K:QL),K (L (some v)) σ→wA cx t (h v) (L o) σ K)(hc:∀a∈vs,∀K:QB,K (c a) σ→wCs cx true cs (L (some a)) σ K bV)(he:∀a∈vs,∀K:QV,K (f a) σ→wE cx elt (L (some a)) σ K bV)
  {n:Nat} {Q:QA} (z:vs.length<n) (q:Q ((vs.filter c).map f) σ):nu (fun lv σ K=>wE cx elt lv σ K bV) (fun v lv σ K=>wA cx t v lv σ K) (fun lv σ K=>wCs cx true cs lv σ K bV) n (src 0) (L none) σ Q:=
 Fb (vs:=vs) (ys:=[]) (fun m ys lv τ=>τ=σ∧ys=((vs.take m).filter c).map f∧∃o,lv=L o) (fun m _ _ _ J=>J.1▸hs m) (fun m a ys lv τ e J k hk=>by
  obtain⟨rfl,rfl,o,rfl⟩:=J
  refine hL o a _ (hc a (dD e) _ ?_)
  have e2:((vs.take (m+1)).filter c).map f=bif c a then((vs.take m).filter c).map f++[f a] else((vs.take m).filter c).map f:=by
   rw[kP e,List.filter_append,ia]
   cases z:c a with
   |false=>rw[List.filter_cons_of_neg (by rw[z];exact eE)];exact fP _
   |true=>rw[List.filter_cons_of_pos z];rfl
  cases z:c a with
  |false=>exact hk _ _ _ ⟨rfl,(e2.trans (cR z)).symm,_,rfl⟩
  |true=>exact he a (dD e) _ (hk _ _ _ ⟨rfl,(e2.trans (dK z)).symm,_,rfl⟩)) (fun ys lv τ J=>by
  obtain⟨rfl,rfl,_⟩:=J
  rw[iR];exact q) (fG _) z ⟨rfl,rfl,_,rfl⟩
def Fc{K:Bool→Prop}(h:K b):bif b==true then K true else K b:=by cases b <;> exact h
def zW{K:Bool→Prop}(h:K b):bif b==false then K false else K b:=by cases b <;> exact h
def gr{cx:Cx}{x:E}{K:QB}(h1:∀(K:QB) (X:QX),K b σ'→wC cx x lv σ K X)(h:K b σ'):wCs cx true [x] lv σ K X:=h1 _ _ (Fc (K:=fun b=>K b σ') h)
def Fd{x:E}{K:QB}(h1:∀(K:QB) (X:QX),K b σ'→wC cx x lv σ K X)(h2:∀(K:QB) (X:QX),K b2 σ'→wCs cx true es lv σ' K X)(h:K (b&&b2) σ'):wCs cx true (x::es) lv σ K X:=h1 _ _ (by
 cases b with
 |false=>exact h
 |true=>exact h2 _ _ h)
def qo{x y:E}{K:QB}{X:QX}(h1:∀(K:QB) (X:QX),K b σ'→wC cx x lv σ K X)(h2:∀(K:QB) (X:QX),K b2 σ'→wC cx y lv σ' K X)(h:K (b&&b2) σ'):wCs cx true [x,y] lv σ K X:=Fd h1 (fun K X h=>gr h2 h) h
def qp{cx:Cx}{x y:E}{K:QB}(h1:∀(K:QB) (X:QX),K b σ'→wC cx x lv σ K X)(h2:∀(K:QB) (X:QX),K b2 σ'→wC cx y lv σ' K X)(h:K (b||b2) σ'):wCs cx false [x,y] lv σ K X:=h1 _ _ (by
 cases b with
 |true=>exact h
 |false=>exact h2 _ _ (zW (K:=fun b=>K b σ') h))
theorem B.ret(h:wE cx e lv σ (fun v σ=>Q (.ret v) lv σ) fun x σ=>Q (.exc x) lv σ):wB cx (.ret e::r) lv σ Q:=h
def wD{sc:List (Nm×Nat)}{L:Option α→Lv}(hi:∀(K:QS) (X:QX),K (src 0) σ→wI cx it lv σ K X)(hs:∀m,Nx src vs h m σ)
  (hl:dQ t.names lv=L none) (hL:∀o v (K:QL),K (L (some v)) σ→wA cx t (h v) (L o) σ K) (hc:∀a∈vs,∀K:QB,K (c a) σ→wCs cx true cs (L (some a)) σ K bV) (he:∀a∈vs,∀K:QV,K (f a) σ→wE cx elt (L (some a)) σ K bV)
  (hz:vs.length<gG) (q:newL z ((vs.filter c).map f) σ Q):wE cx (.comp z elt t it cs sc) lv σ Q X:=
 hi _ _ (hl.symm▸Ph hs hL hc he hz q)
noncomputable def Lo{α:Type}(l:Lv)(x:Nm)(h:α→V)(o:Option α):Lv:=l++o.elim [] fun v=>[(x,h v)]
def kT{c:α→Bool}{vs:List α}(hi:∀(K:QS) (X:QX),K (.items (vs.map h)) σ→wI cx it lv σ K X)
  (hl:dQ [x] lv=l) (hL:∀o v,aB (Lo l x h o) x (h v)=Lo l x h (some v)) (hc:∀a∈vs,∀K:QB,K (c a) σ→wCs cx true cs (l++[(x,h a)]) σ K bV) (he:∀a∈vs,∀K:QV,K (f a) σ→wE cx elt (l++[(x,h a)]) σ K bV)
  (hz:vs.length<gG) (q:newL z ((vs.filter c).map f) σ Q):wE cx (.comp z elt (.v x) it cs sc) lv σ Q X:=
 wD (L:=Lo l x h) (src:=jw vs h) hi (fun _=>kQ) (hl.trans (fP l).symm) (fun o v K k=>(aa (K · σ) (hL o v)).mpr k) hc he hz q
theorem B.kR(hi:∀(K:QS) (X:QX),K (src 0) σ'→wI cx it lv σ K X)(hz:vs.length<gG)(J:Nat→Lv→St→Prop)(hs:∀m lv σ,J m lv σ→Nx src vs h m σ)
  (step:∀m a lv σ,vs[m]?=some a→J m lv σ→∀k:QL,(∀lv σ,J (m+1) lv σ→k lv σ)→wA cx t (h a) lv σ fun lv σ=>wB cx b lv σ (iI k (dX (fun lv σ=>wB cx r lv σ Q) Q))) (fin:∀lv σ,J vs.length lv σ→wB cx r lv σ Q) (q:J 0 lv σ'):wB cx (.c7 t it b::r) lv σ Q:=
 hi _ _ (Mine.Internal.kR J hs step fin (fG _) hz q)
def B.wG{vs:List α}(L:β→Lv)(S:Nat→β→St)(J:Nat→β→Prop)(hi:∀(K:QS) (X:QX),K (.items (vs.map h)) (S 0 s0)→wI cx it lv σ K X)(hl:lv=L s0)(hz:vs.length<gG)(hL:∀s o v,aB (Lo (L s) x h o) x (h v)=Lo (L s) x h (some v))
  (step:∀m a s,vs[m]?=some a→J m s→∀k:QL,(∀s,J (m+1) s→k (L s++[(x,h a)]) (S (m+1) s))→wB cx b (L s++[(x,h a)]) (S m s) (iI k (dX (fun lv σ=>wB cx r lv σ Q) Q))) (fin:∀s o,J vs.length s→wB cx r (Lo (L s) x h o) (S vs.length s) Q) (q:J 0 s0):wB cx (.c7 (.v x) it b::r) lv σ Q:=
 B.kR (src:=jw vs h) (t := .v x) hi hz (fun m lv τ=>∃s o,lv=Lo (L s) x h o∧τ=S m s∧J m s) (fun _ _ _ _=>kQ) (fun m a lv τ e J k hk=>by
  obtain⟨s,o,rfl,rfl,j⟩:=J
  exact(aa (fun lv=>wB cx b lv (S m s) _) (hL s o a)).mpr (step m a s e j k fun s j=>hk _ _ ⟨s,some a,rfl,rfl,j⟩)) (fun lv τ J=>by
  obtain⟨s,o,rfl,rfl,j⟩:=J
  exact fin s o j) ⟨s0,none,hl.trans (fP _).symm,rfl,q⟩
theorem B.lJ(S:Nat→St)(hz:n<gG)(hc:∀m,m≤n→lT cx lv (S m) c (decide (m<n)))(step:∀m,m<n→∀k:QL,k lv (S (m+1))→wB cx b lv (S m) (iI k (dX (fun lv σ=>wB cx r lv σ Q) Q)))(fin:wB cx r lv (S n) Q):wB cx (.lJ c b::r) lv (S 0) Q:=by
 have:∀t m,m≤n→n<t+m→sZ (fun lv σ K=>wC cx c lv σ K bV) (fun lv σ K=>wB cx b lv σ K) t lv (S m) (dX (fun lv σ=>wB cx r lv σ Q) Q):=fun t=>by
  induction t with
  |zero=>exact fun m a b=>absurd a (Nat.not_le_of_lt (ng b (Nat.zero_add _)))
  |succ t ih=>
   refine fun m a b=>hc m a _ _ ?_
   cases e:decide (m<n) with
   |true=>exact step m (iD e) _ (ih (m+1) (iD e) (Nat.succ_add_eq_add_succ t m▸b))
   |false=>exact(Nat.le_antisymm a (kE (of_decide_eq_false e)))▸fin
 exact this _ 0 (fG _) hz
def t6(q:asg u lv σ fun lv σ=>bd lv σ (iI (fun lv σ=>asg v lv σ fun lv σ=>bd lv σ (iI (fun lv σ=>Q .next lv σ) Q)) Q)):s6 asg bd (n+3) (.items [u,v]) lv σ Q:=q
theorem B.t6(hi:∀(K:QS) (X:QX),K (.items [u,v]) σ'→wI cx it lv σ K X)
  (q:wA cx t u lv σ' fun lv σ=>wB cx b lv σ (iI (fun lv σ=>wA cx t v lv σ fun lv σ=>wB cx b lv σ (iI (fun lv σ=>wB cx r lv σ Q) (dX (fun lv σ=>wB cx r lv σ Q) Q))) (dX (fun lv σ=>wB cx r lv σ Q) Q))):wB cx (.c7 t it b::r) lv σ Q:=hi _ _ (Mine.Internal.t6 (n:=99997) q)
theorem B.find{vs:List α}(c:α→Bool)(hi:∀(K:QS) (X:QX),K (.items (vs.map h)) σ→wI cx it lv σ K X)(hl:lv=l)(hz:vs.length<gG)(hL:∀o v,aB (Lo l x h o) x (h v)=Lo l x h (some v))
  (hc:∀a∈vs,lT cx (l++[(x,h a)]) σ e (c a)) (hit:∀a,vs.find? c=some a→∀K,wB cx b (l++[(x,h a)]) σ (dX K (iI K (dX (fun lv σ=>wB cx r lv σ Q) Q)))) (miss:vs.find? c=none→∀o,wB cx r (Lo l x h o) σ Q):wB cx (.c7 (.v x) it [.ite e b []]::r) lv σ Q:=
 B.kR (src:=jw vs h) (t := .v x) hi hz (fun m lv τ=>τ=σ∧(∃o,lv=Lo l x h o)∧vs.find? c=(vs.drop m).find? c) (fun _ _ _ _=>kQ) (fun m a lv τ e J k hk=>by
  obtain⟨rfl,⟨o,rfl⟩,z⟩:=J
  rw[List.drop_eq_getElem_cons (bM.mp e).1,(bM.mp e).2] at z
  refine(?_:wB cx _ (aB (Lo l x h o) x (h a)) _ _)
  rw[hL]
  refine B.ite (hc a (dD e)) (fun y=>?_) fun y=>hk _ _ ⟨rfl,⟨_,rfl⟩,z.trans (List.find?_cons_of_neg (by rw[y];exact eE))⟩
  exact hit a (z.trans (List.find?_cons_of_pos y)) _) (fun lv τ J=>by
  obtain⟨rfl,⟨o,rfl⟩,z⟩:=J
  exact miss (z.trans (by rw[List.drop_length];rfl)) o) ⟨rfl,⟨none,hl.trans (fP l).symm⟩,rfl⟩
end
noncomputable def Kn.there(k:Kn)(i:Nat):Bool := !(Nat.beq (k.pr i).st 209)
noncomputable def Kn.al(k:Kn):List Nat:=(List.range k.n).filter k.there
section
variable{k:Kn}
def turns{l:List α}(h:l.length=n)(z:n≤999):l.length<gG:=h▸fU z (bw rfl)
def rV(z:k.n≤99):(List.range k.n).length<gG:=turns dF (aH z (bw rfl))
theorem ff(e:∀v,aB l x v=l++[(x,v)])(e2:∀v w,aB (l++[(x,v)]) x w=l++[(x,w)]):∀o v,aB (Lo l x h o) x (h v)=Lo l x h (some v)
 |none,v=>(aa (aB · x (h v)) (fP l)).trans (e _)
 |some _,_=>e2 _ _
def Fe(z:k.n≤99)(q:Q (.fl (k.al.map fun i=>rf 10 i)) (H k g r)):ah (d+2) 70 [rf 11 0] (H k g r) Q X:=
 aZ (B.ret (kT (vs:=List.range k.n) (h:=fun i=>rf 10 i) (c:=k.there) (f:=fun i=>rf 10 i) (fun _ _ h=>h) rfl (ff (fun _=>rfl) fun _ _=>rfl) (fun a _ K h=>zU (Fc (K:=fun b=>K b (H k g r)) h)) (fun a _ K h=>h) (rV z) q))
end
noncomputable def Kn.kid(k:Kn)(i j:Nat):Bool:=k.there j&&(k.pr j).par.elim false fun a=>Nat.beq a i
noncomputable def Kn.kids(k:Kn)(i:Nat):List Nat:=(List.range k.n).filter (k.kid i)
noncomputable def Kn.bD(k:Kn)(i:Nat):V := .tup [.int (k.pr i).pid,.str (k.pr i).st,.str (k.pr i).name,.int ((k.pr i).par.elim 0 fun j=>(k.pr j).pid)]
noncomputable def Kn.nL(k:Kn)(pid:Int):Option Nat:=(List.range k.n).find? fun i=>k.there i&&(k.pr i).pid==pid
section
variable{k:Kn}{g:Gh}{r:St}{i:Nat}{d:Nat}{Q:QV}{X:QX}{pid:Int}
def Pk:jk (H k g r) ((k.pr j).par.elim .none fun a=>rf 10 a) (rf 10 i)=some ((k.pr j).par.elim false fun a=>Nat.beq a i):=by cases (k.pr j).par <;> rfl
def zX:jk (H k g r) ((k.pr j).par.elim .none fun a=>rf 10 a) .none=some (k.pr j).par.isNone:=by cases (k.pr j).par <;> rfl
def Po{po:Option Nat}{K:V→Prop}(h:K (.int (po.elim 0 fun j=>(k.pr j).pid))):bif po.isNone then K (.int 0) else aQ (mu (H k g r) (po.elim .none fun a=>rf 10 a) 145) K:=by cases po <;> exact h
def Pu(q:Q (k.bD i) (H k g r)):ah (d+1) 65 [rf 10 i] (H k g r) Q X:=aZ (B.ret (e := .tup _) (aq (zX (g:=g) (r:=r)) (Po (K:=fun v=>Q (.tup [.int (k.pr i).pid,.str (k.pr i).st,.str (k.pr i).name,v]) (H k g r)) q)))
def Ff(z:k.n≤99)(q:Q (.fl ((k.kids i).map fun i=>rf 10 i)) (H k g r)):ah (d+2) 71 [rf 11 0,rf 10 i] (H k g r) Q X:=
 aZ (B.ret (kT (vs:=List.range k.n) (h:=fun i=>rf 10 i) (c:=k.kid i) (f:=fun i=>rf 10 i) (fun _ _ h=>h) rfl (ff (fun _=>rfl) fun _ _=>rfl) (fun a _ K h=>gr (fun K X h=>qo (fun K X h=>zU h) (fun K X h=>aq Pk h) h) h) (fun a _ K h=>h) (rV z) q))
def oY(z:k.n≤99):k.al.length<gG:=fU (jd ..) (rV z)
def rW(z:k.n≤99)(q:Q (.fl (k.al.map k.bD)) (H k g r)):ah (d+3) 84 [rf 11 0] (H k g r) Q X:=
 aZ (B.ret (kT (vs:=k.al) (h:=fun i=>rf 10 i) (c:=fun _=>true) (f:=k.bD) (fun K X h=>Fe z h) rfl (ff (fun _=>rfl) fun _ _=>rfl) (fun a _ K h=>h) (fun a _ K h=>Pu h) (oY z) ((List.filter_eq_self.mpr fun _ _=>rfl:k.al.filter (fun _=>true)=k.al).symm▸q)))
def Fg(z:k.n≤99)(e:k.nL pid=o)(q:Q (ro 10 o) (H k g r)):ah (d+2) 69 [rf 11 0,.int pid] (H k g r) Q X:=
 aZ (B.find (h:=fun i=>rf 10 i) (fun i=>k.there i&&(k.pr i).pid==pid) (fun _ _ h=>h) rfl (rV z) (ff (fun _=>rfl) fun _ _=>rfl) (fun a _ K X h=>qo (fun K X h=>zU h) (fun K X h=>h) h)
  (fun a e2 K=>aL (fun o=>Q (ro 10 o) (H k g r)) (e.symm.trans e2) q) fun e2 o=>aL (fun o=>Q (ro 10 o) (H k g r)) (e.symm.trans e2) q)
def jx(z:k.n≤99)(e:k.nL pid=some i)(q:Q (rf 10 i) (H k g r)):ah (d+3) 15 [rf 6 0,.int pid] (H k g r) Q X:=
 aZ (Fg z e q)
end
section
variable{k:Kn}{p:Pr}{f:Fi}{q:Pp}
def gW(e:x=x')(h:z=z'):(bif b then x else z)=bif b then x' else z':=e▸h▸rfl
def jy{α:Type}{x x' z:α}(h:y≠0):(bif Nat.beq y 0 then x else z)=bif Nat.beq y 0 then x' else z:=kind (fun e=>absurd e h) rfl
def kU(h:i<k.ak.length):(k.aY i q).pp i=q:=wu h
def Pw(h:i<k.ak.length)(g:Pp→α)(e:g q=g (k.pp i))(y:Nat):g ((k.aY i q).pp y)=g (k.pp y):=by
 by_cases z:y=i
 ·rw[z,kU h];exact e
 ·exact aa g (rU z)
def Fj(a y:Nat):fc (k.aY i q) g a y=fc k g a y:=aa (fun n=>fc {k with ak:=List.replicate n q} g a y) (cg:(k.ak.set i q).length=k.ak.length) |> fun e=>by
 unfold fc at e ⊢;simp only [lE] at e;exact e
def Px(h:i<k.ak.length)(e:q.bq=(k.pp i).bq):(H k g r).set (lb 3 i) (.inst (gV k.size i q))=H (k.aY i q) g r:=
 iZ rfl (fun a y hn=>kind (fun _=>rfl) (kind (fun _=>rfl) (kind (fun _=>rfl) (kind (fun e=>aa (fun p=>some (Cell.inst (gV k.size y p))) (rU (hn e))) (kind (fun _=>aa (fun l=>some (Cell.bB l)) (Pw h Pp.bq e y)) rfl))))) (aa (fun p=>some (Cell.inst (gV k.size i p))) (kU h)) Fj
def Py(h:i<k.ak.length)(e:gV k.size i q=gV k.size i (k.pp i)):(H k g r).set (lb 2 i) (.bB q.bq)=H (k.aY i q) g r:=
 iZ rfl (fun a y hn=>kind (fun _=>rfl) (kind (fun _=>rfl) (kind (fun _=>rfl) (kind (fun _=>by
  by_cases z:y=i
  ·rw[z];exact aa (fun l=>some (Cell.inst l)) ((aa (gV k.size i) (kU h)).trans e)
  ·exact aa (fun p=>some (Cell.inst (gV k.size y p))) (rU z)) (kind (fun e=>aa (fun(p:Pp)=>some (Cell.bB p.bq)) (rU (hn e))) rfl))))) (aa (fun(p:Pp)=>some (Cell.bB p.bq)) (kU h)) Fj
def zY(h:i<k.ak.length)(e:aB (gV k.size i (k.pp i)) n v=gV k.size i q)(hf:fX 0 n=true)(hi:q.bq=(k.pp i).bq):gC (H k g r) (rf 3 i) n v=some (H (k.aY i q) g r):=by
 refine(show gC (H k g r) (rf 3 i) n v=bif fX 0 n&&true then some ((H k g r).set (lb 3 i) (.inst (aB (gV k.size i (k.pp i)) n v))) else none from rfl).trans ?_
 rw[hf,e,Px h hi]
 rfl
def Fo(h:i<k.aj.length)(e:aB (lR (k.fi i)) n v=lR f)(hf:fX 4 n=true):gC (H k g r) (rf 7 i) n v=some (H (k.gp i f) g r):=by
 refine(show gC (H k g r) (rf 7 i) n v=bif fX 4 n&&true then some ((H k g r).set (lb 7 i) (.inst (aB (lR (k.fi i)) n v))) else none from rfl).trans ?_
 rw[hf,e,Pf h]
 rfl
def Fp:(H k g r).set (lb 11 0) (.inst (wg {k with bG:=np,first:=fo}))=H {k with bG:=np,first:=fo} g r:=
 iZ rfl (fun a y hn=>kind (fun _=>rfl) (kind (fun _=>rfl) (kind (fun _=>rfl) (kind (fun _=>rfl) (kind (fun _=>rfl) (kind (fun e=>jy (hn e)) rfl)))))) rfl fun _ _=>rfl
def Pz:(H k g r).set (lb 4 0) (.inst (E4 {k with made:=m}))=H {k with made:=m} g r:=
 iZ rfl (fun a y hn=>kind (fun _=>rfl) (kind (fun _=>rfl) (kind (fun _=>rfl) (kind (fun _=>rfl) (kind (fun _=>rfl) (kind (fun _=>rfl) (kind (fun _=>rfl) (kind (fun e=>jy (hn e)) rfl)))))))) rfl fun _ _=>rfl
def zZ:(H k g r).set (lb 1 0) (.bI (d.map fun(p:Nat)=>((p:Int),rf 3 p)))=H {k with dict:=d} g r:=
 iZ rfl (fun a y hn=>kind (fun _=>rfl) (kind (fun _=>rfl) (kind (fun _=>rfl) (kind (fun _=>rfl) (kind (fun _=>rfl) (kind (fun _=>rfl) (kind (fun _=>rfl) (kind (fun _=>rfl) (kind (fun e=>jy (hn e)) rfl))))))))) rfl fun _ _=>rfl
def Xg:(H k g r).set (lb 5 0) (.inst (wh {k with bO:=t}))=H {k with bO:=t} g r:=
 iZ rfl (fun a y hn=>kind (fun _=>rfl) (kind (fun _=>rfl) (kind (fun _=>rfl) (kind (fun _=>rfl) (kind (fun _=>rfl) (kind (fun _=>rfl) (kind (fun _=>rfl) (kind (fun _=>rfl) (kind (fun _=>rfl) (kind (fun e=>jy (hn e)) rfl)))))))))) rfl fun _ _=>rfl
abbrev wH(os:List Nat):Cell := .list (os.map fun f=>rf 7 f)
def t7:(H k g r).hp (lb 128 g.v)=some (wH k.aW):=(wm rfl).trans (dK (dh g.v))
def PA{os:List Nat}:(H k g r).set (lb 128 g.v) (wH os)=H {k with aW:=os} g r:=
 iZ rfl (fun a y hn=>kind (fun _=>rfl) (kind (fun _=>rfl) (kind (fun _=>rfl) (kind (fun _=>rfl) (kind (fun _=>rfl) (kind (fun _=>rfl) (kind (fun _=>rfl) (kind (fun _=>rfl) (kind (fun _=>rfl) (kind (fun _=>rfl) (kind (fun _=>rfl) (kind (fun _=>rfl) (kind (fun e=>kind (fun z=>absurd z (hn e)) rfl) rfl))))))))))))) (dK (dh g.v)) fun _ _=>rfl
end
set_option genCtorIdx true in
inductive Rs(α:Type) where
 |ok (a:α)
 |exc (x:Ex)
section
variable{k:Kn}{i j m:Nat}{p:Pr}{x:Pp}{os:List Nat}
def fh{l:List α}(h:l[i]?=some a):(l.set i b)[i]?=some b:=by rw[nc (bM.mp h).1]
def Kn.Fq:(k.aA i p).aA i p'=k.aA i p':=by unfold Kn.aA;rw[List.set_set]
def Kn.t8{p:Pr}(h:k.af[i]?=some p):k.aA i p=k:=by
 unfold Kn.aA
 rw[show k.af.set i p=k.af from List.ext_getElem? fun j=>by
  by_cases e:i=j
  ·subst e;rw[fh h,h]
  ·rw[dU e]]
structure aM(k:Kn):Prop where
 n:k.af.length=k.n
 n0:0<k.n
 nl:k.n≤99
 par:∀(i:Nat) (p:Pr) (j:Nat),k.af[i]?=some p→p.par=some j→j<k.n
 fs:∀(i:Nat) (p:Pr) (l:List (Option Nat)),k.af[i]?=some p→p.fs=some l→l.length=k.slots∧∀f,some f∈l→f<k.aj.length
 sl:0<k.slots∧k.slots≤99
 file:∀(f:Nat) (x:Fi),k.aj[f]?=some x→x.pipe<k.ak.length
 of:k.aW.length≤99∧∀f∈k.aW,f<k.aj.length
 bq:∀(p:Nat) (x:Pp),k.ak[p]?=some x→(x.bq.length:Int)=k.size∧x.rc≤x.wc∧x.wc - x.rc≤k.size∧0≤x.rc∧(∀o∈x.bq,o<256)
 size:1≤k.size∧k.size≤99
 made:k.made=k.ak.length
 dict:k.dict.length≤999∧k.dict.Nodup∧∀p∈k.dict,p<k.ak.length
theorem aM.af(h:aM k)(n:ps.length=k.af.length)(par:∀(i:Nat) (p:Pr) (j:Nat),ps[i]?=some p→p.par=some j→j<k.n)
  (fs:∀(i:Nat) (p:Pr) (l:List (Option Nat)),ps[i]?=some p→p.fs=some l→l.length=k.slots∧∀f,some f∈l→f<k.aj.length):aM {k with af:=ps}:=
 ⟨n.trans h.n,h.n0,h.nl,par,fs,h.sl,h.file,h.of,h.bq,h.size,h.made,h.dict⟩
theorem aM.aA(h:aM k)(hp:∀j,p.par=some j→j<k.n)(hf:∀l,p.fs=some l→l.length=k.slots∧∀f,some f∈l→f<k.aj.length):aM (k.aA i p):=by
 have e:∀j q,(k.af.set i p)[j]?=some q→q=p∨k.af[j]?=some q:=fun j q z=>by
  by_cases e:i=j
  ·subst e
   rw[nc (by have:=(bM.mp z).1;rw[cg] at this;exact this)] at z
   injection z with z
   exact Or.inl z.symm
  ·rw[dU e] at z;exact Or.inr z
 refine h.af (cg) (fun j q a z z2=>?_) fun j q l z z2=>?_
 ·cases e j q z with
  |inl w=>subst w;exact hp _ z2
  |inr w=>exact h.par _ _ _ w z2
 ·cases e j q z with
  |inl w=>subst w;exact hf _ z2
  |inr w=>exact h.fs _ _ _ w z2
theorem aM.map(h:aM k)(hp:∀p,(g p).par=p.par∧(g p).fs=p.fs):aM {k with af:=k.af.map g}:=by
 refine h.af (bJ _) (fun j q a z z2=>?_) fun j q l z z2=>?_ <;>
 ·rw[fV] at z
  obtain⟨x,hx,rfl⟩:=m9.mp z
  first
  |exact h.par _ _ _ hx ((hp x).1.symm.trans z2)
  |exact h.fs _ _ _ hx ((hp x).2.symm.trans z2)
theorem aM.pr(h:aM k)(hi:i<k.n):k.af[i]?=some (k.pr i):=by
 unfold Kn.pr
 rw[bZ (h.n▸hi)];rfl
def bH(h:k.af[i]?=some p):k.pr i=p:=by unfold Kn.pr;rw[h];rfl
def small(h:n≤999):n<bz:=fU h (by decide)
def Fv(h:n≤999):n<gG:=fU h (by decide)
noncomputable def Kn.upTo(g:Pr→Pr)(k:Kn)(i:Nat):Kn:={k with af:=(k.af.take i).map g++k.af.drop i}
section
def Xh:k.upTo g 0=k:=rfl
def z3(h:k.af[i]?=some p):(k.upTo g i).af[i]?=some p:=by
 have hl:((k.af.take i).map g).length=i:=by
  rw[bJ,List.length_take];exact Nat.min_eq_left (eL (bM.mp h).1)
 show((k.af.take i).map g++k.af.drop i)[i]?=_
 rw[List.getElem?_append_right (cT hl),hl,Nat.sub_self,List.getElem?_drop];exact h
def Fw(h:k.af[i]?=some p):(k.upTo g i).aA i (g p)=k.upTo g (i+1):=by
 have hl:((k.af.take i).map g).length=i:=by
  rw[bJ,List.length_take];exact Nat.min_eq_left (eL (bM.mp h).1)
 have e:((k.af.take i).map g++k.af.drop i).set i (g p)=(k.af.take (i+1)).map g++k.af.drop (i+1):=by
  rw[List.set_append_right _ _ (cT hl),hl,Nat.sub_self,List.drop_eq_getElem?_toList_append,h,kP h,ia,ku];rfl
 unfold Kn.upTo Kn.aA
 rw[←e]
def PB(h:k.af[i]?=some p)(hg:g p=p):k.upTo g (i+1)=k.upTo g i:=by
 rw[←Fw h,hg];exact Kn.t8 (z3 h)
def PD(h:k.af.length=i):k.upTo g i={k with af:=k.af.map g}:=by
 unfold Kn.upTo
 rw[List.take_of_length_le (cT h),List.drop_eq_nil_of_le (cT h),fP]
end
noncomputable def gP(c:Ch)(p:Pr):Bool:=Nat.beq p.st 179&&p.ch.is c
def cD(c:Ch)(p:Pr):Pr:=bif gP c p then{p with st:=161,ch:=none} else p
def Kn.wake(k:Kn)(c:Ch):Kn:={k with af:=k.af.map (cD c)}
def Kn.new(k:Kn)(i:Nat)(nm:Nm):Kn:={k.aA i {Pr.nil with pid:=k.bG,st:=71,name:=nm} with bG:=k.bG+1,first:=some (k.first.getD i)}
noncomputable def j4(pid:Int):Ch:=some (43,[pid])
def Kn.gQ(k:Kn)(j:Nat):Kn:=bif Nat.beq (k.pr j).st 228 then(k.aA j {k.pr j with par:=some 0}).wake (j4 ((k.aA j {k.pr j with par:=some 0}).pr 0).pid) else k.aA j {k.pr j with par:=some 0}
def Kn.cI(k:Kn)(i:Nat):Kn:=(k.kids i).foldl Kn.gQ k
def Kn.jz(k:Kn)(i:Nat)(s:Int):Kn:=k.aA i {k.pr i with st:=228,ch:=none,bN:=s}
def Kn.tell(k:Kn)(i:Nat):Kn:=(k.pr i).par.elim k fun j=>k.wake (j4 (k.pr j).pid)
def Kn.qt(k:Kn)(i:Nat)(s:Int):Kn:=((k.cI i).jz i s).tell i
def Fx(c:Ch)(p:Pr):(cD c p).par=p.par∧(cD c p).fs=p.fs:=by
 unfold cD
 cases gP c p <;> exact⟨rfl,rfl⟩
theorem aM.wake(K:aM k):aM (k.wake c):=K.map (Fx c)
def aM.rX(K:aM k)(ha:a<k.n)(hj:j<k.n):aM (k.aA j {k.pr j with par:=some a}):=
 K.aA (fun j h=>by injection h with h;exact h▸ha) fun l h=>K.fs _ _ _ (K.pr hj) h
structure Kp(k k':Kn):Prop where
 K:aM k'
 n:k'.n=k.n
 f:k'.first=k.first
def Kp.rep(K:aM k)(hj:j<k.n):Kp k (k.gQ j):=by
 unfold Kn.gQ
 cases Nat.beq (k.pr j).st 228 with
 |true=>exact⟨(K.rX K.n0 hj).wake,rfl,rfl⟩
 |false=>exact⟨K.rX K.n0 hj,rfl,rfl⟩
theorem Kp.foldl{f:Kn→Nat→Kn}(hf:∀k j,aM k→j<k.n→Kp k (f k j)):∀{l:List Nat} {k:Kn},aM k→(∀j∈l,j<k.n)→Kp k (l.foldl f k):=by
 intro l
 induction l with
 |nil=>exact fun K _=>⟨K,rfl,rfl⟩
 |cons a r ih=>
  intro k K h
  have h1:=hf k a K (h a (eF ..))
  have h2:=ih h1.K fun j hj=>by rw[h1.n];exact h j (eY _ hj)
  exact⟨h2.K,h2.n.trans h1.n,h2.f.trans h1.f⟩
def mU(h:j∈k.kids i):j<k.n:=fE.mp (dJ.mp h).1
def Fy(K:aM k):(k.kids i).length≤99:=aH (jd _ _) (by rw[dF];exact K.nl)
def Xi{is:List ι}(e:(is.map h)[j]?=some v):∃x,is[j]?=some x∧v=h x:=by
 rw[fV] at e
 obtain⟨x,hx,rfl⟩:=m9.mp e
 exact⟨x,hx,rfl⟩
noncomputable def Kn.ended(k:Kn)(i:Nat):Option Nat:=(k.kids i).find? fun j=>Nat.beq (k.pr j).st 228
theorem Kp.cI(K:aM k):Kp k (k.cI i):=Kp.foldl (fun k j K h=>Kp.rep K h) K fun j h=>mU h
theorem Kp.jz(K:aM k)(hi:i<k.n):Kp k (k.jz i s):=⟨K.aA (fun j h=>K.par _ _ _ (K.pr hi) h) fun l h=>K.fs _ _ _ (K.pr hi) h,rfl,rfl⟩
theorem Kp.tell(K:aM k):Kp k (k.tell i):=by
 unfold Kn.tell
 cases (k.pr i).par with
 |none=>exact⟨K,rfl,rfl⟩
 |some j=>exact⟨K.wake,rfl,rfl⟩
theorem Kp.trans(a:Kp k k')(b:Kp k' k''):Kp k k'':=⟨b.K,b.n.trans a.n,b.f.trans a.f⟩
theorem Kp.qt(K:aM k)(hi:i<k.n):Kp k (k.qt i s):=
 have a:=Kp.cI (i:=i) K
 a.trans ((Kp.jz a.K (by rw[a.n];exact hi)).trans (Kp.tell (Kp.jz a.K (by rw[a.n];exact hi)).K))
def Fz(h:m<n):place n (m:Int)=some m:=by
 show(if(0:Int)≤m then(if(m:Int)<n then some (m:Int).toNat else none) else _)=_
 rw[if_pos (jf m),if_pos (jK.mpr h)];rfl
def mV{n:Nat}(h:n≤1000):rj [.int n]=some ((List.range n).map fun(m:Nat)=>V.int m):=by
 show on ((0:Int).natAbs≤1000∧(n:Int).natAbs≤1000) ((List.range ((n:Int) - 0).toNat).map fun(k:Nat)=>V.int (0+k))=_
 rw[show on ((0:Int).natAbs≤1000∧(n:Int).natAbs≤1000) ((List.range ((n:Int) - 0).toNat).map fun(k:Nat)=>V.int (0+k))=_ from if_pos ⟨fG _,h⟩,Int.sub_zero]
 congr 1
 exact aa (fun f=>(List.range n).map f) (funext fun m=>aa V.int (Int.zero_add _))
noncomputable def aU(sl:List (Option Nat)):List (Nat×Option Nat):=((List.range sl.length).zip sl).filter fun x=>x.2.isSome
noncomputable def dS(sl:List (Option Nat)):Nat:=sl.findIdx Option.isNone
def t9(h:dS sl<sl.length):sl[dS sl]?=some none:=by
 have:=List.findIdx_getElem (xs:=sl) (p:=Option.isNone) (w:=h)
 rw[bZ h]
 exact aa some (Option.isNone_iff_eq_none.mp this)
def PE(h:m<dS sl):∃f,sl[m]?=some (some f):=by
 have h1:m<sl.length:=je h List.findIdx_le_length
 have:=List.not_of_lt_findIdx h
 rw[bZ h1]
 cases e:sl[m] with
 |none=>rw[e] at this;exact absurd (show true=false from this) Bool.noConfusion
 |some f=>exact⟨f,rfl⟩
noncomputable def c9(p:Nat)(w:Bool):Ch:=some (147,[(p:Int),bif w then 1 else 0])
def map_set{l:List α}(h:l[i]?=some a)(e:g a'=g a):((l.set i a')[j]?).map g=(l[j]?).map g:=by
 by_cases q:i=j
 ·subst q;rw[fh h,h];exact aa some e
 ·rw[dU q]
def Kn.FA:(k.aY i x).aY i x'=k.aY i x':=by unfold Kn.aY;rw[List.set_set]
def Kn.PF(h:k.ak[i]?=some x):k.aY i x=k:=by
 unfold Kn.aY
 rw[show k.ak.set i x=k.ak from List.ext_getElem? fun j=>by
  by_cases e:i=j
  ·subst e;rw[fh h,h]
  ·rw[dU e]]
noncomputable def Pp.cF(x:Pp)(w:Bool):Pp:=bif w then{x with wo:=false} else{x with ro:=false}
noncomputable def gb(size:Int)(x:Pp)(o:Nat):Pp:={x with bq:=x.bq.set (x.wc.fmod size).toNat o,wc:=x.wc+1}
noncomputable def Pp.takes(size:Int)(x:Pp)(n:Int):Int:=if size - (x.wc - x.rc)<n then size - (x.wc - x.rc) else n
noncomputable def Pp.write(size:Int)(x:Pp)(os:List Nat):Pp:=bif x.ro then(os.take (x.takes size os.length).toNat).foldl (gb size) x else x
noncomputable def Pp.wrote(size:Int)(x:Pp)(os:List Nat):Int×Int:=bif x.ro then(x.takes size os.length,bif decide (x.takes size os.length=os.length) then 0 else 1) else(0,2)
noncomputable def Pp.gives(x:Pp)(c:Int):Nat:=(if c<x.wc - x.rc then c else x.wc - x.rc).toNat
noncomputable def Pp.out(size:Int)(x:Pp)(n:Nat):List Nat:=(List.range n).map fun j=>x.bq.getD ((x.rc+(j:Nat)).fmod size).toNat 0
noncomputable def Pp.blocks(x:Pp)(c:Int):Bool:=decide (0<c)&&(decide (x.wc - x.rc=0)&&x.wo)
noncomputable def Pp.read(x:Pp)(c:Int):Pp:=bif x.blocks c then x else{x with rc:=x.rc+(x.gives c:Nat)}
def FD:∀{os:List Nat} {x:Pp},(os.foldl (gb size) x).bq.length=x.bq.length∧(os.foldl (gb size) x).rc=x.rc∧(os.foldl (gb size) x).wc=x.wc+os.length∧(os.foldl (gb size) x).ro=x.ro∧(os.foldl (gb size) x).wo=x.wo:=by
 intro os
 induction os with
 |nil=>exact⟨rfl,rfl,(Int.add_zero _).symm,rfl,rfl⟩
 |cons a r ih=>
  intro x
  refine cps fun C9 k9=>?_
  obtain⟨h1,h2,h3,h4,h5⟩:=ih (x:=gb size x a)
  refine k9 ?_
  exact⟨h1.trans cg,h2,h3.trans ((Int.add_assoc _ _ _).trans (aa (x.wc+·) (Int.add_comm _ _))),h4,h5⟩
def FE{n:Nat}{x:Int}(h0:0≤x)(h1:x≤n):PySem.clipAt n x=x.toNat:=by
 unfold PySem.clipAt
 rw[if_neg (jj.mpr h0),Int.min_eq_left h1,Int.max_eq_right h0]
def PG{t:Int}(h0:0≤t)(h1:t≤l.length):cut l none (some t)=l.take t.toNat:=by
 show(l.take (PySem.clipAt l.length t)).drop 0=_
 rw[FE h0 h1];rfl
def Xj{t:Int}(h0:0≤t)(h1:t≤l.length):cut l (some t) none=l.drop t.toNat:=by
 show(l.take l.length).drop (PySem.clipAt l.length t)=_
 rw[FE h0 h1,iR]
def aM.fm(K:aM k)(h:x.bq.length=k.size)(a:Int):0≤a.fmod k.size∧a.fmod k.size<x.bq.length:=by
 exact⟨Int.fmod_nonneg_of_pos _ K.size.1,by rw[h];exact Int.fmod_lt_of_pos _ K.size.1⟩
def FF(K:aM k)(h:k.ak[i]?=some x):0≤x.takes k.size os.length∧x.takes k.size os.length≤os.length:=by
 unfold Pp.takes
 by_cases z:k.size - (x.wc - x.rc)<os.length
 ·rw[if_pos z];exact⟨Int.sub_nonneg.mpr (K.bq _ _ h).2.2.1,Int.le_of_lt z⟩
 ·rw[if_neg z];exact⟨jf _,Int.le_refl _⟩
def Pp.FG:(m:Int)<c∧0<x.wc - (x.rc+m)↔m<x.gives c:=by
 have e:0<x.wc - (x.rc+m)↔(m:Int)<x.wc - x.rc:=Int.sub_sub x.wc x.rc m▸Int.sub_pos
 unfold Pp.gives
 rw[Int.lt_toNat,e]
 by_cases z:c<x.wc - x.rc
 ·rw[if_pos z];exact⟨And.left,fun h=>⟨h,Int.lt_trans h z⟩⟩
 ·rw[if_neg z];exact⟨And.right,fun h=>⟨Int.lt_of_lt_of_le h (jj.mp z),h⟩⟩
def Pp.z4(h:x.rc≤x.wc):(x.gives c:Int)≤x.wc - x.rc:=by
 have e:=nZ (Int.sub_nonneg.mpr h)
 refine fW (mj.mpr (kE fun z=>?_)) (Int.le_of_eq e)
 have:=(Pp.FG.mpr z).2
 rw[e,Int.add_comm,Int.sub_add_cancel,Int.sub_self] at this
 exact Int.lt_irrefl _ this
def Kn.jA(k:Kn)(i:Nat)(x:Pp)(w:Bool):Kn:=bif !(x.cF w).ro && !(x.cF w).wo then{k.aY i (x.cF w) with dict:=k.dict.erase i} else k.aY i (x.cF w)
def Kn.dg(k:Kn)(f:Nat)(y:Fi)(x:Pp):Kn:=bif decide (0<y.aK - 1) then k.gp f {y with aK:=y.aK - 1} else
 ({k.gp f {y with aK:=y.aK - 1} with aW:=k.aW.filter fun o => !decide (o=f)}:Kn).jA y.pipe x (!y.rd)
noncomputable def Kn.oZ(k:Kn):Kn:={k with ak:=k.ak++[⟨0,0,List.replicate k.size.toNat 0,true,true⟩],made:=k.made+1,dict:=k.dict++[k.made]}
noncomputable def Kn.o4(k:Kn)(rd:Bool)(p:Nat):Kn:={k with aj:=k.aj++[⟨rd,1,p⟩],aW:=k.aW++[k.aj.length]}
def wJ:(l++[a])[l.length]?=some a:=by rw[List.getElem?_append_right (cL _),Nat.sub_self];rfl
def ua{α:Type}{l:List α}{a c:α}(h:(l++[a])[i]?=some c):(i<l.length∧l[i]?=some c)∨(i=l.length∧c=a):=by
 cases Nat.lt_or_ge i l.length with
 |inl q=>rw[List.getElem?_append_left q] at h;exact Or.inl ⟨q,h⟩
 |inr q=>
  rw[List.getElem?_append_right q] at h
  cases e:i - l.length with
  |zero=>rw[e] at h;injection h with h;exact Or.inr ⟨Nat.le_antisymm (Nat.le_of_sub_eq_zero e) q,h.symm⟩
  |succ n=>rw[e] at h;exact nn h
structure wK(k:Kn):Prop where
 op:∀f∈k.aW,f<k.aj.length
 sl:∀(i:Nat) (p:Pr) (l:List (Option Nat)),k.af[i]?=some p→p.fs=some l→∀f,some f∈l→f<k.aj.length
def aM.fo(K:aM k):wK k:=⟨K.of.2,fun i p l h h2=>(K.fs i p l h h2).2⟩
def wK.file(K:wK k):wK {k with aj:=k.aj++[y],aW:=k.aW++[k.aj.length]}:=by
 have hl:(k.aj++[y]).length=k.aj.length+1:=cG
 refine⟨fun f h=>?_,fun i p l h h2 f hf=>?_⟩
 ·show f<(k.aj++[y]).length
  rw[hl]
  rcases mh.mp h with h | h
  ·exact n5 (K.op f h)
  ·rw[gf.mp h];exact kD _
 ·show f<(k.aj++[y]).length
  rw[hl];exact n5 (K.sl i p l h h2 f hf)
def Xk:([]++[a]:List V).length≤999:=bw rfl
noncomputable def Kn.dG(k:Kn):Kn:=(k.oZ.o4 true k.ak.length).o4 false k.ak.length
def Kn.j5(k:Kn)(o:Option Nat):Kn:=o.elim k fun f=>(k.aj[f]?).elim k fun y=>k.gp f {y with aK:=y.aK+1}
def Kn.gR(k:Kn)(l:List (Nat×Option Nat)):Kn:=l.foldl (fun k x=>k.j5 x.2) k
noncomputable def sets(s:List (Option Nat))(l:List (Nat×Option Nat)):List (Option Nat):=l.foldl (fun s x=>s.set x.1 x.2) s
def PI{sl:List (Option Nat)}:∀t,t≤sl.length→sets (List.replicate sl.length none) (((List.range t).zip (sl.take t)).filter fun x=>x.2.isSome)=sl.take t++List.replicate (sl.length - t) none:=by
 intro t
 induction t with
 |zero=>intro _;rfl
 |succ t ih=>
  intro h
  have ih:=ih (eL h)
  have hl:(sl.take t).length=t:=by rw[List.length_take];exact Nat.min_eq_left (eL h)
  have hr:List.replicate (sl.length - t) (none:Option Nat)=none::List.replicate (sl.length - (t+1)) none:=by
   rw[show sl.length - t=(sl.length - (t+1))+1 by lia,List.replicate_succ]
  have e:=bZ h
  rw[kP e,List.range_succ,List.zip_append (by rw[dF,hl]),List.filter_append]
  unfold sets
  rw[kC]
  show sets (sets _ _) _=_
  rw[ih,hr]
  cases hs:sl[t] with
  |none=>show sl.take t++_=_;rw[ku];rfl
  |some f=>
   show(sl.take t++_).set t (some f)=_
   rw[List.set_append_right _ _ (cT hl),hl,Nat.sub_self,ku];rfl
def PJ{sl:List (Option Nat)}:sets (List.replicate sl.length none) (aU sl)=sl:=by
 have:=PI (sl:=sl) sl.length (cL _)
 rw[iR,Nat.sub_self] at this
 exact this.trans (fP _)
def FH(h:k.aj[f]?=some y):k.j5 (some f)=k.gp f {y with aK:=y.aK+1}:=by
 show(k.aj[f]?).elim k _=_
 rw[h];rfl
structure Sh(k k':Kn):Prop where
 up:∀(f:Nat) (y:Fi),k.aj[f]?=some y→∃y',k'.aj[f]?=some y'∧y.aK≤y'.aK
 n:k'.slots=k.slots
def Sh.of{k:Kn}:∀{l:List (Nat×Option Nat)} {k':Kn},Sh k k'→Sh k (k'.gR l):=by
 intro l
 induction l with
 |nil=>exact fun h=>h
 |cons a r ih=>
  intro k' h
  refine ih (k':=k'.j5 a.2) ?_
  cases a.2 with
  |none=>exact h
  |some f=>
   show Sh k ((k'.aj[f]?).elim k' fun y=>k'.gp f {y with aK:=y.aK+1})
   cases e:k'.aj[f]? with
   |none=>exact h
   |some y=>
    refine⟨fun g z hz=>?_,h.n⟩
    obtain⟨z',h1,h2⟩:=h.up g z hz
    by_cases e2:f=g
    ·subst e2
     rw[e] at h1;injection h1 with h1;subst h1
     exact⟨_,fh e,by show z.aK≤y.aK+1;lia⟩
    ·exact⟨z',(dU e2).trans h1,h2⟩
noncomputable def Kn.gX(k:Kn)(i j:Nat):Pr:={Pr.nil with pid:=k.bG,st:=71,name:=(k.pr i).name,par:=some i}
def Kn.fork(k:Kn)(i j:Nat)(sl:List (Option Nat)):Kn:=((((k.new j (k.pr i).name).aA j (k.gX i j)).gR (aU sl)).aA j {k.gX i j with fs:=some sl,st:=161,ch:=none})
theorem aM.new(K:aM k):aM (k.new j nm):=
 have h:=K.aA (i:=j) (p:={Pr.nil with pid:=k.bG,st:=71,name:=nm}) (fun _=>nn) (fun _=>nn)
 ⟨h.n,h.n0,h.nl,h.par,h.fs,h.sl,h.file,h.of,h.bq,h.size,h.made,h.dict⟩
def wM:∀{l:List (Nat×Option Nat)} {k:Kn},(k.gR l).af=k.af:=by
 intro l
 induction l with
 |nil=>intro k;rfl
 |cons a r ih=>
  intro k
  refine(ih (k:=k.j5 a.2)).trans ?_
  cases a.2 with
  |none=>rfl
  |some f=>
   show((k.aj[f]?).elim k fun y=>k.gp f {y with aK:=y.aK+1}).af=_
   cases k.aj[f]? <;> rfl
end
noncomputable def eH(g:Nat)(p:Pr):Nat:=(p.fs.getD []).count (some g)
noncomputable def Kn.cnt(k:Kn)(g:Nat):Nat:=(k.af.map (eH g)).sum
theorem nM{α:Type}{g:α→Nat}:∀{l:List α} {i:Nat} {a a':α},l[i]?=some a→((l.set i a').map g).sum+g a=(l.map g).sum+g a'
 |[],_,_,_,h=>by exact nn h
 |c::r,0,a,a',h=>by
  cases h
  show g a'+(r.map g).sum+g c=g c+(r.map g).sum+g a'
  lia
 |c::r,i+1,a,a',h=>by
  have:=nM (g:=g) (l:=r) (i:=i) (a':=a') h
  show g c+((r.set i a').map g).sum+g a=g c+(r.map g).sum+g a'
  lia
def FI{α:Type}{g:α→Nat}{l:List α}{i:Nat}{a:α}(h:l[i]?=some a):g a≤(l.map g).sum:=by
 induction l generalizing i with
 |nil=>exact nn h
 |cons c r ih=>
  show g a≤g c+(r.map g).sum
  cases i with
  |zero=>cases h;exact n7 _ _
  |succ i=>exact aH (ih h) (Nat.le_add_left _ _)
noncomputable def dH(g:Nat)(s:Option Nat):Nat:=if s=some g then 1 else 0
theorem count_set:∀{l:List (Option Nat)} {i:Nat} {a a':Option Nat},l[i]?=some a→(l.set i a').count (some g)+dH g a=l.count (some g)+dH g a'
 |[],_,_,_,h=>by exact nn h
 |c::r,0,a,a',h=>by
  cases h
  show(a'::r).count (some g)+dH g c=(c::r).count (some g)+dH g a'
  rw[List.count_cons,List.count_cons]
  unfold dH
  by_cases h1:a'=some g <;> by_cases h2:c=some g <;> simp [h1,h2]
 |c::r,i+1,a,a',h=>by
  have:=count_set (g:=g) (l:=r) (i:=i) (a':=a') h
  show(c::r.set i a').count (some g)+dH g a=(c::r).count (some g)+dH g a'
  rw[List.count_cons,List.count_cons]
  lia
def bh (p:Pr):Prop:=p.st≠209∧p.st≠228
structure Ip(ps:List Pr)(np:Int):Prop where
 p0:∃p,ps[0]?=some p∧(p.pid=1∧p.par=none)∧bh p
 st:∀(i:Nat) (p:Pr),ps[i]?=some p→p.st=209∨p.st=161∨p.st=179∨p.st=228
 un:∀(i j:Nat) (p q:Pr),ps[i]?=some p→ps[j]?=some q→p.st≠209→q.st≠209→p.pid=q.pid→i=j
 pid:∀(i:Nat) (p:Pr),ps[i]?=some p→p.st≠209→1≤p.pid∧p.pid<np
 par:∀(i:Nat) (p:Pr),ps[i]?=some p→p.st≠209→i≠0→∃j q,p.par=some j∧ps[j]?=some q∧bh q
 fs:∀(i:Nat) (p:Pr),ps[i]?=some p→p.st≠209→∃sl,p.fs=some sl∧(p.st=228→∀s∈sl,s=none)
 fn:∀(i:Nat) (p:Pr),ps[i]?=some p→p.st=209→p.fs=none
noncomputable def Pp.lU(x:Pp)(b:Bool):Bool:=bif b then x.ro else x.wo
structure uc(fs:List Fi)(op:List Nat)(ps:List Pp):Prop where
 op:∀f∈op,∃y,fs[f]?=some y∧0<y.aK
 en:∀(p:Nat) (x:Pp) (b:Bool),ps[p]?=some x→x.lU b=true→∃(f:Nat) (y:Fi),fs[f]?=some y∧y.pipe=p∧y.rd=b∧0<y.aK
def uc.up{fs gs:List Fi}{op:List Nat}(F:uc fs op ps)(h:∀(g:Nat) (z:Fi),fs[g]?=some z→0<z.aK→∃z',gs[g]?=some z'∧z'.pipe=z.pipe∧z'.rd=z.rd∧0<z'.aK):uc gs op ps where
 op f hf:=by
  obtain⟨y,hy,h0⟩:=F.op f hf
  obtain⟨z,h1,_,_,h4⟩:=h f y hy h0
  exact⟨z,h1,h4⟩
 en p x b hx a:=by
  refine cps fun C9 k9=>?_
  obtain⟨g,v,h1,h2,h3,h4⟩:=F.en p x b hx a
  obtain⟨z,h5,h6,h7,h8⟩:=h g v h1 h4
  refine k9 ?_
  exact⟨g,z,h5,h6.trans h2,h7.trans h3,h8⟩
structure au(k:Kn):Prop where
 ok:aM k
 first:k.first=some 0
 ip:Ip k.af k.bG
 aK:∀(f:Nat) (y:Fi),k.aj[f]?=some y→y.aK=k.cnt f
 fl:uc k.aj k.aW k.ak
 di:∀p∈k.dict,∃x b,k.ak[p]?=some x∧x.lU b=true
 dl:k.dict.length≤k.ak.length
 ol:(k.aW.length:Int)≤k.br
 ml:k.br≤90
theorem au.there(I:au k)(h:k.af[i]?=some p)(hp:p.st≠209):k.there i=true:=by
 show(!(Nat.beq (k.pr i).st 209))=true
 rw[bH h,iC.mpr fun e=>hp (cH e)];rfl
def ud{k:Kn}{i:Nat}(h:k.af[i]?=some p)(ht:k.there i=true):p.st≠209:=fun e=>by
 have:(!(Nat.beq (k.pr i).st 209))=true:=ht
 rw[bH h,e] at this;exact ft this
def au.un'{k:Kn}(I:au k){i:Nat}(h:k.af[i]?=some p)(hp:p.st≠209):∀j,j<k.n→k.there j=true→(k.pr j).pid=p.pid→j=i:=fun j hj ht e=>by
 have hq:=I.ok.pr hj
 exact I.ip.un j i _ p hq h (ud hq ht) hp e
def au.heldBy{k:Kn}(I:au k){i f m:Nat}{p:Pr}{sl:List (Option Nat)}(h:k.af[i]?=some p)(h2:p.fs=some sl)(h3:sl[m]?=some (some f)):∃y x,k.aj[f]?=some y∧k.ak[y.pipe]?=some x∧1≤y.aK:=by
 have hm:some f∈sl:=dD h3
 have hf:=(I.ok.fs _ _ _ h h2).2 f hm
 have hy:=bZ hf
 have hx:=I.ok.file _ _ hy
 refine⟨_,_,hy,bZ hx,?_⟩
 rw[I.aK _ _ hy]
 have h1:1≤eH f p:=by
  unfold eH;rw[h2]
  exact List.count_pos_iff.mpr hm
 have:=aH h1 (FI (g:=eH f) h)
 exact mj.mpr this
structure Pq(k:Kn)(ps:List Pr):Prop where
 n:ps.length=k.af.length
 g:∀(i:Nat) (q:Pr),ps[i]?=some q→∃p,k.af[i]?=some p∧q.pid=p.pid∧q.fs=p.fs∧(q.par=p.par∨(i≠0∧q.par=some 0))∧(q.st=p.st∨(bh p∧(q.st=161∨q.st=179)))
def Pq.back{k:Kn}{ps:List Pr}(h:Pq k ps){i:Nat}(hp:k.af[i]?=some p):∃q,ps[i]?=some q:=⟨_,bZ (by rw[h.n];exact(bM.mp hp).1)⟩
def fM(h:q.st=161∨q.st=179):bh q:=by
 cases h with
 |inl h=>exact⟨by rw[h];exact gy rfl,by rw[h];exact gy rfl⟩
 |inr h=>exact⟨by rw[h];exact gy rfl,by rw[h];exact gy rfl⟩
def FJ{α β γ:Type}{l:List α}{m:List β}{f:α→γ}{g:β→γ}(h:l.length=m.length)(e:∀(i:Nat) (a:α) (b:β),l[i]?=some a→m[i]?=some b→f a=g b):l.map f=m.map g:=by
 refine List.ext_getElem? fun i=>?_
 rw[fV,fV]
 cases h1:l[i]? with
 |none=>
  rw[qQ.mpr (by rw[←h];exact qQ.mp h1)];rfl
 |some a=>
  have h2:=bZ (l:=m) (i:=i) (by rw[←h];exact(bM.mp h1).1)
  rw[h2]
  exact aa some (e i _ _ h1 h2)
def Pq.there{k:Kn}{i:Nat}{p q:Pr}(h:q.st=p.st∨(bh p∧(q.st=161∨q.st=179)))(hq:q.st≠209):p.st≠209:=by
 cases h with
 |inl h=>exact h▸hq
 |inr h=>exact h.1.1
def Pq.live(h:q.st=p.st∨(bh p∧(q.st=161∨q.st=179)))(hp:bh p):bh q:=by
 cases h with
 |inl h=>exact⟨h▸hp.1,h▸hp.2⟩
 |inr h=>exact fM h.2
theorem au.af{k:Kn}(I:au k){ps:List Pr}(P:Pq k ps):au {k with af:=ps}:=by
 have K:aM {k with af:=ps}:=I.ok.af P.n (fun i q j h h2=>by
  obtain⟨p,hp,_,_,h3,_⟩:=P.g i q h
  cases h3 with
  |inl h3=>exact I.ok.par i p j hp (h3▸h2)
  |inr h3=>rw[h3.2] at h2;injection h2 with h2;exact h2▸I.ok.n0) fun i q l h h2=>by
  obtain⟨p,hp,_,h3,_⟩:=P.g i q h
  exact I.ok.fs i p l hp (h3▸h2)
 refine⟨K,I.first,⟨?_,fun i q h=>?_,fun i j q r h h' a b e=>?_,fun i q h a=>?_,fun i q h a n0=>?_,fun i q h a=>?_,fun i q h a=>?_⟩,fun f y h=>?_,I.fl,I.di,I.dl,I.ol,I.ml⟩
 ·obtain⟨p,hp,h1,h2⟩:=I.ip.p0
  refine cps fun C9 k9=>?_
  obtain⟨q,hq⟩:=P.back hp
  obtain⟨p',eO,e1,_,e3,e4⟩:=P.g 0 q hq
  refine k9 ?_
  rw[hp] at eO;injection eO with eO;subst eO
  exact⟨q,hq,⟨e1.trans h1.1,e3.elim (fun e=>e.trans h1.2) fun e=>absurd rfl e.1⟩,Pq.live e4 h2⟩
 ·obtain⟨p,hp,_,_,_,h4⟩:=P.g i q h
  cases h4 with
  |inl h4=>rw[h4];exact I.ip.st i p hp
  |inr h4=>cases h4.2 with
   |inl h=>exact Or.inr (Or.inl h)
   |inr h=>exact Or.inr (Or.inr (Or.inl h))
 ·obtain⟨p,hp,e1,_,_,e4⟩:=P.g i q h
  obtain⟨p',eO,z5,_,_,z6⟩:=P.g j r h'
  exact I.ip.un i j p p' hp eO (Pq.there (k:=k) (i:=i) e4 a) (Pq.there (k:=k) (i:=i) z6 b) (e1.symm.trans (e.trans z5))
 ·obtain⟨p,hp,e1,_,_,e4⟩:=P.g i q h
  rw[e1];exact I.ip.pid i p hp (Pq.there (k:=k) (i:=i) e4 a)
 ·obtain⟨p,hp,_,_,e3,e4⟩:=P.g i q h
  have fix:∀j r,q.par=some j→k.af[j]?=some r→bh r→∃j r,q.par=some j∧ps[j]?=some r∧bh r:=fun j r h1 h2 h3=>by
   refine cps fun C9 k9=>?_
   obtain⟨r',hr'⟩:=P.back h2
   obtain⟨p',eO,_,_,_,z6⟩:=P.g j r' hr'
   refine k9 ?_
   rw[h2] at eO;injection eO with eO;subst eO
   exact⟨j,r',h1,hr',Pq.live z6 h3⟩
  cases e3 with
  |inl e3=>
   obtain⟨j,r,h1,h2,h3⟩:=I.ip.par i p hp (Pq.there (k:=k) (i:=i) e4 a) n0
   exact fix j r (e3.trans h1) h2 h3
  |inr e3=>
   obtain⟨r,h2,_,h3⟩:=I.ip.p0
   exact fix 0 r e3.2 h2 h3
 ·obtain⟨p,hp,_,e2,_,e4⟩:=P.g i q h
  obtain⟨sl,h1,h2⟩:=I.ip.fs i p hp (Pq.there (k:=k) (i:=i) e4 a)
  refine⟨sl,e2.trans h1,fun z=>h2 ?_⟩
  cases e4 with
  |inl e4=>exact e4▸z
  |inr e4=>exact absurd z (fM e4.2).2
 ·obtain⟨p,hp,_,e2,_,e4⟩:=P.g i q h
  rw[e2]
  refine I.ip.fn i p hp ?_
  cases e4 with
  |inl e4=>exact e4▸a
  |inr e4=>exact absurd a (fM e4.2).1
 ·rw[I.aK f y h]
  unfold Kn.cnt
  rw[FJ (l:=ps) (m:=k.af) (f:=eH f) (g:=eH f) P.n fun i q p hq hp=>by
   obtain⟨p',eO,_,e2,_⟩:=P.g i q hq
   rw[hp] at eO;injection eO with eO;subst eO
   unfold eH;rw[e2]]
def ue{α:Type}{l:List α}{a:Nat}{p q w:α}{R:α→Prop}(h:l[i]?=some p)(hw:l[a]?=some w)(h1:i=a→w=p→R q)(h2:i≠a→R w):∃r,(l.set i q)[a]?=some r∧R r:=by
 by_cases e:i=a
 ·subst e;exact⟨q,fh h,h1 rfl (aT (hw.symm.trans h))⟩
 ·exact⟨w,(dU e).trans hw,h2 e⟩
def au.dm(I:au k)(h:k.af[i]?=some p)(e1:q.pid=p.pid)(e2:q.fs=p.fs)(e3:q.par=p.par∨(i≠0∧q.par=some 0))(e4:q.st=p.st∨(bh p∧(q.st=161∨q.st=179))):au (k.aA i q):=
 I.af ⟨cg,fun j r z=>by
  by_cases e:i=j
  ·subst e
   rw[fh h] at z;injection z with z;subst z
   exact⟨p,h,e1,e2,e3,e4⟩
  ·rw[dU e] at z
   exact⟨r,z,rfl,rfl,Or.inl rfl,Or.inl rfl⟩⟩
theorem au.wake(I:au k):au (k.wake c):=
 I.af ⟨bJ _,fun j r z=>by
  rw[fV] at z
  obtain⟨p,hp,rfl⟩:=m9.mp z
  refine⟨p,hp,?_⟩
  unfold cD
  cases e:gP c p with
  |false=>exact⟨rfl,rfl,Or.inl rfl,Or.inl rfl⟩
  |true=>
   have:p.st=179:=cH (g8.mp e).1
   exact⟨rfl,rfl,Or.inl rfl,Or.inr ⟨fM (Or.inr this),Or.inl rfl⟩⟩⟩
def dI{α:Type}{l:List α}{a z:α}{p:α}(h:l[i]?=some p)(q:(l.set i a)[j]?=some z):(j=i∧z=a)∨(j≠i∧l[j]?=some z):=by
 by_cases e:i=j
 ·subst e;rw[fh h] at q;injection q with q;exact Or.inl ⟨rfl,q.symm⟩
 ·rw[dU e] at q;exact Or.inr ⟨gz e,q⟩
theorem aM.aY{k:Kn}(K:aM k){i:Nat}(h:k.ak[i]?=some x)(hr:(z.bq.length:Int)=k.size∧z.rc≤z.wc∧z.wc - z.rc≤k.size∧0≤z.rc∧(∀o∈z.bq,o<256)){d:List Nat}(hd:d.length≤999∧d.Nodup∧∀p∈d,p<k.ak.length):aM {k.aY i z with dict:=d}:=by
 have hl:(k.ak.set i z).length=k.ak.length:=cg
 refine⟨K.n,K.n0,K.nl,K.par,K.fs,K.sl,fun g w hw=>?_,K.of,fun j w q=>?_,K.size,?_,hd.1,hd.2.1,fun p hp=>?_⟩
 ·show w.pipe<(k.ak.set i z).length
  rw[hl];exact K.file g w hw
 ·rcases dI h q with⟨rfl,rfl⟩ | ⟨_,q⟩
  ·exact hr
  ·exact K.bq j w q
 ·show k.made=(k.ak.set i z).length
  rw[hl];exact K.made
 ·show p<(k.ak.set i z).length
  rw[hl];exact hd.2.2 p hp
theorem au.aY{k:Kn}(I:au k){i:Nat}(h:k.ak[i]?=some x)(e:∀b,z.lU b=x.lU b)(hr:(z.bq.length:Int)=k.size∧z.rc≤z.wc∧z.wc - z.rc≤k.size∧0≤z.rc∧(∀o∈z.bq,o<256)):au (k.aY i z) where
 ok:=I.ok.aY h hr I.ok.dict
 first:=I.first
 ip:=I.ip
 aK:=I.aK
 fl:=⟨I.fl.op,fun j w b q a=>by
  rcases dI h q with⟨rfl,rfl⟩ | ⟨_,q⟩
  ·exact I.fl.en _ x b h (e b▸a)
  ·exact I.fl.en j w b q a⟩
 di:=fun j hj=>by
  obtain⟨v,b,hv,h3⟩:=I.di j hj
  by_cases c:i=j
  ·subst c
   exact⟨z,b,fh hv,(e b).trans (aT (hv.symm.trans h)▸h3)⟩
  ·exact⟨v,b,(dU c).trans hv,h3⟩
 dl:=aH I.dl (cT cg.symm)
 ol:=I.ol
 ml:=I.ml
def Ip.slot(P:Ip ps np)(h:ps[i]?=some p)(e1:q.pid=p.pid)(e2:q.st=p.st)(e3:q.par=p.par)(hf:p.st≠209→∃sl,q.fs=some sl∧(q.st=228→∀s∈sl,s=none))(hn:p.st=209→q.fs=none):Ip (ps.set i q) np:=by
 have g:∀(j:Nat) (z:Pr),(ps.set i q)[j]?=some z→∃w,ps[j]?=some w∧z.pid=w.pid∧z.st=w.st∧z.par=w.par:=fun j z hz=>by
  rcases dI h hz with⟨rfl,rfl⟩ | ⟨_,hz⟩
  ·exact⟨p,h,e1,e2,e3⟩
  ·exact⟨z,hz,rfl,rfl,rfl⟩
 have back:∀(j:Nat) (w:Pr),ps[j]?=some w→∃z,(ps.set i q)[j]?=some z∧z.st=w.st∧z.pid=w.pid∧z.par=w.par:=fun j w hw=>ue h hw (fun _ e=>e▸⟨e2,e1,e3⟩) fun _=>⟨rfl,rfl,rfl⟩
 refine⟨?_,fun j z hz=>?_,fun a c z w hz hw n1 n2 e=>?_,fun j z hz n=>?_,fun j z hz n n0=>?_,fun j z hz n=>?_,fun j z hz n=>?_⟩
 ·obtain⟨w,hw,h1,h2⟩:=P.p0
  obtain⟨z,hz,h3,h4,h5⟩:=back 0 w hw
  exact⟨z,hz,⟨h4.trans h1.1,h5.trans h1.2⟩,by rw[bh,h3];exact h2⟩
 ·obtain⟨w,hw,_,h2,_⟩:=g j z hz
  rw[h2];exact P.st j w hw
 ·obtain⟨z',hz',h1,h2,_⟩:=g a z hz
  obtain⟨w',lW,h3,h4,_⟩:=g c w hw
  exact P.un a c z' w' hz' lW (h2▸n1) (h4▸n2) (h1.symm.trans (e.trans h3))
 ·obtain⟨w,hw,h1,h2,_⟩:=g j z hz
  rw[h1];exact P.pid j w hw (h2▸n)
 ·obtain⟨w,hw,h1,h2,h3⟩:=g j z hz
  refine cps fun C9 k9=>?_
  obtain⟨a,v,h4,h5,h6⟩:=P.par j w hw (h2▸n) n0
  obtain⟨v',h7,h8,_⟩:=back a v h5
  refine k9 ?_
  exact⟨a,v',h3.trans h4,h7,by rw[bh,h8];exact h6⟩
 ·rcases dI h hz with⟨rfl,rfl⟩ | ⟨_,hz⟩
  ·exact hf (e2▸n)
  ·exact P.fs j z hz n
 ·rcases dI h hz with⟨rfl,rfl⟩ | ⟨_,hz⟩
  ·exact hn (e2▸n)
  ·exact P.fn j z hz n
def wN{k:Kn}(h:k.af[i]?=some p)(h2:p.fs=some sl)(h3:sl[m]?=some s):(k.aA i {p with fs:=some (sl.set m t)}).cnt g+dH g s=k.cnt g+dH g t:=by
 have a:=nM (g:=eH g) (a':={p with fs:=some (sl.set m t)}) h
 have e1:eH g p=sl.count (some g):=by unfold eH;rw[h2];rfl
 have e2:eH g {p with fs:=some (sl.set m t)}=(sl.set m t).count (some g):=rfl
 have c:=count_set (g:=g) (a':=t) h3
 rw[e1,e2] at a
 unfold Kn.cnt
 show((k.af.set i _).map (eH g)).sum+_=_
 lia
def aM.uf(K:aM k){sl:List (Option Nat)}(h:k.af[i]?=some p)(h2:p.fs=some sl)(ht:∀f,t=some f→f<k.aj.length):aM (k.aA i {p with fs:=some (sl.set m t)}):=by
 refine K.aA (fun j hj=>K.par _ _ _ h hj) fun l hl=>?_
 injection hl with hl;subst hl
 refine⟨cg.trans (K.fs _ _ _ h h2).1,fun f hf=>?_⟩
 rcases List.mem_or_eq_of_mem_set hf with hf | hf
 ·exact(K.fs _ _ _ h h2).2 f hf
 ·exact ht f hf.symm
theorem aM.gp(K:aM k)(h:k.aj[f]?=some y)(e:z.pipe=y.pipe):aM (k.gp f z):=by
 have hl:(k.aj.set f z).length=k.aj.length:=cg
 refine⟨K.n,K.n0,K.nl,K.par,fun i p l a b=>⟨(K.fs i p l a b).1,fun g hg=>?_⟩,K.sl,fun g w hw=>?_,⟨K.of.1,fun g hg=>?_⟩,K.bq,K.size,K.made,K.dict⟩
 ·show g<(k.aj.set f z).length
  rw[hl];exact(K.fs i p l a b).2 g hg
 ·rcases dI h hw with⟨rfl,rfl⟩ | ⟨_,hw⟩
  ·rw[e];exact K.file _ _ h
  ·exact K.file g w hw
 ·show g<(k.aj.set f z).length
  rw[hl];exact K.of.2 g hg
def aM.PL(K:aM k){os:List Nat}(hl:os.length≤99)(h:∀f∈os,f<k.aj.length):aM {k with aW:=os}:=⟨K.n,K.n0,K.nl,K.par,K.fs,K.sl,K.file,⟨hl,h⟩,K.bq,K.size,K.made,K.dict⟩
def z7{x:Pp}:(x.cF w).bq=x.bq∧(x.cF w).rc=x.rc∧(x.cF w).wc=x.wc:=by cases w <;> exact⟨rfl,rfl,rfl⟩
theorem aM.jA{k:Kn}(K:aM k)(h:k.ak[i]?=some x):aM (k.jA i x w):=by
 have hr:((x.cF w).bq.length:Int)=k.size∧(x.cF w).rc≤(x.cF w).wc∧(x.cF w).wc - (x.cF w).rc≤k.size∧0≤(x.cF w).rc∧(∀o∈(x.cF w).bq,o<256):=by
  rw[z7.1,z7.2.1,z7.2.2];exact K.bq _ _ h
 unfold Kn.jA
 cases (!(x.cF w).ro && !(x.cF w).wo) with
 |true=>exact K.aY h hr ⟨aH List.length_erase_le K.dict.1,K.dict.2.1.erase _,fun p hp=>K.dict.2.2 p (List.mem_of_mem_erase hp)⟩
 |false=>exact K.aY h hr K.dict
theorem aM.dg(K:aM k){f:Nat}(h:k.aj[f]?=some y)(hx:k.ak[y.pipe]?=some x):aM (k.dg f y x):=by
 have K1:=K.gp (z:={y with aK:=y.aK - 1}) h rfl
 unfold Kn.dg
 cases decide (0<y.aK - 1) with
 |true=>exact K1
 |false=>exact(K1.PL (os:=k.aW.filter fun o => !decide (o=f)) (aH (jd _ _) K1.of.1) fun g hg=>K1.of.2 g (dJ.mp hg).1).jA hx
def FL{x:Pp}(h:(x.cF w).lU b=true):x.lU b=true∧b=w:=by
 cases w with
 |true=>cases b with
  |true=>exact⟨h,rfl⟩
  |false=>exact ft h
 |false=>cases b with
  |true=>exact ft h
  |false=>exact⟨h,rfl⟩
def PM{x:Pp}(h:(!x.ro && !x.wo)=false):∃b,x.lU b=true:=by
 cases a:x.ro with
 |true=>exact⟨true,a⟩
 |false=>
  rw[a] at h
  cases c:x.wo with
  |true=>exact⟨false,c⟩
  |false=>rw[c] at h;exact tf h
def au.PN{k:Kn}(I:au k){sl:List (Option Nat)}(h:k.af[i]?=some p)(h2:p.fs=some sl)(h3:sl[m]?=some (some f))(hy:k.aj[f]?=some y)(hx:k.ak[y.pipe]?=some x):
  au ((k.aA i {p with fs:=some (sl.set m none)}).dg f y x):=by
 have hn:p.st≠209:=fun e=>by rw[I.ip.fn i p h e] at h2;exact nn h2
 have hnz:p.st≠228:=fun e=>by
  obtain⟨qh,e1,e3⟩:=I.ip.fs i p h hn
  obtain rfl:=aT (h2.symm.trans e1)
  exact nomatch e3 e _ (dD h3)
 have P1:Ip (k.af.set i {p with fs:=some (sl.set m none)}) k.bG:=I.ip.slot h rfl rfl rfl (fun _=>⟨_,rfl,fun e=>absurd e hnz⟩) fun e=>absurd e hn
 have hc:∀g,(k.aA i {p with fs:=some (sl.set m none)}).cnt g+dH g (some f)=k.cnt g:=fun g=>(wN h h2 h3).trans (by show _+(if none=some g then 1 else 0)=_;rw[if_neg nn];rfl)
 have K2:=(I.ok.uf (m:=m) (t:=none) h h2 (fun _=>nn)).dg (f:=f) hy hx
 have aK:∀(g:Nat) (z:Fi),(k.aj.set f {y with aK:=y.aK - 1})[g]?=some z→z.aK=(k.aA i {p with fs:=some (sl.set m none)}).cnt g:=fun g z hz=>by
  have:=hc g
  rcases dI hy hz with⟨rfl,rfl⟩ | ⟨ne,hz⟩
  ·rw[show dH g (some g)=1 from if_pos rfl] at this
   show y.aK - 1=_
   rw[I.aK g y hy];lia
  ·rw[show dH g (some f)=0 from if_neg fun e=>ne (by injection e with e;exact e.symm)] at this
   rw[I.aK g z hz];lia
 have wit:∀{g:Nat} {z:Fi},k.aj[g]?=some z→g≠f→(k.aj.set f {y with aK:=y.aK - 1})[g]?=some z:=fun hz ne=>(dU (gz ne)).trans hz
 unfold Kn.dg at K2 ⊢
 cases hd:decide (0<y.aK - 1) with
 |true=>
  rw[hd] at K2
  exact⟨K2,I.first,P1,aK,I.fl.up fun g z hz hz0=>by
   by_cases e:g=f
   ·have ev:=aT (hy.symm.trans (e▸hz))
    exact⟨_,(aa (fun g=>(k.aj.set f {y with aK:=y.aK - 1})[g]?) e).trans (fh hy),(aa Fi.pipe ev:y.pipe=z.pipe),(aa Fi.rd ev:y.rd=z.rd),iD hd⟩
   ·exact⟨z,wit hz e,rfl,rfl,hz0⟩,I.di,I.dl,I.ol,I.ml⟩
 |false=>
  rw[hd] at K2
  have fl:uc (k.aj.set f {y with aK:=y.aK - 1}) (k.aW.filter fun o => !decide (o=f)) (k.ak.set y.pipe (x.cF !y.rd)):=⟨fun g hg=>by
   have o9:=dJ.mp hg
   obtain⟨z,hz,h0⟩:=I.fl.op g o9.1
   exact⟨z,wit hz fun e=>(by have:=o9.2;rw[fF e] at this;exact ft this),h0⟩,fun q z b hz a=>by
   have go:∀{z},k.ak[q]?=some z→z.lU b=true→(q=y.pipe→b≠y.rd)→∃(g:Nat) (v:Fi),(k.aj.set f {y with aK:=y.aK - 1})[g]?=some v∧v.pipe=q∧v.rd=b∧0<v.aK:=fun hz a n=>by
    obtain⟨g,v,h1,h2,h3,h4⟩:=I.fl.en q _ b hz a
    exact⟨g,v,wit h1 fun e=>have ev:=aT (hy.symm.trans (e▸h1));n (h2.symm.trans (aa Fi.pipe ev.symm)) (h3.symm.trans (aa Fi.rd ev.symm)),h2,h3,h4⟩
   rcases dI hx hz with⟨rfl,rfl⟩ | ⟨ne,hz⟩
   ·exact go hx (FL a).1 fun _ e=>absurd ((FL a).2.symm.trans e) (by cases y.rd <;> exact(fun h=>absurd h (by decide)))
   ·exact go hz a fun e=>absurd e ne⟩
  have ol:((k.aW.filter fun o => !decide (o=f)).length:Int)≤k.br:=fW (mj.mpr (jd ..)) I.ol
  have hl:(k.ak.set y.pipe (x.cF !y.rd)).length=k.ak.length:=cg
  have di:∀{q:Nat},q∈k.dict→q≠y.pipe→∃z b,(k.ak.set y.pipe (x.cF !y.rd))[q]?=some z∧z.lU b=true:=fun hq n=>by
   obtain⟨z,b,hz,h0⟩:=I.di _ hq
   exact⟨z,b,(dU (gz n)).trans hz,h0⟩
  unfold Kn.jA at K2 ⊢
  cases hs:(!(x.cF !y.rd).ro && !(x.cF !y.rd).wo) with
  |true=>
   rw[hs] at K2
   exact⟨K2,I.first,P1,aK,fl,fun q hq=>by
    have hq:=I.ok.dict.2.1.mem_erase_iff.mp hq
    exact di hq.2 hq.1,aH List.length_erase_le (hl▸I.dl),ol,I.ml⟩
  |false=>
   rw[hs] at K2
   exact⟨K2,I.first,P1,aK,fl,fun q hq=>by
    by_cases e:q=y.pipe
    ·subst e
     exact(PM hs).elim fun b hb=>⟨_,b,fh hx,hb⟩
    ·exact di hq e,aH I.dl (cT hl.symm),ol,I.ml⟩
def au.lX(I:au k){i:Nat}(h:k.af[i]?=some p)(hp:bh p):∃sl,p.fs=some sl:=by
 obtain⟨sl,h1,_⟩:=I.ip.fs i p h hp.1;exact⟨sl,h1⟩
def au.dup(I:au k)(h:k.af[i]?=some p)(hp:bh p)(h2:p.fs=some sl)(h3:sl[n]?=some none)(hy:k.aj[f]?=some y)(h0:1≤y.aK):
  au ((k.aA i {p with fs:=some (sl.set n (some f))}).gp f {y with aK:=y.aK+1}):=by
 have K1:=I.ok.uf (m:=n) (t:=some f) h h2 fun g e=>by injection e with e;rw[←e];exact(bM.mp hy).1
 have K2:=K1.gp (z:={y with aK:=y.aK+1}) hy rfl
 have P1:Ip (k.af.set i {p with fs:=some (sl.set n (some f))}) k.bG:=I.ip.slot h rfl rfl rfl (fun _=>⟨_,rfl,fun e=>absurd e hp.2⟩) fun e=>absurd e hp.1
 have hc:∀g,(k.aA i {p with fs:=some (sl.set n (some f))}).cnt g=k.cnt g+dH g (some f):=fun g=>by
  have:=wN (g:=g) (t:=some f) h h2 h3
  rw[show dH g none=0 from if_neg nn] at this
  exact this
 have up:∀(g:Nat) (z:Fi),k.aj[g]?=some z→0<z.aK→∃z',(k.aj.set f {y with aK:=y.aK+1})[g]?=some z'∧z'.pipe=z.pipe∧z'.rd=z.rd∧0<z'.aK:=fun g z hz hz0=>ue hy hz (fun _ e=>e▸⟨rfl,rfl,Int.lt_add_one_of_le (Int.le_of_lt (e▸hz0))⟩) fun _=>⟨rfl,rfl,hz0⟩
 refine⟨K2,I.first,P1,fun g z hz=>?_,I.fl.up up,I.di,I.dl,I.ol,I.ml⟩
 have hcg:=hc g
 show z.aK=((k.aA i {p with fs:=some (sl.set n (some f))}).cnt g:Nat)
 rcases dI hy hz with⟨rfl,rfl⟩ | ⟨ne,hz⟩
 ·rw[hcg,show dH g (some g)=1 from if_pos rfl]
  show y.aK+1=_
  rw[I.aK _ y hy];rfl
 ·rw[hcg,show dH g (some f)=0 from if_neg fun e=>ne (by injection e with e;exact e.symm),I.aK g z hz];rfl
def au.FN(I:au k)(h:k.aj.length≤f):k.cnt f=0:=by
 unfold Kn.cnt
 have:∀n∈k.af.map (eH f),n=0:=fun n hn=>by
  obtain⟨p,hp,rfl⟩:=bP.mp hn
  obtain⟨i,hi,rfl⟩:=List.getElem_of_mem hp
  unfold eH
  cases e:k.af[i].fs with
  |none=>rfl
  |some sl=>
   refine List.count_eq_zero.mpr fun hm=>?_
   exact absurd ((I.ok.fs i _ sl (bZ hi) e).2 f hm) (Nat.not_lt.mpr h)
 generalize k.af.map (eH f)=l at this
 induction l with
 |nil=>rfl
 |cons a r ih=>
  show a+r.sum=0
  rw[this a (eF ..),ih fun n hn=>this n (eY _ hn)]
def wO{l m:List α}{i:Nat}(h:l[i]?=some a):(l++m)[i]?=some a:=by
 rw[List.getElem?_append_left (bM.mp h).1];exact h
def wQ{k:Kn}:k.dG.aj.length=k.aj.length+2:=by
 show(k.aj++[(⟨true,1,k.ak.length⟩:Fi)]++[(⟨false,1,k.ak.length⟩:Fi)]).length=_
 rw[cG,cG];rfl
def ug{k:Kn}:k.dG.aW=k.aW++[k.aj.length]++[k.aj.length+1]:=by
 show k.aW++[k.aj.length]++[(k.aj++[(⟨true,1,k.ak.length⟩:Fi)]).length]=_
 rw[cG];rfl
def FO{k:Kn}(hz:k.dG.aj[g]?=some z):(g<k.aj.length∧k.aj[g]?=some z)∨(g=k.aj.length∧z=⟨true,1,k.ak.length⟩)∨(g=k.aj.length+1∧z=⟨false,1,k.ak.length⟩):=by
 rcases ua (l:=k.aj++[(⟨true,1,k.ak.length⟩:Fi)]) hz with⟨_,hz⟩ | ⟨rfl,rfl⟩
 ·rcases ua hz with hz | hz
  ·exact Or.inl hz
  ·exact Or.inr (Or.inl hz)
 ·exact Or.inr (Or.inr ⟨cG,rfl⟩)
theorem aM.dG{k:Kn}(K:aM k)(h:k.aW.length≤90)(hd:k.dict.length≤900):aM k.dG:=by
 have lp:k.dG.ak.length=k.ak.length+1:=cG
 refine⟨K.n,K.n0,K.nl,K.par,fun j q l hq hl=>?_,K.sl,fun g z hz=>?_,⟨?_,fun g hg=>?_⟩,fun q z hz=>?_,K.size,?_,?_,?_,fun q hq=>?_⟩
 ·obtain⟨e1,e2⟩:=K.fs j q l hq hl
  exact⟨e1,fun f hf=>by rw[wQ];have:=e2 f hf;lia⟩
 ·rw[lp]
  rcases FO hz with⟨_,hz⟩ | ⟨_,rfl⟩ | ⟨_,rfl⟩
  ·exact n5 (K.file g z hz)
  ·exact kD _
  ·exact kD _
 ·rw[ug,cG,cG];show k.aW.length+1+1≤99;lia
 ·rw[wQ]
  rw[ug] at hg
  rcases mh.mp hg with hg | hg
  ·rcases mh.mp hg with hg | hg
   ·have:=K.of.2 g hg;lia
   ·rw[gf.mp hg];lia
  ·rw[gf.mp hg];lia
 ·rcases ua hz with⟨_,hz⟩ | ⟨rfl,rfl⟩
  ·exact K.bq q z hz
  ·have:=K.size.1
   refine⟨?_,Int.le_refl _,?_,Int.le_refl _,fun o ho=>?_⟩
   ·show((List.replicate k.size.toNat 0).length:Int)=k.size
    rw[lE];lia
   ·show(0:Int) - 0≤k.size;lia
   ·rw[qS ho];exact bw rfl
 ·show k.made+1=_
  rw[lp,K.made]
 ·show(k.dict++[k.made]).length≤999
  rw[cG];show k.dict.length+1≤999;lia
 ·refine List.nodup_append.mpr ⟨K.dict.2.1,(fO.mpr ⟨fN,List.nodup_nil⟩:[k.made].Nodup),fun a ha c hc=>?_⟩
  rw[gf.mp hc,K.made]
  exact mq (K.dict.2.2 a ha)
 ·rw[lp]
  rcases mh.mp hq with hq | hq
  ·exact n5 (K.dict.2.2 q hq)
  ·rw[gf.mp hq,K.made];exact kD _
def au.pipe{k:Kn}(I:au k){i n1 n2:Nat}{p:Pr}(h:k.af[i]?=some p)(hp:bh p)(h2:p.fs=some sl)(h3:sl[n1]?=some none)(h4:(sl.set n1 (some k.aj.length))[n2]?=some none)(hm:(k.aW.length:Int)+2≤k.br)(hd:k.ak.length≤900):
  au (k.dG.aA i {p with fs:=some ((sl.set n1 (some k.aj.length)).set n2 (some (k.aj.length+1)))}):=by
 have P1:Ip (k.af.set i {p with fs:=some ((sl.set n1 (some k.aj.length)).set n2 (some (k.aj.length+1)))}) k.bG:=I.ip.slot h rfl rfl rfl (fun _=>⟨_,rfl,fun e=>absurd e hp.2⟩) fun e=>absurd e hp.1
 have c1:∀g,(k.aA i {p with fs:=some (sl.set n1 (some k.aj.length))}).cnt g=k.cnt g+dH g (some k.aj.length):=fun g=>by
  have:=wN (g:=g) (t:=some k.aj.length) h h2 h3
  rw[show dH g none=0 from if_neg nn] at this
  exact this
 have hc:∀g,(k.aA i {p with fs:=some ((sl.set n1 (some k.aj.length)).set n2 (some (k.aj.length+1)))}).cnt g=k.cnt g+dH g (some k.aj.length)+dH g (some (k.aj.length+1)):=fun g=>by
  have:=wN (g:=g) (t:=some (k.aj.length+1)) (p:={p with fs:=some (sl.set n1 (some k.aj.length))}) (k:=k.aA i {p with fs:=some (sl.set n1 (some k.aj.length))}) (i:=i) (fh h) rfl h4
  rw[Kn.Fq,c1,show dH g none=0 from if_neg nn] at this
  exact this
 have f0:k.dG.aj[k.aj.length]?=some ⟨true,1,k.ak.length⟩:=wO (l:=k.aj++[(⟨true,1,k.ak.length⟩:Fi)]) wJ
 have f1:k.dG.aj[k.aj.length+1]?=some ⟨false,1,k.ak.length⟩:=by
  have e:(k.aj++[(⟨true,1,k.ak.length⟩:Fi)]).length=k.aj.length+1:=cG
  rw[←e];exact wJ (l:=k.aj++[(⟨true,1,k.ak.length⟩:Fi)])
 have ol:(k.dG.aW.length:Int)=k.aW.length+2:=by rw[ug,cG,cG];rfl
 have lp:k.dG.ak.length=k.ak.length+1:=cG
 have K:aM (k.dG.aA i {p with fs:=some ((sl.set n1 (some k.aj.length)).set n2 (some (k.aj.length+1)))}):=by
  have hd':=I.dl
  have:=I.ml
  have K1:=I.ok.dG (by lia) (by lia)
  have K2:=K1.uf (m:=n1) (t:=some k.aj.length) h h2 fun g e=>by injection e with e;subst e;rw[wQ];lia
  have K3:=K2.uf (m:=n2) (t:=some (k.aj.length+1)) (i:=i) (p:={p with fs:=some (sl.set n1 (some k.aj.length))}) (fh h) rfl fun g e=>by
   injection e with e;subst e
   show k.aj.length+1<k.dG.aj.length
   rw[wQ];lia
  rw[Kn.Fq] at K3
  exact K3
 have wit:∀(g:Nat) (z:Fi),k.aj[g]?=some z→k.dG.aj[g]?=some z:=fun g z hz=>wO (wO hz)
 refine⟨K,I.first,P1,fun g z hz=>?_,⟨fun g hg=>?_,fun q z b hz a=>?_⟩,fun q hq=>?_,?_,(by show(k.dG.aW.length:Int)≤k.br;lia),I.ml⟩
 ·show z.aK=((k.aA i {p with fs:=some ((sl.set n1 (some k.aj.length)).set n2 (some (k.aj.length+1)))}).cnt g:Nat)
  rw[hc]
  unfold dH
  rcases FO hz with⟨hl,hz⟩ | ⟨rfl,rfl⟩ | ⟨rfl,rfl⟩
  ·rw[if_neg (fun e=>by injection e with e;lia),if_neg (fun e=>by injection e with e;lia),I.aK g z hz];rfl
  ·rw[if_pos rfl,if_neg (fun e=>by injection e with e;lia),I.FN (cL _)];rfl
  ·rw[if_neg (fun e=>by injection e with e;lia),if_pos rfl,I.FN (Nat.le_succ _)];rfl
 ·have hg:g∈k.dG.aW:=hg
  rw[ug] at hg
  rcases mh.mp hg with hg | hg
  ·rcases mh.mp hg with hg | hg
   ·obtain⟨z,hz,h0⟩:=I.fl.op g hg
    exact⟨z,wit g z hz,h0⟩
   ·rw[gf.mp hg];exact⟨_,f0,Int.zero_lt_one⟩
  ·rw[gf.mp hg];exact⟨_,f1,Int.zero_lt_one⟩
 ·rcases ua hz with⟨_,hz⟩ | ⟨rfl,rfl⟩
  ·obtain⟨g,v,h1,h2⟩:=I.fl.en q z b hz a
   exact⟨g,v,wit g v h1,h2⟩
  ·cases b with
   |true=>exact⟨_,_,f0,rfl,rfl,Int.zero_lt_one⟩
   |false=>exact⟨_,_,f1,rfl,rfl,Int.zero_lt_one⟩
 ·rcases mh.mp hq with hq | hq
  ·obtain⟨z,b,hz,h0⟩:=I.di q hq
   exact⟨z,b,wO hz,h0⟩
  ·rw[gf.mp hq,I.ok.made]
   exact⟨_,true,wJ,rfl⟩
 ·show(k.dict++[k.made]).length≤k.dG.ak.length
  rw[lp,cG]
  exact lF I.dl
def PO:∀{l:List (Nat×Option Nat)} {k:Kn},∃fs:List Fi,k.gR l={k with aj:=fs}∧fs.length=k.aj.length∧∀(g:Nat) (y':Fi),fs[g]?=some y'→∃y,k.aj[g]?=some y∧y'.aK=y.aK+((l.map fun x=>dH g x.2).sum:Nat)∧y'.pipe=y.pipe∧y'.rd=y.rd:=by
 intro l
 induction l with
 |nil=>intro k;exact⟨k.aj,rfl,rfl,fun g y h=>⟨y,h,(Int.add_zero _).symm,rfl,rfl⟩⟩
 |cons a r ih=>
  intro k
  refine cps fun C9 k9=>?_
  obtain⟨fs,h1,h2,h3⟩:=ih (k:=k.j5 a.2)
  refine k9 ?_
  have one:∃gs:List Fi,k.j5 a.2={k with aj:=gs}∧gs.length=k.aj.length∧∀(g:Nat) (y':Fi),gs[g]?=some y'→∃y,k.aj[g]?=some y∧y'.aK=y.aK+(dH g a.2:Nat)∧y'.pipe=y.pipe∧y'.rd=y.rd:=by
   cases ha:a.2 with
   |none=>exact⟨k.aj,rfl,rfl,fun g y h=>⟨y,h,(Int.add_zero _).symm,rfl,rfl⟩⟩
   |some f=>
    cases hf:k.aj[f]? with
    |none=>
     have e:k.j5 (some f)=k:=by show(k.aj[f]?).elim k _=_;rw[hf];rfl
     refine⟨k.aj,e,rfl,fun g y h=>⟨y,h,?_,rfl,rfl⟩⟩
     rw[show dH g (some f)=0 from if_neg fun e=>by injection e with e;subst e;rw[hf] at h;cases h];exact(Int.add_zero _).symm
    |some y=>
     refine⟨k.aj.set f {y with aK:=y.aK+1},FH hf,cg,fun g z hz=>?_⟩
     rcases dI hf hz with⟨rfl,rfl⟩ | ⟨ne,hz⟩
     ·exact⟨y,hf,by rw[show dH g (some g)=1 from if_pos rfl];rfl,rfl,rfl⟩
     ·exact⟨z,hz,by rw[show dH g (some f)=0 from if_neg fun e=>ne (by injection e with e;exact e.symm)];exact(Int.add_zero _).symm,rfl,rfl⟩
  obtain⟨gs,g1,g2,g3⟩:=one
  have ef:(k.j5 a.2).aj=gs:=by rw[g1]
  refine⟨fs,?_,by rw[h2,ef,g2],fun g z hz=>?_⟩
  ·show(k.j5 a.2).gR r=_
   rw[h1,g1]
  ·obtain⟨y,a1,a2,a3,a4⟩:=h3 g z hz
   obtain⟨y0,b1,b2,b3,b4⟩:=g3 g y (ef▸a1)
   refine⟨y0,b1,?_,a3.trans b3,a4.trans b4⟩
   rw[a2,b2,jJ,List.sum_cons];lia
def PR:∀{a:List Nat} {sl:List (Option Nat)},a.length=sl.length→(((a.zip sl).filter fun x=>x.2.isSome).map fun x=>dH g x.2).sum=sl.count (some g):=by
 intro a
 induction a with
 |nil=>intro sl h;cases sl with
  |nil=>rfl
  |cons b r=>cases h
 |cons c a ih=>
  intro sl h
  cases sl with
  |nil=>cases h
  |cons s r=>
   have ih:=ih (sl:=r) (Nat.succ.inj h)
   rw[List.count_cons]
   cases s with
   |none=>exact ih
   |some f=>
    show dH g (some f)+(((a.zip r).filter fun x=>x.2.isSome).map fun x=>dH g x.2).sum=_
    rw[ih,Nat.add_comm]
    unfold dH
    by_cases e:f=g
    ·subst e;simp
    ·rw[if_neg (fun h=>e (by injection h)),if_neg (fun h=>e (by injection eq_of_beq h))]
def Kn.wR{k:Kn}(hf:k.first=some 0):∃fs:List Fi,k.fork i j sl={k with af:=k.af.set j {k.gX i j with fs:=some sl,st:=161,ch:=none},bG:=k.bG+1,aj:=fs}∧fs.length=k.aj.length∧∀(g:Nat) (y':Fi),fs[g]?=some y'→∃y,k.aj[g]?=some y∧y'.aK=y.aK+(sl.count (some g):Nat)∧y'.pipe=y.pipe∧y'.rd=y.rd:=by
 obtain⟨fs,h1,h2,h3⟩:=PO (l:=aU sl) (k:=(k.new j (k.pr i).name).aA j (k.gX i j))
 refine⟨fs,?_,h2,fun g y' h=>?_⟩
 ·have e:∀(a b c:Pr) (l:List Pr),((l.set j a).set j b).set j c=l.set j c:=fun a b c l=>by rw[List.set_set,List.set_set]
  unfold Kn.fork
  rw[h1]
  clear h1 h2 h3
  obtain⟨n,size,br,slots,af,np,first,aj,aW,ak,made,dict,bO⟩:=k
  cases hf
  show Kn.mk n size br slots (((af.set j _).set j _).set j _) _ _ _ _ _ _ _ _=Kn.mk n size br slots (af.set j _) _ _ _ _ _ _ _ _
  rw[e];rfl
 ·obtain⟨y,a1,a2,a3⟩:=h3 g y' h
  rw[show((aU sl).map fun x=>dH g x.2).sum=sl.count (some g) from PR dF] at a2
  exact⟨y,a1,a2,a3⟩
theorem au.fork{k:Kn}(I:au k)(h:k.af[i]?=some p)(hp:bh p)(h2:p.fs=some sl)(hj:k.af[j]?=some q)(hq:q.st=209):au (k.fork i j sl):=by
 obtain⟨fs,e,hl,hf⟩:=Kn.wR (i:=i) (j:=j) (sl:=sl) I.first
 rw[e]
 have eb:(k.gX i j).par=some i:=rfl
 have hb:∀(a:Nat) (z:Pr),(k.af.set j {k.gX i j with fs:=some sl,st:=161,ch:=none})[a]?=some z→(a=j∧z={k.gX i j with fs:=some sl,st:=161,ch:=none})∨(a≠j∧k.af[a]?=some z):=fun a z hz=>dI hj hz
 have keep:∀(a:Nat) (z:Pr),k.af[a]?=some z→z.st≠209→(k.af.set j {k.gX i j with fs:=some sl,st:=161,ch:=none})[a]?=some z:=fun a z hz n=>by
  rw[dU fun e=>n (by subst e;rw[hj] at hz;injection hz with hz;subst hz;exact hq)];exact hz
 have lr:bh {k.gX i j with fs:=some sl,st:=161,ch:=none}:=fM (Or.inl rfl)
 have PT:=I.ok.fs i p sl h h2
 have fe:∀(g:Nat) (y:Fi),k.aj[g]?=some y→∃y',fs[g]?=some y'∧y'.aK=y.aK+(sl.count (some g):Nat)∧y'.pipe=y.pipe∧y'.rd=y.rd:=fun g y hy=>by
  have hg:g<fs.length:=by rw[hl];exact(bM.mp hy).1
  obtain⟨y0,a1,a2,a3⟩:=hf g _ (bZ hg)
  rw[hy] at a1;injection a1 with a1;subst a1
  exact⟨_,bZ hg,a2,a3⟩
 have P:Ip (k.af.set j {k.gX i j with fs:=some sl,st:=161,ch:=none}) (k.bG+1):=by
  refine⟨?_,fun a z hz=>?_,fun a c z w hz hw n1 n2 e=>?_,fun a z hz n=>?_,fun a z hz n n0=>?_,fun a z hz n=>?_,fun a z hz n=>?_⟩
  ·obtain⟨w,hw,a1,a2⟩:=I.ip.p0
   exact⟨w,keep 0 w hw a2.1,a1,a2⟩
  ·rcases hb a z hz with⟨_,rfl⟩ | ⟨_,hz⟩
   ·exact Or.inr (Or.inl rfl)
   ·exact I.ip.st a z hz
  ·rcases hb a z hz with⟨a1,a2⟩ | ⟨_,hz'⟩
   ·rcases hb c w hw with⟨c1,c2⟩ | ⟨_,lW⟩
    ·exact a1.trans c1.symm
    ·have:=(I.ip.pid c w lW n2).2
     subst a2
     have e:k.bG=w.pid:=e
     lia
   ·rcases hb c w hw with⟨c1,c2⟩ | ⟨_,lW⟩
    ·have:=(I.ip.pid a z hz' n1).2
     subst c2
     have e:z.pid=k.bG:=e
     lia
    ·exact I.ip.un a c z w hz' lW n1 n2 e
  ·rcases hb a z hz with⟨rfl,rfl⟩ | ⟨_,hz⟩
   ·show 1≤k.bG∧k.bG<k.bG+1
    have:=I.ip.pid i p h hp.1
    lia
   ·have:=I.ip.pid a z hz n;lia
  ·rcases hb a z hz with⟨rfl,rfl⟩ | ⟨_,hz⟩
   ·exact⟨i,p,rfl,keep i p h hp.1,hp⟩
   ·obtain⟨c,w,a1,a2,a3⟩:=I.ip.par a z hz n n0
    exact⟨c,w,a1,keep c w a2 a3.1,a3⟩
  ·rcases hb a z hz with⟨rfl,rfl⟩ | ⟨_,hz⟩
   ·exact⟨sl,rfl,fun e=>absurd e lr.2⟩
   ·exact I.ip.fs a z hz n
  ·rcases hb a z hz with⟨rfl,rfl⟩ | ⟨_,hz⟩
   ·exact absurd n lr.1
   ·exact I.ip.fn a z hz n
 have K:aM {k with af:=k.af.set j {k.gX i j with fs:=some sl,st:=161,ch:=none},bG:=k.bG+1,aj:=fs}:=by
  refine⟨cg.trans I.ok.n,I.ok.n0,I.ok.nl,fun a z c hz hc=>?_,fun a z l hz hc=>?_,I.ok.sl,fun g y hy=>?_,⟨I.ok.of.1,fun g hg=>?_⟩,I.ok.bq,I.ok.size,I.ok.made,I.ok.dict⟩
  ·rcases hb a z hz with⟨rfl,rfl⟩ | ⟨_,hz⟩
   ·injection hc with hc;subst hc;show i<k.n;rw[←I.ok.n];exact(bM.mp h).1
   ·exact I.ok.par a z c hz hc
  ·show l.length=k.slots∧∀f,some f∈l→f<fs.length
   rw[hl]
   rcases hb a z hz with⟨rfl,rfl⟩ | ⟨_,hz⟩
   ·injection hc with hc;subst hc;exact PT
   ·exact I.ok.fs a z l hz hc
  ·obtain⟨y0,a1,_,a3,_⟩:=hf g y hy
   rw[a3];exact I.ok.file g y0 a1
  ·show g<fs.length
   rw[hl];exact I.ok.of.2 g hg
 refine⟨K,I.first,P,fun g y hy=>?_,I.fl.up fun g y hy h0=>?_,I.di,I.dl,I.ol,I.ml⟩
 ·obtain⟨y0,a1,a2,_⟩:=hf g y hy
  have:=nM (g:=eH g) (a':={k.gX i j with fs:=some sl,st:=161,ch:=none}) hj
  rw[show eH g q=0 from by unfold eH;rw[I.ip.fn j q hj hq];rfl,show eH g {k.gX i j with fs:=some sl,st:=161,ch:=none}=sl.count (some g) from rfl] at this
  rw[a2,I.aK g y0 a1]
  show(k.cnt g:Int)+(sl.count (some g):Nat)=(((k.af.set j _).map (eH g)).sum:Nat)
  unfold Kn.cnt
  lia
 ·obtain⟨y',a1,a2,a3,a4⟩:=fe g y hy
  exact⟨y',a1,a3,a4,by rw[a2];lia⟩
def Kn.mW(k:Kn)(f:Nat):Kn:=(k.aj[f]?).elim k fun y=>(k.ak[y.pipe]?).elim k fun x=>((k.dg f y x).wake (c9 y.pipe false)).wake (c9 y.pipe true)
def Kn.cY(k:Kn)(i m:Nat):Kn:=((k.pr i).fs.bind fun sl=>((sl[m]?).bind fun s=>s).map fun f=>(sl,f)).elim k fun z=>(k.aA i {k.pr i with fs:=some (z.1.set m none)}).mW z.2
def wU{k:Kn}(hy:k.aj[f]?=some y)(hx:k.ak[y.pipe]?=some x):k.mW f=((k.dg f y x).wake (c9 y.pipe false)).wake (c9 y.pipe true):=by
 unfold Kn.mW;rw[hy]
 show(k.ak[y.pipe]?).elim k _=_
 rw[hx];rfl
def wV{k:Kn}(h:k.af[i]?=some p)(h2:p.fs=some sl)(h3:sl[m]?=some (some f)):k.cY i m=(k.aA i {p with fs:=some (sl.set m none)}).mW f:=by
 unfold Kn.cY
 rw[bH h,h2]
 show((((sl[m]?).bind fun s=>s).map fun f=>(sl,f))).elim k _=_
 rw[h3];rfl
structure Tr(i:Nat)(k k':Kn):Prop where
 n:k'.n=k.n
 l:k'.af.length=k.af.length
 np:k'.bG=k.bG
 pl:k'.ak.length=k.ak.length
 g:∀(a:Nat) (p:Pr),k.af[a]?=some p→∃q,k'.af[a]?=some q∧q.pid=p.pid∧q.par=p.par∧(q.st=p.st∨(p.st=179∧q.st=161))∧(a≠i→q.fs=p.fs)
def Tr.refl:Tr i k k:=⟨rfl,rfl,rfl,rfl,fun _ p h=>⟨p,h,rfl,rfl,Or.inl rfl,fun _=>rfl⟩⟩
theorem Tr.trans(x:Tr i a b)(y:Tr i b c):Tr i a c:=
 ⟨y.n.trans x.n,y.l.trans x.l,y.np.trans x.np,y.pl.trans x.pl,fun j p h=>by
  refine cps fun C9 k9=>?_
  obtain⟨q,h1,h2,h3,h4,h5⟩:=x.g j p h
  obtain⟨r,g1,g2,g3,g4,g5⟩:=y.g j q h1
  refine k9 ?_
  refine⟨r,g1,g2.trans h2,g3.trans h3,?_,fun e=>(g5 e).trans (h5 e)⟩
  rcases h4 with h4 | h4
  ·rw[←h4];exact g4
  ·rcases g4 with g4 | g4
   ·exact Or.inr ⟨h4.1,g4.trans h4.2⟩
   ·exact Or.inr ⟨h4.1,g4.2⟩⟩
theorem Tr.wake:Tr i k (k.wake c):=
 ⟨rfl,bJ _,rfl,rfl,fun a p h=>by
  refine⟨cD c p,by show(k.af.map _)[a]?=_;rw[fV,h];rfl,?_⟩
  unfold cD
  cases e:gP c p with
  |false=>exact⟨rfl,rfl,Or.inl rfl,fun _=>rfl⟩
  |true=>exact⟨rfl,rfl,Or.inr ⟨cH (g8.mp e).1,rfl⟩,fun _=>rfl⟩⟩
def Tr.slot(h:k.af[i]?=some p):Tr i k (k.aA i {p with fs:=sl}):=
 ⟨rfl,cg,rfl,rfl,fun a q hq=>ue h hq (fun e z=>z▸⟨rfl,rfl,Or.inl rfl,fun n=>absurd e.symm n⟩) fun _=>⟨rfl,rfl,Or.inl rfl,fun _=>rfl⟩⟩
def wW{k:Kn}:(k.dg f y x).af=k.af∧(k.dg f y x).n=k.n∧(k.dg f y x).bG=k.bG∧(k.dg f y x).ak.length=k.ak.length∧(k.dg f y x).aj.length=k.aj.length∧(k.dg f y x).first=k.first:=by
 unfold Kn.dg
 cases decide (0<y.aK - 1) with
 |true=>exact⟨rfl,rfl,rfl,rfl,cg,rfl⟩
 |false=>
  unfold Kn.jA
  cases (!(x.cF !y.rd).ro && !(x.cF !y.rd).wo) <;> exact⟨rfl,rfl,rfl,cg,cg,rfl⟩
theorem Tr.dg{i:Nat}:Tr i k (k.dg f y x):=by
 obtain⟨h1,h2,h3,h4,_⟩:=wW (k:=k) (f:=f) (y:=y) (x:=x)
 exact⟨h2,by rw[h1],h3,h4,fun a p h=>⟨p,by rw[h1];exact h,rfl,rfl,Or.inl rfl,fun _=>rfl⟩⟩
structure Cn(k k':Kn)(i m:Nat)(sl:List (Option Nat)):Prop where
 I:au k'
 t:Tr i k k'
 s:∃q,k'.af[i]?=some q∧q.fs=some (sl.set m none)
def z8{k:Kn}{i:Nat}(h:k.af[i]?=some p):∃q,(k.wake c).af[i]?=some q∧q.fs=p.fs:=⟨cD c p,by show(k.af.map _)[i]?=_;rw[fV,h];rfl,(Fx c p).2⟩
theorem au.cY{k:Kn}(I:au k){p:Pr}(h:k.af[i]?=some p)(h2:p.fs=some sl)(h3:sl[m]?=some (some f)):Cn k (k.cY i m) i m sl:=by
 obtain⟨y,x,hy,hx,_⟩:=I.heldBy h h2 h3
 rw[wV h h2 h3,wU (k:=k.aA i {p with fs:=some (sl.set m none)}) hy hx]
 refine⟨(I.PN h h2 h3 hy hx).wake.wake,(Tr.slot h).trans (Tr.dg.trans (Tr.wake.trans Tr.wake)),?_⟩
 have h0:((k.aA i {p with fs:=some (sl.set m none)}).dg f y x).af[i]?=some {p with fs:=some (sl.set m none)}:=by rw[wW.1];exact fh h
 obtain⟨q1,a1,a2⟩:=z8 (c:=c9 y.pipe false) h0
 obtain⟨q2,b1,b2⟩:=z8 (c:=c9 y.pipe true) a1
 exact⟨q2,b1,b2.trans a2⟩
noncomputable def uh(s:List (Option Nat))(l:List (Nat×Option Nat)):List (Option Nat):=l.foldl (fun s x=>s.set x.1 none) s
def z9:∀{l:List (Nat×Option Nat)} {s:List (Option Nat)},(∀x∈l,x.1≠m)→(uh s l)[m]?=s[m]?:=by
 intro l
 induction l with
 |nil=>intro s _;rfl
 |cons a r ih=>
  intro s h
  refine(ih (s:=s.set a.1 none) fun x hx=>h x (eY _ hx)).trans ?_
  exact dU (h a (eF ..))
def PU:∀{l:List (Nat×Option Nat)} {s:List (Option Nat)},(uh s l)[m]?=some t→t=none∨(s[m]?=some t∧∀x∈l,x.1≠m):=by
 intro l
 induction l with
 |nil=>intro s h;exact Or.inr ⟨h,(fun _ h=>absurd h fN)⟩
 |cons a r ih=>
  intro s h
  rcases ih (s:=s.set a.1 none) h with h | ⟨h1,h2⟩
  ·exact Or.inl h
  ·by_cases e:a.1=m
   ·subst e
    have hl:a.1<s.length:=by have:=(bM.mp h1).1;rw[cg] at this;exact this
    rw[nc hl] at h1;injection h1 with h1;exact Or.inl h1.symm
   ·rw[dU e] at h1
    exact Or.inr ⟨h1,fun x hx=>by
     rcases cS.mp hx with rfl | hx
     ·exact e
     ·exact h2 x hx⟩
def PV(h:sl[m]?=some (some f)):(m,some f)∈aU sl:=by
 refine dJ.mpr ⟨?_,rfl⟩
 have hm:=(bM.mp h).1
 have:((List.range sl.length).zip sl)[m]?=some (m,some f):=by
  rw[List.getElem?_zip_eq_some]
  exact⟨List.getElem?_range hm,h⟩
 exact dD this
def wX(h:x∈aU sl):∃f,x.2=some f∧sl[x.1]?=some (some f):=by
 obtain⟨h1,h2⟩:=dJ.mp h
 obtain⟨i,hi⟩:=pL h1
 obtain⟨a1,a2⟩:=List.getElem?_zip_eq_some.mp hi
 obtain⟨h3,h4⟩:=bM.mp a1
 rw[List.getElem_range] at h4
 subst h4
 cases hx:x.2 with
 |none=>rw[hx] at h2;exact ft h2
 |some f=>exact⟨f,rfl,hx▸a2⟩
def PW:((aU sl).map Prod.fst).Nodup:=by
 have h1:((aU sl).map Prod.fst).Sublist (((List.range sl.length).zip sl).map Prod.fst):=List.filter_sublist.map _
 rw[List.map_fst_zip (by rw[dF];exact cL _)] at h1
 exact h1.nodup List.nodup_range
def Aa(h:(aU sl)[t]?=some x):∀y∈(aU sl).take t,y.1≠x.1:=fun y hy e=>by
 obtain⟨s,hs⟩:=pL hy
 rw[List.getElem?_take] at hs
 by_cases hst:s<t
 ·rw[if_pos hst] at hs
  have n:=PW (sl:=sl)
  obtain⟨a1,a2⟩:=bM.mp hs
  obtain⟨b1,b2⟩:=bM.mp h
  have:=List.pairwise_iff_getElem.mp n s t (by rw[bJ];exact a1) (by rw[bJ];exact b1) hst
  rw[List.getElem_map,List.getElem_map,a2,b2] at this
  exact this e
 ·rw[if_neg hst] at hs;exact nn hs
def Kn.b9(k:Kn)(i:Nat):Kn:=(k.pr i).fs.elim k fun sl=>(aU sl).foldl (fun k x=>k.cY i x.1) k
structure Lg(k k':Kn)(i:Nat)(s:List (Option Nat)):Prop where
 I:au k'
 t:Tr i k k'
 s:∃q,k'.af[i]?=some q∧q.fs=some s
def au.wY(I:au k)(h:k.af[i]?=some p)(h2:p.fs=some sl):∀t,t≤(aU sl).length→Lg k (((aU sl).take t).foldl (fun k x=>k.cY i x.1) k) i (uh sl ((aU sl).take t)):=by
 intro t
 induction t with
 |zero=>exact fun _=>⟨I,Tr.refl,p,h,h2⟩
 |succ t ih=>
  intro ht
  obtain⟨I1,t1,q,hq,hs⟩:=ih (eL ht)
  have hx:=bZ ht
  obtain⟨f,e1,e2⟩:=wX (dD hx)
  rw[kP hx,kC]
  have h3:(uh sl ((aU sl).take t))[(aU sl)[t].1]?=some (some f):=(z9 (Aa hx)).trans e2
  obtain⟨I2,t2,s2⟩:=I1.cY hq hs h3
  refine⟨I2,t1.trans t2,?_⟩
  unfold uh at s2 ⊢
  rw[kC]
  exact s2
theorem au.b9(I:au k)(h:k.af[i]?=some p)(hp:bh p):∃q sl,au (k.b9 i)∧Tr i k (k.b9 i)∧(k.b9 i).af[i]?=some q∧q.fs=some sl∧(∀s∈sl,s=none)∧bh q:=by
 refine cps fun C9 k9=>?_
 obtain⟨sl,h2⟩:=I.lX h hp
 obtain⟨I1,t1,q,hq,hs⟩:=I.wY h h2 (aU sl).length (cL _)
 refine k9 ?_
 have e:k.b9 i=((aU sl).take (aU sl).length).foldl (fun k x=>k.cY i x.1) k:=by
  unfold Kn.b9;rw[bH h,h2,iR];rfl
 rw[←e] at I1 t1 hq
 rw[iR] at hs
 refine⟨q,_,I1,t1,hq,hs,fun s hm=>?_,?_⟩
 ·obtain⟨m,hm⟩:=pL hm
  rcases PU hm with z | ⟨z1,z2⟩
  ·exact z
  ·cases s with
   |none=>rfl
   |some f=>exact absurd rfl (z2 _ (PV z1))
 ·obtain⟨q',a1,_,_,a4,_⟩:=t1.g i p h
  rw[hq] at a1;injection a1 with a1;subst a1
  rcases a4 with a4 | a4
  ·exact⟨a4▸hp.1,a4▸hp.2⟩
  ·exact fM (Or.inl a4.2)
structure Rp(l:List Nat)(k k':Kn):Prop where
 I:au k'
 n:k'.n=k.n
 le:k'.af.length=k.af.length
 np:k'.bG=k.bG
 pl:k'.ak.length=k.ak.length
 g:∀(a:Nat) (p:Pr),k.af[a]?=some p→∃q,k'.af[a]?=some q∧q.pid=p.pid∧q.fs=p.fs∧(q.st=p.st∨(p.st=179∧q.st=161))∧(q.par=p.par∨q.par=some 0)∧(a∈l→q.par=some 0)
def Rp.step(I:au k)(hj:j<k.n)(h0:j≠0):Rp [j] k (k.gQ j):=by
 have h:=I.ok.pr hj
 have I1:au (k.aA j {k.pr j with par:=some 0}):=I.dm h rfl rfl (Or.inr ⟨h0,rfl⟩) (Or.inl rfl)
 have g1:∀(a:Nat) (p:Pr),k.af[a]?=some p→∃q,(k.aA j {k.pr j with par:=some 0}).af[a]?=some q∧q.pid=p.pid∧q.fs=p.fs∧q.st=p.st∧(q.par=p.par∨q.par=some 0)∧(a∈[j]→q.par=some 0):=fun a p hp=>ue h hp (fun _ z=>z▸⟨rfl,rfl,rfl,Or.inr rfl,fun _=>rfl⟩) fun e=>⟨rfl,rfl,rfl,Or.inl rfl,fun m=>absurd (gf.mp m).symm e⟩
 unfold Kn.gQ
 cases Nat.beq (k.pr j).st 228 with
 |false=>
  refine⟨I1,rfl,cg,rfl,rfl,fun a p hp=>?_⟩
  refine cps fun C9 k9=>?_
  obtain⟨q,a1,a2,a3,a4,a5⟩:=g1 a p hp
  refine k9 ?_
  exact⟨q,a1,a2,a3,Or.inl a4,a5⟩
 |true=>
  refine⟨I1.wake,rfl,(bJ _).trans cg,rfl,rfl,fun a p hp=>?_⟩
  refine cps fun C9 k9=>?_
  obtain⟨q,a1,a2,a3,a4,a5,a6⟩:=g1 a p hp
  obtain⟨r,b1,b2,b3,b4,b5⟩:=(Tr.wake (i:=k.n) (k:=k.aA j {k.pr j with par:=some 0}) (c:=j4 ((k.aA j {k.pr j with par:=some 0}).pr 0).pid)).g a q a1
  refine k9 ?_
  have ha:a≠k.n:=fun e=>by
   have:=(bM.mp hp).1
   rw[I.ok.n,e] at this;exact absurd this (jh _)
  exact⟨r,b1,b2.trans a2,(b5 ha).trans a3,a4▸b4,by rw[b3];exact a5,fun m=>b3.trans (a6 m)⟩
def Rp.fold:∀{l:List Nat} {k:Kn},au k→(∀j∈l,j<k.n∧j≠0)→Rp l k (l.foldl Kn.gQ k):=by
 intro l
 induction l with
 |nil=>exact fun I _=>⟨I,rfl,rfl,rfl,rfl,fun a p h=>⟨p,h,rfl,rfl,Or.inl rfl,Or.inl rfl,(fun h=>absurd h fN)⟩⟩
 |cons b r ih=>
  intro k I h
  have x:=Rp.step I (h b (eF ..)).1 (h b (eF ..)).2
  have y:=ih x.I fun j hj=>by rw[x.n];exact h j (eY _ hj)
  refine⟨y.I,y.n.trans x.n,y.le.trans x.le,y.np.trans x.np,y.pl.trans x.pl,fun a p hp=>?_⟩
  obtain⟨q,a1,a2,a3,a4,a5,a6⟩:=x.g a p hp
  obtain⟨s,b1,b2,b3,b4,b5,b6⟩:=y.g a q a1
  have PX:q.par=some 0→s.par=some 0:=fun e=>b5.elim (fun z=>z.trans e) fun z=>z
  refine⟨s,b1,b2.trans a2,b3.trans a3,?_,?_,fun m=>?_⟩
  ·rcases a4 with a4 | a4
   ·rw[←a4];exact b4
   ·rcases b4 with b4 | b4
    ·exact Or.inr ⟨a4.1,b4.trans a4.2⟩
    ·exact Or.inr ⟨a4.1,b4.2⟩
  ·rcases b5 with b5 | b5
   ·rw[b5];exact a5
   ·exact Or.inr b5
  ·rcases cS.mp m with rfl | m
   ·exact PX (a6 (gf.mpr rfl))
   ·exact b6 m
def au.wZ(I:au k)(h:j∈k.kids i):j≠0:=fun e=>by
 subst e
 obtain⟨p,hp,h1,_⟩:=I.ip.p0
 have:=(dJ.mp h).2
 have this:(k.there 0&&(k.pr 0).par.elim false fun a=>Nat.beq a i)=true:=this
 rw[bH hp,h1.2,Bool.and_comm] at this;exact ft this
theorem au.cI(I:au k)(h0:i≠0):Rp (k.kids i) k (k.cI i)∧∀(a:Nat) (q:Pr),(k.cI i).af[a]?=some q→q.st≠209→q.par≠some i:=by
 have x:Rp (k.kids i) k (k.cI i):=Rp.fold I fun j h=>⟨mU h,I.wZ h⟩
 refine⟨x,fun a q hq n e=>?_⟩
 have ha:a<k.n:=by rw[←I.ok.n,←x.le];exact(bM.mp hq).1
 have hp:=I.ok.pr ha
 obtain⟨q',a1,_,_,a4,a5,a6⟩:=x.g a _ hp
 rw[hq] at a1;injection a1 with a1;subst a1
 have w4:q.par≠some 0:=fun z=>by rw[e] at z;injection z with z;exact h0 z
 rcases a5 with a5 | a5
 ·refine w4 (a6 (dJ.mpr ⟨fE.mpr ha,?_⟩))
  have ht:k.there a=true:=I.there hp (by
   rcases a4 with a4 | a4
   ·exact a4▸n
   ·rw[a4.1];exact gy rfl)
  show(k.there a&&(k.pr a).par.elim false fun c=>Nat.beq c i)=true
  rw[ht,←a5,e]
  exact dh i
 ·exact w4 a5
def au.jz(I:au k)(h:k.af[i]?=some p)(hp:bh p)(h0:i≠0)(hs:p.fs=some sl)(hn:∀t∈sl,t=none)(hpar:∀(a:Nat) (q:Pr),k.af[a]?=some q→q.st≠209→q.par≠some i):
  au (k.aA i {p with st:=228,ch:=none,bN:=s}):=by
 have zu:228≠209:=gy rfl
 have keep:∀(a:Nat) (q:Pr),a≠i→k.af[a]?=some q→(k.af.set i {p with st:=228,ch:=none,bN:=s})[a]?=some q:=fun a q n h=>(dU (gz n)).trans h
 have P:Ip (k.af.set i {p with st:=228,ch:=none,bN:=s}) k.bG:=by
  refine⟨?_,fun a z hz=>?_,fun a c z w hz hw n1 n2 e=>?_,fun a z hz n=>?_,fun a z hz n n0=>?_,fun a z hz n=>?_,fun a z hz n=>?_⟩
  ·obtain⟨q,a1,a2,a3⟩:=I.ip.p0
   exact⟨q,keep 0 q (gz h0) a1,a2,a3⟩
  ·rcases dI h hz with⟨_,rfl⟩ | ⟨_,hz⟩
   ·exact Or.inr (Or.inr (Or.inr rfl))
   ·exact I.ip.st a z hz
  ·rcases dI h hz with⟨a1,a2⟩ | ⟨_,hz'⟩
   ·rcases dI h hw with⟨c1,c2⟩ | ⟨_,lW⟩
    ·exact a1.trans c1.symm
    ·subst a2;rw[a1];exact I.ip.un i c p w h lW hp.1 n2 e
   ·rcases dI h hw with⟨c1,c2⟩ | ⟨_,lW⟩
    ·subst c2;rw[c1];exact I.ip.un a i z p hz' h n1 hp.1 e
    ·exact I.ip.un a c z w hz' lW n1 n2 e
  ·rcases dI h hz with⟨rfl,rfl⟩ | ⟨_,hz⟩
   ·exact I.ip.pid _ p h hp.1
   ·exact I.ip.pid a z hz n
  ·have fix:∀c w,(∃q,k.af[a]?=some q∧q.st≠209∧q.par=some c)→k.af[c]?=some w→(k.af.set i {p with st:=228,ch:=none,bN:=s})[c]?=some w:=fun c w ⟨q,q1,q2,q3⟩ hw=>keep c w (fun e=>hpar a q q1 q2 (e▸q3)) hw
   rcases dI h hz with⟨rfl,rfl⟩ | ⟨_,hz⟩
   ·obtain⟨c,w,a1,a2,a3⟩:=I.ip.par _ p h hp.1 n0
    exact⟨c,w,a1,fix c w ⟨p,h,hp.1,a1⟩ a2,a3⟩
   ·obtain⟨c,w,a1,a2,a3⟩:=I.ip.par a z hz n n0
    exact⟨c,w,a1,fix c w ⟨z,hz,n,a1⟩ a2,a3⟩
  ·rcases dI h hz with⟨rfl,rfl⟩ | ⟨_,hz⟩
   ·exact⟨sl,hs,fun _=>hn⟩
   ·exact I.ip.fs a z hz n
  ·rcases dI h hz with⟨rfl,rfl⟩ | ⟨_,hz⟩
   ·exact absurd n zu
   ·exact I.ip.fn a z hz n
 have K:aM (k.aA i {p with st:=228,ch:=none,bN:=s}):=I.ok.aA (fun j hj=>I.ok.par i p j h hj) fun l hl=>I.ok.fs i p l h hl
 refine⟨K,I.first,P,fun g y hy=>?_,I.fl,I.di,I.dl,I.ol,I.ml⟩
 have:=nM (g:=eH g) (a':={p with st:=228,ch:=none,bN:=s}) h
 rw[show eH g {p with st:=228,ch:=none,bN:=s}=eH g p from rfl] at this
 rw[I.aK g y hy]
 exact aa Int.ofNat (Nat.add_right_cancel this).symm
def Kn.exit(k:Kn)(i:Nat)(s:Int):Kn:=((k.b9 i).aA i {(k.b9 i).pr i with prog:=0}).qt i s
structure Xt(i:Nat)(k k':Kn):Prop where
 I:au k'
 n:k'.n=k.n
 np:k'.bG=k.bG
 pl:k'.ak.length=k.ak.length
 g:∀(a:Nat) (p:Pr),k.af[a]?=some p→∃q,k'.af[a]?=some q∧q.pid=p.pid∧(a≠i→q.fs=p.fs∧(q.st=p.st∨(p.st=179∧q.st=161)))∧(a=i→q.st=228)
def Ab(x:b=a∨(a=179∧b=161))(y:c=b∨(b=179∧c=161)):c=a∨(a=179∧c=161):=by
 rcases x with x | x
 ·rw[←x];exact y
 ·rcases y with y | y
  ·exact Or.inr ⟨x.1,y.trans x.2⟩
  ·exact Or.inr ⟨x.1,y.2⟩
theorem au.exit(I:au k)(h:k.af[i]?=some p)(hp:bh p)(h0:i≠0):Xt i k (k.exit i s):=by
 refine cps fun C9 k9=>?_
 obtain⟨q,sl,I1,t1,h1,s1,n1,l1⟩:=I.b9 h hp
 refine k9 ?_
 unfold Kn.exit
 rw[bH h1]
 have I2:au ((k.b9 i).aA i {q with prog:=0}):=I1.dm h1 rfl rfl (Or.inl rfl) (Or.inl rfl)
 have h2:((k.b9 i).aA i {q with prog:=0}).af[i]?=some {q with prog:=0}:=fh h1
 have g2:∀(a:Nat) (p:Pr),k.af[a]?=some p→∃r,((k.b9 i).aA i {q with prog:=0}).af[a]?=some r∧r.pid=p.pid∧(a≠i→r.fs=p.fs)∧(r.st=p.st∨(p.st=179∧r.st=161)):=fun a p hp=>by
  obtain⟨r,a1,a2,_,a4,a5⟩:=t1.g a p hp
  by_cases e:i=a
  ·have ev:=aT (h1.symm.trans ((aa (fun j=>(k.b9 i).af[j]?) e).trans a1))
   exact⟨_,(aa (fun j=>((k.b9 i).aA i {q with prog:=0}).af[j]?) e.symm).trans h2,(aa Pr.pid ev:q.pid=r.pid).trans a2,fun n=>absurd e.symm n,ev▸a4⟩
  ·exact⟨r,(dU e).trans a1,a2,a5,a4⟩
 have en:((k.b9 i).aA i {q with prog:=0}).n=k.n:=t1.n
 have FP:((k.b9 i).aA i {q with prog:=0}).bG=k.bG:=t1.np
 have FQ:((k.b9 i).aA i {q with prog:=0}).ak.length=k.ak.length:=t1.pl
 generalize (k.b9 i).aA i {q with prog:=0}=k2 at I2 h2 g2 en FP FQ
 obtain⟨x,xp⟩:=I2.cI h0
 obtain⟨r,b1,b2,b3,b4,_,_⟩:=x.g i _ h2
 unfold Kn.qt Kn.jz
 rw[bH b1]
 have lr:bh r:=by
  rcases b4 with b4 | b4
  ·exact⟨b4▸l1.1,b4▸l1.2⟩
  ·exact fM (Or.inl b4.2)
 have I3:=x.I.jz (s:=s) b1 lr h0 (b3.trans s1) n1 xp
 have g3:∀(a:Nat) (p:Pr),k.af[a]?=some p→∃q,((k2.cI i).aA i {r with st:=228,ch:=none,bN:=s}).af[a]?=some q∧q.pid=p.pid∧(a≠i→q.fs=p.fs∧(q.st=p.st∨(p.st=179∧q.st=161)))∧(a=i→q.st=228):=fun a p hp=>by
  refine cps fun C9 k9=>?_
  obtain⟨w,c1,c2,c3,c4⟩:=g2 a p hp
  obtain⟨v,d1,d2,d3,d4,_⟩:=x.g a w c1
  refine k9 ?_
  by_cases e:i=a
  ·have ev:=aT (b1.symm.trans ((aa (fun j=>(k2.cI i).af[j]?) e).trans d1))
   exact⟨_,(aa (fun j=>((k2.cI i).aA i {r with st:=228,ch:=none,bN:=s}).af[j]?) e.symm).trans (fh b1),(aa Pr.pid ev:r.pid=v.pid).trans (d2.trans c2),fun n=>absurd e.symm n,fun _=>rfl⟩
  ·exact⟨v,(dU e).trans d1,d2.trans c2,fun n=>⟨d3.trans (c3 n),Ab c4 d4⟩,fun n=>absurd n.symm e⟩
 have Ac:((k2.cI i).aA i {r with st:=228,ch:=none,bN:=s}).n=k.n:=x.n.trans en
 have Ad:((k2.cI i).aA i {r with st:=228,ch:=none,bN:=s}).bG=k.bG:=x.np.trans FP
 have Ae:((k2.cI i).aA i {r with st:=228,ch:=none,bN:=s}).ak.length=k.ak.length:=x.pl.trans FQ
 generalize (k2.cI i).aA i {r with st:=228,ch:=none,bN:=s}=k3 at I3 g3 Ac Ad Ae
 unfold Kn.tell
 cases (k3.pr i).par with
 |none=>exact⟨I3,Ac,Ad,Ae,g3⟩
 |some j=>
  refine⟨I3.wake,Ac,Ad,Ae,fun a p hp=>?_⟩
  refine cps fun C9 k9=>?_
  obtain⟨w,c1,c2,c3,c4⟩:=g3 a p hp
  obtain⟨v,d1,d2,_,d4,_⟩:=(Tr.wake (i:=i) (k:=k3) (c:=j4 (k3.pr j).pid)).g a w c1
  obtain⟨v',e1,e2⟩:=z8 (c:=j4 (k3.pr j).pid) c1
  refine k9 ?_
  have:v'=v:=aT (e1.symm.trans d1)
  subst this
  refine⟨v',d1,d2.trans c2,fun n=>⟨e2.trans (c3 n).1,Ab (c3 n).2 d4⟩,fun n=>?_⟩
  rcases d4 with d4 | d4
  ·exact d4.trans (c4 n)
  ·rw[c4 n] at d4;exact absurd d4.1 (gy rfl)
def au.FT(I:au k)(h:k.af[j]?=some p)(hz:p.st=228):au (k.aA j Pr.nil):=by
 have zu:p.st≠209:=by rw[hz];exact gy rfl
 have keep:∀(a:Nat) (q:Pr),bh q→k.af[a]?=some q→(k.af.set j Pr.nil)[a]?=some q:=fun a q n hq=>(dU fun e=>by subst e;rw[h] at hq;injection hq with hq;subst hq;exact n.2 hz).trans hq
 have P:Ip (k.af.set j Pr.nil) k.bG:=by
  refine⟨?_,fun a z hz=>?_,fun a c z w hz hw n1 n2 e=>?_,fun a z hz n=>?_,fun a z hz n n0=>?_,fun a z hz n=>?_,fun a z hz n=>?_⟩
  ·obtain⟨q,a1,a2,a3⟩:=I.ip.p0
   exact⟨q,keep 0 q a3 a1,a2,a3⟩
  ·rcases dI h hz with⟨_,rfl⟩ | ⟨_,hz⟩
   ·exact Or.inl rfl
   ·exact I.ip.st a z hz
  ·rcases dI h hz with⟨_,rfl⟩ | ⟨_,hz'⟩
   ·exact absurd rfl n1
   ·rcases dI h hw with⟨_,rfl⟩ | ⟨_,lW⟩
    ·exact absurd rfl n2
    ·exact I.ip.un a c z w hz' lW n1 n2 e
  ·rcases dI h hz with⟨_,rfl⟩ | ⟨_,hz⟩
   ·exact absurd rfl n
   ·exact I.ip.pid a z hz n
  ·rcases dI h hz with⟨_,rfl⟩ | ⟨_,hz⟩
   ·exact absurd rfl n
   ·obtain⟨c,w,a1,a2,a3⟩:=I.ip.par a z hz n n0
    exact⟨c,w,a1,keep c w a3 a2,a3⟩
  ·rcases dI h hz with⟨_,rfl⟩ | ⟨_,hz⟩
   ·exact absurd rfl n
   ·exact I.ip.fs a z hz n
  ·rcases dI h hz with⟨_,rfl⟩ | ⟨_,hz⟩
   ·rfl
   ·exact I.ip.fn a z hz n
 refine⟨I.ok.aA (fun _=>nn) (fun _=>nn),I.first,P,fun g y hy=>?_,I.fl,I.di,I.dl,I.ol,I.ml⟩
 have:=nM (g:=eH g) (a':=Pr.nil) h
 have e0:eH g p=0:=by
  obtain⟨sl,a1,a2⟩:=I.ip.fs j p h zu
  unfold eH;rw[a1]
  exact List.count_eq_zero.mpr fun hm=>by have:=a2 hz _ hm;exact sn this
 rw[e0,show eH g Pr.nil=0 from rfl] at this
 rw[I.aK g y hy]
 exact aa Int.ofNat this.symm
section
variable{k:Kn}{i j m:Nat}{os:List Nat}
noncomputable def Kn.eS(k:Kn)(i m:Nat):Option Nat:=(k.pr i).fs.bind fun sl=>(sl[m]?).bind fun s=>s
noncomputable def Kn.bg(k:Kn):Rs V×Kn:=(.exc .cU,k)
def Kn.cZ(k:Kn)(i:Nat)(c:Ch):Rs V×Kn:=bif (k.pr i).cN then(.exc .cU,k.aA i {k.pr i with prog:=0}) else(.ok .none,k.aA i {k.pr i with st:=179,ch:=c})
def Kn.wrote(k:Kn)(i:Nat)(os:List Nat)(p:Nat)(done:Int)(w:Int×Int):Rs V×Kn:=
 bif decide (w.2=1) then(k.aA i {k.pr i with prog:=done+w.1}).cZ i (c9 p true)
 else bif decide (w.2=2)||decide (done+w.1<os.length) then(.exc .cU,k.aA i {k.pr i with prog:=0}) else(.ok (.int os.length),k.aA i {k.pr i with prog:=0})
def Kn.kW(k:Kn)(i m:Nat)(os:List Nat):Rs V×Kn:=(k.eS i m).elim k.bg fun f=>(k.aj[f]?).elim k.bg fun y=>(k.ak[y.pipe]?).elim k.bg fun x=>
 bif y.rd then k.bg else((k.aY y.pipe (x.write k.size (cut os (some (k.pr i).prog) none))).wake (c9 y.pipe false)).wrote i os y.pipe (k.pr i).prog (x.wrote k.size (cut os (some (k.pr i).prog) none))
def Kn.kX(k:Kn)(i m:Nat)(c:Int):Rs V×Kn:=(k.eS i m).elim k.bg fun f=>(k.aj[f]?).elim k.bg fun y=>(k.ak[y.pipe]?).elim k.bg fun x=>
 bif y.rd then(bif x.blocks c then k.cZ i (c9 y.pipe false) else(.ok (.bytes (x.out k.size (x.gives c))),(k.aY y.pipe (x.read c)).wake (c9 y.pipe true))) else k.bg
def kY(h:k.af[i]?=some p)(h2:p.fs=some sl)(h3:sl[m]?=some (some f)):k.eS i m=some f:=by
 unfold Kn.eS;rw[bH h,h2]
 show((sl[m]?).bind fun s=>s)=_
 rw[h3];rfl
def mX(h:k.af[i]?=some p)(h2:p.fs=some sl)(h3:∀f,sl[m]?≠some (some f)):k.eS i m=none:=by
 unfold Kn.eS;rw[bH h,h2]
 show((sl[m]?).bind fun s=>s)=_
 cases e:sl[m]? with
 |none=>rfl
 |some s=>cases s with
  |none=>rfl
  |some f=>exact absurd e (h3 f)
def w5(h:k.eS i m=some f)(hy:k.aj[f]?=some y)(hx:k.ak[y.pipe]?=some x):k.kX i m c=bif y.rd then(bif x.blocks c then k.cZ i (c9 y.pipe false) else(.ok (.bytes (x.out k.size (x.gives c))),(k.aY y.pipe (x.read c)).wake (c9 y.pipe true))) else k.bg:=by
 unfold Kn.kX;rw[h]
 show(k.aj[f]?).elim k.bg _=_
 rw[hy]
 show(k.ak[y.pipe]?).elim k.bg _=_
 rw[hx];rfl
def w6(h:k.eS i m=none):k.kX i m c=k.bg:=by unfold Kn.kX;rw[h];rfl
def w7(h:k.eS i m=some f)(hy:k.aj[f]?=some y)(hx:k.ak[y.pipe]?=some x):k.kW i m os=bif y.rd then k.bg else((k.aY y.pipe (x.write k.size (cut os (some (k.pr i).prog) none))).wake (c9 y.pipe false)).wrote i os y.pipe (k.pr i).prog (x.wrote k.size (cut os (some (k.pr i).prog) none)):=by
 unfold Kn.kW;rw[h]
 show(k.aj[f]?).elim k.bg _=_
 rw[hy]
 show(k.ak[y.pipe]?).elim k.bg _=_
 rw[hx];rfl
def w9(h:k.eS i m=none):k.kW i m os=k.bg:=by unfold Kn.kW;rw[h];rfl
def xd(h:o∈cut os (some t) none):o∈os:=List.mem_of_mem_take (List.mem_of_mem_drop h)
def PY:(cut os (some t) none).length≤os.length:=by
 show((os.take os.length).drop _).length≤_
 rw[iR,List.length_drop];exact Nat.sub_le _ _
def Xl:((k.aY m x).pr i)=k.pr i:=rfl
def PZ:∀{os:List Nat} {x:Pp},(∀o∈os,o<256)→(∀o∈x.bq,o<256)→∀o∈(os.foldl (gb size) x).bq,o<256:=by
 intro os
 induction os with
 |nil=>exact fun _ h=>h
 |cons a r ih=>
  intro x h hx
  refine ih (x:=gb size x a) (fun o ho=>h o (eY _ ho)) fun o ho=>?_
  rcases List.mem_or_eq_of_mem_set ho with ho | ho
  ·exact hx o ho
  ·rw[ho];exact h a (eF ..)
theorem au.write(I:au k)(h:k.ak[i]?=some x)(ho:∀o∈os,o<256):au (k.aY i (x.write k.size os)):=by
 have r:=I.ok.bq _ _ h
 unfold Pp.write
 cases e:x.ro with
 |false=>exact I.aY h (fun _=>rfl) r
 |true=>
  obtain⟨t0,t1⟩:=FF (os:=os) I.ok h
  have w:=FD (size:=k.size) (os:=os.take (x.takes k.size os.length).toNat) (x:=x)
  have hl:(os.take (x.takes k.size os.length).toNat).length=(x.takes k.size os.length).toNat:=by rw[List.length_take];exact Nat.min_eq_left (Int.toNat_le.mpr t1)
  have tk:x.takes k.size os.length≤k.size - (x.wc - x.rc):=by
   unfold Pp.takes
   by_cases z:k.size - (x.wc - x.rc)<os.length
   ·rw[if_pos z];exact Int.le_refl _
   ·rw[if_neg z];exact jj.mp z
  rw[hl] at w
  have wb:=PZ (size:=k.size) (os:=os.take (x.takes k.size os.length).toNat) (x:=x) (fun o h=>ho o (List.mem_of_mem_take h)) r.2.2.2.2
  show au (k.aY i ((os.take (x.takes k.size os.length).toNat).foldl (gb k.size) x))
  generalize (os.take (x.takes k.size os.length).toNat).foldl (gb k.size) x=z at w wb
  exact I.aY h (fun b=>by cases b with | true=>exact w.2.2.2.1 | false=>exact w.2.2.2.2) ⟨by rw[w.1];exact r.1,by rw[w.2.1,w.2.2.1];exact fW r.2.1 (sN (jf _)),by rw[w.2.1,w.2.2.1,nZ t0,Int.add_comm,Int.add_sub_assoc];exact Int.add_le_of_le_sub_right tk,by rw[w.2.1];exact r.2.2.2.1,wb⟩
noncomputable def kZ:Ch:=some (191,[])
def Kn.mY(k:Kn)(i:Nat)(t:Int):Rs V×Kn:=
 bif decide (k.bO - ((bif decide ((k.pr i).prog=0) then k.bO+1 else(k.pr i).prog) - 1)<t) then(bif decide ((k.pr i).prog=0) then k.aA i {k.pr i with prog:=k.bO+1} else k).cZ i kZ
 else(.ok (.int 0),k.aA i {k.pr i with prog:=0})
def Kn.gY(k:Kn)(i:Nat):Rs V×Kn:=(k.ended i).elim (bif (k.kids i).isEmpty||(k.pr i).cN then k.bg else(.ok .none,k.aA i {k.pr i with st:=179,ch:=j4 (k.pr i).pid}))
 fun j=>(.ok (.tup [.int (k.pr j).pid,.int (k.pr j).bN]),k.aA j Pr.nil)
def rY(h:k.af[i]?=some p):(k.wake c).af[i]?=some (cD c p):=by show(k.af.map _)[i]?=_;rw[fV,h];rfl
def Kn.jB(k:Kn)(i m:Nat):Rs V×Kn:=(k.eS i m).elim k.bg fun _=>(.ok (.int 0),k.cY i m)
noncomputable def Kn.sl(k:Kn)(i:Nat):List (Option Nat):=(k.pr i).fs.getD []
noncomputable def noRoom(k:Kn):Rs V×Kn:=(.exc .noRoom,k)
def Kn.mZ(k:Kn)(i m:Nat):Rs V×Kn:=(k.eS i m).elim k.bg fun f=>(k.aj[f]?).elim k.bg fun y=>
 bif decide (dS (k.sl i)<(k.sl i).length) then(.ok (.int (dS (k.sl i))),(k.aA i {k.pr i with fs:=some ((k.sl i).set (dS (k.sl i)) (some f))}).gp f {y with aK:=y.aK+1}) else noRoom k
def Kn.qu(k:Kn)(i:Nat):List (Option Nat):=(k.sl i).set (dS (k.sl i)) (some k.aj.length)
def Kn.lg(k:Kn)(i:Nat):Rs V×Kn:=
 bif decide (((k.sl i).filter Option.isNone).length<2) || !decide ((k.aW.length:Int)+2≤k.br) then noRoom k
 else(.ok (.tup [.int (dS (k.sl i)),.int (dS (k.qu i))]),k.dG.aA i {k.pr i with fs:=some ((k.qu i).set (dS (k.qu i)) (some (k.aj.length+1)))})
noncomputable def Kn.free(k:Kn):Nat:=k.af.findIdx fun p=>Nat.beq p.st 209
def Kn.jC(k:Kn)(i:Nat):Rs V×Kn:=bif decide (k.free<k.n) then(.ok (.int k.bG),k.fork i k.free (k.sl i)) else noRoom k
def xe{l:List (Option Nat)}:(l.map fun s=>bif s.isNone then 1 else 0).sum=(l.filter Option.isNone).length:=by
 induction l with
 |nil=>rfl
 |cons a r ih=>
  cases a with
  |none=>show 1+(r.map _).sum=(r.filter Option.isNone).length+1;rw[ih,Nat.add_comm]
  |some f=>show 0+(r.map _).sum=(r.filter Option.isNone).length;rw[ih,Nat.zero_add]
def um(h:0<(l.filter Option.isNone).length):dS l<l.length:=by
 obtain⟨a,ha⟩:=List.exists_mem_of_length_pos h
 obtain⟨h1,h2⟩:=dJ.mp ha
 exact List.findIdx_lt_length_of_exists ⟨a,h1,h2⟩
def FU{l:List (Option Nat)}(h:2≤(l.filter Option.isNone).length):dS (l.set (dS l) (some f))<(l.set (dS l) (some f)).length:=by
 refine um ?_
 have h1:=t9 (um (je (l9 1) h))
 have:=nM (g:=fun s:Option Nat=>bif s.isNone then 1 else 0) (a':=some f) h1
 rw[xe,xe] at this
 have this:((l.set (dS l) (some f)).filter Option.isNone).length+1=(l.filter Option.isNone).length+0:=this
 exact Nat.le_of_succ_le_succ (aH h (cT this.symm))
def P0(K:aM k):k.free≤k.n:=by rw[←K.n];exact List.findIdx_le_length
def FW(K:aM k):∀a,a<k.free→k.there a=true:=fun a h=>by
 have h1:a<k.af.length:=je h List.findIdx_le_length
 have:=List.not_of_lt_findIdx h
 show(!(Nat.beq (k.pr a).st 209))=true
 rw[bH (bZ h1),this];rfl
def qw(K:aM k)(h:k.free<k.n):Nat.beq (k.pr k.free).st 209=true:=by
 have h1:k.free<k.af.length:=by rw[K.n];exact h
 have:=List.findIdx_getElem (xs:=k.af) (p:=fun(p:Pr)=>Nat.beq p.st 209) (w:=h1)
 rw[bH (bZ h1)];exact this
def o5(hp:k.af[i]?=some p)(h2:p.fs=some sl):k.sl i=sl:=by unfold Kn.sl;rw[bH hp,h2];rfl
def Kn.kill(k:Kn)(i:Nat):Kn:=k.aA i (bif Nat.beq (k.pr i).st 179 then{k.pr i with cN:=true,st:=161,ch:=none} else{k.pr i with cN:=true})
inductive bQ where
 |write (m:Nat) (os:List Nat)
 |read (m:Nat) (c:Int)
 |close (m:Nat)
 |dup (m:Nat)
 |lu (t:Int)
 |exit (s:Int)
 |pipe | fork | wait
noncomputable def bQ.v:bQ→V
 |.write m os => .tup [.str 223,.int m,.bytes os]
 |.read m c => .tup [.str 156,.int m,.int c]
 |.close m => .tup [.str 46,.int m]
 |.dup m => .tup [.str 57,.int m]
 |.lu t => .tup [.str 110,.int t]
 |.exit s => .tup [.str 61,.int s]
 |.pipe => .tup [.str 147]
 |.fork => .tup [.str 67]
 |.wait => .tup [.str 215]
def Kn.act(k:Kn)(i:Nat):bQ→Rs V×Kn
 |.write m os=>k.kW i m os
 |.read m c=>k.kX i m c
 |.close m=>k.jB i m
 |.dup m=>k.mZ i m
 |.lu t=>k.mY i t
 |.exit s=>(.ok (.int 0),k.exit i s)
 |.pipe=>k.lg i
 |.fork=>k.jC i
 |.wait=>k.gY i
noncomputable def cK:Rs V→V
 |.ok v=>v
 |.exc x=>if Ex.cU=x then .str 163 else .str 119
def bQ.good(i:Nat):bQ→Prop
 |.write _ os=>(∀o∈os,o<256)∧os.length≤999
 |.read _ c=>1≤c
 |.exit _=>i≠0
 |_=>True
def bk (z:Rs V×Kn):Prop:=∀x,z.1 = .exc x→x = .cU∨x = .noRoom
theorem bk.ok:bk (.ok v,k):=fun _ h=>by cases h
theorem bk.bg:bk k.bg:=fun _ h=>by cases h;exact Or.inl rfl
def bk.bad:bk (.exc .cU,k):=fun _ h=>by cases h;exact Or.inl rfl
def bk.aG:bk (noRoom k):=fun _ h=>by cases h;exact Or.inr rfl
theorem bk.bif(h:bk z)(h2:bk w):bk (bif b then z else w):=by cases b <;> assumption
theorem bk.elim{o:Option α}(h:bk z)(h2:∀a,bk (f a)):bk (o.elim z f):=by cases o;exact h;exact h2 _
def bk.sleep:bk (k.cZ i c):=bk.bif bk.bad bk.ok
theorem bk.act{D:bQ}:bk (k.act i D):=by
 cases D with
 |write m os=>exact bk.elim bk.bg fun _=>bk.elim bk.bg fun _=>bk.elim bk.bg fun _=>bk.bif bk.bg (bk.bif bk.sleep (bk.bif bk.bad bk.ok))
 |read m c=>exact bk.elim bk.bg fun _=>bk.elim bk.bg fun _=>bk.elim bk.bg fun _=>bk.bif (bk.bif bk.sleep bk.ok) bk.bg
 |close m=>exact bk.elim bk.bg fun _=>bk.ok
 |dup m=>exact bk.elim bk.bg fun _=>bk.elim bk.bg fun _=>bk.bif bk.ok bk.aG
 |lu t=>exact bk.bif bk.sleep bk.ok
 |exit s=>exact bk.ok
 |pipe=>exact bk.bif bk.aG bk.ok
 |fork=>exact bk.bif bk.ok bk.aG
 |wait=>exact bk.elim (bk.bif bk.bg bk.ok) fun _=>bk.ok
end
theorem au.cZ(I:au k)(h:k.af[i]?=some p)(hp:bh p):au (k.cZ i c).2:=by
 unfold Kn.cZ
 rw[bH h]
 cases p.cN with
 |true=>exact I.dm h rfl rfl (Or.inl rfl) (Or.inl rfl)
 |false=>exact I.dm h rfl rfl (Or.inl rfl) (Or.inr ⟨hp,Or.inr rfl⟩)
def xg(h:bh p):bh (cD c p):=by
 unfold cD
 cases gP c p with
 |true=>exact fM (Or.inl rfl)
 |false=>exact h
theorem au.bif{z w:Rs V×Kn}(h:au z.2)(h2:au w.2):au (bif b then z else w).2:=by cases b <;> assumption
theorem au.wrote(I:au k){os:List Nat}(h:k.af[i]?=some p)(hp:bh p):au (k.wrote i os pi dn w).2:=by
 unfold Kn.wrote
 rw[bH h]
 have I1:au (k.aA i {p with prog:=dn+w.1}):=I.dm h rfl rfl (Or.inl rfl) (Or.inl rfl)
 have I2:au (k.aA i {p with prog:=0}):=I.dm h rfl rfl (Or.inl rfl) (Or.inl rfl)
 exact au.bif (I1.cZ (fh h) hp) (au.bif I2 I2)
def xh{k:Kn}(h:k.ended i=some j):j<k.n∧(k.pr j).st=228∧(k.pr j).par=some i:=by
 have h1:=List.mem_of_find?_eq_some h
 have h2:=List.find?_some h
 refine⟨mU h1,cH h2,?_⟩
 have:=(dJ.mp h1).2
 have this:(k.there j&&(k.pr j).par.elim false fun c=>Nat.beq c i)=true:=this
 have:=(g8.mp this).2
 cases e:(k.pr j).par with
 |none=>rw[e] at this;exact ft this
 |some a=>rw[e] at this;exact aa some (cH this)
theorem au.read(I:au k)(h:k.ak[i]?=some x):au (k.aY i (x.read c)):=by
 have r:=I.ok.bq _ _ h
 unfold Pp.read
 cases x.blocks c with
 |true=>exact I.aY h (fun _=>rfl) r
 |false=>
  have:=Pp.z4 (c:=c) r.2.1
  refine I.aY h (fun _=>rfl) ⟨r.1,?_,?_,?_,r.2.2.2.2⟩
  ·show x.rc+(x.gives c:Nat)≤x.wc;omega
  ·show x.wc - (x.rc+(x.gives c:Nat))≤k.size;omega
  ·show 0≤x.rc+(x.gives c:Nat);omega
theorem au.act(I:au k){i:Nat}(h:k.af[i]?=some p)(hp:bh p)(hD:D.good i)(hd:k.ak.length≤900):au (k.act i D).2:=by
 obtain⟨sl,h2⟩:=I.lX h hp
 cases D with
 |write m os=>
  show au (k.kW i m os).2
  by_cases hs:∃f,sl[m]?=some (some f)
  ·obtain⟨f,h3⟩:=hs
   obtain⟨y,x,hy,hx,_⟩:=I.heldBy h h2 h3
   rw[w7 (kY h h2 h3) hy hx]
   have I1:=(I.write hx (os:=cut os (some (k.pr i).prog) none) fun o ho=>hD.1 o (xd ho)).wake (c:=c9 y.pipe false)
   exact au.bif I (I1.wrote (rY (k:=k.aY _ _) h) (xg hp))
  ·rw[w9 (mX h h2 fun f e=>hs ⟨f,e⟩)];exact I
 |read m c=>
  show au (k.kX i m c).2
  by_cases hs:∃f,sl[m]?=some (some f)
  ·obtain⟨f,h3⟩:=hs
   obtain⟨y,x,hy,hx,_⟩:=I.heldBy h h2 h3
   rw[w5 (kY h h2 h3) hy hx]
   exact au.bif (au.bif (I.cZ h hp) (I.read hx).wake) I
  ·rw[w6 (mX h h2 fun f e=>hs ⟨f,e⟩)];exact I
 |close m=>
  show au (k.jB i m).2
  unfold Kn.jB
  by_cases hs:∃f,sl[m]?=some (some f)
  ·obtain⟨f,h3⟩:=hs
   rw[kY h h2 h3]
   exact(I.cY h h2 h3).I
  ·rw[mX h h2 fun f e=>hs ⟨f,e⟩];exact I
 |dup m=>
  show au (k.mZ i m).2
  unfold Kn.mZ
  rw[o5 h h2,bH h]
  by_cases hs:∃f,sl[m]?=some (some f)
  ·obtain⟨f,h3⟩:=hs
   refine cps fun C9 k9=>?_
   obtain⟨y,x,hy,hx,h1⟩:=I.heldBy h h2 h3
   refine k9 ?_
   rw[kY h h2 h3]
   show au ((k.aj[f]?).elim k.bg _).2
   rw[hy]
   by_cases hl:dS sl<sl.length
   ·show au (bif decide (dS sl<sl.length) then(_:Rs V×Kn) else _).2
    rw[fF hl]
    exact I.dup h hp h2 (t9 hl) hy h1
   ·show au (bif decide (dS sl<sl.length) then(_:Rs V×Kn) else _).2
    rw[iS hl];exact I
  ·rw[mX h h2 fun f e=>hs ⟨f,e⟩];exact I
 |lu t=>
  show au (k.mY i t).2
  unfold Kn.mY
  rw[bH h]
  refine au.bif ?_ (I.dm h rfl rfl (Or.inl rfl) (Or.inl rfl))
  cases decide (p.prog=0) with
  |true=>exact au.cZ (I.dm h (q:={p with prog:=k.bO+1}) rfl rfl (Or.inl rfl) (Or.inl rfl)) (fh h) hp
  |false=>exact I.cZ h hp
 |exit s=>exact(I.exit h hp hD).I
 |pipe=>
  show au (k.lg i).2
  unfold Kn.lg Kn.qu
  rw[o5 h h2,bH h]
  cases e:(decide ((sl.filter Option.isNone).length<2) || !decide ((k.aW.length:Int)+2≤k.br)) with
  |true=>exact I
  |false=>
   have e:=Bool.or_eq_false_iff.mp e
   have h3:2≤(sl.filter Option.isNone).length:=Nat.not_lt.mp (of_decide_eq_false e.1)
   have h4:(k.aW.length:Int)+2≤k.br:=by
    by_cases z:(k.aW.length:Int)+2≤k.br
    ·exact z
    ·rw[iS z] at e;cases e.2
   exact I.pipe h hp h2 (t9 (um (by omega))) (t9 (FU h3)) h4 hd
 |fork=>
  show au (k.jC i).2
  unfold Kn.jC
  rw[o5 h h2]
  by_cases z:k.free<k.n
  ·rw[fF z]
   exact I.fork h hp h2 (I.ok.pr z) (cH (qw I.ok z))
  ·rw[iS z];exact I
 |wait=>
  show au (k.gY i).2
  unfold Kn.gY
  cases e:k.ended i with
  |none=>exact au.bif I (I.dm (I.ok.pr (by rw[←I.ok.n];exact(bM.mp h).1)) rfl rfl (Or.inl rfl) (Or.inr ⟨by rw[bH h];exact hp,Or.inr rfl⟩))
  |some j=>
   obtain⟨h3,h4,_⟩:=xh e
   exact I.FT (I.ok.pr h3) h4
def Pn (k k':Kn):Prop:=k'.ak.length≤k.ak.length+1∧k'.n=k.n
def FY(I:au k)(h:k.af[i]?=some p)(hp:bh p)(hD:D.good i):Pn k (k.act i D).2:=by
 obtain⟨sl,h2⟩:=I.lX h hp
 have z0:∀{ps:List Pp},ps.length=k.ak.length→ps.length≤k.ak.length+1∧k.n=k.n:=fun h=>⟨g9 (cT h),rfl⟩
 have bf:∀{b:Bool} {z w:Rs V×Kn},Pn k z.2→Pn k w.2→Pn k (bif b then z else w).2:=fun{b z w} h h2=>by cases b <;> assumption
 have el:∀{α:Type} {o:Option α} {f:α→Rs V×Kn},(∀a,Pn k (f a).2)→Pn k (o.elim k.bg f).2:=fun{α o f} h=>by cases o;exact z0 rfl;exact h _
 have sq:∀{j:Nat} {z:Pp},(k.ak.set j z).length≤k.ak.length+1∧k.n=k.n:=z0 cg
 have so:∀{k':Kn} {i:Nat} {c:Ch},Pn k k'→Pn k (k'.cZ i c).2:=fun{k' i c} h=>by unfold Kn.cZ;cases (k'.pr i).cN <;> exact h
 cases D with
 |write m os=>exact el fun _=>el fun _=>el fun _=>bf (z0 rfl) (bf (so sq) (bf sq sq))
 |read m c=>exact el fun _=>el fun _=>el fun _=>bf (bf (so (z0 rfl)) sq) (z0 rfl)
 |close m=>
  show Pn k (k.jB i m).2
  unfold Kn.jB
  by_cases hs:∃f,sl[m]?=some (some f)
  ·obtain⟨f,h3⟩:=hs
   rw[kY h h2 h3]
   exact⟨g9 (cT (I.cY h h2 h3).t.pl),(I.cY h h2 h3).t.n⟩
  ·rw[mX h h2 fun f e=>hs ⟨f,e⟩];exact z0 rfl
 |dup m=>exact el fun _=>el fun _=>bf (z0 rfl) (z0 rfl)
 |lu t=>exact bf (so (by cases decide ((k.pr i).prog=0) <;> exact z0 rfl)) (z0 rfl)
 |exit s=>exact⟨g9 (cT (I.exit h hp hD).pl),(I.exit h hp hD).n⟩
 |pipe=>exact bf (z0 rfl) ⟨cT cG,rfl⟩
 |fork=>
  show Pn k (k.jC i).2
  unfold Kn.jC
  obtain⟨fs,e,_⟩:=Kn.wR (i:=i) (j:=k.free) (sl:=k.sl i) I.first
  rw[e]
  exact bf (z0 rfl) (z0 rfl)
 |wait=>
  show Pn k (k.gY i).2
  unfold Kn.gY
  cases k.ended i with
  |none=>exact bf (z0 rfl) (z0 rfl)
  |some j=>exact z0 rfl
noncomputable def Kn.on(k:Kn)(ps:List Pr):Kn:={k with af:=ps}
structure PS(az:Option Nat)(s:Bool)(i:Nat)(a b:Pr):Prop where
 pid:a.pid=b.pid
 par:a.par=b.par
 fs:a.fs=b.fs
 name:a.name=b.name
 bN:a.bN=b.bN
 kb:b.cN=false
 v:az=some i→a.st=161∧a.cN=true∧(b.st=161∨b.st=179)∧(s=true→a.prog=b.prog)
 n:az≠some i→a.st=b.st∧a.ch=b.ch∧a.prog=b.prog∧(a.st=228∨a.cN=false)
structure KS(az:Option Nat)(s:Bool)(ps:List Pr)(k:Kn):Prop where
 l:ps.length=k.af.length
 g:∀(i:Nat) (a b:Pr),ps[i]?=some a→k.af[i]?=some b→PS az s i a b
def aJ (az:Option Nat)(s:Bool)(kA kB:Kn):Prop:=∃ps,kA=kB.on ps∧KS az s ps kB
section
def Xn:161≠179:=gy rfl
def Xo:161≠228:=gy rfl
def PS.wake(P:PS az s i a b):PS az s i (cD c a) (cD c b):=by
 have h1:∀p,(cD c p).pid=p.pid∧(cD c p).par=p.par∧(cD c p).fs=p.fs∧(cD c p).name=p.name∧(cD c p).bN=p.bN∧(cD c p).cN=p.cN∧(cD c p).prog=p.prog:=fun p=>by
  unfold cD
  cases gP c p <;> exact⟨rfl,rfl,rfl,rfl,rfl,rfl,rfl⟩
 obtain⟨a1,a2,a3,a4,a5,a6,a7⟩:=h1 a
 obtain⟨b1,b2,b3,b4,b5,b6,b7⟩:=h1 b
 refine⟨a1.trans (P.pid.trans b1.symm),a2.trans (P.par.trans b2.symm),a3.trans (P.fs.trans b3.symm),a4.trans (P.name.trans b4.symm),a5.trans (P.bN.trans b5.symm),b6.trans P.kb,fun e=>?_,fun e=>?_⟩
 ·obtain⟨h1,h2,h3,h4⟩:=P.v e
  have ea:cD c a=a:=by
   unfold cD
   rw[show gP c a=false from by unfold gP;rw[h1];rfl];rfl
  rw[ea,b7]
  refine⟨h1,h2,?_,h4⟩
  unfold cD
  cases gP c b with
  |true=>exact Or.inl rfl
  |false=>exact h3
 ·obtain⟨h1,h2,h3,h4⟩:=P.n e
  have ew:gP c a=gP c b:=by unfold gP;rw[h1,h2]
  rw[a6,a7,b7]
  unfold cD
  rw[ew]
  cases w:gP c b with
  |false=>exact⟨h1,h2,h3,h4⟩
  |true=>
   refine⟨rfl,rfl,h3,Or.inr ?_⟩
   rcases h4 with h4 | h4
   ·have:b.st=179:=cH (g8.mp w).1
    rw[h1,this] at h4;exact absurd h4 (gy rfl)
   ·exact h4
theorem aJ.wake(S:aJ az s kA kB):aJ az s (kA.wake c) (kB.wake c):=by
 obtain⟨ps,rfl,h⟩:=S
 refine⟨ps.map (cD c),rfl,?_,fun i a b ha hb=>?_⟩
 ·show(ps.map (cD c)).length=(kB.af.map (cD c)).length
  rw[bJ,bJ];exact h.l
 ·have hb:(kB.af.map (cD c))[i]?=some b:=hb
  rw[fV] at ha hb
  obtain⟨a',ha',rfl⟩:=m9.mp ha
  obtain⟨b',hb',rfl⟩:=m9.mp hb
  exact(h.g i a' b' ha' hb').wake
theorem aJ.aA(S:aJ az s kA kB)(P:PS v' s' i a b)(ho:∀j,j≠i→∀x y,PS az s j x y→PS v' s' j x y):aJ v' s' (kA.aA i a) (kB.aA i b):=by
 obtain⟨ps,rfl,h⟩:=S
 refine⟨ps.set i a,rfl,?_,fun j x y hx hy=>?_⟩
 ·show(ps.set i a).length=(kB.af.set i b).length
  rw[cg,cg];exact h.l
 ·have hy:(kB.af.set i b)[j]?=some y:=hy
  by_cases e:i=j
  ·subst e
   have h1:i<ps.length:=by have:=(bM.mp hx).1;rw[cg] at this;exact this
   rw[nc h1] at hx
   rw[nc (h.l▸h1)] at hy
   injection hx with hx;injection hy with hy
   subst hx hy
   exact P
  ·rw[dU e] at hx hy
   exact ho j (gz e) x y (h.g j x y hx hy)
def aJ.j6(S:aJ az s kA kB)(P:PS az s i a b):aJ az s (kA.aA i a) (kB.aA i b):=S.aA P fun _ _ _ _ h=>h
def aJ.rest(S:aJ az s kA kB){f:Kn→Kn}(hf:∀ps,f (kB.on ps)=(f kB).on ps)(hp:(f kB).af=kB.af):aJ az s (f kA) (f kB):=by
 obtain⟨ps,rfl,h⟩:=S
 exact⟨ps,hf ps,by rw[hp];exact h.l,fun i a b ha hb=>h.g i a b ha (by rw[←hp];exact hb)⟩
def aJ.get(S:aJ az s kA kB)(hb:kB.af[i]?=some b):∃a,kA.af[i]?=some a∧PS az s i a b:=by
 obtain⟨ps,rfl,h⟩:=S
 have:i<ps.length:=by rw[h.l];exact(bM.mp hb).1
 exact⟨_,bZ this,h.g i _ b (bZ this) hb⟩
def aJ.Af(S:aJ az s kA kB)(ha:kA.af[i]?=some a):∃b,kB.af[i]?=some b∧PS az s i a b:=by
 obtain⟨ps,rfl,h⟩:=S
 have:i<kB.af.length:=by rw[←h.l];exact(bM.mp ha).1
 exact⟨_,bZ this,h.g i a _ ha (bZ this)⟩
def aJ.eqs(S:aJ az s kA kB):kA.n=kB.n∧kA.aj=kB.aj∧kA.ak=kB.ak∧kA.aW=kB.aW∧kA.dict=kB.dict∧kA.size=kB.size∧kA.bG=kB.bG∧kA.bO=kB.bO∧kA.br=kB.br∧kA.af.length=kB.af.length:=by
 obtain⟨ps,rfl,h⟩:=S
 exact⟨rfl,rfl,rfl,rfl,rfl,rfl,rfl,rfl,rfl,h.l⟩
theorem PS.st(P:PS az s i a b):Nat.beq a.st 209=Nat.beq b.st 209∧Nat.beq a.st 228=Nat.beq b.st 228:=by
 by_cases e:az=some i
 ·obtain⟨h1,_,h3,_⟩:=P.v e
  rw[h1]
  rcases h3 with h3 | h3 <;> rw[h3] <;> exact⟨rfl,rfl⟩
 ·rw[(P.n e).1];exact⟨rfl,rfl⟩
def aJ.prs(S:aJ az s kA kB)(K:aM kB)(hi:i<kB.n):PS az s i (kA.pr i) (kB.pr i):=by
 obtain⟨a,ha,P⟩:=S.get (K.pr hi)
 rw[bH ha];exact P
theorem aJ.there(S:aJ az s kA kB)(K:aM kB)(hi:i<kB.n):kA.there i=kB.there i:=aa (!·) (S.prs K hi).st.1
def xj{l:List α}(h:∀x∈l,p x=q x):l.filter p=l.filter q:=List.filter_congr h
theorem aJ.kids(S:aJ az s kA kB)(K:aM kB):kA.kids j=kB.kids j:=by
 unfold Kn.kids
 rw[S.eqs.1]
 refine xj fun x hx=>?_
 have hx:=fE.mp hx
 show(kA.there x&&_)=(kB.there x&&_)
 rw[S.there K hx,(S.prs K hx).par]
def P5{l:List α}(h:∀x∈l,p x=q x):l.find? p=l.find? q:=by
 induction l with
 |nil=>rfl
 |cons a r ih=>
  rw[List.find?_cons,List.find?_cons,h a (eF ..),ih fun x hx=>h x (eY _ hx)]
theorem aJ.ended(S:aJ az s kA kB)(K:aM kB):kA.ended j=kB.ended j:=by
 unfold Kn.ended
 rw[S.kids K]
 exact P5 fun x hx=>(S.prs K (mU hx)).st.2
theorem aJ.free(S:aJ az s kA kB):kA.free=kB.free:=by
 have e:kA.af.map (fun p=>Nat.beq p.st 209)=kB.af.map fun p=>Nat.beq p.st 209:=FJ S.eqs.2.2.2.2.2.2.2.2.2 fun i a b ha hb=>by
  obtain⟨b',hb',P⟩:=S.Af ha
  rw[hb] at hb';injection hb' with hb';subst hb'
  exact P.st.1
 have f:∀k:Kn,k.free=(k.af.map fun p=>Nat.beq p.st 209).findIdx fun b=>b:=fun k=>by
  unfold Kn.free;rw[List.findIdx_map];rfl
 rw[f,f,e]
theorem aJ.al(S:aJ az s kA kB)(K:aM kB):kA.al=kB.al:=by
 unfold Kn.al
 rw[S.eqs.1]
 exact xj fun x hx=>S.there K (fE.mp hx)
def PS.Ag(P:PS az s i a b):PS az s i {a with fs:=f} {b with fs:=f}:=⟨P.pid,P.par,rfl,P.name,P.bN,P.kb,P.v,P.n⟩
def PS.rX(P:PS az s i a b):PS az s i {a with par:=f} {b with par:=f}:=⟨P.pid,rfl,P.fs,P.name,P.bN,P.kb,P.v,P.n⟩
def PS.xm(P:PS az s i a b):PS az true i {a with prog:=z} {b with prog:=z}:=⟨P.pid,P.par,P.fs,P.name,P.bN,P.kb,fun e=>⟨(P.v e).1,(P.v e).2.1,(P.v e).2.2.1,fun _=>rfl⟩,fun e=>⟨(P.n e).1,(P.n e).2.1,rfl,(P.n e).2.2.2⟩⟩
def PS.strict(P:PS az s i a b)(h:az≠some i):PS az true i a b:=⟨P.pid,P.par,P.fs,P.name,P.bN,P.kb,fun e=>absurd e h,P.n⟩
def P6{k:Kn}:(k.on ps).dg f y x=(k.dg f y x).on ps:=by
 unfold Kn.dg
 cases decide (0<y.aK - 1) with
 |true=>rfl
 |false=>
  show Kn.jA _ _ _ _=Kn.on (Kn.jA _ _ _ _) ps
  unfold Kn.jA
  cases (!(x.cF !y.rd).ro && !(x.cF !y.rd).wo) <;> rfl
theorem aJ.dg(S:aJ az s kA kB){f:Nat}:aJ az s (kA.dg f y x) (kB.dg f y x):=aJ.rest (f:=fun k=>k.dg f y x) S (fun _=>P6) wW.1
theorem aJ.mW(S:aJ az s kA kB):aJ az s (kA.mW f) (kB.mW f):=by
 unfold Kn.mW
 rw[S.eqs.2.1,S.eqs.2.2.1]
 cases kB.aj[f]? with
 |none=>exact S
 |some y=>
  show aJ az s ((kB.ak[y.pipe]?).elim kA _) ((kB.ak[y.pipe]?).elim kB _)
  cases kB.ak[y.pipe]? with
  |none=>exact S
  |some x=>exact S.dg.wake.wake
theorem aJ.cY(S:aJ az s kA kB)(P:PS az s i (kA.pr i) (kB.pr i)):aJ az s (kA.cY i m) (kB.cY i m):=by
 unfold Kn.cY
 rw[P.fs]
 cases ((kB.pr i).fs.bind fun sl=>((sl[m]?).bind fun s=>s).map fun f=>(sl,f)) with
 |none=>exact S
 |some z=>exact(S.j6 P.Ag).mW
end
section
def jD(K:aM k)(h:k.af[i]?=some p):i<k.n:=by rw[←K.n];exact(bM.mp h).1
theorem aJ.b9(S:aJ az s kA kB)(I:au kB)(h:kB.af[i]?=some p)(hp:bh p):aJ az s (kA.b9 i) (kB.b9 i):=by
 obtain⟨sl,h2⟩:=I.lX h hp
 have hi:=jD I.ok h
 have hfs:(kA.pr i).fs=some sl:=(S.prs I.ok hi).fs.trans (by rw[bH h];exact h2)
 unfold Kn.b9
 rw[hfs,bH h,h2]
 have:∀t,t≤(aU sl).length→aJ az s (((aU sl).take t).foldl (fun k x=>k.cY i x.1) kA) (((aU sl).take t).foldl (fun k x=>k.cY i x.1) kB):=by
  intro t
  induction t with
  |zero=>exact fun _=>S
  |succ t ih=>
   intro ht
   have x:=ih (eL ht)
   obtain⟨It,tt,_⟩:=I.wY h h2 t (eL ht)
   rw[kP (bZ ht),kC,kC]
   exact x.cY (x.prs It.ok (by rw[tt.n];exact hi))
 have:=this _ (cL _)
 rw[iR] at this
 exact this
theorem aJ.gQ(S:aJ az s kA kB)(I:au kB)(hj:j<kB.n):aJ az s (kA.gQ j) (kB.gQ j):=by
 have P:=S.prs I.ok hj
 have S1:aJ az s (kA.aA j {kA.pr j with par:=some 0}) (kB.aA j {kB.pr j with par:=some 0}):=S.j6 P.rX
 have K1:=I.ok.rX I.ok.n0 hj
 unfold Kn.gQ
 rw[P.st.2]
 cases Nat.beq (kB.pr j).st 228 with
 |false=>exact S1
 |true=>
  show aJ az s (Kn.wake _ _) (Kn.wake _ _)
  rw[(S1.prs K1 I.ok.n0).pid]
  exact S1.wake
theorem aJ.cI(S:aJ az s kA kB)(I:au kB):aJ az s (kA.cI i) (kB.cI i):=by
 unfold Kn.cI
 rw[S.kids I.ok]
 have:∀(l:List Nat) (kA kB:Kn),aJ az s kA kB→au kB→(∀j∈l,j<kB.n∧j≠0)→aJ az s (l.foldl Kn.gQ kA) (l.foldl Kn.gQ kB):=by
  intro l
  induction l with
  |nil=>exact fun _ _ S _ _=>S
  |cons c r ih=>
   intro kA kB S I h
   have x:=Rp.step I (h c (eF ..)).1 (h c (eF ..)).2
   exact ih _ _ (S.gQ I (h c (eF ..)).1) x.I fun j hj=>by rw[x.n];exact h j (eY _ hj)
 exact this _ _ _ S I fun j h=>⟨mU h,I.wZ h⟩
noncomputable def behind(az:Option Nat)(i:Nat):Option Nat:=bif az.elim false (fun a=>decide (a=i)) then none else az
def xq:behind (some i) i=none:=by unfold behind;rw[show(some i).elim false (fun a=>decide (a=i))=true from fF rfl];rfl
def Ah(h:az≠some i):behind az i=az:=by
 unfold behind
 cases az with
 |none=>rfl
 |some a=>rw[show(some a).elim false (fun a=>decide (a=i))=false from iS fun e=>h (by rw[e])];rfl
theorem aJ.exit(S:aJ az s kA kB)(I:au kB)(h:kB.af[i]?=some p)(hp:bh p)(h0:i≠0)(hs:az≠some i→s=true):aJ (behind az i) true (kA.exit i z) (kB.exit i z):=by
 have hi:=jD I.ok h
 have S1:=S.b9 I h hp
 refine cps fun C9 k9=>?_
 obtain⟨q,sl,I1,t1,h1,s1,n1,l1⟩:=I.b9 h hp
 refine k9 ?_
 have hi1:i<(kB.b9 i).n:=by rw[t1.n];exact hi
 have P1:=S1.prs I1.ok hi1
 unfold Kn.exit
 have S2:aJ az true ((kA.b9 i).aA i {(kA.b9 i).pr i with prog:=0}) ((kB.b9 i).aA i {(kB.b9 i).pr i with prog:=0}):=by
  refine S1.aA P1.xm fun j hj x y P=>?_
  by_cases e:az=some i
  ·exact P.strict fun e2=>hj (by rw[e] at e2;injection e2 with e2;exact e2.symm)
  ·rw[hs e] at P;exact P
 rw[bH h1] at S2 ⊢
 have I2:au ((kB.b9 i).aA i {q with prog:=0}):=I1.dm h1 rfl rfl (Or.inl rfl) (Or.inl rfl)
 have h2:((kB.b9 i).aA i {q with prog:=0}).af[i]?=some {q with prog:=0}:=fh h1
 generalize (kB.b9 i).aA i {q with prog:=0}=k2 at S2 I2 h2
 generalize (kA.b9 i).aA i {(kA.b9 i).pr i with prog:=0}=uo at S2
 obtain⟨x,xp⟩:=I2.cI h0
 have S3:=S2.cI (i:=i) I2
 refine cps fun C9 k9=>?_
 obtain⟨r,b1,b2,b3,b4,_,_⟩:=x.g i _ h2
 refine k9 ?_
 have K3:=x.I.ok
 have Ai:i<(k2.cI i).n:=jD K3 b1
 have P3:=S3.prs K3 Ai
 unfold Kn.qt Kn.jz
 have S4:aJ (behind az i) true ((uo.cI i).aA i {(uo.cI i).pr i with st:=228,ch:=none,bN:=z}) ((k2.cI i).aA i {(k2.cI i).pr i with st:=228,ch:=none,bN:=z}):=by
  have nb:behind az i≠some i:=by
   by_cases e:az=some i
   ·rw[e,xq];exact nn
   ·rw[Ah e];exact e
  have pg:((uo.cI i).pr i).prog=((k2.cI i).pr i).prog:=by
   by_cases e:az=some i
   ·exact(P3.v e).2.2.2 rfl
   ·exact(P3.n e).2.2.1
  refine S3.aA ⟨P3.pid,P3.par,P3.fs,P3.name,rfl,P3.kb,fun e=>absurd e nb,fun _=>⟨rfl,rfl,pg,Or.inl rfl⟩⟩ fun j hj x y P=>?_
  by_cases e:az=some i
  ·rw[e] at P
   rw[e,xq]
   exact⟨P.pid,P.par,P.fs,P.name,P.bN,P.kb,nn,fun _=>P.n fun e2=>hj (by injection e2 with e2;exact e2.symm)⟩
  ·rw[Ah e];exact P
 have K4:aM ((k2.cI i).aA i {(k2.cI i).pr i with st:=228,ch:=none,bN:=z}):=(Kp.jz (s:=z) K3 Ai).K
 have Aj:i<((k2.cI i).aA i {(k2.cI i).pr i with st:=228,ch:=none,bN:=z}).n:=Ai
 generalize (k2.cI i).aA i {(k2.cI i).pr i with st:=228,ch:=none,bN:=z}=k4 at S4 K4 Aj
 generalize (uo.cI i).aA i {(uo.cI i).pr i with st:=228,ch:=none,bN:=z}=qx at S4
 have P4:=S4.prs K4 Aj
 unfold Kn.tell
 rw[P4.par]
 cases hpar:(k4.pr i).par with
 |none=>exact S4
 |some a=>
  show aJ _ true (Kn.wake _ _) (Kn.wake _ _)
  rw[(S4.prs K4 (K4.par i _ a (K4.pr Aj) hpar)).pid]
  exact S4.wake
noncomputable def Rs.fl(r:Rs V)(f:V→Bool)(b:Bool):Bool:=Rs.casesOn (motive:=fun _=>Bool) r f fun _=>b
def xo{v:V}{C:Prop}(h:Rs.exc x=Rs.ok v):C:=ft (aa (fun r=>Rs.fl r (fun _=>true) false) h)
def okN{C:Prop}(hv:isNone v=false)(h:Rs.ok v=Rs.ok V.none):C:=ft (hv.symm.trans (aa (fun r=>Rs.fl r isNone true) h))
def FZ{a b:V}{C:Prop}(n:Nat.beq a.kind b.kind=false)(h:Rs.ok a=Rs.ok b):C:=vk n (aT (aa (fun r=>Rs.casesOn (motive:=fun _=>Option V) r some fun _=>none) h))
inductive AS(az:Option Nat)(i:Nat)(zA zB:Rs V×Kn):Prop where
 |same (r:zA.1=zB.1) (S:aJ az true zA.2 zB.2) (n:az=some i→zB.1 ≠ .ok .none)
 |apart (e:az=some i) (rA:zA.1 = .exc .cU) (rB:zB.1 = .ok .none) (S:aJ az false zA.2 zB.2)
def PS.weak(P:PS az true i a b):PS az false i a b:=⟨P.pid,P.par,P.fs,P.name,P.bN,P.kb,fun e=>⟨(P.v e).1,(P.v e).2.1,(P.v e).2.2.1,ft⟩,P.n⟩
theorem aJ.cZ(S:aJ az true kA kB)(K:aM kB)(h:kB.af[i]?=some p)(hp:bh p):AS az i (kA.cZ i c) (kB.cZ i c):=by
 have P:=S.prs K (jD K h)
 unfold Kn.cZ
 rw[P.kb]
 by_cases e:az=some i
 ·obtain⟨h1,h2,h3,h4⟩:=P.v e
  rw[h2]
  refine .apart e rfl rfl (S.aA ⟨P.pid,P.par,P.fs,P.name,P.bN,P.kb,fun _=>⟨h1,h2,Or.inr rfl,ft⟩,fun n=>absurd e n⟩ fun j hj x y P=>P.weak)
 ·obtain⟨h1,h2,h3,h4⟩:=P.n e
  have hk:(kA.pr i).cN=false:=by
   rcases h4 with h4 | h4
   ·rw[h1,bH h] at h4;exact absurd h4 hp.2
   ·exact h4
  rw[hk]
  exact .same rfl (S.j6 ⟨P.pid,P.par,P.fs,P.name,P.bN,P.kb,fun n=>absurd n e,fun _=>⟨rfl,rfl,h3,Or.inr hk⟩⟩) fun n=>absurd n e
theorem aJ.wrote(S:aJ az true kA kB)(K:aM kB)(h:kB.af[i]?=some p)(hp:bh p){os:List Nat}{pi:Nat}{dn:Int}:AS az i (kA.wrote i os pi dn w) (kB.wrote i os pi dn w):=by
 have hi:=jD K h
 have P:=S.prs K hi
 unfold Kn.wrote
 have S1:∀z,aJ az true (kA.aA i {kA.pr i with prog:=z}) (kB.aA i {kB.pr i with prog:=z}):=fun z=>S.j6 P.xm
 cases decide (w.2=1) with
 |true=>
  have K1:aM (kB.aA i {kB.pr i with prog:=dn+w.1}):=K.aA (fun j hj=>K.par _ _ _ (K.pr hi) hj) fun l hl=>K.fs _ _ _ (K.pr hi) hl
  exact(S1 _).cZ K1 (fh (K.pr hi)) (by rw[bH h];exact hp)
 |false=>
  cases (decide (w.2=2)||decide (dn+w.1<os.length)) with
  |true=>exact .same rfl (S1 _) fun _=>xo
  |false=>exact .same rfl (S1 _) fun _=>(okN rfl)
end
section
theorem PS.prog(P:PS az true i a b):a.prog=b.prog:=by
 by_cases e:az=some i
 ·exact(P.v e).2.2.2 rfl
 ·exact(P.n e).2.2.1
theorem AS.bg(S:aJ az true kA kB):AS az i kA.bg kB.bg := .same rfl S fun _=>xo
theorem AS.elim{α:Type}{o:Option α}{f g:α→Rs V×Kn}(S:aJ az true kA kB)(h:∀x,o=some x→AS az i (f x) (g x)):AS az i (o.elim kA.bg f) (o.elim kB.bg g):=by
 cases o with
 |none=>exact AS.bg S
 |some x=>exact h x rfl
def AS.aG(S:aJ az true kA kB):AS az i (noRoom kA) (noRoom kB) := .same rfl S fun _=>xo
theorem AS.bif(h:AS az i z z')(h2:AS az i w w'):AS az i (bif q then z else w) (bif q then z' else w'):=by cases q <;> assumption
def P7:∀{l:List (Nat×Option Nat)} {k:Kn},(k.on ps).gR l=(k.gR l).on ps:=by
 intro l
 induction l with
 |nil=>intro k;rfl
 |cons x r ih=>
  intro k
  have e:(k.on ps).j5 x.2=(k.j5 x.2).on ps:=by
   cases x.2 with
   |none=>rfl
   |some f=>
    show(k.aj[f]?).elim (k.on ps) _=((k.aj[f]?).elim k _).on ps
    cases k.aj[f]? <;> rfl
  show((k.on ps).j5 x.2).gR r=_
  rw[e];exact ih
def F0(P:PS az s i a b)(h:b.st=209∨b.st=228):az≠some i:=fun e=>by
 have:=fM (P.v e).2.2.1
 rcases h with h | h
 ·exact this.1 h
 ·exact this.2 h
theorem PS.nil(h:az≠some i):PS az s i Pr.nil Pr.nil:=⟨rfl,rfl,rfl,rfl,rfl,rfl,fun e=>absurd e h,fun _=>⟨rfl,rfl,rfl,Or.inr rfl⟩⟩
def PS.same(hk:a.cN=false)(h:az≠some i):PS az s i a a:=⟨rfl,rfl,rfl,rfl,rfl,hk,fun e=>absurd e h,fun _=>⟨rfl,rfl,rfl,Or.inr hk⟩⟩
theorem aJ.act(S:aJ az true kA kB)(I:au kB)(h:kB.af[i]?=some p)(hp:bh p)(hG:D.good i)(hD:∀z,D = .exit z→az≠some i):AS az i (kA.act i D) (kB.act i D):=by
 have K:=I.ok
 have hi:=jD K h
 have P:=S.prs K hi
 have so:∀m,kA.eS i m=kB.eS i m:=fun m=>by unfold Kn.eS;rw[P.fs]
 have sl:kA.sl i=kB.sl i:=by unfold Kn.sl;rw[P.fs]
 have e1:=S.eqs.1
 have e2:=S.eqs.2.1
 have e3:=S.eqs.2.2.1
 have e4:=S.eqs.2.2.2.1
 have e5:=S.eqs.2.2.2.2.1
 have e6:=S.eqs.2.2.2.2.2.1
 have e7:=S.eqs.2.2.2.2.2.2.1
 have e8:=S.eqs.2.2.2.2.2.2.2.1
 have e9:=S.eqs.2.2.2.2.2.2.2.2.1
 have Xp:=S.eqs.2.2.2.2.2.2.2.2.2
 have live:bh (kB.pr i):=by rw[bH h];exact hp
 have nk:az≠some i→(kA.pr i).cN=false:=fun e=>by
  have o9:=P.n e
  have h1:=o9.1
  have h4:=o9.2.2.2
  rcases h4 with h4 | h4
  ·rw[h1] at h4;exact absurd h4 live.2
  ·exact h4
 cases D with
 |write m os=>
  show AS az i (kA.kW i m os) (kB.kW i m os)
  unfold Kn.kW
  rw[so,e2,e3,e6,P.prog]
  refine AS.elim S fun f _=>AS.elim S fun y _=>AS.elim S fun x hx=>?_
  ·have S1:aJ az true (kA.aY y.pipe (x.write kB.size (cut os (some (kB.pr i).prog) none))) (kB.aY y.pipe (x.write kB.size (cut os (some (kB.pr i).prog) none))):=aJ.rest (f:=fun k=>k.aY y.pipe (x.write kB.size (cut os (some (kB.pr i).prog) none))) S (fun _=>rfl) rfl
   have K1:=((I.write hx (os:=cut os (some (kB.pr i).prog) none) fun o ho=>hG.1 o (xd ho)).wake (c:=c9 y.pipe false)).ok
   exact AS.bif (AS.bg S) (S1.wake.wrote K1 (rY (k:=kB.aY _ _) h) (xg hp))
 |read m c=>
  show AS az i (kA.kX i m c) (kB.kX i m c)
  unfold Kn.kX
  rw[so,e2,e3,e6]
  refine AS.elim S fun f _=>AS.elim S fun y _=>AS.elim S fun x _=>?_
  ·have S1:aJ az true (kA.aY y.pipe (x.read c)) (kB.aY y.pipe (x.read c)):=aJ.rest (f:=fun k=>k.aY y.pipe (x.read c)) S (fun _=>rfl) rfl
   exact AS.bif (AS.bif (S.cZ K h hp) (.same rfl S1.wake fun _=>(okN rfl))) (AS.bg S)
 |close m=>
  show AS az i (kA.jB i m) (kB.jB i m)
  unfold Kn.jB
  rw[so]
  exact AS.elim S fun f _ => .same rfl (S.cY P) fun _=>(okN rfl)
 |dup m=>
  show AS az i (kA.mZ i m) (kB.mZ i m)
  unfold Kn.mZ
  rw[so,e2,sl]
  refine AS.elim S fun f _=>AS.elim S fun y _=>?_
  refine AS.bif (.same rfl ?_ fun _=>(okN rfl)) (AS.aG S)
  exact aJ.rest (f:=fun k=>k.gp f {y with aK:=y.aK+1}) (S.j6 P.Ag) (fun _=>rfl) rfl
 |lu t=>
  show AS az i (kA.mY i t) (kB.mY i t)
  unfold Kn.mY
  rw[e8,P.prog]
  have S1:aJ az true (kA.aA i {kA.pr i with prog:=kB.bO+1}) (kB.aA i {kB.pr i with prog:=kB.bO+1}):=S.j6 P.xm
  refine AS.bif ?_ (.same rfl (S.j6 P.xm) fun _=>(okN rfl))
  cases decide ((kB.pr i).prog=0) with
  |true=>exact S1.cZ (K.aA (fun j hj=>K.par _ _ _ (K.pr hi) hj) fun l hl=>K.fs _ _ _ (K.pr hi) hl) (fh (K.pr hi)) live
  |false=>exact S.cZ K h hp
 |exit z=>
  have h1:=hD z rfl
  have:=S.exit I h hp hG (fun _=>rfl) (z:=z)
  rw[Ah h1] at this
  exact .same rfl this fun _=>(okN rfl)
 |pipe=>
  show AS az i (kA.lg i) (kB.lg i)
  unfold Kn.lg Kn.qu
  rw[sl,e2,e4,e9]
  refine AS.bif (AS.aG S) (.same rfl ?_ fun _=>(okN rfl))
  have S1:aJ az true kA.dG kB.dG:=aJ.rest (f:=Kn.dG) S (fun _=>rfl) rfl
  exact S1.j6 P.Ag
 |fork=>
  show AS az i (kA.jC i) (kB.jC i)
  unfold Kn.jC
  rw[S.free,e1,sl,e7]
  by_cases z:kB.free<kB.n
  ·rw[fF z]
   refine .same rfl ?_ fun _=>(okN rfl)
   have nv:az≠some kB.free:=F0 (S.prs K z) (Or.inl (cH (qw K z)))
   have eb:kA.gX i kB.free=kB.gX i kB.free:=by unfold Kn.gX;rw[e7,P.name]
   show aJ az true (kA.fork i kB.free (kB.sl i)) (kB.fork i kB.free (kB.sl i))
   unfold Kn.fork
   rw[eb,P.name]
   have S1:aJ az true (kA.new kB.free (kB.pr i).name) (kB.new kB.free (kB.pr i).name):=by
    have S0:aJ az true (kA.aA kB.free {Pr.nil with pid:=kB.bG,st:=71,name:=(kB.pr i).name}) (kB.aA kB.free {Pr.nil with pid:=kB.bG,st:=71,name:=(kB.pr i).name}):=S.j6 (PS.same rfl nv)
    have:=aJ.rest (f:=fun k=>{k with bG:=kB.bG+1,first:=some (k.first.getD kB.free)}) S0 (fun _=>rfl) rfl
    unfold Kn.new
    rw[e7]
    exact this
   have S2:=S1.j6 (i:=kB.free) (PS.same (a:=kB.gX i kB.free) rfl nv)
   have S3:=aJ.rest (f:=fun k=>k.gR (aU (kB.sl i))) S2 (fun _=>P7) wM
   exact S3.j6 (PS.same rfl nv)
  ·rw[iS z];exact AS.aG S
 |wait=>
  show AS az i (kA.gY i) (kB.gY i)
  unfold Kn.gY
  rw[S.ended K,S.kids K]
  cases e:kB.ended i with
  |some j=>
   have o9:=xh e
   have h3:=o9.1
   have h4:=o9.2.1
   have Pj:=S.prs K h3
   refine .same ?_ (S.j6 (PS.nil (F0 Pj (Or.inr h4)))) fun _=>(okN rfl)
   show Rs.ok (V.tup [.int (kA.pr j).pid,.int (kA.pr j).bN])=_
   rw[Pj.pid,Pj.bN];rfl
  |none=>
   show AS az i (bif (kB.kids i).isEmpty||(kA.pr i).cN then kA.bg else _) (bif (kB.kids i).isEmpty||(kB.pr i).cN then kB.bg else _)
   rw[P.kb,Bool.or_false]
   by_cases ev:az=some i
   ·rw[(P.v ev).2.1,Bool.or_true]
    cases (kB.kids i).isEmpty with
    |true=>exact AS.bg S
    |false=>
     have:aJ az false kA (kB.aA i {kB.pr i with st:=179,ch:=j4 (kB.pr i).pid}):=by
      obtain⟨a,ha,_⟩:=S.get h
      have e0:kA.aA i a=kA:=Kn.t8 ha
      rw[←e0]
      have Pa:PS az true i a (kB.pr i):=by rw[←bH ha];exact P
      have o9:=Pa.v ev
      have v1:=o9.1
      have v2:=o9.2.1
      have v3:=o9.2.2.1
      have v4:=o9.2.2.2
      exact S.aA ⟨Pa.pid,Pa.par,Pa.fs,Pa.name,Pa.bN,Pa.kb,fun _=>⟨v1,v2,Or.inr rfl,ft⟩,fun n=>absurd ev n⟩ fun j hj x y P=>P.weak
     exact .apart ev rfl rfl this
   ·rw[nk ev,Bool.or_false]
    refine AS.bif (AS.bg S) (.same rfl (S.j6 ⟨P.pid,P.par,P.fs,P.name,P.bN,P.kb,fun e=>absurd e ev,fun _=>⟨rfl,?_,(P.n ev).2.2.1,Or.inr (nk ev)⟩⟩) fun e=>absurd e ev)
    show j4 _=j4 _
    rw[P.pid]
end
structure Bg(N pp a f:Nat)(done:List (Int×Nat))(k:Kn):Prop where
 I:au k
 n:k.n=N
 br:k.br=2 * pp+2
 slots:k.slots=2 * pp+1
 np:k.bG=f+2
 pl:k.ak.length=a
 ol:k.aW.length≤2 * a
 lv:∀i,i≤f→∃p sl,k.af[i]?=some p∧bh p∧p.pid=i+1∧p.fs=some sl∧∀m,(∃g,sl[m]?=some (some g))↔(m<2 * a∧((i:Int)+1,m)∉done)
 un:∀(i:Nat) (p:Pr),f<i→k.af[i]?=some p→p.st=209
 kl:∀(i:Nat) (p:Pr),k.af[i]?=some p→p.cN=false
def some_or{sl:List (Option Nat)}(h:m<sl.length)(n:¬ ∃g,sl[m]?=some (some g)):sl[m]?=some none:=by
 have e:=bZ h
 cases c:sl[m] with
 |none=>rw[c] at e;exact e
 |some g=>exact absurd ⟨g,e.trans (aa some c)⟩ n
def F1(h:sl[m]?=some none)(hl:∀j,j<m→∃g,sl[j]?=some (some g)):dS sl=m:=by
 have hm:=(bM.mp h).1
 have h0:0<(sl.filter Option.isNone).length:=List.length_pos_of_mem (dJ.mpr ⟨dD h,rfl⟩)
 have h1:=um h0
 rcases Nat.lt_trichotomy (dS sl) m with c | c | c
 ·obtain⟨g,hg⟩:=hl _ c
  rw[t9 h1] at hg;cases hg
 ·exact c
 ·obtain⟨g,hg⟩:=PE c
  rw[h] at hg;cases hg
def P8{sl:List (Option Nat)}(h:sl[m]?=some none)(h2:sl[m+1]?=some none):2≤(sl.filter Option.isNone).length:=by
 have:=nM (g:=fun s:Option Nat=>bif s.isNone then 1 else 0) (a':=some 0) h
 rw[xe,xe] at this
 have this:((sl.set m (some 0)).filter Option.isNone).length+1=(sl.filter Option.isNone).length+0:=this
 have h3:(sl.set m (some 0))[m+1]?=some none:=(dU (by lia)).trans h2
 have:0<((sl.set m (some 0)).filter Option.isNone).length:=List.length_pos_of_mem (dJ.mpr ⟨dD h3,rfl⟩)
 lia
def Ak{sl:List (Option Nat)}(h:m<sl.length):(∃x,(sl.set m (some g))[j]?=some (some x))↔(j=m∨∃x,sl[j]?=some (some x)):=by
 by_cases e:m=j
 ·subst e
  rw[nc h]
  exact⟨fun _=>Or.inl rfl,fun _=>⟨g,rfl⟩⟩
 ·rw[dU e]
  exact⟨Or.inr,fun c=>c.elim (fun c=>absurd c.symm e) id⟩
section
variable{k:Kn}
theorem Bg.pipe(B:Bg N pp a 0 [] k)(h:a<pp):(∃x y:Int,(k.act 0 .pipe).1 = .ok (.tup [.int x,.int y]))∧Bg N pp (a+1) 0 [] (k.act 0 .pipe).2:=by
 refine cps fun C9 k9=>?_
 obtain⟨p,sl,hp,hl,rZ,h2,hs⟩:=B.lv 0 (cL _)
 refine k9 ?_
 have len:=(B.I.ok.fs _ _ _ hp h2).1
 rw[B.slots] at len
 have n1:sl[2 * a]?=some none:=some_or (by lia) fun z=>by have:=((hs _).mp z).1;lia
 have n2:sl[2 * a+1]?=some none:=some_or (by lia) fun z=>by have:=((hs _).mp z).1;lia
 have e1:dS sl=2 * a:=F1 n1 fun j hj=>(hs j).mpr ⟨hj,(fun h=>absurd h fN)⟩
 have e2:dS (sl.set (2 * a) (some k.aj.length))=2 * a+1:=F1 ((dU (by lia)).trans n2) fun j hj=>(Ak (by lia)).mpr (by
  by_cases e:j=2 * a
  ·exact Or.inl e
  ·exact Or.inr ((hs j).mpr ⟨by lia,(fun h=>absurd h fN)⟩))
 have hn:¬(sl.filter Option.isNone).length<2:=Nat.not_lt.mpr (P8 n1 n2)
 have ho:(k.aW.length:Int)+2≤k.br:=by have:=B.ol;rw[B.br];lia
 have I1:=B.I.act (D := .pipe) hp hl trivial (by rw[B.pl];have:=B.I.ok.sl.2;have:=B.slots;lia)
 have e:k.act 0 .pipe=(.ok (.tup [.int (2 * a:Nat),.int (2 * a+1:Nat)]),k.dG.aA 0 {p with fs:=some ((sl.set (2 * a) (some k.aj.length)).set (2 * a+1) (some (k.aj.length+1)))}):=by
  show k.lg 0=_
  unfold Kn.lg Kn.qu
  rw[o5 hp h2,bH hp,e1,e2,iS hn,fF ho];rfl
 rw[e] at I1 ⊢
 refine⟨⟨_,_,rfl⟩,I1,B.n,B.br,B.slots,B.np,?_,?_,fun i hi=>?_,fun i q hi hq=>?_,fun i q hq=>?_⟩
 ·show(k.ak++[_]).length=_;rw[cG,B.pl];rfl
 ·show k.dG.aW.length≤_
  rw[ug,cG,cG];have:=B.ol;show k.aW.length+1+1≤_;lia
 ·have:i=0:=by lia
  subst this
  refine⟨_,_,fh hp,hl,rZ,rfl,fun m=>?_⟩
  rw[Ak (by rw[cg];lia),Ak (by lia),hs]
  constructor
  ·intro c
   rcases c with c | c | c
   ·exact⟨by lia,(fun h=>absurd h fN)⟩
   ·exact⟨by lia,(fun h=>absurd h fN)⟩
   ·exact⟨by lia,(fun h=>absurd h fN)⟩
  ·intro c
   by_cases c1:m=2 * a+1
   ·exact Or.inl c1
   ·by_cases c2:m=2 * a
    ·exact Or.inr (Or.inl c2)
    ·exact Or.inr (Or.inr ⟨by have:=c.1;lia,(fun h=>absurd h fN)⟩)
 ·rcases dI (l:=k.af) hp hq with⟨rfl,_⟩ | ⟨_,hq⟩
  ·exact absurd hi (jh _)
  ·exact B.un i q hi hq
 ·rcases dI (l:=k.af) hp hq with⟨rfl,rfl⟩ | ⟨_,hq⟩
  ·exact B.kl _ p hp
  ·exact B.kl i q hq
theorem Bg.fork(B:Bg N pp pp f [] k)(hf:f+1<N)(hi:i≤f):(∃x:Int,(k.act i .fork).1 = .ok (.int x))∧Bg N pp pp (f+1) [] (k.act i .fork).2:=by
 refine cps fun C9 k9=>?_
 obtain⟨p,sl,hp,hl,rZ,h2,hs⟩:=B.lv i hi
 refine k9 ?_
 have K:=B.I.ok
 have hfn:f+1<k.n:=by rw[B.n];exact hf
 have hq:=K.pr hfn
 have ef:k.free=f+1:=by
  have h1:k.free≤k.n:=P0 K
  rcases Nat.lt_trichotomy k.free (f+1) with c | c | c
  ·have hc:k.free<k.n:=by lia
   obtain⟨q,_,hq,lq,_⟩:=B.lv k.free (by lia)
   have:=qw K hc
   rw[bH hq] at this
   exact absurd (cH this) lq.1
  ·exact c
  ·have:=FW K _ c
   exact absurd (B.un _ _ (kD _) hq) (ud hq this)
 have I1:=B.I.act (D := .fork) hp hl trivial (by rw[B.pl];have:=K.sl.2;have:=B.slots;lia)
 obtain⟨fs,e0,Al,_⟩:=Kn.wR (k:=k) (i:=i) (j:=f+1) (sl:=sl) B.I.first
 have e:k.act i .fork=(.ok (.int k.bG),k.fork i (f+1) sl):=by
  show k.jC i=_
  unfold Kn.jC
  rw[ef,o5 hp h2,fF hfn];rfl
 rw[e,e0] at I1
 rw[e,e0]
 refine⟨⟨_,rfl⟩,I1,B.n,B.br,B.slots,by show k.bG+1=_;rw[B.np];lia,B.pl,B.ol,fun j hj=>?_,fun j q hj hq2=>?_,fun j q hq2=>?_⟩
 ·by_cases ej:j=f+1
  ·subst ej
   refine⟨_,sl,fh hq,fM (Or.inl rfl),?_,rfl,fun m=>?_⟩
   ·show k.bG=_;rw[B.np];lia
   ·rw[hs]
    exact⟨fun c=>⟨c.1,(fun h=>absurd h fN)⟩,fun c=>⟨c.1,(fun h=>absurd h fN)⟩⟩
  ·obtain⟨q,sq,h3,h4⟩:=B.lv j (by lia)
   exact⟨q,sq,(dU (gz ej)).trans h3,h4⟩
 ·rcases dI hq hq2 with⟨rfl,_⟩ | ⟨_,hq2⟩
  ·exact absurd hj (jh _)
  ·exact B.un j q (by lia) hq2
 ·rcases dI hq hq2 with⟨rfl,rfl⟩ | ⟨_,hq2⟩
  ·rfl
  ·exact B.kl j q hq2
def F3{i:Nat}(h:(k.wake c).af[i]?=some q):∃p,k.af[i]?=some p∧q.cN=p.cN:=by
 have h:(k.af.map (cD c))[i]?=some q:=h
 rw[fV] at h
 obtain⟨p,hp,rfl⟩:=m9.mp h
 refine⟨p,hp,?_⟩
 unfold cD
 cases gP c p <;> rfl
def P9(hk:∀(i:Nat) (p:Pr),k.af[i]?=some p→p.cN=false){p:Pr}(h:k.af[i]?=some p)(h2:p.fs=some sl)(h3:sl[m]?=some (some g))(hy:k.aj[g]?=some y)(hx:k.ak[y.pipe]?=some x):∀(j:Nat) (q:Pr),(k.cY i m).af[j]?=some q→q.cN=false:=fun j q hq=>by
 rw[wV h h2 h3,wU (k:=k.aA i {p with fs:=some (sl.set m none)}) hy hx] at hq
 refine cps fun C9 k9=>?_
 obtain⟨q1,h1,e1⟩:=F3 hq
 obtain⟨q2,h4,e2⟩:=F3 h1
 refine k9 ?_
 rw[wW.1] at h4
 rw[e1,e2]
 rcases dI (l:=k.af) h h4 with⟨rfl,rfl⟩ | ⟨_,h4⟩
 ·exact hk _ p h
 ·exact hk j q2 h4
def F4{P:Kn→Prop}{b:Bool}{x y:Kn}(h1:P x)(h2:P y):P (bif b then x else y):=by
 cases b
 ·exact h2
 ·exact h1
def Qa{y:Fi}{x:Pp}{f:Nat}:(k.dg f y x).br=k.br∧(k.dg f y x).slots=k.slots∧(k.dg f y x).aW.length≤k.aW.length:=
 F4 (P:=fun z=>z.br=k.br∧z.slots=k.slots∧z.aW.length≤k.aW.length) ⟨rfl,rfl,cL _⟩ (F4 (P:=fun z=>z.br=k.br∧z.slots=k.slots∧z.aW.length≤k.aW.length) ⟨rfl,rfl,jd _ _⟩ ⟨rfl,rfl,jd _ _⟩)
theorem Bg.close(B:Bg N pp pp f done k)(hi:i≤f)(hm:m<2 * pp)(hd:((i:Int)+1,m)∉done):(k.act i (.close m)).1 = .ok (.int 0)∧Bg N pp pp f (((i:Int)+1,m)::done) (k.act i (.close m)).2:=by
 refine cps fun C9 k9=>?_
 obtain⟨p,sl,hp,hl,rZ,h2,hs⟩:=B.lv i hi
 obtain⟨g,h3⟩:=(hs m).mpr ⟨hm,hd⟩
 obtain⟨y,x,hy,hx,_⟩:=B.I.heldBy hp h2 h3
 refine k9 ?_
 have hml:=(bM.mp h3).1
 obtain⟨I1,t1,q,hq,hfs⟩:=B.I.cY hp h2 h3
 have hk:=P9 B.kl hp h2 h3 hy hx
 have e:k.act i (.close m)=(.ok (.int 0),k.cY i m):=by
  show k.jB i m=_
  unfold Kn.jB
  rw[kY hp h2 h3];rfl
 have e2:k.cY i m=(((k.aA i {p with fs:=some (sl.set m none)}).dg g y x).wake (c9 y.pipe false)).wake (c9 y.pipe true):=by
  rw[wV hp h2 h3,wU (k:=k.aA i {p with fs:=some (sl.set m none)}) hy hx]
 have eo:(k.cY i m).br=k.br∧(k.cY i m).slots=k.slots∧(k.cY i m).aW.length≤k.aW.length:=by
  rw[e2];exact Qa
 have st:∀{j:Nat} {p' q':Pr},(q'.st=p'.st∨(p'.st=179∧q'.st=161))→bh p'→bh q':=fun{j p' q'} h l=>by
  rcases h with h | h
  ·exact⟨h▸l.1,h▸l.2⟩
  ·exact fM (Or.inl h.2)
 rw[e]
 refine⟨rfl,I1,t1.n.trans B.n,eo.1.trans B.br,eo.2.1.trans B.slots,t1.np.trans B.np,t1.pl.trans B.pl,aH eo.2.2 B.ol,fun j hj=>?_,fun j q' hj hq'=>?_,hk⟩
 ·obtain⟨p',qh,eO,hl',F5,h2',hs'⟩:=B.lv j hj
  refine cps fun C9 k9=>?_
  obtain⟨q',a1,a2,_,a4,a5⟩:=t1.g j p' eO
  refine k9 ?_
  by_cases ej:j=i
  ·have ev:=aT (hq.symm.trans ((aa (fun a=>(k.cY i m).af[a]?) ej.symm).trans a1))
   refine⟨q',_,a1,st (j:=j) a4 hl',a2.trans F5,(aa Pr.fs ev.symm).trans hfs,fun m'=>?_⟩
   rw[ej]
   by_cases em:m=m'
   ·subst em
    rw[nc hml]
    exact⟨fun c=>(by obtain⟨_,c⟩:=c;cases c),fun c=>absurd (eF ..) c.2⟩
   ·rw[dU em,hs]
    exact⟨fun c=>⟨c.1,fun z=>by
     rcases cS.mp z with z | z
     ·injection z with _ z;exact em z.symm
     ·exact c.2 z⟩,fun c=>⟨c.1,fun z=>c.2 (eY _ z)⟩⟩
  ·refine⟨q',qh,a1,st (j:=j) a4 hl',a2.trans F5,(a5 ej).trans h2',fun m'=>?_⟩
   rw[hs']
   exact⟨fun c=>⟨c.1,fun z=>by
    rcases cS.mp z with z | z
    ·injection z with z _;exact ej (by lia)
    ·exact c.2 z⟩,fun c=>⟨c.1,fun z=>c.2 (eY _ z)⟩⟩
 ·have hjn:j<k.af.length:=by rw[←t1.l];exact(bM.mp hq').1
  have eO:=bZ hjn
  obtain⟨r,a1,_,_,a4,_⟩:=t1.g j _ eO
  rw[hq'] at a1;injection a1 with a1;subst a1
  have u:=B.un j _ hj eO
  rcases a4 with a4 | a4
  ·exact a4.trans u
  ·rw[u] at a4;exact absurd a4.1 (gy rfl)
inductive Dd(N pp:Nat):Nat→Nat→List (Int×Nat)→List (Int×bQ)→Prop where
 |pipe {a:Nat} {r:List (Int×bQ)} (h:a<pp) (t:Dd N pp (a+1) 0 [] r):Dd N pp a 0 [] ((1,.pipe)::r)
 |fork {f i:Nat} {r:List (Int×bQ)} (h:f+1<N) (hi:i≤f) (t:Dd N pp pp (f+1) [] r):Dd N pp pp f [] (((i:Int)+1,.fork)::r)
 |close {f i m:Nat} {done:List (Int×Nat)} {r:List (Int×bQ)} (hi:i≤f) (hm:m<2 * pp) (hd:((i:Int)+1,m)∉done) (t:Dd N pp pp f (((i:Int)+1,m)::done) r):Dd N pp pp f done (((i:Int)+1,.close m)::r)
 |nil {a f:Nat} {done:List (Int×Nat)}:Dd N pp a f done []
end
def Kl (j:Option Nat)(k k':Kn):Prop:=∀(a:Nat) (p:Pr),k.af[a]?=some p→bh p→j≠some a→∃q,k'.af[a]?=some q∧bh q∧q.pid=p.pid
section
def Kl.refl:Kl j k k:=fun _ p h l _=>⟨p,h,l,rfl⟩
theorem Kl.trans(x:Kl j k k')(y:Kl j k' k''):Kl j k k'':=fun a p h l n=>by
 obtain⟨q,h1,l1,e1⟩:=x a p h l n
 obtain⟨r,h2,l2,e2⟩:=y a q h1 l1 n
 exact⟨r,h2,l2,e2.trans e1⟩
theorem Kl.wake:Kl j k (k.wake c):=fun a p h l _=>⟨cD c p,rY h,xg l,by unfold cD;cases gP c p <;> rfl⟩
theorem Kl.aA(h:k.af[i]?=some p)(hq:bh p→bh q∧q.pid=p.pid):Kl j k (k.aA i q):=fun a r hr l _=>ue h hr (fun _ e=>by rw[e] at l ⊢;exact hq l) fun _=>⟨l,rfl⟩
def Kl.same(h:k'.af=k.af):Kl j k k':=fun a p hp l _=>⟨p,by rw[h];exact hp,l,rfl⟩
def Kl.tr(t:Tr i k k'):Kl j k k':=fun a p h l _=>by
 obtain⟨q,h1,h2,_,h4,_⟩:=t.g a p h
 refine⟨q,h1,?_,h2⟩
 rcases h4 with h4 | h4
 ·exact⟨h4▸l.1,h4▸l.2⟩
 ·exact fM (Or.inl h4.2)
theorem Kl.bif{z w:Rs V×Kn}(h:Kl j k z.2)(h2:Kl j k w.2):Kl j k (bif b then z else w).2:=by cases b <;> assumption
theorem Kl.cZ(h:k.af[i]?=some p):Kl j k (k.cZ i c).2:=by
 unfold Kn.cZ
 rw[bH h]
 exact Kl.bif (Kl.aA h fun l=>⟨l,rfl⟩) (Kl.aA h fun _=>⟨fM (Or.inr rfl),rfl⟩)
def Qc(I:au k)(h:k.af[i]?=some p)(hp:bh p)(hD:D.good i):Kl (match D with | .exit _=>some i | _=>none) k (k.act i D).2:=by
 obtain⟨sl,h2⟩:=I.lX h hp
 cases D with
 |write m os=>
  show Kl none k (k.kW i m os).2
  by_cases hs:∃f,sl[m]?=some (some f)
  ·obtain⟨f,h3⟩:=hs
   obtain⟨y,x,hy,hx,_⟩:=I.heldBy h h2 h3
   rw[w7 (kY h h2 h3) hy hx]
   refine Kl.bif Kl.refl ?_
   have h4:=rY (c:=c9 y.pipe false) (k:=k.aY y.pipe (x.write k.size (cut os (some (k.pr i).prog) none))) h
   refine Kl.trans (k':=(k.aY y.pipe (x.write k.size (cut os (some (k.pr i).prog) none))).wake (c9 y.pipe false)) (Kl.trans (k':=k.aY y.pipe (x.write k.size (cut os (some (k.pr i).prog) none))) (Kl.same rfl) Kl.wake) ?_
   generalize (k.aY y.pipe (x.write k.size (cut os (some (k.pr i).prog) none))).wake (c9 y.pipe false)=k1 at h4
   unfold Kn.wrote
   rw[bH h4]
   exact Kl.bif (Kl.trans (k':=k1.aA i {cD (c9 y.pipe false) p with prog:=(k.pr i).prog+(Pp.wrote k.size x (cut os (some (k.pr i).prog) none)).1}) (Kl.aA h4 fun l=>⟨l,rfl⟩) (Kl.cZ (fh h4))) (Kl.bif (Kl.aA h4 fun l=>⟨l,rfl⟩) (Kl.aA h4 fun l=>⟨l,rfl⟩))
  ·rw[w9 (mX h h2 fun f e=>hs ⟨f,e⟩)];exact Kl.refl
 |read m c=>
  show Kl none k (k.kX i m c).2
  by_cases hs:∃f,sl[m]?=some (some f)
  ·obtain⟨f,h3⟩:=hs
   obtain⟨y,x,hy,hx,_⟩:=I.heldBy h h2 h3
   rw[w5 (kY h h2 h3) hy hx]
   exact Kl.bif (Kl.bif (Kl.cZ h) (Kl.trans (k':=k.aY y.pipe (x.read c)) (Kl.same rfl) Kl.wake)) Kl.refl
  ·rw[w6 (mX h h2 fun f e=>hs ⟨f,e⟩)];exact Kl.refl
 |close m=>
  show Kl none k (k.jB i m).2
  unfold Kn.jB
  by_cases hs:∃f,sl[m]?=some (some f)
  ·obtain⟨f,h3⟩:=hs
   rw[kY h h2 h3]
   exact Kl.tr (I.cY h h2 h3).t
  ·rw[mX h h2 fun f e=>hs ⟨f,e⟩];exact Kl.refl
 |dup m=>
  show Kl none k (k.mZ i m).2
  unfold Kn.mZ
  rw[bH h]
  cases k.eS i m with
  |none=>exact Kl.refl
  |some f=>
   show Kl none k ((k.aj[f]?).elim k.bg _).2
   cases k.aj[f]? with
   |none=>exact Kl.refl
   |some y=>exact Kl.bif (Kl.trans (k':=k.aA i {p with fs:=some ((k.sl i).set (dS (k.sl i)) (some f))}) (Kl.aA h fun l=>⟨l,rfl⟩) (Kl.same rfl)) Kl.refl
 |lu t=>
  show Kl none k (k.mY i t).2
  unfold Kn.mY
  rw[bH h]
  refine Kl.bif ?_ (Kl.aA h fun l=>⟨l,rfl⟩)
  cases decide (p.prog=0) with
  |true=>exact(Kl.aA (q:={p with prog:=k.bO+1}) h fun l=>⟨l,rfl⟩).trans (Kl.cZ (fh h))
  |false=>exact Kl.cZ h
 |exit s=>
  intro a r hr l n
  obtain⟨q,h1,h2,h3,_⟩:=(I.exit (s:=s) h hp hD).g a r hr
  have ne:a≠i:=fun e=>n (by rw[e])
  refine⟨q,h1,?_,h2⟩
  rcases(h3 ne).2 with h4 | h4
  ·exact⟨h4▸l.1,h4▸l.2⟩
  ·exact fM (Or.inl h4.2)
 |pipe=>
  show Kl none k (k.lg i).2
  unfold Kn.lg
  rw[bH h]
  exact Kl.bif Kl.refl (Kl.trans (k':=k.dG) (Kl.same rfl) (Kl.aA (k:=k.dG) h fun l=>⟨l,rfl⟩))
 |fork=>
  show Kl none k (k.jC i).2
  unfold Kn.jC
  by_cases z:k.free<k.n
  ·rw[fF z]
   obtain⟨fs,e,_⟩:=Kn.wR (k:=k) (i:=i) (j:=k.free) (sl:=k.sl i) I.first
   show Kl none k (k.fork i k.free (k.sl i))
   rw[e]
   intro a r hr l _
   have ne:k.free≠a:=fun c=>by
    have:=qw I.ok z
    rw[c,bH hr] at this
    exact l.1 (cH this)
   exact⟨r,(dU ne).trans hr,l,rfl⟩
  ·rw[iS z];exact Kl.refl
 |wait=>
  show Kl none k (k.gY i).2
  unfold Kn.gY
  cases e:k.ended i with
  |none=>exact Kl.bif Kl.refl (by rw[bH h];exact Kl.aA h fun _=>⟨fM (Or.inr rfl),rfl⟩)
  |some j'=>
   obtain⟨h3,h4,_⟩:=xh e
   intro a r hr l _
   have ne:j'≠a:=fun c=>by
    subst c
    rw[bH hr] at h4
    exact l.2 h4
   exact⟨r,(dU ne).trans hr,l,rfl⟩
end
section
variable{σ:St}
def B.setC(hf:((cls? l.t).elim false fun c=>fX c n&&Nat.blt fs.length 900)=true)(hx:aF lv x=some (.ref l))(he:∀(K:QV) (X:QX),K v (σ.set l (.inst fs))→wE cx e lv σ1 K X)(e2:aB fs n v=fs')(q:wB cx r lv (σ.set l (.inst fs')) Q):wB cx (.asg (.at (.v x) n) e::r) lv σ1 Q:=
 he _ _ (aq hx (aq (a:=σ.set l (.inst fs')) (e2▸by
  cases h:cls? l.t with
  |none=>rw[h] at hf;exact ft hf
  |some c=>
   rw[h] at hf
   refine(?_:((cls? l.t).bind fun c=>((σ.set l (.inst fs)).obj l).bind fun fs=>some (l,c,fs)).bind _=_)
   rw[h,St.obj,St.jS]
   refine(dK hf).trans (aa some ?_)
   exact St.ext (fun m=>by
    by_cases e:m=l
    ·rw[e];exact St.jS.trans St.jS.symm
    ·exact(St.jT e).trans ((St.jT e).trans (St.jT e).symm)) fun _=>rfl) q))
def B.r6(ho:Is cx lv σ o u)(ha:mu σ u n=some v)(he:Is cx lv σ e w)(hi:pU p v w=some z)(hs:gC σ u n z=some σ')(q:wB cx r lv σ' Q):wB cx (.aug (.at o n) p e::r) lv σ Q:=ho _ _ (aq ha (he _ _ (aq hi (aq hs q))))
def r7(h:m≠l):(σ.set l c).set m d=(σ.set m d).set l c:=St.ext (fun k=>by
 by_cases e:k=m
 ·rw[e];exact St.jS.trans ((St.jT h).trans St.jS).symm
 ·refine(St.jT e).trans ?_
  by_cases e2:k=l
  ·rw[e2];exact St.jS.trans St.jS.symm
  ·exact(St.jT e2).trans (((St.jT e2).trans (St.jT e)).symm)) fun _=>rfl
def Qd:(σ.set l c).set l d=σ.set l d:=St.ext (fun k=>by
 by_cases e:k=l
 ·rw[e];exact St.jS.trans St.jS.symm
 ·exact(St.jT e).trans ((St.jT e).trans (St.jT e).symm)) fun _=>rfl
def qy{a b x y:Nat}(h:Nat.beq a b=false):(⟨a,x⟩:Loc)≠⟨b,y⟩:=fun e=>by
 injection e with e
 rw[e,dh] at h;exact tf h
end
def Qe{a c:Ch}:eN σ .eq a.v c.v=some (a.is c):=by
 have h:∀x y:List Int,all2 (cC 8 σ) (x.map V.int) (y.map V.int)=some (x==y):=by
  intro x
  induction x with
  |nil=>intro y;cases y <;> rfl
  |cons a r ih=>
   intro y
   cases y with
   |nil=>rfl
   |cons b s=>
    refine(?_:((cC 8 σ (.int a) (.int b)).bind fun p=>(all2 (cC 8 σ) (r.map V.int) (s.map V.int)).bind fun q=>some (p&&q))=_)
    rw[ih];rfl
 cases a with
 |none=>cases c <;> rfl
 |some a=>cases c with
  |none=>rfl
  |some c=>
   refine(?_:((cC 8 σ (.str a.1) (.str c.1)).bind fun p=>(all2 (cC 8 σ) (a.2.map V.int) (c.2.map V.int)).bind fun q=>some (p&&q))=_)
   rw[h];rfl
section
def r8(e:(List.range n)[m]?=some a):a=m∧m<n:=by
 obtain⟨h,rfl⟩:=bM.mp e
 exact⟨List.getElem_range h,ng h dF⟩
def Qg(K:aM k)(h:i<k.n):(k.upTo f i).pr i=k.pr i:=bH (z3 (K.pr h))
def o6(K:aM k)(q:∀v,Q v (H (k.wake c) g r)):ah (d+2) 82 [rf 11 0,c.v] (H k g r) Q X:=
 aZ (B.wG (vs:=List.range k.n) (h:=fun i=>rf 10 i) (s0:=(0:Int)) (fun z=>[(172,rf 11 0),(41,c.v),(106,.int z)]) (fun m _=>H (k.upTo (cD c) m) g r) (fun _ _=>True) (fun _ _ h=>h) rfl (rV K.nl) (fun s=>ff (fun _=>rfl) fun _ _=>rfl)
  (fun m a z e _ f hf=>by
   obtain⟨rfl,hm⟩:=r8 e
   have hp:=Qg (f:=cD c) K hm
   have hs:=Fw (g:=cD c) (K.pr hm)
   exact B.ite (t:=gP c (k.pr a)) (fun K X h=>qo (b:=Nat.beq ((k.upTo (cD c) a).pr a).st 179) (b2:=((k.upTo (cD c) a).pr a).ch.is c) (fun _ _ h=>h) (fun _ _ h=>aq Qe h) (hp.symm▸h))
    (fun w=>wz (bM.mp (z3 (K.pr hm))).1 (aL (fun k'=>f _ (H k' g r)) (by rw[←hs,hp,cD,w];rfl) (hf (z+1) trivial)))
    fun w=>aL (fun k'=>f _ (H k' g r)) (PB (K.pr hm) (cR w)) (hf z trivial))
  (fun z o _=>aL (fun k'=>wB _ [.ret (.v 106)] _ (H k' g r) _) (PD (K.n.trans dF.symm)).symm (by cases o <;> exact q _)) trivial)
def F6(q:Q (j4 (k.pr i).pid).v (H k g r)):ah (d+1) 77 [rf 11 0,rf 10 i] (H k g r) Q X:=aZ q
end
noncomputable def bK(f:Nat→Nat)(i:Nat):Nat→Nat:=fun j=>bif Nat.beq j i then Nat.succ (f i) else f j
def Gh.m5(g:Gh)(k:Kn)(i:Nat):Gh:={g with rg:=bK g.rg i,j:=fun o x=>bif Nat.beq o 64 then jt k g x else g.j o x}
section
def uq(h:i<128):vx f i % 128=i:=(Nat.add_mul_mod_self_left i 128 (f i)).trans (Nat.mod_eq_of_lt h)
def xr(h:i<128):vx f i / 128=f i:=(Nat.add_mul_div_left i (f i) (l9 127)).trans ((aa (· + f i) (Nat.div_eq_of_lt h)).trans (Nat.zero_add _))
def Am:bK f i i=Nat.succ (f i):=dK (dh i)
def ur(h:y≠i):bK f i y=f y:=cR (dY h)
def Qh(h:y≠i):vx (bK f i) y=vx f y:=aa (fun n=>Nat.add y (Nat.mul 128 n)) (ur h)
def xu(h:i<128):Nat.ble (vx (bK f i) i / 128) (f (vx (bK f i) i % 128))=false:=by
 rw[uq h,xr h,Am];exact iC.mpr fun e=>qU _ (bw e)
def F7(h:i<128)(n:y≠vx (bK f i) i):Nat.ble (y / 128) (bK f i (y % 128))=Nat.ble (y / 128) (f (y % 128)):=by
 by_cases e:y % 128=i
 ·rw[e,Am]
  refine lH.mpr ⟨fun z=>dO ((Nat.le_succ_iff.mp (bw z)).resolve_right fun z=>n ?_),fun z=>dO (g9 (bw z))⟩
  rw[vx,Am,←z,←e];exact(Nat.mod_add_div y 128).symm
 ·rw[ur e]
def An(h:i<128):Nat.ble (vx (bK f i) i / 128) (bK f i (vx (bK f i) i % 128))=true:=by
 rw[uq h,xr h];exact dO (cL _)
def Qi(h:i<k.af.length)(hf:p.fs=none∨p.fs=(k.pr i).fs):jt (k.aA i p) (g.m5 k i) y=jt k g y:=by
 have e:∀o:Option (List (Option Nat)),o=none∨o=(k.pr (y % 128)).fs→(bif Nat.beq (y / 128) (g.d (y % 128)) then o.elim (jt k g y) fun sl=>some (Cell.list (sl.map cX)) else jt k g y)=jt k g y:=fun o ho=>by
  unfold jt iL
  cases Nat.beq (y / 128) (g.d (y % 128)) with
  |false=>rfl
  |true=>
   rcases ho with rfl | rfl
   ·rfl
   ·cases (k.pr (y % 128)).fs <;> rfl
 refine e _ ?_
 by_cases z:y % 128=i
 ·rw[z,gq h];exact hf
 ·exact Or.inr (aa Pr.fs (mT z))
def F8(h:i<k.af.length)(hi:i<128)(hf:p.fs=none∨p.fs=(k.pr i).fs):(((H k g r).use (lb 0 (vx (bK g.rg i) i))).set (lb 0 (vx (bK g.rg i) i)) (.list zeros)).set (lb 10 i) (.inst (bY g.d (bK g.rg i) i p))=H (k.aA i p) (g.m5 k i) r:=by
 refine(aa (St.set · _ _) ((aa (St.set · _ _) (lS rfl)).trans (kO rfl))).trans ((kO rfl).trans (qn (iM (fun a y hn=>?_) (aa (fun p=>some (Cell.inst (bY g.d (bK g.rg i) i p))) (gq h))) (iM (fun a y hn=>?_) (An hi))))
 ·refine Eq.trans ?_ (iM (f:=fz k g) (fun _ _ _=>rfl) rfl a y).symm
  by_cases e:a=64
  ·rw[e];exact Qi h hf
  ·exact kind (fun e=>(aa (fun p=>some (Cell.inst (bY g.d (bK g.rg i) y p))) (mT (hn e))).trans (aa (fun n=>some (Cell.inst (bY g.d (fun _=>n) y (k.pr y)))) (ur (hn e)))) (kind (fun z=>absurd z e) (aa (zQ k g.v a y (g.j 128 y)) (cR (dY e))))
 ·exact gW rfl (kind (fun e=>F7 hi (hn e)) rfl)
end
section
def i6(K:aM k)(h:i<k.n):i<128:=je h (aH K.nl (bw rfl))
def fj(K:aM k)(h:i<k.n):i<k.af.length:=K.n.symm▸h
def F9{σ:St}{K:QV}(hl:lb 0 x≠l)(hu:σ.us (lb 0 x)=false)(q:K (rf 0 x) (((σ.use (lb 0 x)).set (lb 0 x) (.list zeros)).set l c)):wE cx (.lop .mul false (.lst true [.c (.int 0)]) (.c (.int 32))) lv (σ.set l c) K Y:=
 (aq (o:=lop (σ.set l c) .mul (.fl [.int 0]) (.int 32)) (a:=zeros) (k:=fun x=>newL false x (σ.set l c) K) rfl ⟨lb 0 x,rfl,hu,aL (K (rf 0 x)) (r7 hl).symm q⟩ :)
def Ga(h:i<k.af.length)(hi:i<128)(q:Q .none (H (k.aA i Pr.nil) (g.m5 k i) r)):ah (d+1) 61 [rf 10 i] (H k g r) Q X:=by
 refine aZ (B.set (σ':=(H k g r).set (lb 10 i) (.inst (bY g.d g.rg i {k.pr i with pid:=0}))) (fun _ _ h=>h) (fun _ _ h=>h) rfl ?_)
 refine B.setC (fs':=bY g.d g.rg i {k.pr i with pid:=0,st:=209}) rfl rfl (fun _ _ h=>h) rfl ?_
 refine B.setC (fs':=bY g.d g.rg i {k.pr i with pid:=0,st:=209,par:=none}) rfl rfl (fun _ _ h=>h) rfl ?_
 refine B.setC (fs':=bY g.d g.rg i {k.pr i with pid:=0,st:=209,par:=none}) rfl rfl (fun _ _ h=>h) rfl ?_
 refine B.setC (fs':=bY g.d (bK g.rg i) i {k.pr i with pid:=0,st:=209,par:=none}) rfl rfl (fun K X h=>F9 (x:=vx (bK g.rg i) i) (qy rfl) (xu hi) h) rfl ?_
 refine B.setC (fs':=bY g.d (bK g.rg i) i {k.pr i with pid:=0,st:=209,par:=none}) rfl rfl (fun _ _ h=>h) rfl ?_
 refine B.setC (fs':=bY g.d (bK g.rg i) i {k.pr i with pid:=0,st:=209,par:=none,fs:=none}) rfl rfl (fun _ _ h=>h) rfl ?_
 refine B.setC (fs':=bY g.d (bK g.rg i) i {k.pr i with pid:=0,st:=209,par:=none,fs:=none}) rfl rfl (fun _ _ h=>h) rfl ?_
 refine B.setC (fs':=bY g.d (bK g.rg i) i {k.pr i with pid:=0,st:=209,par:=none,fs:=none,name:=58}) rfl rfl (fun _ _ h=>h) rfl ?_
 refine B.setC (fs':=bY g.d (bK g.rg i) i {k.pr i with pid:=0,st:=209,par:=none,fs:=none,name:=58,ch:=none}) rfl rfl (fun _ _ h=>h) rfl ?_
 refine B.setC (fs':=bY g.d (bK g.rg i) i {k.pr i with pid:=0,st:=209,par:=none,fs:=none,name:=58,ch:=none,cN:=false}) rfl rfl (fun _ _ h=>h) rfl ?_
 refine B.setC (fs':=bY g.d (bK g.rg i) i {k.pr i with pid:=0,st:=209,par:=none,fs:=none,name:=58,ch:=none,cN:=false,bN:=0}) rfl rfl (fun _ _ h=>h) rfl ?_
 refine B.setC (fs':=bY g.d (bK g.rg i) i {k.pr i with pid:=0,st:=209,par:=none,fs:=none,name:=58,ch:=none,cN:=false,bN:=0}) rfl rfl (fun _ _ h=>h) rfl ?_
 refine B.setC (fs':=bY g.d (bK g.rg i) i {k.pr i with pid:=0,st:=209,par:=none,fs:=none,name:=58,ch:=none,cN:=false,bN:=0,prog:=0}) rfl rfl (fun _ _ h=>h) rfl ?_
 refine B.setC (fs':=bY g.d (bK g.rg i) i {k.pr i with pid:=0,st:=209,par:=none,fs:=none,name:=58,ch:=none,cN:=false,bN:=0,prog:=0}) rfl rfl (fun _ _ h=>h) rfl ?_
 refine B.setC (fs':=bY g.d (bK g.rg i) i {k.pr i with pid:=0,st:=209,par:=none,fs:=none,name:=58,ch:=none,cN:=false,bN:=0,prog:=0}) rfl rfl (fun _ _ h=>h) rfl ?_
 refine B.setC (fs':=bY g.d (bK g.rg i) i {k.pr i with pid:=0,st:=209,par:=none,fs:=none,name:=58,ch:=none,cN:=false,bN:=0,prog:=0}) rfl rfl (fun _ _ h=>h) rfl ?_
 refine B.setC (fs':=bY g.d (bK g.rg i) i {k.pr i with pid:=0,st:=209,par:=none,fs:=none,name:=58,ch:=none,cN:=false,bN:=0,prog:=0}) rfl rfl (fun _ _ h=>h) rfl ?_
 exact aL (Q .none) (F8 (p:=Pr.nil) h hi (Or.inl rfl)).symm q
def Gb(K:aM k):∀{a:Nat},(List.range k.n).find? (fun i=>Nat.beq (k.pr i).st 209)=some a→k.free=a∧k.free<k.n:=fun{a} e=>by
 obtain⟨h1,h2,h3⟩:=List.find?_range_eq_some.mp e
 have h2:=fE.mp h2
 rcases Nat.lt_trichotomy k.free a with z | z | z
 ·have:=h3 _ z
  rw[qw K (Nat.lt_trans z h2)] at this;exact ft this
 ·exact⟨z,z▸h2⟩
 ·have:=FW K a z
  unfold Kn.there at this
  rw[h1] at this;exact ft this
def Qj(K:aM k)(q:k.free<k.n→Q (rf 10 k.free) (H k g r))(x:¬k.free<k.n→X .noRoom (H k g r)):ah (d+1) 67 [rf 11 0] (H k g r) Q X:=
 aZ (B.find (h:=fun i=>rf 10 i) (fun i=>Nat.beq (k.pr i).st 209) (fun _ _ h=>h) rfl (rV K.nl) (ff (fun _=>rfl) fun _ _=>rfl) (fun a _ K X h=>h)
  (fun a e _=>aL (fun a=>Q (rf 10 a) (H k g r)) (Gb K e).1 (q (Gb K e).2)) fun e o=>x fun h=>eE ((qw K h).symm.trans (iC.mpr (List.find?_eq_none.mp e _ (fE.mpr h)))).symm)
def Gd(K:aM k)(hf:k.first=none∨k.first=some 0)(q:k.free<k.n→Q (rf 10 k.free) (H (k.new k.free nm) (g.m5 k k.free) r))(x:¬k.free<k.n→X .noRoom (H k g r)):ah (d+2) 68 [rf 11 0,.str nm] (H k g r) Q X:=
 aZ (Qj K (fun h=>Ga (fj K h) (i6 K h) (B.set (fun _ _ h=>h) (fun _ _ h=>h) (oX (p':={Pr.nil with pid:=k.bG}) (fj K h) rfl rfl rfl)
  (B.r6 (fun _ _ h=>h) rfl (fun _ _ h=>h) rfl rfl (aL (fun σ=>wB _ _ _ σ _) (Fp (np:=k.bG+1) (fo:=k.first)).symm (B.set (fun _ _ h=>h) (fun _ _ h=>h) (oX (k:={k with bG:=k.bG+1}) (p':={Pr.nil with pid:=k.bG,st:=71}) (fj (k:=k) K h) rfl rfl rfl)
  (B.set (v := .str nm) (fun _ _ h=>h) (fun _ _ h=>h) (oX (k:={k with bG:=k.bG+1}) (p':={Pr.nil with pid:=k.bG,st:=71,name:=nm}) (fj (k:=k) K h) rfl rfl rfl) (by
   have q:=q h
   unfold Kn.new at q
   rcases hf with e | e
   ·rw[e] at q
    exact B.ite (t:=true) (fun K X h=>aq (a:=true) (e.symm▸rfl) h) (fun _=>B.set (fun _ _ h=>h) (fun _ _ h=>h) (aa some (Fp (k:={k with af:=k.af.set k.free {Pr.nil with pid:=k.bG,st:=71,name:=nm},bG:=k.bG+1}) (np:=k.bG+1) (fo:=some k.free))) q) tf
   ·rw[show some (k.first.getD k.free)=k.first from e▸rfl] at q
    exact B.ite (t:=false) (fun K X h=>aq (a:=false) (e.symm▸rfl) h) ft fun _=>q))))))) x)
end
def gu (z:Rs V×Kn)(r:St)(Q:QV)(X:QX):Prop:=z.1.casesOn (fun v=>∀g,Q v (H z.2 g r)) fun x=>∀g,X x (H z.2 g r)
section
variable{k:Kn}{Q:QV}
theorem gu.bif(h:gu (bif b then z else w) r Q X):(b=true→gu z r Q X)∧(b=false→gu w r Q X):=by cases b;exact⟨(fun e=>ft e),fun _=>h⟩;exact⟨fun _=>h,tf⟩
def Gf(e:o=some i)(q:Q (j4 (k.pr i).pid).v (H k g r)):ah (d+1) 77 [rf 11 0,ro 10 o] (H k g r) Q X:=e▸F6 q
def Qk(K:aM k)(hf:k.first=some 0)(q:Q .none (H (k.cI i) g r)):ah (d+3) 76 [rf 11 0,rf 10 i] (H k g r) Q X:=
 aZ (B.wG (vs:=k.kids i) (h:=fun i=>rf 10 i) (s0:=()) (fun _=>[(172,rf 11 0),(152,rf 10 i)]) (fun m _=>H (((k.kids i).take m).foldl Kn.gQ k) g r) (fun _ _=>True) (fun K' X h=>Ff K.nl h) rfl (turns rfl (aH (Fy K) (bw rfl))) (fun s=>ff (fun _=>rfl) fun _ _=>rfl)
  (fun m a _ e _ f hk=>by
   have P:Kp k (((k.kids i).take m).foldl Kn.gQ k):=Kp.foldl (fun k j K h=>Kp.rep K h) K fun j h=>mU (List.mem_of_mem_take h)
   have ha:a<(((k.kids i).take m).foldl Kn.gQ k).n:=P.n▸mU (dD e)
   have hk:=hk () trivial
   rw[kP e,kC] at hk
   generalize ((k.kids i).take m).foldl Kn.gQ k=k1 at P ha hk
   have hk:f _ (H (k1.gQ a) g r):=hk
   have e2:=gq (p:={k1.pr a with par:=some 0}) (fj P.K ha)
   exact B.set (v:=rf 10 0) (fun K _ h=>aL (fun o=>K (ro 10 o) _) (P.f.trans hf).symm h) (fun _ _ h=>h) (jv (p:={k1.pr a with par:=some 0}) (fj P.K ha) rfl rfl rfl)
    (B.ite (t:=Nat.beq (k1.pr a).st 228) (fun K X h=>aL (fun p=>K (Nat.beq (Pr.st p) 228) _) e2.symm h)
     (fun z=>Gf (P.f.trans hf) (o6 (P.K.rX P.K.n0 ha) fun v=>aL (fun k'=>f _ (H k' g r)) (dK z) hk))
     fun z=>aL (fun k'=>f _ (H k' g r)) (cR z) hk))
  (fun _ o _=>(aL (fun l=>Q .none (H (List.foldl Kn.gQ k l) g r)) (iR (l:=k.kids i)).symm q :)) trivial)
def Ql(h:i<k.af.length)(hi:i<128)(q:∀g,Q (.tup [.int (k.pr i).pid,.int (k.pr i).bN]) (H (k.aA i Pr.nil) g r)):ah (d+2) 79 [rf 11 0,rf 10 i] (H k g r) Q X:=
 aZ (B.E7 (v := .tup [.int (k.pr i).pid,.int (k.pr i).bN]) (fun _ _ h=>h) (B.ite (t:=false) (fun _ _ h=>h) ft fun _=>Ga h hi (q _)))
def qz{l:List α}:eN σ .eq (.fl (l.map f)) (.fl [])=some l.isEmpty:=by cases l <;> rfl
def Qm(e:k.ended i=some j):k.gY i=(.ok (.tup [.int (k.pr j).pid,.int (k.pr j).bN]),k.aA j Pr.nil):=by unfold Kn.gY;rw[e];rfl
def Qn(e:k.ended i=none):k.gY i=bif (k.kids i).isEmpty||(k.pr i).cN then k.bg else(.ok .none,k.aA i {k.pr i with st:=179,ch:=j4 (k.pr i).pid}):=by unfold Kn.gY;rw[e];rfl
def Qo(K:aM k)(hi:i<k.n)(q:gu (k.gY i) r Q X):ah (d+3) 80 [rf 11 0,rf 10 i] (H k g r) Q X:=
 aZ (Ff K.nl (B.find (h:=fun i=>rf 10 i) (fun j=>Nat.beq (k.pr j).st 228) (fun _ _ h=>h) rfl (turns rfl (aH (Fy K) (bw rfl))) (ff (fun _=>rfl) fun _ _=>rfl) (fun a _ K X h=>h)
  (fun a e _=>Ql (fj K (mU (List.mem_of_find?_eq_some e))) (i6 K (mU (List.mem_of_find?_eq_some e))) (aL (fun z=>gu z r Q X) (Qm e) q))
  fun e o=>(by
   have q:=(aL (fun z=>gu z r Q X) (Qn e) q).bif
   refine B.ite (t:=(k.kids i).isEmpty||(k.pr i).cN) (fun K X h=>?_) (fun z=>q.1 z g) fun z=>F6 (E9 (c:=j4 (k.pr i).pid) (fj K hi) (q.2 z g))
   refine aq qz ?_
   cases z:(k.kids i).isEmpty with
   |true=>rw[z] at h;exact h
   |false=>rw[z] at h;exact zW (K:=fun b=>K b (H k g r)) h)))
def Qp(K:aM k)(e:k.nL pid=some i)(hi:i<k.n)(q:Q .none (H (k.kill i) g r)):ah (d+3) 83 [rf 11 0,.int pid] (H k g r) Q X:=
 aZ (Fg K.nl e (B.set (fun _ _ h=>h) (fun _ _ h=>h) (jv (p:={k.pr i with cN:=true}) (fj K hi) rfl rfl rfl) (by
  have e2:=gq (p:={k.pr i with cN:=true}) (fj K hi)
  unfold Kn.kill at q
  refine B.ite (t:=Nat.beq (k.pr i).st 179) (fun K X h=>aL (fun p=>K (Nat.beq (Pr.st p) 179) _) e2.symm h) (fun z=>wz (cg.symm▸fj K hi) ?_) fun z=>?_
  ·rw[e2,tZ];rw[z] at q;exact q
  ·rw[z] at q;exact q)))
end
section
def Ao(e:k.first=some 0)(h:i≠0):jk (H k g r) (rf 10 i) (ro 10 k.first)=some false:=
 aL (fun o=>jk (H k g r) (rf 10 i) (ro 10 o)=some false) e.symm (aa some (dY h) :)
def Qq(K:aM k)(hf:k.first=some 0)(hi:i<k.n)(h0:i≠0)(q:Q .none (H (k.qt i s) g r)):ah (d+4) 78 [rf 11 0,rf 10 i,.int s] (H k g r) Q X:=
 aZ (B.ite (t:=false) (fun K X h=>aq (Ao hf h0) h) ft fun _=>Qk K hf (by
  have P:=Kp.cI (i:=i) K
  have hi:i<(k.cI i).n:=P.n▸hi
  have P2:=Kp.jz (s:=s) P.K hi
  unfold Kn.qt at q
  generalize k.cI i=k1 at P hi q P2
  have hl:=fj P.K hi
  refine B.set (fun _ _ h=>h) (fun _ _ h=>h) (jv (p:={k1.pr i with st:=228}) hl rfl rfl rfl) (B.set (fun _ _ h=>h) (fun _ _ h=>h) (oX (p':={k1.pr i with st:=228,ch:=none}) hl rfl rfl rfl) (B.set (v := .int s) (fun _ _ h=>h) (fun _ _ h=>h) (oX (p':={k1.pr i with st:=228,ch:=none,bN:=s}) hl rfl rfl rfl) (B.ite (t:=false) (fun _ _ h=>h) ft fun _=>?_)))
  have q:Q .none (H ((k1.jz i s).tell i) g r):=q
  refine(?_:wB _ _ _ (H (k1.jz i s) g r) _)
  unfold Kn.tell at q
  cases e:((k1.jz i s).pr i).par with
  |none=>rw[e] at q;exact B.ite (t:=false) (fun K X h=>aq (aa (Option.map (!·)) (zX.trans (aa (fun o=>some (Option.isNone o)) e))) h) ft fun _=>q
  |some j=>rw[e] at q;exact B.ite (t:=true) (fun K X h=>aq (aa (Option.map (!·)) (zX.trans (aa (fun o=>some (Option.isNone o)) e))) h) (fun _=>Gf e (o6 P2.K fun v=>q)) tf))
def xw(h:i<k.af.length)(q:gu (k.cZ i c) r Q X):ah (d+2) 16 [rf 6 0,rf 10 i,c.v] (H k g r) Q X:=
 aZ (B.ite (t:=(k.pr i).cN) (fun _ _ h=>h) (fun z=>B.set (fun _ _ h=>h) (fun _ _ h=>h) (jv (p:={k.pr i with prog:=0}) h rfl rfl rfl) (q.bif.1 z g)) fun z=>E9 h (q.bif.2 z g))
def Qs(h:i<k.af.length)(q:gu (k.mY i t) r Q X):ah (d+3) 25 [rf 6 0,rf 10 i,.int t] (H k g r) Q X:=
 aZ (by
  unfold Kn.mY at q
  refine B.ite (t:=decide ((k.pr i).prog=0)) (fun _ _ h=>h) (fun z=>?_) fun z=>?_
  ·rw[z] at q
   have e:=gq (p:={k.pr i with prog:=k.bO+1}) h
   exact B.set (fun _ _ h=>h) (fun _ _ h=>h) (jv (p:={k.pr i with prog:=k.bO+1}) h rfl rfl rfl)
    (B.ite (t:=decide (k.bO - ((k.bO+1) - 1)<t)) (fun K X h=>aL (fun p=>K (decide (k.bO - (Pr.prog p - 1)<t)) _) e.symm h) (fun w=>xw (c:=kZ) (cg.symm▸h) (q.bif.1 w))
     fun w=>B.set (fun _ _ h=>h) (fun _ _ h=>h) (oX (p':={k.pr i with prog:=0}) h rfl rfl rfl) (q.bif.2 w g))
  ·rw[z] at q
   exact B.ite (t:=decide (k.bO - ((k.pr i).prog - 1)<t)) (fun _ _ h=>h) (fun w=>xw (c:=kZ) h (q.bif.1 w))
     fun w=>B.set (fun _ _ h=>h) (fun _ _ h=>h) (jv (p:={k.pr i with prog:=0}) h rfl rfl rfl) (q.bif.2 w g))
def Qt(K:aM k)(hi:i<k.n)(q:gu (k.gY i) r Q X):ah (d+4) 22 [rf 6 0,rf 10 i] (H k g r) Q X:=aZ (Qo K hi q)
def Qu(K:aM k)(hf:k.first=some 0)(e:k.nL pid=some i)(hi:i<k.n)(h0:i≠0)(q:Q (.int 0) (H (k.kill i) g r)):ah (d+4) 23 [rf 6 0,v,.int pid] (H k g r) Q X:=
 aZ (B.ite (t:=false) (fun K' X h=>jx K.nl e (aq (Ao hf h0) h)) ft fun _=>Qp K e hi q)
end
def jE(x:Nat×Option Nat):V := .tup [.int x.1,cX x.2]
def Kn.dm(k:Kn)(i:Nat)(sl:List (Option Nat)):Kn:=k.aA i {k.pr i with fs:=some sl}
section
variable{m:Nat}
def Aq(hi:i<128)(e:(k.pr i).fs=some sl):(H k g r).hp (lb 64 (vx g.d i))=some (.list (sl.map cX)):=(wm rfl).trans (by
 refine(?_:jt k g (vx g.d i)=_)
 unfold jt iL
 rw[uq hi,xr hi,dh,e];rfl)
def Qv(hi:i<128)(h:i<k.af.length)(e:(k.pr i).fs=some sl):(H k g r).set (lb 64 (vx g.d i)) (.list (qh.map cX))=H (k.dm i qh) g r:=
 iZ rfl (fun a y hn=>kind (fun _=>by
  by_cases z:y=i
  ·subst z;rw[Kn.dm,gq h];unfold bY;rw[e];rfl
  ·exact aa (fun p=>some (Cell.inst (bY g.d g.rg y p))) (mT z)) (kind (fun a=>by
   have hn:=hn a
   unfold jt iL
   by_cases z:y % 128=i
   ·rw[z,show Nat.beq (y / 128) (g.d i)=false from dY fun w=>hn ((Nat.mod_add_div y 128).symm.trans (z.symm▸w▸rfl))];rfl
   ·rw[show(k.dm i qh).pr (y % 128)=k.pr (y % 128) from mT z]) rfl)) (by
   refine(?_:jt (k.dm i qh) g (vx g.d i)=_)
   unfold jt iL
   rw[uq hi,xr hi,dh,Kn.dm,gq h];rfl) fun _ _=>rfl
def Ar(hi:i<128)(e:(k.pr i).fs=some sl)(h:sl[m]?=some s):fy (H k g r) (rf 64 (vx g.d i)) (.int m)=some (cX s):=by
 refine(?_:((H k g r).hp (lb 64 (vx g.d i))).bind _=_)
 rw[Aq hi e]
 refine(?_:(place (sl.map cX).length m).bind _=_)
 rw[Fz ((bJ _).symm▸(bM.mp h).1)]
 refine(?_:(sl.map cX)[m]?=_)
 rw[fV,h];rfl
def Gg(h:m<l.length):Cell.put (.list l) (.int m) x=some (.list (l.set m x)):=by
 refine(show Cell.put (.list l) (.int m) x=(on ((0:Int)≤m) (m:Int)).bind fun i=>(place l.length i).map fun k => .list (l.set k x) from rfl).trans ?_
 rw[show on ((0:Int)≤m) (m:Int)=some (m:Int) from if_pos (jf m)]
 exact aa (Option.map _) (Fz h)
def Gi(hi:i<128)(hp:i<k.af.length)(e:(k.pr i).fs=some sl)(h:m<sl.length):fQ (H k g r) (rf 64 (vx g.d i)) (.int m) (cX s)=some (H (k.dm i (sl.set m s)) g r):=by
 refine(?_:((H k g r).hp (lb 64 (vx g.d i))).bind _=_)
 rw[Aq hi e]
 refine(aa (Option.map fun c=>(H k g r).set _ c) (Gg (x:=cX s) ((bJ _).symm▸h))).trans (aa some ((aa (fun l=>(H k g r).set _ (.list l)) List.map_set.symm).trans (Qv hi hp e)))
def xx:jk (H k g r) (cX s) .none=some s.isNone:=by cases s <;> rfl
def Gj{K:Bool→Prop}(h:bif decide (m<n) then A else K true):bif decide ((0:Int)≤(m:Int)) then(bif (!decide ((m:Int)<(n:Int)))==false then A else K (!decide ((m:Int)<(n:Int)))) else(bif (!false)==false then A else K (!false)):=by
 rw[fF (jf m),show decide ((m:Int)<(n:Int))=decide (m<n) from decide_eq_decide.mpr jK];revert h;cases decide (m<n) <;> exact id
def Gk(hi:i<128)(e:(k.pr i).fs=some sl)(hl:sl.length=k.slots)(q:(k.eS i m).elim (X .cU (H k g r)) fun f=>Q (rf 7 f) (H k g r)):ah (d+1) 55 [rf 9 (vx g.d i),.int m] (H k g r) Q X:=by
 unfold Kn.eS at q
 rw[e] at q
 have q:((sl[m]?).bind fun s=>s).elim (X .cU (H k g r)) fun f=>Q (rf 7 f) (H k g r):=q
 by_cases h:m<k.slots
 ·have hs:=bZ (hl▸h)
  rw[hs] at q
  generalize sl[m]'(hl▸h)=s at hs q
  exact aZ (B.ite (t:=s.isNone) (fun K X z=>Gj (K:=fun b=>K b (H k g r)) (by rw[fF h];exact aq (Ar hi e hs) (aq (xx (k:=k) (g:=g) (r:=r)) (zW (K:=fun b=>K b _) z)))) (fun z=>by rw[Option.isNone_iff_eq_none.mp z] at q;exact q) fun z=>aq (Ar hi e hs) (by
   cases s with
   |none=>exact tf z
   |some f=>exact q))
 ·rw[iQ (kE (hl▸h))] at q
  exact aZ (B.ite (t:=true) (fun K X z=>Gj (K:=fun b=>K b (H k g r)) (by rw[iS h];exact z)) (fun _=>q) tf)
end
section
variable{m f:Nat}{α:Type}
def Gl(hi:i<128)(hp:i<k.af.length)(e:(k.pr i).fs=some sl)(hl:sl.length=k.slots)(q:(k.eS i m).elim (X .cU (H k g r)) fun f=>Q (rf 7 f) (H (k.dm i (sl.set m none)) g r)):ah (d+2) 56 [rf 9 (vx g.d i),.int m] (H k g r) Q X:=
 aZ (Gk hi e hl (by
  cases z:k.eS i m with
  |none=>rw[z] at q;exact q
  |some f=>
   rw[z] at q
   unfold Kn.eS at z
   rw[e] at z
   have h:m<sl.length:=by
    by_cases h:m<sl.length
    ·exact h
    ·have z:((sl[m]?).bind fun s=>s)=some f:=z
     rw[iQ (kE h)] at z;exact nn z
   exact aq (Gi (s:=none) hi hp e h) q))
def Qw{l:List α}(hc:∀m a,l[m]?=some a→c m=p a):(∀{a},(List.range l.length).find? c=some a→l.findIdx p=a∧a<l.length)∧((List.range l.length).find? c=none→¬l.findIdx p<l.length):=by
 refine⟨fun{a} e=>?_,fun e h=>?_⟩
 ·obtain⟨h1,h2,h3⟩:=List.find?_range_eq_some.mp e
  have h2:=fE.mp h2
  refine⟨?_,h2⟩
  rcases Nat.lt_trichotomy (l.findIdx p) a with z | z | z
  ·have hz:=Nat.lt_trans z h2
   have:=h3 _ z
   rw[hc _ _ (bZ hz),List.findIdx_getElem (w:=hz)] at this;exact ft this
  ·exact z
  ·have:=List.not_of_lt_findIdx z
   rw[hc _ _ (bZ h2),this] at h1;exact ft h1
 ·have:=List.find?_eq_none.mp e _ (fE.mpr h)
  rw[hc _ _ (bZ h),List.findIdx_getElem (w:=h)] at this
  exact this rfl
def As(hi:i<128)(hp:i<k.af.length)(e:(k.pr i).fs=some sl)(hl:sl.length=k.slots)(hz:k.slots≤99)(q:dS sl<sl.length→Q (.int (dS sl)) (H (k.dm i (sl.set (dS sl) (some f))) g r))(x:¬dS sl<sl.length→X .noRoom (H k g r)):ah (d+1) 53 [rf 9 (vx g.d i),rf 7 f] (H k g r) Q X:=by
 have I:=Qw (l:=sl) (p:=Option.isNone) (c:=fun m=>((sl[m]?).getD none).isNone) fun m a h=>by rw[h];rfl
 rw[hl] at I
 exact aZ (B.find (h:=fun m:Nat=>V.int m) (fun m=>((sl[m]?).getD none).isNone) (fun K X h=>aq (mV (aH hz (bw rfl))) h) rfl (turns dF (aH hz (bw rfl))) (ff (h:=fun m:Nat=>V.int m) (fun _=>rfl) fun _ _=>rfl)
  (fun a ha K X h=>by
   have hs:=bZ (hl.symm▸fE.mp ha:a<sl.length)
   rw[hs] at h
   exact aq (Ar hi e hs) (aq (xx (k:=k) (g:=g) (r:=r)) h)) (fun a z _=>by
   obtain⟨h1,h2⟩:=I.1 z
   subst h1
   exact aq (Gi (s:=some f) hi hp e (hl.symm▸h2)) (q (hl.symm▸h2))) fun z o=>x (hl.symm▸I.2 z))
def xy(hi:i<128)(e:(k.pr i).fs=some sl):(H k g r).lst (lb 64 (vx g.d i))=some (sl.map cX):=aa (Option.bind · Cell.pS) (Aq hi e)
def Qy(hi:i<128)(e:(k.pr i).fs=some sl)(hl:sl.length≤99)(q:Q (.int (sl.filter Option.isNone).length) (H k g r)):ah (d+1) 54 [rf 9 (vx g.d i)] (H k g r) Q X:=
 aZ (B.ret (wD (sc:=[]) (L:=Lo [(172,rf 9 (vx g.d i))] 63 cX) (src:=fun m => .lst (lb 64 (vx g.d i)) m) (vs:=sl) (h:=cX) (c:=Option.isNone) (f:=cX) (fun K X h=>aq (aa (Option.map fun _=>Src.lst (lb 64 (vx g.d i)) 0) (xy hi e)) h) (fun _=>zV (xy hi e)) rfl (fun o v K h=>by cases o <;> exact h) (fun a _ K h=>gr (fun K X h=>aq (xx (k:=k) (g:=g) (r:=r)) h) h) (fun a _ K h=>h) (turns rfl (aH hl (bw rfl))) (aL (fun n:Nat=>Q (.int n) (H k g r)) (bJ _).symm q)))
def Qz(e:σ.lst l=some (sl.map cX)):Nx (fun m => .enum l m) ((List.range sl.length).zip sl) jE m σ:=by
 refine(show(σ.lst l).map (fun x=>(x[m]?).map fun v=>(V.tup [.int m,v],Src.enum l (m+1)))=_ from ?_)
 rw[e,Option.map_some,fV,Option.map_map]
 have z:((List.range sl.length).zip sl).length=sl.length:=by rw[List.length_zip,dF,Nat.min_self]
 by_cases h:m<sl.length
 ·rw[bZ h,bZ (z.symm▸h),List.getElem_zip,List.getElem_range];rfl
 ·rw[iQ (kE h),iQ (z.symm▸kE h)];rfl
def uu(hi:i<128)(e:(k.pr i).fs=some sl)(hl:sl.length≤99)(q:Q (.fl ((aU sl).map jE)) (H k g r)):ah (d+1) 57 [rf 9 (vx g.d i)] (H k g r) Q X:=
 aZ (B.ret (wD (L:=fun o:Option (Nat×Option Nat)=>([((nat_lit 172),rf 9 (vx g.d i))]:Lv)++o.elim [] fun x=>[((nat_lit 129),.int x.1),((nat_lit 63),cX x.2)]) (src:=fun m => .enum (lb 64 (vx g.d i)) m) (vs:=(List.range sl.length).zip sl) (h:=jE) (c:=fun x=>x.2.isSome) (f:=jE) (fun K X h=>aq (aa (Option.map fun _=>Src.enum (lb 64 (vx g.d i)) 0) (xy hi e)) h) (fun _=>Qz (xy hi e)) rfl (fun o v K h=>by cases o <;> exact⟨rfl,h⟩) (fun a _ K h=>gr (fun K X h=>aq (aa (Option.map (!·)) (xx (k:=k) (g:=g) (r:=r))) (aL (fun b=>K b _) (by cases a.2 <;> rfl) h)) h) (fun a _ K h=>h) (turns ((List.length_zip).trans ((aa (min · _) dF).trans (Nat.min_self _))) (aH hl (bw rfl))) q))
end
def Gh.cQ(g:Gh)(o x:Nat)(c:Cell):Gh:={g with n:=fun a=>bif Nat.beq a o then Nat.succ x else g.n a,j:=cO g.j o x (some c)}
section
variable{g:Gh}{m:Nat}
def Gm{v:Nat}{d rg:Nat→Nat}{a y:Nat}{s s' p p' z z':Option Cell}(e1:s=s')(e2:p=p')(e3:z=z'):rS k v d rg a y s p z=rS k v d rg a y s' p' z':=e1▸e2▸e3▸rfl
def Au(h:Nat.ble 192 o=true){a y:Nat}(hn:a=o→y≠x):fz k (g.cQ o x c) a y=fz k g a y:=
 have e:∀b,Nat.ble b 191=true→b=o→y≠x:=fun b hb e=>absurd (aH (bw h) (e▸bw hb)) (qU 191)
 Gm (aa (iL k g.d y) (cV (e 64 rfl))) (cV (e 128 rfl)) (cV hn)
def Gn{t:Nat}(ht:(lb o (g.n o)).t=t)(h:Nat.ble 192 o=true)(ho:Nat.blt o 4096=true)(hc:∀s p z,rS k g.v g.d g.rg o (g.n o) s p z=z)(hu:∀(g:Gh) y,fc k g o y=Nat.blt y (g.n o))(q:Q (.ref (lb o (g.n o))) (H k (g.cQ o (g.n o) c) r)):fu t c (H k g r) Q:=by
 refine⟨lb o (g.n o),ht,?_,aL (Q (.ref (lb o (g.n o)))) (E6 ho (fun a y hn=>Au h hn) ((hc _ _ _).trans iy) (fun a y hn=>?_) ?_).symm q⟩
 ·refine(dK (wj ho)).trans ((aa (fc k g · (g.n o)) (Nat.add_sub_cancel_left ..)).trans ((hu g _).trans (iC.mpr fun e=>jh _ (bw e))))
 ·by_cases e:a=o
  ·rw[e,hu,hu]
   refine(aa (Nat.blt y) (dK (dh o))).trans (lH.mpr ⟨fun z=>dO ((Nat.lt_succ_iff_lt_or_eq.mp (bw z)).resolve_right (hn e)),fun z=>dO (n5 (bw z))⟩)
  ·exact gW rfl (gW rfl (gW rfl (gW rfl (gW rfl (gW (aa (Nat.blt y) (cR (dY e))) rfl)))))
 ·exact(hu _ _).trans ((aa (Nat.blt _) (dK (dh o))).trans (dO (cL _)))
def qA(ho:Nat.blt o 4096=true)(hc:∀s p z,rS k g.v g.d g.rg o x s p z=z):(H k (g.cQ o x c) r).hp (lb o x)=some c:=(wm ho).trans ((hc _ _ _).trans iy)
def Gp(h:Nat.ble 192 o=true)(ho:Nat.blt o 4096=true)(hc:∀s p z,rS k g.v g.d g.rg o x s p z=z):(H k (g.cQ o x c) r).set (lb o x) c'=H k (g.cQ o x c') r:=
 iZ ho (fun a y hn=>(Au h hn).trans (Au h hn).symm) ((hc _ _ _).trans iy) fun a y=>rfl
def Av(hp:σ.hp l=some c)(ht:cls? l.t=none)(hb:(Nat.beq c.tag l.t&&c.has 33)=true):oh σ (.ref l) 33=some (l,none):=by
 refine(?_:(σ.hp l).bind _=_)
 rw[hp,ht]
 exact dK hb
def r9(hp:σ.hp l=some (.list xs))(ht:l.t=0)(hl:xs.length<bz):iH σ l 33 [v]=some (.none,σ.set l (.list (xs++[v]))):=by
 unfold iH
 rw[hp,ht]
 exact aa (Option.map fun q=>(q.1,σ.set l q.2)) (if_pos hl:on (xs.length<bz) (V.none,Cell.list (xs++[v]))=_)
def nN(h:s≠0):jO .mod (.int a) (.int s)=some (.int (a.fmod s)):=if_pos h
def QD(h:i<k.ak.length)(h0:0≤a)(h1:a<(k.pp i).bq.length)(hb:m<256):fQ (H k g r) (rf 2 i) (.int a) (.int (m:Int))=some (H (k.aY i {k.pp i with bq:=(k.pp i).bq.set a.toNat m}) g r):=by
 have e:Cell.put (.bB (k.pp i).bq) (.int a) (.int (m:Int))=some (.bB ((k.pp i).bq.set a.toNat m)):=by
  refine(show _=(on (0≤(m:Int)∧(m:Int)<256) (m:Int)).bind fun b=>(place (k.pp i).bq.length a).map fun q=>Cell.bB ((k.pp i).bq.set q b.toNat) from rfl).trans ?_
  rw[show on (0≤(m:Int)∧(m:Int)<256) (m:Int)=some (m:Int) from if_pos ⟨jf m,jK.mpr hb⟩,show place (k.pp i).bq.length a=some a.toNat from(if_pos h0).trans (if_pos h1)]
  rfl
 exact(aa (Option.map fun c=>(H k g r).set _ c) e).trans (aa some (Py (q:={k.pp i with bq:=(k.pp i).bq.set a.toNat m}) h rfl))
end
section
variable{k:Kn}{m:Nat}{os:List Nat}
def nO(h:i<k.ak.length):k.ak[i]?=some (k.pp i):=by unfold Kn.pp;rw[bZ h];rfl
def uv(h:i<k.ak.length):k.aY i (k.pp i)=k:=Kn.PF (nO h)
def Gq:(k.aY i p).ak.length=k.ak.length:=cg
def Gr(h:i<k.ak.length)(e:aB (gV k.size i p) n v=gV k.size i p')(hf:fX 0 n=true)(hi:p'.bq=p.bq):gC (H (k.aY i p) g r) (rf 3 i) n v=some (H (k.aY i p') g r):=
 (zY (k:=k.aY i p) (Gq.symm▸h) ((aa (fun p=>aB (gV k.size i p) n v) (kU h)).trans e) hf (hi.trans (aa Pp.bq (kU h)).symm)).trans (aa (fun k=>some (H k g r)) Kn.FA)
def QE(h:i<k.ak.length)(hs:k.size≠0)(h0:0≤(k.pp i).wc.fmod k.size)(h1:(k.pp i).wc.fmod k.size<(k.pp i).bq.length)(hm:m<256){Q:QF}(q:Q .next [(172,rf 3 i),(131,u),(188,t),(130,.int m)] (H (k.aY i (gb k.size (k.pp i) m)) g r)):
  wB cx [.asg (.ix (.at (.v 172) 166) (.bin .mod (.at (.v 172) 224) (.at (.v 172) 176))) (.v 130),.aug (.at (.v 172) 224) .add (.c (.int 1))] [(172,rf 3 i),(131,u),(188,t),(130,.int m)] (H k g r) Q:=
 aq (nN hs) (aq (QD h h0 h1 hm) (B.r6 (w := .int 1) (fun _ _ h=>h) (aa (fun p=>some (V.int (Pp.wc p))) (kU h)) (fun _ _ h=>h) rfl (Gr (p':=gb k.size (k.pp i) m) h rfl rfl rfl) q))
def QG{P:Int→Prop}(h:P (bif b then 0 else 1)):bif b then P 0 else P 1:=by cases b <;> exact h
def Gs(K:aM k):k.size≠0:=fun e=>by have:=K.size.1;rw[e] at this;cases this
def QH(K:aM k)(h:i<k.ak.length)(ho:∀o∈os,o<256)(hl:os.length≤999)(q:Q (.tup [.int ((k.pp i).wrote k.size os).1,.int ((k.pp i).wrote k.size os).2]) (H (k.aY i ((k.pp i).write k.size os)) g r)):ah (d+3) 5 [rf 3 i,.bytes os] (H k g r) Q X:=by
 unfold Pp.write Pp.wrote at q
 have t:=FF (os:=os) K (nO h)
 refine aZ (B.ite (t := !(k.pp i).ro) (fun _ _ h=>h) (fun z=>?_) fun z=>?_)
 ·rw[(Bool.not_eq_eq_eq_not).mp z] at q
  exact aL (fun k=>Q (.tup [.int 0,.int 2]) (H k g r)) (uv h) q
 ·rw[(Bool.not_eq_eq_eq_not).mp z] at q
  refine Pg (B.wG (vs:=os.take ((k.pp i).takes k.size os.length).toNat) (h:=fun b:Nat=>V.int b) (s0:=()) (fun _=>[(172,rf 3 i),(131,.bytes os),(188,.int ((k.pp i).takes k.size os.length))]) (fun m _=>H (k.aY i (((os.take ((k.pp i).takes k.size os.length).toNat).take m).foldl (gb k.size) (k.pp i))) g r) (fun _ _=>True) (fun K X z=>aL (fun l:List Nat=>K (.items (l.map fun b:Nat=>V.int b)) (H k g r)) (PG t.1 t.2).symm (aL (fun k'=>K (.items ((os.take ((k.pp i).takes k.size os.length).toNat).map fun b:Nat=>V.int b)) (H k' g r)) (uv h) z)) rfl
   (turns rfl (aH (List.length_take_le' _ _) hl)) (fun s=>ff (h:=fun b:Nat=>V.int b) (fun _=>rfl) fun _ _=>rfl) (fun m a _ e _ f hf=>?_) (fun _ o _=>?_) trivial)
  ·have w:=FD (size:=k.size) (os:=(os.take ((k.pp i).takes k.size os.length).toNat).take m) (x:=k.pp i)
   have e2:k.aY i (((os.take ((k.pp i).takes k.size os.length).toNat).take (m+1)).foldl (gb k.size) (k.pp i))=(k.aY i (((os.take ((k.pp i).takes k.size os.length).toNat).take m).foldl (gb k.size) (k.pp i))).aY i (gb k.size ((k.aY i (((os.take ((k.pp i).takes k.size os.length).toNat).take m).foldl (gb k.size) (k.pp i))).pp i) a):=by
    rw[kU h,Kn.FA,kP e,kC];rfl
   have F:=K.fm (x:=(k.aY i (((os.take ((k.pp i).takes k.size os.length).toNat).take m).foldl (gb k.size) (k.pp i))).pp i) (by rw[kU h,w.1];exact(K.bq _ _ (nO h)).1) ((k.aY i (((os.take ((k.pp i).takes k.size os.length).toNat).take m).foldl (gb k.size) (k.pp i))).pp i).wc
   exact QE (k:=k.aY i _) (Gq.symm▸h) (Gs (k:=k) K :) F.1 F.2 (ho a (List.mem_of_mem_take (dD e))) (aL (fun k'=>f _ (H k' g r)) e2 (hf () trivial))
  ·exact QG (P:=fun b=>Q (.tup [.int ((k.pp i).takes k.size os.length),.int b]) (H (k.aY i _) g r)) (aL (fun l=>Q (.tup [.int ((k.pp i).takes k.size os.length),.int (bif decide ((k.pp i).takes k.size os.length=os.length) then 0 else 1)]) (H (k.aY i (List.foldl (gb k.size) (k.pp i) l)) g r)) iR.symm q)
def QI{a b:Bool}{P:Bool→Prop}(h:P (a&&b)):bif a then P b else P a:=by cases a <;> exact h
def QJ{w:Bool}(h:i<k.ak.length)(q:Q (.bool (!((k.pp i).cF w).ro && !((k.pp i).cF w).wo)) (H (k.aY i ((k.pp i).cF w)) g r)):ah (d+1) 7 [rf 3 i,.int (bif w then 1 else 0)] (H k g r) Q X:=by
 have q:=QI (P:=fun b=>Q (.bool b) _) (aL (fun p:Pp=>Q (.bool (!p.ro && !p.wo)) (H (k.aY i ((k.pp i).cF w)) g r)) (kU h).symm q)
 cases w
 ·exact aZ (B.ite (t:=false) (fun _ _ h=>h) (fun e=>ft e) fun _=>B.ite (t:=true) (fun _ _ h=>h) (fun _=>B.set (fun _ _ h=>h) (fun _ _ h=>h) (zY (q:=(k.pp i).cF false) h rfl rfl rfl) q) tf)
 ·exact aZ (B.ite (t:=false) (fun _ _ h=>h) ft fun _=>B.ite (t:=false) (fun _ _ h=>h) ft fun _=>B.set (fun _ _ h=>h) (fun _ _ h=>h) (zY (q:=(k.pp i).cF true) h rfl rfl rfl) q)
end
section
variable{o:Nat}{p:Pp}
def QK(hp:σ.hp l=some (.bB xs)):(one [V.ref l]).bind (sW σ)=some xs.length:=aa (Option.bind · Cell.len) hp
def QM(hp:σ.hp l=some (.bB xs)):(one [V.ref l]).bind (sX σ)=some xs:=by
 refine(?_:(σ.hp l).bind _=_)
 rw[hp];rfl
def QO(hp:σ.hp l=some (.bB xs))(ht:l.t=2)(hl:xs.length<bz)(ho:o<256):iH σ l 33 [.int (o:Int)]=some (.none,σ.set l (.bB (xs++[o]))):=by
 unfold iH
 rw[hp,ht]
 exact aa (Option.map fun q=>(q.1,σ.set l q.2)) (if_pos ⟨jf o,jK.mpr ho,hl⟩:on (0≤(o:Int)∧(o:Int)<256∧xs.length<bz) (V.none,Cell.bB (xs++[o]))=_)
def QY(h0:0≤a)(h1:a<(k.pp i).bq.length):fy (H k g r) (rf 2 i) (.int a)=some (.int (((k.pp i).bq.getD a.toNat 0:Nat):Int)):=by
 refine(show _=(place (k.pp i).bq.length a).bind fun q=>((k.pp i).bq[q]?).map fun b:Nat=>V.int (b:Int) from rfl).trans ?_
 rw[show place (k.pp i).bq.length a=some a.toNat from(if_pos h0).trans (if_pos h1)]
 refine(?_:((k.pp i).bq[a.toNat]?).map _=_)
 rw[List.getD_eq_getElem?_getD,bZ ((Int.toNat_lt h0).mpr h1)];rfl
def Gu:(p.out s m).length=m:=by unfold Pp.out;rw[bJ,dF]
def QZ:p.out s (m+1)=p.out s m++[p.bq.getD ((p.rc+(m:Nat)).fmod s).toNat 0]:=by unfold Pp.out;rw[List.range_succ,ia];rfl
theorem B.bB{Q:QF}(q:wB cx b (aB lv n (rf 194 (g.n 194))) (H k (g.cQ 194 (g.n 194) (.bB [])) r) Q):wB cx (.asg (.v n) (.bi .bB [])::b) lv (H k g r) Q:=
 Gn (Q:=fun v σ=>wB cx b (aB lv n v) σ Q) (o:=194) (t:=2) (c := .bB []) rfl rfl rfl (fun _ _ _=>rfl) (fun _ _=>rfl) q
def Gv(K:aM k)(h:i<k.ak.length)(q:∀g,Q (.tup [.bytes (bif (k.pp i).blocks c then[] else(k.pp i).out k.size ((k.pp i).gives c)),.int (bif (k.pp i).blocks c then 1 else 0)]) (H (k.aY i ((k.pp i).read c)) g r)):ah (d+2) 6 [rf 3 i,.int c] (H k g r) Q X:=by
 refine cps fun C9 k9=>?_
 obtain⟨r1,r2,r3,r4,r5⟩:=K.bq _ _ (nO h)
 refine k9 ?_
 have G:=fun m=>Pp.FG (x:=k.pp i) (c:=c) (m:=m)
 have G2:=mj.mp (fW (Pp.z4 (c:=c) r2) (fW r3 (fW K.size.2 (by decide:(99:Int)≤(999:Nat)))))
 unfold Pp.read at q
 refine aZ (B.ite (t:=(k.pp i).blocks c) (fun K X h=>Fd (fun _ _ h=>h) (fun K X h=>qo (fun K X h=>zT h) (fun _ _ h=>h) h) h) (fun z=>?_) fun z=>?_)
 ·rw[z] at q
  exact aL (fun k=>Q (.tup [.bytes [],.int 1]) (H k g r)) (uv h) (q g)
 ·rw[z] at q
  have q:∀g,Q (.tup [.bytes ((k.pp i).out k.size ((k.pp i).gives c)),.int 0]) (H (k.aY i {k.pp i with rc:=(k.pp i).rc+((k.pp i).gives c:Nat)}) g r):=q
  generalize (k.pp i).gives c=n at q G G2
  refine B.bB ?_
  have e0:H k (g.cQ 194 (g.n 194) (.bB [])) r=H (k.aY i {k.pp i with rc:=(k.pp i).rc+(0:Nat)}) (g.cQ 194 (g.n 194) (.bB ((k.pp i).out k.size 0))) r:=
   aa (fun k=>H k (g.cQ 194 (g.n 194) (.bB [])) r) ((uv h).symm.trans (aa (fun z=>k.aY i {k.pp i with rc:=z}) (Int.add_zero _).symm))
  refine aL (fun σ=>wB _ _ [(172,rf 3 i),(49,.int c),(76,rf 194 (g.n 194))] σ _) e0.symm ?_
  refine B.lJ (n:=n) (fun m=>H (k.aY i {k.pp i with rc:=(k.pp i).rc+(m:Nat)}) (g.cQ 194 (g.n 194) (.bB ((k.pp i).out k.size m))) r) (Fv G2) (fun m hm K' X z=>?_) (fun m hm f hf=>?_) ?_
  ·refine qo (b:=decide (((((k.pp i).out k.size m).length:Nat):Int)<c)) (b2:=decide (0<(k.pp i).wc - ((k.pp i).rc+(m:Nat)))) (fun K X h=>aq (QK (qA rfl fun _ _ _=>rfl)) h) (fun K X z=>zT (aL (fun p=>K (decide (0<Pp.wc p - Pp.rc p)) _) (kU h).symm z)) (aL (fun b=>K' b _) ?_ z)
   rw[Gu,←Bool.decide_and]
   exact decide_eq_decide.mpr (G m).symm
  ·have e1:=kU (q:={k.pp i with rc:=(k.pp i).rc+(m:Nat)}) h
   have F:=K.fm (x:=(k.aY i {k.pp i with rc:=(k.pp i).rc+(m:Nat)}).pp i) (by rw[e1];exact r1) ((k.pp i).rc+(m:Nat))
   have ob:((k.aY i {k.pp i with rc:=(k.pp i).rc+(m:Nat)}).pp i).bq.getD (((k.pp i).rc+(m:Nat)).fmod k.size).toNat 0<256:=by
    rw[List.getD_eq_getElem?_getD,bZ ((Int.toNat_lt F.1).mpr F.2)]
    have e2:=aa Pp.bq e1
    exact r5 _ (aL (fun l=>_∈l) e2 (List.getElem_mem _))
   refine aq (Av (qA rfl fun _ _ _=>rfl) rfl rfl) (aL (fun p=>aQ (jO .mod (.int (Pp.rc p)) (.int k.size)) _) e1.symm (aq (nN (Gs K)) (aq (QY F.1 F.2) (aq (QO (qA rfl fun _ _ _=>rfl) rfl (by rw[Gu];exact small (aH (eL hm) G2)) ob) ?_))))
   refine aL (fun σ=>wB _ [_] _ σ _) (Gp rfl rfl fun _ _ _=>rfl).symm ?_
   refine B.r6 (w := .int 1) (z := .int ((k.pp i).rc+((m+1:Nat):Int))) (fun _ _ h=>h) (aa (fun p=>some (V.int (Pp.rc p))) e1) (fun _ _ h=>h) (aa (fun z=>some (V.int z)) (Int.add_assoc _ _ _)) (Gr (p':={k.pp i with rc:=(k.pp i).rc+((m+1:Nat):Int)}) h rfl rfl rfl) ?_
   refine aL (fun c=>f _ (H (k.aY i _) (g.cQ 194 (g.n 194) (.bB c)) r)) ?_ hf
   rw[QZ,e1]
  ·exact aq (QM (qA rfl fun _ _ _=>rfl)) (q _)
end
section
variable{k:Kn}{i:Nat}{os:List Nat}
abbrev i7(l:List Nat):List (Int×V):=l.map fun(p:Nat)=>((p:Int),rf 3 p)
def Gw:fH (i7 l) (i:Int)=bif l.contains i then some (rf 3 i) else none:=by
 induction l with
 |nil=>rfl
 |cons a l ih=>
  refine(?_:(if(a:Int)=i then some (rf 3 a) else fH (i7 l) i)=_)
  rw[List.contains_cons]
  by_cases e:i=a
  ·subst e;rw[if_pos rfl,dW];rfl
  ·rw[if_neg fun z=>e (Int.ofNat_inj.mp z).symm,ih,show(i==a)=false from nY.mpr e];rfl
def Q0:jN (i7 l) (i:Int)=i7 (l.erase i):=by
 induction l with
 |nil=>rfl
 |cons a l ih=>
  refine(?_:(if(a:Int)=i then i7 l else((a:Int),rf 3 a)::jN (i7 l) i)=_)
  by_cases e:a=i
  ·subst e;rw[if_pos rfl,List.erase_cons_head]
  ·rw[if_neg fun z=>e (Int.ofNat_inj.mp z),ih,List.erase_cons_tail (by rw[nY.mpr e];exact eE)];rfl
def Q2(h:i<k.ak.length)(q:Q .none (H (k.jA i (k.pp i) w) g r)):ah (d+2) 10 [rf 4 0,rf 3 i,.int (bif w then 1 else 0)] (H k g r) Q X:=by
 unfold Kn.jA at q
 have D:yy (H (k.aY i ((k.pp i).cF w)) g r) (rf 1 0) (.int i)=bif k.dict.contains i then some (H {k.aY i ((k.pp i).cF w) with dict:=k.dict.erase i} g r) else none:=by
  refine(show _=bif (fH (i7 k.dict) i).isSome then some ((H (k.aY i ((k.pp i).cF w)) g r).set (lb 1 0) (.bI (jN (i7 k.dict) i))) else none from rfl).trans ?_
  rw[Gw,Q0]
  cases k.dict.contains i with
  |false=>rfl
  |true=>exact aa some (zZ (k:=k.aY i ((k.pp i).cF w)))
 have I:eN (H (k.aY i ((k.pp i).cF w)) g r) .is ((fH (i7 k.dict) i).getD .none) (rf 3 i)=some (k.dict.contains i):=by
  rw[Gw]
  cases k.dict.contains i with
  |false=>rfl
  |true=>exact aa some mD
 have S:(H (k.aY i ((k.pp i).cF w)) g r).set (lb 1 0) (.bI (i7 k.dict))=H (k.aY i ((k.pp i).cF w)) g r:=zZ (k:=k.aY i ((k.pp i).cF w)) (d:=k.dict)
 refine aZ (B.zS (t:=(!((k.pp i).cF w).ro && !((k.pp i).cF w).wo)&&k.dict.contains i) (fun K X h'=>qo (fun K X z=>QJ h z) (fun K X z=>aL (fun σ=>aQ (eN σ .is ((fH (i7 k.dict) i).getD .none) (rf 3 i)) fun r=>K r σ) S.symm (aq I z)) h') (fun z=>?_) fun z=>?_)
 ·rw[(aE z).1] at q
  exact aq (D.trans (dK (aE z).2)) q
 ·cases e : !((k.pp i).cF w).ro && !((k.pp i).cF w).wo with
  |false=>rw[e] at q;exact q
  |true=>
   rw[e] at q z
   have z:k.dict.contains i=false:=z
   rw[List.erase_of_not_mem fun m=>eE (z.symm.trans (List.contains_iff_mem.mpr m))] at q
   exact q
def Q3(h:i<k.aj.length):(k.gp i y).fi i=y:=wu h
def Gx{P:Int→Prop}(h:P (bif b then 1 else 0)):bif b then P 1 else P 0:=by cases b <;> exact h
def Q4(q:Q (.int (bif !(k.fi f).rd then 1 else 0)) (H k g r)):ah (d+1) 34 [rf 7 f] (H k g r) Q X:=aZ (Gx (P:=fun z=>Q (.int z) (H k g r)) q)
def Gy(h:f<k.aj.length)(h1:1≤(k.fi f).aK)(q:Q (rf 7 f) (H (k.gp f {k.fi f with aK:=(k.fi f).aK+1}) g r)):ah (d+1) 43 [rf 8 0,rf 7 f] (H k g r) Q X:=
 aZ (B.ite (t:=decide ((k.fi f).aK<1)) (fun _ _ h=>h) (fun z=>absurd (iD z) (jj.mpr h1)) fun _=>B.r6 (w := .int 1) (fun _ _ h=>h) rfl (fun _ _ h=>h) rfl (Fo (f:={k.fi f with aK:=(k.fi f).aK+1}) h rfl rfl) q)
def Aw(q:Q (.int k.aW.length) (H k g r)):ah (d+1) 37 [rf 8 0] (H k g r) Q X:=
 aZ (aq (o:=(one [rf 128 g.v]).bind (sW (H k g r))) (a:=k.aW.length) (k:=fun n:Nat=>Q (.int n) (H k g r)) ((aa (Option.bind · Cell.len) t7).trans (aa some (bJ _))) q)
def Ax(q:Q (.int k.dict.length) (H k g r)):ah (d+1) 11 [rf 4 0] (H k g r) Q X:=
 aZ (aL (fun n:Nat=>Q (.int n) (H k g r)) (bJ _).symm q :)
def Gz(q:(k.aW.length:Int)+n≤k.br→Q .none (H k g r))(x:¬(k.aW.length:Int)+n≤k.br→X .noRoom (H k g r)):ah (d+1) 38 [rf 8 0,.int n] (H k g r) Q X:=
 aZ (B.ite (t:=decide (k.br<(k.aW.length:Int)+n)) (fun K X h=>aq (o:=(one [rf 128 g.v]).bind (sW (H k g r))) (a:=k.aW.length) ((aa (Option.bind · Cell.len) t7).trans (aa some (bJ _))) h) (fun z=>x (Int.not_le.mpr (iD z))) fun z=>q (jj.mp (of_decide_eq_false z)))
def Q5(K:aM k)(h:(k.fi f).pipe<k.ak.length)(q:(k.fi f).rd=true→∀g,Q (.tup [.bytes (bif (k.pp (k.fi f).pipe).blocks c then[] else(k.pp (k.fi f).pipe).out k.size ((k.pp (k.fi f).pipe).gives c)),.int (bif (k.pp (k.fi f).pipe).blocks c then 1 else 0)]) (H (k.aY (k.fi f).pipe ((k.pp (k.fi f).pipe).read c)) g r))(e:(k.fi f).rd=false→X .cU (H k g r)):ah (d+3) 46 [rf 8 0,rf 7 f,.int c] (H k g r) Q X:=
 aZ (B.ite (t := !(k.fi f).rd) (fun _ _ h=>h) (fun z=>e ((Bool.not_eq_eq_eq_not).mp z)) fun z=>B.ite (t:=true) (fun _ _ h=>h) (fun _=>Gv K h (q ((Bool.not_eq_eq_eq_not).mp z))) tf)
def Q6(K:aM k)(h:(k.fi f).pipe<k.ak.length)(ho:∀o∈os,o<256)(hl:os.length≤999)(q:(k.fi f).rd=false→Q (.tup [.int ((k.pp (k.fi f).pipe).wrote k.size os).1,.int ((k.pp (k.fi f).pipe).wrote k.size os).2]) (H (k.aY (k.fi f).pipe ((k.pp (k.fi f).pipe).write k.size os)) g r))(e:(k.fi f).rd=true→X .cU (H k g r)):ah (d+4) 48 [rf 8 0,rf 7 f,.bytes os] (H k g r) Q X:=
 aZ (B.ite (t := !!(k.fi f).rd) (fun _ _ h=>h) (fun z=>e ((Bool.not_not _).symm.trans z)) fun z=>B.ite (t:=true) (fun _ _ h=>h) (fun _=>QH K h ho hl (q ((Bool.not_not _).symm.trans z))) tf)
def GA{w:Bool}(q:Q (c9 (k.fi f).pipe w).v (H k g r)):ah (d+2) 51 [rf 8 0,rf 7 f,.bool w] (H k g r) Q X:=
 aZ (B.ite (t:=true) (fun _ _ h=>h) (fun _=>Gx (P:=fun s=>ah (d+1) 4 [rf 3 (k.fi f).pipe,.int s] (H k g r) Q X) (tY q)) tf)
end
def Gh.lU(g:Gh)(k:Kn):Gh:={g with v:=Nat.succ g.v,j:=cO g.j 128 g.v (some (wH k.aW))}
section
variable{os:List Nat}
def Q7(h:a≠Nat.succ b):Nat.ble a (Nat.succ b)=Nat.ble a b:=lH.mpr ⟨fun z=>dO ((Nat.le_succ_iff.mp (bw z)).resolve_right h),fun z=>dO (g9 (bw z))⟩
def Q8:((H k g r).new (lb 128 (Nat.succ g.v)) (wH os)).set (lb 8 0) (.inst (E0 k (Nat.succ g.v)))=H {k with aW:=os} (g.lU k) r:=by
 refine(aa (St.set · _ _) ((aa (St.set · _ _) (lS rfl)).trans (kO rfl))).trans ((kO rfl).trans (qn (iM (fun a y hn=>?_) rfl) (iM (fun a y hn=>?_) (dO (cL _)))))
 ·by_cases e:a=128
  ·subst e
   by_cases z:y=Nat.succ g.v
   ·rw[z];exact(dK (dh _)).trans iy.symm
   ·exact(cR (dY z)).trans (cV fun _=>z).symm
  ·refine Eq.trans ?_ (cV fun z=>absurd z e).symm
   refine(Gm (k:={k with aW:=os}) rfl rfl (cV fun z=>absurd z e)).trans ?_
   exact kind (fun _=>rfl) (kind (fun _=>rfl) (kind (fun _=>rfl) (kind (fun _=>rfl) (kind (fun _=>rfl) (kind (fun _=>rfl) (kind (fun e=>jy (hn e)) (kind (fun _=>rfl) (kind (fun _=>rfl) (kind (fun _=>rfl) (kind (fun _=>rfl) (kind (fun _=>rfl) (kind (fun z=>absurd z e) rfl))))))))))))
 ·exact gW rfl (gW rfl (gW rfl (gW rfl (kind (fun e=>Q7 (hn e)) rfl))))
def Q9:Nat.beq a b=decide (a=b):=lH.mpr ⟨fun h=>fF (cH h),fun h=>iD h▸dh a⟩
def GB:(H k g r).lst (lb 128 g.v)=some (k.aW.map fun f=>rf 7 f):=aa (Option.bind · Cell.pS) t7
def Ra(hl:k.aW.length≤99)(hp:(k.fi f).pipe<k.ak.length)(q:∀g,Q .none (H (({k with aW:=k.aW.filter fun o => !decide (o=f)}:Kn).jA (k.fi f).pipe (k.pp (k.fi f).pipe) (!(k.fi f).rd)) g r)):wB (ah (d+2)) ((bu 44).body.drop 4) [(172,rf 8 0),(63,rf 7 f)] (H k g r) (cW Q X):=
 wD (sc:=[]) (z:=false) (L:=Lo [(172,rf 8 0),(63,rf 7 f)] 138 fun o=>rf 7 o) (src:=fun m => .lst (lb 128 g.v) m) (vs:=k.aW) (h:=fun o=>rf 7 o) (c:=fun o => !decide (o=f)) (f:=fun o=>rf 7 o) (t := .v 138) (fun K X h=>aq (aa (Option.map fun _=>Src.lst (lb 128 g.v) 0) GB) h) (fun _=>zV GB) rfl (fun o v K h=>by cases o <;> exact h)
  (fun a _ K h=>gr (fun K X h=>aL (fun b=>K (!b) (H k g r)) Q9.symm h) h) (fun a _ K h=>h) (turns rfl (aH hl (bw rfl)))
  ⟨lb 128 (Nat.succ g.v),rfl,iC.mpr fun e=>qU _ (bw e),aL (fun σ=>wB _ ((bu 44).body.drop 5) [(172,rf 8 0),(63,rf 7 f)] σ (cW Q X)) Q8.symm (B.ite (t:=true) (fun _ _ h=>h) (fun _=>Q4 (Q2 hp (q _))) tf)⟩
def Rb(K:aM k)(h:f<k.aj.length)(h1:1≤(k.fi f).aK)(hp:(k.fi f).pipe<k.ak.length)(q:∀g,Q .none (H (k.dg f (k.fi f) (k.pp (k.fi f).pipe)) g r)):ah (d+3) 44 [rf 8 0,rf 7 f] (H k g r) Q X:=by
 unfold Kn.dg at q
 have e1:=Q3 (y:={k.fi f with aK:=(k.fi f).aK - 1}) h
 refine aZ (B.ite (t:=decide ((k.fi f).aK<1)) (fun _ _ h=>h) (fun z=>absurd (iD z) (jj.mpr h1)) fun _=>B.ite (t:=decide ((k.fi f).aK=1)&&false) (fun K X h=>qo (b2:=false) (fun _ _ h=>h) (fun _ _ h=>h) h) (fun z=>absurd ((Bool.and_false _).symm.trans z) eE) fun _=>
  B.r6 (w := .int 1) (fun _ _ h=>h) rfl (fun _ _ h=>h) rfl (Fo (f:={k.fi f with aK:=(k.fi f).aK - 1}) h rfl rfl) (B.ite (t:=decide (0<(k.fi f).aK - 1)) (fun K X h=>aL (fun y=>K (decide (0<Fi.aK y)) _) e1.symm h) (fun z=>?_) fun z=>?_))
 ·rw[z] at q;exact q g
 ·rw[z] at q
  exact Ra (k:=k.gp f {k.fi f with aK:=(k.fi f).aK - 1}) K.of.1 (aL (fun y=>Fi.pipe y<_) e1.symm hp) (aL (fun y=>∀g,Q .none (H (({k.gp f {k.fi f with aK:=(k.fi f).aK - 1} with aW:=k.aW.filter fun o => !decide (o=f)}:Kn).jA (Fi.pipe y) (k.pp (Fi.pipe y)) (!(Fi.rd y))) g r)) e1.symm q)
end
section
variable{σ:St}{l:List Nat}
def getD_snoc{l:List α}{a d:α}(h:i≠l.length):((l++[a])[i]?).getD d=(l[i]?).getD d:=by
 rcases Nat.lt_or_gt_of_ne h with h | h
 ·rw[List.getElem?_append_left h]
 ·rw[iQ (eL h),iQ (by rw[cG];exact h)]
def getD_last{α:Type}{l:List α}{a d:α}:((l++[a])[l.length]?).getD d=a:=by rw[wJ];rfl
def GC{l:List α}(h:x≠l.length):Nat.blt x (l++[a]).length=Nat.blt x l.length:=(aa (Nat.blt x) cG).trans (lH.mpr ⟨fun z=>dO ((Nat.lt_succ_iff_lt_or_eq.mp (bw z)).resolve_right h),fun z=>dO (n5 (bw z))⟩)
def Ay{l:List α}:Nat.blt l.length (l++[a]).length=true:=(aa (Nat.blt l.length) cG).trans (dO (cL _))
def uw:Nat.blt x x=false:=iC.mpr fun e=>jh _ (bw e)
def Rc:(H k g r).new (lb 7 k.aj.length) (.inst (lR y))=H {k with aj:=k.aj++[y]} g r:=
 E6 rfl (fun a z hn=>kind (fun _=>rfl) (kind (fun _=>rfl) (kind (fun e=>aa (fun y=>some (Cell.inst (lR y))) (getD_snoc (hn e))) rfl))) (aa (fun y=>some (Cell.inst (lR y))) getD_last) (fun a z hn=>gW rfl (gW rfl (kind (fun e=>GC (hn e)) rfl))) Ay
def Rf:((((H k g r).use (lb 3 k.ak.length)).use (lb 2 k.ak.length)).set (lb 2 k.ak.length) (.bB q.bq)).set (lb 3 k.ak.length) (.inst (gV k.size k.ak.length q))=H {k with ak:=k.ak++[q]} g r:=by
 refine(aa (St.set · _ _) ((aa (St.set · _ _) ((aa (St.use · _) (lS rfl)).trans (lS rfl))).trans (kO rfl))).trans ((kO rfl).trans (qn (iM (fun a y hn=>?_) (aa (fun p=>some (Cell.inst (gV k.size k.ak.length p))) getD_last)) (iM (fun a y hn=>?_) Ay)))
 ·by_cases z:a=2∧y=k.ak.length
  ·rw[z.1,z.2,iy];exact aa (fun p=>some (Cell.bB (Pp.bq p))) getD_last
  ·refine Eq.trans ?_ (cV fun a b=>z ⟨a,b⟩).symm
   exact kind (fun _=>rfl) (kind (fun _=>rfl) (kind (fun _=>rfl) (kind (fun e=>aa (fun p=>some (Cell.inst (gV k.size y p))) (getD_snoc (hn e))) (kind (fun e=>aa (fun p=>some (Cell.bB (Pp.bq p))) (getD_snoc fun w=>z ⟨e,w⟩)) rfl))))
 ·by_cases z:a=3∧y=k.ak.length
  ·rw[z.1,z.2,iy];exact Ay
  ·refine Eq.trans ?_ (cV fun a b=>z ⟨a,b⟩).symm
   refine gW rfl (gW rfl (gW rfl ?_))
   by_cases w:y=k.ak.length
   ·rw[dY fun e=>hn e w,dY fun e=>z ⟨e,w⟩];rfl
   ·exact gW (GC w) rfl
def Rg(h:m∉l):nt (i7 l) (m:Int) (rf 3 m)=i7 (l++[m]):=by
 induction l with
 |nil=>rfl
 |cons a l ih=>
  refine(if_neg fun z=>h (cS.mpr (Or.inl (Int.ofNat_inj.mp z).symm))).trans ?_
  rw[ih fun z=>h (eY _ z)];rfl
noncomputable def qB(size:Int):Pp:=⟨0,0,List.replicate size.toNat 0,true,true⟩
def Rh(h1:1≤c)(h2:c≤99)(hu:σ.us (lb 2 m)=false)(q:Q .none (((σ.use (lb 2 m)).set (lb 2 m) (.bB (qB c).bq)).set (lb 3 m) (.inst (gV c m (qB c))))):ah (d+1) 1 [rf 3 m,.int m,.int c] (σ.set (lb 3 m) (.inst [])) Q X:=
 aZ (B.ite (t:=decide (c<1)) (fun _ _ h=>h) (fun z=>absurd (iD z) (jj.mpr h1)) fun _=>B.setC rfl rfl (fun _ _ h=>h) rfl (B.setC rfl rfl (fun _ _ h=>h) rfl (B.setC (v:=rf 2 m) (σ:=(σ.use (lb 2 m)).set (lb 2 m) (.bB (qB c).bq)) (fs:=[(81,.int m),(176,.int c)]) rfl rfl (fun K X h=>⟨⟨fW (by decide) h1,fW h2 (by decide)⟩,lb 2 m,rfl,hu,aL (K (rf 2 m)) (r7 (qy rfl)).symm h⟩) rfl
  (B.setC rfl rfl (fun _ _ h=>h) rfl (B.setC rfl rfl (fun _ _ h=>h) rfl (B.setC rfl rfl (fun _ _ h=>h) rfl (B.setC rfl rfl (fun _ _ h=>h) rfl q)))))))
def Ri(K:aM k)(q:Q (rf 3 k.ak.length) (H k.oZ g r)):ah (d+2) 9 [rf 4 0] (H k g r) Q X:=by
 obtain⟨n,size,br,slots,af,np,first,aj,aW,ak,made,dict,bO⟩:=k
 obtain rfl:made=ak.length:=K.made
 refine aZ ⟨lb 3 ak.length,rfl,uw,Rh (σ:=(H _ g r).use (lb 3 ak.length)) K.size.1 K.size.2 (uw (x:=ak.length)) ⟨rfl,?_⟩⟩
 refine aL (fun σ=>wB (ah (d+1)) ((bu 9).body.drop 1) [(172,rf 4 0),(147,rf 3 ak.length)] σ (cW Q X)) (Rf (k:=⟨n,size,br,slots,af,np,first,aj,aW,ak,ak.length,dict,bO⟩) (q:=qB size)).symm ?_
 refine aq (a:=H ⟨n,size,br,slots,af,np,first,aj,aW,ak++[qB size],ak.length,dict++[ak.length],bO⟩ g r) ?_ ?_
 ·refine(aa (Option.map _) (if_pos (by rw[bJ];exact small K.dict.1):on ((i7 dict).length<bz) (Cell.bI (nt (i7 dict) (ak.length:Int) (rf 3 ak.length)))=some _)).trans (aa some ?_)
  rw[Rg fun h=>jh _ (K.dict.2.2 _ h)]
  exact zZ (k:=⟨n,size,br,slots,af,np,first,aj,aW,ak++[qB size],ak.length,dict,bO⟩)
 ·exact B.r6 (w := .int 1) (z := .int ((ak.length+1:Nat):Int)) (fun _ _ h=>h) rfl (fun _ _ h=>h) rfl (aa some (Pz (k:=⟨n,size,br,slots,af,np,first,aj,aW,ak++[qB size],ak.length,dict++[ak.length],bO⟩) (m:=ak.length+1))) q
end
section
variable{σ:St}
noncomputable def Rj(rd:Bool):List (Nm×V):=[(97,.str 147),(159,.bool rd),(222,.bool (!rd)),(80,.int 1),(149,.int 0),(147,.none),(122,.none),(104,.int 0)]
def Rk(q:Q .none (σ.set (lb 7 x) (.inst (Rj rd)))):ah (d+1) 33 [rf 7 x,.str 147,.bool rd,.bool (!rd)] (σ.set (lb 7 x) (.inst [])) Q X:=
 aZ (B.setC rfl rfl (fun _ _ h=>h) rfl (B.setC rfl rfl (fun _ _ h=>h) rfl (B.setC rfl rfl (fun _ _ h=>h) rfl (B.setC rfl rfl (fun _ _ h=>h) rfl (B.setC rfl rfl (fun _ _ h=>h) rfl (B.setC rfl rfl (fun _ _ h=>h) rfl (B.setC rfl rfl (fun _ _ h=>h) rfl (B.setC rfl rfl (fun _ _ h=>h) rfl q))))))))
def Rl(K:k.aW.length≤99)(hm:(k.aW.length:Int)+1≤k.br)(q:Q (rf 7 f) (H {k with aW:=k.aW++[f]} g r)):ah (d+2) 39 [rf 8 0,rf 7 f] (H k g r) Q X:=
 aZ (Gz (n:=1) (fun _=>aq (Av t7 rfl rfl) (aq (r9 t7 rfl (fU (cT (bJ _)) (small (aH K (bw rfl))))) (aL (fun σ=>Q (rf 7 f) σ) ((aa (fun l=>(H k g r).set _ (.list l)) ia.symm).trans (PA (os:=k.aW++[f]))).symm q))) fun z=>absurd hm z)
def xA(r:V)(p N:Nat)(rd:Bool)(o:Option V):Lv:=Lo [(172,rf 8 0),(147,rf 3 p),(59,rf 192 N),(159,.bool rd)] 63 id o
def xB (g:Gh)(N:Nat)(xs:List V):Gh:=g.cQ 192 N (.list xs)
def GD{Q:QF}{o:Option V}(K:k.aW.length≤99)(hm:(k.aW.length:Int)+1≤k.br)(hx:xs.length≤999)(q:Q .next (xA a p N rd (some (rf 7 k.aj.length))) (H (k.o4 rd p) (xB g N (xs++[rf 7 k.aj.length])) r)):
  wB (ah (d+2)) [.asg (.v 63) (.new 4 [(.g 9),(.v 159),(.no (.v 159))]),.asg (.at (.v 63) 147) (.v 147),.ex (.ao (.v 59) 33 [(.ao (.v 172) 60 [(.v 63)])])] (xA a p N rd o) (H k (xB g N xs) r) Q:=by
 have e:aB (xA a p N rd o) 63 (rf 7 k.aj.length)=xA a p N rd (some (rf 7 k.aj.length)):=by cases o <;> rfl
 refine⟨lb 7 k.aj.length,rfl,uw,Rk (σ:=(H k (xB g N xs) r).use (lb 7 k.aj.length)) ⟨rfl,?_⟩⟩
 refine aL (fun lv=>wB (ah (d+2)) [_,_] lv _ Q) e.symm ?_
 refine B.setC (v:=rf 3 p) (fs':=lR ⟨rd,1,p⟩) rfl rfl (fun _ _ h=>h) rfl ?_
 refine aL (fun σ=>wB (ah (d+2)) [_] _ σ Q) (Rc (y:=⟨rd,1,p⟩)).symm ?_
 refine aq (Av (qA rfl fun _ _ _=>rfl) rfl rfl) (Rl (k:={k with aj:=k.aj++[⟨rd,1,p⟩]}) K hm (aq (r9 (qA rfl fun _ _ _=>rfl) rfl (small hx)) ?_))
 exact aL (fun σ=>Q .next _ σ) (Gp rfl rfl fun _ _ _=>rfl).symm q
def xC{l:Loc}(hp:σ.hp l=some c):fy σ (.ref l) v=c.ix v:=aa (Option.bind · fun c=>Cell.ix c v) hp
def Rm(K:aM k)(h9:k.aW.length≤90)(q:(k.aW.length:Int)+2≤k.br→∀g,Q (.tup [rf 7 k.aj.length,rf 7 (k.aj.length+1)]) (H k.dG g r))(x:¬(k.aW.length:Int)+2≤k.br→X .noRoom (H k g r)):ah (d+3) 40 [rf 8 0] (H k g r) Q X:=by
 refine aZ (Gz (n:=2) (fun hm=>?_) x)
 refine Ri K ?_
 refine Gn (Q:=fun v σ=>wB (ah (d+2)) ((bu 40).body.drop 3) [(172,rf 8 0),(147,rf 3 k.ak.length),(59,v)] σ (cW Q X)) (o:=192) (t:=0) (c := .list []) rfl rfl rfl (fun _ _ _=>rfl) (fun _ _=>rfl) ?_
 refine B.t6 (u := .bool true) (v := .bool false) (fun _ _ h=>h) ?_
 refine GD (k:=k.oZ) (a := .none) (o:=none) (rd:=true) (xs:=[]) (aH h9 (bw rfl)) (fW (Int.add_le_add_left (by decide) _) hm) (fG _) ?_
 refine GD (k:=k.oZ.o4 true k.ak.length) (a := .none) (o:=some (rf 7 k.aj.length)) (rd:=false) (by
  rw[show(k.oZ.o4 true k.ak.length).aW=k.aW++[k.aj.length] from rfl,cG];exact aH (lF h9) (bw rfl)) (by
  rw[show(k.oZ.o4 true k.ak.length).aW=k.aW++[k.aj.length] from rfl,cG];exact(Int.add_assoc (k.aW.length:Int) 1 1)▸hm) (bw rfl) ?_
 have e:(H k.dG (xB g (g.n 192) [rf 7 k.aj.length,rf 7 (k.oZ.o4 true k.ak.length).aj.length]) r).hp (lb 192 (g.n 192))=some (.list [rf 7 k.aj.length,rf 7 (k.oZ.o4 true k.ak.length).aj.length]):=qA rfl fun _ _ _=>rfl
 exact aq ((xC (v := .int 0) e).trans rfl) (aq ((xC (v := .int 1) e).trans rfl) (aL (fun x=>Q (.tup [rf 7 k.aj.length,rf 7 x]) (H k.dG _ r)) cG.symm (q hm _)))
end
def Gh.iN(g:Gh)(j:Nat)(c:Cell):Gh:={g with d:=bK g.d j,j:=cO g.j 64 (vx (bK g.d j) j) (some c)}
section
variable{g:Gh}{σ:St}{n:Nm}
def Rn{d d':Nat→Nat}(hn:(k.pr j).fs=none)(h:y % 128≠j→d' (y % 128)=d (y % 128)):iL k d' y z=iL k d y z:=by
 unfold iL
 by_cases e:y % 128=j
 ·rw[e,hn];cases Nat.beq (y / 128) (d' j) <;> cases Nat.beq (y / 128) (d j) <;> rfl
 ·rw[h e]
def Az(hj:j<128)(hn:(k.pr j).fs=none)(h:a=64→y≠vx (bK g.d j) j):fz k (g.iN j c) a y=fz k g a y:=by
 by_cases e:a=64
 ·subst e
  exact(Rn hn fun z=>ur z).trans (aa (iL k g.d y) (cV h))
 ·refine kind (fun _=>?_) (kind (fun z=>absurd z e) (aa (zQ k g.v a y (g.j 128 y)) (cV h)))
  by_cases z:y=j
  ·unfold bY;rw[z,hn];rfl
  ·exact aa (fun n=>some (Cell.inst (bY (fun _=>n) g.rg y (k.pr y)))) (ur z)
def AA(hj:j<128)(hn:(k.pr j).fs=none):fz k (g.iN j c) 64 (vx (bK g.d j) j)=some c:=by
 refine(?_:iL k (bK g.d j) _ (cO _ _ _ _ _ _)=_)
 rw[iy]
 unfold iL
 rw[uq hj,hn]
 cases Nat.beq (vx (bK g.d j) j / 128) (bK g.d j j) <;> rfl
def Ro(hj:j<128)(hn:(k.pr j).fs=none):((((H k g r).use (lb 9 (vx (bK g.d j) j))).use (lb 64 (vx (bK g.d j) j))).set (lb 64 (vx (bK g.d j) j)) c).set (lb 9 (vx (bK g.d j) j)) (.inst [(108,.int k.slots),(180,rf 64 (vx (bK g.d j) j))])=H k (g.iN j c) r:=by
 refine(aa (St.set · _ _) ((aa (St.set · _ _) ((aa (St.use · _) (lS rfl)).trans (lS rfl))).trans (kO rfl))).trans ((kO rfl).trans (qn (iM (fun a y _=>(iM (f':=fz k (g.iN j c)) (fun a y h=>Az hj hn h) (AA hj hn) a y).symm) rfl) fun a y=>?_))
 by_cases z:y=vx (bK g.d j) j
 ·by_cases e:a=9∨a=64
  ·rcases e with e | e <;> (subst e;subst z;first | exact iy.trans (An hj).symm | exact(cV fun e=>nomatch e).trans (iy.trans (An hj).symm))
  ·refine(cV fun e'=>absurd (Or.inr e') e).trans ((cV fun e'=>absurd (Or.inl e') e).trans ?_)
   refine(?_:(bif Nat.beq a 9||Nat.beq a 64 then _ else _)=bif Nat.beq a 9||Nat.beq a 64 then _ else _)
   rw[dY fun e'=>e (Or.inl e'),dY fun e'=>e (Or.inr e')];rfl
 ·exact(cV fun _=>z).trans ((cV fun _=>z).trans (gW (F7 hj z).symm rfl))
def Rq(hj:j<128)(hn:(k.pr j).fs=none):(H k (g.iN j c) r).set (lb 64 (vx (bK g.d j) j)) c'=H k (g.iN j c') r:=
 iZ rfl (fun a y h=>(Az hj hn h).trans (Az hj hn h).symm) (AA hj hn) fun _ _=>rfl
def Rr(h:j<k.af.length)(hj:j<128)(hn:(k.pr j).fs=none)(hc:g.j 64 (vx g.d j)=some (.list (sl.map cX))):(H k g r).set (lb 10 j) (.inst (bY g.d g.rg j {k.pr j with fs:=some sl}))=H (k.dm j sl) g r:=
 iZ rfl (fun a y hn2=>kind (fun e=>aa (fun p=>some (Cell.inst (bY g.d g.rg y p))) (mT (hn2 e))) (kind (fun _=>by
  refine(?_:iL _ _ _ _=iL _ _ _ _)
  unfold iL
  by_cases e:y % 128=j
  ·rw[e,Kn.dm,gq h,hn]
   by_cases z:y / 128=g.d j
   ·rw[show y=vx g.d j from(Nat.mod_add_div y 128).symm.trans (by rw[e,z];rfl),hc]
    cases Nat.beq (vx g.d j / 128) (g.d j) <;> rfl
   ·rw[dY z];rfl
  ·rw[show(k.dm j sl).pr (y % 128)=k.pr (y % 128) from mT e]) rfl)) (aa (fun p=>some (Cell.inst (bY g.d g.rg j p))) (gq h)) fun _ _=>rfl
theorem GF:∀n,rep [.none] n=(List.replicate n none).map cX
 |0=>rfl
 |n+1=>aa (V.none::·) (GF n)
def Rt(h1:0<n)(h2:n≤99)(hu:σ.us (lb 64 x)=false)(q:Q .none (((σ.use (lb 64 x)).set (lb 64 x) (.list ((List.replicate n none).map cX))).set (lb 9 x) (.inst [(108,.int n),(180,rf 64 x)]))):ah (d+1) 52 [rf 9 x,.int n] (σ.set (lb 9 x) (.inst [])) Q X:=
 aZ (B.ite (t:=decide ((n:Int)<1)) (fun _ _ h=>h) (fun z=>absurd (iD z) (jj.mpr (mj.mpr h1))) fun _=>B.setC rfl rfl (fun _ _ h=>h) rfl (B.setC (v:=rf 64 x) (σ:=(σ.use (lb 64 x)).set (lb 64 x) (.list ((List.replicate n none).map cX))) (fs:=[(108,.int n)]) rfl rfl (fun K X q=>
  aq (o:=lop (σ.set (lb 9 x) (.inst [(108,.int n)])) .mul (.fl [.none]) (.int n)) (a:=(List.replicate n none).map cX) (k:=fun x=>newL false x (σ.set (lb 9 _) (.inst [(108,.int n)])) K) ((if_pos ⟨jf n,mj.mpr (aH h2 (bw rfl)),bw rfl⟩:on ((0:Int)≤n∧(n:Int)≤1000∧[V.none].length≤1000) (rep [.none] n)=_).trans (aa some (GF n))) ⟨lb 64 x,rfl,hu,aL (K (rf 64 x)) (r7 (qy rfl)).symm q⟩) rfl q))
def GG(hj:j<128)(hn:(k.pr j).fs=none)(h1:0<k.slots)(h2:k.slots≤99)(q:Q (rf 9 (vx (bK g.d j) j)) (H k (g.iN j (.list ((List.replicate k.slots none).map cX))) r)):jP (ah (d+1)) 6 [.int k.slots] (H k g r) Q X:=
 ⟨lb 9 (vx (bK g.d j) j),rfl,xu hj,Rt (σ:=(H k g r).use (lb 9 (vx (bK g.d j) j))) h1 h2 (xu hj) ⟨rfl,aL (fun σ=>Q (rf 9 (vx (bK g.d j) j)) σ) (Ro hj hn).symm q⟩⟩
end
section
variable{k:Kn}{g:Gh}{S:List (Option Nat)}
def Ru(hj:j<128)(hn:(k.pr j).fs=none)(h:n<S.length):fQ (H k (g.iN j (.list (S.map cX))) r) (rf 64 (vx (bK g.d j) j)) (.int n) (cX s)=some (H k (g.iN j (.list ((S.set n s).map cX))) r):=
 (aa (fun o=>o.bind fun c=>(Cell.put c (.int n) (cX s)).map fun c=>(H k (g.iN j (.list (S.map cX))) r).set (lb 64 (vx (bK g.d j) j)) c) ((wm rfl).trans (AA hj hn))).trans ((aa (Option.map _) (Gg ((bJ _).symm▸h))).trans (aa some ((aa (fun l=>(H k (g.iN j (.list (S.map cX))) r).set _ (.list l)) List.map_set.symm).trans (Rq hj hn))))
def ux{y:Fi}(h:k.aj[f]?=some y):k.fi f=y:=by unfold Kn.fi;rw[h];rfl
def Rv:∀{l:List (Nat×Option Nat)} {S:List (Option Nat)},(sets S l).length=S.length:=fun{l}=>by
 induction l with
 |nil=>exact rfl
 |cons a l ih=>exact(ih (S:=List.set _ _ _)).trans cg
def Rw(h:a∈aU sl):∃f,a.2=some f∧some f∈sl∧a.1<sl.length:=by
 obtain⟨h1,h2⟩:=dJ.mp h
 obtain⟨f,e⟩:=qR.mp h2
 obtain⟨h3,h4⟩:=List.of_mem_zip (show(a.1,a.2)∈_ from h1)
 exact⟨f,e,e▸h4,fE.mp h3⟩
def AB(h:sl.length≤99):(aU sl).length<gG:=turns rfl (aH (jd _ _) (aH (cT (by rw[List.length_zip,dF,Nat.min_self])) (aH h (bw rfl))))
def GH:(k.gR l).pr j=k.pr j:=aa (fun l:List Pr=>(l[j]?).getD Pr.nil) wM
def Rx{l:List (Nat×Option Nat)}(e:l[m]?=some a):k.gR (l.take (m+1))=(k.gR (l.take m)).j5 a.2∧sets S (l.take (m+1))=(sets S (l.take m)).set a.1 a.2:=by
 rw[kP e];exact⟨kC,kC⟩
def Ry(hi:i<128)(hj:j<128)(hij:i≠j)(e:(k.pr i).fs=some sl)(hn:(k.pr j).fs=none)(hl:sl.length=k.slots)(h1:0<k.slots)(h2:k.slots≤99)(hh:∀f,some f∈sl→∃y,k.aj[f]?=some y∧1≤y.aK)(q:Q (rf 9 (vx (bK g.d j) j)) (H (k.gR (aU sl)) (g.iN j (.list (sl.map cX))) r)):ah (d+2) 58 [rf 9 (vx g.d i),rf 8 0] (H k g r) Q X:=by
 refine aZ ?_
 refine GG (Q:=fun v σ=>wB (ah (d+1)) ((bu 58).body.drop 1) [(172,rf 9 (vx g.d i)),(186,rf 8 0),(68,v)] σ (cW Q X)) hj hn h1 h2 ?_
 refine(B.kR (t := .tup [.v 129,.v 63]) (src:=jw (aU sl) jE) (vs:=aU sl) (h:=jE) (σ':=H k (g.iN j (.list ((List.replicate k.slots none).map cX))) r) (fun K X h=>?_) (AB (hl▸h2))
  (fun m lv σ=>(∃o:Option (V×V),lv=[(172,rf 9 (vx g.d i)),(186,rf 8 0),(68,rf 9 (vx (bK g.d j) j))]++o.elim [] fun o=>[(129,o.1),(63,o.2)])∧σ=H (k.gR ((aU sl).take m)) (g.iN j (.list ((sets (List.replicate k.slots none) ((aU sl).take m)).map cX))) r) (fun _ _ _ _=>kQ) (fun m a lv σ he J f' hf=>?_) (fun lv σ J=>?_) ⟨⟨none,rfl⟩,rfl⟩)
 ·exact aL (fun x=>ah (d+1) 57 [rf 9 x] (H k _ r) (fun v σ=>aQ (srcOf σ v) fun x=>K x σ) X) (Qh hij) (uu hi e (hl▸h2) h)
 ·obtain⟨⟨o,rfl⟩,rfl⟩:=J
  refine cps fun C9 k9=>?_
  obtain⟨f,ef,hm,hlt⟩:=Rw (dD he)
  obtain⟨y,hy,hy1⟩:=hh f hm
  obtain⟨y',hy',hle⟩:=(Sh.of (k:=k) (l:=(aU sl).take m) ⟨fun f y h=>⟨y,h,Int.le_refl _⟩,rfl⟩).up f y hy
  refine k9 ?_
  have hs:=Rx (k:=k) (S:=List.replicate k.slots none) he
  rw[ef,FH hy'] at hs
  have hL:(sets (List.replicate k.slots none) ((aU sl).take m)).length=k.slots:=Rv.trans lE
  have hf:=hf ([(172,rf 9 (vx g.d i)),(186,rf 8 0),(68,rf 9 (vx (bK g.d j) j))]++[(129,.int a.1),(63,rf 7 f)]) _ ⟨⟨some (.int a.1,rf 7 f),rfl⟩,rfl⟩
  rw[hs.1,hs.2,←ux hy'] at hf
  have hn':((k.gR ((aU sl).take m)).pr j).fs=none:=GH.symm▸hn
  generalize k.gR ((aU sl).take m)=k1 at *
  refine⟨rfl,?_⟩
  refine(?_:wB _ _ (aB (aB _ 129 (.int a.1)) 63 (cX a.2)) _ _)
  rw[ef,show ∀u v,aB (aB ([(172,rf 9 (vx g.d i)),(186,rf 8 0),(68,rf 9 (vx (bK g.d j) j))]++o.elim [] fun o=>[(129,o.1),(63,o.2)]) 129 u) 63 v=[(172,rf 9 (vx g.d i)),(186,rf 8 0),(68,rf 9 (vx (bK g.d j) j)),(129,u),(63,v)] from fun u v=>by cases o <;> rfl]
  exact Gy (bM.mp hy').1 (by rw[ux hy'];exact fW hy1 hle) (aq (Ru (s:=some f) hj hn' (by rw[hL,←hl];exact hlt)) hf)
 ·obtain⟨⟨o,rfl⟩,rfl⟩:=J
  rw[iR,←hl,PJ]
  exact q
end
section
variable{k:Kn}
def B.se{Q:QF}(he:∀(K:QV) (X:QX),K v σ1→wE cx e lv σ K X)(ho:Is cx lv σ1 o u)(hs:gC σ1 u n v=some σ')(q:wB cx b lv σ' Q):wB cx (.asg (.at o n) e::b) lv σ Q:=he _ _ (ho _ _ (aq hs q))
theorem B.fQ{i:E}{Q:QF}(he:Is cx lv σ e v)(ho:Is cx lv σ o u)(hi:Is cx lv σ i w)(hs:fQ σ u w v=some σ')(q:wB cx b lv σ' Q):wB cx (.asg (.ix o i) e::b) lv σ Q:=he _ _ (ho _ _ (hi _ _ (aq hs q)))
def AD(h:j<k.af.length)(e:aB (bY g.d g.rg j (k.pr j)) n v=bY g.d g.rg j (k.pr j))(hf:fX 7 n=true):gC (H k g r) (rf 10 j) n v=some (H k g r):=
 (jv (p:=k.pr j) h e hf rfl).trans (aa (fun k=>some (H k g r)) (Kn.t8 (bM.mpr ⟨h,by unfold Kn.pr;rw[bZ h];rfl⟩)))
def Rz(h:j<k.af.length):k.af[j]?=some (k.pr j):=by unfold Kn.pr;rw[bZ h];rfl
def jF(e:(k.pr i).fs=some sl)(ha:aF lv n=some (rf 10 i)):Is cx lv (H k g r) (.at (.v n) 64) (rf 9 (vx g.d i)):=fun K X h=>aq ha (aL (fun o:Option (List (Option Nat))=>K (o.elim .none fun _=>rf 9 (vx g.d i)) (H k g r)) e.symm h)
def RA(hA:Is cx lv σ e (rf 9 x))(q:wE cx (.ao e n es) lv σ K' X):wE cx (.ite (.cmp e .is (.c .none)) (.c .none) (.ao e n es)) lv σ K' X:=hA _ _ q
def c6(hA:Is cx lv σ e u)(q:aQ (oh σ u n) fun q=>wL cx es lv σ (fun vs σ=>uZ cx u n vs q σ K' X) X):wE cx (.ao e n es) lv σ K' X:=hA _ _ q
def RB{Q:QF}(h:j<k.af.length)(hj:j<128)(ha:aF lv 43=some (rf 10 j))(hp:aF lv 141=some (rf 10 i))(q:wB cx b lv (H k (g.m5 k j) r) Q):wB cx (.asg (.at (.v 43) 164) (.bi .qX [.at (.v 141) 164])::b) lv (H k g r) Q:=
 aq hp ⟨lb 0 (vx (bK g.rg j) j),rfl,xu hj,aq ha (aq (o:=gC ((H k g r).new (lb 0 (vx (bK g.rg j) j)) (.list zeros)) (rf 10 j) 164 (rf 0 (vx (bK g.rg j) j))) (a:=H k (g.m5 k j) r) ((aa some (F8 (p:=k.pr j) h hj (Or.inr rfl))).trans (aa (fun k'=>some (H k' (g.m5 k j) r)) (Kn.t8 (Rz h)))) q)⟩
def RC:fQ (H k g r) (rf 0 x) (.int 10) (.int 0)=some (H k g r):=aa some (iZ (k':=k) (g':=g) (c := .list zeros) rfl (fun _ _ _=>rfl) rfl fun _ _=>rfl)
def GI(h:j<k.af.length)(hj:j<128)(hn:(k.pr j).fs=none)(hc:g.j 64 (vx g.d j)=some (.list (sl.map cX))):gC (H k g r) (rf 10 j) 64 (rf 9 (vx g.d j))=some (H (k.dm j sl) g r):=aa some (Rr h hj hn hc)
def RD(K:aM k)(hi:i<k.n)(hf:k.first=some 0)(hs:(k.pr i).fs=some sl)(hij:i≠k.free)(hh:∀f,some f∈sl→∃y,k.aj[f]?=some y∧1≤y.aK)(q:k.free<k.n→∀g,Q (rf 10 k.free) (H (k.fork i k.free sl) g r))(x:¬k.free<k.n→X .noRoom (H k g r)):ah (d+3) 75 [rf 11 0,rf 10 i,rf 8 0] (H k g r) Q X:=by
 refine aZ (Gd (nm:=(k.pr i).name) K (Or.inr hf) (fun hj=>?_) x)
 have q:=q hj
 have F:=K.fs _ _ _ (K.pr hi) hs
 have hj':=i6 K hj
 have hi':=i6 K hi
 have hl:=fj K hj
 have e1:(k.new k.free (k.pr i).name).pr k.free={Pr.nil with pid:=k.bG,st:=71,name:=(k.pr i).name}:=gq hl
 have e2:(k.new k.free (k.pr i).name).pr i=k.pr i:=mT hij
 unfold Kn.fork at q
 have hl1:k.free<(k.new k.free (k.pr i).name).af.length:=cg.symm▸hl
 have AE:∀f,some f∈sl→∃y,(k.new k.free (k.pr i).name).aj[f]?=some y∧1≤y.aK:=hh
 have hsl:(k.new k.free (k.pr i).name).slots=k.slots:=rfl
 have hb:k.gX i k.free={(k.new k.free (k.pr i).name).pr k.free with par:=some i}:=by rw[e1];rfl
 rw[hb] at q
 generalize k.new k.free (k.pr i).name=k1 at *
 generalize k.free=j at *
 rw[←e2] at hs
 refine B.se (σ1:=H k1 (g.m5 k j) r) (v := .none) (fun _ _ h=>h) (fun _ _ h=>h) (AD hl1 rfl rfl) ?_
 refine RB (i:=i) (lv:=[(172,rf 11 0),(141,rf 10 i),(64,rf 8 0),(43,rf 10 j)]) hl1 hj' rfl rfl ?_
 refine B.fQ (v := .int 0) (fun _ _ h=>h) (fun _ _ h=>h) (w := .int 10) (fun _ _ h=>h) RC ?_
 refine B.se (v := .int 0) (fun _ _ h=>h) (fun _ _ h=>h) (AD hl1 rfl rfl) ?_
 refine B.se (v:=rf 10 i) (fun _ _ h=>h) (fun _ _ h=>h) (jv (p:={k1.pr j with par:=some i}) hl1 rfl rfl rfl) ?_
 have hl2:j<(k1.aA j {k1.pr j with par:=some i}).af.length:=cg.symm▸hl1
 have hs2:((k1.aA j {k1.pr j with par:=some i}).pr i).fs=some sl:=(aa Pr.fs (mT hij)).trans hs
 have e3:=gq (p:={k1.pr j with par:=some i}) hl1
 have hl3:j<((k1.aA j {k1.pr j with par:=some i}).gR (aU sl)).af.length:=(aa List.length wM).symm▸hl2
 have e4:(((k1.aA j {k1.pr j with par:=some i}).gR (aU sl)).pr j)={k1.pr j with par:=some i}:=GH.trans e3
 have hn:(k1.pr j).fs=none:=by rw[e1];rfl
 refine B.se (fun K' X h=>RA (jF hs2 rfl) (c6 (jF hs2 rfl) (Ry hi' hj' hij hs2 ((aa Pr.fs e3).trans hn) (F.1.trans hsl.symm) (hsl▸K.sl.1) (hsl▸K.sl.2) AE h))) (fun _ _ h=>h) (GI (sl:=sl) (g:=Gh.iN _ j _) hl3 hj' ((aa Pr.fs e4).trans hn) iy) ?_
 have GJ:j<(((k1.aA j {k1.pr j with par:=some i}).gR (aU sl)).dm j sl).af.length:=cg.symm▸hl3
 refine B.se (v := .none) (fun _ _ h=>h) (fun _ _ h=>h) (AD GJ rfl rfl) ?_
 refine wz GJ (aL (fun k'=>Q (rf 10 j) (H k' _ r)) ?_ (q _))
 unfold Kn.dm
 rw[tZ,gq hl3,e4]
end
section
variable{k:Kn}
def slot_get(hs:(k.pr i).fs=some sl)(h:k.eS i m=some f):sl[m]?=some (some f):=by
 unfold Kn.eS at h
 rw[hs] at h
 have h:((sl[m]?).bind fun s=>s)=some f:=h
 cases e:sl[m]? with
 |none=>rw[e] at h;exact nn h
 |some s=>rw[e] at h;exact aa some h
def B.sf{Q:QF}(hA:Is cx lv σ e u)(q:aQ (oh σ u n) fun q=>wL cx es lv σ (fun vs σ=>uZ cx u n vs q σ (fun v σ=>wB cx b (aB lv x v) σ Q) fun x σ=>Q (.exc x) lv σ) fun x σ=>Q (.exc x) lv σ):wB cx (.asg (.v x) (.ao e n es)::b) lv σ Q:=hA _ _ q
def AF(I:au k)(hi:i<k.n)(hs:(k.pr i).fs=some sl)(x:k.eS i m=none→X .cU (H k g r))(q:∀f y,k.eS i m=some f→k.fi f=y→f<k.aj.length→1≤y.aK→y.pipe<k.ak.length→k.aj[f]?=some y→k.ak[y.pipe]?=some (k.pp y.pipe)→Q (rf 7 f) (H k g r)):ah (d+1) 55 [rf 9 (vx g.d i),.int m] (H k g r) Q X:=
 Gk (i6 I.ok hi) hs (I.ok.fs _ _ _ (I.ok.pr hi) hs).1 (by
  cases e:k.eS i m with
  |none=>exact x e
  |some f=>
   refine cps fun C9 k9=>?_
   obtain⟨y,x',hy,hx,h1⟩:=I.heldBy (I.ok.pr hi) hs (slot_get hs e)
   refine k9 ?_
   have hp:=(bM.mp hx).1
   exact q f y e (ux hy) (bM.mp hy).1 h1 hp hy (nO hp))
def RE(I:au k)(hi:i<k.n)(hs:(k.pr i).fs=some sl)(hc:1≤c)(q:gu (k.kX i m c) r Q X):ah (d+4) 31 [rf 6 0,rf 10 i,.int m,.int c] (H k g r) Q X:=by
 refine aZ (B.ite (t:=decide (c<0)) (fun _ _ h=>h) (fun z=>absurd (iD z) (jj.mpr (fW (by decide) hc))) fun _=>?_)
 refine B.sf (jF hs rfl) (AF I hi hs (fun e=>?_) fun f y e ey hf h1 hp hy hx=>?_)
 ·rw[w6 e] at q;exact q g
 ·rw[w5 e hy hx] at q
  subst ey
  refine Q5 I.ok hp (fun hr g=>?_) fun hr=>?_
  ·rw[hr] at q
   refine⟨rfl,?_⟩
   cases eb:(k.pp (k.fi f).pipe).blocks c with
   |true=>
    rw[eb] at q
    refine B.ite (t:=true) (fun _ _ h=>h) (fun _=>?_) tf
    rw[show(k.pp (k.fi f).pipe).read c=k.pp (k.fi f).pipe from by unfold Pp.read;rw[eb];rfl,uv hp]
    exact GA (w:=false) (xw (c:=c9 (k.fi f).pipe false) (fj I.ok hi) q)
   |false=>
    rw[eb] at q
    refine B.ite (t:=false) (fun _ _ h=>h) (fun e=>ft e) fun _=>B.ite (t:=true) (fun _ _ h=>h) (fun _=>?_) tf
    exact tY (o6 (c:=c9 (k.fi f).pipe true) (I.read hx).ok fun v=>q _)
  ·rw[hr] at q;exact q g
end
section
variable{k:Kn}{os:List Nat}
def RG(q:Q (.bytes os) σ):ah (d+1) 12 [.bytes os] σ Q X:=aZ (B.ite (t:=false) (fun _ _ h=>h) ft fun _=>B.ite (t:=false) (fun _ _ h=>h) ft fun _=>q)
def RH:(k.wake C).af.length=k.af.length:=bJ _
def RI(I:au k)(hi:i<k.n)(hs:(k.pr i).fs=some sl)(ho:∀o∈os,o<256)(hl:os.length≤999)(q:gu (k.kW i m os) r Q X):ah (d+5) 32 [rf 6 0,rf 10 i,.int m,.bytes os] (H k g r) Q X:=by
 refine aZ (RG (B.sf (lv:=[(172,rf 6 0),(152,rf 10 i),(129,.int m),(131,.bytes os)]) (jF hs rfl) (AF I hi hs (fun e=>?_) fun f y e ey hf h1 hp hy hx=>?_)))
 ·rw[w9 e] at q;exact q g
 ·rw[w7 e hy hx] at q
  subst ey
  refine Q6 I.ok hp (fun o h=>ho o (xd h)) (aH PY hl) (fun hr=>?_) fun hr=>?_
  ·rw[hr] at q
   have I2:=(I.write hx fun o h=>ho o (xd (os:=os) (t:=(k.pr i).prog) h))
   have hl2:i<((k.aY (k.fi f).pipe ((k.pp (k.fi f).pipe).write k.size (cut os (some (k.pr i).prog) none))).wake (c9 (k.fi f).pipe false)).af.length:=RH.symm▸fj (k:=k) I.ok hi
   have q:gu (((k.aY (k.fi f).pipe ((k.pp (k.fi f).pipe).write k.size (cut os (some (k.pr i).prog) none))).wake (c9 (k.fi f).pipe false)).wrote i os (k.fi f).pipe (k.pr i).prog ((k.pp (k.fi f).pipe).wrote k.size (cut os (some (k.pr i).prog) none))) r Q X:=q
   have e2:((k.aY (k.fi f).pipe ((k.pp (k.fi f).pipe).write k.size (cut os (some (k.pr i).prog) none))).wake (c9 (k.fi f).pipe false)).fi f=k.fi f:=rfl
   refine⟨rfl,B.ite (t:=true) (fun _ _ h=>h) (fun _=>tY (o6 (c:=c9 (k.fi f).pipe false) I2.ok fun v=>?_)) tf⟩
   generalize (k.aY (k.fi f).pipe ((k.pp (k.fi f).pipe).write k.size (cut os (some (k.pr i).prog) none))).wake (c9 (k.fi f).pipe false)=k2 at *
   generalize (k.pp (k.fi f).pipe).wrote k.size (cut os (some (k.pr i).prog) none)=w at *
   generalize (k.pr i).prog=dn at *
   have b:=q.bif
   refine B.ite (t:=decide (w.2=1)) (fun _ _ h=>h) (fun z=>?_) fun z=>?_
   ·exact B.set (v := .int (dn+w.1)) (fun _ _ h=>h) (fun _ _ h=>h) (jv (p:={k2.pr i with prog:=dn+w.1}) hl2 rfl rfl rfl) (GA (w:=true) (e2.symm▸xw (c:=c9 (k.fi f).pipe true) (cg.symm▸hl2) (b.1 z)))
   ·have q:=(b.2 z).bif
    refine B.set (v := .int 0) (fun _ _ h=>h) (fun _ _ h=>h) (jv (p:={k2.pr i with prog:=0}) hl2 rfl rfl rfl) (B.ite (t:=decide (w.2=2)||decide (dn+w.1<os.length)) (fun K X h=>qp (fun _ _ h=>h) (fun _ _ h=>h) h) (fun z=>q.1 z _) fun z=>q.2 z _)
  ·rw[hr] at q;exact q g
def RJ(K:aM k)(h:f<k.aj.length)(h1:1≤(k.fi f).aK)(hp:(k.fi f).pipe<k.ak.length)(q:∀g,Q .none (H (k.mW f) g r)):ah (d+4) 27 [rf 6 0,rf 7 f] (H k g r) Q X:=by
 have hf:k.aj[f]?=some (k.fi f):=by unfold Kn.fi;rw[bZ h];rfl
 rw[wU hf (nO hp)] at q
 have K1:=K.dg hf (nO hp)
 exact aZ (Rb K h h1 hp fun g=>B.ite (t:=true) (fun _ _ h=>h) (fun _=>tY (o6 (c:=c9 (k.fi f).pipe false) K1 fun v=>tY (o6 (c:=c9 (k.fi f).pipe true) K1.wake fun v=>q g))) tf)
end
section
variable{Q:QV}
noncomputable def Lp(L:Lv)(o:Option (V×V)):Lv:=L++o.elim [] fun o=>[(129,o.1),(63,o.2)]
def B.GK{b r:List Mine.Internal.S}{Q:QF}(L:Lv)(o0:Option (V×V))(S:Nat→β→St)(J:Nat→β→Prop)(hz:sl.length≤99)(hi:∀(K:QS) (X:QX),K (.items ((aU sl).map jE)) (S 0 s0)→wI cx it lv σ K X)(hl:lv=Lp L o0)(hL:∀o u v,aB (aB (Lp L o) 129 u) 63 v=Lp L (some (u,v)))
  (step:∀m n f s,(aU sl)[m]?=some (n,some f)→sl[n]?=some (some f)→J m s→∀k:QL,(∀s,J (m+1) s→k (Lp L (some (.int n,rf 7 f))) (S (m+1) s))→wB cx b (Lp L (some (.int n,rf 7 f))) (S m s) (iI k (dX (fun lv σ=>wB cx r lv σ Q) Q))) (fin:∀s o,J (aU sl).length s→wB cx r (Lp L o) (S (aU sl).length s) Q) (q:J 0 s0):wB cx (.c7 (.tup [.v 129,.v 63]) it b::r) lv σ Q:=
 B.kR (src:=jw (aU sl) jE) (t := .tup [.v 129,.v 63]) hi (AB hz) (fun m lv τ=>∃s o,lv=Lp L o∧τ=S m s∧J m s) (fun _ _ _ _=>kQ) (fun m a lv τ e J k hk=>by
  obtain⟨s,o,rfl,rfl,j⟩:=J
  obtain⟨f,e1,e2⟩:=wX (dD e)
  refine⟨rfl,(?_:wB cx b (aB (aB (Lp L o) 129 (.int a.1)) 63 (cX a.2)) (S m s) _)⟩
  obtain⟨n,t⟩:=a
  obtain rfl:t=some f:=e1
  rw[hL]
  exact step m n f s e e2 j k fun s j=>hk _ _ ⟨s,_,rfl,rfl,j⟩) (fun lv τ J=>by
  obtain⟨s,o,rfl,rfl,j⟩:=J
  exact fin s o j) ⟨s0,o0,hl,rfl,q⟩
def AG(I:au k)(hi:i<k.n)(hs:(k.pr i).fs=some sl)(h3:sl[m]?=some (some f))(q:∀g,Q (.int 0) (H (k.cY i m) g r)):ah (d+5) 26 [rf 6 0,rf 10 i,.int m] (H k g r) Q X:=by
 refine cps fun C9 k9=>?_
 obtain⟨y,x,hy,hx,h1⟩:=I.heldBy (I.ok.pr hi) hs h3
 refine k9 ?_
 rw[wV (I.ok.pr hi) hs h3] at q
 have F:=I.ok.fs _ _ _ (I.ok.pr hi) hs
 refine aZ (B.sf (jF hs rfl) (Gl (i6 I.ok hi) (fj I.ok hi) hs F.1 ?_))
 rw[kY (I.ok.pr hi) hs h3]
 exact RJ (k:=k.dm i (sl.set m none)) (I.ok.uf (I.ok.pr hi) hs (fun _=>nn)) (bM.mp hy).1 ((ux hy).symm▸h1) ((ux hy).symm▸(bM.mp hx).1) q
def RK(I:au k)(hi:i<k.n)(hs:(k.pr i).fs=some sl)(q:gu (k.jB i m) r Q X):ah (d+5) 26 [rf 6 0,rf 10 i,.int m] (H k g r) Q X:=by
 unfold Kn.jB at q
 cases e:k.eS i m with
 |none=>
  rw[e] at q
  refine aZ (B.sf (jF hs rfl) (Gl (i6 I.ok hi) (fj I.ok hi) hs (I.ok.fs _ _ _ (I.ok.pr hi) hs).1 ?_))
  rw[e];exact q g
 |some f=>rw[e] at q;exact AG I hi hs (slot_get hs e) q
def RL(I:au k)(hi:i<k.n)(hl:bh (k.pr i))(q:∀g,Q .none (H (k.b9 i) g r)):ah (d+6) 20 [rf 6 0,rf 10 i] (H k g r) Q X:=by
 obtain⟨sl,hs⟩:=I.lX (I.ok.pr hi) hl
 have F:=I.ok.fs _ _ _ (I.ok.pr hi) hs
 have e0:k.b9 i=((aU sl).take (aU sl).length).foldl (fun k x=>k.cY i x.1) k:=by
  unfold Kn.b9;rw[hs,iR];rfl
 rw[e0] at q
 refine aZ (B.ite (t:=true) (fun K X h=>jF hs rfl _ _ h) (fun _=>B.GK (s0:=g) [(172,rf 6 0),(152,rf 10 i)] none (fun m g=>H (((aU sl).take m).foldl (fun k x=>k.cY i x.1) k) g r) (fun _ _=>True) (F.1▸I.ok.sl.2) (fun K X h=>c6 (jF hs rfl) (uu (i6 I.ok hi) hs (F.1▸I.ok.sl.2) h)) rfl (fun o _ _=>by cases o <;> rfl) (fun m n f g e e2 _ k' hk=>?_) (fun g o _=>?_) trivial) tf)
 ·obtain⟨It,tt,q',hq,hs'⟩:=I.wY (I.ok.pr hi) hs m (eL (bM.mp e).1)
  have hi':=(tt.n.symm▸hi:i<(((aU sl).take m).foldl (fun k x=>k.cY i x.1) k).n)
  rw[←bH hq] at hs'
  refine AG It hi' hs' ((z9 (Aa e)).trans e2) fun g=>aL (fun k=>k' _ (H k g r)) ?_ (hk g trivial)
  rw[kP e,kC];rfl
 ·exact B.ite (t:=false) (fun _ _ h=>h) ft fun _=>q g
def GL(I:au k)(hi:i<k.n)(hl:bh (k.pr i))(h0:i≠0)(q:∀g,Q (.int 0) (H (k.exit i s) g r)):ah (d+7) 21 [rf 6 0,rf 10 i,.int s] (H k g r) Q X:=by
 refine cps fun C9 k9=>?_
 obtain⟨z,_,I1,t1,hz,_⟩:=I.b9 (I.ok.pr hi) hl
 refine k9 ?_
 unfold Kn.exit at q
 have hi1:i<(k.b9 i).n:=t1.n.symm▸hi
 refine aZ (B.ite (t:=false) (fun K X h=>aq (Ao I.first h0) h) ft fun _=>RL I hi hl fun g=>?_)
 generalize k.b9 i=k1 at *
 refine B.seq (B.set (v := .int 0) (fun _ _ h=>h) (fun _ _ h=>h) (jv (p:={k1.pr i with prog:=0}) (fj I1.ok hi1) rfl rfl rfl) (B.ju ?_))
 have I2:au (k1.aA i {k1.pr i with prog:=0}):=I1.dm (I1.ok.pr hi1) rfl rfl (Or.inl rfl) (Or.inl rfl)
 have hi2:i<(k1.aA i {k1.pr i with prog:=0}).n:=hi1
 generalize k1.aA i {k1.pr i with prog:=0}=k2 at *
 exact Qq I2.ok I2.first hi2 h0 (q g)
end
section
def RM(I:au k)(hi:i<k.n)(hs:(k.pr i).fs=some sl)(q:gu (k.mZ i m) r Q X):ah (d+3) 28 [rf 6 0,rf 10 i,.int m] (H k g r) Q X:=by
 have F:=I.ok.fs _ _ _ (I.ok.pr hi) hs
 unfold Kn.mZ at q
 rw[o5 (I.ok.pr hi) hs] at q
 refine aZ (B.sf (jF hs rfl) (AF I hi hs (fun e=>?_) fun f y e ey hf h1 hp hy hx=>?_))
 ·rw[e] at q;exact q g
 ·rw[e] at q
  have q:gu ((k.aj[f]?).elim k.bg fun y=>_) r Q X:=q
  rw[hy] at q
  have q:=(q:gu (bif _ then _ else _) r Q X).bif
  subst ey
  exact B.sf (jF hs rfl) (As (i6 I.ok hi) (fj I.ok hi) hs F.1 I.ok.sl.2 (fun z=>Gy (k:=k.dm i (sl.set (dS sl) (some f))) hf h1 (q.1 (fF z) _)) fun z=>q.2 (iS z) g)
def RN(I:au k)(hi:i<k.n)(hs:(k.pr i).fs=some sl)(hd:k.ak.length≤900)(q:gu (k.lg i) r Q X):ah (d+4) 29 [rf 6 0,rf 10 i] (H k g r) Q X:=by
 have F:=I.ok.fs _ _ _ (I.ok.pr hi) hs
 unfold Kn.lg Kn.qu at q
 rw[o5 (I.ok.pr hi) hs] at q
 have q:=q.bif
 have ho:k.aW.length≤90:=mj.mp (fW I.ol I.ml)
 refine aZ (B.ite (t:=decide ((sl.filter Option.isNone).length<2)) (fun K X h=>c6 (jF hs rfl) (Qy (i6 I.ok hi) hs (F.1▸I.ok.sl.2) (aL (fun b=>K b (H k g r)) (decide_eq_decide.mpr jK.symm) h))) (fun z=>q.1 (by rw[z];rfl) g) fun z=>Rm I.ok ho (fun hm g=>⟨rfl,?_⟩) fun hm=>q.1 (by rw[z,iS hm];rfl) g)
 have q:=q.2 (by rw[z,fF hm];rfl)
 have z:=kE (of_decide_eq_false z)
 have K1:=I.ok.dG ho (aH I.dl hd)
 have hs1:(k.dG.pr i).fs=some sl:=hs
 refine c6 (jF hs1 rfl) (As (i6 I.ok hi) (fj K1 hi) hs1 F.1 I.ok.sl.2 (fun _=>?_) fun w=>absurd (um (je (l9 1) z)) w)
 have hs2:((k.dG.dm i (sl.set (dS sl) (some k.aj.length))).pr i).fs=some (sl.set (dS sl) (some k.aj.length)):=aa Pr.fs (gq (fj K1 hi))
 refine c6 (jF hs2 rfl) (As (i6 I.ok hi) (cg.symm▸fj K1 hi) hs2 (cg.trans F.1) I.ok.sl.2 (fun _=>aL (fun k'=>Q _ (H k' _ r)) ?_ (q _)) fun w=>absurd (FU z) w)
 unfold Kn.dm
 rw[tZ,gq (fj K1 hi)];rfl
def RO(I:au k)(hi:i<k.n)(hl:bh (k.pr i))(q:gu (k.jC i) r Q X):ah (d+4) 19 [rf 6 0,rf 10 i] (H k g r) Q X:=by
 obtain⟨sl,hs⟩:=I.lX (I.ok.pr hi) hl
 unfold Kn.jC at q
 rw[o5 (I.ok.pr hi) hs] at q
 have q:=q.bif
 refine aZ (RD I.ok hi I.first hs (fun e=>?_) (fun f hf=>?_) (fun hj g=>?_) fun hj=>q.2 (iS hj) g)
 ·have:=qw I.ok (e▸hi)
  rw[←e] at this
  exact hl.1 (cH this)
 ·obtain⟨m,hm⟩:=pL hf
  obtain⟨y,_,hy,_,h1⟩:=I.heldBy (I.ok.pr hi) hs hm
  exact⟨y,hy,h1⟩
 ·have q:=q.1 (fF hj) g
  refine B.ite (t:=false) (fun _ _ h=>h) ft fun _=>aL (fun z=>Q (.int z) (H (k.fork i k.free sl) g r)) ?_ q
  unfold Kn.fork
  rw[gq (by rw[wM];exact cg.symm▸cg.symm▸fj I.ok hj)];rfl
end
section
variable{cx:Cx}
theorem au.find(I:au k)(hi:i<k.n)(h:(k.pr i).st≠209):k.nL (k.pr i).pid=some i:=
 List.find?_range_eq_some.mpr ⟨(g8).mpr ⟨I.there (I.ok.pr hi) h,dW _⟩,fE.mpr hi,fun j hj=>by
  cases e:k.there j&&(k.pr j).pid==(k.pr i).pid with
  |false=>rfl
  |true=>exact absurd (I.un' (I.ok.pr hi) h j (Nat.lt_trans hj hi) (aE e).1 (eq_of_beq (aE e).2)) (mq hj)⟩
def B.no{Q:QF}(hc:lT cx lv σ e false)(q:wB cx b lv σ Q):wB cx (.ite e a []::b) lv σ Q:=hc _ _ q
def B.yes{Q:QF}(hc:lT cx lv σ e true)(q:wE cx ea lv σ (fun v σ=>Q (.ret v) lv σ) fun x σ=>Q (.exc x) lv σ):wB cx (.ite e [.ret ea] []::b) lv σ Q:=hc _ _ q
def GN(Q:QV)(X:QX):Fl→Lv→St→Prop:=yx .cU [.ret (.c (.str 163))] .noRoom [.ret (.c (.str 119))] (dX (fun lv σ=>wB cx [] lv σ (cW Q X)) (cW Q X))
def RP(h:bk z)(q:∀g,Q (cK z.1) (H z.2 g r)):gu z r (fun v σ=>GN (cx:=cx) Q X (.ret v) lv σ) fun x σ=>GN (cx:=cx) Q X (.exc x) lv σ:=by
 obtain⟨z,k'⟩:=z
 cases z with
 |ok v=>exact q
 |exc x=>
  rcases h x rfl with rfl | rfl
  ·exact fun g=>q g
  ·exact fun g=>⟨rfl,q g⟩
def AH(I:au k)(hi:i<k.n)(hl:bh (k.pr i))(hD:D.good i)(hd:k.ak.length≤900){pid:Int}(e:(k.pr i).pid=pid)(q:∀g,Q (cK (k.act i D).1) (H (k.act i D).2 g r)):ah (d+8) 88 [rf 6 0,.int pid,D.v] (H k g r) Q X:=by
 obtain⟨sl,hs⟩:=I.lX (I.ok.pr hi) hl
 have q:=RP (cx:=ah (d+7)) (X:=X) (lv:=[(39,rf 6 0),(145,.int pid),(51,D.v),(152,rf 10 i),(97,D.v.uW.elim .none fun l=>(l[0]?).getD .none)]) bk.act q
 have hf:k.nL pid=some i:=e▸I.find hi hl.1
 cases D with
 |write m os=>
  exact aZ (jx I.ok.nl hf ⟨rfl,B.yes (fun _ _ h=>h) (RI I hi hs hD.1 hD.2 q)⟩)
 |read m c=>
  exact aZ (jx I.ok.nl hf ⟨rfl,B.no (fun _ _ h=>h) (B.yes (fun _ _ h=>h) (RE I hi hs hD q))⟩)
 |close m=>
  exact aZ (jx I.ok.nl hf ⟨rfl,B.no (fun _ _ h=>h) (B.no (fun _ _ h=>h) (B.yes (fun _ _ h=>h) (RK I hi hs q)))⟩)
 |dup m=>
  exact aZ (jx I.ok.nl hf ⟨rfl,B.no (fun _ _ h=>h) (B.no (fun _ _ h=>h) (B.no (fun _ _ h=>h) (B.yes (fun _ _ h=>h) (RM I hi hs q))))⟩)
 |lu t=>
  exact aZ (jx I.ok.nl hf ⟨rfl,B.no (fun _ _ h=>h) (B.no (fun _ _ h=>h) (B.no (fun _ _ h=>h) (B.no (fun _ _ h=>h) (B.yes (fun _ _ h=>h) (Qs (fj I.ok hi) q)))))⟩)
 |exit s=>
  exact aZ (jx I.ok.nl hf ⟨rfl,B.no (fun _ _ h=>h) (B.no (fun _ _ h=>h) (B.no (fun _ _ h=>h) (B.no (fun _ _ h=>h) (B.no (fun _ _ h=>h) (B.yes (fun _ _ h=>h) (GL I hi hl hD q))))))⟩)
 |pipe=>
  exact aZ (jx I.ok.nl hf ⟨rfl,B.no (fun _ _ h=>h) (B.no (fun _ _ h=>h) (B.no (fun _ _ h=>h) (B.no (fun _ _ h=>h) (B.no (fun _ _ h=>h) (B.no (fun _ _ h=>h) (B.yes (fun _ _ h=>h) (RN I hi hs hd q)))))))⟩)
 |fork=>
  exact aZ (jx I.ok.nl hf ⟨rfl,B.no (fun _ _ h=>h) (B.no (fun _ _ h=>h) (B.no (fun _ _ h=>h) (B.no (fun _ _ h=>h) (B.no (fun _ _ h=>h) (B.no (fun _ _ h=>h) (B.no (fun _ _ h=>h) (B.ret (RO I hi hl q))))))))⟩)
 |wait=>
  exact aZ (jx I.ok.nl hf ⟨rfl,B.no (fun _ _ h=>h) (B.no (fun _ _ h=>h) (B.no (fun _ _ h=>h) (B.no (fun _ _ h=>h) (B.no (fun _ _ h=>h) (B.no (fun _ _ h=>h) (B.no (fun _ _ h=>h) (B.ret (Qt I.ok hi q))))))))⟩)
end
noncomputable def i8(n:Nat):Bool:=Nat.ble 8192 n&&Nat.blt n 12288
def HB (f:QC)(u:QU)(r:St):St:=⟨fun l=>l.casesOn fun n i=>bif i8 n then(f (Nat.sub n 8192) i).map eZ else r.hp ⟨n,i⟩,fun l=>l.casesOn fun n i=>bif i8 n then u (Nat.sub n 8192) i else r.us ⟨n,i⟩⟩
section
def xD(h:4096≤n)(h2:n<8192):f9 n=true:=(g8).mpr ⟨dO h,dO h2⟩
def nP(h:n<4096∨8192≤n):f9 n=false:=iC.mpr fun e=>oq e fun a b=>h.elim (fun h=>absurd (bw a) (Nat.not_le_of_lt h)) fun h=>absurd (bw b) (Nat.not_lt_of_le h)
def xE(h:8192≤n)(h2:n<12288):i8 n=true:=(g8).mpr ⟨dO h,dO h2⟩
def uy(h:n<8192∨12288≤n):i8 n=false:=iC.mpr fun e=>oq e fun a b=>h.elim (fun h=>absurd (bw a) (Nat.not_le_of_lt h)) fun h=>absurd (bw b) (Nat.not_lt_of_le h)
def AI(l:List V):fY (fY l)=l:=aT (aa V.uW (u6 (.tup l)))
def AJ(d:List (α×V)):(d.map fun x=>(x.1,cj x.2)).map (fun x=>(x.1,cj x.2))=d:=by
 rw[gh]
 exact(pM fun x _=>aa (Prod.mk x.1) (u6 x.2)).trans (List.map_id _)
def RQ(c:Cell):eZ (eZ c)=c:=by
 cases c with
 |list l=>exact aa Cell.list (AI l)
 |sd d=>exact aa Cell.sd (AJ d)
 |bI d=>exact aa Cell.bI (AJ d)
 |bB l=>rfl
 |inst d=>exact aa Cell.inst (AJ d)
def GO(o:Option Cell):(o.map eZ).map eZ=o:=by cases o;rfl;exact aa some (RQ _)
def xF(σ:St):eG (eG σ)=σ:=St.ext (fun l=>(aa (fun l=>((σ.hp l).map eZ).map eZ) mF).trans (GO _)) fun l=>aa σ.us mF
def AK:eG (Ho fA uA (HB fB uB r))=Ho fB uB (HB fA uA (eG r)):=by
 refine St.ext (fun l=>?_) fun l=>?_ <;> obtain⟨n,i⟩:=l
 ·refine(?_:((bif f9 (iT n) then fA (Nat.sub (iT n) 4096) i else bif i8 (iT n) then(fB (Nat.sub (iT n) 8192) i).map eZ else r.hp ⟨iT n,i⟩)).map eZ=bif f9 n then fB (Nat.sub n 4096) i else bif i8 n then(fA (Nat.sub n 8192) i).map eZ else(r.hp ⟨iT n,i⟩).map eZ)
  refine zone (C:=fun n m=>((bif f9 m then fA (Nat.sub m 4096) i else bif i8 m then(fB (Nat.sub m 8192) i).map eZ else r.hp ⟨m,i⟩)).map eZ=bif f9 n then fB (Nat.sub n 4096) i else bif i8 n then(fA (Nat.sub n 8192) i).map eZ else(r.hp ⟨m,i⟩).map eZ) (fun n h=>?_) (fun n h h2=>?_) (fun n h h2=>?_) (fun n h=>?_) n
  ·rw[nP (Or.inl h),uy (Or.inl (Nat.lt_trans h (by decide)))];rfl
  ·rw[nP (Or.inr (kq h 4096)),xE (kq h 4096) (Nat.add_lt_add_right h2 4096),xD h h2,show Nat.sub (n+4096) 8192=Nat.sub n 4096 from Nat.add_sub_add_right n 4096 4096]
   exact GO _
  ·rw[xD (yE h) (yF h h2),nP (Or.inr h),xE h h2,show Nat.sub (n - 4096) 4096=Nat.sub n 8192 from Nat.sub_sub n 4096 4096];rfl
  ·rw[nP (Or.inr (aH (by decide) h)),uy (Or.inr h)];rfl
 ·refine zone (C:=fun n m=>(bif f9 m then uA (Nat.sub m 4096) i else bif i8 m then uB (Nat.sub m 8192) i else r.us ⟨m,i⟩)=bif f9 n then uB (Nat.sub n 4096) i else bif i8 n then uA (Nat.sub n 8192) i else r.us ⟨m,i⟩) (fun n h=>?_) (fun n h h2=>?_) (fun n h h2=>?_) (fun n h=>?_) n
  ·rw[nP (Or.inl h),uy (Or.inl (Nat.lt_trans h (by decide)))];rfl
  ·rw[nP (Or.inr (kq h 4096)),xE (kq h 4096) (Nat.add_lt_add_right h2 4096),xD h h2,show Nat.sub (n+4096) 8192=Nat.sub n 4096 from Nat.add_sub_add_right n 4096 4096];rfl
  ·rw[xD (yE h) (yF h h2),nP (Or.inr h),xE h h2,show Nat.sub (n - 4096) 4096=Nat.sub n 8192 from Nat.sub_sub n 4096 4096];rfl
  ·rw[nP (Or.inr (aH (by decide) h)),uy (Or.inr h)];rfl
def RS(h:ah (d+1) g (fY as) (eG σ) (fun v σ=>Q (cj v) (eG σ)) fun x σ=>X x (eG σ)):ah (d+1) g as σ Q X:=by
 rcases h with h | ⟨τ,w,h⟩
 ·exact Or.inr h
 ·rw[AI] at h
  rw[xF] at w
  refine Or.inl ⟨τ,w,?_⟩
  simp only [u6,xF] at h
  exact h
def qC(ea:fY as'=as)(h:ah (d+1) g as (Ho fB uB (HB fA uA (eG r))) (fun v σ=>Q (cj v) (eG σ)) fun x σ=>X x (eG σ)):ah (d+1) g as' (Ho fA uA (HB fB uB r)) Q X:=
 RS (by rw[ea,AK];exact h)
def sj{R:St→Prop}(h:R (Ho fA uA (HB fB uB r))):R (eG (Ho fB uB (HB fA uA (eG r)))):=by rw[AK,xF];exact h
end
structure Bx where
 m:Int
 a:Int
 gs:List Int
structure Bx.ok(x:Bx)(n:Int):Prop where
 m0:0≤x.m
 m1:x.m<2147483543
 a0:0≤x.a
 a1:x.a≤n
 g:x.gs.length≤30
structure Lw where
 bx:Bx
 nd:List (Nm×V)
 ag:List (Int×bQ)
 hd:List (Int×List Nat)
 c:Nat→Nat
 j:Nat→Nat→Option Cell
noncomputable def sr(x:Bx)(nd:List (Nm×V))(ag:List (Int×bQ))(hd:List (Int×List Nat))(k i:Nat)(z:Option Cell):Option Cell:=
 bif Nat.beq k 1 then(bif Nat.beq i 0 then some (.sd [(77,.ref ⟨0,0⟩),(107,.int x.m),(34,.int x.a)]) else z) else
 bif Nat.beq k 0 then(bif Nat.beq i 0 then some (.list (x.gs.map .int)) else z) else
 bif Nat.beq k 65 then(bif Nat.beq i 0 then some (.sd nd) else z) else
 bif Nat.beq k 129 then(bif Nat.beq i 0 then some (.bI (ag.map fun x=>(x.1,x.2.v))) else z) else
 bif Nat.beq k 193 then(bif Nat.beq i 0 then some (.bI (hd.map fun x=>(x.1,.bytes x.2))) else z) else z
noncomputable def jG(L:Lw)(k i:Nat):Option Cell:=sr L.bx L.nd L.ag L.hd k i (L.j k i)
def Lw.cQ(L:Lw)(k i:Nat)(c:Cell):Lw:={L with c:=fun a=>bif Nat.beq a k then Nat.succ i else L.c a,j:=cO L.j k i (some c)}
noncomputable def LH(L:Lw):St:=⟨fun l=>l.casesOn fun k i=>jG L k i,fun l=>l.casesOn fun k i=>Nat.blt i (L.c k)⟩
abbrev Wo(fA:QC)(uA:QU)(fB:QC)(uB:QU)(L:Lw):St:=Ho fA uA (HB fB uB (LH L))
section
variable{L:Lw}
def low{a b c:α}(z:Bool→Nat→Bool)(hz:∀n,Nat.blt n 4096=true→z true n=false)(h:Nat.blt k 4096=true):(bif Loc.beq ⟨n,m⟩ ⟨k,i⟩ then c else bif z true n then a else b)=bif z true n then a else bif Loc.beq ⟨n,m⟩ ⟨k,i⟩ then c else b:=by
 cases e:Loc.beq ⟨n,m⟩ ⟨k,i⟩ with
 |false=>rfl
 |true=>
  have:=B5 e
  injection this with e1 e2
  rw[hz n (e1▸h)];rfl
def uz(h:Nat.blt k 4096=true):f9 k=false:=nP (Or.inl (bw h))
def uC(h:Nat.blt k 4096=true):i8 k=false:=uy (Or.inl (Nat.lt_trans (bw h) (by decide)))
def xG(h:Nat.blt k 4096=true):(Ho f u r).set ⟨k,i⟩ c=Ho f u (r.set ⟨k,i⟩ c):=St.ext (fun l=>by cases l;exact low (fun _ n=>f9 n) (fun _=>uz) h) fun _=>rfl
def AL(h:Nat.blt k 4096=true):(HB f u r).set ⟨k,i⟩ c=HB f u (r.set ⟨k,i⟩ c):=St.ext (fun l=>by cases l;exact low (fun _ n=>i8 n) (fun _=>uC) h) fun _=>rfl
def GP(h:Nat.blt k 4096=true):(Ho f u r).use ⟨k,i⟩=Ho f u (r.use ⟨k,i⟩):=St.ext (fun _=>rfl) fun l=>by cases l;exact rT.trans ((low (fun _ n=>f9 n) (fun _=>uz) h).trans (aa _ rT.symm))
def GQ(h:Nat.blt k 4096=true):(HB f u r).use ⟨k,i⟩=HB f u (r.use ⟨k,i⟩):=St.ext (fun _=>rfl) fun l=>by cases l;exact rT.trans ((low (fun _ n=>i8 n) (fun _=>uC) h).trans (aa _ rT.symm))
def su(h:Nat.blt k 4096=true)(e:∀a y,(a=k→y≠i)→jG L' a y=jG L a y)(e2:jG L' k i=some c)(hc:L'.c=L.c):(Wo fA uA fB uB L).set ⟨k,i⟩ c=Wo fA uA fB uB L':=
 (xG h).trans (aa (Ho fA uA) ((AL h).trans (aa (HB fB uB) (St.ext (fun l=>by cases l;exact iM (f:=jG L) (f':=jG L') e e2 _ _) fun l=>by cases l;exact aa (Nat.blt _) (iG hc _).symm))))
def xH(h:Nat.blt k 4096=true)(e:∀a y,(a=k→y≠L.c k)→jG L' a y=jG L a y)(e2:jG L' k (L.c k)=some c)(hc:∀a,L'.c a=bif Nat.beq a k then Nat.succ (L.c k) else L.c a):(Wo fA uA fB uB L).new ⟨k,L.c k⟩ c=Wo fA uA fB uB L':=by
 refine(aa (St.set · _ c) ((GP h).trans (aa (Ho fA uA) (GQ h)))).trans ((xG h).trans (aa (Ho fA uA) ((AL h).trans (aa (HB fB uB) (St.ext (fun l=>by cases l;exact iM (f:=jG L) (f':=jG L') e e2 _ _) fun l=>?_)))))
 obtain⟨a,y⟩:=l
 refine(?_:(Loc.beq ⟨a,y⟩ ⟨k,L.c k⟩||Nat.blt y (L.c a))=Nat.blt y (L'.c a))
 rw[hc,rT]
 refine iM (f:=fun a y=>Nat.blt y (L.c a)) (f':=fun a y=>Nat.blt y (bif Nat.beq a k then Nat.succ (L.c k) else L.c a)) (o:=k) (x:=L.c k) (fun a y hn=>?_) ?_ a y
 ·by_cases e:a=k
  ·subst e;rw[dh];exact lH.mpr ⟨fun z=>dO ((Nat.lt_succ_iff_lt_or_eq.mp (bw z)).resolve_right (hn rfl)),fun z=>dO (n5 (bw z))⟩
  ·rw[dY e];rfl
 ·refine(aa (Nat.blt _) (dK (dh k))).trans (dO (cL _))
def AM(ht:(⟨k,L.c k⟩:Loc).t=t)(h:Nat.blt k 4096=true)(hz:∀z,sr L.bx L.nd L.ag L.hd k (L.c k) z=z)(q:Q (.ref ⟨k,L.c k⟩) (Wo fA uA fB uB (L.cQ k (L.c k) c))):fu t c (Wo fA uA fB uB L) Q:=
 ⟨⟨k,L.c k⟩,ht,(cR (uz h)).trans ((cR (uC h)).trans uw),aL (Q (.ref ⟨k,L.c k⟩)) (xH (L':=L.cQ k (L.c k) c) h (fun a y hn=>aa (sr L.bx L.nd L.ag L.hd a y) (cV hn)) ((hz _).trans iy) fun _=>rfl).symm q⟩
def xJ(h:Nat.blt k 4096=true)(hz:∀z,sr L.bx L.nd L.ag L.hd k i z=z):(Wo fA uA fB uB (L.cQ k i c)).hp ⟨k,i⟩=some c:=(cR (uz h)).trans ((cR (uC h)).trans ((hz _).trans iy))
def GR(h:Nat.blt k 4096=true)(hz:∀z,sr L.bx L.nd L.ag L.hd k i z=z):(Wo fA uA fB uB (L.cQ k i c)).set ⟨k,i⟩ c'=Wo fA uA fB uB (L.cQ k i c'):=
 su (L:=L.cQ k i c) (L':=L.cQ k i c') h (fun a y hn=>aa (sr L.bx L.nd L.ag L.hd a y) ((cV hn).trans (cV hn).symm)) ((hz _).trans iy) rfl
def GS:(Wo fA uA fB uB L).set ⟨1,0⟩ (.sd [(77,.ref ⟨0,0⟩),(107,.int m),(34,.int a)])=Wo fA uA fB uB {L with bx:={L.bx with m:=m,a:=a}}:=
 su rfl (fun a y hn=>kind (fun e=>jy (hn e)) rfl) rfl rfl
def setG:(Wo fA uA fB uB L).set ⟨0,0⟩ (.list (gs.map .int))=Wo fA uA fB uB {L with bx:={L.bx with gs:=gs}}:=
 su rfl (fun a y hn=>kind (fun e=>rfl) (kind (fun e=>jy (hn e)) rfl)) rfl rfl
def xK:(Wo fA uA fB uB L).set ⟨65,0⟩ (.sd nd)=Wo fA uA fB uB {L with nd:=nd}:=
 su rfl (fun a y hn=>kind (fun e=>rfl) (kind (fun e=>rfl) (kind (fun e=>jy (hn e)) rfl))) rfl rfl
def AN:(Wo fA uA fB uB L).set ⟨129,0⟩ (.bI (ag.map fun x=>(x.1,x.2.v)))=Wo fA uA fB uB {L with ag:=ag}:=
 su rfl (fun a y hn=>kind (fun e=>rfl) (kind (fun e=>rfl) (kind (fun e=>rfl) (kind (fun e=>jy (hn e)) rfl)))) rfl rfl
def GU{hd:List (Int×List Nat)}:(Wo fA uA fB uB L).set ⟨193,0⟩ (.bI (hd.map fun x=>(x.1,.bytes x.2)))=Wo fA uA fB uB {L with hd:=hd}:=
 su rfl (fun a y hn=>kind (fun e=>rfl) (kind (fun e=>rfl) (kind (fun e=>rfl) (kind (fun e=>rfl) (kind (fun e=>jy (hn e)) rfl))))) rfl rfl
end
section
variable{xs:List Int}{a:Int}
def RT{S:List Int→St}{cz:List Int→Bool}{Q:QF}(hc:∀xs (K:QB),K (cz xs) (S xs)→cd lv (S xs) K)(hz:∀xs,cz xs=true→xs≠[])(step:∀xs,cz xs=true→∀k:QL,k lv (S xs.dropLast)→bd lv (S xs) (iI k Q)):
  ∀{t:Nat} {xs:List Int},xs.length<t→(∀ys,ys.length≤xs.length→Q .next lv (S ys))→sZ cd bd t lv (S xs) Q:=fun{t}=>by
 induction t with
 |zero=>exact fun h=>absurd h (Nat.not_lt_zero _)
 |succ t ih=>
  refine fun{xs} h q=>hc xs _ ?_
  cases e:cz xs with
  |false=>exact q xs (cL _)
  |true=>
   have hl:xs.dropLast.length<xs.length:=by rw[List.length_dropLast];exact Nat.sub_lt (List.length_pos_iff.mpr (hz xs e)) Nat.one_pos
   exact step xs e _ (ih (je hl (Nat.le_of_lt_succ h)) fun ys hy=>q ys (eL (fU hy hl)))
def B.pop{c:E}{b r:List Mine.Internal.S}{S:List Int→St}{cz:List Int→Bool}{Q:QF}(hc:∀xs,lT cx lv (S xs) c (cz xs))(hz:∀xs,cz xs=true→xs≠[])(step:∀xs,cz xs=true→∀k:QL,k lv (S xs.dropLast)→wB cx b lv (S xs) (iI k (dX (fun lv σ=>wB cx r lv σ Q) Q)))(hl:xs.length<gG)(fin:∀ys,ys.length≤xs.length→wB cx r lv (S ys) Q):wB cx (.lJ c b::r) lv (S xs) Q:=
 RT (fun xs K h=>hc xs K bV h) hz step hl fin
def lY{b b2:Bool}{K:QB}(h1:∀(K:QB) (X:QX),K b σ'→wC cx x lv σ K X)(h2:b=true→∀(K:QB) (X:QX),K b2 σ'→wCs cx true es lv σ' K X)(h:K (b&&b2) σ'):wCs cx true (x::es) lv σ K X:=h1 _ _ (by
 cases b with
 |false=>exact h
 |true=>exact h2 rfl _ _ h)
def B.eT{b:List Mine.Internal.S}{Q:QF}(q:wE cx e lv σ (fun v σ=>wB cx b (aB lv x v) σ Q) fun x σ=>Q (.exc x) lv σ):wB cx (.asg (.v x) e::b) lv σ Q:=q
def GV(e:σ.lst l=some (xs.map h)):eN σ .ne (.ref l) (.fl [])=some (!xs.isEmpty):=by
 refine(show _=((σ.lst l).bind fun x=>if x.length=0 then all2 (cC 8 σ) x [] else some false).map (!·) from rfl).trans ?_
 rw[e]
 cases xs <;> rfl
def RU(e:σ.hp l=some (.list (xs.map .int)))(h:xs.getLast?=some a):fy σ (.ref l) (.int (-1))=some (.int a):=by
 refine(xC e).trans ((?_:(place (xs.map V.int).length (-1)).bind _=_))
 obtain⟨ys,rfl⟩:=List.getLast?_eq_some_iff.mp h
 rw[show((ys++[a]).map V.int).length=ys.length+1 by rw[bJ,cG];rfl,show place (ys.length+1) (-1)=some ys.length from(if_neg (by decide)).trans ((if_pos (by lia)).trans (aa some (by lia)))]
 refine(?_:((ys++[a]).map V.int)[ys.length]?=_)
 rw[fV,List.getElem?_append_right (cL _),Nat.sub_self];rfl
def GW(e:σ.hp l=some (.list (xs.map .int)))(ht:l.t=0)(h:xs.getLast?=some a):iH σ l 151 []=some (.int a,σ.set l (.list (xs.dropLast.map .int))):=by
 unfold iH
 rw[e,ht]
 refine(?_:(((xs.map V.int).getLast?.map fun v=>(v,Cell.list (xs.map V.int).dropLast)).map fun q=>(q.1,σ.set l q.2))=_)
 rw[List.getLast?_map,h,List.map_dropLast];rfl
def sy(hp:σ.hp l=some c)(ht:cls? l.t=none)(hb:(Nat.beq c.tag l.t&&c.has m)=true):oh σ (.ref l) m=some (l,none):=by
 refine(?_:(σ.hp l).bind _=_)
 rw[hp,ht]
 exact dK hb
def GX(h:b≠0):jO .fdiv (.int a) (.int b)=some (.int (a.fdiv b)):=if_pos h
def qD(h:1≤many):0≤a.fmod many∧a.fmod many<many:=⟨Int.fmod_nonneg_of_pos _ h,Int.fmod_lt_of_pos _ h⟩
def B.AO{o i e:E}{u w v b z:V}{r:List Mine.Internal.S}{Q:QF}(ho:Is cx lv σ o u)(hi:Is cx lv σ i w)(hg:fy σ u w=some v)(he:Is cx lv σ e b)(hz:pU p v b=some z)(hs:Mine.Internal.fQ σ u w z=some σ')(q:wB cx r lv σ' Q):wB cx (.aug (.ix o i) p e::r) lv σ Q:=ho _ _ (hi _ _ (aq hg (he _ _ (aq hz (aq hs q)))))
def RW(h:0≤b∧b≤1000∧a.natAbs<2 ^ 64):jO .pow (.int a) (.int b)=some (.int (a ^ b.toNat)):=if_pos h
def RX(h0:0≤m)(h1:m<2147483543)(h2:0≤a)(h3:a≤1000000):(m+7919 * a).natAbs<2 ^ 64:=jK.mp (by rw[Int.natAbs_of_nonneg (Int.add_nonneg h0 (Int.mul_nonneg (by decide) h2))];exact Int.lt_of_lt_of_le (Int.add_lt_add_of_lt_of_le h1 (Int.mul_le_mul_of_nonneg_left h3 (by decide))) (by decide))
def ly{n:Int}(ok:L.bx.ok n)(hn:n+1≤1000000)(h1:1≤many)(q:∀x' t,x'.ok (n+1)→0≤t→t<many→Q (.int t) (Wo fA uA fB uB {L with bx:=x'})):ah (d+1) 86 [.ref ⟨1,0⟩,.int many] (Wo fA uA fB uB L) Q X:=by
 have h0:many≠0:=fun e=>by rw[e] at h1;exact absurd h1 (by decide)
 refine aZ (B.pop (S:=fun xs=>Wo fA uA fB uB {L with bx:={L.bx with gs:=xs}}) (xs:=L.bx.gs) (cz:=fun xs => !xs.isEmpty&&xs.getLast?==some 0) (fun xs K X h=>lY (b2:=xs.getLast?==some 0) (fun K X h=>aq (GV (xs:=xs) (h:=V.int) rfl) h) (fun z K X h=>gr (b:=xs.getLast?==some 0) (fun K X h=>?_) h) h) (fun xs h e=>by rw[e] at h;exact ft h) (fun xs h k q=>?_) (fU (aH ok.g (by decide)) (Fv (cL _))) fun ys hl=>?_)
 ·cases e:xs.getLast? with
  |none=>rw[List.getLast?_eq_none_iff.mp e] at z;exact ft z
  |some a=>exact aq (RU (xs:=xs) rfl e) (aL (fun o=>K (o==some 0) _) e h)
 ·have hx:xs≠[]:=fun e=>by rw[e] at h;exact ft h
  obtain⟨a,e⟩:∃a,_=some a:=⟨_,List.getLast?_eq_some_getLast hx⟩
  exact aq (GW (xs:=xs) rfl rfl e) (aL (fun σ=>k _ σ) setG.symm q)
 ·have hl:=aH hl ok.g
  refine B.ite (t := !ys.isEmpty) (fun K X h=>aq (GV (xs:=ys) (h:=V.int) rfl) h) (fun z=>?_) fun z=>?_
  ·have hx:ys≠[]:=fun e=>by rw[e] at z;exact ft z
   obtain⟨a,e⟩:∃a,_=some a:=⟨_,List.getLast?_eq_some_getLast hx⟩
   have hd:ys.dropLast.length+1≤30:=by rw[List.length_dropLast,Nat.sub_add_cancel (List.length_pos_iff.mpr hx)];exact hl
   refine B.eT (aq (GW (xs:=ys) rfl rfl e) (aL (fun σ=>wB _ [_,_] _ σ _) setG.symm ?_))
   refine B.ju (aq (GX h0) (aq (r9 (xs:=ys.dropLast.map V.int) rfl rfl (by rw[bJ];exact small (aH (Nat.le_of_succ_le hd) (by decide)))) (aL (fun σ=>wB _ [_] _ σ _) (?_:Wo fA uA fB uB {L with bx:={L.bx with gs:=ys.dropLast++[a.fdiv many]}}=_) ?_)))
   ·rw[show ys.dropLast.map V.int++[V.int (a.fdiv many)]=(ys.dropLast++[a.fdiv many]).map V.int from(ia (f:=V.int) (l₁:=ys.dropLast) (l₂:=[a.fdiv many])).symm];exact(setG (L:={L with bx:={L.bx with gs:=ys.dropLast}})).symm
   ·exact aq (nN h0) (q _ _ ⟨ok.m0,ok.m1,ok.a0,fW ok.a1 (sN (by decide)),by rw[cG];exact hd⟩ (qD h1).1 (qD h1).2)
  ·have a1:=fW (Int.add_le_add_right ok.a1 1) hn
   have a0:=fW ok.a0 (sN (b:=1) (by decide))
   refine B.seq (B.AO (b := .int 1) (fun _ _ h=>h) (fun _ _ h=>h) rfl (fun _ _ h=>h) rfl (aa some (GS (L:={L with bx:={L.bx with gs:=ys}}) (m:=L.bx.m) (a:=L.bx.a+1))) ?_)
   exact(aq (RW ⟨by decide,by decide,RX ok.m0 ok.m1 a0 a1⟩) (aq (nN (by decide)) (aq (GX (by decide)) (aq (o:=aF _ 106) rfl (aq (nN h0) (q {L.bx with a:=L.bx.a+1,gs:=ys} _ ⟨ok.m0,ok.m1,a0,Int.add_le_add_right ok.a1 1,hl⟩ (qD h1).1 (qD h1).2))))))
end
noncomputable def GY(l k fr:Int):List (Nm×V):=[(214,.int 0),(100,.int l),(97,.int k),(72,.int fr)]
def GZ(d0:List (Nm×V))(l k fr:Int):List (Nm×V):=(GY l k fr).foldl (fun d x=>aB d x.1 x.2) d0
section
def RY(h1:σ.hp l=some (.sd d1))(h2:σ.hp m=some (.sd d2))(ht:l.t=1)(hm:Loc.beq m l=false)(hl:d1.length+d2.length≤bz):iH σ l 210 [.ref m]=some (.none,σ.set l (.sd (d2.foldl (fun d x=>aB d x.1 x.2) d1))):=by
 unfold iH
 rw[h1,ht]
 refine(?_:(((σ.hp m).bind Cell.yp).bind fun e=>on (Loc.beq m l=false∧d1.length+e.length≤bz) (V.none,Cell.sd (e.foldl (fun d x=>aB d x.1 x.2) d1))).map (fun q=>(q.1,σ.set l q.2))=_)
 rw[h2]
 exact aa (Option.map _) (if_pos ⟨hm,hl⟩)
def G3(ok:L.bx.ok n)(hn:n+3≤1000000)(hl:L.nd.length≤9)(q:∀x' l k fr c j,x'.ok (n+3)→0≤l→l<3→0≤k→k<4→bC≤fr→Q .none (Wo fA uA fB uB {L with bx:=x',nd:=GZ L.nd l k fr,c:=c,j:=j})):ah (d+2) 92 [.ref ⟨1,0⟩,.ref ⟨65,0⟩,.int bC] (Wo fA uA fB uB L) Q X:=by
 refine aZ (ly ok (by lia) (by decide) fun x1 t1 gO a1 b1=>ly (n:=n+1) gO (by lia) (by decide) fun x2 t2 gU a2 b2=>ly (n:=n+1+1) gU (by lia) (by decide) fun x3 t3 rR a3 b3=>⟨rfl,?_⟩)
 refine AM (L:={L with bx:=x3}) (k:=257) (t:=1) (c := .sd (GY t1 t2 (bC+t3))) rfl rfl (fun _=>rfl) (aq (RY (l:=⟨65,0⟩) (d1:=L.nd) rfl (xJ rfl fun _=>rfl) rfl rfl (aH (kq hl 4) (by decide))) (aL (fun σ=>Q .none σ) (xK (L:=Lw.cQ {L with bx:=x3} 257 (L.c 257) _)).symm (q x3 t1 t2 (bC+t3) _ _ (by rw[show n+3=n+1+1+1 by lia];exact rR) a1 b1 a2 b2 (sN a3))))
end
noncomputable def cB:Nat→Nat:=fun a=>bif Nat.beq a 1 then 1 else bif Nat.beq a 0 then 1 else 0
section
variable{xs:List Int}{hd:List (Int×List Nat)}
def RZ(h:a.natAbs<2 ^ 64∨b.natAbs<2 ^ 64):jO .mul (.int a) (.int b)=some (.int (a * b)):=if_pos h
def R0(q:Q (.ref ⟨0,0⟩) (Wo fA uA fB uB ⟨{b0 with gs:=[]},nd,ag,hd,fun a=>bif Nat.beq a 0 then 1 else 0,j⟩)):fu 0 (.list []) (Wo fA uA fB uB ⟨b0,nd,ag,hd,fun _=>0,j⟩) Q:=
 ⟨⟨0,0⟩,rfl,rfl,aL (Q (.ref ⟨0,0⟩)) (xH (L:=⟨b0,nd,ag,hd,fun _=>0,j⟩) (L':=⟨{b0 with gs:=[]},nd,ag,hd,fun a=>bif Nat.beq a 0 then 1 else 0,j⟩) (k:=0) rfl (fun a y hn=>kind (fun e=>rfl) (kind (fun e=>jy (hn e)) rfl)) rfl fun _=>rfl).symm q⟩
def new1(q:Q (.ref ⟨1,0⟩) (Wo fA uA fB uB ⟨{b0 with m:=m,a:=a},nd,ag,hd,cB,j⟩)):fu 1 (.sd [(77,.ref ⟨0,0⟩),(107,.int m),(34,.int a)]) (Wo fA uA fB uB ⟨b0,nd,ag,hd,fun a=>bif Nat.beq a 0 then 1 else 0,j⟩) Q:=
 ⟨⟨1,0⟩,rfl,rfl,aL (Q (.ref ⟨1,0⟩)) (xH (L:=⟨b0,nd,ag,hd,fun a=>bif Nat.beq a 0 then 1 else 0,j⟩) (L':=⟨{b0 with m:=m,a:=a},nd,ag,hd,cB,j⟩) (k:=1) rfl (fun a y hn=>kind (fun e=>jy (hn e)) rfl) rfl fun _=>rfl).symm q⟩
def B.box{b:List S}{Q:QF}(q:wB cx b (aB lv 38 (.ref ⟨1,0⟩)) (Wo fA uA fB uB ⟨⟨17,0,[]⟩,nd,ag,hd,cB,j⟩) Q):wB cx (.asg (.v 38) (.dct [77,107,34] [.lst false [],.c (.int 17),.c (.int 0)])::b) lv (Wo fA uA fB uB ⟨b0,nd,ag,hd,fun _=>0,j⟩) Q:=
 R0 (Q:=fun v σ=>yv [77,107,34] [v,.int 17,.int 0] σ fun v σ=>wB cx b (aB lv 38 v) σ Q) ⟨rfl,new1 (Q:=fun v σ=>wB cx b (aB lv 38 v) σ Q) q⟩
def R1(q:∀x,x.ok 0→Q (.ref ⟨1,0⟩) (Wo fA uA fB uB ⟨x,nd,ag,hd,cB,j⟩)):ah (d+1) 85 [.fl (xs.map .int)] (Wo fA uA fB uB ⟨b0,nd,ag,hd,fun _=>0,j⟩) Q X:=by
 have hl:(xs.take (clip (xs.map V.int).length 30)).length≤30:=aH (List.length_take_le _ _) (by unfold clip PySem.clipAt;rw[if_neg (by decide)];exact Int.toNat_le.mpr (Int.max_le.mpr ⟨by decide,Int.min_le_left ..⟩))
 refine aZ (B.box (B.wG (vs:=xs.take (clip (xs.map V.int).length 30)) (h:=V.int) (s0:=(⟨17,0,[]⟩:Bx)) (fun _=>[(171,.fl (xs.map .int)),(38,.ref ⟨1,0⟩)]) (fun m x=>Wo fA uA fB uB ⟨x,nd,ag,hd,cB,j⟩) (fun m x=>x.ok 0∧x.gs.length≤m) (fun K X h=>aL (fun l=>K (.items l) _) (List.map_take (f:=V.int) (l:=xs)) h) rfl (turns rfl (aH hl (by decide))) (fun s=>ff (h:=V.int) (fun _=>rfl) fun _ _=>rfl) (fun m a x e J f hf=>?_) (fun x o J=>?_) ⟨⟨by decide,by decide,by decide,by decide,by decide⟩,fG _⟩))
 ·have hm:=je (bM.mp e).1 hl
  refine B.ite (t:=decide ((10:Int) ^ 18≤a)) (fun K X h=>h) (fun z=>?_) fun z=>?_
  ·refine B.ju (aq (r9 (v:=V.int ((a - 10 ^ 18).fmod (10 ^ 160))) (xs:=x.gs.map V.int) rfl rfl (by rw[bJ];exact small (aH J.2 (aH (eL hm) (by decide))))) (aL (fun σ=>f _ σ) ((setG (L:=⟨x,nd,ag,hd,cB,j⟩) (gs:=x.gs++[(a - 10 ^ 18).fmod (10 ^ 160)])).symm.trans (aa (fun l=>St.set _ _ (.list l)) ia)) (hf {x with gs:=x.gs++[(a - 10 ^ 18).fmod (10 ^ 160)]} ⟨⟨J.1.m0,J.1.m1,J.1.a0,J.1.a1,?_⟩,?_⟩)))
   ·rw[cG];exact fU J.2 hm
   ·rw[cG];exact lF J.2
  ·exact B.fQ (v := .int ((x.m * 30011+a).fmod 2147483543)) (w := .str 107) (fun K X h=>aq (RZ (Or.inr (by decide))) (aq (o:=aF _ 40) rfl (aq (o:=jO .add (.int (x.m * 30011)) (.int a)) rfl (aq (nN (by decide)) h)))) (fun _ _ h=>h) (fun _ _ h=>h) (aa some (GS (L:=⟨x,nd,ag,hd,cB,j⟩) (m:=(x.m * 30011+a).fmod 2147483543) (a:=x.a))) (hf {x with m:=(x.m * 30011+a).fmod 2147483543} ⟨⟨(qD (by decide)).1,(qD (by decide)).2,J.1.a0,J.1.a1,J.1.g⟩,g9 J.2⟩)
 ·cases o <;> exact q x J.1
end
section
variable{σ:St}{Q:QV}
def o7(ho:Nat.blt o 4096=true)(h:f o x=some c):(Ho f u r).set (lb o x) c=Ho f u r:=(kO ho).trans (qn (iM (fun _ _ _=>rfl) h) fun _ _=>rfl)
def made(ho:Nat.blt o 4096=true)(h:f o x=some c):((Ho f u r).use (lb o x)).set (lb o x) c=Ho f (cO u o x true) r:=(aa (St.set · _ c) (lS ho)).trans (o7 ho h)
abbrev gv(rg:Nat→Nat)(i n:Nat):List (Nm×V):=(bY (fun _=>0) rg i Pr.nil).take n
def R2(hu:σ.us (lb 0 (vx rg i))=false)(q:Q .none (((σ.use (lb 0 (vx rg i))).set (lb 0 (vx rg i)) (.list zeros)).set (lb 10 i) (.inst (bY (fun _=>0) rg i Pr.nil)))):ah (d+1) 61 [rf 10 i] (σ.set (lb 10 i) (.inst (gv rg i 1))) Q X:=by
 refine aZ (B.setC (fs':=gv rg i 2) rfl rfl (fun _ _ h=>h) rfl (B.setC (fs':=gv rg i 3) rfl rfl (fun _ _ h=>h) rfl (B.setC (fs':=gv rg i 4) rfl rfl (fun _ _ h=>h) rfl (B.setC (fs':=gv rg i 5) rfl rfl (fun _ _ h=>h) rfl
  (B.setC (fs:=gv rg i 5) (fs':=gv rg i 6) rfl rfl (fun K X h=>F9 (x:=vx rg i) (qy rfl) hu h) rfl ?_)))))
 refine B.setC (fs':=gv rg i 7) rfl rfl (fun _ _ h=>h) rfl (B.setC (fs':=gv rg i 8) rfl rfl (fun _ _ h=>h) rfl (B.setC (fs':=gv rg i 9) rfl rfl (fun _ _ h=>h) rfl (B.setC (fs':=gv rg i 10) rfl rfl (fun _ _ h=>h) rfl (B.setC (fs':=gv rg i 11) rfl rfl (fun _ _ h=>h) rfl (B.setC (fs':=gv rg i 12) rfl rfl (fun _ _ h=>h) rfl ?_)))))
 refine B.setC (fs':=gv rg i 13) rfl rfl (fun _ _ h=>h) rfl (B.setC (fs':=gv rg i 14) rfl rfl (fun _ _ h=>h) rfl (B.setC (fs':=gv rg i 15) rfl rfl (fun _ _ h=>h) rfl (B.setC (fs':=gv rg i 16) rfl rfl (fun _ _ h=>h) rfl (B.setC (fs':=gv rg i 17) rfl rfl (fun _ _ h=>h) rfl (B.setC (fs':=gv rg i 18) rfl rfl (fun _ _ h=>h) rfl (B.setC (fs':=bY (fun _=>0) rg i Pr.nil) rfl rfl (fun _ _ h=>h) rfl q))))))
def qE(h:Nat.blt o 4096=true):(Ho f u r).us (lb o x)=u o x:=(dK (wj h)).trans (aa (u · x) (Nat.add_sub_cancel_left ..))
def R3:oh (σ.set (lb 10 i) (.inst fs)) (rf 10 i) 45=some (lb 10 i,some 61):=by
 refine(?_:((σ.set (lb 10 i) (.inst fs)).hp (lb 10 i)).bind _=_)
 rw[St.jS];rfl
def R4(h:f 10 i=some (.inst (bY (fun _=>0) rg i Pr.nil)))(hz:f 0 (vx rg i)=some (.list zeros))(hu:u 10 i=false)(zR:u 0 (vx rg i)=false)(q:Q (rf 10 i) (Ho f (cO (cO u 10 i true) 0 (vx rg i) true) r)):jP (ah (d+2)) 7 [.int i] (Ho f u r) Q X:=by
 refine⟨lb 10 i,rfl,(qE rfl).trans hu,aZ (B.setC (fs':=gv rg i 1) (σ:=(Ho f u r).use (lb 10 i)) rfl rfl (fun _ _ h=>h) rfl (B.ju (aq R3 (R2 ((qE (f:=f) (r:=r) rfl).trans zR) ⟨rfl,?_⟩))))⟩
 refine aL (Q (rf 10 i)) ?_ q
 rw[lS rfl,lS rfl,o7 rfl hz,o7 rfl h]
end
def uN (u:QU):Nat→Nat→Nat→Bool
 |0=>u
 |n+1=>cO (cO (uN u n) 10 n true) 0 n true
noncomputable def dw(N:Nat)(aG br:Int)(slots:Nat):Kn:=⟨N,aG,br,slots,List.replicate N Pr.nil,1,none,[],[],[],0,[],0⟩
section
variable{σ:St}{Q:QV}
def G4(J:Nat→List V→Lv→St→Prop)(hi:∀(K:QS) (X:QX),K (src 0) σ'→wI cx it lv σ K X)(hz:vs.length<gG)(hs:∀m ys lv σ,J m ys lv σ→Nx src vs h m σ)
  (step:∀m a ys lv σ,vs[m]?=some a→J m ys lv σ→∀k:List V→Lv→St→Prop,(∀ys lv σ,J (m+1) ys lv σ→k ys lv σ)→wA cx t (h a) lv σ fun lv σ=>wCs cx true cs lv σ (fun b σ=>bif b then wE cx elt lv σ (fun y σ=>k (ys++[y]) lv σ) bV else k ys lv σ) bV) (fin:∀ys lv σ,J vs.length ys lv σ→newL z ys σ Q) (q:J 0 [] (dQ t.names lv) σ'):wE cx (.comp z elt t it cs sc) lv σ Q X:=
 hi _ _ (Fb (Q:=fun ys σ=>newL z ys σ Q) (ys:=[]) J hs step fin (fG _) hz q)
def xM{vs:List α}(J:Nat→List V→St→Prop)(hi:∀(K:QS) (X:QX),K (.items (vs.map h)) σ'→wI cx it lv σ K X)(hz:vs.length<gG)(hl:dQ [x] lv=l)(hL:∀o v,aB (Lo l x h o) x (h v)=Lo l x h (some v))
  (step:∀m a ys σ,vs[m]?=some a→J m ys σ→∀k:QA,(∀ys σ,J (m+1) ys σ→k ys σ)→wE cx elt (l++[(x,h a)]) σ (fun y σ=>k (ys++[y]) σ) bV) (fin:∀ys σ,J vs.length ys σ→newL z ys σ Q) (q:J 0 [] σ'):wE cx (.comp z elt (.v x) it [] sc) lv σ Q X:=
 G4 (t := .v x) (src:=jw vs h) (fun m ys lv σ=>(∃o,lv=Lo l x h o)∧J m ys σ) hi hz (fun _ _ _ _ _=>kQ) (fun m a ys lv σ e j k hk=>by
  obtain⟨⟨o,rfl⟩,j⟩:=j
  exact(aa (fun lv=>wE cx elt lv σ (fun y σ=>k (ys++[y]) lv σ) bV) (hL o a)).mpr (step m a ys σ e j (fun ys σ=>k ys (Lo l x h (some a)) σ) fun ys σ j=>hk _ _ _ ⟨⟨some a,rfl⟩,j⟩)) (fun ys lv σ j=>fin ys σ j.2) ⟨⟨none,hl.trans (fP _).symm⟩,q⟩
def G5:∀{n:Nat},n≤i→uN u n 10 i=u 10 i∧uN u n 0 i=u 0 i:=fun{n}=>by
 induction n with
 |zero=>exact fun _=>⟨rfl,rfl⟩
 |succ n ih=>
  intro h
  have ih:=ih (Nat.le_of_succ_le h)
  have e:i≠n:=(mq h).symm
  exact⟨(cV fun e=>absurd e (by decide)).trans ((cV fun _=>e).trans ih.1),(cV fun _=>e).trans ((cV fun e=>absurd e (by decide)).trans ih.2)⟩
def R5(hN:N≤99)(hf:∀i,f 10 i=some (.inst (bY (fun _=>0) (fun _=>0) i Pr.nil)))(hz:∀i,f 0 i=some (.list zeros))(hu:∀i,i<N→u 10 i=false∧u 0 i=false)(q:Q .none ((Ho f (uN u N) r).set (lb 11 0) (.inst (wg (dw N aG br o))))):ah (d+3) 66 [rf 11 0,.int N] ((Ho f u r).set (lb 11 0) (.inst [])) Q X:=by
 have e:∀u,(Ho f u r).set (lb 11 0) (.inst [])=Ho (cO f 11 0 (some (.inst []))) u r:=fun u=>kO rfl
 refine aZ (B.setC (v := .fl ((List.range N).map fun i=>rf 10 i)) (σ:=Ho f (uN u N) r) (fs:=[]) rfl rfl (fun K X h=>?_) rfl (B.setC rfl rfl (fun _ _ h=>h) rfl (B.setC (v := .int ((N:Int) - 1)) rfl rfl (fun _ _ h=>h) rfl (B.setC rfl rfl (fun _ _ h=>h) rfl (B.setC rfl rfl (fun _ _ h=>h) rfl q)))))
 rw[e] at h ⊢
 refine xM (z:=true) (sc:=[]) (vs:=List.range N) (h:=fun i:Nat=>V.int i) (fun m ys σ=>ys=(List.range m).map (fun i=>rf 10 i)∧σ=Ho (cO f 11 0 (some (.inst []))) (uN u m) r) (fun K X h=>aq (mV (aH hN (by decide))) h) (turns dF (aH hN (by decide))) rfl (ff (fun _=>rfl) fun _ _=>rfl) (fun m a ys σ he J k hk=>?_) (fun ys σ J=>?_) ⟨rfl,rfl⟩
 ·obtain⟨rfl,rfl⟩:=J
  obtain⟨rfl,hm⟩:=r8 he
  have q:=hk ((List.range a).map (fun i=>rf 10 i)++[rf 10 a]) (Ho (cO f 11 0 (some (.inst []))) (uN u (a+1)) r) ⟨by rw[List.range_succ,ia];rfl,rfl⟩
  have p:jP (ah (d+2)) 7 [.int a] (Ho (cO f 11 0 (some (.inst []))) (uN u a) r) (fun y σ=>k ((List.range a).map (fun i=>rf 10 i)++[y]) σ) bV:=R4 (rg:=fun _=>0) (hf a) (hz a) ((G5 (cL a)).1.trans (hu a hm).1) ((G5 (cL a)).2.trans (hu a hm).2) q
  exact p
 ·obtain⟨rfl,rfl⟩:=J
  rw[dF];exact h
def R6(hu:σ.us (lb 1 0)=false)(q:Q .none (((σ.use (lb 1 0)).set (lb 1 0) (.bI [])).set (lb 4 0) (.inst [(176,.int aG),(103,.int 0),(148,rf 1 0)]))):ah (d+1) 8 [rf 4 0,.int aG] (σ.set (lb 4 0) (.inst [])) Q X:=
 aZ (B.setC rfl rfl (fun _ _ h=>h) rfl (B.setC rfl rfl (fun _ _ h=>h) rfl (B.setC (v:=rf 1 0) (σ:=(σ.use (lb 1 0)).set (lb 1 0) (.bI [])) (fs:=[(176,.int aG),(103,.int 0)]) rfl rfl (fun K X h=>⟨lb 1 0,rfl,hu,aL (K (rf 1 0)) (r7 (qy rfl)).symm h⟩) rfl q)))
def R7(hm:1≤br)(hu:σ.us (lb 128 0)=false)(q:Q .none (((σ.use (lb 128 0)).set (lb 128 0) (.list [])).set (lb 8 0) (.inst [(108,.int br),(148,rf 4 0),(123,.none),(90,.none),(55,rf 65 0),(37,.int 16),(133,rf 128 0)]))):ah (d+1) 36 [rf 8 0,.int br,rf 4 0,.none,.none,rf 65 0,.int 16] (σ.set (lb 8 0) (.inst [])) Q X:=
 aZ (B.ite (t:=decide (br<1)||false) (fun K X h=>qp (b2:=false) (fun _ _ h=>h) (fun _ _ h=>h) h) (fun z=>absurd (iD ((Bool.or_false _).symm.trans z)) (jj.mpr hm)) fun _=>B.setC rfl rfl (fun _ _ h=>h) rfl (B.setC rfl rfl (fun _ _ h=>h) rfl (B.setC rfl rfl (fun _ _ h=>h) rfl (B.setC rfl rfl (fun _ _ h=>h) rfl (B.setC rfl rfl (fun _ _ h=>h) rfl (B.setC rfl rfl (fun _ _ h=>h) rfl
  (B.setC (v:=rf 128 0) (σ:=(σ.use (lb 128 0)).set (lb 128 0) (.list [])) (fs:=[(108,.int br),(148,rf 4 0),(123,.none),(90,.none),(55,rf 65 0),(37,.int 16)]) rfl rfl (fun K X h=>⟨lb 128 0,rfl,hu,aL (K (rf 128 0)) (r7 (qy rfl)).symm h⟩) rfl q)))))))
def R8(hu:σ.us (lb 129 0)=false)(q:Q .none (((σ.use (lb 129 0)).set (lb 129 0) (.bI [])).set (lb 5 0) (.inst [(186,rf 11 0),(64,rf 8 0),(123,.none),(143,.none),(90,.none),(55,rf 129 0),(191,.int 0)]))):ah (d+1) 13 [rf 5 0,rf 11 0,rf 8 0] (σ.set (lb 5 0) (.inst [])) Q X:=
 aZ (B.setC rfl rfl (fun _ _ h=>h) rfl (B.setC rfl rfl (fun _ _ h=>h) rfl (B.setC rfl rfl (fun _ _ h=>h) rfl (B.setC rfl rfl (fun _ _ h=>h) rfl (B.setC rfl rfl (fun _ _ h=>h) rfl
  (B.setC (v:=rf 129 0) (σ:=(σ.use (lb 129 0)).set (lb 129 0) (.bI [])) (fs:=[(186,rf 11 0),(64,rf 8 0),(123,.none),(143,.none),(90,.none)]) rfl rfl (fun K X h=>⟨lb 129 0,rfl,hu,aL (K (rf 129 0)) (r7 (qy rfl)).symm h⟩) rfl (B.setC rfl rfl (fun _ _ h=>h) rfl q)))))))
def R9(q:Q .none (σ.set (lb 6 0) (.inst [(94,rf 5 0)]))):ah (d+1) 14 [rf 6 0,rf 5 0] (σ.set (lb 6 0) (.inst [])) Q X:=aZ (B.setC rfl rfl (fun _ _ h=>h) rfl q)
end
noncomputable def uD(slots:Nat):Pr:=⟨1,161,none,some (List.replicate slots none),66,none,false,0,0⟩
def lZ (N:Nat)(aG br:Int)(slots:Nat):Kn:={(dw N aG br slots).aA 0 (uD slots) with bG:=2,first:=some 0}
noncomputable def j7:Gh:=⟨0,fun _=>0,fun _=>0,fun _=>0,fun _ _=>some (.bI [])⟩
noncomputable def Sa(N o x:Nat):Bool:=bif Nat.beq o 10||Nat.beq o 0 then Nat.blt x N else Nat.beq x 0&&(Nat.beq o 11||Nat.beq o 4||Nat.beq o 1||Nat.beq o 65||Nat.beq o 8||Nat.beq o 128||Nat.beq o 5||Nat.beq o 129||Nat.beq o 6)
def AP (k:Kn)(o x:Nat):Bool := !(Sa k.n o x)&&fc k j7 o x
section
def AQ(h:o≠10)(h0:o≠0):∀{n:Nat},uN u n o x=u o x:=fun{n}=>by
 induction n with
 |zero=>rfl
 |succ n ih=>exact(cV fun e=>absurd e h0).trans ((cV fun e=>absurd e h).trans ih)
def Sb:∀{n:Nat},o=10∨o=0→uN u n o x=(Nat.blt x n||u o x):=fun{n} h=>by
 induction n with
 |zero=>rw[show Nat.blt x 0=false from iC.mpr fun e=>Nat.not_lt_zero _ (bw e)];rfl
 |succ n ih=>
  by_cases e:x=n
  ·rw[e,show Nat.blt n (n+1)=true from dO (cL _)]
   rcases h with rfl | rfl
   ·exact(cV fun e=>absurd e (by decide)).trans iy
   ·exact iy
  ·rw[show Nat.blt x (n+1)=Nat.blt x n from lH.mpr ⟨fun z=>dO ((Nat.lt_succ_iff_lt_or_eq.mp (bw z)).resolve_right e),fun z=>dO (n5 (bw z))⟩]
   exact(cV fun _=>e).trans ((cV fun _=>e).trans ih)
theorem aM.dw(hN:1≤N∧N≤99)(hr:1≤aG∧aG≤99)(hs:0<slots∧slots≤99):aM (Mine.Internal.dw N aG br slots):=by
 have nil:∀(i:Nat) (p:Pr),(List.replicate N Pr.nil)[i]?=some p→p=Pr.nil:=fun i p h=>qS (dD h)
 exact⟨lE,hN.1,hN.2,fun i p j h h2=>(by rw[nil i p h] at h2;cases h2),fun i p l h h2=>(by rw[nil i p h] at h2;cases h2),hs,fun f x h=>(by cases h),⟨fG _,fun f h=>(by cases h)⟩,fun p x h=>(by cases h),hr,rfl,⟨fG _,List.nodup_nil,fun p h=>(by cases h)⟩⟩
def Sd:(dw N aG br slots).pr i=Pr.nil:=by
 unfold Kn.pr dw
 rw[List.getElem?_replicate]
 by_cases h:i<N
 ·rw[if_pos h];rfl
 ·rw[if_neg h];rfl
def newD(ho:Nat.blt o 4096=true)(ht:(lb o 0).t=1)(hu:u o 0=false)(h:f o 0=some (.bI []))(q:Q (rf o 0) (Ho f (cO u o 0 true) r)):fu 1 (.bI []) (Ho f u r) Q:=
 ⟨lb o 0,ht,(qE ho).trans hu,aL (Q (rf o 0)) (made ho h).symm q⟩
def G6 (k:Kn):Nat→Nat→Bool:=cO (cO (cO (cO (cO (cO (cO (cO (uN (cO (AP k) 11 0 true) k.n) 4 0 true) 1 0 true) 65 0 true) 8 0 true) 128 0 true) 5 0 true) 129 0 true) 6 0 true
def Se(h:N≤99):G6 (dw N aG br slots)=fc (dw N aG br slots) j7:=funext fun a=>funext fun y=>by
 by_cases ha:a=10∨a=0
 ·have e:(Nat.blt y N||(!(Nat.blt y N)&&fc (dw N aG br slots) j7 a y))=fc (dw N aG br slots) j7 a y:=by
   cases z:Nat.blt y N with
   |false=>rfl
   |true=>
    rcases ha with rfl | rfl
    ·rfl
    ·exact(dO (cT (Nat.div_eq_of_lt (je (bw z) (aH h (by decide)))))).symm
  rcases ha with rfl | rfl <;> exact(Sb (by decide)).trans e
 ·have h1:a≠10:=fun e=>ha (Or.inl e)
  have h0:a≠0:=fun e=>ha (Or.inr e)
  have rest:(y=0→a≠6∧a≠129∧a≠5∧a≠128∧a≠8∧a≠65∧a≠1∧a≠4∧a≠11)→G6 (dw N aG br slots) a y=fc (dw N aG br slots) j7 a y:=fun r=>by
   refine(cV fun e z=>(r z).1 e).trans ((cV fun e z=>(r z).2.1 e).trans ((cV fun e z=>(r z).2.2.1 e).trans ((cV fun e z=>(r z).2.2.2.1 e).trans ((cV fun e z=>(r z).2.2.2.2.1 e).trans ((cV fun e z=>(r z).2.2.2.2.2.1 e).trans ((cV fun e z=>(r z).2.2.2.2.2.2.1 e).trans ((cV fun e z=>(r z).2.2.2.2.2.2.2.1 e).trans ((AQ h1 h0).trans ((cV fun e z=>(r z).2.2.2.2.2.2.2.2 e).trans ?_)))))))))
   refine(?_:(!(bif Nat.beq a 10||Nat.beq a 0 then _ else _)&&_)=_)
   rw[dY h1,dY h0]
   by_cases z:y=0
   ·subst z
    have r:=r rfl
    rw[dY r.1,dY r.2.1,dY r.2.2.1,dY r.2.2.2.1,dY r.2.2.2.2.1,dY r.2.2.2.2.2.1,dY r.2.2.2.2.2.2.1,dY r.2.2.2.2.2.2.2.1,dY r.2.2.2.2.2.2.2.2];rfl
   ·rw[dY z];rfl
  by_cases hy:y=0
  ·by_cases e6:a=6
   ·subst e6;subst hy;rfl
   by_cases G7:a=129
   ·subst G7;subst hy;rfl
   by_cases e5:a=5
   ·subst e5;subst hy;rfl
   by_cases G8:a=128
   ·subst G8;subst hy;rfl
   by_cases e8:a=8
   ·subst e8;subst hy;rfl
   by_cases G9:a=65
   ·subst G9;subst hy;rfl
   by_cases e1:a=1
   ·subst e1;subst hy;rfl
   by_cases e4:a=4
   ·subst e4;subst hy;rfl
   by_cases Hg:a=11
   ·subst Hg;subst hy;exact(AQ (by decide) (by decide)).trans rfl
   exact rest fun _=>⟨e6,G7,e5,G8,e8,G9,e1,e4,Hg⟩
  ·exact rest fun z=>absurd z hy
def Sf{pp n:Nat}(hn:n≤9)(hp:pp≤9)(hr:1≤aG∧aG≤99)(q:∀g,Q (rf 6 0) (H (lZ (n+2) aG (2 * pp+2) (2 * pp+1)) g r)):wB (ah (d+3)) ((bu 87).body.drop 1) [(167,.int aG),(106,.int n),(148,.int pp),(39,rf 6 0)] (H (Mine.Internal.dw (n+2) aG (2 * pp+2) (2 * pp+1)) j7 r) (cW Q X):=by
 have K:aM (Mine.Internal.dw (n+2) aG (2 * pp+2) (2 * pp+1)):=aM.dw ⟨by lia,by lia⟩ hr ⟨by lia,by lia⟩
 have hf:(Mine.Internal.dw (n+2) aG (2 * pp+2) (2 * pp+1)).free=0:=rfl
 refine Gd (nm:=66) K (Or.inl rfl) (fun h=>?_) fun h=>absurd (l9 (n+1)) h
 refine(?_:wB (ah (d+3)) ((bu 87).body.drop 2) [(167,.int aG),(106,.int n),(148,.int pp),(39,rf 6 0),(66,rf 10 0)] (H ((Mine.Internal.dw (n+2) aG (2 * pp+2) (2 * pp+1)).new 0 66) (j7.m5 (Mine.Internal.dw (n+2) aG (2 * pp+2) (2 * pp+1)) 0) r) (cW Q X))
 have hl:0<((Mine.Internal.dw (n+2) aG (2 * pp+2) (2 * pp+1)).new 0 66).af.length:=ng (l9 (n+1)) (cg.trans lE).symm
 have e1:((Mine.Internal.dw (n+2) aG (2 * pp+2) (2 * pp+1)).new 0 66).pr 0={Pr.nil with pid:=1,st:=71,name:=66}:=rfl
 have e2:∀p,((Mine.Internal.dw (n+2) aG (2 * pp+2) (2 * pp+1)).new 0 66).aA 0 p={(Mine.Internal.dw (n+2) aG (2 * pp+2) (2 * pp+1)).aA 0 p with bG:=2,first:=some 0}:=fun p=>rfl
 have e3:((Mine.Internal.dw (n+2) aG (2 * pp+2) (2 * pp+1)).new 0 66).slots=2 * pp+1:=rfl
 generalize (Mine.Internal.dw (n+2) aG (2 * pp+2) (2 * pp+1)).new 0 66=K1 at *
 generalize j7.m5 (Mine.Internal.dw (n+2) aG (2 * pp+2) (2 * pp+1)) 0=G1
 have hn0:(K1.pr 0).fs=none:=by rw[e1];rfl
 refine B.se (fun K' X h=>aL (fun s:Nat=>jP (ah (d+3)) 6 [.int s] (H K1 G1 r) K' X) e3 (GG (d:=d+2) (k:=K1) (j:=0) (by decide) hn0 (by rw[e3];lia) (by rw[e3];lia) h)) (fun _ _ h=>h) (GI (sl:=List.replicate K1.slots none) (g:=Gh.iN G1 0 _) hl (by decide) hn0 iy) ?_
 have hl2:0<(K1.dm 0 (List.replicate K1.slots none)).af.length:=cg.symm▸hl
 refine wz hl2 (aL (fun k'=>Q (rf 6 0) (H k' _ r)) ?_ (q _))
 unfold Kn.dm
 rw[tZ,gq hl,e1,e2,e3];rfl
end
section
variable{Q:QV}
def uE(ho:Nat.blt o 4096=true)(ht:(lb o 0).t=Nat.add k 3)(hu:u o 0=false)(h:cx (sU k) (rf o 0::as) ((Ho f (cO u o 0 true) r).set (lb o 0) (.inst [])) (fun v σ=>isNone v=true∧Q (rf o 0) σ) X):jP cx k as (Ho f u r) Q X:=
 ⟨lb o 0,ht,(qE ho).trans hu,aL (fun σ=>cx (sU k) (rf o 0::as) (σ.set (lb o 0) (.inst [])) (fun v σ=>isNone v=true∧Q (rf o 0) σ) X) (lS ho).symm h⟩
def uF(h:wL cx es lv σ (fun vs σ=>jP cx k vs σ Q X) X):wE cx (.new k es) lv σ Q X:=h
def aI{Q:QA}(h:wE cx e lv σ (fun v σ=>wL cx es lv σ (fun vs σ=>Q (v::vs) σ) X) X):wL cx (e::es) lv σ Q X:=h
def cu{Q:QA}(h:Q [] σ):wL cx [] lv σ Q X:=h
def AR(h:fu 1 (.bI []) σ Q):wE cx (.dct [] []) lv σ Q X:=h
def aR(h:Is cx lv σ e v)(q:Q v σ):wE cx e lv σ Q X:=h _ _ q
def Sg(hN:N≤99)(hf:∀i,f 10 i=some (.inst (bY (fun _=>0) (fun _=>0) i Pr.nil)))(hz:∀i,f 0 i=some (.list zeros))(h11:f 11 0=some (.inst (wg (Mine.Internal.dw N aG br slots))))(Si:u 11 0=false)(hu:∀i,i<N→u 10 i=false∧u 0 i=false)(q:Q (rf 11 0) (Ho f (uN (cO u 11 0 true) N) r)):jP (ah (d+3)) 8 [.int N] (Ho f u r) Q X:=
 uE rfl rfl Si (R5 (aG:=aG) (br:=br) (o:=slots) hN hf hz hu ⟨rfl,aL (Q (rf 11 0)) (o7 rfl h11).symm q⟩)
def Sj(h1:f 1 0=some (.bI []))(h4:f 4 0=some (.inst [(176,.int aG),(103,.int 0),(148,rf 1 0)]))(hu:u 4 0=false)(hu1:u 1 0=false)(q:Q (rf 4 0) (Ho f (cO (cO u 4 0 true) 1 0 true) r)):jP (ah (d+1)) 1 [.int aG] (Ho f u r) Q X:=
 uE rfl rfl hu (R6 ((qE rfl).trans hu1) ⟨rfl,aL (Q (rf 4 0)) (by rw[made rfl h1,o7 rfl h4]) q⟩)
def Sk(hm:1≤br)(h128:f 128 0=some (.list []))(h8:f 8 0=some (.inst [(108,.int br),(148,rf 4 0),(123,.none),(90,.none),(55,rf 65 0),(37,.int 16),(133,rf 128 0)]))(hu:u 8 0=false)(hu1:u 128 0=false)(q:Q (rf 8 0) (Ho f (cO (cO u 8 0 true) 128 0 true) r)):jP (ah (d+1)) 5 [.int br,rf 4 0,.none,.none,rf 65 0,.int 16] (Ho f u r) Q X:=
 uE rfl rfl hu (R7 hm ((qE rfl).trans hu1) ⟨rfl,aL (Q (rf 8 0)) (by rw[made rfl h128,o7 rfl h8]) q⟩)
def Sl(h129:f 129 0=some (.bI []))(h5:f 5 0=some (.inst [(186,rf 11 0),(64,rf 8 0),(123,.none),(143,.none),(90,.none),(55,rf 129 0),(191,.int 0)]))(hu:u 5 0=false)(hu1:u 129 0=false)(q:Q (rf 5 0) (Ho f (cO (cO u 5 0 true) 129 0 true) r)):jP (ah (d+1)) 2 [rf 11 0,rf 8 0] (Ho f u r) Q X:=
 uE rfl rfl hu (R8 ((qE rfl).trans hu1) ⟨rfl,aL (Q (rf 5 0)) (by rw[made rfl h129,o7 rfl h5]) q⟩)
def Sm(h6:f 6 0=some (.inst [(94,rf 5 0)]))(hu:u 6 0=false)(q:Q (rf 6 0) (Ho f (cO u 6 0 true) r)):jP (ah (d+1)) 3 [rf 5 0] (Ho f u r) Q X:=
 uE rfl rfl hu (R9 ⟨rfl,aL (Q (rf 6 0)) (o7 rfl h6).symm q⟩)
def o8(h:o≠10)(h0:o≠0)(e:u o x=false):uN u n o x=false:=(AQ h h0).trans e
def Hh{pp n:Nat}(w:Wk σ (Ho (fz (Mine.Internal.dw (n+2) aG (2 * pp+2) (2 * pp+1)) j7) (AP (Mine.Internal.dw (n+2) aG (2 * pp+2) (2 * pp+1))) r))(hn:n≤9)(hp:pp≤9)(hr:1≤aG∧aG≤99)(q:∀g,Q (rf 6 0) (H (lZ (n+2) aG (2 * pp+2) (2 * pp+1)) g r)):ah (d+4) 87 [.int aG,.int n,.int pp] σ Q X:=by
 have hN:n+2≤99:=by lia
 have e:=Se (N:=n+2) (aG:=aG) (br:=2 * pp+2) (slots:=2 * pp+1) hN
 have q:=Sf (d:=d) (X:=X) hn hp hr q
 refine E8 w (B.eT ?_)
 refine uF (aI (uF (aI (uF (aI ?_)))))
 refine aR (v := .int ((n+2:Nat):Int)) (fun _ _ h=>h) (cu ?_)
 refine Sg (N:=n+2) (aG:=aG) (br:=2 * pp+2) (slots:=2 * pp+1) hN (fun i=>aa (fun p=>some (Cell.inst (bY (fun _=>0) (fun _=>0) i p))) Sd) (fun _=>rfl) rfl rfl (fun i hi=>?_) ?_
 ·have:Nat.blt i (n+2)=true:=dO hi
  exact⟨aa (fun b => !b&&fc (Mine.Internal.dw (n+2) aG (2 * pp+2) (2 * pp+1)) j7 10 i) this,aa (fun b => !b&&fc (Mine.Internal.dw (n+2) aG (2 * pp+2) (2 * pp+1)) j7 0 i) this⟩
 refine aI (uF (aI (aR (v := .int ((2 * pp+2:Nat):Int)) (fun _ _ h=>h) (aI (uF (aI (aR (v := .int aG) (fun _ _ h=>h) (cu ?_))))))))
 refine Sj (d:=d+2) ?_ ?_ (o8 (o:=4) (by decide) (by decide) ?_) (o8 (o:=1) (by decide) (by decide) ?_) ?_
 ·rfl
 ·rfl
 ·rfl
 ·rfl
 refine aI (aR (v := .none) (fun _ _ h=>h) (aI (aR (v := .none) (fun _ _ h=>h) (aI ?_))))
 refine AR (newD (o:=65) rfl rfl (o8 (o:=65) (by decide) (by decide) ?_) rfl ?_)
 ·rfl
 refine(aI (aR (v := .int 16) (fun _ _ h=>h) (cu ?_)))
 refine Sk (br:=((2 * pp+2:Nat):Int)) (mj.mpr (lF (fG _))) rfl rfl (o8 (o:=8) (by decide) (by decide) rfl) (o8 (o:=128) (by decide) (by decide) rfl) (cu ?_)
 refine Sl rfl rfl (o8 (o:=5) (by decide) (by decide) rfl) (o8 (o:=129) (by decide) (by decide) rfl) (cu ?_)
 refine Sm rfl (o8 (o:=6) (by decide) (by decide) rfl) ?_
 exact aL (fun u=>wB (ah (d+3)) ((bu 87).body.drop 1) [(167,.int aG),(106,.int n),(148,.int pp),(39,rf 6 0)] (Ho (fz (Mine.Internal.dw (n+2) aG (2 * pp+2) (2 * pp+1)) j7) u r) (cW Q X)) e.symm q
end
noncomputable def i9(x:Int×bQ):V := .tup [.int x.1,x.2.v]
section
def Dd.closes:∀{cs:List (Nat×Nat)} {f:Nat} {done:List (Int×Nat)},(∀x∈cs,x.1≤f∧x.2<2 * pp)→cs.Nodup→(∀x∈cs,((x.1:Int)+1,x.2)∉done)→Dd N pp pp f done (cs.map fun x=>((x.1:Int)+1,bQ.close x.2)):=by
 intro cs
 induction cs with
 |nil=>exact fun _ _ _=>Dd.nil
 |cons c r ih=>
  intro f done h1 h2 h3
  obtain⟨n1,n2⟩:=fO.mp h2
  refine Dd.close (h1 c (eF ..)).1 (h1 c (eF ..)).2 (h3 c (eF ..)) (ih (fun x hx=>h1 x (eY _ hx)) n2 fun x hx z=>?_)
  rcases cS.mp z with z | z
  ·injection z with z1 z2
   have:x=c:=Prod.ext (by lia) z2
   subst this;exact n1 hx
  ·exact h3 x (eY _ hx) z
def Dd.Sn:∀{is:List Nat} {f:Nat},(∀(j i:Nat),is[j]?=some i→i≤f+j)→f+is.length<N→Dd N pp pp (f+is.length) [] cs→Dd N pp pp f [] ((is.map fun(i:Nat)=>((i:Int)+1,bQ.fork))++cs):=by
 intro is
 induction is with
 |nil=>exact fun _ _ h=>h
 |cons a r ih=>
  intro f h1 h2 h3
  have h2':f+(r.length+1)<N:=h2
  refine Dd.fork (by lia) (h1 0 a rfl) (ih (f:=f+1) (fun j i hj=>?_) (by lia) ?_)
  ·have:=h1 (j+1) i hj;lia
  ·have e:f+1+r.length=f+(a::r).length:=by show _=f+(r.length+1);lia
   rw[e];exact h3
def Dd.ak:∀{n a:Nat},a+n=pp→Dd N pp pp 0 [] cs→Dd N pp a 0 [] (List.replicate n (1,bQ.pipe)++cs):=by
 intro n
 induction n with
 |zero=>intro a h t;rw[show a=pp by lia];exact t
 |succ n ih=>intro a h t;exact Dd.pipe (by lia) (ih (by lia) t)
inductive xN:V→Prop where
 |int (x:Int):xN (.int x)
 |two (x y:Int):xN (.tup [.int x,.int y])
def Bg.at(B:Bg N pp a f done k)(hi:i≤f):i<k.n∧bh (k.pr i)∧(k.pr i).pid=i+1:=
 (B.lv i hi).elim fun p h=>h.elim fun sl h=>⟨B.I.ok.n▸(bM.mp h.1).1,bH h.1▸h.2.1,bH h.1▸h.2.2.1⟩
def Dd.step{C:Prop}(h:Dd N pp a f done ((p,D)::r))(B:Bg N pp a f done k)(ha:a≤pp)(q:∀i a' f' done',a'≤pp→i≤f→p=i+1→D.good i→xN (cK (k.act i D).1)→Dd N pp a' f' done' r→Bg N pp a' f' done' (k.act i D).2→C):C:=by
 cases h with
 |pipe h t=>exact(B.pipe h).1.elim fun x e=>e.elim fun y e=>q 0 _ _ _ h (cL _) rfl trivial (e ▸ .two x y) t (B.pipe h).2
 |fork h hi t=>exact(B.fork h hi).1.elim fun x e=>q _ _ _ _ ha hi rfl trivial (e ▸ .int x) t (B.fork h hi).2
 |close hi hm hd t=>exact q _ _ _ _ ha hi rfl trivial ((B.close hi hm hd).1 ▸ .int 0) t (B.close hi hm hd).2
end
structure Cs(many m:Nat)(cs:List (Nat×Nat)):Prop where
 a:∀x∈cs,x.1≤many∧x.2<m
 n:cs.Nodup
 l:cs.length≤m * (many+1)
def Cs.more(C:Cs many m cs):Cs many (m+1) (cs++((List.range (many+1)).filter c).map fun i=>(i,m)):=by
 refine⟨fun x hx=>?_,?_,?_⟩
 ·rcases mh.mp hx with hx | hx
  ·have:=C.a x hx;lia
  ·obtain⟨i,hi,rfl⟩:=bP.mp hx
   have:=fE.mp (dJ.mp hi).1
   exact⟨by show i≤many;lia,kD _⟩
 ·refine List.nodup_append.mpr ⟨C.n,?_,fun a ha b hb e=>?_⟩
  ·have h:((List.range (many+1)).filter c).Nodup:=List.nodup_range.filter _
   exact List.Pairwise.map _ (fun a b ne e=>ne (by injection e)) h
  ·obtain⟨i,_,rfl⟩:=bP.mp hb
   have:=(C.a a ha).2
   rw[e] at this;exact absurd this (jh _)
 ·rw[cG,bJ]
  have h1:=C.l
  have h2:=jd c (List.range (many+1))
  rw[dF] at h2
  rw[Nat.add_mul];lia
inductive Plain:V→Prop where
 |none:Plain .none
 |int (x:Int):Plain (.int x)
 |str (s:Nm):Plain (.str s)
 |bytes (l:List Nat):Plain (.bytes l)
 |two (x y:Int):Plain (.tup [.int x,.int y])
theorem Plain.eq(h:Plain v):eN s .eq v v=some true:=by
 cases h with
 |none=>rfl
 |int x=>show some (x==x)=_;rw[dW]
 |str x=>show some (Nat.beq x x)=_;rw[dh]
 |bytes l=>show some (l==l)=_;rw[dW]
 |two x y=>show some ((x==x)&&((y==y)&&true))=_;rw[dW,dW];rfl
def bl(z:Rs V×Kn):Prop:=∀v,z.1 = .ok v→Plain v
section
variable{k:Kn}
theorem bl.ok(h:Plain v):bl (.ok v,k):=fun _ e=>by cases e;exact h
theorem bl.bg:bl k.bg:=fun _ h=>by exact xo h
def bl.bad:bl (.exc .cU,k):=fun _ h=>by exact xo h
def bl.aG:bl (noRoom k):=fun _ h=>by exact xo h
theorem bl.bif(h:bl z)(h2:bl w):bl (bif b then z else w):=by cases b <;> assumption
theorem bl.elim{o:Option α}(h:bl z)(h2:∀a,bl (f a)):bl (o.elim z f):=by cases o;exact h;exact h2 _
def bl.sleep{c:Ch}:bl (k.cZ i c):=bl.bif bl.bad (bl.ok .none)
theorem bl.act{D:bQ}:bl (k.act i D):=by
 cases D with
 |write m os=>exact bl.elim bl.bg fun _=>bl.elim bl.bg fun _=>bl.elim bl.bg fun _=>bl.bif bl.bg (bl.bif bl.sleep (bl.bif bl.bad (bl.ok (.int _))))
 |read m c=>exact bl.elim bl.bg fun _=>bl.elim bl.bg fun _=>bl.elim bl.bg fun _=>bl.bif (bl.bif bl.sleep (bl.ok (.bytes _))) bl.bg
 |close m=>exact bl.elim bl.bg fun _=>bl.ok (.int _)
 |dup m=>exact bl.elim bl.bg fun _=>bl.elim bl.bg fun _=>bl.bif (bl.ok (.int _)) bl.aG
 |lu t=>exact bl.bif bl.sleep (bl.ok (.int _))
 |exit s=>exact bl.ok (.int _)
 |pipe=>exact bl.bif bl.aG (bl.ok (.two _ _))
 |fork=>exact bl.bif (bl.ok (.int _)) bl.aG
 |wait=>exact bl.elim (bl.bif bl.bg (bl.ok .none)) fun _=>bl.ok (.two _ _)
end
def xO(h:bl z)(h2:bk z):Plain (cK z.1):=by
 cases e:z.1 with
 |ok v=>exact h v e
 |exc x=>
  rcases h2 x e with rfl | rfl
  ·exact .str _
  ·exact .str _
def Hi(h:xN v):eN σ .ne v v=some false∧eN σ .mem v (.tup [.none,.str 163,.str 119])=some false:=by
 cases h with
 |int x=>exact⟨aa (fun b=>some (!b)) (dW x),rfl⟩
 |two x y=>
  refine⟨(?_:some (!((x==x)&&((y==y)&&true)))=_),rfl⟩
  rw[dW,dW];rfl
def Hj:∀{ks:List Int},nq s (.int p) (ks.map V.int)=some (ks.any fun y=>y==p):=fun{ks}=>by
 induction ks with
 |nil=>rfl
 |cons y r ih=>
  refine(?_:((cC 9 s (.int y) (.int p)).bind fun a=>(nq s (.int p) (r.map V.int)).bind fun b=>some (a||b))=_)
  rw[ih];rfl
def Plain.sw(h:Plain v):cj v=v:=by cases h <;> rfl
def So{D:bQ}:cj D.v=D.v:=by cases D <;> rfl
def Sp{k:Kn}:cj (cK (k.act i D).1)=cK (k.act i D).1:=(xO bl.act bk.act).sw
abbrev WW(kA:Kn)(gA:Gh)(kB:Kn)(gB:Gh)(L:Lw):St:=H kA gA (HB (fz kB gB) (fc kB gB) (LH L))
abbrev gx:V := .fl [rf 6 0,cj (rf 6 0)]
section
def AU(hi:∀(K:QS) (X:QX),K (.items [u,v]) σ'→wI cx it lv σ K X)(hl:dQ [n] lv=l)(h1:aB l n u=l++[(n,u)])(h2:aB (l++[(n,u)]) n v=l++[(n,v)])
  (q:wE cx elt (l++[(n,u)]) σ' (fun y σ=>wE cx elt (l++[(n,v)]) σ (fun w σ=>newL z [y,w] σ Q) bV) bV):wE cx (.comp z elt (.v n) it [] sc) lv σ Q X:=
 hi _ _ (by
  refine(?_:nu _ _ _ (99997+3) (.items [u,v]) (dQ [n] lv) σ' _)
  rw[hl]
  refine(?_:wE cx elt (aB l n u) σ' (fun y σ=>wE cx elt (aB (aB l n u) n v) σ (fun w σ=>newL z [y,w] σ Q) bV) bV)
  rw[h1,h2]
  exact q)
structure TL(lv l:Lv):Prop where
 pr:aF lv 140=some gx
 cut:dQ [39] lv=l
 s1:∀u,aB l 39 u=l++[(39,u)]
 s2:∀u v,aB (l++[(39,u)]) 39 v=l++[(39,v)]
 g:∀c,aF (l++[(39,c)]) 39=some c
def AV(IA:au kA)(IB:au kB)(hA:i<kA.n)(lA:bh (kA.pr i))(eA:(kA.pr i).pid=pid)(hB:i<kB.n)(lB:bh (kB.pr i))(eB:(kB.pr i).pid=pid)(hD:D.good i)(dA:kA.ak.length≤900)(dB:kB.ak.length≤900)
  (T:TL lv l) (hp:∀c σ,Is (ah (d+8)) (l++[(39,c)]) σ pe (.int pid)) (hd:∀c σ,Is (ah (d+8)) (l++[(39,c)]) σ de D.v)
  (q:∀gA gB,Q (.fl [cK (kA.act i D).1,cK (kB.act i D).1]) (WW (kA.act i D).2 gA (kB.act i D).2 gB L)):wE (ah (d+8)) (.comp true (.call 88 [.v 39,pe,de]) (.v 39) (.e (.v 140)) [] sc) lv (WW kA gA kB gB L) Q X:=
 AU (u:=rf 6 0) (v:=cj (rf 6 0)) (fun K X h=>aq T.pr h) T.cut (T.s1 _) (T.s2 _ _) (aq (T.g _) (hp _ _ _ _ (hd _ _ _ _ (AH IA hA lA hD dA eA fun nQ=>aq (T.g _) (hp _ _ _ _ (hd _ _ _ _ (qC (as:=[rf 6 0,.int pid,D.v]) (aa (fun w=>[rf 6 0,V.int pid,w]) So) (AH IB hB lB hD dB eB fun qF=>
  sj (R:=fun σ=>newL true [cK (kA.act i D).1,cj (cK (kB.act i D).1)] σ Q) (aL (fun w=>Q (.fl [cK (kA.act i D).1,w]) (WW (kA.act i D).2 nQ (kB.act i D).2 qF L)) Sp.symm (q nQ qF))))))))))
end
section
variable{L:Lw}
def Lb (n pp N:Nat)(o:Option (V×V)):Lv:=[(38,.ref ⟨1,0⟩),(140,gx),(106,.int n),(148,.int pp),(52,.ref ⟨64,N⟩)]++o.elim [] fun o=>[(129,o.1),(93,o.2)]
def Lc (n pp N:Nat)(o:Option (V×V))(q:Option (V×V×V)):Lv:=Lb n pp N o++q.elim [] fun q=>[(145,q.1),(51,q.2.1),(192,q.2.2)]
def Sq:TL (aB (aB (Lc n pp N o q) 145 u) 51 v) (aB (aB (Lc n pp N o q) 145 u) 51 v)∧(∀c,aF (aB (aB (Lc n pp N o q) 145 u) 51 v++[(39,c)]) 145=some u∧aF (aB (aB (Lc n pp N o q) 145 u) 51 v++[(39,c)]) 51=some v)∧(∀t,aB (aB (aB (Lc n pp N o q) 145 u) 51 v) 192 t=Lc n pp N o (some (u,v,t))∧aF (Lc n pp N o (some (u,v,t))) 192=some t):=by
 cases o <;> cases q <;> exact⟨⟨rfl,rfl,fun _=>rfl,fun _ _=>rfl,fun _=>rfl⟩,fun _=>⟨rfl,rfl⟩,fun _=>⟨rfl,rfl⟩⟩
def Ss(hds:ds.length≤999)(D0:Dd (n+2) pp a f done ds)(B0:Bg (n+2) pp a f done k)(ha:a≤pp)(hpp:pp≤900)
  (q:∀k gA gB a f done,Bg (n+2) pp a f done k→a≤pp→Q (.bool true) (WW k gA k gB (L.cQ 64 N (.list (ds.map i9))))):wB (ah (d+8)) ((bu 89).body.drop 2) (Lb n pp N o) (WW k gA k gB (L.cQ 64 N (.list (ds.map i9)))) (cW Q X):=by
 have hL:∀k gA gB,(WW k gA k gB (L.cQ 64 N (.list (ds.map i9)))).lst ⟨64,N⟩=some (ds.map i9):=fun k gA gB=>aa (Option.bind · Cell.pS) (xJ rfl fun _=>rfl)
 refine B.kR (src:=fun m => .lst ⟨64,N⟩ m) (vs:=ds) (h:=i9) (t := .tup [.v 145,.v 51]) (σ':=WW k gA k gB (L.cQ 64 N (.list (ds.map i9)))) (fun K X h=>?_) (turns rfl hds)
  (fun m lv σ=>∃k gA gB a f done,σ=WW k gA k gB (L.cQ 64 N (.list (ds.map i9)))∧Bg (n+2) pp a f done k∧a≤pp∧Dd (n+2) pp a f done (ds.drop m)∧∃q,lv=Lc n pp N o q) (fun m lv σ J=>?_) (fun m x lv σ e J k' hk=>?_) (fun lv σ J=>?_) ⟨k,gA,gB,a,f,done,rfl,B0,ha,D0,none,(fP _).symm⟩
 ·exact aq (aa (Option.map fun _=>Src.lst ⟨64,N⟩ 0) (hL k gA gB)) h
 ·obtain⟨k,gA,gB,_,_,_,rfl,_⟩:=J
  exact zV (hL k gA gB)
 ·obtain⟨k,gA,gB,a,f,done,rfl,G,ha,D,q,rfl⟩:=J
  obtain⟨p,D1⟩:=x
  rw[List.drop_eq_getElem_cons (bM.mp e).1,(bM.mp e).2] at D
  refine D.step G ha fun i a' f' done' ha' hi hp hD ht D' B'=>?_
  obtain⟨hi',hl,rZ⟩:=G.at hi
  have hd:k.ak.length≤900:=G.pl▸aH ha hpp
  have F:=Sq (n:=n) (pp:=pp) (N:=N) (o:=o) (q:=q) (u := .int p) (v:=D1.v)
  refine⟨rfl,B.eT (AV G.I G.I hi' hl (rZ.trans hp.symm) hi' hl (rZ.trans hp.symm) hD hd hd F.1 (fun c σ K X h=>aq (F.2.1 c).1 h) (fun c σ K X h=>aq (F.2.1 c).2 h) fun gA gB=>?_)⟩
  have ht':=(F.2.2 (.fl [cK (k.act i D1).1,cK (k.act i D1).1]))
  rw[ht'.1]
  have e0:∀σ,fy σ (.fl [cK (k.act i D1).1,cK (k.act i D1).1]) (.int 0)=some (cK (k.act i D1).1)∧fy σ (.fl [cK (k.act i D1).1,cK (k.act i D1).1]) (.int 1)=some (cK (k.act i D1).1):=fun _=>⟨rfl,rfl⟩
  have hk:=hk _ _ ⟨_,gA,gB,a',f',done',rfl,B',ha',D',some (.int p,D1.v,.fl [cK (k.act i D1).1,cK (k.act i D1).1]),rfl⟩
  generalize cK (k.act i D1).1=t at *
  exact B.ite (t:=false) (fun K X h=>qp (b:=false) (b2:=false) (fun K X h=>aq ht'.2 (aq (e0 _).1 (aq ht'.2 (aq (e0 _).2 (aq (Hi ht).1 h))))) (fun K X h=>aq ht'.2 (aq (e0 _).1 (aq (Hi ht).2 h))) h) ft fun _=>hk
 ·obtain⟨k,gA,gB,a,f,done,rfl,G,ha,_⟩:=J
  exact q k gA gB a f done G ha
end
section
noncomputable abbrev LX(L:Lw)(x:Bx):Lw:={L with bx:=x}
def draws{P:Nat→Int→Prop}(hm:m≤99)(ok:L.bx.ok n0)(hi:∀(K:QS) (X:QX),K (.items ((List.range m).map fun i:Nat=>V.int i)) (WW k gA k gB L)→wI cx it lv σ K X)(hl:dQ [92] lv=l)(h1:∀u,aB l 92 u=l++[(92,u)])(h2:∀u v,aB (l++[(92,u)]) 92 v=l++[(92,v)])
  (step:∀i x (K:QV),i<m→x.ok (n0+i)→(∀x' t,x'.ok (n0+i+1)→P i t→K (f t) (WW k gA k gB (LX L x')))→wE cx elt (l++[(92,.int i)]) (WW k gA k gB (LX L x)) K bV)
  (q:∀(ts:List Int) (x':Bx),ts.length=m→(∀j t,ts[j]?=some t→P j t)→x'.ok (n0+m)→Q (.fl (ts.map f)) (WW k gA k gB (LX L x'))):wE cx (.comp true elt (.v 92) it [] sc) lv σ Q X:=
 xM (vs:=List.range m) (h:=fun i:Nat=>V.int i) (fun i ys σ=>∃(ts:List Int) (x':Bx),ts.length=i∧(∀j t,ts[j]?=some t→P j t)∧x'.ok (n0+i)∧ys=ts.map f∧σ=WW k gA k gB (LX L x')) hi (turns dF (aH hm (by decide))) hl (ff h1 h2) (fun i a ys σ e J K hk=>by
  obtain⟨ts,x,rfl,hP,ja,rfl,rfl⟩:=J
  obtain⟨rfl,hlt⟩:=r8 e
  refine step _ _ _ hlt ja fun x' t ok' ht=>hk _ _ ⟨ts++[t],x',cG,fun j u hj=>?_,?_,(ia (f:=f) (l₁:=ts) (l₂:=[t])).symm,rfl⟩
  ·rcases ua hj with⟨_,h⟩ | ⟨rfl,rfl⟩
   ·exact hP j u h
   ·exact ht
  ·exact(Int.add_assoc n0 (ts.length:Int) 1)▸ok') (fun ys σ J=>by
  obtain⟨ts,x,h,hP,ja,rfl,rfl⟩:=J
  rw[dF] at h ja
  exact q ts x h hP ja) ⟨[],L.bx,rfl,fun _ _ h=>(by rw[List.getElem?_nil] at h;exact nn h),(Int.add_zero n0).symm▸ok,rfl,rfl⟩
theorem AW:∀n,rep [V.tup [.int 1,.tup [.str 147]]] n=(List.replicate n ((1:Int),bQ.pipe)).map i9
 |0=>rfl
 |n+1=>aa (V.tup [.int 1,.tup [.str 147]]::·) (AW n)
abbrev Hl(n pp:Nat):Lv:=[(38,.ref ⟨1,0⟩),(140,gx),(106,.int n),(148,.int pp)]
def Su{sc:List (Nm×Nat)}(hn:n≤9)(ok:L.bx.ok n0)(hn0:n0≤2000)(q:∀(is:List Nat) (x':Bx),is.length=n→(∀j i:Nat,is[j]?=some i→i≤j)→x'.ok (n0+n)→Q (.fl ((is.map fun i:Nat=>((i:Int)+1,bQ.fork)).map i9)) (WW k gA k gB (LX L x'))):
  wE (ah (d+1)) (.comp true (.tup [.bin .add (.c (.int 1)) (.call 86 [.v 38,.bin .add (.v 92) (.c (.int 1))]),.tup [.c (.str 67)]]) (.v 92) (.fq [.v 106]) [] sc) (Hl n pp) (WW k gA k gB L) Q X:=
 draws (m:=n) (P:=fun i t=>0≤t∧t≤i) (f:=fun t => .tup [.int (1+t),.tup [.str 67]]) (by lia) ok (fun K X h=>aq (mV (by lia)) h) rfl (fun _=>rfl) (fun _ _=>rfl) (fun i x K hi ok hK=>ly (L:=LX L x) (many:=(i:Int)+1) ok (by lia) (by lia) fun x' t ok' h1 h2=>hK x' t ok' ⟨h1,Int.le_of_lt_add_one h2⟩) (fun ts x' h hP ok=>by
  have q:=q (ts.map Int.toNat) x' (by rw[bJ];exact h) (fun j i hj=>by
   rw[fV] at hj
   obtain⟨t,ht,rfl⟩:=m9.mp hj
   have:=hP j t ht;lia) ok
  refine aL (fun l=>Q (.fl l) (WW k gA k gB (LX L x'))) ?_ q
  rw[gh,gh]
  refine pM fun t ht=>?_
  obtain⟨j,hj⟩:=pL ht
  have:=hP j t hj
  exact aa (fun z=>V.tup [.int z,.tup [.str 67]]) (show((t.toNat:Nat):Int)+1=1+t by lia))
end
noncomputable def kL(x:Nat×Nat):Int×bQ:=((x.1:Int)+1,.close x.2)
def Ld (L:Lw)(N:Nat)(x:Bx)(ds:List (Int×bQ)):Lw:=(LX L x).cQ 64 N (.list (ds.map i9))
section
variable{n:Nat}
def half{t:Int}(h0:0≤t)(h1:t<3):∃m:Nat,m≤2∧1+t.fdiv 2=(m:Int):=by
 rw[Int.fdiv_eq_ediv_of_nonneg _ (by decide)]
 exact⟨(1+t / 2).toNat,by lia,(nZ (Int.add_nonneg (by decide) (Int.ediv_nonneg h0 (by decide)))).symm⟩
def Sv(Sw:aF lv 38=some (.ref ⟨1,0⟩))(hn:n≤9)(hl:dQ [92] lv=l)(h1:∀u,aB l 92 u=l++[(92,u)])(h2:∀u v,aB (l++[(92,u)]) 92 v=l++[(92,v)])(hb:∀u,aF (l++[(92,u)]) 38=some (.ref ⟨1,0⟩)∧aF (l++[(92,u)]) 106=some (.int n))(ok:L.bx.ok n0)(hn0:n0≤2000)(q:∀(ks:List Int) x',x'.ok (n0+3)→Q (.fl (ks.map .int)) (WW k gA k gB (LX L x'))):
  wE (ah (d+1)) (.comp true (.bin .add (.c (.int 1)) (.call 86 [.v 38,.bin .add (.v 106) (.c (.int 1))])) (.v 92) (.fq [.bin .add (.c (.int 1)) (.bin .fdiv (.call 86 [.v 38,.c (.int 3)]) (.c (.int 2)))]) [] sc) lv (WW k gA k gB L) Q X:=by
 refine aq Sw (ly (many:=3) ok (by lia) (by decide) fun x1 t gO a1 b1=>?_)
 obtain⟨m,hm,e⟩:∃m:Nat,m≤2∧1+t.fdiv 2=(m:Int):=half a1 b1
 refine aL (fun z=>wE (ah (d+1)) (.comp true (.bin .add (.c (.int 1)) (.call 86 [.v 38,.bin .add (.v 106) (.c (.int 1))])) (.v 92) (.fq [.c (.int z)]) [] []) lv (WW k gA k gB (LX L x1)) Q X) e.symm ?_
 refine draws (L:=LX L x1) (m:=m) (P:=fun _ _=>True) (f:=fun t => .int (1+t)) (by lia) gO (fun K X h=>aq (mV (by lia)) h) hl h1 h2 (fun i x K hi ok hK=>aq (hb _).1 (aq (hb _).2 (ly (L:=LX L x) (many:=(n:Int)+1) ok (by lia) (by lia) fun x' t ok' _ _=>hK x' t ok' trivial))) fun ts x' h _ ok=>?_
 refine aL (fun l=>Q (.fl l) (WW k gA k gB (LX L x'))) ?_ (q (ts.map (1+·)) x' ⟨ok.m0,ok.m1,ok.a0,fW ok.a1 (by lia),ok.g⟩)
 rw[gh];rfl
def Sx(hp:σ.hp ll=some (.list xs))(ht:ll.t=0)(hl:xs.length+ys.length≤bz):iH σ ll 62 [.fl ys]=some (.none,σ.set ll (.list (xs++ys))):=by
 unfold iH
 rw[hp,ht]
 exact aa (Option.map fun q=>(q.1,σ.set ll q.2)) (if_pos hl:on (xs.length+ys.length≤bz) (V.none,Cell.list (xs++ys))=_)
def Sy(h:n≤900):rj [.int 1,.int ((n:Int)+2)]=some ((List.range (n+1)).map fun(i:Nat)=>V.int (1+(i:Int))):=by
 refine(if_pos ⟨by decide,by lia⟩:on ((1:Int).natAbs≤1000∧((n:Int)+2).natAbs≤1000) _=_).trans ?_
 rw[show((n:Int)+2 - 1).toNat=n+1 by lia]
def Sz{ks:List Int}(hn:n≤9)(h1:aF lv 106=some (.int n))(hl:dQ [145] lv=l)(hs1:∀u,aB l 145 u=l++[(145,u)])(hs2:∀u v,aB (l++[(145,u)]) 145 v=l++[(145,v)])(hg:∀u,aF (l++[(145,u)]) 145=some u∧aF (l++[(145,u)]) 93=some (.fl (ks.map .int))∧aF (l++[(145,u)]) 129=some (.int m))
  (q:∀c:Nat→Bool,Q (.fl (((((List.range (n+1)).filter c).map fun i=>(i,m)).map kL).map i9)) σ):wE cx (.comp true (.tup [.v 145,.tup [.c (.str 46),.v 129]]) (.v 145) (.fq [.c (.int 1),.bin .add (.v 106) (.c (.int 2))]) [.cmp (.v 145) .qW (.v 93)] sc) lv σ Q X:=by
 refine kT (vs:=List.range (n+1)) (h:=fun i:Nat=>V.int (1+(i:Int))) (c:=fun i => !(ks.any fun y=>y==1+(i:Int))) (f:=fun i:Nat => .tup [.int (1+(i:Int)),.tup [.str 46,.int m]]) (fun K X h=>aq h1 (aq (o:=jO .add (.int n) (.int 2)) rfl (aq (Sy (n:=n) (by lia)) h))) hl (ff hs1 hs2) (fun i _ K h=>gr (fun K X h=>aq (hg _).1 (aq (hg _).2.1 (aq (aa (Option.map (!·)) (Hj (ks:=ks))) h))) h) (fun i _ K h=>aq (hg _).1 (aq (hg _).2.2 h)) (turns (n:=n+1) dF (by lia)) ?_
 refine aL (fun l=>Q (.fl l) σ) ?_ (q fun i => !(ks.any fun y=>y==1+(i:Int)))
 rw[gh,gh]
 exact pM fun i _=>aa (fun z=>V.tup [.int z,.tup [.str 46,.int m]]) (Int.add_comm (i:Int) 1)
end
section
def SA:(WW k gA k gB (Ld L N x ds)).set ⟨64,N⟩ (.list (ds'.map i9))=WW k gA k gB (Ld L N x ds'):=GR (L:=LX L x) rfl fun _=>rfl
def SD:(aF (aB (Lb n pp N o) 129 u) 38=some (.ref ⟨1,0⟩)∧dQ [92] (aB (Lb n pp N o) 129 u)=aB (Lb n pp N o) 129 u∧(∀c,aB (aB (Lb n pp N o) 129 u) 92 c=aB (Lb n pp N o) 129 u++[(92,c)])∧(∀c e,aB (aB (Lb n pp N o) 129 u++[(92,c)]) 92 e=aB (Lb n pp N o) 129 u++[(92,e)])∧∀c,aF (aB (Lb n pp N o) 129 u++[(92,c)]) 38=some (.ref ⟨1,0⟩)∧aF (aB (Lb n pp N o) 129 u++[(92,c)]) 106=some (.int n))∧∀t,aB (aB (Lb n pp N o) 129 u) 93 t=Lb n pp N (some (u,t)):=by
 cases o <;> exact⟨⟨rfl,rfl,fun _=>rfl,fun _ _=>rfl,fun _=>⟨rfl,rfl⟩⟩,fun _=>rfl⟩
def Hp:(WW k gA k gB (Ld L N x ds)).hp ⟨64,N⟩=some (.list (ds.map i9)):=xJ (L:=LX L x) rfl fun _=>rfl
def SG(hn:n≤9)(hpp:pp≤9)(ok:L.bx.ok n0)(hn0:n0≤1000)(B0:Bg (n+2) pp 0 0 [] k)(q:∀k gA gB x c a f done,x.ok (n0+100)→Bg (n+2) pp a f done k→a≤pp→Q (.bool true) (WW k gA k gB ((LX L x).cQ 64 (L.c 64) c))):ah (d+9) 89 [.ref ⟨1,0⟩,gx,.int n,.int pp] (WW k gA k gB L) Q X:=by
 have hds:(rep [V.tup [.int 1,.tup [.str 147]]] pp).length=pp:=by rw[AW,bJ,lE]
 refine aZ (B.eT (aq (o:=lop (WW k gA k gB L) .mul (.fl [.tup [.int 1,.tup [.str 147]]]) (.int pp)) (a:=rep [V.tup [.int 1,.tup [.str 147]]] pp) (if_pos ⟨jf pp,mj.mpr (aH hpp (by decide)),by decide⟩) (Su (X:=bV) (sc:=[]) (d:=d+7) (pp:=pp) hn ok (by lia) fun is x1 h1 h2 gO=>?_)))
 refine aq (o:=lop _ .add (.fl (rep [V.tup [.int 1,.tup [.str 147]]] pp)) (.fl _)) (if_pos (by rw[hds,bJ,bJ,h1];exact eL (small (by lia)))) ?_
 have e0:rep [V.tup [.int 1,.tup [.str 147]]] pp++(is.map fun i:Nat=>((i:Int)+1,bQ.fork)).map i9=((List.replicate pp ((1:Int),bQ.pipe))++is.map fun i:Nat=>((i:Int)+1,bQ.fork)).map i9:=by rw[AW,ia]
 rw[e0]
 have Al:((List.replicate pp ((1:Int),bQ.pipe))++is.map fun i:Nat=>((i:Int)+1,bQ.fork)).length=pp+n:=by rw[cG,lE,bJ,h1]
 have D0:∀cs,Cs n (2 * pp) cs→Dd (n+2) pp 0 0 [] ((List.replicate pp ((1:Int),bQ.pipe)++is.map fun i:Nat=>((i:Int)+1,bQ.fork))++cs.map kL):=fun cs C=>by
  rw[ku]
  exact Dd.ak (Nat.zero_add _) (Dd.Sn (fun j i h=>by rw[Nat.zero_add];exact h2 j i h) (by rw[h1];lia) (Dd.closes (fun x hx=>by rw[h1,Nat.zero_add];exact C.a x hx) C.n fun _ _ h=>fN h))
 generalize (List.replicate pp ((1:Int),bQ.pipe))++is.map (fun i:Nat=>((i:Int)+1,bQ.fork))=ds at *
 refine AM (L:=LX L x1) (k:=64) (t:=0) (Q:=fun v σ=>wB (ah (d+8)) ((bu 89).body.drop 1) (aB (Hl n pp) 52 v) σ (cW Q X)) rfl rfl (fun _=>rfl) ?_
 refine B.kR (src:=jw (List.range (2 * pp)) fun i:Nat=>V.int i) (t := .v 129) (vs:=List.range (2 * pp)) (h:=fun i:Nat=>V.int i) (σ':=WW k gA k gB (Ld L (L.c 64) x1 ds)) (fun K X h=>aq (mV (n:=2 * pp) (by lia)) h) (turns (n:=2 * pp) dF (by lia))
  (fun m lv σ=>∃o cs x,lv=Lb n pp (L.c 64) o∧σ=WW k gA k gB (Ld L (L.c 64) x (ds++cs.map kL))∧Cs n m cs∧x.ok (n0+n+3 * m)) (fun _ _ _ _=>kQ) (fun m a lv σ e J f hf=>?_) (fun lv σ J=>?_) ⟨none,[],x1,(fP _).symm,by rw[List.map_nil,fP],⟨fun x h=>(nomatch h),List.nodup_nil,fG _⟩,?_⟩
 ·obtain⟨o,cs,x,rfl,rfl,C,ja⟩:=J
  obtain⟨rfl,ha⟩:=r8 e
  have F:=SD (n:=n) (pp:=pp) (N:=L.c 64) (o:=o) (u := .int a)
  refine B.eT (Sv (L:=Ld L (L.c 64) x (ds++cs.map kL)) F.1.1 hn F.1.2.1 F.1.2.2.1 F.1.2.2.2.1 F.1.2.2.2.2 ja (by lia) fun ks x2 gU=>?_)
  rw[F.2]
  refine B.ju (aq (sy Hp rfl rfl) (Sz (X:=bV) (sc:=[]) (m:=a) (ks:=ks) hn rfl rfl (fun _=>rfl) (fun _ _=>rfl) (fun _=>⟨rfl,rfl,rfl⟩) fun c=>aq (Sx Hp rfl ?_) ?_))
  ·have:=C.l
   rw[bJ,cG,bJ,Al,bJ,bJ,bJ]
   have h3:=jd c (List.range (n+1))
   rw[dF] at h3
   have h4:a * (n+1)≤18 * 10:=Nat.mul_le_mul (by lia) (by lia)
   exact eL (small (by lia))
  ·refine aL (fun σ=>f (Lb n pp (L.c 64) (some (.int a,.fl (ks.map .int)))) σ) ?_ (hf _ _ ⟨_,_,x2,rfl,rfl,C.more (c:=c),⟨gU.m0,gU.m1,gU.a0,fW gU.a1 (by lia),gU.g⟩⟩)
   rw[ia,←ku,←SA (L:=L) (N:=L.c 64) (x:=x2) (ds:=ds++cs.map kL),ia];rfl
 ·obtain⟨o,cs,x,rfl,rfl,C,ja⟩:=J
  rw[dF] at C ja
  have h4:2 * pp * (n+1)≤18 * 10:=Nat.mul_le_mul (by lia) (by lia)
  have h5:=C.l
  exact Ss (d:=d) (L:=LX L x) (by rw[cG,bJ,Al];lia) (D0 cs C) B0 (fG _) (by lia) fun k gA gB a f done B ha=>q k gA gB x _ a f done ⟨ja.m0,ja.m1,ja.a0,fW ja.a1 (by lia),ja.g⟩ B ha
 ·exact(Int.add_zero _).symm▸gO
end
structure Nt where
 fresh:Int
 aG:Int
 bL:Int
 left:Int
 kind:Int
 from_:Int
 again:List (Int×bQ)
 hand:List (Int×List Nat)
noncomputable def pC(n:Nt):List (Nm×V):=[(29,.ref ⟨129,0⟩),(78,.ref ⟨193,0⟩),(71,.int n.fresh),(167,.int n.aG),(214,.int n.bL),(100,.int n.left),(97,.int n.kind),(72,.int n.from_)]
structure Zz where
 a:Gh
 b:Gh
 c:Nat→Nat
 j:Nat→Nat→Option Cell
noncomputable abbrev Ln(x:Bx)(n:Nt)(z:Zz):Lw:=⟨x,pC n,n.again,n.hand,z.c,z.j⟩
abbrev WN(kA kB:Kn)(x:Bx)(n:Nt)(z:Zz):St:=WW kA z.a kB z.b (Ln x n z)
structure nR(n:Nt)(m:Nat):Prop where
 f:0≤n.fresh
 r:1≤n.aG∧n.aG≤9
 a:∀x∈n.again,∀i,x.2.good i
 h:∀x∈n.hand,(∀o∈x.2,o<256)∧x.2.length≤999
 al:n.again.length≤m
 hl:n.hand.length≤m
structure m6(n n':Nt):Prop where
 v:n'.bL=n.bL
 l:n'.left=n.left
 k:n'.kind=n.kind
 f:n'.from_=n.from_
 al:n'.again.length≤n.again.length
 hl:n'.hand.length≤n.hand.length
noncomputable abbrev Nt.plan(n:Nt)(l k fr:Int):Nt:={n with bL:=0,left:=l,kind:=k,from_:=fr}
def Bx.ok.mono{x:Bx}{n m:Int}(o:x.ok n)(h:n≤m):x.ok m:=⟨o.m0,o.m1,o.a0,fW o.a1 h,o.g⟩
section
def Hq(ok:x.ok n0)(hn:n0+3≤1000000)(q:∀x' l k fr z,x'.ok (n0+3)→0≤l→bC≤fr→Q .none (WN kA kB x' (n.plan l k fr) z)):ah (d+2) 92 [.ref ⟨1,0⟩,.ref ⟨65,0⟩,.int bC] (WN kA kB x n z) Q X:=
 G3 (L:=Ln x n z) ok hn (by decide:8≤9) fun x2 l k fr c j ok l0 _ _ _ f0=>aL (fun nd=>Q .none (WW kA z.a kB z.b ⟨x2,nd,n.again,n.hand,c,j⟩)) (rfl:pC (n.plan l k fr)=GZ (pC n) l k fr) (q x2 l k fr ⟨z.a,z.b,c,j⟩ ok l0 f0)
def SH(IA:au kA)(IB:au kB)(hA:i<kA.n)(lA:bh (kA.pr i))(eA:(kA.pr i).pid=pid)(hB:i<kB.n)(lB:bh (kB.pr i))(eB:(kB.pr i).pid=pid)(h0:i≠0)(dA:kA.ak.length≤900)(dB:kB.ak.length≤900)
  (T:TL lv l) (hp:∀c σ,Is (ah (d+8)) (l++[(39,c)]) σ pe (.int pid)) (hd:∀c σ,Is (ah (d+8)) (l++[(39,c)]) σ de (.tup [.str 61,.int t]))
  (q:∀gA gB,Q (.bool true) (WW (kA.exit i t) gA (kB.exit i t) gB L)):wE (ah (d+8)) (.cmp (.comp true (.call 88 [.v 39,pe,de]) (.v 39) (.e (.v 140)) [] sc) .eq (.lst true [.c (.int 0),.c (.int 0)])) lv (WW kA gA kB gB L) Q X:=
 AV (sc:=[]) (D := .exit t) IA IB hA lA eA hB lB eB h0 dA dB T hp hd (q:=fun gA gB=>(fun h=>h:∀{σ:St},Q (.bool true) σ→wE (ah (d+8)) (.lst true [(.c (.int 0)),(.c (.int 0))]) lv σ (fun b σ=>aQ (eN σ Co.eq (V.fl [.int 0,.int 0]) b) fun r=>Q (.bool r) σ) X) (q gA gB))
def AX(h:aF (pC n) m=some e):fy (WN kA kB x n z) (.ref ⟨65,0⟩) (.str m)=some e:=h
def fR(hl:aF lv 127=some (.ref ⟨65,0⟩))(h:aF (pC n) m=some e):Is cx lv (WN kA kB x n z) (.ix (.v 127) (.c (.str m))) e:=fun K X q=>aq hl (aq (AX h) q)
def qG(lv:Lv)(e:oi (bu f).params (bu f).dflt as=some lv)(h:wB (ah d) (bu f).body lv σ (cW Q X)):ah (d+1) f as σ Q X:=aZ (aq e h)
def SJ(ok:x.ok n0)(hn:n0+3≤1000000)(S:aJ (some i) s kA kB)(IA:au kA)(IB:au kB)(hB:kB.af[i]?=some b)(lB:bh b)(hv:b.pid=n.bL)(h0:i≠0)(dB:kB.ak.length≤900)
  (q:∀x' l k fr z,x'.ok (n0+3)→0≤l→bC+3≤fr→Q (.bool true) (WN (kA.exit i (-1)) (kB.exit i (-1)) x' (n.plan l k fr) z)):ah (d+9) 96 [.ref ⟨1,0⟩,gx,.ref ⟨65,0⟩,.int bC] (WN kA kB x n z) Q X:=by
 obtain⟨a,hA,P⟩:=S.get hB
 have lA:bh a:=fM (Or.inl (P.v rfl).1)
 have eA:=bH hA
 have eB:=bH hB
 refine qG [(38,.ref ⟨1,0⟩),(140,gx),(127,.ref ⟨65,0⟩),(193,.int bC)] rfl (B.E7 (v := .int n.bL) (fR rfl rfl) (B.ju (Hq (d:=d+6) ok hn fun x' l k fr z ok l0 f0=>?_)))
 exact B.ret (SH (L:=Ln x' (n.plan l k fr) z) IA IB (jD IA.ok hA) (eA▸lA) ((aa Pr.pid eA).trans (P.pid.trans hv)) (jD IB.ok hB) (eB▸lB) ((aa Pr.pid eB).trans hv) h0 (S.eqs.2.2.1▸dB) dB ⟨rfl,rfl,fun _=>rfl,fun _ _=>rfl,fun _=>rfl⟩ (fun _ _ _ _ h=>h) (fun _ _ _ _ h=>h) fun gA gB=>q x' l k fr ⟨gA,gB,z.c,z.j⟩ ok l0 f0)
end
structure Tk(S:Bx→St):Prop where
 t:∀{x:Bx} {n0 many:Int} {d:Nat} {Q:QV} {X:QX},x.ok n0→n0+1≤1000000→1≤many→(∀x' t,x'.ok (n0+1)→0≤t→t<many→Q (.int t) (S x'))→ah (d+1) 86 [.ref ⟨1,0⟩,.int many] (S x) Q X
section
variable{S:Bx→St}{H:List V}
def sA{t:Bool}(hc:lT cx lv σ c t)(q:t=true→wE cx a lv σ Q X)(q2:t=false→wE cx b lv σ Q X):wE cx (.ite c a b) lv σ Q X:=hc _ _ (by cases t;exact q2 rfl;exact q rfl)
def nS(h:wL cx es lv σ (fun vs σ=>Q (.tup vs) σ) X):wE cx (.tup es) lv σ Q X:=h
def AY:eN σ .ne (.fl l) (.fl [])=some (!l.isEmpty):=by cases l <;> rfl
def uG(h0:0≤t)(h1:t<l.length):∃v,l[t.toNat]?=some v∧fy σ (.fl l) (.int t)=some v:=by
 have h2:t.toNat<l.length:=by lia
 refine⟨l[t.toNat],bZ h2,?_⟩
 refine(?_:(place l.length t).bind (fun k=>l[k]?)=_)
 exact(aa (Option.bind · fun k=>l[k]?) ((if_pos h0).trans (if_pos h1):place l.length t=some t.toNat)).trans (bZ h2)
def Hr(hl:aF lv n=some (.fl l))(hw:aF lv 220=some (.int t))(hp:0<l.length)(he:fy σ (.fl l) (.int (t.fmod l.length))=some v):Is cx lv σ (.ix (.v n) (.bin .mod (.v 220) (.bi .len [.v n]))) v:=fun K X h=>aq hl (aq hw (aq hl (aq (o:=jO .mod (.int t) (.int l.length)) (nN (by lia)) (aq he h))))
def nU (pid:Int)(H:List V)(t:Int)(oc:List Nat)(I O:List V):Lv:=[(38,.ref ⟨1,0⟩),(39,rf 6 0),(127,.ref ⟨65,0⟩),(145,.int pid),(79,.fl H),(220,.int t),(131,.bytes oc),(83,.fl I),(139,.fl O)]
def SK(T:Tk S)(ok:x.ok n0)(hn:n0+1≤1000000)(h1:1<pid→i≠0)(q:∀x' (D:bQ),x'.ok (n0+1)→D.good i→Q D.v (S x')):wB (ah (d+4)) ((bu 93).body.drop 6) (nU pid H t oc I O) (S x) (cW Q X):=by
 have om:x.ok (n0+1):=ok.mono (by lia)
 refine B.ite (t:=(t==14)||((t==15)&&decide (1<pid))) (fun K X h=>qp (b:=t==14) (b2:=(t==15)&&decide (1<pid)) (fun _ _ h=>h) (fun _ _ h=>lY (b:=t==15) (b2:=decide (1<pid)) (fun _ _ h=>h) (fun _ _ _ h=>gr (fun _ _ h=>h) h) h) h) (fun e=>?_) fun _=>?_
 ·refine B.ret (sA (t:=t==14) (fun _ _ h=>h) (fun _=>T.t ok hn (by decide) fun x' u ok' _ _=>q x' (.lu (1+u)) ok' trivial) fun e2=>T.t ok hn (by decide) fun x' u ok' _ _=>q x' (.exit u) ok' (h1 ?_))
  rw[e2] at e
  exact iD (aE e).2
 ·refine B.ret (nS (aI (sA (t:=(12==t)||((13==t)||false)) (fun _ _ h=>h) (fun e=>?_) fun _=>q x .wait om trivial)))
  rcases l8.mp e with e | e
  ·obtain rfl:=eq_of_beq e
   exact q x .pipe om trivial
  ·obtain rfl:=eq_of_beq ((Bool.or_false _).symm.trans e)
   exact q x .fork om trivial
def SM(T:Tk S)(ok:x.ok n0)(hn:n0+1≤1000000)(h1:1<pid→i≠0)(hH:∀v∈H,∃(m:Nat) (w:V),v = .tup [.int m,w])(q:∀x' (D:bQ),x'.ok (n0+1)→D.good i→Q D.v (S x')):wB (ah (d+4)) ((bu 93).body.drop 5) (nU pid H t oc I O) (S x) (cW Q X):=by
 refine B.ite (t:=((10==t)||((11==t)||false)) && !H.isEmpty) (fun K X h=>lY (b:=(10==t)||((11==t)||false)) (b2 := !H.isEmpty) (fun _ _ h=>h) (fun _ _ _ h=>gr (fun _ _ h=>aq AY h) h) h) (fun e=>?_) fun _=>SK T ok hn h1 q
 obtain⟨e,e2⟩:=aE e
 have hp:0<H.length:=by cases H with | nil=>cases e2 | cons a r=>exact l9 _
 have g:∀{C:Nat→Prop},∀u:Int,0≤u→u<H.length→(∀(m:Nat) (w:V),fy (S x) (.fl H) (.int u)=some (.tup [.int m,w])→C m)→∃m,C m:=fun u u0 u1 h=>by
  obtain⟨v,hv,he⟩:=uG (σ:=S x) u0 u1
  obtain⟨m,w,rfl⟩:=hH v (dD hv)
  exact⟨m,h m w he⟩
 rcases l8.mp e with e | e
 ·obtain rfl:=eq_of_beq e
  exact B.ret (T.t ok hn (by lia) fun x' u ok' u0 u1=>(g (C:=fun m=>_) u u0 u1 fun m w e=>aq e (q x' (.close m) ok' trivial)).elim fun _ h=>h)
 ·obtain rfl:=eq_of_beq ((Bool.or_false _).symm.trans e)
  exact B.ret (T.t ok hn (by lia) fun x' u ok' u0 u1=>(g (C:=fun m=>_) u u0 u1 fun m w e=>aq e (q x' (.dup m) ok' trivial)).elim fun _ h=>h)
def SN(T:Tk S)(ok:x.ok n0)(hn:n0+1≤1000000)(h1:1<pid→i≠0)(hH:∀v∈H,∃(m:Nat) (w:V),v = .tup [.int m,w])(hI:∀v∈I,∃m:Nat,v = .int m)(q:∀x' (D:bQ),x'.ok (n0+1)→D.good i→Q D.v (S x')):wB (ah (d+4)) ((bu 93).body.drop 4) (nU pid H t oc I O) (S x) (cW Q X):=by
 refine B.ite (t:=decide (t<10) && !I.isEmpty) (fun K X h=>lY (b:=decide (t<10)) (b2 := !I.isEmpty) (fun _ _ h=>h) (fun _ _ _ h=>gr (fun _ _ h=>aq AY h) h) h) (fun e=>?_) fun _=>SM T ok hn h1 hH q
 have hp:0<I.length:=by cases I with | nil=>cases (aE e).2 | cons a r=>exact l9 _
 obtain⟨v,hv,he⟩:=uG (σ:=S x) (Int.fmod_nonneg_of_pos t (b:=I.length) (by lia)) (Int.fmod_lt_of_pos t (by lia))
 obtain⟨m,rfl⟩:=hI v (dD hv)
 exact B.ret (nS (aI (aR (v := .str 156) (fun _ _ h=>h) (aI (aR (Hr rfl rfl hp he) (aI (T.t ok hn (by decide) fun x' u ok' u0 _=>q x' (.read m (1+u)) ok' (sN u0))))))))
end
def m6.refl:m6 n n:=⟨rfl,rfl,rfl,rfl,cL _,cL _⟩
theorem Hs:∀{vs:List V},(∀v∈vs,∃o:Nat,o<256∧v = .int o)→∃os,sV vs=some os∧(∀o∈os,o<256)∧os.length=vs.length
 |[],_=>⟨[],rfl,fun _ h=>(by cases h),rfl⟩
 |v::r,h=>by
  obtain⟨os,e,h1,h2⟩:=Hs fun w hw=>h w (eY _ hw)
  obtain⟨o,ho,rfl⟩:=h v (eF ..)
  refine⟨o::os,?_,fun a ha=>?_,aa Nat.succ h2⟩
  ·refine(?_:((on ((0:Int)≤o∧(o:Int)<256) (o:Int)).bind fun i=>(sV r).map (i.toNat::·))=_)
   rw[show on ((0:Int)≤o∧(o:Int)<256) (o:Int)=some (o:Int) from if_pos ⟨jf _,jK.mpr ho⟩,e];rfl
  ·rcases cS.mp ha with rfl | ha
   ·exact ho
   ·exact h1 a ha
section
variable{H:List V}
def SO:Tk fun x=>WN kA kB x n z:=⟨fun{x _ _ _ _ _} ok hn h1 q=>ly (L:=Ln x n z) ok hn h1 q⟩
def SP:Mine.Internal.fQ (WN kA kB x n z) (.ref ⟨65,0⟩) (.str 71) (.int w)=some (WN kA kB x {n with fresh:=w} z):=aa some (xK (L:=Ln x n z) (nd:=pC {n with fresh:=w}))
def SQ(h:wE cx e lv σ (fun v σ=>aQ (sX σ v) fun l=>Q (.bytes l) σ) X):wE cx (.bi .bytes [e]) lv σ Q X:=h
def SR(h:wE cx e lv σ (fun v σ'=>wE cx (.comp zz elt (.v k) (.fq [.c v]) cs sc) lv σ' Q X) X):wE cx (.comp zz elt (.v k) (.fq [e]) cs sc) lv σ Q X:=h
def Ht(ha:Is cx lv σ a u)(h:wE cx b lv σ (fun w σ=>aQ (jO o u w) fun r=>Q r σ) X):wE cx (.bin o a b) lv σ Q X:=ha _ _ h
def gZ(h:wL cx es lv σ (fun vs σ=>cx f vs σ Q X) X):wE cx (.call f es) lv σ Q X:=h
def cE:Is cx lv σ (.c v) v:=fun _ _ h=>h
def vE{n:Nm}(e:aF lv n=some v):Is cx lv σ (.v n) v:=fun _ _ h=>aq e h
def bE{u w r:V}(ha:Is cx lv σ a u)(hb:Is cx lv σ b w)(e:jO o u w=some r):Is cx lv σ (.bin o a b) r:=fun _ _ h=>ha _ _ (hb _ _ (aq e h))
def SV{sc:List (Nm×Nat)}(ok:x.ok n0)(hn:n0+1≤1000000)(N:nR n m)(q:∀x' os,x'.ok (n0+1)→(∀o∈os,o<256)∧os.length≤999→Q (.bytes os) (WN kA kB x' n z)):
  wE (ah (d+4)) (.bi .bytes [(.comp true (.bin .add (.bin .mod (.ix (.v 127) (.c (.str 71))) (.c (.int 99))) (.v 92)) (.v 92) (.fq [(.bin .add (.c (.int 1)) (.call 86 [(.v 38),(.bin .add (.ix (.v 127) (.c (.str 167))) (.c (.int 2)))]))]) [] sc)]) (nU pid H t oc I O) (WN kA kB x n z) Q X:=by
 have hr:=N.r
 refine SQ (SR (Ht (u := .int 1) cE (gZ (aI (aR (v := .ref ⟨1,0⟩) (vE rfl) (aI (aR (v := .int (n.aG+2)) (bE (u := .int n.aG) (w := .int 2) (fR rfl rfl) cE rfl) (cu (ly (L:=Ln x n z) ok hn (by lia) fun x1 u gO a1 b1=>?_)))))))))
 obtain⟨k,hk,e⟩:∃k:Nat,k≤12∧1+u=(k:Int):=⟨(1+u).toNat,by lia,(nZ (Int.add_nonneg (by decide) a1)).symm⟩
 refine aL (fun y=>wE (ah (d+4)) (.comp true (.bin .add (.bin .mod (.ix (.v 127) (.c (.str 71))) (.c (.int 99))) (.v 92)) (.v 92) (.fq [.c (.int y)]) [] sc) (nU pid H t oc I O) (WN kA kB x1 n z) (fun v σ=>aQ (sX σ v) fun l=>Q (.bytes l) σ) X) e.symm ?_
 refine kT (vs:=List.range k) (h:=fun i:Nat=>V.int i) (c:=fun _=>true) (f:=fun i:Nat => .int (n.fresh.fmod 99+i)) (l:=nU pid H t oc I O) (fun K X h=>aq (mV (by lia)) h) rfl (ff (fun _=>rfl) fun _ _=>rfl) (fun _ _ _ h=>h) (fun i _ K h=>bE (bE (fR (m:=71) (e := .int n.fresh) rfl rfl) cE (nN (by decide))) (vE rfl) rfl _ _ h) (turns dF (by lia)) ?_
 obtain⟨os,h1,h2,h3⟩:=Hs (vs:=((List.range k).filter fun _=>true).map fun i:Nat => .int (n.fresh.fmod 99+i)) fun v hv=>by
  obtain⟨j,hj,rfl⟩:=bP.mp hv
  have:=fE.mp (dJ.mp hj).1
  have h0:=(qD (a:=n.fresh) (many:=99) (by decide))
  exact⟨(n.fresh.fmod 99+j).toNat,by lia,aa V.int (nZ (Int.add_nonneg h0.1 (jf _))).symm⟩
 refine aq h1 (q x1 os gO ⟨h2,?_⟩)
 have:=jd (fun _=>true) (List.range k)
 rw[h3,bJ]
 rw[dF] at this
 lia
def SW(ok:x.ok n0)(hn:n0+1≤1000000)(h1:1<pid→i≠0)(hH:∀v∈H,∃(m:Nat) (w:V),v = .tup [.int m,w])(hI:∀v∈I,∃m:Nat,v = .int m)(hO:∀v∈O,∃m:Nat,v = .int m)(N:nR n m)(hoc:(∀o∈oc,o<256)∧oc.length≤999)
  (q:∀x' n' (D:bQ),x'.ok (n0+1)→nR n' m→m6 n n'→D.good i→Q D.v (WN kA kB x' n' z)):wB (ah (d+4)) ((bu 93).body.drop 3) (nU pid H t oc I O) (WN kA kB x n z) (cW Q X):=by
 refine B.ite (t:=decide (t<10)&&(!O.isEmpty&&(decide (t<5) || !(oc==[])))) (fun K X h=>lY (b:=decide (t<10)) (b2 := !O.isEmpty&&(decide (t<5) || !(oc==[]))) (fun _ _ h=>h) (fun _ _ _ h=>lY (b := !O.isEmpty) (b2:=decide (t<5) || !(oc==[])) (fun _ _ h=>aq AY h) (fun _ _ _ h=>gr (fun K X h=>qp (b:=decide (t<5)) (b2 := !(oc==[])) (fun _ _ h=>h) (fun _ _ h=>h) h) h) h) h) (fun e=>?_) fun _=>SN (S:=fun x=>WN kA kB x n z) SO ok hn h1 hH hI fun x' D ok' hD=>q x' n D ok' N m6.refl hD
 have hp:0<O.length:=by cases O with | nil=>cases (aE (aE e).2).1 | cons a r=>exact l9 _
 obtain⟨v,hv,he⟩:=uG (σ:=⟨fun _=>none,fun _=>false⟩) (Int.fmod_nonneg_of_pos t (b:=O.length) (jK.mpr hp)) (Int.fmod_lt_of_pos t (jK.mpr hp))
 obtain⟨k,rfl⟩:=hO v (dD hv)
 have he:∀σ,fy σ (.fl O) (.int (t.fmod O.length))=some (.int k):=fun _=>he
 have fin:∀{Q':QF} {os:List Nat} {σ:St},Q' (.ret (bQ.write k os).v) (nU pid H t os I O) σ→wB (ah (d+4)) [.ret (.tup [(.c (.str 223)),(.ix (.v 139) (.bin .mod (.v 220) (.bi .len [(.v 139)]))),(.v 131)])] (nU pid H t os I O) σ Q':=fun h=>B.ret (nS (aI (aR (v := .str 223) (fun _ _ h=>h) (aI (aR (Hr rfl rfl hp (he _)) h)))))
 refine B.ite (t:=oc==[]) (fun _ _ h=>h) (fun _=>B.eT (SV ok hn N fun x' os ok' ho=>B.AO (b := .int os.length) (fun _ _ h=>h) (fun _ _ h=>h) (AX (m:=71) (e := .int n.fresh) rfl) (fun _ _ h=>h) rfl SP (B.nil (B.seq (fin (q x' {n with fresh:=n.fresh+os.length} (.write k os) ok' ⟨?_,N.r,N.a,N.h,N.al,N.hl⟩ ⟨rfl,rfl,rfl,rfl,cL _,cL _⟩ ho)))))) fun _=>B.nil (B.seq (fin (q x n (.write k oc) (ok.mono (by lia)) N m6.refl hoc)))
 exact Int.add_nonneg N.f (jf _)
end
noncomputable def iO{α:Type}:List (Int×α)→Int→Option α
 |[],_=>none
 |a::r,k=>if a.1=k then some a.2 else iO r k
theorem uH:∀{l:List (Int×α)},fH (l.map fun x=>(x.1,g x.2)) k=(iO l k).map g
 |[]=>rfl
 |a::r=>by
  refine(?_:(if a.1=k then some (g a.2) else fH (r.map fun x=>(x.1,g x.2)) k)=(if a.1=k then some a.2 else iO r k).map g)
  by_cases e:a.1=k
  ·rw[if_pos e,if_pos e];rfl
  ·rw[if_neg e,if_neg e];exact uH
theorem AZ:∀{l:List (Int×α)},iO l k=some v→(k,v)∈l
 |a::r,h=>by
  have h:(if a.1=k then some a.2 else iO r k)=some v:=h
  by_cases e:a.1=k
  ·rw[if_pos e] at h;exact cS.mpr (Or.inl (by rw[←e,←aT h]))
  ·rw[if_neg e] at h;exact eY _ (AZ h)
noncomputable def pD{α:Type}:List (Int×α)→Int→List (Int×α)
 |[],_=>[]
 |a::r,k=>if a.1=k then r else a::pD r k
theorem Hu{g:α→V}:∀{l:List (Int×α)},jN (l.map fun x=>(x.1,g x.2)) k=(pD l k).map fun x=>(x.1,g x.2)
 |[]=>rfl
 |a::r=>by
  refine(?_:(if a.1=k then(r.map fun x=>(x.1,g x.2)) else(a.1,g a.2)::jN (r.map fun x=>(x.1,g x.2)) k)=(if a.1=k then r else a::pD r k).map _)
  by_cases e:a.1=k
  ·rw[if_pos e,if_pos e]
  ·rw[if_neg e,if_neg e,Hu];rfl
theorem xP:∀{l:List (Int×α)},List.Sublist (pD l k) l
 |[]=>List.Sublist.slnil
 |a::r=>by
  refine(?_:List.Sublist (if a.1=k then r else a::pD r k) (a::r))
  by_cases e:a.1=k
  ·rw[if_pos e];exact List.sublist_cons_self a r
  ·rw[if_neg e];exact List.Sublist.cons_cons a xP
section
def dz{u w:V}(ha:Is cx lv σ a u)(hb:Is cx lv σ b w)(e:eN σ o u w=some r):lT cx lv σ (.cmp a o b) r:=fun _ _ h=>ha _ _ (hb _ _ (aq e h))
def B.xQ{t:T}{Q:QF}(q:wE cx e lv σ (fun v σ=>wA cx t v lv σ fun lv σ=>wB cx b lv σ Q) fun x σ=>Q (.exc x) lv σ):wB cx (.asg t e::b) lv σ Q:=q
def SX:eN (WN kA kB x n z) .mem (.int pid) (.ref ⟨129,0⟩)=some (iO n.again pid).isSome:=by
 refine(aa (fun o:Option V=>some o.isSome) (uH (g:=bQ.v) (l:=n.again) (k:=pid))).trans ?_
 cases iO n.again pid <;> rfl
def SY:iH (WN kA kB x n z) ⟨193,0⟩ 74 [.int pid,.bytes []]=some (.bytes ((iO n.hand pid).getD []),WN kA kB x n z):=by
 refine(?_:some ((fH (n.hand.map fun x=>(x.1,V.bytes x.2)) pid).getD (.bytes []),(WN kA kB x n z).set ⟨193,0⟩ (.bI (n.hand.map fun x=>(x.1,V.bytes x.2))))=_)
 rw[uH (g:=V.bytes),show(WN kA kB x n z).set ⟨193,0⟩ (.bI (n.hand.map fun x=>(x.1,V.bytes x.2)))=WN kA kB x n z from GU (L:=Ln x n z)]
 cases iO n.hand pid <;> rfl
def S6(h:iO n.again pid=some D):iH (WN kA kB x n z) ⟨129,0⟩ 151 [.int pid]=some (D.v,WN kA kB x {n with again:=pD n.again pid} z):=by
 refine(?_:((fH (n.again.map fun x=>(x.1,x.2.v)) pid).map fun v=>(v,Cell.bI (jN (n.again.map fun x=>(x.1,x.2.v)) pid))).map (fun q=>(q.1,(WN kA kB x n z).set ⟨129,0⟩ q.2))=_)
 rw[uH (g:=bQ.v),h,Hu (g:=bQ.v)]
 exact aa (fun s=>some (D.v,s)) (AN (L:=Ln x n z) (ag:=pD n.again pid))
def Hv{fld:Nm}{g:Nat→Bool}(hl:sl.length≤99)(hf:∀f,mu σ (rf 7 f) fld=some (.bool (g f)))(hh:aF lv 79=some (.fl ((aU sl).map jE)))(h0:dQ [168] lv=lv)(h1:∀u,aB lv 168 u=lv++[(168,u)])(h2:∀u v,aB (lv++[(168,u)]) 168 v=lv++[(168,v)])(h3:∀u,aF (lv++[(168,u)]) 168=some u)
  (q:∀I,(∀v∈I,∃m:Nat,v = .int m)→Q (.fl I) σ):wE cx (.comp true (.ix (.v 168) (.c (.int 0))) (.v 168) (.e (.v 79)) [.at (.ix (.v 168) (.c (.int 1))) fld] sc) lv σ Q X:=
 kT (vs:=aU sl) (h:=jE) (c:=fun y=>y.2.elim false g) (f:=fun y => .int y.1) (fun K X h=>aq hh h) h0 (ff h1 h2) (fun y hy K h=>gr (b:=y.2.elim false g) (fun K X h=>aq (h3 _) (by
  obtain⟨f,e,_⟩:=wX hy
  obtain⟨a,b⟩:=y
  cases e
  exact aq (o:=mu σ (rf 7 f) fld) (hf f) h)) h) (fun y _ K h=>aq (h3 _) h) (turns rfl (aH (jd _ _) (by rw[List.length_zip,dF,Nat.min_self];exact aH hl (by decide)))) (q _ fun v hv=>by
  obtain⟨y,_,rfl⟩:=bP.mp hv
  exact⟨y.1,rfl⟩)
end
section
theorem m6.trans(a:m6 n n')(b:m6 n' xR):m6 n xR:=⟨b.v.trans a.v,b.l.trans a.l,b.k.trans a.k,b.f.trans a.f,aH b.al a.al,aH b.hl a.hl⟩
def S7(ok:x.ok n0)(hn:n0+3≤1000000)(N:nR n m)(IA:au kA)(hi:i<kA.n)(lA:bh (kA.pr i))(ep:(kA.pr i).pid=pid)(h1:1<pid→i≠0)
  (q:∀x' n' (D:bQ),x'.ok (n0+3)→nR n' m→m6 n n'→D.good i→Q D.v (WN kA kB x' n' z)):ah (d+5) 93 [.ref ⟨1,0⟩,rf 6 0,.ref ⟨65,0⟩,.int pid] (WN kA kB x n z) Q X:=by
 obtain⟨sl,hs⟩:=IA.lX (IA.ok.pr hi) lA
 have hl:sl.length≤99:=(IA.ok.fs _ _ _ (IA.ok.pr hi) hs).1▸IA.ok.sl.2
 have hf:kA.nL pid=some i:=ep▸IA.find hi lA.1
 refine qG [(38,.ref ⟨1,0⟩),(39,rf 6 0),(127,.ref ⟨65,0⟩),(145,.int pid)] rfl (B.ite (t:=(iO n.again pid).isSome) (dz (vE rfl) (fR (m:=29) (e := .ref ⟨129,0⟩) rfl rfl) SX) (fun e=>?_) fun _=>?_)
 ·obtain⟨D,hD⟩:=qR.mp e
  exact B.ret (c6 (fR (m:=29) (e := .ref ⟨129,0⟩) rfl rfl) (aq (sy (c := .bI (n.again.map fun x=>(x.1,x.2.v))) rfl rfl rfl) (aI (aR (v := .int pid) (vE rfl) (cu (aq (S6 hD) (q x {n with again:=pD n.again pid} D (ok.mono (by lia)) ⟨N.f,N.r,fun y h=>N.a y (xP.subset h),N.h,aH xP.length_le N.al,N.hl⟩ ⟨rfl,rfl,rfl,rfl,xP.length_le,cL _⟩ (N.a _ (AZ hD) i))))))))
 have hH:∀v∈(aU sl).map jE,∃(m:Nat) (w:V),v = .tup [.int m,w]:=fun v hv=>by
  obtain⟨y,_,rfl⟩:=bP.mp hv
  exact⟨y.1,cX y.2,rfl⟩
 have hoc:(∀o∈(iO n.hand pid).getD [],o<256)∧((iO n.hand pid).getD []).length≤999:=by
  cases h:iO n.hand pid with
  |none=>exact⟨fun _ h=>(by cases h),fG _⟩
  |some oc=>exact N.h _ (AZ h)
 have hF:Is (ah (d+4)) [(38,.ref ⟨1,0⟩),(39,rf 6 0),(127,.ref ⟨65,0⟩),(145,.int pid)] (WN kA kB x n z) (.at (.ao (.v 39) 152 [.v 145]) 64) (rf 9 (vx z.a.d i)):=fun K X h=>c6 (vE rfl) (jx IA.ok.nl hf (aL (fun o:Option (List (Option Nat))=>K (o.elim .none fun _=>rf 9 (vx z.a.d i)) (WN kA kB x n z)) hs.symm h))
 refine B.nil (B.seq ?_)
 refine B.xQ (nS (aI ?_))
 refine c6 hF (uu (i6 IA.ok hi) hs hl ?_)
 refine aI (gZ (aI (aR (v := .ref ⟨1,0⟩) (vE rfl) (aI (aR (v := .int 16) cE (cu ?_))))))
 refine ly (L:=Ln x n z) ok (by lia) (by decide) fun x1 t gO t0 t1=>?_
 refine aI (c6 (fR (x:=x1) (m:=78) (e := .ref ⟨193,0⟩) rfl rfl) (aq (sy (c := .bI (n.hand.map fun x=>(x.1,V.bytes x.2))) rfl rfl rfl) (aI (aR (v := .int pid) (vE rfl) (aI (aR (v := .bytes []) cE (cu (aq SY (cu ⟨rfl,?_⟩)))))))))
 refine B.xQ (nS (aI (Hv (g:=fun f=>(kA.fi f).rd) hl (fun f=>rfl) rfl rfl (fun _=>rfl) (fun _ _=>rfl) (fun _=>rfl) fun I hI=>aI (Hv (g:=fun f => !(kA.fi f).rd) hl (fun f=>rfl) rfl rfl (fun _=>rfl) (fun _ _=>rfl) (fun _=>rfl) fun O hO=>cu ⟨rfl,?_⟩))))
 exact SW (x:=x1) (t:=t) gO (by lia) h1 hH hI hO N hoc fun x' n' D ok' N' ND hD=>q x' n' D (ok'.mono (by lia)) N' ND hD
end
def Kn.tick(k:Kn):Kn:=({k with bO:=k.bO+1}:Kn).wake kZ
theorem au.tick(I:au k):au k.tick:=
 have J:au {k with bO:=k.bO+1}:=⟨⟨I.ok.n,I.ok.n0,I.ok.nl,I.ok.par,I.ok.fs,I.ok.sl,I.ok.file,I.ok.of,I.ok.bq,I.ok.size,I.ok.made,I.ok.dict⟩,I.first,I.ip,I.aK,I.fl,I.di,I.dl,I.ol,I.ml⟩
 J.wake
theorem aJ.tick(S:aJ az s kA kB):aJ az s kA.tick kB.tick:=by
 have:=aJ.rest (f:=fun k=>{k with bO:=kB.bO+1}) S (fun _=>rfl) rfl
 have e:({kA with bO:=kA.bO+1}:Kn)={kA with bO:=kB.bO+1}:=by rw[S.eqs.2.2.2.2.2.2.2.1]
 unfold Kn.tick
 rw[e]
 exact this.wake
structure LI(pn:Nat)(az:Option Nat)(kA kB:Kn)(n:Nt)(c:Nat):Prop where
 IA:au kA
 IB:au kB
 S:aJ az true kA kB
 N:nR n c
 v:(az=none∧n.bL=0)∨∃i p,az=some i∧i≠0∧kB.af[i]?=some p∧bh p∧p.pid=n.bL
 pl:kB.ak.length≤c∧kB.n=pn
def NB (z:Rs V×Kn):Prop:=∀l,z.1 ≠ .ok (.bytes l)
section
variable{k:Kn}
theorem NB.ok(h:∀l,v ≠ .bytes l):NB (.ok v,k):=fun l e=>by injection e with e;exact h l e
theorem NB.bg:NB k.bg:=fun l e=>by exact xo e
def NB.bad:NB (.exc .cU,k):=fun l e=>by exact xo e
def NB.aG:NB (noRoom k):=fun l e=>by exact xo e
theorem NB.bif(h:NB z)(h2:NB w):NB (bif b then z else w):=by cases b <;> assumption
theorem NB.elim{o:Option α}(h:NB z)(h2:∀a,NB (f a)):NB (o.elim z f):=by cases o;exact h;exact h2 _
def NB.sleep:NB (k.cZ i c):=NB.bif NB.bad (NB.ok fun l=>(vk rfl))
def nb(h:NB z):¬z.1 = .ok (.bytes l):=h l
end
def S8(I:au k){i:Nat}(h:k.af[i]?=some p)(hp:bh p)(e:(k.act i D).1 = .ok (.bytes l)):(∀o∈l,o<256)∧l.length≤999:=by
 obtain⟨sl,h2⟩:=I.lX h hp
 cases D with
 |read m c=>
  have e:(k.kX i m c).1 = .ok (.bytes l):=e
  by_cases hs:∃f,sl[m]?=some (some f)
  ·obtain⟨f,h3⟩:=hs
   obtain⟨y,x,hy,hx,_⟩:=I.heldBy h h2 h3
   rw[w5 (kY h h2 h3) hy hx] at e
   have r:=I.ok.bq _ _ hx
   cases ey:y.rd with
   |false=>rw[ey] at e;exact xo e
   |true=>
    rw[ey] at e
    have e:(bif x.blocks c then k.cZ i (c9 y.pipe false) else(.ok (.bytes (x.out k.size (x.gives c))),(k.aY y.pipe (x.read c)).wake (c9 y.pipe true))).1 = .ok (.bytes l):=e
    cases eb:x.blocks c with
    |true=>
     rw[eb] at e
     have e:(k.cZ i (c9 y.pipe false)).1 = .ok (.bytes l):=e
     unfold Kn.cZ at e
     cases ek:(k.pr i).cN with
     |true=>rw[ek] at e;exact xo e
     |false=>rw[ek] at e;exact FZ rfl e
    |false=>
     rw[eb] at e
     injection e with e
     injection e with e
     subst e
     have:=Pp.z4 (c:=c) r.2.1
     have hs:=I.ok.size.2
     refine⟨fun o ho=>?_,?_⟩
     ·obtain⟨j,_,rfl⟩:=bP.mp ho
      obtain⟨f0,f1⟩:=I.ok.fm r.1 (x.rc+(j:Nat))
      have:((x.rc+(j:Nat)).fmod k.size).toNat<x.bq.length:=by omega
      rw[List.getD_eq_getElem?_getD,bZ this]
      exact r.2.2.2.2 _ (List.getElem_mem this)
     ·show((List.range (x.gives c)).map _).length≤999
      rw[bJ,dF];omega
  ·rw[w6 (mX h h2 fun f e=>hs ⟨f,e⟩)] at e;exact xo e
 |write m os=>
  have e:(k.kW i m os).1 = .ok (.bytes l):=e
  by_cases hs:∃f,sl[m]?=some (some f)
  ·obtain⟨f,h3⟩:=hs
   obtain⟨y,x,hy,hx,_⟩:=I.heldBy h h2 h3
   rw[w7 (kY h h2 h3) hy hx] at e
   exact absurd e (nb (.bif .bg (.bif (.sleep) (.bif .bad (.ok fun l=>(vk rfl))))))
  ·rw[w9 (mX h h2 fun f e=>hs ⟨f,e⟩)] at e;exact xo e
 |close m=>exact absurd e (nb (NB.elim .bg fun _ => .ok fun l=>(vk rfl)))
 |dup m=>exact absurd e (nb (NB.elim .bg fun _=>NB.elim .bg fun _ => .bif (.ok fun l=>(vk rfl)) .aG))
 |lu t=>exact absurd e (nb (.bif .sleep (.ok fun l=>(vk rfl))))
 |exit s=>exact FZ rfl e
 |pipe=>exact absurd e (nb (.bif .aG (.ok fun l=>(vk rfl))))
 |fork=>exact absurd e (nb (.bif (.ok fun l=>(vk rfl)) .aG))
 |wait=>exact absurd e (nb (NB.elim (.bif .bg (.ok fun l=>(vk rfl))) fun _ => .ok fun l=>(vk rfl)))
def S9{D:bQ}(h:D.good i)(n:∀s,D ≠ .exit s):∀j,D.good j:=fun j=>by
 cases D with
 |exit s=>exact absurd rfl (n s)
 |_=>exact h
noncomputable def dk:bQ→V
 |.write _ _ => .str 223
 |.read _ _ => .str 156
 |.close _ => .str 46
 |.dup _ => .str 57
 |.lu _ => .str 110
 |.exit _ => .str 61
 |.pipe => .str 147
 |.fork => .str 67
 |.wait => .str 215
noncomputable def xS:bQ→Bool
 |.write _ _=>true
 |.read _ _=>true
 |_=>false
def Tc:eN s .mem (dk D) (.tup [.str 156,.str 223])=some (xS D):=by cases D <;> rfl
noncomputable def Td:V→List Nat
 |.bytes l=>l
 |_=>[]
def N2 (z:Rs V×Kn):Prop:=∀x y,z.1 ≠ .ok (.tup [.int x,.int y])
section
variable{k:Kn}
theorem N2.ok(h:∀x y,v ≠ .tup [.int x,.int y]):N2 (.ok v,k):=fun x y e=>by injection e with e;exact h x y e
theorem N2.bg:N2 k.bg:=fun _ _ e=>by exact xo e
def N2.bad:N2 (.exc .cU,k):=fun _ _ e=>by exact xo e
theorem N2.bif(h:N2 z)(h2:N2 w):N2 (bif b then z else w):=by cases b <;> assumption
theorem N2.elim{o:Option α}(h:N2 z)(h2:∀a,N2 (f a)):N2 (o.elim z f):=by cases o;exact h;exact h2 _
def N2.sleep:N2 (k.cZ i c):=N2.bif N2.bad (N2.ok fun _ _=>(vk rfl))
theorem N2.act{D:bQ}(h:xS D=true):N2 (k.act i D):=by
 cases D with
 |write m os=>exact N2.elim N2.bg fun _=>N2.elim N2.bg fun _=>N2.elim N2.bg fun _=>N2.bif N2.bg (N2.bif N2.sleep (N2.bif N2.bad (N2.ok fun _ _=>(vk rfl))))
 |read m c=>exact N2.elim N2.bg fun _=>N2.elim N2.bg fun _=>N2.elim N2.bg fun _=>N2.bif (N2.bif N2.sleep (N2.ok fun _ _=>(vk rfl))) N2.bg
 |_=>exact ft h
def Te(h:N2 z):∀x y,cK z.1 ≠ .tup [.int x,.int y]:=fun x y e=>by
 cases c:z.1 with
 |ok v=>rw[c] at e;exact h x y (c.trans (aa Rs.ok e))
 |exc ex=>
  rw[c] at e
  have e:(if Ex.cU=ex then V.str 163 else .str 119) = .tup [.int x,.int y]:=e
  by_cases q:Ex.cU=ex
  ·rw[if_pos q] at e;exact vk rfl e
  ·rw[if_neg q] at e;exact vk rfl e
def Tf{z:Rs V×Kn}(e:cK z.1 = .none):z.1 = .ok .none:=by
 cases c:z.1 with
 |ok v=>rw[c] at e;exact aa Rs.ok e
 |exc ex=>
  rw[c] at e
  have e:(if Ex.cU=ex then V.str 163 else .str 119) = .none:=e
  by_cases q:Ex.cU=ex
  ·rw[if_pos q] at e;exact vk rfl e
  ·rw[if_neg q] at e;exact vk rfl e
def Tg{z:Rs V×Kn}(e:cK z.1 = .bytes l):z.1 = .ok (.bytes l):=by
 cases c:z.1 with
 |ok v=>rw[c] at e;exact aa Rs.ok e
 |exc ex=>
  rw[c] at e
  have e:(if Ex.cU=ex then V.str 163 else .str 119) = .bytes l:=e
  by_cases q:Ex.cU=ex
  ·rw[if_pos q] at e;exact vk rfl e
  ·rw[if_neg q] at e;exact vk rfl e
def Hw(h:Plain v)(n:v ≠ .none):jk s v .none=some false:=by
 cases h with
 |none=>exact absurd rfl n
 |_=>rfl
def Th:eN s .eq (dk D) (.str 61)=some (match D with | .exit _=>true | _=>false):=by cases D <;> rfl
end
section
def LI.xT{L:LI pn az kA kB n c}(e:az=some i):∃p,kB.af[i]?=some p∧bh p∧p.pid=n.bL∧i≠0:=by
 rcases L.v with⟨h,_⟩ | ⟨j,p,h,h0,hp,hl,hv⟩
 ·rw[e] at h;exact sn h
 ·rw[e] at h;injection h with h;subst h
  exact⟨p,hp,hl,hv,h0⟩
def LI.mono(L:LI pn az kA kB n c)(h:c≤m):LI pn az kA kB n m:=⟨L.IA,L.IB,L.S,⟨L.N.f,L.N.r,L.N.a,L.N.h,aH L.N.al h,aH L.N.hl h⟩,L.v,aH L.pl.1 h,L.pl.2⟩
end
noncomputable def l5{α:Type}(l:List (Int×α))(k:Int)(v:α):List (Int×α):=match l with
 |[]=>[(k,v)]
 |a::r=>if a.1=k then(a.1,v)::r else a::l5 r k v
theorem A0{g:α→V}:∀{l:List (Int×α)},nt (l.map fun x=>(x.1,g x.2)) k (g v)=(l5 l k v).map fun x=>(x.1,g x.2)
 |[]=>rfl
 |a::r=>by
  show(if a.1=k then(a.1,g v)::_ else(a.1,g a.2)::nt (r.map fun x=>(x.1,g x.2)) k (g v))=(if a.1=k then(a.1,v)::r else a::l5 r k v).map _
  by_cases e:a.1=k
  ·rw[if_pos e,if_pos e];rfl
  ·rw[if_neg e,if_neg e,A0];rfl
theorem A1:∀{l:List (Int×α)},(l5 l k v).length≤l.length+1
 |[]=>cL _
 |a::r=>by
  show(if a.1=k then(a.1,v)::r else a::l5 r k v).length≤r.length+1+1
  by_cases e:a.1=k
  ·rw[if_pos e];exact Nat.le_succ _
  ·rw[if_neg e];exact lF A1
theorem A2:∀{l:List (Int×α)},y∈l5 l k v→y.2=v∨y∈l
 |[],h=>by rw[gf.mp h];exact Or.inl rfl
 |a::r,h=>by
  have h:y∈(if a.1=k then(a.1,v)::r else a::l5 r k v):=h
  by_cases e:a.1=k
  ·rw[if_pos e] at h
   rcases cS.mp h with rfl | h
   ·exact Or.inl rfl
   ·exact Or.inr (eY _ h)
  ·rw[if_neg e] at h
   rcases cS.mp h with rfl | h
   ·exact Or.inr (eF ..)
   ·exact(A2 h).imp id (eY _)
section
def Hx:(H k g r).set (lb 5 0) (.inst (wh {k with bO:=t}))=H {k with bO:=t} g r:=
 iZ rfl (fun a y hn=>kind (fun _=>rfl) (kind (fun _=>rfl) (kind (fun _=>rfl) (kind (fun _=>rfl) (kind (fun _=>rfl) (kind (fun _=>rfl) (kind (fun _=>rfl) (kind (fun _=>rfl) (kind (fun _=>rfl) (kind (fun e=>jy (hn e)) rfl)))))))))) rfl fun _ _=>rfl
def Ti:(eG σ).set (gi l) (eZ c)=eG (σ.set l c):=by
 refine St.ext (fun m=>?_) fun _=>rfl
 refine(?_:(bif Loc.beq m (gi l) then some (eZ c) else(σ.hp (gi m)).map eZ)=(bif Loc.beq (gi m) l then some c else σ.hp (gi m)).map eZ)
 by_cases e:m=gi l
 ·subst e;rw[mF,mD,mD];rfl
 ·rw[mE e,mE fun h=>e (mF.symm.trans (aa gi h))];rfl
def Tj:(WW kA gA kB gB L).set (gi (lb 5 0)) (eZ (.inst (wh {kB with bO:=t})))=WW kA gA {kB with bO:=t} gB L:=by
 have e:∀k,WW kA gA k gB L=eG (H k gB (HB (fz kA gA) (fc kA gA) (eG (LH L)))):=fun k=>by
  refine(Eq.trans (aa (fun r=>Ho _ _ (HB _ _ r)) (xF (LH L)).symm) AK.symm)
 rw[e,e,Ti,Hx]
def aM.tk(K:aM k):aM {k with bO:=t}:=⟨K.n,K.n0,K.nl,K.par,K.fs,K.sl,K.file,K.of,K.bq,K.size,K.made,K.dict⟩
def Lt (bC:Int)(ids:List Int)(o:Option V):Lv:=[(38,.ref ⟨1,0⟩),(140,gx),(127,.ref ⟨65,0⟩),(193,.int bC),(161,.fl (ids.map .int))]++o.elim [] fun c=>[(39,c)]
def Tn(KA:aM kA)(KB:aM kB)(q:Q .next (Lt bC ids (some (cj (rf 6 0)))) (WW kA.tick gA kB.tick gB L)):
  wB (ah (d+2)) [(.c7 (.v 39) (.e (.v 140)) [(.asg (.at (.at (.v 39) 94) 191) (.bin .add (.at (.at (.v 39) 94) 191) (.c (.int 1)))),(.ex (.ao (.at (.at (.v 39) 94) 186) 219 [(.g 20)]))])] (Lt bC ids none) (WW kA gA kB gB L) Q:=by
 refine B.t6 (u:=rf 6 0) (v:=cj (rf 6 0)) (fun K X h=>h) ?_
 refine B.set (lv:=Lt bC ids (some (rf 6 0))) (v := .int (kA.bO+1)) (u:=rf 5 0) (σ':=WW {kA with bO:=kA.bO+1} gA kB gB L) (fun _ _ h=>h) (fun _ _ h=>h) (aa some Hx) (B.ju ?_)
 refine c6 (u:=rf 11 0) (fun _ _ h=>h) (o6 (k:={kA with bO:=kA.bO+1}) (c:=kZ) KA.tk fun v=>B.nil ?_)
 refine B.set (lv:=Lt bC ids (some (cj (rf 6 0)))) (v := .int (kB.bO+1)) (u:=cj (rf 5 0)) (σ':=WW kA.tick gA {kB with bO:=kB.bO+1} gB L) (fun _ _ h=>h) (fun _ _ h=>h) (aa some (Tj (kA:=kA.tick) (kB:=kB) (gA:=gA) (gB:=gB) (L:=L) (t:=kB.bO+1))) (B.ju ?_)
 exact c6 (u:=cj (rf 11 0)) (fun _ _ h=>h) (qC (as:=[rf 11 0,kZ.v]) rfl (o6 (k:={kB with bO:=kB.bO+1}) (c:=kZ) KB.tk fun v=>sj (R:=fun σ=>Q .next (Lt bC ids (some (cj (rf 6 0)))) σ) q))
end
structure Lf(lv:Lv)(bC pid:Int)(D:bQ)(va vt:V):Prop where
 box:aF lv 38=some (.ref ⟨1,0⟩)
 pair:aF lv 140=some gx
 qH:aF lv 127=some (.ref ⟨65,0⟩)
 bC:aF lv 193=some (.int bC)
 pid:aF lv 145=some (.int pid)
 Hy:aF lv 51=some D.v
 cK:aF lv 192=some (.fl [va,vt])
section
def eu(ha:Is cx lv σ a u)(hb:Is cx lv σ b w)(e:fy σ u w=some r):Is cx lv σ (.ix a b) r:=fun _ _ h=>ha _ _ (hb _ _ (aq e h))
def To(h:n.again.length≤999):Mine.Internal.fQ (WN kA kB x n z) (.ref ⟨129,0⟩) (.int pid) D.v=some (WN kA kB x {n with again:=l5 n.again pid D} z):=by
 refine(?_:((on ((n.again.map fun x=>(x.1,x.2.v)).length<bz) (Cell.bI (nt (n.again.map fun x=>(x.1,x.2.v)) pid D.v))).map fun cc=>(WN kA kB x n z).set ⟨129,0⟩ cc)=_)
 rw[show on ((n.again.map fun x=>(x.1,x.2.v)).length<bz) _=some _ from if_pos (by rw[bJ];exact small h),A0 (g:=bQ.v)]
 exact aa some (AN (L:=Ln x n z) (ag:=l5 n.again pid D))
def Tq{os:List Nat}(h:n.hand.length≤999):Mine.Internal.fQ (WN kA kB x n z) (.ref ⟨193,0⟩) (.int pid) (.bytes os)=some (WN kA kB x {n with hand:=l5 n.hand pid os} z):=by
 refine(?_:((on ((n.hand.map fun x=>(x.1,V.bytes x.2)).length<bz) (Cell.bI (nt (n.hand.map fun x=>(x.1,V.bytes x.2)) pid (.bytes os)))).map fun cc=>(WN kA kB x n z).set ⟨193,0⟩ cc)=_)
 rw[show on ((n.hand.map fun x=>(x.1,V.bytes x.2)).length<bz) _=some _ from if_pos (by rw[bJ];exact small h),A0 (g:=V.bytes)]
 exact aa some (GU (L:=Ln x n z) (hd:=l5 n.hand pid os))
def Tt(hv:Plain vt)(n2:∀x y,vt ≠ .tup [.int x,.int y])(nn:vt ≠ .none)(h:Is cx lv σ e vt):Is cx lv σ (.ite (.nh e .bytes) e (.c (.bytes []))) (.bytes (Td vt)):=by
 cases hv with
 |none=>exact absurd rfl nn
 |two x y=>exact absurd rfl (n2 x y)
 |bytes l=>exact fun K X q=>h _ _ (h _ _ q)
 |_=>exact fun K X q=>h _ _ q
def A3(F:Lf lv bC pid D va vt):Is cx lv σ (.ix (.v 51) (.c (.int 0))) (dk D):=eu (vE F.Hy) cE (by cases D <;> rfl)
def uI(F:Lf lv bC pid D va vt):Is cx lv σ (.ix (.v 192) (.c (.int 0))) va:=eu (vE F.cK) cE rfl
def A4(F:Lf lv bC pid D va vt):Is cx lv σ (.ix (.v 192) (.c (.int 1))) vt:=eu (vE F.cK) cE rfl
def Tu(F:Lf lv bC pid D vt vt)(hv:Plain vt)(hb:∀l,vt = .bytes l→(∀o∈l,o<256)∧l.length≤999)(hD:vt = .none→∀j,D.good j)(hrw:xS D=true→∀x y,vt ≠ .tup [.int x,.int y])(L:LI pn az kA kB n c)(hc:c≤99)
  (q:∀n',LI pn az kA kB n' (c+1)→Q (.bool true) (WN kA kB x n' z)):wB (ah (d+9)) ((bu 97).body.drop 7) lv (WN kA kB x n z) (cW Q X):=by
 have fin:∀{n':Nt},LI pn az kA kB n' (c+1)→wB (ah (d+9)) [.ret (.cmp (.ix (.v 192) (.c (.int 0))) .eq (.ix (.v 192) (.c (.int 1))))] lv (WN kA kB x n' z) (cW Q X):=fun{n'} L=>B.ret (uI F _ _ (eu (vE F.cK) cE (r:=vt) rfl _ _ (aq hv.eq (q n' L))))
 by_cases e:vt = .none
 ·subst e
  refine B.ite (t:=true) (dz (uI F) cE rfl) (fun _=>?_) tf
  refine B.fQ (vE F.Hy) (fR (m:=29) (e := .ref ⟨129,0⟩) F.qH rfl) (vE F.pid) (To (aH L.N.al (by omega))) (B.nil (B.seq (fin ⟨L.IA,L.IB,L.S,⟨L.N.f,L.N.r,fun y hy j=>?_,L.N.h,aH A1 (lF L.N.al),g9 L.N.hl⟩,L.v,⟨g9 L.pl.1,L.pl.2⟩⟩)))
  rcases A2 hy with h | h
  ·exact h▸hD rfl j
  ·exact L.N.a y h j
 ·refine B.ite (t:=false) (dz (uI F) cE (Hw (s:=WN kA kB x n z) hv e)) ft fun _=>B.ite (t:=xS D) (dz (A3 F) (w := .tup [.str 156,.str 223]) (fun _ _ h=>h) Tc) (fun er=>?_) fun er=>B.nil (B.seq (B.nil (B.seq (fin ⟨L.IA,L.IB,L.S,⟨L.N.f,L.N.r,L.N.a,L.N.h,g9 L.N.al,g9 L.N.hl⟩,L.v,⟨g9 L.pl.1,L.pl.2⟩⟩))))
  refine B.fQ (Tt hv (hrw er) e (uI F)) (fR (m:=78) (e := .ref ⟨193,0⟩) F.qH rfl) (vE F.pid) (Tq (aH L.N.hl (by omega))) (B.nil (B.seq (B.nil (B.seq (fin ⟨L.IA,L.IB,L.S,⟨L.N.f,L.N.r,L.N.a,fun y hy=>?_,g9 L.N.al,aH A1 (lF L.N.hl)⟩,L.v,⟨g9 L.pl.1,L.pl.2⟩⟩)))))
  rcases A2 hy with h | h
  ·rw[h]
   cases hv with
   |bytes l=>exact hb l rfl
   |_=>exact⟨fun o ho=>(by cases ho),fG _⟩
  ·exact L.N.h y h
end
section
def Tv:aF (Lt bC ids o) 38=some (.ref ⟨1,0⟩)∧aF (Lt bC ids o) 161=some (.fl (ids.map .int))∧(aF (aB (Lt bC ids o) 145 (.int pid)) 38=some (.ref ⟨1,0⟩)∧aF (aB (Lt bC ids o) 145 (.int pid)) 140=some gx∧aF (aB (Lt bC ids o) 145 (.int pid)) 127=some (.ref ⟨65,0⟩)∧aF (aB (Lt bC ids o) 145 (.int pid)) 193=some (.int bC)∧aF (aB (Lt bC ids o) 145 (.int pid)) 145=some (.int pid)):=by
 cases o <;> exact⟨rfl,rfl,rfl,rfl,rfl,rfl,rfl⟩
def Lq (bC:Int)(ids:List Int)(o:Option V)(pid:Int)(v:V):Lv:=aB (aB (Lt bC ids o) 145 (.int pid)) 51 v
def Tw:TL (Lq bC ids o pid D.v) (Lq bC ids none pid D.v)∧(∀c,aF (Lq bC ids none pid D.v++[(39,c)]) 145=some (.int pid)∧aF (Lq bC ids none pid D.v++[(39,c)]) 51=some D.v)∧∀va vt,Lf (aB (Lq bC ids o pid D.v) 192 (.fl [va,vt])) bC pid D va vt:=by
 cases o <;> exact⟨⟨rfl,rfl,fun _=>rfl,fun _ _=>rfl,fun _=>rfl⟩,fun _=>⟨rfl,rfl⟩,fun _ _=>⟨rfl,rfl,rfl,rfl,rfl,rfl,rfl⟩⟩
def Hz{a b:E}(ha:Is cx lv σ a u)(h:wE cx b lv σ (fun w σ=>aQ (fy σ u w) fun r=>Q r σ) X):wE cx (.ix a b) lv σ Q X:=ha _ _ h
def A5(h:aF lv nm=some (.fl l)):Is cx lv σ (.bi .len [.v nm]) (.int l.length):=fun _ _ q=>aq h q
def ended(S:aJ (some i) s kA kB)(IA:au kA)(IB:au kB)(pl:kB.ak.length≤c∧kB.n=pn)(hB:kB.af[i]?=some b)(lB:bh b)(ok:x.ok n0)(hn:n0+3≤1000000)(N:nR n c)(hv:b.pid=n.bL)(h0:i≠0)(hc:c≤900)
  (q:∀eU eX x' n' z',LI pn none eU eX n' c→x'.ok (n0+3)→Q (.bool true) (WN eU eX x' n' z')):ah (d+9) 96 [.ref ⟨1,0⟩,gx,.ref ⟨65,0⟩,.int bC] (WN kA kB x n z) Q X:=by
 obtain⟨a,hA,P⟩:=S.get hB
 have lA:bh a:=fM (Or.inl (P.v rfl).1)
 refine SJ ok hn S IA IB hB lB hv h0 (aH pl.1 hc) fun x' l k fr z ok l0 f0=>q _ _ _ _ _ ⟨(IA.exit hA lA h0).I,(IB.exit hB lB h0).I,?_,⟨N.f,N.r,N.a,N.h,N.al,N.hl⟩,Or.inl ⟨rfl,rfl⟩,?_⟩ ok
 ·have:=S.exit IB hB lB h0 (fun h=>absurd rfl h) (z := -1)
  rw[xq] at this;exact this
 ·rw[(IB.exit hB lB h0).pl,(IB.exit hB lB h0).n];exact pl
def HA(L:LI pn az kA kB n c)(hB:kB.af[i]?=some pB)(lB:bh pB)(eB:pB.pid=pid):az=some i↔pid=n.bL:=by
 constructor
 ·intro e
  obtain⟨p,hp,_,hv,_⟩:=LI.xT (L:=L) e
  rw[hB] at hp;injection hp with hp;subst hp
  exact eB.symm.trans hv
 ·intro e
  rcases L.v with⟨_,h⟩ | ⟨j,p,h,h0,hp,hl,hv⟩
  ·have:=(L.IB.ip.pid i pB hB lB.1).1
   lia
  ·have:i=j:=L.IB.ip.un i j pB p hB hp lB.1 hl.1 (eB.trans (e.trans hv.symm))
   rw[this];exact h
end
section
def Tz:Mine.Internal.fQ (WN kA kB x n z) (.ref ⟨65,0⟩) (.str 100) (.int w)=some (WN kA kB x {n with left:=w} z):=aa some (xK (L:=Ln x n z) (nd:=pC {n with left:=w}))
def isA(h:Is cx lv σ e (.bool true))(q:wE cx f lv σ Q X):wE cx (.an [e,f]) lv σ Q X:=h _ _ q
def j8{a b:E}{u w:V}(ha:Is cx lv σ a u)(hb:Is cx lv σ b w)(e:eN σ o u w=some r):Is cx lv σ (.cmp a o b) (.bool r):=fun _ _ h=>ha _ _ (hb _ _ (aq e h))
def ne_of_beq_false{p r:Int}(h:(p==r)=false):p≠r:=fun e=>by rw[e,dW] at h;exact tf h
def HC{D:bQ}{j:Nat}(hD:D.good i):(∀s,D = .exit s→j≠i)→(match D with | .exit _=>some i | _=>none)≠some j:=by
 cases D with
 |exit s=>exact fun h e=>h s rfl (aT e).symm
 |_=>exact fun _=>nn
def TA{D:bQ}:(∀s,D ≠ .exit s)→some (match D with | .exit _=>true | _=>false)=some false:=by
 cases D with
 |exit s=>exact fun h=>absurd rfl (h s)
 |_=>exact fun _=>rfl
def TF(F:Lf lv bC pid D (cK (kA.act i D).1) (cK (kB.act i D).1))(L:LI pn az kA kB n c)(hc:c≤90)(hA:kA.af[i]?=some a)(lA:bh a)(hB:kB.af[i]?=some b)(lB:bh b)(eB:b.pid=pid)(hD:D.good i)(ok:x.ok (n0+4))(hn:n0+20≤1000000)
  (q:∀eU eX x' n' z' iz,LI pn iz eU eX n' (c+2)→x'.ok (n0+10)→Q (.bool true) (WN eU eX x' n' z')):wB (ah (d+9)) ((bu 97).body.drop 6) lv (WN (kA.act i D).2 (kB.act i D).2 x n z) (cW Q X):=by
 have vi:=HA L hB lB eB
 have dB:kB.ak.length≤900:=aH L.pl.1 (by omega)
 have xU:=L.IA.act hA lA hD (L.S.eqs.2.2.1▸dB)
 have xV:=L.IB.act hB lB hD dB
 have xW:(kB.act i D).2.ak.length≤c+1∧(kB.act i D).2.n=pn:=⟨aH (FY L.IB hB lB hD).1 (lF L.pl.1),(FY L.IB hB lB hD).2.trans L.pl.2⟩
 have keep:=Qc L.IB hB lB hD
 have N1:nR n (c+1):=⟨L.N.f,L.N.r,L.N.a,L.N.h,g9 L.N.al,g9 L.N.hl⟩
 have last:∀{xR:Nt} {x:Bx} {iz:Option Nat} {z:Zz},Lf lv bC pid D (cK (kB.act i D).1) (cK (kB.act i D).1)→LI pn iz (kA.act i D).2 (kB.act i D).2 xR (c+1)→x.ok (n0+10)→(∀s,D = .exit s→cK (kB.act i D).1 ≠ .none)→wB (ah (d+9)) ((bu 97).body.drop 7) lv (WN (kA.act i D).2 (kB.act i D).2 x xR z) (cW Q X):=fun F L2 ja hex=>Tu F (xO bl.act bk.act) (fun l e=>S8 L.IB hB lB (Tg e)) (fun e=>S9 hD fun s h=>hex s h e) (fun e=>Te (N2.act e)) L2 (by omega) fun n' L=>q _ _ _ _ _ _ L ja
 by_cases ep:pid=n.bL
 ·have ev:=vi.mpr ep
  obtain⟨pV,hV,lV,hv,uJ⟩:=LI.xT (L:=L) ev
  have hv:b.pid=n.bL:=aT (hB.symm.trans hV)▸hv
  refine B.ite (t:=pid==n.bL) (dz (vE F.pid) (fR (m:=214) (e := .int n.bL) F.qH rfl) rfl) (fun _=>?_) fun e=>absurd ep (ne_of_beq_false e)
  refine B.AO (b := .int 1) (vE F.qH) cE (AX (m:=100) (e := .int n.left) rfl) cE rfl Tz ?_
  by_cases ex:∃s,D = .exit s
  ·obtain⟨s,ed⟩:=ex
   have S0:=L.S.exit L.IB hB lB uJ (fun h=>absurd ev h) (z:=s)
   rw[ev,xq] at S0
   have S':aJ none true (kA.act i D).2 (kB.act i D).2:=ed▸S0
   have e1:cK (kA.act i D).1 = .int 0:=ed▸rfl
   have e2:cK (kB.act i D).1 = .int 0:=ed▸rfl
   rw[e1,←e2] at F
   refine B.ite (t:=false) (dz (A4 F) cE (e2▸rfl)) (fun h=>absurd h (by decide)) fun _=>B.nil (B.seq (B.ite (t:=true) (dz (A3 F) cE (ed▸rfl)) (fun _=>B.ju (gZ (aI (aR (vE F.box) (aI (aR (vE F.qH) (aI (aR (v := .int (bC+3)) (bE (vE F.bC) cE rfl) (cu (Hq (d:=d+7) (n0:=n0+4) ok (by omega) fun x' l k fr z ok l0 f0=>B.nil (B.seq (B.nil (B.seq (last F ⟨xU,xV,S',⟨N1.f,N1.r,N1.a,N1.h,N1.al,N1.hl⟩,Or.inl ⟨rfl,rfl⟩,xW⟩ (ok.mono (by omega)) fun s _ h=>vk rfl (e2.symm.trans h))))))))))))))) (fun h=>absurd h (by decide))))
  ·have xX:∀s,D ≠ .exit s:=fun s e=>ex ⟨s,e⟩
   obtain⟨pK,hK,lK,eK⟩:=keep i b hB lB (HC hD fun s e=>absurd e (xX s))
   have HD:nR {n with left:=n.left - 1} (c+1):=⟨N1.f,N1.r,N1.a,N1.h,N1.al,N1.hl⟩
   cases L.S.act L.IB hB lB hD (fun z e=>absurd e (xX z)) with
   |same r S' nn=>
    have nn:cK (kB.act i D).1 ≠ .none:=fun e=>nn ev (Tf e)
    have F2:=F
    rw[r] at F2
    refine B.ite (t:=false) (dz (A4 F) cE (Hw (s:=WN (kA.act i D).2 (kB.act i D).2 x {n with left:=n.left - 1} z) (xO bl.act bk.act) nn)) ft fun _=>B.nil (B.seq (B.ite (t:=false) (dz (A3 F) cE (Th.trans (TA xX))) ft fun _=>B.nil (B.seq (B.nil (B.seq (last F2 ⟨xU,xV,S',HD,Or.inr ⟨i,pK,ev,uJ,hK,lK,eK.trans hv⟩,xW⟩ (ok.mono (by omega)) fun s e=>absurd e (xX s)))))))
   |apart e rA rB S'=>
    have eA:cK (kA.act i D).1 = .str 163:=by rw[rA];rfl
    have TG:cK (kB.act i D).1 = .none:=by rw[rB];rfl
    rw[eA,TG] at F
    refine B.ite (t:=true) (dz (A4 F) cE rfl) (fun _=>B.ret ?_) tf
    refine isA (j8 (uI F) cE rfl) (gZ (aI (aR (vE F.box) (aI (aR (vE F.pair) (aI (aR (vE F.qH) (aI (aR (vE F.bC) (cu (ended (n:={n with left:=n.left - 1}) (c:=c+1) (ev▸S') xU xV xW hK lK ok (by omega) HD (eK.trans hv) uJ (by omega) fun eU eX x' n' z' L ok=>q _ _ _ _ _ _ (L.mono (by omega)) (ok.mono (by omega)))))))))))))
 ·have nv:az≠some i:=fun e=>ep (vi.mp e)
  refine B.ite (t:=pid==n.bL) (dz (vE F.pid) (fR (m:=214) (e := .int n.bL) F.qH rfl) rfl) (fun e=>absurd (eq_of_beq e) ep) fun _=>B.nil (B.seq ?_)
  cases L.S.act L.IB hB lB hD (fun _ _=>nv) with
  |apart e _ _ _=>exact absurd e nv
  |same r S' _=>
   rw[r] at F
   refine last F ⟨xU,xV,S',N1,?_,xW⟩ (ok.mono (by omega)) fun s e h=>by rw[e] at h;exact vk rfl h
   rcases L.v with h | ⟨j,p,hj,j0,hp,hl,hv⟩
   ·exact Or.inl h
   ·have ji:j≠i:=fun e=>nv (by rw[hj,e])
    obtain⟨q',TH,TJ,z5⟩:=keep j p hp hl (HC hD fun _ _=>ji)
    exact Or.inr ⟨j,q',hj,j0,TH,TJ,z5.trans hv⟩
end
section
def B.xY(h:wE cx e lv σ Q X):wB cx (.ret e::r) lv σ (cW Q X):=h
abbrev Rd(kA:Kn)(ids:List Int):Prop:=∀id∈ids,∃(i:Nat) (a:Pr),kA.af[i]?=some a∧a.pid=id∧a.st=161
def TM{l:List Int}(e:l.isEmpty=false):0<(l.map V.int).length:=by
 cases l with
 |nil=>exact tf e
 |cons a r=>exact l9 _
def w4{k:Kn}{p:Pr}(I:au k)(h:k.af[i]?=some p)(h2:1<p.pid):i≠0:=fun e=>by
 obtain⟨p',hp,h1,_⟩:=I.ip.p0
 rw[←e,h] at hp
 rw[aT hp,h1.1] at h2
 exact Int.lt_irrefl _ h2
def HE(L:LI pn az kA kB n c)(hc:c≤90)(xZ:Rd kA ids)(ok:x.ok n0)(hn:n0+20≤1000000)
  (q:∀eU eX x' n' z' iz,LI pn iz eU eX n' (c+2)→x'.ok (n0+10)→Q (.bool true) (WN eU eX x' n' z')):wB (ah (d+9)) ((bu 97).body.drop 1) (Lt bC ids o) (WN kA kB x n z) (cW Q X):=by
 have F:=fun pid=>Tv (bC:=bC) (ids:=ids) (o:=o) (pid:=pid)
 refine B.ite (t:=ids.isEmpty) (dz (vE (F 0).2.1) (w := .fl []) (fun _ _ h=>h) qz) (fun _=>B.ret (q kA kB x n z az (L.mono (by lia)) (ok.mono (by lia)))) fun e=>B.nil (B.seq ?_)
 have hpos:0<(ids.map V.int).length:=TM e
 refine B.eT (Hz (vE (F 0).2.1) (gZ (aI (aR (vE (F 0).1) (aI (aR (A5 (F 0).2.1) (cu (ly (L:=Ln x n z) ok (by lia) (by lia) fun x1 t gO t0 t1=>?_))))))))
 obtain⟨v,hv,he⟩:=uG (σ:=WN kA kB x1 n z) t0 t1
 obtain⟨pid,hid,rfl⟩:=bP.mp (dD hv)
 refine aq he ?_
 obtain⟨i,a,hA,ea,sa⟩:=xZ _ hid
 obtain⟨pB,hB,P⟩:=L.S.Af hA
 have lA:bh a:=fM (Or.inl sa)
 have lB:bh pB:=by
  have:=P.st
  rw[sa] at this
  exact⟨fun e=>(by rw[e] at this;cases this.1),fun e=>(by rw[e] at this;cases this.2)⟩
 have eB:pB.pid=pid:=P.pid.symm.trans ea
 have vi:=HA L hB lB eB
 have i0:1<pid→i≠0:=fun h=>w4 L.IB hB (eB▸h)
 have dB:kB.ak.length≤900:=aH L.pl.1 (by lia)
 have dA:kA.ak.length≤900:=L.S.eqs.2.2.1▸dB
 have o9:=F pid
 have f1:=o9.2.2.1
 have f2:=o9.2.2.2.1
 have f3:=o9.2.2.2.2.1
 have f4:=o9.2.2.2.2.2.1
 have f5:=o9.2.2.2.2.2.2
 refine B.ite (t:=(pid==n.bL)&&(n.left==0)) (fun K X h=>lY (b:=pid==n.bL) (b2:=n.left==0) (dz (vE f5) (fR (m:=214) (e := .int n.bL) f3 rfl) rfl) (fun _ _ _ h=>gr (dz (fR (m:=100) (e := .int n.left) f3 rfl) cE rfl) h) h) (fun e=>?_) fun _=>B.nil (B.seq ?_)
 ·have ev:=vi.mpr (eq_of_beq (aE e).1)
  obtain⟨pV,hV,lV,hv,uJ⟩:=LI.xT (L:=L) ev
  subst ev
  refine B.ret (gZ (aI (aR (vE f1) (aI (aR (vE f2) (aI (aR (vE f3) (aI (aR (vE f4) (cu ?_))))))))))
  exact ended L.S L.IA L.IB L.pl hV lV gO (by lia) L.N hv uJ (by lia) fun eU eX x' n' z' L ok=>q _ _ _ _ _ _ (L.mono (by lia)) (ok.mono (by lia))
 have hi:=jD L.IA.ok hA
 have TN:=jD L.IB.ok hB
 have HF:bh (kA.pr i):=bH hA▸lA
 have TP:bh (kB.pr i):=bH hB▸lB
 have pA:(kA.pr i).pid=pid:=bH hA▸ea
 have TQ:(kB.pr i).pid=pid:=bH hB▸eB
 refine B.eT (gZ (aI (aR (vE f1) (aI (aR (v:=rf 6 0) (eu (vE f2) cE rfl) (aI (aR (vE f3) (aI (aR (vE f5) (cu ?_))))))))))
 refine S7 (d:=d+4) gO (by lia) L.N L.IA hi HF pA i0 fun x2 n2 D gU N2 ND hD=>?_
 obtain⟨g1,g2,g3⟩:=Tw (bC:=bC) (ids:=ids) (o:=o) (pid:=pid) (D:=D)
 refine B.eT (AV (d:=d+1) (L:=Ln x2 n2 z) L.IA L.IB hi HF pA TN TP TQ hD dA dB g1 (fun c _=>vE (g2 c).1) (fun c _=>vE (g2 c).2) fun gA gB=>?_)
 exact TF (n0:=n0) (z:=⟨gA,gB,z.c,z.j⟩) (g3 _ _) ⟨L.IA,L.IB,L.S,N2,ND.v▸L.v,L.pl⟩ hc hA lA hB lB eB hD (gU.mono (by lia)) hn q
theorem LI.tick(L:LI pn az kA kB n c):LI pn az kA.tick kB.tick n c:=
 ⟨L.IA.tick,L.IB.tick,L.S.tick,L.N,L.v.imp id fun⟨i,p,h,h0,hp,hl,hv⟩=>⟨i,cD kZ p,h,h0,rY (k:={kB with bO:=kB.bO+1}) hp,xg hl,by rw[←hv];unfold cD;cases gP kZ p <;> rfl⟩,L.pl⟩
theorem Rd.tick(h:Rd kA ids):Rd kA.tick ids:=fun id hid=>by
 obtain⟨i,a,hA,ea,sa⟩:=h id hid
 refine⟨i,a,?_,ea,sa⟩
 have:=rY (c:=kZ) (k:={kA with bO:=kA.bO+1}) hA
 rw[show cD kZ a=a from by unfold cD;rw[show gP kZ a=false from by unfold gP;rw[sa];rfl];rfl] at this
 exact this
def TR(L:LI pn az kA kB n c)(hc:c≤90)(xZ:Rd kA ids)(ok:x.ok n0)(hn:n0+20≤1000000)
  (q:∀eU eX x' n' z' iz,LI pn iz eU eX n' (c+2)→x'.ok (n0+10)→Q (.bool true) (WN eU eX x' n' z')):ah (d+10) 97 [.ref ⟨1,0⟩,gx,.ref ⟨65,0⟩,.int bC,.fl (ids.map .int)] (WN kA kB x n z) Q X:=
 qG (Lt bC ids none) rfl (B.ite (t:=ids.isEmpty||(bC.fmod 3==2)) (fun K X h=>qp (b:=ids.isEmpty) (b2:=bC.fmod 3==2) (dz (vE rfl) (w := .fl []) (fun _ _ h=>h) qz) (dz (bE (vE rfl) cE (nN (by decide))) cE rfl) h) (fun _=>Tn (d:=d+7) (L:=Ln x n z) L.IA.ok L.IB.ok (B.seq (HE L.tick hc xZ.tick ok hn q))) fun _=>B.nil (B.seq (HE L hc xZ ok hn q)))
end
noncomputable def qI(k:Kn):List Int:=(k.al.filter fun i=>Nat.beq (k.pr i).st 161).map fun i=>(k.pr i).pid
def m7{k:Kn}(h:i∈k.al):i<k.n:=fE.mp (dJ.mp h).1
def HG(K:aM k):k.al.length≤99:=aH (jd _ _) (by rw[dF];exact K.nl)
def A6{k:Kn}(K:aM k){id:Int}(h:id∈qI k):∃(i:Nat) (a:Pr),k.af[i]?=some a∧a.pid=id∧a.st=161:=by
 obtain⟨i,hi,rfl⟩:=bP.mp h
 obtain⟨h1,h2⟩:=dJ.mp hi
 exact⟨i,_,K.pr (m7 h1),rfl,cH h2⟩
section
def HH(K:aM k)(q:Q (.fl ((qI k).map .int)) (H k g r)):ah (d+4) 91 [rf 6 0] (H k g r) Q X:=
 aZ (B.ret (kT (vs:=k.al) (h:=k.bD) (c:=fun i=>Nat.beq (k.pr i).st 161) (f:=fun i => .int (k.pr i).pid) (fun _ _ h=>c6 (u:=rf 11 0) (fun _ _ h=>h) (rW K.nl h)) rfl (ff (fun _=>rfl) fun _ _=>rfl) (fun a _ K h=>gr (fun _ _ h=>h) h) (fun a _ K h=>h) (oY K.nl) (aL (fun l=>Q (.fl l) (H k g r)) gh q)))
end
noncomputable def jb(k:Kn)(v:Int):List V:=(k.al.filter fun i => !((k.pr i).pid==v)).map k.bD
theorem aJ.jb{az:Option Nat}(S:aJ az true kA kB)(K:aM kB)(hv:∀i,az=some i→(kB.pr i).pid=v):Mine.Internal.jb kA v=Mine.Internal.jb kB v:=by
 unfold Mine.Internal.jb
 rw[S.al K]
 have e:kB.al.filter (fun i => !((kA.pr i).pid==v))=kB.al.filter fun i => !((kB.pr i).pid==v):=xj fun i hi=>by rw[(S.prs K (m7 hi)).pid]
 rw[e]
 refine pM fun i hi=>?_
 obtain⟨h1,h2⟩:=dJ.mp hi
 have P:=S.prs K (m7 h1)
 have nv:az≠some i:=fun e=>by
  rw[hv i e,dW] at h2;exact ft h2
 unfold Kn.bD
 rw[P.pid,(P.n nv).1,P.name,P.par]
 cases hp:(kB.pr i).par with
 |none=>rfl
 |some j=>
  show V.tup [_,_,_,.int (kA.pr j).pid]=V.tup [_,_,_,.int (kB.pr j).pid]
  rw[(S.prs K (K.par i _ j (K.pr (m7 h1)) hp)).pid]
def TS(h:∀v∈vs,∃a b c d,v=V.tup [.int a,.str b,.str c,.int d]):all2 (cC 7 s) vs vs=some true:=by
 induction vs with
 |nil=>rfl
 |cons v r ih=>
  obtain⟨a,b,c,d,rfl⟩:=h _ (eF ..)
  show((some ((a==a)&&(Nat.beq b b&&(Nat.beq c c&&((d==d)&&true))))).bind fun p=>(all2 (cC 7 s) r r).bind fun q=>some (p&&q))=_
  rw[ih fun v h'=>h v (eY _ h'),dW,dW,dh,dh];rfl
def Zz.cQ(z:Zz)(k i:Nat)(c:Cell):Zz:=⟨z.a,z.b,fun a=>bif Nat.beq a k then Nat.succ i else z.c a,cO z.j k i (some c)⟩
noncomputable def j9(k:Kn)(v:Int):V := .tup [.fl (jb k v),.int k.aW.length,.int k.dict.length]
def Ls (N:Nat)(c:V)(o:Option V):Lv:=[(140,gx),(127,.ref ⟨65,0⟩),(192,.ref ⟨64,N⟩),(39,c)]++o.elim [] fun u=>[(169,u)]
section
variable{k:Kn}{z:Zz}{l:List Nat}
def TU(q:Q (.ref ⟨64,z.c 64⟩) (WN kA kB x n (z.cQ 64 (z.c 64) (.list xs)))):fu 0 (.list xs) (WN kA kB x n z) Q:=AM (L:=Ln x n z) rfl rfl (fun _=>rfl) q
def A7:(WN kA kB x n (z.cQ 64 N (.list xs))).hp ⟨64,N⟩=some (.list xs):=xJ (L:=Ln x n z) rfl fun _=>rfl
def TV:(WN kA kB x n (z.cQ 64 N (.list xs))).set ⟨64,N⟩ (.list ys)=WN kA kB x n (z.cQ 64 N (.list ys)):=GR (L:=Ln x n z) rfl fun _=>rfl
def TX:dQ [168] (Ls N c o)=Ls N c o∧(∀u,aB (Ls N c o) 168 u=Ls N c o++[(168,u)])∧(∀u v,aB (Ls N c o++[(168,u)]) 168 v=Ls N c o++[(168,v)])∧(∀u,aF (Ls N c o++[(168,u)]) 168=some u∧aF (Ls N c o++[(168,u)]) 127=some (.ref ⟨65,0⟩))∧aF (Ls N c o) 39=some c∧∀u,aB (Ls N c o) 169 u=Ls N c (some u):=by
 cases o <;> exact⟨rfl,fun _=>rfl,fun _ _=>rfl,fun _=>⟨rfl,rfl⟩,rfl,fun _=>rfl⟩
def TY:cj (.fl (l.map k.bD)) = .fl (l.map k.bD):=aa V.fl (by
 induction l with
 |nil=>rfl
 |cons i r ih=>exact aa (k.bD i::·) ih)
def HJ{Q:QF}(K:aM k)(hr:∀lv,aF lv 39=some c→Is cx lv (WN kA kB x n (z.cQ 64 N (.list xs))) (.ao (.at (.at (.v 39) 94) 186) 169 []) (.fl (k.al.map k.bD)))(hf:∀lv,aF lv 39=some c→Is cx lv (WN kA kB x n (z.cQ 64 N (.list xs))) (.ao (.at (.at (.v 39) 94) 64) 49 []) (.int k.aW.length))(hd:∀lv,aF lv 39=some c→Is cx lv (WN kA kB x n (z.cQ 64 N (.list xs))) (.ao (.at (.at (.at (.v 39) 94) 64) 148) 49 []) (.int k.dict.length))(hx:xs.length≤9)
  (q:Q .next (Ls N c (some (.fl (jb k n.bL)))) (WN kA kB x n (z.cQ 64 N (.list (xs++[j9 k n.bL]))))):
  wB cx [(.asg (.v 169) (.comp true (.v 168) (.v 168) (.e (.ao (.at (.at (.v 39) 94) 186) 169 [])) [(.cmp (.ix (.v 168) (.c (.int 0))) .ne (.ix (.v 127) (.c (.str 214))))] sc)),(.ex (.ao (.v 192) 33 [(.tup [(.v 169),(.ao (.at (.at (.v 39) 94) 64) 49 []),(.ao (.at (.at (.at (.v 39) 94) 64) 148) 49 [])])]))] (Ls N c o) (WN kA kB x n (z.cQ 64 N (.list xs))) Q:=by
 refine cps fun C9 k9=>?_
 obtain⟨f1,f2,f3,f4,f5,f6⟩:=TX (N:=N) (c:=c) (o:=o)
 refine k9 ?_
 refine B.eT (kT (vs:=k.al) (h:=k.bD) (c:=fun i => !((k.pr i).pid==n.bL)) (f:=k.bD) (fun K X h=>hr _ f5 _ _ h) f1 (ff f2 f3) (fun i _ K h=>gr (dz (eu (vE (f4 _).1) cE (r := .int (k.pr i).pid) rfl) (fR (m:=214) (e := .int n.bL) (f4 _).2 rfl) rfl) h) (fun i _ K h=>vE (f4 _).1 _ _ h) (oY K.nl) (aL (fun lv=>wB cx [_] lv _ Q) (f6 (.fl (jb k n.bL))).symm ?_))
 refine B.ju (c6 (u := .ref ⟨64,N⟩) (vE rfl) (aq (sy A7 rfl rfl) (aI (nS (aI (aR (v := .fl (jb k n.bL)) (vE rfl) (aI (aR (hf _ rfl) (aI (aR (hd _ rfl) (cu (cu (aq (r9 A7 rfl (fU hx (by decide))) (B.nil ?_))))))))))))))
 exact aL (fun σ=>Q .next (Ls N c (some (.fl (jb k n.bL)))) σ) TV.symm q
def TZ{l:Loc}{m:Nat}(h:σ.hp l=some (.list xs))(e:xs[m]?=some w):fy σ (.ref l) (.int m)=some w:=by
 refine(xC h).trans ?_
 refine(?_:(place xs.length (m:Int)).bind (fun k=>xs[k]?)=_)
 have hm:=(bM.mp e).1
 exact(aa (Option.bind · fun k=>xs[k]?) ((if_pos (by lia)).trans (if_pos (by lia)):place xs.length (m:Int)=some m)).trans e
def T3:eN σ .eq (j9 k v) (j9 k v)=some true:=by
 refine(?_:((if(jb k v).length=(jb k v).length then all2 (cC 7 σ) (jb k v) (jb k v) else some false).bind fun p=>some (p&&(((k.aW.length:Int)==k.aW.length)&&(((k.dict.length:Int)==k.dict.length)&&true))))=_)
 rw[if_pos rfl,TS fun v h=>?_,dW,dW];rfl
 obtain⟨i,_,rfl⟩:=bP.mp h
 exact⟨_,_,_,_,rfl⟩
def HK(h:fu 0 (.list []) σ Q):wE cx (.lst false []) lv σ Q X:=h
def HM(KA:aM kA)(KB:aM kB)(e:j9 kA n.bL=j9 kB n.bL)(q:∀z,Q (.bool true) (WN kA kB x n z)):ah (d+5) 90 [gx,.ref ⟨65,0⟩] (WN kA kB x n z) Q X:=by
 refine qG [(140,gx),(127,.ref ⟨65,0⟩)] rfl (B.eT (HK (TU ?_)))
 refine B.t6 (u:=rf 6 0) (v:=cj (rf 6 0)) (fun K X h=>h) ?_
 refine HJ (cx:=ah (d+4)) (kA:=kA) (kB:=kB) (x:=x) (n:=n) (z:=z) (N:=z.c 64) (xs:=[]) (o:=none) (c:=rf 6 0) (k:=kA) (sc:=[(168,0),(127,1)]) KA (fun lv h K X q=>c6 (u:=rf 11 0) (fun K X q=>aq h q) (rW KA.nl q)) (fun lv h K X q=>c6 (u:=rf 8 0) (fun K X q=>aq h q) (Aw q)) (fun lv h K X q=>c6 (u:=rf 4 0) (fun K X q=>aq h q) (Ax q)) (by decide:0≤9) ?_
 refine HJ (cx:=ah (d+4)) (kA:=kA) (kB:=kB) (x:=x) (n:=n) (z:=z) (N:=z.c 64) (xs:=[j9 kA n.bL]) (o:=some (.fl (jb kA n.bL))) (c:=cj (rf 6 0)) (k:=kB) (sc:=[(168,0),(127,1)]) KB (fun lv h K X q=>c6 (u:=cj (rf 11 0)) (fun K X q=>aq h q) (qC (as:=[rf 11 0]) rfl (rW KB.nl (sj (R:=fun σ=>K (cj (.fl (kB.al.map kB.bD))) σ) (aL (fun v=>K v _) TY.symm q))))) (fun lv h K X q=>c6 (u:=cj (rf 8 0)) (fun K X q=>aq h q) (qC (as:=[rf 8 0]) rfl (Aw (sj (R:=fun σ=>K (.int kB.aW.length) σ) q)))) (fun lv h K X q=>c6 (u:=cj (rf 4 0)) (fun K X q=>aq h q) (qC (as:=[rf 4 0]) rfl (Ax (sj (R:=fun σ=>K (.int kB.dict.length) σ) q)))) (by decide:1≤9) ?_
 have hl:∀(m:Nat) (w:V),[j9 kA n.bL,j9 kB n.bL][m]?=some w→fy (WN kA kB x n (z.cQ 64 (z.c 64) (.list [j9 kA n.bL,j9 kB n.bL]))) (.ref ⟨64,z.c 64⟩) (.int m)=some w:=fun m w h=>TZ A7 h
 refine B.xY ?_
 exact eu (vE rfl) cE (hl 0 _ rfl) _ _ (eu (vE rfl) cE (hl 1 _ rfl) _ _ (aq (by rw[e];exact T3) (q _)))
end
noncomputable def kg(p:Pr):Pr:=bif Nat.beq p.st 179 then{p with cN:=true,st:=161,ch:=none} else{p with cN:=true}
def HN:(kg p).pid=p.pid∧(kg p).par=p.par∧(kg p).fs=p.fs∧(kg p).name=p.name∧(kg p).bN=p.bN∧(kg p).cN=true∧(kg p).prog=p.prog:=by
 unfold kg;cases Nat.beq p.st 179 <;> exact⟨rfl,rfl,rfl,rfl,rfl,rfl,rfl⟩
def HO(h:p.st=161∨p.st=179):(kg p).st=161:=by
 unfold kg;rcases h with h | h
 ·rw[show Nat.beq p.st 179=false from(aa (Nat.beq · 179) h).trans rfl];exact h
 ·rw[show Nat.beq p.st 179=true from(aa (Nat.beq · 179) h).trans rfl];rfl
def au.HP(I:au k){i:Nat}(h:k.af[i]?=some p)(hp:bh p):p.st=161∨p.st=179:=by
 rcases I.ip.st i p h with e | e | e | e
 ·exact absurd e hp.1
 ·exact Or.inl e
 ·exact Or.inr e
 ·exact absurd e hp.2
theorem LI.kill{n:Nt}(L:LI pn none kA kB n c)(hA:kA.af[i]?=some a)(la:bh a)(h0:i≠0):LI pn (some i) (kA.kill i) kB {n with bL:=a.pid} c:=by
 have E:=HN (p:=a)
 have aw:=L.IA.HP hA la
 have st:=HO aw
 have ek:kA.kill i=kA.aA i (kg a):=by unfold Kn.kill;rw[bH hA];rfl
 obtain⟨b,hB,P⟩:=L.S.Af hA
 have N:=P.n nn
 rw[ek]
 refine⟨L.IA.dm hA E.1 E.2.2.1 (Or.inl E.2.1) (Or.inr ⟨la,Or.inl st⟩),L.IB,?_,⟨L.N.f,L.N.r,L.N.a,L.N.h,L.N.al,L.N.hl⟩,Or.inr ⟨i,b,rfl,h0,hB,fM (N.1▸aw),P.pid.symm⟩,L.pl⟩
 have:=L.S.aA (v':=some i) (s':=true) (i:=i) (a:=kg a) (b:=b) ⟨E.1.trans P.pid,E.2.1.trans P.par,E.2.2.1.trans P.fs,E.2.2.2.1.trans P.name,E.2.2.2.2.1.trans P.bN,P.kb,fun _=>⟨st,E.2.2.2.2.2.1,N.1▸aw,fun _=>E.2.2.2.2.2.2.trans N.2.2.1⟩,fun h=>absurd rfl h⟩
  fun j hj x y p=>⟨p.pid,p.par,p.fs,p.name,p.bN,p.kb,fun e=>absurd (aT e).symm hj,fun _=>p.n nn⟩
 rwa [Kn.t8 hB] at this
section
def A8(K:aM k)(h:i∈k.al):k.af[i]?=some (k.pr i)∧(k.pr i).st≠209:=⟨K.pr (m7 h),ud (K.pr (m7 h)) (dJ.mp h).2⟩
end
noncomputable def g6(k:Kn)(i:Nat):Bool:=decide (1<(k.pr i).pid) && !(Nat.beq (k.pr i).st 228)
noncomputable def may(k:Kn):List Nat:=k.al.filter (g6 k)
def sC(I:au k)(h:i∈may k):k.af[i]?=some (k.pr i)∧bh (k.pr i)∧i≠0:=by
 obtain⟨h1,h2⟩:=dJ.mp h
 have P:=A8 I.ok h1
 obtain⟨h3,h4⟩:=g8.mp h2
 refine⟨P.1,⟨P.2,fun e=>?_⟩,fun e=>?_⟩
 ·rw[e] at h4;exact ft h4
 ·obtain⟨p,hp,h5,_⟩:=I.ip.p0
  rw[e,bH hp,h5.1] at h3;exact ft h3
section
def T4(h:Is cx lv σ e (.bool b))(q1:b=true→wE cx f lv σ Q X)(q2:b=false→Q (.bool false) σ):wE cx (.an [e,f]) lv σ Q X:=h _ _ (by cases b;exact q2 rfl;exact q1 rfl)
def T5(h:Is cx lv σ e (.bool b))(q1:b=true→Q (.bool true) σ)(q2:b=false→wE cx f lv σ Q X):wE cx (.or [e,f]) lv σ Q X:=h _ _ (by cases b;exact q2 rfl;exact q1 rfl)
def T6:∃(s:Nm) (w:V),iH (WN kA kB x n z) ⟨129,0⟩ 74 [.int pid,.tup [.str 58]]=some (w,WN kA kB x n z)∧∀σ,fy σ w (.int 0)=some (.str s):=by
 have e:iH (WN kA kB x n z) ⟨129,0⟩ 74 [.int pid,.tup [.str 58]]=some (((iO n.again pid).map bQ.v).getD (.tup [.str 58]),WN kA kB x n z):=by
  refine(?_:some ((fH (n.again.map fun x=>(x.1,x.2.v)) pid).getD (.tup [.str 58]),(WN kA kB x n z).set ⟨129,0⟩ (.bI (n.again.map fun x=>(x.1,x.2.v))))=_)
  rw[uH (g:=bQ.v),show(WN kA kB x n z).set ⟨129,0⟩ (.bI (n.again.map fun x=>(x.1,x.2.v)))=WN kA kB x n z from AN (L:=Ln x n z)]
 rw[e]
 cases iO n.again pid with
 |none=>exact⟨_,_,rfl,fun _=>rfl⟩
 |some D=>cases D <;> exact⟨_,_,rfl,fun _=>rfl⟩
def T7(I:au kA)(hi:i∈kA.al)(q:∀t,Q (.bool t) (WN kA kB x n z)):ah (d+4) 94 [rf 6 0,.ref ⟨65,0⟩,kA.bD i,.fl (kA.al.map kA.bD)] (WN kA kB x n z) Q X:=by
 have P:=A8 I.ok hi
 have hk:∀{lv:Lv},aF lv 127=some (.ref ⟨65,0⟩)→Is (ah (d+3)) lv (WN kA kB x n z) (.ix (.v 127) (.c (.str 97))) (.int n.kind):=fun h=>fR h rfl
 have hr:∀{lv:Lv},aF lv 168=some (kA.bD i)→Is (ah (d+3)) lv (WN kA kB x n z) (.ix (.v 168) (.c (.int 0))) (.int (kA.pr i).pid):=fun h=>eu (vE h) cE rfl
 refine qG [(39,rf 6 0),(127,.ref ⟨65,0⟩),(168,kA.bD i),(169,.fl (kA.al.map kA.bD))] rfl (B.ite (t:=n.kind==1) (dz (hk rfl) cE rfl) (fun _=>B.ret ?_) fun _=>B.nil (B.seq (B.ite (t:=n.kind==2) (dz (hk rfl) cE rfl) (fun _=>B.ret (j8 (eu (vE rfl) cE (r := .str (kA.pr i).st) rfl) cE rfl _ _ (q _))) fun _=>B.nil (B.seq (B.xY (T5 (b:=n.kind==0) (j8 (hk rfl) cE rfl) (fun _=>q _) fun _=>?_))))))
 ·obtain⟨s,w,e1,e2⟩:=T6 (kA:=kA) (kB:=kB) (x:=x) (n:=n) (z:=z) (pid:=(kA.pr i).pid)
  refine T4 (b:=Nat.beq s 223) (j8 (eu (u:=w) (fun K X h=>c6 (fR (m:=29) (e := .ref ⟨129,0⟩) rfl rfl) (aq (sy (c := .bI (n.again.map fun x=>(x.1,x.2.v))) rfl rfl rfl) (aI (aR (hr rfl) (aI (aR (v := .tup [.str 58]) (fun _ _ h=>h) (cu (aq e1 h)))))))) cE (e2 _)) cE rfl) (fun _=>?_) fun _=>q _
  have hp:Is (ah (d+3)) [(39,rf 6 0),(127,.ref ⟨65,0⟩),(168,kA.bD i),(169,.fl (kA.al.map kA.bD))] (WN kA kB x n z) (.at (.ao (.v 39) 152 [.ix (.v 168) (.c (.int 0))]) 154) (.int (kA.pr i).prog):=fun K X h=>c6 (u:=rf 6 0) (vE rfl) (jx I.ok.nl (I.find (m7 hi) P.2) h)
  exact j8 (r:=decide (0<(kA.pr i).prog)) hp cE rfl _ _ (q _)
 ·refine hr rfl _ _ (kT (vs:=kA.al) (h:=kA.bD) (c:=fun _=>true) (f:=fun j => .int ((kA.pr j).par.elim 0 fun j=>(kA.pr j).pid)) (fun _ _ h=>h) rfl (ff (fun _=>rfl) fun _ _=>rfl) (fun _ _ _ h=>h) (fun j _ K h=>h) (oY I.ok.nl) ?_)
  refine aL (fun l=>aQ (eN (WN kA kB x n z) .mem (.int (kA.pr i).pid) (.fl l)) fun r=>Q (.bool r) (WN kA kB x n z)) (gh (f:=fun j=>(kA.pr j).par.elim 0 fun j=>(kA.pr j).pid) (g:=V.int) (l:=kA.al.filter fun _=>true)) (aq Hj (q _))
end
section
def T8:Mine.Internal.fQ (WN kA kB x n z) (.ref ⟨65,0⟩) (.str 214) (.int w)=some (WN kA kB x {n with bL:=w} z):=aa some (xK (L:=Ln x n z) (nd:=pC {n with bL:=w}))
def T9{o i:E}{u w v:V}{K:QL}(ho:Is cx lv σ o u)(hi:Is cx lv σ i w)(hs:Mine.Internal.fQ σ u w v=some σ')(q:K lv σ'):wA cx (.ix o i) v lv σ K:=ho _ _ (hi _ _ (aq hs q))
def Lk (late:Bool)(R A:V)(sm:List Int):Lv:=[(38,.ref ⟨1,0⟩),(39,rf 6 0),(127,.ref ⟨65,0⟩),(85,.bool late),(169,R),(30,A),(181,.fl (sm.map .int))]
def HQ(L:LI pn none kA kB n c)(hs:∀v∈sm,∃i∈may kA,v=(kA.pr i).pid)(ok:x.ok n0)(hn:n0+1≤1000000)(q1:Q (.bool true) (WN kA kB x n z))
  (q2:∀x' i a,kA.af[i]?=some a→LI pn (some i) (kA.kill i) kB {n with bL:=a.pid} c→x'.ok (n0+1)→Q (.bool true) (WN (kA.kill i) kB x' {n with bL:=a.pid} z)):wB (ah (d+5)) ((bu 95).body.drop 4) (Lk late R A sm) (WN kA kB x n z) (cW Q X):=by
 refine B.ite (t:=sm.isEmpty) (dz (vE rfl) (w := .fl []) (fun _ _ h=>h) qz) (fun _=>B.ret q1) fun e=>B.nil (B.seq ?_)
 have hpos:0<(sm.map V.int).length:=by cases sm with | nil=>cases e | cons a r=>exact l9 _
 refine B.xQ (Hz (u := .fl (sm.map .int)) (vE rfl) (gZ (aI (aR (v := .ref ⟨1,0⟩) (vE rfl) (aI (aR (A5 (l:=sm.map .int) rfl) (cu ?_)))))))
 refine ly (L:=Ln x n z) ok hn (by lia) fun x1 t gO t0 t1=>?_
 refine cps fun C9 k9=>?_
 obtain⟨v,hv,he⟩:=uG (σ:=WN kA kB x1 n z) t0 t1
 obtain⟨pid,hid,rfl⟩:=bP.mp (dD hv)
 obtain⟨i,hi,rfl⟩:=hs _ hid
 refine k9 ?_
 have M:=sC L.IA hi
 have LK:=L.kill M.1 M.2.1 M.2.2
 have il:=jD L.IA.ok M.1
 refine aq he (T9 (vE rfl) cE T8 ?_)
 have hk:(kA.kill i).af[i]?=some (kg (kA.pr i)):=fh M.1
 have st:=HO (L.IA.HP M.1 M.2.1)
 have hf:=L.IA.find il M.2.1.1
 refine B.zS (t:=false) (σ':=WN (kA.kill i) kB x1 {n with bL:=(kA.pr i).pid} z) (fun K X h=>c6 (u:=rf 6 0) (vE rfl) (Qu (d:=d+1) L.IA.ok L.IA.first hf il M.2.2 h)) ft fun _=>B.nil (B.seq ?_)
 have hf2:(kA.kill i).nL (kA.pr i).pid=some i:=by
  have:=LK.IA.find (i:=i) (jD LK.IA.ok hk) (by rw[bH hk,st];exact gy rfl)
  rw[bH hk,HN.1] at this;exact this
 have hp:Is (ah (d+5)) (Lk late R A sm) (WN (kA.kill i) kB x1 {n with bL:=(kA.pr i).pid} z) (.at (.ao (.v 39) 152 [.ix (.v 127) (.c (.str 214))]) 184) (.str ((kA.kill i).pr i).st):=fun K X h=>c6 (u:=rf 6 0) (vE rfl) (jx (d:=d+2) LK.IA.ok.nl hf2 h)
 refine B.xY (j8 (r:=true) hp cE ?_ _ _ (q2 x1 i _ M.1 LK gO))
 rw[bH hk,st];rfl
end
section
def Ua{K:QB}(h:wL cx es lv σ (fun vs σ=>cx f vs σ (fun v σ=>aQ (eV σ v) fun b=>bif b==true then K true σ else K b σ) X) X):wCs cx true [.call f es] lv σ K X:=h
def Lj (late:Bool)(R A:V):Lv:=[(38,.ref ⟨1,0⟩),(39,rf 6 0),(127,.ref ⟨65,0⟩),(85,.bool late),(169,R),(30,A)]
def Ub(L:LI pn none kA kB n c)(ok:x.ok n0)(hn:n0+1≤1000000)(q1:Q (.bool true) (WN kA kB x n z))
  (q2:∀x' i a,kA.af[i]?=some a→LI pn (some i) (kA.kill i) kB {n with bL:=a.pid} c→x'.ok (n0+1)→Q (.bool true) (WN (kA.kill i) kB x' {n with bL:=a.pid} z)):ah (d+6) 95 [.ref ⟨1,0⟩,rf 6 0,.ref ⟨65,0⟩,.bool late] (WN kA kB x n z) Q X:=by
 have K:=L.IA.ok
 have lm:(may kA).length≤99:=aH (jd _ _) (HG K)
 refine qG [(38,.ref ⟨1,0⟩),(39,rf 6 0),(127,.ref ⟨65,0⟩),(85,.bool late)] rfl (B.eT (c6 (u:=rf 11 0) (fun _ _ h=>h) (rW K.nl ?_)))
 refine B.eT (kT (vs:=kA.al) (h:=kA.bD) (c:=g6 kA) (f:=kA.bD) (fun _ _ h=>h) rfl (ff (fun _=>rfl) fun _ _=>rfl) (fun j _ K h=>gr (b:=g6 kA j) (fun K X h=>lY (b:=decide (1<(kA.pr j).pid)) (b2 := !(Nat.beq (kA.pr j).st 228)) (dz (eu (vE rfl) cE (r := .int (kA.pr j).pid) rfl) cE rfl) (fun _ _ _ h=>gr (dz (eu (vE rfl) cE (r := .str (kA.pr j).st) rfl) cE rfl) h) h) h) (fun _ _ _ h=>h) (oY K.nl) ?_)
 have fin:∀{sm:List Int},(∀v∈sm,∃i∈may kA,v=(kA.pr i).pid)→wB (ah (d+5)) ((bu 95).body.drop 3) (Lk late (.fl (kA.al.map kA.bD)) (.fl ((may kA).map kA.bD)) sm) (WN kA kB x n z) (cW Q X):=fun{sm} hs=>by
  refine B.ite (t:=sm.isEmpty&&late) (fun K X h=>lY (b:=sm.isEmpty) (b2:=late) (dz (vE rfl) (w := .fl []) (fun _ _ h=>h) qz) (fun _ _ _ h=>gr (fun _ _ h=>h) h) h) (fun _=>?_) fun _=>B.nil (B.seq (HQ L hs ok hn q1 q2))
  refine B.eT (kT (vs:=may kA) (h:=kA.bD) (c:=fun _=>true) (f:=fun j => .int (kA.pr j).pid) (fun _ _ h=>h) rfl (ff (fun _=>rfl) fun _ _=>rfl) (fun _ _ _ h=>h) (fun _ _ _ h=>h) (turns rfl (aH lm (by decide))) ?_)
  refine B.nil (cx:=ah (d+5)) (B.seq (aL (fun l=>wB (ah (d+5)) ((bu 95).body.drop 4) [(38,.ref ⟨1,0⟩),(39,rf 6 0),(127,.ref ⟨65,0⟩),(85,.bool late),(169,.fl (kA.al.map kA.bD)),(30,.fl ((may kA).map kA.bD)),(181,.fl l)] (WN kA kB x n z) (cW Q X)) (gh (f:=fun j=>(kA.pr j).pid) (g:=V.int) (l:=(may kA).filter fun _=>true)) (HQ L (fun v hv=>?_) ok hn q1 q2)))
  obtain⟨j,hj,rfl⟩:=bP.mp hv
  exact⟨j,(dJ.mp hj).1,rfl⟩
 refine B.eT (G4 (sc:=[(168,0),(199,2),(39,1),(127,1),(169,1)]) (t := .v 168) (src:=jw (may kA) kA.bD) (vs:=may kA) (h:=kA.bD) (σ':=WN kA kB x n z) (fun m ys lv σ=>(∃o,lv=Lo (Lj late (.fl (kA.al.map kA.bD)) (.fl ((may kA).map kA.bD))) 168 kA.bD o)∧σ=WN kA kB x n z∧∃sm:List Int,ys=sm.map V.int∧∀v∈sm,∃i∈may kA,v=(kA.pr i).pid) (fun _ _ h=>h) (turns rfl (aH lm (by decide))) (fun _ _ _ _ _=>kQ) (fun m a ys lv σ e J k hk=>?_) (fun ys lv σ J=>?_) ⟨⟨none,rfl⟩,rfl,[],rfl,fun _ h=>(by cases h)⟩)
 ·obtain⟨⟨o,rfl⟩,rfl,sm,rfl,hs⟩:=J
  have ha:=dD e
  have e2:aB (Lo (Lj late (.fl (kA.al.map kA.bD)) (.fl ((may kA).map kA.bD))) 168 kA.bD o) 168 (kA.bD a)=Lo (Lj late (.fl (kA.al.map kA.bD)) (.fl ((may kA).map kA.bD))) 168 kA.bD (some a):=by cases o <;> rfl
  refine(?_:wCs (ah (d+5)) true [.call 94 [.v 39,.v 127,.v 168,.v 169]] (aB (Lo (Lj late (.fl (kA.al.map kA.bD)) (.fl ((may kA).map kA.bD))) 168 kA.bD o) 168 (kA.bD a)) _ _ bV)
  rw[e2]
  refine Ua (aI (aR (v:=rf 6 0) (vE rfl) (aI (aR (v := .ref ⟨65,0⟩) (vE rfl) (aI (aR (v:=kA.bD a) (vE rfl) (aI (aR (v := .fl (kA.al.map kA.bD)) (vE rfl) (cu (T7 (d:=d+1) L.IA (dJ.mp ha).1 fun t=>?_))))))))))
  cases t with
  |false=>exact hk _ _ _ ⟨⟨some a,rfl⟩,rfl,sm,rfl,hs⟩
  |true=>
   have h2:=hk (sm.map V.int++[.int (kA.pr a).pid]) (Lo (Lj late (.fl (kA.al.map kA.bD)) (.fl ((may kA).map kA.bD))) 168 kA.bD (some a)) (WN kA kB x n z) ⟨⟨some a,rfl⟩,rfl,sm++[(kA.pr a).pid],(ia (f:=V.int) (l₁:=sm) (l₂:=[(kA.pr a).pid])).symm,fun v hv=>?_⟩
   ·exact h2
   ·rcases mh.mp hv with hv | hv
    ·exact hs v hv
    ·exact⟨a,ha,gf.mp hv⟩
 ·obtain⟨_,rfl,sm,rfl,hs⟩:=J
  exact fin hs
end
def pF(k:Kn):Prop:=∀(a:Nat) (q:Pr),k.af[a]?=some q→a≠0→¬bh q
def nV (k:Kn):Prop:=∀(a:Nat) (q:Pr),k.af[a]?=some q→a≠0→q.st=209
noncomputable def kh(p:Pr):Nat:=bif Nat.beq p.st 228 then 1 else 0
noncomputable def Kn.zc(k:Kn):Nat:=(k.af.map kh).sum
def Kn.fk:Nat→Kn→Kn
 |0,k=>k
 |n+1,k=>((Kn.fk n k).act 0 .wait).2
def Kn.wt(k:Kn)(n:Nat):V:=cK ((k.fk n).act 0 .wait).1
section
variable{k:Kn}
theorem sum_bound{g:α→Nat}(h:∀a,g a≤1):∀{l:List α},(l.map g).sum≤l.length
 |[]=>cL _
 |a::r=>by
  show g a+(r.map g).sum≤r.length+1
  have:=sum_bound h (l:=r)
  have:=h a
  lia
def Uc:kh p≤1:=by unfold kh;cases Nat.beq p.st 228 <;> decide
def A9(h:p.st=228):kh p=1:=by unfold kh;rw[h];rfl
def Ud(I:au k):k.zc+1≤k.n:=by
 obtain⟨p,hp,_,lp⟩:=I.ip.p0
 have h1:=nM (g:=kh) (a':={p with st:=228}) hp
 have h2:=sum_bound (g:=kh) (fun p=>Uc) (l:=k.af.set 0 {p with st:=228})
 rw[cg,I.ok.n] at h2
 have h3:kh p=0:=by
  unfold kh
  rw[iC.mpr fun e=>lp.2 (cH e)];rfl
 have h4:kh {p with st:=228}=1:=A9 rfl
 show(k.af.map kh).sum+1≤k.n
 lia
def Ba(I:au k)(A:pF k):(∃j p,j≠0∧k.af[j]?=some p∧p.st=228∧k.act 0 .wait=(.ok (.tup [.int p.pid,.int p.bN]),k.aA j Pr.nil))∨(nV k∧k.act 0 .wait=k.bg):=by
 have e:k.act 0 .wait=k.gY 0:=rfl
 rw[e]
 unfold Kn.gY
 cases h:k.ended 0 with
 |some j=>
  obtain⟨h1,h2,h3⟩:=xh h
  have hp:=I.ok.pr h1
  exact Or.inl ⟨j,k.pr j,I.wZ (List.mem_of_find?_eq_some h),hp,h2,rfl⟩
 |none=>
  have no:∀(a:Nat),a∈k.kids 0→False:=fun a ha=>by
   have hp:=I.ok.pr (mU ha)
   have h1:=(g8.mp (dJ.mp ha).2).1
   have hz:=List.find?_eq_none.mp h a ha
   refine A a _ hp (I.wZ ha) ⟨ud hp h1,fun e=>hz ?_⟩
   exact(aa (Nat.beq · 228) e).trans rfl
  refine Or.inr ⟨fun a q hq h0=>?_,?_⟩
  ·by_cases hu:q.st=209
   ·exact hu
   ·obtain⟨j,r,e1,e2,e3⟩:=I.ip.par a q hq hu h0
    have j0:j=0:=by
     by_cases ej:j=0
     ·exact ej
     ·exact absurd e3 (A j r e2 ej)
    subst j0
    refine(no a (dJ.mpr ⟨fE.mpr (by rw[←I.ok.n];exact(bM.mp hq).1),?_⟩)).elim
    show(k.there a&&(k.pr a).par.elim false fun c=>Nat.beq c 0)=true
    rw[I.there hq hu,bH hq,e1];rfl
  ·show(bif (k.kids 0).isEmpty||(k.pr 0).cN then k.bg else _)=_
   rw[show k.kids 0=[] from List.eq_nil_iff_forall_not_mem.mpr no];rfl
structure Ws(k k':Kn):Prop where
 I:au k'
 A:pF k'
 n:k'.n=k.n
 f:k'.aj=k.aj
 p:k'.ak=k.ak
 p0:k'.af[0]?=k.af[0]?
def Ws.step(w:Ws k k'):Ws k (k'.act 0 .wait).2∧((k'.act 0 .wait).2.zc+1=k'.zc∨(nV k'∧k'.act 0 .wait=k'.bg)):=by
 rcases Ba w.I w.A with⟨j,p,h0,hp,hz,e⟩ | ⟨o,e⟩
 ·rw[e]
  refine⟨⟨w.I.FT hp hz,fun a q hq n=>?_,w.n,w.f,w.p,(dU h0).trans w.p0⟩,Or.inl ?_⟩
  ·rcases dI hp hq with⟨_,rfl⟩ | ⟨_,hq⟩
   ·exact fun l=>l.1 rfl
   ·exact w.A a q hq n
  ·have:=nM (g:=kh) (a':=Pr.nil) hp
   rw[A9 hz] at this
   exact this
 ·rw[e];exact⟨w,Or.inr ⟨o,rfl⟩⟩
theorem qJ(I:au k)(A:pF k):∀n,Ws k (k.fk n)∧((k.fk n).zc+n=k.zc∨nV (k.fk n))
 |0=>⟨⟨I,A,rfl,rfl,rfl,rfl⟩,Or.inl rfl⟩
 |n+1=>by
  obtain⟨w,h⟩:=qJ I A n
  obtain⟨w',h'⟩:=w.step
  refine⟨w',?_⟩
  rcases h' with h' | ⟨o,e⟩
  ·rcases h with h | h
   ·refine Or.inl ?_
    show((k.fk n).act 0 .wait).2.zc+(n+1)=k.zc
    lia
   ·refine Or.inr ?_
    rcases Ba w.I w.A with⟨j,p,h0,hp,hz,_⟩ | ⟨_,e⟩
    ·rw[h j p hp h0] at hz;exact absurd hz (gy rfl)
    ·show nV ((k.fk n).act 0 .wait).2
     rw[e];exact h
  ·refine Or.inr ?_
   show nV ((k.fk n).act 0 .wait).2
   rw[e];exact o
def Ue(I:au k)(A:pF k)(h:k.n≤n+1):k.wt n = .str 163∧nV (k.fk (n+1))∧Ws k (k.fk (n+1)):=by
 obtain⟨w,h1⟩:=qJ I A n
 have z:=Ud I
 rcases Ba w.I w.A with⟨j,p,h0,hp,hz,e⟩ | ⟨o,e⟩
 ·exfalso
  rcases h1 with h1 | h1
  ·have:=FI (g:=kh) hp
   rw[A9 hz] at this
   have:1≤(k.fk n).zc:=this
   lia
  ·rw[h1 j p hp h0] at hz;exact absurd hz (gy rfl)
 ·refine⟨?_,?_,(qJ I A (n+1)).1⟩
  ·unfold Kn.wt;rw[e];rfl
  ·show nV ((k.fk n).act 0 .wait).2
   rw[e];exact o
def Ug:Plain (k.wt n):=xO bl.act bk.act
end
theorem HR:∀{l:List α},(∀a∈l,g a=0)→(l.map g).sum=0
 |[],_=>rfl
 |a::r,h=>by
  show g a+(r.map g).sum=0
  rw[h a (eF ..),HR fun b hb=>h b (eY _ hb)]
def Uh(I:au k)(O:nV k)(h:k.af[0]?=some q)(h2:q.fs=some sl)(h3:∀s∈sl,s=none):k.aW=[]∧k.dict=[]:=by
 have c0:∀f,k.cnt f=0:=fun f=>HR fun p hp=>by
  obtain⟨a,ha⟩:=pL hp
  unfold eH
  by_cases e:a=0
  ·subst e
   rw[h] at ha;injection ha with ha;subst ha
   rw[h2]
   exact List.count_eq_zero.mpr fun m=>by have:=h3 _ m;exact sn this
  ·rw[I.ip.fn a p ha (O a p ha e)];rfl
 have h0:∀(f:Nat) (y:Fi),k.aj[f]?=some y→¬0<y.aK:=fun f y hy=>by rw[I.aK f y hy,c0 f];decide
 refine⟨List.eq_nil_iff_forall_not_mem.mpr fun f hf=>?_,List.eq_nil_iff_forall_not_mem.mpr fun p hp=>?_⟩
 ·obtain⟨y,hy,hh⟩:=I.fl.op f hf
  exact h0 f y hy hh
 ·obtain⟨x,b,hx,ho⟩:=I.di p hp
  obtain⟨f,y,hy,_,_,hh⟩:=I.fl.en p x b hx ho
  exact h0 f y hy hh
def Kn.iP(k:Kn)(g:Nat→Int)(l:List Nat):Kn:=l.foldl (fun k i=>k.exit i (g i)) k
structure Xs(l:List Nat)(k k':Kn):Prop where
 I:au k'
 n:k'.n=k.n
 pl:k'.ak.length=k.ak.length
 g:∀(a:Nat) (p:Pr),k.af[a]?=some p→∃q,k'.af[a]?=some q∧q.pid=p.pid∧(a∉l→q.st=p.st∨(p.st=179∧q.st=161))∧(a∈l→q.st=228)
def Xs.back(x:Xs l k k')(K:aM k)(h:k'.af[a]?=some q):∃p,k.af[a]?=some p∧q.pid=p.pid∧(a∉l→q.st=p.st∨(p.st=179∧q.st=161))∧(a∈l→q.st=228):=by
 have ha:a<k.n:=by rw[←x.n,←x.I.ok.n];exact(bM.mp h).1
 obtain⟨q',h1,h2⟩:=x.g a _ (K.pr ha)
 rw[h] at h1;injection h1 with h1;subst h1
 exact⟨_,K.pr ha,h2⟩
def Bb(h:b.st=a.st∨(a.st=179∧b.st=161))(l:bh a):bh b:=by
 rcases h with h | h
 ·exact⟨h▸l.1,h▸l.2⟩
 ·exact fM (Or.inl h.2)
theorem x6:∀{l:List Nat} {k:Kn},au k→l.Nodup→(∀i∈l,∃p,k.af[i]?=some p∧bh p∧i≠0)→Xs l k (k.iP g l)
 |[],k,I,_,_=>⟨I,rfl,rfl,fun a p h=>⟨p,h,rfl,fun _=>Or.inl rfl,fun h=>(by cases h)⟩⟩
 |i::r,k,I,nd,h=>by
  obtain⟨p,hp,lp,h0⟩:=h i (eF ..)
  have x:=I.exit (s:=g i) hp lp h0
  obtain⟨ni,nd⟩:=fO.mp nd
  have y:=x6 (g:=g) x.I nd fun j hj=>by
   obtain⟨p',eO,Bc,h0'⟩:=h j (eY _ hj)
   obtain⟨q,h1,_,h3,_⟩:=x.g j p' eO
   exact⟨q,h1,Bb (h3 fun e=>ni (e▸hj)).2 Bc,h0'⟩
  refine⟨y.I,y.n.trans x.n,y.pl.trans x.pl,fun a p' eO=>?_⟩
  refine cps fun C9 k9=>?_
  obtain⟨q,h1,h2,h3,h4⟩:=x.g a p' eO
  obtain⟨w,g1,g2,g3,g4⟩:=y.g a q h1
  refine k9 ?_
  refine⟨w,g1,g2.trans h2,fun n=>?_,fun m=>?_⟩
  ·exact Ab (h3 fun e=>n (cS.mpr (Or.inl e))).2 (g3 fun e=>n (cS.mpr (Or.inr e)))
  ·by_cases ea:a=i
   ·rcases g3 (fun m=>ni (ea▸m)) with e | e
    ·exact e.trans (h4 ea)
    ·rw[h4 ea] at e;exact absurd e.1 (gy rfl)
   ·exact g4 ((cS.mp m).resolve_left ea)
def x7:(may k).Nodup:=(List.nodup_range.filter _).filter _
def Ui(I:au k):pF (k.iP g (may k)):=fun a q hq h0 l=>by
 have x:=x6 (g:=g) I x7 fun i hi=>⟨_,sC I hi⟩
 obtain⟨p,hp,_,h3,h4⟩:=x.back I.ok hq
 by_cases m:a∈may k
 ·exact l.2 (h4 m)
 ·have lp:bh p:=by
   rcases h3 m with e | e
   ·exact⟨e▸l.1,e▸l.2⟩
   ·exact fM (Or.inr e.1)
  refine m (dJ.mpr ⟨dJ.mpr ⟨fE.mpr (by rw[←I.ok.n];exact(bM.mp hp).1),I.there hp lp.1⟩,?_⟩)
  obtain⟨r,hr,h5,h6⟩:=I.ip.p0
  unfold g6
  rw[bH hp,g8]
  refine⟨fF ?_,by rw[iC.mpr fun e=>lp.2 (cH e)];rfl⟩
  have h7:=(I.ip.pid a p hp lp.1).1
  by_cases e:p.pid=1
  ·exact absurd (I.ip.un a 0 p r hp hr lp.1 h6.1 (e.trans h5.1.symm)) h0
  ·lia
section
theorem aJ.iP:∀{l:List Nat} {kA kB:Kn},aJ none true kA kB→au kB→l.Nodup→(∀i∈l,∃p,kB.af[i]?=some p∧bh p∧i≠0)→aJ none true (kA.iP g l) (kB.iP g l)
 |[],_,_,S,_,_,_=>S
 |i::r,kA,kB,S,I,nd,h=>by
  obtain⟨p,hp,lp,h0⟩:=h i (eF ..)
  have x:=I.exit (s:=g i) hp lp h0
  obtain⟨ni,nd⟩:=fO.mp nd
  have S':aJ none true (kA.exit i (g i)) (kB.exit i (g i)):=S.exit I hp lp h0 fun _=>rfl
  exact aJ.iP (g:=g) (l:=r) S' x.I nd fun j hj=>by
   refine cps fun C9 k9=>?_
   obtain⟨p',eO,Bc,h0'⟩:=h j (eY _ hj)
   obtain⟨q,h1,_,h3,_⟩:=x.g j p' eO
   refine k9 ?_
   exact⟨q,h1,Bb (h3 fun e=>ni (e▸hj)).2 Bc,h0'⟩
def aJ.Uj(S:aJ none true kA kB)(I:au kB)(A:pF kB):∀n,aJ none true (kA.fk n) (kB.fk n)∧kA.wt n=kB.wt n:=fun n=>by
 have st:∀{n},aJ none true (kA.fk n) (kB.fk n)→aJ none true (kA.fk (n+1)) (kB.fk (n+1))∧kA.wt n=kB.wt n:=fun{n} S=>by
  obtain⟨p,hp,_,lp⟩:=(qJ I A n).1.I.ip.p0
  rcases S.act (qJ I A n).1.I (D := .wait) hp lp trivial (fun _ e=>absurd (aT (aa (fun D=>(dk D).nj) e)) (by decide)) with⟨r,S',_⟩ | ⟨e,_,_,_⟩
  ·exact⟨S',aa cK r⟩
  ·exact nn e
 have all:∀n,aJ none true (kA.fk n) (kB.fk n):=fun n=>by
  induction n with
  |zero=>exact S
  |succ n ih=>exact(st ih).1
 exact⟨all n,(st (all n)).2⟩
theorem aJ.may(S:aJ none true kA kB)(K:aM kB):Mine.Internal.may kA=Mine.Internal.may kB:=by
 unfold Mine.Internal.may
 rw[S.al K]
 exact xj fun i hi=>by
  have P:=S.prs K (m7 hi)
  unfold g6
  rw[P.pid,P.st.2]
end
section
noncomputable def ki(k:Kn)(i:Nat):Int:=50+(k.pr i).pid
def Uk(I:au k)(ht:aF l 186=some (rf 11 0))(hc:∀u,aF (l++[(168,u)]) 39=some (rf 6 0)∧aF (l++[(168,u)]) 168=some u)(h1:∀u,aB l 168 u=l++[(168,u)])(h2:∀u v,aB (l++[(168,u)]) 168 v=l++[(168,v)])
  (q:∀g' o,wB (ah (d+8)) b (Lo l 168 k.bD o) (H (k.iP (ki k) (may k)) g' r) Q):wB (ah (d+8)) (.c7 (.v 168) (.e (.ao (.v 186) 169 [])) [(.ite (.an [(.cmp (.ix (.v 168) (.c (.int 0))) .gt (.c (.int 1))),(.cmp (.ix (.v 168) (.c (.int 1))) .ne (.c (.str 228)))]) [(.ex (.ao (.v 39) 61 [(.ao (.v 39) 152 [(.ix (.v 168) (.c (.int 0)))]),(.bin .add (.c (.int 50)) (.ix (.v 168) (.c (.int 0))))]))] [])]::b) l (H k g r) Q:=by
 have hnd:(may k).Nodup:=x7
 have ok:∀t,Xs ((k.al.take t).filter (g6 k)) k (k.iP (ki k) ((k.al.take t).filter (g6 k))):=fun t=>x6 I ((((List.take_sublist t k.al).filter (g6 k)).nodup hnd)) fun i hi=>⟨_,sC I (((List.take_sublist t k.al).filter (g6 k)).subset hi)⟩
 refine B.kR (src:=jw k.al k.bD) (t := .v 168) (vs:=k.al) (h:=k.bD) (σ':=H k g r) (fun K X h=>c6 (u:=rf 11 0) (vE ht) (rW I.ok.nl h)) (oY I.ok.nl) (fun m lv σ=>(∃o,lv=Lo l 168 k.bD o)∧∃g',σ=H (k.iP (ki k) ((k.al.take m).filter (g6 k))) g' r) (fun _ _ _ _=>kQ) (fun m a lv σ e J f hf=>?_) (fun lv σ J=>?_) ⟨⟨none,(fP _).symm⟩,g,rfl⟩
 ·obtain⟨⟨o,rfl⟩,g',rfl⟩:=J
  have e2:aB (Lo l 168 k.bD o) 168 (k.bD a)=l++[(168,k.bD a)]:=ff (h:=k.bD) h1 h2 o a
  have et:k.al.take (m+1)=k.al.take m++[a]:=by rw[List.take_add_one,e];rfl
  have hf:=fun g' (w:St) (h:w=H (k.iP (ki k) ((k.al.take (m+1)).filter (g6 k))) g' r)=>hf (l++[(168,k.bD a)]) w ⟨⟨some a,rfl⟩,g',h⟩
  rw[et,List.filter_append] at hf
  refine(?_:wB (ah (d+8)) _ (aB (Lo l 168 k.bD o) 168 (k.bD a)) _ _)
  rw[e2]
  refine B.ite (t:=g6 k a) (fun K X h=>lY (b:=decide (1<(k.pr a).pid)) (b2 := !(Nat.beq (k.pr a).st 228)) (dz (eu (vE (hc _).2) cE (r := .int (k.pr a).pid) rfl) cE rfl) (fun _ _ _ h=>gr (dz (eu (vE (hc _).2) cE (r := .str (k.pr a).st) rfl) cE rfl) h) h) (fun z=>?_) fun z=>?_
  ·have ha:a∈may k:=dJ.mpr ⟨dD e,z⟩
   have M:=sC I ha
   have Xm:=ok m
   have na:a∉(k.al.take m).filter (g6 k):=fun h=>by
    have hal:k.al.Nodup:=List.nodup_range.filter _
    have h3:=dJ.mp h
    obtain⟨j,hj⟩:=pL h3.1
    rw[List.getElem?_take] at hj
    by_cases HS:j<m
    ·rw[if_pos HS] at hj
     have:=(List.getElem?_inj (bM.mp e).1 hal).mp (e.trans hj.symm)
     lia
    ·rw[if_neg HS] at hj;exact nn hj
   refine cps fun C9 k9=>?_
   obtain⟨p,hp,e3,h4,_⟩:=Xm.g a _ M.1
   refine k9 ?_
   have lp:=Bb (h4 na) M.2.1
   have il:=jD Xm.I.ok hp
   have AE:(k.iP (ki k) ((k.al.take m).filter (g6 k))).nL (k.pr a).pid=some a:=by
    have:=Xm.I.find il (by rw[bH hp];exact lp.1)
    rw[bH hp,e3] at this;exact this
   have ek:k.iP (ki k) ((k.al.take m).filter (g6 k)++[a].filter (g6 k))=(k.iP (ki k) ((k.al.take m).filter (g6 k))).exit a (ki k a):=by
    rw[List.filter_cons_of_pos z];exact kC ..
   rw[ek] at hf
   have Ul:Is (ah (d+8)) (l++[(168,k.bD a)]) (H (k.iP (ki k) ((k.al.take m).filter (g6 k))) g' r) (.ao (.v 39) 152 [.ix (.v 168) (.c (.int 0))]) (rf 10 a):=fun K X h=>c6 (u:=rf 6 0) (vE (hc _).1) (eu (vE (hc _).2) cE (r := .int (k.pr a).pid) rfl _ _ (jx (d:=d+5) Xm.I.ok.nl AE h))
   refine B.ju (c6 (u:=rf 6 0) (vE (hc _).1) (Ul _ _ (bE cE (eu (vE (hc _).2) cE (r := .int (k.pr a).pid) rfl) (r := .int (ki k a)) rfl _ _ (GL (d:=d+1) Xm.I il (by rw[bH hp];exact lp) M.2.2 fun uK=>B.nil (B.seq (B.nil (hf uK _ rfl)))))))
  ·rw[List.filter_cons_of_neg (by rw[z];exact eE),List.filter_nil,fP] at hf
   exact B.nil (B.seq (B.nil (hf g' _ rfl)))
 ·obtain⟨⟨o,rfl⟩,g',rfl⟩:=J
  rw[iR]
  exact q g' o
end
section
def Um(I:au k)(A:pF k)(hm:m≤99)(hp:k.ak.length≤900)(hi:∀(K:QS) (X:QX),K (.items ((List.range m).map fun i:Nat=>V.int i)) (H k g r)→wI (ah (d+8)) it lv (H k g r) K X)(hl:dQ [193] lv=l)(h1:∀u,aB l 193 u=l++[(193,u)])(h2:∀u v,aB (l++[(193,u)]) 193 v=l++[(193,v)])(hc:∀u,aF (l++[(193,u)]) 39=some (rf 6 0))
  (q:∀g',Q (.fl ((List.range m).map k.wt)) (H (k.fk m) g' r)):wE (ah (d+8)) (.comp true (.call 88 [(.v 39),(.c (.int 1)),(.tup [(.c (.str 215))])]) (.v 193) it [] sc) lv (H k g r) Q X:=by
 refine xM (vs:=List.range m) (h:=fun i:Nat=>V.int i) (fun i ys σ=>ys=(List.range i).map k.wt∧∃g',σ=H (k.fk i) g' r) hi (turns dF (aH hm (by decide))) hl (ff h1 h2) (fun i a ys σ e J f hf=>?_) (fun ys σ J=>?_) ⟨rfl,g,rfl⟩
 ·obtain⟨rfl,g',rfl⟩:=J
  obtain⟨rfl,hlt⟩:=r8 e
  have W:=(qJ I A a).1
  obtain⟨p,hp0,h5,lp⟩:=W.I.ip.p0
  refine gZ (aI (aR (vE (hc _)) (aI (aR (v := .int 1) cE (aI (aR (v:=bQ.wait.v) (fun _ _ h=>h) (cu (AH (D := .wait) W.I (jD W.I.ok hp0) (by rw[bH hp0];exact lp) trivial (by rw[W.p];exact hp) (by rw[bH hp0];exact h5.1) fun uK=>hf _ _ ⟨?_,uK,rfl⟩))))))))
  rw[List.range_succ,ia];rfl
 ·obtain⟨rfl,g',rfl⟩:=J
  rw[dF]
  exact q g'
end
def Un(x:Int)(l:List Int):(n9 x l).Perm (x::l):=by
 induction l with
 |nil=>exact .refl _
 |cons y r ih=>
  unfold n9
  by_cases h:x≤y
  ·rw[if_pos h]
  ·rw[if_neg h];exact(ih.cons y).trans (.swap x y r)
def Bd(l:List Int):(gE l).Perm l:=by
 induction l with
 |nil=>exact .refl _
 |cons x r ih=>exact(Un x _).trans (ih.cons x)
section
def pG (k:Kn)(i:Nat):Kn:=k.aY i ((k.pp i).read 9)
def v9 (k:Kn)(i:Nat):V := .tup [.int i,.tup [.bytes (bif (k.pp i).blocks 9 then[] else(k.pp i).out k.size ((k.pp i).gives 9)),.int (bif (k.pp i).blocks 9 then 1 else 0)]]
def fS:Kn→List Int→List V
 |_,[]=>[]
 |k,a::r=>v9 k a.toNat::fS (pG k a.toNat) r
def lz:Kn→List Int→Kn
 |k,[]=>k
 |k,a::r=>lz (pG k a.toNat) r
theorem HT:∀{l:List Nat},p∈l→fH (l.map fun(p:Nat)=>((p:Int),rf 3 p)) p=some (rf 3 p)
 |a::r,h=>by
  refine(?_:(if(a:Int)=p then some (rf 3 a) else fH (r.map fun(p:Nat)=>((p:Int),rf 3 p)) p)=_)
  by_cases e:(a:Int)=p
  ·rw[if_pos e,Int.ofNat.inj e]
  ·rw[if_neg e]
   exact HT ((cS.mp h).resolve_left fun z=>e (aa Int.ofNat z.symm))
def Uo(I:au k)(hd:k.dict.length<64)(hl:dQ [81] lv=l)(h1:∀u,aB l 81 u=l++[(81,u)])(h2:∀u v,aB (l++[(81,u)]) 81 v=l++[(81,v)])(hf:aF lv 64=some (rf 8 0))(hc:∀u,aF (l++[(81,u)]) 64=some (rf 8 0)∧aF (l++[(81,u)]) 81=some u)
  (q:∀g',Q (.fl (fS k (gE (k.dict.map fun p:Nat=>(p:Int))))) (H (lz k (gE (k.dict.map fun p:Nat=>(p:Int)))) g' r)):wE (ah (d+2)) (.comp true (.tup [(.v 81),(.ao (.ix (.at (.at (.v 64) 148) 148) (.v 81)) 156 [(.c (.int 9))])]) (.v 81) (.e (.bi .sorted [(.at (.at (.v 64) 148) 148)])) [] sc) lv (H k g r) Q X:=by
 have hm:∀a∈gE (k.dict.map fun p:Nat=>(p:Int)),∃p∈k.dict,(p:Int)=a:=fun a h=>bP.mp ((Bd _).mem_iff.mp h)
 have hlen:(gE (k.dict.map fun p:Nat=>(p:Int))).length<64:=by rw[(Bd _).length_eq,bJ];exact hd
 refine xM (vs:=gE (k.dict.map fun p:Nat=>(p:Int))) (h:=V.int) (fun m ys σ=>∃k' g',σ=H k' g' r∧ys++fS k' ((gE (k.dict.map fun p:Nat=>(p:Int))).drop m)=fS k (gE (k.dict.map fun p:Nat=>(p:Int)))∧lz k' ((gE (k.dict.map fun p:Nat=>(p:Int))).drop m)=lz k (gE (k.dict.map fun p:Nat=>(p:Int)))∧au k'∧k'.dict=k.dict∧k'.ak.length=k.ak.length) (fun K X h=>aq hf ⟨by rw[bJ];exact hd,aL (fun l=>K (.items ((gE l).map V.int)) (H k g r)) (gh (f:=fun p:Nat=>((p:Int),rf 3 p)) (g:=Prod.fst) (l:=k.dict)).symm h⟩) (turns rfl (eL (Nat.lt_trans hlen (by decide)))) hl (ff h1 h2) (fun m a ys σ e J f hk=>?_) (fun ys σ J=>?_) ⟨k,g,rfl,rfl,rfl,I,rfl,rfl⟩
 ·obtain⟨k',g',rfl,e1,e2,I',e3,e4⟩:=J
  obtain⟨p,hp,rfl⟩:=hm a (dD e)
  rw[List.drop_eq_getElem_cons (bM.mp e).1,(bM.mp e).2] at e1 e2
  have hpl:p<k'.ak.length:=e4▸I.ok.dict.2.2 p hp
  have hg:fy (H k' g' r) (rf 1 0) (.int p)=some (rf 3 p):=HT (e3.symm▸hp)
  refine nS (aI (aR (v := .int p) (vE (hc _).2) (aI (c6 (eu (u:=rf 1 0) (fun K X h=>aq (hc _).1 h) (vE (hc _).2) hg) (Gv (c:=9) I'.ok hpl fun uK=>cu (hk _ _ ⟨pG k' p,uK,rfl,?_,e2,I'.read (nO hpl),e3,?_⟩))))))
  ·rw[ku];exact e1
  ·exact(cg).trans e4
 ·obtain⟨k',g',rfl,e1,e2,_⟩:=J
  rw[List.drop_length] at e1 e2
  have e1:ys=_:=(fP ys).symm.trans e1
  have e2:k'=_:=e2
  rw[e1,e2];exact q g'
end
section
variable{l:Lv}
def HU(I:au k)(h:aF lv 186=some (rf 11 0)):Is cx lv (H k g r) (.at (.v 186) 66) (rf 10 0):=fun K X q=>aq h (aL (fun o:Option Nat=>K (o.elim .none fun i=>rf 10 i) (H k g r)) I.first.symm q)
def Up{K:QV}(ha:Is cx lv σ e u)(h:aQ (mu σ u n) fun w=>K w σ):wE cx (.at e n) lv σ K X:=ha _ _ h
def dN (lv l:Lv):Prop:=∀y v,aF l y=some v→aF lv y=some v
section
def dN.set(h:dN lv l)(e:aF l x=none):dN (aB lv x u) l:=fun y _ z=>(rq fun w:y=x=>by rw[w,e] at z;exact nn z).trans (h _ _ z)
def dN.add(h:dN lv l)(e:aF l x=none):dN (aB lv x u) ((x,u)::l):=fun y v z=>by
 by_cases w:x=y
 ·subst w;exact oz.trans (fZ.symm.trans z)
 ·exact h.set e _ _ ((dZ w).symm.trans z)
def qK:∀{l:Lv},aF l y=some v→aF (l++m) y=some v:=by
 intro l
 induction l with
 |nil=>exact nn
 |cons a r ih=>
  intro h
  by_cases e:a.1=y
  ·subst e;exact fZ.trans (fZ.symm.trans h)
  ·exact(dZ e).trans (ih ((dZ e).symm.trans h))
def fresh(h:aF l x=none):(aB l x u=l++[(x,u)]∧aB (l++[(x,u)]) x v=l++[(x,v)])∧aF (l++[(x,u)]) x=some u:=by
 induction l with
 |nil=>exact⟨⟨rfl,pY⟩,fZ⟩
 |cons a r ih=>
  by_cases e:a.1=x
  ·subst e;cases fZ.symm.trans h
  ·have:=ih ((dZ e).symm.trans h)
   exact⟨⟨(ou e).trans (aa (a::·) this.1.1),(ou e).trans (aa (a::·) this.1.2)⟩,(dZ e).trans this.2⟩
def Be:(y≠x→aF (dQ [x] l) y=aF l y)∧aF (dQ [x] l) x=none:=by
 induction l with
 |nil=>exact⟨fun _=>rfl,rfl⟩
 |cons a r ih=>
  unfold dQ at ih ⊢
  by_cases e:a.1=x
  ·rw[List.filter_cons_of_neg (by rw[e];simp)]
   exact⟨fun n=>(ih.1 n).trans (dZ fun z=>n (z.symm.trans e)).symm,ih.2⟩
  ·rw[List.filter_cons_of_pos (by simp [e])]
   refine⟨fun n=>?_,(dZ e).trans ih.2⟩
   by_cases z:a.1=y
   ·subst z;exact fZ.trans fZ.symm
   ·exact(dZ z).trans ((ih.1 n).trans (dZ z).symm)
def lC:aF (dQ [x] l) x=none:=(Be (y:=x)).2
def uL(h:aF l x=none):aB l x u=l++[(x,u)]:=(fresh (v:=u) h).1.1
def uM(h:aF l x=none):aB (l++[(x,u)]) x v=l++[(x,v)]:=(fresh h).1.2
def uO(h:aF l x=none):aF (l++[(x,u)]) x=some u:=(fresh (v:=u) h).2
def dN.cut(h:dN lv l)(e:aF l x=none):dN (dQ [x] lv) l:=fun y _ z=>(Be.1 fun w:y=x=>by rw[w,e] at z;exact nn z).trans (h _ _ z)
end
def B.Uq(S:Nat→Gh→St)(P:Lv→Prop)(hP:∀lv u v,P lv→P (aB (aB lv 129 u) 63 v))(hz:sl.length≤99)(hi:∀(K:QS) (X:QX),K (.items ((aU sl).map jE)) (S 0 s0)→wI cx it lv σ K X)(h0:P lv)
  (step:∀(m n f:Nat) s lv,(aU sl)[m]?=some (n,some f)→sl[n]?=some (some f)→P lv→∀k:QL,(∀s,k (aB (aB lv 129 (.int n)) 63 (rf 7 f)) (S (m+1) s))→wB cx a (aB (aB lv 129 (.int n)) 63 (rf 7 f)) (S m s) (iI k (dX (fun lv σ=>wB cx b lv σ Q) Q))) (fin:∀s lv,P lv→wB cx b lv (S (aU sl).length s) Q):wB cx (.c7 (.tup [.v 129,.v 63]) it a::b) lv σ Q:=
 B.kR (src:=jw (aU sl) jE) (t := .tup [.v 129,.v 63]) hi (AB hz) (fun m lv τ=>P lv∧∃s,τ=S m s) (fun _ _ _ _=>kQ) (fun m x lv τ e J k hk=>by
  obtain⟨p,s,rfl⟩:=J
  obtain⟨f,e1,e2⟩:=wX (dD e)
  obtain⟨n,t⟩:=x
  obtain rfl:t=some f:=e1
  exact⟨rfl,step m n f s lv e e2 p k fun s=>hk _ _ ⟨hP _ _ _ p,s,rfl⟩⟩) (fun lv τ J=>by
  obtain⟨p,s,rfl⟩:=J
  exact fin s lv p) ⟨h0,s0,rfl⟩
def Ur(I:au k)(hs:(k.pr 0).fs=some sl)(h0:dN lv [(39,rf 6 0),(186,rf 11 0)])
  (q:∀g' lv',(∀m,dN lv m→aF m 129=none→aF m 63=none→dN lv' m)→wB (ah (d+5)) b lv' (H (k.b9 0) g' r) Q):wB (ah (d+5)) (.c7 (.tup [(.v 129),(.v 63)]) (.e (.ao (.at (.at (.v 186) 66) 64) 32 [])) [(.ex (.ao (.v 39) 46 [(.at (.v 186) 66),(.v 129)]))]::b) lv (H k g r) Q:=by
 have hi:0<k.n:=I.ok.n0
 have F:=I.ok.fs _ _ _ (I.ok.pr hi) hs
 have e0:k.b9 0=((aU sl).take (aU sl).length).foldl (fun k x=>k.cY 0 x.1) k:=by
  unfold Kn.b9;rw[hs,iR];rfl
 rw[e0] at q
 have hf:Is (ah (d+5)) lv (H k g r) (.at (.at (.v 186) 66) 64) (rf 9 (vx g.d 0)):=fun K X h=>Up (HU I (h0 _ _ rfl)) (aL (fun o:Option (List (Option Nat))=>K (o.elim .none fun _=>rf 9 (vx g.d 0)) (H k g r)) hs.symm h)
 refine B.Uq (s0:=g) (fun m g=>H (((aU sl).take m).foldl (fun k x=>k.cY 0 x.1) k) g r) (fun l=>∀m,dN lv m→aF m 129=none→aF m 63=none→dN l m) (fun _ _ _ h m a b c=>((h m a b c).set b).set c) (F.1▸I.ok.sl.2) (fun K X h=>c6 hf (uu (i6 I.ok hi) hs (F.1▸I.ok.sl.2) h)) (fun _ h _ _=>h) (fun m n f g l e e2 hl k' hk=>?_) (fun g l h=>q g l h)
 obtain⟨It,tt,q',hq,hs'⟩:=I.wY (I.ok.pr hi) hs m (eL (bM.mp e).1)
 have hi':=(tt.n.symm▸hi:0<(((aU sl).take m).foldl (fun k x=>k.cY 0 x.1) k).n)
 rw[←bH hq] at hs'
 have hc:dN (aB (aB l 129 (.int n)) 63 (rf 7 f)) [(129,.int n),(39,rf 6 0),(186,rf 11 0)]:=((hl _ h0 rfl rfl).add rfl).set rfl
 refine B.ju (c6 (u:=rf 6 0) (vE (hc _ _ rfl)) (aq (o:=oh _ (rf 6 0) 46) rfl (aI (aR (HU It (hc _ _ rfl)) (aI (aR (vE (hc _ _ rfl)) (cu (AG It hi' hs' ((z9 (Aa e)).trans e2) fun g=>B.nil (aL (fun k=>k' _ (H k g r)) ?_ (hk g))))))))))
 rw[kP e,kC];rfl
end
def x8(k:Kn)(i:Nat)(x:Nat×Option Nat):V := .tup [.int (k.pr i).pid,.int x.1,.int ((k.fi (x.2.getD 0)).pipe:Nat),.bool (k.fi (x.2.getD 0)).rd,.int (k.fi (x.2.getD 0)).aK]
def gc(k:Kn)(i:Nat):List V:=((k.pr i).fs.elim [] aU).map (x8 k i)
abbrev HL(k:Kn)(g:Gh)(r:St)(N:Nat)(xs:List V):St:=H k g (r.new ⟨64,N⟩ (.list xs))
def L5 (N:Nat)(n:V):Lv:=[(39,rf 6 0),(106,n),(186,rf 11 0),(64,rf 8 0),(79,.ref ⟨64,N⟩)]
def qL (N:Nat)(n:V):Option (V×Option (V×V))→Lv
 |none=>L5 N n
 |some u=>Lp (L5 N n++[(152,u.1)]) u.2
section
def Us{Q:QV}(hu:r.us ⟨64,N⟩=false)(q:Q (.ref ⟨64,N⟩) (HL k g r N xs)):fu 0 (.list xs) (H k g r) Q:=
 ⟨⟨64,N⟩,rfl,hu,aL (Q (.ref ⟨64,N⟩)) ((aa (St.set · ⟨64,N⟩ (.list xs)) (GP rfl)).trans (xG rfl)).symm q⟩
def Bf:(HL k g r N xs).hp ⟨64,N⟩=some (.list xs):=St.jS (σ:=r.use ⟨64,N⟩)
def Ut:(HL k g r N xs).set ⟨64,N⟩ (.list ys)=HL k g r N ys:=(xG rfl).trans (aa (H k g) (Qd (σ:=r.use ⟨64,N⟩)))
def HV:(aU sl).length≤sl.length:=aH (jd _ _) (by rw[List.length_zip,dF,Nat.min_self];exact cL _)
def Uu(I:au k)(q:∀o,wB (ah (d+5)) b (qL N n o) (HL k g r N (k.al.flatMap (gc k))) Q):wB (ah (d+5)) (.c7 (.v 152) (.e (.ao (.v 186) 31 [])) [(.c7 (.tup [(.v 129),(.v 63)]) (.e (.ao (.at (.v 152) 64) 32 [])) [(.ex (.ao (.v 79) 33 [(.tup [(.at (.v 152) 145),(.v 129),(.at (.at (.v 63) 147) 81),(.at (.v 63) 159),(.at (.v 63) 80)])]))])]::b) (L5 N n) (HL k g r N []) Q:=by
 have K:=I.ok
 refine B.kR (src:=jw k.al fun i=>rf 10 i) (t := .v 152) (vs:=k.al) (h:=fun i=>rf 10 i) (σ':=HL k g r N []) (fun K' X h=>c6 (u:=rf 11 0) (vE rfl) (Fe K.nl h)) (oY K.nl) (fun m lv σ=>(∃o,lv=qL N n o)∧∃xs,xs=(k.al.take m).flatMap (gc k)∧xs.length≤99 * m∧σ=HL k g r N xs) (fun _ _ _ _=>kQ) (fun m a lv σ e J f hf=>?_) (fun lv σ J=>?_) ⟨⟨none,rfl⟩,[],rfl,cL _,rfl⟩
 ·obtain⟨⟨o,rfl⟩,xs,e1,e2,rfl⟩:=J
  have ha:=dD e
  obtain⟨hp,hu⟩:=A8 K ha
  obtain⟨sl,hs,_⟩:=I.ip.fs _ _ hp hu
  have hsl:sl.length≤99:=(K.fs _ _ _ hp hs).1▸K.sl.2
  have hm:m<99:=je (bM.mp e).1 (HG K)
  obtain⟨o2,e3⟩:∃o2,aB (qL N n o) 152 (rf 10 a)=Lp (L5 N n++[(152,rf 10 a)]) o2:=by
   cases o with
   |none=>exact⟨none,rfl⟩
   |some u=>exact⟨u.2,by cases u with | mk v w=>cases w <;> rfl⟩
  refine(?_:wB (ah (d+5)) _ (aB (qL N n o) 152 (rf 10 a)) _ _)
  rw[e3]
  have e4:(k.al.take (m+1)).flatMap (gc k)=xs++(aU sl).map (x8 k a):=by
   rw[kP e,List.flatMap_append,←e1,List.flatMap_singleton,gc,hs];rfl
  refine B.GK (s0:=()) (L5 N n++[(152,rf 10 a)]) o2 (fun t _=>HL k g r N (xs++((aU sl).take t).map (x8 k a))) (fun _ _=>True) hsl (fun K' X h=>c6 (jF hs rfl) (uu (i6 K (m7 ha)) hs hsl (aL (fun l=>K' (.items ((aU sl).map jE)) (HL k g r N l)) (fP xs) h))) rfl (fun o _ _=>by cases o <;> rfl) (fun t y z _ e5 _ _ f' hf'=>?_) (fun _ o3 _=>?_) trivial
  ·have ht:=je (bM.mp e5).1 (aH HV hsl)
   refine B.ju (c6 (u := .ref ⟨64,N⟩) (vE rfl) (aq (sy Bf rfl rfl) (aI (nS (aI (aR (v := .int (k.pr a).pid) (fun _ _ h=>h) (aI (aR (v := .int y) (fun _ _ h=>h) (aI (aR (v := .int ((k.fi z).pipe:Nat)) (fun _ _ h=>h) (aI (aR (v := .bool (k.fi z).rd) (fun _ _ h=>h) (aI (aR (v := .int (k.fi z).aK) (fun _ _ h=>h) (cu (cu (aq (r9 Bf rfl ?_) (B.nil ?_))))))))))))))))))
   ·rw[cG,bJ,List.length_take]
    exact fU (m:=99 * 99+99) (by lia) (by decide)
   ·refine aL (fun σ=>f' _ σ) ?_ (hf' () trivial)
    rw[kP e5,ia,←ku];exact Ut.symm
  ·refine B.nil (hf _ _ ⟨⟨some (rf 10 a,o3),rfl⟩,_,e4.symm,?_,(by rw[iR])⟩)
   rw[cG,bJ]
   have:=HV (sl:=sl)
   lia
 ·obtain⟨⟨o,rfl⟩,xs,e1,_,rfl⟩:=J
  rw[iR] at e1
  rw[e1];exact q o
end
def dl (k:Kn):List Int:=gE (k.dict.map fun p:Nat=>(p:Int))
def Kn.e1(k:Kn):Kn:=lz k (dl k)
def Kn.e2(k:Kn):Kn:=k.e1.iP (ki k.e1) (may k.e1)
def Kn.e4(k:Kn)(m:Nat):Kn:=(k.e2.fk m).b9 0
section
def Uv(h:a∈dl k):∃p∈k.dict,(p:Int)=a:=bP.mp ((Bd _).mem_iff.mp h)
def Uw:∀{l:List Int} {k:Kn},au k→(∀a∈l,a.toNat<k.ak.length)→au (lz k l)∧(lz k l).ak.length=k.ak.length:=by
 intro l
 induction l with
 |nil=>exact fun I _=>⟨I,rfl⟩
 |cons a r ih=>
  intro k I h
  have e:(pG k a.toNat).ak.length=k.ak.length:=cg
  have:=ih (I.read (c:=9) (nO (h a (eF ..)))) fun b hb=>e.symm▸h b (eY _ hb)
  exact⟨this.1,this.2.trans e⟩
def x9:∀{l:List Int} {k:Kn} {ps:List Pr},lz (k.on ps) l=(lz k l).on ps∧fS (k.on ps) l=fS k l∧(lz k l).af=k.af∧(lz k l).n=k.n:=by
 intro l
 induction l with
 |nil=>exact fun{k ps}=>⟨rfl,rfl,rfl,rfl⟩
 |cons a r ih=>exact fun{k ps}=>⟨(ih (k:=pG k a.toNat) (ps:=ps)).1,aa (v9 k a.toNat::·) (ih (k:=pG k a.toNat) (ps:=ps)).2.1,(ih (k:=pG k a.toNat) (ps:=ps)).2.2.1,(ih (k:=pG k a.toNat) (ps:=ps)).2.2.2⟩
theorem au.e1(I:au k):au k.e1∧k.e1.ak.length=k.ak.length:=Uw I fun a h=>by
 obtain⟨p,hp,rfl⟩:=Uv h
 exact I.ok.dict.2.2 p hp
theorem au.e2(I:au k):Xs (may k.e1) k.e1 k.e2∧pF k.e2:=⟨x6 I.e1.1 x7 fun _ hi=>⟨_,sC I.e1.1 hi⟩,Ui I.e1.1⟩
def Ux(I:au k):k.e2.n=k.n:=I.e2.1.n.trans (x9 (ps:=[])).2.2.2
def aJ.e(S:aJ none true kA kB)(IB:au kB):dl kA=dl kB∧fS kA (dl kA)=fS kB (dl kB)∧(∀m,kA.e2.wt m=kB.e2.wt m)∧kA.al.flatMap (gc kA)=kB.al.flatMap (gc kB):=by
 have hd:dl kA=dl kB:=aa (fun l:List Nat=>gE (l.map fun p:Nat=>(p:Int))) S.eqs.2.2.2.2.1
 have S1:aJ none true kA.e1 kB.e1:=by
  unfold Kn.e1
  rw[hd]
  exact aJ.rest (f:=fun k=>lz k (dl kB)) S (fun _=>x9.1) (x9 (ps:=[])).2.2.1
 have he:ki kA.e1=ki kB.e1:=funext fun i=>aa (fun z:Int=>50+z) (by
  by_cases h:i<kB.e1.n
  ·exact(S1.prs IB.e1.1.ok h).pid
  ·have h2:kB.e1.af.length≤i:=IB.e1.1.ok.n.symm▸kE h
   have h3:kA.e1.af.length≤i:=S1.eqs.2.2.2.2.2.2.2.2.2▸h2
   unfold Kn.pr
   rw[iQ h2,iQ h3])
 have S2:aJ none true kA.e2 kB.e2:=by
  unfold Kn.e2
  rw[he,S1.may IB.e1.1.ok]
  exact aJ.iP S1 IB.e1.1 x7 fun _ hi=>⟨_,sC IB.e1.1 hi⟩
 refine⟨hd,?_,fun m=>(aJ.Uj S2 IB.e2.1.I IB.e2.2 m).2,?_⟩
 ·rw[hd]
  obtain⟨ps,rfl,_⟩:=S
  exact x9.2.1
 ·rw[S.al IB.ok,List.flatMap_def,List.flatMap_def]
  refine aa List.flatten (pM fun i hi=>?_)
  have P:=S.prs IB.ok (m7 hi)
  have hf:kA.fi=kB.fi:=funext fun j=>aa (fun l:List Fi=>(l[j]?).getD ⟨true,0,0⟩) S.eqs.2.1
  unfold gc x8
  rw[P.fs,P.pid,hf]
def HW(I:au k)(hm:k.n≤m+1):k.e2.wt m = .str 163∧(k.e4 (m+1)).al.map (fun i=>(k.e4 (m+1)).pr i |>.pid)=[1]∧(k.e4 (m+1)).aW=[]∧(k.e4 (m+1)).dict=[]:=by
 have A:=I.e2.2
 refine cps fun C9 k9=>?_
 obtain⟨h1,O,W⟩:=Ue I.e2.1.I A (n:=m) ((Ux I).symm▸hm)
 obtain⟨p,hp,_,lp⟩:=W.I.ip.p0
 obtain⟨q,sl,I4,t,hq,hs,hn,_⟩:=W.I.b9 hp lp
 refine k9 ?_
 have O4:nV (k.e4 (m+1)):=fun a b hb h0=>by
  have ha:a<(k.e2.fk (m+1)).af.length:=t.l▸(bM.mp hb).1
  obtain⟨c,g1,_,_,g2,_⟩:=t.g a _ (bZ ha)
  obtain rfl:b=c:=aT (hb.symm.trans g1)
  have:=O a _ (bZ ha) h0
  rcases g2 with e | e
  ·exact e.trans this
  ·rw[this] at e;exact absurd e.1 (gy rfl)
 have I4:au (k.e4 (m+1)):=I4
 have hq:(k.e4 (m+1)).af[0]?=some q:=hq
 refine⟨h1,?_,Uh I4 O4 hq hs hn⟩
 generalize k.e4 (m+1)=k4 at *
 obtain⟨p4,HX,h5,l4⟩:=I4.ip.p0
 have e:k4.al=[0]:=by
  obtain⟨n',hn'⟩:∃n',k4.n=n'+1:=⟨k4.n - 1,(Nat.succ_pred_eq_of_pos I4.ok.n0).symm⟩
  unfold Kn.al
  rw[hn',List.range_succ_eq_map,List.filter_cons_of_pos (I4.there HX l4.1)]
  refine aa (0::·) (List.filter_eq_nil_iff.mpr fun a ha z=>?_)
  obtain⟨b,hb,rfl⟩:=bP.mp ha
  have hb:b.succ<k4.n:=hn'▸Nat.succ_lt_succ (fE.mp hb)
  exact ud (I4.ok.pr hb) z (O4 _ _ (I4.ok.pr hb) (Nat.succ_ne_zero b))
 rw[e]
 exact aa (fun z=>[z]) ((aa Pr.pid (bH HX)).trans h5.1)
end
def ya(k:Kn)(N m:Nat):V := .fl [.ref ⟨64,N⟩,.fl (fS k (dl k)),.fl ((List.range m).map k.e2.wt),.fl ((k.e4 m).al.map fun i => .int ((k.e4 m).pr i).pid),.int (k.e4 m).aW.length,.int (k.e4 m).dict.length]
section
variable{Q:QV}
def Uy(h:wL cx es lv σ (fun vs σ=>Q (.fl vs) σ) X):wE cx (.lst true es) lv σ Q X:=h
def Bh(h:Q (.fl vs) σ):newL true vs σ Q:=h
def Uz(e:aF lv n=some u)(e2:mu σ u f=some v):Is cx lv σ (.at (.v n) f) v:=fun _ _ h=>aq e (aq e2 h)
def dN.nil:dN lv []:=(fun _ _=>nn)
def dN.cons(e:aF lv x=some u)(h:dN lv l):dN lv ((x,u)::l):=fun y v z=>by
 by_cases w:x=y
 ·subst w;exact e.trans (fZ.symm.trans z)
 ·exact h _ _ ((dZ w).symm.trans z)
def HY(I:au k)(h9:n≤90)(hp:k.ak.length≤60)(hu:r.us ⟨64,N⟩=false)(q:∀g',Q (ya k N (n+2)) (HL (k.e4 (n+2)) g' r N (k.al.flatMap (gc k)))):ah (d+9) 98 [rf 6 0,.int n] (H k g r) Q X:=by
 have E2:=I.e2
 refine qG [(39,rf 6 0),(106,.int n)] rfl (B.xQ (nS (aI (aR (v:=rf 11 0) (fun _ _ h=>h) (aI (aR (v:=rf 8 0) (fun _ _ h=>h) (aI (HK (Us hu (cu ⟨rfl,?_⟩))))))))))
 refine Uu (d:=d+3) (n := .int n) I fun o=>?_
 have H0:dN (qL N (.int n) o) (L5 N (.int n)):=by
  cases o with
  |none=>exact fun _ _ e=>e
  |some u=>exact fun _ _ e=>qK (qK e)
 have hr:aF (qL N (.int n) o) 168=none:=by
  cases o with
  |none=>rfl
  |some u=>cases u with | mk v w=>cases w <;> rfl
 generalize qL N (.int n) o=La at H0 hr
 refine B.eT (Uo (d:=d+6) (l:=dQ [81] La) I (fU (aH I.dl hp) (by decide)) rfl (fun _=>uL lC) (fun _ _=>uM lC) (H0 _ _ rfl) (fun u=>⟨qK (H0.cut rfl _ _ rfl),uO lC⟩) fun g1=>?_)
 have H1:=H0.add (x:=131) (u := .fl (fS k (dl k))) rfl
 have hr:aF (aB La 131 (.fl (fS k (dl k)))) 168=none:=(rq (gy rfl)).trans hr
 refine Uk (k:=k.e1) (l:=aB La 131 (.fl (fS k (dl k)))) I.e1.1 (H1 _ _ rfl) (fun u=>⟨qK (H1 _ _ rfl),uO hr⟩) (fun _=>uL hr) (fun _ _=>uM hr) fun g2 o=>?_
 have H2:dN (Lo (aB La 131 (.fl (fS k (dl k)))) 168 k.e1.bD o) _:=fun y v e=>qK (H1 y v e)
 generalize Lo (aB La 131 (.fl (fS k (dl k)))) 168 k.e1.bD o=Lc at H2
 have UA:k.e2.ak.length≤900:=by rw[E2.1.pl,I.e1.2];lia
 refine B.eT (Um (k:=k.e2) (m:=n+2) (l:=dQ [193] Lc) E2.1.I E2.2 (by lia) UA (fun K X h=>aq (H2 _ _ rfl) (aq (o:=jO .add (.int n) (.int 2)) (a := .int ((n+2:Nat):Int)) rfl (aq (mV (by lia)) h))) rfl (fun _=>uL lC) (fun _ _=>uM lC) (fun u=>qK (H2.cut rfl _ _ rfl)) fun g3=>?_)
 have H3:=H2.add (x:=192) (u := .fl ((List.range (n+2)).map k.e2.wt)) rfl
 have W:=(qJ E2.1.I E2.2 (n+2)).1.I
 refine cps fun C9 k9=>?_
 obtain⟨p,hp,_,lp⟩:=W.ip.p0
 obtain⟨sl,hs⟩:=W.lX hp lp
 refine k9 ?_
 refine Ur (d:=d+3) W ((aa Pr.fs (bH hp)).trans hs) (dN.cons (H3 _ _ rfl) (dN.cons (H3 _ _ rfl) dN.nil)) fun g4 lv' hk=>?_
 have H4:=hk _ H3 rfl rfl
 obtain⟨_,_,I4,_⟩:=W.b9 hp lp
 have nl:(k.e4 (n+2)).n≤99:=I4.ok.nl
 have q:=q g4
 have e4:(k.e2.fk (n+2)).b9 0=k.e4 (n+2):=rfl
 rw[e4]
 unfold ya at q
 generalize k.e4 (n+2)=k4 at q nl
 refine B.ret (Uy (aI (aR (vE (H4 _ _ rfl)) (aI (aR (vE (H4 _ _ rfl)) (aI (aR (vE (H4 _ _ rfl)) (aI ?_))))))))
 refine kT (vs:=k4.al) (h:=k4.bD) (c:=fun _=>true) (f:=fun i => .int (k4.pr i).pid) (l:=dQ [168] lv') (fun K X h=>c6 (u:=rf 11 0) (vE (H4 _ _ rfl)) (rW nl h)) rfl (ff (fun _=>uL lC) fun _ _=>uM lC) (fun _ _ _ h=>h) (fun a _ K h=>eu (vE (uO lC)) cE (r := .int (k4.pr a).pid) rfl _ _ h) (oY nl) ?_
 rw[(List.filter_eq_self.mpr fun _ _=>rfl:k4.al.filter (fun _=>true)=k4.al)]
 exact Bh (aI (c6 (u:=rf 8 0) (vE (H4 _ _ rfl)) (Aw (aI (c6 (u:=rf 4 0) (Uz (H4 _ _ rfl) rfl) (Ax (cu q)))))))
end
section
variable{kA:Kn}{os:List V}
def iA(h:f a a=some true)(t:all2 f l l=some true):all2 f (a::l) (a::l)=some true:=by
 refine(?_:((f a a).bind fun p=>(all2 f l l).bind fun q=>some (p&&q))=_)
 rw[h,t];rfl
def yb(h:∀v∈l,f v v=some true):all2 f l l=some true:=by
 induction l with
 |nil=>rfl
 |cons a r ih=>exact iA (h a (eF ..)) (ih fun v hv=>h v (eY _ hv))
def Bj(h:∀v∈l,cj v=v):fY l=l:=by
 induction l with
 |nil=>rfl
 |cons a r ih=>exact(congr (aa List.cons (h a (eF ..))) (ih fun v hv=>h v (eY _ hv)):cj a::fY r=a::r)
def l6:cC (d+1) s (.int i) (.int i)=some true:=aa some (dW i)
def Bk(h:all2 (cC d s) x x=some true):cC (d+1) s (.fl x) (.fl x)=some true:=(if_pos rfl).trans h
def held_eq(h:v∈kA.al.flatMap (gc kA)):cC 7 s v v=some true∧cj v=v:=by
 obtain⟨i,_,h⟩:=List.mem_flatMap.mp h
 obtain⟨y,_,rfl⟩:=bP.mp h
 exact⟨iA l6 (iA l6 (iA l6 (iA (aa some (dW _)) (iA l6 rfl)))),rfl⟩
def UB:∀{l:List Int} {k:Kn},v∈fS k l→cC 7 s v v=some true∧cj v=v:=by
 intro l
 induction l with
 |nil=>exact fun h=>(nomatch h)
 |cons a r ih=>
  intro k h
  rcases cS.mp h with rfl | h
  ·exact⟨iA l6 (iA (iA (aa some (dW (α:=List Nat) _)) (iA l6 rfl)) rfl),rfl⟩
  ·exact ih h
def UC(h:Plain v):cC 7 s v v=some true∧cj v=v:=by
 cases h with
 |none=>exact⟨rfl,rfl⟩
 |int x=>exact⟨l6,rfl⟩
 |str n=>exact⟨aa some (dh n),rfl⟩
 |bytes l=>exact⟨aa some (dW (α:=List Nat) _),rfl⟩
 |two x y=>exact⟨iA l6 (iA l6 rfl),rfl⟩
def UD(h1:s.lst ⟨64,N⟩=some x)(h2:s.lst ⟨64,N+1⟩=some x)(hx:∀v∈x,cC 7 s v v=some true)(ho:∀v∈os,cC 7 s v v=some true)(ht:∀v∈ts,cC 7 s v v=some true)(hp:∀v∈ps,cC 7 s v v=some true):
  cC 9 s (.fl [.ref ⟨64,N⟩,.fl os,.fl ts,.fl ps,.int i,.int j]) (.fl [.ref ⟨64,N+1⟩,.fl os,.fl ts,.fl ps,.int i,.int j])=some true:=by
 have e:cC 8 s (.ref ⟨64,N⟩) (.ref ⟨64,N+1⟩)=some true:=by
  refine(?_:((s.lst ⟨64,N⟩).bind fun x=>(s.lst ⟨64,N+1⟩).bind fun y=>if x.length=y.length then all2 (cC 7 s) x y else some false)=_)
  rw[h1,h2]
  exact(if_pos rfl).trans (yb hx)
 refine(?_:(if 6=6 then((cC 8 s (.ref ⟨64,N⟩) (.ref ⟨64,N+1⟩)).bind fun p=>(all2 (cC 8 s) [.fl os,.fl ts,.fl ps,.int i,.int j] [.fl os,.fl ts,.fl ps,.int i,.int j]).bind fun q=>some (p&&q)) else some false)=_)
 rw[if_pos rfl,e,iA (Bk (yb ho)) (iA (Bk (yb ht)) (iA (Bk (yb hp)) (iA l6 (iA l6 rfl))))]
 rfl
def HZ{K:QV}(h:Is cx lv σ e (.bool true))(q:mw cx (y::r) lv σ K X):mw cx (e::y::r) lv σ K X:=h _ _ q
def UE(h:Is cx lv σ e (.int i)):Is cx lv σ (.neg e) (.int (-i)):=fun _ _ q=>h _ _ q
def UG:fy s (.fl ((List.range (n+1)).map h)) (.int (-1))=some (h n):=by
 refine(?_:(place ((List.range (n+1)).map h).length (-1)).bind (fun k=>((List.range (n+1)).map h)[k]?)=_)
 rw[bJ,dF,show place (n+1) (-1)=some ((-1:Int)+((n+1:Nat):Int)).toNat from(if_neg (by decide)).trans (if_pos (by lia)),show((-1:Int)+((n+1:Nat):Int)).toNat=n by lia]
 refine(?_:((List.range (n+1)).map h)[n]?=_)
 rw[fV,List.getElem?_range (kD n)];rfl
def UH{f:QC}{k i:Nat}(h:Nat.blt k 4096=true):(HB f u r).new ⟨k,i⟩ c=HB f u (r.new ⟨k,i⟩ c):=(aa (St.set · ⟨k,i⟩ c) (GQ h)).trans (AL h)
end
section
def UI(ha:Is cx lv σ a v)(q:Q v σ):mw cx [a] lv σ Q X:=ha _ _ q
def H6(q:mw cx es lv σ Q X):wE cx (.an es) lv σ Q X:=q
def UJ(ha:Is cx lv σ a u)(e:yw u (some (.int i)) none σ=some v):Is cx lv σ (.pQ a (.c (.int i))) v:=fun _ _ h=>ha _ _ (aq e h)
def H7(e:k.e2.wt=fun m=>kA.e2.wt m)(e1:fS k (dl k)=fS kA (dl kA))(h:(k.e4 (n+2)).al.map (fun i=>(k.e4 (n+2)).pr i |>.pid)=[1]∧(k.e4 (n+2)).aW=[]∧(k.e4 (n+2)).dict=[]):ya k N (n+2) = .fl [.ref ⟨64,N⟩,.fl (fS kA (dl kA)),.fl ((List.range (n+2)).map kA.e2.wt),.fl [.int 1],.int 0,.int 0]:=by
 have h1:=aa (List.map V.int) h.1
 rw[gh] at h1
 unfold ya
 rw[h.2.1,h.2.2,e,e1]
 exact aa (fun z=>V.fl [.ref ⟨64,N⟩,.fl (fS kA (dl kA)),.fl ((List.range (n+2)).map kA.e2.wt),.fl z,.int 0,.int 0]) h1
def UK(hh:∀n,Plain (h n))(hv:v∈(List.range m).map h):Plain v:=by
 obtain⟨i,_,rfl⟩:=bP.mp hv
 exact hh i
def UL(S:aJ none true kA kB)(IA:au kA)(IB:au kB)(hn:kB.n=n+2)(h9:n≤90)(hp:kB.ak.length≤60)(hP:aF lv 140=some gx)(hM:aF lv 106=some (.int n))(q:∀σ,Q (.bool true) σ):wB (ah (d+9)) ((bu 99).body.drop 12) lv (WW kA gA kB gB L) (cW Q X):=by
 refine cps fun C9 k9=>?_
 obtain⟨_,E1,E2,E3⟩:=S.e IB
 obtain⟨eA,UM⟩:=HW IA (m:=n+1) (S.eqs.1.trans hn▸cL _)
 obtain⟨_,UN⟩:=HW IB (m:=n+1) (hn▸cL _)
 refine k9 ?_
 have lA:=H7 (N:=L.c 64) rfl rfl UM
 have lB:=H7 (N:=L.c 64+1) (funext fun m=>(E2 m).symm) E1.symm UN
 have ho:=fun(v:V) (h:v∈fS kA (dl kA)) s=>UB (s:=s) h
 have ht:=fun(v:V) (h:v∈(List.range (n+2)).map kA.e2.wt) s=>UC (s:=s) (UK (fun _=>Ug) h)
 have hx:=fun(v:V) (h:v∈kA.al.flatMap (gc kA)) s=>held_eq (s:=s) h
 have hM':∀u,aF (dQ [39] lv++[(39,u)]) 106=some (.int n):=fun u=>qK ((Be.1 (gy rfl)).trans hM)
 refine B.eT (AU (l:=dQ [39] lv) (u:=rf 6 0) (v:=cj (rf 6 0)) (fun K X h=>aq hP h) rfl (uL lC) (uM lC) (gZ (aI (aR (vE (uO lC)) (aI (aR (vE (hM' _)) (cu (HY (N:=L.c 64) IA h9 (S.eqs.2.2.1▸hp) uw fun nQ=>?_))))))))
 refine gZ (aI (aR (vE (uO lC)) (aI (aR (vE (hM' _)) (cu ?_)))))
 rw[lA,HL,UH rfl]
 generalize kA.e4 (n+2)=qx
 refine qC (as:=[rf 6 0,.int n]) rfl (HY (N:=L.c 64+1) IB h9 hp ?_ fun qF=>?_)
 ·exact(aa (· || Nat.blt (L.c 64+1) (L.c 64)) (mE fun e=>by injection e with _ e;lia)).trans (iC.mpr fun e=>absurd (bw e) (by lia))
 ·rw[lB,←E3]
  generalize kB.e4 (n+2)=yc
  have h2:(eG (HL yc qF (HB (fz qx nQ) (fc qx nQ) (eG ((LH L).new ⟨64,L.c 64⟩ (.list (kA.al.flatMap (gc kA)))))) (L.c 64+1) (kA.al.flatMap (gc kA)))).lst ⟨64,L.c 64+1⟩=some (kA.al.flatMap (gc kA)):=(aa (fun o:Option Cell=>(o.map eZ).bind Cell.pS) Bf).trans (aa some (Bj fun v h=>(hx v h ⟨fun _=>none,fun _=>false⟩).2))
  have h1:(eG (HL yc qF (HB (fz qx nQ) (fc qx nQ) (eG ((LH L).new ⟨64,L.c 64⟩ (.list (kA.al.flatMap (gc kA)))))) (L.c 64+1) (kA.al.flatMap (gc kA)))).lst ⟨64,L.c 64⟩=some (kA.al.flatMap (gc kA)):=by
   have h0:(HL yc qF (HB (fz qx nQ) (fc qx nQ) (eG ((LH L).new ⟨64,L.c 64⟩ (.list (kA.al.flatMap (gc kA)))))) (L.c 64+1) (kA.al.flatMap (gc kA))).hp ⟨64,L.c 64⟩=some (.list (fY (kA.al.flatMap (gc kA)))):=(St.jT fun e=>?_).trans (aa (Option.map eZ) (St.jS (σ:=(LH L).use ⟨64,L.c 64⟩) (c := .list (kA.al.flatMap (gc kA)))))
   exact(aa (fun o:Option Cell=>(o.map eZ).bind Cell.pS) h0).trans (aa some (AI (kA.al.flatMap (gc kA))))
   injection e with _ e;lia
  generalize eG (HL yc qF _ _ _)=τ at h1 h2 ⊢
  rw[show cj (.fl [.ref ⟨64,L.c 64+1⟩,.fl (fS kA (dl kA)),.fl ((List.range (n+2)).map kA.e2.wt),.fl [.int 1],.int 0,.int 0]) = .fl [.ref ⟨64,L.c 64+1⟩,.fl (fY (fS kA (dl kA))),.fl (fY ((List.range (n+2)).map kA.e2.wt)),.fl [.int 1],.int 0,.int 0] from rfl,Bj fun v h=>(ho v h τ).2,Bj fun v h=>(ht v h τ).2]
  refine Bh (B.xY (H6 (HZ (j8 (eu (vE oz) cE rfl) (eu (vE oz) cE rfl) (UD h1 h2 (fun v h=>(hx v h τ).1) (fun v h=>(ho v h τ).1) (fun v h=>(ht v h τ).1) fun v h=>?_)) (HZ (j8 (eu (eu (eu (vE oz) cE rfl) cE rfl) (UE cE) UG) cE ?_) (UI (j8 (UJ (eu (vE oz) cE rfl) rfl) (fun _ _ h=>h) rfl) (q τ))))))
  ·obtain rfl:=gf.mp h;rfl
  ·rw[eA];rfl
end
section
variable{pp:Nat}
def qM(h:(lZ N aG br slots).af[i]?=some p):(i=0∧p=uD slots)∨(i≠0∧p=Pr.nil):=by
 have h:((List.replicate N Pr.nil).set 0 (uD slots))[i]?=some p:=h
 by_cases e:i=0
 ·subst e
  obtain⟨h1,h2⟩:=bM.mp h
  exact Or.inl ⟨rfl,h2.symm.trans (List.getElem_set_self ..)⟩
 ·rw[dU (gz e)] at h
  exact Or.inr ⟨e,qS (dD h)⟩
def H8(hN:0<N):(lZ N aG br slots).af[0]?=some (uD slots):=nc (ng hN (lE (a:=Pr.nil)).symm)
def UO(hN:0<N)(hl:N≤99)(hp:pp≤9)(hr:1≤aG∧aG≤99):au (lZ N aG (2 * pp+2) (2 * pp+1)):=by
 have nl:Pr.nil.st=209:=rfl
 have hn:∀{i:Nat} {p:Pr},(lZ N aG (2 * pp+2) (2 * pp+1)).af[i]?=some p→p.st≠209→i=0∧p=uD (2 * pp+1):=fun h n=>(qM h).resolve_right fun e=>n (e.2▸rfl)
 exact{
  ok:={
   n:=cg.trans lE
   n0:=hN
   nl:=hl
   par:=fun i p j h e=>by
    rcases qM h with⟨_,rfl⟩ | ⟨_,rfl⟩ <;> exact nn e
   fs:=fun i p l h e=>by
    rcases qM h with⟨_,rfl⟩ | ⟨_,rfl⟩
    ·injection e with e;subst e
     exact⟨lE,fun f hf=>by cases qS hf⟩
    ·exact nn e
   sl:=⟨Nat.succ_pos _,by show 2 * pp+1≤99;lia⟩
   file:=(fun _ _=>nn)
   of:=⟨fG _,(fun _ h=>absurd h fN)⟩
   bq:=(fun _ _=>nn)
   size:=hr
   made:=rfl
   dict:=⟨fG _,List.nodup_nil,(fun _ h=>absurd h fN)⟩}
  first:=rfl
  ip:={
   p0:=⟨_,H8 hN,⟨rfl,rfl⟩,fM (Or.inl rfl)⟩
   st:=fun i p h=>by
    rcases qM h with⟨_,rfl⟩ | ⟨_,rfl⟩
    ·exact Or.inr (Or.inl rfl)
    ·exact Or.inl rfl
   un:=fun i j p q h h2 n n2 _=>(hn h n).1.trans (hn h2 n2).1.symm
   pid:=fun i p h n=>(hn h n).2▸⟨Int.le_refl _,(by decide:(1:Int)<2)⟩
   par:=fun i p h n n0=>absurd (hn h n).1 n0
   fs:=fun i p h n=>(hn h n).2▸⟨_,rfl,fun _ s hs=>qS hs⟩
   fn:=fun i p h e=>by
    rcases qM h with⟨_,rfl⟩ | ⟨_,rfl⟩
    ·cases e
    ·rfl}
  aK:=(fun _ _=>nn)
  fl:=⟨(fun _ h=>absurd h fN),(fun _ _ _=>nn)⟩
  di:=(fun _ h=>absurd h fN)
  dl:=cL _
  ol:=by show(0:Int)≤2 * pp+2;lia
  ml:=by show(2 * pp+2:Int)≤90;lia}
def UP(hN:0<N)(hl:N≤99)(hp:pp≤9)(hr:1≤aG∧aG≤99):Bg N pp 0 0 [] (lZ N aG (2 * pp+2) (2 * pp+1)):={
 I:=UO hN hl hp hr
 n:=rfl
 br:=rfl
 slots:=rfl
 np:=rfl
 pl:=rfl
 ol:=cL _
 lv:=fun i hi=>by
  obtain rfl:=Nat.le_zero.mp hi
  exact⟨_,_,H8 hN,fM (Or.inl rfl),rfl,rfl,fun m=>⟨fun⟨g,hg⟩=>(by cases qS (dD hg)),fun h=>absurd h.1 (Nat.not_lt_zero m)⟩⟩
 un:=fun i p h h2=>by
  rcases qM h2 with⟨rfl,_⟩ | ⟨_,rfl⟩
  ·exact absurd h (jh _)
  ·rfl
 kl:=fun i p h=>by
  rcases qM h with⟨_,rfl⟩ | ⟨_,rfl⟩ <;> rfl}
end
section
variable{S:Bx→St}
def UQ(h1:Is cx lv σ e1 (.bool b))(h2:Is cx lv σ e2 (.bool b2))(q:Q (.bool (b&&b2)) σ):mw cx [e1,e2] lv σ Q X:=h1 _ _ (by
 cases b with
 |false=>exact q
 |true=>exact h2 _ _ q)
def UR(e:σ.lst l=some vs):eN σ .eq (.ref l) (.fl [])=some vs.isEmpty:=by
 refine(?_:((σ.lst l).bind fun x=>if x.length=0 then all2 (cC 8 σ) x [] else some false)=_)
 rw[e]
 cases vs <;> rfl
def Bl(hs:aF lv 86=some (.bool b)):lT cx lv σ (.v 86) b:=fun _ _ h=>aq hs (aq (o:=eV σ (.bool b)) rfl h)
def Bm{m:Int}{c:Nat}{e:E}(T:Tk S)(ok:x.ok n0)(hn:n0+1≤1000000)(hb:aF lv 38=some (.ref ⟨1,0⟩))(h1:1≤m)(he:Is (ah (d+1)) lv (S x) e (.int m))(q:∀x' (t:Nat),x'.ok (n0+1)→(t:Int)<m→Q (.int ((c+t:Nat):Int)) (S x')):wE (ah (d+1)) (.bin .add (.c (.int c)) (.call 86 [(.v 38),e])) lv (S x) Q X:=
 Ht cE (gZ (aI (aR (vE hb) (aI (aR he (cu (T.t ok hn h1 fun x' t ok' t0 t1=>aL (fun z=>Q (.int z) (S x')) (by lia:((c+t.toNat:Nat):Int)=c+t) (q x' t.toNat ok' (by lia)))))))))
def US(T:Tk S)(ok:x.ok n0)(hn:n0+1≤1000000)(hs:aF lv 86=some (.bool b))(hb:aF lv 38=some (.ref ⟨1,0⟩))(q:∀x' (n:Nat),x'.ok (n0+1)→n≤5→Q (.int n) (S x')):wE (ah (d+1)) (.ite (.v 86) (.c (.int 2)) (.bin .add (.c (.int 2)) (.call 86 [(.v 38),(.c (.int 4))]))) lv (S x) Q X:=
 sA (Bl hs) (fun _=>q x 2 (ok.mono (by lia)) (by lia)) fun _=>Bm (c:=2) (m:=4) T ok hn hb (by decide) cE fun x' t ok' h=>q x' (2+t) ok' (by lia)
def UT(T:Tk S)(ok:x.ok n0)(hn:n0+1≤1000000)(hs:aF lv 86=some (.bool b))(hb:aF lv 38=some (.ref ⟨1,0⟩))(hm:aF lv 106=some (.int n))(q:∀x' (n:Nat),x'.ok (n0+1)→n≤3→Q (.int n) (S x')):wE (ah (d+1)) (.ite (.v 86) (.c (.int 1)) (.bin .add (.c (.int 2)) (.call 86 [(.v 38),(.ite (.cmp (.v 106) .lt (.c (.int 4))) (.c (.int 2)) (.c (.int 1)))]))) lv (S x) Q X:=
 sA (Bl hs) (fun _=>q x 1 (ok.mono (by lia)) (by lia)) fun _=>Bm (c:=2) (m:=bif decide ((n:Int)<4) then 2 else 1) T ok hn hb (by cases decide ((n:Int)<4) <;> decide) (fun K X h=>sA (t:=decide ((n:Int)<4)) (dz (vE hm) cE rfl) (fun e=>aL (fun z=>K (.int (bif z then 2 else 1)) (S x)) e h) fun e=>aL (fun z=>K (.int (bif z then 2 else 1)) (S x)) e h) fun x' t ok' h=>q x' (2+t) ok' (by revert h;cases decide ((n:Int)<4) <;> intro h <;> have h:(t:Int)<_:=h <;> simp at h <;> lia)
noncomputable def La(s:V)(b:Bool)(n pp:Nat)(aG:Int):Lv:=[(171,s),(38,.ref ⟨1,0⟩),(86,.bool b),(106,.int n),(148,.int pp),(167,.int aG)]
def UU{fA fB:QC}{uA uB:QU}{b0:Bx}{nd:List (Nm×V)}{ag:List (Int×bQ)}{hd:List (Int×List Nat)}{j:QC}{xs:List Int}
  (q:∀x b n pp (aG:Nat),x.ok 3→n≤5→pp≤3→1≤aG→aG≤4→wB (ah (d+1)) ((bu 99).body.drop 5) (La (.fl (xs.map .int)) b n pp aG) (Wo fA uA fB uB ⟨x,nd,ag,hd,cB,j⟩) (cW Q X)):wF (ah (d+1)) 99 [.fl (xs.map .int)] (Wo fA uA fB uB ⟨b0,nd,ag,hd,fun _=>0,j⟩) Q X:=by
 have T:Tk fun x=>Wo fA uA fB uB ⟨x,nd,ag,hd,cB,j⟩:=⟨fun{x _ _ _ _ _} ok hn h1 q=>ly (L:=⟨x,nd,ag,hd,cB,j⟩) ok hn h1 q⟩
 refine aq (a:=[(171,.fl (xs.map .int))]) rfl (B.eT (gZ (aI (aR (vE rfl) (cu (R1 fun x ok=>?_))))))
 refine B.eT (H6 (UQ (j8 (A5 rfl) cE rfl) (j8 (eu (vE rfl) cE (r := .ref ⟨0,0⟩) rfl) (fun _ _ h=>h) (UR (vs:=x.gs.map .int) rfl)) ?_))
 refine B.eT (US T ok (by decide) rfl rfl fun x1 n gO hn=>?_)
 refine B.eT (UT (n:=n) T gO (by decide) rfl rfl rfl fun x2 pp gU hp=>?_)
 exact B.eT (Bm (c:=1) (m:=4) T gU (by decide) rfl (by decide) cE fun x3 t rR ht=>q x3 _ n pp (1+t) rR hn hp (by lia) (by lia))
end
def pH (s:V)(b:Bool)(n pp:Nat)(aG:Int):Lv:=La s b n pp aG++[(140,gx),(127,.ref ⟨65,0⟩)]
section
def UW{f g:QC}{u v:QU}{r:St}:Wk (Ho fA (fun _ _=>false) (HB fB (fun _ _=>false) r)) (Ho f u (HB g v r)):=fun l h=>by
 obtain⟨n,i⟩:=l
 have h:(bif f9 n then false else bif i8 n then false else r.us ⟨n,i⟩)=true:=h
 cases e:f9 n with
 |true=>rw[e] at h;exact ft h
 |false=>cases e2:i8 n with
  |true=>rw[e,e2] at h;exact ft h
  |false=>
   rw[e,e2] at h
   exact⟨(cR e).trans ((cR e2).trans h),((cR e).trans (cR e2)).trans ((cR e).trans (cR e2)).symm⟩
def UX{aG:Nat}(hn:n≤5)(hp:pp≤3)(h1:1≤aG)(h4:aG≤4)(q:∀gA gB,wB (ah (d+4)) ((bu 99).body.drop 6) (La s b n pp aG++[(140,gx)]) (WW (lZ (n+2) aG (2 * pp+2) (2 * pp+1)) gA (lZ (n+2) aG (2 * pp+2) (2 * pp+1)) gB L) (cW Q X)):wB (ah (d+4)) ((bu 99).body.drop 5) (La s b n pp aG) (Wo fA (fun _ _=>false) fB (fun _ _=>false) L) (cW Q X):=by
 have hr:(1:Int)≤aG∧(aG:Int)≤99:=by lia
 refine B.eT (AU (l:=La s b n pp aG) (u := .int 0) (v := .int 1) (fun K X h=>(aq (mV (n:=2) (by decide)) h:aQ (rj [.int (2:Nat)]) fun x=>K (.items x) _)) rfl rfl rfl (gZ (aI (aR (v := .int aG) (vE rfl) (aI (aR (v := .int n) (vE rfl) (aI (aR (v := .int pp) (vE rfl) (cu ?_)))))))))
 refine Hh (UW (g:=fz (Mine.Internal.dw (n+2) aG (2 * pp+2) (2 * pp+1)) j7) (v:=AP (Mine.Internal.dw (n+2) aG (2 * pp+2) (2 * pp+1)))) (by lia) (by lia) hr fun gA=>?_
 refine gZ (aI (aR (v := .int aG) (vE rfl) (aI (aR (v := .int n) (vE rfl) (aI (aR (v := .int pp) (vE rfl) (cu (qC (as:=[.int aG,.int n,.int pp]) rfl (Hh (fun _ h=>⟨h,rfl⟩) (by lia) (by lia) hr fun gB=>?_)))))))))
 exact sj (R:=fun σ=>newL true [rf 6 0,cj (rf 6 0)] σ fun v σ=>wB (ah (d+4)) ((bu 99).body.drop 6) (aB (La s b n pp aG) 140 v) σ (cW Q X)) (Bh (aL (fun lv=>wB (ah (d+4)) ((bu 99).body.drop 6) lv (WW (lZ (n+2) aG (2 * pp+2) (2 * pp+1)) gA (lZ (n+2) aG (2 * pp+2) (2 * pp+1)) gB L) (cW Q X)) (rfl:La s b n pp aG++[(140,gx)]=aB (La s b n pp aG) 140 gx) (q gA gB)))
def B.Bp{f:dP}{es:List E}{a r:List S}{Q:QF}(h:wL cx es lv σ (fun vs σ=>cx f vs σ (fun v σ=>aQ (eV σ v) fun b=>bif !b then wB cx a lv σ (dX (fun lv σ=>wB cx r lv σ Q) Q) else wB cx [] lv σ (dX (fun lv σ=>wB cx r lv σ Q) Q)) fun x σ=>Q (.exc x) lv σ) fun x σ=>Q (.exc x) lv σ):wB cx (.ite (.no (.call f es)) a []::r) lv σ Q:=h
def B.yd{A:Prop}{r:List S}{Q:QF}(h:wB cx r lv σ Q):aQ (eV σ (.bool true)) fun b=>bif !b then A else wB cx [] lv σ (dX (fun lv σ=>wB cx r lv σ Q) Q):=h
def Bq(ht:(⟨o,0⟩:Loc).t=t)(h:Nat.blt o 4096=true)(h0:L.c o=0)(e:∀a y,(a=o→y≠0)→jG L' a y=jG L a y)(e2:jG L' o 0=some c)(hc:∀a,L'.c a=bif Nat.beq a o then 1 else L.c a)(q:Q (.ref ⟨o,0⟩) (Wo fA uA fB uB L')):fu t c (Wo fA uA fB uB L) Q:=by
 have:=xH (fA:=fA) (uA:=uA) (fB:=fB) (uB:=uB) (c:=c) (L:=L) (L':=L') (k:=o) h (h0.symm▸e) (h0.symm▸e2) (h0.symm▸hc)
 rw[h0] at this
 exact⟨⟨o,0⟩,ht,(cR (uz h)).trans ((cR (uC h)).trans (aa (Nat.blt 0) h0)),aL (Q (.ref ⟨o,0⟩)) this.symm q⟩
def UY{ks:List Nm}{es:List E}(h:wL cx es lv σ (fun vs σ=>yv ks vs σ Q) X):wE cx (.dct ks es) lv σ Q X:=h
def UZ{b:Bx}{nd:List (Nm×V)}{f:Nat→Nat}{j:QC}{r:List S}{Q:QF}{w:Int}(h1:f 129=0)(h2:f 193=0)(h3:f 65=0)(hr:aF lv 167=some (.int w))(q:∀f,wB cx r (aB lv 127 (.ref ⟨65,0⟩)) (Wo fA uA fB uB ⟨b,[(29,.ref ⟨129,0⟩),(78,.ref ⟨193,0⟩),(71,.int 0),(167,.int w)],[],[],f,j⟩) Q):wB cx (.asg (.v 127) (.dct [29,78,71,167] [(.dct [] []),(.dct [] []),(.c (.int 0)),(.v 167)])::r) lv (Wo fA uA fB uB ⟨b,nd,[],[],f,j⟩) Q:=by
 refine B.eT (UY (aI (AR (Bq (o:=129) (L':=⟨b,nd,[],[],fun a=>bif Nat.beq a 129 then 1 else f a,j⟩) rfl rfl h1 (fun _ _ _=>rfl) rfl (fun _=>rfl) (aI (AR (Bq (o:=193) (L':=⟨b,nd,[],[],fun a=>bif Nat.beq a 193 then 1 else bif Nat.beq a 129 then 1 else f a,j⟩) rfl rfl h2 (fun _ _ _=>rfl) rfl (fun _=>rfl) (aI (aR cE (aI (aR (vE hr) (cu ⟨rfl,?_⟩))))))))))))
 exact Bq (Q:=fun v σ=>wB cx r (aB lv 127 v) σ Q) (o:=65) (L':=⟨b,[(29,.ref ⟨129,0⟩),(78,.ref ⟨193,0⟩),(71,.int 0),(167,.int w)],[],[],fun a=>bif Nat.beq a 65 then 1 else bif Nat.beq a 193 then 1 else bif Nat.beq a 129 then 1 else f a,j⟩) rfl rfl h3 (fun a y hn=>kind (fun _=>rfl) (kind (fun _=>rfl) (kind (fun e=>jy (hn e)) rfl))) rfl (fun _=>rfl) (q _)
def U0{aG:Nat}{j:QC}{nd:List (Nm×V)}{x:Bx}(ok:x.ok 3)(hn:n≤5)(hp:pp≤3)(h1:1≤aG)(h4:aG≤4)(q:∀k x' m z,LI (n+2) none k k m 3→x'.ok 106→wB (ah (d+9)) ((bu 99).body.drop 9) (pH s b n pp aG) (WN k k x' m z) (cW Q X)):wB (ah (d+9)) ((bu 99).body.drop 5) (La s b n pp aG) (Wo fA (fun _ _=>false) fB (fun _ _=>false) ⟨x,nd,[],[],cB,j⟩) (cW Q X):=by
 refine UX (d:=d+5) hn hp h1 h4 fun gA gB=>?_
 refine B.Bp (aI (aR (v := .ref ⟨1,0⟩) (vE rfl) (aI (aR (v:=gx) (vE rfl) (aI (aR (v := .int n) (vE rfl) (aI (aR (v := .int pp) (vE rfl) (cu ?_)))))))))
 refine SG (d:=d) (L:=⟨x,nd,[],[],cB,j⟩) (n0:=3) (by lia) (by lia) ok (by decide) (UP (by lia) (by lia) (by lia) (by lia)) fun k gA gB x c a f done ok G ha=>B.yd ?_
 refine UZ (w:=aG) rfl rfl rfl rfl fun f=>B.ju (gZ (aI (aR (v := .ref ⟨1,0⟩) (vE rfl) (aI (aR (v := .ref ⟨65,0⟩) (vE rfl) (aI (aR cE (cu ?_))))))))
 refine G3 (d:=d+7) (n:=103) (L:=⟨x,[(29,.ref ⟨129,0⟩),(78,.ref ⟨193,0⟩),(71,.int 0),(167,.int aG)],[],[],f,_⟩) ok (by decide) (by decide:4≤9) fun x' l kd fr c j ok l0 _ _ _ f0=>?_
 refine q k x' ⟨0,aG,0,l,kd,fr,[],[]⟩ ⟨gA,gB,c,j⟩ ⟨G.I,G.I,⟨k.af,rfl,rfl,fun i p p' h h'=>?_⟩,⟨Int.le_refl _,by show(1:Int)≤aG∧(aG:Int)≤9;lia,fun _ h=>(fN h).elim,fun _ h=>(fN h).elim,fG _,fG _⟩,Or.inl ⟨rfl,rfl⟩,G.pl▸aH ha hp,G.n⟩ ok
 obtain rfl:p=p':=aT (h.symm.trans h')
 exact⟨rfl,rfl,rfl,rfl,rfl,G.kl i p h,nn,fun _=>⟨rfl,rfl,rfl,Or.inr (G.kl i p h)⟩⟩
end
section
def U1{Q:QV}(h1:Is cx lv σ e1 (.bool b))(h2:Is cx lv σ e2 (.bool b2))(q:Q (.bool (b||b2)) σ):pT cx [e1,e2] lv σ Q X:=h1 _ _ (by
 cases b with
 |true=>exact q
 |false=>exact h2 _ _ q)
def U3{Q:QV}{es:List E}(q:pT cx es lv σ Q X):wE cx (.or es) lv σ Q X:=q
def H9{f:dP}{es xs:List E}{K:QB}(h:wL cx es lv σ (fun vs σ=>cx f vs σ (fun v σ=>aQ (eV σ v) fun b=>bif (!b)==false then wCs cx false xs lv σ K X else K (!b) σ) X) X):wCs cx false (.no (.call f es)::xs) lv σ K X:=h
def Ib{xs:List E}{K:QB}(h:wCs cx false xs lv σ K X):aQ (eV σ (.bool true)) fun b=>bif (!b)==false then wCs cx false xs lv σ K X else K (!b) σ:=h
def B.U4{es:List E}{a r:List S}{Q:QF}(h:wCs cx false es lv σ (fun r' σ=>bif r' then wB cx a lv σ (dX (fun lv σ=>wB cx r lv σ Q) Q) else wB cx [] lv σ (dX (fun lv σ=>wB cx r lv σ Q) Q)) fun x σ=>Q (.exc x) lv σ):wB cx (.ite (.or es) a []::r) lv σ Q:=h
def U5{a r:List S}{Q:QF}{X:QX}(h:wB cx r lv σ Q):wCs cx false [] lv σ (fun r' σ=>bif r' then wB cx a lv σ (dX (fun lv σ=>wB cx r lv σ Q) Q) else wB cx [] lv σ (dX (fun lv σ=>wB cx r lv σ Q) Q)) X:=h
def LI.Ic(L:LI pn az kA kB m c)(h:m.bL≤0):az=none:=by
 rcases L.v with⟨e,_⟩ | ⟨i,p,e,_,hp,lp,ev⟩
 ·exact e
 ·have:=(L.IB.ip.pid i p hp lp.1).1
  lia
def LI.U6(L:LI pn az kA kB m c)(h:0<m.bL):∃i p,az=some i∧i≠0∧kB.af[i]?=some p∧bh p∧p.pid=m.bL:=by
 rcases L.v with⟨_,e⟩ | h
 ·lia
 ·exact h
def LI.same(L:LI pn az kA kB m c):j9 kA m.bL=j9 kB m.bL:=by
 unfold j9
 rw[L.S.jb L.IB.ok fun i e=>?_,L.S.eqs.2.2.2.1,L.S.eqs.2.2.2.2.1]
 obtain⟨p,hp,_,hv,_⟩:=LI.xT (L:=L) e
 exact(aa Pr.pid (bH hp)).trans hv
def U7{Q:QF}(h:dN lv ((161,.fl (ids.map .int))::(193,.int t)::pH s b n pp aG))(L:LI pn az kA kB m c)(hc:c≤90)(R:Rd kA ids)(ok:x.ok n0)(hn:n0+20≤1000000)
  (q:∀iz eU eX m' x' z',LI pn iz eU eX m' (c+2)→x'.ok (n0+10)→Q .next lv (WN eU eX x' m' z')):wB (ah (d+10)) [(.ite (.or [(.no (.call 90 [(.v 140),(.v 127)])),(.no (.call 97 [(.v 38),(.v 140),(.v 127),(.v 193),(.v 161)]))]) [(.ret (.c (.bool false)))] [])] lv (WN kA kB x m z) Q:=
 B.U4 (H9 (aI (aR (vE (h _ _ rfl)) (aI (aR (vE (h _ _ rfl)) (cu (HM (d:=d+5) L.IA.ok L.IB.ok L.same fun z=>Ib (H9 (aI (aR (vE (h _ _ rfl)) (aI (aR (vE (h _ _ rfl)) (aI (aR (vE (h _ _ rfl)) (aI (aR (vE (h _ _ rfl)) (aI (aR (vE (h _ _ rfl)) (cu (TR L hc R ok hn fun eU eX x' m' z' iz L' ok'=>Ib (U5 (B.nil (q iz eU eX m' x' z' L' ok')))))))))))))))))))))))
def U8{Q:QF}(h:dN lv ((193,.int t)::pH s b n pp aG))(L:LI pn az kA kB m c)(hc:c≤90)(ok:x.ok n0)(hn:n0+25≤1000000)
  (q:∀lv iz eU eX m' x' z',dN lv (pH s b n pp aG)→LI pn iz eU eX m' (c+2)→x'.ok (n0+15)→Q .next lv (WN eU eX x' m' z')):wB (ah (d+10)) [(.asg (.v 161) (.call 91 [(.ix (.v 140) (.c (.int 0)))])),
 (.ite (.an [(.cmp (.ix (.v 127) (.c (.str 214))) .eq (.c (.int 0))),(.or [(.cmp (.v 193) .ge (.ix (.v 127) (.c (.str 72)))),(.cmp (.v 161) .eq (.lst true []))])]) [(.ite (.no (.call 95 [(.v 38),(.ix (.v 140) (.c (.int 0))),(.v 127),(.or [(.cmp (.v 193) .gt (.bin .add (.ix (.v 127) (.c (.str 72))) (.c (.int 3)))),(.cmp (.v 161) .eq (.lst true []))])])) [(.ret (.c (.bool false)))] []),(.ite (.cmp (.ix (.v 127) (.c (.str 214))) .gt (.c (.int 0))) [(.asg (.v 161) (.call 91 [(.ix (.v 140) (.c (.int 0)))]))] [])] []),
 (.ite (.or [(.no (.call 90 [(.v 140),(.v 127)])),(.no (.call 97 [(.v 38),(.v 140),(.v 127),(.v 193),(.v 161)]))]) [(.ret (.c (.bool false)))] [])] lv (WN kA kB x m z) Q:=by
 refine B.eT (gZ (aI (aR (eu (vE (h _ _ rfl)) cE (r:=rf 6 0) rfl) (cu (HH (d:=d+6) L.IA.ok ?_)))))
 have h1:=h.add (x:=161) (u := .fl ((qI kA).map .int)) rfl
 have fin:∀{iz:Option Nat} {eU eX:Kn} {m':Nt} {x':Bx} {z':Zz} {ids:List Int} {lv:Lv},dN lv ((161,.fl (ids.map .int))::(193,.int t)::pH s b n pp aG)→LI pn iz eU eX m' c→Rd eU ids→x'.ok (n0+1)→wB (ah (d+10)) [(.ite (.or [(.no (.call 90 [(.v 140),(.v 127)])),(.no (.call 97 [(.v 38),(.v 140),(.v 127),(.v 193),(.v 161)]))]) [(.ret (.c (.bool false)))] [])] lv (WN eU eX x' m' z') Q:=
  fun h L R ok=>U7 h L hc R ok (by lia) fun iz eU eX m' x' z' L' ok'=>q _ iz eU eX m' x' z' (fun y v e=>h y v (by
   by_cases e1:161=y
   ·subst e1;exact nn e
   ·refine(dZ e1).trans ?_
    by_cases e2:193=y
    ·subst e2;exact nn e
    ·exact(dZ e2).trans e)) L' (ok'.mono (by lia))
 refine B.ite (t:=(m.bL==0)&&(decide (m.from_≤t)||(qI kA).isEmpty)) (fun K X h=>lY (b:=m.bL==0) (b2:=decide (m.from_≤t)||(qI kA).isEmpty) (dz (fR (h1 _ _ rfl) rfl) cE rfl) (fun _ _ _ h=>gr (fun K X h=>qp (b:=decide (m.from_≤t)) (b2:=(qI kA).isEmpty) (dz (vE (h1 _ _ rfl)) (fR (h1 _ _ rfl) rfl) rfl) (dz (vE (h1 _ _ rfl)) (w := .fl []) (fun _ _ h=>h) qz) h) h) h) (fun e=>?_) fun _=>B.nil (B.seq (fin h1 L (fun id=>A6 L.IA.ok) (ok.mono (by lia))))
 have v0:m.bL=0:=eq_of_beq (aE e).1
 obtain rfl:=L.Ic (Int.le_of_eq v0)
 refine B.Bp (aI (aR (vE (h1 _ _ rfl)) (aI (aR (eu (vE (h1 _ _ rfl)) cE (r:=rf 6 0) rfl) (aI (aR (vE (h1 _ _ rfl)) (aI (U3 (U1 (b:=decide (m.from_+3<t)) (b2:=(qI kA).isEmpty) (j8 (vE (h1 _ _ rfl)) (bE (fR (m:=72) (e := .int m.from_) (h1 _ _ rfl) rfl) cE rfl) rfl) (j8 (vE (h1 _ _ rfl)) (w := .fl []) (fun _ _ h=>h) qz) (cu (Ub (d:=d+4) L ok (by lia) (B.yd ?_) fun x' i a hA L' ok'=>B.yd ?_)))))))))))
 ·exact B.ite (t:=decide (0<m.bL)) (dz (fR (h1 _ _ rfl) rfl) cE rfl) (fun e=>absurd (iD e) (v0.symm▸by decide)) fun _=>B.nil (B.seq (B.nil (B.seq (fin h1 L (fun id=>A6 L.IA.ok) (ok.mono (by lia))))))
 ·obtain⟨j,p,_,_,hp,lp,ep⟩:∃j p,some i=some j∧j≠0∧kB.af[j]?=some p∧bh p∧p.pid=a.pid:=by
   rcases L'.v with⟨e,_⟩ | h
   ·exact sn e
   ·exact h
  have:=(L'.IB.ip.pid j p hp lp.1).1
  refine B.ite (t:=decide (0<a.pid)) (dz (fR (m:=214) (e := .int a.pid) (n:={m with bL:=a.pid}) (h1 _ _ rfl) rfl) cE rfl) (fun _=>?_) fun e=>absurd (by lia) (of_decide_eq_false e)
  refine B.eT (gZ (aI (aR (eu (vE (h1 _ _ rfl)) cE (r:=rf 6 0) rfl) (cu (HH (d:=d+6) L'.IA.ok (B.nil (B.seq (B.nil (B.seq (fin ?_ L' (fun id=>A6 L'.IA.ok) (ok'.mono (by lia))))))))))))
  exact fun y v e=>by
   by_cases e1:161=y
   ·subst e1;exact oz.trans (fZ.symm.trans e)
   ·exact(rq (gz e1)).trans ((rq (gz e1)).trans (h y v ((dZ e1).symm.trans e)))
end
section
variable{K:QB}
def B.Ie{a r:List S}(h:wCs cx true es lv σ (fun r' σ=>bif r' then wB cx a lv σ (dX (fun lv σ=>wB cx r lv σ Q) Q) else wB cx [] lv σ (dX (fun lv σ=>wB cx r lv σ Q) Q)) fun x σ=>Q (.exc x) lv σ):wB cx (.ite (.an es) a []::r) lv σ Q:=h
def U9(hc:lT cx lv σ e true)(h:wL cx es lv σ (fun vs σ=>cx f vs σ (fun v σ=>aQ (eV σ v) fun b=>bif (!b)==true then wCs cx true [] lv σ K X else K (!b) σ) X) X):wCs cx true [e,.no (.call f es)] lv σ K X:=hc _ _ h
def Va(h:D):aQ (eV σ (.bool true)) fun b=>bif (!b)==true then A else bif !b then C else D:=h
def Vb(hc:lT cx lv σ e false)(h:K false σ):wCs cx true (e::r) lv σ K X:=hc _ _ h
def Vc{a:Prop}{r:List S}(h:wB cx r lv σ Q):bif false then a else wB cx [] lv σ (dX (fun lv σ=>wB cx r lv σ Q) Q):=h
def Ig(h:dN lv (pH s b n pp aG))(L:LI (n+2) none kA kB m c)(hn:n≤5)(hc:c≤60)(q:∀σ,Q (.bool true) σ):wB (ah (d+10)) ((bu 99).body.drop 11) lv (WN kA kB x m z) (cW Q X):=
 B.Bp (aI (aR (vE (h _ _ rfl)) (aI (aR (vE (h _ _ rfl)) (cu (HM (d:=d+5) L.IA.ok L.IB.ok L.same fun z=>B.yd (UL (d:=d+1) (L:=Ln x m z) L.S L.IA L.IB L.pl.2 (by lia) (aH L.pl.1 hc) (h _ _ rfl) (h _ _ rfl) q)))))))
def σ0:St:=Wo (fun _ _=>none) (fun _ _=>false) (fun _ _=>none) (fun _ _=>false) ⟨⟨0,0,[]⟩,[],[],[],fun _=>0,fun _ _=>none⟩
def kLaw{Q:QV}(xs:List Int)(q:∀σ,Q (.bool true) σ):wF (ah (d+10)) 99 [.fl (xs.map .int)] σ0 Q X:=by
 unfold σ0
 refine UU (d:=d+9) (b0:=⟨0,0,[]⟩) fun x b n pp aG ok hn hp h1 h4=>U0 (d:=d+1) ok hn hp h1 h4 fun k x m z L ok=>?_
 have hi:∀(K:QS) (X:QX),K (jw (List.range (bif b then 7 else 15)) (fun i:Nat=>V.int i) 0) (WN k k x m z)→wI (ah (d+10)) (.fq [(.ite (.v 86) (.c (.int 7)) (.c (.int 15)))]) (pH (.fl (xs.map .int)) b n pp aG) (WN k k x m z) K X:=fun K X h=>by
  refine(?_:wL _ [_] _ _ (fun vs σ=>aQ (rj vs) fun x=>K (.items x) σ) X)
  exact aI (sA (Bl rfl) (fun e=>aR (v := .int (7:Nat)) cE (cu (aq (mV (n:=7) (by decide)) (by subst e;exact h)))) fun e=>aR (v := .int (15:Nat)) cE (cu (aq (mV (n:=15) (by decide)) (by subst e;exact h))))
 have hT:(bif b then 7 else 15)≤15:=by cases b <;> decide
 generalize (bif b then 7 else 15)=T at hi hT
 refine B.kR (t := .v 193) hi (turns dF (aH hT (by decide))) (fun t lv σ=>∃az kA kB m x z,dN lv (pH (.fl (xs.map .int)) b n pp aG)∧LI (n+2) az kA kB m (3+2 * t)∧x.ok (106+15 * (t:Int))∧σ=WN kA kB x m z) (fun _ _ _ _=>kQ) (fun t a lv σ e J f hf=>?_) (fun lv σ J=>?_) ⟨none,k,k,m,x,z,fun _ _ e=>e,L,ok,rfl⟩
 ·obtain⟨az,kA,kB,m,x,z,h,L,ok,rfl⟩:=J
  obtain⟨rfl,ha⟩:=r8 e
  refine(?_:wB (ah (d+10)) _ (aB lv 193 (.int a)) _ _)
  exact U8 (d:=d) (t:=a) (h.add rfl) L (by lia) ok (by lia) fun lv az kA kB m x z h L ok=>hf _ _ ⟨az,kA,kB,m,x,z,h,L.mono (by lia),ok.mono (by lia),rfl⟩
 ·obtain⟨az,kA,kB,m,x,z,h,L,ok,rfl⟩:=J
  rw[dF] at L ok
  by_cases v:0<m.bL
  ·obtain⟨i,p,rfl,i0,hp,lp,ep⟩:=L.U6 v
   exact B.Ie (U9 (dz (fR (m:=214) (e := .int m.bL) (h _ _ rfl) rfl) cE (aa some (fF v))) (aI (aR (vE (h _ _ rfl)) (aI (aR (vE (h _ _ rfl)) (aI (aR (vE (h _ _ rfl)) (aI (aR cE (cu (ended (d:=d+1) (n0:=106+15 * (T:Int)) L.S L.IA L.IB L.pl hp lp ok (by lia) L.N ep i0 (by lia) fun kA kB x m z L _=>Va (B.nil (B.seq (Ig h L hn (by lia) q))))))))))))))
  ·obtain rfl:=L.Ic (jj.mp v)
   exact B.Ie (Vb (dz (fR (m:=214) (e := .int m.bL) (h _ _ rfl) rfl) cE (aa some (iS v))) (Vc (Ig h L hn (by lia) q)))
end
namespace Hd
open PySem PySem.W
noncomputable abbrev pw:Program:=PySem.Challenge.pw_up0079_03
noncomputable abbrev n:Value := .none
noncomputable abbrev bT:Value := .bool true
noncomputable abbrev R(a:Nat):Value := .ref a
noncomputable abbrev I(i t:Nat):Value := .int (.ofNat i) t
noncomputable abbrev S(s:Str)(t:Nat):Value := .str s t
noncomputable abbrev Y(s:String):Value := .type s
noncomputable abbrev B(s:String):Value := .builtin s
noncomputable abbrev E(P:Params)(s:Str)(t:Nat)(v:Value):DictEntry:=⟨PyData.keyHash P s,.str s t,v⟩
noncomputable abbrev dc(l:List DictEntry)(k:Nat):Data := .dict ⟨l⟩ k
noncomputable abbrev fl(l:List Value):Data := .fields ⟨l⟩
noncomputable abbrev O(c:Value)(d:Data):Obj:=⟨c,none,d,⟨[]⟩⟩
noncomputable abbrev Tp(l:List Value):Obj:=⟨.type "tuple",none,.seq ⟨l⟩ 0,⟨[]⟩⟩
noncomputable abbrev O2(c:Value)(d:Data)(sl:List (Option Value)):Obj:=⟨c,none,d,⟨sl⟩⟩
noncomputable abbrev cut:Str:="/claim/cut.py"
noncomputable def Vd:Option Stmt→Arguments×List Stmt×Scope
 |some (.FunctionDef _ a b _ _ _ sc _ _ _)=>(a,b,sc)
 |_=>(⟨[],[],none,[],[],none,[]⟩,[],default)
noncomputable def Ve:Option Stmt→List Stmt
 |some (.ClassDef _ _ _ b _ _ _ _ _ _ _)=>b
 |_=>[]
noncomputable def qN:List Nat→Option Stmt
 |[i]=>pw.main.body[i]?
 |[i,j]=>(Ve (pw.main.body[i]?))[j]?
 |_=>none
noncomputable def hdr:Option Stmt→Str×Nat
 |some (.FunctionDef s _ _ _ _ _ _ _ _ p)=>(s,p.line)
 |some (.ClassDef s _ _ _ _ _ _ _ _ _ p)=>(s,p.line)
 |_=>("",0)
noncomputable def df(i:List Nat):Arguments×List Stmt×Scope:=Vd (qN i)
noncomputable def tk:List Str→Nat→List Value
 |[],_=>[]
 |s::r,k => .str s k::tk r (k+1)
structure F where
 a:Nat
 k:Nat
 i:List Nat
 z:Nat
 d:List Value
noncomputable def F.vs(f:F):List Str:=(bif Nat.beq f.z 2 then[("self":Str)] else[])++((df f.i).2.2.names.filter fun q=>q.2 == .local).map (·.1)
noncomputable def F.nm(f:F):Str:=(hdr (qN f.i)).1
noncomputable def F.xs(f:F):List Str:=bif Nat.beq f.z 2 then["self","node"] else[]
noncomputable def F.k2(f:F):Nat:=bif Nat.beq f.z 1 then f.k+3 else f.k+3+f.vs.length+f.xs.length
noncomputable def F.key(f:F):Nat:=bif Nat.beq f.z 3 then f.k2+3 else f.k2+2
noncomputable def F.o(f:F):Nat:=bif Nat.beq f.z 1 then f.a+3 else f.a+5
noncomputable def F.at(f:F):Nat:=bif Nat.beq f.z 3 then f.a+7 else f.o+1
noncomputable def cd(s q:Str)(k k2 ln na g:Nat)(b:Bool)(r:Nat)(v:List Value):Obj:=O (Y "code") (fl ([S s k,S q (k+1),S cut (k+2),I ln 0,I na 0,I 0 0,I 0 0,I g 0,R r,.bool b,I 181 0,R (r+1),n]++v++[I k2 0,I ln 0,S cut (k2+1)]))
noncomputable def fd(f:F)(q:Str)(g:Addr)(d md code:Value):Data:=
 .func {name:=f.nm,qualname:=q,params:=(df f.i).1,body := .stmts (df f.i).2.1,scope:=(df f.i).2.2,globals:=g,closure:=[],defaults:=d,kwdefaults:=n,doc:=n,pyModule:=md,annotations:=none,code:=code,closureTuple:=n,builtins:=0}
noncomputable def F.all(c:Str)(m:Value)(f:F):List Obj:=
 let q:Str:=⟨⟨c.cps.toList++f.nm.cps.toList⟩⟩
 let ln:=bif Nat.beq f.z 3 then(hdr (qN f.i)).2 - 1 else(hdr (qN f.i)).2
 let na:=(df f.i).1.args.length
 (bif f.d.isEmpty then[] else[Tp f.d])++([Tp [],O n (fl [])]++(bif Nat.beq f.z 1 then[] else[Tp (tk f.vs (f.k+3)),Tp (tk f.xs (f.k+3+f.vs.length))])
  ++ [O n (fd f q 0 n n n),cd f.nm q f.k f.k2 ln na 3 true f.a (bif Nat.beq f.z 1 then[n,n,R (f.a+2)] else[R (f.a+2),R (f.a+3),R (f.a+4)]),O (Y "function") (fd f q 3 (bif f.d.isEmpty then n else R (f.a - 1)) m (R f.o))]
  ++ (bif Nat.beq f.z 3 then[O (Y "property") (fl [R (f.o+1),n,n,n,S f.nm f.key,.bool false])] else[]))
noncomputable def lt(c:Nat)(l:List (Nat×Nat)):Obj:=O n (fl (l.flatMap fun q=>[I q.1 0,I c 0,R q.2]))
noncomputable def ty(nm:Str)(k z:Nat)(x:Option Value)(bs mro:List Value)(b:String)(subs:List Value):Obj:=
 O2 (Y "type") (.cls {name:=nm,bases:=bs,mro:=R z::mro,ns:=z - 1,qualname:=nm,hasDict:=true,slotNames:=[],subclasses:=subs,abstract:=false,collection:=none,hasDel:=false}) [x,none,some (S nm k),some (S nm (k+8)),some (B b),some bT]
noncomputable def cls(P:Params)(a k i:Nat)(m:Value)(fs:List F)(z e:Nat)(sa:List Str)(g:Nat)(bs:List Value)(t:Obj):List Obj:=
 let nm:=(hdr (qN [i])).1
 let ln:=(hdr (qN [i])).2
 let en:=fs.map fun f=>E P f.nm f.key (R f.at)
 let md:=E P "__module__" (k+7) m
 let fi:=E P "__firstlineno__" (k+11) (I ln (k+10))
 let st:=E P "__static_attributes__" (e+sa.length) (R z)
 let e2:=e+sa.length+1
 let u:=z+2
 let dd:=E P "__dict__" (e2+1) (R (u+1))
 let gd:=O (Y "getset_descriptor") (fl [S "__dict__" e2,R u,B "function.__dict__",B "function.__dict__#set"])
 let w (e a:Nat):=E P "__weakref__" (e+1) (R a)
 let gw (e:Nat):=O (Y "getset_descriptor") (fl [S "__weakref__" e,R u,B "ExceptionGroup.__weakref__",n])
 let gs:List DictEntry×List Obj:=match g with
  |0=>([],[])
  |1=>([w e2 (u+1)],[gw e2])
  |_=>([dd,w (e2+2) (u+2)],[gd,gw (e2+2)])
 [Tp bs,O (Y "builtin_function_or_method") (fl [B "type.__prepare__",Y "type"]),O (Y "dict") (dc (md::E P "__qualname__" (k+9) (S nm (k+8))::fi::en++[st]) (fs.length+4)),Tp [],
  lt 4 (fs.map fun f=>((hdr (qN f.i)).2,f.o)),cd nm nm (k+2) (k+5) ln 0 0 false (a+3) [n,n,n],O2 (Y "frame") .plain [some (R (a+5)),some (R 3),some (R (a+2)),none,some m,none,some (R 0)]]
 ++ (fs.flatMap (F.all ⟨⟨nm.cps.toList++[46]⟩⟩ m)) ++
 [Tp (tk sa e),O (Y "dict") (dc (md::fi::en++st::gs.1++[E P "__doc__" (e2+2 * g) n]) (g+2)),t]++gs.2++[O (Y "super") (fl [R u,R u,R u]),O (Y "builtin_function_or_method") (fl [B "object.__init_subclass__",R u])]
noncomputable def nx:Nat→List Obj→List (Nat×Obj)
 |_,[]=>[]
 |a,o::r=>(a,o)::nx (a+1) r
noncomputable def gl(P:Params):List DictEntry:=[E P "__doc__" 166 n,E P "__package__" 167 n,E P "__loader__" 168 (B "__main__.__loader__#opaque"),E P "__spec__" 169 n,E P "__annotations__" 170 (R 6),E P "__builtins__" 171 (R 4),E P "__file__" 173 (S "/claim/cut.py" 172),E P "__cached__" 174 n,E P "_wall" 193 (R 21),E P "BoardError" 223 (R 39),E P "BadArgument" 239 (R 52),E P "NoRoom" 255 (R 64),E P "BadCall" 271 (R 76),E P "Stuck" 287 (R 88),E P "DONE" 291 (I 0 290),E P "SLEEP" 293 (I 1 292),E P "BROKEN" 295 (I 2 294),E P "READ_CHANNEL" 297 (I 0 296),E P "WRITE_CHANNEL" 299 (I 1 298),E P "Pipe" 385 (R 150),E P "PipeTable" 441 (R 193),E P "TICKS" 445 (R 198),E P "octets_of" 451 (R 203),E P "Parts" 491 (R 221),E P "ProcessCalls" 694 (R 368),E P "PIPE" 698 (S "pipe" 697),E P "NODE" 700 (S "node" 699),E P "DEVICE" 702 (S "device" 701),E P "OpenFile" 755 (R 403),E P "FileTable" 927 (R 527),E P "Descriptors" 1015 (R 594),E P "UNUSED" 1019 (S "unused" 1018),E P "FRESH" 1021 (S "fresh" 1020),E P "READY" 1023 (S "ready" 1022),E P "RUNNING" 1025 (S "running" 1024),E P "SLEEPING" 1027 (S "sleeping" 1026),E P "ZOMBIE" 1029 (S "zombie" 1028),E P "A0" 1031 (I 10 1030),E P "Process" 1114 (R 651),E P "Table" 1298 (R 792),E P "_law_box" 1309 (R 803),E P "_law_take" 1318 (R 810),E P "_law_parts" 1329 (R 817),E P "_law_made" 1340 (R 824),E P "_law_begun" 1346 (R 829),E P "_law_same" 1352 (R 834),E P "_law_ready" 1358 (R 839),E P "_law_plan" 1367 (R 846),E P "_law_deed" 1373 (R 851),E P "_law_fits" 1379 (R 856),E P "_law_kill_right" 1385 (R 861),E P "_law_ends" 1391 (R 866),E P "_law_turn_right" 1397 (R 871),E P "_law_left" 1403 (R 876),E P "law" 1409 (R 881)]
noncomputable def gd(P:Params)(v:Value)(c k:Nat):Obj:=O (Y "dict") (dc (E P "__name__" 165 v::(gl P).take c) k)
noncomputable def ll:List (Nat×Nat):=[(1,20),(5,27),(10,48),(12,60),(14,72),(16,84),(24,96),(72,160),(93,202),(101,209),(111,231),(237,378),(255,413),(372,537),(419,604),(457,661),(595,802),(603,809),(612,816),(618,823),(640,828),(650,833),(656,838),(658,845),(660,850),(677,855),(683,860),(695,865),(699,870),(722,875),(735,880)]
noncomputable def qO:Value:=S "pipeboard.errors" 194
noncomputable def Vf:Value:=S "__main__" 164
noncomputable def Br:Value:=S "pipeboard.pipes" 288
noncomputable def ye:Value:=S "pipeboard.calls" 442
noncomputable def sD:Value:=S "pipeboard.files" 695
noncomputable def yf:Value:=S "pipeboard.procs" 1016
noncomputable def g7:Value:=S "law_up0079_03" 1299
noncomputable def Vg(P:Params):List (Nat×Obj):=[(11,Tp []),(12,O n (fl [])),(13,cd "<module>" "<module>" 182 185 1 0 0 false 11 [n,n,n]),(14,O2 (Y "frame") .plain [some (R 13),some (R 3),some (R 3),none,some (S "__main__" 164),none,some (R 0)])]
noncomputable def Vh(P:Params):List (Nat×Obj):=[]
noncomputable def Vi:Obj:=ty "BoardError" 196 39 (some (R 22)) [(Y "ValueError")] [(Y "ValueError"),(Y "Exception"),(Y "BaseException"),(Y "object")] "ValueError.__new__" [(R 52),(R 64),(R 76)]
noncomputable def Ih:Obj:=ty "BadArgument" 224 52 (some (R 43)) [(R 39)] [(R 39),(Y "ValueError"),(Y "Exception"),(Y "BaseException"),(Y "object")] "ValueError.__new__" []
noncomputable def Ii:Obj:=ty "NoRoom" 240 64 (some (R 55)) [(R 39)] [(R 39),(Y "ValueError"),(Y "Exception"),(Y "BaseException"),(Y "object")] "ValueError.__new__" []
noncomputable def Ij:Obj:=ty "BadCall" 256 76 (some (R 67)) [(R 39)] [(R 39),(Y "ValueError"),(Y "Exception"),(Y "BaseException"),(Y "object")] "ValueError.__new__" []
noncomputable def d0(P:Params):List (Nat×Obj):=[(3,gd P qO 13 14),(12,lt 0 (ll.take 5))]++nx 15 (F.all "" Vf ⟨15,187,[0],0,[]⟩++cls P 22 196 2 qO [⟨30,209,[2,0],0,[(S "" 208)]⟩] 37 217 ["reason"] 1 [(Y "ValueError")] Vi++cls P 43 224 3 qO [] 50 236 [] 0 [(R 39)] Ih++cls P 55 240 4 qO [] 62 252 [] 0 [(R 39)] Ii++cls P 67 256 5 qO [] 74 268 [] 0 [(R 39)] Ij)
noncomputable def Ik:Obj:=ty "Stuck" 272 88 (some (R 79)) [(R 39)] [(R 39),(Y "ValueError"),(Y "Exception"),(Y "BaseException"),(Y "object")] "ValueError.__new__" []
noncomputable def Vj:Obj:=ty "Pipe" 300 150 none [(Y "object")] [(Y "object")] "object.__new__" []
noncomputable def Vk:Obj:=ty "BoardError" 196 39 (some (R 22)) [(Y "ValueError")] [(Y "ValueError"),(Y "Exception"),(Y "BaseException"),(Y "object")] "ValueError.__new__" [(R 52),(R 64),(R 76),(R 88)]
noncomputable def d1(P:Params):List (Nat×Obj):=[(3,gd P Br 20 21),(12,lt 0 (ll.take 7)),(39,Vk)]++nx 79 (cls P 79 272 6 qO [] 86 284 [] 0 [(R 39)] Ik++cls P 91 300 13 Br [⟨99,313,[13,0],0,[(I 512 312)]⟩,⟨106,322,[13,1],0,[]⟩,⟨113,329,[13,2],0,[]⟩,⟨120,336,[13,3],0,[]⟩,⟨127,344,[13,4],0,[]⟩,⟨134,354,[13,5],0,[]⟩,⟨141,363,[13,6],0,[]⟩] 148 371 ["ident","read_count","read_open","ring","size","write_count","write_open"] 2 [] Vj)
noncomputable def Vl:Obj:=ty "PipeTable" 386 193 none [(Y "object")] [(Y "object")] "object.__new__" []
noncomputable def Vm:Obj:=ty "Parts" 452 221 none [(Y "object")] [(Y "object")] "object.__new__" []
noncomputable def d2(P:Params):List (Nat×Obj):=[(3,gd P ye 24 25),(12,lt 0 (ll.take 10))]++nx 155 (cls P 155 386 14 Br [⟨163,399,[14,0],0,[(I 512 398)]⟩,⟨170,407,[14,1],0,[]⟩,⟨177,415,[14,2],0,[]⟩,⟨184,424,[14,3],0,[]⟩] 191 431 ["made","pipes","size"] 2 [] Vl++[Tp [(S "ticks" 444)]]++F.all "" ye ⟨199,446,[17],1,[]⟩++cls P 204 452 18 ye [⟨212,464,[18,0],0,[n,n,n,n]⟩] 219 477 ["devices","files","journal","nodes","paths","table","ticks"] 2 [] Vm)
noncomputable def Vn:Obj:=ty "ProcessCalls" 492 368 none [(Y "object")] [(Y "object")] "object.__new__" []
noncomputable def d3(P:Params):List (Nat×Obj):=[(3,gd P sD 28 29),(12,lt 0 (ll.take 11))]++nx 226 (cls P 226 492 19 ye [⟨233,504,[19,0],0,[]⟩,⟨240,512,[19,1],0,[]⟩,⟨247,521,[19,2],0,[]⟩,⟨254,530,[19,3],0,[]⟩,⟨261,538,[19,4],0,[]⟩,⟨268,546,[19,5],0,[]⟩,⟨275,555,[19,6],2,[]⟩,⟨282,567,[19,7],0,[]⟩,⟨289,576,[19,8],0,[]⟩,⟨296,584,[19,9],0,[]⟩,⟨303,593,[19,10],0,[]⟩,⟨310,601,[19,11],0,[]⟩,⟨317,610,[19,12],0,[]⟩,⟨324,620,[19,13],0,[]⟩,⟨331,629,[19,14],0,[]⟩,⟨338,640,[19,15],0,[]⟩,⟨345,650,[19,16],0,[]⟩,⟨352,659,[19,17],0,[]⟩,⟨359,672,[19,18],0,[]⟩] 366 686 ["kernel"] 2 [] Vn)
noncomputable def Vo:Obj:=ty "OpenFile" 703 403 none [(Y "object")] [(Y "object")] "object.__new__" []
noncomputable def d4(P:Params):List (Nat×Obj):=[(3,gd P sD 29 30),(12,lt 0 (ll.take 12))]++nx 373 (cls P 373 703 24 sD [⟨380,715,[24,0],0,[]⟩,⟨387,725,[24,1],0,[]⟩,⟨394,732,[24,2],0,[]⟩] 401 740 ["holders","kind","major","node","pipe","place","readable","writable"] 2 [] Vo)
noncomputable def Vp:Obj:=ty "FileTable" 756 527 none [(Y "object")] [(Y "object")] "object.__new__" []
noncomputable def d5(P:Params):List (Nat×Obj):=[(3,gd P sD 30 31),(12,lt 0 (ll.take 13))]++nx 408 (cls P 408 756 25 sD [⟨415,768,[25,0],0,[]⟩,⟨422,781,[25,1],0,[]⟩,⟨429,788,[25,2],0,[]⟩,⟨436,796,[25,3],0,[]⟩,⟨443,804,[25,4],0,[]⟩,⟨450,815,[25,5],0,[]⟩,⟨457,825,[25,6],0,[]⟩,⟨464,835,[25,7],0,[]⟩,⟨471,843,[25,8],1,[]⟩,⟨476,849,[25,9],0,[]⟩,⟨483,857,[25,10],0,[]⟩,⟨490,867,[25,11],0,[]⟩,⟨497,874,[25,12],0,[]⟩,⟨504,886,[25,13],0,[]⟩,⟨511,896,[25,14],0,[]⟩,⟨518,904,[25,15],0,[]⟩] 525 913 ["block","devices","journal","most","nodes","open","pipes"] 2 [] Vp)
noncomputable def Vq:Obj:=ty "Descriptors" 928 594 none [(Y "object")] [(Y "object")] "object.__new__" []
noncomputable def d6(P:Params):List (Nat×Obj):=[(3,gd P yf 38 39),(12,lt 0 (ll.take 14))]++nx 532 (cls P 532 928 26 sD [⟨540,941,[26,0],0,[(I 16 940)]⟩,⟨547,949,[26,1],0,[]⟩,⟨554,958,[26,2],1,[]⟩,⟨559,964,[26,3],0,[]⟩,⟨566,972,[26,4],0,[]⟩,⟨573,981,[26,5],1,[]⟩,⟨578,987,[26,6],0,[]⟩,⟨585,998,[26,7],0,[]⟩] 592 1006 ["most","slots"] 2 [] Vq)
noncomputable def Vr:Obj:=ty "Process" 1032 651 none [(Y "object")] [(Y "object")] "object.__new__" []
noncomputable def d7(P:Params):List (Nat×Obj):=[(3,gd P yf 39 40),(12,lt 0 (ll.take 15))]++nx 599 (cls P 599 1032 35 yf [⟨606,1044,[35,0],0,[]⟩,⟨613,1052,[35,1],0,[]⟩,⟨620,1059,[35,2],0,[]⟩,⟨627,1066,[35,3],0,[]⟩,⟨634,1073,[35,4],3,[]⟩,⟨642,1081,[35,5],0,[]⟩] 649 1088 ["channel","cwd","files","in_call","job","killed","name","parent","pc","pid","place","progress","registers","space","state","status","told","turns","wakes"] 2 [] Vr)
noncomputable def Vs:Obj:=ty "Table" 1115 792 none [(Y "object")] [(Y "object")] "object.__new__" []
noncomputable def d8(P:Params):List (Nat×Obj):=[(3,gd P g7 42 43),(12,lt 0 (ll.take 18))]++nx 656 (cls P 656 1115 36 yf [⟨663,1127,[36,0],1,[]⟩,⟨668,1133,[36,1],0,[]⟩,⟨676,1142,[36,2],0,[(S "" 1141)]⟩,⟨683,1151,[36,3],0,[]⟩,⟨690,1160,[36,4],1,[]⟩,⟨695,1166,[36,5],1,[]⟩,⟨700,1172,[36,6],0,[]⟩,⟨707,1180,[36,7],0,[]⟩,⟨714,1190,[36,8],0,[]⟩,⟨722,1197,[36,9],0,[n]⟩,⟨729,1207,[36,10],0,[]⟩,⟨736,1216,[36,11],0,[]⟩,⟨743,1224,[36,12],0,[]⟩,⟨750,1233,[36,13],0,[]⟩,⟨757,1242,[36,14],0,[]⟩,⟨764,1252,[36,15],0,[]⟩,⟨771,1261,[36,16],0,[]⟩,⟨778,1271,[36,17],0,[]⟩,⟨785,1280,[36,18],1,[]⟩] 790 1286 ["first","last","next_pid","places","running"] 2 [] Vs++F.all "" g7 ⟨797,1301,[38],0,[]⟩++F.all "" g7 ⟨804,1310,[39],0,[]⟩)
noncomputable def d9(P:Params):List (Nat×Obj):=[(3,gd P g7 55 56),(12,lt 0 (ll.take 31))]++nx 811 (F.all "" g7 ⟨811,1319,[40],0,[]⟩++F.all "" g7 ⟨818,1330,[41],0,[]⟩++F.all "" g7 ⟨825,1341,[42],1,[]⟩++F.all "" g7 ⟨830,1347,[43],1,[]⟩++F.all "" g7 ⟨835,1353,[44],1,[]⟩++F.all "" g7 ⟨840,1359,[45],0,[]⟩++F.all "" g7 ⟨847,1368,[46],1,[]⟩++F.all "" g7 ⟨852,1374,[47],1,[]⟩++F.all "" g7 ⟨857,1380,[48],1,[]⟩++F.all "" g7 ⟨862,1386,[49],1,[]⟩++F.all "" g7 ⟨867,1392,[50],1,[]⟩++F.all "" g7 ⟨872,1398,[51],1,[]⟩++F.all "" g7 ⟨877,1404,[52],1,[]⟩)
noncomputable def upd(t:BT)(l:List (Nat×Obj)):BT:=l.foldl (fun t x=>t.ins x.1 x.2) t
noncomputable def Il:BT→Nat→List Obj→BT
 |t,_,[]=>t
 |t,i,x::r=>Il (t.ins i x) (i+1) r
noncomputable def life:Life:=⟨[],[],[],0,[],[],false,#[],[],0,false,false,false,0,[2000,10,10],false,0,true,[],[],0,false⟩
noncomputable def g0:Array GenState:=⟨[]⟩
noncomputable def Vt(P:Params):BT:=Il .nil 0 (boot_heap P).objs.toList
noncomputable def aL(P:Params):BT:=upd (upd (Vt P) (Vg P)) (Vh P)
noncomputable def Bs(P:Params):BT:=upd (aL P) (d0 P)
noncomputable def Bt(P:Params):BT:=upd (Bs P) (d1 P)
noncomputable def Bu(P:Params):BT:=upd (Bt P) (d2 P)
noncomputable def Bv(P:Params):BT:=upd (Bu P) (d3 P)
noncomputable def Bw(P:Params):BT:=upd (Bv P) (d4 P)
noncomputable def By(P:Params):BT:=upd (Bw P) (d5 P)
noncomputable def BA(P:Params):BT:=upd (By P) (d6 P)
noncomputable def BB(P:Params):BT:=upd (BA P) (d7 P)
noncomputable def BC(P:Params):BT:=upd (BB P) (d8 P)
noncomputable def qP(P:Params):BT:=upd (BC P) (d9 P)
noncomputable def sh(t:BT)(sz tk:Nat)(os:OsState):SharedT:=⟨t,sz,life,g0,boot_drawn,tk,os⟩
noncomputable def lD:Env:={scope:=pw.main.scope,locals:=mainNs,globals:=mainNs,cells:=[],code := .ref 13,frame:=some 14}
noncomputable def q0:Pos:=⟨0,0,0,0⟩
noncomputable def ann:Option Value:=some (.ref 6)
noncomputable def m0:Nat:=11
noncomputable abbrev body:List Stmt:=pw.main.body
noncomputable abbrev cE:Code := .body (behindTheImports pw) lD
noncomputable def sts(i c:Nat):List Stmt:=(body.drop i).take c
noncomputable def qv:Program:={pw with main:={pw.main with body:=sts 52 1}}
noncomputable def Vu:Str:=PySem.Str.ofString "law"
noncomputable def loose:List Str:=pw.boundNames.filter fun x => !(x==Vu)
noncomputable def hp(P:Params):Heap:=absHeap (qP P) 882 life
noncomputable def BD:Obj:=O (Y "function") (fd ⟨30,209,[2,0],0,[]⟩ "BoardError.__init__" 3 (R 29) qO (R 35))
noncomputable def gF(P:Params):Obj:=gd P g7 55 56
noncomputable def ob(P:Params)(a:Nat):Obj:=((qP P).get a).getD (Tp [])
def Vv:∀w:World,(fun os=>segRunT treeTable pw w m0 ann 1 898 (sh (aL w.params) 15 187 os) (piecesOf (sts 0 6) lD cE ⟨0,0,0,0⟩ [topFrame q0])) =
  fun os=>some (.next,sh (Bs w.params) 79 272 os,cE,⟨14,0,15,8⟩):=by
 rw[l7,ko]
 intro w;kernel_rfl
def Vw:∀w:World,(fun os=>segRunT treeTable pw w m0 ann 1 692 (sh (Bs w.params) 79 272 os) (piecesOf (sts 6 8) lD cE ⟨14,0,15,8⟩ [topFrame q0])) =
  fun os=>some (.next,sh (Bt w.params) 155 386 os,cE,⟨24,0,71,59⟩):=by
 rw[l7,ko]
 intro w;kernel_rfl
def Vx:∀w:World,(fun os=>segRunT treeTable pw w m0 ann 1 603 (sh (Bt w.params) 155 386 os) (piecesOf (sts 14 5) lD cE ⟨24,0,71,59⟩ [topFrame q0])) =
  fun os=>some (.next,sh (Bu w.params) 226 492 os,cE,⟨101,0,110,22⟩):=by
 rw[l7,ko]
 intro w;kernel_rfl
def Vy:∀w:World,(fun os=>segRunT treeTable pw w m0 ann 1 865 (sh (Bu w.params) 226 492 os) (piecesOf (sts 19 5) lD cE ⟨101,0,110,22⟩ [topFrame q0])) =
  fun os=>some (.next,sh (Bv w.params) 373 703 os,cE,⟨236,0,236,6⟩):=by
 rw[l7,ko]
 intro w;kernel_rfl
def Vz:∀w:World,(fun os=>segRunT treeTable pw w m0 ann 1 295 (sh (Bv w.params) 373 703 os) (piecesOf (sts 24 1) lD cE ⟨236,0,236,6⟩ [topFrame q0])) =
  fun os=>some (.next,sh (Bw w.params) 408 756 os,cE,⟨237,0,254,31⟩):=by
 rw[l7,ko]
 intro w;kernel_rfl
def VA:∀w:World,(fun os=>segRunT treeTable pw w m0 ann 1 724 (sh (Bw w.params) 408 756 os) (piecesOf (sts 25 1) lD cE ⟨237,0,254,31⟩ [topFrame q0])) =
  fun os=>some (.next,sh (By w.params) 532 928 os,cE,⟨255,0,371,42⟩):=by
 rw[l7,ko]
 intro w;kernel_rfl
def VB:∀w:World,(fun os=>segRunT treeTable pw w m0 ann 1 519 (sh (By w.params) 532 928 os) (piecesOf (sts 26 9) lD cE ⟨255,0,371,42⟩ [topFrame q0])) =
  fun os=>some (.next,sh (BA w.params) 599 1032 os,cE,⟨418,0,418,2⟩):=by
 rw[l7,ko]
 intro w;kernel_rfl
def VC:∀w:World,(fun os=>segRunT treeTable pw w m0 ann 1 454 (sh (BA w.params) 599 1032 os) (piecesOf (sts 35 1) lD cE ⟨418,0,418,2⟩ [topFrame q0])) =
  fun os=>some (.next,sh (BB w.params) 656 1115 os,cE,⟨419,0,456,95⟩):=by
 rw[l7,ko]
 intro w;kernel_rfl
def VD:∀w:World,(fun os=>segRunT treeTable pw w m0 ann 1 875 (sh (BB w.params) 656 1115 os) (piecesOf (sts 36 4) lD cE ⟨419,0,456,95⟩ [topFrame q0])) =
  fun os=>some (.next,sh (BC w.params) 811 1319 os,cE,⟨603,0,611,74⟩):=by
 rw[l7,ko]
 intro w;kernel_rfl
def VE:∀w:World,(fun os=>segRunT treeTable pw w m0 ann 1 358 (sh (BC w.params) 811 1319 os) (piecesOf (sts 40 13) lD cE ⟨603,0,611,74⟩ [topFrame q0])) =
  fun os=>some (.next,sh (qP w.params) 882 1410 os,cE,⟨735,0,760,94⟩):=by
 rw[l7,ko]
 intro w;kernel_rfl
def VF:∀w:World,(fun os=>topGo treeTable pw w m0 ann 12 ⟨boot_heap w.params,g0,boot_drawn,boot_toks,os⟩ (topStub pw)) =
  fun os=>some ((sh (aL w.params) 15 187 os).abs,Thread.mk (denote treeTable cE) cE ⟨0,0,0,0⟩ [topFrame q0]):=by
 rw[Fast.te15667345088766844465,Fast.te11892475500146522536,ko]
 intro w;kernel_rfl
def VG:∀w:World,(fun os=>segRun treeTable pw w m0 ann 1 1 (sh (aL w.params) 15 187 os).abs (blockOf (behindTheImports pw) lD cE ⟨0,0,0,0⟩ [topFrame q0])) =
  fun os=>some (.next,(sh (aL w.params) 15 187 os).abs,cE,⟨0,0,0,0⟩):=by
 intro w;kernel_rfl
def VH:∀w:World,(fun os=>topRun treeTable pw w m0 ann 2 (sh (qP w.params) 882 1410 os).abs ⟨doneF .next,cE,⟨735,0,760,94⟩,[topFrame q0]⟩) =
  fun os=>some (sh (qP w.params) 882 1410 os).abs:=by
 rw[Fast.te14082659384304107361,ko]
 intro w;kernel_rfl
def VI:behindTheImports pw=sts 0 6++(sts 6 8++(sts 14 5++(sts 19 5++(sts 24 1++(sts 25 1++(sts 26 9++(sts 35 1++(sts 36 4++(sts 40 13++[]))))))))):=by kernel_rfl
def VJ(w:World)(os:OsState):topRun treeTable pw w m0 ann (12+(1+(898+(692+(603+(865+(295+(724+(519+(454+(875+(358+2)))))))))))) ⟨boot_heap w.params,g0,boot_drawn,boot_toks,os⟩ (topStub pw) =
  some (sh (qP w.params) 882 1410 os).abs:=by
 have k9:=piece_app (rest:=[]) (segRun_of (iG (VE w) os)) (piece_nil (iG (VH w) os))
 have k8:=piece_app (segRun_of (iG (VD w) os)) k9
 have k7:=piece_app (segRun_of (iG (VC w) os)) k8
 have k6:=piece_app (segRun_of (iG (VB w) os)) k7
 have k5:=piece_app (segRun_of (iG (VA w) os)) k6
 have k4:=piece_app (segRun_of (iG (Vz w) os)) k5
 have k3:=piece_app (segRun_of (iG (Vy w) os)) k4
 have k2:=piece_app (segRun_of (iG (Vx w) os)) k3
 have k1:=piece_app (segRun_of (iG (Vw w) os)) k2
 have k0:=piece_app (segRun_of (iG (Vv w) os)) k1
 rw[←VI] at k0
 exact go_top (iG (VF w) os) (piece_block (iG (VG w) os) k0)
end Hd
noncomputable def lc(s:Str):Nat:=s.cps.toList.foldl (fun a c=>Nat.add (Nat.mul a 2097152) (Nat.succ c)) 0
noncomputable def VK(s:Str):Bool:=match s.cps.toList with
 |[c]=>Nat.blt c 2000000
 |_=>true
noncomputable def nd:List Nat→Bool
 |[]=>true
 |a::r=>(r.all fun b => !(Nat.beq a b))&&nd r
def VL{l:List Nat}:nd l=true→∀{i j a:Nat},l[i]?=some a→l[j]?=some a→i=j:=by
 induction l with
 |nil=>exact fun _ {i j a} h=>by cases h
 |cons b r ih=>
  intro h i j a h1 h2
  obtain⟨n1,n2⟩:=g8.mp h
  have no:∀{j:Nat},r[j]?=some b→False:=fun h=>by
   have:=jg.mp n1 b (dD h)
   rw[dh] at this;cases this
  cases i with
  |zero=>cases j with
   |zero=>rfl
   |succ j=>cases h1;exact(no h2).elim
  |succ i=>cases j with
   |zero=>cases h2;exact(no h1).elim
   |succ j=>exact aa Nat.succ (ih n2 h1 h2)
def uP{n:Nm}{x:String}(h:names[n]?=some x):jQ n=aS x:=by unfold jQ;rw[h];rfl
def uQ{n:Nm}(h:names[n]?=none):jQ n=⟨#[2000000+n]⟩:=by unfold jQ;rw[h]
def VM:names.all (fun x=>VK (aS x))=true:=by kernel_rfl
def VN:nd (names.map fun x=>lc (aS x))=true:=by kernel_rfl
def Im{x:String}{n:Nat}(h:x∈names):aS x≠⟨#[2000000+n]⟩:=fun e=>by
 have:=jg.mp VM x h
 rw[e] at this
 exact absurd (bw this) (by omega)
def VO(n m:Nm)(h:jQ n=jQ m):n=m:=by
 cases e:names[n]? with
 |none=>cases e2:names[m]? with
  |none=>
   rw[uQ e,uQ e2] at h
   have:=(List.cons.inj (aa (fun s:Str=>s.cps.toList) h)).1
   exact Nat.add_left_cancel this
  |some y=>
   rw[uQ e,uP e2] at h
   exact(Im (dD e2) h.symm).elim
 |some x=>cases e2:names[m]? with
  |none=>
   rw[uP e,uQ e2] at h
   exact(Im (dD e) h).elim
  |some y=>
   rw[uP e,uP e2] at h
   refine VL VN (a:=lc (aS x)) ?_ ?_
   ·rw[fV,e];rfl
   ·rw[fV,e2,h];rfl
def BF{t:Str}(h:names.all (fun x => !(Nat.beq (lc (aS x)) (lc t)))=true)(h2:t.cps.toList.length≠1)(n:Nm):jQ n≠t:=fun z=>by
 cases e:names[n]? with
 |none=>
  rw[uQ e] at z
  exact h2 (aa (fun s:Str=>s.cps.toList.length) z.symm)
 |some x=>
  rw[uP e] at z
  have:=jg.mp h x (dD e)
  rw[z,dh] at this
  cases this
def BG(n:Nm):(jQ n==("__debug__":Str))=false∧(jQ n==("__classdict__":Str))=false:=
 ⟨nY.mpr (BF (by kernel_rfl) (by decide) n),nY.mpr (BF (by kernel_rfl) (by decide) n)⟩
def VP(n:Nm):jQ n≠aS ".0":=BF (by kernel_rfl) (by decide) n
noncomputable def uR:List Nat:=[21,105,112,119,126,133,140,147,169,176,183,190,203,218,239,246,253,260,267,274,281,288,295,302,309,316,323,330,337,344,351,358,365,386,393,400,421,428,435,442,449,456,463,470,475,482,489,496,503,510,517,524,546,553,558,565,572,577,584,591,612,619,626,633,640,648,667,674,682,689,694,699,706,713,720,728,735,742,749,756,763,770,777,784,789,803,810,817,824,829,834,839,846,851,856,861,866,871,876,881]
noncomputable def VQ:List Nat:=[150,193,221,368,403,527,594,651,792]
noncomputable def VR:List Nat:=[52,64,76,88]
noncomputable def ks:List Nat:=[3,21,29,36,38,39,51,52,63,64,75,76,87,88,98,105,112,119,126,133,140,147,149,150,162,169,176,183,190,192,193,198,203,211,218,220,221,239,246,253,260,267,274,281,288,295,302,309,316,323,330,337,344,351,358,365,367,368,386,393,400,402,403,421,428,435,442,449,456,463,470,475,482,489,496,503,510,517,524,526,527,539,546,553,558,565,572,577,584,591,593,594,612,619,626,633,640,648,650,651,667,674,675,682,689,694,699,706,713,720,721,728,735,742,749,756,763,770,777,784,789,791,792,803,810,817,824,829,834,839,846,851,856,861,866,871,876,881]
def KH (P:Params):Frag:=(2,((boot_heap P).get? 2).getD (Hd.Tp []))::ks.map fun a=>(a,Hd.ob P a)
noncomputable def nW(c:jL):Addr:=(VQ[c]?).getD 0
noncomputable def exs:List Ex:=[.lI,.noRoom,.cU,.stuck]
noncomputable def Ex.no:Ex→Nat
 |.lI=>0 | .noRoom=>1 | .cU=>2 | .stuck=>3
noncomputable def excOf(x:Ex):Addr:=(VR[x.no]?).getD 0
noncomputable def fnOf(f:dP):Addr:=(uR[f]?).getD 21
def m8 (P:Params):Array DictEntry:=match (Hd.gF P).data with
 |.dict es _=>es
 |_=>#[]
noncomputable def Io:Value→Bool
 |.none=>true
 |_=>false
noncomputable def vInt:Value→Option Int
 |.int i _=>some i
 |_=>none
noncomputable def vStr:Value→Option Str
 |.str s _=>some s
 |_=>none
noncomputable def BH:Value→Option Addr
 |.ref a=>some a
 |_=>none
noncomputable def Iq:Value→Option String
 |.type s=>some s
 |_=>none
noncomputable def Ir:Data→Option (List Value)
 |.seq ⟨l⟩ n=>bif Nat.beq n 0 then some l else none
 |_=>none
noncomputable def yg(K:Frag)(v:Value):Option (List Value):=(BH v).bind fun a=>(K.lookup a).bind fun o=>(Ir o.data).bind fun l=>bif Iq o.cls==some "tuple"&&(o.dict.isNone&&Nat.beq o.slots.size 0) then some l else none
noncomputable def sF(f:V→Value→Bool):List V→List Value→Bool
 |[],vs=>vs.isEmpty
 |x::r,vs=>vs.head?.any (f x)&&sF f r vs.tail
def pI (K:Frag):Nat→V→Value→Bool
 |0,_,_=>false
 |d+1,x,v=>match x with
  |.none=>Io v
  |.int i=>vInt v==some i
  |.str n=>vStr v==some n.s
  |.tup l=>(yg K v).any fun items=>Nat.ble l.length 900&&sF (pI K d) l items
  |_=>false
section
variable(w:World)
def VS:(KH w.params).map (fun q=>(Hd.hp w.params).get? q.1)=(KH w.params).map fun q=>some q.2:=by kernel_rfl
def VT:((List.range 105).filter qc).map (fun f=>nsFind (m8 w.params) (fname f))=((List.range 105).filter qc).map fun f=>some (.ref (fnOf f)):=by kernel_rfl
def VU:(List.range 9).map (fun c=>nsFind (m8 w.params) (cname c))=(List.range 9).map fun c=>some (.ref (nW c)):=by kernel_rfl
def VV:tw.map (fun n=>nsFind (m8 w.params) (aS n))=tw.map fun _=>none:=by kernel_rfl
def VW:exs.map (fun x=>nsFind (m8 w.params) (aS x.txt))=exs.map fun x=>some (.ref (excOf x)):=by kernel_rfl
def VX:(BN.all fun q=>(nsFind (m8 w.params) q.1.s).any fun v=>pI (KH w.params) 9 q.2 v)=true:=by kernel_rfl
def VY:((List.range 9).all fun c=>((yl[c]?).getD []).all fun n=>yP (KH w.params) (nW c) n.s)=true:=by kernel_rfl
def Iu:List (Nat×Nm×dP):=(List.range 9).flatMap fun c=>((yk[c]?).getD []).map fun q=>(c,q)
def VZ:Iu.map (fun q=>findIn (KH w.params) (.ref (nW q.1)) q.2.1.s)=Iu.map fun q=>some (some (.ref (fnOf q.2.2))):=by kernel_rfl
def V0:(List.range 9).map (fun c=>(findIn (KH w.params) (.ref (nW c)) "__getattribute__",findIn (KH w.params) (.ref (nW c)) "__getattr__"))=(List.range 9).map fun _=>(some (some (.builtin "object.__getattribute__")),some none):=by kernel_rfl
def V1:uR.map (fun a=>(typeIn (KH w.params) (.ref a),keepIn (KH w.params) (.ref a)))=uR.map fun _=>(some (.type "function"),true):=by kernel_rfl
def V2:(List.range 9).map (fun c=>(makesIn (KH w.params) (nW c),findIn (KH w.params) (.ref (nW c)) "__init__",keepIn (KH w.params) (.ref (nW c))))=(List.range 9).map fun c=>(true,some (some (.ref (fnOf (sU c)))),true):=by kernel_rfl
end
def jc{α β:Type}{l:List α}{f g:α→β}(h:l.map f=l.map g){a:α}(ha:a∈l):f a=g a:=List.map_inj_left.mp h a ha
def Iv{α:Type}{n:Nm}{v:α}{l:List (Nm×α)}(h:aF l n=some v):(n,v)∈l:=by
 induction l with
 |nil=>exact nn h
 |cons q r ih=>
  obtain⟨k,x⟩:=q
  have h:(bif Nat.beq k n then some x else aF r n)=some v:=h
  cases e:Nat.beq k n with
  |true=>
   rw[e] at h
   cases h
   exact cH e▸eF ..
  |false=>rw[e] at h;exact eY _ (ih h)
noncomputable def pc(w:World)(base:Heap)(mg mb:QN):PC:=⟨Hd.pw,w,KH w.params,base,mg,mb,nW,excOf,fnOf⟩
section
variable{w:World}{base:Heap}{mg mb:QN}
def V3{v:Value}(h:Io v=true):v = .none:=by
 cases v with
 |none=>rfl
 |_=>exact Bool.noConfusion h
def V4{v:Value}{i:Int}(h:vInt v=some i):∃t,v = .int i t:=by
 cases v with
 |int j t=>exact⟨t,aa (Value.int · t) (aT h)⟩
 |_=>exact nn h
def Iw{v:Value}{s:Str}(h:vStr v=some s):∃t,v = .str s t:=by
 cases v with
 |str j t=>exact⟨t,aa (Value.str · t) (aT h)⟩
 |_=>exact nn h
def Iz{v:Value}{a:Addr}(h:BH v=some a):v = .ref a:=by
 cases v with
 |ref b=>exact aa Value.ref (aT h)
 |_=>exact nn h
def V5{v:Value}{a:String}(h:Iq v=some a):v = .type a:=by
 cases v with
 |type b=>exact aa Value.type (aT h)
 |_=>exact nn h
def BI{α:Type}{b:Bool}{x y:α}(h:(bif b then some x else none)=some y):b=true∧x=y:=by
 cases b with
 |true=>exact⟨rfl,aT h⟩
 |false=>exact nn h
def V6{d:Data}{l:List Value}(h:Ir d=some l):d = .seq ⟨l⟩ 0:=by
 cases d with
 |seq xs n=>exact(BI h).2▸cH (BI h).1▸rfl
 |_=>exact nn h
def V7{K:Frag}{v:Value}{l:List Value}(h:yg K v=some l):∃a,v = .ref a∧K.lookup a=some (lN "tuple" l 0):=by
 refine cps fun C9 k9=>?_
 obtain⟨a,h1,h⟩:=Option.bind_eq_some_iff.mp h
 obtain⟨o,h2,h⟩:=Option.bind_eq_some_iff.mp h
 obtain⟨l',h3,h⟩:=Option.bind_eq_some_iff.mp h
 obtain⟨hc,rfl⟩:=BI h
 refine k9 ?_
 clear h
 refine⟨a,Iz h1,h2.trans (aa some ?_)⟩
 cases o with
 |mk c d da sl=>
  obtain⟨h4,h7⟩:=aE hc
  obtain⟨h5,h6⟩:=aE h7
  obtain rfl:c = .type "tuple":=V5 (eq_of_beq h4)
  obtain rfl:=V6 h3
  obtain rfl:d=none:=Option.isNone_iff_eq_none.mp h5
  obtain rfl:sl=#[]:=Array.eq_empty_of_size_eq_zero (cH h6)
  rfl
def IC{f:V→Value→Bool}{W:Wd}(hf:∀{x v},f x v=true→aD W x v):∀{l:List V} {vs:List Value},sF f l vs=true→aN W l vs:=by
 intro l
 induction l with
 |nil=>exact fun h=>List.isEmpty_iff.mp h
 |cons x r ih=>
  intro vs h
  cases vs with
  |nil=>exact Bool.noConfusion (aE h).1
  |cons v vs=>exact⟨v,vs,rfl,hf (aE h).1,ih (aE h).2⟩
def ID(X:(KH w.params).In base):∀{d:Nat} {x:V} {v:Value},pI (KH w.params) d x v=true→aD (pc w base mg mb).w0 x v:=by
 intro d
 induction d with
 |zero=>exact fun h=>Bool.noConfusion h
 |succ d ih=>
  intro x v h
  cases x with
  |none=>exact V3 h
  |int i=>exact V4 (eq_of_beq h)
  |str n=>exact Iw (eq_of_beq h)
  |tup l=>
   have h:((yg (KH w.params) v).any fun items=>Nat.ble l.length 900&&sF (pI (KH w.params) d) l items)=true:=h
   cases e:yg (KH w.params) v with
   |none=>rw[e] at h;exact Bool.noConfusion h
   |some items=>
    rw[e] at h
    obtain⟨a,h1,h2⟩:=V7 e
    exact⟨a,items,h1,⟨0,aa (Option.map Role.pin) (X _ _ h2)⟩,aH (bw (aE h).1) (by decide),IC ih (aE h).2⟩
  |_=>exact Bool.noConfusion h
variable{loose:List Str}{R:WRecords}{XP:QN→Heap→Prop}{s₀:Shared}
def yh(hb:∀b o,(Hd.hp w.params).get? b=some o→base.get? b=some o):(KH w.params).In base:=
 Frag.In.keeps (Frag.in_of (h:=Hd.hp w.params) rfl (by rw[gh];exact VS w)) hb
def IE(g:base.Ns mainGlobals mg)(X:(KH w.params).In base)(x:Str):mg x=nsFind (m8 w.params) x:=by
 have h3:=X 3 (Hd.gF w.params) (by kernel_rfl)
 obtain⟨o,es,ep,e1,e2,_,e4⟩:=g
 obtain rfl:o=Hd.gF w.params:=aT (e1.symm.trans h3)
 have:m8 w.params=es:=by unfold m8;rw[e2]
 rw[this];exact(e4 x).symm
def V8{f:dP}(h:qc f=true):f∈(List.range 105).filter qc∧∃n:Nm,fname f=n.s:=by
 unfold qc at h
 refine⟨dJ.mpr ⟨fE.mpr ?_,h⟩,?_⟩
 ·refine Nat.lt_of_not_le fun z=>?_
  rw[iQ (aH (by decide:uU.length≤105) z)] at h
  exact ft h
 ·unfold fname
  cases e:(uU[f]?).join with
  |none=>rw[e] at h;exact ft h
  |some n=>exact⟨n,rfl⟩
def IF{c:jL}(h:Nat.blt c tu=true):c∈List.range 9∧∃n:Nm,cname c=n.s:=by
 have h:c<9:=bw h
 refine⟨fE.mpr h,?_⟩
 unfold cname
 rw[bZ (show c<ym.length from h)]
 exact⟨_,rfl⟩
def V9(f:dP):fnOf f∈uR:=by
 unfold fnOf
 cases e:uR[f]? with
 |none=>exact eF ..
 |some a=>exact dD e
def IG{α:Type}{l:List α}{n c:Nat}{a:α}(hl:l.length=n)(h:l[c]?=some a):c∈List.range n:=fE.mpr (hl▸(bM.mp h).1)
def Wa(G:Ground Hd.qv loose R XP w s₀ mg mb base)(hb:∀b o,(Hd.hp w.params).get? b=some o→base.get? b=some o):aO (pc w base mg mb):=by
 have X:=yh hb
 have M:=IE G.T.g X
 exact{
  X:=X
  g:=G.T.g
  b:=G.T.b
  nolimit:=G.T.nolimit
  seer:=G.T.seer (by kernel_rfl)
  tree:=by kernel_rfl
  bi:=G.T.builtins
  inj:=VO
  qd:=BG
  dot0:=VP
  con:=fun n v h=>by
   have h1:=jg.mp (VX w) _ (Iv h)
   cases e:nsFind (m8 w.params) n.s with
   |none=>exact Bool.noConfusion ((aa (fun o:Option Value=>o.any fun v'=>pI (KH w.params) 9 v v') e).symm.trans h1)
   |some cv=>exact⟨cv,(M _).trans e,ID X ((aa (fun o:Option Value=>o.any fun v'=>pI (KH w.params) 9 v v') e).symm.trans h1)⟩
  field:=fun c n h=>by
   unfold fX at h
   cases e:yl[c]? with
   |none=>rw[e] at h;exact ft h
   |some l=>
    rw[e] at h
    have:=jg.mp (VY w) c (IG rfl e)
    rw[e] at this
    exact jg.mp this n (List.contains_iff_mem.mp h)
  ve:=fun f h=>by
   obtain⟨h1,n,h2⟩:=V8 h
   exact⟨(M _).trans (jc (VT w) h1),h2▸(BG n).1⟩
  yQ:=fun c h=>by
   obtain⟨h1,n,h2⟩:=IF h
   exact⟨(M _).trans (jc (VU w) h1),h2▸(BG n).1⟩
  CC:=fun n h=>(M _).trans (jc (VV w) h)
  CD:=fun c m f h=>by
   unfold ao at h
   cases e:yk[c]? with
   |none=>rw[e] at h;exact nn h
   |some l=>
    rw[e] at h
    have hc:=IG (n:=9) rfl e
    have h2:=jc (V0 w) hc
    refine⟨jc (VZ w) (a:=(c,m,f)) (List.mem_flatMap.mpr ⟨c,hc,?_⟩),aa Prod.fst h2,aa Prod.snd h2⟩
    rw[e]
    exact bP.mpr ⟨(m,f),Iv h,rfl⟩
  tB:=fun f=>by
   have:=jc (V1 w) (V9 f)
   exact⟨aa Prod.fst this,aa Prod.snd this⟩
  yR:=fun c h=>by
   have:=jc (V2 w) (IF h).1
   exact⟨aa Prod.fst this,aa (fun q=>q.2.1) this,aa (fun q=>q.2.2) this⟩}
end
noncomputable def II(m:S):Bool:=match m with
 |.bad=>true
 |_=>false
def Wb{m:S}(h:II m=true):m = .bad:=by
 cases m with
 |bad=>rfl
 |_=>exact Bool.noConfusion h
noncomputable def isBad(l:List S):Bool:=Nat.beq l.length 1&&l.all II
def Wc{l:List S}(h:isBad l=true):l=[.bad]:=by
 obtain⟨m,rfl⟩:=List.length_eq_one_iff.mp (cH (aE h).1)
 exact aa (fun m=>[m]) (Wb (aE (aE h).2).1)
def pJ:List dP:=(List.range 105).filter fun f => !(isBad (bu f).body)
def uS (f:dP):Ps:=(Hd.df ((IY[f]?).getD [])).2.1.flatMap (yC 30)
noncomputable def sG(o:Obj):Option FuncData:=match o.data with
 |.func fd=>some fd
 |_=>none
def sH (P:Params)(f:dP):Option FuncData:=((KH P).lookup (fnOf f)).bind sG
def BJ (P:Params)(fd:FuncData):List Value:=match fd.defaults with
 |.ref a=>(match (KH P).lookup a with
  |some ⟨_,_,.seq ⟨l⟩ _,_⟩=>l
  |_=>[])
 |_=>[]
noncomputable def IJ:Data→Option (Array Value)
 |.fields vs=>some vs
 |_=>none
def IK (h:Heap)(fd:FuncData):Bool:=(BH fd.code).any fun c=>(h.get? c).any fun o=>(IJ o.data).any fun vs=>vs[1]?.any fun v=>vStr v==some fd.qualname
noncomputable def loc? : Option NameKind→Bool
 |some .local=>true
 |some .cell=>true
 |_=>false
def IL (P:Params)(f:dP)(fd:FuncData):Bool:=
 [fd.closure.isEmpty,!fd.scope.isCoroutine,!fd.scope.isGenerator,fd.scope.kind == .function,Nat.beq fd.globals 3,Nat.beq fd.builtins builtinsNs,nd (fd.scope.names.map fun q=>lc q.1),fd.scope.names.all fun q => !(q.2 == .free),mQ fd.scope.names (bu f).body (uS f),IK (Hd.hp P) fd,nd (bu f).params,(bu f).params.all fun n=>loc? (fd.scope.names.lookup n.s),sF (pI (KH P) 9) (bu f).dflt (BJ P fd)].all id
def prs:List (dP×Nat):=pJ.flatMap fun f=>(List.range ((bu f).dflt.length+1)).map fun i=>(f,(bu f).params.length - i)
section
variable(w:World)
def We:pJ.map (fun f=>(sH w.params f).map fun fd=>fd.body)=pJ.map fun f=>some (.stmts (dj (bu f).body (uS f)).1):=by kernel_rfl
def Wf:(pJ.all fun f=>(sH w.params f).any fun fd=>IL w.params f fd)=true:=by kernel_rfl
def Wg(a b c d e f g:Value):prs.map (fun q=>(sH w.params q.1).bind fun fd=>peek (KH w.params) ⟨Hd.pw,w.params⟩ (bindArgs fd ⟨[a,b,c,d,e,f,g].take q.2,[]⟩))=prs.map fun q=>(sH w.params q.1).map fun fd=>((bu q.1).params.map jQ).zip ([a,b,c,d,e,f,g].take q.2++(BJ w.params fd).drop (q.2+(bu q.1).dflt.length - (bu q.1).params.length)):=by kernel_rfl
def Wh:(pJ.all fun f=>Nat.ble (bu f).params.length 7)=true:=by kernel_rfl
end
def Wi{f:dP}:(bu f).body=[.bad]∨f∈pJ:=by
 cases e:isBad (bu f).body with
 |true=>exact .inl (Wc e)
 |false=>
  refine .inr (dJ.mpr ⟨fE.mpr (Nat.lt_of_not_le fun z=>?_),by rw[e];rfl⟩)
  unfold bu at e
  rw[iQ (aH (by decide:BL.length≤105) z)] at e
  exact tf e
def IM{α:Type}{f:α→Nat}{l:List α}(h:nd (l.map f)=true):l.Nodup:=by
 induction l with
 |nil=>exact List.nodup_nil
 |cons a r ih=>
  obtain⟨h1,h2⟩:=g8.mp h
  refine fO.mpr ⟨fun m=>?_,ih h2⟩
  have:=jg.mp h1 (f a) (bP.mpr ⟨a,m,rfl⟩)
  rw[dh] at this;exact ft this
def Wj{α β:Type}{l:List α}:∀{m:List β},((l.zip m).map (·.1)).Sublist l:=by
 induction l with
 |nil=>exact fun{m} => .slnil
 |cons a r ih=>exact fun{m}=>by cases m with | nil=>exact List.nil_sublist _ | cons b m=>exact(ih (m:=m)).cons₂ a
def lookup_mem{x:Str}{k:NameKind}{l:List (Str×NameKind)}(h:l.lookup x=some k):(x,k)∈l:=by
 induction l with
 |nil=>exact nn h
 |cons q r ih=>
  rw[pP] at h
  cases e:x==q.1 with
  |true=>rw[e] at h;cases h;exact eq_of_beq e▸eF ..
  |false=>rw[e] at h;exact eY _ (ih h)
def Wl{l:List Value}{n:Nat}(h:l.length≤n):((List.range n).map fun i=>(l[i]?).getD .none).take l.length=l:=
 List.ext_getElem? fun i=>by
  rw[List.getElem?_take]
  by_cases e:i<l.length
  ·rw[if_pos e,fV,List.getElem?_range (je e h),bZ e];exact aa (fun o:Option Value=>some (o.getD .none)) (bZ e)
  ·rw[if_neg e,iQ (kE e)]
def kj{l:List Bool}(h:l.all id=true)(i:Nat):(l[i]?).getD true=true:=by
 cases e:l[i]? with
 |none=>rfl
 |some b=>exact jg.mp h b (dD e)
def IP{ps:List Nm}{ds as:List V}{lv:Lv}(h:oi ps ds as=some lv):(as.length≤ps.length∧ps.length≤as.length+ds.length)∧lv=ps.zip (as++ds.drop (as.length+ds.length - ps.length)):=by
 unfold oi at h
 cases ec:Nat.ble as.length ps.length&&Nat.ble ps.length (as.length+ds.length) with
 |false=>rw[ec] at h;exact nn h
 |true=>
  rw[ec] at h
  obtain⟨b1,b2⟩:=g8.mp ec
  exact⟨⟨bw b1,bw b2⟩,(aT h).symm⟩
section
variable{W:Wd}
def Wm:∀{l:List V} {vs:List Value},aN W l vs→l.length=vs.length:=by
 intro l
 induction l with
 |nil=>exact fun h=>h▸rfl
 |cons x r ih=>exact fun⟨v,vs,e,_,h⟩=>e▸aa Nat.succ (ih h)
def Wn:∀{ps:List Nm} {l:List V} {vs:List Value},aN W l vs→jU W (ps.zip l) ((ps.map jQ).zip vs):=by
 intro ps
 induction ps with
 |nil=>exact fun _=>rfl
 |cons p r ih=>
  intro l vs h
  cases l with
  |nil=>rw[show vs=[] from h];rfl
  |cons x l=>
   obtain⟨v,vs,rfl,h1,h2⟩:=h
   exact⟨v,_,rfl,h1,ih h2⟩
def Wq:∀{l m:List V} {vs ws:List Value},aN W l vs→aN W m ws→aN W (l++m) (vs++ws):=by
 intro l
 induction l with
 |nil=>exact fun h g=>h▸g
 |cons x r ih=>exact fun⟨v,vs,e,h1,h2⟩ g=>e▸⟨v,_,rfl,h1,ih h2 g⟩
def Wr:∀{n:Nat} {l:List V} {vs:List Value},aN W l vs→aN W (l.drop n) (vs.drop n):=by
 intro n
 induction n with
 |zero=>exact id
 |succ n ih=>
  intro l vs h
  cases l with
  |nil=>rw[show vs=[] from h];rfl
  |cons x l=>
   obtain⟨v,vs,rfl,_,h2⟩:=h
   exact ih h2
end
section
variable{w:World}{base:Heap}{mg mb:QN}
def Wt{d:Data}{vs:Array Value}(h:IJ d=some vs):d = .fields vs:=by
 cases d with
 |fields ws=>exact aa Data.fields (aT h)
 |_=>exact nn h
def yi{α:Type}{o:Option α}{f:α→Bool}(h:o.any f=true):∃a,o=some a∧f a=true:=by
 cases o with
 |none=>exact ft h
 |some a=>exact⟨a,rfl,h⟩
def IQ(hb:∀b o,(Hd.hp w.params).get? b=some o→base.get? b=some o){fd:FuncData}(h:IK (Hd.hp w.params) fd=true):base.CodeRec fd.code fd.qualname:=by
 obtain⟨c,hc,h⟩:=yi h
 obtain⟨o,e,h⟩:=yi h
 obtain⟨vs,hv,h⟩:=yi h
 obtain⟨v,e2,h⟩:=yi h
 obtain⟨t,rfl⟩:=Iw (eq_of_beq h)
 exact⟨c,o,vs,t,Iz hc,hb _ _ e,Wt hv,e2⟩
def Wu(X:(KH w.params).In base){f:dP}(hf:f∈pJ){fd:FuncData}(e:sH w.params f=some fd)(c:sF (pI (KH w.params) 9) (bu f).dflt (BJ w.params fd)=true){W:Wd}{as:List V}{lv:Lv}{bS:List Value}(le:(pc w base mg mb).w0.Le W)(hbd:oi (bu f).params (bu f).dflt as=some lv)(ra:aN W as bS):
  ∃bs,Looks (pc w base mg mb).M base (bindArgs fd ⟨bS,[]⟩) bs∧jU W lv bs:=by
 obtain⟨⟨b1,b2⟩,rfl⟩:=IP hbd
 have h7:=bw (jg.mp Wh f hf)
 have el:=Wm ra
 rw[el] at b1 b2 ⊢
 have hm:(f,bS.length)∈prs:=List.mem_flatMap.mpr ⟨f,hf,bP.mpr ⟨(bu f).params.length - bS.length,fE.mpr (by lia),aa (Prod.mk f) (by lia)⟩⟩
 have hk:=jc (Wg w (bS[0]?.getD .none) (bS[1]?.getD .none) (bS[2]?.getD .none) (bS[3]?.getD .none) (bS[4]?.getD .none) (bS[5]?.getD .none) (bS[6]?.getD .none)) hm
 dsimp only at hk
 rw[e,show[bS[0]?.getD .none,bS[1]?.getD .none,bS[2]?.getD .none,bS[3]?.getD .none,bS[4]?.getD .none,bS[5]?.getD .none,bS[6]?.getD .none].take bS.length=bS from Wl (n:=7) (aH b1 h7)] at hk
 exact⟨_,Looks.of_peek X hk,Wn (Wq ra (Wr (aN.le (IC (ID (mg:=mg) (mb:=mb) X) c) le)))⟩
def Wv{f:dP}{fd:FuncData}(pn:(bu f).params.Nodup)(c:((bu f).params.all fun n=>loc? (fd.scope.names.lookup n.s))=true){as:List V}{lv:Lv}(hbd:oi (bu f).params (bu f).dflt as=some lv):(lv.map (·.1)).Nodup∧∀n∈lv.map (·.1),fd.scope.names.lookup n.s=some .local∨fd.scope.names.lookup n.s=some .cell:=by
 obtain⟨_,rfl⟩:=IP hbd
 refine⟨pn.sublist Wj,fun n hn=>?_⟩
 obtain⟨q,hq,rfl⟩:=bP.mp hn
 have:=jg.mp c q.1 (List.of_mem_zip hq).1
 cases el:fd.scope.names.lookup q.1.s with
 |none=>rw[el] at this;exact ft this
 |some k=>rw[el] at this;cases k <;> first | exact .inl rfl | exact .inr rfl | exact ft this
def IS{o:Obj}{fd:FuncData}(h:sG o=some fd):o.data = .func fd:=by
 unfold sG at h
 cases e:o.data with
 |func fd'=>rw[e] at h;cases h;rfl
 |_=>rw[e] at h;exact nn h
def Ww(hb:∀b o,(Hd.hp w.params).get? b=some o→base.get? b=some o){f:dP}(hf:f∈pJ){fd:FuncData}{o:Obj}(e1:(KH w.params).lookup (fnOf f)=some o)(e2:sG o=some fd)(h1:fd.body = .stmts (dj (bu f).body (uS f)).1)(h2:IL w.params f fd=true):tQ (pc w base mg mb) f (fnOf f) o fd (uS f) where
 obj:=yh hb _ _ e1
 data:=IS e2
 zO:=h1
 kL:=List.isEmpty_iff.mp (kj h2 0)
 code:=IQ hb (kj h2 9)
 co:=(Bool.not_eq_true' _).mp (kj h2 1)
 gen:=(Bool.not_eq_true' _).mp (kj h2 2)
 kind:=eq_of_beq (kj h2 3:(fd.scope.kind == .function)=true)
 glob:=cH (kj h2 4)
 blt:=cH (kj h2 5)
 names:=IM (f:=lc) ((aa nd gh).trans (kj h2 6))
 v8:=fun x h=>nomatch jg.mp (kj h2 7:(fd.scope.names.all fun q => !(q.2 == .free))=true) _ (lookup_mem h)
 ok:=kj h2 8
 bind:=fun _ _ _ _ le hbd ra=>Wu (yh hb) hf (Option.bind_eq_some_iff.mpr ⟨o,e1,e2⟩) (kj h2 12) le hbd ra
 params:=fun _ _ hbd=>Wv (IM (f:=id) ((aa nd (List.map_id _)).trans (kj h2 10))) (kj h2 11) hbd
def Wx(hb:∀b o,(Hd.hp w.params).get? b=some o→base.get? b=some o):tR (pc w base mg mb):=⟨fun f=>Wi.imp id fun hf=>by
 have h1:=jc (We w) hf
 have h2:=jg.mp (Wf w) f hf
 cases e:sH w.params f with
 |none=>rw[e] at h1;exact nn h1
 |some fd=>
  rw[e] at h1 h2
  obtain⟨o,e1,e2⟩:=Option.bind_eq_some_iff.mp e
  exact⟨o,fd,uS f,Ww hb hf e1 e2 (aT h1) h2⟩⟩
end
noncomputable def fI:Addr:=36
section
variable(w:World)
def Wy:(exs.map fun x=>exs.map fun y=>exmOne (KH w.params) (.ref (excOf x)) (.ref (excOf y)))=exs.map fun x=>exs.map fun y=>some (decide (x=y)):=by kernel_rfl
def Wz(v:Value):exs.map (fun x=>peek (KH w.params) ⟨Hd.pw,w.params⟩ (checkBuiltinCall "ValueError.__new__" ⟨[.ref (excOf x),v],[]⟩))=exs.map fun _=>some ():=by kernel_rfl
def WA:exs.map (fun x=>findIn (KH w.params) (.ref (excOf x)) "__init__")=exs.map fun _=>some (some (.ref fI)):=by kernel_rfl
def WB:exs.map (fun x=>(findIn (KH w.params) (.ref (excOf x)) "__setattr__",findIn (KH w.params) (.ref (excOf x)) (aS "reason"),specialIn (KH w.params) (.ref (excOf x)) "__call__",instIn (KH w.params) (.ref (excOf x)) (.type "type"),keepIn (KH w.params) (.ref (excOf x)))) =
  exs.map fun _=>(some (some (.builtin "object.__setattr__")),some none,some (some (.builtin "type.__call__")),some true,true):=by kernel_rfl
def yj (P:Params):FuncData:=(sG Hd.BD).getD {name:=aS "",qualname:=aS "",params:=⟨[],[],none,[],[],none,[]⟩,body := .stmts [],scope:=default,globals:=0,closure:=[],defaults := .none,kwdefaults := .none}
def WC:sG Hd.BD=some (yj w.params):=by kernel_rfl
def WD(e v:Value):peek (KH w.params) ⟨Hd.pw,w.params⟩ (bindArgs (yj w.params) ⟨[e,v],[]⟩)=some [(aS "self",e),(aS "reason",v)]:=by kernel_rfl
def WE:typeIn (KH w.params) (.ref fI)=some (.type "function"):=by kernel_rfl
def WG:nsFind (m8 w.params) (aS "ValueError")=none:=by kernel_rfl
def WH:nsIn (KH w.params) cStatics "thirdparty.any"=some none:=by kernel_rfl
def WI:∃q1 q2 q3 q4 q5 q6 q7 q8 q9 tT:Pos,(q2.endLine==q5.line)=true∧(yj w.params).body = .stmts [
  .Expr (.Call (.Attribute (.Name (aS "ValueError") q1) (aS "__init__") q2) [.Name (aS "self") q3,.Name (aS "reason") q4] [] q5) q6,
  .Assign [.Attribute (.Name (aS "self") q7) (aS "reason") q8] (.Name (aS "reason") q9) tT]:=by
 refine⟨_,_,_,_,_,_,_,_,_,_,?_,rfl⟩
 kernel_rfl
end
def sJ(x:Ex):x∈exs:=by cases x <;> decide
section
variable{w:World}{base:Heap}{mg mb:QN}{R:WRecords}{XP:QN→Heap→Prop}{s₀:Shared}{loose:List Str}
def WJ(G:Ground Hd.qv loose R XP w s₀ mg mb base)(hb:∀b o,(Hd.hp w.params).get? b=some o→base.get? b=some o):jZ (pc w base mg mb):=by
 have X:=yh hb
 have M:=IE G.T.g X
 have F:=fun x=>jc (WB w) (sJ x)
 exact{
  ER:=fun x y=>jc (jc (Wy w) (sJ x)) (sJ y)
  cn:=fun x v=>Looks.of_peek X (jc (Wz w v) (sJ x))
  tW:=fun x=>⟨(M _).trans (jc (VW w) (sJ x)),by cases x <;> kernel_rfl⟩
  made:=⟨fI,Hd.BD,yj w.params,{
   obj:=X _ _ (by kernel_rfl)
   data:=IS (WC w)
   body:=WI w
   kL:=by kernel_rfl
   code:=IQ hb (by kernel_rfl)
   co:=by kernel_rfl
   gen:=by kernel_rfl
   kind:=by kernel_rfl
   glob:=by kernel_rfl
   blt:=by kernel_rfl
   tU:=by kernel_rfl
   tV:=by kernel_rfl
   EN:=by kernel_rfl
   bind:=fun e v=>Looks.of_peek X (WD w e v)
   typ:=WE w
   EO:=(M _).trans (WG w)
   OL:=WH w},fun x=>jc (WA w) (sJ x)⟩
  obj:=fun x=>by
   cases x with
   |lI=>exact⟨_,_,_,_,_,_,_,_,_,_,_,_,_,_,_,X 52 Hd.Ih (by kernel_rfl)⟩
   |noRoom=>exact⟨_,_,_,_,_,_,_,_,_,_,_,_,_,_,_,X 64 Hd.Ii (by kernel_rfl)⟩
   |cU=>exact⟨_,_,_,_,_,_,_,_,_,_,_,_,_,_,_,X 76 Hd.Ij (by kernel_rfl)⟩
   |stuck=>exact⟨_,_,_,_,_,_,_,_,_,_,_,_,_,_,_,X 88 Hd.Ik (by kernel_rfl)⟩
  fits:=fun x=>⟨aa Prod.fst (F x),aa (fun q=>q.2.1) (F x),aa (fun q=>q.2.2.1) (F x),aa (fun q=>q.2.2.2.1) (F x),aa (fun q=>q.2.2.2.2) (F x)⟩}
end
section
variable{w:World}{base:Heap}{mg mb:QN}{P:Params}
def WK:∀{ds:List WData} {vs:List Value},WShape.hasItems [] ds .int=true→WellAll P base vs ds→∃xs:List Int,xs.length=ds.length∧aN (pc w base mg mb).w0 (xs.map V.int) vs:=by
 intro ds
 induction ds with
 |nil=>exact fun _ h=>by cases h;exact⟨[],rfl,rfl⟩
 |cons d r ih=>
  intro vs h1 h
  cases h with
  |cons a b=>
   obtain⟨i,rfl⟩:=hasW_int (hasItemsW_at h1 d (eF ..))
   obtain⟨xs,e,h3⟩:=ih (by simpa[WShape.hasItems,hasItemsW_at h1 _ (eF ..)] using h1) b
   cases a with
   |int i t=>exact⟨i::xs,aa Nat.succ e,_,_,rfl,⟨t,rfl⟩,h3⟩
def WL{ds:List WData}(h:WTm.holds [] (OpenLaw.pre PySem.Challenge.rw_up0079_03) {args:=[.list ds]}=true):ds.length≤63:=by
 refine kE fun z=>?_
 have e:decide ((63:Int)<(ds.length:Int))=true:=fF (by lia)
 have e2:WTm.holds [] (OpenLaw.pre PySem.Challenge.rw_up0079_03) {args:=[.list ds]} = !decide ((63:Int)<(ds.length:Int)):=by
  refine(?_:(match (match (some (WData.bool (!decide ((63:Int)<(ds.length:Int))))) with
   |some (.bool false)=>some (WData.bool false)
   |some (.bool true)=>some (.bool true)
   |_=>none) with
   |some (WData.bool true)=>true
   |_=>false)=_)
  rw[e];rfl
 rw[e2,e] at h
 exact ft h
end
def walk(hk:∀xs:List Int,∃σ,wF (ah 10) 99 [.fl (xs.map .int)] σ (fun r _=>r = .bool true) bV)(d:DefRec)(hd:d.name=PySem.Str.ofString "law"):EZ (fun w=>Hd.hp w.params) Hd.qv Hd.loose (fun _ _=>True) (OpenLaw.row PySem.Challenge.rw_up0079_03).toRowW d:=by
 intro w s₀ s₁ mg mb G hb a ha hg args vals as hpre hlay hR hW _
 have P:=Wa G hb
 obtain⟨x1,x2⟩:=pre_splitW hpre
 obtain⟨d1,r1,rfl,h1,h2⟩:=hasAllW_cons x1
 obtain rfl:=hasAllW_nil h2
 obtain⟨ds,rfl,h3⟩:=hasW_list h1
 have hl:=WL x2
 have ea:a=fnOf 99:=by
  have:=(P.ve 99 (by kernel_rfl)).1
  rw[hd] at ha
  rw[show fname 99=PySem.Str.ofString "law" by kernel_rfl] at this
  have:=aT (ha.symm.trans this)
  injection this
 subst ea
 cases hW with
 |cons b c=>
  cases c
  cases b with
  |@list b vs xs hbv wv=>
   obtain⟨xs,ex,hv⟩:=WK (w:=w) (mg:=mg) (mb:=mb) h3 wv
   obtain⟨σ,hσ⟩:=hk xs
   have ra:aN (pc w s₁.heap mg mb).w0 [.fl (xs.map .int)] [.ref b]:=⟨_,[],rfl,⟨b,vs,rfl,⟨0,aa (Option.map Role.pin) hbv⟩,by rw[bJ,ex];exact aH hl (by decide),hv⟩,rfl⟩
   refine bF (O8 (p:=pc w s₁.heap mg mb) (d:=10) P (WJ G hb) (Wx hb) (fid:=99) (fun e=>eE (aa isBad e)) (by decide) rfl ra hσ) (fun v s' h=>?_) fun _ _ x=>x
   obtain⟨rfl,kp,g,os⟩:=h
   have g':s'.gens=#[]:=g.trans hg
   exact⟨⟨.inl ⟨.bool true,.bool true,[],rfl,fun _=>rfl,.bool true,by kernel_rfl,fun _=>⟨List.nodup_nil,(fun _ h=>absurd h fN)⟩⟩,.of_keep kp,os,by rw[g'];exact AllBare.of_eq rfl⟩,g'⟩
namespace Hd
open PySem.W
noncomputable def sM:Shared→Bool:=fun _=>true
def WM:∀w:World,((boot_heap w.params).isNs mainGlobals&&g0.size==0,(boot_heap w.params).objs.size,(boot_heap w.params).nsMap mainGlobals "__annotations__")=(true,m0,ann):=by
 intro w;kernel_rfl
def l1:∀w:World,(fun os=>(staticsOk (importedModules pw.main.body) (boot_heap w.params) (hp w.params)&&namesBound pw (hp w.params)&&gensDone ⟨hp w.params,g0,boot_drawn,1410,os⟩&&laidKept (boot_heap w.params) (hp w.params)))=fun(os:OsState)=>true:=by
 intro w;kernel_rfl
def l2:∀w:World,(fun os=>openSeen qv loose (importedModules pw.main.body) sM true ⟨hp w.params,g0,boot_drawn,1410,os⟩)=fun(os:OsState)=>openGood qv loose:=by
 rw[Fast.te4187177175401517315]
 intro w;kernel_rfl
def WO:OpenLaw.wellSaid PySem.Challenge.rw_up0079_03=true:=by
 rw[Fast.te9446332074065402090]
 kernel_rfl
def open_:∀w:World,(fencedOpening treeTable pw w 13000).map (fun s=>(s.heap,s.gens,s.drawn,s.toks))=some (boot_heap w.params,g0,boot_drawn,boot_toks):=
 boot_open (by kernel_rfl) (by kernel_rfl) (fun s=>by kernel_rfl)
def triple{α β γ:Type}{a a':α}{b b':β}{c:γ}(x:a=a')(y:b=b'):(a,b,c)=(a',b',c):=by rw[x,y]
def WQ(w:World):(fun os=>((staticsOk (importedModules pw.main.body) (boot_heap w.params) (hp w.params)&&namesBound pw (hp w.params)&&gensDone ⟨hp w.params,g0,boot_drawn,1410,os⟩&&laidKept (boot_heap w.params) (hp w.params)),
    openSeen qv loose (importedModules pw.main.body) sM true ⟨hp w.params,g0,boot_drawn,1410,os⟩,hp w.params))=fun(os:OsState)=>(true,openGood qv loose,hp w.params):=
 funext fun os=>triple (iG (l1 w) os) (iG (l2 w) os)
def WR{M:Nat}(run:∀(w:World) (os:OsState),topRun treeTable pw w m0 ann M ⟨boot_heap w.params,g0,boot_drawn,boot_toks,os⟩ (topStub pw) =
  some ⟨hp w.params,g0,boot_drawn,1410,os⟩) (hM:Nat.ble M 13000=true):LeftO pw qv loose sM (fun s=>s.heap) (fun w=>hp w.params) 13000:=
 LeftO.of_pieces (p:=pw) (q:=qv) (loose:=loose) (Xt:=sM) (Yf:=fun s=>s.heap) (Ya:=fun w=>hp w.params) (g0:=true) (H₀:=boot_heap) (H₁:=hp) (gs₀:=g0) (gs₁:=g0) (d₀:=boot_drawn) (d₁:=boot_drawn) (k₀:=boot_toks) (k₁:=1410) (m₀:=m0) (ann:=ann) open_ WM run hM WQ
def WS(w:World)(os:OsState):(sh (qP w.params) 882 1410 os).abs=⟨hp w.params,g0,boot_drawn,1410,os⟩:=by kernel_rfl
def WT:LeftO pw qv loose sM (fun s=>s.heap) (fun w=>hp w.params) 13000:=WR (fun w os=>(VJ w os).trans (aa some (WS w os))) (by decide +kernel)
end Hd
def holds_of(hk:∀xs:List Int,∃σ,wF (ah 10) 99 [.fl (xs.map .int)] σ (fun r _=>r = .bool true) bV):PySem.Challenge.rw_up0079_03.Holds:=by
 refine holds_law Hd.WO fun said=>?_
 refine O7 (Hf:=fun w=>Hd.hp w.params) (q:=Hd.qv) (loose:=Hd.loose) (Xt:=Hd.sM) (XP:=fun _ _=>True) (N:=13000) Hd.WT (fun _ _=>trivial) (fun _ _ _ _ _=>trivial) (by rfl) (by rfl) (by rfl) (fun s e=>?_) (by rfl) said (by decide +kernel) ⟨rfl,rfl,rfl,rfl,rfl,by decide +kernel⟩ ?hw (walk hk _ rfl)
 case hw=>w_witness2
 exact recFacts_of (by rfl)
end Mine.Internal
end
open PySem PySem.W PyProof.Rows
theorem PySem.Challenge.cw_up0079_03_holds : PySem.Challenge.rw_up0079_03.Holds :=
  Mine.Internal.holds_of fun xs => ⟨Mine.Internal.σ0, Mine.Internal.kLaw (d := 0) xs fun _ => rfl⟩
