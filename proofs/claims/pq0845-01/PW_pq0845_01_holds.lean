import PyProof.Rows.All
import Wide.All
import OpenK.AllK
import Wide.FinOn
import PySem.Challenge.RW_pq0845_01
set_option Elab.async false
set_option linter.all false
set_option compiler.extract_closed false
set_option tactic.hygienic false
set_option bootstrap.genMatcherCode false
set_option genInjectivity false
set_option genSizeOf false
set_option maxRecDepth 100000
noncomputable section
open PySem PySem.W PyProof.Rows PySem.SeqAt
namespace Mine
theorem H {α:Sort u} {a:α}:a=a:=rfl
local macro_rules
 | `(abbrev $i:declId $s:optDeclSig $v:declVal)=> `(noncomputable def $i:declId $s:optDeclSig $v:declVal)
local macro_rules
 | `(~~~0)=> `(Value→Shared→Prop)
local macro_rules
 | `(⇑$x)=> `(.az (.str $x))
local macro_rules
 | `(⇑$s:str)=> `(⟨#[$((s.getString.toList.map λc=>Lean.Syntax.mkNumLit (toString c.toNat)).toArray),*]⟩)
local macro_rules
 | `(↥$x)=> `(.az (.int $x))
local macro_rules
 | `(↑$x)=> `(List $x)
local macro_rules
 | `(↑$x:num)=> `(.var $x)
local macro_rules
 | `({$x:term})=> `(.cons $x .nil)
 | `({$x:term,$xs:term,*})=> `(.cons $x {$xs:term,*})
local macro_rules
 | `(∅)=> `(by decide)
local macro_rules
 | `(⋯)=> `(by decide+kernel)
abbrev s5:=@List.getElem?_append_right
abbrev EJ:=@Calls.Name_function_global
abbrev jo:=@List.getElem?_eq_some_iff
abbrev lT:=@List.getElem?_append_left
abbrev Jn:=@List.drop_eq_getElem_cons
abbrev fE:=@List.getElem?_eq_getElem
abbrev xW:=@List.length_eq_zero_iff
abbrev AG:=@Int.eq_ofNat_of_zero_le
abbrev lv:=@Heap.get?_push_of_some
abbrev u5:=@List.getElem?_set_self
abbrev rj:=@List.take_of_length_le
abbrev v7:=@Nat.le_of_succ_le_succ
abbrev v8:=@Calls.callWith_builtin
abbrev aP:=@Nat.le_of_ble_eq_true
abbrev bl:=@List.mem_append_right
abbrev rk:=@List.singleton_append
abbrev abO:=@List.length_replicate
abbrev rm:=@List.getElem?_eq_none
abbrev v9:=@List.length_replicate
abbrev oj:=@Heap.get?_update_self
abbrev aW:=@List.mem_append_left
abbrev bY:=@List.mem_cons_of_mem
abbrev fJ:=@List.mem_of_getElem?
abbrev kE:=@List.getElem?_set_ne
abbrev Ab:=@Nat.add_le_add_right
abbrev rn:=@Heap.get?_none_of_le
abbrev Ac:=@Bool.and_eq_true_iff
abbrev uc:=@Calls.evalArgs_plain
abbrev wa:=@Nat.not_succ_le_zero
abbrev gN:=@Heap.get?_push_size
abbrev jS:=@beq_eq_false_iff_ne
abbrev ol:=@Nat.mul_le_mul_left
abbrev kF:=@Nat.add_le_add_left
abbrev lU:=@List.filterMap_cons
abbrev rq:=@List.length_reverse
abbrev bK:=@List.mem_singleton
abbrev bZ:=@List.mem_cons_self
abbrev cg:=@List.length_append
abbrev gA:=@Bool.false_ne_true
abbrev rx:=@Nat.pos_of_ne_zero
abbrev kG:=@Int.natCast_nonneg
abbrev ry:=@Nat.lt_of_lt_of_le
abbrev li:=@Nat.lt_of_le_of_lt
abbrev ud:=@List.zip_cons_cons
abbrev rz:=@Calls.spliced_cons
abbrev ue:=@List.filterMap_map
abbrev wb:=@Nat.sub_add_cancel
abbrev aX:=@List.append_assoc
abbrev dN:=@List.size_toArray
abbrev gf:=@of_decide_eq_true
abbrev fm:=@List.nodup_append
abbrev iz:=@wpAny_loadPart_at
abbrev lj:=@List.getElem?_map
abbrev lk:=@decide_eq_true_eq
abbrev rA:=@List.map_inj_left
abbrev rB:=@Int.toNat_natCast
abbrev wc:=@Nat.le_succ_of_le
abbrev wd:=@Calls.spliced_nil
abbrev c9:=@Bool.and_eq_true
abbrev eI:=@List.all_eq_true
abbrev fX:=@List.not_mem_nil
abbrev gO:=@List.length_cons
abbrev ie:=@List.lookup_cons
abbrev mY:=@Nat.le_add_right
abbrev lV:=@Nat.le_max_right
abbrev bL:=@Bool.noConfusion
abbrev gB:=@Data.noConfusion
abbrev pF:=@List.range'_succ
abbrev rC:=@List.cons_append
abbrev rD:=@List.getElem_mem
abbrev uf:=@List.filter_cons
abbrev we:=@Nat.succ_le_succ
abbrev bd:=@List.mem_append
abbrev bb:=@Option.some.inj
abbrev b6:=@List.append_nil
abbrev fb:=@List.length_map
abbrev fK:=@List.map_append
abbrev fU:=@Nat.le_max_left
abbrev jp:=@Nat.le_add_left
abbrev wf:=@Bool.or_eq_true
abbrev gP:=@List.nodup_cons
abbrev pG:=@List.nil_append
abbrev lW:=@List.length_nil
abbrev pH:=@List.mem_filter
abbrev wg:=@List.foldl_cons
abbrev jT:=@Nat.add_le_add
abbrev di:=@Option.casesOn
abbrev cM:=@List.mem_cons
abbrev dA:=@wpAny_holding
abbrev ef:=@List.map_cons
abbrev fL:=@wpAny_standAt
abbrev jq:=@List.cons.inj
abbrev om:=@List.all_cons
abbrev aM:=@Nat.le_trans
abbrev fq:=@List.mem_map
abbrev ug:=@Nat.succ.inj
abbrev ar:=@Bool.casesOn
abbrev bu:=@List.casesOn
abbrev ng:=@Expr.casesOn
abbrev nh:=@Int.ofNat_le
abbrev ni:=@Nat.ne_of_lt
abbrev oO:=@Nat.lt_or_ge
abbrev kT:=@Heap.lt_size
abbrev cF:=@Nat.le_refl
abbrev dK:=@Nat.zero_le
abbrev gi:=@Nat.casesOn
abbrev j0:=@Prod.mk.inj
abbrev aj:=@wpAny_bind
abbrev aB:=@wpAny_pure
abbrev bv:=@wpAny_mono
abbrev j1:=@Int.not_lt
abbrev dz:=@eq_of_beq
abbrev aC:=@congrArg
abbrev al:=@absurd
abbrev ao:=@if_pos
abbrev aN:=@if_neg
set_option backward.match.sparseCases true
variable {m n:Nat}
theorem ge {b a:Nat} (h:a+b≤n) (e:Nat.ble m b=true):∃k,n=k+m:=Nat.exists_eq_add_of_le' (aM (aP e) (aM (jp b a) h))
variable {a1 b1 b2 b3 b4:Nat}
@[elab_as_elim] theorem ae {α:Sort u} {a b:α} {P:α→Prop} (h:a=b) (x:P b):P a:=h▸x
@[elab_as_elim] theorem dg {α:Sort u} {a b:α} {P:α→Prop} (h:a=b) (x:P a):P b:=h▸x
section
variable {a b a2 a3 a4 c d:Nat}
theorem eL (h:a=b):a≤b:=Nat.le_of_eq h
theorem eG (h:a=b):b≤a:=Nat.le_of_eq h.symm
theorem ml (k:Nat) (h:a≤b):k*a≤k*b:=ol k h
theorem av (h:a≤b) (e:c+b≤d+a:=by simp+arith only):c≤d:=by lia
theorem aS (h:a≤b) (h1:a1≤b1) (e:c+(b+b1)≤d+(a+a1):=by simp+arith only):c≤d:=av (jT h h1) e
theorem fY (h:a≤b) (h1:a1≤b1) (h2:a2≤b2) (e:c+(b+(b1+b2))≤d+(a+(a1+a2)):=by simp+arith only):c≤d:=aS h (jT h1 h2) e
theorem Me (h:a≤b) (h1:a1≤b1) (h2:a2≤b2) (h3:a3≤b3) (e:c+(b+(b1+(b2+b3)))≤d+(a+(a1+(a2+a3))):=by simp+arith only):c≤d:=fY h h1 (jT h2 h3) e
theorem GO (h:a≤b) (h1:a1≤b1) (h2:a2≤b2) (h3:a3≤b3) (h4:a4≤b4) (e:c+(b+(b1+(b2+(b3+b4))))≤d+(a+(a1+(a2+(a3+a4)))):=by simp+arith only):c≤d:=Me h h1 h2 (jT h3 h4) e
end
variable {i:Nat}
theorem Qu (h:i<n):n -i=n -(i+1)+1:=by rw [Nat.sub_add_eq,wb (Nat.sub_pos_of_lt h)]
theorem XC (h:i<n):n+1 -(i+1)<n+1 -i:=Nat.sub_lt_sub_left (Nat.lt_succ_of_lt h) (Nat.lt_succ_self i)
theorem u6 {a b c:Nat} (h:a≤c) (h2:b≤c):max a b≤c:=Nat.max_le.mpr ⟨h,h2⟩
theorem u7 {a b c:Nat} (h:a≤c):a≤max b c:=aM h (lV b c)
theorem mxL {a b c:Nat} (h:a≤b):a≤max b c:=aM h (fU b c)
theorem wh {a b:Nat} (h:a≤b):a≤1+b:=aM h (jp b 1)
theorem wi {a b:Nat} (h:a≤b):1+a≤b+1:=aM (kF h 1) (Nat.le_of_eq (Nat.add_comm 1 b))
theorem GP {a M c d:Nat} (q:a≤M) (hn:3*M+d≤n) (h:Nat.ble c d=true):3*a+c≤n:=aM (jT (ol 3 q) (aP h)) hn
theorem CC {a b c:Nat} (h:a≤b) (q:Nat.ble b c=true):a≤c:=aM h (aP q)
inductive g9 {wj wk:Type} (P:wj→wk→Prop):Prop
 |mk (x0:wj) (x1:wk):P x0 x1→g9 P
inductive s6 {wj wk AH:Type} (P:wj→wk→AH→Prop):Prop
 |mk (x0:wj) (x1:wk) (x2:AH):P x0 x1 x2→s6 P
inductive Vf {wj wk AH GQ:Type} (P:wj→wk→AH→GQ→Prop):Prop
 |mk (x0:wj) (x1:wk) (x2:AH) (x3:GQ):P x0 x1 x2 x3→Vf P
inductive Vg {wj wk AH GQ Qv:Type} (P:wj→wk→AH→GQ→Qv→Prop):Prop
 |mk (x0:wj) (x1:wk) (x2:AH) (x3:GQ) (x4:Qv):P x0 x1 x2 x3 x4→Vg P
inductive XD {wj wk AH GQ Qv α5 α6 α7 α8 α9:Type} (P:wj→wk→AH→GQ→Qv→α5→α6→α7→α8→α9→Prop):Prop
 |mk (x0:wj) (x1:wk) (x2:AH) (x3:GQ) (x4:Qv) (x5:α5) (x6:α6) (x7:α7) (x8:α8) (x9:α9):P x0 x1 x2 x3 x4 x5 x6 x7 x8 x9→XD P
inductive qh (p0 p1 p2:Prop):Prop
 |mk:p0→p1→p2→qh p0 p1 p2
inductive CD (p0 p1 p2 p3:Prop):Prop
 |mk:p0→p1→p2→p3→CD p0 p1 p2 p3
inductive An5 (p0 p1 p2 p3 p4:Prop):Prop
 |mk:p0→p1→p2→p3→p4→An5 p0 p1 p2 p3 p4
inductive An6 (p0 p1 p2 p3 p4 p5:Prop):Prop
 |mk:p0→p1→p2→p3→p4→p5→An6 p0 p1 p2 p3 p4 p5
inductive An7 (p0 p1 p2 p3 p4 p5 p6:Prop):Prop
 |mk:p0→p1→p2→p3→p4→p5→p6→An7 p0 p1 p2 p3 p4 p5 p6
variable {α:Type}
theorem u8 {x:α} {P:Prop} (e:none=some x):P:=nomatch e
@[elab_as_elim] theorem sB {a b:α} {l:↑α} {P:α→Prop} (h:a∈b::l) (h1:P b) (h2:a∈l→P a):P a:=(cM.mp h).elim (λe=>e▸h1) h2
abbrev YI:Value:= .str "phpcore.faults" 187
abbrev rE (P:Params) (k:Str) (t:Tok) (v:Value):DictEntry:=⟨PyData.keyHash P k, .str k t,v⟩
abbrev gF (P:Params) (fd:FuncData):Frag:=[
 (15,{cls:= .type "tuple",data:= .seq #[.type "Exception"]}),
 (28,{cls:= .type "function",data:= .func fd}),
 (30,{cls:= .type "dict",data:= .dict #[rE P "__module__" 196 YI,rE P "__firstlineno__" 200 (.int 2 199),rE P "__init__" 208 (.ref 28),rE P "__static_attributes__" 210 (.ref 29),rE P "__weakref__" 212 (.ref 32),rE P "__doc__" 213 .none] 3}),
 (31,{cls:= .type "type",data:= .cls {name:="PhpFault",bases:=[.type "Exception"],mro:=[.ref 31, .type "Exception", .type "BaseException", .type "object"],ns:=30,qualname:="PhpFault",subclasses:=[.ref 44]},slots:=#[some (.ref 15),none,some (.str "PhpFault" 189),some (.str "PhpFault" 197),some (.builtin "Exception.__new__"),some (.bool true)]}),
 (35,{cls:= .type "tuple",data:= .seq #[.ref 31]}),
 (43,{cls:= .type "dict",data:= .dict #[rE P "__module__" 225 YI,rE P "__firstlineno__" 229 (.int 7 228),rE P "__static_attributes__" 230 (.ref 42),rE P "__doc__" 231 .none] 2}),
 (44,{cls:= .type "type",data:= .cls {name:="CompileFault",bases:=[.ref 31],mro:=[.ref 44, .ref 31, .type "Exception", .type "BaseException", .type "object"],ns:=43,qualname:="CompileFault"},slots:=#[some (.ref 35),none,some (.str "CompileFault" 218),some (.str "CompileFault" 226),some (.builtin "Exception.__new__"),some (.bool true)]})]
set_option backward.match.sparseCases false
set_option maxHeartbeats 0
noncomputable section
noncomputable abbrev pw:Program:=PySem.Challenge.pw_pq0845_01
noncomputable abbrev jg:OpenLaw:=PySem.Challenge.rw_pq0845_01
abbrev pmt:Value:= .str "phpcore.types" 234
abbrev pmv:Value:= .str "phpcore.values" 243
abbrev mv:Value:= .str "phpcore.treechecks" 254
abbrev i0:Value:= .str "law_pq0845_01" 504
abbrev CE:↑(Nat×Nat×Value):=[(4,53,pmt),(6,60,pmv),(8,67,mv),(9,74,mv),(10,81,mv),(11,88,mv),(12,95,mv),(13,102,mv),(14,109,mv),(15,116,mv),(16,123,mv),(17,130,mv),(18,137,mv),(19,144,mv),(20,151,mv),(21,158,mv),(22,165,mv),(23,172,mv),(24,179,mv),(25,186,mv),(26,193,mv),(27,200,mv),(28,207,mv),(29,214,mv),(30,221,mv),(31,226,mv),(32,233,mv),(33,240,mv),(34,247,mv),(35,254,mv),(37,261,i0),(38,268,i0),(39,275,i0),(40,282,i0),(41,289,i0),(42,296,i0),(43,303,i0),(44,310,i0),(45,317,i0),(46,322,i0),(47,329,i0),(48,336,i0),(49,343,i0),(50,350,i0),(51,357,i0),(52,364,i0),(53,371,i0),(54,378,i0),(55,385,i0),(56,392,i0),(57,399,i0),(58,404,i0),(59,411,i0),(60,418,i0),(61,425,i0),(62,430,i0),(63,435,i0),(64,440,i0),(65,447,i0),(66,454,i0),(67,461,i0),(68,468,i0),(69,473,i0),(70,478,i0),(71,483,i0),(72,488,i0),(73,493,i0),(74,500,i0),(75,507,i0),(76,514,i0),(77,521,i0),(78,528,i0)]
abbrev YJ:↑(String×Nat):=[("type_text",53),("lower",60),("part_rules",67),("rule_of",74),("is_pair",81),("entry_rule",88),("put_parts",95),("children",102),("new_scope",109),("is_this",116),("check_target",123),("check_jump",130),("check_return",137),("check_param",144),("check_generator",151),("check_uses",158),("check_func",165),("check_within",172),("check_try",179),("check_names",186),("takes_refs",193),("check_list",200),("check_targets",207),("is_cut_short",214),("check_made",221),("check_switch",226),("check_class",233),("check_node",240),("check_all",247),("check_script",254),("_law_told",261),("_law_draw",268),("_law_func",275),("_law_param",282),("_law_class",289),("_law_x",296),("_law_around",303),("_law_returns",310),("_law_params",317),("_law_uses",322),("_law_kept",329),("_law_names",336),("_law_write",343),("_law_refs",350),("_law_switch",357),("_law_yields",364),("_law_generator",371),("_law_expr",378),("_law_made",385),("_law_statement",392),("_law_inside",399),("_law_built",404),("_law_around_of",411),("_law_opened",418),("_law_kinds",425),("_law_nodes",430),("_law_has_this",435),("_law_has_ref",440),("_law_jumped",447),("_law_returned",454),("_law_is_short",461),("_law_named",468),("_law_here",473),("_law_typed",478),("_law_param_of",483),("_law_function",488),("_law_used",493),("_law_tried",500),("_law_of",507),("_law_all",514),("_law_refused",521),("law",528),("PhpFault",31),("CompileFault",44)]
abbrev YK:↑String:=["len","range","isinstance","tuple","str","chr","ord","dict","reversed","enumerate","sum","Exception"]
abbrev s7:↑(Str×Option Value):=(Str.ofString "__name__",some (Value.str (Str.ofString "law_pq0845_01") 504))::(YJ.map λx=>(Str.ofString x.1,some (Value.ref x.2)))++YK.map λx=>(Str.ofString x,none)
abbrev Vh:↑String:=["PhpFault","CompileFault","type_text","lower","part_rules","rule_of","is_pair","entry_rule","put_parts","children","new_scope","is_this","check_target","check_jump","check_return","check_param","check_generator","check_uses","check_func","check_within","check_try","check_names","takes_refs","check_list","check_targets","is_cut_short","check_made","check_switch","check_class","check_node","check_all","check_script","_law_told","_law_draw","_law_func","_law_param","_law_class","_law_x","_law_around","_law_returns","_law_params","_law_uses","_law_kept","_law_names","_law_write","_law_refs","_law_switch","_law_yields","_law_generator","_law_expr","_law_made","_law_statement","_law_inside","_law_built","_law_around_of","_law_opened","_law_kinds","_law_nodes","_law_has_this","_law_has_ref","_law_jumped","_law_returned","_law_is_short","_law_named","_law_here","_law_typed","_law_param_of","_law_function","_law_used","_law_tried","_law_of","_law_all","_law_refused"]
abbrev loose:↑Str:=Vh.map Str.ofString
abbrev zh (i:Nat):Stmt:=(pw.main.body[i]?).getD (.Pass ⟨0,0,0,0⟩)
abbrev Qw (a:Nat) (pm:Value):Stmt→Obj
 | .FunctionDef name args body _ _ _ scope _ _ _=>{cls:= .type "function",data:= .func (Calls.docDef name args body scope pm (.ref (a -1)) .none)}
 |_=>{cls:= .none}
abbrev EK (i a:Nat) (pm:Value):Obj:=Qw a pm (zh i)
abbrev sNm:Stmt→Str
 | .FunctionDef name _ _ _ _ _ _ _ _ _=>name
 |_=>Str.empty
abbrev EL (i:Nat):Str:=sNm (zh i)
abbrev xX (h:Heap) (c:Addr):Option Str:=match h.get? c with
 |some ⟨_,_, .fields vs,_⟩=>match vs[1]?with
  |some (Value.str q _)=>some q
  |_=>none
 |_=>none
abbrev Ad:FuncData:=match zh 1 with
 | .ClassDef _ _ _ [.FunctionDef name args body _ _ _ scope _ _ _] _ _ _ _ _ _ _=>{Calls.docDef name args body scope YI (.ref 27) .none with qualname:="PhpFault.__init__"}
 |_=>default
abbrev qv:Program:={pw with main:={pw.main with body:=[zh 78]}}
abbrev Vi (s:Shared):Bool×↑(Option Value)×↑(Option Obj)×↑(Option Obj)×↑(Option Str):=
 (s.heap.isNs mainGlobals&&(s.heap.get? sysModules).isSome,s7.map λx=>s.heap.nsMap mainGlobals x.1,[15,28,30,31,35,43,44].map s.heap.get?,CE.map λx=>s.heap.get? x.2.1,(27::CE.map λx=>x.2.1 -1).map (xX s.heap))
abbrev val (w:World):Bool×↑(Option Value)×↑(Option Obj)×↑(Option Obj)×↑(Option Str):=
 (true,s7.map (·.2),(gF w.params Ad).map λp=>some p.2,CE.map λx=>some (EK x.1 x.2.1 x.2.2),some (Str.ofString "PhpFault.__init__")::CE.map λx=>some (EL x.1))
abbrev Xt:Shared→Bool:=λs=>xlAt qv [] s&&recOk (RowW.records jg.row.toRowW) s
theorem aaM (w:World) (os:OsState):(topFrom treeTable pw w 3000 ⟨boot_heap w.params,#[],boot_drawn,boot_toks,os⟩).map (λs=>(openSeen qv loose (importedModules pw.main.body) Xt true s,Vi s))=some (openGood qv loose,val w):=by
 rw [PySem.W.Fast.te14364793385576792824,PySem.W.Fast.te4187177175401517315]
 unfold topFrom topStub
 rw [PySem.W.Fast.te14082659384304107361]
 kernel_rfl
theorem YL:LeftO pw qv loose Xt Vi val 3000:=λw=>by
 obtain ⟨XE,h1,h2⟩:=Option.map_eq_some_iff.mp (boot_open (p:=pw) (N:=3000) (by rfl) (by rfl) (λO=>rfl) w)
 obtain ⟨h,g,d,t,os⟩:=XE
 obtain ⟨rfl,h2⟩:=j0 h2
 obtain ⟨rfl,h2⟩:=j0 h2
 obtain ⟨rfl,rfl⟩:=j0 h2
 unfold openEnds
 rw [h1,Option.bind_some]
 exact aaM w os
end
set_option backward.match.sparseCases true
set_option maxHeartbeats 0
namespace Ws
theorem l1:sreFenced pw.main=true:=by kernel_rfl
theorem l2:((moduleNames pw.main.body).isEmpty||lookedIntoSs (moduleNames pw.main.body) pw.main.body)=true:=by kernel_rfl
theorem l3:namesResolve pw=true:=by kernel_rfl
theorem l4:pw.boundNames.all (λn=>!worldNames.contains n)=true:=by kernel_rfl
theorem l5:noRoadLSs {strict:=!(importedModules pw.main.body).all cThrough.contains,foot:=none,bare:=(["vars","dir","locals"]:↑Str).filter (readsOut pw pw.main.body)} pw.main.body=true:=by kernel_rfl
theorem l6:(namesMeet pw pw.main.body λO n=>attrL n)=true:=by kernel_rfl
theorem l7:jg.row.toRowW.solid=true:=by kernel_rfl
theorem YM:looksOpen pw=true:=look_both (look_both (look_both (look_both (look_both l1 l2) l3) l4) l5) l6
theorem a1a:jg.row.partSaid=true:=by
 unfold OpenRow.partSaid
 repeat' (with_reducible refine look_both ?_ ?_)
 ·exact YM
 rotate_right 7
 ·exact l7
 all_goals rfl
theorem a1b:jg.row.prog.boundNames.contains jg.row.name=true:=by kernel_rfl
theorem a1c:(!startupNames.contains jg.row.name)=true:=by kernel_rfl
theorem a2:decide (jg.foot≤(behindTheImports jg.prog).length)=true:=by kernel_rfl
theorem a3:jg.footing.all footLine=true:=by kernel_rfl
theorem a4:noClassBlock jg.prog jg.footing=true:=by kernel_rfl
theorem a5:noRoadLSs {strict:=true,foot:=some jg.bound',writes:=jg.writes,may:=jg.may} jg.footing=true:=by kernel_rfl
theorem a6:defStands jg.about jg.above=true:=by kernel_rfl
theorem a7:jg.namesIt=true:=by kernel_rfl
theorem a8:jg.bound'.all (λn=>!builtinNamed n||jg.about==[n]||!jg.reads n)=true:=by kernel_rfl
theorem a9:((jg.prog.main.body.flatMap importedNames).all λn=>!jg.reads n||(drawsOf n jg.prog.main.body).all λmn=>mn.2 !=("attrgetter":Str)&&mn.2 !=("methodcaller":Str))=true:=by kernel_rfl
theorem a10:(namesMeet jg.prog jg.footing (λsc n=>(!(["type","isinstance","issubclass","getattr","hasattr"]:↑Str).contains n||sc.names.lookup n==some .globalImplicit)&&
  (jg.may !=some n||sc.kind== .module||sc.names.lookup n==some .globalImplicit)))=true:=by kernel_rfl
theorem a11:jg.own.contains jg.name=true:=by kernel_rfl
theorem a12:(jg.own.eraseDups.length==jg.own.length)=true:=by kernel_rfl
theorem a13:(jg.own.all (λn=>!builtinNamed n))=true:=by kernel_rfl
theorem a14:namesMeet jg.prog jg.above (λO n=>!jg.own.contains n)=true:=by kernel_rfl
theorem a15:(namesMeet jg.prog jg.footing λsc n=>sc.kind== .module||sc.names.lookup n !=some .globalExplicit)=true:=by kernel_rfl
theorem eM:jg.wellSaid=true:=by
 unfold OpenLaw.wellSaid
 repeat' (with_reducible refine look_both ?_ ?_)
 ·exact look_both (look_both a1a a1b) a1c
 ·exact a2
 ·exact a3
 ·exact a4
 ·rfl
 ·rfl
 ·exact a5
 ·exact a6
 ·exact a7
 ·rfl
 ·exact a8
 ·rfl
 ·exact a9
 ·exact a10
 ·exact a11
 ·exact a12
 ·exact a13
 ·exact a14
 ·exact a15
end Ws
set_option backward.match.sparseCases false
set_option genInjectivity true in
inductive D where
 |none|bool (b:Bool)|int (i:Int)|str (s:Str)|J (l:↑D)|aD (l:↑D)
inductive At where
 |d (x:D)|ref (n:Nat)
set_option genInjectivity true in
inductive V where
 |un|d (x:D)|ref (n:Nat)|eO (l:↑(Str×At))
inductive iq where
 |list (l:↑D)|dict (l:↑(Str×At))
noncomputable abbrev St:=↑iq
set_option genInjectivity true in
inductive R (α:Type) where
 |ok (a:α)|dW (m:Str)|aQ
variable {β:Type}
abbrev R.bind:R α→(α→R β)→R β
 | .ok a,f=>f a
 | .dW m,_=> .dW m
 | .aQ,_=> .aQ
theorem R.dv (a:α) (f:α→R β):(R.ok a).bind f=f a:=rfl
theorem R.no {a:α} {P:Prop} (h:(R.aQ:R α)= .ok a):P:=nomatch h
variable {γ:Type}
theorem R.bind_assoc (r:R α) (f:α→R β) (g:β→R γ):(r.bind f).bind g=r.bind λa=>(f a).bind g:=by induction r using R.casesOn<;>rfl
@[elab_as_elim] theorem R.aF {a b:α} {P:α→Prop} (h:R.ok a= .ok b) (k:P a):P b:=by cases h;exact k
theorem R.ah {x:R α} {f:α→R β} {y:β} {P:Prop} (h:x.bind f= .ok y) (k:∀a,x= .ok a→f a= .ok y→P):P:=by
 induction x using R.casesOn with
 |ok a=>exact k a H h
 |_=>exact nomatch h
theorem R.bn {c:Prop} [Decidable c] {r:R α} {y:α} {P:Prop} (h:(if c then r else .aQ)= .ok y) (k:c→r= .ok y→P):P:=by
 by_cases hc:c
 ·rw [ao hc]at h;exact k hc h
 ·rw [aN hc]at h;exact nomatch h
theorem R.s8 {c:Prop} [Decidable c] {r r':R α} {y:α} {P:Prop} (h:(if c then r else r')= .ok y) (k:c→r= .ok y→P) (k':¬c→r'= .ok y→P):P:=by
 by_cases hc:c
 ·rw [ao hc]at h;exact k hc h
 ·rw [aN hc]at h;exact k' hc h
theorem R.cf {x:R α} {f:α→R β} {a:α} (h:x= .ok a):x.bind f=f a:=by rw [h];rfl
theorem R.Qx {c:Prop} [Decidable c] {r:R α} (h:(if c then r else .aQ)≠ .aQ):c:=by
 by_cases hc:c
 ·exact hc
 ·rw [aN hc]at h;exact al H h
abbrev NX (r:R α):Prop:=∀m,r≠ .dW m
theorem bm {a:α}:NX (R.ok a):=nofun
theorem bj:NX (R.aQ:R α):=nofun
theorem NX.bind {x:R α} {f:α→R β} (h:NX x) (k:∀a,NX (f a)):NX (x.bind f):=by
 induction x using R.casesOn with
 |ok a=>exact k a
 |dW m=>exact al H (h m)
 |aQ=>exact nofun
theorem NX.ite {c:Prop} [Decidable c] {x y:R α} (h:NX x) (h':NX y):NX (if c then x else y):=by split<;>assumption
theorem NX.get {x:R α} {P:Prop} (h:NX x) (hb:x≠ .aQ) (k:∀a,x= .ok a→P):P:=by
 induction x using R.casesOn with
 |ok a=>exact k a H
 |dW m=>exact al H (h m)
 |aQ=>exact al H hb
@[elab_as_elim] theorem NX.elim {x:R α} {f:α→R β} {P:R β→Prop} (h:NX x) (hb:x.bind f≠ .aQ) (k:∀a,x= .ok a→f a≠ .aQ→P (f a)):P (x.bind f):=by
 induction x using R.casesOn with
 |ok a=>exact k a H hb
 |dW m=>exact al H (h m)
 |aQ=>exact al H hb
structure F where
 i:Fin 72
 deriving DecidableEq
abbrev F.u9:F:=⟨⟨0,aP H⟩⟩
abbrev F.lower:F:=⟨⟨1,aP H⟩⟩
abbrev F.nj:F:=⟨⟨2,aP H⟩⟩
abbrev F.wl:F:=⟨⟨3,aP H⟩⟩
abbrev F.AI:F:=⟨⟨4,aP H⟩⟩
abbrev F.fQ:F:=⟨⟨5,aP H⟩⟩
abbrev F.fx:F:=⟨⟨6,aP H⟩⟩
abbrev F.jJ:F:=⟨⟨7,aP H⟩⟩
abbrev F.j2:F:=⟨⟨8,aP H⟩⟩
abbrev F.nq:F:=⟨⟨9,aP H⟩⟩
abbrev F.dE:F:=⟨⟨10,aP H⟩⟩
abbrev F.nr:F:=⟨⟨11,aP H⟩⟩
abbrev F.kU:F:=⟨⟨12,aP H⟩⟩
abbrev F.lX:F:=⟨⟨13,aP H⟩⟩
abbrev F.hY:F:=⟨⟨14,aP H⟩⟩
abbrev F.pI:F:=⟨⟨15,aP H⟩⟩
abbrev F.j3:F:=⟨⟨16,aP H⟩⟩
abbrev F.fW:F:=⟨⟨17,aP H⟩⟩
abbrev F.rF:F:=⟨⟨18,aP H⟩⟩
abbrev F.iA:F:=⟨⟨19,aP H⟩⟩
abbrev F.j5:F:=⟨⟨20,aP H⟩⟩
abbrev F.pJ:F:=⟨⟨21,aP H⟩⟩
abbrev F.fe:F:=⟨⟨22,aP H⟩⟩
abbrev F.mZ:F:=⟨⟨23,aP H⟩⟩
abbrev F.iB:F:=⟨⟨24,aP H⟩⟩
abbrev F.jK:F:=⟨⟨25,aP H⟩⟩
abbrev F.on:F:=⟨⟨26,aP H⟩⟩
abbrev F.gG:F:=⟨⟨27,aP H⟩⟩
abbrev F.fM:F:=⟨⟨28,aP H⟩⟩
abbrev F.jM:F:=⟨⟨29,aP H⟩⟩
abbrev F.qF:F:=⟨⟨30,aP H⟩⟩
abbrev F.gb:F:=⟨⟨31,aP H⟩⟩
abbrev F.fD:F:=⟨⟨32,aP H⟩⟩
abbrev F.jr:F:=⟨⟨33,aP H⟩⟩
abbrev F.j6:F:=⟨⟨34,aP H⟩⟩
abbrev F.ir:F:=⟨⟨35,aP H⟩⟩
abbrev F.lF:F:=⟨⟨36,aP H⟩⟩
abbrev F.lY:F:=⟨⟨37,aP H⟩⟩
abbrev F.lG:F:=⟨⟨38,aP H⟩⟩
abbrev F.qG:F:=⟨⟨39,aP H⟩⟩
abbrev F.qH:F:=⟨⟨40,aP H⟩⟩
abbrev F.oP:F:=⟨⟨41,aP H⟩⟩
abbrev F.oQ:F:=⟨⟨42,aP H⟩⟩
abbrev F.qI:F:=⟨⟨43,aP H⟩⟩
abbrev F.nu:F:=⟨⟨44,aP H⟩⟩
abbrev F.nv:F:=⟨⟨45,aP H⟩⟩
abbrev F.i7:F:=⟨⟨46,aP H⟩⟩
abbrev F.oA:F:=⟨⟨47,aP H⟩⟩
abbrev F.oB:F:=⟨⟨48,aP H⟩⟩
abbrev F.gH:F:=⟨⟨49,aP H⟩⟩
abbrev F.pK:F:=⟨⟨50,aP H⟩⟩
abbrev F.oR:F:=⟨⟨51,aP H⟩⟩
abbrev F.hZ:F:=⟨⟨52,aP H⟩⟩
abbrev F.ji:F:=⟨⟨53,aP H⟩⟩
abbrev F.rG:F:=⟨⟨54,aP H⟩⟩
abbrev F.ca:F:=⟨⟨55,aP H⟩⟩
abbrev F.fi:F:=⟨⟨56,aP H⟩⟩
abbrev F.lZ:F:=⟨⟨57,aP H⟩⟩
abbrev F.pL:F:=⟨⟨58,aP H⟩⟩
abbrev F.m1:F:=⟨⟨59,aP H⟩⟩
abbrev F.jN:F:=⟨⟨60,aP H⟩⟩
abbrev F.lw:F:=⟨⟨61,aP H⟩⟩
abbrev F.e7:F:=⟨⟨62,aP H⟩⟩
abbrev F.oS:F:=⟨⟨63,aP H⟩⟩
abbrev F.jO:F:=⟨⟨64,aP H⟩⟩
abbrev F.iQ:F:=⟨⟨65,aP H⟩⟩
abbrev F.uh:F:=⟨⟨66,aP H⟩⟩
abbrev F.rH:F:=⟨⟨67,aP H⟩⟩
abbrev F.m2:F:=⟨⟨68,aP H⟩⟩
abbrev F.d7:F:=⟨⟨69,aP H⟩⟩
abbrev F.l8:F:=⟨⟨70,aP H⟩⟩
abbrev F.zL:F:=⟨⟨71,aP H⟩⟩
abbrev Qy:↑F:=[.u9, .lower, .nj, .wl, .AI, .fQ, .fx, .jJ, .j2, .nq, .dE, .nr, .kU, .lX, .hY, .pI, .j3, .fW, .rF, .iA, .j5, .pJ, .fe, .mZ, .iB, .jK, .on, .gG, .fM, .jM, .qF, .gb, .fD, .jr, .j6, .ir, .lF, .lY, .lG, .qG, .qH, .oP, .oQ, .qI, .nu, .nv, .i7, .oA, .oB, .gH, .pK, .oR, .hZ, .ji, .rG, .ca, .fi, .lZ, .pL, .m1, .jN, .lw, .e7, .oS, .jO, .iQ, .uh, .rH, .m2, .d7, .l8, .zL]
theorem Qz:∀i:Fin 72,(⟨i⟩:F)∈Qy:=by decide+kernel
theorem Jo {g h:F→α} (e:Qy.map g=Qy.map h) (f:F):g f=h f:=rA.mp e f (Qz f.i)
inductive Op where|add|uP|sub|mul|fdiv|mod|pow
inductive Cm where|eq|ne|lt|gt|le|kW|dw|fj|vc
inductive B1 where|len|str|EM|EN|dict|tuple|sum|lower|nU|qi|range|oC|rI
inductive B2 where|join|rindex
inductive Tg where|dj (x:Nat)|aO (xs:↑Nat)
mutual
inductive E where
 |az (d:D)|var (x:Nat)|J (es:Es)|aD (m:Bool) (es:Es)|eO (ks:↑Str) (es:Es)
 |aw (e i:E)|oq (e:E) (lo hi st:Oe)
 |aE (op:Op) (a b:E)|au (op:Cm) (a b:E)|xY (a b c:E)
 |and (es:Es)|or (es:Es)|not (e:E)|ite (c a b:E)
 |call (f:F) (es:Es)|b1 (b:B1) (e:E)|b2 (b:B2) (a c:E)
 |comp (cap:↑Nat) (n:Nat) (t:Tg) (it:It) (c:Oe) (eZ:E)
 |s9 (cap:↑Nat) (n:Nat) (t1:Tg) (QA:It) (t2:Tg) (mD:It) (eZ:E)
inductive Es where|nil|cons (e:E) (es:Es)
inductive Oe where|none|some (e:E)
inductive It where|seq (e:E)|range (e:E)|sU (e:E)|oU (e:E)
end
mutual
inductive S where
 |bD (x:Nat) (e:E)|qJ (xs:↑Nat) (e:E)|ui (r i e:E)|QB (x:Nat) (e:E)
 |aU (c:E) (a b:Ss)|ej (t:Tg) (it:It) (b:Ss)|EO (c:E) (b:Ss)
 |ret (e:Oe)|dU (e:E)|cont
 |jh (r e:E)|ext (r e:E)|QC (r:E)|dC (e:E)
 |pM (f:F) (e:E)
inductive Ss where|nil|cons (s:S) (ss:Ss)
end
structure Fn where
 params:Nat
 slots:Nat
 body:Ss
abbrev aT:Nat:=2^24
abbrev gI:V→R D
 | .d x=> .ok x
 |_=> .aQ
abbrev YN:V→R (↑(Str×At))
 | .eO l=> .ok l
 |_=> .aQ
abbrev Vj:D→R Bool
 | .bool b=> .ok b
 |_=> .aQ
abbrev gJ:D→R Int
 | .int i=> .ok i
 |_=> .aQ
abbrev strOf:D→R Str
 | .str s=> .ok s
 |_=> .aQ
abbrev qj:D→R ↑D
 | .aD l=> .ok l
 |_=> .aQ
abbrev XF:↑Nat→R Nat
 |[]=> .aQ
 |c::r=>if r=[]then .ok c else .aQ
abbrev qk (s:Str):R Nat:=XF s.cps.toList
abbrev eQ:Option iq→R ↑D
 |none=> .aQ
 |some c=>match c with
  | .list l=> .ok l
  | .dict _=> .aQ
abbrev wm:↑V→R ↑D
 |[]=> .ok []
 | .d x::r=>(wm r).bind λl=> .ok (x::l)
 |_::_=> .aQ
abbrev Mf:V→R At
 | .d x=> .ok (.d x)
 | .ref n=> .ok (.ref n)
 |_=> .aQ
abbrev YO:At→V
 | .d x=> .d x
 | .ref n=> .ref n
abbrev ta:↑Str→↑V→R (↑(Str×At))
 |[],[]=> .ok []
 |k::ks,v::vs=>(Mf v).bind λa=>(ta ks vs).bind λl=> .ok ((k,a)::l)
 |_,_=> .aQ
abbrev js (v:V):R Bool:=(gI v).bind Vj
abbrev flat:D→Bool
 | .none=>true
 | .bool _=>true
 | .int _=>true
 | .str _=>true
 |_=>false
abbrev CF:D→D→Bool
 | .none, .none=>true
 | .bool a, .bool b=>a==b
 | .int a, .int b=>a==b
 | .str a, .str b=>a==b
 | .bool a, .int b=>(if a then 1 else 0)==b
 | .int a, .bool b=>a==(if b then 1 else 0)
 |_,_=>false
abbrev zi:↑D→↑D→Bool
 |[],[]=>true
 |x::r,y::s=>CF x y&&zi r s
 |_,_=>false
abbrev xZ (x y:D):R Bool:=match y with
 | .J m=>match x with
  | .J l=>if m.all flat then .ok (zi l m)else .aQ
  | .aD _=> .aQ
  |_=> .ok false
 | .aD m=>(qj x).bind λl=>match m with
  |[]=> .ok l.isEmpty
  |_::_=> .aQ
 |_=> .ok (CF x y)
abbrev vd (x:D):↑D→R Bool
 |[]=> .ok false
 |y::r=>(xZ y x).bind λb=>(vd x r).bind λc=> .ok (b||c)
abbrev GR (σ:St) (x:D):V→R Bool
 | .un=> .aQ
 | .d y=>match y with
  | .J l=>vd x l
  | .aD l=>vd x l
  | .str s=>(strOf x).bind λa=>(qk a).bind λc=> .ok (s.cps.toList.contains c)
  |_=> .aQ
 | .eO bP=>(strOf x).bind λa=> .ok (bP.any λp=>decide (p.1=a))
 | .ref n=>(eQ σ[n]?).bind λl=>vd x l
abbrev pN:Option α→R α
 |none=> .aQ
 |some x=> .ok x
abbrev qK (l:↑α) (i:Int):R α:=
 if -(2^62)≤i∧i<2^62∧0≤(l.length:Int)+i then pN l[if i<0 then((l.length:Int)+i).toNat else i.toNat]?else .aQ
abbrev td (k:Str):↑(Str×At)→R V
 |[]=> .aQ
 |p::r=>if p.1=k then .ok (YO p.2)else td k r
abbrev Jp (j:D):Option iq→R V
 |none=> .aQ
 |some c=>match c with
  | .list l=>(gJ j).bind λi=>(qK l i).bind λx=> .ok (.d x)
  | .dict bP=>(strOf j).bind λk=>td k bP
abbrev gT (σ:St) (c:V) (j:D):R V:=match c with
 | .un=> .aQ
 | .d y=>(gJ j).bind λi=>match y with
  | .J l=>(qK l i).bind λx=> .ok (.d x)
  | .aD l=>(qK l i).bind λx=> .ok (.d x)
  | .str s=>(qK s.cps.toList i).bind λc=> .ok (.d (.str ⟨#[c]⟩))
  |_=> .aQ
 | .eO bP=>(strOf j).bind λk=>td k bP
 | .ref n=>Jp j σ[n]?
abbrev AJ (k:Str) (a:At):↑(Str×At)→R (↑(Str×At))
 |[]=> .aQ
 |p::r=>if p.1=k then .ok ((p.1,a)::r)else(AJ k a r).bind λl=> .ok (p::l)
abbrev QD (σ:St) (n:Nat) (j:D) (v:V):Option iq→R St
 |none=> .aQ
 |some c=>match c with
  | .list l=>(gJ j).bind λi=>(gI v).bind λx=>if 0≤i∧i<l.length∧i<1000 then .ok (σ.set n (.list (l.set i.toNat x)))else .aQ
  | .dict bP=>(strOf j).bind λk=>(Mf v).bind λa=>(AJ k a bP).bind λl=>if l.length≤100 then .ok (σ.set n (.dict l))else .aQ
abbrev GS (σ:St) (c:V) (j:D) (v:V):R St:=match c with
 | .ref n=>QD σ n j v σ[n]?
 |_=> .aQ
abbrev j7 (l:↑α) (is:↑Nat):↑α:=is.filterMap (l[·]?)
abbrev rJ:D→R (Option Int)
 | .none=> .ok none
 | .int i=> .ok (some i)
 |_=> .aQ
abbrev wn (l:↑α) (a b s:Option Int):R (↑α):=match s with
 |some s=>if a=none∧b=none∧s=-1 then .ok l.reverse else .aQ
 |none=>match a with
  |some a=>if b=none∧1≤a∧a<2^62∧a≤l.length then .ok (l.drop a.toNat)else .aQ
  |none=>match b with
   |some b=>if 0≤b∧b<2^62 then .ok (l.take b.toNat)else .aQ
   |none=> .aQ
abbrev Mg (l:↑α) (a b s:Option Int):R (↑α):=match a with
 |some a=>match s with
  |some s=>if b=none∧0≤a∧a<2^62∧0<s∧s<2^62 then .ok (j7 l (sliceRange (min a l.length) l.length s))else .aQ
  |none=> .aQ
 |none=>match b with
  |some b=>if s=none∧0≤b∧b<2^62 then .ok (l.take b.toNat)else .aQ
  |none=> .aQ
abbrev ou (l:↑α) (a b s:D):R (↑α):=(rJ a).bind λa=>(rJ b).bind λb=>(rJ s).bind λs=>wn l a b s
abbrev wo (l:↑α) (a b s:D):R (↑α):=(rJ a).bind λa=>(rJ b).bind λb=>(rJ s).bind λs=>Mg l a b s
abbrev jU (c:V) (a b s:D):R V:=(gI c).bind λy=>match y with
 | .J l=>if l.length≤aT then(ou l a b s).bind λr=> .ok (.d (.J r))else .aQ
 | .aD l=>if l.length≤aT then(wo l a b s).bind λr=> .ok (.d (.aD r))else .aQ
 | .str x=>if x.length≤aT then(ou x.cps.toList a b s).bind λr=> .ok (.d (.str ⟨r.toArray⟩))else .aQ
 |_=> .aQ
abbrev Mh (a b:D):R D:=match a with
 | .int a=>(gJ b).bind λb=> .ok (.int (a+b))
 | .str a=>(strOf b).bind λb=>if a.length+b.length≤aT then .ok (.str (a++b))else .aQ
 | .aD a=>(qj b).bind λb=>if a.length+b.length≤aT then .ok (.aD (a++b))else .aQ
 |_=> .aQ
abbrev m3 (σ:St):V→R ↑D
 | .d y=>qj y
 | .ref n=>eQ σ[n]?
 |_=> .aQ
abbrev AK (op:Op) (a b:D):R D:=match op with
 | .add=>Mh a b
 | .uP=> .aQ
 | .sub=>(gJ a).bind λa=>(gJ b).bind λb=> .ok (.int (a -b))
 | .mul=>(strOf a).bind λa=>(gJ b).bind λn=>if 0≤n∧n≤100000 then(qk a).bind λc=> .ok (.str ⟨(List.replicate n.toNat c).toArray⟩)else .aQ
 | .fdiv=>(gJ a).bind λa=>(gJ b).bind λb=>if b≠0∧b.natAbs<1000000 then .ok (.int (a.fdiv b))else .aQ
 | .mod=>(gJ a).bind λa=>(gJ b).bind λb=>if b≠0 then .ok (.int (a.fmod b))else .aQ
 | .pow=>(gJ a).bind λa=>(gJ b).bind λb=>if 0≤a∧a≤10∧0≤b∧b≤10 then .ok (.int (a^b.toNat))else .aQ
abbrev ya (σ:St) (a b:V):R ↑D:=(m3 σ a).bind λl=>(m3 σ b).bind λm=>if l.length+m.length≤aT then .ok (l++m)else .aQ
abbrev EP:V→Bool
 | .ref _=>true
 |_=>false
abbrev jj (σ:St) (op:Op) (a b:V):R (V×St):=match op with
 | .uP=>(ya σ a b).bind λl=> .ok (.ref σ.length,σ++[.list l])
 | .add=>if EP a||EP b then(ya σ a b).bind λl=> .ok (.d (.aD l),σ)else(gI a).bind λx=>(gI b).bind λy=>(Mh x y).bind λz=> .ok (.d z,σ)
 |op=>(gI a).bind λx=>(gI b).bind λy=>(AK op x y).bind λz=> .ok (.d z,σ)
abbrev Vk (a b:D):R Bool:=match a with
 | .int a=>(gJ b).bind λb=> .ok (decide (a≤b))
 | .str a=>(strOf b).bind λb=>(qk a).bind λx=>(qk b).bind λy=> .ok (decide (x≤y))
 |_=> .aQ
abbrev NK (a b:V):R Bool:=(gI a).bind λa=>(gI b).bind λb=>Vk a b
abbrev XG (a b:D):Bool:=match a with
 | .str _=>match b with
  | .str _=>true
  |_=>false
 | .int _=>match b with
  | .int _=>true
  |_=>false
 | .aD _=>match b with
  | .aD l=>l.isEmpty
  |_=>false
 |_=>false
abbrev oV:D→Bool
 | .none=>true
 |_=>false
abbrev QE:V→Bool
 | .eO _=>true
 |_=>false
abbrev ek (σ:St) (op:Cm) (a b:V):R Bool:=(gI a).bind λx=>match op with
 | .eq=>(gI b).bind λy=>xZ x y
 | .ne=>(gI b).bind λy=>if XG x y then(xZ x y).bind λc=> .ok (!c)else .aQ
 | .lt=>(gJ x).bind λi=>(gI b).bind λy=>(gJ y).bind λj=> .ok (decide (i<j))
 | .gt=>(gJ x).bind λi=>(gI b).bind λy=>(gJ y).bind λj=> .ok (decide (j<i))
 | .le=>(gI b).bind λy=>Vk x y
 | .kW=> .ok (oV x)
 | .dw=> .ok (!oV x)
 | .fj=>GR σ x b
 | .vc=>if QE b then .aQ else(GR σ x b).bind λc=> .ok (!c)
abbrev AL:↑D→R Int
 |[]=> .ok 0
 |x::r=>(gJ x).bind λi=>(AL r).bind λs=> .ok (i+s)
abbrev EQ (ER:Str):↑D→R ↑Str
 |[]=> .ok []
 |x::r=>(strOf x).bind λs=>(EQ ER r).bind λl=> .ok (s::l)
abbrev Mi:↑(Str×Str):=([("Generator","generator"),("ITERATOR","iterator"),("int","int"),("iterable","iterable"),("A","a"),("null","null"),("B","b"),("mixed","mixed"),("object","object"),("Traversable","traversable"),("void","void"),("never","never")]:↑(String×String)).map λp=>(Str.ofString p.1,Str.ofString p.2)
abbrev QF:D→R Nat
 | .J l=> .ok l.length
 | .aD l=> .ok l.length
 | .str s=> .ok s.length
 |_=> .aQ
abbrev Vl:D→Bool
 | .J _=>true
 |_=>false
abbrev Vm:D→Bool
 | .str _=>true
 |_=>false
abbrev wq (b:B1) (x:D):R D:=match b with
 | .len=>(QF x).bind λn=>if n<2^62 then .ok (.int n)else .aQ
 | .str=>(gJ x).bind λi=>if 0≤i∧i<1000000 then .ok (.str (Str.ofString (toString i)))else .aQ
 | .EM=>(gJ x).bind λi=>if 0≤i∧i<128 then .ok (.str ⟨#[i.toNat]⟩)else .aQ
 | .EN=>(strOf x).bind λs=>(qk s).bind λc=> .ok (.int c)
 | .sum=>(qj x).bind λl=>(AL l).bind λi=> .ok (.int i)
 | .lower=>(strOf x).bind λs=>(pN (Mi.find? λp=>p.1=s)).bind λp=> .ok (.str p.2)
 | .nU=> .ok (.bool (Vl x))
 | .qi=> .ok (.bool (Vm x))
 |_=> .aQ
abbrev mF (σ:St) (b:B1) (v:V):R (V×St):=match b with
 | .dict=>(YN v).bind λbP=>if bP.length≤100 then .ok (.ref σ.length,σ++[.dict bP])else .aQ
 | .tuple=>(m3 σ v).bind λl=>if l.length≤aT then .ok (.d (.J l),σ)else .aQ
 |b=>(gI v).bind λx=>(wq b x).bind λy=> .ok (.d y,σ)
abbrev gj (c:Nat):↑Nat→Option Nat
 |[]=>none
 |x::r=>match gj c r with
  |some i=>some (i+1)
  |none=>if x=c then some 0 else none
abbrev QG:D→R ↑D
 | .J l=> .ok l
 | .aD l=> .ok l
 |_=> .aQ
abbrev QH (σ:St):V→R ↑D
 | .d y=>QG y
 | .ref n=>eQ σ[n]?
 |_=> .aQ
abbrev Jq (σ:St) (b:B2) (s:Str) (v:V):R V:=match b with
 | .join=>(QH σ v).bind λl=>(EQ s l).bind λss=>if(ss.map (·.length)).sum+ss.length*s.length≤aT then .ok (.d (.str (Str.join s ss)))else .aQ
 | .rindex=>(gI v).bind λy=>(strOf y).bind λa=>(qk a).bind λc=>(pN (gj c s.cps.toList)).bind λi=> .ok (.d (.int i))
abbrev Jr:D→R ↑D
 | .J l=> .ok l
 |_=> .aQ
abbrev bk (t:Tg) (v:V) (ρ:↑V):R ↑V:=match t with
 | .dj x=> .ok (ρ.set x v)
 | .aO xs=>(gI v).bind λy=>(Jr y).bind λl=>if l.length=xs.length then .ok ((xs.zip l).foldl (λr p=>r.set p.1 (.d p.2)) ρ)else .aQ
abbrev ws (s:Str):↑D:=s.cps.toList.map λc=> .str ⟨#[c]⟩
abbrev iC (n:Nat):↑D:=(List.range n).map λ(k:Nat)=> .int k
abbrev rK:Nat→↑D→↑D
 |_,[]=>[]
 |k,x::r=> .J [.int k,x]::rK (k+1) r
abbrev Vn:D→R ↑D
 | .J l=> .ok l
 | .aD l=> .ok l
 | .str s=> .ok (ws s)
 |_=> .aQ
abbrev oF (v:V):R ↑D:=(gI v).bind Vn
abbrev QI:Option V→Bool
 |some .un=>true
 |_=>false
abbrev Vo:Tg→↑V→Bool
 | .dj x,ρ=>QI ρ[x]?
 | .aO xs,ρ=>xs.all λx=>QI ρ[x]?
abbrev nx (t:Tg) (x:D) (ρ:↑V):R ↑V:=if Vo t ρ then bk t (.d x) ρ else .aQ
abbrev iD (ρ:↑V):↑Nat→↑V
 |[]=>[]
 |i::r=>(ρ[i]?).getD .un::iD ρ r
abbrev mG:↑(Str×At)→↑Nat
 |[]=>[]
 |(_, .ref n)::r=>n::mG r
 |(_, .d _)::r=>mG r
abbrev cv:↑V→↑Nat
 |[]=>[]
 | .ref n::r=>n::cv r
 | .eO l::r=>mG l++cv r
 |_::r=>cv r
abbrev en (rs:↑Nat) (n:Nat):Nat:=rs.idxOf n
abbrev te (f:Nat→Nat):↑(Str×At)→↑(Str×At)
 |[]=>[]
 |(k, .ref n)::r=>(k, .ref (f n))::te f r
 |(k, .d x)::r=>(k, .d x)::te f r
abbrev kX (f:Nat→Nat):V→V
 | .ref n=> .ref (f n)
 | .eO l=> .eO (te f l)
 |v=>v
abbrev GU:iq→Bool
 | .list _=>true
 | .dict _=>false
abbrev i5 (σ:St):↑Nat→R St
 |[]=> .ok []
 |n::r=>(eQ σ[n]?).bind λl=>(i5 σ r).bind λcs=> .ok (.list l::cs)
abbrev putBack:↑Nat→St→St→St
 |n::r,c::cs,σ=>putBack r cs (σ.set n c)
 |_,_,σ=>σ
abbrev AM (rs:↑Nat) (len:Nat) (t:Nat):Nat:=match rs[t]?with
 |some n=>n
 |none=>len+(t -rs.length)
abbrev gh (rs:↑Nat) (σ σ1:St):V→R (V×St)
 | .d x=> .ok (.d x,putBack rs σ1 σ)
 | .un=> .aQ
 | .ref t=>match rs[t]?with
  |some n=> .ok (.ref n,putBack rs σ1 σ)
  |none=>match σ1[t]?with
   |some (.list l)=> .ok (.d (.aD l),putBack rs σ1 σ)
   |some (.dict bP)=>if(mG bP).all (·<rs.length)then .ok (.eO (te (AM rs σ.length) bP),putBack rs σ1 σ)else .aQ
   |_=> .aQ
 | .eO bP=>if σ1.all GU then .ok (.eO (te (AM rs σ.length) bP),putBack rs σ1 σ++σ1.drop rs.length)else .aQ
inductive Fl where
 |next|cont|ret (v:V)
noncomputable abbrev fF:=F→↑V→St→R (V×St)
abbrev j8 (bD:D→R ↑V) (f:↑V→↑D→St→R (↑D×St)):↑D→↑D→St→R (↑D×St)
 |[],acc,σ=> .ok (acc,σ)
 |x::xs,acc,σ=>(bD x).bind λρ=>(f ρ acc σ).bind λp=>j8 bD f xs p.1 p.2
abbrev uQ (acc:↑D) (x:D) (σ:St):R (↑D×St):=if acc.length<aT then .ok (acc++[x],σ)else .aQ
abbrev ql:R α→R α
 | .dW _=> .aQ
 |r=>r
abbrev qL:Option V→R V
 |none=> .aQ
 |some v=>match v with
  | .un=> .aQ
  | .d x=> .ok (.d x)
  | .ref n=> .ok (.ref n)
  | .eO l=> .ok (.eO l)
@[elab_as_elim] theorem NL {o:Option V} {P:R V→Prop} (h:qL o≠ .aQ) (k:∀v,o=some v→v≠ .un→P (.ok v)):P (qL o):=by
 induction o using di with
 |none=>exact al H h
 |some v=>induction v using V.casesOn<;>first|exact al H h|exact k _ rfl (λq=>V.noConfusion q)
abbrev tf:V→R Nat
 | .ref n=> .ok n
 |_=> .aQ
abbrev QJ (σ:St) (c:V):R ↑D:=(tf c).bind λn=>(eQ σ[n]?).bind λl=> .ok l
abbrev Mj (v:V):R ↑D:=(gI v).bind QG
abbrev Mk (σ:St) (c v:V):R St:=(tf c).bind λn=>(eQ σ[n]?).bind λl=>(gI v).bind λx=>if l.length<aT then .ok (σ.set n (.list (l++[x])))else .aQ
abbrev Ml (σ:St) (c v:V):R St:=(tf c).bind λn=>(eQ σ[n]?).bind λl=>(Mj v).bind λm=>if l.length+m.length≤aT then .ok (σ.set n (.list (l++m)))else .aQ
abbrev QK (σ:St) (c:V):R St:=(tf c).bind λn=>(eQ σ[n]?).bind λl=>(pN l.getLast?).bind λx=>if flat x=true∧l.length≤aT then .ok (σ.set n (.list l.dropLast))else .aQ
abbrev Mm (a b:V):R D:=(gI a).bind λa=>(gJ a).bind λi=>(gI b).bind λb=>(gJ b).bind λj=> .ok (.int (i -j))
mutual
noncomputable def ev (K:fF):E→↑V→St→R (V×St)
 | .az d,_,σ=> .ok (.d d,σ)
 | .var x,ρ,σ=>(qL ρ[x]?).bind λv=> .ok (v,σ)
 | .J es,ρ,σ=>(i3 K es ρ σ).bind λp=>(wm p.1).bind λl=> .ok (.d (.J l),p.2)
 | .aD m es,ρ,σ=>(i3 K es ρ σ).bind λp=>(wm p.1).bind λl=>if m then .ok (.ref p.2.length,p.2++[.list l])else .ok (.d (.aD l),p.2)
 | .eO ks es,ρ,σ=>(i3 K es ρ σ).bind λp=>(ta ks p.1).bind λl=> .ok (.eO l,p.2)
 | .aw e i,ρ,σ=>(ev K e ρ σ).bind λp=>(ev K i ρ p.2).bind λq=>(gI q.1).bind λx=>(gT q.2 p.1 x).bind λv=> .ok (v,q.2)
 | .oq e lo hi st,ρ,σ=>(ev K e ρ σ).bind λp=>(yb K lo ρ p.2).bind λq=>(yb K hi ρ q.2).bind λr=>(yb K st ρ r.2).bind λt=>
   (jU p.1 q.1 r.1 t.1).bind λv=> .ok (v,t.2)
 | .aE op a b,ρ,σ=>(ev K a ρ σ).bind λp=>(ev K b ρ p.2).bind λq=>jj q.2 op p.1 q.1
 | .au op a b,ρ,σ=>(ev K a ρ σ).bind λp=>(ev K b ρ p.2).bind λq=>(ek q.2 op p.1 q.1).bind λc=> .ok (.d (.bool c),q.2)
 | .xY a b c,ρ,σ=>(ev K a ρ σ).bind λp=>(ev K b ρ p.2).bind λq=>(NK p.1 q.1).bind λt=>
   if t then(ev K c ρ q.2).bind λr=>(NK q.1 r.1).bind λu=> .ok (.d (.bool u),r.2)else .ok (.d (.bool false),q.2)
 | .and es,ρ,σ=>th K es ρ σ
 | .or es,ρ,σ=>zj K es ρ σ
 | .not e,ρ,σ=>(ev K e ρ σ).bind λp=>(js p.1).bind λb=> .ok (.d (.bool (!b)),p.2)
 | .ite c a b,ρ,σ=>(ev K c ρ σ).bind λp=>(js p.1).bind λt=>if t then ev K a ρ p.2 else ev K b ρ p.2
 | .call f es,ρ,σ=>(i3 K es ρ σ).bind λp=>K f p.1 p.2
 | .b1 b e,ρ,σ=>(ev K e ρ σ).bind λp=>mF p.2 b p.1
 | .b2 b a c,ρ,σ=>(ev K a ρ σ).bind λp=>(gI p.1).bind λx=>(strOf x).bind λz=>(ev K c ρ p.2).bind λq=>(Jq q.2 b z q.1).bind λv=> .ok (v,q.2)
 | .comp cap n t it c eZ,ρ,σ=>(i8 K it ρ σ).bind λp=>
   (ql (j8 (λv=>nx t v (iD ρ cap++List.replicate n .un)) (λbX acc σ=>(AN K c bX σ).bind λb=>
    if b.1 then(ev K eZ bX b.2).bind λq=>(gI q.1).bind λx=>uQ acc x q.2 else .ok (acc,b.2)) p.1 [] p.2)).bind λq=> .ok (.d (.aD q.1),q.2)
 | .s9 cap n t1 QA t2 mD eZ,ρ,σ=>(i8 K QA ρ σ).bind λp=>
   (ql (j8 (λv=>nx t1 v (iD ρ cap++List.replicate n .un)) (λbX acc σ=>(i8 K mD bX σ).bind λr=>
    j8 (λv=>nx t2 v bX) (λGV acc σ=>(ev K eZ GV σ).bind λq=>(gI q.1).bind λx=>uQ acc x q.2) r.1 acc r.2) p.1 [] p.2)).bind λq=> .ok (.d (.aD q.1),q.2)
noncomputable def i3 (K:fF):Es→↑V→St→R (↑V×St)
 | .nil,_,σ=> .ok ([],σ)
 | .cons e es,ρ,σ=>(ev K e ρ σ).bind λp=>(i3 K es ρ p.2).bind λq=> .ok (p.1::q.1,q.2)
noncomputable def th (K:fF):Es→↑V→St→R (V×St)
 | .nil,_,_=> .aQ
 | .cons e es,ρ,σ=>match es with
  | .nil=>ev K e ρ σ
  | .cons _ _=>(ev K e ρ σ).bind λp=>(js p.1).bind λt=>if t then th K es ρ p.2 else .ok p
noncomputable def zj (K:fF):Es→↑V→St→R (V×St)
 | .nil,_,_=> .aQ
 | .cons e es,ρ,σ=>match es with
  | .nil=>ev K e ρ σ
  | .cons _ _=>(ev K e ρ σ).bind λp=>(js p.1).bind λt=>if t then .ok p else zj K es ρ p.2
noncomputable def yb (K:fF):Oe→↑V→St→R (D×St)
 | .none,_,σ=> .ok (.none,σ)
 | .some e,ρ,σ=>(ev K e ρ σ).bind λp=>(gI p.1).bind λx=> .ok (x,p.2)
noncomputable def AN (K:fF):Oe→↑V→St→R (Bool×St)
 | .none,_,σ=> .ok (true,σ)
 | .some e,ρ,σ=>(ev K e ρ σ).bind λp=>(js p.1).bind λb=> .ok (b,p.2)
noncomputable def i8 (K:fF):It→↑V→St→R (↑D×St)
 | .seq e,ρ,σ=>(ev K e ρ σ).bind λp=>(oF p.1).bind λl=> .ok (l,p.2)
 | .range e,ρ,σ=>(ev K e ρ σ).bind λp=>(gI p.1).bind λx=>(gJ x).bind λi=>if 0≤i∧i<2^62 then .ok (iC i.toNat,p.2)else .aQ
 | .sU _,_,_=> .aQ
 | .oU e,ρ,σ=>(ev K e ρ σ).bind λp=>(gI p.1).bind λx=>(qj x).bind λl=> .ok (rK 0 l,p.2)
end
noncomputable abbrev RS:=R (Fl×↑V×St)
abbrev QL (p:Fl×↑V×St) (k:↑V→St→RS):RS:=match p.1 with
 | .ret v=> .ok (.ret v,p.2.1,p.2.2)
 | .next=>k p.2.1 p.2.2
 | .cont=>k p.2.1 p.2.2
abbrev wt (p:Fl×↑V×St) (k:↑V→St→RS):RS:=match p.1 with
 | .next=>k p.2.1 p.2.2
 | .cont=> .ok p
 | .ret _=> .ok p
abbrev cW (bD:D→↑V→R ↑V) (f:↑V→St→RS):↑D→↑V→St→RS
 |[],ρ,σ=> .ok (.next,ρ,σ)
 |x::xs,ρ,σ=>(bD x ρ).bind λbX=>(f bX σ).bind λp=>QL p (cW bD f xs)
abbrev lm (c:↑V→St→R (Bool×St)) (f:↑V→St→RS):Nat→↑V→St→RS
 |0,_,_=> .aQ
 |n+1,ρ,σ=>(c ρ σ).bind λb=>if b.1 then(f ρ b.2).bind λp=>QL p (lm c f n)else .ok (.next,ρ,b.2)
abbrev ti:V→V
 | .d x=> .d x
 |_=> .un
abbrev ny (g:↑V→St→RS) (ρ:↑V) (σ:St):RS:=
 (g (ρ.map ti) []).bind λp=>if p.2.2.isEmpty then .ok (p.1,p.2.1,σ)else .aQ
abbrev GW (ρ:↑V) (r:R St):RS:=r.bind λσ=> .ok (.next,ρ,σ)
abbrev YQ (ρ:↑V) (v c:V) (t:V×St):RS:=GW ρ ((gI t.1).bind λx=>GS t.2 c x v)
abbrev YR (i:↑V→St→R (V×St)) (ρ:↑V) (v:V) (q:V×St):RS:=(i ρ q.2).bind (YQ ρ v q.1)
abbrev YS (r i:↑V→St→R (V×St)) (ρ:↑V) (p:V×St):RS:=(r ρ p.2).bind (YR i ρ p.1)
abbrev QM (op:St→V→V→R St) (ρ:↑V) (c:V) (q:V×St):RS:=GW ρ (op q.2 c q.1)
abbrev Dz (op:St→V→V→R St) (e:↑V→St→R (V×St)) (ρ:↑V) (p:V×St):RS:=(QJ p.2 p.1).bind λO=>(e ρ p.2).bind (QM op ρ p.1)
abbrev QN (x:Nat) (ρ:↑V) (a:V) (q:V×St):RS:=(Mm a q.1).bind λc=> .ok (.next,ρ.set x (.d c),q.2)
abbrev QO (x:Nat) (e:↑V→St→R (V×St)) (ρ:↑V) (p:V×St):RS:=(e ρ p.2).bind (QN x ρ p.1)
abbrev GX (t:Tg) (b:↑V→St→RS) (ρ:↑V) (p:V×St):RS:=(QJ p.2 p.1).bind λl=>ny (cW (λx=>bk t (.d x)) b l.reverse) ρ p.2
abbrev Mn (t:Tg) (b:↑V→St→RS) (ρ:↑V) (p:↑D×St):RS:=cW (λx=>bk t (.d x)) b p.1 ρ p.2
abbrev rL (ρ:↑V) (σ:St):R (V×St)→RS
 | .ok q=> .ok (.next,ρ,q.2)
 | .dW m=>if σ.isEmpty then .ok (.ret (.d (.str m)),List.replicate ρ.length .un,[])else .aQ
 | .aQ=> .aQ
abbrev Js (ρ:↑V) (p:V×St):RS:=(gI p.1).bind λx=>if oV x=true then .ok (.next,ρ,p.2)else .aQ
abbrev Ae (p:V×St):RS:=(gI p.1).bind λx=>(strOf x).bind λm=> .dW m
mutual
noncomputable def ex (K:fF) (w:Nat):S→↑V→St→RS
 | .bD x e,ρ,σ=>(ev K e ρ σ).bind λp=> .ok (.next,ρ.set x p.1,p.2)
 | .qJ xs e,ρ,σ=>(ev K e ρ σ).bind λp=>(bk (.aO xs) p.1 ρ).bind λbX=> .ok (.next,bX,p.2)
 | .ui r i e,ρ,σ=>(ev K e ρ σ).bind (YS (ev K r) (ev K i) ρ)
 | .QB x e,ρ,σ=>(ev K (.var x) ρ σ).bind (QO x (ev K e) ρ)
 | .aU c a b,ρ,σ=>(ev K c ρ σ).bind λp=>(js p.1).bind λt=>if t then bg K w a ρ p.2 else bg K w b ρ p.2
 | .ej t it b,ρ,σ=>match it with
  | .sU e=>(ev K e ρ σ).bind (GX t (bg K w b) ρ)
  | .seq e=>(i8 K (.seq e) ρ σ).bind (Mn t (bg K w b) ρ)
  | .range e=>(i8 K (.range e) ρ σ).bind (Mn t (bg K w b) ρ)
  | .oU e=>(i8 K (.oU e) ρ σ).bind (Mn t (bg K w b) ρ)
 | .EO c b,ρ,σ=>lm (λρ σ=>(ev K c ρ σ).bind λp=>(js p.1).bind λt=> .ok (t,p.2)) (bg K w b) w ρ σ
 | .ret .none,ρ,σ=> .ok (.ret (.d .none),ρ,σ)
 | .ret (.some e),ρ,σ=>(ev K e ρ σ).bind λp=> .ok (.ret p.1,ρ,p.2)
 | .dU e,ρ,σ=>(ev K e ρ σ).bind Ae
 | .cont,ρ,σ=> .ok (.cont,ρ,σ)
 | .jh r e,ρ,σ=>(ev K r ρ σ).bind (Dz Mk (ev K e) ρ)
 | .ext r e,ρ,σ=>(ev K r ρ σ).bind (Dz Ml (ev K e) ρ)
 | .QC r,ρ,σ=>(ev K r ρ σ).bind λp=>GW ρ (QK p.2 p.1)
 | .dC e,ρ,σ=>(ev K e ρ σ).bind (Js ρ)
 | .pM f e,ρ,σ=>(ev K e ρ σ).bind λp=>(gI p.1).bind λx=>rL ρ p.2 (K f [.d x] p.2)
noncomputable def bg (K:fF) (w:Nat):Ss→↑V→St→RS
 | .nil,ρ,σ=> .ok (.next,ρ,σ)
 | .cons s ss,ρ,σ=>(ex K w s ρ σ).bind λp=>wt p (bg K w ss)
end
abbrev wu:Fl→V
 | .ret v=>v
 |_=> .d .none
abbrev iu (fn:Fn) (run:↑V→St→R (Fl×↑V×St)) (args:↑V) (σ:St):R (V×St):=
 if args.length=fn.params∧(cv args).Nodup then
  (i5 σ (cv args)).bind λcells=>
   (run (args.map (kX (en (cv args)))++List.replicate (fn.slots -fn.params) .un) cells).bind λp=>
    if(p.2.2.take (cv args).length).all GU then gh (cv args) σ p.2.2 (wu p.1)else .aQ
 else .aQ
abbrev call (code:F→Fn):Nat→fF
 |0,_,_,_=> .aQ
 |n+1,f,args,σ=>iu (code f) (bg (call code n) n (code f).body) args σ
abbrev Vp:↑(String×F):=[("type_text", .u9),("lower", .lower),("part_rules", .nj),("rule_of", .wl),("is_pair", .AI),("entry_rule", .fQ),("put_parts", .fx),("children", .jJ),("new_scope", .j2),("is_this", .nq),("check_target", .dE),("check_jump", .nr),("check_return", .kU),("check_param", .lX),("check_generator", .hY),("check_uses", .pI),("check_func", .j3),("check_within", .fW),("check_try", .rF),("check_names", .iA),("takes_refs", .j5),("check_list", .pJ),("check_targets", .fe),("is_cut_short", .mZ),("check_made", .iB),("check_switch", .jK),("check_class", .on),("check_node", .gG),("check_all", .fM),("check_script", .jM),("_law_told", .qF),("_law_draw", .gb),("_law_func", .fD),("_law_param", .jr),("_law_class", .j6),("_law_x", .ir),("_law_around", .lF),("_law_returns", .lY),("_law_params", .lG),("_law_uses", .qG),("_law_kept", .qH),("_law_names", .oP),("_law_write", .oQ),("_law_refs", .qI),("_law_switch", .nu),("_law_yields", .nv),("_law_generator", .i7),("_law_expr", .oA),("_law_made", .oB),("_law_statement", .gH),("_law_inside", .pK),("_law_built", .oR),("_law_around_of", .hZ),("_law_opened", .ji),("_law_kinds", .rG),("_law_nodes", .ca),("_law_has_this", .fi),("_law_has_ref", .lZ),("_law_jumped", .pL),("_law_returned", .m1),("_law_is_short", .jN),("_law_named", .lw),("_law_here", .e7),("_law_typed", .oS),("_law_param_of", .jO),("_law_function", .iQ),("_law_used", .uh),("_law_tried", .rH),("_law_of", .m2),("_law_all", .d7),("_law_refused", .l8),("law", .zL)]
abbrev yc:↑(Str×F):=Vp.map λp=>(Str.ofString p.1,p.2)
structure Cx where
 names:↑(Str×NameKind)
 slots:↑Str
 aaN:↑Str
abbrev Cx.slot (c:Cx) (x:Str):Option Nat:=
 match c.names.lookup x with
 |some .local|some .cell|some .free=>if c.slots.contains x then some (c.slots.idxOf x)else none
 |_=>none
abbrev Cx.glob (c:Cx) (x:Str):Bool:=c.names.lookup x==some .globalImplicit
abbrev Cx.fn (c:Cx) (x:Str):Option F:=if c.glob x then yc.lookup x else none
abbrev wv:Expr→Bool
 | .List [] _=>true
 |_=>false
abbrev Vq:Expr→Bool
 | .List _ _=>true
 |_=>false
abbrev AO:(e:Expr)→Option {s:Str//g9 λk p=>e= .Constant (.str s) k p}
 | .Constant (.str s) k p=>some ⟨s,k,p,rfl⟩
 |_=>none
abbrev Af (e:Expr):Bool:=(AO e).isSome
theorem ES {e:Expr} (h:Af e=true):∃s,g9 λk p=>e= .Constant (.str s) k p:=by
 unfold Af at h
 generalize q:AO e=o0;induction o0 using di with
 |none=>rw [q]at h;cases h
 |some x=>exact ⟨_,x.2⟩
abbrev QP (e:Option Expr):Option Str:=e.bind λe=>(AO e).map (·.1)
theorem zk {e:Option Expr} {s:Str} (h:QP e=some s):g9 λk p=>e=some (.Constant (.str s) k p):=by
 obtain ⟨a,rfl,h⟩:=Option.bind_eq_some_iff.mp h
 obtain ⟨⟨s,k,p,rfl⟩,_,rfl⟩:=Option.map_eq_some_iff.mp h
 exact ⟨k,p,rfl⟩
abbrev Ag:↑(Option Expr)→Option ↑Str
 |[]=>some []
 |k::r=>(QP k).bind λs=>(Ag r).map (s::·)
abbrev Ah:Const→Option D
 | .none=>some .none
 | .bool b=>some (.bool b)
 | .int i=>some (.int i)
 | .str s=>some (.str s)
 |_=>none
abbrev YT (m:Bool):Operator→Option Op
 | .Add=>some (if m then .uP else .add)
 | .Sub=>some .sub
 | .Mult=>some .mul
 | .FloorDiv=>some .fdiv
 | .Mod=>some .mod
 | .Pow=>some .pow
 |_=>none
abbrev cCm:CmpOp→Option Cm
 | .Eq=>some .eq| .NotEq=>some .ne| .Lt=>some .lt| .Gt=>some .gt| .LtE=>some .le| .In=>some .fj| .NotIn=>some .vc
 |_=>none
abbrev isNone:Expr→Bool
 | .Constant .none _ _=>true
 |_=>false
abbrev Mo:↑(String×B1):=[("len", .len),("str", .str),("chr", .EM),("ord", .EN),("dict", .dict),("tuple", .tuple),("sum", .sum),("range", .range),("reversed", .oC),("enumerate", .rI)]
abbrev ET:↑(Str×B1):=Mo.map λp=>(Str.ofString p.1,p.2)
abbrev XH (c:Cx):Expr→Option Nat
 | .Name x _=>c.slot x
 |_=>none
abbrev EU (c:Cx):↑Expr→Option ↑Nat
 |[]=>some []
 |e::r=>(XH c e).bind λi=>(EU c r).map (i::·)
abbrev GY (c:Cx):Expr→Option Tg
 | .Tuple es _ _=>(EU c es).map .aO
 |e=>(XH c e).map .dj
abbrev cT (names:↑(Str×NameKind)):↑Str:=(names.filter λp=>p.2== .free).map (·.1)
abbrev gk (names:↑(Str×NameKind)):↑Str:=(names.filter λp=>p.2== .local&&p.1 !=(".0":Str)).map (·.1)
abbrev zl (c:Cx):↑Str→Option ↑Nat
 |[]=>some []
 |x::r=>if c.names.lookup x==some .cell then(c.slot x).bind λi=>(zl c r).bind λl=>some (i::l)else none
abbrev lH (l:↑(Str×NameKind)):Bool:=decide (l.map (·.1)).Nodup&&l.all λp=>p.1 !=("__debug__":Str)&&p.1 !=("__classdict__":Str)
abbrev j9 (s:Scope):Bool:=s.kind== .function&&!s.isGenerator&&!s.isCoroutine&&lH s.names&&s.names.all λp=>p.2== .local||p.2== .free||p.2== .globalImplicit
abbrev et (s:Scope):Cx:=⟨s.names,cT s.names++gk s.names,[]⟩
abbrev yd (c:Cx):Expr→Bool
 | .Name x _=>c.names.lookup x==some .local
 |_=>false
abbrev qM (c:Cx):Expr→Bool
 | .Tuple es _ _=>es.all (yd c)
 |e=>yd c e
abbrev ov:It→Expr→Bool
 | .oU _, .Tuple _ _ _=>true
 | .oU _,_=>false
 |_,_=>true
structure YU (e:Expr) where
 eZ:Expr
 gens:↑Comprehension
 s:Scope
 p:Pos
 ok:e= .ListComp eZ gens s p
abbrev Mp:(e:Expr)→Option (YU e)
 | .ListComp eZ gens s p=>some ⟨eZ,gens,s,p,rfl⟩
 |_=>none
abbrev EV (e:Expr):Bool:=(Mp e).isSome
abbrev ww (e:Expr):Bool:=match Mp e with
 |some v=>v.gens.length==2
 |none=>false
abbrev j':Expr→Bool
 | .Call _ _ _ _=>false
 |_=>true
theorem no {x:α} {P:Prop} (h:(none:Option α)=some x):P:=nomatch h
theorem ah {o:Option α} {f:α→Option β} {y:β} {P:Prop} (h:o.bind f=some y) (k:∀a,o=some a→f a=some y→P):P:=by
 induction o using di with
 |none=>exact no h
 |some a=>exact k a H h
theorem nz {o:Option α} {f:α→β} {y:β} {P:Prop} (h:o.map f=some y) (k:∀a,o=some a→y=f a→P):P:=by
 induction o using di with
 |none=>exact no h
 |some a=>exact k a H (by cases h;rfl)
@[elab_as_elim] theorem bz {o:Option α} {f:α→β} {y:β} {P:β→Prop} (h:o.map f=some y) (k:∀a,o=some a→P (f a)):P y:=nz h λa h e=>e▸k a h
@[elab_as_elim] theorem Jt {a y:α} {P:α→Prop} (h:some a=some y) (k:P a):P y:=bb h▸k
theorem bn {b:Prop} [Decidable b] {o:Option α} {y:α} {P:Prop} (h:(if b then o else none)=some y) (k:b→o=some y→P):P:=by
 split at h
 ·rename_i q;exact k q h
 ·exact no h
theorem AP {b:Prop} [Decidable b] {o:Option α} {y:α} {P:Prop} (h:(if b then none else o)=some y) (k:¬b→o=some y→P):P:=by
 split at h
 ·exact no h
 ·rename_i q;exact k q h
theorem R.GZ {x:R α} {f:α→R β} {m:Str} (h:x≠ .dW m) (k:∀a,x= .ok a→f a≠ .dW m):x.bind f≠ .dW m:=by
 induction x using R.casesOn with
 |ok a=>exact k a H
 |dW m'=>exact λq=>h (by cases q;rfl)
 |aQ=>exact nofun
abbrev Mq:(e:Expr)→Option {x:Str//∃p,e= .Name x p}
 | .Name x p=>some ⟨x,p,rfl⟩
 |_=>none
structure YV (e:Expr) where
 f:Str
 es:↑Expr
 ok:g9 λnp p=>e= .Call (.Name f np) es [] p
abbrev wx:(e:Expr)→Option (YV e)
 | .Call (.Name f np) es [] p=>some ⟨f,es,np,p,rfl⟩
 |_=>none
structure YW (e:Expr) where
 o:Expr
 name:Str
 es:↑Expr
 ap:Pos
 p:Pos
 ok:e= .Call (.Attribute o name ap) es [] p
abbrev Ju:(e:Expr)→Option (YW e)
 | .Call (.Attribute o name ap) es [] p=>some ⟨o,name,es,ap,p,rfl⟩
 |_=>none
abbrev YX:(e:Expr)→Option {i:Int//g9 λk p=>e= .Constant (.int i) k p}
 | .Constant (.int i) k p=>some ⟨i,k,p,rfl⟩
 |_=>none
abbrev Ai (f:Str):Option B1:=if f==("range":Str)then some .range else if f==("reversed":Str)then some .oC else if f==("enumerate":Str)then some .rI else none
structure XI (c:Cx) (it:Expr) where
 f:Str
 e:Expr
 b:B1
 ok:(g9 λnp p=>it= .Call (.Name f np) [e] [] p)∧c.glob f=true∧c.fn f=none∧Ai f=some b
abbrev YY (c:Cx) (f:Str) (e it:Expr) (h:g9 λnp p=>it= .Call (.Name f np) [e] [] p):Option (XI c it):=
 if hg:c.glob f=true then match hf:c.fn f,hi:Ai f with
  |none,some b=>some ⟨f,e,b,h,hg,hf,hi⟩
  |_,_=>none
 else none
abbrev Vs (c:Cx):(it:Expr)→Option (XI c it)
 | .Call (.Name f np) [e] [] p=>YY c f e _ ⟨np,p,rfl⟩
 |_=>none
abbrev iW (c:Cx) (it:Expr) (x:E):It:=match Vs c it with
 |none=> .seq x
 |some v=>match x with
  | .b1 _ y=>match v.b with
   | .range=> .range y
   | .oC=> .sU y
   |_=> .oU y
  |x=> .seq x
abbrev G0:CmpOp→Option Cm
 | .Is=>some .kW
 | .IsNot=>some .dw
 |op=>cCm op
abbrev aaO (o:Cm) (y:Expr):Bool:=match o with
 | .kW=>isNone y
 | .dw=>isNone y
 |_=>true
abbrev QQ:CmpOp→Bool
 | .LtE=>true
 |_=>false
abbrev YZ:UnaryOp→Bool
 | .Not=>true
 |_=>false
abbrev Vt:UnaryOp→Bool
 | .USub=>true
 |_=>false
abbrev Y0:BoolOp→Bool
 | .And=>true
 |_=>false
abbrev QR (c:Cx) (f:Str) (t:Expr):Option B1:=(Mq t).bind λt=>if f==("isinstance":Str)&&c.glob t.1 then(if t.1==("tuple":Str)then some .nU else if t.1==("str":Str)then some .qi else none)else none
abbrev aaP (name:Str):Option B2:=if name==("join":Str)then some .join else if name==("rindex":Str)then some .rindex else none
noncomputable abbrev FE:=Cx→Bool→Expr→Option E
abbrev NM (f:FE) (c:Cx):↑Expr→Option Es
 |[]=>some .nil
 |e::r=>(f c false e).bind λx=>(NM f c r).map (.cons x)
abbrev EW (f:FE) (c:Cx):↑Expr→Option Es
 |[]=>some .nil
 |e::r=>(f c (wv e) e).bind λx=>(EW f c r).map (.cons x)
abbrev AQ (f:FE) (c:Cx):↑Expr→Option Es
 |[]=>some .nil
 |e::r=>(f c (Vq e) e).bind λx=>(AQ f c r).map (.cons x)
abbrev cO (f:FE) (c:Cx):Option Expr→Option Oe
 |none=>some .none
 |some e=>(f c false e).map .some
abbrev QS (f:FE) (c:Cx):↑Expr→Option Oe
 |[]=>some .none
 |e::r=>if r.isEmpty then(f c false e).map .some else none
abbrev G1 (f:FE) (c:Cx) (m:Bool):Expr→Option E
 | .Constant k _ _=>(Ah k).map .az
 | .Name x _=>(c.slot x).map .var
 | .Tuple es _ _=>if es.length≤1000 then(NM f c es).map .J else none
 | .List es _=>if es.length≤1000 then(NM f c es).map (.aD m)else none
 | .Dict ks vs _=>(Ag ks).bind λk=>if k.Nodup∧k≠[]∧vs.length=k.length∧(k.length≤15∨(k.length≤1000∧vs.all Af))then(EW f c vs).map (.eO k)else none
 | .BinOp a op b _=>(YT m op).bind λo=>(f c false a).bind λx=>(f c false b).map (.aE o x)
 | .UnaryOp op e _=>if YZ op then(f c false e).map .not else if Vt op then(YX e).map λi=> .az (.int (-i.1))else none
 | .BoolOp op es _=>(NM f c es).map λl=>if Y0 op then .and l else .or l
 | .IfExp t a b _=>(f c false t).bind λx=>(f c m a).bind λy=>(f c m b).map (.ite x y)
 | .Compare l ve rs _=>match rs with
  |[]=>none
  |r::rs=>match rs with
   |[]=>match ve with
    |[op]=>(G0 op).bind λo=>if aaO o r then(f c false l).bind λx=>(f c false r).map (.au o x)else none
    |_=>none
   |b::rs=>match ve,rs with
    |[o1,o2],[]=>if QQ o1&&QQ o2 then(f c false l).bind λx=>(f c false r).bind λy=>(f c false b).map (.xY x y)else none
    |_,_=>none
 | .Subscript e i _=>match i with
  | .Slice lo hi st _=>(f c false e).bind λx=>(cO f c lo).bind λa=>(cO f c hi).bind λb=>(cO f c st).map (.oq x a b)
  |i=>(f c false e).bind λx=>(f c false i).map (.aw x)
 | .Call g es ks p=>if ks.isEmpty then match g with
   | .Name z _=>match c.fn z with
    |some g=>(AQ f c es).map (.call g)
    |none=>if c.glob z then match es with
     |[]=>none
     |e::r=>match r with
      |[]=>(ET.lookup z).bind λb=>(f c false e).map (.b1 b)
      |t::r=>if r.isEmpty then(QR c z t).bind λb=>(f c false e).map (.b1 b)else none
     else none
   | .Attribute o name ap=>if j' o&&ap.endLine==p.line then(f c false o).bind λx=>match es with
    |[]=>if name==("lower":Str)then some (.b1 .lower x)else none
    |e::r=>if r.isEmpty then(aaP name).bind λb=>(f c false e).map (.b2 b x)else none
    else none
   |_=>none
  else none
 | .ListComp eZ gens s _=>if j9 s then
   (zl c (cT s.names)).bind λcap=>(f (et s) false eZ).bind λx=>match gens with
    |[]=>none
    |g::gs=>match g with
     |⟨t,it,ifs,a⟩=>if a==0&&qM (et s) t then(f c false it).bind λi=>(GY (et s) t).bind λtg=>if ov (iW c it i) t then match gs with
      |[]=>(QS f (et s) ifs).map λcc=> .comp cap (gk s.names).length tg (iW c it i) cc x
      |g2::gs=>match g2 with
       |⟨t2,mD,G2,a2⟩=>if a2==0&&qM (et s) t2&&ifs.isEmpty&&G2.isEmpty&&gs.isEmpty then(f (et s) false mD).bind λi2=>(GY (et s) t2).bind λAR=>
        if ov (iW (et s) mD i2) t2 then some (.s9 cap (gk s.names).length tg (iW c it i) AR (iW (et s) mD i2) x)else none else none
      else none else none
  else none
 |_=>none
abbrev cE:Nat→FE
 |0=>λO O O=>none
 |n+1=>G1 (cE n)
abbrev QT:Expr→Bool
 | .Tuple vs _ _=>vs.all (foldedForSure 8)||!vs.all (constantsAlone 8)
 |_=>true
abbrev XJ (f:FE) (c:Cx) (t v:Expr):Option S:=match t with
 | .Name x _=>if ww v then none else(c.slot x).bind λi=>(f c (c.aaN.contains x||wv v) v).map (.bD i)
 | .Tuple es _ _=>if !QT v||EV v then none else(EU c es).bind λl=>if l.Nodup then(f c false v).map (.qJ l)else none
 | .Subscript r i _=>if EV v then none else(f c false r).bind λx=>(f c false i).bind λy=>(f c false v).map (.ui x y)
 |_=>none
abbrev QU (f:FE) (c:Cx) {e:Expr} (m:YW e):Option S:=if j' m.o&&m.ap.endLine==m.p.line then(f c false m.o).bind λx=>match m.es with
 |[]=>if m.name==("pop":Str)then some (.QC x)else none
 |e::r=>if r.isEmpty then(f c false e).bind λy=>if m.name==("append":Str)then some (.jh x y)else if m.name==("extend":Str)then some (.ext x y)else none else none else none
structure aaQ (l:↑ExceptHandler) where
 cls:Str
 x:Str
 y:Str
 NN:Str
 ok:Vg λkp yp ap rp hp=>l=[.ExceptHandler (some (.Name cls kp)) (some x) [.Return (some (.Attribute (.Name y yp) NN ap)) rp] hp]
abbrev QV:(l:↑ExceptHandler)→Option (aaQ l)
 |[.ExceptHandler (some (.Name cls kp)) (some x) [.Return (some (.Attribute (.Name y yp) NN ap)) rp] hp]=>some ⟨cls,x,y,NN,kp,yp,ap,rp,hp,rfl⟩
 |_=>none
abbrev XK:(l:↑Stmt)→Option {e:Expr//∃p,l=[.Expr e p]}
 |[.Expr e p]=>some ⟨e,p,rfl⟩
 |_=>none
abbrev Y1:Operator→Bool
 | .Sub=>true
 |_=>false
abbrev EX (g:Stmt→Option S):↑Stmt→Option Ss
 |[]=>some .nil
 |s::r=>(g s).bind λx=>(EX g r).map (.cons x)
abbrev cS1 (f:FE) (g:Stmt→Option S) (c:Cx):Stmt→Option S
 | .Assign ts v _=>match ts with
  |[]=>none
  |t::r=>if r.isEmpty then XJ f c t v else none
 | .AugAssign t op v _=>if Y1 op then(Mq t).bind λx=>(c.slot x.1).bind λi=>(f c false v).map (.QB i)else none
 | .If t a b _=>(f c false t).bind λx=>(EX g a).bind λy=>(EX g b).map (.aU x y)
 | .For t it b e _=>if e.isEmpty then(GY c t).bind λx=>(f c false it).bind λy=>if ov (iW c it y) t then(EX g b).map (.ej x (iW c it y))else none else none
 | .While t b e _=>if e.isEmpty then(f c false t).bind λx=>(EX g b).map (.EO x)else none
 | .Return e _=>match e with
  |none=>some (.ret .none)
  |some e=>(f c false e).map λx=> .ret (.some x)
 | .Raise e z _=>match e,z with
  |some e,none=>(wx e).bind λx=>if x.f==("CompileFault":Str)&&c.glob x.f then match x.es with
   |[e]=>(f c false e).map .dU
   |_=>none else none
  |_,_=>none
 | .Continue _=>some .cont
 | .Expr e _=>match Ju e with
  |some m=>QU f c m
  |none=>(wx e).bind λO=>(f c false e).map .dC
 | .Try b hs e cC _=>if e.isEmpty&&cC.isEmpty then(XK b).bind λx=>(wx x.1).bind λy=>(QV hs).bind λh=>
   if h.cls==("CompileFault":Str)&&c.glob h.cls&&h.x==h.y&&h.NN==("why":Str)&&c.names.lookup h.x==some .local&&h.x !=("__debug__":Str)then
   match y.es with
   |[z]=>(Mq z).bind λz=>(c.fn y.f).bind λq=>(c.slot z.1).map λi=> .pM q (.var i)
   |_=>none
   else none else none
 |_=>none
abbrev cS (f:FE) (c:Cx):Nat→Stmt→Option S
 |0,_=>none
 |n+1,s=>cS1 f (cS f c n) c s
mutual
noncomputable def Y2:Stmt→↑Str
 | .If _ a b _=>wy a++wy b
 | .For _ _ b _ _=>wy b
 | .Expr (.Call (.Attribute (.Name x _) _ _) _ _ _) _=>[x]
 |_=>[]
noncomputable def wy:↑Stmt→↑Str
 |[]=>[]
 |s::r=>Y2 s++wy r
end
abbrev wz (args:↑Str) (names:↑(Str×NameKind)):↑Str:=
 args++(names.filter λp=>(p.2== .local||p.2== .cell)&&!args.contains p.1).map (·.1)
abbrev DA (s:Scope):Bool:=s.kind== .function&&!s.isGenerator&&!s.isCoroutine&&lH s.names&&s.names.all λp=>p.2== .local||p.2== .cell||p.2== .globalImplicit
abbrev cFn:Stmt→Option Fn
 | .FunctionDef _ args body [] none [] scope none _ _=>
  if DA scope&&args.posonlyargs.isEmpty&&args.vararg.isNone&&args.kwonlyargs.isEmpty&&args.kwarg.isNone&&args.defaults.isEmpty then
   let ps:=args.args.map (·.arg)
   let sl:=wz ps scope.names
   if sl.Nodup then
    (EX (cS (cE 60) ⟨scope.names,sl,wy body⟩ 60) body).map λb=>⟨ps.length,sl.length,b⟩
   else none
  else none
 |_=>none
set_option backward.match.sparseCases true
noncomputable abbrev n9 (vs:↑Value) (n:Nat):Obj:={cls:= .type "tuple",data:= .seq vs.toArray n}
noncomputable abbrev ew (vs:↑Value) (n:Nat):Obj:={cls:= .type "list",data:= .seq vs.toArray n}
abbrev dJ (h h':Heap):Prop:=∀b o,h.get? b=some o→h'.get? b=some o
theorem dJ.refl (h:Heap):dJ h h:=λO O e=>e
variable {h h' gC:Heap}
theorem dJ.trans (x:dJ h h') (y:dJ h' gC):dJ h gC:=λb o e=>y b o (x b o e)
theorem dJ.push (h:Heap) (o:Obj):dJ h (h.push o):=λO O e=>lv o e
abbrev cN (h:Heap) (a:Addr):Prop:=h.get? a=none
theorem cN.size (h:Heap):cN h h.objs.size:=rn (cF _)
variable {a:Addr} {o:Obj}
theorem cN.not (n:cN h a) (e:h.get? a=some o):False:=by unfold cN at n;rw [n]at e;cases e
abbrev sC (h h':Heap):Prop:=∀b o,h.get? b=some o→∃o',h'.get? b=some o'
theorem sC.jV (x:sC h h') (n:cN h' a):cN h a:=by
 unfold cN
 generalize e:h.get? a=o0;induction o0 using di with
 |none=>rfl
 |some o=>obtain ⟨o',e'⟩:=x a o e;exact (n.not e').elim
theorem dJ.wA (x:dJ h h'):sC h h':=λb o e=>⟨o,x b o e⟩
abbrev b7 (X F:↑Addr) (h h':Heap):Prop:=
 sC h h'∧∀b o,h.get? b=some o→b∉X→∃sl,h'.get? b=some {o with slots:=sl}∧(b∉F→sl=o.slots)
variable {X:↑Addr}
theorem b7.of_keep {F:↑Addr} (k:dJ h h'):b7 X F h h':=⟨k.wA,λb o e O=>⟨o.slots,k b o e,λO=>rfl⟩⟩
theorem b7.refl {F:↑Addr} (h:Heap):b7 X F h h:= .of_keep (.refl h)
theorem b7.get {F:↑Addr} (x:b7 X F h h') {b:Addr} (e:h.get? b=some o) (hX:b∉X) (hF:b∉F):h'.get? b=some o:=by
 obtain ⟨sl,h1,h2⟩:=x.2 b o e hX
 rw [h2 hF]at h1;exact h1
variable {X':↑Addr}
theorem b7.trans {F:↑Addr} (x:b7 X F h h') (y:b7 X' F h' gC) (hX:∀a∈X',a∈X∨cN h a):b7 X F h gC:=by
 refine ⟨λb o e=>let⟨o',e'⟩:=x.1 b o e;y.1 b o' e',λb o e hb=>?_⟩
 obtain ⟨sl,h1,h2⟩:=x.2 b o e hb
 have pz:b∉X':=λhm=>(hX b hm).elim hb λn=>n.not e
 obtain ⟨QW,h3,h4⟩:=y.2 b _ h1 pz
 exact ⟨QW,h3,λhF=>(h4 hF).trans (h2 hF)⟩
theorem b7.mono {F:↑Addr} (x:b7 X F h h') (hX:∀a∈X,a∈X'∨cN h a):b7 X' F h h':=
 b7.trans (.refl h) x hX
theorem b7.Y3 {F F':↑Addr} (x:b7 X F h h') (hF:∀a∈F,a∈F'∨cN h a):b7 X F' h h':=
 ⟨x.1,λb o e hb=>let⟨sl,h1,h2⟩:=x.2 b o e hb;⟨sl,h1,λhn=>h2 λhm=>(hF b hm).elim hn λn=>n.not e⟩⟩
theorem b7.slots {F:↑Addr} (x:b7 X F h h') {b:Addr} (e:h.get? b=some o) (hX:b∉X):∃sl,h'.get? b=some {o with slots:=sl}:=
 let⟨sl,h1,_⟩:=x.2 b o e hX;⟨sl,h1⟩
theorem b7.sameBut {F:↑Addr} (hs:Heap.SameBut a h h') (ho:h'.get? a=some o) (ha:a∈X):b7 X F h h':=
 ⟨λb o' e=>by
  by_cases q:b=a
  ·exact ⟨o,q▸ho⟩
  ·exact ⟨o',(hs.2 b q).trans e⟩,λb o e hb=>⟨o.slots,(hs.2 b λq=>hb (q▸ha)).trans e,λO=>rfl⟩⟩
abbrev Mr (F own:↑Addr):Prop:=∀f∈F,f∈own
mutual
inductive RD (h:Heap) (X:↑Addr):Value→D→Prop
 |none:RD h X .none .none
 |bool (b:Bool):RD h X (.bool b) (.bool b)
 |int (i:Int) (t:Tok):RD h X (.int i t) (.int i)
 |str (s:Str) (t:Tok):RD h X (.str s t) (.str s)
 |J {a:Addr} {vs:↑Value} {n:Nat} {l:↑D}:h.get? a=some (n9 vs n)→a∉X→cJ h X vs l→RD h X (.ref a) (.J l)
 |aD {a:Addr} {vs:↑Value} {n:Nat} {l:↑D}:h.get? a=some (ew vs n)→a∉X→cJ h X vs l→RD h X (.ref a) (.aD l)
inductive cJ (h:Heap) (X:↑Addr):↑Value→↑D→Prop
 |nil:cJ h X [] []
 |cons {v:Value} {vs:↑Value} {d:D} {l:↑D}:RD h X v d→cJ h X vs l→cJ h X (v::vs) (d::l)
end
abbrev eU (h h':Heap) (X X':↑Addr):Prop:=(∀b o,h.get? b=some o→b∉X→(o.cls= .type "tuple"∨o.cls= .type "list"∨o.cls= .type "dict")→h'.get? b=some o)∧∀b o,h.get? b=some o→b∉X→b∉X'
theorem eU.keep (k:dJ h h'):eU h h' X X:=⟨λb o e O O=>k b o e,λO O O hb=>hb⟩
theorem eU.ext {F:↑Addr} (x:b7 X F h h') (f:∀a∈F,a∈X) (hX:∀a∈X',a∈X∨cN h a):eU h h' X X':=
 ⟨λb o e hb O=>x.get e hb λhF=>hb (f b hF),λb o e hb hm=>(hX b hm).elim hb λn=>n.not e⟩
theorem eU.DB (hX:∀a∈X',a∈X):eU h h X X':=⟨λO O e O O=>e,λb O O hb hm=>hb (hX b hm)⟩
variable {d:D}
theorem RD.into (i:eU h h' X X') {v:Value} (x:RD h X v d):RD h' X' v d:=
 RD.rec (motive_1:=λv d O=>RD h' X' v d) (motive_2:=λvs l O=>cJ h' X' vs l) .none .bool .int .str (λe hX O ih=> .J (i.1 _ _ e hX (.inl H)) (i.2 _ _ e hX) ih) (λe hX O ih=> .aD (i.1 _ _ e hX (.inr (.inl H))) (i.2 _ _ e hX) ih) .nil (λO O a r=> .cons a r) x
variable {vs:↑Value} {l:↑D}
@[elab_as_elim] theorem cJ.NO {P:↑Value→↑D→Prop} (r:cJ h X vs l) (nil:P [] []) (cons:∀v vs d l,RD h X v d→cJ h X vs l→P vs l→P (v::vs) (d::l)):P vs l:=
 cJ.rec (motive_1:=λO O O=>True) (motive_2:=λvs l O=>P vs l) trivial (λO=>trivial) (λO O=>trivial) (λO O=>trivial) (λO O O O=>trivial) (λO O O O=>trivial) nil (λa r O ih=>cons _ _ _ _ a r ih) r
theorem cJ.into (i:eU h h' X X') (r:cJ h X vs l):cJ h' X' vs l:=r.NO .nil λO O O O a O ih=> .cons (a.into i) ih
variable {us:↑Value} {x:D}
theorem cJ.length (r:cJ h X vs l):vs.length=l.length:=r.NO H λO O O O O O ih=>aC (·+1) ih
theorem cJ.append {m:↑D} (r:cJ h X vs l) (k:cJ h X us m):cJ h X (vs++us) (l++m):=r.NO k λO O O O a O ih=> .cons a ih
theorem cJ.aaR (r:cJ h X vs l):∀(i:Nat) (x:D),l[i]?=some x→∃v,vs[i]?=some v∧RD h X v x:=
 r.NO (λO O e=>by cases e) λv vs d l a O ih i x e=>by
  induction i using gi with
  |zero=>exact ⟨v,rfl,bb e▸a⟩
  |succ i=>exact ih i x e
theorem cJ.get (r:cJ h X vs l) (e:l[i]?=some x):∃v,vs[i]?=some v∧RD h X v x:=r.aaR i x e
theorem cJ.set (r:cJ h X vs l):∀(i:Nat) {v:Value} {x:D},RD h X v x→cJ h X (vs.set i v) (l.set i x):=
 r.NO (λO O O O=> .nil) λv vs d l a r ih i O O q=>by
  induction i using gi with
  |zero=>exact .cons q r
  |succ i=>exact .cons a (ih i q)
theorem cJ.take (r:cJ h X vs l):∀i:Nat,cJ h X (vs.take i) (l.take i):=
 r.NO (λi=>by refine ae List.take_nil (ae List.take_nil ?_);exact .nil) λv vs d l a r ih i=>by
  induction i using gi with
  |zero=>exact .nil
  |succ i=>exact .cons a (ih i)
theorem cJ.reverse (r:cJ h X vs l):cJ h X vs.reverse l.reverse:=by
 induction vs generalizing l with
 |nil=>cases r;exact .nil
 |cons v vs ih=>
  cases r with
  |cons a r=>refine ae List.reverse_cons (ae List.reverse_cons ?_);exact (ih r).append (.cons a .nil)
theorem cJ.j7 (r:cJ h X vs l) (is:↑Nat):cJ h X (Mine.j7 vs is) (Mine.j7 l is):=by
 induction is with
 |nil=>exact .nil
 |cons i is dS=>
  have ih:=dS
  unfold Mine.j7 at ih⊢
  refine ae lU (ae lU ?_)
  generalize hl:l[i]?=o0;induction o0 using di with
  |some x=>
   obtain ⟨v,hv,hr⟩:=r.get hl
   refine ae hv ?_;exact .cons hr ih
  |none=>
   have:vs[i]?=none:=by
    rw [List.getElem?_eq_none_iff]at hl⊢
    refine ae r.length ?_;exact hl
   refine ae this ?_;exact ih
theorem cJ.dropLast (r:cJ h X vs l):cJ h X vs.dropLast l.dropLast:=by
 refine ae List.dropLast_eq_take (ae List.dropLast_eq_take (ae r.length ?_));exact r.take _
abbrev Mu (μ e6:↑Addr):Prop:=∀(n:Nat) (a:Addr),μ[n]?=some a→e6[n]?=some a
theorem Mu.refl (μ:↑Addr):Mu μ μ:=λO O e=>e
theorem Mu.append (μ ν:↑Addr):Mu μ (μ++ν):=λn a e=>by refine ae (lT (jo.mp e).1) ?_;exact e
inductive wB (h:Heap) (X μ:↑Addr):Value→At→Prop
 |d {v:Value} {x:D}:RD h X v x→wB h X μ v (.d x)
 |ref {a:Addr} {n:Nat}:μ[n]?=some a→wB h X μ (.ref a) (.ref n)
inductive hW (h:Heap) (X μ:↑Addr):↑(Str×Value)→↑(Str×At)→Prop
 |nil:hW h X μ [] []
 |cons {k:Str} {v:Value} {a:At} {bP:↑(Str×Value)} {l:↑(Str×At)}:wB h X μ v a→hW h X μ bP l→hW h X μ ((k,v)::bP) ((k,a)::l)
section
variable (prog:Program) (w:World)
inductive RV (h:Heap) (X μ:↑Addr):Value→V→Prop
 |d {v:Value} {x:D}:RD h X v x→RV h X μ v (.d x)
 |ref {a:Addr} {n:Nat}:μ[n]?=some a→RV h X μ (.ref a) (.ref n)
 |eO {a:Addr} {bP:↑(Str×Value)} {l:↑(Str×At)}:h.DictOf (strKind prog w) a bP→a∉X→(a==sysModules)=false→hW h X μ bP l→RV h X μ (.ref a) (.eO l)
inductive uF (h:Heap) (X μ:↑Addr):↑Value→↑V→Prop
 |nil:uF h X μ [] []
 |cons {v:Value} {vs:↑Value} {d:V} {l:↑V}:RV prog w h X μ v d→uF h X μ vs l→uF h X μ (v::vs) (d::l)
inductive RC (h:Heap) (X μ:↑Addr):Addr→iq→Prop
 |list {a:Addr} {vs:↑Value} {n:Nat} {l:↑D}:h.get? a=some (ew vs n)→cJ h X vs l→RC h X μ a (.list l)
 |dict {a:Addr} {bP:↑(Str×Value)} {l:↑(Str×At)}:h.DictOf (strKind prog w) a bP→(a==sysModules)=false→hW h X μ bP l→RC h X μ a (.dict l)
inductive iR (h:Heap) (X μ:↑Addr):↑Addr→St→Prop
 |nil:iR h X μ [] []
 |cons {a:Addr} {as:↑Addr} {c:iq} {cs:St}:RC prog w h X μ a c→iR h X μ as cs→iR h X μ (a::as) (c::cs)
end
variable {μ e6:↑Addr}
theorem wB.into (i:eU h h' X X') (vf:Mu μ e6) {v:Value} {a:At} (x:wB h X μ v a):wB h' X' e6 v a:=by
 induction x using wB.casesOn with
 |d r=>exact .d (r.into i)
 |ref e=>exact .ref (vf _ _ e)
variable {bP:↑(Str×Value)}
theorem hW.into (i:eU h h' X X') (vf:Mu μ e6) {l:↑(Str×At)} (r:hW h X μ bP l):hW h' X' e6 bP l:=by
 induction r with
 |nil=>exact .nil
 |cons a _ ih=>exact .cons (a.into i vf) ih
variable {as:↑Addr} {σ τ:St} {prog:Program}
section
variable {w:World}
theorem DictOf.into (i:eU h h' X X') (x:h.DictOf (strKind prog w) a bP) (ha:a∉X):h'.DictOf (strKind prog w) a bP∧a∉X':=
 by obtain ⟨o,es,ep,ho,hc,r⟩:=x;exact ⟨⟨o,es,ep,i.1 a o ho ha (.inr (.inr hc.1)),hc,r⟩,i.2 a o ho ha⟩
theorem RV.into (i:eU h h' X X') (vf:Mu μ e6) {v:Value} {a:V} (x:RV prog w h X μ v a):RV prog w h' X' e6 v a:=by
 induction x using RV.casesOn with
 |d r=>exact .d (r.into i)
 |ref e=>exact .ref (vf _ _ e)
 |eO e hX hs r=>exact .eO (DictOf.into i e hX).1 (DictOf.into i e hX).2 hs (r.into i vf)
theorem uF.length {l:↑V} (r:uF prog w h X μ vs l):vs.length=l.length:=by
 induction r with
 |nil=>rfl
 |cons _ _ ih=>exact aC (·+1) ih
theorem uF.ds {l:↑V} (r:uF prog w h X μ vs l):∀{ds:↑D},wm l= .ok ds→cJ h X vs ds:=by
 induction r with
 |nil=>exact λe=>R.aF (e:) .nil
 |cons a _ ih=>
  intro ds e
  induction a using RV.casesOn with
  |d x=>exact R.ah (e:) λm hm e=>R.aF e (.cons x (ih hm))
  |_=>exact R.no (e:)
theorem iR.length (r:iR prog w h X μ as σ):as.length=σ.length:=by
 induction r with
 |nil=>rfl
 |cons _ _ ih=>exact aC (·+1) ih
theorem iR.get (r:iR prog w h X μ as σ):∀{i:Nat} {c:iq},σ[i]?=some c→∃a,as[i]?=some a∧RC prog w h X μ a c:=by
 induction r with
 |nil=>intro i c e;cases e
 |cons a _ ih=>
  intro i c e
  induction i using gi with
  |zero=>exact ⟨_,rfl,bb e▸a⟩
  |succ i=>exact ih e
theorem iR.append {bs:↑Addr} (r:iR prog w h X μ as σ) (k:iR prog w h X μ bs τ):iR prog w h X μ (as++bs) (σ++τ):=by
 induction r with
 |nil=>exact k
 |cons a _ ih=>exact .cons a ih
theorem RC.into (i:eU h h' X X') (vf:Mu μ e6) (same:∀o,h.get? a=some o→h'.get? a=some o) {c:iq} (x:RC prog w h X μ a c):RC prog w h' X' e6 a c:=by
 induction x using RC.casesOn with
 |list e r=>exact .list (same _ e) (r.into i)
 |dict e hs r=>obtain ⟨o,es,ep,ho,hc,q⟩:=e;exact .dict ⟨o,es,ep,same o ho,hc,q⟩ hs (r.into i vf)
theorem iR.into (i:eU h h' X X') (vf:Mu μ e6) (same:∀a∈as,∀o,h.get? a=some o→h'.get? a=some o) (r:iR prog w h X μ as σ):iR prog w h' X' e6 as σ:=by
 induction r with
 |nil=>exact .nil
 |cons a _ ih=>exact .cons (a.into i vf (same _ bZ)) (ih λb hb=>same b (bY _ hb))
theorem RC.get {c:iq} (x:RC prog w h X μ a c):∃o,h.get? a=some o∧(o.cls= .type "list"∨o.cls= .type "dict"):=by
 induction x using RC.casesOn with
 |list e _=>exact ⟨_,e, .inl H⟩
 |dict e _ _=>obtain ⟨o,_,_,ho,hc,_⟩:=e;exact ⟨o,ho, .inr hc.1⟩
theorem iR.set (i:eU h h' X X') (vf:Mu μ e6) {c:iq} (nd:as.Nodup) (e:as[n]?=some a)
  (same:∀b,b≠a→∀o,b∈as→h.get? b=some o→h'.get? b=some o) (x:RC prog w h' X' e6 a c) (r:iR prog w h X μ as σ):iR prog w h' X' e6 as (σ.set n c):=by
 induction r generalizing n with
 |nil=>simp at e
 |@cons XM as abS cs y r ih=>
  have hn:=gP.mp nd
  induction n using gi with
  |zero=>
   simp only [List.getElem?_cons_zero,Option.some.injEq]at e;subst e
   exact .cons x (iR.into i vf (λb hb o ho=>same b (λq=>hn.1 (q▸hb)) o (bY _ hb) ho) r)
  |succ n=>
   have e':as[n]?=some a:=by simpa using e
   have gd:XM≠a:=λq=>hn.1 (q▸fJ e')
   exact .cons (y.into i vf λo ho=>same XM gd o bZ ho) (ih hn.2 e' λb hb o hm ho=>same b hb o (bY _ hm) ho)
end
set_option backward.match.sparseCases false
variable {A:Around}
theorem wpE {M:Model} {a b:Sem α} {Q:α→Shared→Prop} {E: ~~~0} {s:Shared} (h:a=b) (k:wpAny M A b Q E s):wpAny M A a Q E s:=h▸k
variable {E0: ~~~0}
theorem opq {M:Model} {t:Sem α} {Q0:α→Shared→Prop} {s:Shared} (h:∀Q E,Q0=Q→E0=E→wpAny M A t Q E s):wpAny M A t Q0 E0 s:=h _ _ rfl rfl
theorem abT {M:Model} {a b:Sem α} {f:α→Sem β} {Q:β→Shared→Prop} {E: ~~~0} {s:Shared} (h:a=b) (k:wpAny M A (b>>=f) Q E s):wpAny M A (a>>=f) Q E s:=h▸k
variable {Y:↑Addr} {b:Bool}
section
variable {s:Shared}
theorem cH (e:h.get? a=some (n9 vs n)):h.IsTuple a vs.toArray:=⟨_,e,rfl,n,rfl⟩
theorem bM (e:h.get? a=some (ew vs n)):h.IsList a vs.toArray:=⟨_,e,rfl,n,rfl⟩
theorem Aj {v u:Value} {y:D} (hv:RD s.heap X v x) (hu:RD s.heap Y u y) (hy:flat y=true) (hc:A.units<cLine):RcAt A s v u (CF x y):=by
 induction hu using RD.casesOn with
 |none=>induction hv using RD.casesOn with
  |none=>exact .none_none
  |bool=>exact .bool_none _
  |int=>exact .int_none _ _
  |str=>exact .str_none _ _
  |J e _ _=>exact .tuple_none (cH e) hc
  |aD e _ _=>exact .list_none (bM e) hc
 |bool=>induction hv using RD.casesOn with
  |none=>exact .none_bool _
  |bool=>exact .bool_bool _ _
  |int=>exact .int_bool _ _ _
  |str=>exact .str_bool _ _ _
  |J e _ _=>exact .tuple_bool _ (cH e) hc
  |aD e _ _=>exact .list_bool _ (bM e) hc
 |int=>induction hv using RD.casesOn with
  |none=>exact .none_int _ _
  |bool=>exact .bool_int _ _ _
  |int=>exact .int_int _ _ _ _
  |str=>exact .str_int _ _ _ _
  |J e _ _=>exact .tuple_int _ _ (cH e) hc
  |aD e _ _=>exact .list_int _ _ (bM e) hc
 |str=>induction hv using RD.casesOn with
  |none=>exact .none_str _ _
  |bool=>exact .bool_str _ _ _
  |int=>exact .int_str _ _ _ _
  |str=>exact .str_str _ _ _ _
  |J e _ _=>exact .tuple_str _ _ (cH e) hc
  |aD e _ _=>exact .list_str _ _ (bM e) hc
 |J=>exact al hy gA
 |aD=>exact al hy gA
theorem wC {v u:Value} {y:D} (hv:RD s.heap X v x) (hu:RD s.heap Y u y) (hy:flat y=true) (hc:A.units<cLine):EqAt A s v u (CF x y):=by
 induction hu using RD.casesOn with
 |none=>induction hv using RD.casesOn with
  |none=>exact .same _
  |bool=>exact .bool_none _
  |int=>exact .int_none _ _
  |str=>exact .str_none _ _
  |J e _ _=>exact .tuple_none (cH e) hc
  |aD e _ _=>exact .list_none (bM e) hc
 |bool=>induction hv using RD.casesOn with
  |none=>exact .none_bool _
  |bool=>exact .bool_bool _ _
  |int=>exact .int_bool _ _ _
  |str=>exact .str_bool _ _ _
  |J e _ _=>exact .tuple_bool _ (cH e) hc
  |aD e _ _=>exact .list_bool _ (bM e) hc
 |int=>induction hv using RD.casesOn with
  |none=>exact .none_int _ _
  |bool=>exact .bool_int _ _ _
  |int=>exact .int_int _ _ _ _
  |str=>exact .str_int _ _ _ _
  |J e _ _=>exact .tuple_int _ _ (cH e) hc
  |aD e _ _=>exact .list_int _ _ (bM e) hc
 |str=>induction hv using RD.casesOn with
  |none=>exact .none_str _ _
  |bool=>exact .bool_str _ _ _
  |int=>exact .int_str _ _ _ _
  |str=>exact .str_str _ _ _ _
  |J e _ _=>exact .tuple_str _ _ (cH e) hc
  |aD e _ _=>exact .list_str _ _ (bM e) hc
 |J=>exact al hy gA
 |aD=>exact al hy gA
abbrev G3 (l m:↑D) (j:Nat):Bool:=match l[j]?,m[j]?with
 |some x,some y=>CF x y
 |_,_=>true
theorem QX (l:↑D):∀m,((List.range (min l.length m.length)).all (G3 l m)&&l.length==m.length)=zi l m:=by
 induction l with
 |nil=>intro m;induction m using bu<;>rfl
 |cons x r ih=>
  intro m
  induction m using bu with
  |nil=>rfl
  |cons y t=>
   have e2:(G3 (x::r) (y::t))∘Nat.succ=G3 r t:=rfl
   show _=(CF x y&&zi r t)
   rw [←ih t,gO,gO,Nat.add_min_add_right,List.range_succ_eq_map,om,List.all_map,e2,Bool.and_assoc]
   exact aC (λb=>CF x y&&((List.range (min r.length t.length)).all (G3 r t)&&b)) (Bool.eq_iff_iff.mpr (by simp))
theorem DC (e:h.get? a=some (n9 vs n)) (e':h.get? a=some (n9 us m)):vs=us:=by
 rw [e]at e';injection e' with e';injection e' with _ _ e' _;injection e' with e' _;exact aC Array.toList e'
theorem DD (e:h.get? a=some (ew vs n)) (e':h.get? a=some (ew us m)):vs=us:=by
 rw [e]at e';injection e' with e';injection e' with _ _ e' _;injection e' with e' _;exact aC Array.toList e'
theorem wD (e:h.get? a=some (n9 vs n)) (e':h.get? a=some (ew us m)):False:=by
 rw [e]at e';injection e' with e';injection e' with e1 _ _ _;injection e1 with e1;exact al e1 ∅
abbrev RDv (h:Heap) (Y:↑Addr):Value→D→Prop
 | .none,y=>y= .none
 | .bool b,y=>y= .bool b
 | .int i _,y=>y= .int i
 | .str s _,y=>y= .str s
 | .ref a,y=>s6 λvs l n=>cJ h Y vs l∧((h.get? a=some (n9 vs n)∧y= .J l)∨(h.get? a=some (ew vs n)∧y= .aD l))
 |_,_=>False
theorem RD.rM {v:Value} {y:D} (r:RD h Y v y):RDv h Y v y:=by
 induction r using RD.casesOn with
 |J e _ r=>exact ⟨_,_,_,r, .inl ⟨e,H⟩⟩
 |aD e _ r=>exact ⟨_,_,_,r, .inr ⟨e,H⟩⟩
 |_=>rfl
theorem cJ.rM {m:↑D} (r:cJ h Y vs m):(vs=[]∧m=[])∨Vf λv us y l=>CD (vs=v::us) (m=y::l) (RD h Y v y) (cJ h Y us l):=by
 induction r using cJ.casesOn with
 |nil=>exact .inl ⟨rfl,rfl⟩
 |cons a r=>exact .inr ⟨_,_,_,_,rfl,rfl,a,r⟩
theorem RD.inj {v:Value} {y:D} (a:RD h X v x):RD h Y v y→x=y:=
 RD.rec (motive_1:=λv x O=>∀y,RD h Y v y→x=y) (motive_2:=λvs l O=>∀m,cJ h Y vs m→l=m)
  (λO q=>q.rM.symm) (λO O q=>q.rM.symm) (λO O O q=>q.rM.symm) (λO O O q=>q.rM.symm)
  (λe O O ih y q=>by
   obtain ⟨vs,l,n,r,⟨e',rfl⟩|⟨e',rfl⟩⟩:=q.rM
   ·exact ae (ih l (DC e e'▸r)) H
   ·exact (wD e e').elim)
  (λe O O ih y q=>by
   obtain ⟨vs,l,n,r,⟨e',rfl⟩|⟨e',rfl⟩⟩:=q.rM
   ·exact (wD e' e).elim
   ·exact ae (ih l (DD e e'▸r)) H)
  (λm q=>by
   rcases q.rM with⟨_,rfl⟩|⟨_,_,_,_,h,_⟩
   ·rfl
   ·exact nomatch h)
  (λO O ih1 tj m q=>by
   rcases q.rM with⟨h,_⟩|⟨_,_,_,_,h,rfl,b,q⟩
   ·exact nomatch h
   ·obtain ⟨rfl,rfl⟩:=jq h;exact ae (ih1 _ b) (ae (tj _ q) rfl)) a y
theorem NP (hx:flat x=true):CF x x=true:=by
 induction x using D.casesOn<;>first|rfl|exact beq_self_eq_true _|exact nomatch hx
theorem RD.AS {v:Value} {y:D} (a:RD h X v x) (b:RD h Y v y) (hy:flat y=true):CF x y=true:=by
 refine ae (a.inj b) ?_;exact NP hy
theorem cJ.AS {m:↑D} (a:cJ h X vs l) (b:cJ h Y vs m) (hm:m.all flat=true):zi l m=true:=by
 induction vs generalizing l m with
 |nil=>cases a;cases b;rfl
 |cons v vs ih=>
  cases a with
  |cons a r=>cases b with
   |cons b q=>
    simp only [om,c9]at hm
    rw [zi,a.AS b hm.1];refine ae (ih r q hm.2) ?_;rfl
theorem QY {m:↑D} (hv:cJ s.heap X vs l) (hu:cJ s.heap Y us m) (hm:m.all flat=true) (hc:A.units<cLine):
  ∀j (h1:j<vs.toArray.size) (h2:j<us.toArray.size),EqAt A s vs.toArray[j] us.toArray[j] (G3 l m j):=by
 intro j h1 h2
 have e1:vs[j]?=some vs.toArray[j]:=by simp
 have e2:us[j]?=some us.toArray[j]:=by simp
 have l1:j<l.length:=by refine dg hv.length ?_;simpa using h1
 have l2:j<m.length:=by refine dg hu.length ?_;simpa using h2
 obtain ⟨v,EY,hv2⟩:=hv.get (fE l1)
 obtain ⟨u,G4,hu2⟩:=hu.get (fE l2)
 rw [e1]at EY;rw [e2]at G4
 have EY:=bb EY;have G4:=bb G4
 refine ae EY (ae G4 ?_)
 have e3:G3 l m j=CF l[j] m[j]:=by simp [G3,l1,l2]
 refine ae e3 ?_
 exact wC hv2 hu2 (eI.mp hm _ (rD l2)) hc
theorem Ms {b:Addr} {k:Nat} {m:↑D} (ha:s.heap.get? a=some (n9 vs n)) (hb:s.heap.get? b=some (n9 us k)) (hv:cJ s.heap X vs l) (hu:cJ s.heap Y us m)
  (hm:m.all flat=true) (hc:A.units+1<cLine):RcAt A s (.ref a) (.ref b) (zi l m):=by
 have:=RcAt.tuples (A:=A) (s:=s) (e:=G3 l m) (cH ha) (cH hb) (av hc) (QY hv hu hm (hc))
 have e:=QX l m
 rw [←hv.length,←hu.length]at e
 simp only [dN]at this
 rw [e]at this
 exact this
theorem zm {b:Addr} {k:Nat} (e1:s.heap.get? a=some (ew vs n)) (e2:s.heap.get? b=some (ew [] k)) (r:cJ s.heap X vs l) (hc:A.units<cLine):RcAt A s (.ref a) (.ref b) l.isEmpty:=by
 have cb:=r.length
 induction l using bu with
 |nil=>
  obtain rfl:vs=[]:=xW.mp cb
  have:=RcAt.lists (A:=A) (s:=s) (e:=λO=>true) (bM e1) (bM e2) H hc (λj h1=>al h1 (Nat.not_lt_zero _))
  simpa using this
 |cons d l=>exact RcAt.lists_lengths (bM e1) (bM e2) (by simp;intro q;subst q;simp at cb) hc
theorem Vu {v u:Value} {y:D} (hv:RD s.heap X v x) (hu:RD s.heap Y u y) (h:xZ x y= .ok b) (hc:A.units+1<cLine):RcAt A s v u b:=by
 have rN:A.units<cLine:=Nat.lt_of_succ_lt hc
 induction hu using RD.casesOn with
 |J e2 n2 r2=>
  induction hv using RD.casesOn with
  |J e1 n1 r1=>exact R.bn (h:) λhm h=>R.aF h (Ms e1 e2 r1 r2 hm hc)
  |aD=>exact R.no (h:)
  |none=>exact R.aF (h:) (.none_tuple (cH e2) rN)
  |bool=>exact R.aF (h:) (.bool_tuple _ (cH e2) rN)
  |int=>exact R.aF (h:) (.int_tuple _ _ (cH e2) rN)
  |str=>exact R.aF (h:) (.str_tuple _ _ (cH e2) rN)
 |aD e2 n2 r2=>
  induction hv using RD.casesOn with
  |aD e1 n1 r1=>
   induction r2 using cJ.casesOn with
   |cons _ _=>exact R.no (h:)
   |nil=>exact R.aF (h:) (zm e1 e2 r1 rN)
  |_=>exact R.no (h:)
 |none=>exact R.aF (h:) (Aj (Y:=[]) hv .none H rN)
 |bool c=>exact R.aF (h:) (Aj (Y:=[]) hv (.bool c) H rN)
 |int c t=>exact R.aF (h:) (Aj (Y:=[]) hv (.int c t) H rN)
 |str c t=>exact R.aF (h:) (Aj (Y:=[]) hv (.str c t) H rN)
theorem Ak {v u:Value} {y:D} (hv:RD s.heap X v x) (hu:RD s.heap Y u y) (h:xZ x y= .ok b) (hc:A.units+1<cLine):EqAt A s v u b:=by
 have rN:A.units<cLine:=Nat.lt_of_succ_lt hc
 induction hu using RD.casesOn with
 |@J a us k m e2 n2 r2=>
  induction hv using RD.casesOn with
  |@J a' vs n l e1 n1 r1=>
   refine R.bn (h:) λhm h=>R.aF h ?_
   by_cases gd:a'=a
   ·subst gd
    refine ae (r1.AS (DC e1 e2▸r2) hm) ?_
    exact .same _
   ·exact .of_refs gd (Ms e1 e2 r1 r2 hm hc)
  |aD=>exact R.no (h:)
  |none=>exact R.aF (h:) (.none_tuple (cH e2) rN)
  |bool=>exact R.aF (h:) (.bool_tuple _ (cH e2) rN)
  |int=>exact R.aF (h:) (.int_tuple _ _ (cH e2) rN)
  |str=>exact R.aF (h:) (.str_tuple _ _ (cH e2) rN)
 |@aD a us k m e2 n2 r2=>
  induction hv using RD.casesOn with
  |@aD a' vs n l e1 n1 r1=>
   induction r2 using cJ.casesOn with
   |cons _ _=>exact R.no (h:)
   |nil=>
    refine R.aF (h:) ?_
    by_cases gd:a'=a
    ·subst gd
     have:=DD e1 e2
     subst this
     cases r1
     exact .same _
    ·exact .of_refs gd (zm e1 e2 r1 rN)
  |_=>exact R.no (h:)
 |none=>exact R.aF (h:) (wC (Y:=[]) hv .none H rN)
 |bool c=>exact R.aF (h:) (wC (Y:=[]) hv (.bool c) H rN)
 |int c t=>exact R.aF (h:) (wC (Y:=[]) hv (.int c t) H rN)
 |str c t=>exact R.aF (h:) (wC (Y:=[]) hv (.str c t) H rN)
open Classical in
abbrev AT (h:Heap) (X:↑Addr) (x:D) (y:Value):Bool:=if∃d,RD h X y d∧xZ d x= .ok true then true else false
theorem tm {y:Value} (r:RD h X y d) (e:xZ d x= .ok b):AT h X x y=b:=by
 unfold AT
 induction b with
 |true=>rw [ao ⟨d,r,e⟩]
 |false=>
  rw [aN]
  rintro ⟨d',r',e'⟩
  rw [RD.inj r' r,e]at e'
  obtain ⟨rfl,rfl⟩:=R.ok.inj e'
theorem wE (r:cJ h X vs l):∀{b:Bool},vd x l= .ok b→vs.any (AT h X x)=b∧∀y∈vs,g9 λd c=>RD h X y d∧xZ d x= .ok c:=by
 induction vs generalizing l with
 |nil=>intro b e;cases r;exact R.aF (P:=λb=>_=b∧_) (e:) ⟨rfl,λ_ q=>(fX q).elim⟩
 |cons v vs ih=>
  intro b e
  cases r with
  |@cons _ _ d l a r=>
   refine R.ah (e:) λc hd e=>R.ah (e:) λc' hr e=>R.aF (P:=λb=>_=b∧_) e ?_
   obtain ⟨h1,h2⟩:=ih r hr
   refine ⟨by exact ae List.any_cons (ae (tm a hd) (ae h1 H)),λy hy=>?_⟩
   rcases cM.mp hy with rfl|hy
   ·exact ⟨d,c,a,hd⟩
   ·exact h2 y hy
end
variable {Q: ~~~0}
section
variable {w:World} {E: ~~~0} {s:Shared}
theorem Vv {v:Value} (e:s.heap.get? a=some (n9 vs n)) (r:cJ s.heap X vs l) (hv:RD s.heap Y v x) (hb:vd x l= .ok b) (hc:A.units+2<cLine)
  (h:Q (.bool b) s):wpAny (model prog w) A (compareOp .In v (.ref a)) Q E s:=by
 obtain ⟨h1,h2⟩:=wE r hb
 refine in_tupleAt (AT s.heap X x) (cH e) (λy hy=>?_) (by simpa [h1]using h)
 obtain ⟨d,c,hd,sV⟩:=h2 y (by simpa using hy)
 rw [tm hd sV]
 exact Ak hd hv sV (by simp;exact av hc)
theorem Jv {v:Value} (e:s.heap.get? a=some (n9 vs n)) (r:cJ s.heap X vs l) (hv:RD s.heap Y v x) (hb:vd x l= .ok b) (hc:A.units+2<cLine)
  (h:Q (.bool (!b)) s):wpAny (model prog w) A (compareOp .NotIn v (.ref a)) Q E s:=by
 obtain ⟨h1,h2⟩:=wE r hb
 refine notIn_tupleAt (AT s.heap X x) (cH e) (λy hy=>?_) (by simpa [h1]using h)
 obtain ⟨d,c,hd,sV⟩:=h2 y (by simpa using hy)
 rw [tm hd sV]
 exact Ak hd hv sV (by simp;exact av hc)
theorem Mt {v:Value} (e:s.heap.get? a=some (ew vs n)) (r:cJ s.heap X vs l) (hv:RD s.heap Y v x) (hb:vd x l= .ok b) (hc:A.units+2<cLine)
  (h:Q (.bool b) s):wpAny (model prog w) A (compareOp .In v (.ref a)) Q E s:=by
 obtain ⟨h1,h2⟩:=wE r hb
 refine in_listAt (AT s.heap X x) (bM e) (λy hy=>?_) (by simpa [h1]using h)
 obtain ⟨d,c,hd,sV⟩:=h2 y (by simpa using hy)
 rw [tm hd sV]
 exact Ak hd hv sV (by simp;exact av hc)
theorem AU {v:Value} (e:s.heap.get? a=some (ew vs n)) (r:cJ s.heap X vs l) (hv:RD s.heap Y v x) (hb:vd x l= .ok b) (hc:A.units+2<cLine)
  (h:Q (.bool (!b)) s):wpAny (model prog w) A (compareOp .NotIn v (.ref a)) Q E s:=by
 obtain ⟨h1,h2⟩:=wE r hb
 refine notIn_listAt (AT s.heap X x) (bM e) (λy hy=>?_) (by simpa [h1]using h)
 obtain ⟨d,c,hd,sV⟩:=h2 y (by simpa using hy)
 refine ae (tm hd sV) ?_
 exact Ak hd hv sV (by simp;exact av hc)
theorem Y4 {v u:Value} {y:D} (hv:RD s.heap X v x) (hu:RD s.heap Y u y) (h:xZ x y= .ok b) (hc:A.units+1<cLine) (hq:Q (.bool b) s):wpAny (model prog w) A (compareOp .Eq v u) Q E s:=
 Vu hv hu h hc prog w E Q hq
end
set_option backward.match.sparseCases true
abbrev EZ:Addr:=44
structure Kx where
 B:Heap
 prog:Program
 w:World
 A:Around
 env:Env
 envs:↑Env
 slots:↑Str
 own:↑Addr
 wr:↑Addr
abbrev Kx.F (k:Kx):↑Addr:=k.envs.filterMap (·.frame)
noncomputable abbrev Kx.M (k:Kx):Model:=model k.prog k.w
abbrev Vw (env:Env) (h:Heap) (m:Str→Option Value) (x:Str) (val:Value):Prop:=
 (env.kindOf x=some .local∧m x=some val)∨((env.kindOf x=some .cell∨env.kindOf x=some .free)∧∃c,env.cells.lookup x=some c∧h.IsCell c (some val))
structure AV (k:Kx) (h:Heap) (X μ:↑Addr) (ρ:↑V):Prop where
 ns:∃m,h.Ns k.env.locals m∧∀(i:Nat) x v,k.slots[i]?=some x→ρ[i]?=some v→v≠ .un→∃val,Vw k.env h m x val∧RV k.prog k.w h X μ val v
 cell:∀x∈k.slots,k.env.kindOf x=some .cell→g9 λc v=>qh (k.env.cells.lookup x=some c) (c≠k.env.locals) (h.IsCell c v)
 len:ρ.length=k.slots.length
structure Ok (k:Kx) (μ:↑Addr) (σ:St) (ρ:↑V) (h:Heap):Prop where
 base:∀b o,k.B.get? b=some o→h.get? b=some o
 frames:h.FunFrames k.B k.envs
 dM:Mr k.F k.own
 low:∀a∈k.own++μ,cN k.B a∧∃o,h.get? a=some o
 nodup:(k.own++μ).Nodup
 cells:iR k.prog k.w h (k.own++μ) μ μ σ
 env:AV k h (k.own++μ) μ ρ
structure Kx.G5 (k:Kx):Prop where
 frames:k.A.frames=some k.envs
 handled:k.A.handled=none
 fn:k.env.scope.kind= .function
 G6:k.env.locals∈k.wr
 nV:∀a∈k.wr,a∈k.own
 nodup:k.slots.Nodup
 fN:∀x∈k.slots,k.env.kindOf x=some .local∨k.env.kindOf x=some .cell∨k.env.kindOf x=some .free
 apart:∀x y c,k.env.kindOf x=some .cell→k.env.cells.lookup x=some c→k.env.cells.lookup y=some c→x=y
 frame:s6 λe0 lx f=>qh (k.envs=e0::lx) (e0.frame=some f) (k.env.frame=some f)
variable {env:Env} {B:Heap} {k:Kx} {ρ:↑V}
theorem Vw.keep {m:Str→Option Value} {x:Str} {val:Value} (b:Vw env h m x val) (kc:∀c v,env.cells.lookup x=some c→h.IsCell c v→h'.IsCell c v):Vw env h' m x val:=by
 rcases b with b|⟨b,c,hc,hv⟩
 ·exact .inl b
 ·exact .inr ⟨b,c,hc,kc c _ hc hv⟩
theorem RC.wF {w:World} {c:iq} {v:Option Value} (x:RC prog w h X e6 a c) (y:h.IsCell a v):False:=by
 obtain ⟨o,ho,hd⟩:=y
 induction x using RC.casesOn with
 |list e _=>rw [e]at ho;injection ho with ho;subst ho;cases hd
 |dict e _ _=>obtain ⟨o',_,_,pA,_,qm,_⟩:=e;rw [pA]at ho;injection ho with ho;subst ho;rw [qm]at hd;cases hd
theorem iR.mem {w:World} (r:iR prog w h X e6 as σ) (ha:a∈as):∃c,RC prog w h X e6 a c:=by
 induction r with
 |nil=>cases ha
 |cons x _ ih=>
  refine sB ha ?_ λha=>?_
  ·exact ⟨_,x⟩
  ·exact ih ha
theorem b7.cell {F:↑Addr} (x:b7 X F h h') {c:Addr} {v:Option Value} (y:h.IsCell c v) (hX:c∉X):h'.IsCell c v:=by
 obtain ⟨o,ho,hd⟩:=y
 obtain ⟨sl,e⟩:=x.slots ho hX
 exact ⟨_,e,hd⟩
theorem b7.ns {F:↑Addr} (x:b7 X F h h') {m:Str→Option Value} (y:h.Ns a m) (hX:a∉X):h'.Ns a m:=by
 obtain ⟨o,es,ep,ho,hd,q⟩:=y
 obtain ⟨sl,e⟩:=x.slots ho hX
 exact ⟨_,es,ep,e,hd,q⟩
theorem b7.frames {F:↑Addr} (x:b7 X F h h') {l:↑Env} (f:h.FunFrames B l) (hX:∀a∈l.filterMap (·.frame),a∉X):h'.FunFrames B l:=by
 induction l with
 |nil=>trivial
 |cons env rest ih=>
  obtain ⟨hk,⟨L,o,hf,hn,ho,hd⟩,hr⟩:=f
  rw [lU,hf]at hX
  obtain ⟨sl,e⟩:=x.slots ho (hX L bZ)
  exact ⟨hk,⟨L,_,hf,hn,e,hd⟩,ih hr λa ha=>hX a (bY _ ha)⟩
theorem Ok.fy (x:Ok k μ σ ρ h) (ha:a∈k.own):a∉μ:=λhm=>(fm.mp x.nodup).2.2 a ha a hm H
theorem Ok.ix (x:Ok k μ σ ρ h) (ha:a∈k.F):a∉μ:=x.fy (x.dM a ha)
theorem AV.into (x:AV k h X μ ρ) (i:eU h h' X X') (vf:Mu μ e6) (hn:∀m,h.Ns k.env.locals m→h'.Ns k.env.locals m)
  (hc:∀x c v,k.env.cells.lookup x=some c→h.IsCell c v→h'.IsCell c v):AV k h' X' e6 ρ:=by
 obtain ⟨m,hm,hv⟩:=x.ns
 refine ⟨⟨m,hn m hm,λi' x' v h1 h2 h3=>?_⟩,λy hy hk=>?_,x.len⟩
 ·obtain ⟨val,hb,hr⟩:=hv i' x' v h1 h2 h3
  exact ⟨val,hb.keep λc v hl sV=>hc _ c v hl sV,hr.into i vf⟩
 ·obtain ⟨c,v,h1,h3,h4⟩:=x.cell y hy hk
  exact ⟨c,v,h1,h3,hc _ c v h1 h4⟩
theorem Ok.keep (x:Ok k μ σ ρ h) (kp:dJ h h'):Ok k μ σ ρ h' where
 base b o e:=kp b o (x.base b o e)
 frames:=x.frames.of_keeps λb o e O=>⟨o,kp b o e,rfl⟩
 dM:=x.dM
 low a ha:=let⟨n,o,e⟩:=x.low a ha;⟨n,o,kp a o e⟩
 nodup:=x.nodup
 cells:=x.cells.into (.keep kp) (.refl _) λa O o e=>kp a o e
 env:=x.env.into (.keep kp) (.refl _) (λO hm=>hm.keeps kp) λO O O O hc=>hc.keeps kp
theorem Ok.alloc {c:iq} (x:Ok k μ σ ρ h) (kp:dJ h h') (ha:cN h a) (hc:RC k.prog k.w h' (k.own++(μ++[a])) (μ++[a]) a c):
  Ok k (μ++[a]) (σ++[c]) ρ h':=by
 have i:eU h h' (k.own++μ) (k.own++(μ++[a])):=⟨λb o e O O=>kp b o e,λb o e hb hm=>by
  rw [←aX]at hm
  rcases bd.mp hm with hm|hm
  ·exact hb hm
  ·rw [bK.mp hm]at e;exact ha.not e⟩
 have hn:a∉k.own++μ:=λhm=>let⟨_,_,e⟩:=x.low a hm;ha.not e
 obtain ⟨oa,Vx,_⟩:=hc.get
 exact {
  base:=λb o e=>kp b o (x.base b o e)
  frames:=x.frames.of_keeps λb o e O=>⟨o,kp b o e,H⟩
  dM:=x.dM
  low:=λb hb=>by
   rw [←aX]at hb
   rcases bd.mp hb with hb|hb
   ·obtain ⟨n,o,e⟩:=x.low b hb
    exact ⟨n,o,kp b o e⟩
   ·refine ae (bK.mp hb) ?_
    exact ⟨sC.jV (λb o e=>⟨o,x.base b o e⟩) ha,oa,Vx⟩
  nodup:=by
   rw [←aX]
   refine fm.mpr ⟨x.nodup,by simp,λb hb c hc q=>?_⟩
   rw [bK.mp hc]at q;exact hn (q▸hb)
  cells:=(x.cells.into i (Mu.append μ [a]) λb O o e=>kp b o e).append (.cons hc .nil)
  env:=x.env.into i (Mu.append μ [a]) (λO hm=>hm.keeps kp) λO O O O hc=>hc.keeps kp}
theorem Ok.Y5 {c:iq} (x:Ok k μ σ ρ h) (ha:μ[n]?=some a) (hs:Heap.SameBut a h h') (hc:RC k.prog k.w h' (k.own++μ) μ a c) (hL:k.env.locals∈k.own):Ok k μ (σ.set n c) ρ h':=by
 have hm:a∈μ:=fJ ha
 have hX:a∈k.own++μ:=bl _ hm
 have i:eU h h' (k.own++μ) (k.own++μ):=⟨λb o e hb O=>(hs.2 b λq=>hb (q▸hX)).trans e,λO O O hb=>hb⟩
 obtain ⟨oa,Vx,_⟩:=hc.get
 exact {
  base:=λb o e=>(hs.2 b λq=>by
   have h1:=(x.low a hX).1
   rw [←q]at h1
   exact h1.not e).trans (x.base b o e)
  frames:=(b7.sameBut (X:=[a]) (F:=[]) hs Vx (by simp)).frames x.frames λb hb q=>x.ix hb (bK.mp q▸hm)
  dM:=x.dM
  low:=λb hb=>let⟨n,o,e⟩:=x.low b hb;⟨n,(b7.sameBut (X:=[a]) (F:=[]) hs Vx (by simp)).1 b o e⟩
  nodup:=x.nodup
  cells:=iR.set i (.refl _) (fm.mp x.nodup).2.1 ha (λb hb o O e=>(hs.2 b hb).trans e) hc x.cells
  env:=x.env.into i (.refl _) (λO CG=>CG.sameBut hs λq=>x.fy hL (q▸hm)) λO c' v O sV=>by
   obtain ⟨o,ho,hd⟩:=sV
   refine ⟨o,(hs.2 c' λq=>?_).trans ho,hd⟩
   obtain ⟨cc,CH⟩:=x.cells.mem hm
   exact CH.wF (q▸⟨o,ho,hd⟩:h.IsCell a v)}
inductive Jw (fr:Option Addr) (fR h:Heap) (a:Addr) (m:Str):Prop
 |mk (o:Obj) (vs:Array Value) (d:Addr) (mE:Str→Option Value) (tk:Tok):h.get? a=some o→o.cls= .ref EZ→o.dict=some d→h.Ns d mE→mE "why"=some (.str m tk)→o.data= .fields vs→cN fR a→cN fR d→1<vs.size→
  (vs[1]?=some .none∨s6 λT oT ts=>An6 (vs[1]?=some (.ref T)) (cN fR T) (T≠a) (h.get? T=some oT) (oT.data= .fields ts) (ts[3]?=some .none∨∃f,fr=some f∧ts[3]?=some (rawInt f)))→Jw fr fR h a m
structure vg (k:Kx) (fR h:Heap) (e:Value) (m:Str):Prop where
 base:∀b o,k.B.get? b=some o→h.get? b=some o
 frames:h.FunFrames k.B k.envs
 dW:∃a,e= .ref a∧Jw k.env.frame fR h a m
variable {fR:Heap}
theorem vg.at {m:Str} (x:vg k fR h (.ref a) m):Jw k.env.frame fR h a m:=by
 obtain ⟨a',ha,q⟩:=x.dW
 injection ha with ha
 exact ha▸q
variable {dD:Heap}
theorem vg.low {e:Value} {m:Str} (x:vg k dD h e m) (hs:sC fR dD):vg k fR h e m:=by
 obtain ⟨a,ha,o,vs,d,mE,tk,h1,h2,h3,h4,h5,h6,h7,h8,h9,Y6⟩:=x.dW
 refine ⟨x.base,x.frames,a,ha,o,vs,d,mE,tk,h1,h2,h3,h4,h5,h6,hs.jV h7,hs.jV h8,h9,?_⟩
 rcases Y6 with q|⟨T,oT,ts,q1,q2,q3,q4,q5,q6⟩
 ·exact .inl q
 ·exact .inr ⟨T,oT,ts,q1,hs.jV q2,q3,q4,q5,q6⟩
theorem Kx.G5.tn (g:k.G5):k.env.locals∈k.own:=g.nV _ g.G6
inductive PG {α β:Type} (k:Kx) (μ:↑Addr) (ρ:↑V) (T:Heap→↑Addr→β→α→Prop) (s:Shared) (r:R (α×St)) (val:β) (s':Shared):Prop
 |mk (v:α) (σ':St) (ν:↑Addr) (h':Heap) (tk:Nat):r= .ok (v,σ')→s'={s with heap:=h',toks:=tk}→Ok k (μ++ν) σ' ρ h'→b7 μ k.F s.heap h'→(∀a∈ν,cN s.heap a)→T h' (μ++ν) val v→PG k μ ρ T s r val s'
inductive PX {α:Type} (k:Kx) (μ:↑Addr) (s:Shared) (r:R α) (e:Value) (s':Shared):Prop
 |mk (m:Str) (h':Heap) (tk:Nat):r= .dW m→s'={s with heap:=h',toks:=tk}→b7 μ k.F s.heap h'→vg k s.heap h' e m→PX k μ s r e s'
noncomputable abbrev qN (k:Kx):Heap→↑Addr→Value→V→Prop:=λh μ val v=>RV k.prog k.w h (k.own++μ) μ val v
variable {ν:↑Addr} {s':Shared} {tk:Nat} {bX:↑V} {v:V} {δ:Type}
section
variable {s:Shared}
theorem DE (x:b7 μ k.F h h') (y:b7 (μ++ν) k.F h' gC) (ip:∀a∈ν,cN h a):b7 μ k.F h gC:=
 x.trans y λa ha=>(bd.mp ha).imp id (ip a)
theorem PG.trans {T:Heap→↑Addr→β→α→Prop} {r:R (α×St)} {val:β} (e:b7 μ k.F s.heap h') (ip:∀a∈ν,cN s.heap a)
  (g:PG k (μ++ν) ρ T {s with heap:=h',toks:=tk} r val s'):PG k μ ρ T s r val s':=by
 obtain ⟨v,σ',ν',gC,hJ,h1,h2,h3,h4,h5,h6⟩:=g
 rw [aX]at h3 h6
 refine ⟨v,σ',ν++ν',gC,hJ,h1,h2,h3,DE e h4 ip,λa ha=>?_,h6⟩
 rcases bd.mp ha with ha|ha
 ·exact ip a ha
 ·exact e.1.jV (h5 a ha)
theorem PX.trans {r:R α} {e:Value} (ex:b7 μ k.F s.heap h') (ip:∀a∈ν,cN s.heap a)
  (g:PX k (μ++ν) {s with heap:=h',toks:=tk} r e s'):PX k μ s r e s':=by
 obtain ⟨m,gC,hJ,h1,h2,h3,h4⟩:=g
 exact ⟨m,gC,hJ,h1,h2,DE ex h3 ip,h4.low ex.1⟩
theorem PX.bind {r:R α} {f:α→R β} {e:Value} (g:PX k μ s r e s'):PX k μ s (r.bind f) e s':=by
 obtain ⟨m,gC,hJ,h1,h2,h3,h4⟩:=g
 exact ⟨m,gC,hJ,by refine ae h1 ?_;rfl,h2,h3,h4⟩
theorem R.ax {r:R α} {f:α→R β} (h:r.bind f≠ .aQ):r≠ .aQ:=λe=>h (by refine ae e ?_;rfl)
theorem R.jC {r:R α} {f:α→R β} {a:α} (h:r= .ok a) (e:r.bind f≠ .aQ):f a≠ .aQ:=R.cf (f:=f) h▸e
theorem R.lI {r:R α} {c:α→Prop} [DecidablePred c] {f:α→R β} {a:α} (h:r= .ok a) (e:(r.bind λa=>if c a then f a else .aQ)≠ .aQ):c a:=by have q:=R.jC h e;exact R.Qx q
theorem R.G7 {r:R α} {f g:α→R β} (h:∀a,f a=g a):r.bind f=r.bind g:=aC _ (funext h)
theorem R.iF {r:R α} {f:α→R β} {g:β→R γ} {k:α→R γ} (h:∀a,(f a).bind g=k a):(r.bind f).bind g=r.bind k:=(R.bind_assoc r f g).trans (R.G7 h)
theorem PG.then {T:Heap→↑Addr→β→α→Prop} {T':Heap→↑Addr→γ→δ→Prop} {t:Sem β} {c:β→Sem γ} {r:R (α×St)} {f:α×St→R (δ×St)} (hb:r.bind f≠ .aQ)
  (h:wpAny k.M k.A t (PG k μ ρ T s r) (PX k μ s r) s)
  (hc:∀val v σ' ν h' tk,r= .ok (v,σ')→Ok k (μ++ν) σ' ρ h'→b7 μ k.F s.heap h'→(∀a∈ν,cN s.heap a)→T h' (μ++ν) val v→f (v,σ')≠ .aQ→
   wpAny k.M k.A (c val) (PG k (μ++ν) bX T' {s with heap:=h',toks:=tk} (f (v,σ'))) (PX k (μ++ν) {s with heap:=h',toks:=tk} (f (v,σ'))) {s with heap:=h',toks:=tk}):
  wpAny k.M k.A t (λval iX=>wpAny k.M k.A (c val) (PG k μ bX T' s (r.bind f)) (PX k μ s (r.bind f)) iX) (PX k μ s (r.bind f)) s:=by
 refine bv h (λval iX g=>?_) λe iX g=>g.bind
 obtain ⟨v,σ',ν,h',tk,h1,rfl,h3,h4,h5,h6⟩:=g
 rw [h1,R.dv]at hb⊢
 exact bv (hc val v σ' ν h' tk h1 h3 h4 h5 h6 hb) (λO O g=>g.trans h4 h5) λO O g=>g.trans h4 h5
theorem PG.of_keep {T:Heap→↑Addr→β→α→Prop} {r:R (α×St)} {v:α} {val:β} (x:Ok k μ σ ρ s.heap) (kp:dJ s.heap h') (hr:r= .ok (v,σ)) (ht:T h' μ val v):
  PG k μ ρ T s r val {s with heap:=h',toks:=tk}:=
 ⟨v,σ,[],h',tk,hr,rfl,by rw [b6];exact x.keep kp, .of_keep kp,λO h=>al h (by simp),by rw [b6];exact ht⟩
theorem PG.fk {T:Heap→↑Addr→β→α→Prop} {r:R (α×St)} {v:α} {val:β} (x:Ok k μ σ ρ s.heap) (hr:r= .ok (v,σ)) (ht:T s.heap μ val v):PG k μ ρ T s r val s:=
 PG.of_keep (h':=s.heap) (tk:=s.toks) x (.refl _) hr ht
theorem PG.qp {T:Heap→↑Addr→β→α→Prop} {r:R (α×St)} {v:α} {val:β} (x:Ok k μ σ ρ s.heap) (hr:r= .ok (v,σ)) (ht:T s.heap μ val v):PG k μ ρ T s r val {s with toks:=tk}:=
 PG.of_keep (h':=s.heap) (tk:=tk) x (.refl _) hr ht
theorem RV.jt {val:Value} (r:RV k.prog k.w h (k.own++μ) μ val v) (x:Ok k μ σ ρ h) (e:b7 μ k.F h h') (ip:∀a∈ν,cN h a):RV k.prog k.w h' (k.own++(μ++ν)) (μ++ν) val v:=
 r.into (.ext (e.mono λa ha=> .inl (bl _ ha)) (λa ha=>aW _ (x.dM a ha)) λa ha=>by
  rw [←aX]at ha
  exact (bd.mp ha).imp id (ip a)) (Mu.append μ ν)
theorem RD.jt {val:Value} {v:D} (r:RD h (k.own++μ) val v) (x:Ok k μ σ ρ h) (e:b7 μ k.F h h') (ip:∀a∈ν,cN h a):RD h' (k.own++(μ++ν)) val v:=
 r.into (.ext (e.mono λa ha=> .inl (bl _ ha)) (λa ha=>aW _ (x.dM a ha)) λa ha=>by
  rw [←aX]at ha
  exact (bd.mp ha).imp id (ip a))
theorem RV.keep {val:Value} (r:RV k.prog k.w h X μ val v) (kp:dJ h h'):RV k.prog k.w h' X μ val v:=r.into (.keep kp) (.refl _)
theorem RD.keep {val:Value} {v:D} (r:RD h X val v) (kp:dJ h h'):RD h' X val v:=r.into (.keep kp)
theorem cJ.keep {val:↑Value} {v:↑D} (r:cJ h X val v) (kp:dJ h h'):cJ h' X val v:=r.into (.keep kp)
theorem Ok.fresh (x:Ok k μ σ ρ h) (ha:cN h a):a∉k.own++μ:=λhm=>let⟨_,_,e⟩:=x.low a hm;ha.not e
end
variable {s0 s1:Shared} {nW:↑Addr}
structure kN {γ:Type} (k:Kx) (μ:↑Addr) (s:Shared) (R0:R (γ×St)) (e6:↑Addr) (s':Shared) (R1:R (γ×St)):Prop where
 x:∀e kb,PX k e6 s' R1 e kb→PX k μ s R0 e kb
 g:∀{β:Type} {ρ:↑V} {T:Heap→↑Addr→β→γ→Prop} val kb,PG k e6 ρ T s' R1 val kb→PG k μ ρ T s R0 val kb
theorem kN.refl (μ:↑Addr) (s:Shared) (R0:R (γ×St)):kN k μ s R0 μ s R0:=⟨λO O h=>h,λO O h=>h⟩
theorem kN.wp {s:Shared} {R0 R1:R (γ×St)} (L:kN k μ s R0 e6 s' R1) {t:Sem β} {T:Heap→↑Addr→β→γ→Prop} (h:wpAny k.M k.A t (PG k e6 ρ T s' R1) (PX k e6 s' R1) s1):wpAny k.M k.A t (PG k μ ρ T s R0) (PX k μ s R0) s1:=
 bv h (λO O g=>L.g _ _ g) λO O g=>L.x _ _ g
theorem kN.keep {s:Shared} {R0 R1:R (γ×St)} (L:kN k μ s R0 e6 s' R1) (kp:dJ s'.heap h'):kN k μ s R0 e6 {s' with heap:=h',toks:=tk} R1:=
 ⟨λe kb h=>L.x e kb (PX.trans (ν:=[]) (h':=h') (tk:=tk) (.of_keep kp) (λO h=>al h (by simp)) (by simpa using h)),
  λval kb h=>L.g val kb (PG.trans (ν:=[]) (h':=h') (tk:=tk) (.of_keep kp) (λO h=>al h (by simp)) (by simpa using h))⟩
theorem kN.step {s:Shared} {R0:R (γ×St)} {r:R (α×St)} {f:α×St→R (γ×St)} (L:kN k nW s0 R0 μ s (r.bind f)) (hb:r.bind f≠ .aQ) {t:Sem β} {C:β→Shared→Prop}
  {T:Heap→↑Addr→β→α→Prop} (h:wpAny k.M k.A t (PG k μ ρ T s r) (PX k μ s r) s)
  (hc:∀val v σ' ν h' tk,r= .ok (v,σ')→Ok k (μ++ν) σ' ρ h'→b7 μ k.F s.heap h'→(∀a∈ν,cN s.heap a)→T h' (μ++ν) val v→f (v,σ')≠ .aQ→kN k nW s0 R0 (μ++ν) {s with heap:=h',toks:=tk} (f (v,σ'))→
   C val {s with heap:=h',toks:=tk}):wpAny k.M k.A t C (PX k nW s0 R0) s:=by
 refine bv h (λval iX g=>?_) λe iX g=>L.x e iX g.bind
 obtain ⟨v,σ',ν,h',tk,h1,rfl,h3,h4,h5,h6⟩:=g
 subst h1
 rw [R.dv]at hb L
 exact hc val v σ' ν h' tk H h3 h4 h5 h6 hb ⟨λe kb g=>L.x e kb (g.trans h4 h5),λval kb g=>L.g val kb (g.trans h4 h5)⟩
theorem kN.NQ {s:Shared} {R0 R1 R2:R (γ×St)} (L:kN k μ s R0 e6 s' R1) (q:R1=R2):kN k μ s R0 e6 s' R2:=q▸L
set_option backward.match.sparseCases false
theorem l9 (h:n≤aT):n≤sizeLine:=by refine ae sizeLine_eq ?_;exact h
theorem mH {s:Str} {c:Nat} (h:qk s= .ok c):s=⟨#[c]⟩:=by
 obtain ⟨⟨l⟩⟩:=s
 have h:XF l= .ok c:=h
 induction l with
 |nil=>exact R.no (h:)
 |cons x r=>exact R.bn (h:) λq h=>by refine ae q ?_;obtain rfl:=R.ok.inj h;rfl
section
variable {v:Value} {P:Value→Prop}
@[elab_as_elim] theorem RD.hO {i:Int} (r:RD h X v d) (e:gJ d= .ok i) (k:∀t,P (.int i t)):P v:=by induction r using RD.casesOn<;>first|(cases e;exact k _)|exact R.no (e:)
@[elab_as_elim] theorem RD.ly {x:Str} (r:RD h X v d) (e:strOf d= .ok x) (k:∀t,P (.str x t)):P v:=by induction r using RD.casesOn<;>first|(cases e;exact k _)|exact R.no (e:)
@[elab_as_elim] theorem RD.E1 (r:RD h X v d) (e:qj d= .ok l) (k:∀a vs n,h.get? a=some (ew vs n)→a∉X→cJ h X vs l→P (.ref a)):P v:=by induction r using RD.casesOn<;>first|(cases e;exact k _ _ _ ‹_› ‹_› ‹_›)|exact R.no (e:)
theorem RV.mw {w:World} {c:V} (r:RV prog w h X μ v c) (e:gI c= .ok d):RD h X v d:=by induction r using RV.casesOn<;>first|(cases e;assumption)|exact R.no (e:)
end
abbrev Mv:Operator→Bool→Option Op
 | .Add,m=>some (if m then .uP else .add)
 | .Sub,_=>some .sub
 | .Mult,_=>some .mul
 | .FloorDiv,_=>some .fdiv
 | .Mod,_=>some .mod
 | .Pow,_=>some .pow
 |_,_=>none
theorem NR (m:Bool) (o:Operator):YT m o=Mv o m:=by induction o using Operator.casesOn<;>rfl
theorem G8 (c:Nat) (n:Nat):∀(a:Array Nat),(List.replicate n #[c]).foldl (·++·) a=a++(List.replicate n c).toArray:=by
 induction n with
 |zero=>exact λa=>rfl
 |succ n dS=>
  intro a
  rw [List.replicate_succ,wg,dS];refine ae List.replicate_succ ?_
  apply Array.toList_inj.mp
  simp
theorem mul_one (c:Nat) (n:Int) (h:0≤n):Txt.mul ⟨#[c]⟩ n=⟨(List.replicate n.toNat c).toArray⟩:=by
 unfold Txt.mul
 by_cases h1:n<1
 ·have:n=0:=by lia
  refine ae this ?_;rfl
 ·refine ae (aN h1) ?_
  by_cases h2:n=1
  ·refine ae h2 ?_;rfl
  ·have:¬(n==1||(⟨#[c]⟩:Str).length==0)=true:=by simp [h2,Str.length]
   rw [aN this,G8]
   simp
theorem Vy {w:World} {E: ~~~0} {s:Shared} {c0:Nat} {n:Int} {t u:Tok} (h0:0≤n) (h1:n≤100000)
  (h:∀t' kk,Q (.str ⟨(List.replicate n.toNat c0).toArray⟩ t') {s with toks:=kk}):wpAny (model prog w) A (binaryOp .Mult (.str ⟨[c0].toArray⟩ t) (.int n u)) Q E s:=by
 refine SB.mul ⟨by simp only [Bool.or_eq_false_iff,decide_eq_false_iff_not];lia,λh1 h2 h3=>?_,λh1 h2=>?_⟩ λt' kk=>?_
 ·have h4:((⟨[c0].toArray⟩:Str).length:Int)=1:=rfl
  rw [h4]at h3
  have h5:1≤(2^63 -1)/n:=by
   rw [Int.le_ediv_iff_mul_le (by lia)];lia
  lia
 ·have h4:(⟨[c0].toArray⟩:Str).length=1:=rfl
  refine ae h4 ?_
  have:¬(1*n.toNat>sizeLine):=by refine ae sizeLine_eq ?_;lia
  simpa [Builtin.Str.tooLong]using this
 ·have:=mul_one c0 n h0
  refine ae (rfl:(⟨[c0].toArray⟩:Str)=⟨#[c0]⟩) (ae this ?_)
  exact h t' kk
variable {va vb:Value} {po:Operator} {r:R (V×St)}
section
variable {s:Shared}
abbrev QZ (k:Kx) (X:↑Addr) (po:Operator) (s:Shared) (va vb:Value) (c:D):Prop:=
 ∀(E: ~~~0) (Q: ~~~0),(∀val h' tk,dJ s.heap h'→RD h' X val c→Q val {s with heap:=h',toks:=tk})→wpAny k.M k.A (binaryOp po va vb) Q E s
theorem Q2 {a b c:D} (hX:s.heap.objs.size∉X) (ra:RD s.heap X va a) (rb:RD s.heap X vb b) (e:Mh a b= .ok c):QZ k X .Add s va vb c:=by
 intro E Q h
 induction ra using RD.casesOn with
 |int i t=>exact R.ah (e:) λj hj e=>rb.hO hj λu=>P.add_int (h _ _ _ (.refl _) (R.aF e (.int _ _)))
 |str i t=>exact R.ah (e:) λj hj e=>rb.ly hj λu=>R.bn e λhz e=>SB.add (λt' kk=>h _ _ _ (.refl _) (R.aF e (.str _ _))) (l9 hz)
 |@aD a1 NS n1 l1 e1 x1 r1=>
  refine R.ah (e:) λl2 hl e=>rb.E1 hl λa2 NT n2 e2 x2 r2=>R.bn e λhz e=>?_
  have ye:NS.toArray.size+NT.toArray.size≤sizeLine:=by refine ae dN (ae dN (ae r1.length (ae r2.length ?_)));exact l9 hz
  have hg:(s.heap.push {cls:= .type "list",data:= .seq (NS.toArray++NT.toArray)}).get? s.heap.objs.size=some (ew (NS++NT) 0):=by rw [List.append_toArray];exact gN _ rfl
  exact P.add_list e1 e2 (h _ _ _ (.push _ _) (R.aF e (.aD hg hX ((r1.keep (.push _ _)).append (r2.keep (.push _ _)))))) ye
 |_=>exact R.no (e:)
theorem Vz {o:Op} {m:Bool} (wG:Mv po m=some o) {a b c:D} (hX:s.heap.objs.size∉X) (ra:RD s.heap X va a) (rb:RD s.heap X vb b)
  (e:AK o a b= .ok c):QZ k X po s va vb c:=by
 induction po with
 |Add=>
  induction m with
  |false=>cases wG;exact Q2 hX ra rb e
  |true=>cases wG;exact R.no (e:)
 |Sub=>cases wG;exact λE Q h=>R.ah (e:) λi hi e=>R.ah e λj hj e=>ra.hO hi λt=>rb.hO hj λu=>P.sub_int (h _ _ _ (.refl _) (R.aF e (.int _ _)))
 |Mult=>
  cases wG
  refine λE Q h=>R.ah (e:) λi hi e=>R.ah e λn hj e=>R.bn e λhn e=>R.ah e λc0 hc e=>ra.ly hi λt=>rb.hO hj λu=>?_
  refine ae (mH hc) ?_
  exact Vy hn.1 hn.2 λt' kk=>h _ _ _ (.refl _) (R.aF e (.str _ _))
 |FloorDiv=>cases wG;exact λE Q h=>R.ah (e:) λi hi e=>R.ah e λj hj e=>R.bn e λhb e=>ra.hO hi λt=>rb.hO hj λu=>floordiv_int hb.1 (h _ _ _ (.refl _) (R.aF e (.int _ _))) (.inl (PyProof.noPylong_small (Nat.lt_trans hb.2 ∅)))
 |Mod=>cases wG;exact λE Q h=>R.ah (e:) λi hi e=>R.ah e λj hj e=>R.bn e λhb e=>ra.hO hi λt=>rb.hO hj λu=>mod_int' hb (h _ _ _ (.refl _) (R.aF e (.int _ _)))
 |Pow=>
  cases wG
  exact λE Q h=>R.ah (e:) λi hi e=>R.ah e λj hj e=>R.bn e λhb e=>ra.hO hi λt=>rb.hO hj λu=>pow_int_small hb.2.2.1 (by lia) (li (by lia:i.natAbs≤10) ∅) (h _ _ _ (.refl _) (R.aF e (.int _ _)))
 |_=>cases wG
theorem Ok.below (x:Ok k μ σ ρ h):h.objs.size∉k.own++μ:=x.fresh (.size h)
theorem iR.aD {w:World} (r:iR prog w h X e6 as σ) (hn:as[n]?=some a) (e:eQ σ[n]?= .ok l):g9 λvs n=>h.get? a=some (ew vs n)∧cJ h X vs l:=by
 generalize hc:σ[n]?=o0;induction o0 using di with
 |none=>rw [hc]at e;exact R.no (e:)
 |some c=>
  rw [hc]at e
  obtain ⟨a',nA,hc⟩:=r.get hc
  cases hn.symm.trans nA
  induction hc with
  |list e1 r1=>cases e;exact ⟨_,_,e1,r1⟩
  |dict=>exact R.no (e:)
theorem vh {val:Value} (x:Ok k μ σ ρ h) (r:RV k.prog k.w h (k.own++μ) μ val v) (e:m3 σ v= .ok l):
  s6 λa vs n=>qh (val= .ref a) (h.get? a=some (ew vs n)) (cJ h (k.own++μ) vs l):=by
 induction r with
 |d r=>exact r.E1 (e:) λa vs n e1 O r1=>⟨a,vs,n,rfl,e1,r1⟩
 |ref hn=>obtain ⟨vs,n,e1,r1⟩:=x.cells.aD hn e;exact ⟨_,vs,n,rfl,e1,r1⟩
 |eO=>exact R.no (e:)
theorem Jx {a b:V} {m:↑D} (x:Ok k μ σ ρ s.heap) (ra:RV k.prog k.w s.heap (k.own++μ) μ va a) (rb:RV k.prog k.w s.heap (k.own++μ) μ vb b) (ea:m3 σ a= .ok l) (eb:m3 σ b= .ok m)
  (hz:l.length+m.length≤aT) {E: ~~~0}
  (h:∀vs,cJ s.heap (k.own++μ) vs (l++m)→Q (.ref s.heap.objs.size) {s with heap:=s.heap.push (ew vs 0)}):wpAny k.M k.A (binaryOp .Add va vb) Q E s:=by
 obtain ⟨a1,NS,n1,rfl,e1,r1⟩:=vh x ra ea
 obtain ⟨a2,NT,n2,rfl,e2,r2⟩:=vh x rb eb
 have ye:NS.toArray.size+NT.toArray.size≤sizeLine:=by
  have h1:=r1.length;have h2:=r2.length
  simp only [dN];exact l9 (fY (eL h1) (eL h2) hz)
 refine P.add_list e1 e2 ?_ ye
 have:=h (NS++NT) (r1.append r2)
 rw [List.append_toArray]
 exact this
theorem dY (v:V):NX (gI v):=by induction v using V.casesOn<;>first|exact bj|exact bm
theorem ig (v:D):NX (gJ v):=by induction v using D.casesOn<;>first|exact bj|exact bm
theorem jW (v:D):NX (strOf v):=by induction v using D.casesOn<;>first|exact bj|exact bm
theorem wH (v:D):NX (qj v):=by induction v using D.casesOn<;>first|exact bj|exact bm
theorem uj (s:Str):NX (qk s):=by
 unfold qk
 generalize s.cps.toList=o0;induction o0 using bu with
 |nil=>exact bj
 |cons=>exact .ite bm bj
theorem nB (c:Option iq):NX (eQ c):=by induction c using di with
 |none=>exact bj
 |some c=>induction c using iq.casesOn<;>first|exact bj|exact bm
theorem wI (o:Option α):NX (pN o):=by induction o using di<;>first|exact bj|exact bm
theorem vi (σ:St) (v:V):NX (m3 σ v):=by
 induction v with
 |d y=>exact wH y
 |ref n=>exact nB _
 |_=>exact bj
theorem G9 (a b:D):NX (Mh a b):=by
 induction a using D.casesOn with
 |int=>exact .bind (ig _) λO=>bm
 |str=>exact .bind (jW _) λO=> .ite bm bj
 |aD=>exact .bind (wH _) λO=> .ite bm bj
 |_=>exact bj
theorem Q3 (o:Op) (a b:D):NX (AK o a b):=by
 induction o with
 |add=>exact G9 a b
 |uP=>exact bj
 |mul=>exact .bind (jW _) λO=> .bind (ig _) λO=> .ite (.bind (uj _) λO=>bm) bj
 |sub=>exact .bind (ig _) λO=> .bind (ig _) λO=>bm
 |_=>exact .bind (ig _) λO=> .bind (ig _) λO=> .ite bm bj
theorem DF (σ:St) (a b:V):NX (ya σ a b):= .bind (vi _ _) λO=> .bind (vi _ _) λO=> .ite bm bj
theorem Q4 (σ:St) (o:Op) (a b:V):NX (jj σ o a b):=by
 induction o with
 |uP=>exact .bind (DF _ _ _) λO=>bm
 |add=>exact .ite (.bind (DF _ _ _) λO=>bm) (.bind (dY _) λO=> .bind (dY _) λO=> .bind (G9 _ _) λO=>bm)
 |_=>exact .bind (dY _) λO=> .bind (dY _) λO=> .bind (Q3 _ _ _) λO=>bm
theorem eU.fresh {own:↑Addr} (kp:dJ h h'):eU h h' (own++μ) (own++(μ++[h.objs.size])):=
 ⟨λb o e O O=>kp b o e,λb o e hb hm=>by
  rw [←aX]at hm
  rcases bd.mp hm with hm|hm
  ·exact hb hm
  ·rw [bK.mp hm]at e;exact (cN.size h).not e⟩
theorem PG.DG (x:Ok k μ σ ρ s.heap) (hr:r= .ok (.ref σ.length,σ++[.list l])) (rd:cJ s.heap (k.own++μ) vs l):
  PG k μ ρ (qN k) s r (.ref s.heap.objs.size) {s with heap:=s.heap.push (ew vs 0)}:=by
 have kp:=dJ.push s.heap (ew vs 0)
 refine ⟨_,_,[s.heap.objs.size],_,s.toks,hr,rfl,x.alloc kp (.size _) (.list (gN _ rfl) (rd.into (.fresh kp))), .of_keep kp,λa ha=>by refine ae (bK.mp ha) ?_;exact .size _, .ref ?_⟩
 refine dg x.cells.length ?_
 simp
theorem AW {a b:V} (x:Ok k μ σ ρ s.heap) (ra:RV k.prog k.w s.heap (k.own++μ) μ va a) (rb:RV k.prog k.w s.heap (k.own++μ) μ vb b) (e:ya σ a b= .ok l) {E: ~~~0}
  (h:∀vs,cJ s.heap (k.own++μ) vs l→Q (.ref s.heap.objs.size) {s with heap:=s.heap.push (ew vs 0)}):wpAny k.M k.A (binaryOp .Add va vb) Q E s:=
 R.ah e λO ha e=>R.ah e λO hb e=>R.bn e λhz e=>Jx x ra rb ha hb hz λvs r=>h vs (R.aF e r)
theorem Q5 {o:Op} {m:Bool} (wG:Mv po m=some o) {a b:V} {r:V×St} {E: ~~~0} (x:Ok k μ σ ρ s.heap) (ra:RV k.prog k.w s.heap (k.own++μ) μ va a) (rb:RV k.prog k.w s.heap (k.own++μ) μ vb b)
  (e:jj σ o a b= .ok r):wpAny k.M k.A (binaryOp po va vb) (PG k μ ρ (qN k) s (.ok r)) E s:=by
 have plain:((gI a).bind λx=>(gI b).bind λy=>(AK o x y).bind λz=> .ok (V.d z,σ))= .ok r→wpAny k.M k.A (binaryOp po va vb) (PG k μ ρ (qN k) s (.ok r)) E s:=λe=>
  R.ah e λc ha e=>R.ah e λd hb e=>R.ah e λz hz e=>Vz wG x.below (ra.mw ha) (rb.mw hb) hz _ _ λval h' tk kp rr=>PG.of_keep x kp e.symm (.d rr)
 have Q6:o= .add∨o= .uP→po= .Add:=λq=>by induction po using Operator.casesOn<;>first|rfl|(cases wG;done)|(cases wG;exact q.elim nofun nofun)
 induction o with
 |uP=>
  cases Q6 (.inr H)
  exact R.ah (e:) λl hl e=>AW x ra rb hl λvs rr=>PG.DG x e.symm rr
 |add=>
  cases Q6 (.inl H)
  exact R.s8 (e:) (λO e=>R.ah e λl hl e=>AW x ra rb hl λvs rr=>PG.of_keep x (.push _ _) e.symm (.d (.aD (gN _ rfl) (x.fresh (.size _)) (rr.keep (.push _ _))))) λO=>plain
 |_=>exact plain (e:)
theorem NU {o:Op} {m:Bool} (wG:Mv po m=some o) {a b:V} (x:Ok k μ σ ρ s.heap) (ra:RV k.prog k.w s.heap (k.own++μ) μ va a) (rb:RV k.prog k.w s.heap (k.own++μ) μ vb b)
  (e:jj σ o a b≠ .aQ):wpAny k.M k.A (binaryOp po va vb) (PG k μ ρ (qN k) s (jj σ o a b)) (PX k μ s (jj σ o a b)) s:=
 (Q4 σ o a b).get e λr hr=>by refine ae hr ?_;exact Q5 wG x ra rb hr
end
section
variable {s:Shared}
abbrev m4 (k:Kx) (s:Shared) (t:Sem Value) (P:Heap→Value→Prop):Prop:=
 ∀(E: ~~~0) (Q: ~~~0),(∀val h' tk,dJ s.heap h'→P h' val→Q val {s with heap:=h',toks:=tk})→wpAny k.M k.A t Q E s
abbrev Jy (c:Bool):Heap→Value→Prop:=λO val=>val= .bool c
theorem VA {a b:D} {c:Bool} (ra:RD s.heap X va a) (rb:RD s.heap Y vb b) (e:xZ a b= .ok c) (hu:k.A.units+4<cLine):m4 k s (compareOp .Eq va vb) (Jy c):=λE Q h=>
 Y4 ra rb e (av hu) (h (.bool c) s.heap s.toks (.refl _) H)
theorem VB {a b:D} {c:Bool} (ra:RD s.heap X va a) (rb:RD s.heap Y vb b) (e:xZ a b= .ok c) (hk:XG a b=true) (hu:k.A.units+4<cLine):m4 k s (compareOp .NotEq va vb) (Jy (!c)):=λE Q h=>by
 have hq:=h (.bool (!c)) s.heap s.toks (.refl _) H
 have hu':k.A.units<cLine:=av hu
 induction ra using RD.casesOn with
 |str x=>induction rb using RD.casesOn with
  |str y=>cases e;exact RcNeAt.str_str (A:=k.A) (s:=s) x _ y _ k.prog k.w E Q hq
  |_=>exact al hk gA
 |int i=>induction rb using RD.casesOn with
  |int j=>cases e;exact RcNeAt.int_int (A:=k.A) (s:=s) i _ j _ k.prog k.w E Q hq
  |_=>exact al hk gA
 |aD e1 x1 r1=>induction rb using RD.casesOn with
  |aD e2 x2 r2=>
   induction r2 using cJ.casesOn with
   |cons=>exact al hk gA
   |nil=>
    cases e
    induction r1 using cJ.casesOn with
    |nil=>exact RcNeAt.lists (A:=k.A) (s:=s) (e:=λO=>true) (bM e1) (bM e2) H hu' (λj h1=>al h1 (Nat.not_lt_zero _)) k.prog k.w E Q (hq)
    |cons=>exact RcNeAt.lists_lengths (A:=k.A) (s:=s) (bM e1) (bM e2) H hu' k.prog k.w E Q hq
  |_=>exact al hk gA
 |_=>exact al hk gA
theorem hW.any {l:↑(Str×At)} (r:hW h X μ bP l) (a:Str):(valueAt bP a).isSome=l.any λp=>decide (p.1=a):=by
 induction r with
 |nil=>rfl
 |@cons kk v VC bP l _ _ ih=>
  by_cases hk:kk=a
  ·subst hk;simp [valueAt]
  ·simp only [valueAt,List.find?_cons,hk,decide_false,List.any_cons,Bool.false_or]at ih⊢
   exact ih
theorem VD {a:D} {c:V} (x:Ok k μ σ ρ s.heap) (ra:RD s.heap (k.own++μ) va a) (rb:RV k.prog k.w s.heap (k.own++μ) μ vb c) (e:GR σ a c= .ok b) (hu:k.A.units+4<cLine):
  m4 k s (compareOp .In va vb) (Jy b):=λE Q h=>by
 have hq:∀tk,Q (.bool b) {s with toks:=tk}:=λtk=>h (.bool b) s.heap tk (.refl _) H
 have hu:k.A.units+2<cLine:=av hu
 clear h
 induction rb with
 |d rd=>induction rd using RD.casesOn with
  |J e1 _ r1=>exact Vv e1 r1 ra (e:) hu (hq s.toks)
  |aD e1 _ r1=>exact Mt e1 r1 ra (e:) hu (hq s.toks)
  |str y t=>
   refine R.ah (e:) λa1 ha e=>R.ah e λc0 hc e=>ra.ly ha λt=>?_
   cases mH hc
   refine P.in_str ?_
   rw [PySem.StrLaws.found_one]
   have:decide (c0∈y.cps.toList)=b:=R.aF e (by simp)
   rw [this];exact hq s.toks
  |_=>exact R.no (e:)
 |ref hn=>
  refine R.ah (e:) λl hl e=>?_
  obtain ⟨vs,n,e1,r1⟩:=x.cells.aD hn hl
  exact Mt e1 r1 ra e hu (hq s.toks)
 |eO hd _ hs r=>
  refine R.ah (e:) λz ha e=>ra.ly ha λt=>?_
  refine wpAny_in_of (knd:=PySem.strKind k.prog k.w) (k:=z) (strKind_is _ _ z t) hs hd.mapOf ?_
  rw [r.any]
  obtain rfl:=R.ok.inj e
  exact hq _
theorem Jz {a:D} {c:V} (x:Ok k μ σ ρ s.heap) (ra:RD s.heap (k.own++μ) va a) (rb:RV k.prog k.w s.heap (k.own++μ) μ vb c) (e:GR σ a c= .ok b) (hd:QE c=false) (hu:k.A.units+4<cLine):
  m4 k s (compareOp .NotIn va vb) (Jy (!b)):=λE Q h=>by
 have hq:∀tk,Q (.bool (!b)) {s with toks:=tk}:=λtk=>h (.bool (!b)) s.heap tk (.refl _) H
 have hu:k.A.units+2<cLine:=av hu
 clear h
 induction rb with
 |d rd=>induction rd using RD.casesOn with
  |J e1 _ r1=>exact Jv e1 r1 ra (e:) hu (hq s.toks)
  |aD e1 _ r1=>exact AU e1 r1 ra (e:) hu (hq s.toks)
  |str y t=>
   refine R.ah (e:) λa1 ha e=>R.ah e λc0 hc e=>ra.ly ha λt=>?_
   cases mH hc
   refine P.notIn_str ?_
   rw [PySem.StrLaws.found_one]
   have:decide (c0∈y.cps.toList)=b:=R.aF e (by simp)
   rw [this];exact hq s.toks
  |_=>exact R.no (e:)
 |ref hn=>
  refine R.ah (e:) λl hl e=>?_
  obtain ⟨vs,n,e1,r1⟩:=x.cells.aD hn hl
  exact AU e1 r1 ra e hu (hq s.toks)
 |eO=>exact al hd.symm gA
theorem VE {x y:Nat}:decide ((⟨#[y]⟩:Str).cps.toList<(⟨#[x]⟩:Str).cps.toList)=!decide (x≤y):=by
 have:([y]<[x])↔¬x≤y:=by
  rw [List.cons_lt_cons_iff,Nat.not_le]
  exact ⟨λh=>h.elim id λh=>al h.2 (List.not_lt_nil _), .inl⟩
 rw [←decide_not]
 exact decide_eq_decide.mpr this
theorem VF {a b:D} {c:Bool} (ra:RD s.heap X va a) (rb:RD s.heap Y vb b) (e:Vk a b= .ok c):m4 k s (compareOp .LtE va vb) (Jy c):=λE Q h=>by
 have hq:=h (.bool c) s.heap s.toks (.refl _) H
 clear h
 induction ra using RD.casesOn with
 |int i t=>exact R.ah (e:) λj hj e=>rb.hO hj λu=>P.le_int (by obtain rfl:=R.ok.inj e;exact hq)
 |str x t=>
  refine R.ah (e:) λy hj e=>rb.ly hj λu=>R.ah e λx0 hx e=>R.ah e λy0 hy e=>P.le_str ?_
  cases mH hx
  cases mH hy
  rw [VE,Bool.not_not]
  cases e;exact hq
 |_=>exact R.no (e:)
theorem G' {a:D} (ra:RD s.heap X va a):(va==Value.none)=oV a:=by
 induction ra using RD.casesOn<;>rfl
theorem RD.VG {v:Value} (r:RD h X v .none):v= .none:=by cases r;rfl
theorem Ha {op:CmpOp} {o:Cm} (ho:G0 op=some o) {a b:V} {c:Bool} (x:Ok k μ σ ρ s.heap) (ra:RV k.prog k.w s.heap (k.own++μ) μ va a) (rb:RV k.prog k.w s.heap (k.own++μ) μ vb b)
  (hN:(o= .kW∨o= .dw)→b= .d .none) (e:ek σ o a b= .ok c) (hu:k.A.units+4<cLine):m4 k s (compareOp op va vb) (Jy c):=by
 have vn:b= .d .none→vb= .none:=λq=>(rb.mw (d:= .none) (by refine ae q ?_;rfl)).VG
 refine R.ah e λxa hx e=>?_
 have rd:=ra.mw hx
 clear ra hx
 induction op with
 |Eq=>cases ho;exact R.ah (e:) λxb hy e=>VA rd (rb.mw hy) e hu
 |NotEq=>cases ho;exact R.ah (e:) λxb hy e=>R.bn e λgd e=>R.ah e λd hd e=>R.aF e (VB rd (rb.mw hy) hd gd hu)
 |Lt=>cases ho;exact R.ah (e:) λi hi e=>R.ah e λxb hy e=>R.ah e λj hj e=>R.aF e λE Q h=>rd.hO hi λt=>(rb.mw hy).hO hj λu=>P.lt_int (h _ s.heap s.toks (.refl _) H)
 |Gt=>cases ho;exact R.ah (e:) λi hi e=>R.ah e λxb hy e=>R.ah e λj hj e=>R.aF e λE Q h=>rd.hO hi λt=>(rb.mw hy).hO hj λu=>P.gt_int (h _ s.heap s.toks (.refl _) H)
 |LtE=>cases ho;exact R.ah (e:) λxb hy e=>VF rd (rb.mw hy) e
 |Is=>
  cases ho
  refine ae (vn (hN (.inl H))) ?_
  exact R.aF (e:) λE Q h=>is_none (by refine ae (G' rd) ?_;exact h _ s.heap s.toks (.refl _) H)
 |IsNot=>
  cases ho
  refine ae (vn (hN (.inr H))) ?_
  exact R.aF (e:) λE Q h=>isNot_none (by refine ae (G' rd) ?_;exact h _ s.heap s.toks (.refl _) H)
 |In=>cases ho;exact VD x rd rb (e:) hu
 |NotIn=>
  cases ho
  exact R.s8 (e:) (λO e=>R.no e) λhn e=>R.ah e λd hd e=>R.aF e (Jz x rd rb hd (eq_false_of_ne_true hn) hu)
 |_=>cases ho
theorem E2 (a b:D):NX (xZ a b):=by
 induction b using D.casesOn with
 |J m=>induction a using D.casesOn with
  |J=>exact .ite bm bj
  |aD=>exact bj
  |_=>exact bm
 |aD m=>exact .bind (wH _) λO=>by induction m using bu<;>first|exact bm|exact bj
 |_=>exact bm
theorem E3 (x:D) (l:↑D):NX (vd x l):=by
 induction l with
 |nil=>exact bm
 |cons y l ih=>exact .bind (E2 _ _) λO=>ih.bind λO=>bm
theorem Mw (σ:St) (x:D) (c:V):NX (GR σ x c):=by
 induction c with
 |un=>exact bj
 |d y=>induction y using D.casesOn with
  |J=>exact E3 _ _
  |aD=>exact E3 _ _
  |str=>exact .bind (jW _) λO=> .bind (uj _) λO=>bm
  |_=>exact bj
 |eO=>exact .bind (jW _) λO=>bm
 |ref=>exact .bind (nB _) λO=>E3 _ _
theorem Mx (a b:D):NX (Vk a b):=by
 induction a using D.casesOn with
 |int=>exact .bind (ig _) λO=>bm
 |str=>exact .bind (jW _) λO=> .bind (uj _) λO=> .bind (uj _) λO=>bm
 |_=>exact bj
theorem My (a b:V):NX (NK a b):= .bind (dY _) λO=> .bind (dY _) λO=>Mx _ _
theorem Q7 (σ:St) (o:Cm) (a b:V):NX (ek σ o a b):= .bind (dY _) λx=>by
 induction o with
 |eq=>exact .bind (dY _) λO=>E2 _ _
 |ne=>exact .bind (dY _) λO=> .ite (.bind (E2 _ _) λO=>bm) bj
 |le=>exact .bind (dY _) λO=>Mx _ _
 |kW=>exact bm
 |dw=>exact bm
 |fj=>exact Mw _ _ _
 |vc=>exact .ite bj (.bind (Mw _ _ _) λO=>bm)
 |_=>exact .bind (ig _) λO=> .bind (dY _) λO=> .bind (ig _) λO=>bm
end
section
variable {s:Shared}
theorem vj {o:Option α} {x:α} (e:pN o= .ok x):o=some x:=by
 induction o with
 |none=>exact R.no (e:)
 |some y=>exact R.aF (e:) H
theorem vm {l:↑α} {i:Int} {x:α} (e:qK l i= .ok x):∃j,CD (seqIndex? i l.length=some j) (l[j]?=some x) (-(2^62)≤i) (i<2^62):=by
 refine R.bn (e:) λhb e=>?_
 have hx:=vj e
 have hl:=(jo.mp hx).1
 refine ⟨_,?_,hx,hb.1,hb.2.1⟩
 clear hx e
 unfold seqIndex?
 by_cases h0:i<0
 ·simp only [h0,↓reduceIte]at hl⊢
  rw [ao (by rw [c9,lk,lk];lia),Int.add_comm]
 ·simp only [h0,↓reduceIte]at hl⊢
  rw [ao (by rw [c9,lk,lk];exact ⟨j1.mp h0,(Int.toNat_lt (j1.mp h0)).mp hl⟩)]
theorem hW.td {l:↑(Str×At)} (r:hW h X μ bP l) {a:Str} (e:Mine.td a l= .ok v):
  ∃val,valueAt bP a=some val∧RV k.prog k.w h X μ val v:=by
 induction r with
 |nil=>exact R.no e
 |@cons kk va VC bP l ra _ ih=>
  replace e:(if kk=a then R.ok (YO VC)else Mine.td a l)= .ok v:=e
  by_cases hk:kk=a
  ·rw [ao hk]at e
   have e:=R.ok.inj e;subst e
   refine ⟨va,by simp [valueAt,hk],?_⟩
   induction ra with
   |d r=>exact .d r
   |ref hn=>exact .ref hn
  ·rw [aN hk]at e
   obtain ⟨val,h1,h2⟩:=ih e
   exact ⟨val,by simp only [valueAt,List.find?_cons,hk,decide_false]at h1⊢;exact h1,h2⟩
abbrev m5 (k:Kx) (μ:↑Addr) (s:Shared) (o i:Value) (v:V):Prop:=
 (g9 λT id=>s.TypeIs o T∧typeLookup (.type T) "__getitem__"=pure (some (.builtin id)))∧m4 k s (PySem.getItem o i) (λh val=>RV k.prog k.w h (k.own++μ) μ val v)
theorem m4.same {t:Sem Value} {P:Heap→Value→Prop} {val:Value} (p:P s.heap val) (h:∀(E: ~~~0) (Q: ~~~0),(∀tk,Q val {s with toks:=tk})→wpAny k.M k.A t Q E s):m4 k s t P:=
 λE Q hq=>h E Q λtk=>hq val s.heap tk (.refl _) p
theorem NV {i:Int} {t:Tok} (e1:s.heap.get? a=some (n9 vs n)) (r:cJ s.heap (k.own++μ) vs l) (e:qK l i= .ok x):m5 k μ s (.ref a) (.int i t) (.d x):=by
 obtain ⟨j,h1,h2,h3,h4⟩:=vm e
 obtain ⟨v,hv,hr⟩:=r.get h2
 refine ⟨⟨"tuple",_,⟨_,e1,rfl⟩,F.slot_tuple_getitem.lookup⟩, .same (.d hr) λE Q hq=>?_⟩
 exact PyProof.Rows.getItem_tuple (k:=i) (j:=j) ⟨_,e1,rfl,n,rfl⟩ (Int.le_trans ∅ h3) (Int.lt_trans h4 ∅) (by refine ae dN (ae r.length ?_);exact h1) (by simpa using hv) (hq s.toks)
theorem DH {i:Int} {t:Tok} (e1:s.heap.get? a=some (ew vs n)) (r:cJ s.heap (k.own++μ) vs l) (e:qK l i= .ok x):m5 k μ s (.ref a) (.int i t) (.d x):=by
 obtain ⟨j,h1,h2,h3,h4⟩:=vm e
 obtain ⟨v,hv,hr⟩:=r.get h2
 refine ⟨⟨"list",_,⟨_,e1,rfl⟩,F.slot_list_getitem.lookup⟩, .same (.d hr) λE Q hq=>?_⟩
 unfold seqIndex? at h1
 by_cases h0:i<0
 ·simp only [h0,↓reduceIte]at h1
  split at h1
  ·rename_i hb
   have h1:=bb h1
   simp only [c9,lk]at hb
   refine wpAny_getItem_list_neg (bM e1) h0 (by refine ae dN (ae r.length ?_);lia) (by lia) (x:=v) ?_ (hq s.toks)
   refine ae dN (ae r.length (ae h1 ?_));simpa using hv
  ·exact nomatch h1
 ·simp only [h0,↓reduceIte]at h1
  split at h1
  ·have h1:=bb h1
   refine wpAny_getItem_list (k:=i) (bM e1) (j1.mp h0) (Int.lt_trans h4 ∅) (x:=v) ?_ (hq s.toks)
   refine ae h1 ?_;simpa using hv
  ·exact nomatch h1
theorem DI {l:↑(Str×At)} {x:Str} {t:Tok} (hd:s.heap.DictOf (PySem.strKind k.prog k.w) a bP) (r:hW s.heap (k.own++μ) μ bP l) (e:td x l= .ok v):
  m5 k μ s (.ref a) (.str x t) v:=by
 obtain ⟨val,h1,h2⟩:=r.td (k:=k) e
 refine ⟨⟨"dict",_,hd.typeIs,slot_dict_getitem.lookup⟩, .same h2 λE Q hq=>?_⟩
 exact wpAny_getItem_of (knd:=PySem.strKind k.prog k.w) (k:=x) (strKind_is _ _ x t) hd.mapOf h1 (hq _)
theorem NW {y:Str} {n:Int} {t u:Tok} {z:Nat} (hl:qK y.cps.toList n= .ok z):m5 k μ s (.str y t) (.int n u) (.d (.str ⟨#[z]⟩)):=by
 obtain ⟨j,h1,h2,h3,h4⟩:=vm hl
 refine ⟨⟨"str",_,typeIs_str s y t,F.slot_str_getitem.lookup⟩,λE Q hq=>?_⟩
 refine P.getItem_str (i:=n) (c:=z) (by simp only [Bool.or_eq_false_iff,decide_eq_false_iff_not];exact ⟨j1.mpr (Int.le_trans ∅ h3),Int.not_le.mpr (Int.lt_trans h4 ∅)⟩) ?_ (hq _ s.heap _ (.refl _) (.d (.str _ _)))
 have e5:seqIndex? n y.length=some j:=by simpa [Str.length]using h1
 refine ae e5 ?_
 simpa using h2
theorem NY {o i:Value} {c:V} {j:D} (x:Ok k μ σ ρ s.heap) (ro:RV k.prog k.w s.heap (k.own++μ) μ o c) (ri:RD s.heap (k.own++μ) i j) (e:gT σ c j= .ok v):m5 k μ s o i v:=by
 induction ro with
 |d ro=>
  refine R.ah (e:) λn hn e=>ri.hO hn λt=>?_
  induction ro using RD.casesOn with
  |J e1 _ r1=>exact R.ah (e:) λy hl e=>R.aF e (NV e1 r1 hl)
  |aD e1 _ r1=>exact R.ah (e:) λy hl e=>R.aF e (DH e1 r1 hl)
  |str y t=>exact R.ah (e:) λz hl e=>R.aF e (NW hl)
  |_=>exact R.no (e:)
 |@ref a n hn=>
  have e:Jp j σ[n]?= .ok v:=e
  generalize hc:σ[n]?=o0;induction o0 using di with
  |none=>rw [hc]at e;exact R.no (e:)
  |some c=>
   rw [hc]at e
   obtain ⟨a',nA,rc⟩:=x.cells.get hc
   cases hn.symm.trans nA
   clear hc hn nA
   induction rc with
   |list e1 r1=>exact R.ah (e:) λm hm e=>R.ah e λy hl e=>ri.hO hm λt=>R.aF e (DH e1 r1 hl)
   |dict e1 _ r1=>exact R.ah (e:) λy hy e=>ri.ly hy λt=>DI e1 r1 e
 |eO e1 _ _ r1=>exact R.ah (e:) λy hy e=>ri.ly hy λt=>DI e1 r1 e
theorem Hb (l:↑α) (i:Int):NX (qK l i):= .ite (wI _) bj
theorem Hc (a:Str) (l:↑(Str×At)):NX (td a l):=by
 induction l with
 |nil=>exact bj
 |cons p l ih=>exact .ite bm ih
theorem NZ (σ:St) (a:V) (i:D):NX (gT σ a i):=by
 induction a with
 |un=>exact bj
 |d y=>exact .bind (ig _) λO=>by induction y using D.casesOn<;>first|exact bj|exact .bind (Hb _ _) λO=>bm
 |eO=>exact .bind (jW _) λO=>Hc _ _
 |ref n=>
  show NX (Jp i σ[n]?)
  generalize σ[n]?=o0;induction o0 using di with
  |none=>exact bj
  |some c=>induction c with
   |list=>exact .bind (ig _) λO=> .bind (Hb _ _) λO=>bm
   |dict=>exact .bind (jW _) λO=>Hc _ _
end
variable {sl:Addr} {vu:Value} {hi lo:Option Int}
section
variable {w:World} {E: ~~~0} {s:Shared}
theorem AX {v:Value} {p:Option Int} {Q:Option Int→Shared→Prop} (h:IsPart v p) (hq:Q p s):wpAny (model prog w) A (Builtin.Slice.slicePartIndex v) Q E s:=by
 induction h with
 |none=>exact slicePart_none hq
 |int i t=>exact slicePart_int hq
theorem Hd {vl vs:Value} {st:Option Int} {Q:Int×Int×Nat→Shared→Prop} (hs:s.heap.IsSliceOf sl vl vu vs) (pl:IsPart vl lo) (pu:IsPart vu hi) (ps:IsPart vs st) (h0:st.getD 1≠0)
  (h:Q ((Builtin.Slice.sliceAdjust lo hi (st.getD 1) n).1,st.getD 1,Builtin.Slice.slicePlaces (Builtin.Slice.sliceAdjust lo hi (st.getD 1) n).1 (Builtin.Slice.sliceAdjust lo hi (st.getD 1) n).2 (st.getD 1)) s):
  wpAny (model prog w) A (Builtin.Slice.sliceApplied (.ref sl) (pure (n:Int))) Q E s:=by
 obtain ⟨os,Q8,hcs,VH⟩:=id hs
 refine aj (aj (wpAny_field Q8 VH (x:=vl) H (aj (wpAny_field Q8 VH (x:=vu) H (aj (wpAny_field Q8 VH (x:=vs) H (aB ?_)))))))
 refine aj (AX ps ?_)
 refine ae (aN (by simpa using h0)) ?_
 refine aj (AX pl (aj (AX pu (aj (aB ?_)))))
 exact aB h
theorem to {t:Addr} {aZ:Array Value} {vl vs:Value} {st:Option Int} (ht:IsTup s.heap t aZ) (hs:s.heap.IsSliceOf sl vl vu vs) (pl:IsPart vl lo) (pu:IsPart vu hi) (ps:IsPart vs st)
  (h0:st.getD 1≠0) {a b:Int} (VI:Builtin.Slice.sliceAdjust lo hi (st.getD 1) aZ.size=(a,b)) (hn:Builtin.Slice.slicePlaces a b (st.getD 1)=n)
  (qr:(a==0&&st.getD 1==1&&n==aZ.size)=true→Q (.ref t) s)
  (jX:(a==0&&st.getD 1==1&&n==aZ.size)=false→Q (.ref s.heap.objs.size) {s with heap:=s.heap.push {cls:= .type "tuple",data:= .seq ((List.range n).filterMap λ(k:Nat)=>aZ[(a+(k:Int)*st.getD 1).toNat]?).toArray}})
  (hsz:n≤sizeLine):wpAny (model prog w) A (getItem (.ref t) (.ref sl)) Q E s:=by
 have vo:sizeOk (.seq ((List.range n).filterMap λ(k:Nat)=>aZ[(a+(k:Int)*st.getD 1).toNat]?).toArray):=by
  show((List.range n).filterMap λ(k:Nat)=>aZ[(a+(k:Int)*st.getD 1).toNat]?).toArray.size≤sizeLine
  refine ae dN ?_
  exact aM (List.length_filterMap_le ..) (by simpa using hsz)
 obtain ⟨os,Q8,hcs,VH⟩:=id hs
 have hTs:s.TypeIs (.ref sl) "slice":=⟨os,Q8,hcs⟩
 obtain ⟨ot,hot,hct,nt,hdt⟩:=id ht
 unfold getItem
 try with_reducible refine dA ?_
 first|refine aj (aB ?_)|skip
 refine aj (wpAny_sequenceKey ht.typeIs ∅ ?_)
 refine aj (wpAny_callSpecial?_slot (name:=Str.ofString "__getitem__") ht.typeIs slot_tuple_getitem
  (wpAny_call_entry slot_tuple_getitem ht.typeIs entry_tuple_getitem ?_ (args_tuple_getitem _ _)))
 show wpAny _ _ (Builtin.Tuple.tupleItemsOf (.ref t)>>=_) _ _ s
 refine aj (tupleItemsOf_ ht ?_)
 refine aj (wpAny_typeOf hTs ?_)
 refine ae (ao ∅) ?_
 refine aj (Hd hs pl pu ps h0 ?_)
 refine ae VI (ae hn ?_)
 show wpAny _ _ (if(a==0&&st.getD 1==1&&n==aZ.size)=true then _ else _) _ _ s
 generalize hc:(a==0&&st.getD 1==1&&n==aZ.size)=o0;induction o0 using ar with
 |true=>
  refine ae (ao H) ?_
  refine aj (m:=Builtin.Tuple.tupleIsExact _) ?_
  refine aj (wpAny_typeOf ht.typeIs (aB ?_))
  exact aj (wpAny_rule (aj (aB (aB ⟨_,H,aB (qr hc)⟩))))
 |false=>
  refine ae (aN gA) ?_
  exact aj (m:=Builtin.Tuple.tupleExact _) (wpAny_newObj_type (aB ⟨_,H,aB (jX hc)⟩) vo)
end
theorem uk {f g:α→Option β} {l:↑α}:(∀x∈l,f x=g x)→l.filterMap f=l.filterMap g:=by
 induction l with
 |nil=>exact λO=>rfl
 |cons x r dS=>exact λh=>by exact ae lU (ae lU (ae (h x bZ) (ae (dS λy hy=>h y (bY _ hy)) H)))
theorem nC (L:↑α) (n:Nat):∀(a:Nat),(List.range' a n).filterMap (λk=>L[k]?)=(L.drop a).take n:=by
 induction n with
 |zero=>exact λa=>rfl
 |succ n dS=>
  intro a
  refine ae pF (ae lU (ae (dS (a+1)) ?_))
  by_cases h:a<L.length
  ·exact ae (fE h) (ae (Jn h) (ae List.take_succ_cons H))
  ·have h1:L[a]?=none:=rm (av (Nat.not_lt.mp h))
   refine ae h1 (ae (List.drop_of_length_le (av (Nat.not_lt.mp h))) (ae (List.drop_of_length_le (av (Nat.not_lt.mp h))) ?_));simp
theorem pO (L:↑α) (n a:Nat):(List.range n).filterMap (λk=>L[a+k]?)=(L.drop a).take n:=by
 rw [←nC,List.range'_eq_map_range];refine ae ue ?_;rfl
theorem AY (L:↑α):(List.range L.length).filterMap (λk=>L[L.length -1 -k]?)=L.reverse:=by
 have h:∀n,n≤L.length→(List.range n).filterMap (λk=>L[L.length -1 -k]?)=L.reverse.take n:=by
  intro n
  induction n with
  |zero=>intro _;simp
  |succ n ih=>
   intro hn
   rw [List.range_succ,List.filterMap_append,ih (av hn)];refine ae List.take_succ ?_
   congr 1
   rw [List.getElem?_reverse (av hn)]
   have:L.length -1 -n<L.length:=li (Nat.sub_le _ _) (Nat.sub_lt (ry (Nat.succ_pos n) hn) Nat.one_pos)
   simp [this]
 exact ae (h L.length (cF _)) (ae (rj (by simp)) H)
theorem qO {v:Value} {p:Option Int} (r:RD h X v d) (e:rJ d= .ok p):IsPart v p:=by
 induction r using RD.casesOn with
 |none=>exact R.aF (e:) .none
 |int i t=>exact R.aF (e:) (.int i t)
 |_=>exact R.no (e:)
variable {vt:Value} {z:D}
section
variable {s:Shared}
theorem tq (e:h.get? a=some (n9 vs n)):IsTup h a vs.toArray:=⟨_,e,rfl,n,rfl⟩
inductive He (l r:↑D) (lo hi st:Option Int):Prop
 |mk (x y:Int) (n:Nat):st.getD 1≠0→Builtin.Slice.sliceAdjust lo hi (st.getD 1) l.length=(x,y)→Builtin.Slice.slicePlaces x y (st.getD 1)=n→n≤l.length→
   ((x==0&&st.getD 1==1&&n==l.length)=true→r=l)→(∀{α:Type} (L:↑α),L.length=l.length→∃is,((List.range n).filterMap λ(k:Nat)=>L[(x+(k:Int)*st.getD 1).toNat]?)=j7 L is∧r=j7 l is)→He l r lo hi st
theorem mn (k n:Nat):min (k:Int) n=((min k n:Nat):Int):=(Nat.le_total k n).elim (λh=>by exact ae (Nat.min_eq_left h) (ae (Int.min_eq_left (nh.mpr h)) H)) λh=>by exact ae (Nat.min_eq_right h) (ae (Int.min_eq_right (nh.mpr h)) H)
theorem ifF {k:Nat} {e:Int} (he:e=(n:Int) -k):(if(k:Int)<n then e else 0).toNat=n -k:=by
 by_cases h:(k:Int)<n
 ·refine ae (ao h) ?_;rw [he,Int.toNat_sub]
 ·refine ae (aN h) (ae (Nat.sub_eq_zero_of_le (nh.mp (j1.mp h))) ?_);rfl
theorem ifG {e:Int} (he:e=m):(if(0:Int)<m then e else 0).toNat=m:=ifF (k:=0) (he.trans (Int.sub_zero _).symm)
theorem ifR {e:Int} (he:e=n):(if(n:Int) -1>-1 then e else 0).toNat=n:=by
 by_cases h:(n:Int) -1>-1
 ·refine ae (ao h) (ae he ?_);rfl
 ·refine ae (aN h) ?_
  induction n using gi with
  |zero=>rfl
  |succ n=>exact al (by rw [Int.add_sub_cancel];exact Int.lt_of_lt_of_le ∅ (kG n):((n:Int)+1) -1>-1) h
theorem rvN {k:Nat} (h:k<n):((n:Int) -1 -k).toNat=n -1 -k:=by
 rw [show(n:Int) -1=((n -1:Nat):Int)from(Int.ofNat_sub (li (dK _) h)).symm,Int.toNat_sub]
theorem JA {i:Int} (hi:1≤i∧i<2^62∧i≤l.length):He l (l.drop i.toNat) (some i) none none:=by
 obtain ⟨j,rfl⟩:=AG (Int.le_trans ∅ hi.1)
 have hj:j≤l.length:=nh.mp hi.2.2
 refine ⟨j,l.length,l.length -j,by decide,adjust_from j _ hj,places_from j _ hj,Nat.sub_le _ _,λh=>?_,λ{α} L hL=>⟨List.range' j (l.length -j),?_,?_⟩⟩
 ·simp only [c9,beq_iff_eq]at h
  exact al (h.1.1▸hi.1) ∅
 ·unfold j7
  rw [nC,←pO]
  refine uk λk O=>?_
  show L[((j:Int)+(k:Int)*1).toNat]?=_
  rw [Int.mul_one];rfl
 ·unfold j7
  rw [nC];refine ae (rj (Nat.le_of_eq List.length_drop)) ?_;rfl
theorem JB {i:Int} (hi:0≤i∧i<2^62):He l (l.take i.toNat) none (some i) none:=by
 obtain ⟨k,rfl⟩:=AG hi.1
 refine ⟨0,min (k:Int) l.length,min k l.length,by decide,?_,?_,Nat.min_le_right _ _,?_,λ{α} L hL=>⟨List.range' 0 (min k l.length),?_,?_⟩⟩
 ·have h2:¬((k:Int)<0):=j1.mpr hi.1
  simp only [Builtin.Slice.sliceAdjust,Option.getD_none,show ¬((1:Int)<0)by decide,h2,↓reduceIte]
 ·simp only [Builtin.Slice.slicePlaces,Option.getD_none,show(1:Int)>0 by decide,↓reduceIte,Int.ediv_one]
  rw [mn];exact ifG (by rw [Int.sub_zero,Int.sub_add_cancel])
 ·intro h
  simp only [c9,beq_iff_eq]at h
  exact ae (rj (h.2▸Nat.min_le_left _ _)) H
 ·unfold j7
  rw [nC,←pO]
  refine uk λk O=>?_
  show L[(0+(k:Int)*1).toNat]?=_
  rw [Int.mul_one];rfl
 ·unfold j7
  rw [nC,List.drop_zero,←List.take_take,List.take_length];rfl
theorem N0:He l l.reverse none none (some (-1)):=by
 refine ⟨(l.length:Int) -1,-1,l.length,by decide,rfl,?_,cF _,?_,λ{α} L hL=>⟨(List.range l.length).map λk=>l.length -1 -k,?_,?_⟩⟩
 ·simp only [Builtin.Slice.slicePlaces,Option.getD_some,show ¬((-1:Int)>0)by decide,↓reduceIte,show -(-1:Int)=1 from rfl,Int.ediv_one]
  exact ifR (by rw [Int.sub_neg,Int.sub_add_cancel,Int.sub_add_cancel])
 ·intro h
  rw [c9,c9]at h
  exact al h.1.2 ∅
 ·unfold j7
  rw [ue]
  refine uk λk hk=>?_
  rw [List.mem_range]at hk
  show L[((l.length:Int) -1+(k:Int)*(-1)).toNat]?=L[l.length -1 -k]?
  rw [Int.mul_neg,Int.mul_one,←Int.sub_eq_add_neg,rvN hk]
 ·unfold j7
  rw [ue]
  exact (AY l).symm
@[elab_as_elim] theorem zn {l r:↑α} {P:Option Int→Option Int→Option Int→↑α→Prop} {a b s:Option Int} (e:wn l a b s= .ok r) (h1:∀i:Int,1≤i∧i<2^62∧i≤l.length→P (some i) none none (l.drop i.toNat))
  (h2:∀i:Int,0≤i∧i<2^62→P none (some i) none (l.take i.toNat)) (h3:P none none (some (-1)) l.reverse):P a b s r:=by
 induction s with
 |some s=>exact R.bn (e:) λh e'=>by obtain ⟨rfl,rfl,rfl⟩:=h;exact R.aF e' h3
 |none=>induction a with
  |some a=>exact R.bn (e:) λh e'=>by obtain ⟨rfl,h⟩:=h;exact R.aF e' (h1 a h)
  |none=>induction b with
   |some b=>exact R.bn (e:) λh e=>R.aF e (h2 b h)
   |none=>exact R.no (e:)
theorem Hf {r:↑D} {a b s:Option Int} (e:wn l a b s= .ok r):He l r a b s:=zn e (λO=>JA) (λO=>JB) N0
theorem JC {r:↑D} {vl:Value} {y:D} (hX:s.heap.objs.size∉k.own++μ) (ha:a∉k.own++μ) (e1:s.heap.get? a=some (n9 vs n)) (rd:cJ s.heap (k.own++μ) vs l)
  (hs:s.heap.IsSliceOf sl vl vu vt) (rl:RD s.heap (k.own++μ) vl x) (ru:RD s.heap (k.own++μ) vu y) (rs:RD s.heap (k.own++μ) vt z) (hl:l.length≤aT) (e:ou l x y z= .ok r):
  m5 k μ s (.ref a) (.ref sl) (.d (.J r)):=by
 refine R.ah (e:) λlo p1 e=>R.ah e λhi p2 e=>R.ah e λst p3 e=>?_
 obtain ⟨c,d,m,h0,q1,q2,q3,q4,q5⟩:=Hf e
 refine ⟨⟨"tuple",_,⟨_,e1,rfl⟩,F.slot_tuple_getitem.lookup⟩,λE Q hq=>?_⟩
 have cb:vs.toArray.size=l.length:=by exact ae dN (ae rd.length H)
 refine to (a:=c) (b:=d) (n:=m) (tq e1) hs (qO rl p1) (qO ru p2) (qO rs p3) h0 (by refine ae cb ?_;exact q1) q2 (λh=>?_) (λO=>?_) (aM q3 (l9 hl))
 ·rw [cb]at h
  have hr:=q4 h
  exact hq _ s.heap s.toks (.refl _) (.d (.J e1 ha (hr▸rd)))
 ·obtain ⟨is,w1,w2⟩:=q5 vs rd.length
  refine hq _ _ _ (.push _ _) (.d (.J (vs:=j7 vs is) (n:=0) ?_ hX ?_))
  ·have:((List.range m).filterMap λ(k:Nat)=>vs.toArray[(c+(k:Int)*st.getD 1).toNat]?)=j7 vs is:=by refine dg w1 ?_;simp
   refine ae this ?_;exact gN _ rfl
  ·refine ae w2 ?_;exact (rd.j7 is).keep (.push _ _)
theorem JD {r:↑D} {vl:Value} {y:D} (hX:s.heap.objs.size∉k.own++μ) (e1:s.heap.get? a=some (ew vs n)) (rd:cJ s.heap (k.own++μ) vs l)
  (hs:s.heap.IsSliceOf sl vl vu vt) (rl:RD s.heap (k.own++μ) vl x) (ru:RD s.heap (k.own++μ) vu y) (rs:RD s.heap (k.own++μ) vt z) (hl:l.length≤aT) (e:wo l x y z= .ok r):
  m5 k μ s (.ref a) (.ref sl) (.d (.aD r)):=by
 have cb:vs.toArray.size=l.length:=by exact ae dN (ae rd.length H)
 refine ⟨⟨"list",_,⟨_,e1,rfl⟩,F.slot_list_getitem.lookup⟩,λE Q hq=>?_⟩
 refine R.ah (e:) λlo p1 e=>R.ah e λhi p2 e=>R.ah e λst p3 e=>?_
 have key:st≠some 0∧∃us:↑Value,slicePick vs.toArray lo hi st=us.toArray∧cJ s.heap (k.own++μ) us r:=by
  induction lo with
  |some b=>induction st with
   |none=>exact R.no (e:)
   |some c=>
    refine R.bn (e:) λhb e'=>?_
    obtain ⟨rfl,hb⟩:=hb
    refine ⟨λq=>by obtain rfl:=bb q;exact al hb.2.2.1 ∅,j7 vs (sliceRange (min b l.length) l.length c),?_,R.aF e' (rd.j7 _)⟩
    unfold slicePick sliceBounds j7
    have h1:c>0:=hb.2.2.1
    have h2:¬b<0:=j1.mpr hb.1
    simp only [Option.getD_some,h1,h2,↓reduceIte,↓reduceIte,cb]
    refine ae (Int.max_eq_right (Int.le_min.mpr ⟨hb.1,kG _⟩)) ?_
    simp
  |none=>induction hi with
   |none=>exact R.no (e:)
   |some b=>
    refine R.bn (e:) λhb e'=>?_
    obtain ⟨rfl,hb⟩:=hb
    refine ⟨nofun,vs.take b.toNat,?_,R.aF e' (rd.take _)⟩
    have:=slicePick_upto' vs.toArray b.toNat
    rw [Int.toNat_of_nonneg hb.1]at this
    simpa using this
 obtain ⟨h0,us,hu,hr⟩:=key
 refine wpAny_getItem_list_slice (bM e1) hs (qO rl p1) (qO ru p2) (qO rs p3) h0 ?_ (by refine ae cb ?_;exact l9 hl)
 refine ae hu ?_
 exact hq _ _ _ (.push _ _) (.d (.aD (n:=0) (gN _ rfl) hX (hr.keep (.push _ _))))
inductive Hg (x:Str) (lo hi st:Option Int) (r:↑Nat):Prop
 |mk:(st.getD 1==0)=false→(Builtin.Str.strSliceIndices lo hi (st.getD 1) x.length).filterMap (x.cps[·]?)=r→((st.getD 1==1&&(Builtin.Str.strSliceIndices lo hi (st.getD 1) x.length).length==x.length)=true→r=x.cps.toList)→r.length≤x.length→Hg x lo hi st r
section
variable {x:Str} {i:Int}
theorem oW:x.cps.toList.length=x.length:=rfl
theorem E4 (is:↑Nat):is.filterMap (x.cps[·]?)=is.filterMap (x.cps.toList[·]?):=uk λk O=>by simp
theorem JE (hi:1≤i∧i<2^62∧i≤x.cps.toList.length):Hg x (some i) none none (x.cps.toList.drop i.toNat):=by
 rw [oW]at hi
 obtain ⟨k,rfl⟩:=AG (Int.le_trans ∅ hi.1)
 have hk:k≤x.length:=nh.mp hi.2.2
 have tu:Builtin.Str.strSliceIndices (some (k:Int)) none 1 x.length=(List.range (x.length -k)).map λj=>k+j:=by
  unfold Builtin.Str.strSliceIndices sliceRange
  have h2:¬(k:Int)<0:=j1.mpr (kG k)
  simp only [(by decide:(1:Int)>0),h2,↓reduceIte,↓reduceIte,Int.ediv_one]
  refine ae (Int.min_eq_left hi.2.2) (ae (Int.max_eq_right (kG k)) (ae (ifF (Int.add_sub_cancel _ _)) ?_))
  refine List.map_congr_left λj O=>?_
  rw [Int.one_mul];rfl
 refine ⟨rfl,?_,?_,by refine ae List.length_drop (ae oW ?_);exact Nat.sub_le _ _⟩
 ·show(Builtin.Str.strSliceIndices (some (k:Int)) none 1 x.length).filterMap _=_
  rw [tu,E4];refine ae ue ?_
  exact (pO x.cps.toList (x.length -k) k).trans (rj (by rw [List.length_drop];refine ae oW ?_;exact cF _))
 ·show((1:Int)==1&&(Builtin.Str.strSliceIndices (some (k:Int)) none 1 x.length).length==x.length)=true→_
  refine ae tu ?_
  intro h
  simp only [fb,List.length_range,c9,beq_iff_eq]at h
  have h1:0<k:=nh.mp hi.1
  exact al h.2 (ni (Nat.sub_lt (ry h1 hk) h1))
theorem JF (hi:0≤i∧i<2^62):Hg x none (some i) none (x.cps.toList.take i.toNat):=by
 obtain ⟨k,rfl⟩:=AG hi.1
 have tu:Builtin.Str.strSliceIndices none (some (k:Int)) 1 x.length=(List.range (min k x.length)).map λk=>0+k:=by
  unfold Builtin.Str.strSliceIndices sliceRange
  have h2:¬(k:Int)<0:=j1.mpr hi.1
  simp only [(by decide:(1:Int)>0),h2,↓reduceIte,↓reduceIte,Int.ediv_one]
  rw [mn,Int.max_eq_right (kG _),ifG (by rw [Int.sub_zero,Int.add_sub_cancel])]
  refine List.map_congr_left λj O=>?_
  rw [Int.one_mul];rfl
 refine ⟨rfl,?_,?_,by refine ae List.length_take ?_;rw [oW];exact Nat.min_le_right _ _⟩
 ·show(Builtin.Str.strSliceIndices none (some (k:Int)) 1 x.length).filterMap _=_
  refine ae tu ?_;rw [E4,ue]
  refine (pO x.cps.toList (min k x.length) 0).trans ?_
  refine ae List.drop_zero ?_;rw [←oW,←List.take_take,List.take_length];rfl
 ·show((1:Int)==1&&(Builtin.Str.strSliceIndices none (some (k:Int)) 1 x.length).length==x.length)=true→_
  rw [tu]
  intro h
  simp only [fb,List.length_range,c9,beq_iff_eq]at h
  rw [rj (by rw [oW];exact h.2▸Nat.min_le_left _ _)]
theorem N2:Hg x none none (some (-1)) x.cps.toList.reverse:=by
 have tu:Builtin.Str.strSliceIndices none none (-1) x.length=(List.range x.length).map λk=>x.length -1 -k:=by
  unfold Builtin.Str.strSliceIndices sliceRange
  simp only [(by decide:¬((-1:Int)>0)),↓reduceIte]
  rw [show -(-1:Int)=1 from rfl,Int.ediv_one]
  rw [ifR (by rw [Int.sub_neg,Int.sub_neg,Int.sub_add_cancel,Int.add_sub_cancel])]
  refine List.map_congr_left λk hk=>?_
  rw [List.mem_range]at hk
  rw [Int.neg_mul,Int.one_mul,←Int.sub_eq_add_neg,rvN hk]
 refine ⟨rfl,?_,?_,by rw [rq,oW];exact cF _⟩
 ·show(Builtin.Str.strSliceIndices none none (-1) x.length).filterMap _=_
  rw [tu,E4,ue]
  exact AY x.cps.toList
 ·intro h
  rw [c9]at h
  exact al h.1 ∅
end
theorem Hh {x:Str} {r:↑Nat} {a b s:Option Int} (e:wn x.cps.toList a b s= .ok r):Hg x a b s r:=zn e (λO=>JE) (λO=>JF) N2
theorem yf {v:Value} {p:Option Int} (r:RD h X v d) (e:rJ d= .ok p):∃q:Option (Int×Tok),v=partValue q∧q.map (·.1)=p:=by
 induction r using RD.casesOn with
 |none=>exact R.aF (e:) ⟨none,rfl,rfl⟩
 |int i t=>exact R.aF (e:) ⟨some (i,t),rfl,rfl⟩
 |_=>exact R.no (e:)
theorem JG {x:Str} {t:Tok} {r:↑Nat} {vl:Value} {a b c:D} (hs:s.heap.IsSliceOf sl vl vu vt) (rl:RD s.heap (k.own++μ) vl a) (ru:RD s.heap (k.own++μ) vu b) (rs:RD s.heap (k.own++μ) vt c)
  (hl:x.length≤aT) (e:ou x.cps.toList a b c= .ok r):m5 k μ s (.str x t) (.ref sl) (.d (.str ⟨r.toArray⟩)):=by
 refine R.ah (e:) λlo p1 e=>R.ah e λhi p2 e=>R.ah e λst p3 e=>?_
 obtain ⟨h0,h1,h2,h3⟩:=Hh e
 clear e
 obtain ⟨l',rfl,e1⟩:=yf rl p1
 obtain ⟨u',rfl,e2⟩:=yf ru p2
 obtain ⟨s',rfl,e3⟩:=yf rs p3
 clear rl ru rs p1 p2 p3
 refine ⟨⟨"str",_,typeIs_str s x t,F.slot_str_getitem.lookup⟩,λE Q hq=>wpAny_getItem_str_slice hs (by refine ae e3 ?_;exact h0) ?_⟩
 unfold sliceMade slicePicked
 refine ae e1 (ae e2 (ae e3 ?_))
 split
 ·rename_i qr
  have hxr:x=⟨r.toArray⟩:=by exact ae (h2 qr) H
  exact hq _ s.heap s.toks (.refl _) (.d (hxr▸RD.str x t))
 ·refine ae h1 ?_
  exact ⟨aM (by refine ae dN ?_;exact h3:r.toArray.size≤x.length) (l9 hl),hq _ s.heap _ (.refl _) (.d (.str _ _))⟩
theorem JH {o:Value} {c:V} {vl:Value} {y:D} (ok:Ok k μ σ ρ s.heap) (ro:RV k.prog k.w s.heap (k.own++μ) μ o c) (hs:s.heap.IsSliceOf sl vl vu vt)
  (rl:RD s.heap (k.own++μ) vl x) (ru:RD s.heap (k.own++μ) vu y) (rs:RD s.heap (k.own++μ) vt z) (e:jU c x y z= .ok v):m5 k μ s o (.ref sl) v:=by
 refine R.ah (e:) λd hd e=>?_
 have rd:=ro.mw hd
 clear ro hd
 induction rd using RD.casesOn with
 |J e1 x1 r1=>exact R.bn (e:) λhb e=>R.ah e λr hl e=>R.aF e (JC ok.below x1 e1 r1 hs rl ru rs hb hl)
 |aD e1 x1 r1=>exact R.bn (e:) λhb e=>R.ah e λr hl e=>R.aF e (JD ok.below e1 r1 hs rl ru rs hb hl)
 |str q t=>exact R.bn (e:) λhb e=>R.ah e λr hl e=>R.aF e (JG hs rl ru rs hb hl)
 |_=>exact R.no (e:)
theorem oG (d:D):NX (rJ d):=by induction d using D.casesOn<;>first|exact bj|exact bm
theorem JI (l:↑α) (a b s:Option Int):NX (wn l a b s):=by
 induction s with
 |some=>exact .ite bm bj
 |none=>induction a with
  |some=>exact .ite bm bj
  |none=>induction b with
   |some=>exact .ite bm bj
   |none=>exact bj
theorem JJ (l:↑α) (a b s:Option Int):NX (Mg l a b s):=by
 induction a with
 |some=>induction s with
  |some=>exact .ite bm bj
  |none=>exact bj
 |none=>induction b with
  |some=>exact .ite bm bj
  |none=>exact bj
theorem AZ (l:↑α) (a b s:D):NX (ou l a b s):= .bind (oG _) λO=> .bind (oG _) λO=> .bind (oG _) λO=>JI _ _ _ _
theorem JK (c:V) (a b s:D):NX (jU c a b s):= .bind (dY _) λy=>by
 induction y using D.casesOn with
 |J=>exact .ite (.bind (AZ _ _ _ _) λO=>bm) bj
 |aD=>exact .ite (.bind (.bind (oG _) λO=> .bind (oG _) λO=> .bind (oG _) λO=>JJ _ _ _ _) λO=>bm) bj
 |str=>exact .ite (.bind (AZ _ _ _ _) λO=>bm) bj
 |_=>exact bj
end
section
variable {s:Shared}
abbrev oX (k:Kx) (μ:↑Addr) (σ:St) (ρ:↑V) (s:Shared) (t:Sem Value) (r:V×St):Prop:=∀E,wpAny k.M k.A t (PG k μ ρ (qN k) s (.ok r)) E s
theorem Q9 {val:Value} {y:D} (x:Ok k μ σ ρ s.heap) (rd:RD s.heap (k.own++μ) val d) (e:wq .len d= .ok y):oX k μ σ ρ s (PySem.call (.builtin "len") [val]) (.d y,σ):=λE=>by
 refine R.ah (e:) λn hn e=>R.bn e λhb e=>R.aF e ?_
 have hb:(n:Int)<2^63:=by lia
 induction rd using RD.casesOn with
 |J e1 x1 r1=>
  have h1:_=n:=R.aF (hn:) r1.length
  refine PyProof.Rows.len_tuple (tq e1) (by refine ae dN (ae h1 ?_);exact hb) (PG.qp x H (.d ?_))
  refine ae dN (ae h1 ?_);exact .int _ _
 |aD e1 x1 r1=>
  have h1:_=n:=R.aF (hn:) r1.length
  refine PyProof.Rows.len_list (bM e1) (by refine ae dN (ae h1 ?_);exact hb) (PG.qp x H (.d ?_))
  refine ae dN (ae h1 ?_);exact .int _ _
 |str y t=>exact P.len_str (by cases hn;exact Int.not_le.mpr hb) (PG.qp x H (.d (by cases hn;exact .int _ _)))
 |_=>exact R.no (hn:)
theorem Q' {val:Value} {y:D} (x:Ok k μ σ ρ s.heap) (rd:RD s.heap (k.own++μ) val d) (e:wq .str d= .ok y):oX k μ σ ρ s (PySem.call (.type "str") [val]) (.d y,σ):=λE=>
 R.ah (e:) λi hi e=>R.bn e λhn e=>rd.hO hi λt=>R.aF e (P.str_of_int (by
  have h1:i.natAbs<2^1920:=Nat.lt_trans (by lia:i.natAbs<1000000) ⋯
  by_cases h0:i.natAbs=0
  ·refine ae h0 ?_;decide
  ·exact (Nat.log2_lt h0).mpr h1) (PG.qp x H (.d (.str _ _))))
theorem Ra {val:Value} {y:D} (x:Ok k μ σ ρ s.heap) (rd:RD s.heap (k.own++μ) val d) (e:wq .EM d= .ok y):oX k μ σ ρ s (PySem.call (.builtin "chr") [val]) (.d y,σ):=λE=>
 R.ah (e:) λi hi e=>R.bn e λhn e=>rd.hO hi λt=>R.aF e (P.chr_of_int (by simp only [Bool.or_eq_false_iff,decide_eq_false_iff_not];lia) (PG.qp x H (.d (.str _ _))))
theorem Rb {val:Value} {y:D} (x:Ok k μ σ ρ s.heap) (rd:RD s.heap (k.own++μ) val d) (e:wq .EN d= .ok y):oX k μ σ ρ s (PySem.call (.builtin "ord") [val]) (.d y,σ):=λE=>
 R.ah (e:) λz hz e=>R.ah e λc hc e=>rd.ly hz λt=>by
  cases mH hc
  exact R.aF e (P.ord_of_char (PG.qp x H (.d (.int _ _))))
theorem JL {val:Value} {r:V×St} (x:Ok k μ σ ρ s.heap) (rv:RV k.prog k.w s.heap (k.own++μ) μ val v) (e:mF σ .tuple v= .ok r):oX k μ σ ρ s (PySem.call (.type "tuple") [val]) r:=λE=>by
 refine R.ah (e:) λl hl e=>R.bn e λhz e=>?_
 obtain ⟨a,vs,n,rfl,e1,r1⟩:=vh x rv hl
 refine call_tuple_list (bM e1) (λh' kp=>?_) (by refine ae dN (ae r1.length ?_);exact l9 hz)
 have rO:dJ s.heap (h'.push (n9 vs 0)):=(show dJ s.heap h' from kp).trans (.push _ _)
 exact PG.of_keep (tk:=s.toks) x rO e.symm (.d (.J (gN _ rfl) (x.keep (kp:dJ s.heap h')).below (r1.keep rO)))
theorem E5 (r:cJ h X vs l):∀{i:Int},AL l= .ok i→∃xs:↑(Int×Tok),vs.toArray=intItems xs.toArray∧(xs.map (·.1)).sum=i:=by
 induction vs generalizing l with
 |nil=>intro i e;cases r;exact R.aF (e:) ⟨[],by simp [intItems],rfl⟩
 |cons v vs ih=>
  intro i e
  cases r with
  |cons a r=>
   refine R.ah (e:) λj hj e=>R.ah e λi' hs e=>a.hO hj λt=>?_
   obtain ⟨xs,h1,h2⟩:=ih r hs
   refine ⟨(j,t)::xs,?_,R.aF e (by exact ae ef (ae List.sum_cons (ae h2 H)))⟩
   have:vs=(intItems xs.toArray).toList:=by exact dg h1 H
   refine ae this ?_
   simp [intItems]
theorem Rc {val:Value} {y:D} (hh:k.A.handled=none) (x:Ok k μ σ ρ s.heap) (rd:RD s.heap (k.own++μ) val d) (e:wq .sum d= .ok y):oX k μ σ ρ s (PySem.call (.builtin "sum") [val]) (.d y,σ):=λE=>
 R.ah (e:) λl hl e=>R.ah e λi hs e=>rd.E1 hl λa vs n e1 O r1=>by
  obtain ⟨xs,h1,h2⟩:=E5 r1 hs
  have hl:=bM e1
  rw [h1]at hl
  refine sum_intListG hh hl λh' tk t' kp=>R.aF e (PG.of_keep x kp H (.d ?_))
  rw [preSum_eq,rj (by simp)];refine ae h2 ?_
  exact .int _ _
theorem JM {val:Value} {y:D} (x:Ok k μ σ ρ s.heap) (rd:RD s.heap (k.own++μ) val d) (e:wq .nU d= .ok y):oX k μ σ ρ s (PySem.call (.builtin "isinstance") [val, .type "tuple"]) (.d y,σ):=λE=>by
 refine R.aF (e:) ?_
 induction rd using RD.casesOn with
 |none=>exact IsiPair.NoneType_tuple (PG.qp x H (.d (.bool _)))
 |bool b=>exact IsiPair.bool_tuple (PG.qp x H (.d (.bool _)))
 |int i t=>exact IsiPair.int_tuple (PG.qp x H (.d (.bool _)))
 |str i t=>exact IsiPair.str_tuple (PG.qp x H (.d (.bool _)))
 |J e1 _ _=>exact IsiPair.tuple_tuple e1 H (PG.fk x H (.d (.bool _)))
 |aD e1 _ _=>exact IsiPair.list_tuple e1 H (PG.qp x H (.d (.bool _)))
theorem JN {val:Value} {y:D} (x:Ok k μ σ ρ s.heap) (rd:RD s.heap (k.own++μ) val d) (e:wq .qi d= .ok y):oX k μ σ ρ s (PySem.call (.builtin "isinstance") [val, .type "str"]) (.d y,σ):=λE=>by
 refine R.aF (e:) ?_
 induction rd using RD.casesOn with
 |none=>exact IsiPair.NoneType_str (PG.qp x H (.d (.bool _)))
 |bool b=>exact IsiPair.bool_str (PG.qp x H (.d (.bool _)))
 |int i t=>exact IsiPair.int_str (PG.qp x H (.d (.bool _)))
 |str i t=>exact IsiPair.str_str (PG.fk x H (.d (.bool _)))
 |J e1 _ _=>exact IsiPair.tuple_str e1 H (PG.qp x H (.d (.bool _)))
 |aD e1 _ _=>exact IsiPair.list_str e1 H (PG.qp x H (.d (.bool _)))
theorem JO:∀p∈Mi,Txt.lower p.1=p.2∧p.1.length≤100:=by decide+kernel
theorem JP {val:Value} {y:D} (x:Ok k μ σ ρ s.heap) (rd:RD s.heap (k.own++μ) val d) (e:wq .lower d= .ok y):g9 λz t=>val= .str z t∧oX k μ σ ρ s (PySem.call (.builtin "str.lower") [.str z t]) (.d y,σ):=
 R.ah (e:) λz hz e=>R.ah e λp hp e=>rd.ly hz λt=>⟨z,t,rfl,λE=>by
  have hp:=vj hp
  have hq:=List.find?_some hp
  simp only [lk]at hq
  obtain ⟨h1,h2⟩:=JO p (List.mem_of_find?_eq_some hp)
  rw [hq]at h1 h2
  have wJ:Builtin.Str.tooLong (Txt.lower z).length=false:=by
   have h3:=len_lower z
   unfold Builtin.Str.tooLong
   rw [decide_eq_false_iff_not];refine ae sizeLine_eq ?_;lia
  refine SC.lower wJ ?_
  refine ae h1 ?_
  exact R.aF e (PG.qp x H (.d (.str _ _)))⟩
theorem Rd (l:↑D):NX (AL l):=by
 induction l with
 |nil=>exact bm
 |cons y l ih=>exact .bind (ig _) λO=>ih.bind λO=>bm
theorem VJ (b:B1) (d:D):NX (wq b d):=by
 induction b with
 |len=>exact .bind (by induction d using D.casesOn<;>first|exact bj|exact bm) λO=> .ite bm bj
 |str=>exact .bind (ig _) λO=> .ite bm bj
 |EM=>exact .bind (ig _) λO=> .ite bm bj
 |EN=>exact .bind (jW _) λO=> .bind (uj _) λO=>bm
 |sum=>exact .bind (wH _) λO=> .bind (Rd _) λO=>bm
 |lower=>exact .bind (jW _) λO=> .bind (wI _) λO=>bm
 |nU=>exact bm
 |qi=>exact bm
 |_=>exact bj
theorem Mz (σ:St) (b:B1) (v:V):NX (mF σ b v):=by
 induction b with
 |dict=>exact .bind (by induction v using V.casesOn<;>first|exact bj|exact bm) λO=> .ite bm bj
 |tuple=>exact .bind (vi _ _) λO=> .ite bm bj
 |_=>exact .bind (dY _) λO=> .bind (VJ _ _) λO=>bm
end
variable {u:V}
section
variable {s:Shared}
theorem hW.length {l:↑(Str×At)} (r:hW h X μ bP l):bP.length=l.length:=by
 induction r with
 |nil=>rfl
 |cons _ _ ih=>exact aC (·+1) ih
theorem PG.N3 {l:↑(Str×At)} (x:Ok k μ σ ρ s.heap) (hS:∃o,k.B.get? sysModules=some o) (kp:dJ s.heap h') (hr:r= .ok (.ref σ.length,σ++[.dict l]))
  (hd:h'.DictOf (PySem.strKind k.prog k.w) s.heap.objs.size bP) (rd:hW s.heap (k.own++μ) μ bP l):
  PG k μ ρ (qN k) s r (.ref s.heap.objs.size) {s with heap:=h'}:=by
 have gd:(s.heap.objs.size==sysModules)=false:=by
  obtain ⟨o,ho⟩:=hS
  have:=kT (x.base _ o ho)
  rw [jS]
  exact λq=>Nat.lt_irrefl _ (q▸this)
 refine ⟨_,_,[s.heap.objs.size],_,s.toks,hr,rfl,x.alloc kp (.size _) (.dict hd gd (rd.into (.fresh kp) (Mu.append _ _))), .of_keep kp,λa ha=>by refine ae (bK.mp ha) ?_;exact .size _, .ref ?_⟩
 refine dg x.cells.length ?_
 simp
theorem N4 {val:Value} {q:V×St} (hS:∃o,k.B.get? sysModules=some o) (x:Ok k μ σ ρ s.heap) (rv:RV k.prog k.w s.heap (k.own++μ) μ val v) (e:mF σ .dict v= .ok q):oX k μ σ ρ s (PySem.call (.type "dict") [val]) q:=λE=>by
 refine R.ah (e:) λl0 hl e0=>R.bn e0 λhn e0=>?_
 induction rv with
 |@eO a bP l hd hX hs r=>
  cases (hl:R.ok l=R.ok l0)
  have hsz:bP.length≤sizeLine:=by
   refine ae r.length (ae sizeLine_eq ?_);exact av hn
  refine kt_call_dict hs hd hsz λh' qm A0=>?_
  have kp:dJ s.heap h':=λb o eb=>by
   have hb:b≠s.heap.objs.size:=λq=>by rw [q]at eb;exact (cN.size s.heap).not eb
   refine ae (A0.2 b hb) ?_
   exact lv _ eb
  exact PG.N3 x hS kp e0.symm qm r
 |_=>exact R.no (hl:)
theorem tv {ER:Str} (r:cJ h X vs l):∀{ss:↑Str},EQ ER l= .ok ss→StrsAre vs ss:=by
 induction vs generalizing l with
 |nil=>intro ss e;cases r;exact R.aF (e:) .nil
 |cons v vs ih=>
  intro ss e
  cases r with
  |cons a r=>exact R.ah (e:) λy hy e=>R.ah e λss' hs e=>a.ly hy λt=>R.aF e (.cons _ _ (ih r hs))
theorem N5 (ER:Str) (l:↑D):NX (EQ ER l):=by
 induction l with
 |nil=>exact bm
 |cons y l ih=>exact .bind (jW _) λO=>ih.bind λO=>bm
theorem Rf (ER:Str) (l:↑Str):Txt.join ER l=Str.join ER l:=dz (join_plain_closes ER l)
theorem N6 (σ:St) (v:V):NX (QH σ v):=by
 induction v with
 |d y=>induction y using D.casesOn<;>first|exact bj|exact bm
 |ref n=>exact nB _
 |_=>exact bj
theorem VK (σ:St) (b:B2) (a:Str) (v:V):NX (Jq σ b a v):=by
 induction b with
 |join=>exact .bind (N6 _ _) λO=> .bind (N5 _ _) λO=> .ite bm bj
 |rindex=>exact .bind (dY _) λO=> .bind (jW _) λO=> .bind (uj _) λO=> .bind (wI _) λO=>bm
theorem N7 {x:Str} {t:Tok} {val:Value} (ok:Ok k μ σ ρ s.heap) (ru:RV k.prog k.w s.heap (k.own++μ) μ val u) (e:Jq σ .join x u= .ok v):
  oX k μ σ ρ s (PySem.call (.builtin "str.join") [.str x t,val]) (v,σ):=λE=>by
 refine R.ah (e:) λl hl e=>R.ah e λss hj e=>R.bn e λhz e=>R.aF e ?_
 have cC:∀t':Tok,∀kk,PG k μ ρ (qN k) s (R.ok (V.d (.str (Str.join x ss)),σ)) (.str (Txt.join x ss) t') {s with toks:=kk}:=λt' kk=>PG.qp ok H (.d (by rw [Rf];exact .str _ _))
 clear e
 induction ru with
 |d rd=>induction rd using RD.casesOn with
  |J e1 x1 r1=>cases hl;exact join_tuple (tq e1) (tv r1 hj) hz cC
  |aD e1 x1 r1=>cases hl;exact join_list (bM e1) (tv r1 hj) hz cC
  |_=>exact R.no (hl:)
 |ref hn=>
  obtain ⟨vs,n,e1,r1⟩:=ok.cells.aD hn hl
  exact join_list (bM e1) (tv r1 hj) hz cC
 |_=>exact R.no (hl:)
theorem CI (c:Nat) (l:↑Nat):∀(i:Nat),gj c l=some i→l[i]?=some c∧∀j,i<j→l[j]?≠some c:=by
 induction l with
 |nil=>
  intro i e
  cases e
 |cons x r dS=>
  intro i e
  replace e:(match gj c r with|some i=>some (i+1)|none=>if x=c then some 0 else none)=some i:=e
  generalize h:gj c r=o0;induction o0 using di with
  |some k=>
   rw [h]at e;have e:=bb e;subst e
   obtain ⟨h1,h2⟩:=dS k h
   refine ⟨by simpa using h1,λj hj=>?_⟩
   induction j with
   |zero=>lia
   |succ j=>simpa using h2 j (av hj)
  |none=>
   rw [h]at e
   simp only at e
   split at e
   ·rename_i hx
    have e:=bb e;subst e
    refine ⟨by simpa using hx,λj hj=>?_⟩
    induction j with
    |zero=>lia
    |succ j=>
     have N8:∀(l:↑Nat),gj c l=none→∀j:Nat,l[j]?≠some c:=by
      intro l
      induction l with
      |nil=>intro _ j q;simp at q
      |cons y l ih=>
       intro q j
       replace q:(match gj c l with|some i=>some (i+1)|none=>if y=c then some 0 else none)=none:=q
       generalize hl:gj c l=o0;induction o0 using di with
       |some k=>rw [hl]at q;exact nomatch q
       |none=>
        rw [hl]at q
        simp only at q
        split at q
        ·exact nomatch q
        ·rename_i hy
         induction j with
         |zero=>simpa using hy
         |succ j=>simpa using ih hl j
     simpa using N8 r h j
   ·exact nomatch e
theorem Rg {x:Str} {c:Nat} (hi:gj c x.cps.toList=some i):Builtin.Str.lastOccurrence x ⟨#[c]⟩ 0 x.length=some i:=by
 obtain ⟨h1,h2⟩:=CI c _ i hi
 have E6:∀j,StrLaws.At x ⟨#[c]⟩ x.length j↔x.cps.toList[j]?=some c:=λj=>StrLaws.subAt_one x c j
 rcases StrLaws.last_spec x ⟨#[c]⟩with⟨_,h⟩|⟨j,hj,hA,aaS⟩
 ·exact al ((E6 i).mpr h1) (h i)
 ·refine ae hj ?_
  have Y7:=(E6 j).mp hA
  rcases Nat.lt_trichotomy i j with ke|heq|Y8
  ·exact al Y7 (h2 j ke)
  ·exact ae heq H
  ·exact al ((E6 i).mpr h1) (aaS i Y8)
theorem Hi {x:Str} {t:Tok} {val:Value} (ok:Ok k μ σ ρ s.heap) (ru:RV k.prog k.w s.heap (k.own++μ) μ val u) (e:Jq σ .rindex x u= .ok v):
  oX k μ σ ρ s (PySem.call (.builtin "str.rindex") [.str x t,val]) (v,σ):=λE=>
 R.ah (e:) λd hd e=>R.ah e λy hy e=>R.ah e λc hc e=>R.ah e λi hi e3=>(ru.mw hd).ly hy λtt=>by
  have hq:PG k μ ρ (qN k) s (R.ok (v,σ)) (.int i s.toks) {s with toks:=s.toks+1}:=R.aF e3 (PG.qp ok H (.d (.int _ _)))
  cases mH hc
  exact call_gives PySem.F.slot_str_rindex (typeIs_str _ _ _) PySem.F.entry_str_rindex (PySem.F.args_str_rindex_2 _ _) (gives_str_rindex x ⟨#[c]⟩ t tt i (Rg (vj hi))) hq
end
set_option backward.match.sparseCases true
structure cw where
 E7:Addr
 name:Str
 params:Arguments
 body:↑Stmt
 scope:Scope
 pm:Value
 cd:Value
 doc:Value
abbrev jD:↑(Str×Value):=([("len", .builtin "len"),("str", .type "str"),("chr", .builtin "chr"),("ord", .builtin "ord"),("dict", .type "dict"),("tuple", .type "tuple"),("sum", .builtin "sum"),
 ("isinstance", .builtin "isinstance"),("range", .type "range"),("reversed", .type "reversed"),("enumerate", .type "enumerate"),("Exception", .type "Exception")]:↑(String×Value)).map λp=>(Str.ofString p.1,p.2)
structure wK (p:Arguments):Prop where
 pos:p.posonlyargs=[]
 va:p.vararg=none
 kwo:p.kwonlyargs=[]
 kwa:p.kwarg=none
structure Al (fd:FuncData):Prop where
 ps:wK fd.params
 args:fd.params.args.map (·.arg)=(["self","why"]:↑Str)
 jk:fd.defaults= .none
 clo:fd.closure=[]
 glob:fd.globals=mainGlobals
 blt:fd.builtins=builtinsNs
 qual:fd.qualname="PhpFault.__init__"
 kind:fd.scope.kind= .function
 Y9:fd.scope.isGenerator=false
 co:fd.scope.isCoroutine=false
 names:fd.scope.names=([("self", .local),("why", .local),("Exception", .globalImplicit)]:↑(Str×NameKind))
 body:XD λp1 ap p2 p3 p4 p5 q1 ap2 q2 q3=>(ap.endLine==p4.line)=true∧
  fd.body= .stmts [.Expr (.Call (.Attribute (.Name "Exception" p1) "__init__" ap) [.Name "self" p2, .Name "why" p3] [] p4) p5, .Assign [.Attribute (.Name "self" q1) "why" ap2] (.Name "why" q2) q3]
abbrev N9 (B:Heap):Prop:=g9 λP fd=>qh ((gF P fd).In B) (Al fd) (B.CodeRec fd.code fd.qualname)
structure Top (ag:F→cw) (B:Heap):Prop where
 glob:∃mg,CD (B.Ns mainGlobals mg) (∀x f,yc.lookup x=some f→mg x=some (.ref (ag f).E7)) (∀p∈jD,mg p.1=none) (mg "CompileFault"=some (.ref EZ))
 blt:∃mb,B.Ns builtinsNs mb∧∀p∈jD,mb p.1=some p.2
 obj:∀f,(∃o,B.get? (ag f).E7=some o∧o.data= .func (Calls.docDef (ag f).name (ag f).params (ag f).body (ag f).scope (ag f).pm (ag f).cd (ag f).doc))∧B.CodeRec (ag f).cd (ag f).name
 Rh:B.NoLimit
 Ri:N9 B
 Y':∃o,B.get? sysModules=some o
structure eJ (ag:F→cw) (k:Kx) (n:Nat):Prop where
 good:k.G5
 top:Top ag k.B
 depth:k.A.depth+n<990
 units:k.A.units+3*n+50<cLine
 globals:k.env.globals=mainGlobals
 builtins:k.env.builtins=builtinsNs
 plain:∀x∈k.slots,(x==("__classdict__":Str))=false∧(x==("__debug__":Str))=false
structure gX (c:Cx) (k:Kx):Prop where
 slots:k.slots=c.slots
 glob:∀x,c.glob x=true→k.env.kindOf x=some .globalImplicit
 cell:∀x,c.names.lookup x=some .cell→k.env.kindOf x=some .cell
 E8:∀x,c.names.lookup x=some .local→k.env.kindOf x=some .local
section
variable (ag:F→cw) (K:fF) (n:Nat) (c:Cx)
abbrev bC (e:Expr) (x:E):Prop:=∀(k:Kx) (μ:↑Addr) (σ:St) (ρ:↑V) (s:Shared),eJ ag k n→gX c k→Ok k μ σ ρ s.heap→ev K x ρ σ≠ .aQ→
 wpAny k.M k.A (eval e k.env) (PG k μ ρ (qN k) s (ev K x ρ σ)) (PX k μ s (ev K x ρ σ)) s
abbrev kH (r:R (V×St)):R (Bool×St):=r.bind λp=>(js p.1).bind λb=> .ok (b,p.2)
theorem um {g:Bool×St→R β}:(kH r).bind g=r.bind λp=>(js p.1).bind λt=>g (t,p.2):=R.iF λO=>R.iF λO=>rfl
noncomputable abbrev tB:Heap→↑Addr→Bool→Bool→Prop:=λO O a b=>a=b
abbrev kY (e:Expr) (x:E):Prop:=∀(k:Kx) (μ:↑Addr) (σ:St) (ρ:↑V) (s:Shared),eJ ag k n→gX c k→Ok k μ σ ρ s.heap→kH (ev K x ρ σ)≠ .aQ→
 wpAny k.M k.A (isTrue e k.env (eval e k.env)) (PG k μ ρ tB s (kH (ev K x ρ σ))) (PX k μ s (kH (ev K x ρ σ))) s
noncomputable abbrev aaT (k:Kx):Heap→↑Addr→↑Value→↑V→Prop:=λh μ val v=>uF k.prog k.w h (k.own++μ) μ val v
abbrev wL (es:↑Expr) (xs:Es):Prop:=∀(k:Kx) (μ:↑Addr) (σ:St) (ρ:↑V) (s:Shared) (pos:Pos),eJ ag k n→gX c k→Ok k μ σ ρ s.heap→i3 K xs ρ σ≠ .aQ→
 wpAny k.M k.A (spliced (backTo pos (starEach es k.env))) (PG k μ ρ (aaT k) s (i3 K xs ρ σ)) (PX k μ s (i3 K xs ρ σ)) s
end
variable {c:Cx} {K:fF} {p p':Pos} {k0:Const} {kk:Nat} {y:E}
section
variable {ag:F→cw}
theorem Cx.iS {x:Str} (h:c.slot x=some i):c.slots[i]?=some x:=by
 have key:(if c.slots.contains x then some (c.slots.idxOf x)else none)=some i→c.slots[i]?=some x:=λh=>by
  split at h
  ·rename_i hc
   have h:=bb h;subst h
   have hm:x∈c.slots:=by simpa using hc
   refine ae (fE (List.idxOf_lt_length_iff.mpr hm)) ?_
   simp
  ·exact nomatch h
 unfold Cx.slot at h
 generalize c.names.lookup x=o at h
 induction o using di with
 |none=>exact u8 h
 |some o=>induction o using NameKind.casesOn<;>first|exact key h|exact u8 h
theorem Hj {s:Shared} {x:Str} (cn:eJ ag k n) (ok:Ok k μ σ ρ s.heap) (hs:k.slots[i]?=some x) (hr:ρ[i]?=some v) (hv:v≠ .un)
  {E: ~~~0} (h:∀val,RV k.prog k.w s.heap (k.own++μ) μ val v→Q val s):wpAny k.M k.A (loadName k.env x) Q E s:=by
 have g:=cn.good
 obtain ⟨m,hm,kg⟩:=ok.env.ns
 obtain ⟨val,hb,Rj⟩:=kg i x v hs hr hv
 rcases hb with⟨h1,h2⟩|⟨h1,cc,h2,h3⟩
 ·exact wpAny_loadName_local g.fn h1 hm h2 (h val Rj)
 ·rcases h1 with h1|h1
  ·exact wpAny_loadName_cell g.fn h1 h2 h3 (h val Rj)
  ·have hn:(x==("__classdict__":Str))=false:=(cn.plain x (fJ hs)).1
   exact wpAny_loadName_free g.fn h1 h2 h3 (h val Rj) hn
theorem eJ.E9 (cn:eJ ag k n):k.A.units+4<cLine:=by have:=cn.units;exact av this
theorem DJ {s:Shared} {x:Str} (cn:eJ ag k n) (cx:gX c k) (ok:Ok k μ σ ρ s.heap) (hi:c.slot x=some i) (e:ev K (.var i) ρ σ≠ .aQ):wpAny k.M k.A (loadName k.env x) (PG k μ ρ (qN k) s (ev K (.var i) ρ σ)) (PX k μ s (ev K (.var i) ρ σ)) s:=
 NL (P:=λr=>wpAny k.M k.A (loadName k.env x) (PG k μ ρ (qN k) s (r.bind λv=> .ok (v,σ))) (PX k μ s (r.bind λv=> .ok (v,σ))) s) (R.ax (r:=qL ρ[i]?) (f:=λv=> .ok (v,σ)) e) λO hr hv=>
  Hj cn ok (by refine ae cx.slots ?_;exact Cx.iS hi) hr hv λO rv=>PG.fk ok H rv
theorem yg {x:Str} (hi:c.slot x=some i):bC ag K n c (.Name x p) (.var i):=
 λk O O O O cn cx ok e=>wpAny_Name (DJ cn cx ok hi e) (cn.plain x (fJ (by refine ae cx.slots ?_;exact Cx.iS hi))).2
theorem vq (h:Ah k0=some d):bC ag K n c (.Constant k0 kk p) (.az d):=by
 intro k μ σ ρ s cn cx ok e
 induction k0 using Const.casesOn with
 |none=>obtain rfl:=bb h;exact wpAny_Constant_none (PG.fk ok rfl (.d .none))
 |bool b=>obtain rfl:=bb h;exact wpAny_Constant_bool (PG.fk ok rfl (.d (.bool _)))
 |int i=>obtain rfl:=bb h;exact wpAny_Constant_int (PG.qp ok rfl (.d (.int _ _)))
 |str i=>obtain rfl:=bb h;exact wpAny_Constant_str (PG.qp ok rfl (.d (.str _ _)))
 |_=>exact u8 h
theorem Hk {i:Int}:bC ag K n c (.UnaryOp .USub (.Constant (.int i) kk p) p') (.az (.int (-i))):=by
 intro k μ σ ρ s cn cx ok e
 refine wpAny_UnaryOp (wpAny_Constant_int ?_)
 exact P.neg_int (PG.of_keep (h':=s.heap) ok (.refl _) H (.d (.int _ _)))
theorem Rk {a b:Expr} {x:E} {o:Op} {m:Bool} (ho:YT m po=some o) (ha:bC ag K n c a x) (hb:bC ag K n c b y):bC ag K n c (.BinOp a po b p) (.aE o x y):=by
 intro k μ σ ρ s cn cx ok e
 rw [NR]at ho
 rw [arm_eval_BinOp]
 refine aj (PG.then e (ha k μ σ ρ s cn cx ok (R.ax e)) λval v σ1 ν h1 tk O bt dF dG r1 e1=>?_)
 refine aj (dA (PG.then e1 (hb k _ σ1 ρ _ cn cx bt (R.ax e1)) λsD v2 d8 ma h2 tk2 O fO gm fZ r2 e2=>?_))
 exact aj (fL (wpAny_operating (NU ho fO (r1.jt bt gm fZ) r2 e2)))
end
section
variable {ag:F→cw}
abbrev E' (o:Cm) (g:Bool→St→R γ) (v:V) (q:V×St):R γ:=(ek q.2 o v q.1).bind λc=>g c q.2
abbrev JQ (K:fF) (o:Cm) (y:E) (ρ:↑V) (g:Bool→St→R γ) (p:V×St):R γ:=(ev K y ρ p.2).bind (E' o g p.1)
abbrev MA (K:fF) (o:Cm) (x y:E) (ρ:↑V) (σ:St) (g:Bool→St→R γ):R γ:=(ev K x ρ σ).bind (JQ K o y ρ g)
theorem Hl {a b:Expr} {x:E} {po:CmpOp} {o:Cm} {s:Shared} {T:Heap→↑Addr→β→γ→Prop} {g:Bool→St→R (γ×St)} {last:Value→Sem β}
  (cn:eJ ag k n) (cx:gX c k) (ok:Ok k μ σ ρ s.heap) (ho:G0 po=some o) (hN:(o= .kW∨o= .dw)→y= .az .none) (hm:behindInMarks po b=false) (ha:bC ag K n c a x) (hb:bC ag K n c b y) (e:MA K o x y ρ σ g≠ .aQ)
  (hl:∀(t:Bool) (e6:↑Addr) σ' s',Ok k e6 σ' ρ s'.heap→g t σ'≠ .aQ→wpAny k.M k.A (last (.bool t)) (PG k e6 ρ T s' (g t σ')) (PX k e6 s' (g t σ')) s'):
  wpAny k.M k.A (do let a←eval a k.env;let b←holding [a] (markedBehindIn po b (eval b k.env));standAt p;let c←operate [a,b] (compareOp po a b);last c) (PG k μ ρ T s (MA K o x y ρ σ g)) (PX k μ s (MA K o x y ρ σ g)) s:=by
 refine ae (markedBehindIn_of_false hm) ?_
 refine aj ((kN.refl μ s _).step (f:=JQ K o y ρ g) e (ha k μ σ ρ s cn cx ok (R.ax (f:=JQ K o y ρ g) e)) λval v σ1 ν h1 tk O bt dF dG r1 e1 L1=>?_)
 refine aj (dA (L1.step (f:=E' o g v) e1 (hb k _ σ1 ρ _ cn cx bt (R.ax (f:=E' o g v) e1)) λsD v2 d8 ma h2 tk2 ev2 fO gm fZ r2 e2 L2=>?_))
 refine (Q7 d8 o v v2).get (R.ax e2) λt Rl=>?_
 have hr:E' o g v (v2,d8)=g t d8:=R.cf Rl
 refine aj (fL (aj (wpAny_operating ?_)))
 have hn:(o= .kW∨o= .dw)→v2= .d .none:=λh=>by
  rw [hN h]at ev2
  exact R.aF (P:=λp=>p.1=V.d .none) (a:=(V.d .none,σ1)) (b:=(v2,d8)) ev2 H
 refine Ha ho fO (r1.jt bt gm fZ) r2 hn Rl cn.E9 _ _ λRm h3 A1 kp hv=>?_
 cases (show Rm= .bool t from hv)
 exact ((L2.NQ hr).keep kp).wp (hl t _ d8 {s with heap:=h3,toks:=A1} (fO.keep kp) (hr▸e2))
theorem N' {a b:Expr} {x:E} {po:CmpOp} {o:Cm} (ho:G0 po=some o) (hN:(o= .kW∨o= .dw)→y= .az .none) (hm:behindInMarks po b=false) (ha:bC ag K n c a x) (hb:bC ag K n c b y):
  bC ag K n c (.Compare a [po] [b] p) (.au o x y):=by
 intro k μ σ ρ s cn cx ok e
 rw [eval_Compare1]
 have:=Hl (T:=qN k) (g:=λt σ=> .ok (.d (.bool t),σ)) (last:=λv=>pure v) (p:=p) cn cx ok ho hN hm ha hb e λt e6 σ' s' pB O=>aB (PG.fk pB H (.d (.bool _)))
 simp only [bind_pure]at this
 exact this
theorem Oa {a b:Expr} {x:E} {po:CmpOp} {o:Cm} (ho:G0 po=some o) (hN:(o= .kW∨o= .dw)→y= .az .none) (hm:behindInMarks po b=false) (ha:bC ag K n c a x) (hb:bC ag K n c b y):
  kY ag K n c (.Compare a [po] [b] p) (.au o x y):=by
 intro k μ σ ρ s cn cx ok e
 have he:kH (ev K (.au o x y) ρ σ)=MA K o x y ρ σ λt σ=> .ok (t,σ):=R.iF λp=>R.iF λq=>R.iF λc=>rfl
 rw [he]at e⊢
 rw [isTrue_Compare1]
 exact Hl (T:=tB) (g:=λt σ=> .ok (t,σ)) (last:=λc=>holding [c] (truthy c)) cn cx ok ho hN hm ha hb e λt e6 σ' s' pB O=>dA (wpAny_truthy_bool (PG.fk pB H rfl))
end
variable {es:↑Expr} {xs:Es}
section
variable {ag:F→cw}
theorem yh (v:V):NX (js v):= .bind (dY v) λd=>by induction d using D.casesOn<;>first|exact bj|exact bm
theorem MB {s:Shared} {a b:V} (ok:Ok k μ σ ρ s.heap) (ra:RV k.prog k.w s.heap (k.own++μ) μ va a) (rb:RV k.prog k.w s.heap (k.own++μ) μ vb b) {t:Bool} (e:NK a b= .ok t) (hu:k.A.units+4<cLine):
  m4 k s (compareOp .LtE va vb) (Jy t):=
 Ha (o:= .le) H ok ra rb (λh=>h.elim nofun nofun) (e:) hu
abbrev Fa (g:Bool→St→R γ) (v:V) (r:V×St):R γ:=(NK v r.1).bind λu=>g u r.2
abbrev Fb (K:fF) (z:E) (ρ:↑V) (g:Bool→St→R γ) (v:V) (q:V×St):R γ:=(NK v q.1).bind λt=>if t then(ev K z ρ q.2).bind (Fa g q.1)else g false q.2
abbrev JR (K:fF) (y z:E) (ρ:↑V) (g:Bool→St→R γ) (p:V×St):R γ:=(ev K y ρ p.2).bind (Fb K z ρ g p.1)
abbrev MC (K:fF) (x y z:E) (ρ:↑V) (σ:St) (g:Bool→St→R γ):R γ:=(ev K x ρ σ).bind (JR K y z ρ g)
theorem Hm {a b d:Expr} {x z:E} {s:Shared} {T:Heap→↑Addr→β→γ→Prop} {g:Bool→St→R (γ×St)} {last end_:Value→Sem β}
  (cn:eJ ag k n) (cx:gX c k) (ok:Ok k μ σ ρ s.heap) (hm:behindInMarks .LtE d=false) (ha:bC ag K n c a x) (hb:bC ag K n c b y) (hd:bC ag K n c d z) (e:MC K x y z ρ σ g≠ .aQ)
  (hl:∀(t:Bool) (e6:↑Addr) σ' s',Ok k e6 σ' ρ s'.heap→wpAny k.M k.A (last (.bool t)) (PG k e6 ρ T s' (g t σ')) (PX k e6 s' (g t σ')) s')
  (hf:∀(e6:↑Addr) σ' s',Ok k e6 σ' ρ s'.heap→wpAny k.M k.A (end_ (.bool false)) (PG k e6 ρ T s' (g false σ')) (PX k e6 s' (g false σ')) s'):
  wpAny k.M k.A (do
   let a←eval a k.env
   let rv←holding [a] (eval b k.env)
   standAt p
   let c←holding [a,rv] (compareOp .LtE a rv)
   release [a,rv] [c]
   if←holding [c,rv] (truthy c)then(do
    let b←holding [rv] (markedBehindIn .LtE d (eval d k.env));standAt p;let c←operate [rv,b] (compareOp .LtE rv b);last c)else end_ c) (PG k μ ρ T s (MC K x y z ρ σ g)) (PX k μ s (MC K x y z ρ σ g)) s:=by
 refine ae (markedBehindIn_of_false hm) ?_
 refine aj ((kN.refl μ s _).step (f:=JR K y z ρ g) e (ha k μ σ ρ s cn cx ok (R.ax (f:=JR K y z ρ g) e)) λval v σ1 ν h1 tk O bt dF dG r1 e1 L1=>?_)
 refine aj (dA (L1.step (f:=Fb K z ρ g v) e1 (hb k _ σ1 ρ _ cn cx bt (R.ax (f:=Fb K z ρ g v) e1)) λsD v2 d8 ma h2 tk2 O fO gm fZ r2 e2 L2=>?_))
 refine (My v v2).get (R.ax e2) λt Rl=>?_
 have hr:Fb K z ρ g v (v2,d8)=if t then(ev K z ρ d8).bind (Fa g v2)else g false d8:=R.cf Rl
 refine aj (fL (aj (dA (MB fO (r1.jt bt gm fZ) r2 Rl cn.E9 _ _ λRm h3 A1 kp hv=>?_))))
 cases (hv:Rm= .bool t)
 refine aj (wpAny_release (aj (dA (wpAny_truthy_bool ?_))))
 have pC:=fO.keep kp
 induction t with
 |false=>exact ((L2.NQ hr).keep kp).wp (hf _ _ _ pC)
 |true=>
  refine aj (dA (((L2.NQ hr).keep kp).step (r:=ev K z ρ d8) (f:=Fa g v2) (λq=>e2 (hr.trans q)) (hd k _ d8 ρ _ cn cx pC (R.ax (f:=Fa g v2) λq=>e2 (hr.trans q))) λabU v4 vr uG h4 wM O uH nD qP r4 e4 L4=>?_))
  refine (My v2 v4).get (R.ax e4) λu hcw=>?_
  refine aj (fL (aj (wpAny_operating (MB uH ((r2.keep kp).jt pC nD qP) r4 hcw cn.E9 _ _ λaaU h5 tk5 kp5 hv5=>?_))))
  cases (hv5:aaU= .bool u)
  exact ((L4.NQ (R.cf hcw)).keep kp5).wp (hl u _ _ _ (uH.keep kp5))
theorem Ob {a b d:Expr} {x z:E} (hm:behindInMarks .LtE d=false) (ha:bC ag K n c a x) (hb:bC ag K n c b y) (hd:bC ag K n c d z):
  kY ag K n c (.Compare a [.LtE, .LtE] [b,d] p) (.xY x y z):=by
 intro k μ σ ρ s cn cx ok e
 have he:kH (ev K (.xY x y z) ρ σ)=MC K x y z ρ σ λt σ=> .ok (t,σ):=
  R.iF λp=>R.iF λq=>R.iF λt=>by induction t using ar with
   |false=>rfl
   |true=>exact R.iF λr=>R.iF λu=>rfl
 rw [he]at e⊢
 exact Hm (T:=tB) (g:=λt σ=> .ok (t,σ)) (last:=λc=>holding [c] (truthy c)) (end_:=λO=>pure false) (p:=p) cn cx ok hm ha hb hd e (λt e6 σ' s' pB=>dA (wpAny_truthy_bool (PG.fk pB H rfl))) λe6 σ' s' pB=>aB (PG.fk pB H rfl)
theorem Oc {a b d:Expr} {x z:E} (hm:behindInMarks .LtE d=false) (ha:bC ag K n c a x) (hb:bC ag K n c b y) (hd:bC ag K n c d z):
  bC ag K n c (.Compare a [.LtE, .LtE] [b,d] p) (.xY x y z):=by
 intro k μ σ ρ s cn cx ok e
 have:=Hm (T:=qN k) (g:=λt σ=> .ok (.d (.bool t),σ)) (last:=λv=>pure v) (end_:=λv=>pure v) (p:=p) cn cx ok hm ha hb hd e (λt e6 σ' s' pB=>aB (PG.fk pB H (.d (.bool _)))) λe6 σ' s' pB=>aB (PG.fk pB H (.d (.bool _)))
 show wpAny _ _ (do
  let a←eval a k.env
  let rv←holding [a] (eval b k.env)
  standAt p
  let c←holding [a,rv] (compareOp .LtE a rv)
  release [a,rv] [c]
  if←holding [c,rv] (truthy c)then(do
   let b←holding [rv] (markedBehindIn .LtE d (eval d k.env));standAt p;operate [rv,b] (compareOp .LtE rv b))else pure c) _ _ _
 simp only [bind_pure]at this
 exact this
theorem yi:wL ag K n c [] .nil:=by
 intro k μ σ ρ s pos cn cx ok e
 exact wpAny_items_nil (PG.fk ok H .nil)
theorem vw {e:Expr} {x:E} (hs:∀rest env,starEach (e::rest) env=(false,eval e env)::starEach rest env) (ha:bC ag K n c e x) (hb:wL ag K n c es xs):wL ag K n c (e::es) (.cons x xs):=by
 intro k μ σ ρ s pos cn cx ok e
 rw [hs]
 show wpAny _ _ (do
  let v←eval _ k.env
  let fk←(pure [v]:Sem ↑Value)
  return fk++(←holding fk (spliced (backTo pos (starEach es k.env))))) _ _ _
 refine aj (PG.then e (ha k μ σ ρ s cn cx ok (R.ax e)) λval v σ1 ν h1 tk O bt dF dG r1 e1=>?_)
 refine aj (aB (aj (dA (PG.then e1 (hb k _ σ1 ρ _ pos cn cx bt (R.ax e1)) λvals vs d8 ma h2 tk2 O fO gm fZ r2 e2=>?_))))
 exact aB (PG.fk fO H (.cons (r1.jt bt gm fZ) r2))
theorem A2 (l:↑V):NX (wm l):=by
 induction l with
 |nil=>exact bm
 |cons v r ih=>induction v using V.casesOn with
  |d x=>exact ih.bind λO=>bm
  |_=>exact nofun
theorem XN (l:↑V) (m:Str):wm l≠ .dW m:=A2 l m
abbrev Es.len:Es→Nat
 | .nil=>0
 | .cons _ r=>r.len+1
theorem tw:∀{xs:Es} {σ σ':St} {vs:↑V},i3 K xs ρ σ= .ok (vs,σ')→vs.length=xs.len
 | .nil,σ,σ',vs,e=>by obtain ⟨rfl,rfl⟩:=j0 (R.ok.inj e);rfl
 | .cons x xs,σ,σ',vs,e=>by
  replace e:(ev K x ρ σ).bind (λp=>(i3 K xs ρ p.2).bind λq=> .ok (p.1::q.1,q.2))= .ok (vs,σ'):=e
  generalize h1:ev K x ρ σ=o0;induction o0 using R.casesOn with
  |ok p=>
   rw [h1]at e;dsimp only [R.dv]at e
   generalize h2:i3 K xs ρ p.2=o0;induction o0 using R.casesOn with
   |ok q=>
    rw [h2]at e;simp only [R.dv,R.ok.injEq,Prod.mk.injEq]at e
    refine dg e.1 (ae gO (ae (tw h2) ?_));rfl
   |dW m=>rw [h2]at e;cases e
   |aQ=>rw [h2]at e;exact R.no e
  |dW m=>rw [h1]at e;cases e
  |aQ=>rw [h1]at e;exact R.no e
theorem Od (hz:xs.len≤1000) (ha:wL ag K n c es xs):bC ag K n c (.Tuple es kk p) (.J xs):=by
 intro k μ σ ρ s cn cx ok e
 rw [arm_eval_Tuple]
 refine aj (fL (aj (PG.then e (ha k μ σ ρ s p cn cx ok (R.ax e)) λvals vs σ1 ν h1 tk hv bt dF dG r1 e1=>?_)))
 refine (A2 _).elim e1 λl hd e1=>?_
 refine wpAny_newObj_type ?_ (by show vals.toArray.size≤sizeLine;refine ae dN (ae r1.length (ae (tw hv) (ae sizeLine_eq ?_)));exact av hz)
 exact PG.of_keep bt (.push _ _) H (.d (.J (n:=0) (gN _ rfl) bt.below ((r1.ds hd).keep (.push _ _))))
theorem Of {m:Bool} (hz:xs.len≤1000) (ha:wL ag K n c es xs):bC ag K n c (.List es p) (.aD m xs):=by
 intro k μ σ ρ s cn cx ok e
 rw [arm_eval_List]
 refine aj (fL (aj (PG.then e (ha k μ σ ρ s p cn cx ok (R.ax e)) λvals vs σ1 ν h1 tk hv bt dF dG r1 e1=>?_)))
 refine (A2 _).elim e1 λl hd e1=>?_
 refine wpAny_newObj_type ?_ (by show vals.toArray.size≤sizeLine;rw [dN,r1.length,tw hv,sizeLine_eq];exact av hz)
 induction m with
 |false=>exact PG.of_keep bt (.push _ _) H (.d (.aD (n:=0) (gN _ rfl) bt.below ((r1.ds hd).keep (.push _ _))))
 |true=>exact PG.DG bt H (r1.ds hd)
theorem Og {t a b:Expr} {x z:E} (ht:kY ag K n c t x) (ha:bC ag K n c a y) (hb:bC ag K n c b z):bC ag K n c (.IfExp t a b p) (.ite x y z):=by
 intro k μ σ ρ s cn cx ok e
 have he:ev K (.ite x y z) ρ σ=(kH (ev K x ρ σ)).bind λp=>if p.1 then ev K y ρ p.2 else ev K z ρ p.2:=(um (r:=ev K x ρ σ) (g:=λp=>if p.1 then ev K y ρ p.2 else ev K z ρ p.2)).symm
 rw [he]at e⊢
 rw [arm_eval_IfExp]
 refine aj (PG.then e (ht k μ σ ρ s cn cx ok (R.ax e)) λval v σ1 ν h1 tk O bt dF dG r1 e1=>?_)
 have:val=v:=r1
 subst this
 induction val using ar with
 |true=>exact ha k _ σ1 ρ _ cn cx bt e1
 |false=>exact hb k _ σ1 ρ _ cn cx bt e1
theorem Oh {t a b:Expr} {x z:E} (ht:kY ag K n c t x) (ha:kY ag K n c a y) (hb:kY ag K n c b z):kY ag K n c (.IfExp t a b p) (.ite x y z):=by
 intro k μ σ ρ s cn cx ok e
 have he:kH (ev K (.ite x y z) ρ σ)=(kH (ev K x ρ σ)).bind λp=>if p.1 then kH (ev K y ρ p.2)else kH (ev K z ρ p.2):=
  (R.iF (r:=ev K x ρ σ) (k:=λp=>(js p.1).bind λt=>if t then kH (ev K y ρ p.2)else kH (ev K z ρ p.2)) λp=>R.iF λt=>by induction t using ar<;>rfl).trans (um (r:=ev K x ρ σ) (g:=λp=>if p.1 then kH (ev K y ρ p.2)else kH (ev K z ρ p.2))).symm
 rw [he]at e⊢
 rw [arm_isTrue_IfExp]
 refine aj (PG.then e (ht k μ σ ρ s cn cx ok (R.ax e)) λval v σ1 ν h1 tk O bt dF dG r1 e1=>?_)
 have:val=v:=r1
 subst this
 induction val using ar with
 |true=>exact ha k _ σ1 ρ _ cn cx bt e1
 |false=>exact hb k _ σ1 ρ _ cn cx bt e1
theorem yj {val:Value} (r:RV k.prog k.w h X μ val v) (e:js v= .ok b):val= .bool b:=
 R.ah e λd hd e=>by cases r.mw hd<;>first|exact R.no (e:)|exact R.aF (e:) H
theorem yk {e:Expr} {x:E} (ha:bC ag K n c e x) (he:∀env A3,isTrue e env A3=(do let v←A3;standAt e.pos;holding [v] (truthy v))):kY ag K n c e x:=by
 intro k μ σ ρ s cn cx ok h
 rw [he]
 refine aj (PG.then h (ha k μ σ ρ s cn cx ok (R.ax h)) λval v σ1 ν h1 tk O bt dF dG r1 e1=>?_)
 refine (yh _).elim e1 λb hd e1=>?_
 have:=yj r1 hd
 subst this
 exact aj (fL (dA (wpAny_truthy_bool (PG.fk bt H rfl))))
theorem Oi {a:Expr} {x:E} (ha:bC ag K n c a x):bC ag K n c (.UnaryOp .Not a p) (.not x):=by
 intro k μ σ ρ s cn cx ok e
 rw [arm_eval_UnaryOp]
 refine aj (PG.then e (ha k μ σ ρ s cn cx ok (R.ax e)) λval v σ1 ν h1 tk O bt dF dG r1 e1=>?_)
 refine (yh _).elim e1 λb hd e1=>?_
 have:=yj r1 hd
 subst this
 exact aj (fL (dA (not_value (wpAny_truthy_bool (PG.fk bt H (.d (.bool _)))))))
theorem Oj {a:Expr} {x:E} (ha:kY ag K n c a x):kY ag K n c (.UnaryOp .Not a p) (.not x):=by
 intro k μ σ ρ s cn cx ok e
 have he:kH (ev K (.not x) ρ σ)=(kH (ev K x ρ σ)).bind λp=> .ok (!p.1,p.2):=
  (R.iF (r:=ev K x ρ σ) (k:=λp=>(js p.1).bind λb=> .ok (!b,p.2)) λp=>R.iF λt=>rfl).trans (um (r:=ev K x ρ σ) (g:=λp=> .ok (!p.1,p.2))).symm
 rw [he]at e⊢
 rw [arm_isTrue_UnaryOp]
 refine aj (PG.then e (ha k μ σ ρ s cn cx ok (R.ax e)) λval v σ1 ν h1 tk O bt dF dG r1 e1=>?_)
 have:val=v:=r1
 subst this
 exact aB (PG.fk bt H rfl)
end
section
variable (ag:F→cw) (K:fF) (n:Nat) (c:Cx)
abbrev uI (K:fF):Bool→Es→↑V→St→R (V×St)
 |true=>th K
 |false=>zj K
abbrev Hn:Bool→BoolOp
 |true=> .And
 |false=> .Or
abbrev yl (w:Bool) (es:↑Expr) (xs:Es):Prop:=∀(k:Kx) (μ:↑Addr) (σ:St) (ρ:↑V) (s:Shared) (pos:Pos),eJ ag k n→gX c k→Ok k μ σ ρ s.heap→uI K w xs ρ σ≠ .aQ→
 wpAny k.M k.A (boolOp pos (Hn w) (evalEach es k.env)) (PG k μ ρ (qN k) s (uI K w xs ρ σ)) (PX k μ s (uI K w xs ρ σ)) s
abbrev ym (w:Bool) (es:↑Expr) (xs:Es):Prop:=∀(k:Kx) (μ:↑Addr) (σ:St) (ρ:↑V) (s:Shared),eJ ag k n→gX c k→Ok k μ σ ρ s.heap→kH (uI K w xs ρ σ)≠ .aQ→
 wpAny k.M k.A (allTrue (Hn w) es k.env) (PG k μ ρ tB s (kH (uI K w xs ρ σ))) (PX k μ s (kH (uI K w xs ρ σ))) s
end
variable {ys:Es} {pos:Pos}
section
variable {ag:F→cw}
theorem Ho (w:Bool) (x:E) (ρ:↑V) (σ:St):uI K w (.cons x .nil) ρ σ=ev K x ρ σ:=by induction w using ar<;>rfl
theorem DK (w:Bool) (x y:E) (ys:Es) (ρ:↑V) (σ:St):uI K w (.cons x (.cons y ys)) ρ σ=(ev K x ρ σ).bind λp=>(js p.1).bind λt=>if t=w then uI K w (.cons y ys) ρ p.2 else .ok p:=by
 induction w using ar
 ·show zj K (.cons x (.cons y ys)) ρ σ=_
  rw [show zj K (.cons x (.cons y ys)) ρ σ=(ev K x ρ σ).bind λp=>(js p.1).bind λt=>if t then .ok p else zj K (.cons y ys) ρ p.2 from rfl]
  congr 1;funext p;congr 1;funext t;induction t using ar<;>rfl
 ·show th K (.cons x (.cons y ys)) ρ σ=_
  rw [show th K (.cons x (.cons y ys)) ρ σ=(ev K x ρ σ).bind λp=>(js p.1).bind λt=>if t then th K (.cons y ys) ρ p.2 else .ok p from rfl]
  congr 1
theorem Ol {w:Bool} {e:Expr} {x:E} (ha:bC ag K n c e x):yl ag K n c w [e] (.cons x .nil):=by
 intro k μ σ ρ s pos cn cx ok h
 rw [Ho]at h⊢
 exact ha k μ σ ρ s cn cx ok h
theorem JS {w:Bool} {e e2:Expr} {x:E} (ha:bC ag K n c e x) (hb:yl ag K n c w (e2::es) (.cons y ys)):yl ag K n c w (e::e2::es) (.cons x (.cons y ys)):=by
 intro k μ σ ρ s pos cn cx ok h
 rw [DK]at h⊢
 show wpAny _ _ (do
  let v←eval e k.env
  standAt pos
  let t←holding [v] (truthy v)
  match Hn w,t with
  | .And,false| .Or,true=>pure v
  |_,_=>boolOp pos (Hn w) (evalEach (e2::es) k.env)) _ _ _
 refine aj (PG.then h (ha k μ σ ρ s cn cx ok (R.ax h)) λval v σ1 ν h1 tk O bt dF dG r1 e1=>?_)
 refine (yh _).elim e1 λb hd e1=>?_
 have:=yj r1 hd
 subst this
 refine aj (fL (aj (dA (wpAny_truthy_bool ?_))))
 induction w using ar<;>induction b using ar
 ·exact hb k _ σ1 ρ _ pos cn cx bt e1
 ·exact aB (PG.fk bt H r1)
 ·exact aB (PG.fk bt H r1)
 ·exact hb k _ σ1 ρ _ pos cn cx bt e1
theorem JT {w:Bool} {e:Expr} {x:E} (ha:kY ag K n c e x):ym ag K n c w [e] (.cons x .nil):=by
 intro k μ σ ρ s cn cx ok h
 rw [Ho]at h⊢
 show wpAny _ _ (do
  match Hn w,←isTrue e k.env (eval e k.env)with
  | .And,false=>pure false
  | .Or,true=>pure true
  |_,_=>pure (Hn w== .And)) _ _ _
 refine aj (bv (ha k μ σ ρ s cn cx ok h) (λb s1 g=>?_) λO O g=>g)
 induction w using ar<;>induction b using ar<;>exact aB g
theorem Hp {w:Bool} {e e2:Expr} {x:E} (ha:kY ag K n c e x) (hb:ym ag K n c w (e2::es) (.cons y ys)):ym ag K n c w (e::e2::es) (.cons x (.cons y ys)):=by
 intro k μ σ ρ s cn cx ok h
 have he:kH (uI K w (.cons x (.cons y ys)) ρ σ)=(kH (ev K x ρ σ)).bind λp=>if p.1=w then kH (uI K w (.cons y ys) ρ p.2)else .ok p:=by
  rw [DK]
  unfold kH
  generalize ev K x ρ σ=o0;induction o0 using R.casesOn with
  |ok p=>
   dsimp only [R.dv]
   generalize ht:js p.1=o0;induction o0 using R.casesOn with
   |ok t=>
    dsimp only [R.dv]
    by_cases hw:t=w
    ·rw [ao hw,ao hw]
    ·rw [aN hw,aN hw];simp only [R.dv,ht]
   |dW m=>rfl
   |aQ=>rfl
  |dW m=>rfl
  |aQ=>rfl
 rw [he]at h⊢
 show wpAny _ _ (do
  match Hn w,←isTrue e k.env (eval e k.env)with
  | .And,false=>pure false
  | .Or,true=>pure true
  |_,_=>allTrue (Hn w) (e2::es) k.env) _ _ _
 refine aj (PG.then h (ha k μ σ ρ s cn cx ok (R.ax h)) λval v σ1 ν h1 tk O bt dF dG r1 e1=>?_)
 have:val=v:=r1
 subst this
 induction w using ar<;>induction val using ar
 ·exact hb k _ σ1 ρ _ cn cx bt e1
 ·exact aB (PG.fk bt H rfl)
 ·exact aB (PG.fk bt H rfl)
 ·exact hb k _ σ1 ρ _ cn cx bt e1
theorem Om (ha:yl ag K n c true es xs):bC ag K n c (.BoolOp .And es p) (.and xs):=by
 intro k μ σ ρ s cn cx ok h
 have he:ev K (.and xs) ρ σ=uI K true xs ρ σ:=rfl
 rw [he]at h⊢
 exact ha k μ σ ρ s p cn cx ok h
theorem Rn (ha:yl ag K n c false es xs):bC ag K n c (.BoolOp .Or es p) (.or xs):=by
 intro k μ σ ρ s cn cx ok h
 have he:ev K (.or xs) ρ σ=uI K false xs ρ σ:=rfl
 rw [he]at h⊢
 exact ha k μ σ ρ s p cn cx ok h
theorem On (ha:ym ag K n c true es xs):kY ag K n c (.BoolOp .And es p) (.and xs):=by
 intro k μ σ ρ s cn cx ok h
 have he:ev K (.and xs) ρ σ=uI K true xs ρ σ:=rfl
 rw [he]at h⊢
 exact ha k μ σ ρ s cn cx ok h
theorem Ro (ha:ym ag K n c false es xs):kY ag K n c (.BoolOp .Or es p) (.or xs):=by
 intro k μ σ ρ s cn cx ok h
 have he:ev K (.or xs) ρ σ=uI K false xs ρ σ:=rfl
 rw [he]at h⊢
 exact ha k μ σ ρ s cn cx ok h
theorem zM (x:Expr) (o i:Value):∃vs,subscripted x false o i=operate vs (PySem.getItem o i):=by
 induction x using ng with
 |Slice a b c p=>induction c using di<;>exact ⟨_,rfl⟩
 |_=>exact ⟨_,rfl⟩
theorem A4 {s:Shared} {value Rp:Expr} {o i:Value} {E: ~~~0} (it:m5 k μ s o i v)
  (hq:∀val h' tk,dJ s.heap h'→RV k.prog k.w h' (k.own++μ) μ val v→Q val {s with heap:=h',toks:=tk}):
  wpAny k.M k.A (do standAt pos;let r←subscripted Rp (←getitemInPython o) o i;letTemporaryGo value o r;pure r) Q E s:=by
 obtain ⟨⟨T,id,hT,hl⟩,g⟩:=it
 refine aj (fL ?_)
 refine aj ?_
 rw [getitemInPython_of_ne hT.not_modules]
 refine aj (wpAny_specialOf hT hl ?_)
 refine aB ?_
 refine aj ?_
 have cC:∀vs,wpAny k.M k.A (operate vs (PySem.getItem o i)) (λr Rq=>wpAny k.M k.A (letTemporaryGo value o r>>=λO=>pure r) Q E Rq) E s:=λvs=>
  wpAny_operating (g E _ λval h' tk kp r=>aj (wpAny_letTemporaryGo (aB (hq val h' tk kp r))))
 obtain ⟨vs,e⟩:=zM Rp o i
 exact ae e (cC vs)
theorem JU (v:V) (m:Str):gI v≠ .dW m:=dY v m
theorem MD {val:Value} (r:RV k.prog k.w h X μ val v) (e:gI v= .ok x):RD h X val x∧v= .d x:=by
 induction v with
 |d y=>obtain rfl:=R.ok.inj e;cases r with|d r=>exact ⟨r,rfl⟩
 |_=>exact R.no e
theorem Oo {a b:Expr} {x:E} (ha:bC ag K n c a x) (hb:bC ag K n c b y):bC ag K n c (.Subscript a b p) (.aw x y):=by
 intro k μ σ ρ s cn cx ok e
 rw [arm_eval_Subscript]
 refine aj (PG.then e (ha k μ σ ρ s cn cx ok (R.ax e)) λval v σ1 ν h1 tk O bt dF dG r1 e1=>?_)
 refine aj (dA (PG.then e1 (hb k _ σ1 ρ _ cn cx bt (R.ax e1)) λsD v2 d8 ma h2 tk2 O fO gm fZ r2 e2=>?_))
 refine (dY _).elim e2 λd hd e2=>?_
 refine (NZ _ _ _).elim e2 λu hi e2=>?_
 exact A4 (NY fO (r1.jt bt gm fZ) (MD r2 hd).1 hi) λval h' tk kp r=>PG.of_keep fO kp H r
end
section
variable (ag:F→cw) (K:fF) (n:Nat) (c:Cx)
noncomputable abbrev tRD (k:Kx):Heap→↑Addr→Value→D→Prop:=λh μ val v=>RD h (k.own++μ) val v
abbrev DL (e:Option Expr) (x:Oe):Prop:=∀(k:Kx) (μ:↑Addr) (σ:St) (ρ:↑V) (s:Shared),eJ ag k n→gX c k→Ok k μ σ ρ s.heap→yb K x ρ σ≠ .aQ→
 wpAny k.M k.A (valueOrNone (evalOpt e k.env)) (PG k μ ρ (tRD k) s (yb K x ρ σ)) (PX k μ s (yb K x ρ σ)) s
end
section
variable {ag:F→cw}
theorem Oq:DL ag K n c none .none:=by
 intro k μ σ ρ s cn cx ok e
 exact aB (PG.fk ok H .none)
theorem Ot {a:Expr} {x:E} (ha:bC ag K n c a x):DL ag K n c (some a) (.some x):=by
 intro k μ σ ρ s cn cx ok e
 show wpAny _ _ (eval a k.env) _ _ _
 refine bv (ha k μ σ ρ s cn cx ok (R.ax e)) (λval s1 g=>?_) λe s1 g=>g.bind
 obtain ⟨v,σ',ν,h',tk,h1,rfl,h3,h4,h5,h6⟩:=g
 have e1:=R.jC h1 e
 refine (dY v).get (R.ax e1) λd hd=>?_
 exact ⟨d,σ',ν,h',tk,(R.cf h1).trans (R.cf hd),rfl,h3,h4,h5,h6.mw hd⟩
theorem Ou {a:Expr} {lo hi st:Option Expr} {x:E} {l u t:Oe} (ha:bC ag K n c a x) (hl:DL ag K n c lo l) (hu:DL ag K n c hi u) (ht:DL ag K n c st t):
  bC ag K n c (.Subscript a (.Slice lo hi st p') p) (.oq x l u t):=by
 intro k μ σ ρ s cn cx ok e
 rw [arm_eval_Subscript]
 refine aj ((kN.refl μ s _).step e (ha k μ σ ρ s cn cx ok (R.ax e)) λval v σ1 ν h1 tk O bt dF dG r1 e1 L1=>?_)
 refine aj (dA ?_)
 rw [arm_eval_Slice]
 refine aj (L1.step e1 (hl k _ σ1 ρ _ cn cx bt (R.ax e1)) λvl dl d8 ma h2 tk2 O fO gm fZ r2 e2 L2=>?_)
 refine aj (dA (L2.step e2 (hu k _ d8 ρ _ cn cx fO (R.ax e2)) λvu du uJ ν3 h3 A1 O pC kh Hq r3 e3 L3=>?_))
 refine aj (dA (L3.step e3 (ht k _ uJ ρ _ cn cx pC (R.ax e3)) λvt dt vr uG h4 wM O uH nD qP r4 e4 L4=>?_))
 refine (JK v dl du dt).get (R.ax e4) λw hi=>?_
 unfold newFields
 refine wpAny_newObj_type ?_
 have kp:dJ h4 (h4.push {cls:= .type "slice",data:= .fields #[vl,vu,vt]}):= .push _ _
 have Za:=uH.keep kp
 have rv:=((((r1.jt bt gm fZ).jt fO kh Hq).jt pC nD qP).keep kp)
 have rl:=((r2.jt fO kh Hq).jt pC nD qP).keep kp
 have ru:=(r3.jt pC nD qP).keep kp
 have rt:=r4.keep kp
 have hs:(h4.push {cls:= .type "slice",data:= .fields #[vl,vu,vt]}).IsSliceOf h4.objs.size vl vu vt:=⟨_,gN _ rfl,rfl,rfl⟩
 have it:=JH (s:={s with heap:=h4.push {cls:= .type "slice",data:= .fields #[vl,vu,vt]},toks:=wM}) Za rv hs rl ru rt hi
 exact A4 it λval h' tk rO r=>L4.g _ _ (PG.of_keep uH (kp.trans rO) (R.cf hi) r)
end
section
variable (ag:F→cw) (K:fF) (n:Nat)
abbrev pP:Prop:=∀(k:Kx) (f:F) (μ:↑Addr) (σ:St) (ρ:↑V) (s:Shared) (vals:↑Value) (args:↑V),eJ ag k n→Ok k μ σ ρ s.heap→uF k.prog k.w s.heap (k.own++μ) μ vals args→K f args σ≠ .aQ→
 wpAny k.M k.A (PySem.call (.ref (ag f).E7) vals) (PG k μ ρ (qN k) s (K f args σ)) (PX k μ s (K f args σ)) s
end
variable {np:Pos} {more:↑Value} {id:String}
section
variable {ag:F→cw}
noncomputable abbrev Rr (k:Kx):Heap→↑Addr→Args→↑V→Prop:=λh μ a v=>a.kw=[]∧uF k.prog k.w h (k.own++μ) μ a.pos v
abbrev dP:↑Expr→Prop
 |[]=>True
 |e::es=>(∀rest env,starEach (e::rest) env=(false,eval e env)::starEach rest env)∧dP es
theorem dP.DM (h:dP es) (env:Env) (pos:Pos):backTo pos (starEach es env)=es.map λe=>(false,eval e env):=by
 induction es with
 |nil=>rfl
 |cons e es ih=>refine ae (h.1 es env) (ae ef (dg (ih h.2) ?_));rfl
theorem dP.any (h:dP es) (env:Env) (pos:Pos):(backTo pos (starEach es env)).any (·.1)=false:=by
 refine ae (h.DM env pos) ?_;simp
theorem Ov {f:Value} {s:Shared} (hs:dP es) (hl:wL ag K n c es xs) (cn:eJ ag k n) (cx:gX c k) (ok:Ok k μ σ ρ s.heap) (e:i3 K xs ρ σ≠ .aQ):
  wpAny k.M k.A (evalArgs f true (backTo pos (starEach es k.env)) []) (PG k μ ρ (Rr k) s (i3 K xs ρ σ)) (PX k μ s (i3 K xs ρ σ)) s:=by
 have h:=hl k μ σ ρ s pos cn cx ok e
 have h':wpAny k.M k.A (spliced (backTo pos (starEach es k.env))) (λvs s'=>PG k μ ρ (Rr k) s (i3 K xs ρ σ) ⟨vs,[]⟩ s') (PX k μ s (i3 K xs ρ σ)) s:=by
  refine bv h (λvs s1 g=>?_) λO O g=>g
  obtain ⟨v,σ',ν,h',tk,h1,h2,h3,h4,h5,h6⟩:=g
  exact ⟨v,σ',ν,h',tk,h1,h2,h3,h4,h5,rfl,h6⟩
 induction es using bu with
 |nil=>
  unfold evalArgs
  refine aj (bv h' (λvs s1 g=>?_) λO O g=>g)
  exact dA (aj (aB (aj (aB (aB g)))))
 |cons a es=>
  rw [hs.1 es k.env]at h'⊢
  exact uc h'
theorem Rs {x:Str} {g:F} {s:Shared} {E: ~~~0} (cn:eJ ag k n) (cx:gX c k) (ok:Ok k μ σ ρ s.heap)
  (hg:c.glob x=true) (hf:yc.lookup x=some g) (hd:(x==("__debug__":Str))=false) (h:Q (.ref (ag g).E7) s):wpAny k.M k.A (eval (.Name x p) k.env) Q E s:=by
 obtain ⟨mg,hm,h1,_,_⟩:=cn.top.glob
 exact EJ cn.good.fn (cx.glob x hg) (Calls.loadGlobal_global (by refine ae cn.globals ?_;exact hm.keeps ok.base) (h1 x g hf) h) hd
theorem mI {x:Str} {v:Value} {s:Shared} {E: ~~~0} (cn:eJ ag k n) (cx:gX c k) (ok:Ok k μ σ ρ s.heap)
  (hg:c.glob x=true) (hf:(x,v)∈jD) (hd:(x==("__debug__":Str))=false) (h:Q v s):wpAny k.M k.A (eval (.Name x p) k.env) Q E s:=by
 obtain ⟨mg,hm,_,h1,_⟩:=cn.top.glob
 obtain ⟨mb,hb,h2⟩:=cn.top.blt
 exact EJ cn.good.fn (cx.glob x hg) (Calls.loadGlobal_builtin (by refine ae cn.globals ?_;exact hm.keeps ok.base) (h1 _ hf) (by refine ae cn.builtins ?_;exact hb.keeps ok.base) (h2 _ hf) h) hd
theorem Fc:yc.lookup ("__debug__":Str)=none:=by decide+kernel
theorem A5 {x:Str} {g:F} (hK:pP ag K n) (hf:c.fn x=some g) (hs:dP es) (hl:wL ag K n c es xs):bC ag K n c (.Call (.Name x np) es [] pos) (.call g xs):=by
 intro k μ σ ρ s cn cx ok e
 unfold Cx.fn at hf
 split at hf
 ·rename_i hg
  have hd:(x==("__debug__":Str))=false:=by
   cases hq:x==("__debug__":Str)with
   |false=>rfl
   |true=>rw [dz hq,Fc]at hf;exact nomatch hf
  refine wpAny_Call_ofName (Rs cn cx ok hg hf hd ?_)
  obtain ⟨⟨o,ho,JV⟩,_⟩:=cn.top.obj g
  refine Calls.callWith_function (o:=o) (fd:=Calls.docDef (ag g).name (ag g).params (ag g).body (ag g).scope (ag g).pm (ag g).cd (ag g).doc) ?_
  refine (kN.refl μ s _).step e (Ov hs hl cn cx ok (R.ax e)) λa vs σ1 ν h1 tk O bt dF dG r1 e1 L1=>?_
  refine ⟨⟨bt.base _ _ ho,JV⟩,?_⟩
  obtain ⟨vals,kw⟩:=a
  obtain ⟨hkw,r1⟩:=r1
  have:kw=[]:=hkw
  subst this
  exact L1.wp (hK k g _ σ1 ρ _ vals vs cn bt r1 e1)
 ·exact nomatch hf
theorem ME {M:Model} {f:Value} {e:Expr} {C:Args→Shared→Prop} {E: ~~~0} {s:Shared} (hs:dP [e]) (h:wpAny M A (eval e env) (λv s=>C ⟨[v],[]⟩ s) E s):wpAny M A (evalArgs f true (backTo pos (starEach [e] env)) []) C E s:=by
 refine ae (hs.DM env pos) ?_
 exact uc (rz (bv h (λO O g=>wd g) λO O g=>g))
abbrev mJ (ag:F→cw) (n:Nat) (f:Value) (more:↑Value) (b:B1):Prop:=∀(k:Kx) (μ:↑Addr) (σ:St) (ρ:↑V) (s:Shared) (val:Value) (v:V),eJ ag k n→Ok k μ σ ρ s.heap→RV k.prog k.w s.heap (k.own++μ) μ val v→mF σ b v≠ .aQ→
 wpAny k.M k.A (PySem.call f (val::more)) (PG k μ ρ (qN k) s (mF σ b v)) (PX k μ s (mF σ b v)) s
theorem mJ.of {f:Value} {b:B1} (h:∀(k:Kx) (μ:↑Addr) (σ:St) (ρ:↑V) (s:Shared) (val:Value) (v:V) (r:V×St),eJ ag k n→Ok k μ σ ρ s.heap→RV k.prog k.w s.heap (k.own++μ) μ val v→mF σ b v= .ok r→oX k μ σ ρ s (PySem.call f (val::more)) r):mJ ag n f more b:=
 λk μ σ ρ s val v cn ok rv hb=>(Mz σ b v).get hb λr hr=>by refine ae hr ?_;exact h k μ σ ρ s val v r cn ok rv hr _
theorem mJ.Hr {f:Value} {b:B1} (hb:∀σ v,mF σ b v=(gI v).bind λx=>(wq b x).bind λy=> .ok (.d y,σ))
  (h:∀(k:Kx) (μ:↑Addr) (σ:St) (ρ:↑V) (s:Shared) (val:Value) (d y:D),eJ ag k n→Ok k μ σ ρ s.heap→RD s.heap (k.own++μ) val d→wq b d= .ok y→oX k μ σ ρ s (PySem.call f (val::more)) (.d y,σ)):mJ ag n f more b:=
 .of λk μ σ ρ s val v r cn ok rv e=>R.ah ((hb σ v).symm.trans e) λd hd e=>R.ah e λy hy e=>R.aF e (h k μ σ ρ s val d y cn ok (rv.mw hd) hy)
theorem Hs {f:Value} {e:Expr} {x:E} {b:B1} {s:Shared} (hs:dP [e]) (hl:bC ag K n c e x) (hb:mJ ag n f [] b) (cn:eJ ag k n) (cx:gX c k) (ok:Ok k μ σ ρ s.heap)
  (h:ev K (.b1 b x) ρ σ≠ .aQ):wpAny k.M k.A (evalArgs f true (backTo pos (starEach [e] k.env)) []) (λa iX=>wpAny k.M k.A (PySem.call f ([]++a.pos) a.kw) (PG k μ ρ (qN k) s (ev K (.b1 b x) ρ σ)) (PX k μ s (ev K (.b1 b x) ρ σ)) iX) (PX k μ s (ev K (.b1 b x) ρ σ)) s:=
 ME hs ((kN.refl μ s _).step (f:=λp=>mF p.2 b p.1) h (hl k μ σ ρ s cn cx ok (R.ax (f:=λp=>mF p.2 b p.1) h)) λO v σ1 O O O O bt O O r1 e1 L1=>L1.wp (hb k _ σ1 ρ _ _ v cn bt r1 e1))
theorem pQ {x:Str} {e:Expr} {b:B1} (hg:c.glob x=true) (hf:(x, .builtin id)∈jD) (hd:(x==("__debug__":Str))=false) (hs:dP [e]) (hl:bC ag K n c e y)
  (hb:mJ ag n (.builtin id) [] b):bC ag K n c (.Call (.Name x np) [e] [] pos) (.b1 b y):=by
 intro k μ σ ρ s cn cx ok h
 refine wpAny_Call_ofName (mI cn cx ok hg hf hd ?_)
 exact v8 (hs.any _ _) (Hs hs hl hb cn cx ok h)
theorem qQ {x:Str} {T:String} {e:Expr} {b:B1} (hg:c.glob x=true) (hf:(x, .type T)∈jD) (hd:(x==("__debug__":Str))=false) (hs:dP [e]) (hl:bC ag K n c e y)
  (hb:mJ ag n (.type T) [] b):bC ag K n c (.Call (.Name x np) [e] [] pos) (.b1 b y):=by
 intro k μ σ ρ s cn cx ok h
 refine wpAny_Call_ofName (mI cn cx ok hg hf hd ?_)
 exact PySem.callWith_type (hs.any _ _) (Hs hs hl hb cn cx ok h)
theorem A6 {b:B1} {f:Value} (hb:∀d,wq b d= .aQ) (hv:∀σ v,mF σ b v=(gI v).bind λx=>(wq b x).bind λy=> .ok (.d y,σ)):mJ ag n f [] b:= .Hr hv λO O O O O O d O O O O e=>R.no ((hb d).symm.trans e)
end
variable {ap tp:Pos} {name:Str}
section
variable {ag:F→cw}
theorem mJ.len:mJ ag n (.builtin "len") [] .len:= .Hr (λO O=>rfl) λO O O O O O O O O=>Q9
theorem mJ.str:mJ ag n (.type "str") [] .str:= .Hr (λO O=>rfl) λO O O O O O O O O=>Q'
theorem mJ.EM:mJ ag n (.builtin "chr") [] .EM:= .Hr (λO O=>rfl) λO O O O O O O O O=>Ra
theorem mJ.EN:mJ ag n (.builtin "ord") [] .EN:= .Hr (λO O=>rfl) λO O O O O O O O O=>Rb
theorem mJ.dict:mJ ag n (.type "dict") [] .dict:= .of λO O O O O O O O cn=>N4 cn.top.Y'
theorem mJ.tuple:mJ ag n (.type "tuple") [] .tuple:= .of λO O O O O O O O O=>JL
theorem mJ.sum:mJ ag n (.builtin "sum") [] .sum:= .Hr (λO O=>rfl) λO O O O O O O O cn=>Rc cn.good.handled
theorem mJ.nU:mJ ag n (.builtin "isinstance") [.type "tuple"] .nU:= .Hr (λO O=>rfl) λO O O O O O O O O=>JM
theorem mJ.qi:mJ ag n (.builtin "isinstance") [.type "str"] .qi:= .Hr (λO O=>rfl) λO O O O O O O O O=>JN
theorem DN {x t:Str} {T:String} {e:Expr} {b:B1} (hg:c.glob x=true) (hf:(x, .builtin "isinstance")∈jD) (hd:(x==("__debug__":Str))=false) (hs:dP [e]) (hl:bC ag K n c e y)
  (Y8:c.glob t=true) (hft:(t, .type T)∈jD) (hdt:(t==("__debug__":Str))=false) (hb:mJ ag n (.builtin "isinstance") [.type T] b):bC ag K n c (.Call (.Name x np) [e, .Name t tp] [] pos) (.b1 b y):=by
 intro k μ σ ρ s cn cx ok h
 have Rt:starEach [e, .Name t tp] k.env=[(false,eval e k.env),(false,eval (.Name t tp) k.env)]:=by rw [hs.1];rfl
 refine wpAny_Call_ofName (mI cn cx ok hg hf hd ?_)
 refine ae Rt ?_
 refine v8 H ?_
 show wpAny _ _ (evalArgs _ true [(false,eval e k.env),(false,eval (.Name t tp) k.env)] []) _ _ _
 refine uc (rz ?_)
 refine (kN.refl μ s _).step h (hl k μ σ ρ s cn cx ok (R.ax h)) λval v σ1 ν h1 tk O bt dF dG r1 e1 L1=>?_
 refine rz (mI cn cx bt Y8 hft hdt (wd ?_))
 exact L1.wp (hb k _ σ1 ρ _ val v cn bt r1 e1)
theorem Ow {M:Model} {E: ~~~0} {s:Shared} {f:Value} {Q:Args→Shared→Prop} (h:Q ⟨[],[]⟩ s):wpAny M A (evalArgs f true [] []) Q E s:=by
 unfold evalArgs
 have h0:wpAny M A (spliced []) (λvs s'=>Q ⟨vs,[]⟩ s') E s:=aB h
 refine aj (bv h0 (λvs s1 g=>?_) λO O g=>g)
 exact dA (aj (aB (aj (aB (aB g)))))
theorem tx {o:Expr} (h:j' o=true) (name:Str) (env:Env):attributeBase o name env (eval o env)=eval o env:=by
 induction o using ng<;>first|rfl|cases h
theorem Ht {o:Expr} {x:E} (hb:j' o=true) (hl:(ap.endLine==p.line)=true) (ho:bC ag K n c o x):bC ag K n c (.Call (.Attribute o "lower" ap) [] [] p) (.b1 .lower x):=by
 intro k μ σ ρ s cn cx ok h
 refine Call_method0 (tx hb _ _) hl ?_
 refine (kN.refl μ s _).step h (ho k μ σ ρ s cn cx ok (R.ax h)) λval v σ1 ν h1 tk O bt dF dG r1 e1 L1=>?_
 refine (Mz σ1 .lower v).get e1 λr hr=>R.ah (hr:) λd hd e2=>R.ah e2 λz hz e2=>?_
 rw [hr]at L1
 obtain ⟨y,t,rfl,hc⟩:=JP (k:=k) (σ:=σ1) (ρ:=ρ) (s:={s with heap:=h1,toks:=tk}) bt (r1.mw hd) hz
 refine ⟨"str","str.lower",PySem.F.plainAttrs_str,PySem.F.slot_str_lower,PySem.F.type_str_lower,typeIs_str _ _ _,(λO e=>nomatch e),?_⟩
 exact v8 H (Ow (L1.wp (R.aF e2 (hc _))))
theorem Hu {o e:Expr} {x:E} {b:B2} (hb:j' o=true) (hl:(ap.endLine==p.line)=true) (hs:dP [e]) (ho:bC ag K n c o x) (he:bC ag K n c e y)
  (slot:Slot "str" name id) (ty:typeOf (.builtin id)=pure (.type "method_descriptor"))
  (hc:∀{k:Kx} {μ:↑Addr} {σ:St} {ρ:↑V} {s:Shared} {z:Str} {t:Tok} {val:Value} {u v:V},Ok k μ σ ρ s.heap→RV k.prog k.w s.heap (k.own++μ) μ val u→Jq σ b z u= .ok v→oX k μ σ ρ s (PySem.call (.builtin id) [.str z t,val]) (v,σ)):
  bC ag K n c (.Call (.Attribute o name ap) [e] [] p) (.b2 b x y):=by
 intro k μ σ ρ s cn cx ok h
 refine Call_method1 (tx hb _ _) (hs.1 [] k.env) hl ?_
 refine (kN.refl μ s _).step h (ho k μ σ ρ s cn cx ok (R.ax h)) λval v σ1 ν h1 tk O bt dF dG r1 e1 L1=>?_
 refine NX.get (dY v) (R.ax e1) λd hd=>?_
 have rd:=r1.mw hd
 dsimp only at e1 L1
 rw [hd,R.dv]at e1 L1
 refine NX.get (jW d) (R.ax e1) λz hz=>rd.ly hz λt=>?_
 rw [hz,R.dv]at e1 L1
 clear hz hd r1 rd
 refine ⟨"str",id,PySem.F.plainAttrs_str,slot,ty,typeIs_str _ _ _,(λO e=>nomatch e),?_⟩
 refine v8 H (uc (rz ?_))
 refine L1.step e1 (he k _ σ1 ρ _ cn cx bt (R.ax e1)) λsD v2 d8 ma h2 tk2 O fO gm fZ r2 e2 L2=>wd ?_
 refine NX.get (VK d8 b z v2) (R.ax e2) λu hu=>?_
 dsimp only at L2
 rw [hu,R.dv]at L2
 exact L2.wp (hc fO r2 hu _)
end
abbrev Kx.dh (k:Kx) (as:↑Addr):Kx:={k with own:=as++k.own}
theorem eU.Hv {own:↑Addr} (kp:dJ h h') (hn:∀a∈as,cN h a):eU h h' (own++μ) ((as++own)++μ):=
 ⟨λb o e O O=>kp b o e,λb o e hb hm=>by
  rw [aX]at hm
  rcases bd.mp hm with hm|hm
  ·exact (hn b hm).not e
  ·exact hb hm⟩
theorem Ok.dh (x:Ok k μ σ ρ h) (kp:dJ h h') (hn:∀a∈as,cN h a∧∃o,h'.get? a=some o) (nd:as.Nodup):Ok (k.dh as) μ σ ρ h':=by
 have i:eU h h' (k.own++μ) ((as++k.own)++μ):= .Hv kp λa ha=>(hn a ha).1
 exact {
  base:=λb o e=>kp b o (x.base b o e)
  frames:=x.frames.of_keeps λb o e O=>⟨o,kp b o e,H⟩
  dM:=λa ha=>bl _ (x.dM a ha)
  low:=λa ha=>by
   change a∈(as++k.own)++μ at ha
   rw [aX]at ha
   rcases bd.mp ha with ha|ha
   ·exact ⟨sC.jV (λb o e=>⟨o,x.base b o e⟩) (hn a ha).1,(hn a ha).2⟩
   ·obtain ⟨n,o,e⟩:=x.low a ha
    exact ⟨n,o,kp a o e⟩
  nodup:=by
   show((as++k.own)++μ).Nodup
   rw [aX]
   refine fm.mpr ⟨nd,x.nodup,λa ha b hb q=>?_⟩
   obtain ⟨_,o,e⟩:=x.low b hb
   exact (hn a ha).1.not (q▸e)
  cells:=x.cells.into i (.refl _) λa O o e=>kp a o e
  env:=by
   have:=x.env.into i (.refl _) (λO hm=>hm.keeps kp) λO O O O hc=>hc.keeps kp
   exact ⟨this.ns,this.cell,this.len⟩}
theorem Ok.tz (x:Ok (k.dh as) μ σ ρ h) (hF:Mr k.F k.own):Ok k μ σ ρ h:=by
 have sub:∀a∈k.own++μ,a∈(as++k.own)++μ:=λa ha=>by
  rw [aX];exact bl _ ha
 have i:eU h h ((as++k.own)++μ) (k.own++μ):= .DB sub
 exact {
  base:=x.base
  frames:=x.frames
  dM:=hF
  low:=λa ha=>x.low a (sub a ha)
  nodup:=by
   have:=x.nodup
   change ((as++k.own)++μ).Nodup at this
   rw [aX]at this
   exact (fm.mp this).2.1
  cells:=x.cells.into i (.refl _) λa O o e=>e
  env:=by
   have:=x.env.into i (.refl _) (λO hm=>hm) λO O O O hc=>hc
   exact ⟨this.ns,this.cell,this.len⟩}
theorem RV.tz {val:Value} (r:RV k.prog k.w h ((k.dh as).own++μ) μ val v):RV k.prog k.w h (k.own++μ) μ val v:=
 r.into (.DB λa ha=>by show a∈(as++k.own)++μ;rw [aX];exact bl _ ha) (.refl _)
theorem Ok.XO (x:Ok k μ σ ρ h) (ha:a∈k.own) (hs:Heap.SameBut a h h') (ho:∃o,h'.get? a=some o) (hw:a∉k.wr) (hl:k.env.locals≠a) (hf:a∉k.F) (hc:∀v,¬h.IsCell a v):Ok k μ σ ρ h':=by
 obtain ⟨o,ho⟩:=ho
 have hX:a∈k.own++μ:=aW _ ha
 have i:eU h h' (k.own++μ) (k.own++μ):=⟨λb o e hb O=>(hs.2 b λq=>hb (q▸hX)).trans e,λO O O hb=>hb⟩
 have ex:b7 [a] ([]:↑Addr) h h':=b7.sameBut hs ho (by simp)
 exact {
  base:=λb o e=>(hs.2 b λq=>by
   have h1:=(x.low a hX).1
   rw [←q]at h1
   exact h1.not e).trans (x.base b o e)
  frames:=ex.frames x.frames λb hb q=>hf (bK.mp q▸hb)
  dM:=x.dM
  low:=λb hb=>let⟨n,o,e⟩:=x.low b hb;⟨n,ex.1 b o e⟩
  nodup:=x.nodup
  cells:=x.cells.into i (.refl _) λb hb o e=>(hs.2 b λq=>x.fy ha (q▸hb)).trans e
  env:=x.env.into i (.refl _) (λO hm=>hm.sameBut hs hl) λy c v hl hv=>by
   have Ru:c≠a:=λq=>hc v (q▸hv)
   obtain ⟨o,ho,hd⟩:=hv
   exact ⟨o,(hs.2 c Ru).trans ho,hd⟩}
theorem eJ.dh {ag:F→cw} (cn:eJ ag k n) (as:↑Addr):eJ ag (k.dh as) n:=
 ⟨⟨cn.good.frames,cn.good.handled,cn.good.fn,cn.good.G6,λa ha=>bl _ (cn.good.nV a ha),cn.good.nodup,cn.good.fN,cn.good.apart,cn.good.frame⟩,cn.top,cn.depth,cn.units,cn.globals,cn.builtins,cn.plain⟩
theorem gX.dh (cx:gX c k) (as:↑Addr):gX c (k.dh as):=⟨cx.slots,cx.glob,cx.cell,cx.E8⟩
theorem PX.tz {s:Shared} {r:R α} {e:Value} (g:PX (k.dh as) μ s r e s'):PX k μ s r e s':=by
 obtain ⟨m,h',tk,h1,h2,h3,h4⟩:=g
 exact ⟨m,h',tk,h1,h2,h3,⟨h4.base,h4.frames,h4.dW⟩⟩
theorem Ok.CJ (x:Ok k μ σ ρ h):∃o,h.get? k.env.locals=some o:=by obtain ⟨_,⟨o,_,_,ho,_⟩,_⟩:=x.env.ns;exact ⟨o,ho⟩
theorem Ok.ki (x:Ok k μ σ ρ h) (n:cN h a):k.env.locals≠a:=λq=>by
 obtain ⟨o,ho⟩:=x.CJ
 exact n.not (q▸ho)
theorem Ok.ia (x:Ok k μ σ ρ h) (n:cN h a):a∉k.F:=λq=>by
 obtain ⟨_,o,ho⟩:=x.low a (aW _ (x.dM a q))
 exact n.not ho
theorem eJ.nF {ag:F→cw} (cn:eJ ag k n) (x:Ok k μ σ ρ h) (nw:cN h a):a∉k.wr:=λq=>by
 obtain ⟨_,o,ho⟩:=x.low a (aW _ (cn.good.nV a q))
 exact nw.not ho
theorem Ok.Hw (x:Ok k μ σ ρ h) (n:cN h a):a∉μ:=λq=>x.fresh n (bl _ q)
variable {key:Str} {kp:Pos} {vals:↑Expr}
section
variable {ag:F→cw}
abbrev A7:↑Str→↑(Value×Value)→Prop
 |[],[]=>True
 |k::ks,(v,_)::vs=>(∃t,v= .str k t)∧A7 ks vs
 |_,_=>False
noncomputable abbrev VL (ks:↑Str) (k:Kx):Heap→↑Addr→↑(Value×Value)→↑V→Prop:=λh μ ps vs=>A7 ks ps∧uF k.prog k.w h (k.own++μ) μ (ps.map (·.2)) vs
inductive pR:↑(Option Expr)→↑Str→Prop
 |nil:pR [] []
 |cons {k:Str} {kk:Nat} {p:Pos} {r:↑(Option Expr)} {ks:↑Str} (h:pR r ks):pR (some (.Constant (.str k) kk p)::r) (k::ks)
theorem A8 {f0:↑(Option Expr)}:∀{ks:↑Str},Ag f0=some ks→pR f0 ks:=by
 induction f0 with
 |nil=>
  intro ks h
  cases (h:some []=some ks);exact .nil
 |cons k r dS=>
  exact λ{ks} h=>ah (h:) λs hk h=>nz (h:) λl hr e_=>by
   subst e_
   obtain ⟨kk,p,rfl⟩:=zk hk
   exact .cons (dS hr)
abbrev Hx (ag:F→cw) (K:fF) (n:Nat) (c:Cx) (f0:↑(Option Expr)) (ks:↑Str) (vals:↑Expr) (xs:Es):Prop:=∀(k:Kx) (μ:↑Addr) (σ:St) (ρ:↑V) (s:Shared) (pos:Pos),eJ ag k n→gX c k→Ok k μ σ ρ s.heap→i3 K xs ρ σ≠ .aQ→
 wpAny k.M k.A (evalPairs (pairTrees f0 vals k.env pos)) (PG k μ ρ (VL ks k) s (i3 K xs ρ σ)) (PX k μ s (i3 K xs ρ σ)) s
theorem JW:Hx ag K n c [] [] [] .nil:=by
 intro k μ σ ρ s pos cn cx ok e
 exact pairTrees_nil_walk (PG.fk ok H ⟨trivial, .nil⟩)
theorem Hy {f0:↑(Option Expr)} {ks:↑Str} {e:Expr} {x:E} (ha:bC ag K n c e x) (hb:Hx ag K n c f0 ks es xs):
  Hx ag K n c (some (.Constant (.str key) kk kp)::f0) (key::ks) (e::es) (.cons x xs):=by
 intro k μ σ ρ s pos cn cx ok h
 refine pairTrees_cons_walk (wpAny_Constant_str ?_)
 have L:=(kN.refl (k:=k) μ s ((ev K x ρ σ).bind λp=>(i3 K xs ρ p.2).bind λq=> .ok (p.1::q.1,q.2))).keep (h':=s.heap) (tk:=s.toks+1) (.refl _)
 refine L.step h (ha k μ σ ρ {s with toks:=s.toks+1} cn cx ok (R.ax h)) λval v σ1 ν h1 tk O bt dF dG r1 e1 L1=>?_
 refine L1.step e1 (hb k _ σ1 ρ _ pos cn cx bt (R.ax e1)) λps vs d8 ma h2 tk2 O fO gm fZ r2 e2 L2=>?_
 exact L2.g _ _ (PG.fk fO H ⟨⟨⟨_,H⟩,r2.1⟩, .cons (r1.jt bt gm fZ) r2.2⟩)
theorem Hz (v:V) (m:Str):Mf v≠ .dW m:=by induction v using V.casesOn<;>exact nofun
theorem Fe (ks:↑Str):∀(vs:↑V) (m:Str),ta ks vs≠ .dW m:=by
 induction ks with
 |nil=>intro vs m;induction vs using bu<;>exact nofun
 |cons k ks ih=>
  intro vs m
  induction vs using bu with
  |nil=>exact nofun
  |cons v vs=>exact R.GZ (Hz v m) λO O=>R.GZ (ih vs m) λO O=>nofun
theorem Rw {ks:↑Str}:∀{ps:↑(Value×Value)} {vs:↑V} {l:↑(Str×At)},A7 ks ps→uF k.prog k.w h X μ (ps.map (·.2)) vs→ta ks vs= .ok l→
  ∃bP,qh (Carries (strKind k.prog k.w) ps bP) (hW h X μ bP l) (bP.map (·.1)=ks):=by
 induction ks with
 |nil=>
  intro ps vs l hk r e
  induction ps using bu with
  |nil=>cases r;obtain rfl:=R.ok.inj e;exact ⟨[],trivial, .nil,rfl⟩
  |cons=>exact hk.elim
 |cons key ks ih=>
  intro ps vs l hk r e
  induction ps using bu with
  |nil=>exact hk.elim
  |cons p ps=>
   obtain ⟨kv,val⟩:=p
   obtain ⟨⟨t,rfl⟩,hk⟩:=hk
   cases r with
   |@cons _ _ v Ff rv r=>
    refine R.ah (e:) λa ha e=>R.ah (e:) λl' hl e=>?_
    obtain rfl:=R.ok.inj e
    obtain ⟨bP,h1,h2,h3⟩:=ih hk r hl
    have Zb:wB h X μ val a:=by
     replace rv:RV k.prog k.w h X μ val v:=rv
     induction rv with
     |d rd=>obtain rfl:=R.ok.inj ha;exact .d rd
     |ref hn=>obtain rfl:=R.ok.inj ha;exact .ref hn
     |eO=>exact R.no ha
    exact ⟨(key,val)::bP,⟨strKind_is _ _ _ _,rfl,h1⟩, .cons Zb h2,aC (key::·) h3⟩
theorem wN {f0:↑(Option Expr)} {ks:↑Str} (h:pR f0 ks):f0.all (·.isSome)=true∧f0.length=ks.length:=by
 induction h with
 |nil=>exact ⟨rfl,rfl⟩
 |cons _ ih=>exact ⟨ih.1,aC (·+1) ih.2⟩
noncomputable abbrev MF (ks:↑Str) (p:↑V×Mine.St):R (V×Mine.St):=(ta ks p.1).bind λl=> .ok (.eO l,p.2)
theorem Ox {f0:↑(Option Expr)} {ks:↑Str} (hk:pR f0 ks) (hn:ks.Nodup) (h0:ks≠[]) (VM:ks.length≤15) (hv:vals.length=ks.length) (ha:Hx ag K n c f0 ks vals xs):
  bC ag K n c (.Dict f0 vals p) (.eO ks xs):=by
 intro k μ σ ρ s cn cx ok e
 obtain ⟨kg,cb⟩:=wN hk
 refine wpAny_Dict_walk (knd:=strKind k.prog k.w) kg (Nat.le_antisymm (aS (eL cb) (eG hv)) (aS (eL hv) (eG cb))) (λq=>h0 (by have:=cb;rw [q]at this;exact xW.mp this.symm)) (aS (eL cb) VM) ?_
 have Rx:dJ s.heap (s.heap.push {cls:= .type "dict",data:= .dict #[]}):= .push _ _
 have jX:cN s.heap s.heap.objs.size:= .size _
 have HA:(s.heap.push {cls:= .type "dict",data:= .dict #[]}).get? s.heap.objs.size=some {cls:= .type "dict",data:= .dict #[]}:=gN _ rfl
 have VN:Ok (k.dh [s.heap.objs.size]) μ σ ρ (s.heap.push {cls:= .type "dict",data:= .dict #[]}):=ok.dh Rx (λa ha=>by refine ae (bK.mp ha) ?_;exact ⟨jX,_,HA⟩) (by simp)
 have h:=ha (k.dh [s.heap.objs.size]) μ σ ρ {s with heap:=s.heap.push {cls:= .type "dict",data:= .dict #[]}} p (cn.dh _) (cx.dh _) VN (R.ax e)
 refine bv h (λps s1 g=>?_) λe' s1 g=>?_
 ·obtain ⟨vs,σ1,ν,h1,tk,h2,rfl,bt,dF,dG,hks,rvs⟩:=g
  have hf:=R.jC (f:=MF ks) h2 e
  refine NX.get (λm=>Fe ks vs m) (R.ax hf) λl hd=>?_
  have hr:ev K (.eO ks xs) ρ σ= .ok (.eO l,σ1):=(R.cf (f:=MF ks) h2).trans (R.cf hd)
  obtain ⟨bP,JX,hr1,Oy⟩:=Rw hks rvs hd
  have Ry:s.heap.objs.size∉μ:=ok.Hw jX
  have hnF:s.heap.objs.size∉k.F:=ok.ia jX
  have Rz:h1.get? s.heap.objs.size=some {cls:= .type "dict",data:= .dict #[]}:=dF.get HA Ry hnF
  have RA:h1.DictOf (strKind k.prog k.w) s.heap.objs.size []:=by
   obtain ⟨o,es,ep,ho,r⟩:=(Heap.DictOf.new s.heap:(s.heap.push {cls:= .type "dict",data:= .dict #[]}).DictOf (strKind k.prog k.w) s.heap.objs.size [])
   rw [HA]at ho;injection ho with ho;subst ho
   exact ⟨_,es,ep,Rz,r⟩
  refine ⟨bP,JX,RA,λh' qm A0=>?_⟩
  rw [merged_nil_of_nodup bP (by refine ae Oy ?_;exact hn)]at qm
  obtain ⟨o',_,_,pA,_⟩:=id qm
  have fO:Ok (k.dh [s.heap.objs.size]) (μ++ν) σ1 ρ h':=bt.XO (a:=s.heap.objs.size) (aW _ (by simp)) A0 ⟨o',pA⟩ (cn.nF ok jX) (ok.ki jX) hnF
   (λv ⟨o,ho,hd⟩=>by rw [Rz]at ho;injection ho with ho;subst ho;cases hd)
  have hS:(s.heap.objs.size==sysModules)=false:=by
   obtain ⟨o,ho⟩:=cn.top.Y'
   have:=kT (ok.base _ o ho)
   rw [jS]
   exact λq=>Nat.lt_irrefl _ (q▸this)
  have hnX:s.heap.objs.size∉k.own++(μ++ν):=by
   have nd:=bt.nodup
   change (([s.heap.objs.size]++k.own)++(μ++ν)).Nodup at nd
   rw [aX,rk]at nd
   exact (gP.mp nd).1
  have i1:eU h1 h' ((k.dh [s.heap.objs.size]).own++(μ++ν)) (k.own++(μ++ν)):=⟨λb o eb hb O=>(A0.2 b λq=>hb (q▸aW _ (aW _ (by simp)))).trans eb,λb o eb hb hm=>hb (by
   show b∈([s.heap.objs.size]++k.own)++(μ++ν)
   rw [aX];exact bl _ hm)⟩
  refine ⟨.eO l,σ1,ν,h',_,hr,rfl,fO.tz ok.dM,?_,λa ha=>(Rx.wA).jV (dG a ha), .eO qm hnX hS (hr1.into i1 (.refl _))⟩
  have exA:b7 μ k.F s.heap h1:=(b7.of_keep Rx).trans dF λa ha=> .inl ha
  exact exA.trans (b7.sameBut (X:=[s.heap.objs.size]) A0 pA (by simp)) λa ha=> .inr (by refine ae (bK.mp ha) ?_;exact jX)
 ·obtain ⟨m,h',tk,h1,h2,h3,h4⟩:=(g.tz).bind (f:=MF ks)
  exact ⟨m,h',tk,h1,h2,(b7.of_keep Rx).trans h3 λa ha=> .inl ha,h4.low Rx.wA⟩
end
variable {qs VO:↑(Str×Str)}
section
variable {w:World} {E: ~~~0} {s:Shared}
noncomputable abbrev sk (prog:Program) (w:World):=PySem.strKind prog w
theorem A9 {d:Addr} {k:Str} {key v:Value} {Q:Unit→Shared→Prop} (DO:(sk prog w).is k key=true) (hm:s.heap.DictOf (sk prog w) d bP)
  (hQ:∀h',h'.DictOf (sk prog w) d (stored bP k v)→Heap.SameBut d s.heap h'→Q () {s with heap:=h'})
  (hsz:bP.length≤sizeLine):
  wpAny (model prog w) A (dictPut d ((sk prog w).hash k) key v) Q E s:=by
 obtain ⟨o,es,ep,ho,hc,hd,hk,hp,hn⟩:=hm
 have hes:es.size≤sizeLine:=by
  have e1:=hp.length
  have e2:es.toList.length=es.size:=by simp
  exact fY (eG e2) (eL e1) hsz
 refine aj (wpAny_dictFind_of DO ho hd hk ?_)
 have tu:(es.findIdx? λe=>(sk prog w).is k e.key)=bP.findIdx? λkv=>decide (kv.1=k):=by
  refine dg (hp.findIdx k) ?_;obtain ⟨l⟩:=es;simp
 cases hi:es.findIdx? λe=>(sk prog w).is k e.key with
 |some i=>
  refine wpAny_updateDict ho hd (hQ _ ⟨_,_,ep,oj _ ho (Obj.isFreed_of_dict (Obj.data_mapDict hd _)),
   hc.mapDict _,Obj.data_mapDict hd _,hk.modify _ _,?_,?_⟩ (Heap.SameBut.update ..))
  ·rw [stored];refine ae (ao (any_of_findIdx_some (tu▸hi))) ?_
   have hl:(es.toList.findIdx? λe=>(sk prog w).is k e.key)=some i:=by refine dg hi ?_;obtain ⟨l⟩:=es;simp
   have:=hp.modify hn hl v
   obtain ⟨l⟩:=es
   simpa using this
  ·rw [stored,ao (any_of_findIdx_some (tu▸hi)),keys_map_store];exact hn
 |none=>
  have XQ:k∉bP.map (·.1):=not_mem_of_findIdx_none (tu▸hi)
  have XR:¬(bP.any λkv=>decide (kv.1=k))=true:=by
   rw [List.any_eq_true];rintro ⟨kv,Oz,he⟩
   exact XQ (fq.mpr ⟨kv,Oz,gf he⟩)
  refine wpAny_updateDictKeys (hz:=hes) ho hd (hQ _ ⟨_,_,ep+1,oj _ ho (Obj.isFreed_of_dict (Obj.data_mapDictKeys hd _)),
   hc.mapDictKeys _,Obj.data_mapDictKeys hd _,hk.push DO _,?_,?_⟩ (Heap.SameBut.update ..))
  ·rw [stored,aN XR]
   have:=hp.append DO ((sk prog w).hash k) v
   obtain ⟨l⟩:=es
   simpa using this
  ·rw [stored,aN XR,fK,fm]
   refine ⟨hn,by simp,?_⟩
   intro a ha b hb
   simp only [ef,List.map_nil,bK]at hb
   subst hb
   exact λe=>XQ (e▸ha)
theorem RB {x:Nat} {l:↑Nat} (h:x::l=List.range' i (n -i)):i=x∧i<n∧l=List.range' (i+1) (n -(i+1)):=by
 rcases oO i n with q|q
 ·rw [Qu q,pF]at h
  exact ⟨(jq h).1.symm,q,(jq h).2⟩
 ·rw [Nat.sub_eq_zero_of_le q]at h
  exact nomatch h
theorem RE (h:[]=List.range' i (n -i)) (hi:i≤n):i=n:=by
 rcases oO i n with q|q
 ·rw [Qu q]at h
  exact nomatch h
 ·exact Nat.le_antisymm hi q
theorem RF {es:Array DictEntry} (h0:bP≠[]) (h:es.toList.length=bP.length):¬es.isEmpty=true:=λq=>h0 (xW.mp (h.symm.trans (by refine ae (Array.isEmpty_iff.mp q) ?_;rfl)))
inductive XS (prog:Program) (w:World) (d o:Addr) (bP more:↑(Str×Value)) (oo:Obj) (n:Nat) (s:Shared) (rest:↑Nat) (b:Unit) (s':Shared):Prop
 |mk (h':Heap) (i:Nat):s'={s with heap:=h'}→rest=List.range' i (n -i)→i≤n→h'.DictOf (sk prog w) d (merged bP (more.take i))→h'.get? o=some oo→Heap.SameBut d s.heap h'→XS prog w d o bP more oo n s rest b s'
theorem OA {d o:Addr} {more:↑(Str×Value)} {Q:Unit→Shared→Prop} (hdo:d≠o) (hoS:(o==sysModules)=false) (h0:bP≠[])
  (hd:s.heap.DictOf (sk prog w) d bP) (ho:s.heap.DictOf (sk prog w) o more)
  (hQ:∀h',h'.DictOf (sk prog w) d (merged bP more)→Heap.SameBut d s.heap h'→Q () {s with heap:=h'})
  (hsz:bP.length+more.length≤sizeLine):
  wpAny (model prog w) A (mergeMapping d (.ref o) false) Q E s:=by
 obtain ⟨od,esd,epd,qt,Fg,qu,hkd,hpd,kZ⟩:=id hd
 obtain ⟨oo,VP,epo,RG,Zc,MG,hko,hpo,hno⟩:=id ho
 have cb:more.length=VP.size:=by rw [←hpo.length];simp
 refine aj (wpAny_isInstance ho.typeIs isSubtype_dict_dict ?_)
 rw [ao H]
 refine aj (wpAny_specialOf ho.typeIs PySem.F.slot_dict_iter.lookup ?_)
 rw [(by simp:(some (Value.builtin "dict.__iter__")==some (Value.builtin "dict.__iter__"))=true)]
 refine aj (aB ?_)
 dsimp only
 rw [aN (by rw [hoS];exact gA)]
 refine aj (wpAny_dictEntries qt qu ?_)
 rw [aN (RF h0 hpd.length)]
 refine aj (wpAny_dictEntries RG MG ?_)
 refine aj (wpAny_dictEpoch RG MG ?_)
 refine aj ?_
 rw [List.range_eq_range']
 refine wpAny_forIn_list _
   (XS prog w d o bP more oo VP.size s)
   _ ?_ ?_ _ _ ⟨s.heap,0,rfl,by simp,dK _,by simpa [merged]using hd,RG,Heap.SameBut.refl _ _⟩
 ·rintro x rest b s' ⟨h',i,rfl,hr,hi,qm,RH,A0⟩
  obtain ⟨q,ke,tA⟩:=RB hr
  clear hr
  subst q
  refine aj (wpAny_dictEntries RH MG ?_)
  rw [Array.getElem?_eq_getElem ke]
  obtain ⟨⟨k,v⟩,Oz⟩:∃kv,more[i]?=some kv:=⟨_,fE (cb▸ke)⟩
  obtain ⟨DO,MH⟩:=hpo.get? (e:=VP[i]) (by simp [ke]) Oz
  obtain ⟨k',Zd,Ze⟩:=hko VP[i] (Array.getElem_mem ke)
  obtain rfl:k'=k:=(sk prog w).inj _ _ _ Zd DO
  dsimp only
  rw [aN gA,Ze];refine ae MH ?_
  have hmx:(merged bP (more.take i)).length≤sizeLine:=by
   have e1:=merged_length_le bP (more.take i)
   have e2:(more.take i).length≤more.length:=List.length_take_le' ..
   exact fY e1 hsz e2
  refine aj (dA (A9 DO qm (λgC MI MJ=>?_) hmx))
  have RI:gC.get? o=some oo:=(MJ.2 o (Ne.symm hdo)).trans RH
  refine aj (wpAny_dictEpoch RI MG ?_)
  rw [aN (by simp)]
  exact aB ⟨gC,i+1,rfl,tA,ke,by rw [merged_take_succ bP more i (k',v) Oz];exact MI,RI,A0.trans MJ⟩
 ·rintro b s' ⟨h',i,rfl,hr,hi,qm,RH,A0⟩
  have qR:=RE hr hi
  refine aB (hQ h' ?_ A0)
  rw [qR,←cb,List.take_length]at qm;exact qm
abbrev RJ (prog:Program) (w:World) (A:Around) (p:Sem Value×Sem Value) (q:Str×Str):Prop:=
 (∀(E: ~~~0) (Q: ~~~0) (s:Shared),(∀t tk,Q (.str q.1 t) {s with toks:=tk})→wpAny (model prog w) A p.1 Q E s)∧
 (∀(E: ~~~0) (Q: ~~~0) (s:Shared),(∀t tk,Q (.str q.2 t) {s with toks:=tk})→wpAny (model prog w) A p.2 Q E s)
inductive lJ (prog:Program) (w:World) (A:Around):↑(Sem Value×Sem Value)→↑(Str×Str)→Prop
 |nil:lJ prog w A [] []
 |cons {p q ps qs}:RJ prog w A p q→lJ prog w A ps qs→lJ prog w A (p::ps) (q::qs)
theorem lJ.length {ps:↑(Sem Value×Sem Value)} (h:lJ prog w A ps qs):ps.length=qs.length:=by
 induction h with
 |nil=>rfl
 |cons _ _ ih=>simp [ih]
theorem lJ.append {ps HB:↑(Sem Value×Sem Value)} (h:lJ prog w A ps qs) (h':lJ prog w A HB VO):lJ prog w A (ps++HB) (qs++VO):=by
 induction h with
 |nil=>exact h'
 |cons a _ ih=>exact .cons a ih
inductive gn:↑(Str×Value)→↑(Str×Str)→Prop
 |nil:gn [] []
 |cons {k v t bP qs}:gn bP qs→gn ((k, .str v t)::bP) ((k,v)::qs)
theorem gn.f0 (h:gn bP qs):bP.map (·.1)=qs.map (·.1):=by
 induction h with
 |nil=>rfl
 |cons _ ih=>simp [ih]
theorem gn.append {HC:↑(Str×Value)} (h:gn bP qs) (h':gn HC VO):gn (bP++HC) (qs++VO):=by
 induction h with
 |nil=>exact h'
 |cons _ ih=>exact .cons ih
theorem gn.length (h:gn bP qs):bP.length=qs.length:=by
 have:=aC List.length h.f0
 simpa using this
theorem zN {ps:↑(Sem Value×Sem Value)} (h:lJ prog w A ps qs):∀{s:Shared} {Q:↑(Value×Value)→Shared→Prop},
  (∀vs bP tk,Carries (sk prog w) vs bP→gn bP qs→Q vs {s with toks:=tk})→wpAny (model prog w) A (evalPairs ps) Q E s:=by
 induction h with
 |nil=>intro s Q hq;exact evalPairs_nil (hq [] [] s.toks trivial .nil)
 |@cons p q ps qs a _ ih=>
  intro s Q hq
  obtain ⟨pk,pv⟩:=p
  refine evalPairs_cons (a.1 _ _ _ λt tk=>a.2 _ _ _ λt' hJ=>ih λvs bP A' hc hl=>?_)
  exact hq _ ((q.1, .str q.2 t')::bP) A' ⟨strKind_is _ _ _ _,rfl,hc⟩ (.cons hl)
theorem wO:(h.push {cls:= .type "dict",data:= .dict #[]}).DictOf (sk prog w) h.objs.size []:=Heap.DictOf.new h
theorem uR {ps:↑(Sem Value×Sem Value)} (h:lJ prog w A ps qs) (hn:(qs.map (·.1)).Nodup) (hz:qs.length≤17) {s:Shared} {Q:Addr→Shared→Prop}
  (hQ:∀h' bP tk,h'.DictOf (sk prog w) s.heap.objs.size bP→gn bP qs→dJ s.heap h'→Q s.heap.objs.size {s with heap:=h',toks:=tk}):wpAny (model prog w) A (subDict ps) Q E s:=by
 have cb:=h.length
 have MK:∀{h1 h':Heap},dJ (s.heap.push {cls:= .type "dict",data:= .dict #[]}) h1→Heap.SameBut s.heap.objs.size h1 h'→dJ s.heap h':=λk1 hs b o e=>by
  have hb:b≠s.heap.objs.size:=λq=>by rw [q]at e;exact (cN.size s.heap).not e
  refine ae (hs.2 b hb) ?_
  exact k1 _ _ (lv _ e)
 by_cases VM:ps.length≤15
 ·refine PySem.wpAny_subDict (knd:=sk prog w) VM (zN h λvs bP tk hc hl=>⟨bP,hc,wO,λh' hd hs=>?_⟩)
  rw [merged_nil_of_nodup bP (by rw [hl.f0];exact hn)]at hd
  exact hQ h' bP _ hd hl (MK (.refl _) hs)
 ·unfold subDict
  refine aj (wpAny_alloc ?_)
  refine aj (dA ?_)
  rw [aN VM]
  refine aj (wpAny_rule ?_)
  have cW:∀(ps:↑(Sem Value×Sem Value)) (qs done:↑(Str×Str)) (acc:↑(Str×Value)) (s1:Shared) (Q1:PUnit→Shared→Prop),lJ prog w A ps qs→gn acc done→((done++qs).map (·.1)).Nodup→(done++qs).length≤17→
    s1.heap.DictOf (sk prog w) s.heap.objs.size acc→(∀h' bP tk,h'.DictOf (sk prog w) s.heap.objs.size bP→gn bP (done++qs)→Heap.SameBut s.heap.objs.size s1.heap h'→Q1 PUnit.unit {s1 with heap:=h',toks:=tk})→
    wpAny (model prog w) A (forIn ps PUnit.unit λ(x:Sem Value×Sem Value) (_:PUnit)=>(do let kv←x.1;let vv←holding [kv] x.2;holding [kv,vv] (dictSet s.heap.objs.size kv vv);pure (ForInStep.yield PUnit.unit):Sem (ForInStep PUnit))) Q1 E s1:=by
   intro ps
   induction ps with
   |nil=>
    intro qs done acc s1 Q1 hl hd hn hz hm hq
    cases hl
    rw [List.forIn_nil]
    exact aB (hq s1.heap acc s1.toks hm (by simpa using hd) (Heap.SameBut.refl _ _))
   |cons p ps ih=>
    intro qs done acc s1 Q1 hl hd hn hz hm hq
    cases hl with
    |@cons _ q _ qs a hl=>
     rw [List.forIn_cons]
     have mc:acc.length≤sizeLine:=by
      refine ae hd.length ?_;rw [sizeLine_eq]
      simp only [cg,gO]at hz
      exact av hz
     refine aj (aj (a.1 _ _ _ λt tk=>aj (dA (a.2 _ _ _ λt' hJ=>aj (dA (wpAny_dictSet_pairs (knd:=sk prog w) (k:=q.1) (hsz:=mc) (strKind_is _ _ _ _) hm λh1 HD CK=>aB ?_))))))
     have Rt:stored acc q.1 (Value.str q.2 t')=acc++[(q.1,Value.str q.2 t')]:=by
      unfold stored
      rw [aN]
      rw [List.any_eq_true]
      rintro ⟨kv,Oz,he⟩
      have oY:q.1∈done.map (·.1):=by
       refine dg hd.f0 ?_
       exact fq.mpr ⟨kv,Oz,gf he⟩
      rw [fK,fm]at hn
      exact hn.2.2 _ oY _ (by simp) H
     rw [Rt]at HD
     refine ih qs (done++[q]) (acc++[(q.1,Value.str q.2 t')]) _ Q1 hl (hd.append (.cons .nil)) (by simpa using hn) (by simpa using hz) HD λh' bP A' qm CL A0=>?_
     exact hq h' bP A' qm (by simpa using CL) (CK.trans A0)
  refine aj (cW ps qs [] [] {s with heap:=s.heap.push {cls:= .type "dict",data:= .dict #[]}} _ h .nil (by simpa using hn) (by simpa using hz) wO λh' bP tk hd hl hs=>aB ?_)
  exact aB (hQ h' bP tk hd (by simpa using hl) (MK (.refl _) hs))
inductive wP (prog:Program) (w:World) (h0:Heap) (main:Option Addr) (h:Heap) (done:↑(Str×Str)):Prop
 |n:main=none→done=[]→wP prog w h0 main h done
 |s (d:Addr) (bP:↑(Str×Value)):main=some d→done≠[]→h.DictOf (sk prog w) d bP→gn bP done→cN h0 d→dJ h0 h→wP prog w h0 main h done
inductive XT (prog:Program) (w:World) (A:Around) (qs:↑(Str×Str)) (s:Shared) (aZ:↑(Option (Sem Value)×Sem Value)) (b:Option Addr×↑(Sem Value×Sem Value)) (s':Shared):Prop
 |mk (done mA Fh:↑(Str×Str)) (Fi:↑(Sem Value×Sem Value)) (h':Heap) (tk:Nat):s'={s with heap:=h',toks:=tk}→aZ=Fi.map (λp=>(some p.1,p.2))→lJ prog w A Fi Fh→lJ prog w A b.2 mA→mA.length<17→qs=done++mA++Fh→dJ s.heap h'→wP prog w s.heap b.1 h' done→XT prog w A qs s aZ b s'
theorem CM {ps:↑(Sem Value×Sem Value)} (h:lJ prog w A ps qs) (hn:(qs.map (·.1)).Nodup) (h0:qs≠[]) (dy:qs.length≤1000) (hS:∀d,cN s.heap d→(d==sysModules)=false)
  (hQ:∀d h' bP tk,cN s.heap d→h'.DictOf (sk prog w) d bP→gn bP qs→dJ s.heap h'→Q (.ref d) {s with heap:=h',toks:=tk}):wpAny (model prog w) A (dictDisplay (ps.map λp=>(some p.1,p.2))) Q E s:=by
 unfold dictDisplay
 extract_lets JY
 have hf:∀(run:↑(Sem Value×Sem Value)) (mA done rest:↑(Str×Str)) (main:Option Addr) (s1:Shared) (Q1:Option Addr→Shared→Prop),lJ prog w A run mA→mA.length≤17→qs=done++mA++rest→dJ s.heap s1.heap→wP prog w s.heap main s1.heap done→
   (∀m h' tk,dJ s.heap h'→wP prog w s.heap m h' (done++mA)→Q1 m {s1 with heap:=h',toks:=tk})→wpAny (model prog w) A (JY run main) Q1 E s1:=by
  intro run mA done rest main s1 Q1 hl hz hq kp hm Zf
  simp only [JY]
  induction hl using lJ.casesOn with
  |nil=>
   refine ae (ao (by simp)) ?_
   exact aB (Zf main s1.heap s1.toks kp (by simpa using hm))
  |@cons p q abV Zg a CL=>
   refine ae (aN (by simp)) ?_
   have hl:=lJ.cons a CL
   have kZ:((q::Zg).map (·.1)).Nodup:=by
    rw [hq,fK,fK]at hn
    exact (fm.mp (fm.mp hn).1).2.1
   rcases hm with⟨rfl,rfl⟩|⟨d,bP,rfl,RA,hd,hv,jX,_⟩
   ·refine aj (uR hl kZ hz λh' bP tk hd hv rO=>aB (Zf _ h' tk (kp.trans rO) (.s _ bP H (by simp) hd (by simpa using hv) ?_ (kp.trans rO))))
    exact (kp.wA).jV (.size _)
   ·refine aj (dA (uR hl kZ hz λh' HC tk qm JZ rO=>?_))
    have qu:h'.DictOf (sk prog w) d bP:=hd.keep rO
    have gd:d≠s1.heap.objs.size:=λe=>by
     obtain ⟨o,_,_,ho,_⟩:=hd
     exact (cN.size s1.heap).not (e▸ho)
    refine aj (wpAny_onRaise (dA (OA gd (hS _ ((kp.wA).jV (.size _))) (λq=>RA (by have:=hv.length;rw [q]at this;exact xW.mp this.symm)) qu qm (λgC MI MJ=>aB ?_) ?_)))
    ·have Ba:((bP++HC).map (·.1)).Nodup:=by
      refine ae fK (ae hv.f0 (ae JZ.f0 (dg fK ?_)))
      rw [hq,fK]at hn
      exact (fm.mp hn).1
     rw [merged_append_of_fresh bP HC Ba]at MI
     have kp2:dJ s.heap gC:=λb o e=>by
      have hb:b≠d:=λq=>by rw [q]at e;exact jX.not e
      refine ae (MJ.2 b hb) ?_
      exact rO _ _ (kp _ _ e)
     exact Zf _ gC tk kp2 (.s d _ rfl (by simp [RA]) MI (hv.append JZ) jX kp2)
    ·refine ae hv.length (ae JZ.length (ae sizeLine_eq ?_))
     have:=aC List.length hq
     simp only [cg]at this
     exact aS (eG this) dy
 clear_value JY
 refine aj (wpAny_forIn_list _ (XT prog w A qs s) _ ?_ ?_ _ _ ⟨[],[],qs,ps,s.heap,s.toks,H,H,h, .nil,by simp,by simp, .refl _, .n H rfl⟩)
 ·rintro x aZ ⟨main,run⟩ s' ⟨done,mA,Fh,Fi,h',tk,rfl,hi,hr,hl,hz,hq,kp,hm⟩
  induction hr with
  |nil=>cases hi
  |@cons p q ML Fj a hr=>
   rw [ef]at hi
   injection hi with hx hi
   subst hx
   have rP:lJ prog w A (run++[p]) (mA++[q]):=hl.append (.cons a .nil)
   have cb:(run++[p]).length=mA.length+1:=by refine ae rP.length ?_;simp
   dsimp only
   by_cases Zh:((run++[(p.1,p.2)]).length==17)=true
   ·refine ae (ao Zh) ?_
    refine aj (hf _ (mA++[q]) done Fj main _ _ rP (by simp;exact av hz) (by refine ae hq ?_;simp) kp hm λm gC A' rO CG=>aB ?_)
    exact ⟨done++(mA++[q]),[],Fj,ML,gC,A',rfl,hi,hr, .nil,by simp,by refine ae hq ?_;simp,rO,CG⟩
   ·refine ae (aN Zh) ?_
    refine aB ⟨done,mA++[q],Fj,ML,h',tk,rfl,hi,hr,rP,?_,by refine ae hq ?_;simp,kp,hm⟩
    have:¬(mA.length+1=17):=by
     intro e
     apply Zh
     refine ae (show(p.1,p.2)=p from rfl) (ae cb (ae e ?_))
     rfl
    simp;lia
 ·rintro ⟨main,run⟩ s' ⟨done,mA,Fh,Fi,h',tk,rfl,hi,hr,hl,hz,hq,kp,hm⟩
  induction hr with
  |cons a hr=>cases hi
  |nil=>
   refine aj (hf _ mA done [] main _ _ hl (av hz) hq kp hm λm gC A' rO CG=>?_)
   rcases CG with⟨rfl,he⟩|⟨d,bP,rfl,RA,hd,hv,jX,_⟩
   ·exact al (by refine ae hq ?_;simpa using he) h0
   ·refine aB (hQ d gC bP A' jX hd ?_ rO)
    refine ae hq ?_;simpa using hv
end
section
variable {ag:F→cw}
inductive pS:↑Expr→↑Str→Es→Prop
 |nil:pS [] [] .nil
 |cons {v:Str} {vk:Nat} {vp:Pos} {r:↑Expr} {vs:↑Str} {xs:Es} (h:pS r vs xs):pS (.Constant (.str v) vk vp::r) (v::vs) (.cons ⇑v xs)
theorem zo {vs:↑Str} (h:pS vals vs xs):vals.length=vs.length:=by
 induction h with
 |nil=>rfl
 |cons _ ih=>exact aC (·+1) ih
theorem J0 {vs:↑Str} (h:pS vals vs xs):i3 K xs ρ σ= .ok (vs.map λv=> .d (.str v),σ):=by
 induction h with
 |nil=>rfl
 |@cons v _ _ _ _ xs _ ih=>
  show(i3 K xs ρ σ).bind (λq=> .ok (V.d (.str v)::q.1,q.2))=_
  refine ae ih ?_;rfl
theorem zq:∀(ks vs:↑Str),ks.length=vs.length→ta ks (vs.map λv=> .d (.str v))= .ok ((ks.zip vs).map λp=>(p.1, .d (.str p.2)))
 |[],[],_=>rfl
 |k::ks,v::vs,h=>by
  show(ta ks (vs.map λv=>V.d (.str v))).bind (λl=>R.ok ((k,At.d (.str v))::l))=_
  refine ae (zq ks vs (by simpa using h)) ?_;rfl
theorem HE {w:World} {f0:↑(Option Expr)} {ks:↑Str} (hk:pR f0 ks):∀{vals:↑Expr} {vs:↑Str} {xs:Es},pS vals vs xs→ks.length=vs.length→lJ prog w A (pairTrees f0 vals env pos) (ks.zip vs):=by
 induction hk with
 |nil=>
  intro vals vs xs hv h
  induction hv with
  |nil=>exact .nil
  |cons _=>cases h
 |@cons k kk kp f0 ks _ ih=>
  intro vals vs xs hv h
  induction hv with
  |nil=>cases h
  |@cons v vk vp vals vs xs hv=>
   refine .cons (p:=(eval (.Constant (.str k) kk kp) env,do let x←eval (.Constant (.str v) vk vp) env;standAt pos;pure x)) ⟨λE Q s hq=>wpAny_Constant_str (env:=env) (k:=kk) (pos:=kp) (hq _ _),λE Q s hq=>?_⟩ (ih hv (ug h))
   exact aj (wpAny_Constant_str (env:=env) (k:=vk) (pos:=vp) (aj (fL (aB (hq _ _)))))
theorem J1 (r:gn bP qs):hW h X μ bP (qs.map λp=>(p.1, .d (.str p.2))):=by
 induction r with
 |nil=>exact .nil
 |cons _ ih=>exact .cons (.d (.str _ _)) ih
theorem OB {f0:↑(Option Expr)} {ks:↑Str} {vs:↑Str} (hk:pR f0 ks) (hn:ks.Nodup) (h0:ks≠[]) (dy:ks.length≤1000) (hv:pS vals vs xs) (hl:ks.length=vs.length):
  bC ag K n c (.Dict f0 vals p) (.eO ks xs):=by
 intro k μ σ ρ s cn cx ok e
 have hr:=(R.cf (f:=MF ks) (J0 (K:=K) (ρ:=ρ) (σ:=σ) hv)).trans (R.cf (zq ks vs hl))
 obtain ⟨kg,cb⟩:=wN hk
 rw [arm_eval_Dict,zip_pairTrees f0 vals k.env p kg (by rw [cb,hl,zo hv])]
 have hz:(ks.zip vs).map (·.1)=ks:=by rw [List.map_fst_zip (av (eL hl))]
 have hS:∀d,cN s.heap d→(d==sysModules)=false:=λd hd=>by
  obtain ⟨o,ho⟩:=cn.top.Y'
  rw [jS]
  exact λq=>hd.not (q▸ok.base _ o ho)
 refine aj (fL (CM (HE hk hv hl) (by rw [hz];exact hn) (λq=>h0 (by rw [←hz];refine ae q ?_;rfl)) (by rw [List.length_zip];lia) hS λd h' bP tk jX hd hlv kp=>?_))
 exact PG.of_keep ok kp hr (.eO hd (ok.fresh jX) (hS d jX) (J1 hlv))
end
abbrev rQ (wr:↑Addr) (h h':Heap):Prop:=∀b o,b∉wr→h.get? b=some o→h'.get? b=some o
variable {wr:↑Addr}
theorem rQ.refl:rQ wr h h:=λO O O e=>e
theorem rQ.trans (x:rQ wr h h') (y:rQ wr h' gC):rQ wr h gC:=λb o hb e=>y b o hb (x b o hb e)
theorem rQ.into (x:rQ wr h h') (hw:∀a∈wr,a∈X):eU h h' X X:=⟨λb o e hb O=>x b o (λq=>hb (hw b q)) e,λO O O hb=>hb⟩
theorem Ok.chg (x:Ok k μ σ ρ h) (hs:rQ as h h') (ha:∀a∈as,a∈k.own) (ho:∀a∈as,∃o,h'.get? a=some o) (hw:∀a∈as,a∉k.wr) (hl:k.env.locals∉as) (hf:∀a∈as,a∉k.F) (hc:∀a∈as,∀v,¬h.IsCell a v):Ok k μ σ ρ h':=by
 have hX:∀a∈as,a∈k.own++μ:=λa h=>aW _ (ha a h)
 have i:eU h h' (k.own++μ) (k.own++μ):=hs.into hX
 exact {
  base:=λb o e=>hs b o (λq=>(x.low b (hX b q)).1.not e) (x.base b o e)
  frames:=by
   have:∀{l:↑Env},(∀b∈l.filterMap (·.frame),b∉as)→h.FunFrames k.B l→h'.FunFrames k.B l:=by
    intro l
    induction l with
    |nil=>intro _ _;trivial
    |cons env rest ih=>
     intro hb f
     obtain ⟨hk,⟨L,o,wQ,hn,pA,hd⟩,hr⟩:=f
     rw [lU,wQ]at hb
     exact ⟨hk,⟨L,o,wQ,hn,hs L o (hb L bZ) pA,hd⟩,ih (λb hm=>hb b (bY _ hm)) hr⟩
   exact this (λb hb q=>hf b q hb) x.frames
  dM:=x.dM
  low:=λb hb=>by
   obtain ⟨n,o,e⟩:=x.low b hb
   refine ⟨n,?_⟩
   by_cases q:b∈as
   ·exact ho b q
   ·exact ⟨o,hs b o q e⟩
  nodup:=x.nodup
  cells:=x.cells.into i (.refl _) λb hb o e=>hs b o (λq=>x.fy (ha b q) hb) e
  env:=x.env.into i (.refl _) (λm hm=>hm.at' λo e=>hs _ o hl e) λy c v CL hv=>by
   have Ru:c∉as:=λq=>hc c q v hv
   obtain ⟨o,pA,hd⟩:=hv
   exact ⟨o,hs c o Ru pA,hd⟩}
theorem Ok.done (x:Ok (k.dh as) μ σ ρ h) (hF:Mr k.F k.own) (hs:rQ as h h') (hl:k.env.locals∉as) (hf:∀a∈as,a∉k.F) (hc:∀a∈as,∀v,¬h.IsCell a v):Ok k μ σ ρ h':=by
 have sub:∀a∈k.own++μ,a∈(as++k.own)++μ:=λa ha=>by
  rw [aX];exact bl _ ha
 have Bb:∀a∈k.own++μ,a∉as:=λa ha q=>by
  have nd:=x.nodup
  change ((as++k.own)++μ).Nodup at nd
  rw [aX]at nd
  exact (fm.mp nd).2.2 a q a ha H
 have i:eU h h' ((as++k.own)++μ) (k.own++μ):=⟨λb o e hb O=>hs b o (λq=>hb (by rw [aX];exact aW _ q)) e,λb o O hb hm=>hb (sub b hm)⟩
 exact {
  base:=λb o e=>hs b o (λq=>(x.low b (aW _ (aW _ q))).1.not e) (x.base b o e)
  frames:=by
   have:∀{l:↑Env},(∀b∈l.filterMap (·.frame),b∉as)→h.FunFrames k.B l→h'.FunFrames k.B l:=by
    intro l
    induction l with
    |nil=>intro _ _;trivial
    |cons env rest ih=>
     intro hb f
     obtain ⟨hk,⟨L,o,wQ,hn,pA,hd⟩,hr⟩:=f
     rw [lU,wQ]at hb
     exact ⟨hk,⟨L,o,wQ,hn,hs L o (hb L bZ) pA,hd⟩,ih (λb hm=>hb b (bY _ hm)) hr⟩
   exact this (λb hb q=>hf b q hb) x.frames
  dM:=hF
  low:=λb hb=>by
   obtain ⟨n,o,e⟩:=x.low b (sub b hb)
   exact ⟨n,o,hs b o (Bb b hb) e⟩
  nodup:=by
   have:=x.nodup
   change ((as++k.own)++μ).Nodup at this
   rw [aX]at this
   exact (fm.mp this).2.1
  cells:=x.cells.into i (.refl _) λb hb o e=>hs b o (Bb b (bl _ hb)) e
  env:=by
   have:=x.env.into i (.refl _) (λm hm=>hm.at' λo e=>hs _ o hl e) λy c v CL hv=>by
    have Ru:c∉as:=λq=>hc c q v hv
    obtain ⟨o,pA,hd⟩:=hv
    exact (⟨o,hs c o Ru pA,hd⟩:h'.IsCell c v)
   exact ⟨this.ns,this.cell,this.len⟩}
structure wR (prog:Program) (w:World) (A:Around) (I:Addr) (tg:Expr→Prop) (fp wr:↑Addr) (aZ:↑D) (St:Nat→Heap→Prop) (mx:Nat→Value→Heap→Prop) (gM:Heap→↑Addr→Prop):Prop where
 sub:∀b∈wr,b∈fp
 frame:∀i h h',St i h→(∀b∈fp,∀o,h.get? b=some o→h'.get? b=some o)→St i h'
 tC:∀h h' X X',gM h X→eU h h' X X'→gM h' X'
 yn:∀i h,St i h→∀b∈wr,∃o,h.get? b=some o∧∀v,o.data≠ .cell v
 MM:∀i v h,mx i v h→∀b∈wr,∃o,h.get? b=some o∧∀v,o.data≠ .cell v
 item:∀i x (s:Shared) X (Q:Option Value→Shared→Prop) (E: ~~~0),aZ[i]?=some x→St i s.heap→gM s.heap X→(∀a∈wr,a∈X)→(∀a,cN s.heap a→a∉X)→
  (∀v h' tk,RD h' X v x→mx i v h'→rQ wr s.heap h'→Q (some v) {s with heap:=h',toks:=tk})→wpAny (model prog w) A (pyNext (.ref I)) Q E s
 own:∀i v (s:Shared) (target:Expr) (Q:Unit→Shared→Prop) (E: ~~~0),tg target→mx i v s.heap→(∀h',rQ wr s.heap h'→St (i+1) h'→Q () {s with heap:=h'})→
  wpAny (model prog w) A (letOwnedTupleGo target (.ref I) v) Q E s
 done:∀(s:Shared) (Q:Option Value→Shared→Prop) (E: ~~~0),St aZ.length s.heap→(∀h' tk,rQ wr s.heap h'→Q none {s with heap:=h',toks:=tk})→wpAny (model prog w) A (pyNext (.ref I)) Q E s
variable {I:Addr}
theorem uS {w:World} {s:Shared} {el:↑Expr} {k:Nat} {v:Value} {T:String} {Q:Unit→Shared→Prop} {E: ~~~0} (ho:s.heap.get? I=some o) (og:o.cls= .type T)
  (hT:(["enumerate","zip","dict_itemiterator","dict_reverseitemiterator","odict_iterator","itertools.zip_longest","itertools.pairwise"].contains T)=false) (hq:Q () s):wpAny (model prog w) A (letOwnedTupleGo (.Tuple el k p) (.ref I) v) Q E s:=by
 induction v using Value.casesOn with
 |ref a=>
  refine aj (wpAny_load ho ?_)
  refine ae og ?_
  generalize o.data=d
  induction d using Data.casesOn with
  |fields vs=>exact wpE (aN (by rw [hT];exact gA)) (aB hq)
  |_=>exact aB hq
 |_=>exact aB hq
variable {target:Expr}
theorem CN {w:World} {s:Shared} {v:Value} {T:String} {Q:Unit→Shared→Prop} {E: ~~~0} (ho:s.heap.get? I=some o) (og:o.cls= .type T)
  (hT:(["enumerate","zip","dict_itemiterator","dict_reverseitemiterator","odict_iterator","itertools.zip_longest","itertools.pairwise"].contains T)=false) (hq:Q () s):wpAny (model prog w) A (letOwnedTupleGo target (.ref I) v) Q E s:=by
 induction target using ng with
 |Tuple el k p=>exact uS ho og hT hq
 |List el p=>exact uS (el:=el) (k:=0) (p:=p) ho og hT hq
 |_=>exact aB hq
variable {fp:↑Addr} {aZ:↑D}
theorem wR.DP {w:World} {P:Nat→Value→Prop} {St:Nat→Heap→Prop} (W:Walks prog w A I fp [I] aZ.length P St)
  (hc:∀i h,St i h→g9 λo T=>CD (h.get? I=some o) (o.cls= .type T) ((["enumerate","zip","dict_itemiterator","dict_reverseitemiterator","odict_iterator","itertools.zip_longest","itertools.pairwise"].contains T)=false) (∀v,o.data≠ .cell v)):
  wR prog w A I (λO=>True) fp [I] aZ St (λi O h=>St (i+1) h) (λh X=>∀i v x,P i v→aZ[i]?=some x→RD h X v x) where
 sub:=W.sub
 frame:=W.frame
 tC h h' X X' f i j v x hp hx:=(f j v x hp hx).into i
 yn i h st b hb:=by
  refine ae (bK.mp hb) ?_
  obtain ⟨o,T,ho,_,_,hd⟩:=hc i h st
  exact ⟨o,ho,hd⟩
 MM i v h st b hb:=by
  refine ae (bK.mp hb) ?_
  obtain ⟨o,T,ho,_,_,hd⟩:=hc _ h st
  exact ⟨o,ho,hd⟩
 item i x s X Q E hx st f hw _ hq:=by
  refine W.item i s Q E (jo.mp hx).1 st λv h' tk hp st' hk=>?_
  have ch:rQ [I] s.heap h':=λb o hb e=>hk b o hb e
  exact hq v h' tk ((f i v x hp hx).into (ch.into hw)) st' ch
 own i v s target Q E _ st hq:=by
  obtain ⟨o,T,ho,og,hT,_⟩:=hc _ _ st
  have hq':=hq s.heap .refl st
  exact CN ho og hT hq'
 done s Q E st hq:=W.done s Q E st λh' tk hk=>hq h' tk λb o hb e=>hk b o hb e
structure RK (k:Kx) (μ:↑Addr) (h0:Heap) (tg:Expr→Prop) (l:↑D) (I:Addr) (as fp:↑Addr) (St:Nat→Heap→Prop) (mx:Nat→Value→Heap→Prop) (gM:Heap→↑Addr→Prop) (h':Heap):Prop where
 keep:dJ h0 h'
 new:∀a∈as,cN h0 a∧∃o,h'.get? a=some o∧∀v,o.data≠ .cell v
 nd:as.Nodup
 kI:wR k.prog k.w k.A I tg fp as l St mx gM
 st:St 0 h'
 tC:gM h' ((as++k.own)++μ)
 rR:∀b∈fp,b∉as→(∃o,h0.get? b=some o)∧b∉k.wr++μ∧b∉k.F
 self:∀(s:Shared) (Q: ~~~0) (E: ~~~0),St 0 s.heap→Q (.ref I) s→wpAny (model k.prog k.w) k.A (pyIter (.ref I)) Q E s
 Bb:∀b∈fp,b∉as→b∉k.own
inductive Drawn (k:Kx) (μ:↑Addr) (s:Shared) (tg:Expr→Prop) (l:↑D) (it:Value) (s':Shared):Prop
 |mk (I:Addr) (as fp:↑Addr) (St:Nat→Heap→Prop) (mx:Nat→Value→Heap→Prop) (gM:Heap→↑Addr→Prop) (h':Heap) (tk:Nat):it= .ref I→s'={s with heap:=h',toks:=tk}→RK k μ s.heap tg l I as fp St mx gM h'→Drawn k μ s tg l it s'
section
variable {s:Shared} {ag:F→cw}
theorem qw (cn:eJ ag k n) (ok:Ok k μ σ ρ s.heap) (ho:s.heap.get? a=some o) (_hc:o.cls= .type "tuple"∨o.cls= .type "list") (hX:a∉k.own++μ):(∃o,s.heap.get? a=some o)∧a∉k.wr++μ∧a∉k.F:=
 ⟨⟨o,ho⟩,λhm=>(bd.mp hm).elim (λh=>hX (aW _ (cn.good.nV a h))) λh=>hX (bl _ h),λhf=>hX (aW _ (ok.dM a hf))⟩
theorem cJ.at (r:cJ h X vs l) {v:Value} (hv:vs[i]?=some v) (hx:l[i]?=some x):RD h X v x:=by
 obtain ⟨v',h1,h2⟩:=r.get hx
 rw [hv]at h1;injection h1 with h1;subst h1
 exact h2
theorem nG {P:Nat→Value→Prop} {St:Nat→Heap→Prop} (ok:Ok k μ σ ρ s.heap) (W:Walks k.prog k.w k.A s.heap.objs.size fp [s.heap.objs.size] l.length P St)
  (hc:∀i h,St i h→g9 λo T=>CD (h.get? s.heap.objs.size=some o) (o.cls= .type T) ((["enumerate","zip","dict_itemiterator","dict_reverseitemiterator","odict_iterator","itertools.zip_longest","itertools.pairwise"].contains T)=false) (∀v,o.data≠ .cell v))
  (ho:o.isFreed=false) (hoc:∀v,o.data≠ .cell v) (st:St 0 (s.heap.push o)) (wJ:∀i v x,P i v→l[i]?=some x→RD s.heap (k.own++μ) v x) (aaV:∀b∈fp,b∉[s.heap.objs.size]→(∃o,s.heap.get? b=some o)∧b∉k.wr++μ∧b∉k.F) (aaW:∀b∈fp,b∉[s.heap.objs.size]→b∉k.own):
  Drawn k μ s (λO=>True) l (.ref s.heap.objs.size) {s with heap:=s.heap.push o,toks:=tk}:=by
 have hg:(s.heap.push o).get? s.heap.objs.size=some o:=gN _ ho
 refine ⟨_,[s.heap.objs.size],fp,St,_,_,_,_,rfl,rfl, .push _ _,λa ha=>?_,by simp,wR.DP W hc,st,λi v x hp hx=>(wJ i v x hp hx).into (.Hv (.push _ _) λa ha=>?_),aaV,λs Q E st hq=>W.self 0 s Q E st hq,aaW⟩
 ·refine ae (bK.mp ha) ?_;exact ⟨.size _,o,hg,hoc⟩
 ·refine ae (bK.mp ha) ?_;exact .size _
theorem OC {val:Value} {E: ~~~0} (cn:eJ ag k n) (ok:Ok k μ σ ρ s.heap) (rv:RV k.prog k.w s.heap (k.own++μ) μ val v) (e:oF v= .ok l):
  wpAny k.M k.A (pyIter val) (λit s'=>Drawn k μ s (λO=>True) l it s') E s:=by
 have hh:=cn.good.handled
 induction rv with
 |d r=>induction r using RD.casesOn with
  |@J a vs m l' e1 x1 r1=>
   have RL:=R.aF (P:=λl0=>_=l0) (e:) H;subst RL
   have hT:s.heap.IsTuple a vs.toArray:=⟨_,e1,rfl,m,rfl⟩
   have gd:a≠s.heap.objs.size:=ni (kT e1)
   have W:=Walks.tuple (prog:=k.prog) (w:=k.w) (A:=k.A) hh s.heap.objs.size a gd vs.toArray
   rw [(by exact ae dN (ae r1.length H):vs.toArray.size=l'.length)]at W
   refine wpAny_pyIter_tuple hT (nG (tk:=s.toks) ok W (λi h st=>?_) H (λv q=>by exact gB q) ⟨⟨_,gN _ rfl,H,H⟩,hT.push _⟩ (λi v x hp hx=>r1.at (by simpa using hp) hx) (λb hb ib=>?_) λb hb ib=>by
    have:b=a:=by simp at hb ib;exact hb.resolve_left ib
    subst this
    exact λq=>x1 (aW _ q))
   ·obtain ⟨o,ho,hc,hd⟩:=st.1
    exact ⟨o,_,ho,hc,by decide,λv q=>by rw [hd]at q;exact gB q⟩
   ·have:b=a:=by simp at hb ib;exact hb.resolve_left ib
    subst this
    exact qw cn ok e1 (.inl H) x1
  |@aD a vs m l' e1 x1 r1=>
   have RL:=R.aF (P:=λl0=>_=l0) (e:) H;subst RL
   have hT:s.heap.IsList a vs.toArray:=⟨_,e1,rfl,m,rfl⟩
   have gd:a≠s.heap.objs.size:=ni (kT e1)
   have W:=Walks.list (prog:=k.prog) (w:=k.w) (A:=k.A) hh s.heap.objs.size a gd vs.toArray
   rw [(by exact ae dN (ae r1.length H):vs.toArray.size=l'.length)]at W
   refine wpAny_pyIter_list hT (nG (tk:=s.toks) ok W (λi h st=>?_) H (λv q=>by exact gB q) ⟨⟨_,gN _ rfl,H,H⟩,hT.push _⟩ (λi v x hp hx=>r1.at (by simpa using hp) hx) (λb hb ib=>?_) λb hb ib=>by
    have:b=a:=by simp at hb ib;exact hb.resolve_left ib
    subst this
    exact λq=>x1 (aW _ q))
   ·obtain ⟨o,ho,hc,hd⟩:=st.1
    exact ⟨o,_,ho,hc,by decide,λv q=>by rw [hd]at q;exact gB q⟩
   ·have:b=a:=by simp at hb ib;exact hb.resolve_left ib
    subst this
    exact qw cn ok e1 (.inr H) x1
  |str x t=>
   have RL:=R.aF (P:=λl0=>_=l0) (e:) H;subst RL
   have cb:(ws x).length=x.cps.size:=by simp [ws]
   have wJ:∀i v y,SignAt x i v→(ws x)[i]?=some y→RD s.heap (k.own++μ) v y:=λi v y hp hy=>by
    obtain ⟨c0,u,h1,rfl⟩:=hp
    have h2:x.cps.toList[i]?=some c0:=by simpa using h1
    simp only [ws,lj,h2,Option.map_some,Option.some.injEq]at hy
    subst hy
    exact .str _ _
   cases ha:x.cps.all (·<128)
   ·have W:=Walks.strWide (prog:=k.prog) (w:=k.w) (A:=k.A) hh s.heap.objs.size x t
    rw [←cb]at W
    refine wpAny_pyIter_wide ha (nG (tk:=s.toks) ok W (λi h st=>?_) H (λv q=>by exact gB q) ⟨_,gN _ rfl,H,H⟩ wJ (λb hb ib=>al hb ib) λb hb ib=>al hb ib)
    obtain ⟨o,ho,hc,hd⟩:=st
    exact ⟨o,_,ho,hc,by decide,λv q=>by rw [hd]at q;exact gB q⟩
   ·have W:=Walks.strAscii (prog:=k.prog) (w:=k.w) (A:=k.A) hh s.heap.objs.size x t
    rw [←cb]at W
    refine wpAny_pyIter_ascii ha (nG (tk:=s.toks) ok W (λi h st=>?_) H (λv q=>by exact gB q) ⟨_,gN _ rfl,H,H⟩ wJ (λb hb ib=>al hb ib) λb hb ib=>al hb ib)
    obtain ⟨o,ho,hc,hd⟩:=st
    exact ⟨o,_,ho,hc,by decide,λv q=>by rw [hd]at q;exact gB q⟩
  |_=>exact R.no e
 |_=>exact R.no e
end
inductive PIt (k:Kx) (μ:↑Addr) (ρ:↑V) (s:Shared) (tg:Expr→Prop) (r:R (↑D×St)) (wS:Value) (DQ:Shared):Prop
 |mk (l:↑D) (σ':St) (ν:↑Addr) (h':Heap) (tk:Nat):r= .ok (l,σ')→Ok k (μ++ν) σ' ρ h'→b7 μ k.F s.heap h'→(∀a∈ν,cN s.heap a)→Drawn k (μ++ν) {s with heap:=h',toks:=tk} tg l wS DQ→PIt k μ ρ s tg r wS DQ
abbrev oZ (ag:F→cw) (K:fF) (n:Nat) (c:Cx) (it:Expr) (tg:Expr→Prop) (i:It):Prop:=∀(k:Kx) (μ:↑Addr) (σ:St) (ρ:↑V) (s:Shared),eJ ag k n→gX c k→Ok k μ σ ρ s.heap→i8 K i ρ σ≠ .aQ→
 wpAny k.M k.A (eval it k.env) (λx iX=>wpAny k.M k.A (pyIter x) (λwS DQ=>PIt k μ ρ s tg (i8 K i ρ σ) wS DQ) (PX k μ s (i8 K i ρ σ)) iX) (PX k μ s (i8 K i ρ σ)) s
variable {it:Expr} {j:Nat}
section
variable {ag:F→cw}
theorem zO (v:V) (m:Str):oF v≠ .dW m:=NX.bind (dY v) (λd=>by induction d using D.casesOn<;>first|exact bj|exact bm) m
theorem VQ {x:E} (ha:bC ag K n c it x):oZ ag K n c it (λO=>True) (.seq x):=by
 intro k μ σ ρ s cn cx ok e
 dsimp only [i8]at e⊢
 refine bv (ha k μ σ ρ s cn cx ok (R.ax e)) (λval s1 g=>?_) λO O g=>g.bind
 obtain ⟨v,σ',ν,h',tk,h1,rfl,bt,dF,dG,r1⟩:=g
 rw [h1]at e⊢
 dsimp only [R.dv]at e⊢
 generalize hl:oF v=o0;induction o0 using R.casesOn with
 |aQ=>rw [hl]at e;exact al H e
 |dW m=>exact al hl (zO _ _)
 |ok l=>
  refine bv (OC cn bt r1 hl) (λwS s2 g=>?_) λO O g=>g
  exact ⟨l,σ',ν,h',tk,rfl,bt,dF,dG,g⟩
theorem Bc (i:Int) (h:0≤i):(iC i.toNat).length=i.toNat:=by simp [iC]
theorem DR {i:Int} (h0:0≤i):(0+((0:Nat):Int)*1)=0∧((i.toNat:Int) -((0:Nat):Int))=Builtin.Range.rangeSize 0 i 1:=by
 have hsz:Builtin.Range.rangeSize 0 i 1=i:=by rw [rangeSize_one];split<;>lia
 refine ae hsz ?_
 exact ⟨by simp,by lia⟩
theorem J2 {y:D} (h:(iC n)[j]?=some y):y= .int (0+(j:Int)*1):=by
 simp only [iC,lj]at h
 generalize hj:(List.range n)[j]?=o0;induction o0 using di with
 |none=>rw [hj]at h;cases h
 |some m=>
  rw [hj]at h
  obtain ⟨h1,h2⟩:=jo.mp hj
  rw [List.getElem_range]at h2
  subst h2
  rw [Int.zero_add,Int.mul_one]
  exact (bb h).symm
theorem OD {e:Expr} {x:E} (hg:c.glob ("range":Str)=true) (hs:dP [e]) (hl:bC ag K n c e x):oZ ag K n c (.Call (.Name ("range":Str) np) [e] [] pos) (λO=>True) (.range x):=by
 intro k μ σ ρ s cn cx ok h
 refine wpAny_Call_ofName (mI cn cx ok hg (v:= .type "range") ⋯ ∅ ?_)
 refine PySem.callWith_type (hs.any _ _) (ME hs ?_)
 refine bv (hl k μ σ ρ s cn cx ok (R.ax h)) (λval s1 g=>?_) λO O g=>g.bind
 obtain ⟨v,σ',ν,h',tk,h1,rfl,bt,dF,dG,r1⟩:=g
 have hf:=R.jC h1 h
 refine (dY v).get (R.ax hf) λd hd=>?_
 have CO:=R.jC hd hf
 refine (ig d).get (R.ax CO) λi Zi=>?_
 have hi:=R.lI Zi CO
 have hr:i8 K (.range x) ρ σ= .ok (iC i.toNat,σ'):=(R.cf h1).trans ((R.cf hd).trans ((R.cf Zi).trans (ao hi)))
 refine (r1.mw hd).hO Zi λt=>?_
 show wpAny k.M k.A (PySem.call (.type "range") [.int i t]) _ _ _
 refine call_range_1 ?_
 refine wpAny_pyIter_range (IsRange.new ..) (small_one ∅ ∅ (by lia) (by lia)) ?_
 have kp:dJ h' (h'.push {cls:= .type "range",data:= .fields #[.int 0 tk, .int i t, .int 1 (tk+1)]}):= .push _ _
 have fO:=bt.keep kp
 refine ⟨_,σ',ν,_,tk+1+1,hr,fO,dF.trans (.of_keep (X:=[]) kp) (λa ha=>al ha (by simp)),dG,?_⟩
 have W:=Walks.range (prog:=k.prog) (w:=k.w) (A:=k.A) cn.good.handled (h'.push {cls:= .type "range",data:= .fields #[.int 0 tk, .int i t, .int 1 (tk+1)]}).objs.size 0 1 i.toNat
 rw [←Bc i hi.1]at W
 refine nG (s:={s with heap:=h'.push {cls:= .type "range",data:= .fields #[.int 0 tk, .int i t, .int 1 (tk+1)]},toks:=tk+1+1}) (tk:=tk+1+1) fO W (λi h st=>⟨_,_,st,H,by decide,λv q=>by exact gB q⟩) H (λv q=>by exact gB q) ?_ (λj v y hp hy=>?_) (λb hb ib=>al hb ib) λb hb ib=>al hb ib
 ·refine ae (Bc i hi.1) (ae ((DR hi.1).1) (ae ((DR hi.1).2) ?_))
  exact gN _ rfl
 ·obtain ⟨t',rfl⟩:=hp
  refine ae (J2 hy) ?_
  exact .int _ _
end
abbrev Fk (t:Expr):Prop:=s6 λes kk p=>t= .Tuple es kk p
theorem Be:∀(l:↑D) (k i:Nat) (y:D),(rK k l)[i]?=some y→∃x,l[i]?=some x∧y= .J [.int ((k+i:Nat):Int),x]
 |[],k,i,y,h=>nomatch h
 |x::r,k,0,y,h=>by
  replace h:=bb h
  exact ⟨x,rfl,by refine dg h ?_;simp⟩
 |x::r,k,i+1,y,h=>by
  obtain ⟨z,h1,h2⟩:=Be r (k+1) i y h
  exact ⟨z,h1,by exact ae h2 (ae (show k+1+i=k+(i+1)by simp+arith only) H)⟩
theorem J3 (l:↑D):∀(k:Nat),(rK k l).length=l.length:=by
 induction l with
 |nil=>exact λO=>rfl
 |cons x r dS=>exact λk=>aC Nat.succ (dS (k+1))
theorem wR.oU {w:World} (hh:A.handled=none) (e it a:Addr) (gd:e≠it) (ha:a≠e∧a≠it) (vs:↑Value) (l:↑D):
  wR prog w A e Fk [e,it,a] [e,it] (rK 0 l) (λi h=>(∃rR,IsEnum h e it (i:Nat) rR)∧h.IsListIter it a i∧h.IsList a vs.toArray∧vs.length=l.length)
   (λi v h=>g9 λt x=>An5 (v= .ref t) (IsEnumOut h e it ((i:Int)+1) x t) (h.IsListIter it a (i+1)) (h.IsList a vs.toArray) (vs.length=l.length)) (λh X=>cJ h X vs l) where
 sub b hb:=by simp at hb⊢;rcases hb with q|q<;>simp [q]
 frame i h h' st hk:=by
  obtain ⟨⟨rR,h1⟩,h2,h3,h4⟩:=st
  exact ⟨⟨rR,hk e (by simp) _ h1⟩,h2.at λo eo=>hk it (by simp) o eo,h3.at λo eo=>hk a (by simp) o eo,h4⟩
 tC h h' X X' f i:=f.into i
 yn i h st b hb:=by
  obtain ⟨⟨rR,h1⟩,⟨o2,h2,_,J4⟩,_,_⟩:=st
  simp only [cM,fX,or_false]at hb
  rcases hb with rfl|rfl
  ·exact ⟨_,h1,λv q=>by exact gB q⟩
  ·exact ⟨_,h2,λv q=>by rw [J4]at q;exact gB q⟩
 MM i v h st b hb:=by
  obtain ⟨t,x,_,h1,⟨o2,h2,_,J4⟩,_,_⟩:=st
  simp only [cM,fX,or_false]at hb
  rcases hb with rfl|rfl
  ·exact ⟨_,h1,λv q=>by exact gB q⟩
  ·exact ⟨_,h2,λv q=>by rw [J4]at q;exact gB q⟩
 item i x s X Q E hx st f hw jX hq:=by
  obtain ⟨⟨rR,h1⟩,h2,h3,h4⟩:=st
  obtain ⟨y,hy,rfl⟩:=Be l 0 i x hx
  obtain ⟨v,hv,hr⟩:=f.get hy
  have JZ:vs.toArray[i]?=some v:=by simpa using hv
  refine wpAny_pyNext_enum_item h1 h2 h3 JZ gd λh' g1 g2 g3 O g5=>?_
  have ch:rQ [e,it] s.heap h':=λb o hb eo=>g5 b o (λq=>hb (by simp [q])) (λq=>hb (by simp [q])) eo
  refine hq _ h' _ (.J (vs:=[.int i s.toks,v]) (n:=0) g3 (jX _ (.size _)) (.cons ?_ {(hr.into (ch.into hw))})) ⟨_,v,rfl,g1,g2,h3.at λo eo=>g5 a o ha.1 ha.2 eo,h4⟩ ch
  rw [Nat.zero_add];exact .int _ _
 own i v s target Q E tg st hq:=by
  obtain ⟨t,x,rfl,h1,h2,h3,h4⟩:=st
  obtain ⟨es,kk,p,rfl⟩:=tg
  refine wpAny_letOwnedTupleGo_enum h1 λh' g1 g2=>?_
  refine hq h' (λb o hb eo=>(g2.2 b λq=>hb (by simp [q])).trans eo) ⟨⟨x,?_⟩,h2.at λo eo=>(g2.2 it (Ne.symm gd)).trans eo,h3.at λo eo=>(g2.2 a ha.1).trans eo,h4⟩
  rw [(by push_cast;rfl:((i+1:Nat):Int)=(i:Int)+1)]
  exact g1
 done s Q E st hq:=by
  obtain ⟨⟨rR,h1⟩,h2,h3,h4⟩:=st
  rw [J3]at h1 h2
  refine wpAny_pyNext_enum_end hh h1 h2 h3 (by simp [h4]) λh' he=>?_
  exact hq h' s.toks λb o hb eo=>he b o (λq=>hb (by simp [q])) eo
section
variable {ag:F→cw}
theorem DS {b x y:Addr} (hb:b∈[x,y,a]) (ib:b∉[x,y]):b=a:=by
 simp only [cM,fX,or_false,not_or]at hb ib
 exact hb.elim (λq=>al q ib.1) λq=>q.elim (λq=>al q ib.2) id
theorem DT {b:Addr} (hb:b∈[h'.objs.size+1,h'.objs.size]):cN h' b:=by
 simp only [cM,fX,or_false]at hb
 rcases hb with rfl|rfl
 ·exact rn (Nat.le_succ _)
 ·exact .size _
theorem RM {e:Expr} {x:E} (hg:c.glob ("enumerate":Str)=true) (hs:dP [e]) (hl:bC ag K n c e x):oZ ag K n c (.Call (.Name ("enumerate":Str) np) [e] [] pos) Fk (.oU x):=by
 intro k μ σ ρ s cn cx ok h
 refine wpAny_Call_ofName (mI cn cx ok hg (v:= .type "enumerate") ⋯ ∅ ?_)
 refine PySem.callWith_type (hs.any _ _) (ME hs ?_)
 refine bv (hl k μ σ ρ s cn cx ok (R.ax h)) (λval s1 g=>?_) λO O g=>g.bind
 obtain ⟨v,σ',ν,h',tk,h1,rfl,bt,dF,dG,r1⟩:=g
 have hf:=R.jC h1 h
 refine (dY v).get (R.ax hf) λd hd=>?_
 have CO:=R.jC hd hf
 refine (wH d).get (R.ax CO) λl RN=>?_
 have hr:i8 K (.oU x) ρ σ= .ok (rK 0 l,σ'):=(R.cf h1).trans ((R.cf hd).trans (R.cf RN))
 refine (r1.mw hd).E1 RN λa us m e1 x1 rr=>?_
 show wpAny k.M k.A (PySem.call (.type "enumerate") [.ref a]) _ _ _
 refine call_enumerate_list (bM e1) λh2 g1 g2 g3 kp=>?_
 refine wpAny_pyIter_enum g1 ?_
 have ke:=kT e1
 refine ⟨rK 0 l,σ',ν,h',tk,hr,bt,dF,dG,_,[h'.objs.size+1,h'.objs.size],[h'.objs.size+1,h'.objs.size,a],_,_,_,h2,tk,rfl,rfl,kp,λb hb=>⟨DT hb,?_⟩,by simp,
  wR.oU cn.good.handled _ _ a (Nat.succ_ne_self _) ⟨ni (Nat.lt_succ_of_lt ke),ni ke⟩ us l,⟨⟨_,g1⟩,g2,⟨_,kp _ _ e1,rfl,m,rfl⟩,rr.length⟩,rr.into (.Hv kp λb hb=>DT hb),λb hb ib=>DS hb ib▸qw cn bt e1 (.inr H) x1,λs Q E st hq=>?_,λb hb ib=>DS hb ib▸λq=>x1 (aW _ q)⟩
 ·simp only [cM,fX,or_false]at hb
  rcases hb with rfl|rfl
  ·exact ⟨_,g1,λv q=>by exact gB q⟩
  ·obtain ⟨o,ho,_,hd⟩:=g2
   exact ⟨o,ho,λv q=>by rw [hd]at q;exact gB q⟩
 ·obtain ⟨⟨rR,q1⟩,_⟩:=st
  exact wpAny_pyIter_enum q1 hq
end
section
variable {s:Shared} {ag:F→cw}
theorem sE (hs:Heap.SameBut a h h') (ho:h'.get? a=some o) (hd:∀vs,o.data≠ .fields vs) {l:↑Env}:h.FunFrames B l→h'.FunFrames B l:=by
 induction l with
 |nil=>exact λO=>trivial
 |cons env rest dS=>
  intro f
  obtain ⟨hk,⟨L,o1,hf,hn,Zj,VR⟩,hr⟩:=f
  by_cases q:L=a
  ·subst q;exact ⟨hk,⟨_,o,hf,hn,ho,hd⟩,dS hr⟩
  ·exact ⟨hk,⟨L,o1,hf,hn,(hs.2 L q).trans Zj,VR⟩,dS hr⟩
theorem Ok.own (x:Ok k μ σ ρ h) (ha:a∈k.own) (hs:Heap.SameBut a h h') (ho:h'.get? a=some o) (hd:∀vs,o.data≠ .fields vs) (he:AV k h' (k.own++μ) μ bX):Ok k μ σ bX h':=by
 have hX:a∈k.own++μ:=aW _ ha
 have i:eU h h' (k.own++μ) (k.own++μ):=⟨λb o e hb O=>(hs.2 b λq=>hb (q▸hX)).trans e,λO O O hb=>hb⟩
 exact {
  base:=λb o e=>(hs.2 b λq=>by
   have h1:=(x.low a hX).1
   rw [←q]at h1
   exact h1.not e).trans (x.base b o e)
  frames:=sE hs ho hd x.frames
  dM:=x.dM
  low:=λb hb=>by
   obtain ⟨n,o1,e⟩:=x.low b hb
   by_cases q:b=a
   ·exact ⟨n,o,q▸ho⟩
   ·exact ⟨n,o1,(hs.2 b q).trans e⟩
  nodup:=x.nodup
  cells:=x.cells.into i (.refl _) λb hb o e=>(hs.2 b λq=>x.fy ha (q▸hb)).trans e
  env:=he}
theorem yo (ha:a∈k.own) (hs:Heap.SameBut a h h'):eU h h' (k.own++μ) (k.own++μ):=
 ⟨λb o e hb O=>(hs.2 b λq=>hb (q▸aW _ ha)).trans e,λO O O hb=>hb⟩
theorem tD {l:↑α} {v w:α} (h:(l.set i v)[j]?=some w):(i=j∧v=w)∨(i≠j∧l[j]?=some w):=by
 rw [List.getElem?_set]at h
 by_cases q:i=j
 ·rw [ao q]at h
  split at h
  ·have h:=bb h;exact .inl ⟨q,h⟩
  ·exact nomatch h
 ·rw [aN q]at h;exact .inr ⟨q,h⟩
theorem DU {l:↑Str} (nd:l.Nodup) {x:Str} (h1:l[i]?=some x) (h2:l[j]?=some x):i=j:=by
 obtain ⟨a,ha⟩:=jo.mp h1
 obtain ⟨b,hb⟩:=jo.mp h2
 rcases Nat.lt_trichotomy i j with q|q|q
 ·exact al (ha.trans hb.symm) (List.pairwise_iff_getElem.mp nd i j a b q)
 ·exact q
 ·exact al (hb.trans ha.symm) (List.pairwise_iff_getElem.mp nd j i b a q)
theorem tE {m:Str→Option Value} {v:Option Value} (hm:h.Ns a m) (hc:h.IsCell a v):False:=by
 obtain ⟨o,_,_,ho,hd,_⟩:=hm
 obtain ⟨o',pA,qm⟩:=hc
 rw [ho]at pA;injection pA with pA;subst pA
 rw [hd]at qm;cases qm
abbrev Wr (k:Kx) (x:Str):Prop:=k.env.kindOf x≠some .free∧(k.env.kindOf x=some .cell→∀c,k.env.cells.lookup x=some c→c∈k.wr)
theorem o5 {x:Str} {val:Value} {E: ~~~0} (cn:eJ ag k n) (ok:Ok k μ σ ρ s.heap) (hi:k.slots[i]?=some x) (hf:Wr k x) (rv:RV k.prog k.w s.heap (k.own++μ) μ val v):
  wpAny k.M k.A (storeName k.env x val) (λO s'=>g9 λh' tk=>qh (s'={s with heap:=h',toks:=tk}) (Ok k μ σ (ρ.set i v) h') (b7 k.wr k.F s.heap h')) E s:=by
 have g:=cn.good
 obtain ⟨m,hm,kg⟩:=ok.env.ns
 have hx:x∈k.slots:=fJ hi
 rcases g.fN x hx with hk|hk|hk
 ·refine wpAny_storeName_local hk hm (λh' hn hs=>?_) (by refine ae g.fn ?_;rfl)
  obtain ⟨o,es,ep,ho,hd,_⟩:=id hn
  have hL:k.env.locals∈k.own:=g.tn
  refine ⟨h',_,rfl,ok.own hL hs ho (λvs q=>by rw [hd]at q;exact gB q) ?_,b7.sameBut hs ho g.G6⟩
  have ii:=yo (μ:=μ) hL hs
  refine ⟨⟨_,hn,λj y w h1 h2 h3=>?_⟩,λy hy Zk=>?_,by simp [ok.env.len]⟩
  ·rcases tD h2 with⟨rfl,rfl⟩|⟨gd,h2⟩
   ·rw [hi]at h1;have h1:=bb h1;subst h1
    exact ⟨val, .inl ⟨hk,by simp⟩,rv.into ii (.refl _)⟩
   ·obtain ⟨RO,hb,hr⟩:=kg j y w h1 h2 h3
    refine ⟨RO,?_,hr.into ii (.refl _)⟩
    rcases hb with⟨b1,b2⟩|⟨b1,c,b2,b3⟩
    ·have hyx:y≠x:=λq=>gd (DU g.nodup hi (q▸h1))
     exact .inl ⟨b1,by simp [hyx,b2]⟩
    ·exact .inr ⟨b1,c,b2,b3.sameBut hs λq=>tE hm (q▸b3)⟩
  ·obtain ⟨c,v',h1,h3,h4⟩:=ok.env.cell y hy Zk
   exact ⟨c,v',h1,h3,h4.sameBut hs h3⟩
 ·obtain ⟨c,abW,h1,h3,h4⟩:=ok.env.cell x hx hk
  have h2:=hf.2 hk c h1
  refine wpAny_storeName_cell g.fn hk h1 h4 λh' hc hs=>?_
  obtain ⟨o,ho,hd⟩:=id hc
  have hC:c∈k.own:=g.nV c h2
  refine ⟨h',s.toks,rfl,ok.own hC hs ho (λvs q=>by rw [hd]at q;exact gB q) ?_,b7.sameBut hs ho (hf.2 hk c h1)⟩
  have ii:=yo (μ:=μ) hC hs
  refine ⟨⟨m,hm.sameBut hs (Ne.symm h3),λj y w q1 q2 q3=>?_⟩,λy hy Zk=>?_,by simp [ok.env.len]⟩
  ·rcases tD q2 with⟨rfl,rfl⟩|⟨gd,q2⟩
   ·rw [hi]at q1;have q1:=bb q1;subst q1
    exact ⟨val, .inr ⟨.inl hk,c,h1,hc⟩,rv.into ii (.refl _)⟩
   ·obtain ⟨RO,hb,hr⟩:=kg j y w q1 q2 q3
    refine ⟨RO,?_,hr.into ii (.refl _)⟩
    rcases hb with⟨b1,b2⟩|⟨b1,c',b2,b3⟩
    ·exact .inl ⟨b1,b2⟩
    ·have CH:c'≠c:=λq=>by
      subst q
      have:=g.apart x y c' hk h1 b2
      exact gd (DU g.nodup hi (this▸q1))
     exact .inr ⟨b1,c',b2,b3.sameBut hs CH⟩
  ·obtain ⟨c',v',w1,w3,w4⟩:=ok.env.cell y hy Zk
   by_cases q:c'=c
   ·subst q;exact ⟨c',_,w1,w3,hc⟩
   ·exact ⟨c',v',w1,w3,w4.sameBut hs q⟩
 ·exact al hk hf.1
end
inductive tF (k:Kx) (h:Heap) (μ:↑Addr):Flow→Fl→Prop
 |next:tF k h μ .next .next
 |cont:tF k h μ .cont .cont
 |ret {val:Value} {v:V}:RV k.prog k.w h (k.own++μ) μ val v→tF k h μ (.ret val) (.ret v)
inductive PS (k:Kx) (μ:↑Addr) (s:Shared) (r:RS) (fl:Flow) (s':Shared):Prop
 |mk (f:Fl) (bX:↑V) (σ':St) (ν:↑Addr) (h':Heap) (tk:Nat):r= .ok (f,bX,σ')→s'={s with heap:=h',toks:=tk}→Ok k (μ++ν) σ' bX h'→b7 (k.wr++μ) k.F s.heap h'→(∀a∈ν,cN s.heap a)→tF k h' (μ++ν) fl f→PS k μ s r fl s'
inductive i4 {α:Type} (k:Kx) (μ:↑Addr) (s:Shared) (r:R α) (e:Value) (s':Shared):Prop
 |mk (m:Str) (h':Heap) (tk:Nat):r= .dW m→s'={s with heap:=h',toks:=tk}→b7 (k.wr++μ) k.F s.heap h'→vg k s.heap h' e m→i4 k μ s r e s'
variable {R0 R1:RS}
section
variable {s:Shared}
theorem o7 (x:b7 (k.wr++μ) k.F h h') (y:b7 (k.wr++(μ++ν)) k.F h' gC) (ip:∀a∈ν,cN h a):b7 (k.wr++μ) k.F h gC:=
 x.trans y λa ha=>by
  rw [←aX]at ha
  exact (bd.mp ha).imp id (ip a)
theorem PS.trans {r:RS} {fl:Flow} (e:b7 (k.wr++μ) k.F s.heap h') (ip:∀a∈ν,cN s.heap a) (g:PS k (μ++ν) {s with heap:=h',toks:=tk} r fl s'):PS k μ s r fl s':=by
 obtain ⟨f,bX,σ',ν',gC,hJ,h1,h2,h3,h4,h5,h6⟩:=g
 rw [aX]at h3 h6
 refine ⟨f,bX,σ',ν++ν',gC,hJ,h1,h2,h3,o7 e h4 ip,λa ha=>?_,h6⟩
 rcases bd.mp ha with ha|ha
 ·exact ip a ha
 ·exact e.1.jV (h5 a ha)
theorem i4.trans {r:R α} {e:Value} (ex:b7 (k.wr++μ) k.F s.heap h') (ip:∀a∈ν,cN s.heap a) (g:i4 k (μ++ν) {s with heap:=h',toks:=tk} r e s'):i4 k μ s r e s':=by
 obtain ⟨m,gC,hJ,h1,h2,h3,h4⟩:=g
 exact ⟨m,gC,hJ,h1,h2,o7 ex h3 ip,h4.low ex.1⟩
theorem i4.Bf {r:R α} {e:Value} (g:PX k μ s r e s'):i4 k μ s r e s':=by
 obtain ⟨m,h',tk,h1,h2,h3,h4⟩:=g
 exact ⟨m,h',tk,h1,h2,h3.mono λa ha=> .inl (bl _ ha),h4⟩
theorem i4.bind {r:R α} {f:α→R β} {e:Value} (g:i4 k μ s r e s'):i4 k μ s (r.bind f) e s':=by
 obtain ⟨m,gC,hJ,h1,h2,h3,h4⟩:=g
 exact ⟨m,gC,hJ,by refine ae h1 ?_;rfl,h2,h3,h4⟩
structure ff (k:Kx) (μ:↑Addr) (s:Shared) (R0:RS) (e6:↑Addr) (s':Shared) (R1:RS):Prop where
 x:∀e kb,i4 k e6 s' R1 e kb→i4 k μ s R0 e kb
 g:∀fl kb,PS k e6 s' R1 fl kb→PS k μ s R0 fl kb
theorem ff.refl (μ:↑Addr) (s:Shared) (R0:RS):ff k μ s R0 μ s R0:=⟨λO O h=>h,λO O h=>h⟩
theorem ff.NQ {s:Shared} {R2:RS} (L:ff k μ s R0 e6 s' R1) (q:R1=R2):ff k μ s R0 e6 s' R2:=q▸L
theorem ff.wp {s:Shared} (L:ff k μ s R0 e6 s' R1) {t:Sem Flow} (h:wpAny k.M k.A t (PS k e6 s' R1) (i4 k e6 s' R1) s1):wpAny k.M k.A t (PS k μ s R0) (i4 k μ s R0) s1:=
 bv h (λO O g=>L.g _ _ g) λO O g=>L.x _ _ g
theorem ff.ext {s:Shared} (L:ff k μ s R0 e6 s' R1) (e:b7 (k.wr++e6) k.F s'.heap h'):ff k μ s R0 e6 {s' with heap:=h',toks:=tk} R1:=
 ⟨λer kb h=>L.x er kb (i4.trans (ν:=[]) (h':=h') (tk:=tk) e (λO h=>al h (by simp)) (by simpa using h)),
  λfl kb h=>L.g fl kb (PS.trans (ν:=[]) (h':=h') (tk:=tk) e (λO h=>al h (by simp)) (by simpa using h))⟩
theorem ff.step {s:Shared} {r:R (α×St)} {f:α×St→RS} (L:ff k nW s0 R0 μ s (r.bind f)) (hb:r.bind f≠ .aQ) {t:Sem β} {C:β→Shared→Prop}
  {T:Heap→↑Addr→β→α→Prop} (h:wpAny k.M k.A t (PG k μ ρ T s r) (PX k μ s r) s)
  (hc:∀val v σ' ν h' tk,r= .ok (v,σ')→Ok k (μ++ν) σ' ρ h'→b7 μ k.F s.heap h'→(∀a∈ν,cN s.heap a)→T h' (μ++ν) val v→f (v,σ')≠ .aQ→ff k nW s0 R0 (μ++ν) {s with heap:=h',toks:=tk} (f (v,σ'))→
   C val {s with heap:=h',toks:=tk}):wpAny k.M k.A t C (i4 k nW s0 R0) s:=by
 refine bv h (λval iX g=>?_) λe iX g=>L.x e iX (i4.Bf g).bind
 obtain ⟨v,σ',ν,h',tk,h1,rfl,h3,h4,h5,h6⟩:=g
 subst h1
 rw [R.dv]at hb L
 have h4':b7 (k.wr++μ) k.F s.heap h':=h4.mono λa ha=> .inl (bl _ ha)
 exact hc val v σ' ν h' tk H h3 h4 h5 h6 hb ⟨λe kb g=>L.x e kb (g.trans h4' h5),λval kb g=>L.g val kb (g.trans h4' h5)⟩
theorem ff.RP {s:Shared} {r:RS} {f:Fl×↑V×St→RS} (L:ff k nW s0 R0 μ s (r.bind f)) (hb:r.bind f≠ .aQ) {t:Sem Flow} {C:Flow→Shared→Prop}
  (h:wpAny k.M k.A t (PS k μ s r) (i4 k μ s r) s)
  (hc:∀fl v bX σ' ν h' tk,r= .ok (v,bX,σ')→Ok k (μ++ν) σ' bX h'→b7 (k.wr++μ) k.F s.heap h'→(∀a∈ν,cN s.heap a)→tF k h' (μ++ν) fl v→f (v,bX,σ')≠ .aQ→ff k nW s0 R0 (μ++ν) {s with heap:=h',toks:=tk} (f (v,bX,σ'))→
   C fl {s with heap:=h',toks:=tk}):wpAny k.M k.A t C (i4 k nW s0 R0) s:=by
 refine bv h (λval iX g=>?_) λe iX g=>L.x e iX g.bind
 obtain ⟨v,bX,σ',ν,h',tk,h1,rfl,h3,h4,h5,h6⟩:=g
 subst h1
 rw [R.dv]at hb L
 exact hc val v bX σ' ν h' tk H h3 h4 h5 h6 hb ⟨λe kb g=>L.x e kb (g.trans h4 h5),λval kb g=>L.g val kb (g.trans h4 h5)⟩
theorem ff.RQ {s:Shared} {r:R (α×St)} {f:α×St→RS} (q:R1=r.bind f) (L:ff k nW s0 R0 μ s R1) (hb:R1≠ .aQ) {t:Sem β} {C:β→Shared→Prop}
  {T:Heap→↑Addr→β→α→Prop} (h:wpAny k.M k.A t (PG k μ ρ T s r) (PX k μ s r) s)
  (hc:∀val v σ' ν h' tk,r= .ok (v,σ')→Ok k (μ++ν) σ' ρ h'→b7 μ k.F s.heap h'→(∀a∈ν,cN s.heap a)→T h' (μ++ν) val v→f (v,σ')≠ .aQ→ff k nW s0 R0 (μ++ν) {s with heap:=h',toks:=tk} (f (v,σ'))→
   C val {s with heap:=h',toks:=tk}):wpAny k.M k.A t C (i4 k nW s0 R0) s:=by
 subst q;exact L.step hb h hc
theorem PS.fk {r:RS} {f:Fl} {fl:Flow} (x:Ok k μ σ ρ s.heap) (hr:r= .ok (f,ρ,σ)) (hf:tF k s.heap μ fl f):PS k μ s r fl s:=
 ⟨f,ρ,σ,[],s.heap,s.toks,hr,rfl,by rw [b6];exact x, .refl _,λO h=>al h (by simp),by rw [b6];exact hf⟩
end
section
variable (ag:F→cw) (K:fF) (n:Nat) (c:Cx) (w:Nat)
structure nH (k:Kx):Prop where
 eK:eJ ag k n
 cx:gX c k
 pT:∀x∈k.slots,Wr k x
abbrev i9 (st:Stmt) (x:S):Prop:=∀(k:Kx) (μ:↑Addr) (σ:St) (ρ:↑V) (s:Shared),nH ag n c k→Ok k μ σ ρ s.heap→ex K w x ρ σ≠ .aQ→
 wpAny k.M k.A (exec st k.env) (PS k μ s (ex K w x ρ σ)) (i4 k μ s (ex K w x ρ σ)) s
abbrev kO (CP:↑Stmt) (xs:Ss):Prop:=∀(k:Kx) (μ:↑Addr) (σ:St) (ρ:↑V) (s:Shared),nH ag n c k→Ok k μ σ ρ s.heap→bg K w xs ρ σ≠ .aQ→
 wpAny k.M k.A (execs CP k.env) (PS k μ s (bg K w xs ρ σ)) (i4 k μ s (bg K w xs ρ σ)) s
end
variable {st:Stmt} {CP:↑Stmt} {w:Nat}
section
variable {ag:F→cw}
theorem VS:kO ag K n c w [] .nil:=by
 intro k μ σ ρ s cn ok e
 exact aB (PS.fk ok H .next)
theorem RT {x:S} {xs:Ss} (ha:i9 ag K n c w st x) (hb:kO ag K n c w CP xs):kO ag K n c w (st::CP) (.cons x xs):=by
 intro k μ σ ρ s cn ok e
 refine aj ((ff.refl μ s _).RP e (ha k μ σ ρ s cn ok (R.ax e)) λfl v bX σ' ν h' tk O bt dF dG r1 e1 L1=>?_)
 induction r1 with
 |next=>exact L1.wp (hb k _ σ' bX _ cn bt e1)
 |cont=>exact aB (L1.g _ _ (PS.fk bt H .cont))
 |ret rv=>exact aB (L1.g _ _ (PS.fk bt H (.ret rv)))
theorem RU {t:Expr} {a b:↑Stmt} {x:E} {y z:Ss} (ht:kY ag K n c t x) (ha:kO ag K n c w a y) (hb:kO ag K n c w b z):i9 ag K n c w (.If t a b p) (.aU x y z):=by
 intro k μ σ ρ s cn ok e
 have he:ex K w (.aU x y z) ρ σ=(kH (ev K x ρ σ)).bind λp=>if p.1 then bg K w y ρ p.2 else bg K w z ρ p.2:=(um (r:=ev K x ρ σ) (g:=λp=>if p.1 then bg K w y ρ p.2 else bg K w z ρ p.2)).symm
 rw [he]at e⊢
 refine wpAny_If ((ff.refl μ s _).step e (ht k μ σ ρ s cn.eK cn.cx ok (R.ax e)) λval v σ1 ν h1 tk O bt dF dG r1 e1 L1=>?_)
 have:val=v:=r1
 subst this
 induction val with
 |true=>exact L1.wp (ha k _ σ1 ρ _ cn bt e1)
 |false=>exact L1.wp (hb k _ σ1 ρ _ cn bt e1)
theorem J5:i9 ag K n c w (.Continue p) .cont:=by
 intro k μ σ ρ s cn ok e
 exact wpAny_Continue (PS.fk ok H .cont)
theorem J6:i9 ag K n c w (.Return none p) (.ret .none):=by
 intro k μ σ ρ s cn ok e
 exact wpAny_Return_none (PS.fk ok H (.ret (.d .none)))
theorem OE {e:Expr} {x:E} (ha:bC ag K n c e x):i9 ag K n c w (.Return (some e) p) (.ret (.some x)):=by
 intro k μ σ ρ s cn ok h
 refine wpAny_Return_some ((ff.refl μ s _).step h (ha k μ σ ρ s cn.eK cn.cx ok (R.ax h)) λval v σ1 ν h1 tk O bt dF dG r1 e1 L1=>?_)
 exact L1.g _ _ (PS.fk bt H (.ret r1))
theorem RV.none {w:World} {v:Value} {c:V} (r:RV prog w h X μ v c) (e:gI c= .ok x) (hn:oV x=true):v= .none:=by
 have rd:=r.mw e
 induction rd using RD.casesOn<;>first|rfl|cases hn
theorem J7 {e:Expr} {x:E} (hi:∀env line,swapsWith e none line env=pure false) (ha:bC ag K n c e x):i9 ag K n c w (.Expr e p) (.dC x):=by
 intro k μ σ ρ s cn ok h
 refine wpAny_Expr ((ff.refl μ s _).step (f:=Js ρ) h (ha k μ σ ρ s cn.eK cn.cx ok (R.ax (f:=Js ρ) h)) λval v σ1 ν h1 tk O bt dF dG r1 e1 L1=>?_) (by unfold interactive;refine ae cn.eK.good.fn ?_;rfl) (hi _ _)
 refine (NX.get (dY v) (R.ax e1)) λd hd=>?_
 have hn:=R.lI hd e1
 refine r1.none hd hn▸L1.g _ _ (PS.fk bt ((R.cf hd).trans (ao hn)) .next)
end
theorem o8 (e:b7 k.wr k.F h h'):b7 (k.wr++μ) k.F h h':=e.mono λa ha=> .inl (aW _ ha)
theorem yq (hs:Heap.SameBut a h h') (ho:h'.get? a=some o) (ha:a∈μ):b7 (k.wr++μ) k.F h h':=b7.sameBut hs ho (bl _ ha)
section
variable {ag:F→cw}
theorem OF {x:Str} {e:Expr} (hi:c.slot x=some i) (J8:∀t line env,swapsWith e (some t) line env=pure false) (ha:bC ag K n c e y):i9 ag K n c w (.Assign [.Name x np] e p) (.bD i y):=by
 intro k μ σ ρ s cn ok h
 have hs:=Cx.iS hi
 rw [←cn.cx.slots]at hs
 refine wpAny_Assign_Name ((ff.refl μ s _).step h (ha k μ σ ρ s cn.eK cn.cx ok (R.ax h)) λval v σ1 ν h1 tk O bt dF dG r1 e1 L1=>?_) (J8 _ _ _)
 refine bv (o5 (E:=i4 k μ s _) cn.eK bt hs (cn.pT x (fJ hs)) r1) (λO s' g=>?_) λO O g=>g
 obtain ⟨h',hJ,rfl,fO,gm⟩:=g
 exact (L1.ext (o8 gm)).g _ _ (PS.fk fO H .next)
@[elab_as_elim] theorem OG {w:World} {h2:Heap} {X2 μ2:↑Addr} {val sD:Value} {v2:V} {P:Value→Value→Prop} (hb:Mm v v2≠ .aQ) (r:RV prog w h X μ val v) (r2:RV prog w h2 X2 μ2 sD v2) (k:∀a b t u,Mm v v2= .ok (.int (a -b))→P (.int a t) (.int b u)):P val sD:=by
 revert hb k
 unfold Mm
 intro hb
 refine (dY v).elim hb λd hd hb=>?_
 refine (ig d).elim hb λi hi hb=>?_
 refine (dY v2).elim hb λd2 J4 hb=>?_
 refine (ig d2).elim hb λj hj O=>λk=>?_
 exact (r.mw hd).hO hi λt=>(r2.mw J4).hO hj λu=>k i j t u H
theorem OH {x:Str} {e:Expr} (hi:c.slot x=some i) (ha:bC ag K n c e y):i9 ag K n c w (.AugAssign (.Name x np) .Sub e p) (.QB i y):=by
 intro k μ σ ρ s cn ok h
 have hs:=Cx.iS hi
 rw [←cn.cx.slots]at hs
 refine wpAny_AugAssign_Name ((ff.refl μ s _).step (f:=QO i (ev K y) ρ) h (DJ cn.eK cn.cx ok hi (R.ax (f:=QO i (ev K y) ρ) h)) λval v σ1 ν h1 tk O bt dF dG r1 e1 L1=>?_)
 refine L1.step (f:=QN i ρ v) e1 (ha k _ σ1 ρ _ cn.eK cn.cx bt (R.ax (f:=QN i ρ v) e1)) λsD v2 d8 ma h2 tk2 O fO gm fZ r2 e2 L2=>?_
 refine OG (R.ax e2) r1 r2 λa b t u q=>?_
 refine PyProof.Rows.isub_int ?_
 refine bv (o5 (E:=i4 k μ s _) (val:= .int (a -b) tk2) (v:= .d (.int (a -b))) (s:={s with heap:=h2,toks:=tk2+1}) cn.eK fO hs (cn.pT x (fJ hs)) (.d (.int _ _))) (λO s' g=>?_) λO O g=>g
 obtain ⟨h',hJ,rfl,pC,kh⟩:=g
 exact (L2.ext (o8 kh)).g _ _ (PS.fk pC (R.cf q) .next)
theorem Fm {w:World} {E: ~~~0} {s:Shared} {l:Addr} {i:Int} {t:Tok} {v:Value} {Q:Unit→Shared→Prop} (hl:s.heap.get? l=some (ew vs n)) (h0:0≤i) (wJ:i<2^63) (hn:i<vs.length)
  (hQ:∀h' n',h'.get? l=some (ew (vs.set i.toNat v) n')→Heap.SameBut l s.heap h'→Q () {s with heap:=h'}):wpAny (model prog w) A (setItem (.ref l) (.int i t) v) Q E s:=by
 have hL:=bM hl
 unfold setItem
 try with_reducible refine dA ?_
 first|refine aj (aB ?_)|skip
 refine aj (wpAny_sequenceKey hL.typeIs ∅ ?_)
 refine aj (wpAny_callSpecial?_slot (name:=Str.ofString "__setitem__") hL.typeIs slot_list_setitem
  (wpAny_call_entry slot_list_setitem hL.typeIs entry_list_setitem ?_ (args_list_setitem _ _ _)))
 show wpAny _ _ (Builtin.List.listSubscript? (.int i t)>>=_) _ _ s
 refine aj (wpAny_listSubscript_int (fitsIndex_of h0 wJ) ?_)
 clear wJ
 obtain ⟨j,rfl⟩:=AG h0
 have hj:j<vs.toArray.size:=by simp;lia
 have wT:vs.toArray[j]?=some vs.toArray[j]:=Array.getElem?_eq_getElem hj
 show wpAny _ _ ((seqItemAt l j>>=λr=>pure (r.map (j,·)))>>=_) _ _ s
 refine aj (aj (wpAny_seqItemAt hl H (aB ?_)))
 refine ae wT ?_
 show wpAny _ _ (setSeqItemAt l j v>>=_) _ _ s
 have aaX:∃n',(s.heap.update l (Obj.mapSeq (·.setIfInBounds j v))).get? l=some (ew (vs.set j v) n'):=by
  have:=oj (Obj.mapSeq (·.setIfInBounds j v)) hl H
  exact ⟨_,by refine ae this ?_;simp [Obj.mapSeq,ew];rfl⟩
 obtain ⟨n',hf⟩:=aaX
 refine aj (wpAny_setSeqItemAt hl H ?_)
 first
  |exact aj (aB (aB ⟨.none,H,aB (hQ _ n' hf (Heap.SameBut.update ..))⟩))
  |exact aB ⟨.none,rfl,aB (hQ _ n' hf (Heap.SameBut.update ..))⟩
end
variable {σ':St}
section
variable {s:Shared} {ag:F→cw}
theorem OI {a:At} {l:↑(Str×At)} (r:hW h X μ bP l):∀{l':↑(Str×At)},AJ key a l= .ok l'→(bP.any λkv=>decide (kv.1=key))=true:=by
 induction r with
 |nil=>exact λe=>R.no (e:)
 |@cons k0 v0 a0 bP l r0 r ih=>
  intro l' e
  refine ae List.any_cons ?_
  exact R.s8 (e:) (λhk O=>by rw [decide_eq_true (hk:k0=key)];rfl) λO e=>R.ah e λl2 hs O=>by refine ae (ih hs) ?_;rw [Bool.or_true]
theorem hW.stored {val:Value} {a:At} (ra:wB h X μ val a) {l:↑(Str×At)} (r:hW h X μ bP l):∀{l':↑(Str×At)},(bP.map (·.1)).Nodup→AJ key a l= .ok l'→hW h X μ (PySem.stored bP key val) l':=by
 induction r with
 |nil=>exact λO e=>R.no (e:)
 |@cons k0 v0 a0 bP l r0 r ih=>
  intro l' nd e
  have HF:=gP.mp (show(k0::bP.map (·.1)).Nodup from nd)
  refine R.s8 (e:) (λhk e=>?_) λhk e=>R.ah e λl2 hs e=>R.aF e ?_
  ·cases (show k0=key from hk)
   have h2:PySem.stored ((key,v0)::bP) key val=(key,val)::bP:=by
    unfold PySem.stored
    rw [ao (by simp),ef,ao H]
    have:bP.map (λkv=>if kv.1=key then(kv.1,val)else kv)=bP:=map_eq_self λx hx=>aN λ(q:x.1=key)=>HF.1 (q▸fq.mpr ⟨x,hx,H⟩)
    rw [this]
   rw [h2]
   exact R.aF e (.cons ra r)
  ·have h2:PySem.stored ((k0,v0)::bP) key val=(k0,v0)::PySem.stored bP key val:=by
    have oY:=OI r hs
    unfold PySem.stored
    rw [ao (by rw [List.any_cons,oY,Bool.or_true]),ao oY,ef,aN hk]
   rw [h2]
   exact .cons r0 (ih HF.2 hs)
theorem OJ {a:At} {l:↑(Str×At)}:∀{l':↑(Str×At)},AJ key a l= .ok l'→l'.length=l.length:=by
 induction l with
 |nil=>exact λe=>R.no (e:)
 |cons p r ih=>exact λe=>R.s8 (e:) (λO e=>R.aF e H) λO e=>R.ah e λl2 hs e=>R.aF e (aC (·+1) (ih hs))
theorem RW (key:Str) (a:At) (l:↑(Str×At)):NX (AJ key a l):=by
 induction l with
 |nil=>exact bj
 |cons p r ih=>exact .ite bm (ih.bind λO=>bm)
theorem RX {val:Value} {a:At} (r:RV k.prog k.w h X μ val v) (e:Mf v= .ok a):wB h X μ val a:=by
 induction r with
 |d rd=>exact R.aF (e:) (.d rd)
 |ref hn=>exact R.aF (e:) (.ref hn)
 |eO=>exact R.no (e:)
inductive Am (k:Kx) (μ:↑Addr) (ρ:↑V) (s:Shared) (σ':St) (s':Shared):Prop
 |mk (h':Heap) (tk:Nat):s'={s with heap:=h',toks:=tk}→Ok k μ σ' ρ h'→b7 (k.wr++μ) k.F s.heap h'→Am k μ ρ s σ' s'
theorem DV (hm:a∈μ) (g:Heap.SameBut a h h'):eU h h' (k.own++μ) (k.own++μ):=⟨λb o eb hb O=>(g.2 b λq=>hb (q▸bl _ hm)).trans eb,λO O O hb=>hb⟩
theorem OK {val:Value} {n0:Nat} {j:Int} {t:Tok} {E: ~~~0} (cn:eJ ag k n) (ok:Ok k μ σ ρ s.heap) (hm:μ[m]?=some a) (e1:s.heap.get? a=some (ew vs n0)) (r1:cJ s.heap (k.own++μ) vs l)
  (rd:RD s.heap (k.own++μ) val d) (hj:0≤j∧j<l.length∧j<1000):wpAny k.M k.A (setItem (.ref a) (.int j t) val) (λO s'=>Am k μ ρ s (σ.set m (.list (l.set j.toNat d))) s') E s:=by
 have oY:a∈μ:=fJ hm
 have cb:=r1.length
 refine Fm e1 hj.1 (Int.lt_trans hj.2.2 ∅) (by refine ae cb ?_;exact hj.2.1) λh' n' g1 g2=>?_
 exact ⟨h',s.toks,rfl,ok.Y5 hm g2 (.list g1 ((r1.set j.toNat rd).into (DV oY g2))) cn.good.tn,yq g2 g1 oY⟩
theorem OL {val:Value} {l l':↑(Str×At)} {y:Str} {t:Tok} {x:At} {E: ~~~0} (cn:eJ ag k n) (ok:Ok k μ σ ρ s.heap) (hm:μ[m]?=some a) (e1:s.heap.DictOf (strKind k.prog k.w) a bP) (hs:(a==sysModules)=false)
  (r1:hW s.heap (k.own++μ) μ bP l) (ra:wB s.heap (k.own++μ) μ val x) (hk:AJ y x l= .ok l') (hz:l'.length≤100):wpAny k.M k.A (setItem (.ref a) (.str y t) val) (λO s'=>Am k μ ρ s (σ.set m (.dict l')) s') E s:=by
 have oY:a∈μ:=fJ hm
 have nd:(bP.map (·.1)).Nodup:=by obtain ⟨_,_,_,_,_,_,_,_,hn⟩:=e1;exact hn
 refine wpAny_setItem_pairs (knd:=strKind k.prog k.w) (k:=y) (strKind_is _ _ _ _) e1 (λh' g1 g2=>?_) ?_
 ·obtain ⟨oo,_,_,RG,_⟩:=id g1
  exact ⟨h',_,rfl,ok.Y5 hm g2 (.dict g1 hs ((r1.stored ra nd hk).into (DV oY g2) (.refl _))) cn.good.tn,yq g2 RG oY⟩
 ·have h1:=OJ hk
  have h2:=r1.length
  refine ae sizeLine_eq ?_;exact fY (eL h2) (eG h1) hz
theorem OM {o i:Value} {val:Value} {q:V} {E: ~~~0} (cn:eJ ag k n) (ok:Ok k μ σ ρ s.heap) (ro:RV k.prog k.w s.heap (k.own++μ) μ o q) (ri:RD s.heap (k.own++μ) i x) (rv:RV k.prog k.w s.heap (k.own++μ) μ val v) (e:GS σ q x v= .ok σ'):
  wpAny k.M k.A (setItem o i val) (λO s'=>Am k μ ρ s σ' s') E s:=by
 induction ro with
 |@ref a m hm=>
  have e:QD σ m x v σ[m]?= .ok σ':=e
  generalize hc:σ[m]?=o0;induction o0 using di with
  |none=>rw [hc]at e;exact R.no (e:)
  |some c=>
   rw [hc]at e
   obtain ⟨a',nA,rc⟩:=ok.cells.get hc
   cases hm.symm.trans nA
   clear hc nA
   induction rc with
   |list e1 r1=>exact R.ah (e:) λj hj e=>R.ah e λd hd e=>R.bn e λhb e=>ri.hO hj λt=>R.aF e (OK cn ok hm e1 r1 (rv.mw hd) hb)
   |dict e1 hs r1=>exact R.ah (e:) λy hy e=>R.ah e λa ha e=>R.ah e λl' hk e=>R.bn e λhz e=>ri.ly hy λt=>R.aF e (OL cn ok hm e1 hs r1 (RX rv ha) hk hz)
 |_=>exact R.no (e:)
theorem RY (σ:St) (q:V) (x:D) (v:V):NX (GS σ q x v):=by
 induction q with
 |ref n=>
  show NX (QD σ n x v σ[n]?)
  generalize σ[n]?=o0;induction o0 using di with
  |none=>exact bj
  |some c=>induction c with
   |list=>exact .bind (ig _) λO=> .bind (dY _) λO=> .ite bm bj
   |dict=>exact .bind (jW _) λO=> .bind (by induction v using V.casesOn<;>first|exact bm|exact bj) λO=> .bind (RW _ _ _) λO=> .ite bm bj
 |_=>exact bj
end
section
variable {ag:F→cw}
theorem ON {r i e:Expr} {x z:E} (J8:∀t line env,swapsWith e (some t) line env=pure false) (hr:bC ag K n c r x) (hi:bC ag K n c i y) (he:bC ag K n c e z):i9 ag K n c w (.Assign [.Subscript r i np] e p) (.ui x y z):=by
 intro k μ σ ρ s cn ok h
 refine ae (exec_Assign_Subscript r i np e p (J8 _ _ _)) ?_
 refine aj (fL (aj ((ff.refl μ s _).step (f:=YS (ev K x) (ev K y) ρ) h (he k μ σ ρ s cn.eK cn.cx ok (R.ax (f:=YS (ev K x) (ev K y) ρ) h)) λval v σ1 ν h1 tk O bt dF dG r1 e1 L1=>?_)))
 rw [arm_assign_Subscript]
 refine aj (aj (dA (L1.step (f:=YR (ev K y) ρ v) e1 (hr k _ σ1 ρ _ cn.eK cn.cx bt (R.ax (f:=YR (ev K y) ρ v) e1)) λo q d8 ma h2 tk2 O fO gm fZ r2 e2 L2=>?_)))
 refine aj (dA (L2.step (f:=YQ ρ v q) e2 (hi k _ d8 ρ _ cn.eK cn.cx fO (R.ax (f:=YQ ρ v q) e2)) λiv t uJ ν3 h3 A1 O pC kh Hq r3 e3 L3=>?_))
 refine (dY t).get (R.ax (R.ax e3)) λd hd=>?_
 refine (RY uJ q d v).get (R.jC (f:=λx=>GS uJ q x v) hd (R.ax e3)) λvr hs=>?_
 refine aj (fL (aj (dA (bv (OM (E:=i4 k μ s _) cn.eK pC (r2.jt fO kh Hq) (r3.mw hd) ((r1.jt bt gm fZ).jt fO kh Hq) hs) (λO s' g=>?_) λO O g=>g))))
 obtain ⟨h',hJ,rfl,uH,nD⟩:=g
 exact wpAny_release (aB ((L3.ext nD).g _ _ (PS.fk uH (R.cf ((R.cf hd).trans hs)) .next)))
theorem J9 {val:Value} (ok:Ok k μ σ ρ h) (r:RV k.prog k.w h X μ val (.ref m)) (hl:σ[m]?=some (.list l)):
  s6 λa vs nn=>CD (val= .ref a) (μ[m]?=some a) (h.get? a=some (ew vs nn)) (cJ h (k.own++μ) vs l):=by
 cases r with
 |@ref a _ hm=>
  obtain ⟨a',nA,hc⟩:=ok.cells.get hl
  rw [hm]at nA;have nA:=bb nA;subst nA
  cases hc with
  |list e1 r1=>exact ⟨a,_,_,rfl,hm,e1,r1⟩
theorem vx {s:Shared} {nn:Nat} {f:Array Value→Array Value} (cn:eJ ag k n) (ok:Ok k μ σ ρ s.heap) (hm:μ[m]?=some a) (e1:s.heap.get? a=some (ew vs nn))
  (hf:f vs.toArray=us.toArray) (rd:cJ s.heap (k.own++μ) us l):Ok k μ (σ.set m (.list l)) ρ (s.heap.update a (Obj.mapSeq f))∧b7 (k.wr++μ) k.F s.heap (s.heap.update a (Obj.mapSeq f)):=by
 have hs:Heap.SameBut a s.heap (s.heap.update a (Obj.mapSeq f)):=Heap.SameBut.update ..
 have hg:∃n',(s.heap.update a (Obj.mapSeq f)).get? a=some (ew us n'):=by
  have:=oj (Obj.mapSeq f) e1 H
  exact ⟨_,by refine ae this ?_;simp only [Obj.mapSeq,ew,hf];rfl⟩
 obtain ⟨n',hg⟩:=hg
 have oY:a∈μ:=fJ hm
 have ii:eU s.heap (s.heap.update a (Obj.mapSeq f)) (k.own++μ) (k.own++μ):=⟨λb o eb hb O=>(hs.2 b λqq=>hb (qq▸bl _ oY)).trans eb,λO O O hb=>hb⟩
 exact ⟨ok.Y5 hm hs (.list hg (rd.into ii)) cn.good.tn,yq hs hg oY⟩
theorem vy {e:Expr} {Q:Flow→Shared→Prop} {E: ~~~0} {s:Shared} (g:k.G5) (hi:∀env line,swapsWith e none line env=pure false) (h:wpAny k.M k.A (eval e k.env) (λv s'=>v= .none∧Q .next s'∨(∀a,v≠ .ref a)∧Q .next s') E s):
  wpAny k.M k.A (exec (.Expr e p) k.env) Q E s:=
 wpAny_Expr (bv h (λv s' q=>by
  rcases q with⟨rfl,q⟩|⟨hv,q⟩
  ·exact q
  ·induction v using Value.casesOn<;>first|exact q|exact al H (hv _)) λO O q=>q) (by unfold interactive;rw [g.fn];rfl) (hi _ _)
theorem vz {s:Shared} {nn:Nat} {args:↑(Bool×Sem Value)} {E: ~~~0} (e1:s.heap.get? a=some (ew vs nn)) (slot:Slot "list" name id) (ty:typeOf (.builtin id)=pure (.type "method_descriptor"))
  (h:wpAny k.M k.A (callWith p (.builtin id) [.ref a] args []) Q E s):MethodOnS k.prog k.w k.A E name (.ref a) p args Q s:=
 ⟨"list",id,PySem.F.plainAttrs_list,slot,ty,⟨_,e1,rfl⟩,λb q=>by injection q with q;subst q;exact ⟨_,e1,H⟩,h⟩
theorem CQ {o:Option iq} (h:eQ o= .ok l):o=some (.list l):=by
 induction o with
 |none=>exact R.no h
 |some c=>induction c with
  |list l'=>exact R.aF (P:=λl=>some (iq.list l')=some (.list l)) h H
  |dict=>exact R.no h
theorem J' {o:Option α} {x:α} (h:pN o= .ok x):o=some x:=by
 induction o with
 |none=>exact R.no h
 |some y=>exact R.aF (P:=λx=>some y=some x) h H
theorem RD.RZ {b:Addr} (r:RD h X (.ref b) z) {P:Prop} (hf:flat z=true):P:=by
 cases r<;>cases hf
theorem R3 (ke:vs.length -1<vs.length):vs.toArray.eraseIdxIfInBounds (vs.toArray.size -1)=vs.dropLast.toArray:=by
 rw [dN,Array.eraseIdxIfInBounds];refine ae (dif_pos (by rw [dN];exact ke)) ?_
 apply Array.toList_inj.mp
 simp only [Array.toList_eraseIdx]
 exact List.eraseIdx_eq_dropLast (wb (li (dK _) ke))
theorem Bg {f:Nat→↑D→R β} {P:Prop} (ok:Ok k μ σ ρ h) (r:RV k.prog k.w h X μ (.ref a) v) (hb:((tf v).bind λn=>(eQ σ[n]?).bind (f n))≠ .aQ)
  (kk:∀m l vs nn,μ[m]?=some a→h.get? a=some (ew vs nn)→cJ h (k.own++μ) vs l→f m l≠ .aQ→((tf v).bind λn=>(eQ σ[n]?).bind (f n))=f m l→P):P:=by
 cases r with
 |@ref _ m hm=>
  have hb:(eQ σ[m]?).bind (f m)≠ .aQ:=hb
  refine (nB σ[m]?).get (R.ax hb) λl hl=>?_
  obtain ⟨a',vs,nn,q,CG,g1,g2⟩:=J9 ok (.ref hm:RV k.prog k.w h X μ (.ref a) (.ref m)) (CQ hl)
  injection q with q
  subst q
  exact kk m l vs nn hm g1 g2 (R.jC hl hb) (R.cf hl)
 |_=>exact al H hb
@[elab_as_elim] theorem uo {f:Nat→↑D→R β} {val:Value} {P:Value→Prop} (ok:Ok k μ σ ρ h) (r:RV k.prog k.w h X μ val v) (hb:((tf v).bind λn=>(eQ σ[n]?).bind (f n))≠ .aQ)
  (kk:∀a m l vs nn,RV k.prog k.w h X μ (.ref a) v→μ[m]?=some a→h.get? a=some (ew vs nn)→cJ h (k.own++μ) vs l→f m l≠ .aQ→((tf v).bind λn=>(eQ σ[n]?).bind (f n))=f m l→P (.ref a)):P val:=by
 have r':=r
 induction r with
 |ref=>exact Bg ok r' hb λm l vs nn=>kk _ m l vs nn r'
 |_=>exact al H hb
theorem OO {o e:Expr} {x:E} {q:Pos} (hb:j' o=true) (hl:(ap.endLine==p.line)=true) (hs:dP [e]) (ho:bC ag K n c o x) (he:bC ag K n c e y):
  i9 ag K n c w (.Expr (.Call (.Attribute o ("append":Str) ap) [e] [] p) q) (.jh x y):=by
 intro k μ σ ρ s cn ok h
 refine vy cn.eK.good (λO O=>rfl) (Call_method1 (tx hb _ _) (hs.1 [] k.env) hl ?_)
 refine (ff.refl μ s _).step (f:=Dz Mk (ev K y) ρ) h (ho k μ σ ρ s cn.eK cn.cx ok (R.ax (f:=Dz Mk (ev K y) ρ) h)) λval v σ1 ν h1 tk O bt dF dG r1 e1 L1=>?_
 refine uo bt r1 (R.ax e1) λa m l0 vs nn r1 hm g1 g2 O Ka=>?_
 refine vz g1 PySem.F.slot_list_append PySem.F.type_list_append (P.append_list ?_)
 have Kb:=R.cf (f:=λO=>(ev K y ρ σ1).bind (QM Mk ρ v)) Ka
 refine L1.RQ Kb e1 (he k _ σ1 ρ _ cn.eK cn.cx bt (R.ax λq=>e1 (Kb.trans q))) λsD v2 d8 ma h2 tk2 O fO gm fZ r2 e2 L2=>?_
 refine Bg fO (r1.jt bt gm fZ) (R.ax e2) λm l Ff VT CG uK vA hf Zl=>?_
 refine (dY v2).get (R.ax hf) λd hd=>?_
 have hz:=R.lI hd hf
 refine ⟨Ff.toArray,VT,?_,uK,?_⟩
 ·refine ae dN (ae vA.length ?_);exact l9 (Nat.le_of_lt hz)
 obtain ⟨pC,kh⟩:=vx (s:={s with heap:=h2,toks:=tk2}) cn.eK fO CG uK (f:=λxs=>xs.push sD) (us:=Ff++[sD]) (by simp) (vA.append {r2.mw hd})
 exact .inl ⟨rfl,(L2.ext (tk:=tk2) kh).g _ _ (PS.fk pC (R.cf (Zl.trans ((R.cf hd).trans (ao hz)))) .next)⟩
theorem OP {o:Expr} {x:E} {q:Pos} (hb:j' o=true) (hl:(ap.endLine==p.line)=true) (ho:bC ag K n c o x):
  i9 ag K n c w (.Expr (.Call (.Attribute o ("pop":Str) ap) [] [] p) q) (.QC x):=by
 intro k μ σ ρ s cn ok h
 refine vy cn.eK.good (λO O=>rfl) (Call_method0 (tx hb _ _) hl ?_)
 refine (ff.refl μ s _).step (f:=λp=>GW ρ (QK p.2 p.1)) h (ho k μ σ ρ s cn.eK cn.cx ok (R.ax (f:=λp=>GW ρ (QK p.2 p.1)) h)) λval v σ1 ν h1 tk O bt dF dG r1 e1 L1=>?_
 refine uo bt r1 (R.ax e1) λa m l vs nn O hm g1 g2 hf Ka=>?_
 refine (wI l.getLast?).get (R.ax hf) λz Zm=>?_
 have hz:=R.lI Zm hf
 have cb:=g2.length
 have hzl:l.getLast?=some z:=J' Zm
 have ke:vs.length -1<vs.length:=Nat.sub_lt (by refine ae cb ?_;exact List.length_pos_iff.mpr λq=>by subst q;cases hzl) Nat.one_pos
 have hrd:=g2.at (fE ke) (by refine ae cb (dg List.getLast?_eq_getElem? ?_);exact hzl)
 refine vz g1 PySem.F.slot_list_pop PySem.F.type_list_pop (P.pop_list (y:=vs[vs.length -1]) g1 (by simp [ke]) ?_ (by refine ae dN (ae cb ?_);exact l9 hz.2))
 obtain ⟨pC,kh⟩:=vx (s:={s with heap:=h1,toks:=tk}) cn.eK bt hm g1 (f:=λxs=>xs.eraseIdxIfInBounds (vs.toArray.size -1)) (R3 ke) g2.dropLast
 exact .inr ⟨λb q=>(q▸hrd).RZ hz.1,(L1.ext (tk:=tk) kh).g _ _ (PS.fk pC (R.cf (Ka.trans ((R.cf Zm).trans (ao hz)))) .next)⟩
end
section
variable {ag:F→cw}
theorem R4 (v:V):NX (Mj v):= .bind (dY v) λd=>by induction d using D.casesOn<;>first|exact bj|exact bm
@[elab_as_elim] theorem OQ {w:World} {val:Value} {P:Value→Prop} (r:RV prog w h X μ val v) (e:Mj v= .ok l) (kt:∀a vs n,h.get? a=some (n9 vs n)→cJ h X vs l→P (.ref a)) (kl:∀a vs n,h.get? a=some (ew vs n)→cJ h X vs l→P (.ref a)):P val:=by
 refine R.ah (e:) λd hd e=>?_
 have rd:=r.mw hd
 clear r hd
 induction rd using RD.casesOn with
 |J g _ r=>exact R.aF (P:=λl=>(∀a vs n,h.get? a=some (n9 vs n)→cJ h X vs l→P (.ref a))→P (.ref _)) (e:) (λkt=>kt _ _ _ g r) kt
 |aD g _ r=>exact R.aF (P:=λl=>(∀a vs n,h.get? a=some (ew vs n)→cJ h X vs l→P (.ref a))→P (.ref _)) (e:) (λkt=>kt _ _ _ g r) kl
 |_=>exact R.no (e:)
theorem DW (hl:vs.length=m) (hu:us.length=n) (hz:m+n≤aT):vs.toArray.size≤sizeLine∧¬(!vs.toArray.isEmpty&&Builtin.List.listTooLong (vs.toArray.size+us.toArray.size))=true∧vs.toArray.size+us.toArray.size≤sizeLine+1:=by
 subst hl hu
 have h2:=l9 hz
 have:Builtin.List.listTooLong (vs.toArray.size+us.toArray.size)=false:=by
  unfold Builtin.List.listTooLong
  rw [decide_eq_false_iff_not,dN];refine ae dN ?_
  exact Nat.not_lt.mpr h2
 refine ⟨?_,by refine ae this ?_;simp,?_⟩
 ·refine ae dN ?_;exact aM (mY _ _) h2
 ·refine ae dN (ae dN ?_);exact wc h2
theorem OR {o e:Expr} {x:E} {q:Pos} (hb:j' o=true) (hl:(ap.endLine==p.line)=true) (hs:dP [e]) (ho:bC ag K n c o x) (he:bC ag K n c e y):
  i9 ag K n c w (.Expr (.Call (.Attribute o ("extend":Str) ap) [e] [] p) q) (.ext x y):=by
 intro k μ σ ρ s cn ok h
 refine vy cn.eK.good (λO O=>rfl) (Call_method1 (tx hb _ _) (hs.1 [] k.env) hl ?_)
 refine (ff.refl μ s _).step (f:=Dz Ml (ev K y) ρ) h (ho k μ σ ρ s cn.eK cn.cx ok (R.ax (f:=Dz Ml (ev K y) ρ) h)) λval v σ1 ν h1 tk O bt dF dG r1 e1 L1=>?_
 refine uo bt r1 (R.ax e1) λa m l0 vs nn r1 hm g1 g2 O Ka=>?_
 refine vz g1 PySem.F.slot_list_extend PySem.F.type_list_extend (seqMethod1_meets PySem.F.slot_list_extend PySem.F.entry_list_extend ?_)
 have Kb:=R.cf (f:=λO=>(ev K y ρ σ1).bind (QM Ml ρ v)) Ka
 refine L1.RQ Kb e1 (he k _ σ1 ρ _ cn.eK cn.cx bt (R.ax λq=>e1 (Kb.trans q))) λsD v2 d8 ma h2 tk2 O fO gm fZ r2 e2 L2=>?_
 refine Bg fO (r1.jt bt gm fZ) (R.ax e2) λm l Ff VT CG uK vA hf Zl=>?_
 refine (R4 v2).get (R.ax hf) λd hd=>?_
 have hz:=R.lI hd hf
 have cC:∀(us:↑Value),cJ h2 (k.own++(μ++ν++ma)) us d→PS k μ s (ex K w (.ext x y) ρ σ) .next {s with heap:=h2.update a (Obj.mapSeq λxs=>xs++us.toArray),toks:=tk2}:=by
  intro us VU
  obtain ⟨pC,kh⟩:=vx (s:={s with heap:=h2,toks:=tk2}) cn.eK fO CG uK (f:=λxs=>xs++us.toArray) (us:=Ff++us) (by simp) (vA.append VU)
  exact (L2.ext (tk:=tk2) kh).g _ _ (PS.fk pC (R.cf (Zl.trans ((R.cf hd).trans (ao hz)))) .next)
 refine OQ r2 hd (λb us n2 b1 b3=>?_) λb us n2 b1 b3=>?_
 ·have dr:=DW vA.length b3.length hz
  exact ⟨⟨_,uK,rfl⟩,PySem.F.args_list_extend_2 _ _,_,AutoSeq1.list_extend_list_tuple_0 a Ff.toArray VT b us.toArray n2 dr.2.1 dr.1 dr.2.2,uK,b1, .inl ⟨H,cC us b3⟩⟩
 ·have dr:=DW vA.length b3.length hz
  exact ⟨⟨_,uK,rfl⟩,PySem.F.args_list_extend_2 _ _,_,AutoSeq1.list_extend_list_list_0 a Ff.toArray VT b us.toArray n2 dr.2.1 dr.1 dr.2.2,uK,b1, .inl ⟨H,cC us b3⟩⟩
end
inductive ju (k:Kx):↑Expr→↑Nat→Prop
 |nil:ju k [] []
 |cons {x:Str} {p:Pos} {i:Nat} {es:↑Expr} {xs:↑Nat}:k.slots[i]?=some x→Wr k x→ju k es xs→ju k (.Name x p::es) (i::xs)
inductive jl (k:Kx):Expr→Tg→Prop
 |dj {x:Str} {p:Pos} {i:Nat}:k.slots[i]?=some x→Wr k x→jl k (.Name x p) (.dj i)
 |aO {es:↑Expr} {kk:Nat} {p:Pos} {xs:↑Nat}:ju k es xs→jl k (.Tuple es kk p) (.aO xs)
section
variable {ag:F→cw}
theorem ju.length {xs:↑Nat} (h:ju k es xs):es.length=xs.length:=by
 induction h with
 |nil=>rfl
 |cons _ _ _ ih=>simp [ih]
theorem ju.DM {xs:↑Nat} (h:ju k es xs) (env:Env):assignEach es env=es.map λe=>(false,assign e env):=by
 induction h with
 |nil=>rfl
 |@cons x p i es xs _ _ _ ih=>refine ae ef (dg ih ?_);rfl
theorem yr {s:Shared} {x:Str} {val:Value} {E: ~~~0} {Q:Unit→Shared→Prop} (cn:eJ ag k n) (ok:Ok k μ σ ρ s.heap) (hi:k.slots[i]?=some x) (hf:Wr k x) (rv:RV k.prog k.w s.heap (k.own++μ) μ val v)
  (h:∀h' tk,Ok k μ σ (ρ.set i v) h'→b7 k.wr k.F s.heap h'→Q () {s with heap:=h',toks:=tk}):wpAny k.M k.A (assign (.Name x p) k.env val) Q E s:=
 wpAny_assign_Name (bv (o5 (E:=E) cn ok hi hf rv) (λO s' g=>by obtain ⟨h',tk,rfl,a,b⟩:=g;exact h h' tk a b) λO O g=>g)
theorem cJ.Kc {val:↑Value} {x:↑D} (r:cJ h (k.own++μ) val x) (ok:Ok k μ σ ρ h) (cn:eJ ag k n) (e:b7 k.wr k.F h h'):cJ h' (k.own++μ) val x:=
 r.into (.ext (X:=k.own++μ) (F:=k.F) (e.mono λa ha=> .inl (aW _ (cn.good.nV a ha))) (λa ha=>aW _ (ok.dM a ha)) λa ha=> .inl ha)
theorem Kd {E: ~~~0} (cn:eJ ag k n) {xs:↑Nat} (t:ju k es xs):∀{vals:↑Value} {l:↑D} {ρ:↑V} {s:Shared} {Q:Unit→Shared→Prop},Ok k μ σ ρ s.heap→cJ s.heap (k.own++μ) vals l→l.length=xs.length→
  (∀h' tk,Ok k μ σ ((xs.zip l).foldl (λr p=>r.set p.1 (.d p.2)) ρ) h'→b7 k.wr k.F s.heap h'→Q () {s with heap:=h',toks:=tk})→
  wpAny k.M k.A (assignInOrder (es.map λe=>assign e k.env) vals) Q E s:=by
 induction t with
 |nil=>
  intro vals l ρ s Q ok r hl h
  obtain rfl:l=[]:=xW.mp hl
  cases r
  exact aB (h s.heap s.toks ok (.refl _))
 |cons hi hf ht ih=>
  intro vals l ρ s Q ok r hl h
  induction r using cJ.casesOn with
  |nil=>exact nomatch hl
  |@cons v vs d l a r=>
   refine aj (dA (yr cn ok hi hf (.d a) λh' tk bt e1=>?_))
   exact ih bt (r.Kc ok cn e1) (ug hl) λgC hJ fO e2=>h gC hJ fO (e1.trans e2 λa ha=> .inl ha)
theorem dJ.Bh (x:Heap.ExtBut h.objs.size h h'):dJ h h':=λb o e=>x b o (λq=>(cN.size h).not (q▸e)) e
theorem tG {s:Shared} {t:Expr} {tg:Tg} {val:Value} {E: ~~~0} {Q:Unit→Shared→Prop} (cn:eJ ag k n) (ok:Ok k μ σ ρ s.heap) (ht:jl k t tg) (rd:RD s.heap (k.own++μ) val x) (e:bk tg (.d x) ρ= .ok bX)
  (h:∀h' tk,Ok k μ σ bX h'→b7 k.wr k.F s.heap h'→Q () {s with heap:=h',toks:=tk}):wpAny k.M k.A (assign t k.env val) Q E s:=by
 induction ht using jl.casesOn with
 |dj hi hf=>
  simp only [bk,R.ok.injEq]at e;subst e
  exact yr cn ok hi hf (.d rd) h
 |@aO es kk p xs ht=>
  induction rd using RD.casesOn with
  |@J a vs nn l e1 x1 r1=>
   refine R.bn (e:(if l.length=xs.length then R.ok _ else R.aQ)=R.ok bX) λcb e=>?_
   ·obtain rfl:=R.ok.inj e
    have hT:s.heap.IsTuple a vs.toArray:=⟨_,e1,rfl,nn,rfl⟩
    have MN:(assignEach es k.env).map (·.2)=es.map λe=>assign e k.env:=by rw [ht.DM];simp
    refine PySem.wpAny_assign_Tuple cn.good.handled hT ?_ ?_ λh1 g1=>?_
    ·rw [ht.DM,fb,dN,r1.length,cb,ht.length]
    ·rw [ht.DM];simp
    ·refine ae MN ?_
     have kp:=dJ.Bh g1
     refine Kd (s:={s with heap:=h1}) cn ht (ok.keep kp) (r1.keep kp) cb λh' tk fO e2=>?_
     exact h h' tk fO ((b7.of_keep kp).trans e2 λa ha=> .inl ha)
  |_=>exact R.no (e:)
theorem zr (t:Tg) (v:V) (ρ:↑V):NX (bk t v ρ):=by
 induction t using Tg.casesOn with
 |dj=>exact bm
 |aO xs=>exact .bind (dY v) λy=> .bind (by induction y using D.casesOn<;>first|exact bj|exact bm) λl=>show NX (if l.length=xs.length then R.ok _ else .aQ)from .ite bm bj
theorem Bi (t:Tg) (x:D) (ρ:↑V) (m:Str):bk t (.d x) ρ≠ .dW m:=zr t (.d x) ρ m
end
theorem Bj {f:α→Option β} {l:↑α}:(l.filterMap f).length=l.length→l.map f=(l.filterMap f).map some:=by
 induction l with
 |nil=>exact λ_=>rfl
 |cons a l dS=>
  intro h
  generalize hf:f a=o0;induction o0 using di with
  |none=>
   rw [lU,hf]at h
   have:=List.length_filterMap_le f l
   simp at h;lia
  |some b=>
   rw [lU,hf]at h⊢
   exact ae ef (ae ef (ae hf (ae (dS (by simpa using h)) H)))
@[elab_as_elim] theorem tH {c:Prop} [Decidable c] {a b:α} {P:α→Prop} (h1:P a) (h2:¬c→P b):P (if c then a else b):=by
 by_cases h:c
 ·refine ae (ao h) ?_;exact h1
 ·refine ae (aN h) ?_;exact h2 h
theorem HG (env:Env) (es:↑Expr) (kk:Nat) (np:Pos) (vs:↑Expr) (k2:Nat) (p2:Pos):∃(f:Expr→Option Str) (c1 c2 c3:Bool) (u:Sem (Option ↑Str)),swappedStores [.Tuple es kk np] (.Tuple vs k2 p2) env=
  (if c1=true then pure none else if c2=true then pure none else if c3=true then pure none else if vs.all (foldedForSure 8)=true then pure none else if vs.all (constantsAlone 8)=true then u else pure (some (es.filterMap f)))∧
   (c3=false→(es.filterMap f).length=es.length)∧∀x p,f (.Name x p)=some x∨f (.Name x p)=none:=
 ⟨_,_,_,_,_,rfl,λh=>bne_eq_false_iff_eq.mp (Bool.or_eq_false_iff.mp h).1,λx p=>tH (P:=λX=>X=some x∨X=none) (.inl H) λO=> .inr H⟩
theorem CR (env:Env) (es:↑Expr) (kk:Nat) (np:Pos) (v:Expr) (hv:QT v=true):
  swappedStores [.Tuple es kk np] v env=pure none∨g9 λ(f:Expr→Option Str) (names:↑Str)=>qh (swappedStores [.Tuple es kk np] v env=pure (some names)) (es.map f=names.map some) (∀x p,f (.Name x p)=some x∨f (.Name x p)=none):=by
 induction v using ng with
 |Tuple vs k2 p2=>
  obtain ⟨f,c1,c2,c3,u,e,h3,hf⟩:=HG env es kk np vs k2 p2
  rw [e]
  refine tH (.inl H) λO=>tH (.inl H) λO=>tH (.inl H) λq=>tH (.inl H) λh4=>?_
  have h5:¬(vs.all (constantsAlone 8))=true:=λh=>(Bool.or_eq_true_iff.mp (hv:(vs.all (foldedForSure 8)||!vs.all (constantsAlone 8))=true)).elim h4 λq=>by rw [h]at q;exact bL q
  rw [aN h5]
  exact .inr ⟨f,_,rfl,Bj (h3 (Bool.eq_false_iff.mpr q)),hf⟩
 |_=>exact .inl H
theorem sF {ρ:↑α} {v:α}:∀{L:↑(Nat×α)},(∀p∈L,p.1≠i)→L.foldl (λr p=>r.set p.1 p.2) (ρ.set i v)=(L.foldl (λr p=>r.set p.1 p.2) ρ).set i v
 |[],_=>rfl
 |p::L,h=>by
  exact ae wg (ae wg (ae (List.set_comm _ _ (Ne.symm (h p bZ))) (ae (sF λq hq=>h q (bY _ hq)) H)))
theorem vB {ρ:↑α} {L:↑(Nat×α)}:(L.map (·.1)).Nodup→L.reverse.foldl (λr p=>r.set p.1 p.2) ρ=L.foldl (λr p=>r.set p.1 p.2) ρ:=by
 induction L with
 |nil=>exact λ_=>rfl
 |cons p L dS=>
  intro h
  have h':=gP.mp (by simpa using h:(p.1::L.map (·.1)).Nodup)
  refine ae List.reverse_cons (ae List.foldl_append (ae (dS h'.2) (ae wg ?_)))
  exact (sF λq hq (e:q.1=p.1)=>h'.1 (e▸fq.mpr ⟨q,hq,H⟩)).symm
section
variable {ag:F→cw}
theorem zP {xs:↑Nat} (hn:xs.Nodup) (hl:l.length=xs.length):(xs.reverse.zip l.reverse).foldl (λr p=>r.set p.1 (V.d p.2)) ρ=(xs.zip l).foldl (λr p=>r.set p.1 (V.d p.2)) ρ:=by
 have conv:∀(xs:↑Nat) (l:↑D) (ρ:↑V),(xs.zip l).foldl (λr p=>r.set p.1 (V.d p.2)) ρ=(xs.zip (l.map V.d)).foldl (λr p=>r.set p.1 p.2) ρ:=by
  intro xs
  induction xs with
  |nil=>intro l ρ;rfl
  |cons x xs ih=>
   intro l ρ
   induction l with
   |nil=>rfl
   |cons d l=>dsimp only [List.map_cons,List.zip_cons_cons,List.foldl_cons];exact ih l _
 rw [conv,conv,List.map_reverse,show xs.reverse.zip (l.map V.d).reverse=(xs.zip (l.map V.d)).reverse from(List.reverse_zipWith (by simp [hl])).symm]
 refine vB ?_
 rw [List.map_fst_zip (by simp [hl])]
 exact hn
theorem Ke {E: ~~~0} (cn:eJ ag k n) {names:↑Str}:∀{xs:↑Nat} {vals:↑Value} {l:↑D} {ρ:↑V} {s:Shared} {Q:Unit→Shared→Prop},
  names.length=xs.length→(∀(j:Nat) x i,names[j]?=some x→xs[j]?=some i→k.slots[i]?=some x∧Wr k x)→Ok k μ σ ρ s.heap→cJ s.heap (k.own++μ) vals l→l.length=xs.length→
  (∀h' tk,Ok k μ σ ((xs.zip l).foldl (λr p=>r.set p.1 (.d p.2)) ρ) h'→b7 k.wr k.F s.heap h'→Q () {s with heap:=h',toks:=tk})→
  wpAny k.M k.A (assignInOrder (names.map λn=>bindName k.env n) vals) Q E s:=by
 induction names with
 |nil=>
  intro xs vals l ρ s Q hn hx ok r hl h
  induction xs using bu with
  |nil=>
   obtain rfl:l=[]:=xW.mp hl
   cases r
   exact aB (h s.heap s.toks ok (.refl _))
  |cons=>exact nomatch hn
 |cons x names ih=>
  intro xs vals l ρ s Q hn hx ok r hl h
  induction xs using bu with
  |nil=>exact nomatch hn
  |cons i xs=>
   induction r using cJ.casesOn with
   |nil=>exact nomatch hl
   |@cons v vs d l a r=>
    obtain ⟨hi,hf⟩:=hx 0 x i rfl rfl
    refine aj (dA (wpAny_bindName (bv (o5 (E:=E) cn ok hi hf (.d a)) (λO s' g=>?_) λO O g=>g)))
    obtain ⟨h',tk,rfl,bt,e1⟩:=g
    exact ih (ug hn) (λj x i h1 h2=>hx (j+1) x i h1 h2) bt (r.Kc ok cn e1) (ug hl) λgC hJ fO e2=>h gC hJ fO (e1.trans e2 λa ha=> .inl ha)
theorem ju.at {xs:↑Nat} (h:ju k es xs):∀(j:Nat) (i:Nat),xs[j]?=some i→g9 λx p=>qh (es[j]?=some (.Name x p)) (k.slots[i]?=some x) (Wr k x):=by
 induction h with
 |nil=>intro j i h;simp at h
 |@cons x p i es xs h1 h2 _ ih=>
  intro j i' hj
  induction j with
  |zero=>simp only [List.getElem?_cons_zero,Option.some.injEq]at hj;subst hj;exact ⟨x,p,rfl,h1,h2⟩
  |succ j=>simpa using ih j i' (by simpa using hj)
theorem Kf {v:Expr} {xs:↑Nat} (J8:∀t line env,swapsWith v (some t) line env=pure false) (hv:QT v=true) (hn:xs.Nodup) (ht:∀k,nH ag n c k→ju k es xs) (ha:bC ag K n c v y):
  i9 ag K n c w (.Assign [.Tuple es kk np] v p) (.qJ xs y):=by
 intro k μ σ ρ s cn ok h
 have OS:=ht k cn
 show wpAny _ _ (do
  standAt p
  if←swapsWith v (some (.Tuple es kk np)) p.line k.env then do
   evalThenUse v k.env λv=>assignAll v ((assignEach [.Tuple es kk np] k.env).map (·.2))
   pure .next
  else do
   let v'←eval v k.env
   assignStores k.env v' (←swappedStores [.Tuple es kk np] v k.env) ((assignEach [.Tuple es kk np] k.env).map (·.2))) _ _ _
 rw [J8]
 refine aj (fL (aj (aB ?_)))
 refine ae (aN gA) ?_
 refine aj ((ff.refl μ s _).step h (ha k μ σ ρ s cn.eK cn.cx ok (R.ax h)) λval v1 σ1 ν h1 tk O bt dF dG r1 e1 L1=>?_)
 simp only at e1 L1
 refine NX.get (zr (.aO xs) v1 ρ) (R.ax e1) λbX hA=>?_
 rw [hA,R.dv]at L1
 refine R.ah (show(gI v1).bind _=R.ok bX from hA) λd hd hA=>?_
 have rd:=r1.mw hd
 rcases CR k.env es kk np v hv with hq|⟨f,names,hq,MN,hf⟩
 ·refine ae hq ?_
  refine aj (aB ?_)
  show wpAny _ _ (do assignAll val [assign (.Tuple es kk np) k.env];pure Flow.next) _ _ _
  refine aj ?_
  show wpAny _ _ (assign (.Tuple es kk np) k.env val) _ _ _
  exact tG (s:={s with heap:=h1,toks:=tk}) cn.eK bt (.aO OS) rd hA λh' hJ fO e2=>aB ((L1.ext (o8 e2)).g _ _ (PS.fk fO H .next))
 ·refine ae hq ?_
  refine aj (aB ?_)
  have cb:names.length=es.length:=by
   have:=aC List.length MN
   simpa using this.symm
  refine R.ah (show(Jr d).bind _=R.ok bX from hA) λl RN hA2=>R.bn hA2 λhl hA3=>?_
  obtain rfl:=R.ok.inj hA3
  induction rd using RD.casesOn with
  |@J a vs nn l' Kb x1 r1=>
    cases (show R.ok l'=R.ok l from RN)
    have hT:h1.IsTuple a vs.toArray:=⟨_,Kb,rfl,nn,rfl⟩
    show wpAny _ _ (do
     rule "assign.swapped-stores"
     let aZ←unpackItems (.ref a) names.length none
     assignInOrder (names.reverse.map λn=>bindName k.env n) aZ.reverse
     pure Flow.next) _ _ _
    refine aj (wpAny_rule (aj ?_))
    have hsz:names.length=vs.toArray.size:=by exact ae cb (ae OS.length (ae dN (ae r1.length (ae hl H))))
    refine ae hsz ?_
    refine wpAny_unpackItems_tuple cn.eK.good.handled hT λh2 g2=>?_
    have kp:=dJ.Bh g2
    refine aj (Ke (s:={s with heap:=h2,toks:=tk}) (xs:=xs.reverse) (l:=l.reverse) cn.eK (by simp [cb,OS.length]) (λj x i hj hi=>?_) (bt.keep kp) (r1.keep kp).reverse (by simp [hl]) λh' hJ fO e2=>aB ?_)
    ·have hj':j<xs.length:=by
      have:=(jo.mp hi).1
      simpa using this
     have e1:xs[xs.length -1 -j]?=some i:=by rw [List.getElem?_reverse (by simpa using hj')]at hi;exact hi
     have e2:names[names.length -1 -j]?=some x:=by
      rw [List.getElem?_reverse (by refine ae cb (ae OS.length ?_);exact hj')]at hj;exact hj
     obtain ⟨x',p',q1,q2,q3⟩:=OS.at _ _ e1
     have qr:names.length -1 -j=xs.length -1 -j:=by exact ae cb (ae OS.length H)
     rw [qr]at e2
     have q4:(es.map f)[xs.length -1 -j]?=some (some x):=by refine ae MN (ae lj (ae e2 ?_));rfl
     rw [lj,q1]at q4
     simp only [Option.map_some,Option.some.injEq]at q4
     have:x'=x:=by
      rcases hf x' p' with q5|q5
      ·rw [q5]at q4;injection q4
      ·rw [q5]at q4;exact nomatch q4
     subst this
     exact ⟨q2,q3⟩
    ·rw [zP hn hl]at fO
     exact (L1.ext (o8 ((b7.of_keep kp).trans e2 λa ha=> .inl ha))).g _ _ (PS.fk fO H .next)
  |_=>exact R.no (RN:)
end
abbrev kP (F:↑Addr) (e:Addr) (T:Option Addr) (h h':Heap):Prop:=
 ∀b o,h.get? b=some o→b≠e→some b≠T→∃sl,h'.get? b=some {o with slots:=sl}∧(b∉F→sl=o.slots)
theorem HH {env':Env} (h:env.frame=env'.frame):PySem.frameOf env=PySem.frameOf env':=by unfold PySem.frameOf;exact ae h H
variable {L:Addr} {oe:Obj}
section
variable {M:Model} {E: ~~~0} {s:Shared}
theorem HI {base:Heap} {e0:Env} {lx:↑Env} {e:Addr} {vs:Array Value} {head:Value} {wU:Bool} {Q:Unit→Shared→Prop}
  (vC:A.frames=some (e0::lx)) (hl:s.heap.FunFrames base (e0::lx)) (VV:e0.frame=some L) (hf:env.frame=some L)
  (he:s.heap.get? e=some oe) (hd:oe.data= .fields vs) (hsz:1<vs.size)
  (h:∀h' T oT ts,h'.FunFrames base (e0::lx)→kP ((e0::lx).filterMap (·.frame)) e none s.heap h'→cN s.heap T→T≠e→h'.get? e=some (oe.mapFields (·.setIfInBounds 1 (.ref T)))→h'.get? T=some oT→oT.data= .fields ts→ts[3]?=some (rawInt L)→
   Q () {s with heap:=h'}):
  wpAny M A (do let a←PySem.frameOf env;let pl←entryPlaceOf L wU;let b←EntryCells.newEntry head a .none (rawInt L) .none pl;setField (.ref e) 1 b) Q E s:=by
 have aaY:e∉(e0::lx).filterMap (·.frame):=λhm=>by
  obtain ⟨_,o,ho,yt⟩:=hl.mem hm
  rw [he]at ho;injection ho with ho;subst ho;exact yt vs hd
 refine ae (HH (env:=env) (env':=e0) (hf.trans VV.symm)) ?_
 refine aj (wpAny_frameOf_fun vC hl VV λdD Bk=>?_)
 refine aj (wpAny_entryPlaceOf λpl Fo=>?_)
 refine aj (wpAny_newObj_type ?_ (Fo.sizeOk5 _ _ _ _ _))
 have tI:dD.get? e=some oe:=(Bk.2.1 e aaY).trans he
 have Bl:=lv (h:=dD) {cls:= .type "traceback",dict:=none,data:= .fields ([head, .ref L, .none,rawInt L, .none]++(if pl.isEmpty then List.replicate 6 Value.none else pl)).toArray} tI
 refine wpAny_setField Bl hd hsz ?_
 have hTe:dD.objs.size≠e:=Nat.ne_of_gt (kT tI)
 have Zn:=Obj.data_mapFields hd (·.setIfInBounds 1 (Value.ref dD.objs.size))
 have Zo:=oj (Obj.mapFields (·.setIfInBounds 1 (Value.ref dD.objs.size))) Bl (Obj.isFreed_of_fields Zn)
 have Zp:=(Heap.get?_update_other (dD.push {cls:= .type "traceback",dict:=none,data:= .fields ([head, .ref L, .none,rawInt L, .none]++(if pl.isEmpty then List.replicate 6 Value.none else pl)).toArray})
  (Obj.mapFields (·.setIfInBounds 1 (Value.ref dD.objs.size))) (Ne.symm hTe)).trans (gN dD H)
 have keep:∀b o,b≠e→dD.get? b=some o→((dD.push {cls:= .type "traceback",dict:=none,data:= .fields ([head, .ref L, .none,rawInt L, .none]++(if pl.isEmpty then List.replicate 6 Value.none else pl)).toArray}).update e (Obj.mapFields (·.setIfInBounds 1 (Value.ref dD.objs.size)))).get? b=some o:=λb o OT hb=>by
  refine ae (Heap.get?_update_other _ _ (Ne.symm OT)) ?_
  exact lv _ hb
 have Zq:cN s.heap dD.objs.size:=rn (by refine ae Bk.1 ?_;exact cF _)
 refine h _ dD.objs.size _ _ ?_ ?_ Zq hTe Zo Zp H (by first|(simp;done)|(rcases Fo with rfl|⟨_,_,_,_,_,_,_,rfl⟩<;>simp))
 ·exact hl.of_keeps λb o hb yt=>by
   have OT:b≠e:=λq=>by rw [q,he]at hb;injection hb with hb;subst hb;exact yt vs hd
   obtain ⟨sl,h1⟩:=Bk.2.2 b o hb
   exact ⟨_,keep b _ OT h1,rfl⟩
 ·intro b o hb OT _
  by_cases hF:b∈(e0::lx).filterMap (·.frame)
  ·obtain ⟨sl,h1⟩:=Bk.2.2 b o hb
   exact ⟨sl,keep b _ OT h1,λq=>al hF q⟩
  ·refine ⟨o.slots,keep b _ OT ((Bk.2.1 b hF).trans hb),λO=>rfl⟩
end
inductive An (k:Kx) (fR h:Heap) (e:Value) (ok:Value→Prop):Prop
 |mk (a:Addr) (o:Obj) (vs:Array Value) (T:Addr) (oT:Obj) (ts:Array Value) (v:Value):e= .ref a→h.get? a=some o→o.data= .fields vs→vs[1]?=some (.ref T)→cN fR a→cN fR T→T≠a→h.get? T=some oT→oT.data= .fields ts→ts[3]?=some v→ok v→An k fR h e ok
variable {T:Option Addr}
theorem kP.ns {F:↑Addr} {e:Addr} (x:kP F e T h h') {d:Addr} {m:Str→Option Value} (hd:h.Ns d m) (h1:d≠e) (h2:some d≠T):h'.Ns d m:=by
 obtain ⟨o,es,ep,ho,qu,q⟩:=hd
 obtain ⟨sl,hs,_⟩:=x d o ho h1 h2
 exact ⟨_,es,ep,hs,qu,q⟩
theorem kP.ext {F:↑Addr} {e:Addr} (x:kP F e T h h') (y:b7 X F fR h) (he:cN fR e) (hT:∀t,T=some t→cN fR t):b7 X F fR h':=by
 have key:∀b o,fR.get? b=some o→b≠e∧some b≠T:=λb o hb=>⟨λq=>he.not (q▸hb),λq=>(hT b q.symm).not hb⟩
 refine ⟨λb o hb=>?_,λb o hb hX=>?_⟩
 ·obtain ⟨o1,h1⟩:=y.1 b o hb
  obtain ⟨sl,h2,_⟩:=x b o1 h1 (key b o hb).1 (key b o hb).2
  exact ⟨_,h2⟩
 ·obtain ⟨sl,h1,h2⟩:=y.2 b o hb hX
  obtain ⟨QW,h3,h4⟩:=x b _ h1 (key b o hb).1 (key b o hb).2
  exact ⟨QW,h3,λhF=>(h4 hF).trans (h2 hF)⟩
theorem kP.trans {F:↑Addr} {e:Addr} (x:kP F e T h h') (y:kP F e none h' gC):kP F e T h gC:=λb o hb he hT=>by
 obtain ⟨sl,h1,h2⟩:=x b o hb he hT
 obtain ⟨QW,h3,h4⟩:=y b _ h1 he (by simp)
 exact ⟨QW,h3,λhF=>(h4 hF).trans (h2 hF)⟩
section
variable {s:Shared} {m:Str} {ag:F→cw}
structure Bm (k:Kx):Prop where
 VC:s6 λe0 lx f=>qh (k.envs=e0::lx) (e0.frame=some f) (k.env.frame=some f)
theorem zt {F:↑Addr} {e:Addr} (x:kP F e T h h') (hb:∀b o,B.get? b=some o→h.get? b=some o) (he:B.get? e=none) (hT:∀t,T=some t→B.get? t=none) (hF:∀f∈F,B.get? f=none):∀b o,B.get? b=some o→h'.get? b=some o:=λb o Kg=>by
 have h1:b≠e:=λq=>by rw [q,he]at Kg;exact nomatch Kg
 have h2:some b≠T:=λq=>by rw [hT b q.symm]at Kg;exact nomatch Kg
 obtain ⟨sl,h3,h4⟩:=x b o (hb b o Kg) h1 h2
 have h5:b∉F:=λq=>by rw [hF b q]at Kg;exact nomatch Kg
 rw [h4 h5]at h3;exact h3
theorem rS (hB:∀b o,B.get? b=some o→fR.get? b=some o) {t:Addr} (hn:cN fR t):B.get? t=none:=by
 generalize q:B.get? t=o0;induction o0 using di with
 |none=>rfl
 |some o=>exact (hn.not (hB t o q)).elim
theorem kP.refl {F:↑Addr} {e:Addr}:kP F e T h h:=λO o hb O O=>⟨o.slots,hb,λO=>rfl⟩
theorem kP.sameBut {F:↑Addr} {e t:Addr} (hs:Heap.SameBut t h h'):kP F e (some t) h h':=λb o hb O hT=>⟨o.slots,(hs.2 b λq=>hT (q▸rfl)).trans hb,λO=>rfl⟩
theorem yu {E: ~~~0} {Q:Unit→Shared→Prop} (vC:k.A.frames=some k.envs) (fa:Bm k) (hB:∀b o,k.B.get? b=some o→fR.get? b=some o) (Rt:sC fR s.heap) (x:vg k fR s.heap (.ref a) m)
  (h:∀h',vg k fR h' (.ref a) m→An k fR h' (.ref a) (λv=>∃f,k.env.frame=some f∧v=rawInt f)→(∀X,b7 X k.F fR s.heap→b7 X k.F fR h')→Q () {s with heap:=h'}):
  wpAny k.M k.A (noteFrame (.ref a) k.env) Q E s:=by
 obtain ⟨e0,lx,f,MO,VV,hf⟩:=fa.VC
 obtain ⟨o,vs,d,mE,tk,x1,x2,x3,x4,x5,x6,x7,x8,x9,Zr⟩:=x.at
 have aaZ:k.A.frames=some (e0::lx):=by exact ae vC (ae MO H)
 have hFe:(e0::lx).filterMap (·.frame)=k.F:=by unfold Kx.F;exact ae MO H
 have hda:d≠a:=λq=>by
  obtain ⟨od,_,_,qt,qu,_⟩:=x4
  rw [q,x1]at qt;injection qt with qt;subst qt
  rw [x6]at qu;cases qu
 have HJ:s.heap.FunFrames k.B (e0::lx):=MO▸x.frames
 have Zs:∀f∈k.F,k.B.get? f=none:=λf hf=>(x.frames.mem hf).1
 have cC:∀(wU:Bool) (head:Value) (h1:Heap) (T:Option Addr),kP k.F a T s.heap h1→(∀t,T=some t→cN fR t∧t≠d)→h1.FunFrames k.B (e0::lx)→h1.get? a=some o→
   wpAny k.M k.A (do let b←PySem.frameOf k.env;let pl←entryPlaceOf f wU;let b←EntryCells.newEntry head b .none (rawInt f) .none pl;setField (.ref a) 1 b) Q E {s with heap:=h1}:=by
  intro wU head h1 T N1 hT CS Zj
  refine HI aaZ CS VV hf Zj x6 x9 λh' T' oT ts g1 g2 g3 g4 g5 g6 g7 g8=>?_
  rw [hFe]at g2
  have N:=N1.trans g2
  have hT':cN fR T':=by
   have:sC fR h1:=λb ob hb=>by
    obtain ⟨o1,e1⟩:=Rt b ob hb
    have q1:b≠a:=λq=>x7.not (q▸hb)
    have q2:some b≠T:=λq=>(hT b q.symm).1.not hb
    obtain ⟨sl,e2,_⟩:=N1 b o1 e1 q1 q2
    exact ⟨_,e2⟩
   exact this.jV g3
  have hsz:1<(vs.setIfInBounds 1 (.ref T')).size:=by simpa using x9
  have og:(o.mapFields (·.setIfInBounds 1 (.ref T'))).cls= .ref EZ:=(Obj.cls_mapFields _ _).trans x2
  have Zt:(o.mapFields (·.setIfInBounds 1 (.ref T'))).dict=some d:=by
   refine dg x3 ?_;obtain ⟨cls,dict,data,fr⟩:=o;induction data using Data.casesOn<;>rfl
  have uL:h'.Ns d mE:=N.ns x4 hda λq=>(hT d q.symm).2 H
  have vD:(vs.setIfInBounds 1 (.ref T'))[1]?=some (.ref T'):=by simp [x9]
  refine h h' ⟨zt N x.base (rS hB x7) (λt q=>rS hB (hT t q).1) Zs,MO▸g1,a,rfl,_,_,d,mE,tk,g5,og,Zt,uL,x5,Obj.data_mapFields x6 _,x7,x8,hsz, .inr ⟨T',oT,ts,vD,hT',g4,g6,g7, .inr ⟨f,hf,g8⟩⟩⟩
   ⟨a,_,_,T',oT,ts,rawInt f,rfl,g5,Obj.data_mapFields x6 _,vD,x7,hT',g4,g6,g7,g8,f,hf,rfl⟩ λX y=>N.ext y x7 λt q=>(hT t q).1
 unfold noteFrame
 simp only [hf]
 rcases Zr with hv|⟨T,oT,ts,v1,v2,v3,v4,v5,v6⟩
 ·refine aj (wpAny_field x1 x6 hv ?_)
  refine ae (aN ∅) ?_
  exact cC _ _ s.heap none .refl (λt q=>by cases q) HJ x1
 ·refine aj (wpAny_field x1 x6 v1 ?_)
  refine ae (ao (by simp:(Value.ref T !=Value.none)=true)) ?_
  rcases v6 with v6|⟨f',wQ,v6⟩
  ·refine aj (wpAny_field v4 v5 v6 ?_)
   refine ae (aN (by simp [rawInt]:¬((Value.none==rawInt f)=true))) ?_
   have Zu:T≠d:=λq=>by
    obtain ⟨od,_,_,qt,qu,_⟩:=x4
    rw [←q,v4]at qt;injection qt with qt;subst qt
    rw [v5]at qu;cases qu
   refine aj (wpAny_setField v4 v5 (Array.getElem?_eq_some_iff.mp v6).1 ?_)
   have hs:Heap.SameBut T s.heap (s.heap.update T (Obj.mapFields (·.setIfInBounds 3 Value.none))):=Heap.SameBut.update ..
   have Zv:∀(b:Addr) (ob:Obj),s.heap.get? b=some ob→(∀vs,ob.data≠ .fields vs)→b≠T:=λb ob hb yt q=>by
    rw [q,v4]at hb;injection hb with hb;subst hb;exact yt ts v5
   exact cC _ _ _ (some T) (.sameBut hs) (λt q=>by injection q with q;subst q;exact ⟨v2,Zu⟩) (HJ.of_keeps λb ob hb yt=>⟨ob,(hs.2 b (Zv b ob hb yt)).trans hb,H⟩) ((hs.2 a (Ne.symm v3)).trans x1)
  ·refine aj (wpAny_field v4 v5 v6 ?_)
   have:f'=f:=by rw [hf]at wQ;injection wQ with wQ;exact wQ.symm
   subst this
   refine ae (ao (by simp)) ?_
   exact aB (h s.heap x ⟨a,o,vs,T,oT,ts,rawInt f',H,x1,x6,v1,x7,v2,v3,v4,v5,v6,f',hf,H⟩ λX y=>y)
end
section
variable {s:Shared} {m:Str} {ag:F→cw}
theorem nX:∀{pre l:↑Env},h.FunFrames B (pre++l)→h.FunFrames B l
 |[],_,f=>f
 |_::pre,_,⟨_,_,f⟩=>nX (pre:=pre) f
theorem pU {E: ~~~0} {Q:Unit→Shared→Prop} {ok:Value→Prop} (hB:∀b o,k.B.get? b=some o→fR.get? b=some o) (x:vg k fR s.heap (.ref a) m) (mk:An k fR s.heap (.ref a) ok) (fr:Option Addr)
  (h:∀h',(∀k2:Kx,k2.B=k.B→(∃pre,k.envs=pre++k2.envs)→(fr=none∨fr=k2.env.frame)→vg k2 fR h' (.ref a) m)→An k fR h' (.ref a) (·=fr.elim .none λf=>rawInt f)→(∀X,b7 X k.F fR s.heap→b7 X k.F fR h')→Q () {s with heap:=h'}):
  wpAny k.M A (setFlight (.ref a) fr) Q E s:=by
 obtain ⟨a1,o,vs,T,oT,ts,v,q0,q1,q2,q3,q4,q5,q6,q7,q8,q9,q10⟩:=mk
 injection q0 with q0;subst q0
 obtain ⟨o',Ff,d,mE,tk,x1,x2,x3,x4,x5,x6,x7,x8,x9,Zr⟩:=x.at
 rw [q1]at x1;injection x1 with x1;subst x1
 rw [q2]at x6;injection x6 with x6;subst x6
 have Zu:T≠d:=λq=>by
  obtain ⟨od,_,_,qt,qu,_⟩:=x4
  rw [←q,q7]at qt;injection qt with qt;subst qt
  rw [q8]at qu;cases qu
 have h3:3<ts.size:=(Array.getElem?_eq_some_iff.mp q9).1
 refine aj (wpAny_field q1 q2 q3 ?_)
 refine ae (ao (show(Value.ref T !=Value.none)=true from by simp)) ?_
 refine wpAny_setField q7 q8 h3 ?_
 have hs:Heap.SameBut T s.heap (s.heap.update T (Obj.mapFields (·.setIfInBounds 3 (fr.elim Value.none λf=>rawInt f)))):=Heap.SameBut.update ..
 have R5:=Obj.data_mapFields q8 (·.setIfInBounds 3 (fr.elim Value.none λf=>rawInt f))
 have hT3:=oj (Obj.mapFields (·.setIfInBounds 3 (fr.elim Value.none λf=>rawInt f))) q7 (Obj.isFreed_of_fields R5)
 have N:kP k.F a (some T) s.heap (s.heap.update T (Obj.mapFields (·.setIfInBounds 3 (fr.elim Value.none λf=>rawInt f)))):= .sameBut hs
 have Zv:∀(b:Addr) (ob:Obj),s.heap.get? b=some ob→(∀vs,ob.data≠ .fields vs)→b≠T:=λb ob hb yt q=>by
  rw [q,q7]at hb;injection hb with hb;subst hb;exact yt ts q8
 have nA:=(hs.2 a (Ne.symm q6)).trans q1
 have hv:(ts.setIfInBounds 3 (fr.elim Value.none λf=>rawInt f))[3]?=some (fr.elim Value.none λf=>rawInt f):=by simp [h3]
 have Zs:∀f∈k.F,k.B.get? f=none:=λf hf=>(x.frames.mem hf).1
 refine h _ (λk2 wV ⟨pre,R6⟩ vC=>?_) ⟨a,o,vs,T,_,_,_,rfl,nA,q2,q3,q4,q5,q6,hT3,R5,hv,rfl⟩ λX y=>N.ext y q4 λt q=>by injection q with q;subst q;exact q5
 have aa0:s.heap.FunFrames k.B k2.envs:=nX (pre:=pre) (R6▸x.frames)
 refine ⟨?_,?_,a,rfl,o,vs,d,mE,tk,nA,x2,x3,N.ns x4 (λq=>by
   obtain ⟨od,_,_,qt,qu,_⟩:=x4
   rw [q,q1]at qt;injection qt with qt;subst qt
   rw [q2]at qu;cases qu) (λq=>Zu (by injection q with q;exact q.symm)),x5,q2,q4,x8,x9, .inr ⟨T,_,_,q3,q5,q6,hT3,R5,?_⟩⟩
 ·refine ae wV ?_;exact zt N x.base (rS hB q4) (λt q=>by injection q with q;subst q;exact rS hB q5) Zs
 ·refine ae wV ?_;exact aa0.of_keeps λb ob hb yt=>⟨ob,(hs.2 b (Zv b ob hb yt)).trans hb,rfl⟩
 ·rcases vC with rfl|vC
  ·exact .inl hv
  ·generalize OU:fr=o0;induction o0 using di with
   |none=>rw [OU]at hv;exact .inl (by rw [←OU]at hv⊢;subst OU;exact hv)
   |some f=>exact .inr ⟨f,by exact dg vC (ae OU H),by rw [OU]at hv;exact by subst OU;exact hv⟩
theorem DX {r:R α} {e:Value} {s:Shared} (vC:k.A.frames=some k.envs) (fa:Bm k) (hU:Ok k μ σ ρ s.heap) (g:i4 k μ s r e s1):
  notedBy k.M k.A k.env (λe s'=>cameBackBy k.M k.A k.env (i4 k μ s r) e s') e s1:=by
 obtain ⟨m,h',tk,h1,rfl,h3,h4⟩:=g
 obtain ⟨a,rfl,_⟩:=h4.dW
 refine yu (s:={s with heap:=h',toks:=tk}) vC fa hU.base h3.1 h4 λh2 g1 g2 g3=>?_
 obtain ⟨a1,o,vs,T,oT,ts,v,q0,q1,q2,q3,q4,q5,q6,q7,q8,q9,f,hf,hv⟩:=id g2
 injection q0 with q0;subst q0
 refine aj (wpAny_field q1 q2 q3 ?_)
 refine ae (aN (by simp)) ?_
 refine pU (s:={s with heap:=h2,toks:=tk}) hU.base g1 g2 k.env.frame λh5 w1 w2 w3=>?_
 exact ⟨m,h5,tk,h1,rfl,w3 _ (g3 _ h3),w1 k H ⟨[],H⟩ (.inr H)⟩
end
theorem b7.chg {F:↑Addr} (x:b7 X F h h') (y:rQ as h' gC) (hn:∀a∈as,cN h a):b7 X F h gC:=by
 have Bb:∀b o,h.get? b=some o→b∉as:=λb o e q=>(hn b q).not e
 refine ⟨λb o e=>?_,λb o e hb=>?_⟩
 ·obtain ⟨o1,h1⟩:=x.1 b o e
  exact ⟨o1,y b o1 (Bb b o e) h1⟩
 ·obtain ⟨sl,h1,h2⟩:=x.2 b o e hb
  exact ⟨sl,y b _ (Bb b o e) h1,h2⟩
section
variable {s:Shared} {ag:F→cw}
theorem eJ.HK (cn:eJ ag k n):Bm k:=⟨cn.good.frame⟩
theorem i4.tz {r:R α} {e:Value} (g:i4 (k.dh as) μ s r e s'):i4 k μ s r e s':=by
 obtain ⟨m,h',tk,h1,h2,h3,h4⟩:=g
 exact ⟨m,h',tk,h1,h2,h3,⟨h4.base,h4.frames,h4.dW⟩⟩
theorem nH.dh (cn:nH ag n c k) (as:↑Addr):nH ag n c (k.dh as):=⟨cn.eK.dh as,cn.cx.dh as,cn.pT⟩
theorem ju.dh {xs:↑Nat} (h:ju k es xs) (as:↑Addr):ju (k.dh as) es xs:=by
 induction h with
 |nil=>exact .nil
 |cons h1 h2 _ ih=>exact .cons h1 h2 ih
theorem jl.dh {t:Expr} {tg:Tg} (h:jl k t tg) (as:↑Addr):jl (k.dh as) t tg:=by
 induction h with
 |dj h1 h2=>exact .dj h1 h2
 |aO h=>exact .aO (h.dh as)
end
structure mx (k:Kx) (as fp:↑Addr) (nW:↑Addr) (h0:Heap) (l:↑D) (S:Nat→Heap→Prop) (gM:Heap→↑Addr→Prop) (i:Nat) (μ:↑Addr) (σ:St) (ρ:↑V) (h:Heap):Prop where
 ok:Ok (k.dh as) μ σ ρ h
 st:S i h
 tC:gM h ((as++k.own)++μ)
 rR:∀b∈fp,b∉as→(∃o,h.get? b=some o)∧b∉k.wr++μ∧b∉k.F
variable {tg:Expr→Prop} {gM:Heap→↑Addr→Prop} {h0:Heap}
section
variable {ag:F→cw} {S:Nat→Heap→Prop} {M:Nat→Value→Heap→Prop}
structure rT (k:Kx) (as:↑Addr):Prop where
 wr:∀a∈as,a∉k.wr
 E8:k.env.locals∉as
 fr:∀a∈as,a∉k.F
theorem mx.R7 (x:mx k as fp nW h0 l S gM i μ σ ρ h) (ha:a∈as):a∉μ:=x.ok.fy (k:=k.dh as) (aW _ ha)
theorem mx.run (kI:wR k.prog k.w k.A I tg fp as l S M gM) (ap:rT k as) (x:mx k as fp nW h0 l S gM i μ σ ρ h) (ok:Ok (k.dh as) (μ++ν) σ' bX h') (e:b7 (k.wr++μ) k.F h h') (ip:∀a∈ν,cN h a) (cn:eJ ag k n):
  mx k as fp nW h0 l S gM i (μ++ν) σ' bX h':=by
 have keep:∀b∈fp,∀o,h.get? b=some o→h'.get? b=some o:=λb hb o eo=>by
  by_cases q:b∈as
  ·exact e.get eo (λhm=>(bd.mp hm).elim (ap.wr b q) (x.R7 q)) (ap.fr b q)
  ·obtain ⟨_,h1,h2⟩:=x.rR b hb q
   exact e.get eo h1 h2
 refine ⟨ok,kI.frame i h h' x.st keep,?_,λb hb ib=>?_⟩
 ·refine kI.tC h h' _ _ x.tC ?_
  refine .ext (X:=(as++k.own)++μ) (F:=k.F) (e.mono λa ha=> .inl ?_) (λa ha=>aW _ (x.ok.dM a ha)) λa ha=>?_
  ·rcases bd.mp ha with ha|ha
   ·exact aW _ (bl _ (cn.good.nV a ha))
   ·exact bl _ ha
  ·rw [←aX]at ha
   exact (bd.mp ha).imp id (ip a)
 ·obtain ⟨⟨o,ho⟩,h1,h2⟩:=x.rR b hb ib
  refine ⟨⟨o,keep b hb o ho⟩,λhm=>?_,h2⟩
  rw [←aX]at hm
  rcases bd.mp hm with hm|hm
  ·exact h1 hm
  ·exact (ip b hm).not ho
end
variable {kQ:Tg} {s2:Shared} {tk2:Nat}
section
variable {ag:F→cw} {S:Nat→Heap→Prop} {M:Nat→Value→Heap→Prop}
theorem vE (h1:∃o,h.get? a=some o∧∀v,o.data≠ .cell v):∀v,¬h.IsCell a v:=λv ⟨o',pA,qm⟩=>by
 obtain ⟨o,ho,hd⟩:=h1
 rw [ho]at pA;injection pA with pA;subst pA
 exact hd v qm
theorem mx.chg (kI:wR k.prog k.w k.A I tg fp as l S M gM) (ap:rT k as) (x:mx k as fp nW h0 l S gM i μ σ ρ h) (ch:rQ as h h') (st:S j h'):mx k as fp nW h0 l S gM j μ σ ρ h':=by
 have own:∀a∈as,a∈(k.dh as).own:=λa ha=>aW _ ha
 refine ⟨x.ok.chg ch own (λa ha=>let⟨o,ho,_⟩:=kI.yn j h' st a ha;⟨o,ho⟩) ap.wr ap.E8 ap.fr λa ha=>vE (kI.yn i h x.st a ha),st,kI.tC h h' _ _ x.tC (ch.into λa ha=>aW _ (aW _ ha)),λb hb ib=>?_⟩
 obtain ⟨⟨o,ho⟩,h1,h2⟩:=x.rR b hb ib
 exact ⟨⟨o,ch b o ib ho⟩,h1,h2⟩
theorem HL (hl:∀a∈X,∃o,h.get? a=some o) (hn:cN h a):a∉X:=λq=>let⟨_,ho⟩:=hl a q;hn.not ho
inductive Bo (k:Kx) (as fp:↑Addr) (μ:↑Addr) (s1:Shared) (l:↑D) (S:Nat→Heap→Prop) (gM:Heap→↑Addr→Prop) (wW:RS) (f:↑D→↑V→St→RS) (m:Nat) (s':Shared):Prop
 |mk (i:Nat) (bX:↑V) (σ':St) (ν:↑Addr) (h':Heap) (tk:Nat):s'={s1 with heap:=h',toks:=tk}→m=l.length+1 -i→i≤l.length→mx k as fp μ s1.heap l S gM i (μ++ν) σ' bX h'→b7 (k.wr++μ) k.F s1.heap h'→(∀a∈ν,cN s1.heap a)→wW=f (l.drop i) bX σ'→Bo k as fp μ s1 l S gM wW f m s'
theorem R.OV (m:Str) (f:α→R β):(R.dW m).bind f= .dW m:=rfl
theorem DY {body:↑Stmt} {xs:Ss} (vF:kO ag K n c w body xs) (cn:nH ag n c k) (vG:jl k target kQ) (mc:tg target)
  (kI:wR k.prog k.w k.A I tg fp as l S M gM) (ap:rT k as) (vH:s2={s1 with heap:=h,toks:=tk2}) (bt:Ok k μ σ ρ s1.heap) (CT:mx k as fp μ s1.heap l S gM 0 μ σ ρ h) (kp:dJ s1.heap h) (jX:∀a∈as,cN s1.heap a)
  (hb:cW (λx=>bk kQ (.d x)) (λρ σ=>bg K w xs ρ σ) l ρ σ≠ .aQ):
  codeAny k.M k.A (.forLoop target (.ref I) body [] k.env) (λr s'=>match r with
   | .ok f=>PS k μ s1 (cW (λx=>bk kQ (.d x)) (λρ σ=>bg K w xs ρ σ) l ρ σ) f s'
   | .error e=>cameBackBy k.M k.A k.env (i4 k μ s1 (cW (λx=>bk kQ (.d x)) (λρ σ=>bg K w xs ρ σ) l ρ σ)) e s') s2:=by
 generalize Zw:cW (λx=>bk kQ (.d x)) (λρ σ=>bg K w xs ρ σ) l ρ σ=wW at hb⊢
 have vC:k.A.frames=some k.envs:=cn.eK.good.frames
 have fa:=cn.eK.HK
 refine codeAny_forLoop_any (Bo k as fp μ s1 l S gM wW (cW (λx=>bk kQ (.d x)) (λρ σ=>bg K w xs ρ σ))) ?_ (l.length+1) ⟨0,ρ,σ,[],h,tk2,vH,rfl,dK _,by rw [b6];exact CT, .of_keep kp,by simp,by rw [List.drop_zero];exact Zw.symm⟩
 rintro m s' ⟨i,bX,σ',ν,h',tk,rfl,rfl,hi,md,ext,ip,hg⟩
 rcases oO i l.length with ke|Zx
 ·have hx:l[i]?=some l[i]:=fE ke
  have vo:l.drop i=l[i]::l.drop (i+1):=Jn ke
  rw [vo]at hg
  dsimp only [cW]at hg
  have hX:∀a∈(as++k.own)++(μ++ν),∃o,h'.get? a=some o:=λa ha=>(md.ok.low a ha).2
  refine kI.item i l[i] _ ((as++k.own)++(μ++ν)) _ _ hx md.st md.tC (λa ha=>aW _ (aW _ ha)) (λa hn=>HL hX hn) λv h1 sW Zy R8 Zz=>?_
  refine kI.own i v _ target _ _ mc R8 λh2 R9 ZA=>?_
  have ch:rQ as h' h2:=Zz.trans R9
  have OW:=md.chg kI ap ch ZA
  have ZB:RD h2 ((as++k.own)++(μ++ν)) v l[i]:=Zy.into (R9.into λa ha=>aW _ (aW _ ha))
  have gm:b7 (k.wr++μ) k.F s1.heap h2:=ext.chg ch jX
  generalize hA:bk kQ (.d l[i]) bX=o0;induction o0 using R.casesOn with
  |aQ=>rw [hA]at hg;exact al hg hb
  |dW m=>exact al hA (Bi _ _ _ _)
  |ok ρ2=>
   rw [hA]at hg
   dsimp only [R.dv]at hg
   refine tG (k:=k.dh as) (s:={s1 with heap:=h2,toks:=sW}) (cn.eK.dh as) OW.ok (vG.dh as) ZB hA λh3 A1 pC e3=>?_
   have VW:b7 (k.wr++(μ++ν)) k.F h2 h3:=(show b7 k.wr k.F h2 h3 from e3).mono λa ha=> .inl (aW _ ha)
   have Kh:=OW.run (ν:=[]) kI ap (by rw [b6];exact pC) VW (by simp) cn.eK
   rw [b6]at Kh
   have kh:b7 (k.wr++μ) k.F s1.heap h3:=o7 gm VW ip
   have gd:bg K w xs ρ2 σ'≠ .aQ:=λq=>by rw [q]at hg;exact hb hg
   refine bv (vF (k.dh as) (μ++ν) σ' ρ2 {s1 with heap:=h3,toks:=A1} (cn.dh as) Kh.ok gd) (λf s4 g=>?_) λe s4 g=>?_
   ·obtain ⟨fl,Fp,vr,uG,h4,wM,g1,rfl,uH,e4,qP,HM⟩:=g
    rw [g1]at hg
    dsimp only [R.dv]at hg
    have Ki:=Kh.run kI ap uH e4 qP cn.eK
    have nD:b7 (k.wr++μ) k.F s1.heap h4:=o7 kh e4 ip
    have Ao:∀a∈ν++uG,cN s1.heap a:=λa ha=>(bd.mp ha).elim (ip a) λh=>kh.1.jV (qP a h)
    have next:(fl= .next∨fl= .cont)→wW=cW (λx=>bk kQ (.d x)) (λρ σ=>bg K w xs ρ σ) (l.drop (i+1)) Fp vr→∃m,m<l.length+1 -i∧Bo k as fp μ s1 l S gM wW (cW (λx=>bk kQ (.d x)) (λρ σ=>bg K w xs ρ σ)) m {s1 with heap:=h4,toks:=wM}:=λO hgo=>
     ⟨l.length+1 -(i+1),XC ke,i+1,Fp,vr,ν++uG,h4,wM,rfl,rfl,ke,by rw [←aX];exact Ki,nD,Ao,hgo⟩
    induction HM with
    |next=>exact next (.inl H) hg
    |cont=>exact next (.inr H) hg
    |@ret val v rv=>
     refine ⟨.ret v,Fp,vr,ν++uG,h4,wM,hg,rfl,?_,nD,Ao,?_⟩
     ·rw [←aX];exact Ki.ok.tz bt.dM
     ·refine .ret ?_
      refine ae (show μ++(ν++uG)=μ++ν++uG from(aX ..).symm) ?_
      exact RV.tz (k:=k) (as:=as) rv
   ·obtain ⟨m,h4,wM,g1,rfl,e4,yv⟩:=g.tz
    rw [g1]at hg
    dsimp only [R.OV]at hg
    refine DX vC fa bt ⟨m,h4,wM,hg,rfl,o7 kh e4 ip,yv.low kh.1⟩
 ·have ZC:i=l.length:=Nat.le_antisymm hi Zx
  subst ZC
  rw [List.drop_length]at hg
  dsimp only [cW]at hg
  refine kI.done _ _ _ md.st λh1 sW ch=>?_
  refine aB ?_
  refine ⟨.next,bX,σ',ν,h1,sW,hg,rfl,?_,ext.chg ch jX,ip, .next⟩
  exact md.ok.done bt.dM ch ap.E8 ap.fr λa ha=>vE (kI.yn _ h' md.st a ha)
end
variable {iter:Expr}
section
variable {ag:F→cw}
abbrev Kj:It→Bool
 | .sU _=>false
 |_=>true
theorem VX {t:Tg} {it:It} {b:Ss} (h:Kj it=true):ex K w (.ej t it b) ρ σ=(i8 K it ρ σ).bind (Mn t (bg K w b) ρ):=by
 induction it using It.casesOn<;>first|(cases h;done)|rfl
theorem OX {it:It} {body:↑Stmt} {xs:Ss} (yw:Kj it=true) (zu:∀env x,foldedSetIterable iter env x=pure x) (hi:oZ ag K n c iter tg it) (hb:kO ag K n c w body xs)
  (ht:∀k,nH ag n c k→jl k target kQ) (mc:tg target):i9 ag K n c w (.For target iter body [] p) (.ej kQ it xs):=by
 intro k μ σ ρ s cn ok h
 rw [VX yw]at h⊢
 refine wpAny_For ?_ (zu _)
 refine bv (hi k μ σ ρ s cn.eK cn.cx ok (R.ax h)) (λx s1 g=>bv g (λwS s2 g=>?_) λe s1 g=>(i4.Bf g).bind) λe s1 g=>(i4.Bf g).bind
 obtain ⟨l,σ',ν,h',tk,h1,bt,dF,dG,I,as,fp,S,M,gM,h2,tk2,rfl,vH,dr⟩:=g
 rw [h1]at h⊢
 have ap:rT k as:=by
  refine ⟨λa ha=>cn.eK.nF bt (dr.new a ha).1,λq=>?_,λa ha=>bt.ia (dr.new a ha).1⟩
  exact bt.ki (dr.new _ q).1 H
 have md:mx k as fp (μ++ν) h' l S gM 0 (μ++ν) σ' ρ h2:=
  ⟨bt.dh dr.keep (λa ha=>⟨(dr.new a ha).1,let⟨o,ho,_⟩:=(dr.new a ha).2;⟨o,ho⟩⟩) dr.nd,dr.st,dr.tC,λb hb ib=>let⟨⟨o,ho⟩,q⟩:=dr.rR b hb ib;⟨⟨o,dr.keep b o ho⟩,q⟩⟩
 have tJ:b7 (k.wr++μ) k.F s.heap h':=dF.mono λa ha=> .inl (bl _ ha)
 refine codeAny_mono (DY (s1:={s with heap:=h',toks:=tk}) hb cn (ht k cn) mc dr.kI ap vH bt md dr.keep (λa ha=>(dr.new a ha).1) h) λr s3 g=>?_
 induction r with
 |ok f=>exact g.trans tJ dG
 |error e=>
  exact bv g (λO O g=>g.trans tJ dG) λO O g=>g.trans tJ dG
abbrev wh1 (c:↑V→St→R (Bool×St)) (f:↑V→St→RS) (m:Nat) (ρ:↑V) (b:Bool×St):RS:=if b.1 then(f ρ b.2).bind λp=>QL p (lm c f m)else .ok (.next,ρ,b.2)
inductive XU (k:Kx) (μ:↑Addr) (s:Shared) (r:RS) (c:↑V→St→R (Bool×St)) (f:↑V→St→RS) (m:Nat) (s':Shared):Prop
 |mk (ρ:↑V) (σ:St) (e6:↑Addr):Ok k e6 σ ρ s'.heap→lm c f m ρ σ≠ .aQ→ff k μ s r e6 s' (lm c f m ρ σ)→XU k μ s r c f m s'
theorem HN {t:Expr} {x:E} {body:↑Stmt} {xs:Ss} (ht:kY ag K n c t x) (hb:kO ag K n c w body xs):i9 ag K n c w (.While t body [] p) (.EO x xs):=by
 intro k μ σ ρ s cn ok h
 have hx:=λe s' (g:i4 k μ s (ex K w (.EO x xs) ρ σ) e s')=>DX cn.eK.good.frames cn.eK.HK ok g
 refine wpAny_While (codeAny_whileLoop (XU k μ s (ex K w (.EO x xs) ρ σ) (λρ σ=>kH (ev K x ρ σ)) (bg K w xs)) ?_ w ⟨ρ,σ,μ,ok,h, .refl _ _ _⟩)
 rintro m s' ⟨bX,σ',e6,bt,e1,L1⟩
 induction m with
 |zero=>exact al H e1
 |succ m=>
  refine bv (L1.step (r:=kH (ev K x bX σ')) (f:=wh1 (λρ σ=>kH (ev K x ρ σ)) (bg K w xs) m bX) e1 (ht k e6 σ' bX s' cn.eK cn.cx bt (R.ax (r:=kH (ev K x bX σ')) (f:=wh1 (λρ σ=>kH (ev K x ρ σ)) (bg K w xs) m bX) e1)) λb v d8 ma h2 tk2 O fO gm fZ hv e2 L2=>?_) (λO O g=>g) hx
  cases (hv:b=v)
  induction b with
  |false=>exact aB (L2.g _ _ (PS.fk fO H .next))
  |true=>
   refine bv (L2.RP (f:=λp=>QL p (lm (λρ σ=>kH (ev K x ρ σ)) (bg K w xs) m)) e2 (hb k _ d8 bX _ cn fO (R.ax (f:=λp=>QL p (lm (λρ σ=>kH (ev K x ρ σ)) (bg K w xs) m)) e2)) λfl f Fp vr uG h4 wM O uH nD qP HM e4 L4=>?_) (λO O g=>g) hx
   induction HM with
   |next=>exact ⟨m,Nat.lt_succ_self m,Fp,vr,_,uH,e4,L4⟩
   |cont=>exact ⟨m,Nat.lt_succ_self m,Fp,vr,_,uH,e4,L4⟩
   |ret rv=>exact L4.g _ _ (PS.fk uH H (.ret rv))
end
abbrev Kx.kj (k:Kx) (μ:↑Addr):Kx:={k with own:=k.own++μ}
section
variable {ag:F→cw}
theorem eJ.kj (cn:eJ ag k n) (μ:↑Addr):eJ ag (k.kj μ) n:=
 ⟨⟨cn.good.frames,cn.good.handled,cn.good.fn,cn.good.G6,λa ha=>aW _ (cn.good.nV a ha),cn.good.nodup,cn.good.fN,cn.good.apart,cn.good.frame⟩,cn.top,cn.depth,cn.units,cn.globals,cn.builtins,cn.plain⟩
theorem nH.kj (cn:nH ag n c k) (μ:↑Addr):nH ag n c (k.kj μ):=⟨cn.eK.kj μ,⟨cn.cx.slots,cn.cx.glob,cn.cx.cell,cn.cx.E8⟩,cn.pT⟩
theorem ju.kj {xs:↑Nat} (h:ju k es xs) (μ:↑Addr):ju (k.kj μ) es xs:=by
 induction h with
 |nil=>exact .nil
 |cons h1 h2 _ ih=>exact .cons h1 h2 ih
theorem jl.kj {t:Expr} {tg:Tg} (h:jl k t tg) (μ:↑Addr):jl (k.kj μ) t tg:=by
 induction h with
 |dj h1 h2=>exact .dj h1 h2
 |aO h=>exact .aO (h.kj μ)
theorem Ok.kj (x:Ok k μ σ ρ h):Ok (k.kj μ) [] [] (ρ.map ti) h where
 base:=x.base
 frames:=x.frames
 dM a ha:=aW _ (x.dM a ha)
 low a ha:=x.low a (by
  rw [b6]at ha;exact ha)
 nodup:=by
  rw [b6];exact x.nodup
 cells:= .nil
 env:=by
  obtain ⟨m,hm,kg⟩:=x.env.ns
  refine ⟨⟨m,hm,λi y w h1 h2 h3=>?_⟩,x.env.cell,by simp [x.env.len];rfl⟩
  rw [lj]at h2
  generalize hv:ρ[i]?=o0;induction o0 using di with
  |none=>rw [hv]at h2;cases h2
  |some v=>
   rw [hv]at h2
   simp only [Option.map_some,Option.some.injEq]at h2
   induction v with
   |d d=>
    subst h2
    obtain ⟨val,hb,hr⟩:=kg i y _ h1 hv (by intro q;exact V.noConfusion q)
    refine ⟨val,hb,?_⟩
    cases hr with
    |d r=>
     rw [b6];exact .d r
   |_=>exact al h2.symm h3
theorem wB.yx {val:Value} {a:At} (r:wB h X [] val a):wB h X μ val a:=by
 induction r with
 |d r=>exact .d r
 |ref hn=>simp at hn
theorem hW.yx {l:↑(Str×At)} (r:hW h X [] bP l):hW h X μ bP l:=by
 induction r with
 |nil=>exact .nil
 |cons a r ih=>exact .cons a.yx ih
theorem RV.yx {val:Value} (r:RV k.prog k.w h ((k.kj μ).own++[]) [] val v):RV k.prog k.w h (k.own++μ) μ val v:=by
 rw [b6]at r
 induction r with
 |d r=>exact .d r
 |ref hn=>simp at hn
 |eO h1 h2 h3 h4=>exact .eO h1 h2 h3 h4.yx
theorem Ok.Ap (x:Ok k μ σ ρ h) (y:Ok (k.kj μ) [] [] bX h') (e:b7 (k.wr++[]) k.F h h') (cn:eJ ag k n):Ok k μ σ bX h' where
 base:=y.base
 frames:=y.frames
 dM:=x.dM
 low a ha:=y.low a (by show a∈(k.own++μ)++[];rw [b6];exact ha)
 nodup:=x.nodup
 cells:=by
  have e':b7 (k.own++μ) k.F h h':=e.mono λa ha=> .inl (by rw [b6]at ha;exact aW _ (cn.good.nV a ha))
  refine x.cells.into (.ext (X:=k.own++μ) (F:=k.F) e' (λa ha=>aW _ (x.dM a ha)) λa ha=> .inl ha) (.refl _) λa ha o eo=>e.get eo (λq=>?_) (x.ix · ha)
  rw [b6]at q
  exact x.fy (cn.good.nV a q) ha
 env:=by
  obtain ⟨m,hm,kg⟩:=y.env.ns
  exact ⟨⟨m,hm,λi x w h1 h2 h3=>let⟨val,hb,hr⟩:=kg i x w h1 h2 h3;⟨val,hb,RV.yx hr⟩⟩,y.env.cell,y.env.len⟩
theorem i4.Ap {r:R α} {e:Value} {s:Shared} (g:i4 (k.kj μ) [] s r e s'):i4 k μ s r e s':=by
 obtain ⟨m,h',tk,h1,h2,h3,h4⟩:=g
 refine ⟨m,h',tk,h1,h2,?_,⟨h4.base,h4.frames,h4.dW⟩⟩
 exact (show b7 (k.wr++[]) k.F s.heap h' from h3).mono λa ha=> .inl (by rw [b6]at ha;exact aW _ ha)
end
variable {cp:Pos}
section
variable {ag:F→cw}
noncomputable abbrev Sa (us:↑Value):Nat→Value→Prop:=λi v=>us.toArray[us.toArray.size -1 -i]?=some v
noncomputable abbrev MP (us:↑Value) (I a:Addr):Nat→Heap→Prop:=λi h=>i≤us.toArray.size∧h.IsRevIter I a ((us.toArray.size:Int) -1 -(i:Int))∧h.IsList a us.toArray
noncomputable abbrev MQ (us:↑Value) (l:↑D):Heap→↑Addr→Prop:=λh X=>∀i v y,Sa us i v→l.reverse[i]?=some y→RD h X v y
theorem Sb {W:World} (hh:A.handled=none) (gd:a≠I) (hl:us.length=l.length):wR prog W A I (λO=>True) [I,a] [I] l.reverse (MP us I a) (λi O h=>MP us I a (i+1) h) (MQ us l):=by
 have W2:Walks prog W A I [I,a] [I] l.reverse.length (Sa us) (MP us I a):=by
  rw [(by refine ae dN ?_;rw [rq,hl]:l.reverse.length=us.toArray.size)]
  exact Walks.listRev hh I a gd us.toArray
 refine .DP W2 λi h st=>?_
 obtain ⟨o,ho,hc,hd⟩:=st.2.1
 exact ⟨o,_,ho,hc,by decide,λv q=>by rw [hd]at q;exact gB q⟩
section
variable {nn:Nat}
theorem Kk (cn:eJ ag k n) (ok:Ok k μ σ ρ h):rT (k.kj μ) [h.objs.size]:=
 ⟨λb hb=>bK.mp hb▸cn.nF ok (.size _),λq=>ok.ki (.size _) (bK.mp q),λb hb=>bK.mp hb▸ok.ia (.size _)⟩
theorem Sc (r:cJ h X us l):MQ us l h X:=λi v y h1 h2=>by
 have hi:i<l.length:=rq▸(jo.mp h2).1
 rw [List.getElem?_reverse hi]at h2
 refine r.at (i:=us.length -1 -i) (by simpa [Sa]using h1) ?_
 refine ae r.length ?_;exact h2
theorem Sd (cn:eJ ag k n) (ok:Ok k μ σ ρ h) (hm:a∈μ) (g1:h.get? a=some (ew us nn)) (r:cJ h (k.own++μ) us l):mx (k.kj μ) [h.objs.size] [h.objs.size,a] [] h l.reverse (MP us h.objs.size a) (MQ us l) 0 [] [] (ρ.map ti) (h.push (revObj a ((us.toArray.size:Int) -1))):=by
 have hgI:(h.push (revObj a ((us.toArray.size:Int) -1))).get? h.objs.size=some (revObj a ((us.toArray.size:Int) -1)):=gN _ rfl
 have kp:dJ h (h.push (revObj a ((us.toArray.size:Int) -1))):= .push _ _
 refine ⟨ok.kj.dh kp (λb hb=>by refine ae (bK.mp hb) ?_;exact ⟨.size _,_,hgI⟩) (by simp),⟨dK _,⟨_,hgI,rfl,by simp [revObj]⟩,(bM g1).push _⟩,?_,λb hb ib=>?_⟩
 ·show MQ us l _ (([h.objs.size]++(k.own++μ))++[])
  rw [b6]
  refine Sc (r.into ?_)
  have:=eU.Hv (own:=k.own++μ) (μ:=[]) (as:=[h.objs.size]) kp λb hb=>by refine ae (bK.mp hb) ?_;exact .size _
  simpa using this
 ·have:b=a:=by simp at hb ib;exact hb.resolve_left ib
  subst this
  refine ⟨⟨_,kp _ _ g1⟩,λq=>?_,λq=>ok.ix q hm⟩
  rw [b6]at q
  exact ok.fy (cn.good.nV b q) hm
theorem Se {g:↑V→St→RS} {f:Flow} {s3:Shared} (cn:eJ ag k n) (bt:Ok k μ σ ρ s1.heap) (e:ny g ρ σ≠ .aQ) (x:PS (k.kj μ) [] s1 (g (ρ.map ti) []) f s3):PS k μ s1 (ny g ρ σ) f s3:=by
 obtain ⟨fl,Fp,vr,uG,h4,wM,q1,rfl,uH,e4,qP,HM⟩:=x
 have he:=R.lI q1 e
 have hr:ny g ρ σ= .ok (fl,Fp,σ):=(R.cf q1).trans (ao he)
 clear q1 e
 cases List.isEmpty_iff.mp he
 have aa1:uG=[]:=by simpa using uH.cells.length
 subst aa1
 have Sf:b7 (k.wr++[]) k.F s1.heap h4:=e4
 refine ⟨fl,Fp,σ,[],h4,wM,hr,rfl,?_,Sf.mono λa ha=> .inl (by rw [b6]at ha;exact aW _ ha),by simp,?_⟩
 ·rw [b6];exact bt.Ap uH Sf cn
 ·rw [b6]
  induction HM with
  |next=>exact .next
  |cont=>exact .cont
  |ret rv=>exact .ret (RV.yx (k:=k) (μ:=μ) rv)
theorem VY {body:↑Stmt} {xs:Ss} {s:Shared} {r0:RS} (hb:kO ag K n c w body xs) (ht:jl k target kQ) (cn:nH ag n c k) (bt:Ok k μ σ ρ s1.heap) (hm:a∈μ) (g1:s1.heap.get? a=some (ew us nn)) (g2:cJ s1.heap (k.own++μ) us l)
  (e:ny (cW (λx=>bk kQ (.d x)) (bg K w xs) l.reverse) ρ σ≠ .aQ) (L:ff k nW s r0 μ s1 (ny (cW (λx=>bk kQ (.d x)) (bg K w xs) l.reverse) ρ σ)):
  wpAny k.M k.A (PySem.call (.type "reversed") [.ref a]) (λx iX=>wpAny k.M k.A (pyIter x) (λit DQ=>codeAny k.M k.A (.forLoop target it body [] k.env) (λr s'=>match r with| .ok f=>PS k nW s r0 f s'| .error e=>cameBackBy k.M k.A k.env (i4 k nW s r0) e s') DQ) (i4 k nW s r0) iX) (i4 k nW s r0) s1:=by
 refine call_reversed_list (bM g1) (wpAny_pyIter_revIter (l:=a) (i:=(us.toArray.size:Int) -1) ⟨_,gN _ rfl,H,H⟩ ?_)
 refine codeAny_mono (DY (k:=k.kj μ) (s1:=s1) (μ:=[]) (tk2:=s1.toks) hb (cn.kj μ) (ht.kj _) trivial (Sb cn.eK.good.handled (ni (kT g1)) g2.length) (Kk cn.eK bt) H bt.kj (Sd cn.eK bt hm g1 g2) (.push _ _) (λb hb=>by refine ae (bK.mp hb) ?_;exact .size _) (R.ax e)) λr s3 g=>?_
 induction r with
 |ok f=>exact L.g f _ (Se cn.eK bt e g)
 |error e=>
  exact bv g (λO O g=>L.x _ _ g.Ap.bind) λO O g=>L.x _ _ g.Ap.bind
end
theorem OY {e:Expr} {x:E} {body:↑Stmt} {xs:Ss} (hg:c.glob ("reversed":Str)=true) (hs:dP [e]) (he:bC ag K n c e x) (hb:kO ag K n c w body xs)
  (ht:∀k,nH ag n c k→jl k target kQ):i9 ag K n c w (.For target (.Call (.Name ("reversed":Str) np) [e] [] cp) body [] p) (.ej kQ (.sU x) xs):=by
 intro k μ σ ρ s cn ok h
 refine wpAny_For ?_ (λO=>rfl)
 refine wpAny_Call_ofName (mI cn.eK cn.cx ok hg (v:= .type "reversed") ⋯ ∅ ?_)
 refine PySem.callWith_type (hs.any _ _) (ME hs ?_)
 refine (ff.refl μ s _).step (f:=GX kQ (bg K w xs) ρ) h (he k μ σ ρ s cn.eK cn.cx ok (R.ax (f:=GX kQ (bg K w xs) ρ) h)) λval v σ1 ν h1 tk O bt dF dG r1 e1 L1=>?_
 refine uo bt r1 (R.ax e1) λa m l us nn O hm g1 g2 O Ka=>?_
 have q:GX kQ (bg K w xs) ρ (v,σ1)=ny (cW (λx=>bk kQ (.d x)) (bg K w xs) l.reverse) ρ σ1:=R.cf Ka
 exact VY (s1:={s with heap:=h1,toks:=tk}) hb (ht k cn) cn bt (fJ hm) g1 g2 (q▸e1) (L1.NQ q)
end
abbrev gY (env:Env):↑(Str×NameKind)→↑(Str×Addr)→↑(Str×Addr)
 |[],acc=>acc
 |(x,kd)::r,acc=>if kd== .free then(match env.cells.lookup x with|some a=>gY env r ((x,a)::acc)|none=>gY env r acc)else gY env r acc
variable {kd:NameKind} {acc:↑(Str×Addr)}
theorem Bp {x:Str} {r:↑(Str×NameKind)} (hk:(kd== .free)=false):gY env ((x,kd)::r) acc=gY env r acc:=aN (by rw [hk];exact gA)
theorem Bq {x:Str} {r:↑(Str×NameKind)} (hk:(kd== .free)=true) (ha:env.cells.lookup x=some a):gY env ((x,kd)::r) acc=gY env r ((x,a)::acc):=by
 refine (ao hk).trans ?_
 rw [ha]
theorem tK (scope:Scope) (env:Env) (h:∀x∈cT scope.names,∃a,env.cells.lookup x=some a):closureFor scope env=pure (gY env scope.names []):=by
 have key:∀(l:↑(Str×NameKind)) (acc:↑(Str×Addr)),(∀x∈cT l,∃a,env.cells.lookup x=some a)→
   (forIn l acc λ(p:Str×NameKind) (cs:↑(Str×Addr))=>(if p.2== .free then(do let a←cellOf env p.1;pure (ForInStep.yield ((p.1,a)::cs)))else pure (ForInStep.yield cs):Sem (ForInStep (↑(Str×Addr)))))=pure (gY env l acc):=by
  intro l
  induction l with
  |nil=>intro acc _;rfl
  |cons p r ih=>
   intro acc hl
   obtain ⟨x,kd⟩:=p
   rw [List.forIn_cons]
   cases hk:kd==NameKind.free with
   |false=>
    have hr:∀y∈cT r,∃a,env.cells.lookup y=some a:=λy hy=>hl y (by unfold cT at hy⊢;rw [uf];simp only [hk];simpa using hy)
    simp only [hk,Bool.false_eq_true,↓reduceIte,pure_bind,Bp hk]
    exact ih acc hr
   |true=>
    have hx:x∈cT ((x,kd)::r):=by unfold cT;rw [uf];simp [hk]
    have hr:∀y∈cT r,∃a,env.cells.lookup y=some a:=λy hy=>hl y (by unfold cT at hy⊢;rw [uf];simp only [hk,↓reduceIte,ef];exact bY _ hy)
    obtain ⟨a,ha⟩:=hl x hx
    simp only [hk,↓reduceIte,cellOf,ha,pure_bind,Bq hk ha]
    exact ih _ hr
 have:=key scope.names [] h
 exact aC (λt:Sem (↑(Str×Addr))=>t>>=λcs=>pure cs) this
theorem sG {x:Str} {l:↑(Str×NameKind)}:∀{acc:↑(Str×Addr)},(∀y a,acc.lookup y=some a→env.cells.lookup y=some a)→(∀y∈cT l,∃a,env.cells.lookup y=some a)→
  (∀y a,(gY env l acc).lookup y=some a→env.cells.lookup y=some a)∧(x∈cT l∨(∃a,acc.lookup x=some a)→∃a,(gY env l acc).lookup x=some a):=by
 induction l with
 |nil=>exact λ{acc} h1 _=>⟨h1,λh=>h.elim (λq=>by simp [cT]at q) id⟩
 |cons p_ r dS=>
  obtain ⟨y,kd⟩:=p_
  intro acc h1 h2
  cases hk:kd==NameKind.free with
  |false=>
   have hr:∀z∈cT r,∃a,env.cells.lookup z=some a:=λz hz=>h2 z (by unfold cT at hz⊢;refine ae uf ?_;simp only [hk];simpa using hz)
   have hf:cT ((y,kd)::r)=cT r:=by unfold cT;refine ae uf ?_;simp [hk]
   rw [Bp hk]
   refine ae hf ?_
   exact dS h1 hr
  |true=>
   have hf:cT ((y,kd)::r)=y::cT r:=by unfold cT;refine ae uf ?_;simp [hk]
   have hr:∀z∈cT r,∃a,env.cells.lookup z=some a:=λz hz=>h2 z (by refine ae hf ?_;exact bY _ hz)
   obtain ⟨a,ha⟩:=h2 y (by refine ae hf ?_;exact bZ)
   rw [Bq hk ha]
   have vD:∀z b,((y,a)::acc).lookup z=some b→env.cells.lookup z=some b:=λz b hz=>by
    rw [ie]at hz
    cases hb:z==y with
    |true=>rw [hb]at hz;injection hz with hz;subst hz;refine ae (dz hb) ?_;exact ha
    |false=>rw [hb]at hz;exact h1 z b hz
   obtain ⟨g1,g2⟩:=dS vD hr
   refine ⟨g1,λh=>g2 ?_⟩
   rcases h with h|⟨b,hb⟩
   ·rw [hf]at h
    refine sB h ?_ λh=>?_
    ·exact .inr ⟨a,by simp⟩
    ·exact .inl h
   ·cases pz:x==y with
    |true=>exact .inr ⟨a,by exact ae ie (ae pz H)⟩
    |false=>exact .inr ⟨b,by refine ae ie (ae pz ?_);exact hb⟩
abbrev Kx.comp (k:Kx) (scope:Scope) (cl:↑(Str×Addr)) (C:Addr) (extra:↑Addr):Kx:=
 {k with env:=compEnvC scope cl C k.env,slots:=cT scope.names++gk scope.names,own:=extra++k.own,wr:=[C]}
theorem Kl (k:Kx) (scope:Scope) (cl:↑(Str×Addr)) (C:Addr) (extra as:↑Addr):(k.comp scope cl C extra).dh as=k.comp scope cl C (as++extra):=by
 simp [Kx.comp,Kx.dh,aX]
theorem gu {l:↑(Str×α)}:∀{x:Str} {v:α},(l.map (·.1)).Nodup→(x,v)∈l→l.lookup x=some v:=by
 induction l with
 |nil=>
  intro _ _ _ h
  cases h
 |cons p_ r dS=>
  obtain ⟨y,u⟩:=p_
  intro x v nd h
  have HF:=gP.mp (nd:(y::r.map (·.1)).Nodup)
  rcases cM.mp h with q|q
  ·injection q with q1 q2;subst q1;subst q2;simp
  ·have gd:(x==y)=false:=by
    rw [jS]
    rintro rfl
    exact HF.1 (fq.mpr ⟨_,q,H⟩)
   refine ae ie (ae gd ?_)
   exact dS HF.2 q
theorem sH {l:↑(Str×α)}:∀{x:Str} {v:α},l.lookup x=some v→(x,v)∈l:=by
 induction l with
 |nil=>
  intro _ _ h
  cases h
 |cons p_ r dS=>
  obtain ⟨y,u⟩:=p_
  intro x v h
  rw [ie]at h
  cases hb:x==y with
  |true=>rw [hb]at h;injection h with h;subst h;refine ae (dz hb) ?_;exact bZ
  |false=>rw [hb]at h;exact bY _ (dS h)
theorem jF (scope:Scope) (env:Env) (x:Str):(relabel scope env).names.lookup x=(scope.names.lookup x).map λkd=>if(kd== .free&&env.scope.kind== .function&&env.kindOf x==some .cell)then NameKind.cell else kd:=by
 show(scope.names.map _).lookup x=_
 generalize scope.names=l
 induction l with
 |nil=>rfl
 |cons p r ih=>
  obtain ⟨y,kd⟩:=p
  show List.lookup x ((if(kd==NameKind.free&&env.scope.kind== .function&&env.kindOf y==some .cell)=true then(y,NameKind.cell)else(y,kd))::_)=_
  cases hb:x==y with
  |true=>
   have ZD:=dz hb
   subst ZD
   by_cases hc:(kd==NameKind.free&&env.scope.kind== .function&&env.kindOf x==some .cell)=true
   ·refine ae (ao hc) (ae ie (ae ie (ae hb ?_)))
    exact aC some (ao hc).symm
   ·refine ae (aN hc) (ae ie (ae ie (ae hb ?_)))
    exact aC some (aN hc).symm
  |false=>
   by_cases hc:(kd==NameKind.free&&env.scope.kind== .function&&env.kindOf y==some .cell)=true
   ·refine ae (ao hc) (ae ie (ae hb (ae ie (ae hb ?_))));exact ih
   ·refine ae (aN hc) (ae ie (ae hb (ae ie (ae hb ?_))));exact ih
theorem tL {l:↑(Str×NameKind)} {x:Str} (h:x∈cT l):(x,NameKind.free)∈l:=by
 unfold cT at h
 obtain ⟨⟨y,kd⟩,h1,h2⟩:=fq.mp h
 obtain ⟨h3,h4⟩:=pH.mp h1
 have:kd= .free:=by simpa using h4
 subst this
 exact h2▸h3
theorem rU {l:↑(Str×NameKind)} {x:Str} (h:x∈gk l):(x,NameKind.local)∈l:=by
 unfold gk at h
 obtain ⟨⟨y,kd⟩,h1,h2⟩:=fq.mp h
 obtain ⟨h3,h4⟩:=pH.mp h1
 have:kd= .local:=by
  simp only [c9,beq_iff_eq]at h4;exact h4.1
 subst this
 exact h2▸h3
variable {cap:↑Nat}
section
variable {ag:F→cw}
structure gp (c:Cx) (s:Scope) (cap:↑Nat):Prop where
 plain:j9 s=true
 cap:zl c (cT s.names)=some cap
theorem gp.kind {s:Scope} (x:gp c s cap):s.kind= .function:=by
 have:=x.plain
 simp only [j9,c9,beq_iff_eq]at this
 exact this.1.1.1.1
theorem gp.names {s:Scope} (x:gp c s cap):(s.names.map (·.1)).Nodup∧∀p∈s.names,(p.1==("__classdict__":Str))=false∧(p.1==("__debug__":Str))=false:=by
 have:=x.plain
 simp only [j9,lH,c9,lk,eI,bne_iff_ne]at this
 refine ⟨this.1.2.1,λp hp=>?_⟩
 have:=this.1.2.2 p hp
 exact ⟨by simpa using this.2,by simpa using this.1⟩
theorem gp.fN {s:Scope} (x:gp c s cap):∀p∈s.names,p.2= .local∨p.2= .free∨p.2= .globalImplicit:=by
 have:=x.plain
 simp only [j9,c9,eI,wf,beq_iff_eq]at this
 intro p hp
 rcases this.2 p hp with(q|q)|q
 ·exact .inl q
 ·exact .inr (.inl q)
 ·exact .inr (.inr q)
theorem HO {l:↑Str}:∀{cap:↑Nat},zl c l=some cap→cap.length=l.length∧∀(j:Nat) x,l[j]?=some x→∃i,qh (cap[j]?=some i) (c.slot x=some i) (c.names.lookup x=some .cell):=by
 induction l with
 |nil=>
  intro cap e
  obtain rfl:=bb e
  exact ⟨rfl,λj x h=>by simp at h⟩
 |cons y r dS=>
  intro cap e
  replace e:(if c.names.lookup y==some .cell then(c.slot y).bind λi=>(zl c r).bind λl=>some (i::l)else none)=some cap:=e
  split at e
  ·rename_i hy
   generalize hs:c.slot y=o0;induction o0 using di with
   |none=>rw [hs]at e;cases e
   |some i=>
    rw [hs]at e
    generalize hr:zl c r=o0;induction o0 using di with
    |none=>rw [hr]at e;cases e
    |some l'=>
     rw [hr]at e
     simp only [Option.bind_some,Option.some.injEq]at e;subst e
     obtain ⟨h1,h2⟩:=dS hr
     refine ⟨by simp [h1],λj x hj=>?_⟩
     induction j with
     |zero=>simp only [List.getElem?_cons_zero,Option.some.injEq]at hj;subst hj;exact ⟨i,rfl,hs,by simpa using hy⟩
     |succ j=>simpa using h2 j x (hj)
  ·cases e
theorem uq {s:Scope} (sc:gp c s cap) (cx:gX c k) (ok:Ok k μ σ ρ h):∀x∈cT s.names,(∃a,k.env.cells.lookup x=some a)∧k.env.kindOf x=some .cell∧x∈k.slots:=by
 intro x hx
 obtain ⟨j,hj,rfl⟩:=List.mem_iff_getElem.mp hx
 obtain ⟨i,h1,h2,h3⟩:=(HO sc.cap).2 j _ (fE hj)
 have hk:=cx.cell _ h3
 have hs:(cT s.names)[j]∈k.slots:=by refine ae cx.slots ?_;exact fJ (Cx.iS h2)
 obtain ⟨a,v,h4,_⟩:=ok.env.cell _ hs hk
 exact ⟨⟨a,h4⟩,hk,hs⟩
end
variable {scope:Scope} {cl:↑(Str×Addr)} {C:Addr} {extra:↑Addr}
section
variable {ag:F→cw}
theorem sI (sc:gp c scope cap) (cn:eJ ag k n) (cx:gX c k) (ok:Ok k μ σ ρ h) {x:Str} (hx:x∈cT scope.names):(k.comp scope cl C extra).env.kindOf x=some .cell:=by
 show(relabel scope k.env).names.lookup x=_
 rw [jF];refine ae (gu sc.names.1 (tL hx)) ?_
 have:=uq sc cx ok x hx
 simp [cn.good.fn,this.2.1]
theorem qS (sc:gp c scope cap) {x:Str} (hx:x∈gk scope.names):(k.comp scope cl C extra).env.kindOf x=some .local:=by
 show(relabel scope k.env).names.lookup x=_
 rw [jF];refine ae (gu sc.names.1 (rU hx)) ?_
 rfl
theorem sJ (sc:gp c scope cap) {x:Str} (hx:(k.comp scope cl C extra).env.kindOf x=some .cell):k.env.kindOf x=some .cell:=by
 change (relabel scope k.env).names.lookup x=_ at hx
 rw [jF]at hx
 generalize hl:scope.names.lookup x=o0;induction o0 using di with
 |none=>rw [hl]at hx;cases hx
 |some kd=>
  rw [hl]at hx
  simp only [Option.map_some,Option.some.injEq]at hx
  split at hx
  ·rename_i hc
   simp only [c9,beq_iff_eq]at hc
   exact hc.2
  ·subst hx
   rcases sc.fN _ (sH hl)with q|q|q<;>exact NameKind.noConfusion q
theorem eJ.comp (sc:gp c scope cap) (cn:eJ ag k n) (cx:gX c k) (ok:Ok k μ σ ρ h) (sX:∀y a,cl.lookup y=some a→k.env.cells.lookup y=some a) (hC:C∈extra):eJ ag (k.comp scope cl C extra) n where
 good:=by
  refine ⟨cn.good.frames,cn.good.handled,sc.kind,by simp [Kx.comp,compEnvC],λa ha=>?_,?_,λx hx=>?_,λx y a h1 h2 h3=>?_,cn.good.frame⟩
  ·have:a=C:=bK.mp ha
   subst this
   exact aW _ hC
  ·skip
   have sub:∀(p:Str×NameKind→Bool),((scope.names.filter p).map (·.1)).Nodup:=λp=>List.Nodup.sublist (List.Sublist.map _ List.filter_sublist) sc.names.1
   refine fm.mpr ⟨sub _,sub _,λx hx y hy q=>?_⟩
   subst q
   have h1:=gu sc.names.1 (tL hx)
   have h2:=gu sc.names.1 (rU hy)
   rw [h1]at h2;obtain ⟨rfl,rfl⟩:=bb h2
  ·rcases bd.mp hx with hx|hx
   ·exact .inr (.inl (sI sc cn cx ok hx))
   ·exact .inl (qS sc hx)
  ·exact cn.good.apart x y a (sJ sc h1) (sX _ _ h2) (sX _ _ h3)
 top:=cn.top
 depth:=cn.depth
 units:=cn.units
 globals:=cn.globals
 builtins:=cn.builtins
 plain x hx:=by
  rcases bd.mp hx with hx|hx
  ·exact sc.names.2 _ (tL hx)
  ·exact sc.names.2 _ (rU hx)
theorem gX.comp (sc:gp c scope cap):gX (et scope) (k.comp scope cl C extra) where
 slots:=rfl
 glob x hx:=by
  show(relabel scope k.env).names.lookup x=_
  have wT:scope.names.lookup x=some .globalImplicit:=by
   change (scope.names.lookup x==some .globalImplicit)=true at hx
   simpa using hx
  rw [jF];refine ae wT ?_
  rfl
 cell x hx:=by
  exfalso
  rcases sc.fN _ (sH hx)with q|q|q<;>exact NameKind.noConfusion q
 E8 x hx:=by
  show(relabel scope k.env).names.lookup x=_
  have wT:scope.names.lookup x=some .local:=hx
  rw [jF];refine ae wT ?_
  rfl
theorem wX:∀{cap:↑Nat} {j:Nat} {v:V},(iD ρ cap)[j]?=some v→∃i,cap[j]?=some i∧v=(ρ[i]?).getD .un
 |[],j,v,h=>nomatch h
 |i::r,0,v,h=>⟨i,rfl,(bb h).symm⟩
 |i::r,j+1,v,h=>by
  obtain ⟨i',h1,h2⟩:=wX (cap:=r) (j:=j) h
  exact ⟨i',h1,h2⟩
theorem Fq:(iD ρ cap).length=cap.length:=by
 induction cap with
 |nil=>exact H
 |cons i r dS=>exact aC Nat.succ dS
theorem Ok.comp (sc:gp c scope cap) (cn:eJ ag k n) (cx:gX c k) (VN:Ok k μ σ ρ h) (ok:Ok (k.dh extra) μ σ ρ h') (sX:∀y a,cl.lookup y=some a→k.env.cells.lookup y=some a) (MR:∀x∈cT scope.names,∃a,cl.lookup x=some a)
  (uL:h'.Ns C λO=>none):Ok (k.comp scope cl C extra) μ σ (iD ρ cap++List.replicate (gk scope.names).length .un) h' where
 base:=ok.base
 frames:=ok.frames
 dM:=ok.dM
 low:=ok.low
 nodup:=ok.nodup
 cells:=ok.cells
 env:=by
  obtain ⟨cb,Zb⟩:=HO sc.cap
  have Br:(iD ρ cap).length=(cT scope.names).length:=by exact ae Fq (ae cb H)
  refine ⟨⟨_,uL,λj x v h1 h2 h3=>?_⟩,λx hx hk=>?_,by simp [Br,Kx.comp]⟩
  ·change (cT scope.names++gk scope.names)[j]?=some x at h1
   by_cases hj:j<(cT scope.names).length
   ·rw [lT hj]at h1
    rw [lT (by refine ae Br ?_;exact hj)]at h2
    obtain ⟨i,q1,q2,q3⟩:=Zb j x h1
    obtain ⟨i',w1,w2⟩:=wX h2
    rw [q1]at w1;have w1:=bb w1;subst w1
    generalize hr:ρ[i]?=o0;induction o0 using di with
    |none=>rw [hr]at w2;exact al w2 h3
    |some u=>
     rw [hr]at w2
     simp only [Option.getD_some]at w2
     subst w2
     have hs:=Cx.iS q2
     rw [←cx.slots]at hs
     obtain ⟨m,hm,kg⟩:=ok.env.ns
     obtain ⟨val,hb,Rj⟩:=kg i x _ hs hr h3
     have hkx:=cx.cell x q3
     have hx:x∈cT scope.names:=fJ h1
     refine ⟨val,?_,Rj⟩
     rcases hb with⟨b1,_⟩|⟨_,a,b2,b3⟩
     ·change k.env.kindOf x=_ at b1
      rw [hkx]at b1;obtain ⟨rfl,rfl⟩:=bb b1
     ·obtain ⟨a',nA⟩:=MR x hx
      have:=sX x a' nA
      change k.env.cells.lookup x=some a at b2
      rw [b2]at this;have this:=bb this;subst this
      exact .inr ⟨.inl (sI sc cn cx VN hx),a,nA,b3⟩
   ·rw [s5 (by refine ae Br ?_;exact Nat.not_lt.mp hj)]at h2
    rw [List.getElem?_replicate]at h2
    split at h2
    ·have h2:=bb h2;exact al h2.symm h3
    ·exact nomatch h2
  ·have hkc:=sJ sc hk
   have wT:x∈cT scope.names:=by
    rcases bd.mp hx with q|q
    ·exact q
    ·rw [qS sc q]at hk;obtain ⟨rfl,rfl⟩:=bb hk
   obtain ⟨⟨a,ha⟩,_,hs⟩:=uq sc cx VN x wT
   obtain ⟨a1,v,h1,h2,h3⟩:=ok.env.cell x hs hkc
   obtain ⟨a',nA⟩:=MR x wT
   have:=sX x a' nA
   change k.env.cells.lookup x=some a1 at h1
   rw [h1]at this;have this:=bb this;subst this
   exact ⟨a1,v,nA,λq=>tE uL (q▸h3),h3⟩
end
variable {q:Kx} {ρ0:↑V}
section
variable {ag:F→cw}
theorem Ok.VZ (x:Ok q μ σ ρ h) (hl:ρ0.length=ρ.length) (hf:∀(j:Nat) v,ρ0[j]?=some v→v≠ .un→ρ[j]?=some v):Ok q μ σ ρ0 h:=
 ⟨x.base,x.frames,x.dM,x.low,x.nodup,x.cells,by
  obtain ⟨m,hm,kg⟩:=x.env.ns
  exact ⟨⟨m,hm,λi y v h1 h2 h3=>kg i y v h1 (hf i v h2 h3) h3⟩,x.env.cell,hl.trans x.env.len⟩⟩
theorem HP {o:Option V} (h:QI o=true):o=some .un:=by
 induction o with
 |none=>exact al h gA
 |some v=>induction v using V.casesOn<;>first|rfl|exact al h gA
theorem wY:∀(ps:↑(Nat×D)) (r:↑V),(∀p∈ps,ρ[p.1]?=some .un)→r.length=ρ.length→(∀(j:Nat) v,ρ[j]?=some v→v≠ .un→r[j]?=some v)→
  ρ.length=(ps.foldl (λr p=>r.set p.1 (.d p.2)) r).length∧∀(j:Nat) v,ρ[j]?=some v→v≠ .un→(ps.foldl (λr p=>r.set p.1 (.d p.2)) r)[j]?=some v:=by
 intro ps
 induction ps with
 |nil=>exact λr O h1 h2=>⟨h1.symm,h2⟩
 |cons p ps ih=>
  intro r hp h1 h2
  rw [wg]
  refine ih _ (λp' V0=>hp p' (bY _ V0)) (by refine ae List.length_set ?_;rw [h1]) λj v q1 q2=>?_
  exact ae (kE (λqq=>by have:=hp p bZ;rw [qq,q1]at this;exact q2 (bb this))) (ae (h2 j v q1 q2) H)
theorem Fs {t:Tg} (e:nx t x ρ= .ok bX):bk t (.d x) ρ= .ok bX∧ρ.length=bX.length∧∀(j:Nat) v,ρ[j]?=some v→v≠ .un→bX[j]?=some v:=by
 refine R.bn e λhf e=>⟨e,?_⟩
 induction t with
 |dj i=>
  refine R.aF (e:) (wY [(i,x)] ρ (λp hp=>?_) H λO O h O=>h)
  cases bK.mp hp
  exact HP hf
 |aO xs=>exact R.ah (e:(Jr x).bind _=R.ok bX) λl O e=>R.bn e λO e=>R.aF e (wY _ ρ (λp hp=>HP (eI.mp hf p.1 (List.of_mem_zip hp).1)) H λO O h O=>h)
structure Ft (q:Kx) (D:Addr) (acc:↑Mine.D) (μ:↑Addr) (σ:St) (ρ:↑V) (h:Heap):Prop where
 ok:Ok q μ σ ρ h
 acc:g9 λvs nn=>h.get? D=some (ew vs nn)∧cJ h (q.own++μ) vs acc
abbrev ur (q:Kx) (D:Addr) (f:↑V→↑Mine.D→St→R (↑Mine.D×St)) (tail:Sem Unit):Prop:=∀(μ:↑Addr) (σ:St) (ρ:↑V) (acc:↑Mine.D) (s:Shared) (r:↑Mine.D×St) (E: ~~~0),Ft q D acc μ σ ρ s.heap→f ρ acc σ= .ok r→
 wpAny q.M q.A tail (λO s'=>s6 λν h' tk=>CD (s'={s with heap:=h',toks:=tk}) (Ft q D r.1 (μ++ν) r.2 ρ h') (b7 (q.wr++(D::μ)) q.F s.heap h') (∀a∈ν,cN s.heap a)) E s
end
variable {eZ:Expr} {gens:↑Comprehension} {R':Result→Shared→Prop}
section
variable {ag:F→cw} {S:Nat→Heap→Prop} {M:Nat→Value→Heap→Prop}
theorem mx.Sg (kI:wR k.prog k.w k.A I tg fp as l S M gM) (ap:rT k as) (x:mx k as fp nW h0 l S gM i μ σ ρ h) (hD:L∈k.own) (hDa:L∉as) (hDf:L∉fp) (ok:Ok (k.dh as) (μ++ν) σ' bX h') (e:b7 (k.wr++(L::μ)) k.F h h') (ip:∀a∈ν,cN h a) (cn:eJ ag k n):
  mx k as fp nW h0 l S gM i (μ++ν) σ' bX h':=by
 have keep:∀b∈fp,∀o,h.get? b=some o→h'.get? b=some o:=λb hb o eo=>by
  by_cases q:b∈as
  ·exact e.get eo (λhm=>(bd.mp hm).elim (ap.wr b q) λhm=>(cM.mp hm).elim (λhh=>hDf (hh▸hb)) (x.R7 q)) (ap.fr b q)
  ·obtain ⟨_,h1,h2⟩:=x.rR b hb q
   refine e.get eo (λhm=>?_) h2
   rcases bd.mp hm with hm|hm
   ·exact h1 (aW _ hm)
   ·rcases cM.mp hm with hh|hm
    ·exact hDf (hh▸hb)
    ·exact h1 (bl _ hm)
 refine ⟨ok,kI.frame i h h' x.st keep,?_,λb hb ib=>?_⟩
 ·refine kI.tC h h' _ _ x.tC ?_
  refine .ext (X:=(as++k.own)++μ) (F:=k.F) (e.mono λa ha=> .inl ?_) (λa ha=>aW _ (x.ok.dM a ha)) λa ha=>?_
  ·rcases bd.mp ha with ha|ha
   ·exact aW _ (bl _ (cn.good.nV a ha))
   ·refine sB ha ?_ λha=>?_
    ·exact aW _ (bl _ hD)
    ·exact bl _ ha
  ·rw [←aX]at ha
   exact (bd.mp ha).imp id (ip a)
 ·obtain ⟨⟨o,ho⟩,h1,h2⟩:=x.rR b hb ib
  refine ⟨⟨o,keep b hb o ho⟩,λhm=>?_,h2⟩
  rw [←aX]at hm
  rcases bd.mp hm with hm|hm
  ·exact h1 hm
  ·exact (ip b hm).not ho
structure MS (k:Kx) (as fp:↑Addr) (L:Addr):Prop where
 own:L∈k.own
 wr:L∉k.wr
 fr:L∉k.F
 ZE:L∉as
 fp:L∉fp
inductive DZ (k:Kx) (as fp:↑Addr) (μ:↑Addr) (s1:Shared) (l:↑D) (S:Nat→Heap→Prop) (gM:Heap→↑Addr→Prop) (L:Addr) (ρ0:↑V) (wW:R (↑D×Mine.St)) (f:↑D→↑D→Mine.St→R (↑D×Mine.St)) (m:Nat) (s':Shared):Prop
 |mk (i:Nat) (acc:↑D) (σ':St) (ν:↑Addr) (h':Heap) (tk:Nat):s'={s1 with heap:=h',toks:=tk}→m=l.length+1 -i→i≤l.length→mx k as fp μ s1.heap l S gM i (μ++ν) σ' ρ0 h'→(g9 λvs nn=>h'.get? L=some (ew vs nn)∧cJ h' ((as++k.own)++(μ++ν)) vs acc)→
  b7 (k.wr++(L::μ)) k.F s1.heap h'→(∀a∈ν,cN s1.heap a)→wW=f (l.drop i) acc σ'→DZ k as fp μ s1 l S gM L ρ0 wW f m s'
theorem Si {x L:α} {a b c:↑α} (h:x∈a++L::(b++c)):x∈a++(L::b)∨x∈c:=by
 rw [←rC,←aX]at h
 exact bd.mp h
theorem opi {M:Model} {t:Sem α} {Q0:α→Shared→Prop} {s:Shared} (h:∀Q E,(∀a s,Q0 a s→Q a s)→(∀e s,E0 e s→E e s)→wpAny M A t Q E s):wpAny M A t Q0 E0 s:=h Q0 E0 (λ_ _=>id) λ_ _=>id
theorem vI {d:Nat} {tail:Sem Unit} {f:↑V→↑D→Mine.St→R (↑D×Mine.St)} {Sj:↑D} {cC:↑D×Mine.St}
  (ZF:compTurn (.ListComp eZ gens scope cp) d (.ref I) (.ref L) k.env=(do
   standAt p
   match←pyNext (.ref I)with
   |none=>pure (.done .next)
   |some v=>do
    letOwnedTupleGo target (.ref I) v
    assign target k.env v
    tail
    again (.compLoop (.ListComp eZ gens scope cp) d (.ref I) (.ref L) k.env)))
  (cn:eJ ag k n) (vG:jl k target kQ) (mc:tg target) (kI:wR k.prog k.w k.A I tg fp as l S M gM) (ap:rT k as) (la:MS k as fp L) (ZG:ur (k.dh as) L f tail)
  (vH:s2={s1 with heap:=h,toks:=tk2}) (CT:mx k as fp μ s1.heap l S gM 0 μ σ ρ h) (ZH:g9 λvs nn=>h.get? L=some (ew vs nn)∧cJ h ((as++k.own)++μ) vs Sj) (aa2:b7 (k.wr++(L::μ)) k.F s1.heap h) (jX:∀a∈as,cN s1.heap a)
  (dM:Mr k.F k.own) (hU:j8 (λv=>nx kQ v ρ) f l Sj σ= .ok cC)
  (hR:∀ν h' tk,Ft k L cC.1 (μ++ν) cC.2 ρ h'→b7 (k.wr++(L::μ)) k.F s1.heap h'→(∀a∈ν,cN s1.heap a)→R' (.ok .next) {s1 with heap:=h',toks:=tk}):
  codeAny k.M k.A (.compLoop (.ListComp eZ gens scope cp) d (.ref I) (.ref L) k.env) R' s2:=by
 refine codeAny_loop H (DZ k as fp μ s1 l S gM L ρ (.ok cC) (j8 (λv=>nx kQ v ρ) f)) (λm s hI=>?_) (l.length+1) ⟨0,Sj,σ,[],h,tk2,vH,rfl,dK _,by rw [b6];exact CT,by rw [b6];exact ZH,aa2,by simp,by rw [List.drop_zero];exact hU.symm⟩
 show wpAny _ k.A ((compTurn (.ListComp eZ gens scope cp) d (.ref I) (.ref L) k.env).onRaise (λx=>do noteFrame x k.env;theTreesLotGoes x)) _ _ s
 refine wpAny_noted ?_
 refine opi λQ E hQ hE=>?_
 refine wpE ZF ?_
 refine aj (fL (aj ?_))
 obtain ⟨i,acc,σ',ν,h',tk,rfl,rfl,hi,md,⟨vs,nn,g1,g2⟩,ext,ip,hg⟩:=hI
 have V1:∀a∈as,a∈(as++k.own)++(μ++ν):=λa ha=>aW _ (aW _ ha)
 rcases oO i l.length with ke|Zx
 ·have hx:l[i]?=some l[i]:=fE ke
  have vo:l.drop i=l[i]::l.drop (i+1):=Jn ke
  rw [vo]at hg
  have hX:∀a∈(as++k.own)++(μ++ν),∃o,h'.get? a=some o:=λa ha=>(md.ok.low a ha).2
  refine kI.item i l[i] _ ((as++k.own)++(μ++ν)) _ _ hx md.st md.tC V1 (λa hn=>HL hX hn) λv h1 sW Zy R8 Zz=>?_
  refine aj (kI.own i v _ target _ _ mc R8 λh2 R9 ZA=>?_)
  have ch:rQ as h' h2:=Zz.trans R9
  have OW:=md.chg kI ap ch ZA
  have ZB:RD h2 ((as++k.own)++(μ++ν)) v l[i]:=Zy.into (R9.into V1)
  have uK:h2.get? L=some (ew vs nn):=ch L _ la.ZE g1
  have vA:cJ h2 ((as++k.own)++(μ++ν)) vs acc:=g2.into (ch.into V1)
  have gm:b7 (k.wr++(L::μ)) k.F s1.heap h2:=ext.chg ch jX
  refine R.ah (hg.symm:) λρ2 hA hg=>?_
  ·obtain ⟨Y7,cb,aa3⟩:=Fs hA
   refine aj (tG (k:=k.dh as) (s:={s1 with heap:=h2,toks:=sW}) (cn.dh as) OW.ok (vG.dh as) ZB Y7 λh3 A1 pC e3=>?_)
   have ZI:b7 k.wr k.F h2 h3:=e3
   have VW:b7 (k.wr++(μ++ν)) k.F h2 h3:=ZI.mono λa ha=> .inl (aW _ ha)
   have Kh:=OW.run (ν:=[]) kI ap (by rw [b6];exact pC) VW (by simp) cn
   rw [b6]at Kh
   have g13:h3.get? L=some (ew vs nn):=ZI.get uK la.wr la.fr
   have g23:cJ h3 ((as++k.own)++(μ++ν)) vs acc:=cJ.Kc (k:=k.dh as) vA OW.ok (cn.dh as) e3
   have kh:b7 (k.wr++(L::μ)) k.F s1.heap h3:=gm.trans (ZI.mono (X':=k.wr++(L::μ)) λa ha=> .inl (aW _ ha)) λa ha=> .inl ha
   refine R.ah hg λr hF hg=>?_
   ·refine aj (bv (ZG (μ++ν) σ' ρ2 acc {s1 with heap:=h3,toks:=A1} r E ⟨Kh.ok,vs,nn,g13,g23⟩ hF) (λO s4 g=>?_) λO O g=>g)
    obtain ⟨uG,h4,wM,rfl,az,e4,qP⟩:=g
    have Sf:b7 (k.wr++(L::(μ++ν))) k.F h3 h4:=e4
    have Ki:=Kh.Sg kI ap la.own la.ZE la.fp az.ok Sf qP cn
    have aa4:mx k as fp μ s1.heap l S gM i.succ (μ++ν++uG) r.2 ρ h4:=⟨Ki.ok.VZ cb aa3,Ki.st,Ki.tC,Ki.rR⟩
    have Ao:∀a∈ν++uG,cN s1.heap a:=λa ha=>(bd.mp ha).elim (ip a) λh=>kh.1.jV (qP a h)
    have nD:b7 (k.wr++(L::μ)) k.F s1.heap h4:=kh.trans Sf λa ha=>by
     rcases Si ha with ha|ha
     ·exact .inl ha
     ·exact .inr (ip a ha)
    refine aB<|hQ _ _ ⟨rfl,l.length+1 -(i+1),XC ke,i+1,r.1,r.2,ν++uG,h4,wM,rfl,rfl,ke,?_,?_,nD,Ao,hg.symm⟩
    ·rw [←aX];exact aa4
    ·refine ae (show μ++(ν++uG)=μ++ν++uG from(aX ..).symm) ?_;exact az.acc
 ·have ZC:i=l.length:=Nat.le_antisymm hi Zx
  subst ZC
  rw [List.drop_length]at hg
  obtain rfl:=R.ok.inj hg
  refine kI.done _ _ _ md.st λh1 sW ch=>aB (hQ _ _ ?_)
  refine hR ν h1 sW ⟨md.ok.done dM ch ap.E8 ap.fr λa ha=>vE (kI.yn _ h' md.st a ha),vs,nn,ch L _ la.ZE g1,?_⟩ (ext.chg ch jX) ip
  refine (g2.into (ch.into V1)).into (.DB λa ha=>?_)
  rw [aX];exact bl _ ha
end
section
variable {σ σ':Mine.St} {ag:F→cw}
theorem Ok.jV (cn:eJ ag k n) (x:Ok k μ σ ρ h) (y:Ok (k.comp scope cl C extra) (μ++ν) σ' ρ0 h') (hs:Heap.SameBut C h' gC) (e:b7 μ k.F h gC) (ip:∀a∈ν,cN h a) (hCe:C∈extra):Ok k (μ++ν) σ' ρ gC:=by
 have sub:∀a∈k.own++(μ++ν),a∈(extra++k.own)++(μ++ν):=λa ha=>by
  rw [aX];exact bl _ ha
 have nd:=y.nodup
 change ((extra++k.own)++(μ++ν)).Nodup at nd
 have HF:(extra++(k.own++(μ++ν))).Nodup:=by rw [←aX];exact nd
 have hC:∀a∈k.own++(μ++ν),a≠C:=λa ha q=>by
  subst q
  exact (fm.mp HF).2.2 a hCe a ha H
 have i:eU h' gC ((extra++k.own)++(μ++ν)) (k.own++(μ++ν)):=
  ⟨λb o eb hb O=>(hs.2 b λq=>hb (q▸aW _ (aW _ hCe))).trans eb,λb o O hb hm=>hb (sub b hm)⟩
 have ZJ:∀a∈k.F,a∉μ:=λa ha=>x.ix ha
 have iE:eU h gC (k.own++μ) (k.own++(μ++ν)):= .ext (X:=k.own++μ) (F:=k.F) (e.mono λa ha=> .inl (bl _ ha)) (λa ha=>aW _ (x.dM a ha)) λa ha=>by
  rw [←aX]at ha
  exact (bd.mp ha).imp id (ip a)
 exact {
  base:=λb o eb=>e.get (x.base b o eb) (λq=>(x.low b (bl _ q)).1.not eb) λq=>by rw [(x.frames.mem q).1]at eb;exact nomatch eb
  frames:=e.frames x.frames ZJ
  dM:=x.dM
  low:=λa ha=>by
   obtain ⟨nb,o,eo⟩:=y.low a (sub a ha)
   exact ⟨nb,o,(hs.2 a (hC a ha)).trans eo⟩
  nodup:=(fm.mp HF).2.1
  cells:=y.cells.into i (.refl _) λa ha o eo=>(hs.2 a (hC a (bl _ ha))).trans eo
  env:=x.env.into iE (Mu.append μ ν) (λm hm=>e.ns hm (x.fy cn.good.tn)) λy' c v hl hv=>e.cell hv λq=>by
    obtain ⟨_,hc⟩:=x.cells.mem q
    exact hc.wF hv}
end
abbrev yy (eZ:Expr) (ifs:↑Expr) (acc:Value) (env:Env):Sem Unit:=do
 let ok←(forIn ifs true λc r=>if r=true then do let ok←isTrue c env (eval c env);pure (ForInStep.yield ok)else pure (ForInStep.yield r):Sem Bool)
 if ok=true then(do let x←eval eZ env;let _←PySem.call (.builtin "list.append") [acc,x];pure ())else pure ()
theorem ZK (eZ target iter:Expr) (ifs:↑Expr) (scope:Scope) (pos:Pos) (it acc:Value) (env:Env):
  compTurn (.ListComp eZ [⟨target,iter,ifs,0⟩] scope pos) 0 it acc env=(do
   standAt iter.pos
   match←pyNext it with
   |none=>pure (.done .next)
   |some v=>do
    letOwnedTupleGo target it v
    assign target env v
    yy eZ ifs acc env
    again (.compLoop (.ListComp eZ [⟨target,iter,ifs,0⟩] scope pos) 0 it acc env)):=by
 rw [compTurn_list]
 congr 1;funext _
 congr 1;funext r
 induction r with
 |none=>rfl
 |some v=>
  show(letOwnedTupleGo target it v>>=_)=(letOwnedTupleGo target it v>>=_)
  congr 1;funext _
  show(assign target env v>>=_)=(assign target env v>>=_)
  congr 1;funext _
  unfold yy
  rw [bind_assoc]
  dsimp only
  congr 1
  funext ok
  induction ok with
  |false=>rfl
  |true=>simp only [↓reduceIte,bind_assoc,pure_bind]
abbrev Bt (ag:F→cw) (K:fF) (n:Nat) (c:Cx) (ifs:↑Expr) (x:Oe):Prop:=∀(k:Kx) (μ:↑Addr) (σ:Mine.St) (ρ:↑V) (s:Shared),eJ ag k n→gX c k→Ok k μ σ ρ s.heap→AN K x ρ σ≠ .aQ→
 wpAny k.M k.A (forIn ifs true λc r=>if r=true then do let ok←isTrue c k.env (eval c k.env);pure (ForInStep.yield ok)else pure (ForInStep.yield r)) (PG k μ ρ tB s (AN K x ρ σ)) (PX k μ s (AN K x ρ σ)) s
variable {ifs:↑Expr}
section
variable {ag:F→cw}
theorem D0:Bt ag K n c [] .none:=by
 intro k μ σ ρ s cn cx ok e
 exact wpAny_tests_nil (PG.fk ok H rfl)
theorem Sk {e:Expr} {x:E} (ha:kY ag K n c e x):Bt ag K n c [e] (.some x):=by
 intro k μ σ ρ s cn cx ok h
 have he:AN K (.some x) ρ σ=kH (ev K x ρ σ):=by dsimp only [AN,kH]
 rw [he]at h⊢
 exact wpAny_tests_one (ha k μ σ ρ s cn cx ok h)
abbrev wZ (K:fF) (x:Oe) (y:E) (ρ:↑V) (acc:↑D) (σ:Mine.St):R (↑D×Mine.St):=(AN K x ρ σ).bind λb=>
 if b.1 then(ev K y ρ b.2).bind λq=>(gI q.1).bind λx=>uQ acc x q.2 else .ok (acc,b.2)
theorem HQ {σ:Mine.St} {s:Shared} {acc:↑D} {val:Value} {E: ~~~0} (az:Ft q L acc μ σ ρ s.heap) (hL:L∈q.own) (hw:L∉q.wr) (hl:q.env.locals≠L) (hF:L∉q.F)
  (rd:RD s.heap (q.own++μ) val d) (hz:acc.length<aT) (hQ:∀v h' tk,Ft q L (acc++[d]) μ σ ρ h'→b7 (q.wr++(L::μ)) q.F s.heap h'→Q v {s with heap:=h',toks:=tk}):
  wpAny q.M q.A (PySem.call (.builtin "list.append") [.ref L,val]) Q E s:=by
 obtain ⟨ok,vs,nn,g1,g2⟩:=az
 refine call_meets PySem.F.slot_list_append ⟨_,g1,rfl⟩ PySem.F.entry_list_append (PySem.F.args_list_append_2 _ _) (list_append L vs.toArray nn val (by refine ae dN (ae g2.length ?_);exact l9 (Nat.le_of_lt hz))) ⟨g1,?_⟩
 have hs:Heap.SameBut L s.heap (s.heap.update L (Obj.mapSeq λx=>x.push val)):=Heap.SameBut.update ..
 have hg:∃n',(s.heap.update L (Obj.mapSeq λx=>x.push val)).get? L=some (ew (vs++[val]) n'):=by
  have:=oj (Obj.mapSeq λx=>x.push val) g1 H
  exact ⟨_,by refine ae this ?_;simp [Obj.mapSeq,ew];rfl⟩
 obtain ⟨n',hg⟩:=hg
 refine hQ _ _ _ ⟨ok.XO hL hs ⟨_,hg⟩ hw hl hF λv ⟨o,ho,hd⟩=>?_,_,n',hg,?_⟩ (b7.sameBut hs hg (bl _ bZ))
 ·rw [g1]at ho;injection ho with ho;subst ho;cases hd
 ·exact (g2.append (.cons rd .nil)).into (yo hL hs)
theorem D1 {x:Oe} (cn:eJ ag q n) (cx:gX c q) (hi:Bt ag K n c ifs x) (he:bC ag K n c eZ y) (hL:L∈q.own) (hw:L∉q.wr) (hl:q.env.locals≠L) (hF:L∉q.F):
  ur q L (wZ K x y) (yy eZ ifs (.ref L) q.env):=by
 intro μ σ ρ acc s r E az hr
 have hb:wZ K x y ρ acc σ≠ .aQ:=by refine ae hr ?_;intro q;exact nomatch q
 have hx:∀m,wZ K x y ρ acc σ≠ .dW m:=λm q=>by rw [hr]at q;exact nomatch q
 unfold wZ at hb hx hr
 have Sl:L∉μ:=az.ok.fy hL
 refine aj (bv (hi q μ σ ρ s cn cx az.ok (R.ax hb)) (λb s1 g=>?_) λe s1 g=>?_)
 ·obtain ⟨v,σ1,ν,h1,tk,e1,rfl,bt,dF,dG,hv⟩:=g
  have:b=v:=hv
  subst this
  rw [e1]at hb hx hr
  dsimp only [R.dv]at hb hx hr
  obtain ⟨vs,nn,g1,g2⟩:=az.acc
  have uK:h1.get? L=some (ew vs nn):=dF.get g1 Sl hF
  have vA:cJ h1 (q.own++(μ++ν)) vs acc:=g2.into (.ext (X:=q.own++μ) (F:=q.F) (dF.mono λa ha=> .inl (bl _ ha)) (λa ha=>aW _ (az.ok.dM a ha)) λa ha=>by
   rw [←aX]at ha
   exact (bd.mp ha).imp id (dG a))
  have tJ:b7 (q.wr++(L::μ)) q.F s.heap h1:=dF.mono λa ha=> .inl (bl _ (bY _ ha))
  induction b with
  |false=>
   simp only [Bool.false_eq_true,↓reduceIte,R.ok.injEq]at hr⊢
   subst hr
   exact aB ⟨ν,h1,tk,rfl,⟨bt,vs,nn,uK,vA⟩,tJ,dG⟩
  |true=>
   simp only [↓reduceIte]at hb hx hr⊢
   refine aj (bv (he q (μ++ν) σ1 ρ {s with heap:=h1,toks:=tk} cn cx bt (R.ax hb)) (λval s2 g=>?_) λe s2 g=>?_)
   ·obtain ⟨v2,d8,ma,h2,tk2,e2,rfl,fO,gm,fZ,rv⟩:=g
    rw [e2]at hb hx hr
    dsimp only [R.dv]at hb hx hr
    generalize hd:gI v2=o0;induction o0 using R.casesOn with
    |aQ=>rw [hd]at hb;exact al H hb
    |dW m=>exact al hd (JU _ _)
    |ok d=>
     rw [hd]at hr
     dsimp only [R.dv,uQ]at hr
     split at hr
     ·rename_i hz
      have hr:=R.ok.inj hr;subst hr
      have ZL:L∉μ++ν:=bt.fy hL
      have Sn:h2.get? L=some (ew vs nn):=gm.get uK ZL hF
      have So:cJ h2 (q.own++(μ++ν++ma)) vs acc:=vA.into (.ext (X:=q.own++(μ++ν)) (F:=q.F) (gm.mono λa ha=> .inl (bl _ ha)) (λa ha=>aW _ (bt.dM a ha)) λa ha=>by
       rw [←aX]at ha
       exact (bd.mp ha).imp id (fZ a))
      refine aj (HQ (s:={s with heap:=h2,toks:=tk2}) ⟨fO,vs,nn,Sn,So⟩ hL hw hl hF (MD rv hd).1 hz λv h3 A1 aa5 e3=>aB ?_)
      have e2':b7 (q.wr++(L::μ)) q.F s.heap h2:=tJ.trans gm λa ha=>by
       rcases bd.mp ha with ha|ha
       ·exact .inl (bl _ (bY _ ha))
       ·exact .inr (dG a ha)
      refine ⟨ν++ma,h3,A1,rfl,by rw [←aX];exact aa5,e2'.trans e3 λa ha=>?_,λa ha=>?_⟩
      ·rcases bd.mp ha with ha|ha
       ·exact .inl (aW _ ha)
       ·refine sB ha ?_ λha=>?_
        ·exact .inl (bl _ bZ)
        ·rcases bd.mp ha with ha|ha
         ·rcases bd.mp ha with ha|ha
          ·exact .inl (bl _ (bY _ ha))
          ·exact .inr (dG a ha)
         ·exact .inr (dF.1.jV (fZ a ha))
      ·rcases bd.mp ha with ha|ha
       ·exact dG a ha
       ·exact dF.1.jV (fZ a ha)
     ·exact R.no hr
   ·obtain ⟨m,_,_,e2,_⟩:=g
    rw [e2]at hx
    exact al H (hx m)
 ·obtain ⟨m,_,_,e1,_⟩:=g
  rw [e1]at hx
  exact al H (hx m)
end
section
variable {ag:F→cw}
structure Bu (ag:F→cw) (n:Nat) (c:Cx) (scope:Scope) (tg:Expr→Prop) (k:Kx) (μ:↑Addr) (σ:Mine.St) (ρ0:↑V) (h1:Heap) (l:↑D) (I:Addr) (as fp:↑Addr) (cl:↑(Str×Addr)) (C L:Addr) (S:Nat→Heap→Prop) (M:Nat→Value→Heap→Prop) (gM:Heap→↑Addr→Prop) (h:Heap):Prop where
 eK:eJ ag (k.comp scope cl C [C,L]) n
 cx:gX (et scope) (k.comp scope cl C [C,L])
 kI:wR k.prog k.w k.A I tg fp as l S M gM
 ap:rT (k.comp scope cl C [C,L]) as
 la:MS (k.comp scope cl C [C,L]) as fp L
 CT:mx (k.comp scope cl C [C,L]) as fp μ h1 l S gM 0 μ σ ρ0 h
 acc:h.get? L=some (ew [] 0)
 keep:dJ h1 h
 D2:cN h1 L
 zv:cN h1 C
 Sp:∀a∈as,cN h1 a
 self:∀(s:Shared) (Q: ~~~0) (E: ~~~0),S 0 s.heap→Q (.ref I) s→wpAny (model k.prog k.w) k.A (pyIter (.ref I)) Q E s
theorem vJ {σ:Mine.St} {wS:Value} {RR:Value→Addr→Result→Shared→Prop} {e:Expr} {d:Nat} {E: ~~~0} (sc:gp c scope cap) (cn:eJ ag k n) (cx:gX c k) (ok:Ok k μ σ ρ s1.heap)
  (dr:Drawn k μ s1 tg l wS s2)
  (h:∀I as fp S M gM C L h4 tk,wS= .ref I→Bu ag n c scope tg k μ σ (iD ρ cap++List.replicate (gk scope.names).length .un) s1.heap l I as fp (gY k.env scope.names []) C L S M gM h4→
   codeAny k.M k.A (.compStart e d (.ref I) (.ref L) (k.comp scope (gY k.env scope.names []) C [C,L]).env) (RR (.ref L) C) {s1 with heap:=h4,toks:=tk}):
  wpAny k.M k.A (newList []) (λacc Rq=>wpAny k.M k.A (newFunctionEnv scope k.env.globals (gY k.env scope.names []) [] k.env.qual none .none (some k.env)) (λXV aa6=>
   codeAny k.M k.A (.compStart e d wS acc {XV with scope:=relabel scope k.env}) (RR acc XV.locals) aa6) E Rq) E s2:=by
 obtain ⟨I,as,fp,S,M,gM,h2,tk2,rfl,rfl,dr⟩:=dr
 have Km:∀y∈scope.names,y.2≠ .cell:=λy hy q=>by
  rcases sc.fN y hy with w|w|w<;>(rw [w]at q;exact NameKind.noConfusion q)
 have ZM:scope.kind= .function:=sc.kind
 refine wpAny_newObj_type (wpAny_newFunctionEnv Km (by intro y hy;simp at hy) (λh4 uL ZN=>?_) ZM)
 dsimp only at uL ZN⊢
 have hC:(h2.push {cls:= .type "list",dict:=none,data:= .seq ([]:↑Value).toArray}).objs.size=h2.objs.size+1:=Heap.size_push ..
 have Sq:(h2.push {cls:= .type "list",dict:=none,data:= .seq ([]:↑Value).toArray}).get? h2.objs.size=some (ew [] 0):=gN _ rfl
 generalize hH3:h2.push {cls:= .type "list",dict:=none,data:= .seq ([]:↑Value).toArray}=h3 at uL ZN hC Sq⊢
 have MT:dJ h2 h3:=by refine dg hH3 ?_;exact .push _ _
 have XW:dJ h3 h4:=λb o eb=>by
  have hb:b≠h3.objs.size:=λq=>by rw [q]at eb;exact (cN.size h3).not eb
  refine ae (ZN.2 b hb) ?_
  exact lv _ eb
 have MU:=MT.trans XW
 have Sr:=dr.keep.trans MU
 have ZO:cN h2 h2.objs.size:= .size _
 have ZP:cN h3 h3.objs.size:= .size _
 have MV:cN s1.heap h2.objs.size:=dr.keep.wA.jV ZO
 have Su:cN s1.heap h3.objs.size:=(dr.keep.trans MT).wA.jV ZP
 have XX:h4.get? h2.objs.size=some (ew [] 0):=XW _ _ Sq
 have aa7:∃o,h4.get? h3.objs.size=some o:=let⟨o,_,_,ho,_⟩:=uL;⟨o,ho⟩
 have Bv:∀a∈as,∃o,h2.get? a=some o:=λa ha=>let⟨o,ho,_⟩:=(dr.new a ha).2;⟨o,ho⟩
 have D3:h2.objs.size∉as:=λq=>let⟨o,ho⟩:=Bv _ q;ZO.not ho
 have Sv:h3.objs.size∉as:=λq=>let⟨o,ho⟩:=Bv _ q;ZP.not (MT _ _ ho)
 have V2:h3.objs.size≠h2.objs.size:=by refine ae hC ?_;exact Nat.succ_ne_self _
 have ZQ:=uq sc cx ok
 have tM:∀x∈cT scope.names,∃a,k.env.cells.lookup x=some a:=λx hx=>(ZQ x hx).1
 have sX:∀y a,(gY k.env scope.names []).lookup y=some a→k.env.cells.lookup y=some a:=(sG (x:="") (λy a q=>by cases q) tM).1
 have MR:∀x∈cT scope.names,∃a,(gY k.env scope.names []).lookup x=some a:=λx hx=>(sG (x:=x) (λy a q=>by cases q) tM).2 (.inl hx)
 have hex:∀a∈as++[h3.objs.size,h2.objs.size],cN s1.heap a∧∃o,h4.get? a=some o:=λa ha=>by
  rcases bd.mp ha with ha|ha
  ·obtain ⟨o,ho⟩:=Bv a ha
   exact ⟨(dr.new a ha).1,o,MU _ _ ho⟩
  ·simp only [cM,fX,or_false]at ha
   rcases ha with rfl|rfl
   ·exact ⟨Su,aa7⟩
   ·exact ⟨MV,_,XX⟩
 have nd:(as++[h3.objs.size,h2.objs.size]).Nodup:=by
  refine fm.mpr ⟨dr.nd,by simp [V2],λa ha b hb q=>?_⟩
  subst q
  simp only [cM,fX,or_false]at hb
  rcases hb with rfl|rfl
  ·exact Sv ha
  ·exact D3 ha
 have ns':h4.Ns h3.objs.size λO=>none:=uL
 have okp:Ok (k.dh (as++[h3.objs.size,h2.objs.size])) μ σ ρ h4:=ok.dh Sr hex nd
 have okc:=Ok.comp (extra:=as++[h3.objs.size,h2.objs.size]) sc cn cx ok okp sX MR ns'
 rw [←Kl]at okc
 have eK:=eJ.comp (extra:=[h3.objs.size,h2.objs.size]) sc cn cx ok sX bZ
 refine h I as fp S M gM h3.objs.size h2.objs.size h4 _ rfl ⟨eK,gX.comp sc,dr.kI,?_,?_,?_,XX,Sr,MV,Su,λa ha=>(dr.new a ha).1,dr.self⟩
 ·refine ⟨λa ha q=>?_,Sv,λa ha=>ok.ia (dr.new a ha).1⟩
  exact Sv (bK.mp q▸ha)
 ·refine ⟨aW _ (by simp),λq=>V2 (bK.mp q).symm,ok.ia MV,D3,λq=>?_⟩
  obtain ⟨⟨o,ho⟩,_⟩:=dr.rR _ q D3
  exact MV.not ho
 ·refine ⟨okc,dr.kI.frame 0 h2 h4 dr.st λb O o eo=>MU _ _ eo,?_,λb hb ib=>?_⟩
  ·refine dr.kI.tC h2 h4 _ _ dr.tC ⟨λb o eo O O=>MU _ _ eo,λb o eo hb hm=>?_⟩
   change b∈(as++([h3.objs.size,h2.objs.size]++k.own))++μ at hm
   rcases bd.mp hm with hm|hm
   ·rcases bd.mp hm with hm|hm
    ·exact hb (aW _ (aW _ hm))
    ·rcases bd.mp hm with hm|hm
     ·simp only [cM,fX,or_false]at hm
      rcases hm with rfl|rfl
      ·exact ZP.not (MT _ _ eo)
      ·exact ZO.not eo
     ·exact hb (aW _ (bl _ hm))
   ·exact hb (bl _ hm)
  ·obtain ⟨⟨o,ho⟩,q1,q2⟩:=dr.rR b hb ib
   refine ⟨⟨o,Sr _ _ ho⟩,λhm=>?_,q2⟩
   change b∈[h3.objs.size]++μ at hm
   rcases bd.mp hm with hm|hm
   ·have hbC:=bK.mp hm
    exact Su.not (hbC▸ho)
   ·exact q1 (bl _ hm)
end
variable {h1 h4:Heap} {cc:Oe}
section
variable {ag:F→cw}
theorem Fu {σ σF:Mine.St} {XY:↑D} (cn:eJ ag k n) (ok:Ok k μ σ ρ h1) (az:Ft (k.comp scope cl C [C,L]) L XY (μ++ν) σF ρ0 h')
  (ext:b7 ((k.comp scope cl C [C,L]).wr++(L::μ)) k.F h1 h') (ip:∀a∈ν,cN h1 a) (hC:cN h1 C) (hL:cN h1 L) (V2:L≠C) (hs:Heap.SameBut C h' gC):
  Ok k (μ++ν) σF ρ gC∧b7 μ k.F h1 gC∧RV k.prog k.w gC (k.own++(μ++ν)) (μ++ν) (.ref L) (.d (.aD XY)):=by
 obtain ⟨vs,nn,g1,g2⟩:=az.acc
 have e1:b7 μ k.F h1 gC:=(ext.mono (X':=μ) λa ha=>by
   rcases bd.mp ha with ha|ha
   ·have:a=C:=bK.mp ha
    subst this;exact .inr hC
   ·refine sB ha ?_ λha=>?_
    ·exact .inr hL
    ·exact .inl ha).chg (as:=[C]) (λb o hb eo=>(hs.2 b λq=>hb (q▸bK.mpr H)).trans eo) λa ha=>by refine ae (bK.mp ha) ?_;exact hC
 have OZ:=Ok.jV cn ok az.ok hs e1 ip bZ
 refine ⟨OZ,e1, .d (.aD (n:=nn) ((hs.2 L V2).trans g1) ?_ ?_)⟩
 ·have nd:=az.ok.nodup
  change (([C,L]++k.own)++(μ++ν)).Nodup at nd
  rw [aX]at nd
  exact λq=>(fm.mp nd).2.2 L (by simp) L q H
 ·refine g2.into ⟨λb o eb hb O=>(hs.2 b λq=>hb (q▸aW _ (aW _ bZ))).trans eb,λb o O hb hm=>hb ?_⟩
  show b∈([C,L]++k.own)++(μ++ν)
  rw [aX];exact bl _ hm
theorem Bu.ne {σ:Mine.St} {S:Nat→Heap→Prop} {M:Nat→Value→Heap→Prop}
  (b:Bu ag n c scope tg k μ σ ρ0 h1 l I as fp cl C L S M gM h):L≠C:=λq=>b.la.wr (by refine ae q ?_;exact bK.mpr H)
theorem XZ {σ:Mine.St} {S:Nat→Heap→Prop} {M:Nat→Value→Heap→Prop}
  {cC:↑D×Mine.St} (b:Bu ag n c scope tg k μ σ ρ0 s1.heap l I as fp cl C L S M gM h4) (vG:jl (k.comp scope cl C [C,L]) target kQ) (mc:tg target) (hi:Bt ag K n (et scope) ifs cc) (he:bC ag K n (et scope) eZ y)
  (hU:j8 (λv=>nx kQ v ρ0) (wZ K cc y) l [] σ= .ok cC)
  (hR:∀ν h' tk,Ft (k.comp scope cl C [C,L]) L cC.1 (μ++ν) cC.2 ρ0 h'→b7 ((k.comp scope cl C [C,L]).wr++(L::μ)) k.F s1.heap h'→(∀a∈ν,cN s1.heap a)→R' (.ok .next) {s1 with heap:=h',toks:=tk}):
  codeAny k.M k.A (.compStart (.ListComp eZ [⟨target,iter,ifs,0⟩] scope p) 0 (.ref I) (.ref L) (k.comp scope cl C [C,L]).env) R' {s1 with heap:=h4,toks:=tk}:=by
 have cW:codeAny k.M k.A (.compLoop (.ListComp eZ [⟨target,iter,ifs,0⟩] scope p) 0 (.ref I) (.ref L) (k.comp scope cl C [C,L]).env) R' {s1 with heap:=h4,toks:=tk}:=by
  have ht:ur ((k.comp scope cl C [C,L]).dh as) L (wZ K cc y) (yy eZ ifs (.ref L) (k.comp scope cl C [C,L]).env):=
   D1 (b.eK.dh as) (b.cx.dh as) hi he (bl _ b.la.own) b.la.wr (λq=>b.ne q.symm) b.la.fr
  refine vI (k:=k.comp scope cl C [C,L]) (ZK _ _ _ _ _ _ _ _ _) b.eK vG mc b.kI b.ap b.la ht H b.CT ⟨[],0,b.acc, .nil⟩ (.of_keep b.keep) b.Sp (λa ha=>?_) hU hR
  have:=b.CT.ok.dM a ha
  change a∈as++([C,L]++k.own)at this
  rcases bd.mp this with q|q
  ·exact al ha (b.ap.fr a q)
  ·exact q
 exact codeAny_compStart_list cW (b.self _ _ _ b.CT.st cW)
end
section
variable {ag:F→cw}
theorem yz {r:R α} (h:ql r≠ .aQ):∃a,r= .ok a∧ql r= .ok a:=by
 induction r with
 |ok a=>exact ⟨a,rfl,rfl⟩
 |dW m=>exact al H h
 |aQ=>exact al H h
theorem Bw {nl:Nat} {i:It} {σ:Mine.St}:ev K (.comp cap nl kQ i cc y) ρ σ=(i8 K i ρ σ).bind λp=>
  (ql (j8 (λv=>nx kQ v (iD ρ cap++List.replicate nl .un)) (wZ K cc y) p.1 [] p.2)).bind λq=> .ok (.d (.aD q.1),q.2):=by
 rfl
theorem zw {i:It} (sc:gp c scope cap) (zu:∀env x,foldedSetIterable iter env x=pure x) (yw:oZ ag K n c iter tg i)
  (vG:∀(k:Kx) cl C ex,eJ ag (k.comp scope cl C ex) n→jl (k.comp scope cl C ex) target kQ) (mc:tg target) (hi:Bt ag K n (et scope) ifs cc) (he:bC ag K n (et scope) eZ y):
  bC ag K n c (.ListComp eZ [⟨target,iter,ifs,0⟩] scope p) (.comp cap (gk scope.names).length kQ i cc y):=by
 intro k μ σ ρ s cn cx ok h
 rw [Bw]at h⊢
 have tM:∀x∈cT scope.names,∃a,k.env.cells.lookup x=some a:=λx hx=>(uq sc cx ok x hx).1
 rw [eval_ListComp]
 refine wpAny_comprehension_free (use:=none) H (zu _) (tK scope k.env tM) sc.kind (λx hx hl=>gu sc.names.1 (hl▸hx)) ?_
 refine bv (yw k μ σ ρ s cn cx ok (R.ax h)) (λx s1 g=>bv g (λwS s2 g=>?_) λe s1 g=>g.bind) λe s1 g=>g.bind
 obtain ⟨l,σ1,ν,h1,sW,e1,bt,dF,dG,dr⟩:=g
 rw [e1]at h⊢
 simp only [R.dv]at h⊢
 obtain ⟨cC,f1,f2⟩:=yz (R.ax h)
 refine ae f2 ?_
 refine vJ (RR:=λacc C=>compPost k.M k.A _ none _ acc C) sc cn cx bt dr λI as fp S M gM C L h4 tk hI b=>?_
 refine XZ (s1:={s with heap:=h1,toks:=sW}) b (vG _ _ _ _ b.eK) mc hi he f1 λma h' hJ az ext fZ=>?_
 obtain ⟨m,hm,_⟩:=az.ok.env.ns
 refine ⟨m,hm,λgC hs=>?_⟩
 obtain ⟨V3,D4,rv⟩:=Fu cn bt az ext fZ b.zv b.D2 b.ne hs
 refine PG.trans (h':=h1) (tk:=sW) dF dG ?_
 exact ⟨_,cC.2,ma,gC,hJ,rfl,rfl,V3,D4,fZ,rv⟩
end
section
variable {σ σ':Mine.St} {ag:F→cw}
theorem Ok.ZR (cn:eJ ag k n) (x:Ok k μ σ ρ h) (y:Ok (k.comp scope cl C [C,L]) (μ++ν) σ' ρ0 h') (e:b7 μ k.F h h') (ip:∀a∈ν,cN h a) (hC:cN h C):Ok (k.dh [C]) (μ++ν) σ' ρ h':=by
 have nd:=y.nodup
 change (([C,L]++k.own)++(μ++ν)).Nodup at nd
 have sub:∀a∈([C]++k.own)++(μ++ν),a∈([C,L]++k.own)++(μ++ν):=λa ha=>by
  rw [aX]at ha⊢
  rcases bd.mp ha with ha|ha
  ·exact aW _ (by refine ae (bK.mp ha) ?_;exact bZ)
  ·exact bl _ ha
 have i:eU h' h' (([C,L]++k.own)++(μ++ν)) (([C]++k.own)++(μ++ν)):= .DB sub
 have ZJ:∀a∈k.F,a∉μ:=λa ha=>x.ix ha
 have iE:eU h h' (k.own++μ) (([C]++k.own)++(μ++ν)):= .ext (X:=k.own++μ) (F:=k.F) (e.mono λa ha=> .inl (bl _ ha)) (λa ha=>aW _ (x.dM a ha)) λa ha=>by
  rw [aX]at ha
  rcases bd.mp ha with ha|ha
  ·exact .inr (by refine ae (bK.mp ha) ?_;exact hC)
  ·rw [←aX]at ha
   exact (bd.mp ha).imp id (ip a)
 exact {
  base:=λb o (eb:k.B.get? b=some o)=>e.get (x.base b o eb) (λq=>(x.low b (bl _ q)).1.not eb) λq=>by rw [(x.frames.mem q).1]at eb;exact nomatch eb
  frames:=e.frames x.frames ZJ
  dM:=λa ha=>bl _ (x.dM a ha)
  low:=λa ha=>y.low a (sub a ha)
  nodup:=by
   show(([C]++k.own)++(μ++ν)).Nodup
   rw [aX]at nd⊢
   rw [rC,rC]at nd
   have h1:=gP.mp nd
   have h2:=gP.mp h1.2
   exact gP.mpr ⟨λq=>h1.1 (bY _ q),h2.2⟩
  cells:=y.cells.into i (.refl _) λa ha o eo=>eo
  env:=by
   have:=x.env.into iE (Mu.append μ ν) (λm hm=>e.ns hm (x.fy cn.good.tn)) λy' c v hl hv=>e.cell hv λq=>by
    obtain ⟨_,hc⟩:=x.cells.mem q
    exact hc.wF hv
   exact ⟨this.ns,this.cell,this.len⟩}
end
section
variable {ag:F→cw}
noncomputable abbrev X1 (ρ:↑V) (j:Nat) (p:V×Mine.St):RS:= .ok (.next,ρ.set j p.1,p.2)
theorem Kn {x:Str} {sp:Pos} {i:It} (hj:c.slot x=some j) (sc:gp c scope cap) (zu:∀env x,foldedSetIterable iter env x=pure x) (yw:oZ ag K n c iter tg i)
  (vG:∀(k:Kx) cl C ex,eJ ag (k.comp scope cl C ex) n→jl (k.comp scope cl C ex) target kQ) (mc:tg target) (hi:Bt ag K n (et scope) ifs cc) (he:bC ag K n (et scope) eZ y):
  i9 ag K n c w (.Assign [.Name x np] (.ListComp eZ [⟨target,iter,ifs,0⟩] scope p) sp) (.bD j (.comp cap (gk scope.names).length kQ i cc y)):=by
 intro k μ σ ρ s cn ok h
 have hs:=Cx.iS hj
 rw [←cn.cx.slots]at hs
 obtain ⟨b0,V4⟩:∃b0,swapsWith (.ListComp eZ [⟨target,iter,ifs,0⟩] scope p) (some (.Name x np)) sp.line k.env=pure b0:=⟨_,rfl⟩
 induction b0 with
 |false=>
  have ha:=zw (p:=p) sc zu yw vG mc hi he
  refine wpAny_Assign_Name ((ff.refl μ s _).step h (ha k μ σ ρ s cn.eK cn.cx ok (R.ax h)) λval v σ1 ν h1 tk O bt dF dG r1 e1 L1=>?_) V4
  refine bv (o5 (E:=i4 k μ s _) cn.eK bt hs (cn.pT x (fJ hs)) r1) (λO s' g=>?_) λO O g=>g
  obtain ⟨h',hJ,rfl,fO,gm⟩:=g
  exact (L1.ext (o8 gm)).g _ _ (PS.fk fO H .next)
 |true=>
  have MW:ev K (.comp cap (gk scope.names).length kQ i cc y) ρ σ≠ .aQ:=R.ax (f:=X1 ρ j) h
  rw [Bw]at MW
  have tM:∀x∈cT scope.names,∃a,k.env.cells.lookup x=some a:=λx hx=>(uq sc cn.cx ok x hx).1
  refine ae (exec_Assign_Name_used _ _ _ _ V4) ?_
  refine aj (fL (aj ?_))
  show wpAny _ k.A (do let _←comprehension (.ListComp eZ [⟨target,iter,ifs,0⟩] scope p) scope k.env _ (newList []) false (eval iter k.env) (some (assign (.Name x np) k.env))) _ _ s
  refine aj (bv (wpAny_comprehension_free (use:=some (assign (.Name x np) k.env)) (Q:=λO s'=>PS k μ s _ .next s') H (zu _) (tK scope k.env tM) sc.kind (λx hx hl=>gu sc.names.1 (hl▸hx)) ?_) (λO s' hq=>aB (aB hq)) λO O e=>e)
  have iT:(i8 K i ρ σ)≠ .aQ:=R.ax MW
  refine bv (yw k μ σ ρ s cn.eK cn.cx ok iT) (λxx s1 g=>bv g (λwS s2 g=>?_) λe s1 g=>(i4.Bf g).bind.bind) λe s1 g=>(i4.Bf g).bind.bind
  obtain ⟨l,σ1,ν,h1,sW,e1,bt,dF,dG,dr⟩:=g
  have X4:=R.jC e1 MW
  obtain ⟨cC,f1,f2⟩:=yz (R.ax X4)
  have hr:ex K w (.bD j (.comp cap (gk scope.names).length kQ i cc y)) ρ σ= .ok (.next,ρ.set j (.d (.aD cC.1)),cC.2):=R.cf (f:=X1 ρ j) (Bw.trans ((R.cf e1).trans (R.cf f2)))
  clear h MW X4
  refine vJ (RR:=λacc C=>compPost k.M k.A _ (some (assign (.Name x np) k.env)) _ acc C) sc cn.eK cn.cx bt dr λI as fp S M gM C L h4 tk hI b=>?_
  refine XZ (s1:={s with heap:=h1,toks:=sW}) b (vG _ _ _ _ b.eK) mc hi he f1 λma h' hJ az ext fZ=>?_
  obtain ⟨V3,D4,rv⟩:=Fu cn.eK bt az ext fZ b.zv b.D2 b.ne (.refl _ _)
  have okC:=Ok.ZR cn.eK bt az.ok D4 fZ b.zv
  have aa8:L≠C:=b.ne
  obtain ⟨m,hm,_⟩:=az.ok.env.ns
  have rvC:RV k.prog k.w h' ((k.dh [C]).own++((μ++ν)++ma)) ((μ++ν)++ma) (.ref L) (.d (.aD cC.1)):=by
   obtain ⟨vs,nn,g1,g2⟩:=az.acc
   have nd:=az.ok.nodup
   change (([C,L]++k.own)++((μ++ν)++ma)).Nodup at nd
   rw [aX,rC,rC]at nd
   have q1:=gP.mp nd
   have q2:=gP.mp q1.2
   refine .d (.aD (n:=nn) g1 (λhm=>?_) (g2.into (.DB λa ha=>?_)))
   ·change L∈([C]++k.own)++((μ++ν)++ma)at hm
    rw [aX]at hm
    rcases bd.mp hm with hm|hm
    ·exact aa8 (bK.mp hm)
    ·exact q2.1 hm
   ·change a∈([C]++k.own)++((μ++ν)++ma)at ha
    show a∈([C,L]++k.own)++((μ++ν)++ma)
    rw [aX]at ha⊢
    rcases bd.mp ha with ha|ha
    ·exact aW _ (by refine ae (bK.mp ha) ?_;exact bZ)
    ·exact bl _ ha
  refine yr (k:=k.dh [C]) (s:={s with heap:=h',toks:=hJ}) (cn.eK.dh [C]) okC hs (cn.pT x (fJ hs)) rvC λh5 tk5 Za e5=>?_
  have ZS:b7 k.wr k.F h' h5:=e5
  have hCw:C∉k.wr:=cn.eK.nF bt b.zv
  have hCF:C∉k.F:=bt.ia b.zv
  refine ⟨m,ZS.ns hm hCw,λh6 V5=>?_⟩
  have ZT:Ok k ((μ++ν)++ma) cC.2 (ρ.set j (.d (.aD cC.1))) h6:=Za.done bt.dM (λb o hb eo=>(V5.2 b λq=>hb (q▸bK.mpr H)).trans eo)
   (λq=>bt.ki b.zv (bK.mp q)) (λa ha=>by refine ae (bK.mp ha) ?_;exact hCF) λa ha v hv=>by
    rw [bK.mp ha]at hv
    exact tE (ZS.ns hm hCw) hv
  have D5:b7 (k.wr++(μ++ν)) k.F h1 h6:=((D4.mono (X':=k.wr++(μ++ν)) λa ha=> .inl (bl _ ha)).trans (ZS.mono (X':=k.wr++(μ++ν)) λa ha=> .inl (aW _ ha)) λa ha=> .inl ha).chg (as:=[C]) (λb o hb eo=>(V5.2 b λq=>hb (q▸bK.mpr H)).trans eo) λa ha=>by refine ae (bK.mp ha) ?_;exact b.zv
  refine PS.trans (h':=h1) (tk:=sW) (dF.mono λa ha=> .inl (bl _ ha)) dG ?_
  exact ⟨.next,_,cC.2,ma,h6,tk5,hr,rfl,ZT,D5,fZ, .next⟩
end
abbrev Fv (eZ t1 i1 t2 i2:Expr) (scope:Scope) (pos:Pos) (acc:Value) (env:Env):Sem Unit:=do
 let x←eval i2 env
 standAt i2.pos
 let x←foldedSetIterable i2 env x
 let it←holding [x] (pyIter x)
 let _←runOwn (.compStart (.ListComp eZ [⟨t1,i1,[],0⟩,⟨t2,i2,[],0⟩] scope pos) 1 it acc env) env
 pure ()
theorem V6 (eZ t1 i1 t2 i2:Expr) (scope:Scope) (pos:Pos) (it acc:Value) (env:Env):
  compTurn (.ListComp eZ [⟨t1,i1,[],0⟩,⟨t2,i2,[],0⟩] scope pos) 0 it acc env=(do
   standAt i1.pos
   match←pyNext it with
   |none=>pure (.done .next)
   |some v=>do
    letOwnedTupleGo t1 it v
    assign t1 env v
    Fv eZ t1 i1 t2 i2 scope pos acc env
    again (.compLoop (.ListComp eZ [⟨t1,i1,[],0⟩,⟨t2,i2,[],0⟩] scope pos) 0 it acc env)):=by
 unfold compTurn Fv
 simp only [List.getElem?_cons_zero,bne_self_eq_false,Bool.false_eq_true,↓reduceIte,List.forIn_nil,pure_bind,↓reduceIte,bind_assoc]
 rfl
theorem V7 (eZ t1 i1 t2 i2:Expr) (scope:Scope) (pos:Pos) (it acc:Value) (env:Env):
  compTurn (.ListComp eZ [⟨t1,i1,[],0⟩,⟨t2,i2,[],0⟩] scope pos) 1 it acc env=(do
   standAt i2.pos
   match←pyNext it with
   |none=>pure (.done .next)
   |some v=>do
    letOwnedTupleGo t2 it v
    assign t2 env v
    yy eZ [] acc env
    again (.compLoop (.ListComp eZ [⟨t1,i1,[],0⟩,⟨t2,i2,[],0⟩] scope pos) 1 it acc env)):=by rfl
variable {i1 i2 t1 t2:Expr}
section
variable {w:World} {s:Shared}
theorem Sw {it acc:Value}
  (h0:codeAny (model prog w) A (.compLoop (.ListComp eZ [⟨t1,i1,[],0⟩,⟨t2,i2,[],0⟩] scope pos) 1 it acc env) R' s)
  (h:wpAny (model prog w) A (pyIter it) (λZU s'=>codeAny (model prog w) A (.compLoop (.ListComp eZ [⟨t1,i1,[],0⟩,⟨t2,i2,[],0⟩] scope pos) 1 ZU acc env) R' s')
   (notedBy (model prog w) A env λx s'=>R' (.error x) s') s):
  codeAny (model prog w) A (.compStart (.ListComp eZ [⟨t1,i1,[],0⟩,⟨t2,i2,[],0⟩] scope pos) 1 it acc env) R' s:=by
 refine codeAny_of_tree ?_
 show wpAny _ _ ((compStart (.ListComp eZ [⟨t1,i1,[],0⟩,⟨t2,i2,[],0⟩] scope pos) 1 it acc env).onRaise (λx=>do noteFrame x env;standAt theWindowsPlace)) _ _ s
 refine wpAny_notedAt ?_
 show wpAny _ _ (ask>>=_) _ _ s
 refine aj (wpAny_askSetting (wpAny_ite ?_))
 split
 ·first
   |exact aj (aB (aB (And.intro H h0)))
   |exact aB (And.intro H h0)
 ·first
   |exact aj (wpAny_rule (aj (fL (aj (bv h (λZU s' h'=>aB (And.intro H h')) λO O x=>x)))))
   |(refine aj (wpAny_rule ?_);show wpAny _ _ (standAt i2.pos>>=_) _ _ s;exact aj (fL (aj (bv h (λZU s' h'=>aB (And.intro H h')) λO O x=>x))))
end
variable {w5:Tg} {mD:It}
section
variable {ag:F→cw}
abbrev Bx (K:fF) (i2:It) (t2:Tg) (y:E) (ρ:↑V) (acc:↑D) (σ:Mine.St):R (↑D×Mine.St):=(i8 K i2 ρ σ).bind λr=>
 j8 (λv=>nx t2 v ρ) (wZ K .none y) r.1 acc r.2
theorem O0 (cn:eJ ag q n) (cx:gX c q) (zu:∀env x,foldedSetIterable i2 env x=pure x) (yw:oZ ag K n c i2 tg mD) (vG:jl q t2 w5) (mc:tg t2) (he:bC ag K n c eZ y)
  (hL:L∈q.own) (hw:L∉q.wr) (hl:q.env.locals≠L) (hF:L∉q.F):ur q L (Bx K mD w5 y) (Fv eZ t1 i1 t2 i2 scope p (.ref L) q.env):=by
 intro μ σ ρ acc s r E az hr
 have hb:Bx K mD w5 y ρ acc σ≠ .aQ:=by refine ae hr ?_;intro q;cases q
 have hx:∀m,Bx K mD w5 y ρ acc σ≠ .dW m:=λm q=>by rw [hr]at q;cases q
 unfold Bx at hb hx hr
 have Sl:L∉μ:=az.ok.fy hL
 have noX:∀{e:Value} {s':Shared},PX q μ s (i8 K mD ρ σ) e s'→E e s':=λg=>by
  obtain ⟨m,_,_,e1,_⟩:=g
  rw [e1]at hx
  exact al H (hx m)
 refine aj (bv (yw q μ σ ρ s cn cx az.ok (R.ax hb)) (λx s1 g=>?_) λe s1 g=>noX g)
 refine aj (fL (aj (wpAny_of_eq (zu _ x) (aj (dA (bv g (λwS s2 g=>?_) λe s1 g=>noX g))))))
 obtain ⟨l,σ1,ν,h1,sW,e1,bt,dF,dG,I,as,fp,S,M,gM,h2,tk2,rfl,rfl,dr⟩:=g
 rw [e1]at hr
 simp only [R.dv]at hr
 obtain ⟨vs,nn,g1,g2⟩:=az.acc
 have uK:h1.get? L=some (ew vs nn):=dF.get g1 Sl hF
 have vA:cJ h1 (q.own++(μ++ν)) vs acc:=g2.into (.ext (X:=q.own++μ) (F:=q.F) (dF.mono λa ha=> .inl (bl _ ha)) (λa ha=>aW _ (az.ok.dM a ha)) λa ha=>by
  rw [←aX]at ha
  exact (bd.mp ha).imp id (dG a))
 have tJ:b7 (q.wr++(L::μ)) q.F s.heap h1:=dF.mono λa ha=> .inl (bl _ (bY _ ha))
 have D3:L∉as:=λw=>(dr.new L w).1.not uK
 have aa9:L∉fp:=λw=>dr.Bb L w D3 hL
 have ap:rT q as:=by
  refine ⟨λa ha=>cn.nF bt (dr.new a ha).1,λw=>?_,λa ha=>bt.ia (dr.new a ha).1⟩
  exact bt.ki (dr.new _ w).1 H
 have md:mx q as fp (μ++ν) h1 l S gM 0 (μ++ν) σ1 ρ h2:=
  ⟨bt.dh dr.keep (λa ha=>⟨(dr.new a ha).1,let⟨o,ho,_⟩:=(dr.new a ha).2;⟨o,ho⟩⟩) dr.nd,dr.st,dr.tC,λb hb ib=>let⟨⟨o,ho⟩,w⟩:=dr.rR b hb ib;⟨⟨o,dr.keep b o ho⟩,w⟩⟩
 have Sn:h2.get? L=some (ew vs nn):=dr.keep _ _ uK
 have So:cJ h2 ((as++q.own)++(μ++ν)) vs acc:=vA.into (.Hv dr.keep λa ha=>(dr.new a ha).1)
 have cW:∀tk0 (R':Result→Shared→Prop),(∀ν' h' tk,Ft q L r.1 ((μ++ν)++ν') r.2 ρ h'→b7 (q.wr++(L::(μ++ν))) q.F h1 h'→(∀a∈ν',cN h1 a)→R' (.ok .next) {s with heap:=h',toks:=tk})→
   codeAny q.M q.A (.compLoop (.ListComp eZ [⟨t1,i1,[],0⟩,⟨t2,i2,[],0⟩] scope p) 1 (.ref I) (.ref L) q.env) R' {s with heap:=h2,toks:=tk0}:=λtk0 R' hR=>by
  have ht:ur (q.dh as) L (wZ K .none y) (yy eZ [] (.ref L) (q.dh as).env):=
   D1 (cn.dh as) (cx.dh as) D0 he (bl _ hL) hw hl hF
  exact vI (k:=q) (s1:={s with heap:=h1,toks:=sW}) (V7 _ _ _ _ _ _ _ _ _ _) cn vG mc dr.kI ap ⟨hL,hw,hF,D3,aa9⟩ ht H md ⟨vs,nn,Sn,So⟩ (.of_keep dr.keep) (λa ha=>(dr.new a ha).1) bt.dM hr hR
 refine aj (wpAny_runOwn (Sw (cW _ _ λν' h' tk X6 gm fZ=>?_) (dr.self _ _ _ dr.st (cW _ _ λν' h' tk X6 gm fZ=>?_))))
 all_goals
  refine aB ⟨ν++ν',h',tk,rfl,by rw [←aX];exact X6,tJ.trans gm λa ha=>?_,λa ha=>?_⟩
  ·rcases bd.mp ha with ha|ha
   ·exact .inl (aW _ ha)
   ·refine sB ha ?_ λha=>?_
    ·exact .inl (bl _ bZ)
    ·rcases bd.mp ha with ha|ha
     ·exact .inl (bl _ (bY _ ha))
     ·exact .inr (dG a ha)
  ·rcases bd.mp ha with ha|ha
   ·exact dG a ha
   ·exact dF.1.jV (fZ a ha)
end
variable {MX:Tg} {V8 AR:Expr→Prop}
section
variable {ag:F→cw}
theorem O1 {nl:Nat} {t1 t2:Tg} {i1 i2:It} {σ:Mine.St}:ev K (.s9 cap nl t1 i1 t2 i2 y) ρ σ=(i8 K i1 ρ σ).bind λp=>
  (ql (j8 (λv=>nx t1 v (iD ρ cap++List.replicate nl .un)) (Bx K i2 t2 y) p.1 [] p.2)).bind λq=> .ok (.d (.aD q.1),q.2):=by
 rfl
theorem Sg {σ:Mine.St} {S:Nat→Heap→Prop} {M:Nat→Value→Heap→Prop}
  {cC:↑D×Mine.St} (b:Bu ag n c scope V8 k μ σ ρ0 s1.heap l I as fp cl C L S M gM h4) (Sx:jl (k.comp scope cl C [C,L]) t1 MX) (Sy:jl (k.comp scope cl C [C,L]) t2 w5) (Ko:V8 t1) (Kp:AR t2) (Kq:∀env x,foldedSetIterable i2 env x=pure x)
  (Sz:oZ ag K n (et scope) i2 AR mD) (he:bC ag K n (et scope) eZ y)
  (hU:j8 (λv=>nx MX v ρ0) (Bx K mD w5 y) l [] σ= .ok cC)
  (hR:∀ν h' tk,Ft (k.comp scope cl C [C,L]) L cC.1 (μ++ν) cC.2 ρ0 h'→b7 ((k.comp scope cl C [C,L]).wr++(L::μ)) k.F s1.heap h'→(∀a∈ν,cN s1.heap a)→R' (.ok .next) {s1 with heap:=h',toks:=tk}):
  codeAny k.M k.A (.compStart (.ListComp eZ [⟨t1,i1,[],0⟩,⟨t2,i2,[],0⟩] scope p) 0 (.ref I) (.ref L) (k.comp scope cl C [C,L]).env) R' {s1 with heap:=h4,toks:=tk}:=by
 have cW:codeAny k.M k.A (.compLoop (.ListComp eZ [⟨t1,i1,[],0⟩,⟨t2,i2,[],0⟩] scope p) 0 (.ref I) (.ref L) (k.comp scope cl C [C,L]).env) R' {s1 with heap:=h4,toks:=tk}:=by
  have ht:ur ((k.comp scope cl C [C,L]).dh as) L (Bx K mD w5 y) (Fv eZ t1 i1 t2 i2 scope p (.ref L) (k.comp scope cl C [C,L]).env):=
   O0 (b.eK.dh as) (b.cx.dh as) Kq Sz (Sy.dh as) Kp he (bl _ b.la.own) b.la.wr (λq=>b.ne q.symm) b.la.fr
  refine vI (k:=k.comp scope cl C [C,L]) (V6 _ _ _ _ _ _ _ _ _ _) b.eK Sx Ko b.kI b.ap b.la ht H b.CT ⟨[],0,b.acc, .nil⟩ (.of_keep b.keep) b.Sp (λa ha=>?_) hU hR
  have:=b.CT.ok.dM a ha
  change a∈as++([C,L]++k.own)at this
  rcases bd.mp this with q|q
  ·exact al ha (b.ap.fr a q)
  ·exact q
 exact codeAny_compStart_list cW (b.self _ _ _ b.CT.st cW)
theorem HR {QA:It} (sc:gp c scope cap) (ZV:∀env x,foldedSetIterable i1 env x=pure x) (Kq:∀env x,foldedSetIterable i2 env x=pure x)
  (aba:oZ ag K n c i1 V8 QA) (Sz:oZ ag K n (et scope) i2 AR mD)
  (Sx:∀(k:Kx) cl C ex,eJ ag (k.comp scope cl C ex) n→jl (k.comp scope cl C ex) t1 MX) (Sy:∀(k:Kx) cl C ex,eJ ag (k.comp scope cl C ex) n→jl (k.comp scope cl C ex) t2 w5)
  (Ko:V8 t1) (Kp:AR t2) (he:bC ag K n (et scope) eZ y):
  bC ag K n c (.ListComp eZ [⟨t1,i1,[],0⟩,⟨t2,i2,[],0⟩] scope p) (.s9 cap (gk scope.names).length MX QA w5 mD y):=by
 intro k μ σ ρ s cn cx ok h
 rw [O1]at h⊢
 have tM:∀x∈cT scope.names,∃a,k.env.cells.lookup x=some a:=λx hx=>(uq sc cx ok x hx).1
 rw [eval_ListComp]
 refine wpAny_comprehension_free (use:=none) H (ZV _) (tK scope k.env tM) sc.kind (λx hx hl=>gu sc.names.1 (hl▸hx)) ?_
 refine bv (aba k μ σ ρ s cn cx ok (R.ax h)) (λx s1 g=>bv g (λwS s2 g=>?_) λe s1 g=>g.bind) λe s1 g=>g.bind
 obtain ⟨l,σ1,ν,h1,sW,e1,bt,dF,dG,dr⟩:=g
 rw [e1]at h⊢
 simp only [R.dv]at h⊢
 obtain ⟨cC,f1,f2⟩:=yz (R.ax h)
 refine ae f2 ?_
 refine vJ (RR:=λacc C=>compPost k.M k.A _ none _ acc C) sc cn cx bt dr λI as fp S M gM C L h4 tk hI b=>?_
 refine Sg (s1:={s with heap:=h1,toks:=sW}) b (Sx _ _ _ _ b.eK) (Sy _ _ _ _ b.eK) Ko Kp Kq Sz he f1 λma h' hJ az ext fZ=>?_
 obtain ⟨m,hm,_⟩:=az.ok.env.ns
 refine ⟨m,hm,λgC hs=>?_⟩
 obtain ⟨V3,D4,rv⟩:=Fu cn bt az ext fZ b.zv b.D2 b.ne hs
 refine PG.trans (h':=h1) (tk:=sW) dF dG ?_
 exact ⟨_,cC.2,ma,gC,hJ,rfl,rfl,V3,D4,fZ,rv⟩
end
theorem HS:∀{xs:↑Str} {vs:↑α},xs.length=vs.length→xs.Nodup→xs.filterMap (λn=>((xs.zip vs).lookup n).map (n,·))=xs.zip vs:=by
 have key:∀(xs:↑Str) (vs:↑α) (l:↑(Str×α)),xs.length=vs.length→xs.Nodup→(∀x∈xs,∀p∈l,p.1≠x)→
   xs.filterMap (λn=>((l++xs.zip vs).lookup n).map (n,·))=xs.zip vs:=by
  intro xs
  induction xs with
  |nil=>intro vs l _ _ _;rfl
  |cons x xs ih=>
   intro vs l hl nd hd
   match vs,hl with
   |v::vs,hl=>
    rw [gP]at nd
    have h1:∀(l:↑(Str×α)) (y:Str) (r:↑(Str×α)),(∀p∈l,p.1≠y)→(l++r).lookup y=r.lookup y:=by
     intro l y r h
     induction l with
     |nil=>rfl
     |cons p l ih=>
      obtain ⟨a,b⟩:=p
      refine ae rC (ae ie (ae (jS.mpr (Ne.symm (h (a,b) bZ))) ?_))
      exact ih λp hp=>h p (bY _ hp)
    refine ae ud (ae lU (ae (h1 l x _ (λp hp=>hd x bZ p hp)) (ae List.lookup_cons_self ?_)))
    simp only [Option.map_some]
    have:=ih vs (l++[(x,v)]) (by simpa using hl) nd.2 λy hy p hp=>by
     rcases bd.mp hp with hp|hp
     ·exact hd y (bY _ hy) p hp
     ·refine ae (bK.mp hp) ?_;exact λ(q:x=y)=>nd.1 (q▸hy)
    rw [aX]at this
    exact aC _ this
 intro xs vs hl nd
 exact key xs vs [] hl nd λO O p hp=>al hp (by simp)
theorem qT:∀{xs:↑Str} {vs:↑α},xs.length=vs.length→∀x∈xs,((xs.zip vs).lookup x).isNone=false
 |x::xs,v::vs,hl,y,hy=>by
  refine ae ud (ae ie ?_)
  cases hb:y==x with
  |true=>rfl
  |false=>
   rcases cM.mp hy with rfl|hy
   ·simp at hb
   ·exact qT (by simpa using hl) y hy
theorem O2 {σ:Type} {s:σ} {f:α→σ→Sem (ForInStep σ)} {k:σ→Sem β}:(forIn ([]:↑α) s f>>=k)=k s:=rfl
theorem Kr {k:Option (Array Value)→Sem β}:(seqItems? Value.none>>=k)=k none:=rfl
variable {fd:FuncData}
theorem HT {vals:↑Value} (hp:wK fd.params) (SA:fd.defaults= .none) (nd:(fd.params.args.map (·.arg)).Nodup) (hl:vals.length=fd.params.args.length):
  bindArgs fd ⟨vals,[]⟩=pure ((fd.params.args.map (·.arg)).zip vals):=by
 obtain ⟨name,qn,⟨po,args,va,ko,kd,kw,ds⟩,body,scope,gl,cl,df,kwd,_,_,_,_,_,_⟩:=fd
 obtain ⟨rfl,rfl,rfl,rfl⟩:po=[]∧va=none∧ko=[]∧kw=none:=⟨hp.1,hp.2,hp.3,hp.4⟩
 obtain rfl:df= .none:=SA
 have rP:vals.length=(args.map (·.arg)).length:=by rw [fb];exact hl
 have hz:=HS (xs:=args.map (·.arg)) (vs:=vals) rP.symm nd
 have hf:(args.map (·.arg)).filter (λn=>(((args.map (·.arg)).zip vals).lookup n).isNone)=[]:=List.filter_eq_nil_iff.mpr λa ha=>by rw [qT rP.symm a ha];exact gA
 clear hp nd hl
 unfold bindArgs
 dsimp only [List.map_nil,List.nil_append,List.append_nil,Option.isNone_none]
 simp only [↓O2,↓Kr,↓pure_bind,List.map_nil,pG,b6,gt_iff_lt,Nat.lt_irrefl,decide_false,Bool.false_and,↓reduceIte,Option.getD_none,List.drop_nil,lW,Nat.sub_zero,rP,List.take_length,List.drop_length,hf,List.isEmpty_nil,Bool.not_true,Bool.false_eq_true,List.zip_nil_right,hz]
variable {pm:Value}
theorem HU {p:Arguments} {body:↑Stmt} {cd doc:Value} {vals:↑Value} (hp:wK p) (nd:(p.args.map (·.arg)).Nodup) (hl:vals.length=p.args.length):
  bindArgs (Calls.docDef name p body scope pm cd doc) ⟨vals,[]⟩=pure ((p.args.map (·.arg)).zip vals):=HT (fd:=Calls.docDef name p body scope pm cd doc) hp H nd hl
theorem o9 (names:↑(Str×NameKind)):∀(n:Nat) (acc:↑(Str×Addr)) (x:Str),((x, .cell)∈names∨∃c,(x,c)∈acc)→∃c,(x,c)∈cellsFrom n names acc:=by
 induction names with
 |nil=>
  intro _ _ _ h
  rcases h with h|h
  ·cases h
  ·exact h
 |cons p_ r dS=>
  obtain ⟨y,kind⟩:=p_
  intro n acc x h
  unfold cellsFrom
  split
  ·rename_i hk
   refine dS _ _ x ?_
   rcases h with h|⟨c,h⟩
   ·rcases cM.mp h with q|h
    ·obtain ⟨rfl,rfl⟩:=j0 q;exact .inr ⟨n,bZ⟩
    ·exact .inl h
   ·exact .inr ⟨c,bY _ h⟩
  ·rename_i hk
   refine dS _ _ x ?_
   rcases h with h|h
   ·rcases cM.mp h with q|h
    ·obtain ⟨rfl,rfl⟩:=j0 q;exact al rfl hk
    ·exact .inl h
   ·exact .inr h
theorem sK (names:↑(Str×NameKind)):∀(n:Nat) (acc:↑(Str×Addr)),(names.map (·.1)).Nodup→(acc.map (·.1)).Nodup→(∀p∈acc,p.1∉names.map (·.1))→((cellsFrom n names acc).map (·.1)).Nodup:=by
 induction names with
 |nil=>exact λO O O h O=>h
 |cons p_ r dS=>
  obtain ⟨y,kind⟩:=p_
  intro n acc h1 h2 h3
  rw [ef,gP]at h1
  unfold cellsFrom
  split
  ·refine dS _ _ h1.2 ?_ λp hp=>?_
   ·refine ae ef ?_;rw [gP]
    refine ⟨λhm=>?_,h2⟩
    obtain ⟨p,hp,hq⟩:=fq.mp hm
    exact h3 p hp (by simp [hq])
   ·refine sB hp ?_ λhp=>?_
    ·exact h1.1
    ·exact λhm=>h3 p hp (by simp [hm])
  ·exact dS _ _ h1.2 h2 λp hp hm=>h3 p hp (by simp [hm])
theorem me {l:↑(Str×α)} {x:Str} {v:α} (nd:(l.map (·.1)).Nodup) (h:(x,v)∈l):l.lookup x=some v:=by
 induction l with
 |nil=>cases h
 |cons p l ih=>
  obtain ⟨y,w⟩:=p
  rw [ef,gP]at nd
  refine ae ie ?_
  rcases cM.mp h with q|h
  ·obtain ⟨rfl,rfl⟩:=j0 q;simp
  ·have:(x==y)=false:=jS.mpr λq=>nd.1 (fq.mpr ⟨(x,v),h,q⟩)
   refine ae this ?_;exact ih nd.2 h
variable {kindOf:Str→Option NameKind}
theorem vK:∀{xs:↑Str} {vs:↑Value} {m:Str→Option Value},xs.length=vs.length→xs.Nodup→∀{i:Nat} {x:Str} {v:Value},xs[i]?=some x→vs[i]?=some v→kindOf x=some .local→bindL kindOf (xs.zip vs) m x=some v:=by
 have Bb:∀{xs:↑Str} {vs:↑Value} {m:Str→Option Value} {x:Str},x∉xs→bindL kindOf (xs.zip vs) m x=m x:=by
  intro xs
  induction xs with
  |nil=>intro vs m x _;rfl
  |cons y xs ih=>
   intro vs m x hx
   induction vs with
   |nil=>rfl
   |cons u vs=>
    refine ae ud ?_
    unfold bindL
    refine ae (ih λq=>hx (bY _ q)) ?_
    split
    ·exact aN λ(q:x=y)=>hx (q▸bZ)
    ·rfl
 intro xs
 induction xs with
 |nil=>intro vs m _ _ i x v h;simp at h
 |cons y xs ih=>
  intro vs m hl nd i x v h1 h2 hk
  match vs,hl with
  |u::vs,hl=>
   rw [gP]at nd
   refine ae ud ?_
   unfold bindL
   induction i using gi with
   |zero=>
    simp only [List.getElem?_cons_zero,Option.some.injEq]at h1 h2
    subst h1;subst h2
    refine ae (Bb nd.1) (ae (ao hk) ?_)
    exact ao H
   |succ i=>exact ih (by simpa using hl) nd.2 (by simpa using h1) (by simpa using h2) hk
theorem Ks:∀{xs:↑Str} {vs:↑Value} {m:Str→Option Value},xs.length=vs.length→xs.Nodup→∀{i:Nat} {x:Str} {v:Value},xs[i]?=some x→vs[i]?=some v→kindOf x≠some .local→bindC kindOf (xs.zip vs) m x=some v:=by
 have Bb:∀{xs:↑Str} {vs:↑Value} {m:Str→Option Value} {x:Str},x∉xs→bindC kindOf (xs.zip vs) m x=m x:=by
  intro xs
  induction xs with
  |nil=>intro vs m x _;rfl
  |cons y xs ih=>
   intro vs m x hx
   induction vs with
   |nil=>rfl
   |cons u vs=>
    refine ae ud ?_
    unfold bindC
    refine ae (ih λq=>hx (bY _ q)) ?_
    split
    ·rfl
    ·exact aN λ(q:x=y)=>hx (q▸bZ)
 intro xs
 induction xs with
 |nil=>intro vs m _ _ i x v h;simp at h
 |cons y xs ih=>
  intro vs m hl nd i x v h1 h2 hk
  match vs,hl with
  |u::vs,hl=>
   rw [gP]at nd
   refine ae ud ?_
   unfold bindC
   induction i using gi with
   |zero=>
    simp only [List.getElem?_cons_zero,Option.some.injEq]at h1 h2
    subst h1;subst h2
    refine ae (Bb nd.1) (ae (aN hk) ?_)
    exact ao H
   |succ i=>exact ih (by simpa using hl) nd.2 (by simpa using h1) (by simpa using h2) hk
abbrev gD (μ:↑Addr) (rs:↑Nat):↑Addr:=rs.map λi=>(μ[i]?).getD 0
variable {rs:↑Nat}
theorem w6 (hb:∀n∈rs,n<μ.length) {t:Nat} (h:rs[t]?=some n):(gD μ rs)[t]?=μ[n]?:=by
 unfold gD
 refine ae lj (ae h ?_)
 have hn:=hb n (fJ h)
 simp [fE hn]
theorem By (hb:∀n∈rs,n<μ.length) (h:n∈rs):(gD μ rs)[en rs n]?=μ[n]?:=by
 refine w6 hb ?_
 unfold en
 refine ae (fE (List.idxOf_lt_length_iff.mpr h)) ?_
 simp
theorem nI:(gD μ rs).length=rs.length:=fb ..
theorem w7 (hb:∀n∈rs,n<μ.length):∀a∈gD μ rs,a∈μ:=by
 intro a ha
 obtain ⟨n,hn,rfl⟩:=fq.mp ha
 have:=hb n hn
 simp [fE this]
theorem Kt (nd:μ.Nodup):(∀n∈rs,n<μ.length)→rs.Nodup→(gD μ rs).Nodup:=by
 induction rs with
 |nil=>exact λ_ _=>List.nodup_nil
 |cons r rs dS=>
  intro hb h
  rw [gP]at h
  show(_::gD μ rs).Nodup
  rw [gP]
  refine ⟨λhm=>?_,dS (λn hn=>hb n (bY _ hn)) h.2⟩
  obtain ⟨m,hm,q⟩:=fq.mp hm
  have h1:=hb r bZ
  have h2:=hb m (bY _ hm)
  simp only [fE h1,fE h2,Option.getD_some]at q
  have:m=r:=(List.getElem_inj nd).mp q
  exact h.1 (this▸hm)
theorem Bz:∀{cs:St},i5 σ rs= .ok cs→∀n∈rs,n<σ.length:=by
 induction rs with
 |nil=>exact λO n h=>al h fX
 |cons r rs ih=>
  exact λe n h=>R.ah (e:) λl hl e=>R.ah e λKu hg O=>(cM.mp h).elim (λq=>by subst q;exact Nat.lt_of_not_le λq=>by rw [rm q]at hl;exact R.no (hl:)) (ih hg n)
section
variable {w:World}
theorem iR.at' (r:iR prog w h X e6 as σ) {c:iq} (e:σ[n]?=some c):∃a,as[n]?=some a∧RC prog w h X e6 a c:=r.get e
theorem iR.at2 (r:iR prog w h X e6 as σ):∀{n:Nat} {a:Addr},as[n]?=some a→∃c,σ[n]?=some c∧RC prog w h X e6 a c:=by
 induction r with
 |nil=>intro n a e;cases e
 |cons x _ ih=>
  intro n a e
  induction n with
  |zero=>exact ⟨_,rfl,bb e▸x⟩
  |succ n=>exact ih e
theorem iR.ZW:∀{σ:St},as.length=σ.length→(∀(n:Nat) a c,as[n]?=some a→σ[n]?=some c→RC prog w h X e6 a c)→iR prog w h X e6 as σ:=by
 induction as with
 |nil=>intro σ hl f;induction σ using bu with|nil=>exact .nil|cons=>exact nomatch hl
 |cons a as ih=>intro σ hl f;induction σ using bu with|nil=>exact nomatch hl|cons c σ=>exact .cons (f 0 a c rfl rfl) (ih (ug hl) λn a c h1 h2=>f (n+1) a c h1 h2)
theorem HV (r:iR prog w h X μ μ σ) (i:eU h h' X X') (hk:∀b o,h.get? b=some o→h'.get? b=some o):∀{cs:St},i5 σ rs= .ok cs→iR prog w h' X' e6 (gD μ rs) cs:=by
 induction rs with
 |nil=>exact λe=>R.aF (e:) .nil
 |cons n rs ih=>
  intro cs e
  refine R.ah (e:) λl hl e=>R.ah e λKu hg e=>R.aF e ?_
  show iR prog w h' X' e6 ((μ[n]?).getD 0::gD μ rs) _
  generalize hc:σ[n]?=o0;induction o0 using di with
  |none=>rw [hc]at hl;exact R.no (hl:)
  |some c=>
   obtain ⟨a,ha,rc⟩:=r.get hc
   refine ae ha ?_
   rw [hc]at hl
   refine .cons ?_ (ih hg)
   induction rc with
   |list e1 rd=>exact R.aF (hl:) (.list (hk _ _ e1) (rd.into i))
   |dict=>exact R.no (hl:)
theorem V9 (i:eU h h' X X') (hb:∀n∈rs,n<μ.length) {l:↑(Str×At)} (r:hW h X μ bP l):(∀n∈mG l,n∈rs)→hW h' X' (gD μ rs) bP (te (en rs) l):=by
 induction r with
 |nil=>exact λO=> .nil
 |cons a _ ih=>
  intro hr
  induction a with
  |d r=>exact .cons (.d (r.into i)) (ih hr)
  |ref e=>exact .cons (.ref ((By hb (hr _ bZ)).trans e)) (ih λn hn=>hr n (bY _ hn))
theorem ZX (i:eU h h' X X') (hb:∀n∈rs,n<μ.length) {val:Value} (r:RV prog w h X μ val v) (hr:∀n∈cv [v],n∈rs):RV prog w h' X' (gD μ rs) val (kX (en rs) v):=by
 induction r with
 |d r=>exact .d (r.into i)
 |ref e=>exact .ref ((By hb (hr _ bZ)).trans e)
 |eO e hX hs r=>exact .eO (DictOf.into i e hX).1 (DictOf.into i e hX).2 hs (V9 i hb r λn hn=>hr n (aW _ hn))
theorem BA:∀{vs:↑V} {v:V},v∈vs→∀n∈cv [v],n∈cv vs
 |u::vs,v,h,n,hn=>by
  rcases cM.mp h with rfl|h
  ·induction v using V.casesOn with
   |ref m=>exact (bK.mp hn)▸bZ
   |eO l=>exact aW _ (show n∈mG l from b6 (mG l)▸hn)
   |_=>exact (fX hn).elim
  ·have q:=BA h n hn
   induction u using V.casesOn with
   |ref m=>exact bY _ q
   |eO l=>exact bl _ q
   |_=>exact q
theorem w8:∀(rs:↑Nat) (cs σ:St),(putBack rs cs σ).length=σ.length
 |[],_,_=>rfl
 |_::_,[],_=>rfl
 |r::rs,c::cs,σ=>(w8 rs cs (σ.set r c)).trans List.length_set
theorem rV:∀(rs:↑Nat) (cs σ:St) {n:Nat},n∉rs→(putBack rs cs σ)[n]?=σ[n]?
 |[],_,_,_,_=>rfl
 |_::_,[],_,_,_=>rfl
 |r::rs,c::cs,σ,n,h=>(rV rs cs (σ.set r c) (λq=>h (bY _ q))).trans (kE (λq:r=n=>h (q▸bZ)))
theorem zx:∀{rs:↑Nat} {cs σ:St},rs.Nodup→∀{t n:Nat} {c:iq},rs[t]?=some n→cs[t]?=some c→n<σ.length→(putBack rs cs σ)[n]?=some c
 |[],_,_,_,_,_,_,h,_,_=>by simp at h
 |_::_,[],_,_,_,_,_,_,h,_=>by simp at h
 |r::rs,c::cs,σ,nd,t,n,d,h1,h2,hn=>by
  rw [gP]at nd
  show(putBack rs cs (σ.set r c))[n]?=some d
  induction t with
  |zero=>
   obtain rfl:=bb h1
   obtain rfl:=bb h2
   exact (rV rs cs _ nd.1).trans (u5 hn)
  |succ t=>exact zx nd.2 (t:=t) h1 h2 (List.length_set.symm▸hn)
theorem D6 (hb:∀n∈rs,n<μ.length) (hn:rs[n]?=some m) (e:(gD μ rs++ν)[n]?=some a):μ[m]?=some a:=by
 rw [lT (by refine ae nI ?_;exact (jo.mp hn).1),w6 hb hn]at e
 exact e
theorem V' (i:eU h h' X X') (hb:∀n∈rs,n<μ.length) {l:↑(Str×At)} (r:hW h X (gD μ rs++ν) bP l):hW h' X' (μ++ν) bP (te (AM rs μ.length) l):=by
 induction r with
 |nil=>exact .nil
 |cons a _ ih=>
  induction a with
  |d r=>exact .cons (.d (r.into i)) ih
  |@ref a n e=>
   refine .cons (.ref ?_) ih
   unfold AM
   generalize hn:rs[n]?=o0;induction o0 using di with
   |some m=>
    rw [lT (hb m (fJ hn)),D6 hb hn e]
   |none=>
    have O3:rs.length≤n:=List.getElem?_eq_none_iff.mp hn
    rw [s5 (by rw [nI];exact O3),nI]at e
    refine ae (s5 (mY _ _)) ?_;rw [Nat.add_sub_cancel_left,e]
theorem SD (i:eU h h' X X') (hb:∀n∈rs,n<μ.length) {l:↑(Str×At)} (r:hW h X (gD μ rs++ν) bP l):((mG l).all λx=>decide (x<rs.length))=true→hW h' X' μ bP (te (AM rs μ.length) l):=by
 induction r with
 |nil=>exact λO=> .nil
 |cons a _ ih=>
  intro hr
  induction a with
  |d r=>exact .cons (.d (r.into i)) (ih hr)
  |@ref a n e=>
   rw [mG,om,c9,lk]at hr
   refine .cons (.ref ?_) (ih hr.2)
   have hn:rs[n]?=some rs[n]:=fE hr.1
   unfold AM
   refine ae hn ?_
   exact D6 hb hn e
end
abbrev Kx.sub (k:Kx) (env:Env) (slots:↑Str) (fresh:↑Addr) (μ:↑Addr) (rs:↑Nat):Kx:=
 {B:=k.B,prog:=k.prog,w:=k.w,A:=k.A.deeper env,env:=env,envs:=env::k.envs,slots:=slots,own:=fresh++(k.own++μ.filter λa=>!(gD μ rs).contains a),wr:=fresh}
variable {ν':↑Addr} {ρ2:↑V}
section
variable {slots:↑Str} {fresh:↑Addr} {ag:F→cw}
theorem SE:a∈k.own++μ→a∈(k.sub env slots fresh μ rs).own++gD μ rs:=by
 intro ha
 show a∈(fresh++(k.own++μ.filter λa=>!(gD μ rs).contains a))++gD μ rs
 rcases bd.mp ha with ha|ha
 ·simp [ha]
 ·by_cases q:a∈gD μ rs
  ·simp [q]
  ·refine aW _ (bl _ (bl _ (pH.mpr ⟨ha,?_⟩)))
   simp [q]
theorem D7 (hb:∀n∈rs,n<μ.length):a∈(k.sub env slots fresh μ rs).own++gD μ rs→a∈fresh∨a∈k.own++μ:=by
 intro ha
 rcases bd.mp ha with ha|ha
 ·rcases bd.mp ha with ha|ha
  ·exact .inl ha
  ·rcases bd.mp ha with ha|ha
   ·exact .inr (aW _ ha)
   ·exact .inr (bl _ (pH.mp ha).1)
 ·exact .inr (bl _ (w7 hb a ha))
theorem Kv (nd:(k.own++μ).Nodup) (hb:∀n∈rs,n<μ.length) (hr:rs.Nodup) (hf:fresh.Nodup) (SF:∀a∈fresh,a∉k.own++μ):((k.sub env slots fresh μ rs).own++gD μ rs).Nodup:=by
 obtain ⟨n1,n2,n3⟩:=fm.mp nd
 show((fresh++(k.own++μ.filter λa=>!(gD μ rs).contains a))++gD μ rs).Nodup
 rw [aX,aX]
 refine fm.mpr ⟨hf,fm.mpr ⟨n1,fm.mpr ⟨n2.filter _,Kt n2 hb hr,λa ha b pz q=>?_⟩,λa ha b pz q=>?_⟩,λa ha b pz q=>?_⟩
 ·subst q
  have:=(pH.mp ha).2
  simp at this
  exact this pz
 ·subst q
  rcases bd.mp pz with pz|pz
  ·exact n3 a ha a (pH.mp pz).1 H
  ·exact n3 a ha a (w7 hb a pz) H
 ·subst q
  refine SF a ha ?_
  rcases bd.mp pz with pz|pz
  ·exact aW _ pz
  ·rcases bd.mp pz with pz|pz
   ·exact bl _ (pH.mp pz).1
   ·exact bl _ (w7 hb a pz)
structure pV (k:Kx) (μ:↑Addr) (σ:St) (ρ:↑V) (h h':Heap) (fresh:↑Addr) (rs:↑Nat) (ν:↑Addr) (σ':St):Prop where
 ok:Ok k μ σ ρ h
 qL:∀n∈rs,n<μ.length
 nd:rs.Nodup
 base:∀b o,k.B.get? b=some o→h'.get? b=some o
 frames:h'.FunFrames k.B k.envs
 ext:b7 μ k.F h h'
 other:∀a∈μ,a∉gD μ rs→∀o,h.get? a=some o→h'.get? a=some o
 low:∀a∈ν,cN k.B a∧∃o,h'.get? a=some o
 new:∀a∈ν,cN h a
 nodup:((fresh++(k.own++μ.filter λa=>!(gD μ rs).contains a))++(gD μ rs++ν)).Nodup
 cells:iR k.prog k.w h' ((fresh++(k.own++μ.filter λa=>!(gD μ rs).contains a))++(gD μ rs++ν)) (gD μ rs++ν) (gD μ rs++ν) σ'
 Wa:(σ'.take rs.length).all GU=true
 X7:k.env.locals∈k.own
theorem HW (ha:a∈k.own++(μ++ν)):a∈(fresh++(k.own++μ.filter λa=>!(gD μ rs).contains a))++(gD μ rs++ν):=by
 rw [←aX]at ha
 rw [←aX]
 rcases bd.mp ha with ha|ha
 ·exact aW _ (SE (k:=k) (env:=k.env) (slots:=k.slots) (fresh:=fresh) (rs:=rs) ha)
 ·exact bl _ ha
theorem pV.Fw (x:pV k μ σ ρ h h' fresh rs ν σ') (ip:∀a∈ν',a∈ν):eU h' h' ((fresh++(k.own++μ.filter λa=>!(gD μ rs).contains a))++(gD μ rs++ν)) (k.own++(μ++ν')):=
 .DB λa ha=>HW (ν:=ν) (by
  rw [←aX]at ha⊢
  rcases bd.mp ha with ha|ha
  ·exact aW _ ha
  ·exact bl _ (ip a ha))
theorem pV.w9 (x:pV k μ σ ρ h h' fresh rs ν σ'):∀a∈k.own++μ,a∉ν:=λa ha hn=>by
 obtain ⟨_,o,e⟩:=x.ok.low a ha
 exact (x.new a hn).not e
theorem pV.len (x:pV k μ σ ρ h h' fresh rs ν σ'):μ.length=σ.length:=x.ok.cells.length
theorem pV.jV (x:pV k μ σ ρ h h' fresh rs ν σ') {ex:St} (ip:∀a∈ν',a∈ν) (kZ:ν'.Nodup) (hex:iR k.prog k.w h' (k.own++(μ++ν')) (μ++ν') ν' ex):Ok k (μ++ν') (putBack rs σ' σ++ex) ρ h':=by
 have iE:eU h h' (k.own++μ) (k.own++(μ++ν')):= .ext (X:=k.own++μ) (F:=k.F) (x.ext.mono λa ha=> .inl (bl _ ha)) (λa ha=>aW _ (x.ok.dM a ha)) λa ha=>by
  rw [←aX]at ha
  exact (bd.mp ha).imp id λq=>x.new a (ip a q)
 have cb:(gD μ rs++ν).length=σ'.length:=x.cells.length
 exact {
  base:=x.base
  frames:=x.frames
  dM:=x.ok.dM
  low:=λa ha=>by
   rw [←aX]at ha
   rcases bd.mp ha with ha|ha
   ·obtain ⟨nb,o,eo⟩:=x.ok.low a ha
    obtain ⟨o',e'⟩:=x.ext.1 a o eo
    exact ⟨nb,o',e'⟩
   ·exact x.low a (ip a ha)
  nodup:=by
   rw [←aX]
   exact fm.mpr ⟨x.ok.nodup,kZ,λa ha b hb q=>x.w9 a ha (ip a (q▸hb))⟩
  cells:=by
   refine iR.append (iR.ZW (by rw [w8];exact x.len) λn a c h1 h2=>?_) hex
   by_cases q:n∈rs
   ·obtain ⟨t,ht⟩:=List.mem_iff_getElem?.mp q
    have hn:=x.qL n q
    have ha2:(gD μ rs)[t]?=some a:=(w6 x.qL ht).trans h1
    have ZY:t<rs.length:=(jo.mp ht).1
    obtain ⟨c',sV,rc⟩:=x.cells.at2 (n:=t) (a:=a) (by rw [lT (by rw [nI];exact ZY)];exact ha2)
    have:(putBack rs σ' σ)[n]?=some c':=zx x.nd ht sV (by rw [←x.len];exact hn)
    rw [this]at h2;injection h2 with h2;subst h2
    have hl:GU c'=true:=eI.mp x.Wa c' (List.mem_iff_getElem?.mpr ⟨t,by rw [List.getElem?_take];refine ae (ao ZY) ?_;exact sV⟩)
    induction rc with
    |list e1 rd=>exact .list e1 (rd.into (x.Fw ip))
    |dict=>cases hl
   ·rw [rV rs σ' σ q]at h2
    obtain ⟨a',nA,rc⟩:=x.ok.cells.at' h2
    rw [h1]at nA;injection nA with nA;subst nA
    have HX:a∉gD μ rs:=λhm=>by
     obtain ⟨m,HD,HX⟩:=fq.mp hm
     have hml:=x.qL m HD
     rw [fE hml]at HX
     have vD:=(jo.mp h1)
     obtain ⟨O3,vD⟩:=vD
     have nd:=(fm.mp x.ok.nodup).2.1
     have:m=n:=(List.getElem_inj nd).mp (HX.trans vD.symm)
     exact q (this▸HD)
    have ko:=x.other a (fJ h1) HX
    induction rc with
    |list e1 rd=>exact .list (ko _ e1) (rd.into iE)
    |dict e1 hs ra=>
     obtain ⟨o,es,ep,ho,hr⟩:=e1
     exact .dict ⟨o,es,ep,ko _ ho,hr⟩ hs (ra.into iE (Mu.append μ ν'))
  env:=x.ok.env.into iE (Mu.append μ ν') (λm hm=>x.ext.ns hm (x.ok.fy x.X7)) λy' c v hl hv=>x.ext.cell hv λq=>by
    obtain ⟨_,hc⟩:=x.ok.cells.mem q
    exact hc.wF hv}
end
section
variable {fresh:↑Addr} {s:Shared}
theorem Kw {m m':↑Addr} (i:eU h' h' X X') (r:iR k.prog k.w h' X m as σ) (hl:σ.all GU=true):iR k.prog k.w h' X' m' as σ:=by
 induction r with
 |nil=>exact .nil
 |cons x r ih=>
  rw [om,c9]at hl
  refine .cons ?_ (ih hl.2)
  induction x with
  |list e rd=>exact .list e (rd.into i)
  |dict=>cases hl.1
theorem iR.ZZ {m:↑Addr} (n:Nat) (r:iR k.prog k.w h X m as σ):iR k.prog k.w h X m (as.drop n) (σ.drop n):=by
 induction r generalizing n with
 |nil=>rw [List.drop_nil,List.drop_nil];exact .nil
 |cons x r ih=>
  induction n using gi with
  |zero=>exact .cons x r
  |succ n=>exact ih n
theorem pV.xc (x:pV k μ σ ρ s.heap h' fresh rs ν σ') {val:Value} (hr:r= .ok (v,putBack rs σ' σ)) (hv:RV k.prog k.w h' (k.own++μ) μ val v):
  PG k μ ρ (qN k) s r val {s with heap:=h',toks:=tk}:=by
 have ok:=x.jV (ν':=[]) (ex:=[]) (λO h=>al h (by simp)) (by simp) .nil
 rw [b6]at ok
 exact ⟨v,_,[],h',tk,hr,rfl,by rw [b6];rw [b6]at ok;exact ok,x.ext,λO h=>al h (by simp),by rw [b6];exact hv⟩
theorem pV.Ky (x:pV k μ σ ρ h h' fresh rs ν σ'):eU h' h' ((fresh++(k.own++μ.filter λa=>!(gD μ rs).contains a))++(gD μ rs++ν)) (k.own++μ):=by
 have:=x.Fw (ν':=[]) (λO h=>al h (by simp))
 rwa [b6]at this
theorem HY (x:pV k μ σ ρ s.heap h' fresh rs ν σ') {val:Value} (rv:RV k.prog k.w h' ((fresh++(k.own++μ.filter λa=>!(gD μ rs).contains a))++(gD μ rs++ν)) (gD μ rs++ν) val v) (gd:gh rs σ σ' v≠ .aQ):
  PG k μ ρ (qN k) s (gh rs σ σ' v) val {s with heap:=h',toks:=tk}:=by
 have hm:=x.len
 induction rv with
 |d r=>exact x.xc H (.d (r.into x.Ky))
 |ref e=>
  simp only [gh]at gd⊢
  generalize ht:rs[n]?=o0;induction o0 using di with
  |some m=>
   have O3:n<(gD μ rs).length:=by refine ae nI ?_;exact (jo.mp ht).1
   rw [lT O3,w6 x.qL ht]at e
   exact x.xc H (.ref e)
  |none=>
   rw [ht]at gd
   have O3:rs.length≤n:=List.getElem?_eq_none_iff.mp ht
   obtain ⟨c,hc,rc⟩:=x.cells.at2 e
   have hav:a∈ν:=by
    rw [s5 (by refine ae nI ?_;exact O3)]at e
    exact fJ e
   have hao:a∉k.own++μ:=λq=>x.w9 a q hav
   simp only [hc]at gd⊢
   induction rc with
   |list e1 rd=>exact x.xc H (.d (.aD e1 hao (rd.into x.Ky)))
   |dict e1 hs ra=>
    dsimp only at gd⊢
    split at gd
    ·rename_i kg
     refine ae (ao kg) ?_
     exact x.xc H (.eO e1 hao hs (hm▸SD x.Ky x.qL ra kg))
    ·exact al H gd
 |eO e hX hs ra=>
  simp only [gh]at gd⊢
  split at gd
  ·rename_i kg
   refine ae (ao kg) ?_
   have Z0:ν.Nodup:=(fm.mp (fm.mp x.nodup).2.1).2.1
   have cb:(gD μ rs++ν).length=σ'.length:=x.cells.length
   have vo:iR k.prog k.w h' ((fresh++(k.own++μ.filter λa=>!(gD μ rs).contains a))++(gD μ rs++ν)) (gD μ rs++ν) ν (σ'.drop rs.length):=by
    have:=x.cells.ZZ rs.length
    rwa [List.drop_append_of_le_length (by refine ae nI ?_;exact cF _),List.drop_of_length_le (by refine ae nI ?_;exact cF _),pG]at this
   have Z1:(σ'.drop rs.length).all GU=true:=by
    rw [eI]at kg⊢
    exact λc hc=>kg c (List.mem_of_mem_drop hc)
   have ok:=x.jV (ν':=ν) (ex:=σ'.drop rs.length) (λO h=>h) Z0 (Kw (x.Fw λO h=>h) vo Z1)
   refine ⟨_,_,ν,h',tk,rfl,rfl,ok,x.ext,x.new, .eO e (λq=>hX (HW q)) hs ?_⟩
   refine dg hm ?_
   exact V' (x.Fw λO h=>h) x.qL ra
  ·exact al H gd
end
structure qU (d:cw) (c:Cx) (fn:Fn):Prop where
 ps:wK d.params
 names:c.names=d.scope.names
 slots:c.slots=wz (d.params.args.map (·.arg)) d.scope.names
 nodup:c.slots.Nodup
 kind:d.scope.kind= .function
 Y9:d.scope.isGenerator=false
 co:d.scope.isCoroutine=false
 plain:lH d.scope.names=true
 SG:∀x∈d.params.args.map (·.arg),d.scope.names.lookup x=some .local∨d.scope.names.lookup x=some .cell
 BB:fn.params=(d.params.args.map (·.arg)).length
 MY:fn.slots=c.slots.length
theorem qU.f0 {d:cw} {fn:Fn} (fo:qU d c fn):(d.scope.names.map (·.1)).Nodup:=by
 have:=fo.plain
 unfold lH at this
 rw [c9]at this
 exact gf this.1
theorem qU.vL {d:cw} {fn:Fn} (fo:qU d c fn) {x:Str} (hx:x∈c.slots):d.scope.names.lookup x=some .local∨d.scope.names.lookup x=some .cell:=by
 rw [fo.slots]at hx
 rcases bd.mp hx with hx|hx
 ·exact fo.SG x hx
 ·obtain ⟨p,hp,rfl⟩:=fq.mp hx
  obtain ⟨h1,h2⟩:=pH.mp hp
  have:=me (x:=p.1) (v:=p.2) fo.f0 h1
  refine ae this ?_
  rw [c9,wf]at h2
  rcases h2.1 with q|q
  ·exact .inl (by exact ae (dz q) H)
  ·exact .inr (by exact ae (dz q) H)
theorem qU.HZ {d:cw} {fn:Fn} (fo:qU d c fn) {x:Str} (hx:x∈c.slots):(x==("__classdict__":Str))=false∧(x==("__debug__":Str))=false:=by
 have hm:∃v,(x,v)∈d.scope.names:=by
  rcases fo.vL hx with q|q<;>exact ⟨_,mem_of_lookup q⟩
 obtain ⟨v,hm⟩:=hm
 have:=fo.plain
 unfold lH at this
 rw [c9,eI]at this
 have:=this.2 _ hm
 rw [c9]at this
 exact ⟨by simpa using this.2,by simpa using this.1⟩
structure H0 (ag:F→cw) (k:Kx) (n:Nat):Prop where
 frames:k.A.frames=some k.envs
 handled:k.A.handled=none
 top:Top ag k.B
 depth:k.A.depth+n<990
 units:k.A.units+3*n+50<cLine
variable {cells:St} {args:↑V}
section
variable {ag:F→cw} {d:cw} {fn:Fn}
theorem eJ.toT (cn:eJ ag k n):H0 ag k n:=⟨cn.good.frames,cn.good.handled,cn.top,cn.depth,cn.units⟩
theorem O4 (fo:qU d c fn) (cn:H0 ag k (n+1)) {cm:Str→Option Value} (X:Cl L (cellsFrom (L+1) d.scope.names []) dD cm):
  nH ag n c (k.sub (envOfC d.name d.scope L a d.cd) c.slots (L::(cellsFrom (L+1) d.scope.names []).map (·.2)) μ rs):=by
 refine ⟨⟨⟨Around.frames_deeper cn.frames,cn.handled,fo.kind,bZ,λb hb=>aW _ hb,fo.nodup,λx hx=>?_,λx y b h1 h2 h3=>?_,⟨_,_,L,rfl,rfl,rfl⟩⟩,cn.top,?_,?_,rfl,rfl,λx hx=>fo.HZ hx⟩,⟨rfl,λx hx=>?_,λx hx=>?_,λx hx=>?_⟩,λx hx=>?_⟩
 ·rcases fo.vL hx with q|q
  ·exact .inl q
  ·exact .inr (.inl q)
 ·exact name_of_addr X.apart (mem_of_lookup h2) (mem_of_lookup h3)
 ·have:=cn.depth
  show k.A.depth+1+n<990
  exact av this
 ·have:=cn.units
  show k.A.units+3+3*n+50<cLine
  exact av this
 ·unfold Cx.glob at hx
  have:c.names.lookup x=some .globalImplicit:=dz hx
  show d.scope.names.lookup x=_
  rw [←fo.names,this]
 ·show d.scope.names.lookup x=_
  rw [←fo.names,hx]
 ·show d.scope.names.lookup x=_
  refine dg fo.names ?_;rw [hx]
 ·refine ⟨λq=>?_,λhk cc hc=>?_⟩
  ·have q':d.scope.names.lookup x=some .free:=q
   rcases fo.vL hx with w|w<;>· rw [w]at q';obtain ⟨rfl,rfl⟩:=bb q'
  ·exact bY _ (fq.mpr ⟨_,mem_of_lookup hc,H⟩)
theorem Wb (fo:qU d c fn) {s:Shared} {vals:↑Value} (ok:Ok k μ σ ρ s.heap) (rv:uF k.prog k.w s.heap (k.own++μ) μ vals args)
  (cb:args.length=fn.params) (kZ:(cv args).Nodup) (hg:i5 σ (cv args)= .ok cells)
  (F:Fr s.heap s.heap.objs.size dD (bindL (envOfC d.name d.scope s.heap.objs.size a d.cd).kindOf ((d.params.args.map (·.arg)).zip vals) λO=>none))
  (X:Cl s.heap.objs.size (cellsFrom (s.heap.objs.size+1) d.scope.names []) dD (bindC (envOfC d.name d.scope s.heap.objs.size a d.cd).kindOf ((d.params.args.map (·.arg)).zip vals) λO=>none)):
  Ok (k.sub (envOfC d.name d.scope s.heap.objs.size a d.cd) c.slots (s.heap.objs.size::(cellsFrom (s.heap.objs.size+1) d.scope.names []).map (·.2)) μ (cv args)) (gD μ (cv args)) cells
   (args.map (kX (en (cv args)))++List.replicate (fn.slots -fn.params) .un) dD:=by
 have BC:∀n∈cv args,n<μ.length:=λm hm=>by refine ae ok.cells.length ?_;exact Bz hg m hm
 have Ba:=sK d.scope.names (s.heap.objs.size+1) [] fo.f0 ∅ (λO h=>(fX h).elim)
 have Kz:∀x b,(x,b)∈cellsFrom (s.heap.objs.size+1) d.scope.names []→(cellsFrom (s.heap.objs.size+1) d.scope.names []).lookup x=some b:=λx b hm=>me Ba hm
 have SF:∀b∈s.heap.objs.size::(cellsFrom (s.heap.objs.size+1) d.scope.names []).map (·.2),cN s.heap b:=λb hb=>by
  refine sB hb ?_ λhb=>?_
  ·exact .size _
  ·obtain ⟨p,hp,rfl⟩:=fq.mp hb
   exact rn (Nat.le_of_lt (X.above p.1 p.2 hp))
 have i:eU s.heap dD (k.own++μ) ((k.sub (envOfC d.name d.scope s.heap.objs.size a d.cd) c.slots (s.heap.objs.size::(cellsFrom (s.heap.objs.size+1) d.scope.names []).map (·.2)) μ (cv args)).own++gD μ (cv args)):=
  ⟨λb o e O O=>F.keep b o e,λb o e hb hm=>by
   rcases D7 BC hm with q|q
   ·exact (SF b q).not e
   ·exact hb q⟩
 have Fx:vals.length=(d.params.args.map (·.arg)).length:=by refine ae rv.length ?_;rw [cb,fo.BB]
 have X8:(d.params.args.map (·.arg)).Nodup:=by
  have:=fo.nodup
  rw [fo.slots]at this
  exact (fm.mp this).1
 have hbn:∀{b:Addr},cN s.heap b→cN k.B b:=λ{b} hb=>by
  unfold cN
  generalize e:k.B.get? b=o0;induction o0 using di with
  |none=>rfl
  |some o=>exact (hb.not (ok.base b o e)).elim
 exact {
  base:=λb o e=>F.keep b o (ok.base b o e)
  frames:=Heap.FunFrames.cons (L:=s.heap.objs.size) (λq=>by have q':d.scope.kind= .module:=q;rw [fo.kind]at q';exact ScopeKind.noConfusion q') H F.ns (hbn (.size _)) (ok.frames.of_keeps λb o e O=>⟨o,F.keep b o e,H⟩)
  dM:=λf hf=>by
   have wQ:f∈s.heap.objs.size::k.F:=hf
   refine sB wQ ?_ λwQ=>?_
   ·exact aW _ bZ
   ·exact bl _ (aW _ (ok.dM f wQ))
  low:=λb hb=>by
   rcases D7 BC hb with q|q
   ·refine ⟨hbn (SF b q),?_⟩
    refine sB q ?_ λq=>?_
    ·obtain ⟨o,_,_,ho,_⟩:=F.ns
     exact ⟨o,ho⟩
    ·obtain ⟨p,hp,rfl⟩:=fq.mp q
     obtain ⟨o,ho,_⟩:=X.cell p.1 p.2 (Kz _ _ hp)
     exact ⟨o,ho⟩
   ·obtain ⟨nb,o,e⟩:=ok.low b q
    exact ⟨nb,o,F.keep b o e⟩
  nodup:=Kv ok.nodup BC kZ (by
   rw [gP]
   refine ⟨λhm=>?_,?_⟩
   ·obtain ⟨p,hp,q⟩:=fq.mp hm
    have:=X.above p.1 p.2 hp
    rw [q]at this
    exact Nat.lt_irrefl _ this
   ·exact List.pairwise_map.mpr X.apart) λb hb q=>by
    obtain ⟨_,o,e⟩:=ok.low b q
    exact (SF b hb).not e
  cells:=HV ok.cells i F.keep hg
  env:={
   ns:=by
    refine ⟨_,F.ns,λj x v h1 h2 h3=>?_⟩
    have hj:j<(args.map (kX (en (cv args)))).length:=by
     rcases oO j (args.map (kX (en (cv args)))).length with q|q
     ·exact q
     ·rw [s5 q,List.getElem?_replicate]at h2
      split at h2
      ·have h2:=bb h2;exact al h2.symm h3
      ·exact nomatch h2
    rw [lT hj,lj]at h2
    rw [fb]at hj
    have vD:c.slots[j]?=some x:=h1
    rw [fo.slots]at vD
    unfold wz at vD
    rw [lT (by refine dg Fx (ae rv.length ?_);exact hj)]at vD
    have hja:args[j]?=some args[j]:=fE hj
    rw [hja]at h2
    have h2:=bb h2
    obtain ⟨val,MH,hr⟩:∃val,vals[j]?=some val∧RV k.prog k.w s.heap (k.own++μ) μ val args[j]:=by
     have:∀{vs:↑Value} {as:↑V},uF k.prog k.w s.heap (k.own++μ) μ vs as→∀{j:Nat} {u:V},as[j]?=some u→∃val,vs[j]?=some val∧RV k.prog k.w s.heap (k.own++μ) μ val u:=by
      intro vs as r
      induction r with
      |nil=>intro j u e;simp at e
      |cons a r ih=>
       intro j u e
       induction j with
       |zero=>simp at e;subst e;exact ⟨_,H,a⟩
       |succ j=>exact ih (by simpa using e)
     exact this rv hja
    refine ⟨val,?_,?_⟩
    ·rcases fo.SG x (fJ vD)with q|q
     ·exact .inl ⟨q,vK Fx.symm X8 vD MH q⟩
     ·obtain ⟨cc,CH⟩:=o9 d.scope.names (s.heap.objs.size+1) [] x (.inl (mem_of_lookup q))
      have JX:=Kz _ _ CH
      have KA:=X.cell x cc JX
      rw [Ks Fx.symm X8 vD MH (by
       intro w
       have w':d.scope.names.lookup x=some .local:=w
       rw [q]at w';obtain ⟨rfl,rfl⟩:=bb w')]at KA
      exact .inr ⟨.inl q,cc,JX,KA⟩
    ·refine dg h2 ?_
     exact ZX i BC hr λm hm=>BA (rD hj) m hm
   cell:=λx O hx=>by
    have wT:d.scope.names.lookup x=some .cell:=hx
    obtain ⟨cc,CH⟩:=o9 d.scope.names (s.heap.objs.size+1) [] x (.inl (mem_of_lookup wT))
    have JX:=Kz _ _ CH
    exact ⟨cc,_,JX,Nat.ne_of_gt (X.above x cc CH),X.cell x cc JX⟩
   len:=by
    have:fn.params≤fn.slots:=by
     refine ae fo.BB (ae fo.MY (ae fo.slots ?_))
     unfold wz
     simp
    rw [cg,fb,v9];refine ae cb ?_
    show _=c.slots.length
    rw [←fo.MY]
    exact Nat.add_sub_of_le this}}
end
set_option backward.match.sparseCases false
variable {f:F} {fr:↑Addr}
section
variable {ag:F→cw} {code:F→Fn}
theorem KC {g:Nat}:pP ag (call code 0) g:=λO O O O O O O O O O O h=>al H h
theorem KD (σ:St) (rs:↑Nat):NX (i5 σ rs):=by
 induction rs with
 |nil=>exact bm
 |cons r rs ih=>exact .bind (nB _) λO=>ih.bind λO=>bm
variable {z:Addr} {sl:↑Str}
abbrev X9:Flow→Value
 | .ret v=>v
 |_=> .none
theorem H1 {F:↑Addr} (kp:dJ h dD) (nw:∀b∈fr,cN h b) (hz:cN h z) (hb:∀m∈rs,m<μ.length) (x:b7 (fr++gD μ rs) (z::F) dD h'):b7 μ F h h':=
 ((b7.of_keep (X:=μ) (F:=z::F) kp).trans x λb q=>(bd.mp q).elim (λq=> .inr (nw b q)) λq=> .inl (w7 hb b q)).Y3 λb q=>sB q (.inr hz) .inl
theorem SH (ok:Ok k μ σ ρ h) (hL:k.env.locals∈k.own) (hb:∀m∈rs,m<μ.length) (nd:rs.Nodup) (kp:dJ h dD) (nw:∀b∈fr,cN h b) (hz:cN h z) (hF:(k.sub env sl fr μ rs).F=z::k.F)
  (pB:Ok (k.sub env sl fr μ rs) (gD μ rs++ν) σ' bX h') (x:b7 (fr++gD μ rs) (k.sub env sl fr μ rs).F dD h') (nw':∀a∈ν,cN dD a) (Wa:(σ'.take rs.length).all GU=true):pV k μ σ ρ h h' fr rs ν σ':=by
 rw [hF]at x
 exact {
  ok:=ok
  qL:=hb
  nd:=nd
  base:=pB.base
  frames:=nX (pre:=[_]) pB.frames
  ext:=H1 kp nw hz hb x
  other:=λb q q2 ob eb=>x.get (kp b ob eb) (λp=>(bd.mp p).elim (λp=>(nw b p).not eb) q2) λp=>(cM.mp p).elim (λe=>hz.not (e▸eb)) λp=>ok.ix p q
  low:=λb q=>pB.low b (bl _ (bl _ q))
  new:=λb q=>kp.wA.jV (nw' b q)
  nodup:=pB.nodup
  cells:=pB.cells
  Wa:=Wa
  X7:=hL}
theorem H2 {s:Shared} {vals:↑Value} {E: ~~~0} (ct:H0 ag k (n+1)) (ok:Ok k μ σ ρ s.heap) (fo:qU (ag f) c (code f)) (rv:uF k.prog k.w s.heap (k.own++μ) μ vals args) (cb:args.length=(code f).params) (kZ:(cv args).Nodup) (hg:i5 σ (cv args)= .ok cells)
  (go:∀(env:Env) (fr:↑Addr) (z:Addr) (dD:Heap) (tk:Nat),dJ s.heap dD→(∀b∈fr,cN s.heap b)→cN s.heap z→(k.sub env c.slots fr μ (cv args)).F=z::k.F→nH ag n c (k.sub env c.slots fr μ (cv args))→
   Ok (k.sub env c.slots fr μ (cv args)) (gD μ (cv args)) cells (args.map (kX (en (cv args)))++List.replicate ((code f).slots -(code f).params) .un) dD→
   wpAny k.M (k.A.deeper env) (execs (ag f).body env) (λfl s'=>Q (X9 fl) s') (λe s'=>wpAny k.M (k.A.deeper env) (leaving env e) (λO=>E e) E s') {s with heap:=dD,toks:=tk}):
  wpAny k.M k.A (PySem.call (.ref (ag f).E7) vals) Q E s:=by
 obtain ⟨⟨o,ho,JV⟩,BD⟩:=ct.top.obj f
 have Ba:=sK (ag f).scope.names (s.heap.objs.size+1) [] fo.f0 ∅ (λO h=>(fX h).elim)
 refine wpAny_call (call_cells (o:=o) (ry (li (mY _ _) ct.depth) ∅) (ok.base _ _ ho) JV (ct.top.Rh.keeps ok.base) (BD.keeps ok.base) (HU fo.ps (fm.mp (fo.slots▸fo.nodup)).1 (rv.length.trans (cb.trans (fo.BB.trans (fb _))))) (λp hp=>?_) (λdD tk F X=>?_) fo.co fo.Y9 fo.kind)
 ·refine (fo.SG _ (List.of_mem_zip hp).1).imp_right λq=>?_
  obtain ⟨cc,CH⟩:=o9 (ag f).scope.names (s.heap.objs.size+1) [] p.1 (.inl (mem_of_lookup q))
  exact ⟨q,by refine ae (me Ba CH) ?_;rfl⟩
 ·refine bv (go _ _ _ dD tk F.keep (λb hb=>sB hb (.size _) λhb=>?_) (.size _) H (O4 fo ct X) (Wb fo ok rv cb kZ hg F X)) (λfl O q=>by induction fl using Flow.casesOn<;>exact q) λO O q=>q
  obtain ⟨p,hp,rfl⟩:=fq.mp hb
  exact rn (Nat.le_of_lt (X.above p.1 p.2 hp))
theorem KE {E: ~~~0} {m:Str} {s:Shared} {e:Value} (cs:(k.sub env sl fr μ rs).G5) (hB:∀b o,k.B.get? b=some o→dD.get? b=some o) (st:sC dD s.heap) (kp:sC h dD) (yv:vg (k.sub env sl fr μ rs) dD s.heap e m)
  (go:∀h',(∀X,b7 X (k.sub env sl fr μ rs).F dD s.heap→b7 X (k.sub env sl fr μ rs).F dD h')→vg k h h' e m→E e {s with heap:=h'}):wpAny k.M (k.A.deeper env) (leaving env e) (λO=>E e) E s:=by
 obtain ⟨a,rfl,_⟩:=id yv.dW
 refine aj (yu (k:=k.sub env sl fr μ rs) cs.frames ⟨cs.frame⟩ hB st yv λh2 g1 g2 g3=>?_)
 exact pU (k:=k.sub env sl fr μ rs) (s:={s with heap:=h2}) hB g1 g2 none λh5 w1 O w3=>go h5 (λX x=>w3 X (g3 X x)) ((w1 k H ⟨[_],H⟩ (.inl H)).low kp)
theorem tF.rv {fl:Flow} {f:Fl} (r:tF k h μ fl f):RV k.prog k.w h (k.own++μ) μ (X9 fl) (wu f):=by
 induction r with
 |ret r=>exact r
 |next=>exact .d .none
 |cont=>exact .d .none
theorem KG (hf:∀f,∃c,qU (ag f) c (code f)∧kO ag (call code n) n c n (ag f).body (code f).body):pP ag (call code (n+1)) (n+1):=by
 intro k f μ σ ρ s vals args cn ok rv gd
 obtain ⟨c,fo,hb⟩:=hf f
 dsimp only [call,iu]at gd⊢
 split at gd
 case isFalse=>exact al H gd
 rename_i hc
 refine ae (ao hc) ?_
 obtain ⟨cb,kZ⟩:=hc
 refine (KD σ (cv args)).elim gd λcells hg gd=>?_
 have BC:∀m∈cv args,m<μ.length:=λm hm=>by refine ae ok.cells.length ?_;exact Bz hg m hm
 refine H2 cn.toT ok fo rv cb kZ hg λenv fr z dD tk kp nw hz hF cs fO=>?_
 refine bv (hb _ _ cells _ {s with heap:=dD,toks:=tk} cs fO (R.ax gd)) (λfl s' g=>?_) λe s' g=>?_
 ·obtain ⟨v,bX,σ',ν,h',hJ,hr,rfl,pB,D8,Yb,fr⟩:=g
  rw [hr,R.dv]at gd⊢
  split at gd
  case isFalse=>exact al H gd
  rename_i Yc
  refine ae (ao Yc) ?_
  exact HY (SH ok cn.good.tn BC kZ kp nw hz hF pB D8 Yb Yc) fr.rv gd
 ·obtain ⟨m,h',hJ,hr,rfl,D8,yv⟩:=g
  refine ae hr ?_
  exact KE cs.eK.good fO.base D8.1 kp.wA yv λh5 w fl=>⟨m,h5,hJ,rfl,rfl,H1 kp nw hz BC (hF▸w _ D8),fl⟩
theorem D9 (hf:∀n,pP ag (call code n) n→∀f,∃c,qU (ag f) c (code f)∧kO ag (call code n) n c n (ag f).body (code f).body):∀n,pP ag (call code n) n
 |0=>KC
 |n+1=>KG (hf n (D9 hf n))
end
theorem RV.bool {w:World} {v:Value} (r:RV prog w h X μ v (.d (.bool b))):v= .bool b:=by
 have r:=r.mw H
 generalize e:D.bool b=d at r
 induction r using RD.casesOn<;>first|exact D.noConfusion e|exact (aC Value.bool (D.bool.inj e)).symm
theorem O5 {ag:F→cw} {code:F→Fn} {s:Shared} {vals:↑Value} (ct:H0 ag k (n+1)) (ok:Ok k [] [] [] s.heap) (fo:qU (ag f) c (code f)) (hb:kO ag K n c n (ag f).body (code f).body)
  (rv:uF k.prog k.w s.heap (k.own++[]) [] vals args) (hr:cv args=[]) (cb:args.length=(code f).params)
  (run:g9 λρ1 σ1=>bg K n (code f).body (args.map (kX (en []))++List.replicate ((code f).slots -(code f).params) .un) []= .ok (.ret (.d (.bool b)),ρ1,σ1)) (Z2:k.F=[]):
  wpAny k.M k.A (PySem.call (.ref (ag f).E7) vals) (λv s'=>v= .bool b∧g9 λh' tk=>s'={s with heap:=h',toks:=tk}∧dJ s.heap h') (λO O=>False) s:=by
 obtain ⟨ρ1,σ1,run⟩:=run
 have nd:(cv args).Nodup:=hr▸List.nodup_nil
 refine H2 ct ok fo rv cb nd (cells:=[]) (by refine ae hr ?_;rfl) λenv fr z dD tk kp nw hz hF cs fO=>?_
 rw [hr]at cs fO hF
 refine bv (hb _ _ [] _ {s with heap:=dD,toks:=tk} cs fO (by refine ae run ?_;exact nofun)) (λfl s' g=>?_) λe s' g=>?_
 ·obtain ⟨v,bX,σ',ν,h',hJ,Fy,rfl,pB,D8,Yb,fr⟩:=g
  have e:=aC Prod.fst (R.ok.inj (run.symm.trans Fy))
  have r:=fr.rv
  rw [show v=_ from e.symm]at r
  refine ⟨r.bool,h',hJ,rfl,λa ob ea=>D8.get (kp a ob ea) (λq=>?_) λq=>?_⟩
  ·rcases bd.mp q with q|q
   ·exact (nw a q).not ea
   ·exact al q (by simp [gD])
  ·rw [hF,Z2]at q
   obtain rfl:=bK.mp q
   exact hz.not ea
 ·obtain ⟨m,h',hJ,Fy,_⟩:=g
  exact (bm _ (run.symm.trans Fy)).elim
set_option backward.match.sparseCases true
variable {P:Params}
theorem Wc:findIn (gF P fd) (.ref 44) "__init__"=some (some (.ref 28)):=by kernel_rfl
theorem KH:findIn (gF P fd) (.ref 44) "__setattr__"=some (some (.builtin "object.__setattr__")):=by kernel_rfl
theorem SI:findIn (gF P fd) (.ref 44) "why"=some none:=by kernel_rfl
theorem Wd:findIn (gF P fd) (.ref 44) "__getattr__"=some none:=by kernel_rfl
theorem Z3:findCls (gF P fd) (.type "Exception") (.type "type") "__init__"=some (.val (.builtin "Exception.__init__")):=by kernel_rfl
noncomputable abbrev BE:↑Value:=[.ref 31, .type "Exception", .type "BaseException", .type "object"]
theorem mK (X:(gF P fd).In h):h.get? 44=some (excClassObj "CompileFault" "CompileFault" 44 43 [.ref 31] BE true [] [] false none none (some (.ref 35)) none (some (.str "CompileFault" 218)) (some (.str "CompileFault" 226)) (some (.bool true)) "Exception.__new__"):=X 44 _ rfl
variable {rest:↑Value} {os:PySem.OsState}
section
variable {w:World} {g:Array PySem.GenState} {d:PySem.Drawn} {t:Nat}
theorem KI {M:Model} {E: ~~~0} (X:(gF P fd).In h) {Q:Unit→Shared→Prop} (hq:Q () ⟨h,g,d,t,os⟩):
  wpAny M A (checkBuiltinCall "Exception.__new__" ⟨.ref 44::rest,[]⟩) Q E ⟨h,g,d,t,os⟩:=by
 have hC:=mK X
 have Z4:(Value.ref 44::BE).contains (.type "Exception")=true:=by rfl
 have abQ:=F.excBase_Exception.noStar
 simp only [checkBuiltinCall,F.excBase_Exception.newKind,F.excBase_Exception.newSplit,F.excBase_Exception.newRow]
 repeat (first|refine iz hC ?_|(refine wpAny_isSubtype_exc hC ?_;rw [Z4])|refine wpAny_staticBase_exc hC ?_|refine wpAny_madeBy_exc hC ?_|simp only [bne_self_eq_false,Bool.false_eq_true,↓reduceIte]|wp_step)
 exact hq
noncomputable abbrev uT (t:Addr):Obj:={cls:= .ref 44,data:= .fields #[.ref t, .none, .none, .none, .bool false, .none]}
noncomputable abbrev oh (rest:↑Value):Obj:={cls:= .type "tuple",data:= .seq rest.toArray}
theorem O6 {R:Result→Shared→Prop} (X:(gF P fd).In h) (hq:R (.ok (.ret (.ref (h.objs.size+1)))) ⟨(h.push (oh rest)).push (uT h.objs.size),g,d,t,os⟩) (tA:rest.length≤sizeLine):
  codeAny (model prog w) A (.builtin "Exception.__new__" ⟨.ref 44::rest,[]⟩) R ⟨h,g,d,t,os⟩:=by
 have hC:=mK X
 have abR:=F.excBase_Exception.ends
 have Fz:(Value.ref 44::BE).contains (.type "Exception")=true:=by rfl
 have hcA:(Value.ref 44::BE).contains (.type "AttributeError")=false:=by rfl
 have hcN:(Value.ref 44::BE).contains (.type "NameError")=false:=by rfl
 refine codeAny_builtinAt F.excBase_Exception.entry ?_
 unfold Builtin.«BaseException.__new__»
 refine PyProof.Rows.wpAt_bind ?_
 show PyProof.Rows.wpAt _ _ _ (stack>>=_) _ _ _
 refine PyProof.Rows.wpAt_bind (PyProof.Rows.wpAt_stack λp below=>wpAt_of_wpAny ?_)
 wp_walk
 refine wpAt_of_wpAny ?_
 refine ae F.excBase_Exception.owner ?_
 repeat (first|with_reducible refine wpAny_madeHere_exc F.excBase_Exception.canon hC ?_|with_reducible refine iz hC ?_|(with_reducible refine wpAny_isSubtype_exc hC ?_;first|rw [Fz]|rw [hcA]|rw [hcN])|wp_step)
 show R _ _
 rw [Heap.size_push]
 exact hq
theorem KJ {E: ~~~0} (X:(gF P fd).In h) {Q:Fin→Shared→Prop} (tA:rest.length≤sizeLine)
  (hq:wpAny (model prog w) A (PySem.call (.ref 28) (.ref (h.objs.size+1)::rest)) (λr s'=>r= .none∧Q (.done (.ret (.ref (h.objs.size+1)))) s') E ⟨(h.push (oh rest)).push (uT h.objs.size),g,d,t,os⟩):
  wpAny (model prog w) A (Builtin.«type.__call__» ⟨.ref 44::rest,[]⟩) Q E ⟨h,g,d,t,os⟩:=by
 have hC:=mK X
 repeat (first|with_reducible refine iz hC ?_|with_reducible refine wpAny_madeBy_exc hC ?_|wp_step)
 refine codeAny_call_builtin_code (Code.quiet_builtin _ F.excBase_Exception.quiet) (KI X ?_)
 refine O6 X ?_ tA
 have kp:∀b o,h.get? b=some o→((h.push (oh rest)).push (uT h.objs.size)).get? b=some o:=λb o e=>lv _ (lv _ e)
 have D':=X.keeps kp
 have Z5:=mK D'
 have HA:((h.push (oh rest)).push (uT h.objs.size)).get? (h.objs.size+1)=some (uT h.objs.size):=by heap_get
 have hcC:(Value.ref 44::BE).contains (.ref 44)=true:=by rfl
 repeat (first|with_reducible refine iz HA ?_|(with_reducible refine wpAny_isSubtype_exc Z5 ?_;rw [hcC])|wp_step)
 refine (looks_findIn D' Wc).at ?_
 refine dA (aj ?_)
 refine aj (wpAny_typeOf (T:="function") ⟨_,D' 28 _ rfl,H⟩ ?_)
 refine ae (ao ∅) ?_
 refine aB (aj (bv hq (λr s' hr=>?_) λO O x=>x))
 obtain ⟨rfl,hQ⟩:=hr
 wp_walk
 exact hQ
theorem H3 {E: ~~~0} (X:(gF P fd).In h) (tA:rest.length≤sizeLine)
  (hq:wpAny (model prog w) (A.under (.builtin "type.__call__" ⟨.ref 44::rest,[]⟩)) (PySem.call (.ref 28) (.ref (h.objs.size+1)::rest)) (λr s'=>r= .none∧Q (.ref (h.objs.size+1)) s') E ⟨(h.push (oh rest)).push (uT h.objs.size),g,d,t,os⟩):
  wpAny (model prog w) A (PySem.call (.ref 44) rest) Q E ⟨h,g,d,t,os⟩:=by
 have hC:=mK X
 have f1:=tc_lookup
 have f2:=tc_bind (.ref 44)
 have hT:(⟨h,g,d,t,os⟩:Shared).TypeIs (.ref 44) "type":=⟨_,hC,rfl⟩
 refine wpAny_call (codeAny_of_tree ?_)
 show wpAny _ _ (callAny (.ref 44) _) _ _ _
 repeat (any_goals (first|assumption|with_reducible refine iz hC ?_|wp_step))
 refine ⟨rfl,?_⟩
 exact codeAny_call_builtin_at (Code.quiet_builtin _ ⋯) entry_typeCall (wpAny_check_type_call_sub hC (KJ X tA hq))
end
variable {t0:Addr} {FA:Value}
section
variable {w:World} {g:Array PySem.GenState} {d:PySem.Drawn} {t:Nat} {E: ~~~0}
theorem FC (X:(gF P fd).In h) {M:Model} {e:Addr} {Q:Unit→Shared→Prop} (he:h.get? e=some oe) (og:oe.cls= .ref 44) (hq:Q () ⟨h,g,d,t,os⟩):
  wpAny M A (checkBuiltinCall "Exception.__init__" ⟨.ref e::rest,[]⟩) Q E ⟨h,g,d,t,os⟩:=by
 have hC:=mK X
 have Fz:(Value.ref 44::BE).contains (.type "Exception")=true:=by rfl
 have abP:=F.excBase_Exception.noStar
 simp only [checkBuiltinCall,F.excBase_Exception.initKind,F.excBase_Exception.initSplit,F.excBase_Exception.initRow]
 repeat (first|(with_reducible refine iz he ?_;rw [og])|with_reducible refine iz hC ?_|(with_reducible refine wpAny_isSubtype_exc hC ?_;rw [Fz])|wp_step)
 refine wpAny_onRaise ?_
 rw [show∀(a b:String) (n:Nat),Bind.check ⟨.positional,"*","Exception", .self,[⟨"args", .varPos,false⟩]⟩ a b n (List.map (λx=>x.fst) ({pos:=Value.ref e::rest}:Args).kw)=pure ()from
  λa b n=>check_star_args _ _ _ _ _ _]
 exact aB hq
theorem KL (X:(gF P fd).In h) {e:Addr} {ob:Obj} {vs:Array Value}
  (he:h.get? e=some ob) (og:ob.cls= .ref 44) (hd:ob.data= .fields vs) (h0:vs[0]?=some (.ref t0))
  (hq:Q .none ⟨(h.push (oh rest)).update e (Obj.mapFields (·.setIfInBounds 0 (.ref h.objs.size))),g,d,t,os⟩) (tA:rest.length≤sizeLine):
  wpAny (model prog w) A (PySem.call (.builtin "Exception.__init__") (.ref e::rest)) Q E ⟨h,g,d,t,os⟩:=by
 refine wpAny_call (codeAny_call_builtin F.excBase_Exception.init.plain F.excBase_Exception.initEntry (FC X he og ?_))
 unfold Builtin.«BaseException.__init__»
 dsimp only
 refine ae (aN (by simp)) ?_
 unfold newTuple Builtin.BaseException.bexcPut
 have hsz:0<vs.size:=(Array.getElem?_eq_some_iff.mp h0).1
 have tI:=lv (h:=h) (oh rest) he
 refine aj (wpAny_newObj_type (aj (aj (wpAny_field (s:=⟨h.push (oh rest),g,d,t,os⟩) tI hd h0 (aj (wpAny_setField (s:=⟨h.push (oh rest),g,d,t,os⟩) tI hd hsz ?_))))) (by show rest.toArray.size≤sizeLine;refine ae dN ?_;exact tA))
 exact wpAny_letGo (aB hq)
open Builtin Builtin.ObjectAttr
theorem O7 (X:(gF P fd).In h) {M:Model} {x:Addr} {v:Value} {Q:Unit→Shared→Prop} (hx:h.get? x=some o) (hc:o.cls= .ref 44) (hq:Q () ⟨h,g,d,t,os⟩):
  wpAny M A (checkBuiltinCall "object.__setattr__" ⟨[.ref x,FA,v],[]⟩) Q E ⟨h,g,d,t,os⟩:=by
 have hC:=mK X
 have Fz:(Value.ref 44::BE).contains (.type "object")=true:=by rfl
 have ha:=F.store_object.args (.ref x) FA v
 simp only [checkBuiltinCall,F.store_object.kind,F.store_object.split]
 refine aj ?_
 ·unfold isInstance
  repeat (first|(with_reducible refine iz hx ?_;rw [hc])|(with_reducible refine wpAny_isSubtype_exc hC ?_;rw [Fz])|wp_step)
  exact hq
theorem O8 (self:Value):refuseLoop self "__setattr__" (.ref 44::BE)=pure ():=by
 rw [refuseLoop_ref,refuseLoop_ref];exact F.store_Exception.passes self
theorem SJ (X:(gF P fd).In h) {x:Addr} {v:Value} {tk:Tok} {Q:Fin→Shared→Prop} (hx:h.get? x=some o) (hc:o.cls= .ref 44) (FD:∀c,o.data≠ .cls c) (Z6:o.dict=none) (vC:o.isFreed=false)
  (hq:∀h' hJ dd,h'.Ns dd (λy=>if y="why" then some v else none)→h.get? dd=none→(∀b ob,b≠x→h.get? b=some ob→h'.get? b=some ob)→
   h'.get? x=some {cls:=o.cls,dict:=some dd,data:=o.data,slots:=o.slots}→Q (.done (.ret .none)) ⟨h',g,d,hJ,os⟩):
  wpAny (model prog w) A (Builtin.«object.__setattr__» ⟨[.ref x, .str "why" tk,v],[]⟩) Q E ⟨h,g,d,t,os⟩:=by
 have hC:=mK X
 have Z7:=O8 (.ref x)
 unfold Builtin.«object.__setattr__»
 repeat (first|rw [refuse_eq]|rw [Z7]|(with_reducible refine iz hx ?_;rw [hc])|with_reducible refine wpAny_mroOf_exc hC ?_|with_reducible refine (looks_findIn X SI).at ?_|wp_step)
 refine opq λQo Eo qo eo=>?_
 refine ae Z6 (ae (aN (by simp [typeHasDict])) ?_)
 split
 ·rename_i Fg
  cases Fg
 split
 ·rename_i Fg
  exact al Fg (FD c)
 ·have SK:(h.push {cls:= .type "dict",data:= .dict #[]}).get? x=some o:=lv _ hx
  have hxs:x≠h.objs.size:=ni (kT hx)
  refine aj (wpAny_alloc' ?_)
  refine aj (wpAny_update' SK ?_)
  refine aB ?_
  have hgd:((h.push {cls:= .type "dict",data:= .dict #[]}).update x λo=>{cls:=o.cls,dict:=some h.objs.size,data:=o.data,slots:=o.slots}).get? h.objs.size
    =some {cls:= .type "dict",data:= .dict #[]}:=
   (Heap.get?_update_ne _ _ _ _ hxs.symm).trans (Heap.get?_push_at H rfl)
  have kZ:((h.push {cls:= .type "dict",data:= .dict #[]}).update x λo=>{cls:=o.cls,dict:=some h.objs.size,data:=o.data,slots:=o.slots}).Ns h.objs.size (λO=>none):=
   ⟨_,#[],_,hgd,rfl,λe he=>al he (by simp),λO=>rfl⟩
  subst qo eo
  show wpAny _ _ (storeInDict h.objs.size (.str "why" tk) "why" v) _ _ _
  unfold storeInDict newKeyGuard
  refine aj (aB (aj (wpAny_nsSet1 (Heap.Ns1.of_empty kZ) λh' yA hs=>?_)))
  obtain ⟨oD,esD,epD,hoD,hdD,hcD⟩:=yA.count (Within.cons "why" v Within.nil)
  refine aj (wpAny_lookBehind hoD (by refine ae hdD ?_;exact pastItsLine_dict (aM hcD (by refine ae gO (ae lW (ae sizeLine_eq ?_));simp+arith only))) ?_)
  wp_walk
  refine hq h' _ h.objs.size ?_ (rn (cF _)) (λb ob hbx hb=>?_) ?_
  ·obtain ⟨o',es,ep,e1,e2,e3,eu,e4⟩:=yA
   exact ⟨o',es,ep,e1,e2,e3,λy=>e4 y⟩
  ·exact (hs.2 b (ni (kT hb))).trans ((Heap.get?_update_ne _ _ _ _ hbx).trans (lv _ hb))
  ·exact (hs.2 x hxs).trans (oj _ SK (by
    obtain ⟨oc,od,odt,osl⟩:=o
    cases odt<;>first|rfl|exact vC))
theorem FF (X:(gF P fd).In h) {x:Addr} {v:Value} {Q:Unit→Shared→Prop} (hx:h.get? x=some o) (hc:o.cls= .ref 44) (FD:∀c,o.data≠ .cls c) (Z6:o.dict=none) (vC:o.isFreed=false)
  (hq:∀h' hJ dd,h'.Ns dd (λy=>if y="why" then some v else none)→h.get? dd=none→(∀b ob,b≠x→h.get? b=some ob→h'.get? b=some ob)→
   h'.get? x=some {cls:=o.cls,dict:=some dd,data:=o.data,slots:=o.slots}→Q () ⟨h',g,d,hJ,os⟩):
  wpAny (model prog w) A (setAttr (.ref x) "why" v) Q E ⟨h,g,d,t,os⟩:=by
 have f3:=F.store_object.slot.bind (.ref x)
 unfold setAttr callSpecial? specialOf
 repeat (any_goals (first|assumption|(with_reducible refine iz hx ?_;rw [hc])|with_reducible refine (looks_findIn X KH).at ?_|wp_step))
 refine codeAny_call_builtin F.store_object.slot.plain F.store_object.entry (O7 X hx hc (SJ X hx hc FD Z6 vC λh' hJ dd a b c e=>?_))
 repeat (any_goals (first|assumption|wp_step))
 exact hq h' hJ dd a b c e
end
variable {mb mg:Str→Option Value}
section
open PyProof.Rows (Fr)
theorem We:typeOf (.type "Exception")=pure (.type "type"):=by first|rfl|kernel_rfl
theorem O9:Manifest.isStub "Exception"=false:=by decide+kernel
theorem H4:handedIn (.builtin "Exception.__init__")=true:=by first|rfl|kernel_rfl
section
variable {w:World} {E: ~~~0} {s:Shared}
theorem O' {m:Str→Option Value} {pl:Sem Bool} {Q:Value×↑Value→Shared→Prop} (F:Fr fR L s.heap m) (X:(gF P fd).In fR) (h:Q (.builtin "Exception.__init__",[]) {s with toks:=s.toks+1}):
  wpAny (model prog w) A (getMethod (.type "Exception") "__init__" pl) Q E s:=
 method_type F X We O9 Z3 H4 h
theorem KN (X:(gF P fd).In s.heap) (fo:Al fd) (Z8:A.depth<recursionLimit) (abb:s.heap.NoLimit) (Fg:s.heap.CodeRec fd.code fd.qualname)
  (H5:s.heap.Ns mainGlobals mg) (hg:mg "Exception"=none) (Z9:s.heap.Ns builtinsNs mb) (hb:mb "Exception"=some (.type "Exception"))
  {e:Addr} {v:Value} (he:s.heap.get? e=some (uT t0)) (Z':(gF P fd).lookup e=none)
  (hq:∀h' tk dd t1,(∀b ob,b≠e→s.heap.get? b=some ob→h'.get? b=some ob)→h'.Ns dd (λy=>if y="why" then some v else none)→s.heap.get? dd=none→
   h'.get? e=some {cls:= .ref 44,dict:=some dd,data:= .fields #[.ref t1, .none, .none, .none, .bool false, .none]}→Q .none {s with heap:=h',toks:=tk}):
  wpAny (model prog w) A (PySem.call (.ref 28) [.ref e,v]) Q E s:=by
 obtain ⟨p1,ap,p2,p3,p4,p5,q1,ap2,q2,q3,aaa,vF⟩:=fo.body
 have SM:=HT (fd:=fd) (vals:=[.ref e,v]) fo.ps fo.jk (by refine ae fo.args ?_;decide) (by
  have:=aC List.length fo.args
  rw [fb]at this
  refine ae this ?_;rfl)
 rw [fo.args]at SM
 refine wpAny_call (codeAny_call_cells (fd:=fd) Z8 (X 28 _ rfl) H abb Fg vF SM fo.clo (λx hx=>?_) (λiX Y=>?_) fo.co fo.Y9 fo.kind)
 ·left
  refine ae fo.names ?_
  have wT:x.1=("self":Str)∨x.1=("why":Str):=by
   have:=(List.of_mem_zip hx).1
   simpa using this
  rcases wT with q|q<;>rw [q]<;>rfl
 ·obtain ⟨dD,KO,rfl,kp⟩:=Y.done
  have ns:=Y.toInCall.ns
  have F1:Fr s.heap s.heap.objs.size dD _:=⟨Y.toInCall.ns,Y.toInCall.keep,Y.toInCall.fresh⟩
  have D':(gF P fd).In dD:=X.keeps kp
  have kf:∀x,(callEnvC fd s.heap.objs.size 28).kindOf x=fd.scope.names.lookup x:=λO=>rfl
  have KP:(callEnvC fd s.heap.objs.size 28).kindOf "self"=some .local:=by rw [kf];refine ae fo.names ?_;rfl
  have SN:(callEnvC fd s.heap.objs.size 28).kindOf "why"=some .local:=by rw [kf];refine ae fo.names ?_;rfl
  have abc:(callEnvC fd s.heap.objs.size 28).kindOf "Exception"=some .globalImplicit:=by rw [kf];refine ae fo.names ?_;rfl
  have KQ:bindL (callEnvC fd s.heap.objs.size 28).kindOf ((["self","why"]:↑Str).zip [.ref e,v]) (λO=>none) "self"=some (.ref e):=by
   exact vK (xs:=["self","why"]) (vs:=[.ref e,v]) H ∅ (i:=0) H rfl KP
  have SO:bindL (callEnvC fd s.heap.objs.size 28).kindOf ((["self","why"]:↑Str).zip [.ref e,v]) (λO=>none) "why"=some v:=by
   exact vK (xs:=["self","why"]) (vs:=[.ref e,v]) H ∅ (i:=1) H rfl SN
  generalize bindL (callEnvC fd s.heap.objs.size 28).kindOf ((["self","why"]:↑Str).zip [.ref e,v]) (λO=>none)=m at ns F1 KQ SO
  have hLe:s.heap.objs.size≠e:=Nat.ne_of_gt (kT he)
  show wpAny _ _ (do match←exec _ _ with| .next=>execs _ _|f=>pure f) _ _ _
  have abd:interactive (callEnvC fd s.heap.objs.size 28)=false:=by
   show(fd.scope.kind==_&&_)=false
   rw [fo.kind];rfl
  refine aj (wpAny_Expr ?_ abd H)
  rw [arm_eval_Call]
  have abe:∀{Q: ~~~0},Q (.type "Exception") {s with heap:=dD,toks:=KO}→wpAny (model prog w) (A.deeper (callEnvC fd s.heap.objs.size 28)) (eval (.Name "Exception" p1) (callEnvC fd s.heap.objs.size 28)) Q (λe s'=>wpAny (model prog w) (A.deeper (callEnvC fd s.heap.objs.size 28)) (leaving (callEnvC fd s.heap.objs.size 28) e) (λO kb=>E e kb) (λe' kb=>E e' kb) s') {s with heap:=dD,toks:=KO}:=λhQ=>
   EJ fo.kind abc (Calls.loadGlobal_builtin (by show dD.Ns fd.globals mg;rw [fo.glob];exact H5.keeps kp) hg (by show dD.Ns fd.builtins mb;rw [fo.blt];exact Z9.keeps kp) hb hQ) ∅
  refine aj (abe (aj (fL ?_)))
  have abf:methodCallPos true (.Name "Exception" p1) (callEnvC fd s.heap.objs.size 28) ap p4=pure p4:=by unfold methodCallPos;simp [aaa]
  unfold methodCall
  refine ae (show methodCallForm (([.Name "self" p2, .Name "why" p3]:↑Expr).length+([]:↑Keyword).length) (backTo p4 (starEach [.Name "self" p2, .Name "why" p3] (callEnvC fd s.heap.objs.size 28))) (backToKw p4 (keywordEach [] (callEnvC fd s.heap.objs.size 28)))=true from rfl) ?_
  refine aj (dA ?_)
  show wpAny _ _ (getMethod (.type "Exception") "__init__" _) _ _ _
  refine O' (s:={s with heap:=dD,toks:=KO}) F1 X ?_
  refine aj (wpAny_of_eq abf ?_)
  refine v8 H ?_
  refine uc (rz (wpAny_Name (wpAny_loadName_local fo.kind KP ns KQ ?_) ∅))
  refine rz (wpAny_Name (wpAny_loadName_local fo.kind SN ns SO ?_) ∅)
  refine wd ?_
  have tI:=kp _ _ he
  refine KL (rest:=[v]) D' tI H rfl rfl ?_ (by refine ae sizeLine_eq ?_;show 1≤_;simp+arith only)
  show wpAny _ _ (do match←exec _ _ with| .next=>execs _ _|f=>pure f) _ _ _
  have Bl:=oj (Obj.mapFields (·.setIfInBounds 0 (.ref dD.objs.size))) (lv (h:=dD) (oh [v]) tI) H
  have FG:∀b ob,b≠e→dD.get? b=some ob→((dD.push (oh [v])).update e (Obj.mapFields (·.setIfInBounds 0 (.ref dD.objs.size)))).get? b=some ob:=λb ob hb ho=>by
   refine ae (Heap.get?_update_other _ _ (Ne.symm hb)) ?_
   exact lv _ ho
  have SP:((dD.push (oh [v])).update e (Obj.mapFields (·.setIfInBounds 0 (.ref dD.objs.size)))).Ns s.heap.objs.size m:=by
   obtain ⟨oL,es,ep,eL,r⟩:=ns
   exact ⟨oL,es,ep,FG _ _ hLe eL,r⟩
  have abg:(gF P fd).In ((dD.push (oh [v])).update e (Obj.mapFields (·.setIfInBounds 0 (.ref dD.objs.size)))):=λb ob hb=>by
   refine FG b ob (λq=>?_) (D' b ob hb)
   rw [q,Z']at hb;exact nomatch hb
  refine aj (plainObj_wpAny_Assign_Attribute (wpAny_Name (wpAny_loadName_local fo.kind SN SP SO (wpAny_Name (wpAny_loadName_local fo.kind KP SP KQ ?_) ∅)) ∅) H)
  refine FF abg Bl H (λc q=>nomatch q) H rfl λh' hJ dd g1 g2 g3 g4=>?_
  refine aB ?_
  refine hq h' _ dd dD.objs.size (λb ob hb ho=>g3 b ob hb (FG b ob hb (kp b ob ho))) g1 ?_ g4
  cases qu:s.heap.get? dd with
  |none=>rfl
  |some od=>
   have gd:dd≠e:=λq=>by rw [q,Bl]at g2;exact nomatch g2
   rw [FG _ _ gd (kp _ _ qu)]at g2;exact nomatch g2
end
end
section
variable {M:Model} {E: ~~~0}
theorem H6 {s:Shared} {x:Sem Value} {Q:Flow→Shared→Prop} (hh:A.handled=none)
  (h:wpAny M A x (λv iX=>s6 λe oE vs=>An7 (v= .ref e) ((gF P fd).In iX.heap) (iX.heap.get? e=some oE) (oE.cls= .ref 44) (oE.data= .fields vs) (vs[1]?=some .none) (E (.ref e) iX)) E s):
  wpAny M A (raiseStmt env (some x) none) Q E s:=by
 have Fz:(Value.ref 44::BE).contains (.type "BaseException")=true:=by rfl
 refine aj (bv h (λv iX dD=>?_) λO O x=>x)
 obtain ⟨e,oE,vs,rfl,X,he,og,hd,h1,hE⟩:=dD
 obtain ⟨hp,g,d,tk,os⟩:=iX
 have hC:=mK X
 repeat (first|(with_reducible refine iz he ?_;first|rw [og]|rw [hd]|skip)|with_reducible refine iz hC ?_|(with_reducible refine wpAny_isSubtype_exc hC ?_;rw [Fz])|wp_step)
 refine ae hd ?_
 refine aB ?_
 refine ae h1 ?_
 refine aB ?_
 refine ae (aN ∅) ?_
 exact aB (wpAny_raiseNew_none hh hE)
end
section
variable {ag:F→cw}
theorem H7 {m:Str} {t:Tok} {E: ~~~0} (X0:(gF P fd).In k.B) (fo:Al fd) (BD:k.B.CodeRec fd.code fd.qualname) (cn:eJ ag k n) (bt:Ok k μ σ ρ s1.heap)
  (hq:∀h' tk a oE vs,dJ s1.heap h'→(gF P fd).In h'→h'.get? a=some oE→oE.cls= .ref 44→oE.data= .fields vs→vs[1]?=some .none→vg k s1.heap h' (.ref a) m→Q (.ref a) {s1 with heap:=h',toks:=tk}):
  wpAny k.M k.A (PySem.call (.ref 44) [.str m t] []>>=λr=>do holding [r] point;pure r) Q E s1:=by
 obtain ⟨mg,H5,_,hgn,hcf⟩:=cn.top.glob
 obtain ⟨mb,Z9,hbl⟩:=cn.top.blt
 obtain ⟨hp,gg,d,tk,os⟩:=s1
 have X2:(gF P fd).In hp:=X0.keeps bt.base
 have Wf:dJ hp ((hp.push (oh [.str m t])).push (uT hp.objs.size)):=λb o e=>lv _ (lv _ e)
 have FH:∀b o,k.B.get? b=some o→((hp.push (oh [.str m t])).push (uT hp.objs.size)).get? b=some o:=λb o q=>Wf b o (bt.base b o q)
 have SQ:cN hp (hp.objs.size+1):=rn (Nat.le_succ _)
 have Z':(gF P fd).lookup (hp.objs.size+1)=none:=by
  cases q:(gF P fd).lookup (hp.objs.size+1)with
  |none=>rfl
  |some o=>exact (SQ.not (X2 _ _ q)).elim
 refine aj (H3 (rest:=[.str m t]) X2 (by refine ae sizeLine_eq ?_;exact aP H) ?_)
 refine KN (s:=⟨(hp.push (oh [.str m t])).push (uT hp.objs.size),gg,d,tk,os⟩) (X2.keeps Wf) fo (by have:=cn.depth;show k.A.depth+1<1000;exact av this) (cn.top.Rh.keeps FH) (BD.keeps FH)
  (H5.keeps FH) (hgn ("Exception", .type "Exception") ⋯) (Z9.keeps FH) (hbl ("Exception", .type "Exception") ⋯) (by heap_get) Z' λh' hJ dd t1 g1 g2 g3 g4=>?_
 have rO:dJ hp h':=λb o q=>g1 b o (λw=>by rw [w]at q;exact SQ.not q) (Wf b o q)
 have qu:cN hp dd:=by
  cases q:hp.get? dd with
  |none=>exact q
  |some o=>rw [Wf _ _ q]at g3;cases g3
 refine ⟨rfl,aj (dA (wpAny_point (aB (hq h' hJ _ _ _ rO (X2.keeps rO) g4 H rfl rfl ?_))))⟩
 exact ⟨λb o q=>rO b o (bt.base b o q),bt.frames.of_keeps λb o q O=>⟨o,rO b o q,H⟩,_,rfl,_,_,dd,_,t,g4,rfl,rfl,g2,by simp,rfl,SQ,qu,by simp, .inl H⟩
theorem zy {s:Shared} {E: ~~~0} (cn:eJ ag k n) (cx:gX c k) (hg:c.glob ("CompileFault":Str)=true) (base:∀b o,k.B.get? b=some o→s.heap.get? b=some o) (h:Q (.ref 44) s):wpAny (model k.prog k.w) A (eval (.Name ("CompileFault":Str) p) k.env) Q E s:=by
 obtain ⟨mg,H5,_,_,hcf⟩:=cn.top.glob
 exact EJ cn.good.fn (cx.glob _ hg) (Calls.loadGlobal_global (by refine ae cn.globals ?_;exact H5.keeps base) hcf h) ∅
theorem H8 {x:Str} {e:Expr} (hx:x="CompileFault") (hg:c.glob x=true) (hs:dP [e]) (ha:bC ag K n c e y):i9 ag K n c w (.Raise (some (.Call (.Name x np) [e] [] cp)) none pos) (.dU y):=by
 subst hx
 intro k μ σ ρ s cn ok h
 obtain ⟨P,fd,X0,fo,BD⟩:=cn.eK.top.Ri
 rw [arm_exec_Raise]
 refine aj (fL (H6 (P:=P) (fd:=fd) cn.eK.good.handled ?_))
 refine aj (wpAny_Call_ofName (zy cn.eK cn.cx hg ok.base ?_))
 refine aj (dA ?_)
 rw [hs.1 [] k.env]
 refine uc (rz ((ff.refl μ s _).step (f:=Ae) h (ha k μ σ ρ s cn.eK cn.cx ok (R.ax (f:=Ae) h)) λval v σ1 ν h1 tk O bt dF dG r1 e1 L1=>?_))
 refine (dY v).get (R.ax e1) λd hd=>?_
 have e2:=R.jC hd e1
 refine (jW d).get (R.ax e2) λm hm=>?_
 have hr:Ae (v,σ1)= .dW m:=(R.cf hd).trans (R.cf hm)
 refine (r1.mw hd).ly hm λt=>?_
 refine wd (aj (fL (aj (m:=keeperOf _) (wpAny_keeperOf_exc (mK (X0.keeps bt.base)) ?_))))
 refine H7 (s1:={s with heap:=h1,toks:=tk}) (m:=m) (t:=t) X0 fo BD cn.eK bt λh' hJ a oE vs kp X3 g1 g2 g3 g4 yv=>?_
 exact aj (fL (aB ⟨a,oE,vs,H,X3,g1,g2,g3,g4,L1.x _ _ ⟨m,h',hJ,hr,H, .of_keep kp,yv⟩⟩))
end
variable {dx:Addr}
section
variable {w:World} {g:Array PySem.GenState} {d:PySem.Drawn} {t:Nat} {E: ~~~0}
theorem abh:findIn (gF P fd) (.ref 44) "__getattribute__"=some (some (.builtin "BaseException.__getattribute__")):=by kernel_rfl
open Builtin Builtin.ObjectAttr
theorem Pa (X:(gF P fd).In h) {M:Model} {Q:Unit→Shared→Prop} (hx:h.get? a=some o) (hc:o.cls= .ref 44) (hq:Q () ⟨h,g,d,t,os⟩):
  wpAny M A (checkBuiltinCall "BaseException.__getattribute__" ⟨[.ref a,FA],[]⟩) Q E ⟨h,g,d,t,os⟩:=by
 have hC:=mK X
 have hk:builtinKind "BaseException.__getattribute__"=some .slot:=by decide+kernel
 have Wg:splitId "BaseException.__getattribute__"=some ("BaseException","__getattribute__"):=by decide+kernel
 have Fz:(Value.ref 44::BE).contains (.type "BaseException")=true:=by rfl
 have ha:=F.args_bexc_ga (.ref a) FA
 simp only [checkBuiltinCall,hk,Wg]
 refine aj ?_
 ·unfold isInstance
  repeat (first|(with_reducible refine iz hx ?_;rw [hc])|(with_reducible refine wpAny_isSubtype_exc hC ?_;rw [Fz])|wp_step)
  exact hq
theorem KR (X:(gF P fd).In h) {m:Str→Option Value} {v:Value} {tk:Tok} {Q:Fin→Shared→Prop} (hx:h.get? a=some o) (hc:o.cls= .ref 44) (FD:∀c,o.data≠ .cls c) (KS:o.dict=some dx) (uL:h.Ns dx m) (hv:m "why"=some v)
  (hh:handedOut v=pure v) (hq:Q (.done (.ret v)) ⟨h,g,d,t,os⟩):wpAny (model prog w) A (Builtin.«object.__getattribute__» ⟨[.ref a, .str "why" tk],[]⟩) Q E ⟨h,g,d,t,os⟩:=by
 have hC:=mK X
 unfold Builtin.«object.__getattribute__»
 repeat (first|(with_reducible refine iz hx ?_;rw [hc])|with_reducible refine (looks_findIn X SI).at ?_|wp_step)
 split
 ·rename_i Fg
  exact al Fg (FD c)
 unfold instanceDict
 repeat (first|(with_reducible refine iz hx ?_;rw [hc])|with_reducible refine iz hC ?_|wp_step)
 refine ae KS ?_
 repeat (first|(with_reducible refine wpAny_nsGet uL ?_;rw [hv])|wp_step)
 exact hq
theorem FI (X:(gF P fd).In h) {m:Str→Option Value} {v:Value} {dC:Bool} (hx:h.get? a=some o) (hc:o.cls= .ref 44) (FD:∀c,o.data≠ .cls c) (KS:o.dict=some dx) (uL:h.Ns dx m) (hv:m "why"=some v)
  (hh:handedOut v=pure v) (hq:Q v ⟨h,g,d,t+1,os⟩):wpAny (model prog w) A (getAttr (.ref a) "why" dC) Q E ⟨h,g,d,t,os⟩:=by
 have f3:=F.attr_Exception.ga.bind (.ref a)
 have hx0:(dC&&onTheHeap (Value.builtin "BaseException.__getattribute__"))=false:=by cases dC<;>rfl
 have hx2:(Value.builtin "BaseException.__getattribute__" ==Value.builtin "object.__getattribute__")=false:=by decide+kernel
 have hx1:(onTheHeap (Value.ref 44)&&Value.builtin "BaseException.__getattribute__" ==Value.builtin "object.__getattribute__")=false:=by refine ae hx2 ?_;rfl
 unfold getAttr getAttrBy
 repeat (any_goals (first|assumption|(with_reducible refine iz hx ?_;rw [hc])|with_reducible refine (looks_findIn X abh).at ?_|with_reducible refine (looks_findIn X Wd).at ?_|wp_step))
 refine codeAny_call_builtin F.attr_Exception.ga.plain F.entry_bexc_ga (Pa X hx hc (KR X hx hc FD KS uL hv hh ?_))
 show wpAny _ _ (handedOut v) Q E _
 refine ae hh ?_
 exact aB hq
end
variable {ep hp rp yp:Pos}
section
open PyProof.Rows (Fr)
section
variable {ag:F→cw}
theorem Pb {m:Str} {t:Tok}:handedOut (.str m t)=pure (.str m t):=rfl
theorem Ok.aab {h6:Heap} {m6:Str→Option Value} (ok:Ok k [] [] ρ h) (base:∀b o,k.B.get? b=some o→h6.get? b=some o) (frames:h6.FunFrames k.B k.envs) (ext:sC h h6) (Wh:h6.Ns k.env.locals m6) (cell:∀c v,c≠k.env.locals→h.IsCell c v→h6.IsCell c v):Ok k [] [] (List.replicate ρ.length .un) h6 where
 base:=base
 frames:=frames
 dM:=ok.dM
 low:=λb hb=>let⟨nb,o,e⟩:=ok.low b hb;⟨nb,ext b o e⟩
 nodup:=ok.nodup
 cells:= .nil
 env:=⟨⟨m6,Wh,λj q v h1 h2 h3=>by
   rw [List.getElem?_replicate]at h2
   split at h2
   ·have h2:=bb h2;exact al h2.symm h3
   ·exact nomatch h2⟩,λq hq hk=>let⟨cc,v,e1,e2,e3⟩:=ok.env.cell q hq hk;⟨cc,v,e1,e2,cell cc v e2 e3⟩,by refine ae v9 ?_;exact ok.env.len⟩
theorem Wi (h:gI v= .ok d):v= .d d:=by
 induction v using V.casesOn with
 |d x=>exact R.aF (P:=λd=>V.d x= .d d) h H
 |_=>exact R.no h
theorem SR {P:Prop} (h:ev K (.var i) ρ σ≠ .aQ) (k:∀v,ev K (.var i) ρ σ= .ok (v,σ)→P):P:=by
 have h1:qL ρ[i]?≠ .aQ:=R.ax (f:=λv=> .ok (v,σ)) h
 generalize q:qL ρ[i]?=o0;induction o0 using R.casesOn with
 |ok v=>exact k v (R.cf (f:=λv=> .ok (v,σ)) q)
 |aQ=>exact al q h1
 |dW m=>exact al q (λq=>by
   generalize ho:ρ[i]?=o0;induction o0 using di with
   |none=>rw [ho]at q;cases q
   |some v=>rw [ho]at q;induction v using V.casesOn<;>cases q)
theorem Wj {d:Addr} {m:Str→Option Value} (x:h.Ns d m):∃o,h.get? d=some o∧∀vs,o.data≠ .fields vs:=by
 obtain ⟨o,_,_,ho,hd,_⟩:=x
 exact ⟨o,ho,λvs q=>by rw [hd]at q;exact gB q⟩
inductive FJ (k:Kx) (ρ:↑V) (s:Shared) (Q:Flow→Shared→Prop) (e:Value) (s1:Shared):Prop
 |mk (m:Str) (a:Addr) (h':Heap) (tk:Nat):e= .ref a→s1={s with heap:=h',toks:=tk}→Ok k [] [] ρ s.heap→vg k s.heap h' (.ref a) m→b7 [] k.F s.heap h'→(∀h6 t hJ,Ok k [] [] (List.replicate ρ.length .un) h6→b7 (k.wr++[]) k.F s.heap h6→Q (.ret (.str m t)) {s with heap:=h6,toks:=hJ})→FJ k ρ s Q e s1
theorem Wk {s:Shared} {ce:Expr} {y:Str} {Q:Flow→Shared→Prop} {E: ~~~0} (hg:c.glob ("CompileFault":Str)=true) (hx:c.names.lookup y=some .local) (KS:(y==("__debug__":Str))=false) (J8:∀env line,swapsWith ce none line env=pure false) (cn:nH ag n c k)
  (hE:wpAny k.M k.A (eval ce k.env) (λO=>Q .next) (FJ k ρ s Q) s):
  wpAny k.M k.A (exec (.Try [.Expr ce ep] [.ExceptHandler (some (.Name ("CompileFault":Str) kp)) (some y) [.Return (some (.Attribute (.Name y yp) "why" ap)) rp] hp] [] [] tp) k.env) Q E s:=by
 have g0:=cn.eK.good
 have hkl:k.env.kindOf y=some .local:=cn.cx.E8 _ hx
 have Fo:(k.env.scope.kind== .class||(k.env.scope.kind== .module&&k.env.locals !=k.env.globals))=false:=by rw [g0.fn];rfl
 obtain ⟨P,fd,X0,_⟩:=cn.eK.top.Ri
 refine wpAny_Try_except ?_
 refine aj (wpAny_Expr_any (bv hE (λval s1 gg=>aB (aB gg)) λe s1 gg=>?_) (by unfold interactive;rw [g0.fn];rfl) (J8 _ _))
 obtain ⟨m,a,h',tk,rfl,rfl,ok,yv,ext,hq⟩:=gg
 refine yu (s:={s with heap:=h',toks:=tk}) g0.frames ⟨g0.frame⟩ ok.base ext.1 yv λh2 g1 g2 g3=>?_
 refine pU (s:={s with heap:=h2,toks:=tk}) ok.base g1 g2 none λh3 w1 w2 w3=>?_
 have MZ:=w1 k H ⟨[],rfl⟩ (.inl H)
 have kh:=w3 _ (g3 _ ext)
 have X3:(gF P fd).In h3:=X0.keeps MZ.base
 refine wpAny_handleBy_cons (codeAny_handlers_test ?_) (by intro q;cases q)
 refine zy (s:={s with heap:=h3,toks:=tk}) cn.eK cn.cx hg MZ.base ?_
 obtain ⟨o3,vs3,d3,mE3,A1,x1,x2,x3,x4,x5,x6,x7,x8,x9,Zr⟩:=MZ.at
 refine wpAny_excMatches_sub_self (mK X3) x1 x2 (by rfl) ?_
 refine codeAny_handlers_suite_as ?_
 refine pU (s:={s with heap:=h3,toks:=tk}) ok.base MZ w2 none λh4 z1 z2 z3=>?_
 have M0:=z1 k H ⟨[],rfl⟩ (.inl H)
 have nD:=z3 _ kh
 obtain ⟨m0,hm0,_⟩:=ok.env.ns
 have abi:∃o,s.heap.get? k.env.locals=some o:=let⟨o,_,_,ho,_⟩:=hm0;⟨o,ho⟩
 have hm4:h4.Ns k.env.locals m0:=nD.ns hm0 (by simp)
 refine wpAny_storeName_local hkl hm4 (λh5 hn5 Wl=>?_) Fo
 have D2:cN k.B k.env.locals:=(ok.low _ (aW _ g0.tn)).1
 have aac:∀b o,k.B.get? b=some o→h5.get? b=some o:=λb o q=>(Wl.2 b λw=>D2.not (w▸q)).trans (M0.base b o q)
 have X5:(gF P fd).In h5:=X0.keeps aac
 obtain ⟨o4,vs4,d4,mE4,wM,y1,y2,y3,y4,y5,y6,y7,y8,y9,y10⟩:=M0.at
 obtain ⟨oL,hoL⟩:=abi
 have ne1:a≠k.env.locals:=λq=>y7.not (q▸hoL)
 have ne2:d4≠k.env.locals:=λq=>y8.not (q▸hoL)
 refine aj (wpAny_Return_some ?_)
 rw [arm_eval_Attribute]
 refine aj ?_
 refine wpAny_Name (wpAny_loadName_local g0.fn hkl hn5 (by rw [ao H]) ?_) KS
 refine aj (fL (aj (dA ?_)))
 refine FI X5 ((Wl.2 a ne1).trans y1) y2 (λc q=>by rw [y6]at q;exact gB q) y3 (y4.sameBut Wl ne2) y5 Pb ?_
 refine aj (aB (aB ?_))
 refine aB ?_
 refine wpAny_nameGoes hkl hn5 Fo λh6 m6 Wh V5=>?_
 obtain ⟨o6,ho6,hd6⟩:=Wj Wh
 have qr:Heap.SameBut k.env.locals h4 h6:=Wl.trans V5
 have D5:b7 (k.wr++[]) k.F s.heap h6:=(nD.mono λb hb=> .inl (bl _ hb)).trans (b7.sameBut (X:=k.wr++[]) qr ho6 (aW _ g0.G6)) λb hb=> .inl hb
 exact hq _ _ _ (ok.aab (λb o q=>(qr.2 b λw=>D2.not (w▸q)).trans (M0.base b o q)) (sE qr ho6 hd6 M0.frames) D5.1 Wh (λcc v e2 e3=>(nD.cell e3 (by simp)).sameBut qr e2)) D5
theorem KU {s:Shared} {e:Value} (ok:Ok k μ σ ρ s.heap) (h:rL ρ σ r≠ .aQ) (g:PX k μ s r e s1):FJ k ρ s (PS k μ s (rL ρ σ r)) e s1:=by
 obtain ⟨m,h',tk,Fy,rfl,ext,yv⟩:=g
 subst Fy
 cases List.isEmpty_iff.mp (R.Qx h)
 cases List.eq_nil_of_length_eq_zero ok.cells.length
 obtain ⟨a,rfl,_⟩:=id yv.dW
 exact ⟨m,a,h',tk,rfl,rfl,ok,yv,ext,λh6 t hJ ZT D5=>⟨.ret (.d (.str m)),List.replicate ρ.length .un,[],[],h6,_,H,H,ZT,D5,λO q=>al q (by simp), .ret (.d (.str _ _))⟩⟩
theorem SS {s:Shared} {v:Value} (g:PG k μ ρ (qN k) s r v s1):PS k μ s (rL ρ σ r) .next s1:=by
 obtain ⟨v',σ',ν,h',tk,Fy,rfl,pB,ext,new,rv⟩:=g
 subst Fy
 exact ⟨.next,ρ,σ',ν,h',tk,rfl,rfl,pB,ext.mono λa ha=> .inl (bl _ ha),new, .next⟩
theorem Pc {f:Str} {g:F} {z:Str} {zp:Pos} {cls:Str} {x y:Str} (hK:pP ag K n) (hf:c.fn f=some g) (hz:c.slot z=some i) (og:cls="CompileFault") (hg:c.glob cls=true) (ZD:y=x) (hx:c.names.lookup x=some .local)
  (KS:(x==("__debug__":Str))=false):
  i9 ag K n c w (.Try [.Expr (.Call (.Name f np) [.Name z zp] [] cp) ep] [.ExceptHandler (some (.Name cls kp)) (some x) [.Return (some (.Attribute (.Name y yp) "why" ap)) rp] hp] [] [] tp) (.pM g (.var i)):=by
 subst og;subst ZD
 intro k μ σ ρ s cn ok h
 have uL:dP [.Name z zp]:=⟨λO O=>rfl,trivial⟩
 have SU:=A5 (np:=np) (pos:=cp) hK hf uL (vw uL.1 (yg (p:=zp) hz) yi) k μ σ ρ s cn.eK cn.cx ok
 refine SR (R.ax h) λp hp=>?_
 have h1:=R.jC hp h
 refine (dY p).get (R.ax h1) λd hd=>?_
 have e2:ex K w (.pM g (.var i)) ρ σ=rL ρ σ (K g [.d d] σ):=(R.cf hp).trans (R.cf hd)
 have KV:ev K (.call g {.var i}) ρ σ=K g [.d d] σ:=by
  show((ev K (.var i) ρ σ).bind λp=>(i3 K .nil ρ p.2).bind λq=> .ok (p.1::q.1,q.2)).bind (λp=>K g p.1 p.2)=_
  refine ae hp (ae (Wi hd) ?_);rfl
 rw [KV]at SU
 rw [e2]at h⊢
 exact Wk hg hx KS (λO O=>rfl) cn (bv (SU λq=>h (by refine ae q ?_;rfl)) (λO O=>SS) λO O=>KU ok h)
end
end
set_option backward.match.sparseCases false
structure SV (ag:F→cw) (K:fF) (n:Nat) (c:Cx) (e:Expr) (i:It):Prop where
 it:∃tg,oZ ag K n c e tg i∧∀t,ov i t=true→tg t
 sU:∀x,i= .sU x→s6 λnp e' q=>CD (e= .Call (.Name "reversed" np) [e'] [] q) (c.glob ("reversed":Str)=true) (dP [e']) (bC ag K n c e' x)
structure Pk (ag:F→cw) (K:fF) (n:Nat) (c:Cx) (e:Expr) (x:E):Prop where
 val:bC ag K n c e x
 qx:kY ag K n c e x
 uU:∀rest env,starEach (e::rest) env=(false,eval e env)::starEach rest env
 mark:∀op,behindInMarks op e=false
 H9:∀env v,foldedSetIterable e env v=pure v
 lit:∀s k p,e= .Constant (.str s) k p→x= .az (.str s)
 nn:isNone e=true→x= .az .none
 it:SV ag K n c e (iW c e x)
 sw:EV e=false→∀t line env,swapsWith e (some t) line env=pure false
 bD:∀w z j np sp,ww e=false→c.slot z=some j→i9 ag K n c w (.Assign [.Name z np] e sp) (.bD j x)
noncomputable abbrev pD (ag:F→cw) (K:fF) (n:Nat) (f:FE):Prop:=∀{c:Cx} {m:Bool} {e:Expr} {x:E},f c m e=some x→Pk ag K n c e x
section
variable {ag:F→cw} {f:FE}
theorem Aq:∀{xs:Es},pD ag K n f→NM f c es=some xs→wL ag K n c es xs∧dP es∧xs.len=es.length:=by
 induction es with
 |nil=>
  intro xs _ h
  cases (show some Es.nil=some xs from h)
  exact ⟨yi,trivial,rfl⟩
 |cons e es dS=>
  exact λ{xs} ih h=>ah (h:) λx h1 h=>bz (h:) λys h2=>by
   have q:=dS ih h2
   exact ⟨vw ((ih h1).uU) (ih h1).val q.1,⟨(ih h1).uU,q.2.1⟩,aC (·+1) q.2.2⟩
theorem M1:∀{xs:Es},pD ag K n f→AQ f c es=some xs→wL ag K n c es xs∧dP es:=by
 induction es with
 |nil=>
  intro xs _ h
  cases (show some Es.nil=some xs from h)
  exact ⟨yi,trivial⟩
 |cons e es dS=>
  exact λ{xs} ih h=>ah (h:) λx h1 h=>bz (h:) λys h2=>by
   have q:=dS ih h2
   exact ⟨vw ((ih h1).uU) (ih h1).val q.1,(ih h1).uU,q.2⟩
theorem SW {f0:↑(Option Expr)}:∀{ks:↑Str} {vals:↑Expr} {xs:Es},pD ag K n f→Ag f0=some ks→vals.length=ks.length→EW f c vals=some xs→Hx ag K n c f0 ks vals xs:=by
 induction f0 with
 |nil=>
  intro ks vals xs _ hk hl h
  cases (show some []=some ks from hk)
  cases vals with
  |nil=>cases (show some Es.nil=some xs from h);exact JW
  |cons _ _=>cases hl
 |cons k f0 dS=>
  intro ks vals xs ih hk hl h
  refine ah (hk:) λs h1 hk=>?_
  refine nz (hk:) λks' h2 e_=>?_
  subst e_
  cases vals with
  |nil=>cases hl
  |cons e es=>
   refine ah (h:) λx h3 h=>bz (h:) λys h4=>?_
   obtain ⟨kk,p,rfl⟩:=zk h1
   exact Hy (ih h3).val (dS ih h2 (ug hl) h4)
theorem Wm:∀{xs:Es},pD ag K n f→vals.all Af=true→EW f c vals=some xs→∃vs,pS vals vs xs:=by
 induction vals with
 |nil=>
  intro xs _ _ h
  cases (show some Es.nil=some xs from h)
  exact ⟨[], .nil⟩
 |cons e es dS=>
  intro xs ih ha h
  rw [om,c9]at ha
  refine ah (h:) λx h1 h=>bz (h:) λys h2=>?_
  obtain ⟨vs,hv⟩:=dS ih ha.2 h2
  obtain ⟨s,kk,p,rfl⟩:=ES ha.1
  cases (ih h1).lit s kk p H
  exact ⟨_::vs, .cons hv⟩
theorem FK {w:Bool}:∀{xs:Es},pD ag K n f→NM f c es=some xs→yl ag K n c w es xs∧ym ag K n c w es xs:=by
 induction es with
 |nil=>
  intro xs _ h
  cases (show some Es.nil=some xs from h)
  have hb:∀ρ σ,uI K w .nil ρ σ= .aQ:=λρ σ=>by cases w<;>rfl
  exact ⟨λk μ σ ρ s pos O O O hn=>al (hb ρ σ) hn,λk μ σ ρ s O O O hn=>al (by rw [hb];rfl) hn⟩
 |cons e r dS=>
  intro xs ih h
  induction r using bu with
  |nil=>
   refine ah (h:) λx h1 h=>?_
   cases (show some (Es.cons x .nil)=some xs from h)
   exact ⟨Ol (ih h1).val,JT (ih h1).qx⟩
  |cons e2 es=>
   refine ah (h:) λx h1 h=>bz (h:) λys h2=>?_
   have q:=dS ih h2
   clear h dS
   revert q
   exact ah (h2:) λy h3 h=>bz (h:) λzs h4 q=>⟨JS (ih h1).val q.1,Hp (ih h1).qx q.2⟩
theorem KW {e:Option Expr} {x:Oe} (ih:pD ag K n f) (h:cO f c e=some x):DL ag K n c e x:=by
 cases e with
 |none=>cases (show some Oe.none=some x from h);exact Oq
 |some a=>exact bz (h:) λy h1=>Ot (ih h1).val
end
section
variable {ag:F→cw} {f:FE}
theorem FL {f:Str} {b:B1} (h:ET.lookup f=some b):(f="len"∧b= .len)∨(f="str"∧b= .str)∨(f="chr"∧b= .EM)∨(f="ord"∧b= .EN)∨(f="dict"∧b= .dict)∨(f="tuple"∧b= .tuple)∨(f="sum"∧b= .sum)∨
  (f="range"∧b= .range)∨(f="reversed"∧b= .oC)∨(f="enumerate"∧b= .rI):=by
 have:=mem_of_lookup h
 simpa [ET,Mo]using this
theorem SX {z:Str} {e t:Expr} {b:B1} (hg:c.glob z=true) (hs:dP [e]) (hl:bC ag K n c e y) (h:QR c z t=some b):bC ag K n c (.Call (.Name z np) [e,t] [] pos) (.b1 b y):=by
 refine ah h λt' O h=>?_
 obtain ⟨t',tp,rfl⟩:=t'
 refine bn (h:) λq h'=>?_
 clear h
 rw [c9]at q
 obtain ⟨q1,q2⟩:=q
 cases dz q1
 have h:(if t'==("tuple":Str)then some B1.nU else if t'==("str":Str)then some .qi else none)=some b:=h'
 split at h
 ·rename_i q
  obtain rfl:=bb h
  cases dz q
  exact DN hg ⋯ ∅ hs hl q2 (T:="tuple") ⋯ ∅ .nU
 ·refine bn h λq h=>?_
  obtain rfl:=bb h
  cases dz q
  exact DN hg ⋯ ∅ hs hl q2 (T:="str") ⋯ ∅ .qi
theorem Wn {z:Str} {e:Expr} {b:B1} (hb:ET.lookup z=some b) (hg:c.glob z=true) (hs:dP [e]) (hl:bC ag K n c e y):bC ag K n c (.Call (.Name z np) [e] [] pos) (.b1 b y):=by
 rcases FL hb with⟨rfl,rfl⟩|⟨rfl,rfl⟩|⟨rfl,rfl⟩|⟨rfl,rfl⟩|⟨rfl,rfl⟩|⟨rfl,rfl⟩|⟨rfl,rfl⟩|⟨rfl,rfl⟩|⟨rfl,rfl⟩|⟨rfl,rfl⟩
 ·exact pQ hg ⋯ ∅ hs hl .len
 ·exact qQ hg ⋯ ∅ hs hl .str
 ·exact pQ hg ⋯ ∅ hs hl .EM
 ·exact pQ hg ⋯ ∅ hs hl .EN
 ·exact qQ hg ⋯ ∅ hs hl .dict
 ·exact qQ hg ⋯ ∅ hs hl .tuple
 ·exact pQ hg ⋯ ∅ hs hl .sum
 ·exact qQ hg (T:="range") ⋯ ∅ hs hl (A6 (λO=>rfl) λO O=>rfl)
 ·exact qQ hg (T:="reversed") ⋯ ∅ hs hl (A6 (λO=>rfl) λO O=>rfl)
 ·exact qQ hg (T:="enumerate") ⋯ ∅ hs hl (A6 (λO=>rfl) λO O=>rfl)
theorem BF {z:Str} {m:Bool} {x:E} (hK:pP ag K n) (ih:pD ag K n f) (h:G1 f c m (.Call (.Name z np) es [] pos)=some x):bC ag K n c (.Call (.Name z np) es [] pos) x:=by
 have h:(match c.fn z with|some g=>(AQ f c es).map (.call g)|none=>_)=some x:=h
 cases hf:c.fn z with
 |some g=>
  rw [hf]at h
  exact bz (h:) λxs h1=>A5 hK hf (M1 ih h1).2 (M1 ih h1).1
 |none=>
  rw [hf]at h
  refine bn (h:) λhg h=>?_
  cases es with
  |nil=>exact no h
  |cons e r=>cases r with
   |nil=>exact ah (h:) λb hb h=>bz (h:) λy h1=>Wn hb hg ⟨(ih h1).uU,trivial⟩ (ih h1).val
   |cons t r=>induction r with
    |nil=>exact ah (h:) λb hb h=>bz (h:) λy h1=>SX hg ⟨(ih h1).uU,trivial⟩ (ih h1).val hb
    |cons _ _=>exact no h
theorem BG {o:Expr} {m:Bool} {x:E} (ih:pD ag K n f) (h:G1 f c m (.Call (.Attribute o name ap) es [] p)=some x):bC ag K n c (.Call (.Attribute o name ap) es [] p) x:=by
 refine bn (h:) λhc h=>ah (h:) λy h1 h=>?_
 rw [c9]at hc
 have hy:=(ih h1).val
 cases es with
 |nil=>
  refine bn (h:) λq h=>?_
  obtain rfl:=bb h
  cases dz q
  exact Ht hc.1 hc.2 hy
 |cons e r=>induction r with
  |cons _ _=>exact no h
  |nil=>
   refine ah (h:) λb hb h=>bz (h:) λz h2=>?_
   have hz:=(ih h2).val
   have hs:dP [e]:=⟨(ih h2).uU,trivial⟩
   have hb:(if name==("join":Str)then some B2.join else if name==("rindex":Str)then some .rindex else none)=some b:=hb
   split at hb
   ·rename_i q
    obtain rfl:=bb hb
    cases dz q
    exact Hu hc.1 hc.2 hs hy hz PySem.F.slot_str_join PySem.F.type_str_join N7
   ·refine bn hb λq hb=>?_
    obtain rfl:=bb hb
    cases dz q
    exact Hu hc.1 hc.2 hs hy hz PySem.F.slot_str_rindex PySem.F.type_str_rindex Hi
end
section
variable {ag:F→cw} {f:FE}
theorem FM {f:Str} {b:B1} (h:Ai f=some b):(f="range"∧b= .range)∨(f="reversed"∧b= .oC)∨(f="enumerate"∧b= .rI):=by
 unfold Ai at h
 split at h
 ·rename_i q;obtain rfl:=bb h;exact .inl ⟨dz q,rfl⟩
 ·split at h
  ·rename_i q;obtain rfl:=bb h;exact .inr (.inl ⟨dz q,rfl⟩)
  ·exact bn h λq h=>by obtain rfl:=bb h;exact .inr (.inr ⟨dz q,rfl⟩)
theorem SY {t:Expr} (h:ov (.oU y) t=true):Fk t:=by
 cases t<;>first|exact ⟨_,_,_,rfl⟩|cases h
theorem iy {e:Expr} {x:E} (h:Vs c e=none) (he:bC ag K n c e x):SV ag K n c e (iW c e x):=by
 have:iW c e x= .seq x:=by unfold iW;exact ae h H
 refine ae this ?_
 exact ⟨⟨_,VQ he,λO O=>trivial⟩,nofun⟩
theorem S0 {z:Str} {m:Bool} {x:E} (ih:pD ag K n f) (h:G1 f c m (.Call (.Name z np) es [] pos)=some x) (he:bC ag K n c (.Call (.Name z np) es [] pos) x):SV ag K n c (.Call (.Name z np) es [] pos) (iW c (.Call (.Name z np) es [] pos) x):=by
 cases hr:Vs c (.Call (.Name z np) es [] pos)with
 |none=>exact iy hr he
 |some v=>
  have hm:∀b y,iW c (.Call (.Name z np) es [] pos) (.b1 b y)=match v.b with| .range=> .range y| .oC=> .sU y|_=> .oU y:=λb y=>by
   unfold iW;rw [hr]<;>rfl
  clear hr
  obtain ⟨z',e,b,⟨np',p',hv⟩,hg,hf,hi⟩:=v
  cases hv
  have h:(match c.fn z with|some g=>(AQ f c [e]).map (.call g)|none=>_)=some x:=h
  rw [hf]at h
  refine bn (h:) λO h=>ah (h:) λb' O h=>bz (h:) λy h1=>?_
  rw [hm]
  have hs:dP [e]:=⟨(ih h1).uU,trivial⟩
  have hy:=(ih h1).val
  rcases FM hi with⟨rfl,rfl⟩|⟨rfl,rfl⟩|⟨rfl,rfl⟩
  ·exact ⟨⟨_,OD hg hs hy,λO O=>trivial⟩,nofun⟩
  ·exact ⟨⟨λO=>True,λk μ σ ρ s O O O gd=>al H gd,λO O=>trivial⟩,λO q=>by cases q;exact ⟨_,_,_,H,hg,hs,hy⟩⟩
  ·exact ⟨⟨_,RM hg hs hy,λt ht=>SY ht⟩,nofun⟩
theorem BH (hs:k.slots=c.slots):∀{xs:↑Nat},EU c es=some xs→(∀e∈es,∀x p,e= .Name x p→x∈k.slots→Wr k x)→ju k es xs:=by
 induction es with
 |nil=>
  intro xs h _
  cases (h:some []=some xs);exact .nil
 |cons e es dS=>
  intro xs h hw
  refine ah (h:) λi h1 h=>bz (h:) λl h2=>?_
  cases e with
  |Name x p=>
   have h3:k.slots[i]?=some x:=by refine ae hs ?_;exact Cx.iS h1
   exact .cons h3 (hw _ bZ x p H (fJ h3)) (dS h2 λe he=>hw e (bY _ he))
  |_=>exact no h1
theorem aad {t:Expr} {tg:Tg} (hs:k.slots=c.slots) (h:GY c t=some tg) (hw:∀x∈k.slots,Wr k x):jl k t tg:=by
 cases t with
 |Name x p=>
  refine bz (h:) λi h1=>?_
  have h2:k.slots[i]?=some x:=by refine ae hs ?_;exact Cx.iS h1
  exact .dj h2 (hw x (fJ h2))
 |Tuple es kk p=>exact bz (h:) λxs h1=> .aO (BH hs h1 λO O x O O hx=>hw x hx)
 |_=>exact no h
theorem BJ (sc:gp c scope cap) {t:Expr} {tg:Tg} (h:GY (et scope) t=some tg) (hl:qM (et scope) t=true) (k:Kx) (cl:↑(Str×Addr)) (C:Addr) (ex:↑Addr):jl (k.comp scope cl C ex) t tg:=by
 have wr:∀x p,yd (et scope) (.Name x p)=true→Wr (k.comp scope cl C ex) x:=by
  intro x p hx
  have wT:(et scope).names.lookup x=some .local:=dz hx
  have:=(gX.comp (k:=k) (cl:=cl) (C:=C) (extra:=ex) sc).E8 x wT
  refine ⟨λq=>?_,λq=>?_⟩<;>· rw [this]at q;obtain ⟨rfl,rfl⟩:=bb q
 cases t with
 |Name x p=>exact bz (h:) λi h1=> .dj (Cx.iS h1) (wr x p hl)
 |Tuple es kk p=>exact bz (h:) λxs h1=> .aO (BH H h1 λe he x p q O=>by subst q;exact wr x p (eI.mp (hl:) _ he))
 |_=>exact no h
end
section
variable {ag:F→cw} {f:FE} {m:Bool} {x:E}
theorem Pk.plain {e:Expr} (he:bC ag K n c e x) (ht:kY ag K n c e x) (hr:SV ag K n c e (iW c e x)) (hs:∀rest env,starEach (e::rest) env=(false,eval e env)::starEach rest env) (hm:∀op,behindInMarks op e=false)
  (hf:∀env v,foldedSetIterable e env v=pure v) (hl:∀s k p,e= .Constant (.str s) k p→x= .az (.str s)) (hn:isNone e=true→x= .az .none) (hw:∀t line env,swapsWith e (some t) line env=pure false):Pk ag K n c e x:=
 ⟨he,ht,hs,hm,hf,hl,hn,hr,λO=>hw,λO O O O O O hj=>OF hj hw he⟩
abbrev shp:Expr→Bool
 | .Name ..| .Tuple ..| .List ..| .Dict ..| .BinOp ..| .UnaryOp ..| .BoolOp ..| .IfExp ..| .Compare ..| .Subscript ..| .Call ..=>true
 |_=>false
inductive Shp (e:Expr):Prop
 |mk:(∀rest env,starEach (e::rest) env=(false,eval e env)::starEach rest env)→(∀op,behindInMarks op e=false)→(∀env v,foldedSetIterable e env v=pure v)→AO e=none→isNone e=false→(∀t line env,swapsWith e (some t) line env=pure false)→Shp e
theorem nl {e:Expr} {P:Str→Prop} (q:AO e=none) (s:Str) (k:Nat) (p:Pos) (w:e= .Constant (.str s) k p):P s:=by subst w;cases q
theorem nn {e:Expr} {P:Prop} (q:isNone e=false) (w:isNone e=true):P:=by rw [q]at w;exact bL w
theorem M2 {e:Expr} (h:shp e=true):Shp e:=by
 induction e using ng<;>first|exact bL h|exact ⟨λ_ _=>rfl,λ_=>rfl,λ_ _=>rfl,rfl,rfl,λ_ _ _=>rfl⟩
theorem Pk.vl {e:Expr} (he:bC ag K n c e x) (hr:SV ag K n c e (iW c e x)) (hi:∀env A3,isTrue e env A3=(do let v←A3;standAt e.pos;holding [v] (truthy v))) (h:shp e=true):Pk ag K n c e x:=by
 obtain ⟨hs,hm,hf,hl,hn,hw⟩:=M2 h
 exact .plain he (yk he hi) hr hs hm hf (nl hl) (Mine.nn hn) hw
theorem Pk.ts {e:Expr} (he:bC ag K n c e x∧kY ag K n c e x) (hr:Vs c e=none) (h:shp e=true):Pk ag K n c e x:=by
 obtain ⟨hs,hm,hf,hl,hn,hw⟩:=M2 h
 exact .plain he.1 he.2 (iy hr he.1) hs hm hf (nl hl) (Mine.nn hn) hw
theorem BK {o:CmpOp} (h:QQ o=true):o= .LtE:=by induction o using CmpOp.casesOn<;>first|rfl|cases h
theorem Ta {l:Expr} {ve:↑CmpOp} {rs:↑Expr} (ih:pD ag K n f) (h:G1 f c m (.Compare l ve rs p)=some x):bC ag K n c (.Compare l ve rs p) x∧kY ag K n c (.Compare l ve rs p) x:=by
 induction rs using bu with
 |nil=>exact no h
 |cons r rs=>induction rs using bu with
  |nil=>induction ve using bu with
   |nil=>exact no h
   |cons op ve=>induction ve with
    |cons _ _=>exact no h
    |nil=>
     refine ah (h:) λo h1 h=>bn (h:) λq h=>ah (h:) λy h2 h=>bz (h:) λz h3=>?_
     have hn:(o= .kW∨o= .dw)→z= .az .none:=λw=>(ih h3).nn (by rcases w with rfl|rfl<;>exact q)
     exact ⟨N' h1 hn ((ih h3).mark op) (ih h2).val (ih h3).val,Oa h1 hn ((ih h3).mark op) (ih h2).val (ih h3).val⟩
  |cons b rs=>induction ve using bu with
   |nil=>exact no h
   |cons o1 ve=>induction ve using bu with
    |nil=>exact no h
    |cons o2 ve=>induction ve with
     |cons _ _=>exact no h
     |nil=>induction rs with
      |cons _ _=>exact no h
      |nil=>
       refine bn (h:) λq h=>ah (h:) λy h1 h=>ah (h:) λz h2 h=>bz (h:) λw h3=>?_
       rw [c9]at q
       cases BK q.1
       cases BK q.2
       exact ⟨Oc ((ih h3).mark .LtE) (ih h1).val (ih h2).val (ih h3).val,Ob ((ih h3).mark .LtE) (ih h1).val (ih h2).val (ih h3).val⟩
theorem Tb {e i:Expr} (ih:pD ag K n f) (h:((f c false e).bind λx=>(f c false i).map (E.aw x))=some x):bC ag K n c (.Subscript e i p) x:=ah h λy h1 h=>bz (h:) λz h2=>Oo (ih h1).val (ih h2).val
theorem H' {ks:↑(Option Expr)} {vs:↑Expr} (ih:pD ag K n f) (h:G1 f c m (.Dict ks vs p)=some x):bC ag K n c (.Dict ks vs p) x:=by
 refine ah (h:) λk h1 h=>bn (h:) λhc h=>bz (h:) λxs h2=>?_
 obtain ⟨c1,c2,c3,c4⟩:=hc
 by_cases q:k.length≤15
 ·exact Ox (A8 h1) c1 c2 q c3 (SW ih h1 c3 h2)
 ·rcases c4 with w|w
  ·exact al w q
  ·obtain ⟨Ff,hv⟩:=Wm ih w.2 h2
   exact OB (A8 h1) c1 c2 w.1 hv (c3.symm.trans (zo hv))
theorem Tc (ih:pD ag K n f) (h:QS f c ifs=some cc):Bt ag K n c ifs cc:=by
 induction ifs using bu with
 |nil=>cases (h:some Oe.none=some cc);exact D0
 |cons e r=>induction r with
  |nil=>exact bz (h:) λy h1=>Sk (ih h1).qx
  |cons _ _=>exact no h
theorem KX {t:Expr} {s:Scope} {i:E} {tg:Tg} (ih:pD ag K n f) (hs:j9 s=true) (h1:zl c (cT s.names)=some cap) (h2:f (et s) false eZ=some y) (hl:qM (et s) t=true) (h3:f c false it=some i) (h4:GY (et s) t=some tg) (h5:ov (iW c it i) t=true)
  (h:(QS f (et s) ifs).map (λcc=>E.comp cap (gk s.names).length tg (iW c it i) cc y)=some x):bC ag K n c (.ListComp eZ [⟨t,it,ifs,0⟩] s p) x∧∀w z j np sp,ww (.ListComp eZ [⟨t,it,ifs,0⟩] s p)=false→c.slot z=some j→i9 ag K n c w (.Assign [.Name z np] (.ListComp eZ [⟨t,it,ifs,0⟩] s p) sp) (.bD j x):=by
 obtain ⟨tgp,w1,w2⟩:=(ih h3).it.it
 have vG:=λ(k:Kx) cl C ex (_:eJ ag (k.comp s cl C ex) n)=>BJ ⟨hs,h1⟩ h4 hl k cl C ex
 exact bz h λcc h6=>⟨zw ⟨hs,h1⟩ (ih h3).H9 w1 vG (w2 t h5) (Tc ih h6) (ih h2).val,λw z j np sp O hj=>Kn hj ⟨hs,h1⟩ (ih h3).H9 w1 vG (w2 t h5) (Tc ih h6) (ih h2).val⟩
theorem KY {t mD:Expr} {s:Scope} {i i2:E} {tg AR:Tg} (ih:pD ag K n f) (hs:j9 s=true) (h1:zl c (cT s.names)=some cap) (h2:f (et s) false eZ=some y) (hl:qM (et s) t=true) (h3:f c false it=some i) (h4:GY (et s) t=some tg) (h5:ov (iW c it i) t=true)
  (rP:qM (et s) t2=true) (h6:f (et s) false mD=some i2) (h7:GY (et s) t2=some AR) (h8:ov (iW (et s) mD i2) t2=true):bC ag K n c (.ListComp eZ [⟨t,it,[],0⟩,⟨t2,mD,[],0⟩] s p) (.s9 cap (gk s.names).length tg (iW c it i) AR (iW (et s) mD i2) y):=by
 obtain ⟨tgp,w1,w2⟩:=(ih h3).it.it
 obtain ⟨abX,w3,w4⟩:=(ih h6).it.it
 exact HR ⟨hs,h1⟩ (ih h3).H9 (ih h6).H9 w1 w3 (λk cl C ex O=>BJ ⟨hs,h1⟩ h4 hl k cl C ex) (λk cl C ex O=>BJ ⟨hs,h1⟩ h7 rP k cl C ex) (w2 t h5) (w4 t2 h8) (ih h2).val
theorem KZ {a:Int} {P:Int→Prop} (h:(a==0&&b)=true) (k:b=true→P 0):P a:=by
 rw [c9]at h
 refine ae (dz h.1) ?_
 exact k h.2
theorem Ia {t mD:Expr} {G2:↑Expr} {gs:↑Comprehension} {a:Int} {P:↑Comprehension→Prop} (h:(a==0&&b&&ifs.isEmpty&&G2.isEmpty&&gs.isEmpty)=true) (k:b=true→P [⟨t,it,[],0⟩,⟨t2,mD,[],0⟩]):P (⟨t,it,ifs,0⟩::⟨t2,mD,G2,a⟩::gs):=by
 simp only [c9,List.isEmpty_iff]at h
 obtain ⟨⟨⟨⟨b1,b2⟩,rfl⟩,rfl⟩,rfl⟩:=h
 refine ae (dz b1) ?_
 exact k b2
abbrev FN (ag:F→cw) (K:fF) (n:Nat) (c:Cx) (e:Expr) (x:E):Prop:=bC ag K n c e x∧∀w z j np sp,ww e=false→c.slot z=some j→i9 ag K n c w (.Assign [.Name z np] e sp) (.bD j x)
theorem Pd {s:Scope} (ih:pD ag K n f) (h:G1 f c m (.ListComp eZ gens s p)=some x):
  FN ag K n c (.ListComp eZ gens s p) x:=by
 refine bn (h:) λhs g=>ah (g:) λcap h1 g=>ah (g:) λy h2 g=>?_
 clear h
 rcases gens with _|⟨⟨t,it,ifs,a⟩,gs⟩
 ·exact no g
 refine bn (g:) λha g=>ah (g:) λi h3 g=>ah (g:) λtg h4 g=>bn (g:) λh5 g=>?_
 refine KZ (P:=λa=>FN ag K n c (.ListComp eZ (⟨t,it,ifs,a⟩::gs) s p) x) ha λhl=>?_
 rcases gs with _|⟨⟨t2,mD,G2,a2⟩,gs⟩
 ·exact KX ih hs h1 h2 hl h3 h4 h5 (g:)
 refine bn (g:) λhb g=>ah (g:) λi2 h6 g=>ah (g:) λAR h7 g=>bn (g:) λh8 g=>?_
 refine Jt (a:=E.s9 cap (gk s.names).length tg (iW c it i) AR (iW (et s) mD i2) y) (g:) ?_
 refine Ia (P:=λl=>FN ag K n c (.ListComp eZ l s p) _) hb λrP=>?_
 exact ⟨KY ih hs h1 h2 hl h3 h4 h5 rP h6 h7 h8,λO O O O O q=>nomatch q⟩
theorem Pe (h:Ah k0=some d) (s:Str) (k:Nat) (q:Pos) (w:Expr.Constant k0 kk p= .Constant (.str s) k q):E.az d= .az (.str s):=by
 obtain ⟨rfl,_,_⟩:=Expr.Constant.inj w
 exact aC E.az (bb h).symm
theorem Pf (h:Ah k0=some d) (w:isNone (.Constant k0 kk p)=true):E.az d= .az .none:=by
 induction k0 using Const.casesOn<;>first|exact bL w|exact aC E.az (bb h).symm
theorem Wo (hK:pP ag K n) (ih:pD ag K n f):pD ag K n (G1 f):=by
 intro c m e x h
 induction e using ng with
 |Constant k0 kk p=>exact bz (h:) λd h1=> .plain (vq h1) (yk (vq h1) λO O=>rfl) (iy H (vq h1)) (λO O=>rfl) (λO=>rfl) (λO O=>rfl) (Pe h1) (Pf h1) (λO O O=>rfl)
 |Name z p=>exact bz (h:) λi h1=> .vl (yg h1) (iy H (yg h1)) (λO O=>rfl) H
 |Tuple es kk p=>
  have w:bC ag K n c (.Tuple es kk p) x:=bn (h:) λq h=>bz (h:) λxs h1=>Od (by refine ae ((Aq ih h1).2.2) ?_;exact q) (Aq ih h1).1
  exact .vl w (iy H w) (λO O=>rfl) H
 |List es p=>
  have w:bC ag K n c (.List es p) x:=bn (h:) λq h=>bz (h:) λxs h1=>Of (by refine ae ((Aq ih h1).2.2) ?_;exact q) (Aq ih h1).1
  exact .vl w (iy H w) (λO O=>rfl) H
 |Dict ks vs p=>exact .vl (H' ih h) (iy H (H' ih h)) (λO O=>rfl) H
 |BinOp a op b p=>
  have w:bC ag K n c (.BinOp a op b p) x:=ah (h:) λo h1 h=>ah (h:) λy h2 h=>bz (h:) λz h3=>Rk h1 (ih h2).val (ih h3).val
  exact .vl w (iy H w) (λO O=>rfl) H
 |UnaryOp op a p=>
  induction op with
  |Not=>exact bz (h:) λy h1=> .ts ⟨Oi (ih h1).val,Oj (ih h1).qx⟩ rfl rfl
  |USub=>
   refine bz (h:) λi h1=>?_
   obtain ⟨i,k,q,rfl⟩:=i
   exact .vl Hk (iy H Hk) (λO O=>rfl) H
  |_=>exact no h
 |BoolOp op es p=>
  induction op with
  |And=>exact bz (h:) λxs h1=> .ts ⟨Om (FK ih h1).1,On (FK ih h1).2⟩ rfl rfl
  |Or=>exact bz (h:) λxs h1=> .ts ⟨Rn (FK ih h1).1,Ro (FK ih h1).2⟩ rfl rfl
 |IfExp t a b p=>exact ah (h:) λy h1 h=>ah (h:) λz h2 h=>bz (h:) λw h3=> .ts ⟨Og (ih h1).qx (ih h2).val (ih h3).val,Oh (ih h1).qx (ih h2).qx (ih h3).qx⟩ rfl rfl
 |Compare l ve rs p=>exact .ts (Ta ih h) H rfl
 |Subscript e i p=>
  have w:bC ag K n c (.Subscript e i p) x:=by
   induction i using ng with
   |Slice lo hi st q=>exact ah (h:) λy h1 h=>ah (h:) λa h2 h=>ah (h:) λb h3 h=>bz (h:) λs h4=>Ou (ih h1).val (KW ih h2) (KW ih h3) (KW ih h4)
   |_=>exact Tb ih h
  exact .vl w (iy H w) (λO O=>rfl) H
 |Call g es ks p=>
  induction ks with
  |cons _ _=>exact no h
  |nil=>induction g using ng with
   |Name z np=>exact .vl (BF hK ih h) (S0 ih h (BF hK ih h)) (λO O=>rfl) H
   |Attribute o name ap=>exact .vl (BG ih h) (iy H (BG ih h)) (λO O=>rfl) H
   |_=>exact no h
 |ListComp eZ gens s p=>
  have w:=Pd ih h
  exact ⟨w.1,yk w.1 λO O=>rfl,λO O=>rfl,λO=>rfl,λO O=>rfl,nl H,nn H,iy H w.1,(λq=>nomatch q),w.2⟩
 |_=>exact no h
theorem Td (hK:pP ag K n):∀N,pD ag K n (cE N)
 |0=>λh=>no h
 |N+1=>Wo hK (Td hK N)
end
section
variable {ag:F→cw} {f:FE} {g:Stmt→Option S}
noncomputable abbrev Wp (ag:F→cw) (K:fF) (n:Nat) (c:Cx) (w:Nat) (g:Stmt→Option S):Prop:=∀{st:Stmt} {x:S},g st=some x→i9 ag K n c w st x
theorem xd (ih:Wp ag K n c w g):∀{xs:Ss},EX g CP=some xs→kO ag K n c w CP xs:=by
 induction CP with
 |nil=>exact λ{xs} h=>by cases (h:some Ss.nil=some xs);exact VS
 |cons st CP dS=>exact λ{xs} h=>ah (h:) λx h1 h=>bz (h:) λl h2=>RT (ih h1) (dS h2)
theorem Te {t v:Expr} {x:S} (hE:pD ag K n f) (h:XJ f c t v=some x):i9 ag K n c w (.Assign [t] v p) x:=by
 cases t with
 |Name z np=>exact AP (h:) λq h=>ah (h:) λi h1 h=>bz (h:) λe h2=>(hE h2).bD _ _ _ _ _ (Bool.not_eq_true _▸q) h1
 |Tuple es kk np=>
  refine AP (h:) λq h=>ah (h:) λl h1 h=>bn (h:) λkZ h=>bz (h:) λe h2=>?_
  rw [wf,not_or]at q
  refine Kf ((hE h2).sw (Bool.not_eq_true _▸q.2)) (by simpa using q.1) kZ (λk cn=>?_) (hE h2).val
  exact BH cn.cx.slots h1 λO O x O O hx=>cn.pT x hx
 |Subscript r i np=>exact AP (h:) λq h=>ah (h:) λy h1 h=>ah (h:) λz h2 h=>bz (h:) λe h3=>ON ((hE h3).sw (Bool.not_eq_true _▸q)) (hE h1).val (hE h2).val (hE h3).val
 |_=>exact no h
theorem Tf {e:Expr} {m:YW e} {x:S} (hE:pD ag K n f) (h:QU f c m=some x):i9 ag K n c w (.Expr e p) x:=by
 obtain ⟨o,name,es,ap,q,rfl⟩:=m
 refine bn (h:) λhc h=>ah (h:) λy h1 h=>?_
 rw [c9]at hc
 cases es with
 |nil=>
  refine bn (h:) λq h=>?_
  refine dg (bb h) ?_
  cases dz q
  exact OP hc.1 hc.2 (hE h1).val
 |cons e r=>induction r with
  |cons _ _=>exact no h
  |nil=>
   refine ah (h:) λz h2 h=>?_
   have hs:dP [e]:=⟨(hE h2).uU,trivial⟩
   have h:(if name==("append":Str)then some (S.jh y z)else if name==("extend":Str)then some (.ext y z)else none)=some x:=h
   split at h
   ·rename_i q
    refine dg (bb h) ?_
    refine ae (dz q) ?_
    exact OO hc.1 hc.2 hs (hE h1).val (hE h2).val
   ·refine bn h λq h=>?_
    refine dg (bb h) ?_
    refine ae (dz q) ?_
    exact OR hc.1 hc.2 hs (hE h1).val (hE h2).val
theorem Th {t:Expr} {b:↑Stmt} {tg:Tg} {z:Ss} (ht:∀k,nH ag n c k→jl k t tg) (hi:Pk ag K n c it y) (hb:kO ag K n c w b z) (ho:ov (iW c it y) t=true):
  i9 ag K n c w (.For t it b [] p) (.ej tg (iW c it y) z):=by
 cases hf:Kj (iW c it y)with
 |true=>
  obtain ⟨tgp,w1,w2⟩:=hi.it.it
  exact OX hf hi.H9 w1 hb ht (w2 t ho)
 |false=>
  cases hy:iW c it y with
  |sU e=>
   obtain ⟨np,e',q,rfl,hg,hs,he⟩:=hi.it.sU e hy
   exact OY hg hs he hb ht
  |_=>rw [hy]at hf;cases hf
theorem Ti {b:↑Stmt} {hs:↑ExceptHandler} {x:S} (hK:pP ag K n)
  (h0:((XK b).bind λx=>(wx x.1).bind λy=>(QV hs).bind λh=>
   if h.cls==("CompileFault":Str)&&c.glob h.cls&&h.x==h.y&&h.NN==("why":Str)&&c.names.lookup h.x==some .local&&h.x !=("__debug__":Str)then
   match y.es with
   |[z]=>(Mq z).bind λz=>(c.fn y.f).bind λq=>(c.slot z.1).map λi=> .pM q (.var i)
   |_=>none
   else none)=some x):i9 ag K n c w (.Try b hs [] [] p) x:=by
 refine ah h0 λe q1 h1=>ah (h1:) λcl q2 h2=>ah (h2:) λhd q3 h3=>bn (h3:) λhc h=>?_
 clear q1 q2 q3 h1 h2 h3 h0
 obtain ⟨e,ep,rfl⟩:=e
 obtain ⟨f,es,np,cp,sX⟩:=cl
 obtain ⟨cls,x0,y0,NN,kp,yp,ap,rp,hp,rfl⟩:=hd
 have sX:e=_:=sX
 refine ae sX ?_
 simp only [c9,beq_iff_eq,bne_iff_ne]at hc
 obtain ⟨⟨⟨⟨⟨c1,c2⟩,c3⟩,c4⟩,c5⟩,c6⟩:=hc
 refine ae c4 ?_
 cases es with
 |nil=>exact no h
 |cons z r=>induction r with
  |cons _ _=>exact no h
  |nil=>
   refine ah (h:) λz' O h=>ah (h:) λq h1 h=>bz (h:) λi h2=>?_
   obtain ⟨z',zp,rfl⟩:=z'
   exact Pc hK h1 h2 c1 c2 c3.symm c5 (by simpa using c6)
theorem Wq (hK:pP ag K n) (hE:pD ag K n f) (ih:Wp ag K n c w g):Wp ag K n c w (cS1 f g c):=by
 intro st x h
 cases st with
 |Assign ts v p=>cases ts with
  |nil=>exact no h
  |cons t r=>induction r with
   |nil=>exact Te (f:=f) hE h
   |cons _ _=>exact no h
 |AugAssign t op v p=>induction op with
  |Sub=>
   refine ah (h:) λz O h=>ah (h:) λi h1 h=>bz (h:) λe h2=>?_
   obtain ⟨z,np,rfl⟩:=z
   exact OH h1 (hE h2).val
  |_=>exact no h
 |If t a b p=>exact ah (h:) λy h1 h=>ah (h:) λz h2 h=>bz (h:) λu h3=>RU (hE h1).qx (xd ih h2) (xd ih h3)
 |For t it b e p=>induction e with
  |cons _ _=>exact no h
  |nil=>exact ah (h:) λtg h1 h=>ah (h:) λy h2 h=>bn (h:) λho h=>bz (h:) λz h3=>Th (λk cn=>aad cn.cx.slots h1 cn.pT) (hE h2) (xd ih h3) ho
 |While t b e p=>induction e with
  |cons _ _=>exact no h
  |nil=>exact ah (h:) λy h1 h=>bz (h:) λz h2=>HN (hE h1).qx (xd ih h2)
 |Return e p=>induction e with
  |none=>cases (h:some (S.ret .none)=some x);exact J6
  |some e=>exact bz (h:) λy h1=>OE (hE h1).val
 |Raise e z p=>induction e with
  |none=>exact no h
  |some e=>induction z with
   |some _=>exact no h
   |none=>
    refine ah (h:) λcl O h=>bn (h:) λhc h=>?_
    rw [c9]at hc
    obtain ⟨nm,es,np,cp,rfl⟩:=cl
    cases es with
    |nil=>exact no h
    |cons e r=>induction r with
     |nil=>exact bz (h:) λy h1=>H8 (dz hc.1) hc.2 ⟨(hE h1).uU,trivial⟩ (hE h1).val
     |cons _ _=>exact no h
 |Continue p=>cases (h:some S.cont=some x);exact J5
 |Expr e p=>
  have h:(match Ju e with|some m=>QU f c m|none=>(wx e).bind λO=>(f c false e).map .dC)=some x:=h
  cases hm:Ju e with
  |some m=>rw [hm]at h;exact Tf hE h
  |none=>
   rw [hm]at h
   refine ah (h:) λcl O h=>bz (h:) λy h1=>?_
   obtain ⟨_,_,_,_,rfl⟩:=cl
   exact J7 (λO O=>rfl) (hE h1).val
 |Try b hs e cC p=>induction e with
  |cons _ _=>exact no h
  |nil=>induction cC with
   |cons _ _=>exact no h
   |nil=>exact Ti hK h
 |_=>exact no h
theorem Tj (hK:pP ag K n):∀N,Wp ag K n c w (cS (cE 60) c N)
 |0=>λh=>no h
 |N+1=>Wq hK (Td hK 60) (Tj hK N)
theorem M3 (hK:pP ag K n) {xs:Ss} (h:EX (cS (cE 60) c 60) CP=some xs):kO ag K n c w CP xs:=xd (Tj hK 60) h
end
set_option backward.match.sparseCases true
abbrev hV:Str:=⇑"null"
abbrev Ib:Str:=⇑"?"
abbrev vM:Str:=⇑"|"
abbrev nJ:Str:=⇑"A"
abbrev q_Z:Str:=⇑"Z"
abbrev q_:Str:=⟨#[]⟩
abbrev jP:Str:=⇑"lit"
abbrev pW:Str:=⇑"template"
abbrev bN:Str:=⇑"var"
abbrev kJ:Str:=⇑"varvar"
abbrev tN:Str:=⇑"array"
abbrev cr:Str:=⇑"list"
abbrev gU:Str:=⇑"dim"
abbrev k7:Str:=⇑"sprop"
abbrev ut:Str:=⇑"cconst"
abbrev cQ:Str:=⇑"assign"
abbrev dB:Str:=⇑"assignref"
abbrev d9:Str:=⇑"assignop"
abbrev fS:Str:=⇑"incdec"
abbrev M4:Str:=⇑"un"
abbrev FO:Str:=⇑"bin"
abbrev FP:Str:=⇑"and"
abbrev M5:Str:=⇑"or"
abbrev pX:Str:=⇑"coalesce"
abbrev Ar:Str:=⇑"cast"
abbrev rW:Str:=⇑"silence"
abbrev xe:Str:=⇑"isset"
abbrev xf:Str:=⇑"empty"
abbrev m7:Str:=⇑"instanceof"
abbrev xg:Str:=⇑"print"
abbrev xh:Str:=⇑"clone"
abbrev xi:Str:=⇑"throw"
abbrev xj:Str:=⇑"match"
abbrev f7:Str:=⇑"yield"
abbrev dk:Str:=⇑"yieldfrom"
abbrev gQ:Str:=⇑"name"
abbrev cU:Str:=⇑"call"
abbrev jv:Str:=⇑"new"
abbrev cy:Str:=⇑"mcall"
abbrev gK:Str:=⇑"scall"
abbrev dH:Str:=⇑"closure"
abbrev ey:Str:=⇑"arrow"
abbrev iG:Str:=⇑"func"
abbrev pa:Str:=⇑"param"
abbrev c7:Str:=⇑"expr"
abbrev ow:Str:=⇑"echo"
abbrev As:Str:=⇑"html"
abbrev nK:Str:=⇑"block"
abbrev lb:Str:=⇑"while"
abbrev jw:Str:=⇑"dowhile"
abbrev rX:Str:=⇑"for"
abbrev ci:Str:=⇑"foreach"
abbrev de:Str:=⇑"switch"
abbrev cL:Str:=⇑"break"
abbrev bS:Str:=⇑"continue"
abbrev b8:Str:=⇑"return"
abbrev ee:Str:=⇑"global"
abbrev eC:Str:=⇑"unset"
abbrev fP:Str:=⇑"try"
abbrev gc:Str:=⇑"function"
abbrev gq:Str:=⇑"class"
abbrev rY:Str:=⇑"declare"
abbrev iH:Str:=⇑"decl"
abbrev ja:Str:=⇑"method"
abbrev Tk:Str:=⇑"use"
abbrev M6:Str:=⇑"case"
abbrev lz:Str:=⇑"-"
abbrev vN:Str:=⇑"s"
abbrev tO:Str:=⇑"e"
abbrev Wt:Str:=⇑"k"
abbrev sL:Str:=⇑"ee"
abbrev Yd:Str:=⇑"e-"
abbrev Tl:Str:=⇑"-ee"
abbrev Tm:Str:=⇑"--e"
abbrev Ic:Str:=⇑"-e"
abbrev abj:Str:=⇑"em"
abbrev Ie:Str:=⇑"ea"
abbrev FQ:Str:=⇑"eea-"
abbrev Tn:Str:=⇑"eea"
abbrev aae:Str:=⇑"e--"
abbrev Pg:Str:=⇑"-s-s--"
abbrev K0:Str:=⇑"--e----"
abbrev To:Str:=⇑"es"
abbrev Tp:Str:=⇑"se"
abbrev M7:Str:=⇑"ssss"
abbrev Ig:Str:=⇑"eee-s"
abbrev Ye:Str:=⇑"eb"
abbrev aaf:Str:=⇑"scs"
abbrev Tq:Str:=⇑"--"
abbrev K1:Str:=⇑"------s"
abbrev pY:Str:=⇑"if"
abbrev abk:Str:=⇑"bs"
abbrev aag:Str:=⇑"eee"
abbrev dO:Str:=⇑"prop"
abbrev Wu:Str:=⇑"---e"
abbrev aah:Str:=⇑"ee-"
abbrev bV:Str:=⇑"static"
abbrev gZ:Str:=⇑"const"
abbrev mL:Str:=⇑"v"
abbrev rZ:Str:=⇑"a"
abbrev xk:Str:=⇑"m"
abbrev q_b:Str:=⇑"b"
abbrev K2:Str:=⇑"c"
abbrev aai:Str:=⇑"--s"
abbrev qV:Str:=⇑"result"
abbrev ij:Str:=⇑"open"
abbrev gE:Str:=⇑"kept"
abbrev qy:Str:=⇑"top"
abbrev bH:Str:=⇑"this"
abbrev am:Str:=⇑"Cannot re-assign $this"
abbrev jx:Str:=⇑"loop"
abbrev FR:Str:=⇑"'"
abbrev dm:Str:=⇑"' not in the 'loop' or 'switch' context"
abbrev jy:Str:=⇑"finally"
abbrev cj:Str:=⇑"jump out of a finally block is disallowed"
abbrev jm:Str:=⇑"Cannot '"
abbrev pZ:Str:=⇑"' "
abbrev yB:Str:=⇑" level"
abbrev km:Str:=⇑"never"
abbrev dZ:Str:=⇑"A never-returning function must not return"
abbrev kK:Str:=⇑"void"
abbrev eg:Str:=⇑"A void function must not return a value"
abbrev d6:Str:=⇑"A function with return type must return a value"
abbrev fu:Str:=⇑"Redefinition of parameter $"
abbrev cz:Str:=⇑"Cannot use $this as parameter"
abbrev bI:Str:=⇑"Only the last parameter can be variadic"
abbrev bA:Str:=⇑"Variadic parameter cannot have a default value"
abbrev f8:Str:=⇑"__construct"
abbrev bT:Str:=⇑"Cannot declare promoted property outside a constructor"
abbrev bU:Str:=⇑"Cannot declare promoted property in an abstract/interface constructor"
abbrev ck:Str:=⇑"Cannot declare variadic promoted property"
abbrev r7:Str:=⇑"generator"
abbrev tP:Str:=⇑"iterator"
abbrev pc:Str:=⇑"traversable"
abbrev kn:Str:=⇑"iterable"
abbrev pd:Str:=⇑"mixed"
abbrev mM:Str:=⇑"object"
abbrev aG:Str:=⇑"Generator return type must be a supertype of Generator, Iterator, Traversable, or iterable, "
abbrev bO:Str:=⇑" return type not permitted"
abbrev br:Str:=⇑"Cannot use $this as lexical variable"
abbrev fG:Str:=⇑"Cannot use variable $"
abbrev qW:Str:=⇑" twice"
abbrev c8:Str:=⇑"Cannot use lexical variable $"
abbrev e8:Str:=⇑" as a parameter name"
abbrev fg:Str:=⇑"Cannot use $this as global variable"
abbrev gr:Str:=⇑"Cannot unset $this"
abbrev bE:Str:=⇑"Cannot use $this as static variable"
abbrev bf:Str:=⇑"Duplicate declaration of static variable $"
abbrev aH:Str:=⇑"Cannot assign reference to non referenceable value"
abbrev da:Str:=⇑"Cannot create Closure for new expression"
abbrev cq:Str:=⇑"Cannot combine nullsafe operator with Closure creation"
abbrev db:Str:=⇑"Switch statements may only contain one default clause"
abbrev dc:Str:=⇑"The \"yield\" expression can only be used inside a function"
abbrev abl:Str:=⇑"wy"
abbrev abm:Str:=⇑"sw"
abbrev aaj:Str:=⇑"uwl"
abbrev Wv:Str:=⇑"dyfw"
abbrev abn:Str:=⇑"fe"
abbrev Tr:Str:=⇑"w"
abbrev q_i:Str:=⇑"i"
abbrev xl:Str:=⇑"n"
abbrev Ph:Str:=⇑"u"
abbrev q_t:Str:=⇑"t"
abbrev CU:Str:=⇑"K"
abbrev eW:Str:=⇑"{closure}"
abbrev gv:Str:=⇑"public"
abbrev abo:Str:=⇑"we"
abbrev sa:Str:=⇑"x"
abbrev abp:Str:=⇑"df"
abbrev Ts:Str:=⇑"d"
abbrev abq:Str:=⇑"ib"
abbrev q_q:Str:=⇑"q"
abbrev abr:Str:=⇑"cy"
abbrev Ww:Str:=⇑"g"
abbrev Wx:Str:=⇑"C"
abbrev mN:Str:=⇑"int"
abbrev pe:Str:=⇑"p0"
abbrev tQ:Str:=⇑"f"
abbrev zQ:Str:=⇑"y"
abbrev kq:Str:=⇑"__CONSTRUCT"
abbrev Tt:Str:=⇑"zxy"
abbrev K3:Str:=⇑"xyz"
abbrev aak:Str:=⇑"."
abbrev ox:Str:=⇑"Generator"
abbrev p7:Str:=⇑"ITERATOR"
abbrev Pj:Str:=⇑"B"
abbrev mf:Str:=⇑"Traversable"
abbrev M8:Str:=⇑"d0"
abbrev Ih:Str:=⇑"p"
abbrev Yg:Str:=⇑"p1"
abbrev Yh:Str:=⇑"p2"
abbrev Tu:Str:=⇑"+"
abbrev Wy:Str:=⇑"++"
abbrev q_T:Str:=⇑"T"
abbrev Tv:Str:=⇑"final"
abbrev q_D:Str:=⇑"D"
abbrev K4:Str:=⇑"private"
abbrev Ii:Str:=⇑"L"
abbrev q_r:Str:=⇑"r"
abbrev zR:Str:=⇑"strict_types"
abbrev jz:Str:=⇑"wedfsibtcyumnla"
abbrev m8:Str:=⇑"type"
abbrev xm:Str:=⇑"F"
abbrev BL:Str:=⇑" levels"
abbrev FS:Fn:=⟨1,1,{.aU (.and {.au .eq (.b1 .len ↑0) ↥2, .au .fj ⇑hV ↑0}) {.aU (.au .eq (.aw ↑0 ↥0) ⇑hV) {.ret (.some (.aE .add ⇑Ib (.aw ↑0 ↥1)))} .nil, .ret (.some (.aE .add ⇑Ib (.aw ↑0 ↥0)))} .nil, .ret (.some (.b2 .join ⇑vM ↑0))}⟩
abbrev Tw:Fn:=⟨1,3,{.bD 1 (.aD true .nil), .ej (.dj 2) (.seq ↑0) {.jh ↑1 (.ite (.xY ⇑nJ ↑2 ⇑q_Z) (.b1 .EM (.aE .add (.b1 .EN ↑2) ↥32)) ↑2)}, .ret (.some (.b2 .join ⇑q_ ↑1))}⟩
abbrev uV:Fn:=⟨0,0,{.ret (.some (.eO [jP,pW,bN,kJ,tN,cr,gU,k7,ut,cQ,dB,d9,fS,M4,FO,FP,M5,pX,Ar,rW,xe,xf,m7,xg,xh,xi,xj,f7,dk,gQ,cU,jv,cy,gK,dH,ey,iG,pa,c7,ow,As,nK,lb,jw,rX,ci,de,cL,bS,b8,ee,eC,fP,gc,gq,rY,iH,ja,Tk,M6] {⇑lz,⇑vN,⇑lz,⇑tO,⇑Wt,⇑Wt,⇑sL,⇑sL,⇑Yd,⇑sL,⇑sL,⇑Tl,⇑Tm,⇑Ic,⇑Tl,⇑sL,⇑sL,⇑sL,⇑Ic,⇑tO,⇑vN,⇑tO,⇑sL,⇑tO,⇑tO,⇑tO,⇑abj,⇑sL,⇑tO,⇑lz,⇑Ie,⇑Ie,⇑FQ,⇑Tn,⇑aae,⇑Yd,⇑Pg,⇑K0,⇑tO,⇑vN,⇑lz,⇑vN,⇑To,⇑Tp,⇑M7,⇑Ig,⇑Ye,⇑lz,⇑lz,⇑tO,⇑lz,⇑vN,⇑aaf,⇑tO,⇑tO,⇑Tq,⇑K1,⇑Ic,⇑Tq,⇑Ic}))}⟩
abbrev K5:Fn:=⟨1,2,{.bD 1 (.aw ↑0 ↥0), .aU (.au .eq ↑1 ⇑pY) {.ret (.some (.ite (.au .eq (.b1 .len ↑0) ↥3) ⇑abk ⇑aag))} .nil, .aU (.au .eq ↑1 ⇑dO) {.ret (.some (.ite (.au .eq (.b1 .len ↑0) ↥5) ⇑Wu ⇑aah))} .nil, .aU (.or {.au .eq ↑1 ⇑bV, .and {.au .eq ↑1 ⇑gZ, .call .AI {.aw ↑0 ↥1}}}) {.ret (.some (.aE .mul ⇑mL (.aE .sub (.b1 .len ↑0) ↥1)))} .nil, .aU (.au .eq ↑1 ⇑gZ) {.ret (.some (.ite (.au .eq (.b1 .len ↑0) ↥4) ⇑Tm ⇑lz))} .nil, .ret (.some (.aw (.call .nj .nil) ↑1))}⟩
abbrev K6:Fn:=⟨1,1,{.ret (.some (.and {.b1 .nU ↑0, .au .eq (.b1 .len ↑0) ↥2, .b1 .nU (.aw ↑0 ↥1)}))}⟩
abbrev CV:Fn:=⟨1,1,{.ret (.some (.aw (.eO [Wt,rZ,xk,q_b,K2,mL] {⇑sL,⇑tO,⇑Tp,⇑To,⇑aai,⇑Ic}) ↑0))}⟩
abbrev xo:Fn:=⟨3,7,{.ej (.dj 3) (.range (.b1 .len ↑0)) {.qJ [4,5] (.J {.aw ↑0 ↑3, .aw ↑1 ↑3}), .aU (.or {.au .kW ↑5 (.az .none), .au .eq ↑4 ⇑lz}) (.cons .cont .nil) .nil, .aU (.au .eq ↑4 ⇑tO) {.aU (.au .ne (.aw ↑5 ↥0) ⇑gQ) {.jh ↑2 ↑5} .nil} {.aU (.au .eq ↑4 ⇑vN) {.ext ↑2 ↑5} {.aU (.au .eq ↑4 ⇑mL) {.dC (.call .fx {.call .fQ {↑4},↑5,↑2})} {.ej (.dj 6) (.seq ↑5) {.aU (.au .dw ↑6 (.az .none)) {.dC (.call .fx {.call .fQ {↑4},↑6,↑2})} .nil}}}}}}⟩
abbrev Ij:Fn:=⟨1,2,{.bD 1 (.aD true .nil), .dC (.call .fx {.call .wl {↑0}, .oq ↑0 (.some ↥1) .none .none,↑1}), .ret (.some ↑1)}⟩
abbrev FT:Fn:=⟨2,3,{.bD 2 (.az .none), .aU (.and {.au .dw ↑0 (.az .none), .not (.aw ↑0 ↥6)}) {.bD 2 (.aw ↑0 ↥3)} .nil, .ret (.some (.eO [qV,ij,gE,qy,ey] {↑2, .aD true .nil, .aD true .nil, .au .kW ↑0 (.az .none),↑1}))}⟩
abbrev K7:Fn:=⟨1,1,{.ret (.some (.and {.au .dw ↑0 (.az .none), .au .eq (.aw ↑0 ↥0) ⇑bN, .au .eq (.aw ↑0 ↥1) ⇑bH}))}⟩
abbrev zS:Fn:=⟨1,2,{.aU (.call .nq {↑0}) {.dU ⇑am} .nil, .aU (.and {.au .dw ↑0 (.az .none), .au .eq (.aw ↑0 ↥0) ⇑cr}) {.ej (.dj 1) (.seq (.aw ↑0 ↥1)) {.aU (.au .dw ↑1 (.az .none)) {.dC (.call .dE {.aw ↑1 ↥1})} .nil}} .nil}⟩
abbrev m9:Fn:=⟨2,6,{.qJ [2,3] ↑0, .aU (.au .vc ⇑jx (.aw ↑1 ⇑ij)) {.dU (.aE .add (.aE .add ⇑FR ↑2) ⇑dm)} .nil, .bD 4 ↑3, .ej (.dj 5) (.sU (.aw ↑1 ⇑ij)) {.aU (.au .eq ↑5 ⇑jy) {.dU ⇑cj} .nil, .QB 4 ↥1, .aU (.au .eq ↑4 ↥0) {.ret .none} .nil}, .dU (.aE .add (.aE .add (.aE .add (.aE .add (.aE .add ⇑jm ↑2) ⇑pZ) (.b1 .str ↑3)) ⇑yB) (.ite (.au .eq ↑3 ↥1) ⇑q_ ⇑vN))}⟩
abbrev zT:Fn:=⟨2,3,{.bD 2 (.aw ↑1 ⇑qV), .aU (.au .kW ↑2 (.az .none)) {.ret .none} .nil, .aU (.au .eq ↑2 (.J {⇑km})) {.aU (.not (.aw ↑1 ⇑ey)) {.dU ⇑dZ} .nil} {.aU (.au .eq ↑2 (.J {⇑kK})) {.aU (.au .dw (.aw ↑0 ↥1) (.az .none)) {.dU ⇑eg} .nil} {.aU (.au .kW (.aw ↑0 ↥1) (.az .none)) {.dU ⇑d6} .nil}}}⟩
abbrev BM:Fn:=⟨3,6,{.bD 3 (.aw (.aw ↑0 ↥2) ↑1), .bD 4 (.aw ↑3 ↥1), .ej (.dj 5) (.seq (.oq (.aw ↑0 ↥2) .none (.some ↑1) .none)) {.aU (.au .eq (.aw ↑5 ↥1) ↑4) {.dU (.aE .add ⇑fu ↑4)} .nil}, .aU (.au .eq ↑4 ⇑bH) {.dU ⇑cz} .nil, .aU (.and {.au .gt ↑1 ↥0, .aw (.aw (.aw ↑0 ↥2) (.aE .sub ↑1 ↥1)) ↥5}) {.dU ⇑bI} .nil, .aU (.and {.aw ↑3 ↥5, .au .dw (.aw ↑3 ↥3) (.az .none)}) {.dU ⇑bA} .nil, .aU (.au .ne (.aw ↑3 ↥6) ⇑q_) {.aU (.or {.not ↑2, .au .ne (.call .lower {.aw ↑0 ↥1}) ⇑f8}) {.dU ⇑bT} .nil, .aU (.au .kW (.aw ↑0 ↥4) (.az .none)) {.dU ⇑bU} .nil, .aU (.aw ↑3 ↥5) {.dU ⇑ck} .nil} .nil}⟩
abbrev vO:Fn:=⟨1,2,{.aU (.or {.not (.aw ↑0 ↥6), .au .kW (.aw ↑0 ↥3) (.az .none)}) {.ret .none} .nil, .ej (.dj 1) (.seq (.aw ↑0 ↥3)) {.aU (.au .fj (.call .lower {↑1}) (.J {⇑r7,⇑tP,⇑pc,⇑kn,⇑pd,⇑mM})) {.ret .none} .nil}, .dU (.aE .add (.aE .add ⇑aG (.call .u9 {.aw ↑0 ↥3})) ⇑bO)}⟩
abbrev CW:Fn:=⟨1,4,{.bD 1 (.aD true .nil), .ej (.aO [2,3]) (.seq ↑0) {.aU (.au .eq ↑2 ⇑bH) {.dU ⇑br} .nil, .aU (.au .fj ↑2 ↑1) {.dU (.aE .add (.aE .add ⇑fG ↑2) ⇑qW)} .nil, .jh ↑1 ↑2}}⟩
abbrev uW:Fn:=⟨4,9,{.bD 4 (.call .j2 {↑0,↑3}), .ej (.dj 5) (.range (.b1 .len (.aw ↑0 ↥2))) {.dC (.call .lX {↑0,↑5,↑2}), .aU (.au .dw (.aw (.aw (.aw ↑0 ↥2) ↑5) ↥3) (.az .none)) {.dC (.call .gG {.aw (.aw (.aw ↑0 ↥2) ↑5) ↥3,↑4})} .nil}, .dC (.call .hY {↑0}), .ej (.aO [6,7]) (.seq ↑1) {.ej (.dj 8) (.seq (.aw ↑0 ↥2)) {.aU (.au .eq (.aw ↑8 ↥1) ↑6) {.dU (.aE .add (.aE .add ⇑c8 ↑6) ⇑e8)} .nil}}, .aU (.au .dw (.aw ↑0 ↥4) (.az .none)) {.dC (.call .fM {.aw ↑0 ↥4,↑4})} .nil}⟩
abbrev zU:Fn:=⟨3,3,{.jh (.aw ↑1 ⇑ij) ↑2, .dC (.call .fM {↑0,↑1}), .QC (.aw ↑1 ⇑ij)}⟩
abbrev xq:Fn:=⟨2,5,{.dC (.call .fM {.aw ↑0 ↥1,↑1}), .ej (.aO [2,3,4]) (.seq (.aw ↑0 ↥2)) {.aU (.au .eq ↑3 ⇑bH) {.dU ⇑am} .nil, .dC (.call .fM {↑4,↑1})}, .aU (.au .dw (.aw ↑0 ↥3) (.az .none)) {.dC (.call .fW {.aw ↑0 ↥3,↑1,⇑jy})} .nil}⟩
abbrev BN:Fn:=⟨2,5,{.aU (.and {.au .eq (.aw ↑0 ↥0) ⇑ee, .au .fj ⇑bH (.aw ↑0 ↥1)}) {.dU ⇑fg} .nil, .aU (.au .eq (.aw ↑0 ↥0) ⇑eC) {.ej (.dj 2) (.seq (.aw ↑0 ↥1)) {.aU (.call .nq {↑2}) {.dU ⇑gr} .nil}} .nil, .aU (.au .eq (.aw ↑0 ↥0) ⇑bV) {.ej (.aO [3,4]) (.seq (.oq ↑0 (.some ↥1) .none .none)) {.aU (.au .eq ↑3 ⇑bH) {.dU ⇑bE} .nil, .aU (.au .fj ↑3 (.aw ↑1 ⇑gE)) {.dU (.aE .add ⇑bf ↑3)} .nil, .jh (.aw ↑1 ⇑gE) ↑3}} .nil}⟩
abbrev CX:Fn:=⟨1,2,{.ej (.dj 1) (.seq (.aw ↑0 ↥1)) {.aU (.and {.au .dw ↑1 (.az .none), .or {.aw ↑1 ↥2, .and {.au .eq (.aw (.aw ↑1 ↥1) ↥0) ⇑cr, .call .j5 {.aw ↑1 ↥1}}}}) {.ret (.some (.az (.bool true)))} .nil}, .ret (.some (.az (.bool false)))}⟩
abbrev CY:Fn:=⟨2,3,{.bD 2 (.or {.au .fj (.aw ↑1 ↥0) (.J {⇑bN,⇑kJ,⇑gU,⇑k7}), .and {.au .eq (.aw ↑1 ↥0) ⇑dO, .not (.aw ↑1 ↥3)}}), .aU (.and {.au .eq (.aw ↑0 ↥0) ⇑cr, .not ↑2, .call .j5 {↑0}}) {.dU ⇑aH} .nil}⟩
abbrev yC:Fn:=⟨1,1,{.aU (.au .eq (.aw ↑0 ↥0) ⇑cQ) {.dC (.call .dE {.aw ↑0 ↥1}), .dC (.call .pJ {.aw ↑0 ↥1, .aw ↑0 ↥2})} {.aU (.au .eq (.aw ↑0 ↥0) ⇑dB) {.dC (.call .dE {.aw ↑0 ↥1})} {.aU (.au .eq (.aw ↑0 ↥0) ⇑d9) {.dC (.call .dE {.aw ↑0 ↥2})} {.aU (.au .eq (.aw ↑0 ↥0) ⇑fS) {.dC (.call .dE {.aw ↑0 ↥3})} {.aU (.au .eq (.aw ↑0 ↥0) ⇑ci) {.dC (.call .dE {.aw ↑0 ↥2}), .dC (.call .dE {.aw ↑0 ↥3})} .nil}}}}}⟩
abbrev nY:Fn:=⟨1,1,{.EO (.or {.au .fj (.aw ↑0 ↥0) (.J {⇑gU,⇑dO,⇑cy}), .and {.au .eq (.aw ↑0 ↥0) ⇑cU, .au .ne (.aw (.aw ↑0 ↥1) ↥0) ⇑gQ}}) {.aU (.and {.au .fj (.aw ↑0 ↥0) (.J {⇑dO,⇑cy}), .aw ↑0 (.az (.int (-1)))}) {.ret (.some (.az (.bool true)))} .nil, .bD 0 (.aw ↑0 ↥1)}, .ret (.some (.az (.bool false)))}⟩
abbrev CZ:Fn:=⟨1,2,{.aU (.and {.au .eq (.aw ↑0 ↥0) ⇑jv, .au .kW (.aw ↑0 ↥2) (.az .none)}) {.dU ⇑da} .nil, .bD 1 (.eO [cU,cy,gK] {↥2,↥3,↥3}), .aU (.and {.au .fj (.aw ↑0 ↥0) ↑1, .au .kW (.aw ↑0 (.aw ↑1 (.aw ↑0 ↥0))) (.az .none), .call .mZ {↑0}}) {.dU ⇑cq} .nil}⟩
abbrev zV:Fn:=⟨1,1,{.aU (.au .gt (.b1 .len (.comp [] 2 (.aO [0,1]) (.seq (.aw ↑0 ↥2)) (.some (.au .kW ↑0 (.az .none))) ↑0)) ↥1) {.dU ⇑db} .nil}⟩
abbrev tR:Fn:=⟨1,2,{.ej (.dj 1) (.seq (.aw ↑0 ↥7)) {.aU (.au .eq (.aw ↑1 ↥0) ⇑ja) {.dC (.call .j3 {.aw ↑1 ↥2, .J .nil, .az (.bool true), .az (.bool false)})} {.dC (.call .fM {.call .jJ {↑1}, .call .j2 {.az .none, .az (.bool false)}})}}}⟩
abbrev lf:Fn:=⟨2,3,{.bD 2 (.aw ↑0 ↥0), .dC (.call .fe {↑0}), .dC (.call .iB {↑0}), .aU (.au .fj ↑2 (.J {⇑cL,⇑bS})) {.dC (.call .nr {↑0,↑1})} {.aU (.au .eq ↑2 ⇑b8) {.dC (.call .kU {↑0,↑1})} {.aU (.and {.au .fj ↑2 (.J {⇑f7,⇑dk}), .aw ↑1 ⇑qy}) {.dU ⇑dc} {.aU (.au .fj ↑2 (.J {⇑ee,⇑bV,⇑eC})) {.dC (.call .iA {↑0,↑1})} .nil}}}, .aU (.au .eq ↑2 ⇑dH) {.dC (.call .pI {.aw ↑0 ↥2}), .dC (.call .j3 {.aw ↑0 ↥1, .aw ↑0 ↥2, .az (.bool false), .az (.bool false)})} {.aU (.au .eq ↑2 ⇑ey) {.dC (.call .j3 {.aw ↑0 ↥1, .J .nil, .az (.bool false), .az (.bool true)})} {.aU (.au .eq ↑2 ⇑iG) {.dC (.call .j3 {↑0, .J .nil, .az (.bool false), .az (.bool false)})} {.aU (.au .eq ↑2 ⇑iH) {.dC (.call .on {↑0})} {.aU (.au .eq ↑2 ⇑fP) {.dC (.call .rF {↑0,↑1})} {.aU (.au .fj ↑2 (.J {⇑lb,⇑jw,⇑rX,⇑ci,⇑de})) {.aU (.au .eq ↑2 ⇑de) {.dC (.call .jK {↑0})} .nil, .dC (.call .fW {.call .jJ {↑0},↑1,⇑jx})} {.dC (.call .fM {.call .jJ {↑0},↑1})}}}}}}}⟩
abbrev FU:Fn:=⟨2,3,{.ej (.dj 2) (.seq ↑0) {.dC (.call .gG {↑2,↑1})}}⟩
abbrev zW:Fn:=⟨1,1,{.dC (.call .fM {↑0, .call .j2 {.az .none, .az (.bool false)}})}⟩
abbrev Ik:Fn:=⟨0,0,{.ret (.some (.aD false {.J {⇑abl,↥0,↥0,↥0,↥0}, .J {⇑abm,↥0,↥1,↥2,↥0}, .J {⇑aaj,↥0,↥0,↥0,↥0}, .J {⇑Wv,↥0,↥1,↥1,↥0}, .J {⇑abn,↥0,↥0,↥1,↥0}, .J {⇑q_,↥1,↥1,↥1,↥0}, .J {⇑Tr,↥1,↥3,↥0,↥1}, .J {⇑xk,↥1,↥2,↥1,↥2}, .J {⇑q_i,↥1,↥2,↥1,↥0}, .J {⇑q_,↥2,↥0,↥0,↥0}, .J {⇑q_,↥2,↥7,↥4,↥2}, .J {⇑xl,↥2,↥1,↥18,↥5}, .J {⇑q_,↥2,↥1,↥33,↥4}, .J {⇑q_,↥3,↥4,↥1,↥0}, .J {⇑K2,↥3,↥1,↥0,↥1}, .J {⇑Ph,↥4,↥1,↥0,↥0}, .J {⇑q_,↥5,↥2,↥0,↥0}, .J {⇑q_,↥6,↥9,↥1,↥0}, .J {⇑q_b,↥6,↥4,↥0,↥0}, .J {⇑q_,↥7,↥0,↥0,↥0}, .J {⇑q_,↥8,↥6,↥0,↥0}, .J {⇑q_,↥9,↥0,↥0,↥0}, .J {⇑q_,↥10,↥4,↥0,↥0}, .J {⇑q_t,↥11,↥7,↥6,↥0}, .J {⇑xk,↥11,↥25,↥4,↥0}, .J {⇑q_,↥12,↥3,↥0,↥0}, .J {⇑q_,↥13,↥15,↥6,↥0}, .J {⇑q_,↥13,↥1,↥3,↥0}, .J {⇑q_,↥13,↥16,↥4,↥0}, .J {⇑rZ,↥11,↥23,↥0,↥0}}))}⟩
abbrev Il:Fn:=⟨2,3,{.bD 2 (.aE .mod (.aw ↑0 ↥0) ↑1), .ui ↑0 ↥0 (.aE .fdiv (.aw ↑0 ↥0) ↑1), .ret (.some ↑2)}⟩
abbrev Im:Fn:=⟨5,5,{.ret (.some (.J {⇑iG,↑0,↑1,↑2,↑3, .az (.bool false),↑4}))}⟩
abbrev FV:Fn:=⟨4,4,{.ret (.some (.J {⇑pa,↑0, .az .none,↑1, .az (.bool false),↑2,↑3, .az (.bool false)}))}⟩
abbrev FW:Fn:=⟨1,1,{.ret (.some (.J {⇑iH,⇑gq,⇑CU, .J .nil, .az .none, .J .nil, .az .none,↑0}))}⟩
abbrev Tx:Fn:=⟨2,2,{.aU (.not ↑1) {.ret (.some (.J {⇑bN,⇑mL}))} .nil, .ret (.some (.J {⇑dH, .call .fD {⇑eW, .J .nil, .az .none, .J .nil, .az (.bool false)}, .J {.J {↑0, .az (.bool false)}, .J {↑0, .az (.bool true)}}, .az (.bool false)}))}⟩
abbrev C0:Fn:=⟨2,6,{.qJ [2,3] (.J {.J {⇑bN,⇑mL}, .J {⇑jP,↥1}}), .bD 4 (.J {⇑ja, .J {⇑gv}, .call .fD {⇑xk, .J .nil, .az .none,↑1, .az (.bool false)}}), .aU (.au .fj ↑0 ⇑abo) {.ret (.some (.ite (.au .eq ↑0 ⇑Tr) (.J {⇑lb,↑2,↑1}) (.J {⇑ci,↑2, .az .none, .J {⇑bN,⇑sa}, .az (.bool false),↑1})))} .nil, .aU (.au .fj ↑0 ⇑abp) {.ret (.some (.ite (.au .eq ↑0 ⇑Ts) (.J {⇑jw,↑1,↑2}) (.J {⇑rX, .J {↑2}, .J {↑2}, .J .nil,↑1})))} .nil, .aU (.au .eq ↑0 ⇑vN) {.ret (.some (.J {⇑de,↑2, .J {.J {↑3,↑1}, .J {.az .none, .J .nil}}}))} .nil, .aU (.au .fj ↑0 ⇑abq) {.ret (.some (.ite (.au .eq ↑0 ⇑q_i) (.J {⇑pY, .J {.J {↑2, .J .nil}, .J {↑2,↑1}}, .az .none}) (.J {⇑nK,↑1})))} .nil, .aU (.au .eq ↑0 ⇑q_t) {.ret (.some (.J {⇑fP,↑1, .J {.J {.J {⇑nJ},⇑q_q, .J .nil}}, .J .nil}))} .nil, .aU (.au .fj ↑0 ⇑abr) {.ret (.some (.ite (.au .eq ↑0 ⇑K2) (.J {⇑fP, .J .nil, .J {.J {.J {⇑nJ}, .az .none,↑1}}, .az .none}) (.J {⇑fP, .J .nil, .J .nil,↑1})))} .nil, .aU (.au .eq ↑0 ⇑Ph) {.ret (.some (.J {⇑gc, .call .fD {⇑Ww, .J .nil, .az .none,↑1, .az (.bool false)}}))} .nil, .aU (.au .eq ↑0 ⇑xk) {.ret (.some (.J {⇑gq, .call .j6 {.J {.J {⇑gZ, .J {⇑gv},⇑Wx,↑3},↑4}}}))} .nil, .aU (.au .eq ↑0 ⇑xl) {.ret (.some (.J {⇑c7, .J {⇑jv, .call .j6 {.J {↑4}}, .J {.J {↑3, .az (.bool false), .az .none}}}}))} .nil, .bD 5 (.call .fD {⇑eW, .J .nil, .az .none,↑1, .au .eq ↑0 ⇑rZ}), .ret (.some (.J {⇑c7, .J {⇑cQ, .J {⇑bN,⇑sa}, .J {⇑dH,↑5, .J .nil, .au .eq ↑0 ⇑rZ}}}))}⟩
abbrev BO:Fn:=⟨3,7,{.bD 3 (.aw (.aD false {.az .none, .J {⇑kK}, .J {⇑km}, .J {⇑mN}, .J {⇑nJ,⇑hV}}) (.aE .mod ↑0 ↥5)), .bD 4 (.aw (.aD false {.az .none, .J {⇑bN,⇑mL}, .call .ir {⇑pe, .az (.bool true)}}) (.aE .mod ↑1 ↥3)), .bD 5 (.call .fD {⇑tQ, .J .nil,↑3, .J {.J {⇑b8,↑4}}, .au .eq (.aE .mod ↑2 ↥4) ↥3}), .aU (.au .eq (.aE .mod ↑2 ↥4) ↥1) {.ret (.some (.J {⇑c7, .J {⇑dH,↑5, .J .nil, .az (.bool false)}}))} .nil, .aU (.au .eq (.aE .mod ↑2 ↥4) ↥2) {.bD 6 (.call .fD {⇑eW, .J .nil,↑3, .J {.J {⇑b8, .ite (.au .kW ↑4 (.az .none)) (.J {⇑bN,⇑mL}) ↑4}}, .az (.bool false)}), .ret (.some (.J {⇑ow, .J {.J {⇑ey,↑6, .az (.bool false)}}}))} .nil, .ret (.some (.J {⇑gc,↑5}))}⟩
abbrev iU:Fn:=⟨3,10,{.bD 3 (.aD false {⇑sa,⇑zQ,⇑bH}), .bD 4 (.aD true .nil), .ej (.dj 5) (.range (.aE .add ↥2 (.aE .mod ↑2 ↥2))) {.bD 6 (.ite (.and {.au .eq (.aE .mod (.aE .fdiv ↑1 (.aE .pow ↥4 (.aE .mod ↑5 ↥2))) ↥2) ↥1, .au .gt ↑5 ↥0}) (.call .ir {.aE .add ⇑Ts (.b1 .str ↑5), .au .eq (.aE .mod (.aE .fdiv ↑1 ↥16) ↥2) ↥1}) (.az .none)), .bD 7 (.ite (.and {.au .eq (.aE .mod (.aE .fdiv ↑1 ↥32) ↥2) ↥1, .au .eq ↑5 (.aE .mod ↑0 ↥2)}) ⇑gv ⇑q_), .bD 8 (.ite (.au .lt ↑5 ↥2) (.aw ↑3 (.aE .mod (.aE .fdiv ↑0 (.aE .pow ↥3 ↑5)) ↥3)) ⇑zQ), .jh ↑4 (.call .jr {↑8,↑6, .au .eq (.aE .mod (.aE .fdiv (.aE .fdiv ↑1 ↥2) (.aE .pow ↥4 (.aE .mod ↑5 ↥2))) ↥2) ↥1,↑7})}, .bD 8 (.aw (.aD false {⇑tQ,⇑f8,⇑kq}) (.aE .mod (.aE .fdiv ↑2 ↥2) ↥3)), .bD 9 (.call .fD {↑8, .b1 .tuple ↑4, .az .none, .ite (.au .eq (.aE .mod (.aE .fdiv ↑2 ↥6) ↥2) ↥1) (.az .none) (.J .nil), .az (.bool false)}), .aU (.and {.au .eq (.aE .mod ↑1 ↥3) ↥0, .or {.au .eq (.aE .mod (.aE .fdiv ↑2 ↥2) ↥3) ↥0, .au .eq (.aE .mod (.aE .fdiv ↑2 ↥12) ↥2) ↥1}}) {.ret (.some (.J {⇑gc,↑9}))} .nil, .ret (.some (.J {⇑gq, .call .j6 {.J {.J {⇑ja, .J {⇑gv},↑9}}}}))}⟩
abbrev Io:Fn:=⟨3,8,{.bD 3 (.aD false {⇑sa,⇑zQ,⇑bH}), .bD 4 (.b1 .tuple (.comp [0,3] 1 (.dj 2) (.range (.aE .add ↥1 (.aE .mod ↑1 ↥3))) .none (.J {.aw ↑1 (.aE .mod (.aE .fdiv ↑0 (.aE .pow ↥3 ↑2)) ↥3), .au .eq ↑2 ↥0}))), .bD 5 (.call .jr {.aw ⇑Tt (.aE .mod (.aE .fdiv ↑2 ↥8) ↥3), .az .none, .az (.bool false),⇑q_}), .bD 6 (.J {↑5, .call .jr {.ite (.au .gt (.aE .mod ↑2 ↥4) ↥0) (.aw ⇑K3 (.aE .mod ↑2 ↥3)) ⇑Tr, .az .none, .az (.bool false),⇑q_}}), .bD 7 (.J {.J {⇑c7, .call .ir {⇑Ph, .au .eq (.aE .mod (.aE .fdiv ↑2 ↥4) ↥2) ↥1}}}), .ret (.some (.J {⇑c7, .J {⇑dH, .call .fD {⇑eW,↑6, .az .none,↑7, .az (.bool false)},↑4, .az (.bool false)}}))}⟩
abbrev Ip:Fn:=⟨3,7,{.bD 3 (.aD false {⇑sa,⇑zQ,⇑bH}), .bD 4 (.call .fD {⇑eW, .J .nil, .az .none, .J {.J {⇑bV, .J {⇑sa, .az .none}}}, .az (.bool false)}), .bD 5 (.J {⇑bV, .J {⇑sa, .call .ir {⇑pe, .au .eq (.aE .mod ↑1 ↥3) ↥1}}, .J {.aw ↑3 (.aE .mod (.aE .add ↑0 ↥1) ↥3), .az .none}}), .bD 6 (.J {⇑c7, .J {⇑dH,↑4, .J .nil, .az (.bool false)}}), .ret (.some (.J {⇑nK, .J {↑5,↑6, .J {⇑lb, .J {⇑bN,⇑mL}, .J {.J {⇑bV, .J {.aw ↑3 (.aE .mod (.aE .add (.aE .fdiv ↑0 ↥3) ↑2) ↥3), .az .none}}}}}}))}⟩
abbrev FX:Fn:=⟨3,5,{.aU (.au .eq (.aE .mod ↑0 ↥3) ↥0) {.bD 3 (.J {⇑sa, .aw (.aD false {⇑zQ,⇑bH}) (.aE .mod ↑1 ↥2)}), .ret (.some (.J {⇑ee, .ite (.au .eq (.aE .mod ↑2 ↥2) ↥0) ↑3 (.oq ↑3 .none .none (.some (.az (.int (-1)))))}))} .nil, .bD 4 (.aD false {.J {⇑bN,⇑sa}, .J {⇑gU, .J {⇑bN,⇑bH}, .call .ir {⇑pe, .au .eq (.aE .mod ↑2 ↥2) ↥1}}, .J {⇑bN,⇑bH}}), .ret (.some (.J {⇑eC, .J {.aw ↑4 (.aE .mod ↑1 ↥3), .aw ↑4 (.aE .mod ↑0 ↥3)}}))}⟩
abbrev FY:Fn:=⟨3,8,{.bD 3 (.J {⇑bN,⇑bH}), .bD 4 (.J {⇑cr, .J {.J {.az .none, .J {⇑bN,⇑sa}, .az (.bool false)}, .az .none, .J {.az .none, .J {⇑cr, .J {.J {.az .none,↑3, .az (.bool false)}}}, .az (.bool false)}}}), .bD 5 (.J {⇑cr, .J {.J {.J {⇑jP,⇑Wt},↑3, .az (.bool false)}}}), .bD 6 (.aw (.aD false {.J {⇑bN,⇑sa},↑3,↑5,↑4, .J {⇑dO,↑3, .J {⇑jP,⇑xl}, .az (.bool false)}}) (.aE .mod ↑1 ↥5)), .bD 7 (.call .ir {⇑pe, .au .eq (.aE .mod ↑2 ↥2) ↥1}), .aU (.au .eq (.aE .mod ↑0 ↥5) ↥0) {.ret (.some (.J {⇑c7, .J {⇑cQ,↑6,↑7}}))} .nil, .aU (.au .eq (.aE .mod ↑0 ↥5) ↥1) {.ret (.some (.J {⇑c7, .J {⇑dB,↑6, .J {⇑bN,⇑zQ}}}))} .nil, .aU (.au .eq (.aE .mod ↑0 ↥5) ↥2) {.ret (.some (.J {⇑c7, .J {⇑fS,⇑Tq, .az (.bool false),↑6}}))} .nil, .aU (.au .eq (.aE .mod ↑0 ↥5) ↥3) {.ret (.some (.J {⇑c7, .J {⇑d9,⇑aak,↑6,↑7}}))} .nil, .ret (.some (.J {⇑ci,↑7, .ite (.au .eq (.aE .mod (.aE .fdiv ↑2 ↥2) ↥2) ↥0) ↑6 (.az .none), .ite (.au .eq (.aE .mod ↑0 ↥2) ↥0) ↑6 (.J {⇑bN,⇑sa}), .az (.bool false), .J .nil}))}⟩
abbrev Iq:Fn:=⟨3,7,{.bD 3 (.J {.az .none, .J {⇑bN,⇑sa}, .az (.bool true)}), .bD 4 (.aw (.aD false {.J {↑3}, .J {.J {.az .none, .J {⇑cr, .J {.az .none,↑3}}, .az (.bool false)}}, .J {.J {.az .none, .J {⇑bN,⇑sa}, .az (.bool false)}}, .J {.J {.az .none, .J {⇑bN,⇑bH}, .az (.bool true)}}}) (.aE .mod ↑0 ↥4)), .bD 5 (.J {⇑cU, .J {⇑gQ,⇑tQ}, .J {.J {.call .ir {⇑pe, .au .eq (.aE .mod ↑2 ↥2) ↥1}, .az (.bool false), .az .none}}}), .bD 6 (.aw (.aD false {↑5, .J {⇑bN,⇑zQ}, .J {⇑gU,↑5, .J {⇑jP,↥0}}, .J {⇑dO, .J {⇑bN,⇑zQ}, .J {⇑jP,⇑xl}, .az (.bool true)}, .J {⇑dO, .J {⇑bN,⇑zQ}, .J {⇑jP,⇑xl}, .az (.bool false)}, .J {⇑k7, .J {⇑gQ,⇑nJ}, .J {⇑jP,⇑xl}}, .J {⇑kJ,↑5}, .J {⇑tN, .J .nil}}) (.aE .mod ↑1 ↥8)), .ret (.some (.J {⇑c7, .J {⇑cQ, .J {⇑cr,↑4},↑6}}))}⟩
abbrev uX:Fn:=⟨3,6,{.bD 3 (.aD true .nil), .ej (.dj 4) (.range ↥3) {.bD 5 (.ite (.au .eq (.aE .mod (.aE .fdiv ↑0 (.aE .pow ↥2 ↑4)) ↥2) ↥1) (.az .none) (.call .ir {.aE .add ⇑K2 (.b1 .str ↑4), .au .eq (.aE .mod (.aE .fdiv ↑1 (.aE .pow ↥2 ↑4)) ↥2) ↥1})), .jh ↑3 (.J {↑5, .J {.J {⇑cL, .aE .add ↥1 (.aE .mod ↑2 ↥3)}}})}, .ret (.some (.J {⇑de, .call .ir {⇑pe, .au .eq (.aE .mod (.aE .fdiv ↑1 ↥8) ↥2) ↥1}, .b1 .tuple ↑3}))}⟩
abbrev C1:Fn:=⟨3,4,{.bD 3 (.ite (.au .eq (.aE .mod ↑1 ↥2) ↥0) (.J {⇑f7, .call .ir {⇑pe, .au .eq (.aE .mod ↑2 ↥2) ↥1}, .az .none}) (.J {⇑dk, .call .ir {⇑pe, .au .eq (.aE .mod ↑2 ↥2) ↥1}})), .aU (.au .eq (.aE .mod ↑0 ↥4) ↥0) {.ret (.some (.J {⇑c7,↑3}))} .nil, .aU (.au .eq (.aE .mod ↑0 ↥4) ↥1) {.ret (.some (.J {⇑gc, .call .fD {⇑tQ, .J .nil, .az .none, .J {.J {⇑ow, .J {↑3}}}, .az (.bool true)}}))} .nil, .aU (.au .eq (.aE .mod ↑0 ↥4) ↥2) {.ret (.some (.J {⇑gq, .call .j6 {.J {.J {⇑dO, .J {⇑gv,⇑bV}, .J {⇑mN},⇑xl,↑3}}}}))} .nil, .ret (.some (.J {⇑ow, .J {.J {⇑ey, .call .fD {⇑eW, .J .nil, .az .none, .J {.J {⇑b8,↑3}}, .az (.bool true)}, .az (.bool true)}}}))}⟩
abbrev gw:Fn:=⟨3,7,{.bD 3 (.aw (.aD false {.J {⇑ox}, .az .none, .J {⇑p7}, .J {⇑mN,⇑kn}, .J {⇑mN}, .J {⇑nJ,⇑hV}, .J {⇑hV,⇑nJ}, .J {⇑nJ,⇑Pj,⇑hV}, .J {⇑pd}, .J {⇑mM}, .J {⇑mf,⇑hV}, .J {⇑kK}}) (.aE .mod ↑0 ↥12)), .bD 4 (.J {.call .jr {⇑rZ, .call .ir {⇑M8, .au .eq (.aE .mod (.aE .fdiv ↑1 ↥4) ↥2) ↥1}, .az (.bool false),⇑q_}}), .bD 5 (.call .fD {⇑tQ,↑4,↑3, .J {.J {⇑b8, .aw (.aD false {.az .none, .J {⇑bN,⇑mL}}) (.aE .mod ↑1 ↥2)}}, .au .ne (.aE .mod ↑2 ↥5) ↥4}), .aU (.au .eq (.aE .mod ↑2 ↥2) ↥0) {.ret (.some (.J {⇑gc,↑5}))} .nil, .aU (.au .eq (.aE .mod ↑2 ↥3) ↥2) {.bD 6 (.J {.J {⇑b8, .J {⇑bN,⇑mL}}}), .ret (.some (.J {⇑ow, .J {.J {⇑ey, .call .fD {⇑eW,↑4,↑3,↑6, .au .ne (.aE .mod ↑2 ↥5) ↥4}, .az (.bool false)}}}))} .nil, .ret (.some (.J {⇑c7, .J {⇑dH,↑5, .J {.J {⇑pe, .az (.bool false)}, .J {.aE .add ⇑Ih (.b1 .str (.aE .mod ↑1 ↥3)), .az (.bool false)}}, .az (.bool false)}}))}⟩
abbrev Ir:Fn:=⟨2,8,{.qJ [2,3,4] (.J {.call .ir {⇑pe, .au .eq (.aE .mod ↑1 ↥2) ↥1}, .call .ir {⇑Yg, .au .eq (.aE .mod (.aE .fdiv ↑1 ↥2) ↥2) ↥1}, .call .ir {⇑Yh, .au .eq (.aE .mod (.aE .fdiv ↑1 ↥4) ↥2) ↥1}}), .qJ [5,6] (.J {.J {⇑jP,↥1}, .J {⇑gQ,⇑nJ}}), .bD 7 (.aD false {.J {⇑FO,⇑Tu,↑2,↑3}, .J {⇑pY,↑2, .az .none,↑3}, .J {⇑pY,↑2,↑3,↑4}, .J {⇑xj,↑2, .J {.J {.J {↑3},↑5}, .J {.az .none,↑4}}}, .J {⇑tN, .J {.J {↑2,↑3, .az (.bool false), .az (.bool false)}, .J {.az .none,↑4, .az (.bool false), .az (.bool true)}}}, .J {⇑cU, .J {⇑gQ,⇑tQ}, .J {.J {↑2, .az (.bool false), .az .none}, .J {↑3, .az (.bool true), .az .none}}}, .J {⇑cU,↑2, .J {.J {↑3, .az (.bool false),⇑xl}}}, .J {⇑cy,↑2,↑3, .J {.J {↑4, .az (.bool false), .az .none}}, .az (.bool false)}, .J {⇑gK,↑6,↑2, .J {.J {↑3, .az (.bool false), .az .none}}}, .J {⇑gK,↑2,↑3, .J {.J {↑4, .az (.bool false), .az .none}}}, .J {⇑jv,↑6, .J {.J {↑2, .az (.bool false), .az .none}, .J {↑3, .az (.bool false), .az .none}}}, .J {⇑jv,↑2, .J {.J {↑3, .az (.bool false), .az .none}}}, .J {⇑gU,↑2,↑3}, .J {⇑dO,↑2,↑3, .az (.bool true)}, .J {⇑k7,↑2,↑3}, .J {⇑ut,↑2,⇑CU}, .J {⇑cQ, .J {⇑gU,↑2,↑3},↑4}, .J {⇑d9,⇑Tu, .J {⇑dO,↑2,↑3, .az (.bool false)},↑4}, .J {⇑pW, .J {.J {⇑jP,⇑rZ},↑2,↑3}}, .J {⇑Ar,⇑mN, .J {⇑M4,⇑lz,↑2}}, .J {⇑xe, .J {↑2,↑3}}, .J {⇑pX,↑2,↑3}, .J {⇑m7,↑2,↑3}, .J {⇑f7,↑2,↑3}, .J {⇑fS,⇑Wy, .az (.bool true), .J {⇑gU,↑2,↑3}}, .J {⇑cQ, .J {⇑cr, .J {.J {↑2, .J {⇑gU, .J {⇑bN,⇑sa},↑3}, .az (.bool false)}, .az .none}},↑4}, .J {⇑xg, .J {⇑xh,↑2}}, .J {⇑FP,↑2, .J {⇑M5,↑3,↑4}}, .J {⇑rW, .J {⇑xf,↑2}}, .J {⇑xi,↑2}, .J {⇑dk,↑2}}), .ret (.some (.aw ↑7 (.aE .mod ↑0 ↥31)))}⟩
abbrev nL:Fn:=⟨3,7,{.bD 3 (.J {⇑bN,⇑mL}), .ej (.dj 4) (.range (.aE .mod ↑0 ↥4)) {.bD 5 (.aE .mod (.aE .add (.aE .fdiv ↑1 (.aE .pow ↥3 ↑4)) ↑4) ↥3), .bD 6 (.au .eq (.aE .mod (.aE .fdiv ↑2 (.aE .pow ↥2 ↑4)) ↥2) ↥1), .aU (.au .eq ↑5 ↥0) {.bD 3 (.J {⇑dO,↑3, .J {⇑jP,⇑xl},↑6})} {.aU (.au .eq ↑5 ↥1) {.bD 3 (.J {⇑gU,↑3, .call .ir {.aE .add ⇑Ih (.b1 .str ↑4), .au .eq (.aE .mod (.aE .fdiv ↑1 ↥27) ↥2) ↥1}})} {.bD 3 (.J {⇑cy,↑3, .J {⇑jP,⇑xl}, .J .nil,↑6})}}}, .aU (.au .eq (.aE .mod (.aE .fdiv ↑2 ↥8) ↥5) ↥0) {.ret (.some (.J {⇑c7, .J {⇑cy,↑3, .J {⇑jP,⇑xk}, .az .none, .au .eq (.aE .mod (.aE .fdiv ↑0 ↥4) ↥2) ↥0}}))} .nil, .aU (.au .eq (.aE .mod (.aE .fdiv ↑2 ↥8) ↥5) ↥1) {.ret (.some (.J {⇑c7, .J {⇑cU,↑3, .az .none}}))} .nil, .aU (.au .eq (.aE .mod (.aE .fdiv ↑2 ↥8) ↥5) ↥2) {.ret (.some (.J {⇑c7, .J {⇑jv, .J {⇑gQ,⇑nJ}, .az .none}}))} .nil, .aU (.au .eq (.aE .mod (.aE .fdiv ↑2 ↥8) ↥5) ↥3) {.ret (.some (.J {⇑c7, .J {⇑gK,↑3, .J {⇑jP,⇑xk}, .az .none}}))} .nil, .ret (.some (.J {⇑c7, .J {⇑cU, .J {⇑cU,↑3, .J .nil}, .az .none}}))}⟩
abbrev yD:Fn:=⟨2,11,{.qJ [2,3,4] (.J {.call .ir {⇑pe, .au .eq (.aE .mod ↑1 ↥2) ↥1}, .call .ir {⇑Yg, .au .eq (.aE .mod (.aE .fdiv ↑1 ↥2) ↥2) ↥1}, .call .ir {⇑Yh, .au .eq (.aE .mod (.aE .fdiv ↑1 ↥4) ↥2) ↥1}}), .bD 5 (.J {⇑bN,⇑mL}), .bD 6 (.J {.call .jr {⇑rZ,↑2, .az (.bool false),⇑q_}, .call .jr {⇑q_b,↑3, .az (.bool false),⇑q_}}), .bD 7 (.call .fD {⇑tQ,↑6, .az .none, .J {.J {⇑c7,↑4}}, .az (.bool false)}), .bD 8 (.call .fD {⇑tQ, .oq ↑6 .none (.some ↥1) .none, .az .none, .J {.J {⇑c7,↑4}}, .az (.bool false)}), .bD 9 (.J {.J {⇑Tk, .J {⇑q_T}, .J .nil}, .J {⇑gZ, .J {⇑gv,⇑Tv},⇑Wx,↑2}, .J {⇑M6,⇑q_D,↑3}, .J {⇑dO, .J {⇑gv}, .az .none,⇑xl, .az .none}, .J {⇑ja, .J {⇑gv},↑8}, .J {⇑dO, .J {⇑K4}, .J {⇑mN},⇑xk,↑4}}), .bD 10 (.aD false {.J {⇑lb,↑2, .J {.J {⇑c7,↑3}}}, .J {⇑jw, .J {.J {⇑c7,↑2}},↑3}, .J {⇑rX, .J {↑2}, .J {↑3}, .J {↑4}, .J .nil}, .J {⇑ci,↑2, .J {⇑gU,↑5,↑3}, .J {⇑gU,↑5,↑4}, .az (.bool false), .J .nil}, .J {⇑de,↑2, .J {.J {↑3, .J {.J {⇑c7,↑4}}}}}, .J {⇑pY, .J {.J {↑2, .J {.J {⇑c7,↑3}}}}, .J {.J {⇑c7,↑4}}}, .J {⇑bV, .J {⇑vN,↑2}, .J {⇑q_t,↑3}}, .J {⇑ow, .J {↑2,↑3}}, .J {⇑gZ, .J {⇑CU,↑2}, .J {⇑Ii,↑3}}, .J {⇑eC, .J {.J {⇑gU,↑2,↑3}}}, .J {⇑b8,↑2}, .J {⇑fP, .J {.J {⇑c7,↑2}}, .J {.J {.J {⇑nJ}, .aw (.aD false {⇑q_q,⇑bH}) (.aE .mod (.aE .fdiv ↑1 ↥8) ↥2), .J {.J {⇑c7,↑3}}}, .J {.J {⇑Pj}, .aw (.aD false {⇑q_r,⇑bH}) (.aE .mod (.aE .fdiv ↑1 ↥16) ↥2), .J .nil}}, .J {.J {⇑c7,↑4}}}, .J {⇑nK, .J {.J {⇑c7,↑2}, .J {⇑c7,↑3}}}, .J {⇑As,⇑rZ}, .J {⇑rY,⇑zR,↥1}, .J {⇑gc,↑7}, .J {⇑gq, .call .j6 {↑9}}}), .ret (.some (.aw ↑10 (.aE .mod ↑0 ↥17)))}⟩
abbrev C2:Fn:=⟨4,4,{.aU (.au .eq ↑0 ↥0) {.ret (.some (.J {.aw (.aD false {⇑cL,⇑bS}) (.aE .mod ↑1 ↥2), .aE .add ↥1 (.aE .mod ↑2 ↥4)}))} .nil, .aU (.au .eq ↑0 ↥1) {.ret (.some (.call .lY {↑1,↑2,↑3}))} .nil, .aU (.au .eq ↑0 ↥2) {.ret (.some (.call .lG {↑1,↑2,↑3}))} .nil, .aU (.au .eq ↑0 ↥3) {.ret (.some (.call .qG {↑1,↑2,↑3}))} .nil, .aU (.au .eq ↑0 ↥4) {.ret (.some (.call .qH {↑1,↑2,↑3}))} .nil, .aU (.au .eq ↑0 ↥5) {.ret (.some (.call .oP {↑1,↑2,↑3}))} .nil, .aU (.au .eq ↑0 ↥6) {.ret (.some (.call .oQ {↑1,↑2,↑3}))} .nil, .aU (.au .eq ↑0 ↥7) {.ret (.some (.call .qI {↑1,↑2,↑3}))} .nil, .aU (.au .eq ↑0 ↥8) {.ret (.some (.call .nu {↑1,↑2,↑3}))} .nil, .aU (.au .eq ↑0 ↥9) {.ret (.some (.call .nv {↑1,↑2,↑3}))} .nil, .aU (.au .eq ↑0 ↥10) {.ret (.some (.call .i7 {↑1,↑2,↑3}))} .nil, .aU (.au .eq ↑0 ↥11) {.ret (.some (.J {⇑c7, .call .oA {↑1,↑2}}))} .nil, .aU (.au .eq ↑0 ↥12) {.ret (.some (.call .oB {↑1,↑2,↑3}))} .nil, .ret (.some (.call .gH {↑1,↑2}))}⟩
abbrev xr:Fn:=⟨2,8,{.bD 2 (.oq (.aw ↑0 ↥0) .none (.some (.aE .sub (.b1 .len (.aw ↑0 ↥0)) (.call .gb {↑1, .aE .add (.b1 .len (.aw ↑0 ↥0)) ↥1}))) .none), .ej (.dj 3) (.range (.call .gb {↑1, .aE .sub ↥5 (.b1 .len ↑2)})) {.bD 2 (.aE .add ↑2 (.aw ⇑jz (.call .gb {↑1,↥15})))}, .bD 4 (.aE .mod (.aE .add (.aw ↑0 ↥1) (.call .gb {↑1,↥14})) ↥14), .bD 5 (.comp [1] 1 (.dj 1) (.seq (.oq ↑0 (.some ↥2) .none .none)) .none (.aE .mod (.aE .add ↑1 (.call .gb {↑0,↥96})) ↥96)), .bD 6 (.call .pK {↑4, .aw ↑5 ↥0, .aw ↑5 ↥1, .aw ↑5 ↥2}), .ej (.dj 7) (.seq (.oq ↑2 .none .none (.some (.az (.int (-1)))))) {.bD 6 (.call .lF {↑7, .J {↑6}})}, .aU (.au .eq (.call .gb {↑1,↥3}) ↥1) {.ret (.some (.J {↑6, .J {⇑de, .J {⇑bN,⇑mL}, .J {.J {.az .none, .J {.J {⇑cL, .aE .add ↥1 (.call .gb {↑1,↥3})}}}}}}))} .nil, .ret (.some (.J {↑6}))}⟩
abbrev yE:Fn:=⟨4,4,{.ret (.some (.eO [ij,m8,qy,ey,gE] {↑0,↑1,↑2,↑3, .aD true .nil}))}⟩
abbrev C3:Fn:=⟨2,3,{.bD 2 (.b1 .dict ↑0), .ui ↑2 ⇑ij (.aE .add (.aw ↑2 ⇑ij) ↑1), .ret (.some ↑2)}⟩
abbrev FZ:Fn:=⟨0,0,{.ret (.some (.J {⇑jP,⇑pW,⇑bN,⇑kJ,⇑tN,⇑cr,⇑gU,⇑dO,⇑k7,⇑ut,⇑cQ,⇑dB,⇑d9,⇑fS,⇑M4,⇑FO,⇑FP,⇑M5,⇑pX,⇑pY,⇑Ar,⇑rW,⇑xe,⇑xf,⇑m7,⇑xg,⇑xh,⇑xi,⇑xj,⇑f7,⇑dk,⇑cU,⇑jv,⇑cy,⇑gK,⇑dH,⇑ey,⇑iG,⇑iH,⇑c7,⇑ow,⇑As,⇑nK,⇑lb,⇑jw,⇑rX,⇑ci,⇑de,⇑cL,⇑bS,⇑b8,⇑ee,⇑bV,⇑eC,⇑fP,⇑gc,⇑gq,⇑gZ,⇑rY}))}⟩
abbrev F2:Fn:=⟨1,1,{.aU (.or {.not (.b1 .nU ↑0), .au .eq ↑0 (.J .nil)}) {.ret (.some (.aD false .nil))} .nil, .aU (.and {.b1 .qi (.aw ↑0 ↥0), .au .fj (.aw ↑0 ↥0) (.call .rG .nil)}) {.ret (.some (.aD false {↑0}))} .nil, .ret (.some (.s9 [] 2 (.dj 0) (.seq ↑0) (.dj 1) (.seq (.call .ca {↑0})) ↑1))}⟩
abbrev zX:Fn:=⟨1,1,{.aU (.or {.au .kW ↑0 (.az .none), .au .ne (.aw ↑0 ↥0) ⇑cr}) {.ret (.some (.au .eq ↑0 (.J {⇑bN,⇑bH})))} .nil, .ret (.some (.au .ne (.comp [] 1 (.dj 0) (.seq (.aw ↑0 ↥1)) (.some (.and {.au .dw ↑0 (.az .none), .call .fi {.aw ↑0 ↥1}})) ↑0) (.aD false .nil)))}⟩
abbrev BQ:Fn:=⟨1,1,{.ret (.some (.au .ne (.comp [] 1 (.dj 0) (.seq (.aw ↑0 ↥1)) (.some (.and {.au .dw ↑0 (.az .none), .or {.aw ↑0 ↥2, .and {.au .eq (.aw (.aw ↑0 ↥1) ↥0) ⇑cr, .call .lZ {.aw ↑0 ↥1}}}})) ↑0) (.aD false .nil)))}⟩
abbrev C4:Fn:=⟨3,4,{.bD 3 (.aE .add (.aE .sub (.aE .sub (.b1 .len ↑2) ↥1) (.b2 .rindex (.aE .add ⇑xm ↑2) ⇑xm)) ↥1), .aU (.au .vc ⇑Ii ↑2) {.ret (.some (.aD false {.aE .add (.aE .add ⇑FR ↑0) ⇑dm}))} .nil, .aU (.au .le ↑1 ↑3) {.ret (.some (.aD false .nil))} .nil, .aU (.au .fj ⇑xm ↑2) {.ret (.some (.aD false {⇑cj}))} .nil, .ret (.some (.aD false {.aE .add (.aE .add (.aE .add (.aE .add ⇑jm ↑0) ⇑pZ) (.b1 .str ↑1)) ⇑BL}))}⟩
abbrev zY:Fn:=⟨2,2,{.aU (.au .eq (.aw ↑1 ⇑m8) (.J {⇑km})) {.ret (.some (.ite (.aw ↑1 ⇑ey) (.aD false .nil) (.aD false {⇑dZ})))} .nil, .aU (.au .eq (.aw ↑1 ⇑m8) (.J {⇑kK})) {.ret (.some (.ite (.au .kW ↑0 (.az .none)) (.aD false .nil) (.aD false {⇑eg})))} .nil, .aU (.and {.au .dw (.aw ↑1 ⇑m8) (.az .none), .au .kW ↑0 (.az .none)}) {.ret (.some (.aD false {⇑d6}))} .nil, .ret (.some (.aD false .nil))}⟩
abbrev zZ:Fn:=⟨1,1,{.aU (.au .fj (.aw ↑0 ↥0) (.J {⇑dO,⇑cy})) {.ret (.some (.or {.aw ↑0 (.aE .sub (.b1 .len ↑0) ↥1), .call .jN {.aw ↑0 ↥1}}))} .nil, .aU (.or {.au .eq (.aw ↑0 ↥0) ⇑gU, .and {.au .eq (.aw ↑0 ↥0) ⇑cU, .au .ne (.aw (.aw ↑0 ↥1) ↥0) ⇑gQ}}) {.ret (.some (.call .jN {.aw ↑0 ↥1}))} .nil, .ret (.some (.az (.bool false)))}⟩
abbrev F3:Fn:=⟨2,5,{.bD 2 (.aD true .nil), .aU (.au .eq (.aw ↑0 ↥0) ⇑ee) {.ret (.some (.ite (.au .fj ⇑bH (.aw ↑0 ↥1)) (.aD false {⇑fg}) (.aD false .nil)))} .nil, .aU (.au .eq (.aw ↑0 ↥0) ⇑eC) {.ret (.some (.ite (.au .fj (.J {⇑bN,⇑bH}) (.aw ↑0 ↥1)) (.aD false {⇑gr}) (.aD false .nil)))} .nil, .ej (.aO [3,4]) (.seq (.oq ↑0 (.some ↥1) .none .none)) {.aU (.au .eq ↑3 ⇑bH) {.jh ↑2 ⇑bE} {.aU (.au .fj ↑3 (.aw ↑1 ⇑gE)) {.jh ↑2 (.aE .add ⇑bf ↑3)} .nil}, .jh (.aw ↑1 ⇑gE) ↑3}, .ret (.some ↑2)}⟩
abbrev zz:Fn:=⟨2,7,{.bD 2 (.aw ↑0 ↥0), .aU (.au .eq ↑2 ⇑cQ) {.bD 3 (.ite (.call .fi {.aw ↑0 ↥1}) (.aD true {⇑am}) (.aD true .nil)), .bD 4 (.or {.au .fj (.aw (.aw ↑0 ↥2) ↥0) (.J {⇑bN,⇑kJ,⇑gU,⇑k7}), .and {.au .eq (.aw (.aw ↑0 ↥2) ↥0) ⇑dO, .not (.aw (.aw ↑0 ↥2) ↥3)}}), .aU (.and {.au .eq (.aw (.aw ↑0 ↥1) ↥0) ⇑cr, .call .lZ {.aw ↑0 ↥1}, .not ↑4}) {.jh ↑3 ⇑aH} .nil, .ret (.some ↑3)} .nil, .aU (.au .fj ↑2 (.J {⇑dB,⇑d9,⇑fS,⇑ci})) {.bD 5 (.aw (.eO [dB,d9,fS,ci] {↥1,↥2,↥3,↥2}) ↑2), .bD 6 (.or {.call .fi {.aw ↑0 ↑5}, .and {.au .eq ↑2 ⇑ci, .call .fi {.aw ↑0 ↥3}}}), .ret (.some (.ite ↑6 (.aD false {⇑am}) (.aD false .nil)))} .nil, .aU (.and {.au .eq ↑2 ⇑jv, .au .kW (.aw ↑0 ↥2) (.az .none)}) {.ret (.some (.aD false {⇑da}))} .nil, .aU (.and {.au .fj ↑2 (.J {⇑cU,⇑cy}), .au .kW (.aw ↑0 (.ite (.au .eq ↑2 ⇑cy) ↥3 ↥2)) (.az .none), .call .jN {↑0}}) {.ret (.some (.aD false {⇑cq}))} .nil, .aU (.au .fj ↑2 (.J {⇑cL,⇑bS})) {.ret (.some (.call .pL {↑2, .aw ↑0 ↥1, .aw ↑1 ⇑ij}))} .nil, .aU (.au .eq ↑2 ⇑b8) {.ret (.some (.call .m1 {.aw ↑0 ↥1,↑1}))} .nil, .aU (.au .fj ↑2 (.J {⇑f7,⇑dk})) {.ret (.some (.ite (.aw ↑1 ⇑qy) (.aD false {⇑dc}) (.aD false .nil)))} .nil, .aU (.au .fj ↑2 (.J {⇑ee,⇑bV,⇑eC})) {.ret (.some (.call .lw {↑0,↑1}))} .nil, .aU (.and {.au .eq ↑2 ⇑de, .au .gt (.b1 .len (.comp [] 2 (.aO [0,1]) (.seq (.aw ↑0 ↥2)) (.some (.au .kW ↑0 (.az .none))) ↑0)) ↥1}) {.ret (.some (.aD false {⇑db}))} .nil, .ret (.some (.aD false .nil))}⟩
abbrev F4:Fn:=⟨1,1,{.aU (.and {.au .eq (.b1 .len ↑0) ↥2, .au .fj ⇑hV ↑0}) {.ret (.some (.aE .add ⇑Ib (.aw (.comp [] 1 (.dj 0) (.seq ↑0) (.some (.au .ne ↑0 ⇑hV)) ↑0) ↥0)))} .nil, .ret (.some (.b2 .join ⇑vM ↑0))}⟩
abbrev z0:Fn:=⟨3,12,{.qJ [3,4,5,6,7,8,9,10] (.aw (.aw ↑0 ↥2) ↑1), .bD 11 (.aD true .nil), .aU (.au .fj ↑4 (.comp [] 1 (.dj 0) (.seq (.oq (.aw ↑0 ↥2) .none (.some ↑1) .none)) .none (.aw ↑0 ↥1))) {.jh ↑11 (.aE .add ⇑fu ↑4)} .nil, .aU (.au .eq ↑4 ⇑bH) {.jh ↑11 ⇑cz} .nil, .aU (.and {.au .gt ↑1 ↥0, .aw (.aw (.aw ↑0 ↥2) (.aE .sub ↑1 ↥1)) ↥5}) {.jh ↑11 ⇑bI} .nil, .aU (.and {↑8, .au .dw ↑6 (.az .none)}) {.jh ↑11 ⇑bA} .nil, .aU (.and {.au .ne ↑9 ⇑q_, .not (.and {↑2, .au .fj (.aw ↑0 ↥1) (.J {⇑f8,⇑kq})})}) {.jh ↑11 ⇑bT} .nil, .aU (.and {.au .ne ↑9 ⇑q_, .au .kW (.aw ↑0 ↥4) (.az .none)}) {.jh ↑11 ⇑bU} .nil, .aU (.and {.au .ne ↑9 ⇑q_,↑8}) {.jh ↑11 ⇑ck} .nil, .ret (.some ↑11)}⟩
abbrev nZ:Fn:=⟨4,11,{.bD 4 (.call .hZ {⇑q_, .ite (.aw ↑0 ↥6) (.az .none) (.aw ↑0 ↥3), .az (.bool false),↑3}), .bD 5 (.aD true .nil), .ej (.dj 6) (.range (.b1 .len (.aw ↑0 ↥2))) {.bD 5 (.aE .uP (.aE .add ↑5 (.call .jO {↑0,↑6,↑2})) (.call .d7 {.call .ca {.aw (.aw (.aw ↑0 ↥2) ↑6) ↥3},↑4}))}, .bD 7 (.aD false {⇑r7,⇑tP,⇑pc,⇑kn,⇑pd,⇑mM}), .aU (.and {.aw ↑0 ↥6, .au .dw (.aw ↑0 ↥3) (.az .none), .au .eq (.comp [7] 1 (.dj 1) (.seq (.aw ↑0 ↥3)) (.some (.au .fj (.b1 .lower ↑1) ↑0)) ↑1) (.aD false .nil)}) {.jh ↑5 (.aE .add (.aE .add ⇑aG (.call .oS {.aw ↑0 ↥3})) ⇑bO)} .nil, .bD 9 (.comp [] 1 (.dj 0) (.seq (.aw ↑0 ↥2)) .none (.aw ↑0 ↥1)), .ej (.aO [8,10]) (.seq ↑1) {.aU (.au .fj ↑8 ↑9) {.jh ↑5 (.aE .add (.aE .add ⇑c8 ↑8) ⇑e8)} .nil}, .ret (.some (.aE .add ↑5 (.call .d7 {.call .ca {.aw ↑0 ↥4},↑4})))}⟩
abbrev Iu:Fn:=⟨1,4,{.bD 1 (.aD true .nil), .ej (.dj 2) (.range (.b1 .len ↑0)) {.bD 3 (.aw (.aw ↑0 ↑2) ↥0), .aU (.au .eq ↑3 ⇑bH) {.jh ↑1 ⇑br} {.aU (.au .fj ↑3 (.comp [] 2 (.aO [0,1]) (.seq (.oq ↑0 .none (.some ↑2) .none)) .none ↑0)) {.jh ↑1 (.aE .add (.aE .add ⇑fG ↑3) ⇑qW)} .nil}}, .ret (.some ↑1)}⟩
abbrev xt:Fn:=⟨2,6,{.bD 2 (.call .d7 {.call .ca {.aw ↑0 ↥1},↑1}), .ej (.aO [3,4,5]) (.seq (.aw ↑0 ↥2)) {.bD 2 (.aE .add (.aE .add ↑2 (.ite (.au .eq ↑4 ⇑bH) (.aD false {⇑am}) (.aD false .nil))) (.call .d7 {.call .ca {↑5},↑1}))}, .ret (.some (.aE .add ↑2 (.call .d7 {.call .ca {.aw ↑0 ↥3}, .call .ji {↑1,⇑xm}})))}⟩
abbrev Ea:Fn:=⟨2,5,{.bD 2 (.aw ↑0 ↥0), .aU (.au .eq ↑2 ⇑dH) {.ret (.some (.aE .add (.call .uh {.aw ↑0 ↥2}) (.call .iQ {.aw ↑0 ↥1, .aw ↑0 ↥2, .az (.bool false), .az (.bool false)})))} .nil, .aU (.au .eq ↑2 ⇑ey) {.ret (.some (.call .iQ {.aw ↑0 ↥1, .J .nil, .az (.bool false), .az (.bool true)}))} .nil, .aU (.au .eq ↑2 ⇑iG) {.ret (.some (.call .iQ {↑0, .J .nil, .az (.bool false), .az (.bool false)}))} .nil, .aU (.au .eq ↑2 ⇑fP) {.ret (.some (.call .rH {↑0,↑1}))} .nil, .aU (.au .eq ↑2 ⇑iH) {.bD 3 (.aD true .nil), .ej (.dj 4) (.seq (.aw ↑0 ↥7)) {.aU (.au .eq (.aw ↑4 ↥0) ⇑ja) {.bD 3 (.aE .add ↑3 (.call .iQ {.aw ↑4 ↥2, .J .nil, .az (.bool true), .az (.bool false)}))} {.bD 3 (.aE .add ↑3 (.call .d7 {.call .ca {.oq ↑4 (.some ↥1) .none .none}, .call .hZ {⇑q_, .az .none, .az (.bool true), .az (.bool false)}}))}}, .ret (.some ↑3)} .nil, .bD 3 (.call .e7 {↑0,↑1}), .aU (.au .fj ↑2 (.J {⇑lb,⇑jw,⇑rX,⇑ci,⇑de})) {.bD 1 (.call .ji {↑1,⇑Ii})} .nil, .ret (.some (.aE .add ↑3 (.call .d7 {.call .ca {.oq ↑0 (.some ↥1) .none .none},↑1})))}⟩
abbrev K8:Fn:=⟨2,4,{.bD 2 (.aD true .nil), .ej (.dj 3) (.seq ↑0) {.ext ↑2 (.call .m2 {↑3,↑1})}, .ret (.some ↑2)}⟩
abbrev BR:Fn:=⟨1,2,{.pM .jM ↑0, .ret (.some ⇑q_)}⟩
abbrev aal:Fn:=⟨1,6,{.bD 0 (.oq ↑0 .none (.some ↥63) .none), .bD 1 (.call .qF .nil), .ej (.aO [2,3]) (.oU ↑1) {.bD 4 (.call .oR {↑3, .aD true {.b1 .sum (.oq ↑0 (.some ↑2) .none (.some (.b1 .len ↑1)))}}), .bD 5 (.call .d7 {.call .ca {↑4}, .call .hZ {⇑q_, .az .none, .az (.bool true), .az (.bool false)}}), .aU (.au .ne (.call .l8 {↑4}) (.aw (.aE .add ↑5 (.aD false {⇑q_})) ↥0)) {.ret (.some (.az (.bool false)))} .nil}, .ret (.some (.az (.bool true)))}⟩
abbrev aam (i:Nat):Fn:=(cond (Nat.blt i 36) (cond (Nat.blt i 18) (cond (Nat.blt i 9) (cond (Nat.blt i 4) (cond (Nat.blt i 2) (cond (Nat.blt i 1) FS Tw) (cond (Nat.blt i 3) uV K5)) (cond (Nat.blt i 6) (cond (Nat.blt i 5) K6 CV) (cond (Nat.blt i 7) xo (cond (Nat.blt i 8) Ij FT)))) (cond (Nat.blt i 13) (cond (Nat.blt i 11) (cond (Nat.blt i 10) K7 zS) (cond (Nat.blt i 12) m9 zT)) (cond (Nat.blt i 15) (cond (Nat.blt i 14) BM vO) (cond (Nat.blt i 16) CW (cond (Nat.blt i 17) uW zU))))) (cond (Nat.blt i 27) (cond (Nat.blt i 22) (cond (Nat.blt i 20) (cond (Nat.blt i 19) xq BN) (cond (Nat.blt i 21) CX CY)) (cond (Nat.blt i 24) (cond (Nat.blt i 23) yC nY) (cond (Nat.blt i 25) CZ (cond (Nat.blt i 26) zV tR)))) (cond (Nat.blt i 31) (cond (Nat.blt i 29) (cond (Nat.blt i 28) lf FU) (cond (Nat.blt i 30) zW Ik)) (cond (Nat.blt i 33) (cond (Nat.blt i 32) Il Im) (cond (Nat.blt i 34) FV (cond (Nat.blt i 35) FW Tx)))))) (cond (Nat.blt i 54) (cond (Nat.blt i 45) (cond (Nat.blt i 40) (cond (Nat.blt i 38) (cond (Nat.blt i 37) C0 BO) (cond (Nat.blt i 39) iU Io)) (cond (Nat.blt i 42) (cond (Nat.blt i 41) Ip FX) (cond (Nat.blt i 43) FY (cond (Nat.blt i 44) Iq uX)))) (cond (Nat.blt i 49) (cond (Nat.blt i 47) (cond (Nat.blt i 46) C1 gw) (cond (Nat.blt i 48) Ir nL)) (cond (Nat.blt i 51) (cond (Nat.blt i 50) yD C2) (cond (Nat.blt i 52) xr (cond (Nat.blt i 53) yE C3))))) (cond (Nat.blt i 63) (cond (Nat.blt i 58) (cond (Nat.blt i 56) (cond (Nat.blt i 55) FZ F2) (cond (Nat.blt i 57) zX BQ)) (cond (Nat.blt i 60) (cond (Nat.blt i 59) C4 zY) (cond (Nat.blt i 61) zZ (cond (Nat.blt i 62) F3 zz)))) (cond (Nat.blt i 67) (cond (Nat.blt i 65) (cond (Nat.blt i 64) F4 z0) (cond (Nat.blt i 66) nZ Iu)) (cond (Nat.blt i 69) (cond (Nat.blt i 68) xt Ea) (cond (Nat.blt i 70) K8 (cond (Nat.blt i 71) BR aal)))))))
abbrev code (f:F):Fn:=aam f.i.val
abbrev abt (i:Nat):Nat:=(cond (Nat.blt i 36) (cond (Nat.blt i 18) (cond (Nat.blt i 9) (cond (Nat.blt i 4) (cond (Nat.blt i 2) (cond (Nat.blt i 1) 4 6) (cond (Nat.blt i 3) 8 9)) (cond (Nat.blt i 6) (cond (Nat.blt i 5) 10 11) (cond (Nat.blt i 7) 12 (cond (Nat.blt i 8) 13 14)))) (cond (Nat.blt i 13) (cond (Nat.blt i 11) (cond (Nat.blt i 10) 15 16) (cond (Nat.blt i 12) 17 18)) (cond (Nat.blt i 15) (cond (Nat.blt i 14) 19 20) (cond (Nat.blt i 16) 21 (cond (Nat.blt i 17) 22 23))))) (cond (Nat.blt i 27) (cond (Nat.blt i 22) (cond (Nat.blt i 20) (cond (Nat.blt i 19) 24 25) (cond (Nat.blt i 21) 26 27)) (cond (Nat.blt i 24) (cond (Nat.blt i 23) 28 29) (cond (Nat.blt i 25) 30 (cond (Nat.blt i 26) 31 32)))) (cond (Nat.blt i 31) (cond (Nat.blt i 29) (cond (Nat.blt i 28) 33 34) (cond (Nat.blt i 30) 35 37)) (cond (Nat.blt i 33) (cond (Nat.blt i 32) 38 39) (cond (Nat.blt i 34) 40 (cond (Nat.blt i 35) 41 42)))))) (cond (Nat.blt i 54) (cond (Nat.blt i 45) (cond (Nat.blt i 40) (cond (Nat.blt i 38) (cond (Nat.blt i 37) 43 44) (cond (Nat.blt i 39) 45 46)) (cond (Nat.blt i 42) (cond (Nat.blt i 41) 47 48) (cond (Nat.blt i 43) 49 (cond (Nat.blt i 44) 50 51)))) (cond (Nat.blt i 49) (cond (Nat.blt i 47) (cond (Nat.blt i 46) 52 53) (cond (Nat.blt i 48) 54 55)) (cond (Nat.blt i 51) (cond (Nat.blt i 50) 56 57) (cond (Nat.blt i 52) 58 (cond (Nat.blt i 53) 59 60))))) (cond (Nat.blt i 63) (cond (Nat.blt i 58) (cond (Nat.blt i 56) (cond (Nat.blt i 55) 61 62) (cond (Nat.blt i 57) 63 64)) (cond (Nat.blt i 60) (cond (Nat.blt i 59) 65 66) (cond (Nat.blt i 61) 67 (cond (Nat.blt i 62) 68 69)))) (cond (Nat.blt i 67) (cond (Nat.blt i 65) (cond (Nat.blt i 64) 70 71) (cond (Nat.blt i 66) 72 73)) (cond (Nat.blt i 69) (cond (Nat.blt i 68) 74 75) (cond (Nat.blt i 70) 76 (cond (Nat.blt i 71) 77 78)))))))
abbrev K9 (f:F):Nat:=abt f.i.val
set_option backward.match.sparseCases false
variable {e e2:E} {op:Cm} {ss:Ss} {bD:D→↑V→R ↑V} {fl:Fl} {ρ1:↑V} {σ1 d8 uJ vr:St}
section
variable {t:V} {m:Str}
theorem bo {r:R α} {f:α→R β} {a:α} {b:R β} (h:r= .ok a) (h2:f a=b):r.bind f=b:=by refine ae h ?_;exact h2
theorem bx {r:R α} {f:α→R β} (h:r= .dW m):r.bind f= .dW m:=by refine ae h ?_;rfl
theorem ab:ev K (.az d) ρ σ= .ok (.d d,σ):=rfl
theorem aa {x:Nat} (h:ρ[x]?=some (.d d)):ev K (.var x) ρ σ= .ok (.d d,σ):=bo (aC qL h) H
theorem cV {x:Nat} (h:ρ[x]?=some (.ref n)):ev K (.var x) ρ σ= .ok (.ref n,σ):=bo (aC qL h) H
theorem bw {x:Nat} {l:↑(Str×At)} (h:ρ[x]?=some (.eO l)):ev K (.var x) ρ σ= .ok (.eO l,σ):=bo (aC qL h) H
theorem aq:i3 K .nil ρ σ= .ok ([],σ):=rfl
theorem ac {es:Es} {vs:↑V} (h:ev K e ρ σ= .ok (v,σ1)) (h2:i3 K es ρ σ1= .ok (vs,d8)):i3 K (.cons e es) ρ σ= .ok (v::vs,d8):=bo h (bo h2 H)
theorem aV {es:Es} {vs:↑V} (h:i3 K es ρ σ= .ok (vs,σ1)) (h2:wm vs= .ok l):ev K (.J es) ρ σ= .ok (.d (.J l),σ1):=bo h (bo h2 H)
theorem dn {es:Es} {vs:↑V} (h:i3 K es ρ σ= .ok (vs,σ1)) (h2:wm vs= .ok l):ev K (.aD false es) ρ σ= .ok (.d (.aD l),σ1):=bo h (bo h2 H)
theorem fA {es:Es} {vs:↑V} (h:i3 K es ρ σ= .ok (vs,σ1)) (h2:wm vs= .ok l):ev K (.aD true es) ρ σ= .ok (.ref σ1.length,σ1++[.list l]):=bo h (bo h2 H)
theorem kR {ks:↑Str} {es:Es} {vs:↑V} {l:↑(Str×At)} (h:i3 K es ρ σ= .ok (vs,σ1)) (h2:ta ks vs= .ok l):ev K (.eO ks es) ρ σ= .ok (.eO l,σ1):=bo h (bo h2 H)
theorem aR {i:E} (h:ev K e ρ σ= .ok (v,σ1)) (h2:ev K i ρ σ1= .ok (.d x,d8)) (h3:gT d8 v x= .ok u):ev K (.aw e i) ρ σ= .ok (u,d8):=bo h (bo h2 (bo H (bo h3 H)))
theorem lA {a b c:Oe} {y:D} (h:ev K e ρ σ= .ok (v,σ1)) (h2:yb K a ρ σ1= .ok (x,d8)) (h3:yb K b ρ d8= .ok (y,uJ)) (h4:yb K c ρ uJ= .ok (z,vr)) (h5:jU v x y z= .ok u):ev K (.oq e a b c) ρ σ= .ok (u,vr):=bo h (bo h2 (bo h3 (bo h4 (bo h5 H))))
theorem iI:yb K .none ρ σ= .ok (.none,σ):=rfl
theorem oi (h:ev K e ρ σ= .ok (.d x,σ1)):yb K (.some e) ρ σ= .ok (x,σ1):=bo h H
theorem cG {op:Op} {a b:E} (h:ev K a ρ σ= .ok (v,σ1)) (h2:ev K b ρ σ1= .ok (u,d8)) (h3:jj d8 op v u= .ok (t,uJ)):ev K (.aE op a b) ρ σ= .ok (t,uJ):=bo h (bo h2 h3)
theorem ak {a b:E} {c:Bool} (h:ev K a ρ σ= .ok (v,σ1)) (h2:ev K b ρ σ1= .ok (u,d8)) (h3:ek d8 op v u= .ok c):ev K (.au op a b) ρ σ= .ok (.d (.bool c),d8):=bo h (bo h2 (bo h3 H))
theorem jc {c:Bool} (h:ev K e ρ σ= .ok (.d (.bool b),σ1)) (hc:(!b)=c):ev K (.not e) ρ σ= .ok (.d (.bool c),σ1):=by subst hc;exact bo h H
theorem bW (h:ev K e ρ σ= .ok (v,σ1)):ev K (.and (.cons e .nil)) ρ σ= .ok (v,σ1):=h
theorem cA {es:Es} (h:ev K e ρ σ= .ok (.d (.bool false),σ1)):ev K (.and (.cons e (.cons e2 es))) ρ σ= .ok (.d (.bool false),σ1):=bo h H
theorem aY {es:Es} (h:ev K e ρ σ= .ok (.d (.bool true),σ1)) (h2:ev K (.and (.cons e2 es)) ρ σ1=r):ev K (.and (.cons e (.cons e2 es))) ρ σ=r:=bo h h2
theorem gx (h:ev K e ρ σ= .ok (v,σ1)):ev K (.or (.cons e .nil)) ρ σ= .ok (v,σ1):=h
theorem jQ {es:Es} (h:ev K e ρ σ= .ok (.d (.bool true),σ1)):ev K (.or (.cons e (.cons e2 es))) ρ σ= .ok (.d (.bool true),σ1):=bo h H
theorem gy {es:Es} (h:ev K e ρ σ= .ok (.d (.bool false),σ1)) (h2:ev K (.or (.cons e2 es)) ρ σ1=r):ev K (.or (.cons e (.cons e2 es))) ρ σ=r:=bo h h2
theorem ik {c a b:E} (h:ev K c ρ σ= .ok (.d (.bool true),σ1)) (h2:ev K a ρ σ1=r):ev K (.ite c a b) ρ σ=r:=bo h h2
theorem iJ {c a b:E} (h:ev K c ρ σ= .ok (.d (.bool false),σ1)) (h2:ev K b ρ σ1=r):ev K (.ite c a b) ρ σ=r:=bo h h2
theorem an {es:Es} {vs:↑V} (h:i3 K es ρ σ= .ok (vs,σ1)) (h2:K f vs σ1=r):ev K (.call f es) ρ σ=r:=bo h h2
theorem fB {b:B1} (h:ev K e ρ σ= .ok (v,σ1)) (h2:mF σ1 b v=r):ev K (.b1 b e) ρ σ=r:=bo h h2
theorem abu {b:B2} {a c:E} {z:Str} (h:ev K a ρ σ= .ok (.d (.str z),σ1)) (h2:ev K c ρ σ1= .ok (u,d8)) (h3:Jq d8 b z u= .ok v):ev K (.b2 b a c) ρ σ= .ok (v,d8):=bo h (bo H (bo H (bo h2 (bo h3 H))))
theorem fH (h:ev K e ρ σ= .ok (v,σ1)) (h2:oF v= .ok l):i8 K (.seq e) ρ σ= .ok (l,σ1):=bo h (bo h2 H)
theorem tS {i:Int} (h:ev K e ρ σ= .ok (.d (.int i),σ1)) (h2:0≤i∧i<2^62):i8 K (.range e) ρ σ= .ok (iC i.toNat,σ1):=bo h (ao h2)
theorem Wz (h:ev K e ρ σ= .ok (.d (.aD l),σ1)):i8 K (.oU e) ρ σ= .ok (rK 0 l,σ1):=bo h H
theorem p8 {m:Nat} (hd:QF d= .ok m) (h:m<2^62):mF σ .len (.d d)= .ok (.d (.int m),σ):=by
 show((QF d).bind λn=>if n<2^62 then R.ok (D.int n)else .aQ).bind (λy=>R.ok (V.d y,σ))=_
 refine ae hd ?_;exact bo (ao h) H
theorem M9 {i:Int} (h:0≤i∧i<1000000):mF σ .str (.d (.int i))= .ok (.d (.str (Str.ofString (toString i))),σ):=by
 show(if 0≤i∧i<1000000 then R.ok (D.str (Str.ofString (toString i)))else .aQ).bind (λy=>R.ok (V.d y,σ))=_
 refine ae (ao h) ?_;rfl
theorem p9 (h:σ[i]?=some (.list l)):m3 σ (.ref i)= .ok l:=by show eQ σ[i]?=_;refine ae h ?_;rfl
theorem yF {a b:V} {m:↑D} (ha:m3 σ a= .ok l) (hb:m3 σ b= .ok m) (h:l.length+m.length≤aT):ya σ a b= .ok (l++m):=bo ha (bo hb (ao h))
theorem Iv {a b:V} (hr:(EP a||EP b)=true) (h:ya σ a b= .ok l):jj σ .add a b= .ok (.d (.aD l),σ):=(ao hr).trans (bo h H)
theorem vP {a b:Int} (h:b≠0∧b.natAbs<1000000):jj σ .fdiv (.d (.int a)) (.d (.int b))= .ok (.d (.int (a.fdiv b)),σ):=by
 show(if b≠0∧b.natAbs<1000000 then R.ok (D.int (a.fdiv b))else .aQ).bind (λy=>R.ok (V.d y,σ))=_
 refine ae (ao h) ?_;rfl
theorem yG {a b:Int} (h:b≠0):jj σ .mod (.d (.int a)) (.d (.int b))= .ok (.d (.int (a.fmod b)),σ):=by
 show(if b≠0 then R.ok (D.int (a.fmod b))else .aQ).bind (λy=>R.ok (V.d y,σ))=_
 refine ae (ao h) ?_;rfl
theorem ay:bg K w .nil ρ σ= .ok (.next,ρ,σ):=rfl
theorem af {s:S} {r:R (Fl×↑V×St)} (h:ex K w s ρ σ= .ok (.next,ρ1,σ1)) (h2:bg K w ss ρ1 σ1=r):bg K w (.cons s ss) ρ σ=r:=bo h h2
theorem bB {s:S} (h:ex K w s ρ σ= .ok (.ret v,ρ1,σ1)):bg K w (.cons s ss) ρ σ= .ok (.ret v,ρ1,σ1):=bo h H
theorem yH {s:S} (h:ex K w s ρ σ= .ok (.cont,ρ1,σ1)):bg K w (.cons s ss) ρ σ= .ok (.cont,ρ1,σ1):=bo h H
theorem bc {s:S} (h:ex K w s ρ σ= .dW m):bg K w (.cons s ss) ρ σ= .dW m:=bx h
theorem aJ {x:Nat} (h:ev K e ρ σ= .ok (v,σ1)):ex K w (.bD x e) ρ σ= .ok (.next,ρ.set x v,σ1):=bo h H
theorem F5 {xs:↑Nat} (h:ev K e ρ σ= .ok (.d (.J l),σ1)) (h2:l.length=xs.length):ex K w (.qJ xs e) ρ σ= .ok (.next,(xs.zip l).foldl (λr p=>r.set p.1 (.d p.2)) ρ,σ1):=bo h (bo (ao h2) H)
theorem aA {c:E} {a b:Ss} {r:R (Fl×↑V×St)} (h:ev K c ρ σ= .ok (.d (.bool true),σ1)) (h2:bg K w a ρ σ1=r):ex K w (.aU c a b) ρ σ=r:=by
 exact bo h h2
theorem bi {c:E} {a b:Ss} {r:R (Fl×↑V×St)} (h:ev K c ρ σ= .ok (.d (.bool false),σ1)) (h2:bg K w b ρ σ1=r):ex K w (.aU c a b) ρ σ=r:=by
 exact bo h h2
theorem Au:ex K w (.ret .none) ρ σ= .ok (.ret (.d .none),ρ,σ):=rfl
theorem Av (h:ev K e ρ σ= .ok (v,σ1)):ex K w (.ret (.some e)) ρ σ= .ok (.ret v,ρ,σ1):=bo h H
theorem aI {j:D} (h:ρ[i]?=some (.d x)) (h2:gT σ (.d x) j= .ok u):ev K (.aw (.var i) (.az j)) ρ σ= .ok (u,σ):=aR (aa h) ab h2
theorem cX {y j:D} {c:Bool} (h:ρ[i]?=some (.d x)) (h2:gT σ (.d x) j= .ok u) (h3:ek σ op u (.d y)= .ok c):ev K (.au op (.aw (.var i) (.az j)) (.az y)) ρ σ= .ok (.d (.bool c),σ):=ak (aI h h2) ab h3
theorem bF {y:D} {c:Bool} (h:ρ[i]?=some (.d x)) (h3:ek σ op (.d x) (.d y)= .ok c):ev K (.au op (.var i) (.az y)) ρ σ= .ok (.d (.bool c),σ):=ak (aa h) ab h3
theorem sM {y:D}:i3 K {.az x, .az y} ρ σ= .ok ([.d x, .d y],σ):=rfl
theorem f9:i3 K {.az x} ρ σ= .ok ([.d x],σ):=rfl
theorem fC {y:D}:i3 K {.az x, .az y, .az z} ρ σ= .ok ([.d x, .d y, .d z],σ):=rfl
theorem ec {y:D}:ev K (.J {.az x, .az y}) ρ σ= .ok (.d (.J [x,y]),σ):=rfl
theorem ei (h:ρ[i]?=some (.d x)):i3 K {.var i} ρ σ= .ok ([.d x],σ):=ac (aa h) aq
theorem gR {j:D} (h:ρ[i]?=some (.d x)) (h2:gT σ (.d x) j= .ok u):i3 K {.aw (.var i) (.az j)} ρ σ= .ok ([u],σ):=ac (aI h h2) aq
theorem bq (h:ev K e ρ σ= .ok (v,σ1)):bg K w (.cons (.ret (.some e)) ss) ρ σ= .ok (.ret v,ρ,σ1):=bB (Av h)
theorem aK {c:E} {a:Ss} {r:R (Fl×↑V×St)} (h:ev K c ρ σ= .ok (.d (.bool false),σ1)) (h2:bg K w ss ρ σ1=r):bg K w (.cons (.aU c a .nil) ss) ρ σ=r:=af (bi h ay) h2
theorem fI {x:Str} (h:ev K e ρ σ= .ok (.d (.str x),σ1)):ex K w (.dU e) ρ σ= .dW x:=bo h H
theorem F6:ex K w .cont ρ σ= .ok (.cont,ρ,σ):=rfl
theorem i6 (h:ev K e ρ σ= .ok (.d .none,σ1)):ex K w (.dC e) ρ σ= .ok (.next,ρ,σ1):=bo h H
theorem kr (h:ev K e ρ σ= .dW m):ex K w (.dC e) ρ σ= .dW m:=bx h
theorem lc (h:σ[n]?=some (.list l)):eQ σ[n]?= .ok l:=aC eQ h
theorem mO {r:E} {l2:↑D} (h:ev K r ρ σ= .ok (.ref n,σ1)) (h1:σ1[n]?=some (.list l)) (h2:ev K e ρ σ1= .ok (.d x,d8)) (h3:d8[n]?=some (.list l2)) (h4:l2.length<aT):ex K w (.jh r e) ρ σ= .ok (.next,ρ,d8.set n (.list (l2++[x]))):=
 bo h (bo (bo H (bo (lc h1) H)) (bo h2 (bo (bo H (bo (lc h3) (bo H (ao h4)))) H)))
theorem K' {r:E} {l2 k:↑D} (h:ev K r ρ σ= .ok (.ref n,σ1)) (h1:σ1[n]?=some (.list l)) (h2:ev K e ρ σ1= .ok (v,d8)) (hk:Mj v= .ok k) (h3:d8[n]?=some (.list l2)) (h4:l2.length+k.length≤aT):ex K w (.ext r e) ρ σ= .ok (.next,ρ,d8.set n (.list (l2++k))):=
 bo h (bo (bo H (bo (lc h1) H)) (bo h2 (bo (bo H (bo (lc h3) (bo hk (ao h4)))) H)))
theorem Tz {r i:E} {q:V} (h:ev K e ρ σ= .ok (v,σ1)) (h2:ev K r ρ σ1= .ok (q,d8)) (h3:ev K i ρ d8= .ok (.d x,uJ)) (h4:GS uJ q x v= .ok vr):ex K w (.ui r i e) ρ σ= .ok (.next,ρ,vr):=
 bo h (bo h2 (bo h3 (bo (bo H h4) H)))
theorem TA {x:Nat} {a b:Int} (h:ev K (.var x) ρ σ= .ok (.d (.int a),σ1)) (h2:ev K e ρ σ1= .ok (.d (.int b),d8)):ex K w (.QB x e) ρ σ= .ok (.next,ρ.set x (.d (.int (a -b))),d8):=
 bo h (bo h2 H)
theorem nS {x:E} (e:E):It.seq x≠ .sU e:=nofun
theorem nR {x:E} (e:E):It.range x≠ .sU e:=nofun
theorem nE {x:E} (e:E):It.oU x≠ .sU e:=nofun
theorem gL {t:Tg} {it:It} {b:Ss} {r:R (Fl×↑V×St)} (hf:∀e,it≠ .sU e) (h:i8 K it ρ σ= .ok (l,σ1)) (h2:cW (λx=>bk t (.d x)) (λρ σ=>bg K w b ρ σ) l ρ σ1=r):ex K w (.ej t it b) ρ σ=r:=by
 induction it using It.casesOn with
 |sU e=>exact al H (hf e)
 |_=>exact bo h h2
theorem TB {f:↑V→St→R (Fl×↑V×St)}:cW bD f [] ρ σ= .ok (.next,ρ,σ):=rfl
theorem fc {f:↑V→St→R (Fl×↑V×St)} {xs:↑D} {r:R (Fl×↑V×St)} (h:bD x ρ= .ok ρ1) (h2:f ρ1 σ= .ok (fl,ρ2,σ1)) (hf:fl= .next∨fl= .cont) (h3:cW bD f xs ρ2 σ1=r):cW bD f (x::xs) ρ σ=r:=by
 refine bo h (bo h2 ?_)
 rcases hf with rfl|rfl<;>exact h3
theorem TC {f:↑V→St→R (Fl×↑V×St)} {xs:↑D} (h:bD x ρ= .ok ρ1) (h2:f ρ1 σ= .ok (.ret v,ρ2,σ1)):cW bD f (x::xs) ρ σ= .ok (.ret v,ρ2,σ1):=bo h (bo h2 H)
theorem tT {f:↑V→St→R (Fl×↑V×St)} {xs:↑D} (h:bD x ρ= .ok ρ1) (h2:f ρ1 σ= .dW m):cW bD f (x::xs) ρ σ= .dW m:=bo h (bx h2)
end
theorem Iw:∀(k:↑(Str×At)),mG k=[]→te (en []) k=k
 |[],_=>rfl
 |(s, .d x)::k,h=>aC ((s,At.d x)::·) (Iw k h)
 |(s, .ref m)::k,h=>nomatch (h:m::mG k=[])
theorem pf:∀(l:↑V),cv l=[]→l.map (kX (en []))=l
 |[],_=>rfl
 | .un::l,h=>aC (V.un::·) (pf l h)
 | .d x::l,h=>aC (V.d x::·) (pf l h)
 | .ref n::l,h=>nomatch (h:n::cv l=[])
 | .eO k::l,h=>by
  have h:=List.append_eq_nil_iff.mp (h:mG k++cv l=[])
  rw [ef];refine ae (pf l h.2) ?_
  show V.eO (te (en []) k)::l=_
  exact ae (Iw k h.1) H
section
variable {m:Str}
theorem bG (hr:cv args=[]) (hl:args.length=(code f).params) (h:bg (call code n) n (code f).body (args++List.replicate ((code f).slots -(code f).params) .un) []= .ok (fl,ρ1,σ1)) (h2:gh [] σ σ1 (wu fl)=r):call code (n+1) f args σ=r:=by
 show iu (code f) (bg (call code n) n (code f).body) args σ=_
 unfold iu
 rw [ao ⟨hl,by rw [hr];exact List.nodup_nil⟩];refine ae hr ?_
 refine bo H ?_
 rw [pf args hr]
 refine bo h ?_
 exact h2
theorem lB (hr:cv args=[]) (hl:args.length=(code f).params) (h:bg (call code n) n (code f).body (args++List.replicate ((code f).slots -(code f).params) .un) []= .dW m):call code (n+1) f args σ= .dW m:=by
 show iu (code f) (bg (call code n) n (code f).body) args σ=_
 unfold iu
 rw [ao ⟨hl,by rw [hr];exact List.nodup_nil⟩];refine ae hr ?_
 refine bo H ?_
 rw [pf args hr]
 exact bx h
theorem dp (hr:cv args=rs) (hl:args.length=(code f).params) (hn:rs.Nodup) (hg:i5 σ rs= .ok cells)
  (h:bg (call code n) n (code f).body (args.map (kX (en rs))++List.replicate ((code f).slots -(code f).params) .un) cells= .ok (fl,ρ1,σ1)) (hi:(σ1.take rs.length).all GU=true) (h2:gh rs σ σ1 (wu fl)=r):call code (n+1) f args σ=r:=by
 show iu (code f) (bg (call code n) n (code f).body) args σ=_
 unfold iu
 subst hr
 refine ae (ao ⟨hl,hn⟩) ?_
 refine bo hg (bo h ?_)
 refine ae (ao hi) ?_
 exact h2
theorem mh (hr:cv args=rs) (hl:args.length=(code f).params) (hn:rs.Nodup) (hg:i5 σ rs= .ok cells)
  (h:bg (call code n) n (code f).body (args.map (kX (en rs))++List.replicate ((code f).slots -(code f).params) .un) cells= .dW m):call code (n+1) f args σ= .dW m:=by
 show iu (code f) (bg (call code n) n (code f).body) args σ=_
 unfold iu
 subst hr
 refine ae (ao ⟨hl,hn⟩) ?_
 exact bo hg (bx h)
end
mutual
noncomputable def sz:D→Nat
 | .J l=>1+b9 l
 | .aD l=>1+b9 l
 |_=>1
noncomputable def b9:↑D→Nat
 |[]=>0
 |x::r=>sz x+b9 r
end
mutual
noncomputable def ht:D→Nat
 | .J l=>1+cD l
 |_=>0
noncomputable def cD:↑D→Nat
 |[]=>0
 |x::r=>max (ht x) (cD r)
end
theorem sb (d:D):1≤sz d:=by induction d using D.casesOn<;>simp [sz]
theorem Ix (a b:↑D):b9 (a++b)=b9 a+b9 b:=by
 induction a with
 |nil=>simp [b9]
 |cons x a ih=>simp [b9,ih];simp+arith only
theorem jG (a:↑D):a.length≤b9 a:=by
 induction a with
 |nil=>simp
 |cons x a ih=>have:=sb x;dsimp only [b9,List.length_cons];exact aS ih this
theorem ku (h:x∈l):ht x≤cD l:=by
 induction l with
 |nil=>cases h
 |cons y l ih=>
  rcases cM.mp h with rfl|h
  ·exact fU _ _
  ·exact u7 (ih h)
theorem tU (h:x∈l):sz x≤b9 l:=by
 induction l with
 |nil=>cases h
 |cons y l ih=>
  dsimp only [b9]
  rcases cM.mp h with rfl|h
  ·simp+arith only
  ·have:=ih h;exact av this
theorem Iy (a b:↑D):cD (a++b)=max (cD a) (cD b):=by
 induction a with
 |nil=>simp [cD]
 |cons x a ih=>dsimp only [List.cons_append,cD];refine ae ih ?_;rw [Nat.max_assoc]
abbrev fN:↑Str:=[jP,pW,bN,kJ,tN,cr,gU,dO,k7,ut,cQ,dB,d9,fS,M4,FO,FP,M5,pX,pY,Ar,rW,xe,xf,m7,xg,xh,xi,xj,f7,dk,cU,jv,cy,gK,dH,ey,iG,iH,c7,ow,As,nK,lb,jw,rX,ci,de,cL,bS,b8,ee,bV,eC,fP,gc,gq,gZ,rY]
theorem xu:call code (n+1) .rG [] σ= .ok (.d (.J (fN.map .str)),σ):=rfl
mutual
noncomputable def cR:D→↑D
 | .J []=>[]
 | .J (x::r)=>match x with
  | .str k=>if fN.contains k then[.J (x::r)]else eY (x::r)
  |_=>eY (x::r)
 |_=>[]
noncomputable def eY:↑D→↑D
 |[]=>[]
 |x::r=>cR x++eY r
end
theorem jd (k:Str) (l:↑Str):vd (.str k) (l.map .str)= .ok (l.contains k):=by
 induction l with
 |nil=>rfl
 |cons x l ih=>
  show(R.ok (x==k)).bind (λb=>(vd (.str k) (l.map .str)).bind λc=> .ok (b||c))=R.ok (k==x||l.contains k)
  refine ae ih (ae Bool.beq_comm ?_);rfl
mutual
theorem Pl:∀d:D,b9 (cR d)≤sz d
 | .J []=>dK _
 | .J (x::r)=>by
  have h:b9 (eY (x::r))≤sz (.J (x::r)):=aM (lC (x::r)) (jp _ 1)
  induction x using D.casesOn with
  |str k=>
   show b9 (if fN.contains k=true then[.J (.str k::r)]else eY (.str k::r))≤_
   split
   ·exact cF _
   ·exact h
  |_=>exact h
 | .none| .bool _| .int _| .str _| .aD _=>dK _
theorem lC:∀l:↑D,b9 (eY l)≤b9 l
 |[]=>cF _
 |x::r=>aM (Nat.le_of_eq (Ix (cR x) (eY r))) (jT (Pl x) (lC r))
end
theorem sd {bD:D→R ↑V} {f:↑V→↑D→St→R (↑D×St)} {σ:St} (g:D→↑D):∀{xs acc:↑D},(acc++xs.flatMap g).length≤aT→
  (∀x∈xs,∀acc:↑D,(acc++g x).length≤aT→∃ρ,bD x= .ok ρ∧f ρ acc σ= .ok (acc++g x,σ))→j8 bD f xs acc σ= .ok (acc++xs.flatMap g,σ)
 |[],acc,_,_=>by refine ae List.flatMap_nil ?_;rw [b6];rfl
 |x::xs,acc,hb,h=>by
  obtain ⟨ρ,h1,h2⟩:=h x bZ acc (by simp at hb⊢;exact av hb)
  have:=sd (bD:=bD) (f:=f) (σ:=σ) g (xs:=xs) (acc:=acc++g x) (by simpa using hb) λy hy=>h y (bY _ hy)
  show(bD x).bind (λρ=>(f ρ acc σ).bind λp=>j8 bD f xs p.1 p.2)=_
  refine ae h1 ?_
  show(f ρ acc σ).bind (λp=>j8 bD f xs p.1 p.2)=_
  rw [h2,List.flatMap_cons,←aX]
  exact this
theorem xv (l:↑D):l.flatMap cR=eY l:=by
 induction l with
 |nil=>rfl
 |cons x l ih=>refine ae List.flatMap_cons (ae ih ?_);rfl
theorem Iz {acc:↑D} (h:(acc++[x]).length≤aT):uQ acc x σ= .ok (acc++[x],σ):=by
 unfold uQ
 exact ae (ao (by simp at h;exact av h)) H
theorem BS (ih:∀x∈l,∀σ,call code n .ca [.d x] σ= .ok (.d (.aD (cR x)),σ)) (hs:sz (.J l)≤aT) (hn:1≤n):
  call code (n+1) .ca [.d (.J l)] σ= .ok (.d (.aD (cR (.J l))),σ):=by
 obtain ⟨n,rfl⟩:∃k,n=k+1:=Nat.exists_eq_add_of_le' (av hn)
 have comp:∀ρ:↑V,ρ[0]?=some (.d (.J l))→ev (call code (n+1)) (.s9 [] 2 (.dj 0) (.seq ↑0) (.dj 1) (.seq (.call .ca {↑0})) ↑1) ρ []= .ok (.d (.aD (eY l)),[]):=by
  intro ρ hρ
  have key:=sd (bD:=λv=>nx (.dj 0) v (iD ρ []++List.replicate 2 .un)) (f:=λbX acc σ=>(i8 (call code (n+1)) (.seq (.call .ca {↑0})) bX σ).bind λr=>
    j8 (λv=>nx (.dj 1) v bX) (λGV acc σ=>(ev (call code (n+1)) ↑1 GV σ).bind λq=>(gI q.1).bind λx=>uQ acc x q.2) r.1 acc r.2) (σ:=[]) cR (xs:=l) (acc:=[]) (by
     have:=jG (eY l)
     have h2:=lC l
     dsimp only [sz]at hs
     rw [xv];simp;exact fY this h2 hs) λx hx acc hb=>by
   refine ⟨[.d x, .un],rfl,bo (fH (an (ei H) (ih x hx [])) H) ?_⟩
   have:=sd (bD:=λv=>nx (.dj 1) v [.d x, .un]) (f:=λGV acc σ=>(ev (call code (n+1)) ↑1 GV σ).bind λq=>(gI q.1).bind λx=>uQ acc x q.2) (σ:=[]) (λy=>[y]) (xs:=cR x) (acc:=acc) (by simpa using hb) λy hy acc hb=>by
    exact ⟨[.d x, .d y],rfl,bo (aa H) (bo H (Iz hb))⟩
   simpa using this
  refine bo (fH (aa hρ) H) (bo (?_:ql _= .ok (eY l,[])) H)
  rw [←xv]
  exact aC ql key
 induction l using bu with
 |nil=>
  refine bG H rfl (bB (aA (gy (jc (fB (aa H) H) H) (gx (ak (aa H) (aV aq H) H))) (bq (dn aq H)))) H
 |cons x r=>
  have h1:ex (call code (n+1)) (n+1) (.aU (.or {.not (.b1 .nU ↑0), .au .eq ↑0 (.J .nil)}) {.ret (.some (.aD false .nil))} .nil) [.d (.J (x::r))] []= .ok (.next,[.d (.J (x::r))],[]):=
   bi (gy (jc (fB (aa H) H) H) (gx (ak (aa H) (aV aq H) H))) ay
  have TD:∀b,mF [] .qi (.d x)= .ok (.d (.bool b),[])→b=false→call code (n+1+1) .ca [.d (.J (x::r))] σ= .ok (.d (.aD (eY (x::r))),σ):=by
   rintro b hb rfl
   exact bG H rfl (af h1 (aK (cA (fB (aI H rfl) hb)) (bq (comp _ rfl)))) H
  induction x using D.casesOn with
  |str k=>
   have qR:ek [] .fj (.d (.str k)) (.d (.J (fN.map .str)))= .ok (fN.contains k):=jd k fN
   generalize hk:fN.contains k=o0;induction o0 using ar with
   |true=>
    rw [hk]at qR
    have:cR (.J (.str k::r))=[.J (.str k::r)]:=ao hk
    refine ae this ?_
    exact bG H rfl (af h1 (bB (aA (aY (fB (aI H rfl) H) (bW (ak (aI H rfl) (an aq xu) qR))) (bq (dn (ei H) H))))) H
   |false=>
    rw [hk]at qR
    have:cR (.J (.str k::r))=eY (.str k::r):=aN (by refine ae hk ?_;exact gA)
    refine ae this ?_
    exact bG H rfl (af h1 (aK (aY (fB (aI H rfl) H) (bW (ak (aI H rfl) (an aq xu) qR))) (bq (comp _ rfl)))) H
  |none=>exact TD _ rfl rfl
  |bool b=>exact TD _ rfl rfl
  |int i=>exact TD _ rfl rfl
  |J l=>exact TD _ rfl rfl
  |aD l=>exact TD _ rfl rfl
theorem iK (n:Nat):∀(x:D) (σ:St),ht x+2≤n→sz x≤aT→call code n .ca [.d x] σ= .ok (.d (.aD (cR x)),σ):=by
 induction n with
 |zero=>
  intro x σ h _
  lia
 |succ n dS=>
  intro x σ h hs
  induction x using D.casesOn with
  |J l=>
   dsimp only [ht]at h
   refine BS (λy hy σ=>dS y σ (by have:=ku hy;exact aS this h) (by have:=tU hy;dsimp only [sz]at hs;exact aS this hs)) hs (av h)
  |_=>exact bG H rfl (bB (aA (jQ (jc (fB (aa H) H) H)) (bq (dn aq H)))) H
theorem qX {l:↑α} {k:Nat} {x:α} (h:l[k]?=some x) (hb:l.length≤aT):qK l (k:Int)= .ok x:=by
 have hk:=(jo.mp h).1
 have:aT<2^62:=by decide
 have h1:-(2^62)≤(k:Int)∧(k:Int)<2^62∧0≤(l.length:Int)+k:=⟨Int.le_trans ∅ (kG k),Int.lt_of_lt_of_le (Int.ofNat_lt.mpr (Nat.lt_trans (ry hk hb) this)) ∅,Int.add_nonneg (kG _) (kG k)⟩
 show(if _ then _ else _)=_
 rw [ao h1,aN (j1.mpr (kG k)),rB];refine ae h ?_;rfl
theorem La {i:Int}:gT σ (.d (.J l)) (.int i)=(qK l i).bind λx=> .ok (.d x):=R.dv _ _
theorem Lb {i:Int}:gT σ (.d (.aD l)) (.int i)=(qK l i).bind λx=> .ok (.d x):=R.dv _ _
theorem vQ {s:Str} {i:Int}:gT σ (.d (.str s)) (.int i)=(qK s.cps.toList i).bind λc=> .ok (.d (.str ⟨#[c]⟩)):=R.dv _ _
theorem lD {k:Nat} (h:l[k]?=some x) (hb:l.length≤aT):gT σ (.d (.J l)) (.int k)= .ok (.d x):=La.trans (bo (qX h hb) H)
theorem Lc {l:↑Nat} {k s:Nat} (h:l[k]?=some s) (hb:l.length≤aT):gT σ (.d (.str ⟨l.toArray⟩)) (.int k)= .ok (.d (.str ⟨#[s]⟩)):=vQ.trans (bo (qX (l:=l) h hb) H)
theorem il (a b:Str):ek σ .eq (.d (.str a)) (.d (.str b))= .ok (a==b):=rfl
theorem Aw (a b:Str):ek σ .ne (.d (.str a)) (.d (.str b))= .ok (!(a==b)):=rfl
theorem bQ {a b:Str} (h:a≠b):(a==b)=false:=jS.mpr h
inductive jY:Nat→D→↑D→Prop
 |none (s:Nat):jY s .none []
 |zA {x:D}:cR x=[]→jY 45 x []
 |name {r:↑D}:cR (.J (.str gQ::r))=[]→jY 101 (.J (.str gQ::r)) []
 |node {k:Str} {r:↑D}:fN.contains k=true→jY 101 (.J (.str k::r)) [.J (.str k::r)]
 |seq {l:↑D}:(∀x∈l,g9 λk r=>x= .J (.str k::r)∧fN.contains k=true)→jY 115 (.J l) l
abbrev pg:↑D→Bool
 | .str k::_=>!fN.contains k
 |_=>true
theorem mP (h:pg l=true):cR (.J l)=eY l:=by
 induction l using bu with
 |nil=>rfl
 |cons x r=>induction x using D.casesOn<;>first|rfl|exact aN (Bool.eq_false_iff.mp ((Bool.not_eq_true' _).mp h))
theorem tV {k:Str} {r:↑D} (h:fN.contains k=true):cR (.J (.str k::r))=[.J (.str k::r)]:=ao h
theorem Eb:fN.contains gQ=false:=by decide+kernel
theorem yI {k1 k2:↑D} (h:cR x=k1) (ih:eY l=k2):eY (x::l)=k1++k2:=by subst h;subst ih;rfl
theorem C5 (h:∀x∈l,g9 λk r=>x= .J (.str k::r)∧fN.contains k=true):eY l=l:=by
 induction l with
 |nil=>rfl
 |cons x l ih=>
  obtain ⟨k,r,rfl,hk⟩:=h x bZ
  show cR (.J (.str k::r))++eY l=_
  refine ae (tV hk) (ae (ih λy hy=>h y (bY _ hy)) ?_);rfl
variable {ks:↑D}
theorem jY.je {s:Nat} (h:jY s x ks):cR x=ks:=by
 cases h with
 |none=>rfl
 |zA h=>exact h
 |name h=>exact h
 |node h=>exact tV h
 |seq h=>
  have hd:pg ks=true:=by
   cases ks with
   |nil=>rfl
   |cons x r=>obtain ⟨k,r',rfl,_⟩:=h x bZ;rfl
  exact ae (mP hd) (ae (C5 h) H)
inductive jf:↑Nat→↑D→↑D→Prop
 |nil {l:↑D}:eY l=[]→jf [] l []
 |cons {s:Nat} {rs:↑Nat} {x:D} {l k1 k2:↑D}:jY s x k1→jf rs l k2→jf (s::rs) (x::l) (k1++k2)
theorem jf.je (h:jf rs l ks):eY l=ks:=by
 induction h with
 |nil h=>exact h
 |cons h _ ih=>exact yI h.je ih
inductive tW:↑Nat→↑D→↑D→Prop
 |nil {r:↑Nat}:tW r [] []
 |skip {r:↑Nat} {l ks:↑D}:tW r l ks→tW r (.none::l) ks
 |cons {r:↑Nat} {e l k1 k2:↑D}:jf r e k1→pg e=true→tW r l k2→tW r (.J e::l) (k1++k2)
theorem tW.je (h:tW rs l ks):eY l=ks:=by
 induction h with
 |nil=>rfl
 |skip _ ih=>exact ih
 |cons h hd _ ih=>exact yI ((mP hd).trans h.je) ih
abbrev xw:Nat→Option ↑Nat
 |107=>some [101,101]
 |97=>some [101]
 |109=>some [115,101]
 |98=>some [101,115]
 |99=>some [45,45,115]
 |_=>none
inductive C6:Nat→D→↑D→Prop
 |base {s:Nat} {x:D} {ks:↑D}:jY s x ks→C6 s x ks
 |v {l ks:↑D}:jf [45,101] l ks→pg l=true→C6 118 (.J l) ks
 |rE {s:Nat} {r:↑Nat} {l ks:↑D}:xw s=some r→tW r l ks→pg l=true→C6 s (.J l) ks
theorem C6.je {s:Nat} (h:C6 s x ks):cR x=ks:=by
 induction h using C6.casesOn with
 |base h=>exact h.je
 |v h hd=>exact ae (mP hd) (ae h.je H)
 |rE _ h hd=>exact ae (mP hd) (ae h.je H)
inductive ph:↑Nat→↑D→↑D→Prop
 |nil {l:↑D}:eY l=[]→ph [] l []
 |cons {s:Nat} {rs:↑Nat} {x:D} {l k1 k2:↑D}:C6 s x k1→ph rs l k2→ph (s::rs) (x::l) (k1++k2)
theorem ph.je (h:ph rs l ks):eY l=ks:=by
 induction h with
 |nil h=>exact h
 |cons h _ ih=>exact yI h.je ih
theorem jf.up (h:jf rs l ks):ph rs l ks:=by
 induction h with
 |nil h=>exact .nil h
 |cons h _ ih=>exact .cons (.base h) ih
abbrev pb:Ss:=match xo.body with
 | .cons (.ej _ _ b) _=>b
 |_=> .nil
theorem C7 {s:Nat} {r:↑Nat} (h:xw s=some r):call code (n+1) .fQ [.d (.str ⟨#[s]⟩)] σ= .ok (.d (.str ⟨r.toArray⟩),σ):=by
 unfold xw at h
 split at h<;>first|(injection h with h;subst h;rfl)|cases h
theorem C8:call code (n+1) .fQ [.d (.str ⇑"v")] σ= .ok (.d (.str ⇑"-e"),σ):=rfl
noncomputable abbrev pE (rs:↑Nat) (ps:↑D) (k:Nat) (b c d:V):↑V:=[.d (.str ⟨rs.toArray⟩), .d (.J ps), .ref 0, .d (.int k),b,c,d]
inductive BU (K:fF) (w k:Nat) (rs:↑Nat) (ps found:↑D) (b c d:V) (ks:↑D):Prop
 |mk (fl:Fl) (a' b' c' d':V):fl= .next∨fl= .cont→bg K w pb (pE rs ps k b c d) [.list found]= .ok (fl,[.d (.str ⟨rs.toArray⟩), .d (.J ps), .ref 0,a',b',c',d'],[.list (found++ks)])→BU K w k rs ps found b c d ks
noncomputable abbrev abv:E:= .or {.au .kW ↑5 (.az .none), .au .eq ↑4 ⇑lz}
abbrev pb2:Ss:=match pb with
 | .cons _ r=>r
 |_=> .nil
variable {found ps:↑D}
section
variable {k s:Nat} {b c d:V}
theorem qa {r:R (Fl×↑V×St)} (hr:rs[k]?=some s) (hp:ps[k]?=some x) (jA:rs.length≤aT) (iT:ps.length≤aT) (h:bg K w pb2 (pE rs ps k (.d (.str ⟨#[s]⟩)) (.d x) d) σ=r):bg K w pb (pE rs ps k b c d) σ=r:=
 af (F5 (aV (ac (aR (aa H) (aa H) (Lc hr jA)) (ac (aR (aa H) (aa H) (lD hp iT)) aq)) H) H) h
theorem uu {e:Bool} (h5:ρ[5]?=some (.d x)) (h4:ρ[4]?=some (.d (.str ⟨#[s]⟩))) (hn:oV x=false) (h:ek σ .eq (.d (.str ⟨#[s]⟩)) (.d (.str lz))= .ok e):ev K abv ρ σ= .ok (.d (.bool e),σ):=
 gy (ak (aa h5) ab (aC R.ok hn)) (gx (ak (aa h4) ab h))
theorem BU.nil {a' b' c' d':V} (h:fl= .next∨fl= .cont) (e:bg K w pb (pE rs ps k b c d) [.list found]= .ok (fl,[.d (.str ⟨rs.toArray⟩), .d (.J ps), .ref 0,a',b',c',d'],[.list found])):BU K w k rs ps found b c d []:=⟨fl,a',b',c',d',h,by rw [b6];exact e⟩
theorem Pm (hr:rs[k]?=some 45) (hp:ps[k]?=some x) (jA:rs.length≤aT) (iT:ps.length≤aT):BU K w k rs ps found b c d []:=
 match hn:oV x with
 |true=> .nil (.inr H) (qa hr hp jA iT (yH (aA (jQ (ak (aa H) ab (aC R.ok hn))) (yH F6))))
 |false=> .nil (.inr H) (qa hr hp jA iT (yH (aA (uu H rfl hn H) (yH F6))))
theorem Pn (hr:rs[k]?=some s) (hp:ps[k]?=some .none) (jA:rs.length≤aT) (iT:ps.length≤aT):BU K w k rs ps found b c d []:=
 .nil (.inr H) (qa hr hp jA iT (yH (aA (jQ (bF H rfl)) (yH F6))))
theorem Po {r:↑D} (hr:rs[k]?=some 101) (hp:ps[k]?=some (.J (.str gQ::r))) (jA:rs.length≤aT) (iT:ps.length≤aT):BU K w k rs ps found b c d []:=
 .nil (.inl H) (qa hr hp jA iT (aK (uu H rfl rfl rfl) (af (aA (bF H rfl) (aK (cX H rfl rfl) ay)) ay)))
theorem Pp {kk:Str} {r:↑D} (h:fN.contains kk=true) (hr:rs[k]?=some 101) (hp:ps[k]?=some (.J (.str kk::r))) (jA:rs.length≤aT) (iT:ps.length≤aT) (hf:found.length<aT):BU K w k rs ps found b c d [.J (.str kk::r)]:=
 have gd:(kk==gQ)=false:=bQ λq=>bL ((q▸h).symm.trans Eb)
 ⟨.next,_,_,_,_, .inl H,qa hr hp jA iT (aK (uu H rfl rfl rfl) (af (aA (bF H rfl) (af (aA (ak (aI H rfl) ab ((Aw _ _).trans (aC (λz=>R.ok (!z)) gd))) (af (mO (cV H) H (aa H) H hf) ay)) ay)) ay))⟩
theorem TE (hr:rs[k]?=some 115) (hp:ps[k]?=some (.J ks)) (jA:rs.length≤aT) (iT:ps.length≤aT) (hf:found.length+ks.length≤aT):BU K w k rs ps found b c d ks:=
 ⟨.next,_,_,_,_, .inl H,qa hr hp jA iT (aK (uu H rfl rfl rfl) (af (bi (bF H rfl) (af (aA (bF H rfl) (af (K' (cV H) H (aa H) H rfl hf) ay)) ay)) ay))⟩
theorem aan (hr:rs[k]?=some 118) (hp:ps[k]?=some (.J l)) (jA:rs.length≤aT) (iT:ps.length≤aT) (KV:K .fQ [.d (.str ⇑"v")] [.list found]= .ok (.d (.str ⇑"-e"),[.list found]))
  (xy:K .fx [.d (.str ⇑"-e"), .d (.J l), .ref 0] [.list found]= .ok (.d .none,[.list (found++ks)])):BU K w k rs ps found b c d ks:=
 ⟨.next,_,_,_,_, .inl H,qa hr hp jA iT (aK (uu H rfl rfl rfl) (af (bi (bF H rfl) (af (bi (bF H rfl) (af (aA (bF H rfl) (af (i6 (an (ac (an (ei H) KV) (ac (aa H) (ac (cV H) aq))) xy)) ay)) ay)) ay)) ay))⟩
noncomputable abbrev Yi:Ss:= .cons (.aU (.au .dw ↑6 (.az .none)) {.dC (.call .fx {.call .fQ {↑4},↑6,↑2})} .nil) .nil
theorem Ld {r:↑Nat} {b:V} (TF:∀{σ:St},K .fQ [.d (.str ⟨#[s]⟩)] σ= .ok (.d (.str ⟨r.toArray⟩),σ)) (h:tW r l ks):
  (∀e, .J e∈l→∀(fd ks:↑D),fd.length+ks.length≤aT→jf r e ks→K .fx [.d (.str ⟨r.toArray⟩), .d (.J e), .ref 0] [.list fd]= .ok (.d .none,[.list (fd++ks)]))→∀(fd:↑D) (d:V),fd.length+ks.length≤aT→∃d',cW (λy=>bk (.dj 6) (.d y)) (λρ σ=>bg K w Yi ρ σ) l (pE rs ps k (.d (.str ⟨#[s]⟩)) b d) [.list fd]= .ok (.next,pE rs ps k (.d (.str ⟨#[s]⟩)) b d',[.list (fd++ks)]):=by
 induction h with
 |nil=>exact λO fd d O=>⟨d,by rw [b6];rfl⟩
 |skip h ih=>exact λhK fd d hf=>(ih (λe he=>hK e (bY _ he)) fd (.d .none) hf).imp λd' h'=>fc H (aK (bF H rfl) ay) (.inl H) h'
 |@cons e l k1 k2 h1 hd h2 ih=>
  intro hK fd d hf
  have CO:fd.length+(k1.length+k2.length)≤aT:=cg▸hf
  refine (ih (λe he=>hK e (bY _ he)) (fd++k1) (.d (.J e)) (by refine ae cg ?_;rw [Nat.add_assoc];exact CO)).imp λd' h'=>?_
  refine fc H (af (aA (bF H rfl) (af (i6 (an (ac (an (ei H) TF) (ac (aa H) (ac (cV H) aq))) (hK e bZ fd k1 (aM (kF (mY _ _) _) CO) h1))) ay)) ay) (.inl H) (h'.trans ?_)
  rw [aX]
theorem TG (c1:(⟨#[s]⟩:Str)≠lz) (c2:(⟨#[s]⟩:Str)≠tO) (c3:(⟨#[s]⟩:Str)≠vN) (c4:(⟨#[s]⟩:Str)≠mL) (hr:rs[k]?=some s) (hp:ps[k]?=some (.J l)) (jA:rs.length≤aT) (iT:ps.length≤aT) (h:∃d',cW (λy=>bk (.dj 6) (.d y)) (λρ σ=>bg K w Yi ρ σ) l (pE rs ps k (.d (.str ⟨#[s]⟩)) (.d (.J l)) d) [.list found]= .ok (.next,pE rs ps k (.d (.str ⟨#[s]⟩)) (.d (.J l)) d',[.list (found++ks)])):BU K w k rs ps found b c d ks:=
 h.elim λd' h=>⟨.next,_,_,_,d', .inl H,qa hr hp jA iT (aK (uu H rfl rfl (aC R.ok (bQ c1))) (af (bi (ak (aa H) ab (aC R.ok (bQ c2))) (af (bi (ak (aa H) ab (aC R.ok (bQ c3))) (af (bi (ak (aa H) ab (aC R.ok (bQ c4))) (af (gL nS (fH (aa H) H) h) ay)) ay)) ay)) ay))⟩
theorem TH {P:Nat→↑Nat→Prop} (abY:P 107 [101,101]) (h97:P 97 [101]) (abZ:P 109 [115,101]) (h98:P 98 [101,115]) (h99:P 99 [45,45,115]) {s:Nat} {r:↑Nat} (h:xw s=some r):P s r:=by
 unfold xw at h
 split at h<;>first|(injection h with h;subst h;assumption)|cases h
theorem jY.Yj {s:Nat} (h:jY s x ks):x= .none∨s=45∨s=101∨s=115:=by
 induction h using jY.casesOn with
 |none=>exact .inl H
 |zA=>exact .inr (.inl H)
 |name=>exact .inr (.inr (.inl H))
 |node=>exact .inr (.inr (.inl H))
 |seq=>exact .inr (.inr (.inr H))
theorem Pq (hk:C6 s x ks):rs[k]?=some s→ps[k]?=some x→rs.length≤aT→ps.length≤aT→found.length+ks.length≤aT→
  (¬jY s x ks→∀(r:↑Nat) (l fd ks:↑D),fd.length+ks.length≤aT→l.length≤sz x→jf r l ks→r.length≤3→K .fx [.d (.str ⟨r.toArray⟩), .d (.J l), .ref 0] [.list fd]= .ok (.d .none,[.list (fd++ks)]))→
  (¬jY s x ks→∀{s:Nat} {r:↑Nat} {σ:St},xw s=some r→K .fQ [.d (.str ⟨#[s]⟩)] σ= .ok (.d (.str ⟨r.toArray⟩),σ))→(¬jY s x ks→∀{σ:St},K .fQ [.d (.str ⇑"v")] σ= .ok (.d (.str ⇑"-e"),σ))→BU K w k rs ps found b c d ks:=by
 induction hk with
 |base h=>
  induction h with
  |none=>exact λhr hp jA iT O O O O=>Pn hr hp jA iT
  |zA=>exact λhr hp jA iT O O O O=>Pm hr hp jA iT
  |name=>exact λhr hp jA iT O O O O=>Po hr hp jA iT
  |node h=>exact λhr hp jA iT hf O O O=>Pp h hr hp jA iT hf
  |seq=>exact λhr hp jA iT hf O O O=>TE hr hp jA iT hf
 |@v l ks h hd=>
  intro hr hp jA iT hf xy _ KV
  have nk:¬jY 118 (.J l) ks:=λq=>q.Yj.elim (λh=>D.noConfusion h) ∅
  exact aan hr hp jA iT (KV nk) (xy nk _ _ _ _ hf (by have:=jG l;simp only [sz];exact av this) h ∅)
 |@rE s r l ks he h hd=>
  have c:((⟨#[s]⟩:Str)≠lz∧(⟨#[s]⟩:Str)≠tO∧(⟨#[s]⟩:Str)≠vN∧(⟨#[s]⟩:Str)≠mL)∧(¬(s=45∨s=101∨s=115))∧r.length≤3:=TH (P:=λs r=>((⟨#[s]⟩:Str)≠lz∧(⟨#[s]⟩:Str)≠tO∧(⟨#[s]⟩:Str)≠vN∧(⟨#[s]⟩:Str)≠mL)∧(¬(s=45∨s=101∨s=115))∧r.length≤3) ∅ ∅ ∅ ∅ ∅ he
  intro hr hp jA iT hf xy TF _
  have nk:¬jY s (.J l) ks:=λq=>q.Yj.elim (λh=>D.noConfusion h) c.2.1
  refine TG c.1.1 c.1.2.1 c.1.2.2.1 c.1.2.2.2 hr hp jA iT (Ld (TF nk he) h (λe he fd ks hf h=>xy nk _ _ _ _ hf ?_ h c.2.2) found d hf)
  have h1:=tU he
  have h2:=jG e
  simp only [sz]at h1⊢;exact aS h2 h1
end
abbrev oH (k m:Nat):↑D:=(List.range' k m).map λ(i:Nat)=>D.int (i:Int)
theorem F7 (m:Nat):iC m=oH 0 m:=by simp [iC,oH,List.range_eq_range']
theorem BV (k m:Nat):oH k (m+1)= .int (k:Int)::oH (k+1) m:=by simp [oH,pF]
theorem jf.at {s:Nat} {k1 k2:↑D} (q:jf (s::rs) (x::ps) ks) (h1:C6 s x k1) (h2:ph rs ps k2):jY s x k1∧jf rs ps k2:=by
 cases q with
 |cons q1 q2=>exact ⟨by refine dg h1.je (ae q1.je ?_);exact q1,by refine dg h2.je (ae q2.je ?_);exact q2⟩
theorem Pr (jA:rs.length≤aT) (iT:ps.length≤aT) (B:Prop)
  (xy:B→∀(r:↑Nat) (l fd ks:↑D),fd.length+ks.length≤aT→l.length≤aT→jf r l ks→r.length≤3→K .fx [.d (.str ⟨r.toArray⟩), .d (.J l), .ref 0] [.list fd]= .ok (.d .none,[.list (fd++ks)]))
  (TF:B→∀{s:Nat} {r:↑Nat} {σ:St},xw s=some r→K .fQ [.d (.str ⟨#[s]⟩)] σ= .ok (.d (.str ⟨r.toArray⟩),σ)) (KV:B→∀{σ:St},K .fQ [.d (.str ⇑"v")] σ= .ok (.d (.str ⇑"-e"),σ)) (hz:B→b9 ps≤aT) {TJ:↑Nat} {ps0:↑D} (hk:ph TJ ps0 ks):
  ∀(k:Nat) (found:↑D) (a b c d:V),TJ=rs.drop k→ps0=ps.drop k→found.length+ks.length≤aT→(B∨jf TJ ps0 ks)→
   ∃a' b' c' d',cW (λy=>bk (.dj 3) (.d y)) (λρ σ=>bg K w pb ρ σ) (oH k TJ.length) [.d (.str ⟨rs.toArray⟩), .d (.J ps), .ref 0,a,b,c,d] [.list found]= .ok (.next,[.d (.str ⟨rs.toArray⟩), .d (.J ps), .ref 0,a',b',c',d'],[.list (found++ks)]):=by
 induction hk with
 |nil=>exact λk found a b c d O O O O=>⟨a,b,c,d,by rw [b6];rfl⟩
 |@cons s TJ x ps0 k1 k2 h1 h2 ih=>
  intro k found a b c d hr hp hf hB
  have Fy:rs[k]?=some s:=by refine dg (Nat.add_zero k) (dg List.getElem?_drop (dg hr ?_));rfl
  have V0:ps[k]?=some x:=by refine dg (Nat.add_zero k) (dg List.getElem?_drop (dg hp ?_));rfl
  have WA:¬jY s x k1→B:=λq=>hB.elim id λq'=>(q (q'.at h1 h2).1).elim
  have CO:found.length+(k1.length+k2.length)≤aT:=cg▸hf
  obtain ⟨fl,a1,b1,c1,d1,hfl,hs⟩:=Pq (K:=K) (w:=w) (found:=found) (b:=b) (c:=c) (d:=d) h1 Fy V0 jA iT (aM (kF (mY _ _) _) CO)
   (λq r l fd ks h1 h2=>xy (WA q) r l fd ks h1 (aM h2 (aM (tU (fJ V0)) (hz (WA q))))) (λq=>TF (WA q)) (λq=>KV (WA q))
  refine (ih (k+1) (found++k1) a1 b1 c1 d1 (by refine dg List.drop_drop ?_;rw [←hr];rfl) (by refine dg List.drop_drop ?_;rw [←hp];rfl) (by refine ae cg ?_;rw [Nat.add_assoc];exact CO) (hB.imp id λq'=>(q'.at h1 h2).2)).imp λa' h=>h.imp λb' h=>h.imp λc' h=>h.imp λd' h=>?_
  rw [gO,BV,←aX]
  exact fc H hs hfl h
theorem TK (h:σ[i]?=some (.list l)):i5 σ [i]= .ok [.list l]:=by
 show(eQ σ[i]?).bind _=_
 refine ae h ?_;rfl
theorem Ec (C9:σ[i]?=some (.list found)) (jA:rs.length≤aT) (iT:ps.length≤aT) (hf:found.length+ks.length≤aT) (hk:ph rs ps ks) (B:Prop) (hz:B→b9 ps≤aT) (hB:B∨jf rs ps ks)
  (xy:B→∀(r:↑Nat) (l fd ks:↑D),fd.length+ks.length≤aT→l.length≤aT→jf r l ks→r.length≤3→call code n .fx [.d (.str ⟨r.toArray⟩), .d (.J l), .ref 0] [.list fd]= .ok (.d .none,[.list (fd++ks)]))
  (hn:B→1≤n):call code (n+1) .fx [.d (.str ⟨rs.toArray⟩), .d (.J ps), .ref i] σ= .ok (.d .none,σ.set i (.list (found++ks))):=by
 obtain ⟨a',b',c',d',h⟩:=Pr (K:=call code n) (w:=n) jA iT B xy (λq=>by
   obtain ⟨n,rfl⟩:∃k,n=k+1:=⟨n -1,(wb (hn q)).symm⟩
   exact C7) (λq=>by
   obtain ⟨n,rfl⟩:∃k,n=k+1:=⟨n -1,(wb (hn q)).symm⟩
   exact C8) hz hk 0 found .un .un .un .un H rfl hf hB
 have cb:mF [.list found] .len (.d (.str ⟨rs.toArray⟩))= .ok (.d (.int (rs.length:Int)),[.list found]):=by
  have:aT<2^62:=by decide
  exact p8 H (by show rs.length<_;exact aS jA this)
 have hrg:(0:Int)≤(rs.length:Int)∧(rs.length:Int)<2^62:=by
  have dy:aT<2^62:=by decide
  lia
 have h2:cW (λy=>bk (.dj 3) (.d y)) (λρ σ=>bg (call code n) n pb ρ σ) (iC (rs.length:Int).toNat) [.d (.str ⟨rs.toArray⟩), .d (.J ps), .ref 0, .un, .un, .un, .un] [.list found]= .ok (.next,[.d (.str ⟨rs.toArray⟩), .d (.J ps), .ref 0,a',b',c',d'],[.list (found++ks)]):=by
  rw [rB,F7];exact h
 have abw:[V.d (.str ⟨rs.toArray⟩), .d (.J ps), .ref i].map (kX (en [i]))++List.replicate ((code F.fx).slots -(code F.fx).params) .un=[.d (.str ⟨rs.toArray⟩), .d (.J ps), .ref 0, .un, .un, .un, .un]:=by
  simp only [ef,List.map_nil,kX,en,List.idxOf_cons_self];rfl
 refine dp (rs:=[i]) H rfl (by simp) (TK C9) (by refine ae abw ?_;exact af (gL nR (tS (fB (aa H) cb) hrg) h2) ay) H rfl
theorem Ps (C9:σ[i]?=some (.list found)) (jA:rs.length≤aT) (iT:ps.length≤aT) (hf:found.length+ks.length≤aT) (hk:jf rs ps ks):
  call code (n+1) .fx [.d (.str ⟨rs.toArray⟩), .d (.J ps), .ref i] σ= .ok (.d .none,σ.set i (.list (found++ks))):=
 Ec C9 jA iT hf hk.up False (λq=>q.elim) (.inr hk) (λq=>q.elim) λq=>q.elim
theorem F8 (C9:σ[i]?=some (.list found)) (jA:rs.length≤aT) (hz:b9 ps≤aT) (hf:found.length+ks.length≤aT) (hk:ph rs ps ks):
  call code (n+3) .fx [.d (.str ⟨rs.toArray⟩), .d (.J ps), .ref i] σ= .ok (.d .none,σ.set i (.list (found++ks))):=by
 have dy:3≤aT:=by decide
 refine Ec C9 jA (by have:=jG ps;exact aS this hz) hf hk True (λO=>hz) (.inl trivial) (λO r l fd ks h1 h2 h3 h4=>?_) λO=>by simp+arith only
 exact Ps (n:=n+1) (i:=0) H (aS h4 dy) h2 h1 h3
abbrev BW:↑(Str×Str):=match uV.body with
 | .cons (.ret (.some (.eO ks es))) _=>ks.zip ((match i3 (call code 0) es [] []with| .ok (vs,_)=>vs|_=>([]:↑V)).map λ(v:V)=>match v with|V.d (D.str s)=>s|_=>q_)
 |_=>[]
theorem C':call code (n+1) .nj [] σ= .ok (.eO (BW.map λp=>(p.1, .d (.str p.2))),σ):=by
 have:call code (n+1) .nj [] σ= .ok (.eO (BW.map λp=>(p.1, .d (.str p.2))),σ++[]):=rfl
 rwa [b6]at this
theorem Ed (k r:Str):∀{l:↑(Str×Str)},l.lookup k=some r→td k (l.map λp=>(p.1, .d (.str p.2)))= .ok (.d (.str r))
 |p::l,h=>by
  rw [ie]at h
  show(if p.1=k then R.ok (YO (At.d (.str p.2)))else td k (l.map λp=>(p.1, .d (.str p.2))))=_
  by_cases q:p.1=k
  ·subst q
   refine ae (ao H) ?_
   simp at h
   subst h;rfl
  ·refine ae (aN q) ?_
   rw [jS.mpr (Ne.symm q)]at h
   exact Ed k r h
inductive iL:Str→↑D→↑Nat→Prop
 |sY {k r:Str} {ps:↑D}:BW.lookup k=some r→k≠pY→k≠dO→k≠bV→k≠gZ→iL k ps r.cps.toList
 |if2 {ps:↑D}:ps.length=2→iL pY ps [98,115]
 |if3 {ps:↑D}:ps.length=3→iL pY ps [101,101,101]
 |TL {ps:↑D}:ps.length=4→iL dO ps [45,45,45,101]
 |Le {ps:↑D}:ps.length=3→iL dO ps [101,101,45]
 |TM {ps:↑D}:ps.length≤1000→iL bV ps (List.replicate ps.length 118)
 |F9 {x y:D} {l ps:↑D}:ps.length≤999→iL gZ (.J [x, .J l]::ps) (List.replicate (ps.length+1) 118)
 |M' {x y z:D} {t:Str}:iL gZ [.J [x, .str t],y,z] [45,45,101]
 |Na {l:↑D} {x y:D}:l.length≠2→l.length<aT→iL gZ [.J l,x,y] [45,45,101]
theorem xz (h:l.length≤aT):mF σ .len (.d (.J l))= .ok (.d (.int (l.length:Int)),σ):=by
 exact p8 H (li h ∅)
theorem Nb {k:Int} (hk:k -1=(m:Int)) (h:m≤1000):jj σ .mul (.d (.str mL)) (.d (.int (k -1)))= .ok (.d (.str ⟨(List.replicate m 118).toArray⟩),σ):=by
 refine ae hk ?_
 show(if 0≤(m:Int)∧(m:Int)≤100000 then(qk mL).bind λc=>R.ok (D.str ⟨(List.replicate (m:Int).toNat c).toArray⟩)else R.aQ).bind (λy=>R.ok (V.d y,σ))=_
 refine ae (ao ⟨by lia,by lia⟩) ?_;rfl
theorem Lf {k:Str} {r:↑Nat} (h:iL k ps r) (hz:b9 ps<aT):call code (n+2) .wl [.d (.J (.str k::ps))] σ= .ok (.d (.str ⟨r.toArray⟩),σ):=by
 have cb:(D.str k::ps).length≤aT:=by have:=jG ps;simp;exact aS this hz
 have hl:=xz (σ:=[]) cb
 cases h with
 |@sY _ r _ h0 h1 h2 h3 h4=>
  exact bG H rfl (af (aJ (aI H rfl)) (aK (ak (aa H) ab (by rw [il,bQ h1])) (aK (ak (aa H) ab (by rw [il,bQ h2]))
   (aK (gy (ak (aa H) ab (by rw [il,bQ h3])) (gx (cA (ak (aa H) ab (by rw [il,bQ h4]))))) (aK (ak (aa H) ab (by rw [il,bQ h4]))
   (bq (aR (an aq C') (aa H) (Ed k r h0)))))))) H
 |if2 h=>
  rw [gO,h]at hl
  exact bG H rfl (af (aJ (aI H rfl)) (bB (aA (bF H rfl) (bq (ik (ak (fB (aa H) hl) ab H) ab))))) H
 |if3 h=>
  rw [gO,h]at hl
  exact bG H rfl (af (aJ (aI H rfl)) (bB (aA (bF H rfl) (bq (iJ (ak (fB (aa H) hl) ab H) ab))))) H
 |TL h=>
  rw [gO,h]at hl
  exact bG H rfl (af (aJ (aI H rfl)) (aK (bF H rfl) (bB (aA (bF H rfl) (bq (ik (ak (fB (aa H) hl) ab H) ab)))))) H
 |Le h=>
  rw [gO,h]at hl
  exact bG H rfl (af (aJ (aI H rfl)) (aK (bF H rfl) (bB (aA (bF H rfl) (bq (iJ (ak (fB (aa H) hl) ab H) ab)))))) H
 |TM h=>
  refine bG H rfl (af (aJ (aI H rfl)) (aK (bF H rfl) (aK (bF H rfl) (bB (aA (jQ (bF H rfl))
   (bq (cG ab (cG (fB (aa H) hl) ab H) (Nb (m:=ps.length) (by simp) (av h))))))))) H
 |@F9 x y l ps h=>
  refine bG H rfl (af (aJ (aI H rfl)) (aK (bF H rfl) (aK (bF H rfl) (bB (aA (gy (bF H rfl) (gx (aY (bF H rfl) (bW (an (gR H rfl)
   (bG H rfl (bq (aY (fB (aa H) H) (aY (ak (fB (aa H) H) ab H) (bW (fB (aI H rfl) H))))) H))))))
   (bq (cG ab (cG (fB (aa H) hl) ab H) (Nb (m:=ps.length+1) (by simp) (av h))))))))) H
 |@M' x y z t=>
  refine bG H rfl (af (aJ (aI H rfl)) (aK (bF H rfl) (aK (bF H rfl) (aK (gy (bF H rfl) (gx (aY (bF H rfl) (bW (an (gR H rfl)
   (bG H rfl (bq (aY (fB (aa H) H) (aY (ak (fB (aa H) H) ab H) (bW (fB (aI H rfl) H))))) H))))))
   (bB (aA (bF H rfl) (bq (ik (ak (fB (aa H) hl) ab H) ab)))))))) H
 |@Na l x y h1 h2=>
  have h3:ek [] .eq (.d (.int (l.length:Int))) (.d (.int 2))= .ok false:=by
   show R.ok ((l.length:Int)==2)=_
   exact ae (jS.mpr (by lia)) H
  refine bG H rfl (af (aJ (aI H rfl)) (aK (bF H rfl) (aK (bF H rfl) (aK (gy (bF H rfl) (gx (aY (bF H rfl) (bW (an (gR H rfl)
   (bG H rfl (bq (aY (fB (aa H) H) (cA (ak (fB (aa H) (xz (av h2))) ab h3)))) H))))))
   (bB (aA (bF H rfl) (bq (ik (ak (fB (aa H) hl) ab H) ab)))))))) H
theorem TN:∀p∈BW,p.2.cps.size≤7:=by decide+kernel
theorem Ga {l:↑(Str×α)} {k:Str} {v:α} (h:l.lookup k=some v):(k,v)∈l:=by
 induction l with
 |nil=>cases h
 |cons p l ih=>
  rw [ie]at h
  cases hb:k==p.1 with
  |true=>rw [hb]at h;injection h with h;subst h;refine ae (dz hb) ?_;exact bZ
  |false=>rw [hb]at h;exact bY _ (ih h)
theorem iL.len {k:Str} {r:↑Nat} (h:iL k ps r):r.length≤1000:=by
 induction h with
 |sY h=>have:=TN _ (Ga h);simp at this⊢;exact av this
 |TM h=>simpa using h
 |F9 h=>simp;exact av h
 |_=>simp
theorem uv (h:(x::l).length≤aT):jU (.d (.J (x::l))) (.int 1) .none .none= .ok (.d (.J l)):=by
 have e:ou (x::l) (.int 1) .none .none=R.ok l:=bo H (bo H (bo H (ao ⟨H,by decide,by decide,by simp;lia⟩)))
 exact bo H ((ao h).trans (bo e H))
theorem tX {k:Str} (hr:iL k ps rs) (hk:ph rs ps ks) (hz:b9 ps<aT):call code (n+4) .jJ [.d (.J (.str k::ps))] σ= .ok (.d (.aD ks),σ):=by
 have hb:1000≤aT:=by decide
 have h1:=hr.len
 have h2:=jG ps
 have h3:ks.length≤b9 ps:=by have:=jG (eY ps);have h4:=lC ps;rw [hk.je]at this h4;exact aS this h4
 refine bG H rfl (af (aJ (fA aq H)) (af (i6 (an (ac (an (ei H) (Lf (n:=n+1) hr hz)) (ac (lA (aa H) (oi ab) iI iI (uv (by simp;exact aS h2 hz))) (ac (cV H) aq)))
  (F8 (n:=n) (i:=0) H (aS h1 hb) (av hz) (by simp;exact aS h3 hz) hk))) (bq (cV H)))) H
mutual
inductive my:D→Prop
 |none:my .none
 |dj {k:Str} {ps:↑D}:k≠cr→k≠bN→my (.J (.str k::ps))
 |var {x:Str}:my (.J [.str bN, .str x])
 |list {aZ:↑D}:uY aZ→my (.J [.str cr, .J aZ])
inductive uY:↑D→Prop
 |nil:uY []
 |skip {l:↑D}:uY l→uY (.none::l)
 |cons {key t:D} {f:Bool} {l:↑D}:my t→uY l→uY (.J [key,t, .bool f]::l)
end
mutual
noncomputable def bJ:D→Bool
 | .J [.str k, .str x]=>k==bN&&x==bH
 | .J [.str k, .J aZ]=>k==cr&&kL aZ
 |_=>false
noncomputable def kL:↑D→Bool
 |[]=>false
 |x::r=>yJ x||kL r
noncomputable def yJ:D→Bool
 | .J [_,t,_]=>bJ t
 |_=>false
end
theorem tY {k:Str} (h:k≠bN):call code (n+1) .nq [.d (.J (.str k::ps))] σ= .ok (.d (.bool false),σ):=
 bG H rfl (bq (aY (bF H rfl) (cA (ak (aI H rfl) ab (by rw [il,bQ h]))))) H
theorem se {x:Str}:call code (n+1) .nq [.d (.J [.str bN, .str x])] σ= .ok (.d (.bool (x==bH)),σ):=rfl
theorem tZ {k:Str} (h1:k≠cr) (h2:k≠bN):bJ (.J (.str k::ps))=false:=by
 induction ps using bu with
 |nil=>rfl
 |cons p r=>induction r using bu with
  |cons=>induction p using D.casesOn<;>rfl
  |nil=>induction p using D.casesOn with
   |str x=>show(k==bN&&_)=false;refine ae (bQ h2) ?_;rfl
   |J l=>show(k==cr&&_)=false;refine ae (bQ h1) ?_;rfl
   |_=>rfl
theorem TO {c:Nat} (h:cD (x::l)+c≤n):cD l+c≤n:=aM (Ab (lV _ _) c) h
@[elab_as_elim] theorem up1 {P:Nat→Prop} {c:Nat} (h:c+1≤n) (k:∀m,c≤m→P (m+1)):P n:=by
 induction n using gi with
 |zero=>exact al h (wa _)
 |succ m=>exact k m (v7 h)
@[elab_as_elim] theorem WB {P:Nat→Prop} {c:Nat} (h:c+2≤n) (k:∀m,c≤m→P (m+2)):P n:=up1 h λO h=>up1 h λm h=>k m h
abbrev ln (b:Bool) (a:α):R α:=if b then .dW am else .ok a
variable {t:D}
theorem IA {k:Str} (h1:k≠cr) (h2:k≠bN):call code (n+2) .dE [.d (.J (.str k::ps))] σ=ln (bJ (.J (.str k::ps))) (.d .none,σ):=by
 refine ae (tZ h1 h2) ?_
 exact bG H rfl (aK (an (ei H) (tY h2)) (aK (aY (bF H rfl) (bW (ak (aI H rfl) ab ((il _ _).trans (aC _ (bQ h1)))))) ay)) H
theorem IB {x:Str}:call code (n+2) .dE [.d (.J [.str bN, .str x])] σ=ln (bJ (.J [.str bN, .str x])) (.d .none,σ):=by
 show _=ln (x==bH) _
 cases hx:x==bH with
 |true=>exact lB H rfl (bc (aA (an (ei H) (se.trans (by exact ae hx H))) (bc (fI ab))))
 |false=>exact bG H rfl (aK (an (ei H) (se.trans (by exact ae hx H))) (aK (aY (bF H rfl) (bW (cX H rfl rfl))) ay)) H
abbrev tgL:Ss:= .cons (.aU (.au .dw ↑1 (.az .none)) {.dC (.call .dE {.aw ↑1 ↥1})} .nil) .nil
inductive sf (n:Nat) (l:↑D) (a b:V):Prop
 |mk (b':V):cW (λy=>bk (.dj 1) (.d y)) (λρ σ=>bg (call code n) n tgL ρ σ) l [a,b] []=ln (kL l) (.next,[a,b'],[])→sf n l a b
theorem Gb (h:sf (n+1) aZ (.d (.J [.str cr, .J aZ])) .un):call code (n+2) .dE [.d (.J [.str cr, .J aZ])] σ=ln (bJ (.J [.str cr, .J aZ])) (.d .none,σ):=by
 show _=ln (kL aZ) _
 obtain ⟨v,yK⟩:=h
 have h1:ev (call code (n+1)) (.and {.au .dw ↑0 (.az .none), .au .eq (.aw ↑0 ↥0) ⇑cr}) [.d (.J [.str cr, .J aZ]), .un] []= .ok (.d (.bool true),[]):=rfl
 generalize hb:kL aZ=o0;induction o0 using ar with
 |true=>
  rw [hb]at yK
  exact lB H rfl (aK (an (ei H) H) (bc (aA h1 (bc (gL nS (fH (aI H rfl) H) yK)))))
 |false=>
  rw [hb]at yK
  exact bG H rfl (aK (an (ei H) H) (af (aA h1 (af (gL nS (fH (aI H rfl) H) yK) ay)) ay)) H
theorem Db {a b:V} (h:sf n l a (.d .none)):sf n (.none::l) a b:=let⟨b',h'⟩:=h;⟨b',fc H (aK (bF H rfl) ay) (.inl H) h'⟩
theorem Dc {key:D} {f:Bool} {a b:V} (c:call code n .dE [.d t] []=ln (bJ t) (.d .none,[])) (h:sf n l a (.d (.J [key,t, .bool f]))):sf n (.J [key,t, .bool f]::l) a b:=by
 obtain ⟨b',h'⟩:=h
 refine ⟨b',?_⟩
 show _=ln (bJ t||kL l) _
 generalize hb:bJ t=o0;induction o0 using ar with
 |true=>exact tT H (bc (aA (bF H rfl) (bc (kr (an (gR H rfl) (c.trans (by refine ae hb ?_;rfl)))))))
 |false=>exact fc H (af (aA (bF H rfl) (af (i6 (an (gR H rfl) (c.trans (by refine ae hb ?_;rfl)))) ay)) ay) (.inl H) h'
theorem Yk {a:D} (h:ht (.J [a, .J aZ])≤m):cD aZ+1≤m+1:=
 we (aM (aM (jp _ 1) (aM (fU (ht (.J aZ)) _) (aM (lV (ht a) _) (jp _ 1)))) h)
theorem abx {key f:D} (h:cD (.J [key,t,f]::l)+1≤n):ht t+2≤n:=by
 have h2:ht t≤cD [key,t,f]:=aM (fU (ht t) _) (lV (ht key) _)
 have h3:1+cD [key,t,f]+1≤n:=aM (we (fU _ _)) h
 clear h
 exact aS h2 h3
theorem oI (h:my t):∀(n:Nat) (σ:St),ht t+2≤n→call code n .dE [.d t] σ=ln (bJ t) (.d .none,σ):=
 my.rec (motive_1:=λt O=>∀(n:Nat) (σ:St),ht t+2≤n→call code n .dE [.d t] σ=ln (bJ t) (.d .none,σ)) (motive_2:=λl O=>∀(n:Nat) (a b:V),cD l+1≤n→sf n l a b)
  (λO O h=>WB h λO O=>rfl) (λh1 h2 O O h=>WB h λO O=>IA h1 h2) (λO O h=>WB h λO O=>IB)
  (λO ih O O h=>WB h λO h=>Gb (ih _ _ _ (Yk h)))
  (λO O b O=>⟨b,H⟩) (λO ih n O O h=>Db (ih n _ _ (TO h))) (λO O ih tj n O O h=>Dc (ih n [] (abx h)) (tj n _ _ (TO h))) h
theorem uw {t:Tg} {it:It} {c:Oe} {eZ:E} {zs:↑D} (h:i8 K it ρ σ= .ok (l,σ1)) (g:D→↑D) (hb:(l.flatMap g).length≤aT)
  (hs:∀x∈l,∃bX,nx t x (iD ρ cap++List.replicate n .un)= .ok bX∧∃b,AN K c bX σ1= .ok (b,σ1)∧(b=false∧g x=[]∨b=true∧∃y,ev K eZ bX σ1= .ok (.d y,σ1)∧g x=[y])) (hz:l.flatMap g=zs):
  ev K (.comp cap n t it c eZ) ρ σ= .ok (.d (.aD zs),σ1):=by
 subst hz
 refine bo h (bo (?_:ql _= .ok (l.flatMap g,σ1)) H)
 have key:=sd (bD:=λv=>nx t v (iD ρ cap++List.replicate n .un)) (f:=λbX acc σ=>(AN K c bX σ).bind λb=>
    if b.1 then(ev K eZ bX b.2).bind λq=>(gI q.1).bind λx=>uQ acc x q.2 else .ok (acc,b.2)) (σ:=σ1) g (xs:=l) (acc:=[]) (hb) λx hx acc mc=>by
  obtain ⟨bX,h1,b,h2,h3⟩:=hs x hx
  refine ⟨bX,h1,bo h2 ?_⟩
  rcases h3 with⟨rfl,h3⟩|⟨rfl,y,h4,h3⟩
  ·refine ae h3 ?_;rw [b6];rfl
  ·rw [h3]at mc⊢
   exact bo h4 (bo H (Iz mc))
 rw [pG]at key
 exact aC ql key
theorem Yl (h:ev K e ρ σ= .ok (.d (.bool b),σ1)):AN K (.some e) ρ σ= .ok (b,σ1):=bo h H
theorem WC:ek σ .ne (.d (.aD l)) (.d (.aD []))= .ok (!l.isEmpty):=rfl
theorem Ee {p:D→Bool} (l:↑D):(l.flatMap λx=>if p x then[x]else[]).isEmpty=!l.any p∧(l.flatMap λx=>if p x then[x]else[]).length≤l.length:=by
 induction l with
 |nil=>exact ⟨rfl,cF _⟩
 |cons x l ih=>
  refine ae List.flatMap_cons (ae List.any_cons ?_)
  cases h:p x
  ·exact ⟨ih.1,wc ih.2⟩
  ·exact ⟨rfl,we ih.2⟩
theorem Dd (l:↑D):kL l=l.any yJ:=by
 induction l with
 |nil=>rfl
 |cons x l ih=>show(yJ x||kL l)=_;refine ae ih ?_;rfl
inductive WD (x:D):Prop
 |none:x= .none→WD x
 |it (key t:D) (f:Bool):x= .J [key,t, .bool f]→my t→WD x
theorem uY.mem (h:uY l):x∈l→WD x:=
 uY.rec (motive_1:=λO O=>True) (motive_2:=λl O=>x∈l→WD x) trivial (λO O=>trivial) trivial (λO O=>trivial) (λhx=>(fX hx).elim)
  (λO ih hx=>(cM.mp hx).elim .none ih) (λh O O ih hx=>(cM.mp hx).elim (λe=> .it _ _ _ e h) ih) h
theorem Ef {c:E} {it:E} {q:D→Bool} (hi:ev K it ρ []= .ok (.d (.J aZ),[])) (cb:aZ.length≤aT) (h:∀x∈aZ,ev K c [.d x] []= .ok (.d (.bool (q x)),[])):
  ev K (.au .ne (.comp [] 1 (.dj 0) (.seq it) (.some c) ↑0) (.aD false .nil)) ρ []= .ok (.d (.bool (aZ.any q)),[]):=
 ak (uw (fH hi H) (λx=>if q x then[x]else[]) (aM (Ee aZ).2 cb) (λx hx=>⟨[.d x],H,q x,Yl (h x hx),by cases q x with|false=>exact .inl ⟨H,H⟩|true=>exact .inr ⟨H,x,aa H,H⟩⟩) H) (dn aq H) (by refine ae WC ?_;rw [(Ee aZ).1,Bool.not_not])
theorem Pt {k:Str} (h1:k≠cr) (h2:k≠bN):call code (n+1) .fi [.d (.J (.str k::ps))] σ= .ok (.d (.bool (bJ (.J (.str k::ps)))),σ):=by
 refine ae (tZ h1 h2) ?_
 refine bG H rfl (bB (aA (gy (bF H rfl) (gx (ak (aI H rfl) ab ((Aw _ _).trans (aC (λb=>R.ok (!b)) (bQ h1)))))) (bq (ak (aa H) ec ?_)))) H
 show R.ok (k==bN&&_)=_
 refine ae (bQ h2) ?_;rfl
theorem Pu {x:Str}:call code (n+1) .fi [.d (.J [.str bN, .str x])] σ= .ok (.d (.bool (bJ (.J [.str bN, .str x]))),σ):=by
 show _=R.ok (V.d (.bool (x==bH)),σ)
 refine bG H rfl (bB (aA (gy (bF H rfl) (gx (cX H rfl rfl))) (bq (ak (aa H) ec ?_)))) H
 show R.ok (bN==bN&&(x==bH&&true))=_
 rw [beq_self_eq_true,Bool.true_and,Bool.and_true]
theorem BX {a:D} (h:sz (.J [a, .J aZ])≤aT):aZ.length≤aT:=by
 have h1:=jG aZ
 change 1+(sz a+(1+b9 aZ+0))≤aT at h
 exact aS h1 h
theorem Eg {a key f:D} (h:sz (.J [a, .J aZ])≤aT) (hx: .J [key,t,f]∈aZ):sz t≤aT:=by
 have h1:=tU hx
 change 1+(sz a+(1+b9 aZ+0))≤aT at h
 change 1+(sz key+(sz t+(sz f+0)))≤_ at h1
 exact aS h1 h
theorem yL {a key f:D} (h:ht (.J [a, .J aZ])≤m) (hx: .J [key,t,f]∈aZ):ht t+1≤m:=by
 have h1:1+cD [key,t,f]≤cD aZ:=ku hx
 have h2:ht t≤cD [key,t,f]:=aM (fU (ht t) _) (lV (ht key) _)
 have h3:cD aZ+1≤m+1:=Yk h
 clear h
 exact fY h2 h1 h3
theorem lq (n:Nat):∀{t:D} (σ:St),my t→ht t+1≤n→sz t≤aT→call code n .fi [.d t] σ= .ok (.d (.bool (bJ t)),σ):=by
 induction n with
 |zero=>exact λO O h=>al h (wa _)
 |succ n ih=>
  intro t σ h hn hs
  replace hn:=v7 hn
  induction h using my.casesOn with
  |none=>rfl
  |dj h1 h2=>exact Pt h1 h2
  |var=>exact Pu
  |@list aZ hl=>
   show _=R.ok (V.d (.bool (kL aZ)),σ)
   rw [Dd]
   refine bG H rfl (aK (gy (bF H rfl) (gx (cX H rfl rfl))) (bq (Ef (aI H rfl) (BX hs) λx hx=>?_))) H
   have hI:=hl.mem hx
   induction hI with
   |none e=>subst e;exact cA (bF H rfl)
   |it key t f e mi=>subst e;exact aY (bF H rfl) (bW (an (gR H rfl) (ih [] mi (yL hn hx) (Eg hs hx))))
mutual
inductive BY:D→Prop
 |mk {aZ:↑D}:pi aZ→BY (.J [.str cr, .J aZ])
inductive pi:↑D→Prop
 |nil:pi []
 |skip {l:↑D}:pi l→pi (.none::l)
 |dj {key:D} {k:Str} {ps:↑D} {f:Bool} {l:↑D}:k≠cr→pi l→pi (.J [key, .J (.str k::ps), .bool f]::l)
 |sub {key t:D} {f:Bool} {l:↑D}:BY t→pi l→pi (.J [key,t, .bool f]::l)
end
mutual
noncomputable def qb:D→Bool
 | .J [.str k, .J aZ]=>k==cr&&qY aZ
 |_=>false
noncomputable def qY:↑D→Bool
 |[]=>false
 |x::r=>nM x||qY r
noncomputable def nM:D→Bool
 | .J [_,t, .bool f]=>f||qb t
 |_=>false
end
theorem De {k:Str} (h1:k≠cr):qb (.J (.str k::ps))=false:=by
 induction ps using bu with
 |nil=>rfl
 |cons p r=>induction r using bu with
  |cons=>induction p using D.casesOn<;>rfl
  |nil=>induction p using D.casesOn with
   |J l=>show(k==cr&&_)=false;refine ae (bQ h1) ?_;rfl
   |_=>rfl
theorem xA (l:↑D):qY l=l.any nM:=by
 induction l with
 |nil=>rfl
 |cons x l ih=>show(nM x||qY l)=_;refine ae ih ?_;rfl
inductive Lg (x:D):Prop
 |none:x= .none→Lg x
 |dj (key:D) (k:Str) (ps:↑D) (f:Bool):x= .J [key, .J (.str k::ps), .bool f]→k≠cr→Lg x
 |sub (key:D) (aZ:↑D) (f:Bool):x= .J [key, .J [.str cr, .J aZ], .bool f]→pi aZ→Lg x
theorem pi.mem (h:pi l):x∈l→Lg x:=
 pi.rec (motive_1:=λt O=>∃aZ,t= .J [.str cr, .J aZ]∧pi aZ) (motive_2:=λl O=>x∈l→Lg x) (λh O=>⟨_,H,h⟩) (λhx=>(fX hx).elim)
  (λO ih hx=>(cM.mp hx).elim .none ih) (λh O ih hx=>(cM.mp hx).elim (λe=> .dj _ _ _ _ e h) ih)
  (λO O g ih hx=>(cM.mp hx).elim (λe=>g.elim λaZ q=> .sub _ aZ _ (q.1▸e) q.2) ih) h
noncomputable abbrev TP (f:F) (v:Nat):E:= .and {.au .dw (.var v) (.az .none), .or {.aw (.var v) ↥2, .and {.au .eq (.aw (.aw (.var v) ↥1) ↥0) ⇑cr, .call f {.aw (.var v) ↥1}}}}
theorem Eh {v:Nat} (hv:ρ[v]?=some (.d x)) (h:Lg x) (hc:∀key aZ g,x= .J [key, .J [.str cr, .J aZ], .bool g]→pi aZ→K f [.d (.J [.str cr, .J aZ])] []= .ok (.d (.bool (qb (.J [.str cr, .J aZ]))),[])):ev K (TP f v) ρ []= .ok (.d (.bool (nM x)),[]):=by
 induction h using Lg.casesOn with
 |none e=>subst e;exact cA (ak (aa hv) ab H)
 |dj key k ps g e hk=>
  subst e
  refine aY (ak (aa hv) ab H) (bW ?_)
  induction g using ar with
  |true=>exact jQ (aR (aa hv) ab H)
  |false=>exact gy (aR (aa hv) ab H) (gx ((cA (ak (aR (aR (aa hv) ab H) ab H) ab ((il _ _).trans (aC _ (bQ hk))))).trans (aC (λb=>R.ok (V.d (.bool b),([]:St))) (De (ps:=ps) hk).symm)))
 |sub key aZ g e hg=>
  have q:=hc key aZ g e hg
  clear hc
  subst e
  refine aY (ak (aa hv) ab H) (bW ?_)
  induction g using ar with
  |true=>exact jQ (aR (aa hv) ab H)
  |false=>exact gy (aR (aa hv) ab H) (gx (aY (ak (aR (aR (aa hv) ab H) ab H) ab H) (bW (an (ac (aR (aa hv) ab H) aq) q))))
theorem BZ (n:Nat):∀{t:D} (σ:St),BY t→ht t+1≤n→sz t≤aT→call code n .lZ [.d t] σ= .ok (.d (.bool (qb t)),σ):=by
 induction n with
 |zero=>exact λO O h=>al h (wa _)
 |succ n ih=>
  intro t σ h hn hs
  replace hn:=v7 hn
  induction h using BY.casesOn with
  |@mk aZ hl=>
   show _=R.ok (V.d (.bool (qY aZ)),σ)
   rw [xA]
   exact bG H rfl (bq (Ef (aI H rfl) (BX hs) λx hx=>Eh (v:=0) H (hl.mem hx) λkey it g e hg=>ih [] (.mk hg) (yL hn (e▸hx)) (Eg hs (e▸hx)))) H
noncomputable abbrev aao:Ss:= .cons (.aU (TP .j5 1) {.ret (.some (.az (.bool true)))} .nil) .nil
theorem Lh {a:V} (l:↑D):(∀x∈l,ev K (TP .j5 1) [a, .d x] []= .ok (.d (.bool (nM x)),[]))→∀b:V,∃b',cW (λy=>bk (.dj 1) (.d y)) (λρ σ=>bg K w aao ρ σ) l [a,b] []= .ok ((if l.any nM then .ret (.d (.bool true))else .next),[a,b'],[]):=by
 induction l with
 |nil=>exact λO b=>⟨b,rfl⟩
 |cons x l ih=>
  intro hm b
  have hs:=hm x bZ
  refine ae List.any_cons ?_
  generalize hb:nM x=o0;induction o0 using ar with
  |true=>exact ⟨.d x,TC H (bB (aA (hs.trans (by exact ae hb H)) (bq ab)))⟩
  |false=>exact (ih (λy hy=>hm y (bY _ hy)) (.d x)).imp λb' h'=>fc H (aK (hs.trans (by exact ae hb H)) ay) (.inl H) h'
theorem Df (n:Nat):∀{t:D} (σ:St),BY t→ht t+1≤n→call code n .j5 [.d t] σ= .ok (.d (.bool (qb t)),σ):=by
 induction n with
 |zero=>exact λO O h=>al h (wa _)
 |succ n ih=>
  intro t σ h hn
  replace hn:=v7 hn
  induction h using BY.casesOn with
  |@mk aZ hl=>
   show _=R.ok (V.d (.bool (qY aZ)),σ)
   rw [xA]
   obtain ⟨b',h'⟩:=Lh (K:=call code n) (w:=n) (a:= .d (.J [.str cr, .J aZ])) aZ (λx hx=>Eh (v:=1) rfl (hl.mem hx) λkey it g e hg=>ih [] (.mk hg) (yL hn (e▸hx))) .un
   generalize hb:aZ.any nM=o0;induction o0 using ar with
   |true=>exact bG H rfl (bB (gL nS (fH (aI H rfl) H) (h'.trans (by refine ae hb ?_;rfl)))) H
   |false=>exact bG H rfl (af (gL nS (fH (aI H rfl) H) (h'.trans (by refine ae hb ?_;rfl))) (bq ab)) H
structure fV where
 sg:↑Bool
 ty:D
 top:Bool
 cZ:Bool
abbrev jB (sg:↑Bool):↑D:=sg.map λb=> .str (if b then jx else jy)
abbrev kx (sg:↑Bool):↑Nat:=sg.map λb=>if b then 76 else 70
abbrev sh (sg:↑Bool):Str:=⟨(kx sg).toArray⟩
abbrev dT (c:fV):V:= .eO [(qV, .d c.ty),(ij, .ref 0),(gE, .ref 1),(qy, .d (.bool c.top)),(ey, .d (.bool c.cZ))]
abbrev dX (c:fV):V:= .eO [(ij, .d (.str (sh c.sg))),(m8, .d c.ty),(qy, .d (.bool c.top)),(ey, .d (.bool c.cZ)),(gE, .ref 0)]
abbrev bp (c:fV) (ai:↑Str):St:=[.list (jB c.sg), .list (ai.map .str)]
abbrev bR (ai:↑Str):St:=[.list (ai.map .str)]
abbrev cY (fs:↑Str):V:= .d (.aD (fs.map .str))
abbrev eM (fs:↑Str) (σ:St):R (V×St):=match fs with
 |[]=> .ok (.d .none,σ)
 |f::_=> .dW f
inductive lK:D→Prop
 |none:lK .none
 |J (l:↑D):lK (.J l)
abbrev sN (t:D) (x:Str):Bool:=match t with
 | .J l=>zi l [.str x]
 |_=>false
abbrev aL:D→Bool
 | .none=>true
 |_=>false
abbrev uZ (c:fV) (v:D):↑Str:=
 if sN c.ty km then(if c.cZ then[]else[dZ])
 else if sN c.ty kK then(if aL v then[]else[eg])
 else if !aL c.ty&&aL v then[d6]else[]
theorem aap {x:Str} (h:lK t):ek σ .eq (.d t) (.d (.J [.str x]))= .ok (sN t x):=by induction h using lK.casesOn<;>rfl
theorem Nc {x:Str} (h:lK t) (hb:sN t x=b):ek σ .eq (.d t) (.d (.J [.str x]))= .ok b:=by exact ae (aap h) (ae hb H)
theorem gz {v:D} (hb:aL v=b):ek σ .kW (.d v) (.d .none)= .ok b:=by subst hb;induction v using D.casesOn<;>rfl
theorem Ax {v:D} (hb:aL v=b):ek σ .dw (.d v) (.d .none)= .ok (!b):=by subst hb;induction v using D.casesOn<;>rfl
variable {ai:↑Str}
theorem z4 {c:fV} {v:D} (h:lK c.ty):call code (n+1) .m1 [.d v,dX c] (bR ai)= .ok (cY (uZ c v),bR ai):=by
 have k1:∀{K:fF} {x:Str} {b:Bool},sN c.ty x=b→ev K (.au .eq (.aw ↑1 ⇑m8) (.J {⇑x})) [.d v,dX c] (bR ai)= .ok (.d (.bool b),bR ai):=λ{K x b} hb=>ak (aR (bw H) ab H) (aV f9 H) (Nc h hb)
 unfold uZ
 generalize h1:sN c.ty km=o0;induction o0 using ar with
 |true=>
  have ka:∀{K:fF} {b:Bool},c.cZ=b→ev K (.aw ↑1 ⇑ey) [.d v,dX c] (bR ai)= .ok (.d (.bool b),bR ai):=λ{K b} hb=>by refine dg hb ?_;exact aR (bw H) ab H
  generalize ha:c.cZ=o0;induction o0 using ar with
  |true=>exact dp (rs:=[0]) H rfl (by simp) H (bB (aA (k1 h1) (bq (ik (ka ha) (dn aq H))))) H rfl
  |false=>exact dp (rs:=[0]) H rfl (by simp) H (bB (aA (k1 h1) (bq (iJ (ka ha) (dn f9 H))))) H rfl
 |false=>
  have s1:∀{K:fF} {w:Nat} {b:Ss},ex K w (.aU (.au .eq (.aw ↑1 ⇑m8) (.J {⇑km})) b .nil) [.d v,dX c] (bR ai)= .ok (.next,[.d v,dX c],bR ai):=λ{K w b}=>bi (k1 h1) ay
  generalize h2:sN c.ty kK=o0;induction o0 using ar with
  |true=>
   generalize hv:aL v=o0;induction o0 using ar with
   |true=>exact dp (rs:=[0]) H rfl (by simp) H (af s1 (bB (aA (k1 h2) (bq (ik (ak (aa H) ab (gz hv)) (dn aq H)))))) H rfl
   |false=>exact dp (rs:=[0]) H rfl (by simp) H (af s1 (bB (aA (k1 h2) (bq (iJ (ak (aa H) ab (gz hv)) (dn f9 H)))))) H rfl
  |false=>
   have s2:∀{K:fF} {w:Nat} {b:Ss},ex K w (.aU (.au .eq (.aw ↑1 ⇑m8) (.J {⇑kK})) b .nil) [.d v,dX c] (bR ai)= .ok (.next,[.d v,dX c],bR ai):=λ{K w b}=>bi (k1 h2) ay
   simp only [Bool.false_eq_true,↓reduceIte]
   cases mi:aL c.ty with
   |true=>exact dp (rs:=[0]) H rfl (by simp) H (af s1 (af s2 (aK (cA (ak (aR (bw H) ab H) ab (Ax mi))) (bq (dn aq H))))) H rfl
   |false=>
    have a1:∀{K:fF},ev K (.au .dw (.aw ↑1 ⇑m8) (.az .none)) [.d v,dX c] (bR ai)= .ok (.d (.bool true),bR ai):=λ{K}=>ak (aR (bw H) ab H) ab (Ax mi)
    generalize hv:aL v=o0;induction o0 using ar with
    |true=>exact dp (rs:=[0]) H rfl (by simp) H (af s1 (af s2 (bB (aA (aY a1 (bW (ak (aa H) ab (gz hv)))) (bq (dn f9 H)))))) H rfl
    |false=>exact dp (rs:=[0]) H rfl (by simp) H (af s1 (af s2 (aK (aY a1 (bW (ak (aa H) ab (gz hv)))) (bq (dn aq H))))) H rfl
theorem z5 {c:fV} {k v:D} (h:lK c.ty):call code (n+1) .kU [.d (.J [k,v]),dT c] (bp c ai)=eM (uZ c v) (bp c ai):=by
 have k0:∀{K:fF} {w:Nat},ex K w (.bD 2 (.aw ↑1 ⇑qV)) [.d (.J [k,v]),dT c, .un] (bp c ai)= .ok (.next,[.d (.J [k,v]),dT c, .d c.ty],bp c ai):=λ{K w}=>aJ (aR (bw H) ab H)
 have ka:∀{K:fF} {b:Bool},c.cZ=b→ev K (.aw ↑1 ⇑ey) [.d (.J [k,v]),dT c, .d c.ty] (bp c ai)= .ok (.d (.bool b),bp c ai):=λ{K b} hb=>by refine dg hb ?_;exact aR (bw H) ab H
 have EY:∀{K:fF},ev K (.aw ↑0 ↥1) [.d (.J [k,v]),dT c, .d c.ty] (bp c ai)= .ok (.d v,bp c ai):=λ{K}=>aI H rfl
 unfold uZ
 cases mi:aL c.ty with
 |true=>
  have e0:c.ty= .none:=by
   cases q:c.ty<;>rw [q]at mi<;>first|rfl|cases mi
  have e1:sN c.ty km=false:=by refine ae e0 ?_;rfl
  have e2:sN c.ty kK=false:=by refine ae e0 ?_;rfl
  refine ae e1 (ae e2 ?_)
  exact dp (rs:=[0,1]) H rfl (by simp) H (af k0 (bB (aA (ak (aa H) ab (gz mi)) (bB Au)))) H rfl
 |false=>
  have s0:∀{K:fF} {w:Nat} {b:Ss},ex K w (.aU (.au .kW ↑2 (.az .none)) b .nil) [.d (.J [k,v]),dT c, .d c.ty] (bp c ai)= .ok (.next,[.d (.J [k,v]),dT c, .d c.ty],bp c ai):=λ{K w b}=>bi (ak (aa H) ab (gz mi)) ay
  have k1:∀{K:fF} {x:Str} {b:Bool},sN c.ty x=b→ev K (.au .eq ↑2 (.J {⇑x})) [.d (.J [k,v]),dT c, .d c.ty] (bp c ai)= .ok (.d (.bool b),bp c ai):=λ{K x b} hb=>ak (aa H) (aV f9 H) (Nc h hb)
  generalize h1:sN c.ty km=o0;induction o0 using ar with
  |true=>
   generalize ha:c.cZ=o0;induction o0 using ar with
   |true=>exact dp (rs:=[0,1]) H rfl (by simp) H (af k0 (af s0 (af (aA (k1 h1) (aK (jc (ka ha) H) ay)) ay))) H rfl
   |false=>exact mh (rs:=[0,1]) H rfl (by simp) H (af k0 (af s0 (bc (aA (k1 h1) (bc (aA (jc (ka ha) H) (bc (fI ab))))))))
  |false=>
   generalize h2:sN c.ty kK=o0;induction o0 using ar with
   |true=>
    generalize hv:aL v=o0;induction o0 using ar with
    |true=>exact dp (rs:=[0,1]) H rfl (by simp) H (af k0 (af s0 (af (bi (k1 h1) (af (aA (k1 h2) (aK (ak EY ab (Ax hv)) ay)) ay)) ay))) H rfl
    |false=>exact mh (rs:=[0,1]) H rfl (by simp) H (af k0 (af s0 (bc (bi (k1 h1) (bc (aA (k1 h2) (bc (aA (ak EY ab (Ax hv)) (bc (fI ab))))))))))
   |false=>
    generalize hv:aL v=o0;induction o0 using ar with
    |true=>exact mh (rs:=[0,1]) H rfl (by simp) H (af k0 (af s0 (bc (bi (k1 h1) (bc (bi (k1 h2) (bc (aA (ak EY ab (gz hv)) (bc (fI ab))))))))))
    |false=>exact dp (rs:=[0,1]) H rfl (by simp) H (af k0 (af s0 (af (bi (k1 h1) (af (bi (k1 h2) (aK (ak EY ab (gz hv)) ay)) ay)) ay))) H rfl
abbrev rt:↑Bool→Nat
 |true::r=>rt r+1
 |_=>0
abbrev mj (sg:↑Bool):Nat:=rt sg.reverse
abbrev Ym (ed:Str):Str:=FR++ed++dm
abbrev TQ (ed:Str) (aO:Nat):Str:=jm++ed++pZ++Str.ofString (toString (aO:Int))++BL
abbrev qz (ed:Str) (aO:Nat) (sg:↑Bool):↑Str:=
 if sg.contains true=false then[Ym ed]else if aO≤mj sg then[]else if sg.contains false then[cj]else[TQ ed aO]
theorem Li (sg:↑Bool):jB sg=(sg.map λb=>if b then jx else jy).map .str:=by simp [jB]
theorem Px (sg:↑Bool):((sg.map λb=>if b then jx else jy).contains jx)=sg.contains true:=by
 induction sg with
 |nil=>rfl
 |cons b r ih=>induction b using ar<;>simp only [ef,List.contains_cons,ih]<;>rfl
theorem TR (sg:↑Bool):(kx sg).contains 76=sg.contains true:=by
 unfold kx
 induction sg with
 |nil=>rfl
 |cons x r ih=>induction x using ar<;>simp only [ef,List.contains_cons,ih]<;>rfl
theorem TS (sg:↑Bool):(kx sg).contains 70=sg.contains false:=by
 unfold kx
 induction sg with
 |nil=>rfl
 |cons x r ih=>induction x using ar<;>simp only [ef,List.contains_cons,ih]<;>rfl
theorem Dg (c x:Nat) (l:↑Nat):gj c (l++[x])=if x=c then some l.length else gj c l:=by
 induction l with
 |nil=>exact H
 |cons y l dS=>
  refine ae rC ?_
  have h1:gj c (y::(l++[x]))=(match gj c (l++[x])with|some i=>some (i+1)|none=>if y=c then some 0 else none):=rfl
  have h2:gj c (y::l)=(match gj c l with|some i=>some (i+1)|none=>if y=c then some 0 else none):=rfl
  refine ae h1 (ae h2 (ae dS ?_))
  by_cases q:x=c
  ·refine ae (ao q) (ae (ao q) ?_);rfl
  ·exact ae (aN q) (ae (aN q) H)
theorem Lj:∀rs:↑Bool,rt rs≤rs.length
 |[]=>cF _
 |true::r=>we (Lj r)
 |false::r=>dK _
theorem WE (rs:↑Bool):gj 70 (70::kx rs.reverse)=some (rs.length -rt rs):=by
 induction rs with
 |nil=>exact H
 |cons b r dS=>
  have ih:=dS
  have h:=Lj r
  have e:70::kx (b::r).reverse=(70::kx r.reverse)++[if b then 76 else 70]:=by simp [kx]
  rw [e,Dg,ih]
  induction b using ar
  ·simp [rt,kx]
  ·dsimp only [↓reduceIte,List.length_cons]
   show _=some (r.length+1 -(rt r+1))
   rw [aN (by lia)];congr 1;lia
theorem WF (sg:↑Bool):gj 70 (70::kx sg)=some (sg.length -mj sg):=by
 have:=WE sg.reverse
 rwa [List.reverse_reverse,rq]at this
theorem Py (sg:↑Bool):mj sg≤sg.length:=by
 have:=Lj sg.reverse
 rwa [rq]at this
theorem IC (sg:↑Bool):(sh sg).length=sg.length:=by simp [sh,kx,Str.length]
variable {ed:Str}
theorem B0 (hw:ed=cL∨ed=bS) (h:ρ[i]?=some (.d (.str ed))):ev K (.aE .add (.aE .add ⇑FR (.var i)) ⇑dm) ρ σ= .ok (.d (.str (Ym ed)),σ):=by
 rcases hw with rfl|rfl<;>exact cG (cG ab (aa h) rfl) ab rfl
variable {aO:Nat}
theorem B3 (hw:ed=cL∨ed=bS) (hm:aO=1∨aO=2∨aO=3∨aO=4) (h:ρ[i]?=some (.d (.str ed))) (h1:ρ[j]?=some (.d (.int (aO:Int)))):
  ev K (.aE .add (.aE .add (.aE .add ⇑jm (.var i)) ⇑pZ) (.b1 .str (.var j))) ρ σ= .ok (.d (.str (jm++ed++pZ++Str.ofString (toString (aO:Int)))),σ):=by
 rcases hw with rfl|rfl<;>rcases hm with rfl|rfl|rfl|rfl<;>exact cG (cG (cG ab (aa h) rfl) ab rfl) (fB (aa h1) rfl) rfl
theorem yM {a b:Str} (h:a.length≤1000) (h2:b.length≤1000):jj σ .add (.d (.str a)) (.d (.str b))= .ok (.d (.str (a++b)),σ):=by
 have hb:a.length+b.length≤aT:=aM (jT h h2) ∅
 show(if a.length+b.length≤aT then R.ok (D.str (a++b))else R.aQ).bind _=_
 refine ae (ao hb) ?_;rfl
theorem Ei (hw:ed=cL∨ed=bS) (hm:aO=1∨aO=2∨aO=3∨aO=4):(jm++ed++pZ++Str.ofString (toString (aO:Int))).length≤900:=by
 rcases hw with rfl|rfl<;>rcases hm with rfl|rfl|rfl|rfl<;>decide+kernel
noncomputable abbrev jL (ed:Str) (aO:Nat) (sg:↑Bool) (x:V):↑V:=[.d (.str ed), .d (.int (aO:Int)), .d (.str (sh sg)),x]
variable {sg:↑Bool}
theorem si (hb:sg.length<aT):ex K w (.bD 3 (.aE .add (.aE .sub (.aE .sub (.b1 .len ↑2) ↥1) (.b2 .rindex (.aE .add ⇑xm ↑2) ⇑xm)) ↥1)) (jL ed aO sg .un) []= .ok (.next,jL ed aO sg (.d (.int (mj sg:Int))),[]):=by
 have cb:=IC sg
 have ZY:=Py sg
 have a1:mF [] .len (.d (.str (sh sg)))= .ok (.d (.int (sg.length:Int)),[]):=
  (p8 H (cb▸Nat.lt_trans hb ∅)).trans (by rw [cb])
 have a2:jj [] .add (.d (.str xm)) (.d (.str (sh sg)))= .ok (.d (.str ⟨(70::kx sg).toArray⟩),[]):=by
  show(if xm.length+(sh sg).length≤aT then R.ok (D.str (xm++sh sg))else R.aQ).bind _=_
  rw [ao (by rw [cb];show 1+sg.length≤aT;exact av hb)]
  show R.ok (V.d (.str ⟨#[70]++(kx sg).toArray⟩),[])=_
  simp
 have a3:Jq [] .rindex ⟨(70::kx sg).toArray⟩ (.d (.str xm))= .ok (.d (.int ((sg.length -mj sg:Nat):Int))):=by
  show(pN (gj 70 (70::kx sg))).bind (λi=>R.ok (V.d (.int (i:Int))))=_
  rw [WF];rfl
 have a4:(sg.length:Int) -1 -((sg.length -mj sg:Nat):Int)+1=(mj sg:Int):=by lia
 exact (aJ (cG (cG (cG (fB (aa H) a1) ab H) (abu (cG ab (aa H) a2) ab a3) H) ab H)).trans (by rw [a4];rfl)
theorem Dh (hw:ed=cL∨ed=bS) (hm:aO=1∨aO=2∨aO=3∨aO=4) (hb:sg.length<aT):
  call code (n+1) .pL [.d (.str ed), .d (.int (aO:Int)), .d (.str (sh sg))] σ= .ok (cY (qz ed aO sg),σ):=by
 have hL:ek [] .vc (.d (.str Ii)) (.d (.str (sh sg)))= .ok (!sg.contains true):=by rw [←TR];rfl
 have hF:ek [] .fj (.d (.str xm)) (.d (.str (sh sg)))= .ok (sg.contains false):=by rw [←TS];rfl
 have TU:ek [] .le (.d (.int (aO:Int))) (.d (.int (mj sg:Int)))= .ok (decide (aO≤mj sg)):=by
  show R.ok (decide ((aO:Int)≤(mj sg:Int)))=_
  exact ae (decide_eq_decide.mpr nh) H
 unfold qz
 generalize h1:sg.contains true=o0;induction o0 using ar with
 |false=>
  rw [h1]at hL
  exact bG H rfl (af (si hb) (bB (aA (ak ab (aa H) hL) (bq (dn (ac (B0 hw H) aq) H))))) H
 |true=>
  rw [h1]at hL
  refine ae (aN (λq=>bL q)) ?_
  by_cases h2:aO≤mj sg
  ·rw [decide_eq_true h2]at TU
   refine ae (ao h2) ?_
   exact bG H rfl (af (si hb) (aK (ak ab (aa H) hL) (bB (aA (ak (aa H) (aa H) TU) (bq (dn aq H)))))) H
  ·rw [decide_eq_false h2]at TU
   refine ae (aN h2) ?_
   generalize h3:sg.contains false=o0;induction o0 using ar with
   |true=>
    rw [h3]at hF
    exact bG H rfl (af (si hb) (aK (ak ab (aa H) hL) (aK (ak (aa H) (aa H) TU) (bB (aA (ak ab (aa H) hF) (bq (dn f9 H))))))) H
   |false=>
    rw [h3]at hF
    exact bG H rfl (af (si hb) (aK (ak ab (aa H) hL) (aK (ak (aa H) (aa H) TU) (aK (ak ab (aa H) hF) (bq (dn (ac (cG (B3 hw hm H rfl) ab (yM (aM (Ei hw hm) ∅) ⋯)) aq) H)))))) H
abbrev WG (aO:Nat):↑Bool→Nat→R Bool
 |[],_=> .ok false
 |false::_,_=> .dW cj
 |true::r,s=>if s=1 then .ok true else WG aO r (s -1)
theorem Nd:∀(rs:↑Bool) (s:Nat),1≤s→WG aO rs s=if s≤rt rs then .ok true else if rs.contains false then .dW cj else .ok false
 |[],s,h=>by refine ae (aN (by show ¬s≤0;lia:¬s≤rt [])) ?_;rfl
 |false::r,s,h=>by refine ae (aN (by show ¬s≤0;lia:¬s≤rt (false::r))) (ae (ao (by simp)) ?_);rfl
 |true::r,s,h=>by
  have hc:(true::r).contains false=r.contains false:=by simp
  show(if s=1 then R.ok true else WG aO r (s -1))=if s≤rt r+1 then .ok true else if(true::r).contains false then _ else _
  refine ae hc ?_
  by_cases q:s=1
  ·exact ae (ao q) (ae (ao (av (eL q))) H)
  ·refine ae (aN q) (ae (Nd r (s -1) (Nat.le_sub_one_of_lt (Nat.lt_of_le_of_ne h (Ne.symm q)))) ?_)
   by_cases q2:s≤rt r+1
   ·exact ae (ao (by lia)) (ae (ao q2) H)
   ·exact ae (aN (by lia)) (ae (aN q2) H)
abbrev jb:Ss:=match m9.body with
 | .cons _ (.cons _ (.cons _ (.cons (.ej _ _ b) _)))=>b
 |_=> .nil
abbrev TV (ρ:↑V):R Bool→RS
 | .ok b=> .ok (if b then .ret (.d .none)else .next,ρ,[])
 | .dW m=> .dW m
 | .aQ=> .aQ
theorem aaq {a b c d:V} (rs:↑Bool):∀(s:Nat) (x:V),1≤s→g9 λs' x'=>cW (λy=>bk (.dj 5) (.d y)) (λρ σ=>bg K w jb ρ σ) (jB rs) [a,b,c,d, .d (.int (s:Int)),x] []=TV [a,b,c,d,s',x'] (WG aO rs s):=by
 induction rs with
 |nil=>exact λs x O=>⟨_,x,rfl⟩
 |cons y r ih=>
  intro s x h
  induction y using ar with
  |false=>exact ⟨.un,x,tT H (bc (aA (bF H rfl) (bc (fI ab))))⟩
  |true=>
   by_cases q:s=1
   ·rw [q]
    exact ⟨_, .d (.str jx),TC H (aK (bF H rfl) (af (TA (aa H) ab) (bB (aA (bF H rfl) (bB Au)))))⟩
   ·obtain ⟨s',x',h'⟩:=ih (s -1) (.d (.str jx)) (by lia)
    have h0:ek ([]:St) .eq (.d (.int ((s:Int) -1))) (.d (.int 0))= .ok false:=by
     show R.ok (((s:Int) -1)==0)=_
     rw [jS.mpr (by lia)]
    refine ⟨s',x',(fc H (aK (bF H rfl) (af (TA (aa H) ab) (aK (ak (aa H) ab h0) ay))) (.inl H) (Eq.trans ?_ h')).trans (aC (TV _) (aN q).symm)⟩
    rw [(by lia:(s:Int) -1=((s -1:Nat):Int))];rfl
theorem Lk (sg:↑Bool):(jB sg).reverse=jB sg.reverse:=by simp [jB]
theorem ID:∀rs:↑Bool,rs.contains false=false→rt rs=rs.length
 |[],_=>rfl
 |true::r,h=>by
  have:=ID r (h)
  simp only [rt,gO,this]
 |false::r,h=>by simp at h
noncomputable abbrev jE (ed:Str) (aO:Nat) (b x y:V):↑V:=[.d (.J [.str ed, .int (aO:Int)]),b, .d (.str ed), .d (.int (aO:Int)),x,y]
section
variable {c:fV}
theorem Ll:ek (bp c ai) .vc (.d (.str jx)) (.ref 0)= .ok (!c.sg.contains true):=by
 have:GR (bp c ai) (.str jx) (.ref 0)= .ok (c.sg.contains true):=by
  show vd (.str jx) (jB c.sg)=_
  rw [Li,jd,Px]
 show(GR (bp c ai) (.str jx) (.ref 0)).bind _=_
 rw [this];rfl
theorem vR {x y:V} {p:RS} (h:cW (λx=>bk (.dj 5) (.d x)) (λρ σ=>bg K w jb ρ σ) (jB c.sg.reverse) (jE ed aO .un x y) []=p) (hx:ti x=x) (hy:ti y=y):
  ex K w (.ej (.dj 5) (.sU (.aw ↑1 ⇑ij)) jb) (jE ed aO (dT c) x y) (bp c ai)=p.bind λp=>if p.2.2.isEmpty then .ok (p.1,p.2.1,bp c ai)else .aQ:=by
 refine (R.cf (x:=ev K (.aw ↑1 ⇑ij) (jE ed aO (dT c) x y) (bp c ai)) (f:=GX (.dj 5) (bg K w jb) (jE ed aO (dT c) x y)) (aR (bw H) ab H)).trans ?_
 show ny (cW (λx=>bk (.dj 5) (.d x)) (bg K w jb) (jB c.sg).reverse) _ _=_
 rw [Lk]
 refine (aC (λr=>R.bind r _) (Eq.trans ?_ h):)
 show cW _ _ _ [.d (.J [.str ed, .int (aO:Int)]), .un, .d (.str ed), .d (.int (aO:Int)),ti x,ti y] _=_
 exact ae hx (ae hy H)
abbrev aar:Ss:=match m9.body with
 | .cons _ (.cons _ (.cons _ r))=>r
 |_=> .nil
theorem IE {b x y:V} (hw:ed=cL∨ed=bS) (hm:aO=1∨aO=2∨aO=3∨aO=4) (h4:aO≠1):
  ev K (.aE .add (.aE .add (.aE .add (.aE .add (.aE .add ⇑jm ↑2) ⇑pZ) (.b1 .str ↑3)) ⇑yB) (.ite (.au .eq ↑3 ↥1) ⇑q_ ⇑vN)) (jE ed aO b x y) σ= .ok (.d (.str (TQ ed aO)),σ):=by
 have h:ek σ .eq (.d (.int (aO:Int))) (.d (.int 1))= .ok false:=by
  show R.ok ((aO:Int)==1)=_
  exact ae (jS.mpr (by lia)) H
 have hl:=Ei hw hm
 have e:(jm++ed++pZ++Str.ofString (toString (aO:Int)))++yB++vN=TQ ed aO:=by
  rcases hw with rfl|rfl<;>rcases hm with rfl|rfl|rfl|rfl<;>decide+kernel
 rw [←e]
 exact cG (cG (B3 hw hm H rfl) ab (yM (aM hl ∅) ⋯)) (iJ (ak (aa H) ab h) ab) (yM (by rcases hw with rfl|rfl<;>rcases hm with rfl|rfl|rfl|rfl<;>decide+kernel) ⋯)
theorem Di (hw:ed=cL∨ed=bS) (hm:aO=1∨aO=2∨aO=3∨aO=4):
  call code (n+1) .nr [.d (.J [.str ed, .int (aO:Int)]),dT c] (bp c ai)=eM (qz ed aO c.sg) (bp c ai):=by
 have hL:=Ll (c:=c) (ai:=ai)
 have s0:ex (call code n) n (.qJ [2,3] ↑0) [.d (.J [.str ed, .int (aO:Int)]),dT c, .un, .un, .un, .un] (bp c ai)= .ok (.next,jE ed aO (dT c) .un .un,bp c ai):=F5 (l:=[.str ed, .int (aO:Int)]) (aa H) H
 unfold qz
 generalize h1:c.sg.contains true=o0;induction o0 using ar with
 |false=>
  rw [h1]at hL
  exact mh (rs:=[0,1]) H rfl (by simp) H (af s0 (bc (aA (ak ab (aR (bw H) ab H) hL) (bc (fI (B0 hw H))))))
 |true=>
  rw [h1]at hL
  refine ae (aN (λq=>bL q)) ?_
  have HD:1≤aO:=by lia
  obtain ⟨s',x',hl⟩:=aaq (K:=call code n) (w:=n) (aO:=aO) (a:= .d (.J [.str ed, .int (aO:Int)])) (b:= .un) (c:= .d (.str ed)) (d:= .d (.int (aO:Int))) c.sg.reverse aO .un HD
  have hc:c.sg.reverse.contains false=c.sg.contains false:=by simp
  rw [Nd _ _ HD,hc]at hl
  have run:∀{r:RS},bg (call code n) n aar (jE ed aO (dT c) (.d (.int (aO:Int))) .un) (bp c ai)=r→bg (call code n) n m9.body [.d (.J [.str ed, .int (aO:Int)]),dT c, .un, .un, .un, .un] (bp c ai)=r:=λh=>af s0 (aK (ak ab (aR (bw H) ab H) hL) (af (aJ (aa H)) h))
  change cW _ _ _ (jE ed aO .un (.d (.int (aO:Int))) .un) _=TV _ (if aO≤mj c.sg then _ else _)at hl
  by_cases h2:aO≤mj c.sg
  ·rw [ao h2]at hl⊢
   exact dp (rs:=[0,1]) H rfl (by simp) H (run (bB (vR hl H rfl))) H rfl
  ·rw [aN h2]at hl⊢
   generalize h3:c.sg.contains false=o0;induction o0 using ar with
   |true=>
    rw [h3]at hl
    exact mh (rs:=[0,1]) H rfl (by simp) H (run (bc (vR hl H rfl)))
   |false=>
    rw [h3]at hl
    have h4:aO≠1:=by
     rintro rfl
     have e:=ID c.sg.reverse (by exact ae hc (ae h3 H))
     rw [rq]at e
     generalize Pz:c.sg=o0;induction o0 using bu with
     |nil=>rw [Pz]at h1;cases h1
     |cons x r=>rw [Pz]at e h2;simp [mj]at e h2;exact wa 0 (aS (eG e) (eL h2))
    exact mh (rs:=[0,1]) H rfl (by simp) H (run (af (vR hl H rfl) (bc (fI (IE hw hm h4)))))
end
theorem xB (k:Str) (l:↑Str):ek σ .fj (.d (.str k)) (.d (.J (l.map .str)))= .ok (l.contains k):=jd k l
theorem B4 {l:↑Str} (k:Str) (h:σ[i]?=some (.list (l.map .str))):ek σ .fj (.d (.str k)) (.ref i)= .ok (l.contains k):=
 bo H (bo (p9 h) (jd k l))
abbrev yN (names:↑Str):↑Str:=if names.contains bH then[fg]else[]
theorem Dj {names:↑Str} {c:fV}:call code (n+1) .lw [.d (.J [.str ee, .J (names.map .str)]),dX c] (bR ai)= .ok (cY (yN names),bR ai):=by
 unfold yN
 generalize h:names.contains bH=o0;induction o0 using ar with
 |true=>exact dp (rs:=[0]) H rfl (by simp) H (af (aJ (fA aq H)) (bB (aA (cX H rfl rfl) (bq (ik (ak ab (aI H rfl) ((xB _ _).trans (aC _ h))) (dn f9 H)))))) H rfl
 |false=>exact dp (rs:=[0]) H rfl (by simp) H (af (aJ (fA aq H)) (bB (aA (cX H rfl rfl) (bq (iJ (ak ab (aI H rfl) ((xB _ _).trans (aC _ h))) (dn aq H)))))) H rfl
theorem z6 {names:↑Str} {c:fV}:call code (n+1) .iA [.d (.J [.str ee, .J (names.map .str)]),dT c] (bp c ai)=eM (yN names) (bp c ai):=by
 unfold yN
 generalize h:names.contains bH=o0;induction o0 using ar with
 |true=>exact mh (rs:=[0,1]) H rfl (by simp) H (bc (aA (aY (cX H rfl rfl) (bW (ak ab (aI H rfl) ((xB _ _).trans (aC _ h))))) (bc (fI ab))))
 |false=>exact dp (rs:=[0,1]) H rfl (by simp) H (aK (aY (cX H rfl rfl) (bW (ak ab (aI H rfl) ((xB _ _).trans (aC _ h)))))
   (aK (cX H rfl rfl) (aK (cX H rfl rfl) ay))) H rfl
inductive TW:D→Bool→Prop
 |var {x:Str}:TW (.J [.str bN, .str x]) (x==bH)
 |other {k:Str} {ps:↑D}:k≠bN→TW (.J (.str k::ps)) false
inductive u0:↑D→Bool→Prop
 |nil:u0 [] false
 |cons {x:D} {l:↑D} {b b':Bool}:TW x b→u0 l b'→u0 (x::l) (b||b')
abbrev ux (b:Bool):↑Str:=if b then[gr]else[]
theorem u0.has (h:u0 l b):vd (.J [.str bN, .str bH]) l= .ok b:=by
 induction h with
 |nil=>rfl
 |@cons x l b b' h1 _ ih=>
  have:xZ x (.J [.str bN, .str bH])= .ok b:=by
   induction h1 using TW.casesOn with
   |@var y=>
    show R.ok (bN==bN&&(y==bH&&true))=_
    rw [beq_self_eq_true,Bool.true_and,Bool.and_true]
   |@other k ps hk=>
    show R.ok (k==bN&&_)=_
    rw [bQ hk];rfl
  simp only [vd,this,R.dv,ih]
theorem Gc {c:fV} (h:u0 l b):call code (n+1) .lw [.d (.J [.str eC, .J l]),dX c] (bR ai)= .ok (cY (ux b),bR ai):=by
 have qR:∀{σ:St},ek σ .fj (.d (.J [.str bN, .str bH])) (.d (.J l))= .ok b:=λ{σ}=>h.has
 unfold ux
 induction b using ar with
 |true=>exact dp (rs:=[0]) H rfl (by simp) H (af (aJ (fA aq H)) (aK (cX H rfl rfl) (bB (aA (cX H rfl rfl) (bq (ik (ak ec (aI H rfl) qR) (dn f9 H))))))) H rfl
 |false=>exact dp (rs:=[0]) H rfl (by simp) H (af (aJ (fA aq H)) (aK (cX H rfl rfl) (bB (aA (cX H rfl rfl) (bq (iJ (ak ec (aI H rfl) qR) (dn aq H))))))) H rfl
theorem B5 {c:fV} (h:u0 l b):call code (n+2) .iA [.d (.J [.str eC, .J l]),dT c] (bp c ai)=eM (ux b) (bp c ai):=by
 have s0:∀{K:fF} {w:Nat} {b:Ss},ex K w (.aU (.and {.au .eq (.aw ↑0 ↥0) ⇑ee, .au .fj ⇑bH (.aw ↑0 ↥1)}) b .nil) [.d (.J [.str eC, .J l]),dT c, .un, .un, .un] (bp c ai)= .ok (.next,[.d (.J [.str eC, .J l]),dT c, .un, .un, .un],bp c ai):=λ{K w b}=>bi (cA (cX H rfl rfl)) ay
 have lp:∀{l:↑D} {b:Bool},u0 l b→∀a x:V,∃x',cW (λy=>bk (.dj 2) (.d y)) (λρ σ=>bg (call code (n+1)) (n+1) {.aU (.call .nq {↑2}) {.dU ⇑gr} .nil} ρ σ) l [a,dT c,x, .un, .un] (bp c ai)=
   if b then .dW gr else .ok (.next,[a,dT c,x', .un, .un],bp c ai):=by
  intro l b h
  induction h with
  |nil=>intro a x;exact ⟨x,rfl⟩
  |@cons y l b b' h1 _ ih=>
   intro a x
   obtain ⟨x',h'⟩:=ih a (.d y)
   have ht:∀{σ:St},call code (n+1) .nq [.d y] σ= .ok (.d (.bool b),σ):=λ{σ}=>by
    induction h1 using TW.casesOn with
    |var=>exact se
    |other h=>exact tY h
   induction b using ar with
   |true=>exact ⟨.un,tT H (bc (aA (an (ei H) ht) (bc (fI ab))))⟩
   |false=>exact ⟨x',fc H (aK (an (ei H) ht) ay) (.inl H) h'⟩
 obtain ⟨x',hl⟩:=lp h (.d (.J [.str eC, .J l])) .un
 unfold ux
 induction b using ar with
 |true=>exact mh (rs:=[0,1]) H rfl (by simp) H (af s0 (bc (aA (cX H rfl rfl) (bc (gL nS (fH (aI H rfl) H) hl)))))
 |false=>exact dp (rs:=[0,1]) H rfl (by simp) H (af s0 (af (aA (cX H rfl rfl) (af (gL nS (fH (aI H rfl) H) hl) ay)) (aK (cX H rfl rfl) ay))) H rfl
inductive t3:↑D→↑Str→Prop
 |nil:t3 [] []
 |cons {x:Str} {v:D} {l:↑D} {xs:↑Str}:t3 l xs→t3 (.J [.str x,v]::l) (x::xs)
theorem t3.len {xs:↑Str} (h:t3 l xs):l.length=xs.length:=by
 induction h with
 |nil=>rfl
 |cons _ ih=>simp [ih]
abbrev IF (x:Str):Str:=bf++x
abbrev ky:↑Str→↑Str→↑Str
 |[],_=>[]
 |x::xs,ai=>(if x==bH then[bE]else if ai.contains x then[IF x]else[])++ky xs (ai++[x])
theorem Lm (xs:↑Str):∀(ai:↑Str),(ky xs ai).length≤xs.length:=by
 induction xs with
 |nil=>exact λO=>cF _
 |cons x xs dS=>
  intro ai
  have:=dS (ai++[x])
  simp only [ky,cg,gO]
  have h1:(if x==bH then[bE]else if ai.contains x then[IF x]else[]).length≤1:=by
   split
   ·simp
   ·split<;>simp
  exact aS h1 this
theorem IG {x:Str} (h:x.length≤1000):jj σ .add (.d (.str bf)) (.d (.str x))= .ok (.d (.str (IF x)),σ):=by
 have hb:2000≤aT:=by decide
 have hl:bf.length≤1000:=by decide+kernel
 show(if bf.length+x.length≤aT then R.ok (D.str _)else R.aQ).bind _=_
 refine ae (ao (fY hl h hb)) ?_;rfl
theorem Dk {xs:↑Str} {c:fV} (h:t3 l xs) (hl:∀x∈xs,x.length≤1000) (hb:ai.length+l.length+1<aT):call code (n+1) .lw [.d (.J (.str bV::l)),dX c] (bR ai)= .ok (cY (ky xs ai),bR (ai++xs)):=by
 have lp:∀{l:↑D} {xs:↑Str},t3 l xs→(∀x∈xs,x.length≤1000)→∀(a x y:V) (ai fd:↑Str),ai.length+l.length+1<aT→fd.length+l.length+1<aT→g9 λx' y'=>cW (λy=>bk (.aO [3,4]) (.d y)) (λρ σ=>bg (call code n) n {.aU (.au .eq ↑3 ⇑bH) {.jh ↑2 ⇑bE} {.aU (.au .fj ↑3 (.aw ↑1 ⇑gE)) {.jh ↑2 (.aE .add ⇑bf ↑3)} .nil}, .jh (.aw ↑1 ⇑gE) ↑3} ρ σ) l
   [a,dX c, .ref 1,x,y] [.list (ai.map .str), .list (fd.map .str)]= .ok (.next,[a,dX c, .ref 1,x',y'],[.list ((ai++xs).map .str), .list ((fd++ky xs ai).map .str)]):=by
  intro l xs h
  induction h with
  |nil=>intro _ a x y ai fd _ _;exact ⟨x,y,by simp [ky];rfl⟩
  |@cons z v l xs _ ih=>
   intro hz a x y ai fd hk hf
   have hkb:(ai.map D.str).length<aT:=by simp at hk⊢;exact av hk
   have hfb:(fd.map D.str).length<aT:=by simp at hf⊢;exact av hf
   have qR:∀fd:↑Str,ek [.list (ai.map .str), .list (fd.map .str)] .fj (.d (.str z)) (.ref 0)= .ok (ai.contains z):=λfd=>B4 z H
   have Nf:∀fd:↑Str,ex (call code n) n (.jh (.aw ↑1 ⇑gE) ↑3) [a,dX c, .ref 1, .d (.str z), .d v] [.list (ai.map .str), .list (fd.map .str)]= .ok (.next,[a,dX c, .ref 1, .d (.str z), .d v],[.list ((ai++[z]).map .str), .list (fd.map .str)]):=λfd=>by
    have:=mO (K:=call code n) (w:=n) (r:= .aw ↑1 ⇑gE) (e:= .var 3) (ρ:=[a,dX c, .ref 1, .d (.str z), .d v]) (σ:=[.list (ai.map .str), .list (fd.map .str)]) (n:=0) (aR (bw H) ab H) H (aa H) H hkb
    refine ae this (ae fK ?_)
    rfl
   have TX:∀(fd:↑Str) (x:Str),ex (call code n) n (.jh (.aw ↑1 ⇑gE) ↑3) [a,dX c, .ref 1, .d (.str z), .d v] [.list (ai.map .str), .list (fd.map .str++[.str x])]= .ok (.next,[a,dX c, .ref 1, .d (.str z), .d v],[.list ((ai++[z]).map .str), .list ((fd++[x]).map .str)]):=λfd x=>by
    have:=Nf (fd++[x])
    rw [fK (l₁:=fd)]at this⊢
    exact this
   have ye:∀x∈xs,x.length≤1000:=λq hq=>hz q (bY _ hq)
   cases h1:z==bH with
   |true=>
    obtain ⟨x',y',h'⟩:=ih ye a (.d (.str z)) (.d v) (ai++[z]) (fd++[bE]) (by simp at hk⊢;exact av hk) (by simp at hf⊢;exact av hf)
    refine ⟨x',y',fc H (af (aA (ak (aa H) ab ((il _ _).trans (aC _ h1))) (af (mO (cV H) H ab H hfb) ay)) (af (TX fd bE) ay)) (.inl H) ?_⟩
    ·refine ae h' ?_
     simp only [ky,h1,↓reduceIte,aX,rk]
   |false=>
    cases h2:ai.contains z with
    |true=>
     obtain ⟨x',y',h'⟩:=ih ye a (.d (.str z)) (.d v) (ai++[z]) (fd++[IF z]) (by simp at hk⊢;exact av hk) (by simp at hf⊢;exact av hf)
     refine ⟨x',y',fc H (af (bi (ak (aa H) ab ((il _ _).trans (aC _ h1))) (af (aA (ak (aa H) (aR (bw H) ab H) ((qR fd).trans (aC _ h2))) (af (mO (cV H) H (cG ab (aa H) (IG (hz z bZ))) H hfb) ay)) ay)) (af (TX fd (IF z)) ay)) (.inl H) ?_⟩
     ·refine ae h' ?_
      simp only [ky,h1,h2,Bool.false_eq_true,↓reduceIte,↓reduceIte,aX,rk]
    |false=>
     obtain ⟨x',y',h'⟩:=ih ye a (.d (.str z)) (.d v) (ai++[z]) fd (by simp at hk⊢;exact av hk) (by simp at hf⊢;exact av hf)
     refine ⟨x',y',fc H (af (bi (ak (aa H) ab ((il _ _).trans (aC _ h1))) (aK (ak (aa H) (aR (bw H) ab H) ((qR fd).trans (aC _ h2))) ay)) (af (Nf fd) ay)) (.inl H) ?_⟩
     refine ae h' ?_
     simp only [ky,h1,h2,Bool.false_eq_true,↓reduceIte,aX,pG,rk]
 obtain ⟨x',y',yK⟩:=lp h hl (.d (.J (.str bV::l))) .un .un ai [] hb (by simp;exact av hb)
 have Dl:jU (.d (.J (.str bV::l))) (.int 1) .none .none= .ok (.d (.J l)):=uv (by simp;exact av hb)
 exact dp (rs:=[0]) H rfl (by simp) H (af (aJ (fA aq H)) (aK (cX H rfl rfl) (aK (cX H rfl rfl)
  (af (gL nS (fH (lA (aa H) (oi ab) iI iI Dl) H) yK) (bq (cV H)))))) H rfl
theorem z7 {xs:↑Str} {c:fV} (h:t3 l xs) (hl:∀x∈xs,x.length≤1000) (hb:ai.length+l.length+1<aT):call code (n+1) .iA [.d (.J (.str bV::l)),dT c] (bp c ai)=eM (ky xs ai) (bp c (ai++xs)):=by
 have lp:∀{l:↑D} {xs:↑Str},t3 l xs→(∀x∈xs,x.length≤1000)→∀(a x y:V) (ai:↑Str),ai.length+l.length+1<aT→g9 λx' y'=>cW (λy=>bk (.aO [3,4]) (.d y)) (λρ σ=>bg (call code n) n {.aU (.au .eq ↑3 ⇑bH) {.dU ⇑bE} .nil, .aU (.au .fj ↑3 (.aw ↑1 ⇑gE)) {.dU (.aE .add ⇑bf ↑3)} .nil, .jh (.aw ↑1 ⇑gE) ↑3} ρ σ) l
   [a,dT c, .un,x,y] (bp c ai)=match ky xs ai with|[]=> .ok (.next,[a,dT c, .un,x',y'],bp c (ai++xs))|f::_=> .dW f:=by
  intro l xs h
  induction h with
  |nil=>intro _ a x y ai _;exact ⟨x,y,by simp [ky];rfl⟩
  |@cons z v l xs _ ih=>
   intro hz a x y ai hk
   have hkb:(ai.map D.str).length<aT:=by simp at hk⊢;exact av hk
   have qR:ek (bp c ai) .fj (.d (.str z)) (.ref 1)= .ok (ai.contains z):=B4 z H
   have Nf:ex (call code n) n (.jh (.aw ↑1 ⇑gE) ↑3) [a,dT c, .un, .d (.str z), .d v] (bp c ai)= .ok (.next,[a,dT c, .un, .d (.str z), .d v],bp c (ai++[z])):=by
    have:=mO (K:=call code n) (w:=n) (r:= .aw ↑1 ⇑gE) (e:= .var 3) (ρ:=[a,dT c, .un, .d (.str z), .d v]) (σ:=bp c ai) (n:=1) (aR (bw H) ab H) H (aa H) H hkb
    rw [this]
    unfold bp
    rw [fK]
    rfl
   have ye:∀x∈xs,x.length≤1000:=λq hq=>hz q (bY _ hq)
   cases h1:z==bH with
   |true=>
    simp only [ky,h1,↓reduceIte,rk]
    exact ⟨.un, .un,tT H (bc (aA (ak (aa H) ab ((il _ _).trans (aC _ h1))) (bc (fI ab))))⟩
   |false=>
    cases h2:ai.contains z with
    |true=>
     simp only [ky,h1,h2,Bool.false_eq_true,↓reduceIte,↓reduceIte,rk]
     exact ⟨.un, .un,tT H (aK (ak (aa H) ab ((il _ _).trans (aC _ h1))) (bc (aA (ak (aa H) (aR (bw H) ab H) (qR.trans (aC _ h2))) (bc (fI (cG ab (aa H) (IG (hz z bZ))))))))⟩
    |false=>
     obtain ⟨x',y',h'⟩:=ih ye a (.d (.str z)) (.d v) (ai++[z]) (by simp at hk⊢;exact av hk)
     simp only [ky,h1,h2,Bool.false_eq_true,↓reduceIte,pG]
     refine ⟨x',y',fc H (aK (ak (aa H) ab ((il _ _).trans (aC _ h1))) (aK (ak (aa H) (aR (bw H) ab H) (qR.trans (aC _ h2))) (af Nf ay))) (.inl H) ?_⟩
     rw [h',aX,rk]
 obtain ⟨x',y',yK⟩:=lp h hl (.d (.J (.str bV::l))) .un .un ai hb
 have Dl:jU (.d (.J (.str bV::l))) (.int 1) .none .none= .ok (.d (.J l)):=uv (by simp;exact av hb)
 cases hf:ky xs ai with
 |nil=>
  rw [hf]at yK
  exact dp (rs:=[0,1]) H rfl (by simp) H (aK (cA (cX H rfl rfl)) (aK (cX H rfl rfl)
   (af (aA (cX H rfl rfl) (af (gL nS (fH (lA (aa H) (oi ab) iI iI Dl) H) yK) ay)) ay))) H rfl
 |cons f r=>
  rw [hf]at yK
  exact mh (rs:=[0,1]) H rfl (by simp) H (aK (cA (cX H rfl rfl)) (aK (cX H rfl rfl)
   (bc (aA (cX H rfl rfl) (bc (gL nS (fH (lA (aa H) (oi ab) iI iI Dl) H) yK))))))
inductive qA:D→Bool→Prop
 |IH {k:Str} {ps:↑D}:k≠gU→k≠dO→k≠cy→k≠cU→qA (.J (.str k::ps)) false
 |yO {r ps:↑D}:qA (.J (.str cU:: .J (.str gQ::r)::ps)) false
 |WH {b:D} {s:Bool} {ps:↑D}:qA b s→qA (.J (.str gU::b::ps)) s
 |call {k:Str} {r ps:↑D} {s:Bool}:k≠gQ→qA (.J (.str k::r)) s→qA (.J (.str cU:: .J (.str k::r)::ps)) s
 |B6 {b x:D} {f s:Bool}:qA b s→qA (.J [.str dO,b,x, .bool f]) (f||s)
 |B7 {b x y:D} {f s:Bool}:qA b s→qA (.J [.str cy,b,x,y, .bool f]) (f||s)
theorem Dm {a M:Nat} (hn:1+M+1≤w+1) (q:a≤M):a+1≤w:=aM (aM (Ab q 1) (Nat.le_of_eq (Nat.add_comm M 1))) (v7 hn)
theorem Ej {a b:Str} {t:Bool} (h:(a==b)=t):ek σ .ne (.d (.str a)) (.d (.str b))= .ok (!t):=by rw [Aw,h]
theorem fv {a b:Str} {t:Bool} (h:(a==b)=t):ek σ .eq (.d (.str a)) (.d (.str b))= .ok t:=by rw [il,h]
theorem in_2 (k a b:Str):ek σ .fj (.d (.str k)) (.d (.J [.str a, .str b]))= .ok (([a,b]:↑Str).contains k):=jd k [a,b]
theorem in_3 (k a b c:Str):ek σ .fj (.d (.str k)) (.d (.J [.str a, .str b, .str c]))= .ok (([a,b,c]:↑Str).contains k):=jd k [a,b,c]
theorem in_4 (k a b c d:Str):ek σ .fj (.d (.str k)) (.d (.J [.str a, .str b, .str c, .str d]))= .ok (([a,b,c,d]:↑Str).contains k):=jd k [a,b,c,d]
theorem in_5 (k a b c d e:Str):ek σ .fj (.d (.str k)) (.d (.J [.str a, .str b, .str c, .str d, .str e]))= .ok (([a,b,c,d,e]:↑Str).contains k):=jd k [a,b,c,d,e]
theorem TY {k a b:Str} (h1:k≠a) (h2:k≠b):([a,b]:↑Str).contains k=false:=by simp [h1,h2]
theorem Yn {k a b c:Str} (h1:k≠a) (h2:k≠b) (h3:k≠c):([a,b,c]:↑Str).contains k=false:=by simp [h1,h2,h3]
theorem sO {s:Bool} (h:qA t s):∀(n:Nat) (σ:St),ht t+1≤n→call code n .jN [.d t] σ= .ok (.d (.bool s),σ):=by
 have n1:∀{n:Nat} {a b x:D} {f s:Bool} {rest:↑D} {m:Nat},jj ([]:St) .sub (.d (.int (m:Int))) (.d (.int 1))= .ok (.d (.int ((m:Int) -1)),[]):=rfl
 induction h with
 |@IH k ps h1 h2 h3 h4=>
  intro n σ hn
  obtain ⟨n,rfl⟩:∃k,n=k+1:=ge hn rfl
  exact bG H rfl (aK (ak (aI H rfl) ec ((in_2 _ _ _).trans (aC _ (TY h2 h3)))) (aK (gy (ak (aI H rfl) ab (fv (bQ h1))) (gx (cA (ak (aI H rfl) ab (fv (bQ h4)))))) (bq ab))) H
 |yO=>
  intro n σ hn
  obtain ⟨n,rfl⟩:∃k,n=k+1:=ge hn rfl
  exact bG H rfl (aK (ak (aI H rfl) ec H) (aK (gy (cX H rfl rfl) (gx (aY (cX H rfl rfl) (bW (ak (aR (aI H rfl) ab H) ab H))))) (bq ab))) H
 |WH _ ih=>
  intro n σ hn
  obtain ⟨n,rfl⟩:∃k,n=k+1:=ge hn rfl
  simp only [ht,cD]at hn
  exact bG H rfl (aK (ak (aI H rfl) ec H) (bB (aA (jQ (cX H rfl rfl)) (bq (an (gR H rfl) (ih n [] (Dm hn (by repeat' first|exact cF _|apply fU|apply u7|apply wh)))))))) H
 |@call k r ps s hk _ ih=>
  intro n σ hn
  obtain ⟨n,rfl⟩:∃k,n=k+1:=ge hn rfl
  have yA:ht (.J (.str k::r))+1≤n:=by simp only [ht,cD]at hn⊢;exact Dm hn (by repeat' first|exact cF _|apply fU|apply u7|apply wh)
  exact bG H rfl (aK (ak (aI H rfl) ec H) (bB (aA (gy (cX H rfl rfl) (gx (aY (cX H rfl rfl) (bW (ak (aR (aI H rfl) ab H) ab (Ej (bQ hk)))))))
   (bq (an (gR H rfl) (ih n [] yA)))))) H
 |@B6 b x f s _ ih=>
  intro n σ hn
  obtain ⟨n,rfl⟩:∃k,n=k+1:=ge hn rfl
  simp only [ht,cD]at hn
  have hl:∀{K:fF},ev K (.aw ↑0 (.aE .sub (.b1 .len ↑0) ↥1)) [.d (.J [.str dO,b,x, .bool f])] []= .ok (.d (.bool f),[]):=λ{K}=>aR (aa H) (cG (fB (aa H) (p8 (m:=4) H ∅)) ab H) H
  refine bG H rfl (bB (aA (ak (aI H rfl) ec H) (bB (Av (v:= .d (.bool (f||s))) (σ1:=[]) ?_)))) H
  induction f using ar with
  |true=>exact jQ hl
  |false=>exact gy hl (gx (an (gR H rfl) (ih n [] (Dm hn (by repeat' first|exact cF _|apply fU|apply u7|apply wh)))))
 |@B7 b x y f s _ ih=>
  intro n σ hn
  obtain ⟨n,rfl⟩:∃k,n=k+1:=ge hn rfl
  simp only [ht,cD]at hn
  have hl:∀{K:fF},ev K (.aw ↑0 (.aE .sub (.b1 .len ↑0) ↥1)) [.d (.J [.str cy,b,x,y, .bool f])] []= .ok (.d (.bool f),[]):=λ{K}=>aR (aa H) (cG (fB (aa H) (p8 (m:=5) H ∅)) ab H) H
  refine bG H rfl (bB (aA (ak (aI H rfl) ec H) (bB (Av (v:= .d (.bool (f||s))) (σ1:=[]) ?_)))) H
  induction f using ar with
  |true=>exact jQ hl
  |false=>exact gy hl (gx (an (gR H rfl) (ih n [] (Dm hn (by repeat' first|exact cF _|apply fU|apply u7|apply wh)))))
abbrev Ng:E:=match nY.body with
 | .cons (.EO c _) _=>c
 |_=> .az .none
abbrev Yo:Ss:=match nY.body with
 | .cons (.EO _ b) _=>b
 |_=> .nil
theorem Nh {c:↑V→St→R (Bool×St)} {f:↑V→St→R (Fl×↑V×St)} (h:c ρ σ= .ok (false,σ)):lm c f (w+1) ρ σ= .ok (.next,ρ,σ):=bo h H
theorem Ni {c:↑V→St→R (Bool×St)} {f:↑V→St→R (Fl×↑V×St)} {r:R (Fl×↑V×St)} (h:c ρ σ= .ok (true,σ)) (h2:f ρ σ= .ok (.next,ρ1,σ)) (h3:lm c f w ρ1 σ=r):lm c f (w+1) ρ σ=r:=bo h (bo h2 h3)
theorem TZ {c:↑V→St→R (Bool×St)} {f:↑V→St→R (Fl×↑V×St)} (h:c ρ σ= .ok (true,σ)) (h2:f ρ σ= .ok (.ret v,ρ1,σ)):lm c f (w+1) ρ σ= .ok (.ret v,ρ1,σ):=bo h (bo h2 H)
theorem PA {w0:Nat} {s:Bool} (h:qA t s):∀w:Nat,ht t+1≤w→∃t',lm (λρ σ=>(ev K Ng ρ σ).bind λp=>(js p.1).bind λt=> .ok (t,p.2)) (λρ σ=>bg K w0 Yo ρ σ) w [.d t] []=if s then .ok (.ret (.d (.bool true)),[.d t'],[])else .ok (.next,[.d t'],[]):=by
 have tb:∀{t:D} {b:Bool},ev K Ng [.d t] []= .ok (.d (.bool b),[])→(ev K Ng [.d t] []).bind (λp=>(js p.1).bind λt=> .ok (t,p.2))= .ok (b,([]:St)):=λh=>bo h H
 induction h with
 |@IH k ps h1 h2 h3 h4=>
  intro w hw
  obtain ⟨w,rfl⟩:∃k,w=k+1:=ge hw rfl
  exact ⟨_,Nh (tb (gy (ak (aI H rfl) (aV fC H) ((in_3 _ _ _ _).trans (aC _ (Yn h1 h2 h3)))) (gx (cA (ak (aI H rfl) ab (fv (bQ h4)))))))⟩
 |yO=>
  intro w hw
  obtain ⟨w,rfl⟩:∃k,w=k+1:=ge hw rfl
  exact ⟨_,Nh (tb (gy (ak (aI H rfl) (aV fC H) H) (gx (aY (cX H rfl rfl) (bW (ak (aR (aI H rfl) ab H) ab H))))))⟩
 |WH _ ih=>
  intro w hw
  obtain ⟨w,rfl⟩:∃k,w=k+1:=ge hw rfl
  simp only [ht,cD]at hw
  obtain ⟨t',h'⟩:=ih w (Dm hw (by repeat' first|exact cF _|apply fU|apply u7|apply wh))
  exact ⟨t',Ni (tb (jQ (ak (aI H rfl) (aV fC H) H))) (aK (cA (ak (aI H rfl) ec H)) (af (aJ (aI H rfl)) ay)) h'⟩
 |@call k r ps s hk _ ih=>
  intro w hw
  obtain ⟨w,rfl⟩:∃k,w=k+1:=ge hw rfl
  obtain ⟨t',h'⟩:=ih w (by simp only [ht,cD]at hw⊢;exact Dm hw (by repeat' first|exact cF _|apply fU|apply u7|apply wh))
  exact ⟨t',Ni (tb (gy (ak (aI H rfl) (aV fC H) H) (gx (aY (cX H rfl rfl) (bW (ak (aR (aI H rfl) ab H) ab (Ej (bQ hk)))))))) (aK (cA (ak (aI H rfl) ec H)) (af (aJ (aI H rfl)) ay)) h'⟩
 |@B6 b x f s _ ih=>
  intro w hw
  obtain ⟨w,rfl⟩:∃k,w=k+1:=ge hw rfl
  simp only [ht,cD]at hw
  have c1:=tb (t:= .J [.str dO,b,x, .bool f]) (jQ (ak (aI H rfl) (aV fC H) H))
  induction f using ar with
  |true=>exact ⟨_,TZ c1 (bB (aA (aY (ak (aI H rfl) ec H) (bW (aI H rfl))) (bq ab)))⟩
  |false=>
   obtain ⟨t',h'⟩:=ih w (Dm hw (by repeat' first|exact cF _|apply fU|apply u7|apply wh))
   exact ⟨t',Ni c1 (aK (aY (ak (aI H rfl) ec H) (bW (aI H rfl))) (af (aJ (aI H rfl)) ay)) h'⟩
 |@B7 b x y f s _ ih=>
  intro w hw
  obtain ⟨w,rfl⟩:∃k,w=k+1:=ge hw rfl
  simp only [ht,cD]at hw
  have c1:=tb (t:= .J [.str cy,b,x,y, .bool f]) (jQ (ak (aI H rfl) (aV fC H) H))
  induction f using ar with
  |true=>exact ⟨_,TZ c1 (bB (aA (aY (ak (aI H rfl) ec H) (bW (aI H rfl))) (bq ab)))⟩
  |false=>
   obtain ⟨t',h'⟩:=ih w (Dm hw (by repeat' first|exact cF _|apply fU|apply u7|apply wh))
   exact ⟨t',Ni c1 (aK (aY (ak (aI H rfl) ec H) (bW (aI H rfl))) (af (aJ (aI H rfl)) ay)) h'⟩
theorem sP {s:Bool} (h:qA t s) (hn:ht t+2≤n):call code n .mZ [.d t] σ= .ok (.d (.bool s),σ):=by
 obtain ⟨n,rfl⟩:∃k,n=k+1:=ge hn rfl
 obtain ⟨t',h'⟩:=PA (K:=call code n) (w0:=n) h n (av hn)
 have hw:∀{r},(if s then R.ok (Fl.ret (V.d (.bool true)),[V.d t'],([]:St))else .ok (.next,[V.d t'],[]))=r→ex (call code n) n (.EO Ng Yo) [.d t] []=r:=λhr=>h'.trans hr
 induction s using ar with
 |true=>exact bG H rfl (bB (hw H)) H
 |false=>exact bG H rfl (af (hw H) (bq ab)) H
theorem eD {l:↑Str} {k x:Str} (hk:l.contains k=false) (hx:l.contains x=true):k≠x:=λq=>by subst q;rw [hk]at hx;exact bL hx
abbrev WI:↑Str:=[cQ,dB,d9,fS,ci]
abbrev mk4:↑Str:=[jv,cU,cy,gK]
theorem na {k:Str} (h:WI.contains k=false):call code (n+1) .fe [.d (.J (.str k::ps))] σ= .ok (.d .none,σ):=by
 have e:∀{K:fF} {x:Str},WI.contains x=true→ev K (.au .eq (.aw ↑0 ↥0) ⇑x) [.d (.J (.str k::ps))] []= .ok (.d (.bool false),[]):=λ{K x} hx=>ak (aI H rfl) ab (fv (bQ (eD h hx)))
 exact bG H rfl (af (bi (e H) (af (bi (e H) (af (bi (e H) (af (bi (e H) (aK (e H) ay)) ay)) ay)) ay)) ay) H
theorem t4 {k:Str} (h:mk4.contains k=false):call code (n+1) .iB [.d (.J (.str k::ps))] σ= .ok (.d .none,σ):=by
 have qR:GR [] (.str k) (.eO [(cU, .d (.int 2)),(cy, .d (.int 3)),(gK, .d (.int 3))])= .ok false:=by
  have h1:=eD (x:=cU) h H
  have h2:=eD (x:=cy) h H
  have h3:=eD (x:=gK) h H
  show R.ok (decide (cU=k)||(decide (cy=k)||(decide (gK=k)||false)))=_
  refine ae (decide_eq_false (Ne.symm h1)) (ae (decide_eq_false (Ne.symm h2)) (ae (decide_eq_false (Ne.symm h3)) ?_));rfl
 exact bG H rfl (aK (cA (ak (aI H rfl) ab (fv (bQ (eD h H))))) (af (aJ (kR fC H)) (aK (cA (ak (aI H rfl) (bw H) qR)) ay))) H
abbrev fh (b:Bool) (f:Str):↑Str:=if b then[f]else[]
inductive Gd:D→Bool→Prop
 |other {k:Str} {ps:↑D}:k≠dO→Gd (.J (.str k::ps)) (([bN,kJ,gU,k7]:↑Str).contains k)
 |B6 {a x:D} {f:Bool}:Gd (.J [.str dO,a,x, .bool f]) (!f)
inductive xC:D→Bool→Prop
 |list {t:D}:BY t→xC t (qb t)
 |other {k:Str} {ps:↑D}:k≠cr→xC (.J (.str k::ps)) false
theorem Ek {r:D} (h:Gd r b) (he:ev K e ρ σ= .ok (.d r,σ)):ev K (.or {.au .fj (.aw e ↥0) (.J {⇑bN,⇑kJ,⇑gU,⇑k7}), .and {.au .eq (.aw e ↥0) ⇑dO, .not (.aw e ↥3)}}) ρ σ= .ok (.d (.bool b),σ):=by
 induction h using Gd.casesOn with
 |@other k ps hk=>
  generalize hc:([bN,kJ,gU,k7]:↑Str).contains k=o0;induction o0 using ar with
  |true=>exact jQ (ak (aR he ab H) (aV (ac ab fC) H) ((in_4 _ _ _ _ _).trans (aC _ hc)))
  |false=>exact gy (ak (aR he ab H) (aV (ac ab fC) H) ((in_4 _ _ _ _ _).trans (aC _ hc))) (gx (cA (ak (aR he ab H) ab (fv (bQ hk)))))
 |B6=>exact gy (ak (aR he ab H) (aV (ac ab fC) H) H) (gx (aY (ak (aR he ab H) ab H) (bW (jc (aR he ab H) H))))
theorem Dn {r:D} {p:Bool} (hg:xC t b) (hr:Gd r p) (hn:ht t+1≤n):call code (n+1) .pJ [.d t, .d r] σ=eM (fh (b&&!p) aH) σ:=by
 have h0:=Ek (K:=call code n) (e:= .var 1) (ρ:=[.d t, .d r, .un]) (σ:=[]) hr (aa H)
 induction hg using xC.casesOn with
 |@other k ps hk=>exact bG H rfl (af (aJ h0) (aK (cA (ak (aI H rfl) ab (fv (bQ hk)))) ay)) H
 |list PB=>
  have hc:=Df n [] PB hn
  induction PB using BY.casesOn with
  |mk=>
   induction p using ar with
   |true=>
    refine ae Bool.not_true ?_;rw [Bool.and_false]
    exact bG H rfl (af (aJ h0) (aK (aY (cX H rfl rfl) (cA (jc (aa H) H))) ay)) H
   |false=>
    refine ae Bool.not_false ?_;rw [Bool.and_true]
    generalize qb _=hb at hc⊢
    induction hb using ar with
    |true=>exact lB H rfl (af (aJ h0) (bc (aA (aY (cX H rfl rfl) (aY (jc (aa H) H) (bW (an (ei H) hc)))) (bc (fI ab)))))
    |false=>exact bG H rfl (af (aJ h0) (aK (aY (cX H rfl rfl) (aY (jc (aa H) H) (bW (an (ei H) hc)))) ay)) H
theorem kz {a:α} (h:b=false):ln b a= .ok a:=by refine ae h ?_;rfl
theorem mQ {a:α} (h:b=true):ln b a= .dW am:=by refine ae h ?_;rfl
abbrev qZ (a b:Bool):↑Str:=fh a am++fh b aH
theorem Ln {r:D} {p:Bool} (lQ:my t) (hg:xC t b) (hr:Gd r p) (hn:ht t+2≤n):call code (n+1) .fe [.d (.J [.str cQ,t,r])] σ=eM (qZ (bJ t) (b&&!p)) σ:=by
 obtain ⟨n,rfl⟩:∃k,n=k+1:=Nat.exists_eq_add_of_le' (av hn)
 have h1:=oI lQ (n+1) [] hn
 have h2:=Dn (σ:=[]) hg hr (by lia:ht t+1≤n)
 generalize ha:bJ t=o0;induction o0 using ar with
 |true=>exact lB H rfl (bc (aA (cX H rfl rfl) (bc (kr (an (gR H rfl) (h1.trans (mQ ha)))))))
 |false=>
  generalize hb:(b&&!p)=o0;induction o0 using ar with
  |true=>
   rw [hb]at h2
   exact lB H rfl (bc (aA (cX H rfl rfl) (af (i6 (an (gR H rfl) (h1.trans (kz ha)))) (bc (kr (an (ac (aI H rfl) (gR H rfl)) h2))))))
  |false=>
   rw [hb]at h2
   exact bG H rfl (af (aA (cX H rfl rfl) (af (i6 (an (gR H rfl) (h1.trans (kz ha)))) (af (i6 (an (ac (aI H rfl) (gR H rfl)) h2)) ay))) ay) H
theorem Do {r:D} (lQ:my t) (hn:ht t+2≤n):call code (n+1) .fe [.d (.J [.str dB,t,r])] σ=eM (fh (bJ t) am) σ:=by
 have h1:=oI lQ n [] hn
 have f1:∀{K:fF} {w:Nat} {b c:Ss} {r1:R (Fl×↑V×St)},bg K w c [.d (.J [.str dB,t,r])] []=r1→ex K w (.aU (.au .eq (.aw ↑0 ↥0) ⇑cQ) b c) [.d (.J [.str dB,t,r])] []=r1:=λh=>bi (cX H rfl rfl) h
 generalize ha:bJ t=o0;induction o0 using ar with
 |true=>exact lB H rfl (bc (f1 (bc (aA (cX H rfl rfl) (bc (kr (an (gR H rfl) (h1.trans (mQ ha)))))))))
 |false=>exact bG H rfl (af (f1 (af (aA (cX H rfl rfl) (af (i6 (an (gR H rfl) (h1.trans (kz ha)))) ay)) ay)) ay) H
theorem Ge {o r:D} (lQ:my t) (hn:ht t+2≤n):call code (n+1) .fe [.d (.J [.str d9,o,t,r])] σ=eM (fh (bJ t) am) σ:=by
 have h1:=oI lQ n [] hn
 generalize ha:bJ t=o0;induction o0 using ar with
 |true=>exact lB H rfl (bc (bi (cX H rfl rfl) (bc (bi (cX H rfl rfl) (bc (aA (cX H rfl rfl) (bc (kr (an (gR H rfl) (h1.trans (mQ ha)))))))))))
 |false=>exact bG H rfl (af (bi (cX H rfl rfl) (af (bi (cX H rfl rfl) (af (aA (cX H rfl rfl) (af (i6 (an (gR H rfl) (h1.trans (kz ha)))) ay)) ay)) ay)) ay) H
theorem Lo {o p:D} (lQ:my t) (hn:ht t+2≤n):call code (n+1) .fe [.d (.J [.str fS,o,p,t])] σ=eM (fh (bJ t) am) σ:=by
 have h1:=oI lQ n [] hn
 generalize ha:bJ t=o0;induction o0 using ar with
 |true=>exact lB H rfl (bc (bi (cX H rfl rfl) (bc (bi (cX H rfl rfl) (bc (bi (cX H rfl rfl) (bc (aA (cX H rfl rfl) (bc (kr (an (gR H rfl) (h1.trans (mQ ha)))))))))))))
 |false=>exact bG H rfl (af (bi (cX H rfl rfl) (af (bi (cX H rfl rfl) (af (bi (cX H rfl rfl) (af (aA (cX H rfl rfl) (af (i6 (an (gR H rfl) (h1.trans (kz ha)))) ay)) ay)) ay)) ay)) ay) H
theorem II {e u:D} (lQ:my t) (G4:my u) (hn:ht t+2≤n) (Dp:ht u+2≤n):call code (n+1) .fe [.d (.J (.str ci::e::t::u::ps))] σ=eM (fh (bJ t||bJ u) am) σ:=by
 have h1:=oI lQ n [] hn
 have h2:=oI G4 n [] Dp
 have f:∀{K:fF} {w:Nat} {x:Str} {b c:Ss} {r1:R (Fl×↑V×St)},(ci==x)=false→bg K w c [.d (.J (.str ci::e::t::u::ps))] []=r1→ex K w (.aU (.au .eq (.aw ↑0 ↥0) ⇑x) b c) [.d (.J (.str ci::e::t::u::ps))] []=r1:=λhx h=>bi (ak (aI H rfl) ab (fv hx)) h
 generalize ha:bJ t=o0;induction o0 using ar with
 |true=>exact lB H rfl (bc (f H (bc (f H (bc (f H (bc (f H (bc (aA (cX H rfl rfl) (bc (kr (an (gR H rfl) (h1.trans (mQ ha)))))))))))))))
 |false=>
  generalize hb:bJ u=o0;induction o0 using ar with
  |true=>exact lB H rfl (bc (f H (bc (f H (bc (f H (bc (f H (bc (aA (cX H rfl rfl) (af (i6 (an (gR H rfl) (h1.trans (kz ha)))) (bc (kr (an (gR H rfl) (h2.trans (mQ hb))))))))))))))))
  |false=>exact bG H rfl (af (f H (af (f H (af (f H (af (f H (af (aA (cX H rfl rfl) (af (i6 (an (gR H rfl) (h1.trans (kz ha)))) (af (i6 (an (gR H rfl) (h2.trans (kz hb)))) ay))) ay)) ay)) ay)) ay)) ay) H
abbrev Gf (b:Bool):↑Str:=fh b da
abbrev nN (b:Bool):↑Str:=fh b cq
theorem WJ {c a:D}:call code (n+1) .iB [.d (.J [.str jv,c,a])] σ=eM (Gf (aL a)) σ:=by
 generalize ha:aL a=o0;induction o0 using ar with
 |true=>exact lB H rfl (bc (aA (aY (cX H rfl rfl) (bW (ak (aI H rfl) ab (gz ha)))) (bc (fI ab))))
 |false=>exact bG H rfl (aK (aY (cX H rfl rfl) (bW (ak (aI H rfl) ab (gz ha)))) (af (aJ (kR fC H)) (aK (cA (ak (aI H rfl) (bw H) H)) ay))) H
theorem T0 {f a:D} {s:Bool} (h:aL a=true→qA (.J [.str cU,f,a]) s) (h0:aL a=false→s=false) (hn:ht (.J [.str cU,f,a])+2≤n):call code (n+1) .iB [.d (.J [.str cU,f,a])] σ=eM (nN s) σ:=by
 have s0:∀{K:fF} {w:Nat} {b:Ss},ex K w (.aU (.and {.au .eq (.aw ↑0 ↥0) ⇑jv, .au .kW (.aw ↑0 ↥2) (.az .none)}) b .nil) [.d (.J [.str cU,f,a]), .un] []= .ok (.next,[.d (.J [.str cU,f,a]), .un],[]):=λ{K w b}=>bi (cA (cX H rfl rfl)) ay
 generalize ha:aL a=o0;induction o0 using ar with
 |false=>
  refine ae (h0 ha) ?_
  exact bG H rfl (af s0 (af (aJ (kR fC H)) (aK (aY (ak (aI H rfl) (bw H) H) (cA (ak (aR (aa H) (aR (bw H) (aI H rfl) H) H) ab (gz ha)))) ay))) H
 |true=>
  have hc:=sP (σ:=[]) (h ha) hn
  induction s using ar with
  |true=>exact lB H rfl (af s0 (af (aJ (kR fC H)) (bc (aA (aY (ak (aI H rfl) (bw H) H) (aY (ak (aR (aa H) (aR (bw H) (aI H rfl) H) H) ab (gz ha)) (bW (an (ei H) hc)))) (bc (fI ab))))))
  |false=>exact bG H rfl (af s0 (af (aJ (kR fC H)) (aK (aY (ak (aI H rfl) (bw H) H) (aY (ak (aR (aa H) (aR (bw H) (aI H rfl) H) H) ab (gz ha)) (bW (an (ei H) hc)))) ay))) H
theorem El {k:Str} {f m a:D} {s:Bool} (hk:k=cy∨k=gK) (h:aL a=true→qA (.J (.str k::f::m::a::ps)) s) (h0:aL a=false→s=false) (hn:ht (.J (.str k::f::m::a::ps))+2≤n):call code (n+1) .iB [.d (.J (.str k::f::m::a::ps))] σ=eM (nN s) σ:=by
 rcases hk with rfl|rfl
 all_goals
  generalize ha:aL a=o0;induction o0 using ar with
  |false=>
   refine ae (h0 ha) ?_
   exact bG H rfl (aK (cA (cX H rfl rfl)) (af (aJ (kR fC H)) (aK (aY (ak (aI H rfl) (bw H) H) (cA (ak (aR (aa H) (aR (bw H) (aI H rfl) H) H) ab (gz ha)))) ay))) H
  |true=>
   have hc:=sP (σ:=[]) (h ha) hn
   induction s using ar with
   |true=>exact lB H rfl (aK (cA (cX H rfl rfl)) (af (aJ (kR fC H)) (bc (aA (aY (ak (aI H rfl) (bw H) H) (aY (ak (aR (aa H) (aR (bw H) (aI H rfl) H) H) ab (gz ha)) (bW (an (ei H) hc)))) (bc (fI ab))))))
   |false=>exact bG H rfl (aK (cA (cX H rfl rfl)) (af (aJ (kR fC H)) (aK (aY (ak (aI H rfl) (bw H) H) (aY (ak (aR (aa H) (aR (bw H) (aI H rfl) H) H) ab (gz ha)) (bW (an (ei H) hc)))) ay))) H
abbrev mm:Nat→Ss→Ss
 |0,s=>s
 |n+1, .cons _ r=>mm n r
 |_+1, .nil=> .nil
abbrev cK (fs:↑Str) (ρ:↑V) (σ:St):R (Fl×↑V×St):=match fs with
 |[]=> .ok (.next,ρ,σ)
 |f::_=> .dW f
abbrev u2:Ss:=match lf.body with
 | .cons _ (.cons a (.cons b (.cons c _)))=> .cons a (.cons b (.cons c .nil))
 |_=> .nil
abbrev B8:S:=match lf.body with
 | .cons _ (.cons _ (.cons _ (.cons c _)))=>c
 |_=> .cont
variable {fs fs1 fs2 fs3 gs be:↑Str} {node:D}
section
variable {c:fV} {k:Str}
theorem dq {es:Es} (h:ev K (.call f es) ρ σ=eM fs σ1):ex K w (.dC (.call f es)) ρ σ=cK fs ρ σ1:=by
 induction fs using bu with
 |nil=>exact i6 h
 |cons f r=>exact kr h
theorem dR {s:S} (h:ex K w s ρ σ=cK fs ρ1 σ1) (h2:fs=[]→bg K w ss ρ1 σ1=cK gs ρ2 d8):bg K w (.cons s ss) ρ σ=cK (fs++gs) ρ2 d8:=by
 induction fs using bu with
 |nil=>exact af h (h2 H)
 |cons f r=>exact bc h
theorem Gg (h1:∀σ,call code n .fe [.d node] σ=eM fs1 σ) (h2:∀σ,call code n .iB [.d node] σ=eM fs2 σ)
  (h3:ex (call code n) w B8 [.d node,dT c, .d (.str k)] (bp c ai)=cK fs3 [.d node,dT c, .d (.str k)] (bp c be)):
  bg (call code n) w u2 [.d node,dT c, .d (.str k)] (bp c ai)=cK (fs1++(fs2++fs3)) [.d node,dT c, .d (.str k)] (bp c be):=by
 refine dR (dq (an (ei H) (h1 _))) λO=>dR (dq (an (ei H) (h2 _))) λO=>?_
 have:=dR (gs:=[]) h3 λO=>ay
 rwa [b6]at this
theorem zB (h:([cL,bS,b8,f7,dk,ee,bV,eC]:↑Str).contains k=false):ex K w B8 [.d node,dT c, .d (.str k)] (bp c ai)=cK [] [.d node,dT c, .d (.str k)] (bp c ai):=
 bi (ak (aa H) ec ((in_2 _ _ _).trans (aC _ (TY (eD h H) (eD h H))))) (af (bi (ak (aa H) ab (fv (bQ (eD h H)))) (af (bi (cA (ak (aa H) ec ((in_2 _ _ _).trans (aC _ (TY (eD h H) (eD h H)))))) (aK (ak (aa H) (aV fC H) ((in_3 _ _ _ _).trans (aC _ (Yn (eD h H) (eD h H) (eD h H))))) ay)) ay)) ay)
theorem Lp (hw:k=cL∨k=bS) (hm:aO=1∨aO=2∨aO=3∨aO=4):ex (call code (n+1)) w B8 [.d (.J [.str k, .int (aO:Int)]),dT c, .d (.str k)] (bp c ai)=cK (qz k aO c.sg) [.d (.J [.str k, .int (aO:Int)]),dT c, .d (.str k)] (bp c ai):=by
 have qR:ek (bp c ai) .fj (.d (.str k)) (.d (.J [.str cL, .str bS]))= .ok true:=by rcases hw with rfl|rfl<;>rfl
 have he:ex (call code (n+1)) w (.dC (.call .nr {↑0,↑1})) [.d (.J [.str k, .int (aO:Int)]),dT c, .d (.str k)] (bp c ai)=cK (qz k aO c.sg) [.d (.J [.str k, .int (aO:Int)]),dT c, .d (.str k)] (bp c ai):=dq (an (ac (aa H) (ac (bw H) aq)) (Di hw hm))
 generalize qz k aO c.sg=fs at he⊢
 induction fs using bu with
 |nil=>exact aA (ak (aa H) ec qR) (af he ay)
 |cons f r=>exact aA (ak (aa H) ec qR) (bc he)
theorem PC {v:D} (mi:lK c.ty):ex (call code (n+1)) w B8 [.d (.J [.str b8,v]),dT c, .d (.str b8)] (bp c ai)=cK (uZ c v) [.d (.J [.str b8,v]),dT c, .d (.str b8)] (bp c ai):=by
 have he:ex (call code (n+1)) w (.dC (.call .kU {↑0,↑1})) [.d (.J [.str b8,v]),dT c, .d (.str b8)] (bp c ai)=cK (uZ c v) [.d (.J [.str b8,v]),dT c, .d (.str b8)] (bp c ai):=dq (an (ac (aa H) (ac (bw H) aq)) (z5 mi))
 generalize uZ c v=fs at he⊢
 induction fs using bu with
 |nil=>exact bi (ak (aa H) ec H) (af (aA (bF H rfl) (af he ay)) ay)
 |cons f r=>exact bi (ak (aa H) ec H) (bc (aA (bF H rfl) (bc he)))
abbrev uy (c:fV):↑Str:=fh c.top dc
theorem IJ (hw:k=f7∨k=dk):ex K w B8 [.d node,dT c, .d (.str k)] (bp c ai)=cK (uy c) [.d node,dT c, .d (.str k)] (bp c ai):=by
 have h1:ek (bp c ai) .fj (.d (.str k)) (.d (.J [.str cL, .str bS]))= .ok false:=by rcases hw with rfl|rfl<;>rfl
 have h2:ek (bp c ai) .eq (.d (.str k)) (.d (.str b8))= .ok false:=by rcases hw with rfl|rfl<;>rfl
 have h3:ek (bp c ai) .fj (.d (.str k)) (.d (.J [.str f7, .str dk]))= .ok true:=by rcases hw with rfl|rfl<;>rfl
 have h4:ek (bp c ai) .fj (.d (.str k)) (.d (.J [.str ee, .str bV, .str eC]))= .ok false:=by rcases hw with rfl|rfl<;>rfl
 have ha:∀{b:Bool},c.top=b→ev K (.and {.au .fj ↑2 (.J {⇑f7,⇑dk}), .aw ↑1 ⇑qy}) [.d node,dT c, .d (.str k)] (bp c ai)= .ok (.d (.bool b),bp c ai):=λhb=>by
  refine dg hb ?_
  exact aY (ak (aa H) ec h3) (bW (aR (bw H) ab H))
 unfold uy
 cases mi:c.top with
 |true=>exact bi (ak (aa H) ec h1) (bc (bi (ak (aa H) ab h2) (bc (aA (ha mi) (bc (fI ab))))))
 |false=>exact bi (ak (aa H) ec h1) (af (bi (ak (aa H) ab h2) (af (bi (ha mi) (aK (ak (aa H) (aV fC H) h4) ay)) ay)) ay)
theorem t5 (hw:k=ee∨k=bV∨k=eC) (h:call code n .iA [.d node,dT c] (bp c ai)=eM fs (bp c be)):ex (call code n) w B8 [.d node,dT c, .d (.str k)] (bp c ai)=cK fs [.d node,dT c, .d (.str k)] (bp c be):=by
 have h1:ek (bp c ai) .fj (.d (.str k)) (.d (.J [.str cL, .str bS]))= .ok false:=by rcases hw with rfl|rfl|rfl<;>rfl
 have h2:ek (bp c ai) .eq (.d (.str k)) (.d (.str b8))= .ok false:=by rcases hw with rfl|rfl|rfl<;>rfl
 have h3:ek (bp c ai) .fj (.d (.str k)) (.d (.J [.str f7, .str dk]))= .ok false:=by rcases hw with rfl|rfl|rfl<;>rfl
 have h4:ek (bp c ai) .fj (.d (.str k)) (.d (.J [.str ee, .str bV, .str eC]))= .ok true:=by rcases hw with rfl|rfl|rfl<;>rfl
 have he:ex (call code n) w (.dC (.call .iA {↑0,↑1})) [.d node,dT c, .d (.str k)] (bp c ai)=cK fs [.d node,dT c, .d (.str k)] (bp c be):=dq (an (ac (aa H) (ac (bw H) aq)) h)
 induction fs using bu with
 |nil=>exact bi (ak (aa H) ec h1) (af (bi (ak (aa H) ab h2) (af (bi (cA (ak (aa H) ec h3)) (af (aA (ak (aa H) (aV fC H) h4) (af he ay)) ay)) ay)) ay)
 |cons f r=>exact bi (ak (aa H) ec h1) (bc (bi (ak (aa H) ab h2) (bc (bi (cA (ak (aa H) ec h3)) (bc (aA (ak (aa H) (aV fC H) h4) (bc he)))))))
end
abbrev qB (i:Nat):Ss:=mm i zz.body
abbrev mR (node:D) (c:fV) (k:Str):↑V:=[.d node,dX c, .d (.str k), .un, .un, .un, .un]
section
variable {c:fV} {k:Str} {r:R (Fl×↑V×St)}
theorem gS {rest:St} (h:bg (call code n) n (qB 1) (mR (.J (.str k::ps)) c k) (bR ai)= .ok (.ret (cY fs),ρ1, .list (be.map .str)::rest)):call code (n+1) .e7 [.d (.J (.str k::ps)),dX c] (bR ai)= .ok (cY fs,bR be):=
 dp (rs:=[0]) H rfl (by simp) H (af (aJ (aI H rfl)) h) H rfl
theorem xD {fs:↑D} {rest:St} {x:Nat} (h:bg (call code n) n (qB 1) (mR (.J (.str k::ps)) c k) (bR ai)= .ok (.ret (.ref (x+1)),ρ1, .list (be.map .str)::rest)) (hx:rest[x]?=some (.list fs)):call code (n+1) .e7 [.d (.J (.str k::ps)),dX c] (bR ai)= .ok (.d (.aD fs),bR be):=by
 refine dp (rs:=[0]) H rfl (by simp) H (af (aJ (aI H rfl)) h) H ?_
 simp only [wu,gh,List.getElem?_cons_succ,List.getElem?_nil,hx]
 rfl
theorem uM (h1:k≠cQ) (h:bg K w (qB 2) (mR node c k) (bR ai)=r):bg K w (qB 1) (mR node c k) (bR ai)=r:=aK (ak (aa H) ab (fv (bQ h1))) h
theorem uN (h1:([dB,d9,fS,ci]:↑Str).contains k=false) (h:bg K w (qB 3) (mR node c k) (bR ai)=r):bg K w (qB 2) (mR node c k) (bR ai)=r:=aK (ak (aa H) (aV (ac ab fC) H) ((in_4 _ _ _ _ _).trans (aC _ h1))) h
theorem xE (h1:k≠jv) (h:bg K w (qB 4) (mR node c k) (bR ai)=r):bg K w (qB 3) (mR node c k) (bR ai)=r:=aK (cA (ak (aa H) ab (fv (bQ h1)))) h
theorem Gh (h1:([cU,cy]:↑Str).contains k=false) (h:bg K w (qB 5) (mR node c k) (bR ai)=r):bg K w (qB 4) (mR node c k) (bR ai)=r:=aK (cA (ak (aa H) ec ((in_2 _ _ _).trans (aC _ h1)))) h
theorem Gi (h1:([cL,bS]:↑Str).contains k=false) (h:bg K w (qB 6) (mR node c k) (bR ai)=r):bg K w (qB 5) (mR node c k) (bR ai)=r:=aK (ak (aa H) ec ((in_2 _ _ _).trans (aC _ h1))) h
theorem IK (h1:k≠b8) (h:bg K w (qB 7) (mR node c k) (bR ai)=r):bg K w (qB 6) (mR node c k) (bR ai)=r:=aK (ak (aa H) ab (fv (bQ h1))) h
theorem PE (h1:([f7,dk]:↑Str).contains k=false) (h:bg K w (qB 8) (mR node c k) (bR ai)=r):bg K w (qB 7) (mR node c k) (bR ai)=r:=aK (ak (aa H) ec ((in_2 _ _ _).trans (aC _ h1))) h
theorem T1 (h1:([ee,bV,eC]:↑Str).contains k=false) (h:bg K w (qB 9) (mR node c k) (bR ai)=r):bg K w (qB 8) (mR node c k) (bR ai)=r:=aK (ak (aa H) (aV fC H) ((in_3 _ _ _ _).trans (aC _ h1))) h
theorem WK (h1:k≠de):bg K w (qB 9) (mR node c k) (bR ai)= .ok (.ret (cY []),mR node c k,bR ai):=aK (cA (ak (aa H) ab (fv (bQ h1)))) (bq (dn aq H))
abbrev sp1:↑Str:=[cQ,dB,d9,fS,ci,jv,cU,cy,cL,bS,b8,f7,dk,ee,bV,eC,de]
theorem lg {l m:↑Str} {k:Str} (h:l.contains k=false) (hs:m.all (l.contains ·)=true):m.contains k=false:=by
 generalize hm:m.contains k=o0;induction o0 using ar with
 |false=>rfl
 |true=>
  have:k∈m:=by simpa using hm
  have:=eI.mp hs k this
  rw [h]at this;exact bL this
theorem n5 (h:sp1.contains k=false):call code (n+1) .e7 [.d (.J (.str k::ps)),dX c] (bR ai)= .ok (cY [],bR ai):=
 gS (rest:=[]) (uM (eD h H) (uN (lg h H) (xE (eD h H) (Gh (lg h H) (Gi (lg h H) (IK (eD h H) (PE (lg h H) (T1 (lg h H) (WK (eD h H))))))))))
end
section
variable {c:fV}
theorem Lq {r:D} {p:Bool} (lQ:my t) (hg:xC t b) (hr:Gd r p) (hn:ht t+1≤n) (hs:sz t≤aT):call code (n+1) .e7 [.d (.J [.str cQ,t,r]),dX c] (bR ai)= .ok (cY (qZ (bJ t) (b&&!p)),bR ai):=by
 have h1:=lq n (bR ai) lQ hn hs
 have yP:∀{K:fF} {e d f g h:V} {σ:St},ev K (.aw ↑0 ↥1) [.d (.J [.str cQ,t,r]),e,d,f,g,h, .un] σ= .ok (.d t,σ):=aI H rfl
 have WL:∀{K:fF} {e d f g h:V} {σ:St},ev K (.aw ↑0 ↥2) [.d (.J [.str cQ,t,r]),e,d,f,g,h, .un] σ= .ok (.d r,σ):=aI H rfl
 have hp:∀{e d f g h:V} {σ:St},ev (call code n) _ [.d (.J [.str cQ,t,r]),e,d,f,g,h, .un] σ= .ok (.d (.bool p),σ):=Ek hr WL
 have s3:ex (call code n) n (.bD 3 (.ite (.call .fi {.aw ↑0 ↥1}) (.aD true {⇑am}) (.aD true .nil))) (mR (.J [.str cQ,t,r]) c cQ) (bR ai)= .ok (.next,[.d (.J [.str cQ,t,r]),dX c, .d (.str cQ), .ref 1, .un, .un, .un],[.list (ai.map .str), .list ((fh (bJ t) am).map .str)]):=by
  generalize ha:bJ t=o0;induction o0 using ar with
  |true=>rw [ha]at h1;exact aJ (ik (an (ac yP aq) h1) (fA f9 H))
  |false=>rw [ha]at h1;exact aJ (iJ (an (ac yP aq) h1) (fA aq H))
 generalize hF:fh (bJ t) am=F0 at s3
 have Z2:qZ (bJ t) (b&&!p)=F0++fh (b&&!p) aH:=by unfold qZ;exact ae hF H
 have hFl:F0.length≤1:=by refine dg hF ?_;unfold fh;split<;>simp
 have dy:2<aT:=by decide
 refine ae Z2 ?_
 have T2:∀{f g h:V} {σ:St} {k:Str} {ps:↑D},t= .J (.str k::ps)→ev (call code n) (.au .eq (.aw (.aw ↑0 ↥1) ↥0) ⇑cr) [.d (.J [.str cQ,t,r]),dX c, .d (.str cQ),f,g,h, .un] σ= .ok (.d (.bool (k==cr)),σ):=λhk=>ak (aR yP ab (by refine ae hk ?_;rfl)) ab (il _ _)
 induction hg using xC.casesOn with
 |@other k ps hk=>
  have hl:=λ{f g h:V} {σ:St}=>T2 (f:=f) (g:=g) (h:=h) (σ:=σ) H
  rw [bQ hk]at hl
  rw [Bool.false_and,show fh false aH=[]from rfl,b6]
  exact xD (x:=0) (rest:=[.list (F0.map .str)]) (bB (aA (bF H rfl) (af s3 (af (aJ hp) (aK (cA hl) (bq (cV H))))))) H
 |list PB=>
  have hc:=BZ n [.list (ai.map .str), .list (F0.map .str)] PB hn hs
  induction PB using BY.casesOn with
  |mk PB=>
   have hl:=λ{f g h:V} {σ:St}=>T2 (f:=f) (g:=g) (h:=h) (σ:=σ) H
   rw [beq_self_eq_true]at hl
   generalize qb _=hb at hc⊢
   induction hb using ar with
   |false=>
    rw [Bool.false_and,show fh false aH=[]from rfl,b6]
    exact xD (x:=0) (rest:=[.list (F0.map .str)]) (bB (aA (bF H rfl) (af s3 (af (aJ hp) (aK (aY hl (cA (an (ac yP aq) hc))) (bq (cV H))))))) H
   |true=>
    induction p using ar with
    |true=>
     rw [show(true&&!true)=false from rfl,show fh false aH=[]from rfl,b6]
     exact xD (x:=0) (rest:=[.list (F0.map .str)]) (bB (aA (bF H rfl) (af s3 (af (aJ hp) (aK (aY hl (aY (an (ac yP aq) hc) (bW (jc (aa H) H)))) (bq (cV H))))))) H
    |false=>
     refine ae (rfl:(true&&!false)=true) (ae (rfl:fh true aH=[aH]) ?_)
     unfold cY
     refine ae fK ?_
     exact xD (x:=0) (rest:=[.list (F0.map .str++[.str aH])]) (bB (aA (bF H rfl) (af s3 (af (aJ hp) (af (aA (aY hl (aY (an (ac yP aq) hc) (bW (jc (aa H) H)))) (af (mO (cV H) H ab H (by simp;exact aS hFl dy)) ay)) (bq (cV H))))))) H
theorem Gj {k:Str} (hk:(k=dB∧i=1)∨(k=d9∧i=2)∨(k=fS∧i=3)) (hi:(D.str k::ps)[i]?=some t) (hl:ps.length≤10) (lQ:my t) (hn:ht t+1≤n) (hs:sz t≤aT):
  call code (n+1) .e7 [.d (.J (.str k::ps)),dX c] (bR ai)= .ok (cY (fh (bJ t) am),bR ai):=by
 have h1:=lq n (bR ai) lQ hn hs
 have hb:100≤aT:=by decide
 have yw:∀{σ:St},gT σ (.d (.J (.str k::ps))) (.int (i:Int))= .ok (.d t):=λ{σ}=>lD hi (by simp;exact aS hl hb)
 have c1:ek (bR ai) .eq (.d (.str k)) (.d (.str cQ))= .ok false:=by rcases hk with⟨rfl,_⟩|⟨rfl,_⟩|⟨rfl,_⟩<;>rfl
 have c2:ek (bR ai) .fj (.d (.str k)) (.d (.J [.str dB, .str d9, .str fS, .str ci]))= .ok true:=by rcases hk with⟨rfl,_⟩|⟨rfl,_⟩|⟨rfl,_⟩<;>rfl
 have c3:gT (bR ai) (.eO [(dB, .d (.int 1)),(d9, .d (.int 2)),(fS, .d (.int 3)),(ci, .d (.int 2))]) (.str k)= .ok (.d (.int (i:Int))):=by rcases hk with⟨rfl,rfl⟩|⟨rfl,rfl⟩|⟨rfl,rfl⟩<;>rfl
 have c4:ek (bR ai) .eq (.d (.str k)) (.d (.str ci))= .ok false:=by rcases hk with⟨rfl,_⟩|⟨rfl,_⟩|⟨rfl,_⟩<;>rfl
 generalize ha:bJ t=o0;induction o0 using ar with
 |true=>
  rw [ha]at h1
  exact gS (rest:=[]) (aK (ak (aa H) ab c1) (bB (aA (ak (aa H) (aV (ac ab fC) H) c2) (af (aJ (aR (kR (ac ab fC) H) (aa H) c3))
   (af (aJ (jQ (an (ac (aR (aa H) (aa H) yw) aq) h1))) (bq (ik (aa H) (dn f9 H))))))))
 |false=>
  rw [ha]at h1
  exact gS (rest:=[]) (aK (ak (aa H) ab c1) (bB (aA (ak (aa H) (aV (ac ab fC) H) c2) (af (aJ (aR (kR (ac ab fC) H) (aa H) c3))
   (af (aJ (gy (an (ac (aR (aa H) (aa H) yw) aq) h1) (gx (cA (ak (aa H) ab c4))))) (bq (iJ (aa H) (dn aq H))))))))
theorem IL {e u:D} (lQ:my t) (G4:my u) (hn:ht t+1≤n) (Dp:ht u+1≤n) (hs:sz t≤aT) (vH:sz u≤aT):
  call code (n+1) .e7 [.d (.J (.str ci::e::t::u::ps)),dX c] (bR ai)= .ok (cY (fh (bJ t||bJ u) am),bR ai):=by
 have h1:=lq n (bR ai) lQ hn hs
 have h2:=lq n (bR ai) G4 Dp vH
 have hor:ev (call code n) (.or {.call .fi {.aw ↑0 ↑5}, .and {.au .eq ↑2 ⇑ci, .call .fi {.aw ↑0 ↥3}}}) [.d (.J (.str ci::e::t::u::ps)),dX c, .d (.str ci), .un, .un, .d (.int 2), .un] (bR ai)= .ok (.d (.bool (bJ t||bJ u)),bR ai):=by
  generalize ha:bJ t=o0;induction o0 using ar with
  |true=>rw [ha]at h1;exact jQ (an (ac (aR (aa H) (aa H) H) aq) h1)
  |false=>rw [ha]at h1;exact gy (an (ac (aR (aa H) (aa H) H) aq) h1) (gx (aY (bF H rfl) (bW (an (gR H rfl) h2))))
 generalize (bJ t||bJ u)=b at hor⊢
 induction b using ar with
 |true=>
  exact gS (rest:=[]) (aK (bF H rfl) (bB (aA (ak (aa H) (aV (ac ab fC) H) H) (af (aJ (aR (kR (ac ab fC) H) (aa H) H))
   (af (aJ hor) (bq (ik (aa H) (dn f9 H))))))))
 |false=>
  exact gS (rest:=[]) (aK (bF H rfl) (bB (aA (ak (aa H) (aV (ac ab fC) H) H) (af (aJ (aR (kR (ac ab fC) H) (aa H) H))
   (af (aJ hor) (bq (iJ (aa H) (dn aq H))))))))
theorem WM {f a:D}:call code (n+1) .e7 [.d (.J [.str jv,f,a]),dX c] (bR ai)= .ok (cY (Gf (aL a)),bR ai):=by
 generalize ha:aL a=o0;induction o0 using ar with
 |true=>exact gS (rest:=[]) (uM ⋯ (uN H (bB (aA (aY (bF H rfl) (bW (ak (aI H rfl) ab (gz ha)))) (bq (dn f9 H))))))
 |false=>exact gS (rest:=[]) (uM ⋯ (uN H (aK (aY (bF H rfl) (bW (ak (aI H rfl) ab (gz ha)))) (Gh H (Gi H (IK ⋯ (PE H (T1 H (WK ⋯)))))))))
theorem T3 {f a:D} {s:Bool} (h:aL a=true→qA (.J [.str cU,f,a]) s) (h0:aL a=false→s=false) (hn:ht (.J [.str cU,f,a])+1≤n):call code (n+1) .e7 [.d (.J [.str cU,f,a]),dX c] (bR ai)= .ok (cY (nN s),bR ai):=by
 have rest:∀{r},bg (call code n) n (qB 5) (mR (.J [.str cU,f,a]) c cU) (bR ai)=r→r= .ok (.ret (cY []),mR (.J [.str cU,f,a]) c cU,bR ai):=λhr=>by
  refine dg hr ?_;exact Gi H (IK ⋯ (PE H (T1 H (WK ⋯))))
 generalize ha:aL a=o0;induction o0 using ar with
 |false=>
  refine ae (h0 ha) ?_
  exact gS (rest:=[]) (uM ⋯ (uN H (xE ⋯ (aK (aY (ak (aa H) ec H) (cA (ak (aR (aa H) (iJ (bF H rfl) ab) H) ab (gz ha)))) (rest H)))))
 |true=>
  have hc:=sO (h ha) n (bR ai) hn
  induction s using ar with
  |true=>exact gS (rest:=[]) (uM ⋯ (uN H (xE ⋯ (bB (aA (aY (ak (aa H) ec H) (aY (ak (aR (aa H) (iJ (bF H rfl) ab) H) ab (gz ha)) (bW (an (ei H) hc)))) (bq (dn f9 H)))))))
  |false=>exact gS (rest:=[]) (uM ⋯ (uN H (xE ⋯ (aK (aY (ak (aa H) ec H) (aY (ak (aR (aa H) (iJ (bF H rfl) ab) H) ab (gz ha)) (bW (an (ei H) hc)))) (rest H)))))
theorem PF {f m a:D} {s:Bool} (h:aL a=true→qA (.J (.str cy::f::m::a::ps)) s) (h0:aL a=false→s=false) (hn:ht (.J (.str cy::f::m::a::ps))+1≤n):call code (n+1) .e7 [.d (.J (.str cy::f::m::a::ps)),dX c] (bR ai)= .ok (cY (nN s),bR ai):=by
 have rest:bg (call code n) n (qB 5) (mR (.J (.str cy::f::m::a::ps)) c cy) (bR ai)= .ok (.ret (cY []),mR (.J (.str cy::f::m::a::ps)) c cy,bR ai):=Gi H (IK ⋯ (PE H (T1 H (WK ⋯))))
 generalize ha:aL a=o0;induction o0 using ar with
 |false=>
  refine ae (h0 ha) ?_
  exact gS (rest:=[]) (uM ⋯ (uN H (xE ⋯ (aK (aY (ak (aa H) ec H) (cA (ak (aR (aa H) (ik (bF H rfl) ab) H) ab (gz ha)))) rest))))
 |true=>
  have hc:=sO (h ha) n (bR ai) hn
  induction s using ar with
  |true=>exact gS (rest:=[]) (uM ⋯ (uN H (xE ⋯ (bB (aA (aY (ak (aa H) ec H) (aY (ak (aR (aa H) (ik (bF H rfl) ab) H) ab (gz ha)) (bW (an (ei H) hc)))) (bq (dn f9 H)))))))
  |false=>exact gS (rest:=[]) (uM ⋯ (uN H (xE ⋯ (aK (aY (ak (aa H) ec H) (aY (ak (aR (aa H) (ik (bF H rfl) ab) H) ab (gz ha)) (bW (an (ei H) hc)))) rest))))
theorem T4 {k:Str} (hw:k=cL∨k=bS) (hm:aO=1∨aO=2∨aO=3∨aO=4) (hb:c.sg.length<aT):call code (n+2) .e7 [.d (.J [.str k, .int (aO:Int)]),dX c] (bR ai)= .ok (cY (qz k aO c.sg),bR ai):=by
 have hc:=Dh (n:=n) (σ:=bR ai) hw hm hb
 rcases hw with rfl|rfl
 ·exact gS (rest:=[]) (uM ⋯ (uN H (xE ⋯ (Gh H (bB (aA (ak (aa H) ec H) (bq (an (ac (aa H) (ac (aI H rfl) (ac (aR (bw H) ab H) aq))) hc))))))))
 ·exact gS (rest:=[]) (uM ⋯ (uN H (xE ⋯ (Gh H (bB (aA (ak (aa H) ec H) (bq (an (ac (aa H) (ac (aI H rfl) (ac (aR (bw H) ab H) aq))) hc))))))))
theorem WN {v:D} (h:lK c.ty):call code (n+2) .e7 [.d (.J [.str b8,v]),dX c] (bR ai)= .ok (cY (uZ c v),bR ai):=
 gS (rest:=[]) (uM ⋯ (uN H (xE ⋯ (Gh H (Gi H (bB (aA (bF H rfl) (bq (an (ac (aI H rfl) (ac (bw H) aq)) (z4 h))))))))))
theorem PH {k:Str} (hw:k=f7∨k=dk):call code (n+1) .e7 [.d (.J (.str k::ps)),dX c] (bR ai)= .ok (cY (uy c),bR ai):=by
 have hi:∀{b:Bool},c.top=b→ev (call code n) (.aw ↑1 ⇑qy) (mR (.J (.str k::ps)) c k) (bR ai)= .ok (.d (.bool b),bR ai):=λhb=>by refine dg hb ?_;exact aR (bw H) ab H
 unfold uy
 rcases hw with rfl|rfl
 all_goals
  cases mi:c.top with
  |true=>exact gS (rest:=[]) (uM ⋯ (uN H (xE ⋯ (Gh H (Gi H (IK ⋯ (bB (aA (ak (aa H) ec H) (bq (ik (hi mi) (dn f9 H)))))))))))
  |false=>exact gS (rest:=[]) (uM ⋯ (uN H (xE ⋯ (Gh H (Gi H (IK ⋯ (bB (aA (ak (aa H) ec H) (bq (iJ (hi mi) (dn aq H)))))))))))
theorem yQ {k:Str} (hw:k=ee∨k=bV∨k=eC) (h:call code n .lw [.d (.J (.str k::ps)),dX c] (bR ai)= .ok (cY fs,bR be)):call code (n+1) .e7 [.d (.J (.str k::ps)),dX c] (bR ai)= .ok (cY fs,bR be):=by
 rcases hw with rfl|rfl|rfl
 all_goals exact gS (rest:=[]) (uM ⋯ (uN H (xE ⋯ (Gh H (Gi H (IK ⋯ (PE H (bB (aA (ak (aa H) (aV fC H) H) (bq (an (ac (aa H) (ac (bw H) aq)) h)))))))))))
end
section
variable {c:E} {m:Str}
theorem zC (h:ev K c ρ σ= .ok (.d (.bool b),σ)) (he:b=true→ev K e ρ σ= .ok (.d (.str m),σ)):ex K w (.aU c {.dU e} .nil) ρ σ=cK (fh b m) ρ σ:=by
 induction b using ar with
 |true=>exact aA h (bc (fI (he H)))
 |false=>exact bi h ay
theorem xF {x:Nat} {fd:↑Str} (hx:ρ[x]?=some (.ref i)) (hi:σ[i]?=some (.list (fd.map .str))) (hb:fd.length<aT) (h:ev K c ρ σ= .ok (.d (.bool b),σ)) (he:b=true→ev K e ρ σ= .ok (.d (.str m),σ)):
  ex K w (.aU c {.jh (.var x) e} .nil) ρ σ= .ok (.next,ρ,σ.set i (.list ((fd++fh b m).map .str))):=by
 induction b using ar with
 |true=>
  rw [(rfl:fh true m=[m])];refine ae fK ?_
  exact aA h (af (mO (cV hx) hi (he H) hi (by simpa using hb)) ay)
 |false=>
  rw [show fh false m=[]from rfl,b6,show σ.set i (.list (fd.map .str))=σ from ?_]
  ·exact bi h ay
  ·exact List.ext_getElem? λj=>by
    by_cases q:i=j
    ·subst q;exact ae (u5 (by have:=(jo.mp hi).1;exact this)) (ae hi H)
    ·exact ae (kE q) H
theorem ba {s:S} (h:ex K w s ρ σ=cK fs ρ1 σ1):bg K w (.cons s .nil) ρ σ=cK fs ρ1 σ1:=by
 induction fs using bu with
 |nil=>exact af h ay
 |cons f r=>exact bc h
end
structure PD where
 name:Str
 jk:D
 var:Bool
 sZ:Str
abbrev cu (p:PD):D:= .J [.str pa, .str p.name, .none,p.jk, .bool false, .bool p.var, .str p.sZ, .bool false]
abbrev eE (nm:Str) (ps:↑PD) (ty body:D) (g:Bool):D:= .J [.str iG, .str nm, .J (ps.map cu),ty,body, .bool false, .bool g]
abbrev zD (nm:Str):Bool:=([f8,kq]:↑Str).contains nm
structure sj (nm:Str):Prop where
 low:∃l:Str,(l==f8)=zD nm∧∀(n:Nat) (σ:St),call code (n+1) .lower [.d (.str nm)] σ= .ok (.d (.str l),σ)
abbrev Em (x:Str):Str:=fu++x
abbrev nO (pre:↑PD):Bool:=match pre.getLast? with
 |some p=>p.var
 |none=>false
abbrev Nj (pre:↑PD) (p:PD):↑Str:=fh ((pre.map (·.name)).contains p.name) (Em p.name)++(fh (p.name==bH) cz++(fh (nO pre) bI++fh (p.var&&!aL p.jk) bA))
abbrev IM (p:PD) (nm:Str) (isM nb:Bool):↑Str:=fh (!(p.sZ==q_)&&!(isM&&zD nm)) bT++(fh (!(p.sZ==q_)&&nb) bU++fh (!(p.sZ==q_)&&p.var) ck)
abbrev sQ (pre:↑PD) (p:PD) (nm:Str) (isM nb:Bool):↑Str:=Nj pre p++IM p nm isM nb
variable {nm:Str} {body ty:D} {g isM:Bool} {post pre:↑PD}
section
variable {ps:↑PD} {p:PD}
theorem sm (f:α→β) (pre:↑α) (p:α) (post:↑α):((pre++p::post).map f)[pre.length]?=some (f p):=by simp
theorem yR (f:α→β) (pre:↑α) (p:α) (post:↑α):((pre++p::post).map f).take pre.length=pre.map f:=by simp
theorem xG {l:↑α} {i:Int} (h:0≤i∧i<2^62):ou l .none (.int i) .none=R.ok (l.take i.toNat):=bo H (bo H (bo H (ao h)))
theorem yS {k:Nat} (h:l.length≤aT) (hk:k≤aT):jU (.d (.J l)) .none (.int k) .none= .ok (.d (.J (l.take k))):=by
 have hb:aT<2^62:=by decide
 have e:ou l .none (.int (k:Int)) .none=R.ok (l.take k):=xG ⟨by lia,by lia⟩
 exact bo H ((ao h).trans (bo e H))
theorem pj {a x:Str} (ha:a.length≤1000) (h:x.length≤1000):jj σ .add (.d (.str a)) (.d (.str x))= .ok (.d (.str (a++x)),σ):=by
 have hb:2000≤aT:=by decide
 show(if a.length+x.length≤aT then R.ok (D.str _)else R.aQ).bind _=_
 refine ae (ao (fY ha h hb)) ?_;rfl
theorem IN (h0:ρ[0]?=some (.d (eE nm (pre++p::post) ty body g))) (h1:ρ[1]?=some (.d (.int (pre.length:Int)))) (hl:(pre++p::post).length≤aT):
  ev K (.and {.au .gt ↑1 ↥0, .aw (.aw (.aw ↑0 ↥2) (.aE .sub ↑1 ↥1)) ↥5}) ρ σ= .ok (.d (.bool (nO pre)),σ):=by
 rcases List.eq_nil_or_concat pre with rfl|⟨Yp,q,rfl⟩
 ·exact cA (ak (aa h1) ab H)
 ·have e:nO (Yp++[q])=q.var:=by simp [nO]
  rw [List.concat_eq_append]at h0 h1 hl⊢
  rw [e]
  refine aY (ak (aa h1) ab (c:=true) ?_) (bW (aR (aR (aR (aa h0) ab H) (cG (aa h1) ab (t:= .d (.int (Yp.length:Int))) ?_) (lD (x:=cu q) (by simp) (by simpa using hl))) ab H))
  ·show R.ok (decide _)=_
   exact ae (decide_eq_true (by simp)) H
  ·show R.ok (V.d (D.int _),σ)=_
   simp
theorem aas {a b c d e:V} {x:Str} (hx:x.length≤1000) (pre:↑PD):∀(v:V),∃v',cW (λy=>bk (.dj 5) (.d y)) (λρ σ=>bg K w {.aU (.au .eq (.aw ↑5 ↥1) ↑4) {.dU (.aE .add ⇑fu ↑4)} .nil} ρ σ) (pre.map cu) [a,b,c,d, .d (.str x),v] σ=
  cK (fh ((pre.map (·.name)).contains x) (Em x)) [a,b,c,d, .d (.str x),v'] σ:=by
 induction pre with
 |nil=>exact λv=>⟨v,rfl⟩
 |cons q pre dS=>
  intro v
  have hc:((q::pre).map (·.name)).contains x=(q.name==x||(pre.map (·.name)).contains x):=by exact ae ef (ae List.contains_cons (ae Bool.beq_comm H))
  refine ae hc ?_
  cases hq:q.name==x with
  |true=>exact ⟨v,tT H (bc (aA (ak (aI H rfl) (aa H) (fv hq)) (bc (fI (cG ab (aa H) (pj ⋯ hx))))))⟩
  |false=>
   obtain ⟨v',h'⟩:=dS (.d (cu q))
   exact ⟨v',fc H (aK (ak (aI H rfl) (aa H) (fv hq)) ay) (.inl H) h'⟩
theorem lL {t:Tg} {it:It} {b:Ss} (hf:∀e,it≠ .sU e) (h:i8 K it ρ σ= .ok (l,σ1)) (h2:cW (λx=>bk t (.d x)) (λρ σ=>bg K w b ρ σ) l ρ σ1=cK fs ρ1 d8):ex K w (.ej t it b) ρ σ=cK fs ρ1 d8:=gL hf h h2
theorem xH (hr:cv args=[]) (hl:args.length=(code f).params) (h:bg (call code n) n (code f).body (args++List.replicate ((code f).slots -(code f).params) .un) []=cK fs ρ1 σ1):call code (n+1) f args σ=eM fs σ:=by
 induction fs using bu with
 |nil=>exact bG hr hl h (by show gh [] σ σ1 (.d .none)=_;induction σ1 using bu<;>rfl)
 |cons f r=>exact lB hr hl h
abbrev at1:D→↑D
 | .J (_::y::_)=>[y]
 |_=>[]
theorem qc (pre:↑PD):(pre.map cu).flatMap at1=(pre.map (·.name)).map .str:=by
 induction pre with
 |nil=>exact H
 |cons p pre dS=>exact by refine ae ef (ae List.flatMap_cons (ae (dS) ?_));rfl
theorem IP {v:D} (hb:(!aL v)=b):ek σ .dw (.d v) (.d .none)= .ok b:=by subst hb;induction v using D.casesOn<;>rfl
theorem B9 (hn:sj nm) (hl:(pre++p::post).length≤1000) (hx:p.name.length≤1000):call code (n+2) .lX [.d (eE nm (pre++p::post) ty body g), .d (.int (pre.length:Int)), .d (.bool isM)] σ=eM (sQ pre p nm isM (aL body)) σ:=by
 have hb:1000≤aT:=by decide
 have hi:∀{σ:St},gT σ (.d (.J ((pre++p::post).map cu))) (.int (pre.length:Int))= .ok (.d (cu p)):=λ{σ}=>lD (sm _ _ _ _) (by simp at hl⊢;exact aS hl hb)
 obtain ⟨v',yK⟩:=aas (w:=n+1) (σ:=[]) (K:=call code (n+1)) (a:= .d (eE nm (pre++p::post) ty body g)) (b:= .d (.int (pre.length:Int))) (c:= .d (.bool isM)) (d:= .d (cu p)) (e:= .un) hx pre .un
 have Dl:jU (.d (.J ((pre++p::post).map cu))) .none (.int (pre.length:Int)) .none= .ok (.d (.J (pre.map cu))):=by refine ae (yS (by simp at hl⊢;exact aS hl hb) (by simp at hl;exact aS hl hb)) ?_;rw [yR]
 obtain ⟨l,CS,rP⟩:=hn.low
 have hF:sQ pre p nm isM (aL body)=fh ((pre.map (·.name)).contains p.name) (Em p.name)++(fh (p.name==bH) cz++(fh (nO pre) bI++(fh (p.var&&!aL p.jk) bA++IM p nm isM (aL body)))):=by unfold sQ Nj;simp only [aX]
 refine ae hF ?_
 refine xH (ρ1:=[.d (eE nm (pre++p::post) ty body g), .d (.int (pre.length:Int)), .d (.bool isM), .d (cu p), .d (.str p.name),v']) (σ1:=[]) H rfl (af (aJ (aR (aI H rfl) (aa H) hi)) (af (aJ (aI H rfl)) ?_))
 refine dR (lL (w:=n+1) (ρ1:=[.d (eE nm (pre++p::post) ty body g), .d (.int (pre.length:Int)), .d (.bool isM), .d (cu p), .d (.str p.name),v']) nS (fH (lA (aI H rfl) iI (oi (aa H)) iI Dl) H) yK) λO=>?_
 ·refine dR (zC (ak (aa H) ab (il _ _)) λO=>ab) λO=>?_
  refine dR (zC (IN H rfl (aS hl hb)) λO=>ab) λO=>?_
  refine dR (zC (b:=p.var&&!aL p.jk) ?_ λO=>ab) λO=>?_
  ·cases hv:p.var with
   |true=>exact aY (aR (aa H) ab (by refine dg hv ?_;rfl)) (bW (ak (aI H rfl) ab (IP H)))
   |false=>exact cA (aR (aa H) ab (by refine dg hv ?_;rfl))
  ·refine ba ?_
   unfold IM
   cases hp:p.sZ==q_ with
   |true=>exact bi (ak (aI H rfl) ab (Ej hp)) ay
   |false=>
    refine aA (ak (aI H rfl) ab (Ej hp)) ?_
    refine dR (zC (b:=!(isM&&zD nm)) ?_ λO=>ab) λO=>?_
    ·generalize hm:isM=o0;induction o0 using ar with
     |false=>exact jQ (jc (aa H) H)
     |true=>exact gy (jc (aa H) H) (gx (ak (an (gR H rfl) (rP _ _)) ab (by rw [Aw];refine ae CS ?_;rfl)))
    ·refine dR (zC (b:=aL body) (ak (aI H rfl) ab (gz H)) λO=>ab) λO=>?_
     exact ba (zC (b:=p.var) (aI H rfl) λO=>ab)
theorem Gk (hl:(pre++p::post).length≤1000) (hx:p.name.length≤1000):call code (n+1) .jO [.d (eE nm (pre++p::post) ty body g), .d (.int (pre.length:Int)), .d (.bool isM)] σ= .ok (cY (sQ pre p nm isM (aL body)),σ):=by
 have hb:1000≤aT:=by decide
 have hi:∀{σ:St},gT σ (.d (.J ((pre++p::post).map cu))) (.int (pre.length:Int))= .ok (.d (cu p)):=λ{σ}=>lD (sm _ _ _ _) (by simp at hl⊢;exact aS hl hb)
 have Dl:jU (.d (.J ((pre++p::post).map cu))) .none (.int (pre.length:Int)) .none= .ok (.d (.J (pre.map cu))):=by refine ae (yS (by simp at hl⊢;exact aS hl hb) (by simp at hl;exact aS hl hb)) ?_;rw [yR]
 let ρ:↑V:=[.d (eE nm (pre++p::post) ty body g), .d (.int (pre.length:Int)), .d (.bool isM), .d (.str pa), .d (.str p.name), .d .none, .d p.jk, .d (.bool false), .d (.bool p.var), .d (.str p.sZ), .d (.bool false), .ref 0]
 have nP:∀b m,(fh b m).length≤1:=λb m=>by unfold fh;split<;>simp
 have c1:∀{K:fF} {σ:St},ev K (.au .fj ↑4 (.comp [] 1 (.dj 0) (.seq (.oq (.aw ↑0 ↥2) .none (.some ↑1) .none)) .none (.aw ↑0 ↥1))) ρ σ= .ok (.d (.bool ((pre.map (·.name)).contains p.name)),σ):=λ{K σ}=>by
  refine ak (aa H) (uw (fH (lA (aI H rfl) iI (oi (aa H)) iI Dl) H) at1 ?_ (λx hx=>?_) (qc pre)) (jd _ _)
  ·rw [qc];simp at hl⊢;exact aS hl hb
  ·obtain ⟨q,_,rfl⟩:=fq.mp hx
   exact ⟨[.d (cu q)],rfl,true,rfl, .inr ⟨H,_,aI H rfl,H⟩⟩
 have dy:10<aT:=by decide
 refine bG H rfl (σ1:=[.list ((sQ pre p nm isM (aL body)).map .str)]) (fl:= .ret (.ref 0)) (ρ1:=ρ) (af (F5 (l:=[.str pa, .str p.name, .none,p.jk, .bool false, .bool p.var, .str p.sZ, .bool false]) (aR (aI H rfl) (aa H) hi) H) (af (aJ (fA aq H)) ?_)) H
 refine af (xF (fd:=[]) (m:=Em p.name) (ρ:=ρ) (i:=0) H rfl ∅ c1 λO=>cG ab (aa H) (pj ⋯ hx)) ?_
 generalize h1:[]++fh ((pre.map (·.name)).contains p.name) (Em p.name)=f1
 have k1:f1.length≤1:=by refine dg h1 ?_;exact nP _ _
 refine af (xF (ρ:=ρ) (fd:=f1) (i:=0) H rfl (aS k1 hb) (ak (aa H) ab (il _ _)) λO=>ab) ?_
 generalize h2:f1++fh (p.name==bH) cz=f2
 have k2:f2.length≤2:=by refine dg h2 (ae cg ?_);have:=nP (p.name==bH) cz;exact aS k1 this
 refine af (xF (ρ:=ρ) (fd:=f2) (i:=0) H rfl (aS k2 hb) (IN H rfl (aS hl hb)) λO=>ab) ?_
 generalize h3:f2++fh (nO pre) bI=f3
 have k3:f3.length≤3:=by refine dg h3 (ae cg ?_);have:=nP (nO pre) bI;exact aS k2 this
 refine af (xF (ρ:=ρ) (fd:=f3) (i:=0) (b:=p.var&&!aL p.jk) H rfl (aS k3 hb) ?_ λO=>ab) ?_
 ·cases hv:p.var with
  |true=>exact aY (aa (by refine dg hv ?_;rfl)) (bW (ak (aa H) ab (IP H)))
  |false=>exact cA (aa (by refine dg hv ?_;rfl))
 generalize h4:f3++fh (p.var&&!aL p.jk) bA=f4
 have k4:f4.length≤4:=by refine dg h4 (ae cg ?_);have:=nP (p.var&&!aL p.jk) bA;exact aS k3 this
 have T5:∀{K:fF} {σ:St} {e:E} {b:Bool},ev K e ρ σ= .ok (.d (.bool b),σ)→ev K (.and {.au .ne ↑9 ⇑q_,e}) ρ σ= .ok (.d (.bool (!(p.sZ==q_)&&b)),σ):=λ{K σ e b} he=>by
  cases hp:p.sZ==q_ with
  |true=>exact cA (ak (aa H) ab (Ej hp))
  |false=>exact aY (ak (aa H) ab (Ej hp)) (bW he)
 refine af (xF (ρ:=ρ) (fd:=f4) (i:=0) (b:=!(p.sZ==q_)&&!(isM&&zD nm)) H rfl (aS k4 hb) (T5 (jc (b:=isM&&zD nm) ?_ rfl)) λO=>ab) ?_
 ·cases hm:isM with
  |false=>exact cA (aa (by refine dg hm ?_;rfl))
  |true=>exact aY (aa (by refine dg hm ?_;rfl)) (bW (ak (aI H rfl) ec (in_2 _ _ _)))
 generalize h5:f4++fh (!(p.sZ==q_)&&!(isM&&zD nm)) bT=f5
 have k5:f5.length≤5:=by refine dg h5 (ae cg ?_);have:=nP (!(p.sZ==q_)&&!(isM&&zD nm)) bT;exact aS k4 this
 refine af (xF (ρ:=ρ) (fd:=f5) (i:=0) H rfl (aS k5 hb) (T5 (ak (aI H rfl) ab (gz H))) λO=>ab) ?_
 generalize h6:f5++fh (!(p.sZ==q_)&&aL body) bU=f6
 have k6:f6.length≤6:=by refine dg h6 (ae cg ?_);have:=nP (!(p.sZ==q_)&&aL body) bU;exact aS k5 this
 refine af (xF (ρ:=ρ) (fd:=f6) (i:=0) H rfl (aS k6 hb) (T5 (aa H)) λO=>ab) ?_
 have:sQ pre p nm isM (aL body)=f6++fh (!(p.sZ==q_)&&p.var) ck:=by
  refine dg h6 (dg h5 (dg h4 (dg h3 (dg h2 (dg h1 ?_)))));unfold sQ Nj IM;simp only [aX,pG]
 refine ae this ?_
 exact bq (cV H)
end
abbrev En (c:fV) (a:Nat):V:= .eO [(ij, .d (.str (sh c.sg))),(m8, .d c.ty),(qy, .d (.bool c.top)),(ey, .d (.bool c.cZ)),(gE, .ref a)]
abbrev xI (c:fV) (a b:Nat):V:= .eO [(qV, .d c.ty),(ij, .ref a),(gE, .ref b),(qy, .d (.bool c.top)),(ey, .d (.bool c.cZ))]
theorem oJ {a:Nat} {c:iq} (h:σ[a]?=some c):σ.set a c=σ:=List.ext_getElem? λj=>by
 by_cases q:a=j
 ·rw [←q];refine ae (u5 (by have:=(jo.mp h).1;exact this)) ?_;rw [h]
 ·exact ae (kE q) H
abbrev T6 (rs:↑Nat) (σ σ1:St):Option iq→R (V×St)
 |some (.list l)=> .ok (.d (.aD l),putBack rs σ1 σ)
 |some (.dict bP)=>if(mG bP).all (·<rs.length)then .ok (.eO (te (AM rs σ.length) bP),putBack rs σ1 σ)else .aQ
 |none=> .aQ
variable {τ':St} {T7:↑Nat} {args':↑V}
section
variable {t:Nat} {w:V} {fn:Fn} {run:↑V→St→R (Fl×↑V×St)} {m:Str}
theorem yT (q:rs[t]?=none):gh rs σ σ1 (.ref t)=T6 rs σ σ1 σ1[t]?:=by
 delta gh
 dsimp only
 refine ae q ?_
 dsimp only
 generalize σ1[t]?=o
 induction o using di with
 |none=>rfl
 |some c=>induction c using iq.casesOn<;>rfl
theorem Ep (q:rs[t]?=some n):gh rs σ σ1 (.ref t)= .ok (.ref n,putBack rs σ1 σ):=by
 delta gh
 dsimp only
 exact ae q H
theorem Nk {y:D} (h:R.ok (V.d y,τ')= .ok (.d x,τ)):y=x∧τ'=τ:=⟨V.d.inj (j0 (R.ok.inj h)).1,(j0 (R.ok.inj h)).2⟩
theorem Nl {k:↑(Str×At)} {P:Prop} (h:R.ok (V.eO k,τ')= .ok (.d x,τ)):P:=nomatch (j0 (R.ok.inj h)).1
theorem WO (h:T6 rs σ σ1 (σ1[t]?)= .ok (.d x,τ)):putBack rs σ1 σ=τ∧T6 T7 σ' σ1 (σ1[t]?)= .ok (.d x,putBack T7 σ1 σ'):=by
 generalize σ1[t]?=o at h⊢
 induction o using di with
 |none=>exact R.no h
 |some c=>induction c using iq.casesOn with
  |list l=>exact ⟨(Nk h).2,by refine dg ((Nk h).1) ?_;rfl⟩
  |dict k=>exact R.bn h λO h=>Nl h
theorem T8 (hl:rs.length=T7.length) (h:gh rs σ σ1 w= .ok (.d x,τ)):putBack rs σ1 σ=τ∧gh T7 σ' σ1 w= .ok (.d x,putBack T7 σ1 σ'):=by
 induction w using V.casesOn with
 |un=>exact R.no h
 |d y=>exact ⟨(Nk h).2,by refine dg ((Nk h).1) ?_;rfl⟩
 |eO k=>exact R.bn h λO h=>Nl h
 |ref t=>
  rcases oO t rs.length with q|q
  ·rw [Ep (fE q)]at h
   exact nomatch (j0 (R.ok.inj h)).1
  ·rw [yT (rm q)]at h
   refine ae (yT (rm (hl▸q))) ?_
   exact WO h
theorem WP:NX (gh rs σ σ1 w):=by
 induction w using V.casesOn with
 |un=>exact bj
 |d y=>exact bm
 |eO k=>exact NX.ite bm bj
 |ref t=>
  rcases oO t rs.length with q|q
  ·refine ae (Ep (fE q)) ?_;exact bm
  ·refine ae (yT (rm q)) ?_
   generalize σ1[t]?=o0;induction o0 using di with
   |none=>exact bj
   |some c=>induction c using iq.casesOn with
    |list l=>exact bm
    |dict k=>exact NX.ite bm bj
theorem Er (hn:(cv args').Nodup) (hl:args.length=args'.length) (hr:(cv args).length=(cv args').length) (g:i5 σ (cv args)= .ok cells) (g':i5 σ' (cv args')= .ok cells) (hm:args.map (kX (en (cv args)))=args'.map (kX (en (cv args'))))
  (h:iu fn run args σ= .ok (.d x,τ)):∃σ1,putBack (cv args) σ1 σ=τ∧iu fn run args' σ'= .ok (.d x,putBack (cv args') σ1 σ'):=
 R.bn h λhc h=>by
  rw [g,R.dv]at h
  exact R.ah (h:) λp h1 h=>R.bn h λhi h=>⟨p.2.2,(T8 (σ':=σ') hr h).1,by
   unfold iu
   rw [ao ⟨hl▸hc.1,hn⟩,g',R.dv,←hm,h1,R.dv,←hr];refine ae (ao hi) ?_
   exact (T8 hr h).2⟩
theorem Lr (hn:(cv args').Nodup) (hl:args.length=args'.length) (hr:(cv args).length=(cv args').length) (g:i5 σ (cv args)= .ok cells) (g':i5 σ' (cv args')= .ok cells) (hm:args.map (kX (en (cv args)))=args'.map (kX (en (cv args'))))
  (h:iu fn run args σ= .dW m):iu fn run args' σ'= .dW m:=by
 unfold iu at h⊢
 by_cases hc:args.length=fn.params∧(cv args).Nodup
 ·rw [ao hc,g,R.dv]at h
  refine ae (ao ⟨hl▸hc.1,hn⟩) ?_;rw [g',R.dv,←hm]
  generalize run _ _=r at h⊢
  induction r using R.casesOn with
  |dW m=>exact h
  |aQ=>exact nomatch h
  |ok p=>exact al h (NX.ite WP bj m)
 ·rw [aN hc]at h
  exact nomatch h
end
variable {l':↑D}
theorem aby {a:Nat} (C9:σ[a]?=some (.list l)) (h:putBack [0] σ1 [.list l]=[.list l']):putBack [a] σ1 σ=σ.set a (.list l'):=by
 induction σ1 using bu with
 |nil=>refine dg ((jq h).1) ?_;exact (oJ C9).symm
 |cons c cs=>refine ae ((jq h).1:c= .list l') ?_;rfl
theorem abz {a b:Nat} {u v v':iq} (ha:σ[a]?=some u) (hb:σ[b]?=some v) (h:putBack [0,1] σ1 [u,v]=[u,v']):putBack [a,b] σ1 σ=σ.set b v':=by
 induction σ1 using bu with
 |nil=>rw [←show v=v' from(jq (jq h).2).1];exact (oJ hb).symm
 |cons x r=>
  induction r using bu with
  |nil=>
   rw [←show v=v' from(jq (jq h).2).1,oJ hb,show x=u from(jq h).1]
   exact oJ ha
  |cons y r=>
   rw [((jq h).1:x=u)];refine ae ((jq (jq h).2).1:y=v') ?_
   show(σ.set a u).set b v'=_
   exact ae (oJ ha) H
theorem yU {v:D} {c:fV} {a:Nat} (C9:σ[a]?=some (.list l)) (h:call code n f [.d x,dX c] [.list l]= .ok (.d v,[.list l'])):
  call code n f [.d x,En c a] σ= .ok (.d v,σ.set a (.list l')):=by
 induction n using gi with
 |zero=>exact R.no h
 |succ n=>
  have m0:∀a,[V.d x,En c a].map (kX (en [a]))=[.d x,En c 0]:=λa=>by
   show[V.d x, .eO [_,_,_,_,(gE, .ref (en [a] a))]]=_
   refine ae (show en [a] a=0 by simp [en]) ?_;rfl
  obtain ⟨σ1,e1,e2⟩:=Er (args:=[.d x,En c 0]) (args':=[.d x,En c a]) (σ:=[.list l]) (σ':=σ) (cells:=[.list l]) (by simp:[a].Nodup) rfl rfl rfl (by show(eQ σ[a]?).bind _=_;refine ae C9 ?_;rfl) ((m0 0).trans (m0 a).symm) h
  exact e2.trans (by refine dg (aby C9 e1) ?_;rfl)
theorem aat {c:fV} {a b:Nat} (VI:a≠b) (ha:σ[a]?=some (.list (jB c.sg))) (hb:σ[b]?=some (.list (ai.map .str))) (h:call code n f [.d x,dT c] (bp c ai)=eM fs (bp c be)):
  call code n f [.d x,xI c a b] σ=eM fs (σ.set b (.list (be.map .str))):=by
 induction n using gi with
 |zero=>induction fs using bu<;>cases h
 |succ n=>
  have m0:∀a b,a≠b→[V.d x,xI c a b].map (kX (en [a,b]))=[.d x,xI c 0 1]:=λa b q=>by
   show[V.d x, .eO [_,(ij, .ref (en [a,b] a)),(gE, .ref (en [a,b] b)),_,_]]=_
   refine ae (show en [a,b] a=0 by simp [en]) (ae (show en [a,b] b=1 by simp [en,List.idxOf_cons,jS.mpr q]) ?_);rfl
  have hn:[a,b].Nodup:=by simpa using VI
  have g':i5 σ [a,b]= .ok (bp c ai):=by show(eQ σ[a]?).bind (λl=>((eQ σ[b]?).bind _).bind _)=_;refine ae ha (ae hb ?_);rfl
  have hm:=(m0 0 1 ∅).trans (m0 a b VI).symm
  induction fs using bu with
  |nil=>
   obtain ⟨σ1,e1,e2⟩:=Er (args:=[.d x,xI c 0 1]) (args':=[.d x,xI c a b]) (σ:=bp c ai) (σ':=σ) (cells:=bp c ai) hn rfl rfl rfl g' hm h
   exact e2.trans (aC (λq=>R.ok (V.d .none,q)) (abz ha hb e1))
  |cons f fs=>exact Lr (args:=[.d x,xI c 0 1]) (args':=[.d x,xI c a b]) (σ:=bp c ai) (σ':=σ) (cells:=bp c ai) hn H rfl rfl g' hm h
inductive u3 (a b:Nat) (P:↑Str→↑Str→Prop):Prop
 |mk (fs be:↑Str):fs.length≤a→be.length≤b→P fs be→u3 a b P
theorem T9 {s:Nat} (h:s+cD (x::l)≤n):s+ht x≤n:=aM (kF (fU _ _) _) h
theorem Ua {s:Nat} (h:s+cD (x::l)≤n):s+cD l≤n:=aM (kF (lV _ _) _) h
theorem Gl {c:Nat} (h:3*cD (x::l)+c≤n):3*ht x+c≤n:=aM (Ab (ol _ (fU _ _)) _) h
theorem Gm {c:Nat} (h:3*cD (x::l)+c≤n):3*cD l+c≤n:=aM (Ab (ol _ (lV _ _)) _) h
abbrev Pw (x:D):Prop:=∀(c:fV) (ai:↑Str),lK c.ty→c.sg.length+ht x≤1000→ai.length+sz x≤100000→
 u3 (8*sz x) (ai.length+sz x) λfs be=>∀n,3*ht x+20≤n→call code n .m2 [.d x,dX c] (bR ai)= .ok (cY fs,bR be)∧call code n .gG [.d x,dT c] (bp c ai)=eM fs (bp c be)
theorem oK {f:↑V→St→R (Fl×↑V×St)} {xs:↑D} (h:bD x ρ= .ok ρ0) (h1:f ρ0 σ=cK fs ρ1 σ1) (h2:fs=[]→cW bD f xs ρ1 σ1=cK gs ρ2 d8):cW bD f (x::xs) ρ σ=cK (fs++gs) ρ2 d8:=by
 induction fs using bu with
 |nil=>exact fc h h1 (.inl H) (h2 H)
 |cons g r=>exact tT h h1
theorem B' {c:fV} (hl:2=(code f).params) (h:bg (call code n) n (code f).body ([.d x,dT c]++List.replicate ((code f).slots -(code f).params) .un) (bp c ai)=cK fs ρ1 (bp c be)):call code (n+1) f [.d x,dT c] (bp c ai)=eM fs (bp c be):=by
 induction fs using bu with
 |nil=>exact dp (rs:=[0,1]) H hl (by simp) H h H rfl
 |cons f r=>exact mh (rs:=[0,1]) H hl (by simp) H h
abbrev mS (l:↑D):Prop:=∀x∈l,Pw x
theorem mS.tail (h:mS (x::l)):mS l:=λy hy=>h y (bY _ hy)
noncomputable abbrev aau:Ss:= .cons (.ext ↑2 (.call .m2 {↑3,↑1})) .nil
noncomputable abbrev aav:Ss:= .cons (.dC (.call .gG {↑2,↑1})) .nil
inductive Nm (n:Nat) (c:fV) (ai be fd IQ:↑Str) (l:↑D) (a x:V):Prop
 |mk (x':V):cW (λy=>bk (.dj 3) (.d y)) (λρ σ=>bg (call code n) n aau ρ σ) l [a,dX c, .ref 1,x] [.list (ai.map .str), .list (fd.map .str)]= .ok (.next,[a,dX c, .ref 1,x'],[.list (be.map .str), .list (IQ.map .str)])→Nm n c ai be fd IQ l a x
inductive Nn (n:Nat) (c:fV) (ai be fs:↑Str) (l:↑D) (a x:V):Prop
 |mk (x':V):cW (λy=>bk (.dj 2) (.d y)) (λρ σ=>bg (call code n) n aav ρ σ) l [a,dT c,x] (bp c ai)=cK fs [a,dT c,x'] (bp c be)→Nn n c ai be fs l a x
variable {k1 k2:↑Str}
theorem Ls {c:fV} {fd:↑Str} {a:V} (h1:call code n .m2 [.d x,dX c] (bR ai)= .ok (cY fs1,bR k1)) (hb:fd.length+fs1.length≤aT) (g:Nm n c k1 k2 (fd++fs1) (fd++fs1++fs2) l a (.d x)):Nm n c ai k2 fd (fd++(fs1++fs2)) (x::l) a v:=by
 obtain ⟨x',g⟩:=g
 refine ⟨x',fc H (af (K' (n:=1) (l:=fd.map .str) (l2:=fd.map .str) (cV H) H (an (ac (aa H) (ac (bw H) aq)) (yU (a:=0) (σ:=[.list (ai.map .str), .list (fd.map .str)]) H h1)) (k:=fs1.map .str) H rfl (by rw [fb,fb];exact hb)) ay) (.inl H) ?_⟩
 rw [←aX,←g];refine dg fK ?_;rfl
theorem Lu {c:fV} {a:V} (h2:call code n .gG [.d x,dT c] (bp c ai)=eM fs1 (bp c k1)) (g:Nn n c k1 k2 fs2 l a (.d x)):Nn n c ai k2 (fs1++fs2) (x::l) a v:=
 let⟨x',g⟩:=g;⟨x',oK H (ba (dq (an (ac (aa H) (ac (bw H) aq)) h2))) λO=>g⟩
theorem PI {c:fV} (kS:lK c.ty) (l:↑D):mS l→c.sg.length+cD l≤1000→∀(ai fd:↑Str),ai.length+b9 l≤100000→fd.length+8*b9 l≤aT→
  u3 (8*b9 l) (ai.length+b9 l) λfs be=>∀n,3*cD l+20≤n→(∀a x,Nm n c ai be fd (fd++fs) l a x)∧∀a x,Nn n c ai be fs l a x:=by
 induction l with
 |nil=>exact λO O ai fd O O=>⟨[],ai,dK _,cF _,λn O=>⟨λa x=>⟨x,by rw [b6];rfl⟩,λa x=>⟨x,H⟩⟩⟩
 |cons x l ih=>
  intro hN hg ai fd hk hf
  change ai.length+(sz x+b9 l)≤100000 at hk
  change fd.length+8*(sz x+b9 l)≤aT at hf
  obtain ⟨fs1,k1,h3,h4,WQ⟩:=hN x bZ c ai kS (T9 hg) (av hk)
  obtain ⟨fs2,k2,g3,g4,g12⟩:=ih hN.tail (Ua hg) k1 (fd++fs1) (aS h4 hk) (by refine ae cg ?_;exact aS hf h3)
  have hb:fd.length+fs1.length≤aT:=aS hf h3
  exact ⟨fs1++fs2,k2,by refine ae cg ?_;show _≤8*(sz x+b9 l);exact aS h3 g3,by show _≤_+(sz x+b9 l);exact aS g4 h4,λn hn=>⟨λa v=>Ls (WQ n (Gl hn)).1 hb ((g12 n (Gm hn)).1 a _),λa v=>Lu (WQ n (Gl hn)).2 ((g12 n (Gm hn)).2 a _)⟩⟩
theorem lM {c:fV} (kS:lK c.ty) (hN:mS l) (hg:c.sg.length+cD l≤1000) (hk:ai.length+b9 l≤100000):
  u3 (8*b9 l) (ai.length+b9 l) λfs be=>∀n,3*cD l+21≤n→call code n .d7 [.d (.aD l),dX c] (bR ai)= .ok (cY fs,bR be)∧(∀v:D,oF (.d v)= .ok l→call code n .fM [.d v,dT c] (bp c ai)=eM fs (bp c be)):=by
 have hb:1000000≤aT:=by decide
 obtain ⟨fs,be,h1,h2,h34⟩:=PI kS l hN hg ai [] hk (by simp;exact aS (ml 8 hk) hb)
 refine ⟨fs,be,h1,h2,λn hn=>?_⟩
 obtain ⟨n,rfl⟩:∃k,n=k+1:=ge hn rfl
 obtain ⟨h3,h4⟩:=h34 n (av hn)
 refine ⟨?_,λv hv=>?_⟩
 ·obtain ⟨x',g⟩:=h3 (.d (.aD l)) .un
  exact dp (rs:=[0]) H rfl (by simp) H (af (aJ (fA aq H)) (af (gL nS (fH (aa H) H) g) (bq (cV H)))) H rfl
 ·obtain ⟨x',g⟩:=h4 (.d v) .un
  exact B' H (ba (lL nS (fH (aa H) hv) g))
variable {cZ:Bool}
theorem aaw {r:E} (h:ev K r ρ σ= .ok (.ref n,σ1)) (h1:σ1[n]?=some (.list (l++[x]))) (hf:flat x=true) (h4:l.length<aT):ex K w (.QC r) ρ σ= .ok (.next,ρ,σ1.set n (.list l)):=
 bo h (bo (bo H (bo (lc h1) (bo (a:=x) (by rw [List.getLast?_concat];rfl) ((ao ⟨hf,by rw [cg];exact h4⟩).trans (by rw [List.dropLast_concat]))))) H)
theorem sR:call code (n+1) .j2 [.d .none, .d (.bool cZ)] σ= .ok (xI ⟨[], .none,true,cZ⟩ σ.length (σ.length+1),σ++[.list [], .list []]):=
 bG H rfl (af (aJ ab) (aK (cA (bF H rfl)) (bq (kR (ac (aa H) (ac (fA aq H) (ac (fA aq H) (ac (bF H rfl) (ei H))))) H)))) H
abbrev fnC (ty:D) (g cZ:Bool):fV:=⟨[],if g then .none else ty,false,cZ⟩
theorem Dq {ps:↑PD}:call code (n+1) .j2 [.d (eE nm ps ty body g), .d (.bool cZ)] σ= .ok (xI (fnC ty g cZ) σ.length (σ.length+1),σ++[.list [], .list []]):=by
 unfold fnC
 induction g using ar with
 |true=>exact bG H rfl (af (aJ ab) (aK (aY (bF H rfl) (bW (jc (aI H rfl) H))) (bq (kR (ac (aa H) (ac (fA aq H) (ac (fA aq H) (ac (bF H rfl) (ei H))))) H)))) H
 |false=>exact bG H rfl (af (aJ ab) (af (aA (aY (bF H rfl) (bW (jc (aI H rfl) H))) (af (aJ (aI H rfl)) ay)) (bq (kR (ac (aa H) (ac (fA aq H) (ac (fA aq H) (ac (bF H rfl) (ei H))))) H)))) H
theorem sn {top:Bool}:call code (n+1) .hZ [.d (.str q_), .d ty, .d (.bool top), .d (.bool cZ)] σ= .ok (En ⟨[],ty,top,cZ⟩ σ.length,σ++[.list []]):=
 bG H rfl (bq (kR (ac (aa H) (ac (aa H) (ac (aa H) (ac (aa H) (ac (fA aq H) aq))))) H)) H
abbrev im (c:fV) (b:Bool):fV:={c with sg:=c.sg++[b]}
abbrev Lv (b:Bool):Str:=if b then Ii else xm
abbrev Lw (b:Bool):Str:=if b then jx else jy
theorem PJ (sg:↑Bool) (b:Bool):sh sg++Lv b=sh (sg++[b]):=by
 have:∀a b:Str,a++b=⟨a.cps++b.cps⟩:=λO O=>rfl
 rw [this]
 unfold sh kx
 induction b using ar<;>simp [Lv,Ii,xm]
theorem Et {c:fV} (h:c.sg.length+1≤aT):call code (n+1) .ji [dX c, .d (.str (Lv b))] (bR ai)= .ok (dX (im c b),bR ai):=by
 have hl:(Lv b).length=1:=by induction b using ar<;>rfl
 have ha:∀{σ:St},jj σ .add (.d (.str (sh c.sg))) (.d (.str (Lv b)))= .ok (.d (.str (sh (c.sg++[b]))),σ):=λ{σ}=>by
  show(if(sh c.sg).length+(Lv b).length≤aT then R.ok (D.str (sh c.sg++Lv b))else R.aQ).bind _=_
  rw [ao (by rw [IC,hl];exact h),PJ];rfl
 exact dp (rs:=[0]) H rfl (by simp) H (af (aJ (fB (bw H) H)) (af (Tz (cG (aR (cV H) ab H) (aa H) ha) (cV H) ab H) (bq (cV H)))) H rfl
theorem Eu {c:fV} {v:D} (hl:c.sg.length+1≤2000) (h:call code n .fM [.d v,dT (im c b)] (bp (im c b) ai)=eM fs (bp (im c b) be)):
  call code (n+1) .fW [.d v,dT c, .d (.str (Lw b))] (bp c ai)=eM fs (bp c be):=by
 have dy:2000<aT:=by decide
 have e:jB (c.sg++[b])=jB c.sg++[.str (Lw b)]:=by unfold jB Lw;rw [fK];rfl
 have s1:ex (call code n) n (.jh (.aw ↑1 ⇑ij) ↑2) [.d v,dT c, .d (.str (Lw b))] (bp c ai)= .ok (.next,[.d v,dT (im c b), .d (.str (Lw b))],bp (im c b) ai):=by
  have:=mO (K:=call code n) (w:=n) (r:= .aw ↑1 ⇑ij) (e:= .var 2) (ρ:=[.d v,dT c, .d (.str (Lw b))]) (σ:=bp c ai) (n:=0) (l2:=jB c.sg) (aR (bw H) ab H) H (aa H) H (by unfold jB;simp;exact aS hl dy)
  rw [this,←e];rfl
 induction fs using bu with
 |cons f r=>exact mh (rs:=[0,1]) H rfl (by simp) H (af s1 (bc (kr (an (ac (aa H) (ac (bw H) aq)) h))))
 |nil=>
  refine dp (rs:=[0,1]) H rfl (by simp) H (af s1 (af (i6 (an (ac (aa H) (ac (bw H) aq)) h)) (af (aaw (n:=0) (l:=jB c.sg) (x:= .str (Lw b)) (aR (bw H) ab H) ?_ rfl (by unfold jB;simp;exact aS hl dy)) ay))) H rfl
  show some (iq.list (jB (c.sg++[b])))=_
  exact ae e H
theorem IR {a b:Str}:jj σ .add (.d (.str a)) (.d (.str b))=(AK .add (.str a) (.str b)).bind λx=> .ok (.d x,σ):=rfl
abbrev PK:List ↑Str:=[[kK],[km],[mN],[nJ,hV],[ox],[p7],[mN,kn],[hV,nJ],[nJ,Pj,hV],[pd],[mM],[mf,hV]]
inductive z8:D→Prop
 |none:z8 .none
 |J {l:↑Str}:l∈PK→z8 (.J (l.map .str))
abbrev mB (ty:D) (g:Bool):↑Str:=match call code 3 .hY [.d (eE q_ [] ty .none g)] []with
 | .dW m=>[m]
 |_=>[]
theorem Gn {ps:↑PD} (h:z8 ty):call code (n+3) .hY [.d (eE nm ps ty body g)] σ=eM (mB ty g) σ:=by
 induction g using ar with
 |false=>exact bG H rfl (bB (aA (jQ (jc (aI H rfl) H)) (bB Au))) H
 |true=>
  induction h using z8.casesOn with
  |none=>exact bG H rfl (bB (aA (gy (jc (aI H rfl) H) (gx (cX H rfl rfl))) (bB Au))) H
  |@J l h=>
   unfold PK at h
   simp only [cM,fX,or_false]at h
   rcases h with rfl|rfl|rfl|rfl|rfl|rfl|rfl|rfl|rfl|rfl|rfl|rfl<;>kernel_rfl
abbrev WR:S:=match nZ.body with
 | .cons _ (.cons _ (.cons _ (.cons _ (.cons s _))))=>s
 |_=> .cont
abbrev pn:D:= .aD [.str r7, .str tP, .str pc, .str kn, .str pd, .str mM]
theorem Lx {ps:↑PD} {fd:↑Str} {a b c d e f h' j:V} (h:z8 ty) (hi:σ[i]?=some (.list (fd.map .str))) (hb:fd.length<aT):
  ex (call code (n+2)) w WR [.d (eE nm ps ty body g),a,b,c,d, .ref i,e, .d pn,f,h',j] σ= .ok (.next,[.d (eE nm ps ty body g),a,b,c,d, .ref i,e, .d pn,f,h',j],σ.set i (.list ((fd++mB ty g).map .str))):=by
 have cC:∀{t:Bool} {m:Str},mB ty g=fh t m→ev (call code (n+2)) (match WR with| .aU c _ _=>c|_=> .az .none) [.d (eE nm ps ty body g),a,b,c,d, .ref i,e, .d pn,f,h',j] σ= .ok (.d (.bool t),σ)→
   (t=true→ev (call code (n+2)) (.aE .add (.aE .add ⇑aG (.call .oS {.aw ↑0 ↥3})) ⇑bO) [.d (eE nm ps ty body g),a,b,c,d, .ref i,e, .d pn,f,h',j] σ= .ok (.d (.str m),σ))→
   ex (call code (n+2)) w WR [.d (eE nm ps ty body g),a,b,c,d, .ref i,e, .d pn,f,h',j] σ= .ok (.next,[.d (eE nm ps ty body g),a,b,c,d, .ref i,e, .d pn,f,h',j],σ.set i (.list ((fd++mB ty g).map .str))):=λhg hc hm=>by
  refine ae hg ?_;exact xF H hi hb hc hm
 induction g using ar with
 |false=>exact cC (t:=false) (m:=q_) H (cA (aI H rfl)) λq=>by exact bL q
 |true=>
  induction h using z8.casesOn with
  |none=>exact cC (t:=false) (m:=q_) H (aY (aI H rfl) (cA (cX H rfl rfl))) λq=>by exact bL q
  |@J l h=>
   have key:∀(t:Bool) (m y:Str),mB (.J (l.map .str)) true=fh t m→(∀σ,ev (call code (n+2)) (.au .eq (.comp [7] 1 (.dj 1) (.seq (.aw ↑0 ↥3)) (.some (.au .fj (.b1 .lower ↑1) ↑0)) ↑1) (.aD false .nil)) [.d (eE nm ps (.J (l.map .str)) body true),a,b,c,d, .ref i,e, .d pn,f,h',j] σ= .ok (.d (.bool t),σ))→
     (∀σ,call code (n+2) .oS [.d (.J (l.map .str))] σ= .ok (.d (.str y),σ))→(t=true→AK .add (.str aG) (.str y)= .ok (.str (aG++y))∧AK .add (.str (aG++y)) (.str bO)= .ok (.str m))→ex (call code (n+2)) w WR [.d (eE nm ps (.J (l.map .str)) body true),a,b,c,d, .ref i,e, .d pn,f,h',j] σ= .ok (.next,[.d (eE nm ps (.J (l.map .str)) body true),a,b,c,d, .ref i,e, .d pn,f,h',j],σ.set i (.list ((fd++mB (.J (l.map .str)) true).map .str))):=λt m y h1 h2 h3 h4=>cC (t:=t) (m:=m) h1 (aY (aI H rfl) (aY (cX H rfl rfl) (bW (h2 σ)))) λq=>by
      obtain ⟨h5,h6⟩:=h4 q
      exact cG (cG ab (an (gR H rfl) (h3 σ)) (by refine ae IR (ae h5 ?_);rfl)) ab (by refine ae IR (ae h6 ?_);rfl)
   unfold PK at h
   simp only [cM,fX,or_false]at h
   rcases h with rfl|rfl|rfl|rfl|rfl|rfl|rfl|rfl|rfl|rfl|rfl|rfl
   ·exact key true (aG++kK++bO) kK (by kernel_rfl) (λO=>by kernel_rfl) (λO=>by kernel_rfl) λO=>⟨by kernel_rfl,by kernel_rfl⟩
   ·exact key true (aG++km++bO) km (by kernel_rfl) (λO=>by kernel_rfl) (λO=>by kernel_rfl) λO=>⟨by kernel_rfl,by kernel_rfl⟩
   ·exact key true (aG++mN++bO) mN (by kernel_rfl) (λO=>by kernel_rfl) (λO=>by kernel_rfl) λO=>⟨by kernel_rfl,by kernel_rfl⟩
   ·exact key true (aG++(Ib++nJ)++bO) (Ib++nJ) (by kernel_rfl) (λO=>by kernel_rfl) (λO=>by kernel_rfl) λO=>⟨by kernel_rfl,by kernel_rfl⟩
   ·exact key false q_ ox (by kernel_rfl) (λO=>by kernel_rfl) (λO=>by kernel_rfl) λq=>by exact bL q
   ·exact key false q_ p7 (by kernel_rfl) (λO=>by kernel_rfl) (λO=>by kernel_rfl) λq=>by exact bL q
   ·exact key false q_ (mN++vM++kn) (by kernel_rfl) (λO=>by kernel_rfl) (λO=>by kernel_rfl) λq=>by exact bL q
   ·exact key true (aG++(Ib++nJ)++bO) (Ib++nJ) (by kernel_rfl) (λO=>by kernel_rfl) (λO=>by kernel_rfl) λO=>⟨by kernel_rfl,by kernel_rfl⟩
   ·exact key true (aG++(nJ++vM++Pj++vM++hV)++bO) (nJ++vM++Pj++vM++hV) (by kernel_rfl) (λO=>by kernel_rfl) (λO=>by kernel_rfl) λO=>⟨by kernel_rfl,by kernel_rfl⟩
   ·exact key false q_ pd (by kernel_rfl) (λO=>by kernel_rfl) (λO=>by kernel_rfl) λq=>by exact bL q
   ·exact key false q_ mM (by kernel_rfl) (λO=>by kernel_rfl) (λO=>by kernel_rfl) λq=>by exact bL q
   ·exact key false q_ (Ib++mf) (by kernel_rfl) (λO=>by kernel_rfl) (λO=>by kernel_rfl) λq=>by exact bL q
abbrev eH (us:↑(Str×Bool)):D:= .J (us.map λu=> .J [.str u.1, .bool u.2])
abbrev WS (x:Str):Str:=fG++x++qW
abbrev Ev (x:Str):Str:=c8++x++e8
abbrev n6:↑Str→↑Str→↑Str
 |_,[]=>[]
 |pre,x::r=>(if x==bH then[br]else if pre.contains x then[WS x]else[])++n6 (pre++[x]) r
theorem Ly (xs:↑Str):∀(pre:↑Str),(n6 pre xs).length≤xs.length:=by
 induction xs with
 |nil=>exact λ_=>cF _
 |cons x xs dS=>
  intro pre
  have:=dS (pre++[x])
  simp only [n6,cg,gO]
  have h1:(if x==bH then[br]else if pre.contains x then[WS x]else[]).length≤1:=by
   split
   ·simp
   ·split<;>simp
  exact aS h1 this
theorem No {a b x:Str} (ha:a.length≤1000) (hb:b.length≤1000) (hx:x.length≤1000) (h:ev K e ρ σ= .ok (.d (.str x),σ)):ev K (.aE .add (.aE .add ⇑a e) ⇑b) ρ σ= .ok (.d (.str (a++x++b)),σ):=by
 have dy:4000≤aT:=by decide
 have e2:∀u v:Str,(u++v).length=u.length+v.length:=λu v=>by show(u.cps++v.cps).size=_;simp [Str.length]
 refine cG (cG ab h (pj ha hx)) ab ?_
 show(if(a++x).length+b.length≤aT then R.ok (D.str _)else R.aQ).bind _=_
 rw [ao (by rw [e2];exact Me ha hx hb dy)];rfl
theorem kA (n:Nat):iC n=(List.range' 0 n).map λ(k:Nat)=>D.int k:=by unfold iC;exact ae List.range_eq_range' H
abbrev at0:D→↑D
 | .J (y::_)=>[y]
 |_=>[]
theorem Ca (us:↑(Str×Bool)):(us.map λu=>D.J [.str u.1, .bool u.2]).flatMap at0=(us.map (·.1)).map .str:=by
 induction us with
 |nil=>exact H
 |cons u us dS=>exact by refine ae ef (ae List.flatMap_cons (ae (dS) ?_));rfl
theorem Dr {us:↑(Str×Bool)} (hu:∀u∈us,u.1.length≤1000) (hl:us.length≤1000):call code (n+1) .pI [.d (eH us)] σ=eM (n6 [] (us.map (·.1))) σ:=by
 have dy:3000<aT:=by decide
 have lp:∀(us:↑(Str×Bool)) (pre:↑Str),(∀u∈us,u.1.length≤1000)→pre.length+us.length≤1000→∀a x y:V,g9 λx' y'=>cW (λy=>bk (.aO [2,3]) (.d y)) (λρ σ=>bg (call code n) n {.aU (.au .eq ↑2 ⇑bH) {.dU ⇑br} .nil, .aU (.au .fj ↑2 ↑1) {.dU (.aE .add (.aE .add ⇑fG ↑2) ⇑qW)} .nil, .jh ↑1 ↑2} ρ σ) (us.map λu=>D.J [.str u.1, .bool u.2]) [a, .ref 0,x,y] [.list (pre.map .str)]=
   cK (n6 pre (us.map (·.1))) [a, .ref 0,x',y'] [.list ((pre++us.map (·.1)).map .str)]:=by
  intro us
  induction us with
  |nil=>intro pre _ _ a x y;exact ⟨x,y,by refine ae (show List.map (λx:Str×Bool=>x.1) []=[]from rfl) ?_;rw [b6];rfl⟩
  |cons u us ih=>
   intro pre hu hl a x y
   simp only [gO]at hl
   obtain ⟨x',y',h'⟩:=ih (pre++[u.1]) (λv hv=>hu v (bY _ hv)) (by simp;exact av hl) a (.d (.str u.1)) (.d (.bool u.2))
   refine ⟨x',y',?_⟩
   rw [ef,ef,n6]
   have hux:=hu u bZ
   refine oK (ρ0:=[a, .ref 0, .d (.str u.1), .d (.bool u.2)]) (ρ1:=[a, .ref 0, .d (.str u.1), .d (.bool u.2)]) (σ1:=[.list ((pre++[u.1]).map .str)]) H ?_ λO=>?_
   ·have e1:ek [.list (pre.map .str)] .fj (.d (.str u.1)) (.ref 0)= .ok (pre.contains u.1):=B4 u.1 H
    cases h1:u.1==bH with
    |true=>
     exact bc (aA (ak (aa H) ab (fv h1)) (bc (fI ab)))
    |false=>
     refine aK (ak (aa H) ab (fv h1)) ?_
     cases h2:pre.contains u.1 with
     |true=>exact bc (aA (ak (aa H) (cV H) (e1.trans (aC _ h2))) (bc (fI (No ⋯ ⋯ hux (aa H)))))
     |false=>
      refine aK (ak (aa H) (cV H) (e1.trans (aC _ h2))) (af (mO (cV H) H (aa H) H (by simp;exact aS hl dy)) ?_)
      refine ae fK ?_;rfl
   ·refine ae h' ?_;rw [aX];rfl
 obtain ⟨x',y',h'⟩:=lp us [] hu (by simpa using hl) (.d (eH us)) .un .un
 exact xH H rfl (af (aJ (fA aq H)) (ba (lL nS (fH (aa H) H) h')))
theorem IS {us:↑(Str×Bool)} (hu:∀u∈us,u.1.length≤1000) (hl:us.length≤1000):call code (n+1) .uh [.d (eH us)] σ= .ok (cY (n6 [] (us.map (·.1))),σ):=by
 have dy:3000<aT:=by decide
 have lp:∀(post pre:↑(Str×Bool)) (fd:↑Str),(∀u∈post,u.1.length≤1000)→(pre++post).length≤1000→fd.length+post.length≤2000→∀x y:V,g9 λx' y'=>cW (λy=>bk (.dj 2) (.d y)) (λρ σ=>bg (call code n) n {.bD 3 (.aw (.aw ↑0 ↑2) ↥0), .aU (.au .eq ↑3 ⇑bH) {.jh ↑1 ⇑br} {.aU (.au .fj ↑3 (.comp [] 2 (.aO [0,1]) (.seq (.oq ↑0 .none (.some ↑2) .none)) .none ↑0)) {.jh ↑1 (.aE .add (.aE .add ⇑fG ↑3) ⇑qW)} .nil}} ρ σ) ((List.range' pre.length post.length).map λ(k:Nat)=>D.int k) [.d (eH (pre++post)), .ref 0,x,y] [.list (fd.map .str)]=
   .ok (.next,[.d (eH (pre++post)), .ref 0,x',y'],[.list ((fd++n6 (pre.map (·.1)) (post.map (·.1))).map .str)]):=by
  intro post
  induction post with
  |nil=>intro pre fd _ _ _ x y;exact ⟨x,y,by refine ae (show n6 (pre.map (·.1)) (List.map (λx:Str×Bool=>x.1) [])=[]from rfl) ?_;rw [b6 (as:=fd),b6];rfl⟩
  |cons u post ih=>
   intro pre fd hu hl hf x y
   simp only [gO,cg]at hl hf
   have hux:=hu u bZ
   have eA:pre++u::post=(pre++[u])++post:=by simp
   have eL:(pre++[u]).length=pre.length+1:=by simp
   obtain ⟨x',y',h'⟩:=ih (pre++[u]) (fd++(if u.1==bH then[br]else if(pre.map (·.1)).contains u.1 then[WS u.1]else[])) (λv hv=>hu v (bY _ hv)) (by simp;exact av hl) (by
    have h1:(if u.1==bH then[br]else if(pre.map (·.1)).contains u.1 then[WS u.1]else[]).length≤1:=by
     split
     ·simp
     ·split<;>simp
    refine ae cg ?_;exact aS hf h1) (.d (.int (pre.length:Int))) (.d (.str u.1))
   rw [eL,←eA]at h'
   refine ⟨x',y',?_⟩
   refine ae gO ?_;rw [pF,ef,ef,n6,←aX]
   rw [(by simp:(pre++[u]).map (·.1)=pre.map (·.1)++[u.1])]at h'
   have hi:∀{σ:St},gT σ (.d (eH (pre++u::post))) (.int (pre.length:Int))= .ok (.d (.J [.str u.1, .bool u.2])):=λ{σ}=>lD (sm _ _ _ _) (by simp;exact aS hl dy)
   have Dl:jU (.d (eH (pre++u::post))) .none (.int (pre.length:Int)) .none= .ok (.d (.J (pre.map λu=> .J [.str u.1, .bool u.2]))):=by unfold eH;refine ae (yS (by simp;exact aS hl dy) (aS hl dy)) ?_;rw [yR]
   have c1:ev (call code n) (.au .fj ↑3 (.comp [] 2 (.aO [0,1]) (.seq (.oq ↑0 .none (.some ↑2) .none)) .none ↑0)) [.d (eH (pre++u::post)), .ref 0, .d (.int (pre.length:Int)), .d (.str u.1)] [.list (fd.map .str)]= .ok (.d (.bool ((pre.map (·.1)).contains u.1)),[.list (fd.map .str)]):=by
    refine ak (aa H) (uw (fH (lA (aa H) iI (oi (aa H)) iI Dl) H) at0 ?_ (λx hx=>?_) (Ca pre)) (jd _ _)
    ·rw [Ca];simp;exact aS hl dy
    ·obtain ⟨q,_,rfl⟩:=fq.mp hx
     exact ⟨[.d (.str q.1), .d (.bool q.2)],rfl,true,rfl, .inr ⟨H,_,aa H,H⟩⟩
   refine fc (ρ1:=[.d (eH (pre++u::post)), .ref 0, .d (.int (pre.length:Int)),y]) H (af (aJ (aR (aR (aa H) (aa H) hi) ab H)) ?_) (.inl H) h'
   cases h1:u.1==bH with
   |true=>
    refine af (aA (ak (aa H) ab (fv h1)) (af (mO (cV H) H ab H (by simp;exact aS hf dy)) ay)) ?_
    refine ae (ao H) (ae fK ?_);rfl
   |false=>
    refine ae (aN (by simp)) ?_
    cases h2:(pre.map (·.1)).contains u.1 with
    |true=>
     rw [h2]at c1
     refine af (bi (ak (aa H) ab (fv h1)) (af (aA c1 (af (mO (cV H) H (No ⋯ ⋯ hux (aa H)) H (by simp;exact aS hf dy)) ay)) ay)) ?_
     refine ae (ao H) (ae fK ?_);rfl
    |false=>
     rw [h2]at c1
     rw [aN (by simp),b6]
     exact af (bi (ak (aa H) ab (fv h1)) (aK c1 ay)) H
 obtain ⟨x',y',h'⟩:=lp us [] [] hu (hl) (by simp;exact av hl) .un .un
 have cb:∀{σ:St},mF σ .len (.d (eH us))= .ok (.d (.int (us.length:Int)),σ):=λ{σ}=>by
  have:=xz (σ:=σ) (l:=us.map λu=>D.J [.str u.1, .bool u.2]) (by simp;exact aS hl dy)
  rwa [fb]at this
 have iT:(3000:Nat)<2^62:=by decide
 refine bG (fl:= .ret (.ref 0)) (ρ1:=[.d (eH us), .ref 0,x',y']) (σ1:=[.list ((n6 [] (us.map (·.1))).map .str)]) H rfl (af (aJ (fA aq H)) (af (gL nR (tS (fB (aa H) cb) ⟨by lia,by lia⟩) ?_) (bq (cV H)))) H
 ·rw [rB,kA];exact h'
abbrev n7 (names:↑Str) (us:↑(Str×Bool)):↑Str:=us.flatMap λu=>fh (names.contains u.1) (Ev u.1)
theorem Cb (names:↑Str):∀us,(n7 names us).length≤us.length
 |[]=>cF _
 |u::us=>by
  have:=Cb names us
  unfold n7 at this⊢
  have h1:(fh (names.contains u.1) (Ev u.1)).length≤1:=by unfold fh;split<;>simp
  refine ae List.flatMap_cons (ae cg (ae gO ?_));exact aS h1 this
theorem aax {a b c d e f g:V} {x:Str} (hx:x.length≤1000) (ps:↑PD):∀(v:V),∃v',cW (λy=>bk (.dj 8) (.d y)) (λρ σ=>bg K w {.aU (.au .eq (.aw ↑8 ↥1) ↑6) {.dU (.aE .add (.aE .add ⇑c8 ↑6) ⇑e8)} .nil} ρ σ) (ps.map cu) [a,b,c,d,e,f, .d (.str x),g,v] σ=
  cK (fh ((ps.map (·.name)).contains x) (Ev x)) [a,b,c,d,e,f, .d (.str x),g,v'] σ:=by
 induction ps with
 |nil=>exact λv=>⟨v,rfl⟩
 |cons q ps dS=>
  intro v
  have hc:((q::ps).map (·.name)).contains x=(q.name==x||(ps.map (·.name)).contains x):=by exact ae ef (ae List.contains_cons (ae Bool.beq_comm H))
  refine ae hc ?_
  cases hq:q.name==x with
  |true=>exact ⟨v,tT H (bc (aA (ak (aI H rfl) (aa H) (fv hq)) (bc (fI (No ⋯ ⋯ hx (aa H))))))⟩
  |false=>
   obtain ⟨v',h'⟩:=dS (.d (cu q))
   exact ⟨v',fc H (aK (ak (aI H rfl) (aa H) (fv hq)) ay) (.inl H) h'⟩
theorem aay {ps:↑PD} {b c d e f:V} (us:↑(Str×Bool)):(∀u∈us,u.1.length≤1000)→∀x y v,s6 λx' y' v'=>cW (λy=>bk (.aO [6,7]) (.d y)) (λρ σ=>bg K w {.ej (.dj 8) (.seq (.aw ↑0 ↥2)) {.aU (.au .eq (.aw ↑8 ↥1) ↑6) {.dU (.aE .add (.aE .add ⇑c8 ↑6) ⇑e8)} .nil}} ρ σ) (us.map λu=>D.J [.str u.1, .bool u.2]) [.d (eE nm ps ty body g),b,c,d,e,f,x,y,v] σ=
  cK (n7 (ps.map (·.name)) us) [.d (eE nm ps ty body g),b,c,d,e,f,x',y',v'] σ:=by
 induction us with
 |nil=>exact λ_ x y v=>⟨x,y,v,rfl⟩
 |cons u us dS=>
  intro hu x y v
  obtain ⟨v1,h1⟩:=aax (w:=w) (σ:=σ) (K:=K) (a:= .d (eE nm ps ty body g)) (b:=b) (c:=c) (d:=d) (e:=e) (f:=f) (g:= .d (.bool u.2)) (hu u bZ) ps v
  obtain ⟨x',y',v',h'⟩:=dS (λv hv=>hu v (bY _ hv)) (.d (.str u.1)) (.d (.bool u.2)) v1
  exact ⟨x',y',v',oK H (ba (lL nS (fH (aI H rfl) H) h1)) λO=>h'⟩
theorem abA {a b c d e p l:V} {names:↑Str} (us:↑(Str×Bool)):∀(fd:↑Str) (σ:St),(∀u∈us,u.1.length≤1000)→σ[i]?=some (.list (fd.map .str))→fd.length+us.length≤aT→∀x y,g9 λx' y'=>cW (λy=>bk (.aO [8,10]) (.d y)) (λρ σ=>bg K w {.aU (.au .fj ↑8 ↑9) {.jh ↑5 (.aE .add (.aE .add ⇑c8 ↑8) ⇑e8)} .nil} ρ σ) (us.map λu=>D.J [.str u.1, .bool u.2]) [a,b,c,d,e, .ref i,p,l,x, .d (.aD (names.map .str)),y] σ=
  .ok (.next,[a,b,c,d,e, .ref i,p,l,x', .d (.aD (names.map .str)),y'],σ.set i (.list ((fd++n7 names us).map .str))):=by
 induction us with
 |nil=>exact λfd σ _ hi _ x y=>⟨x,y,by show R.ok _=_;refine ae (show n7 names []=[]from rfl) ?_;rw [b6,oJ hi]⟩
 |cons u us dS=>
  intro fd σ hu hi hb x y
  simp only [gO]at hb
  have ke:i<σ.length:=(jo.mp hi).1
  have h1:(fh (names.contains u.1) (Ev u.1)).length≤1:=by unfold fh;split<;>simp
  obtain ⟨x',y',h'⟩:=dS (fd++fh (names.contains u.1) (Ev u.1)) (σ.set i (.list ((fd++fh (names.contains u.1) (Ev u.1)).map .str))) (λv hv=>hu v (bY _ hv)) (u5 ke) (by refine ae cg ?_;exact aS hb h1) (.d (.str u.1)) (.d (.bool u.2))
  refine ⟨x',y',fc H (af (xF H hi (av hb) (ak (aa H) (aa H) (jd _ _)) λO=>No ⋯ ⋯ (hu u bZ) (aa H)) ay) (.inl H) ?_⟩
  refine h'.trans ?_
  rw [List.set_set,aX];rfl
structure bh (x:D):Prop where
 hd:g9 λk r=>x= .J (.str k::r)∧fN.contains k=true
 pw:Pw x
abbrev Ub (d:D):Prop:=d= .none∨bh d
inductive mo:D→Prop
 |none:mo .none
 |J {l:↑D}:(∀x∈l,bh x)→mo (.J l)
structure t6 (p:PD):Prop where
 len:p.name.length≤1000
 df:Ub p.jk
theorem so {c:fV}:call code (n+1) .d7 [.d (.aD []),dX c] (bR ai)= .ok (cY [],bR ai):=
 dp (rs:=[0]) H rfl (by simp) H (af (aJ (fA aq H)) (af (gL nS (fH (aa H) H) TB) (bq (cV H)))) H rfl
theorem Go {c:fV} (hf:fs.length≤aT) (h:call code n .m2 [.d x,dX c] (bR ai)= .ok (cY fs,bR be)):call code (n+1) .d7 [.d (.aD [x]),dX c] (bR ai)= .ok (cY fs,bR be):=
 dp (fl:= .ret (.ref 1)) (ρ1:=[.d (.aD [x]),dX c, .ref 1, .d x]) (σ1:=[.list (be.map .str), .list (fs.map .str)]) (rs:=[0]) H rfl (by simp) H (af (aJ (fA aq H)) (af (gL nS (fH (aa H) H) (fc H (af (K' (n:=1) (l:=[]) (l2:=[]) (cV H) H (an (ac (aa H) (ac (bw H) aq)) (yU (a:=0) (σ:=[.list (ai.map .str), .list []]) H h)) (k:=fs.map .str) H rfl (by simp;exact av hf)) ay) (.inl H) TB)) (bq (cV H)))) H rfl
theorem xJ (p:PD):sz (cu p)=8+sz p.jk:=by simp [cu,sz,b9];simp+arith only
theorem Gp (p:PD):ht (cu p)=1+ht p.jk:=by simp [cu,ht,cD]
theorem nP (b:Bool) (m:Str):(fh b m).length≤1:=by unfold fh;split<;>simp
theorem PL (pre:↑PD) (p:PD) (nm:Str) (isM nb:Bool):(sQ pre p nm isM nb).length≤7:=by
 unfold sQ Nj IM
 simp only [cg]
 have h1:=nP ((pre.map (·.name)).contains p.name) (Em p.name)
 have h2:=nP (p.name==bH) cz
 have h3:=nP (nO pre) bI
 have h4:=nP (p.var&&!aL p.jk) bA
 have h5:=nP (!(p.sZ==q_)&&!(isM&&zD nm)) bT
 have h6:=nP (!(p.sZ==q_)&&nb) bU
 have h7:=nP (!(p.sZ==q_)&&p.var) ck
 exact jT (jT h1 (jT h2 (jT h3 h4))) (jT h5 (jT h6 h7))
theorem z8.ok (h:z8 ty) (g:Bool):lK (if g then .none else ty):=by
 induction g using ar with
 |true=>exact .none
 |false=>induction h using z8.casesOn with
  |none=>exact .none
  |J _=>exact .J _
abbrev aaz:Ss:=match nZ.body with
 | .cons _ (.cons _ (.cons (.ej _ _ b) _))=>b
 |_=> .nil
abbrev aaA:Ss:=match uW.body with
 | .cons _ (.cons (.ej _ _ b) _)=>b
 |_=> .nil
variable {Gq:↑Str} {WT:↑D}
theorem WU {a b:E} {m:↑D} (h:ev K a ρ σ= .ok (.d (.aD l),σ1)) (h2:ev K b ρ σ1= .ok (.d (.aD m),d8)) (hb:l.length+m.length≤aT):ev K (.aE .uP a b) ρ σ= .ok (.ref d8.length,d8++[.list (l++m)]):=by
 exact cG h h2 (bo (yF H rfl hb) H)
theorem Np {a b:E} {m:↑D} (h:ev K a ρ σ= .ok (.ref i,σ1)) (h2:ev K b ρ σ1= .ok (.d (.aD m),d8)) (hi:d8[i]?=some (.list l)) (hb:l.length+m.length≤aT):ev K (.aE .add a b) ρ σ= .ok (.d (.aD (l++m)),d8):=by
 exact cG h h2 (Iv H (yF (p9 hi) H hb))
theorem Uc {c:fV} (hd:Ub d) (kS:lK c.ty) (hg:c.sg.length+ht d≤1000) (hk:ai.length+sz d≤100000):
  u3 (8*sz d) (ai.length+sz d) λfs be=>∀n,3*ht d+21≤n→call code n .d7 [.d (.aD (cR d)),dX c] (bR ai)= .ok (cY fs,bR be)∧
   ∀{w:Nat} {ρ:↑V} {e:E},ρ[4]?=some (dT c)→(∀{σ:St},ev (call code n) e ρ σ= .ok (.d d,σ))→ex (call code n) w (.aU (.au .dw e (.az .none)) {.dC (.call .gG {e,↑4})} .nil) ρ (bp c ai)=cK fs ρ (bp c be):=by
 have hb:1000000≤aT:=by decide
 rcases hd with rfl|hd
 ·exact ⟨[],ai,by simp,by simp+arith only,λn hn=>⟨by obtain ⟨n,rfl⟩:∃k,n=k+1:=ge hn rfl;exact so,λO he=>bi (ak he ab rfl) ay⟩⟩
 ·obtain ⟨k,r,rfl,hkk⟩:=hd.hd
  obtain ⟨fs,k1,h1,h2,h3⟩:=hd.pw c ai kS hg hk
  refine ⟨fs,k1,h1,h2,λn hn=>⟨?_,λ{w ρ e} hr he=>?_⟩⟩
  ·obtain ⟨n,rfl⟩:∃k,n=k+1:=ge hn rfl
   refine ae (tV hkk) ?_
   exact Go (fY h1 (ml 8 hk) hb) (h3 n (av hn)).1
  ·have hc:=(h3 n (av hn)).2
   have:=dq (w:=w) (ρ:=ρ) (an (ac he (ac (bw hr) aq)) hc)
   exact aA (ak he ab H) (ba this)
noncomputable abbrev Nq (f:D) (u:V) (isM cZ:Bool) (c:fV) (i:Nat) (x:V):↑V:=[.d f,u, .d (.bool isM), .d (.bool cZ),dX c, .ref i,x, .un, .un, .un, .un]
noncomputable abbrev Ud (f:D) (u:V) (isM cZ:Bool) (c:fV) (x:V):↑V:=[.d f,u, .d (.bool isM), .d (.bool cZ),dT c,x, .un, .un, .un]
noncomputable abbrev Nr (p m:Nat):↑D:=(List.range' p m).map λ(k:Nat)=>D.int k
inductive Ay (n:Nat) (f:D) (isM cZ:Bool) (c:fV) (be IQ:↑Str) (p m:Nat) (u x:V) (σ:St) (i:Nat):Prop
 |mk (x':V) (σ':St) (i':Nat):i'≠0→σ'[0]?=some (.list (be.map .str))→σ'[i']?=some (.list (IQ.map .str))→cW (λy=>bk (.dj 6) (.d y)) (λρ σ=>bg (call code n) n aaz ρ σ) (Nr p m) (Nq f u isM cZ c i x) σ= .ok (.next,Nq f u isM cZ c i' x',σ')→Ay n f isM cZ c be IQ p m u x σ i
inductive Az (n:Nat) (f:D) (isM cZ:Bool) (c:fV) (ai be fs:↑Str) (p m:Nat) (u x:V):Prop
 |mk (x':V):cW (λy=>bk (.dj 5) (.d y)) (λρ σ=>bg (call code n) n aaA ρ σ) (Nr p m) (Ud f u isM cZ c x) (bp c ai)=cK fs (Ud f u isM cZ c x') (bp c be)→Az n f isM cZ c ai be fs p m u x
theorem Cc (p m:Nat):Nr p (m+1)= .int (p:Int)::Nr (p+1) m:=by show(List.range' p (m+1)).map _=_;refine ae pF ?_;rfl
section
variable {f:D} {x:V} {c:fV} {p:Nat} {q:PD} {fd:↑Str}
theorem Ue (hi:∀{σ:St},gT σ (.d (.J WT)) (.int (p:Int))= .ok (.d (cu q))) (hf:∀σ,gT σ (.d f) (.int 2)= .ok (.d (.J WT))) (lP:∀{σ:St},call code n .jO [.d f, .d (.int (p:Int)), .d (.bool isM)] σ= .ok (cY Gq,σ))
  (kZ:∀{σ:St},call code n .ca [.d q.jk] σ= .ok (.d (.aD (cR q.jk)),σ)) (d4:call code n .d7 [.d (.aD (cR q.jk)),dX c] (bR ai)= .ok (cY fs1,bR k1)) (hb:fd.length+Gq.length+fs1.length≤aT)
  (g:∀x σ i,i≠0→σ[0]?=some (.list (k1.map .str))→σ[i]?=some (.list ((fd++Gq++fs1).map .str))→Ay n f isM cZ c k2 (fd++Gq++fs1++fs2) (p+1) m u x σ i) (h1:σ[0]?=some (.list (ai.map .str))) (h2:σ[i]?=some (.list (fd.map .str))):
  Ay n f isM cZ c k2 (fd++(Gq++fs1++fs2)) p (m+1) u x σ i:=by
 have h0l:0<σ.length:=(jo.mp h1).1
 have e0:(σ.set 0 (.list (k1.map .str))).length=σ.length:=List.length_set
 obtain ⟨x',σ',i',f1,f2,f3,f4⟩:=g (.d (.int (p:Int))) (σ.set 0 (.list (k1.map .str))++[.list ((fd++Gq++fs1).map .str)]) σ.length (Nat.pos_iff_ne_zero.mp h0l) (by refine ae (lT (by rw [e0];exact h0l)) ?_;rw [u5 h0l]) (by rw [←e0];exact List.getElem?_concat_length)
 refine ⟨x',σ',i',f1,f2,by refine ae f3 ?_;simp only [aX],?_⟩
 rw [Cc]
 have V4:(fd.map D.str).length+(Gq.map D.str).length≤aT:=by rw [fb,fb];exact av hb
 have e1:=WU (K:=call code n) (ρ:=Nq f u isM cZ c i (.d (.int (p:Int)))) (Np (σ:=σ) (cV (x:=5) H) (an (f:= .jO) (ac (aa (x:=0) H) (ac (aa (x:=6) H) (ac (aa (x:=2) H) aq))) lP) h2 V4)
  (an (f:= .d7) (ac (an (f:= .ca) (ac (aR (aR (aR (aa (x:=0) H) (ab (d:= .int 2)) (hf _)) (aa (x:=6) H) hi) (ab (d:= .int 3)) H) aq) kZ) (ac (bw (x:=4) H) aq)) (yU (a:=0) h1 d4)) (by refine ae cg ?_;rw [fb,fb,fb];exact hb)
 rw [e0,←fK,←fK]at e1
 exact fc (ρ2:=Nq f u isM cZ c σ.length (.d (.int (p:Int)))) H (af (aJ (v:= .ref σ.length) e1) ay) (.inl H) f4
theorem Uf (hi:∀{σ:St},gT σ (.d (.J WT)) (.int (p:Int))= .ok (.d (cu q))) (hf:∀σ,gT σ (.d f) (.int 2)= .ok (.d (.J WT))) (cP:∀{σ:St},call code n .lX [.d f, .d (.int (p:Int)), .d (.bool isM)] σ=eM Gq σ)
  (d5:∀{w:Nat} {ρ:↑V} {e:E},ρ[4]?=some (dT c)→(∀{σ:St},ev (call code n) e ρ σ= .ok (.d q.jk,σ))→ex (call code n) w (.aU (.au .dw e (.az .none)) {.dC (.call .gG {e,↑4})} .nil) ρ (bp c ai)=cK fs1 ρ (bp c k1))
  (g:Az n f isM cZ c k1 k2 fs2 (p+1) m u (.d (.int (p:Int)))):Az n f isM cZ c ai k2 (Gq++fs1++fs2) p (m+1) u x:=by
 obtain ⟨x',f1⟩:=g
 refine ⟨x',?_⟩
 rw [Cc]
 exact oK (ρ0:=Ud f u isM cZ c (.d (.int (p:Int)))) H (dR (dq (an (ac (aa H) (ac (aa H) (ei H))) cP)) λO=>ba (d5 H (aR (aR (aR (aa H) ab (hf _)) (aa H) hi) ab H))) λO=>f1
end
theorem PM {ps0:↑PD} {c:fV} (hn:sj nm) (kS:lK c.ty) (Pz:c.sg=[]) (hl:ps0.length≤1000) (post:↑PD):∀(pre:↑PD) (ai fd:↑Str),ps0=pre++post→(∀p∈post,t6 p)→
  cD (post.map cu)≤1000→ai.length+b9 (post.map cu)≤100000→fd.length+8*b9 (post.map cu)≤aT→
  u3 (8*b9 (post.map cu)) (ai.length+b9 (post.map cu)) λfs be=>∀n,3*cD (post.map cu)+20≤n→
   (∀u x (σ:St) (i:Nat),i≠0→σ[0]?=some (.list (ai.map .str))→σ[i]?=some (.list (fd.map .str))→Ay n (eE nm ps0 ty body g) isM cZ c be (fd++fs) pre.length post.length u x σ i)∧
   ∀u x,Az n (eE nm ps0 ty body g) isM cZ c ai be fs pre.length post.length u x:=by
 induction post with
 |nil=>exact λpre ai fd O O O O O=>⟨[],ai,dK _,cF _,λn O=>⟨λu x σ i h0 h1 h2=>⟨x,σ,i,h0,h1,by rw [b6];exact h2,H⟩,λu x=>⟨x,H⟩⟩⟩
 |cons p post ih=>
  intro pre ai fd Fx hp hht hk Ug
  have hq:=Gp p
  have h1:1+ht p.jk≤1000:=hq▸aM (fU _ _) hht
  change ai.length+(sz (cu p)+b9 (post.map cu))≤100000 at hk
  change fd.length+8*(sz (cu p)+b9 (post.map cu))≤aT at Ug
  rw [xJ]at hk Ug
  have dy:2000000<aT:=by decide
  have hp1:=hp p bZ
  have hi:∀{σ:St},gT σ (.d (.J (ps0.map cu))) (.int (pre.length:Int))= .ok (.d (cu p)):=λ{σ}=>by subst Fx;exact lD (sm _ _ _ _) (by rw [fb];exact aM hl ∅)
  have pl:=PL pre p nm isM (aL body)
  obtain ⟨fs1,k1,d1,d2,d3⟩:=Uc (c:=c) (ai:=ai) hp1.df kS (by refine ae Pz (ae lW ?_);exact av h1) (av hk)
  obtain ⟨fs2,k2,e1,e2,e3⟩:=ih (pre++[p]) k1 (fd++sQ pre p nm isM (aL body)++fs1) (by refine ae Fx ?_;rw [aX];rfl) (λq hq=>hp q (bY _ hq)) (aM (lV _ _) hht) (aS d2 hk) (by refine ae cg ?_;rw [cg];exact fY Ug pl d1)
  have hb:fd.length+(sQ pre p nm isM (aL body)).length+fs1.length≤aT:=fY Ug pl d1
  refine ⟨sQ pre p nm isM (aL body)++fs1++fs2,k2,by rw [cg];refine ae cg ?_;show _≤8*(sz (cu p)+b9 (post.map cu));rw [xJ];exact fY pl d1 e1,by show _≤_+(sz (cu p)+b9 (post.map cu));rw [xJ];exact aS e2 d2,λn yA=>?_⟩
  have t1:=Gl yA
  have t2:=Gm yA
  rw [hq]at t1
  clear yA hht
  have eL:(pre++[p]).length=pre.length+1:=by refine ae cg ?_;rfl
  have d45:=d3 n (av t1)
  have e45:=e3 n t2
  rw [eL]at e45
  obtain ⟨m,rfl⟩:∃m,n=m+4:=ge t2 rfl
  subst Fx
  exact ⟨λu x σ i O h1 h2=>Ue hi (λO=>rfl) (Gk hl hp1.len) (iK _ _ _ (av t1) (av Ug)) d45.1 hb (e45.1 u) h1 h2,λu x=>Uf hi (λO=>rfl) (B9 hn hl hp1.len) d45.2 (e45.2 u _)⟩
theorem PN (ty:D) (g:Bool):(mB ty g).length≤1:=by unfold mB;generalize call code 3 .hY [.d (eE q_ [] ty .none g)] []=r;induction r using R.casesOn<;>first|exact dK _|exact cF _
theorem mT:gh [] σ σ1 (.d x)= .ok (.d x,σ):=by induction σ1 using bu<;>rfl
theorem nc (h:∀x∈l,bh x):cR (.J l)=l:=jY.je (s:=115) (.seq λx hx=>(h x hx).hd)
theorem Lz {c:fV} {b:D} (hb:mo b) (kS:lK c.ty) (hg:c.sg.length+ht b≤1000) (hk:ai.length+sz b≤100000):
  u3 (8*sz b) (ai.length+sz b) λfs be=>∀n,3*ht b+18≤n→call code n .d7 [.d (.aD (cR b)),dX c] (bR ai)= .ok (cY fs,bR be)∧
   ∀{w:Nat} {ρ:↑V} {e:E},ρ[4]?=some (dT c)→(∀{σ:St},ev (call code n) e ρ σ= .ok (.d b,σ))→ex (call code n) w (.aU (.au .dw e (.az .none)) {.dC (.call .fM {e,↑4})} .nil) ρ (bp c ai)=cK fs ρ (bp c be):=by
 induction hb using mo.casesOn with
 |none=>exact ⟨[],ai,by simp,by simp+arith only,λn hn=>⟨by obtain ⟨n,rfl⟩:∃k,n=k+1:=ge hn rfl;exact so,λO he=>bi (ak he ab rfl) ay⟩⟩
 |@J l h=>
  change c.sg.length+(1+cD l)≤1000 at hg
  change ai.length+(1+b9 l)≤100000 at hk
  obtain ⟨fs,k1,h1,h2,h3⟩:=lM (c:=c) (l:=l) (ai:=ai) kS (λx hx=>(h x hx).pw) (av hg) (av hk)
  refine ⟨fs,k1,aM h1 (ol _ (jp _ _)),aM h2 (kF (jp _ _) _),λn hn=>?_⟩
  change 3*(1+cD l)+18≤n at hn
  have h3:=h3 n (av hn)
  refine ⟨?_,λ{w ρ e} hr he=>?_⟩
  ·refine ae (nc h) ?_
   exact h3.1
  ·have hc:=h3.2 (.J l) H
   have:=dq (w:=w) (ρ:=ρ) (an (ac he (ac (bw hr) aq)) hc)
   exact aA (ak he ab H) (ba this)
theorem WV {ps:↑PD}:cD (ps.map cu)+2≤ht (eE nm ps ty body g)∧ht body+1≤ht (eE nm ps ty body g):=by
 have h1:ht (.J (ps.map cu))≤cD [.str iG, .str nm, .J (ps.map cu),ty,body, .bool false, .bool g]:=ku (.tail _ (.tail _ (.head _)))
 have h2:ht body≤cD [.str iG, .str nm, .J (ps.map cu),ty,body, .bool false, .bool g]:=ku (.tail _ (.tail _ (.tail _ (.tail _ (.head _)))))
 change 1+cD (ps.map cu)≤_ at h1
 show _≤1+cD [.str iG, .str nm, .J (ps.map cu),ty,body, .bool false, .bool g]∧_≤1+cD [.str iG, .str nm, .J (ps.map cu),ty,body, .bool false, .bool g]
 exact ⟨av h1,av h2⟩
theorem WW {ps:↑PD}:5+b9 (ps.map cu)+sz body≤sz (eE nm ps ty body g):=by
 have:=sb ty
 show _≤1+(1+(1+(1+b9 (ps.map cu)+(sz ty+(sz body+(1+(1+0)))))))
 simp+arith only
theorem xK {ps:↑PD} {us:↑(Str×Bool)} (hn:sj nm) (kS:z8 ty) (hp:∀p∈ps,t6 p) (hb:mo body) (hu:∀u∈us,u.1.length≤1000) (z9:us.length≤1000) (Fo:ps.length≤1000) (hH:ht (eE nm ps ty body g)≤1000) (hS:sz (eE nm ps ty body g)≤100000):
  ∃fs,fs.length≤8*sz (eE nm ps ty body g)+us.length∧∀n,3*ht (eE nm ps ty body g)+18≤n→∀σ,call code n .iQ [.d (eE nm ps ty body g), .d (eH us), .d (.bool isM), .d (.bool cZ)] σ= .ok (cY fs,σ)∧call code n .j3 [.d (eE nm ps ty body g), .d (eH us), .d (.bool isM), .d (.bool cZ)] σ=eM fs σ:=by
 have dy:2000000<aT:=by decide
 obtain ⟨hh1,hh2⟩:=WV (nm:=nm) (ps:=ps) (ty:=ty) (body:=body) (g:=g)
 have hsz:=WW (nm:=nm) (ps:=ps) (ty:=ty) (body:=body) (g:=g)
 let c:=fnC ty g cZ
 have Zc:lK c.ty:=kS.ok g
 obtain ⟨fs1,k1,a1,a2,a3⟩:=PM (nm:=nm) (ps0:=ps) (ty:=ty) (body:=body) (g:=g) (isM:=isM) (cZ:=cZ) (c:=c) hn Zc rfl Fo ps [] [] [] rfl hp (aS hh1 hH) (by refine ae lW ?_;exact aS hsz hS) (by refine ae lW ?_;exact fY (ml 8 hsz) (ml 8 hS) dy)
 obtain ⟨WX,k4,b1,b2,b3⟩:=Lz (c:=c) (ai:=k1) hb Zc (by show 0+_≤_;exact aS hh2 hH) (by rw [lW]at a2;exact fY a2 hsz hS)
 have gl:=PN ty g
 have ll:=Cb (ps.map (·.name)) us
 refine ⟨fs1++(mB ty g++(n7 (ps.map (·.name)) us++WX)),by simp only [cg];exact GO a1 gl ll b1 (ml 8 hsz),λn yA σ=>?_⟩
 obtain ⟨m,rfl⟩:∃m,n=m+5:=ge yA rfl
 obtain ⟨a4,a5⟩:=a3 (m+4) (aS (ml 3 hh1) yA)
 obtain ⟨b4,b5⟩:=b3 (m+4) (aS (ml 3 hh2) yA)
 have cb:∀{σ:St},mF σ .len (.d (.J (ps.map cu)))= .ok (.d (.int (ps.length:Int)),σ):=λ{σ}=>by
  have:=xz (σ:=σ) (l:=ps.map cu) (by simp;exact aS Fo dy)
  rwa [fb]at this
 have iT:(3000:Nat)<2^62:=by decide
 constructor
 ·obtain ⟨x',σ',i',f1,f2,f3,f4⟩:=a4 (.d (eH us)) .un [.list [], .list []] 1 ∅ rfl rfl
  rw [pG]at f3
  have ke:i'<σ'.length:=(jo.mp f3).1
  let d8:=σ'.set i' (.list ((fs1++mB ty g).map .str))
  have g1:d8[i']?=some (.list ((fs1++mB ty g).map .str)):=u5 ke
  have g0:d8[0]?=some (.list (k1.map .str)):=by refine ae (kE f1) ?_;exact f2
  obtain ⟨x2,y2,u1⟩:=abA (K:=call code (m+4)) (w:=m+4) (i:=i') (a:= .d (eE nm ps ty body g)) (b:= .d (eH us)) (c:= .d (.bool isM)) (d:= .d (.bool cZ)) (e:=dX c) (p:=x') (l:= .d pn) (names:=ps.map (·.name)) us (fs1++mB ty g) d8 hu g1 (by simp only [cg];lia) .un .un
  let uJ:=d8.set i' (.list ((fs1++mB ty g++n7 (ps.map (·.name)) us).map .str))
  have k1':uJ[i']?=some (.list ((fs1++mB ty g++n7 (ps.map (·.name)) us).map .str)):=u5 (by simpa [d8]using ke)
  have k0':uJ[0]?=some (.list (k1.map .str)):=by refine ae (kE f1) ?_;exact g0
  have hla:=yU (a:=0) k0' b4
  have kZ:∀{σ:St},call code (m+4) .ca [.d body] σ= .ok (.d (.aD (cR body)),σ):=λ{σ}=>iK _ _ _ (aS hh2 yA) (fY hsz hS dy)
  have hg0:∀{K:fF} {u v w:V} {σ:St},ev K (.ite (.aw ↑0 ↥6) (.az .none) (.aw ↑0 ↥3)) [.d (eE nm ps ty body g),u,v,w, .un, .un, .un, .un, .un, .un, .un] σ= .ok (.d c.ty,σ):=λ{K u v w σ}=>by
   generalize hgv:g=o0;induction o0 using ar with
   |true=>exact (ik (aI H rfl) ab).trans (by show R.ok (V.d D.none,σ)=R.ok (V.d (if g then D.none else ty),σ);refine ae hgv ?_;rfl)
   |false=>exact (iJ (aI H rfl) (aI H rfl)).trans (by show R.ok (V.d ty,σ)=R.ok (V.d (if g then D.none else ty),σ);refine ae hgv ?_;rfl)
  have WY:∀{K:fF} {ρ:↑V} {σ:St},ρ[0]?=some (.d (eE nm ps ty body g))→ev K (.comp [] 1 (.dj 0) (.seq (.aw ↑0 ↥2)) .none (.aw ↑0 ↥1)) ρ σ= .ok (.d (.aD ((ps.map (·.name)).map .str)),σ):=λ{K ρ σ} hr=>
   uw (fH (aR (aa hr) ab H) H) at1 (by rw [qc];simp;exact aS Fo dy) (λx hx=>by
    obtain ⟨q,_,rfl⟩:=fq.mp hx
    exact ⟨[.d (cu q)],H,true,H, .inr ⟨H,_,aI H rfl,H⟩⟩) (qc ps)
  have Km:∀x:Nat,(uJ.set 0 (iq.list (k4.map D.str)))[i']?=some (.list ((fs1++mB ty g++n7 (ps.map (·.name)) us).map .str)):=λO=>by refine ae (kE (Ne.symm f1)) ?_;exact k1'
  refine bG (fl:= .ret (cY (fs1++(mB ty g++(n7 (ps.map (·.name)) us++WX))))) H rfl (af (aJ (an (ac ab (ac hg0 (ac ab (ei H)))) sn)) (af (aJ (fA aq H)) (af (ρ1:=[.d (eE nm ps ty body g), .d (eH us), .d (.bool isM), .d (.bool cZ),dX c, .ref i',x', .un, .un, .un, .un]) (σ1:=σ') (gL nR (tS (fB (aI H rfl) cb) ⟨by lia,by lia⟩) ?_)
   (af (aJ (dn (ac ab (ac ab (ac ab fC))) H)) (af (Lx kS f3 (Me a1 (ml 8 hsz) (ml 8 hS) dy)) (af (aJ (WY H)) (af (gL nS (fH (aa H) H) u1) (bB (Av (σ1:=uJ.set 0 (.list (k4.map .str))) ?_))))))))) mT
  ·rw [rB,kA]
   exact f4
  ·have:=Np (K:=call code (m+4)) (cV (x:=5) (ρ:=[.d (eE nm ps ty body g), .d (eH us), .d (.bool isM), .d (.bool cZ),dX c, .ref i',x', .d pn,x2, .d (.aD ((ps.map (·.name)).map .str)),y2]) H) (an (f:= .d7) (ac (an (f:= .ca) (ac (aR (aa (x:=0) H) (ab (d:= .int 4)) H) aq) kZ) (ac (bw (x:=4) H) aq)) hla) (Km 0) (by simp;lia)
   rw [←fK]at this
   refine ae (by simp only [aX]:fs1++(mB ty g++(n7 (ps.map (·.name)) us++WX))=fs1++mB ty g++n7 (ps.map (·.name)) us++WX) ?_
   exact this
 ·obtain ⟨x',f1⟩:=a5 (.d (eH us)) .un
  obtain ⟨x2,y2,v2,u1⟩:=aay (K:=call code (m+4)) (w:=m+4) (σ:=bp c k1) (nm:=nm) (ps:=ps) (ty:=ty) (body:=body) (g:=g) (b:= .d (eH us)) (c:= .d (.bool isM)) (d:= .d (.bool cZ)) (e:=dT c) (f:=x') us hu .un .un .un
  refine xH (σ1:=bp c k4) H rfl (af (aJ (an (ac (aa H) (ei H)) Dq)) (dR (lL nR (tS (fB (aI H rfl) cb) ⟨by lia,by lia⟩) ?_) λO=>dR (dq (an (ei H) (Gn (n:=m+1) kS))) λO=>dR (lL nS (fH (aa H) H) u1) λO=>ba (b5 H (aI H rfl))))
  rw [rB,kA]
  exact f1
mutual
theorem PO:∀d:D,cD (cR d)≤ht d
 | .J []=>by simp [cR,cD]
 | .J (x::r)=>by
  have h:=pp (x::r)
  induction x using D.casesOn<;>simp only [cR]
  case str=>split<;>simp only [cD,ht]at*<;>lia
  all_goals (simp only [ht]at*;exact av h)
 | .none| .bool _| .int _| .str _| .aD _=>by simp [cR,cD]
theorem pp:∀l:↑D,cD (eY l)≤cD l
 |[]=>by simp [eY,cD]
 |x::r=>by
  have h1:=PO x
  have h2:=pp r
  simp only [eY,Iy,cD];exact u6 (mxL h1) (u7 h2)
end
abbrev IT:S:=match lf.body with
 | .cons _ (.cons _ (.cons _ (.cons _ (.cons d _))))=>d
 |_=> .cont
abbrev oy:↑Str:=[lb,jw,rX,ci,de]
abbrev Gr:↑Str:=[dH,ey,iG,iH,fP]
abbrev jR (x:D) (c:fV) (k:Str):↑V:=[.d x,dT c, .d (.str k)]
variable {qd:↑Str}
section
variable {c:fV} {k:Str}
abbrev jH (k:Str) (ps:↑D) (e:Nat):Prop:=∀(c:fV) (ai:↑Str),lK c.ty→c.sg.length≤1000→ai.length+sz (.J (.str k::ps))≤100000→
 u3 (8+e) (ai.length+e) λfs be=>∀n,3*ht (.J (.str k::ps))+19≤n→
  call code n .e7 [.d (.J (.str k::ps)),dX c] (bR ai)= .ok (cY fs,bR be)∧∀w,bg (call code n) w u2 (jR (.J (.str k::ps)) c k) (bp c ai)=cK fs (jR (.J (.str k::ps)) c k) (bp c be)
abbrev sq:Ss→Ss→Ss
 | .nil,q=>q
 | .cons s p,q=> .cons s (sq p q)
theorem PQ {t:Fl×↑V×St} {f g:↑V→St→RS}:(wt t f).bind (λt=>wt t g)=wt t λρ σ=>(f ρ σ).bind λt=>wt t g:=by
 obtain ⟨fl,ρ,σ⟩:=t
 induction fl using Fl.casesOn<;>rfl
theorem Cd {q p:Ss}:∀{ρ:↑V} {σ:St},bg K w (sq p q) ρ σ=(bg K w p ρ σ).bind λt=>wt t (bg K w q):=
 Ss.rec (motive_1:=λO=>True) (motive_2:=λp=>∀{ρ:↑V} {σ:St},bg K w (sq p q) ρ σ=(bg K w p ρ σ).bind λt=>wt t (bg K w q))
  (λO O=>trivial) (λO O=>trivial) (λO O O=>trivial) (λO O=>trivial) (λO O O O O=>trivial) (λO O O O=>trivial) (λO O O=>trivial) (λO=>trivial) (λO=>trivial) trivial (λO O=>trivial) (λO O=>trivial) (λO=>trivial) (λO=>trivial) (λO O=>trivial) H
  (λs p _ ih {ρ σ}=>by
   show(ex K w s ρ σ).bind (λt=>wt t (bg K w (sq p q)))=((ex K w s ρ σ).bind λt=>wt t (bg K w p)).bind _
   rw [R.bind_assoc];refine ae (show bg K w (sq p q)=λρ σ=>(bg K w p ρ σ).bind λt=>wt t (bg K w q)from funext λρ=>funext λσ=>ih) ?_
   exact aC _ (funext λt=>PQ.symm)) p
theorem IU (h:bg K w u2 (jR x c k) (bp c ai)=cK fs (jR x c k) (bp c be)) (h2:fs=[]→ex K w IT (jR x c k) (bp c be)=cK gs (jR x c k) (bp c qd)):
  bg K w (mm 1 lf.body) (jR x c k) (bp c ai)=cK (fs++gs) (jR x c k) (bp c qd):=by
 refine (Cd (p:=u2) (q:= .cons IT .nil)).trans ?_
 refine (aC (λr=>R.bind r _) h).trans ?_
 induction fs using bu with
 |nil=>exact ba (h2 H)
 |cons f r=>rfl
theorem pq (h:bg (call code n) n u2 (jR (.J (.str k::ps)) c k) (bp c ai)=cK fs (jR (.J (.str k::ps)) c k) (bp c be)) (h2:fs=[]→ex (call code n) n IT (jR (.J (.str k::ps)) c k) (bp c be)=cK gs (jR (.J (.str k::ps)) c k) (bp c qd)):
  call code (n+1) .gG [.d (.J (.str k::ps)),dT c] (bp c ai)=eM (fs++gs) (bp c qd):=
 B' H (af (aJ (aI H rfl)) (IU h h2))
theorem LA (h3:Gr.contains k=false) (hl:oy.contains k=false) {v:D} (hc:∀σ,call code n .jJ [.d x] σ= .ok (.d v,σ)) (ha:call code n .fM [.d v,dT c] (bp c ai)=eM fs (bp c be)):
  ex (call code n) w IT (jR x c k) (bp c ai)=cK fs (jR x c k) (bp c be):=
 bi (ak (aa H) ab (fv (bQ (eD h3 H)))) (ba (bi (ak (aa H) ab (fv (bQ (eD h3 H)))) (ba (bi (ak (aa H) ab (fv (bQ (eD h3 H)))) (ba (bi (ak (aa H) ab (fv (bQ (eD h3 H)))) (ba (bi (ak (aa H) ab (fv (bQ (eD h3 H))))
  (ba (bi (ak (aa H) (aV (ac ab (ac ab fC)) H) ((in_5 _ _ _ _ _ _).trans (aC _ hl))) (ba (dq (an (ac (an (ei H) (hc _)) (ac (bw H) aq)) ha)))))))))))))
theorem LB (h3:Gr.contains k=false) (hl:oy.contains k=true) {v:D} (hs:ex (call code n) w (.aU (.au .eq ↑2 ⇑de) {.dC (.call .jK {↑0})} .nil) (jR x c k) (bp c ai)=cK gs (jR x c k) (bp c ai))
  (hc:∀σ,call code n .jJ [.d x] σ= .ok (.d v,σ)) (ha:call code n .fW [.d v,dT c, .d (.str jx)] (bp c ai)=eM fs (bp c be)):
  ex (call code n) w IT (jR x c k) (bp c ai)=cK (gs++fs) (jR x c k) (bp c be):=
 bi (ak (aa H) ab (fv (bQ (eD h3 H)))) (ba (bi (ak (aa H) ab (fv (bQ (eD h3 H)))) (ba (bi (ak (aa H) ab (fv (bQ (eD h3 H)))) (ba (bi (ak (aa H) ab (fv (bQ (eD h3 H)))) (ba (bi (ak (aa H) ab (fv (bQ (eD h3 H))))
  (ba (aA (ak (aa H) (aV (ac ab (ac ab fC)) H) ((in_5 _ _ _ _ _ _).trans (aC _ hl))) (dR hs λO=>ba (dq (an (ac (an (ei H) (hc _)) (ac (bw H) f9)) ha)))))))))))))
theorem Gs (h3:Gr.contains k=false) (hl:oy.contains k=false) (hh:call code n .e7 [.d (.J (.str k::ps)),dX c] (bR ai)= .ok (cY fs,bR be)) (hn:∀σ,call code n .ca [.d (.J ps)] σ= .ok (.d (.aD l),σ))
  (ha:call code n .d7 [.d (.aD l),dX c] (bR be)= .ok (cY gs,bR qd)) (hz:(D.str k::ps).length≤aT) (hb:fs.length+gs.length≤aT):call code (n+1) .m2 [.d (.J (.str k::ps)),dX c] (bR ai)= .ok (cY (fs++gs),bR qd):=by
 have IV:∀{σ:St},jj σ .add (cY fs) (cY gs)= .ok (cY (fs++gs),σ):=λ{σ}=>by
  show((if(fs.map D.str).length+(gs.map D.str).length≤aT then R.ok (D.aD (fs.map D.str++gs.map D.str))else R.aQ).bind _)=_
  refine ae (ao (by simpa using hb)) (dg fK ?_);rfl
 exact dp (rs:=[0]) H rfl (by simp) H (af (aJ (aI H rfl)) (aK (ak (aa H) ab (fv (bQ (eD h3 H)))) (aK (ak (aa H) ab (fv (bQ (eD h3 H)))) (aK (ak (aa H) ab (fv (bQ (eD h3 H)))) (aK (ak (aa H) ab (fv (bQ (eD h3 H)))) (aK (ak (aa H) ab (fv (bQ (eD h3 H))))
  (af (aJ (an (ac (aa H) (ac (bw H) aq)) hh)) (aK (ak (aa H) (aV (ac ab (ac ab fC)) H) ((in_5 _ _ _ _ _ _).trans (aC _ hl))) (bq (cG (aa H) (an (ac (an (ac (lA (aa H) (oi ab) iI iI (uv hz)) aq) (hn _)) (ac (bw H) aq)) ha) IV)))))))))) H rfl
theorem Gu (h3:Gr.contains k=false) (hl:oy.contains k=true) (hh:call code n .e7 [.d (.J (.str k::ps)),dX c] (bR ai)= .ok (cY fs,bR be)) (hn:∀σ,call code n .ca [.d (.J ps)] σ= .ok (.d (.aD l),σ)) (ho:call code n .ji [dX c, .d (.str Ii)] (bR be)= .ok (dX (im c true),bR be))
  (ha:call code n .d7 [.d (.aD l),dX (im c true)] (bR be)= .ok (cY gs,bR qd)) (hz:(D.str k::ps).length≤aT) (hb:fs.length+gs.length≤aT):call code (n+1) .m2 [.d (.J (.str k::ps)),dX c] (bR ai)= .ok (cY (fs++gs),bR qd):=by
 have IV:∀{σ:St},jj σ .add (cY fs) (cY gs)= .ok (cY (fs++gs),σ):=λ{σ}=>by
  show((if(fs.map D.str).length+(gs.map D.str).length≤aT then R.ok (D.aD (fs.map D.str++gs.map D.str))else R.aQ).bind _)=_
  refine ae (ao (by simpa using hb)) (dg fK ?_);rfl
 exact dp (rs:=[0]) H rfl (by simp) H (af (aJ (aI H rfl)) (aK (ak (aa H) ab (fv (bQ (eD h3 H)))) (aK (ak (aa H) ab (fv (bQ (eD h3 H)))) (aK (ak (aa H) ab (fv (bQ (eD h3 H)))) (aK (ak (aa H) ab (fv (bQ (eD h3 H)))) (aK (ak (aa H) ab (fv (bQ (eD h3 H))))
  (af (aJ (an (ac (aa H) (ac (bw H) aq)) hh)) (af (aA (ak (aa H) (aV (ac ab (ac ab fC)) H) ((in_5 _ _ _ _ _ _).trans (aC _ hl))) (af (aJ (an (ac (bw H) f9) ho)) ay)) (bq (cG (aa H) (an (ac (an (ac (lA (aa H) (oi ab) iI iI (uv hz)) aq) (hn _)) (ac (bw H) aq)) ha) IV)))))))))) H rfl
end
theorem fT {k:Str} {e:Nat} (h3:Gr.contains k=false) (hl:oy.contains k=false) (hr:iL k ps rs) (hk:ph rs ps ks) (hd:pg ps=true) (hN:mS ks) (ho:jH k ps e) (he:b9 ks+e≤b9 ps):Pw (.J (.str k::ps)):=by
 intro c ai kS hg hb
 have dy:2000000<aT:=by decide
 have Gv:=hk.je
 have eh:=pp ps
 rw [Gv]at eh
 have hs:sz (.J (.str k::ps))=2+b9 ps:=by simp [sz,b9];simp+arith only
 have hh:ht (.J (.str k::ps))=1+cD ps:=by simp [ht,cD]
 obtain ⟨fs1,k1,a1,a2,a3⟩:=ho c ai kS (av hg) hb
 rw [hs]at hb
 rw [hh]at hg
 obtain ⟨fs2,k2,b1,b2,b3⟩:=lM (c:=c) (l:=ks) (ai:=k1) kS hN (aS hg eh) (fY a2 he hb)
 refine ⟨fs1++fs2,k2,by refine ae hs (ae cg ?_);exact fY a1 b1 (ml 8 he),by refine ae hs ?_;exact fY b2 a2 he,λn hn=>?_⟩
 obtain ⟨n,rfl⟩:∃m,n=m+5:=ge hn rfl
 rw [hh]at hn
 obtain ⟨a4,a5⟩:=a3 (n+4) (by refine ae hh ?_;exact av hn)
 obtain ⟨b4,b5⟩:=b3 (n+4) (aS (ml 3 eh) hn)
 have cb:=jG ps
 have kZ:∀σ,call code (n+4) .ca [.d (.J ps)] σ= .ok (.d (.aD ks),σ):=λσ=>by
  have:=iK (n+4) (.J ps) σ (by simp only [ht];exact av hn) (by simp only [sz];exact aS hb dy)
  rwa [mP hd,Gv]at this
 exact ⟨Gs h3 hl a4 kZ b4 (by simp;exact fY cb hb dy) (GO a1 b1 (ml 8 he) (ml 8 hb) dy),pq (a5 _) λO=>LA h3 hl (λσ=>tX hr hk (aS hb dy)) (b5 (.aD ks) H)⟩
abbrev IW (k:Str) (ps:↑D):Prop:=g9 λ(fs gs:↑Str)=>fs.length+gs.length≤8∧∀(c:fV) (ai:↑Str) (n:Nat),3*ht (.J (.str k::ps))+19≤n→
  call code n .e7 [.d (.J (.str k::ps)),dX c] (bR ai)= .ok (cY (fs++gs),bR ai)∧∀w,bg (call code n) w u2 (jR (.J (.str k::ps)) c k) (bp c ai)=cK fs (jR (.J (.str k::ps)) c k) (bp c ai)∧
   ex (call code n) w (.aU (.au .eq ↑2 ⇑de) {.dC (.call .jK {↑0})} .nil) (jR (.J (.str k::ps)) c k) (bp c ai)=cK gs (jR (.J (.str k::ps)) c k) (bp c ai)
theorem mU {k:Str} (h3:Gr.contains k=false) (hl:oy.contains k=true) (hr:iL k ps rs) (hk:ph rs ps ks) (hd:pg ps=true) (hN:mS ks) (ho:IW k ps):Pw (.J (.str k::ps)):=by
 intro c ai kS hg hb
 have dy:2000000<aT:=by decide
 have Gv:=hk.je
 have eh:=pp ps
 rw [Gv]at eh
 have ez:=lC ps
 rw [Gv]at ez
 have hs:sz (.J (.str k::ps))=2+b9 ps:=by simp [sz,b9];simp+arith only
 have hh:ht (.J (.str k::ps))=1+cD ps:=by simp [ht,cD]
 obtain ⟨fs1,gs1,a1,a3⟩:=ho
 rw [hs]at hb
 rw [hh]at hg
 have hol:(im c true).sg.length=c.sg.length+1:=by simp [im]
 obtain ⟨fs2,k2,b1,b2,b3⟩:=lM (c:=im c true) (l:=ks) (ai:=ai) kS hN (fY (eL hol) eh hg) (aS hb ez)
 refine ⟨fs1++gs1++fs2,k2,by refine ae hs (ae cg (ae cg ?_));exact fY a1 b1 (ml 8 ez),by refine ae hs ?_;exact aS b2 ez,λn hn=>?_⟩
 obtain ⟨n,rfl⟩:∃m,n=m+5:=ge hn rfl
 rw [hh]at hn
 obtain ⟨a4,a5⟩:=a3 c ai (n+4) (by refine ae hh ?_;exact av hn)
 obtain ⟨b4,_⟩:=b3 (n+4) (aS (ml 3 eh) hn)
 obtain ⟨_,b5⟩:=b3 (n+3) (aS (ml 3 eh) hn)
 have cb:=jG ps
 have kZ:∀σ,call code (n+4) .ca [.d (.J ps)] σ= .ok (.d (.aD ks),σ):=λσ=>by
  have:=iK (n+4) (.J ps) σ (by simp only [ht];exact av hn) (by simp only [sz];exact aS hb dy)
  rwa [mP hd,Gv]at this
 have o1:call code (n+4) .ji [dX c, .d (.str Ii)] (bR ai)= .ok (dX (im c true),bR ai):=Et (b:=true) (aS hg dy)
 have o2:call code (n+4) .fW [.d (.aD ks),dT c, .d (.str jx)] (bp c ai)=eM fs2 (bp c k2):=Eu (b:=true) (av hg) (b5 (.aD ks) H)
 have o3:∀σ,call code (n+4) .jJ [.d (.J (.str k::ps))] σ= .ok (.d (.aD ks),σ):=λσ=>tX hr hk (aS hb dy)
 refine ⟨Gu h3 hl a4 kZ o1 b4 (by simp;exact fY cb hb dy) (by simp only [cg];exact GO a1 b1 (ml 8 ez) (ml 8 hb) dy),?_⟩
 rw [aX]
 exact pq (a5 _).1 λO=>LB h3 hl (a5 _).2 o3 o2
abbrev LC:↑Str:=gK::sp1
theorem pt {c:fV} {k:Str} (hj:([cL,bS,b8,f7,dk,ee,bV,eC]:↑Str).contains k=false) (hm:mk4.contains k=false) (h:∀σ,call code (n+1) .fe [.d (.J (.str k::ps))] σ=eM fs σ):
  bg (call code (n+1)) w u2 (jR (.J (.str k::ps)) c k) (bp c ai)=cK fs (jR (.J (.str k::ps)) c k) (bp c ai):=by
 have:=Gg (n:=n+1) (w:=w) (c:=c) (ai:=ai) (be:=ai) (k:=k) (fs3:=[]) (fs2:=[]) h (λσ=>t4 hm) (zB hj)
 simpa [jR]using this
theorem uz {c:fV} {k:Str} (hj:([cL,bS,b8,f7,dk,ee,bV,eC]:↑Str).contains k=false) (ht:WI.contains k=false) (h:∀σ,call code (n+1) .iB [.d (.J (.str k::ps))] σ=eM fs σ):
  bg (call code (n+1)) w u2 (jR (.J (.str k::ps)) c k) (bp c ai)=cK fs (jR (.J (.str k::ps)) c k) (bp c ai):=by
 have:=Gg (n:=n+1) (w:=w) (c:=c) (ai:=ai) (be:=ai) (k:=k) (fs3:=[]) (fs1:=[]) (λσ=>na ht) h (zB hj)
 simpa [jR]using this
theorem oM {c:fV} {k:Str} (hm:mk4.contains k=false) (ht:WI.contains k=false) (h:ex (call code (n+1)) w B8 (jR (.J (.str k::ps)) c k) (bp c ai)=cK fs (jR (.J (.str k::ps)) c k) (bp c be)):
  bg (call code (n+1)) w u2 (jR (.J (.str k::ps)) c k) (bp c ai)=cK fs (jR (.J (.str k::ps)) c k) (bp c be):=by
 have:=Gg (n:=n+1) (w:=w) (c:=c) (ai:=ai) (be:=be) (k:=k) (fs2:=[]) (fs1:=[]) (λσ=>na ht) (λσ=>t4 hm) h
 simpa [jR]using this
theorem lE {c:fV} {k:Str} (h:LC.contains k=false):bg (call code (n+1)) w u2 (jR (.J (.str k::ps)) c k) (bp c ai)=cK [] (jR (.J (.str k::ps)) c k) (bp c ai):=
 pt (fs:=[]) (lg h H) (lg h H) λO=>na (lg h H)
theorem Ce {P:Nat→Prop} {b:Nat} (h:∀n,P (n+m)) (hm:m≤b):∀n,b≤n→P n:=λn hn=>by
 obtain ⟨k,rfl⟩:∃k,n=k+m:=⟨n -m,(wb (aM hm hn)).symm⟩
 exact h k
theorem uA {k:Str} (hm:t∈ps) (h:3*ht (.J (.str k::ps))+19≤n):ht t+20≤n:=by
 have h1:ht t≤cD (.str k::ps):=ku (bY _ hm)
 change 3*(1+cD (.str k::ps))+19≤n at h
 exact aS h1 h
theorem AA {k:Str} {a:Nat} (hm:t∈ps) (h:a+sz (.J (.str k::ps))≤100000):sz t≤100000:=by
 have h1:sz t≤b9 (.str k::ps):=tU (bY _ hm)
 change a+(1+b9 (.str k::ps))≤100000 at h
 exact aS h1 h
theorem mV {k:Str} (h:LC.contains k=false):jH k ps 0:=λc ai O O O=>⟨[],ai,by simp,by simp+arith only,Ce (m:=2) (λn=>⟨n5 (lg h H),λw=>lE h⟩) (by simp+arith only)⟩
theorem Cf {f m a:D}:jH gK [f,m,a] 0:=λc ai O O O=>⟨[],ai,by simp,by simp+arith only,λn hn=>by
 obtain ⟨k,rfl⟩:∃k,n=k+2:=ge hn rfl
 refine ⟨n5 ⋯,λw=>uz ⋯ ⋯ λσ=>El (k:=gK) (s:=false) (.inr H) (λO=> .IH ∅ ∅ ∅ ∅) (λO=>rfl) (av hn)⟩⟩
theorem uB {f a:D} {s:Bool} (h:aL a=true→qA (.J [.str cU,f,a]) s) (h0:aL a=false→s=false):jH cU [f,a] 0:=λc ai O O O=>⟨nN s,ai,by have:=nP s cq;unfold nN;exact av this,by simp+arith only,λn hn=>by
 obtain ⟨k,rfl⟩:∃k,n=k+2:=ge hn rfl
 exact ⟨T3 h h0 (av hn),λw=>uz ⋯ ⋯ λσ=>T0 h h0 (av hn)⟩⟩
theorem sr {f m a:D} {s:Bool} (h:aL a=true→qA (.J (.str cy::f::m::a::ps)) s) (h0:aL a=false→s=false):jH cy (f::m::a::ps) 0:=λc ai O O O=>⟨nN s,ai,by have:=nP s cq;unfold nN;exact av this,by simp+arith only,λn hn=>by
 obtain ⟨k,rfl⟩:∃k,n=k+2:=ge hn rfl
 exact ⟨PF h h0 (av hn),λw=>uz ⋯ ⋯ λσ=>El (.inl H) h h0 (av hn)⟩⟩
theorem IX {f a:D}:jH jv [f,a] 0:=λc ai O O O=>⟨Gf (aL a),ai,by have:=nP (aL a) da;unfold Gf;exact av this,by simp+arith only,Ce (m:=2) (λn=>⟨WM,λw=>uz ⋯ ⋯ λσ=>WJ⟩) (by simp+arith only)⟩
theorem zE {r:D} {p:Bool} (lQ:my t) (hg:xC t b) (hr:Gd r p):jH cQ [t,r] 0:=λc ai O O hk=>⟨qZ (bJ t) (b&&!p),ai,by have:=nP (bJ t) am;have:=nP (b&&!p) aH;unfold qZ;refine ae cg ?_;lia,by simp+arith only,λn hn=>by
 have h1:=uA (t:=t) (.head _) hn
 have h2:=aM (AA (t:=t) (.head _) hk) (by decide:100000≤aT)
 clear hn hk
 obtain ⟨k,rfl⟩:∃k,n=k+2:=ge h1 rfl
 exact ⟨Lq lQ hg hr (av h1) (av h2),λw=>pt ⋯ ⋯ λσ=>Ln lQ hg hr (av h1)⟩⟩
theorem Cg {r:D} (lQ:my t):jH dB [t,r] 0:=λc ai O O hk=>⟨fh (bJ t) am,ai,by have:=nP (bJ t) am;exact av this,by simp+arith only,λn hn=>by
 have h1:=uA (t:=t) (.head _) hn
 have h2:=aM (AA (t:=t) (.head _) hk) (by decide:100000≤aT)
 clear hn hk
 obtain ⟨k,rfl⟩:∃k,n=k+2:=ge h1 rfl
 exact ⟨Gj (.inl ⟨H,H⟩) H (by simp) lQ (av h1) (av h2),λw=>pt ⋯ ⋯ λσ=>Do lQ (av h1)⟩⟩
theorem Ds {o r:D} (lQ:my t):jH d9 [o,t,r] 0:=λc ai O O hk=>⟨fh (bJ t) am,ai,by have:=nP (bJ t) am;exact av this,by simp+arith only,λn hn=>by
 have h1:=uA (t:=t) (.tail _ (.head _)) hn
 have h2:=aM (AA (t:=t) (.tail _ (.head _)) hk) (by decide:100000≤aT)
 clear hn hk
 obtain ⟨k,rfl⟩:∃k,n=k+2:=ge h1 rfl
 exact ⟨Gj (.inr (.inl ⟨H,H⟩)) H (by simp) lQ (av h1) (av h2),λw=>pt ⋯ ⋯ λσ=>Ge lQ (av h1)⟩⟩
theorem IY {o p:D} (lQ:my t):jH fS [o,p,t] 0:=λc ai O O hk=>⟨fh (bJ t) am,ai,by have:=nP (bJ t) am;exact av this,by simp+arith only,λn hn=>by
 have h1:=uA (t:=t) (.tail _ (.tail _ (.head _))) hn
 have h2:=aM (AA (t:=t) (.tail _ (.tail _ (.head _))) hk) (by decide:100000≤aT)
 clear hn hk
 obtain ⟨k,rfl⟩:∃k,n=k+2:=ge h1 rfl
 exact ⟨Gj (.inr (.inr ⟨H,H⟩)) H (by simp) lQ (av h1) (av h2),λw=>pt ⋯ ⋯ λσ=>Lo lQ (av h1)⟩⟩
theorem uC {k:Str} (hw:k=cL∨k=bS) (hm:aO=1∨aO=2∨aO=3∨aO=4):jH k [.int (aO:Int)] 0:=λc ai O Pz O=>⟨qz k aO c.sg,ai,by unfold qz;(repeat' split)<;>simp,by simp+arith only,λn hn=>by
 obtain ⟨j,rfl⟩:∃j,n=j+2:=ge hn rfl
 have hb:100000≤aT:=by decide
 exact ⟨T4 hw hm (aS Pz hb),λw=>oM (by rcases hw with rfl|rfl<;>decide+kernel) (by rcases hw with rfl|rfl<;>decide+kernel) (Lp hw hm)⟩⟩
theorem Uh {v:D}:jH b8 [v] 0:=λc ai kS O O=>⟨uZ c v,ai,by unfold uZ;(repeat' split)<;>simp,by simp+arith only,Ce (m:=2) (λn=>⟨WN kS,λw=>oM ⋯ ⋯ (PC kS)⟩) (by simp+arith only)⟩
theorem LD {k:Str} (hw:k=f7∨k=dk):jH k ps 0:=λc ai O O O=>⟨uy c,ai,by have:=nP c.top dc;unfold uy;exact av this,by simp+arith only,Ce (m:=2) (λn=>⟨PH hw,λw=>oM (by rcases hw with rfl|rfl<;>decide+kernel) (by rcases hw with rfl|rfl<;>decide+kernel) (IJ hw)⟩) (by simp+arith only)⟩
theorem IZ {names:↑Str}:jH ee [.J (names.map .str)] 0:=λc ai O O O=>⟨yN names,ai,by unfold yN;split<;>simp,by simp+arith only,Ce (m:=2) (λn=>⟨yQ (.inl H) Dj,λw=>oM ⋯ ⋯ (t5 (.inl H) z6)⟩) (by simp+arith only)⟩
theorem LF (h:u0 l b):jH eC [.J l] 0:=λc ai O O O=>⟨ux b,ai,by unfold ux;split<;>simp,by simp+arith only,Ce (m:=2) (λn=>⟨yQ (.inr (.inr H)) (Gc h),λw=>oM ⋯ ⋯ (t5 (.inr (.inr H)) (B5 h))⟩) (by simp+arith only)⟩
theorem I0 {xs:↑Str} (h:t3 l xs) (hl:∀x∈xs,x.length≤1000):jH bV l l.length:=λc ai O O hk=>⟨ky xs ai,ai++xs,by have:=Lm xs ai;refine ae h.len ?_;exact av this,by refine ae cg (ae h.len ?_);simp+arith only,λn hn=>by
 obtain ⟨j,rfl⟩:∃j,n=j+2:=ge hn rfl
 have hb:200000<aT:=by decide
 have h1:=jG l
 simp only [sz,b9]at hk
 exact ⟨yQ (.inr (.inl H)) (Dk h hl (fY hk h1 hb)),λw=>oM ⋯ ⋯ (t5 (.inr (.inl H)) (z7 h hl (fY hk h1 hb)))⟩⟩
theorem Ew {c:fV} {k:Str} (hk:k≠de):ex (call code n) w (.aU (.au .eq ↑2 ⇑de) {.dC (.call .jK {↑0})} .nil) (jR x c k) (bp c ai)=cK [] (jR x c k) (bp c ai):=
 bi (ak (aa H) ab (fv (bQ hk))) ay
theorem qe {k:Str} (h:LC.contains k=false):IW k ps:=⟨[],[],by simp,λc ai=>Ce (m:=2) (λn=>⟨n5 (lg h H),λw=>⟨lE h,Ew (eD h H)⟩⟩) (by simp+arith only)⟩
theorem u4 {e u:D} (lQ:my t) (hu:my u) (hs:sz t≤100000) (vH:sz u≤100000):IW ci (e::t::u::ps):=⟨fh (bJ t||bJ u) am,[],by have:=nP (bJ t||bJ u) am;simp only [lW];exact av this,λc ai n hn=>by
 have h1:=uA (t:=t) (.tail _ (.head _)) hn
 have h2:=uA (t:=u) (.tail _ (.tail _ (.head _))) hn
 clear hn
 have hb:100000≤aT:=by decide
 obtain ⟨j,rfl⟩:∃j,n=j+2:=ge h2 rfl
 refine ⟨?_,λw=>⟨pt ⋯ ⋯ λσ=>II lQ hu (av h1) (av h2),Ew ⋯⟩⟩
 rw [b6]
 exact IL lQ hu (av h1) (av h2) (aS hs hb) (aS vH hb)⟩
inductive lh:↑D→Nat→Prop
 |nil:lh [] 0
 |jk {b:D} {l:↑D} {n:Nat}:lh l n→lh (.J [.none,b]::l) (n+1)
 |case {t b:D} {l:↑D} {n:Nat}:t≠ .none→lh l n→lh (.J [t,b]::l) n
abbrev abB (x:D):Bool:=D.casesOn (motive_1:=λO=>Bool) x false (λO=>false) (λO=>false) (λO=>false) (λl=>List.casesOn l false λt O=>aL t) (λO=>false)
abbrev Yq (x:D):↑D:=if abB x then[.none]else[]
theorem Ui (h:lh l m):l.flatMap Yq=List.replicate m .none∧m≤l.length∧∀x∈l,g9 λt b=>x= .J [t,b]:=by
 induction h with
 |nil=>exact ⟨rfl,cF _,λO h=>(fX h).elim⟩
 |jk _ ih=>exact ⟨by refine ae List.flatMap_cons (ae ih.1 (ae List.replicate_succ ?_));rfl,we ih.2.1,λx hx=>(cM.mp hx).elim (λe=>⟨_,_,e⟩) (ih.2.2 x)⟩
 |@case t b l m ht _ ih=>
  have hn:aL t=false:=by induction t using D.casesOn<;>first|rfl|exact al H ht
  refine ⟨?_,wc ih.2.1,λx hx=>(cM.mp hx).elim (λe=>⟨_,_,e⟩) (ih.2.2 x)⟩
  refine ae List.flatMap_cons (ae ih.1 ?_)
  show(if aL t then _ else _)++_=_
  refine ae hn ?_;rfl
theorem LG (h:lh l m) (hl:l.length≤1000) (h0:ρ[0]?=some (.d (.J (.str de::x::[.J l])))):
  ev K (.au .gt (.b1 .len (.comp [] 2 (.aO [0,1]) (.seq (.aw ↑0 ↥2)) (.some (.au .kW ↑0 (.az .none))) ↑0)) ↥1) ρ σ= .ok (.d (.bool (decide (1<m))),σ):=by
 obtain ⟨g1,g2,g3⟩:=Ui h
 have hm:m≤1000:=aM g2 hl
 refine ak (fB (uw (fH (aR (aa h0) ab H) H) Yq (by refine ae g1 (ae v9 ?_);exact aM hm ∅) (λx hx=>?_) g1) (v:= .d (.aD (List.replicate m .none))) (r:= .ok (.d (.int (m:Int)),σ)) ?_) ab ?_
 ·obtain ⟨t,b,rfl⟩:=g3 x hx
  refine ⟨[.d t, .d b],rfl,aL t,Yl (ak (aa H) ab (gz H)),?_⟩
  show aL t=false∧(if aL t then _ else _)=_∨aL t=true∧∃y,_∧(if aL t then _ else _)=_
  generalize hn:aL t=o0;induction o0 using ar with
  |true=>exact .inr ⟨rfl,_,aa H,by induction t using D.casesOn<;>first|rfl|cases hn⟩
  |false=>exact .inl ⟨rfl,rfl⟩
 ·exact (p8 H (by rw [v9];exact li hm ∅)).trans (by rw [v9])
 ·show R.ok (decide _)=_
  congr 1
  exact decide_eq_decide.mpr (by lia)
theorem xL (h:lh l m) (hl:l.length≤1000):IW de [x, .J l]:=⟨[],fh (decide (1<m)) db,by have:=nP (decide (1<m)) db;simp only [lW];exact av this,λc ai n hn=>by
 obtain ⟨j,rfl⟩:∃j,n=j+2:=ge hn rfl
 have key:=λ{K:fF} {ρ:↑V} {σ:St} h0=>LG (K:=K) (ρ:=ρ) (σ:=σ) (x:=x) h hl h0
 generalize decide (1<m)=b at key⊢
 refine ⟨?_,λw=>⟨pt ⋯ ⋯ λσ=>na ⋯,aA (bF H rfl) (ba (dq (an (ei H) (xH H rfl (ba (zC (key H) λO=>ab))))))⟩⟩
 refine gS (rest:=[]) (ρ1:=mR (.J [.str de,x, .J l]) c de) (uM ⋯ (uN H (xE ⋯ (Gh H (Gi H (IK ⋯ (PE H (T1 H ?_))))))))
 ·induction b using ar with
  |true=>exact bB (aA (aY (bF H rfl) (bW (key H))) (bq (dn f9 H)))
  |false=>exact aK (aY (bF H rfl) (bW (key H))) (bq (dn aq H))⟩
structure yV (nm:Str) (ps:↑PD) (ty body:D):Prop where
 nm:sj nm
 ty:z8 ty
 len:ps.length≤1000
 ps:∀p∈ps,t6 p
 body:mo body
section
variable {ps:↑PD}
theorem Ch (hb:fs.length+gs.length≤aT):jj σ .add (cY fs) (cY gs)= .ok (cY (fs++gs),σ):=by
 show((if(fs.map D.str).length+(gs.map D.str).length≤aT then R.ok (D.aD (fs.map D.str++gs.map D.str))else R.aQ).bind _)=_
 refine ae (ao (by simpa using hb)) (dg fK ?_);rfl
theorem Ex (us:↑(Str×Bool)):sz (eH us)=1+3*us.length:=by
 unfold eH
 simp only [sz]
 congr 1
 induction us with
 |nil=>rfl
 |cons u us ih=>simp only [ef,b9,sz,ih,gO];simp+arith only
theorem qC (h:yV nm ps ty body) {us:↑(Str×Bool)} (hu:∀u∈us,u.1.length≤1000) (z9:us.length≤1000):Pw (.J [.str dH,eE nm ps ty body g,eH us,x]):=by
 intro c ai kS hg hb
 have dy:2000000<aT:=by decide
 have VU:=Ex us
 have hx:=sb x
 have p1:=ku (l:=[.str dH,eE nm ps ty body g,eH us,x]) (x:=eE nm ps ty body g) (.tail _ (.head _))
 change c.sg.length+(1+cD [.str dH,eE nm ps ty body g,eH us,x])≤1000 at hg
 change ai.length+(1+(1+(sz (eE nm ps ty body g)+(sz (eH us)+(sz x+0)))))≤100000 at hb
 obtain ⟨fs,a1,a2⟩:=xK (g:=g) (isM:=false) (cZ:=false) (us:=us) h.nm h.ty h.ps h.body hu z9 h.len (aS p1 hg) (av hb)
 have ul:=Ly (us.map (·.1)) []
 rw [fb]at ul
 refine ⟨n6 [] (us.map (·.1))++fs,ai,by refine ae cg ?_;show _≤8*(1+(1+(sz (eE nm ps ty body g)+(sz (eH us)+(sz x+0)))));exact fY ul a1 (eG VU),mY _ _,λn hn=>?_⟩
 change 3*(1+cD [.str dH,eE nm ps ty body g,eH us,x])+20≤n at hn
 have a3:=a2 (n -1) (Nat.le_sub_one_of_lt (GP (d:=20) (c:=19) (aM p1 (jp _ 1)) hn H))
 obtain ⟨n,rfl⟩:∃m,n=m+3:=ge hn rfl
 constructor
 ·exact dp (rs:=[0]) H rfl (by simp) H (af (aJ (aI H rfl)) (bB (aA (bF H rfl) (bq (cG (an (gR H rfl) (IS hu z9)) (an (ac (aI H rfl) (ac (aI H rfl) sM)) (a3 _).1) (Ch (GO ul a1 (eG VU) (ml 8 hb) dy))))))) H rfl
 ·exact pq (fs:=[]) (lE ⋯) λO=>aA (bF H rfl) (dR (dq (an (gR H rfl) (Dr hu z9))) λO=>ba (dq (an (ac (aI H rfl) (ac (aI H rfl) sM)) (a3 _).2)))
theorem zF (h:yV nm ps ty body):Pw (.J [.str ey,eE nm ps ty body g,x]):=by
 intro c ai kS hg hb
 have dy:2000000<aT:=by decide
 have hx:=sb x
 have p1:=ku (l:=[.str ey,eE nm ps ty body g,x]) (x:=eE nm ps ty body g) (.tail _ (.head _))
 change c.sg.length+(1+cD [.str ey,eE nm ps ty body g,x])≤1000 at hg
 change ai.length+(1+(1+(sz (eE nm ps ty body g)+(sz x+0))))≤100000 at hb
 obtain ⟨fs,a1,a2⟩:=xK (g:=g) (isM:=false) (cZ:=true) (us:=[]) h.nm h.ty h.ps h.body (by simp) (by simp) h.len (aS p1 hg) (av hb)
 rw [lW,Nat.add_zero]at a1
 refine ⟨fs,ai,aM a1 (ol _ (by show _≤1+(1+(sz (eE nm ps ty body g)+(sz x+0)));simp+arith only)),mY _ _,λn hn=>?_⟩
 have a3:=a2 (n -1) (Nat.le_sub_one_of_lt (GP (d:=20) (c:=19) (aM p1 (jp _ 1)) hn H))
 obtain ⟨n,rfl⟩:∃m,n=m+3:=ge hn rfl
 constructor
 ·exact dp (rs:=[0]) H rfl (by simp) H (af (aJ (aI H rfl)) (aK (bF H rfl) (bB (aA (bF H rfl) (bq (an (ac (aI H rfl) (ac (aV aq H) sM)) (a3 _).1)))))) H rfl
 ·exact pq (fs:=[]) (lE ⋯) λO=>bi (bF H rfl) (ba (aA (bF H rfl) (ba (dq (an (ac (aI H rfl) (ac (aV aq H) sM)) (a3 _).2)))))
theorem Ci (h:yV nm ps ty body):Pw (eE nm ps ty body g):=by
 intro c ai kS hg hb
 have dy:2000000<aT:=by decide
 obtain ⟨fs,a1,a2⟩:=xK (g:=g) (isM:=false) (cZ:=false) (us:=[]) h.nm h.ty h.ps h.body (by simp) (by simp) h.len (av hg) (av hb)
 simp only [lW]at a1
 refine ⟨fs,ai,av a1,by simp+arith only,λn hn=>?_⟩
 obtain ⟨n,rfl⟩:∃m,n=m+3:=ge hn rfl
 have a3:=a2 (n+2) (av hn)
 constructor
 ·exact dp (rs:=[0]) H rfl (by simp) H (af (aJ (aI H rfl)) (aK (bF H rfl) (aK (bF H rfl) (bB (aA (bF H rfl) (bq (an (ac (aa H) (ac (aV aq H) sM)) (a3 _).1))))))) H rfl
 ·exact pq (k:=iG) (fs:=[]) (lE ⋯) λO=>bi (bF H rfl) (ba (bi (bF H rfl) (ba (aA (bF H rfl) (ba (dq (an (ac (aa H) (ac (aV aq H) sM)) (a3 _).2)))))))
end
abbrev iM:D→Bool
 | .str x=>x==bH
 |_=>false
inductive t7:D→Prop
 |none {ns:D} {l:↑D}:(∀x∈l,bh x)→t7 (.J [ns, .none, .J l])
 |name {ns:D} {x:Str} {l:↑D}:(∀x∈l,bh x)→t7 (.J [ns, .str x, .J l])
theorem t7.get (h:t7 x):s6 λns nm l=>qh (x= .J [ns,nm, .J l]) (∀x∈l,bh x) (∀σ,ek σ .eq (.d nm) (.d (.str bH))= .ok (iM nm)):=by
 induction h using t7.casesOn with
 |none h=>exact ⟨_,_,_,rfl,h,λO=>rfl⟩
 |name h=>exact ⟨_,_,_,rfl,h,λO=>rfl⟩
abbrev aaB:Ss:=match xt.body with
 | .cons _ (.cons (.ej _ _ b) _)=>b
 |_=> .nil
abbrev aaC:Ss:=match xq.body with
 | .cons _ (.cons (.ej _ _ b) _)=>b
 |_=> .nil
inductive I1 (n:Nat) (a:D) (c:fV) (ai be fd IQ:↑Str) (l:↑D) (x y z:V):Prop
 |mk (x' y' z':V):cW (λy=>bk (.aO [3,4,5]) (.d y)) (λρ σ=>bg (call code n) n aaB ρ σ) l [.d a,dX c,cY fd,x,y,z] (bR ai)= .ok (.next,[.d a,dX c,cY IQ,x',y',z'],bR be)→I1 n a c ai be fd IQ l x y z
inductive I2 (n:Nat) (a:D) (c:fV) (ai be fs:↑Str) (l:↑D) (x y z:V):Prop
 |mk (x' y' z':V):cW (λy=>bk (.aO [2,3,4]) (.d y)) (λρ σ=>bg (call code n) n aaC ρ σ) l [.d a,dT c,x,y,z] (bp c ai)=cK fs [.d a,dT c,x',y',z'] (bp c be)→I2 n a c ai be fs l x y z
section
variable {a ns nm:D} {c:fV} {fd:↑Str} {m:↑D} {x y z:V}
theorem Uj (LH:∀σ,ek σ .eq (.d nm) (.d (.str bH))= .ok (iM nm)) (kZ:∀{σ:St},call code n .ca [.d (.J m)] σ= .ok (.d (.aD m),σ)) (a4:call code n .d7 [.d (.aD m),dX c] (bR ai)= .ok (cY fs1,bR k1)) (hb:fd.length+(fh (iM nm) am).length+fs1.length≤aT)
  (g:I1 n a c k1 k2 (fd++fh (iM nm) am++fs1) (fd++fh (iM nm) am++fs1++fs2) l (.d ns) (.d nm) (.d (.J m))):I1 n a c ai k2 fd (fd++(fh (iM nm) am++fs1++fs2)) (.J [ns,nm, .J m]::l) x y z:=by
 obtain ⟨x',y',z',g⟩:=g
 have e:ev (call code n) (.ite (.au .eq ↑4 ⇑bH) (.aD false {⇑am}) (.aD false .nil)) [.d a,dX c,cY fd, .d ns, .d nm, .d (.J m)] (bR ai)= .ok (cY (fh (iM nm) am),bR ai):=by
  generalize hb:iM nm=o0;induction o0 using ar with
  |true=>exact ik (ak (aa H) ab ((LH _).trans (by exact ae hb H))) (dn f9 H)
  |false=>exact iJ (ak (aa H) ab ((LH _).trans (by exact ae hb H))) (dn aq H)
 refine ⟨x',y',z',fc (ρ1:=[.d a,dX c,cY fd, .d ns, .d nm, .d (.J m)]) H (af (aJ (cG (cG (aa H) e (Ch (aM (mY _ _) hb))) (an (ac (an (ei H) kZ) (ac (bw H) aq)) a4) (Ch (by refine ae cg ?_;exact hb)))) ay) (.inl H) (g.trans ?_)⟩
 simp only [aX]
theorem Uk (LH:∀σ,ek σ .eq (.d nm) (.d (.str bH))= .ok (iM nm)) (a5:call code n .fM [.d (.J m),dT c] (bp c ai)=eM fs1 (bp c k1)) (g:I2 n a c k1 k2 fs2 l (.d ns) (.d nm) (.d (.J m))):I2 n a c ai k2 (fh (iM nm) am++fs1++fs2) (.J [ns,nm, .J m]::l) x y z:=
 let⟨x',y',z',g⟩:=g
 ⟨x',y',z',oK (ρ0:=[.d a,dT c, .d ns, .d nm, .d (.J m)]) H (dR (zC (ak (aa H) ab (LH _)) λO=>ab) λO=>ba (dq (an (ac (aa H) (ac (bw H) aq)) a5))) λO=>g⟩
end
theorem Cj {m:↑D} (hm:∀x∈m,bh x) (h1:cD m+1+2≤n) (h2:b9 m+1≤aT):call code n .ca [.d (.J m)] σ= .ok (.d (.aD m),σ):=by
 have:=iK n (.J m) σ (by show 1+cD m+2≤n;exact av h1) (by show 1+b9 m≤aT;exact av h2)
 rwa [nc hm]at this
theorem PR {c:fV} {a:D} (kS:lK c.ty) (l:↑D):(∀x∈l,t7 x)→c.sg.length+cD l≤1000→∀(ai fd:↑Str),ai.length+b9 l≤100000→fd.length+8*b9 l≤2000000→
  u3 (8*b9 l) (ai.length+b9 l) λfs be=>∀n,3*cD l+15≤n→4≤n→(∀x y z,I1 n a c ai be fd (fd++fs) l x y z)∧∀x y z,I2 n a c ai be fs l x y z:=by
 induction l with
 |nil=>exact λO O ai fd O O=>⟨[],ai,dK _,cF _,λn O O=>⟨λx y z=>⟨x,y,z,by rw [b6];rfl⟩,λx y z=>⟨x,y,z,H⟩⟩⟩
 |cons x l ih=>
  intro hN hg ai fd hk hf
  have dy:2000000<aT:=by decide
  obtain ⟨ns,nm,m,rfl,hm,LH⟩:=(hN x bZ).get
  have p1:=ku (l:=[ns,nm, .J m]) (x:= .J m) (.tail _ (.tail _ (.head _)))
  change 1+cD m≤_ at p1
  have hg1:=T9 hg
  change c.sg.length+(1+cD [ns,nm, .J m])≤1000 at hg1
  have hg2:=Ua hg
  change ai.length+((1+(sz ns+(sz nm+(1+b9 m+0))))+b9 l)≤100000 at hk
  change fd.length+8*((1+(sz ns+(sz nm+(1+b9 m+0))))+b9 l)≤2000000 at hf
  clear hg
  have t1:=sb ns
  have t2:=sb nm
  obtain ⟨fs1,k1,a1,a2,a3⟩:=lM (c:=c) (l:=m) (ai:=ai) kS (λx hx=>(hm x hx).pw) (aS hg1 p1) (av hk)
  have f1:=nP (iM nm) am
  have hb:fd.length+(fh (iM nm) am).length+fs1.length≤aT:=Me hf f1 a1 dy
  obtain ⟨fs2,k2,b1,b2,b3⟩:=ih (λy hy=>hN y (bY _ hy)) hg2 k1 (fd++fh (iM nm) am++fs1) (aS a2 hk) (by refine ae cg (ae cg ?_);exact fY hf f1 a1)
  refine ⟨fh (iM nm) am++fs1++fs2,k2,by refine ae cg (ae cg ?_);show _≤8*((1+(sz ns+(sz nm+(1+b9 m+0))))+b9 l);exact fY f1 a1 b1,by show _≤ai.length+((1+(sz ns+(sz nm+(1+b9 m+0))))+b9 l);exact aS b2 a2,λn hn hn4=>?_⟩
  have q1:=Gl hn
  change 3*(1+cD [ns,nm, .J m])+15≤n at q1
  have b45:=b3 n (Gm hn) hn4
  clear hn hg1 hg2
  have a45:=a3 n (aS (ml 3 p1) q1)
  exact ⟨λx y z=>Uj LH (Cj hm (aS p1 q1) (aS hf dy)) a45.1 hb (b45.1 _ _ _),λx y z=>Uk LH (a45.2 (.J m) H) (b45.2 _ _ _)⟩
variable {cs:↑D}
theorem PT {c:fV} {cC:D} (hf:mo cC) (kS:lK c.ty) (hg:c.sg.length+ht cC+1≤1000) (hb:k2.length+sz cC≤100000):
  u3 (8*sz cC) (k2.length+sz cC) λfs3 k3=>∀n,3*ht cC+19≤n→call code n .d7 [.d (.aD (cR cC)),dX (im c false)] (bR k2)= .ok (cY fs3,bR k3)∧
   ∀{w:Nat} {ρ:↑V},ρ[0]?=some (.d (.J [.str fP, .J l, .J cs,cC]))→ρ[1]?=some (dT c)→ex (call code n) w (.aU (.au .dw (.aw ↑0 ↥3) (.az .none)) {.dC (.call .fW {.aw ↑0 ↥3,↑1,⇑jy})} .nil) ρ (bp c k2)=cK fs3 ρ (bp c k3):=by
 have hol:(im c false).sg.length=c.sg.length+1:=by simp [im]
 induction hf using mo.casesOn with
 |none=>exact ⟨[],k2,dK _,mY _ _,λn hn=>⟨by obtain ⟨n,rfl⟩:∃k,n=k+1:=ge hn rfl;exact so,λhr O=>bi (ak (aR (aa hr) ab rfl) ab rfl) ay⟩⟩
 |@J m hm=>
  change c.sg.length+(1+cD m)+1≤1000 at hg
  change k2.length+(1+b9 m)≤100000 at hb
  obtain ⟨fs3,k3,c1,c2,c3⟩:=lM (c:=im c false) (l:=m) (ai:=k2) kS (λx hx=>(hm x hx).pw) (aS (eL hol) hg) (av hb)
  refine ⟨fs3,k3,aM c1 (ol _ (jp _ _)),aM c2 (kF (jp _ _) _),λn hn=>?_⟩
  change 3*(1+cD m)+19≤n at hn
  refine ⟨?_,λ{w ρ} h0 h1=>?_⟩
  ·refine ae (nc hm) ?_
   exact (c3 n (av hn)).1
  ·have q:=(c3 (n -1) (Nat.le_sub_one_of_lt (av hn))).2 (.J m) H
   obtain ⟨n,rfl⟩:∃k,n=k+1:=ge hn rfl
   have o2:call code (n+1) .fW [.d (.J m),dT c, .d (.str jy)] (bp c k2)=eM fs3 (bp c k3):=Eu (b:=false) (av hg) q
   exact aA (ak (aR (aa h0) ab H) ab H) (ba (dq (an (ac (aR (aa h0) ab H) (ac (bw h1) f9)) o2)))
variable {k3:↑Str}
section
variable {c:fV} {cC:D}
theorem Ul (kZ:∀{σ:St},call code (n+1) .ca [.d (.J l)] σ= .ok (.d (.aD l),σ)) (yt:∀{σ:St},call code (n+1) .ca [.d cC] σ= .ok (.d (.aD (cR cC)),σ)) (o1:call code (n+1) .ji [dX c, .d (.str xm)] (bR k2)= .ok (dX (im c false),bR k2))
  (a4:call code (n+1) .d7 [.d (.aD l),dX c] (bR ai)= .ok (cY fs1,bR k1)) (g:I1 (n+1) (.J [.str fP, .J l, .J cs,cC]) c k1 k2 fs1 (fs1++fs2) cs .un .un .un) (c4:call code (n+1) .d7 [.d (.aD (cR cC)),dX (im c false)] (bR k2)= .ok (cY fs3,bR k3)) (hb:(fs1++fs2).length+fs3.length≤aT):
  call code (n+3) .m2 [.d (.J [.str fP, .J l, .J cs,cC]),dX c] (bR ai)= .ok (cY (fs1++(fs2++fs3)),bR k3):=by
 obtain ⟨x',y',z',g⟩:=g
 have tr:call code (n+2) .rH [.d (.J [.str fP, .J l, .J cs,cC]),dX c] (bR ai)= .ok (cY (fs1++(fs2++fs3)),bR k3):=by
  rw [←aX]
  exact dp (rs:=[0]) H rfl (by simp) H (af (aJ (an (ac (an (gR H rfl) kZ) (ac (bw H) aq)) a4)) (af (gL nS (fH (aI H rfl) H) g)
   (bq (cG (aa H) (an (ac (an (gR H rfl) yt) (ac (an (ac (bw H) f9) o1) aq)) c4) (Ch hb))))) H rfl
 exact dp (rs:=[0]) H rfl (by simp) H (af (aJ (aI H rfl)) (aK (bF H rfl) (aK (bF H rfl) (aK (bF H rfl) (bB (aA (bF H rfl) (bq (an (ac (aa H) (ac (bw H) aq)) tr)))))))) H rfl
theorem Um (a5:call code (n+1) .fM [.d (.J l),dT c] (bp c ai)=eM fs1 (bp c k1)) (g:I2 (n+1) (.J [.str fP, .J l, .J cs,cC]) c k1 k2 fs2 cs .un .un .un)
  (c5:∀{w:Nat} {ρ:↑V},ρ[0]?=some (.d (.J [.str fP, .J l, .J cs,cC]))→ρ[1]?=some (dT c)→ex (call code (n+1)) w (.aU (.au .dw (.aw ↑0 ↥3) (.az .none)) {.dC (.call .fW {.aw ↑0 ↥3,↑1,⇑jy})} .nil) ρ (bp c k2)=cK fs3 ρ (bp c k3)):
  call code (n+3) .gG [.d (.J [.str fP, .J l, .J cs,cC]),dT c] (bp c ai)=eM (fs1++(fs2++fs3)) (bp c k3):=by
 obtain ⟨x',y',z',g⟩:=g
 have tr:call code (n+2) .rF [.d (.J [.str fP, .J l, .J cs,cC]),dT c] (bp c ai)=eM (fs1++(fs2++fs3)) (bp c k3):=
  B' H (dR (dq (an (ac (aI H rfl) (ac (bw H) aq)) a5)) λO=>dR (lL nS (fH (aI H rfl) H) g) λO=>ba (c5 H rfl))
 exact pq (fs:=[]) (lE ⋯) λO=>bi (bF H rfl) (ba (bi (bF H rfl) (ba (bi (bF H rfl) (ba (bi (bF H rfl) (ba (aA (bF H rfl) (ba (dq (an (ac (aa H) (ac (bw H) aq)) tr)))))))))))
end
theorem uD {cC:D} (hl:∀x∈l,bh x) (hc:∀x∈cs,t7 x) (hf:mo cC):Pw (.J [.str fP, .J l, .J cs,cC]):=by
 intro c ai kS hg hb
 have dy:2000000<aT:=by decide
 have p1:=ku (l:=[.str fP, .J l, .J cs,cC]) (x:= .J l) (.tail _ (.head _))
 have p2:=ku (l:=[.str fP, .J l, .J cs,cC]) (x:= .J cs) (.tail _ (.tail _ (.head _)))
 have p3:=ku (l:=[.str fP, .J l, .J cs,cC]) (x:=cC) (.tail _ (.tail _ (.tail _ (.head _))))
 change 1+cD l≤_ at p1
 change 1+cD cs≤_ at p2
 change c.sg.length+(1+cD [.str fP, .J l, .J cs,cC])≤1000 at hg
 change ai.length+(1+(1+(1+b9 l+(1+b9 cs+(sz cC+0)))))≤100000 at hb
 obtain ⟨fs1,k1,a1,a2,a3⟩:=lM (c:=c) (l:=l) (ai:=ai) kS (λx hx=>(hl x hx).pw) (aS hg p1) (av hb)
 obtain ⟨fs2,k2,b1,b2,b3⟩:=PR (c:=c) (a:= .J [.str fP, .J l, .J cs,cC]) kS cs hc (aS hg p2) k1 fs1 (aS a2 hb) (aS a1 (ml 8 hb))
 obtain ⟨fs3,k3,c1,c2,c3⟩:=PT (l:=l) (cs:=cs) (k2:=k2) hf kS (aS hg p3) (fY b2 hb a2)
 refine ⟨fs1++(fs2++fs3),k3,by refine ae cg (ae cg ?_);show _≤8*(1+(1+(1+b9 l+(1+b9 cs+(sz cC+0)))));exact fY a1 b1 c1,by show _≤_+(1+(1+(1+b9 l+(1+b9 cs+(sz cC+0)))));exact fY c2 b2 a2,λn hn=>?_⟩
 change 3*(1+cD [.str fP, .J l, .J cs,cC])+20≤n at hn
 have Dp:3*(1+cD [.str fP, .J l, .J cs,cC])+18≤n -2:=Nat.le_sub_of_add_le hn
 have q1:=a3 (n -2) (aM (av (ml 3 p1)) Dp)
 have q2:=b3 (n -2) (aM (av (ml 3 p2)) Dp) (aM (av (ml 3 p2)) Dp)
 have q3:=c3 (n -2) (aM (av (ml 3 p3)) Dp)
 obtain ⟨n,rfl⟩:∃m,n=m+3:=ge hn rfl
 exact ⟨Ul (Cj hl (aS p1 hn) (aS hb dy)) (iK (n+1) cC _ (aS p3 hn) (aS hb dy)) (Et (b:=false) (aS hg dy)) q1.1 (q2.1 _ _ _) q3.1 (by refine ae cg ?_;exact GO a1 b1 c1 (ml 8 hb) dy),Um (q1.2 (.J l) H) (q2.2 _ _ _) q3.2⟩
abbrev c0:fV:=⟨[], .none,true,false⟩
inductive qD:D→Prop
 |AB {fl:D} {nm:Str} {ps:↑PD} {ty body:D} {g:Bool}:yV nm ps ty body→qD (.J [.str ja,fl,eE nm ps ty body g])
 |other {k:Str} {ps ks:↑D} {rs:↑Nat}:k≠ja→iL k ps rs→ph rs ps ks→pg ps=true→mS ks→qD (.J (.str k::ps))
abbrev Un:Ss:=match Ea.body with
 | .cons _ (.cons _ (.cons _ (.cons _ (.cons _ (.cons (.aU _ (.cons _ (.cons (.ej _ _ b) _)) _) _)))))=>b
 |_=> .nil
abbrev Uo:Ss:=match tR.body with
 | .cons (.ej _ _ b) _=>b
 |_=> .nil
abbrev LV (σ:St) (v:V) (l:↑Str):Prop:=(v= .ref 1∧σ[1]?=some (.list (l.map .str)))∨v=cY l
theorem LV.var {l:↑Str} (h:LV σ v l) {x:Nat} (hx:ρ[x]?=some v):ev K (.var x) ρ σ= .ok (v,σ):=by
 rcases h with⟨rfl,_⟩|rfl
 ·exact cV hx
 ·exact aa hx
theorem LV.add {l m:↑Str} (h:LV σ v l) (hb:l.length+m.length≤aT):jj σ .add v (cY m)= .ok (cY (l++m),σ):=by
 rcases h with⟨rfl,h⟩|rfl
 ·refine ae (Iv H (yF (p9 h) H (by simpa using hb))) (dg fK ?_);rfl
 ·exact Ch hb
theorem PU (h:qD x) (hh:ht x≤1000) (hs:sz x≤100000):∃fs,fs.length≤8*sz x∧∀n,3*ht x+20≤n→
  (∀{w:Nat} {a b k v:V} {σ:St} {l:↑Str} {ai:↑Str},LV σ v l→l.length+fs.length≤aT→σ[0]?=some (.list (ai.map .str))→2≤σ.length→∃σ',qh (σ'[0]?=some (.list (ai.map .str))) (2≤σ'.length) (bg (call code n) w Un [a,b,k,v, .d x] σ= .ok (.next,[a,b,k,cY (l++fs), .d x],σ')))∧
  (∀{w:Nat} {a:V} {σ:St},∃σ',bg (call code n) w Uo [a, .d x] σ=cK fs [a, .d x] σ'):=by
 have dy:2000000<aT:=by decide
 induction h using qD.casesOn with
 |@AB fl nm ps ty body g h=>
  have hx:=sb fl
  simp only [ht,cD,sz,b9]at hh hs
  obtain ⟨fs,a1,a2⟩:=xK (g:=g) (isM:=true) (cZ:=false) (us:=[]) h.nm h.ty h.ps h.body (by simp) (by simp) h.len (aM (by repeat' first|exact cF _|apply fU|apply u7|apply wh) hh) (av hs)
  simp only [lW]at a1
  refine ⟨fs,by simp only [sz,b9];exact av a1,λn hn=>?_⟩
  simp only [ht,cD]at hn
  have a3:=a2 n (GP (by repeat' first|exact cF _|apply fU|apply u7|apply wh) hn H)
  refine ⟨λ{w a b k v σ l ai} hv hb h0 h2=>⟨σ,h0,h2,?_⟩,λ{w a σ}=>⟨σ,?_⟩⟩
  ·exact af (aA (cX H rfl rfl) (af (aJ (cG (hv.var H) (an (ac (aI H rfl) (ac (aV aq H) sM)) (a3 _).1) (hv.add hb))) ay)) ay
  ·exact ba (aA (cX H rfl rfl) (ba (dq (an (ac (aI H rfl) (ac (aV aq H) sM)) (a3 _).2))))
 |@other k ps ks rs hk hr yW hd hN=>
  have Gv:=yW.je
  have eh:=pp ps
  have ez:=lC ps
  rw [Gv]at eh ez
  simp only [ht,cD,sz,b9]at hh hs
  obtain ⟨fs,k1,a1,a2,a3⟩:=lM (c:=c0) (l:=ks) (ai:=[]) .none hN (by show 0+_≤_;lia) (by simp;exact aS ez hs)
  refine ⟨fs,by simp only [sz,b9];exact aS a1 (ml 8 ez),λn hn=>?_⟩
  simp only [ht,cD]at hn
  obtain ⟨n,rfl⟩:∃m,n=m+4:=ge hn rfl
  obtain ⟨a4,a5⟩:=a3 (n+4) (by lia)
  have cb:=jG ps
  have kZ:∀σ,call code (n+4) .ca [.d (.J ps)] σ= .ok (.d (.aD ks),σ):=λσ=>by
   have:=iK (n+4) (.J ps) σ (by simp only [ht];exact av (GP (a:=1+cD ps) (c:=20) (kF (lV _ _) 1) hn H)) (by simp only [sz];exact aS hs dy)
   rwa [mP hd,Gv]at this
  refine ⟨λ{w a b k' v σ l ai} hv hb h0 h2=>?_,λ{w a σ}=>?_⟩
  ·have CS:(σ++[iq.list []])[σ.length]?=some (.list []):=by simp
   have hla:=yU (a:=σ.length) CS a4
   let σ':=(σ++[iq.list []]).set σ.length (.list (k1.map .str))
   have JZ:LV σ' v l:=by
    rcases hv with⟨rfl,hv⟩|rfl
    ·refine .inl ⟨rfl,?_⟩
     refine ae (kE (by lia)) (ae (lT (av h2)) ?_);exact hv
    ·exact .inr H
   refine ⟨σ',by refine ae (kE (by lia)) (ae (lT (av h2)) ?_);exact h0,by simp [σ'];exact av h2,?_⟩
   exact af (bi (ak (aI H rfl) ab (fv (bQ hk))) (af (aJ (cG (hv.var H) (an (ac (an (ac (lA (aa H) (oi ab) iI iI (uv (by simp;exact fY cb hs dy))) aq) (kZ _)) (ac (an (ac ab fC) sn) aq)) hla) (JZ.add hb))) ay)) ay
  ·have hc:∀σ,call code (n+4) .jJ [.d (.J (.str k::ps))] σ= .ok (.d (.aD ks),σ):=λσ=>tX hr yW (aS hs dy)
   have hl:=aat (a:=σ.length) (b:=σ.length+1) (σ:=σ++[.list [], .list []]) (by lia) (by simp;rfl) (by refine ae (s5 (by simp+arith only)) ?_;simp) (a5 (.aD ks) H)
   exact ⟨_,ba (bi (ak (aI H rfl) ab (fv (bQ hk))) (ba (dq (an (ac (an (ei H) (hc _)) (ac (an sM sR) aq)) hl))))⟩
theorem PV (l:↑D):(∀x∈l,qD x)→cD l≤1000→b9 l≤100000→∃fs,fs.length≤8*b9 l∧∀n,3*cD l+20≤n→
  (∀{a b k v x:V} {σ:St} {fd:↑Str} {ai:↑Str},LV σ v fd→fd.length+fs.length≤aT→σ[0]?=some (.list (ai.map .str))→2≤σ.length→s6 λv' x' σ'=>qh (σ'[0]?=some (.list (ai.map .str))) (LV σ' v' (fd++fs)) (cW (λy=>bk (.dj 4) (.d y)) (λρ σ=>bg (call code n) n Un ρ σ) l [a,b,k,v,x] σ= .ok (.next,[a,b,k,v',x'],σ')))∧
  (∀{a x:V} {σ:St},g9 λx' σ'=>cW (λy=>bk (.dj 1) (.d y)) (λρ σ=>bg (call code n) n Uo ρ σ) l [a,x] σ=cK fs [a,x'] σ'):=by
 induction l with
 |nil=>exact λO O O=>⟨[],by simp,λn O=>⟨λ{a b k v x σ fd ai} hv _ h0 _=>⟨v,x,σ,h0,by rw [b6];exact hv,H⟩,λ{a x σ}=>⟨x,σ,H⟩⟩⟩
 |cons y l dS=>
  intro hN hh hs
  simp only [cD,b9]at hh hs
  obtain ⟨fs1,a1,a2⟩:=PU (hN y bZ) (aM (fU _ _) hh) (av hs)
  obtain ⟨fs2,b1,b2⟩:=dS (λx hx=>hN x (bY _ hx)) (aM (lV _ _) hh) (av hs)
  refine ⟨fs1++fs2,by simp only [cg,b9];exact aS a1 b1,λn hn=>?_⟩
  simp only [cD]at hn
  obtain ⟨a3,a4⟩:=a2 n (GP (fU _ _) hn rfl)
  obtain ⟨b3,b4⟩:=b2 n (GP (lV _ _) hn rfl)
  refine ⟨λ{a b k v x σ fd ai} hv hb h0 h2=>?_,λ{a x σ}=>?_⟩
  ·rw [cg]at hb
   obtain ⟨σ1,e1,e2,e3⟩:=a3 (w:=n) (a:=a) (b:=b) (k:=k) hv (av hb) h0 h2
   obtain ⟨v',x',σ',g1,g2,g3⟩:=b3 (a:=a) (b:=b) (k:=k) (x:= .d y) (σ:=σ1) (v:=cY (fd++fs1)) (.inr rfl) (by refine ae cg ?_;exact av hb) e1 e2
   exact ⟨v',x',σ',g1,by rw [←aX];exact g2,fc H e3 (.inl H) g3⟩
  ·obtain ⟨σ1,e3⟩:=a4 (w:=n) (a:=a) (σ:=σ)
   obtain ⟨x',σ',g3⟩:=b4 (a:=a) (x:= .d y) (σ:=σ1)
   exact ⟨x',σ',oK H e3 λO=>g3⟩
theorem Ck (h:∀x∈l,qD x):Pw (.J [.str iH, .str gq, .str CU, .J [], .none, .J [], .none, .J l]):=by
 intro c ai kS hg hb
 have dy:2000000<aT:=by decide
 simp only [ht,cD,sz,b9]at hg hb
 obtain ⟨fs,a1,a2⟩:=PV l h (aM (by repeat' first|exact cF _|apply fU|exact mxL (wh (cF _))|apply u7|apply wh) (aM (jp _ _) hg)) (av hb)
 refine ⟨fs,ai,by simp only [sz,b9];exact av a1,by simp+arith only,λn hn=>?_⟩
 simp only [ht,cD]at hn
 obtain ⟨n,rfl⟩:∃m,n=m+3:=ge hn rfl
 let x:D:= .J [.str iH, .str gq, .str CU, .J [], .none, .J [], .none, .J l]
 constructor
 ·obtain ⟨a3,_⟩:=a2 (n+2) (av (GP (a:=1+cD l) (c:=20) (by repeat' first|exact cF _|apply fU|apply u7|apply wh) hn rfl))
  obtain ⟨v',x',σ',g1,g2,g3⟩:=a3 (a:= .d x) (b:=dX c) (k:= .d (.str iH)) (v:= .ref 1) (x:= .un) (σ:=[.list (ai.map .str), .list []]) (fd:=[]) (ai:=ai) (.inl ⟨rfl,rfl⟩) (by simp;exact fY a1 (ml 8 hb) dy) rfl (by simp)
  rw [pG]at g2
  obtain ⟨r,rfl⟩:∃r,σ'= .list (ai.map .str)::r:=by
   induction σ' using bu with
   |nil=>cases g1
   |cons y r=>have g1:=bb g1;exact ⟨r,by exact ae g1 H⟩
  refine dp (fl:= .ret v') (ρ1:=[.d x,dX c, .d (.str iH),v',x']) (σ1:= .list (ai.map .str)::r) (rs:=[0]) H rfl (by simp) H (af (aJ (aI H rfl)) (aK (bF H rfl) (aK (bF H rfl) (aK (bF H rfl) (aK (bF H rfl) (bB (aA (bF H rfl)
   (af (aJ (fA aq H)) (af (gL nS (fH (aI H rfl) H) g3) (bq (g2.var H))))))))))) H ?_
  rcases g2 with⟨rfl,g2⟩|rfl
  ·have vA:r[0]?=some (.list (fs.map .str)):=g2
   simp only [wu,gh,List.getElem?_cons_succ,List.getElem?_nil,vA]
   rfl
  ·rfl
 ·obtain ⟨_,a4⟩:=a2 (n+1) (av (GP (a:=1+cD l) (c:=20) (by repeat' first|exact cF _|apply fU|apply u7|apply wh) hn rfl))
  obtain ⟨x',σ',g⟩:=a4 (a:= .d x) (x:= .un) (σ:=[])
  have tr:∀σ,call code (n+2) .on [.d x] σ=eM fs σ:=λσ=>xH H rfl (ba (lL nS (fH (aI H rfl) H) g))
  exact pq (fs:=[]) (lE ⋯) λO=>bi (bF H rfl) (ba (bi (bF H rfl) (ba (bi (bF H rfl) (ba (aA (bF H rfl) (ba (dq (an (ei H) (tr _))))))))))
section
abbrev mz (d:β) (x:D) (f:↑D→β):β:=match x with
 | .J l=>f l
 |_=>d
abbrev vS (d:β) (x:D) (f:Str→β):β:=match x with
 | .str s=>f s
 |_=>d
abbrev Cn (d:β) (x:D) (f:Bool→β):β:=match x with
 | .bool b=>f b
 |_=>d
abbrev lR (d:β) (l:↑D) (f:D→↑D→β):β:=match l with
 |[]=>d
 |a::r=>f a r
abbrev yX (d:β) (o:Option α) (f:α→β):β:=match o with
 |none=>d
 |some a=>f a
variable {d e:β}
@[elab_as_elim] theorem dQ {P:D→Prop} {f:↑D→β} (hd:d≠e) (h:mz d x f=e) (k:∀l,f l=e→P (.J l)):P x:=by
 induction x using D.casesOn with
 |J l=>exact k l h
 |_=>exact al h hd
@[elab_as_elim] theorem iN {P:D→Prop} {f:Str→β} (hd:d≠e) (h:vS d x f=e) (k:∀s,f s=e→P (.str s)):P x:=by
 induction x using D.casesOn with
 |str l=>exact k l h
 |_=>exact al h hd
@[elab_as_elim] theorem kB {P:D→Prop} {f:Bool→β} (hd:d≠e) (h:Cn d x f=e) (k:∀s,f s=e→P (.bool s)):P x:=by
 induction x using D.casesOn with
 |bool l=>exact k l h
 |_=>exact al h hd
@[elab_as_elim] theorem dL {P:↑D→Prop} {f:D→↑D→β} (hd:d≠e) (h:lR d l f=e) (k:∀a r,f a r=e→P (a::r)):P l:=by
 induction l using bu with
 |cons a r=>exact k a r h
 |nil=>exact al h hd
theorem jI {o:Option α} {P:Prop} {f:α→β} (hd:d≠e) (h:yX d o f=e) (k:∀a,o=some a→f a=e→P):P:=by
 induction o using di with
 |some a=>exact k a H h
 |none=>exact al h hd
theorem cB {c:Prop} [Decidable c] {a b:β} {P:Prop} (h:(if c then a else b)=e) (k:c→a=e→P) (k':¬c→b=e→P):P:=by
 by_cases hc:c
 ·rw [ao hc]at h;exact k hc h
 ·rw [aN hc]at h;exact k' hc h
end
theorem ft:false≠true:=gA
theorem ns {y:α}:none≠some y:=λq=>by cases q
theorem kC {a:Bool} {P:Prop} (h:(a&&b)=true) (k:a=true→b=true→P):P:=let q:=Ac.mp h;k q.1 q.2
@[elab_as_elim] theorem Yr {P:↑D→Prop} (h:l.isEmpty=true) (k:P []):P l:=by
 induction l using bu with
 |nil=>exact k
 |cons=>exact al h ft
abbrev Dt (d:β) (l:↑D) (f:D→β):β:=lR d l λa r=>if r.isEmpty then f a else d
abbrev vT (d:β) (l:↑D) (f:D→D→β):β:=lR d l λa r=>Dt d r (f a)
abbrev vU (d:β) (l:↑D) (f:D→D→D→β):β:=lR d l λa r=>vT d r (f a)
@[elab_as_elim] theorem mq {d e:β} {P:↑D→Prop} {f:D→β} (hd:d≠e) (h:Dt d l f=e) (k:∀a,f a=e→P [a]):P l:=
 dL hd h λa r h=>cB h (λq h=>Yr q (k a h)) λO h=>al h hd
@[elab_as_elim] theorem iO {d e:β} {P:↑D→Prop} {f:D→D→β} (hd:d≠e) (h:vT d l f=e) (k:∀a b,f a b=e→P [a,b]):P l:=
 dL hd h λa r h=>mq hd h λb h=>k a b h
@[elab_as_elim] theorem ic {d e:β} {P:↑D→Prop} {f:D→D→D→β} (hd:d≠e) (h:vU d l f=e) (k:∀a b c,f a b c=e→P [a,b,c]):P l:=
 dL hd h λa r h=>iO hd h λb c h=>k a b c h
abbrev uO (d:β) (x:D) (f:Str→↑D→β):β:=mz d x λl=>lR d l λa r=>vS d a λk=>f k r
@[elab_as_elim] theorem iP {d e:β} {P:D→Prop} {f:Str→↑D→β} (hd:d≠e) (h:uO d x f=e) (k:∀s r,f s r=e→P (.J (.str s::r))):P x:=
 dQ hd h λl h=>dL hd h λa r h=>iN hd h λs h=>k s r h
theorem gV (h:aL d=true):d= .none:=by induction d using D.casesOn<;>first|rfl|exact al h ft
abbrev Ys (x:D):Bool:=uO false x λk O=>fN.contains k
theorem Up (h:Ys x=true):g9 λk r=>x= .J (.str k::r)∧fN.contains k=true:=iP ft h λk r h=>⟨k,r,rfl,h⟩
abbrev xM (l:↑D):Option ↑D:=if l.isEmpty then some []else none
theorem su (h:xM l=some ks):l=[]∧ks=[]:=cB h (λq h=>by obtain rfl:=bb h;exact Yr q ⟨rfl,rfl⟩) λO h=>al h ns
abbrev Gw (s:Nat) (x:D):Option ↑D:=
 if aL x then some []
 else if s=45 then xM (cR x)
 else if s=101 then uO none x λk r=>if fN.contains k then some [.J (.str k::r)]else if k=gQ then xM (cR (.J (.str k::r)))else none
 else if s=115 then mz none x λl=>if l.all Ys then some l else none
 else none
theorem yY {s:Nat} (h:Gw s x=some ks):jY s x ks:=
 cB h (λq h=>by obtain rfl:=bb h;refine ae (gV q) ?_;exact .none s) λO h=>cB h (λq h=>by subst q;obtain ⟨h1,rfl⟩:=su h;exact .zA h1) λO h=>
 cB h (λq h=>by
  subst q
  exact iP ns h λk r h=>cB h (λq h=>by obtain rfl:=bb h;exact .node q) λO h=>cB h (λq h=>by subst q;obtain ⟨h1,rfl⟩:=su h;exact .name h1) λO h=>al h ns) λO h=>
 cB h (λq h=>by
  subst q
  exact dQ ns h λl h=>cB h (λq h=>by obtain rfl:=bb h;exact .seq λy hy=>Up (eI.mp q y hy)) λO h=>al h ns) λO h=>al h ns
abbrev AC:↑Nat→↑D→Option ↑D
 |[],l=>xM (eY l)
 |s::rs,l=>lR none l λx l=>(Gw s x).bind λk1=>(AC rs l).bind λk2=>some (k1++k2)
theorem Co:∀{l ks:↑D},AC rs l=some ks→jf rs l ks:=by
 induction rs with
 |nil=>intro l ks h;obtain ⟨h1,rfl⟩:=su h;exact .nil h1
 |cons s rs ih=>exact λh=>dL ns h λx l h=>ah h λk1 h1 h=>ah h λk2 h2 h=>by obtain rfl:=bb h;exact .cons (yY h1) (ih h2)
abbrev Gx (r:↑Nat):↑D→Option ↑D
 |[]=>some []
 |y::l=>if aL y then Gx r l else mz none y λe=>if pg e then(AC r e).bind λk1=>(Gx r l).bind λk2=>some (k1++k2)else none
theorem PW {r:↑Nat}:∀{ks:↑D},Gx r l=some ks→tW r l ks:=by
 induction l with
 |nil=>intro ks h;cases h;exact .nil
 |cons y l ih=>
  exact λh=>cB h (λq h=>by refine ae (gV q) ?_;exact .skip (ih h)) λO h=>dQ ns h λe h=>cB h (λhd h=>ah h λk1 h1 h=>ah h λk2 h2 h=>by obtain rfl:=bb h;exact .cons (Co h1) hd (ih h2)) λO h=>al h ns
abbrev isT:D→Bool
 | .J _=>true
 |_=>false
abbrev Yt (s:Nat) (x:D):Option ↑D:=
 if isT x then mz none x λl=>if s=118 then(if pg l then AC [45,101] l else none)else if(xw s).isSome then yX none (xw s) λr=>if pg l then Gx r l else none else Gw s (.J l)
 else Gw s x
theorem Uq {s:Nat} (h:Yt s x=some ks):C6 s x ks:=
 cB h (λO h=>dQ ns h λl h=>cB h (λq h=>cB h (λhd g=>by subst q;exact .v (Co g) hd) λO h=>al h ns) λO h=>
  cB h (λO h=>jI ns h λr hr h=>cB h (λhd h=> .rE hr (PW h) hd) λO h=>al h ns) λO h=> .base (yY h)) λO h=> .base (yY h)
abbrev Gy:↑Nat→↑D→Option ↑D
 |[],l=>xM (eY l)
 |s::rs,l=>lR none l λx l=>(Yt s x).bind λk1=>(Gy rs l).bind λk2=>some (k1++k2)
theorem Ey:∀{l ks:↑D},Gy rs l=some ks→ph rs l ks:=by
 induction rs with
 |nil=>intro l ks h;obtain ⟨h1,rfl⟩:=su h;exact .nil h1
 |cons s rs ih=>exact λh=>dL ns h λx l h=>ah h λk1 h1 h=>ah h λk2 h2 h=>by obtain rfl:=bb h;exact .cons (Uq h1) (ih h2)
abbrev LI (k:Str) (ps:↑D):Option ↑Nat:=
 if k=pY then(if ps.length=2 then some [98,115]else if ps.length=3 then some [101,101,101]else none)
 else if k=dO then(if ps.length=4 then some [45,45,45,101]else if ps.length=3 then some [101,101,45]else none)
 else if k=bV then(if ps.length≤1000 then some (List.replicate ps.length 118)else none)
 else if k=gZ then lR none ps λp r=>mz none p λl=>if l.length=2 then vT none l λO b=>(if isT b then mz none b λO=>(if r.length≤999 then some (List.replicate (r.length+1) 118)else none)else vS none b λO=>vT none r λO O=>some [45,45,101])
  else if l.length<aT then vT none r λO O=>some [45,45,101]else none
 else(BW.lookup k).map λr=>r.cps.toList
theorem yZ {k:Str} {r:↑Nat} (h:LI k ps=some r):iL k ps r:=
 cB h (λq g=>by
  subst q
  exact cB g (λq h=>by obtain rfl:=bb h;exact .if2 q) λO h=>cB h (λq h=>by obtain rfl:=bb h;exact .if3 q) λO h=>al h ns) λq1 h=>
 cB h (λq g=>by
  subst q
  exact cB g (λq h=>by obtain rfl:=bb h;exact .TL q) λO h=>cB h (λq h=>by obtain rfl:=bb h;exact .Le q) λO h=>al h ns) λq2 h=>
 cB h (λq g=>by
  subst q
  exact cB g (λq h=>by obtain rfl:=bb h;exact .TM q) λO h=>al h ns) λq3 h=>
 cB h (λq g=>by
  subst q
  exact dL ns g λp r' h=>dQ ns h λl h=>cB h (λO h=>iO ns h λa b h=>cB h (λO h=>dQ ns h λm h=>cB h (λq h=>by obtain rfl:=bb h;exact .F9 (y:= .none) q) λO h=>al h ns) λO h=>iN ns h λt h=>iO ns h λy z h=>by obtain rfl:=bb h;exact .M') λq h=>
   cB h (λq' h=>iO ns h λy z h=>by obtain rfl:=bb h;exact .Na q q') λO h=>al h ns) λq4 h=>
 nz h λr' h1 e=>by subst e;exact .sY h1 q1 q2 q3 q4
abbrev WZ (f:D→Bool) (i:D):Bool:=if aL i then true else mz false i λl=>vU false l λO t b=>Cn false b λO=>f t
abbrev zG:Nat→D→Bool
 |0,_=>false
 |n+1,x=>if aL x then true else uO false x λk r=>if k=cr then Dt false r λb=>mz false b λaZ=>aZ.all (WZ (zG n))else if k=bN then Dt false r λb=>vS false b λO=>true else true
theorem Ur {f:D→Bool} (ih:∀x,f x=true→my x) (h:aZ.all (WZ f)=true):uY aZ:=by
 induction aZ with
 |nil=>exact .nil
 |cons i aZ PY=>
  rw [om]at h
  exact kC h λh1 h2=>cB h1 (λq O=>by refine ae (gV q) ?_;exact .skip (PY h2)) λO h1=>dQ ft h1 λl h1=>ic ft h1 λa t b h1=>kB ft h1 λc h1=> .cons (ih t h1) (PY h2)
theorem re:∀{x:D},zG n x=true→my x:=by
 induction n with
 |zero=>exact λh=>al h ft
 |succ n ih=>
  exact λh=>cB h (λq O=>by refine ae (gV q) ?_;exact .none) λO h=>iP ft h λk r h=>cB h (λq h=>by
   subst q
   exact mq ft h λb h=>dQ ft h λaZ h=> .list (Ur (λO=>ih) h)) λq1 h=>cB h (λq h=>by
   subst q
   exact mq ft h λb h=>iN ft h λy O=> .var) λq2 O=> .dj q1 q2
abbrev Us:Nat→D→Bool
 |0,_=>false
 |n+1,x=>uO false x λk r=>Dt false r λb=>mz false b λaZ=>if k=cr then aZ.all (WZ λt=>uO false t λk' ps=>if k'=cr then Us n (.J (.str k'::ps))else true)else false
theorem Ut {f:D→Bool} (ih:∀x,f x=true→BY x) (h:aZ.all (WZ λt=>uO false t λk' ps=>if k'=cr then f (.J (.str k'::ps))else true)=true):pi aZ:=by
 induction aZ with
 |nil=>exact .nil
 |cons i aZ PY=>
  rw [om]at h
  exact kC h λh1 h2=>cB h1 (λq O=>by refine ae (gV q) ?_;exact .skip (PY h2)) λO h1=>dQ ft h1 λl h1=>ic ft h1 λa t b h1=>kB ft h1 λc h1=>iP ft h1 λk ps h1=>cB h1 (λO h1=> .sub (ih _ h1) (PY h2)) λq O=> .dj q (PY h2)
theorem Uu:∀{x:D},Us n x=true→BY x:=by
 induction n with
 |zero=>exact λh=>al h ft
 |succ n ih=>
  exact λh=>iP ft h λk r h=>mq ft h λb h=>dQ ft h λaZ h=>cB h (λq h=>by subst q;exact .mk (Ut (λO=>ih) h)) λO h=>al h ft
abbrev Uv (x:D):Bool:=uO false x λk ps=>if k=cr then Us 50 (.J (.str k::ps))else true
theorem PZ (h:Uv x=true):∃b,xC x b:=iP ft h λk ps h=>cB h (λO h=>⟨_, .list (Uu h)⟩) λq O=>⟨_, .other q⟩
abbrev Yu (x:D):Bool:=uO false x λk r=>if k=dO then vU false r λO O b=>Cn false b λO=>true else true
theorem Uw (h:Yu x=true):∃b,Gd x b:=iP ft h λk r h=>cB h (λq h=>by subst q;exact ic ft h λa b c h=>kB ft h λf O=>⟨_, .B6⟩) λq O=>⟨_, .other q⟩
abbrev Cp:Nat→D→Bool
 |0,_=>false
 |n+1,x=>uO false x λk ps=>
  if k=gU then lR false ps λb O=>Cp n b
  else if k=cU then lR false ps λb O=>uO false b λk' r=>if k'=gQ then true else Cp n (.J (.str k'::r))
  else if k=dO then vU false ps λb O c=>Cn false c λO=>Cp n b
  else if k=cy then lR false ps λb r=>vU false r λO O c=>Cn false c λO=>Cp n b
  else true
theorem I3:∀{x:D},Cp n x=true→∃s,qA x s:=by
 induction n with
 |zero=>exact λh=>al h ft
 |succ n ih=>
  exact λh=>iP ft h λk ps h=>cB h (λq h=>by
   subst q
   exact dL ft h λb r h=>let⟨s,hs⟩:=ih h;⟨s, .WH hs⟩) λq1 h=>cB h (λq h=>by
   subst q
   exact dL ft h λb r h=>iP ft h λk' r' h=>cB h (λq O=>by subst q;exact ⟨_, .yO⟩) λq h=>let⟨s,hs⟩:=ih h;⟨s, .call q hs⟩) λq2 h=>cB h (λq h=>by
   subst q
   exact ic ft h λb x c h=>kB ft h λf h=>let⟨s,hs⟩:=ih h;⟨_, .B6 hs⟩) λq3 h=>cB h (λq h=>by
   subst q
   exact dL ft h λb r h=>ic ft h λx y c h=>kB ft h λf h=>let⟨s,hs⟩:=ih h;⟨_, .B7 hs⟩) λq4 O=>⟨_, .IH q1 q3 q4 q2⟩
abbrev Gz:↑D→Option ↑Str
 |[]=>some []
 |y::l=>vS none y λs=>(Gz l).map λr=>s::r
theorem Ez:∀{r:↑Str},Gz l=some r→l=r.map .str:=by
 induction l with
 |nil=>intro r h;cases h;rfl
 |cons y l ih=>exact λh=>iN ns h λs h=>nz h λr' h1 e=>by subst e;refine ae (ih h1) ?_;rfl
abbrev unC:↑D→Bool
 |[]=>true
 |y::l=>(uO false y λk r=>if k=bN then Dt false r λb=>vS false b λO=>true else true)&&unC l
theorem W0:unC l=true→∃b,u0 l b:=by
 induction l with
 |nil=>exact λO=>⟨_, .nil⟩
 |cons y l ih=>
  exact λh=>kC h λh1 h2=>let⟨b,hb⟩:=ih h2;iP ft h1 λk r h1=>cB h1 (λq h1=>by subst q;exact mq ft h1 λc h1=>iN ft h1 λs O=>⟨_, .cons .var hb⟩) λq O=>⟨_, .cons (.other q) hb⟩
abbrev LJ:↑D→Bool
 |[]=>true
 |y::l=>(mz false y λm=>vT false m λx O=>vS false x λx=>decide (x.length≤1000))&&LJ l
theorem P0:LJ l=true→∃xs,t3 l xs∧∀x∈xs,x.length≤1000:=by
 induction l with
 |nil=>exact λO=>⟨_, .nil,λO h=>al h fX⟩
 |cons y l ih=>
  exact λh=>kC h λh1 h2=>let⟨xs,q1,q2⟩:=ih h2;dQ ft h1 λm h1=>iO ft h1 λx v h1=>iN ft h1 λs h1=>⟨_, .cons q1,λz hz=>(cM.mp hz).elim (λe=>e▸gf h1) (q2 z)⟩
abbrev GA:↑D→Bool
 |[]=>true
 |y::l=>(mz false y λm=>vT false m λO O=>true)&&GA l
theorem LK:GA l=true→∃m,lh l m:=by
 induction l with
 |nil=>exact λO=>⟨_, .nil⟩
 |cons y l ih=>
  exact λh=>kC h λh1 h2=>let⟨m,hm⟩:=ih h2;dQ ft h1 λl' h1=>iO ft h1 λt v O=>by
   by_cases q:t= .none
   ·subst q;exact ⟨_, .jk hm⟩
   ·exact ⟨_, .case q hm⟩
abbrev names:↑Str:=[tQ,Ww,xk,eW,f8,kq]
theorem t8 (h:names.contains nm=true):sj nm:=by
 have h:nm∈names:=by simpa using h
 unfold names at h
 simp only [cM,fX,or_false]at h
 rcases h with rfl|rfl|rfl|rfl|rfl|rfl
 ·exact ⟨tQ,by kernel_rfl,λO O=>by kernel_rfl⟩
 ·exact ⟨Ww,by kernel_rfl,λO O=>by kernel_rfl⟩
 ·exact ⟨xk,by kernel_rfl,λO O=>by kernel_rfl⟩
 ·exact ⟨eW,by kernel_rfl,λO O=>by kernel_rfl⟩
 ·exact ⟨f8,by kernel_rfl,λO O=>by kernel_rfl⟩
 ·exact ⟨f8,by kernel_rfl,λO O=>by kernel_rfl⟩
abbrev tyC (x:D):Bool:=if aL x then true else mz false x λl=>yX false (Gz l) λs=>PK.contains s
theorem GB (h:tyC x=true):z8 x:=
 cB h (λq O=>by refine ae (gV q) ?_;exact .none) λO h=>dQ ft h λl h=>jI ft h λs e h=>by refine ae (Ez e) ?_;exact .J (List.contains_iff_mem.mp h)
abbrev Yv (ok:D→Bool) (y:D):Option PD:=mz none y λl=>lR none l λt l=>vS none t λt=>lR none l λx l=>vS none x λx=>lR none l λn l=>if aL n then lR none l λd l=>lR none l λr l=>Cn none r λr=>vU none l λv p q=>
 Cn none v λv=>vS none p λp=>Cn none q λq=>if t=pa∧r=false∧q=false∧x.length≤1000∧(aL d||ok d)=true then some ⟨x,d,v,p⟩else none else none
theorem Ux {ok:D→Bool} (hU:∀d,ok d=true→bh d) {t x p:Str} {n:D} {r v q:Bool} {y:PD} (hn:aL n=true) (c:t=pa∧r=false∧q=false∧x.length≤1000∧(aL d||ok d)=true) (g:some ⟨x,d,v,p⟩=some y): .J [.str t, .str x,n,d, .bool r, .bool v, .str p, .bool q]=cu y∧t6 y:=by
 refine dg (bb g) (ae c.1 (ae c.2.1 (ae c.2.2.1 (ae (gV hn) ?_))))
 exact ⟨rfl,c.2.2.2.1,((wf _ _).mp c.2.2.2.2).imp gV (hU _)⟩
theorem Uy {ok:D→Bool} (hU:∀d,ok d=true→bh d) {y:D} {p:PD} (h:Yv ok y=some p):y=cu p∧t6 p:=
 dQ ns h λl h=>dL ns h λt l h=>iN ns h λt h=>dL ns h λx l h=>iN ns h λx h=>dL ns h λn l h=>cB h (λhn h=>dL ns h λd l h=>dL ns h λr l h=>kB ns h λr h=>ic ns h λv p q h=>
  kB ns h λv h=>iN ns h λp h=>kB ns h λq h=>cB h (λc g=>Ux hU hn c g) λO h=>al h ns) λO h=>al h ns
abbrev LL (ok:D→Bool):↑D→Option ↑PD
 |[]=>some []
 |y::l=>(Yv ok y).bind λp=>(LL ok l).map λps=>p::ps
theorem P1 {ok:D→Bool} (hU:∀d,ok d=true→bh d):∀{ps:↑PD},LL ok l=some ps→l=ps.map cu∧∀p∈ps,t6 p:=by
 induction l with
 |nil=>intro ps h;refine dg (bb h) ?_;exact ⟨rfl,λO h=>al h fX⟩
 |cons y l ih=>
  exact λh=>ah h λp h1 h=>nz h λps h2 e=>by
   refine ae e ?_
   obtain ⟨rfl,q1⟩:=Uy hU h1
   obtain ⟨rfl,q2⟩:=ih h2
   exact ⟨rfl,λz hz=>(cM.mp hz).elim (λe=>e▸q1) (q2 z)⟩
abbrev LM (ok:D→Bool) (x:D):Bool:=if aL x then true else mz false x λl=>l.all ok
theorem EA {ok:D→Bool} (hU:∀d,ok d=true→bh d) (h:LM ok x=true):mo x:=
 cB h (λq O=>by refine ae (gV q) ?_;exact .none) λO h=>dQ ft h λl h=> .J λy hy=>hU y (eI.mp h y hy)
abbrev EB (ok:D→Bool) (x:D):Bool:=uO false x λk l=>lR false l λnm l=>vS false nm λnm=>lR false l λps l=>mz false ps λps=>lR false l λty l=>vU false l λbody r g=>Cn false r λr=>Cn false g λO=>
 if k=iG∧r=false then names.contains nm&&(tyC ty&&(LM ok body&&yX false (LL ok ps) λp=>decide (p.length≤1000)))else false
theorem xN {ok:D→Bool} (hU:∀d,ok d=true→bh d) (h:EB ok x=true):Vg λnm ps ty body g=>x=eE nm ps ty body g∧yV nm ps ty body:=
 iP ft h λk l h=>dL ft h λnm l h=>iN ft h λnm h=>dL ft h λps l h=>dQ ft h λps h=>dL ft h λty l h=>ic ft h λbody r g h=>kB ft h λr h=>kB ft h λg h=>cB h (λc h=>by
  obtain ⟨rfl,rfl⟩:=c
  exact kC h λh1 h=>kC h λh2 h=>kC h λh3 h=>jI ft h λp e h4=>by
   obtain ⟨rfl,h5⟩:=P1 hU e
   exact ⟨_,_,_,_,_,H,t8 h1,GB h2,gf h4,h5,EA hU h3⟩) λO h=>al h ft
abbrev usC:↑D→Option (↑(Str×Bool))
 |[]=>some []
 |y::l=>mz none y λm=>vT none m λx b=>vS none x λx=>Cn none b λb=>if x.length≤1000 then(usC l).map λus=>(x,b)::us else none
theorem Nt:∀{us:↑(Str×Bool)},usC l=some us→(.J l)=eH us∧∀u∈us,u.1.length≤1000:=by
 induction l with
 |nil=>intro us h;refine dg (bb h) ?_;exact ⟨rfl,λO h=>al h fX⟩
 |cons y l ih=>
  exact λh=>dQ ns h λm h=>iO ns h λx b h=>iN ns h λx h=>kB ns h λb h=>cB h (λhx h=>nz h λus h1 e=>by
   refine ae e ?_
   obtain ⟨h2,h3⟩:=ih h1
   exact ⟨by unfold eH at h2⊢;have h2:=D.J.inj h2;refine ae h2 ?_;rfl,λu hu=>(cM.mp hu).elim (λe=>e▸hx) (h3 u)⟩) λO h=>al h ns
abbrev Uz (ok:D→Bool) (x:D):Bool:=uO false x λk ps=>if k=ja then vT false ps λO f=>EB ok f else yX false (LI k ps) λrs=>yX false (Gy rs ps) λks=>pg ps&&ks.all ok
theorem EC {ok:D→Bool} (hU:∀d,ok d=true→bh d) (h:Uz ok x=true):qD x:=
 iP ft h λk ps h=>cB h (λq g=>by
  refine ae q ?_
  exact iO ft g λfl f h=>by
   obtain ⟨nm,ps,ty,body,g,rfl,hf⟩:=xN hU h
   exact .AB hf) λq h=>jI ft h λrs hr h=>jI ft h λks hk h=>kC h λh1 h2=> .other q (yZ hr) (Ey hk) h1 λy hy=>(hU y (eI.mp h2 y hy)).pw
abbrev UA (ok:D→Bool) (x:D):Bool:=mz false x λl=>vU false l λO n b=>mz false b λb=>b.all ok&&(if aL n then true else vS false n λO=>true)
theorem P2 {ok:D→Bool} (hU:∀d,ok d=true→bh d) (h:UA ok x=true):t7 x:=
 dQ ft h λl h=>ic ft h λa n b h=>dQ ft h λb h=>kC h λh1 h2=>cB h2 (λq O=>by refine ae (gV q) ?_;exact .none λy hy=>hU y (eI.mp h1 y hy)) λO h2=>iN ft h2 λs O=> .name λy hy=>hU y (eI.mp h1 y hy)
abbrev abC (k:Str) (ps:↑D):Bool:=if k=eC then Dt false ps λx=>mz false x λl=>unC l else if k=bV then LJ ps else !LC.contains k
abbrev abD (k:Str) (ps:↑D):Bool:=if k=ee then Dt false ps λx=>mz false x λl=>(Gz l).isSome else abC k ps
abbrev abE (k:Str) (ps:↑D):Bool:=if k=f7∨k=dk then true else abD k ps
abbrev oc9 (k:Str) (ps:↑D):Bool:=if k=b8 then Dt false ps λO=>true else abE k ps
abbrev okI (j:Int):D→Bool
 | .int i=>i==j
 |_=>false
abbrev ocJ (i:D):Bool:=([1,2,3,4]:↑Int).any λj=>okI j i
abbrev oc8 (k:Str) (ps:↑D):Bool:=if k=cL∨k=bS then Dt false ps ocJ else oc9 k ps
abbrev oc7 (k:Str) (ps:↑D):Bool:=if k=gK then vU false ps λO O O=>true else oc8 k ps
abbrev ocM (ps:↑D):Bool:=lR false ps λf r=>lR false r λm r=>lR false r λa r=>if aL a then Cp 50 (.J (.str cy::f::m::a::r))else true
abbrev ocC (ps:↑D):Bool:=vT false ps λf a=>if aL a then Cp 50 (.J [.str cU,f,a])else true
abbrev ocA (ps:↑D):Bool:=vT false ps λt r=>zG 50 t&&(Uv t&&Yu r)
abbrev oc6 (k:Str) (ps:↑D):Bool:=if k=cy then ocM ps else oc7 k ps
abbrev oc5 (k:Str) (ps:↑D):Bool:=if k=cU then ocC ps else oc6 k ps
abbrev oc4 (k:Str) (ps:↑D):Bool:=if k=jv then vT false ps λO O=>true else oc5 k ps
abbrev oc3 (k:Str) (ps:↑D):Bool:=if k=fS then vU false ps λO O r=>zG 50 r else oc4 k ps
abbrev oc2 (k:Str) (ps:↑D):Bool:=if k=d9 then vU false ps λO t O=>zG 50 t else oc3 k ps
abbrev oc1 (k:Str) (ps:↑D):Bool:=if k=dB then vT false ps λt O=>zG 50 t else oc2 k ps
abbrev Yw (k:Str) (ps:↑D):Bool:=if k=cQ then ocA ps else oc1 k ps
theorem W1 {j:Int} (h:okI j x=true):x= .int j:=by
 induction x using D.casesOn with
 |int i=>exact aC D.int (dz h)
 |_=>exact al h ft
theorem Nu {k:Str} (q:k≠bV) (h:jH k ps 0):jH k ps (if k=bV then n else 0):=by refine ae (aN q) ?_;exact h
section
variable {k c:Str}
theorem t9 (q:k=c) (d:c≠bV) (h:jH c ps 0):jH k ps (if k=bV then n else 0):=Nu (q▸d) (q▸h)
theorem W3 (g:ocA ps=true):jH cQ ps 0:=iO ft g λt r g=>kC g λh1 g=>kC g λh2 h3=>let⟨_,hb⟩:=PZ h2;let⟨_,hp⟩:=Uw h3;zE (re h1) hb hp
theorem W4 (g:ocC ps=true):jH cU ps 0:=iO ft g λf a g=>cB g (λn g=>let⟨_,hs⟩:=I3 g;uB (λO=>hs) λq=>al n (by refine ae q ?_;decide)) λhn O=>uB (s:=false) (λq=>al q hn) λO=>rfl
theorem W5 (g:ocM ps=true):jH cy ps 0:=dL ft g λf r g=>dL ft g λm r g=>dL ft g λa r g=>cB g (λn g=>let⟨_,hs⟩:=I3 g;sr (λO=>hs) λq=>al n (by refine ae q ?_;decide)) λhn O=>sr (s:=false) (λq=>al q hn) λO=>rfl
theorem W6 (q:k=cL∨k=bS) {i:D} (g:ocJ i=true):jH k [i] 0:=by
 obtain ⟨j,hj,hi⟩:=List.any_eq_true.mp g
 refine ae (W1 hi) ?_
 clear g hi
 simp only [cM,fX,or_false]at hj
 rcases hj with rfl|rfl|rfl|rfl
 ·exact uC (aO:=1) q ∅
 ·exact uC (aO:=2) q ∅
 ·exact uC (aO:=3) q ∅
 ·exact uC (aO:=4) q ∅
theorem UB {a b d:Str} (q:k=a∨k=b) (h1:a≠d) (h2:b≠d):k≠d:=q.elim (λe=>e▸h1) λe=>e▸h2
theorem UC (h:Yw k ps=true):jH k ps (if k=bV then ps.length else 0):=
 cB h (λq g=>t9 q ∅ (W3 g)) λO h=>
 cB h (λq g=>t9 q ∅ (iO ft g λt r g=>Cg (re g))) λO h=>
 cB h (λq g=>t9 q ∅ (ic ft g λa t r g=>Ds (re g))) λO h=>
 cB h (λq g=>t9 q ∅ (ic ft g λa t r g=>IY (re g))) λO h=>
 cB h (λq g=>t9 q ∅ (iO ft g λf a O=>IX)) λO h=>
 cB h (λq g=>t9 q ∅ (W4 g)) λO h=>
 cB h (λq g=>t9 q ∅ (W5 g)) λO h=>
 cB h (λq g=>t9 q ∅ (ic ft g λf m a O=>Cf)) λO h=>
 cB h (λq g=>Nu (UB q ∅ ∅) (mq ft g λi g=>W6 q g)) λO h=>
 cB h (λq g=>t9 q ∅ (mq ft g λv O=>Uh)) λO h=>
 cB h (λq O=>Nu (UB q ∅ ∅) (LD q)) λO h=>
 cB h (λq g=>t9 q ∅ (mq ft g λx g=>dQ ft g λl g=>let⟨r,hr⟩:=Option.isSome_iff_exists.mp g;by refine ae (Ez hr) ?_;exact IZ)) λO h=>
 cB h (λq g=>t9 q ∅ (mq ft g λx g=>dQ ft g λl g=>let⟨_,hb⟩:=W0 g;LF hb)) λO h=>
 cB h (λq g=>by refine ae (ao q) (ae q ?_);exact let⟨_,h1,h2⟩:=P0 g;I0 h1 h2) λq h=>Nu q (mV (Bool.not_eq_true' _▸h))
end
abbrev UD (k:Str) (ps:↑D):Bool:=
 if k=ci then lR false ps λO r=>lR false r λt r=>lR false r λu O=>zG 50 t&&(zG 50 u&&decide (sz t≤1000∧sz u≤1000))
 else if k=de then vT false ps λO x=>mz false x λl=>GA l&&decide (l.length≤1000)
 else !LC.contains k
theorem P4 {k:Str} (h:UD k ps=true):IW k ps:=
 cB h (λq g=>by
  refine ae q ?_
  exact dL ft g λa r g=>dL ft g λt r g=>dL ft g λu r g=>kC g λh1 g=>kC g λh2 h3=>u4 (re h1) (re h2) (aM (gf h3).1 ∅) (aM (gf h3).2 ∅)) λO h=>
 cB h (λq g=>by
  refine ae q ?_
  exact iO ft g λa x g=>dQ ft g λl g=>kC g λh1 h2=>let⟨_,hm⟩:=LK h1;xL hm (gf h2)) λO h=>qe (Bool.not_eq_true' _▸h)
section
variable {ok:D→Bool} {k:Str}
abbrev spU (ok:D→Bool) (ps:↑D):Bool:=vU false ps λf us O=>mz false us λus=>EB ok f&&yX false (usC us) λu=>decide (u.length≤1000)
abbrev spA (ok:D→Bool) (ps:↑D):Bool:=vT false ps λf O=>EB ok f
abbrev spD (ok:D→Bool) (ps:↑D):Bool:=lR false ps λa r=>vS false a λa=>lR false r λb r=>vS false b λb=>lR false r λc r=>lR false r λd r=>vU false r λe f g=>mz false c λc=>mz false e λe=>mz false g λl=>
 if a=gq∧b=CU∧c.isEmpty=true∧e.isEmpty=true∧aL d=true∧aL f=true then l.all (Uz ok)else false
abbrev spT (ok:D→Bool) (ps:↑D):Bool:=vU false ps λb c f=>mz false b λl=>mz false c λcs=>l.all ok&&(cs.all (UA ok)&&LM ok f)
abbrev abF (ok:D→Bool) (k:Str) (ps:↑D):Bool:=if k=ey then spA ok ps else if k=iH then spD ok ps else if k=fP then spT ok ps else false
abbrev spC (ok:D→Bool) (k:Str) (ps:↑D):Bool:=if k=iG then EB ok (.J (.str k::ps))else if k=dH then spU ok ps else abF ok k ps
theorem W7 (hU:∀d,ok d=true→bh d) (g:spU ok ps=true):Pw (.J (.str dH::ps)):=ic ft g λf us x g=>dQ ft g λus g=>kC g λh1 g=>jI ft g λu eu h2=>by
 obtain ⟨nm,p,ty,body,g,e,hf⟩:=xN hU h1
 refine ae e (ae ((Nt eu).1) ?_)
 exact qC hf (Nt eu).2 (gf h2)
theorem W8 (hU:∀d,ok d=true→bh d) (g:EB ok x=true):Pw x:=by
 obtain ⟨nm,p,ty,body,g,e,hf⟩:=xN hU g
 refine ae e ?_;exact Ci hf
theorem W9 (hU:∀d,ok d=true→bh d) (g:spA ok ps=true):Pw (.J (.str ey::ps)):=iO ft g λf x g=>by
 obtain ⟨nm,p,ty,body,g,e,hf⟩:=xN hU g
 refine ae e ?_;exact zF hf
theorem Yx (h:l.isEmpty=true):l=[]:=List.isEmpty_iff.mp h
theorem W' (hU:∀d,ok d=true→bh d) (g:spD ok ps=true):Pw (.J (.str iH::ps)):=dL ft g λa r g=>iN ft g λa g=>dL ft g λb r g=>iN ft g λb g=>dL ft g λc r g=>dL ft g λd r g=>ic ft g λe f x g=>dQ ft g λc g=>dQ ft g λe g=>dQ ft g λl g=>cB g (λcc g2=>by
 refine ae cc.1 (ae cc.2.1 (ae (Yx cc.2.2.1) (ae (Yx cc.2.2.2.1) (ae (gV cc.2.2.2.2.1) (ae (gV cc.2.2.2.2.2) ?_)))))
 exact Ck λy hy=>EC hU (eI.mp g2 y hy)) λO h=>al h ft
theorem Xa (hU:∀d,ok d=true→bh d) (g:spT ok ps=true):Pw (.J (.str fP::ps)):=ic ft g λb c f g=>dQ ft g λl g=>dQ ft g λcs g=>kC g λh1 g=>kC g λh2 h3=>uD (λy hy=>hU y (eI.mp h1 y hy)) (λy hy=>P2 hU (eI.mp h2 y hy)) (EA hU h3)
theorem Xb (hU:∀d,ok d=true→bh d) (h:spC ok k ps=true):Pw (.J (.str k::ps)):=
 cB h (λO g=>W8 hU g) λO h=>cB h (λq g=>q▸W7 hU g) λO h=>cB h (λq g=>q▸W9 hU g) λO h=>cB h (λq g=>q▸W' hU g) λO h=>cB h (λq g=>q▸Xa hU g) λO h=>al h ft
end
abbrev I4:Nat→D→Bool
 |0,_=>false
 |n+1,x=>uO false x λk ps=>fN.contains k&&(if Gr.contains k then spC (I4 n) k ps else yX false (LI k ps) λrs=>yX false (Gy rs ps) λks=>
   pg ps&&(ks.all (I4 n)&&(if oy.contains k then UD k ps else Yw k ps&&(if k=bV then decide (b9 ks+ps.length≤b9 ps)else true))))
theorem kM:∀{x:D},I4 n x=true→bh x:=by
 induction n with
 |zero=>exact λh=>al h ft
 |succ n ih=>
  have hU:∀d,I4 n d=true→bh d:=λd hd=>ih hd
  intro x h
  exact iP ft h λk ps h=>kC h λh0 h=>⟨⟨k,ps,rfl,h0⟩,cB h (λO h=>Xb hU h) λXc h=>jI ft h λrs hr h=>jI ft h λks hk h=>kC h λhd h=>kC h λhN h=>by
   have Xc:=eq_false_of_ne_true Xc
   have hN:mS ks:=λy hy=>(hU y (eI.mp hN y hy)).pw
   have yW:=Ey hk
   exact cB h (λhl h=>mU Xc hl (yZ hr) yW hd hN (P4 h)) λhl h=>kC h λh1 h2=>fT Xc (eq_false_of_ne_true hl) (yZ hr) yW hd hN (UC h1) (by
    have ez:=lC ps
    rw [yW.je]at ez
    exact cB h2 (λq h2=>by refine ae (ao q) ?_;exact gf h2) λq O=>by refine ae (aN q) ?_;exact ez)⟩
abbrev lS (M:↑Nat) (i:Nat):Nat:=M.getD i 0
abbrev jn (M:↑Nat) (ρ bX:↑V):Prop:=∀i,if lS M i=0 then ρ[i]?=bX[i]?else g9 λ(a b:Nat)=>qh (ρ[i]?=some (.d (.int (a:Int)))) (bX[i]?=some (.d (.int (b:Int)))) (a %lS M i=b %lS M i)
abbrev vV (d:D):Option Nat:=D.casesOn d none (λO=>none) (λi=>if 0≤i then some i.toNat else none) (λO=>none) (λO=>none) (λO=>none)
theorem oN (h:vV d=some n):d= .int (n:Int):=by
 induction d using D.casesOn with
 |int i=>exact bn (h:) λq h=>by have h:=bb h;exact dg h (ae (Int.toNat_of_nonneg q) H)
 |_=>exact no (h:)
abbrev UE (e:E):Option Nat:=E.casesOn (motive_1:=λO=>Option Nat) e (λO=>none) some (λO=>none) (λO O=>none) (λO O=>none) (λO O=>none) (λO O O O=>none) (λO O O=>none) (λO O O=>none) (λO O O=>none) (λO=>none) (λO=>none) (λO=>none) (λO O O=>none) (λO O=>none) (λO O=>none) (λO O O=>none) (λO O O O O O=>none) (λO O O O O O O=>none)
abbrev LN (e:E):Option Nat:=E.casesOn (motive_1:=λO=>Option Nat) e vV (λO=>none) (λO=>none) (λO O=>none) (λO O=>none) (λO O=>none) (λO O O O=>none) (λO O O=>none) (λO O O=>none) (λO O O=>none) (λO=>none) (λO=>none) (λO=>none) (λO O O=>none) (λO O=>none) (λO O=>none) (λO O O=>none) (λO O O O O O=>none) (λO O O O O O O=>none)
theorem P5 (h:UE e=some i):e= .var i:=by
 induction e using E.casesOn with
 |var j=>exact aC E.var (bb h)
 |_=>exact no (h:)
theorem ED (h:LN e=some n):e= .az (.int (n:Int)):=by
 induction e using E.casesOn with
 |az d=>exact aC E.az (oN h)
 |_=>exact no (h:)
abbrev Nv (o:Option α) (f:α→Bool):Bool:=o.elim false f
theorem za {o:Option α} {f:α→Bool} {P:Prop} (h:Nv o f=true) (k:∀a,o=some a→f a=true→P):P:=by
 induction o using di with
 |none=>exact bL h
 |some a=>exact k a H h
theorem iV {a:Bool} (h:(a&&b)=true):a=true:=(Ac.mp h).1
theorem gW {a:Bool} (h:(a&&b)=true):b=true:=(Ac.mp h).2
abbrev fdB (M:↑Nat) (m:Nat) (a b:E):Bool:=Nv (UE a) λi=>Nv (LN b) λk=>decide (k≠0∧k<1000000∧lS M i≠0∧lS M i %(k*m)=0)
abbrev Xd (M:↑Nat) (m:Nat) (e:E):Bool:=E.rec (motive_1:=λO=>Bool) (motive_2:=λO=>Bool) (motive_3:=λO=>Bool) (motive_4:=λO=>Bool)
  (λd=>(vV d).isSome) (λi=>decide (lS M i≠0)&&decide (lS M i %m=0)) (λO O=>false) (λO O O=>false) (λO O O=>false) (λO O O O=>false) (λO O O O O O O O=>false) (λop a b x y=>Op.rec (motive:=λO=>Bool) (x&&y) false false false (fdB M m a b) false false op) (λO O O O O=>false) (λO O O O O O=>false) (λO O=>false) (λO O=>false) (λO O=>false) (λO O O O O O=>false) (λO O O=>false) (λO O O=>false) (λO O O O O=>false) (λO O O O O O O O O=>false) (λO O O O O O O O O O=>false) false (λO O O O=>false) false (λO O=>false) (λO O=>false) (λO O=>false) (λO O=>false) (λO O=>false) e
inductive Xe (K:fF) (ρ bX:↑V) (m:Nat) (e:E):Prop
 |mk (x y:Nat):x %m=y %m→(∀σ,ev K e ρ σ= .ok (.d (.int (x:Int)),σ))→(∀σ,ev K e bX σ= .ok (.d (.int (y:Int)),σ))→Xe K ρ bX m e
section
variable {M:↑Nat}
theorem I5 {a b:Nat} (h:a %n=b %n) (hd:n %m=0):a %m=b %m:=by
 obtain ⟨k,rfl⟩:=Nat.dvd_of_mod_eq_zero hd
 exact dg (Nat.mod_mul_right_mod a m k) (dg (Nat.mod_mul_right_mod b m k) (ae h H))
theorem Nw {a b:E} {x u:Nat} (h:ev K a ρ σ= .ok (.d (.int (x:Int)),σ)) (h2:ev K b ρ σ= .ok (.d (.int (u:Int)),σ)):ev K (.aE .add a b) ρ σ= .ok (.d (.int ((x+u:Nat):Int)),σ):=
 cG h h2 (by rw [Int.natCast_add];rfl)
theorem Nx {a k:Nat} (h0:k≠0) (h1:k<1000000) (hr:ρ[i]?=some (.d (.int (a:Int)))):ev K (.aE .fdiv (.var i) (.az (.int (k:Int)))) ρ σ= .ok (.d (.int ((a/k:Nat):Int)),σ):=by
 refine cG (aa hr) ab ((vP ⟨by lia,by rw [Int.natAbs_natCast];exact av h1⟩).trans ?_)
 rw [Int.fdiv_eq_ediv_of_nonneg _ (kG k),Int.natCast_ediv]
theorem I6 {a:E} {x:Nat} (h0:m≠0) (hx:ev K a ρ σ= .ok (.d (.int (x:Int)),σ)):ev K (.aE .mod a (.az (.int (m:Int)))) ρ σ= .ok (.d (.int ((x %m:Nat):Int)),σ):=by
 refine cG hx ab ((yG (by lia)).trans ?_)
 rw [Int.fmod_eq_emod_of_nonneg _ (kG m),Int.natCast_emod]
theorem jn.dig (hM:jn M ρ bX) (h:lS M i≠0):g9 λ(a b:Nat)=>qh (ρ[i]?=some (.d (.int (a:Int)))) (bX[i]?=some (.d (.int (b:Int)))) (a %lS M i=b %lS M i):=(aN h▸hM i:)
theorem Xf (hM:jn M ρ bX) (e:E):Xd M m e=true→Xe K ρ bX m e:=
 E.rec (motive_1:=λe=>Xd M m e=true→Xe K ρ bX m e) (motive_2:=λO=>True) (motive_3:=λO=>True) (motive_4:=λO=>True)
  (λd h=>(Option.isSome_iff_exists.mp (h:)).elim λn hn=>oN hn▸⟨n,n,H,λO=>ab,λO=>ab⟩)
  (λi h=>let⟨a,b,h1,h2,h3⟩:=hM.dig (gf (iV (h:)));⟨a,b,I5 h3 (gf (gW (h:))),λO=>aa h1,λO=>aa h2⟩)
  (λO O h=>bL h) (λO O O h=>bL h) (λO O O h=>bL h) (λO O O O h=>bL h) (λO O O O O O O O h=>bL h)
  (λop a b iha ihb=>Op.rec (motive:=λop=>Xd M m (.aE op a b)=true→Xe K ρ bX m (.aE op a b))
   (λh=>let⟨x,y,h1,h2,h3⟩:=iha (iV (h:));let⟨u,v,g1,g2,g3⟩:=ihb (gW (h:));⟨x+u,y+v,by rw [Nat.add_mod,h1,g1,←Nat.add_mod],λσ=>Nw (h2 σ) (g2 σ),λσ=>Nw (h3 σ) (g3 σ)⟩)
   (λh=>bL h) (λh=>bL h) (λh=>bL h)
   (λh=>za (h:) λi hi h=>za (h:) λk hk h=>by
    obtain ⟨hk0,Oy,h0,hd⟩:=gf h
    obtain ⟨a,b,h1,h2,h3⟩:=hM.dig h0
    refine ae (P5 hi) (ae (ED hk) ?_)
    have h4:=I5 h3 hd
    exact ⟨a/k,b/k,by exact dg (Nat.mod_mul_right_div_self a k m) (dg (Nat.mod_mul_right_div_self b k m) (ae h4 H)),λO=>Nx hk0 Oy h1,λO=>Nx hk0 Oy h2⟩)
   (λh=>bL h) (λh=>bL h) op)
  (λO O O O O h=>bL h) (λO O O O O O h=>bL h) (λO O h=>bL h) (λO O h=>bL h) (λO O h=>bL h) (λO O O O O O h=>bL h) (λO O O h=>bL h) (λO O O h=>bL h) (λO O O O O h=>bL h) (λO O O O O O O O O h=>bL h) (λO O O O O O O O O O h=>bL h)
  trivial (λO O O O=>trivial) trivial (λO O=>trivial) (λO O=>trivial) (λO O=>trivial) (λO O=>trivial) (λO O=>trivial) e
abbrev Ny (M:↑Nat) (a b:E) (op:Op):Bool:=Op.rec (motive:=λO=>Bool) false false false false false (Nv (LN b) λm=>decide (m≠0)&&Xd M m a) false op
theorem UF (hM:jn M ρ bX) {a b:E} {op:Op} (h:Ny M a b op=true) (σ:St):ev K (.aE op a b) ρ σ=ev K (.aE op a b) bX σ:=by
 induction op using Op.casesOn with
 |mod=>
  refine za (h:) λm hm h=>?_
  obtain ⟨x,y,h1,h2,h3⟩:=Xf (K:=K) hM a (gW h)
  exact ae (ED hm) (ae (I6 (gf (iV h)) (h2 σ)) (ae (I6 (gf (iV h)) (h3 σ)) (ae h1 H)))
 |_=>exact bL (h:)
end
abbrev zH (M:↑Nat) (e:E):Bool:=E.rec (motive_1:=λO=>Bool) (motive_2:=λO=>Bool) (motive_3:=λO=>Bool) (motive_4:=λO=>Bool)
  (λO=>true) (λi=>decide (lS M i=0)) (λO h=>h) (λO O h=>h) (λO O O=>false) (λO O a b=>a&&b) (λO O O O a b c d=>a&&(b&&(c&&d))) (λop a b x y=>Ny M a b op||(x&&y)) (λO O O a b=>a&&b) (λO O O O O O=>false) (λO h=>h) (λO h=>h) (λO h=>h) (λO O O a b c=>a&&(b&&c)) (λO O h=>h) (λO O h=>h) (λO O O O O=>false) (λO O O O O O O O O=>false) (λO O O O O O O O O O=>false) true (λO O a b=>a&&b) true (λO h=>h) (λO O=>false) (λO O=>false) (λO O=>false) (λO O=>false) e
abbrev aaD (M:↑Nat) (e:Es):Bool:=Es.rec (motive_1:=λO=>Bool) (motive_2:=λO=>Bool) (motive_3:=λO=>Bool) (motive_4:=λO=>Bool)
  (λO=>true) (λi=>decide (lS M i=0)) (λO h=>h) (λO O h=>h) (λO O O=>false) (λO O a b=>a&&b) (λO O O O a b c d=>a&&(b&&(c&&d))) (λop a b x y=>Ny M a b op||(x&&y)) (λO O O a b=>a&&b) (λO O O O O O=>false) (λO h=>h) (λO h=>h) (λO h=>h) (λO O O a b c=>a&&(b&&c)) (λO O h=>h) (λO O h=>h) (λO O O O O=>false) (λO O O O O O O O O=>false) (λO O O O O O O O O O=>false) true (λO O a b=>a&&b) true (λO h=>h) (λO O=>false) (λO O=>false) (λO O=>false) (λO O=>false) e
abbrev UG (M:↑Nat) (e:Oe):Bool:=Oe.rec (motive_1:=λO=>Bool) (motive_2:=λO=>Bool) (motive_3:=λO=>Bool) (motive_4:=λO=>Bool)
  (λO=>true) (λi=>decide (lS M i=0)) (λO h=>h) (λO O h=>h) (λO O O=>false) (λO O a b=>a&&b) (λO O O O a b c d=>a&&(b&&(c&&d))) (λop a b x y=>Ny M a b op||(x&&y)) (λO O O a b=>a&&b) (λO O O O O O=>false) (λO h=>h) (λO h=>h) (λO h=>h) (λO O O a b c=>a&&(b&&c)) (λO O h=>h) (λO O h=>h) (λO O O O O=>false) (λO O O O O O O O O=>false) (λO O O O O O O O O O=>false) true (λO O a b=>a&&b) true (λO h=>h) (λO O=>false) (λO O=>false) (λO O=>false) (λO O=>false) e
section
variable {M:↑Nat}
theorem R.jZ {r r':R α} {f g:α→R β} (h:r=r') (k:∀a,f a=g a):r.bind f=r'.bind g:=h▸aC _ (funext k)
theorem R.ifc {t:Bool} {a b c d:R α} (h:a=c) (k:b=d):(if t then a else b)=if t then c else d:=h▸k▸rfl
inductive vW (K:fF) (ρ bX:↑V) (es:Es):Prop
 |mk:(∀σ,i3 K es ρ σ=i3 K es bX σ)→(∀σ,th K es ρ σ=th K es bX σ)→(∀σ,zj K es ρ σ=zj K es bX σ)→vW K ρ bX es
theorem vW.cons {es:Es} (h:∀σ,ev K e ρ σ=ev K e bX σ) (a:vW K ρ bX es):vW K ρ bX (.cons e es):=by
 obtain ⟨a1,a2,a3⟩:=a
 refine ⟨λσ=>R.jZ (h σ) λp=>R.jZ (a1 _) λO=>rfl,?_,?_⟩
 ·induction es using Es.casesOn with
  |nil=>exact h
  |cons e2 es=>exact λσ=>R.jZ (h σ) λp=>R.jZ H λt=>R.ifc (a2 _) H
 ·induction es using Es.casesOn with
  |nil=>exact h
  |cons e2 es=>exact λσ=>R.jZ (h σ) λp=>R.jZ H λt=>R.ifc H (a3 _)
theorem vW.s {es:Es} (a:vW K ρ bX es) (σ:St):i3 K es ρ σ=i3 K es bX σ:=a.rec λh O O=>h σ
theorem AD (hM:jn M ρ bX) (e:E):zH M e=true→∀σ,ev K e ρ σ=ev K e bX σ:=
 E.rec (motive_1:=λe=>zH M e=true→∀σ,ev K e ρ σ=ev K e bX σ) (motive_2:=λes=>aaD M es=true→vW K ρ bX es) (motive_3:=λo=>UG M o=true→∀σ,yb K o ρ σ=yb K o bX σ) (motive_4:=λO=>True)
  (λO O O=>rfl)
  (λi h σ=>aC (λo=>(qL o).bind λv=>R.ok (v,σ)) ((ao (gf h)▸hM i:):ρ[i]?=bX[i]?))
  (λO ih h σ=>R.jZ ((ih h).s σ) λO=>rfl) (λO O ih h σ=>R.jZ ((ih h).s σ) λO=>rfl) (λO O O h=>bL h)
  (λO O ih tj h σ=>R.jZ (ih (iV h) σ) λO=>R.jZ (tj (gW h) _) λO=>rfl)
  (λO O O O ih tj ih3 ih4 h σ=>R.jZ (ih (iV h) σ) λO=>R.jZ (tj (iV (gW h)) _) λO=>R.jZ (ih3 (iV (gW (gW h))) _) λO=>R.jZ (ih4 (gW (gW (gW h))) _) λO=>rfl)
  (λO O O ih tj h σ=>(Bool.or_eq_true_iff.mp h).elim (λh=>UF hM h σ) λh=>R.jZ (ih (iV h) σ) λO=>R.jZ (tj (gW h) _) λO=>rfl)
  (λO O O ih tj h σ=>R.jZ (ih (iV h) σ) λO=>R.jZ (tj (gW h) _) λO=>rfl)
  (λO O O O O O h=>bL h)
  (λO ih h σ=>(ih h).rec λO h O=>h σ) (λO ih h σ=>(ih h).rec λO O h=>h σ)
  (λO ih h σ=>R.jZ (ih h σ) λO=>rfl)
  (λO O O ih tj ih3 h σ=>R.jZ (ih (iV h) σ) λO=>R.jZ H λO=>R.ifc (tj (iV (gW h)) _) (ih3 (gW (gW h)) _))
  (λO O ih h σ=>R.jZ ((ih h).s σ) λO=>rfl) (λO O ih h σ=>R.jZ (ih h σ) λO=>rfl)
  (λO O O O O h=>bL h) (λO O O O O O O O O h=>bL h) (λO O O O O O O O O O h=>bL h)
  (λO=>⟨λO=>rfl,λO=>rfl,λO=>rfl⟩) (λO O ih tj h=> .cons (ih (iV h)) (tj (gW h)))
  (λO O=>rfl) (λO ih h σ=>R.jZ (ih h σ) λO=>rfl) (λO O=>trivial) (λO O=>trivial) (λO O=>trivial) (λO O=>trivial) e
end
abbrev Yy (M:↑Nat) (s:S):Bool:=S.rec (motive_1:=λO=>Bool) (motive_2:=λO=>Bool)
  (λx e=>decide (lS M x=0)&&zH M e) (λxs e=>xs.all (λx=>lS M x=0)&&zH M e) (λO O O=>false) (λO O=>false) (λc O O a b=>zH M c&&(a&&b)) (λO O O O=>false) (λO O O=>false) (λo=>UG M o) (λO=>false) false (λO O=>false) (λO O=>false) (λO=>false) (λO=>false) (λO O=>false) true (λO O a b=>a&&b) s
abbrev Cq (M:↑Nat) (s:Ss):Bool:=Ss.rec (motive_1:=λO=>Bool) (motive_2:=λO=>Bool)
  (λx e=>decide (lS M x=0)&&zH M e) (λxs e=>xs.all (λx=>lS M x=0)&&zH M e) (λO O O=>false) (λO O=>false) (λc O O a b=>zH M c&&(a&&b)) (λO O O O=>false) (λO O O=>false) (λo=>UG M o) (λO=>false) false (λO O=>false) (λO O=>false) (λO=>false) (λO=>false) (λO O=>false) true (λO O a b=>a&&b) s
inductive mC (M:↑Nat):RS→RS→Prop
 |ok {fl:Fl} {ρ bX:↑V} {σ:St}:jn M ρ bX→mC M (.ok (fl,ρ,σ)) (.ok (fl,bX,σ))
 |dW {m:Str}:mC M (.dW m) (.dW m)
 |aQ:mC M .aQ .aQ
variable {r':RS}
section
variable {M:↑Nat}
theorem jn.set (h:jn M ρ bX) {x:Nat} (hx:lS M x=0) (v:V):jn M (ρ.set x v) (bX.set x v):=λi=>by
 have hi:=h i
 by_cases q:x=i
 ·subst q
  rw [ao hx]at hi⊢
  rw [List.getElem?_set,List.getElem?_set,ao H,ao H]
  by_cases hl:x<ρ.length
  ·have:x<bX.length:=by
    rw [fE hl]at hi
    exact (jo.mp hi.symm).1
   rw [ao hl,ao this]
  ·have:¬x<bX.length:=λCL=>by
    rw [fE CL,rm (av (Nat.not_lt.mp hl))]at hi;exact nomatch hi
   exact ae (aN hl) (ae (aN this) H)
 ·rw [kE q];refine ae (kE q) ?_;exact hi
theorem jn.Yz:∀(xs:↑Nat) (l:↑D) {ρ bX:↑V},jn M ρ bX→xs.all (λx=>lS M x=0)=true→jn M ((xs.zip l).foldl (λr p=>r.set p.1 (.d p.2)) ρ) ((xs.zip l).foldl (λr p=>r.set p.1 (.d p.2)) bX)
 |[],_,_,_,h,_=>h
 |_::_,[],_,_,h,_=>h
 |x::xs,d::l,ρ,bX,h,hx=>by
  simp only [om,c9,lk]at hx
  exact jn.Yz xs l (h.set hx.1 (.d d)) (by simpa using hx.2)
theorem mC.vX {r r':R α} {f g:α→RS} (e:r=r') (h:∀p,mC M (f p) (g p)):mC M (r.bind f) (r'.bind g):=by
 subst e
 induction r using R.casesOn with
 |ok p=>exact h p
 |dW m=>exact .dW
 |aQ=>exact .aQ
theorem mC.wt {r:RS} {f:↑V→St→RS} (h:mC M r r') (k:∀ρ bX σ,jn M ρ bX→mC M (f ρ σ) (f bX σ)):mC M (r.bind λp=>wt p f) (r'.bind λp=>wt p f):=by
 induction h with
 |@ok fl ρ1 ab0 σ1 h3=>induction fl using Fl.casesOn with
  |next=>exact k _ _ _ h3
  |cont=>exact .ok h3
  |ret v=>exact .ok h3
 |dW=>exact .dW
 |aQ=>exact .aQ
theorem P6 (hM:jn M ρ bX) {xs:↑Nat} (h:xs.all (λx=>lS M x=0)=true) (v:V) (σ:St):mC M ((bk (.aO xs) v ρ).bind λρ=> .ok (.next,ρ,σ)) ((bk (.aO xs) v bX).bind λρ=> .ok (.next,ρ,σ)):=by
 simp only [bk,R.bind_assoc]
 refine .vX H λy=> .vX H λl=>?_
 by_cases hl:l.length=xs.length
 ·refine ae (ao hl) (ae (ao hl) ?_);exact .ok (jn.Yz xs l hM h)
 ·refine ae (aN hl) (ae (aN hl) ?_);exact .aQ
theorem I7 (hM:jn M ρ bX) (ss:Ss) (h:Cq M ss=true) (σ:St):mC M (bg K w ss ρ σ) (bg K w ss bX σ):=
 Ss.rec (motive_1:=λs=>Yy M s=true→∀ρ bX σ,jn M ρ bX→mC M (ex K w s ρ σ) (ex K w s bX σ)) (motive_2:=λs=>Cq M s=true→∀ρ bX σ,jn M ρ bX→mC M (bg K w s ρ σ) (bg K w s bX σ))
  (λO e h O O σ hM=> .vX (AD hM e (gW h) σ) λO=> .ok (hM.set (gf (iV h)) _))
  (λO e h O O σ hM=> .vX (AD hM e (gW h) σ) λO=>P6 hM (iV h) _ _)
  (λO O O h=>bL h) (λO O h=>bL h)
  (λc O O iha ihb h O O σ hM=> .vX (AD hM c (iV h) σ) λp=> .vX H λt=>by induction t using ar with
   |true=>exact iha (iV (gW h)) _ _ _ hM
   |false=>exact ihb (gW (gW h)) _ _ _ hM)
  (λO O O O h=>bL h) (λO O O h=>bL h)
  (λo=>Oe.casesOn (motive_3:=λo=>Yy M (.ret o)=true→∀ρ bX σ,jn M ρ bX→mC M (ex K w (.ret o) ρ σ) (ex K w (.ret o) bX σ)) o (λO O O O hM=> .ok hM) λe h O O σ hM=> .vX (AD hM e h σ) λO=> .ok hM)
  (λO h=>bL h) (λh=>bL h) (λO O h=>bL h) (λO O h=>bL h) (λO h=>bL h) (λO h=>bL h) (λO O h=>bL h)
  (λO O O O hM=> .ok hM) (λO O ih tj h O O σ hM=> .wt (ih (iV h) _ _ σ hM) λO O O hM=>tj (gW h) _ _ _ hM) ss h ρ bX σ hM
end
abbrev cI (l:↑Nat):↑V:=l.map λ(k:Nat)=> .d (.int k)
theorem e9:∀l,cv (cI l)=[]
 |[]=>rfl
 |k::l=>by
  exact e9 l
theorem I8:∀(M l l':↑Nat) (r:↑V),M.length=l.length→l.length=l'.length→(∀i,i<M.length→lS M i≠0∧l.getD i 0 %lS M i=l'.getD i 0 %lS M i)→jn M (cI l++r) (cI l'++r)
 |M,l,l',r,h1,h2,h,i=>by
  by_cases hi:i<M.length
  ·obtain ⟨h3,h4⟩:=h i hi
   refine ae (aN h3) ?_
   refine ⟨l.getD i 0,l'.getD i 0,?_,?_,h4⟩
   ·refine ae (lT (by simp [cI];lia)) ?_
    simp [cI,fE (by lia:i<l.length),List.getD_eq_getElem?_getD]
   ·refine ae (lT (by simp [cI];lia)) ?_
    simp [cI,fE (by lia:i<l'.length),List.getD_eq_getElem?_getD]
  ·rw [ao (by unfold lS;rw [List.getD_eq_getElem?_getD];refine ae (rm (by lia)) ?_;rfl)]
   refine ae (s5 (by simp [cI];lia)) (ae (s5 (by simp [cI];lia)) ?_)
   simp [cI,h2]
theorem P7 {M l l':↑Nat} (hi:Cq M (code f).body=true) (h1:M.length=l.length) (h2:l.length=l'.length) (h:∀i,i<M.length→lS M i≠0∧l.getD i 0 %lS M i=l'.getD i 0 %lS M i):call code n f (cI l) σ=call code n f (cI l') σ:=by
 induction n using gi with
 |zero=>rfl
 |succ n=>
  show iu (code f) _ (cI l) σ=iu (code f) _ (cI l') σ
  unfold iu
  have cb:(cI l).length=(cI l').length:=by simp [cI,h2]
  rw [e9,e9];refine ae cb ?_
  by_cases hc:(cI l').length=(code f).params∧([]:↑Nat).Nodup
  ·refine ae (ao hc) ?_;rw [ao hc,pf _ (e9 l),pf _ (e9 l')]
   congr 1;funext cells
   have key:=I7 (K:=call code n) (w:=n) (I8 M l l' (List.replicate ((code f).slots -(code f).params) .un) h1 h2 h) (code f).body hi cells
   generalize bg (call code n) n (code f).body (cI l++List.replicate ((code f).slots -(code f).params) .un) cells=r at key
   generalize bg (call code n) n (code f).body (cI l'++List.replicate ((code f).slots -(code f).params) .un) cells=r' at key
   induction key using mC.casesOn<;>rfl
  ·refine ae (aN hc) ?_;rw [aN hc]
abbrev OZ (x:D):Bool:=I4 60 x&&decide (ht x≤20)&&decide (sz x≤1000)
mutual
noncomputable def zb:D→(D→Bool)→Bool
 | .none,k=>k .none
 | .bool b,k=>(match b with|true=>k (.bool true)|false=>k (.bool false))
 | .int i,k=>k (.int i)
 | .str s,k=>k (.str s)
 | .aD l,k=>xO l λm=>k (.aD m)
 | .J l,k=>xO l λm=>k (.J m)
noncomputable def xO:↑D→(↑D→Bool)→Bool
 |[],k=>k []
 |x::l,k=>zb x λy=>xO l λm=>k (y::m)
end
mutual
theorem zc:∀(x:D) (k:D→Bool),zb x k=k x
 | .none,k=>rfl
 | .bool true,k=>rfl
 | .bool false,k=>rfl
 | .int i,k=>rfl
 | .str s,k=>rfl
 | .aD l,k=>by dsimp only [zb];exact vY l _
 | .J l,k=>by dsimp only [zb];exact vY l _
theorem vY:∀(l:↑D) (k:↑D→Bool),xO l k=k l
 |[],k=>rfl
 |x::l,k=>by dsimp only [xO];rw [zc,vY]
end
abbrev YA (n:Nat) (f:F) (p:D→Bool) (l:↑Nat):Bool:=match call code n f (cI l) []with
 | .ok (.d x,_)=>zb x p
 |_=>false
abbrev UH:List ↑Nat→(↑Nat→Bool)→Bool
 |[],p=>p []
 |L::r,p=>L.all λk=>UH r λl=>p (k::l)
abbrev Cr (f:F) (C:List ↑Nat):Bool:=UH C (YA 297 f OZ)
theorem I9:∀{C:List ↑Nat} {p:↑Nat→Bool} {l:↑Nat},UH C p=true→l.length=C.length→(∀i,i<C.length→l.getD i 0∈C.getD i [])→p l=true
 |[],p,[],h,_,_=>h
 |L::r,p,k::l,h,hl,hm=>by
  have h1:=eI.mp h k (hm 0 (by simp))
  exact I9 (p:=λl=>p (k::l)) h1 (by simpa using hl) λi hi=>hm (i+1) (by simpa using hi)
structure BP (x:D):Prop where
 nd:bh x
 ht:ht x≤20
 sz:sz x≤1000
theorem Nz (h:OZ x=true):BP x:=by
 unfold OZ at h
 rw [c9,c9]at h
 exact ⟨kM h.1.1,gf h.1.2,gf h.2⟩
theorem lN {s:St} (hr:cv args=[]) (h:call code n f args []= .ok (.d x,s)) (σ:St):call code n f args σ= .ok (.d x,σ):=by
 induction n using gi with
 |zero=>cases h
 |succ n=>
  have h':iu (code f) (bg (call code n) n (code f).body) args []= .ok (.d x,s):=h
  show iu (code f) (bg (call code n) n (code f).body) args σ=_
  unfold iu at h'⊢
  rw [hr]at h'⊢
  by_cases hc:args.length=(code f).params∧([]:↑Nat).Nodup
  ·rw [ao hc]at h'⊢
   change (bg (call code n) n (code f).body (args.map (kX (en []))++List.replicate ((code f).slots -(code f).params) .un) []).bind _=_ at h'
   change (bg (call code n) n (code f).body (args.map (kX (en []))++List.replicate ((code f).slots -(code f).params) .un) []).bind _=_
   generalize bg (call code n) n (code f).body _ []=r at h'⊢
   induction r using R.casesOn with
   |dW m=>cases h'
   |aQ=>cases h'
   |ok p=>
    obtain ⟨fl,ρ1,σ1⟩:=p
    change gh [] [] σ1 (wu fl)=_ at h'
    change gh [] σ σ1 (wu fl)=_
    generalize wu fl=w at h'⊢
    induction w using V.casesOn with
    |un=>cases h'
    |d y=>rw [mT]at h'⊢;injection h' with h';injection h' with h' _;exact ae h' H
    |eO k=>
     dsimp only [gh]at h'
     split at h'
     ·injection h' with h';injection h' with h' _;cases h'
     ·cases h'
    |ref t=>
     dsimp only [gh,List.getElem?_nil]at h'⊢
     generalize σ1[t]?=q at h'⊢
     match q,h' with
     |some (.list m),h'=>injection h' with h';injection h' with h' _;injection h' with h';subst h';dsimp only;induction σ1 using List.casesOn<;>rfl
     |some (.dict k),h'=>
      dsimp only at h'
      split at h'
      ·injection h' with h';injection h' with h' _;cases h'
      ·cases h'
     |none,h'=>cases h'
  ·rw [aN hc]at h';cases h'
theorem mW {C:List ↑Nat} {l:↑Nat} (h:Cr f C=true) (hi:Cq (C.map List.length) (code f).body=true) (hC:C.all (λL=>L.length≠0&&(List.range L.length).all (L.contains ·))=true) (hl:C.length=l.length) (σ:St):∃x,call code 297 f (cI l) σ= .ok (.d x,σ)∧BP x:=by
 have hm:∀i,i<C.length→lS (C.map List.length) i=(C.getD i []).length:=λi hi=>by simp [lS,List.getD_eq_getElem?_getD,lj,fE hi]
 have hc:∀i,i<C.length→(C.getD i []).length≠0∧∀k,k<(C.getD i []).length→k∈C.getD i []:=λi hi=>by
  have:=eI.mp hC C[i] (rD hi)
  rw [c9,lk]at this
  have e:C.getD i []=C[i]:=by simp [List.getD_eq_getElem?_getD,fE hi]
  refine ae e ?_
  exact ⟨this.1,λk hk=>by have:=eI.mp this.2 k (List.mem_range.mpr hk);simpa using this⟩
 let l':=(List.range C.length).map λi=>l.getD i 0 %(C.getD i []).length
 have CL:∀i,i<C.length→l'.getD i 0=l.getD i 0 %(C.getD i []).length:=λi hi=>by simp [l',List.getD_eq_getElem?_getD,lj,List.getElem?_range hi]
 have cb:l'.length=C.length:=by simp [l']
 have key:∀σ,call code 297 f (cI l) σ=call code 297 f (cI l') σ:=λσ=>P7 hi (by simp [hl]) (by lia) λi hi=>by
  rw [fb]at hi
  refine ae (hm i hi) ?_
  exact ⟨(hc i hi).1,by refine ae (CL i hi) ?_;rw [Nat.mod_mod]⟩
 have hr:=I9 h cb λi hi=>by refine ae (CL i hi) ?_;exact (hc i hi).2 _ (Nat.mod_lt _ (rx (hc i hi).1))
 unfold YA at hr
 split at hr
 ·rename_i hx
  rw [zc]at hr
  exact ⟨_,by rw [key];exact lN (e9 _) hx σ,Nz hr⟩
 ·cases hr
abbrev r2:↑Nat:=[0,1]
abbrev r3:↑Nat:=[0,1,2]
abbrev r4:↑Nat:=[0,1,2,3]
abbrev r5:↑Nat:=[0,1,2,3,4]
abbrev r6:↑Nat:=[0,1,2,3,4,5]
abbrev r8:↑Nat:=[0,1,2,3,4,5,6,7]
abbrev r9:↑Nat:=[0,1,2,3,4,5,6,7,8]
abbrev r10:↑Nat:=[0,1,2,3,4,5,6,7,8,9]
abbrev r32:↑Nat:=[0,1,2,3,4,5,6,7,8,9,10,11,12,13,14,15,16,17,18,19,20,21,22,23,24,25,26,27,28,29,30,31]
theorem LO:Cr .lY [r5,r3,r4]=true:=by decide+kernel
theorem Xg:Cr .qH [r9,r3,r3]=true:=by decide+kernel
theorem UI:Cr .oP [r3,r6,r2]=true:=by decide+kernel
theorem UJ:Cr .oQ [r10,r5,r4]=true:=by decide+kernel
theorem Xh:Cr .qI [r4,r8,r2]=true:=by decide+kernel
theorem P8:Cr .nv [r4,r2,r2]=true:=by decide+kernel
abbrev oz:Nat→Ss→Ss
 |n+1, .cons s r=> .cons s (oz n r)
 |_,_=> .nil
theorem Cs {q p:Ss} {r:RS} (h:bg K w p ρ σ= .ok (.next,ρ1,σ1)) (h2:bg K w q ρ1 σ1=r):bg K w (sq p q) ρ σ=r:=Cd.trans (bo h h2)
abbrev UK (x:Nat) (s:S):Bool:=S.casesOn (motive_1:=λO=>Bool) s (λy O=>decide (y≠x)) (λys O=>ys.all (·≠x)) (λO O O=>false) (λO O=>false) (λO O O=>false) (λO O O=>false) (λO O=>false) (λO=>false) (λO=>false) false (λO O=>false) (λO O=>false) (λO=>false) (λO=>false) (λO O=>false)
abbrev LP (x:Nat):Ss→Bool:=Ss.rec (motive_1:=λO=>Unit) (motive_2:=λO=>Bool) (λO O=>()) (λO O=>()) (λO O O=>()) (λO O=>()) (λO O O O O=>()) (λO O O O=>()) (λO O O=>()) (λO=>()) (λO=>()) () (λO O=>()) (λO O=>()) (λO=>()) (λO=>()) (λO O=>()) true (λs O O b=>UK x s&&b)
theorem LQ {x:Nat} (ys:↑Nat):∀(l:↑D) (ρ:↑V),ys.all (·≠x)=true→((ys.zip l).foldl (λr p=>r.set p.1 (.d p.2)) ρ)[x]?=ρ[x]?:=by
 induction ys with
 |nil=>exact λO O O=>rfl
 |cons y ys ih=>
  intro l ρ h
  induction l using bu with
  |nil=>rfl
  |cons d l=>
   rw [om]at h
   exact (ih l (ρ.set y (.d d)) (gW h)).trans (kE (gf (iV h)))
inductive NA (ρ ρ1:↑V) (x:Nat) (fl:Fl):Prop
 |mk:fl= .next→ρ1[x]?=ρ[x]?→NA ρ ρ1 x fl
theorem P9 {x:Nat} {s:S} {p:Fl×↑V×St} (hk:UK x s=true) (h:ex K w s ρ σ= .ok p):NA ρ p.2.1 x p.1:=by
 induction s using S.casesOn with
 |bD y e=>exact R.ah (h:) λq O h=>R.aF (P:=λp=>NA ρ p.2.1 x p.1) h ⟨rfl,kE (gf hk)⟩
 |qJ ys e=>
  refine R.ah (h:) λq O h=>R.ah h λρ2 h2 h=>R.aF (P:=λp=>NA ρ p.2.1 x p.1) h ⟨rfl,?_⟩
  exact R.ah (h2:) λd O h2=>R.ah h2 λl O h2=>R.bn h2 λO h2=>R.aF (P:=λr=>r[x]?=ρ[x]?) h2 (LQ ys l ρ hk)
 |_=>exact bL (hk:)
theorem LR {x:Nat} (p:Ss):∀{ρ ρ1:↑V} {σ σ1:St},LP x p=true→bg K w p ρ σ= .ok (fl,ρ1,σ1)→ρ1[x]?=ρ[x]?:=
 Ss.rec (motive_1:=λO=>True) (motive_2:=λp=>∀{ρ ρ1:↑V} {σ σ1:St},LP x p=true→bg K w p ρ σ= .ok (fl,ρ1,σ1)→ρ1[x]?=ρ[x]?)
  (λO O=>trivial) (λO O=>trivial) (λO O O=>trivial) (λO O=>trivial) (λO O O O O=>trivial) (λO O O O=>trivial) (λO O O=>trivial) (λO=>trivial) (λO=>trivial) trivial (λO O=>trivial) (λO O=>trivial) (λO=>trivial) (λO=>trivial) (λO O=>trivial)
  (λ{ρ _ _ _} _ h=>R.aF (P:=λq=>q.2.1[x]?=ρ[x]?) (h:) H)
  (λs r _ ih {ρ ρ1 σ σ1} hk h=>R.ah (h:) λq hq h=>by
   obtain ⟨h1,h2⟩:=P9 (iV hk) hq
   obtain ⟨f,ρ2,d8⟩:=q
   subst h1
   exact (ih (gW hk) (h:)).trans h2) p
theorem dI {a:Nat} (h:ev K e ρ σ= .ok (.d (.int (a:Int)),σ1)) (hm:m≠0):ev K (.aE .mod e (.az (.int (m:Int)))) ρ σ= .ok (.d (.int ((a %m:Nat):Int)),σ1):=by
 refine cG h ab ((yG (by lia)).trans ?_)
 rw [Int.fmod_eq_emod_of_nonneg _ (kG m),Int.natCast_emod]
theorem mX {k:Nat} (h:l[k]?=some x) (hb:l.length≤aT):gT σ (.d (.aD l)) (.int (k:Int))= .ok (.d x):=Lb.trans (bo (qX h hb) H)
abbrev okR (r:R α) (f:α→Bool):Bool:=R.casesOn r f (λO=>false) false
theorem UL {r:R α} {f:α→Bool} {P:Prop} (h:okR r f=true) (k:∀a,r= .ok a→f a=true→P):P:=by
 induction r using R.casesOn with
 |ok a=>exact k a H h
 |_=>exact bL (h:)
abbrev Xi (f:Fl):Bool:=Fl.casesOn f true false (λO=>false)
abbrev aaE (r:Nat) (p:Fl×↑V×St):R ↑D:=if p.2.2=[]∧Xi p.1=true then(qL p.2.1[r]?).bind λv=>(gI v).bind qj else .aQ
abbrev LS (f:F) (np r m:Nat) (C:↑Nat):Bool:=C.all λb=>okR ((bg (call code 296) 296 (oz np (code f).body) (cI [0,b]++List.replicate ((code f).slots -2) .un) []).bind (aaE r)) λL=>L.length==m&&L.all λx=>zb x OZ
theorem R.noe {a:α} {m:Str} {P:Prop} (h:(R.dW m:R α)= .ok a):P:=nomatch h
theorem mC.get {M:↑Nat} {r:RS} {P:Prop} (h:mC M r r') (e:r'= .ok (fl,bX,σ)) (k:∀ρ,r= .ok (fl,ρ,σ)→jn M ρ bX→P):P:=by
 induction h with
 |@ok f1 ρ1 ρ2 σ1 hM=>exact R.aF (P:=λq=>(∀ρ,R.ok (f1,ρ1,σ1)= .ok (q.1,ρ,q.2.2)→jn M ρ q.2.1→P)→P) (e:) (λk=>k ρ1 H hM) k
 |dW=>exact R.noe e
 |aQ=>exact R.no e
theorem P' {o:Option V} (h:qL o= .ok v):o=some v:=by
 induction o using di with
 |none=>exact R.no h
 |some u=>induction u using V.casesOn<;>first|exact R.no h|exact R.aF (P:=λv=>some _=some v) (h:) H
theorem Xj {L:↑D} (h:gI v= .ok d) (h2:qj d= .ok L):v= .d (.aD L):=by
 induction v using V.casesOn with
 |d x=>exact R.aF (P:=λd=>qj d= .ok L→V.d x= .d (.aD L)) (h:) (λh2=>by
   induction x using D.casesOn with
   |aD l=>exact R.aF (P:=λL=>V.d (.aD l)= .d (.aD L)) (h2:) H
   |_=>exact R.no (h2:)) h2
 |_=>exact R.no (h:)
theorem jn.aD {M:↑Nat} {r:Nat} {L:↑D} (h:jn M ρ bX) (e:bX[r]?=some (.d (.aD L))):ρ[r]?=some (.d (.aD L)):=by
 by_cases q:lS M r=0
 ·exact ((ao q▸h r:):ρ[r]?=bX[r]?).trans e
 ·obtain ⟨_,_,_,h2,_⟩:=h.dig q
  exact V.noConfusion (bb (h2.symm.trans e)) λq=>D.noConfusion q
theorem EE {np r:Nat} {C:↑Nat} {a b:Nat} (h:LS f np r m C=true) (hf:(code f).params=2) (hm:m≠0) (HX:m<100) (hi:Cq [1,C.length] (oz np (code f).body)=true) (hC:C.length≠0∧(List.range C.length).all (C.contains ·)=true)
  (hk:LP 0 (oz np (code f).body)=true) (hb:(code f).body=sq (oz np (code f).body) {.ret (.some (.aw (.var r) (.aE .mod ↑0 (.az (.int (m:Int))))))}) (σ:St):∃x,call code 297 f (cI [a,b]) σ= .ok (.d x,σ)∧BP x:=by
 have oY:b %C.length∈C:=List.contains_iff_mem.mp (eI.mp hC.2 (b %C.length) (List.mem_range.mpr (Nat.mod_lt _ (rx hC.1))))
 have env:jn [1,C.length] (cI [a,b]++List.replicate ((code f).slots -2) .un) (cI [0,b %C.length]++List.replicate ((code f).slots -2) .un):=I8 [1,C.length] [a,b] [0,b %C.length] _ rfl rfl λi hi=>by
  induction i using gi with
  |zero=>exact ⟨by show 1≠0;decide,by show a %1=0 %1;rw [Nat.mod_one]⟩
  |succ i=>induction i using gi with
   |zero=>exact ⟨hC.1,(Nat.mod_mod _ _).symm⟩
   |succ i=>exact al hi (by simp)
 refine UL (eI.mp h _ oY) λL hL hx=>R.ah hL λp hp hL=>R.bn (hL:) λhn hL=>R.ah (hL:) λv hv hL=>R.ah hL λd hd hL=>?_
 have hL':=P' hv
 rw [Xj hd hL]at hL'
 obtain ⟨fl,bX,σ'⟩:=p
 refine (I7 (K:=call code 296) (w:=296) env _ hi []).get hp λρ e hM=>?_
 have cb:=dz (iV hx)
 have ke:a %m<L.length:=by refine ae cb ?_;exact Nat.mod_lt _ (rx hm)
 have hU:=eI.mp (gW hx) _ (rD ke)
 rw [zc]at hU
 have hfl:fl= .next:=by
  have q:=hn.2
  induction fl using Fl.casesOn with
  |next=>rfl
  |_=>exact bL (q:)
 rw [hfl,show σ'=[]from hn.1]at e
 refine ⟨L[a %m],lN (e9 _) (s:=[]) ?_ σ,Nz hU⟩
 refine bG (fl:= .ret (.d L[a %m])) (ρ1:=ρ) (σ1:=[]) (e9 _) (by refine ae hf ?_;rfl) ?_ rfl
 refine ae hb (ae hf ?_)
 exact Cs e (bq (aR (aa (hM.aD hL')) (dI (aa ((LR _ hk e).trans H)) hm) (mX (fE ke) (by refine ae cb ?_;exact aM (Nat.le_of_lt HX) ∅))))
theorem Xk:LS .oA 3 7 31 r8=true:=by decide+kernel
theorem GC:LS .gH 7 10 17 r32=true:=by decide+kernel
theorem I' (a b:Nat) (σ:St):∃x,call code 297 .oA (cI [a,b]) σ= .ok (.d x,σ)∧BP x:=EE Xk H ∅ ∅ ⋯ ⋯ ⋯ rfl σ
theorem zd (a b:Nat) (σ:St):∃x,call code 297 .gH (cI [a,b]) σ= .ok (.d x,σ)∧BP x:=EE GC H ∅ ∅ ⋯ ⋯ ⋯ rfl σ
abbrev xT (nm:Str) (b:Bool):D:=if b then .J [.str dH,eE eW [] .none (.J []) false,eH [(nm,false),(nm,true)], .bool false]else .J [.str bN, .str mL]
variable {ms:↑D}
theorem nQ:call code (n+1) .fD [.d (.str nm), .d (.J ps), .d ty, .d body, .d (.bool g)] σ= .ok (.d (.J [.str iG, .str nm, .J ps,ty,body, .bool false, .bool g]),σ):=
 bG H rfl (bq (aV (ac ab (ac (aa H) (ac (aa H) (ac (aa H) (ac (aa H) (ac ab (ei H))))))) H)) H
theorem sv {x:Str} {v:Bool} {p:Str}:call code (n+1) .jr [.d (.str x), .d d, .d (.bool v), .d (.str p)] σ= .ok (.d (cu ⟨x,d,v,p⟩),σ):=
 bG H rfl (bq (aV (ac ab (ac (aa H) (ac ab (ac (aa H) (ac ab (ac (aa H) (ac (aa H) f9))))))) H)) H
theorem GD:call code (n+1) .j6 [.d (.J ms)] σ= .ok (.d (.J [.str iH, .str gq, .str CU, .J [], .none, .J [], .none, .J ms]),σ):=
 bG H rfl (bq (aV (ac ab (ac ab (ac ab (ac (aV aq H) (ac ab (ac (aV aq H) (ac ab (ei H)))))))) H)) H
theorem rf:call code (n+2) .ir [.d (.str nm), .d (.bool b)] σ= .ok (.d (xT nm b),σ):=by
 induction b using ar with
 |false=>exact bG H rfl (bB (aA (jc (aa H) H) (bq ec))) H
 |true=>exact bG H rfl (aK (jc (aa H) H) (bq (aV (ac ab (ac (an (ac ab (ac (aV aq H) (ac ab (ac (aV aq H) f9)))) nQ) (ac (aV (ac (aV (ac (aa H) f9) H) (ac (aV (ac (aa H) f9) H) aq)) H) f9))) H))) H
theorem UM:fN.contains dH=true:=by decide+kernel
theorem ze:sj eW:=t8 ⋯
theorem LU (h:nm.length≤1000) (b:Bool):bh (xT nm b):=by
 induction b using ar with
 |false=>exact kM (n:=60) (by decide+kernel:I4 60 (.J [.str bN, .str mL])=true)
 |true=>exact ⟨⟨_,_,rfl,UM⟩,qC ⟨ze, .none,by simp,by simp, .J (by simp)⟩ (λu hu=>by simp at hu;rcases hu with rfl|rfl<;>exact h) (by simp)⟩
structure Sm (h s:Nat) (y:D):Prop where
 ht:ht y≤h
 sz:sz y≤s
structure nT (h s:Nat) (l:↑D):Prop where
 ht:cD l≤h
 sz:b9 l≤s
section
variable {y:D} {h s s' a:Nat}
theorem Sm.of (h1:Mine.ht y≤a) (h2:Mine.sz y≤s) (q:Nat.ble a h=true):Sm h s y:=⟨aM h1 (aP q),h2⟩
theorem Sm.leaf (q:Nat.ble (Mine.ht y) h=true):Sm h (Mine.sz y) y:=⟨aP q,cF _⟩
theorem Sm.J (b:nT h s l):Sm (h+1) (s+1) (.J l):=⟨by have:=b.ht;show 1+cD l≤_;exact av this,by have:=b.sz;show 1+b9 l≤_;exact av this⟩
theorem nT.of (h1:cD l≤a) (h2:b9 l≤s) (q:Nat.ble a h=true):nT h s l:=⟨aM h1 (aP q),h2⟩
theorem nT.nil:nT h 0 []:=⟨dK _,cF _⟩
theorem nT.cons (b:Sm h s y) (c:nT h s' l):nT h (s+s') (y::l):=⟨Nat.max_le.mpr ⟨b.ht,c.ht⟩,jT b.sz c.sz⟩
theorem BP.of (n:bh x) (b:Mine.ht x≤20∧Mine.sz x≤1000):BP x:=⟨n,b.1,b.2⟩
theorem Sm.cC {t:Nat} (b:Sm h s y) (q:Nat.ble s t=true):Mine.ht y≤h∧Mine.sz y≤t:=⟨b.ht,aM b.sz (aP q)⟩
end
theorem GF (nm:Str) (b:Bool):sz (xT nm b)≤19∧ht (xT nm b)≤3:=by induction b using ar<;>simp [xT,eE,eH,sz,b9,ht,cD]
theorem iw {a:Nat} (h:ev K e ρ σ= .ok (.d (.int (a:Int)),σ1)) (h2:ev K e2 ρ σ1= .ok (.d (.int (m:Int)),d8)) (hm:m≠0) (HX:m<1000000):ev K (.aE .fdiv e e2) ρ σ= .ok (.d (.int ((a/m:Nat):Int)),d8):=by
 refine cG h h2 ((vP ⟨by lia,by rw [Int.natAbs_natCast];exact av HX⟩).trans ?_)
 rw [Int.fdiv_eq_ediv_of_nonneg _ (kG m),Int.natCast_ediv]
theorem iY {a:Nat} {i:Int} (h:ev K e ρ σ= .ok (.d (.int (a:Int)),σ1)):ev K (.au .eq e (.az (.int i))) ρ σ= .ok (.d (.bool ((a:Int)==i)),σ1):=ak h ab H
theorem NB {i:E} {k:Nat} (h:ev K e ρ σ= .ok (.d (.aD l),σ1)) (h2:ev K i ρ σ1= .ok (.d (.int (k:Int)),d8)) (hk:k<l.length) (hb:l.length≤100):ev K (.aw e i) ρ σ= .ok (.d l[k],d8):=
 aR h h2 (mX (fE hk) (aM hb ∅))
theorem fw (a:Nat) (h:m≠0):a %m<m:=Nat.mod_lt _ (rx h)
theorem EF:∀k:Nat,k<10→(Str.ofString (toString (k:Int))).length≤10:=by decide+kernel
theorem abG {k:Nat} (h:k<10):∃s:Str,s.length≤10∧mF σ .str (.d (.int (k:Int)))= .ok (.d (.str s),σ):=
 ⟨_,EF k h,M9 ⟨by lia,by lia⟩⟩
theorem xP (u v:Str):(u++v).length=u.length+v.length:=by show(u.cps++v.cps).size=_;simp [Str.length]
theorem GG {k:Str} (hk:fN.contains k=true) (h3:Gr.contains k=false) (hl:oy.contains k=false) (h2:LC.contains k=false) (hr:BW.lookup k=some tO) (h4:k≠pY∧k≠dO∧k≠bV∧k≠gZ) (h:bh x):bh (.J [.str k,x]):=by
 refine ⟨⟨k,_,rfl,hk⟩,?_⟩
 obtain ⟨k',r,rfl,hk'⟩:=h.hd
 exact fT h3 hl (.sY hr h4.1 h4.2.1 h4.2.2.1 h4.2.2.2) (.cons (.base (.node hk')) (.nil H)) H (λy hy=>by simp at hy;subst hy;exact h.pw) (mV h2) (by simp [b9])
theorem NC {k:Str} (hk:fN.contains k=true) (h3:Gr.contains k=false) (hl:oy.contains k=false) (h2:LC.contains k=false) (hr:BW.lookup k=some vN) (h4:k≠pY∧k≠dO∧k≠bV∧k≠gZ) (h:∀x∈l,bh x):bh (.J [.str k, .J l]):=by
 refine ⟨⟨k,_,rfl,hk⟩,?_⟩
 exact fT h3 hl (.sY hr h4.1 h4.2.1 h4.2.2.1 h4.2.2.2) (.cons (.base (.seq λx hx=>(h x hx).hd)) (.nil H)) H (λy hy=>(h y (by simpa using hy)).pw) (mV h2) (by simp [b9,sz])
theorem px (h:bh x):bh (.J [.str c7,x]):=GG ⋯ ⋯ ⋯ ⋯ (by kernel_rfl) ∅ h
theorem sx (h:bh x):bh (.J [.str gc,x]):=GG ⋯ ⋯ ⋯ ⋯ (by kernel_rfl) ∅ h
theorem EG (h:bh x):bh (.J [.str gq,x]):=GG ⋯ ⋯ ⋯ ⋯ (by kernel_rfl) ∅ h
theorem UN (h:∀x∈l,bh x):bh (.J [.str ow, .J l]):=NC ⋯ ⋯ ⋯ ⋯ (by kernel_rfl) ∅ h
theorem Qa (h:∀x∈l,bh x):bh (.J [.str nK, .J l]):=NC ⋯ ⋯ ⋯ ⋯ (by kernel_rfl) ∅ h
theorem Ct {ps:↑PD} (h:yV nm ps ty body):bh (eE nm ps ty body g):=⟨⟨iG,_,rfl,by decide+kernel⟩,Ci h⟩
theorem qf {ps:↑PD} {us:↑(Str×Bool)} (h:yV nm ps ty body) (hu:∀u∈us,u.1.length≤1000) (z9:us.length≤1000):bh (.J [.str dH,eE nm ps ty body g,eH us,x]):=⟨⟨_,_,rfl,UM⟩,qC h hu z9⟩
theorem Qb {ps:↑PD} (h:yV nm ps ty body):bh (.J [.str ey,eE nm ps ty body g,x]):=⟨⟨_,_,rfl,by decide+kernel⟩,zF h⟩
abbrev ND:↑D:=[.J [.str ox], .none, .J [.str p7], .J [.str mN, .str kn], .J [.str mN], .J [.str nJ, .str hV], .J [.str hV, .str nJ], .J [.str nJ, .str Pj, .str hV], .J [.str pd], .J [.str mM], .J [.str mf, .str hV], .J [.str kK]]
theorem UO:ND.all (λt=>tyC t&&decide (sz t≤4)&&decide (ht t≤1))=true:=by decide+kernel
abbrev GH:↑D:=[.none, .J [.str bN, .str mL]]
theorem Qc:GH.all (λt=>I4 60 (.J [.str b8,t])&&decide (sz t≤3)&&decide (ht t≤1))=true:=by decide+kernel
theorem zf (n a b c:Nat) (σ:St):∃x,call code (n+3) .i7 (cI [a,b,c]) σ= .ok (.d x,σ)∧BP x:=by
 have ha:=fw a (m:=12) ∅
 have hb:=fw b (m:=2) ∅
 have hb3:=fw b (m:=3) ∅
 have Du:=eI.mp UO _ (rD (ha:a %12<ND.length))
 have LW:=eI.mp Qc _ (rD (hb:b %2<GH.length))
 rw [c9,c9,lk,lk]at Du LW
 obtain ⟨s3,hs3,e3⟩:=abG (σ:=[]) (Nat.lt_trans hb3 ∅)
 generalize eT:ND[a %12]'ha=T at Du
 generalize eR:GH[b %2]'hb=Rv at LW
 have xs:=GF M8 (((b/4 %2:Nat):Int)==1)
 have xn:=LU (nm:=M8) ∅ (((b/4 %2:Nat):Int)==1)
 generalize eX:xT M8 (((b/4 %2:Nat):Int)==1)=X at xs xn
 generalize eG:(!(((c %5:Nat):Int)==4))=G
 have d0:∀{K:fF} {r:↑V} {σ:St},ev K ↑0 (cI [a,b,c]++r) σ= .ok (.d (.int (a:Int)),σ):=λ{K r σ}=>aa H
 have d1:∀{K:fF} {r:↑V} {σ:St},ev K ↑1 (cI [a,b,c]++r) σ= .ok (.d (.int (b:Int)),σ):=λ{K r σ}=>aa H
 have d2:∀{K:fF} {r:↑V} {σ:St},ev K ↑2 (cI [a,b,c]++r) σ= .ok (.d (.int (c:Int)),σ):=λ{K r σ}=>aa H
 have pOk:∀p∈[(⟨rZ,X,false,q_⟩:PD)],t6 p:=λp hp=>by simp at hp;subst hp;exact ⟨show rZ.length≤1000 by decide, .inr xn⟩
 have f1:yV tQ [⟨rZ,X,false,q_⟩] T (.J [.J [.str b8,Rv]]):=⟨t8 ⋯,GB Du.1.1,by simp,pOk, .J λy hy=>by simp at hy;subst hy;exact kM LW.1.1⟩
 have f2:yV eW [⟨rZ,X,false,q_⟩] T (.J [.J [.str b8, .J [.str bN, .str mL]]]):=⟨ze,GB Du.1.1,by simp,pOk, .J λy hy=>by simp at hy;subst hy;exact kM (n:=60) ⋯⟩
 have hG:∀{K:fF} {r:↑V} {σ:St},ev K (.au .ne (.aE .mod ↑2 ↥5) ↥4) (cI [a,b,c]++r) σ= .ok (.d (.bool G),σ):=λ{K r σ}=>by
  refine dg eG ?_;exact ak (dI (m:=5) d2 ∅) ab H
 have s1:∀{w:Nat},bg (call code (n+2)) w (oz 3 gw.body) (cI [a,b,c]++[.un, .un, .un, .un]) []= .ok (.next,cI [a,b,c]++[.d T, .d (.J [cu ⟨rZ,X,false,q_⟩]), .d (eE tQ [⟨rZ,X,false,q_⟩] T (.J [.J [.str b8,Rv]]) G), .un],[]):=by
  intro w
  refine af (aJ (v:= .d T) (σ1:=[]) ?_) (af (aJ (aV (ac (an (ac ab (ac (an (ac ab (ac (iY (dI (m:=2) (iw (m:=4) d1 ab ∅ ∅) ∅)) aq)) rf) sM)) sv) aq) H)) (af (aJ (an (ac ab (ac (aa H) (ac (aa H) (ac (aV (ac (aV (ac ab (ac (v:= .d Rv) (σ1:=[]) ?_ aq)) H) aq) H) (ac hG aq))))) nQ)) ?_))
  ·refine dg eT ?_;exact NB (l:=ND) H (dI (m:=12) d0 ∅) ha ∅
  ·refine dg eR ?_;exact NB (l:=GH) H (dI (m:=2) d1 ∅) hb ∅
  ·refine ae eX ?_;rfl
 have cC:∀{ss:Ss} {x:D} {ρ1:↑V},bg (call code (n+2)) (n+2) ss (cI [a,b,c]++[.d T, .d (.J [cu ⟨rZ,X,false,q_⟩]), .d (eE tQ [⟨rZ,X,false,q_⟩] T (.J [.J [.str b8,Rv]]) G), .un]) []= .ok (.ret (.d x),ρ1,[])→sq (oz 3 gw.body) ss=gw.body→call code (n+3) .i7 (cI [a,b,c]) σ= .ok (.d x,σ):=λ{ss x ρ1} h he=>by
  have:=Cs (s1 (w:=n+2)) h
  rw [he]at this
  exact lN (e9 _) (bG (e9 _) H this rfl) σ
 have hz:sz (eE tQ [⟨rZ,X,false,q_⟩] T (.J [.J [.str b8,Rv]]) G)≤60∧ht (eE tQ [⟨rZ,X,false,q_⟩] T (.J [.J [.str b8,Rv]]) G)≤8:=And.symm (by
  apply Sm.cC
  ·repeat' first|(with_reducible refine Sm.of xs.2 xs.1 ?_)<;>rfl|(with_reducible refine Sm.of Du.2 Du.1.2 ?_)<;>rfl|(with_reducible refine Sm.of LW.2 LW.1.2 ?_)<;>rfl|apply Sm.J|exact Sm.leaf H|apply nT.nil|apply nT.cons
  ·rfl)
 generalize h2:(((c %2:Nat):Int)==0)=o0;induction o0 using ar with
 |true=>
  refine ⟨_,cC (ss:=mm 3 gw.body) (bB (aA (by refine dg h2 ?_;exact iY (dI (m:=2) d2 ∅)) (bq (aV (ac ab (ei H)) H)))) H,BP.of (sx (Ct f1)) ?_⟩
  clear cC s1 f1 f2
  generalize eE tQ [⟨rZ,X,false,q_⟩] T (.J [.J [.str b8,Rv]]) G=Fd at hz⊢
  apply Sm.cC
  ·repeat' first|exact Sm.of hz.2 hz.1 H|(with_reducible refine Sm.of xs.2 xs.1 ?_)<;>rfl|(with_reducible refine Sm.of Du.2 Du.1.2 ?_)<;>rfl|(with_reducible refine Sm.of LW.2 LW.1.2 ?_)<;>rfl|apply Sm.J|exact Sm.leaf H|apply nT.nil|apply nT.cons
  ·rfl
 |false=>
  generalize h3:(((c %3:Nat):Int)==2)=o0;induction o0 using ar with
  |true=>
   refine ⟨_,cC (ss:=mm 3 gw.body) (aK (by refine dg h2 ?_;exact iY (dI (m:=2) d2 ∅)) (bB (aA (by refine dg h3 ?_;exact iY (dI (m:=3) d2 ∅)) (af (aJ (aV (ac (aV (ac ab (ac ec aq)) H) aq) H)) (bq (aV (ac ab (ac (aV (ac (aV (ac ab (ac (an (ac ab (ac (aa H) (ac (aa H) (ac (aa H) (ac hG aq))))) nQ) f9)) H) aq) H) aq)) H)))))) H,UN (λy hy=>by simp at hy;subst hy;exact Qb (g:=G) f2),?_,?_⟩
   ·simp only [ht,cD,Gp];(repeat' with_reducible first|exact dK _|apply u6|apply wi|refine CC xs.2 ?_|refine CC Du.2 ?_)<;>rfl
   ·simp only [sz,b9,xJ];exact aS xs.1 Du.1.2
  |false=>
   have Fx:(Ih++s3).length≤1000:=by
    rw [xP]
    have:Ih.length≤10:=by decide
    exact aS this hs3
   refine ⟨_,cC (ss:=mm 3 gw.body) (aK (by refine dg h2 ?_;exact iY (dI (m:=2) d2 ∅)) (aK (by refine dg h3 ?_;exact iY (dI (m:=3) d2 ∅)) (bq (aV (ac ab (ac (aV (ac ab (ac (aa H) (ac (aV (ac ec (ac (aV (ac (cG ab (fB (dI (m:=3) d1 ∅) e3) (pj ∅ (av hs3))) f9) H) aq)) H) f9))) H) aq)) H)))) H,
    px (qf (us:=[(pe,false),(Ih++s3,false)]) f1 (λu hu=>by simp at hu;rcases hu with rfl|rfl;exact ∅;exact Fx) (by simp)),?_,?_⟩
   ·simp only [ht,cD];(repeat' with_reducible first|exact dK _|apply u6|apply wi|refine CC hz.2 ?_)<;>rfl
   ·simp only [sz,b9];exact av hz.1
variable {e1:E}
theorem ua {q k:Nat} (h:ev K e ρ σ= .ok (.d (.int (k:Int)),σ)) (hq:q≤10) (hk:k≤10):ev K (.aE .pow (.az (.int (q:Int))) e) ρ σ= .ok (.d (.int ((q^k:Nat):Int)),σ):=by
 refine cG ab h ?_
 show(if 0≤(q:Int)∧(q:Int)≤10∧0≤(k:Int)∧(k:Int)≤10 then R.ok (D.int ((q:Int)^(k:Int).toNat))else R.aQ).bind _=_
 rw [ao ⟨by lia,by lia,by lia,by lia⟩,rB]
 show R.ok (V.d (D.int ((q:Int)^k)),σ)=_
 rw [Int.natCast_pow]
theorem GI {p q:Bool} (h1:ev K e1 ρ σ= .ok (.d (.bool p),σ)) (h2:ev K e2 ρ σ= .ok (.d (.bool q),σ)):ev K (.and (.cons e1 (.cons e2 .nil))) ρ σ= .ok (.d (.bool (p&&q)),σ):=by
 induction p using ar with
 |true=>exact aY h1 (bW h2)
 |false=>exact cA h1
theorem aaF {p q:Bool} (h1:ev K e1 ρ σ= .ok (.d (.bool p),σ)) (h2:ev K e2 ρ σ= .ok (.d (.bool q),σ)):ev K (.or (.cons e1 (.cons e2 .nil))) ρ σ= .ok (.d (.bool (p||q)),σ):=by
 induction p using ar with
 |true=>exact jQ h1
 |false=>exact gy h1 (gx h2)
theorem zg {c:E} {t:Bool} (h:ev K c ρ σ= .ok (.d (.bool t),σ)) (h1:ev K e1 ρ σ= .ok (v,σ)) (h2:ev K e2 ρ σ= .ok (u,σ)):ev K (.ite c e1 e2) ρ σ= .ok (if t then v else u,σ):=by
 induction t using ar with
 |true=>exact ik h h1
 |false=>exact iJ h h2
theorem rg (h:ev K e ρ σ= .ok (.d (.int (m:Int)),σ1)) (hm:m≤1000):i8 K (.range e) ρ σ= .ok (iC m,σ1):=by
 have hb:(1000:Int)<2^62:=by decide
 have:=tS h ⟨by lia,by lia⟩
 rwa [rB]at this
theorem AE {q:Nat} (h:ev K e ρ σ= .ok (.d (.int (m:Int)),σ1)):ev K (.aE .add (.az (.int (q:Int))) e) ρ σ= .ok (.d (.int ((q+m:Nat):Int)),σ1):=by
 refine cG ab h ?_
 show R.ok (V.d (.int ((q:Int)+(m:Int))),σ1)=_
 rw [Int.natCast_add]
theorem lO {q k:Nat} (hq:q≠0):q^k≠0:=Nat.pos_iff_ne_zero.mp (Nat.pow_pos (rx hq))
theorem UP {k:Nat} (h:k≤3):3^k<1000000:=li (Nat.pow_le_pow_right ∅ h) ∅
theorem UQ {k:Nat} (h:k≤3):2^k<1000000:=li (Nat.pow_le_pow_right ∅ h) ∅
theorem YB {k:Nat} (h:k≤3):4^k<1000000:=li (Nat.pow_le_pow_right ∅ h) ∅
theorem xQ {a b c:Nat} {r:↑V}:ev K ↑0 (cI [a,b,c]++r) σ= .ok (.d (.int (a:Int)),σ):=aa H
theorem nf {a b c:Nat} {r:↑V}:ev K ↑1 (cI [a,b,c]++r) σ= .ok (.d (.int (b:Int)),σ):=aa H
theorem lr {a b c:Nat} {r:↑V}:ev K ↑2 (cI [a,b,c]++r) σ= .ok (.d (.int (c:Int)),σ):=aa H
abbrev sy:↑Str:=[sa,zQ,bH]
theorem Ja:∀k,(h:k<sy.length)→sy[k].length≤10:=by decide+kernel
theorem UR {i:E} {k:Nat} (h:ev K e ρ σ= .ok (.d (.aD (sy.map .str)),σ)) (h2:ev K i ρ σ= .ok (.d (.int (k:Int)),σ)) (hk:k<3):ev K (.aw e i) ρ σ= .ok (.d (.str (sy[k]'hk)),σ):=
 aR h h2 (mX (by refine ae lj (ae (fE (hk:k<sy.length)) ?_);rfl) ∅)
abbrev YC (a:Nat):D→↑D
 | .int i=>[.J [.str (sy[a/3^i.toNat %3]'(fw _ ∅)), .bool (i==0)]]
 |_=>[]
abbrev n8 (a m:Nat):↑(Str×Bool):=(List.range' 0 m).map λk=>(sy[a/3^k %3]'(fw _ ∅),(k:Int)==0)
theorem Cu (a m:Nat):(iC m).flatMap (YC a)=(n8 a m).map λu=>D.J [.str u.1, .bool u.2]:=by
 rw [kA]
 unfold n8
 refine ae List.map_map ?_;rw [List.flatMap_map]
 generalize List.range' 0 m=l
 induction l with
 |nil=>rfl
 |cons x l ih=>rw [List.flatMap_cons,ef];refine ae ih ?_;rfl
theorem US {s:Str} {i:E} {k:Nat} (h:ev K i ρ σ= .ok (.d (.int (k:Int)),σ)) (hk:k<s.cps.toList.length) (hb:s.cps.toList.length≤10):ev K (.aw ⇑s i) ρ σ= .ok (.d (.str ⟨#[s.cps.toList[k]]⟩),σ):=
 aR ab h (vQ.trans (bo (qX (fE hk) (aM hb ∅)) H))
theorem Qd (l:↑(Str×Bool)):ht (eH l)≤2:=by
 have h:cD (l.map λu=>D.J [.str u.1, .bool u.2])≤1:=by
  induction l with
  |nil=>exact dK _
  |cons u l ih=>exact Nat.max_le.mpr ⟨aP H,ih⟩
 exact kF h 1
theorem Jb (n a b c:Nat) (σ:St):∃x,call code (n+3) .qG (cI [a,b,c]) σ= .ok (.d x,σ)∧BP x:=by
 have hb:=fw b (m:=3) ∅
 have h8:=fw (c/8) (m:=3) ∅
 have h3:=fw c (m:=3) ∅
 have z9:(n8 a (1+b %3)).length≤3:=by simp [n8];exact av hb
 have hun:∀u∈n8 a (1+b %3),u.1.length≤1000:=λu hu=>by
  obtain ⟨k,_,rfl⟩:=fq.mp hu
  exact aM (Ja _ (fw _ ∅)) ∅
 have xs:=GF Ph (((c/4 %2:Nat):Int)==1)
 have xn:=LU (nm:=Ph) ∅ (((c/4 %2:Nat):Int)==1)
 generalize eX:xT Ph (((c/4 %2:Nat):Int)==1)=X at xs xn
 let z:Str:=⟨#[Tt.cps.toList[c/8 %3]'h8]⟩
 let y:Str:=if decide ((0:Int)<((c %4:Nat):Int))then⟨#[K3.cps.toList[c %3]'h3]⟩else Tr
 have hy:y.length≤10:=by show Str.length (if _ then _ else _)≤10;split;exact (by decide:(1:Nat)≤10);decide
 let ps:↑PD:=[⟨z, .none,false,q_⟩,⟨y, .none,false,q_⟩]
 have f1:yV eW ps .none (.J [.J [.str c7,X]]):=⟨ze, .none,by simp [ps],λp hp=>by
  simp [ps]at hp
  rcases hp with rfl|rfl
  ·exact ⟨show(1:Nat)≤1000 by decide, .inl H⟩
  ·exact ⟨aM hy ∅, .inl H⟩, .J λy hy=>by simp at hy;subst hy;exact px xn⟩
 have YD:∀(k:Nat),k<3→∀{K:fF} {σ:St},ev K (.aw ↑1 (.aE .mod (.aE .fdiv ↑0 (.aE .pow ↥3 ↑2)) ↥3)) [.d (.int (a:Int)), .d (.aD (sy.map .str)), .d (.int (k:Int))] σ= .ok (.d (.str (sy[a/3^k %3]'(fw _ ∅))),σ):=λk hk {K σ}=>
  UR (aa H) (dI (m:=3) (iw (aa H) (ua (q:=3) (aa H) ∅ (av hk)) (lO ∅) (UP (av hk))) ∅) (fw _ ∅)
 refine ⟨_,lN (e9 _) (s:=[]) (bG (e9 _) H (af (aJ (dn fC H)) (af (aJ (fB (uw (zs:=(n8 a (1+b %3)).map λu=>D.J [.str u.1, .bool u.2]) (l:=iC (1+b %3)) (σ1:=[]) ?_ (YC a) ?_ ?_ (Cu _ _)) (r:= .ok (.d (eH (n8 a (1+b %3))),[])) ?_))
  (af (aJ (an (ac (US (dI (m:=3) (iw (m:=8) lr ab ∅ ∅) ∅) h8 ∅) fC) sv))
  (af (aJ (aV (ac (aa H) (ac (an (ac (v:= .d (.str y)) (σ1:=[]) ?_ fC) sv) aq)) H))
  (af (aJ (aV (ac (aV (ac ab (ac (v:= .d X) (σ1:=[]) ?_ aq)) H) aq) H))
  (bq (aV (ac ab (ac (aV (ac ab (ac (an (ac ab (ac (aa H) (ac ab (ac (aa H) f9)))) nQ) (ac (aa H) f9))) H) aq)) H))))))) H) σ,BP.of (px (qf (ps:=ps) f1 hun (aM z9 ∅))) ?_⟩
 ·exact rg (AE (q:=1) (dI (m:=3) nf ∅)) (av hb)
 ·rw [Cu,fb];exact aM z9 ∅
 ·intro x hx
  rw [kA]at hx
  obtain ⟨k,hk,rfl⟩:=fq.mp hx
  have hk3:k<3:=by have:=List.mem_range'_1.mp hk;exact aS this.2 hb
  exact ⟨[.d (.int (a:Int)), .d (.aD (sy.map .str)), .d (.int (k:Int))],H,true,H, .inr ⟨H,_,aV (ac (YD k hk3) (ac (iY (aa H)) aq)) H,H⟩⟩
 ·show(if((n8 a (1+b %3)).map λu=>D.J [.str u.1, .bool u.2]).length≤aT then _ else _)=_
  rw [ao (by rw [fb];exact aM z9 ∅)];rfl
 ·have:(V.d (.str y))=if decide ((0:Int)<((c %4:Nat):Int))then V.d (.str ⟨#[K3.cps.toList[c %3]'h3]⟩)else V.d (.str Tr):=by show V.d (.str (if _ then _ else _))=_;split<;>rfl
  rw [this]
  exact zg (ak (dI (m:=4) lr ∅) ab H) (US (dI (m:=3) lr ∅) h3 ∅) ab
 ·rw [←eX]
  exact an (ac ab (ac (iY (dI (m:=2) (iw (m:=4) lr ab ∅ ∅) ∅)) aq)) rf
 ·have hz:=Ex (n8 a (1+b %3))
  have hz1:sz (eH (n8 a (1+b %3)))≤10:=aS (eL hz) (ml 3 z9)
  have hz2:=Qd (n8 a (1+b %3))
  clear hz f1 YD hun z9
  generalize eH (n8 a (1+b %3))=U at hz1 hz2⊢
  apply Sm.cC
  ·repeat' first|exact Sm.of (y:=X) xs.2 xs.1 H|exact Sm.of (y:=U) hz2 hz1 H|apply Sm.J|exact Sm.leaf H|apply nT.nil|apply nT.cons
  ·rfl
abbrev LX (x:D):Prop:=g9 λt l=>qh (x= .J [t, .J l]) (t= .none∨bh t) (∀y∈l,bh y)
inductive NE (L:↑D):Prop
 |mk (ks:↑D) (m:Nat):tW [101,115] L ks→lh L m→mS ks→NE L
theorem Jc {L:↑D}:(∀x∈L,LX x)→NE L:=by
 induction L with
 |nil=>exact λO=>⟨[],0, .nil, .nil,λO h=>by cases h⟩
 |cons x L ih=>
  intro h
  obtain ⟨ks,m,h1,h2,h3⟩:=ih λy hy=>h y (bY _ hy)
  obtain ⟨t,l,rfl,mi,hl⟩:=h x bZ
  clear h ih
  have k2:jY 115 (.J l) l:= .seq λy hy=>(hl y hy).hd
  have hll:mS (l++[]):=by rw [b6];exact λy hy=>(hl y hy).pw
  rcases mi with rfl|mi
  ·exact ⟨[]++(l++[])++ks,m+1, .cons (.cons (.none 101) (.cons k2 (.nil H))) H h1, .jk h2,λy hy=>(bd.mp hy).elim (hll y) (h3 y)⟩
  ·obtain ⟨k,r,rfl,hk⟩:=mi.hd
   exact ⟨[.J (.str k::r)]++(l++[])++ks,m, .cons (.cons (.node hk) (.cons k2 (.nil H))) H h1, .case (by simp) h2,λy hy=>(bd.mp hy).elim (λhy=>(bd.mp hy).elim (λhy=>bK.mp hy▸mi.pw) (hll y)) (h3 y)⟩
theorem LY {L:↑D} (h:∀x∈L,∃l,x= .J l):pg L=true:=by
 induction L using bu with
 |nil=>rfl
 |cons x L=>obtain ⟨l,rfl⟩:=h x bZ;rfl
theorem vZ {L:↑D} (hx:bh x) (hL:∀y∈L,LX y) (hl:L.length≤1000):bh (.J [.str de,x, .J L]):=by
 obtain ⟨ks,m,h1,h2,h3⟩:=Jc hL
 obtain ⟨k,r,rfl,hk⟩:=hx.hd
 refine ⟨⟨_,_,H,by decide+kernel⟩,mU ⋯ ⋯ (.sY (r:=Ye) (by kernel_rfl) ∅ ∅ ∅ ∅) (.cons (.base (.node hk)) (.cons (.rE H h1 (LY λy hy=>?_)) (.nil H))) H (λy hy=>?_) (xL h2 hl)⟩
 ·obtain ⟨t,l,rfl,_⟩:=hL y hy;exact ⟨_,rfl⟩
 ·simp at hy
  rcases hy with rfl|hy
  ·exact hx.pw
  ·exact h3 y hy
theorem Cv {k:Str} (hw:k=cL∨k=bS) (hm:m=1∨m=2∨m=3∨m=4):bh (.J [.str k, .int (m:Int)]):=by
 rcases hw with rfl|rfl<;>rcases hm with rfl|rfl|rfl|rfl<;>exact kM (n:=60) ⋯
theorem LZ {k:Nat} (h:k<10):∃s:Str,s.length≤10∧∀σ,mF σ .str (.d (.int (k:Int)))= .ok (.d (.str s),σ):=
 ⟨_,EF k h,λO=>M9 ⟨by lia,by lia⟩⟩
abbrev swB:Ss:=match uX.body with
 | .cons _ (.cons (.ej _ _ b) _)=>b
 |_=> .nil
structure XP (x:D):Prop where
 nd:bh x
 sz:sz x≤19
 ht:ht x≤3
theorem NF (h:nm.length≤1000) (b:Bool):XP (xT nm b):=⟨LU h b,(GF nm b).1,(GF nm b).2⟩
abbrev L0 (x:D):Prop:=LX x∧sz x≤26∧ht x≤4
inductive SwL (n a b c m j:Nat) (cs:↑D) (u v:V):Prop
 |mk (Ku:↑D) (u' v':V):Ku.length≤j+m→(∀y∈Ku,L0 y)→cW (λy=>bk (.dj 4) (.d y)) (λρ σ=>bg (call code (n+2)) (n+2) swB ρ σ) ((List.range' j m).map λ(k:Nat)=>D.int k) (cI [a,b,c]++[.ref 0,u,v]) [.list cs]= .ok (.next,cI [a,b,c]++[.ref 0,u',v'],[.list Ku])→SwL n a b c m j cs u v
theorem UT {a b c:Nat} (m:Nat):∀(j:Nat) (cs:↑D) (u v:V),j+m≤3→cs.length≤j→(∀y∈cs,L0 y)→SwL n a b c m j cs u v:=by
 induction m with
 |zero=>exact λj cs u v O hl h=>⟨cs,u,v,hl,h,H⟩
 |succ m ih=>
  intro j cs u v hj hl h
  have dy:100<aT:=by decide
  obtain ⟨s,CK,vH⟩:=LZ (k:=j) (av hj)
  have hc3:=fw c (m:=3) ∅
  have sX:(K2++s).length≤1000:=by
   rw [xP]
   have:K2.length≤10:=by decide
   exact aS this CK
  have xp:=NF sX (((b/2^j %2:Nat):Int)==1)
  generalize eX:xT (K2++s) (((b/2^j %2:Nat):Int)==1)=X at xp
  generalize eT:(((a/2^j %2:Nat):Int)==1)=T
  let t:D:=if T then .none else X
  have mi:(t= .none∨bh t)∧sz t≤19∧ht t≤3:=by
   induction T using ar with
   |true=>exact ⟨.inl H,show sz D.none≤19 by decide,show ht D.none≤3 by decide⟩
   |false=>exact ⟨.inr xp.nd,xp.sz,xp.ht⟩
  let y:D:= .J [t, .J [.J [.str cL, .int ((1+c %3:Nat):Int)]]]
  have hsm:ht y≤4∧sz y≤26:=by
   apply Sm.cC
   ·repeat' first|(with_reducible refine Sm.of (y:=t) (a:=3) mi.2.2 mi.2.1 ?_)<;>rfl|apply Sm.J|exact Sm.leaf H|apply nT.nil|apply nT.cons
   ·rfl
  have hy:L0 y:=⟨⟨_,_,H,mi.1,λz hz=>by obtain rfl:=bK.mp hz;exact Cv (.inl rfl) ((by decide:∀m<3,1+m=1∨1+m=2∨1+m=3∨1+m=4) _ (Nat.mod_lt _ ∅))⟩,hsm.2,hsm.1⟩
  obtain ⟨Ku,u',v',g1,g2,g3⟩:=ih (j+1) (cs++[y]) (.d (.int (j:Int))) (.d t) (av hj) (by simp;exact av hl) λz hz=>by
   rcases bd.mp hz with hz|hz
   ·exact h z hz
   ·simp at hz;subst hz;exact hy
  refine ⟨Ku,u',v',av g1,g2,?_⟩
  refine ae pF (ae ef ?_)
  refine fc (ρ1:=cI [a,b,c]++[.ref 0, .d (.int (j:Int)),v]) H (af (aJ (v:= .d t) (σ1:=[.list cs]) ?_) (af (mO (n:=0) (l:=cs) (l2:=cs) (x:=y) (cV H) H (aV (ac (aa H) (ac (aV (ac (aV (ac ab (ac (AE (q:=1) (dI (m:=3) lr ∅)) aq)) H) aq) H) aq)) H) H (fY hl hj dy)) ay)) (.inl H) g3
  have e0:V.d t=if T then V.d .none else V.d X:=by show V.d (if T then D.none else X)=_;induction T using ar<;>rfl
  refine ae e0 (dg eT (dg eX ?_))
  exact zg (iY (dI (m:=2) (iw xQ (ua (q:=2) (aa H) ∅ (av hj)) (lO ∅) (UQ (av hj))) ∅)) ab
   (an (ac (cG ab (fB (aa H) (vH _)) (pj ∅ (av CK))) (ac (iY (dI (m:=2) (iw nf (ua (q:=2) (aa H) ∅ (av hj)) (lO ∅) (UQ (av hj))) ∅)) aq)) rf)
theorem Jd {b:Nat} (h:∀x∈l,sz x≤b):b9 l≤b*l.length:=by
 induction l with
 |nil=>simp [b9]
 |cons x l ih=>
  have h1:=h x bZ
  have h2:=ih λy hy=>h y (bY _ hy)
  simp only [b9,gO,Nat.mul_add,Nat.mul_one];exact aS h1 h2
theorem Je {b:Nat} (h:∀x∈l,ht x≤b):cD l≤b:=by
 induction l with
 |nil=>simp [cD]
 |cons x l ih=>
  have h1:=h x bZ
  have h2:=ih λy hy=>h y (bY _ hy)
  simp only [cD];lia
theorem zI (h:σ[i]?=some (.list l)) (hl:l.length≤1000):mF σ .tuple (.ref i)= .ok (.d (.J l),σ):=
 bo (p9 h) (ao (aM hl ∅))
theorem Dv (n a b c:Nat) (σ:St):∃x,call code (n+3) .nu (cI [a,b,c]) σ= .ok (.d x,σ)∧BP x:=by
 obtain ⟨cs,u,v,h1,h2,h3⟩:=UT (n:=n) (a:=a) (b:=b) (c:=c) 3 0 [] .un .un ∅ (by simp) (by simp)
 have xp:=NF (nm:=pe) ∅ (((b/8 %2:Nat):Int)==1)
 have hz:=Jd λx hx=>(h2 x hx).2.1
 have hh:=Je λx hx=>(h2 x hx).2.2
 refine ⟨.J [.str de,xT pe (((b/8 %2:Nat):Int)==1), .J cs],lN (e9 _) (s:=[]) (bG (e9 _) H (af (aJ (fA aq H)) (af (ρ1:=cI [a,b,c]++[.ref 0,u,v]) (σ1:=[.list cs]) (gL nR (rg (m:=3) ab ∅) ?_) (bq (aV (ac ab (ac (an (ac ab (ac (iY (dI (m:=2) (iw (m:=8) nf ab ∅ ∅) ∅)) aq)) rf) (ac (fB (cV (x:=3) (n:=0) H) (zI (σ:=[.list cs]) (i:=0) (l:=cs) H (av h1))) aq))) H)))) mT) σ,BP.of (vZ xp.nd (λy hy=>(h2 y hy).1) (av h1)) ?_⟩
 ·rw [kA];exact h3
 ·have ye:b9 cs≤78:=aM hz (ol 26 h1)
  apply Sm.cC
  ·repeat' first|(with_reducible refine Sm.of (y:=xT pe (((b/8 %2:Nat):Int)==1)) xp.ht xp.sz ?_)<;>rfl|(with_reducible refine nT.of hh ye ?_)<;>rfl|apply Sm.J|exact Sm.leaf H|apply nT.nil|apply nT.cons
  ·rfl
theorem xR (h:∀x∈ms,qD x):bh (.J [.str iH, .str gq, .str CU, .J [], .none, .J [], .none, .J ms]):=⟨⟨_,_,H,by decide+kernel⟩,Ck h⟩
abbrev paB:Ss:=match iU.body with
 | .cons _ (.cons _ (.cons (.ej _ _ b) _))=>b
 |_=> .nil
structure PP (p:PD):Prop where
 ok:t6 p
 sz:sz p.jk≤19
 ht:ht p.jk≤3
theorem Jf {n a b c:Nat}:∀(m j:Nat) (ps:↑PD) (k0 u v x:V),j+m≤3→ps.length≤j→(∀p∈ps,PP p)→Vg λ(HB:↑PD) (k' u' v' x':V)=>qh (HB.length≤j+m) (∀p∈HB,PP p) (cW (λy=>bk (.dj 5) (.d y)) (λρ σ=>bg (call code (n+2)) (n+2) paB ρ σ) ((List.range' j m).map λ(k:Nat)=>D.int k) (cI [a,b,c]++[.d (.aD (sy.map .str)), .ref 0,k0,u,v,x, .un]) [.list (ps.map cu)]= .ok (.next,cI [a,b,c]++[.d (.aD (sy.map .str)), .ref 0,k',u',v',x', .un],[.list (HB.map cu)]))
 |0,j,ps,k0,u,v,x,_,hl,h=>⟨ps,k0,u,v,x,hl,h,H⟩
 |m+1,j,ps,k0,u,v,x,hj,hl,h=>by
  have dy:100<aT:=by decide
  obtain ⟨s,CK,vH⟩:=LZ (k:=j) (av hj)
  have sX:(Ts++s).length≤1000:=by
   rw [xP]
   have:Ts.length≤10:=by decide
   exact aS this CK
  have xp:=NF sX (((b/16 %2:Nat):Int)==1)
  generalize eX:xT (Ts++s) (((b/16 %2:Nat):Int)==1)=X at xp
  generalize eT:((((b/4^(j %2) %2:Nat):Int)==1)&&decide ((0:Int)<(j:Int)))=T
  generalize eP:((((b/32 %2:Nat):Int)==1)&&((j:Int)==((a %2:Nat):Int)))=P
  generalize eV:(((b/2/4^(j %2) %2:Nat):Int)==1)=Vr
  have Xl:=fw j (m:=2) ∅
  let df:D:=if T then X else .none
  have SA:Ub df∧sz df≤19∧ht df≤3:=by
   induction T using ar with
   |true=>exact ⟨.inr xp.nd,xp.sz,xp.ht⟩
   |false=>exact ⟨.inl H,show sz D.none≤19 by decide,show ht D.none≤3 by decide⟩
  let pr:Str:=if P then gv else q_
  let nm:Str:=if decide ((j:Int)<2)then sy[a/3^j %3]'(fw _ ∅)else zQ
  have Ry:nm.length≤1000:=by
   show Str.length (if _ then _ else _)≤1000
   split
   ·exact aM (Ja _ (fw _ ∅)) ∅
   ·decide
  have hp:PP ⟨nm,df,Vr,pr⟩:=⟨⟨Ry,SA.1⟩,SA.2.1,SA.2.2⟩
  obtain ⟨HB,k',u',v',x',g1,g2,g3⟩:=Jf (n:=n) (a:=a) (b:=b) (c:=c) m (j+1) (ps++[⟨nm,df,Vr,pr⟩]) (.d (.int (j:Int))) (.d df) (.d (.str pr)) (.d (.str nm)) (av hj) (by simp;exact av hl) λz hz=>by
   rcases bd.mp hz with hz|hz
   ·exact h z hz
   ·obtain rfl:=bK.mp hz;exact hp
  refine ⟨HB,k',u',v',x',av g1,g2,?_⟩
  refine ae pF (ae ef ?_)
  rw [fK]at g3
  refine fc (ρ1:=cI [a,b,c]++[.d (.aD (sy.map .str)), .ref 0, .d (.int (j:Int)),u,v,x, .un]) H (af (aJ (v:= .d df) (σ1:=[.list (ps.map cu)]) ?_) (af (aJ (v:= .d (.str pr)) (σ1:=[.list (ps.map cu)]) ?_) (af (aJ (v:= .d (.str nm)) (σ1:=[.list (ps.map cu)]) ?_)
   (af (mO (n:=0) (l:=ps.map cu) (l2:=ps.map cu) (x:=cu ⟨nm,df,Vr,pr⟩) (cV H) H (an (ac (aa H) (ac (aa H) (ac (v:= .d (.bool Vr)) (σ1:=[.list (ps.map cu)]) ?_ (ei H)))) sv) H (by simp;exact fY hl hj dy)) ay)))) (.inl H) g3
  ·have e0:V.d df=if T then V.d X else V.d .none:=by show V.d (if T then X else D.none)=_;induction T using ar<;>rfl
   refine ae e0 (dg eT (dg eX ?_))
   exact zg (GI (iY (dI (m:=2) (iw nf (ua (q:=4) (dI (m:=2) (aa H) ∅) ∅ (av Xl)) (lO ∅) (YB (av Xl))) ∅)) (bF H rfl))
    (an (ac (cG ab (fB (aa H) (vH _)) (pj ∅ (av CK))) (ac (iY (dI (m:=2) (iw (m:=16) nf ab ∅ ∅) ∅)) aq)) rf) ab
  ·have e0:V.d (.str pr)=if P then V.d (.str gv)else V.d (.str q_):=by show V.d (.str (if P then gv else q_))=_;induction P using ar<;>rfl
   refine ae e0 (dg eP ?_)
   exact zg (GI (iY (dI (m:=2) (iw (m:=32) nf ab ∅ ∅) ∅)) (ak (aa H) (dI (m:=2) xQ ∅) H)) ab ab
  ·have e0:V.d (.str nm)=if decide ((j:Int)<2)then V.d (.str (sy[a/3^j %3]'(fw _ ∅)))else V.d (.str zQ):=by show V.d (.str (if _ then _ else _))=_;split<;>rfl
   refine ae e0 ?_
   exact zg (bF H rfl) (UR (aa H) (dI (m:=3) (iw xQ (ua (q:=3) (aa H) ∅ (av hj)) (lO ∅) (UP (av hj))) ∅) (fw _ ∅)) ab
  ·refine dg eV ?_
   exact iY (dI (m:=2) (iw (iw (m:=2) nf ab ∅ ∅) (ua (q:=4) (dI (m:=2) (aa H) ∅) ∅ (av Xl)) (lO ∅) (YB (av Xl))) ∅)
abbrev Qe:↑Str:=[tQ,f8,kq]
theorem Xm:∀k,(h:k<Qe.length)→names.contains Qe[k]=true:=by decide+kernel
theorem aaG {i:E} {k:Nat} (h:ev K e ρ σ= .ok (.d (.aD (Qe.map .str)),σ)) (h2:ev K i ρ σ= .ok (.d (.int (k:Int)),σ)) (hk:k<3):ev K (.aw e i) ρ σ= .ok (.d (.str (Qe[k]'hk)),σ):=
 aR h h2 (mX (by refine ae lj (ae (fE (hk:k<Qe.length)) ?_);rfl) ∅)
theorem Dw (n a b c:Nat) (σ:St):∃x,call code (n+3) .lG (cI [a,b,c]) σ= .ok (.d x,σ)∧BP x:=by
 have KA:=fw c (m:=2) ∅
 obtain ⟨ps,k',u,v,x,h1,h2,h3⟩:=Jf (n:=n) (a:=a) (b:=b) (c:=c) (2+c %2) 0 [] .un .un .un .un (by exact av KA) (by simp) (by simp)
 have hk:=fw (c/2) (m:=3) ∅
 generalize eN:Qe[c/2 %3]'hk=nm
 have Ry:sj nm:=by refine dg eN ?_;exact t8 (Xm _ hk)
 generalize eB:(((c/6 %2:Nat):Int)==1)=Bn
 let body:D:=if Bn then .none else .J []
 have vF:mo body∧sz body≤1∧ht body≤1:=by
  induction Bn using ar with
  |true=>exact ⟨.none,show sz D.none≤1 by decide,show ht D.none≤1 by decide⟩
  |false=>exact ⟨.J (by simp),show sz (.J [])≤1 by decide,show ht (.J [])≤1 by decide⟩
 have f1:yV nm ps .none body:=⟨Ry, .none,by exact aS h1 KA,λp hp=>(h2 p hp).ok,vF.1⟩
 have hz:=Jd (l:=ps.map cu) (b:=27) λx hx=>by
  obtain ⟨p,hp,rfl⟩:=fq.mp hx
  rw [xJ];have:=(h2 p hp).sz;lia
 have hh:=Je (l:=ps.map cu) (b:=4) λx hx=>by
  obtain ⟨p,hp,rfl⟩:=fq.mp hx
  rw [Gp];have:=(h2 p hp).ht;lia
 rw [fb]at hz
 have fz:sz (eE nm ps .none body false)≤110∧ht (eE nm ps .none body false)≤6:=And.symm (by
  have ye:b9 (ps.map cu)≤81:=aM hz (ol 27 (aS h1 KA:ps.length≤3))
  apply Sm.cC
  ·repeat' first|(with_reducible refine Sm.of (y:=body) vF.2.2 vF.2.1 ?_)<;>rfl|(with_reducible refine nT.of hh ye ?_)<;>rfl|apply Sm.J|exact Sm.leaf H|apply nT.nil|apply nT.cons
  ·rfl)
 have s1:bg (call code (n+2)) (n+2) (oz 5 iU.body) (cI [a,b,c]++List.replicate 7 .un) []= .ok (.next,cI [a,b,c]++[.d (.aD (sy.map .str)), .ref 0,k',u,v, .d (.str nm), .d (eE nm ps .none body false)],[.list (ps.map cu)]):=by
  refine af (aJ (dn fC H)) (af (aJ (fA aq H)) (af (ρ1:=cI [a,b,c]++[.d (.aD (sy.map .str)), .ref 0,k',u,v,x, .un]) (σ1:=[.list (ps.map cu)]) (gL nR (rg (m:=2+c %2) (AE (q:=2) (dI (m:=2) lr ∅)) (by exact av KA)) ?_)
   (af (aJ (v:= .d (.str nm)) (σ1:=[.list (ps.map cu)]) ?_) (af (aJ (an (ac (aa H) (ac (fB (cV H) (zI (σ:=[.list (ps.map cu)]) (i:=0) (l:=ps.map cu) H (by simp;lia))) (ac ab (ac (v:= .d body) (σ1:=[.list (ps.map cu)]) ?_ f9)))) nQ)) ay))))
  ·rw [kA];exact h3
  ·refine dg eN ?_;exact aaG (dn fC H) (dI (m:=3) (iw (m:=2) lr ab ∅ ∅) ∅) hk
  ·have e0:V.d body=if Bn then V.d .none else V.d (.J []):=by show V.d (if Bn then D.none else .J [])=_;induction Bn using ar<;>rfl
   refine ae e0 (dg eB ?_)
   exact zg (iY (dI (m:=2) (iw (m:=6) lr ab ∅ ∅) ∅)) ab (aV aq H)
 have cC:∀{ss:Ss} {x:D} {ρ1:↑V} {σ1:St},bg (call code (n+2)) (n+2) ss (cI [a,b,c]++[.d (.aD (sy.map .str)), .ref 0,k',u,v, .d (.str nm), .d (eE nm ps .none body false)]) [.list (ps.map cu)]= .ok (.ret (.d x),ρ1,σ1)→sq (oz 5 iU.body) ss=iU.body→call code (n+3) .lG (cI [a,b,c]) σ= .ok (.d x,σ):=λ{ss x ρ1 σ1} h he=>by
  have:=Cs s1 h
  rw [he]at this
  exact lN (e9 _) (s:=[]) (bG (e9 _) H this mT) σ
 have aaH:∃t:Bool,ev (call code (n+2)) (.and {.au .eq (.aE .mod ↑1 ↥3) ↥0, .or {.au .eq (.aE .mod (.aE .fdiv ↑2 ↥2) ↥3) ↥0, .au .eq (.aE .mod (.aE .fdiv ↑2 ↥12) ↥2) ↥1}}) (cI [a,b,c]++[.d (.aD (sy.map .str)), .ref 0,k',u,v, .d (.str nm), .d (eE nm ps .none body false)]) [.list (ps.map cu)]= .ok (.d (.bool t),[.list (ps.map cu)]):=
  ⟨_,GI (iY (dI (m:=3) nf ∅)) (aaF (iY (dI (m:=3) (iw (m:=2) lr ab ∅ ∅) ∅)) (iY (dI (m:=2) (iw (m:=12) lr ab ∅ ∅) ∅)))⟩
 obtain ⟨t,mi⟩:=aaH
 induction t using ar with
 |true=>
  refine ⟨.J [.str gc,eE nm ps .none body false],cC (ss:=mm 5 iU.body) (bB (aA mi (bq (aV (ac ab (ei H)) H)))) H,BP.of (sx (Ct f1)) ?_⟩
  apply Sm.cC
  ·repeat' first|(with_reducible refine Sm.of (y:=eE nm ps .none body false) fz.2 fz.1 ?_)<;>rfl|apply Sm.J|exact Sm.leaf H|apply nT.nil|apply nT.cons
  ·rfl
 |false=>
  refine ⟨.J [.str gq, .J [.str iH, .str gq, .str CU, .J [], .none, .J [], .none, .J [.J [.str ja, .J [.str gv],eE nm ps .none body false]]]],cC (ss:=mm 5 iU.body) (aK mi (bq (aV (ac ab (ac (an (ac (aV (ac (aV (ac ab (ac (aV f9 H) (ei H))) H) aq) H) aq) GD) aq)) H))) H,BP.of (EG (xR λy hy=>by obtain rfl:=bK.mp hy;exact .AB f1)) ?_⟩
  apply Sm.cC
  ·repeat' first|(with_reducible refine Sm.of (y:=eE nm ps .none body false) fz.2 fz.1 ?_)<;>rfl|apply Sm.J|exact Sm.leaf H|apply nT.nil|apply nT.cons
  ·rfl
set_option linter.unusedSimpArgs false
structure Bs (x:D):Prop where
 nd:bh x
 xY:∃s,qA x s
theorem Bs.hd (h:Bs x):g9 λk r=>qh (x= .J (.str k::r)) (fN.contains k=true) (k≠gQ):=by
 obtain ⟨k,r,rfl,hk⟩:=h.nd.hd
 exact ⟨k,r,H,hk,λq=>by subst q;rw [Eb]at hk;exact bL hk⟩
theorem NG (h:bh x) (hk:ks=[x]):mS ks:=λy hy=>by subst hk;obtain rfl:=bK.mp hy;exact h.pw
theorem lu (h:bh x) (h2:bh z) (hk:ks=[x,z]):mS ks:=λy hy=>by
 subst hk
 rcases cM.mp hy with rfl|hy
 ·exact h.pw
 ·obtain rfl:=bK.mp hy;exact h2.pw
theorem UU {b l:D} {f:Bool} (hb:Bs b) (hl:bh l):Bs (.J [.str dO,b,l, .bool f]):=by
 obtain ⟨s,hs⟩:=hb.xY
 obtain ⟨k,r,rfl,hk,_⟩:=hb.hd
 obtain ⟨k2,r2,rfl,wV⟩:=hl.hd
 exact ⟨⟨⟨_,_,H,by decide+kernel⟩,fT ⋯ ⋯ (.Le H) (.cons (.base (.node hk)) (.cons (.base (.node wV)) (.cons (.base (.zA H)) (.nil H)))) H (lu hb.nd hl H) (mV ⋯) (by dsimp only [b9,List.append_nil,List.nil_append,List.singleton_append,sz];simp+arith only)⟩,_, .B6 hs⟩
theorem Xn {b l:D} (hb:Bs b) (hl:bh l):Bs (.J [.str gU,b,l]):=by
 obtain ⟨s,hs⟩:=hb.xY
 obtain ⟨k,r,rfl,hk,_⟩:=hb.hd
 obtain ⟨k2,r2,rfl,wV⟩:=hl.hd
 exact ⟨⟨⟨_,_,H,by decide+kernel⟩,fT ⋯ ⋯ (.sY (r:=sL) (by kernel_rfl) ∅ ∅ ∅ ∅) (.cons (.base (.node hk)) (.cons (.base (.node wV)) (.nil H))) H (lu hb.nd hl H) (mV ⋯) (by dsimp only [b9,List.append_nil,List.nil_append,List.singleton_append,sz];simp+arith only)⟩,_, .WH hs⟩
theorem Qf {b l:D} {f:Bool} (hb:Bs b) (hl:bh l):Bs (.J [.str cy,b,l, .J [], .bool f]):=by
 obtain ⟨s,hs⟩:=hb.xY
 obtain ⟨k,r,rfl,hk,_⟩:=hb.hd
 obtain ⟨k2,r2,rfl,wV⟩:=hl.hd
 exact ⟨⟨⟨_,_,H,by decide+kernel⟩,fT ⋯ ⋯ (.sY (r:=FQ) (by kernel_rfl) ∅ ∅ ∅ ∅) (.cons (.base (.node hk)) (.cons (.base (.node wV)) (.cons (.rE H .nil H) (.cons (.base (.zA H)) (.nil H))))) H (lu hb.nd hl H) (sr (s:=false) (λq=>by cases q) λO=>rfl) (by dsimp only [b9,List.append_nil,List.nil_append,List.singleton_append,sz];simp+arith only)⟩,_, .B7 hs⟩
theorem Qg {b l:D} {f:Bool} (hb:Bs b) (hl:bh l):bh (.J [.str cy,b,l, .none, .bool f]):=by
 obtain ⟨s,hs⟩:=hb.xY
 obtain ⟨k,r,rfl,hk,_⟩:=hb.hd
 obtain ⟨k2,r2,rfl,wV⟩:=hl.hd
 exact ⟨⟨_,_,H,by decide+kernel⟩,fT ⋯ ⋯ (.sY (r:=FQ) (by kernel_rfl) ∅ ∅ ∅ ∅) (.cons (.base (.node hk)) (.cons (.base (.node wV)) (.cons (.base (.none _)) (.cons (.base (.zA H)) (.nil H))))) H (lu hb.nd hl H) (sr (λO=> .B7 hs) λq=>by cases q) (by dsimp only [b9,List.append_nil,List.nil_append,List.singleton_append,sz];simp+arith only)⟩
theorem Jg {b:D} (hb:Bs b):bh (.J [.str cU,b, .none]):=by
 obtain ⟨s,hs⟩:=hb.xY
 obtain ⟨k,r,rfl,hk,hn⟩:=hb.hd
 exact ⟨⟨_,_,H,by decide+kernel⟩,fT ⋯ ⋯ (.sY (r:=Ie) (by kernel_rfl) ∅ ∅ ∅ ∅) (.cons (.base (.node hk)) (.cons (.base (.none _)) (.nil H))) H (NG hb.nd H) (uB (λO=> .call hn hs) λq=>by cases q) (by dsimp only [b9,List.append_nil,List.nil_append,List.singleton_append,sz];simp+arith only)⟩
theorem UV {b:D} (hb:Bs b):Bs (.J [.str cU,b, .J []]):=by
 obtain ⟨s,hs⟩:=hb.xY
 obtain ⟨k,r,rfl,hk,hn⟩:=hb.hd
 exact ⟨⟨⟨_,_,H,by decide+kernel⟩,fT ⋯ ⋯ (.sY (r:=Ie) (by kernel_rfl) ∅ ∅ ∅ ∅) (.cons (.base (.node hk)) (.cons (.rE H .nil H) (.nil H))) H (NG hb.nd H) (uB (s:=false) (λq=>by cases q) λO=>rfl) (by dsimp only [b9,List.append_nil,List.nil_append,List.singleton_append,sz];simp+arith only)⟩,_, .call hn hs⟩
theorem Qh {b l:D} (hb:bh b) (hl:bh l):bh (.J [.str gK,b,l, .none]):=by
 obtain ⟨k,r,rfl,hk⟩:=hb.hd
 obtain ⟨k2,r2,rfl,wV⟩:=hl.hd
 exact ⟨⟨_,_,H,by decide+kernel⟩,fT ⋯ ⋯ (.sY (r:=Tn) (by kernel_rfl) ∅ ∅ ∅ ∅) (.cons (.base (.node hk)) (.cons (.base (.node wV)) (.cons (.base (.none _)) (.nil H)))) H (lu hb hl H) Cf (by dsimp only [b9,List.append_nil,List.nil_append,List.singleton_append,sz];simp+arith only)⟩
abbrev qg (s:Str):D:= .J [.str jP, .str s]
theorem UW:bh (qg xl):=kM (n:=60) ⋯
theorem UX:bh (qg xk):=kM (n:=60) ⋯
theorem aaI:bh (.J [.str bN, .str mL]):=kM (n:=60) ⋯
abbrev UY:Ss:=match nL.body with
 | .cons _ (.cons (.ej _ _ b) _)=>b
 |_=> .nil
structure Xo (j:Nat) (x:D):Prop where
 bs:Bs x
 sz:sz x≤3+25*j
 ht:ht x≤1+4*j
theorem UZ {a b c:Nat} (m:Nat):∀(j:Nat) (x:D) (u:V) (v:V) (w:V),j+m≤3→Xo j x→Vf λx' u' v' w'=>Xo (j+m) x'∧
  cW (λy=>bk (.dj 4) (.d y)) (λρ σ=>bg (call code (n+2)) (n+2) UY ρ σ) ((List.range' j m).map λ(k:Nat)=>D.int k) (cI [a,b,c]++[.d x,u,v,w]) []= .ok (.next,cI [a,b,c]++[.d x',u',v',w'],[]):=by
 induction m with
 |zero=>exact λj x u v w O h=>⟨x,u,v,w,h,H⟩
 |succ m dS=>
  intro j x u v w hj h
  have dy:100<aT:=by decide
  obtain ⟨s,CK,vH⟩:=LZ (k:=j) (av hj)
  have sX:(Ih++s).length≤1000:=by
   rw [xP]
   have:Ih.length≤10:=by decide
   exact aS this CK
  have xp:=NF sX (((b/27 %2:Nat):Int)==1)
  generalize eX:xT (Ih++s) (((b/27 %2:Nat):Int)==1)=X at xp
  generalize eS:(((c/2^j %2:Nat):Int)==1)=Sh
  have h1:=h.sz
  have h2:=h.ht
  have x1:=xp.sz
  have x2:=xp.ht
  have j4:4≤4*(j+1):=Nat.le_mul_of_pos_right 4 (Nat.succ_pos j)
  have hj4:ht x≤4*(j+1):=av h2
  have key:∀y,Xo (j+1) y→bg (call code (n+2)) (n+2) UY (cI [a,b,c]++[.d x, .d (.int (j:Int)),v,w]) []= .ok (.next,cI [a,b,c]++[.d y, .d (.int (j:Int)), .d (.int (((b/3^j+j) %3:Nat):Int)), .d (.bool Sh)],[])→Vf λx' u' v' w'=>Xo (j+(m+1)) x'∧
    cW (λy=>bk (.dj 4) (.d y)) (λρ σ=>bg (call code (n+2)) (n+2) UY ρ σ) ((List.range' j (m+1)).map λ(k:Nat)=>D.int k) (cI [a,b,c]++[.d x,u,v,w]) []= .ok (.next,cI [a,b,c]++[.d x',u',v',w'],[]):=λy hy he=>by
   obtain ⟨x',u',v',w',g1,g2⟩:=dS (j+1) y (.d (.int (j:Int))) (.d (.int (((b/3^j+j) %3:Nat):Int))) (.d (.bool Sh)) (av hj) hy
   refine ⟨x',u',v',w',by refine ae (show j+(m+1)=j+1+m by simp+arith only) ?_;exact g1,?_⟩
   rw [pF];refine ae ef ?_
   exact fc H he (.inl H) g2
  have step:∀{r},bg (call code (n+2)) (n+2) (mm 2 UY) (cI [a,b,c]++[.d x, .d (.int (j:Int)), .d (.int (((b/3^j+j) %3:Nat):Int)), .d (.bool Sh)]) []=r→bg (call code (n+2)) (n+2) UY (cI [a,b,c]++[.d x, .d (.int (j:Int)),v,w]) []=r:=λhr=>by
   refine af (aJ (dI (m:=3) (a:=b/3^j+j) (σ1:=[]) ?_ ∅)) (af (aJ (v:= .d (.bool Sh)) (σ1:=[]) ?_) hr)
   ·refine cG (iw nf (ua (q:=3) (aa H) ∅ (av hj)) (lO ∅) (UP (av hj))) (aa H) ?_
    show R.ok (V.d (.int (((b/3^j:Nat):Int)+(j:Int))),([]:St))=_;rw [Int.natCast_add]
   ·refine dg eS ?_;exact iY (dI (m:=2) (iw lr (ua (q:=2) (aa H) ∅ (av hj)) (lO ∅) (UQ (av hj))) ∅)
  generalize c1:((((b/3^j+j) %3:Nat):Int)==0)=o0;induction o0 using ar with
  |true=>
   refine key (.J [.str dO,x,qg xl, .bool Sh]) ⟨UU h.bs UW,by dsimp only [sz,b9,qg];exact av h1,by dsimp only [ht,cD,qg];exact kF (by repeat' first|exact hj4|apply u6|exact aM (aP H) j4) 1⟩ (step (af (aA (by rw [←c1];exact iY (aa H)) (af (aJ (aV (ac ab (ac (aa H) (ac ec (ei H)))) H)) ay)) ay))
  |false=>
   generalize c2:((((b/3^j+j) %3:Nat):Int)==1)=o0;induction o0 using ar with
   |true=>
    refine key (.J [.str gU,x,X]) ⟨Xn h.bs xp.nd,by dsimp only [sz,b9];exact aS h1 x1,by dsimp only [ht,cD];exact kF (by repeat' first|exact hj4|exact aM x2 (aM ∅ j4)|apply u6|exact dK _) 1⟩ (step (af (bi (by rw [←c1];exact iY (aa H)) (af (aA (by rw [←c2];exact iY (aa H)) (af (aJ (aV (ac ab (ac (aa H) (ac (v:= .d X) (σ1:=[]) ?_ aq))) H)) ay)) ay)) ay))
    refine dg eX ?_
    exact an (ac (cG ab (fB (aa H) (vH _)) (pj ∅ (av CK))) (ac (iY (dI (m:=2) (iw (m:=27) nf ab ∅ ∅) ∅)) aq)) rf
   |false=>
    refine key (.J [.str cy,x,qg xl, .J [], .bool Sh]) ⟨Qf h.bs UW,by dsimp only [sz,b9,qg];exact av h1,by dsimp only [ht,cD,qg];exact kF (by repeat' first|exact hj4|apply u6|exact aM (aP H) j4) 1⟩ (step (af (bi (by rw [←c1];exact iY (aa H)) (af (bi (by rw [←c2];exact iY (aa H)) (af (aJ (aV (ac ab (ac (aa H) (ac ec (ac (aV aq H) (ei H))))) H)) ay)) ay)) ay))
theorem Xp:bh (.J [.str jv, .J [.str gQ, .str nJ], .none]):=kM (n:=60) ⋯
theorem Jh (n a b c:Nat) (σ:St):∃x,call code (n+3) .oB (cI [a,b,c]) σ= .ok (.d x,σ)∧BP x:=by
 have ha:=fw a (m:=4) ∅
 obtain ⟨x,u,v,w,h1,h2⟩:=UZ (n:=n) (a:=a) (b:=b) (c:=c) (a %4) 0 (.J [.str bN, .str mL]) .un .un .un (av ha) ⟨⟨aaI,_, .IH ∅ ∅ ∅ ∅⟩,by decide,by decide⟩
 have z1:=h1.sz
 have z2:=h1.ht
 have z3:ht x≤13:=aM z2 (av (ml 4 ha))
 generalize eF:(((a/4 %2:Nat):Int)==0)=Fl'
 have s1:∀{r},bg (call code (n+2)) (n+2) (mm 2 nL.body) (cI [a,b,c]++[.d x,u,v,w]) []=r→bg (call code (n+2)) (n+2) nL.body (cI [a,b,c]++List.replicate 4 .un) []=r:=λhr=>
  af (aJ ec) (af (ρ1:=cI [a,b,c]++[.d x,u,v,w]) (σ1:=[]) (gL nR (rg (m:=a %4) (dI (m:=4) xQ ∅) (av ha)) (by rw [kA];exact h2)) hr)
 have cC:∀{y:D} {ρ1:↑V} {σ1:St},bh y→sz y≤120→ht y≤18→bg (call code (n+2)) (n+2) (mm 2 nL.body) (cI [a,b,c]++[.d x,u,v,w]) []= .ok (.ret (.d (.J [.str c7,y])),ρ1,σ1)→∃x,call code (n+3) .oB (cI [a,b,c]) σ= .ok (.d x,σ)∧BP x:=λ{y ρ1 σ1} hn hs hh h=>
  ⟨.J [.str c7,y],lN (e9 _) (s:=[]) (bG (e9 _) H (s1 h) mT) σ,px hn,by dsimp only [ht,cD];(repeat' with_reducible first|exact dK _|apply u6|apply wi|refine CC hh ?_)<;>rfl,by dsimp only [sz,b9];exact av hs⟩
 have hc:∀{K:fF} {i:Int},ev K (.au .eq (.aE .mod (.aE .fdiv ↑2 ↥8) ↥5) (.az (.int i))) (cI [a,b,c]++[.d x,u,v,w]) []= .ok (.d (.bool (((c/8 %5:Nat):Int)==i)),[]):=λ{K i}=>iY (dI (m:=5) (iw (m:=8) lr ab ∅ ∅) ∅)
 cases c0:((c/8 %5:Nat):Int)==0 with
 |true=>
  refine cC (Qg (l:=qg xk) (f:=Fl') h1.bs UX) (by dsimp only [sz,b9,qg];exact aS z1 (ml 25 ha)) (by dsimp only [ht,cD,qg];(repeat' with_reducible first|exact dK _|apply u6|apply wi|refine CC z3 ?_)<;>rfl) (bB (aA (by rw [←c0];exact hc) (bq (aV (ac ab (ac (aV (ac ab (ac (aa H) (ac ec (ac ab (ac (v:= .d (.bool Fl')) (σ1:=[]) ?_ aq))))) H) aq)) H))))
  refine dg eF ?_;exact iY (dI (m:=2) (iw (m:=4) xQ ab ∅ ∅) ∅)
 |false=>
  cases c1:((c/8 %5:Nat):Int)==1 with
  |true=>exact cC (Jg h1.bs) (by dsimp only [sz,b9];exact aS z1 (ml 25 ha)) (by dsimp only [ht,cD];(repeat' with_reducible first|exact dK _|apply u6|apply wi|refine CC z3 ?_)<;>rfl) (aK (by rw [←c0];exact hc) (bB (aA (by rw [←c1];exact hc) (bq (aV (ac ab (ac (aV (ac ab (ac (aa H) f9)) H) aq)) H)))))
  |false=>
   cases c2:((c/8 %5:Nat):Int)==2 with
   |true=>exact cC Xp ∅ ∅ (aK (by refine dg c0 ?_;exact hc) (aK (by refine dg c1 ?_;exact hc) (bB (aA (by refine dg c2 ?_;exact hc) (bq (aV (ac ab (ac (aV (ac ab (ac ec f9)) H) aq)) H))))))
   |false=>
    cases c3:((c/8 %5:Nat):Int)==3 with
    |true=>exact cC (Qh (l:=qg xk) h1.bs.nd UX) (by dsimp only [sz,b9,qg];exact aS z1 (ml 25 ha)) (by dsimp only [ht,cD,qg];(repeat' with_reducible first|exact dK _|apply u6|apply wi|refine CC z3 ?_)<;>rfl) (aK (by rw [←c0];exact hc) (aK (by rw [←c1];exact hc) (aK (by rw [←c2];exact hc) (bB (aA (by rw [←c3];exact hc) (bq (aV (ac ab (ac (aV (ac ab (ac (aa H) (ac ec f9))) H) aq)) H)))))))
    |false=>exact cC (Jg (UV h1.bs)) (by dsimp only [sz,b9];exact aS z1 (ml 25 ha)) (by dsimp only [ht,cD];(repeat' with_reducible first|exact dK _|apply u6|apply wi|refine CC z3 ?_)<;>rfl) (aK (by rw [←c0];exact hc) (aK (by rw [←c1];exact hc) (aK (by rw [←c2];exact hc) (aK (by rw [←c3];exact hc) (bq (aV (ac ab (ac (aV (ac ab (ac (aV (ac ab (ac (aa H) (ac (aV aq H) aq))) H) f9)) H) aq)) H))))))
structure BI (x:D):Prop where
 nd:bh x
 ht:ht x≤21
 sz:sz x≤1002
theorem NH {P:Nat→Prop} (h0:P 0) (h1:P 1) (h2:P 2) (h3:P 3) (h4:P 4) (h5:P 5) (h6:P 6) (h7:P 7) (h8:P 8) (h9:P 9) (Y6:P 10) (h11:P 11) (WQ:P 12) (h13:P 13) (h14:P 14):∀i,i<15→P i
 |0,_=>h0|1,_=>h1|2,_=>h2|3,_=>h3|4,_=>h4|5,_=>h5|6,_=>h6|7,_=>h7|8,_=>h8|9,_=>h9|10,_=>Y6|11,_=>h11|12,_=>WQ|13,_=>h13|14,_=>h14
 |n+15,h=>al h (Nat.not_lt.mpr (jp 15 n))
noncomputable abbrev Aa (f:F):E:= .call f {↑1,↑2,↑3}
abbrev U0:↑E:=[.J {.aw (.aD false {⇑cL,⇑bS}) (.aE .mod ↑1 ↥2), .aE .add ↥1 (.aE .mod ↑2 ↥4)},
 Aa .lY,Aa .lG,Aa .qG,Aa .qH,Aa .oP,Aa .oQ,Aa .qI,Aa .nu,Aa .nv,Aa .i7, .J {⇑c7, .call .oA {↑1,↑2}},Aa .oB]
abbrev abH (last:E):↑E→Nat→Ss:=List.rec (motive:=λO=>Nat→Ss) (λO=> .cons (.ret (.some last)) .nil) λe O f i=> .cons (.aU (.au .eq ↑0 (.az (.int (i:Nat)))) {.ret (.some e)} .nil) (f (i+1))
theorem U1 {last:E} {s:Nat} (h0:ρ[0]?=some (.d (.int (s:Int)))) (h:ev K e ρ σ= .ok (v,σ1)) (es:↑E):∀i,i≤s→(es++[last])[s -i]?=some e→bg K w (abH last es i) ρ σ= .ok (.ret v,ρ,σ1):=by
 induction es with
 |nil=>
  intro i hi he
  have:e=last:=bK.mp (fJ he)
  subst this
  exact bq h
 |cons e' es ih=>
  intro i hi he
  by_cases q:s=i
  ·subst q
   rw [Nat.sub_self]at he
   cases he
   exact bB (aA (ak (aa h0) ab (by show R.ok ((s:Int)==(s:Int))=_;rw [beq_self_eq_true])) (bq h))
  ·refine aK (ak (aa h0) ab (by show R.ok ((s:Int)==(i:Int))=_;exact ae (jS.mpr (λe=>q (Int.ofNat.inj e):(s:Int)≠(i:Int))) H)) (ih (i+1) (Nat.lt_of_le_of_ne hi (Ne.symm q)) ?_)
   rw [Qu (Nat.lt_of_le_of_ne hi (Ne.symm q))]at he
   exact he
inductive Qi (a b c:Nat) (σ:St) (s:Nat):Prop
 |mk (x:D):call code 298 .pK (cI [s,a,b,c]) σ= .ok (.d x,σ)→BI x→Qi a b c σ s
section
variable {a b c:Nat}
theorem sA {s:Nat} (he:(U0++[.call .gH {↑1,↑2}])[s]?=some e) (hb:BI x) (h:ev (call code 297) e (cI [s,a,b,c]) []= .ok (.d x,[])):Qi a b c σ s:=
 ⟨x,lN (e9 _) (s:=[]) (bG (fl:= .ret (.d x)) (e9 _) H (U1 (last:= .call .gH {↑1,↑2}) (s:=s) H h U0 0 (dK _) he) H) σ,hb⟩
theorem kD {s:Nat} (he:(U0++[.call .gH {↑1,↑2}])[s]?=some (Aa f)) (hx:call code 297 f (cI [a,b,c]) []= .ok (.d x,[])) (hb:BP x):Qi a b c σ s:=
 sA he ⟨hb.nd,wc hb.ht,aM hb.sz ∅⟩ (an (ac (aa H) (ac (aa H) (ei H))) hx)
theorem U2:Qi a b c σ 0:=by
 have ha:=fw a (m:=2) ∅
 have hb:=fw b (m:=4) ∅
 refine sA (x:= .J [.str (([cL,bS]:↑Str)[a %2]'ha), .int ((1+b %4:Nat):Int)]) H ⟨Cv ?_ ((by decide:∀m<4,1+m=1∨1+m=2∨1+m=3∨1+m=4) _ (Nat.mod_lt _ ∅)),by show 1+max 0 (max 0 0)≤21;decide,by show 1+(1+(1+0))≤1002;decide⟩ (aV (ac (v:= .d (.str (([cL,bS]:↑Str)[a %2]'ha))) (σ1:=[]) ?_ (ac (AE (q:=1) (dI (m:=4) (aa H) ∅)) aq)) H)
 ·generalize a %2=k at ha
  induction k using gi with
  |zero=>exact .inl H
  |succ k=>induction k using gi with
   |zero=>exact .inr H
   |succ k=>exact al ha (by lia)
 ·exact aR (dn sM H) (dI (m:=2) (aa H) ∅) (mX (l:=([cL,bS]:↑Str).map .str) (by refine ae lj (ae (fE (ha:a %2<([cL,bS]:↑Str).length)) ?_);rfl) ∅)
end
theorem Dx (a b c:Nat) (σ:St) (s:Nat) (h:s<14):Qi a b c σ s:=
 NH (P:=λs=>s<14→Qi a b c σ s) (λO=>U2)
  (λO=>let⟨_,hx,hb⟩:=mW (C:=[r5,r3,r4]) (l:=[a,b,c]) LO ⋯ ⋯ rfl [];kD H hx hb)
  (λO=>let⟨_,hx,hb⟩:=Dw 294 a b c [];kD H hx hb)
  (λO=>let⟨_,hx,hb⟩:=Jb 294 a b c [];kD H hx hb)
  (λO=>let⟨_,hx,hb⟩:=mW (C:=[r9,r3,r3]) (l:=[a,b,c]) Xg ⋯ ⋯ rfl [];kD H hx hb)
  (λO=>let⟨_,hx,hb⟩:=mW (C:=[r3,r6,r2]) (l:=[a,b,c]) UI ⋯ ⋯ rfl [];kD H hx hb)
  (λO=>let⟨_,hx,hb⟩:=mW (C:=[r10,r5,r4]) (l:=[a,b,c]) UJ ⋯ ⋯ rfl [];kD H hx hb)
  (λO=>let⟨_,hx,hb⟩:=mW (C:=[r4,r8,r2]) (l:=[a,b,c]) Xh ⋯ ⋯ rfl [];kD H hx hb)
  (λO=>let⟨_,hx,hb⟩:=Dv 294 a b c [];kD H hx hb)
  (λO=>let⟨_,hx,hb⟩:=mW (C:=[r4,r2,r2]) (l:=[a,b,c]) P8 ⋯ ⋯ rfl [];kD H hx hb)
  (λO=>let⟨_,hx,hb⟩:=zf 294 a b c [];kD H hx hb)
  (λO=>let⟨_,hx,hb⟩:=I' a b [];sA H ⟨px hb.nd,by have:=hb.ht;simp only [ht,cD];exact wi (u6 (dK _) (u6 this (dK _))),by have:=hb.sz;simp only [sz,b9];exact av this⟩ (aV (ac ab (ac (an (ac (aa H) (ei H)) hx) aq)) H))
  (λO=>let⟨_,hx,hb⟩:=Jh 294 a b c [];kD H hx hb)
  (λO=>let⟨_,hx,hb⟩:=zd a b [];sA H ⟨hb.nd,wc hb.ht,aM hb.sz ∅⟩ (an (ac (aa H) (ei H)) hx))
  (λh=>al h (Nat.lt_irrefl _)) s (Nat.lt_succ_of_lt h) h
abbrev qx:D:= .J [.str bN, .str mL]
abbrev dj:D:= .J [.str jP, .int 1]
abbrev Ji (x:D):D:= .J [.str ja, .J [.str gv],eE xk [] .none (.J [x]) false]
abbrev U3 (ms:↑D):D:= .J [.str iH, .str gq, .str CU, .J [], .none, .J [], .none, .J ms]
abbrev ub:↑Nat:=[119,101,100,102,115,105,98,116,99,121,117,109,110,108,97]
abbrev mr (x:D):Nat→D
 |0=> .J [.str lb,qx, .J [x]]
 |1=> .J [.str ci,qx, .none, .J [.str bN, .str sa], .bool false, .J [x]]
 |2=> .J [.str jw, .J [x],qx]
 |3=> .J [.str rX, .J [qx], .J [qx], .J [], .J [x]]
 |4=> .J [.str de,qx, .J [.J [dj, .J [x]], .J [.none, .J []]]]
 |5=> .J [.str pY, .J [.J [qx, .J []], .J [qx, .J [x]]], .none]
 |6=> .J [.str nK, .J [x]]
 |7=> .J [.str fP, .J [x], .J [.J [.J [.str nJ], .str q_q, .J []]], .J []]
 |8=> .J [.str fP, .J [], .J [.J [.J [.str nJ], .none, .J [x]]], .none]
 |9=> .J [.str fP, .J [], .J [], .J [x]]
 |10=> .J [.str gc,eE Ww [] .none (.J [x]) false]
 |11=> .J [.str gq,U3 [.J [.str gZ, .J [.str gv], .str Wx,dj],Ji x]]
 |12=> .J [.str c7, .J [.str jv,U3 [Ji x], .J [.J [dj, .bool false, .none]]]]
 |n=> .J [.str c7, .J [.str cQ, .J [.str bN, .str sa], .J [.str dH,eE eW [] .none (.J [x]) (n==14),eH [], .bool (n==14)]]]
theorem Dy (x:D) (σ:St) (i:Nat) (h:i<ub.length):call code (n+2) .lF [.d (.str ⟨#[ub[i]]⟩), .d (.J [x])] σ= .ok (.d (mr x i),σ):=
 NH (P:=λi=>∀h:i<ub.length,call code (n+2) .lF [.d (.str ⟨#[ub[i]]⟩), .d (.J [x])] σ= .ok (.d (mr x i),σ))
  (λO=>by kernel_rfl) (λO=>by kernel_rfl) (λO=>by kernel_rfl) (λO=>by kernel_rfl) (λO=>by kernel_rfl) (λO=>by kernel_rfl) (λO=>by kernel_rfl) (λO=>by kernel_rfl) (λO=>by kernel_rfl) (λO=>by kernel_rfl) (λO=>by kernel_rfl) (λO=>by kernel_rfl) (λO=>by kernel_rfl) (λO=>by kernel_rfl) (λO=>by kernel_rfl) i h h
theorem io:bh qx:=kM (n:=60) ⋯
theorem Cw:bh dj:=kM (n:=60) ⋯
theorem xS:bh (.J [.str bN, .str sa]):=kM (n:=60) ⋯
theorem Xq (hn:names.contains nm=true) (h:bh x):yV nm [] .none (.J [x]):=⟨t8 hn, .none,by simp,by simp, .J λy hy=>by obtain rfl:=bK.mp hy;exact h⟩
theorem GJ (h:bh x):qD (Ji x):= .AB (Xq ⋯ h)
theorem zJ (h:bh x):∀y∈[x],bh y:=λy hy=>by obtain rfl:=bK.mp hy;exact h
theorem Cy (h:bh x):jY 115 (.J [x]) [x]:= .seq λy hy=>(zJ h y hy).hd
theorem qE (h:bh x):jY 101 x [x]:=by obtain ⟨k,r,rfl,hk⟩:=h.hd;exact .node hk
theorem Cz (h:bh x) (r:↑D):pg (x::r)=true:=by obtain ⟨k,r,rfl,hk⟩:=h.hd;rfl
theorem Qj:qD (.J [.str gZ, .J [.str gv], .str Wx,dj]):=EC (ok:=I4 60) (λO h=>kM h) ⋯
theorem around_13 (h:bh x) (n:Nat):bh (mr x (n+13)):=px ⟨⟨_,_,H,by decide+kernel⟩,fT ⋯ ⋯ (.sY (r:=sL) (by kernel_rfl) ∅ ∅ ∅ ∅) (.cons (.base (qE xS)) (.cons (.base (qE (qf (us:=[]) (Xq ⋯ h) (by simp) (by simp)))) (.nil H))) H (lu xS (qf (us:=[]) (Xq ⋯ h) (by simp) (by simp)) H) (zE .var (.other ∅) (.other ∅)) (by simp [b9,sz])⟩
theorem L5 (h:bh x):∀i,i<15→bh (mr x i):=
 NH
  (⟨⟨_,_,H,by decide+kernel⟩,mU ⋯ ⋯ (.sY (r:=To) (by kernel_rfl) ∅ ∅ ∅ ∅) (.cons (.base (qE io)) (.cons (.base (Cy h)) (.nil H))) H (lu io h H) (qe ⋯)⟩)
  (⟨⟨_,_,H,by decide+kernel⟩,mU ⋯ ⋯ (.sY (r:=Ig) (by kernel_rfl) ∅ ∅ ∅ ∅) (.cons (.base (qE io)) (.cons (.base (.none _)) (.cons (.base (qE xS)) (.cons (.base (.zA H)) (.cons (.base (Cy h)) (.nil H)))))) H (λy hy=>by
   rcases cM.mp hy with rfl|hy
   ·exact io.pw
   ·exact lu xS h H y hy) (u4 .none .var ∅ ∅)⟩)
  (⟨⟨_,_,H,by decide+kernel⟩,mU ⋯ ⋯ (.sY (r:=Tp) (by kernel_rfl) ∅ ∅ ∅ ∅) (.cons (.base (Cy h)) (.cons (.base (qE io)) (.nil H))) H (lu h io H) (qe ⋯)⟩)
  (⟨⟨_,_,H,by decide+kernel⟩,mU ⋯ ⋯ (.sY (r:=M7) (by kernel_rfl) ∅ ∅ ∅ ∅) (.cons (.base (Cy io)) (.cons (.base (Cy io)) (.cons (.base (.seq (by simp))) (.cons (.base (Cy h)) (.nil H))))) H (λy hy=>by
   rcases cM.mp hy with rfl|hy
   ·exact io.pw
   ·exact lu io h H y hy) (qe ⋯)⟩)
  (vZ io (λy hy=>by
   rcases cM.mp hy with rfl|hy
   ·exact ⟨_,_,H, .inr Cw,zJ h⟩
   ·obtain rfl:=bK.mp hy;exact ⟨_,_,rfl, .inl rfl,by simp⟩) (by simp))
  (⟨⟨_,_,H,by decide+kernel⟩,fT ⋯ ⋯ (.if2 H) (.cons (.rE (s:=98) H (.cons (.cons (qE io) (.cons (.seq (by simp)) (.nil H))) (Cz io _) (.cons (.cons (qE io) (.cons (Cy h) (.nil H))) (Cz io _) .nil)) H) (.cons (.base (.none _)) (.nil H))) H (λy hy=>by
   rcases cM.mp hy with rfl|hy
   ·exact io.pw
   ·exact lu io h H y hy) (mV ⋯) (by simp [b9,sz,qx];simp+arith only)⟩)
  (Qa (zJ h))
  (⟨⟨_,_,H,by decide+kernel⟩,uD (zJ h) (λy hy=>by obtain rfl:=bK.mp hy;exact .name (by simp)) (.J (by simp))⟩)
  (⟨⟨_,_,H,by decide+kernel⟩,uD (by simp) (λy hy=>by obtain rfl:=bK.mp hy;exact .none (zJ h)) .none⟩)
  (⟨⟨_,_,H,by decide+kernel⟩,uD (by simp) (by simp) (.J (zJ h))⟩)
  (sx (Ct (Xq ⋯ h)))
  (EG (xR λy hy=>by
   rcases cM.mp hy with rfl|hy
   ·exact Qj
   ·obtain rfl:=bK.mp hy;exact GJ h))
  (px ⟨⟨_,_,H,by decide+kernel⟩,fT ⋯ ⋯ (.sY (r:=Ie) (by kernel_rfl) ∅ ∅ ∅ ∅) (.cons (.base (qE (xR (ms:=[Ji x]) λy hy=>by obtain rfl:=bK.mp hy;exact GJ h))) (.cons (.rE (s:=97) rfl (.cons (.cons (qE Cw) (.nil rfl)) rfl .nil) rfl) (.nil rfl))) rfl (lu (xR (ms:=[Ji x]) λy hy=>by obtain rfl:=bK.mp hy;exact GJ h) Cw rfl) IX (by simp [b9,sz,dj,U3])⟩)
  (around_13 h 0) (around_13 h 1)
structure Bd (x:D) (h s:Nat) (y:D):Prop where
 ht:ht y≤ht x+h
 sz:sz y≤sz x+s
structure Qk (x:D) (h s:Nat) (l:↑D):Prop where
 ht:cD l≤Mine.ht x+h
 sz:b9 l≤Mine.sz x+s
section
variable {y:D} {h s:Nat}
theorem Bd.self:Bd x h 0 x:=⟨mY _ _,cF _⟩
theorem Bd.J (b:Qk x h s l):Bd x (h+1) (s+1) (.J l):=⟨by have:=b.ht;show 1+cD l≤_;exact av this,by have:=b.sz;show 1+b9 l≤_;exact av this⟩
theorem Qk.hd (b:Bd x h s y) (q:Nat.ble (cD l) h=true):Qk x h (s+b9 l) (y::l):=⟨Nat.max_le.mpr ⟨b.ht,aM (aP q) (jp _ _)⟩,by have:=b.sz;show Mine.sz y+b9 l≤_;exact av this⟩
theorem Qk.tl (q:Nat.ble (Mine.ht y) h=true) (b:Qk x h s l):Qk x h (s+Mine.sz y) (y::l):=⟨Nat.max_le.mpr ⟨aM (aP q) (jp _ _),b.ht⟩,by have:=b.sz;show Mine.sz y+b9 l≤_;exact av this⟩
theorem Bd.cC (b:Bd x 8 s y) (q:Nat.ble s 60=true):Mine.ht y≤Mine.ht x+8∧Mine.sz y≤Mine.sz x+60:=⟨b.ht,aM b.sz (kF (aP q) _)⟩
theorem bd_13 (n:Nat):Mine.ht (mr x (n+13))≤Mine.ht x+8∧Mine.sz (mr x (n+13))≤Mine.sz x+60:=
 Bd.cC (.J (.tl H (.hd (.J (.tl H (.tl H (.hd (.J (.tl H (.hd (.J (.tl H (.tl H (.tl H (.tl H (.hd (.J (.hd .self H)) H)))))) H))) H)))) H))) H
end
theorem Ql (x:D):∀i,i<15→ht (mr x i)≤ht x+8∧sz (mr x i)≤sz x+60:=
 NH
  (Bd.cC (.J (.tl H (.tl H (.hd (.J (.hd .self H)) H)))) H)
  (Bd.cC (.J (.tl H (.tl H (.tl H (.tl H (.tl H (.hd (.J (.hd .self H)) H))))))) H)
  (Bd.cC (.J (.tl H (.hd (.J (.hd .self H)) H))) H)
  (Bd.cC (.J (.tl H (.tl H (.tl H (.tl H (.hd (.J (.hd .self H)) H)))))) H)
  (Bd.cC (.J (.tl H (.tl H (.hd (.J (.hd (.J (.tl H (.hd (.J (.hd .self H)) H))) H)) H)))) H)
  (Bd.cC (.J (.tl H (.hd (.J (.tl H (.hd (.J (.tl H (.hd (.J (.hd .self H)) H))) H))) H))) H)
  (Bd.cC (.J (.tl H (.hd (.J (.hd .self H)) H))) H)
  (Bd.cC (.J (.tl H (.hd (.J (.hd .self H)) H))) H)
  (Bd.cC (.J (.tl H (.tl H (.hd (.J (.hd (.J (.tl H (.tl H (.hd (.J (.hd .self H)) H)))) H)) H)))) H)
  (Bd.cC (.J (.tl H (.tl H (.tl H (.hd (.J (.hd .self H)) H))))) H)
  (Bd.cC (.J (.tl H (.hd (.J (.tl H (.tl H (.tl H (.tl H (.hd (.J (.hd .self H)) H)))))) H))) H)
  (Bd.cC (.J (.tl H (.hd (.J (.tl H (.tl H (.tl H (.tl H (.tl H (.tl H (.tl H (.hd (.J (.tl H (.hd (.J (.tl H (.tl H (.hd (.J (.tl H (.tl H (.tl H (.tl H (.hd (.J (.hd .self H)) H)))))) H)))) H))) H))))))))) H))) H)
  (Bd.cC (.J (.tl H (.hd (.J (.tl H (.hd (.J (.tl H (.tl H (.tl H (.tl H (.tl H (.tl H (.tl H (.hd (.J (.hd (.J (.tl H (.tl H (.hd (.J (.tl H (.tl H (.tl H (.tl H (.hd (.J (.hd .self H)) H)))))) H)))) H)) H))))))))) H))) H))) H)
  (bd_13 0) (bd_13 1)
abbrev iZ (S:Int):St:=[.list [.int S]]
abbrev mu (ls:↑Nat):Str:=⟨ls.toArray⟩
abbrev py (ls:↑Nat) (s a b c:Nat):D:= .J [.str (mu ls), .int (s:Nat), .int (a:Nat), .int (b:Nat), .int (c:Nat)]
abbrev L6 (ls:↑Nat):Prop:=∀c∈ls,c∈ub
theorem NI (S:Int) (hm:m≠0) (hb:m<1000000):g9 λk S'=>k<m∧∀n,call code (n+1) .gb [.ref 0, .d (.int (m:Nat))] (iZ S)= .ok (.d (.int (k:Nat)),iZ S'):=by
 have h0:=Int.fmod_nonneg_of_pos S (b:=m) (Int.natCast_pos.mpr (rx hm))
 have h1:=Int.fmod_lt_of_pos S (b:=m) (Int.natCast_pos.mpr (rx hm))
 refine ⟨(S.fmod m).toNat,S.fdiv m,(Int.toNat_lt h0).mpr h1,λn=>?_⟩
 refine ae (Int.toNat_of_nonneg h0) ?_
 have f1:jj (iZ S) .mod (.d (.int S)) (.d (.int (m:Nat)))= .ok (.d (.int (S.fmod m)),iZ S):=yG λe=>hm (Int.ofNat.inj e)
 have f2:jj (iZ S) .fdiv (.d (.int S)) (.d (.int (m:Nat)))= .ok (.d (.int (S.fdiv m)),iZ S):=vP ⟨λe=>hm (Int.ofNat.inj e),by rw [Int.natAbs_natCast];exact av hb⟩
 exact dp (rs:=[0]) H rfl (by simp) H (af (aJ (cG (aR (cV H) ab H) (aa H) f1)) (af (Tz (cG (aR (cV H) ab H) (aa H) f2) (cV H) ab H) (bq (aa H)))) H rfl
section
variable {S:Int}
theorem uE (hr:ρ[1]?=some (.ref 0)) (S:Int) (he:ev (call code (n+1)) e ρ (iZ S)= .ok (.d (.int (m:Nat)),iZ S)) (hm:m≠0) (hb:m<1000000):g9 λk S'=>k<m∧ev (call code (n+1)) (.call .gb {↑1,e}) ρ (iZ S)= .ok (.d (.int (k:Nat)),iZ S'):=by
 obtain ⟨k,S',h1,h2⟩:=NI S hm hb
 exact ⟨k,S',h1,an (ac (cV hr) (ac he aq)) (h2 n)⟩
end
theorem U4:jz.cps.toList=ub:=by kernel_rfl
theorem L7 {k:Nat} (h:k<ub.length):gT σ (.d (.str jz)) (.int (k:Nat))= .ok (.d (.str (mu [ub[k]]))):=vQ.trans (by refine ae U4 ?_;exact bo (qX (fE h) ∅) H)
theorem Xr {a b:↑Nat} (h:a.length+b.length≤100):jj σ .add (.d (.str (mu a))) (.d (.str (mu b)))= .ok (.d (.str (mu (a++b))),σ):=by
 have hb:100≤aT:=by decide
 show(if(mu a).length+(mu b).length≤aT then R.ok (D.str (mu a++mu b))else R.aQ).bind _=_
 refine ae (ao (show(mu a).length+(mu b).length≤aT from aM h hb)) ?_
 show R.ok (V.d (.str ⟨a.toArray++b.toArray⟩),σ)=_
 rw [List.append_toArray];rfl
variable {ls:↑Nat}
theorem Qm {k:Nat} (h:ls.length≤100) (hk:k≤100):jU (.d (.str (mu ls))) .none (.int (k:Nat)) .none= .ok (.d (.str (mu (ls.take k)))):=by
 have hb:100≤aT:=by decide
 have h2:(100:Int)<2^62:=by decide
 have e:ou ls .none (.int (k:Int)) .none=R.ok (ls.take k):=xG ⟨by lia,by lia⟩
 show(if(mu ls).length≤aT then _ else _)=_
 refine ae (ao (show(mu ls).length≤aT from aM h hb)) ?_
 exact bo e H
abbrev tuB:Ss:= .cons (.bD 2 (.aE .add ↑2 (.aw ⇑jz (.call .gb {↑1,↥15})))) .nil
theorem U5 (xs:↑D):∀(ls:↑Nat) (x:V) (S:Int),ls.length+xs.length≤4→L6 ls→s6 λU6 x' S'=>qh (L6 U6) (U6.length≤4) (cW (λx=>bk (.dj 3) (.d x)) (λρ σ=>bg (call code (n+1)) w tuB ρ σ) xs [.d d, .ref 0, .d (.str (mu ls)),x, .un, .un, .un, .un] (iZ S)= .ok (.next,[.d d, .ref 0, .d (.str (mu U6)),x', .un, .un, .un, .un],iZ S')):=by
 induction xs with
 |nil=>exact λls x S h hl=>⟨ls,x,S,hl,by simpa using h,H⟩
 |cons y xs dS=>
  intro ls x S h hl
  obtain ⟨k,S1,hk,hd⟩:=uE (n:=n) (ρ:=[.d d, .ref 0, .d (.str (mu ls)), .d y, .un, .un, .un, .un]) rfl S (m:=15) ab ∅ ∅
  dsimp only [List.length_cons]at h
  obtain ⟨U6,x',S',h1,h2,h3⟩:=dS (ls++[ub[k]'hk]) (.d y) S1 (by simp;exact av h) (λc hc=>by
   rcases bd.mp hc with hc|hc
   ·exact hl c hc
   ·obtain rfl:=bK.mp hc;exact rD _)
  exact ⟨U6,x',S',h1,h2,fc H (af (aJ (cG (aa H) (aR ab hd (L7 hk)) (Xr (by simp;exact av h)))) ay) (.inl H) h3⟩
abbrev arB:Ss:= .cons (.bD 6 (.call .lF {↑7, .J {↑6}})) .nil
theorem Qn {a b c d e f:V} (ls:↑Nat):∀(x:D) (z:V),L6 ls→bh x→g9 λx' z'=>CD (bh x') (ht x'≤ht x+8*ls.length) (sz x'≤sz x+60*ls.length) (cW (λx=>bk (.dj 7) (.d x)) (λρ σ=>bg (call code (n+2)) w arB ρ σ) (ls.map λc=> .str (mu [c])) [a,b,c,d,e,f, .d x,z] σ= .ok (.next,[a,b,c,d,e,f, .d x',z'],σ)):=by
 induction ls with
 |nil=>exact λx z _ hx=>⟨x,z,hx,by simp,by simp,H⟩
 |cons l ls dS=>
  intro x z hl hx
  obtain ⟨i,hi,rfl⟩:=List.mem_iff_getElem.mp (hl l bZ)
  obtain ⟨h1,h2⟩:=Ql x i hi
  obtain ⟨x',z',h3,h4,h5,h6⟩:=dS (mr x i) (.d (.str (mu [ub[i]]))) (λc hc=>hl c (bY _ hc)) (L5 hx i hi)
  exact ⟨x',z',h3,by dsimp only [List.length_cons];exact aS h4 h1,by dsimp only [List.length_cons];exact aS h5 h2,fc H (af (aJ (an (ac (aa H) (ac (aV (ei H) H) aq)) (Dy x σ i hi))) ay) (.inl H) h6⟩
abbrev nuE:E:= .aE .mod (.aE .add ↑1 (.call .gb {↑0,↥96})) ↥96
theorem AF {a b:Nat} (h:ev K e ρ σ= .ok (.d (.int (a:Nat)),σ1)) (h2:ev K e2 ρ σ1= .ok (.d (.int (b:Nat)),d8)):ev K (.aE .add e e2) ρ σ= .ok (.d (.int ((a+b:Nat):Int)),d8):=
 cG h h2 (by rw [Int.natCast_add];rfl)
theorem L8 (S:Int) (t:Nat):g9 λk S'=>∀acc:↑D,acc.length<10→(nx (.dj 1) (.int (t:Nat)) (iD [.un, .ref 0] [1]++List.replicate 1 .un)).bind (λρ=>(AN (call code (n+1)) .none ρ (iZ S)).bind λb=>if b.1 then(ev (call code (n+1)) nuE ρ b.2).bind λq=>(gI q.1).bind λx=>uQ acc x q.2 else .ok (acc,b.2))= .ok (acc++[.int (k:Nat)],iZ S'):=by
 obtain ⟨k,S1,hk,hd⟩:=NI S (m:=96) ∅ ∅
 refine ⟨(t+k) %96,S1,λacc ha=>bo (a:=[.ref 0, .d (.int (t:Nat))]) H (bo (a:=(true,iZ S)) H ?_)⟩
 rw [ao H]
 refine bo (dI (m:=96) (AF (aa H) (an (ac (cV H) f9) (hd n))) ∅) (bo H ?_)
 show(if acc.length<aT then _ else _)=_
 rw [ao (ry ha ∅)]
abbrev EH (L:↑D):Prop:=(∀x∈L,bh x)∧cD L≤60∧b9 L≤2000
abbrev Xs (k:Nat):D:= .J [.str de, .J [.str bN, .str mL], .J [.J [.none, .J [.J [.str cL, .int ((1+k:Nat):Int)]]]]]
theorem abI (h:bh x) (h1:ht x≤53) (h2:sz x≤1242):EH [x]:=⟨zJ h,u6 (CC h1 H) (dK _),by dsimp only [b9];exact av h2⟩
theorem abJ {k:Nat} (h:bh x) (h1:ht x≤53) (h2:sz x≤1242) (hk:k<3):EH [x,Xs k]:=⟨λy hy=>by
  rcases cM.mp hy with rfl|hy
  ·exact h
  ·obtain rfl:=bK.mp hy
   exact vZ io (λy hy=>by
    obtain rfl:=bK.mp hy
    exact ⟨_,_,H, .inl H,zJ (Cv (.inl H) (by lia))⟩) (by simp),by dsimp only [cD,Xs,ht];(repeat' with_reducible first|exact dK _|apply u6|apply wi|refine CC h1 ?_)<;>rfl,by dsimp only [b9,Xs,sz];exact av h2⟩
theorem U7 {s a b c:Nat} (S:Int) (hl:ls.length≤4) (hL:L6 ls):s6 λL S' ρ1=>EH L∧bg (call code 298) 298 xr.body [.d (py ls s a b c), .ref 0, .un, .un, .un, .un, .un, .un] (iZ S)= .ok (.ret (.d (.J L)),ρ1,iZ S'):=by
 have hb:100≤aT:=by decide
 have iT:aT<2^62:=by decide
 have L9:∀(ls:↑Nat) (σ:St),ls.length≤4→mF σ .len (.d (.str (mu ls)))= .ok (.d (.int (ls.length:Nat)),σ):=λls σ h=>p8 H (li h ∅)
 let ρ0:↑V:=[.d (py ls s a b c), .ref 0, .un, .un, .un, .un, .un, .un]
 obtain ⟨k1,S1,Oy,VR⟩:=uE (n:=297) (ρ:=ρ0) rfl S (m:=ls.length+1) (e:= .aE .add (.b1 .len (.aw ↑0 ↥0)) ↥1) (AF (b:=1) (fB (aI rfl rfl) (L9 ls _ hl)) ab) (Nat.succ_ne_zero _) (av hl)
 have CS:(ls.take (ls.length -k1)).length≤4:=by simp;exact av hl
 generalize hq:ls.take (ls.length -k1)=l1 at CS
 have hL1:L6 l1:=λc hc=>hL c (by rw [←hq]at hc;exact List.mem_of_mem_take hc)
 have Dm:ex (call code 298) 298 (.bD 2 (.oq (.aw ↑0 ↥0) .none (.some (.aE .sub (.b1 .len (.aw ↑0 ↥0)) (.call .gb {↑1, .aE .add (.b1 .len (.aw ↑0 ↥0)) ↥1}))) .none)) ρ0 (iZ S)= .ok (.next,[.d (py ls s a b c), .ref 0, .d (.str (mu l1)), .un, .un, .un, .un, .un],iZ S1):=by
  refine aJ (lA (aI H rfl) iI (oi (cG (t:= .d (.int ((ls.length -k1:Nat):Int))) (fB (aI H rfl) (L9 ls _ hl)) VR ?_)) iI ?_)
  ·refine ae (Int.natCast_sub (by exact av Oy:k1≤ls.length)) ?_
   exact (rfl:R.ok (V.d (.int ((ls.length:Int) -(k1:Int))),iZ S1)=_)
  ·exact ae (Qm (av hl) (by lia)) (ae hq H)
 clear VR
 obtain ⟨k2,S2,wV,J4⟩:=uE (n:=297) (ρ:=[.d (py ls s a b c), .ref 0, .d (.str (mu l1)), .un, .un, .un, .un, .un]) rfl S1 (m:=5 -l1.length) (e:= .aE .sub ↥5 (.b1 .len ↑2)) (cG ab (fB (aa rfl) (L9 l1 _ CS)) (by refine ae (Int.natCast_sub (av CS)) ?_;rfl)) (Nat.sub_ne_zero_of_lt (Nat.lt_succ_of_le CS)) (li (Nat.sub_le _ _) ∅)
 obtain ⟨l2,x2,S3,hL2,rP,ht2⟩:=U5 (n:=297) (w:=298) (d:=py ls s a b c) (iC k2) l1 .un S2 (by simp [iC];lia) hL1
 obtain ⟨k3,S4,hk3,R5⟩:=uE (n:=297) (ρ:=[.d (py ls s a b c), .ref 0, .d (.str (mu l2)),x2, .un, .un, .un, .un]) rfl S3 (m:=14) ab ∅ ∅
 obtain ⟨n1,S5,SQ⟩:=L8 (n:=297) S4 a
 obtain ⟨n2,S6,Dp⟩:=L8 (n:=297) S5 b
 obtain ⟨n3,S7,hn3⟩:=L8 (n:=297) S6 c
 obtain ⟨x,hx,hbi⟩:=Dx n1 n2 n3 (iZ S7) ((s+k3) %14) (Nat.mod_lt _ ∅)
 obtain ⟨x',z',h3,h4,h5,h6⟩:=Qn (n:=296) (w:=298) (a:= .d (py ls s a b c)) (b:= .ref 0) (c:= .d (.str (mu l2))) (d:=x2) (e:= .d (.int (((s+k3) %14:Nat):Int))) (f:= .d (.aD [.int (n1:Nat), .int (n2:Nat), .int (n3:Nat)])) (σ:=iZ S7) l2.reverse x .un (λc hc=>hL2 c (List.mem_reverse.mp hc)) hbi.nd
 have q1:=hbi.ht
 have q2:=hbi.sz
 rw [rq]at h4 h5
 obtain ⟨k8,S8,hk8,hd8⟩:=uE (n:=297) (ρ:=[.d (py ls s a b c), .ref 0, .d (.str (mu l2)),x2, .d (.int (((s+k3) %14:Nat):Int)), .d (.aD [.int (n1:Nat), .int (n2:Nat), .int (n3:Nat)]), .d x',z']) rfl S7 (m:=3) ab ∅ ∅
 obtain ⟨k9,S9,hk9,hd9⟩:=uE (n:=297) (ρ:=[.d (py ls s a b c), .ref 0, .d (.str (mu l2)),x2, .d (.int (((s+k3) %14:Nat):Int)), .d (.aD [.int (n1:Nat), .int (n2:Nat), .int (n3:Nat)]), .d x',z']) rfl S8 (m:=3) ab ∅ ∅
 have cC:s6 λL S' ρ1=>EH L∧bg (call code 298) 298 {.aU (.au .eq (.call .gb {↑1,↥3}) ↥1) {.ret (.some (.J {↑6, .J {⇑de, .J {⇑bN,⇑mL}, .J {.J {.az .none, .J {.J {⇑cL, .aE .add ↥1 (.call .gb {↑1,↥3})}}}}}}))} .nil, .ret (.some (.J {↑6}))} [.d (py ls s a b c), .ref 0, .d (.str (mu l2)),x2, .d (.int (((s+k3) %14:Nat):Int)), .d (.aD [.int (n1:Nat), .int (n2:Nat), .int (n3:Nat)]), .d x',z'] (iZ S7)= .ok (.ret (.d (.J L)),ρ1,iZ S'):=by
  by_cases hk:k8=1
  ·exact ⟨[x',Xs k9],S9,_,abJ h3 (fY h4 q1 (ml 8 rP)) (fY h5 q2 (ml 60 rP)) hk9,bB (aA (ak hd8 ab (by refine ae hk ?_;rfl)) (bq (aV (ac (aa H) (ac (aV (ac ab (ac ec (ac (aV (ac (aV (ac ab (ac (aV (ac (aV (ac ab (ac (AF (a:=1) ab hd9) aq)) H) aq) H) aq)) H) aq) H) aq))) H) aq)) H)))⟩
  ·exact ⟨[x'],S8,_,abI h3 (fY h4 q1 (ml 8 rP)) (fY h5 q2 (ml 60 rP)),aK (ak (c:=false) hd8 ab (by show R.ok ((k8:Int)==1)=_;exact ae (jS.mpr (by lia)) H)) (bq (aV (ei H) H))⟩
 obtain ⟨L,S',ρ1,hP,hf⟩:=cC
 refine ⟨L,S',ρ1,hP,?_⟩
 refine af Dm (af (gL nR (rg (m:=k2) J4 (Nat.le_of_lt (ry wV (aM (Nat.sub_le _ _) ∅)))) ht2) (af (aJ (dI (m:=14) (AF (aI H rfl) R5) ∅)) (af (aJ (x:=5) (v:= .d (.aD [.int (n1:Nat), .int (n2:Nat), .int (n3:Nat)])) (σ1:=iZ S7) ?_) (af (aJ (an (ac (aa H) (ac (aI H rfl) (ac (aI H rfl) (gR H rfl)))) hx)) (af (gL nS (fH (lA (u:= .d (.str (mu l2.reverse))) (aa H) iI iI (oi ab) ?_) ?_) h6) hf)))))
 ·refine bo (a:=([.int a, .int b, .int c],iZ S4)) (fH (lA (aa H) (oi ab) iI iI H) H) (bo (a:=([.int (n1:Nat), .int (n2:Nat), .int (n3:Nat)],iZ S7)) ?_ rfl)
  have e1:=SQ [] ∅
  have e2:=Dp [.int (n1:Nat)] (by simp)
  have e3:=hn3 [.int (n1:Nat), .int (n2:Nat)] (by simp)
  have key:∀{bD:D→R ↑V} {f:↑V→↑D→St→R (↑D×St)} {x:D} {xs acc U8:↑D} {σ σ':St} {r:R (↑D×St)},(bD x).bind (λρ=>f ρ acc σ)= .ok (U8,σ')→j8 bD f xs U8 σ'=r→j8 bD f (x::xs) acc σ=r:=by
   intro bD f x xs acc U8 σ σ' r h h2
   show(bD x).bind _=_
   generalize hh:bD x=o0;induction o0 using R.casesOn with
   |ok ρ=>rw [hh]at h;exact bo H (bo (show f ρ acc σ=_ from h) h2)
   |dW m=>rw [hh]at h;cases h
   |aQ=>rw [hh]at h;exact R.no h
  refine ae (key e1 (key e2 (key e3 H))) ?_;rfl
 ·show(if l2.length≤aT then _ else _)=_
  refine ae (ao (aS rP hb)) ?_
  show(if(-1:Int)=-1 then R.ok l2.reverse else R.aQ).bind _=_
  refine ae (ao H) ?_;rfl
 ·rfl
theorem Xu {S:Int} (h:AL l= .ok S):mF σ .sum (.d (.aD l))= .ok (.d (.int S),σ):=by
 show((AL l).bind λi=>R.ok (D.int i)).bind (λy=>R.ok (V.d y,σ))=_
 refine ae h ?_;rfl
theorem GK {l:↑α} {a s:Int} (h:0≤a∧a<2^62∧0<s∧s<2^62):wo l (.int a) .none (.int s)=R.ok (j7 l (sliceRange (min a l.length) l.length s)):=bo H (bo H (bo H (ao ⟨H,h⟩)))
theorem GL {l:↑α} {b:Int} (h:0≤b∧b<2^62):wo l .none (.int b) .none=R.ok (l.take b.toNat):=bo H (bo H (bo H (ao ⟨H,h⟩)))
theorem GN {s a b c r:Nat} {S:Int} (hl:ls.length≤4) (hL:L6 ls) (hr:σ[r]?=some (.list [.int S])):g9 λL S'=>EH L∧call code 299 .oR [.d (py ls s a b c), .ref r] σ= .ok (.d (.J L),σ.set r (.list [.int S'])):=by
 obtain ⟨L,S',ρ1,hP,h⟩:=U7 (ls:=ls) (s:=s) (a:=a) (b:=b) (c:=c) S hl hL
 have m0:[V.d (py ls s a b c),V.ref r].map (kX (en [r]))=[.d (py ls s a b c), .ref 0]:=by
  show[V.d (py ls s a b c),V.ref (en [r] r)]=_
  exact ae (show en [r] r=0 by simp [en]) H
 have hg:i5 σ [r]= .ok (iZ S):=by show(eQ σ[r]?).bind _=_;rw [hr];rfl
 exact ⟨L,S',hP,dp (rs:=[r]) H rfl (by simp) hg (by rw [m0];exact h) H rfl⟩
theorem Qp {L:↑D} (hP:EH L):g9 λ(fs be:↑Str)=>qh (fs.length≤16000) (call code 298 .jM [.d (.J L)] []=eM fs []) (call code 299 .d7 [.d (.aD L),dX c0] [.list []]= .ok (.d (.aD (fs.map .str)),[.list (be.map .str)])):=by
 obtain ⟨h1,h2,h3⟩:=hP
 obtain ⟨fs,be,g1,g2,g3⟩:=lM (c:=c0) (l:=L) (ai:=[]) .none (λx hx=>(h1 x hx).pw) (by exact av h2:0+cD L≤1000) (by exact av h3:0+b9 L≤100000)
 refine ⟨fs,be,aS g1 (ml 8 h3),?_,?_⟩
 ·have e:=(g3 297 (av (ml 3 h2))).2 (.J L) H
  have hs:i3 (call code 297) {↑0, .call .j2 {.az .none, .az (.bool false)}} [.d (.J L)] []= .ok ([.d (.J L),dT c0],bp c0 []):=ac (aa H) (ac (an sM sR) aq)
  induction fs using bu with
  |nil=>exact bG H rfl (af (i6 (an hs e)) ay) H
  |cons f fs=>exact lB H rfl (bc (kr (an hs e)))
 ·exact (g3 299 (av (ml 3 h2))).1
theorem aaJ {r:RS} (h:ev K e ρ σ= .ok (.d x,σ1)) (h2:rL ρ σ1 (K f [.d x] σ1)=r):ex K w (.pM f e) ρ σ=r:=bo h (bo H h2)
theorem L' {L:↑D} (h:call code 298 .jM [.d (.J L)] []=eM fs []):call code 299 .l8 [.d (.J L)] σ= .ok (.d (.str (fs.headD q_)),σ):=by
 have t:∀{r:RS},rL [.d (.J L), .un] [] (eM fs [])=r→ex (call code 298) 298 (.pM .jM ↑0) [.d (.J L), .un] []=r:=λq=>aaJ (aa H) (by refine ae h ?_;exact q)
 induction fs using bu with
 |nil=>exact bG H rfl (af (t H) (bq ab)) mT
 |cons f fs=>exact bG H rfl (bB (t H)) mT
theorem Xv (l:↑D):(∀x∈l,∃i,x= .int i)→∃S,AL l= .ok S:=by
 induction l with
 |nil=>exact λO=>⟨0,H⟩
 |cons x l ih=>
  intro h
  obtain ⟨i,rfl⟩:=h x bZ
  exact (ih λy hy=>h y (bY _ hy)).elim λS hS=>⟨i+S,bo H (bo hS H)⟩
theorem Qq (h:∀x∈l,∃i,x= .int i) (is:↑Nat):∀x∈j7 l is,∃i,x= .int i:=λx hx=>by
 obtain ⟨i,_,hi⟩:=List.mem_filterMap.mp hx
 exact h x (fJ hi)
inductive CA (x:D):Prop
 |mk (ls:↑Nat) (s a b c:Nat):x=py ls s a b c→ls.length≤4→L6 ls→CA x
abbrev YE (x:D):Bool:=uO false x λw r=>lR false r λs r=>vU false r λa b c=>yX false (vV s) λO=>yX false (vV a) λO=>yX false (vV b) λO=>yX false (vV c) λO=>(w.cps.toList.all λc=>ub.contains c)&&decide (w.cps.toList.length≤4)
theorem U9 (h:YE x=true):CA x:=
 iP ft h λw r h=>dL ft h λs r h=>ic ft h λa b c h=>jI ft h λn1 h1 h=>jI ft h λn2 h2 h=>jI ft h λn3 h3 h=>jI ft h λn4 h4 h=>kC h λh5 h6=>
  ⟨w.cps.toList,n1,n2,n3,n4,by refine ae (oN h1) (ae (oN h2) (ae (oN h3) (ae (oN h4) ?_)));rfl,gf h6,λc hc=>List.contains_iff_mem.mp (eI.mp h5 c hc)⟩
abbrev CB:↑D:=match call code 1 .qF [] []with
 | .ok (.d (.aD l),_)=>l
 |_=>[]
theorem Jj:call code (n+1) .qF [] σ= .ok (.d (.aD CB),σ):=by kernel_rfl
theorem Ma:∀x∈CB,CA x:=λx hx=>U9 (eI.mp (by decide+kernel:CB.all YE=true) x hx)
theorem EI:CB.length=30:=by decide+kernel
abbrev YF:Ss:= .cons (.bD 4 (.call .oR {↑3, .aD true {.b1 .sum (.oq ↑0 (.some ↑2) .none (.some (.b1 .len ↑1)))}})) {.bD 5 (.call .d7 {.call .ca {↑4}, .call .hZ {⇑q_, .az .none, .az (.bool true), .az (.bool false)}}), .aU (.au .ne (.call .l8 {↑4}) (.aw (.aE .add ↑5 (.aD false {⇑q_})) ↥0)) {.ret (.some (.az (.bool false)))} .nil}
inductive YG (l sS:↑D) (k:Nat) (Qr:D) (x4 x5:V) (σ:St):Prop
 |mk (x4' x5':V) (σ':St):bg (call code 299) 299 YF [.d (.aD l), .d (.aD sS), .d (.int (k:Nat)), .d Qr,x4,x5] σ= .ok (.next,[.d (.aD l), .d (.aD sS), .d (.int (k:Nat)), .d Qr,x4',x5'],σ')→YG l sS k Qr x4 x5 σ
inductive YH (l sS zK:↑D) (k:Nat) (x2 x3 x4 x5:V) (σ:St):Prop
 |mk (ρ:↑V) (σ':St):cW (λx=>bk (.aO [2,3]) (.d x)) (λρ σ=>bg (call code 299) 299 YF ρ σ) (rK k zK) [.d (.aD l), .d (.aD sS),x2,x3,x4,x5] σ= .ok (.next,ρ,σ')→YH l sS zK k x2 x3 x4 x5 σ
variable {sS:↑D}
theorem Qs {k:Nat} {x4 x5:V} {Qr:D} (hi:∀x∈l,∃i,x= .int i) (hl:l.length≤63) (ht:sS.length=30) (hk:k<30) (hr:CA Qr):YG l sS k Qr x4 x5 σ:=by
 have hb:100000≤aT:=by decide
 have iT:(1000:Int)<2^62:=by decide
 have hb3:1000<2^62:=by decide
 obtain ⟨ls,s,a,b,c,rfl,h1,h2⟩:=hr
 obtain ⟨S,hS⟩:=Xv _ (Qq hi (sliceRange (min (k:Int) l.length) l.length 30))
 obtain ⟨L,S',hP,hc⟩:=GN (s:=s) (a:=a) (b:=b) (c:=c) (σ:=σ++[.list [.int S]]) (r:=σ.length) (S:=S) h1 h2 (by simp)
 obtain ⟨fs,be,hf,hs,ha⟩:=Qp hP
 have hm:wo l (.int (k:Nat)) .none (.int 30)=R.ok (j7 l (sliceRange (min (k:Int) l.length) l.length 30)):=
  GK ⟨by lia,by lia,by lia,by lia⟩
 have hv:jU (.d (.aD l)) (.int (k:Nat)) .none (.int 30)= .ok (.d (.aD (j7 l (sliceRange (min (k:Int) l.length) l.length 30)))):=by
  show(if l.length≤aT then _ else _)=_
  rw [ao (aS hl hb)];refine ae hm ?_;rfl
 have cb:∀σ:St,mF σ .len (.d (.aD sS))= .ok (.d (.int 30),σ):=λσ=>by
  exact (p8 H (by rw [ht];decide)).trans (by rw [ht];rfl)
 have hn:cR (.J L)=L:=nc hP.1
 have FD:∀σ,call code 299 .ca [.d (.J L)] σ= .ok (.d (.aD L),σ):=λσ=>by
  have:=iK 299 (.J L) σ (by have:=hP.2.1;simp only [Mine.ht];exact av this) (by have:=hP.2.2;simp only [sz];exact aS this hb)
  rwa [hn]at this
 have IV:∀σ:St,jj σ .add (.d (.aD (fs.map .str))) (.d (.aD [.str q_]))= .ok (.d (.aD (fs.map .str++[.str q_])),σ):=λσ=>by
  show(if(fs.map D.str).length+1≤aT then R.ok (D.aD (fs.map .str++[.str q_]))else R.aQ).bind _=_
  rw [ao (by rw [fb];exact aS hf hb)];rfl
 have yw:∀σ:St,gT σ (.d (.aD (fs.map .str++[.str q_]))) (.int 0)= .ok (.d (.str (fs.headD q_))):=λσ=>
  mX (k:=0) (by induction fs using bu<;>rfl) (by refine ae cg ?_;rw [fb];simp;exact aS hf hb)
 refine ⟨_,_,_,af (aJ (an (ac (aa H) (ac (fA (ac (fB (lA (aa H) (oi (aa H)) iI (oi (fB (aa H) (cb _))) hv) (Xu hS)) aq) H) aq)) hc)) (af (aJ (an (ac (an (ei H) (FD _)) (ac (an (ac ab fC) sn) aq)) (yU (by simp) ha))) (aK (ak (an (ei H) (L' hs)) (aR (cG (aa H) (dn f9 H) (IV _)) ab (yw _)) ?_) ay))⟩
 show R.ok (!(fs.headD q_==fs.headD q_))=_
 rw [beq_self_eq_true];rfl
theorem Mb (hi:∀x∈l,∃i,x= .int i) (hl:l.length≤63) (ht:sS.length=30) (zK:↑D):∀(k:Nat) (x2 x3 x4 x5:V) (σ:St),k+zK.length≤30→(∀x∈zK,CA x)→YH l sS zK k x2 x3 x4 x5 σ:=by
 induction zK with
 |nil=>exact λk x2 x3 x4 x5 σ O O=>⟨_,_,H⟩
 |cons r zK ih=>
  intro k x2 x3 x4 x5 σ hk hr
  obtain ⟨y4,y5,σ1,h⟩:=Qs (k:=k) (x4:=x4) (x5:=x5) (σ:=σ) hi hl ht (ry (Nat.lt_add_of_pos_right (Nat.succ_pos _)) hk) (hr r bZ)
  obtain ⟨ρ,d8,h2⟩:=ih (k+1) (.d (.int (k:Nat))) (.d r) y4 y5 σ1 (by rw [Nat.add_assoc,Nat.add_comm 1];exact hk) λx hx=>hr x (bY _ hx)
  exact ⟨ρ,d8,fc H h (.inl H) h2⟩
theorem aaK (l:↑Int) (hl:l.length≤63):g9 λρ σ=>bg (call code 299) 299 (code .zL).body ([.d (.aD (l.map .int))]++List.replicate ((code .zL).slots -(code .zL).params) .un) []= .ok (.ret (.d (.bool true)),ρ,σ):=by
 have hb:1000≤aT:=by decide
 have iT:(1000:Int)<2^62:=by decide
 obtain ⟨ρ,σ,h⟩:=Mb (l:=l.map .int) (λx hx=>by obtain ⟨i,_,rfl⟩:=fq.mp hx;exact ⟨i,rfl⟩) (by simpa using hl) EI CB 0 .un .un .un .un [] (by rw [EI];simp+arith only) Ma
 have hv:jU (.d (.aD (l.map .int))) .none (.int 63) .none= .ok (.d (.aD (l.map .int))):=
  bo H ((ao (by rw [fb];exact aS hl hb:(l.map D.int).length≤aT)).trans (bo ((GL (b:=63) ∅).trans (aC R.ok (rj (by rw [fb];exact hl)))) H))
 exact ⟨_,_,af (aJ (lA (aa H) iI (oi ab) iI hv)) (af (aJ (an aq Jj)) (af (gL nE (Wz (aa H)) h) (bq ab)))⟩
set_option maxHeartbeats 0
noncomputable section
abbrev Mc:Stmt→Bool
 | .FunctionDef _ args _ _ _ _ scope _ _ _=>args.args.all λa=>scope.names.lookup a.arg==some .local||scope.names.lookup a.arg==some .cell
 |_=>false
abbrev rh (a:Addr) (pm:Value):Stmt→cw
 | .FunctionDef name args body _ _ _ scope _ _ _=>⟨a,name,args,body,scope,pm, .ref (a -1), .none⟩
 |_=>⟨a,"",⟨[],[],none,[],[],none,[]⟩,[],default,pm, .ref (a -1), .none⟩
theorem Jk {fn:Fn} (h:cFn st=some fn) (hp:Mc st=true):∃c,qU (rh a pm st) c fn∧EX (cS (cE 60) c 60) (rh a pm st).body=some fn.body:=by
 cases st with
 |FunctionDef nm args body abK ret PK scope tc p1 p2=>
  cases abK with
  |cons=>exact no (h:)
  |nil=>cases ret with
   |some=>exact no (h:)
   |none=>cases PK with
    |cons=>exact no (h:)
    |nil=>cases tc with
     |some=>exact no (h:)
     |none=>
      refine bn (h:) λhc h=>bn (h:) λkZ h=>nz (h:) λb h1 e=>?_
      clear h
      subst e
      simp only [c9,List.isEmpty_iff,Option.isNone_iff_eq_none]at hc
      obtain ⟨⟨⟨⟨⟨c1,c2⟩,c3⟩,c4⟩,c5⟩,c6⟩:=hc
      unfold DA at c1
      simp only [c9]at c1
      obtain ⟨⟨⟨⟨k1,k2⟩,k3⟩,k4⟩,k5⟩:=c1
      refine ⟨_,?_,h1⟩
      refine ⟨⟨c2,c3,c4,c5⟩,H,H,kZ,dz k1,(show scope.isGenerator=false by simpa using k2),(show scope.isCoroutine=false by simpa using k3),k4,λx hx=>?_,H,H⟩
      obtain ⟨g,hg,rfl⟩:=fq.mp hx
      have:=eI.mp hp g hg
      rw [wf]at this
      exact this.imp dz dz
 |_=>exact no (h:)
abbrev sT (f:F):Nat×Nat×Value:=(CE.find? λx=>x.1==K9 f).getD (0,0, .none)
abbrev ag (f:F):cw:=rh (sT f).2.1 (sT f).2.2 (zh (K9 f))
theorem Jl:∀f,cFn (zh (K9 f))=some (code f):=Jo (by kernel_rfl)
theorem xU:∀f,Mc (zh (K9 f))=true:=Jo (by kernel_rfl)
theorem Md:∀n,pP ag (call code n) n:=D9 λn hK f=>by
 obtain ⟨c,h1,h2⟩:=Jk (a:=(sT f).2.1) (pm:=(sT f).2.2) (Jl f) (xU f)
 exact ⟨c,h1,M3 hK h2⟩
end
set_option maxHeartbeats 0
noncomputable section
abbrev YP (w:World) (h:Heap):Prop:=
 (∃mg,h.Ns mainGlobals mg∧∀x∈s7,mg x.1=x.2)∧(∃o,h.get? sysModules=some o)∧(gF w.params Ad).In h∧(∀x∈CE,h.get? x.2.1=some (EK x.1 x.2.1 x.2.2))∧h.CodeRec (.ref 27) "PhpFault.__init__"∧∀x∈CE,h.CodeRec (.ref (x.2.1 -1)) (EL x.1)
theorem xV {c:Addr} {q:Str} (e:xX h c=some q):h.CodeRec (.ref c) q:=by
 unfold xX at e
 generalize ho:h.get? c=w at e
 induction w using di with
 |none=>exact u8 e
 |some o=>
  obtain ⟨cls,dict,data,fr⟩:=o
  induction data using Data.casesOn with
  |fields vs=>
   replace e:(match vs[1]?with|some (Value.str q _)=>some q|_=>none)=some q:=e
   generalize hv:vs[1]?=w at e
   induction w using di with
   |none=>exact u8 e
   |some v=>
    induction v using Value.casesOn with
    |str x t=>obtain rfl:=bb e;exact ⟨c,_,_,_,rfl,ho,rfl,hv⟩
    |_=>exact u8 e
  |_=>exact u8 e
theorem abL (w:World) (s:Shared) (e:Vi s=val w):YP w s.heap:=by
 have e1:=aC (λx=>x.1) e
 have e2:s7.map (λx=>s.heap.nsMap mainGlobals x.1)=s7.map (·.2):=aC (λx=>x.2.1) e
 have e3:=aC (λx=>x.2.2.1) e
 have e4:CE.map (λx=>s.heap.get? x.2.1)=CE.map (λx=>some (EK x.1 x.2.1 x.2.2)):=aC (λx=>x.2.2.2.1) e
 have e5:=aC (λx=>x.2.2.2.2) e
 obtain ⟨h1,h2⟩:=Ac.mp e1
 refine ⟨⟨_, .of_isNs h1,λx hx=>rA.mp e2 x hx⟩,Option.isSome_iff_exists.mp h2,Frag.in_of H e3,λx hx=>rA.mp e4 x hx,?_,λx hx=>xV ?_⟩
 ·exact xV (jq e5).1
 ·have:=(jq e5).2
  rw [List.map_map]at this
  exact rA.mp this x hx
theorem Xw (w:World) (h h':Heap) (y:YP w h) (k:∀b o,h.get? b=some o→h'.get? b=some o):YP w h':=by
 obtain ⟨⟨mg,a,b⟩,⟨o,c⟩,d,e,f,g⟩:=y
 exact ⟨⟨mg,a.keeps k,b⟩,⟨o,k _ _ c⟩,d.keeps k,λx hx=>k _ _ (e x hx),f.keeps k,λx hx=>(g x hx).keeps k⟩
theorem Jm:∀f,CE.find? (λx=>x.1==K9 f)=some (sT f):=Jo (by kernel_rfl)
theorem U':yc.map (λp=>s7.lookup p.1)=yc.map λp=>some (some (.ref (ag p.2).E7)):=by kernel_rfl
theorem Xx:jD.map (λp=>s7.lookup p.1)=jD.map λO=>some none:=by kernel_rfl
theorem Qt:jD.map (λp=>bootBuiltins p.1)=jD.map λp=>some p.2:=by kernel_rfl
theorem Va:Al Ad:=⟨⟨H,H,H,H⟩,by kernel_rfl,H,H,H,H,by kernel_rfl,by kernel_rfl,by kernel_rfl,by kernel_rfl,by kernel_rfl,⟨_,_,_,_,_,_,_,_,_,_,H,H⟩⟩
theorem NJ (h:Mc st=true):(Qw a pm st).data= .func (Calls.docDef (rh a pm st).name (rh a pm st).params (rh a pm st).body (rh a pm st).scope (rh a pm st).pm (rh a pm st).cd (rh a pm st).doc)∧sNm st=(rh a pm st).name:=by
 induction st using Stmt.casesOn with
 |FunctionDef=>exact ⟨H,H⟩
 |_=>exact bL (h:)
theorem aaL (a:Addr) (pm:Value) (st:Stmt):(rh a pm st).cd= .ref (a -1)∧(rh a pm st).E7=a:=by
 induction st using Stmt.casesOn<;>exact ⟨H,H⟩
theorem Xy {w:World} {Xz:↑Str} {abM:ExcName→Option Value} (y:YP w h) (T:PyProof.Rows.Top qv Xz abM mg mb h):Top ag h:=by
 obtain ⟨⟨mg,a,b⟩,c,d,e,f,g⟩:=y
 have Vb:∀x v,s7.lookup x=some v→mg x=v:=λx v q=>b (x,v) (mem_of_lookup q)
 refine ⟨⟨mg,a,λx f q=>Vb _ _ ?_,λp hp=>Vb _ _ ?_,Vb _ _ (by kernel_rfl)⟩,⟨mb,T.b,λp hp=>?_⟩,λf=>?_,T.nolimit,⟨w.params,Ad,d,Va,f⟩,c⟩
 ·exact rA.mp U' (x,f) (mem_of_lookup q)
 ·exact rA.mp Xx p hp
 ·rw [T.builtins p.1 ?_]
  ·exact rA.mp Qt p hp
  ·have:jD.all (λp=>p.1 !="__name__")=true:=by decide+kernel
   exact λq=>by have:=eI.mp this p hp;rw [q]at this;cases this
 ·have h1:=List.mem_of_find?_eq_some (Jm f)
  have h2:(sT f).1=K9 f:=dz (List.find?_some (Jm f):)
  have h3:=e _ h1
  have h4:=g _ h1
  unfold EK at h3
  unfold EL at h4
  rw [h2]at h3 h4
  obtain ⟨q1,q2⟩:=aaL (sT f).2.1 (sT f).2.2 (zh (K9 f))
  refine ⟨⟨_,?_,(NJ (xU f)).1⟩,?_⟩
  ·skip
   refine ae q2 ?_;exact h3
  ·skip
   refine ae q1 (dg ((NJ (a:=(sT f).2.1) (pm:=(sT f).2.2) (xU f)).2) ?_);exact h4
end
set_option backward.match.sparseCases true
set_option maxHeartbeats 0
theorem Vc {m m':Str→Option Value} (x:h.Ns a m) (y:h.Ns a m') (n:Str):m n=m' n:=by
 obtain ⟨o,es,ep,h1,h2,_,h3⟩:=x
 obtain ⟨o',es',ep',g1,g2,_,g3⟩:=y
 cases h1.symm.trans g1
 cases h2.symm.trans g2
 rw [←h3,←g3]
theorem XA {d:WData} (h:WShape.has [] d .int=true):∃i,d= .int i:=by
 cases d with
 |int i=>exact ⟨i,H⟩
 |_=>exact al h (by intro q;cases q)
theorem Vd {xs:↑WData} (x:WellAll P h vs xs) (hi:WShape.hasItems [] xs .int=true):∃l:↑Int,l.length=xs.length∧cJ h [] vs (l.map .int):=by
 induction xs generalizing vs with
 |nil=>cases x;exact ⟨[],H, .nil⟩
 |cons d xs ih=>
  cases x with
  |cons a r=>
   have hd:(WShape.has [] d .int&&WShape.hasItems [] xs .int)=true:=hi
   rw [c9]at hd
   obtain ⟨l,h1,h2⟩:=ih r hd.2
   obtain ⟨i,rfl⟩:=XA hd.1
   cases a
   exact ⟨i::l,aC (·+1) h1, .cons (.int _ _) h2⟩
theorem not_and (b:Bool) (xs:↑WData) (h:WTm.holds [] (.and (.not (.lit (.bool b))) (.lit (.bool true))) {args:=[.list xs]}=true):b=false:=by
 cases b with
 |false=>rfl
 |true=>cases h
theorem XB {xs:↑WData} (p2:WTm.holds [] (OpenLaw.pre {prog:=pw,name:="law",about:=[],foot:=42,most:=some 63,bound:=none,writes:=false}) {args:=[.list xs]}=true):xs.length≤63:=
 nh.mp (j1.mp (of_decide_eq_false (not_and (decide ((63:Int)<(xs.length:Int))) xs p2)))
theorem Ve (xs:↑WData):jg.row.claim.post [WData.list xs] (WData.bool true) [WData.list xs]=true:=by kernel_rfl
theorem abN {d:DefRec} {kwd:↑(Str×Expr)} (hn:d.name="law"):WalkO qv loose (XL qv []) YP jg.row.toRowW d kwd λf vs=>PySem.call f vs:=by
 intro w XE iX mg mb G Y a o pm cd doc dV kV ho hd Fg hD H5 hg args vals as R6 ab1 hrd hwl hlo
 refine opq λQo Eo qo eo=>?_
 obtain ⟨p1,p2⟩:=pre_splitW R6
 obtain ⟨x,r,rfl,q1,q2⟩:=hasAllW_cons p1
 obtain rfl:=hasAllW_nil q2
 obtain ⟨xs,rfl,q3⟩:=hasW_list q1
 cases hwl with
 |cons b r=>
 cases r
 cases b with
 |@list a' vs _ e1 e2=>
 obtain ⟨l,hl,rd⟩:=Vd e2 q3
 have cb:l.length≤63:=by refine ae hl ?_;exact XB p2
 have T:=Xy Y G.T
 have ha:a=(ag .zL).E7:=by
  obtain ⟨mg',h1,h2,_,_⟩:=T.glob
  have:=Vc G.T.g h1 "law"
  rw [hn]at H5
  rw [H5,h2 "law" .zL (by kernel_rfl)]at this
  have this:=bb this;injection this
 subst ha
 obtain ⟨c,fo,hb⟩:=Jk (a:=(sT .zL).2.1) (pm:=(sT .zL).2.2) (Jl .zL) (xU .zL)
 let k:Kx:={B:=iX.heap,prog:=pw,w:=w,A:=callerA,env:={(default:Env)with locals:=mainGlobals},envs:=[],slots:=[],own:=[],wr:=[]}
 have ct:H0 ag k 300:=⟨H,H,T,(by decide:callerA.depth+300<990),(by decide:callerA.units+3*300+50<cLine)⟩
 have ok:Ok k [] [] [] iX.heap:={base:=λO O e=>e,frames:=by constructor,dM:=λf hf=>(by cases hf),low:=λa ha=>(by cases ha),nodup:= .nil,cells:= .nil,env:=⟨⟨mg,G.T.g,λi x v hx=>(by cases hx)⟩,λx hx=>(by cases hx),H⟩}
 refine bv (O5 (f:= .zL) (n:=299) ct ok fo (M3 (Md 299) hb) (args:=[.d (.aD (l.map .int))]) {.d (.aD (n:=0) e1 (by simp [k]) rd)} rfl rfl (aaK l cb) H) (λv s' g=>?_) λO O g=>g.elim
 obtain ⟨rfl,h',tk,rfl,kp⟩:=g
 subst qo eo
 refine ⟨.inl ⟨.bool true, .bool true,[],H,λO=>rfl, .bool true,Ve xs,λO=>⟨.nil,λO h=>by cases h⟩⟩, .of_keep kp,H, .of_eq hg⟩
end Mine
theorem PySem.Challenge.cw_pq0845_01_holds : PySem.Challenge.rw_pq0845_01.Holds := by
 refine holds_law Mine.Ws.eM λO=>?_
 refine holds_open (q:=Mine.qv) (loose:=Mine.loose) (Xt:=Mine.Xt) (XP:=XL Mine.qv []) (Yf:=Mine.Vi) (Ya:=Mine.val) (YP:=Mine.YP) (N:=3000) Mine.YL Mine.abL Mine.Xw (λs e=>xl_of s (Bool.and_eq_true_iff.mp e).1) XL.keeps (by rfl) (by rfl) (by rfl) (λs e=>recFacts_of (Bool.and_eq_true_iff.mp e).2) (by rfl) (by assumption) (by decide+kernel) ⟨rfl,rfl,rfl,rfl,rfl,by decide+kernel⟩ ⟨[.list [.int 3]],by decide+kernel,by decide+kernel⟩ (Mine.abN rfl)
