import PyProof.Rows.All
import OpenK.XOpen
import KE.KPar
import KE.KDictList
import KE.BytesMake
import KE.KItem
import KE.KUnpack
import Lean
import PySem.Challenge.RW_no0389_01
open PySem PySem.W PyProof.Rows
set_option Elab.async false
set_option linter.all false
set_option maxRecDepth 100000
set_option maxHeartbeats 4000000
set_option genSizeOf false
set_option genInjectivity false
set_option genCtorIdx false
namespace Mine.Internal
theorem ZS {α:Type _}{a b:α} (h:a∈[b]):a=b:=List.mem_singleton.mp h
theorem ZC {α:Type _}{a b:α}{l:List α} (h:a∈b::l):a=b\/a∈l:=List.mem_cons.mp h
theorem ZM {α β:Type _}{f:α->β}{b:β}{l:List α} (h:b∈l.map f):∃ a,a∈l/\f a=b:=List.mem_map.mp h
theorem ZA {α:Type _}{a:α}{l r:List α} (h:a∈l++r):a∈l\/a∈r:=List.mem_append.mp h
theorem ZF {α:Type _}{a:α}{p:α->Bool}{l:List α} (h:a∈l.filter p):a∈l/\p a=true:=List.mem_filter.mp h
noncomputable abbrev Zb := @wpAny_bind
noncomputable abbrev Zp := @wpAny_pure
noncomputable abbrev Zm := @wpAny_mono
noncomputable abbrev Zu := @Heap.get?_push_of_some
noncomputable abbrev Zz := @Heap.get?_push_size
noncomputable abbrev Zt := @Nat.le_trans
open _root_.List renaming filterMap_cons->E0,map_cons->E5,nodup_cons->E6,mem_map_of_mem->E7,size_toArray->E8,map_map->E9,forIn_cons->EB,mem_cons->EC,map_congr_left->ED,all_map->EE,length_cons->EF,length_append->EG,length_nil->EH,zip_cons_cons->EI,pairwise_map->EJ,mem_of_mem_take->EK,mem_cons_self->EL,any_eq_false->EM,getElem?_eq_none->EN,any_cons->EO,filter_cons->EP,length_map->EQ,getElem?_map->ER,nodup_nil->ES,append_nil->ET,all_eq_true->EU,mem_range->EV,getElem?_eq_getElem->EW,getElem_mem->EX,any_eq_true->EY,dropWhile_cons->EZ,contains_cons->Ea,mem_singleton->Eb,foldl_append->Ec,not_mem_nil->Ed,filter_append->Ee,all_cons->Ef,find?_cons->Eg,map_append->Eh,cons_append->Ei,length_zip->Ej,mem_of_find?_eq_some->Ek,map_set->El,length_filter_le->Em,mem_append->En,mem_of_getElem?->Eo,map_nil->Ep,nodup_append->Er,find?_some->Et,filter_map->Eu,sum_cons->Ew,range'_succ->Ex,map_id->Ey,flatMap_cons->Ez,mem_append_right->F0,mem_append_left->F1,flatMap_append->F5,filter_congr->F6,filter_sublist->F7,foldl_cons->FA,take_of_length_le->FC,takeWhile_cons->FD,any_append->FE,any_map->FF,length_take->FG,flatMap_singleton->FH
open List (mem_iff_getElem)
theorem Zh {α:Type _}{a:α}{l:List α}:a∈a::l:=.head _
noncomputable abbrev Zv := @if_neg
noncomputable abbrev Zw := @if_pos
set_option compiler.extract_closed false
variable {apos p p' pa pf pos ps pt px py pz q tp:Pos}{w:World}{α α0 α1 α2 α3 α4 β:Type}{G a0 a1 a2 a3 a4 a5 a6 a7 a8 p1 p2:Prop}{C D TI TO b d fI g' i1 i2 it l l' z:Addr}{h h':Heap}{v:Value}{first vs:List Value}{K:Frag}{pr prog:Program}{e1 e2 elt e₁ e₂ iter o r₁ r₂:Expr}{s:Shared}{hi k lo m t x1:Nat}{env:Env}{W:Addr->Prop}{f g n name nm sh way y:Str}{E Q Qv:Value->Shared->Prop}{i j mm u un:Int}{elts es ifs:List Expr}{acc fs lf ms ns ts:List Str}{fl:Option Value}{body rest ss:List Stmt}{b₀ st:Stmt}{Pu:Unit->Shared->Prop}{T:String}{scope:Scope}{cl:List (Str × Addr)}{fd:FuncData}{pl:Sem Bool}{op1 op2:CmpOp}{ks:List (Option Expr)}{oe:Obj}{F fp1 fp2:List Addr}{us:List Int}{At1 At2:Nat->Heap->Prop}{kk:Tok}{mv:Bool}{cs:List Nat}
def wkT (k:String):String:=if k == "g" then "(%tacticSeq1Indented (^null (%withReducible 'with_reducible (%refine 'refine (!typeAscription (!hygienicLParen '( (^hygieneInfo ~ ) ) @? ': (^null $a ) ') ) ) ) '; $b ) )" else
 if k == "r" then "(%withReducible 'with_reducible (%refine 'refine $a ) )" else
 if k == "first" then "(%fail $* )" else
 if k == "e" then "(%exact 'exact $a )" else
 if k == "by" then "(!byTactic 'by $a )" else
 if k == "p" then "(%refine 'refine $a )" else
 if k == "q" then "(%withReducible 'with_reducible $a )" else
 if k == "s" then "(%tacticSeq1Indented (^null $; ) )" else
 if k == "rep" then "(%fail 'r $a )" else
 if k == "an" then "(!anonymousCtor '⟨ (^null $, ) '⟩ )" else
 if k == "u" then "(%withUnfoldingAll 'with_unfolding_all $a )" else
 if k == "f_" then "(!fun 'fun (!basicFun (^null @_ ) (^null ) '=> $a ) )" else
 if k == "w" then "(^PyProof.Rows.tacticWalk_at_ 'walk_at $a )" else
 if k == "=s1" then "(@F (@first (@g (Al @_ @_ @_ @_ @_ @_ @_ ) (@first (@r (gi @? ) ) {(@r (# @H @? ) )|qh ql qm oH} (@r (mh @? ) ) ) ) (%fail 'fail (^null ) ) (@g (Al @_ @_ @_ @_ @_ @_ @_ ) (@first (@r (gh @V @? ) ) (@r (qd @H @? ) ) (@r (ma @? ) ) ) ) (@s (@r (af @? ) ) (@first (@g (WS @_ @_ (Stmt.Return none @_ ) @_ @_ @_ @_ ) (@r (eT @? ) ) ) (@g (WS @_ @_ (Stmt.Expr @_ @_ ) @_ @_ @_ @_ ) (@r (qo @? @V ) ) ) (@g (WS @_ @_ (Stmt.Assign (List.cons (Expr.Attribute @_ @_ @_ ) List.nil ) @_ @_ ) @_ @_ @_ @_ ) (@first {(@g (WS @_ @_ (Stmt.Assign (List.cons (Expr.Attribute @_ \"# @_ ) List.nil ) @_ @_ ) @_ @_ @_ @_ ) (@p (wa_# @L @? ) ) )|name validity next_uid top floor letters gone next_validity subscribed} ) ) (@g (WS @_ @_ (Stmt.Assign (List.cons (Expr.Subscript @_ @_ @_ ) List.nil ) @_ @_ ) @_ @_ @_ @_ ) (@r (jT @? ) ) ) (%fail 'fail (^null ) ) (@g (WS @_ @_ (Stmt.Raise @_ @_ @_ ) @_ @_ @_ @_ ) (@p (lr @L @C @Y @K @? ) ) ) ) ) ) )" else
 if k == "=e" then "(@F (@rep (@first (@EV @_ @_ @_ @_ @L @K @O @C @Y @V @H @A @? @_ ) {(@r (# @? ) )|nu pT p9 sU} (@s @SIF (@first (@p (ifT @? ) ) (@p (ifF @? ) ) ) ) (@g (Bw @_ @_ @_ @_ @_ @_ @_ @_ ) (@first {(@r (# @? ) )|oK o0} (@s (@r (eR @? @? @? ) ) @D1 ) (@s (@r (jH @? @? ) ) @D2 ) ) ) (@g (Au @_ @_ @_ @_ @_ @_ @_ @_ ) (@first {(@r (# @? ) )|pC lE pH o7 o4 oM mw lM qp qs mE bp dn mV iu} {(@r (# @UP @? ) )|jn eA} ) ) (@g (A5 @_ @_ @_ @_ @_ @_ ) (@first {(@r (# @? ) )|iL sJ} ) ) (@r (sA @? ) ) (@r (iZ @O @? ) ) (@r (@an @_ @_ rfl @UP @? ) ) (%fail 'fail (^null ) ) ) ) )" else
 if k == "=w" then "(@F (@W @UP (%fail 'fail (^null ) ) (%fail 'fail (^null ) ) (%fail 'fail (^null ) ) @L @K @O @C @Y @V @H @A @? @_ ) )" else
 if k == "=w2" then "(@F (@W @UP (@w \"x2 ) (@w \"fr2 ) @SP @L @K @O @C @Y @V @H @A @? @_ ) )" else
 if k == "=w3" then "(@F (@W (@by (@q (%assumption 'assumption ) ) ) (@w \"x3 ) (@w \"fr2 ) @SP @L @K @O @C @Y @V @H @A @? @_ ) )" else
 if k == "=look" then "(@F (@first (@e (Az.of @H ) ) (@e (AL.of @H ) ) ) )" else
 if k == "=r" then "(@u (@e rfl ) )" else
 if k == "=u" then "(@u (%tacticRfl 'rfl ) )" else
 if k == "=put" then "(@e (BO.of @H ) )" else
 if k == "=lib" then "(@F (@s (@rep (@first {(@r (# @? ) )|AG.call AG.comp AG.mk' AG.hand AG.top} ) ) (%assumption 'assumption ) ) )" else
 if k == "=lv" then "(@F (@first (@s (@rep (@first {(@r (# @? ) )|Cx.lv_call Cx.lv_comp Cx.lv_mk' Cx.lv_hand Cx.lv_top} ) ) (@r (u7 @A @? ) ) (@e rfl ) ) (@w \"lvs ) ) )" else
 if k == "=lvs" then "(@F (@first (@s @so4 (@first (@q (%assumption 'assumption ) ) (@x (lw1 @A rfl ) ) (@x (lw2 @A rfl ) ) (@x (lw3 @A rfl ) ) (@x (lw4 @A rfl ) ) (@x (lw5 rfl ) ) (@x (lw6 @A @A rfl ) ) (@x (lw7 @A @A rfl ) ) (@x (lw8 @A @A rfl ) ) (@x (lw9 @A @A rfl ) ) (@x (li1 @A rfl ) ) (@x (li2 @A rfl ) ) (@x (li3 @A rfl ) ) (@x (li4 @A rfl ) ) (%lia 'lia (%optConfig (^null ) ) ) (%omega 'omega (%optConfig (^null ) ) ) ) ) (@s @so (@first (@q (%assumption 'assumption ) ) (@x (lw1 @A rfl ) ) (@x (lw2 @A rfl ) ) (@x (lw3 @A rfl ) ) (@x (lw4 @A rfl ) ) (@x (lw5 rfl ) ) (@x (lw6 @A @A rfl ) ) (@x (lw7 @A @A rfl ) ) (@x (lw8 @A @A rfl ) ) (@x (lw9 @A @A rfl ) ) (@x (li1 @A rfl ) ) (@x (li2 @A rfl ) ) (@x (li3 @A rfl ) ) (@x (li4 @A rfl ) ) (%lia 'lia (%optConfig (^null ) ) ) (%omega 'omega (%optConfig (^null ) ) ) ) ) ) )" else
 if k == "=cm" then "(@F (@first (@q (%assumption 'assumption ) ) (@s (@rep (@first {(@r (# @? ) )|Cx.cmC Cx.cmM Cx.cmP Cx.cmT} ) ) (@q (%assumption 'assumption ) ) ) ) )" else
 if k == "=up" then "(@F (@first (%assumption 'assumption ) (@s (@first {(@r (# @? @A ) )|AD.le Ae.le AX.le AN.le} (@r (leA @A @? ) ) ) (@w \"up ) ) ) )" else
 if k == "=x2" then "(@F (@first (@g (BU @_ @_ @_ @_ @_ @_ ) (@first {(@r (# @? ) )|qO q9} ) ) (@g (And @_ @_ ) (@first {(@r (# @? ) )|tup2 tup3 tup1 tup4 tup5 tup6 tup7} ) ) (@g (A3 @_ @_ @_ @_ @_ @_ @_ ) (@first {(@r (# @? ) )|uh uL ul ui uq ur} ) ) (@g (AM @_ @_ @_ @_ @_ @_ @_ @_ ) (@first {(@r (# @? ) )|tD j3} ) ) (@g (Cw @_ @_ @_ @_ @_ @_ @_ ) (@first {(@r (# @? ) )|mL lH nJ oy iE} ) ) (@r @BT ) (@g (BC @_ @_ @_ @_ @_ @_ @_ @_ ) (@first {(@r (# (sz @O ) @? ) )|lC js} ) ) (@r (jR @O @? ) ) (@r @BR ) (@g (Bm @_ @_ @_ @_ @_ ) (@p @BP ) ) ) )" else
 if k == "=x3" then "(@F (@first (@g (A3 @_ @_ @_ @_ @_ @_ @_ ) (@first {(@r (ak (AF.w (@by (@q (%assumption 'assumption ) ) ) ) wd_# @? ) )|validity next top floor letters gone} ) ) (@w \"x2 ) ) )" else
 if k == "=fr2" then "(@F (@g (WS @_ @_ (Stmt.Raise (some (Expr.Call (Expr.Name \"NameFault @_ ) @_ @_ @_ ) ) @_ @_ ) @_ @_ @_ @_ ) (@p (pq @L @C @Y @K @K @? ) ) ) )" else
 if k == "=o" then "(@F (@first (@q (%assumption 'assumption ) ) (@x (lw1 @A rfl ) ) (@x (lw2 @A rfl ) ) (@x (lw3 @A rfl ) ) (@x (lw4 @A rfl ) ) (@x (lw5 rfl ) ) (@x (lw6 @A @A rfl ) ) (@x (lw7 @A @A rfl ) ) (@x (lw8 @A @A rfl ) ) (@x (lw9 @A @A rfl ) ) (@x (li1 @A rfl ) ) (@x (li2 @A rfl ) ) (@x (li3 @A rfl ) ) (@x (li4 @A rfl ) ) (%lia 'lia (%optConfig (^null ) ) ) (%omega 'omega (%optConfig (^null ) ) ) ) )" else
 if k == "=cns" then "(@F (@rep (@first (@e AJ.nil ) (%apply 'apply AJ.loc ) (%apply 'apply AJ.glob ) (@s (%apply 'apply AJ.free ) (@rep (@first (@e (List.Mem.head @_ ) ) (%apply 'apply List.Mem.tail ) ) ) ) ) ) )" else
 if k == "=cp" then "(@e (@an (@f_ @H ) (@an @_ (List.Mem.tail @_ (List.Mem.head @_ ) ) rfl rfl ) ) )" else
 if k == "=cok" then "(@e (@an rfl (@by (%decide 'decide (%optConfig (^null (%configItem (%posConfigItem '+ kernel ) ) ) ) ) ) (@by (%decide 'decide (%optConfig (^null (%configItem (%posConfigItem '+ kernel ) ) ) ) ) ) ) )" else
 if k == "=fn" then "(@F (@e (@an (@f_ (@by (%tacticRfl 'rfl ) ) ) (@f_ (@by (%tacticRfl 'rfl ) ) ) (@an rfl rfl rfl rfl rfl rfl (@by (%decide 'decide (%optConfig (^null (%configItem (%posConfigItem '+ kernel ) ) ) ) ) ) (@by (%decide 'decide (%optConfig (^null (%configItem (%posConfigItem '+ kernel ) ) ) ) ) ) ) (@by (@first (@e (bind0' rfl ) ) (@e (bind1' (@f_ rfl ) ) ) (@e (bind2' (@f_ (@f_ rfl ) ) ) ) (@e (bind3' (@f_ (@f_ (@f_ rfl ) ) ) ) ) (@e (bind4' (@f_ (@f_ (@f_ (@f_ rfl ) ) ) ) ) ) (@e (bind5' (@f_ (@f_ (@f_ (@f_ (@f_ rfl ) ) ) ) ) ) ) (@e (bind6' (@f_ (@f_ (@f_ (@f_ (@f_ (@f_ rfl ) ) ) ) ) ) ) ) ) ) (@by (%decide 'decide (%optConfig (^null (%configItem (%posConfigItem '+ kernel ) ) ) ) ) ) ) ) )" else
 if k == "=gn" then "(@s (%rwSeq 'rw (%optConfig (^null ) ) (%rwRuleSeq '[ (^null (%rwRule (^null ) Ai ) ', (%rwRule (^null ) (!proj (@asc (@by (%assumption 'assumption ) ) (AG @_ ) ) '. K ) ) ) '] ) (^null ) ) (^tacticKernel_rfl 'kernel_rfl ) )" else
 if k == "=d" then "(%decide 'decide (%optConfig (^null ) ) )" else
 if k == "=k" then "(%decide 'decide (%optConfig (^null (%configItem (%posConfigItem '+ kernel ) ) ) ) )" else
 if k == "=s" then "(%simp 'simp (%optConfig (^null ) ) (^null ) (^null ) (^null ) (^null ) )" else
 if k == "=show" then "(@p (@asc @? $a ) )" else
 if k == "=cases" then "(@F (@first (@q (@s (%injection 'injection $a (^null ) ) (%done 'done ) ) ) (@one $a AY.dictI.inj ) (@one $a AY.dictS.inj ) (@one $a AY.list.inj ) (@one $a AB.bool.inj ) (@one $a AB.tup.inj ) (@one $a AB.str.inj ) (@one $a AB.int.inj ) (@one $a AB.ref.inj ) (@one $a Option.some.inj ) (@two $a AY.attrs.inj ) (@two $a AY.inst.inj ) (@two $a Prod.mk.inj ) (@two $a List.cons.inj ) (%cases 'cases (^null (%elimTarget (^null ) (!paren (!hygienicLParen '( (^hygieneInfo ~ ) ) $a ') ) ) ) (^null ) (^null ) ) ) )" else
 if k == "=inj" then "(@F (@first (%replace 'replace (!letDecl (!letIdDecl (!letId $b ) (^null ) (^null ) ':= (AY.dictS.inj $a ) ) ) ) (%replace 'replace (!letDecl (!letIdDecl (!letId $b ) (^null ) (^null ) ':= (AY.list.inj $a ) ) ) ) (%replace 'replace (!letDecl (!letIdDecl (!letId $b ) (^null ) (^null ) ':= (AB.tup.inj $a ) ) ) ) (%replace 'replace (!letDecl (!letIdDecl (!letId $b ) (^null ) (^null ) ':= (AB.str.inj $a ) ) ) ) (%replace 'replace (!letDecl (!letIdDecl (!letId $b ) (^null ) (^null ) ':= (AB.int.inj $a ) ) ) ) (%replace 'replace (!letDecl (!letIdDecl (!letId $b ) (^null ) (^null ) ':= (AB.ref.inj $a ) ) ) ) (%replace 'replace (!letDecl (!letIdDecl (!letId $b ) (^null ) (^null ) ':= (Option.some.inj $a ) ) ) ) (%injection 'injection (!paren (!hygienicLParen '( (^hygieneInfo ~ ) ) $a ') ) (^null 'with (^null $b ) ) ) ) )" else
 if k == "=ec" then "(@F (@EC @_ @_ @_ @_ @L @K @O @C @Y @V @H @A @? @_ ) )" else
 if k == "rE" then "(@F (@first (@q (@p (rwE (@as0 $a ) @? ) ) ) (%rewriteSeq 'rewrite (%optConfig (^null ) ) (%rwRuleSeq '[ (^null $b ) '] ) (^null ) ) ) )" else
 if k == "rS" then "(@F (@first (@q (@p (rwS (@as0 $a ) @? ) ) ) (%rewriteSeq 'rewrite (%optConfig (^null ) ) (%rwRuleSeq '[ (^null $b ) '] ) (^null ) ) ) )" else
 if k == "rN" then "(%rewriteSeq 'rewrite (%optConfig (^null ) ) (%rwRuleSeq '[ (^null $b ) '] ) (^null ) )" else
 if k == "rw" then "(@s $* (%tacticTry_ 'try (@Q (@q (%tacticRfl 'rfl ) ) ) ) )" else
 if k == "aU" then "(@Q (@u (%tacticRfl 'rfl ) ) )" else
 if k == "aI" then "(@Q (@u (@s (%intro 'intro (^null @_ ) ) (%tacticRfl 'rfl ) ) ) )" else
 if k == "aM" then "(@Q (@first (@q (%assumption 'assumption ) ) (@s (@rep (@first {(@r (# @? ) )|Cx.cmC Cx.cmM Cx.cmP Cx.cmT} ) ) (@q (%assumption 'assumption ) ) ) ) )" else
 if k == "fn" then "(!fun 'fun (!basicFun (^null $* ) (^null ) '=> @? ) )" else
 if k == "ap" then "(@p ($a $b $c ) )" else
 if k == "cl" then "(%clear 'clear (^null $a ) )" else
 if k == "tc" then "(%tacticTry_ 'try (@Q (@cl $a ) ) )" else
 if k == "or" then "(%obtain 'obtain (^null (%rcasesPatMed (^null (%rcasesPat.one rfl ) ) ) ) (^null ) (^null ':= (^null $a ) ) )" else
 if k == "_" then "(!hole '_ )" else
 if k == "?" then "(!syntheticHole '? '_ )" else
 if k == "C" then "(@by (@first (@q (%assumption 'assumption ) ) (@s (@rep (@first {(@r (# @? ) )|Cx.cmC Cx.cmM Cx.cmP Cx.cmT} ) ) (@q (%assumption 'assumption ) ) ) ) )" else
 if k == "F" then "(%first 'first (^null (^group '| $a ) (^group '| (%fail 'fail (^null ) ) ) ) )" else
 if k == "H" then "(@by (@u (@e rfl ) ) )" else
 if k == "K" then "(@by (@first (@e (Az.of @H ) ) (@e (AL.of @H ) ) ) )" else
 if k == "L" then "(@by (@s (@rep (@first {(@r (# @? ) )|AG.call AG.comp AG.mk' AG.hand AG.top} ) ) (%assumption 'assumption ) ) )" else
 if k == "V" then "(@by (@u (%tacticRfl 'rfl ) ) )" else
 if k == "Y" then "(@by (@first (@s (@rep (@first {(@r (# @? ) )|Cx.lv_call Cx.lv_comp Cx.lv_mk' Cx.lv_hand Cx.lv_top} ) ) (@r (u7 @A @? ) ) (@e rfl ) ) (@w \"lvs ) ) )" else
 if k == "A" then "(@by (%assumption 'assumption ) )" else
 if k == "D1" then "(@s (%decide 'decide (%optConfig (^null ) ) ) (@e (PyProof.noPylong_small (@by (%decide 'decide (%optConfig (^null ) ) ) ) ) ) )" else
 if k == "D2" then "(%decide 'decide (%optConfig (^null ) ) )" else
 if k == "EV" then "(@g (Ev $n $n $n $n $n $n ) (@first (@g (Ev $n $n (Expr.Name $n $n ) $n $n $n ) (@first (@r (ev_pe $k $m ) ) {(@g (Ev $n $n (Expr.Name \"# $n ) $n $n $n ) (@r (ek_# $e $f $m ) ) )|SYSTEM NO_KEYWORD MOST_KEYWORD DELIMITER INBOX_names WILD_SIGNS INBOX_store MOST MOST_MODSEQ SHAPES} {(@g (Ev $n $n (Expr.Name \"# $n ) $n $n $n ) (@r (en_# $e $f $m ) ) )|tuple int bool str bytes} ) ) (@g (Ev $n $n (Expr.Constant $n $n $n ) $n $n $n ) (@first {(@r (# $m ) )|ev_int ev_str ev_bool ev_none} ) ) (@g (Ev $n $n (Expr.Attribute $n $n $n ) $n $n $n ) (@first {(@g (Ev $n $n (Expr.Attribute $n \"# $n ) $n $n $n ) (@r (ea_# $e $m ) ) )|name validity next_uid top floor letters gone uid octets flags instant modseq boxes subscribed next_validity} ) ) (@g (Ev $n $n (Expr.Call (Expr.Name $n $n ) $n $n $n ) $n $n $n ) (@w \"ec ) ) (@g (Ev $n $n (Expr.Call (Expr.Attribute $n $n $n ) $n $n $n ) $n $n $n ) (@first {(@g (Ev $n $n (Expr.Call (Expr.Attribute $n \"# $n ) $n $n $n ) $n $n $n ) (@r (em_& $m ) ) )|split:str_split lower:str_lower find:str_find startswith:str_startswith join:str_join append:list_append get:dict_get pop:dict_pop} {(@g (Ev $n $n (Expr.Call (Expr.Attribute $n \"# $n ) $n $n $n ) $n $n $n ) (@r (me_& $e $m ) ) )|letter:box_letter uids:box_uids box:store_box names:store_names} ) ) (@r (ev_pe $k $m ) ) (@r (ev_sub_nc $f $m ) ) (@r (ev_sub_nn $f $f $m ) ) {(@r (# $m ) )|ev_binop ev_compare1 ev_neg ev_not ev_ifexp ev_tuple ev_list ev_slice} (@g (Ev $n $n (Expr.Subscript $n $n $n ) $n $n $n ) (@p (ev_subscript $m ) ) ) {(@r (# $m ) )|ev_chain2 ev_and ev_or ev_and1 ev_or1} ) ) (@g (Bn $n $n $n $n $n $n ) (@first (@r (pA $k $m ) ) {(@r (# $m ) )|dM lP jJ iU gQ} ) ) (@g (Ay $n $n $n $n $n $n $n ) (@first (@r (s8 $k $m ) ) (@r (nL $f $m ) ) {(@r (# $m ) )|pU qb cT b8} ) )" else
 if k == "O" then "(@by (@first (@q (%assumption 'assumption ) ) (@x (lw1 @A rfl ) ) (@x (lw2 @A rfl ) ) (@x (lw3 @A rfl ) ) (@x (lw4 @A rfl ) ) (@x (lw5 rfl ) ) (@x (lw6 @A @A rfl ) ) (@x (lw7 @A @A rfl ) ) (@x (lw8 @A @A rfl ) ) (@x (lw9 @A @A rfl ) ) (@x (li1 @A rfl ) ) (@x (li2 @A rfl ) ) (@x (li3 @A rfl ) ) (@x (li4 @A rfl ) ) (%lia 'lia (%optConfig (^null ) ) ) (%omega 'omega (%optConfig (^null ) ) ) ) )" else
 if k == "SIF" then "(@q (%change 'change (!app (!explicit '@ ite ) (^null @_ @_ @_ @_ @_ ) ) (^null ) ) )" else
 if k == "UP" then "(@by (@first (%assumption 'assumption ) (@s (@first {(@r (# @? @A ) )|AD.le Ae.le AX.le AN.le} (@r (leA @A @? ) ) ) (@w \"up ) ) ) )" else
 if k == "W" then "(@rep (@first (@EV $* ) (@g (Al $n $n $n $n $n $n $n ) (@first (@r (gi $m ) ) {(@r (# $k $m ) )|qh ql qm oH} (@r (mh $m ) ) $d (@r (gh $j $m ) ) (@r (qd $k $m ) ) (@r (ma $m ) ) (@s (@r (af $m ) ) (@first (@g (WS $n $n (Stmt.Return none $n ) $n $n $n $n ) (@r (eT $m ) ) ) (@g (WS $n $n (Stmt.Expr $n $n ) $n $n $n $n ) (@r (qo $m $j ) ) ) (@g (WS $n $n (Stmt.Assign (List.cons (Expr.Attribute $n $n $n ) List.nil ) $n $n ) $n $n $n $n ) (@first {(@g (WS $n $n (Stmt.Assign (List.cons (Expr.Attribute $n \"# $n ) List.nil ) $n $n ) $n $n $n $n ) (@p (wa_# $e $m ) ) )|name validity next_uid top floor letters gone next_validity subscribed} ) ) (@g (WS $n $n (Stmt.Assign (List.cons (Expr.Subscript $n $n $n ) List.nil ) $n $n ) $n $n $n $n ) (@r (jT $m ) ) ) $c (@g (WS $n $n (Stmt.Raise $n $n $n ) $n $n $n $n ) (@p (lr $e $h $i $f $m ) ) ) ) ) ) ) (@g (Bu @_ @_ @_ @_ @_ @_ @_ ) (@first {(@r (# $m ) )|nu pT p9 sU} ) ) (@s @SIF (@first (@p (ifT $m ) ) (@p (ifF $m ) ) ) ) (@g (Bw $n $n $n $n $n $n $n $n ) (@first {(@r (# $m ) )|oK o0} (@s (@r (eR $m $m $m ) ) @D1 ) (@s (@r (jH $m $m ) ) @D2 ) ) ) (@g (Au $n $n $n $n $n $n $n $n ) (@first {(@r (# $m ) )|pC lE pH o7 o4 oM mw lM qp qs mE bp dn mV iu} {(@r (# $a $m ) )|jn eA} ) ) (@g (A5 $n $n $n $n $n $n ) (@first {(@r (# $m ) )|iL sJ} ) ) (@g (AM @_ @_ @_ @_ @_ @_ @_ @_ ) (@first (@r (sA $m ) ) (@r (iZ $g $m ) ) ) ) (@r (@an $n $n rfl $a $m ) ) $b ) )" else
 if k == "SP" then "(@r (ta @V @H @H @? ) )" else
 if k == "so" then "(%simp 'simp (%optConfig (^null ) ) (^null ) (^null 'only ) (^null '[ (^null (%simpLemma (^null ) (^null ) Cx.call ) ', (%simpLemma (^null ) (^null ) Cx.mk' ) ', (%simpLemma (^null ) (^null ) Cx.comp ) ', (%simpLemma (^null ) (^null ) Cx.hand ) ) '] ) (^null ) )" else
 if k == "so4" then "(%simp 'simp (%optConfig (^null ) ) (^null ) (^null 'only ) (^null '[ (^null (%simpLemma (^null ) (^null ) Cx.call ) ', (%simpLemma (^null ) (^null ) Cx.mk' ) ', (%simpLemma (^null ) (^null ) Cx.comp ) ', (%simpLemma (^null ) (^null ) Cx.hand ) ', (%simpLemma (^null ) (^null ) Cx.top ) ) '] ) (^null ) )" else
 if k == "x" then "(%withReducible 'with_reducible (%exact 'exact $a ) )" else
 if k == "BP" then "(ac @H @? )" else
 if k == "BR" then "(@an @_ rfl @? )" else
 if k == "BT" then "(@an gI @? )" else
 if k == "asc" then "(!typeAscription (!hygienicLParen '( (^hygieneInfo ~ ) ) $a ': (^null $b ) ') )" else
 if k == "one" then "(@s (%replace 'replace (!letDecl (!letIdDecl (!letId $a ) (^null ) (^null ) ':= ($b $a ) ) ) ) (@sub $a ) )" else
 if k == "two" then "(@s (%tacticHave__ 'have (!letConfig (^null ) ) (!letDecl (!letIdDecl (!letId h2__ ) (^null ) (^null ) ':= (And.right ($b $a ) ) ) ) ) (%replace 'replace (!letDecl (!letIdDecl (!letId $a ) (^null ) (^null ) ':= (And.left ($b $a ) ) ) ) ) (@sub $a ) (@sub h2__ ) )" else
 if k == "EC" then "(@first {(@g (Ev $n $n (Expr.Call (Expr.Name \"# $n ) $n $n $n ) $n $n $n ) (@r (ev_# $e $f $m ) ) )|len ord sorted isinstance all any min abs chr} {(@g (Ev $n $n (Expr.Call (Expr.Name \"# $n ) $n $n $n ) $n $n $n ) (@r (ec_# $e $f $m ) ) )|tuple list int range bytes} {(@g (Ev $n $n (Expr.Call (Expr.Name \"# $n ) $n $n $n ) $n $n $n ) (@r (ev_call $f (g& $e ) (f&.fi $e ) $m ) ) )|system_flags:73 is_keyword:80 flag_name:87 flag_tuple:94 place_of:179 raised:186 add_letter:193 set_flags:200 flags_after:205 expunge:210 copy_letters:215 move_letters:220 is_refused:232 distinct:245 forget_gone:250 upper_text:255 is_half:262 first_part:269 normal_name:276 is_barred_code:283 check_name:290 is_below:297 is_number:351 are_texts:356 are_numbers:361 fits_shape:368 check_row:375 settled_name:382 need_modseqs:389 need_room:396 need_new:403 need_validity:410 need_uids:415 create_box:422 delete_box:429 renamed_pairs:436 rename_box:441 rename_inbox:448 append_letter:455 flag_letter:462 store_letters:469 expunge_letters:476 copy_or_move:481 subscribe_name:488 unsubscribe_name:493 apply:524 _law_box:529 _law_draw:536 _law_name:543 _law_flags:548 _law_uids:553 _law_deed:558 _law_normal:565 _law_is_name:572 _law_known:579 _law_new:586 _law_put:593 _law_take:598 _law_turn:605 _law_find:612 _law_tree:617 _law_flagging:622 _law_copying:627 _law_forgetting:632 _law_own:637 _law_told:644 law:651} )" else
 if k == "as0" then "(!typeAscription (!hygienicLParen '( (^hygieneInfo ~ ) ) $a ': (^null ) ') )" else
 if k == "Q" then "(%tacticSeq (%tacticSeq1Indented (^null $* ) ) )" else
 if k == "sub" then "(@first (%subst 'subst (^null $a ) ) (%cases 'cases (^null (%elimTarget (^null ) $a ) ) (^null ) (^null ) ) )" else
 ""
def wkF {α β:Type} (f:α->List β):List α->List β
 | []=>[]
 | x::r=>f x++wkF f r
def wkR (s:String):String :=
 match s.splitOn "{" with
 | []=>s
 | a::ps=>String.join (a::wkF (fun p=>match p.splitOn "}" with
  | [q,r]=>(match q.splitOn "|" with
   | [t,ns]=>[" ".intercalate (wkF (fun n=>let l:=n.splitOn ":";[l.getLast!.intercalate ((l.head!.intercalate (t.splitOn "#")).splitOn "&")]) (ns.splitOn " ")),r]
   | _=>[])
  | _=>[]) ps)
def wkB (k:String):List String:=(wkR (wkT k)).splitOn " "
def wkI (c:String):List Lean.Syntax->List Lean.Syntax
 | a::b::r=>a::.atom .none c::wkI c (b::r)
 | l=>l
def wkN (k:String) (as:List Lean.Syntax):Lean.Syntax:=.node .none k.toName as.toArray
def wkV (f:List String->List Lean.Syntax->List Lean.Syntax) (ps:List Lean.Syntax) (c:Char) (t:String) (as:List Lean.Syntax):List Lean.Syntax :=
 if c == '%' then [wkN ("Lean.Parser.Tactic."++t) as] else if c == '@' then f (wkB t) as else
 if c == '$' then
  let e:=t.front
  if e == '*' then (if t.length == 1 then ps else wkF (fun x=>f (wkB (String.ofList t.toList.tail)) [x]) ps) else if e == ';' || e == ',' then wkI t ps else
  let b:=ps.getD (e.toNat-97) .missing
  if as.isEmpty then [b] else [wkN "Lean.Parser.Term.app" [b,wkN "null" as]]
 else if c == '\'' then [.atom .none t] else if c == '!' then [wkN ("Lean.Parser.Term."++t) as] else if c == '^' then [wkN t as] else
 if c.toNat == 34 then [Lean.Syntax.mkStrLit t] else
 let b:=Lean.mkIdent (if c == '~' then .anonymous else (String.ofList [c]++t).toName)
 if as.isEmpty then [b] else [wkN "Lean.Parser.Term.app" [b,wkN "null" as]]
def wkX:Nat->List Lean.Syntax->List String->List Lean.Syntax × List String
 | n+1,ps,s::ts =>
  match s.toList with
  | '('::c::l =>
   let a:=wkX n ps ts
   let q:=wkX n ps a.2
   (wkV (fun d x=>(wkX n x d).1) ps c (String.ofList l) a.1++q.1,q.2)
  | [')']=>([],ts)
  | c::l =>
   let q:=wkX n ps ts
   (wkV (fun d x=>(wkX n x d).1) ps c (String.ofList l) []++q.1,q.2)
  | _=>wkX n ps ts
 | _,_,_=>([],[])
def wkU (k:String) (ps:List Lean.Syntax):Lean.Syntax:=(wkX 9999 ps (wkB k)).1.headD .missing
def wkH (k:String) (ps:List Lean.Syntax):Lean.MacroM Lean.Syntax :=
 if wkT k == "" then Lean.Macro.throwUnsupported else pure (wkU k ps)
def wkA (s:Lean.Syntax):List Nat->Lean.Syntax
 | []=>s
 | i::r=>wkA (s.getArg i) r
def wkC (s:Lean.Syntax):Lean.MacroM Lean.Syntax :=
 let h:=wkA s [1,0,1]
 if h.isIdent && h.getId.eraseMacroScopes.isAtomic && (wkA s [1,1]).isMissing && (wkA s [1,0,0]).isNone && (s.getArg 2).isNone && (s.getArg 3).isNone then wkH "=cases" [h] else Lean.Macro.throwUnsupported
def wkJ (s:Lean.Syntax):Lean.MacroM Lean.Syntax :=
 if (wkA s [2,1,0]).isIdent && (wkA s [2,1,1]).isMissing then wkH "=inj" [s.getArg 1,wkA s [2,1,0]] else Lean.Macro.throwUnsupported
def wkW (s:Lean.Syntax):Lean.MacroM Lean.Syntax :=
 if (s.getArg 3).isNone then
  wkH "rw" (wkF (fun r=>[wkU (if wkF (fun x=>((r.reprint.getD "").splitOn x).tail) ["by ","s!","⟨"] != [] then "rN" else if (r.getArg 0).isNone then "rE" else "rS") [r.getArg 1,r]]) ((s.getArg 2).getArg 1).getSepArgs.toList)
 else Lean.Macro.throwUnsupported
def wkS (s:Lean.Syntax):Lean.MacroM Lean.Syntax :=
 match (wkA s [1,0]).isInterpolatedStrLit? with
 | some k=>if wkT ("="++k) == "" then Lean.Macro.throwUnsupported else pure (wkU "by" [wkU ("="++k) []])
 | none=>Lean.Macro.throwUnsupported
def wkQ:Nat->List Lean.Syntax->List Lean.Syntax × List Lean.Syntax
 | i,x::r =>
  let q:=wkQ (i+1) r
  if x.getId == `rfl then
   let e:=Lean.mkIdent ("e__"++i.repr).toName
   (e::q.1,e::q.2)
  else ((if x.isAtom then wkU "_" [] else x)::q.1,q.2)
 | _,[]=>([],[])
def wkO (s:Lean.Syntax):Lean.MacroM Lean.Syntax :=
 match wkF (fun q=>[wkF (fun l=>[wkA l [0,0,0,0]]) (q.getArg 1).getSepArgs.toList]) (wkA s [1,0,0]).getSepArgs.toList with
 | [o,w] =>
  let h:=wkA s [3,1,0]
  let q:Lean.Syntax:=Lean.mkIdent `q__
  let w:=wkQ 0 w
  wkH "s" (wkU "ap" [Lean.mkIdent ("ex"++o.length.repr).toName,h,wkU "fn" ((wkQ 0 o).1++[q])]::((if h.isIdent then [wkU "tc" [h]] else []) ++
   wkU "ap" [Lean.mkIdent ("an"++w.1.length.repr).toName,q,wkU "fn" w.1]::wkU "cl" [q]::wkF (fun e=>[wkU "or" [e]]) w.2))
 | _=>Lean.Macro.throwUnsupported
def aU:Lean.Syntax:=wkU "aU" []
def aI:Lean.Syntax:=wkU "aI" []
def aM:Lean.Syntax:=wkU "aM" []
@[elab_as_elim] theorem rwE {α:Sort _}{a:α}{P:α->Prop}{b:α} (h:a=b) (k:P b):P a:=by rw [h];exact k
@[elab_as_elim] theorem rwS {α:Sort _}{a:α}{P:α->Prop}{b:α} (h:b=a) (k:P b):P a:=by rw [<- h];exact k
local macro_rules (kind:=Lean.Parser.Tactic.show) | s=>pure (wkN "Lean.Parser.Tactic.refine" [.atom .none "refine",s.getArg 1])
local macro_rules (kind:=Lean.Parser.Tactic.change) | s=>if (s.getArg 2).isNone then wkH "=show" [s.getArg 1] else Lean.Macro.throwUnsupported
local macro_rules (kind:=Lean.Parser.Tactic.cases) | s=>wkC s
local macro_rules (kind:=Lean.Parser.Tactic.injection) | s=>wkJ s
local macro_rules (kind:=Lean.Parser.Tactic.rwSeq) | s=>wkW s
local macro_rules (kind:=PyProof.Rows.tacticWalk_at_) | s=>wkH ("=" ++ ((s.getArg 1).isStrLit?.getD "")) []
local macro_rules (kind:=termS!_) | s=>wkS s
local macro_rules (kind:=Lean.Elab.Tactic.Ext.ext) | s=>wkH "=w2" [s]
local macro_rules (kind:=Lean.Parser.Tactic.left) | s=>wkH "=o" [s]
local macro_rules (kind:=Lean.Parser.Tactic.right) | s=>wkH "=w" [s]
local macro_rules (kind:=Lean.Parser.Tactic.symm) | s=>wkH "=w3" [s]
local macro_rules (kind:=Lean.Parser.Tactic.obtain) | s=>wkO s
local macro_rules (kind:=Lean.Parser.Tactic.fail) | s=>if s.getNumArgs<4 || (s.getArg 0).isAtom then Lean.Macro.throwUnsupported else pure (.node .none s.getKind (s.getArgs.extract 3 s.getNumArgs))
local macro_rules (kind:=Lean.Parser.Tactic.fail) | s=>if s.getNumArgs<3 || (s.getArg 0).isAtom then Lean.Macro.throwUnsupported else pure (s.getArg 2)
local macro_rules (kind:=Lean.Parser.Tactic.fail) | s=>if s.getNumArgs<2 || (s.getArg 0).isAtom then Lean.Macro.throwUnsupported else pure (s.getArg 1)
local macro_rules (kind:=Lean.Parser.Tactic.fail) | s=>match s.getArg 0 with | .atom _ v=>if v == "r" then pure (.node .none s.getKind #[wkN "Lean.Parser.Tactic.tacticSeq1Indented" [wkN "null" [s.getArg 1,.atom .none ";",s]],wkN "Lean.Parser.Tactic.skip" [.atom .none "skip"]]) else Lean.Macro.throwUnsupported | a=>pure a
noncomputable section
noncomputable def topT (den:Code->Sem Fin) (p:Program) (w:World) (n₀:Nat) (ann:Option Value):Nat->SharedT->Thread->Option SharedT
 | 0,_,_=>none
 | n+1,s,t=>match through t with
  | true=>some s
  | false=>match stepOk n₀ ann t with
   | false=>none
   | true=>match stepT den p w s t with
    | some (s',t')=>topT den p w n₀ ann n s' t'
    | none=>none
theorem qX {tb:String->Option Builtin}{p:Program}{n₀:Nat}{ann:Option Value} :
  ∀ {n:Nat}{s s':SharedT}{t:Thread},topT (denote tb) p w n₀ ann n s t=some s'->topRun tb p w n₀ ann n s.abs t=some s'.abs:=by
 intro n
 induction n with
 | zero=>intro s s' t h;cases h
 | succ n ih =>
  intro s s' t h;have h:(match through t with | true=>some s | false=>match stepOk n₀ ann t with | false=>none | true=>match stepT (denote tb) p w s t with | some (s',t')=>topT (denote tb) p w n₀ ann n s' t' | none=>none)=some s':=h;rw [topRun];cases ht:through t with
  | true=>rw [ht] at h;show congrArg (Option.map SharedT.abs) h
  | false =>
   rw [ht] at h;cases hk:stepOk n₀ ann t with
   | false=>rw [hk] at h;cases h
   | true =>
    rw [hk] at h;cases hs:stepT (denote tb) p w s t with
    | none=>rw [hs] at h;cases h
    | some r=>rw [hs] at h;rw [stepT_spec hs];show ih h
noncomputable def sI (P:Params):BT:=.node (boot_o_0 P)
 (.node (boot_o_1 P) (.node (boot_o_3 P) (.node (boot_o_7 P) .nil .nil) .nil) (.node (boot_o_5 P) (.node (boot_o_9 P) .nil .nil) .nil))
 (.node (boot_o_2 P) (.node (boot_o_4 P) (.node (boot_o_8 P) .nil .nil) .nil) (.node (boot_o_6 P) (.node (boot_o_10 P) .nil .nil) .nil))
theorem ru {p q:Program}{loose:List Str}{Xt:Shared->Bool}{Yf:Shared->α}{Ya:World->α}{N:Nat}{g0:Bool}
  (open_:∀ w:World,(fencedOpening treeTable p w N).map (λs=>(s.heap,s.gens,s.drawn,s.toks))=some (boot_heap w.params,Array.mk [],boot_drawn,boot_toks))
  (run:∀ (w:World) (os:OsState),(topT (denote treeTable) p w 11 (some (.ref 6)) N ⟨sI w.params,11,{},#[],boot_drawn,boot_toks,os⟩ (topStub p)).map (λs =>
    ((staticsOk (importedModules p.main.body) (boot_heap w.params) s.abs.heap && namesBound p s.abs.heap && gensDone s.abs && laidKept (boot_heap w.params) s.abs.heap),
    openSeen q loose (importedModules p.main.body) Xt g0 s.abs,Yf s.abs))=some (true,openGood q loose,Ya w)):LeftO p q loose Xt Yf Ya N g0:=λw=>by
 obtain ⟨⟨h,gs,d,k,os⟩,e,e'⟩:=Option.map_eq_some_iff.mp (open_ w);obtain ⟨rfl,rfl,rfl,rfl⟩:h=boot_heap w.params/\gs=#[]/\d=boot_drawn/\k=boot_toks:=by simpa using e'
 obtain ⟨s₁,r,e2⟩:=Option.map_eq_some_iff.mp (run w os);obtain ⟨l1,l2,l3⟩:_/\_/\_:=by simpa only [Prod.mk.injEq] using e2
 have r:=qX r;have e0:(SharedT.abs ⟨sI w.params,11,{},#[],boot_drawn,boot_toks,os⟩)=⟨boot_heap w.params,#[],boot_drawn,boot_toks,os⟩:=rfl;rw [e0] at r;have z1:((boot_heap w.params).isNs mainGlobals && (#[]:Array GenState).size == 0)=true:=by kernel_rfl
 have z2:(boot_heap w.params).objs.size=11:=rfl;have z3:(boot_heap w.params).nsMap mainGlobals "__annotations__" = some (.ref 6):=by kernel_rfl
 have t:topFrom treeTable p w N ⟨boot_heap w.params,#[],boot_drawn,boot_toks,os⟩=some s₁.abs:=by
  unfold topFrom;dsimp only;rw [z1,z2,z3,r];change (match staticsOk (importedModules p.main.body) (boot_heap w.params) s₁.abs.heap && namesBound p s₁.abs.heap && gensDone s₁.abs && laidKept (boot_heap w.params) s₁.abs.heap with | true=>_ | false=>_)=_;rw [l1]
 unfold openEnds;rw [e];change (topFrom treeTable p w N _).map _=_;rw [t];change some (_,_)=some (_,_);rw [l2,l3]
theorem ex1 {p:α0->Prop} (h:∃ x0,p x0) (k:∀ x0,p x0->G):G:=by obtain ⟨x0,h⟩:=h;show k _ h
theorem ex2 {p:α0->α1->Prop} (h:∃ x0 x1,p x0 x1) (k:∀ x0 x1,p x0 x1->G):G:=by obtain ⟨x0,x1,h⟩:=h;show k _ _ h
theorem ex3 {p:α0->α1->α2->Prop} (h:∃ x0 x1 x2,p x0 x1 x2) (k:∀ x0 x1 x2,p x0 x1 x2->G):G:=by obtain ⟨x0,x1,x2,h⟩:=h;show k _ _ _ h
theorem ex4 {p:α0->α1->α2->α3->Prop} (h:∃ x0 x1 x2 x3,p x0 x1 x2 x3) (k:∀ x0 x1 x2 x3,p x0 x1 x2 x3->G):G:=by obtain ⟨x0,x1,x2,x3,h⟩:=h;show k _ _ _ _ h
theorem ex5 {p:α0->α1->α2->α3->α4->Prop} (h:∃ x0 x1 x2 x3 x4,p x0 x1 x2 x3 x4) (k:∀ x0 x1 x2 x3 x4,p x0 x1 x2 x3 x4->G):G:=by obtain ⟨x0,x1,x2,x3,x4,h⟩:=h;show k _ _ _ _ _ h
theorem ex11 {α5 α6 α7 α8 α9 α10:Type}{p:α0->α1->α2->α3->α4->α5->α6->α7->α8->α9->α10->Prop} (h:∃ x0 x1 x2 x3 x4 x5 x6 x7 x8 x9 x10,p x0 x1 x2 x3 x4 x5 x6 x7 x8 x9 x10) (k:∀ x0 x1 x2 x3 x4 x5 x6 x7 x8 x9 x10,p x0 x1 x2 x3 x4 x5 x6 x7 x8 x9 x10->G):G:=by obtain ⟨x0,x1,x2,x3,x4,x5,x6,x7,x8,x9,x10,h⟩:=h;show k _ _ _ _ _ _ _ _ _ _ _ h
theorem an2 (h:a0/\a1) (k:a0->a1->G):G:=by obtain ⟨h0,h1⟩:=h;show k h0 h1
theorem an3 (h:a0/\a1/\a2) (k:a0->a1->a2->G):G:=by obtain ⟨h0,h1,h2⟩:=h;show k h0 h1 h2
theorem an4 (h:a0/\a1/\a2/\a3) (k:a0->a1->a2->a3->G):G:=by obtain ⟨h0,h1,h2,h3⟩:=h;show k h0 h1 h2 h3
theorem an5 (h:a0/\a1/\a2/\a3/\a4) (k:a0->a1->a2->a3->a4->G):G:=by obtain ⟨h0,h1,h2,h3,h4⟩:=h;show k h0 h1 h2 h3 h4
theorem an6 (h:a0/\a1/\a2/\a3/\a4/\a5) (k:a0->a1->a2->a3->a4->a5->G):G:=by obtain ⟨h0,h1,h2,h3,h4,h5⟩:=h;show k h0 h1 h2 h3 h4 h5
theorem an7 (h:a0/\a1/\a2/\a3/\a4/\a5/\a6) (k:a0->a1->a2->a3->a4->a5->a6->G):G:=by obtain ⟨h0,h1,h2,h3,h4,h5,h6⟩:=h;show k h0 h1 h2 h3 h4 h5 h6
theorem an8 (h:a0/\a1/\a2/\a3/\a4/\a5/\a6/\a7) (k:a0->a1->a2->a3->a4->a5->a6->a7->G):G:=by obtain ⟨h0,h1,h2,h3,h4,h5,h6,h7⟩:=h;show k h0 h1 h2 h3 h4 h5 h6 h7
theorem an9 (h:a0/\a1/\a2/\a3/\a4/\a5/\a6/\a7/\a8) (k:a0->a1->a2->a3->a4->a5->a6->a7->a8->G):G:=by obtain ⟨h0,h1,h2,h3,h4,h5,h6,h7,h8⟩:=h;show k h0 h1 h2 h3 h4 h5 h6 h7 h8
theorem an12 {a9 a10 a11:Prop} (h:a0/\a1/\a2/\a3/\a4/\a5/\a6/\a7/\a8/\a9/\a10/\a11) (k:a0->a1->a2->a3->a4->a5->a6->a7->a8->a9->a10->a11->G):G:=by obtain ⟨h0,h1,h2,h3,h4,h5,h6,h7,h8,h9,h10,h11⟩:=h;show k h0 h1 h2 h3 h4 h5 h6 h7 h8 h9 h10 h11
theorem lw1 {a b c:Nat} (h:a<=b) (e:Nat.ble b c=true):a<=c:=Zt h (Nat.le_of_ble_eq_true e)
theorem lw2 {a b c:Nat} (h:a < b) (e:Nat.ble b c=true):a < c:=Nat.lt_of_lt_of_le h (Nat.le_of_ble_eq_true e)
theorem lw3 {a b c:Nat} (h:a<=b) (e:Nat.ble (b+1) c=true):a < c:=Nat.lt_of_le_of_lt h (Nat.le_of_ble_eq_true e)
theorem lw4 {a b c:Nat} (h:a < b) (e:Nat.ble b (c+1)=true):a<=c:=Nat.le_of_lt_succ (Nat.lt_of_lt_of_le h (Nat.le_of_ble_eq_true e))
theorem lw5 {a b:Nat} (e:Nat.ble a b=true):a<=b:=Nat.le_of_ble_eq_true e
theorem lw6 {a b c d:Nat} (h:a=b) (g:b<=d) (e:Nat.ble d c=true):a<=c:=h ▸ lw1 g e
theorem lw7 {a b c d:Nat} (h:a=b) (g:b < d) (e:Nat.ble d c=true):a < c:=h ▸ lw2 g e
theorem lw8 {a b c d:Nat} (h:a=b) (g:b < d) (e:Nat.ble d (c+1)=true):a<=c:=h ▸ lw4 g e
theorem lw9 {a b c d:Nat} (h:a=b) (g:b<=d) (e:Nat.ble (d+1) c=true):a < c:=h ▸ lw3 g e
theorem li1 {a b c:Int} (h:a<=b) (e:decide (b<=c)=true):a<=c:=Int.le_trans h (of_decide_eq_true e)
theorem li2 {a b c:Int} (h:a < b) (e:decide (b<=c)=true):a < c:=Int.lt_of_lt_of_le h (of_decide_eq_true e)
theorem li3 {a b c:Int} (h:a<=b) (e:decide (b < c)=true):a < c:=Int.lt_of_le_of_lt h (of_decide_eq_true e)
theorem li4 {a b c:Int} (h:a < b) (e:decide (b<=c+1)=true):a<=c:=Int.le_of_lt_add_one (Int.lt_of_lt_of_le h (of_decide_eq_true e))
theorem li5 {a b:Int} (e:decide (a<=b)=true):a<=b:=of_decide_eq_true e
set_option genCtorIdx true in
inductive AB where
 | none
 | bool (b:Bool)
 | int (i:Int)
 | str (s:Str)
 | bytes (b:Array UInt8) (t:Tok)
 | type (n:String)
 | tup (vs:List AB)
 | ref (a:Addr)
mutual
inductive VR (h:Heap):Value->AB->Prop
 | none:VR h .none .none
 | bool (b:Bool):VR h (.bool b) (.bool b)
 | int (i:Int) (t:Tok):VR h (.int i t) (.int i)
 | str (x:Str) (t:Tok):VR h (.str x t) (.str x)
 | bytes (b:Array UInt8) (t:Tok):VR h (.bytes b t) (.bytes b t)
 | type (n:String):VR h (.type n) (.type n)
 | tup {a:Addr}{o:Obj}{vs:List Value}{n:Nat}{as:List AB}:h.get? a=some o->o.cls=.type "tuple" -> o.data=.seq vs.toArray n->AW h vs as->VR h (.ref a) (.tup as)
 | ref (a:Addr):VR h (.ref a) (.ref a)
inductive AW (h:Heap):List Value->List AB->Prop
 | nil:AW h [] []
 | cons {v:Value}{a:AB}{vs:List Value}{as:List AB}:VR h v a->AW h vs as->AW h (v::vs) (a::as)
end
variable {a oct:AB}{as fa items xs ys:List AB}
def AH (h h':Heap):Prop:=∀ b o,h.get? b=some o->o.cls=.type "tuple" -> (∃ xs n,o.data=.seq xs n)->∃ o',h'.get? b=some o'/\o'.cls=.type "tuple" /\ o'.data=o.data
theorem VR.keep (k:AH h h')  (x:VR h v a):VR h' v a :=
 VR.rec (motive_1:=λv a _=>VR h' v a) (motive_2:=λvs as _=>AW h' vs as) .none .bool .int .str .bytes .type (λe c d _ ih=>by show ex1 (k _ _ e c ⟨_,_,d⟩) λ_ h1z=>?_;show an3 h1z λe' c' d'=>?_;clear h1z;show .tup e' c' (d'.trans d) ih) .ref .nil (λ_ _ x r=>.cons x r) x
theorem AW.keep (k:AH h h')  (r:AW h vs as):AW h' vs as :=
 AW.rec (motive_1:=λv a _=>VR h' v a) (motive_2:=λvs as _=>AW h' vs as) .none .bool .int .str .bytes .type (λe c d _ ih=>by show ex1 (k _ _ e c ⟨_,_,d⟩) λ_ h2z=>?_;show an3 h2z λe' c' d'=>?_;clear h2z;show .tup e' c' (d'.trans d) ih) .ref .nil (λ_ _ x r=>.cons x r) r
theorem AW.length :∀ {as:List AB},AW h vs as->vs.length=as.length:=by
 induction vs with
 | nil=>intro as r;cases r;rfl
 | cons v vs ih=>intro as r;cases r with | cons x r=>show congrArg (·+1) (ih r)
theorem AW.get :∀ {as:List AB}{i:Nat}{a:AB},AW h vs as->as[i]?=some a->∃ v,vs[i]?=some v/\VR h v a:=by
 induction vs with
 | nil=>intro as i a r e;cases r;cases e
 | cons v vs ih =>
  intro as i a r e;cases r with
  | cons x r =>
   cases i with
   | zero=>cases e;show ⟨_,rfl,x⟩
   | succ i=>rw [List.getElem?_cons_succ] at e ⊢;show ih r e
theorem AW.append :∀ {ws:List Value}{as bs:List AB},AW h vs as->AW h ws bs->AW h (vs++ws) (as++bs):=by
 induction vs with
 | nil=>intro ws as bs r y;cases r;show y
 | cons v vs ih=>intro ws as bs r y;cases r with | cons x r=>show .cons x (ih r y)
set_option genInjectivity true in
set_option genCtorIdx true in
inductive AY where
 | list (vs:List AB)
 | dictS (es:List (Str × AB))
 | dictI (es:List (Int × AB))
 | dictT (es:List (List Int × AB)) (ep:Nat)
 | inst (C d:Addr)
 | range (i j:Int)
 | attrs (ns:List Str) (m:Str->Option AB)
 | exc (C:Addr) (d:Option Addr) (vs:Array Value)
variable {ao ao':AY}
inductive Aw {K:Type} (h:Heap):List (K × Value)->List (K × AB)->Prop
 | nil:Aw h [] []
 | cons {k:K}{v:Value}{a:AB}{vs:List (K × Value)}{as:List (K × AB)}:VR h v a->Aw h vs as->Aw h ((k,v)::vs) ((k,a)::as)
theorem Aw.keep {K:Type} (q:AH h h') {vs:List (K × Value)}{as:List (K × AB)} (r:Aw h vs as):Aw h' vs as:=by
 induction r with
 | nil=>show .nil
 | cons x _ ih=>show .cons (x.keep q) ih
theorem Aw.length {K:Type}{vs:List (K × Value)}{as:List (K × AB)} (r:Aw h vs as):vs.length=as.length:=by
 induction r with
 | nil=>rfl
 | cons _ _ ih=>show congrArg (·+1) ih
def Dl (h:Heap) (a:Addr) (ep:Nat):Prop:=∃ o es,h.get? a=some o/\o.data=.dict es ep
inductive OR (pr:Program) (w:World) (h:Heap) (a:Addr):AY->Prop
 | list {vs:List Value}{n:Nat}{as:List AB}:h.get? a=some { cls:=.type "list",data:=.seq vs.toArray n }->AW h vs as->OR pr w h a (.list as)
 | dictS {kvs:List (Str × Value)}{es:List (Str × AB)}:h.DictOf (strKind pr w) a kvs->Aw h kvs es->OR pr w h a (.dictS es)
 | dictI {kvs:List (Int × Value)}{es:List (Int × AB)}:h.DictOf (intKind pr w) a kvs->Aw h kvs es->OR pr w h a (.dictI es)
 | dictT {xs:List (List Int × Addr × Value)}{es:List (List Int × AB)}{ep:Nat}:h.DictOfH (tupleKind (intKind pr w)) a xs->Dl h a ep->Aw h (xs.map λx=>(x.1,x.2.2)) es->OR pr w h a (.dictT es ep)
 | inst {C d:Addr}:h.get? a=some { cls:=.ref C,dict:=some d,data:=.plain }->OR pr w h a (.inst C d)
 | range {i j:Int}{t u v:Tok}:IsRange h a i j 1 t u v->OR pr w h a (.range i j)
 | attrs {ns:List Str}{m:Str->Option AB}{m':Str->Option Value}:h.Ns1 a m'->Within m' ns ->
   (∀ x,match m x with | some v=>∃ v',m' x=some v'/\VR h v' v | none=>m' x=none)->OR pr w h a (.attrs ns m)
 | exc {C:Addr}{d:Option Addr}{vs:Array Value}:h.get? a=some { cls:=.ref C,dict:=d,data:=.fields vs }->OR pr w h a (.exc C d vs)
theorem OR.here {a:Addr}{o:AY} (x:OR pr w h a o):∃ ob,h.get? a=some ob/\(ob.cls=.type "tuple" -> ∀ xs n,ob.data≠.seq xs n):=by
 cases x with
 | list e _=>show ⟨_,e,by intro q;simp at q⟩
 | dictS e _=>show ex3 e λo es ep h3z=>?_;(try clear e);show an4 h3z λe hc hd _=>?_;clear h3z;show ⟨_,e,λ_ xs n q=>by rw [hd] at q;cases q⟩
 | dictI e _=>show ex3 e λo es ep h4z=>?_;(try clear e);show an4 h4z λe hc hd _=>?_;clear h4z;show ⟨_,e,λ_ xs n q=>by rw [hd] at q;cases q⟩
 | dictT e _ _=>show ex3 e λo es ep h5z=>?_;(try clear e);show an4 h5z λe hc hd _=>?_;clear h5z;show ⟨_,e,λ_ xs n q=>by rw [hd] at q;cases q⟩
 | inst e=>show ⟨_,e,by intro q;cases q⟩
 | range e=>show ⟨_,e,by intro q;simp at q⟩
 | attrs e _ _=>show ex3 e λo es ep h6z=>?_;(try clear e);show an3 h6z λe hd _=>?_;clear h6z;show ⟨_,e,λ_ xs n q=>by rw [hd] at q;cases q⟩
 | exc e=>show ⟨_,e,by intro q;cases q⟩
theorem OR.keep {a:Addr}{o:AY} (x:OR pr w h a o) (k:AH h h') (e:h'.get? a=h.get? a):OR pr w h' a o:=by
 cases x with
 | list e' r=>show .list (e.trans e') (r.keep k)
 | dictS e' r=>show ex3 e' λo es ep h7z=>?_;(try clear e');show an2 h7z λe' q=>?_;clear h7z;show .dictS ⟨o,es,ep,e.trans e',q⟩ (r.keep k)
 | dictI e' r=>show ex3 e' λo es ep h8z=>?_;(try clear e');show an2 h8z λe' q=>?_;clear h8z;show .dictI ⟨o,es,ep,e.trans e',q⟩ (r.keep k)
 | dictT e' dp r =>
  obtain ⟨o,es,ep⟩|⟨e',hc,hd,he,hk,hn⟩:=e';show .dictT ⟨o,es,ep,e.trans e',hc,hd,he,λx hx=>?_,hn⟩ (ex2 dp λo2 es2 z=>an2 z λz1 z2=>⟨o2,es2,e.trans z1,z2⟩) (r.keep k);obtain ⟨ot,items,n⟩|⟨ho,hct,hdt,hi⟩:=(hk x hx)
  obtain ⟨ot'⟩|⟨ho',hct',hdt'⟩:=(k _ ot ho hct ⟨_,_,hdt⟩)
  show ⟨ot',items,n,ho',hct',hdt'.trans hdt,hi⟩
 | inst e'=>show .inst (e.trans e')
 | range e'=>show .range (e.trans e')
 | exc e'=>show .exc (e.trans e')
 | @attrs ns m m' n w r =>
  show .attrs (m':=m') ?_ w λx=>?_
  ·obtain ⟨o,es,ep⟩|⟨ho,q⟩:=n;show ⟨o,es,ep,e.trans ho,q⟩
  ·have:=r x;revert this;split
   ·intro r1z;obtain ⟨v'⟩|⟨p,q⟩:=r1z;show ⟨v',p,q.keep k⟩
   ·show id
noncomputable def tagO (o:Option AY):Nat:=match o with
 | none=>0
 | some o=>match o with
  | .list _=>1
  | .dictS _=>2
  | .dictI _=>3
  | .dictT _ _=>4
  | .inst _ _=>5
  | .range _ _=>6
  | .attrs _ _=>7
  | .exc _ _ _=>8
theorem nos {x:Option α}{o:α} (h:x=none) (g:x=some o):G:=by rw [h] at g;cases g
abbrev AA:=Addr->Option AY
variable {U U' U1 U2 Y:AA}{R:AB->AA->Prop}{M:AA->Prop}
noncomputable def AA.set (U:AA) (a:Addr) (o:AY):AA:=λb=>if b=a then some o else U b
theorem Zs (U:AA) (a:Addr) (o:AY):U.set a o a=some o:=Zw rfl
theorem Zn {a:Addr}{o:AY} (h:b≠a):U.set a o b=U b:=Zv h
def Le (U Y:AA):Prop:=∀ a o,U a=some o->Y a=some o
theorem Le.refl (U:AA):Le U U:=λ_ _ e=>e
theorem Zr {s:AA}:Le s s:=Le.refl _
theorem Le.trans {υ:AA} (x:Le U Y) (y:Le Y υ):Le U υ:=λa o e=>y a o (x a o e)
theorem Zl {a:Addr}{o:AY} (e:U a=none):Le U (U.set a o):=λb ob q=>by
 rw [Zn];show q;rintro rfl;rw [e] at q;cases q
structure NV where
 name:Str
 kind:NameKind
 val:Option AB
variable {r r' V V':List NV}{N:List NV->AA->Prop}{V₂:AB->List NV}
noncomputable abbrev NV.gl (x:Str):NV:=⟨x,.globalImplicit,none⟩
def Bf (env:Env) (h:Heap) (x:Str) (v:Value):NameKind->Prop
 | .local=>∃ m,h.Ns env.locals m/\m x=some v
 | .cell=>∃ b,env.cells.lookup x=some b/\h.IsCell b (some v)
 | .free=>∃ b,env.cells.lookup x=some b/\h.IsCell b (some v)
 | _=>False
structure Cx where
 prog:Program
 w:World
 K:Frag
 G:Heap
 A:Around
 env:Env
 fenv:Env
 outer:List Env
 own:List Addr
 lv:Nat
 fn:Bool
 calm:Bool
variable {c c':Cx}
noncomputable def Cx.frames (c:Cx):List Addr:=(c.fenv::c.outer).filterMap (·.frame)
structure Cx.Ok (c:Cx):Prop where
 fr:c.A.frames=some (c.fenv::c.outer)
 hd:c.calm=true->c.A.handled=none
 gd:c.A.guards=some []
 depth:c.A.depth+8 * c.lv<=900
 units:c.A.units+40 * c.lv<=9000
 kind:c.env.scope.kind=.function
 glob:c.env.globals=mainGlobals
 blt:c.env.builtins=builtinsNs
 KG:c.K.In c.G
 lim:c.G.NoLimit
 bg:∃ mg mb,c.G.Ns mainGlobals mg/\c.G.Ns builtinsNs mb/\(∀ (x:Str),nsIn c.K mainGlobals x=some none->mg x=none)/\∀ (x:Str) (v:Value),x≠("__name__" : Str)->bootBuiltins x=some v->mb x=some v
 sm:∃ o,c.G.get? sysModules=some o
 locIn:c.env.locals∈c.own
 cells:(c.env.cells.map (·.2)).Nodup
 cellsOff:∀ x∈c.env.cells,x.2≠c.env.locals
 cellsOf:∀ n∈c.env.scope.names,n.2=.cell->∃ b,c.env.cells.lookup n.1=some b
 fnEnv:c.fn=true->c.env=c.fenv
 fnOwn:c.fn=true->∀ x∈c.env.cells,x.2∈c.own
 nodup:(c.env.scope.names.map (·.1)).Nodup
 tame:c.env.scope.names.all (λn=>n.1 != ("__debug__" : Str) && n.1 != ("__classdict__" : Str))=true
structure St (c:Cx) (V:List NV) (U:AA) (h:Heap):Prop where
 ok:c.Ok
 base:c.G.StaysIn h
 frames:h.FunFrames c.G (c.fenv::c.outer)
 names:V.map (λe=>(e.name,e.kind))=c.env.scope.names
 locs:∃ m,h.Ns c.env.locals m
 cellsAt:∀ x∈c.env.cells,∃ v,h.IsCell x.2 v
 vars:∀ e∈V,∀ a,e.val=some a->∃ v,Bf c.env h e.name v e.kind/\VR h v a
 obj:∀ a o,U a=some o->OR c.prog c.w h a o
 off:∀ a o,U a=some o->c.G.get? a=none/\a∉c.own/\a∉c.frames/\∀ x∈c.env.cells,a≠x.2
 ownNew:∀ b∈c.own,c.G.get? b=none/\∃ o,h.get? b=some o/\∀ xs n,o.data≠.seq xs n
structure AE (c:Cx) (U:AA) (s:Shared) (U':AA) (s':Shared):Prop where
 kept:∀ b o,s.heap.get? b=some o->U b=none->b∉c.own->∃ sl,s'.heap.get? b=some { o with slots:=sl }/\(b∉c.frames->sl=o.slots)
 there:∀ b o,s.heap.get? b=some o->∃ o',s'.heap.get? b=some o'
 grow:∀ b o,s.heap.get? b=some o->U b=none->U' b=none
 gens:s'.gens=s.gens
 os:s'.os=s.os
theorem AE.refl (c:Cx) (U:AA) (s:Shared):AE c U s U s:=⟨λ_ o e _ _=>⟨o.slots,e,λ_=>rfl⟩,λ_ o e=>⟨o,e⟩,λ_ _ _ e=>e,rfl,rfl⟩
theorem AE.trans {U3:AA}{s₁ s₂ s₃:Shared} (x:AE c U1 s₁ U2 s₂) (y:AE c U2 s₂ U3 s₃):AE c U1 s₁ U3 s₃ where
 kept b o e q n:=by
  obtain ⟨sl⟩|⟨e',f'⟩:=(x.kept b o e q n)
  obtain ⟨sl'⟩|⟨e'',f''⟩:=(y.kept b _ e' (x.grow b o e q) n)
  show ⟨sl',e'',λz=>(f'' z).trans (f' z)⟩
 there b o e:=let ⟨o',e'⟩:=x.there b o e;y.there b o' e'
 grow b o e q:=let ⟨o',e'⟩:=x.there b o e;y.grow b o' e' (x.grow b o e q)
 gens:=y.gens.trans x.gens
 os:=y.os.trans x.os
theorem AE.exact {s':Shared} (x:AE c U s U' s') {o:Obj} (e:s.heap.get? b=some o) (q:U b=none) (n:b∉c.own) (f:b∉c.frames):s'.heap.get? b=some o:=by
 obtain ⟨sl⟩|⟨e',f'⟩:=(x.kept b o e q n)
 rw [e',f' f]
theorem AE.toks {s':Shared} (x:AE c U s U' s'):AE c U s U' { s' with toks:=t }:=⟨x.kept,x.there,x.grow,x.gens,x.os⟩
theorem aj (h:Heap):h.get? h.objs.size=none:=by
 cases q:h.get? h.objs.size with
 | none=>rfl
 | some o=>show absurd (Heap.lt_size q) (Nat.lt_irrefl _)
theorem b6 {G:Heap}{l:List Env} (x:h.FunFrames G l) (k:∀ b∈l.filterMap (·.frame),∀ o,h.get? b=some o->∃ o',h'.get? b=some o'/\o'.data=o.data):h'.FunFrames G l:=by
 induction l with
 | nil=>trivial
 | cons env r ih =>
  show an3 x λhk h1z hr=>?_;(try clear x);obtain ⟨L,o,hf,hn,ho,hd⟩:=h1z;have hL:L∈(env::r).filterMap (·.frame):=by rw [E0,hf];show .head _
  obtain ⟨o'⟩|⟨ho',hd'⟩:=(k L hL o ho)
  show ⟨hk,⟨L,o',hf,hn,ho',λvs=>hd' ▸ hd vs⟩,ih hr λb hb=>k b ?_⟩;rw [E0,hf];show .tail _ hb
section
variable {c:Cx}{V:List NV}{U U' Y:AA}{h h':Heap}{s s':Shared}
theorem St.tupKept_of (S:St c V U h) (k:∀ b o,h.get? b=some o->U b=none->b∉c.own->∃ sl,h'.get? b=some { o with slots:=sl }):AH h h':=λb o e q d=>by
 have h1:U b=none:=by
  cases z:U b with
  | none=>rfl
  | some ao =>
   obtain ⟨ob⟩|⟨e',n⟩:=((S.obj b ao z).here)
   rw [e] at e';cases e';obtain ⟨xs,m,d⟩:=d;show absurd d (n q xs m)
 have h2:b∉c.own:=λz=>by
  obtain ⟨_,ob,e',n⟩:=S.ownNew b z;rw [e] at e';cases e';obtain ⟨xs,m,d⟩:=d;show n xs m d
 obtain ⟨sl,e'⟩:=k b o e h1 h2;show ⟨_,e',q,rfl⟩
theorem AE.tup (x:AE c U s U' s') (S:St c V U s.heap):AH s.heap s'.heap:=S.tupKept_of λb o e q n=>let ⟨sl,e',_⟩:=x.kept b o e q n;⟨sl,e'⟩
theorem ay (k:∀ b o,h.get? b=some o->h'.get? b=some o):AH h h':=λ_ o e q _=>⟨o,k _ _ e,q,rfl⟩
theorem aP {a:Addr}{oa:Obj} (k:Heap.ExtBut a h h') (ha:h.get? a=some oa) (na:oa.cls=.type "tuple" -> ∀ xs n,oa.data≠.seq xs n):AH h h':=λb o e q d=>by
 show ⟨o,k b o ?_ e,q,rfl⟩;rintro rfl;rw [ha] at e;cases e;obtain ⟨xs,m,d⟩:=d;show na q xs m d
theorem Bf.keep {x:Str}{k:NameKind} (y:Bf env h x v k) (kn:∀ b o,b=env.locals\/(∃ n,(n,b)∈env.cells)->h.get? b=some o->h'.get? b=some o):Bf env h' x v k:=by
 cases k with
 | «local»=>show ex1 y λm h5z=>?_;(try clear y);show an2 h5z λh4z e=>?_;clear h5z;obtain ⟨o,es,ep,ho,r⟩:=h4z;show ⟨m,⟨o,es,ep,kn _ _ (.inl rfl) ho,r⟩,e⟩
 | cell=>obtain ⟨b,l,o,ho,d⟩:=y;show ⟨b,l,o,kn _ _ (.inr ⟨_,mem_of_lookup l⟩) ho,d⟩
 | free=>obtain ⟨b,l,o,ho,d⟩:=y;show ⟨b,l,o,kn _ _ (.inr ⟨_,mem_of_lookup l⟩) ho,d⟩
 | _=>show y.elim
theorem OR.keepB {a:Addr}{o:AY} (x:OR pr w h a o) (k:AH h h') (e:∀ ob,h.get? a=some ob->h'.get? a=some ob):OR pr w h' a o:=by
 show ex1 x.here λob h6z=>?_;show an2 h6z λha _=>?_;clear h6z;show x.keep k ((e ob ha).trans ha.symm)
theorem St.move (S:St c V U h)  (k:∀ b o,¬ W b->h.get? b=some o->h'.get? b=some o) (hG:∀ b,W b->c.G.get? b=none) (hown:∀ b∈c.own,¬ W b)
  (hfr:∀ b∈c.frames,¬ W b) (hcl:∀ x∈c.env.cells,¬ W x.2) (hσ:∀ b o,U b=some o->¬ W b) (t:AH h h'):St c V U h' where
 ok:=S.ok
 base b o e:=k b o (λw=>by rw [hG b w] at e;cases e) (S.base b o e)
 frames:=b6 S.frames λb hb o e=>⟨o,k b o (hfr b hb) e,rfl⟩
 names:=S.names
 locs:=by obtain ⟨m,o,es,ep,ho,r⟩:=S.locs;show ⟨m,o,es,ep,k _ _ (hown _ S.ok.locIn) ho,r⟩
 cellsAt x hx:=by obtain ⟨v,o,e,d⟩:=S.cellsAt x hx;show ⟨v,o,k _ _ (hcl x hx) e,d⟩
 vars e he a' ha:=by
  obtain ⟨v⟩|⟨y,r⟩:=(S.vars e he a' ha)
  show ⟨v,y.keep λb o hb e'=>k b o ?_ e',r.keep t⟩;rcases hb with rfl | ⟨n,hn⟩
  ·show hown _ S.ok.locIn
  ·show hcl _ hn
 obj b o e:=(S.obj b o e).keepB t λob=>k b ob (hσ b o e)
 off:=S.off
 ownNew b hb:=let ⟨g,o,e,n⟩:=S.ownNew b hb;⟨g,o,k b o (hown b hb) e,n⟩
theorem St.ext (S:St c V U h) (k:∀ b o,h.get? b=some o->h'.get? b=some o):St c V U h' :=
 S.move (W:=λ_=>False) (λb o _ e=>k b o e) (λ_ w=>w.elim) (λ_ _=>id) (λ_ _=>id) (λ_ _=>id) (λ_ _ _=>id) (ay k)
theorem St.less (S:St c V U h) (k:∀ a o,Y a=some o->U a=some o):St c V Y h :=
 { S with obj:=λa o e=>S.obj a o (k a o e),off:=λa o e=>S.off a o (k a o e) }
theorem St.add (S:St c V U h) {a:Addr}{o:AY} (x:OR c.prog c.w h a o) (f:c.G.get? a=none/\a∉c.own/\a∉c.frames/\∀ x∈c.env.cells,a≠x.2):St c V (U.set a o) h :=
 { S with
  obj:=λb ob e=>by
   by_cases q:b=a
   ·subst q;rw [Zs] at e;cases e;show x
   ·rw [Zn q] at e;show S.obj b ob e
  off:=λb ob e=>by
   by_cases q:b=a
   ·subst q;show f
   ·rw [Zn q] at e;show S.off b ob e }
theorem St.none_of (S:St c V U h) {a:Addr} (e:h.get? a=none):U a=none:=by
 cases z:U a with
 | none=>rfl
 | some o=>show ex1 ((S.obj a o z).here) λob h8z=>?_;show an2 h8z λq _=>?_;clear h8z;rw [e] at q;cases q
theorem St.new_off (S:St c V U h) {a:Addr} (e:h.get? a=none):c.G.get? a=none/\a∉c.own/\a∉c.frames/\∀ x∈c.env.cells,a≠x.2:=by
 show ⟨?_,λz=>?_,λz=>?_,λx hx=>?_⟩
 ·cases z:c.G.get? a with
  | none=>rfl
  | some o=>have:=S.base a o z;rw [e] at this;cases this
 ·obtain ⟨_,o,q,_⟩:=S.ownNew a z;rw [e] at q;cases q
 ·obtain ⟨_,o,q,_⟩:=Heap.FunFrames.mem S.frames z;rw [e] at q;cases q
 ·rintro rfl;obtain ⟨v,o⟩|⟨q,_⟩:=(S.cellsAt x hx)
  rw [e] at q;cases q
theorem St.alloc (S:St c V U h) {o:Obj} (x:OR c.prog c.w (h.push o) h.objs.size ao):St c V (U.set h.objs.size ao) (h.push o):=by
 have S':=S.ext (h':=h.push o) λb ob e=>Zu _ e;show S'.add x (S.new_off (aj h))
theorem AE.ext (k:∀ b o,s.heap.get? b=some o->h'.get? b=some o):AE c U s U { s with heap:=h',toks:=t } :=
 ⟨λb o e _ _=>⟨o.slots,k b o e,λ_=>rfl⟩,λb o e=>⟨o,k b o e⟩,λ_ _ _ e=>e,rfl,rfl⟩
theorem AE.alloc {a:Addr} (k:∀ b o,s.heap.get? b=some o->h'.get? b=some o) (n:s.heap.get? a=none):AE c U s (U.set a ao) { s with heap:=h',toks:=t } :=
 ⟨λb o e _ _=>⟨o.slots,k b o e,λ_=>rfl⟩,λb o e=>⟨o,k b o e⟩,λb o e q=>by
  rw [Zn];show q
  rintro rfl;rw [n] at e;(cases e),rfl,rfl⟩
theorem St.upd (S:St c V U h) {a:Addr} (ha:U a=some ao) (k:Heap.ExtBut a h h') (x:OR c.prog c.w h' a ao'):St c V (U.set a ao') h':=by
 obtain ⟨ob⟩|⟨e,n⟩:=((S.obj a ao ha).here)
 have f:=S.off a ao ha;have t:=aP k e n;have S1:St c V (λb=>if b=a then none else U b) h:=S.less λb o q=>by
  by_cases z:b=a
  ·rw [Zw z] at q;cases q
  ·rw [Zv z] at q;show q
 have S2:=S1.move (W:=λb=>b=a) (h':=h') (λb o w e=>k b o w e) (λb w=>w ▸ f.1) (λb hb w=>f.2.1 (w ▸ hb)) (λb hb w=>f.2.2.1 (w ▸ hb)) (λx hx w=>f.2.2.2 x hx w.symm)
  (λb o q w=>by rw [Zw w] at q;cases q) t
 show (S2.add x f).less λb o q=>by
  by_cases z:b=a
  ·subst z;rw [Zs] at q ⊢;show q
  ·rw [Zn z] at q ⊢;rw [Zv z];show q
theorem AE.upd {a:Addr} (ha:U a=some ao) (k:Heap.ExtBut a s.heap h') (x:OR c.prog c.w h' a ao'):AE c U s (U.set a ao') { s with heap:=h',toks:=t } :=
 ⟨λb o e q _=>⟨o.slots,k b o (by rintro rfl;rw [ha] at q;cases q) e,λ_=>rfl⟩,λb o e=>by
  by_cases z:b=a
  ·subst z;show ex1 x.here λob h11z=>?_;show an2 h11z λe' _=>?_;clear h11z;show ⟨ob,e'⟩
  ·show ⟨o,k b o z e⟩,λb o _ q=>by
  rw [Zn];show q
  rintro rfl;rw [ha] at q;(cases q),rfl,rfl⟩
end
structure AC where
 cls:Addr
 what:AB
 at_:AB
 fresh:Bool
variable {XS:AC->List NV->AA->Prop}
noncomputable def cy:List Str:=["what", "at"]
inductive CB (U:AA) (s:Shared) (e:Addr) (x:AC) (fl:Option Value) (h B:Heap) (P:Addr->Prop):Prop
 | mk (oe:Obj) (vs:Array Value) (d:Addr) (m:Str->Option Value) (h1:h.get? e=some oe) (h2:oe.cls=.ref x.cls) (h3:oe.dict=some d/\oe.slots=#[]) (h4:oe.data=.fields vs) (h5:1 < vs.size/\(x.fresh=true->vs[2]?=some .none))
   (h6:B.Ns1 d m/\Within m cy/\s.heap.get? d=none/\U d=none) (h7:(∃ v,m "what" = some v/\VR B v x.what)/\(∃ v,m "at" = some v/\VR B v x.at_) /\
   match fl with
   | none=>vs[1]?=some .none
   | some f=>∃ T oT ts,vs[1]?=some (.ref T)/\P T/\T≠e/\h.get? T=some oT/\oT.data=.fields ts/\ts[3]?=some f)
structure Ar (c:Cx) (U:AA) (s:Shared) (e:Addr) (x:AC) (fl:Option Value) (h B:Heap) (P:Addr->Prop):Prop where
 base:c.G.StaysIn B
 all:∀ b o,h.get? b=some o->b∈c.frames\/B.get? b=some o\/P b
 new:∀ b,P b->s.heap.get? b=none/\B.get? b=none/\U b=none/\b∉c.own/\b∉c.frames/\∀ x∈c.env.cells,b≠x.2
 stays:B.StaysIn h
 off:∀ b∈c.frames,B.get? b=none
 own:P e
 noTup:∀ b o,P b->h.get? b=some o->o.cls=.type "tuple" -> ∀ xs n,o.data≠.seq xs n
 here:CB U s e x fl h B P
theorem CB.tr {e:Addr}{x:AC}{f:Value}{B:Heap}{P:Addr->Prop} (F:CB U s e x (some f) h B P) (k:∀ oe vs T,h.get? e=some oe->oe.data=.fields vs->vs[1]?=some (.ref T)->G):G:=by
 obtain ⟨oe,vs,d,m,h1,h2,h3,h4,h5,h6,h7⟩:=F;obtain ⟨T,oT,ts,q,_⟩:=h7.2.2;show k oe vs T h1 h4 q
inductive BQ (c:Cx) (U:AA) (s:Shared) (e:Addr) (x:AC) (h:Heap):Prop
 | mk (fl:Option Value) (B:Heap) (P:Addr->Prop) (F:Ar c U s e x fl h B P) (l:fl=none\/fl=some .none\/∃ L,c.fenv.frame=some L/\fl=some (rawInt L))
inductive AR {α β:Type} (R:Heap->α->β->Prop) (c:Cx) (V:List NV) (U:AA) (s:Shared) (Q:β->AA->Prop) (v:α) (s':Shared):Prop
 | mk (a:β) (U':AA) (r:R s'.heap v a) (S:St c V U' s'.heap) (y:AE c U s U' s') (q:Q a U')
inductive AO (c:Cx) (V:List NV) (U:AA) (s:Shared) (X:AC->AA->Prop) (v:Value) (s':Shared):Prop
 | mk (e:Addr) (x:AC) (U':AA) (hv:v=.ref e) (S:St c V U' s'.heap) (y:AE c U s U' s') (F:BQ c U' s e x s'.heap) (q:X x U')
abbrev CU {α:Type}:Heap->α->α->Prop:=λ_ a b=>a=b
def AM {α β:Type} (R:Heap->α->β->Prop) (c:Cx) (V:List NV) (as:List AB) (t:List Value->Sem α) (U:AA) (Q:β->AA->Prop) (X:AC->AA->Prop):Prop :=
 ∀ vs s,St c V U s.heap->AW s.heap vs as->wpAny (model c.prog c.w) c.A (t vs) (AR R c V U s Q) (AO c V U s X) s
def Go {α β:Type} (R:Heap->α->β->Prop) (c:Cx) (V:List NV) (t:Sem α) (U:AA) (Q:β->AA->Prop) (X:AC->AA->Prop):Prop :=
 ∀ s,St c V U s.heap->wpAny (model c.prog c.w) c.A t (AR R c V U s Q) (AO c V U s X) s
abbrev Ev (c:Cx) (V:List NV) (e:Expr) (U:AA) (Q:AB->AA->Prop) (X:AC->AA->Prop):Prop:=Go VR c V (eval e c.env) U Q X
abbrev Bn (c:Cx) (V:List NV) (e:Expr) (U:AA) (Q:Bool->AA->Prop) (X:AC->AA->Prop):Prop:=Go CU c V (isTrue e c.env (eval e c.env)) U Q X
noncomputable def v0 (vs:List Value):Value:=vs.headD .none
noncomputable def v1 (vs:List Value):Value:=vs.tail.headD .none
noncomputable def v2 (vs:List Value):Value:=vs.tail.tail.headD .none
abbrev V2 (c:Cx) (V:List NV) (a b:AB) (t:Value->Value->Sem Value) (U:AA) (Q:AB->AA->Prop) (X:AC->AA->Prop):Prop:=AM VR c V [a,b] (λvs=>t (v0 vs) (v1 vs)) U Q X
abbrev Bw (c:Cx) (V:List NV) (op:Operator) (a b:AB) (U:AA) (Q:AB->AA->Prop) (X:AC->AA->Prop):Prop:=V2 c V a b (λu v=>binaryOp op u v) U Q X
abbrev Au (c:Cx) (V:List NV) (op:CmpOp) (a b:AB) (U:AA) (Q:AB->AA->Prop) (X:AC->AA->Prop):Prop:=V2 c V a b (λu v=>compareOp op u v) U Q X
abbrev A5 (c:Cx) (V:List NV) (a:AB) (U:AA) (Q:Bool->AA->Prop) (X:AC->AA->Prop):Prop:=AM CU c V [a] (λvs=>truthy (v0 vs)) U Q X
section
variable (c:Cx) (V:List NV)
abbrev KE (e:Expr) (K:AB->AB->AA->Prop) (X:AC->AA->Prop) (a:AB) (U:AA):Prop:=Ev c V e U (K a) X
abbrev Dr (op:Operator) (Q:AB->AA->Prop) (X:AC->AA->Prop) (a b:AB) (U:AA):Prop:=Bw c V op a b U Q X
abbrev CQ (op:CmpOp) (Q:AB->AA->Prop) (X:AC->AA->Prop) (a b:AB) (U:AA):Prop:=Au c V op a b U Q X
abbrev DJ (Q:Bool->AA->Prop) (X:AC->AA->Prop) (a:AB) (U:AA):Prop:=A5 c V a U Q X
abbrev Dg (b o:Expr) (Q:AB->AA->Prop) (X:AC->AA->Prop) (z:Bool) (U:AA):Prop:=if z then Ev c V b U Q X else Ev c V o U Q X
abbrev Dh (Q:Bool->AA->Prop) (b:Bool) (U:AA):Prop:=Q (!b) U
end
section
variable {α β γ:Type}{R:Heap->α->β->Prop}{c:Cx}{V:List NV}{U U1 U' Y:AA}{h h':Heap}{s s₁ s':Shared}{Q Q':β->AA->Prop}{X X':AC->AA->Prop}
theorem BQ.older {e:Addr}{x:AC} (F:BQ c U s₁ e x h) (k:∀ b o,s.heap.get? b=some o->∃ o',s₁.heap.get? b=some o'):BQ c U s e x h:=by
 obtain ⟨fl,B,P,F,r⟩:=F;have kn:∀ b,s₁.heap.get? b=none->s.heap.get? b=none:=λb q=>by
  cases z:s.heap.get? b with
  | none=>rfl
  | some o=>obtain ⟨o',e'⟩:=k b o z;rw [q] at e';cases e'
 show ⟨fl,B,P,{ F with new:=λb hb=>⟨kn b (F.new b hb).1,(F.new b hb).2⟩,here:=?_ },r⟩;obtain ⟨oe,vs,d,m,h1,h2,h3,h4,h5,⟨h6,h61,h62,h63⟩,h7⟩:=F.here;show ⟨oe,vs,d,m,h1,h2,h3,h4,h5,⟨h6,h61,kn d h62,h63⟩,h7⟩
theorem AR.after {v:α} (x:AE c U s U1 s₁) (p:AR R c V U1 s₁ Q v s'):AR R c V U s Q v s':=by
 obtain ⟨a,U',r,S,y,q⟩:=p;show ⟨a,U',r,S,x.trans y,q⟩
theorem AO.after (x:AE c U s U1 s₁) (p:AO c V U1 s₁ X v s'):AO c V U s X v s':=by
 obtain ⟨e,a,U',rfl,S,y,F,q⟩:=p;show ⟨e,a,U',rfl,S,x.trans y,F.older x.there,q⟩
theorem AR.mono {v:α} (k:∀ a U',Q a U'->Q' a U') (p:AR R c V U s Q v s'):AR R c V U s Q' v s':=by
 obtain ⟨a,U',r,S,y,q⟩:=p;show ⟨a,U',r,S,y,k _ _ q⟩
theorem AO.mono (k:∀ a U',X a U'->X' a U') (p:AO c V U s X v s'):AO c V U s X' v s':=by
 obtain ⟨e,a,U',rfl,S,y,F,q⟩:=p;show ⟨e,a,U',rfl,S,y,F,k _ _ q⟩
theorem AR.here {v:α}{a:β} (S:St c V U s.heap) (r:R s.heap v a) (q:Q a U):AR R c V U s Q v s:=⟨a,U,r,S,.refl ..,q⟩
theorem AR.tok {v:α}{a:β} (S:St c V U s.heap) (r:R s.heap v a) (q:Q a U):AR R c V U s Q v { s with toks:=t }:=⟨a,U,r,S,(AE.refl ..).toks,q⟩
theorem Go.mono {t:Sem α} (g:Go R c V t U Q X) (k:∀ a U',Q a U'->Q' a U') (l:∀ a U',X a U'->X' a U'):Go R c V t U Q' X':=λs S =>
 Zm (g s S) (λ_ _ p=>p.mono k) (λ_ _ p=>p.mono l)
theorem Go.use {t:Sem α}{P:α->Shared->Prop} (g:Go R c V t U Q X) (S:St c V U s.heap) (k:∀ v s₁ a U1,R s₁.heap v a->St c V U1 s₁.heap->AE c U s U1 s₁->Q a U1->P v s₁) :
  wpAny (model c.prog c.w) c.A t P (AO c V U s X) s:=Zm (g s S) (λv s₁ p=>by obtain ⟨a,U1,r,SA,y,q⟩:=p;show k v s₁ a U1 r SA y q) λ_ _ z=>z
theorem AM.use {t:List Value->Sem α}{P:α->Shared->Prop} (g:AM R c V as t U Q X) (S:St c V U s.heap) (r:AW s.heap vs as) (k:∀ v s₁ a U1,R s₁.heap v a->St c V U1 s₁.heap->AE c U s U1 s₁->Q a U1->P v s₁) :
  wpAny (model c.prog c.w) c.A (t vs) P (AO c V U s X) s:=Zm (g vs s S r) (λv s₁ p=>by obtain ⟨a,U1,r,SA,y,q⟩:=p;show k v s₁ a U1 r SA y q) λ_ _ z=>z
theorem on {t:Sem γ}{R':Heap->γ->β->Prop} (y:AE c U s U1 s₁) (w:wpAny (model c.prog c.w) c.A t (AR R' c V U1 s₁ Q) (AO c V U1 s₁ X) s₁):wpAny (model c.prog c.w) c.A t (AR R' c V U s Q) (AO c V U s X) s₁ :=
 Zm w (λ_ _ z=>z.after y) λ_ _ z=>z.after y
theorem onP {t:Sem γ}{P:γ->Shared->Prop} (y:AE c U s U1 s₁) (w:wpAny (model c.prog c.w) c.A t P (AO c V U1 s₁ X) s₁):wpAny (model c.prog c.w) c.A t P (AO c V U s X) s₁ :=
 Zm w (λ_ _ z=>z) λ_ _ z=>z.after y
theorem seq1 {R':Heap->γ->β->Prop}{t:Sem Value}{f:Value->Sem γ} (g:Go VR c V t U (λa U1=>AM R' c V [a] (λvs=>f (v0 vs)) U1 Q X) X) (s:Shared) (S:St c V U s.heap) :
  wpAny (model c.prog c.w) c.A t (λv s₁=>wpAny (model c.prog c.w) c.A (f v) (AR R' c V U s Q) (AO c V U s X) s₁) (AO c V U s X) s :=
 Zm (g s S) (λv s₁ p=>by
  obtain ⟨a,U1,r,SA,y,q⟩:=p
  show Zm (q [v] s₁ SA (.cons r .nil)) (λ_ _ z=>z.after y) (λ_ _ z=>z.after y)) λ_ _ z=>z
theorem seq2 {R':Heap->γ->β->Prop}{t u:Sem Value}{f:Value->Value->Sem γ} (g:Go VR c V t U (λa U1=>Go VR c V u U1 (λb U2=>AM R' c V [a,b] (λvs=>f (v0 vs) (v1 vs)) U2 Q X) X) X) (s:Shared) (S:St c V U s.heap) :
  wpAny (model c.prog c.w) c.A t (λv s₁=>wpAny (model c.prog c.w) c.A u (λv' s₂=>wpAny (model c.prog c.w) c.A (f v v') (AR R' c V U s Q) (AO c V U s X) s₂) (AO c V U s X) s₁) (AO c V U s X) s :=
 Zm (g s S) (λv s₁ p=>by
  obtain ⟨a,U1,ra,SA,y,q⟩:=p;show Zm (q s₁ SA) (λv' s₂ p=>?_) (λ_ _ z=>z.after y);obtain ⟨b,U2,rb,SB,yC,q₂⟩:=p
  show Zm (q₂ [v,v'] s₂ SB (.cons (ra.keep (yC.tup SA)) (.cons rb .nil))) (λ_ _ z=>z.after (y.trans yC)) (λ_ _ z=>z.after (y.trans yC))) λ_ _ z=>z
end
inductive Az:List NV->Str->AB->Prop
 | here {x:Str}{k:NameKind}{a:AB}{r:List NV}:Az (⟨x,k,some a⟩::r) x a
 | next {e:NV}{x:Str}{a:AB}{r:List NV}:Az r x a->Az (e::r) x a
theorem Az.mem {x:Str} (l:Az V x a):∃ e∈V,e.name=x/\e.val=some a:=by
 induction l with
 | here=>show ⟨_,.head _,rfl,rfl⟩
 | next _ ih=>show ex1 ih λe h1z=>?_;(try clear ih);show an2 h1z λm r=>?_;clear h1z;show ⟨e,.tail _ m,r⟩
inductive AL:List NV->Str->Prop
 | here {x:Str}{a:Option AB}{r:List NV}:AL (⟨x,.globalImplicit,a⟩::r) x
 | next {e:NV}{x:Str}{r:List NV}:AL r x->AL (e::r) x
@[reducible] def nthN:List NV->Nat->Option NV
 | [],_=>none
 | e::_,0=>some e
 | _::r,n+1=>nthN r n
theorem AL.mem {x:Str} (l:AL V x):∃ e∈V,e.name=x/\e.kind=.globalImplicit:=by
 induction l with
 | here=>show ⟨_,.head _,rfl,rfl⟩
 | next _ ih=>show ex1 ih λe h2z=>?_;(try clear ih);show an2 h2z λm r=>?_;clear h2z;show ⟨e,.tail _ m,r⟩
theorem aF {l:List (Str × α)}{x:Str}{k:α} (n:(l.map (·.1)).Nodup) (m:(x,k)∈l):l.lookup x=some k:=by
 induction l with
 | nil=>cases m
 | cons y r ih =>
  obtain ⟨y,j⟩:=y;rw [E5,E6] at n;rw [List.lookup_cons];rcases ZC m with e | m
  ·cases e;simp
  ·have:(x == y)=false:=beq_eq_false_iff_ne.mpr λq=>n.1 (q ▸ E7 (f:=(·.1)) m);rw [this];show ih n.2 m
section
variable {c:Cx}{V:List NV}{U U1 U' Y:AA}{h h':Heap}{s s₁ s':Shared}{Q:AB->AA->Prop}{QB:Bool->AA->Prop}{X:AC->AA->Prop}
theorem St.kindOf (S:St c V U h) {e:NV} (m:e∈V):c.env.kindOf e.name=some e.kind:=by
 unfold Env.kindOf
 have:(e.name,e.kind)∈c.env.scope.names:=S.names ▸ E7 (f:=λe:NV=>(e.name,e.kind)) m;show aF S.ok.nodup this
theorem St.notDebug (S:St c V U h) {e:NV} (m:e∈V):(e.name == ("__debug__" : Str))=false/\(e.name == ("__classdict__" : Str))=false:=by
 have:(e.name,e.kind)∈c.env.scope.names:=S.names ▸ E7 (f:=λe:NV=>(e.name,e.kind)) m;have:=List.all_eq_true.mp S.ok.tame _ this;simpa using this
theorem l9 {e:NV} (S:St c V U s.heap) (m:e∈V) (y:Bf c.env s.heap e.name v e.kind) (q:Qv v s) :
  wpAny (model c.prog c.w) c.A (loadName c.env e.name) Qv E s:=by
 have k:=S.kindOf m;revert y k;cases e.kind with
 | «local»=>intro r1z k;show ex1 r1z λmm h3z=>?_;(try clear r1z);show an2 h3z λn z=>?_;clear h3z;show wpAny_loadName_local S.ok.kind k n z q
 | cell=>intro r2z k;show ex1 r2z λb h4z=>?_;(try clear r2z);show an2 h4z λl z=>?_;clear h4z;show wpAny_loadName_cell S.ok.kind k l z q
 | free=>intro r3z k;show ex1 r3z λb h5z=>?_;(try clear r3z);show an2 h5z λl z=>?_;clear h5z;show wpAny_loadName_free S.ok.kind k l z q (S.notDebug m).2
 | _=>intro y;show y.elim
theorem ev_name {x:Str} (l:Az V x a) (q:Q a U):Ev c V (.Name x p) U Q X:=λs S=>by
 show ex1 l.mem λe h7z=>?_;show an3 h7z λm h6z ha=>?_;clear h7z;obtain rfl:=h6z;obtain ⟨v⟩|⟨y,r⟩:=(S.vars e m a ha)
 show wpAny_Name (l9 S m y (.here S r q)) (S.notDebug m).1
theorem bW {x:Str} (S:St c V U s.heap) (l:AL V x) (n:nsIn c.K mainGlobals x=some (some v)) (q:Qv v s) :
  wpAny (model c.prog c.w) c.A (eval (.Name x p) c.env) Qv E s:=by
 show ex1 l.mem λe h10z=>?_;show an3 h10z λm h9z hk=>?_;clear h10z;obtain rfl:=h9z;have k:=S.kindOf m;rw [hk] at k;show wpAny_Name ?_ (S.notDebug m).1;rw [loadName_read S.ok.kind k];unfold loadGlobal;rw [S.ok.glob];show Zb ((looks_nsIn (S.ok.KG.keeps S.base) n).here ?_);show Zp q
theorem ev_global {x:Str} (l:AL V x) (n:nsIn c.K mainGlobals x=some (some v)) (r:∀ h,VR h v a) (q:Q a U):Ev c V (.Name x p) U Q X:=λs S =>
 bW S l n (.here S (r _) q)
theorem bP {x:Str} (S:St c V U s.heap) (l:AL V x) (n:nsIn c.K mainGlobals x=some none) (hv:bootBuiltins x=some v) (hn:x ≠ "__name__") (q:Qv v s) :
  wpAny (model c.prog c.w) c.A (eval (.Name x p) c.env) Qv E s:=by
 show ex1 l.mem λe h12z=>?_;show an3 h12z λm h11z hk=>?_;clear h12z;obtain rfl:=h11z;have k:=S.kindOf m;rw [hk] at k;show wpAny_Name ?_ (S.notDebug m).1;rw [loadName_read S.ok.kind k];unfold loadGlobal;rw [S.ok.glob,S.ok.blt];show ex2 S.ok.bg λmg mb h13z=>?_;show an4 h13z λng nb g1 g2=>?_;clear h13z;show Zb (wpAny_nsGet (ng.keeps S.base) ?_);rw [g1 _ n];show Zb (wpAny_nsGet (nb.keeps S.base) ?_);rw [g2 _ _ hn hv];show Zp q
theorem ev_int (q:Q (.int i) U):Ev c V (.Constant (.int i) k p) U Q X:=λs S=>wpAny_Constant_int (.tok S (.int i _) q)
theorem ev_str {x:Str} (q:Q (.str x) U):Ev c V (.Constant (.str x) k p) U Q X:=λs S=>by
 change wpAny _ _ (mkText x) _ _ _;unfold mkText;show Zb (wpAny_fresh (Zp (.tok S (.str x _) q)))
theorem ev_bool {b:Bool} (q:Q (.bool b) U):Ev c V (.Constant (.bool b) k p) U Q X:=λs S=>Zp (.here S (.bool b) q)
theorem ev_none (q:Q .none U):Ev c V (.Constant .none k p) U Q X:=λs S=>Zp (.here S .none q)
theorem ev_binop {l r:Expr}{op:Operator} (g:Ev c V l U (KE c V r (Dr c V op Q X) X) X):Ev c V (.BinOp l op r p) U Q X:=λs S =>
 wpAny_BinOp (seq2 g s S)
theorem ev_compare1 {l r:Expr}{op:CmpOp} (g:Ev c V l U (KE c V r (CQ c V op Q X) X) X) (hm:autoParam (behindInMarks op r=false) aU):Ev c V (.Compare l [op] [r] p) U Q X:=λs S =>
 wpAny_Compare1 (seq2 g s S) hm
theorem ev_ifexp {t b:Expr} (g:Bn c V t U (Dg c V b o Q X) X):Ev c V (.IfExp t b o p) U Q X:=λs S =>
 wpAny_IfExp (Zm (g s S) (λz s₁ pp=>by
  obtain ⟨a,U1,rfl,SA,y,q⟩:=pp;cases z
  ·show Zm (q s₁ SA) (λ_ _ z=>z.after y) (λ_ _ z=>z.after y)
  ·show Zm (q s₁ SA) (λ_ _ z=>z.after y) (λ_ _ z=>z.after y)) λ_ _ z=>z)
theorem gQ {e:Expr} (g:Ev c V e U (DJ c V QB X) X) (he:autoParam (isTrue e c.env (eval e c.env)=(do let v <- eval e c.env;standAt e.pos;holding [v] (truthy v))) aU):Bn c V e U QB X:=λs S =>
 wpAny_isTrue_value (seq1 g s S) he
theorem lP {e:Expr} (g:Bn c V e U (Dh QB) X):Bn c V (.UnaryOp .Not e p) U QB X:=λs S =>
 wpAny_isTrue_Not (Zm (g s S) (λb s₁ pp=>by obtain ⟨a,U1,rfl,SA,y,q⟩:=pp;show ⟨_,U1,rfl,SA,y,q⟩) λ_ _ z=>z)
abbrev Bu (c:Cx) (V:List NV) (op:BoolOp) (es:List Expr) (U:AA) (Q:Bool->AA->Prop) (X:AC->AA->Prop):Prop:=Go CU c V (allTrue op es c.env) U Q X
theorem jJ {op:BoolOp} (g:Bu c V op es U QB X):Bn c V (.BoolOp op es p) U QB X:=λs S=>wpAny_isTrue_BoolOp (g s S)
abbrev DX (c:Cx) (V:List NV) (es:List Expr) (QB:Bool->AA->Prop) (X:AC->AA->Prop) (b:Bool) (U1:AA):Prop:=if b then Bu c V .And es U1 QB X else QB false U1
abbrev Dt (c:Cx) (V:List NV) (es:List Expr) (QB:Bool->AA->Prop) (X:AC->AA->Prop) (b:Bool) (U1:AA):Prop:=if b then QB true U1 else Bu c V .Or es U1 QB X
theorem pT (q:QB true U):Bu c V .And [] U QB X:=λs S=>wpAny_allTrue_And_nil (.here S rfl q)
theorem sU (q:QB false U):Bu c V .Or [] U QB X:=λs S=>wpAny_allTrue_Or_nil (.here S rfl q)
theorem nu {e:Expr} (g:Bn c V e U (DX c V es QB X) X):Bu c V .And (e::es) U QB X:=λs S =>
 wpAny_allTrue_And_cons (Zm (g s S) (λb s₁ pp=>by
  obtain ⟨a,U1,rfl,SA,y,q⟩:=pp;cases b
  ·show ⟨_,U1,rfl,SA,y,q⟩
  ·show Zm (q s₁ SA) (λ_ _ z=>z.after y) (λ_ _ z=>z.after y)) λ_ _ z=>z)
theorem p9 {e:Expr} (g:Bn c V e U (Dt c V es QB X) X):Bu c V .Or (e::es) U QB X:=λs S =>
 wpAny_allTrue_Or_cons (Zm (g s S) (λb s₁ pp=>by
  obtain ⟨a,U1,rfl,SA,y,q⟩:=pp;cases b
  ·show Zm (q s₁ SA) (λ_ _ z=>z.after y) (λ_ _ z=>z.after y)
  ·show ⟨_,U1,rfl,SA,y,q⟩) λ_ _ z=>z)
theorem dM {l r:Expr}{op:CmpOp} (g:Ev c V l U (KE c V r (CQ c V op (DJ c V QB X) X) X) X) (hm:autoParam (behindInMarks op r=false) aU) :
  Bn c V (.Compare l [op] [r] p) U QB X:=λs S=>by
 show wpAny_isTrue_Compare1 ?_ hm;show g.use S λu s₁ a U1 ra SA yB g₁=>onP yB (g₁.use SA λv s₂ b U2 rb SB yC g₂=>onP (yB.trans yC) (AM.use (vs:=[u,v]) g₂ SB (.cons (ra.keep (yC.tup SA)) (.cons rb .nil)) λz s₃ d U3 rd S3 y3 g₃=>on ((yB.trans yC).trans y3) ?_));show g₃ [z] s₃ S3 (.cons rd .nil)
end
def Du (h:Heap) (v:Value) (a:AB):Prop:=match a with
 | .none=>v=.none
 | .bool b=>v=.bool b
 | .int i=>∃ t,v=.int i t
 | .str x=>∃ t,v=.str x t
 | .bytes b t=>v=.bytes b t
 | .type n=>v=.type n
 | .tup as=>∃ a o vs n,v=.ref a/\h.get? a=some o/\o.cls=.type "tuple" /\ o.data=.seq vs.toArray n/\AW h vs as
 | .ref a=>v=.ref a
theorem VR.inv (r:VR h v a):Du h v a:=by
 cases r with
 | int i t=>show ⟨t,rfl⟩
 | str x t=>show ⟨t,rfl⟩
 | tup e cl d rs=>show ⟨_,_,_,_,rfl,e,cl,d,rs⟩
 | _=>show rfl
def DZ (h:Heap) (vs:List Value) (as:List AB):Prop:=match as with
 | []=>vs=[]
 | a::r=>∃ v ws,vs=v::ws/\VR h v a/\AW h ws r
theorem AW.inv (r:AW h vs as):DZ h vs as:=by
 cases r with
 | nil=>show rfl
 | cons x r=>show ⟨_,_,rfl,x,r⟩
theorem AW.one (r:AW h vs [a]):∃ v,vs=[v]/\VR h v a :=
 ex2 r.inv λv ws q=>an3 q λe x r=>⟨v,e.trans (congrArg (v::·) r.inv),x⟩
theorem AW.two {b:AB} (r:AW h vs [a,b]):∃ v w,vs=[v,w]/\VR h v a/\VR h w b :=
 ex2 r.inv λv ws q=>an3 q λe x r=>ex1 r.one λw q=>an2 q λe' y=>⟨v,w,e.trans (congrArg (v::·) e'),x,y⟩
theorem VR.int_inv (r:VR h v (.int i)):∃ t,v=.int i t:=r.inv
theorem VR.str_inv {x:Str} (r:VR h v (.str x)):∃ t,v=.str x t:=r.inv
theorem VR.bool_inv {b:Bool} (r:VR h v (.bool b)):v=.bool b:=r.inv
theorem VR.none_inv (r:VR h v .none):v=.none:=r.inv
theorem VR.bytes_inv {b:Array UInt8}{t:Tok} (r:VR h v (.bytes b t)):v=.bytes b t:=r.inv
theorem VR.ref_inv {a:Addr} (r:VR h v (.ref a)):v=.ref a:=r.inv
theorem VR.tup_inv (r:VR h v (.tup as)):∃ a o vs n,v=.ref a/\h.get? a=some o/\o.cls=.type "tuple" /\ o.data=.seq vs.toArray n/\AW h vs as:=r.inv
theorem AW.one' {P:List Value->Prop} (r:AW h vs [a]) (k:∀ v,VR h v a->P [v]):P vs:=by
 obtain ⟨v,rfl,x⟩:=r.one;show k v x
theorem AW.two' {b:AB}{P:List Value->Prop} (r:AW h vs [a,b]) (k:∀ v w,VR h v a->VR h w b->P [v,w]):P vs:=by
 obtain ⟨v,w,rfl,x,y⟩:=r.two;show k v w x y
section
variable {h:Heap}{v:Value}{P:Value->Prop}
theorem VR.int' (r:VR h v (.int i)) (k:∀ t,P (.int i t)):P v:=by obtain ⟨t,rfl⟩:=r.int_inv;show k t
theorem VR.str' {x:Str} (r:VR h v (.str x)) (k:∀ t,P (.str x t)):P v:=by obtain ⟨t,rfl⟩:=r.str_inv;show k t
theorem VR.bool' {b:Bool} (r:VR h v (.bool b)) (k:P (.bool b)):P v:=by rw [r.bool_inv];show k
theorem VR.none' (r:VR h v .none) (k:P .none):P v:=by rw [r.none_inv];show k
theorem VR.bytes' {b:Array UInt8}{t:Tok} (r:VR h v (.bytes b t)) (k:P (.bytes b t)):P v:=by rw [r.bytes_inv];show k
theorem VR.ref' {a:Addr} (r:VR h v (.ref a)) (k:P (.ref a)):P v:=by rw [r.ref_inv];show k
end
section
variable {pr:Program}{w:World}{h:Heap}{a:Addr}{P:Prop}
def Dw (pr:Program) (w:World) (h:Heap) (a:Addr) (o:AY):Prop:=match o with
 | .list as=>∃ (vs:List Value) (n:Nat),h.get? a=some { cls:=.type "list",data:=.seq vs.toArray n }/\AW h vs as
 | .dictS es=>∃ kvs,h.DictOf (strKind pr w) a kvs/\Aw h kvs es
 | .dictI es=>∃ kvs,h.DictOf (intKind pr w) a kvs/\Aw h kvs es
 | .dictT es ep=>∃ xs,h.DictOfH (tupleKind (intKind pr w)) a xs/\Dl h a ep/\Aw h (xs.map λx=>(x.1,x.2.2)) es
 | .range i j=>∃ t u v,IsRange h a i j 1 t u v
 | .exc C d vs=>h.get? a=some { cls:=.ref C,dict:=d,data:=.fields vs }
 | .attrs ns m=>∃ m',h.Ns1 a m'/\Within m' ns/\(∀ x,match m x with | some v=>∃ v',m' x=some v'/\VR h v' v | none=>m' x=none)
 | .inst C d=>h.get? a=some { cls:=.ref C,dict:=some d,data:=.plain }
theorem OR.inv {o:AY} (x:OR pr w h a o):Dw pr w h a o:=by
 cases x with
 | list e r=>show ⟨_,_,e,r⟩
 | dictS e r=>show ⟨_,e,r⟩
 | dictI e r=>show ⟨_,e,r⟩
 | dictT e d r=>show ⟨_,e,d,r⟩
 | range e=>show ⟨_,_,_,e⟩
 | exc e=>show e
 | attrs n w r=>show ⟨_,n,w,r⟩
 | inst e=>show e
theorem OR.list' (o:OR pr w h a (.list as)) (k:∀ (vs:List Value) (n:Nat),h.get? a=some { cls:=.type "list",data:=.seq vs.toArray n }->AW h vs as->P):P:=ex2 o.inv λvs n q=>an2 q (k vs n)
theorem OR.dictS' {es:List (Str × AB)} (o:OR pr w h a (.dictS es)) (k:∀ kvs,h.DictOf (strKind pr w) a kvs->Aw h kvs es->P):P:=ex1 o.inv λvs q=>an2 q (k vs)
theorem OR.dictI' {es:List (Int × AB)} (o:OR pr w h a (.dictI es)) (k:∀ kvs,h.DictOf (intKind pr w) a kvs->Aw h kvs es->P):P:=ex1 o.inv λvs q=>an2 q (k vs)
theorem OR.range' (o:OR pr w h a (.range i j)) (k:∀ t u v,IsRange h a i j 1 t u v->P):P:=ex3 o.inv k
theorem OR.exc' {d:Option Addr}{vs:Array Value} (o:OR pr w h a (.exc C d vs)) (k:h.get? a=some { cls:=.ref C,dict:=d,data:=.fields vs }->P):P:=k o.inv
theorem OR.attrs' {m:Str->Option AB} (o:OR pr w h a (.attrs ns m)) (k:∀ m',h.Ns1 a m'->Within m' ns->(∀ x,match m x with | some v=>∃ v',m' x=some v'/\VR h v' v | none=>m' x=none)->P):P:=ex1 o.inv λm' q=>an3 q (k m')
theorem OR.inst' (o:OR pr w h a (.inst C d)) (k:h.get? a=some { cls:=.ref C,dict:=some d,data:=.plain }->P):P:=k o.inv
end
section
variable {c:Cx}{V:List NV}{U U1 U' Y:AA}{h h':Heap}{s s₁ s':Shared}{Q:AB->AA->Prop}{QB:Bool->AA->Prop}{X:AC->AA->Prop}
theorem vI {t:Value->Value->Sem Value} (f:∀ s t' u,St c V U s.heap->wpAny (model c.prog c.w) c.A (t (.int i t') (.int j u)) (AR VR c V U s Q) (AO c V U s X) s):V2 c V (.int i) (.int j) t U Q X:=λvs s S r=>by
 apply r.two';intro v w a b;apply a.int';intro t;apply b.int';intro u;show f s t u S
theorem vS {t:Value->Value->Sem Value}{i j:Str} (f:∀ s t' u,St c V U s.heap->wpAny (model c.prog c.w) c.A (t (.str i t') (.str j u)) (AR VR c V U s Q) (AO c V U s X) s):V2 c V (.str i) (.str j) t U Q X:=λvs s S r=>by
 apply r.two';intro v w a b;apply a.str';intro t;apply b.str';intro u;show f s t u S
theorem oK (q:Q (.int (i+j)) U):Bw c V .Add (.int i) (.int j) U Q X:=by
 show vI ?_;intro s t u S;with_reducible show add_int ?_;show (.tok S (.int ..) q)
theorem o0 (q:Q (.int (i - j)) U):Bw c V .Sub (.int i) (.int j) U Q X:=by
 show vI ?_;intro s t u S;with_reducible show sub_int ?_;show (.tok S (.int ..) q)
theorem oV (ok:IntMulOk i j) (q:Q (.int (i * j)) U):Bw c V .Mult (.int i) (.int j) U Q X:=by
 show vI ?_;intro s t u S;with_reducible show mul_int ?_ ok;show (.tok S (.int ..) q)
theorem eR (hj:j≠0) (hp:Builtin.divisionGoesByPylong i j=false) (q:Q (.int (Int.fdiv i j)) U) (cm:autoParam (c.calm=true) aM):Bw c V .FloorDiv (.int i) (.int j) U Q X:=by
 show vI ?_;intro s t u S;show floordiv_int_or (S.ok.hd cm) (λe=>absurd e hj) (λ_=>.tok S (.int ..) q) λ_=>.inl hp
theorem jH (hj:j≠0) (q:Q (.int (Int.fmod i j)) U) (cm:autoParam (c.calm=true) aM):Bw c V .Mod (.int i) (.int j) U Q X:=by
 show vI ?_;intro s t u S;show mod_int_or (S.ok.hd cm) (λe=>absurd e hj) λ_=>.tok S (.int ..) q
theorem sV (q:Q (.int (Builtin.bitAnd i j)) U):Bw c V .BitAnd (.int i) (.int j) U Q X:=by
 show vI ?_;intro s t u S;with_reducible show and_int ?_;show (.tok S (.int ..) q)
theorem rZ (hj:0<=j) (q:Q (.int (Int.fdiv i (2 ^ j.toNat))) U):Bw c V .RShift (.int i) (.int j) U Q X:=by
 show vI ?_;intro s t u S;with_reducible show rshift_int hj ?_;show (.tok S (.int ..) q)
theorem oO (hj:0<=j) (hb:(Builtin.Int.intBits i:Int) * j<=2 ^ 27) (q:Q (.int (i ^ j.toNat)) U):Bw c V .Pow (.int i) (.int j) U Q X:=by
 show vI ?_;intro s t u S;with_reducible show pow_int hj hb ?_;show (.tok S (.int ..) q)
theorem ig {x:Str} (hz:x.length+y.length<=sizeLine) (q:Q (.str (x++y)) U):Bw c V .Add (.str x) (.str y) U Q X:=by
 show vS ?_;intro s t u S;show add_str (λt' tk=>.tok S (.str ..) q) hz
theorem pC (q:Q (.bool (i == j)) U):Au c V .Eq (.int i) (.int j) U Q X:=by
 show vI ?_;intro s t u S;with_reducible show eq_int ?_;show (.here S (.bool _) q)
theorem lE (q:Q (.bool (i != j)) U):Au c V .NotEq (.int i) (.int j) U Q X:=by
 show vI ?_;intro s t u S;with_reducible show ne_int ?_;show (.here S (.bool _) q)
theorem pH (q:Q (.bool (decide (i < j))) U):Au c V .Lt (.int i) (.int j) U Q X:=by
 show vI ?_;intro s t u S;with_reducible show lt_int ?_;show (.here S (.bool _) q)
theorem o7 (q:Q (.bool (decide (i<=j))) U):Au c V .LtE (.int i) (.int j) U Q X:=by
 show vI ?_;intro s t u S;with_reducible show le_int ?_;show (.here S (.bool _) q)
theorem o4 (q:Q (.bool (decide (j < i))) U):Au c V .Gt (.int i) (.int j) U Q X:=by
 show vI ?_;intro s t u S;with_reducible show gt_int ?_;show (.here S (.bool _) q)
theorem oM (q:Q (.bool (decide (j<=i))) U):Au c V .GtE (.int i) (.int j) U Q X:=by
 show vI ?_;intro s t u S;with_reducible show ge_int ?_;show (.here S (.bool _) q)
theorem mw {x:Str} (q:Q (.bool (x == y)) U):Au c V .Eq (.str x) (.str y) U Q X:=by
 show vS ?_;intro s t u S;with_reducible show eq_str ?_;show (.here S (.bool _) q)
theorem lM {x:Str} (q:Q (.bool (x != y)) U):Au c V .NotEq (.str x) (.str y) U Q X:=by
 show vS ?_;intro s t u S;with_reducible show ne_str ?_;show (.here S (.bool _) q)
theorem qp {x:Str} (q:Q (.bool (!(y.cps.toList < x.cps.toList))) U):Au c V .LtE (.str x) (.str y) U Q X:=by
 show vS ?_;intro s t u S;with_reducible show PySem.P.le_str ?_;show (.here S (.bool _) q)
theorem iL {b:Bool} (q:QB b U):A5 c V (.bool b) U QB X:=λvs s S r=>by
 apply r.one';intro v a;apply a.bool';show wpAny_truthy_bool (.here S rfl q)
theorem sJ (q:QB (i != 0) U):A5 c V (.int i) U QB X:=λvs s S r=>by
 apply r.one';intro v a;apply a.int';intro t;show truthy_int (.here S rfl q)
theorem tO {a:Addr} (ha:U a=some (.list xs)) (hz:(xs.length:Int) < 2 ^ 63) (q:QB (!xs.isEmpty) U):A5 c V (.ref a) U QB X:=λvs s S r=>by
 apply r.one';intro v ra;apply ra.ref';show (S.obj a _ ha).list' λ_ _ e rs=>?_;show wpAny_truthy_list ⟨_,e,rfl,_,rfl⟩ (by rw [E8,rs.length];show hz) ?_;show .tok S ?_ q;rw [show (!xs.isEmpty)=_ from ?_];have:=rs.length;cases xs<;>cases ‹List Value›<;>simp_all
end
inductive BO:List NV->Str->AB->List NV->Prop
 | here {x:Str}{k:NameKind}{o:Option AB}{a:AB}{r:List NV}:k=.local\/k=.cell->BO (⟨x,k,o⟩::r) x a (⟨x,k,some a⟩::r)
 | next {e:NV}{x:Str}{a:AB}{r r':List NV}:BO r x a r'->BO (e::r) x a (e::r')
inductive Bm (V:List NV) (x:Str) (a:AB) (N:List NV->AA->Prop) (U:AA):Prop
 | mk (V':List NV) (p:BO V x a V') (q:N V' U)
theorem BO.names {x:Str} (p:BO V x a V'):V'.map (λe=>(e.name,e.kind))=V.map (λe=>(e.name,e.kind)):=by
 induction p with
 | here=>rfl
 | next _ ih=>simp only [E5,ih]
theorem BO.kind {x:Str} (p:BO V x a V'):∃ e∈V,e.name=x/\(e.kind=.local\/e.kind=.cell):=by
 induction p with
 | here h=>show ⟨_,.head _,rfl,h⟩
 | next _ ih=>show ex1 ih λe h1z=>?_;(try clear ih);show an2 h1z λm r=>?_;clear h1z;show ⟨e,.tail _ m,r⟩
theorem BO.mem {x:Str} (p:BO V x a V'):∀ e∈V',(e.name=x/\e.val=some a/\(e.kind=.local\/e.kind=.cell))\/e∈V:=by
 induction p with
 | here h=>intro e m;rcases ZC m with rfl | m;show .inl ⟨rfl,rfl,h⟩;show .inr (.tail _ m)
 | next _ ih=>intro e m;rcases ZC m with rfl | m;show .inr Zh;show (ih e m).imp id (.tail _)
theorem BO.only {x:Str} (p:BO V x a V') (n:(V.map (·.name)).Nodup):∀ e∈V',e.name=x->e.val=some a:=by
 induction p with
 | here h =>
  rw [E5,E6] at n;intro e m q;rcases ZC m with rfl | m
  ·rfl
  ·show absurd (q ▸ E7 (f:=(·.name)) m) n.1
 | @next f x a r r' pp ih =>
  rw [E5,E6] at n;intro e m q;rcases ZC m with rfl | m
  ·show ex1 pp.kind λe' h2z=>?_;show an3 h2z λm' q' _=>?_;clear h2z;show absurd ((q.trans q'.symm) ▸ E7 (f:=(·.name)) m') n.1
  ·show ih n.2 e m q
section
variable {c:Cx}{V V':List NV}{U U1 U' Y:AA}{h h':Heap}{s s₁ s':Shared}{Q:AB->AA->Prop}{QB:Bool->AA->Prop}{X:AC->AA->Prop}
theorem St.nodupN (S:St c V U h):(V.map (·.name)).Nodup:=by
 have:=S.ok.nodup;rw [<- S.names,E9] at this;show this
theorem jo (n:(c.env.cells.map (·.2)).Nodup):∀ {x y:Str}{a b:Addr},c.env.cells.lookup x=some a->c.env.cells.lookup y=some b->x≠y->a≠b:=by
 intro x y a b hx hy hne e;subst e;have m1:=mem_of_lookup hx;have m2:=mem_of_lookup hy
 have:∀ (l:List (Str × Addr)),(l.map (·.2)).Nodup->(x,a)∈l->(y,a)∈l->x=y:=by
  intro l
  induction l with
  | nil=>intro _ h;cases h
  | cons p l ih =>
   intro n h1 h2;rw [E5,E6] at n;rcases ZC h1 with e1 | h1<;>rcases ZC h2 with e2 | h2
   ·rw [<- e2] at e1;show (Prod.mk.inj e1).1
   ·show absurd (by rw [<- e1];show E7 (f:=(·.2)) h2) n.1
   ·show absurd (by rw [<- e2];show E7 (f:=(·.2)) h1) n.1
   ·show ih n.2 h1 h2
 show hne (this _ n m1 m2)
theorem St.turn (S:St c V U h)  (hb:b∈c.own) (k:Heap.SameBut b h h') (kb:∃ o',h'.get? b=some o'/\(∀ vs,o'.data≠.fields vs)/\∀ xs n,o'.data≠.seq xs n)
  (hn:V'.map (λe=>(e.name,e.kind))=V.map (λe=>(e.name,e.kind))) (hl:∃ m,h'.Ns c.env.locals m) (hc:∀ x∈c.env.cells,∃ v,h'.IsCell x.2 v)
  (hv:AH h h'->∀ e∈V',∀ a,e.val=some a->∃ v,Bf c.env h' e.name v e.kind/\VR h' v a):St c V' U h':=by
 obtain ⟨ob'⟩|⟨e2,e4,e5⟩:=kb;obtain ⟨hg,ob,e1,e3⟩:=S.ownNew b hb;have t:AH h h':=aP k.extBut e1 λ_=>e3;show ⟨S.ok,λa o e=>(k.2 a (by rintro rfl;rw [hg] at e;cases e)).trans (S.base a o e),?_,hn.trans S.names,hl,hc,hv t,λa o e=>?_,S.off,λa ha=>?_⟩
 ·have aux:∀ l:List Env,h.FunFrames c.G l->h'.FunFrames c.G l:=by
   intro l
   induction l with
   | nil=>intro _;trivial
   | cons env r ih =>
    intro r1z;show an3 r1z λhk h4z hr=>?_;(try clear r1z);obtain ⟨L,o,hf,hnn,ho,hd⟩:=h4z;show ⟨hk,?_,ih hr⟩;by_cases z:L=b
    ·subst z;show ⟨L,ob',hf,hnn,e2,e4⟩
    ·show ⟨L,o,hf,hnn,(k.2 L z).trans ho,hd⟩
  show aux _ S.frames
 ·have:a≠b:=λz=>(S.off a o e).2.1 (z ▸ hb);show (S.obj a o e).keep t (k.2 a this)
 ·obtain ⟨g,o,q,n⟩:=S.ownNew a ha;by_cases z:a=b
  ·subst z;show ⟨g,ob',e2,e5⟩
  ·show ⟨g,o,(k.2 a z).trans q,n⟩
theorem AE.turn (hb:b∈c.own) (k:Heap.SameBut b s.heap h') (kb:∃ o',h'.get? b=some o'):AE c U s U { s with heap:=h',toks:=t } :=
 ⟨λa o e _ n=>⟨o.slots,(k.2 a (λz=>n (z ▸ hb))).trans e,λ_=>rfl⟩,λa o e=>by
  by_cases z:a=b
  ·subst z;show kb
  ·show ⟨o,(k.2 a z).trans e⟩,λ_ _ _ e=>e,rfl,rfl⟩
theorem bD {x:Str}{P:Unit->Shared->Prop} (S:St c V U s.heap) (p:BO V x a V') (r:VR s.heap v a) (hf:c.fn=true\/∃ e∈V,e.name=x/\e.kind=.local)
  (k:∀ s',St c V' U s'.heap->AE c U s U s'->P () s'):wpAny (model c.prog c.w) c.A (storeName c.env x v) P E s:=by
 show ex1 p.kind λe h6z=>?_;show an3 h6z λm h5z kd=>?_;clear h6z;obtain rfl:=h5z;have kk:=S.kindOf m;have nd:=S.nodupN;have old:∀ e'∈V',e'.name≠e.name->e'∈V:=λe' m' n=>(p.mem e' m').resolve_left λq=>n q.1;have kindEq:∀ e'∈V',e'.name=e.name->e'.kind=e.kind:=λe' m' n=>by
  have h1:(e'.name,e'.kind)∈c.env.scope.names:=by
   rw [<- S.names,<- p.names];show E7 (f:=λe:NV=>(e.name,e.kind)) m'
  have h2:=aF S.ok.nodup h1;unfold Env.kindOf at kk;rw [n,kk] at h2;show (Option.some.inj h2).symm
 cases hk:e.kind with
 | «local» =>
  rw [hk] at kk;obtain ⟨mm,nn⟩:=S.locs;show wpAny_storeName_local kk nn (λh' hns hsb=>?_) (by rw [S.ok.kind];rfl);have kbx:∃ o',h'.get? c.env.locals=some o'/\(∀ vs,o'.data≠.fields vs)/\∀ xs n,o'.data≠.seq xs n:=by
   obtain ⟨o,es,ep⟩|⟨ho,hd,_⟩:=hns;show ⟨o,ho,λvs q=>(by rw [hd] at q;cases q),λxs n q=>(by rw [hd] at q;cases q)⟩
  show k _ (S.turn S.ok.locIn hsb kbx p.names ⟨_,hns⟩ (λy hy=>?_) λt e' m' a' ha=>?_) (AE.turn S.ok.locIn hsb (let ⟨o,q,_⟩:=kbx;⟨o,q⟩))
  ·obtain ⟨v',o⟩|⟨q,d⟩:=(S.cellsAt y hy)
   show ⟨v',o,(hsb.2 _ (S.ok.cellsOff y hy)).trans q,d⟩
  ·by_cases z:e'.name=e.name
   ·have:=p.only nd e' m' z;rw [this] at ha;cases ha;show ⟨v,?_,r.keep t⟩;rw [kindEq e' m' z,hk,z];show ⟨_,hns,Zw rfl⟩
   ·obtain ⟨v'⟩|⟨y,r'⟩:=(S.vars e' (old e' m' z) a' ha)
    show ⟨v',?_,r'.keep t⟩;revert y;cases e'.kind with
    | «local» =>
     intro r2z;obtain ⟨m2⟩|⟨n2,q2⟩:=r2z;show ⟨_,hns,?_⟩;change (if e'.name=e.name then some v else mm e'.name)=some v';rw [Zv z];obtain ⟨o,es,ep⟩|⟨ho,hd,_,hm⟩:=nn;obtain ⟨o2,es2,ep2⟩|⟨ho2,hd2,_,hm2⟩:=n2;rw [ho] at ho2;cases ho2;rw [hd] at hd2;cases hd2;rw [<- hm,hm2];show q2
    | cell =>
     intro r3z;obtain ⟨b,l,o,q,d⟩:=r3z;show ⟨b,l,o,(hsb.2 _ (S.ok.cellsOff _ (mem_of_lookup l))).trans q,d⟩
    | free =>
     intro r4z;obtain ⟨b,l,o,q,d⟩:=r4z;show ⟨b,l,o,(hsb.2 _ (S.ok.cellsOff _ (mem_of_lookup l))).trans q,d⟩
    | _=>intro y;show y.elim
 | cell =>
  rw [hk] at kk;have fnT:c.fn=true:=hf.resolve_right λ⟨e',m',n',k'⟩=>by
   have:=S.kindOf m';rw [n',kk,k'] at this;cases this
  obtain ⟨b,hb⟩:=S.ok.cellsOf (e.name,e.kind) (S.names ▸ E7 (f:=λe:NV=>(e.name,e.kind)) m) hk;have hbm:=mem_of_lookup hb;have hbo:=S.ok.fnOwn fnT _ hbm;obtain ⟨vA,hc⟩:=S.cellsAt _ hbm;show wpAny_storeName_cell S.ok.kind kk hb hc (λh' hcl hsb=>?_);have kbx:∃ o',h'.get? b=some o'/\(∀ vs,o'.data≠.fields vs)/\∀ xs n,o'.data≠.seq xs n:=by
   obtain ⟨o⟩|⟨ho,hd⟩:=hcl;show ⟨o,ho,λvs q=>(by rw [hd] at q;cases q),λxs n q=>(by rw [hd] at q;cases q)⟩
  have lne:c.env.locals≠b:=λq=>S.ok.cellsOff _ hbm q.symm;show k _ (S.turn hbo hsb kbx p.names ?_ (λy hy=>?_) λt e' m' a' ha=>?_) (AE.turn hbo hsb (let ⟨o,q,_⟩:=kbx;⟨o,q⟩))
  ·show ex4 S.locs λmm o es ep h14z=>?_;show an2 h14z λho q=>?_;clear h14z;show ⟨mm,o,es,ep,(hsb.2 _ lne).trans ho,q⟩
  ·by_cases z:y.2=b
   ·rw [z];show ⟨_,hcl⟩
   ·obtain ⟨v',o⟩|⟨q,d⟩:=(S.cellsAt y hy)
    show ⟨v',o,(hsb.2 _ z).trans q,d⟩
  ·by_cases z:e'.name=e.name
   ·have:=p.only nd e' m' z;rw [this] at ha;cases ha;show ⟨v,?_,r.keep t⟩;rw [kindEq e' m' z,hk,z];show ⟨b,hb,hcl⟩
   ·obtain ⟨v'⟩|⟨y,r'⟩:=(S.vars e' (old e' m' z) a' ha)
    show ⟨v',?_,r'.keep t⟩;revert y;cases e'.kind with
    | «local» =>
     intro r5z;obtain ⟨m2⟩|⟨h17z,q2⟩:=r5z;obtain ⟨o,es,ep,ho,q⟩:=h17z;show ⟨m2,⟨o,es,ep,(hsb.2 _ lne).trans ho,q⟩,q2⟩
    | cell =>
     intro r6z;obtain ⟨b',l,o,q,d⟩:=r6z;show ⟨b',l,o,(hsb.2 _ (jo S.ok.cells l hb z)).trans q,d⟩
    | free =>
     intro r7z;obtain ⟨b',l,o,q,d⟩:=r7z;show ⟨b',l,o,(hsb.2 _ (jo S.ok.cells l hb z)).trans q,d⟩
    | _=>intro y;show y.elim
 | _=>rw [hk] at kd;rcases kd with q | q<;>cases q
end
def Df (N:List NV->AA->Prop) (R:AB->AA->Prop) (fl:Flow) (s':Shared) (V':List NV) (U':AA):Prop:=match fl with
  | .next=>N V' U'
  | .ret v=>∃ a,VR s'.heap v a/\R a U'
  | _=>False
inductive Ao (c:Cx) (U:AA) (s:Shared) (N:List NV->AA->Prop) (R:AB->AA->Prop) (fl:Flow) (s':Shared):Prop
 | mk (V':List NV) (U':AA) (S:St c V' U' s'.heap) (y:AE c U s U' s') (q:Df N R fl s' V' U')
abbrev Av (X:AC->List NV->AA->Prop) (V:List NV):AC->AA->Prop:=λx U'=>X x V U'
inductive AS (c:Cx) (U:AA) (s:Shared) (X:AC->List NV->AA->Prop) (v:Value) (s':Shared):Prop
 | mk (V':List NV) (q:AO c V' U s (Av X V') v s')
def WS (c:Cx) (V:List NV) (st:Stmt) (U:AA) (N:List NV->AA->Prop) (R:AB->AA->Prop) (X:AC->List NV->AA->Prop):Prop :=
 ∀ s,St c V U s.heap->wpAny (model c.prog c.w) c.A (exec st c.env) (Ao c U s N R) (AS c U s X) s
def Al (c:Cx) (V:List NV) (st:List Stmt) (U:AA) (N:List NV->AA->Prop) (R:AB->AA->Prop) (X:AC->List NV->AA->Prop):Prop :=
 ∀ s,St c V U s.heap->wpAny (model c.prog c.w) c.A (execs st c.env) (Ao c U s N R) (AS c U s X) s
abbrev KS (c:Cx) (rest:List Stmt) (N:List NV->AA->Prop) (R:AB->AA->Prop) (X:AC->List NV->AA->Prop) (V':List NV) (U':AA):Prop:=Al c V' rest U' N R X
abbrev Co (c:Cx) (V:List NV) (b o:List Stmt) (N:List NV->AA->Prop) (R:AB->AA->Prop) (X:AC->List NV->AA->Prop) (z:Bool) (U':AA):Prop:=if z then Al c V b U' N R X else Al c V o U' N R X
abbrev DC (V:List NV) (x:Str) (N:List NV->AA->Prop) (a:AB) (U':AA):Prop:=Bm V x a N U'
abbrev NQ (Q:AB->AA->Prop) (_:List NV) (U':AA):Prop:=Q .none U'
abbrev XF (X:AC->AA->Prop) (x:AC) (_:List NV) (U':AA):Prop:=X x U'
section
variable {c:Cx}{V V':List NV}{U U1 U' Y:AA}{h h':Heap}{s s₁ s':Shared}{N N':List NV->AA->Prop}{R R':AB->AA->Prop}{X X':AC->List NV->AA->Prop}
theorem Ao.after {fl:Flow} (x:AE c U s U1 s₁) (p:Ao c U1 s₁ N R fl s'):Ao c U s N R fl s':=by
 obtain ⟨V',U',S,y,q⟩:=p;show ⟨V',U',S,x.trans y,q⟩
theorem AS.after (x:AE c U s U1 s₁) (p:AS c U1 s₁ X v s'):AS c U s X v s':=let ⟨V',q⟩:=p;⟨V',q.after x⟩
theorem AO.toS (p:AO c V U s (Av X V) v s'):AS c U s X v s':=⟨V,p⟩
theorem Ao.mono {fl:Flow} (k:∀ V U,N V U->N' V U) (l:∀ a U,R a U->R' a U) (p:Ao c U s N R fl s'):Ao c U s N' R' fl s':=by
 obtain ⟨V',U',S,y,q⟩:=p;show ⟨V',U',S,y,?_⟩;cases fl with
 | next=>show k _ _ q
 | ret v=>show ex1 q λa h1z=>?_;(try clear q);show an2 h1z λr z=>?_;clear h1z;show ⟨a,r,l _ _ z⟩
 | _=>show q
theorem AS.mono (k:∀ x V U,X x V U->X' x V U) (p:AS c U s X v s'):AS c U s X' v s':=let ⟨V',q⟩:=p;⟨V',q.mono λ_ _ z=>k _ _ _ z⟩
theorem Al.mono (g:Al c V ss U N R X) (k:∀ V U,N V U->N' V U) (l:∀ a U,R a U->R' a U) (m:∀ x V U,X x V U->X' x V U):Al c V ss U N' R' X':=λs S =>
 Zm (g s S) (λ_ _ p=>p.mono k l) λ_ _ p=>p.mono m
theorem gi (q:N V U):Al c V [] U N R X:=λs S=>wpAny_execs_nil ⟨V,U,S,.refl ..,q⟩
theorem af (g:WS c V st U (KS c rest N R X) R X):Al c V (st::rest) U N R X:=λs S=>by
 show wpAny_execs_cons (Zm (g s S) (λfl s₁ p=>?_) λ_ _ z=>z);obtain ⟨V1,U1,SA,y,q⟩:=p;cases fl with
 | next=>show Zm (q s₁ SA) (λ_ _ z=>z.after y) λ_ _ z=>z.after y
 | ret v=>show ⟨V1,U1,SA,y,q⟩
 | _=>show q.elim
theorem Go.useS {RR:Heap->α->β->Prop}{t:Sem α}{K:β->AA->Prop}{P:α->Shared->Prop} (g:Go RR c V t U K (Av X V)) (S:St c V U s.heap)
  (k:∀ v s₁ a U1,RR s₁.heap v a->St c V U1 s₁.heap->AE c U s U1 s₁->K a U1->P v s₁):wpAny (model c.prog c.w) c.A t P (AS c U s X) s :=
 Zm (g s S) (λv s₁ p=>by obtain ⟨a,U1,r,SA,y,q⟩:=p;show k v s₁ a U1 r SA y q) λ_ _ z=>z.toS
theorem bX {x:Str}{value:Expr} (hf:c.fn=true) (g:Ev c V value U (DC V x N) (Av X V))
  (hs:autoParam (swapsWith value (some (.Name x p')) p.line c.env=pure false) aU):WS c V (.Assign [.Name x p'] value p) U N R X:=λs S=>by
 show wpAny_Assign_Name ?_ hs;show g.useS S λv s₁ a U1 r SA y q=>?_;obtain ⟨V',pp,q⟩:=q;show bD SA pp r (.inl hf) λs₂ SB yC=>⟨V',U1,SB,y.trans yC,q⟩
theorem qx {e:Expr} (g:Ev c V e U R (Av X V)):WS c V (.Return (some e) p) U N R X:=λs S=>by
 show wpAny_Return_some ?_;show g.useS S λv s₁ a U1 r SA y q=>⟨V,U1,SA,y,a,r,q⟩
theorem eT (q:R .none U):WS c V (.Return none p) U N R X:=λs S=>wpAny_Return_none ⟨V,U,S,.refl ..,.none,.none,q⟩
theorem jg {t:Expr}{b o:List Stmt} (g:Bn c V t U (Co c V b o N R X) (Av X V)):WS c V (.If t b o p) U N R X:=λs S=>by
 show wpAny_If ?_;show g.useS S λz s₁ a U1 r SA y q=>?_;cases r;cases z
 ·show Zm (q s₁ SA) (λ_ _ z=>z.after y) λ_ _ z=>z.after y
 ·show Zm (q s₁ SA) (λ_ _ z=>z.after y) λ_ _ z=>z.after y
theorem tL {e:Expr} (g:Ev c V e U (λa U'=>a=.none/\N V U') (Av X V)) (hi:interactive c.env=false) (hs:autoParam (swapsWith e none p.line c.env=pure false) aU):WS c V (.Expr e p) U N R X:=λs S=>by
 show wpAny_Expr ?_ hi hs;show g.useS S λv s₁ a U1 r SA y q=>?_;obtain ⟨rfl,q⟩:=q;cases r;show ⟨V,U1,SA,y,q⟩
theorem gh {x:Str}{value:Expr} (hf:c.fn=true) (g:Ev c V value U (DC V x (KS c rest N R X)) (Av X V))
  (hs:autoParam (swapsWith value (some (.Name x p')) p.line c.env=pure false) aU):Al c V (.Assign [.Name x p'] value p::rest) U N R X:=af (bX hf g hs)
theorem ma {t:Expr}{b o:List Stmt} (g:Bn c V t U (Co c V b o (KS c rest N R X) R X) (Av X V)):Al c V (.If t b o p::rest) U N R X:=af (jg g)
theorem mh {e:Expr} (g:Ev c V e U R (Av X V)):Al c V (.Return (some e) p::rest) U N R X:=af (qx g)
end
section
variable {c:Cx}{V V':List NV}{U U0 U1 U' Y:AA}{h h' B:Heap}{s s₀ s₁ s':Shared}{P:Addr->Prop}
theorem St.slots (S:St c V U h) (k:∀ b o,¬ P b->h.get? b=some o->∃ sl,h'.get? b=some { o with slots:=sl }) (k2:∀ b o,¬ P b->b∉c.frames->h.get? b=some o->h'.get? b=some o)
  (hP:∀ b,P b->c.G.get? b=none/\U b=none/\b∉c.own/\b∉c.frames/\∀ x∈c.env.cells,b≠x.2)
  (hT:∀ b o,P b->h.get? b=some o->o.cls=.type "tuple" -> ∀ xs n,o.data≠.seq xs n):St c V U h':=by
 have t:AH h h':=λb o e q d=>by
  have np:¬ P b:=λz=>by obtain ⟨xs,n,d⟩:=d;show hT b o z e q xs n d
  obtain ⟨sl,e'⟩:=k b o np e;show ⟨_,e',q,rfl⟩
 have nsK:∀ (a:Addr) (m:Str->Option Value),¬ P a->h.Ns a m->h'.Ns a m:=λa m np z=>by
  obtain ⟨o,es,ep,ho,r⟩:=z;obtain ⟨sl,e'⟩:=k a o np ho;show ⟨_,es,ep,e',r⟩
 have lp:¬ P c.env.locals:=λz=>(hP _ z).2.2.1 S.ok.locIn;have cp:∀ x∈c.env.cells,¬ P x.2:=λx hx z=>(hP _ z).2.2.2.2 x hx rfl;have clK:∀ (a:Addr) (v:Option Value),¬ P a->h.IsCell a v->h'.IsCell a v:=λa v np z=>by
  obtain ⟨o,ho,d⟩:=z;obtain ⟨sl,e'⟩:=k a o np ho;show ⟨_,e',d⟩
 show ⟨S.ok,λa o e=>?_,b6 S.frames λb hb o e=>?_,S.names,?_,λx hx=>?_,λe he a ha=>?_,λa o e=>?_,S.off,λb hb=>?_⟩
 ·have np:¬ P a:=λz=>by rw [(hP a z).1] at e;cases e
  show k2 a o np (λz=>?_) (S.base a o e);rw [(Heap.FunFrames.mem S.frames z).1] at e;cases e
 ·have np:¬ P b:=λz=>(hP b z).2.2.2.1 hb;obtain ⟨sl,e'⟩:=k b o np e;show ⟨_,e',rfl⟩
 ·obtain ⟨m,n⟩:=S.locs;show ⟨m,nsK _ _ lp n⟩
 ·obtain ⟨v,y⟩:=S.cellsAt x hx;show ⟨v,clK _ _ (cp x hx) y⟩
 ·obtain ⟨v⟩|⟨y,r⟩:=(S.vars e he a ha)
  show ⟨v,?_,r.keep t⟩;revert y;cases e.kind with
  | «local»=>intro r1z;show ex1 r1z λm h2z=>?_;(try clear r1z);show an2 h2z λn q=>?_;clear h2z;show ⟨m,nsK _ _ lp n,q⟩
  | cell=>intro r2z;show ex1 r2z λb h3z=>?_;(try clear r2z);show an2 h3z λl y=>?_;clear h3z;show ⟨b,l,clK _ _ (cp _ (mem_of_lookup l)) y⟩
  | free=>intro r3z;show ex1 r3z λb h4z=>?_;(try clear r3z);show an2 h4z λl y=>?_;clear h4z;show ⟨b,l,clK _ _ (cp _ (mem_of_lookup l)) y⟩
  | _=>intro y;show y.elim
 ·have np:¬ P a:=λz=>by rw [(hP a z).2.1] at e;cases e
  show (S.obj a o e).keepB t λob q=>k2 a ob np (S.off a o e).2.2.1 q
 ·obtain ⟨g,o,q,n⟩:=S.ownNew b hb;have np:¬ P b:=λz=>(hP b z).2.2.1 hb;obtain ⟨sl,e'⟩:=k b o np q;show ⟨g,_,e',n⟩
theorem St.frameL (S:St c V U h) (hf:c.fn=true):∃ L,c.fenv.frame=some L/\L∈c.frames:=by
 show an3 S.frames λ_ h5z _=>?_;obtain ⟨L,_,hL,_⟩:=h5z;show ⟨L,hL,by unfold Cx.frames;rw [E0,hL];show .head _⟩
theorem eE (f:Array Value->Array Value) (o:Obj):(Obj.mapFields f o).dict=o.dict/\(Obj.mapFields f o).slots=o.slots:=by
 obtain ⟨c0,d0,dt,sl⟩:=o;cases dt<;>show ⟨rfl,rfl⟩
theorem cW {e:Addr}{x:AC}{L:Addr} (S:St c V U s.heap) (hf:c.fn=true) (F:Ar c U s₀ e x fl s.heap B P) (y:AE c U0 s₀ U s) (hL:c.fenv.frame=some L)
  (hfl:fl=none\/fl=some .none\/∃ L,c.fenv.frame=some L/\fl=some (rawInt L))
  (k:∀ s' B' P',St c V U s'.heap->AE c U0 s₀ U s'->Ar c U s₀ e x (some (rawInt L)) s'.heap B' P'->Pu () s'):wpAny (model c.prog c.w) c.A (noteFrame (.ref e) c.env) Pu E s:=by
 rw [S.ok.fnEnv hf];obtain ⟨oe,vs,d,md,he,hcls,hds,hdat,hsf,hns,hwa⟩:=F.here;have hdict:=hds.1;have hslots:=hds.2;have hsz:=hsf.1;have hfr:=hsf.2;have hw:=hwa.1;have ha:=hwa.2.1;have hfx:=hwa.2.2;have hLf:L∈c.frames:=by unfold Cx.frames;rw [E0,hL];show .head _
 clear hwa;by_cases hsame:fl=some (rawInt L)
 ·clear hfl;subst hsame;obtain ⟨T,oT,ts⟩|⟨h1,hPT,hTe,hT,hdT,h3⟩:=hfx;unfold noteFrame;simp only [hL];show Zb (wpAny_field he hdat h1 ?_);rw [Zw (show (Value.ref T != Value.none)=true from s!"s")];show Zb (wpAny_field hT hdT h3 ?_);rw [Zw (show (rawInt L == rawInt L)=true from s!"s")];show Zp (k s B P S y F)
 ·have hnone:fl=none\/fl=some .none:=by
   rcases hfl with h | h | ⟨L',h1,h2⟩
   ·show .inl h
   ·show .inr h
   ·rw [hL] at h1;cases h1;show absurd h2 hsame
  have part:∀ (s₁:Shared) (head:Value) (hadNext:Bool),s₁.gens=s.gens->s₁.os=s.os->(∀ b,¬ P b->s₁.heap.get? b=s.heap.get? b)->s₁.heap.get? e=some oe->(∀ b o,P b->s₁.heap.get? b=some o->o.cls=.type "tuple" -> ∀ xs n,o.data≠.seq xs n) ->
    (∀ b,(s.heap.get? b).isSome=(s₁.heap.get? b).isSome) ->
    wpAny (model c.prog c.w) c.A (do setField (.ref e) 1 (<- EntryCells.newEntry head (<- frameOf c.fenv) .none (rawInt L) .none (<- entryPlaceOf L hadNext))) Pu E s₁:=by
   intro s₁ head hadNext hg ho hk he1 hnt hsome;have SF:s₁.heap.FunFrames c.G (c.fenv::c.outer):=b6 S.frames λb hb o q=>⟨o,(hk b λz=>(F.new b z).2.2.2.2.1 hb).trans q,rfl⟩
   show Zb (wpAny_frameOf_fun S.ok.fr SF hL λh₂ hsB=>?_);show Zb (wpAny_entryPlaceOf λpl hpl=>?_);unfold EntryCells.newEntry newFields;show Zb (wpAny_newObj_type ?_ (hpl.sizeOk5 _ _ _ _ _));have hef:e∉c.frames:=(F.new e F.own).2.2.2.2.1;have heA:h₂.get? e=some oe:=(hsB.2.1 e hef).trans he1;generalize hoT:({ cls:=.type "traceback",dict:=none,data:=.fields ([head,.ref L,.none,rawInt L,.none]++(if pl.isEmpty then List.replicate 6 Value.none else pl)).toArray }:Obj)=oT;have he3:=Zu (h:=h₂) oT heA;show wpAny_setField he3 hdat hsz ?_;have hTe:h₂.objs.size≠e:=Nat.ne_of_gt (Heap.lt_size heA);have hd4:=Obj.data_mapFields hdat (·.setIfInBounds 1 (Value.ref h₂.objs.size));have he4:=Heap.get?_update_self (Obj.mapFields (·.setIfInBounds 1 (Value.ref h₂.objs.size))) he3 (Obj.isFreed_of_fields hd4);have hnew:h₂.get? h₂.objs.size=none:=aj h₂;have hnew1:s₁.heap.get? h₂.objs.size=none:=by rw [hsB.1];show aj _
   have hnew0:s.heap.get? h₂.objs.size=none:=by
    have:=hsome h₂.objs.size;rw [hnew1] at this;simpa using this
   have hTfree:oT.isFreed=false:=by rw [<- hoT];rfl
   have hT4:((h₂.push oT).update e (Obj.mapFields (·.setIfInBounds 1 (Value.ref h₂.objs.size)))).get? h₂.objs.size=some oT :=
    (Heap.get?_update_other _ _ (Ne.symm hTe)).trans (Zz _ hTfree)
   have other:∀ b,b≠e->b≠h₂.objs.size->((h₂.push oT).update e (Obj.mapFields (·.setIfInBounds 1 (Value.ref h₂.objs.size)))).get? b=h₂.get? b:=λb h1 h2=>by
    rw [Heap.get?_update_other _ _ (Ne.symm h1)];cases q:h₂.get? b with
    | some o=>show Zu _ q
    | none =>
     cases q2:(h₂.push oT).get? b with
     | none=>rfl
     | some o =>
      have l:=Heap.lt_size q2;rw [Heap.size_push] at l;have l2:b < h₂.objs.size:=Nat.lt_of_le_of_ne (Nat.lt_succ_iff.mp l) h2;obtain ⟨e1,e2⟩:=Heap.get?_some_iff.mp q2
      have:h₂.get? b=some o:=Heap.get?_some_iff.mpr ⟨by
       obtain ⟨objs,lf⟩:=h₂;simp only [Heap.push,Array.getElem?_push] at e1;rw [Zv (by intro z;subst z;show h2 rfl)] at e1
       show e1,e2⟩
      rw [q] at this;cases this
   generalize hh4:(h₂.push oT).update e (Obj.mapFields (·.setIfInBounds 1 (Value.ref h₂.objs.size)))=h₄ at other he4 hT4 ⊢;have nf:=S.new_off hnew0;have hs0:s₀.heap.get? h₂.objs.size=none:=by
    cases q:s₀.heap.get? h₂.objs.size with
    | none=>rfl
    | some o=>obtain ⟨o',q'⟩:=y.there _ _ q;rw [hnew0] at q';cases q'
   have hB:B.get? h₂.objs.size=none:=by
    cases q:B.get? h₂.objs.size with
    | none=>rfl
    | some o=>have:=F.stays _ _ q;rw [hnew0] at this;cases this
   have newP:∀ b,P b\/b=h₂.objs.size->s₀.heap.get? b=none/\B.get? b=none/\U b=none/\b∉c.own/\b∉c.frames/\∀ x∈c.env.cells,b≠x.2:=by
    rintro b (hb | rfl)
    ·show F.new b hb
    ·show ⟨hs0,hB,S.none_of hnew0,nf.2.1,nf.2.2.1,nf.2.2.2⟩
   have k1:∀ b o,¬ (P b\/b=h₂.objs.size)->s.heap.get? b=some o->∃ sl,h₄.get? b=some { o with slots:=sl }:=λb o np q=>by
    have n1:¬ P b:=λz=>np (.inl z);have n2:b≠e:=λz=>n1 (z ▸ F.own);obtain ⟨sl,q2⟩:=hsB.2.2 b o ((hk b n1).trans q);show ⟨sl,(other b n2 λz=>np (.inr z)).trans q2⟩
   have k2:∀ b o,¬ (P b\/b=h₂.objs.size)->b∉c.frames->s.heap.get? b=some o->h₄.get? b=some o:=λb o np nfr q=>by
    have n1:¬ P b:=λz=>np (.inl z);have n2:b≠e:=λz=>n1 (z ▸ F.own);show (other b n2 λz=>np (.inr z)).trans ((hsB.2.1 b nfr).trans ((hk b n1).trans q))
   have SD:St c V U h₄:=S.slots (P:=λb=>P b\/b=h₂.objs.size) k1 k2 (λb hb=>by
     show an6 (newP b hb) λ_ n2 n3 n4 n5 n6=>?_;show ⟨?_,n3,n4,n5,n6⟩;cases q:c.G.get? b with
     | none=>rfl
     | some o=>have:=F.base b o q;rw [n2] at this;cases this) λb o hb q=>by
    rcases hb with hb | rfl
    ·show F.noTup b o hb q
    ·rw [hnew0] at q;cases q
   show k _ B (λb=>P b\/b=h₂.objs.size) SD ⟨λb o q n1 n2=>?_,λb o q=>?_,y.grow,hg.trans y.gens,ho.trans y.os⟩
    ⟨F.base,λb o q=>?_,newP,λb o q=>?_,F.off,.inl F.own,λb o hb q=>?_,?_⟩
   ·obtain ⟨sl⟩|⟨q',fx⟩:=(y.kept b o q n1 n2)
    have np:¬ (P b\/b=h₂.objs.size):=by
     rintro (z | rfl)
     ·rw [(F.new b z).1] at q;cases q
     ·rw [hs0] at q;cases q
    obtain ⟨sl',q2⟩:=k1 b _ np q';show ⟨sl',q2,λnf=>?_⟩;have:=k2 b _ np nf q';rw [q2] at this;show (congrArg Obj.slots (Option.some.inj this)).trans (fx nf)
   ·obtain ⟨o',q'⟩:=y.there b o q;by_cases np:P b\/b=h₂.objs.size
    ·rw [(newP b np).1] at q;cases q
    ·obtain ⟨sl',q2⟩:=k1 b _ np q';show ⟨_,q2⟩
   ·by_cases np:P b\/b=h₂.objs.size
    ·show .inr (.inr np)
    ·by_cases fr:b∈c.frames
     ·show .inl fr
     ·have n1:¬ P b:=λz=>np (.inl z);have n2:b≠e:=λz=>n1 (z ▸ F.own)
      have:s.heap.get? b=some o:=by
       rw [<- hk b n1,<- hsB.2.1 b fr,<- other b n2 λz=>np (.inr z)];show q
      rcases F.all b o this with z | z | z
      ·show .inl z
      ·show .inr (.inl z)
      ·show absurd z n1
   ·have np:¬ (P b\/b=h₂.objs.size):=λz=>by rw [(newP b z).2.1] at q;cases q
    show k2 b o np (λz=>by rw [F.off b z] at q;cases q) (F.stays b o q)
   ·have tr:h₄.get? h₂.objs.size=some o->o.cls=.type "tuple" -> ∀ xs n,o.data≠.seq xs n:=λq=>by
     rw [hT4] at q;cases q;intro q;rw [<- hoT] at q;show absurd q s!"s"
    by_cases w:b=h₂.objs.size
    ·subst w;show tr q
    ·have hb:=hb.resolve_right w;by_cases z:b=e
     ·have ez:some _=some o:=he4.symm.trans (z ▸ q);intro _ xs n d';rw [<- Option.some.inj ez,hd4] at d';cases d'
     ·have q2:s₁.heap.get? b=some o:=by
       rw [<- hsB.2.1 b (F.new b hb).2.2.2.2.1,<- other b z w];show q
      show hnt b o hb q2
   ·show ⟨_,_,d,md,he4,(Obj.cls_mapFields _ _).trans hcls,?_,hd4,⟨by simpa using hsz,λz=>by have:=hfr z;simpa [Array.getElem?_setIfInBounds] using this⟩,hns,hw,ha,h₂.objs.size,oT,_,by simp [hsz],.inr rfl,hTe,hT4,by rw [<- hoT],?_⟩
    ·show ⟨(eE _ _).1.trans hdict,(eE _ _).2.trans hslots⟩
    ·simp
  unfold noteFrame;simp only [hL];clear hfl hsame;rcases hnone with rfl | rfl
  ·show Zb (wpAny_field he hdat hfx ?_);rw [Zv s!"d"];show part s .none _ rfl rfl (λ_ _=>rfl) he F.noTup λ_=>rfl
  ·obtain ⟨T,oT,ts⟩|⟨h1,hPT,hTe,hT,hdT,h3⟩:=hfx;show Zb (wpAny_field he hdat h1 ?_);rw [Zw (show (Value.ref T != Value.none)=true from s!"s")];show Zb (wpAny_field hT hdT h3 ?_);rw [Zv (show ¬ ((Value.none == rawInt L)=true) from by simp [rawInt])];show Zb (wpAny_setField hT hdT (Array.getElem?_eq_some_iff.mp h3).1 ?_);have hdT':=Obj.data_mapFields hdT (·.setIfInBounds 3 Value.none);have selfT:=Heap.get?_update_self (Obj.mapFields (·.setIfInBounds 3 Value.none)) hT (Obj.isFreed_of_fields hdT');have other:∀ b,b≠T->(s.heap.update T (Obj.mapFields (·.setIfInBounds 3 Value.none))).get? b=s.heap.get? b:=λb hb=>Heap.get?_update_other _ _ (Ne.symm hb);show part { s with heap:=s.heap.update T (Obj.mapFields (·.setIfInBounds 3 Value.none)) } (.ref T) _ rfl rfl (λb np=>other b λz=>np (z ▸ hPT)) ((other e (Ne.symm hTe)).trans he) (λb o hb q=>?_) λb=>?_
   ·by_cases z:b=T
    ·have ez:some _=some o:=selfT.symm.trans (z ▸ q);intro _ xs n d';rw [<- Option.some.inj ez,hdT'] at d';cases d'
    ·show F.noTup b o hb ((other b z).symm.trans q)
   ·by_cases z:b=T
    ·change _=((s.heap.update T (Obj.mapFields (·.setIfInBounds 3 Value.none))).get? b).isSome;rw [z,selfT,hT];rfl
    ·change _=((s.heap.update T (Obj.mapFields (·.setIfInBounds 3 Value.none))).get? b).isSome;rw [other b z]
theorem bS {e:Addr}{x:AC}{fr:Option Addr} (S:St c V U s.heap) (F:Ar c U s₀ e x fl s.heap B P) (y:AE c U0 s₀ U s)
  (k:∀ s',St c V U s'.heap->AE c U0 s₀ U s'->Ar c U s₀ e x (fl.map λ_=>fr.elim .none λf=>rawInt f) s'.heap B P->Pu () s'):wpAny (model c.prog c.w) c.A (setFlight (.ref e) fr) Pu E s:=by
 obtain ⟨oe,vs,d,md,he,hcls,hds,hdat,hsf,hns,hwa⟩:=F.here;have hdict:=hds.1;have hslots:=hds.2;have hsz:=hsf.1;have hfr:=hsf.2;have hw:=hwa.1;have ha:=hwa.2.1;have hfx:=hwa.2.2;unfold setFlight;cases fl with
 | none =>
  show Zb (wpAny_field he hdat hfx ?_);rw [Zv s!"d"];show Zp (k s S y F)
 | some f =>
  obtain ⟨T,oT,ts⟩|⟨h1,hPT,hTe,hT,hdT,h3⟩:=hfx;show Zb (wpAny_field he hdat h1 ?_);rw [Zw (show (Value.ref T != Value.none)=true from s!"s")];show wpAny_setField hT hdT (Array.getElem?_eq_some_iff.mp h3).1 ?_;have hdT':=Obj.data_mapFields hdT (·.setIfInBounds 3 (fr.elim .none λf=>rawInt f));have selfT:=Heap.get?_update_self (Obj.mapFields (·.setIfInBounds 3 (fr.elim .none λf=>rawInt f))) hT (Obj.isFreed_of_fields hdT');have other:∀ b,b≠T->(s.heap.update T (Obj.mapFields (·.setIfInBounds 3 (fr.elim .none λf=>rawInt f)))).get? b=s.heap.get? b:=λb hb=>Heap.get?_update_other _ _ (Ne.symm hb);have np:∀ b,¬ P b->b≠T:=λb n z=>n (z ▸ hPT);show k _ (S.slots (P:=P) (λb o n q=>⟨o.slots,(other b (np b n)).trans q⟩) (λb o n _ q=>(other b (np b n)).trans q) (λb hb=>?_) F.noTup) ⟨λb o q n1 n2=>?_,λb o q=>?_,y.grow,y.gens,y.os⟩
   ⟨F.base,λb o q=>?_,F.new,λb o q=>?_,F.off,F.own,λb o hb q=>?_,?_⟩
  ·show an6 (F.new b hb) λ_ n2 n3 n4 n5 n6=>?_;show ⟨?_,n3,n4,n5,n6⟩;cases q:c.G.get? b with
   | none=>rfl
   | some o=>have:=F.base b o q;rw [n2] at this;cases this
  ·obtain ⟨sl⟩|⟨q',fx⟩:=(y.kept b o q n1 n2)
   show ⟨sl,?_,fx⟩;show (other b λz=>by rw [z,(F.new T hPT).1] at q;cases q).trans q'
  ·obtain ⟨o',q'⟩:=y.there b o q;show ⟨o',(other b λz=>by rw [z,(F.new T hPT).1] at q;cases q).trans q'⟩
  ·by_cases z:b=T
   ·show .inr (.inr (z ▸ hPT))
   ·show F.all b o ((other b z).symm.trans q)
  ·show (other b λz=>by rw [z,(F.new T hPT).2.1] at q;cases q).trans (F.stays b o q)
  ·by_cases z:b=T
   ·subst z;have q:(s.heap.update b (Obj.mapFields (·.setIfInBounds 3 (fr.elim .none λf=>rawInt f)))).get? b=some o:=q;rw [selfT] at q;cases q;intro _ xs n d';rw [hdT'] at d';cases d'
   ·show F.noTup b o hb ((other b z).symm.trans q)
  ·show ⟨oe,vs,d,md,(other e (Ne.symm hTe)).trans he,hcls,⟨hdict,hslots⟩,hdat,⟨hsz,hfr⟩,hns,hw,ha,T,_,_,h1,hPT,hTe,selfT,hdT',by
    have:=(Array.getElem?_eq_some_iff.mp h3).1
    simp [this]⟩
theorem e9 {X:AC->List NV->AA->Prop} (hf:c.fn=true) (p:AS c U0 s₀ X v s) :
  notedBy (model c.prog c.w) c.A c.env (λe s'=>cameBackBy (model c.prog c.w) c.A c.env (AS c U0 s₀ X) e s') v s:=by
 obtain ⟨V',e,x,U',rfl,S,y,⟨fl,B,P,F,hfl⟩,q⟩:=p;obtain ⟨L⟩|⟨hL,_⟩:=(S.frameL hf)
 unfold notedBy;show cW S hf F y hL hfl λs' B' P' S' y' F'=>?_;unfold cameBackBy;show F'.here.tr λoe vs T he hdat h1=>?_;show Zb (wpAny_field he hdat h1 ?_);rw [Zv s!"s"];rw [S'.ok.fnEnv hf,hL];show bS S' F' y' λs'' S'' y'' F''=>⟨V',e,x,U',rfl,S'',y'',⟨_,B',P',F'',.inr (.inr ⟨L,hL,rfl⟩)⟩,q⟩
end
structure Bl (c:Cx) (target:Expr) where
 need:AA->Prop
 ads:List Addr
 holds:Heap->List AB->Prop
 it:Addr
 next:∀ {V:List NV}{U:AA}{s:Shared}{v:AB}{rest:List AB}{P:Value->Shared->Prop}{P0:Shared->Prop}{E E':Value->Shared->Prop},St c V U s.heap->need U->holds s.heap (v::rest) ->
  (∀ val h' t,VR h' val v->holds h' rest->(∀ b o,b∉ads->s.heap.get? b=some o->h'.get? b=some o)->(∀ b∈ads,∃ o,h'.get? b=some o/\∀ xs n,o.data≠.seq xs n)->P val { s with heap:=h',toks:=t }) ->
   wpAny (model c.prog c.w) c.A (pyNext (.ref it)) (λr s₁=>match r with | none=>P0 s₁ | some v=>wpAny (model c.prog c.w) c.A (letOwnedTupleGo target (.ref it) v) (λ_ s₂=>P v s₂) E' s₁) E s
 stop:∀ {V:List NV}{U:AA}{s:Shared}{P:Option Value->Shared->Prop}{E:Value->Shared->Prop},St c V U s.heap->need U->holds s.heap [] ->
  (∀ h' t,(∀ b o,b∉ads->s.heap.get? b=some o->h'.get? b=some o)->P none { s with heap:=h',toks:=t })->wpAny (model c.prog c.w) c.A (pyNext (.ref it)) P E s
 self:∀ {V:List NV}{U:AA}{s:Shared}{items:List AB}{P:Value->Shared->Prop}{E:Value->Shared->Prop},St c V U s.heap->need U->holds s.heap items->P (.ref it) s->wpAny (model c.prog c.w) c.A (pyIter (.ref it)) P E s
 keep:∀ {h h':Heap}{items:List AB},holds h items->(∀ b∈ads,∀ o,h.get? b=some o->h'.get? b=some o)->AH h h'->holds h' items
structure Bl.Off {c:Cx}{target:Expr} (K:Bl c target) (U:AA) (h:Heap):Prop where
 sig:∀ b∈K.ads,U b=none/\c.G.get? b=none/\b∉c.own/\b∉c.frames/\∀ x∈c.env.cells,b≠x.2
 at_:∀ b∈K.ads,∃ o,h.get? b=some o/\∀ xs n,o.data≠.seq xs n
section
variable {c:Cx}{target:Expr}{V V':List NV}{U U0 U1 U' Y:AA}{h h' B:Heap}{s s₀ s₁ s':Shared}{N:List NV->AA->Prop}{R:AB->AA->Prop}{X:AC->List NV->AA->Prop}
theorem mM {A:Around}{I:Addr}{o:Obj}{Q':Unit->Shared->Prop} (ho:s.heap.get? I=some o) (hc:o.cls=.type T)
  (hT:["enumerate", "zip", "dict_itemiterator", "dict_reverseitemiterator", "odict_iterator", "itertools.zip_longest", "itertools.pairwise"].contains T=false) (h:Q' () s) :
  wpAny (model prog w) A (letOwnedTupleGo target (.ref I) v) Q' E s:=by
 unfold letOwnedTupleGo;cases target<;>first
  | show Zp h
  | (cases v<;>first
    | show Zp h
    | (show Zb (wpAny_load ho ?_)
       rw [hc];cases o.data<;>first
        | show Zp h
        | (simp only [hT,Bool.false_and,Bool.false_eq_true,if_false];show Zp h)))
theorem Bl.Off.step {K:Bl c target} (O:K.Off U s.heap) (y:AE c U s U' s'):K.Off U' s'.heap:=by
 show ⟨λb hb=>?_,λb hb=>?_⟩
 ·obtain ⟨o⟩|⟨e,_⟩:=(O.at_ b hb)
  obtain ⟨a1,a2⟩:=O.sig b hb;show ⟨y.grow b o e a1,a2⟩
 ·obtain ⟨o⟩|⟨e,n⟩:=(O.at_ b hb)
  show an5 (O.sig b hb) λa1 a2 a3 a4 _=>?_;show ⟨_,y.exact e a1 a3 a4,n⟩
theorem eN {K:Bl c target} (O:K.Off U h) (k:∀ b o,b∉K.ads->h.get? b=some o->h'.get? b=some o):AH h h':=λb o e q d=>by
 by_cases z:b∈K.ads
 ·obtain ⟨o'⟩|⟨e',n⟩:=(O.at_ b z)
  rw [e] at e';cases e';obtain ⟨xs,m,d⟩:=d;show absurd d (n xs m)
 ·show ⟨o,k b o z e,q,rfl⟩
theorem St.advance {K:Bl c target} (S:St c V U h) (O:K.Off U h) (k:∀ b o,b∉K.ads->h.get? b=some o->h'.get? b=some o):St c V U h' :=
 S.move (W:=λb=>b∈K.ads) k (λb hb=>(O.sig b hb).2.1) (λb hb z=>(O.sig b z).2.2.1 hb) (λb hb z=>(O.sig b z).2.2.2.1 hb) (λx hx z=>(O.sig _ z).2.2.2.2 x hx rfl)
  (λb o e z=>by rw [(O.sig b z).1] at e;cases e) (eN O k)
theorem AE.advance {K:Bl c target} (y:AE c U0 s₀ U s) (O:K.Off U s.heap) (n:∀ b∈K.ads,s₀.heap.get? b=none) (k:∀ b o,b∉K.ads->s.heap.get? b=some o->h'.get? b=some o):AE c U0 s₀ U { s with heap:=h',toks:=t }:=by
 show ⟨λb o e q z=>?_,λb o e=>?_,y.grow,y.gens,y.os⟩
 ·obtain ⟨sl⟩|⟨e',f⟩:=(y.kept b o e q z)
  show ⟨sl,k b _ (λw=>by rw [n b w] at e;cases e) e',f⟩
 ·obtain ⟨o',e'⟩:=y.there b o e;show ⟨o',k b _ (λw=>by rw [n b w] at e;cases e) e'⟩
theorem Bl.keepStep {K:Bl c target} (H:K.holds s.heap items) (O:K.Off U s.heap) (y:AE c U s U' s') (t:AH s.heap s'.heap):K.holds s'.heap items :=
 K.keep H (λb hb o e=>an5 (O.sig b hb) λa1 _ a3 a4 _=>y.exact e a1 a3 a4) t
inductive CV (c:Cx) (U:AA) (s:Shared) (N:List NV->AA->Prop) (s₂:Shared):Prop
 | mk (V₂:List NV) (U2:AA) (S:St c V₂ U2 s₂.heap) (y:AE c U s U2 s₂) (q:N V₂ U2)
def BN (c:Cx) (target:Expr) (v:AB) (V:List NV) (U:AA) (N:List NV->AA->Prop) (X:AC->List NV->AA->Prop):Prop :=
 ∀ val s,VR s.heap val v->St c V U s.heap->wpAny (model c.prog c.w) c.A (assign target c.env val) (λ_=>CV c U s N) (AS c U s X) s
theorem aB {x:Str}{v:AB} (hf:c.fn=true) (g:Bm V x v N U):BN c (.Name x px) v V U N X:=λval s r S=>by
 obtain ⟨V₂,p,g⟩:=g;show wpAny_assign_Name ?_;show bD S p r (.inl hf) λs₂ SB yC=>⟨V₂,U,SB,yC,g⟩
inductive Ce (V:List NV) (x:Str):Prop
 | mk (e:NV) (m:e∈V) (h1:e.name=x) (h2:e.kind=.local)
theorem aD {x:Str}{v:AB} (g:Bm V x v N U) (hl:Ce V x):BN c (.Name x px) v V U N X:=λval s r S=>by
 obtain ⟨V₂,p,g⟩:=g;show wpAny_assign_Name ?_;show bD S p r (.inr (let ⟨e,m,h1,h2⟩:=hl;⟨e,m,h1,h2⟩)) λs₂ SB yC=>⟨V₂,U,SB,yC,g⟩
def CP (c:Cx):List Expr->List AB->List NV->AA->(List NV->AA->Prop)->(AC->List NV->AA->Prop)->Prop
 | e::es,v::vs,V,U,N,X=>BN c e v V U (λV' U'=>CP c es vs V' U' N X) X
 | [],[],V,U,N,_=>N V U
 | _,_,_,_,_,_=>False
theorem kH {V:List NV}{U:AA}{s:Shared} (g:CP c es as V U N X) (r:AW s.heap vs as) (S:St c V U s.heap) (hn:∀ e∈es,∃ x p,e=.Name x p) :
  wpAny (model c.prog c.w) c.A (assignInOrder ((assignEach es c.env).map (·.2)) vs) (λ_=>CV c U s N) (AS c U s X) s:=by
 induction es generalizing as vs V U s with
 | nil=>cases as with
  | nil=>cases r;show Zp ⟨V,U,S,.refl ..,g⟩
  | cons _ _=>show g.elim
 | cons e es ih=>cases as with
  | nil=>show g.elim
  | cons a as =>
  cases r with | @cons v _ vs _ rv rs =>
  show ex2 (hn e Zh) λx p h5z=>?_;obtain rfl:=h5z;show (?_:wpAny _ _ (holding _ (assign (.Name x p) c.env v) >>= _) _ _ s);show Zb (wpAny_holding (Zm (g v s rv S) (λ_ s₂ q=>?_) λ_ _ z=>z));obtain ⟨V₂,U2,SB,yC,g₂⟩:=q;show Zm (ih g₂ (rs.keep (yC.tup S)) SB λe he=>hn e (.tail _ he)) (λ_ s₃ q=>by obtain ⟨V3,U3,S3,y3,g₃⟩:=q;show ⟨V3,U3,S3,yC.trans y3,g₃⟩) λ_ _ z=>z.after yC
theorem cX (g:CP c es as V U N X) (hn:∀ e∈es,∃ x p,e=.Name x p) (hl:es.length=as.length)
  (hle:autoParam ((assignEach es c.env).length=es.length) aU) (hstar:autoParam ((assignEach es c.env).findIdx? (·.1)=none) aU) (cm:autoParam (c.calm=true) aM):BN c (.Tuple es k p) (.tup as) V U N X:=λval s r S=>by
 show ex4 r.tup_inv λl ol vs n h7z=>?_;show an5 h7z λh6z e ec ed rs=>?_;clear h7z;obtain rfl:=h6z;have:=rs.length;show wpAny_assign_Tuple (S.ok.hd cm) ⟨ol,e,ec,n,ed⟩ (by rw [hle,hl,E8,this]) hstar λh' hx=>?_;have kp:∀ b o,s.heap.get? b=some o->h'.get? b=some o:=λb o q=>hx b o (λz=>by rw [z,aj] at q;cases q) q;have y:AE c U s U { s with heap:=h' }:=AE.ext (t:=s.toks) kp;show Zm (kH (s:={ s with heap:=h' }) g (rs.keep (ay kp)) (S.ext kp) hn) (λ_ s₃ q=>by obtain ⟨V3,U3,S3,y3,g₃⟩:=q;show ⟨V3,U3,S3,y.trans y3,g₃⟩) λ_ _ z=>z.after y
theorem qH {K:Bl c target} (hf:c.fn=true) (I:List AB->List NV->AA->Prop)
  (hn:∀ r V U,I r V U->K.need U)
  (turn:∀ v rest V1 U1,I (v::rest) V1 U1->BN c target v V1 U1 (λV₂ U2=>Al c V₂ body U2 (λV3 U3=>I rest V3 U3) R X) X)
  (done:∀ V1 U1,I [] V1 U1->N V1 U1) (items:List AB) (S:St c V U s.heap) (O:K.Off U s.heap) (H:K.holds s.heap items) (hi:I items V U) (y:AE c U0 s₀ U s) (n:∀ b∈K.ads,s₀.heap.get? b=none) :
  codeAny (model c.prog c.w) c.A (.forLoop target (.ref K.it) body [] c.env) (λr s'=>match r with | .ok f=>Ao c U0 s₀ N R f s' | .error e=>cameBackBy (model c.prog c.w) c.A c.env (AS c U0 s₀ X) e s') s:=by
 let JJ:=λ(m:Nat) (s':Shared)=>∃ V1 U1 its,St c V1 U1 s'.heap/\K.Off U1 s'.heap/\K.holds s'.heap its/\I its V1 U1/\AE c U0 s₀ U1 s'/\its.length=m
 show codeAny_forLoop_any JJ (λm s' h=>?_) items.length ⟨V,U,items,S,O,H,hi,y,rfl⟩;obtain ⟨V1,U1,its⟩|⟨SA,O1,H1,i₁,yB,rfl⟩:=h;cases its with
 | nil =>
  show K.stop SA (hn _ _ _ i₁) H1 λh' t k=>?_;show wpAny_execs_nil ?_;show ⟨V1,U1,SA.advance O1 k,yB.advance O1 n k,done _ _ i₁⟩
 | cons v rest =>
  show K.next SA (hn _ _ _ i₁) H1 λval h' t r H' k ka=>?_;have SB:St c V1 U1 h':=SA.advance O1 k;have yC:AE c U0 s₀ U1 { s' with heap:=h',toks:=t }:=yB.advance O1 n k;have O2:K.Off U1 h':=⟨O1.sig,ka⟩
  have w:=turn v rest V1 U1 i₁ val { s' with heap:=h',toks:=t } r SB;show Zm w (λ_ s₂ p=>?_) λ_ _ p=>e9 hf (p.after yC);obtain ⟨V₂,U2,S3,y3,g⟩:=p;have O3:=Bl.Off.step (s:={ s' with heap:=h',toks:=t }) O2 y3;show Zm (g s₂ S3) (λf s₃ p=>?_) λ_ _ p=>e9 hf (p.after (yC.trans y3));obtain ⟨V3,U3,SD,yD,q⟩:=p;have O4:=O3.step yD;cases f with
  | next =>
   have y34:=y3.trans yD;show ⟨rest.length,Nat.lt_succ_self _,V3,U3,rest,SD,O4,Bl.keepStep (s:={ s' with heap:=h',toks:=t }) H' O2 y34 (y34.tup SB),q,(yC.trans y3).trans yD,rfl⟩
  | ret v=>show ⟨V3,U3,SD,(yC.trans y3).trans yD,q⟩
  | _=>show q.elim
def Bb (c:Cx) (target:Expr) (a:AB) (items:List AB) (need:AA->Prop) (U:AA):Prop :=
 ∀ (V:List NV) (s:Shared) (v:Value) (P:Value->Shared->Prop) (E:Value->Shared->Prop),St c V U s.heap->VR s.heap v a ->
  (∀ (K:Bl c target) s',K.need=need->St c V U s'.heap->AE c U s U s'->K.Off U s'.heap->K.holds s'.heap items->(∀ b∈K.ads,s.heap.get? b=none)->P (.ref K.it) s')->wpAny (model c.prog c.w) c.A (pyIter v) P E s
inductive C9 (c:Cx) (target:Expr) (V:List NV) (body:List Stmt) (N:List NV->AA->Prop) (R:AB->AA->Prop) (X:AC->List NV->AA->Prop) (a:AB) (U1:AA):Prop
 | mk (I:List AB->List NV->AA->Prop) (items:List AB) (need:AA->Prop) (it:Bb c target a items need U1) (i:I items V U1) (k:∀ r V U,I r V U->need U)
   (turn:∀ v rest V1 U1,I (v::rest) V1 U1->BN c target v V1 U1 (KS c body (I rest) R X) X) (done:∀ V1 U1,I [] V1 U1->N V1 U1)
theorem tC (hf:c.fn=true)
  (g:Ev c V iter U (C9 c target V body N R X) (Av X V))
  (hs:autoParam (∀ x,foldedSetIterable iter c.env x=pure x) aI):WS c V (.For target iter body [] p) U N R X:=λs S=>by
 show wpAny_For ?_ hs;show g.useS S λv s₁ a U1 r SA y q=>?_;obtain ⟨I,items,need,io,hi,hn,turn,done⟩:=q;show io V s₁ v _ _ SA r λK s₂ hk SB yC O H n=>?_;subst hk;show qH hf I hn turn done items SB O H hi (y.trans yC) λb hb=>by
  cases z:s.heap.get? b with
  | none=>rfl
  | some o=>obtain ⟨o',e'⟩:=y.there b o z;rw [n b hb] at e';cases e'
end
section
variable {c:Cx}{target:Expr}{V V':List NV}{U U0 U1 U' Y:AA}{h h' B:Heap}{s s₀ s₁ s':Shared}
theorem ca {vs:Array Value}:∀ xs n,Data.fields vs≠.seq xs n:=λ_ _ q=>by cases q
abbrev BX:=Heap->List AB->Prop
abbrev CW (c:Cx) (it:Addr) (need:AA->Prop) (H:BX):Prop:=∀ {V:List NV}{U:AA}{s:Shared}{v:AB}{rest:List AB}{Q:Option Value->Shared->Prop}{E:Value->Shared->Prop},
 St c V U s.heap->need U->H s.heap (v::rest)->(∀ val h' t,Heap.ExtBut it s.heap h'->(AH s.heap h'->VR h' val v/\H h' rest)->Q (some val) { s with heap:=h',toks:=t })->wpAny (model c.prog c.w) c.A (pyNext (.ref it)) Q E s
abbrev Ca (c:Cx) (it:Addr) (need:AA->Prop) (H:BX):Prop:=∀ {V:List NV}{U:AA}{s:Shared}{Q:Option Value->Shared->Prop}{E:Value->Shared->Prop},
 St c V U s.heap->need U->H s.heap []->(∀ h',Heap.ExtBut it s.heap h'->Q none { s with heap:=h' })->wpAny (model c.prog c.w) c.A (pyNext (.ref it)) Q E s
abbrev CY (c:Cx) (it:Addr) (H:BX):Prop:=∀ {s:Shared}{items:List AB}{P:Value->Shared->Prop}{E:Value->Shared->Prop},H s.heap items->P (.ref it) s->wpAny (model c.prog c.w) c.A (pyIter (.ref it)) P E s
abbrev C1 (it:Addr) (T:String) (H:BX):Prop:=∀ {h items},H h items->∃ o:Obj,h.get? it=some o/\o.cls=.type T/\∃ vs,o.data=.fields vs
abbrev Cb (it:Addr) (H:BX):Prop:=∀ {h h' items},H h items->(∀ o,h.get? it=some o->h'.get? it=some o)->AH h h'->H h' items
abbrev B2 (T:String):Prop:=["enumerate", "zip", "dict_itemiterator", "dict_reverseitemiterator", "odict_iterator", "itertools.zip_longest", "itertools.pairwise"].contains T=false/\T ≠ "tuple"
theorem ly {o:Obj} (h:∃ vs,o.data=.fields vs):∀ xs n,o.data≠.seq xs n:=ex1 h λ_ e=>e ▸ ca
noncomputable def uj (c:Cx) (target:Expr) (it:Addr) (need:AA->Prop) (H:BX) (T:String) (hT:B2 T) (ob:C1 it T H) (nx:CW c it need H) (st:Ca c it need H) (sf:CY c it H) (kp:Cb it H):Bl c target where
 need:=need
 ads:=[it]
 holds:=H
 it:=it
 next:=λ{_ _ s _ _ _ _ _ _} S hn hh k=>nx S hn hh λval h' t ex f=>by
  show ex1 (ob hh) λo z=>an3 z λho hc _=>?_;show an2 (f (aP ex ho λq=>absurd (hc.symm.trans q) λq=>hT.2 (Value.type.inj q))) λhv hH=>?_;show ex1 (ob hH) λo' z=>an3 z λho' hc' hd'=>?_;show mM (s:={ s with heap:=h',toks:=t }) ho' hc' hT.1 (k val h' t hv hH (λb o nb e=>ex b o (λz=>nb (by rw [z];show .head _)) e) λb hb=>?_);rw [ZS hb];show ⟨o',ho',ly hd'⟩
 stop S hn hh k:=st S hn hh λh' ex=>k h' _ λb o nb e=>ex b o (λz=>nb (by rw [z];show .head _)) e
 self _ _ hh k:=sf hh k
 keep hh k t:=kp hh (λo e=>k it Zh o e) t
theorem eW {need:AA->Prop}{H:BX}{ob:Obj}{P:Value->Shared->Prop} (S:St c V U s.heap)
  (k:∀ (K:Bl c target) s',K.need=need->St c V U s'.heap->AE c U s U s'->K.Off U s'.heap->K.holds s'.heap items->(∀ b∈K.ads,s.heap.get? b=none)->P (.ref K.it) s')
  (hT:B2 T) (o:C1 s.heap.objs.size T H) (nx:CW c s.heap.objs.size need H) (st:Ca c s.heap.objs.size need H) (sf:CY c s.heap.objs.size H) (kp:Cb s.heap.objs.size H)
  (hd:∃ vs,ob.data=.fields vs) (hr:ob.isFreed=false) (hh:(∀ b o,s.heap.get? b=some o->(s.heap.push ob).get? b=some o)->(s.heap.push ob).get? s.heap.objs.size=some ob->H (s.heap.push ob) items) :
  P (.ref s.heap.objs.size) { s with heap:=s.heap.push ob,toks:=t }:=by
 have ke:∀ b o,s.heap.get? b=some o->(s.heap.push ob).get? b=some o:=λb o q=>Zu _ q;have hn:=aj s.heap;show k (uj c target s.heap.objs.size need H T hT o nx st sf kp) _ rfl (S.ext ke) (AE.ext ke) ⟨λb hb=>?_,λb hb=>?_⟩ (hh ke (Zz _ hr)) λb hb=>?_
 all_goals rewrite [ZS hb]
 ·show ⟨S.none_of hn,S.new_off hn⟩
 ·show ⟨_,Zz _ hr,ly hd⟩
 ·show hn
theorem g6 {l r:List α}{v:α}{i:Nat} (e:v::r=l.drop i):l[i]?=some v/\r=l.drop (i+1) :=
 ⟨by have:=congrArg (λz=>z[0]?) e;simpa using this.symm,by simpa using congrArg List.tail e⟩
theorem jD {l:List α}{i:Nat} (e:[]=l.drop i):l.length<=i:=List.drop_eq_nil_iff.mp e.symm
abbrev uQ (l:Addr) (xs:List AB) (it:Addr):BX:=λh items=>∃ i,h.IsListIter it l i/\items=xs.drop i
theorem ar (hl:U l=some (.list xs)) (cm:autoParam (c.calm=true) aM):Bb c target (.ref l) xs (λU=>U l=some (.list xs)) U:=λV s v P E S r k=>by
 apply r.ref';show (S.obj l _ hl).list' λvs n e rs=>?_;show wpAny_pyIter_list ⟨_,e,rfl,_,rfl⟩ ?_;show eW (H:=uQ l xs _) (T := "list_iterator") S k ⟨rfl,s!"d"⟩ (λh=>?_) (λS hl H k=>?_) (λS hl H k=>?_) (λH k=>?_) (λH k t=>?_) ⟨_,rfl⟩ rfl λ_ g=>⟨0,⟨_,g,rfl,rfl⟩,rfl⟩
 ·show ex1 h λi z=>ex1 z.1 λo z=>⟨o,z.1,z.2.1,_,z.2.2⟩
 ·show ex1 H λi z=>an2 z λhit he=>an2 (g6 he) λhx hr=>?_;show (S.obj l _ hl).list' λvs n e rs=>?_;show ex1 (rs.get hx) λval z=>an2 z λhv r=>?_;show wpAny_pyNext_list_item hit ⟨_,e,rfl,_,rfl⟩ (by simpa using hv) λh' hit' hsb=>k val h' _ hsb.extBut λkt=>⟨r.keep kt,i+1,hit',hr⟩
 ·show ex1 H λi z=>an2 z λhit he=>?_;show (S.obj l _ hl).list' λvs n e rs=>?_;show wpAny_pyNext_list_end (S.ok.hd cm) hit ⟨_,e,rfl,_,rfl⟩ (by simpa [rs.length] using jD he) k
 ·show ex1 H λi z=>wpAny_pyIter_listiter z.1 k
 ·show ex1 H λi z=>ex1 z.1 λo y=>⟨i,⟨o,k o y.1,y.2⟩,z.2⟩
abbrev tupH (l:Addr) (xs:List AB) (it:Addr):BX:=λh items=>∃ i,h.IsTupleIter it l i/\items=xs.drop i/\∃ o vs n,h.get? l=some o/\o.cls=.type "tuple" /\ o.data=.seq (vs:List Value).toArray n/\AW h vs xs
theorem dR (cm:autoParam (c.calm=true) aM):Bb c target (.tup xs) xs (λ_=>True) U:=λV s v P E S r k=>by
 show ex4 r.tup_inv λl ol vs n z=>an5 z λe0 e ec ed rs=>?_;subst e0;show wpAny_pyIter_tuple ⟨_,e,ec,_,ed⟩ ?_;show eW (H:=tupH l xs _) (T := "tuple_iterator") S k ⟨rfl,s!"d"⟩ (λh=>?_) (λ{_ _ s _ _ _ _} S _ H k=>?_) (λS _ H k=>?_) (λH k=>?_) (λH k t=>?_) ⟨_,rfl⟩ rfl λkp g=>⟨0,⟨_,g,rfl,rfl⟩,rfl,ol,vs,n,kp _ _ e,ec,ed,rs.keep (ay kp)⟩
 ·show ex1 h λi z=>ex1 z.1 λo z=>⟨o,z.1,z.2.1,_,z.2.2⟩
 ·show ex1 H λi z=>an3 z λhit he z=>ex3 z λol vs n z=>an4 z λe ec ed rs=>?_;show an2 (g6 he) λhx hr=>ex1 (rs.get hx) λval z=>an2 z λhv r=>?_;show wpAny_pyNext_tuple_item hit ⟨_,e,ec,_,ed⟩ (by simpa using hv) λh' hit' hsb=>k val h' _ hsb.extBut λkt=>⟨r.keep kt,i+1,hit',hr,ol,vs,n,hsb.extBut l ol (λq=>ex1 hit λo z=>absurd (ec.symm.trans ((congrArg Obj.cls (Option.some.inj (e.symm.trans ((congrArg s.heap.get? q).trans z.1)))).trans z.2.1)) λq=>absurd (Value.type.inj q) s!"d") e,ec,ed,rs.keep kt⟩
 ·show ex1 H λi z=>an3 z λhit he z=>ex3 z λol vs n z=>an4 z λe ec ed rs=>?_;show wpAny_pyNext_tuple_end (S.ok.hd cm) hit ⟨_,e,ec,_,ed⟩ (by simpa [rs.length] using jD he) k
 ·show ex1 H λi z=>wpAny_pyIter_tupleiter z.1 k
 ·show ex1 H λi z=>an3 z λy he z=>ex1 y λo y=>ex3 z λol vs n z=>an4 z λe ec ed rs=>?_;show ex1 (t l ol e ec ⟨_,_,ed⟩) λol' z=>⟨i,⟨o,k o y.1,y.2⟩,he,ol',vs,n,z.1,z.2.1,z.2.2.trans ed,rs.keep t⟩
noncomputable def nums:Int->Nat->List AB
 | _,0=>[]
 | i,n+1=>.int i::nums (i+1) n
abbrev uy (it:Addr):BX:=λh items=>∃ (x:Int) (n:Nat),IsRangeIter h it x n 1/\items=nums x n
theorem rh {n:Nat}{P:Value->Shared->Prop} (S:St c V U s.heap) (cm:c.calm=true)
  (k:∀ (K:Bl c target) s',K.need=(λ_=>True)->St c V U s'.heap->AE c U s U s'->K.Off U s'.heap->K.holds s'.heap (nums i n)->(∀ b∈K.ads,s.heap.get? b=none)->P (.ref K.it) s') :
  P (.ref s.heap.objs.size) { s with heap:=s.heap.push { cls:=.type "range_iterator",data:=.fields #[rawInt i,rawInt (n:Int),rawInt 1] },toks:=t }:=by
 show eW (H:=uy _) S k (T := "range_iterator") ⟨rfl,s!"d"⟩ (λh=>?_) (λS _ H k=>?_) (λS _ H k=>?_) (λH k=>?_) (λH k t=>?_) ⟨_,rfl⟩ rfl λ_ g=>⟨i,n,g,rfl⟩
 ·show ex2 h λx n z=>⟨_,z.1,rfl,_,rfl⟩
 ·show ex2 H λx n z=>an2 z λhit he=>?_;cases n with
  | zero=>cases he
  | succ n =>
   cases he;show wpAny_pyNext_range_item hit s!"o" λh' hit' hsb=>k _ h' _ hsb.extBut λ_=>⟨.int x _,x+1,n,(by have:=hit';simpa using this),rfl⟩
 ·show ex2 H λx n z=>an2 z λhit he=>?_;cases n with
  | succ n=>cases he
  | zero=>show wpAny_pyNext_range_end (S.ok.hd cm) hit s!"s" k
 ·show ex2 H λx n z=>wpAny_pyIter_rangeiter z.1 k
 ·show ex2 H λx n z=>⟨x,n,k _ z.1,z.2⟩
noncomputable def qe (x:List Nat):List AB:=x.map λd=>.str ⟨#[d]⟩
abbrev strH (x:Str) (T:String) (it:Addr):BX:=λh items=>∃ t i,h.IsStrIter it T x t i/\items=qe (x.cps.toList.drop i)
theorem qf {x:Str}{tk:Nat}{P:Value->Shared->Prop} (S:St c V U s.heap) (cm:c.calm=true)
  (k:∀ (K:Bl c target) s',K.need=(λ_=>True)->St c V U s'.heap->AE c U s U s'->K.Off U s'.heap->K.holds s'.heap (qe x.cps.toList)->(∀ b∈K.ads,s.heap.get? b=none)->P (.ref K.it) s') (hT:B2 T)
  (w:∀ {s:Shared}{it:Addr}{t:Tok}{i d:Nat}{Q:Option Value->Shared->Prop}{E:Value->Shared->Prop},s.heap.IsStrIter it T x t i->x.cps[i]?=some d->(∀ h',h'.IsStrIter it T x t (i+1)->Heap.SameBut it s.heap h'->Q (some (.str ⟨#[d]⟩ s.toks)) { s with heap:=h',toks:=s.toks+1 })->wpAny (model c.prog c.w) c.A (pyNext (.ref it)) Q E s)
  (w2:∀ {s:Shared}{it:Addr}{t:Tok}{i:Nat}{Q:Option Value->Shared->Prop}{E:Value->Shared->Prop},c.A.handled=none->s.heap.IsStrIter it T x t i->x.cps[i]?=none->(∀ h',Heap.ExtBut it s.heap h'->Q none { s with heap:=h' })->wpAny (model c.prog c.w) c.A (pyNext (.ref it)) Q E s)
  (w3:∀ {s:Shared}{it:Addr}{t:Tok}{i:Nat}{Q:Value->Shared->Prop}{E:Value->Shared->Prop},s.heap.IsStrIter it T x t i->Q (.ref it) s->wpAny (model c.prog c.w) c.A (pyIter (.ref it)) Q E s) :
  P (.ref s.heap.objs.size) { s with heap:=s.heap.push { cls:=.type T,data:=.fields #[.str x tk,.int 0 0] },toks:=t }:=by
 show eW (H:=strH x T _) S k hT (λh=>?_) (λS _ H k=>?_) (λS _ H k=>?_) (λH k=>?_) (λH k t=>?_) ⟨_,rfl⟩ rfl λ_ g=>⟨tk,0,⟨_,g,rfl,rfl⟩,rfl⟩
 ·show ex2 h λt i z=>ex1 z.1 λo z=>⟨o,z.1,z.2.1,_,z.2.2⟩
 ·show ex2 H λt i z=>an2 z λhit he=>?_;cases hz:x.cps.toList.drop i with
  | nil=>rw [hz] at he;cases he
  | cons d r =>
   rw [hz] at he;cases he;show an2 (g6 hz.symm) λhx hr=>?_;show w hit (by simpa using hx) λh' hit' hsb=>k _ h' _ hsb.extBut λ_=>⟨.str _ _,t,i+1,hit',congrArg qe hr⟩
 ·show ex2 H λt i z=>an2 z λhit he=>?_;cases hz:x.cps.toList.drop i with
  | cons d r=>rw [hz] at he;cases he
  | nil=>show w2 (S.ok.hd cm) hit (by simpa using jD hz.symm) k
 ·show ex2 H λt i z=>w3 z.1 k
 ·show ex2 H λt i z=>ex1 z.1 λo y=>⟨t,i,⟨o,k o y.1,y.2⟩,z.2⟩
theorem sB {x:Str} (cm:autoParam (c.calm=true) aM):Bb c target (.str x) (qe x.cps.toList) (λ_=>True) U:=λV s v P E S r k=>by
 apply r.str';intro t;cases ha:x.cps.all (· < 128) with
 | true=>show wpAny_pyIter_ascii ha (qf S cm k ⟨rfl,s!"d"⟩ wpAny_pyNext_ascii_item wpAny_pyNext_ascii_end wpAny_pyIter_striter_ascii)
 | false=>show wpAny_pyIter_wide ha (qf S cm k ⟨rfl,s!"d"⟩ wpAny_pyNext_wide_item wpAny_pyNext_wide_end wpAny_pyIter_striter_wide)
end
inductive AJ (V:List NV):List (Str × NameKind)->List NV->Prop
 | nil:AJ V [] []
 | loc {x:Str}{ns:List (Str × NameKind)}{r:List NV}:AJ V ns r->AJ V ((x,.local)::ns) (⟨x,.local,none⟩::r)
 | glob {x:Str}{ns:List (Str × NameKind)}{r:List NV}:AJ V ns r->AJ V ((x,.globalImplicit)::ns) (⟨x,.globalImplicit,none⟩::r)
 | free {x:Str}{a:Option AB}{ns:List (Str × NameKind)}{r:List NV}:(⟨x,.cell,a⟩:NV)∈V->AJ V ns r->AJ V ((x,.free)::ns) (⟨x,.cell,a⟩::r)
noncomputable def Cx.comp (c:Cx) (scope:Scope) (cl:List (Str × Addr)) (C:Addr):Cx:={ c with env:=compEnvC scope cl C c.env,own:=[C],fn:=false }
theorem Cx.cmP (h:c.calm=true):(c.comp scope cl C).calm=true:=h
section
variable {c:Cx}{V V':List NV}{U U0 U1 U' Y:AA}{h h' B:Heap}{s s₀ s₁ s':Shared}{Q:AB->AA->Prop}{X:AC->AA->Prop}
noncomputable def aE (env:Env) (ns:List (Str × NameKind)) (acc:List (Str × Addr)):List (Str × Addr) :=
 ns.foldl (λacc x=>if x.2 == .free then (x.1,(env.cells.lookup x.1).getD 0)::acc else acc) acc
theorem lZ :∀ (ns:List (Str × NameKind)) (acc:List (Str × Addr)),(∀ x∈ns,x.2=.free->(env.cells.lookup x.1).isSome) ->
  (forIn ns acc (λx r=>(if (x.2 == NameKind.free)=true then (do let y <- cellOf env x.1;pure (ForInStep.yield ((x.1,y)::r))) else pure (ForInStep.yield r):Sem (ForInStep (List (Str × Addr))))))=(pure (aE env ns acc):Sem _):=by
 intro ns
 induction ns with
 | nil =>
  intro acc _;show rfl
 | cons x__ ns ih =>
  obtain ⟨n,k⟩:=x__;intro acc h;rw [EB];have ih:=λacc=>ih acc λx hx=>h x (.tail _ hx);by_cases hk:k=.free
  ·subst hk;have hs:=h (n,.free) Zh rfl;obtain ⟨a,ha⟩:=Option.isSome_iff_exists.mp hs;simp only [beq_self_eq_true,if_true,cellOf,ha];have:=ih ((n,a)::acc);rw [show aE env ((n,.free)::ns) acc=aE env ns ((n,a)::acc) from by change aE env ns ((n,(env.cells.lookup n).getD 0)::acc)=_;rw [ha];rfl];show this
  ·have hb:(k == NameKind.free)=false:=by simpa using hk
   simp only [hb,Bool.false_eq_true,if_false];have:=ih acc;rw [show aE env ((n,k)::ns) acc=aE env ns acc from by change aE env ns (if (k == NameKind.free)=true then _ else acc)=_;rw [hb];rfl];show this
theorem dq (h:∀ x∈scope.names,x.2=.free->(env.cells.lookup x.1).isSome):closureFor scope env=pure (aE env scope.names []):=by
 have:=lZ scope.names [] h;unfold closureFor;show Eq.trans ?_ (congrArg (λt=>t >>= λr=>pure r) this);rfl
theorem kA :∀ {ns:List (Str × NameKind)}{acc:List (Str × Addr)}{y:Str × Addr},y∈aE env ns acc->(∀ x∈ns,x.2=.free->(env.cells.lookup x.1).isSome)->y∈acc\/(env.cells.lookup y.1=some y.2/\(y.1,.free)∈ns):=by
 intro ns
 induction ns with
 | nil =>
  intro acc y h _;show .inl h
 | cons x__ ns ih =>
  obtain ⟨n,k⟩:=x__;intro acc y h hh;have h:y∈aE env ns (if k == .free then (n,(env.cells.lookup n).getD 0)::acc else acc):=h;rcases ih h λx hx=>hh x (.tail _ hx) with h | ⟨h1,h2⟩
  ·by_cases hk:k=.free
   ·subst hk;simp only [beq_self_eq_true,if_true] at h;rcases ZC h with rfl | h
    ·obtain ⟨a,ha⟩:=Option.isSome_iff_exists.mp (hh (n,.free) Zh rfl);show .inr ⟨by simp [ha],.head _⟩
    ·show .inl h
   ·have hb:(k == NameKind.free)=false:=by simpa using hk
    rw [hb] at h;show .inl h
  ·show .inr ⟨h1,.tail _ h2⟩
theorem jk :∀ {ns:List (Str × NameKind)}{acc:List (Str × Addr)}{y:Str × Addr},y∈acc->y∈aE env ns acc:=by
 intro ns
 induction ns with
 | nil =>
  intro acc y h;show h
 | cons x__ ns ih =>
  obtain ⟨n,k⟩:=x__;intro acc y h;change y∈aE env ns (if k == .free then (n,(env.cells.lookup n).getD 0)::acc else acc);show ih ?_;split
  ·show .tail _ h
  ·show h
theorem dw :∀ {ns:List (Str × NameKind)}{acc:List (Str × Addr)}{x:Str},(x,.free)∈ns->∃ a,(x,a)∈aE env ns acc
 | (n,k)::ns,acc,x,h=>by
  change ∃ a,(x,a)∈aE env ns (if k == .free then (n,(env.cells.lookup n).getD 0)::acc else acc);rcases ZC h with e | h
  ·cases e;show ⟨_,jk (by simp only [beq_self_eq_true,if_true];show .head _)⟩
  ·show dw h
theorem iD :∀ {ns:List (Str × NameKind)}{acc:List (Str × Addr)},(ns.map (·.1)).Nodup->(acc.map (·.1)).Nodup->(∀ x∈ns,x.1∉acc.map (·.1))->((aE env ns acc).map (·.1)).Nodup:=by
 intro ns
 induction ns with
 | nil =>
  intro _ _ h _;show h
 | cons x__ ns ih =>
  obtain ⟨n,k⟩:=x__;intro acc hn ha hx;change ((aE env ns (if k == .free then (n,(env.cells.lookup n).getD 0)::acc else acc)).map (·.1)).Nodup;rw [E5,E6] at hn;show ih hn.2 ?_ λx hm=>?_
  ·split
   ·rw [E5,E6];show ⟨hx _ Zh,ha⟩
   ·show ha
  ·split
   ·rw [E5,EC];rintro (e | e)
    ·show hn.1 (e ▸ E7 (f:=(·.1)) hm)
    ·show hx x (.tail _ hm) e
   ·show hx x (.tail _ hm)
theorem dK {l:List (Str × α)}{x:Str}{a:α} (n:(l.map (·.1)).Nodup) (m:(x,a)∈l):l.lookup x=some a:=aF n m
theorem AJ.frees {ns:List (Str × NameKind)} (n:AJ V ns V'):∀ x∈ns,x.2=.free->∃ a,(⟨x.1,.cell,a⟩:NV)∈V:=by
 induction n with
 | nil=>intro x h;cases h
 | loc _ ih=>intro x h e;rcases ZC h with rfl | h;cases e;show ih x h e
 | glob _ ih=>intro x h e;rcases ZC h with rfl | h;cases e;show ih x h e
 | free m _ ih=>intro x h e;rcases ZC h with rfl | h;show ⟨_,m⟩;show ih x h e
theorem AJ.noCell {ns:List (Str × NameKind)} (n:AJ V ns V'):∀ x∈ns,x.2≠.cell:=by
 induction n with
 | nil=>intro x h;cases h
 | loc _ ih | glob _ ih | free _ _ ih =>
  intro x h;rcases ZC h with rfl | h
  ·intro q;cases q
  ·show ih x h
theorem AJ.names {ns:List (Str × NameKind)} (n:AJ V ns V') (S:St c V U h) (kf:c.env.scope.kind=.function) :
  V'.map (λe=>(e.name,e.kind))=ns.map λ(n,k)=>if (k == .free && c.env.scope.kind == .function && c.env.kindOf n == some .cell) then (n,.cell) else (n,k):=by
 induction n with
 | nil=>rfl
 | loc _ ih=>rw [E5,E5,ih];rfl
 | glob _ ih=>rw [E5,E5,ih];rfl
 | free m _ ih =>
  rw [E5,E5,ih];have:=S.kindOf m;simp only at this;simp [this,kf]
theorem AJ.from_ {ns:List (Str × NameKind)} (n:AJ V ns V'):∀ e∈V',(e.kind=.local/\e.val=none/\(e.name,.local)∈ns)\/(e.kind=.globalImplicit/\e.val=none)\/(e.kind=.cell/\e∈V/\(e.name,.free)∈ns):=by
 induction n with
 | nil=>intro x h;cases h
 | loc _ ih =>
  intro e h;rcases ZC h with rfl | h
  ·show .inl ⟨rfl,rfl,.head _⟩
  ·rcases ih e h with ⟨a,b,d⟩ | h | ⟨a,b,d⟩
   ·show .inl ⟨a,b,.tail _ d⟩
   ·show .inr (.inl h)
   ·show .inr (.inr ⟨a,b,.tail _ d⟩)
 | glob _ ih =>
  intro e h;rcases ZC h with rfl | h
  ·show .inr (.inl ⟨rfl,rfl⟩)
  ·rcases ih e h with ⟨a,b,d⟩ | h | ⟨a,b,d⟩
   ·show .inl ⟨a,b,.tail _ d⟩
   ·show .inr (.inl h)
   ·show .inr (.inr ⟨a,b,.tail _ d⟩)
 | free m _ ih =>
  intro e h;rcases ZC h with rfl | h
  ·show .inr (.inr ⟨rfl,m,.head _⟩)
  ·rcases ih e h with ⟨a,b,d⟩ | h | ⟨a,b,d⟩
   ·show .inl ⟨a,b,.tail _ d⟩
   ·show .inr (.inl h)
   ·show .inr (.inr ⟨a,b,.tail _ d⟩)
structure A6 (scope:Scope):Prop where
 kind:scope.kind=.function
 nodup:(scope.names.map (·.1)).Nodup
 tame:scope.names.all (λn=>n.1 != ("__debug__" : Str) && n.1 != ("__classdict__" : Str))=true
theorem St.comp (S:St c V U h) (hf:c.fn=true) (n:AJ V scope.names V') (ok:A6 scope) (hl:∃ m,h.Ns C m) (hG:c.G.get? C=none) (hx:U C=none/\C∉c.frames/\∀ x∈c.env.cells,x.2≠C) :
  St (c.comp scope (aE c.env scope.names []) C) V' U h:=by
 have kf:c.env.scope.kind=.function:=S.ok.kind;have hs:∀ x∈scope.names,x.2=.free->(c.env.cells.lookup x.1).isSome:=λx hx e=>by
  obtain ⟨a,m⟩:=n.frees x hx e;obtain ⟨b,hb⟩:=S.ok.cellsOf (x.1,.cell) (S.names ▸ E7 (f:=λe:NV=>(e.name,e.kind)) m) rfl;rw [hb];rfl
 have hm:∀ y∈aE c.env scope.names [],c.env.cells.lookup y.1=some y.2/\(y.1,.free)∈scope.names:=λy hy=>(kA hy hs).resolve_left s!"s";have nd:=iD (env:=c.env) (acc:=[]) ok.nodup s!"s" s!"s";have names':=n.names S kf;have nm:(relabel scope c.env).names=V'.map (λe=>(e.name,e.kind)):=names'.symm;have k1:((relabel scope c.env).names.map (·.1))=scope.names.map (·.1):=by
  change (scope.names.map _).map _=_;rw [E9];show ED λx _=>?_;obtain ⟨a,b⟩:=x;simp only [Function.comp];split<;>rfl
 have lk:∀ x,(x,NameKind.free)∈scope.names->(aE c.env scope.names []).lookup x=c.env.cells.lookup x:=λx hx=>by
  obtain ⟨a,ha⟩:=dw (env:=c.env) (acc:=[]) hx;rw [dK nd ha,(hm _ ha).1]
 show ⟨⟨S.ok.fr,S.ok.hd,S.ok.gd,S.ok.depth,S.ok.units,ok.kind,S.ok.glob,S.ok.blt,S.ok.KG,S.ok.lim,S.ok.bg,S.ok.sm,.head _,?_,λx hx'=>?_,λx hx' e=>?_,λz=>?_,λz=>?_,?_,?_⟩,S.base,S.frames,nm.symm,hl,λx hx'=>?_,λe he a ha=>?_,S.obj,λa o e=>?_,λb hb=>?_⟩
 ·
  change ((aE c.env scope.names []).map (·.2)).Nodup
  have:∀ l:List (Str × Addr),(l.map (·.1)).Nodup->(∀ y∈l,c.env.cells.lookup y.1=some y.2)->(l.map (·.2)).Nodup:=by
   intro l
   induction l with
   | nil=>intro _ _;simp
   | cons y l ih =>
    intro n1 n2;rw [E5,E6] at n1 ⊢;show ⟨λq=>?_,ih n1.2 λz hz=>n2 z (.tail _ hz)⟩;obtain ⟨z⟩|⟨hz,e⟩:=(ZM q)
    have hne:y.1≠z.1:=λe=>n1.1 (e ▸ E7 (f:=(·.1)) hz);show jo S.ok.cells (n2 y Zh) (n2 z (.tail _ hz)) hne e.symm
  show this _ nd λy hy=>(hm y hy).1
 ·show hx.2.2 _ (mem_of_lookup (hm x hx').1)
 ·have hx':x∈V'.map (λe=>(e.name,e.kind)):=nm ▸ hx';obtain ⟨e'⟩|⟨he',rfl⟩:=(ZM hx')
  rcases n.from_ e' he' with ⟨q,_⟩ | ⟨q,_⟩ | ⟨_,_,q⟩
  ·rw [q] at e;cases e
  ·rw [q] at e;cases e
  ·obtain ⟨a,ha⟩:=dw (env:=c.env) (acc:=[]) q;show ⟨a,dK nd ha⟩
 ·cases z
 ·cases z
 ·change ((relabel scope c.env).names.map (·.1)).Nodup;rw [k1];show ok.nodup
 ·have:(relabel scope c.env).names.all (λn=>n.1 != ("__debug__" : Str) && n.1 != ("__classdict__" : Str))=((relabel scope c.env).names.map (·.1)).all (λn=>n != ("__debug__" : Str) && n != ("__classdict__" : Str)):=by rw [EE];rfl
  have t2:scope.names.all (λn=>n.1 != ("__debug__" : Str) && n.1 != ("__classdict__" : Str))=(scope.names.map (·.1)).all (λn=>n != ("__debug__" : Str) && n != ("__classdict__" : Str)):=by rw [EE];rfl
  change (relabel scope c.env).names.all _=true;rw [this,k1,<- t2];show ok.tame
 ·show S.cellsAt _ (mem_of_lookup (hm x hx').1)
 ·rcases n.from_ e he with ⟨_,q,_⟩ | ⟨_,q⟩ | ⟨q1,q2,q3⟩
  ·rw [q] at ha;cases ha
  ·rw [q] at ha;cases ha
  ·obtain ⟨v⟩|⟨y,r⟩:=(S.vars e q2 a ha)
   show ⟨v,?_,r⟩;rw [q1] at y ⊢;obtain ⟨b⟩|⟨hb,y⟩:=y;show ⟨b,(lk _ q3).trans hb,y⟩
 ·show an4 (S.off a o e) λq1 q2 q3 q4=>?_;show ⟨q1,λz=>?_,q3,λx hx'=>q4 _ (mem_of_lookup (hm x hx').1)⟩;have z:a∈[C]:=z;rw [ZS z,hx.1] at e;cases e
 ·have hb:b∈[C]:=hb;rw [ZS hb];obtain ⟨m,o,es,ep⟩|⟨ho,hd,_⟩:=hl;show ⟨hG,o,ho,λxs n q=>by rw [hd] at q;cases q⟩
end
section
variable {c:Cx}{V V':List NV}{U U0 U1 U' Y:AA}{h h' B:Heap}{s s₀ s₁ s':Shared}{Q:AB->AA->Prop}{X:AC->AA->Prop}
theorem oF {a:Addr}{m:Str->Option Value} (n:h.Ns a m) (k:∀ o,h.get? a=some o->∃ sl,h'.get? a=some { o with slots:=sl }):h'.Ns a m:=by
 obtain ⟨o,es,ep⟩|⟨ho,r⟩:=n;obtain ⟨sl,e⟩:=k o ho;show ⟨_,es,ep,e,r⟩
theorem f6 {a:Addr}{v:Option Value} (n:h.IsCell a v) (k:∀ o,h.get? a=some o->∃ sl,h'.get? a=some { o with slots:=sl }):h'.IsCell a v:=by
 obtain ⟨o⟩|⟨ho,r⟩:=n;obtain ⟨sl,e⟩:=k o ho;show ⟨_,e,r⟩
theorem St.back (S:St c V U h) (t:AH h h') (kept:∀ b o,(b∈c.own\/∃ x∈c.env.cells,b=x.2)->h.get? b=some o->∃ sl,h'.get? b=some { o with slots:=sl })
  (off':∀ a o,U' a=some o->c.G.get? a=none/\a∉c.own/\a∉c.frames/\∀ x∈c.env.cells,a≠x.2) (base':c.G.StaysIn h') (fr':h'.FunFrames c.G (c.fenv::c.outer))
  (obj':∀ a o,U' a=some o->OR c.prog c.w h' a o):St c V U' h' where
 ok:=S.ok
 base:=base'
 frames:=fr'
 names:=S.names
 locs:=let ⟨m,n⟩:=S.locs;⟨m,oF n λo e=>kept _ o (.inl S.ok.locIn) e⟩
 cellsAt x hx:=let ⟨v,n⟩:=S.cellsAt x hx;⟨v,f6 n λo e=>kept _ o (.inr ⟨x,hx,rfl⟩) e⟩
 vars e he a ha:=by
  obtain ⟨v⟩|⟨y,r⟩:=(S.vars e he a ha)
  show ⟨v,?_,r.keep t⟩;revert y;cases e.kind with
  | «local»=>intro r1z;show ex1 r1z λm h4z=>?_;(try clear r1z);show an2 h4z λn q=>?_;clear h4z;show ⟨m,oF n λo e=>kept _ o (.inl S.ok.locIn) e,q⟩
  | cell=>intro r2z;show ex1 r2z λb h5z=>?_;(try clear r2z);show an2 h5z λl y=>?_;clear h5z;show ⟨b,l,f6 y λo e=>kept _ o (.inr ⟨_,mem_of_lookup l,rfl⟩) e⟩
  | free=>intro r3z;show ex1 r3z λb h6z=>?_;(try clear r3z);show an2 h6z λl y=>?_;clear h6z;show ⟨b,l,f6 y λo e=>kept _ o (.inr ⟨_,mem_of_lookup l,rfl⟩) e⟩
  | _=>intro y;show y.elim
 obj:=obj'
 off:=off'
 ownNew b hb:=by
  obtain ⟨g,o,e,n⟩:=S.ownNew b hb;obtain ⟨sl,e'⟩:=kept b o (.inl hb) e;show ⟨g,_,e',n⟩
theorem lS {A:Around}{R:Result->Shared->Prop}{target:Expr}{it acc:Value} (I:Nat->Shared->Prop)
  (turn:∀ n s,I n s->wpAny (model prog w) A (pyNext it) (λr s₁=>match r with
   | none=>R (.ok .next) s₁
   | some v=>wpAny (model prog w) A (letOwnedTupleGo target it v) (λ_ s₁=>wpAny (model prog w) A (assign target env v) (λ_ s₂ =>
     wpAny (model prog w) A (forIn ifs true λc r=>if r=true then do let ok <- isTrue c env (eval c env);pure (ForInStep.yield ok) else pure (ForInStep.yield r)) (λok s₃ =>
      if ok=true then wpAny (model prog w) A (eval elt env) (λx s₄ =>
       wpAny (model prog w) A (call (.builtin "list.append") [acc,x]) (λ_ s₅=>∃ m,m < n/\I m s₅) (notedBy (model prog w) A env λe s'=>R (.error e) s') s₄) (notedBy (model prog w) A env λe s'=>R (.error e) s') s₃
      else ∃ m,m < n/\I m s₃) (notedBy (model prog w) A env λe s'=>R (.error e) s') s₂) (notedBy (model prog w) A env λe s'=>R (.error e) s') s₁) (notedBy (model prog w) A env λe s'=>R (.error e) s') s₁) (notedBy (model prog w) A env λe s'=>R (.error e) s') s)
  (n:Nat) (h:I n s):codeAny (model prog w) A (.compLoop (.ListComp elt [⟨target,iter,ifs,0⟩] scope pos) 0 it acc env) R s:=by
 show codeAny_loop rfl I (λn s hI=>?_) n h;change wpAny _ A ((compTurn (.ListComp elt [⟨target,iter,ifs,0⟩] scope pos) 0 it acc env).onRaise (λx=>do noteFrame x env;theTreesLotGoes x)) _ _ s;show wpAny_noted ?_;rw [compTurn_list];show Zb (wpAny_standAt (Zb (Zm (turn n s hI) (λr s₁ h₁=>?_) λ_ _ h'=>h')));cases r with
 | none=>show Zp h₁
 | some v =>
  show Zb (Zm h₁ (λ_ s₁ h₁=>?_) λ_ _ h'=>h');show Zb (Zm h₁ (λ_ s₂ h₂=>Zb (Zm h₂ (λok s₃ h₃=>?_) λ_ _ h'=>h')) λ_ _ h'=>h');cases ok with
  | false=>show Zp ⟨rfl,h₃⟩
  | true =>
   show Zb (Zb (Zm h₃ (λx s₄ h₄=>Zb (Zm h₄ (λ_ s₅ h₅=>Zp (Zp ⟨rfl,h₅⟩)) λ_ _ h'=>h')) λ_ _ h'=>h'))
abbrev Cv:AC->AA->Prop:=λ_ _=>False
abbrev CL:AC->List NV->AA->Prop:=λ_ _ _=>False
theorem AO.no (p:AO c V U s Cv v s'):False:=let ⟨_,_,_,_,_,_,_,q⟩:=p;q
theorem AS.no (p:AS c U s CL v s'):False:=let ⟨_,p⟩:=p;p.no
def Bp (c:Cx) (V:List NV) (ifs:List Expr) (U:AA) (Q:Bool->AA->Prop):Prop :=
 Go CU c V (forIn ifs true λe r=>if r=true then do let ok <- isTrue e c.env (eval e c.env);pure (ForInStep.yield ok) else pure (ForInStep.yield r)) U Q Cv
theorem dA {Q:Bool->AA->Prop} (q:Q true U):Bp c V [] U Q:=λs S=>wpAny_tests_nil (.here S rfl q)
theorem aT {t:Expr}{Q:Bool->AA->Prop} (g:Bn c V t U Q Cv):Bp c V [t] U Q:=λs S=>wpAny_tests_one (g s S)
def B5 (c:Cx) (V:List NV) (target:Expr) (ifs:List Expr) (elt:Expr) (I:List AB->List AB->AA->Prop):Prop :=
 ∀ v rest ys U,I (v::rest) ys U->BN c target v V U (λV₂ U2=>Bp c V₂ ifs U2 λb U3=>if b then Ev c V₂ elt U3 (λy U4=>I rest (ys++[y]) U4) Cv else I rest ys U3) CL
section
variable {scope:Scope}{C D:Addr}{target elt iter:Expr}{ifs:List Expr}{pos:Pos}{K:Bl c target}
theorem AE.ofComp (y:AE c U0 s₀ U s) (y':AE (c.comp scope cl C) U s U' s') (hC:s₀.heap.get? C=none):AE c U0 s₀ U' s':=by
 show ⟨λb o e q n=>?_,λb o e=>?_,λb o e q=>?_,y'.gens.trans y.gens,y'.os.trans y.os⟩
 ·obtain ⟨sl⟩|⟨e',f⟩:=(y.kept b o e q n)
  show ex1 (y'.kept b _ e' (y.grow b o e q) (λz=>by
   have z:b∈[C]:=z
   rw [ZS z,hC] at e;cases e)) λsl' h8z=>?_
  show an2 h8z λe'' f'=>?_;clear h8z;show ⟨sl',e'',λz=>(f' z).trans (f z)⟩
 ·obtain ⟨o',e'⟩:=y.there b o e;show y'.there b o' e'
 ·obtain ⟨o',e'⟩:=y.there b o e;show y'.grow b o' e' (y.grow b o e q)
theorem oY {R:Result->Shared->Prop} (hf:c.fn=true) (n:AJ V scope.names V') (ok:A6 scope) (I:List AB->List AB->AA->Prop)
  (hn:∀ r ys U,I r ys U->K.need U) (turn:∀ cl C,B5 (c.comp scope cl C) V' target ifs elt I)
  (items:List AB) (hsz:items.length<=sizeLine) (S:St c V U s.heap) (O:K.Off U s.heap) (H:K.holds s.heap items) (hi:I items [] U) (y:AE c U0 s₀ U s) (nK:∀ b∈K.ads,s₀.heap.get? b=none)
  (hC:s₀.heap.get? C=none) (hD:s₀.heap.get? D=none) (fC:U C=none/\c.G.get? C=none/\C∉c.own/\C∉c.frames/\∀ x∈c.env.cells,C≠x.2) (fD:U D=none/\c.G.get? D=none/\D∉c.own/\D∉c.frames/\∀ x∈c.env.cells,D≠x.2)
  (hCD:C≠D) (hCK:C∉K.ads) (hDK:D∉K.ads) (nC:∃ m,s.heap.Ns C m) (lD:s.heap.PlainList D #[])
  (hR:∀ s' U' ys (vs:List Value) m,St c V U' s'.heap->AE c U0 s₀ U' s'->I [] ys U'->s'.heap.PlainList D vs.toArray->AW s'.heap vs ys->s'.heap.Ns C m->U' D=none->U' C=none->R (.ok .next) s') :
  codeAny (model c.prog c.w) c.A (.compLoop (.ListComp elt [⟨target,iter,ifs,0⟩] scope pos) 0 (.ref K.it) (.ref D) (c.comp scope (aE c.env scope.names []) C).env) R s:=by
 let JJ:=λ(m:Nat) (s':Shared)=>∃ U1 its ys,∃ vs:List Value,St c V U1 s'.heap/\K.Off U1 s'.heap/\K.holds s'.heap its/\I its ys U1/\AE c U0 s₀ U1 s'/\its.length=m/\ys.length+its.length<=items.length/\s'.heap.PlainList D vs.toArray/\AW s'.heap vs ys/\(∃ m,s'.heap.Ns C m)/\U1 C=none/\U1 D=none
 show lS JJ (λm s' h=>?_) items.length ⟨U,items,[],[],S,O,H,hi,y,rfl,s!"s",lD,.nil,nC,fC.1,fD.1⟩;obtain ⟨U1,its,ys,vs⟩|⟨SA,O1,H1,i₁,yB,rfl,hl,lD1,rD,nC1,zC,zD⟩:=h;have CD:C≠D:=hCD;cases its with
 | nil =>
  show K.stop SA (hn _ _ _ i₁) H1 λh' t k=>?_;obtain ⟨m,nC1⟩:=nC1;show hR _ U1 ys vs m (SA.advance O1 k) (yB.advance O1 nK k) i₁ (lD1.at λo e=>k D o hDK e) (rD.keep (eN O1 k)) (nC1.at' λo e=>k C o hCK e) zD zC
 | cons v rest =>
  show K.next SA (hn _ _ _ i₁) H1 λval h' t r H' k ka=>?_;have SB:St c V U1 h':=SA.advance O1 k;have yC:AE c U0 s₀ U1 { s' with heap:=h',toks:=t }:=yB.advance O1 nK k;have O2:K.Off U1 h':=⟨O1.sig,ka⟩
  have lD2:=lD1.at λo e=>k D o hDK e;have rD2:=rD.keep (eN O1 k);have nC2:∃ m,h'.Ns C m:=let ⟨m,q⟩:=nC1;⟨m,q.at' λo e=>k C o hCK e⟩;have S2':=SB.comp hf n ok nC2 fC.2.1 ⟨zC,fC.2.2.2.1,λx hx=>(fC.2.2.2.2 x hx).symm⟩;have back:∀ (U3:AA) (V3:List NV) (s₃:Shared),St (c.comp scope (aE c.env scope.names []) C) V3 U3 s₃.heap->AE (c.comp scope (aE c.env scope.names []) C) U1 { s' with heap:=h',toks:=t } U3 s₃ ->
    St c V U3 s₃.heap/\K.Off U3 s₃.heap/\K.holds s₃.heap rest/\AE c U0 s₀ U3 s₃/\s₃.heap.PlainList D vs.toArray/\AW s₃.heap vs ys/\(∃ m,s₃.heap.Ns C m)/\U3 C=none/\U3 D=none:=by
   intro U3 V3 s₃ S3 y3;have t₃:=y3.tup S2';have kp:∀ b o,b≠C->h'.get? b=some o->U1 b=none->∃ sl,s₃.heap.get? b=some { o with slots:=sl }:=λb o nb e q=>by
    obtain ⟨sl⟩|⟨e',_⟩:=(y3.kept b o e q (by change b∉[C];simpa using nb))
    show ⟨sl,e'⟩
   have oldNone:∀ b o,h'.get? b=some o->U1 b=none->U3 b=none:=λb o e q=>y3.grow b o e q;have own1:∀ b,b∈c.own->U1 b=none:=λb hb=>by
    cases q:U1 b with
    | none=>rfl
    | some o=>show absurd hb (SB.off b o q).2.1
   have cell1:∀ x∈c.env.cells,U1 x.2=none:=λx hx=>by
    cases q:U1 x.2 with
    | none=>rfl
    | some o=>show absurd rfl ((SB.off _ o q).2.2.2 x hx)
   have back1:St c V U3 s₃.heap:=by
    show SB.back t₃ (λb o hb e=>?_) (λa o q=>?_) S3.base S3.frames S3.obj
    ·rcases hb with hb | ⟨x,hx,rfl⟩
     ·show kp b o (λz=>fC.2.2.1 (z ▸ hb)) e (own1 b hb)
     ·show kp _ o (λz=>fC.2.2.2.2 x hx z.symm) e (cell1 x hx)
    ·show ⟨(S3.off a o q).1,λz=>?_,(S3.off a o q).2.2.1,λx hx z=>?_⟩
     ·obtain ⟨_,ob,e,_⟩:=SB.ownNew a z;rw [oldNone a ob e (own1 a z)] at q;cases q
     ·subst z;obtain ⟨v,ob⟩|⟨e,_⟩:=(SB.cellsAt x hx)
      rw [oldNone _ ob e (cell1 x hx)] at q;cases q
   have ex:∀ b o,b≠C->b∉c.frames->h'.get? b=some o->U1 b=none->s₃.heap.get? b=some o:=λb o nb nf e q=>y3.exact e q (by change b∉[C];simpa using nb) nf;have hDo:∃ o,h'.get? D=some o:=let ⟨n,e⟩:=lD2;⟨_,e⟩;have hCo:∃ o,h'.get? C=some o:=let ⟨m,o,_,_,e,_⟩:=nC2;⟨o,e⟩;show ⟨back1,⟨λb hb=>?_,λb hb=>?_⟩,?_,yC.ofComp y3 hC,lD2.at λo e=>ex D o CD.symm fD.2.2.2.1 e zD,rD2.keep t₃,S3.locs,?_,?_⟩
   ·obtain ⟨o⟩|⟨e,_⟩:=(O2.at_ b hb)
    show ⟨oldNone b o e (O2.sig b hb).1,(O2.sig b hb).2⟩
   ·obtain ⟨o⟩|⟨e,nn⟩:=(O2.at_ b hb)
    show ⟨o,ex b o (λz=>hCK (z ▸ hb)) (O2.sig b hb).2.2.2.1 e (O2.sig b hb).1,nn⟩
   ·show K.keep H' (λb hb o e=>ex b o (λz=>hCK (z ▸ hb)) (O2.sig b hb).2.2.2.1 e (O2.sig b hb).1) t₃
   ·obtain ⟨o,e⟩:=hCo;show oldNone C o e zC
   ·obtain ⟨o,e⟩:=hDo;show oldNone D o e zD
  show Zm (turn _ C v rest ys U1 i₁ val { s' with heap:=h',toks:=t } r S2') (λ_ s₃ p=>?_) λ_ _ p=>p.no.elim;obtain ⟨V3,U3,S3,y3,g₃⟩:=p;show Zm (g₃ s₃ S3) (λb s₄ p=>?_) λ_ _ p=>p.no.elim;obtain ⟨b',U4,rfl,SD,yD,g₄⟩:=p;cases b with
  | false =>
   show an9 (back U4 V3 s₄ SD (y3.trans yD)) λa1 a2 a3 a4 a5 a6 a7 a8 a9=>?_;show ⟨rest.length,Nat.lt_succ_self _,U4,rest,ys,vs,a1,a2,a3,g₄,a4,rfl,by simp only [EF] at hl;left,a5,a6,a7,a8,a9⟩
  | true =>
   show Zm (g₄ s₄ SD) (λx s₅ p=>?_) λ_ _ p=>p.no.elim;obtain ⟨yv,U5,r₅,SE,yE,g₅⟩:=p;show an9 (back U5 V3 s₅ SE ((y3.trans yD).trans yE)) λa1 a2 a3 a4 a5 a6 a7 a8 a9=>?_;have hlen:=a6.length;show wpAny_list_append_plain (hsz:=by simp only [EF] at hl;rw [E8];left) a5 λh₆ l₆ hs=>?_;obtain ⟨n₅,eD⟩:=a5;have t₆:AH s₅.heap h₆:=aP hs.extBut eD λq=>by simp at q
   have S6:St c V U5 h₆:=a1.move (W:=λb=>b=D) (λb o nb e=>hs.extBut b o nb e) (λb z=>z ▸ fD.2.1) (λb hb z=>fD.2.2.1 (z ▸ hb)) (λb hb z=>fD.2.2.2.1 (z ▸ hb)) (λx hx z=>fD.2.2.2.2 x hx z.symm)
    (λb o e z=>by rw [z,a9] at e;cases e) t₆
   show ⟨rest.length,Nat.lt_succ_self _,U5,rest,ys++[yv],vs++[x],S6,⟨a2.sig,λb hb=>?_⟩,?_,g₅,?_,rfl,by simp only [EF,EG,EH] at hl ⊢;left,by simpa using l₆,(a6.append (.cons r₅ .nil)).keep t₆,?_,a8,a9⟩
   ·obtain ⟨o⟩|⟨e,nn⟩:=(a2.at_ b hb)
    show ⟨o,hs.extBut b o (λz=>hDK (z ▸ hb)) e,nn⟩
   ·show K.keep a3 (λb hb o e=>hs.extBut b o (λz=>hDK (z ▸ hb)) e) t₆
   ·show ⟨λb o e q nb=>?_,λb o e=>?_,a4.grow,a4.gens,a4.os⟩
    ·obtain ⟨sl⟩|⟨e',f⟩:=(a4.kept b o e q nb)
     show ⟨sl,hs.extBut b _ (λz=>by rw [z,hD] at e;cases e) e',f⟩
    ·obtain ⟨o',e'⟩:=a4.there b o e;show ⟨o',hs.extBut b _ (λz=>by rw [z,hD] at e;cases e) e'⟩
   ·obtain ⟨m,q⟩:=a7;show ⟨m,q.sameBut hs CD⟩
end
end
section
variable {c:Cx}{V V':List NV}{U U0 U1 U' Y:AA}{h h' B:Heap}{s s₀ s₁ s':Shared}{Q:AB->AA->Prop}{X:AC->AA->Prop}
variable {scope:Scope}{C D:Addr}{target elt iter:Expr}{ifs:List Expr}{pos:Pos}
theorem cV (y:AE c U0 s₀ U s)  (e:s.heap.get? b=none):s₀.heap.get? b=none:=by
 cases q:s₀.heap.get? b with
 | none=>rfl
 | some o=>obtain ⟨o',e'⟩:=y.there b o q;rw [e] at e';cases e'
theorem AE.tell (y:AE c U0 s₀ U s) (hD:s₀.heap.get? D=none):AE c U0 s₀ (U.set D ao) s :=
 ⟨y.kept,y.there,λb o e q=>by rw [Zn (by rintro rfl;rw [hD] at e;cases e)];show y.grow b o e q,y.gens,y.os⟩
theorem AE.later (y:AE c U0 s₀ U s) (k:∀ b o,b≠C->s.heap.get? b=some o->h'.get? b=some o) (hC:s₀.heap.get? C=none):AE c U0 s₀ U { s with heap:=h',toks:=t }:=by
 show ⟨λb o e q n=>?_,λb o e=>?_,y.grow,y.gens,y.os⟩
 ·obtain ⟨sl⟩|⟨e',f⟩:=(y.kept b o e q n)
  show ⟨sl,k b _ (by rintro rfl;rw [hC] at e;cases e) e',f⟩
 ·obtain ⟨o',e'⟩:=y.there b o e;show ⟨o',k b _ (by rintro rfl;rw [hC] at e;cases e) e'⟩
theorem jI {RR:Value->Addr->Result->Shared->Prop}{K:Bl c target} (hf:c.fn=true) (n:AJ V scope.names V') (ok:A6 scope) (I:List AB->List AB->AA->Prop)
  (hn:∀ r ys U,I r ys U->K.need U) (turn:∀ cl C,B5 (c.comp scope cl C) V' target ifs elt I)
  (items:List AB) (hsz:items.length<=sizeLine) (S:St c V U s.heap) (O:K.Off U s.heap) (H:K.holds s.heap items) (hi:I items [] U) (y:AE c U0 s₀ U s) (nK:∀ b∈K.ads,s₀.heap.get? b=none)
  (hR:∀ s' U' ys (vs:List Value) m C D,C≠D->s₀.heap.get? C=none->s₀.heap.get? D=none->(c.G.get? D=none/\D∉c.own/\D∉c.frames/\∀ x∈c.env.cells,D≠x.2)->(c.G.get? C=none/\C∉c.own/\C∉c.frames/\∀ x∈c.env.cells,C≠x.2) ->
   St c V U' s'.heap->AE c U0 s₀ U' s'->I [] ys U'->s'.heap.PlainList D vs.toArray->AW s'.heap vs ys->s'.heap.Ns C m->U' D=none->U' C=none->RR (.ref D) C (.ok .next) s') :
  wpAny (model c.prog c.w) c.A (newList []) (λacc s₃=>wpAny (model c.prog c.w) c.A (newFunctionEnv scope c.env.globals (aE c.env scope.names []) [] c.env.qual none .none (some c.env)) (λcenv s₄ =>
   codeAny (model c.prog c.w) c.A (.compStart (.ListComp elt [⟨target,iter,ifs,0⟩] scope pos) 0 (.ref K.it) acc { cenv with scope:=relabel scope c.env }) (RR acc cenv.locals) s₄) E s₃) E s:=by
 show wpAny_newObj_type (wpAny_newFunctionEnv n.noCell (by intro y hy;simp at hy) (λh₁ hns1 hsb1=>?_) ok.kind);dsimp only at hns1 hsb1 ⊢;generalize hH2:s.heap.push { cls:=.type "list",dict:=none,data:=.seq ([]:List Value).toArray }=H2 at hns1 hsb1 ⊢;have hDn:=aj s.heap;have hCn:s.heap.get? H2.objs.size=none:=by
  show Heap.get?_none_of_le ?_;rw [<- hH2,Heap.size_push];show Nat.le_succ _
 have hCD:H2.objs.size≠s.heap.objs.size:=by rw [<- hH2,Heap.size_push];show Nat.succ_ne_self _
 have old:∀ b o,s.heap.get? b=some o->h₁.get? b=some o:=λb o e=>hsb1.extBut b o (by rintro rfl;rw [hCn] at e;cases e) (Zu _ (hH2 ▸ Zu _ e));have hacc:h₁.PlainList s.heap.objs.size #[]:=⟨_,hsb1.extBut _ _ hCD.symm (Zu _ (hH2 ▸ Zz _ rfl))⟩
 have fC:=S.new_off hCn;have fD:=S.new_off hDn;have loop:codeAny (model c.prog c.w) c.A (.compLoop (.ListComp elt [⟨target,iter,ifs,0⟩] scope pos) 0 (.ref K.it) (.ref s.heap.objs.size) (c.comp scope (aE c.env scope.names []) H2.objs.size).env)
    (RR (.ref s.heap.objs.size) H2.objs.size) { s with heap:=h₁,toks:=s.toks+([]:List (Str × Value)).length }:=by
  have SA:St c V U h₁:=S.ext old;have yB:AE c U0 s₀ U { s with heap:=h₁,toks:=s.toks+([]:List (Str × Value)).length }:=y.trans (AE.ext old);show oY (R:=RR (.ref s.heap.objs.size) H2.objs.size) (s:={ s with heap:=h₁,toks:=s.toks+([]:List (Str × Value)).length }) hf n ok I hn turn items hsz SA ⟨O.sig,λb hb=>let ⟨o,e,z⟩:=O.at_ b hb;⟨o,old b o e,z⟩⟩ (K.keep H (λb _ o e=>old b o e) (ay old)) hi yB nK
   (cV y hCn) (cV y hDn) ⟨S.none_of hCn,fC⟩ ⟨S.none_of hDn,fD⟩ hCD (λz=>?_) (λz=>?_) ⟨_,hns1⟩ hacc λs' U' ys vs m a1 a2 a3 a4 a5 a6 a7 a8=>hR s' U' ys vs m _ _ hCD (cV y hCn) (cV y hDn) fD fC a1 a2 a3 a4 a5 a6 a7 a8
  ·obtain ⟨o⟩|⟨e,_⟩:=(O.at_ _ z)
   rw [hCn] at e;cases e
  ·obtain ⟨o⟩|⟨e,_⟩:=(O.at_ _ z)
   rw [hDn] at e;cases e
 show codeAny_compStart_list loop (K.self (U:=U) (items:=items) (V:=V) (S.ext old) (hn _ _ _ hi) (K.keep H (λb _ o e=>old b o e) (ay old)) loop)
theorem AJ.closure {ns:List (Str × NameKind)} (n:AJ V ns V') (S:St c V U h):∀ x∈ns,x.2=.free->(c.env.cells.lookup x.1).isSome:=λx hx e=>by
 obtain ⟨a,m⟩:=n.frees x hx e;obtain ⟨b,hb⟩:=S.ok.cellsOf (x.1,.cell) (S.names ▸ E7 (f:=λe:NV=>(e.name,e.kind)) m) rfl;rw [hb];rfl
inductive DH (c:Cx) (target:Expr) (I:List AB->List AB->AA->Prop) (a:AB) (U:AA):Prop
 | mk (items:List AB) (need:AA->Prop) (it:Bb c target a items need U) (hz:items.length<=sizeLine) (i:I items [] U) (k:∀ r ys U,I r ys U->need U)
inductive Bs (c:Cx) (V':List NV) (target:Expr) (ifs:List Expr) (elt:Expr) (scope:Scope) (D:AA->Addr->List AB->Prop) (a:AB) (U:AA):Prop
 | mk (I:List AB->List AB->AA->Prop) (it:DH c target I a U) (turn:∀ cl C,B5 (c.comp scope cl C) V' target ifs elt I) (done:∀ ys U1 D',I [] ys U1->U1 D'=none->D U1 D' ys)
theorem ev_listcomp (hf:c.fn=true) (n:AJ V scope.names V') (ok:A6 scope)
  (g:Ev c V iter U (Bs c V' target ifs elt scope λU1 D ys=>Q (.ref D) (U1.set D (.list ys))) X) (hs:autoParam (∀ x,foldedSetIterable iter c.env x=pure x) aI) :
  Ev c V (.ListComp elt [⟨target,iter,ifs,0⟩] scope pos) U Q X:=λs S=>by
 rw [eval_ListComp];show wpAny_comprehension_free (use:=none) rfl hs (dq (n.closure S)) ok.kind (λx hx e=>by rw [<- e];show aF ok.nodup hx) ?_;change wpAny _ _ (eval iter c.env) _ _ s;show g.use S λxv s₁ a U1 r₁ SA yB g₁=>?_;obtain ⟨I,⟨items,need,io,hsz,hi,hn⟩,turn,done⟩:=g₁;show io V s₁ xv _ _ SA r₁ λK s₂ hk SB yC O H nK=>?_;subst hk;show jI (RR:=λacc C=>compPost (model c.prog c.w) c.A (AO c V U s X) none (AR VR c V U s Q) acc C) hf n ok I hn turn items hsz SB O H hi (yB.trans yC) (λb hb=>cV yB (nK b hb)) ?_;intro s' U' ys vs m C D hCD hC hD fD fC S' y' i' lD rD nC zD zC;show ⟨m,nC,λh' hsb=>?_⟩;obtain ⟨nn,eD⟩:=lD;have kp:∀ b o,b≠C->s'.heap.get? b=some o->h'.get? b=some o:=λb o nb e=>hsb.extBut b o nb e;have t:AH s'.heap h':=by
  obtain ⟨om,es,ep⟩|⟨ho,hd,_⟩:=nC;show aP hsb.extBut ho λ_ xs k q=>by rw [hd] at q;cases q
 have S'':St c V U' h':=S'.move (W:=λb=>b=C) kp (λb z=>z ▸ fC.1) (λb hb z=>fC.2.1 (z ▸ hb)) (λb hb z=>fC.2.2.1 (z ▸ hb)) (λx hx z=>fC.2.2.2 x hx z.symm) (λb o e z=>by rw [z,zC] at e;cases e) t;show ⟨.ref D,U'.set D (.list ys),.ref D,S''.add (.list (kp D _ hCD.symm eD) (rD.keep t)) fD,(y'.later (t:=s'.toks) kp hC).tell hD,done ys U' D i' zD⟩
theorem dc {x:Str} (hf:c.fn=true) (n:AJ V scope.names V') (ok:A6 scope)
  (g:Ev c V iter U (Bs c V' target ifs elt scope λU1 D ys=>Bm V x (.ref D) N (U1.set D (.list ys))) (Av XS V))
  (hsw:swapsWith (.ListComp elt [⟨target,iter,ifs,0⟩] scope pos) (some (.Name x py)) p.line c.env=pure true)
  (hs:autoParam (∀ x,foldedSetIterable iter c.env x=pure x) aI) :
  WS c V (.Assign [.Name x py] (.ListComp elt [⟨target,iter,ifs,0⟩] scope pos) p) U N R XS:=λs S=>by
 rw [exec_Assign_Name_used _ _ _ _ hsw];show Zb (wpAny_standAt (Zb ?_));change wpAny _ _ (do let _ <- comprehension (.ListComp elt [⟨target,iter,ifs,0⟩] scope pos) scope c.env _ (newList []) false (eval iter c.env) (some (assign (.Name x py) c.env))) _ _ s;show Zb (Zm (wpAny_comprehension_free (use:=some (assign (.Name x py) c.env)) (Q:=λ_ s'=>Ao c U s N R .next s') rfl hs (dq (n.closure S)) ok.kind (λx hx e=>by rw [<- e];show aF ok.nodup hx) ?_) (λ_ s' hq=>Zp (Zp hq)) λ_ _ e=>e);show g.useS S λxv s₁ a U1 r₁ SA yB g₁=>?_;obtain ⟨I,⟨items,need,io,hsz,hi,hn⟩,turn,done⟩:=g₁;show io V s₁ xv _ _ SA r₁ λK s₂ hk SB yC O H nK=>?_;subst hk;show jI (RR:=λacc C=>compPost (model c.prog c.w) c.A (AS c U s XS) (some (assign (.Name x py) c.env)) (λ_ s'=>Ao c U s N R .next s') acc C) hf n ok I hn turn items hsz SB O H hi (yB.trans yC) (λb hb=>cV yB (nK b hb)) ?_;intro s' U' ys vs m C D hCD hC hD fD fC S' y' i' lD rD nC zD zC;obtain ⟨V₂,pp,hN⟩:=done ys U' D i' zD;have S3:St c V (U'.set D (.list ys)) s'.heap:=let ⟨nn,eD⟩:=lD;S'.add (.list eD rD) fD;change wpAny _ _ (assign (.Name x py) c.env (.ref D)) _ _ s';show wpAny_assign_Name ?_;show bD S3 pp (.ref D) (.inl hf) λs₄ SD yD=>?_;have zC':(U'.set D (.list ys)) C=none:=by rw [Zn hCD];show zC
 have nC4:∃ m,s₄.heap.Ns C m:=by
  obtain ⟨om,es,ep⟩|⟨ho,r⟩:=nC;show ⟨m,om,es,ep,yD.exact ho zC' fC.2.1 fC.2.2.1,r⟩
 obtain ⟨m₄,nC4⟩:=nC4;show ⟨m₄,nC4,λh' hsb=>?_⟩;have kp:∀ b o,b≠C->s₄.heap.get? b=some o->h'.get? b=some o:=λb o nb e=>hsb.extBut b o nb e;have t:AH s₄.heap h':=by
  obtain ⟨om,es,ep⟩|⟨ho,hd,_⟩:=nC4;show aP hsb.extBut ho λ_ xs k q=>by rw [hd] at q;cases q
 have SE:St c V₂ (U'.set D (.list ys)) h':=SD.move (W:=λb=>b=C) kp (λb z=>z ▸ fC.1) (λb hb z=>fC.2.1 (z ▸ hb)) (λb hb z=>fC.2.2.1 (z ▸ hb)) (λx hx z=>fC.2.2.2 x hx z.symm) (λb o e z=>by rw [z,zC'] at e;cases e) t;show ⟨V₂,_,SE,((y'.tell hD).trans yD).later (t:=s₄.toks) kp hC,hN⟩
end
section
variable {c:Cx}{V V':List NV}{U U0 U1 U' Y:AA}{h h' B:Heap}{s s₀ s₁ s':Shared}{Q:AB->AA->Prop}{X:AC->AA->Prop}
structure BV (G:Heap) (a:Addr) (fd:FuncData):Prop where
 obj:∃ o,G.get? a=some o/\o.data=.func fd
 code:G.CodeRec fd.code fd.qualname
structure Bd (fd:FuncData):Prop where
 clo:fd.closure=[]
 co:fd.scope.isCoroutine=false
 gen:fd.scope.isGenerator=false
 kind:fd.scope.kind=.function
 glob:fd.globals=mainGlobals
 blt:fd.builtins=builtinsNs
 nodup:(fd.scope.names.map (·.1)).Nodup
 tame:fd.scope.names.all (λn=>n.1 != ("__debug__" : Str) && n.1 != ("__classdict__" : Str))=true
noncomputable def Cx.call (c:Cx) (fd:FuncData) (a L:Addr):Cx :=
 { c with A:=c.A.deeper (callEnvC fd L a),env:=callEnvC fd L a,fenv:=callEnvC fd L a,outer:=c.fenv::c.outer,own:=L::(cellsFrom (L+1) fd.scope.names []).map (·.2),lv:=c.lv - 1,fn:=true }
theorem Cx.cmC {c:Cx}{a L:Addr} (h:c.calm=true):(c.call fd a L).calm=true:=h
noncomputable def b7:List (Str × NameKind)->List AB->List NV
 | (x,k)::ns,a::as=>⟨x,k,some a⟩::b7 ns as
 | (x,k)::ns,[]=>⟨x,k,none⟩::b7 ns []
 | [],_=>[]
theorem cU:∀ (ns:List (Str × NameKind)) (as:List AB),(b7 ns as).map (λe=>(e.name,e.kind))=ns
 | (x,k)::ns,a::as=>by change (x,k)::_=_;rw [cU ns as]
 | (x,k)::ns,[]=>by change (x,k)::_=_;rw [cU ns []]
 | [],_=>rfl
theorem mG {ns:List (Str × NameKind)}:∀ {e:NV},e∈b7 ns []->e.val=none:=by
 induction ns with
 | nil=>intro e h;cases h
 | cons y ns ih =>
  intro e h;rcases ZC h with rfl | h
  ·rfl
  ·show ih h
theorem jP {ns:List (Str × NameKind)}:∀ {as:List AB}{vs:List Value},AW h vs as->∀ e∈b7 ns as,∀ a,e.val=some a->∃ v,(e.name,v)∈(ns.map (·.1)).zip vs/\VR h v a/\(e.name,e.kind)∈ns.take as.length:=by
 induction ns with
 | nil=>intro as vs r e he;cases he
 | cons y ns ih =>
  intro as vs r e he a ha;cases r with
  | nil=>rw [mG he] at ha;cases ha
  | cons rv rs =>
   rcases ZC he with rfl | he
   ·cases ha;show ⟨_,.head _,rv,.head _⟩
   ·obtain ⟨w⟩|⟨m,r,q⟩:=(ih rs e he a ha)
    show ⟨w,.tail _ m,r,.tail _ q⟩
theorem rH {kf:Str->Option NameKind}{bs:List (Str × Value)}:∀ {m:Str->Option Value}{x:Str},(∀ b∈bs,b.1≠x)->bindL kf bs m x=m x:=by
 induction bs with
 | nil=>intros;rfl
 | cons b r ih =>
  intro m x hh;change bindL kf r _ x=_;rw [ih λb hb=>hh b (.tail _ hb)];split
  ·show Zv (hh _ Zh).symm
  ·rfl
theorem lz {kf:Str->Option NameKind}{bs:List (Str × Value)}:∀ {m:Str->Option Value}{x:Str}{v:Value},(bs.map (·.1)).Nodup->(x,v)∈bs->kf x=some .local->bindL kf bs m x=some v:=by
 induction bs with
 | nil=>intro m x v nd hm;cases hm
 | cons b r ih =>
  intro m x v nd hm hk;rw [E5,E6] at nd;change bindL kf r _ x=_;rcases ZC hm with rfl | hm
  ·have far:∀ b∈r,b.1≠x:=λb hb q=>nd.1 (by rw [<- q];show E7 (f:=(·.1)) hb);rw [rH far,Zw hk];show Zw rfl
  ·show ih nd.2 hm hk
theorem qA {kf:Str->Option NameKind}{bs:List (Str × Value)}:∀ {m:Str->Option Value}{x:Str},(∀ b∈bs,b.1≠x)->bindC kf bs m x=m x:=by
 induction bs with
 | nil=>intros;rfl
 | cons b r ih =>
  intro m x hh;change bindC kf r _ x=_;rw [ih λb hb=>hh b (.tail _ hb)];split
  ·rfl
  ·show Zv (hh _ Zh).symm
theorem ld {kf:Str->Option NameKind}{bs:List (Str × Value)}:∀ {m:Str->Option Value}{x:Str}{v:Value},(bs.map (·.1)).Nodup->(x,v)∈bs->kf x=some .cell->bindC kf bs m x=some v:=by
 induction bs with
 | nil=>intro m x v nd hm;cases hm
 | cons b r ih =>
  intro m x v nd hm hk;rw [E5,E6] at nd;change bindC kf r _ x=_;rcases ZC hm with rfl | hm
  ·have far:∀ b∈r,b.1≠x:=λb hb q=>nd.1 (by rw [<- q];show E7 (f:=(·.1)) hb);rw [qA far,Zv (by rw [hk];simp)];show Zw rfl
  ·show ih nd.2 hm hk
theorem jq:∀ {ns:List (Str × NameKind)}{n:Nat}{acc:List (Str × Addr)}{y:Str × Addr},y∈acc->y∈cellsFrom n ns acc:=by
 intro ns
 induction ns with
 | nil =>
  intro _ _ _ m;show m
 | cons x__ ns ih =>
  obtain ⟨x,k⟩:=x__;intro n acc y m;unfold cellsFrom;split
  ·show ih (.tail _ m)
  ·show ih m
theorem bY {ns:List (Str × NameKind)}{n:Nat}{acc:List (Str × Addr)}{x:Str} (m:(x,.cell)∈ns):∃ b,(x,b)∈cellsFrom n ns acc:=by
 induction ns generalizing n acc with
 | nil=>cases m
 | cons y ns ih =>
  obtain ⟨y,k⟩:=y;unfold cellsFrom;rcases ZC m with e | m
  ·cases e;show ⟨_,by rw [Zw (by rfl)];show jq Zh⟩
  ·split
   ·show ih m
   ·show ih m
theorem cf {ns:List (Str × NameKind)}{n:Nat}{acc:List (Str × Addr)} (h1:(ns.map (·.1)).Nodup) (h2:(acc.map (·.1)).Nodup) (h3:∀ x∈ns,x.1∉acc.map (·.1)):((cellsFrom n ns acc).map (·.1)).Nodup:=by
 induction ns generalizing n acc with
 | nil=>show h2
 | cons x ns ih =>
  obtain ⟨x,k⟩:=x;rw [E5,E6] at h1;unfold cellsFrom;split
  ·show ih h1.2 ?_ λy hy q=>?_
   ·rw [E5,E6];show ⟨h3 _ Zh,h2⟩
   ·rw [E5,EC] at q;rcases q with q | q
    ·show h1.1 (q ▸ E7 (f:=(·.1)) hy)
    ·show h3 y (.tail _ hy) q
  ·show ih h1.2 h2 λy hy=>h3 y (.tail _ hy)
theorem gP :∀ {l:List α}{r:List β},l.Nodup->((l.zip r).map (·.1)).Nodup
 | [],_,_=>by simp
 | _::_,[],_=>by simp
 | x::l,y::r,n=>by
  rw [E6] at n;rw [EI,E5,E6];show ⟨λq=>?_,gP n.2⟩;obtain ⟨z⟩|⟨hz,e⟩:=(ZM q)
  obtain ⟨z1,z2⟩:=z;have:=(List.of_mem_zip hz).1;show n.1 (by have e:z1=x:=e;rw [<- e];show this)
theorem St.enter {a:Addr} (S:St c V U s.heap) (lv:1<=c.lv) (ok:Bd fd) (r:AW s.heap vs as)
  (hkind:∀ x∈fd.scope.names.take as.length,x.2=.local\/x.2=.cell)
  (x:InCallC s (callEnvC fd s.heap.objs.size a).locals (bindL (callEnvC fd s.heap.objs.size a).kindOf ((fd.scope.names.map (·.1)).zip vs) λ_=>none) (callEnvC fd s.heap.objs.size a).cells
    (bindC (callEnvC fd s.heap.objs.size a).kindOf ((fd.scope.names.map (·.1)).zip vs) λ_=>none) s₁) :
  St (c.call fd a s.heap.objs.size) (b7 fd.scope.names as) U s₁.heap/\AE c U s U s₁:=by
 obtain ⟨⟨⟨hh,tk,rfl⟩,ns,keep,fresh⟩,cell,apart,above⟩:=x;have cs:(callEnvC fd s.heap.objs.size a).cells=cellsFrom (s.heap.objs.size+1) fd.scope.names []:=rfl;have hL:s.heap.get? s.heap.objs.size=none:=aj _;have cn:=cf (n:=s.heap.objs.size+1) (acc:=[]) ok.nodup s!"s" s!"s";have clk:∀ y∈cellsFrom (s.heap.objs.size+1) fd.scope.names [],(cellsFrom (s.heap.objs.size+1) fd.scope.names []).lookup y.1=some y.2:=λy hy=>aF cn hy;have cnew:∀ y∈cellsFrom (s.heap.objs.size+1) fd.scope.names [],s.heap.get? y.2=none:=λy hy=>Heap.get?_none_of_le (Nat.le_of_lt (above y.1 y.2 hy));have owns:∀ b∈(c.call fd a s.heap.objs.size).own,s.heap.get? b=none:=λb hb=>by
  rcases ZC hb with rfl | hb
  ·show hL
  ·obtain ⟨y⟩|⟨hy,rfl⟩:=(ZM hb)
   show cnew y hy
 have t:AH s.heap hh:=ay keep;show ⟨⟨⟨?_,S.ok.hd,S.ok.gd,?_,?_,ok.kind,ok.glob,ok.blt,S.ok.KG,S.ok.lim,S.ok.bg,S.ok.sm,.head _,?_,λy hy=>?_,λy hy e=>?_,λ_=>rfl,λ_ y hy=>?_,ok.nodup,ok.tame⟩,λb o e=>keep b o (S.base b o e),?_,cU ..,⟨_,ns⟩,λy hy=>?_,λe he a' ha=>?_,λb o e=>?_,λb o e=>?_,λb hb=>?_⟩,AE.ext keep⟩
 ·change c.A.frames.map _=_;rw [S.ok.fr];rfl
 ·have:=S.ok.depth;change c.A.depth+1+8 * (c.lv - 1)<=900;left
 ·have:=S.ok.units;change c.A.units+3+40 * (c.lv - 1)<=9000;left
 ·change ((cellsFrom (s.heap.objs.size+1) fd.scope.names []).map (·.2)).Nodup;rw [List.Nodup,EJ];show apart
 ·have:=above y.1 y.2 hy;show λq=>Nat.lt_irrefl _ (q ▸ this)
 ·obtain ⟨n,k⟩:=y;cases e;obtain ⟨b,hb⟩:=bY (n:=s.heap.objs.size+1) (acc:=[]) (show (n,NameKind.cell)∈fd.scope.names from hy);show ⟨b,aF cn hb⟩
 ·show .tail _ (E7 (f:=(·.2)) hy)
 ·show Heap.FunFrames.cons (m:=_) (by change fd.scope.kind≠.module;rw [ok.kind];simp) rfl ns ?_ (b6 S.frames λb _ o e=>⟨o,keep b o e,rfl⟩);cases q:c.G.get? s.heap.objs.size with
  | none=>show q
  | some o=>have:=S.base _ o q;rw [hL] at this;cases this
 ·show ⟨_,cell y.1 y.2 (clk y hy)⟩
 ·obtain ⟨v⟩|⟨m,rv,q⟩:=(jP r e he a' ha)
  have nd:=gP (r:=vs) ok.nodup;have kq:=hkind _ q;have mem:(e.name,e.kind)∈fd.scope.names:=EK q;have lk:(callEnvC fd s.heap.objs.size a).kindOf e.name=some e.kind:=aF ok.nodup mem;show ⟨v,?_,rv.keep t⟩;rcases kq with kq | kq
  ·simp only at kq;rw [kq] at lk ⊢;show ⟨_,ns,lz nd m lk⟩
  ·simp only at kq;rw [kq] at lk mem ⊢;obtain ⟨b,hb⟩:=bY (n:=s.heap.objs.size+1) (acc:=[]) mem;have hb':=aF cn hb;show ⟨b,hb',?_⟩;have:=cell e.name b hb';rw [ld nd m lk] at this;show this
 ·show (S.obj b o e).keepB t λob q=>keep b ob q
 ·obtain ⟨ob⟩|⟨q,_⟩:=((S.obj b o e).here)
  show an4 (S.off b o e) λf1 f2 f3 f4=>?_;show ⟨f1,λz=>?_,λz=>?_,λy hy z=>?_⟩
  ·rw [owns b z] at q;cases q
  ·have:(c.call fd a s.heap.objs.size).frames=s.heap.objs.size::c.frames:=rfl;rw [this] at z;rcases ZC z with rfl | z
   ·rw [hL] at q;cases q
   ·show f3 z
  ·subst z;rw [cnew y hy] at q;cases q
 ·show ⟨?_,?_⟩
  ·cases q:c.G.get? b with
   | none=>show q
   | some o =>
    have:=S.base b o q;rw [owns b hb] at this;cases this
  ·rcases ZC hb with rfl | hb
   ·obtain ⟨o,es,ep⟩|⟨ho,hd,_⟩:=ns;show ⟨o,ho,λxs n q=>by rw [hd] at q;cases q⟩
   ·obtain ⟨y⟩|⟨hy,rfl⟩:=(ZM hb)
    obtain ⟨o⟩|⟨ho,hd⟩:=(cell y.1 y.2 (clk y hy))
    show ⟨o,ho,λxs n q=>by rw [hd] at q;cases q⟩
end
theorem m5 {ns:List (Str × NameKind)}:∀ {vs:List Value}{x:Str × Value},x∈(ns.map (·.1)).zip vs->∃ k,(x.1,k)∈ns.take vs.length:=by
 induction ns with
 | nil=>intro vs x hx;cases hx
 | cons y ns ih =>
  intro vs x hx;cases vs with
  | nil=>cases hx
  | cons v vs =>
   rcases ZC hx with e | hx
   ·rw [e];show ⟨y.2,.head _⟩
   ·show ex1 (ih hx) λk hk=>⟨k,.tail _ hk⟩
section
variable {c:Cx}{V V':List NV}{U U0 U1 U' Y:AA}{h h' B:Heap}{s s₀ s₁ s₂ s':Shared}{Q:AB->AA->Prop}{X:AC->AA->Prop}
theorem St.leave {a:Addr} (S:St c V U s.heap) (keep:∀ b o,s.heap.get? b=some o->s₁.heap.get? b=some o) (hg:s₁.gens=s.gens) (ho:s₁.os=s.os) (new:∀ b∈(c.call fd a s.heap.objs.size).own,s.heap.get? b=none)
  (S':St (c.call fd a s.heap.objs.size) V' U' s₂.heap) (y:AE (c.call fd a s.heap.objs.size) U s₁ U' s₂):St c V U' s₂.heap/\AE c U s U' s₂:=by
 have fr:(c.call fd a s.heap.objs.size).frames=s.heap.objs.size::c.frames:=rfl;have kp:∀ b o,s.heap.get? b=some o->U b=none->∃ sl,s₂.heap.get? b=some { o with slots:=sl }/\(b∉c.frames->sl=o.slots):=λb o e q=>by
  obtain ⟨sl'⟩|⟨e'',f'⟩:=(y.kept b _ (keep b o e) q (λz=>by rw [new b z] at e;cases e))
  show ⟨sl',e'',λz=>f' ?_⟩;rw [fr];intro w;rcases ZC w with rfl | w
  ·rw [aj] at e;cases e
  ·show z w
 have ow:∀ b,b∈c.own\/(∃ x∈c.env.cells,b=x.2)->U b=none:=λb hb=>by
  cases q:U b with
  | none=>rfl
  | some o =>
   have:=S.off b o q;rcases hb with hb | ⟨x,hx,rfl⟩
   ·show absurd hb this.2.1
   ·show absurd rfl (this.2.2.2 x hx)
 have live:∀ b,b∈c.own\/(∃ x∈c.env.cells,b=x.2)->∃ o,s.heap.get? b=some o:=λb hb=>by
  rcases hb with hb | ⟨x,hx,rfl⟩
  ·obtain ⟨_,o,e,_⟩:=S.ownNew b hb;show ⟨o,e⟩
  ·obtain ⟨_,o⟩|⟨e,_⟩:=(S.cellsAt x hx)
   show ⟨o,e⟩
 have st:AE c U s U' s₂:=⟨λb o e q _=>kp b o e q,λb o e=>y.there b o (keep b o e),λb o e q=>y.grow b o (keep b o e) q,y.gens.trans hg,y.os.trans ho⟩
 show ⟨S.back (st.tup S) (λb o hb e=>?_) (λb o q=>?_) S'.base S'.frames.2.2 S'.obj,st⟩
 ·obtain ⟨sl⟩|⟨e',_⟩:=(kp b o e (ow b hb))
  show ⟨sl,e'⟩
 ·show an4 (S'.off b o q) λf1 f2 f3 f4=>?_;show ⟨f1,λz=>?_,λz=>f3 (by rw [fr];show .tail _ z),λx hx z=>?_⟩
  ·obtain ⟨ob,e⟩:=live b (.inl z);have:=st.grow b ob e (ow b (.inl z));rw [q] at this;cases this
  ·obtain ⟨ob,e⟩:=live b (.inr ⟨x,hx,z⟩);have:=st.grow b ob e (ow b (.inr ⟨x,hx,z⟩));rw [q] at this;cases this
theorem Ar.leave {a e:Addr}{x:AC}{P:Addr->Prop} (S:St c V U s.heap) (keep:∀ b o,s.heap.get? b=some o->s₁.heap.get? b=some o) (S':St (c.call fd a s.heap.objs.size) V' U' s₂.heap)
  (F:Ar (c.call fd a s.heap.objs.size) U' s₁ e x fl s₂.heap B P) (off:U' s.heap.objs.size=none):Ar c U' s e x fl s₂.heap B (λb=>P b\/b=s.heap.objs.size):=by
 have fr:(c.call fd a s.heap.objs.size).frames=s.heap.objs.size::c.frames:=rfl;have hL:s.heap.get? s.heap.objs.size=none:=aj _;show an3 S'.frames λ_ h4z _=>?_;obtain ⟨L',oL,hf,hGL,hoL,hdL⟩:=h4z;have hf:L'=s.heap.objs.size:=(Option.some.inj hf).symm;subst hf;have old:∀ b,s.heap.get? b≠none->b≠s.heap.objs.size:=λb n z=>n (z ▸ hL);have nf:s.heap.objs.size∉c.frames:=λz=>by
  obtain ⟨_,o,q,_⟩:=Heap.FunFrames.mem S.frames z;rw [hL] at q;cases q
 show ⟨F.base,λb o q=>?_,λb hb=>?_,F.stays,λb hb=>F.off b (by rw [fr];show .tail _ hb),.inl F.own,λb o hb q=>?_,?_⟩
 ·rcases F.all b o q with z | z | z
  ·rw [fr] at z;rcases ZC z with rfl | z
   ·show .inr (.inr (.inr rfl))
   ·show .inl z
  ·show .inr (.inl z)
  ·show .inr (.inr (.inl z))
 ·rcases hb with hb | rfl
  ·show an6 (F.new b hb) λn1 n2 n3 n4 n5 n6=>?_;have n0:s.heap.get? b=none:=by
    cases q:s.heap.get? b with
    | none=>rfl
    | some o=>rw [keep b o q] at n1;cases n1
   show ⟨n0,n2,n3,λz=>?_,λz=>n5 (by rw [fr];show .tail _ z),λy hy z=>?_⟩
   ·obtain ⟨_,o,q,_⟩:=S.ownNew b z;rw [n0] at q;cases q
   ·obtain ⟨_,o⟩|⟨q,_⟩:=(S.cellsAt y hy)
    rw [<- z,n0] at q;cases q
  ·show ⟨hL,F.off _ (by rw [fr];show .head _),off,λz=>?_,nf,λy hy z=>?_⟩
   ·obtain ⟨_,o,q,_⟩:=S.ownNew _ z;rw [hL] at q;cases q
   ·obtain ⟨_,o⟩|⟨q,_⟩:=(S.cellsAt y hy)
    rw [<- z,hL] at q;cases q
 ·rcases hb with hb | rfl
  ·show F.noTup b o hb q
  ·show ex4 S'.locs λm o' es ep h7z=>?_;show an3 h7z λho' hd' _=>?_;clear h7z
   have:(c.call fd a s.heap.objs.size).env.locals=s.heap.objs.size:=rfl;rw [this] at ho';rw [q] at ho';cases ho';intro _ xs n z;rw [hd'] at z;cases z
 ·obtain ⟨oe,vs,d,m,h1,h2,h3,h4,h5,h6,h7,h8,h9⟩:=F.here;have h6':s.heap.get? d=none:=by
   cases q:s.heap.get? d with
   | none=>rfl
   | some o=>have:=keep d o q;rw [h6.2.2.1] at this;cases this
  show ⟨oe,vs,d,m,h1,h2,h3,h4,h5,⟨h6.1,h6.2.1,h6',h6.2.2.2⟩,h7,h8,?_⟩;cases fl with
  | none=>show h9
  | some f=>show ex3 h9 λT oT ts h8z=>?_;(try clear h9);show an3 h8z λq1 q2 q3=>?_;clear h8z;show ⟨T,oT,ts,q1,.inl q2,q3⟩
def Ci (c:Cx) (V:List NV) (U:AA) (s:Shared) (Q:AB->AA->Prop) (X:AC->AA->Prop) (r:Result) (s':Shared):Prop:=match r with
 | .ok (.ret v)=>AR VR c V U s Q v s'
 | .ok _=>False
 | .error e=>AO c V U s X e s'
theorem jG {a:Addr}{as₀:List AB} (lv:1<=c.lv) (fi:BV c.G a fd) (ok:Bd fd) (hb:fd.body=.stmts body)
  (hkind:∀ x∈fd.scope.names.take as.length,x.2=.local\/x.2=.cell)
  (hbind:∀ vs s,AW s.heap vs as₀->c.G.StaysIn s.heap->∃ ws,AW s.heap ws as/\BindsTo s fd ⟨vs,[]⟩ ((fd.scope.names.map (·.1)).zip ws))
  (g:∀ L,Al (c.call fd a L) (b7 fd.scope.names as) body U (NQ Q) Q (XF X)) (vs0:List Value) (s:Shared) (S:St c V U s.heap) (r₀:AW s.heap vs0 as₀):codeAny (model c.prog c.w) c.A (.call (.ref a) ⟨vs0,[]⟩) (Ci c V U s Q X) s:=by
 obtain ⟨vs⟩|⟨r,hbd⟩:=(hbind vs0 s r₀ S.base)
 show ex1 fi.obj λo h10z=>?_;show an2 h10z λho hd=>?_;clear h10z;have hroom:c.A.depth < recursionLimit:=by have:=S.ok.depth;change c.A.depth < 1000;left
 show codeAny_call_function hroom (S.base _ _ ho) hd ok.co ok.gen hb (fi.code.keeps S.base) (hbd _ _ _ _ ?_);rw [ok.clo];have mem:∀ x∈(fd.scope.names.map (·.1)).zip vs,∃ k,(x.1,k)∈fd.scope.names.take as.length:=λx hx=>r.length ▸ m5 hx;show wpAny_newFunctionEnv_cells ok.kind (λx hx=>?_) λenv he s₁ x=>?_
 ·obtain ⟨k,hk⟩:=mem x hx;have hk':=EK hk;have lk:=aF ok.nodup hk';rcases hkind _ hk with q | q
  ·simp only at q;subst q;show .inl lk
  ·simp only at q;subst q;obtain ⟨b,hb⟩:=bY (n:=s.heap.objs.size+1) (acc:=[]) hk';show .inr ⟨lk,by rw [aF (cf ok.nodup s!"s" s!"s") hb];rfl⟩
 ·subst he;have keep:=x.toInCall.keep;obtain ⟨SA,yB⟩:=S.enter (a:=a) lv ok r hkind x;have hg:s₁.gens=s.gens:=yB.gens;have hos:s₁.os=s.os:=yB.os;have new:∀ b∈(c.call fd a s.heap.objs.size).own,s.heap.get? b=none:=λb hb=>by
   rcases ZC hb with rfl | hb
   ·show aj _
   ·obtain ⟨y⟩|⟨hy,rfl⟩:=(ZM hb)
    show Heap.get?_none_of_le (Nat.le_of_lt (x.above y.1 y.2 hy))
  show ⟨(S.ok.lim.keeps S.base).keeps keep,codeAny_func ?_⟩;show Zm (g s.heap.objs.size s₁ SA) (λf s₂ p=>?_) λe s₂ p=>?_
  ·obtain ⟨V',U',SB,yC,q⟩:=p;obtain ⟨S3,y3⟩:=S.leave keep hg hos new SB yC;cases f with
   | next=>show ⟨.none,U',.none,S3,y3,q⟩
   | ret v=>show ex1 q λb h13z=>?_;(try clear q);show an2 h13z λrb q=>?_;clear h13z;show ⟨b,U',rb,S3,y3,q⟩
   | _=>show q.elim
  ·obtain ⟨V',e,x',U',rfl,SB,yC,⟨fl,B,P,F,hfl⟩,q⟩:=p;unfold leaving;obtain ⟨L⟩|⟨hL,_⟩:=(SB.frameL rfl)
   show Zb (cW SB rfl F yC hL hfl λs₃ B' P' S3 y3 F3=>?_);show bS S3 F3 y3 λs₄ SD yD F4=>?_;obtain ⟨SE,yE⟩:=S.leave keep hg hos new SD yD;have off:U' s.heap.objs.size=none:=by
    cases q:U' s.heap.objs.size with
    | none=>rfl
    | some o=>show absurd (EL ..) (SD.off _ o q).2.1
   show ⟨e,x',U',rfl,SE,yE,⟨_,B',_,F4.leave S keep SD off,.inr (.inl rfl)⟩,q⟩
theorem lq {a:Addr} (lv:1<=c.lv) (fi:BV c.G a fd) (ok:Bd fd) (hb:fd.body=.stmts body)
  (hkind:∀ x∈fd.scope.names.take as.length,x.2=.local\/x.2=.cell)
  (hbind:∀ vs s,vs.length=as.length->c.G.StaysIn s.heap->BindsTo s fd ⟨vs,[]⟩ ((fd.scope.names.map (·.1)).zip vs))
  (g:∀ L,Al (c.call fd a L) (b7 fd.scope.names as) body U (NQ Q) Q (XF X)) (vs:List Value) (s:Shared) (S:St c V U s.heap) (r:AW s.heap vs as):codeAny (model c.prog c.w) c.A (.call (.ref a) ⟨vs,[]⟩) (Ci c V U s Q X) s :=
 jG lv fi ok hb hkind (λvs s r b=>⟨vs,r,hbind vs s r.length b⟩) g vs s S r
theorem pX {a:Addr} (lv:1<=c.lv) (fi:BV c.G a fd) (ok:Bd fd) (hb:fd.body=.stmts body)
  (hkind:∀ x∈fd.scope.names.take as.length,x.2=.local\/x.2=.cell)
  (hbind:∀ vs s,vs.length=as.length->c.G.StaysIn s.heap->BindsTo s fd ⟨vs,[]⟩ ((fd.scope.names.map (·.1)).zip vs))
  (g:∀ L,Al (c.call fd a L) (b7 fd.scope.names as) body U (NQ Q) Q (XF X)):AM VR c V as (λvs=>call (.ref a) vs) U Q X:=λvs s S r =>
 wpAny_call (lq lv fi ok hb hkind hbind g vs s S r)
end
section
variable {c:Cx}{V V':List NV}{U U0 U1 U' Y:AA}{h h' B:Heap}{s s₀ s₁ s₂ s':Shared}{Q:AB->AA->Prop}{QL:List AB->AA->Prop}{X:AC->AA->Prop}
abbrev Ay (c:Cx) (V:List NV) (pos:Pos) (es:List Expr) (U:AA) (Q:List AB->AA->Prop) (X:AC->AA->Prop):Prop:=Go AW c V (spliced (backTo pos (starEach es c.env))) U Q X
abbrev B3 (QL:List AB->AA->Prop) (a:AB) (as:List AB) (U2:AA):Prop:=QL (a::as) U2
abbrev KL (c:Cx) (V:List NV) (pos:Pos) (es:List Expr) (QL:List AB->AA->Prop) (X:AC->AA->Prop) (a:AB) (U1:AA):Prop:=Ay c V pos es U1 (B3 QL a) X
abbrev Cd (c:Cx) (V:List NV) (fa:List AB) (f:Value) (Q:AB->AA->Prop) (X:AC->AA->Prop) (as:List AB) (U1:AA):Prop:=AM VR c V (fa++as) (λvs=>call f vs) U1 Q X
abbrev BA (c:Cx) (V:List NV) (f:Value) (Q:AB->AA->Prop) (X:AC->AA->Prop) (as:List AB) (U1:AA):Prop:=AM VR c V as (λvs=>call f vs) U1 Q X
abbrev CI (c:Cx) (V:List NV) (a:AB) (f:Value) (Q:AB->AA->Prop) (X:AC->AA->Prop) (as:List AB) (U1:AA):Prop:=AM VR c V (a::as) (λvs=>call f vs) U1 Q X
theorem cT (q:QL [] U):Ay c V pos [] U QL X:=λs S=>Calls.spliced_nil (.here S .nil q)
theorem b8 {e:Expr} (g:Ev c V e U (KL c V pos es QL X) X)
  (hs:autoParam (starEach (e::es) c.env=(false,eval e c.env)::starEach es c.env) aU):Ay c V pos (e::es) U QL X:=λs S=>by
 rw [hs];show Calls.spliced_cons ?_;show g.use S λv s₁ a U1 r SA y q=>?_;show Zm (q s₁ SA) (λvs s₂ p=>?_) λ_ _ z=>z.after y;obtain ⟨as,U2,rs,SB,yC,q₂⟩:=p;show ⟨a::as,U2,.cons (r.keep (yC.tup SA)) rs,SB,y.trans yC,q₂⟩
theorem nL {x:Str} (l:Az V x a) (q:Ay c V pos es U (B3 QL a) X):Ay c V pos (.Name x p::es) U QL X:=b8 (ev_name l q)
theorem pU (q:Ay c V pos es U (B3 QL (.int i)) X):Ay c V pos (.Constant (.int i) k p::es) U QL X:=b8 (ev_int q)
theorem qb {x:Str} (q:Ay c V pos es U (B3 QL (.str x)) X):Ay c V pos (.Constant (.str x) k p::es) U QL X:=b8 (ev_str q)
theorem bR {f:Value}{P:Args->Shared->Prop}{A:Around}{M:Model} (hstar:(backTo pos (starEach es env)).all (λx=>!x.1)=true)
  (h:wpAny M A (spliced (backTo pos (starEach es env))) (λvs s'=>P ⟨vs,[]⟩ s') E s):wpAny M A (evalArgs f true (backTo pos (starEach es env)) []) P E s:=by
 cases hz:backTo pos (starEach es env) with
 | nil =>
  rw [hz] at h;unfold evalArgs;change wpAny M A (spliced [] >>= _) _ E s;show Zb (Zm h (λvs s' h'=>?_) λ_ _ x=>x);show Zb (Zp ?_);show wpAny_holding ?_;show Zb (Zp (Zb (Zp (Zp h'))))
 | cons x r =>
  obtain ⟨b,x⟩:=x;rw [hz] at h hstar
  have:b=false:=by simpa using (List.all_eq_true.mp hstar _ Zh)
  subst this;show Calls.evalArgs_plain h
theorem ev_call {a:Addr} (l:AL V f) (n:nsIn c.K mainGlobals f=some (some (.ref a))) (fi:BV c.G a fd)
  (g:Ay c V pos es U (BA c V (.ref a) Q X) X) (hstar:autoParam ((backTo pos (starEach es c.env)).all (λx=>!x.1)=true) aU) :
  Ev c V (.Call (.Name f p) es [] pos) U Q X:=λs S=>by
 show wpAny_Call_Name_kw ?_;show bW S l n ?_;show ex1 fi.obj λo h1z=>?_;show an2 h1z λho hd=>?_;clear h1z;show Calls.callWith_function (o:=o) (fd:=fd) ?_;show bR hstar ?_;show g.use S λvs s₁ as U1 r SA y q=>⟨⟨SA.base _ _ ho,hd⟩,?_⟩
 show Zm (q vs s₁ SA r) (λ_ _ z=>z.after y) λ_ _ z=>z.after y
end
section
variable {c:Cx}{V V':List NV}{U U0 U1 U' Y:AA}{h h' B:Heap}{s s₀ s₁ s₂ s':Shared}{Q:AB->AA->Prop}{X:AC->AA->Prop}
structure BF (K:Frag) (C:Addr):Prop where
 cd:∃ cd,clsIn K C=some cd/\cd.hasDict=true
 get:findIn K (.ref C) "__getattribute__" = some (some (.builtin "object.__getattribute__"))
 hook:findIn K (.ref C) "__getattr__" = some none
 set:findIn K (.ref C) "__setattr__" = some (some (.builtin "object.__setattr__"))
 over:plainOver K C=true
inductive BZ (U:AA) (x C:Addr) (ns:List Str) (m:Str->Option AB):Prop
 | mk (d:Addr) (hx:U x=some (.inst C d)) (hd:U d=some (.attrs ns m))
theorem g9 {m:Str->Option Value} (n:h.Ns d m):∃ o,h.get? d=some o/\∀ x,lookIn x o=some (m x):=by
 obtain ⟨o,es,ep⟩|⟨ho,hd,hk,hm⟩:=n;show ⟨o,ho,λx=>?_⟩;unfold lookIn;rw [hd];dsimp only;have:=hm x;unfold nsFind findBy at this;rw [<- Array.find?_toList] at this;split
 ·rename_i e he;rw [he] at this;show congrArg some this
 ·rename_i he;rw [he] at this;have hr:es.toList.any (·.refKey)=false:=by
   rw [EM];intro e he;show ex2 (hk e (Array.mem_toList_iff.mp he)) λn t q=>?_;simp [DictEntry.refKey,q]
  rw [hr];show congrArg some this
theorem St.instAt {x:Addr}{m:Str->Option AB} (S:St c V U h) (I:BZ U x C ns m):∃ ox od m' d,InstAt h x ox C (some od)/\ox.dict=some d/\U d=some (.attrs ns m)/\h.Ns1 d m'/\Within m' ns/\h.get? d=some od/\(∀ y,lookIn y od=some (m' y)) /\
  ∀ y,match m y with | some v=>∃ v',m' y=some v'/\VR h v' v | none=>m' y=none:=by
 obtain ⟨d,hx,hd⟩:=I;show (S.obj x _ hx).inst' λe=>?_;show (S.obj d _ hd).attrs' λm' n w r=>?_;obtain ⟨od⟩|⟨eo,lk⟩:=(g9 n.ns)
 show ⟨_,od,m',d,⟨e,rfl,rfl,eo⟩,rfl,hd,n,w,eo,lk,r⟩
theorem VR.handed (r:VR h v a):handedIn v=true:=by cases r<;>rfl
inductive Aj (K:Frag) (x:Str) (Q:AB->AA->Prop) (a:AB) (U1:AA):Prop
 | mk (o C:Addr) (ns:List Str) (m:Str->Option AB) (v:AB) (e:a=.ref o) (i:BZ U1 o C ns m) (h:m x=some v) (k:BF K C) (n:findIn K (.ref C) x=some none) (q:Q v U1)
theorem ev_attr {e:Expr}{x:Str} (g:Ev c V e U (Aj c.K x Q) X)
  (hbase:autoParam (attributeBase e x c.env (eval e c.env)=eval e c.env) aU):Ev c V (.Attribute e x p) U Q X:=λs S=>by
 rw [arm_eval_Attribute,hbase];show Zb (g.use S λv s₁ a U1 r SA y q=>?_);obtain ⟨o,C,ns,m,w,rfl,I,hm,ok,hf,q⟩:=q;apply r.ref';obtain ⟨ox,od,m',d⟩|⟨I',_,_,n,_,_,lk,rr⟩:=(SA.instAt I)
 have hy:=rr x;rw [hm] at hy;obtain ⟨w'⟩|⟨hw',rw'⟩:=hy;show ex1 ok.cd λcd h9z=>?_;show an2 h9z λhcd hdict=>?_;clear h9z;have hfo:findObj c.K C (some od) x=some (.value w'):=by
  have e1:W.ownOf cd (some od) x=some (some w'):=(Zw hdict).trans ((lk x).trans (congrArg some hw'));unfold findObj;rw [hcd,hf];change (W.ownOf cd (some od) x).bind _=_;rw [e1];rfl
 show Zb (wpAny_standAt (Zb (wpAny_holding (get_value (SA.ok.KG.keeps SA.base) I' ok.get hfo rw'.handed (Zb (wpAny_letTemporaryGo (Zp ?_)))))));show ⟨w,U1,rw',SA,y.toks,q⟩
inductive Aq (K:Frag) (x:Str) (P:AA->Prop) (v a:AB) (U2:AA):Prop
 | mk (o C:Addr) (ns:List Str) (m:Str->Option AB) (e:a=.ref o) (i:BZ U2 o C ns m) (k:BF K C) (t:takerIn K C x=some none) (hx:x∈ns) (hz:ns.length<=1000) (q:∀ d,U2 o=some (.inst C d)->P (U2.set d (.attrs ns λy=>if y=x then some v else m y)))
theorem bT {e value:Expr}{x:Str}
  (g:Ev c V value U (KE c V e (Aq c.K x (N V)) (Av XS V)) (Av XS V))
  (hs:autoParam (swapsWith value (some (.Attribute e x pa)) p.line c.env=pure false) aU):WS c V (.Assign [.Attribute e x pa] value p) U N R XS:=λs S=>by
 show plainObj_wpAny_Assign_Attribute ?_ hs;show g.useS S λv s₁ a U1 r SA y q=>?_;show Zm (q s₁ SA) (λov s₂ p=>?_) λ_ _ z=>AS.after y z.toS;obtain ⟨b,U2,r₂,SB,yC,o,C,ns,m,rfl,I,ok,ht,hx1,hx2,hN⟩:=p;apply r₂.ref';obtain ⟨d₀,hxA,hdA⟩:=id I;obtain ⟨ox,od,m',d⟩|⟨I',hd,hσd,n,wn,eo,lk,rr⟩:=(SB.instAt I)
 have X:=SB.ok.KG.keeps SB.base;have hx:U2 o=some (.inst C d):=by
  show (SB.obj o _ hxA).inst' λe=>?_;have e2:=I'.at_;rw [e] at e2;cases e2;cases hd;show hxA
 show set_plain X I' ok.set ?_;show osa_open (s:={ s₂ with toks:=s₂.toks+1 }) X I' ok.over ht λbb=>?_;show ex1 ok.cd λcd h11z=>?_;show an2 h11z λhc hd'=>?_;clear h11z;obtain ⟨hx',hcl,hn',-⟩:=I';obtain ⟨oc,odi,oda,osl⟩:=ox;dsimp only at hcl hd;subst hcl hd;show Zb (Zp (Zb (Zb (wpAny_loadPart (s:={ s₂ with toks:=s₂.toks+1 }) hx' (Zb (looks_clsIn X hc _ _ _ _ (λ_ _ e=>e) ?_))))));rw [hd'];show Zp (a:=some d) (Zb (Zp (Zb ?_)));show wpAny_nsSet1 (s:={ s₂ with toks:=s₂.toks+1 }) n λh' n' sb=>?_;have wn':Within (λy=>if y=x then some v else m' y) ns:=λy hy=>by
  by_cases z:y=x
  ·show z ▸ hx1
  ·show wn y (by dsimp only at hy;rwa [Zv z] at hy)
 obtain ⟨on,en,epn⟩|⟨hon,hdn,hsn⟩:=(n'.count wn')
 show Zb (wpAny_lookBehind hon (by rw [hdn];show pastItsLine_dict (by rw [sizeLine_eq];left)) ?_);show Zp ?_;obtain ⟨ob⟩|⟨e',nn⟩:=((SB.obj d _ hσd).here)
 have t:AH s₂.heap h':=aP sb.extBut e' nn;have R':OR c.prog c.w h' d (.attrs ns λy=>if y=x then some a else m y):=.attrs n' wn' λy=>by
  by_cases z:y=x
  ·rw [Zw z,Zw z];show ⟨_,rfl,(r.keep (yC.tup SA)).keep t⟩
  ·rw [Zv z,Zv z];have:=rr y;cases hm:m y with
   | none=>rw [hm] at this;show this
   | some _=>rw [hm] at this;show ex1 this λw h14z=>?_;(try clear this);show an2 h14z λq1 q2=>?_;clear h14z;show ⟨w,q1,q2.keep t⟩
 have S3:=SB.upd hσd sb.extBut R';show ⟨V,_,S3,(y.trans yC).trans (AE.upd (t:=s₂.toks+1+1) hσd sb.extBut R'),hN d hx⟩
end
section
variable {c:Cx}{V V':List NV}{U U0 U1 U' Y:AA}{h h' B:Heap}{s s₀ s₁ s₂ s':Shared}{Q:AB->AA->Prop}{X:AC->AA->Prop}
theorem nE {f:Addr}{P:AB->AA->Prop} (S:St c V U s.heap) (fi:BV c.G f fd) (rf:AW s.heap first fa)
  (g:Ay c V pos es U (Cd c V fa (.ref f) Q X) X) (hstar:(backTo pos (starEach es c.env)).all (λx=>!x.1)=true) :
  wpAny (model c.prog c.w) c.A (callWith pos (.ref f) first (backTo pos (starEach es c.env)) []) (AR VR c V U s Q) (AO c V U s X) s:=by
 show ex1 fi.obj λo h1z=>?_;show an2 h1z λho hd=>?_;clear h1z;show Calls.callWith_function (o:=o) (fd:=fd) ?_;show bR hstar ?_;show g.use S λvs s₁ as U1 r SA y q=>⟨⟨SA.base _ _ ho,hd⟩,?_⟩
 show Zm (q (first++vs) s₁ SA ((rf.keep (y.tup S)).append r)) (λ_ _ z=>z.after y) λ_ _ z=>z.after y
inductive Cm (c:Cx) (V:List NV) (pos:Pos) (es:List Expr) (name:Str) (Q:AB->AA->Prop) (X:AC->AA->Prop) (a:AB) (U1:AA):Prop
 | mk (x C:Addr) (ns:List Str) (m:Str->Option AB) (f:Addr) (fd:FuncData) (e:a=.ref x) (i:BZ U1 x C ns m) (h:m name=none) (k:BF c.K C) (n:findIn c.K (.ref C) name=some (some (.ref f))) (t:typeIn c.K (.ref f)=some (.type "function")) (fi:BV c.G f fd)
   (q:Ay c V pos es U1 (CI c V (.ref x) (.ref f) Q X) X)
theorem ev_method 
  (g:Ev c V o U (Cm c V pos es name Q X) X)
  (hstar:autoParam ((backTo pos (starEach es c.env)).all (λx=>!x.1)=true) aU)
  (he:autoParam (eval (.Call (.Attribute o name apos) es [] pos) c.env=(do
   let ov <- eval o c.env
   standAt apos.atName
   let (f,first) <- holding [ov] (getMethod ov name pl)
   callWith pos f first (backTo pos (starEach es c.env)) (backToKw pos (keywordEach [] c.env)))) aU):Ev c V (.Call (.Attribute o name apos) es [] pos) U Q X:=λs S=>by
 show methodCall_KW ?_ he;show g.use S λov s₁ a U1 r SA y q=>?_;obtain ⟨x,C,ns,m,f,fd,rfl,I,hm,ok,hf,ht,fi,q⟩:=q;apply r.ref';obtain ⟨ox,od,m',d⟩|⟨I',_,_,n,_,_,lk,rr⟩:=(SA.instAt I)
 have hy:=rr name;rw [hm] at hy;show method_fn (SA.ok.KG.keeps SA.base) I' ok.get ok.hook hf ht (by unfold shadowIn;dsimp only;rw [lk,hy];rfl) ?_;show on y (nE (P:=Q) SA fi (.cons (.ref x) .nil) q hstar)
theorem callWith_of {id:String} (S:St c V U s.heap) (rf:AW s.heap first fa)
  (g:Ay c V pos es U (Cd c V fa (.builtin id) Q X) X) (hstar:(backTo pos (starEach es c.env)).all (λx=>!x.1)=true) :
  wpAny (model c.prog c.w) c.A (callWith pos (.builtin id) first (backTo pos (starEach es c.env)) []) (AR VR c V U s Q) (AO c V U s X) s:=by
 have hp:(backTo pos (starEach es c.env)).any (·.1)=false:=by
  rw [EM];intro x hx;have:=List.all_eq_true.mp hstar x hx;simpa using this
 show Calls.callWith_builtin hp (bR hstar ?_);show g.use S λvs s₁ as U1 r SA y q=>?_;show Zm (q (first++vs) s₁ SA ((rf.keep (y.tup S)).append r)) (λ_ _ z=>z.after y) λ_ _ z=>z.after y
theorem ev_builtin {id:String} (l:AL V f) (n:nsIn c.K mainGlobals f=some none) (hv:bootBuiltins f=some (.builtin id)) (hn:f ≠ "__name__")
  (g:Ay c V pos es U (BA c V (.builtin id) Q X) X) (hstar:autoParam ((backTo pos (starEach es c.env)).all (λx=>!x.1)=true) aU):Ev c V (.Call (.Name f p) es [] pos) U Q X:=λs S=>by
 show wpAny_Call_Name_kw ?_;show bP S l n hv hn ?_;show callWith_of S .nil g hstar
theorem ev_btype (l:AL V f) (n:nsIn c.K mainGlobals f=some none) (hv:bootBuiltins f=some (.type T)) (hn:f ≠ "__name__")
  (g:Ay c V pos es U (BA c V (.type T) Q X) X) (hstar:autoParam ((backTo pos (starEach es c.env)).all (λx=>!x.1)=true) aU):Ev c V (.Call (.Name f p) es [] pos) U Q X:=λs S=>by
 show wpAny_Call_Name_kw ?_;show bP S l n hv hn ?_;have hp:(backTo pos (starEach es c.env)).any (·.1)=false:=by
  rw [EM];intro x hx;have:=List.all_eq_true.mp hstar x hx;simpa using this
 show PySem.callWith_type hp (bR hstar ?_);show g.use S λvs s₁ as U1 r SA y q=>?_;show Zm (q vs s₁ SA r) (λ_ _ z=>z.after y) λ_ _ z=>z.after y
def DM (c:Cx) (a:AB) (T:String) (U:AA):Prop:=∀ (V:List NV) (s:Shared) (v:Value),St c V U s.heap->VR s.heap v a->s.TypeIs v T/\∀ ad,v=.ref ad->∃ ob:Obj,s.heap.get? ad=some ob/\ob.dict=none
theorem gI {x:Str}:DM c (.str x) "str" U:=λV s v S r=>by
 apply r.str';intro t;show ⟨typeIs_str s x t,λ_ q=>by cases q⟩
theorem cK {a:Addr} (ha:U a=some (.list xs)):DM c (.ref a) "list" U:=λV s v S r=>by
 apply r.ref';show (S.obj a _ ha).list' λ_ _ e _=>?_;show ⟨⟨_,e,rfl⟩,λad q=>by cases q;show ⟨_,e,rfl⟩⟩
theorem o5 {K:Type} [DecidableEq K] {knd:KeyKind c.prog c.w K}{a:Addr}{kvs:List (K × Value)} (hd:s.heap.DictOf knd a kvs):s.TypeIs (.ref a) "dict" /\ ∀ ad,Value.ref a=.ref ad->∃ ob:Obj,s.heap.get? ad=some ob/\ob.dict=none :=
 ⟨hd.typeIs,λad q=>by cases q;show ex3 hd λo es ep h8z=>?_;(try clear hd);show an3 h8z λho hc _=>?_;clear h8z;show ⟨o,ho,hc.2.1⟩⟩
theorem dz {a:Addr}{xs:List (Str × AB)} (ha:U a=some (.dictS xs)):DM c (.ref a) "dict" U:=λV s v S r=>by
 apply r.ref';show (S.obj a _ ha).dictS' λ_ e _=>?_;show o5 e
inductive Bk (c:Cx) (V:List NV) (pos:Pos) (es:List Expr) (T id:String) (Q:AB->AA->Prop) (X:AC->AA->Prop) (a:AB) (U1:AA):Prop
 | mk (t:DM c a T U1) (q:Ay c V pos es U1 (CI c V a (.builtin id) Q X) X)
theorem ev_bmethod {id:String} (pa:PlainAttrs T) (slot:Slot T name id) (hty:typeOf (.builtin id)=pure (.type "method_descriptor"))
  (g:Ev c V o U (Bk c V pos es T id Q X) X)
  (hbase:autoParam (attributeBase o name c.env (eval o c.env)=eval o c.env) aU)
  (hfew:autoParam (((backTo pos (starEach es c.env)).all (λx=>!x.1) && (backToKw pos (keywordEach [] c.env)).all (λx=>x.1.isSome)
   && decide (es.length+([]:List Keyword).length+(if ([]:List Keyword).isEmpty then 0 else 1) < 30))=true) aU)
  (hline:autoParam ((apos.endLine == pos.line)=true) aU):Ev c V (.Call (.Attribute o name apos) es [] pos) U Q X:=λs S=>by
 have hstar:(backTo pos (starEach es c.env)).all (λx=>!x.1)=true:=by
  rw [Bool.and_eq_true,Bool.and_eq_true] at hfew;show hfew.1.1
 show wpAny_Call_method hbase hfew hline pa slot hty ?_;show g.use S λov s₁ a U1 r SA y q=>?_;obtain ⟨b1,b2⟩:=q.1 V s₁ ov SA r;show ⟨b1,b2,on y (callWith_of SA (.cons r .nil) q.2 hstar)⟩
end
section
variable {c:Cx}{V V':List NV}{U U0 U1 U' Y:AA}{h h' B:Heap}{s s₀ s₁ s₂ s':Shared}{Q:AB->AA->Prop}{X:AC->AA->Prop}
noncomputable def Cx.mk' (c:Cx) (C:Addr) (rest:List Value):Cx:={ c with A:=c.A.under (.builtin "type.__call__" ⟨.ref C::rest,[]⟩),lv:=c.lv - 1 }
theorem St.mk' {rest:List Value} (S:St c V U h) (lv:1<=c.lv):St (c.mk' C rest) V U h:=by
 have hu:(c.A.under (.builtin "type.__call__" ⟨.ref C::rest,[]⟩)).units=c.A.units+1:=units_under_make _ _ _;have hd:(c.A.under (.builtin "type.__call__" ⟨.ref C::rest,[]⟩)).depth=c.A.depth+1:=depth_under_make _ _ _;show ⟨⟨S.ok.fr,S.ok.hd,S.ok.gd,?_,?_,S.ok.kind,S.ok.glob,S.ok.blt,S.ok.KG,S.ok.lim,S.ok.bg,S.ok.sm,S.ok.locIn,S.ok.cells,S.ok.cellsOff,S.ok.cellsOf,S.ok.fnEnv,S.ok.fnOwn,S.ok.nodup,S.ok.tame⟩,S.base,S.frames,S.names,S.locs,S.cellsAt,S.vars,S.obj,S.off,S.ownNew⟩
 ·have:=S.ok.depth;change (c.A.under _).depth+8 * (c.lv - 1)<=900;rw [hd];left
 ·have:=S.ok.units;change (c.A.under _).units+40 * (c.lv - 1)<=9000;rw [hu];left
theorem St.of_mk' {rest:List Value} (ok:c.Ok) (S:St (c.mk' C rest) V U h):St c V U h:=⟨ok,S.base,S.frames,S.names,S.locs,S.cellsAt,S.vars,S.obj,S.off,S.ownNew⟩
theorem AE.of_mk' {rest:List Value} (y:AE (c.mk' C rest) U s U' s'):AE c U s U' s':=⟨y.kept,y.there,y.grow,y.gens,y.os⟩
theorem AO.of_mk' {rest:List Value} (ok:c.Ok) (p:AO (c.mk' C rest) V U s X v s'):AO c V U s X v s':=by
 obtain ⟨e,x,U',rfl,S,y,⟨fl,B,P,F,hf⟩,q⟩:=p;show ⟨e,x,U',rfl,S.of_mk' ok,y.of_mk',⟨fl,B,P,⟨F.base,F.all,F.new,F.stays,F.off,F.own,F.noTup,?_⟩,hf⟩,q⟩;obtain ⟨oe,vs,d,m,h1,h2,h3,h4,h5,h6,h7,h8,h9⟩:=F.here;show ⟨oe,vs,d,m,h1,h2,h3,h4,h5,h6,h7,h8,?_⟩;cases fl with
 | none=>show h9
 | some f=>show h9
structure CM (K:Frag) (C fI:Addr):Prop where
 makes:makesIn K C=true
 init:findIn K (.ref C) "__init__" = some (some (.ref fI))
 fn:typeIn K (.ref fI)=some (.type "function")
 keep:keepIn K (.ref C)=true
theorem ev_make (l:AL V f) (n:nsIn c.K mainGlobals f=some (some (.ref C))) (mk:CM c.K C fI) (lv:2<=c.lv) (fi:BV c.G fI fd) (ok:Bd fd) (hb:fd.body=.stmts body)
  (g:Ay c V pos es U (λas U1=>(∀ y∈fd.scope.names.take (as.length+1),y.2=.local\/y.2=.cell)/\(∀ vs s,vs.length=as.length+1->c.G.StaysIn s.heap->BindsTo s fd ⟨vs,[]⟩ ((fd.scope.names.map (·.1)).zip vs)) /\
   ∀ L rest x d,U1 x=none->U1 d=none->x≠d->Al ((c.mk' C rest).call fd fI L) (b7 fd.scope.names (.ref x::as)) body ((U1.set d (.attrs ns λ_=>none)).set x (.inst C d))
    (λ_ U'=>Q (.ref x) U') (λa U'=>a=.none/\Q (.ref x) U') (λe _ U'=>X e U')) X)
  (hstar:autoParam ((backTo pos (starEach es c.env)).all (λx=>!x.1)=true) aU) :
  Ev c V (.Call (.Name f p) es [] pos) U Q X:=λs S=>by
 show wpAny_Call_Name_kw ?_;show bW S l n ?_;have hp:((backTo pos (starEach es c.env)).any (·.1) || (backToKw pos (keywordEach [] c.env)).any (·.1.isNone))=false:=by
  rw [Bool.or_eq_false_iff];show ⟨?_,rfl⟩;rw [EM];intro x hx;have:=List.all_eq_true.mp hstar x hx;simpa using this
 show W.callWith_of (P:=λh=>c.K.In h) hp (keeps_K mk.keep) (bR hstar ?_);show g.use S λvs s₁ as U1 r SA y q=>⟨SA.ok.KG.keeps SA.base,?_⟩
 obtain ⟨hk,hbd,q⟩:=q;obtain ⟨hh,gg,dd,tt,oo⟩:=s₁;have Xk:=SA.ok.KG.keeps SA.base;show wpAny_call (make_core (makes_of Xk mk.makes) (looks_findIn Xk mk.init) (λself=>bind_fn Xk self mk.fn) (.inl rfl) ?_);have hd0:=aj hh;have SB:=SA.alloc (o:=emptyDict) (ao:=.attrs ns λ_=>none) (.attrs (m':=λ_=>none) ⟨_,#[],0,Zz _ rfl,rfl,(by intro e he;simp at he),List.Pairwise.nil,λ_=>rfl⟩ (λy hy=>absurd rfl hy) λ_=>rfl);have S3:=SB.alloc (o:=instObj C hh.objs.size) (ao:=.inst C hh.objs.size) (.inst (Zz _ rfl));rw [show (hh.push emptyDict).objs.size=hh.objs.size+1 from Heap.size_push ..] at S3;have kp:∀ b o,hh.get? b=some o->((hh.push emptyDict).push (instObj C hh.objs.size)).get? b=some o:=λb o e=>Zu _ (Zu _ e);have hx0:hh.get? (hh.objs.size+1)=none:=Heap.get?_none_of_le (Nat.le_succ _);have y3:AE c U1 ⟨hh,gg,dd,tt,oo⟩ ((U1.set hh.objs.size (.attrs ns λ_=>none)).set (hh.objs.size+1) (.inst C hh.objs.size)) ⟨(hh.push emptyDict).push (instObj C hh.objs.size),gg,dd,tt,oo⟩ :=
  ((AE.ext (s:=⟨hh,gg,dd,tt,oo⟩) (t:=tt) kp).tell hd0).tell hx0
 have lv':1<=(c.mk' C vs).lv:=by change 1<=c.lv - 1;left
 have w:=lq (c:=c.mk' C vs) (V:=V) (as:=.ref (hh.objs.size+1)::as) (Q:=λa U'=>a=.none/\Q (.ref (hh.objs.size+1)) U') (X:=X) lv' fi ok hb hk (λvs s hl=>hbd vs s hl)
  (λL=>(q L vs (hh.objs.size+1) hh.objs.size (SA.none_of hx0) (SA.none_of hd0) (Nat.succ_ne_self _)).mono (λ_ _ z=>⟨rfl,z⟩) (λ_ _ z=>z) λ_ _ _ z=>z)
  (.ref (hh.objs.size+1)::vs) ⟨(hh.push emptyDict).push (instObj C hh.objs.size),gg,dd,tt,oo⟩ (S3.mk' s!"o") (.cons (.ref _) (r.keep (ay kp)))
 show codeAny_mono w λrr s' z=>?_;rcases rr with e | (v | _ | _ | _)<;>first | show z.elim | skip
 ·show ((AO.of_mk' SA.ok z).after y3).after y
 ·obtain ⟨a,U',ra,S',y',rfl,hq⟩:=z;cases ra;show ⟨rfl,.ref (hh.objs.size+1),U',.ref _,S'.of_mk' SA.ok,(y.trans y3).trans y'.of_mk',hq⟩
end
section
variable {c:Cx}{V V':List NV}{U U0 U1 U' Y:AA}{h h' B:Heap}{s s₀ s₁ s₂ s':Shared}{Q:AB->AA->Prop}{QB:Bool->AA->Prop}{X:AC->AA->Prop}
variable {N:List NV->AA->Prop}{R:AB->AA->Prop}{XS:AC->List NV->AA->Prop}
abbrev C0 (V:List NV) (N:List NV->AA->Prop) (_:AB) (U':AA):Prop:=N V U'
theorem qo {e:Expr} (g:Ev c V e U (C0 V N) (Av XS V)) (hf:c.fn=true) (hs:autoParam (swapsWith e none p.line c.env=pure false) aU):WS c V (.Expr e p) U N R XS:=λs S=>by
 show wpAny_Expr_any ?_ (by unfold interactive;rw [S.ok.kind];rfl) hs;show g.useS S λv s₁ a U1 r SA y q=>⟨V,U1,SA,y,q⟩
theorem sX {test:Expr} (hf:c.fn=true) (I:Nat->List NV->AA->Prop) (n:Nat) (hi:I n V U)
  (turn:∀ n V1 U1,I n V1 U1->Bn c V1 test U1 (λb U2=>if b then Al c V1 body U2 (λV3 U3=>∃ m,m < n/\I m V3 U3) R XS else N V1 U2) (Av XS V1)):WS c V (.While test body [] p) U N R XS:=λs S=>by
 show wpAny_While ?_;show codeAny_whileLoop (λm s'=>∃ V1 U1,St c V1 U1 s'.heap/\AE c U s U1 s'/\I m V1 U1) (λm s' hh=>?_) n ⟨V,U,S,.refl ..,hi⟩;obtain ⟨V1,U1⟩|⟨SA,yB,i₁⟩:=hh;show Zm (turn m V1 U1 i₁ s' SA) (λb s₂ p=>?_) λ_ _ p=>e9 hf ((AO.toS p).after yB);obtain ⟨b',U2,rfl,SB,yC,g⟩:=p;cases b with
 | false =>
  show wpAny_execs_nil ?_;show ⟨V1,U2,SB,yB.trans yC,g⟩
 | true =>
  show Zm (g s₂ SB) (λf s₃ p=>?_) λ_ _ p=>e9 hf (p.after (yB.trans yC));obtain ⟨V3,U3,S3,y3,q⟩:=p;cases f with
  | next=>show ex1 q λk h2z=>?_;(try clear q);show an2 h2z λhk i₃=>?_;clear h2z;show ⟨k,hk,V3,U3,S3,(yB.trans yC).trans y3,i₃⟩
  | ret v=>show ⟨V3,U3,S3,(yB.trans yC).trans y3,q⟩
  | _=>show q.elim
abbrev DW (Q:AB->AA->Prop) (as:List AB) (U1:AA):Prop:=as.length<=sizeLine/\Q (.tup as) U1
abbrev Db (Q:AB->AA->Prop) (as:List AB) (U1:AA):Prop:=as.length<=sizeLine/\∀ D,U1 D=none->Q (.ref D) (U1.set D (.list as))
theorem ev_tuple (g:Ay c V p es U (DW Q) X):Ev c V (.Tuple es k p) U Q X:=λs S=>by
 show wpAny_Tuple_spliced ?_;show g.use S λvs s₁ as U1 r SA y q=>⟨by rw [r.length];show q.1,?_⟩
 have kp:∀ b o,s₁.heap.get? b=some o->(s₁.heap.push { cls:=.type "tuple",data:=.seq vs.toArray }).get? b=some o:=λb o e=>Zu _ e;show ⟨.tup as,U1,.tup (Zz _ rfl) rfl rfl (r.keep (ay kp)),SA.ext kp,y.trans (AE.ext (t:=s₁.toks) kp),q.2⟩
theorem pJ (S:St c V U s.heap) (r:AW s.heap vs as) (hl:as.length<=sizeLine) (q:∀ D,U D=none->Q (.ref D) (U.set D (.list as))) :
  wpAny (model c.prog c.w) c.A (newList vs) (AR VR c V U s Q) (AO c V U s X) s:=by
 show wpAny_newList ?_ (by rw [r.length];show hl);have kp:∀ b o,s.heap.get? b=some o->(s.heap.push { cls:=.type "list",data:=.seq vs.toArray }).get? b=some o:=λb o e=>Zu _ e;have hn:=aj s.heap;show ⟨.ref s.heap.objs.size,_,.ref _,S.alloc (ao:=.list as) (.list (Zz _ rfl) (r.keep (ay kp))),AE.alloc (t:=s.toks) kp hn,q _ (S.none_of hn)⟩
theorem ev_list (g:Ay c V p es U (Db Q) X):Ev c V (.List es p) U Q X:=λs S=>by
 rw [arm_eval_List];show Zb (wpAny_standAt (Zb (g.use S λvs s₁ as U1 r SA y q=>?_)));show on y (pJ SA r q.1 q.2)
theorem ix {n:Nat} (h0:0<=i) (hn:i.toNat < n):seqIndex? i n=some i.toNat:=by
 unfold seqIndex?;have e:(if i < 0 then i+(n:Int) else i)=i:=Zv (Int.not_lt.mpr h0);have h1:i < (n:Int):=(Int.toNat_lt h0).mp hn;simp only [e];rw [Zw];simp [h0,h1]
theorem tq {n l:Nat} (h:n < l):l - n=l - (n+1)+1:=by rw [Nat.sub_add_eq];show (Nat.sub_add_cancel (Nat.sub_pos_of_lt h)).symm
theorem rj {d:Nat} (h:k<=d):((d:Int) - (k:Nat)).toNat=d - k:=by rw [<- Int.ofNat_sub h];rfl
def A3 (c:Cx) (V:List NV) (a i:AB) (U:AA) (Q:AB->AA->Prop) (X:AC->AA->Prop):Prop:=∀ (s:Shared) (v w:Value),St c V U s.heap->VR s.heap v a->VR s.heap w i ->
 ∃ T id,typeLookup (.type T) "__getitem__" = pure (some (.builtin id))/\s.TypeIs v T/\wpAny (model c.prog c.w) c.A (getItem v w) (AR VR c V U s Q) (AO c V U s X) s
abbrev DN (c:Cx) (V:List NV) (Q:AB->AA->Prop) (X:AC->AA->Prop) (a i:AB) (U2:AA):Prop:=A3 c V a i U2 Q X
theorem ev_subscript {value slice:Expr} (g:Ev c V value U (KE c V slice (DN c V Q X) X) X)
  (hs:∀ o i,subscripted slice false o i=operate [o,i] (getItem o i):=by intros;rfl):Ev c V (.Subscript value slice p) U Q X:=λs S=>by
 rw [eval_Subscript];show Zb (g.use S λo s₁ a U1 r SA y g₁=>?_);show Zb (wpAny_holding (onP y (g₁.use SA λi s₂ b U2 r₂ SB yC g₂=>?_)));obtain ⟨T,id⟩|⟨hl,hT,hg⟩:=(g₂ s₂ o i SB (r.keep (yC.tup SA)) r₂)
 show Zb (wpAny_standAt (Zb ?_));rw [getitemInPython_of_ne hT.not_modules];show Zb (wpAny_specialOf hT hl (Zp ?_));rw [hs];show Zb (wpAny_operating (Zm hg (λrr s₃ z=>?_) λ_ _ z=>((z.after yC).after y)));show Zb (wpAny_letTemporaryGo (Zp ((z.after yC).after y)))
theorem eO {a:Addr}{x:AB} (ha:U a=some (.list xs)) (h0:0<=i) (hi:i < 2 ^ 63) (hx:xs[i.toNat]?=some x) (q:Q x U):A3 c V (.ref a) (.int i) U Q X:=λs v w S r r'=>by
 cases r.ref_inv;obtain ⟨t,rfl⟩:=r'.int_inv;cases S.obj a _ ha with
 | @list vs n _ e rs =>
  obtain ⟨v⟩|⟨hv,rv⟩:=(rs.get hx)
  have hl:s.heap.IsList a vs.toArray:=⟨_,e,rfl,_,rfl⟩
  show ⟨"list",_,slot_list_getitem.lookup,hl.typeIs,wpAny_getItem_list hl h0 hi (by simpa using hv) (.here S rv q)⟩
theorem cG {x:AB} (h0:0<=i) (hi:i < 2 ^ 63) (hx:xs[i.toNat]?=some x) (q:Q x U):A3 c V (.tup xs) (.int i) U Q X:=λs v w S r r'=>by
 obtain ⟨t,rfl⟩:=r'.int_inv;show ex4 r.tup_inv λl ol vs n h8z=>?_;show an5 h8z λh7z e ec ed rs=>?_;clear h8z;obtain rfl:=h7z;obtain ⟨v⟩|⟨hv,rv⟩:=(rs.get hx)
 have ht:IsTup s.heap l vs.toArray:=⟨ol,e,ec,n,ed⟩
 have hn:i.toNat < vs.length:=by
  rcases Nat.lt_or_ge i.toNat vs.length with z | z
  ·show z
  ·rw [EN z] at hv;cases hv
 show ⟨"tuple",_,PyProof.Rows.slot_tuple_getitem.lookup,ht.typeIs,PyProof.Rows.getItem_tuple ht s!"o" hi (ix h0 (by simpa using hn)) (by simpa using hv) (.here S rv q)⟩
theorem pV {xs:Str}{d:Nat} (h0:0<=i) (hi:i < 2 ^ 63) (hx:xs.cps[i.toNat]?=some d) (q:Q (.str ⟨#[d]⟩) U):A3 c V (.str xs) (.int i) U Q X:=λs v w S r r'=>by
 obtain ⟨t,rfl⟩:=r'.int_inv;obtain ⟨u,rfl⟩:=r.str_inv;have hn:i.toNat < xs.length:=by
  rcases Nat.lt_or_ge i.toNat xs.length with z | z
  ·show z
  ·rw [Array.getElem?_eq_none z] at hx;cases hx
 show ⟨"str",_,PyProof.Rows.slot_str_getitem.lookup,typeIs_str s xs u,P.getItem_str (by simp;left) (by rw [ix h0 hn];show hx) (.tok S (.str ..) q)⟩
theorem ev_and1 {e:Expr} (g:Ev c V e U Q X):Ev c V (.BoolOp .And [e] p) U Q X:=λs S=>BoolOp_one (g s S)
theorem ev_or1 {e:Expr} (g:Ev c V e U Q X):Ev c V (.BoolOp .Or [e] p) U Q X:=λs S=>BoolOp_one (g s S)
abbrev Cy (c:Cx) (V:List NV) (K:AB->Bool->AA->Prop) (X:AC->AA->Prop) (a:AB) (U1:AA):Prop:=A5 c V a U1 (K a) X
abbrev C8 (c:Cx) (V:List NV) (e:Expr) (Q:AB->AA->Prop) (X:AC->AA->Prop) (a:AB) (b:Bool) (U2:AA):Prop:=if b then Ev c V e U2 Q X else Q a U2
abbrev Dd (c:Cx) (V:List NV) (e:Expr) (Q:AB->AA->Prop) (X:AC->AA->Prop) (a:AB) (b:Bool) (U2:AA):Prop:=if b then Q a U2 else Ev c V e U2 Q X
abbrev C6 (Q:AB->AA->Prop) (b:Bool) (U2:AA):Prop:=Q (.bool (!b)) U2
theorem ev_and (g:Ev c V e₁ U (Cy c V (C8 c V (.BoolOp .And (e₂::es) p) Q X) X) X):Ev c V (.BoolOp .And (e₁::e₂::es) p) U Q X:=λs S=>by
 show BoolOp_and ?_;show g.use S λv s₁ a U1 r SA y q=>?_;show onP y (AM.use (vs:=[v]) q SA (.cons r .nil) λb s₂ b' U2 e SB yC q₂=>?_);cases e;cases b with
 | true=>show on (y.trans yC) (q₂ s₂ SB)
 | false=>show ⟨a,U2,r.keep (yC.tup SA),SB,y.trans yC,q₂⟩
theorem ev_or (g:Ev c V e₁ U (Cy c V (Dd c V (.BoolOp .Or (e₂::es) p) Q X) X) X):Ev c V (.BoolOp .Or (e₁::e₂::es) p) U Q X:=λs S=>by
 show BoolOp_or ?_;show g.use S λv s₁ a U1 r SA y q=>?_;show onP y (AM.use (vs:=[v]) q SA (.cons r .nil) λb s₂ b' U2 e SB yC q₂=>?_);cases e;cases b with
 | false=>show on (y.trans yC) (q₂ s₂ SB)
 | true=>show ⟨a,U2,r.keep (yC.tup SA),SB,y.trans yC,q₂⟩
theorem ev_not {e:Expr} (g:Ev c V e U (DJ c V (C6 Q) X) X):Ev c V (.UnaryOp .Not e p) U Q X:=λs S=>by
 show wpAny_UnaryOp ?_;show g.use S λv s₁ a U1 r SA y q=>?_;unfold unaryOp;show wpAny_holding ?_;show Zb (onP y (AM.use (vs:=[v]) q SA (.cons r .nil) λb s₂ b' U2 e SB yC q₂=>?_));cases e;show Zp ⟨.bool (!b),U2,.bool _,SB,y.trans yC,q₂⟩
theorem ev_neg (q:Q (.int (-i)) U):Ev c V (.UnaryOp .USub (.Constant (.int i) k p') p) U Q X:=λs S=>by
 show wpAny_UnaryOp (wpAny_Constant_int ?_);show PyProof.Rows.neg_int ?_;show .tok (t:=s.toks+1+1) S (.int _ _) q
theorem e8 {op:CmpOp}{r:Expr}{P:Value->Value->Shared->Prop} (yA:AE c U0 s₀ U s) (S:St c V U s.heap) (ra:VR s.heap v a) {K:AB->AB->AA->Prop}
  (g:Ev c V r U (λb U1=>Au c V op a b U1 (λz U2=>K b z U2) X) X)
  (k:∀ vb vz s₂ b z U2,VR s₂.heap vb b->VR s₂.heap vz z->St c V U2 s₂.heap->AE c U0 s₀ U2 s₂->K b z U2->P vb vz s₂) :
  wpAny (model c.prog c.w) c.A (eval r c.env) (λb s₁=>wpAny (model c.prog c.w) c.A (compareOp op v b) (λz s₂=>P b z s₂) (AO c V U0 s₀ X) s₁) (AO c V U0 s₀ X) s:=by
 show onP yA (g.use S λb s₁ ab U1 rb SA yB g₁=>?_);show onP (yA.trans yB) (AM.use (vs:=[v,b]) g₁ SA (.cons (ra.keep (yB.tup S)) (.cons rb .nil)) λz s₂ az U2 rz SB yC q=>?_);show k b z s₂ ab az U2 (rb.keep (yC.tup SA)) rz SB ((yA.trans yB).trans yC) q
section
variable (c:Cx) (V:List NV) (op1 op2:CmpOp) (r₂:Expr)
abbrev DO (Q:AB->AA->Prop) (X:AC->AA->Prop) (b z:AB) (t:Bool) (U4:AA):Prop:=if t then Ev c V r₂ U4 (CQ c V op2 Q X b) X else Q z U4
abbrev DU (Q:AB->AA->Prop) (X:AC->AA->Prop) (b z:AB) (U3:AA):Prop:=A5 c V z U3 (DO c V op2 r₂ Q X b z) X
abbrev Dp (Q:AB->AA->Prop) (X:AC->AA->Prop) (a b:AB) (U2:AA):Prop:=Au c V op1 a b U2 (DU c V op2 r₂ Q X b) X
abbrev DF (Q:Bool->AA->Prop) (X:AC->AA->Prop) (b:AB) (t:Bool) (U4:AA):Prop:=if t then Ev c V r₂ U4 (CQ c V op2 (DJ c V Q X) X b) X else Q false U4
abbrev DG (Q:Bool->AA->Prop) (X:AC->AA->Prop) (b z:AB) (U3:AA):Prop:=A5 c V z U3 (DF c V op2 r₂ Q X b) X
abbrev DQ (Q:Bool->AA->Prop) (X:AC->AA->Prop) (a b:AB) (U2:AA):Prop:=Au c V op1 a b U2 (DG c V op2 r₂ Q X b) X
end
theorem ev_chain2 {l:Expr}
  (g:Ev c V l U (KE c V r₁ (Dp c V op1 op2 r₂ Q X) X) X)
  (hm:autoParam (lastMarks [op1,op2] [r₁,r₂]=false) aU):Ev c V (.Compare l [op1,op2] [r₁,r₂] p) U Q X:=λs S=>by
 show Compare_chain ?_ hm;show g.use S λv s₁ a U1 ra SA yB g₁=>?_;show chain_link (e8 (K:=λb z U3=>A5 c V z U3 (λt U4=>if t then Ev c V r₂ U4 (λd U5=>Au c V op2 b d U5 Q X) X else Q z U4) X) yB SA ra g₁ λvb vz s₂ b z U2 rb rz SB yC q=>?_);show onP yC (AM.use (vs:=[vz]) q SB (.cons rz .nil) λt s₃ t' U3 e S3 y3 q₃=>?_);cases e;have y:=yC.trans y3;cases t with
 | false=>show ⟨z,U3,rz.keep (y3.tup SB),S3,y,q₃⟩
 | true =>
  show chain_last (e8 (K:=λd z U=>Q z U) y S3 (rb.keep (y3.tup SB)) q₃ λvb' vz' s₄ b' z' U4 _ rz' SD yD q₄=>?_);show ⟨z',U4,rz',SD,yD,q₄⟩
theorem iU {l:Expr}
  (g:Ev c V l U (KE c V r₁ (DQ c V op1 op2 r₂ QB X) X) X)
  (hm:autoParam (lastMarks [op1,op2] [r₁,r₂]=false) aU):Bn c V (.Compare l [op1,op2] [r₁,r₂] p) U QB X:=λs S=>by
 show isTrue_chain ?_ hm;show g.use S λv s₁ a U1 ra SA yB g₁=>?_;show test_link (e8 (K:=λb z U3=>A5 c V z U3 (λt U4=>if t then Ev c V r₂ U4 (λd U5=>Au c V op2 b d U5 (λz U6=>A5 c V z U6 QB X) X) X else QB false U4) X) yB SA ra g₁ λvb vz s₂ b z U2 rb rz SB yC q=>?_);show onP yC (AM.use (vs:=[vz]) q SB (.cons rz .nil) λt s₃ t' U3 e S3 y3 q₃=>?_);cases e;have y:=yC.trans y3;cases t with
 | false=>show ⟨false,U3,rfl,S3,y,q₃⟩
 | true =>
  show test_last (e8 (K:=λd z U=>A5 c V z U QB X) y S3 (rb.keep (y3.tup SB)) q₃ λvb' vz' s₄ b' z' U4 _ rz' SD yD q₄=>?_);show on yD (q₄ [vz'] s₄ SD (.cons rz' .nil))
end
section
variable {K:Type} [DecidableEq K]
noncomputable def vAt (es:List (K × AB)) (k:K):Option AB:=(es.find? λkv=>decide (kv.1=k)).map (·.2)
noncomputable def sto (es:List (K × AB)) (k:K) (v:AB):List (K × AB):=if es.any (λkv=>decide (kv.1=k)) then es.map (λkv=>if kv.1=k then (kv.1,v) else kv) else es++[(k,v)]
noncomputable def wout (es:List (K × AB)) (k:K):List (K × AB):=es.filter λkv=>decide (kv.1≠k)
variable {h:Heap}
theorem Aw.at {kvs:List (K × Value)}{es:List (K × AB)} (k:K) (r:Aw h kvs es):(valueAt kvs k=none/\vAt es k=none)\/∃ v a,valueAt kvs k=some v/\vAt es k=some a/\VR h v a:=by
 induction r with
 | nil=>show .inl ⟨rfl,rfl⟩
 | @cons k' _ _ _ _ x _ ih =>
  by_cases e:k'=k
  ·show .inr ⟨_,_,by simp [valueAt,e],by simp [vAt,e],x⟩
  ·simpa [valueAt,vAt,e] using ih
theorem Aw.at_some {kvs:List (K × Value)}{es:List (K × AB)}{k:K} (r:Aw h kvs es) (e:vAt es k=some a):∃ v,valueAt kvs k=some v/\VR h v a:=by
 rcases r.at k with ⟨_,q⟩ | ⟨v,b,q1,q2,q3⟩
 ·rw [e] at q;cases q
 ·rw [e] at q2;cases q2;show ⟨v,q1,q3⟩
theorem Aw.at_isSome {kvs:List (K × Value)}{es:List (K × AB)} (k:K) (r:Aw h kvs es):(valueAt kvs k).isSome=(vAt es k).isSome:=by
 rcases r.at k with ⟨p,q⟩ | ⟨v,b,q1,q2,q3⟩
 ·rw [p,q];rfl
 ·rw [q1,q2];rfl
theorem Aw.any {kvs:List (K × Value)}{es:List (K × AB)} (k:K) (r:Aw h kvs es):(kvs.any λkv=>decide (kv.1=k))=es.any λkv=>decide (kv.1=k):=by
 induction r with
 | nil=>rfl
 | cons _ _ ih=>simp only [EO,ih]
theorem Aw.app {kvs lvs:List (K × Value)}{es ls:List (K × AB)} (r:Aw h kvs es) (q:Aw h lvs ls):Aw h (kvs++lvs) (es++ls):=by
 induction r with
 | nil=>show q
 | cons x _ ih=>show .cons x ih
theorem Aw.stored {kvs:List (K × Value)}{es:List (K × AB)}{k:K} (r:Aw h kvs es) (x:VR h v a):Aw h (stored kvs k v) (sto es k a):=by
 unfold PySem.stored sto;rw [<- r.any k];split
 ·have:∀ {kvs:List (K × Value)}{es:List (K × AB)},Aw h kvs es->Aw h (kvs.map λkv=>if kv.1=k then (kv.1,v) else kv) (es.map λkv=>if kv.1=k then (kv.1,a) else kv):=by
   intro kvs es r
   induction r with
   | nil=>show .nil
   | @cons k' _ _ _ _ y _ ih =>
    rw [E5,E5];by_cases e:k'=k
    ·simp only [e,if_true];show .cons x ih
    ·simp only [e,if_false];show .cons y ih
  show this r
 ·show r.app (.cons x .nil)
theorem Aw.without {kvs:List (K × Value)}{es:List (K × AB)}{k:K} (r:Aw h kvs es):Aw h (without kvs k) (wout es k):=by
 unfold PySem.without wout
 induction r with
 | nil=>show .nil
 | @cons k' _ _ _ _ y _ ih =>
  rw [EP,EP];by_cases e:k'=k
  ·simp only [e,ne_eq,not_true_eq_false,decide_false,Bool.false_eq_true,if_false];show ih
  ·simp only [e,ne_eq,not_false_eq_true,decide_true,if_true];show .cons y ih
theorem Aw.get {kvs:List (K × Value)}{es:List (K × AB)} (r:Aw h kvs es):∀ {i:Nat}{k:K}{x:Value},kvs[i]?=some (k,x)->∃ a,es[i]?=some (k,a):=by
 induction r with
 | nil=>intro i k x e;simp at e
 | cons _ _ ih =>
  intro i k x e;cases i with
  | zero=>cases e;show ⟨_,rfl⟩
  | succ i=>simpa using ih (by simpa using e)
end
section
variable {c:Cx}{V V':List NV}{U U0 U1 U' Y:AA}{h h' B:Heap}{s s₀ s₁ s₂ s':Shared}{Q:AB->AA->Prop}{QB:Bool->AA->Prop}{X:AC->AA->Prop}
variable {N:List NV->AA->Prop}{R:AB->AA->Prop}{XS:AC->List NV->AA->Prop}
theorem St.notMods (S:St c V U h) {o:AY} (hd:U d=some o):(d == sysModules)=false:=by
 obtain ⟨ob,e⟩:=S.ok.sm;show beq_eq_false_iff_ne.mpr λq=>?_;have:=(S.off d o hd).1;rw [q,e] at this;cases this
theorem isS (x:Str) (t:Tok):(strKind c.prog c.w).is x (.str x t)=true:=strKind_is _ _ x t
theorem isI (x:Int) (t:Tok):(intKind c.prog c.w).is x (.int x t)=true:=intKind_is _ _ x t
theorem qi {es:List (Str × AB)}{k:Str} (hd:U d=some (.dictS es)) (q:Q (.bool (vAt es k).isSome) U):Au c V .In (.str k) (.ref d) U Q X:=λvs s S r=>by
 apply r.two';intro v w a b;apply a.str';intro t;apply b.ref';show (S.obj d _ hd).dictS' λ_ e rs=>?_;show wpAny_in_of (isS k t) (S.notMods hd) e.mapOf (.tok S (by rw [rs.at_isSome k];show .bool _) q)
theorem jM {es:List (Str × AB)}{k:Str} (hd:U d=some (.dictS es)) (q:Q (.bool (!(vAt es k).isSome)) U):Au c V .NotIn (.str k) (.ref d) U Q X:=λvs s S r=>by
 apply r.two';intro v w a b;apply a.str';intro t;apply b.ref';show (S.obj d _ hd).dictS' λ_ e rs=>?_;show wpAny_notIn_of (isS k t) (S.notMods hd) e.mapOf (.tok S (by rw [rs.at_isSome k];show .bool _) q)
theorem tz {es:List (Int × AB)}{k:Int} (hd:U d=some (.dictI es)) (q:Q (.bool (vAt es k).isSome) U):Au c V .In (.int k) (.ref d) U Q X:=λvs s S r=>by
 apply r.two';intro v w a b;apply a.int';intro t;apply b.ref';show (S.obj d _ hd).dictI' λ_ e rs=>?_;show wpAny_in_of (isI k t) (S.notMods hd) e.mapOf (.tok S (by rw [rs.at_isSome k];show .bool _) q)
theorem o8 {es:List (Int × AB)}{k:Int} (hd:U d=some (.dictI es)) (q:Q (.bool (!(vAt es k).isSome)) U):Au c V .NotIn (.int k) (.ref d) U Q X:=λvs s S r=>by
 apply r.two';intro v w a b;apply a.int';intro t;apply b.ref';show (S.obj d _ hd).dictI' λ_ e rs=>?_;show wpAny_notIn_of (isI k t) (S.notMods hd) e.mapOf (.tok S (by rw [rs.at_isSome k];show .bool _) q)
theorem ak {es:List (Str × AB)}{k:Str} (hd:U d=some (.dictS es)) (ha:vAt es k=some a) (q:Q a U):A3 c V (.ref d) (.str k) U Q X:=λs v w S r r'=>by
 apply r.ref';apply r'.str';intro t;show (S.obj d _ hd).dictS' λ_ e rs=>?_;obtain ⟨v⟩|⟨hv,rv⟩:=(rs.at_some ha)
 show ⟨"dict",_,slot_dict_getitem.lookup,e.typeIs,wpAny_getItem_of (isS k t) e.mapOf hv (.tok S rv q)⟩
theorem AW.set {h:Heap}{j:Nat} (r:AW h vs as) (y:VR h v a):AW h (vs.set j v) (as.set j a):=by
 induction as generalizing vs j with
 | nil=>cases r;show .nil
 | cons b as ih=>cases r with | cons x r=>cases j with
  | zero=>show .cons y r
  | succ j=>show .cons x (ih r)
theorem AW.of_get {h:Heap} (hl:vs.length=as.length) (hh:∀ (j:Nat) (v:Value) (a:AB),vs[j]?=some v->as[j]?=some a->VR h v a):AW h vs as:=by
 induction as generalizing vs with
 | nil=>rw [List.length_eq_zero_iff.mp hl];show .nil
 | cons a as ih=>cases vs with
  | nil=>cases hl
  | cons v vs=>show .cons (hh 0 v a rfl rfl) (ih (Nat.succ.inj hl) λj v a p q=>hh (j+1) v a p q)
def BJ (c:Cx) (V:List NV) (o i v:AB) (U:AA) (N:AA->Prop) (X:AC->AA->Prop):Prop:=∀ (s:Shared) (ov iv vv:Value),St c V U s.heap->VR s.heap ov o->VR s.heap iv i->VR s.heap vv v ->
 wpAny (model c.prog c.w) c.A (setItem ov iv vv) (λ_ s'=>∃ U',St c V U' s'.heap/\AE c U s U' s'/\N U') (AO c V U s X) s
abbrev Dq (c:Cx) (V:List NV) (N:List NV->AA->Prop) (XS:AC->List NV->AA->Prop) (v a b:AB) (U3:AA):Prop:=BJ c V a b v U3 (N V) (Av XS V)
abbrev Dy (c:Cx) (V:List NV) (i:Expr) (N:List NV->AA->Prop) (XS:AC->List NV->AA->Prop) (v a:AB) (U2:AA):Prop:=Ev c V i U2 (Dq c V N XS v a) (Av XS V)
theorem jT {i value:Expr} (g:Ev c V value U (KE c V o (Dy c V i N XS) (Av XS V)) (Av XS V))
  (hs:autoParam (swapsWith value (some (.Subscript o i pa)) p.line c.env=pure false) aU):WS c V (.Assign [.Subscript o i pa] value p) U N R XS:=λs S=>by
 show wpAny_Assign_Subscript ?_ hs;show g.useS S λv s₁ a U1 r SA y q=>?_;show Zm (q.use SA (P:=λov s₂=>wpAny (model c.prog c.w) c.A (eval i c.env) (λiv s₃=>wpAny (model c.prog c.w) c.A (setItem ov iv v) (λ_=>Ao c U s N R .next) (AS c U s XS) s₃) (AS c U s XS) s₂) λov s₂ b U2 r₂ SB yC q₂=>?_) (λ_ _ z=>z) λ_ _ z=>AS.after y z.toS;show Zm (q₂.use SB (P:=λiv s₃=>wpAny (model c.prog c.w) c.A (setItem ov iv v) (λ_=>Ao c U s N R .next) (AS c U s XS) s₃) λiv s₃ d U3 r₃ S3 y3 q₃=>?_) (λ_ _ z=>z) λ_ _ z=>AS.after (y.trans yC) z.toS;show Zm (q₃ s₃ ov iv v S3 (r₂.keep (y3.tup SB)) r₃ ((r.keep (yC.tup SA)).keep (y3.tup SB))) (λ_ s₄ z=>?_) λ_ _ z=>AS.after ((y.trans yC).trans y3) z.toS;obtain ⟨U4⟩|⟨SD,yD,hN⟩:=z;show ⟨V,U4,SD,((y.trans yC).trans y3).trans yD,hN⟩
theorem dE {a:Addr}{v:AB} (ha:U a=some (.list xs)) (h0:0<=i) (hi:i < 2 ^ 63) (hn:i < xs.length) (q:M (U.set a (.list (xs.set i.toNat v)))):BJ c V (.ref a) (.int i) v U M X:=λs ov iv vv S ro ri rv=>by
 apply ro.ref';apply ri.int';intro t;show (S.obj a _ ha).list' λvs n e rs=>?_;have hl:=rs.length;show ki_setAt e h0 hi (by rw [E8,hl];show hn) ?_;have hd':∃ n',(s.heap.update a (Obj.mapSeq (·.setIfInBounds i.toNat vv))).get? a=some { cls:=.type "list",data:=.seq (vs.set i.toNat vv).toArray n' }:=by
  have:=Heap.get?_update_self (Obj.mapSeq (·.setIfInBounds i.toNat vv)) e rfl;rw [this];have q:vs.toArray.setIfInBounds i.toNat vv=(vs.set i.toNat vv).toArray:=s!"s";simp only [Obj.mapSeq,q];show ⟨_,rfl⟩
 obtain ⟨n',hd'⟩:=hd';have hs:Heap.SameBut a s.heap (s.heap.update a (Obj.mapSeq (·.setIfInBounds i.toNat vv))):=Heap.SameBut.update ..;have tt:=aP hs.extBut e λq=>by simp at q
 have R':OR c.prog c.w (s.heap.update a (Obj.mapSeq (·.setIfInBounds i.toNat vv))) a (.list (xs.set i.toNat v)):=.list hd' ((rs.set rv).keep tt);show ⟨_,S.upd ha hs.extBut R',AE.upd (t:=s.toks) ha hs.extBut R',q⟩
theorem br {es:List (Str × AB)}{k:Str}{v:AB} (hd:U d=some (.dictS es)) (hz:es.length<=sizeLine) (q:M (U.set d (.dictS (sto es k v)))):BJ c V (.ref d) (.str k) v U M X:=λs ov iv vv S ro ri rv=>by
 apply ro.ref';apply ri.str';intro t;show (S.obj d _ hd).dictS' λ_ e rs=>?_;show wpAny_setItem_pairs (isS k t) e (λh' e' hs=>?_) (by rw [rs.length];show hz);obtain ⟨ob⟩|⟨eo,nn⟩:=((S.obj d _ hd).here)
 have tt:AH s.heap h':=aP hs.extBut eo nn;have R':OR c.prog c.w h' d (.dictS (sto es k v)):=.dictS e' ((rs.stored rv).keep tt);show ⟨_,S.upd hd hs.extBut R',AE.upd (t:=s.toks+1) hd hs.extBut R',q⟩
theorem lh {es:List (Int × AB)}{k:Int}{v:AB} (hd:U d=some (.dictI es)) (hz:es.length<=sizeLine) (q:M (U.set d (.dictI (sto es k v)))):BJ c V (.ref d) (.int k) v U M X:=λs ov iv vv S ro ri rv=>by
 apply ro.ref';apply ri.int';intro t;show (S.obj d _ hd).dictI' λ_ e rs=>?_;show wpAny_setItem_pairs (isI k t) e (λh' e' hs=>?_) (by rw [rs.length];show hz);obtain ⟨ob⟩|⟨eo,nn⟩:=((S.obj d _ hd).here)
 have tt:AH s.heap h':=aP hs.extBut eo nn;have R':OR c.prog c.w h' d (.dictI (sto es k v)):=.dictI e' ((rs.stored rv).keep tt);show ⟨_,S.upd hd hs.extBut R',AE.upd (t:=s.toks+1) hd hs.extBut R',q⟩
theorem iQ {es:List (Str × AB)}{k:Str} (hd:U d=some (.dictS es)) (ha:vAt es k=some a) (hz:es.length<=sizeLine) (q:Q a (U.set d (.dictS (wout es k)))) :
  AM VR c V [.ref d,.str k] (λvs=>call (.builtin "dict.pop") vs) U Q X:=λvs s S r=>by
 apply r.two';intro v w x y;apply x.ref';apply y.str';intro t;show (S.obj d _ hd).dictS' λkvs e rs=>?_;obtain ⟨v⟩|⟨hv,rv⟩:=(rs.at_some ha)
 show call_meetsIn PySem.F.slot_dict_pop e.typeIs PySem.F.entry_dict_pop (PySem.F.args_dict_pop_2 _ _) (meets_dict_pop_there _ d (isS k t) [] (.inl rfl) rfl) ⟨kvs,v,e,(by rw [rs.length];show hz),hv,λh' e' hs=>?_⟩;obtain ⟨ob⟩|⟨eo,nn⟩:=((S.obj d _ hd).here)
 have tt:AH s.heap h':=aP hs.extBut eo nn;have R':OR c.prog c.w h' d (.dictS (wout es k)):=.dictS e' (rs.without.keep tt);show ⟨a,_,rv.keep tt,S.upd hd hs.extBut R',AE.upd (t:=s.toks+1) hd hs.extBut R',q⟩
theorem tw {es:List (Str × AB)}{k:Str} (hd:U d=some (.dictS es)) (q:Q ((vAt es k).getD a) U) :
  AM VR c V [.ref d,.str k,a] (λvs=>call (.builtin "dict.get") vs) U Q X:=λvs s S r=>by
 cases r with | @cons v _ vs _ x r =>
 apply r.two';intro u w y z;apply x.ref';apply y.str';intro t;show (S.obj d _ hd).dictS' λkvs e rs=>?_;show call_meetsIn PySem.F.slot_dict_get e.typeIs PySem.F.entry_dict_get (PySem.F.args_dict_get_3 _ _ _) (meets_dict_get_default _ d (isS k t) (S.notMods hd) w) ⟨_,e.mapOf,?_⟩;show .tok S ?_ q;rcases rs.at k with ⟨q1,q2⟩ | ⟨v,b,q1,q2,q3⟩
 ·rw [q1,q2];show z
 ·rw [q1,q2];show q3
theorem ja {es:List (Str × AB)} (hd:U d=some (.dictS es)) (hz:es.length<=sizeLine) (q:∀ D,U D=none->Q (.ref D) (U.set D (.list (es.map λe=>.str e.1)))) (cm:autoParam (c.calm=true) aM) :
  AM VR c V [.ref d] (λvs=>call (.type "list") vs) U Q X:=λvs s S r=>by
 apply r.one';intro v x;apply x.ref';show (S.obj d _ hd).dictS' λkvs e rs=>?_;obtain ⟨ep,hat⟩:=e.dictAt;show kdl_call (kdl_dict (knd:=strKind c.prog c.w) (kvs:=kvs) (ep:=ep) (S.notMods hd)) (S.ok.hd cm) hat (by rw [rs.length];show hz) λh' tk acc' c' hk hD hacc=>?_;have hn:=aj s.heap;have va:AW h' acc'.toList (es.map λe=>.str e.1):=AW.of_get (by rw [Array.length_toList,EQ,hacc.1,rs.length]) λj u b hu hb=>by
  obtain ⟨k,x⟩|⟨hx,hk⟩:=(hacc.2 j u (by rw [<- Array.getElem?_toList];show hu))
  obtain ⟨t,rfl⟩:=Value.isStrOf_shape hk;obtain ⟨a',ha'⟩:=rs.get hx;rw [ER,ha'] at hb;cases hb;show .str k t
 show ⟨.ref _,_,.ref _,(S.ext hk).add (.list (by rw [Array.toArray_toList];show hD) va) (S.new_off hn),(AE.ext (t:=tk) hk).tell hn,q _ (S.none_of hn)⟩
end
section
variable {c:Cx}{V V':List NV}{U U0 U1 U' Y:AA}{h h' B:Heap}{s s₀ s₁ s₂ s':Shared}{Q:AB->AA->Prop}{QB:Bool->AA->Prop}{X:AC->AA->Prop}
inductive Cr (h:Heap):List (Value × Value)->List (Str × AB)->Prop
 | nil:Cr h [] []
 | cons {k:Str}{t:Tok}{v:Value}{a:AB}{vs:List (Value × Value)}{as:List (Str × AB)}:VR h v a->Cr h vs as->Cr h ((.str k t,v)::vs) ((k,a)::as)
theorem Cr.carries {h:Heap}{vs:List (Value × Value)}{as:List (Str × AB)} (r:Cr h vs as):∃ kvs,Carries (strKind c.prog c.w) vs kvs/\Aw h kvs as:=by
 induction r with
 | nil=>show ⟨[],trivial,.nil⟩
 | @cons k t v a vs as x _ ih=>show ex1 ih λkvs h1z=>?_;(try clear ih);show an2 h1z λq1 q2=>?_;clear h1z;show ⟨(k,v)::kvs,⟨isS k t,rfl,q1⟩,.cons x q2⟩
noncomputable def mrg (acc es:List (Str × AB)):List (Str × AB):=es.foldl (λacc e=>sto acc e.1 e.2) acc
theorem Aw.merged {kvs more:List (Str × Value)}{es m:List (Str × AB)} (r:Aw h kvs es) (q:Aw h more m):Aw h (merged kvs more) (mrg es m):=by
 unfold PySem.merged mrg
 induction q generalizing kvs es with
 | nil=>show r
 | cons x _ ih=>show ih (r.stored x)
abbrev DL (c:Cx) (V:List NV) (pos:Pos) (ks:List (Option Expr)) (vs:List Expr) (U:AA) (Q:List (Str × AB)->AA->Prop) (X:AC->AA->Prop):Prop:=Go Cr c V (evalPairs (pairTrees ks vs c.env pos)) U Q X
theorem gN {Q:List (Str × AB)->AA->Prop} (q:Q [] U):DL c V pos [] [] U Q X:=λs S=>pairTrees_nil_walk (.here S .nil q)
abbrev Dv (kk:Str) (Q:List (Str × AB)->AA->Prop) (a:AB) (es:List (Str × AB)) (U3:AA):Prop:=Q ((kk,a)::es) U3
abbrev Ds (c:Cx) (V:List NV) (pos:Pos) (ks:List (Option Expr)) (vs:List Expr) (kk:Str) (Q:List (Str × AB)->AA->Prop) (X:AC->AA->Prop) (a:AB) (U2:AA):Prop:=DL c V pos ks vs U2 (Dv kk Q a) X
inductive C5 (c:Cx) (V:List NV) (pos:Pos) (v:Expr) (ks:List (Option Expr)) (vs:List Expr) (Q:List (Str × AB)->AA->Prop) (X:AC->AA->Prop) (ka:AB) (U1:AA):Prop
 | mk (kk:Str) (e:ka=.str kk) (q:Ev c V v U1 (Ds c V pos ks vs kk Q X) X)
abbrev Dz (Q:AB->AA->Prop) (es:List (Str × AB)) (U1:AA):Prop:=∀ D,U1 D=none->Q (.ref D) (U1.set D (.dictS (mrg [] es)))
theorem bH {k v:Expr}{vs:List Expr}{Q:List (Str × AB)->AA->Prop}
  (g:Ev c V k U (C5 c V pos v ks vs Q X) X):DL c V pos (some k::ks) (v::vs) U Q X:=λs S=>by
 show pairTrees_cons_walk ?_;show g.use S λkv s₁ ka U1 rk SA yB q₁=>?_;obtain ⟨kk,rfl,q₁⟩:=q₁;apply rk.str';intro t;show onP yB (q₁.use SA (P:=λvv s₂=>wpAny (model c.prog c.w) c.A (evalPairs (pairTrees ks vs c.env pos)) (λr s₃=>AR Cr c V U s Q ((.str kk t,vv)::r) s₃) (AO c V U s X) s₂) λvv s₂ a U2 rv SB yC q₂=>?_);show Zm (q₂ s₂ SB) (λr s₃ p=>?_) λ_ _ z=>z.after (yB.trans yC);obtain ⟨es,U3,rr,S3,y3,q₃⟩:=p;show ⟨_,U3,.cons (rv.keep (y3.tup SB)) rr,S3,(yB.trans yC).trans y3,q₃⟩
theorem ev_dict {vs:List Expr} (g:DL c V p ks vs U (Dz Q) X)
  (hall:autoParam (ks.all (·.isSome)=true) aU) (hl:autoParam (ks.length=vs.length) aU) (h0:ks≠[]:=by simp) (hlen:ks.length<=15:=by decide):Ev c V (.Dict ks vs p) U Q X:=λs S=>by
 show wpAny_Dict_walk (knd:=strKind c.prog c.w) hall hl h0 hlen ?_;have hn:=aj s.heap;have kp:∀ b o,s.heap.get? b=some o->(s.heap.push { cls:=.type "dict",data:=.dict #[] }).get? b=some o:=λb o e=>Zu _ e;have yA:AE c U s U { s with heap:=s.heap.push { cls:=.type "dict",data:=.dict #[] } }:=AE.ext (t:=s.toks) kp;have S0:St c V U (s.heap.push { cls:=.type "dict",data:=.dict #[] }):=S.ext kp;have fD:=S.new_off hn;have hD0:(s.heap.push { cls:=.type "dict",data:=.dict #[] }).get? s.heap.objs.size=some { cls:=.type "dict",data:=.dict #[] }:=Zz _ rfl;show onP yA (Go.use (s:={ s with heap:=s.heap.push { cls:=.type "dict",data:=.dict #[] } }) g S0 λvs' s₁ es U1 r SA yB q=>?_);obtain ⟨kvs⟩|⟨hc,rk⟩:=(r.carries (c:=c))
 have hD1:=yB.exact hD0 (S.none_of hn) fD.2.1 fD.2.2.1;have nD:U1 s.heap.objs.size=none:=yB.grow _ _ hD0 (S.none_of hn);show ⟨kvs,hc,⟨_,#[],0,hD1,⟨rfl,rfl,rfl⟩,rfl,(λe he=>by simp at he),.nil,ES⟩,λh' hd hs=>?_⟩;have t:AH s₁.heap h':=aP hs.extBut hD1 λq=>by simp at q
 have SB:St c V U1 h':=SA.move (W:=λb=>b=s.heap.objs.size) (λb o nb e=>hs.extBut b o nb e) (λb z=>z ▸ fD.1) (λb hb z=>fD.2.1 (z ▸ hb)) (λb hb z=>fD.2.2.1 (z ▸ hb)) (λx hx z=>fD.2.2.2 x hx z.symm) (λb o e z=>by rw [z,nD] at e;cases e) t;have R':OR c.prog c.w h' s.heap.objs.size (.dictS (mrg [] es)):=.dictS hd ((Aw.merged .nil rk).keep t);show ⟨.ref _,_,.ref _,SB.add R' fD,((yA.trans yB).later (t:=s₁.toks+vs'.length) (λb o nb e=>hs.extBut b o nb e) hn).tell hn,q _ nD⟩
theorem ev_dict_nil (ao:AY) (ha:ao=.dictS []\/ao=.dictI []\/ao=.dictT [] 0) (q:∀ D,U D=none->Q (.ref D) (U.set D ao)):Ev c V (.Dict [] [] p) U Q X:=λs S=>by
 show wpAny_Dict_empty ?_;have hn:=aj s.heap;have kp:∀ b o,s.heap.get? b=some o->(s.heap.push { cls:=.type "dict",data:=.dict #[] }).get? b=some o:=λb o e=>Zu _ e;have R':OR c.prog c.w (s.heap.push { cls:=.type "dict",data:=.dict #[] }) s.heap.objs.size ao:=by
  rcases ha with rfl | rfl | rfl
  ·show .dictS (.new _) .nil
  ·show .dictI (.new _) .nil
  ·show .dictT (.new _) ⟨_,_,Zz _ rfl,rfl⟩ .nil
 show ⟨.ref _,_,.ref _,S.alloc R',AE.alloc (t:=s.toks) kp hn,q _ (S.none_of hn)⟩
end
theorem dk {ns:List Int}:∀ {vs:List Value},AW h vs (ns.map .int)->IntsAre vs ns:=by
 induction ns with
 | nil=>intro vs r;cases r;show .nil
 | cons n ns ih=>intro vs r;cases r with | cons x r=>apply x.int';intro t;show .cons n t (ih r)
theorem p7 {ns:List Int} (r:IntsAre vs ns):AW h vs (ns.map .int):=by
 induction r with
 | nil=>show .nil
 | cons n t _ ih=>show .cons (.int n t) ih
theorem fh :∀ {vs:List Value},AW h vs (ns.map .str)->StrsAre vs ns:=by
 induction ns with
 | nil=>intro vs r;cases r;show .nil
 | cons n ns ih=>intro vs r;cases r with | cons x r=>apply x.str';intro t;show .cons n t (ih r)
theorem tB (r:StrsAre vs ns):AW h vs (ns.map .str):=by
 induction r with
 | nil=>show .nil
 | cons n t _ ih=>show .cons (.str n t) ih
section
variable {c:Cx}{V V':List NV}{U U0 U1 U' Y:AA}{h h' B:Heap}{s s₀ s₁ s₂ s':Shared}{Q:AB->AA->Prop}{QB:Bool->AA->Prop}{X:AC->AA->Prop}
theorem vsz (r:AW h vs as):vs.toArray.size=as.length:=by rw [E8,r.length]
theorem jN {h':Heap}{n:Nat} (S:St c V U s.heap) (hk:∀ b o,s.heap.get? b=some o->h'.get? b=some o) (hD:h'.get? D=some { cls:=.type "list",data:=.seq vs.toArray n }) (hn:s.heap.get? D=none)
  (r:AW h' vs as) (q:∀ D,U D=none->Q (.ref D) (U.set D (.list as))):AR VR c V U s Q (.ref D) { s with heap:=h',toks:=t } :=
 ⟨.ref _,_,.ref _,(S.ext hk).add (.list hD r) (S.new_off hn),(AE.ext (t:=t) hk).tell hn,q _ (S.none_of hn)⟩
theorem jm {ns:List Int} (hl:U l=some (.list (ns.map .int))) (hz:ns.length < 64) (q:∀ ns':List Int,ns'.Perm ns->ns'.Pairwise (·<=·)->∀ D,U D=none->Q (.ref D) (U.set D (.list (ns'.map .int)))) :
  AM VR c V [.ref l] (λvs=>call (.builtin "sorted") vs) U Q X:=λvs s S r=>by
 apply r.one';intro v x;apply x.ref';show (S.obj l _ hl).list' λvs n e rs=>?_;show sorted_ints ⟨_,e,rfl,_,rfl⟩ (dk rs) (by rw [rs.length,EQ];show hz) λout ns' a1 a2 a3=>?_;obtain ⟨m,he⟩:=sortedAll_at s.heap vs out;show jN (t:=s.toks) (vs:=out.toList) S (λ_ _=>sortedAll_old) (by rw [Array.toArray_toList];show he) (Heap.get?_none_of_le (Nat.le_succ _)) (p7 a1) (q ns' a2 a3)
theorem jt (hl:U l=some (.list (ns.map .str))) (hz:ns.length < 64) (q:∀ ns':List Str,ns'.Perm ns->sortedS ns'=true->∀ D,U D=none->Q (.ref D) (U.set D (.list (ns'.map .str)))) :
  AM VR c V [.ref l] (λvs=>call (.builtin "sorted") vs) U Q X:=λvs s S r=>by
 apply r.one';intro v x;apply x.ref';show (S.obj l _ hl).list' λvs n e rs=>?_;show sorted_strs ⟨_,e,rfl,_,rfl⟩ (fh rs) (by rw [rs.length,EQ];show hz) λout ns' a1 a2 a3=>?_;obtain ⟨m,he⟩:=sortedAll_at s.heap vs out;show jN (t:=s.toks) (vs:=out.toList) S (λ_ _=>sortedAll_old) (by rw [Array.toArray_toList];show he) (Heap.get?_none_of_le (Nat.le_succ _)) (tB a1) (q ns' a2 a3)
theorem aq (hl:U l=some (.list xs)) (hz:xs.length<=sizeLine) (q:Q (.tup xs) U):AM VR c V [.ref l] (λvs=>call (.type "tuple") vs) U Q X:=λvs s S r=>by
 apply r.one';intro v x;apply x.ref';show (S.obj l _ hl).list' λvs n e rs=>?_;show call_tuple_list ⟨_,e,rfl,_,rfl⟩ (λh' hk=>?_) (by rw [vsz rs];show hz);have kp:∀ b o,s.heap.get? b=some o->(h'.push { cls:=.type "tuple",data:=.seq vs.toArray }).get? b=some o:=λb o e=>Zu _ (hk b o e);show ⟨.tup xs,U,.tup (Zz _ rfl) rfl rfl (rs.keep (ay kp)),S.ext kp,AE.ext (t:=s.toks) kp,q⟩
theorem jh (q:Q (.tup xs) U):AM VR c V [.tup xs] (λvs=>call (.type "tuple") vs) U Q X:=λvs s S r=>by
 apply r.one';intro v x;obtain ⟨l,ol,vs,n⟩|⟨rfl,e,ec,ed,rs⟩:=(id x.tup_inv)
 show call_tuple_same ⟨ol,e,ec,n,ed⟩ (.here S x q)
theorem jV (hz:xs.length<=sizeLine) (q:∀ D,U D=none->Q (.ref D) (U.set D (.list xs))):AM VR c V [.tup xs] (λvs=>call (.type "list") vs) U Q X:=λvs s S r=>by
 apply r.one';intro v x;show ex4 x.tup_inv λl ol vs n h16z=>?_;show an5 h16z λh15z e ec ed rs=>?_;clear h16z;obtain rfl:=h15z;show call_list_seq (T := "tuple") l (.inr rfl) e ec ed (λh' c' hk hD=>?_) (by rw [vsz rs];show hz);show jN (t:=s.toks) S hk hD (aj _) (rs.keep (ay hk)) q
theorem bI (hl:U l=some (.list xs)) (hz:(xs.length:Int) < 2 ^ 63) (q:Q (.int xs.length) U):AM VR c V [.ref l] (λvs=>call (.builtin "len") vs) U Q X:=λvs s S r=>by
 apply r.one';intro v x;apply x.ref';show (S.obj l _ hl).list' λvs n e rs=>?_;show Calls.call_len_list ⟨_,e,rfl,_,rfl⟩ (by rw [vsz rs];show hz) (.tok (t:=s.toks+1+1) S ?_ q);rw [vsz rs];show .int _ _
theorem dZ (hz:(xs.length:Int) < 2 ^ 63) (q:Q (.int xs.length) U):AM VR c V [.tup xs] (λvs=>call (.builtin "len") vs) U Q X:=λvs s S r=>by
 apply r.one';intro v x;show ex4 x.tup_inv λl ol vs n h22z=>?_;show an5 h22z λh21z e ec ed rs=>?_;clear h22z;obtain rfl:=h21z;show len_tuple (items:=vs.toArray) ⟨ol,e,ec,n,ed⟩ (by rw [vsz rs];show hz) (.tok (t:=s.toks+1+1) S ?_ q);rw [vsz rs];show .int _ _
theorem iZ {x:Str} (hz:(x.length:Int) < 2 ^ 63) (q:Q (.int x.length) U):AM VR c V [.str x] (λvs=>call (.builtin "len") vs) U Q X:=λvs s S r=>by
 apply r.one';intro v y;apply y.str';intro t;show P.len_str s!"o" (.tok (t:=s.toks+1+1) S (.int _ _) q)
theorem eY {a:Addr} (ha:U a=some (.list xs)) (hb:U b=some (.list ys)) (hz:xs.length+ys.length<=sizeLine) (q:∀ D,U D=none->Q (.ref D) (U.set D (.list (xs++ys)))):Bw c V .Add (.ref a) (.ref b) U Q X:=λvs s S r=>by
 apply r.two';intro v w x y;apply x.ref';apply y.ref';show (S.obj a _ ha).list' λvs n e rs=>?_;show (S.obj b _ hb).list' λws m e' rs'=>?_;show P.add_list e e' ?_ (by rw [vsz rs,vsz rs'];show hz);have kp:∀ b o,s.heap.get? b=some o->(s.heap.push { cls:=.type "list",data:=.seq (vs.toArray++ws.toArray) }).get? b=some o:=λb o e=>Zu _ e;show jN (t:=s.toks) (vs:=vs++ws) (n:=0) S kp ?_ (aj _) ((rs.append rs').keep (ay kp)) q;rw [Zz _ rfl];simp
theorem tH (hz:xs.length+ys.length<=sizeLine) (q:Q (.tup (xs++ys)) U):Bw c V .Add (.tup xs) (.tup ys) U Q X:=λvs s S r=>by
 apply r.two';intro v w x y;obtain ⟨l,ol,vs,n⟩|⟨rfl,e,ec,ed,rs⟩:=(id x.tup_inv)
 obtain ⟨l2,ol2,ws,n2⟩|⟨rfl,e2,ec2,ed2,rs2⟩:=(id y.tup_inv)
 obtain ⟨cls,dd,data,sl⟩:=ol;obtain ⟨cls2,dd2,data2,sl2⟩:=ol2;simp only at ec ed ec2 ed2;subst ec ed ec2 ed2;by_cases hv:vs=[]
 ·subst hv;cases rs;show concat_meets ⟨_,e,rfl⟩ ⟨_,e2,rfl⟩ noFill_tuple_add seq_tuple_add PySem.F.slot_tuple_add PySem.F.entry_tuple_add (PySem.F.args_tuple_add_2 _ _)
   (tuple_addW0 l l2 _ ws.toArray n n2 dd dd2 sl sl2 s!"s") ⟨e,e2,.here S y q⟩
 ·by_cases hw:ws=[]
  ·subst hw;cases rs2;rw [ET] at q;show concat_meets ⟨_,e,rfl⟩ ⟨_,e2,rfl⟩ noFill_tuple_add seq_tuple_add PySem.F.slot_tuple_add PySem.F.entry_tuple_add (PySem.F.args_tuple_add_2 _ _)
    (tuple_addW1 l l2 vs.toArray _ n n2 dd dd2 sl sl2 (by simpa using hv) s!"s") ⟨e,e2,.here S x q⟩
  ·show concat_meets ⟨_,e,rfl⟩ ⟨_,e2,rfl⟩ noFill_tuple_add seq_tuple_add PySem.F.slot_tuple_add PySem.F.entry_tuple_add (PySem.F.args_tuple_add_2 _ _)
    (tuple_addW2 l l2 vs.toArray ws.toArray n n2 dd dd2 sl sl2 (by simpa using hv) (by simpa using hw) (by rw [vsz rs,vsz rs2];show hz)) ⟨e,e2,?_⟩
   have kp:∀ b o,s.heap.get? b=some o->(s.heap.push { cls:=.type "tuple",data:=.seq (vs.toArray++ws.toArray) }).get? b=some o:=λb o e=>Zu _ e;show ⟨.tup _,U,.tup (vs:=vs++ws) (n:=0) (Zz _ rfl) rfl s!"s" ((rs.append rs2).keep (ay kp)),S.ext kp,AE.ext (t:=s.toks) kp,q⟩
theorem ct (hl:U l=some (.list xs)) (hz:xs.length<=sizeLine) (q:Q .none (U.set l (.list (xs++[a])))):AM VR c V [.ref l,a] (λvs=>call (.builtin "list.append") vs) U Q X:=λvs s S r=>by
 apply r.two';intro v w x y;apply x.ref';show (S.obj l _ hl).list' λvs n e rs=>?_;show wpAny_list_append_plain ⟨n,e⟩ (λh' e' hs=>?_) (by rw [vsz rs];show hz);obtain ⟨m,e'⟩:=e';have tt:AH s.heap h':=aP hs.extBut e λq=>by simp at q
 have R':OR c.prog c.w h' l (.list (xs++[a])):=.list (vs:=vs++[w]) (n:=m) (by rw [e'];simp) ((rs.append (.cons y .nil)).keep tt);show ⟨.none,_,.none,S.upd hl hs.extBut R',AE.upd (t:=s.toks) hl hs.extBut R',q⟩
end
open PySem.SeqAt
mutual
inductive B9 (U:AA):Nat->AB->AB->Prop
 | none {n:Nat}:B9 U n .none .none
 | bool {n:Nat}{b:Bool}:B9 U n (.bool b) (.bool b)
 | int {n:Nat}{i:Int}:B9 U n (.int i) (.int i)
 | str {n:Nat}{x:Str}:B9 U n (.str x) (.str x)
 | bytes {n:Nat}{b:Array UInt8}{t:Tok}:B9 U n (.bytes b t) (.bytes b t)
 | ref {n:Nat}{a:Addr}:B9 U n (.ref a) (.ref a)
 | tup {n:Nat}{xs ys:List AB}:A4 U n xs ys->B9 U (n+1) (.tup xs) (.tup ys)
 | list {n:Nat}{l m:Addr}{xs ys:List AB}:U l=some (.list xs)->U m=some (.list ys)->A4 U n xs ys->B9 U (n+1) (.ref l) (.ref m)
inductive A4 (U:AA):Nat->List AB->List AB->Prop
 | nil {n:Nat}:A4 U n [] []
 | cons {n:Nat}{a b:AB}{as bs:List AB}:B9 U n a b->A4 U n as bs->A4 U n (a::as) (b::bs)
end
theorem A4.length {n:Nat}:∀ {bs:List AB},A4 U n as bs->as.length=bs.length:=by
 induction as with
 | nil=>intro bs r;cases r;rfl
 | cons a as ih=>intro bs r;cases r with | cons _ r=>show congrArg (·+1) (ih r)
section
variable {c:Cx}{V V':List NV}{U U0 U1 U' Y:AA}{h h' B:Heap}{s s₀ s₁ s₂ s':Shared}{Q:AB->AA->Prop}{QB:Bool->AA->Prop}{X:AC->AA->Prop}
theorem pS {A:Around}{y x:Value}{b d:Bool} (e:b=d) (z:EqAt A s y x b):EqAt A s y x d:=e ▸ z
theorem te {A:Around}{y x:Value}{b d:Bool} (e:b=d) (z:RcAt A s y x b):RcAt A s y x d:=e ▸ z
theorem gG (n:Nat):(List.range n).all (λ_=>true)=true:=s!"s"
abbrev DR (s:Shared) (n:Nat) (a b:AB):Prop:=∀ {A:Around}{v w:Value},VR s.heap v a->VR s.heap w b->A.units+n < cLine->EqAt A s v w true
abbrev Cz (s:Shared) (n:Nat) (as bs:List AB):Prop:=∀ {A:Around}{vs ws:List Value},AW s.heap vs as->AW s.heap ws bs->A.units+n < cLine->∀ (j:Nat) (h1:j < vs.length) (h2:j < ws.length),EqAt A s vs[j] ws[j] true
theorem A4.eqAt (S:St c V U s.heap) {n:Nat}{bs:List AB} (z:A4 U n as bs):Cz s n as bs:=by
 show A4.rec (motive_1:=λn a b _=>DR s n a b) (motive_2:=λn as bs _=>Cz s n as bs) ?_ ?_ ?_ ?_ ?_ ?_ ?_ ?_ ?_ ?_ z
 ·intro n A v w r r' _;apply r.none';apply r'.none';show .same _
 ·intro n b A v w r r' _;apply r.bool';apply r'.bool';show .same _
 ·intro n i A v w r r' _;apply r.int';intro t;apply r'.int';intro u;show pS s!"s" ((MeetsSeq.EqGives.int _ _ t u).at _ s)
 ·intro n x A v w r r' _;apply r.str';intro t;apply r'.str';intro u;show pS s!"s" ((eqGives_str _ _ t u).at _ s)
 ·intro n b t A v w r r' _;apply r.bytes';apply r'.bytes';show .same _
 ·intro n a A v w r r' _;apply r.ref';apply r'.ref';show .same _
 ·intro n xs ys z ih A v w r r' hu;show ex4 r.tup_inv λl ol vs k h6z=>?_;show an5 h6z λh5z e ec ed rs=>?_;clear h6z;obtain rfl:=h5z;show ex4 r'.tup_inv λl2 ol2 ws k2 h8z=>?_;show an5 h8z λh7z e2 ec2 ed2 rs2=>?_;clear h8z;obtain rfl:=h7z;by_cases q:l=l2
  ·subst q;show .same _
  ·show .of_refs q (te ?_ (RcAt.tuples (e:=λ_=>true) (items:=vs.toArray) (items2:=ws.toArray) ⟨ol,e,ec,k,ed⟩ ⟨ol2,e2,ec2,k2,ed2⟩ s!"o" λj h1 h2=>by
    have:=ih rs rs2 (A:=A.in1) (by change A.units+1+n < _;left) j (by simpa using h1) (by simpa using h2)
    simpa using this))
   rw [gG,vsz rs,vsz rs2,z.length];simp
 ·intro n l m xs ys ha hb z ih A v w r r' hu;apply r.ref';apply r'.ref';by_cases q:l=m
  ·subst q;show .same _
  ·cases S.obj l _ ha with
   | @list vs k _ e rs =>
    show (S.obj m _ hb).list' λws k2 e2 rs2=>?_
    show .of_refs q (te ?_ (RcAt.lists (e:=λ_=>true) (items:=vs.toArray) (items2:=ws.toArray) ⟨_,e,rfl,_,rfl⟩ ⟨_,e2,rfl,_,rfl⟩ (by rw [vsz rs,vsz rs2,z.length]) s!"o" λj h1 h2=>by
     have:=ih rs rs2 (A:=A.in1) (by change A.units+1+n < _;left) j (by simpa using h1) (by simpa using h2)
     simpa using this))
    rw [gG]
 ·intro n A vs ws r r' _ j h1;cases r;simp at h1
 ·intro n a b as bs z zs ih1 ih2 A vs ws r r' hu j h1 h2;cases r with
  | cons x r =>
   cases r' with
   | cons y r' =>
    cases j with
    | zero=>show ih1 x y hu
    | succ j=>show ih2 r r' hu j (by simpa using h1) (by simpa using h2)
end
theorem sv (xs ys:List Str):((List.range (min xs.length ys.length)).all (λj=>xs[j]?.getD default == ys[j]?.getD default) && xs.length == ys.length)=decide (xs=ys):=by
 rw [Bool.eq_iff_iff];simp only [Bool.and_eq_true,EU,EV,beq_iff_eq,decide_eq_true_eq];constructor
 ·intro r1z;obtain ⟨h1,h2⟩:=r1z;show List.ext_getElem h2 λi hi hj=>?_;have:=h1 i s!"o";simpa [hi,hj] using this
 ·rintro rfl;show ⟨λ_ _=>rfl,rfl⟩
theorem k6 {A:Around}{ws:List Value}{xs ys:List Str} (r:AW s.heap vs (xs.map .str)) (r':AW s.heap ws (ys.map .str)) (j:Nat) (h1:j < vs.length) (h2:j < ws.length) :
  EqAt A s vs[j] ws[j] (xs[j]?.getD default == ys[j]?.getD default):=by
 have l1:j < xs.length:=by have:=r.length;rw [EQ] at this;left
 have l2:j < ys.length:=by have:=r'.length;rw [EQ] at this;left
 obtain ⟨v⟩|⟨hv,rv⟩:=(r.get (i:=j) (a:=.str xs[j]) (by simp [l1]))
 obtain ⟨w⟩|⟨hw,rw'⟩:=(r'.get (i:=j) (a:=.str ys[j]) (by simp [l2]))
 rcases rv.str_inv with ⟨t,rfl⟩
 rcases rw'.str_inv with ⟨u,rfl⟩
 rw [EW h1] at hv;rw [EW h2] at hw;rw [Option.some.inj hv,Option.some.inj hw];show pS ?_ ((eqGives_str _ _ t u).at _ s);simp [l1,l2]
section
variable {c:Cx}{V V':List NV}{U U0 U1 U' Y:AA}{h h' B:Heap}{s s₀ s₁ s₂ s':Shared}{Q:AB->AA->Prop}{QB:Bool->AA->Prop}{X:AC->AA->Prop}
theorem r7:cLine=9900:=rfl
theorem St.room (S:St c V U h) {n:Nat} (hn:n<=800):c.A.units+n < cLine:=by
 have:=S.ok.units;rw [r7];left
theorem qs {xs ys:List Str} (q:Q (.bool (decide (xs=ys))) U):Au c V .Eq (.tup (xs.map .str)) (.tup (ys.map .str)) U Q X:=λvs s S r=>by
 apply r.two';intro v w x y;show ex4 x.tup_inv λl ol vs k h8z=>?_;show an5 h8z λh7z e ec ed rs=>?_;clear h8z;obtain rfl:=h7z;show ex4 y.tup_inv λl2 ol2 ws k2 h10z=>?_;show an5 h10z λh9z e2 ec2 ed2 rs2=>?_;clear h10z;obtain rfl:=h9z
 show eq_tupleAt (items:=vs.toArray) (items2:=ws.toArray) ⟨ol,e,ec,k,ed⟩ ⟨ol2,e2,ec2,k2,ed2⟩ (S.room (n:=0) s!"o") (λj h1 h2=>by
  have:=k6 (A:=c.A.in1) rs rs2 j (by simpa using h1) (by simpa using h2)
  simpa using this) ?_
 rw [vsz rs,vsz rs2,EQ,EQ,sv];show .here S (.bool _) q
theorem mE {xs ys:List Str} (q:Q (.bool (!decide (xs=ys))) U):Au c V .NotEq (.tup (xs.map .str)) (.tup (ys.map .str)) U Q X:=λvs s S r=>by
 apply r.two';intro v w x y;show ex4 x.tup_inv λl ol vs k h14z=>?_;show an5 h14z λh13z e ec ed rs=>?_;clear h14z;obtain rfl:=h13z;show ex4 y.tup_inv λl2 ol2 ws k2 h16z=>?_;show an5 h16z λh15z e2 ec2 ed2 rs2=>?_;clear h16z;obtain rfl:=h15z
 show RcNeAt.tuples (items:=vs.toArray) (items2:=ws.toArray) ⟨ol,e,ec,k,ed⟩ ⟨ol2,e2,ec2,k2,ed2⟩ (S.room (n:=0) s!"o") (λj h1 h2=>by
  have:=k6 (A:=c.A.in1) rs rs2 j (by simpa using h1) (by simpa using h2)
  simpa using this) _ _ _ _ ?_
 rw [vsz rs,vsz rs2,EQ,EQ,sv];show .here S (.bool _) q
theorem qZ {a:Addr} (ha:U a=some (.list xs)) (hb:U b=some (.list [])) (q:Q (.bool xs.isEmpty) U):Au c V .Eq (.ref a) (.ref b) U Q X:=λvs s S r=>by
 apply r.two';intro v w x y;apply x.ref';apply y.ref';show (S.obj a _ ha).list' λvs n e rs=>?_;show (S.obj b _ hb).list' λws m e2 rs2=>?_;cases rs2;have fin:∀ b,b=xs.isEmpty->AR VR c V U s Q (.bool b) s:=λb e=>e ▸ .here S (.bool _) q;cases xs with
 | nil=>cases rs;show eq_listAt (e:=λ_=>true) ⟨_,e,rfl,_,rfl⟩ ⟨_,e2,rfl,_,rfl⟩ rfl (S.room (n:=0) s!"o") (λj h1=>by simp at h1) (fin _ rfl)
 | cons x xs=>show eq_list_lengthsAt ⟨_,e,rfl,_,rfl⟩ ⟨_,e2,rfl,_,rfl⟩ (by rw [vsz rs];simp) (S.room (n:=0) s!"o") (fin _ rfl)
theorem rF {a:Addr} (ha:U a=some (.list xs)) (hb:U b=some (.list [])) (q:Q (.bool (!xs.isEmpty)) U):Au c V .NotEq (.ref a) (.ref b) U Q X:=λvs s S r=>by
 apply r.two';intro v w x y;apply x.ref';apply y.ref';show (S.obj a _ ha).list' λvs n e rs=>?_;show (S.obj b _ hb).list' λws m e2 rs2=>?_;cases rs2;have fin:∀ b,b=!xs.isEmpty->AR VR c V U s Q (.bool b) s:=λb e=>e ▸ .here S (.bool _) q;cases xs with
 | nil=>cases rs;show RcNeAt.lists (e:=λ_=>true) ⟨_,e,rfl,_,rfl⟩ ⟨_,e2,rfl,_,rfl⟩ rfl (S.room (n:=0) s!"o") (λj h1=>by simp at h1) _ _ _ _ (fin _ rfl)
 | cons x xs=>show RcNeAt.lists_lengths ⟨_,e,rfl,_,rfl⟩ ⟨_,e2,rfl,_,rfl⟩ (by rw [vsz rs];simp) (S.room (n:=0) s!"o") _ _ _ _ (fin _ rfl)
theorem gL {n:Nat} (z:A4 U n xs ys) (hn:n<=700) (q:Q (.bool false) U):Au c V .NotEq (.tup xs) (.tup ys) U Q X:=λvs s S r=>by
 apply r.two';intro v w x y;show ex4 x.tup_inv λl ol vs k h24z=>?_;show an5 h24z λh23z e ec ed rs=>?_;clear h24z;obtain rfl:=h23z;show ex4 y.tup_inv λl2 ol2 ws k2 h26z=>?_;show an5 h26z λh25z e2 ec2 ed2 rs2=>?_;clear h26z;obtain rfl:=h25z
 show RcNeAt.tuples (e:=λ_=>true) (items:=vs.toArray) (items2:=ws.toArray) ⟨ol,e,ec,k,ed⟩ ⟨ol2,e2,ec2,k2,ed2⟩ (S.room (n:=0) s!"o") (λj h1 h2=>by
  have:=A4.eqAt S z rs rs2 (A:=c.A.in1) (by have:=S.room (n:=n+1) s!"o";change c.A.units+1+n < _;left) j (by simpa using h1) (by simpa using h2)
  simpa using this) _ _ _ _ ?_
 rw [gG,vsz rs,vsz rs2,z.length];show .here S (by simpa using VR.bool false) q
theorem sg {n:Nat}{a:Addr} (ha:U a=some (.list xs)) (hb:U b=some (.list ys)) (z:A4 U n xs ys) (hn:n<=700) (q:Q (.bool false) U):Au c V .NotEq (.ref a) (.ref b) U Q X:=λvs s S r=>by
 apply r.two';intro v w x y;apply x.ref';apply y.ref';show (S.obj a _ ha).list' λvs k e rs=>?_;show (S.obj b _ hb).list' λws m e2 rs2=>?_
 show RcNeAt.lists (e:=λ_=>true) (items:=vs.toArray) (items2:=ws.toArray) ⟨_,e,rfl,_,rfl⟩ ⟨_,e2,rfl,_,rfl⟩ (by rw [vsz rs,vsz rs2,z.length]) (S.room (n:=0) s!"o") (λj h1 h2=>by
  have:=A4.eqAt S z rs rs2 (A:=c.A.in1) (by have:=S.room (n:=n+1) s!"o";change c.A.units+1+n < _;left) j (by simpa using h1) (by simpa using h2)
  simpa using this) _ _ _ _ ?_
 rw [gG];show .here S (by simpa using VR.bool false) q
theorem lV {x y:Bool} (q:Q (.bool (!(x == y))) U):Au c V .NotEq (.bool x) (.bool y) U Q X:=λvs s S r=>by
 apply r.two';intro v w a b;apply a.bool';apply b.bool';show RcNeAt.bool_bool x y _ _ _ _ (.here S (.bool _) q)
theorem jn {xs:List Str}{x:Str} (hl:U l=some (.list (xs.map .str))) (q:Q (.bool (xs.any (· == x))) U):Au c V .In (.str x) (.ref l) U Q X:=λvs s S r=>by
 apply r.two';intro v w a b;apply a.str';intro t;apply b.ref';show (S.obj l _ hl).list' λvs k e rs=>?_;show in_list_strs ⟨_,e,rfl,_,rfl⟩ (fh rs) (.here S (.bool _) q)
theorem eA {xs:List Str}{x:Str} (hl:U l=some (.list (xs.map .str))) (q:Q (.bool (!(xs.any (· == x)))) U):Au c V .NotIn (.str x) (.ref l) U Q X:=λvs s S r=>by
 apply r.two';intro v w a b;apply a.str';intro t;apply b.ref';show (S.obj l _ hl).list' λvs k e rs=>?_;show notin_list_strs ⟨_,e,rfl,_,rfl⟩ (fh rs) (.here S (.bool _) q)
theorem rP {xs:List Int}{x:Int} (hl:U l=some (.list (xs.map .int))) (q:Q (.bool (xs.any (· == x))) U):Au c V .In (.int x) (.ref l) U Q X:=λvs s S r=>by
 apply r.two';intro v w a b;apply a.int';intro t;apply b.ref';show (S.obj l _ hl).list' λvs k e rs=>?_;show in_list_ints ⟨_,e,rfl,_,rfl⟩ (dk rs) (.here S (.bool _) q)
theorem iz {xs:List Int}{x:Int} (hl:U l=some (.list (xs.map .int))) (q:Q (.bool (!(xs.any (· == x)))) U):Au c V .NotIn (.int x) (.ref l) U Q X:=λvs s S r=>by
 apply r.two';intro v w a b;apply a.int';intro t;apply b.ref';show (S.obj l _ hl).list' λvs k e rs=>?_;show notin_list_ints ⟨_,e,rfl,_,rfl⟩ (dk rs) (.here S (.bool _) q)
theorem bp {xs:List Str}{x:Str} (q:Q (.bool (xs.any (· == x))) U):Au c V .In (.str x) (.tup (xs.map .str)) U Q X:=λvs s S r=>by
 apply r.two';intro v w a b;apply a.str';intro t;show ex4 b.tup_inv λl ol vs k h47z=>?_;show an5 h47z λh46z e ec ed rs=>?_;clear h47z;obtain rfl:=h46z;show in_tuple_strs (items:=vs.toArray) ⟨_,e,ec,_,ed⟩ (fh rs) (.here S (.bool _) q)
theorem dn {xs:List Str}{x:Str} (q:Q (.bool (!(xs.any (· == x)))) U):Au c V .NotIn (.str x) (.tup (xs.map .str)) U Q X:=λvs s S r=>by
 apply r.two';intro v w a b;apply a.str';intro t;show ex4 b.tup_inv λl ol vs k h52z=>?_;show an5 h52z λh51z e ec ed rs=>?_;clear h52z;obtain rfl:=h51z;show notin_tuple_strs (items:=vs.toArray) ⟨_,e,ec,_,ed⟩ (fh rs) (.here S (.bool _) q)
theorem sL {xs:List Int}{x:Int} (q:Q (.bool (xs.any (· == x))) U):Au c V .In (.int x) (.tup (xs.map .int)) U Q X:=λvs s S r=>by
 apply r.two';intro v w a b;apply a.int';intro t;show ex4 b.tup_inv λl ol vs k h57z=>?_;show an5 h57z λh56z e ec ed rs=>?_;clear h57z;obtain rfl:=h56z;show in_tuple_ints (items:=vs.toArray) ⟨_,e,ec,_,ed⟩ (dk rs) (.here S (.bool _) q)
theorem m4 {xs:List Int}{x:Int} (q:Q (.bool (!(xs.any (· == x)))) U):Au c V .NotIn (.int x) (.tup (xs.map .int)) U Q X:=λvs s S r=>by
 apply r.two';intro v w a b;apply a.int';intro t;show ex4 b.tup_inv λl ol vs k h62z=>?_;show an5 h62z λh61z e ec ed rs=>?_;clear h62z;obtain rfl:=h61z;show notin_tuple_ints (items:=vs.toArray) ⟨_,e,ec,_,ed⟩ (dk rs) (.here S (.bool _) q)
theorem mV {x:Str} (q:Q (.bool (!(Builtin.Str.occurrences x y 0 x.length 1).isEmpty)) U):Au c V .In (.str y) (.str x) U Q X:=by
 show vS ?_;intro s t u S;show PyProof.Rows.in_str (.here S (.bool _) q)
theorem iu {x:Str} (q:Q (.bool (!(!(Builtin.Str.occurrences x y 0 x.length 1).isEmpty))) U):Au c V .NotIn (.str y) (.str x) U Q X:=by
 show vS ?_;intro s t u S;show P.notIn_str (.here S (.bool _) q)
end
section
variable {c:Cx}{V V':List NV}{U U0 U1 U' Y:AA}{h h' B:Heap}{s s₀ s₁ s₂ s':Shared}{Q:AB->AA->Prop}{QB:Bool->AA->Prop}{X:AC->AA->Prop}
theorem AW.drop {h:Heap} (r:AW h vs as):AW h (vs.drop k) (as.drop k):=by
 induction k generalizing vs as with
 | zero=>show r
 | succ k ih=>cases r with
  | nil=>show .nil
  | cons _ r=>show ih r
theorem AR.ext {h':Heap} (S:St c V U s.heap) (k:∀ b o,s.heap.get? b=some o->h'.get? b=some o) (r:VR h' v a) (q:Q a U):AR VR c V U s Q v { s with heap:=h',toks:=t } :=
 ⟨a,U,r,S.ext k,AE.ext k,q⟩
def DD (h h':Heap):Prop:=∀ b o,h.get? b=some o->h'.get? b=some o
theorem jz (h:Heap):KeptH (DD h):=λ_ _ k b o e=>Zu _ (k b o e)
def Bq:Option Int->Value->Prop
 | none,v=>v=.none
 | some i,v=>∃ t,v=.int i t
theorem Bq.is:∀ {i:Option Int}{v:Value},Bq i v->IsPart v i
 | none,_,e=>by cases e;show .none
 | some i,_,⟨t,e⟩=>by cases e;show .int i t
inductive CZ (Q:Option Int->AA->Prop) (a:AB) (U1:AA):Prop
 | mk (i:Int) (e:a=.int i) (q:Q (some i) U1)
def BU (c:Cx) (V:List NV):Option Expr->AA->(Option Int->AA->Prop)->(AC->AA->Prop)->Prop
 | none,U,Q,_=>Q none U
 | some e,U,Q,X=>Ev c V e U (CZ Q) X
def BC (c:Cx) (V:List NV) (a:AB) (i j:Option Int) (U:AA) (Q:AB->AA->Prop) (X:AC->AA->Prop):Prop:=∀ (s:Shared) (v vl vu:Value),St c V U s.heap->VR s.heap v a->Bq i vl->Bq j vu ->
 ItemOn (model c.prog c.w) c.A (AO c V U s X) v (.ref s.heap.objs.size) (AR VR c V U s Q) { s with heap:=s.heap.push { cls:=.type "slice",data:=.fields #[vl,vu,.none] } }
theorem ll {e:Option Expr}{K:Option Int->AA->Prop}{P:Value->Shared->Prop} (g:BU c V e U K X) (S:St c V U s.heap) (k:∀ v s₁ i U1,Bq i v->St c V U1 s₁.heap->AE c U s U1 s₁->K i U1->P v s₁) :
  wpAny (model c.prog c.w) c.A (evalPart e c.env) P (AO c V U s X) s:=by
 cases e with
 | none=>show evalPart_none_step (k .none s none U rfl S (.refl ..) g)
 | some e =>
  show evalPart_some_step (Go.use g S λv s₁ a U1 r SA y q=>?_);obtain ⟨i,rfl,q⟩:=q;show k v s₁ (some i) U1 r.int_inv SA y q
abbrev DT (c:Cx) (V:List NV) (a:AB) (i:Option Int) (Q:AB->AA->Prop) (X:AC->AA->Prop) (j:Option Int) (U3:AA):Prop:=BC c V a i j U3 Q X
abbrev De (c:Cx) (V:List NV) (hi:Option Expr) (a:AB) (Q:AB->AA->Prop) (X:AC->AA->Prop) (i:Option Int) (U2:AA):Prop:=BU c V hi U2 (DT c V a i Q X) X
abbrev D0 (c:Cx) (V:List NV) (lo hi:Option Expr) (Q:AB->AA->Prop) (X:AC->AA->Prop) (a:AB) (U1:AA):Prop:=BU c V lo U1 (De c V hi a Q X) X
theorem ev_slice {value:Expr}{lo hi:Option Expr} (g:Ev c V value U (D0 c V lo hi Q X) X):Ev c V (.Subscript value (.Slice lo hi none p') p) U Q X:=λs S=>by
 rw [eval_Subscript];show Zb (g.use S λo s₁ a U1 r SA y g₁=>?_);show Zb (wpAny_holding (wpAny_Slice (onP y (ll g₁ SA λvl s₂ i U2 pl SB yC g₂=>?_))));show onP (y.trans yC) (ll g₂ SB λvu s₃ j U3 pu S3 y3 g₃=>?_);have yy:=(y.trans yC).trans y3;obtain ⟨T,id⟩|⟨hl,hT,hg⟩:=(g₃ s₃ o vl vu S3 ((r.keep (yC.tup SA)).keep (y3.tup SB)) pl pu)
 show evalPart_none_step ?_;show Zb (wpAny_standAt (Zb ?_));rw [getitemInPython_of_ne hT.not_modules];show Zb (wpAny_specialOf hT hl (Zp ?_));change wpAny _ _ (operate [_,_] (getItem o _) >>= _) _ _ _;show Zb (wpAny_operating (Zm hg (λrr s₄ z=>?_) λ_ _ z=>z.after yy));show Zb (wpAny_letTemporaryGo (Zp (z.after yy)))
theorem lC {x:Str} (hz:x.length<=sizeLine) (q:Q (.str (Txt.slice x none (some j))) U):BC c V (.str x) none (some j) U Q X:=λs v vl vu S r pl pu=>by
 apply r.str';intro t;cases pl;obtain ⟨u,rfl⟩:=pu;show SBH.sliceItem_ns (jz s.heap) (λ_ _ e=>e) (λh' t' k P=>.ext S P (.str _ _) q) hz
theorem js {x:Str} (hz:x.length<=sizeLine) (q:Q (.str (Txt.slice x (some j) none)) U):BC c V (.str x) (some j) none U Q X:=λs v vl vu S r pl pu=>by
 apply r.str';intro t;cases pu;obtain ⟨u,rfl⟩:=pl;show SBH.sliceItem_sn (jz s.heap) (λ_ _ e=>e) (λh' t' k P=>.ext S P (.str _ _) q) hz
theorem i9 (h1:1<=k) (hk:k<=xs.length) (hz:xs.length<=sizeLine) (q:Q (.tup (xs.drop k)) U):BC c V (.tup xs) (some (k:Int)) none U Q X:=λs v vl vu S r pl pu=>by
 show ex4 r.tup_inv λl ol vs n h7z=>?_;show an5 h7z λh6z e ec ed rs=>?_;clear h7z;obtain rfl:=h6z;cases pu;obtain ⟨u,rfl⟩:=pl;have kp:∀ b o,s.heap.get? b=some o->(s.heap.push { cls:=.type "slice",data:=.fields #[.int k u,.none,.none] }).get? b=some o:=λb o e=>Zu _ e;have ht:IsTup (s.heap.push { cls:=.type "slice",data:=.fields #[.int k u,.none,.none] }) l vs.toArray:=⟨ol,kp _ _ e,ec,n,ed⟩
 show ⟨"tuple",_,PyProof.Rows.slot_tuple_getitem.lookup,ht.typeIs,getItem_tuple_from (s:={ s with heap:=s.heap.push { cls:=.type "slice",data:=.fields #[.int k u,.none,.none] } }) ht (Heap.IsSliceOf.new ..) h1 (by rw [vsz rs];show hk) ?_ (by rw [vsz rs];show hz)⟩;have kp2:∀ b o,s.heap.get? b=some o->((s.heap.push { cls:=.type "slice",data:=.fields #[.int k u,.none,.none] }).push { cls:=.type "tuple",data:=.seq (vs.toArray.toList.drop k).toArray }).get? b=some o:=λb o e=>Zu _ (kp b o e);show .ext (t:=s.toks) S kp2 (.tup (vs:=vs.drop k) (n:=0) (Zz _ rfl) rfl s!"s" (AW.drop (rs.keep (ay kp2)))) q
theorem sA {d:Nat} (q:Q (.int d) U):AM VR c V [.str ⟨#[d]⟩] (λvs=>call (.builtin "ord") vs) U Q X:=λvs s S r=>by
 apply r.one';intro v y;apply y.str';intro t;show P.ord_of_char (.tok S (.int _ _) q)
theorem uc (h0:0<=i) (h1:i<=0x10FFFF) (q:Q (.str ⟨#[i.toNat]⟩) U):AM VR c V [.int i] (λvs=>call (.builtin "chr") vs) U Q X:=λvs s S r=>by
 apply r.one';intro v y;apply y.int';intro t;show P.chr_of_int (by simp;left) (.tok S (.str _ _) q)
theorem td (q:Q (.int (if j < i then j else i)) U) (cm:autoParam (c.calm=true) aM):AM VR c V [.int i,.int j] (λvs=>call (.builtin "min") vs) U Q X:=λvs s S r=>by
 apply r.two';intro v w x y;apply x.int';intro t;apply y.int';intro u;show min_two_ints (S.ok.hd cm) λh' tk k=>.ext S k ?_ q;split<;>show .int _ _
theorem sN (q:Q (.int (if i < 0 then -i else i)) U):AM VR c V [.int i] (λvs=>call (.builtin "abs") vs) U Q X:=λvs s S r=>by
 apply r.one';intro v y;apply y.int';intro t;show call_abs_int λu tk=>.tok S (.int _ _) q
theorem uA (q:Q (.int i) U):AM VR c V [.int i] (λvs=>call (.type "int") vs) U Q X:=λvs s S r=>by
 apply r.one';intro v y;apply y.int';intro t;show call_int_int (.here S (.int _ _) q)
theorem sw {ns:List Int} (hl:U l=some (.list (ns.map .int))) (hr:∀ n∈ns,0<=n/\n < 256) (hz:ns.length<=sizeLine) (q:∀ t,Q (.bytes (byteArr ns) t) U) (cm:autoParam (c.calm=true) aM):AM VR c V [.ref l] (λvs=>call (.type "bytes") vs) U Q X:=λvs s S r=>by
 apply r.one';intro v x;apply x.ref';show (S.obj l _ hl).list' λvs n e rs=>?_;show call_bytes_ints ⟨_,e,rfl,_,rfl⟩ (dk rs) hr (by rw [rs.length,EQ];show hz) (S.ok.hd cm) λh' t k kk=>.ext S kk (.bytes _ _) (q t)
theorem jR {x:Str} (hz:x.length<=5592405) (q:Q (.str (Txt.lower x)) U):AM VR c V [.str x] (λvs=>call (.builtin "str.lower") vs) U Q X:=λvs s S r=>by
 apply r.one';intro v y;apply y.str';intro t;show SCL.lower hz λ_=>.tok S (.str _ _) q
theorem tD {x:Str} (q:Q (.int (Txt.find x y)) U):AM VR c V [.str x,.str y] (λvs=>call (.builtin "str.find") vs) U Q X:=λvs s S r=>by
 apply r.two';intro v w a b;apply a.str';intro t;apply b.str';intro u;show SC.find (.tok S (.int _ _) q)
theorem j3 {x:Str} (q:Q (.bool (Txt.startswith x y)) U):AM VR c V [.str x,.str y] (λvs=>call (.builtin "str.startswith") vs) U Q X:=λvs s S r=>by
 apply r.two';intro v w a b;apply a.str';intro t;apply b.str';intro u;show SC.startswith (.here S (.bool _) q)
theorem lK {x:Str}{ys:List Str} (hl:U l=some (.list (ys.map .str))) (hz:(ys.map (·.length)).sum+ys.length * x.length<=16777216) (q:Q (.str (Txt.join x ys)) U):AM VR c V [.str x,.ref l] (λvs=>call (.builtin "str.join") vs) U Q X:=λvs s S r=>by
 apply r.two';intro v w a b;apply a.str';intro t;apply b.ref';show (S.obj l _ hl).list' λvs n e rs=>?_;show join_list (items:=vs.toArray) ⟨_,e,rfl,_,rfl⟩ (fh rs) hz λt' k=>.tok S (.str _ _) q
end
section
variable {c:Cx}{target:Expr}{V V':List NV}{U U0 U1 U' Y:AA}{h h' B:Heap}{s s₀ s₁ s₂ s':Shared}{Q:AB->AA->Prop}{QB:Bool->AA->Prop}{X:AC->AA->Prop}
theorem ev_bname {x:Str} (l:AL V x) (n:nsIn c.K mainGlobals x=some none) (hv:bootBuiltins x=some (.type T)) (hn:x ≠ "__name__") (q:Q (.type T) U):Ev c V (.Name x p) U Q X:=λs S =>
 bP S l n hv hn (.here S (.type T) q)
theorem VR.type_inv {h:Heap}{n:String} (r:VR h v (.type n)):v=.type n:=r.inv
theorem VR.type' {h:Heap}{n:String}{P:Value->Prop} (r:VR h v (.type n)) (k:P (.type n)):P v:=by rw [r.type_inv];show k
theorem dC {r:Addr} (hr:U r=some (.range i j)) (hi:-(2 ^ 62)<=i) (hi':i < 2 ^ 62) (hj:-(2 ^ 62)<=j) (hj':j < 2 ^ 62) (cm:autoParam (c.calm=true) aM):Bb c target (.ref r) (nums i (j - i).toNat) (λ_=>True) U:=λV s v P E S rv k=>by
 apply rv.ref';show (S.obj r _ hr).range' λ_ _ _ e=>?_;show wpAny_pyIter_range e (small_one hi hi' hj hj') ?_;have hs:Builtin.Range.rangeSize i j 1=((j - i).toNat:Int):=by rw [rangeSize_one];split<;>left
 rw [hs];show rh S cm k
theorem dI (q:∀ D,U D=none->Q (.ref D) (U.set D (.range 0 j))):AM VR c V [.int j] (λvs=>call (.type "range") vs) U Q X:=λvs s S r=>by
 apply r.one';intro v y;apply y.int';intro t;show call_range_1 ?_;have hn:=aj s.heap;have kp:∀ b o,s.heap.get? b=some o->(s.heap.push { cls:=.type "range",data:=.fields #[.int 0 s.toks,.int j t,.int 1 (s.toks+1)] }).get? b=some o:=λb o q=>Zu _ q;show ⟨.ref _,_,.ref _,S.alloc (ao:=.range 0 j) (.range (Zz _ rfl)),AE.alloc (t:=s.toks+1+1) kp hn,q _ (S.none_of hn)⟩
abbrev Cw (c:Cx) (V:List NV) (a:AB) (T:String) (U:AA) (Q:AB->AA->Prop) (X:AC->AA->Prop):Prop:=AM VR c V [a,.type T] (λvs=>call (.builtin "isinstance") vs) U Q X
theorem jv (f:∀ s v,St c V U s.heap->VR s.heap v a->wpAny (model c.prog c.w) c.A (call (.builtin "isinstance") [v,.type T]) (AR VR c V U s Q) (AO c V U s X) s):Cw c V a T U Q X:=λvs s S r=>by
 apply r.two';intro v w x y;apply y.type';show f s v S x
theorem mL (q:Q (.bool true) U):Cw c V (.int i) "int" U Q X:=jv λs v S r=>by
 apply r.int';intro t;show IsiPair.int_int (.here S (.bool _) q)
theorem lH (q:Q (.bool false) U):Cw c V (.int i) "bool" U Q X:=jv λs v S r=>by
 apply r.int';intro t;show IsiPair.int_bool (.tok S (.bool _) q)
theorem nJ {x:Str} (q:Q (.bool true) U):Cw c V (.str x) "str" U Q X:=jv λs v S r=>by
 apply r.str';intro t;show IsiPair.str_str (.here S (.bool _) q)
theorem oy (q:Q (.bool true) U):Cw c V (.tup xs) "tuple" U Q X:=jv λs v S r=>by
 show ex4 r.tup_inv λl ol vs n h10z=>?_;show an5 h10z λh9z e ec ed rs=>?_;clear h10z;obtain rfl:=h9z;show IsiPair.tuple_tuple e ec (.here S (.bool _) q)
theorem nc {h:Heap}:∀ {l:List (Str × Tok)}{ys:List Str},l.map (·.1)=ys->AW h (strValues l) (ys.map .str):=by
 intro l
 induction l with
 | nil =>
  intro _ e;cases e;show .nil
 | cons x__ l ih =>
  obtain ⟨x,t⟩:=x__;intro _ e;cases e;show .cons (.str x t) (ih rfl)
end
section
variable {c:Cx}{target:Expr}{V V':List NV}{U U0 U1 U' Y:AA}{h h' B:Heap}{s s₀ s₁ s₂ s':Shared}{Q:AB->AA->Prop}{QB:Bool->AA->Prop}{X:AC->AA->Prop}
variable {N:List NV->AA->Prop}{R:AB->AA->Prop}{XS:AC->List NV->AA->Prop}
theorem uf {h':Heap}{n:Nat} (S:St c V U s.heap) (hk:∀ b o,s.heap.get? b=some o->h'.get? b=some o) (hD:h'.get? D=some { cls:=.type "list",data:=.seq vs.toArray n }) (hn:s.heap.get? D=none)
  (r:∀ h,AW h vs as) (q:∀ D,U D=none->Q (.ref D) (U.set D (.list as))):AR VR c V U s Q (.ref D) { s with heap:=h',toks:=t }:=jN S hk hD hn (r _) q
theorem eP {x:Str} (hy:(y.length == 0)=false) (hx:x.length<=sizeLine) (hn:(Builtin.Str.partsBetween x (Builtin.Str.occurrences x y 0 x.length (x.length+1)) y.length).length<=sizeLine)
  (q:∀ D,U D=none->Q (.ref D) (U.set D (.list ((Txt.split x y).map .str)))):AM VR c V [.str x,.str y] (λvs=>call (.builtin "str.split") vs) U Q X:=λvs s S r=>by
 apply r.two';intro v w a b;apply a.str';intro t;apply b.str';intro u;have go:∀ (l:List (Str × Tok)) (k:Nat),l.map (·.1)=Txt.split x y->wants (AR VR c V U s Q) (AO c V U s X) (.ok (.ret (.ref s.heap.objs.size))) { s with toks:=k,heap:=s.heap.push { cls:=.type "list",data:=.seq (strValues l).toArray } }:=λl k e =>
  uf (t:=k) (n:=0) S (λb o e=>Zu _ e) (Zz _ rfl) (aj _) (λh=>nc e) q
 cases h1:(decide (x.length < y.length) || decide (Builtin.Str.strKind x < Builtin.Str.strKind y))
 ·cases hf:(Builtin.Str.occurrences x y 0 x.length (x.length+1)).isEmpty
  ·show call_meets PySem.F.slot_str_split (typeIs_str _ _ _) PySem.F.entry_str_split (PySem.F.args_str_split_2 _ _) (meets_str_split_sep x y t u h1 hy hf hx hn) ?_;rw [strsFrom_eq];show go _ _ ((numbered_texts _ _).trans ((Zv (ne_true_of_eq_false h1)).trans (Zv (ne_true_of_eq_false hf))).symm)
  ·show call_meets PySem.F.slot_str_split (typeIs_str _ _ _) PySem.F.entry_str_split (PySem.F.args_str_split_2 _ _) (meets_str_split_not_found x y t u h1 hy hf) (go [(x,t)] s.toks ((Zv (ne_true_of_eq_false h1)).trans (Zw hf)).symm)
 ·show call_meets PySem.F.slot_str_split (typeIs_str _ _ _) PySem.F.entry_str_split (PySem.F.args_str_split_2 _ _) (meets_str_split_cannot_occur x y t u h1) (go [(x,t)] s.toks (Zw h1).symm)
abbrev DV (c:Cx) (t:Expr) (V:List NV) (N:List NV->AA->Prop) (XS:AC->List NV->AA->Prop) (a:AB) (U1:AA):Prop:=BN c t a V U1 N XS
inductive Cl (V:List NV) (x₁ xB:Str) (N:List NV->AA->Prop) (a:AB) (U1:AA):Prop
 | mk (a₁ a₂:AB) (V1 V₂:List NV) (e:a=.tup [a₁,a₂]) (p₁:BO V xB a₂ V1) (p₂:BO V1 x₁ a₁ V₂) (q:N V₂ U1)
theorem d7 {value:Expr} (g:Ev c V value U (DV c (.Tuple es k pt) V N XS) (Av XS V))
  (hs:autoParam (swapsWithSole [.Tuple es k pt] value p.line c.env=pure false) aU) (hw:autoParam (swappedStores [.Tuple es k pt] value c.env=pure none) aU):WS c V (.Assign [.Tuple es k pt] value p) U N R XS:=λs S=>by
 show Assign_Tuple ?_ hs hw;show g.useS S λv s₁ a U1 r SA y q=>?_;show Zm (q v s₁ r SA) (λ_ s₂ z=>?_) λ_ _ z=>z.after y;obtain ⟨V₂,U2,SB,yC,hN⟩:=z;show ⟨V₂,U2,SB,y.trans yC,hN⟩
theorem iS {value:Expr}{x₁ xB:Str} (hf:c.fn=true) (g:Ev c V value U (Cl V x₁ xB N) (Av XS V))
  (hs:autoParam (swapsWithSole [.Tuple es k pt] value p.line c.env=pure false) aU) (hw:autoParam (swappedStores [.Tuple es k pt] value c.env=pure (some [x₁,xB])) aU) (cm:autoParam (c.calm=true) aM):WS c V (.Assign [.Tuple es k pt] value p) U N R XS:=λs S=>by
 show Assign_Tuple_swapped ?_ hs hw;show g.useS S λv s₁ a U1 r SA y q=>?_;obtain ⟨a₁,a₂,V1,V₂,rfl,p₁,p₂,hN⟩:=q;show ex4 r.tup_inv λl ol vs n h6z=>?_;show an5 h6z λh5z e ec ed rs=>?_;clear h6z;obtain rfl:=h5z;revert ed;apply rs.two';intro vB vC r₁ r₂ ed;show wpAny_unpackItems_tuple (items:=#[vB,vC]) (SA.ok.hd cm) ⟨ol,e,ec,n,ed⟩ λh' hx=>?_;have kp:∀ b o,s₁.heap.get? b=some o->h'.get? b=some o:=λb o q=>hx b o (λz=>by rw [z,aj] at q;cases q) q;have tk:=ay kp;have SB:St c V U1 h':=SA.ext kp;have yC:AE c U s U1 { s₁ with heap:=h' }:=y.trans (AE.ext (t:=s₁.toks) kp);change wpAny _ _ (holding [vB] (bindName c.env xB vC) >>= λ_=>assignInOrder [bindName c.env x₁] [vB]) _ _ _;show Zb (wpAny_holding (bindName_ (bD (s:={ s₁ with heap:=h' }) SB p₁ (r₂.keep tk) (.inl hf) λs₃ S3 y3=>?_)));change wpAny _ _ (assignInOrder [bindName c.env x₁] [vB]) _ _ _;change wpAny _ _ (holding [] (bindName c.env x₁ vB) >>= λ_=>assignInOrder [] []) _ _ _;show Zb (wpAny_holding (bindName_ (bD S3 p₂ ((r₁.keep tk).keep (y3.tup SB)) (.inl hf) λs₄ SD yD=>?_)));change wpAny _ _ (pure ()) _ _ _;show Zp ⟨V₂,U1,SD,(yC.trans y3).trans yD,hN⟩
theorem qy (hl:U l=some (.list as)) (g:CP c es as V U N XS) (hn:∀ e∈es,∃ x p,e=.Name x p) (hlen:es.length=as.length)
  (hle:autoParam ((assignEach es c.env).length=es.length) aU) (hstar:autoParam ((assignEach es c.env).findIdx? (·.1)=none) aU) (cm:autoParam (c.calm=true) aM):BN c (.Tuple es k p) (.ref l) V U N XS:=λval s r S=>by
 apply r.ref';show (S.obj l _ hl).list' λvs n e rs=>?_;rw [arm_assign_Tuple];show Zb (wpAny_standAt ?_);unfold unpack;rw [hstar,hle,hlen,<- vsz rs];show Zb (wpAny_holding (kun_itemsOf (S.ok.hd cm) ⟨_,e,rfl,_,rfl⟩ λh' hx=>?_));have kp:∀ b o,s.heap.get? b=some o->h'.get? b=some o:=λb o q=>hx b o (λz=>by rw [z,aj] at q;cases q) q;have y:AE c U s U { s with heap:=h' }:=AE.ext (t:=s.toks) kp;show Zm (kH (s:={ s with heap:=h' }) g (rs.keep (ay kp)) (S.ext kp) hn) (λ_ s₃ q=>by obtain ⟨V3,U3,S3,y3,g₃⟩:=q;show ⟨V3,U3,S3,y.trans y3,g₃⟩) λ_ _ z=>z.after y
theorem nt {es:List (Int × AB)} (hd:U d=some (.dictI es)) (hz:es.length<=sizeLine) (q:∀ D,U D=none->Q (.ref D) (U.set D (.list (es.map λe=>.int e.1)))) (cm:autoParam (c.calm=true) aM) :
  AM VR c V [.ref d] (λvs=>call (.type "list") vs) U Q X:=λvs s S r=>by
 apply r.one';intro v x;apply x.ref';show (S.obj d _ hd).dictI' λkvs e rs=>?_;obtain ⟨ep,hat⟩:=e.dictAt;show kdl_call (kdl_dict (knd:=intKind c.prog c.w) (kvs:=kvs) (ep:=ep) (S.notMods hd)) (S.ok.hd cm) hat (by rw [rs.length];show hz) λh' tk acc' c' hk hD hacc=>?_;have hn:=aj s.heap;have va:AW h' acc'.toList (es.map λe=>.int e.1):=AW.of_get (by rw [Array.length_toList,EQ,hacc.1,rs.length]) λj u b hu hb=>by
  obtain ⟨k,x⟩|⟨hx,hk⟩:=(hacc.2 j u (by rw [<- Array.getElem?_toList];show hu))
  obtain ⟨t,rfl⟩:=Value.isInt_shape hk;obtain ⟨a',ha'⟩:=rs.get hx;rw [ER,ha'] at hb;cases hb;show .int k t
 show ⟨.ref _,_,.ref _,(S.ext hk).add (.list (by rw [Array.toArray_toList];show hD) va) (S.new_off hn),(AE.ext (t:=tk) hk).tell hn,q _ (S.none_of hn)⟩
theorem oq {h:Heap}{bs:List Bool} (r:AW h vs (bs.map .bool)):vs=bs.map .bool:=by
 induction bs generalizing vs with
 | nil=>cases r;rfl
 | cons b bs ih=>cases r with | cons r rs=>apply r.bool';rw [ih rs];rfl
theorem iB {A:Around}{bs:List Bool}:TruthOf prog w A (λi v=>(bs.map Value.bool).toArray[i]?=some v) (λi=>bs[i]?.getD false):=λi v s Q E hp hq=>by
 have:((bs.map Value.bool)[i]?)=some v:=by simpa using hp
 rw [ER] at this;have hq:Q (bs[i]?.getD false) s:=hq;cases hb:bs[i]? with
 | none=>rw [hb] at this;cases this
 | some b=>rw [hb] at this hq;cases this;show wpAny_truthy_bool hq
theorem qU (bs:List Bool) (f:Bool->Bool):(List.range bs.length).all (λi=>f (bs[i]?.getD false))=bs.all f:=by
 rw [Bool.eq_iff_iff];simp only [EU,EV];constructor
 ·intro h b hb;obtain ⟨i,hi,rfl⟩:=List.mem_iff_getElem.mp hb;simpa [hi] using h i hi
 ·intro h i hi;simpa [hi] using h bs[i] (EX hi)
theorem sR {bs:List Bool} (hl:U l=some (.list (bs.map .bool))) (q:Q (.bool (bs.all id)) U) (cm:autoParam (c.calm=true) aM):AM VR c V [.ref l] (λvs=>call (.builtin "all") vs) U Q X:=λvs s S r=>by
 apply r.one';intro v x;apply x.ref';show (S.obj l _ hl).list' λvs n e rs=>?_;cases oq rs;show call_all_walk (wpAny_pyIter_list ⟨_,e,rfl,_,rfl⟩ ?_);have hne:l≠s.heap.objs.size:=Nat.ne_of_lt (Heap.lt_size e);have kp:∀ b o,s.heap.get? b=some o->(s.heap.push { cls:=.type "list_iterator",data:=.fields #[.ref l,.int 0 0] }).get? b=some o:=λb o q=>Zu _ q;show ⟨_,_,_,_,_,_,_,rfl,Walks.list (A:=c.A.in1) (S.ok.hd cm) _ l hne (bs.map Value.bool).toArray,⟨⟨_,Zz _ rfl,rfl,rfl⟩,⟨_,kp _ _ e,rfl,_,rfl⟩⟩,iB,λh' tk k=>?_⟩;show .ext (t:=tk) S (λb o q=>k b o (λz=>by rw [ZS z,aj] at q;cases q) (kp b o q)) ?_ q;rw [E8,EQ];have:=qU bs id;simp only [id] at this ⊢;rw [this];show .bool _
theorem rC (bs:List Bool):(List.range bs.length).any (λi=>bs[i]?.getD false)=bs.any id:=by
 rw [Bool.eq_iff_iff];simp only [EY,EV];constructor
 ·intro r1z;obtain ⟨i⟩|⟨hi,h⟩:=r1z;show ⟨bs[i],EX hi,by simpa [hi] using h⟩
 ·intro r2z;obtain ⟨b⟩|⟨hb,h⟩:=r2z;obtain ⟨i,hi,rfl⟩:=List.mem_iff_getElem.mp hb;show ⟨i,hi,by simpa [hi] using h⟩
theorem r3 {bs:List Bool} (hl:U l=some (.list (bs.map .bool))) (q:Q (.bool (bs.any id)) U) (cm:autoParam (c.calm=true) aM):AM VR c V [.ref l] (λvs=>call (.builtin "any") vs) U Q X:=λvs s S r=>by
 apply r.one';intro v x;apply x.ref';show (S.obj l _ hl).list' λvs n e rs=>?_;cases oq rs;show call_any_walk (wpAny_pyIter_list ⟨_,e,rfl,_,rfl⟩ ?_);have hne:l≠s.heap.objs.size:=Nat.ne_of_lt (Heap.lt_size e);have kp:∀ b o,s.heap.get? b=some o->(s.heap.push { cls:=.type "list_iterator",data:=.fields #[.ref l,.int 0 0] }).get? b=some o:=λb o q=>Zu _ q;show ⟨_,_,_,_,_,_,_,rfl,Walks.list (A:=c.A.in1) (S.ok.hd cm) _ l hne (bs.map Value.bool).toArray,⟨⟨_,Zz _ rfl,rfl,rfl⟩,⟨_,kp _ _ e,rfl,_,rfl⟩⟩,iB,λh' tk k=>?_⟩;show .ext (t:=tk) S (λb o q=>k b o (λz=>by rw [ZS z,aj] at q;cases q) (kp b o q)) ?_ q;rw [E8,EQ,rC];show .bool _
end
open Builtin Builtin.ObjectAttr
noncomputable abbrev iN:List Value:=[.type "Exception",.type "BaseException",.type "object"]
noncomputable def sq (v:Value):Bool:=PySem.Heap.NoDictAt.match_1 (λ_=>Bool) v (λ_=>true) λ_=>false
noncomputable def de (l:List Value):Bool:=l.dropWhile sq == iN
theorem q8 (h:sq v=true):∃ a,v=.ref a:=by
 cases v with
 | ref a=>show ⟨a,rfl⟩
 | _=>show absurd h Bool.false_ne_true
theorem ip {P:List Value->Prop} (h0:P iN) (h1:∀ a r,P r->P (.ref a::r)) {l:List Value} (e:de l=true):P l:=by
 induction l with
 | nil =>
  have:([]:List Value)=iN:=beq_iff_eq.mp e;cases this
 | cons v r ih =>
  cases z:sq v with
  | true =>
   show ex1 (q8 z) λa y=>?_;rw [y] at e;rw [y];show h1 a r (ih e)
  | false =>
   unfold de at e;rw [EZ,z] at e;have e':v::r=iN:=beq_iff_eq.mp e;rw [e'];show h0
theorem b4 {l:List Value} (e:de l=true):l.contains (.type "Exception")=true/\l.contains (.type "BaseException")=true/\l.contains (.type "object")=true/\l.contains (.type "AttributeError")=false/\l.contains (.type "NameError")=false:=by
 show ip (P:=λl=>l.contains (.type "Exception")=true/\l.contains (.type "BaseException")=true/\l.contains (.type "object")=true/\l.contains (.type "AttributeError")=false/\l.contains (.type "NameError")=false) s!"k" (λa r q=>?_) e;simp only [Ea];show an5 q λh1 h2 h3 h4 h5=>?_;(try clear q);rw [h1,h2,h3,h4,h5];show ⟨rfl,rfl,rfl,rfl,rfl⟩
inductive eclsIn (K:Frag) (C:Addr):Prop
 | mk (nm qn:Str) (N:Addr) (bs bm:List Value) (hdct:Bool) (sn:List Str) (sub:List Value) (ab:Bool) (col:Option Bool) (dd:Option Addr) (k0 k1 k2 k3 k5:Option Value) (h:K.lookup C=some (excClassObj nm qn C N bs bm hdct sn sub ab col dd k0 k1 k2 k3 k5 "Exception.__new__")) (m:de bm=true)
inductive C7 (h:Heap) (C:Addr):Prop
 | mk (nm qn:Str) (N:Addr) (bs bm:List Value) (hdct:Bool) (sn:List Str) (sub:List Value) (ab:Bool) (col:Option Bool) (dd:Option Addr) (k0 k1 k2 k3 k5:Option Value) (g:h.get? C=some (excClassObj nm qn C N bs bm hdct sn sub ab col dd k0 k1 k2 k3 k5 "Exception.__new__")) (m:de bm=true)
theorem gb (X:K.In h) (q:eclsIn K C):C7 h C:=by
 obtain ⟨nm,qn,N,bs,bm,hdct,sn,sub,ab,col,dd,k0,k1,k2,k3,k5,g,m⟩:=q;show ⟨nm,qn,N,bs,bm,hdct,sn,sub,ab,col,dd,k0,k1,k2,k3,k5,X _ _ g,m⟩
section
variable {M:Model}{prog:Program}{w:World}{A:Around}{E:Value->Shared->Prop}{h:Heap}{g:Array GenState}{d:Drawn}{t:Nat}{os:OsState}
variable {nm q:Str}{C N:Addr}{bs bm:List Value}{hdct:Bool}{sn:List Str}{sub:List Value}{ab:Bool}{col:Option Bool}{dd:Option Addr}{k0 k1 k2 k3 k5:Option Value}
theorem cu {base:Value}{b:Bool}{newId:String}{Q:Bool->Shared->Prop} (hC:h.get? C=some (excClassObj nm q C N bs bm hdct sn sub ab col dd k0 k1 k2 k3 k5 newId)) (e:(Value.ref C::bm).contains base=b) (hq:Q b ⟨h,g,d,t,os⟩) :
  wpAny M A (isSubtype (.ref C) base) Q E ⟨h,g,d,t,os⟩:=wpAny_isSubtype_exc hC (e.symm ▸ hq)
theorem pO (e:de bm=true) {rest:List Value}{Q:Unit->Shared->Prop} (hC:h.get? C=some (excClassObj nm q C N bs bm hdct sn sub ab col dd k0 k1 k2 k3 k5 "Exception.__new__"))
  (hq:Q () ⟨h,g,d,t,os⟩):wpAny M A (checkBuiltinCall "Exception.__new__" ⟨.ref C::rest,[]⟩) Q E ⟨h,g,d,t,os⟩:=by
 have F:=PySem.F.excBase_Exception;have hcont:(Value.ref C::bm).contains (.type "Exception")=true:=by rw [Ea,(b4 e).1,Bool.or_true]
 have hstar:=F.noStar;unfold checkBuiltinCall;rw [F.newKind,F.newSplit]
 repeat (first | with_reducible show wpAny_loadPart_at hC ?_ | with_reducible show cu hC hcont ?_ | with_reducible show wpAny_staticBase_exc hC ?_ | with_reducible show wpAny_madeBy_exc hC ?_ | wp_step)
 all_goals show hq
theorem rR {R:Result->Shared->Prop} (e:de bm=true) {rest:List Value} (hC:h.get? C=some (excClassObj nm q C N bs bm hdct sn sub ab col dd k0 k1 k2 k3 k5 "Exception.__new__"))
  (hq:R (.ok (.ret (.ref (h.objs.size+1)))) ⟨(h.push { cls:=.type "tuple",data:=.seq rest.toArray }).push
   { cls:=.ref C,data:=.fields #[.ref h.objs.size,.none,.none,.none,.bool false,.none] },g,d,t,os⟩) (hrest:rest.length<=sizeLine) :
  codeAny (model prog w) A (.builtin "Exception.__new__" ⟨.ref C::rest,[]⟩) R ⟨h,g,d,t,os⟩:=by
 have F:=PySem.F.excBase_Exception;have hends:=F.ends;show an5 (b4 e) λe1 e2 e3 e4 e5=>?_;have hcB:(Value.ref C::bm).contains (.type "Exception")=true:=by rw [Ea,e1,Bool.or_true]
 have hcA:(Value.ref C::bm).contains (.type "AttributeError")=false:=by rw [Ea,e4];rfl
 have hcN:(Value.ref C::bm).contains (.type "NameError")=false:=by rw [Ea,e5];rfl
 show codeAny_builtinAt F.entry ?_;unfold Builtin.«BaseException.__new__»;show PySem.wpAt_bind ?_;change PySem.wpAt _ _ _ (stack >>= _) _ _ _;show PySem.wpAt_bind (PySem.wpAt_stack λp below=>PySem.wpAt_of_wpAny ?_)
 wp_walk
 show PySem.wpAt_of_wpAny ?_;rw [F.owner]
 repeat (first | with_reducible show wpAny_madeHere_exc F.canon hC ?_ | with_reducible show wpAny_loadPart_at hC ?_ | with_reducible show cu hC hcB ?_ | with_reducible show cu hC hcA ?_ | with_reducible show cu hC hcN ?_ | wp_step)
 change R _ _;rw [Heap.size_push];show hq
noncomputable abbrev dv (C t:Addr):Obj:={ cls:=.ref C,data:=.fields #[.ref t,.none,.none,.none,.bool false,.none] }
theorem ji {rest:List Value}{Q:Fin->Shared->Prop} (X:K.In h) (e:eclsIn K C) (hi:findIn K (.ref C) "__init__" = some (some (.ref fI))) (ht:typeIn K (.ref fI)=some (.type "function"))
  (hq:wpAny (model prog w) A (call (.ref fI) (.ref (h.objs.size+1)::rest)) (λr s'=>r=.none/\Q (.done (.ret (.ref (h.objs.size+1)))) s') E ⟨(h.push { cls:=.type "tuple",data:=.seq rest.toArray }).push (dv C h.objs.size),g,d,t,os⟩) (hrest:rest.length<=sizeLine) :
  wpAny (model prog w) A (Builtin.«type.__call__» ⟨.ref C::rest,[]⟩) Q E ⟨h,g,d,t,os⟩:=by
 have F:=PySem.F.excBase_Exception;obtain ⟨nm,q,N,bs,bm,hdct,sn,sub,ab,col,dd,k0,k1,k2,k3,k5,hC,em⟩:=gb X e
 repeat (first | with_reducible show wpAny_loadPart_at hC ?_ | with_reducible show wpAny_madeBy_exc hC ?_ | wp_step)
 show codeAny_call_builtin_code (Code.quiet_builtin _ F.quiet) (pO em hC ?_);show rR em hC ?_ hrest;change wpAny _ _ _ _ _ _;have kp:∀ b o,h.get? b=some o->((h.push { cls:=.type "tuple",data:=.seq rest.toArray }).push (dv C h.objs.size)).get? b=some o:=λb o e=>Zu _ (Zu _ e);have X1:=X.keeps kp;have hC1:=kp _ _ hC;have hget:((h.push { cls:=.type "tuple",data:=.seq rest.toArray }).push (dv C h.objs.size)).get? (h.objs.size+1)=some (dv C h.objs.size):=by heap_get
 have hcC:(Value.ref C::bm).contains (.ref C)=true:=s!"s";unfold isInstance
 repeat (first | with_reducible show wpAny_loadPart_at hget ?_ | with_reducible show cu hC1 hcC ?_ | wp_step)
 change wpAny _ _ (typeLookup (.ref C) _) _ _ _;show (looks_findIn X1 hi).at ?_;show wpAny_holding (Zb ((bind_fn X1 _ ht).at ?_));show Zb (Zm hq (λr s' hr=>?_) λ_ _ x=>x);obtain ⟨rfl,hQ⟩:=hr
 wp_walk
 show hQ
theorem qC {rest:List Value} (X:K.In h) (e:eclsIn K C) (hi:findIn K (.ref C) "__init__" = some (some (.ref fI))) (ht:typeIn K (.ref fI)=some (.type "function"))
  (hq:wpAny (model prog w) (A.under (.builtin "type.__call__" ⟨.ref C::rest,[]⟩)) (call (.ref fI) (.ref (h.objs.size+1)::rest)) (λr s'=>r=.none/\Q (.ref (h.objs.size+1)) s') E ⟨(h.push { cls:=.type "tuple",data:=.seq rest.toArray }).push (dv C h.objs.size),g,d,t,os⟩) (hrest:rest.length<=sizeLine) :
  wpAny (model prog w) A (call (.ref C) rest) Q E ⟨h,g,d,t,os⟩:=by
 obtain ⟨nm,q,N,bs,bm,hdct,sn,sub,ab,col,dd,k0,k1,k2,k3,k5,hC,em⟩:=gb X e;have f1:=tc_lookup;have f2:=tc_bind (.ref C);have hT:(⟨h,g,d,t,os⟩:Shared).TypeIs (.ref C) "type" := ⟨_,hC,rfl⟩
 show wpAny_call (codeAny_of_tree ?_);change wpAny _ _ (callAny (.ref C) _) _ _ _
 repeat (any_goals (first | assumption | with_reducible show wpAny_loadPart_at hC ?_ | wp_step))
 show ⟨rfl,?_⟩;show codeAny_call_builtin_at (Code.quiet_builtin _ s!"k") entry_typeCall (wpAny_check_type_call_sub hC (ji X e hi ht hq hrest))
end
noncomputable def t7 (K:Frag) (C:Addr):Bool:=(clsIn K C).any λcd=>cd.hasDict && de cd.mro
structure A0 (K:Frag) (C:Addr):Prop where
 made:eclsIn K C
 over:t7 K C=true
 get:findIn K (.ref C) "__getattribute__" = some (some (.builtin "BaseException.__getattribute__"))
 hook:findIn K (.ref C) "__getattr__" = some none
 set:findIn K (.ref C) "__setattr__" = some (some (.builtin "object.__setattr__"))
section
variable {prog:Program}{w:World}{A:Around}{E:Value->Shared->Prop}{s:Shared}{K:Frag}{x C:Addr}{R:Result->Shared->Prop}
theorem pg (self:Value) {l:List Value} (e:de l=true):refuseLoop self "__setattr__" l=pure () :=
 ip (P:=λl=>refuseLoop self "__setattr__" l=pure ()) (PySem.F.store_Exception.passes self) (λa r q=>by rw [refuseLoop_ref];show q) e
theorem kE {ox:Obj}{od:Option Obj}{tk:Tok} (X:K.In s.heap) (I:InstAt s.heap x ox C od) (hp:t7 K C=true) (ht:takerIn K C name=some none)
  (h:∀ b,wpAny (model prog w) A.in1 (storeInOwnDict (.ref x) (.ref C) (.str name tk) name v b)
   (λfin s'=>match fin with | .done f=>R (.ok f) s' | .again c'=>c'.quiet=true/\codeAny (model prog w) A c' R s') (λe s'=>R (.error e) s') s) :
  codeAny (model prog w) A (.call (.builtin "object.__setattr__") ⟨[.ref x,.str name tk,v],[]⟩) R s:=by
 have SF:=PySem.F.store_object;obtain ⟨cd⟩|⟨hc,ho⟩:=(any_some hp)
 rw [Bool.and_eq_true] at ho;have ho:=ho.2;have ne:cd.mro.isEmpty=false:=by cases q:cd.mro with | nil=>rw [q] at ho;cases ho | cons _ _=>rfl
 have sub:Looks (model prog w) s.heap (isInstance (.ref x) (.type "object")) true:=I.type.andThen (looks_mroIn X (by unfold mroIn;rw [hc,Option.bind_some,Zv (by rw [ne];decide),(b4 ho).2.2.1]));show codeAny_call_builtin SF.slot.plain SF.entry (@check_slot (model prog w) _ _ s "object.__setattr__" "object" "__setattr__" (.ref x) [.str name tk,v] [] _ SF.kind SF.split sub (SF.args (.ref x) (.str name tk) v) ?_);obtain ⟨attr⟩|⟨ha,hr⟩:=(Option.bind_eq_some_iff.mp ht)
 have hm:Looks (model prog w) s.heap (mroOf (.ref C)) cd.mro:=(looks_clsIn X hc).andThen .now;have L3:Looks (model prog w) s.heap (storeTaker? attr) none:=by
  cases attr with
  | none=>show .now
  | some a =>
   obtain ⟨b⟩|⟨hb,q⟩:=(Option.map_eq_some_iff.mp hr)
   show (looks_takesIn X hb).andThen ?_;cases b
   ·show .now
   ·cases q
 rw [osa_eq,refuse_eq];show Zb (Zb (I.type.here (Zb (hm.here ?_))));rw [pg _ ho];show Zp (Zb (I.type.here (Zb ((looks_findIn X ha).here (Zb (L3.here ?_))))));show h _
end
section
variable {c:Cx}{V V':List NV}{U U0 U1 U' Y:AA}{h h' B:Heap}{s s₀ s₁ s₂ s':Shared}{Q:AB->AA->Prop}{X:AC->AA->Prop}
theorem St.excAt {x:Addr}{d:Option Addr}{vs:Array Value} (S:St c V U h) (e:U x=some (.exc C d vs)):h.get? x=some { cls:=.ref C,dict:=d,data:=.fields vs }:=by
 show (S.obj x _ e).exc' λe=>?_;show e
inductive DY (c:Cx) (V:List NV) (N:List NV->AA->Prop) (x:Str) (v a:AB) (U2:AA):Prop
 | mk (o C:Addr) (vs:Array Value) (ns:List Str) (e1:a=.ref o) (h1:U2 o=some (.exc C none vs)) (h2:A0 c.K C) (h3:takerIn c.K C x=some none) (h4:x∈ns) (h5:ns.length<=1000)
   (h6:∀ d,U2 d=none->d≠o->N V ((U2.set o (.exc C (some d) vs)).set d (.attrs ns λy=>if y=x then some v else none)))
theorem me {e value:Expr}{x:Str}
  (g:Ev c V value U (λv U1=>Ev c V e U1 (DY c V N x v) (Av XS V)) (Av XS V))
  (hs:autoParam (swapsWith value (some (.Attribute e x pa)) p.line c.env=pure false) aU):WS c V (.Assign [.Attribute e x pa] value p) U N R XS:=λs S=>by
 show plainObj_wpAny_Assign_Attribute ?_ hs;show g.useS S λv s₁ a U1 r SA y q=>?_;show Zm (q s₁ SA) (λov s₂ p=>?_) λ_ _ z=>AS.after y z.toS;obtain ⟨b,U2,r₂,SB,yC,p⟩:=p;obtain ⟨o,C,vs,ns,rfl,ho,ok,ht,hx1,hx2,hN⟩:=p;apply r₂.ref';have X:=SB.ok.KG.keeps SB.base;have e₀:=SB.excAt ho;have I:InstAt s₂.heap o { cls:=.ref C,dict:=none,data:=.fields vs } C none:=⟨e₀,rfl,rfl,trivial⟩
 show set_plain X I ok.set ?_;show kE (s:={ s₂ with toks:=s₂.toks+1 }) X I ok.over ht λbb=>?_;obtain ⟨cd⟩|⟨hc,hd'⟩:=(any_some ok.over)
 rw [Bool.and_eq_true] at hd';have hd':=hd'.1;show Zb (Zp (Zb (Zb (wpAny_loadPart (s:={ s₂ with toks:=s₂.toks+1 }) e₀ (Zb (looks_clsIn X hc _ _ _ _ (λ_ _ e=>e) ?_))))));rw [hd'];have hn:=aj s₂.heap;have hos:o≠s₂.heap.objs.size:=Nat.ne_of_lt (Heap.lt_size e₀);have e₁:(s₂.heap.push { cls:=.type "dict",data:=.dict #[] }).get? o=some { cls:=.ref C,dict:=none,data:=.fields vs }:=Zu _ e₀;change wpAny _ _ (alloc { cls:=.type "dict",data:=.dict #[] } >>= λd=>update o (λo=>{ cls:=o.cls,dict:=some d,data:=o.data,slots:=o.slots }) >>= λ_=>dictMade (.ref C) o d) _ _ _;show Zb (wpAny_alloc' (Zb (wpAny_update' e₁ (Zp ?_))));have e₃:=Heap.get?_update_self (λo=>{ cls:=o.cls,dict:=some s₂.heap.objs.size,data:=o.data,slots:=o.slots }) e₁ rfl;have hgd:((s₂.heap.push { cls:=.type "dict",data:=.dict #[] }).update o λo=>{ cls:=o.cls,dict:=some s₂.heap.objs.size,data:=o.data,slots:=o.slots }).get? s₂.heap.objs.size
   = some { cls:=.type "dict",data:=.dict #[] }:=(Heap.get?_update_ne _ _ _ _ hos.symm).trans (Heap.get?_push_at rfl rfl)
 have kp:∀ b ob,b≠o->s₂.heap.get? b=some ob->((s₂.heap.push { cls:=.type "dict",data:=.dict #[] }).update o λo=>{ cls:=o.cls,dict:=some s₂.heap.objs.size,data:=o.data,slots:=o.slots }).get? b=some ob :=
  λb ob hb e=>(Heap.get?_update_ne _ _ _ _ hb).trans (Zu _ e)
 dsimp only at e₃ hgd kp ⊢;generalize hgen:((s₂.heap.push { cls:=.type "dict",data:=.dict #[] }).update o λo=>{ cls:=o.cls,dict:=some s₂.heap.objs.size,data:=o.data,slots:=o.slots })=h₃ at e₃ hgd kp ⊢;have hnd:h₃.Ns s₂.heap.objs.size (λ_=>none):=⟨_,#[],_,hgd,rfl,λe he=>absurd he s!"s",λ_=>rfl⟩
 have S3:=SB.upd (h':=h₃) ho (ao':=.exc C (some s₂.heap.objs.size) vs) (λb ob hb e=>kp b ob hb e) (.exc e₃);have SD:=S3.add (a:=s₂.heap.objs.size) (o:=.attrs ns λ_=>none) (.attrs (m':=λ_=>none) (Heap.Ns1.of_empty hnd) (λy hy=>absurd rfl hy) λ_=>rfl) (SB.new_off hn);have y3:AE c U2 s₂ (U2.set o (.exc C (some s₂.heap.objs.size) vs)) { s₂ with heap:=h₃,toks:=s₂.toks+1 }:=AE.upd (t:=s₂.toks+1) ho (λb ob hb e=>kp b ob hb e) (.exc e₃);have hs2:U2 s₂.heap.objs.size=none:=SB.none_of hn;have yD:AE c U2 s₂ ((U2.set o (.exc C (some s₂.heap.objs.size) vs)).set s₂.heap.objs.size (.attrs ns λ_=>none)) { s₂ with heap:=h₃,toks:=s₂.toks+1 }:=y3.tell hn;change wpAny _ _ (storeInDict s₂.heap.objs.size (.str x s₂.toks) x v) _ _ _;unfold storeInDict newKeyGuard;show Zb (Zp (Zb ?_));show wpAny_nsSet1 (s:={ s₂ with heap:=h₃,toks:=s₂.toks+1 }) (Heap.Ns1.of_empty hnd) λh' n' sb=>?_;have wn':Within (λy=>if y=x then some v else none) ns:=λy hy=>by
  by_cases z:y=x
  ·show z ▸ hx1
  ·dsimp only at hy;rw [Zv z] at hy;show absurd rfl hy
 obtain ⟨on,en,epn⟩|⟨hon,hdn,hsn⟩:=(n'.count wn')
 show Zb (wpAny_lookBehind hon (by rw [hdn];show pastItsLine_dict (by rw [sizeLine_eq];left)) ?_);show Zp ?_;have ha4:=Zs (U2.set o (.exc C (some s₂.heap.objs.size) vs)) s₂.heap.objs.size (.attrs ns λ_=>none);have t:AH h₃ h':=aP sb.extBut hgd λq=>by simp at q
 have t2:AH s₂.heap h₃:=aP (a:=o) (λb ob hb e=>kp b ob hb e) e₀ λq=>by cases q
 have R':OR c.prog c.w h' s₂.heap.objs.size (.attrs ns λy=>if y=x then some a else none):=.attrs n' wn' λy=>by
  by_cases z:y=x
  ·rw [Zw z,Zw z];show ⟨_,rfl,((r.keep (yC.tup SA)).keep t2).keep t⟩
  ·rw [Zv z,Zv z]
 have SE:=SD.upd ha4 sb.extBut R';have yE:=AE.upd (c:=c) (s:={ s₂ with heap:=h₃,toks:=s₂.toks+1 }) (t:=s₂.toks+1+1) ha4 sb.extBut R';have es:((U2.set o (.exc C (some s₂.heap.objs.size) vs)).set s₂.heap.objs.size (.attrs ns λ_=>none)).set s₂.heap.objs.size (.attrs ns λy=>if y=x then some a else none) =
   (U2.set o (.exc C (some s₂.heap.objs.size) vs)).set s₂.heap.objs.size (.attrs ns λy=>if y=x then some a else none):=by
  funext b;unfold AA.set;split<;>rfl
 rw [es] at SE yE;show ⟨V,_,SE,((y.trans yC).trans yD).trans yE,hN _ hs2 hos.symm⟩
inductive DS (c:Cx) (V:List NV) (N:List NV->AA->Prop) (x:Str) (v a:AB) (U2:AA):Prop
 | mk (o C d:Addr) (vs:Array Value) (ns:List Str) (m:Str->Option AB) (e1:a=.ref o) (h1:U2 o=some (.exc C (some d) vs)) (h0:U2 d=some (.attrs ns m)) (h2:A0 c.K C) (h3:takerIn c.K C x=some none) (h4:x∈ns) (h5:ns.length<=1000)
   (h6:N V (U2.set d (.attrs ns λy=>if y=x then some v else m y)))
theorem lQ {e value:Expr}{x:Str}
  (g:Ev c V value U (λv U1=>Ev c V e U1 (DS c V N x v) (Av XS V)) (Av XS V))
  (hs:autoParam (swapsWith value (some (.Attribute e x pa)) p.line c.env=pure false) aU):WS c V (.Assign [.Attribute e x pa] value p) U N R XS:=λs S=>by
 show plainObj_wpAny_Assign_Attribute ?_ hs;show g.useS S λv s₁ a U1 r SA y q=>?_;show Zm (q s₁ SA) (λov s₂ p=>?_) λ_ _ z=>AS.after y z.toS;obtain ⟨b,U2,r₂,SB,yC,p⟩:=p;obtain ⟨o,C,d,vs,ns,m,rfl,ho,hσd,ok,ht,hx1,hx2,hN⟩:=p;apply r₂.ref';have X:=SB.ok.KG.keeps SB.base;have e₀:=SB.excAt ho;show (SB.obj d _ hσd).attrs' λm' n w rr=>?_;obtain ⟨od⟩|⟨eo,lk⟩:=(g9 n.ns)
 have I:InstAt s₂.heap o { cls:=.ref C,dict:=some d,data:=.fields vs } C (some od):=⟨e₀,rfl,rfl,eo⟩
 show set_plain X I ok.set ?_;show kE (s:={ s₂ with toks:=s₂.toks+1 }) X I ok.over ht λbb=>?_;obtain ⟨cd⟩|⟨hc,hd'⟩:=(any_some ok.over)
 rw [Bool.and_eq_true] at hd';have hd':=hd'.1;show Zb (Zp (Zb (Zb (wpAny_loadPart (s:={ s₂ with toks:=s₂.toks+1 }) e₀ (Zb (looks_clsIn X hc _ _ _ _ (λ_ _ e=>e) ?_))))));rw [hd'];show Zp (a:=some d) (Zb (Zp (Zb ?_)));show wpAny_nsSet1 (s:={ s₂ with toks:=s₂.toks+1 }) n λh' n' sb=>?_;have wn':Within (λy=>if y=x then some v else m' y) ns:=λy hy=>by
  by_cases z:y=x
  ·show z ▸ hx1
  ·show w y (by dsimp only at hy;rwa [Zv z] at hy)
 obtain ⟨on,en,epn⟩|⟨hon,hdn,hsn⟩:=(n'.count wn')
 show Zb (wpAny_lookBehind hon (by rw [hdn];show pastItsLine_dict (by rw [sizeLine_eq];left)) ?_);show Zp ?_;obtain ⟨ob⟩|⟨e',nn⟩:=((SB.obj d _ hσd).here)
 have t:AH s₂.heap h':=aP sb.extBut e' nn;have R':OR c.prog c.w h' d (.attrs ns λy=>if y=x then some a else m y):=.attrs n' wn' λy=>by
  by_cases z:y=x
  ·rw [Zw z,Zw z];show ⟨_,rfl,(r.keep (yC.tup SA)).keep t⟩
  ·rw [Zv z,Zv z];have:=rr y;cases hm:m y with
   | none=>rw [hm] at this;show this
   | some _=>rw [hm] at this;show ex1 this λw h10z=>?_;(try clear this);show an2 h10z λq1 q2=>?_;clear h10z;show ⟨w,q1,q2.keep t⟩
 have S3:=SB.upd hσd sb.extBut R';show ⟨V,_,S3,(y.trans yC).trans (AE.upd (t:=s₂.toks+1+1) hσd sb.extBut R'),hN⟩
end
section
variable {M:Model}{prog:Program}{w:World}{A:Around}{E:Value->Shared->Prop}{h:Heap}{g:Array GenState}{d:Drawn}{t:Nat}{os:OsState}{K:Frag}
variable {nm q:Str}{C N:Addr}{bs bm:List Value}{hdct:Bool}{sn:List Str}{sub:List Value}{ab:Bool}{col:Option Bool}{dd:Option Addr}{k0 k1 k2 k3 k5:Option Value}
theorem nX (em:de bm=true) {e:Addr}{rest:List Value}{Q:Unit->Shared->Prop}
  (hC:h.get? C=some (excClassObj nm q C N bs bm hdct sn sub ab col dd k0 k1 k2 k3 k5 "Exception.__new__")) (he:h.get? e=some oe) (hcls:oe.cls=.ref C) (hq:Q () ⟨h,g,d,t,os⟩) :
  wpAny M A (checkBuiltinCall "Exception.__init__" ⟨.ref e::rest,[]⟩) Q E ⟨h,g,d,t,os⟩:=by
 have F:=PySem.F.excBase_Exception;have hcB:(Value.ref C::bm).contains (.type "Exception")=true:=by rw [Ea,(b4 em).1,Bool.or_true]
 have hshort:=F.noStar;unfold checkBuiltinCall;rw [F.initKind,F.initSplit,F.initRow]
 repeat (first | (with_reducible show wpAny_loadPart_at he ?_;rw [hcls]) | with_reducible show wpAny_loadPart_at hC ?_ | with_reducible show cu hC hcB ?_ | wp_step)
 show wpAny_onRaise ?_
 rw [show ∀ (a b:String) (n:Nat),Bind.check ⟨.positional, "*", "Exception",.self,[⟨"args",.varPos,false⟩]⟩ a b n (List.map (λx=>x.fst) ({ pos:=Value.ref e::rest }:Args).kw)=pure () from
  λa b n=>check_star_args _ _ _ _ _ _]
 show Zp hq
theorem ny {Q:Value × List Value->Shared->Prop} (X:K.In s.heap) (ht:typeOf (.type T)=pure (.type "type")) (hs:Manifest.isStub T=false)
  (e:findCls K (.type T) (.type "type") name=some (.val v)) (hh:handedIn v=true) (h:Q (v,[]) { s with toks:=s.toks+1 }):wpAny (model prog w) A (getMethod (.type T) name pl) Q E s:=by
 have hstub:opaqueClassAbove (.type T)=pure none:=by unfold opaqueClassAbove;dsimp only;rw [hs];rfl
 have L0:Looks (model prog w) s.heap (typeOf (.type T)) (.type "type"):=Looks.of_pure ht;have hg:findIn K (.type "type") "__getattribute__" = some (some (.builtin "type.__getattribute__")):=type_tga;unfold getMethod specialOf;show Zb (Zb (L0.here ((looks_findIn X hg).here ?_)));dsimp only;rw [Zw canon_tga];show Zb (Zm (Q:=λv=>Q (v,[])) (E:=E) ?_ (λ_ _ z=>Zp z) λ_ _ z=>z);have LO:Looks (model prog w) s.heap (opaqueClassAbove (.type T)) none:=Looks.of_pure hstub;show cls_open X LO L0 hg (looks_hook X (r:=none) (by rfl)) (by change subIn K _ _=_;rfl) e
  (Zp (by change wpAny _ _ (handedOut v) _ _ _;rw [handedOut_of hh];show Zp h))
end
section
variable {c:Cx}{V V':List NV}{U U0 U1 U' Y:AA}{h h' B:Heap}{s s₀ s₁ s₂ s':Shared}{Q:AB->AA->Prop}{X:AC->AA->Prop}
theorem oZ {e t0:Addr}{od:Option Addr}{vs:Array Value} (he:U e=some (.exc C od vs)) (h0:vs[0]?=some (.ref t0)) (hC:eclsIn c.K C) (q:∀ t,Q .none (U.set e (.exc C od (vs.setIfInBounds 0 (.ref t))))) :
  AM VR c V [.ref e,a] (λvs=>call (.builtin "Exception.__init__") vs) U Q X:=λvs' s S r=>by
 apply r.two';intro v w x y;apply x.ref';have F:=PySem.F.excBase_Exception;have e₀:=S.excAt he;obtain ⟨hh,gg,dd,tt,oo⟩:=s;dsimp only at S e₀ r x y;obtain ⟨nm,qn,N,bs,bm,hdct,sn,sub,ab,col,ddd,k0,k1,k2,k3,k5,hC,em⟩:=gb (S.ok.KG.keeps S.base) hC;show wpAny_call (codeAny_call_builtin F.init.plain F.initEntry (nX em hC e₀ rfl ?_));unfold Builtin.«BaseException.__init__» Builtin.BaseException.bexcPut;have e₁:(hh.push { cls:=.type "tuple",data:=.seq [w].toArray }).get? e=some { cls:=.ref C,dict:=od,data:=.fields vs }:=Zu _ e₀;have hsz:0 < vs.size:=by
  cases q:vs.size with
  | zero=>rw [Array.getElem?_eq_none s!"o"] at h0;cases h0
  | succ _=>left
 change wpAny _ _ (newTuple [w] >>= λt=>(do
  let old <- field (.ref e) 0
  setField (.ref e) 0 t
  if let .ref _:=old then letGo [old] []) >>= λ_=>ret .none) _ _ _
 show Zb ?_;show Zm (Q:=λt s'=>t=.ref hh.objs.size/\s'=⟨hh.push { cls:=.type "tuple",data:=.seq [w].toArray },gg,dd,tt,oo⟩) (E:=λ_ _=>False) (by wp_walk;show ⟨rfl,rfl⟩) (λt s' z=>?_) λ_ _ z=>z.elim;obtain ⟨rfl,rfl⟩:=z;show Zb (Zb (wpAny_field e₁ rfl h0 (Zb (wpAny_setField e₁ rfl hsz (wpAny_letGo (Zp ?_))))));have kp:∀ b o,hh.get? b=some o->(hh.push { cls:=.type "tuple",data:=.seq [w].toArray }).get? b=some o:=λb o e=>Zu _ e;have SA:=S.ext kp;have e₂:=Heap.get?_update_self (Obj.mapFields (·.setIfInBounds 0 (Value.ref hh.objs.size))) e₁ rfl;have R':OR c.prog c.w ((hh.push { cls:=.type "tuple",data:=.seq [w].toArray }).update e (Obj.mapFields (·.setIfInBounds 0 (Value.ref hh.objs.size)))) e (.exc C od (vs.setIfInBounds 0 (.ref hh.objs.size))):=.exc e₂;have SB:=SA.upd he (λb o hb e=>(Heap.get?_update_other _ _ (Ne.symm hb)).trans e) R';have yB:AE c U ⟨hh,gg,dd,tt,oo⟩ U ⟨hh.push { cls:=.type "tuple",data:=.seq [w].toArray },gg,dd,tt,oo⟩:=AE.ext (s:=⟨hh,gg,dd,tt,oo⟩) (t:=tt) kp;have yC:=AE.upd (c:=c) (s:=⟨hh.push { cls:=.type "tuple",data:=.seq [w].toArray },gg,dd,tt,oo⟩) (t:=tt) he (λb o hb e=>(Heap.get?_update_other _ _ (Ne.symm hb)).trans e) R';show ⟨.none,_,.none,SB,yB.trans yC,q _⟩
inductive C2 (c:Cx) (Q:AB->AA->Prop) (as:List AB) (U1:AA):Prop
 | mk (e C t0:Addr) (od:Option Addr) (vs:Array Value) (a:AB) (e1:as=[.ref e,a]) (h1:U1 e=some (.exc C od vs)) (h2:vs[0]?=some (.ref t0)) (h3:eclsIn c.K C) (h4:∀ t,Q .none (U1.set e (.exc C od (vs.setIfInBounds 0 (.ref t)))))
theorem ev_excinit {ap:Pos} (l:AL V "Exception") (n:nsIn c.K mainGlobals "Exception" = some none) (hf:findCls c.K (.type "Exception") (.type "type") "__init__" = some (.val (.builtin "Exception.__init__")))
  (g:Ay c V pos es U (C2 c Q) X)
  (hstar:autoParam ((backTo pos (starEach es c.env)).all (λx=>!x.1)=true) aU)
  (he:autoParam (eval (.Call (.Attribute (.Name "Exception" p) "__init__" ap) es [] pos) c.env=(do
   let ov <- eval (.Name "Exception" p) c.env
   standAt ap.atName
   let (f,first) <- holding [ov] (getMethod ov "__init__" pl)
   callWith pos f first (backTo pos (starEach es c.env)) (backToKw pos (keywordEach [] c.env)))) aU):Ev c V (.Call (.Attribute (.Name "Exception" p) "__init__" ap) es [] pos) U Q X:=λs S=>by
 show methodCall_KW ?_ he;show bP S l n PyProof.Rows.Boot.«Exception» s!"k" ?_;show ny (T:="Exception") (name:="__init__") (S.ok.KG.keeps S.base) (by kernel_rfl) s!"k" hf rfl ?_;have y:AE c U s U { s with toks:=s.toks+1 }:=(AE.refl c U s).toks;show on y (callWith_of (s:={ s with toks:=s.toks+1 }) (fa:=[]) S .nil ?_ hstar);show g.mono (λas U1 z=>?_) λ_ _ z=>z;obtain ⟨e,C,t0,od,vs,a,rfl,h1,h2,h3,h4⟩:=z;show oZ h1 h2 h3 h4
end
theorem j4:entryFor table "proto.unchain" = some Builtin.«proto.unchain»:=entryFor_of_tree (by kernel_rfl)
section
variable {prog:Program}{w:World}{A:Around}{E:Value->Shared->Prop}{env:Env}{C:Addr}
variable {nm q:Str}{N:Addr}{bs bm:List Value}{hdct:Bool}{sn:List Str}{sub:List Value}{ab:Bool}{col:Option Bool}{dd:Option Addr}{k0 k1 k2 k3 k5:Option Value}
theorem mq {e:Addr}{vs:Array Value}{Q:α->Shared->Prop} (he:s.heap.get? e=some oe) (hd:oe.data=.fields vs) (hsz:2 < vs.size)
  (hh:A.handled=none\/∃ e' oe' vs',A.handled=some (.ref e')/\e'≠e/\s.heap.get? e'=some oe'/\oe'.data=.fields vs'/\vs'[2]?=some .none)
  (h:∀ h' vsA,Heap.ExtBut e s.heap h'->h'.get? e=some { oe with data:=.fields vsA }->vsA.size=vs.size->(∀ i,i≠2->vsA[i]?=vs[i]?)->(A.handled=none->vsA=vs)->E (.ref e) { s with heap:=h' }):wpAny (model prog w) A (raiseNew (.ref e):Sem α) Q E s:=by
 rcases hh with hh | ⟨e',oe',vs',hh,hne,he',hd',h2⟩
 ·obtain ⟨c0,d0,dt,sl⟩:=oe;cases hd;show wpAny_raiseNew_none hh (h s.heap vs (λb o _ q=>q) he rfl (λ_ _=>rfl) λ_=>rfl)
 ·unfold raiseNew;show Zb (wpAny_handled ?_);rw [hh];dsimp only;have hne':(Value.ref e' != Value.ref e)=true:=by simp [hne]
  rw [Zw hne'];show Zb (wpAny_holding (wpAny_runValue (codeAny_builtin j4 ?_)));unfold Builtin.«proto.unchain»;dsimp only;show Zb (wpAny_field he' hd' h2 ?_);rw [Zw (by rfl)];show Zp ?_;change wpAny _ _ _ _ _ _;show Zb ?_;change wpAny _ _ (setField (.ref e) 2 (.ref e')) _ _ _;show wpAny_setField he hd hsz ?_;show wpAny_throw ?_;obtain ⟨c0,d0,dt,sl⟩:=oe;dsimp only at hd;subst hd;show h _ (vs.setIfInBounds 2 (.ref e')) (λb o hb q=>(Heap.get?_update_other _ _ (Ne.symm hb)).trans q) (Heap.get?_update_self _ he rfl) s!"s" (λi hi=>by simp [Array.getElem?_setIfInBounds,Ne.symm hi]) λz=>by rw [hh] at z;cases z
theorem kj {x:Sem Value}{Q:Flow->Shared->Prop} (hbase:bm.contains (.type "BaseException")=true)
  (h:wpAny (model prog w) A x (λv s₁=>∃ e d vs,v=.ref e/\s₁.heap.get? C=some (excClassObj nm q C N bs bm hdct sn sub ab col dd k0 k1 k2 k3 k5 "Exception.__new__") /\
   s₁.heap.get? e=some { cls:=.ref C,dict:=some d,data:=.fields vs }/\vs[1]?=some .none/\2 < vs.size /\
   (A.handled=none\/∃ e' oe' vs',A.handled=some (.ref e')/\e'≠e/\s₁.heap.get? e'=some oe'/\oe'.data=.fields vs'/\vs'[2]?=some .none) /\
   ∀ h' vsA,Heap.ExtBut e s₁.heap h'->h'.get? e=some { cls:=.ref C,dict:=some d,data:=.fields vsA }->vsA.size=vs.size->(∀ i,i≠2->vsA[i]?=vs[i]?)->(A.handled=none->vsA=vs)->E (.ref e) { s₁ with heap:=h' }) E s) :
  wpAny (model prog w) A (raiseStmt env (some x) none) Q E s:=by
 have hcB:(Value.ref C::bm).contains (.type "BaseException")=true:=by rw [Ea,hbase,Bool.or_true]
 unfold raiseStmt;show Zb (Zm h (λv s₁ h₁=>?_) λ_ _ x=>x);obtain ⟨e,d,vs⟩|⟨rfl,hC,he,h1,hsz,hh,hE⟩:=h₁;obtain ⟨hp,g,dr,tk,os⟩:=s₁
 repeat (first | with_reducible show wpAny_loadPart_at he ?_ | with_reducible show wpAny_loadPart_at hC ?_ | with_reducible show cu hC hcB ?_ | wp_step)
 rw [h1];show Zp ?_;rw [Zv s!"d"];show Zp ?_;show mq he rfl hsz hh λh' vsA k1 k2 k3 k4 k5=>hE h' vsA k1 k2 k3 k4 k5
end
noncomputable def hid (h:Heap):List Addr->Heap
 | []=>h
 | a::l=>(hid h l).hide a
theorem mD :∀ {l:List Addr},b∉l->(hid h l).get? b=h.get? b:=by
 intro l
 induction l with
 | nil =>
  intro _;show rfl
 | cons a l ih =>
  intro n;rw [EC,not_or] at n;change ((hid h l).hide a).get? b=_;rw [Heap.hide_ne _ n.1];show ih n.2
theorem uM {o:Obj}:∀ {l:List Addr},(hid h l).get? b=some o->h.get? b=some o:=by
 intro l
 induction l with
 | nil =>
  intro e;show e
 | cons a l ih =>
  intro e;show ih (Heap.of_hide e)
theorem pQ :∀ {l:List Addr},b∈l->(hid h l).get? b=none
 | a::l,m=>by
  by_cases z:b=a
  ·subst z;show Heap.hide_self _ _
  ·change ((hid h l).hide a).get? b=_;rw [Heap.hide_ne _ z];show pQ ((ZC m).resolve_left z)
def Ba:AB->Prop
 | .tup _=>False
 | _=>True
theorem VR.flat (r:VR h v a) (f:Ba a):VR h' v a:=by
 cases r with
 | tup=>show f.elim
 | none=>show .none
 | bool b=>show .bool b
 | int i t=>show .int i t
 | str x t=>show .str x t
 | bytes b t=>show .bytes b t
 | type n=>show .type n
 | ref a=>show .ref a
section
variable {c:Cx}{V V':List NV}{U U0 U1 U' Y:AA}{h h' B:Heap}{s s₀ s₁ s₂ s':Shared}{Q:AB->AA->Prop}{X:AC->AA->Prop}
inductive A9 (C e:Addr) (w a:AB) (U U':AA):Prop
 | mk (d:Addr) (vs:Array Value) (m:Str->Option AB) (h1:U d=none) (h2:d≠e) (h3:U'=(U.set e (.exc C (some d) vs)).set d (.attrs cy m)) (h4:m "what" = some w) (h5:m "at" = some a) (h6:vs[1]?=some .none) (h7:vs[2]?=some .none) (h8:2 < vs.size)
structure Dm (c:Cx) (C fI:Addr) (fd:FuncData) (body:List Stmt):Prop where
 ecls:A0 c.K C
 init:findIn c.K (.ref C) "__init__" = some (some (.ref fI))
 fn:typeIn c.K (.ref fI)=some (.type "function")
 fi:BV c.G fI fd
 ok:Bd fd
 hb:fd.body=.stmts body
 kinds:∀ x∈fd.scope.names.take 3,x.2=.local\/x.2=.cell
 run:∀ (c':Cx) (L:Addr) (U:AA) (e t:Addr) (w a:AB),c'.G=c.G->c'.K=c.K->c'.prog=c.prog->c'.w=c.w->0 < c'.lv->U e=none ->
  Al (c'.call fd fI L) (b7 fd.scope.names [.ref e,w,a]) body (U.set e (.exc C none #[.ref t,.none,.none,.none,.bool false,.none])) (λ_ U'=>A9 C e w a U U') (λx U'=>x=.none/\A9 C e w a U U') (λ_ _ _=>False)
def CK (c:Cx) (fd:FuncData) (as:List AB) (w a:AB):Prop:=∀ e vs s,AW s.heap vs (.ref e::as)->c.G.StaysIn s.heap->∃ ws,AW s.heap ws [.ref e,w,a]/\BindsTo s fd ⟨vs,[]⟩ ((fd.scope.names.map (·.1)).zip ws)
def CT (c:Cx) (U:AA):Prop:=c.A.handled=none\/∃ e' C' d' vs',c.A.handled=some (.ref e')/\U e'=some (.exc C' d' vs')/\vs'[2]?=some .none
theorem i0 
  (l:AL V f) (n:nsIn c.K mainGlobals f=some (some (.ref C))) (mk:Dm c C fI fd body) (lv:2<=c.lv)
  (g:Ay c V pos es U (λas U1=>U1=U/\CT c U/\as.length<=5/\∃ w a,Ba w/\Ba a/\CK c fd as w a/\∀ fr,(c.calm=true->fr=true)->XS ⟨C,w,a,fr⟩ V U) (Av XS V))
  (hstar:autoParam ((backTo pos (starEach es c.env)).all (λx=>!x.1)=true) aU) :
  WS c V (.Raise (some (.Call (.Name f p) es [] pos)) none p') U N R XS:=λs S=>by
 have hp:(backTo pos (starEach es c.env)).any (·.1)=false:=by
  rw [EM];intro x hx;have:=List.all_eq_true.mp hstar x hx;simpa using this
 have XC:=S.ok.KG;obtain ⟨nm,qn,N',bs,bm,hdct,sn,sub,ab,col,dd,k0,k1,k2,k3,k5,hCG,em⟩:=gb XC mk.ecls.made;rw [arm_exec_Raise];show Zb (wpAny_standAt ?_);show kj (C:=C) (nm:=nm) (q:=qn) (N:=N') (bs:=bs) (bm:=bm) (hdct:=hdct) (sn:=sn) (sub:=sub) (ab:=ab) (col:=col) (dd:=dd) (k0:=k0) (k1:=k1) (k2:=k2) (k3:=k3) (k5:=k5) (b4 em).2.1 ?_;change wpAny _ _ (eval (.Call (.Name f p) es [] pos) c.env >>= λv=>standAt p' >>= λ_=>pure v) _ _ s;show Zb ?_;show Zm (wpAny_Call_ofName (Q:=λv s'=>_) ?_) (λv s₃ h₃=>Zb (wpAny_standAt (Zp h₃))) λ_ _ x=>x;show bW S l n ?_;show (?_:wpAny _ _ (holding _ (evalArgs _ true _ _) >>= _) _ _ _);show Zb (wpAny_holding ?_);show bR hstar ?_;show g.useS S λvs s₁ as U1 r SA y q=>?_;show an4 q λe1 hro hl5 q2=>?_;clear q;obtain rfl:=e1;obtain ⟨w,a⟩|⟨fw,fa,eb,hX⟩:=(q2)
 show Zb (wpAny_standAt ?_);obtain ⟨hh,gg,dr,tt,oo⟩:=s₁;rw [hp];have hC:hh.get? C=_:=SA.base _ _ hCG;show Zb (wpAny_keeperOf_exc hC ?_);have hlen:vs.length<=sizeLine:=by have:=r.length;show Zt (by left : vs.length<=5) s!"d"
 show Zb ?_;change wpAny _ _ (call (.ref C) vs) _ _ _;show qC (SA.ok.KG.keeps SA.base) mk.ecls.made mk.init mk.fn ?_ hlen;have kp:∀ b o,hh.get? b=some o->((hh.push { cls:=.type "tuple",data:=.seq vs.toArray }).push (dv C hh.objs.size)).get? b=some o:=λb o e=>Zu _ (Zu _ e);have he0:hh.get? (hh.objs.size+1)=none:=Heap.get?_none_of_le (Nat.le_succ _);have hget:((hh.push { cls:=.type "tuple",data:=.seq vs.toArray }).push (dv C hh.objs.size)).get? (hh.objs.size+1)=some (dv C hh.objs.size):=by heap_get
 have SB:=SA.ext kp;have S3:=SB.add (a:=hh.objs.size+1) (o:=.exc C none #[.ref hh.objs.size,.none,.none,.none,.bool false,.none]) (.exc hget) (SA.new_off he0);have y3:AE c U1 ⟨hh,gg,dr,tt,oo⟩ (U1.set (hh.objs.size+1) (.exc C none #[.ref hh.objs.size,.none,.none,.none,.bool false,.none])) ⟨(hh.push { cls:=.type "tuple",data:=.seq vs.toArray }).push (dv C hh.objs.size),gg,dr,tt,oo⟩ :=
  (AE.ext (s:=⟨hh,gg,dr,tt,oo⟩) (t:=tt) kp).tell he0
 have hs1:U1 (hh.objs.size+1)=none:=SA.none_of he0;have lv':1<=(c.mk' C vs).lv:=by change 1<=c.lv - 1;left
 have w':=jG (c:=c.mk' C vs) (V:=V) (as₀:=.ref (hh.objs.size+1)::as) (as:=[.ref (hh.objs.size+1),w,a]) (Q:=λx U'=>x=.none/\A9 C (hh.objs.size+1) w a U1 U') (X:=Cv) lv' mk.fi mk.ok mk.hb mk.kinds
  (λvs' s' r' b'=>eb (hh.objs.size+1) vs' s' r' b')
  (λL=>(mk.run (c.mk' C vs) L U1 (hh.objs.size+1) hh.objs.size w a rfl rfl rfl rfl lv' hs1).mono (λ_ _ z=>⟨rfl,z⟩) (λ_ _ z=>z) λ_ _ _ z=>z)
  (.ref (hh.objs.size+1)::vs) ⟨(hh.push { cls:=.type "tuple",data:=.seq vs.toArray }).push (dv C hh.objs.size),gg,dr,tt,oo⟩ (S3.mk' s!"o") (.cons (.ref _) (r.keep (ay kp)))
 show wpAny_call (codeAny_mono w' λrr s' z=>?_);rcases rr with e | (v | _ | _ | _)<;>first | show z.elim | skip
 ·show z.no.elim
 obtain ⟨x,U',rx,S',y',z⟩:=z;show an2 z λe1 z2=>?_;clear z;obtain rfl:=e1;apply rx.none';obtain ⟨d,vs1,m,hd0,hde,rfl,hw,ha,h1,h2,hsz⟩:=z2;show ⟨rfl,?_⟩;show Zb (wpAny_holding (wpAny_point (Zp ?_)));have S'':=S'.of_mk' SA.ok;have hye:=(y.trans y3).trans y'.of_mk';have se:(((U1.set (hh.objs.size+1) (.exc C (some d) vs1)).set d (.attrs cy m)) (hh.objs.size+1))=some (.exc C (some d) vs1):=by
  rw [Zn (Ne.symm hde),Zs]
 have sd:(((U1.set (hh.objs.size+1) (.exc C (some d) vs1)).set d (.attrs cy m)) d)=some (.attrs cy m):=Zs ..;have ee:=S''.excAt se;show ⟨hh.objs.size+1,d,vs1,rfl,S''.base _ _ hCG,ee,h1,hsz,?_,λh' vsA hk he' hz hi hcalm=>?_⟩
 ·show hro.imp id ?_;intro r1z;obtain ⟨e',C',d',vs'⟩|⟨q1,q2,q3⟩:=r1z;have ne1:e'≠hh.objs.size+1:=by rintro rfl;rw [hs1] at q2;cases q2
  have ne2:e'≠d:=by rintro rfl;rw [hd0] at q2;cases q2
  show ⟨e',_,vs',q1,ne1,S''.excAt (C:=C') (d:=d') (vs:=vs') (by rw [Zn ne2,Zn ne1];show q2),rfl,q3⟩
 ·generalize hτ:(U1.set (hh.objs.size+1) (.exc C (some d) vs1)).set d (.attrs cy m)=Y at *;have le:∀ b o,U1 b=some o->Y b=some o/\b≠hh.objs.size+1/\b≠d:=λb o q=>by
   have ne1:b≠hh.objs.size+1:=by rintro rfl;rw [hs1] at q;cases q
   have ne2:b≠d:=by rintro rfl;rw [hd0] at q;cases q
   show ⟨by rw [<- hτ,Zn ne2,Zn ne1];show q,ne1,ne2⟩
  have hse:s.heap.get? (hh.objs.size+1)=none:=by
   cases q:s.heap.get? (hh.objs.size+1) with
   | none=>rfl
   | some o=>have:=hye.grow _ o q hs1;rw [se] at this;cases this
  have hsd:s.heap.get? d=none:=by
   cases q:s.heap.get? d with
   | none=>rfl
   | some o=>have:=hye.grow _ o q hd0;rw [sd] at this;cases this
  have S4:=S''.upd se hk (.exc he');have y4:AE c Y s' (Y.set (hh.objs.size+1) (.exc C (some d) vsA)) { s' with heap:=h' }:=AE.upd (t:=s'.toks) se hk (.exc he');have y5:=hye.trans y4;have S5:St c V U1 h':=S4.less λb o q=>by rw [Zn (le b o q).2.1];show (le b o q).1
  have y6:AE c U1 s U1 { s' with heap:=h' }:=⟨y5.kept,y5.there,λ_ _ _ q=>q,y5.gens,y5.os⟩
  have off:=S''.off _ _ se;have offd:=S''.off _ _ sd;have hden:d∉((hh.objs.size+1)::c.frames):=by
   rw [EC,not_or];show ⟨hde,offd.2.2.1⟩
  have hfr:∀ b∈c.frames,c.G.get? b=none:=λb hb=>(Heap.FunFrames.mem S.frames hb).1;show ⟨V,hh.objs.size+1,⟨C,w,a,c.A.handled.isNone⟩,U1,rfl,S5,y6,⟨none,hid h' ((hh.objs.size+1)::c.frames),λb=>b=hh.objs.size+1,⟨λb o q=>?_,λb o q=>?_,?_,λb o q=>uM q,λb hb=>pQ (.tail _ hb),rfl,?_,?_⟩,.inl rfl⟩,hX _ λz=>by rw [S.ok.hd z];rfl⟩
  ·rw [mD]
   ·show S5.base b o q
   ·rw [EC,not_or];show ⟨(by rintro rfl;rw [off.1] at q;cases q),λz=>by rw [hfr b z] at q;cases q⟩
  ·by_cases z:b=hh.objs.size+1
   ·show .inr (.inr z)
   ·by_cases z2:b∈c.frames
    ·show .inl z2
    ·show .inr (.inl ?_);rw [mD];show q;rw [EC,not_or];show ⟨z,z2⟩
  ·rintro b rfl;show ⟨hse,pQ Zh,hs1,off.2⟩
  ·rintro b o rfl q;rw [he'] at q;cases q;intro z;cases z
  ·cases S4.obj d (.attrs cy m) (by rw [Zn hde];show sd) with
   | @attrs _ _ m' n' wn rr =>
    have hw':=rr "what";have ha':=rr "at";rw [hw] at hw';rw [ha] at ha';obtain ⟨v1⟩|⟨e1,r1⟩:=hw';obtain ⟨v2⟩|⟨e2,r2⟩:=ha';show ⟨_,vsA,d,m',he',rfl,⟨rfl,rfl⟩,rfl,⟨s!"o",λz=>by rw [hcalm (by simpa using z)];show h2⟩,⟨n'.at λo q=>by rw [mD hden];show q,wn,hsd,hd0⟩,⟨v1,e1,r1.flat fw⟩,⟨v2,e2,r2.flat fa⟩,?_⟩;show (hi 1 s!"d").trans h1
end
noncomputable def Cx.hand (c:Cx) (e:Addr):Cx:={ c with A:=c.A.mark (some (.ref e)),calm:=false }
section
variable {c:Cx}{V V':List NV}{U U0 U1 U' Y:AA}{h h' B:Heap}{s s₀ s₁ s₂ s':Shared}{Q:AB->AA->Prop}{X:AC->AA->Prop}
theorem St.hand {e:Addr} (S:St c V U h):St (c.hand e) V U h :=
 ⟨⟨S.ok.fr,(λz=>by cases z),S.ok.gd,S.ok.depth,S.ok.units,S.ok.kind,S.ok.glob,S.ok.blt,S.ok.KG,S.ok.lim,S.ok.bg,S.ok.sm,S.ok.locIn,S.ok.cells,S.ok.cellsOff,S.ok.cellsOf,S.ok.fnEnv,S.ok.fnOwn,S.ok.nodup,S.ok.tame⟩,
  S.base,S.frames,S.names,S.locs,S.cellsAt,S.vars,S.obj,S.off,S.ownNew⟩
theorem St.unhand {e:Addr} (ok:c.Ok) (S:St (c.hand e) V U h):St c V U h:=⟨ok,S.base,S.frames,S.names,S.locs,S.cellsAt,S.vars,S.obj,S.off,S.ownNew⟩
theorem AE.hand {e:Addr} (y:AE c U s U' s'):AE (c.hand e) U s U' s':=⟨y.kept,y.there,y.grow,y.gens,y.os⟩
theorem AE.unhand {e:Addr} (y:AE (c.hand e) U s U' s'):AE c U s U' s':=⟨y.kept,y.there,y.grow,y.gens,y.os⟩
theorem Ar.hand {e a:Addr}{x:AC}{P:Addr->Prop} (F:Ar c U s a x fl h B P):Ar (c.hand e) U s a x fl h B P:=⟨F.base,F.all,F.new,F.stays,F.off,F.own,F.noTup,F.here⟩
theorem Ar.unhand {e a:Addr}{x:AC}{P:Addr->Prop} (F:Ar (c.hand e) U s a x fl h B P):Ar c U s a x fl h B P:=⟨F.base,F.all,F.new,F.stays,F.off,F.own,F.noTup,F.here⟩
theorem sM {hb:List Stmt}
  (hf:c.fn=true) (l:∀ V',V'.map (λe=>(e.name,e.kind))=V.map (λe=>(e.name,e.kind))->AL V' f) (n:nsIn c.K mainGlobals f=some (some (.ref C))) (eo:A0 c.K C)
  (g:Al c V body U N R (λx V' U'=>x.cls=C/\∀ e,Al (c.hand e) V' (b₀::hb) U' N R CL)) :
  WS c V (.Try body [.ExceptHandler (some (.Name f pf)) none (b₀::hb) pos] [] [] p) U N R XS:=λs S=>by
 obtain ⟨nm,qn,N',bs,bm,hdct,sn,sub,ab,col,dd,k0,k1,k2,k3,k5,hCG,em⟩:=gb S.ok.KG eo.made;show wpAny_Try_except (Zm (g s S) (λfl s₁ q=>?_) λv s₁ q=>?_)
 ·cases fl with
  | next=>show Zp q
  | _=>show q
 obtain ⟨V1,e,x,U1,rfl,SA,y,⟨fl,B,P,F,hfl⟩,hx,hw⟩:=q;obtain ⟨L⟩|⟨hL,_⟩:=(SA.frameL hf)
 show cW SA hf F y hL hfl λs₂ B₂ P2 SB yC F2=>?_;show bS SB F2 yC λs₃ S3 y3 F3=>?_;obtain ⟨oe,vs,d,m,he,hcls,hrest⟩:=F3.here;show wpAny_handleBy_cons (codeAny_handlers_test ?_) (by intro q;cases q);show bW (c:=c.hand e) (S3.hand (e:=e)) (l V1 (S3.names.trans S.names.symm)) n ?_;obtain ⟨hh,gg,dr,tt,oo⟩:=s₃;show wpAny_excMatches_sub_self (S3.base _ _ hCG) he (hcls.trans (by rw [hx])) (b4 em).2.1 ?_;show codeAny_handlers_suite ?_;show bS (c:=c.hand e) S3.hand F3.hand y3.hand λs₄ SD yD F4=>?_;show Zm (hw e s₄ SD) (λfl s₅ q=>?_) λv s₅ q=>q.no.elim;obtain ⟨V5,U5,SE,yE,q⟩:=q;show ⟨V5,U5,SE.unhand S.ok,(yD.trans yE).unhand,q⟩
end
section
variable {prog:Program}{w:World}{A:Around}{E:Value->Shared->Prop}{s:Shared}{K:Frag}{x C:Addr}{ox:Obj}{od:Option Obj}{name:Str}{expr:Bool}{Q:Value->Shared->Prop}
theorem qB {M:Model}{nameV:Value}{Q:Unit->Shared->Prop}{qn:Str}{N:Addr}{bs bm:List Value}{hdct:Bool}{sn:List Str}{sub:List Value}{ab:Bool}{col:Option Bool}{dd:Option Addr}{k0 k1 k2 k3 k5:Option Value}
  {hp:Heap}{g:Array GenState}{d:Drawn}{os:OsState}
  (hC:hp.get? C=some (excClassObj nm qn C N bs bm hdct sn sub ab col dd k0 k1 k2 k3 k5 "Exception.__new__")) (em:de bm=true)
  (hox:hp.get? x=some ox) (hoc:ox.cls=.ref C) (hq:Q () ⟨hp,g,d,t,os⟩):wpAny M A (checkBuiltinCall "BaseException.__getattribute__" ⟨[.ref x,nameV],[]⟩) Q E ⟨hp,g,d,t,os⟩:=by
 have hk:builtinKind "BaseException.__getattribute__" = some .slot:=s!"k";have hsplit:splitId "BaseException.__getattribute__" = some ("BaseException", "__getattribute__"):=s!"k";have hcB:(Value.ref C::bm).contains (.type "BaseException")=true:=by rw [Ea,(b4 em).2.1,Bool.or_true]
 have ha:=PySem.F.args_bexc_ga (.ref x) nameV;unfold checkBuiltinCall;rw [hk,hsplit];show Zb ?_
 ·unfold isInstance
  repeat (first | (with_reducible show wpAny_loadPart_at hox ?_;rw [hoc]) | with_reducible show cu hC hcB ?_ | wp_step)
  show hq
theorem ph (X:K.In s.heap) (I:InstAt s.heap x ox C od) (eo:A0 K C)
  (hf:findObj K C od name=some (.value v)) (hh:handedIn v=true) (h:Q v { s with toks:=s.toks+1 }):wpAny (model prog w) A (getAttr (.ref x) name expr) Q E s:=by
 obtain ⟨nm,qn,N,bs,bm,hdct,sn,sub,ab,col,ddd,k0,k1,k2,k3,k5,hC,em⟩:=gb X eo.made;have FB:=PySem.F.attr_Exception;obtain ⟨hp,g,d,t,os⟩:=s;have L0:=I.type (M:=model prog w);have L1:=looks_findIn (M:=model prog w) X eo.get;have L2:=looks_findIn (M:=model prog w) X eo.hook;have L3:=looks_find (M:=model prog w) X I hf;have hx0:(expr && onTheHeap (Value.builtin "BaseException.__getattribute__"))=false:=by cases expr<;>rfl
 unfold getAttr getAttrBy;show Zb (wpAny_mkText (wpAny_holding (Zb (L0.at (Zb (L1.at ?_))))));dsimp only;rw [Zv (by rw [show (Value.builtin "BaseException.__getattribute__" == Value.builtin "object.__getattribute__")=false from s!"k",Bool.and_false];decide)];unfold getAttrByItsOwn hookBefore callGetattribute boundAndCalled;rw [Zw (by rfl)];show Zb (L2.at ?_);rw [hx0];dsimp only;rw [Zv s!"d",FB.ga.bind (.ref x)];show Zb (wpAny_attempt (wpAny_holding (Zb (Zp ?_))));show wpAny_call (codeAny_call_builtin FB.ga.plain PySem.F.entry_bexc_ga ?_);show qB hC em I.at_ I.cls ?_;unfold Builtin.«object.__getattribute__»;show Zb (Zp (Zb (Zp (Zb (L0.at (Zb (L3.at ?_)))))));show Zp ?_;change wpAny _ _ (handedOut v) _ _ _;rw [handedOut_of hh];show Zp h
end
section
variable {c:Cx}{V V':List NV}{U U0 U1 U' Y:AA}{h h' B:Heap}{s s₀ s₁ s₂ s':Shared}{Q:AB->AA->Prop}{X:AC->AA->Prop}
inductive DA (c:Cx) (x:Str) (Q:AB->AA->Prop) (a:AB) (U1:AA):Prop
 | mk (o C d:Addr) (vs:Array Value) (ns:List Str) (m:Str->Option AB) (v:AB) (e1:a=.ref o) (h1:U1 o=some (.exc C (some d) vs)) (h2:U1 d=some (.attrs ns m)) (h3:m x=some v) (h4:A0 c.K C) (h5:findIn c.K (.ref C) x=some none) (h6:Q v U1)
theorem ev_attrE {e:Expr}{x:Str} (g:Ev c V e U (DA c x Q) X)
  (hbase:autoParam (attributeBase e x c.env (eval e c.env)=eval e c.env) aU):Ev c V (.Attribute e x p) U Q X:=λs S=>by
 rw [arm_eval_Attribute,hbase];show Zb (g.use S λv s₁ a U1 r SA y q=>?_);obtain ⟨o,C,d,vs,ns,m,w,rfl,ho,hd,hm,ok,hf,q⟩:=q;apply r.ref';show (SA.obj d _ hd).attrs' λm' n wn rr=>?_;obtain ⟨od⟩|⟨eo,lk⟩:=(g9 n.ns)
 have I':InstAt s₁.heap o { cls:=.ref C,dict:=some d,data:=.fields vs } C (some od):=⟨SA.excAt ho,rfl,rfl,eo⟩
 have hy:=rr x;rw [hm] at hy;obtain ⟨w'⟩|⟨hw',rw'⟩:=hy;obtain ⟨cd⟩|⟨hcd,hdict⟩:=(any_some ok.over)
 rw [Bool.and_eq_true] at hdict;have hfo:findObj c.K C (some od) x=some (.value w'):=by
  have e1:W.ownOf cd (some od) x=some (some w'):=(Zw hdict.1).trans ((lk x).trans (congrArg some hw'));unfold findObj;rw [hcd,hf];change (W.ownOf cd (some od) x).bind _=_;rw [e1];rfl
 show Zb (wpAny_standAt (Zb (wpAny_holding (ph (SA.ok.KG.keeps SA.base) I' ok hfo rw'.handed (Zb (wpAny_letTemporaryGo (Zp ?_)))))));show ⟨w,U1,rw',SA,y.toks,q⟩
end
section
variable {c:Cx}{V V':List NV}{U U0 U1 U' Y:AA}{h h' B:Heap}{s s₀ s₁ s₂ s':Shared}{Q:AB->AA->Prop}{X:AC->AA->Prop}
theorem Ar.told {e:Addr}{x:AC}{P:Addr->Prop} (S0:St c V' U0 s₀.heap) (S:St c V U s.heap) (F:Ar c U s₀ e x fl s.heap B P) (y:AE c U0 s₀ U s) (hfr:x.fresh=true) :
  ∃ d vs m,U e=none/\U d=none/\e≠d/\vs[2]?=some .none/\m "what" = some x.what/\m "at" = some x.at_/\St c V ((U.set e (.exc x.cls (some d) vs)).set d (.attrs cy m)) s.heap/\AE c U0 s₀ ((U.set e (.exc x.cls (some d) vs)).set d (.attrs cy m)) s:=by
 obtain ⟨oe,vs,d,m,he,hcls,⟨hdict,hslots⟩,hdat,⟨hsz,hfv⟩,⟨n,wn,hd0,hσd⟩,⟨v1,e1,r1⟩,⟨v2,e2,r2⟩,_⟩:=F.here;show an4 (F.new e F.own) λhe0 hBe hσe hoff=>?_;obtain ⟨c0,d0,dt,sl⟩:=oe;dsimp only at hcls hdict hslots hdat;subst hcls hdict hslots hdat;have hne:e≠d:=by rintro rfl;show ex3 n λo _ _ h1z=>?_;(try clear n);show an2 h1z λq _=>?_;clear h1z;rw [hBe] at q;cases q
 have hdf:d∉c.frames:=λz=>by show ex3 n λo _ _ h2z=>?_;(try clear n);show an2 h2z λq _=>?_;clear h2z;rw [F.off d z] at q;cases q
 have hGe:∀ b,s₀.heap.get? b=none->c.G.get? b=none:=λb q=>by
  cases z:c.G.get? b with
  | none=>rfl
  | some o=>have:=S0.base b o z;rw [q] at this;cases this
 have offd:c.G.get? d=none/\d∉c.own/\d∉c.frames/\∀ x∈c.env.cells,d≠x.2:=by
  show ⟨hGe d hd0,λz=>?_,hdf,?_⟩
  ·obtain ⟨_,o,q,_⟩:=S0.ownNew d z;rw [hd0] at q;cases q
  ·rintro x hx rfl;obtain ⟨v,o⟩|⟨q,_⟩:=(S0.cellsAt x hx)
   rw [hd0] at q;cases q
 have kB:AH B s.heap:=ay F.stays;have S1:=S.add (a:=e) (o:=.exc x.cls (some d) vs) (.exc he) ⟨hGe e he0,hoff⟩
 have S2:=S1.add (a:=d) (o:=.attrs cy λy=>if y = "what" then some x.what else if y = "at" then some x.at_ else none) (.attrs (m':=m) (n.at λo q=>F.stays d o q) wn λy=>by
   by_cases z1:y = "what"
   ·subst z1;rw [Zw rfl];show ⟨v1,e1,r1.keep kB⟩
   ·rw [Zv z1];by_cases z2:y = "at"
    ·subst z2;rw [Zw rfl];show ⟨v2,e2,r2.keep kB⟩
    ·rw [Zv z2];change m y=none;cases q:m y with
     | none=>rfl
     | some v =>
      have:=wn y (by rw [q];simp);unfold cy at this;rw [EC,Eb] at this;rcases this with rfl | rfl
      ·show absurd rfl z1
      ·show absurd rfl z2) offd
 show ⟨d,vs,_,hσe,hσd,hne,hfv hfr,Zw rfl,(Zv s!"d").trans (Zw rfl),S2,(y.tell he0).tell hd0⟩
theorem qI {XS:AC->AA->Prop}{hb:List Stmt}{nm':Str}
  (hf:c.fn=true) (l:∀ V',V'.map (λe=>(e.name,e.kind))=V.map (λe=>(e.name,e.kind))->AL V' f) (n:nsIn c.K mainGlobals f=some (some (.ref C))) (eo:A0 c.K C)
  (ln:∀ V',V'.map (λe=>(e.name,e.kind))=V.map (λe=>(e.name,e.kind))->∀ v,∃ V₂,BO V' nm' v V₂) (hk:c.env.kindOf nm'=some .local) (hloc:c.fenv.frame=some c.env.locals)
  (g:Al c V body U N R (λx V' U'=>x.cls=C/\x.fresh=true/\∀ e d vs m V₂,U' e=none->U' d=none->e≠d->vs[2]?=some .none->m "what" = some x.what->m "at" = some x.at_->BO V' nm' (.ref e) V₂ ->
   Al (c.hand e) V₂ (b₀::hb) ((U'.set e (.exc C (some d) vs)).set d (.attrs cy m)) (λ_ _=>False) (λ_ _=>False) (λx _ U''=>XS x U''))) :
  WS c V (.Try body [.ExceptHandler (some (.Name f pf)) (some nm') (b₀::hb) pos] [] [] p) U N R (λx _ U'=>XS x U'):=λs S=>by
 obtain ⟨nm,qn,N',bs,bm,hdct,sn,sub,ab,col,dd,k0,k1,k2,k3,k5,hCG,em⟩:=gb S.ok.KG eo.made;show wpAny_Try_except (Zm (g s S) (λfl s₁ q=>?_) λv s₁ q=>?_)
 ·cases fl with
  | next=>show Zp q
  | _=>show q
 obtain ⟨V1,e,x,U1,rfl,SA,y,⟨fl,B,P,F,hfl⟩,hx,hfr,hw⟩:=q;obtain ⟨L⟩|⟨hL,_⟩:=(SA.frameL hf)
 show cW SA hf F y hL hfl λs₂ B₂ P2 SB yC F2=>?_;show bS SB F2 yC λs₃ S3 y3 F3=>?_;obtain ⟨oe,vs,d,m,he,hcls,hrest⟩:=F3.here;show wpAny_handleBy_cons (codeAny_handlers_test ?_) (by intro q;cases q);show bW (c:=c.hand e) (S3.hand (e:=e)) (l V1 (S3.names.trans S.names.symm)) n ?_;obtain ⟨hh,gg,dr,tt,oo⟩:=s₃;show wpAny_excMatches_sub_self (S3.base _ _ hCG) he (hcls.trans (by rw [hx])) (b4 em).2.1 ?_;show codeAny_handlers_suite_as ?_;show bS (c:=c.hand e) S3.hand F3.hand y3.hand λs₄ SD yD F4=>?_;obtain ⟨d,vs,m⟩|⟨q1,q2,q3,q4,q5,q6,SE,yE⟩:=(F4.told (c:=c.hand e) S.hand SD yD hfr)
 obtain ⟨V₂,hput⟩:=ln V1 (S3.names.trans S.names.symm) (.ref e);show bD (c:=c.hand e) SE hput (.ref e) (.inl hf) λs₅ S6 yF=>?_;have hw':=hw e d vs m V₂ q1 q2 q3 q4 q5 q6 hput;rw [<- hx] at hw';show Zm (hw' s₅ S6) (λfl s₆ q=>?_) λv s₆ q=>?_
 ·obtain ⟨V6,U6,S7,_,q⟩:=q;cases fl<;>first | show q.elim | (show ex1 q λ_ h6z=>?_;(try clear q);show an2 h6z λ_ q=>?_;clear h6z;show q.elim)
 obtain ⟨V6,e2,x2,U6,rfl,S7,y7,⟨fl',B',P',F',hfl'⟩,hX⟩:=q;show cW (c:=c.hand e) S7 hf F' y7 hL hfl' λs₇ B₇ P7 S8 y8 F8=>?_;obtain ⟨mm,hn⟩:=S8.locs;have hlf:c.env.locals∈c.frames:=by unfold Cx.frames;rw [E0,hloc];show .head _
 have hlo:c.env.locals∈c.own:=S.ok.locIn;show wpAny_nameGoes (env:=c.env) hk hn (by rw [S.ok.kind];rfl) λh' m' n' sb=>?_;have clne:∀ x∈c.env.cells,x.2≠c.env.locals:=S.ok.cellsOff;have S9:St (c.hand e) (V6.map λe=>{ e with val:=none }) U6 h':=by
  obtain ⟨o',es,ep⟩|⟨ho',hd',hrest'⟩:=(id n')
  show S8.turn hlo sb ⟨o',ho',(λvs q=>by rw [hd'] at q;cases q),λxs n q=>by rw [hd'] at q;cases q⟩ ?_ ⟨m',n'⟩ (λx hx=>?_) λ_ e he a ha=>?_
  ·rw [E9];rfl
  ·obtain ⟨v,o⟩|⟨q,d⟩:=(S8.cellsAt x hx)
   show ⟨v,o,(sb.2 _ (clne x hx)).trans q,d⟩
  ·obtain ⟨e0⟩|⟨_,rfl⟩:=(ZM he)
   cases ha
 have y9:AE (c.hand e) U6 s₇ U6 { s₇ with heap:=h',toks:=s₇.toks+1 }:=by
  obtain ⟨o',es,ep⟩|⟨ho',_⟩:=(id n')
  show AE.turn hlo sb ⟨o',ho'⟩
 have ne:∀ b,b∉c.frames->b≠c.env.locals:=λb q z=>q (z ▸ hlf);have F9:Ar (c.hand e) U6 s₅ e2 x2 (some (rawInt L)) h' B₇ P7:=by
  show ⟨F8.base,λb o q=>?_,F8.new,λb o q=>?_,F8.off,F8.own,λb o hb q=>?_,?_⟩
  ·by_cases z:b=c.env.locals
   ·show .inl (z ▸ hlf)
   ·show F8.all b o ((sb.2 b z).symm.trans q)
  ·show (sb.2 b λz=>by rw [z,F8.off _ hlf] at q;cases q).trans (F8.stays b o q)
  ·show F8.noTup b o hb ((sb.2 b (ne b (F8.new b hb).2.2.2.2.1)).symm.trans q)
  ·obtain ⟨oe,vs,d,m,he,h2,h3,h4,h5,h6,h7,h8,T,oT,ts,t1,t2,t3,t4,t5⟩:=F8.here;show ⟨oe,vs,d,m,(sb.2 _ (ne _ (F8.new e2 F8.own).2.2.2.2.1)).trans he,h2,h3,h4,h5,h6,h7,h8,T,oT,ts,t1,t2,t3,(sb.2 _ (ne _ (F8.new T t2).2.2.2.2.1)).trans t4,t5⟩
 have y10:=y8.trans y9;unfold PySem.passOn;show F9.here.tr λoe' vs' T he' hdat' h1=>?_;show Zb (wpAny_field he' hdat' h1 ?_);rw [Zv s!"s"];have hfr':c.env.frame=some L:=by rw [S.ok.fnEnv hf,hL]
 rw [hfr'];show Zb (bS (c:=c.hand e) S9 F9 y10 λs11 S11 y11 F11=>?_);show wpAny_throw ?_;unfold notedBy;show cW (c:=c.hand e) S11 hf F11 y11 hL (.inr (.inr ⟨L,hL,rfl⟩)) λs12 B12 P12 S12 y12 F12=>?_;unfold cameBackBy;show F12.here.tr λoe2 vs2 T2 he2 hdat2 h12=>?_;show Zb (wpAny_field he2 hdat2 h12 ?_);rw [Zv s!"s",hfr'];show bS (S12.unhand S.ok) F12.unhand y12.unhand λs13 S13 y13 F13=>?_;have yy:=(yE.trans yF).unhand;show ⟨_,e2,x2,U6,rfl,S13,yy.trans y13,BQ.older ⟨_,_,_,F13,.inr (.inr ⟨L,hL,rfl⟩)⟩ yy.there,hX⟩
end
noncomputable abbrev pw:Program:=PySem.Challenge.pw_no0389_01
noncomputable def topS (i:Nat):Stmt:=pw.main.body.getD i (.Pass ⟨0,0,0,0⟩)
noncomputable def uY (s:Stmt) (j:Nat):Stmt:=PySem.tameStmt.match_1 (λ_=>Stmt) s (λ_ _ _ b _ _ _ _ _ _ _=>b.getD j (.Pass ⟨0,0,0,0⟩)) λs=>s
noncomputable def subS (i j:Nat):Stmt:=uY (topS i) j
noncomputable def fnOf {α:Type} (s:Stmt) (d:α) (k:Str->Arguments->List Stmt->Scope->α):α:=PySem.tameDef.match_1 (λ_=>α) s (λn a b _ _ _ sc _ _ _=>k n a b sc) λ_=>d
noncomputable def ic (s:Stmt):List Stmt:=fnOf s [] λ_ _ b _=>b
noncomputable def tR (s:Stmt):Scope:=fnOf s default λ_ _ _ sc=>sc
noncomputable def uB (s:Stmt):Arguments:=fnOf s default λ_ a _ _=>a
noncomputable def uD (s:Stmt):Str:=fnOf s default λn _ _ _=>n
noncomputable def fdOf (s:Stmt) (q:Str) (d:Value) (m:Str) (t code:Nat):FuncData :=
 { name:=uD s,qualname:=q,params:=uB s,body:=.stmts (ic s),scope:=tR s,globals:=3,closure:=[],defaults:=d,kwdefaults:=.none,pyModule:=.str m t,code:=.ref code }
noncomputable def fnO (f:FuncData):Obj:=⟨.type "function",none,.func f,#[]⟩
noncomputable def cdO (n q:Str) (t l a:Nat) (r s v u:Nat):Obj:={ cls:=.type "code",data:=.fields #[.str n t,.str q (t+1),.str "/claim/cut.py" (t+2),.int l 0,.int a 0,.int 0 0,.int 0 0,.int 3 0,.ref r,.bool true,.int 181 0,.ref s,.none,.ref v,.ref (v+1),.ref (v+2),.int u 0,.int l 0,.str "/claim/cut.py" (u+1)] }
noncomputable def cdC (n q:Str) (t l a r u:Nat):Obj:={ cls:=.type "code",data:=.fields #[.str n t,.str q (t+1),.str "/claim/cut.py" (t+2),.int l 0,.int a 0,.int 0 0,.int 0 0,.int 3 0,.ref r,.bool true,.int 181 0,.ref (r+1),.none,.none,.none,.ref (r+2),.int u 0,.int l 0,.str "/claim/cut.py" (u+1)] }
noncomputable def en (P:Params) (k:Str) (t:Nat) (v:Value):DictEntry:={ hash:=PyData.keyHash P k,key:=.str k t,val:=v }
noncomputable def o2 (P:Params):Obj:={ cls:=Value.none,data:=Data.dict #[en P "type.__subclasses__.Exception.0" 225 (.int 39 0),en P "type.__subclasses__.Exception.n" 226 (.int 1 0)] 2 }
noncomputable def o3 (P:Params):Obj:={ cls:=Value.type "dict",data:=Data.dict #[en P "__name__" 165 (.str "law_no0389_01" 892),en P "__doc__" 166 .none,en P "__package__" 167 .none,en P "__loader__" 168 (.builtin "__main__.__loader__#opaque"),en P "__spec__" 169 .none,en P "__annotations__" 170 (.ref 6),en P "__builtins__" 171 (.ref 4),en P "__file__" 173 (.str "/claim/cut.py" 172),en P "__cached__" 174 .none,en P "PostError" 228 (.ref 39),en P "NameFault" 244 (.ref 52),en P "StoreFault" 260 (.ref 64),en P "SYSTEM" 264 (.str "\\Seen \\Answered \\Flagged \\Deleted \\Draft" 263),{ hash:=PyData.keyHash P (Str.ofString "NO_KEYWORD"),key:=Value.str (Str.ofString "NO_KEYWORD") 266,val:=Value.str (Str.ofString "(){ %*\"\\]") 265 },en P "MOST_KEYWORD" 268 (.int 60 267),en P "system_flags" 274 (.ref 73),en P "is_keyword" 282 (.ref 80),en P "flag_name" 290 (.ref 87),en P "flag_tuple" 300 (.ref 94),en P "Letter" 352 (.ref 125),en P "Box" 409 (.ref 163),en P "remade" 415 (.ref 172),en P "place_of" 426 (.ref 179),en P "raised" 433 (.ref 186),en P "add_letter" 445 (.ref 193),en P "set_flags" 457 (.ref 200),en P "flags_after" 463 (.ref 205),en P "expunge" 469 (.ref 210),en P "copy_letters" 475 (.ref 215),en P "move_letters" 481 (.ref 220),en P "is_sound" 487 (.ref 225),en P "is_refused" 497 (.ref 232),en P "store_flags" 503 (.ref 238),en P "distinct" 512 (.ref 245),en P "forget_gone" 518 (.ref 250),en P "upper_text" 526 (.ref 255),en P "DELIMITER" 530 (.str "/" 529),en P "INBOX_names" 532 (.str "INBOX" 531),en P "WILD_SIGNS" 534 (.str "%*" 533),en P "is_half" 541 (.ref 262),en P "first_part" 549 (.ref 269),en P "normal_name" 558 (.ref 276),en P "is_barred_code" 565 (.ref 283),en P "check_name" 575 (.ref 290),en P "is_below" 583 (.ref 297),en P "INBOX_store" 587 (.str "INBOX" 586),en P "MOST" 589 (.int 4294967295 588),en P "MOST_MODSEQ" 591 (.int 9223372036854775807 590),en P "SHAPES" 593 (.str "create:tn delete:t rename:tt append:tfno flags:tnf store:tutfn expunge:tu copy:tut move:tut subscribe:t unsubscribe:t forget:tn snapshot:nfr" 592),en P "Store" 653 (.ref 340),en P "is_number" 660 (.ref 351),en P "are_texts" 666 (.ref 356),en P "are_numbers" 672 (.ref 361),en P "fits_shape" 680 (.ref 368),en P "check_row" 692 (.ref 375),en P "settled_name" 701 (.ref 382),en P "need_modseqs" 709 (.ref 389),en P "need_room" 717 (.ref 396),en P "need_new" 725 (.ref 403),en P "need_validity" 733 (.ref 410),en P "need_uids" 739 (.ref 415),en P "create_box" 749 (.ref 422),en P "delete_box" 758 (.ref 429),en P "renamed_pairs" 770 (.ref 436),en P "rename_box" 776 (.ref 441),en P "rename_inbox" 786 (.ref 448),en P "append_letter" 799 (.ref 455),en P "flag_letter" 810 (.ref 462),en P "store_letters" 823 (.ref 469),en P "expunge_letters" 833 (.ref 476),en P "copy_or_move" 839 (.ref 481),en P "subscribe_name" 848 (.ref 488),en P "unsubscribe_name" 854 (.ref 493),en P "is_letter_told" 861 (.ref 500),en P "is_box_told" 867 (.ref 505),en P "need_sound" 876 (.ref 512),en P "restore" 882 (.ref 517),en P "apply" 891 (.ref 524),en P "_law_box" 899 (.ref 529),en P "_law_draw" 909 (.ref 536),en P "_law_name" 916 (.ref 543),en P "_law_flags" 922 (.ref 548),en P "_law_uids" 928 (.ref 553),en P "_law_deed" 934 (.ref 558),en P "_law_normal" 942 (.ref 565),en P "_law_is_name" 949 (.ref 572),en P "_law_known" 959 (.ref 579),en P "_law_new" 966 (.ref 586),en P "_law_put" 976 (.ref 593),en P "_law_take" 982 (.ref 598),en P "_law_turn" 993 (.ref 605),en P "_law_find" 1002 (.ref 612),en P "_law_tree" 1008 (.ref 617),en P "_law_flagging" 1014 (.ref 622),en P "_law_copying" 1020 (.ref 627),en P "_law_forgetting" 1026 (.ref 632),en P "_law_own" 1032 (.ref 637),en P "_law_told" 1042 (.ref 644),en P "law" 1056 (.ref 651)] 99 }
noncomputable def o22:Obj:={ cls:=Value.type "tuple",data:=Data.seq #[Value.int (-1) 202] }
def fd29:FuncData:=fdOf (subS 1 0) "PostError.__init__" (.ref 22) "postkeep.errors" 187 28
def fd36:FuncData:=fdOf (subS 1 1) "PostError.told" .none "postkeep.errors" 187 35
noncomputable def o38 (P:Params):Obj:={ cls:=Value.type "dict",data:=Data.dict #[en P "__module__" 196 (.str "postkeep.errors" 187),en P "__firstlineno__" 200 (.int 2 199),en P "__init__" 211 (.ref 29),en P "told" 218 (.ref 36),en P "__static_attributes__" 221 (.ref 37),en P "__weakref__" 223 (.ref 40),en P "__doc__" 224 .none] 3 }
noncomputable def o39:Obj:={ cls:=Value.type "type",data:=Data.cls { name:=Str.ofString "PostError",bases:=[Value.type "Exception"],mro:=[Value.ref 39,Value.type "Exception",Value.type "BaseException",Value.type "object"],ns:=38,qualname:=Str.ofString "PostError",subclasses:=[Value.ref 52,Value.ref 64] },slots:=#[some (Value.ref 15),none,some (Value.str (Str.ofString "PostError") 189),some (Value.str (Str.ofString "PostError") 197),some (Value.builtin "Exception.__new__"),some (Value.bool true)] }
noncomputable def o51 (P:Params):Obj:={ cls:=Value.type "dict",data:=Data.dict #[en P "__module__" 236 (.str "postkeep.errors" 187),en P "__firstlineno__" 240 (.int 11 239),en P "__static_attributes__" 241 (.ref 50),en P "__doc__" 242 .none] 2 }
noncomputable def o52:Obj:={ cls:=Value.type "type",data:=Data.cls { name:=Str.ofString "NameFault",bases:=[Value.ref 39],mro:=[Value.ref 52,Value.ref 39,Value.type "Exception",Value.type "BaseException",Value.type "object"],ns:=51,qualname:=Str.ofString "NameFault" },slots:=#[some (Value.ref 43),none,some (Value.str (Str.ofString "NameFault") 229),some (Value.str (Str.ofString "NameFault") 237),some (Value.builtin "Exception.__new__"),some (Value.bool true)] }
noncomputable def o63 (P:Params):Obj:={ cls:=Value.type "dict",data:=Data.dict #[en P "__module__" 252 (.str "postkeep.errors" 187),en P "__firstlineno__" 256 (.int 13 255),en P "__static_attributes__" 257 (.ref 62),en P "__doc__" 258 .none] 2 }
noncomputable def o64:Obj:={ cls:=Value.type "type",data:=Data.cls { name:=Str.ofString "StoreFault",bases:=[Value.ref 39],mro:=[Value.ref 64,Value.ref 39,Value.type "Exception",Value.type "BaseException",Value.type "object"],ns:=63,qualname:=Str.ofString "StoreFault" },slots:=#[some (Value.ref 55),none,some (Value.str (Str.ofString "StoreFault") 245),some (Value.str (Str.ofString "StoreFault") 253),some (Value.builtin "Exception.__new__"),some (Value.bool true)] }
def fd73:FuncData:=fdOf (topS 8) "system_flags" .none "postkeep.boxes" 261 72
def fd80:FuncData:=fdOf (topS 9) "is_keyword" .none "postkeep.boxes" 261 79
def fd87:FuncData:=fdOf (topS 10) "flag_name" .none "postkeep.boxes" 261 86
def fd94:FuncData:=fdOf (topS 11) "flag_tuple" .none "postkeep.boxes" 261 93
def fd108:FuncData:=fdOf (subS 12 0) "Letter.__init__" .none "postkeep.boxes" 261 107
def fd115:FuncData:=fdOf (subS 12 1) "Letter.has" .none "postkeep.boxes" 261 114
def fd122:FuncData:=fdOf (subS 12 2) "Letter.told" .none "postkeep.boxes" 261 121
noncomputable def o124 (P:Params):Obj:={ cls:=Value.type "dict",data:=Data.dict #[en P "__module__" 308 (.str "postkeep.boxes" 261),en P "__firstlineno__" 312 (.int 42 311),en P "__init__" 324 (.ref 108),en P "has" 332 (.ref 115),en P "told" 339 (.ref 122),en P "__static_attributes__" 345 (.ref 123),en P "__dict__" 347 (.ref 126),en P "__weakref__" 349 (.ref 127),en P "__doc__" 350 .none] 4 }
noncomputable def o125:Obj:={ cls:=Value.type "type",data:=Data.cls { name:=Str.ofString "Letter",bases:=[Value.type "object"],mro:=[Value.ref 125,Value.type "object"],ns:=124,qualname:=Str.ofString "Letter" },slots:=#[none,none,some (Value.str (Str.ofString "Letter") 301),some (Value.str (Str.ofString "Letter") 309),some (Value.builtin "object.__new__"),some (Value.bool true)] }
def fd143:FuncData:=fdOf (subS 13 0) "Box.__init__" .none "postkeep.boxes" 261 142
def fd150:FuncData:=fdOf (subS 13 1) "Box.letter" .none "postkeep.boxes" 261 149
def fd155:FuncData:=fdOf (subS 13 2) "Box.uids" .none "postkeep.boxes" 261 154
def fd160:FuncData:=fdOf (subS 13 3) "Box.told" .none "postkeep.boxes" 261 159
noncomputable def o162 (P:Params):Obj:={ cls:=Value.type "dict",data:=Data.dict #[en P "__module__" 360 (.str "postkeep.boxes" 261),en P "__firstlineno__" 364 (.int 56 363),en P "__init__" 373 (.ref 143),en P "letter" 382 (.ref 150),en P "uids" 388 (.ref 155),en P "told" 394 (.ref 160),en P "__static_attributes__" 402 (.ref 161),en P "__dict__" 404 (.ref 164),en P "__weakref__" 406 (.ref 165),en P "__doc__" 407 .none] 4 }
noncomputable def o163:Obj:={ cls:=Value.type "type",data:=Data.cls { name:=Str.ofString "Box",bases:=[Value.type "object"],mro:=[Value.ref 163,Value.type "object"],ns:=162,qualname:=Str.ofString "Box" },slots:=#[none,none,some (Value.str (Str.ofString "Box") 353),some (Value.str (Str.ofString "Box") 361),some (Value.builtin "object.__new__"),some (Value.bool true)] }
def fd172:FuncData:=fdOf (topS 14) "remade" .none "postkeep.boxes" 261 171
def fd179:FuncData:=fdOf (topS 15) "place_of" .none "postkeep.boxes" 261 178
def fd186:FuncData:=fdOf (topS 16) "raised" .none "postkeep.boxes" 261 185
def fd193:FuncData:=fdOf (topS 17) "add_letter" .none "postkeep.boxes" 261 192
def fd200:FuncData:=fdOf (topS 18) "set_flags" .none "postkeep.boxes" 261 199
def fd205:FuncData:=fdOf (topS 19) "flags_after" .none "postkeep.boxes" 261 204
def fd210:FuncData:=fdOf (topS 20) "expunge" .none "postkeep.boxes" 261 209
def fd215:FuncData:=fdOf (topS 21) "copy_letters" .none "postkeep.boxes" 261 214
def fd220:FuncData:=fdOf (topS 22) "move_letters" .none "postkeep.boxes" 261 219
def fd225:FuncData:=fdOf (topS 23) "is_sound" .none "postkeep.boxes" 261 224
def fd232:FuncData:=fdOf (topS 25) "is_refused" .none "postkeep.changes" 488 231
noncomputable def o233:Obj:={ cls:=Value.type "tuple",data:=Data.seq #[Value.none] }
def fd238:FuncData:=fdOf (topS 26) "store_flags" (.ref 233) "postkeep.changes" 488 237
def fd245:FuncData:=fdOf (topS 27) "distinct" .none "postkeep.changes" 488 244
def fd250:FuncData:=fdOf (topS 28) "forget_gone" .none "postkeep.changes" 488 249
def fd255:FuncData:=fdOf (topS 30) "upper_text" .none "postkeep.octets" 519 254
def fd262:FuncData:=fdOf (topS 35) "is_half" .none "postkeep.names" 527 261
def fd269:FuncData:=fdOf (topS 36) "first_part" .none "postkeep.names" 527 268
def fd276:FuncData:=fdOf (topS 37) "normal_name" .none "postkeep.names" 527 275
def fd283:FuncData:=fdOf (topS 38) "is_barred_code" .none "postkeep.names" 527 282
def fd290:FuncData:=fdOf (topS 39) "check_name" .none "postkeep.names" 527 289
def fd297:FuncData:=fdOf (topS 40) "is_below" .none "postkeep.names" 527 296
def fd311:FuncData:=fdOf (subS 46 0) "Store.__init__" .none "postkeep.store" 584 310
def fd318:FuncData:=fdOf (subS 46 1) "Store.has" .none "postkeep.store" 584 317
def fd325:FuncData:=fdOf (subS 46 2) "Store.box" .none "postkeep.store" 584 324
def fd332:FuncData:=fdOf (subS 46 3) "Store.names" .none "postkeep.store" 584 331
def fd337:FuncData:=fdOf (subS 46 4) "Store.told" .none "postkeep.store" 584 336
noncomputable def o339 (P:Params):Obj:={ cls:=Value.type "dict",data:=Data.dict #[en P "__module__" 601 (.str "postkeep.store" 584),en P "__firstlineno__" 605 (.int 229 604),en P "__init__" 612 (.ref 311),en P "has" 620 (.ref 318),en P "box" 629 (.ref 325),en P "names" 636 (.ref 332),en P "told" 642 (.ref 337),en P "__static_attributes__" 646 (.ref 338),en P "__dict__" 648 (.ref 341),en P "__weakref__" 650 (.ref 342),en P "__doc__" 651 .none] 4 }
noncomputable def o340:Obj:={ cls:=Value.type "type",data:=Data.cls { name:=Str.ofString "Store",bases:=[Value.type "object"],mro:=[Value.ref 340,Value.type "object"],ns:=339,qualname:=Str.ofString "Store" },slots:=#[none,none,some (Value.str (Str.ofString "Store") 594),some (Value.str (Str.ofString "Store") 602),some (Value.builtin "object.__new__"),some (Value.bool true)] }
def fd351:FuncData:=fdOf (topS 47) "is_number" .none "postkeep.store" 584 350
def fd356:FuncData:=fdOf (topS 48) "are_texts" .none "postkeep.store" 584 355
def fd361:FuncData:=fdOf (topS 49) "are_numbers" .none "postkeep.store" 584 360
def fd368:FuncData:=fdOf (topS 50) "fits_shape" .none "postkeep.store" 584 367
def fd375:FuncData:=fdOf (topS 51) "check_row" .none "postkeep.store" 584 374
def fd382:FuncData:=fdOf (topS 52) "settled_name" .none "postkeep.store" 584 381
def fd389:FuncData:=fdOf (topS 53) "need_modseqs" .none "postkeep.store" 584 388
def fd396:FuncData:=fdOf (topS 54) "need_room" .none "postkeep.store" 584 395
def fd403:FuncData:=fdOf (topS 55) "need_new" .none "postkeep.store" 584 402
def fd410:FuncData:=fdOf (topS 56) "need_validity" .none "postkeep.store" 584 409
def fd415:FuncData:=fdOf (topS 57) "need_uids" .none "postkeep.store" 584 414
def fd422:FuncData:=fdOf (topS 58) "create_box" .none "postkeep.store" 584 421
def fd429:FuncData:=fdOf (topS 59) "delete_box" .none "postkeep.store" 584 428
def fd436:FuncData:=fdOf (topS 60) "renamed_pairs" .none "postkeep.store" 584 435
def fd441:FuncData:=fdOf (topS 61) "rename_box" .none "postkeep.store" 584 440
def fd448:FuncData:=fdOf (topS 62) "rename_inbox" .none "postkeep.store" 584 447
def fd455:FuncData:=fdOf (topS 63) "append_letter" .none "postkeep.store" 584 454
def fd462:FuncData:=fdOf (topS 64) "flag_letter" .none "postkeep.store" 584 461
def fd469:FuncData:=fdOf (topS 65) "store_letters" .none "postkeep.store" 584 468
def fd476:FuncData:=fdOf (topS 66) "expunge_letters" .none "postkeep.store" 584 475
def fd481:FuncData:=fdOf (topS 67) "copy_or_move" .none "postkeep.store" 584 480
def fd488:FuncData:=fdOf (topS 68) "subscribe_name" .none "postkeep.store" 584 487
def fd493:FuncData:=fdOf (topS 69) "unsubscribe_name" .none "postkeep.store" 584 492
def fd500:FuncData:=fdOf (topS 70) "is_letter_told" .none "postkeep.store" 584 499
def fd505:FuncData:=fdOf (topS 71) "is_box_told" .none "postkeep.store" 584 504
def fd512:FuncData:=fdOf (topS 72) "need_sound" .none "postkeep.store" 584 511
def fd517:FuncData:=fdOf (topS 73) "restore" .none "postkeep.store" 584 516
def fd524:FuncData:=fdOf (topS 74) "apply" .none "postkeep.store" 584 523
def fd529:FuncData:=fdOf (topS 76) "_law_box" .none "law_no0389_01" 892 528
def fd536:FuncData:=fdOf (topS 77) "_law_draw" .none "law_no0389_01" 892 535
def fd543:FuncData:=fdOf (topS 78) "_law_name" .none "law_no0389_01" 892 542
def fd548:FuncData:=fdOf (topS 79) "_law_flags" .none "law_no0389_01" 892 547
def fd553:FuncData:=fdOf (topS 80) "_law_uids" .none "law_no0389_01" 892 552
def fd558:FuncData:=fdOf (topS 81) "_law_deed" .none "law_no0389_01" 892 557
def fd565:FuncData:=fdOf (topS 82) "_law_normal" .none "law_no0389_01" 892 564
def fd572:FuncData:=fdOf (topS 83) "_law_is_name" .none "law_no0389_01" 892 571
def fd579:FuncData:=fdOf (topS 84) "_law_known" .none "law_no0389_01" 892 578
def fd586:FuncData:=fdOf (topS 85) "_law_new" .none "law_no0389_01" 892 585
def fd593:FuncData:=fdOf (topS 86) "_law_put" .none "law_no0389_01" 892 592
def fd598:FuncData:=fdOf (topS 87) "_law_take" .none "law_no0389_01" 892 597
def fd605:FuncData:=fdOf (topS 88) "_law_turn" .none "law_no0389_01" 892 604
def fd612:FuncData:=fdOf (topS 89) "_law_find" .none "law_no0389_01" 892 611
def fd617:FuncData:=fdOf (topS 90) "_law_tree" .none "law_no0389_01" 892 616
def fd622:FuncData:=fdOf (topS 91) "_law_flagging" .none "law_no0389_01" 892 621
def fd627:FuncData:=fdOf (topS 92) "_law_copying" .none "law_no0389_01" 892 626
def fd632:FuncData:=fdOf (topS 93) "_law_forgetting" .none "law_no0389_01" 892 631
def fd637:FuncData:=fdOf (topS 94) "_law_own" .none "law_no0389_01" 892 636
def fd644:FuncData:=fdOf (topS 95) "_law_told" .none "law_no0389_01" 892 643
def fd651:FuncData:=fdOf (topS 96) "law" .none "law_no0389_01" 892 650
noncomputable def kf (P:Params):Frag:=[(2,o2 P),(3,o3 P),(22,o22),(28,cdO "__init__" "PostError.__init__" 203 4 3 23 24 25 209),(29,fnO fd29),(35,cdO "told" "PostError.told" 212 9 1 30 31 32 216),(36,fnO fd36),(38,o38 P),(39,o39),(51,o51 P),(52,o52),(63,o63 P),(64,o64),(72,cdO "system_flags" "system_flags" 269 19 0 67 68 69 272),(73,fnO fd73),(79,cdO "is_keyword" "is_keyword" 275 21 1 74 75 76 280),(80,fnO fd80),(86,cdO "flag_name" "flag_name" 283 28 1 81 82 83 288),(87,fnO fd87),(93,cdO "flag_tuple" "flag_tuple" 291 35 1 88 89 90 298),(94,fnO fd94),(107,cdO "__init__" "Letter.__init__" 313 44 6 102 103 104 322),(108,fnO fd108),(114,cdO "has" "Letter.has" 325 51 2 109 110 111 330),(115,fnO fd115),(121,cdO "told" "Letter.told" 333 54 1 116 117 118 337),(122,fnO fd122),(124,o124 P),(125,o125),(142,cdO "__init__" "Box.__init__" 365 58 3 137 138 139 371),(143,fnO fd143),(149,cdO "letter" "Box.letter" 374 67 2 144 145 146 380),(150,fnO fd150),(154,cdC "uids" "Box.uids" 383 71 1 151 386),(155,fnO fd155),(159,cdC "told" "Box.told" 389 74 1 156 392),(160,fnO fd160),(162,o162 P),(163,o163),(171,cdC "remade" "remade" 410 77 1 168 413),(172,fnO fd172),(178,cdO "place_of" "place_of" 416 83 2 173 174 175 424),(179,fnO fd179),(185,cdO "raised" "raised" 427 94 1 180 181 182 431),(186,fnO fd186),(192,cdO "add_letter" "add_letter" 434 97 4 187 188 189 443),(193,fnO fd193),(199,cdO "set_flags" "set_flags" 446 103 3 194 195 196 455),(200,fnO fd200),(204,cdC "flags_after" "flags_after" 458 113 3 201 461),(205,fnO fd205),(209,cdC "expunge" "expunge" 464 122 2 206 467),(210,fnO fd210),(214,cdC "copy_letters" "copy_letters" 470 133 3 211 473),(215,fnO fd215),(219,cdC "move_letters" "move_letters" 476 140 3 216 479),(220,fnO fd220),(224,cdC "is_sound" "is_sound" 482 144 1 221 485),(225,fnO fd225),(231,cdO "is_refused" "is_refused" 490 162 2 226 227 228 495),(232,fnO fd232),(233,o233),(237,cdC "store_flags" "store_flags" 498 164 5 234 501),(238,fnO fd238),(244,cdO "distinct" "distinct" 504 172 1 239 240 241 510),(245,fnO fd245),(249,cdC "forget_gone" "forget_gone" 513 177 2 246 516),(250,fnO fd250),(254,cdC "upper_text" "upper_text" 521 187 1 251 524),(255,fnO fd255),(261,cdO "is_half" "is_half" 535 193 1 256 257 258 539),(262,fnO fd262),(268,cdO "first_part" "first_part" 542 195 1 263 264 265 547),(269,fnO fd269),(275,cdO "normal_name" "normal_name" 550 200 1 270 271 272 556),(276,fnO fd276),(282,cdO "is_barred_code" "is_barred_code" 559 205 1 277 278 279 563),(283,fnO fd283),(289,cdO "check_name" "check_name" 566 207 1 284 285 286 573),(290,fnO fd290),(296,cdO "is_below" "is_below" 576 222 2 291 292 293 581),(297,fnO fd297),(310,cdO "__init__" "Store.__init__" 606 231 1 305 306 307 610),(311,fnO fd311),(317,cdO "has" "Store.has" 613 236 2 312 313 314 618),(318,fnO fd318),(324,cdO "box" "Store.box" 621 239 2 319 320 321 627),(325,fnO fd325),(331,cdO "names" "Store.names" 630 245 1 326 327 328 634),(332,fnO fd332),(336,cdC "told" "Store.told" 637 248 1 333 640),(337,fnO fd337),(339,o339 P),(340,o340),(350,cdO "is_number" "is_number" 654 251 1 345 346 347 658),(351,fnO fd351),(355,cdC "are_texts" "are_texts" 661 253 1 352 664),(356,fnO fd356),(360,cdC "are_numbers" "are_numbers" 667 255 1 357 670),(361,fnO fd361),(367,cdO "fits_shape" "fits_shape" 673 257 2 362 363 364 678),(368,fnO fd368),(374,cdO "check_row" "check_row" 681 269 1 369 370 371 690),(375,fnO fd375),(381,cdO "settled_name" "settled_name" 693 282 1 376 377 378 699),(382,fnO fd382),(388,cdO "need_modseqs" "need_modseqs" 702 289 2 383 384 385 707),(389,fnO fd389),(395,cdO "need_room" "need_room" 710 292 2 390 391 392 715),(396,fnO fd396),(402,cdO "need_new" "need_new" 718 296 2 397 398 399 723),(403,fnO fd403),(409,cdO "need_validity" "need_validity" 726 299 2 404 405 406 731),(410,fnO fd410),(414,cdC "need_uids" "need_uids" 734 302 2 411 737),(415,fnO fd415),(421,cdO "create_box" "create_box" 740 308 3 416 417 418 747),(422,fnO fd422),(428,cdO "delete_box" "delete_box" 750 315 2 423 424 425 756),(429,fnO fd429),(435,cdO "renamed_pairs" "renamed_pairs" 759 321 3 430 431 432 768),(436,fnO fd436),(440,cdC "rename_box" "rename_box" 771 329 3 437 774),(441,fnO fd441),(447,cdO "rename_inbox" "rename_inbox" 777 341 3 442 443 444 784),(448,fnO fd448),(454,cdO "append_letter" "append_letter" 787 349 5 449 450 451 797),(455,fnO fd455),(461,cdO "flag_letter" "flag_letter" 800 354 4 456 457 458 808),(462,fnO fd462),(468,cdO "store_letters" "store_letters" 811 358 6 463 464 465 821),(469,fnO fd469),(475,cdO "expunge_letters" "expunge_letters" 824 364 3 470 471 472 831),(476,fnO fd476),(480,cdC "copy_or_move" "copy_or_move" 834 368 5 477 837),(481,fnO fd481),(487,cdO "subscribe_name" "subscribe_name" 840 376 2 482 483 484 846),(488,fnO fd488),(492,cdC "unsubscribe_name" "unsubscribe_name" 849 382 2 489 852),(493,fnO fd493),(499,cdO "is_letter_told" "is_letter_told" 855 388 1 494 495 496 859),(500,fnO fd500),(504,cdC "is_box_told" "is_box_told" 862 392 1 501 865),(505,fnO fd505),(511,cdO "need_sound" "need_sound" 868 398 2 506 507 508 874),(512,fnO fd512),(516,cdC "restore" "restore" 877 406 4 513 880),(517,fnO fd517),(523,cdO "apply" "apply" 883 427 2 518 519 520 889),(524,fnO fd524),(528,cdC "_law_box" "_law_box" 894 454 1 525 897),(529,fnO fd529),(535,cdO "_law_draw" "_law_draw" 900 463 2 530 531 532 907),(536,fnO fd536),(542,cdO "_law_name" "_law_name" 910 474 1 537 538 539 914),(543,fnO fd543),(547,cdC "_law_flags" "_law_flags" 917 476 1 544 920),(548,fnO fd548),(552,cdC "_law_uids" "_law_uids" 923 482 1 549 926),(553,fnO fd553),(557,cdC "_law_deed" "_law_deed" 929 485 2 554 932),(558,fnO fd558),(564,cdO "_law_normal" "_law_normal" 935 510 1 559 560 561 940),(565,fnO fd565),(571,cdO "_law_is_name" "_law_is_name" 943 515 1 566 567 568 947),(572,fnO fd572),(578,cdO "_law_known" "_law_known" 950 517 1 573 574 575 957),(579,fnO fd579),(585,cdO "_law_new" "_law_new" 960 526 1 580 581 582 964),(586,fnO fd586),(592,cdO "_law_put" "_law_put" 967 528 4 587 588 589 974),(593,fnO fd593),(597,cdC "_law_take" "_law_take" 977 533 2 594 980),(598,fnO fd598),(604,cdO "_law_turn" "_law_turn" 983 540 3 599 600 601 991),(605,fnO fd605),(611,cdO "_law_find" "_law_find" 994 548 2 606 607 608 1000),(612,fnO fd612),(616,cdC "_law_tree" "_law_tree" 1003 553 2 613 1006),(617,fnO fd617),(621,cdC "_law_flagging" "_law_flagging" 1009 583 3 618 1012),(622,fnO fd622),(626,cdC "_law_copying" "_law_copying" 1015 603 3 623 1018),(627,fnO fd627),(631,cdC "_law_forgetting" "_law_forgetting" 1021 611 2 628 1024),(632,fnO fd632),(636,cdC "_law_own" "_law_own" 1027 620 2 633 1030),(637,fnO fd637),(643,cdO "_law_told" "_law_told" 1033 652 1 638 639 640 1040),(644,fnO fd644),(650,cdO "law" "law" 1043 658 1 645 646 647 1054),(651,fnO fd651)]
noncomputable def kAs:List Addr:=[2,3,22,28,29,35,36,38,39,51,52,63,64,72,73,79,80,86,87,93,94,107,108,114,115,121,122,124,125,142,143,149,150,154,155,159,160,162,163,171,172,178,179,185,186,192,193,199,200,204,205,209,210,214,215,219,220,224,225,231,232,233,237,238,244,245,249,250,254,255,261,262,268,269,275,276,282,283,289,290,296,297,310,311,317,318,324,325,331,332,336,337,339,340,350,351,355,356,360,361,367,368,374,375,381,382,388,389,395,396,402,403,409,410,414,415,421,422,428,429,435,436,440,441,447,448,454,455,461,462,468,469,475,476,480,481,487,488,492,493,499,500,504,505,511,512,516,517,523,524,528,529,535,536,542,543,547,548,552,553,557,558,564,565,571,572,578,579,585,586,592,593,597,598,604,605,611,612,616,617,621,622,626,627,631,632,636,637,643,644,650,651]
structure AG (c:Cx):Prop where
 K:c.K=kf c.w.params
 KG:c.K.In c.G
theorem AG.call {a L:Addr} (x:AG c):AG (c.call fd a L):=⟨x.K,x.KG⟩
theorem AG.mk' {r:List Value} (x:AG c):AG (c.mk' C r):=⟨x.K,x.KG⟩
theorem AG.hand {e:Addr} (x:AG c):AG (c.hand e):=⟨x.K,x.KG⟩
theorem AG.comp {s:Scope} (x:AG c):AG (c.comp s cl C):=⟨x.K,x.KG⟩
abbrev Ai (c:Cx) (s:Str) (a:Nat):Prop:=nsIn c.K mainGlobals s=some (some (.ref a))
structure Aa (fd:FuncData) (a:Addr) (n:Nat):Prop where
 look:∀ P,(kf P).lookup a=some ⟨.type "function",none,.func fd,#[]⟩
 code:∀ P,codeIn (kf P) fd.code fd.qualname=true
 ok:Bd fd
 bind:∀ (vs:List Value) (s:Shared),vs.length=n->BindsTo s fd ⟨vs,[]⟩ ((fd.scope.names.map (·.1)).zip vs)
 kinds:(fd.scope.names.take n).all (λx=>x.2 == .local || x.2 == .cell)=true
theorem Aa.fi {a:Addr}{n:Nat} (F:Aa fd a n)  (x:AG c):BV c.G a fd:=by
 have KG:=x.KG;rw [x.K] at KG;show ⟨⟨_,KG _ _ (F.look _),rfl⟩,codeRec_of KG (F.code _)⟩
noncomputable def lN:List (Str × NameKind)->List AB->(List NV->Prop)->Prop
 | [],_,k=>k []
 | p::ns,as,k=>match p with
  | (x,kd)=>match as with
   | []=>lN ns [] λr=>k (⟨x,kd,none⟩::r)
   | a::as=>lN ns as λr=>k (⟨x,kd,some a⟩::r)
theorem nU {ns:List (Str × NameKind)}:∀ {as:List AB}{k:List NV->Prop},lN ns as k->k (b7 ns as):=by
 induction ns with
 | nil=>intro as k h;cases as<;>show h
 | cons p ns ih=>intro as k h;cases as<;>show ih h
def t9 (b:FuncBody) (k:List Stmt->Prop):Prop:=match b with
 | .stmts ss=>(match ss with
  | []=>k []
  | s::r=>k (s::r))
 | _=>False
theorem pG {b:FuncBody}{k:List Stmt->Prop} (h:t9 b k):∃ ss,b=.stmts ss/\k ss:=by
 cases b with
 | stmts ss=>show ⟨ss,rfl,by cases ss<;>show h⟩
 | _=>show h.elim
theorem ag {a:Addr}{n:Nat} (F:Aa fd a n) {Q:AB->AA->Prop}{X:AC->AA->Prop} (x:AG c) (lv:1<=c.lv) (hb:t9 fd.body λss=>body=ss) (hn:as.length=n)
  (hs:lN fd.scope.names as λr=>V'=r) (g:∀ L,Al (c.call fd a L) V' body U (NQ Q) Q (XF X)):AM VR c V as (λvs=>call (.ref a) vs) U Q X:=by
 obtain ⟨ss,hb,rfl⟩:=pG hb;obtain rfl:=nU hs;show pX lv (F.fi x) F.ok hb (λy hy=>?_) (λvs s hl _=>F.bind vs s (hl.trans hn)) g;have:=List.all_eq_true.mp F.kinds y (hn ▸ hy);rw [Bool.or_eq_true] at this;show this.imp eq_of_beq eq_of_beq
theorem lenS {l:List α}{n:Nat} (h:l.length=n+1):∃ a r,l=a::r/\r.length=n:=by
 cases l with
 | nil=>cases h
 | cons a r=>show ⟨a,r,rfl,Nat.succ.inj h⟩
theorem len0 {l:List α} (h:l.length=0):l=[]:=List.length_eq_zero_iff.mp h
theorem len1 {l:List α} (h:l.length=1):∃ a,l=[a]:=List.length_eq_one_iff.mp h
theorem len2 {l:List α} (h:l.length=2):∃ a b,l=[a,b]:=ex2 (lenS h) λa _ h=>ex1 (len1 h.2) λb e=>⟨a,b,by rw [h.1,e]⟩
theorem len3 {l:List α} (h:l.length=3):∃ a b c,l=[a,b,c]:=ex2 (lenS h) λa _ h=>ex2 (len2 h.2) λb c e=>⟨a,b,c,by rw [h.1,e]⟩
theorem len4 {l:List α} (h:l.length=4):∃ a b c d,l=[a,b,c,d]:=ex2 (lenS h) λa _ h=>ex3 (len3 h.2) λb c d e=>⟨a,b,c,d,by rw [h.1,e]⟩
theorem len5 {l:List α} (h:l.length=5):∃ a b c d e,l=[a,b,c,d,e]:=ex2 (lenS h) λa _ h=>ex4 (len4 h.2) λb c d f e=>⟨a,b,c,d,f,by rw [h.1,e]⟩
theorem len6 {l:List α} (h:l.length=6):∃ a b c d e f,l=[a,b,c,d,e,f]:=ex2 (lenS h) λa _ h=>ex5 (len5 h.2) λb c d f g e=>⟨a,b,c,d,f,g,by rw [h.1,e]⟩
theorem bind0' (g:bindArgs fd ⟨[],[]⟩=pure ((fd.scope.names.map (·.1)).zip [])) (vs:List Value) (s:Shared) (h:vs.length=0):BindsTo s fd ⟨vs,[]⟩ ((fd.scope.names.map (·.1)).zip vs):=by cases len0 h;show .of_eq g
theorem bind1' (g:∀ a,bindArgs fd ⟨[a],[]⟩=pure ((fd.scope.names.map (·.1)).zip [a])) (vs:List Value) (s:Shared) (h:vs.length=1):BindsTo s fd ⟨vs,[]⟩ ((fd.scope.names.map (·.1)).zip vs):=by obtain ⟨_,rfl⟩:=len1 h;show .of_eq (g ..)
theorem bind2' (g:∀ a b,bindArgs fd ⟨[a,b],[]⟩=pure ((fd.scope.names.map (·.1)).zip [a,b])) (vs:List Value) (s:Shared) (h:vs.length=2):BindsTo s fd ⟨vs,[]⟩ ((fd.scope.names.map (·.1)).zip vs):=by obtain ⟨_,_,rfl⟩:=len2 h;show .of_eq (g ..)
theorem bind3' (g:∀ a b c,bindArgs fd ⟨[a,b,c],[]⟩=pure ((fd.scope.names.map (·.1)).zip [a,b,c])) (vs:List Value) (s:Shared) (h:vs.length=3):BindsTo s fd ⟨vs,[]⟩ ((fd.scope.names.map (·.1)).zip vs):=by obtain ⟨_,_,_,rfl⟩:=len3 h;show .of_eq (g ..)
theorem bind4' (g:∀ a b c d,bindArgs fd ⟨[a,b,c,d],[]⟩=pure ((fd.scope.names.map (·.1)).zip [a,b,c,d])) (vs:List Value) (s:Shared) (h:vs.length=4):BindsTo s fd ⟨vs,[]⟩ ((fd.scope.names.map (·.1)).zip vs):=by obtain ⟨_,_,_,_,rfl⟩:=len4 h;show .of_eq (g ..)
theorem bind5' (g:∀ a b c d e,bindArgs fd ⟨[a,b,c,d,e],[]⟩=pure ((fd.scope.names.map (·.1)).zip [a,b,c,d,e])) (vs:List Value) (s:Shared) (h:vs.length=5):BindsTo s fd ⟨vs,[]⟩ ((fd.scope.names.map (·.1)).zip vs):=by obtain ⟨_,_,_,_,_,rfl⟩:=len5 h;show .of_eq (g ..)
theorem bind6' (g:∀ a b c d e g,bindArgs fd ⟨[a,b,c,d,e,g],[]⟩=pure ((fd.scope.names.map (·.1)).zip [a,b,c,d,e,g])) (vs:List Value) (s:Shared) (h:vs.length=6):BindsTo s fd ⟨vs,[]⟩ ((fd.scope.names.map (·.1)).zip vs):=by obtain ⟨_,_,_,_,_,_,rfl⟩:=len6 h;show .of_eq (g ..)
theorem f238 (x:AG c):BV c.G 238 fd238:=by
 have KG:=x.KG;rw [x.K] at KG;show ⟨⟨_,KG 238 _ (by rfl),rfl⟩,codeRec_of KG (by rfl)⟩
theorem uZ:Bd fd238:=⟨rfl,rfl,rfl,rfl,rfl,rfl,s!"k",s!"k"⟩
theorem bind238 (x:AG c) (vs:List Value) (s:Shared) (h:vs.length=5) (b:c.G.StaysIn s.heap):BindsTo s fd238 ⟨vs,[]⟩ ((fd238.scope.names.map (·.1)).zip vs):=by
 have X:=x.KG.keeps b;rw [x.K] at X;obtain ⟨v0,v1,v2,v3,v4,rfl⟩:=len5 h;show kp_binds X λS=>by rfl
theorem f73:Aa fd73 73 0:=s!"fn"
theorem g73 (x:AG c):Ai c "system_flags" 73:=s!"gn"
theorem f80:Aa fd80 80 1:=s!"fn"
theorem g80 (x:AG c):Ai c "is_keyword" 80:=s!"gn"
theorem f87:Aa fd87 87 1:=s!"fn"
theorem g87 (x:AG c):Ai c "flag_name" 87:=s!"gn"
theorem f94:Aa fd94 94 1:=s!"fn"
theorem g94 (x:AG c):Ai c "flag_tuple" 94:=s!"gn"
theorem f108:Aa fd108 108 6:=s!"fn"
theorem f122:Aa fd122 122 1:=s!"fn"
theorem f143:Aa fd143 143 3:=s!"fn"
theorem f150:Aa fd150 150 2:=s!"fn"
theorem f155:Aa fd155 155 1:=s!"fn"
theorem f160:Aa fd160 160 1:=s!"fn"
theorem f179:Aa fd179 179 2:=s!"fn"
theorem g179 (x:AG c):Ai c "place_of" 179:=s!"gn"
theorem f186:Aa fd186 186 1:=s!"fn"
theorem g186 (x:AG c):Ai c "raised" 186:=s!"gn"
theorem f193:Aa fd193 193 4:=s!"fn"
theorem g193 (x:AG c):Ai c "add_letter" 193:=s!"gn"
theorem f200:Aa fd200 200 3:=s!"fn"
theorem g200 (x:AG c):Ai c "set_flags" 200:=s!"gn"
theorem f205:Aa fd205 205 3:=s!"fn"
theorem g205 (x:AG c):Ai c "flags_after" 205:=s!"gn"
theorem f210:Aa fd210 210 2:=s!"fn"
theorem g210 (x:AG c):Ai c "expunge" 210:=s!"gn"
theorem f215:Aa fd215 215 3:=s!"fn"
theorem g215 (x:AG c):Ai c "copy_letters" 215:=s!"gn"
theorem f220:Aa fd220 220 3:=s!"fn"
theorem g220 (x:AG c):Ai c "move_letters" 220:=s!"gn"
theorem f232:Aa fd232 232 2:=s!"fn"
theorem g232 (x:AG c):Ai c "is_refused" 232:=s!"gn"
theorem g238 (x:AG c):Ai c "store_flags" 238:=s!"gn"
theorem f245:Aa fd245 245 1:=s!"fn"
theorem g245 (x:AG c):Ai c "distinct" 245:=s!"gn"
theorem f250:Aa fd250 250 2:=s!"fn"
theorem g250 (x:AG c):Ai c "forget_gone" 250:=s!"gn"
theorem f255:Aa fd255 255 1:=s!"fn"
theorem g255 (x:AG c):Ai c "upper_text" 255:=s!"gn"
theorem f262:Aa fd262 262 1:=s!"fn"
theorem g262 (x:AG c):Ai c "is_half" 262:=s!"gn"
theorem f269:Aa fd269 269 1:=s!"fn"
theorem g269 (x:AG c):Ai c "first_part" 269:=s!"gn"
theorem f276:Aa fd276 276 1:=s!"fn"
theorem g276 (x:AG c):Ai c "normal_name" 276:=s!"gn"
theorem f283:Aa fd283 283 1:=s!"fn"
theorem g283 (x:AG c):Ai c "is_barred_code" 283:=s!"gn"
theorem f290:Aa fd290 290 1:=s!"fn"
theorem g290 (x:AG c):Ai c "check_name" 290:=s!"gn"
theorem f297:Aa fd297 297 2:=s!"fn"
theorem g297 (x:AG c):Ai c "is_below" 297:=s!"gn"
theorem f311:Aa fd311 311 1:=s!"fn"
theorem f325:Aa fd325 325 2:=s!"fn"
theorem f332:Aa fd332 332 1:=s!"fn"
theorem f337:Aa fd337 337 1:=s!"fn"
theorem f351:Aa fd351 351 1:=s!"fn"
theorem g351 (x:AG c):Ai c "is_number" 351:=s!"gn"
theorem f356:Aa fd356 356 1:=s!"fn"
theorem g356 (x:AG c):Ai c "are_texts" 356:=s!"gn"
theorem f361:Aa fd361 361 1:=s!"fn"
theorem g361 (x:AG c):Ai c "are_numbers" 361:=s!"gn"
theorem f368:Aa fd368 368 2:=s!"fn"
theorem g368 (x:AG c):Ai c "fits_shape" 368:=s!"gn"
theorem f375:Aa fd375 375 1:=s!"fn"
theorem g375 (x:AG c):Ai c "check_row" 375:=s!"gn"
theorem f382:Aa fd382 382 1:=s!"fn"
theorem g382 (x:AG c):Ai c "settled_name" 382:=s!"gn"
theorem f389:Aa fd389 389 2:=s!"fn"
theorem g389 (x:AG c):Ai c "need_modseqs" 389:=s!"gn"
theorem f396:Aa fd396 396 2:=s!"fn"
theorem g396 (x:AG c):Ai c "need_room" 396:=s!"gn"
theorem f403:Aa fd403 403 2:=s!"fn"
theorem g403 (x:AG c):Ai c "need_new" 403:=s!"gn"
theorem f410:Aa fd410 410 2:=s!"fn"
theorem g410 (x:AG c):Ai c "need_validity" 410:=s!"gn"
theorem f415:Aa fd415 415 2:=s!"fn"
theorem g415 (x:AG c):Ai c "need_uids" 415:=s!"gn"
theorem f422:Aa fd422 422 3:=s!"fn"
theorem g422 (x:AG c):Ai c "create_box" 422:=s!"gn"
theorem f429:Aa fd429 429 2:=s!"fn"
theorem g429 (x:AG c):Ai c "delete_box" 429:=s!"gn"
theorem f436:Aa fd436 436 3:=s!"fn"
theorem g436 (x:AG c):Ai c "renamed_pairs" 436:=s!"gn"
theorem f441:Aa fd441 441 3:=s!"fn"
theorem g441 (x:AG c):Ai c "rename_box" 441:=s!"gn"
theorem f448:Aa fd448 448 3:=s!"fn"
theorem g448 (x:AG c):Ai c "rename_inbox" 448:=s!"gn"
theorem f455:Aa fd455 455 5:=s!"fn"
theorem g455 (x:AG c):Ai c "append_letter" 455:=s!"gn"
theorem f462:Aa fd462 462 4:=s!"fn"
theorem g462 (x:AG c):Ai c "flag_letter" 462:=s!"gn"
theorem f469:Aa fd469 469 6:=s!"fn"
theorem g469 (x:AG c):Ai c "store_letters" 469:=s!"gn"
theorem f476:Aa fd476 476 3:=s!"fn"
theorem g476 (x:AG c):Ai c "expunge_letters" 476:=s!"gn"
theorem f481:Aa fd481 481 5:=s!"fn"
theorem g481 (x:AG c):Ai c "copy_or_move" 481:=s!"gn"
theorem f488:Aa fd488 488 2:=s!"fn"
theorem g488 (x:AG c):Ai c "subscribe_name" 488:=s!"gn"
theorem f493:Aa fd493 493 2:=s!"fn"
theorem g493 (x:AG c):Ai c "unsubscribe_name" 493:=s!"gn"
theorem f524:Aa fd524 524 2:=s!"fn"
theorem g524 (x:AG c):Ai c "apply" 524:=s!"gn"
theorem f529:Aa fd529 529 1:=s!"fn"
theorem g529 (x:AG c):Ai c "_law_box" 529:=s!"gn"
theorem f536:Aa fd536 536 2:=s!"fn"
theorem g536 (x:AG c):Ai c "_law_draw" 536:=s!"gn"
theorem f543:Aa fd543 543 1:=s!"fn"
theorem g543 (x:AG c):Ai c "_law_name" 543:=s!"gn"
theorem f548:Aa fd548 548 1:=s!"fn"
theorem g548 (x:AG c):Ai c "_law_flags" 548:=s!"gn"
theorem f553:Aa fd553 553 1:=s!"fn"
theorem g553 (x:AG c):Ai c "_law_uids" 553:=s!"gn"
theorem f558:Aa fd558 558 2:=s!"fn"
theorem g558 (x:AG c):Ai c "_law_deed" 558:=s!"gn"
theorem f565:Aa fd565 565 1:=s!"fn"
theorem g565 (x:AG c):Ai c "_law_normal" 565:=s!"gn"
theorem f572:Aa fd572 572 1:=s!"fn"
theorem g572 (x:AG c):Ai c "_law_is_name" 572:=s!"gn"
theorem f579:Aa fd579 579 1:=s!"fn"
theorem g579 (x:AG c):Ai c "_law_known" 579:=s!"gn"
theorem f586:Aa fd586 586 1:=s!"fn"
theorem g586 (x:AG c):Ai c "_law_new" 586:=s!"gn"
theorem f593:Aa fd593 593 4:=s!"fn"
theorem g593 (x:AG c):Ai c "_law_put" 593:=s!"gn"
theorem f598:Aa fd598 598 2:=s!"fn"
theorem g598 (x:AG c):Ai c "_law_take" 598:=s!"gn"
theorem f605:Aa fd605 605 3:=s!"fn"
theorem g605 (x:AG c):Ai c "_law_turn" 605:=s!"gn"
theorem f612:Aa fd612 612 2:=s!"fn"
theorem g612 (x:AG c):Ai c "_law_find" 612:=s!"gn"
theorem f617:Aa fd617 617 2:=s!"fn"
theorem g617 (x:AG c):Ai c "_law_tree" 617:=s!"gn"
theorem f622:Aa fd622 622 3:=s!"fn"
theorem g622 (x:AG c):Ai c "_law_flagging" 622:=s!"gn"
theorem f627:Aa fd627 627 3:=s!"fn"
theorem g627 (x:AG c):Ai c "_law_copying" 627:=s!"gn"
theorem f632:Aa fd632 632 2:=s!"fn"
theorem g632 (x:AG c):Ai c "_law_forgetting" 632:=s!"gn"
theorem f637:Aa fd637 637 2:=s!"fn"
theorem g637 (x:AG c):Ai c "_law_own" 637:=s!"gn"
theorem f644:Aa fd644 644 1:=s!"fn"
theorem g644 (x:AG c):Ai c "_law_told" 644:=s!"gn"
theorem f651:Aa fd651 651 1:=s!"fn"
noncomputable def qv:Program:=view pw [96]
noncomputable def loose:List Str:=pw.boundNames.filter (λn=>n != ("law" : Str))
theorem qQ:@denote=@PySem.W.Fast.tw11892475500146522536:=PySem.W.Fast.te11892475500146522536
theorem qt:@treeTable=@PySem.W.Fast.tw14364793385576792824:=PySem.W.Fast.te14364793385576792824
theorem tS:@openSeen=@PySem.W.Fast.tw4187177175401517315:=PySem.W.Fast.te4187177175401517315
set_option maxRecDepth 1000000 in
set_option maxHeartbeats 0 in
theorem one (w:World) (os:OsState):(topT (@PySem.W.Fast.tw11892475500146522536 PySem.W.Fast.tw14364793385576792824) pw w 11 (some (.ref 6)) 8000 ⟨sI w.params,11,{},#[],boot_drawn,boot_toks,os⟩ (topStub pw)).map (λs =>
    ((staticsOk (importedModules pw.main.body) (boot_heap w.params) s.abs.heap && namesBound pw s.abs.heap && gensDone s.abs && laidKept (boot_heap w.params) s.abs.heap),
    @PySem.W.Fast.tw4187177175401517315 qv loose (importedModules pw.main.body) (λs=>xlAt qv [] s && recOk [] s) true s.abs,(kAs.map s.abs.heap.get?,(s.abs.heap.get? sysModules).isSome)))=some (true,openGood qv loose,((kf w.params).map λp=>some p.2,true)):=by
 kernel_rfl
set_option maxRecDepth 1000000 in
set_option maxHeartbeats 0 in
theorem uS (w:World):(fencedOpening (@PySem.W.Fast.tw14364793385576792824) pw w 8000).map (λs=>(s.heap,s.gens,s.drawn,s.toks))=some (boot_heap w.params,Array.mk [],boot_drawn,boot_toks):=by
 kernel_rfl
theorem uT:LeftO pw qv loose (λs=>xlAt qv [] s && recOk [] s) (λs=>(kAs.map s.heap.get?,(s.heap.get? sysModules).isSome)) (λw=>((kf w.params).map λp=>some p.2,true)) 8000:=by
 show ru (λw=>?_) λw os=>?_
 ·rw [qt];show uS w
 ·rw [qQ,qt,tS];show one w os
noncomputable def Cx.top (c:Cx) (fd:FuncData) (a L:Addr):Cx :=
 { c with A:=c.A.deeper (callEnvC fd L a),env:=callEnvC fd L a,fenv:=callEnvC fd L a,outer:=[],own:=L::(cellsFrom (L+1) fd.scope.names []).map (·.2),lv:=c.lv - 1,fn:=true }
theorem Cx.lv_top {n:Nat}{a L:Addr} (h:n+1<=c.lv):n<=(c.top fd a L).lv:=Nat.le_sub_of_add_le h
theorem AG.top {a L:Addr} (x:AG c):AG (c.top fd a L):=⟨x.K,x.KG⟩
structure CG (c:Cx):Prop where
 fr:c.A.frames=some []
 hd:c.calm=true->c.A.handled=none
 gd:c.A.guards=some []
 depth:c.A.depth+8 * c.lv<=900
 units:c.A.units+40 * c.lv<=9000
 KG:c.K.In c.G
 lim:c.G.NoLimit
 bg:∃ mg mb,c.G.Ns mainGlobals mg/\c.G.Ns builtinsNs mb/\(∀ (x:Str),nsIn c.K mainGlobals x=some none->mg x=none)/\∀ (x:Str) (v:Value),x≠("__name__" : Str)->bootBuiltins x=some v->mb x=some v
 sm:∃ o,c.G.get? sysModules=some o
section
variable {c:Cx}{V V':List NV}{U U0 U1 U' Y:AA}{s s₀ s₁ s₂ s':Shared}
theorem St.enter0 {a:Addr} (T:CG c) (base:c.G.StaysIn s.heap) (obj:∀ b o,U b=some o->OR c.prog c.w s.heap b o/\c.G.get? b=none) (lv:1<=c.lv) (ok:Bd fd) (r:AW s.heap vs as)
  (hkind:∀ x∈fd.scope.names.take as.length,x.2=.local\/x.2=.cell)
  (x:InCallC s (callEnvC fd s.heap.objs.size a).locals (bindL (callEnvC fd s.heap.objs.size a).kindOf ((fd.scope.names.map (·.1)).zip vs) λ_=>none) (callEnvC fd s.heap.objs.size a).cells
    (bindC (callEnvC fd s.heap.objs.size a).kindOf ((fd.scope.names.map (·.1)).zip vs) λ_=>none) s₁) :
  St (c.top fd a s.heap.objs.size) (b7 fd.scope.names as) U s₁.heap:=by
 obtain ⟨⟨⟨hh,tk,rfl⟩,ns,keep,fresh⟩,cell,apart,above⟩:=x;have cs:(callEnvC fd s.heap.objs.size a).cells=cellsFrom (s.heap.objs.size+1) fd.scope.names []:=rfl;have hL:s.heap.get? s.heap.objs.size=none:=aj _;have cn:=cf (n:=s.heap.objs.size+1) (acc:=[]) ok.nodup s!"s" s!"s";have clk:∀ y∈cellsFrom (s.heap.objs.size+1) fd.scope.names [],(cellsFrom (s.heap.objs.size+1) fd.scope.names []).lookup y.1=some y.2:=λy hy=>aF cn hy;have cnew:∀ y∈cellsFrom (s.heap.objs.size+1) fd.scope.names [],s.heap.get? y.2=none:=λy hy=>Heap.get?_none_of_le (Nat.le_of_lt (above y.1 y.2 hy));have owns:∀ b∈(c.top fd a s.heap.objs.size).own,s.heap.get? b=none:=λb hb=>by
  rcases ZC hb with rfl | hb
  ·show hL
  ·obtain ⟨y,hy,rfl⟩:=ZM hb;show cnew y hy
 have t:AH s.heap hh:=ay keep;have fr0:(c.top fd a s.heap.objs.size).frames=[s.heap.objs.size]:=rfl;show ⟨⟨?_,T.hd,T.gd,?_,?_,ok.kind,ok.glob,ok.blt,T.KG,T.lim,T.bg,T.sm,.head _,?_,λy hy=>?_,λy hy e=>?_,λ_=>rfl,λ_ y hy=>?_,ok.nodup,ok.tame⟩,λb o e=>keep b o (base b o e),?_,cU ..,⟨_,ns⟩,λy hy=>?_,λe he a' ha=>?_,λb o e=>?_,λb o e=>?_,λb hb=>?_⟩
 ·change c.A.frames.map _=_;rw [T.fr];rfl
 ·have:=T.depth;change c.A.depth+1+8 * (c.lv - 1)<=900;left
 ·have:=T.units;change c.A.units+3+40 * (c.lv - 1)<=9000;left
 ·change ((cellsFrom (s.heap.objs.size+1) fd.scope.names []).map (·.2)).Nodup;rw [List.Nodup,EJ];show apart
 ·have:=above y.1 y.2 hy;show λq=>Nat.lt_irrefl _ (q ▸ this)
 ·obtain ⟨n,k⟩:=y;cases e;obtain ⟨b,hb⟩:=bY (n:=s.heap.objs.size+1) (acc:=[]) (show (n,NameKind.cell)∈fd.scope.names from hy);show ⟨b,aF cn hb⟩
 ·show .tail _ (E7 (f:=(·.2)) hy)
 ·show Heap.FunFrames.cons (m:=_) (by change fd.scope.kind≠.module;rw [ok.kind];simp) rfl ns ?_ trivial;cases q:c.G.get? s.heap.objs.size with
  | none=>show q
  | some o=>have:=base _ o q;rw [hL] at this;cases this
 ·show ⟨_,cell y.1 y.2 (clk y hy)⟩
 ·obtain ⟨v,m,rv,q⟩:=jP r e he a' ha;have nd:=gP (r:=vs) ok.nodup;have kq:=hkind _ q;have mem:(e.name,e.kind)∈fd.scope.names:=EK q;have lk:(callEnvC fd s.heap.objs.size a).kindOf e.name=some e.kind:=aF ok.nodup mem;show ⟨v,?_,rv.keep t⟩;rcases kq with kq | kq
  ·simp only at kq;rw [kq] at lk ⊢;show ⟨_,ns,lz nd m lk⟩
  ·simp only at kq;rw [kq] at lk mem ⊢;obtain ⟨b,hb⟩:=bY (n:=s.heap.objs.size+1) (acc:=[]) mem;have hb':=aF cn hb;show ⟨b,hb',?_⟩;have:=cell e.name b hb';rw [ld nd m lk] at this;show this
 ·show (obj b o e).1.keepB t λob q=>keep b ob q
 ·obtain ⟨ob,q,_⟩:=(obj b o e).1.here;show ⟨(obj b o e).2,λz=>?_,λz=>?_,λy hy z=>?_⟩
  ·rw [owns b z] at q;cases q
  ·rw [fr0] at z;rw [ZS z,hL] at q;cases q
  ·subst z;rw [cnew y hy] at q;cases q
 ·show ⟨?_,?_⟩
  ·cases q:c.G.get? b with
   | none=>show q
   | some o =>
    have:=base b o q;rw [owns b hb] at this;cases this
  ·rcases ZC hb with rfl | hb
   ·obtain ⟨o,es,ep,ho,hd,_⟩:=ns;show ⟨o,ho,λxs n q=>by rw [hd] at q;cases q⟩
   ·obtain ⟨y,hy,rfl⟩:=ZM hb;obtain ⟨o,ho,hd⟩:=cell y.1 y.2 (clk y hy);show ⟨o,ho,λxs n q=>by rw [hd] at q;cases q⟩
end
theorem t6 {ns:Addr}{m:Str->Option Value}{x:Str}{r:Option Value} (X:K.In h) (N:h.Ns ns m) (e:nsIn K ns x=some r):m x=r:=by
 obtain ⟨o,es,ep,ho,hd,hk,hm⟩:=N;have q:=hm x;unfold nsFind findBy at q;rw [<- Array.find?_toList] at q;clear hm hk;cases hl:K.lookup ns with
 | none=>unfold nsIn at e;rw [hl] at e;cases e
 | some o2 =>
  have h2:=X _ _ hl;rw [ho] at h2;have h2:=Option.some.inj h2;rw [<- h2] at hl;clear h2 ho X;obtain ⟨c,d,data,sl⟩:=o;have hd:data=_:=hd;rw [hd] at hl;clear hd;unfold nsIn at e;rw [hl] at e;clear hl;have e:(match es.toList.find? (λz=>z.key.isStr x) with | some e=>some (some e.val) | none=>if es.toList.any (·.refKey) then none else some none)=some r:=e;have q:(es.toList.find? (λz=>z.key.isStr x)).map (·.val)=m x:=q;cases he:es.toList.find? (λz=>z.key.isStr x) with
  | some en=>rw [he] at e q;show q.symm.trans (Option.some.inj e)
  | none =>
   rw [he] at e q;show q.symm.trans ?_;by_cases z:es.toList.any (·.refKey)=true
   ·have e:=(Zw z).symm.trans e;cases e
   ·show Option.some.inj ((Zv z).symm.trans e)
theorem sK {a:Addr}{n:Nat}{Q:AB->AA->Prop} (T:CG c) (x:AG c) (lv:1<=c.lv) (F:Aa fd a n) (hb:fd.body=.stmts body) (hn:as.length=n)
  (g:∀ L,Al (c.top fd a L) (b7 fd.scope.names as) body (λ_=>none) (NQ Q) Q (XF λ_ _=>False))  (base:c.G.StaysIn s.heap) (r:AW s.heap vs as) :
  wpAny (model c.prog c.w) c.A (call (.ref a) vs) (λv s'=>∃ b U',VR s'.heap v b/\Q b U'/\c.G.StaysIn s'.heap/\s'.os=s.os/\s'.gens=s.gens) (λ_ _=>False) s:=by
 show wpAny_call ?_;have fi:=F.fi x;have ok:=F.ok;obtain ⟨o,ho,hd⟩:=fi.obj;have hroom:c.A.depth < recursionLimit:=by have:=T.depth;change c.A.depth < 1000;left
 have hkind:∀ y∈fd.scope.names.take as.length,y.2=.local\/y.2=.cell:=λy hy=>by
  have:=List.all_eq_true.mp F.kinds y (hn ▸ hy);rw [Bool.or_eq_true] at this;show this.imp eq_of_beq eq_of_beq
 show codeAny_call_function hroom (base _ _ ho) hd ok.co ok.gen hb (fi.code.keeps base) (F.bind vs s (r.length.trans hn) _ _ _ _ ?_);rw [ok.clo];have mem:∀ x∈(fd.scope.names.map (·.1)).zip vs,∃ k,(x.1,k)∈fd.scope.names.take as.length:=λx hx=>r.length ▸ m5 hx;show wpAny_newFunctionEnv_cells ok.kind (λx hx=>?_) λenv he s₁ y=>?_
 ·obtain ⟨k,hk⟩:=mem x hx;have hk':=EK hk;have lk:=aF ok.nodup hk';rcases hkind _ hk with q | q
  ·simp only at q;subst q;show .inl lk
  ·simp only at q;subst q;obtain ⟨b,hb⟩:=bY (n:=s.heap.objs.size+1) (acc:=[]) hk';show .inr ⟨lk,by rw [aF (cf ok.nodup s!"s" s!"s") hb];rfl⟩
 ·subst he;have keep:=y.toInCall.keep;have SA:=St.enter0 (U:=λ_=>none) (a:=a) T base (λb o e=>by cases e) lv ok r hkind y;obtain ⟨⟨hh,tk,e₁⟩,_⟩:=y.toInCall;show ⟨(T.lim.keeps base).keeps keep,codeAny_func ?_⟩;show Zm (g s.heap.objs.size s₁ SA) (λf s₂ p=>?_) λe s₂ p=>?_
  ·obtain ⟨V',U',SB,yC,q⟩:=p;have e1:s₂.os=s.os:=yC.os.trans (by rw [e₁]);have e2:s₂.gens=s.gens:=yC.gens.trans (by rw [e₁]);cases f with
   | next=>show ⟨_,U',.none,q,SB.base,e1,e2⟩
   | ret v=>obtain ⟨b,rb,q⟩:=q;show ⟨b,U',rb,q,SB.base,e1,e2⟩
   | _=>show q.elim
  ·obtain ⟨V',e,x',U',rfl,SB,yC,_,q⟩:=p;show q.elim
noncomputable abbrev rw1:OpenLaw:=PySem.Challenge.rw_no0389_01
noncomputable def d1:DefRec:=match defOf qv rw1.name with | some x=>x.1 | none=>⟨"",default,[],default,⟨0,0,0,0⟩⟩
noncomputable abbrev EA (s:Shared):=(kAs.map s.heap.get?,(s.heap.get? sysModules).isSome)
noncomputable abbrev D9 (w:World):=((kf w.params).map λp=>some p.2,true)
noncomputable def c0 (w:World) (G:Heap):Cx:={ prog:=pw,w,K:=kf w.params,G,A:=callerA,env:=default,fenv:=default,outer:=[],own:=[],lv:=23,fn:=true,calm:=true }
theorem uC {G:Heap}{mg mb:Str->Option Value} (X:(kf w.params).In G) (g:G.Ns mainGlobals mg) (b:G.Ns builtinsNs mb) (hb:∀ x:Str,x ≠ "__name__" -> mb x=bootBuiltins x) (l:G.NoLimit) (sm:∃ o,G.get? sysModules=some o):CG (c0 w G) where
 fr:=rfl
 hd:=λ_=>rfl
 gd:=rfl
 depth:=(by decide:301+8 * 23<=900)
 units:=(by decide:4+40 * 23<=9000)
 KG:=X
 lim:=l
 bg:=⟨mg,mb,g,b,λx e=>t6 X g e,λx v n e=>by rw [hb x n];show e⟩
 sm:=sm
abbrev Bj:Prop:=∀ {c:Cx}{a LA:Addr}{xs:List Int}{U:AA}{Q:AB->AA->Prop}{X:AC->AA->Prop},AG c->c.calm=true->22<=c.lv->(∃ vs,c.G.IsList a vs.toArray/\AW c.G vs (xs.map .int))->xs.length<=63->(∀ U',Q (.bool true) U')->∀ body:List Stmt,fd651.body=.stmts body ->
  Al (c.top fd651 651 LA) (b7 fd651.scope.names [.ref a]) body U (NQ Q) Q (XF X)
theorem r6 {R:WRecords}{cl:Str->Option Addr}{ns:List Int}:∀ {vs:List Value}{as:List Addr},ReadsAllW R cl h vs (ns.map WData.int) as->AW h vs (ns.map .int):=by
 induction ns with
 | nil=>intro vs as r;rw [(readsAllW_nil_inv r).1];show .nil
 | cons i ns ih =>
  intro vs as r;show ex4 (readsAllW_cons_inv r) λv ws _ _ q=>an4 q λe _ x r=>?_;show ex1 (readsW_int_inv x) λt e2=>?_;rw [e,e2.1];show .cons (.int _ _) (ih r)
theorem tl {R:WRecords}{cl:Str->Option Addr}{args:List WData}{as:List Addr} (r:ReadsAllW R cl h vs args as) (e:WShape.hasAll R args [.list .int]=true)
  (p:WTm.holds R (.and (.not (.lt (.lit (.int 63)) (.len (.arg 0)))) (.lit (.bool true))) { args:=args }=true) :
  ∃ a us,vs=[.ref a]/\h.IsList a us.toArray/\∃ xs:List Int,AW h us (xs.map .int)/\xs.length<=63:=by
 cases args with
 | nil=>cases e
 | cons d ds =>
  show an2 (Bool.and_eq_true_iff.mp (show (WShape.has R d (.list .int) && WShape.hasAll R ds [])=true from e)) λe1 e2=>?_;clear e;cases ds with
  | cons d2 ds=>cases e2
  | nil =>
   show ex1 (hasW_list e1) λds q=>an2 q λh1 e3=>?_;clear e1 q;obtain ⟨xs,e4⟩:=items_int e3;rw [h1,e4] at r p;show ex4 (readsAllW_cons_inv r) λv ws as bs q=>an4 q λe5 _ x r2=>?_;show ex3 (readsW_list_inv x) λa us as2 q=>an4 q λe7 hl hr _=>?_;show ⟨a,us.toList,by rw [e5,(readsAllW_nil_inv r2).1,e7],hl,xs,r6 hr,?_⟩;clear r hl hr r2 q x e5 e7 e3 e4 h1;have q:WTm.holds R (.and (.not (.lt (.lit (.int 63)) (.len (.arg 0)))) (.lit (.bool true))) { args:=[.list (xs.map WData.int)] }=!decide ((63:Int) < ((xs.map WData.int).length:Int)):=by
    change (match (match some (WData.bool !decide ((63:Int) < ((xs.map WData.int).length:Int))) with | some (.bool false)=>some (WData.bool false) | some (.bool true)=>some (.bool true) | _=>none) with | some (.bool true)=>true | _=>false)=_;cases decide ((63:Int) < ((xs.map WData.int).length:Int))<;>rfl
   rw [q,EQ] at p;have:=of_decide_eq_false (Bool.not_eq_true' _ ▸ p);left
theorem r8 (B:Bj):WalkX qv loose (XL qv []) EA D9 rw1.row.toRowW d1 [] λf vs=>PySem.call f vs:=by
 intro w s₀ s₁ mg mb G Yb a o pm cd doc dV kV ho hd hcd hdf hmg hgens args vals as L hpre hlay hr hwell hlow;obtain ⟨y1,y2⟩:=Prod.mk.inj Yb;have K0:(kf w.params).In s₀.heap:=Frag.in_of rfl y1;have K1:=K0.keeps L.keeps;have hm:mg "law" = some (.ref 651):=t6 K1 G.T.g rfl;have hmg:mg "law" = some (.ref a):=hmg;obtain rfl:651=a:=Value.ref.inj (Option.some.inj (hm.symm.trans hmg));have sm:∃ o,s₁.heap.get? sysModules=some o:=let ⟨o,e⟩:=Option.isSome_iff_exists.mp y2;⟨o,L.keeps _ _ e⟩;obtain ⟨p1,p2⟩:=Bool.and_eq_true_iff.mp hpre;obtain ⟨la,us,rfl,hl,xs,hx,hz⟩:=tl hr p1 p2;have lib:AG (c0 w s₁.heap):=⟨rfl,K1⟩
 have T:=uC (w:=w) K1 G.T.g G.T.b G.T.builtins G.T.nolimit sm;show Zm (sK (c:=c0 w s₁.heap) (Q:=λb _=>b=.bool true) T lib (show 1<=23 from s!"d") f651 (body:=ic (topS 96)) rfl (as:=[.ref la]) rfl (λLA=>B (X:=λ_ _=>False) (Q:=λb _=>b=.bool true) lib rfl (show 22<=23 from s!"d") ⟨us,hl,hx⟩ hz (λ_=>rfl) _ rfl) (λ_ _ e=>e) (.cons (.ref la) .nil)) (λv s' z=>?_) λ_ _ z=>z.elim;obtain ⟨b,U'⟩|⟨r,rfl,hb,ho,hgg⟩:=z;cases r;have post:rw1.row.toRowW.claim.post args (.bool true) args=true:=by
  change (WShape.has [] (.bool true) .bool && WTm.holds [] (.eq .res (.lit (.bool true))) { args:=args,res:=some (.bool true),after:=args })=true
  with_unfolding_all rfl
 show ⟨.inl ⟨_,.bool true,[],rfl,λ_=>rfl,.bool _,post,λ_=>⟨.nil,λ_ h=>nomatch h⟩⟩,.of_keep hb,ho,.of_eq (hgg.trans hgens)⟩
theorem tM:@OpenLaw.wellSaid=@PySem.W.Fast.tw9446332074065402090:=PySem.W.Fast.te9446332074065402090
set_option maxRecDepth 1000000 in
set_option maxHeartbeats 0 in
theorem uX:rw1.wellSaid=true:=by
 rw [tM]
 iterate 38 (refine look_both ?_ (by decide +kernel))
 decide +kernel
set_option maxRecDepth 100000 in
set_option maxHeartbeats 8000000 in
theorem t2 (B:Bj) (said:rw1.row.wellSaid=true):rw1.row.Holds:=by
 show holds_openX (r:=rw1.row) (q:=qv) (loose:=loose) (d:=d1) uT (XP:=XL qv []) (kwd:=[]) (λs e=>xl_of s (Bool.and_eq_true_iff.mp e).1) XL.keeps (by rfl) (by rfl) (by rfl) (λs e=>recFacts_of (Bool.and_eq_true_iff.mp e).2) (by rfl) said s!"k" ⟨rfl,rfl,rfl,rfl,rfl,s!"k"⟩ ?_ (r8 B);show ⟨[.list []],s!"k",s!"k"⟩
theorem t3 (B:Bj):PySem.Challenge.rw_no0389_01.Holds:=holds_law uX (t2 B)
section
variable {c:Cx}{V V':List NV}{U U0 U1 U' Y:AA}{h h' B:Heap}{s s₀ s₁ s₂ s':Shared}{Q:AB->AA->Prop}{QB:Bool->AA->Prop}{X:AC->AA->Prop}
noncomputable def isN:AB->Bool
 | .none=>true
 | _=>false
theorem hY (hr:∀ as,a≠.tup as) (q:Q (.bool (isN a)) U):Au c V .Is a .none U Q X:=λvs s S r=>by
 apply r.two';intro v w ra b;apply b.none';show is_none ?_
 have:(v == Value.none)=isN a:=by cases ra<;>first | rfl | show absurd rfl (hr _)
 change AR VR c V U s Q (.bool (v == .none)) s;rw [this];show .here S (.bool _) q
theorem gt (q:Q (.bool false) U):Au c V .Is (.tup as) .none U Q X:=λvs s S r=>by
 apply r.two';intro v w ra b;apply b.none';show ex4 ra.tup_inv λl ol vs n h6z=>?_;show an5 h6z λh5z e ec ed rs=>?_;clear h6z;obtain rfl:=h5z;show is_none (.here S (.bool _) q)
theorem ff (hr:∀ as,a≠.tup as) (q:Q (.bool (!isN a)) U):Au c V .IsNot a .none U Q X:=λvs s S r=>by
 apply r.two';intro v w ra b;apply b.none';show isNot_none ?_
 have:(v == Value.none)=isN a:=by cases ra<;>first | rfl | show absurd rfl (hr _)
 change AR VR c V U s Q (.bool (!(v == .none))) s;rw [this];show .here S (.bool _) q
theorem pR (q:Q (.bool true) U):Au c V .IsNot (.tup as) .none U Q X:=λvs s S r=>by
 apply r.two';intro v w ra b;apply b.none';show ex4 ra.tup_inv λl ol vs n h12z=>?_;show an5 h12z λh11z e ec ed rs=>?_;clear h12z;obtain rfl:=h11z;show isNot_none (.here S (.bool _) q)
theorem iE {b:Array UInt8}{t:Tok} (q:Q (.bool true) U):Cw c V (.bytes b t) "bytes" U Q X:=jv λs v S r=>by
 apply r.bytes';show call_isinstance (isinstance_true (Tx := "bytes") F.isi_meta_bytes F.sub_bytes_bytes) ⟨rfl,.here S (.bool _) q⟩
theorem AW.take {h:Heap}:∀ {k:Nat}{vs:List Value}{as:List AB},AW h vs as->AW h (vs.take k) (as.take k)
 | 0,_,_,_=>.nil
 | _+1,_,_,.nil=>.nil
 | k+1,_,_,.cons x r=>.cons x (AW.take (k:=k) r)
theorem oG {A:Around}{Q:List Value->Shared->Prop} (hl:s.heap.IsTuple l vs.toArray)
  (h:Q vs { s with heap:=(s.heap.push (seqObj "list" #[] 0)).update s.heap.objs.size (Obj.mapSeq (·++vs.toArray)) }) (hsz:vs.length<=sizeLine) :
  wpAny (model prog w) A (collect (.ref l)) Q E s:=by
 obtain ⟨o,ho,hc,n,hd⟩:=id hl;unfold collect;show Zb (wpAny_runValue (codeAny_builtin entry_proto_collect' ?_));change wpAny _ _ (do again (.builtin "list.__iadd__" ⟨[<- newList [],.ref l],[]⟩)) _ _ s;show Zb (wpAny_newList (Zp ⟨Code.quiet_builtin _ s!"k",codeAny_builtin entry_list_iadd' ?_⟩));change wpAny _ _ (Builtin.List.listExtendWith (.ref s.heap.objs.size) (.ref l) (.ref s.heap.objs.size)) _ _ { s with heap:=s.heap.push (seqObj "list" #[] 0) };unfold Builtin.List.listExtendWith;have ho':(s.heap.push (seqObj "list" #[] 0)).get? l=some o:=Zu _ ho;show Zb (wpAny_typeOf (T := "tuple") ⟨o,ho',hc⟩ ?_);rw [Zw (by rw [show (Value.type "tuple" == Value.type "tuple")=true from by rfl];simp)];show Zb (listItems_at ho' hd ?_);show Zb (listItems_at (xs:=#[]) (n:=0) (Zz _ rfl) rfl ?_);rw [Zv s!"s"];show Zb (listUpdate_at (xs:=#[]) (n:=0) (Zz _ rfl) rfl ?_ (Nat.zero_le _) (by change (#[]++vs.toArray).size<=sizeLine+1;simp only [Array.size_append,E8,EH];left));show Zp ?_;change wpAny (model prog w) A (load s.heap.objs.size >>= _) Q E { s with heap:=(s.heap.push (seqObj "list" #[] 0)).update s.heap.objs.size (Obj.mapSeq (·++vs.toArray)) };show Zb (wpAny_load (get?_update_seq (Zz _ rfl) _) ?_);change wpAny _ _ (pure ((#[]:Array Value)++vs.toArray).toList) Q E _;rw [show ((#[]:Array Value)++vs.toArray).toList=vs from s!"s"];show Zp h
theorem iG {A:Around}{ns:List Int}{Q:Value->Shared->Prop} (hl:s.heap.IsTuple l vs.toArray) (hI:IntsAre vs ns) (h64:vs.length < 64)
  (h:∀ (out:Array Value) (ns':List Int),IntsAre out.toList ns'->ns'.Perm ns->ns'.Pairwise (·<=·)->Q (.ref (s.heap.objs.size+1)) { s with heap:=sortedAll s.heap vs out }) :
  wpAny (model prog w) A (call (.builtin "sorted") [.ref l]) Q E s:=by
 show Calls.call_function_entry kind_sorted plain_sorted entry_sorted (args_sorted1 _) ?_;unfold Builtin.«sorted»;show Zb (m:=PySem.checkCount "sorted" 1 1 _) (Zp ?_);show Zb (oG hl ?_ (Zt (Nat.le_of_lt h64) s!"d"));show Zb (wpAny_newList (hsz:=Zt (Nat.le_of_lt h64) s!"d") ?_);have hsz:((s.heap.push (seqObj "list" #[] 0)).update s.heap.objs.size (Obj.mapSeq (·++vs.toArray))).objs.size=s.heap.objs.size+1:=by
  rw [Heap.size_update,size_push']
 have hoL:(((s.heap.push (seqObj "list" #[] 0)).update s.heap.objs.size (Obj.mapSeq (·++vs.toArray))).push (seqObj "list" vs.toArray 0)).get? (s.heap.objs.size+1)=some (seqObj "list" vs.toArray 0):=by
  rw [<- hsz];show Zz _ rfl
 change wpAny _ _ _ _ _ { s with heap:=((s.heap.push (seqObj "list" #[] 0)).update s.heap.objs.size (Obj.mapSeq (·++vs.toArray))).push (seqObj "list" vs.toArray 0) };rw [hsz];show Zb (wpAny_holding (wpAny_call_entry slot_list_sort ⟨_,hoL,rfl⟩ entry_list_sort (list_sort_tree hoL hI h64 λout ns' a1 a2 a3=>⟨_,rfl,?_⟩) (args_list_sort _)));show Zp ⟨_,rfl,h out ns' a1 a2 a3⟩
theorem kc {ns:List Int} (hz:ns.length < 64) (q:∀ ns':List Int,ns'.Perm ns->ns'.Pairwise (·<=·)->∀ D,U D=none->Q (.ref D) (U.set D (.list (ns'.map .int)))) :
  AM VR c V [.tup (ns.map .int)] (λvs=>call (.builtin "sorted") vs) U Q X:=λvs s S r=>by
 apply r.one';intro v x;show ex4 x.tup_inv λl ol vs n h16z=>?_;show an5 h16z λh15z e ec ed rs=>?_;clear h16z;obtain rfl:=h15z;show iG ⟨ol,e,ec,_,ed⟩ (dk rs) (by rw [rs.length,EQ];show hz) λout ns' a1 a2 a3=>?_;obtain ⟨m,he⟩:=sortedAll_at s.heap vs out;show jN (t:=s.toks) (vs:=out.toList) S (λ_ _=>sortedAll_old) (by rw [Array.toArray_toList];show he) (Heap.get?_none_of_le (Nat.le_succ _)) (p7 a1) (q ns' a2 a3)
noncomputable def idsD (ns:List Int):List (Int × AB):=ns.foldl (λes n=>sto es n (.bool true)) []
theorem pe {h:Heap}:∀ {vs:List Value}{kvs:List (Int × Value)},StoredAll (λv k=>∃ t,v=.int k t) (λ_ y=>y=.bool true) vs kvs->∀ {ns:List Int},IntsAre vs ns->Aw h kvs (idsD ns):=by
 intro vs kvs H
 induction H with
 | nil=>intro ns i;cases i;show .nil
 | @snoc l kvs v k y _ hk hy ih =>
  intro ns i;obtain ⟨t,rfl⟩:=hk;subst hy
  have:∃ ns0,ns=ns0++[k]/\IntsAre l ns0:=by
   clear ih;rename_i h1;clear h1
   induction l generalizing ns with
   | nil=>cases i with | cons n t r=>cases r;show ⟨[],rfl,.nil⟩
   | cons a l ih=>cases i with | cons n t r=>show ex1 (ih r) λns0 h19z=>?_;show an2 h19z λh18z q=>?_;clear h19z;obtain rfl:=h18z;show ⟨n::ns0,rfl,.cons n t q⟩
  obtain ⟨ns0⟩|⟨rfl,q⟩:=this;unfold idsD;rw [Ec];show (ih q).stored (.bool true)
end
def pick (nm:Str->Prop) (cn:Const->Prop) (bo:Expr->Operator->Expr->Prop) (co:Expr->List CmpOp->List Expr->Prop) (su:Expr->Expr->Prop) (tu:List Expr->Prop) (un:UnaryOp->Expr->Prop) (e:Expr):Prop:=@Expr.casesOn (λ_=>Prop) e (λ_ _ _=>False) (λ_ _ _=>False) (λl op r _=>bo l op r) (λop e _=>un op e) (λ_ _ _ _=>False) (λ_ _ _ _=>False) (λ_ _ _=>False) (λ_ _ _=>False) (λ_ _ _ _=>False) (λ_ _ _ _=>False) (λ_ _ _ _ _=>False) (λ_ _ _ _=>False) (λ_ _=>False) (λ_ _=>False) (λ_ _=>False) (λl ops rs _=>co l ops rs) (λ_ _ _ _=>False) (λ_ _ _ _=>False) (λ_ _=>False) (λk _ _=>cn k) (λ_ _ _=>False) (λv s _=>su v s) (λ_ _=>False) (λx _=>nm x) (λ_ _=>False) (λes _ _=>tu es) (λ_ _ _ _=>False)
theorem fg {nm:Str->Prop}{cn:Const->Prop}{bo:Expr->Operator->Expr->Prop}{co:Expr->List CmpOp->List Expr->Prop}{su:Expr->Expr->Prop}{tu:List Expr->Prop}{un:UnaryOp->Expr->Prop}{M:Expr->Prop}{e:Expr} (h:pick nm cn bo co su tu un e)
  (h1:∀ x p,nm x->M (.Name x p)) (h2:∀ k n p,cn k->M (.Constant k n p)) (h3:∀ l op r p,bo l op r->M (.BinOp l op r p)) (h4:∀ l ops rs p,co l ops rs->M (.Compare l ops rs p)) (h5:∀ v s p,su v s->M (.Subscript v s p))
  (h6:∀ es k p,tu es->M (.Tuple es k p)) (h7:∀ op e p,un op e->M (.UnaryOp op e p)):M e:=by
 cases e with
 | Name x p=>show h1 _ _ h
 | Constant k n p=>show h2 _ _ _ h
 | BinOp l op r p=>show h3 _ _ _ _ h
 | Compare l ops rs p=>show h4 _ _ _ _ h
 | Subscript v s p=>show h5 _ _ _ h
 | Tuple es k p=>show h6 _ _ _ h
 | UnaryOp op e p=>show h7 _ _ _ h
 | _=>show False.elim h
def onS (o:Option AB) (k:AB->Prop):Prop:=match o with
 | some a=>k a
 | none=>False
noncomputable def eqR (l:List Nat):List Nat->Bool:=@List.rec Nat (λ_=>List Nat->Bool) (λm=>@List.casesOn Nat (λ_=>Bool) m true λ_ _=>false) (λa _ h m=>@List.casesOn Nat (λ_=>Bool) m false λb m=>bif Nat.beq a b then h m else false) l
noncomputable def eqN (a b:Str):=eqR a.cps.toList b.cps.toList
theorem eqR_of {l:List Nat}:∀ {m},eqR l m=true->l=m:=by
 induction l with
 | nil=>intro m h;cases m with
  | nil=>rfl
  | cons b m=>cases h
 | cons a l ih=>intro m h;cases m with
  | nil=>cases h
  | cons b m=>
   change (bif Nat.beq a b then eqR l m else false)=true at h;cases z:Nat.beq a b with
   | true=>rw [z] at h;rw [Nat.eq_of_beq_eq_true z,ih h]
   | false=>rw [z] at h;cases h
theorem eqN_of {a b:Str} (h:eqN a b=true):a=b:=by
 cases a;cases b;exact congrArg Str.mk (Array.ext' (eqR_of h))
noncomputable def kT:List NV->Str->(AB->Prop)->Prop
 | [],_,_=>False
 | e::r,x,k=>bif eqN e.name x then onS e.val k else kT r x k
theorem f8 {x:Str}{k:AB->Prop}:∀ {V:List NV},kT V x k->∃ a,k a/\Az V x a:=by
 intro V
 induction V with
 | nil=>show λh=>False.elim h
 | cons e r ih =>
  intro h;obtain ⟨y,kd,v⟩:=e;have h':bif eqN y x then onS v k else kT r x k:=h
  clear h;cases z:eqN y x with
  | true =>
   rw [z] at h';cases eqN_of z;cases v with
   | none=>show False.elim h'
   | some a=>show ⟨a,h',.here⟩
  | false=>rw [z] at h';show ex1 (ih h') λa g=>an2 g λg1 g2=>⟨a,g1,.next g2⟩
def avK (a:AB) (i:Int->Prop) (s:Str->Prop) (t:List AB->Prop) (b:Bool->Prop):Prop:=match a with
 | .int x=>i x
 | .str x=>s x
 | .tup x=>t x
 | .bool x=>b x
 | _=>False
theorem dP {M:AB->Prop}{i:Int->Prop}{s:Str->Prop}{t:List AB->Prop}{b:Bool->Prop} (hi:∀ x,i x->M (.int x)) (hs:∀ x,s x->M (.str x)) (ht:∀ x,t x->M (.tup x)) (hb:∀ x,b x->M (.bool x)):avK a i s t b->M a:=by
 cases a with
 | int x=>show hi x
 | str x=>show hs x
 | tup x=>show ht x
 | bool x=>show hb x
 | _=>show False.elim
abbrev no {α:Type} (_:α):Prop:=False
theorem no_ {M:α->Prop} (x:α) (h:no x):M x:=h.elim
def cmS (op:CmpOp) (p1 p2 p3 p4 p5 p6:Prop):Prop:=match op with
 | .Eq=>p1
 | .NotEq=>p2
 | .Lt=>p3
 | .LtE=>p4
 | .Gt=>p5
 | .GtE=>p6
 | _=>False
theorem qr {M:CmpOp->Prop}{p3 p4 p5 p6:Prop}{op:CmpOp} (h1:p1->M .Eq) (h2:p2->M .NotEq) (h3:p3->M .Lt) (h4:p4->M .LtE) (h5:p5->M .Gt) (h6:p6->M .GtE):cmS op p1 p2 p3 p4 p5 p6->M op:=by
 cases op with
 | Eq=>show h1
 | NotEq=>show h2
 | Lt=>show h3
 | LtE=>show h4
 | Gt=>show h5
 | GtE=>show h6
 | _=>show False.elim
def opS (op:Operator) (p1 p2:Prop):Prop:=match op with
 | .Add=>p1
 | .Sub=>p2
 | _=>False
theorem tE {M:Operator->Prop}{op:Operator} (h1:p1->M .Add) (h2:p2->M .Sub):opS op p1 p2->M op:=by
 cases op with
 | Add=>show h1
 | Sub=>show h2
 | _=>show False.elim
def cmpK (op:CmpOp) (a b:AB) (k:Bool->Prop):Prop :=
 avK a (λi=>avK b (λj=>cmS op (k (i == j)) (k (i != j)) (k (decide (i < j))) (k (decide (i<=j))) (k (decide (j < i))) (k (decide (j<=i)))) no no no)
  (λi=>avK b no (λj=>cmS op (k (i == j)) (k (i != j)) False False False False) no no) no no
def opK (op:Operator) (a b:AB) (k:AB->Prop):Prop :=
 avK a (λi=>avK b (λj=>opS op (k (.int (i+j))) (k (.int (i - j)))) no no no) no no no
def cnK (c:Const) (i:Int->Prop) (s:Str->Prop) (b:Bool->Prop) (n:Prop):Prop:=match c with
 | .int x=>i x
 | .str x=>s x
 | .bool x=>b x
 | .none=>n
 | _=>False
theorem pZ {M:Const->Prop}{i:Int->Prop}{s:Str->Prop}{b:Bool->Prop}{n:Prop}{c:Const} (hi:∀ x,i x->M (.int x)) (hs:∀ x,s x->M (.str x)) (hb:∀ x,b x->M (.bool x)) (hn:n->M .none):cnK c i s b n->M c:=by
 cases c with
 | int x=>show hi x
 | str x=>show hs x
 | bool x=>show hb x
 | none=>show hn
 | _=>show False.elim
def sP (c:Const) (k:AB->Prop):Prop:=cnK c (λi=>k (.int i)) (λx=>k (.str x)) (λb=>k (.bool b)) (k .none)
noncomputable def nthK:List AB->Nat->(AB->Prop)->Prop
 | [],_,_=>False
 | a::r,n,k=>match n with
  | 0=>k a
  | n+1=>nthK r n k
theorem qK {k:AB->Prop}:∀ {as:List AB}{n:Nat},nthK as n k->∃ a,k a/\as[n]?=some a:=by
 intro as
 induction as with
 | nil=>show λh=>False.elim h
 | cons a r ih=>intro n h;cases n with
  | zero=>show ⟨a,h,rfl⟩
  | succ n=>show ih h
def natI (i:Int) (k:Nat->Prop):Prop:=match i with
 | .ofNat n=>bif Nat.ble n 1000 then k n else False
 | .negSucc _=>False
theorem sr {k:Nat->Prop}{M:Int->Prop} (h:∀ n:Nat,Nat.ble n 1000=true->k n->M n)  (g:natI i k):M i:=by
 cases i with
 | ofNat n =>
  have g':bif Nat.ble n 1000 then k n else False:=g
  cases z:Nat.ble n 1000 with
  | true=>rw [z] at g';show h n z g'
  | false=>rw [z] at g';show g'.elim
 | negSucc n=>show False.elim g
def natK (c:Const) (k:Nat->Prop):Prop:=cnK c (λi=>natI i k) no no False
def tZ (a:AB) (k:List AB->Prop):Prop:=avK a no no k no
theorem hs {k P:α->Prop} (h:∃ z,k z/\P z) (q:∀ z,k z->P z->G):G:=by
 obtain ⟨z,h1,h2⟩:=h;show q z h1 h2
def uno {α:Type} (l:List α) (k:α->Prop):Prop:=match l with
 | []=>False
 | a::r=>match r with
  | []=>k a
  | _=>False
theorem oE {l:List α}{k:α->Prop} (h:uno l k):∃ a,l=[a]/\k a:=by
 cases l with
 | nil=>show False.elim h
 | cons a r=>cases r with
  | nil=>show ⟨a,rfl,h⟩
  | cons _ _=>show False.elim h
def cmpE (f:Expr->(AB->Prop)->Prop) (k:Bool->Prop) (l:Expr) (ops:List CmpOp) (rs:List Expr):Prop :=
 uno ops λop=>uno rs λr=>bif behindInMarks op r then False else f l λa=>f r λb=>cmpK op a b k
def peS (V:List NV) (f:Expr->(AB->Prop)->Prop) (fs:List Expr->(List AB->Prop)->Prop) (e:Expr) (k:AB->Prop):Prop :=
 pick (λx=>kT V x k) (λc=>sP c k) (λl op r=>f l λa=>f r λb=>opK op a b k) (cmpE f λz=>k (.bool z))
  (λv s=>pick (λ_=>False) (λc=>natK c λn=>f v λa=>tZ a λas=>nthK as n k) (λ_ _ _=>False) (λ_ _ _=>False) (λ_ _=>False) (λ_=>False) (λ_ _=>False) s)
  (λes=>fs es λas=>k (.tup as)) (λ_ _=>False) e
def pesS (f:Expr->(AB->Prop)->Prop) (fs:List Expr->(List AB->Prop)->Prop) (es:List Expr) (k:List AB->Prop):Prop:=match es with
 | []=>k []
 | e::es=>f e λa=>fs es λas=>k (a::as)
noncomputable def peB (V:List NV):Nat->(Expr->(AB->Prop)->Prop) × (List Expr->(List AB->Prop)->Prop)
 | 0=>(λ_ _=>False,λ_ _=>False)
 | n+1=>(peS V (peB V n).1 (peB V n).2,pesS (peB V n).1 (peB V n).2)
def BW (V:List NV) (e:Expr) (a:AB):Prop:=∀ c U Q X,Q a U->Ev c V e U Q X
def DI (V:List NV) (n:Nat) (es:List Expr) (as:List AB):Prop:=as.length<=n/\∀ c pos U QL X,QL as U->Ay c V pos es U QL X
def Bg (V:List NV) (e:Expr) (a:Bool):Prop:=∀ c U Q X,Q a U->Bn c V e U Q X
def PV (V:List NV) (f:Expr->(AB->Prop)->Prop):Prop:=∀ {e k},f e k->∃ a,k a/\BW V e a
theorem nz {c:Const}{n:Nat}{k:AB->Prop}:sP c k->∃ a,k a/\BW V (.Constant c n p) a :=
 pZ (M:=λc=>∃ a,k a/\BW V (.Constant c n p) a) (λ_ h=>⟨_,h,λ_ _ _ _ q=>ev_int q⟩) (λ_ h=>⟨_,h,λ_ _ _ _ q=>ev_str q⟩) (λ_ h=>⟨_,h,λ_ _ _ _ q=>ev_bool q⟩) λh=>⟨_,h,λ_ _ _ _ q=>ev_none q⟩
abbrev CS (op:Operator) (a b z:AB):Prop:=∀ c V U Q X,Q z U->Bw c V op a b U Q X
abbrev B8 (op:CmpOp) (a b:AB) (z:Bool):Prop:=∀ c V U Q X,Q (.bool z) U->Au c V op a b U Q X
theorem sO {op:Operator}{b:AB}{k:AB->Prop}:opK op a b k->∃ z,k z/\CS op a b z :=
 dP (M:=λa=>∃ z,k z/\CS op a b z) (λi=>dP (M:=λb=>∃ z,k z/\CS op (.int i) b z) (λj=>tE (M:=λop=>∃ z,k z/\CS op (.int i) (.int j) z)
  (λh=>⟨_,h,λ_ _ _ _ _ q=>oK q⟩) λh=>⟨_,h,λ_ _ _ _ _ q=>o0 q⟩) (λ_ h=>h.elim) (λ_ h=>h.elim) λ_ h=>h.elim) (λ_ h=>h.elim) (λ_ h=>h.elim) λ_ h=>h.elim
theorem qP {op:CmpOp}{b:AB}{k:Bool->Prop}:cmpK op a b k->∃ z,k z/\B8 op a b z :=
 dP (M:=λa=>∃ z,k z/\B8 op a b z)
  (λi=>dP (M:=λb=>∃ z,k z/\B8 op (.int i) b z) (λj=>qr (M:=λop=>∃ z,k z/\B8 op (.int i) (.int j) z)
   (λh=>⟨_,h,λ_ _ _ _ _ q=>pC q⟩) (λh=>⟨_,h,λ_ _ _ _ _ q=>lE q⟩) (λh=>⟨_,h,λ_ _ _ _ _ q=>pH q⟩) (λh=>⟨_,h,λ_ _ _ _ _ q=>o7 q⟩)
   (λh=>⟨_,h,λ_ _ _ _ _ q=>o4 q⟩) λh=>⟨_,h,λ_ _ _ _ _ q=>oM q⟩) (λ_ h=>h.elim) (λ_ h=>h.elim) λ_ h=>h.elim)
  (λi=>dP (M:=λb=>∃ z,k z/\B8 op (.str i) b z) (λ_ h=>h.elim) (λj=>qr (M:=λop=>∃ z,k z/\B8 op (.str i) (.str j) z)
   (λh=>⟨_,h,λ_ _ _ _ _ q=>mw q⟩) (λh=>⟨_,h,λ_ _ _ _ _ q=>lM q⟩) False.elim False.elim False.elim False.elim) (λ_ h=>h.elim) λ_ h=>h.elim)
  (λ_ h=>h.elim) λ_ h=>h.elim
theorem bifF {z:Bool}{P:Prop} (h:bif z then False else P):z=false/\P:=by
 cases z with
 | true=>show False.elim h
 | false=>show ⟨rfl,h⟩
theorem kQ {f:Expr->(AB->Prop)->Prop}{k:Bool->Prop}{l:Expr}{ops:List CmpOp}{rs:List Expr} (F:PV V f) (h:cmpE f k l ops rs) :
  ∃ z,k z/\BW V (.Compare l ops rs p) (.bool z)/\Bg V (.Compare l ops rs p) z:=by
 show ex1 (oE h) λop g=>an2 g λe g=>?_;show ex1 (oE g) λr g=>an2 g λe' g=>an2 (bifF g) λhm g=>hs (F g) λa g ha=>hs (F g) λb g hb=>hs (qP g) λz g hz=>?_;rw [e,e'];show ⟨z,g,λ_ _ _ _ q=>ev_compare1 (ha _ _ _ _ (hb _ _ _ _ (hz _ _ _ _ _ q))) hm,λ_ _ _ _ q=>dM (ha _ _ _ _ (hb _ _ _ _ (hz _ _ _ _ _ (iL q)))) hm⟩
theorem rU {f:Expr->(AB->Prop)->Prop}{k:AB->Prop}{v:Expr}{c:Const} (F:PV V f):natK c (λn=>f v λa=>tZ a λas=>nthK as n k)->∃ a,k a/\BW V (.Subscript v (.Constant c m p') p) a :=
 pZ (M:=λc=>∃ a,k a/\BW V (.Subscript v (.Constant c m p') p) a) (λ_=>sr (M:=λi=>∃ a,k a/\BW V (.Subscript v (.Constant (.int i) m p') p) a) λn hn g=>hs (F g) λa g ha =>
  dP (M:=λa=>BW V v a->∃ a,k a/\BW V (.Subscript v (.Constant (.int n) m p') p) a) (λ_ h=>h.elim) (λ_ h=>h.elim) (λas g ha=>hs (qK g) λa g e =>
   ⟨a,g,λ_ _ _ _ q=>ev_subscript (ha _ _ _ _ (ev_int (cG (Int.natCast_nonneg n) (Int.lt_of_le_of_lt (Int.ofNat_le.mpr (Nat.le_of_ble_eq_true hn)) s!"d") e q)))⟩) (λ_ h=>h.elim) g ha)
  (λ_ h=>h.elim) (λ_ h=>h.elim) False.elim
theorem sy {n:Nat}{e:Expr}{k:AB->Prop} (h:(peB V n).1 e k) (es:List Expr) (env:Env):starEach (e::es) env=(false,eval e env)::starEach es env:=by
 cases n with
 | zero=>show False.elim h
 | succ n=>show fg (M:=λe=>starEach (e::es) env=(false,eval e env)::starEach es env) h (λ_ _ _=>rfl) (λ_ _ _ _=>rfl) (λ_ _ _ _ _=>rfl) (λ_ _ _ _ _=>rfl) (λ_ _ _ _=>rfl) (λ_ _ _ _=>rfl) (λ_ _ _ _=>rfl)
theorem ml (n:Nat):n<=1000->PV V (peB V n).1/\∀ {es k},(peB V n).2 es k->∃ as,k as/\DI V n es as:=by
 induction n with
 | zero=>show λ_=>⟨λh=>False.elim h,λh=>False.elim h⟩
 | succ n ih =>
  intro hn;show an2 (ih (Nat.le_of_succ_le hn)) λi1 i2=>⟨λ{e k} h=>?_,λ{es k} h=>?_⟩
  ·show fg (M:=λe=>∃ a,k a/\BW V e a) h (λx p h=>hs (f8 h) λa g l=>⟨a,g,λ_ _ _ _ q=>ev_name l q⟩) (λc n p h=>nz h)
    (λl op r p h=>hs (i1 h) λa g ha=>hs (i1 g) λb g hb=>hs (sO g) λz g hz=>⟨z,g,λ_ _ _ _ q=>ev_binop (ha _ _ _ _ (hb _ _ _ _ (hz _ _ _ _ _ q)))⟩)
    (λl ops rs p h=>ex1 (kQ i1 h) λz g=>an3 g λg hz _=>⟨_,g,hz⟩)
    (λv s p h=>fg (M:=λs=>∃ a,k a/\BW V (.Subscript v s p) a) h (λ_ _ h=>False.elim h) (λc n p h=>rU i1 h) (λ_ _ _ _ h=>False.elim h) (λ_ _ _ _ h=>False.elim h) (λ_ _ _ h=>False.elim h) (λ_ _ _ h=>False.elim h) (λ_ _ _ h=>False.elim h))
    (λes _ p h=>hs (i2 h) λas g hl=>an2 hl λhz hl=>⟨_,g,λ_ _ _ _ q=>ev_tuple (hl _ _ _ _ _ ⟨Zt hz (Zt (Nat.le_of_succ_le hn) s!"d"),q⟩)⟩) (λ_ _ _ h=>False.elim h)
  ·cases es with
   | nil=>show ⟨[],h,Nat.zero_le _,λ_ _ _ _ _ q=>cT q⟩
   | cons e es=>show hs (i1 h) λa g ha=>hs (i2 g) λas g hl=>an2 hl λhz hl=>⟨a::as,g,Nat.succ_le_succ hz,λ_ _ _ _ _ q=>b8 (ha _ _ _ _ (hl _ _ _ _ _ q)) (sy h _ _)⟩
def uV (a:AB) (k:Bool->Prop):Prop:=avK a no no no k
def ptS (V:List NV) (k:Bool->Prop) (e:Expr) (un:UnaryOp->Expr->Prop):Prop :=
 pick (λx=>kT V x λa=>uV a k) (λ_=>False) (λ_ _ _=>False) (cmpE (peB V 12).1 k) (λ_ _=>False) (λ_=>False) un e
def ptK (V:List NV) (e:Expr) (k:Bool->Prop):Prop:=ptS V k e λop e=>match op with
 | .Not=>ptS V (λz=>k (!z)) e λ_ _=>False
 | _=>False
theorem mH {k:Bool->Prop}{e:Expr}{un:UnaryOp->Expr->Prop} (h:ptS V k e un) (hu:∀ op e p,un op e->∃ z,k z/\Bg V (.UnaryOp op e p) z):∃ z,k z/\Bg V e z :=
 fg (M:=λe=>∃ z,k z/\Bg V e z) h (λx p h=>hs (f8 h) λa=>dP (M:=λa=>Az V x a->∃ z,k z/\Bg V (.Name x p) z) (λ_ h=>h.elim) (λ_ h=>h.elim) (λ_ h=>h.elim) λb g l=>⟨b,g,λ_ _ _ _ q=>gQ (ev_name l (iL q))⟩) (λ_ _ _ h=>False.elim h) (λ_ _ _ _ h=>False.elim h)
  (λl ops rs p h=>ex1 (kQ (ml 12 s!"d").1 h) λz g=>an3 g λg _ hz=>⟨_,g,hz⟩) (λ_ _ _ h=>False.elim h) (λ_ _ _ h=>False.elim h) hu
theorem n7 {k:Bool->Prop}{e:Expr} (h:ptK V e k):∃ z,k z/\Bg V e z:=mH h λop e p h=>by
 cases op with
 | Not=>show hs (mH h λ_ _ _ h=>False.elim h) λz g hz=>⟨_,g,λ_ _ _ _ q=>lP (hz _ _ _ _ q)⟩
 | _=>show False.elim h
def ifK (s:Stmt) (k:Expr->Prop):Prop:=PyProof.Rows.storesItem.match_1 (λ_=>Prop) s (λt _ o _=>@List.casesOn Stmt (λ_=>Prop) o (k t) λ_ _=>False) λ_=>False
def sZ (z:Bool) (P:Prop):Prop:=bif z then False else P
noncomputable def kS (V:List NV):Nat->List Stmt->(List Stmt->Prop)->Prop
 | 0,ss,k=>k ss
 | n+1,ss,k=>match ss with
  | s::rest=>ifK s λt=>ptK V t λz=>sZ z (kS V n rest k)
  | []=>False
def setK (e:NV) (a:AB) (r:List NV) (k:List NV->Prop):Prop:=match e with
 | ⟨y,kd,_⟩=>match kd with
  | .local=>k (⟨y,.local,some a⟩::r)
  | .cell=>k (⟨y,.cell,some a⟩::r)
  | _=>False
noncomputable def putK:List NV->Str->AB->(List NV->Prop)->Prop
 | [],_,_,_=>False
 | e::r,x,a,k=>bif eqN e.name x then setK e a r k else putK r x a λr'=>k (e::r')
theorem qN {x:Str}:∀ {V:List NV}{k:List NV->Prop},putK V x a k->∃ V',k V'/\BO V x a V':=by
 intro V
 induction V with
 | nil=>show λh=>False.elim h
 | cons e r ih =>
  intro k h;obtain ⟨y,kd,v⟩:=e;have h':bif eqN y x then setK ⟨y,kd,v⟩ a r k else putK r x a λr'=>k (⟨y,kd,v⟩::r'):=h
  clear h;cases z:eqN y x with
  | true =>
   rw [z] at h';cases eqN_of z;cases kd with
   | «local»=>show ⟨_,h',.here (.inl rfl)⟩
   | cell=>show ⟨_,h',.here (.inr rfl)⟩
   | _=>show False.elim h'
  | false=>rw [z] at h';show ex1 (ih h') λa g=>an2 g λg1 g2=>⟨_,g1,.next g2⟩
theorem got {a:α}{M:α->Prop} (h:∃ b,a=b/\M b):M a:=by obtain ⟨b,e,m⟩:=h;show e ▸ m
section
variable {c:Cx}{V V':List NV}{U:AA}{Q:AB->AA->Prop}{X:AC->AA->Prop}{N:List NV->AA->Prop}{R:AB->AA->Prop}{XS:AC->List NV->AA->Prop}
theorem Az.of {x:Str} (h:kT V x λb=>a=b):Az V x a:=got (f8 h)
theorem BO.of {x:Str} (h:putK V x a λb=>V'=b):BO V x a V':=got (qN h)
noncomputable def isG:List NV->Str->Bool
 | [],_=>false
 | e::r,x=>match e.kind with
  | .globalImplicit=>bif eqN e.name x then true else isG r x
  | _=>isG r x
theorem AL.of {x:Str} (h:true=isG V x):AL V x:=by
 induction V with
 | nil=>cases h
 | cons e r ih =>
  obtain ⟨y,k,v⟩:=e;cases k with
  | globalImplicit =>
   have h':true=(bif eqN y x then true else isG r x):=h;cases z:eqN y x with
   | true=>cases eqN_of z;show .here
   | false=>rw [z] at h';show .next (ih h')
  | _=>show .next (ih h)
theorem ev_pe {e:Expr} (h:(peB V 12).1 e λb=>a=b) (q:Q a U):Ev c V e U Q X:=got ((ml 12 s!"d").1 h) _ _ _ _ q
theorem s8 {QL:List AB->AA->Prop} (h:(peB V 12).2 es λb=>as=b) (q:QL as U):Ay c V pos es U QL X:=(got ((ml 12 s!"d").2 h)).2 _ _ _ _ _ q
theorem pA {e:Expr}{b:Bool}{QB:Bool->AA->Prop} (h:ptK V e λz=>b=z) (q:QB b U):Bn c V e U QB X:=got (n7 h) _ _ _ _ q
theorem tN {k:Expr->Prop}{M:Stmt->Prop} (q:∀ t b p,k t->M (.If t b [] p)) {s:Stmt}:ifK s k->M s:=by
 cases s with
 | If t b o p=>cases o with
  | nil=>show q _ _ _
  | cons _ _=>show False.elim
 | _=>show False.elim
theorem jb (n:Nat)  (q:Al c V rest U N R XS):∀ {ss:List Stmt},(kS V n ss λr=>rest=r)->Al c V ss U N R XS:=by
 induction n with
 | zero=>intro ss h;show (show rest=ss from h) ▸ q
 | succ n ih =>
  intro ss h;cases ss with
  | nil=>show False.elim h
  | cons s ss =>
   show tN (M:=λs=>Al c V (s::ss) U N R XS) (λt b p h=>?_) h;show ex1 (n7 (V:=V) (k:=λz=>sZ z (kS V n ss λr=>rest=r)) (e:=t) h) λz g=>?_;show an2 g λg hz=>an2 (bifF g) λe g=>ma (hz _ _ _ _ (by rw [e];show gi (ih g)))
theorem qh (h:kS V 6 ss λr=>rest=r) (q:Al c V rest U N R XS):Al c V ss U N R XS:=jb 6 q h
theorem ql (h:kS V 3 ss λr=>rest=r) (q:Al c V rest U N R XS):Al c V ss U N R XS:=jb 3 q h
theorem qm (h:kS V 1 ss λr=>rest=r) (q:Al c V rest U N R XS):Al c V ss U N R XS:=jb 1 q h
theorem qd {t:Expr}{b o:List Stmt}{z:Bool} (h:ptK V t λw=>z=w) (q:Co c V b o (KS c rest N R XS) R XS z U):Al c V (.If t b o p::rest) U N R XS:=ma (pA h q)
theorem oH {e:Expr} (h:(peB V 12).1 e λb=>a=b) (q:R a U):Al c V (.Return (some e) p::rest) U N R XS:=mh (ev_pe h q)
theorem ac {x:Str} (h:putK V x a λr=>V'=r) (q:N V' U):Bm V x a N U:=⟨_,.of h,q⟩
theorem ta {x:Str}{value:Expr} (hf:c.fn=true) (h:(peB V 12).1 value λb=>a=b) (h':putK V x a λr=>V'=r) (q:Al c V' rest U N R XS)
  (hs:autoParam (swapsWith value (some (.Name x p')) p.line c.env=pure false) aU):Al c V (.Assign [.Name x p'] value p::rest) U N R XS:=gh hf (ev_pe h (ac h' q)) hs
end
theorem ei2 {p:α0->α1->Prop} (x0:α0) (x1:α1) (h:p x0 x1):∃ x0 x1,p x0 x1:=⟨x0,x1,h⟩
theorem ei3 {p:α0->α1->α2->Prop} (x0:α0) (x1:α1) (x2:α2) (h:p x0 x1 x2):∃ x0 x1 x2,p x0 x1 x2:=⟨x0,x1,x2,h⟩
theorem ai4 (h0:a0) (h1:a1) (h2:a2) (h3:a3):a0/\a1/\a2/\a3:=⟨h0,h1,h2,h3⟩
theorem ai5 (h0:a0) (h1:a1) (h2:a2) (h3:a3) (h4:a4):a0/\a1/\a2/\a3/\a4:=⟨h0,h1,h2,h3,h4⟩
theorem ai6 (h0:a0) (h1:a1) (h2:a2) (h3:a3) (h4:a4) (h5:a5):a0/\a1/\a2/\a3/\a4/\a5:=⟨h0,h1,h2,h3,h4,h5⟩
theorem ai7 (h0:a0) (h1:a1) (h2:a2) (h3:a3) (h4:a4) (h5:a5) (h6:a6):a0/\a1/\a2/\a3/\a4/\a5/\a6:=⟨h0,h1,h2,h3,h4,h5,h6⟩
theorem ai8 (h0:a0) (h1:a1) (h2:a2) (h3:a3) (h4:a4) (h5:a5) (h6:a6) (h7:a7):a0/\a1/\a2/\a3/\a4/\a5/\a6/\a7:=⟨h0,h1,h2,h3,h4,h5,h6,h7⟩
section
variable {α β:Type}{R:Heap->α->β->Prop}{c:Cx}{V V':List NV}{U U1 U' Y:AA}{s s':Shared}{Q:β->AA->Prop}{X:AC->AA->Prop}
variable {N:List NV->AA->Prop}{RR:AB->AA->Prop}{XS:AC->List NV->AA->Prop}
theorem St.fewer (S:St c V U' h) (l:Le Y U'):St c V Y h:=S.less l
theorem AE.fewer (y:AE c U s U' s') (l:Le Y U'):AE c U s Y s':=⟨y.kept,y.there,(λb o e q=>by
 have:=y.grow b o e q;cases z:Y b with
 | none=>rfl
 | some o=>rw [l b o z] at this;cases this),y.gens,y.os⟩
inductive AK (Q:β->AA->Prop) (a:β) (U':AA):Prop
 | mk (Y:AA) (l:Le Y U') (q:Q a Y)
theorem AK.of {a:β} (l:Le Y U) (q:Q a Y):AK Q a U:=⟨Y,l,q⟩
theorem AR.tidy {v:α} (p:AR R c V U s (AK Q) v s'):AR R c V U s Q v s':=by
 obtain ⟨a,U',r,S,y,Y,l,q⟩:=p;show ⟨a,Y,r,S.fewer l,y.fewer l,q⟩
theorem AM.tidy {t:List Value->Sem α} (g:AM R c V as t U (AK Q) X):AM R c V as t U Q X:=λvs s S r=>Zm (g vs s S r) (λ_ _ p=>p.tidy) λ_ _ z=>z
theorem Ao.tidy {fl:Flow} (p:Ao c U s (AK N) (AK RR) fl s'):Ao c U s N RR fl s':=by
 obtain ⟨V',U',S,y,q⟩:=p;cases fl with
 | next=>obtain ⟨Y,l,q⟩:=q;show ⟨V',Y,S.fewer l,y.fewer l,q⟩
 | ret v=>obtain ⟨a,r,Y,l,q⟩:=q;show ⟨V',Y,S.fewer l,y.fewer l,a,r,q⟩
 | _=>show q.elim
abbrev Cg (X:AC->AA->Prop):AC->AA->Prop:=AK X
theorem BQ.fewer {e:Addr}{x:AC} (F:BQ c U' s e x h) (l:Le Y U'):BQ c Y s e x h:=by
 have no:∀ b,U' b=none->Y b=none:=λb q=>by
  cases z:Y b with
  | none=>rfl
  | some o=>rw [l b o z] at q;cases q
 obtain ⟨fl,B,P,F,r⟩:=F;show ⟨fl,B,P,{ F with new:=λb hb=>an4 (F.new b hb) λh1 h2 h3 h4=>⟨h1,h2,no b h3,h4⟩,here:=?_ },r⟩;obtain ⟨oe,vs,d,m,h1,h2,h3,h4,h5,⟨h6,h61,h62,h63⟩,h7⟩:=F.here;show ⟨oe,vs,d,m,h1,h2,h3,h4,h5,⟨h6,h61,h62,no d h63⟩,h7⟩
theorem AO.tidy (p:AO c V U s (Cg X) v s'):AO c V U s X v s':=by
 obtain ⟨e,x,U',rfl,S,y,F,Y,l,q⟩:=p;show ⟨e,x,Y,rfl,S.fewer l,y.fewer l,F.fewer l,q⟩
theorem AM.tidyX {t:List Value->Sem α} (g:AM R c V as t U (AK Q) (Cg X)):AM R c V as t U Q X:=λvs s S r=>Zm (g vs s S r) (λ_ _ p=>p.tidy) λ_ _ z=>z.tidy
theorem Al.tidy (g:Al c V ss U (AK N) (AK RR) XS):Al c V ss U N RR XS:=λs S=>Zm (g s S) (λ_ _ p=>p.tidy) λ_ _ z=>z
theorem fresh {P:AA->Prop}{o:AY} (hD:U D=none) (k:∀ U',Le U U'->U' D=some o->P U'):P (U.set D o):=k _ (Zl hD) (Zs ..)
theorem ifT {A B:Prop} (h:A):if true=true then A else B:=by rw [Zw rfl];show h
theorem ifF {A B:Prop} (h:B):if false=true then A else B:=by rw [Zv s!"d"];show h
theorem ah {b:Bool}{A B:Prop} (h1:b=true->A) (h2:b=false->B):if b=true then A else B:=by
 cases b
 ·show ifF (h2 rfl)
 ·show ifT (h1 rfl)
section
variable {n m k:Nat}{fd:FuncData}{a L C:Addr}{r:List Value}{sc:Scope}{cl:List (Str × Addr)}
theorem Cx.lv_call (h:n+1<=c.lv):n<=(c.call fd a L).lv:=Nat.le_sub_of_add_le h
theorem Cx.lv_mk' (h:n+1<=c.lv):n<=(c.mk' C r).lv:=Nat.le_sub_of_add_le h
theorem Cx.lv_comp (h:n<=c.lv):n<=(c.comp sc cl C).lv:=h
theorem Cx.lv_hand (h:n<=c.lv):n<=(c.hand a).lv:=h
theorem u7 (h:m<=k) (e:Nat.ble n m=true):n<=k:=Zt (Nat.le_of_ble_eq_true e) h
end
theorem leA {a:Addr}{o:AY} (l:Le U U') (h:U a=some o):U' a=some o:=l _ _ h
def Fr (F:List Addr) (U U':AA):Prop:=∀ a o,U a=some o->a∉F->U' a=some o
theorem Fr.refl :Fr F U U:=λ_ _ e _=>e
theorem Le.fr (l:Le U U'):Fr F U U':=λa o e _=>l a o e
theorem Fr.trans (x:Fr F U U1) (y:Fr F U1 U'):Fr F U U':=λa o e n=>y a o (x a o e n) n
theorem Fr.mono {G:List Addr} (x:Fr F U U') (h:∀ a∈F,a∈G):Fr G U U':=λa o e n=>x a o e λz=>n (h a z)
theorem Fr.set {o:AY} (x:Fr F U U') (h:d∈F):Fr F U (U'.set d o):=λa ob e n=>by
 have hne:a≠d:=λz=>n (by rw [z];show h);rw [Zn hne];show x a ob e n
theorem Fr.le (x:Fr F U U1) (l:Le U1 U'):Fr F U U':=λa o e n=>l a o (x a o e n)
end
structure AV where
 uid:Int
 oct:AB
 flags:List Str
 instant:Int
 modseq:Int
variable {L:AV}{Ls:List AV}
noncomputable def letterNs:List Str:=["uid", "octets", "flags", "instant", "modseq"]
noncomputable def dY (L:AV):Str->Option AB:=λy =>
 if y = "uid" then some (.int L.uid) else if y = "octets" then some L.oct else if y = "flags" then some (.tup (L.flags.map .str)) else if y = "instant" then some (.int L.instant) else if y = "modseq" then some (.int L.modseq) else none
def AX (U:AA) (a:Addr) (L:AV):Prop:=BZ U a 125 letterNs (dY L)
structure Bx where
 name:Str
 validity:Int
 next:Int
 top:Int
 floor:Int
 letters:List AV
 gone:List (Int × Int)
variable {B B':Bx}
structure Ah where
 x:Addr
 d:Addr
 l:Addr
 g:Addr
variable {A A' Ag:Ah}
noncomputable def boxNs:List Str:=["name", "validity", "next_uid", "top", "floor", "letters", "gone"]
noncomputable def boxM (A:Ah) (B:Bx):Str->Option AB:=λy =>
 if y = "name" then some (.str B.name) else if y = "validity" then some (.int B.validity) else if y = "next_uid" then some (.int B.next) else if y = "top" then some (.int B.top) else if y = "floor" then some (.int B.floor)
 else if y = "letters" then some (.ref A.l) else if y = "gone" then some (.ref A.g) else none
noncomputable def bO (p:Int × Int):AB:=.tup [.int p.1,.int p.2]
inductive AN (U:AA):List Addr->List AV->Prop
 | nil:AN U [] []
 | cons {a:Addr}{L:AV}{as:List Addr}{Ls:List AV}:AX U a L->AN U as Ls->AN U (a::as) (L::Ls)
structure AD (U:AA) (A:Ah) (B:Bx):Prop where
 x:U A.x=some (.inst 163 A.d)
 d:U A.d=some (.attrs boxNs (boxM A B))
 l:∃ xs,U A.l=some (.list (xs.map .ref))/\AN U xs B.letters
 g:U A.g=some (.list (B.gone.map bO))
 lg:A.l≠A.g
structure A2 where
 x:Addr
 d:Addr
 b:Addr
 s:Addr
variable {S:A2}
noncomputable def storeNs:List Str:=["boxes", "subscribed", "next_validity"]
noncomputable def bq (A:A2) (n:Int):Str->Option AB:=λy=>if y = "boxes" then some (.ref A.b) else if y = "subscribed" then some (.ref A.s) else if y = "next_validity" then some (.int n) else none
structure Bh where
 boxes:List (Str × Bx)
 names:List Str
 next:Int
variable {s':Bh}
noncomputable def Ah.foot (A:Ah):List Addr:=[A.d,A.l,A.g]
def AZ (K:Frag):Prop:=∃ P,K=kf P
theorem AG.toK (x:AG c):AZ c.K:=⟨_,x.K⟩
theorem cZ (x:AZ K):BF K 125:=by obtain ⟨_,rfl⟩:=x;show ⟨⟨_,rfl,rfl⟩,rfl,rfl,rfl,rfl⟩
theorem bC (x:AZ K):BF K 163:=by obtain ⟨_,rfl⟩:=x;show ⟨⟨_,rfl,rfl⟩,rfl,rfl,rfl,rfl⟩
theorem dU (x:AZ K):BF K 340:=by obtain ⟨_,rfl⟩:=x;show ⟨⟨_,rfl,rfl⟩,rfl,rfl,rfl,rfl⟩
section
variable {c:Cx} (x:AG c)
include x
theorem uK:BF c.K 125:=cZ x.toK
theorem oN:BF c.K 163:=bC x.toK
theorem oQ:BF c.K 340:=dU x.toK
theorem u5:CM c.K 125 108:=by rw [x.K];show ⟨rfl,rfl,rfl,rfl⟩
theorem uU:CM c.K 163 143:=by rw [x.K];show ⟨rfl,rfl,rfl,rfl⟩
theorem u3:CM c.K 340 311:=by rw [x.K];show ⟨rfl,rfl,rfl,rfl⟩
end
noncomputable def updL (l:List (Str × AB)):Str->Option AB:=l.foldr (λp m y=>if y=p.1 then some p.2 else m y) (λ_=>none)
theorem gT {p:Str × AB}{l:List (Str × AB)}:updL (p::l) y=if y=p.1 then some p.2 else updL l y:=rfl
theorem rA :∀ {l:List (Str × AB)},y∉l.map (·.1)->updL l y=none:=by
 intro l
 induction l with
 | nil=>show λ_=>rfl
 | cons p l ih=>intro h;rw [gT,Zv λe=>h (by rw [e];show .head _)];show ih λz=>h (.tail _ z)
noncomputable def setL:List (Str × AB)->Str->AB->List (Str × AB)
 | [],_,_=>[]
 | p::l,k,v=>bif p.1 == k then (p.1,v)::l else p::setL l k v
noncomputable def hasL:List (Str × AB)->Str->Bool
 | [],_=>false
 | p::l,k=>bif p.1 == k then true else hasL l k
theorem cD {k:Str}{v:AB}:∀ {l:List (Str × AB)},hasL l k=true->(λy=>if y=k then some v else updL l y)=updL (setL l k v):=by
 intro l
 induction l with
 | nil=>intro h;cases h
 | cons p l ih =>
  intro h;have h':(bif p.1 == k then true else hasL l k)=true:=h;have e:setL (p::l) k v=bif p.1 == k then (p.1,v)::l else p::setL l k v:=rfl
  funext y;cases z:(p.1 == k) with
  | true =>
   rw [e,z];have z:=eq_of_beq z;change (if y=k then some v else if y=p.1 then some p.2 else updL l y)=if y=p.1 then some v else updL l y
   rw [z];by_cases q:y=k
   ·rw [Zw q,Zw q]
   ·rw [Zv q,Zv q,Zv q]
  | false =>
   rw [e,z];rw [z] at h';have ih:=congrFun (ih h') y;have n:p.1≠k:=λq=>by rw [q,beq_self_eq_true] at z;cases z
   change (if y=k then some v else if y=p.1 then some p.2 else updL l y)=if y=p.1 then some p.2 else updL (setL l k v) y
   rw [<- ih];by_cases q:y=p.1
   ·rw [Zw q,Zw q,Zv (q ▸ n)]
   ·rw [Zv q,Zv q]
noncomputable def boxL (A:Ah) (B:Bx):List (Str × AB):=[("name",.str B.name),("validity",.int B.validity),("next_uid",.int B.next),("top",.int B.top),("floor",.int B.floor),("letters",.ref A.l),("gone",.ref A.g)]
noncomputable def r4 (S:A2) (n:Int):List (Str × AB):=[("boxes",.ref S.b),("subscribed",.ref S.s),("next_validity",.int n)]
def BI (o:Option AY):Prop:=(∀ m,o≠some (.attrs letterNs m))/\∀ C d,o≠some (.inst C d)
theorem BI.list :BI (some (.list xs)):=⟨λ_ h=>by simp at h,λ_ _ h=>by simp at h⟩
theorem nY:boxNs≠letterNs:=s!"k"
theorem c6:storeNs≠letterNs:=s!"k"
theorem b0:storeNs≠boxNs:=s!"k"
theorem BI.attrs {m:Str->Option AB} (h:ns≠letterNs):BI (some (.attrs ns m)):=⟨λ_ e=>by simp at e;show h e.1,λ_ _ e=>by simp at e⟩
theorem BI.dictS {es:List (Str × AB)}:BI (some (.dictS es)):=⟨λ_ h=>by simp at h,λ_ _ h=>by simp at h⟩
def B0 (U:AA) (F:List Addr):Prop:=∀ a∈F,BI (U a)
section
variable {U U1 U' Y:AA}{A A':Ah}{B B':Bx}{F:List Addr}
theorem AX.fr {a:Addr} (h:AX U a L) (f:Fr F U U') (n:B0 U F):AX U' a L:=by
 obtain ⟨d,h1,h2⟩:=h;show ⟨d,f _ _ h1 λz=>(n _ z).2 _ _ h1,f _ _ h2 λz=>(n _ z).1 _ h2⟩
theorem AN.fr {as:List Addr} (h:AN U as Ls) (f:Fr F U U') (n:B0 U F):AN U' as Ls:=by
 induction h with
 | nil=>show .nil
 | cons x _ ih=>show .cons (x.fr f n) ih
theorem B0.nil:B0 U []:=λ_ h=>by cases h
theorem AX.le {a:Addr} (h:AX U a L) (l:Le U U'):AX U' a L:=h.fr (F:=[]) l.fr .nil
theorem AN.le {as:List Addr} (h:AN U as Ls) (l:Le U U'):AN U' as Ls:=h.fr (F:=[]) l.fr .nil
theorem AD.noL (h:AD U A B):B0 U A.foot:=λa ha=>by
 show ex1 h.l λxs h1z=>?_;show an2 h1z λhl _=>?_;clear h1z;simp only [Ah.foot,EC,Ed,or_false] at ha;rcases ha with rfl | rfl | rfl
 ·rw [h.d];show .attrs nY
 ·rw [hl];show .list
 ·rw [h.g];show .list
theorem AD.le (h:AD U A B) (l:Le U U'):AD U' A B:=by
 show ex1 h.l λxs h2z=>?_;show an2 h2z λh1 h2=>?_;clear h2z;show ⟨l _ _ h.x,l _ _ h.d,⟨xs,l _ _ h1,h2.le l⟩,l _ _ h.g,h.lg⟩
theorem AD.fr (h:AD U A B) (f:Fr F U U') (n:B0 U F) (hd:∀ a∈A.foot,a∉F):AD U' A B:=by
 show ex1 h.l λxs h3z=>?_;show an2 h3z λh1 h2=>?_;clear h3z;show ⟨f _ _ h.x λz=>(n _ z).2 _ _ h.x,f _ _ h.d (hd _ (by simp [Ah.foot])),⟨xs,f _ _ h1 (hd _ (by simp [Ah.foot])),h2.fr f n⟩,f _ _ h.g (hd _ (by simp [Ah.foot])),h.lg⟩
theorem AD.dl (h:AD U A B):A.l≠A.d:=by
 show ex1 h.l λxs h4z=>?_;show an2 h4z λh1 _=>?_;clear h4z;intro e;rw [e,h.d] at h1;cases h1
theorem AD.dg (h:AD U A B):A.g≠A.d:=by
 have h1:=h.g;intro e;rw [e,h.d] at h1;cases h1
theorem AD.dx (h:AD U A B):A.x≠A.d:=by
 have h1:=h.x;intro e;rw [e,h.d] at h1;cases h1
theorem AD.lx (h:AD U A B):A.x≠A.l:=by
 show ex1 h.l λxs h5z=>?_;show an2 h5z λh1 _=>?_;clear h5z;intro e;rw [<- e,h.x] at h1;cases h1
theorem AD.setD (h:AD U A B) (hl:B'.letters=B.letters) (hg:B'.gone=B.gone):AD (U.set A.d (.attrs boxNs (boxM A B'))) A B'/\Fr [A.d] U (U.set A.d (.attrs boxNs (boxM A B'))):=by
 have f:Fr [A.d] U (U.set A.d (.attrs boxNs (boxM A B'))):=Fr.refl.set Zh;have n:B0 U [A.d]:=λa ha=>h.noL a (by rw [ZS ha];show .head _);show ex1 h.l λxs h6z=>?_;show an2 h6z λh1 h2=>?_;clear h6z;show ⟨⟨?_,Zs ..,⟨xs,?_,hl ▸ h2.fr f n⟩,?_,h.lg⟩,f⟩
 ·rw [Zn h.dx];show h.x
 ·rw [Zn h.dl];show h1
 ·rw [Zn h.dg,hg];show h.g
theorem AD.setL {xs:List Addr} (h:AD U A B) (h1:U l'=some (.list (xs.map .ref))) (h2:AN U xs Ls) (hn:l'≠A.g) :
  AD (U.set A.d (.attrs boxNs (boxM { A with l:=l' } { B with letters:=Ls }))) { A with l:=l' } { B with letters:=Ls }/\Fr [A.d] U (U.set A.d (.attrs boxNs (boxM { A with l:=l' } { B with letters:=Ls }))):=by
 have f:Fr [A.d] U (U.set A.d (.attrs boxNs (boxM { A with l:=l' } { B with letters:=Ls }))):=Fr.refl.set Zh;have n:B0 U [A.d]:=λa ha=>h.noL a (by rw [ZS ha];show .head _);have e:l'≠A.d:=by intro e;rw [e,h.d] at h1;cases h1
 show ⟨⟨?_,Zs ..,⟨xs,?_,h2.fr f n⟩,?_,hn⟩,f⟩
 ·change _=_;rw [Zn h.dx];show h.x
 ·change _=_;rw [Zn e];show h1
 ·change _=_;rw [Zn h.dg];show h.g
theorem AD.setG {G:List (Int × Int)} (h:AD U A B) (h1:U g'=some (.list (G.map bO))) (hn:A.l≠g') :
  AD (U.set A.d (.attrs boxNs (boxM { A with g:=g' } { B with gone:=G }))) { A with g:=g' } { B with gone:=G }/\Fr [A.d] U (U.set A.d (.attrs boxNs (boxM { A with g:=g' } { B with gone:=G }))):=by
 have f:Fr [A.d] U (U.set A.d (.attrs boxNs (boxM { A with g:=g' } { B with gone:=G }))):=Fr.refl.set Zh;have n:B0 U [A.d]:=λa ha=>h.noL a (by rw [ZS ha];show .head _);have e:g'≠A.d:=by intro e;rw [e,h.d] at h1;cases h1
 show ex1 h.l λxs h7z=>?_;show an2 h7z λh2 h3=>?_;clear h7z;show ⟨⟨?_,Zs ..,⟨xs,?_,h3.fr f n⟩,?_,hn⟩,f⟩
 ·change _=_;rw [Zn h.dx];show h.x
 ·change _=_;rw [Zn h.dl];show h2
 ·change _=_;rw [Zn e];show h1
theorem AD.inL {xs:List Addr} (h:AD U A B) (h2:AN U xs Ls):AD (U.set A.l (.list (xs.map .ref))) A { B with letters:=Ls }/\Fr [A.l] U (U.set A.l (.list (xs.map .ref))):=by
 have f:Fr [A.l] U (U.set A.l (.list (xs.map .ref))):=Fr.refl.set Zh;have n:B0 U [A.l]:=λa ha=>h.noL a (by rw [ZS ha];show .tail _ Zh);show ⟨⟨?_,?_,⟨xs,Zs ..,h2.fr f n⟩,?_,h.lg⟩,f⟩
 ·rw [Zn h.lx];show h.x
 ·rw [Zn (Ne.symm h.dl)];show h.d
 ·rw [Zn (Ne.symm h.lg)];show h.g
end
section
variable {K:Frag}{V:List NV}{U:AA}{Q:AB->AA->Prop}{P:AA->Prop}{A:Ah}{B:Bx}{S:A2}{n:Int}{L:AV}{a:Addr}
theorem tQ (x:AZ K) (hB:AD U A B) (q:Q (.str B.name) U):Aj K "name" Q (.ref A.x) U :=
 ⟨A.x,163,boxNs,boxM A B,.str B.name,rfl,⟨A.d,hB.x,hB.d⟩,rfl,bC x,by obtain ⟨_,rfl⟩:=x;rfl,q⟩
theorem tx {v:AB} (x:AZ K) (hB:AD U A B) (k:P (U.set A.d (.attrs boxNs λy=>if y = "name" then some v else boxM A B y))):Aq K "name" P v (.ref A.x) U :=
 ⟨A.x,163,boxNs,boxM A B,rfl,⟨A.d,hB.x,hB.d⟩,bC x,(by obtain ⟨_,rfl⟩:=x;rfl),s!"k",s!"k",λd e=>by rw [hB.x] at e;cases e;show k⟩
theorem nh (x:AZ K) (hB:AD U A B) (q:Q (.int B.validity) U):Aj K "validity" Q (.ref A.x) U :=
 ⟨A.x,163,boxNs,boxM A B,.int B.validity,rfl,⟨A.d,hB.x,hB.d⟩,rfl,bC x,by obtain ⟨_,rfl⟩:=x;rfl,q⟩
theorem mY {v:AB} (x:AZ K) (hB:AD U A B) (k:P (U.set A.d (.attrs boxNs λy=>if y = "validity" then some v else boxM A B y))):Aq K "validity" P v (.ref A.x) U :=
 ⟨A.x,163,boxNs,boxM A B,rfl,⟨A.d,hB.x,hB.d⟩,bC x,(by obtain ⟨_,rfl⟩:=x;rfl),s!"k",s!"k",λd e=>by rw [hB.x] at e;cases e;show k⟩
theorem nB (x:AZ K) (hB:AD U A B) (q:Q (.int B.next) U):Aj K "next_uid" Q (.ref A.x) U :=
 ⟨A.x,163,boxNs,boxM A B,.int B.next,rfl,⟨A.d,hB.x,hB.d⟩,rfl,bC x,by obtain ⟨_,rfl⟩:=x;rfl,q⟩
theorem oC {v:AB} (x:AZ K) (hB:AD U A B) (k:P (U.set A.d (.attrs boxNs λy=>if y = "next_uid" then some v else boxM A B y))):Aq K "next_uid" P v (.ref A.x) U :=
 ⟨A.x,163,boxNs,boxM A B,rfl,⟨A.d,hB.x,hB.d⟩,bC x,(by obtain ⟨_,rfl⟩:=x;rfl),s!"k",s!"k",λd e=>by rw [hB.x] at e;cases e;show k⟩
theorem uI (x:AZ K) (hB:AD U A B) (q:Q (.int B.top) U):Aj K "top" Q (.ref A.x) U :=
 ⟨A.x,163,boxNs,boxM A B,.int B.top,rfl,⟨A.d,hB.x,hB.d⟩,rfl,bC x,by obtain ⟨_,rfl⟩:=x;rfl,q⟩
theorem um {v:AB} (x:AZ K) (hB:AD U A B) (k:P (U.set A.d (.attrs boxNs λy=>if y = "top" then some v else boxM A B y))):Aq K "top" P v (.ref A.x) U :=
 ⟨A.x,163,boxNs,boxM A B,rfl,⟨A.d,hB.x,hB.d⟩,bC x,(by obtain ⟨_,rfl⟩:=x;rfl),s!"k",s!"k",λd e=>by rw [hB.x] at e;cases e;show k⟩
theorem rX (x:AZ K) (hB:AD U A B) (q:Q (.int B.floor) U):Aj K "floor" Q (.ref A.x) U :=
 ⟨A.x,163,boxNs,boxM A B,.int B.floor,rfl,⟨A.d,hB.x,hB.d⟩,rfl,bC x,by obtain ⟨_,rfl⟩:=x;rfl,q⟩
theorem rO {v:AB} (x:AZ K) (hB:AD U A B) (k:P (U.set A.d (.attrs boxNs λy=>if y = "floor" then some v else boxM A B y))):Aq K "floor" P v (.ref A.x) U :=
 ⟨A.x,163,boxNs,boxM A B,rfl,⟨A.d,hB.x,hB.d⟩,bC x,(by obtain ⟨_,rfl⟩:=x;rfl),s!"k",s!"k",λd e=>by rw [hB.x] at e;cases e;show k⟩
theorem o9 (x:AZ K) (hB:AD U A B) (q:Q (.ref A.l) U):Aj K "letters" Q (.ref A.x) U :=
 ⟨A.x,163,boxNs,boxM A B,.ref A.l,rfl,⟨A.d,hB.x,hB.d⟩,rfl,bC x,by obtain ⟨_,rfl⟩:=x;rfl,q⟩
theorem pi {v:AB} (x:AZ K) (hB:AD U A B) (k:P (U.set A.d (.attrs boxNs λy=>if y = "letters" then some v else boxM A B y))):Aq K "letters" P v (.ref A.x) U :=
 ⟨A.x,163,boxNs,boxM A B,rfl,⟨A.d,hB.x,hB.d⟩,bC x,(by obtain ⟨_,rfl⟩:=x;rfl),s!"k",s!"k",λd e=>by rw [hB.x] at e;cases e;show k⟩
theorem tK (x:AZ K) (hB:AD U A B) (q:Q (.ref A.g) U):Aj K "gone" Q (.ref A.x) U :=
 ⟨A.x,163,boxNs,boxM A B,.ref A.g,rfl,⟨A.d,hB.x,hB.d⟩,rfl,bC x,by obtain ⟨_,rfl⟩:=x;rfl,q⟩
theorem tV {v:AB} (x:AZ K) (hB:AD U A B) (k:P (U.set A.d (.attrs boxNs λy=>if y = "gone" then some v else boxM A B y))):Aq K "gone" P v (.ref A.x) U :=
 ⟨A.x,163,boxNs,boxM A B,rfl,⟨A.d,hB.x,hB.d⟩,bC x,(by obtain ⟨_,rfl⟩:=x;rfl),s!"k",s!"k",λd e=>by rw [hB.x] at e;cases e;show k⟩
theorem u9 {v:Str} (x:AZ K) (hB:AD U A B) (k:∀ U',AD U' A { B with name:=v }->Fr [A.d] U U'->P U'):Aq K "name" P (.str v) (.ref A.x) U:=by
 show tx x hB ?_;have e:(λy=>if y=("name" : Str) then some (.str v) else boxM A B y)=boxM A { B with name:=v }:=cD (l:=boxL A B) rfl;rw [e];have:=hB.setD (B':={ B with name:=v }) rfl rfl;show k _ this.1 this.2
theorem tX {v:Int} (x:AZ K) (hB:AD U A B) (k:∀ U',AD U' A { B with validity:=v }->Fr [A.d] U U'->P U'):Aq K "validity" P (.int v) (.ref A.x) U:=by
 show mY x hB ?_;have e:(λy=>if y=("validity" : Str) then some (.int v) else boxM A B y)=boxM A { B with validity:=v }:=cD (l:=boxL A B) rfl;rw [e];have:=hB.setD (B':={ B with validity:=v }) rfl rfl;show k _ this.1 this.2
theorem nT {v:Int} (x:AZ K) (hB:AD U A B) (k:∀ U',AD U' A { B with next:=v }->Fr [A.d] U U'->P U'):Aq K "next_uid" P (.int v) (.ref A.x) U:=by
 show oC x hB ?_;have e:(λy=>if y=("next_uid" : Str) then some (.int v) else boxM A B y)=boxM A { B with next:=v }:=cD (l:=boxL A B) rfl;rw [e];have:=hB.setD (B':={ B with next:=v }) rfl rfl;show k _ this.1 this.2
theorem uH {v:Int} (x:AZ K) (hB:AD U A B) (k:∀ U',AD U' A { B with top:=v }->Fr [A.d] U U'->P U'):Aq K "top" P (.int v) (.ref A.x) U:=by
 show um x hB ?_;have e:(λy=>if y=("top" : Str) then some (.int v) else boxM A B y)=boxM A { B with top:=v }:=cD (l:=boxL A B) rfl;rw [e];have:=hB.setD (B':={ B with top:=v }) rfl rfl;show k _ this.1 this.2
theorem rW {v:Int} (x:AZ K) (hB:AD U A B) (k:∀ U',AD U' A { B with floor:=v }->Fr [A.d] U U'->P U'):Aq K "floor" P (.int v) (.ref A.x) U:=by
 show rO x hB ?_;have e:(λy=>if y=("floor" : Str) then some (.int v) else boxM A B y)=boxM A { B with floor:=v }:=cD (l:=boxL A B) rfl;rw [e];have:=hB.setD (B':={ B with floor:=v }) rfl rfl;show k _ this.1 this.2
theorem oX {xs:List Addr} (x:AZ K) (hB:AD U A B) (h1:U l'=some (.list (xs.map .ref))) (h2:AN U xs Ls) (hn:l'≠A.g) (k:∀ U',AD U' { A with l:=l' } { B with letters:=Ls }->Fr [A.d] U U'->P U'):Aq K "letters" P (.ref l') (.ref A.x) U:=by
 show pi x hB ?_;have e:(λy=>if y=("letters" : Str) then some (AB.ref l') else boxM A B y)=boxM { A with l:=l' } { B with letters:=Ls }:=cD (l:=boxL A B) rfl;rw [e];have:=hB.setL h1 h2 hn;show k _ this.1 this.2
theorem tA {G:List (Int × Int)} (x:AZ K) (hB:AD U A B) (h1:U g'=some (.list (G.map bO))) (hn:A.l≠g') (k:∀ U',AD U' { A with g:=g' } { B with gone:=G }->Fr [A.d] U U'->P U'):Aq K "gone" P (.ref g') (.ref A.x) U:=by
 show tV x hB ?_;have e:(λy=>if y=("gone" : Str) then some (AB.ref g') else boxM A B y)=boxM { A with g:=g' } { B with gone:=G }:=cD (l:=boxL A B) rfl;rw [e];have:=hB.setG h1 hn;show k _ this.1 this.2
theorem uk (x:AZ K) (hL:AX U a L) (q:Q (.int L.uid) U):Aj K "uid" Q (.ref a) U :=
 ⟨a,125,letterNs,dY L,.int L.uid,rfl,hL,rfl,cZ x,by obtain ⟨_,rfl⟩:=x;rfl,q⟩
theorem qG (x:AZ K) (hL:AX U a L) (q:Q (L.oct) U):Aj K "octets" Q (.ref a) U :=
 ⟨a,125,letterNs,dY L,L.oct,rfl,hL,rfl,cZ x,by obtain ⟨_,rfl⟩:=x;rfl,q⟩
theorem sG (x:AZ K) (hL:AX U a L) (q:Q (.tup (L.flags.map .str)) U):Aj K "flags" Q (.ref a) U :=
 ⟨a,125,letterNs,dY L,.tup (L.flags.map .str),rfl,hL,rfl,cZ x,by obtain ⟨_,rfl⟩:=x;rfl,q⟩
theorem oP (x:AZ K) (hL:AX U a L) (q:Q (.int L.instant) U):Aj K "instant" Q (.ref a) U :=
 ⟨a,125,letterNs,dY L,.int L.instant,rfl,hL,rfl,cZ x,by obtain ⟨_,rfl⟩:=x;rfl,q⟩
theorem re (x:AZ K) (hL:AX U a L) (q:Q (.int L.modseq) U):Aj K "modseq" Q (.ref a) U :=
 ⟨a,125,letterNs,dY L,.int L.modseq,rfl,hL,rfl,cZ x,by obtain ⟨_,rfl⟩:=x;rfl,q⟩
structure Ae (U:AA) (S:A2) (n:Int):Prop where
 x:U S.x=some (.inst 340 S.d)
 d:U S.d=some (.attrs storeNs (bq S n))
theorem Ae.le (h:Ae U S n) (l:Le U U'):Ae U' S n:=⟨l _ _ h.x,l _ _ h.d⟩
theorem rQ (x:AZ K) (hS:Ae U S n) (q:Q (.ref S.b) U):Aj K "boxes" Q (.ref S.x) U :=
 ⟨S.x,340,storeNs,bq S n,.ref S.b,rfl,⟨S.d,hS.x,hS.d⟩,rfl,dU x,by obtain ⟨_,rfl⟩:=x;rfl,q⟩
theorem j9 (x:AZ K) (hS:Ae U S n) (q:Q (.ref S.s) U):Aj K "subscribed" Q (.ref S.x) U :=
 ⟨S.x,340,storeNs,bq S n,.ref S.s,rfl,⟨S.d,hS.x,hS.d⟩,rfl,dU x,by obtain ⟨_,rfl⟩:=x;rfl,q⟩
theorem jY {v:AB} (x:AZ K) (hS:Ae U S n) (k:P (U.set S.d (.attrs storeNs λy=>if y = "subscribed" then some v else bq S n y))):Aq K "subscribed" P v (.ref S.x) U :=
 ⟨S.x,340,storeNs,bq S n,rfl,⟨S.d,hS.x,hS.d⟩,dU x,(by obtain ⟨_,rfl⟩:=x;rfl),s!"k",s!"k",λd e=>by rw [hS.x] at e;cases e;show k⟩
theorem gY (x:AZ K) (hS:Ae U S n) (q:Q (.int n) U):Aj K "next_validity" Q (.ref S.x) U :=
 ⟨S.x,340,storeNs,bq S n,.int n,rfl,⟨S.d,hS.x,hS.d⟩,rfl,dU x,by obtain ⟨_,rfl⟩:=x;rfl,q⟩
theorem hZ {v:AB} (x:AZ K) (hS:Ae U S n) (k:P (U.set S.d (.attrs storeNs λy=>if y = "next_validity" then some v else bq S n y))):Aq K "next_validity" P v (.ref S.x) U :=
 ⟨S.x,340,storeNs,bq S n,rfl,⟨S.d,hS.x,hS.d⟩,dU x,(by obtain ⟨_,rfl⟩:=x;rfl),s!"k",s!"k",λd e=>by rw [hS.x] at e;cases e;show k⟩
theorem nI {v:Int}:(λy=>if y=("next_validity" : Str) then some (AB.int v) else bq S n y)=bq S v:=cD (l:=r4 S n) rfl
theorem oj {v:Addr}:(λy=>if y=("subscribed" : Str) then some (AB.ref v) else bq S n y)=bq { S with s:=v } n:=cD (l:=r4 S n) rfl
end
section
variable {c:Cx}{V:List NV}{U:AA}{Q:AB->AA->Prop}{X:AC->AA->Prop}{N:List NV->AA->Prop}{R:AB->AA->Prop}{XS:AC->List NV->AA->Prop}{e value:Expr}{p pa:Pos}
inductive By (f:Ah->Bx->AB) (Q:AB->AA->Prop) (a:AB) (U1:AA):Prop
 | mk (A:Ah) (B:Bx) (e:a=.ref (Ah.x A)) (h:AD U1 A B) (q:Q (f A B) U1)
inductive CF (f:AV->AB) (Q:AB->AA->Prop) (a:AB) (U1:AA):Prop
 | mk (l:Addr) (L:AV) (e:a=.ref l) (h:AX U1 l L) (q:Q (f L) U1)
inductive Dc (f:A2->Int->AB) (Q:AB->AA->Prop) (a:AB) (U1:AA):Prop
 | mk (S:A2) (n:Int) (e:a=.ref (A2.x S)) (h:Ae U1 S n) (q:Q (f S n) U1)
inductive Cj {α:Type} (k:α->AB) (u:Bx->α->Bx) (P:AA->Prop) (v a:AB) (U2:AA):Prop
 | mk (A:Ah) (B:Bx) (i:α) (e:a=.ref (Ah.x A)) (ev:v=k i) (h:AD U2 A B) (q:∀ U',AD U' A (u B i)->Fr [A.d] U2 U'->P U')
inductive CH (P:AA->Prop) (v a:AB) (U2:AA):Prop
 | mk (A:Ah) (B:Bx) (l':Addr) (xs:List Addr) (Ls:List AV) (e:a=.ref (Ah.x A)) (ev:v=.ref l') (h:AD U2 A B) (h1:U2 l'=some (.list (xs.map .ref))) (h2:AN U2 xs Ls) (h3:l'≠A.g) (q:∀ U',AD U' { A with l:=l' } { B with letters:=Ls }->Fr [A.d] U2 U'->P U')
inductive DE (P:AA->Prop) (v a:AB) (U2:AA):Prop
 | mk (A:Ah) (B:Bx) (g':Addr) (G:List (Int × Int)) (e:a=.ref (Ah.x A)) (ev:v=.ref g') (h:AD U2 A B) (h1:U2 g'=some (.list (G.map bO))) (h3:A.l≠g') (q:∀ U',AD U' { A with g:=g' } { B with gone:=G }->Fr [A.d] U2 U'->P U')
inductive Dj {α:Type} (k:α->AB) (u:A2->Int->α->Str->Option AB) (P:AA->Prop) (v a:AB) (U2:AA):Prop
 | mk (S:A2) (n:Int) (i:α) (e:a=.ref (A2.x S)) (ev:v=k i) (h:Ae U2 S n) (q:P (U2.set S.d (.attrs storeNs (u S n i))))
theorem ea_name (x:AG c) (g:Ev c V e U (By (λA B=>(.str B.name)) Q) X) (hbase:autoParam (∀ nm,attributeBase e nm c.env (eval e c.env)=eval e c.env) aI):Ev c V (.Attribute e "name" p) U Q X :=
 ev_attr (g.mono (λa U1 z=>by obtain ⟨A,B,rfl,hB,q⟩:=z;show tQ x.toK hB q) λ_ _ z=>z) (hbase _)
theorem ea_validity (x:AG c) (g:Ev c V e U (By (λA B=>(.int B.validity)) Q) X) (hbase:autoParam (∀ nm,attributeBase e nm c.env (eval e c.env)=eval e c.env) aI):Ev c V (.Attribute e "validity" p) U Q X :=
 ev_attr (g.mono (λa U1 z=>by obtain ⟨A,B,rfl,hB,q⟩:=z;show nh x.toK hB q) λ_ _ z=>z) (hbase _)
theorem ea_next_uid (x:AG c) (g:Ev c V e U (By (λA B=>(.int B.next)) Q) X) (hbase:autoParam (∀ nm,attributeBase e nm c.env (eval e c.env)=eval e c.env) aI):Ev c V (.Attribute e "next_uid" p) U Q X :=
 ev_attr (g.mono (λa U1 z=>by obtain ⟨A,B,rfl,hB,q⟩:=z;show nB x.toK hB q) λ_ _ z=>z) (hbase _)
theorem ea_top (x:AG c) (g:Ev c V e U (By (λA B=>(.int B.top)) Q) X) (hbase:autoParam (∀ nm,attributeBase e nm c.env (eval e c.env)=eval e c.env) aI):Ev c V (.Attribute e "top" p) U Q X :=
 ev_attr (g.mono (λa U1 z=>by obtain ⟨A,B,rfl,hB,q⟩:=z;show uI x.toK hB q) λ_ _ z=>z) (hbase _)
theorem ea_floor (x:AG c) (g:Ev c V e U (By (λA B=>(.int B.floor)) Q) X) (hbase:autoParam (∀ nm,attributeBase e nm c.env (eval e c.env)=eval e c.env) aI):Ev c V (.Attribute e "floor" p) U Q X :=
 ev_attr (g.mono (λa U1 z=>by obtain ⟨A,B,rfl,hB,q⟩:=z;show rX x.toK hB q) λ_ _ z=>z) (hbase _)
theorem ea_letters (x:AG c) (g:Ev c V e U (By (λA B=>(.ref A.l)) Q) X) (hbase:autoParam (∀ nm,attributeBase e nm c.env (eval e c.env)=eval e c.env) aI):Ev c V (.Attribute e "letters" p) U Q X :=
 ev_attr (g.mono (λa U1 z=>by obtain ⟨A,B,rfl,hB,q⟩:=z;show o9 x.toK hB q) λ_ _ z=>z) (hbase _)
theorem ea_gone (x:AG c) (g:Ev c V e U (By (λA B=>(.ref A.g)) Q) X) (hbase:autoParam (∀ nm,attributeBase e nm c.env (eval e c.env)=eval e c.env) aI):Ev c V (.Attribute e "gone" p) U Q X :=
 ev_attr (g.mono (λa U1 z=>by obtain ⟨A,B,rfl,hB,q⟩:=z;show tK x.toK hB q) λ_ _ z=>z) (hbase _)
theorem ea_uid (x:AG c) (g:Ev c V e U (CF (λL=>(.int L.uid)) Q) X) (hbase:autoParam (∀ nm,attributeBase e nm c.env (eval e c.env)=eval e c.env) aI):Ev c V (.Attribute e "uid" p) U Q X :=
 ev_attr (g.mono (λa U1 z=>by obtain ⟨l,L,rfl,hB,q⟩:=z;show uk x.toK hB q) λ_ _ z=>z) (hbase _)
theorem ea_octets (x:AG c) (g:Ev c V e U (CF (λL=>(L.oct)) Q) X) (hbase:autoParam (∀ nm,attributeBase e nm c.env (eval e c.env)=eval e c.env) aI):Ev c V (.Attribute e "octets" p) U Q X :=
 ev_attr (g.mono (λa U1 z=>by obtain ⟨l,L,rfl,hB,q⟩:=z;show qG x.toK hB q) λ_ _ z=>z) (hbase _)
theorem ea_flags (x:AG c) (g:Ev c V e U (CF (λL=>(.tup (L.flags.map .str))) Q) X) (hbase:autoParam (∀ nm,attributeBase e nm c.env (eval e c.env)=eval e c.env) aI):Ev c V (.Attribute e "flags" p) U Q X :=
 ev_attr (g.mono (λa U1 z=>by obtain ⟨l,L,rfl,hB,q⟩:=z;show sG x.toK hB q) λ_ _ z=>z) (hbase _)
theorem ea_instant (x:AG c) (g:Ev c V e U (CF (λL=>(.int L.instant)) Q) X) (hbase:autoParam (∀ nm,attributeBase e nm c.env (eval e c.env)=eval e c.env) aI):Ev c V (.Attribute e "instant" p) U Q X :=
 ev_attr (g.mono (λa U1 z=>by obtain ⟨l,L,rfl,hB,q⟩:=z;show oP x.toK hB q) λ_ _ z=>z) (hbase _)
theorem ea_modseq (x:AG c) (g:Ev c V e U (CF (λL=>(.int L.modseq)) Q) X) (hbase:autoParam (∀ nm,attributeBase e nm c.env (eval e c.env)=eval e c.env) aI):Ev c V (.Attribute e "modseq" p) U Q X :=
 ev_attr (g.mono (λa U1 z=>by obtain ⟨l,L,rfl,hB,q⟩:=z;show re x.toK hB q) λ_ _ z=>z) (hbase _)
theorem ea_boxes (x:AG c) (g:Ev c V e U (Dc (λS n=>(.ref S.b)) Q) X) (hbase:autoParam (∀ nm,attributeBase e nm c.env (eval e c.env)=eval e c.env) aI):Ev c V (.Attribute e "boxes" p) U Q X :=
 ev_attr (g.mono (λa U1 z=>by obtain ⟨S,n,rfl,hB,q⟩:=z;show rQ x.toK hB q) λ_ _ z=>z) (hbase _)
theorem ea_subscribed (x:AG c) (g:Ev c V e U (Dc (λS n=>(.ref S.s)) Q) X) (hbase:autoParam (∀ nm,attributeBase e nm c.env (eval e c.env)=eval e c.env) aI):Ev c V (.Attribute e "subscribed" p) U Q X :=
 ev_attr (g.mono (λa U1 z=>by obtain ⟨S,n,rfl,hB,q⟩:=z;show j9 x.toK hB q) λ_ _ z=>z) (hbase _)
theorem ea_next_validity (x:AG c) (g:Ev c V e U (Dc (λS n=>(.int n)) Q) X) (hbase:autoParam (∀ nm,attributeBase e nm c.env (eval e c.env)=eval e c.env) aI):Ev c V (.Attribute e "next_validity" p) U Q X :=
 ev_attr (g.mono (λa U1 z=>by obtain ⟨S,n,rfl,hB,q⟩:=z;show gY x.toK hB q) λ_ _ z=>z) (hbase _)
theorem wa_next_uid (x:AG c) (g:Ev c V value U (KE c V e (Cj .int (λB i=>{ B with next:=i }) (N V)) (Av XS V)) (Av XS V))
  (hs:autoParam (swapsWith value (some (.Attribute e "next_uid" pa)) p.line c.env=pure false) aU):WS c V (.Assign [.Attribute e "next_uid" pa] value p) U N R XS :=
 bT (g.mono (λv U1 z=>z.mono (λa U2 z=>by obtain ⟨A,B,i,rfl,rfl,hB,q⟩:=z;show nT (P:=N V) x.toK hB q) λ_ _ z=>z) λ_ _ z=>z) hs
theorem wa_top (x:AG c) (g:Ev c V value U (KE c V e (Cj .int (λB i=>{ B with top:=i }) (N V)) (Av XS V)) (Av XS V))
  (hs:autoParam (swapsWith value (some (.Attribute e "top" pa)) p.line c.env=pure false) aU):WS c V (.Assign [.Attribute e "top" pa] value p) U N R XS :=
 bT (g.mono (λv U1 z=>z.mono (λa U2 z=>by obtain ⟨A,B,i,rfl,rfl,hB,q⟩:=z;show uH (P:=N V) x.toK hB q) λ_ _ z=>z) λ_ _ z=>z) hs
theorem wa_floor (x:AG c) (g:Ev c V value U (KE c V e (Cj .int (λB i=>{ B with floor:=i }) (N V)) (Av XS V)) (Av XS V))
  (hs:autoParam (swapsWith value (some (.Attribute e "floor" pa)) p.line c.env=pure false) aU):WS c V (.Assign [.Attribute e "floor" pa] value p) U N R XS :=
 bT (g.mono (λv U1 z=>z.mono (λa U2 z=>by obtain ⟨A,B,i,rfl,rfl,hB,q⟩:=z;show rW (P:=N V) x.toK hB q) λ_ _ z=>z) λ_ _ z=>z) hs
theorem wa_letters (x:AG c) (g:Ev c V value U (KE c V e (CH (N V)) (Av XS V)) (Av XS V))
  (hs:autoParam (swapsWith value (some (.Attribute e "letters" pa)) p.line c.env=pure false) aU):WS c V (.Assign [.Attribute e "letters" pa] value p) U N R XS :=
 bT (g.mono (λv U1 z=>z.mono (λa U2 z=>by obtain ⟨A,B,l',xs,Ls,rfl,rfl,hB,h1,h2,h3,q⟩:=z;show oX (P:=N V) x.toK hB h1 h2 h3 q) λ_ _ z=>z) λ_ _ z=>z) hs
theorem wa_gone (x:AG c) (g:Ev c V value U (KE c V e (DE (N V)) (Av XS V)) (Av XS V))
  (hs:autoParam (swapsWith value (some (.Attribute e "gone" pa)) p.line c.env=pure false) aU):WS c V (.Assign [.Attribute e "gone" pa] value p) U N R XS :=
 bT (g.mono (λv U1 z=>z.mono (λa U2 z=>by obtain ⟨A,B,g',G,rfl,rfl,hB,h1,h3,q⟩:=z;show tA (P:=N V) x.toK hB h1 h3 q) λ_ _ z=>z) λ_ _ z=>z) hs
theorem wa_next_validity (x:AG c) (g:Ev c V value U (KE c V e (Dj .int (λS _ i=>bq S i) (N V)) (Av XS V)) (Av XS V))
  (hs:autoParam (swapsWith value (some (.Attribute e "next_validity" pa)) p.line c.env=pure false) aU):WS c V (.Assign [.Attribute e "next_validity" pa] value p) U N R XS :=
 bT (g.mono (λv U1 z=>z.mono (λa U2 z=>by obtain ⟨S,n,i,rfl,rfl,hB,q⟩:=z;show hZ (P:=N V) x.toK hB (by rw [nI];show q)) λ_ _ z=>z) λ_ _ z=>z) hs
theorem wa_subscribed (x:AG c) (g:Ev c V value U (KE c V e (Dj .ref (λS n s'=>bq { S with s:=s' } n) (N V)) (Av XS V)) (Av XS V))
  (hs:autoParam (swapsWith value (some (.Attribute e "subscribed" pa)) p.line c.env=pure false) aU):WS c V (.Assign [.Attribute e "subscribed" pa] value p) U N R XS :=
 bT (g.mono (λv U1 z=>z.mono (λa U2 z=>by obtain ⟨S,n,s',rfl,rfl,hB,q⟩:=z;show jY (P:=N V) x.toK hB (by rw [oj];show q)) λ_ _ z=>z) λ_ _ z=>z) hs
end
abbrev A1 (c:Cx) (pos:Pos) (es:List Expr):Prop:=(backTo pos (starEach es c.env)).all (λx=>!x.1)=true
abbrev Ch (c:Cx) (pos:Pos) (es:List Expr):Prop:=((backTo pos (starEach es c.env)).all (λx=>!x.1) && (backToKw pos (keywordEach [] c.env)).all (λx=>x.1.isSome)
   && decide (es.length+([]:List Keyword).length+(if ([]:List Keyword).isEmpty then 0 else 1) < 30))=true
abbrev CX (p q:Pos):Prop:=(p.endLine == q.line)=true
section
variable (c:Cx) (V:List NV) (pos:Pos) (es:List Expr) (f:Value) (Q:AB->AA->Prop) (X:AC->AA->Prop) (a:AB) (U1:AA)
inductive Ck:Prop
 | mk (A:Ah) (B:Bx) (e:a=.ref A.x) (h:AD U1 A B) (q:Ay c V pos es U1 (CI c V (.ref A.x) f Q X) X)
inductive DP:Prop
 | mk (S:A2) (n:Int) (e:a=.ref S.x) (h:Ae U1 S n) (q:Ay c V pos es U1 (CI c V (.ref S.x) f Q X) X)
inductive Di:Prop
 | mk (l:Addr) (L:AV) (e:a=.ref l) (h:AX U1 l L) (q:Ay c V pos es U1 (CI c V (.ref l) f Q X) X)
end
section
variable {c:Cx}{V:List NV}{U:AA}{Q:AB->AA->Prop}{X:AC->AA->Prop}{p pos apos:Pos}{es:List Expr}
theorem uF (x:AG c):nsIn c.K mainGlobals "len" = some none:=by rw [x.K];rfl
theorem ev_len (x:AG c) (l:AL V "len") (g:Ay c V pos es U (BA c V (.builtin "len") Q X) X) (hstar:autoParam (A1 c pos es) aU):Ev c V (.Call (.Name "len" p) es [] pos) U Q X :=
 ev_builtin l (uF x) PyProof.Rows.Boot.«len» s!"k" g hstar
theorem uE (x:AG c):nsIn c.K mainGlobals "ord" = some none:=by rw [x.K];rfl
theorem ev_ord (x:AG c) (l:AL V "ord") (g:Ay c V pos es U (BA c V (.builtin "ord") Q X) X) (hstar:autoParam (A1 c pos es) aU):Ev c V (.Call (.Name "ord" p) es [] pos) U Q X :=
 ev_builtin l (uE x) PyProof.Rows.Boot.«ord» s!"k" g hstar
theorem rm (x:AG c):nsIn c.K mainGlobals "sorted" = some none:=by rw [x.K];rfl
theorem ev_sorted (x:AG c) (l:AL V "sorted") (g:Ay c V pos es U (BA c V (.builtin "sorted") Q X) X) (hstar:autoParam (A1 c pos es) aU):Ev c V (.Call (.Name "sorted" p) es [] pos) U Q X :=
 ev_builtin l (rm x) PyProof.Rows.Boot.«sorted» s!"k" g hstar
theorem jU (x:AG c):nsIn c.K mainGlobals "isinstance" = some none:=by rw [x.K];rfl
theorem ev_isinstance (x:AG c) (l:AL V "isinstance") (g:Ay c V pos es U (BA c V (.builtin "isinstance") Q X) X) (hstar:autoParam (A1 c pos es) aU):Ev c V (.Call (.Name "isinstance" p) es [] pos) U Q X :=
 ev_builtin l (jU x) PyProof.Rows.Boot.«isinstance» s!"k" g hstar
theorem ut (x:AG c):nsIn c.K mainGlobals "all" = some none:=by rw [x.K];rfl
theorem ev_all (x:AG c) (l:AL V "all") (g:Ay c V pos es U (BA c V (.builtin "all") Q X) X) (hstar:autoParam (A1 c pos es) aU):Ev c V (.Call (.Name "all" p) es [] pos) U Q X :=
 ev_builtin l (ut x) PyProof.Rows.Boot.«all» s!"k" g hstar
theorem uz (x:AG c):nsIn c.K mainGlobals "any" = some none:=by rw [x.K];rfl
theorem ev_any (x:AG c) (l:AL V "any") (g:Ay c V pos es U (BA c V (.builtin "any") Q X) X) (hstar:autoParam (A1 c pos es) aU):Ev c V (.Call (.Name "any" p) es [] pos) U Q X :=
 ev_builtin l (uz x) PyProof.Rows.Boot.«any» s!"k" g hstar
theorem ub (x:AG c):nsIn c.K mainGlobals "min" = some none:=by rw [x.K];rfl
theorem ev_min (x:AG c) (l:AL V "min") (g:Ay c V pos es U (BA c V (.builtin "min") Q X) X) (hstar:autoParam (A1 c pos es) aU):Ev c V (.Call (.Name "min" p) es [] pos) U Q X :=
 ev_builtin l (ub x) PyProof.Rows.Boot.«min» s!"k" g hstar
theorem ue (x:AG c):nsIn c.K mainGlobals "abs" = some none:=by rw [x.K];rfl
theorem ev_abs (x:AG c) (l:AL V "abs") (g:Ay c V pos es U (BA c V (.builtin "abs") Q X) X) (hstar:autoParam (A1 c pos es) aU):Ev c V (.Call (.Name "abs" p) es [] pos) U Q X :=
 ev_builtin l (ue x) PyProof.Rows.Boot.«abs» s!"k" g hstar
theorem uG (x:AG c):nsIn c.K mainGlobals "chr" = some none:=by rw [x.K];rfl
theorem ev_chr (x:AG c) (l:AL V "chr") (g:Ay c V pos es U (BA c V (.builtin "chr") Q X) X) (hstar:autoParam (A1 c pos es) aU):Ev c V (.Call (.Name "chr" p) es [] pos) U Q X :=
 ev_builtin l (uG x) PyProof.Rows.Boot.«chr» s!"k" g hstar
theorem mN (x:AG c):nsIn c.K mainGlobals "tuple" = some none:=by rw [x.K];rfl
theorem ec_tuple (x:AG c) (l:AL V "tuple") (g:Ay c V pos es U (BA c V (.type "tuple") Q X) X) (hstar:autoParam (A1 c pos es) aU):Ev c V (.Call (.Name "tuple" p) es [] pos) U Q X :=
 ev_btype l (mN x) PyProof.Rows.Boot.«tuple» s!"k" g hstar
theorem en_tuple (x:AG c) (l:AL V "tuple") (q:Q (.type "tuple") U):Ev c V (.Name "tuple" p) U Q X:=ev_bname l (mN x) PyProof.Rows.Boot.«tuple» s!"k" q
theorem tI (x:AG c):nsIn c.K mainGlobals "list" = some none:=by rw [x.K];rfl
theorem ec_list (x:AG c) (l:AL V "list") (g:Ay c V pos es U (BA c V (.type "list") Q X) X) (hstar:autoParam (A1 c pos es) aU):Ev c V (.Call (.Name "list" p) es [] pos) U Q X :=
 ev_btype l (tI x) PyProof.Rows.Boot.«list» s!"k" g hstar
theorem sk (x:AG c):nsIn c.K mainGlobals "int" = some none:=by rw [x.K];rfl
theorem ec_int (x:AG c) (l:AL V "int") (g:Ay c V pos es U (BA c V (.type "int") Q X) X) (hstar:autoParam (A1 c pos es) aU):Ev c V (.Call (.Name "int" p) es [] pos) U Q X :=
 ev_btype l (sk x) PyProof.Rows.Boot.«int» s!"k" g hstar
theorem en_int (x:AG c) (l:AL V "int") (q:Q (.type "int") U):Ev c V (.Name "int" p) U Q X:=ev_bname l (sk x) PyProof.Rows.Boot.«int» s!"k" q
theorem tm (x:AG c):nsIn c.K mainGlobals "bool" = some none:=by rw [x.K];rfl
theorem en_bool (x:AG c) (l:AL V "bool") (q:Q (.type "bool") U):Ev c V (.Name "bool" p) U Q X:=ev_bname l (tm x) PyProof.Rows.Boot.«bool» s!"k" q
theorem ug (x:AG c):nsIn c.K mainGlobals "str" = some none:=by rw [x.K];rfl
theorem en_str (x:AG c) (l:AL V "str") (q:Q (.type "str") U):Ev c V (.Name "str" p) U Q X:=ev_bname l (ug x) PyProof.Rows.Boot.«str» s!"k" q
theorem mP (x:AG c):nsIn c.K mainGlobals "bytes" = some none:=by rw [x.K];rfl
theorem ec_bytes (x:AG c) (l:AL V "bytes") (g:Ay c V pos es U (BA c V (.type "bytes") Q X) X) (hstar:autoParam (A1 c pos es) aU):Ev c V (.Call (.Name "bytes" p) es [] pos) U Q X :=
 ev_btype l (mP x) PyProof.Rows.Boot.«bytes» s!"k" g hstar
theorem en_bytes (x:AG c) (l:AL V "bytes") (q:Q (.type "bytes") U):Ev c V (.Name "bytes" p) U Q X:=ev_bname l (mP x) PyProof.Rows.Boot.«bytes» s!"k" q
theorem s6 (x:AG c):nsIn c.K mainGlobals "range" = some none:=by rw [x.K];rfl
theorem ec_range (x:AG c) (l:AL V "range") (g:Ay c V pos es U (BA c V (.type "range") Q X) X) (hstar:autoParam (A1 c pos es) aU):Ev c V (.Call (.Name "range" p) es [] pos) U Q X :=
 ev_btype l (s6 x) PyProof.Rows.Boot.«range» s!"k" g hstar
theorem sp (x:AG c):nsIn c.K mainGlobals "zip" = some none:=by rw [x.K];rfl
theorem lB (x:AG c):nsIn c.K mainGlobals "Exception" = some none:=by rw [x.K];rfl
theorem qL (x:AG c):∃ t,nsIn c.K mainGlobals "SYSTEM" = some (some (.str "\\Seen \\Answered \\Flagged \\Deleted \\Draft" t)):=by rw [x.K];show ⟨_,rfl⟩
theorem ek_SYSTEM (x:AG c) (l:AL V "SYSTEM") (q:Q (.str "\\Seen \\Answered \\Flagged \\Deleted \\Draft") U):Ev c V (.Name "SYSTEM" p) U Q X:=let ⟨t,e⟩:=qL x;ev_global l e (λh=>.str _ t) q
theorem kl (x:AG c):∃ t,nsIn c.K mainGlobals "NO_KEYWORD" = some (some (.str "(){ %*\"\\]" t)):=by rw [x.K];show ⟨_,rfl⟩
theorem ek_NO_KEYWORD (x:AG c) (l:AL V "NO_KEYWORD") (q:Q (.str "(){ %*\"\\]") U):Ev c V (.Name "NO_KEYWORD" p) U Q X:=let ⟨t,e⟩:=kl x;ev_global l e (λh=>.str _ t) q
theorem iH (x:AG c):∃ t,nsIn c.K mainGlobals "MOST_KEYWORD" = some (some (.int 60 t)):=by rw [x.K];show ⟨_,rfl⟩
theorem ek_MOST_KEYWORD (x:AG c) (l:AL V "MOST_KEYWORD") (q:Q (.int 60) U):Ev c V (.Name "MOST_KEYWORD" p) U Q X:=let ⟨t,e⟩:=iH x;ev_global l e (λh=>.int _ t) q
theorem mf (x:AG c):∃ t,nsIn c.K mainGlobals "DELIMITER" = some (some (.str "/" t)):=by rw [x.K];show ⟨_,rfl⟩
theorem ek_DELIMITER (x:AG c) (l:AL V "DELIMITER") (q:Q (.str "/") U):Ev c V (.Name "DELIMITER" p) U Q X:=let ⟨t,e⟩:=mf x;ev_global l e (λh=>.str _ t) q
theorem iV (x:AG c):∃ t,nsIn c.K mainGlobals "INBOX_names" = some (some (.str "INBOX" t)):=by rw [x.K];show ⟨_,rfl⟩
theorem ek_INBOX_names (x:AG c) (l:AL V "INBOX_names") (q:Q (.str "INBOX") U):Ev c V (.Name "INBOX_names" p) U Q X:=let ⟨t,e⟩:=iV x;ev_global l e (λh=>.str _ t) q
theorem kr (x:AG c):∃ t,nsIn c.K mainGlobals "WILD_SIGNS" = some (some (.str "%*" t)):=by rw [x.K];show ⟨_,rfl⟩
theorem ek_WILD_SIGNS (x:AG c) (l:AL V "WILD_SIGNS") (q:Q (.str "%*") U):Ev c V (.Name "WILD_SIGNS" p) U Q X:=let ⟨t,e⟩:=kr x;ev_global l e (λh=>.str _ t) q
theorem je (x:AG c):∃ t,nsIn c.K mainGlobals "INBOX_store" = some (some (.str "INBOX" t)):=by rw [x.K];show ⟨_,rfl⟩
theorem ek_INBOX_store (x:AG c) (l:AL V "INBOX_store") (q:Q (.str "INBOX") U):Ev c V (.Name "INBOX_store" p) U Q X:=let ⟨t,e⟩:=je x;ev_global l e (λh=>.str _ t) q
theorem tF (x:AG c):∃ t,nsIn c.K mainGlobals "MOST" = some (some (.int 4294967295 t)):=by rw [x.K];show ⟨_,rfl⟩
theorem ek_MOST (x:AG c) (l:AL V "MOST") (q:Q (.int 4294967295) U):Ev c V (.Name "MOST" p) U Q X:=let ⟨t,e⟩:=tF x;ev_global l e (λh=>.int _ t) q
theorem i3 (x:AG c):∃ t,nsIn c.K mainGlobals "MOST_MODSEQ" = some (some (.int 9223372036854775807 t)):=by rw [x.K];show ⟨_,rfl⟩
theorem ek_MOST_MODSEQ (x:AG c) (l:AL V "MOST_MODSEQ") (q:Q (.int 9223372036854775807) U):Ev c V (.Name "MOST_MODSEQ" p) U Q X:=let ⟨t,e⟩:=i3 x;ev_global l e (λh=>.int _ t) q
theorem qT (x:AG c):∃ t,nsIn c.K mainGlobals "SHAPES" = some (some (.str "create:tn delete:t rename:tt append:tfno flags:tnf store:tutfn expunge:tu copy:tut move:tut subscribe:t unsubscribe:t forget:tn snapshot:nfr" t)):=by rw [x.K];show ⟨_,rfl⟩
theorem ek_SHAPES (x:AG c) (l:AL V "SHAPES") (q:Q (.str "create:tn delete:t rename:tt append:tfno flags:tnf store:tutfn expunge:tu copy:tut move:tut subscribe:t unsubscribe:t forget:tn snapshot:nfr") U):Ev c V (.Name "SHAPES" p) U Q X:=let ⟨t,e⟩:=qT x;ev_global l e (λh=>.str _ t) q
theorem em_str_split (g:Ev c V o U (Bk c V pos es "str" "str.split" Q X) X)
  (hbase:autoParam (attributeBase o "split" c.env (eval o c.env)=eval o c.env) aU)
  (hfew:autoParam (Ch c pos es) aU)
  (hline:autoParam (CX apos pos) aU):Ev c V (.Call (.Attribute o "split" apos) es [] pos) U Q X :=
 ev_bmethod F.plainAttrs_str F.slot_str_split F.type_str_split g hbase hfew hline
theorem em_str_lower (g:Ev c V o U (Bk c V pos es "str" "str.lower" Q X) X)
  (hbase:autoParam (attributeBase o "lower" c.env (eval o c.env)=eval o c.env) aU)
  (hfew:autoParam (Ch c pos es) aU)
  (hline:autoParam (CX apos pos) aU):Ev c V (.Call (.Attribute o "lower" apos) es [] pos) U Q X :=
 ev_bmethod F.plainAttrs_str F.slot_str_lower F.type_str_lower g hbase hfew hline
theorem em_str_find (g:Ev c V o U (Bk c V pos es "str" "str.find" Q X) X)
  (hbase:autoParam (attributeBase o "find" c.env (eval o c.env)=eval o c.env) aU)
  (hfew:autoParam (Ch c pos es) aU)
  (hline:autoParam (CX apos pos) aU):Ev c V (.Call (.Attribute o "find" apos) es [] pos) U Q X :=
 ev_bmethod F.plainAttrs_str F.slot_str_find F.type_str_find g hbase hfew hline
theorem em_str_startswith (g:Ev c V o U (Bk c V pos es "str" "str.startswith" Q X) X)
  (hbase:autoParam (attributeBase o "startswith" c.env (eval o c.env)=eval o c.env) aU)
  (hfew:autoParam (Ch c pos es) aU)
  (hline:autoParam (CX apos pos) aU):Ev c V (.Call (.Attribute o "startswith" apos) es [] pos) U Q X :=
 ev_bmethod F.plainAttrs_str F.slot_str_startswith F.type_str_startswith g hbase hfew hline
theorem em_str_join (g:Ev c V o U (Bk c V pos es "str" "str.join" Q X) X)
  (hbase:autoParam (attributeBase o "join" c.env (eval o c.env)=eval o c.env) aU)
  (hfew:autoParam (Ch c pos es) aU)
  (hline:autoParam (CX apos pos) aU):Ev c V (.Call (.Attribute o "join" apos) es [] pos) U Q X :=
 ev_bmethod F.plainAttrs_str F.slot_str_join F.type_str_join g hbase hfew hline
theorem em_list_append (g:Ev c V o U (Bk c V pos es "list" "list.append" Q X) X)
  (hbase:autoParam (attributeBase o "append" c.env (eval o c.env)=eval o c.env) aU)
  (hfew:autoParam (Ch c pos es) aU)
  (hline:autoParam (CX apos pos) aU):Ev c V (.Call (.Attribute o "append" apos) es [] pos) U Q X :=
 ev_bmethod F.plainAttrs_list F.slot_list_append F.type_list_append g hbase hfew hline
theorem em_dict_get (g:Ev c V o U (Bk c V pos es "dict" "dict.get" Q X) X)
  (hbase:autoParam (attributeBase o "get" c.env (eval o c.env)=eval o c.env) aU)
  (hfew:autoParam (Ch c pos es) aU)
  (hline:autoParam (CX apos pos) aU):Ev c V (.Call (.Attribute o "get" apos) es [] pos) U Q X :=
 ev_bmethod F.plainAttrs_dict F.slot_dict_get F.type_dict_get g hbase hfew hline
theorem em_dict_pop (g:Ev c V o U (Bk c V pos es "dict" "dict.pop" Q X) X)
  (hbase:autoParam (attributeBase o "pop" c.env (eval o c.env)=eval o c.env) aU)
  (hfew:autoParam (Ch c pos es) aU)
  (hline:autoParam (CX apos pos) aU):Ev c V (.Call (.Attribute o "pop" apos) es [] pos) U Q X :=
 ev_bmethod F.plainAttrs_dict F.slot_dict_pop F.type_dict_pop g hbase hfew hline
theorem me_box_letter (x:AG c) (g:Ev c V o U (Ck c V pos es (.ref 150) Q X) X)
  (hstar:autoParam (A1 c pos es) aU)
  (he:autoParam (eval (.Call (.Attribute o "letter" apos) es [] pos) c.env=(do
   let ov <- eval o c.env
   standAt apos.atName
   let (f,first) <- holding [ov] (getMethod ov "letter" pl)
   callWith pos f first (backTo pos (starEach es c.env)) (backToKw pos (keywordEach [] c.env)))) aU):Ev c V (.Call (.Attribute o "letter" apos) es [] pos) U Q X :=
 ev_method (g.mono (λa U1 z=>by obtain ⟨A,B,rfl,hB,q⟩:=z;show ⟨A.x,163,boxNs,boxM A B,150,fd150,rfl,⟨A.d,hB.x,hB.d⟩,rfl,oN x,by rw [x.K];rfl,by rw [x.K];rfl,f150.fi x,q⟩) λ_ _ z=>z) hstar he
theorem me_box_uids (x:AG c) (g:Ev c V o U (Ck c V pos es (.ref 155) Q X) X)
  (hstar:autoParam (A1 c pos es) aU)
  (he:autoParam (eval (.Call (.Attribute o "uids" apos) es [] pos) c.env=(do
   let ov <- eval o c.env
   standAt apos.atName
   let (f,first) <- holding [ov] (getMethod ov "uids" pl)
   callWith pos f first (backTo pos (starEach es c.env)) (backToKw pos (keywordEach [] c.env)))) aU):Ev c V (.Call (.Attribute o "uids" apos) es [] pos) U Q X :=
 ev_method (g.mono (λa U1 z=>by obtain ⟨A,B,rfl,hB,q⟩:=z;show ⟨A.x,163,boxNs,boxM A B,155,fd155,rfl,⟨A.d,hB.x,hB.d⟩,rfl,oN x,by rw [x.K];rfl,by rw [x.K];rfl,f155.fi x,q⟩) λ_ _ z=>z) hstar he
theorem me_box_told (x:AG c) (g:Ev c V o U (Ck c V pos es (.ref 160) Q X) X)
  (hstar:autoParam (A1 c pos es) aU)
  (he:autoParam (eval (.Call (.Attribute o "told" apos) es [] pos) c.env=(do
   let ov <- eval o c.env
   standAt apos.atName
   let (f,first) <- holding [ov] (getMethod ov "told" pl)
   callWith pos f first (backTo pos (starEach es c.env)) (backToKw pos (keywordEach [] c.env)))) aU):Ev c V (.Call (.Attribute o "told" apos) es [] pos) U Q X :=
 ev_method (g.mono (λa U1 z=>by obtain ⟨A,B,rfl,hB,q⟩:=z;show ⟨A.x,163,boxNs,boxM A B,160,fd160,rfl,⟨A.d,hB.x,hB.d⟩,rfl,oN x,by rw [x.K];rfl,by rw [x.K];rfl,f160.fi x,q⟩) λ_ _ z=>z) hstar he
theorem me_store_box (x:AG c) (g:Ev c V o U (DP c V pos es (.ref 325) Q X) X)
  (hstar:autoParam (A1 c pos es) aU)
  (he:autoParam (eval (.Call (.Attribute o "box" apos) es [] pos) c.env=(do
   let ov <- eval o c.env
   standAt apos.atName
   let (f,first) <- holding [ov] (getMethod ov "box" pl)
   callWith pos f first (backTo pos (starEach es c.env)) (backToKw pos (keywordEach [] c.env)))) aU):Ev c V (.Call (.Attribute o "box" apos) es [] pos) U Q X :=
 ev_method (g.mono (λa U1 z=>by obtain ⟨S,n,rfl,hB,q⟩:=z;show ⟨S.x,340,storeNs,bq S n,325,fd325,rfl,⟨S.d,hB.x,hB.d⟩,rfl,oQ x,by rw [x.K];rfl,by rw [x.K];rfl,f325.fi x,q⟩) λ_ _ z=>z) hstar he
theorem me_store_names (x:AG c) (g:Ev c V o U (DP c V pos es (.ref 332) Q X) X)
  (hstar:autoParam (A1 c pos es) aU)
  (he:autoParam (eval (.Call (.Attribute o "names" apos) es [] pos) c.env=(do
   let ov <- eval o c.env
   standAt apos.atName
   let (f,first) <- holding [ov] (getMethod ov "names" pl)
   callWith pos f first (backTo pos (starEach es c.env)) (backToKw pos (keywordEach [] c.env)))) aU):Ev c V (.Call (.Attribute o "names" apos) es [] pos) U Q X :=
 ev_method (g.mono (λa U1 z=>by obtain ⟨S,n,rfl,hB,q⟩:=z;show ⟨S.x,340,storeNs,bq S n,332,fd332,rfl,⟨S.d,hB.x,hB.d⟩,rfl,oQ x,by rw [x.K];rfl,by rw [x.K];rfl,f332.fi x,q⟩) λ_ _ z=>z) hstar he
theorem me_store_told (x:AG c) (g:Ev c V o U (DP c V pos es (.ref 337) Q X) X)
  (hstar:autoParam (A1 c pos es) aU)
  (he:autoParam (eval (.Call (.Attribute o "told" apos) es [] pos) c.env=(do
   let ov <- eval o c.env
   standAt apos.atName
   let (f,first) <- holding [ov] (getMethod ov "told" pl)
   callWith pos f first (backTo pos (starEach es c.env)) (backToKw pos (keywordEach [] c.env)))) aU):Ev c V (.Call (.Attribute o "told" apos) es [] pos) U Q X :=
 ev_method (g.mono (λa U1 z=>by obtain ⟨S,n,rfl,hB,q⟩:=z;show ⟨S.x,340,storeNs,bq S n,337,fd337,rfl,⟨S.d,hB.x,hB.d⟩,rfl,oQ x,by rw [x.K];rfl,by rw [x.K];rfl,f337.fi x,q⟩) λ_ _ z=>z) hstar he
theorem me_letter_told (x:AG c) (g:Ev c V o U (Di c V pos es (.ref 122) Q X) X)
  (hstar:autoParam (A1 c pos es) aU)
  (he:autoParam (eval (.Call (.Attribute o "told" apos) es [] pos) c.env=(do
   let ov <- eval o c.env
   standAt apos.atName
   let (f,first) <- holding [ov] (getMethod ov "told" pl)
   callWith pos f first (backTo pos (starEach es c.env)) (backToKw pos (keywordEach [] c.env)))) aU):Ev c V (.Call (.Attribute o "told" apos) es [] pos) U Q X :=
 ev_method (g.mono (λa U1 z=>by obtain ⟨l,L,rfl,hB,q⟩:=z;show ⟨l,125,letterNs,dY L,122,fd122,rfl,hB,rfl,uK x,by rw [x.K];rfl,by rw [x.K];rfl,f122.fi x,q⟩) λ_ _ z=>z) hstar he
end
section
variable {α:Type}{c:Cx}{target:Expr}{V V':List NV}{U U0 U1 U' Y:AA}{N:List NV->AA->Prop}{R:AB->AA->Prop}{X:AC->List NV->AA->Prop}{Q:AB->AA->Prop}{XE:AC->AA->Prop}
inductive Cn (f:α->AB) (c:Cx) (target:Expr) (V:List NV) (body:List Stmt) (N:List NV->AA->Prop) (R:AB->AA->Prop) (X:AC->List NV->AA->Prop) (a:AB) (U1:AA):Prop
 | mk (xs:List α) (need:AA->Prop) (I:List α->List NV->AA->Prop) (it:Bb c target a (xs.map f) need U1) (i:I xs V U1) (k:∀ r V U,I r V U->need U)
   (turn:∀ y ys V1 U1,I (y::ys) V1 U1->BN c target (f y) V1 U1 (KS c body (AK (I ys)) R X) X) (done:∀ V1 U1,I [] V1 U1->N V1 U1)
theorem bu (f:α->AB) (hf:c.fn=true)
  (g:Ev c V iter U (Cn f c target V body N R X) (Av X V))
  (hs:autoParam (∀ x,foldedSetIterable iter c.env x=pure x) aI):WS c V (.For target iter body [] p) U N R X:=by
 show tC hf (g.mono (λa U1 z=>?_) λ_ _ z=>z) hs;obtain ⟨xs,need,I,h1,h2,h3,turn,done⟩:=z;show ⟨λr V' U'=>∃ ys,r=ys.map f/\I ys V' U',_,need,h1,⟨xs,rfl,h2⟩,λr V U ⟨ys,_,h⟩=>h3 ys V U h,?_,?_⟩
 ·intro v rest V1 U1 r1z;obtain ⟨ys⟩|⟨hr,hi⟩:=r1z;cases ys with
  | nil=>cases hr
  | cons y ys =>
   rw [E5] at hr;cases hr;intro val s r S;show Zm (turn y ys V1 U1 hi val s r S) (λ_ s₂ z=>?_) λ_ _ z=>z;obtain ⟨V₂,U2,SB,yC,g₂⟩:=z;show ⟨V₂,U2,SB,yC,λs S=>Zm (g₂ s S) (λfl s' q=>?_) λ_ _ z=>z⟩;obtain ⟨V',U',S',y',q⟩:=q;cases fl with
   | next=>obtain ⟨Y,l,q⟩:=q;show ⟨V',Y,S'.fewer l,y'.fewer l,ys,rfl,q⟩
   | ret v=>show ⟨V',U',S',y',q⟩
   | _=>show q.elim
 ·intro V1 U1 r2z;obtain ⟨ys⟩|⟨hr,hi⟩:=r2z;cases ys with
  | cons y ys=>cases hr
  | nil=>show done V1 U1 hi
abbrev Dk (gz:AB) (U:AA) (z:AB) (U4:AA):Prop:=z=gz/\Le U U4
abbrev D7 (c:Cx) (elt:Expr) (pz:Bool) (gz:AB) (U:AA) (V₂:List NV) (b:Bool) (U3:AA):Prop:=b=pz/\if b=true then Ev c V₂ elt U3 (Dk gz U) Cv else Le U U3
abbrev Do (c:Cx) (ifs:List Expr) (K:List NV->Bool->AA->Prop) (V₂:List NV) (U2:AA):Prop:=Bp c V₂ ifs U2 (K V₂)
def Cf (c:Cx) (V:List NV) (target:Expr) (ifs:List Expr) (elt:Expr) (P:AA->Prop) (y:AB) (pz:Bool) (gz:AB):Prop :=
 ∀ U,P U->BN c target y V U (Do c ifs (D7 c elt pz gz U)) CL
theorem nN {P:AA->Prop} (hP:∀ U U',P U->Le U U'->P U') (xs:List α) (f:α->AB) (p:α->Bool) (g:α->AB)
  (turn:∀ y∈xs,Cf c V target ifs elt P (f y) (p y) (g y)) :
  B5 c V target ifs elt (λr zs U=>P U/\∃ ds rs,xs=ds++rs/\r=rs.map f/\zs=(ds.filter p).map g):=by
 intro v rest zs U r3z;obtain ⟨hp,ds,rs,hx,hr,hz⟩:=r3z;cases rs with
 | nil=>cases hr
 | cons y rs =>
  rw [E5] at hr;cases hr;intro val s r S;show Zm (turn y (by rw [hx];simp) U hp val s r S) (λ_ s₂ z=>?_) λ_ _ z=>z;obtain ⟨V₂,U2,SB,yC,g₂⟩:=z;show ⟨V₂,U2,SB,yC,λs₃ S3=>Zm (g₂ s₃ S3) (λb s₄ z=>z.mono λb U4 ⟨hb,h⟩=>?_) λ_ _ z=>z⟩;cases b with
  | true =>
   rw [Zw rfl] at h ⊢;show h.mono (λz U5 ⟨hz',l⟩=>⟨hP _ _ hp l,ds++[y],rs,by simp [hx],rfl,?_⟩) λ_ _ z=>z;rw [Ee,EP,<- hb];simp [hz,hz']
  | false =>
   rw [Zv s!"d"] at h ⊢;show ⟨hP _ _ hp h,ds++[y],rs,by simp [hx],rfl,?_⟩;rw [Ee,EP,<- hb];simp [hz]
section
variable {scope:Scope}{elt iter:Expr}{ifs:List Expr}{pos:Pos}
inductive Bo (α:Type) (c:Cx) (V':List NV) (target:Expr) (ifs:List Expr) (elt:Expr) (scope:Scope) (D:AA->Addr->List AB->Prop) (a:AB) (U1:AA):Prop
 | mk (xs:List α) (f:α->AB) (p:α->Bool) (g:α->AB) (P:AA->Prop) (need:AA->Prop) (it:Bb c target a (xs.map f) need U1) (hP:∀ U U',P U->Le U U'->P U') (hz:xs.length<=sizeLine) (h2:P U1) (h3:∀ U,P U->need U)
   (turn:∀ cl C,∀ y∈xs,Cf (c.comp scope cl C) V' target ifs elt P (f y) (p y) (g y)) (done:∀ U' A,P U'->U' A=none->D U' A ((xs.filter p).map g))
abbrev Dn (Q:AB->AA->Prop) (U1:AA) (D:Addr) (zs:List AB):Prop:=Q (.ref D) (U1.set D (.list zs))
abbrev D6 (V:List NV) (x:Str) (N:List NV->AA->Prop) (U1:AA) (D:Addr) (zs:List AB):Prop:=Bm V x (.ref D) N (U1.set D (.list zs))
theorem Bo.cx {D:AA->Addr->List AB->Prop} (h:Bo α c V' target ifs elt scope D a U1):Bs c V' target ifs elt scope D a U1:=by
 obtain ⟨xs,f,p,g,P,need,h1,hP,hz,h2,h3,turn,done⟩:=h;show ⟨λr zs U=>P U/\∃ ds rs,xs=ds++rs/\r=rs.map f/\zs=(ds.filter p).map g,⟨_,need,h1,by rw [EQ];show hz,⟨h2,[],xs,rfl,rfl,rfl⟩,λr ys U h=>h3 U h.1⟩,λcl C=>nN hP xs f p g (turn cl C),?_⟩;intro ys U1 A r4z hD;obtain ⟨hp,ds,rs,hx,hr,hz⟩:=r4z;cases rs with
 | cons _ _=>cases hr
 | nil=>rw [ET] at hx;subst hx;rw [hz];show done U1 A hp hD
theorem ev_compP (α:Type) (hf:c.fn=true) (n:AJ V scope.names V') (ok:A6 scope)
  (it:Ev c V iter U (Bo α c V' target ifs elt scope (Dn Q)) XE) (hs:autoParam (∀ x,foldedSetIterable iter c.env x=pure x) aI) :
  Ev c V (.ListComp elt [⟨target,iter,ifs,0⟩] scope pos) U Q XE :=
 ev_listcomp hf n ok (it.mono (λa U1 z=>z.cx) λ_ _ z=>z) hs
theorem cc (α:Type) {x:Str} (hf:c.fn=true) (n:AJ V scope.names V') (ok:A6 scope)
  (it:Ev c V iter U (Bo α c V' target ifs elt scope (D6 V x N)) (Av X V))
  (hsw:autoParam (swapsWith (.ListComp elt [⟨target,iter,ifs,0⟩] scope pos) (some (.Name x py)) q.line c.env=pure true) aU)
  (hs:autoParam (∀ x,foldedSetIterable iter c.env x=pure x) aI) :
  WS c V (.Assign [.Name x py] (.ListComp elt [⟨target,iter,ifs,0⟩] scope pos) q) U N R X :=
 dc hf n ok (it.mono (λa U1 z=>z.cx) λ_ _ z=>z) hsw hs
end
end
theorem au (l:Le U U') (h:U' D=none):U D=none:=by
 cases z:U D with
 | none=>rfl
 | some ob=>rw [l _ _ z] at h;cases h
section
variable {α:Type}{c:Cx}{V V':List NV}{U U1:AA}{N:List NV->AA->Prop}{R:AB->AA->Prop}{X:AC->List NV->AA->Prop}{Q:AB->AA->Prop}{XE:AC->AA->Prop}
variable {scope:Scope}{elt iter:Expr}{pos px:Pos}{x:Str}
def Ct (V':List NV) (x:Str) (V₂:AB->List NV):Prop:=(∀ v,putK V' x v λr=>V₂ v=r)/\Ce V' x
inductive CN (α:Type) (c:Cx) (V₂:AB->List NV) (target elt:Expr) (scope:Scope) (D:Addr->AA->Prop) (a:AB) (U1:AA):Prop
 | mk (xs:List α) (f g:α->AB) (need:AA->Prop) (it:Bb c target a (xs.map f) need U1) (hn:∀ U,Le U1 U->need U) (hz:xs.length<=sizeLine)
   (turn:∀ cl C,∀ y∈xs,∀ U,Le U1 U->Ev (c.comp scope cl C) (V₂ (f y)) elt U (Dk (g y) U) Cv) (done:∀ Y A,Le U1 Y->U1 A=none->Y A=some (.list (xs.map g))->D A Y)
theorem CN.cx {D:Addr->AA->Prop} (p:Ct V' x V₂) (h:CN α c V₂ (.Name x px) elt scope D a U1):Bo α c V' (.Name x px) [] elt scope (λU A zs=>D A (U.set A (.list zs))) a U1:=by
 obtain ⟨xs,f,g,need,it,hn,hz,turn,done⟩:=h;show ⟨xs,f,λ_=>true,g,Le U1,need,it,λ_ _ h l=>h.trans l,hz,Le.refl _,hn,λcl C y hy U l=>aD ⟨_,.of (p.1 _),dA ⟨rfl,ifT (turn cl C y hy U l)⟩⟩ p.2,λY A l n=>?_⟩;rw [List.filter_eq_self.mpr λ_ _=>rfl];show done _ A (l.trans (Zl n)) (au l n) (Zs ..)
abbrev D5 (Q:AB->AA->Prop) (A:Addr) (U:AA):Prop:=Q (.ref A) U
abbrev Dx (V:List NV) (x:Str) (N:List NV->AA->Prop) (A:Addr) (U:AA):Prop:=Bm V x (.ref A) N U
theorem ev_compA (α:Type)  (hf:c.fn=true) (n:AJ V scope.names V') (ok:A6 scope) (p:Ct V' x V₂)
  (it:Ev c V iter U (CN α c V₂ (.Name x px) elt scope (D5 Q)) XE) (hs:autoParam (∀ x,foldedSetIterable iter c.env x=pure x) aI) :
  Ev c V (.ListComp elt [⟨.Name x px,iter,[],0⟩] scope pos) U Q XE:=ev_compP α hf n ok (it.mono (λa U1 z=>z.cx p) λ_ _ z=>z) hs
theorem iT (α:Type)  (hf:c.fn=true) (n:AJ V scope.names V') (ok:A6 scope) (p:Ct V' x V₂)
  (it:Ev c V iter U (CN α c V₂ (.Name x px) elt scope (Dx V y N)) (Av X V))
  (hsw:autoParam (swapsWith (.ListComp elt [⟨.Name x px,iter,[],0⟩] scope pos) (some (.Name y py)) q.line c.env=pure true) aU)
  (hs:autoParam (∀ x,foldedSetIterable iter c.env x=pure x) aI) :
  WS c V (.Assign [.Name y py] (.ListComp elt [⟨.Name x px,iter,[],0⟩] scope pos) q) U N R X:=cc α hf n ok (it.mono (λa U1 z=>z.cx p) λ_ _ z=>z) hsw hs
end
section
variable {c:Cx}{V:List NV}{U:AA}{N:List NV->AA->Prop}{R:AB->AA->Prop}{XS:AC->List NV->AA->Prop}{Q:AB->AA->Prop}{X:AC->AA->Prop}
theorem nm2 {x y:String}:∀ e∈[Expr.Name x p,Expr.Name y q],∃ x p,e=.Name x p:=λe he=>by
 rcases ZC he with rfl | he
 ·show ⟨_,_,rfl⟩
 ·show ⟨_,_,ZS he⟩
theorem lY (x:AZ K):A0 K 64:=by obtain ⟨_,rfl⟩:=x;show ⟨⟨_,_,_,_,_,_,_,_,_,_,_,_,_,_,_,_,rfl,rfl⟩,rfl,rfl,rfl,rfl⟩
theorem i5 (x:AZ K):A0 K 52:=by obtain ⟨_,rfl⟩:=x;show ⟨⟨_,_,_,_,_,_,_,_,_,_,_,_,_,_,_,_,rfl,rfl⟩,rfl,rfl,rfl,rfl⟩
theorem fn29 (x:AG c):BV c.G 29 fd29:=by
 have KG:=x.KG;rw [x.K] at KG;show ⟨⟨_,KG 29 _ (by rfl),rfl⟩,codeRec_of KG (by rfl)⟩
theorem ok29:Bd fd29:=⟨rfl,rfl,rfl,rfl,rfl,rfl,s!"k",s!"k"⟩
theorem s7 (C:Addr) (hC:C=64\/C=52) (c':Cx) (x:AG c') (L:Addr) (U:AA) (e t:Addr) (w a:AB) (he:U e=none) :
  Al (c'.call fd29 29 L) (b7 fd29.scope.names [.ref e,w,a]) (ic (subS 1 0)) (U.set e (.exc C none #[.ref t,.none,.none,.none,.bool false,.none])) (λ_ U'=>A9 C e w a U U') (λx U'=>x=.none/\A9 C e w a U U') (λ_ _ _=>False):=by
 have eo:A0 (c'.call fd29 29 L).K C:=by rcases hC with rfl | rfl;show lY x.toK;show i5 x.toK
 change Al _ [⟨"self",.local,some (.ref e)⟩,⟨"what",.local,some w⟩,⟨"at",.local,some a⟩,.gl "Exception"] (_::_) _ _ _ _;show af ?_;show tL ?_ (by rfl);show ev_excinit s!"look" (lB s!"lib") (by obtain ⟨_,h⟩:=x.toK;change findCls c'.K _ _ _=_;rw [h];rfl) ?_;right;show ⟨e,C,t,none,_,w,rfl,Zs ..,rfl,eo.made,λt2=>⟨rfl,?_⟩⟩;show af ?_;show me ?_;right;have tk:∀ nm:Str,nm = "what" \/ nm = "at" -> takerIn (c'.call fd29 29 L).K C nm=some none:=by
  intro nm hn;obtain ⟨_,h⟩:=x.toK;change takerIn c'.K C nm=_;rw [h];rcases hC with rfl | rfl<;>rcases hn with rfl | rfl<;>rfl
 show ⟨e,C,_,cy,rfl,Zs ..,eo,tk _ (.inl rfl),s!"k",s!"k",λd hd hde=>?_⟩;show af ?_;show lQ ?_;right;show ⟨e,C,d,_,cy,_,rfl,by rw [Zn (Ne.symm hde),Zs],Zs ..,eo,tk _ (.inr rfl),s!"k",s!"k",?_⟩;right;have hσd:U d=none:=by
  rw [Zn hde] at hd;rw [Zn hde] at hd;show hd
 show ⟨d,(#[.ref t,.none,.none,.none,.bool false,.none]:Array Value).setIfInBounds 0 (.ref t2),λy=>if y = "at" then some a else if y = "what" then some w else none,hσd,hde,?_,(Zv s!"d").trans (Zw rfl),Zw rfl,rfl,rfl,(by simp:2 < _)⟩;funext b;unfold AA.set;by_cases h1:b=d
 ·simp only [Zw h1]
 ·simp only [Zv h1];by_cases h2:b=e
  ·simp only [Zw h2]
  ·simp only [Zv h2]
theorem emk (C:Addr) (hC:C=64\/C=52) (x:AG c):Dm c C 29 fd29 (ic (subS 1 0)) where
 ecls:=by rcases hC with rfl | rfl;show lY x.toK;show i5 x.toK
 init:=by obtain ⟨_,h⟩:=x.toK;rw [h];rcases hC with rfl | rfl<;>rfl
 fn:=by obtain ⟨_,h⟩:=x.toK;rw [h];rfl
 fi:=fn29 x
 ok:=ok29
 hb:=rfl
 kinds:=s!"k"
 run c' L U e t w a h1 h2 h3 h4 _ he:=s7 C hC c' ⟨by rw [h2,h4];show x.K,by rw [h1,h2];show x.KG⟩ L U e t w a he
theorem bind1 (x:AG c) (w:AB):CK c fd29 [w] w (.int (-1)):=λe vs s r b=>by
 show ex2 r.two λv1 v2 h4z=>?_;show an3 h4z λh3z r1 r2=>?_;clear h4z;obtain rfl:=h3z;have X:=x.KG.keeps b;rw [x.K] at X;show ⟨[v1,v2,.int (-1) 202],.cons r1 (.cons r2 (.cons (.int _ _) .nil)),?_⟩;show kp_binds X λS=>by rfl
theorem bind2 (x:AG c) (w a:AB):CK c fd29 [w,a] w a:=λe vs s r b=>by
 cases r with
 | cons r0 r =>
 show ex2 r.two λv1 v2 h6z=>?_;show an3 h6z λh5z r1 r2=>?_;clear h6z;obtain rfl:=h5z;have X:=x.KG.keeps b;rw [x.K] at X;show ⟨_,.cons r0 (.cons r1 (.cons r2 .nil)),?_⟩;show kp_binds X λS=>by rfl
theorem g64 (x:AG c):nsIn c.K mainGlobals "StoreFault" = some (some (.ref 64)):=by rw [x.K];rfl
theorem g52 (x:AG c):nsIn c.K mainGlobals "NameFault" = some (some (.ref 52)):=by rw [x.K];rfl
theorem lr {t:Str} (x:AG c) (cm:c.calm=true) (lv:2<=c.lv) (l:AL V "StoreFault") (q:∀ fr,XS ⟨64,.str t,.int (-1),fr⟩ V U)
  (hstar:autoParam ((backTo pos (starEach [.Constant (.str t) k ps] c.env)).all (λx=>!x.1)=true) aU) :
  WS c V (.Raise (some (.Call (.Name "StoreFault" p) [.Constant (.str t) k ps] [] pos)) none p') U N R XS:=λs S =>
 i0 l (g64 x) (emk 64 (.inl rfl) x) lv (b8 (ev_str (cT ⟨rfl,.inl (S.ok.hd cm),(by simp:_<=5),.str t,.int (-1),trivial,trivial,bind1 x _,λfr _=>q fr⟩))) hstar s S
theorem pq {pn:Pos}{t:Str} (x:AG c) (cm:c.calm=true) (lv:2<=c.lv) (l:AL V "NameFault") (ln:Az V nm (.int i)) (q:XS ⟨52,.str t,.int i,true⟩ V U)
  (hstar:autoParam ((backTo pos (starEach [.Constant (.str t) k ps,.Name nm pn] c.env)).all (λx=>!x.1)=true) aU) :
  WS c V (.Raise (some (.Call (.Name "NameFault" p) [.Constant (.str t) k ps,.Name nm pn] [] pos)) none p') U N R XS:=λs S =>
 i0 l (g52 x) (emk 52 (.inr rfl) x) lv (b8 (ev_str (b8 (ev_name ln (cT ⟨rfl,.inl (S.ok.hd cm),(by simp:_<=5),.str t,.int i,trivial,trivial,bind2 x _ _,λfr h=>by rw [h cm];show q⟩))))) hstar s S
end
theorem sz {n:Nat} (h:n<=5000):n<=sizeLine:=Zt h s!"d"
theorem cJ {le:α->α->Prop} (anti:∀ a b,le a b->le b a->a=b):∀ {l r:List α},l.Perm r->l.Pairwise le->r.Pairwise le->l=r:=by
 intro l
 induction l with
 | nil =>
  intro r h _ _;show (List.nil_perm.mp h).symm
 | cons a l ih =>
  intro r h hl hr;cases r with
  | nil=>show absurd h.symm s!"s"
  | cons b r =>
   rw [List.pairwise_cons] at hl hr;have e:a=b:=by
    have ha:a∈b::r:=h.subset (EL ..);have hb:b∈a::l:=h.symm.subset (EL ..);rcases ZC ha with ha | ha
    ·show ha
    ·rcases ZC hb with hb | hb
     ·show hb.symm
     ·show anti _ _ (hl.1 b hb) (hr.1 a ha)
   subst e;rw [ih ((List.perm_cons a).mp h) hl.2 hr.2]
noncomputable def leS (a b:Str):Bool:=!Spec.ltCps b.cps.toList a.cps.toList
theorem iK {a b:Str}:leS a b=true↔a.cps.toList<=b.cps.toList:=by
 unfold leS;rw [ltCps_eq,Bool.not_eq_true',decide_eq_false_iff_not];show List.not_lt
theorem Str.ext' {a b:Str} (h:a.cps.toList=b.cps.toList):a=b:=by
 obtain ⟨a⟩:=a;obtain ⟨b⟩:=b;simpa using h
theorem kZ (a b c:Str) (h1:leS a b=true) (h2:leS b c=true):leS a c=true:=by
 rw [iK] at *;show List.le_trans h1 h2
theorem rq (a b:Str):(leS a b || leS b a)=true:=by
 rw [Bool.or_eq_true,iK,iK];show List.le_total _ _
theorem jx {a b:Str} (h1:leS a b=true) (h2:leS b a=true):a=b:=by
 rw [iK] at *;show Str.ext' (List.le_antisymm h1 h2)
theorem fv:∀ {l:List Str}{p:Str},risingS p l=true->(p::l).Pairwise (λa b=>leS a b=true):=by
 intro l
 induction l with
 | nil =>
  intro p _;simp
 | cons x r ih =>
  intro p h;unfold risingS at h;rw [Bool.and_eq_true] at h;have ih:=ih h.2;rw [List.pairwise_cons] at ih ⊢;show ⟨λy hy=>?_,List.pairwise_cons.mpr ih⟩;rcases ZC hy with rfl | hy
  ·show h.1
  ·show kZ _ _ _ h.1 (ih.1 y hy)
theorem fq:∀ {l:List Str},sortedS l=true->l.Pairwise (λa b=>leS a b=true)
 | [],_=>.nil
 | x::r,h=>fv h
noncomputable def aH (l:List Str):List Str:=l.mergeSort leS
theorem aw (l:List Str):(aH l).Perm l:=List.mergeSort_perm l leS
theorem dH (l:List Str):(aH l).Pairwise (λa b=>leS a b=true):=List.pairwise_mergeSort kZ rq l
theorem lW {l r:List Str} (h:r.Perm l) (hs:sortedS r=true):r=aH l :=
 cJ (le:=λa b=>leS a b=true) (λa b=>jx) (h.trans (aw l).symm) (fq hs) (dH l)
theorem ku {l r:List Str} (h:l.Perm r):aH l=aH r :=
 cJ (le:=λa b=>leS a b=true) (λa b=>jx) ((aw l).trans (h.trans (aw r).symm)) (dH l) (dH r)
theorem ik {l:List Str} (h:l.Pairwise (λa b=>leS a b=true)):aH l=l :=
 cJ (le:=λa b=>leS a b=true) (λa b=>jx) (aw l) (dH l) h
noncomputable def bh (l:List Int):List Int:=l.mergeSort (λa b=>decide (a<=b))
theorem aX (l:List Int):(bh l).Perm l:=List.mergeSort_perm l _
theorem jE (l:List Int):(bh l).Pairwise (·<=·):=by
 have:=List.pairwise_mergeSort (le:=λa b:Int=>decide (a<=b)) (λa b c h1 h2=>by simp at *;left) (λa b=>by simp;left) l;show this.imp λh=>by simpa using h
theorem gx {l r:List Int} (h:r.Perm l) (hs:r.Pairwise (·<=·)):r=bh l :=
 cJ (λa b h1 h2=>Int.le_antisymm h1 h2) (h.trans (aX l).symm) hs (jE l)
theorem ir {l:List Int} (h:l.Pairwise (·<=·)):bh l=l :=
 cJ (λa b h1 h2=>Int.le_antisymm h1 h2) (aX l) (jE l) h
section
variable {c:Cx}{V:List NV}{U:AA}{Q:AB->AA->Prop}{X:AC->AA->Prop}
theorem df (hl:U l=some (.list (ns.map .str))) (hz:ns.length < 64) (q:∀ D,U D=none->Q (.ref D) (U.set D (.list ((aH ns).map .str)))) :
  AM VR c V [.ref l] (λvs=>call (.builtin "sorted") vs) U Q X:=jt hl hz λns' h1 h2=>by rw [lW h1 h2];show q
theorem lO {ns:List Int} (hl:U l=some (.list (ns.map .int))) (hz:ns.length < 64) (q:∀ D,U D=none->Q (.ref D) (U.set D (.list ((bh ns).map .int)))) :
  AM VR c V [.ref l] (λvs=>call (.builtin "sorted") vs) U Q X:=jm hl hz λns' h1 h2=>by rw [gx h1 h2];show q
theorem s9 {ns:List Int} (hz:ns.length < 64) (q:∀ D,U D=none->Q (.ref D) (U.set D (.list ((bh ns).map .int)))) :
  AM VR c V [.tup (ns.map .int)] (λvs=>call (.builtin "sorted") vs) U Q X:=kc hz λns' h1 h2=>by rw [gx h1 h2];show q
theorem be {a:Addr}{n:Nat}{y:AB} (ha:U a=some (.list xs)) (hn:n < 4611686018427387904) (hx:xs[n]?=some y) (q:Q y U):A3 c V (.ref a) (.int (n:Int)) U Q X :=
 eO ha (Int.natCast_nonneg _) s!"o" (by simpa using hx) q
theorem u8 (n m:Nat):Int.fdiv ((n:Int)+m) 2=(((n+m) / 2:Nat):Int):=by
 rw [Int.fdiv_eq_ediv_of_nonneg _ s!"d"];simp
end
noncomputable def sysFlags:List Str:=["\\Seen", "\\Answered", "\\Flagged", "\\Deleted", "\\Draft"]
noncomputable def cw (d:Nat):Bool:=decide (32 < (d:Int)) && decide ((d:Int) < 127) && (Builtin.Str.occurrences "(){ %*\"\\]" ⟨#[d]⟩ 0 ("(){ %*\"\\]" : Str).length 1).isEmpty
noncomputable def cv (x:Str):Bool:=decide (1<=(x.length:Int)) && decide ((x.length:Int)<=60) && x.cps.toList.all cw
noncomputable def aK (x:Str):Option Str:=match sysFlags.find? (λn=>Txt.lower x == Txt.lower n) with
 | some n=>some n
 | none=>if cv x then some x else none
variable {c:Cx}{V:List NV}{U:AA}{Q:AB->AA->Prop}{X:AC->AA->Prop}
theorem iC (x:AG c) (lv:1<=c.lv) (k:∀ U' D,Le U U'->U' D=some (.list (sysFlags.map .str))->Q (.ref D) U'):AM VR c V [] (λvs=>call (.ref 73) vs) U Q X:=by
 show ag f73 x s!"o" s!"r" rfl s!"r" λLA=>?_;walk_at "s1";walk_at "e";show ⟨gI,?_⟩;walk_at "e";show eP s!"k" s!"k" s!"k" λD hD=>?_;rw [show Txt.split ("\\Seen \\Answered \\Flagged \\Deleted \\Draft" : Str) (" " : Str)=sysFlags from s!"k"];show fresh hD λU' l h=>k U' D l h
theorem j0 {t:Str} (x:AG c) (cm:c.calm=true) (lv:1<=c.lv) (hz:t.length<=1000) (k:Q (.bool (cv t)) U):AM VR c V [.str t] (λvs=>call (.ref 80) vs) U Q X:=by
 show ag f80 x s!"o" s!"r" rfl s!"r" λLA=>?_;walk_at "s1";walk_at "e";show ah (λh1=>?_) (λh1=>?_)
 ·walk_at "e";show ah (λh2=>?_) (λh2=>?_)
  ·rw [Bool.not_eq_true'] at h2;walk_at "s1";walk_at "e";have e:cv t=false:=by unfold cv;rw [h2];simp
   rw [e] at k;show k
  rw [Bool.not_eq_false'] at h2;walk_at "s1";show af ?_;have e:cv t=t.cps.toList.all cw:=by unfold cv;rw [h1,h2];simp
  rw [e] at k;show bu (α:=Nat) (λd=>.str ⟨#[d]⟩) rfl ?_;walk_at "e"
  let J1:=λ(ds:List Nat) (V':List NV) (U':AA)=>∃ v,V'=[⟨"text",.local,some (.str t)⟩,⟨"sign",.local,v⟩,.gl "len",.gl "MOST_KEYWORD",.gl "ord",.gl "NO_KEYWORD"]/\U'=U/\t.cps.toList.all cw=ds.all cw
  show ⟨t.cps.toList,_,J1,sB,⟨_,rfl,rfl,rfl⟩,λ_ _ _ _=>trivial,?_,?_⟩
  ·intro d ds V1 U1 r1z;obtain ⟨w⟩|⟨rfl,rfl,he⟩:=r1z;show aB rfl (ac s!"r" ?_);have bad:cw d=false->∀ NN,Al (c.call fd80 80 LA) [⟨"text",.local,some (.str t)⟩,⟨"sign",.local,some (.str ⟨#[d]⟩)⟩,.gl "len",.gl "MOST_KEYWORD",.gl "ord",.gl "NO_KEYWORD"] [.Return (some (.Constant (.bool false) 0 ⟨26,19,26,24⟩)) ⟨26,12,26,24⟩] U1 NN Q (λx _ U'=>X x U'):=λhb NN=>by
    walk_at "s1";walk_at "e";rw [he,Ef,hb,Bool.false_and] at k;show k
   walk_at "s1";walk_at "e";show ah (λa1=>?_) (λa1=>?_)
   ·walk_at "e";show ah (λa2=>?_) (λa2=>?_)
    ·show bad ?_ _;unfold cw;rw [Bool.not_eq_true'] at a2;rw [a2];simp
    ·walk_at "e";show ah (λa3=>?_) (λa3=>?_)
     ·show bad ?_ _;unfold cw;rw [Bool.not_eq_true'] at a3;rw [a3];simp
     ·right;rw [Bool.not_eq_false'] at a2;rw [Bool.not_eq_false'] at a3;show AK.of Zr ⟨_,rfl,rfl,?_⟩;rw [he,Ef];unfold cw;rw [a1,a2,a3];rfl
   ·walk_at "e";show bad ?_ _;unfold cw;rw [a1];rfl
  ·intro V1 U1 r2z;obtain ⟨w⟩|⟨rfl,rfl,he⟩:=r2z;walk_at "s1";walk_at "e";rw [he] at k;show k
 ·walk_at "e";walk_at "s1";walk_at "e";have e:cv t=false:=by unfold cv;rw [h1];simp
  rw [e] at k;show k
theorem mF {t:Str} (x:AG c) (cm:c.calm=true) (lv:4<=c.lv) (hz:t.length<=1000) (k:∀ n,aK t=some n->Q (.str n) U) (kx:aK t=none->∀ fr,X ⟨64,.str "no flag",.int (-1),fr⟩ U):AM VR c V [.str t] (λvs=>call (.ref 87) vs) U Q X:=by
 show AM.tidyX ?_;show ag f87 x s!"o" s!"r" rfl s!"r" λLA=>?_;show af ?_;show bu (α:=Str) .str rfl ?_;walk_at "e";show iC s!"lib" s!"lv" λU' D l hD=>?_
 let J2:=λ(ns:List Str) (V':List NV) (U':AA)=>∃ v,V'=[⟨"text",.local,some (.str t)⟩,⟨"name",.local,v⟩,.gl "system_flags",.gl "is_keyword",.gl "StoreFault"]/\Le U U'/\U' D=some (.list (sysFlags.map .str))/\(∀ n∈ns,n.length<=100)/\sysFlags.find? (λn=>Txt.lower t == Txt.lower n)=ns.find? (λn=>Txt.lower t == Txt.lower n)
 show ⟨sysFlags,_,J2,ar hD,⟨_,rfl,l,hD,s!"k",rfl⟩,λ_ _ _ z=>by obtain ⟨_,_,_,h,_⟩:=z;show h,?_,?_⟩
 ·intro n ns V1 U1 r3z;obtain ⟨v⟩|⟨rfl,l,hD,hl,he⟩:=r3z;show aB rfl (ac s!"r" ?_);have hn:n.length<=5592405:=Zt (hl n Zh) s!"d";right;show ⟨gI,?_⟩;right;show jR s!"o" ?_;right;show ⟨gI,?_⟩;right;show jR hn ?_;right;show ah (λh=>?_) (λh=>?_)
  ·right;show AK.of l (k n ?_);unfold aK;simp [he,Eg,h]
  ·right;show AK.of Zr ⟨_,rfl,l,hD,λm hm=>hl m (.tail _ hm),?_⟩;simp [he,Eg,h]
 ·intro V1 U1 r4z;obtain ⟨v⟩|⟨rfl,l,hD,hl,he⟩:=r4z;right;show j0 s!"lib" cm s!"lv" hz ?_;right;show ah (λh=>?_) (λh=>?_)
  ·rw [Bool.not_eq_true'] at h;right;show λfr=>⟨U,l,kx ?_ fr⟩
   unfold aK;rw [he];simp [h]
  ·right;show AK.of l (k t ?_);unfold aK;rw [he];rw [Bool.not_eq_false'] at h;simp [h]
theorem Le.setNew {U:AA}{o:AY} (h:Le U U') (n:U l=none):Le U (U'.set l o):=λa ob e=>by
 have hne:a≠l:=by rintro rfl;rw [n] at e;cases e
 rw [Zn hne];show h a ob e
noncomputable def aR (acc:List Str) (n:Str):List Str:=if acc.any (· == n) then acc else acc++[n]
noncomputable def aY:List Str->List Str->Option (List Str)
 | acc,[]=>some acc
 | acc,t::ts=>(aK t).bind λn=>aY (aR acc n) ts
theorem k7 :aY acc []=some acc:=rfl
theorem fo {t:Str}:aY acc (t::ts)=(aK t).bind λn=>aY (aR acc n) ts:=rfl
noncomputable def ae (ts:List Str):Option (List Str):=(aY [] ts).map aH
theorem cb (x:AG c) (cm:c.calm=true) (lv:6<=c.lv) (hz:∀ t∈ts,t.length<=1000) (hl:ts.length < 64) (k:∀ ns,ae ts=some ns->Q (.tup (ns.map .str)) U) (kx:ae ts=none->∀ fr,X ⟨64,.str "no flag",.int (-1),fr⟩ U):AM VR c V [.tup (ts.map .str)] (λvs=>call (.ref 94) vs) U Q X:=by
 show AM.tidyX ?_;show ag f94 x s!"o" s!"r" rfl s!"r" λLA=>?_;right;show ⟨s!"d",λD hD=>(ac s!"r" ?_)⟩;show af ?_;show bu (α:=Str) .str rfl ?_;right
 let J3:=λ(r:List Str) (V':List NV) (U':AA)=>∃ v w acc,V'=[⟨"flags",.local,some (.tup (ts.map .str))⟩,⟨"found",.local,some (.ref D)⟩,⟨"text",.local,v⟩,⟨"name",.local,w⟩,.gl "flag_name",.gl "tuple",.gl "sorted"]/\Le U U'/\U' D=some (.list (acc.map .str))/\aY [] ts=aY acc r/\acc.length+r.length < 64/\(∀ t∈r,t.length<=1000)
 show ⟨ts,_,J3,
  dR,(ei3 _ _ ([]) (ai6 rfl (Zl hD) (Zs ..) rfl (by simpa using hl) hz)),λ_ _ _ _=>trivial,?_,?_⟩
 ·intro t r V1 U1 r5z;obtain ⟨v,w,acc⟩|⟨rfl,l,hl,he,hlen,hz⟩:=r5z;show aB rfl (ac s!"r" ?_);right;show mF s!"lib" cm s!"lv" (hz t Zh) (λn hn=>?_) (λhn fr=>?_)
  ·show ac s!"r" ?_;right;have e':aY [] ts=aY (aR acc n) r:=by rw [he];change (aK t).bind _=_;rw [hn];rfl
   show ah (λh=>?_) (λh=>?_)
   ·right;show ⟨cK hl,?_⟩;right;show ct hl (sz (by simp only [EQ,EF] at *;left)) ?_;right;rw [Bool.not_eq_true'] at h;show AK.of Zr (ei3 _ _ (acc++[n]) (ai6 rfl (l.setNew hD) (by rw [Zs,Eh];rfl) ?_ (by simp only [EG,EF,EH] at *;left) (λt ht=>hz t (.tail _ ht))));rw [e'];unfold aR;rw [h];rfl
   ·right;rw [Bool.not_eq_false'] at h;show AK.of Zr (ei3 _ _ acc (ai6 rfl l hl ?_ (by simp only [EF] at *;left) (λt ht=>hz t (.tail _ ht))));rw [e'];unfold aR;rw [h];rfl
  ·show ⟨U,l,kx ?_ fr⟩;unfold ae;rw [he,fo,hn];rfl
 ·intro V1 U1 r6z;obtain ⟨v,w,acc⟩|⟨rfl,l,hl,he,hlen,hz⟩:=r6z;right;show df hl (by simpa using hlen) λD2 hD2=>?_;right;show aq (Zs ..) (sz (by rw [EQ,(aw acc).length_eq];simp at hlen;left)) ?_;show AK.of (l.trans (Zl hD2)) (k _ ?_);unfold ae;rw [he];rfl
theorem Aa.kinds' {a:Addr}{n:Nat} (F:Aa fd a n):∀ y∈fd.scope.names.take n,y.2=.local\/y.2=.cell:=λy hy=>by
 have:=List.all_eq_true.mp F.kinds y hy;rw [Bool.or_eq_true] at this;show this.imp eq_of_beq eq_of_beq
section
variable {c:Cx}{V:List NV}{U U1 Y:AA}{Q:AB->AA->Prop}{X:AC->AA->Prop}{N:List NV->AA->Prop}{R:AB->AA->Prop}{XS:AC->List NV->AA->Prop}
structure Ap (U Y:AA) (o d C:Addr) (ns:List Str) (m:Str->Option AB):Prop where
 le:Le U Y
 fx:Y o=some (.inst C d)
 fd:Y d=some (.attrs ns m)
 nx:U o=none
 nd:U d=none
theorem nZ {f:Addr->Option AY}{a:Addr}{o:AY} (h:f a=some o) (g:f b=none):b≠a:=λe=>by rw [e,h] at g;cases g
theorem none_of {l:Le U Y}{a:Addr} (h:Y a=none):U a=none:=by
 cases z:U a with
 | none=>rfl
 | some ob=>rw [l _ _ z] at h;cases h
theorem Ap.more {o:Addr}{m:Str->Option AB} (h:Ap U Y o d C ns m) (l:Le Y U'):Ap U U' o d C ns m:=⟨h.le.trans l,l _ _ h.fx,l _ _ h.fd,h.nx,h.nd⟩
theorem Ap.upd {o:Addr}{m m':Str->Option AB} (h:Ap U Y o d C ns m):Ap U (Y.set d (.attrs ns m')) o d C ns m' :=
 ⟨h.le.setNew h.nd,(by
  have hne:o≠d:=λe=>by have:=h.fx;rw [e,h.fd] at this;cases this
  rw [Zn hne];show h.fx),Zs ..,h.nx,h.nd⟩
theorem Ap.start {o:Addr} (hx:U o=none) (hd:U d=none) (hne:o≠d):Ap U ((U.set d (.attrs ns λ_=>none)).set o (.inst C d)) o d C ns (λ_=>none) :=
 ⟨(Zl hd).setNew hx,Zs ..,by rw [Zn (Ne.symm hne),Zs],hx,hd⟩
inductive Da (c:Cx) (V:List NV) (U:AA) (nm:Str) (N:List NV->AA->Prop) (v a:AB) (Y2:AA):Prop
 | mk (o d C:Addr) (ns:List Str) (m:Str->Option AB) (ha:a=.ref o) (h:Ap U Y2 o d C ns m) (h1:BF c.K C) (h2:takerIn c.K C nm=some none) (h3:nm∈ns) (h4:ns.length<=1000)
   (q:∀ Y',Ap U Y' o d C ns (λy=>if y=nm then some v else m y)->Fr [d] Y2 Y'->N V Y')
abbrev D8 (c:Cx) (V:List NV) (U:AA) (nm:Str) (N:List NV->AA->Prop) (e:Expr) (XS:AC->List NV->AA->Prop) (v:AB) (Y1:AA):Prop:=Ev c V e Y1 (Da c V U nm N v) (Av XS V)
theorem cq {e value:Expr} (g:Ev c V value Y (D8 c V U nm N e XS) (Av XS V))
  (hs:autoParam (swapsWith value (some (.Attribute e nm pa)) p.line c.env=pure false) aU):WS c V (.Assign [.Attribute e nm pa] value p) Y N R XS :=
 bT (g.mono (λv Y1 z=>z.mono (λa Y2 z=>by
  obtain ⟨o,d,C,ns,m,rfl,h,h1,h2,h3,h4,q⟩:=z;show ⟨o,C,ns,m,rfl,⟨d,h.fx,h.fd⟩,h1,h2,h3,h4,λd' e=>?_⟩;rw [h.fx] at e;cases e
  show q _ h.upd (Fr.refl.set Zh)) λ_ _ z=>z) λ_ _ z=>z) hs
theorem uW (x:AG c):nsIn c.K mainGlobals "Letter" = some (some (.ref 125)):=by rw [x.K];rfl
theorem u0 (x:AG c):nsIn c.K mainGlobals "Box" = some (some (.ref 163)):=by rw [x.K];rfl
theorem uP (x:AG c):nsIn c.K mainGlobals "Store" = some (some (.ref 340)):=by rw [x.K];rfl
theorem uO (x:AZ K)  (h:nm∈letterNs):takerIn K 125 nm=some none:=by
 obtain ⟨_,rfl⟩:=x;simp only [letterNs,EC,Ed,or_false] at h;rcases h with rfl | rfl | rfl | rfl | rfl<;>rfl
theorem t8 (x:AZ K)  (h:nm∈boxNs):takerIn K 163 nm=some none:=by
 obtain ⟨_,rfl⟩:=x;simp only [boxNs,EC,Ed,or_false] at h;rcases h with rfl | rfl | rfl | rfl | rfl | rfl | rfl<;>rfl
theorem u2 (x:AZ K)  (h:nm∈storeNs):takerIn K 340 nm=some none:=by
 obtain ⟨_,rfl⟩:=x;simp only [storeNs,EC,Ed,or_false] at h;rcases h with rfl | rfl | rfl<;>rfl
theorem rM {p:Str × AB}:∀ {l:List (Str × AB)},updL (l++[p]) y=(updL l y).or (if y=p.1 then some p.2 else none):=by
 intro l
 induction l with
 | nil=>rfl
 | cons q l ih =>
  rw [Ei,gT,gT];by_cases z:y=q.1
  ·rw [Zw z,Zw z];rfl
  ·rw [Zv z,Zv z];show ih
theorem jL:∀ {l:List (Str × AB)},(l.map (·.1)).Nodup->updL l.reverse=updL l:=by
 intro l
 induction l with
 | nil=>show λ_=>rfl
 | cons p l ih =>
  intro h;rw [E5,E6] at h;funext y;rw [List.reverse_cons,rM,ih h.2];by_cases z:y=p.1
  ·rw [rA (z ▸ h.1)];show (Zw z).trans (Zw z).symm
  ·rw [Zv z,Option.or_none];show (Zv z).symm
inductive Cs (Q:AB->AA->Prop) (as:List AB) (U1:AA):Prop
 | mk (L:AV) (e:as=[.int L.uid,L.oct,.tup (L.flags.map .str),.int L.instant,.int L.modseq]) (k:∀ U' y,Le U1 U'->AX U' y L->Q (.ref y) U')
inductive Cu (Q:AB->AA->Prop) (as:List AB) (U1:AA):Prop
 | mk (nm:Str) (v:Int) (e:as=[.str nm,.int v]) (k:∀ U' A,Le U1 U'->AD U' A ⟨nm,v,1,1,0,[],[]⟩->U1 A.x=none->U1 A.d=none->U1 A.l=none->U1 A.g=none->Q (.ref A.x) U')
theorem ec_Letter (x:AG c) (lv:3<=c.lv) (l:AL V "Letter")
  (g:Ay c V pos es U (Cs Q) X)
  (hstar:autoParam ((backTo pos (starEach es c.env)).all (λx=>!x.1)=true) aU):Ev c V (.Call (.Name "Letter" p) es [] pos) U Q X:=by
 show ev_make (ns:=letterNs) l (uW x) (u5 x) s!"o" (f108.fi x) f108.ok rfl (g.mono (λas U1 z=>?_) λ_ _ z=>z) hstar;obtain ⟨L,rfl,k⟩:=z;show ⟨λy hy=>f108.kinds' y hy,λvs s hl _=>f108.bind vs s hl,λL' rest o d ho hd hne=>?_⟩;have h:=Ap.start (U:=U1) (o:=o) (d:=d) (C:=125) (ns:=letterNs) ho hd hne;generalize ((U1.set d (.attrs letterNs λ_=>none)).set o (.inst 125 d))=Y at h ⊢;change Al _ [⟨"self",.local,some (.ref o)⟩,⟨"uid",.local,some (.int L.uid)⟩,⟨"octets",.local,some L.oct⟩,⟨"flags",.local,some (.tup (L.flags.map .str))⟩,⟨"instant",.local,some (.int L.instant)⟩,⟨"modseq",.local,some (.int L.modseq)⟩,.gl "tuple"] (_::_) _ _ _ _;have ck:∀ {nm:Str},nm∈letterNs->takerIn ((c.mk' 125 rest).call fd108 108 L').K 125 nm=some none:=λh=>uO x.toK h;show af (cq (U:=U1) ?_);right;show ⟨o,d,125,letterNs,_,rfl,h,cZ x.toK,ck s!"k",s!"k",s!"k",λY' h _=>?_⟩;show af (cq (U:=U1) ?_);right;show ⟨o,d,125,letterNs,_,rfl,h,cZ x.toK,ck s!"k",s!"k",s!"k",λY' h _=>?_⟩;show af (cq (U:=U1) ?_);right;show jh ?_;right;show ⟨o,d,125,letterNs,_,rfl,h,cZ x.toK,ck s!"k",s!"k",s!"k",λY' h _=>?_⟩;show af (cq (U:=U1) ?_);right;show ⟨o,d,125,letterNs,_,rfl,h,cZ x.toK,ck s!"k",s!"k",s!"k",λY' h _=>?_⟩;show af (cq (U:=U1) ?_);right;show ⟨o,d,125,letterNs,_,rfl,h,cZ x.toK,ck s!"k",s!"k",s!"k",λY' h _=>?_⟩;right;show k _ _ h.le ⟨d,h.fx,?_⟩;show h.fd.trans (congrArg (λm=>some (AY.attrs letterNs m)) (jL (l:=[("uid",.int L.uid),("octets",L.oct),("flags",.tup (L.flags.map .str)),("instant",.int L.instant),("modseq",.int L.modseq)]) (show letterNs.Nodup from s!"k")))
theorem ec_Box (x:AG c) (lv:3<=c.lv) (l:AL V "Box")
  (g:Ay c V pos es U (Cu Q) X)
  (hstar:autoParam ((backTo pos (starEach es c.env)).all (λx=>!x.1)=true) aU):Ev c V (.Call (.Name "Box" p) es [] pos) U Q X:=by
 show ev_make (ns:=boxNs) l (u0 x) (uU x) s!"o" (f143.fi x) f143.ok rfl (g.mono (λas U1 z=>?_) λ_ _ z=>z) hstar;obtain ⟨nm,v,rfl,k⟩:=z;show ⟨λy hy=>f143.kinds' y hy,λvs s hl _=>f143.bind vs s hl,λL' rest o d ho hd hne=>?_⟩;have h:=Ap.start (U:=U1) (o:=o) (d:=d) (C:=163) (ns:=boxNs) ho hd hne;generalize ((U1.set d (.attrs boxNs λ_=>none)).set o (.inst 163 d))=Y at h ⊢;change Al _ [⟨"self",.local,some (.ref o)⟩,⟨"name",.local,some (.str nm)⟩,⟨"validity",.local,some (.int v)⟩] (_::_) _ _ _ _;have ck:∀ {nm:Str},nm∈boxNs->takerIn ((c.mk' 163 rest).call fd143 143 L').K 163 nm=some none:=λh=>t8 x.toK h;show af (cq (U:=U1) ?_);right;show ⟨o,d,163,boxNs,_,rfl,h,bC x.toK,ck s!"k",s!"k",s!"k",λY' h _=>?_⟩;show af (cq (U:=U1) ?_);right;show ⟨o,d,163,boxNs,_,rfl,h,bC x.toK,ck s!"k",s!"k",s!"k",λY' h _=>?_⟩;show af (cq (U:=U1) ?_);right;show ⟨o,d,163,boxNs,_,rfl,h,bC x.toK,ck s!"k",s!"k",s!"k",λY' h _=>?_⟩;show af (cq (U:=U1) ?_);right;show ⟨o,d,163,boxNs,_,rfl,h,bC x.toK,ck s!"k",s!"k",s!"k",λY' h _=>?_⟩;show af (cq (U:=U1) ?_);right;show ⟨o,d,163,boxNs,_,rfl,h,bC x.toK,ck s!"k",s!"k",s!"k",λY' h _=>?_⟩;show af (cq (U:=U1) ?_);right;show ⟨s!"d",λD hD=>?_⟩;right;have hl1:U1 D=none:=none_of (l:=h.le) hD;have hDd:D≠d:=nZ h.fd hD;show ⟨o,d,163,boxNs,_,rfl,h.more (Zl hD),bC x.toK,ck s!"k",s!"k",s!"k",λY2 h f2=>?_⟩;have hL:Y2 D=some (.list []):=f2 _ _ (Zs ..) (by simpa using hDd)
 show af (cq (U:=U1) ?_);right;show ⟨s!"d",λG hG=>?_⟩;right;have hl2:U1 G=none:=none_of (l:=h.le) hG;have hGd:G≠d:=nZ h.fd hG;have hDG:D≠G:=(nZ hL hG).symm;show ⟨o,d,163,boxNs,_,rfl,h.more (Zl hG),bC x.toK,ck s!"k",s!"k",s!"k",λY3 h f3=>?_⟩;have hL3:Y3 D=some (.list []):=f3 _ _ (by rw [Zn hDG];show hL) (by simpa using hDd);have hG3:Y3 G=some (.list []):=f3 _ _ (Zs ..) (by simpa using hGd);right;show k _ ⟨o,d,D,G⟩ h.le ⟨h.fx,?_,⟨[],hL3,.nil⟩,hG3,hDG⟩ ho hd hl1 hl2;show h.fd.trans (congrArg (λm=>some (AY.attrs boxNs m)) (jL (l:=[("name",.str nm),("validity",.int v),("next_uid",.int 1),("top",.int 1),("floor",.int 0),("letters",.ref D),("gone",.ref G)]) (show boxNs.Nodup from s!"k")))
end
section
variable {c:Cx}{V:List NV}{U U1 Y:AA}{Q:AB->AA->Prop}{X:AC->AA->Prop}
theorem AN.get {xs:List Addr} (h:AN U xs Ls):∀ {i:Nat}{L:AV},Ls[i]?=some L->∃ a,xs[i]?=some a/\AX U a L:=by
 induction h with
 | nil=>intro i L e;simp at e
 | cons x _ ih =>
  intro i L e;cases i with
  | zero=>simp at e;subst e;show ⟨_,rfl,x⟩
  | succ i=>simp at e;show ex1 (ih e) λa h1z=>?_;show an2 h1z λh1 h2=>?_;clear h1z;show ⟨a,by simpa using h1,h2⟩
theorem AN.len {xs:List Addr} (h:AN U xs Ls):xs.length=Ls.length:=by
 induction h with
 | nil=>rfl
 | cons _ _ ih=>simp [ih]
def BM (Ls:List AV):Prop:=Ls.Pairwise (λa b=>a.uid < b.uid)
theorem BM.lt (h:BM Ls) {i j:Nat}{a b:AV} (hi:Ls[i]?=some a) (hj:Ls[j]?=some b) (hij:i < j):a.uid < b.uid:=by
 obtain ⟨h1,rfl⟩:=List.getElem?_eq_some_iff.mp hi;obtain ⟨h2,rfl⟩:=List.getElem?_eq_some_iff.mp hj;show List.pairwise_iff_getElem.mp h i j h1 h2 hij
theorem uJ (h:lo < hi):(lo+hi) / 2 < hi:=Nat.div_lt_of_lt_mul (by rw [Nat.two_mul];show Nat.add_lt_add_right h hi)
theorem uv (h:lo < hi):lo<=(lo+hi) / 2:=(Nat.le_div_iff_mul_le s!"d").mpr (by rw [Nat.mul_two];show Nat.add_le_add_left (Nat.le_of_lt h) lo)
theorem eF {xs:List Addr} (x:AG c) (cm:c.calm=true) (lv:1<=c.lv) (hl:U l=some (.list (xs.map .ref))) (hL:AN U xs Ls) (hz:Ls.length<=1000) (ha:BM Ls)
  (k:∀ (i:Nat) L,Ls[i]?=some L->L.uid=u->Q (.int i) U) (kn:(∀ L∈Ls,L.uid≠u)->Q (.int (-1)) U):AM VR c V [.ref l,.int u] (λvs=>call (.ref 179) vs) U Q X:=by
 have hlen:=hL.len;show ag f179 x s!"o" s!"r" rfl s!"r" λLA=>?_;show af ?_;show iS rfl ?_;right;show bI hl (by simp;left) ?_;right;show ⟨(by simp [sizeLine]:_<=sizeLine),_,_,_,_,rfl,s!"put",s!"put",?_⟩;show af ?_;rw [EQ]
 show sX rfl (λn V' U'=>∃ lo hi m,U'=U/\V'=[⟨"letters",.local,some (.ref l)⟩,⟨"uid",.local,some (.int u)⟩,⟨"low",.local,some (.int (lo:Nat))⟩,⟨"high",.local,some (.int (hi:Nat))⟩,⟨"middle",.local,m⟩,.gl "len"]/\lo<=hi/\hi<=Ls.length/\n=hi - lo /\
  (∀ i L,i < lo->Ls[i]?=some L->L.uid < u)/\∀ i L,hi<=i->Ls[i]?=some L->u<=L.uid) Ls.length ?_ ?_
 ·show ⟨0,Ls.length,none,rfl,by rw [hlen];rfl,Nat.zero_le _,Nat.le_refl _,rfl,λi L h=>s!"o",λi L h e=>by rw [EN h] at e;cases e⟩
 ·intro n V1 U1 r1z;obtain ⟨lo,hi,m⟩|⟨rfl,rfl,h1,h2,rfl,h3,h4⟩:=r1z;right;show ah (λh=>?_) (λh=>?_)
  ·have hlt:lo < hi:=by simpa using h
   have hm2:(lo+hi) / 2 < hi:=uJ hlt;have hm1:lo<=(lo+hi) / 2:=uv hlt;obtain ⟨Lm,eLm⟩:∃ Lm,Ls[(lo+hi) / 2]?=some Lm:=⟨_,EW (Nat.lt_of_lt_of_le hm2 h2)⟩
   obtain ⟨am⟩|⟨eam,hLm⟩:=(hL.get eLm)
   right;rw [u8];show ac s!"r" ?_;right;show be (n:=(lo+hi) / 2) hl s!"o" (y:=.ref am) (by rw [ER,eam];rfl) ?_;show ⟨am,Lm,rfl,hLm,?_⟩;right;show ah (λh5=>?_) (λh5=>?_)
   ·right;show ac s!"r" ?_;right;have h5:Lm.uid < u:=by simpa using h5
    show ⟨hi - ((lo+hi) / 2+1),Nat.sub_lt_sub_left hlt (Nat.lt_succ_of_le hm1),(lo+hi) / 2+1,hi,_,rfl,rfl,hm2,h2,rfl,λi L hi' eL=>?_,h4⟩;by_cases z:i=(lo+hi) / 2
    ·subst z;rw [eLm] at eL;cases eL;show h5
    ·show Int.lt_trans (ha.lt eL eLm s!"o") h5
   ·right;show ac s!"r" ?_;right;have h5:u<=Lm.uid:=by simpa using h5
    show ⟨(lo+hi) / 2 - lo,Nat.sub_lt_sub_right hm1 hm2,lo,(lo+hi) / 2,_,rfl,rfl,hm1,Zt (Nat.le_of_lt hm2) h2,rfl,h3,λi L hi' eL=>?_⟩;by_cases z:i=(lo+hi) / 2
    ·subst z;rw [eLm] at eL;cases eL;show h5
    ·show Int.le_of_lt (Int.lt_of_le_of_lt h5 (ha.lt eLm eL s!"o"))
  ·have hge:lo=hi:=by
    have:¬ lo < hi:=by simpa using h
    left
   subst hge;right;show bI hl (by simp;left) ?_;right;rw [EQ];have none_case:(∀ L,Ls[lo]?=some L->L.uid≠u)->Q (.int (-1)) U1:=λhh=>kn λL hL' e=>by
    obtain ⟨i,hi⟩:=List.mem_iff_getElem?.mp hL';rcases Nat.lt_trichotomy i lo with z | z | z
    ·have:=h3 i L z hi;left
    ·subst z;show hh L hi e
    ·obtain ⟨L2,e2⟩:∃ L2,Ls[lo]?=some L2:=⟨_,EW (by have:=(List.getElem?_eq_some_iff.mp hi).1;left)⟩
     have a1:=h4 lo L2 (Nat.le_refl _) e2;have a2:=ha.lt e2 hi z;left
   show ah (λh6=>?_) (λh6=>?_)
   ·have hlo:lo < Ls.length:=by
     have:lo < xs.length:=by simpa using h6
     left
    obtain ⟨Lm,eLm⟩:∃ Lm,Ls[lo]?=some Lm:=⟨_,EW hlo⟩
    obtain ⟨am⟩|⟨eam,hLm⟩:=(hL.get eLm)
    right;show be (n:=lo) hl s!"o" (y:=.ref am) (by rw [ER,eam];rfl) ?_;show ⟨am,Lm,rfl,hLm,?_⟩;right;show ah (λh7=>?_) (λh7=>?_)
    ·right;show k lo Lm eLm (by simpa using h7)
    ·right;show none_case λL e=>?_;rw [eLm] at e;cases e;simpa using h7
   ·right;show none_case λL e=>?_;have:=(List.getElem?_eq_some_iff.mp e).1;show absurd this (by have:xs.length<=lo:=(by simpa using h6);left)
end
section
variable {c:Cx}{V:List NV}{U U1 Y:AA}{Q:AB->AA->Prop}{X:AC->AA->Prop}
theorem cY:∀ {xs:List Addr}{Ls:List AV},xs.length=Ls.length->(xs.zip Ls).map (λp=>AB.ref p.1)=xs.map .ref
 | [],[],_=>rfl
 | x::xs,L::Ls,h=>by simp only [EI,E5];rw [cY (by simpa using h)]
 | [],_::_,h=>by simp at h
 | _::_,[],h=>by simp at h
theorem AN.zipMem {xs:List Addr} (h:AN U xs Ls):∀ p∈xs.zip Ls,AX U p.1 p.2:=by
 induction h with
 | nil=>intro p hp;simp at hp
 | cons x _ ih =>
  intro p hp;rw [EI] at hp;rcases ZC hp with rfl | hp
  ·show x
  ·show ih p hp
theorem AN.zip_snd {xs:List Addr} (h:AN U xs Ls):(xs.zip Ls).map (·.2)=Ls:=by
 induction h with
 | nil=>rfl
 | cons _ _ ih=>simp [ih]
theorem AN.filt (p:AV->Bool) {xs:List Addr} (h:AN U xs Ls):∃ ys,((xs.zip Ls).filter (λq=>p q.2)).map (λq=>AB.ref q.1)=ys.map .ref/\AN U ys (Ls.filter p):=by
 induction h with
 | nil=>show ⟨[],rfl,.nil⟩
 | @cons a L as Ls x _ ih =>
  obtain ⟨ys⟩|⟨h1,h2⟩:=ih;simp only [EI,EP];split
  ·show ⟨a::ys,by simp [h1],.cons x h2⟩
  ·show ⟨ys,h1,h2⟩
theorem ib (x:AG c) (lv:1<=c.lv) (hB:AD U A B) (k:∀ U',AD U' A { B with top:=B.top+1 }->Fr [A.d] U U'->Q (.int (B.top+1)) U'):AM VR c V [.ref A.x] (λvs=>call (.ref 186) vs) U Q X:=by
 show ag f186 x s!"o" s!"r" rfl s!"r" λLA=>?_;right;show ⟨_,_,_,rfl,rfl,hB,λU' h1 f1=>?_⟩;right;show k U' h1 f1
theorem kP (x:AG c) (cm:c.calm=true) (lv:3<=c.lv) (hB:AD U A B) (hz:B.letters.length<=1000) (ha:BM B.letters)
  (k:∀ (i:Nat) L a,B.letters[i]?=some L->L.uid=u->AX U a L->Q (.ref a) U) (kn:(∀ L∈B.letters,L.uid≠u)->Q .none U):AM VR c V [.ref A.x,.int u] (λvs=>call (.ref 150) vs) U Q X:=by
 show ex1 hB.l λxs h2z=>?_;show an2 h2z λhl hL=>?_;clear h2z;show ag f150 x s!"o" s!"r" rfl s!"r" λLA=>?_;right;show eF s!"lib" cm s!"lv" hl hL hz ha (λi L e1 e2=>?_) (λhn=>?_)
 ·show ac s!"r" ?_;obtain ⟨a⟩|⟨e3,hLa⟩:=(hL.get e1)
  right;have:=(List.getElem?_eq_some_iff.mp e1).1;show be (n:=i) hl s!"o" (y:=.ref a) (by rw [ER,e3];rfl) ?_;show k i L a e1 e2 hLa
 ·show ac s!"r" ?_;right;show kn hn
theorem p8 (x:AG c) (cm:c.calm=true) (lv:1<=c.lv) (hB:AD U A B) (hz:B.letters.length<=1000)
  (k:∀ U' D,Le U U'->U' D=some (.list ((B.letters.map (·.uid)).map .int))->Q (.ref D) U'):AM VR c V [.ref A.x] (λvs=>call (.ref 155) vs) U Q X:=by
 show ex1 hB.l λxs h4z=>?_;show an2 h4z λhl hL=>?_;clear h4z;show ag f155 x s!"o" s!"r" rfl s!"r" λLA=>?_;right;show ev_compA (Addr × AV) rfl s!"cns" s!"cok" s!"cp" ?_;right;show .mk (xs.zip B.letters) (λp=>.ref p.1) (λp=>.int p.2.uid) _ (by rw [cY hL.len];show ar hl) (λU' l=>l _ _ hl) (sz (by rw [Ej];left)) (λcl C p hp U2 l2=>?_) λU3 D l3 hD h3=>?_
 ·right;show ⟨p.1,p.2,rfl,(hL.zipMem p hp).le l2,?_⟩;show ⟨rfl,Le.refl _⟩
 ·show k _ _ l3 ?_;have:=congrArg (List.map λL:AV=>AB.int L.uid) hL.zip_snd;rw [E9] at this;rw [h3,E9];show congrArg (λl=>some (AY.list l)) this
theorem AN.snoc {xs:List Addr}{y:Addr} (h:AN U xs Ls) (hy:AX U y L):AN U (xs++[y]) (Ls++[L]):=by
 induction h with
 | nil=>show .cons hy .nil
 | cons x _ ih=>show .cons x ih
noncomputable def Bx.add (B:Bx) (oct:AB) (ns:List Str) (t:Int):Bx:={ B with top:=B.top+1,next:=B.next+1,letters:=B.letters++[⟨B.next,oct,ns,t,B.top+1⟩] }
theorem gR :∀ a∈[A.d],a∈A.foot:=λa h=>by rw [ZS h];show .head _
theorem pv :∀ a∈[A.l],a∈A.foot:=λa h=>by rw [ZS h];show .tail _ Zh
theorem fJ {t:Int} (x:AG c) (cm:c.calm=true) (lv:8<=c.lv) (hB:AD U A B) (hz:B.letters.length<=900) (hf:∀ t∈fs,t.length<=1000) (hl:fs.length < 64)
  (k:∀ ns U' y,ae fs=some ns->AD U' A (B.add oct ns t)->Fr A.foot U U'->AX U' y ⟨B.next,oct,ns,t,B.top+1⟩->Q (.ref y) U')
  (kx:ae fs=none->∀ fr,X ⟨64,.str "no flag",.int (-1),fr⟩ U):AM VR c V [.ref A.x,oct,.tup (fs.map .str),.int t] (λvs=>call (.ref 193) vs) U Q X:=by
 show ag f193 x s!"o" s!"r" rfl s!"r" λLA=>?_;right;show cb s!"lib" cm s!"lv" hf hl (λns hns=>?_) (λh fr=>kx h fr);show ac s!"r" ?_;show af ?_;show bX rfl ?_;show ec_Letter s!"lib" s!"lv" s!"look" ?_;right;show ib s!"lib" s!"lv" hB λU1 hB1 f₁=>?_;right;show ⟨⟨B.next,oct,ns,t,B.top+1⟩,rfl,λU2 y l₂ hy=>?_⟩;have hB2:=hB1.le l₂;show ac s!"r" ?_;right;show ⟨_,_,_,rfl,rfl,hB2,λU3 hB3 f₃=>?_⟩;have hy3:AX U3 y ⟨B.next,oct,ns,t,B.top+1⟩:=hy.fr f₃ λa ha=>hB2.noL a (gR a ha);show ex1 hB3.l λxs h5z=>?_;show an2 h5z λhl3 hLA=>?_;clear h5z;right;show ⟨cK hl3,?_⟩;right;show ct hl3 (sz (by rw [EQ,hLA.len];show Zt hz s!"d")) ?_;have h4:=hB3.inL (hLA.snoc hy3);rw [Eh] at h4;right;show k ns _ y hns h4.1 ?_ (hy3.fr h4.2 λa ha=>hB3.noL a (pv a ha));show (((f₁.mono gR).le l₂).trans (f₃.mono gR)).trans (h4.2.mono pv)
end
section
variable {c:Cx}{V:List NV}{U U1 Y:AA}{Q:AB->AA->Prop}{X:AC->AA->Prop}
theorem oA (acc:List Str) (n:Str):(aR acc n).length<=acc.length+1:=by
 unfold aR;split<;>simp
theorem nr:∀ {ts acc ns:List Str},aY acc ts=some ns->ns.length<=acc.length+ts.length:=by
 intro ts
 induction ts with
 | nil =>
  intro acc ns h;cases h;simp
 | cons t ts ih =>
  intro acc ns h;obtain ⟨n⟩|⟨_,h⟩:=(Option.bind_eq_some_iff.mp h)
  have:=ih h;have:=oA acc n;simp only [EF];left
theorem cH (h:ae ts=some ns):ns.length<=ts.length:=by
 obtain ⟨a⟩|⟨h2,rfl⟩:=(Option.map_eq_some_iff.mp h)
 rw [(aw a).length_eq];simpa using nr h2
theorem jF {t:Str} (h:aK t=some n) (hz:t.length<=1000):n.length<=1000:=by
 unfold aK at h;split at h
 ·rename_i m hm;cases h;have:=Ek hm;show Zt ((by decide +kernel:∀ n∈sysFlags,n.length<=100) _ this) s!"d"
 ·split at h
  ·cases h;show hz
  ·cases h
theorem ko:∀ {ts acc ns:List Str},aY acc ts=some ns->(∀ t∈ts,t.length<=1000)->(∀ t∈acc,t.length<=1000)->∀ t∈ns,t.length<=1000:=by
 intro ts
 induction ts with
 | nil =>
  intro acc ns h _ h2;cases h;show h2
 | cons t ts ih =>
  intro acc ns h h1 h2;obtain ⟨n⟩|⟨hn,h⟩:=(Option.bind_eq_some_iff.mp h)
  show ih h (λt ht=>h1 t (.tail _ ht)) λu hu=>?_;unfold aR at hu;split at hu
  ·show h2 u hu
  ·rcases ZA hu with hu | hu
   ·show h2 u hu
   ·rw [ZS hu];show jF hn (h1 t Zh)
theorem ce (hz:∀ t∈ts,t.length<=1000) (h:ae ts=some ns):∀ t∈ns,t.length<=1000:=by
 obtain ⟨a⟩|⟨h2,rfl⟩:=(Option.map_eq_some_iff.mp h)
 intro t ht;show ko h2 hz (by intro t ht;cases ht) t ((aw a).subset ht)
def Ak (X:AC->AA->Prop) (U:AA):Prop:=∀ w a fr,X ⟨64,w,a,fr⟩ U
theorem AN.put {xs:List Addr}{y:Addr} (h:AN U xs Ls) (hy:AX U y L):∀ i,AN U (xs.set i y) (Ls.set i L):=by
 induction h with
 | nil=>intro i;show .nil
 | cons x r ih =>
  intro i;cases i with
  | zero=>show .cons hy r
  | succ i=>show .cons x (ih i)
noncomputable def Bx.put (B:Bx) (i:Nat) (u:Int) (L:AV) (ns:List Str):Bx:={ B with top:=B.top+1,letters:=B.letters.set i ⟨u,L.oct,ns,L.instant,B.top+1⟩ }
theorem lT (x:AG c) (cm:c.calm=true) (lv:8<=c.lv) (hB:AD U A B) (hz:B.letters.length<=900) (ha:BM B.letters) (hf:∀ t∈fs,t.length<=1000) (hl:fs.length < 64)
  (k:∀ ns (i:Nat) (L:AV) U',ae fs=some ns->B.letters[i]?=some L->L.uid=u->L.flags≠ns->AD U' A (B.put i u L ns)->Fr A.foot U U'->Q (.bool true) U')
  (ks:∀ ns (i:Nat) (L:AV),ae fs=some ns->B.letters[i]?=some L->L.uid=u->L.flags=ns->Q (.bool false) U)
  (kx:(ae fs=none\/∀ L∈B.letters,L.uid≠u)->Ak X U):AM VR c V [.ref A.x,.int u,.tup (fs.map .str)] (λvs=>call (.ref 200) vs) U Q X:=by
 show ex1 hB.l λxs h7z=>?_;show an2 h7z λhlx hL=>?_;clear h7z;show ag f200 x s!"o" s!"r" rfl s!"r" λLA=>?_;right;show cb s!"lib" cm s!"lv" hf hl (λns hns=>?_) (λh fr=>kx (.inl h) _ _ fr);show ac s!"r" ?_;right;show eF s!"lib" cm s!"lv" hlx hL s!"o" ha (λi L e1 e2=>?_) (λhn=>?_)
 ·show ac s!"r" ?_;obtain ⟨a⟩|⟨e3,hLa⟩:=(hL.get e1)
  have hi:=(List.getElem?_eq_some_iff.mp e1).1;right;show be (n:=i) hlx s!"o" (y:=.ref a) (by rw [ER,e3];rfl) ?_;show ac s!"r" ?_;right;show ah (λh=>?_) (λh=>?_)
  ·right;show ks ns i L hns e1 e2 (by simpa using h)
  ·right;show ec_Letter s!"lib" s!"lv" s!"look" ?_;right;show ib s!"lib" s!"lv" hB λU1 hB1 f₁=>?_;right;show ⟨⟨u,L.oct,ns,L.instant,B.top+1⟩,rfl,λU2 y l₂ hy=>?_⟩;have hB2:=hB1.le l₂;show ex1 hB2.l λxs2 h9z=>?_;show an2 h9z λhlA hL2=>?_;clear h9z;right;have h4:=hB2.inL (hL2.put hy i);have e6:(xs2.set i y).map AB.ref=(xs2.map AB.ref).set i (.ref y):=by rw [El]
   rw [e6] at h4;show dE hlA (Int.natCast_nonneg i) s!"o" (by rw [EQ,hL2.len];show Int.ofNat_lt.mpr hi) ?_;rw [Int.toNat_natCast];right;show k ns i L _ hns e1 e2 (by simpa using h) h4.1 ?_;show ((f₁.mono gR).le l₂).trans (h4.2.mono pv)
 ·show ac s!"r" ?_;right;show λfr=>kx (.inr hn) _ _ fr
theorem jQ (x:AG c) (cm:c.calm=true) (lv:8<=c.lv) (hL:AX U l L) (hf:∀ t∈fs,t.length<=1000) (hl:fs.length < 32) (hLf:∀ t∈L.flags,t.length<=1000) (hLl:L.flags.length < 32)
  (kp:∀ ns ms,way = "+" -> ae fs=some ns->ae (L.flags++ns)=some ms->Q (.tup (ms.map .str)) U)
  (km:∀ ns,way = "-" -> ae fs=some ns->Q (.tup ((L.flags.filter λf=>!(ns.any (· == f))).map .str)) U)
  (ke:∀ ns,way = "=" -> ae fs=some ns->Q (.tup (ns.map .str)) U)
  (kx:(ae fs=none\/(∀ ns,ae fs=some ns->way = "+" /\ ae (L.flags++ns)=none)\/(way ≠ "+" /\ way ≠ "-" /\ way ≠ "="))->Ak X U):AM VR c V [.ref l,.str way,.tup (fs.map .str)] (λvs=>call (.ref 205) vs) U Q X:=by
 show AM.tidyX ?_;show ag f205 x s!"o" s!"r" rfl s!"r" λLA=>?_;right;show cb s!"lib" cm s!"lv" hf s!"o" (λns hns=>?_) (λh fr=>⟨U,Le.refl _,kx (.inl h) _ _ fr⟩);show ac s!"r" ?_;right;show ah (λh=>?_) (λh=>?_)
 ·have hw:way = "+" := by simpa using h
  right;have hnl:ns.length < 32:=Nat.lt_of_le_of_lt (cH hns) hl;show tH (sz (by simp;left)) ?_;rw [<- Eh];right;show cb s!"lib" cm s!"lv" (λt ht=>?_) (by simp;left) (λms hms=>AK.of Zr (kp ns ms hw hns hms)) (λh2 fr=>⟨U,Le.refl _,kx (.inr (.inl λns' h3=>?_)) _ _ fr⟩)
  ·rcases ZA ht with ht | ht
   ·show hLf t ht
   ·show ce hf hns t ht
  ·rw [hns] at h3;cases h3;show ⟨hw,h2⟩
 ·have hw:way ≠ "+" := by simpa using h
  right;show ah (λh=>?_) (λh=>?_)
  ·have hw:way = "-" := by simpa using h
   right;show ev_compP Str rfl s!"cns" s!"cok" ?_;right;show ⟨L.flags,.str,λf=>!(ns.any (· == f)),.str,λU'=>Le U U',_,dR,λ_ _ h l=>h.trans l,sz s!"o",Le.refl _,λ_ _=>trivial,λcl C f hf=>?_,λU' D l hD=>?_⟩
   ·intro U2 l2;show aD (ac s!"r" ?_) ⟨_,.tail _ Zh,rfl,rfl⟩;show aT ?_;right;show ⟨rfl,?_⟩;show ah (λ_=>?_) (λ_=>Le.refl _);right;show ⟨rfl,Le.refl _⟩
   ·right;show aq (Zs ..) (sz (by rw [EQ];show Zt (Em _ _) s!"o")) ?_;show AK.of (l.trans (Zl hD)) (km ns hw hns)
  ·have hw2:way ≠ "-" := by simpa using h
   right;show ah (λh=>?_) (λh=>?_)
   ·have hw:way = "=" := by simpa using h
    right;show AK.of Zr (ke ns hw hns)
   ·have hw3:way ≠ "=" := by simpa using h
    right;show λfr=>⟨U,Le.refl _,kx (.inr (.inr ⟨hw,hw2,hw3⟩)) _ _ fr⟩
noncomputable def optI:Option Int->AB
 | some n=>.int n
 | none=>.none
noncomputable def bn (un:Option Int) (L:AV):Bool:=match un with | some n=>decide (n < L.modseq) | none=>false
theorem fK {un:Option Int} (x:AG c) (cm:c.calm=true) (lv:1<=c.lv) (hL:AX U l L)
  (k:Q (.bool (bn un L)) U):AM VR c V [.ref l,optI un] (λvs=>call (.ref 232) vs) U Q X:=by
 cases un with
 | none =>
  show ag f232 x s!"o" s!"r" rfl s!"r" λLA=>?_;unfold optI;right;show ff (λas h=>by cases h) ?_;right;show k
 | some n =>
  show ag f232 x s!"o" s!"r" rfl s!"r" λLA=>?_;unfold optI;right;show ff (λas h=>by cases h) ?_;right;show k
end
section
variable {c:Cx}{V:List NV}{U U1 Y:AA}{Q:AB->AA->Prop}{X:AC->AA->Prop}
theorem bJ {o:AY} (hD:U D=none) (k:∀ U',Le U U'->U' D=some o->Al c V ss U' N R XS):Al c V ss (U.set D o) N R XS:=k _ (Zl hD) (Zs ..)
theorem cO {RR:Heap->α->β->Prop}{t:Sem α}{Q:β->AA->Prop}{o:AY} (hD:U D=none) (k:∀ U',Le U U'->U' D=some o->Go RR c V t U' Q X):Go RR c V t (U.set D o) Q X:=k _ (Zl hD) (Zs ..)
theorem tj {RR:Heap->α->β->Prop}{t:List Value->Sem α}{Q:β->AA->Prop}{o:AY} (hD:U D=none) (k:∀ U',Le U U'->U' D=some o->AM RR c V as t U' Q X):AM RR c V as t (U.set D o) Q X:=k _ (Zl hD) (Zs ..)
theorem Fr.drop {P:Addr}{U:AA} (f:Fr (P::F) U U') (n:U P=none):Fr F U U':=λa o e na=>f a o e λz=>by
 rcases ZC z with rfl | z
 ·rw [n] at e;cases e
 ·show na z
def UV (U:AA) (a:AB) (us:List Int):Prop:=a=.tup (us.map .int)\/∃ l,a=.ref l/\U l=some (.list (us.map .int))
noncomputable def iM (us:List Int) (acc:List (Int × AB)):List (Int × AB):=us.foldl (λes n=>sto es n (.bool true)) acc
theorem p0 {K:Type} [DecidableEq K] (es:List (K × AB)) (k:K) (v:AB):(sto es k v).length<=es.length+1:=by
 unfold sto;split<;>simp
noncomputable def dy {K:Type} (es:List (K × AB)):List K:=es.map (·.1)
theorem pI {K:Type} [DecidableEq K] (es:List (K × AB)) (k:K):(vAt es k).isSome=(dy es).contains k:=by
 unfold vAt dy;rw [Option.isSome_map]
 induction es with
 | nil=>rfl
 | cons e es ih =>
  rw [Eg,E5,Ea];by_cases h:e.1=k
  ·simp [h]
  ·have:(k == e.1)=false:=beq_eq_false_iff_ne.mpr (Ne.symm h);simp only [h,decide_false,this,Bool.false_or];show ih
theorem qD {K:Type} [DecidableEq K] (es:List (K × AB)) (k:K) (v:AB):dy (sto es k v)=if (dy es).contains k then dy es else dy es++[k]:=by
 unfold sto dy;have h:(es.any λkv=>decide (kv.1=k))=(es.map (·.1)).contains k:=by
  induction es with
  | nil=>rfl
  | cons e es ih =>
   rw [EO,E5,Ea,ih]
   congr 1
   by_cases h:e.1=k
   ·simp [h]
   ·have:(k == e.1)=false:=beq_eq_false_iff_ne.mpr (Ne.symm h);rw [this];simp [h]
 rw [h];split
 ·rw [E9];apply ED;intro e _;change (if e.1=k then (e.1,v) else e).1=e.1;split<;>rfl
 ·simp
noncomputable def once (acc:List Int):List Int->List Int
 | []=>acc
 | u::us=>once (if acc.contains u then acc else acc++[u]) us
theorem sD {acc:List Int}:once acc []=acc:=rfl
theorem tf {acc:List Int}:once acc (u::us)=once (if acc.contains u then acc else acc++[u]) us:=rfl
theorem mj:∀ (us:List Int) (acc:List (Int × AB)),dy (iM us acc)=once (dy acc) us:=by
 intro us
 induction us with
 | nil =>
  intro _;show rfl
 | cons u us ih =>
  intro acc;change dy (iM us (sto acc u _))=_;rw [ih,qD];rfl
theorem fm (us:List Int):dy (idsD us)=once [] us:=mj us []
theorem gm:∀ (us acc:List Int) (u:Int),u∈once acc us↔u∈acc\/u∈us:=by
 intro us
 induction us with
 | nil =>
  intro acc u;simp [sD]
 | cons v us ih =>
  intro acc u;rw [tf];rw [ih];split
  ·rename_i h;have h:v∈acc:=by simpa using h
   rw [EC];constructor
   ·rintro (h1 | h1)
    ·show .inl h1
    ·show .inr (.inr h1)
   ·rintro (h1 | rfl | h1)
    ·show .inl h1
    ·show .inl h
    ·show .inr h1
  ·rw [En,Eb,EC];constructor
   ·rintro ((h1 | h1) | h1)
    ·show .inl h1
    ·show .inr (.inl h1)
    ·show .inr (.inr h1)
   ·rintro (h1 | h1 | h1)
    ·show .inl (.inl h1)
    ·show .inl (.inr h1)
    ·show .inr h1
theorem j7 (us:List Int) (u:Int):(once [] us).contains u=us.contains u:=by
 rw [Bool.eq_iff_iff];simp [gm]
theorem gj:∀ (us acc:List Int),(once acc us).length<=acc.length+us.length:=by
 intro us
 induction us with
 | nil =>
  intro acc;simp [sD]
 | cons v us ih =>
  intro acc;rw [tf];have:=ih (if acc.contains v then acc else acc++[v]);have h2:(if acc.contains v then acc else acc++[v]).length<=acc.length+1:=by split<;>simp
  simp only [EF];left
theorem mQ (x:AG c) (cm:c.calm=true) (lv:1<=c.lv) (hz:us.length < 64)
  (k:∀ U' D,Le U U'->U' D=some (.list ((bh (once [] us)).map .int))->Q (.ref D) U'):AM VR c V [.tup (us.map .int)] (λvs=>call (.ref 245) vs) U Q X:=by
 show ag f245 x s!"o" s!"r" rfl s!"r" λLA=>?_;right;show ev_dict_nil (.dictI []) (.inr (.inl rfl)) λD hD=>(ac s!"r" ?_)
 show af ?_;show bu (α:=Int) .int rfl ?_;right
 let J1:=λ(r:List Int) (V':List NV) (U':AA)=>∃ v acc,V'=[⟨"uids",.local,some (.tup (us.map .int))⟩,⟨"seen",.local,some (.ref D)⟩,⟨"uid",.local,v⟩,.gl "sorted",.gl "list"]/\Le U U'/\U' D=some (.dictI acc)/\acc.length+r.length < 64/\idsD us=iM r acc
 show ⟨us,_,J1,
  dR,(ei2 _ ([]) (ai5 rfl (Zl hD) (Zs ..) (by simpa using hz) rfl)),λ_ _ _ _=>trivial,?_,?_⟩
 ·intro n r V1 U1 r1z;obtain ⟨v,acc⟩|⟨rfl,l,hd,hlen,he⟩:=r1z;show aB rfl (ac s!"r" ?_);right;show lh hd (sz (by simp at hlen;left)) ?_;right;have:=p0 acc n (.bool true);show AK.of Zr (ei2 _ _ (ai5 rfl (l.setNew hD) (Zs ..) (by simp only [EF] at hlen;left) he))
 ·intro V1 U1 r2z;obtain ⟨v,acc⟩|⟨rfl,l,hd,hlen,he⟩:=r2z;right;show nt hd (sz (by simp at hlen;left)) λD2 hD2=>?_;right;show lO (ns:=acc.map (·.1)) (by rw [Zs,E9];rfl) (by simpa using hlen) λD3 hD3=>?_;have e:idsD us=acc:=he;show fresh hD3 λU3 l3 h3=>k _ _ ((l.trans (Zl hD2)).trans l3) ?_;rw [h3,<- fm,e];rfl
noncomputable def Bx.left (B:Bx) (us:List Int):List Int:=(B.letters.map (·.uid)).filter λu=>us.contains u
noncomputable def Bx.expunge (B:Bx) (us:List Int):Bx:=if (B.left us).isEmpty then B else
 { B with top:=B.top+1,letters:=B.letters.filter λL=>!us.contains L.uid,gone:=B.gone++(B.left us).map λu=>(u,B.top+1) }
structure Bi (U U':AA) (A A':Ah):Prop where
 x:A'.x=A.x
 d:A'.d=A.d
 l:A'.l=A.l\/U A'.l=none
 g:A'.g=A.g\/U A'.g=none
 fr:Fr A.foot U U'
theorem jS (x:AG c) (cm:c.calm=true) (lv:4<=c.lv) (hB:AD U A B) (ha:UV U a us) (hz:B.letters.length<=900) (hus:us.length<=900) (hg:B.gone.length<=900)
  (k:∀ U' D A',U D=none->U' D=some (.list ((B.left us).map .int))->AD U' A' (B.expunge us)->Bi U U' A A'->D≠A'.l->D≠A'.g->Q (.ref D) U'):AM VR c V [.ref A.x,a] (λvs=>call (.ref 210) vs) U Q X:=by
 show ag f210 x s!"o" s!"r" rfl s!"r" λLA=>?_;right;show ev_dict_nil (.dictI []) (.inr (.inl rfl)) λW hW=>(ac s!"r" ?_)
 show af ?_;show bu (α:=Int) .int rfl ?_;right;have io:∃ need,(∀ tgt,Bb (c.call fd210 210 LA) tgt a (us.map .int) need (U.set W (.dictI [])))/\∀ U',Le U U'->need U':=by
  rcases ha with rfl | ⟨l,rfl,hl⟩
  ·show ⟨_,λ_=>dR,λ_ _=>trivial⟩
  ·show ⟨_,λ_=>ar (Zl hW _ _ hl),λU' l'=>l' _ _ hl⟩
 obtain ⟨need⟩|⟨io,hneed⟩:=io
 let J2:=λ(r:List Int) (V':List NV) (U':AA)=>∃ v acc,V'=[⟨"box",.local,some (.ref A.x)⟩,⟨"uids",.local,some a⟩,⟨"wanted",.cell,some (.ref W)⟩,⟨"uid",.local,v⟩,⟨"there",.local,none⟩,⟨"modseq",.cell,none⟩,.gl "raised"]/\Le U U'/\U' W=some (.dictI acc)/\acc.length+r.length<=900/\idsD us=iM r acc
 show ⟨us,_,J2,
  io _,(ei2 _ ([]) (ai5 rfl (Zl hW) (Zs ..) (by simpa using hus) rfl)),λ_ _ U' z=>ex2 z λ_ _ q=>by have l:=q.2.1;show hneed U' l,?_,?_⟩
 ·intro n r V1 U1 r3z;obtain ⟨v,acc⟩|⟨rfl,l,hd,hlen,he⟩:=r3z;show aB rfl (ac s!"r" ?_);right;show lh hd (sz (by simp at hlen;left)) ?_;right;have:=p0 acc n (.bool true);show AK.of Zr (ei2 _ _ (ai5 rfl (l.setNew hW) (Zs ..) (by simp only [EF] at hlen;left) he))
 ·intro V1 U1 r4z;obtain ⟨v,acc⟩|⟨rfl,l,hd,hlen,he⟩:=r4z;have e:idsD us=acc:=he;have hin:∀ u,(vAt acc u).isSome=us.contains u:=λu=>by rw [pI,<- e,fm,j7]
  have hB1:=hB.le l;show af ?_;show cc Int rfl s!"cns" s!"cok" ?_;right;show p8 s!"lib" cm s!"lv" hB1 s!"o" λU2 D₂ l₂ h₂=>?_;show ⟨B.letters.map (·.uid),.int,λu=>us.contains u,.int,λU'=>Le U2 U',_,ar h₂,λ_ _ h l=>h.trans l,sz (by simp;left),Le.refl _,λU' l=>l _ _ h₂,λcl C u hu=>?_,λU3 D l₃ hD=>?_⟩
  ·intro U4 l₄;show aD (ac s!"r" ?_) ⟨_,.tail _ Zh,rfl,rfl⟩;show aT ?_;right;show tz (l₄ _ _ (l₂ _ _ hd)) ?_;rw [hin];right;show ⟨rfl,?_⟩;show ah (λ_=>?_) (λ_=>Le.refl _);right;show ⟨rfl,Le.refl _⟩
  ·show ac s!"r" ?_;have l5:Le U U3:=(l.trans l₂).trans l₃;have hDσ:U D=none:=au l5 hD;show bJ hD λU5 l6 h6=>?_;have hB5:=hB.le (l5.trans l6);have h6':U5 D=some (.list ((B.left us).map .int)):=h6;right;show ⟨s!"d",λE hE=>?_⟩;show tj hE λU6 l7 h7=>?_;have l8:=l5.trans (l6.trans l7);have hB6:=hB.le l8;have h6'':=l7 _ _ h6';have hW6:U6 W=some (.dictI acc):=(((l₂.trans l₃).trans l6).trans l7) _ _ hd;show qZ (a:=D) (l7 _ _ h6') h7 ?_;rw [List.isEmpty_map];right;show ah (λh=>?_) (λh=>?_)
   ·right;show ⟨s!"d",λG hG=>?_⟩;have he:(B.left us)=[]:=by simpa using h
    have hGσ:U G=none:=au l8 hG;have lG:=l8.trans (Zl (o:=.list []) hG);have neq:∀ b,(∃ o,U b=some o)->G≠b:=λb ⟨o,e⟩ z=>by rw [<- z,hGσ] at e;cases e
    show k _ G A hGσ (by rw [Zs,he];rfl) (by unfold Bx.expunge;rw [h];show hB.le lG) ⟨rfl,rfl,.inl rfl,.inl rfl,lG.fr⟩ (neq _ ?_) (neq _ ⟨_,hB.g⟩);show ex1 hB.l λxs h10z=>?_;show an2 h10z λhx _=>?_;clear h10z;show ⟨_,hx⟩
   ·right;show ib s!"lib" s!"lv" hB6 λU7 hB7 f₇=>?_;show ac s!"r" ?_;have hDd:D≠A.d:=λz=>by rw [z,hB6.d] at h6'';cases h6''
    have hWd:W≠A.d:=λz=>by rw [z,hB6.d] at hW6;cases hW6
    have h7D:U7 D=some (.list ((B.left us).map .int)):=f₇ _ _ h6'' (by simpa using hDd);have h7W:U7 W=some (.dictI acc):=f₇ _ _ hW6 (by simpa using hWd);show ex1 hB7.l λxs h11z=>?_;show an2 h11z λhx hL=>?_;clear h11z;show af ?_;show wa_letters s!"lib" ?_;show ev_compP (Addr × AV) rfl s!"cns" s!"cok" ?_;right;show ⟨xs.zip B.letters,λp=>.ref p.1,λp=>!us.contains p.2.uid,λp=>.ref p.1,λU'=>Le U7 U',_,by rw [cY hL.len];show ar hx,λ_ _ h l=>h.trans l,sz (by rw [Ej];left),Le.refl _,λU' l=>l _ _ hx,λcl C p hp=>?_,λU8 D₈ l₈ hD8=>?_⟩
    ·intro U2 l2;show aD (ac s!"r" ?_) ⟨_,.tail _ Zh,rfl,rfl⟩;show aT ?_;right;show ⟨p.1,p.2,rfl,(hL.zipMem p hp).le l2,?_⟩;right;show o8 (l2 _ _ h7W) ?_;rw [hin];right;show ⟨rfl,?_⟩;show ah (λ_=>?_) (λ_=>Le.refl _);right;show ⟨rfl,Le.refl _⟩
    ·obtain ⟨ys⟩|⟨e1,hys⟩:=(hL.filt (λL=>!us.contains L.uid))
     show cO hD8 λU9 l₉ h₉=>?_;have hB9:=hB7.le (l₈.trans l₉);have h9:U9 D₈=some (.list (ys.map .ref)):=by rw [h₉,e1]
     have hD8σ:U D₈=none:=au l8 (by
      cases z:U6 D₈ with
      | none=>rfl
      | some ob =>
       by_cases w:D₈=A.d
       ·have:=l₈ _ _ hB7.d;rw [<- w,hD8] at this;cases this
       ·rw [l₈ _ _ (f₇ _ _ z (by simpa using w))] at hD8;cases hD8)
     have hgne:D₈≠A.g:=λz=>by have:=hB.g;rw [<- z,hD8σ] at this;cases this
     right;show ⟨A,_,D₈,ys,_,rfl,rfl,hB9,h9,hys.le (l₈.trans l₉),hgne,λY hBτ fτ=>?_⟩;have hDd9:D∉[A.d]:=by simpa using hDd
     have hτD:Y D=some (.list ((B.left us).map .int)):=fτ _ _ ((l₈.trans l₉) _ _ h7D) hDd9;show af ?_;show wa_gone s!"lib" ?_;right;show ⟨{ A with l:=D₈ },_,rfl,hBτ,?_⟩;right;show ev_compA Int rfl s!"cns" s!"cok" s!"cp" ?_;right;show .mk (B.left us) .int (λu=>bO (u,B.top+1)) _ (ar hτD) (λU' l=>l _ _ hτD) (sz (Zt (Em _ _) (by simp;left))) (λcl C u hu U2 l2=>?_) λY2 D₁ m₂ hDD h₂=>?_
     ·right;show ⟨rfl,Le.refl _⟩
     ·have hBτ2:=hBτ.le m₂;show eY hBτ2.g h₂ (Zt (m:=2000) (by simp only [EQ];have:=Em (λu=>us.contains u) (B.letters.map (·.uid));simp only [EQ] at this;unfold Bx.left;left) s!"d") λG hG=>?_;show cO hG λY3 m₃ h₃=>?_;have hBτ3:=hBτ2.le m₃;right;have hG0:U G=none:=by
       cases z:U G with
       | none=>rfl
       | some ob =>
        by_cases w:G=A.d
        ·have:=m₂ _ _ hBτ.d;rw [<- w,hG] at this;cases this
        ·have w':G∉[A.d]:=by simpa using w
         have:=m₂ _ _ (fτ _ _ (l₉ _ _ (l₈ _ _ (f₇ _ _ (l8 _ _ z) w'))) w');rw [hG] at this;cases this
      have hGl:D₈≠G:=λz=>by
       show ex1 hBτ2.l λxs' h13z=>?_;show an2 h13z λhx' _=>?_;clear h13z;have hx':Y2 D₈=_:=hx';rw [z,hG] at hx';cases hx'
      show ⟨{ A with l:=D₈ },_,G,B.gone++(B.left us).map (λu=>(u,B.top+1)),rfl,rfl,hBτ3,?_,hGl,λY4 hB4 f₄=>?_⟩
      ·rw [h₃,Eh,E9];rfl
      ·have hD4:Y4 D=some (.list ((B.left us).map .int)):=f₄ _ _ (m₃ _ _ (m₂ _ _ hτD)) hDd9;right;have hfr:Fr [A.d] U Y4:=(((((l8.fr (F:=[A.d])).trans f₇).le (l₈.trans l₉)).trans fτ).le (m₂.trans m₃)).trans f₄;show k _ D { A with l:=D₈,g:=G } hDσ hD4 (by unfold Bx.expunge;rw [h];show hB4) ⟨rfl,rfl,.inr hD8σ,.inr hG0,hfr.mono gR⟩ ?_ ?_
       ·intro z;have z:D=D₈:=z;have:=l₈ _ _ h7D;rw [z,hD8] at this;cases this
       ·intro z;have z:D=G:=z;have:=m₂ _ _ hτD;rw [z,hG] at this;cases this
end
section
variable {c:Cx}{V:List NV}{U U1 Y:AA}{Q:AB->AA->Prop}{X:AC->AA->Prop}
noncomputable def minI (a b:Int):Int:=if b < a then b else a
noncomputable def Bx.kept (B:Bx) (m:Int):List (Int × Int):=B.gone.filter λp=>decide (minI m B.top < p.2)
noncomputable def Bx.forget (B:Bx) (m:Int):Bx:=if minI m B.top<=B.floor then B else { B with gone:=B.kept m,floor:=minI m B.top }
noncomputable def Bx.forgot (B:Bx) (m:Int):Int:=if minI m B.top<=B.floor then 0 else (B.gone.length:Int) - (B.kept m).length
theorem jr {m:Int} (x:AG c) (cm:c.calm=true) (lv:1<=c.lv) (hB:AD U A B) (hg:B.gone.length<=900)
  (k:∀ U' A',AD U' A' (B.forget m)->Bi U U' A A'->Q (.int (B.forgot m)) U'):AM VR c V [.ref A.x,.int m] (λvs=>call (.ref 250) vs) U Q X:=by
 show ag f250 x s!"o" s!"r" rfl s!"r" λLA=>?_;right;show td ?_;show ac s!"r" ?_;right;show ah (λh=>?_) (λh=>?_)
 ·have h:minI m B.top<=B.floor:=of_decide_eq_true h;right;have:=k U A (by unfold Bx.forget;rw [Zw h];show hB) ⟨rfl,rfl,.inl rfl,.inl rfl,Fr.refl⟩;unfold Bx.forgot at this;rw [Zw h] at this;show this
 ·have h:¬ minI m B.top<=B.floor:=of_decide_eq_false h;show gi ?_;show af ?_;show cc (Int × Int) rfl s!"cns" s!"cok" ?_;right;show ⟨B.gone,bO,λp=>decide (minI m B.top < p.2),bO,λU'=>Le U U',_,ar hB.g,λ_ _ h l=>h.trans l,sz s!"o",Le.refl _,λU' l=>l _ _ hB.g,λcl C p hp=>?_,λU3 D l₃ hD=>?_⟩
  ·intro U4 l₄;show cX (as:=[.int p.1,.int p.2]) ?_ nm2 rfl;change BN _ _ _ _ _ _ _;show aD (ac s!"r" ?_) ⟨_,.tail _ Zh,rfl,rfl⟩;change BN _ _ _ _ _ _ _;show aD (ac s!"r" ?_) ⟨_,.tail _ (.tail _ Zh),rfl,rfl⟩;change Bp _ _ _ _ _;show aT ?_;right;show ⟨rfl,?_⟩;show ah (λ_=>?_) (λ_=>Le.refl _);right;show ⟨rfl,Le.refl _⟩
  ·show ac s!"r" ?_;show bJ hD λU4 l₄ h₄=>?_;have l:=l₃.trans l₄;have hB4:=hB.le l;have hDσ:=au l₃ hD;have h₄:U4 D=some (.list ((B.kept m).map bO)):=h₄;right;show bI hB4.g (by simp;left) ?_;right;have hkl:(B.kept m).length<=B.gone.length:=Em _ _;show bI h₄ (by simp;left) ?_;right;show ac s!"r" ?_;rw [EQ,EQ];right;have neq:∀ b,(∃ o,U b=some o)->b≠D:=λb ⟨o,e⟩ z=>by rw [z,hDσ] at e;cases e
   show ⟨A,_,D,B.kept m,rfl,rfl,hB4,h₄,neq _ (by show ex1 hB.l λxs h1z=>?_;show an2 h1z λhx _=>?_;clear h1z;show ⟨_,hx⟩),λU5 hB5 f₅=>?_⟩;show af ?_;show wa_floor s!"lib" ?_;right;show ⟨{ A with g:=D },_,_,rfl,rfl,hB5,λU6 hB6 f₆=>?_⟩;right;have:=k U6 { A with g:=D } (by unfold Bx.forget;rw [Zv h];show hB6) ⟨rfl,rfl,.inl rfl,.inr hDσ,((l.fr (F:=[A.d])).trans (f₅.trans f₆)).mono gR⟩;unfold Bx.forgot at this;rw [Zv h] at this;show this
end
section
variable {c:Cx}{V:List NV}{U U1 Y:AA}{Q:AB->AA->Prop}{X:AC->AA->Prop}
noncomputable def Bx.addAll (G:Bx) (Ls:List AV):Bx:=Ls.foldl (λG L=>G.add L.oct L.flags L.instant) G
noncomputable def aN:Int->List AV->List (Int × Int)
 | _,[]=>[]
 | n,L::Ls=>(L.uid,n)::aN (n+1) Ls
def Ax (fs:List Str):Prop:=ae fs=some fs/\(∀ t∈fs,t.length<=1000)/\fs.length < 32
theorem BM.uniq (h:BM Ls) {a b:AV} (ha:a∈Ls) (hb:b∈Ls) (e:a.uid=b.uid):a=b:=by
 obtain ⟨i,hi⟩:=List.mem_iff_getElem?.mp ha;obtain ⟨j,hj⟩:=List.mem_iff_getElem?.mp hb;rcases Nat.lt_trichotomy i j with z | z | z
 ·have:=h.lt hi hj z;left
 ·subst z;show Option.some.inj (hi.symm.trans hj)
 ·have:=h.lt hj hi z;left
theorem d8:∀ (n:Int) (La:List AV) (L:AV),aN n (La++[L])=aN n La++[(L.uid,n+La.length)]:=by
 intro n La L
 induction La generalizing n with
 | nil=>show congrArg (λz=>[(L.uid,z)]) (Int.add_zero n).symm
 | cons M La ih =>
  change (M.uid,n)::aN (n+1) (La++[L])=(M.uid,n)::(aN (n+1) La++[(L.uid,n+(La.length+1:Nat))]);rw [ih,show n+1+(La.length:Int)=n+(La.length+1:Nat) from by push_cast;left]
theorem cR:∀ (n:Int) (La:List AV),(aN n La).length=La.length:=by
 intro n La
 induction La generalizing n with
 | nil=>show rfl
 | cons M La ih=>show congrArg (·+1) (ih _)
theorem cL:∀ (Ls:List AV) (G:Bx),(G.addAll Ls).next=G.next+Ls.length/\(G.addAll Ls).letters.length=G.letters.length+Ls.length:=by
 intro Ls
 induction Ls with
 | nil =>
  intro G;simp [Bx.addAll]
 | cons L Ls ih =>
  intro G;have:=ih (G.add L.oct L.flags L.instant);change ((G.add L.oct L.flags L.instant).addAll Ls).next=_/\((G.add L.oct L.flags L.instant).addAll Ls).letters.length=_;rw [this.1,this.2];simp only [Bx.add,EG,EF,EH];left
theorem q7 (h:AD U A B) (hD:U D=some (.list xs)) (hl:D≠A.l) (hg:D≠A.g):D∉A.foot:=by
 simp only [Ah.foot,EC,Ed,or_false];rintro (z | z | z)
 ·rw [z,h.d] at hD;cases hD
 ·show hl z
 ·show hg z
theorem dG (h:AD U A B) (hD:U D=none):D∉A.foot:=by
 simp only [Ah.foot,EC,Ed,or_false];show ex1 h.l λxs h1z=>?_;show an2 h1z λhx _=>?_;clear h1z;rintro (z | z | z)
 ·rw [z,h.d] at hD;cases hD
 ·rw [z,hx] at hD;cases hD
 ·rw [z,h.g] at hD;cases hD
theorem eg {G:Bx} (x:AG c) (cm:c.calm=true) (lv:10<=c.lv) (hB:AD U A B) (hG:AD U Ag G) (hl:U l=some (.list (us.map .int)))
  (hz:B.letters.length<=900) (ha:BM B.letters) (hus:us.length < 64) (hLs:Ls.map (·.uid)=bh us) (hin:∀ L∈Ls,L∈B.letters) (hcan:∀ L∈Ls,Ax L.flags) (hgz:G.letters.length+Ls.length<=900)
  (k:∀ U' D,U D=none->U' D=some (.list ((aN G.next Ls).map bO))->AD U' Ag (G.addAll Ls)->Fr Ag.foot U U'->Q (.ref D) U'):AM VR c V [.ref A.x,.ref l,.ref Ag.x] (λvs=>call (.ref 215) vs) U Q X:=by
 show ag f215 x s!"o" s!"r" rfl s!"r" λLA=>?_;have hlen:Ls.length < 64:=by
  have:=congrArg List.length hLs;rw [EQ,(aX us).length_eq] at this;left
 right;show ⟨s!"d",λP hP=>(ac s!"r" ?_)⟩;show bJ hP λU1 l₁ h₁=>?_;show af ?_;show bu (α:=Addr × AV) (λp=>.ref p.1) rfl ?_;show ev_listcomp rfl s!"cns" s!"cok" ?_;right;show lO (l₁ _ _ hl) s!"o" λS hS=>?_
 let J1:=λ(r:List AB) (zs:List AB) (U':AA)=>Le (U1.set S (.list ((bh us).map .int))) U'/\∃ as La Lb,zs=as.map AB.ref/\AN U' as La/\Ls=La++Lb/\r=(Lb.map (·.uid)).map .int
 show ⟨J1,
  ⟨_,_,ar (Zs ..),sz (by rw [EQ,(aX us).length_eq];left),⟨Le.refl _,[],[],Ls,rfl,.nil,rfl,by rw [hLs]⟩,λ_ _ U' h=>h.1 _ _ (Zs ..)⟩,λcl C=>?_,?_⟩
 ·intro v rest zs U2 r1z;show an2 r1z λl₂ q2=>?_;obtain ⟨as,La,Lb⟩|⟨e1,hLa,e2,hr⟩:=(q2)
  clear q2 r1z;subst e2;obtain rfl:=e1;cases Lb with
  | nil=>cases hr
  | cons L Lb =>
   rw [E5,E5] at hr;cases hr;have hB2:=hB.le ((l₁.trans (Zl hS)).trans l₂);show aD (ac s!"r" ?_) ⟨_,.tail _ Zh,rfl,rfl⟩;show dA ?_;show ifT ?_;right;show kP s!"lib" cm s!"lv" hB2 s!"o" ha (λi M a e1 e2 hM=>?_) (λhn=>absurd rfl (hn L (hin L s!"s")));have e:M=L:=ha.uniq (Eo e1) (hin L s!"s") e2;subst e;show ⟨l₂,as++[a],La++[M],Lb,s!"s",hLa.snoc hM,s!"s",rfl⟩
 ·intro ys U2 D r2z hD;show an2 r2z λl₂ q2=>?_;obtain ⟨as,La,Lb⟩|⟨e1,hLa,hLs',hr⟩:=(q2)
  clear q2 r2z;obtain rfl:=e1;have hLb:Lb=[]:=by
   cases Lb with
   | nil=>rfl
   | cons _ _=>cases hr
  subst hLb;rw [ET] at hLs';subst hLs';have l3:Le U1 U2:=(Zl hS).trans l₂;have hDσ:U D=none:=au (l₁.trans l3) hD;have hGA:=hG.le ((l₁.trans l3).trans (Zl (o:=.list (as.map .ref)) hD));have hP0:(U2.set D (.list (as.map .ref))) P=some (.list []):=Zl hD _ _ (l3 _ _ h₁);have hPne:∀ a o,U a=some o->a≠P:=λa o e z=>by rw [z,hP] at e;cases e
  have hDf:D∉P::Ag.foot:=by
   rw [EC,not_or];show ⟨(λz=>by rw [z,l3 _ _ h₁] at hD;cases hD),dG hG hDσ⟩
  let J2:=λ(r:List (Addr × AV)) (V':List NV) (U':AA)=>∃ v w La,V'=[⟨"box",.cell,some (.ref A.x)⟩,⟨"uids",.local,some (.ref l)⟩,⟨"goal",.local,some (.ref Ag.x)⟩,⟨"pairs",.local,some (.ref P)⟩,⟨"letter",.local,v⟩,⟨"made",.local,w⟩,.gl "sorted",.gl "add_letter"]/\Fr (P::Ag.foot) (U2.set D (.list (as.map .ref))) U'/\AD U' Ag (G.addAll La)/\U' P=some (.list ((aN G.next La).map bO))/\Ls=La++r.map (·.2)/\(∀ p∈r,AX U' p.1 p.2)/\P∉Ag.foot
  show ⟨as.zip Ls,_,J2,
   by rw [cY hLa.len];show ar (Zs ..),(ei3 _ _ ([]) (ai7 rfl Fr.refl hGA hP0 (by rw [hLa.zip_snd];rfl) (λp hp=>(hLa.le (Zl hD)).zipMem p hp) (dG hG hP))),λ_ _ U' z=>ex3 z λ_ _ _ q=>by have f:=q.2.1;show f _ _ (Zs ..) hDf,?_,?_⟩
  ·intro r3z r V1 U3 r4z;obtain ⟨a,L⟩:=r3z;obtain ⟨v,w,La⟩|⟨rfl,f,hGB,hP3,hLs',hr',hPf⟩:=r4z;have hLA:=hr' _ Zh;dsimp only at hLA;have hcl:Ax L.flags:=hcan L (by rw [hLs'];simp);have hq:=cL La G;have hll:La.length+(r.length+1)=Ls.length:=by rw [hLs'];simp
   show aB rfl (ac s!"r" ?_);right;show ff (λas h=>by cases h) ?_;right;show fJ s!"lib" cm s!"lv" hGB s!"o" hcl.2.1 (by have:=hcl.2.2;left) (λns U4 y hns hG4 f₄ hy=>?_) (λhno=>by rw [hcl.1] at hno;cases hno);rw [hcl.1] at hns;cases hns;show ac s!"r" ?_;have hP4:U4 P=some (.list ((aN G.next La).map bO)):=f₄ _ _ hP3 hPf;have hL4:AX U4 a L:=hLA.fr f₄ hGB.noL;right;show ⟨cK hP4,?_⟩;right;show ⟨(by simp [sizeLine]:_<=sizeLine),?_⟩;right;have hapl:(aN G.next La).length=La.length:=cR ..;show ct hP4 (sz (by rw [EQ,hapl];left)) ?_;right;have f5:Fr [P] U4 (U4.set P (.list ((aN G.next La).map bO++[.tup [.int L.uid,.int (G.addAll La).next]]))):=Fr.refl.set Zh;have nP:B0 U4 [P]:=λb hb=>by rw [ZS hb,hP4];show .list
   have sub1:∀ b∈Ag.foot,b∈P::Ag.foot:=λb hb=>.tail _ hb;have sub2:∀ b∈[P],b∈P::Ag.foot:=λb hb=>by rw [ZS hb];show .head _
   show AK.of Zr (ei3 _ _ (La++[L]) (ai7 rfl ((f.trans (f₄.mono sub1)).trans (f5.mono sub2)) ?_ ?_ (by rw [hLs'];simp) (λp hp=>((hr' p (.tail _ hp)).fr f₄ hGB.noL).fr f5 nP) hPf))
   ·have:=hG4.fr f5 nP (λb hb z=>hPf (by rw [<- ZS z];show hb));have e:G.addAll (La++[L])=(G.addAll La).add L.oct L.flags L.instant:=by unfold Bx.addAll;rw [Ec];rfl
    rw [e];show this
   ·rw [Zs,d8,Eh,hq.1];rfl
  ·intro V1 U3 r5z;obtain ⟨v,w,La⟩|⟨rfl,f,hGB,hP3,hLs',hr',hPf⟩:=r5z;rw [Ep,ET] at hLs';subst hLs';right;show k U3 P hP hP3 hGB (Fr.drop (P:=P) ?_ hP);show ((l₁.trans (l3.trans (Zl hD))).fr (F:=P::Ag.foot)).trans f
end
section
variable {c:Cx}{V:List NV}{U U1 Y:AA}{Q:AB->AA->Prop}{X:AC->AA->Prop}
theorem gH:∀ (n:Int) (La:List AV),(aN n La).map (·.1)=La.map (·.uid):=by
 intro n La
 induction La generalizing n with
 | nil=>show rfl
 | cons M La ih=>show congrArg (M.uid::·) (ih _)
theorem cN {B1 G:Bx} (x:AG c) (cm:c.calm=true) (lv:12<=c.lv) (hB:AD U A B) (hG:AD U Ag G) (hl:U l=some (.list (us.map .int)))
  (hz:B.letters.length<=900) (ha:BM B.letters) (hus:us.length < 64) (hLs:Ls.map (·.uid)=bh us) (hin:∀ L∈Ls,L∈B.letters) (hcan:∀ L∈Ls,Ax L.flags) (hgz:G.letters.length+Ls.length<=900)
  (hsrc:∀ U',AD U' Ag (G.addAll Ls)->Fr Ag.foot U U'->AD U' A B1) (hz1:B1.letters.length<=900) (hg1:B1.gone.length<=900)
  (k:∀ U1 U2 P A',Fr Ag.foot U U1->AD U1 Ag (G.addAll Ls)->AD U2 A' (B1.expunge (Ls.map (·.uid)))->Bi U1 U2 A A'->U2 P=some (.list ((aN G.next Ls).map bO))->Q (.ref P) U2):AM VR c V [.ref A.x,.ref l,.ref Ag.x] (λvs=>call (.ref 220) vs) U Q X:=by
 have hlen:Ls.length < 64:=by
  have:=congrArg List.length hLs;rw [EQ,(aX us).length_eq] at this;left
 show ag f220 x s!"o" s!"r" rfl s!"r" λLA=>?_;right;show eg s!"lib" cm s!"lv" hB hG hl hz ha hus hLs hin hcan hgz λU1 P hP h₁ hG1 f₁=>?_;show ac s!"r" ?_;have hB1:=hsrc U1 hG1 f₁;right;show ev_compA (Int × Int) rfl s!"cns" s!"cok" s!"cp" ?_;right;show .mk (aN G.next Ls) bO (λp=>.int p.1) _ (ar h₁) (λU' l=>l _ _ h₁) (sz (by rw [cR];left)) (λcl C p hp U4 l₄=>?_) λU5 D l₅ hD h₅=>?_
 ·right;show ⟨rfl,Le.refl _⟩
 ·have h₅:U5 D=some (.list ((Ls.map (·.uid)).map .int)):=by
   rw [h₅,<- gH G.next,E9];rfl
  right;show jS s!"lib" cm s!"lv" (hB1.le l₅) (.inr ⟨D,rfl,h₅⟩) hz1 (by simp;left) hg1 λU6 R A' _ _ hB6 hA6 _ _=>?_;right;have hPA:P∉A.foot:=by
   show q7 hB1 h₁ (λz=>?_) λz=>?_
   ·show ex1 hB.l λxs h1z=>?_;show an2 h1z λhx _=>?_;clear h1z;rw [z,hx] at hP;cases hP
   ·rw [z,hB.g] at hP;cases hP
  have hA:Bi U1 U6 A A':=⟨hA6.x,hA6.d,hA6.l.imp id (au l₅),hA6.g.imp id (au l₅),(l₅.fr).trans hA6.fr⟩
  show k U1 U6 P A' f₁ hG1 hB6 hA (hA.fr _ _ h₁ hPA)
end
theorem jd:∀ n∈sysFlags,aK n=some n:=s!"k"
theorem ky {t:Str} (h:aK t=some n):aK n=some n:=by
 have h0:=h;unfold aK at h;split at h
 ·rename_i m hm;cases h;show jd _ (Ek hm)
 ·split at h
  ·cases h;show h0
  ·cases h
theorem addOnce_mem {u:Str}:u∈aR acc n↔u∈acc\/u=n:=by
 unfold aR;split
 ·rename_i h;rw [EY] at h;obtain ⟨y⟩|⟨hy,e⟩:=h;have e:y=n:=by simpa using e
  subst e;constructor
  ·show .inl
  ·rintro (h | rfl)
   ·show h
   ·show hy
 ·simp
theorem jX (h:acc.Nodup):(aR acc n).Nodup:=by
 unfold aR;split
 ·show h
 ·rename_i hc;rw [Er];show ⟨h,s!"s",λa ha b hb=>?_⟩;rw [ZS hb];rintro rfl;show hc (List.any_eq_true.mpr ⟨_,ha,s!"s"⟩)
theorem mc:∀ {ts acc ns:List Str},aY acc ts=some ns->acc.Nodup->(∀ f∈acc,aK f=some f)->ns.Nodup/\(∀ f∈ns,aK f=some f)/\∀ u,u∈ns↔u∈acc\/∃ t∈ts,aK t=some u:=by
 intro ts
 induction ts with
 | nil =>
  intro acc ns h h1 h2;cases h;show ⟨h1,h2,λu=>s!"s"⟩
 | cons t ts ih =>
  intro acc ns h h1 h2;obtain ⟨n⟩|⟨hn,h⟩:=(Option.bind_eq_some_iff.mp h)
  show an3 (ih h (jX h1) (λf hf=>by
   rcases addOnce_mem.mp hf with hf | rfl
   ·show h2 f hf
   ·show ky hn)) λa b d=>?_
  show ⟨a,b,λu=>?_⟩;rw [d,addOnce_mem];constructor
  ·rintro ((h | rfl) | ⟨s,hs,e⟩)
   ·show .inl h
   ·show .inr ⟨t,.head _,hn⟩
   ·show .inr ⟨s,.tail _ hs,e⟩
  ·rintro (h | ⟨s,hs,e⟩)
   ·show .inl (.inl h)
   ·rcases ZC hs with rfl | hs
    ·rw [hn] at e;cases e;show .inl (.inr rfl)
    ·show .inr ⟨s,hs,e⟩
theorem bv (h:ae ts=some ns):ns.Nodup/\(∀ f∈ns,aK f=some f)/\ns.Pairwise (λa b=>leS a b=true)/\∀ u,u∈ns↔∃ t∈ts,aK t=some u:=by
 obtain ⟨a⟩|⟨h2,rfl⟩:=(Option.map_eq_some_iff.mp h)
 show an3 (mc h2 .nil (λf hf=>by cases hf)) λq1 q2 q3=>?_;have pm:=aw a;show ⟨pm.nodup_iff.mpr q1,λf hf=>q2 f (pm.subset hf),dH a,λu=>by rw [pm.mem_iff,q3];simp⟩
theorem fE:∀ {fs acc:List Str},(acc++fs).Nodup->(∀ f∈fs,aK f=some f)->aY acc fs=some (acc++fs):=by
 intro fs
 induction fs with
 | nil =>
  intro acc _ _;simp [k7]
 | cons f fs ih =>
  intro acc h1 h2;rw [fo,h2 f Zh];change aY (aR acc f) fs=_;have hn:aR acc f=acc++[f]:=by
   unfold aR;rw [Zv];intro hc;rw [EY] at hc;obtain ⟨y⟩|⟨hy,e⟩:=hc;have e:y=f:=by simpa using e
   subst e;show (List.nodup_append.mp h1).2.2 y hy y Zh rfl
  rw [hn,ih (by simpa using h1) (λg hg=>h2 g (.tail _ hg))];simp
theorem ef (h1:fs.Nodup) (h2:∀ f∈fs,aK f=some f) (h3:fs.Pairwise (λa b=>leS a b=true)):ae fs=some fs:=by
 unfold ae;rw [fE (by simpa using h1) h2];simp [ik h3]
theorem cC (h:ae ts=some ns):ae ns=some ns :=
 let ⟨a,b,d,_⟩:=bv h;ef a b d
theorem g7 (p:Str->Bool) (h:ae fs=some fs):ae (fs.filter p)=some (fs.filter p) :=
 let ⟨a,b,d,_⟩:=bv h
 ef (a.filter p) (λf hf=>b f ((ZF hf).1)) (d.filter p)
theorem jW:∀ {ts acc:List Str},(∀ t∈ts,(aK t).isSome)->(aY acc ts).isSome:=by
 intro ts
 induction ts with
 | nil =>
  intro acc _;show rfl
 | cons t ts ih =>
  intro acc h;obtain ⟨n,hn⟩:=Option.isSome_iff_exists.mp (h t Zh);rw [fo,hn];show ih λs hs=>h s (.tail _ hs)
theorem fz {gs:List Str} (h1:ae fs=some fs) (h2:ae gs=some gs):∃ ns,ae (fs++gs)=some ns:=by
 have:(aY [] (fs++gs)).isSome:=jW λt ht=>by
  rcases ZA ht with ht | ht
  ·rw [(bv h1).2.1 t ht];rfl
  ·rw [(bv h2).2.1 t ht];rfl
 obtain ⟨a,ha⟩:=Option.isSome_iff_exists.mp this;show ⟨aH a,by unfold ae;rw [ha];rfl⟩
noncomputable def aG (lf:List Str) (way:Str) (fs:List Str):List Str:=if way = "+" then (ae (lf++fs)).getD [] else if way = "-" then lf.filter (λf=>!(fs.any (· == f))) else fs
theorem cF (h1:ae lf=some lf) (h2:ae fs=some fs):ae (aG lf way fs)=some (aG lf way fs):=by
 unfold aG;split
 ·obtain ⟨ns,h⟩:=fz h1 h2;rw [h];show cC h
 ·split
  ·show g7 _ h1
  ·show h2
section
variable {c:Cx}{V:List NV}{U U1 Y:AA}{Q:AB->AA->Prop}{X:AC->AA->Prop}
noncomputable def aL (Ls:List AV) (u:Int):Option AV:=Ls.find? (λL=>L.uid == u)
noncomputable def ixOf (Ls:List AV) (u:Int):Int:=match Ls.findIdx? (λL=>L.uid == u) with | some i=>(i:Int) | none=>-1
theorem sE (ha:BM Ls) {i:Nat} (e:Ls[i]?=some L) (hu:L.uid=u):Ls.findIdx? (λL=>L.uid == u)=some i/\aL Ls u=some L:=by
 obtain ⟨h,rfl⟩:=List.getElem?_eq_some_iff.mp e;have h1:Ls.findIdx? (λL=>L.uid == u)=some i:=by
  rw [List.findIdx?_eq_some_iff_getElem];show ⟨h,by simp [hu],λj hj=>?_⟩;have:=ha.lt (EW (Nat.lt_trans hj h)) (EW h) hj;simp;left
 show ⟨h1,?_⟩;unfold aL;cases q:Ls.find? (λL=>L.uid == u) with
 | none =>
  have:=List.find?_eq_none.mp q _ (EX h);simp [hu] at this
 | some M =>
  have hM:M.uid=u:=by simpa using Et q
  rw [ha.uniq (Ek q) (EX h) (hM.trans hu.symm)]
theorem gv (h:∀ L∈Ls,L.uid≠u):Ls.findIdx? (λL=>L.uid == u)=none/\aL Ls u=none:=by
 show ⟨List.findIdx?_eq_none_iff.mpr λL hL=>by simpa using h L hL,List.find?_eq_none.mpr λL hL=>by simpa using h L hL⟩
noncomputable def Bx.turn (B:Bx) (u:Int) (ns:List Str):Bx × Bool:=match B.letters.findIdx? (λL=>L.uid == u) with
 | some i=>(match aL B.letters u with
  | some L=>if L.flags=ns then (B,false) else (B.put i u L ns,true)
  | none=>(B,false))
 | none=>(B,false)
theorem Bx.turn_at (ha:BM B.letters) {i:Nat} (e:B.letters[i]?=some L) (hu:L.uid=u):B.turn u ns=if L.flags=ns then (B,false) else (B.put i u L ns,true):=by
 obtain ⟨h1,h2⟩:=sE ha e hu;unfold Bx.turn;rw [h1,h2]
theorem fG (x:AG c) (cm:c.calm=true) (lv:8<=c.lv) (hB:AD U A B) (hz:B.letters.length<=900) (ha:BM B.letters) (hf:∀ t∈fs,t.length<=1000) (hl:fs.length < 64)
  (k:∀ ns U',ae fs=some ns->(∃ L∈B.letters,L.uid=u)->AD U' A (B.turn u ns).1->Fr A.foot U U'->Q (.bool (B.turn u ns).2) U')
  (kx:(ae fs=none\/∀ L∈B.letters,L.uid≠u)->Ak X U):AM VR c V [.ref A.x,.int u,.tup (fs.map .str)] (λvs=>call (.ref 200) vs) U Q X :=
 lT x cm lv hB hz ha hf hl
  (λns i L U' h1 h2 h3 h4 h5 h6=>by
   have:=k ns U' h1 ⟨L,Eo h2,h3⟩;rw [Bx.turn_at ha h2 h3,Zv h4] at this
   show this h5 h6)
  (λns i L h1 h2 h3 h4=>by
   have:=k ns U h1 ⟨L,Eo h2,h3⟩;rw [Bx.turn_at ha h2 h3,Zw h4] at this
   show this hB Fr.refl) kx
noncomputable def aW (un:Option Int) (way:Str) (fs:List Str) (st:Bx × List Int) (L:AV):Bx × List Int :=
 if bn un L then st else let r:=st.1.turn L.uid (aG L.flags way fs);(r.1,if r.2 then st.2++[L.uid] else st.2)
noncomputable def Bx.picked (B:Bx) (us:List Int):List AV:=(bh (once [] us)).filterMap (aL B.letters)
noncomputable def Bx.storeF (B:Bx) (un:Option Int) (way:Str) (fs:List Str) (us:List Int):Bx × List Int:=(B.picked us).foldl (aW un way fs) (B,[])
theorem rl {xs:List Addr} (h:AN U xs Ls) (ha:BM Ls):∀ us:List Int,∃ as,((us.map (ixOf Ls)).filter (λi=>decide (0<=i))).map (λi=>AB.ref (xs[i.toNat]?.getD 0))=as.map .ref/\AN U as (us.filterMap (aL Ls)):=by
 intro us
 induction us with
 | nil =>
  show ⟨[],rfl,.nil⟩
 | cons u us ih =>
  obtain ⟨as⟩|⟨h1,h2⟩:=(ih)
  by_cases hu:∃ L∈Ls,L.uid=u
  ·obtain ⟨L⟩|⟨hL,e⟩:=hu;obtain ⟨i,hi⟩:=List.mem_iff_getElem?.mp hL;obtain ⟨e1,e2⟩:=sE ha hi e;obtain ⟨a⟩|⟨hx,hLa⟩:=(h.get hi)
   show ⟨a::as,?_,?_⟩
   ·rw [E5,EP]
    have:ixOf Ls u=(i:Int):=by unfold ixOf;rw [e1]
    rw [this,Zw s!"s",E5,h1];simp [hx]
   ·rw [E0,e2];show .cons hLa h2
  ·obtain ⟨e1,e2⟩:=gv (Ls:=Ls) (u:=u) (λL hL e=>hu ⟨L,hL,e⟩);show ⟨as,?_,?_⟩
   ·rw [E5,EP]
    have:ixOf Ls u=-1:=by unfold ixOf;rw [e1]
    rw [this,Zv s!"d",h1]
   ·rw [E0,e2];show h2
theorem eZ (ha:BM B.letters):(B.turn u ns).1.letters.map (·.uid)=B.letters.map (·.uid):=by
 by_cases h:∃ L∈B.letters,L.uid=u
 ·obtain ⟨L⟩|⟨hL,e⟩:=h;obtain ⟨i,hi⟩:=List.mem_iff_getElem?.mp hL;rw [Bx.turn_at ha hi e];split
  ·rfl
  ·change (B.letters.set i _).map _=_;rw [El];apply List.ext_getElem?;intro j;rw [List.getElem?_set];split
   ·rename_i h;subst h;split
    ·rw [ER,hi];simp [e]
    ·rename_i h;rw [EN];simpa using h
   ·rfl
 ·obtain ⟨e1,e2⟩:=gv (Ls:=B.letters) (u:=u) (λL hL e=>h ⟨L,hL,e⟩);unfold Bx.turn;rw [e1,e2]
theorem asc_uids :BM Ls↔(Ls.map (·.uid)).Pairwise (· < ·):=by unfold BM;rw [EJ]
theorem iX (h1:lf.length < 32) (h2:fs.length < 32):(aG lf way fs).length < 64:=by
 unfold aG;split
 ·cases z:ae (lf++fs) with
  | none=>simp
  | some ns=>have:=cH z;simp at this ⊢;left
 ·split
  ·show Nat.lt_of_le_of_lt (Em _ _) s!"o"
  ·left
theorem gX (h1:∀ t∈lf,t.length<=1000) (h2:∀ t∈fs,t.length<=1000):∀ t∈aG lf way fs,t.length<=1000:=by
 unfold aG;split
 ·cases z:ae (lf++fs) with
  | none=>intro t ht;cases ht
  | some ns=>show ce (λt ht=>(ZA ht).elim (h1 t) (h2 t)) z
 ·split
  ·show λt ht=>h1 t (ZF ht).1
  ·show h2
theorem iF (x:AG c) (cm:c.calm=true) (lv:8<=c.lv) (hL:AX U l L) (hcl:Ax L.flags) (hfs:Ax fs) (hw:way = "+" \/ way = "-" \/ way = "=")
  (k:Q (.tup ((aG L.flags way fs).map .str)) U):AM VR c V [.ref l,.str way,.tup (fs.map .str)] (λvs=>call (.ref 205) vs) U Q X :=
 jQ x cm lv hL hfs.2.1 hfs.2.2 hcl.2.1 hcl.2.2
  (λns ms h1 h2 h3=>by
   rw [hfs.1] at h2;cases h2
   unfold aG at k;rw [Zw h1,h3] at k;show k)
  (λns h1 h2=>by
   rw [hfs.1] at h2;cases h2
   unfold aG at k;rw [Zv (by rw [h1];decide +kernel),Zw h1] at k;show k)
  (λns h1 h2=>by
   rw [hfs.1] at h2;cases h2
   unfold aG at k;rw [Zv (by rw [h1];decide +kernel),Zv (by rw [h1];decide +kernel)] at k;show k)
  (λh=>by
   exfalso;rcases h with h | h | h
   ·rw [hfs.1] at h;cases h
   ·obtain ⟨ns,h2⟩:=fz hcl.1 hfs.1;rw [(h _ hfs.1).2] at h2;cases h2
   ·rcases hw with hw | hw | hw
    ·show h.1 hw
    ·show h.2.1 hw
    ·show h.2.2 hw)
theorem iY {un:Option Int} (x:AG c) (cm:c.calm=true) (lv:10<=c.lv) (hB:AD U A B) (hz:B.letters.length<=900) (ha:BM B.letters) (hus:us.length < 64)
  (hcan:∀ L∈B.letters,Ax L.flags) (hfs:Ax fs) (hw:way = "+" \/ way = "-" \/ way = "=")
  (k:∀ U' C R,U' C=some (.list ((B.storeF un way fs us).2.map .int))->U' R=some (.list (((B.picked us).filter (bn un)).map λL=>.int L.uid))->AD U' A (B.storeF un way fs us).1->Fr A.foot U U'->C∉A.foot->R∉A.foot->Q (.tup [.ref C,.ref R]) U') :
  AM VR c V [.ref A.x,.tup (us.map .int),.str way,.tup (fs.map .str),optI un] (λvs=>call (.ref 238) vs) U Q X:=by
 show ex1 hB.l λxs h6z=>?_;show an2 h6z λhlx hL=>?_;clear h6z;show pX s!"o" (f238 x) uZ rfl (λy hy=>?_) (λvs s hl b=>bind238 x vs s hl b) λLA=>?_
 ·have h:(fd238.scope.names.take 5).all (λx=>x.2 == .local || x.2 == .cell)=true:=s!"k";have:=List.all_eq_true.mp h y hy;rw [Bool.or_eq_true] at this;show this.imp eq_of_beq eq_of_beq
 change Al _ [⟨"box",.cell,some (.ref A.x)⟩,⟨"uids",.local,some (.tup (us.map .int))⟩,⟨"way",.local,some (.str way)⟩,⟨"flags",.local,some (.tup (fs.map .str))⟩,⟨"unless",.cell,some (optI un)⟩,⟨"letters",.local,none⟩,⟨"letter",.local,none⟩,⟨"refused",.local,none⟩,⟨"changed",.local,none⟩,.gl "distinct",.gl "is_refused",.gl "set_flags",.gl "flags_after"] (_::_) _ _ _ _;have hdl:(bh (once [] us)).length < 64:=by
  rw [(aX _).length_eq];have:=gj us [];simp at this;left
 show af ?_;show cc Int rfl s!"cns" s!"cok" ?_;show ev_compA Int rfl s!"cns" s!"cok" s!"cp" ?_;right;show mQ s!"lib" cm s!"lv" hus λU1 D₁ l₁ h₁=>?_;show .mk (bh (once [] us)) .int (λu=>.int (ixOf B.letters u)) _ (ar h₁) (λU' l=>l _ _ h₁) (sz s!"o") (λcl C u hu U2 l₂=>?_) λU2 D₂ l₂ hDE hh2=>?_
 ·have l:=l₁.trans l₂;have hB2:=hB.le l;right;show eF s!"lib" cm s!"lv" (l _ _ hlx) (hL.le l) s!"o" ha (λi L e1 e2=>⟨?_,Le.refl _⟩) (λhn=>⟨?_,Le.refl _⟩)
  ·change _=AB.int (ixOf B.letters u);unfold ixOf;rw [(sE ha e1 e2).1]
  ·change _=AB.int (ixOf B.letters u);unfold ixOf;rw [(gv hn).1]
 obtain ⟨as⟩|⟨e1,hLa⟩:=(rl hL ha (bh (once [] us)))
 have hlen:(B.picked us).length < 64:=Nat.lt_of_le_of_lt (List.length_filterMap_le _ _) hdl
 show ⟨(bh (once [] us)).map (ixOf B.letters),.int,λi=>decide (0<=i),λi=>.ref (xs[i.toNat]?.getD 0),λU'=>Le U2 U',_,
  by rw [E9];show ar hh2,λ_ _ h l=>h.trans l,sz (by rw [EQ];left),Le.refl _,λU' l=>l _ _ hh2,λcl C i hi=>?_,λU3 D₃ l₃ hDH=>?_⟩
 ·intro U3 l₃;have l:=(l₁.trans l₂).trans l₃;show aD (ac s!"r" ?_) ⟨_,.tail _ Zh,rfl,rfl⟩;show aT ?_;right;show ⟨rfl,?_⟩;show ah (λh=>?_) (λ_=>Le.refl _);have hi0:0<=i:=of_decide_eq_true h;have hB3:=hB.le l;obtain ⟨u⟩|⟨_,rfl⟩:=(ZM hi)
  obtain ⟨n,en⟩:∃ n:Nat,ixOf B.letters u=(n:Int)/\n < xs.length:=by
   unfold ixOf at hi0 ⊢;split
   ·rename_i i hi;show ⟨i,rfl,by rw [hL.len];show (List.findIdx?_eq_some_iff_getElem.mp hi).1⟩
   ·rename_i hi;rw [hi] at hi0;show absurd hi0 s!"d"
  rw [en.1];right;have hx:xs[n]?=some xs[n]:=EW en.2;show be (n:=n) (l _ _ hlx) (by have:=hL.len;left) (y:=.ref xs[n]) (by rw [ER,hx];rfl) ⟨?_,Le.refl _⟩;change AB.ref _=AB.ref (xs[((n:Int)).toNat]?.getD 0);rw [Int.toNat_natCast,hx];rfl
 show ac s!"r" ?_;rw [e1];show bJ hDH λU4 l₄ h₄=>?_;have l:=((l₁.trans l₂).trans l₃).trans l₄;have hLa4:AN U4 as (B.picked us):=hLa.le l;show af ?_;show cc (Addr × AV) rfl s!"cns" s!"cok" ?_;right;show ⟨as.zip (B.picked us),λp=>.ref p.1,λp=>bn un p.2,λp=>.int p.2.uid,λU'=>Le U4 U',_,by rw [cY hLa4.len];show ar h₄,λ_ _ h l=>h.trans l,sz (by rw [Ej];left),Le.refl _,λU' l=>l _ _ h₄,λcl C p hp=>?_,λU5 R l₅ hR=>?_⟩
 ·intro U5 l₅;show aD (ac s!"r" ?_) ⟨_,.tail _ Zh,rfl,rfl⟩;show aT ?_;have hp':=(hLa4.zipMem p hp).le l₅;right;show fK s!"lib" cm s!"lv" hp' ?_;right;show ⟨rfl,?_⟩;show ah (λ_=>?_) (λ_=>Le.refl _);right;show ⟨rfl,Le.refl _⟩
 show ac s!"r" ?_;show bJ hR λU6 l₆ h₆=>?_;right;show ⟨s!"d",λCc hC=>(ac s!"r" ?_)⟩;show bJ hC λU7 l₇ h₇=>?_;have lA:=l.trans ((l₅.trans l₆).trans l₇);have l47:=(l₅.trans l₆).trans l₇;have hBz:=hB.le lA;have hCσ:U Cc=none:=au (l.trans (l₅.trans l₆)) hC;have hRσ:U R=none:=au (l.trans l₅) hR;have hLσ:U D₃=none:=au ((l₁.trans l₂).trans l₃) hDH;have hCf:=dG hB hCσ;have hR6:U6 R=some (.list (((B.picked us).filter (bn un)).map λL=>.int L.uid)):=by
  rw [h₆]
  congr 2
  have:=hLa4.zip_snd;generalize B.picked us=Ls at this
  conv=>rhs;rw [<- this]
  rw [Eu,E9];rfl
 have hRC:R≠Cc:=λz=>by rw [z,hC] at hR6;cases hR6
 have hDC:D₃≠Cc:=λz=>by have:=(l₅.trans l₆) _ _ h₄;rw [z,hC] at this;cases this
 have hDf:D₃∉Cc::A.foot:=by rw [EC,not_or];show ⟨hDC,dG hB hLσ⟩
 have hRf:R∉Cc::A.foot:=by rw [EC,not_or];show ⟨hRC,dG hB hRσ⟩
 show af ?_;show bu (α:=Addr × AV) (λp=>.ref p.1) rfl ?_;right
 let J1:=λ(r:List (Addr × AV)) (V':List NV) (U':AA)=>∃ v done,V'=[⟨"box",.cell,some (.ref A.x)⟩,⟨"uids",.local,some (.tup (us.map .int))⟩,⟨"way",.local,some (.str way)⟩,⟨"flags",.local,some (.tup (fs.map .str))⟩,⟨"unless",.cell,some (optI un)⟩,⟨"letters",.local,some (.ref D₃)⟩,⟨"letter",.local,v⟩,⟨"refused",.local,some (.ref R)⟩,⟨"changed",.local,some (.ref Cc)⟩,.gl "distinct",.gl "is_refused",.gl "set_flags",.gl "flags_after"]/\Fr (Cc::A.foot) U7 U'/\AD U' A (done.foldl (aW un way fs) (B,[])).1/\U' Cc=some (.list ((done.foldl (aW un way fs) (B,[])).2.map .int))/\B.picked us=done++r.map (·.2)/\(∀ p∈r,AX U' p.1 p.2)/\(done.foldl (aW un way fs) (B,[])).1.letters.map (·.uid)=B.letters.map (·.uid)/\(done.foldl (aW un way fs) (B,[])).2.length<=done.length
 show ⟨as.zip (B.picked us),_,J1,
  by rw [cY hLa4.len];show ar (l47 _ _ h₄),(ei2 _ ([]) (ai8 rfl Fr.refl hBz h₇ (by rw [hLa4.zip_snd];rfl) (λp hp=>(hLa4.le l47).zipMem p hp) rfl (Nat.le_refl _))),
  λ_ _ U' z=>ex2 z λ_ _ q=>by have f:=q.2.1;show f _ _ (l47 _ _ h₄) hDf,?_,?_⟩
 ·intro r1z r V1 U8 r2z;obtain ⟨a,L⟩:=r1z;obtain ⟨v,done⟩|⟨rfl,f,hB8,hC8,hpk,hr,hu,hln⟩:=r2z;have hL8:=hr _ Zh;dsimp only at hL8 hpk;have hpl:done.length < 64:=by have:=congrArg List.length hpk;simp at this;left
  have hLB:L∈B.letters:=by
   have:L∈B.picked us:=by rw [hpk];simp
   unfold Bx.picked at this;obtain ⟨u⟩|⟨_,hu⟩:=(List.mem_filterMap.mp this)
   show Ek hu
  have hcl:=hcan L hLB;generalize est:done.foldl (aW un way fs) (B,[])=st at *;have hst:(done++[L]).foldl (aW un way fs) (B,[])=aW un way fs st L:=by rw [Ec,est];rfl
  have hlz:st.1.letters.length<=900:=by have:=congrArg List.length hu;simp at this;left
  have hasc:BM st.1.letters:=by rw [asc_uids,hu,<- asc_uids];show ha
  have hin:∃ M∈st.1.letters,M.uid=L.uid:=by
   have:L.uid∈st.1.letters.map (·.uid):=by rw [hu];show E7 hLB
   show ZM this
  have hCne:Cc∉A.foot:=hCf;show aB rfl (ac s!"r" ?_);right;show fK s!"lib" cm s!"lv" hL8 ?_;right;show ah (λh=>?_) (λh=>?_)
  ·have hrf:bn un L=false:=by simpa using h
   right;show iF s!"lib" cm s!"lv" hL8 hcl hfs hw ?_;right;show fG s!"lib" cm s!"lv" hB8 hlz hasc (gX hcl.2.1 hfs.2.1) (iX hcl.2.2 hfs.2.2) (λns U9 hns _ hB9 f₉=>?_) (λh=>?_)
   ·rw [cF hcl.1 hfs.1] at hns;cases hns;have hC9:=f₉ _ _ hC8 hCne;have fA:Fr (Cc::A.foot) U8 U9:=f₉.mono λb hb=>.tail _ hb;have hr9:∀ p∈r,AX U9 p.1 p.2:=λp hp=>(hr p (.tail _ hp)).fr f₉ hB8.noL;have hL9:AX U9 a L:=hL8.fr f₉ hB8.noL;have hsu:(aW un way fs st L).1=(st.1.turn L.uid (aG L.flags way fs)).1:=by unfold aW;rw [hrf];rfl
    have hs2:(aW un way fs st L).2=if (st.1.turn L.uid (aG L.flags way fs)).2 then st.2++[L.uid] else st.2:=by unfold aW;rw [hrf];rfl
    right;show ah (λh=>?_) (λh=>?_)
    ·rw [h] at hs2;right;show ⟨cK hC9,?_⟩;right;show ct hC9 (sz (by rw [EQ];left)) ?_;right;have f5:Fr [Cc] U9 (U9.set Cc (.list (st.2.map .int++[.int L.uid]))):=Fr.refl.set Zh;have nP:B0 U9 [Cc]:=λb hb=>by rw [ZS hb,hC9];show .list
     show AK.of Zr (ei2 _ (done++[L]) (ai8 rfl ((f.trans fA).trans (f5.mono λb hb=>by rw [ZS hb];show .head _)) ?_ ?_ (by rw [hpk];simp) (λp hp=>(hr9 p hp).fr f5 nP) ?_ ?_))
     ·rw [hst,hsu];show hB9.fr f5 nP (λb hb z=>hCf (by rw [<- ZS z];show hb))
     ·rw [hst,hs2,Zs];simp
     ·rw [hst,hsu,eZ hasc,hu]
     ·rw [hst,hs2];simp;left
    ·rw [h] at hs2;right;show AK.of Zr (ei2 _ (done++[L]) (ai8 rfl (f.trans fA) ?_ ?_ (by rw [hpk];simp) hr9 ?_ ?_))
     ·rw [hst,hsu];show hB9
     ·rw [hst,hs2];show hC9
     ·rw [hst,hsu,eZ hasc,hu]
     ·rw [hst,hs2];simp;left
   ·exfalso;rcases h with h | h
    ·rw [cF hcl.1 hfs.1] at h;cases h
    ·obtain ⟨M⟩|⟨hM,e⟩:=hin;show h M hM e
  ·have hrf:bn un L=true:=by simpa using h
   right;have hss:aW un way fs st L=st:=by unfold aW;rw [hrf];rfl
   show AK.of Zr (ei2 _ (done++[L]) (ai8 rfl f ?_ ?_ (by rw [hpk];simp) (λp hp=>hr p (.tail _ hp)) ?_ ?_))
   ·rw [hst,hss];show hB8
   ·rw [hst,hss];show hC8
   ·rw [hst,hss,hu]
   ·rw [hst,hss];simp;left
 ·intro V1 U8 r3z;obtain ⟨v,done⟩|⟨rfl,f,hB8,hC8,hpk,hr,hu,hln⟩:=r3z;rw [Ep,ET] at hpk;subst hpk;right;show k U8 Cc R hC8 (f _ _ (l₇ _ _ hR6) hRf) hB8 (Fr.drop (P:=Cc) ?_ hCσ) hCf (λz=>hRf (.tail _ z));show (lA.fr (F:=Cc::A.foot)).trans f
end
section
variable {c:Cx}{V:List NV}{U U1 Y:AA}{Q:AB->AA->Prop}{X:AC->AA->Prop}{K:Option Int->AA->Prop}
theorem qO (q:K none U):BU c V none U K X:=q
theorem q9 {e:Expr} (q:Ev c V e U (CZ K) X):BU c V (some e) U K X:=q
theorem tup1 {P:Prop} (q:P):[a].length<=sizeLine/\P:=⟨by simp [sizeLine],q⟩
theorem tup2 {b:AB}{P:Prop} (q:P):[a,b].length<=sizeLine/\P:=⟨by simp [sizeLine],q⟩
theorem tup3 {b d:AB}{P:Prop} (q:P):[a,b,d].length<=sizeLine/\P:=⟨by simp [sizeLine],q⟩
theorem tup4 {b d e:AB}{P:Prop} (q:P):[a,b,d,e].length<=sizeLine/\P:=⟨by simp [sizeLine],q⟩
theorem tup5 {b d e f:AB}{P:Prop} (q:P):[a,b,d,e,f].length<=sizeLine/\P:=⟨by simp [sizeLine],q⟩
theorem tup6 {b d e f g:AB}{P:Prop} (q:P):[a,b,d,e,f,g].length<=sizeLine/\P:=⟨by simp [sizeLine],q⟩
theorem tup7 {b d e f g h:AB}{P:Prop} (q:P):[a,b,d,e,f,g,h].length<=sizeLine/\P:=⟨by simp [sizeLine],q⟩
theorem uh (q:Q a U):A3 c V (.tup (a::as)) (.int 0) U Q X:=cG s!"d" s!"d" rfl q
theorem uL {b:AB} (q:Q b U):A3 c V (.tup (a::b::as)) (.int 1) U Q X:=cG s!"d" s!"d" rfl q
theorem ul {b d:AB} (q:Q d U):A3 c V (.tup (a::b::d::as)) (.int 2) U Q X:=cG s!"d" s!"d" rfl q
theorem ui {b d e:AB} (q:Q e U):A3 c V (.tup (a::b::d::e::as)) (.int 3) U Q X:=cG s!"d" s!"d" rfl q
theorem uq {b d e f:AB} (q:Q f U):A3 c V (.tup (a::b::d::e::f::as)) (.int 4) U Q X:=cG s!"d" s!"d" rfl q
theorem ur {b d e f g:AB} (q:Q g U):A3 c V (.tup (a::b::d::e::f::g::as)) (.int 5) U Q X:=cG s!"d" s!"d" rfl q
end
section
variable {c:Cx}{V:List NV}{U U1 Y:AA}{Q:AB->AA->Prop}{X:AC->AA->Prop}
noncomputable def aZ (x:Str):Str × Str:=if Txt.find x "/" < 0 then (x, "") else (Txt.slice x none (some (Txt.find x "/")),Txt.slice x (some (Txt.find x "/")) none)
theorem j8 {t:Str} (x:AG c) (cm:c.calm=true) (lv:1<=c.lv) (hz:t.length<=1000) (k:Q (.tup [.str (aZ t).1,.str (aZ t).2]) U):AM VR c V [.str t] (λvs=>call (.ref 269) vs) U Q X:=by
 show ag f269 x s!"o" s!"r" rfl s!"r" λLA=>?_;ext;unfold aZ at k;show ah (λh=>?_) (λh=>?_)
 ·have h:Txt.find t "/" < 0:=of_decide_eq_true h;rw [Zw h] at k;ext;show k
 ·have h:¬ Txt.find t "/" < 0:=of_decide_eq_false h;rw [Zv h] at k;ext;show k
noncomputable def du (d:Nat):Nat:=if 97<=d/\d<=122 then d - 32 else d
noncomputable def hV (x:Str):Str:=Txt.join "" (x.cps.toList.map λd=>⟨#[du d]⟩)
theorem ki {t:Str} (x:AG c) (cm:c.calm=true) (lv:1<=c.lv) (hz:t.length<=1000) (k:Q (.str (hV t)) U):AM VR c V [.str t] (λvs=>call (.ref 255) vs) U Q X:=by
 show AM.tidy ?_;show ag f255 x s!"o" s!"r" rfl s!"r" λLA=>?_;ext;show ev_compA Nat rfl s!"cns" s!"cok" s!"cp" ?_;ext;show .mk t.cps.toList (λd=>.str ⟨#[d]⟩) (λd=>.str ⟨#[du d]⟩) _ sB (λ_ _=>trivial) (sz (by simpa [Str.length] using Zt hz s!"d")) (λcl C d hd U2 l2=>?_) λU3 D l₃ hD h₃=>?_
 ·ext;have q:∀ a b:Nat,decide ([a] < [b])=decide (a < b):=λa b=>by simp [List.cons_lt_cons_iff]
  show ah (λh=>?_) (λh=>?_)
  ·have h1:97<=d:=by
    have h:(!decide ([d] < [97]))=true:=h;rw [q] at h;simpa using h
   ext;show ah (λh=>?_) (λh=>?_)
   ·have h2:d<=122:=by
     have h:(!decide ([122] < [d]))=true:=h;rw [q] at h;simpa using h
    ext;show uc s!"o" s!"o" ⟨?_,Le.refl _⟩;change AB.str ⟨#[((d:Int) - 32).toNat]⟩=AB.str ⟨#[du d]⟩
    have:((d:Int) - 32).toNat=d - 32:=rj (k:=32) (Zt s!"d" h1);rw [this,du,Zw ⟨h1,h2⟩]
   ·have h2:¬ d<=122:=by
     have h:(!decide ([122] < [d]))=false:=h;rw [q] at h;simpa using h
    ext;show ⟨?_,Le.refl _⟩;change AB.str ⟨#[d]⟩=AB.str ⟨#[du d]⟩;rw [du,Zv (λz=>h2 z.2)]
  ·have h1:¬ 97<=d:=by
    have h:(!decide ([d] < [97]))=false:=h;rw [q] at h;simpa using h
   ext;show ⟨?_,Le.refl _⟩;change AB.str ⟨#[d]⟩=AB.str ⟨#[du d]⟩;rw [du,Zv (λz=>h1 z.1)]
 ·ext;show lK (ys:=t.cps.toList.map λd=>⟨#[du d]⟩) (by rw [h₃,E9];rfl) ?_ ?_
  ·rw [E9,EQ]
   have:(t.cps.toList.map ((λx:Str=>x.length)∘λd=>(⟨#[du d]⟩:Str))).sum=t.cps.toList.length:=by
    generalize t.cps.toList=l
    induction l with
    | nil=>rfl
    | cons a l ih=>rw [E5,Ew,ih,EF];simp [Str.length];left
   rw [this]
   have:t.cps.toList.length<=1000:=by simpa [Str.length] using hz
   have e:Str.length "" = 0:=rfl;rw [e];left
  ·show AK.of l₃ k
theorem jC (x:AG c) (lv:1<=c.lv) (k:Q (.bool (decide (55296<=i) && decide (i<=57343))) U):AM VR c V [.int i] (λvs=>call (.ref 262) vs) U Q X:=by
 show ag f262 x s!"o" s!"r" rfl s!"r" λLA=>?_;ext;show ah (λh=>?_) (λh=>?_)
 ·ext;rw [h,Bool.true_and] at k;show k
 ·rw [h] at k ⊢;show k
noncomputable def fS (i:Int):Bool:=decide (i < 32) || (decide (127<=i) && decide (i<=159)) || i == 8232 || i == 8233 || (decide (55296<=i) && decide (i<=57343))
theorem gE (x:AG c) (lv:2<=c.lv) (k:Q (.bool (fS i)) U):AM VR c V [.int i] (λvs=>call (.ref 283) vs) U Q X:=by
 show ag f283 x s!"o" s!"r" rfl s!"r" λLA=>?_;ext;unfold fS at k;show ah (λh=>?_) (λh=>?_)
 ·rw [h,Bool.true_or,Bool.true_or,Bool.true_or,Bool.true_or] at k;rw [h];show k
 rw [h,Bool.false_or] at k;ext;show ah (λh1=>?_) (λh1=>?_)
 ·ext;rw [h1,Bool.true_and] at k;show ah (λh2=>?_) (λh2=>?_)
  ·rw [h2] at k ⊢;show k
  rw [h2,Bool.false_or] at k;ext;show ah (λh3=>?_) (λh3=>?_)
  ·rw [h3] at k ⊢;show k
  rw [h3,Bool.false_or] at k;ext;show ah (λh4=>?_) (λh4=>?_)
  ·rw [h4] at k ⊢;show k
  rw [h4,Bool.false_or] at k;ext;show jC s!"lib" s!"lv" ?_;ext;show k
 ·rw [h1,Bool.false_and,Bool.false_or] at k;ext;rw [h1];ext;show ah (λh3=>?_) (λh3=>?_)
  ·rw [h3] at k ⊢;show k
  rw [h3,Bool.false_or] at k;ext;show ah (λh4=>?_) (λh4=>?_)
  ·rw [h4] at k ⊢;show k
  rw [h4,Bool.false_or] at k;ext;show jC s!"lib" s!"lv" ?_;ext;show k
noncomputable def aa (t:Str):Str:=if hV (aZ t).1 = "INBOX" then "INBOX" ++ (aZ t).2 else t
theorem fM (t:Str):(aZ t).1.length<=t.length/\(aZ t).2.length<=t.length:=by
 unfold aZ;split
 ·show ⟨Nat.le_refl _,Nat.zero_le _⟩
 ·show ⟨PyProof.Txt.length_slice_le ..,PyProof.Txt.length_slice_le ..⟩
theorem da {t:Str} (x:AG c) (cm:c.calm=true) (lv:3<=c.lv) (hz:t.length<=1000) (k:Q (.str (aa t)) U):AM VR c V [.str t] (λvs=>call (.ref 276) vs) U Q X:=by
 show ag f276 x s!"o" s!"r" rfl s!"r" λLA=>?_;show af ?_;show d7 ?_;ext;show j8 s!"lib" cm s!"lv" hz ?_;show cX (as:=[.str (aZ t).1,.str (aZ t).2]) ?_ nm2 rfl;change BN _ _ _ _ _ _ _;show aB rfl (ac s!"r" ?_);change BN _ _ _ _ _ _ _;show aB rfl (ac s!"r" ?_);change Al _ _ _ _ _ _ _;have hl:=fM t;ext;show ki s!"lib" cm s!"lv" s!"o" ?_;ext;unfold aa at k;show ah (λh=>?_) (λh=>?_)
 ·have h:hV (aZ t).1 = "INBOX" := by simpa using h
  rw [Zw h] at k;ext;show ig (sz (by have:Str.length "INBOX" = 5:=rfl;left)) ?_;ext;show k
 ·have h:¬ hV (aZ t).1 = "INBOX" := by simpa using h
  rw [Zv h] at k;ext;show k
end
section
variable {c:Cx}{V:List NV}{U U1 Y:AA}{Q:AB->AA->Prop}{X:AC->AA->Prop}
theorem fW:∀ (n k:Nat),nums (k:Int) n=(List.range' k n).map λ(i:Nat)=>AB.int (i:Int)
 | 0,k=>rfl
 | n+1,k=>by
  have:=fW n (k+1);rw [Ex,E5,<- this];rfl
noncomputable def im (d:Nat):Bool:=!(Builtin.Str.occurrences "%*" ⟨#[d]⟩ 0 2 1).isEmpty
noncomputable def cQ:List Nat->Nat->Nat->Bool
 | [],at',b=>b != at'
 | d::ds,at',b=>if d=47 then (if at'=b then false else cQ ds (at'+1) (at'+1)) else if im d then false else if fS d then false else cQ ds (at'+1) b
theorem gO {a b:Nat}:cQ [] a b=(b != a):=rfl
theorem kD {d:Nat}{ds:List Nat}{a b:Nat}:cQ (d::ds) a b=if d=47 then (if a=b then false else cQ ds (a+1) (a+1)) else if im d then false else if fS d then false else cQ ds (a+1) b:=rfl
noncomputable def aJ (t:Str):Bool:=cQ t.cps.toList 0 0
theorem kz {t:Str} (x:AG c) (cm:c.calm=true) (lv:4<=c.lv) (hz:t.length<=1000) (k:aJ t=true->Q (.str t) U) (kx:aJ t=false->∀ w i,X ⟨52,.str w,.int i,true⟩ U):AM VR c V [.str t] (λvs=>call (.ref 290) vs) U Q X:=by
 show AM.tidyX ?_;show ag f290 x s!"o" s!"r" rfl s!"r" λLA=>?_;ext;show af ?_;show bu (α:=Nat) (λi=>.int i) rfl ?_;ext;show dI λD hD=>?_;have en:nums 0 ((t.length:Int) - 0).toNat=(List.range' 0 t.length).map λ(i:Nat)=>AB.int (i:Int):=by
  rw [<- fW t.length 0];simp
 let J1:=λ(r:List Nat) (V':List NV) (U':AA)=>∃ n b v w,n<=t.length/\r=List.range' n (t.length - n)/\V'=[⟨"text",.local,some (.str t)⟩,⟨"begin",.local,some (.int ((b:Nat):Int))⟩,⟨"at",.local,v⟩,⟨"sign",.local,w⟩,.gl "range",.gl "len",.gl "DELIMITER",.gl "NameFault",.gl "WILD_SIGNS",.gl "is_barred_code",.gl "ord"]/\Le U U'/\cQ (t.cps.toList.drop n) n b=aJ t
 show ⟨List.range' 0 t.length,_,J1,
  by rw [<- en];show dC (Zs ..) s!"d" s!"d" s!"o" s!"o",⟨0,0,_,_,Nat.zero_le _,rfl,rfl,Zl hD,rfl⟩,λ_ _ _ _=>trivial,?_,?_⟩
 ·intro y ys V1 U1 r1z;obtain ⟨n,b,v,w⟩|⟨hn,hr,rfl,l,hok⟩:=r1z;have hn':n < t.length:=by
   have:=congrArg List.length hr;simp at this;left
  have er:t.length - n=(t.length - (n+1))+1:=tq hn';rw [er,Ex] at hr;cases hr;have hx:y < t.cps.toList.length:=by simpa [Str.length] using hn'
  have hd:t.cps.toList.drop y=t.cps.toList[y]::t.cps.toList.drop (y+1):=List.drop_eq_getElem_cons hx;have hx':t.cps[y]?=some t.cps.toList[y]:=by
   rw [<- Array.getElem?_toList];show EW hx
  generalize t.cps.toList[y]=d at hd hx';rw [hd] at hok;rw [kD] at hok;show aB rfl (ac s!"r" ?_);ext;show pV (d:=d) (Int.natCast_nonneg y) s!"o" (by rw [Int.toNat_natCast];show hx') ?_;ext;show ah (λh=>?_) (λh=>?_)
  ·have h:d=47:=by
    have:(⟨#[d]⟩:Str)=⟨#[47]⟩:=eq_of_beq h;simpa using this
   rw [Zw h] at hok;ext;show ah (λh2=>?_) (λh2=>?_)
   ·have h2:(y:Int)=b:=eq_of_beq h2;have h2:y=b:=s!"o";rw [Zw h2] at hok;ext;show ⟨U,l,kx hok.symm _ _⟩
   ·have h2:¬ (y:Int)=b:=λe=>by rw [e] at h2;simp at h2
    have h2:¬ y=b:=s!"o";rw [Zv h2] at hok;ext;show AK.of Zr ⟨y+1,y+1,_,_,hn',rfl,rfl,l,hok⟩
  ·have h:¬ d=47:=λe=>by rw [e] at h;show absurd h s!"k"
   rw [Zv h] at hok;ext;show ah (λh2=>?_) (λh2=>?_)
   ·have h2:im d=true:=h2;rw [Zw h2] at hok;ext;show ⟨U,l,kx hok.symm _ _⟩
   ·have h2:¬ im d=true:=by rw [show im d=false from h2];decide
    rw [Zv h2] at hok;ext;show gE s!"lib" s!"lv" ?_;ext;show ah (λh3=>?_) (λh3=>?_)
    ·rw [Zw h3] at hok;ext;show ⟨U,l,kx hok.symm _ _⟩
    ·rw [Zv (by rw [h3];decide)] at hok;ext;show AK.of Zr ⟨y+1,b,_,_,hn',rfl,rfl,l,hok⟩
 ·intro V1 U1 r2z;obtain ⟨n,b,v,w⟩|⟨hn,hr,rfl,l,hok⟩:=r2z;have hn':n=t.length:=by
   have:=congrArg List.length hr;simp at this;left
  subst hn';have hd:t.cps.toList.drop t.length=[]:=List.drop_eq_nil_of_le (by simp [Str.length]);rw [hd] at hok;ext;show ah (λh=>?_) (λh=>?_)
  ·ext;have hb:(b:Int)=t.length:=eq_of_beq h;have hb:b=t.length:=s!"o";show ⟨U,l,kx ?_ _ _⟩;rw [<- hok,gO];simp [hb]
  ·ext;have hb:¬ (b:Int)=t.length:=λe=>by rw [e] at h;simp at h
   have hb:b≠t.length:=s!"o";show AK.of l (k ?_);rw [<- hok,gO];simp [hb]
noncomputable def bl (n p:Str):Bool:=Txt.startswith n (p ++ "/")
theorem m0 {p:Str} (x:AG c) (cm:c.calm=true) (lv:1<=c.lv) (hz:n.length<=1000) (hp:p.length<=1000) (k:Q (.bool (bl n p)) U):AM VR c V [.str n,.str p] (λvs=>call (.ref 297) vs) U Q X:=by
 show ag f297 x s!"o" s!"r" rfl s!"r" λLA=>?_;ext;show ig (sz (by have:Str.length "/" = 1:=rfl;left)) ?_;ext;show k
end
section
variable {c:Cx}{V V' V₂:List NV}{U U1 Y:AA}{Q:AB->AA->Prop}{X:AC->AA->Prop}
theorem AL.same {x:Str} (l:AL V x):∀ {V':List NV},V'.map (λe=>(e.name,e.kind))=V.map (λe=>(e.name,e.kind))->AL V' x:=by
 induction l with
 | here =>
  intro V' h;cases V' with
  | nil=>cases h
  | cons e r =>
   obtain ⟨n,k,v⟩:=e;rw [E5,E5] at h;cases (List.cons.inj h).1;show .here
 | next _ ih =>
  intro V' h;cases V' with
  | nil=>cases h
  | cons e r=>show .next (ih (List.cons.inj h).2)
theorem BO.same {x:Str} (p:BO V x a V₂):∀ {V':List NV},V'.map (λe=>(e.name,e.kind))=V.map (λe=>(e.name,e.kind))->∀ v,∃ V₂,BO V' x v V₂:=by
 induction p with
 | here hk =>
  intro V' h v;cases V' with
  | nil=>cases h
  | cons e r =>
   obtain ⟨n,k,w⟩:=e;rw [E5,E5] at h;cases (List.cons.inj h).1;show ⟨_,.here hk⟩
 | next _ ih =>
  intro V' h v;cases V' with
  | nil=>cases h
  | cons e r=>obtain ⟨r2,p⟩:=ih (List.cons.inj h).2 v;show ⟨_,.next p⟩
theorem eB (t:Str):(aa t).length<=t.length+5:=by
 unfold aa;split
 ·have:=(fM t).2;have h5:Str.length "INBOX" = 5:=rfl;rw [Str.length_append,h5];left
 ·left
theorem BO.value {x:Str} (p:BO V x a V₂):Az V₂ x a:=by
 induction p with
 | here _=>show .here
 | next _ ih=>show .next ih
theorem ch {t:Str} (x:AG c) (cm:c.calm=true) (lv:8<=c.lv) (hz:t.length<=900) (k:aJ (aa t)=true->Q (.str (aa t)) U) (kx:aJ (aa t)=false->Ak X U):AM VR c V [.str t] (λvs=>call (.ref 382) vs) U Q X:=by
 show AM.tidyX ?_;have hl:=eB t;show ag f382 x s!"o" s!"r" rfl s!"r" λLA=>?_;ext;show da s!"lib" cm s!"lv" s!"o" ?_;ext;show af ?_;show qI (C:=52) rfl (λV' h=>AL.same s!"look" h) (g52 s!"lib") (i5 (AG.toK s!"lib")) (λV' h=>BO.same (a:=.none) (V₂:=_) s!"put" h) rfl rfl ?_;ext;show kz s!"lib" cm s!"lv" s!"o" (λhok=>?_) (λhno w i=>⟨rfl,rfl,?_⟩)
 ·ext;show AK.of Zr (k hok)
 ·intro e d vs m V₂ h1 h2 h3 h4 h5 h6 hp;have he:((U.set e (.exc 52 (some d) vs)).set d (.attrs cy m)) e=some (.exc 52 (some d) vs):=by rw [Zn h3,Zs]
  have hd:((U.set e (.exc 52 (some d) vs)).set d (.attrs cy m)) d=some (.attrs cy m):=Zs ..;have l:Le U ((U.set e (.exc 52 (some d) vs)).set d (.attrs cy m)):=(Zl h1).trans (Zl (by rw [Zn (Ne.symm h3)];show h2));generalize ((U.set e (.exc 52 (some d) vs)).set d (.attrs cy m))=U2 at he hd l;have y:AG ((c.call fd382 382 LA).hand e):=s!"lib";show af ?_;show i0 (AL.same s!"look" hp.names) (g64 y) (emk 64 (.inl rfl) y) s!"lv" ?_;show b8 (ev_attrE (ev_name hp.value ⟨e,52,d,vs,_,m,_,rfl,he,hd,h5,i5 y.toK,by rw [y.K];rfl,?_⟩));show b8 (ev_attrE (ev_name hp.value ⟨e,52,d,vs,_,m,_,rfl,he,hd,h6,i5 y.toK,by rw [y.K];rfl,?_⟩));show cT ⟨rfl,.inr ⟨e,52,some d,vs,rfl,he,h4⟩,(by simp:_<=5),.str w,.int i,trivial,trivial,bind2 y _ _,λfr _=>⟨U,l,kx hno _ _ _⟩⟩
end
section
variable {c:Cx}{V V' V₂:List NV}{U U1 Y:AA}{Q:AB->AA->Prop}{X:AC->AA->Prop}
theorem gy (x:AG c) (cm:c.calm=true) (lv:1<=c.lv) (k:Q (.bool true) U):AM VR c V [.int i] (λvs=>call (.ref 351) vs) U Q X:=by
 show ag f351 x s!"o" s!"r" rfl s!"r" λLA=>?_;ext;show k
theorem mC (x:AG c) (cm:c.calm=true) (lv:1<=c.lv) (hz:ts.length<=900) (k:Q (.bool true) U):AM VR c V [.tup (ts.map .str)] (λvs=>call (.ref 356) vs) U Q X:=by
 show AM.tidy ?_;show ag f356 x s!"o" s!"r" rfl s!"r" λLA=>?_;ext;show ev_compA Str rfl s!"cns" s!"cok" s!"cp" ?_;ext;show .mk ts .str (λ_=>.bool true) _ dR (λ_ _=>trivial) (sz s!"o") (λcl C d hd U2 l2=>?_) λU3 D l₃ hD h₃=>?_
 ·ext;show ⟨rfl,Le.refl _⟩
 ·ext;show sR (bs:=ts.map λ_=>true) (by rw [h₃,E9];rfl) ?_;have e:((ts.map λ_=>true).all id)=true:=by rw [EE,EU];intro _ _;rfl
  rw [e];show AK.of l₃ k
theorem i4 (x:AG c) (cm:c.calm=true) (lv:2<=c.lv) (hz:us.length<=900) (k:Q (.bool true) U):AM VR c V [.tup (us.map .int)] (λvs=>call (.ref 361) vs) U Q X:=by
 show AM.tidy ?_;show ag f361 x s!"o" s!"r" rfl s!"r" λLA=>?_;ext;show ev_compA Int rfl s!"cns" s!"cok" s!"cp" ?_;ext;show .mk us .int (λ_=>.bool true) _ dR (λ_ _=>trivial) (sz s!"o") (λcl C d hd U2 l2=>?_) λU3 D l₃ hD h₃=>?_
 ·ext;show gy s!"lib" cm s!"lv" ?_;show ⟨rfl,Le.refl _⟩
 ·ext;show sR (bs:=us.map λ_=>true) (by rw [h₃,E9];rfl) ?_;have e:((us.map λ_=>true).all id)=true:=by rw [EE,EU];intro _ _;rfl
  rw [e];show AK.of l₃ k
inductive BG:Str->AB->Prop
 | t (x:Str):BG "t" (.str x)
 | n (i:Int):BG "n" (.int i)
 | o (b:Array UInt8) (t:Tok):BG "o" (.bytes b t)
 | f (ts:List Str):ts.length<=900->BG "f" (.tup (ts.map .str))
 | u (us:List Int):us.length<=900->BG "u" (.tup (us.map .int))
theorem j2 {l:Str} (x:AG c) (cm:c.calm=true) (lv:4<=c.lv) (h:BG l a) (k:Q (.bool true) U):AM VR c V [a,.str l] (λvs=>call (.ref 368) vs) U Q X:=by
 cases h with
 | t v =>
  show ag f368 x s!"o" s!"r" rfl s!"r" λLA=>?_;ext;show k
 | n v =>
  show ag f368 x s!"o" s!"r" rfl s!"r" λLA=>?_;ext;show gy s!"lib" cm s!"lv" ?_;show k
 | o b t =>
  show ag f368 x s!"o" s!"r" rfl s!"r" λLA=>?_;ext;show k
 | f ts hz =>
  show ag f368 x s!"o" s!"r" rfl s!"r" λLA=>?_;ext;show mC s!"lib" cm s!"lv" hz ?_;show k
 | u us hz =>
  show ag f368 x s!"o" s!"r" rfl s!"r" λLA=>?_;ext;show i4 s!"lib" cm s!"lv" hz ?_;show k
end
section
variable {prog:Program}{w:World}{A:Around}{E:Value->Shared->Prop}{s:Shared}{h h' B:Heap}
structure Be (prog:Program) (w:World) (A:Around) (it:Addr) (fp:List Addr) (B:Heap) (items:List AB) (At:Nat->Heap->Prop):Prop where
 live:∀ i h,At i h->∃ o,h.get? it=some o/\∀ xs n,o.data≠.seq xs n
 frame:∀ i h h',At i h->(∀ b∈fp,∀ o,h.get? b=some o->h'.get? b=some o)->AH B h'->At i h'
 item:∀ i (s:Shared) (a:AB) (Q:Value->Shared->Prop) (E:Value->Shared->Prop),items[i]?=some a->At i s.heap ->
  (∀ x h' tk,VR B x a->At (i+1) h'->Heap.SameBut it s.heap h'->Q x { s with heap:=h',toks:=tk })->wpAny (model prog w) A (SmallTypes.nextOf (.ref it)) Q E s
 done:∀ i (s:Shared) (Q:Value->Shared->Prop) (E:Value->Shared->Prop),items[i]?=none->At i s.heap ->
  (∀ h' e,Heap.ExtBut it s.heap h'->(∃ o,h'.get? e=some o/\o.cls=.type "StopIteration")->E (.ref e) { s with heap:=h' })->wpAny (model prog w) A (SmallTypes.nextOf (.ref it)) Q E s
theorem Be.list (hh:A.handled=none) (it l:Addr) (hne:l≠it)  (rs:AW B vs xs) :
  Be prog w A it [it,l] B xs (λi h=>h.IsListIter it l i/\h.IsList l vs.toArray) where
 live:=λ_ _ st=>let ⟨o,ho,_,hd⟩:=st.1;⟨o,ho,hd ▸ ca⟩
 frame:=λ_ _ _ st hk _=>⟨st.1.at λo e=>hk it s!"s" o e,st.2.at λo e=>hk l s!"s" o e⟩
 item:=λi s a Q E hi st hQ=>by
  obtain ⟨v⟩|⟨hv,r⟩:=(rs.get hi)
  show wpAny_nextOf_list_item st.1 st.2 (x:=v) (by simpa using hv) λh' hit' hs'=>hQ v h' s.toks r ⟨hit',st.2.extBut hs'.extBut hne⟩ hs'
 done:=λi s Q E hi st hE=>wpAny_nextOf_list_end hh st.1 st.2 (by
  have:vs.length<=i:=by rw [rs.length];simpa using hi
  simpa using this) hE
theorem gu {t:Addr}{i:Nat}{items:Array Value}{x:Value}{Q:Value->Shared->Prop} (hit:s.heap.IsTupleIter it t i) (ht:s.heap.IsTuple t items) (hx:items[i]?=some x)
  (hQ:∀ h',h'.IsTupleIter it t (i+1)->Heap.SameBut it s.heap h'->Q x { s with heap:=h' }):wpAny (model prog w) A (SmallTypes.nextOf (.ref it)) Q E s:=by
 obtain ⟨o⟩|⟨ho,hc,hd⟩:=(id hit)
 obtain ⟨ol,hol,_,nl,hdl⟩:=ht;unfold SmallTypes.nextOf;show Zb (wpAny_callSpecial?_slot (name:=Str.ofString "__next__") hit.typeIs F.slot_tuple_iterator_next (wpAny_call_entry F.slot_tuple_iterator_next hit.typeIs F.entry_tuple_iterator_next ?_ (F.args_tuple_iterator_next_1 _)));change wpAny _ _ (field (.ref it) 0 >>= _) _ _ s;show Zb (wpAny_field ho hd (x:=.ref t) rfl ?_);change wpAny _ _ (if (Value.ref t == Value.none)=true then _ else _) _ _ s;rw [Zv (show ¬ ((Value.ref t == Value.none)=true) from Bool.false_ne_true)];change wpAny _ _ (field (.ref it) 1 >>= _) _ _ s;show Zb (wpAny_field ho hd (x:=.int i 0) rfl ?_);change wpAny _ _ (seqItems? (.ref t) >>= _) _ _ s;show Zb (wpAny_seqItems hol hdl ?_);simp only [Int.toNat_natCast,hx];show Zb (wpAny_setField ho hd s!"s" (Zp ⟨x,rfl,Zp (hQ _ ?_ (Heap.SameBut.update ..))⟩))
 show ⟨_,Heap.get?_update_self _ ho (Obj.isFreed_of_fields (Obj.data_mapFields hd _)),(Obj.cls_mapFields ..).trans hc,by
  rw [Obj.data_mapFields hd];simp [rawInt]⟩
theorem ia {t:Addr}{i:Nat}{items:Array Value}{Q:Value->Shared->Prop} (hh:A.handled=none) (hit:s.heap.IsTupleIter it t i) (ht:s.heap.IsTuple t items) (hx:items[i]?=none)
  (hE:∀ h' e,Heap.ExtBut it s.heap h'->(∃ o,h'.get? e=some o/\o.cls=.type "StopIteration")->E (.ref e) { s with heap:=h' }):wpAny (model prog w) A (SmallTypes.nextOf (.ref it)) Q E s:=by
 obtain ⟨o⟩|⟨ho,hc,hd⟩:=(id hit)
 obtain ⟨ol,hol,_,nl,hdl⟩:=ht;unfold SmallTypes.nextOf;show Zb (wpAny_callSpecial?_slot (name:=Str.ofString "__next__") hit.typeIs F.slot_tuple_iterator_next (wpAny_call_entry F.slot_tuple_iterator_next hit.typeIs F.entry_tuple_iterator_next ?_ (F.args_tuple_iterator_next_1 _)));change wpAny _ _ (field (.ref it) 0 >>= _) _ _ s;show Zb (wpAny_field ho hd (x:=.ref t) rfl ?_);change wpAny _ _ (if (Value.ref t == Value.none)=true then _ else _) _ _ s;rw [Zv (show ¬ ((Value.ref t == Value.none)=true) from Bool.false_ne_true)];change wpAny _ _ (field (.ref it) 1 >>= _) _ _ s;show Zb (wpAny_field ho hd (x:=.int i 0) rfl ?_);change wpAny _ _ (seqItems? (.ref t) >>= _) _ _ s;show Zb (wpAny_seqItems hol hdl ?_);simp only [Int.toNat_natCast,hx];show Zb (wpAny_rule (Zb (wpAny_setField ho hd s!"s" ?_)));change wpAny _ _ (newExc (.type "StopIteration") [] >>= _) _ _ _;show Zb ?_;simp only [newExc,newTuple];show Zb (wpAny_newObj_type ?_ (by size_fits));show Zb (m:=firstArgMember _ _) (wpAny_of_eq (a:=Value.none) (by first | rfl | (simp only [firstArgMember];rfl)) ?_);show wpAny_newObj_type ?_ (by size_fits);unfold raiseNew;show Zb (wpAny_handled ?_)
 first | rw [show A.in1.handled=none from hh] | rw [hh]
 show Zb (Zp (wpAny_throw ?_));show hE _ _ (((Heap.SameBut.update ..).extBut.push _).push _) ⟨_,Zz _ rfl,rfl⟩
theorem Be.tup (hh:A.handled=none) (it l:Addr)  (rs:AW B vs xs) (hl:B.IsTuple l vs.toArray) (hB:B.get? it=none) :
  Be prog w A it [it] B xs (λi h=>h.IsTupleIter it l i/\h.IsTuple l vs.toArray) where
 live:=λ_ _ st=>let ⟨o,ho,_,hd⟩:=st.1;⟨o,ho,hd ▸ ca⟩
 frame:=λ_ _ _ st hk t=>by
  obtain ⟨⟨o,ho,hc,hd⟩,_⟩:=st;obtain ⟨ol,e,ec,n,ed⟩:=hl;obtain ⟨o'⟩|⟨e',ec',ed'⟩:=(t l ol e ec ⟨_,_,ed⟩)
  show ⟨⟨o,hk it s!"s" o ho,hc,hd⟩,o',e',ec',n,ed'.trans ed⟩
 item:=λi s a Q E hi st hQ=>by
  obtain ⟨v⟩|⟨hv,r⟩:=(rs.get hi)
  have hne:l≠it:=by rintro rfl;show ex1 hl λo h7z=>?_;(try clear hl);show an2 h7z λe _=>?_;clear h7z;rw [hB] at e;cases e
  show gu st.1 st.2 (x:=v) (by simpa using hv) λh' hit' hs'=>hQ v h' s.toks r ⟨hit',st.2.extBut hs'.extBut hne⟩ hs'
 done:=λi s Q E hi st hE=>ia hh st.1 st.2 (by
  have:vs.length<=i:=by rw [rs.length];simpa using hi
  simpa using this) hE
noncomputable def lm (x:Str):List AB:=x.cps.toList.map λd=>.str ⟨#[d]⟩
theorem hJ {x:Str}{i:Nat} (h:(lm x)[i]?=some a):∃ d,x.cps[i]?=some d/\a=.str ⟨#[d]⟩:=by
 unfold lm at h;rw [ER,Option.map_eq_some_iff] at h;obtain ⟨d⟩|⟨hd,rfl⟩:=h;show ⟨d,by simpa using hd,rfl⟩
theorem i6 {x:Str}{i:Nat} (h:(lm x)[i]?=none):x.cps[i]?=none:=by
 unfold lm at h;simpa using h
theorem Be.str (hh:A.handled=none) (it:Addr) (x:Str) (t:Tok):∃ At:Nat->Heap->Prop,Be prog w A it [it] B (lm x) At/\∀ h:Heap,h.get? it=some { cls:=.type (strIterType x),data:=.fields #[.str x t,.int 0 0] }->At 0 h:=by
 cases ha:x.cps.all (· < 128)
 ·show ⟨λi h=>h.IsStrIter it "str_iterator" x t i,?_,λh e=>?_⟩
  ·show {
    live:=λ_ _ st=>let ⟨o,ho,_,hd⟩:=st;⟨o,ho,hd ▸ ca⟩
    frame:=λ_ _ _ st hk _=>let ⟨o,ho,r⟩:=st;⟨o,hk it s!"s" o ho,r⟩
    item:=λi s a Q E hi st hQ=>by
     obtain ⟨d⟩|⟨hd,rfl⟩:=(hJ hi)
     show wpAny_nextOf_wide_item st hd λh' hit' hs'=>hQ _ h' (s.toks+1) (.str _ _) hit' hs'
    done:=λi s Q E hi st hE=>wpAny_nextOf_wide_end hh st (i6 hi) hE }
  ·show ⟨_,e,by simp [strIterType,ha],rfl⟩
 ·show ⟨λi h=>h.IsStrIter it "str_ascii_iterator" x t i,?_,λh e=>?_⟩
  ·show {
    live:=λ_ _ st=>let ⟨o,ho,_,hd⟩:=st;⟨o,ho,hd ▸ ca⟩
    frame:=λ_ _ _ st hk _=>let ⟨o,ho,r⟩:=st;⟨o,hk it s!"s" o ho,r⟩
    item:=λi s a Q E hi st hQ=>by
     obtain ⟨d⟩|⟨hd,rfl⟩:=(hJ hi)
     show wpAny_nextOf_ascii_item st hd λh' hit' hs'=>hQ _ h' (s.toks+1) (.str _ _) hit' hs'
    done:=λi s Q E hi st hE=>wpAny_nextOf_ascii_end hh st (i6 hi) hE }
  ·show ⟨_,e,by simp [strIterType,ha],rfl⟩
end
section
variable {prog:Program}{w:World}{A:Around}{E:Value->Shared->Prop}{s:Shared}{h h' B:Heap}
structure Cq (z TI TO i1 i2:Addr) (fp1 fp2:List Addr) (B:Heap):Prop where
 TIz:TI≠z
 TOz:TO≠z
 i1z:i1≠z
 i2z:i2≠z
 TITO:TI≠TO
 TIi1:TI≠i1
 TIi2:TI≠i2
 TOi1:TO≠i1
 TOi2:TO≠i2
 i12:i1≠i2
 f1:∀ b∈fp1,b≠z/\b≠TO/\b≠i2
 f2:∀ b∈fp2,b≠z/\b≠TO/\b≠i1
 new:∀ b,b=z\/b=TI\/b=TO\/b=i1\/b=i2->B.get? b=none
theorem bG (t:AH B h) (k:∀ b o,¬ W b->h.get? b=some o->h'.get? b=some o) (n:∀ b,W b->B.get? b=none):AH B h':=λb o e c d=>by
 obtain ⟨o'⟩|⟨e',c',d'⟩:=(t b o e c d)
 show ⟨o',k b o' (λz=>by rw [n b z] at e;cases e) e',c',d'⟩
structure CR (z TI TO i1 i2:Addr) (At1 At2:Nat->Heap->Prop) (f0:Value) (k:Nat) (h:Heap):Prop where
 z:IsZip h z TI TO f0
 ti:IsPair h TI (.ref i1) (.ref i2)
 to:∃ a b,IsPair h TO a b
 a1:At1 k h
 a2:At2 k h
theorem qR {b:AB}{Q:Value->Shared->Prop}
  (D:Cq z TI TO i1 i2 fp1 fp2 B) (S1:Be prog w A i1 fp1 B xs At1) (S2:Be prog w A i2 fp2 B ys At2) (t:AH B s.heap) (Z:CR z TI TO i1 i2 At1 At2 .none k s.heap) (hx:xs[k]?=some a) (hy:ys[k]?=some b)
  (hQ:∀ h' (T:Addr) tk,CR z TI TO i1 i2 At1 At2 (rawInt T) (k+1) h'->(∃ x y,VR B x a/\VR B y b/\IsPair h' T x y)->s.heap.get? T=none ->
   (∀ c o,c≠z->c≠TO->c≠i1->c≠i2->s.heap.get? c=some o->h'.get? c=some o)->Q (.ref T) { s with heap:=h',toks:=tk }) :
  wpAny (model prog w) A (Builtin.«zip.__next__» ⟨[.ref z],[]⟩) (λfin s'=>∃ v,fin=.done (.ret v)/\Q v s') E s:=by
 obtain ⟨hz,hTI,⟨pa,pb,hTO⟩,st1,st2⟩:=Z;obtain ⟨h₀,g,d,tk0,os⟩:=s;change wpAny _ _ (field (.ref z) 2 >>= _) _ _ _;show Zb (wpAny_field hz rfl (x:=.bool false) rfl ?_);change wpAny _ _ (field (.ref z) 3 >>= _) _ _ _;show Zb (wpAny_field hz rfl (x:=.ref TI) rfl ?_);show Zb (wpAny_seqItems hTI rfl ?_);change wpAny _ _ (SmallTypes.ownedTupleIsFree (.ref z) >>= _) _ _ _;show Zb ?_;unfold SmallTypes.ownedTupleIsFree;show Zb (wpAny_field hz rfl (x:=.none) rfl (Zp ?_));simp only [if_true];show Zb (wpAny_rule ?_);show Zb (wpAny_field hz rfl (x:=.ref TO) rfl ?_);show Zb (wpAny_setField_rec hz s!"s" λh₁ hzA hsA=>?_);replace hzA:IsZip h₁ z TI TO .ellipsis:=hzA;have hsA:Heap.SameBut z h₀ h₁:=hsA;have t₁:AH B h₁:=bG (W:=λb=>b=z) t (λb o n e=>hsA.extBut _ _ n e) λb e=>D.new b (.inl e);have st11:At1 k h₁:=S1.frame _ _ _ st1 (λb hb o e=>hsA.extBut _ _ (D.f1 b hb).1 e) t₁;have st21:At2 k h₁:=S2.frame _ _ _ st2 (λb hb o e=>hsA.extBut _ _ (D.f2 b hb).1 e) t₁;show Zb ?_;simp only [List.zipIdx_cons,List.zipIdx_nil,EB,List.forIn_nil];show Zb (Zb (wpAny_onRaise ?_));change wpAny _ _ (SmallTypes.nextOf (.ref i1) >>= _) _ _ _;show Zb (S1.item k _ a _ _ hx st11 λx h₂ tk2 rx st12 hsB=>Zp ?_);have hsB:Heap.SameBut i1 h₁ h₂:=hsB;have t₂:AH B h₂:=bG (W:=λb=>b=i1) t₁ (λb o n e=>hsB.extBut _ _ n e) λb e=>D.new b (.inr (.inr (.inr (.inl e))));have st22:At2 k h₂:=S2.frame _ _ _ st21 (λb hb o e=>hsB.extBut _ _ (D.f2 b hb).2.2 e) t₂
 have hTO2:IsPair h₂ TO pa pb:=hsB.extBut _ _ D.TOi1 (hsA.extBut _ _ D.TOz hTO);show Zb (wpAny_seqItems hTO2 rfl ?_);show Zb (wpAny_updateSeq_pair hTO2 λh₃ hTO3 hs3=>?_);replace hTO3:IsPair h₃ TO x pb:=hTO3;have hs3:Heap.SameBut TO h₂ h₃:=hs3;have t₃:AH B h₃:=bG (W:=λb=>b=TO) t₂ (λb o n e=>hs3.extBut _ _ n e) λb e=>D.new b (.inr (.inr (.inl e)));have st23:At2 k h₃:=S2.frame _ _ _ st22 (λb hb o e=>hs3.extBut _ _ (D.f2 b hb).2.1 e) t₃;have st13:At1 (k+1) h₃:=S1.frame _ _ _ st12 (λb hb o e=>hs3.extBut _ _ (D.f1 b hb).2.1 e) t₃;show Zb (wpAny_letGo (Zp ?_));show Zb (Zb (wpAny_onRaise ?_));change wpAny _ _ (SmallTypes.nextOf (.ref i2) >>= _) _ _ _;show Zb (S2.item k _ b _ _ hy st23 λy h₄ tk4 ry st24 hs4=>Zp ?_);have hs4:Heap.SameBut i2 h₃ h₄:=hs4;have t₄:AH B h₄:=bG (W:=λb=>b=i2) t₃ (λb o n e=>hs4.extBut _ _ n e) λb e=>D.new b (.inr (.inr (.inr (.inr e))));have st14:At1 (k+1) h₄:=S1.frame _ _ _ st13 (λb hb o e=>hs4.extBut _ _ (D.f1 b hb).2.2 e) t₄;have hTO4:IsPair h₄ TO x pb:=hs4.extBut _ _ D.TOi2 hTO3;show Zb (wpAny_seqItems hTO4 rfl ?_);show Zb (wpAny_updateSeq_pair hTO4 λh₅ hTO5 hs5=>?_);replace hTO5:IsPair h₅ TO x y:=hTO5;have hs5:Heap.SameBut TO h₄ h₅:=hs5;have t₅:AH B h₅:=bG (W:=λb=>b=TO) t₄ (λb o n e=>hs5.extBut _ _ n e) λb e=>D.new b (.inr (.inr (.inl e)));have st15:At1 (k+1) h₅:=S1.frame _ _ _ st14 (λb hb o e=>hs5.extBut _ _ (D.f1 b hb).2.1 e) t₅;have st25:At2 (k+1) h₅:=S2.frame _ _ _ st24 (λb hb o e=>hs5.extBut _ _ (D.f2 b hb).2.1 e) t₅
 show Zb (wpAny_letGo (Zp (Zp ?_)));show Zb (wpAny_seqItems hTO5 rfl ?_);show Zb (wpAny_newTuple ?_);have hz5:IsZip h₅ z TI TO .ellipsis:=hs5.extBut _ _ D.TOz.symm (hs4.extBut _ _ D.i2z.symm (hs3.extBut _ _ D.TOz.symm (hsB.extBut _ _ D.i1z.symm hzA)));have hk5:∀ c o,c≠z->c≠TO->c≠i1->c≠i2->h₀.get? c=some o->h₅.get? c=some o:=λc o c1 c2 c3 c4 e =>
  hs5.extBut _ _ c2 (hs4.extBut _ _ c4 (hs3.extBut _ _ c2 (hsB.extBut _ _ c3 (hsA.extBut _ _ c1 e))))
 have hTI5:IsPair h₅ TI (.ref i1) (.ref i2):=hk5 _ _ D.TIz D.TITO D.TIi1 D.TIi2 hTI;have hzlt:z < h₅.objs.size:=Heap.lt_size hz5;change wpAny _ _ (SmallTypes.ownedTupleHandOut (.ref z) (.ref h₅.objs.size) >>= _) _ _ _;show Zb ?_;unfold SmallTypes.ownedTupleHandOut;have hz6:IsZip (h₅.push { cls:=.type "tuple",data:=.seq #[x,y] }) z TI TO .ellipsis:=Zu _ hz5;show Zb (wpAny_setField_rec hz6 s!"s" λh₇ hz7 hs7=>?_);replace hz7:IsZip h₇ z TI TO (rawInt h₅.objs.size):=hz7;show wpAny_setField_rec hz7 s!"s" λh₈ hz8 hs8=>?_;replace hz8:IsZip h₈ z TI TO (rawInt h₅.objs.size):=hz8;have up:∀ c o,c≠z->h₅.get? c=some o->h₈.get? c=some o:=λc o c1 e=>hs8.extBut _ _ c1 (hs7.extBut _ _ c1 (Zu _ e));have hT8:IsPair h₈ h₅.objs.size x y:=hs8.extBut _ _ (Nat.ne_of_gt hzlt) (hs7.extBut _ _ (Nat.ne_of_gt hzlt) (Zz _ rfl));have t₈:AH B h₈:=bG (W:=λb=>b=z) t₅ (λb o n e=>up b o n e) λb e=>D.new b (.inl e);have hsz:h₅.objs.size=h₀.objs.size:=by rw [hs5.1,hs4.1,hs3.1,hsB.1,hsA.1]
 show Zp ⟨_,rfl,?_⟩;change Q (.ref h₅.objs.size) _;show hQ h₈ h₅.objs.size tk4 ⟨hz8,up _ _ D.TIz hTI5,⟨_,_,up _ _ D.TOz hTO5⟩,S1.frame _ _ _ st15 (λb hb o e=>up _ _ (D.f1 b hb).1 e) t₈,S2.frame _ _ _ st25 (λb hb o e=>up _ _ (D.f2 b hb).1 e) t₈⟩
  ⟨x,y,rx,ry,hT8⟩ (by rw [hsz];show aj _) λc o c1 c2 c3 c4 e=>up c o c1 (hk5 c o c1 c2 c3 c4 e)
theorem rL {Q:Fin->Shared->Prop}
  (D:Cq z TI TO i1 i2 fp1 fp2 B) (S1:Be prog w A i1 fp1 B xs At1) (S2:Be prog w A i2 fp2 B ys At2) (t:AH B s.heap) (Z:CR z TI TO i1 i2 At1 At2 .none k s.heap) (hend:xs[k]?=none\/ys[k]?=none)
  (hE:∀ h' e tk,(∀ c o,c≠z->c≠TO->c≠i1->c≠i2->s.heap.get? c=some o->h'.get? c=some o)->(∃ o,h'.get? e=some o/\o.cls=.type "StopIteration")->E (.ref e) { s with heap:=h',toks:=tk }) :
  wpAny (model prog w) A (Builtin.«zip.__next__» ⟨[.ref z],[]⟩) Q E s:=by
 obtain ⟨hz,hTI,⟨pa,pb,hTO⟩,st1,st2⟩:=Z;obtain ⟨h₀,g,d,tk0,os⟩:=s;change wpAny _ _ (field (.ref z) 2 >>= _) _ _ _;show Zb (wpAny_field hz rfl (x:=.bool false) rfl ?_);change wpAny _ _ (field (.ref z) 3 >>= _) _ _ _;show Zb (wpAny_field hz rfl (x:=.ref TI) rfl ?_);show Zb (wpAny_seqItems hTI rfl ?_);change wpAny _ _ (SmallTypes.ownedTupleIsFree (.ref z) >>= _) _ _ _;show Zb ?_;unfold SmallTypes.ownedTupleIsFree;show Zb (wpAny_field hz rfl (x:=.none) rfl (Zp ?_));simp only [if_true];show Zb (wpAny_rule ?_);show Zb (wpAny_field hz rfl (x:=.ref TO) rfl ?_);show Zb (wpAny_setField_rec hz s!"s" λh₁ hzA hsA=>?_);replace hzA:IsZip h₁ z TI TO .ellipsis:=hzA;have hsA:Heap.SameBut z h₀ h₁:=hsA;have t₁:AH B h₁:=bG (W:=λb=>b=z) t (λb o n e=>hsA.extBut _ _ n e) λb e=>D.new b (.inl e);have st11:At1 k h₁:=S1.frame _ _ _ st1 (λb hb o e=>hsA.extBut _ _ (D.f1 b hb).1 e) t₁;have st21:At2 k h₁:=S2.frame _ _ _ st2 (λb hb o e=>hsA.extBut _ _ (D.f2 b hb).1 e) t₁;show Zb ?_;simp only [List.zipIdx_cons,List.zipIdx_nil,EB,List.forIn_nil];show Zb (Zb (wpAny_onRaise ?_));change wpAny _ _ (SmallTypes.nextOf (.ref i1) >>= _) _ _ _;cases hx:xs[k]? with
 | none =>
  show Zb (S1.done k _ _ _ hx st11 λh₂ e hsB he=>?_);obtain ⟨oe⟩|⟨hoe,hce⟩:=he;have hsB:Heap.ExtBut i1 h₁ h₂:=hsB;have hzB:IsZip h₂ z TI TO .ellipsis:=hsB _ _ D.i1z.symm hzA;have hez:e≠z:=λx=>by subst x;rw [hzB] at hoe;cases hoe;simp at hce
  show wpAny_setField_rec hzB s!"s" λh₃ _ hs3=>hE h₃ e tk0 (λc o c1 _ c3 _ x=>hs3.extBut _ _ c1 (hsB _ _ c3 (hsA.extBut _ _ c1 x))) ⟨oe,hs3.extBut _ _ hez hoe,hce⟩
 | some a =>
  have hy:ys[k]?=none:=by rcases hend with h | h;rw [hx] at h;cases h;show h
  show Zb (S1.item k _ a _ _ hx st11 λx h₂ tk2 rx st12 hsB=>Zp ?_);have hsB:Heap.SameBut i1 h₁ h₂:=hsB;have t₂:AH B h₂:=bG (W:=λb=>b=i1) t₁ (λb o n e=>hsB.extBut _ _ n e) λb e=>D.new b (.inr (.inr (.inr (.inl e))));have st22:At2 k h₂:=S2.frame _ _ _ st21 (λb hb o e=>hsB.extBut _ _ (D.f2 b hb).2.2 e) t₂;have hTO2:IsPair h₂ TO pa pb:=hsB.extBut _ _ D.TOi1 (hsA.extBut _ _ D.TOz hTO);show Zb (wpAny_seqItems hTO2 rfl ?_);show Zb (wpAny_updateSeq_pair hTO2 λh₃ hTO3 hs3=>?_);have hs3:Heap.SameBut TO h₂ h₃:=hs3;have t₃:AH B h₃:=bG (W:=λb=>b=TO) t₂ (λb o n e=>hs3.extBut _ _ n e) λb e=>D.new b (.inr (.inr (.inl e)));have st23:At2 k h₃:=S2.frame _ _ _ st22 (λb hb o e=>hs3.extBut _ _ (D.f2 b hb).2.1 e) t₃;show Zb (wpAny_letGo (Zp ?_));show Zb (Zb (wpAny_onRaise ?_));change wpAny _ _ (SmallTypes.nextOf (.ref i2) >>= _) _ _ _;show Zb (S2.done k _ _ _ hy st23 λh₄ e hs4 he=>?_);obtain ⟨oe⟩|⟨hoe,hce⟩:=he;have hs4:Heap.ExtBut i2 h₃ h₄:=hs4;have hz4:IsZip h₄ z TI TO .ellipsis:=hs4 _ _ D.i2z.symm (hs3.extBut _ _ D.TOz.symm (hsB.extBut _ _ D.i1z.symm hzA));have hez:e≠z:=λx=>by subst x;rw [hz4] at hoe;cases hoe;simp at hce
  show wpAny_setField_rec hz4 s!"s" λh₅ _ hs5=>hE h₅ e tk2 (λc o c1 c2 c3 c4 x=>hs5.extBut _ _ c1 (hs4 _ _ c4 (hs3.extBut _ _ c2 (hsB.extBut _ _ c3 (hsA.extBut _ _ c1 x))))) ⟨oe,hs5.extBut _ _ hez hoe,hce⟩
theorem iI {b:AB}{Q:Option Value->Shared->Prop}
  (D:Cq z TI TO i1 i2 fp1 fp2 B) (S1:Be prog w A.in1 i1 fp1 B xs At1) (S2:Be prog w A.in1 i2 fp2 B ys At2) (t:AH B s.heap) (Z:CR z TI TO i1 i2 At1 At2 .none k s.heap) (hx:xs[k]?=some a) (hy:ys[k]?=some b)
  (hQ:∀ h' (T:Addr) tk,CR z TI TO i1 i2 At1 At2 (rawInt T) (k+1) h'->(∃ x y,VR B x a/\VR B y b/\IsPair h' T x y)->s.heap.get? T=none ->
   (∀ c o,c≠z->c≠TO->c≠i1->c≠i2->s.heap.get? c=some o->h'.get? c=some o)->Q (some (.ref T)) { s with heap:=h',toks:=tk }):wpAny (model prog w) A (pyNext (.ref z)) Q E s:=by
 have hT:s.TypeIs (.ref z) "zip" := ⟨_,Z.z,rfl⟩
 unfold pyNext
 show Zb (wpAny_attempt (wpAny_callSpecial?_slot (name:=Str.ofString "__next__") hT F.slot_zip_next
  (wpAny_call_entry F.slot_zip_next hT F.entry_zip_next (qR D S1 S2 t Z hx hy λh' T tk a1 a2 a3 a4=>Zp (hQ h' T tk a1 a2 a3 a4)) (F.args_zip_next_1 _))))
theorem et {Q:Option Value->Shared->Prop}
  (D:Cq z TI TO i1 i2 fp1 fp2 B) (S1:Be prog w A.in1 i1 fp1 B xs At1) (S2:Be prog w A.in1 i2 fp2 B ys At2) (t:AH B s.heap) (Z:CR z TI TO i1 i2 At1 At2 .none k s.heap) (hend:xs[k]?=none\/ys[k]?=none)
  (hQ:∀ h' tk,(∀ c o,c≠z->c≠TO->c≠i1->c≠i2->s.heap.get? c=some o->h'.get? c=some o)->Q none { s with heap:=h',toks:=tk }):wpAny (model prog w) A (pyNext (.ref z)) Q E s:=by
 have hT:s.TypeIs (.ref z) "zip" := ⟨_,Z.z,rfl⟩
 unfold pyNext
 show Zb (wpAny_attempt (wpAny_callSpecial?_slot (name:=Str.ofString "__next__") hT F.slot_zip_next
  (wpAny_call_entry F.slot_zip_next hT F.entry_zip_next (rL D S1 S2 t Z hend λh' e tk hk he=>?_) (F.args_zip_next_1 _))))
 obtain ⟨o⟩|⟨ho,hc⟩:=he;show Zb (wpAny_isInstance (T := "StopIteration") (b:=true) ⟨o,ho,hc⟩ isSubtype_stop ?_);show Zp (hQ h' tk hk)
end
section
variable {prog:Program}{w:World}{A:Around}{E:Value->Shared->Prop}{s:Shared}{h h' B:Heap}
noncomputable abbrev zt1 (h:Heap) (l:Addr):Heap:=h.push { cls:=.type "tuple_iterator",data:=.fields #[.ref l,.int 0 0] }
noncomputable abbrev zt2 (h:Heap) (l:Addr) (x:Str) (t:Tok):Heap:=(zt1 h l).push { cls:=.type (strIterType x),data:=.fields #[.str x t,.int 0 0] }
noncomputable abbrev zt3 (h:Heap) (l:Addr) (x:Str) (t:Tok):Heap:=(zt2 h l x t).push { cls:=.type "tuple",data:=.seq #[.ref h.objs.size,.ref (zt1 h l).objs.size] }
noncomputable abbrev zt4 (h:Heap) (l:Addr) (x:Str) (t:Tok):Heap:=(zt3 h l x t).push { cls:=.type "tuple",data:=.seq #[.none,.none] }
noncomputable abbrev zt5 (h:Heap) (l:Addr) (x:Str) (t:Tok):Heap:=(zt4 h l x t).push { cls:=.type "zip",data:=.fields #[.none,.bool false,.bool false,.ref (zt2 h l x t).objs.size,.ref (zt3 h l x t).objs.size] }
set_option maxHeartbeats 2000000 in
theorem mz (l:Addr) (xs:Array Value) (x:Str) (t:Tok) :
  Meets (Builtin.«zip.__new__» ⟨[.type "zip",.ref l,.str x t],[]⟩) (λ_ R s=>s.heap.IsTuple l xs /\
   R (.ok (.ret (.ref (zt4 s.heap l x t).objs.size))) { s with heap:=zt5 s.heap l x t }) :=
 .of_wp λprog w A R s h=>by
  obtain ⟨hp,g,d,tk,os⟩:=s;obtain ⟨hl1,h⟩:=h;have hsub:=sub_zip;have hL1:Heap.IsTuple (Shared.heap ⟨hp,g,d,tk,os⟩) l xs:=hl1
  wp_walk using wpAny_pyIter_tuple hL1,wpAny_pyIter_strU
  show ⟨_,rfl,h⟩
theorem oI {xs:Array Value}{x:Str}{t:Tok}{Q:Value->Shared->Prop} (hl:s.heap.IsTuple l xs)
  (h:∀ h',IsZip h' (s.heap.objs.size+4) (s.heap.objs.size+2) (s.heap.objs.size+3) .none->IsPair h' (s.heap.objs.size+2) (.ref s.heap.objs.size) (.ref (s.heap.objs.size+1)) ->
   IsPair h' (s.heap.objs.size+3) .none .none->h'.IsTupleIter s.heap.objs.size l 0->h'.get? (s.heap.objs.size+1)=some { cls:=.type (strIterType x),data:=.fields #[.str x t,.int 0 0] }->h'.objs.size=s.heap.objs.size+5 ->
   (∀ c o,s.heap.get? c=some o->h'.get? c=some o)->Q (.ref (s.heap.objs.size+4)) { s with heap:=h' }) :
  wpAny (model prog w) A (call (.type "zip") [.ref l,.str x t]) Q E s:=by
 show callType_new F.called_zip s!"d" (F.typeCall_zip_2 _ _) (F.newCall_zip_2 _ _) (λobj=>F.args_object_init_3 obj _ _) F.entry_zip_new (mz l xs x t) ⟨hl,?_⟩;have z1:(zt1 s.heap l).objs.size=s.heap.objs.size+1:=Heap.size_push ..;have z2:(zt2 s.heap l x t).objs.size=s.heap.objs.size+2:=by rw [Heap.size_push,z1]
 have z3:(zt3 s.heap l x t).objs.size=s.heap.objs.size+3:=by rw [Heap.size_push,z2]
 have z4:(zt4 s.heap l x t).objs.size=s.heap.objs.size+4:=by rw [Heap.size_push,z3]
 have z5:(zt5 s.heap l x t).objs.size=s.heap.objs.size+5:=by rw [Heap.size_push,z4]
 have g5:(zt5 s.heap l x t).get? (zt4 s.heap l x t).objs.size=some _:=Zz _ rfl;have g4:(zt5 s.heap l x t).get? (zt3 s.heap l x t).objs.size=some _:=Zu _ (Zz _ rfl);have g3:(zt5 s.heap l x t).get? (zt2 s.heap l x t).objs.size=some _:=Zu _ (Zu _ (Zz _ rfl));have g2:(zt5 s.heap l x t).get? (zt1 s.heap l).objs.size=some _:=Zu _ (Zu _ (Zu _ (Zz _ rfl)));have g1:(zt5 s.heap l x t).get? s.heap.objs.size=some _:=Zu _ (Zu _ (Zu _ (Zu _ (Zz _ rfl))));change _/\_;rw [z2,z3,z4] at g5;rw [z1,z2] at g3;rw [z3] at g4;rw [z1] at g2;rw [z4]
 show ⟨⟨_,g5,rfl⟩,h _ g5 g3 g4 ⟨_,g1,rfl,rfl⟩ g2 z5 λc o x =>
  Zu _ (Zu _ (Zu _ (Zu _ (Zu _ x))))⟩
end
def Br:AY->Prop
 | .list vs=>∀ v∈vs,Ba v
 | .dictS es=>∀ e∈es,Ba e.2
 | .dictI es=>∀ e∈es,Ba e.2
 | .dictT _ _=>False
 | .attrs _ m=>∀ x v,m x=some v->Ba v
 | .inst _ _ | .range _ _ | .exc _ _ _=>True
def B4 (U:AA):Prop:=∀ a o,U a=some o->Br o
def Am (V:List NV):Prop:=∀ e∈V,∀ a,e.val=some a->Ba a
section
variable {c:Cx}{target:Expr}{V V':List NV}{U U0 U1 U' UF U00 Y:AA}{h h' B:Heap}{s s₀ s₁ s' s00:Shared}{N:List NV->AA->Prop}{R:AB->AA->Prop}{X:AC->List NV->AA->Prop}
theorem AW.flat (r:AW h vs as) (f:∀ a∈as,Ba a):AW h' vs as:=by
 induction as generalizing vs with
 | nil=>cases r;show .nil
 | cons a as ih=>cases r with | cons r rs=>show .cons (r.flat (f _ Zh)) (ih rs λb hb=>f b (.tail _ hb))
theorem Aw.flat {K:Type}{vs:List (K × Value)}{as:List (K × AB)} (r:Aw h vs as):(∀ e∈as,Ba e.2)->Aw h' vs as:=by
 induction r with
 | nil=>show λ_=>.nil
 | cons r _ ih=>show λf=>.cons (r.flat (f _ Zh)) (ih λb hb=>f b (.tail _ hb))
theorem OR.flat {a:Addr}{o:AY} (x:OR pr w h a o) (f:Br o) (k:∀ ob,h.get? a=some ob->h'.get? a=some ob):OR pr w h' a o:=by
 show ex1 x.here λob h1z=>?_;show an2 h1z λha _=>?_;clear h1z;have e:h'.get? a=h.get? a:=(k ob ha).trans ha.symm;cases x with
 | list e' r=>show .list (e.trans e') (r.flat f)
 | dictS e' r=>show ex3 e' λo es ep h2z=>?_;(try clear e');show an2 h2z λe' q=>?_;clear h2z;show .dictS ⟨o,es,ep,e.trans e',q⟩ (r.flat f)
 | dictI e' r=>show ex3 e' λo es ep h3z=>?_;(try clear e');show an2 h3z λe' q=>?_;clear h3z;show .dictI ⟨o,es,ep,e.trans e',q⟩ (r.flat f)
 | dictT _ _ _=>show f.elim
 | inst e'=>show .inst (e.trans e')
 | range e'=>show .range (e.trans e')
 | attrs e' w r =>
  obtain ⟨o,es,ep⟩|⟨e',q⟩:=e';show .attrs ⟨o,es,ep,e.trans e',q⟩ w λx=>?_;have:=r x;split at this
  ·rename_i v hv;obtain ⟨v'⟩|⟨e1,r1⟩:=this;show ⟨v',e1,r1.flat (f x v hv)⟩
  ·show this
 | exc e'=>show .exc (e.trans e')
theorem St.moveFlat (S:St c V U h)  (k:∀ b o,¬ W b->h.get? b=some o->h'.get? b=some o) (hG:∀ b,W b->c.G.get? b=none) (hown:∀ b∈c.own,¬ W b)
  (hfr:∀ b∈c.frames,¬ W b) (hcl:∀ x∈c.env.cells,¬ W x.2) (hσ:∀ b o,U b=some o->¬ W b) (fn:Am V) (fs:B4 U):St c V U h' where
 ok:=S.ok
 base b o e:=k b o (λw=>by rw [hG b w] at e;cases e) (S.base b o e)
 frames:=b6 S.frames λb hb o e=>⟨o,k b o (hfr b hb) e,rfl⟩
 names:=S.names
 locs:=let ⟨m,o,es,ep,ho,r⟩:=S.locs;⟨m,o,es,ep,k _ _ (hown _ S.ok.locIn) ho,r⟩
 cellsAt x hx:=let ⟨v,o,e,d⟩:=S.cellsAt x hx;⟨v,o,k _ _ (hcl x hx) e,d⟩
 vars e he a' ha:=by
  obtain ⟨v⟩|⟨y,r⟩:=(S.vars e he a' ha)
  show ⟨v,y.keep λb o hb e'=>k b o ?_ e',r.flat (fn e he a' ha)⟩;rcases hb with rfl | ⟨n,hn⟩
  ·show hown _ S.ok.locIn
  ·show hcl _ hn
 obj b o e:=(S.obj b o e).flat (fs b o e) λob=>k b ob (hσ b o e)
 off:=S.off
 ownNew b hb:=let ⟨g,o,e,n⟩:=S.ownNew b hb;⟨g,o,k b o (hown b hb) e,n⟩
def Bz (V V':List NV):Prop:=V'.map (λe=>(e.name,e.kind))=V.map (λe=>(e.name,e.kind))/\∀ e∈V',∀ a,e.val=some a->e∈V
theorem St.dim (S:St c V U h) (d:Bz V V'):St c V' U h:={ S with names:=d.1.trans S.names,vars:=λe he a ha=>S.vars e (d.2 e he a ha) a ha }
noncomputable def retell (UF U0 U1:AA):AA:=λa=>match U1 a with
 | some o=>some o
 | none=>if U0 a=none then UF a else none
theorem qJ:Le U1 (retell UF U0 U1):=λa o e=>by unfold retell;rw [e]
theorem pP (y:AE c U0 s₀ U1 s) (S:St c V UF s₀.heap):∀ a o,UF a=some o->U0 a=none->retell UF U0 U1 a=some o:=λa o e n=>by
 obtain ⟨ob⟩|⟨q,_⟩:=((S.obj a o e).here)
 unfold retell;rw [y.grow a ob q n];simp only [n,if_true];show e
theorem St.retell (SA:St c V' U1 s.heap) (SF:St c V UF s₀.heap) (y:AE c U0 s₀ U1 s) (t:AH s₀.heap s.heap):St c V' (retell UF U0 U1) s.heap:=by
 have key:∀ a o,Internal.retell UF U0 U1 a=some o->U1 a=some o\/(U0 a=none/\UF a=some o):=λa o e=>by
  unfold Internal.retell at e;split at e
  ·rename_i q;show .inl (q.trans e)
  ·split at e
   ·rename_i q;show .inr ⟨q,e⟩
   ·cases e
 show { SA with obj:=λa o e=>?_,off:=λa o e=>?_ }
 ·rcases key a o e with q | ⟨q1,q2⟩
  ·show SA.obj a o q
  ·show an4 (SF.off a o q2) λf1 f2 f3 f4=>?_;show (SF.obj a o q2).keepB t λob e=>y.exact e q1 f2 f3
 ·rcases key a o e with q | ⟨q1,q2⟩
  ·show SA.off a o q
  ·show SF.off a o q2
theorem AE.retell (y:AE c U0 s₀ U1 s) (l:Le U0 UF):AE c UF s₀ (retell UF U0 U1) s:=by
 have no:∀ b,UF b=none->U0 b=none:=λb q=>by
  cases z:U0 b with
  | none=>rfl
  | some o=>rw [l b o z] at q;cases q
 show ⟨λb o e q n=>y.kept b o e (no b q) n,y.there,λb o e q=>?_,y.gens,y.os⟩;unfold Internal.retell;rw [y.grow b o e (no b q)];simp only [no b q,if_true];show q
theorem AE.dimin (y:AE c U0 s₀ U s) (l:Le Y U):AE c U0 s₀ Y s:=⟨y.kept,y.there,(λb o e q=>by
 have:=y.grow b o e q;cases z:Y b with
 | none=>rfl
 | some o=>rw [l b o z] at this;cases this),y.gens,y.os⟩
inductive CE (I:List NV->AA->Prop) (V3:List NV) (U3:AA):Prop
 | mk (V4:List NV) (Y:AA) (d:Bz V3 V4) (l:Le Y U3) (q:I V4 Y)
theorem kK {VF:List NV} (hf:c.fn=true)
  (D:Cq z TI TO i1 i2 fp1 fp2 s₀.heap) (S1:Be c.prog c.w c.A.in1 i1 fp1 s₀.heap xs At1) (S2:Be c.prog c.w c.A.in1 i2 fp2 s₀.heap ys At2)
  (SF:St c VF UF s₀.heap) (hle:Le U0 UF) (y0:AE c U00 s00 UF s₀)
  (I:Nat->List NV->AA->Prop) (flat:∀ k V U,I k V U->Am V/\B4 U)
  (turn:∀ k a b V1 U1,xs[k]?=some a->ys[k]?=some b->I k V1 U1->BN c (.Tuple elts x1 tp) (.tup [a,b]) V1 U1 (KS c body (CE (I (k+1))) (λ_ _=>False) (λ_ _ _=>False)) (λ_ _ _=>False))
  (done:∀ k V1 U1 U2,(xs[k]?=none\/ys[k]?=none)->I k V1 U1->Le U1 U2->(∀ a o,UF a=some o->U0 a=none->U2 a=some o)->N V1 U2)
  (S:St c V U s.heap) (y:AE c U0 s₀ U s) (hi:I 0 V U) (Z:CR z TI TO i1 i2 At1 At2 .none 0 s.heap)
  (off:∀ b,b=z\/b=TI\/b=TO\/b=i1\/b=i2->U b=none/\c.G.get? b=none/\b∉c.own/\b∉c.frames/\∀ x∈c.env.cells,b≠x.2)
  (offF:∀ b,b∈fp1\/b∈fp2->U b=none/\b∉c.own/\b∉c.frames/\∃ o,s.heap.get? b=some o) :
  codeAny (model c.prog c.w) c.A (.forLoop (.Tuple elts x1 tp) (.ref z) body [] c.env) (λr s'=>match r with | .ok f=>Ao c U00 s00 N R f s' | .error e=>cameBackBy (model c.prog c.w) c.A c.env (AS c U00 s00 X) e s') s:=by
 have S0:St c VF U0 s₀.heap:=SF.less hle
 let W:Addr->Prop:=λb=>b=z\/b=TI\/b=TO\/b=i1\/b=i2
 let JJ:=λ(m:Nat) (s':Shared)=>∃ k V1 U1,m+k=xs.length/\St c V1 U1 s'.heap/\AE c U0 s₀ U1 s'/\I k V1 U1/\CR z TI TO i1 i2 At1 At2 .none k s'.heap/\(∀ b,W b->U1 b=none/\c.G.get? b=none/\b∉c.own/\b∉c.frames/\∀ x∈c.env.cells,b≠x.2)/\(∀ b,b∈fp1\/b∈fp2->U1 b=none/\b∉c.own/\b∉c.frames/\∃ o,s'.heap.get? b=some o)
 show codeAny_forLoop_any JJ (λm s' h=>?_) xs.length ⟨0,V,U,rfl,S,y,hi,Z,off,offF⟩;obtain ⟨k,V1,U1⟩|⟨hm,SA,yB,i₁,Z1,o₁,f₁⟩:=h;have t₁:AH s₀.heap s'.heap:=yB.tup S0;obtain ⟨fn,fs⟩:=flat _ _ _ i₁;have mv:∀ h':Heap,(∀ b o,¬ W b->s'.heap.get? b=some o->h'.get? b=some o)->St c V1 U1 h':=λh' kk =>
  SA.moveFlat (W:=W) kk (λb hb=>(o₁ b hb).2.1) (λb hb z=>(o₁ b z).2.2.1 hb) (λb hb z=>(o₁ b z).2.2.2.1 hb) (λx hx z=>(o₁ _ z).2.2.2.2 x hx rfl) (λb o e z=>by rw [(o₁ b z).1] at e;cases e) fn fs
 have st:∀ (h':Heap) (tk:Nat),(∀ b o,¬ W b->s'.heap.get? b=some o->h'.get? b=some o)->AE c U0 s₀ U1 { s' with heap:=h',toks:=tk }:=λh' tk kk =>
  ⟨λb o e q n=>by
    obtain ⟨sl⟩|⟨e',f⟩:=(yB.kept b o e q n)
    show ⟨sl,kk b _ (λw=>by rw [D.new b w] at e;cases e) e',f⟩,
   λb o e=>by
    obtain ⟨o',e'⟩:=yB.there b o e
    show ⟨o',kk b _ (λw=>by rw [D.new b w] at e;cases e) e'⟩,yB.grow,yB.gens,yB.os⟩
 have nW:∀ b,¬ W b->b≠z/\b≠TI/\b≠TO/\b≠i1/\b≠i2:=λb n=>⟨λq=>n (.inl q),λq=>n (.inr (.inl q)),λq=>n (.inr (.inr (.inl q))),λq=>n (.inr (.inr (.inr (.inl q)))),λq=>n (.inr (.inr (.inr (.inr q))))⟩
 have stop:(xs[k]?=none\/ys[k]?=none)->∀ (h':Heap) (tk:Nat),(∀ b o,b≠z->b≠TO->b≠i1->b≠i2->s'.heap.get? b=some o->h'.get? b=some o) ->
   Ao c U00 s00 N R .next { s' with heap:=h',toks:=tk }:=λhend h' tk kk=>by
  have kk':∀ b o,¬ W b->s'.heap.get? b=some o->h'.get? b=some o:=λb o n e=>let ⟨n1,_,n3,n4,n5⟩:=nW b n;kk b o n1 n3 n4 n5 e;have yC:=st h' tk kk';have SB:=mv h' kk';show ⟨V1,retell UF U0 U1,St.retell (s:={ s' with heap:=h',toks:=tk }) SB SF yC (yC.tup S0),y0.trans (AE.retell yC hle),done k V1 U1 _ hend i₁ qJ (pP yC SF)⟩
 cases hx:xs[k]? with
 | none=>show et D S1 S2 t₁ Z1 (.inl hx) λh' tk kk=>wpAny_execs_nil (stop (.inl hx) h' tk kk)
 | some a =>
  cases hy:ys[k]? with
  | none=>show et D S1 S2 t₁ Z1 (.inr hy) λh' tk kk=>wpAny_execs_nil (stop (.inr hy) h' tk kk)
  | some b =>
   show iI D S1 S2 t₁ Z1 hx hy λh₂ T tk Z2 ⟨x,w,rx,rw',hT⟩ hTn kk=>?_;show wpAny_letOwnedTupleGo_zip Z2.z λh₃ hz3 hs3=>?_;have hs3:Heap.SameBut z h₂ h₃:=hs3;have kk':∀ b o,¬ W b->s'.heap.get? b=some o->h₃.get? b=some o:=λb o n e=>let ⟨n1,_,n3,n4,n5⟩:=nW b n;hs3.extBut _ _ n1 (kk b o n1 n3 n4 n5 e);have y3:=st h₃ tk kk';have S3:=mv h₃ kk';have t₃:AH s₀.heap h₃:=y3.tup S0;have hTz:T≠z:=λq=>by have:=Z1.z;rw [<- q,IsZip,hTn] at this;cases this
   have r:VR h₃ (.ref T) (.tup [a,b]):=.tup (hs3.extBut _ _ hTz hT) rfl (vs:=[x,w]) (n:=0) rfl (.cons (rx.keep t₃) (.cons (rw'.keep t₃) .nil));have hf3:∀ (b:Addr),b∈fp1\/b∈fp2->b≠z:=λb hb=>hb.elim (λq=>(D.f1 b q).1) λq=>(D.f2 b q).1
   have Z3:CR z TI TO i1 i2 At1 At2 .none (k+1) h₃:=⟨hz3,hs3.extBut _ _ D.TIz Z2.ti,(let ⟨p,q,e⟩:=Z2.to;⟨p,q,hs3.extBut _ _ D.TOz e⟩),
    S1.frame _ _ _ Z2.a1 (λb hb o e=>hs3.extBut _ _ (hf3 b (.inl hb)) e) t₃,S2.frame _ _ _ Z2.a2 (λb hb o e=>hs3.extBut _ _ (hf3 b (.inr hb)) e) t₃⟩
   show Zm (turn k a b V1 U1 hx hy i₁ (.ref T) { s' with heap:=h₃,toks:=tk } r S3) (λ_ s₄ p=>?_) λ_ _ p=>?_
   ·obtain ⟨V₂,U2,SD,yD,g⟩:=p;show Zm (g s₄ SD) (λf s₅ p=>?_) λ_ _ p=>?_
    ·obtain ⟨V3,U3,SE,yE,q⟩:=p;have y45:=yD.trans yE;cases f with
     | next =>
      obtain ⟨V4,Y,d,l,hI⟩:=q;have hlt:k < xs.length:=(List.getElem?_eq_some_iff.mp hx).1;have exW:∀ b o,W b->h₃.get? b=some o->s₅.heap.get? b=some o:=λb o hb e=>let ⟨n1,_,n3,n4,_⟩:=o₁ b hb;y45.exact (s:={ s' with heap:=h₃,toks:=tk }) e n1 n3 n4;have exF:∀ b o,(b∈fp1\/b∈fp2)->h₃.get? b=some o->s₅.heap.get? b=some o:=λb o hb e=>let ⟨n1,n3,n4,_⟩:=f₁ b hb;y45.exact (s:={ s' with heap:=h₃,toks:=tk }) e n1 n3 n4;have lt:∀ b,U3 b=none->Y b=none:=λb q=>by
       cases z:Y b with
       | none=>rfl
       | some o=>rw [l b o z] at q;cases q
      have t₅:AH s₀.heap s₅.heap:=(y3.trans y45).tup S0;have hex:∀ b,W b->∃ o,h₃.get? b=some o:=λb hb=>by
       rcases hb with e | e | e | e | e<;>rw [e]<;>clear e
       ·show ⟨_,Z3.z⟩
       ·show ⟨_,Z3.ti⟩
       ·show ex2 Z3.to λ_ _ e=>?_;show ⟨_,e⟩
       ·obtain ⟨o⟩|⟨e,_⟩:=(S1.live _ _ Z3.a1)
        show ⟨o,e⟩
       ·obtain ⟨o⟩|⟨e,_⟩:=(S2.live _ _ Z3.a2)
        show ⟨o,e⟩
      have hexF:∀ b,b∈fp1\/b∈fp2->∃ o,h₃.get? b=some o:=λb hb=>by
       by_cases z:W b
       ·show hex b z
       ·obtain ⟨_,_,_,o,e⟩:=f₁ b hb;show ⟨o,kk' b o z e⟩
      show ⟨m - 1,s!"o",k+1,V4,Y,s!"o",(SE.dim d).less l,(y3.trans y45).dimin l,hI,⟨exW _ _ (.inl rfl) Z3.z,exW _ _ (.inr (.inl rfl)) Z3.ti,(let ⟨p,q,e⟩:=Z3.to;⟨p,q,exW _ _ (.inr (.inr (.inl rfl))) e⟩),
       S1.frame _ _ _ Z3.a1 (λb hb o e=>exF b o (.inl hb) e) t₅,S2.frame _ _ _ Z3.a2 (λb hb o e=>exF b o (.inr hb) e) t₅⟩,λb hb=>?_,λb hb=>?_⟩
      ·obtain ⟨n1,n2⟩:=o₁ b hb;obtain ⟨o,e⟩:=hex b hb;show ⟨lt b (y45.grow b o e n1),n2⟩
      ·show an4 (f₁ b hb) λn1 n2 n3 _=>?_;obtain ⟨o,e⟩:=hexF b hb;show ⟨lt b (y45.grow b o e n1),n2,n3,o,exF b o hb e⟩
     | ret v=>show ex1 q λ_ h12z=>?_;(try clear q);show an2 h12z λ_ q=>?_;clear h12z;show q.elim
     | _=>show q.elim
    ·obtain ⟨_,_,_,_,_,_,_,_,q⟩:=p;show q.elim
   ·obtain ⟨_,_,_,_,_,_,_,_,q⟩:=p;show q.elim
end
section
variable {c:Cx}{V V':List NV}{U U0 U1 U' UF U00 Y:AA}{h h' B:Heap}{s s₀ s₁ s' s00:Shared}{N:List NV->AA->Prop}{R:AB->AA->Prop}{X:AC->List NV->AA->Prop}
theorem fP {h:Heap} (hb:h.objs.size<=b):h.get? b=none:=by
 cases z:h.get? b with
 | none=>rfl
 | some o=>show absurd (Heap.lt_size z) (Nat.not_lt.mpr hb)
inductive CJ (c:Cx) (elts:List Expr) (x1:Nat) (tp:Pos) (body:List Stmt) (V:List NV) (UF:AA) (xs ys:List AB) (N:List NV->AA->Prop) (gone:AA->Prop):Prop
 | mk (U0:AA) (V0:List NV) (I:Nat->List NV->AA->Prop) (le:Le U0 UF) (g:gone U0) (d:Bz V V0) (i:I 0 V0 U0) (fl:∀ k V U,I k V U->Am V/\B4 U)
  (turn:∀ k a b V1 U1,xs[k]?=some a->ys[k]?=some b->I k V1 U1->BN c (.Tuple elts x1 tp) (.tup [a,b]) V1 U1 (KS c body (CE (I (k+1))) (λ_ _=>False) (λ_ _ _=>False)) (λ_ _ _=>False))
  (done:∀ k V1 U1 U2,(xs[k]?=none\/ys[k]?=none)->I k V1 U1->Le U1 U2->(∀ a o,UF a=some o->U0 a=none->U2 a=some o)->N V1 U2)
theorem m9 (hf:c.fn=true) (cm:c.calm=true) (l:AL V "zip") (n:nsIn c.K mainGlobals "zip" = some none)
  (g:Ay c V pos [e1,e2] U (λas UF=>∃ xs x,as=[.tup xs,.str x]/\CJ c elts x1 tp body V UF xs (lm x) N λ_=>True) (Av X V))
  (hstar:autoParam ((backTo pos (starEach [e1,e2] c.env)).all (λx=>!x.1)=true) aU)
  (hs:autoParam (∀ x,foldedSetIterable (.Call (.Name "zip" pz) [e1,e2] [] pos) c.env x=pure x) aI) :
  WS c V (.For (.Tuple elts x1 tp) (.Call (.Name "zip" pz) [e1,e2] [] pos) body [] p) U N R X:=λs S=>by
 show wpAny_For ?_ hs;show wpAny_Call_Name_kw ?_;show bP S l n Boot.«zip» s!"k" ?_;have hp:(backTo pos (starEach [e1,e2] c.env)).any (·.1)=false:=by
  rw [EM];intro x hx;have:=List.all_eq_true.mp hstar x hx;simpa using this
 show PySem.callWith_type hp (bR hstar ?_);show g.useS S λvs s₁ as UF r SA y q=>?_;obtain ⟨xs,x,rfl,U0,V0,I,hle,_,hd,hi,flat,turn,done⟩:=q;apply r.two';intro v w r1 r2;show ex4 r1.tup_inv λlt ol us m h4z=>?_;show an5 h4z λh3z e ec ed rs=>?_;clear h4z;obtain rfl:=h3z;apply r2.str';intro t;show oI ⟨ol,e,ec,m,ed⟩ λh' hz hTI hTO h1 h2 hsz kp=>?_;show wpAny_pyIter_zip hz ?_;have hh:c.A.in1.handled=none:=S.ok.hd cm;obtain ⟨At2⟩|⟨S2,at2⟩:=(Be.str (prog:=c.prog) (w:=c.w) (A:=c.A.in1) (B:=s₁.heap) hh (s₁.heap.objs.size+1) x t)
 have S1:=Be.tup (prog:=c.prog) (w:=c.w) (A:=c.A.in1) (B:=s₁.heap) hh s₁.heap.objs.size lt rs ⟨ol,e,ec,m,ed⟩ (fP (Nat.le_refl _));have bey:∀ b,(b=s₁.heap.objs.size+4\/b=s₁.heap.objs.size+2\/b=s₁.heap.objs.size+3\/b=s₁.heap.objs.size\/b=s₁.heap.objs.size+1)->s₁.heap.get? b=none:=λb hb=>fP s!"o";have D:Cq (s₁.heap.objs.size+4) (s₁.heap.objs.size+2) (s₁.heap.objs.size+3) s₁.heap.objs.size (s₁.heap.objs.size+1) [s₁.heap.objs.size] [s₁.heap.objs.size+1] s₁.heap :=
  ⟨s!"s",s!"s",s!"s",s!"s",s!"s",s!"s",s!"s",s!"s",s!"s",s!"s",λb hb=>by rw [ZS hb];simp,λb hb=>by rw [ZS hb];simp,bey⟩
 have y2:AE c U0 s₁ U0 { s₁ with heap:=h' }:=AE.ext (t:=s₁.toks) kp;have S0:=SA.less hle;have At1:Heap.IsTupleIter h' s₁.heap.objs.size lt 0/\Heap.IsTuple h' lt us.toArray:=⟨h1,ol,kp _ _ e,ec,m,ed⟩
 show kK hf D S1 S2 SA hle y I flat turn done (((S0.ext kp).dim hd)) y2 hi ⟨hz,hTI,⟨_,_,hTO⟩,At1,at2 _ h2⟩ (λb hb=>?_) λb hb=>?_
 ·have q:=bey b hb;show ⟨S0.none_of q,SA.new_off q⟩
 ·rcases hb with hb | hb
  ·rw [ZS hb];have q:=bey _ (.inr (.inr (.inr (.inl rfl))));show an4 (SA.new_off q) λ_ f2 f3 _=>?_;obtain ⟨o⟩|⟨ho,_⟩:=h1;show ⟨S0.none_of q,f2,f3,o,ho⟩
  ·rw [ZS hb];have q:=bey _ (.inr (.inr (.inr (.inr rfl))));show an4 (SA.new_off q) λ_ f2 f3 _=>?_;show ⟨S0.none_of q,f2,f3,_,h2⟩
theorem mI (hf:c.fn=true) (cm:c.calm=true) (l:AL V "zip") (n:nsIn c.K mainGlobals "zip" = some none)
  (g:Ay c V pos [e1,e2] U (λas UF=>∃ l1 l2 xs ys,as=[.ref l1,.ref l2]/\UF l1=some (.list xs)/\UF l2=some (.list ys)/\CJ c elts x1 tp body V UF xs ys N λU0=>U0 l1=none/\U0 l2=none) (Av X V))
  (hstar:autoParam ((backTo pos (starEach [e1,e2] c.env)).all (λx=>!x.1)=true) aU)
  (hs:autoParam (∀ x,foldedSetIterable (.Call (.Name "zip" pz) [e1,e2] [] pos) c.env x=pure x) aI) :
  WS c V (.For (.Tuple elts x1 tp) (.Call (.Name "zip" pz) [e1,e2] [] pos) body [] p) U N R X:=λs S=>by
 show wpAny_For ?_ hs;show wpAny_Call_Name_kw ?_;show bP S l n Boot.«zip» s!"k" ?_;have hp:(backTo pos (starEach [e1,e2] c.env)).any (·.1)=false:=by
  rw [EM];intro x hx;have:=List.all_eq_true.mp hstar x hx;simpa using this
 show PySem.callWith_type hp (bR hstar ?_);show g.useS S λvs s₁ as UF r SA y q=>?_;obtain ⟨l1,l2,xs,ys⟩|⟨e1,hl1,hl2,q3⟩:=(q)
 clear q;obtain rfl:=e1;obtain ⟨U0,V0,I,hle,gg,hd,hi,flat,turn,done⟩:=q3;have g1:=gg.1;have g2:=gg.2;apply r.two';intro v w r1 r2;apply r1.ref';apply r2.ref';obtain ⟨us,n1,e1',rs1⟩:∃ us n,s₁.heap.get? l1=some { cls:=.type "list",data:=.seq (us:List Value).toArray n }/\AW s₁.heap us xs:=by
  show (SA.obj l1 _ hl1).list' λ_ _ e rs=>?_;show ⟨_,_,e,rs⟩
 obtain ⟨ws,n2,e2',rs2⟩:∃ us n,s₁.heap.get? l2=some { cls:=.type "list",data:=.seq (us:List Value).toArray n }/\AW s₁.heap us ys:=by
  show (SA.obj l2 _ hl2).list' λ_ _ e rs=>?_;show ⟨_,_,e,rs⟩
 show call_zip_2 (xs:=us.toArray) (ys:=ws.toArray) ⟨_,e1',rfl,_,rfl⟩ ⟨_,e2',rfl,_,rfl⟩ λh' hz hTI hTO h1 h2 hsz kp=>?_;show wpAny_pyIter_zip hz ?_;have hh:c.A.in1.handled=none:=S.ok.hd cm;have lt1:l1 < s₁.heap.objs.size:=Heap.lt_size e1';have lt2:l2 < s₁.heap.objs.size:=Heap.lt_size e2';have S1:=Be.list (prog:=c.prog) (w:=c.w) (A:=c.A.in1) (B:=s₁.heap) hh s₁.heap.objs.size l1 (Nat.ne_of_lt lt1) rs1;have S2:=Be.list (prog:=c.prog) (w:=c.w) (A:=c.A.in1) (B:=s₁.heap) hh (s₁.heap.objs.size+1) l2 (Nat.ne_of_lt (Nat.lt_add_right 1 lt2)) rs2;have bey:∀ b,(b=s₁.heap.objs.size+4\/b=s₁.heap.objs.size+2\/b=s₁.heap.objs.size+3\/b=s₁.heap.objs.size\/b=s₁.heap.objs.size+1)->s₁.heap.get? b=none:=λb hb=>fP s!"o";have D:Cq (s₁.heap.objs.size+4) (s₁.heap.objs.size+2) (s₁.heap.objs.size+3) s₁.heap.objs.size (s₁.heap.objs.size+1) [s₁.heap.objs.size,l1] [s₁.heap.objs.size+1,l2] s₁.heap:=by
  show ⟨s!"s",s!"s",s!"s",s!"s",s!"s",s!"s",s!"s",s!"s",s!"s",s!"s",λb hb=>?_,λb hb=>?_,bey⟩
  ·rcases ZC hb with rfl | hb
   ·simp
   ·rw [ZS hb];show ⟨Nat.ne_of_lt (Nat.lt_add_right 4 lt1),Nat.ne_of_lt (Nat.lt_add_right 3 lt1),Nat.ne_of_lt (Nat.lt_add_right 1 lt1)⟩
  ·rcases ZC hb with rfl | hb
   ·simp
   ·rw [ZS hb];show ⟨Nat.ne_of_lt (Nat.lt_add_right 4 lt2),Nat.ne_of_lt (Nat.lt_add_right 3 lt2),Nat.ne_of_lt lt2⟩
 have y2:AE c U0 s₁ U0 { s₁ with heap:=h' }:=AE.ext (t:=s₁.toks) kp;have S0:=SA.less hle;show kK hf D S1 S2 SA hle y I flat turn done (((S0.ext kp).dim hd)) y2 hi ⟨hz,hTI,⟨_,_,hTO⟩,⟨h1,_,kp _ _ e1',rfl,_,rfl⟩,h2,_,kp _ _ e2',rfl,_,rfl⟩ (λb hb=>?_) λb hb=>?_
 ·have q:=bey b hb;show ⟨S0.none_of q,SA.new_off q⟩
 ·have it1:∃ o,h'.get? s₁.heap.objs.size=some o:=let ⟨o,ho,_⟩:=h1;⟨o,ho⟩;have it2:∃ o,h'.get? (s₁.heap.objs.size+1)=some o:=let ⟨o,ho,_⟩:=h2;⟨o,ho⟩;have nw:∀ b,s₁.heap.get? b=none->(∃ o,h'.get? b=some o)->U0 b=none/\b∉c.own/\b∉c.frames/\∃ o,h'.get? b=some o:=λb q ho=>let ⟨_,f2,f3,_⟩:=SA.new_off q;⟨S0.none_of q,f2,f3,ho⟩;simp only [EC,Ed,or_false] at hb;rcases hb with (rfl | rfl) | (rfl | rfl)
  ·show nw _ (bey _ (.inr (.inr (.inr (.inl rfl))))) it1
  ·show an4 (SA.off _ _ hl1) λ_ f2 f3 _=>?_;show ⟨g1,f2,f3,_,kp _ _ e1'⟩
  ·show nw _ (bey _ (.inr (.inr (.inr (.inr rfl))))) it2
  ·show an4 (SA.off _ _ hl2) λ_ f2 f3 _=>?_;show ⟨g2,f2,f3,_,kp _ _ e2'⟩
end
section
variable {c:Cx}{V V' V₂:List NV}{U U1 Y:AA}{Q:AB->AA->Prop}{X:AC->AA->Prop}
noncomputable def shapesL:List (Str × Str):=[("create", "tn"),("delete", "t"),("rename", "tt"),("append", "tfno"),("flags", "tnf"),("store", "tutfn"),("expunge", "tu"),("copy", "tut"),("move", "tut"),("subscribe", "t"),("unsubscribe", "t"),("forget", "tn"),("snapshot", "nfr")]
noncomputable def lJ:Str := "create:tn delete:t rename:tt append:tfno flags:tnf store:tutfn expunge:tu copy:tut move:tut subscribe:t unsubscribe:t forget:tn snapshot:nfr"
theorem mr:Txt.split lJ " " = shapesL.map (λe:Str × Str=>(e.1++(":" : Str)++e.2:Str)):=s!"k"
theorem mJ:(Txt.split lJ " ").map AB.str=shapesL.map λe=>AB.str (e.1++(":" : Str)++e.2):=by rw [mr,E9];rfl
theorem nv:∀ e∈shapesL,Txt.split (e.1++(":" : Str)++e.2) ":" = [e.1,e.2]:=s!"k"
theorem qY:∀ e∈shapesL,∀ f∈shapesL,e.1=f.1->e=f:=s!"k"
theorem ij:∀ e∈shapesL,e.1.length<=12/\e.2.length<=5/\(e.1++(":" : Str)++e.2).length<=30:=s!"k"
theorem mK:∀ e∈shapesL,(Builtin.Str.partsBetween (e.1++(":" : Str)++e.2) (Builtin.Str.occurrences (e.1++(":" : Str)++e.2) ":" 0 (e.1++(":" : Str)++e.2).length ((e.1++(":" : Str)++e.2).length+1)) (Str.length ":")).length<=900:=s!"k"
theorem lb {V:List NV}:Bz V (V.map λe=>{ e with val:=none }):=⟨by rw [E9];rfl,λe he a ha=>by
 obtain ⟨e0⟩|⟨_,rfl⟩:=(ZM he)
 cases ha⟩
theorem pj {V:List NV}:Am (V.map λe=>{ e with val:=none }):=λe he a ha=>by
 obtain ⟨e0⟩|⟨_,rfl⟩:=(ZM he)
 cases ha
theorem bc {w:Str}{vs:List AB} (x:AG c) (cm:c.calm=true) (lv:6<=c.lv) (hs:(w,sh)∈shapesL) (hl:vs.length=sh.length) (hv:∀ (i:Nat) d a,sh.cps[i]?=some d->vs[i]?=some a->BG ⟨#[d]⟩ a)
  (k:Q .none U):AM VR c V [.tup (.str w::vs)] (λvs=>call (.ref 375) vs) U Q X:=by
 show AM.tidy ?_;show ag f375 x s!"o" s!"r" rfl s!"r" λLA=>?_;ext;have hsz:=(ij _ hs).2.1;have hvl:vs.length<=5:=by rw [hl];show hsz
 show dZ (by simp;left) ?_;ext;show af ?_;show bu (α:=Str × Str) (λe=>.str (e.1++(":" : Str)++e.2)) rfl ?_;ext;show eP s!"k" s!"k" s!"k" λD hD=>?_
 let J1:=λ(r:List (Str × Str)) (V':List NV) (U':AA)=>∃ v1 v2 v3,V'=[⟨"row",.local,some (.tup (.str w::vs))⟩,⟨"entry",.local,v1⟩,⟨"word",.local,v2⟩,⟨"shape",.local,v3⟩,⟨"value",.local,none⟩,⟨"letter",.local,none⟩,.gl "isinstance",.gl "tuple",.gl "len",.gl "str",.gl "StoreFault",.gl "SHAPES",.gl "zip",.gl "fits_shape"]/\Le (U.set D (.list ((Txt.split lJ " ").map .str))) U'/\(w,sh)∈r/\∀ e∈r,e∈shapesL
 show ⟨shapesL,_,J1,
  by rw [<- mJ];show ar (Zs ..),(ei3 _ _ _ (ai4 rfl Zr hs (λ_ h=>h))),λ_ _ U' z=>ex3 z λ_ _ _ q=>by have l:=q.2.1;show l _ _ (Zs ..),?_,?_⟩
 ·intro e r V1 U1 r1z;obtain ⟨v1,v2,v3⟩|⟨rfl,l,hm,hr⟩:=r1z;have he:=hr e Zh;have hsh:=ij _ he;show aB rfl (ac s!"r" ?_);show af ?_;show d7 ?_;ext;show eP s!"k" (sz s!"o") (sz (Zt (mK _ he) s!"d")) λD₁ hDD=>?_;rw [nv _ he];show qy (as:=[.str e.1,.str e.2]) (Zs ..) ?_ nm2 rfl (cm:=cm);change BN _ _ _ _ _ _ _;show aB rfl (ac s!"r" ?_);change BN _ _ _ _ _ _ _;show aB rfl (ac s!"r" ?_);change Al _ _ _ _ _ _ _;show bJ hDD λU2 l₂ h₂=>?_;ext;show ah (λh=>?_) (λh=>?_)
  ·have h:e.1=w:=eq_of_beq h;have he2:e=(w,sh):=qY _ he _ hs h;subst he2;ext;show dZ (by simp;left) ?_;ext;show ah (λh=>?_) (λ_=>?_)
   ·exfalso;simp [hl] at h
   show gi ?_;show af ?_;show m9 rfl cm s!"look" (sp s!"lib") ?_;ext;show i9 (k:=1) s!"d" s!"s" (sz (by simp;left)) ?_;ext
   let J2:=λ(k:Nat) (V':List NV) (U':AA)=>V'=[⟨"row",.local,none⟩,⟨"entry",.local,none⟩,⟨"word",.local,none⟩,⟨"shape",.local,none⟩,⟨"value",.local,none⟩,⟨"letter",.local,none⟩,.gl "isinstance",.gl "tuple",.gl "len",.gl "str",.gl "StoreFault",.gl "SHAPES",.gl "zip",.gl "fits_shape"]/\U'=λ_=>none
   show ⟨vs,sh,rfl,λ_=>none,_,J2,λ_ _ h=>(by cases h),trivial,lb,⟨rfl,rfl⟩,?_,?_,?_⟩
   ·intro _ _ _ r2z;obtain ⟨rfl,rfl⟩:=r2z;show ⟨pj (V:=[⟨"row",.local,none⟩,⟨"entry",.local,none⟩,⟨"word",.local,none⟩,⟨"shape",.local,none⟩,⟨"value",.local,none⟩,⟨"letter",.local,none⟩,.gl "isinstance",.gl "tuple",.gl "len",.gl "str",.gl "StoreFault",.gl "SHAPES",.gl "zip",.gl "fits_shape"]),λa o h=>by cases h⟩
   ·intro i a b _ _ ha hb r3z;obtain ⟨rfl,rfl⟩:=r3z;obtain ⟨d⟩|⟨hd,rfl⟩:=(hJ hb)
    have hf:=hv i d a hd ha;show cX (as:=[a,.str ⟨#[d]⟩]) ?_ nm2 rfl (cm:=cm);change BN _ _ _ _ _ _ _;show aB rfl (ac s!"r" ?_);change BN _ _ _ _ _ _ _;show aB rfl (ac s!"r" ?_);change Al _ _ _ _ _ _ _;ext;show j2 s!"lib" cm s!"lv" hf ?_;ext;show ⟨_,_,lb,λ_ _ h=>(by cases h),rfl,rfl⟩
   ·intro i _ _ U3 _ r4z _ hold;obtain ⟨rfl,rfl⟩:=r4z;ext;have l3:Le U2 U3:=λa o e=>hold a o e rfl;show AK.of ((((Zl hD).trans l).trans l₂).trans l3) k
  ·ext;have hne:(w,sh)≠e:=λz=>by rw [<- z] at h;simp at h
   show AK.of Zr (ei3 _ _ _ (ai4 rfl (l.trans l₂) ?_ (λf hf=>hr f (.tail _ hf))));rcases ZC hm with z | z
   ·show absurd z hne
   ·show z
 ·intro V1 U1 r5z;obtain ⟨v1,v2,v3⟩|⟨rfl,l,hm,hr⟩:=r5z;cases hm
end
structure AP where
 n:Str
 A:Ah
 B:Bx
variable {e:AP}{E' Es:List AP}
noncomputable def entD (Es:List AP):List (Str × AB):=Es.map λe=>(e.n,.ref e.A.x)
structure Af (U:AA) (S:A2) (Es:List AP) (ns:List Str) (nx:Int):Prop where
 obj:Ae U S nx
 dict:U S.b=some (.dictS (entD Es))
 box:∀ e∈Es,AD U e.A e.B
 subs:U S.s=some (.list (ns.map .str))
 name:∀ e∈Es,e.B.name=e.n
 keys:(Es.map (·.n)).Nodup
 apart:(Es.flatMap (·.A.foot)).Nodup
 sOff:∀ e∈Es,S.s∉e.A.foot
section
variable {U U1 U' Y:AA}{S:A2}{Es:List AP}{ns:List Str}{nx:Int}{F:List Addr}
theorem Ae.fr (h:Ae U S nx) (f:Fr F U U') (hx:S.x∉F) (hd:S.d∉F):Ae U' S nx:=⟨f _ _ h.x hx,f _ _ h.d hd⟩
theorem Af.le (R:Af U S Es ns nx) (l:Le U U'):Af U' S Es ns nx :=
 { R with obj:=R.obj.le l,dict:=l _ _ R.dict,box:=λe he=>(R.box e he).le l,subs:=l _ _ R.subs }
theorem AD.off (h:AD U A B) {a:Addr}{o:AY} (e:U a=some o) (hn:∀ m,o≠.attrs boxNs m) (hl:∀ xs,o≠.list xs):a∉A.foot:=by
 simp only [Ah.foot,EC,Ed,or_false];show ex1 h.l λxs h1z=>?_;show an2 h1z λhx _=>?_;clear h1z;rintro (z | z | z)
 ·rw [z,h.d] at e;cases e;show hn _ rfl
 ·rw [z,hx] at e;cases e;show hl _ rfl
 ·rw [z,h.g] at e;cases e;show hl _ rfl
theorem Af.offX (R:Af U S Es ns nx)  (he:e∈Es):S.x∉e.A.foot/\S.d∉e.A.foot/\S.b∉e.A.foot:=by
 have b:=R.box e he;show ⟨b.off R.obj.x (λ_ z=>by cases z) (λ_ z=>by cases z),b.off R.obj.d (λm z=>?_) (λ_ z=>by cases z),b.off R.dict (λ_ z=>by cases z) (λ_ z=>by cases z)⟩;injection z with z1 _;show b0 z1
theorem Af.at (R:Af U S Es ns nx)  (he:e∈Es):vAt (entD Es) e.n=some (.ref e.A.x):=by
 have key:∀ Es:List AP,(Es.map (·.n)).Nodup->e∈Es->vAt (entD Es) e.n=some (.ref e.A.x):=by
  intro Es
  induction Es with
  | nil=>intro _ h;cases h
  | cons d Es ih =>
   intro nd hm;rw [E5,E6] at nd;unfold vAt entD at ih ⊢;rw [E5,Eg];rcases ZC hm with rfl | hm
   ·simp
   ·have:d.n≠e.n:=λz=>nd.1 (by rw [z];show E7 hm);simp only [this,decide_false];show ih nd.2 hm
 show key Es R.keys he
theorem sY {Es:List AP} (h:n∉Es.map (·.n)):vAt (entD Es) n=none:=by
 unfold vAt entD;rw [Option.map_eq_none_iff,List.find?_eq_none];intro x hx;obtain ⟨e⟩|⟨he,rfl⟩:=(ZM hx)
 simp only [decide_eq_true_eq];show λz=>h (by rw [<- z];show E7 he)
noncomputable def aV (Es:List AP) (n:Str):Option AP:=Es.find? λe=>decide (e.n=n)
theorem bj {Es:List AP} (h:aV Es n=some e):e∈Es/\e.n=n:=⟨Ek h,by simpa using Et h⟩
theorem cj {Es:List AP} (h:aV Es n=none):n∉Es.map (·.n):=λz=>by
 obtain ⟨e⟩|⟨he,rfl⟩:=(ZM z)
 have:=List.find?_eq_none.mp h e he;simp at this
theorem gJ (R:Af U S Es ns nx) (n:Str):(vAt (entD Es) n).isSome=(aV Es n).isSome:=by
 cases h:aV Es n with
 | none=>rw [sY (cj h)];rfl
 | some e=>obtain ⟨he,rfl⟩:=bj h;rw [R.at he];rfl
noncomputable def setE (Es:List AP) (n:Str) (A:Ah) (B:Bx):List AP:=Es.map λe=>if e.n=n then ⟨n,A,B⟩ else e
theorem rK (Es:List AP) (n:Str) (A:Ah) (B:Bx):(setE Es n A B).map (·.n)=Es.map (·.n):=by
 unfold setE;rw [E9];apply ED;intro e _;change (if e.n=n then (⟨n,A,B⟩:AP) else e).n=e.n;split
 ·rename_i h;show h.symm
 ·rfl
theorem rJ {Es:List AP} (h:n∉Es.map (·.n)):setE Es n A B=Es:=by
 unfold setE
 conv=>rhs;rw [<- Ey Es]
 apply ED;intro e he
 have:e.n≠n:=λz=>h (by rw [<- z];show E7 he);rw [Zv this];rfl
end
section
variable {U U1 U' Y:AA}{S:A2}{Es:List AP}{ns:List Str}{nx:Int}{F:List Addr}
theorem kU {d:AP}:∀ {Es:List AP},(Es.map (·.n)).Nodup->d∈Es->e∈Es->d.n=e.n->d=e:=by
 intro Es
 induction Es with
 | nil =>
  intro _ h _ _;cases h
 | cons f Es ih =>
  intro k hd he hn;rw [E5,E6] at k;rcases ZC hd with z1 | z1
  ·rcases ZC he with z2 | z2
   ·rw [z1,z2]
   ·show absurd (by rw [<- z1,hn];show E7 z2) k.1
  ·rcases ZC he with z2 | z2
   ·show absurd (by rw [<- z2,<- hn];show E7 z1) k.1
   ·show ih k.2 z1 z2 hn
theorem dT (h1:A.d≠A.l) (h2:A.d≠A.g) (h3:A.l≠A.g):A.foot.Nodup:=by
 unfold Ah.foot;simp [h1,h2,h3]
theorem qw {Es:List AP} (he:e∈Es) (hn:e.n=n) (kd:(Es.map (·.n)).Nodup) (ap:(Es.flatMap (·.A.foot)).Nodup) (hA:A.foot.Nodup)
  (hf:∀ a∈A.foot,a∈e.A.foot\/∀ e'∈Es,a∉e'.A.foot):((setE Es n A B).flatMap (·.A.foot)).Nodup/\∀ a,a∈(setE Es n A B).flatMap (·.A.foot)->a∈A.foot\/a∈Es.flatMap (·.A.foot):=by
 induction Es with
 | nil=>cases he
 | cons d Es ih =>
  rw [E5,E6] at kd;rw [Ez,Er] at ap;by_cases hd:d.n=n
  ·have hde:d=e:=by
    rcases ZC he with z | z
    ·show z.symm
    ·show absurd (by rw [hd,<- hn];show E7 z) kd.1
   have hnone:setE Es n A B=Es:=rJ (by rw [<- hd];show kd.1);have e1:setE (d::Es) n A B=⟨n,A,B⟩::Es:=by
    change (if d.n=n then (⟨n,A,B⟩:AP) else d)::setE Es n A B=_;rw [Zw hd,hnone]
   rw [e1];show ⟨?_,λa ha=>?_⟩
   ·rw [Ez,Er];show ⟨hA,ap.2.1,λa ha b hb=>?_⟩;rintro rfl;rcases hf a ha with z | z
    ·show ap.2.2 a (by rw [hde];show z) a hb rfl
    ·obtain ⟨e'⟩|⟨he',h'⟩:=(List.mem_flatMap.mp hb)
     show z e' (.tail _ he') h'
   ·rw [Ez,En] at ha;rcases ha with ha | ha
    ·show .inl ha
    ·show .inr (by rw [Ez];show F0 _ ha)
  ·have hne:e≠d:=λz=>hd (by rw [<- z];show hn);have he':e∈Es:=(ZC he).resolve_left hne;obtain ⟨i1,i2⟩:=ih he' kd.2 ap.2.1 (λa ha=>(hf a ha).imp id λz e' he'=>z e' (.tail _ he'));have e1:setE (d::Es) n A B=d::setE Es n A B:=by
    change (if d.n=n then (⟨n,A,B⟩:AP) else d)::setE Es n A B=_;rw [Zv hd]
   rw [e1];show ⟨?_,λa ha=>?_⟩
   ·rw [Ez,Er];show ⟨ap.1,i1,λa ha b hb=>?_⟩;rintro rfl;rcases i2 a hb with z | z
    ·rcases hf a z with y | y
     ·show ap.2.2 a ha a (List.mem_flatMap.mpr ⟨e,he',y⟩) rfl
     ·show y d Zh ha
    ·show ap.2.2 a ha a z rfl
   ·rw [Ez,En] at ha;rcases ha with ha | ha
    ·show .inr (by rw [Ez];show F1 _ ha)
    ·show (i2 a ha).imp id λz=>by rw [Ez];show F0 _ z
theorem Af.feet_apart (R:Af U S Es ns nx) {d:AP} (he:e∈Es) (hd:d∈Es) (hn:e.n≠d.n):∀ a∈d.A.foot,a∉e.A.foot:=by
 have key:∀ Es:List AP,(Es.flatMap (·.A.foot)).Nodup->e∈Es->d∈Es->∀ a∈d.A.foot,a∉e.A.foot:=by
  intro Es
  induction Es with
  | nil=>intro _ h;cases h
  | cons f Es ih =>
   intro ap h1 h2 a ha;rw [Ez,Er] at ap;rcases ZC h1 with z1 | z1
   ·rcases ZC h2 with z2 | z2
    ·show absurd (by rw [z1,z2]) hn
    ·intro hb;rw [z1] at hb;show ap.2.2 a hb a (List.mem_flatMap.mpr ⟨d,z2,ha⟩) rfl
   ·rcases ZC h2 with z2 | z2
    ·intro hb;rw [z2] at ha;show ap.2.2 a ha a (List.mem_flatMap.mpr ⟨e,z1,hb⟩) rfl
    ·show ih ap.2.1 z1 z2 a ha
 show key Es R.apart he hd
theorem Af.put (R:Af U S Es ns nx)  (he:e∈Es)  (hb:AD U' A' B') (ba:Bi U U' e.A A') (hn:B'.name=e.n):Af U' S (setE Es e.n A' B') ns nx:=by
 have b:=R.box e he;show an3 (R.offX he) λox od ob=>?_;have hs:S.s∉e.A.foot:=R.sOff e he;have hnew:∀ a∈A'.foot,a∈e.A.foot\/U a=none:=λa ha=>by
  simp only [Ah.foot,EC,Ed,or_false] at ha ⊢;rcases ha with rfl | rfl | rfl
  ·show .inl (.inl ba.d)
  ·show ba.l.imp (λz=>.inr (.inl z)) id
  ·show ba.g.imp (λz=>.inr (.inr z)) id
 have hbox:∀ d∈Es,d.n≠e.n->AD U' d.A d.B:=λd hd hne=>(R.box d hd).fr ba.fr b.noL (R.feet_apart he hd λz=>hne z.symm);have hold:∀ a,(∃ o,U a=some o)->a∉e.A.foot->a∉A'.foot:=λa ⟨o,q⟩ n z=>(hnew a z).elim n λz=>by rw [z] at q;cases q
 have nfoot:∀ d∈Es,∀ a∈d.A.foot,∃ o,U a=some o:=λd hd a ha=>by
  have bd:=R.box d hd;show ex1 bd.l λxs h2z=>?_;show an2 h2z λhx _=>?_;clear h2z;simp only [Ah.foot,EC,Ed,or_false] at ha;rcases ha with rfl | rfl | rfl
  ·show ⟨_,bd.d⟩
  ·show ⟨_,hx⟩
  ·show ⟨_,bd.g⟩
 show ⟨R.obj.fr ba.fr ox od,?_,λd hd=>?_,ba.fr _ _ R.subs hs,λd hd=>?_,by rw [rK];show R.keys,?_,λd hd=>?_⟩
 ·have:entD (setE Es e.n A' B')=entD Es:=by
   unfold entD setE;rw [E9];apply ED;intro d hd;change ((if d.n=e.n then (⟨e.n,A',B'⟩:AP) else d).n,AB.ref (if d.n=e.n then (⟨e.n,A',B'⟩:AP) else d).A.x)=_;split
   ·rename_i h
    have:d=e:=kU R.keys hd he h;rw [this,ba.x]
   ·rfl
  rw [this];show ba.fr _ _ R.dict ob
 ·obtain ⟨d0⟩|⟨hd0,rfl⟩:=(ZM hd)
  change AD U' (if d0.n=e.n then (⟨e.n,A',B'⟩:AP) else d0).A (if d0.n=e.n then (⟨e.n,A',B'⟩:AP) else d0).B;split
  ·show hb
  ·rename_i h;show hbox d0 hd0 h
 ·obtain ⟨d0⟩|⟨hd0,rfl⟩:=(ZM hd)
  change (if d0.n=e.n then (⟨e.n,A',B'⟩:AP) else d0).B.name=(if d0.n=e.n then (⟨e.n,A',B'⟩:AP) else d0).n;split
  ·show hn
  ·show R.name d0 hd0
 ·show (qw he rfl R.keys R.apart (dT hb.dl.symm hb.dg.symm hb.lg) λa ha=>?_).1;show (hnew a ha).imp id λz d hd q=>by obtain ⟨o,w⟩:=nfoot d hd a q;rw [z] at w;cases w
 ·obtain ⟨d0⟩|⟨hd0,rfl⟩:=(ZM hd)
  change S.s∉(if d0.n=e.n then (⟨e.n,A',B'⟩:AP) else d0).A.foot;split
  ·show hold _ ⟨_,R.subs⟩ hs
  ·show R.sOff d0 hd0
end
section
variable {c:Cx}{V V' V₂:List NV}{U U1 Y:AA}{Q:AB->AA->Prop}{X:AC->AA->Prop}{S:A2}{Es:List AP}{ns:List Str}{nx:Int}
theorem dQ {t:Str} (x:AG c) (cm:c.calm=true) (lv:5<=c.lv) (R:Af U S Es ns nx) (hz:t.length<=900)
  (k:∀ e,aV Es (aa t)=some e->Q (.ref e.A.x) U) (kx:aV Es (aa t)=none->Ak X U):AM VR c V [.ref S.x,.str t] (λvs=>call (.ref 325) vs) U Q X:=by
 have hO:=R.obj;show ag f325 x s!"o" s!"r" rfl s!"r" λLA=>?_;ext;show da s!"lib" cm s!"lv" s!"o" ?_;ext;show jM R.dict ?_;rw [gJ R];ext;cases hf:aV Es (aa t) with
 | none =>
  ext;show λfr=>kx hf _ _ fr
 | some e =>
  obtain ⟨he,hn⟩:=bj hf;ext;show ak R.dict (by rw [<- hn];show R.at he) ?_;ext;show k e hf
theorem nR (x:AG c) (cm:c.calm=true) (lv:5<=c.lv) (R:Af U S Es ns nx) (hz:Es.length < 64)
  (k:∀ U' D,Le U U'->U D=none->U' D=some (.list ((aH (Es.map (·.n))).map .str))->Q (.ref D) U'):AM VR c V [.ref S.x] (λvs=>call (.ref 332) vs) U Q X:=by
 have hO:=R.obj;show ag f332 x s!"o" s!"r" rfl s!"r" λLA=>?_;ext;show ja R.dict (by unfold entD;rw [EQ];show sz s!"o") λD hD=>?_;ext;have e:(entD Es).map (λe=>AB.str e.1)=(Es.map (·.n)).map .str:=by unfold entD;rw [E9,E9];rfl
 rw [e];show df (Zs ..) (by rw [EQ];show hz) λD2 hD2=>?_;ext;show k _ D2 ((Zl hD).trans (Zl hD2)) (au (Zl hD) hD2) (Zs ..)
end
section
variable {c:Cx}{V V' V₂:List NV}{U U1 Y:AA}{Q:AB->AA->Prop}{X:AC->AA->Prop}{S:A2}{Es:List AP}{ns:List Str}{nx:Int}
noncomputable def letV (L:AV):AB:=.tup [.int L.uid,L.oct,.tup (L.flags.map .str),.int L.instant,.int L.modseq]
noncomputable def boxV (B:Bx):AB:=.tup [.str B.name,.int B.validity,.int B.next,.int B.top,.int B.floor,.tup (B.letters.map letV),.tup (B.gone.map bO)]
noncomputable def stoV (Es:List AP) (ns:List Str) (nx:Int):AB:=.tup [.int nx,.tup (ns.map .str),.tup (((aH (Es.map (·.n))).filterMap (aV Es)).map λe=>boxV e.B)]
theorem ju (x:AG c) (lv:1<=c.lv) (hL:AX U l L) (k:Q (letV L) U):AM VR c V [.ref l] (λvs=>call (.ref 122) vs) U Q X:=by
 show ag f122 x s!"o" s!"r" rfl s!"r" λLA=>?_;ext;show k
theorem m7 (x:AG c) (cm:c.calm=true) (lv:3<=c.lv) (hB:AD U A B) (hz:B.letters.length<=900) (hg:B.gone.length<=900) (k:Q (boxV B) U):AM VR c V [.ref A.x] (λvs=>call (.ref 160) vs) U Q X:=by
 show AM.tidy ?_;show ex1 hB.l λxs h1z=>?_;show an2 h1z λhx hL=>?_;clear h1z;show ag f160 x s!"o" s!"r" rfl s!"r" λLA=>?_;ext;show ev_compA (Addr × AV) rfl s!"cns" s!"cok" s!"cp" ?_;ext;show .mk (xs.zip B.letters) (λp=>.ref p.1) (λp=>letV p.2) _ (by rw [cY hL.len];show ar hx) (λU' l=>l _ _ hx) (sz (by rw [Ej];left)) (λcl C p hp U4 l₄=>?_) λU4 D l₄ hD h₄=>?_
 ·show me_letter_told s!"lib" ?_;ext;show ⟨p.1,p.2,rfl,(hL.zipMem p hp).le l₄,?_⟩;ext;show ju s!"lib" s!"lv" ((hL.zipMem p hp).le l₄) ?_;show ⟨rfl,Le.refl _⟩
 ·have e1:(xs.zip B.letters).map (λp=>letV p.2)=B.letters.map letV:=by
   have:=congrArg (List.map letV) hL.zip_snd;rw [E9] at this;show this
  rw [e1] at h₄;have hB4:=hB.le l₄;ext;show aq h₄ (sz (by rw [EQ];left)) ?_;ext;show aq hB4.g (sz (by rw [EQ];left)) ?_;ext;show AK.of l₄ k
theorem eC (R:Af U S Es ns nx):∀ n∈aH (Es.map (·.n)),∃ e,aV Es n=some e:=λn hn=>by
 have:=(aw _).subset hn;cases h:aV Es n with
 | none=>show absurd this (cj h)
 | some e=>show ⟨e,rfl⟩
theorem fH {γ:Type}{l:List α}{f:α->Option β}{g:β->γ}{d:γ} (h:∀ a∈l,∃ b,f a=some b):(l.filterMap f).map g=l.map λa=>((f a).map g).getD d:=by
 induction l with
 | nil=>rfl
 | cons a l ih =>
  obtain ⟨b,hb⟩:=h a Zh;rw [E0,hb,E5,E5,ih λa ha=>h a (.tail _ ha),hb];rfl
theorem fy (x:AG c) (cm:c.calm=true) (lv:7<=c.lv) (R:Af U S Es ns nx) (hz:Es.length < 64) (hns:ns.length<=900) (hb:∀ e∈Es,e.B.letters.length<=900/\e.B.gone.length<=900) (k:Q (stoV Es ns nx) U):AM VR c V [.ref S.x] (λvs=>call (.ref 337) vs) U Q X:=by
 show AM.tidy ?_;have hO:=R.obj;have nd:=eC R;show ag f337 x s!"o" s!"r" rfl s!"r" λLA=>?_;ext;show ev_compA Str rfl s!"cns" s!"cok" s!"cp" ?_;ext;show nR s!"lib" cm s!"lv" R hz λU1 D₁ l₁ _ h₁=>?_;have hlen:(aH (Es.map (·.n))).length < 64:=by rw [(aw _).length_eq,EQ];show hz
 show .mk (aH (Es.map (·.n))) .str (λn=>((aV Es n).map λe=>boxV e.B).getD .none) _ (ar h₁) (λU' l=>l _ _ h₁) (sz s!"o") (λcl C n hn U4 l₄=>?_) λU4 D l₄ hD h₄=>?_
 ·have R4:=R.le (l₁.trans l₄);have hO4:=R4.obj;obtain ⟨e,he⟩:=nd n hn;obtain ⟨hm,hen⟩:=bj he;show me_box_told s!"lib" ?_;ext;show ak R4.dict (by rw [<- hen];show R4.at hm) ?_;show ⟨e.A,e.B,rfl,R4.box e hm,?_⟩;ext;show m7 s!"lib" cm s!"lv" (R4.box e hm) (hb e hm).1 (hb e hm).2 ?_;show ⟨?_,Le.refl _⟩;change _=((aV Es n).map λe=>boxV e.B).getD .none;rw [he];rfl
 ·have R4:=R.le (l₁.trans l₄);have hO4:=R4.obj;ext;show aq h₄ (sz (by rw [EQ];left)) ?_;ext;show aq R4.subs (sz (by rw [EQ];left)) ?_;ext;show AK.of (l₁.trans l₄) ?_;unfold stoV at k;rw [fH (d:=AB.none) nd] at k;show k
end
section
variable {c:Cx}{V:List NV}{U:AA}{Q:AB->AA->Prop}{X:AC->AA->Prop}
theorem ev_idsC {x:Str}{p1 p2:Pos} (hsc:scope.names=[((".0" : Str),NameKind.local),(x,NameKind.local)]) (hx0:(x == (".0" : Str))=false) (hkind:scope.kind=.function) (hx':(x == ("__debug__" : Str))=false)
  (g:Ev c V iter U (λa U1=>∃ ns:List Int,a=.tup (ns.map .int)/\ns.length<=sizeLine/\∀ D,U1 D=none->Q (.ref D) (U1.set D (.dictI (idsD ns)))) X)
  (hs:autoParam (∀ x,foldedSetIterable iter c.env x=pure x) aI) (cm:autoParam (c.calm=true) aM) :
  Ev c V (.DictComp (.Name x p1) (.Constant (.bool true) k p2) [⟨.Name x px,iter,[],0⟩] scope pos) U Q X:=λs S=>by
 have two:∀ y∈[((".0" : Str),NameKind.local),(x,NameKind.local)],y=((".0" : Str),NameKind.local)\/y=(x,NameKind.local):=λy hy=>by simpa using hy
 have hx:scope.names.lookup x=some .local:=by rw [hsc];simp [List.lookup,hx0]
 show wpAny_DictComp_free (intKind c.prog c.w) (λ_=>true) (λv k=>∃ t,v=.int k t) (λ_ y=>y=.bool true) (cl:=[]) ?_ ?_ hkind ?_ hx ?_ hs
 ·rw [dq (by rw [hsc];intro y hy;rcases two y hy with rfl | rfl<;>(intro q;cases q)),hsc];rfl
 ·rw [hsc];intro y hy;rcases two y hy with rfl | rfl<;>(intro q;cases q)
 ·rw [hsc];intro y hy _;rcases two y hy with rfl | rfl<;>simp [List.lookup,hx0]
 show g.use S λv s₁ a U1 r SA y q=>?_;obtain ⟨ns⟩|⟨rfl,hl,q⟩:=q;show ex4 r.tup_inv λl ol vs n h4z=>?_;show an5 h4z λh3z e ec ed rs=>?_;clear h4z;obtain rfl:=h3z;have hi:=dk rs;show wpAny_pyIter_tuple ⟨_,e,ec,_,ed⟩ ?_;have hlt:=Heap.lt_size e;have kp:∀ b o,s₁.heap.get? b=some o->(s₁.heap.push { cls:=.type "tuple_iterator",data:=.fields #[.ref l,.int 0 0] }).get? b=some o:=λb o q=>Zu _ q;show ⟨s₁.heap.objs.size,_,_,_,_,_,rfl,Walks.tuple (SA.ok.hd cm) s₁.heap.objs.size l (Nat.ne_of_lt hlt) vs.toArray,by rw [vsz rs,EQ];show hl,⟨⟨_,Zz _ rfl,rfl,rfl⟩,⟨_,kp _ _ e,ec,_,ed⟩⟩,?_,⟨?_,?_,?_⟩,?_⟩
 ·intro b hb;change b < (s₁.heap.push _).objs.size;rw [Heap.size_push];have hb':b=s₁.heap.objs.size\/b=l:=by simpa using hb
  rcases hb' with rfl | rfl
  ·show Nat.lt_succ_self _
  ·show Nat.lt_succ_of_lt hlt
 ·intro C i v s₃ m₃ E' _ _ _ _;show Zp ⟨rfl,_,_,rfl,λ_ _ z=>z⟩
 ·intro C i v s₃ m₃ E' hv _ hn hm _;have hv':vs[i]?=some v:=by simpa using hv
  obtain ⟨kk,t,rfl⟩:∃ kk t,v=.int kk t:=by
   obtain ⟨hlt,rfl⟩:=List.getElem?_eq_some_iff.mp hv'
   have:∀ (vs:List Value) (ns:List Int),IntsAre vs ns->∀ v∈vs,∃ kk t,v=.int kk t:=by
    intro vs ns hi
    induction hi with
    | nil=>intro v hv;cases hv
    | cons n t r ih =>
     intro v hv;rcases ZC hv with rfl | hv
     ·show ⟨_,_,rfl⟩
     ·show ih v hv
   show this _ _ hi _ (EX hlt)
  show wpAny_Name (wpAny_loadName_local (by simp [compEnvC,relabel,hkind]) (lookup_relabel_local hx) hn hm ?_) hx';show ⟨⟨kk,isI kk t,t,rfl⟩,_,_,rfl,λ_ _ z=>z⟩
 ·intro C i v s₃ m₃ E' _ _ _ _ _;show Zp ⟨rfl,_,_,rfl,λ_ _ z=>z⟩
 ·intro D h' tk kvs vs' hD hd hlen hP hF hk;have evs:vs'=vs:=by
   show List.ext_getElem? λj=>?_;by_cases hj:j < vs'.length
   ·have h1:=hP j vs'[j] (EW hj);rw [EW hj];show (by simpa using h1.symm)
   ·rw [EN s!"o",EN];rw [hlen,E8] at hj;omega
  subst evs;rw [List.filter_eq_self.mpr λ_ _=>rfl] at hF
  have old:∀ b o,s₁.heap.get? b=some o->h'.get? b=some o:=λb o z=>hk b o (by
   intro w;have w:b=s₁.heap.objs.size:=by simpa using w
   subst w;rw [aj] at z;cases z) (kp b o z)
  have hD1:s₁.heap.get? D=none:=by
   cases z:s₁.heap.get? D with
   | none=>rfl
   | some o=>have:=kp D o z;rw [hD] at this;cases this
  have SB:=(SA.ext old).add (a:=D) (o:=.dictI (idsD ns)) (.dictI hd (pe hF hi)) (SA.new_off hD1);have yC:AE c U1 s₁ (U1.set D (.dictI (idsD ns))) { s₁ with heap:=h',toks:=tk }:=(AE.ext (t:=tk) old).tell hD1;show ⟨.ref D,_,.ref D,SB,y.trans yC,q D (SA.none_of hD1)⟩
end
section
variable {c:Cx}{V V' V₂:List NV}{U U1 Y:AA}{Q:AB->AA->Prop}{X:AC->AA->Prop}{S:A2}{Es:List AP}{ns:List Str}{nx:Int}
theorem bE {n:Int} (x:AG c) (cm:c.calm=true) (lv:3<=c.lv) (hB:AD U A B) (h:B.top+n<=9223372036854775807) (k:Q .none U):AM VR c V [.ref A.x,.int n] (λvs=>call (.ref 389) vs) U Q X:=by
 show ag f389 x s!"o" s!"r" rfl s!"r" λLA=>?_;ext;show ah (λh2=>?_) (λ_=>?_)
 ·have:=of_decide_eq_true h2;exfalso;left
 ext;show k
theorem gr {n:Int} (x:AG c) (cm:c.calm=true) (lv:4<=c.lv) (hB:AD U A B) (h:B.top+(n+1)<=9223372036854775807) (h2:B.next+n - 1<=4294967295) (k:Q .none U):AM VR c V [.ref A.x,.int n] (λvs=>call (.ref 396) vs) U Q X:=by
 show ag f396 x s!"o" s!"r" rfl s!"r" λLA=>?_;ext;show bE s!"lib" cm s!"lv" hB h ?_;ext;show ah (λh3=>?_) (λ_=>?_)
 ·have:=of_decide_eq_true h3;exfalso;left
 ext;show k
theorem eu (x:AG c) (cm:c.calm=true) (lv:3<=c.lv) (R:Af U S Es ns nx) (k:aV Es n=none->Q .none U) (kx:(∃ e,aV Es n=some e)->Ak X U):AM VR c V [.ref S.x,.str n] (λvs=>call (.ref 403) vs) U Q X:=by
 have hO:=R.obj;show ag f403 x s!"o" s!"r" rfl s!"r" λLA=>?_;ext;show qi R.dict ?_;rw [gJ R];ext;cases hf:aV Es n with
 | none=>ext;show k hf
 | some e=>ext;show λfr=>kx ⟨e,hf⟩ _ _ fr
theorem dF {v:Int} (x:AG c) (cm:c.calm=true) (lv:3<=c.lv) (hO:Ae U S nx) (k:nx<=v->v < 4294967295->Q .none U) (kx:¬ (nx<=v/\v < 4294967295)->Ak X U):AM VR c V [.ref S.x,.int v] (λvs=>call (.ref 410) vs) U Q X:=by
 show ag f410 x s!"o" s!"r" rfl s!"r" λLA=>?_;ext;show ah (λh=>?_) (λh=>?_)
 ·have h:=of_decide_eq_true h;ext;show ah (λh2=>?_) (λh2=>?_)
  ·have h2:¬ v < 4294967295:=by simpa using h2
   ext;show λfr=>kx (λz=>h2 z.2) _ _ fr
  ·have h2:v < 4294967295:=by simpa using h2
   ext;show k h h2
 ·have h:=of_decide_eq_false h;ext;show λfr=>kx (λz=>h z.1) _ _ fr
theorem mu (x:AG c) (cm:c.calm=true) (lv:5<=c.lv) (hB:AD U A B) (hz:B.letters.length<=900) (ha:BM B.letters) (hus:us.length < 64)
  (k:∀ U' D,Le U U'->U' D=some (.list ((bh (once [] us)).map .int))->(∀ u∈us,∃ L∈B.letters,L.uid=u)->Q (.ref D) U') (kx:(∃ u∈us,∀ L∈B.letters,L.uid≠u)->Ak X U):AM VR c V [.ref A.x,.tup (us.map .int)] (λvs=>call (.ref 415) vs) U Q X:=by
 show AM.tidyX ?_;have hol:=gj us [];have hz2:(once [] us).length < 64:=by simp at hol;left
 show ag f415 x s!"o" s!"r" rfl s!"r" λLA=>?_;ext;show ev_idsC rfl rfl rfl rfl ?_ (cm:=cm);ext;show ⟨sz s!"o",λD₁ hDD=>?_⟩;ext;have hkl:(idsD us).length < 64:=by
  have:=congrArg List.length (fm us);unfold dy at this;rw [EQ] at this;left
 show nt (Zs ..) (sz s!"o") (λD₂ hDE=>?_) (cm:=cm);ext;show lO (ns:=once [] us) (by rw [Zs,<- fm];unfold dy;rw [E9];rfl) hz2 λD hD=>?_;ext;show bJ hD λU1 l₁ h₁=>?_;have l:=((Zl hDD).trans (Zl hDE)).trans l₁;have hB1:=hB.le l;show af ?_;show bu (α:=Int) .int rfl ?_;ext
 let J1:=λ(r:List Int) (V':List NV) (U':AA)=>∃ v done,V'=[⟨"box",.local,some (.ref A.x)⟩,⟨"uids",.local,some (.tup (us.map .int))⟩,⟨"uid",.local,v⟩,⟨"found",.local,some (.ref D)⟩,.gl "sorted",.gl "list",.gl "StoreFault"]/\U1=U'/\bh (once [] us)=done++r/\∀ u∈done,∃ L∈B.letters,L.uid=u
 show ⟨bh (once [] us),_,J1,
  ar h₁,(ei2 _ ([]) (ai4 rfl rfl rfl (λu hu=>by cases hu))),λ_ _ U' z=>ex2 z λ_ _ q=>by have e:=q.2.1;rw [<- e];show h₁,?_,?_⟩
 ·intro u r V1 _ r1z;obtain ⟨v,done⟩|⟨rfl,rfl,hd,hu⟩:=r1z;have hus2:u∈us:=by
   have:u∈bh (once [] us):=by rw [hd];simp
   have:=(aX _).subset this;rw [gm] at this;show this.resolve_left s!"s"
  show aB rfl (ac s!"r" ?_);ext;show kP s!"lib" cm s!"lv" hB1 s!"o" ha (λi M a e1 e2 hM=>?_) (λhn=>?_)
  ·ext;show hY (λas h=>by cases h) ?_;ext;show AK.of Zr (ei2 _ (done++[u]) (ai4 rfl rfl (by rw [hd];simp) (λw hw=>?_)));rcases ZA hw with hw | hw
   ·show hu w hw
   ·rw [ZS hw];show ⟨M,Eo e1,e2⟩
  ·ext;show hY (λas h=>by cases h) ?_;ext;show λfr=>⟨U,l,kx ⟨u,hus2,hn⟩ _ _ fr⟩
 ·intro V1 _ r2z;obtain ⟨v,done⟩|⟨rfl,rfl,hd,hu⟩:=r2z;ext;show AK.of Zr (k _ D l h₁ λu hm=>hu u ?_);rw [ET] at hd;rw [<- hd];show (aX _).symm.subset ((gm _ _ _).mpr (.inr hm))
end
noncomputable def bK (S:A2) (Es:List AP):List Addr:=S.d::S.b::S.s::Es.flatMap (·.A.foot)
structure An (U U':AA) (S:A2) (Es:List AP) (S':A2) (Es':List AP):Prop where
 x:S'.x=S.x
 d:S'.d=S.d
 b:S'.b=S.b
 fr:Fr (bK S Es) U U'
 new:∀ a∈bK S' Es',a∈bK S Es\/U a=none
section
variable {U U1 U' Y:AA}{S SA S':A2}{Es E1 Es':List AP}{ns:List Str}{nx:Int}{F:List Addr}
theorem An.refl:An U U S Es S Es:=⟨rfl,rfl,rfl,Fr.refl,λ_ h=>.inl h⟩
theorem An.le (K:An U U1 S Es S' Es') (l:Le U1 U'):An U U' S Es S' Es':=⟨K.x,K.d,K.b,K.fr.le l,K.new⟩
theorem An.of_le (l:Le U U'):An U U' S Es S Es:=An.refl.le l
theorem An.trans (K:An U U1 S Es SA E1) (J:An U1 U' SA E1 S' Es'):An U U' S Es S' Es':=by
 show ⟨J.x.trans K.x,J.d.trans K.d,J.b.trans K.b,λa o e n=>J.fr a o (K.fr a o e n) λz=>?_,λa ha=>?_⟩
 ·rcases K.new a z with h | h
  ·show n h
  ·rw [h] at e;cases e
 ·rcases J.new a ha with h | h
  ·show K.new a h
  ·by_cases n:a∈bK S Es
   ·show .inl n
   ·cases z:U a with
    | none=>show .inr rfl
    | some o=>rw [K.fr a o z n] at h;cases h
theorem Af.foot_told (R:Af U S Es ns nx):∀ a∈bK S Es,∃ o,U a=some o:=λa ha=>by
 simp only [bK,EC] at ha;rcases ha with rfl | rfl | rfl | ha
 ·show ⟨_,R.obj.d⟩
 ·show ⟨_,R.dict⟩
 ·show ⟨_,R.subs⟩
 ·obtain ⟨d⟩|⟨hd,h⟩:=(List.mem_flatMap.mp ha)
  have bd:=R.box d hd;show ex1 bd.l λxs h2z=>?_;show an2 h2z λhx _=>?_;clear h2z;simp only [Ah.foot,EC,Ed,or_false] at h;rcases h with rfl | rfl | rfl
  ·show ⟨_,bd.d⟩
  ·show ⟨_,hx⟩
  ·show ⟨_,bd.g⟩
theorem Af.off_foot (R:Af U S Es ns nx) {a:Addr} (h:U a=none):a∉bK S Es:=λz=>by
 obtain ⟨o,e⟩:=R.foot_told a z;rw [h] at e;cases e
theorem c8 (he:e∈Es):∀ a∈e.A.foot,a∈bK S Es:=λa ha =>
 .tail _ (.tail _ (.tail _ (List.mem_flatMap.mpr ⟨e,he,ha⟩)))
theorem Af.keepB (R:Af U S Es ns nx)  (he:e∈Es)  (ba:Bi U U' e.A A'):An U U' S Es S (setE Es e.n A' B'):=by
 show ⟨rfl,rfl,rfl,ba.fr.mono (c8 he),λa ha=>?_⟩;simp only [bK,EC] at ha;rcases ha with rfl | rfl | rfl | ha
 ·show .inl Zh
 ·show .inl (.tail _ Zh)
 ·show .inl (.tail _ (.tail _ Zh))
 ·obtain ⟨d⟩|⟨hd,h⟩:=(List.mem_flatMap.mp ha)
  obtain ⟨d0⟩|⟨hd0,rfl⟩:=(ZM hd)
  have h:a∈(if d0.n=e.n then (⟨e.n,A',B'⟩:AP) else d0).A.foot:=h;by_cases q:d0.n=e.n
  ·rw [Zw q] at h;simp only [Ah.foot,EC,Ed,or_false] at h;have hf:∀ b∈e.A.foot,b∈bK S Es:=c8 he;rcases h with rfl | rfl | rfl
   ·show .inl (hf _ (by rw [ba.d];show .head _))
   ·show ba.l.imp (λz=>hf _ (by rw [z];show .tail _ Zh)) id
   ·show ba.g.imp (λz=>hf _ (by rw [z];show .tail _ (.tail _ Zh))) id
  ·rw [Zv q] at h;show .inl (c8 hd0 _ h)
theorem Bi.of_fr (f:Fr A.foot U U'):Bi U U' A A:=⟨rfl,rfl,.inl rfl,.inl rfl,f⟩
theorem Af.setN (R:Af U S Es ns nx) (v:Int):Af (U.set S.d (.attrs storeNs (bq S v))) S Es ns v/\An U (U.set S.d (.attrs storeNs (bq S v))) S Es S Es:=by
 have hd:∀ a o,U a=some o->(∀ m,o≠.attrs storeNs m)->(U.set S.d (.attrs storeNs (bq S v))) a=some o:=λa o e n=>by
  rw [Zn];show e;rintro rfl;rw [R.obj.d] at e;cases e;show n _ rfl
 have f:Fr [S.d] U (U.set S.d (.attrs storeNs (bq S v))):=Fr.refl.set Zh;show ⟨{ R with obj:=⟨hd _ _ R.obj.x s!"s",Zs ..⟩,dict:=hd _ _ R.dict s!"s",box:=λe he=>?_,subs:=hd _ _ R.subs s!"s" },⟨rfl,rfl,rfl,f.mono λa ha=>?_,λ_ h=>.inl h⟩⟩
 ·show (R.box e he).fr f (λa ha=>?_) λa ha z=>?_
  ·rw [ZS ha,R.obj.d];show .attrs c6
  ·rw [ZS z] at ha;show (R.offX he).2.1 ha
 ·rw [ZS ha];show .head _
theorem Af.setS (R:Af U S Es ns nx)  (hD:U D=some (.list (ms.map .str))) (ho:∀ e∈Es,D∉e.A.foot) :
  Af (U.set S.d (.attrs storeNs (bq { S with s:=D } nx))) { S with s:=D } Es ms nx:=by
 have hd:∀ a o,U a=some o->(∀ m,o≠.attrs storeNs m)->(U.set S.d (.attrs storeNs (bq { S with s:=D } nx))) a=some o:=λa o e n=>by
  rw [Zn];show e;rintro rfl;rw [R.obj.d] at e;cases e;show n _ rfl
 have f:Fr [S.d] U (U.set S.d (.attrs storeNs (bq { S with s:=D } nx))):=Fr.refl.set Zh;show ⟨⟨hd _ _ R.obj.x s!"s",Zs ..⟩,hd _ _ R.dict s!"s",λe he=>?_,hd _ _ hD s!"s",R.name,R.keys,R.apart,ho⟩;show (R.box e he).fr f (λa ha=>?_) λa ha z=>?_
 ·rw [ZS ha,R.obj.d];show .attrs c6
 ·rw [ZS z] at ha;show (R.offX he).2.1 ha
theorem Af.setD (R:Af U S Es ns nx)  (hb:∀ e∈E',AD U e.A e.B) (hn:∀ e∈E',e.B.name=e.n) (hk:(E'.map (·.n)).Nodup) (ha:(E'.flatMap (·.A.foot)).Nodup) (hs:∀ e∈E',S.s∉e.A.foot) :
  Af (U.set S.b (.dictS (entD E'))) S E' ns nx:=by
 have hd:∀ a o,U a=some o->(∀ m,o≠.dictS m)->(U.set S.b (.dictS (entD E'))) a=some o:=λa o e n=>by
  rw [Zn];show e;rintro rfl;rw [R.dict] at e;cases e;show n _ rfl
 have f:Fr [S.b] U (U.set S.b (.dictS (entD E'))):=Fr.refl.set Zh;show ⟨⟨hd _ _ R.obj.x s!"s",hd _ _ R.obj.d s!"s"⟩,Zs ..,λe he=>?_,hd _ _ R.subs s!"s",hn,hk,ha,hs⟩;show (hb e he).fr f (λa ha=>?_) λa ha z=>?_
 ·rw [ZS ha,R.dict];show .dictS
 ·rw [ZS z] at ha;show (hb e he).off R.dict s!"s" s!"s" ha
theorem u6 (h:∀ a∈E'.flatMap (·.A.foot),a∈Es.flatMap (·.A.foot)\/U a=none):An U (U.set S.b (.dictS (entD E'))) S Es S E':=by
 have f:Fr [S.b] U (U.set S.b (.dictS (entD E'))):=Fr.refl.set Zh;show ⟨rfl,rfl,rfl,f.mono λa ha=>by rw [ZS ha];show .tail _ Zh,λa ha=>?_⟩;simp only [bK,EC] at ha ⊢;rcases ha with h1 | h1 | h1 | h1
 ·show .inl (.inl h1)
 ·show .inl (.inr (.inl h1))
 ·show .inl (.inr (.inr (.inl h1)))
 ·show (h a h1).imp (λz=>.inr (.inr (.inr z))) id
theorem Af.add (R:Af U S Es ns nx) (l:Le U U1)  (hB:AD U1 A B) (hd:U A.d=none) (hl:U A.l=none) (hg:U A.g=none) (hn:B.name=n) (hk:n∉Es.map (·.n)) :
  Af (U1.set S.b (.dictS (entD (Es++[⟨n,A,B⟩])))) S (Es++[⟨n,A,B⟩]) ns nx/\An U (U1.set S.b (.dictS (entD (Es++[⟨n,A,B⟩])))) S Es S (Es++[⟨n,A,B⟩]):=by
 have R1:=R.le l;have nf:∀ a∈A.foot,U a=none:=λa ha=>by
  simp only [Ah.foot,EC,Ed,or_false] at ha;rcases ha with rfl | rfl | rfl<;>assumption
 have mem:∀ e∈Es++[⟨n,A,B⟩],e∈Es\/e=⟨n,A,B⟩:=λe he=>by simpa using he
 show ⟨R1.setD (λe he=>?_) (λe he=>?_) ?_ ?_ (λe he=>?_),?_⟩
 ·rcases mem e he with h | rfl
  ·show R1.box e h
  ·show hB
 ·rcases mem e he with h | rfl
  ·show R.name e h
  ·show hn
 ·rw [Eh,Er];show ⟨R.keys,s!"s",λa ha b hb=>?_⟩;simp at hb;subst hb;rintro rfl;show hk ha
 ·rw [F5,Er];show ⟨R.apart,by simpa using dT hB.dl.symm hB.dg.symm hB.lg,λa ha b hb=>?_⟩;rintro rfl;have hb:a∈A.foot:=by simpa using hb
  obtain ⟨o,e⟩:=R.foot_told a (.tail _ (.tail _ (.tail _ ha)));rw [nf a hb] at e;cases e
 ·rcases mem e he with h | rfl
  ·show R.sOff e h
  ·intro z;have:=nf _ z;rw [R.subs] at this;cases this
 ·show ⟨rfl,rfl,rfl,(l.fr (F:=bK S Es)).trans ((Fr.refl.set (F:=[S.b]) Zh).mono λa ha=>by rw [ZS ha];show .tail _ Zh),λa ha=>?_⟩;simp only [bK,EC,F5,En] at ha ⊢;rcases ha with h1 | h1 | h1 | h1 | h1
  ·show .inl (.inl h1)
  ·show .inl (.inr (.inl h1))
  ·show .inl (.inr (.inr (.inl h1)))
  ·show .inl (.inr (.inr (.inr h1)))
  ·show .inr (nf a (by simpa using h1))
theorem Af.keepS (R:Af U S Es ns nx) (l:Le U U1)  (hD:U D=none) {m:Str->Option AB}{T:List Str}:An U (U1.set S.d (.attrs T m)) S Es { S with s:=D } Es:=by
 show ⟨rfl,rfl,rfl,(l.fr (F:=bK S Es)).trans ((Fr.refl.set (F:=[S.d]) Zh).mono λa ha=>by rw [ZS ha];show .head _),λa ha=>?_⟩;simp only [bK,EC] at ha ⊢;rcases ha with h1 | h1 | h1 | h1
 ·show .inl (.inl h1)
 ·show .inl (.inr (.inl h1))
 ·show .inr (by rw [h1];show hD)
 ·show .inl (.inr (.inr (.inr h1)))
noncomputable def delE (Es:List AP) (n:Str):List AP:=Es.filter λe=>!decide (e.n=n)
theorem lu {Es:List AP}:wout (entD Es) n=entD (delE Es n):=by
 unfold wout entD delE;rw [Eu]
 congr 1
 apply F6;intro e _;simp
theorem i8 {E:List AP} (h:E.Sublist Es):(E.flatMap (·.A.foot)).Sublist (Es.flatMap (·.A.foot)):=by
 induction h with
 | slnil=>show .slnil
 | cons a _ ih=>rw [Ez];show ih.trans (List.sublist_append_right _ _)
 | cons_cons a _ ih=>rw [Ez,Ez];show List.Sublist.append (.refl _) ih
theorem Af.del (R:Af U S Es ns nx) (n:Str):Af (U.set S.b (.dictS (entD (delE Es n)))) S (delE Es n) ns nx/\An U (U.set S.b (.dictS (entD (delE Es n)))) S Es S (delE Es n):=by
 have sb:(delE Es n).Sublist Es:=F7
 show ⟨R.setD (λe he=>R.box e (sb.subset he)) (λe he=>R.name e (sb.subset he)) (R.keys.sublist (sb.map _)) (R.apart.sublist (i8 sb)) (λe he=>R.sOff e (sb.subset he)),
  u6 λa ha=>.inl ((i8 sb).subset ha)⟩
end
inductive BK where
 | create (n:Str) (v:Int)
 | delete (n:Str)
 | rename (n g:Str)
 | append (n:Str) (fs:List Str) (t:Int) (b:Array UInt8) (k:Tok)
 | flags (n:Str) (u:Int) (fs:List Str)
 | store (n:Str) (us:List Int) (way:Str) (fs:List Str) (un:Int)
 | expunge (n:Str) (us:List Int)
 | copy (mv:Bool) (n:Str) (us:List Int) (g:Str)
 | subscribe (n:Str)
 | unsubscribe (n:Str)
 | forget (n:Str) (m:Int)
noncomputable def bB (fs:List Str):AB:=.tup (fs.map .str)
noncomputable def bw (us:List Int):AB:=.tup (us.map .int)
noncomputable def rowV:BK->AB
 | .create n v=>.tup [.str "create",.str n,.int v]
 | .delete n=>.tup [.str "delete",.str n]
 | .rename n g=>.tup [.str "rename",.str n,.str g]
 | .append n fs t b k=>.tup [.str "append",.str n,bB fs,.int t,.bytes b k]
 | .flags n u fs=>.tup [.str "flags",.str n,.int u,bB fs]
 | .store n us way fs un=>.tup [.str "store",.str n,bw us,.str way,bB fs,.int un]
 | .expunge n us=>.tup [.str "expunge",.str n,bw us]
 | .copy mv n us g=>.tup [.str (if mv then "move" else "copy"),.str n,bw us,.str g]
 | .subscribe n=>.tup [.str "subscribe",.str n]
 | .unsubscribe n=>.tup [.str "unsubscribe",.str n]
 | .forget n m=>.tup [.str "forget",.str n,.int m]
inductive B6 where
 | v (a:AB)
 | pairs (ps:List (Str × Str))
 | two (xs ys:List Int)
noncomputable def cr (p:Str × Str):AB:=.tup [.str p.1,.str p.2]
noncomputable def A8 (U:AA) (a:AB):B6->Prop
 | .v b=>a=b
 | .pairs ps=>∃ D,a=.ref D/\U D=some (.list (ps.map cr))
 | .two xs ys=>∃ C R,a=.tup [.ref C,.ref R]/\U C=some (.list (xs.map .int))/\U R=some (.list (ys.map .int))
abbrev As:=List (Str × Bx)
variable {bs:As}
noncomputable def aA (bs:As) (n:Str):Option Bx:=(bs.find? λe=>decide (e.1=n)).map (·.2)
noncomputable def setB (bs:As) (n:Str) (B:Bx):As:=bs.map λe=>if e.1=n then (n,B) else e
noncomputable def delB (bs:As) (n:Str):As:=bs.filter λe=>!decide (e.1=n)
noncomputable def Bx.new (n:Str) (v:Int):Bx:=⟨n,v,1,1,0,[],[]⟩
noncomputable def bz (n f g:Str):Str:=g++Txt.slice n (some (f.length:Int)) none
noncomputable def aC (ks:List Str) (f g:Str):List (Str × Str):=((aH ks).filter λn=>n == f || bl n f).map λn=>(n,bz n f g)
noncomputable def renB (bs:As) (ps:List (Str × Str)):As:=(bs.filter λe=>!(ps.any λp=>p.1 == e.1))++ps.filterMap λp=>(aA bs p.1).map λB=>(p.2,{ B with name:=p.2 })
noncomputable def mvIn (bs:As) (f h:Str) (B G:Bx) (Ls:List AV) (mv:Bool):As :=
 let b1:=setB bs h (G.addAll Ls)
 if mv then setB b1 f ((if f=h then G.addAll Ls else B).expunge (Ls.map (·.uid))) else b1
noncomputable def step (s:Bh):BK->Option (Bh × B6)
 | .create n v =>
  if aJ (aa n) && (aA s.boxes (aa n)).isNone && (decide (s.next<=v) && decide (v < 4294967295)) then
   some (⟨s.boxes++[(aa n,Bx.new (aa n) v)],s.names,v+1⟩,.v (.int v)) else none
 | .delete n=>match aA s.boxes (aa n) with
  | none=>none
  | some B=>if aa n = "INBOX" then none else some ({ s with boxes:=delB s.boxes (aa n) },.v (.int B.validity))
 | .rename n g=>match aA s.boxes (aa n) with
  | none=>none
  | some B =>
   if aJ (aa g) && (aA s.boxes (aa g)).isNone then
    if aa n = "INBOX" then
     if s.next < 4294967295 then
      some (⟨setB s.boxes (aa n) (B.expunge (B.letters.map (·.uid)))++[(aa g,(Bx.new (aa g) s.next).addAll B.letters)],s.names,s.next+1⟩,.pairs [("INBOX",aa g)])
     else none
    else
     let ps:=aC (s.boxes.map (·.1)) (aa n) (aa g)
     if ps.any (λp=>(aA s.boxes p.2).isSome) then none else some ({ s with boxes:=renB s.boxes ps },.pairs ps)
   else none
 | .append n fs t b k=>match aA s.boxes (aa n),ae fs with
  | some B,some ns=>some ({ s with boxes:=setB s.boxes (aa n) (B.add (.bytes b k) ns t) },.v (.tup [.int B.validity,.int B.next]))
  | _,_=>none
 | .flags n u fs=>match aA s.boxes (aa n),ae fs with
  | some B,some ns=>if (aL B.letters u).isSome then some ({ s with boxes:=setB s.boxes (aa n) (B.turn u ns).1 },.v (.bool (B.turn u ns).2)) else none
  | _,_=>none
 | .store n us way fs un=>match aA s.boxes (aa n),ae fs with
  | some B,some ns =>
   let o:=if un < 0 then none else some un
   some ({ s with boxes:=setB s.boxes (aa n) (B.storeF o way ns us).1 },.two (B.storeF o way ns us).2 (((B.picked us).filter (bn o)).map (·.uid)))
  | _,_=>none
 | .expunge n us=>match aA s.boxes (aa n) with
  | some B=>some ({ s with boxes:=setB s.boxes (aa n) (B.expunge us) },.v (bw (B.left us)))
  | none=>none
 | .copy mv n us g=>match aA s.boxes (aa n),aA s.boxes (aa g) with
  | some B,some G =>
   if us.all (λu=>(aL B.letters u).isSome) then
    some ({ s with boxes:=mvIn s.boxes (aa n) (aa g) B G (B.picked us) mv },
     .v (.tup [.int G.validity,bw ((B.picked us).map (·.uid)),bw ((aN G.next (B.picked us)).map (·.2))]))
   else none
  | _,_=>none
 | .subscribe n=>if aJ (aa n) then
   (if s.names.any (· == aa n) then some (s,.v (.bool false)) else some ({ s with names:=aH (s.names++[aa n]) },.v (.bool true))) else none
 | .unsubscribe n=>if s.names.any (· == aa n) then some ({ s with names:=s.names.filter λm=>m != aa n },.v (.bool true)) else none
 | .forget n m=>match aA s.boxes (aa n) with
  | some B=>some ({ s with boxes:=setB s.boxes (aa n) (B.forget m) },.v (.int (B.forgot m)))
  | none=>none
noncomputable def ai (Es:List AP) (ns:List Str) (nx:Int):Bh:=⟨Es.map λe=>(e.n,e.B),ns,nx⟩
theorem ew :aA (Es.map λe=>(e.n,e.B)) n=(aV Es n).map (·.B):=by
 unfold aA aV
 induction Es with
 | nil=>rfl
 | cons e Es ih =>
  rw [E5,Eg,Eg];dsimp only;by_cases h:e.n=n
  ·simp [h]
  ·simp only [h,decide_false];show ih
theorem setB_of :(setE Es n A B).map (λe=>(e.n,e.B))=setB (Es.map λe=>(e.n,e.B)) n B:=by
 unfold setE setB;rw [E9,E9];apply ED;intro e _;change ((if e.n=n then (⟨n,A,B⟩:AP) else e).n,(if e.n=n then (⟨n,A,B⟩:AP) else e).B)=if e.n=n then (n,B) else (e.n,e.B)
 split<;>rfl
theorem delB_of :(delE Es n).map (λe=>(e.n,e.B))=delB (Es.map λe=>(e.n,e.B)) n:=by
 unfold delE delB;rw [Eu];rfl
structure BL (U U':AA) (S:A2) (Es:List AP) (ns:List Str) (nx:Int) (s':Bh):Prop where
 out:∃ S' Es',Af U' S' Es' s'.names s'.next/\An U U' S Es S' Es'/\s'.boxes=Es'.map λe=>(e.n,e.B)
structure Cp (m:Nat) (B:Bx):Prop where
 asc:BM B.letters
 canon:∀ L∈B.letters,Ax L.flags
 len:B.letters.length<=m
 gone:B.gone.length<=m
 top:B.top<=2 * m
 next:B.next<=m
structure AT (m:Nat) (s:Bh):Prop where
 box:∀ e∈s.boxes,Cp m e.2
 good:∀ e∈s.boxes,aJ e.1=true/\aa e.1=e.1/\e.1.length<=400
 count:s.boxes.length<=30
 names:s.names.length<=30
 next:s.next<=1000
theorem kJ (B:Bx) (u:Int) (ns:List Str):(B.turn u ns).1.name=B.name:=by
 unfold Bx.turn;cases B.letters.findIdx? (λL=>L.uid == u) with
 | none=>rfl
 | some i=>cases aL B.letters u with
  | none=>rfl
  | some L=>dsimp only;split<;>rfl
theorem cS (B:Bx) (us:List Int):(B.expunge us).name=B.name:=by
 unfold Bx.expunge;split<;>rfl
theorem mR (B:Bx) (m:Int):(B.forget m).name=B.name:=by
 unfold Bx.forget;split<;>rfl
section
variable {U U':AA}{S:A2}{Es:List AP}{ns:List Str}{nx:Int}{m:Nat}
theorem bL (h:aV Es n=some e):aA (ai Es ns nx).boxes n=some e.B:=by
 change aA (Es.map λe=>(e.n,e.B)) n=_;rw [ew,h];rfl
theorem cI (h:aV Es n=none):aA (ai Es ns nx).boxes n=none:=by
 change aA (Es.map λe=>(e.n,e.B)) n=_;rw [ew,h];rfl
theorem ou {v:Int} (hok:aJ (aa n)=true) (hf:aV Es (aa n)=none) (h1:nx<=v) (h2:v < 4294967295) :
  step (ai Es ns nx) (.create n v)=some (⟨(ai Es ns nx).boxes++[(aa n,Bx.new (aa n) v)],ns,v+1⟩,.v (.int v)):=by
 rw [step,cI hf,hok,Zw]
 ·rfl
 ·simp only [Option.isNone_none,Bool.and_self,Bool.true_and,Bool.and_eq_true,decide_eq_true_eq];show ⟨h1,h2⟩
theorem iq (he:aV Es (aa n)=some e):step (ai Es ns nx) (.delete n)=if aa n = "INBOX" then none else some ({ ai Es ns nx with boxes:=delB (ai Es ns nx).boxes (aa n) },.v (.int e.B.validity)):=by
 rw [step,bL he]
theorem nM {t:Int}{b:Array UInt8} (he:aV Es (aa n)=some e) (hm:ae fs=some ms) :
  step (ai Es ns nx) (.append n fs t b kk)=some ({ ai Es ns nx with boxes:=setB (ai Es ns nx).boxes (aa n) (e.B.add (.bytes b kk) ms t) },.v (.tup [.int e.B.validity,.int e.B.next])):=by
 rw [step,bL he,hm]
theorem jO (he:aV Es (aa n)=some e) (hm:ae fs=some ms) :
  step (ai Es ns nx) (.flags n u fs)=if (aL e.B.letters u).isSome then some ({ ai Es ns nx with boxes:=setB (ai Es ns nx).boxes (aa n) (e.B.turn u ms).1 },.v (.bool (e.B.turn u ms).2)) else none:=by
 rw [step,bL he,hm]
theorem pF (he:aV Es (aa n)=some e) (hm:ae fs=some ms) :
  step (ai Es ns nx) (.store n us way fs un)=some ({ ai Es ns nx with boxes:=setB (ai Es ns nx).boxes (aa n) (e.B.storeF (if un < 0 then none else some un) way ms us).1 },
   .two (e.B.storeF (if un < 0 then none else some un) way ms us).2 (((e.B.picked us).filter (bn (if un < 0 then none else some un))).map (·.uid))):=by
 rw [step,bL he,hm]
theorem lX (he:aV Es (aa n)=some e) :
  step (ai Es ns nx) (.expunge n us)=some ({ ai Es ns nx with boxes:=setB (ai Es ns nx).boxes (aa n) (e.B.expunge us) },.v (bw (e.B.left us))):=by
 rw [step,bL he]
theorem q0 {d:AP} (he:aV Es (aa n)=some e) (hd:aV Es (aa g)=some d) :
  step (ai Es ns nx) (.copy mv n us g)=if us.all (λu=>(aL e.B.letters u).isSome) then
    some ({ ai Es ns nx with boxes:=mvIn (ai Es ns nx).boxes (aa n) (aa g) e.B d.B (e.B.picked us) mv },
     .v (.tup [.int d.B.validity,bw ((e.B.picked us).map (·.uid)),bw ((aN d.B.next (e.B.picked us)).map (·.2))]))
   else none:=by
 rw [step,bL he,bL hd]
theorem eK (hok:aJ (aa n)=true):step (ai Es ns nx) (.subscribe n) =
  if ns.any (· == aa n) then some (ai Es ns nx,.v (.bool false)) else some ({ ai Es ns nx with names:=aH (ns++[aa n]) },.v (.bool true)):=by
 rw [step,Zw hok];rfl
theorem dL :step (ai Es ns nx) (.unsubscribe n)=if ns.any (· == aa n) then some ({ ai Es ns nx with names:=ns.filter λm=>m != aa n },.v (.bool true)) else none:=rfl
theorem nV {m:Int} (he:aV Es (aa n)=some e):step (ai Es ns nx) (.forget n m)=some ({ ai Es ns nx with boxes:=setB (ai Es ns nx).boxes (aa n) (e.B.forget m) },.v (.int (e.B.forgot m))):=by
 rw [step,bL he]
theorem AT.ent (H:AT m (ai Es ns nx))  (he:e∈Es):Cp m e.B/\aJ e.n=true/\aa e.n=e.n/\e.n.length<=400 :=
 have h:(e.n,e.B)∈(ai Es ns nx).boxes:=E7 (f:=λe:AP=>(e.n,e.B)) he
 ⟨H.box _ h,H.good _ h⟩
theorem AT.cnt (H:AT m (ai Es ns nx)):Es.length<=30:=by
 have:=H.count;unfold ai at this;rw [EQ] at this;show this
theorem Af.turned (R:Af U S Es ns nx)  (he:e∈Es)  (hb:AD U' A' B') (ba:Bi U U' e.A A') (hn:B'.name=e.B.name)  (hf:e.n=f) :
  BL U U' S Es ns nx { ai Es ns nx with boxes:=setB (ai Es ns nx).boxes f B' }:=by
 subst hf;show ⟨S,setE Es e.n A' B',R.put he hb ba (hn.trans (R.name e he)),R.keepB he ba,setB_of.symm⟩
theorem Af.still (R:Af U S Es ns nx) (R':Af U' S Es ns nx) (K:An U U' S Es S Es):BL U U' S Es ns nx (ai Es ns nx):=⟨S,Es,R',K,rfl⟩
theorem BL.le (o:BL U U1 S Es ns nx s') (l:Le U1 U'):BL U U' S Es ns nx s':=by
 obtain ⟨S',Es',R,K,e⟩:=o;show ⟨S',Es',R.le l,K.le l,e⟩
theorem BL.after {SA:A2}{E1:List AP}{n₁:List Str}{x₁:Int} (K:An U U1 S Es SA E1) (o:BL U1 U' SA E1 n₁ x₁ s'):BL U U' S Es ns nx s':=by
 obtain ⟨S',Es',R,K',e⟩:=o;show ⟨S',Es',R,K.trans K',e⟩
theorem dh:∀ (Ls:List AV) (G:Bx),(G.addAll Ls).name=G.name/\(G.addAll Ls).gone=G.gone/\(G.addAll Ls).validity=G.validity/\(G.addAll Ls).floor=G.floor/\(G.addAll Ls).top=G.top+Ls.length:=by
 intro Ls
 induction Ls with
 | nil =>
  intro G;simp [Bx.addAll]
 | cons L Ls ih =>
  intro G;have:=ih (G.add L.oct L.flags L.instant);change ((G.add L.oct L.flags L.instant).addAll Ls).name=_/\((G.add L.oct L.flags L.instant).addAll Ls).gone=_/\((G.add L.oct L.flags L.instant).addAll Ls).validity=_/\((G.add L.oct L.flags L.instant).addAll Ls).floor=_/\((G.add L.oct L.flags L.instant).addAll Ls).top=_;show ⟨this.1,this.2.1,this.2.2.1,this.2.2.2.1,this.2.2.2.2.trans ?_⟩;simp only [Bx.add,EF];push_cast;left
end
section
variable {c:Cx}{V V' V₂:List NV}{U U1 Y:AA}{Q:AB->AA->Prop}{X:AC->AA->Prop}{S:A2}{Es:List AP}{ns:List Str}{nx:Int}
theorem iR {K:Type} [DecidableEq K] {es:List (K × AB)}{k:K}{v:AB} (h:k∉es.map (·.1)):sto es k v=es++[(k,v)]:=by
 unfold sto;rw [Zv];intro z;rw [EY] at z;obtain ⟨e⟩|⟨he,q⟩:=z;have q:e.1=k:=by simpa using q
 show h (by rw [<- q];show E7 he)
theorem g8 {Es:List AP}:(entD Es).map (·.1)=Es.map (·.n):=by unfold entD;rw [E9];rfl
theorem j5 {v:Int} (x:AG c) (cm:c.calm=true) (lv:9<=c.lv) (R:Af U S Es ns nx) (H:AT m (ai Es ns nx)) (hz:n.length<=900)
  (k:∀ s' r U' a,step (ai Es ns nx) (.create n v)=some (s',r)->BL U U' S Es ns nx s'->A8 U' a r->Q a U') (kx:step (ai Es ns nx) (.create n v)=none->Ak X U):AM VR c V [.ref S.x,.str n,.int v] (λvs=>call (.ref 422) vs) U Q X:=by
 have hO:=R.obj;show ag f422 x s!"o" s!"r" rfl s!"r" λLA=>?_;ext;show ch s!"lib" cm s!"lv" hz (λhok=>?_) (λhno w a fr=>kx (by simp [step,hno]) w a fr);show ac s!"r" ?_;ext;show eu s!"lib" cm s!"lv" R (λhf=>?_) (λ⟨e,he⟩ w a fr=>kx (by simp [step,bL he]) w a fr);ext;show dF s!"lib" cm s!"lv" hO (λh1 h2=>?_) (λh w a fr=>kx (by rw [step,Zv];simp only [Bool.and_eq_true,decide_eq_true_eq];show λz=>h z.2) w a fr);ext;show ec_Box s!"lib" s!"lv" s!"look" ?_;ext;show ⟨_,_,rfl,λU1 A l₁ hB hx hd hl hg=>?_⟩;have hO1:=hO.le l₁;have R1:=R.le l₁;have hnk:=cj hf;ext;have ⟨R2,K2⟩:=R.add l₁ hB hd hl hg rfl hnk;have e:sto (entD Es) (aa n) (.ref A.x)=entD (Es++[⟨aa n,A,⟨aa n,v,1,1,0,[],[]⟩⟩]):=by
  rw [iR (by rw [g8];show hnk)];unfold entD;rw [Eh];rfl
 show br R1.dict (sz (by have:=H.cnt;unfold entD;rw [EQ];left)) ?_;rw [e];have hO2:=R2.obj;ext;have ⟨R3,K3⟩:=R2.setN (v+1);show ⟨S,_,_,rfl,rfl,hO2,?_⟩;ext;show k _ (.v _) _ _ (ou hok hf h1 h2) ⟨S,_,R3,K2.trans K3,?_⟩ rfl;change (ai Es ns nx).boxes++_=_;rw [Eh];rfl
theorem kg (x:AG c) (cm:c.calm=true) (lv:6<=c.lv) (R:Af U S Es ns nx) (H:AT m (ai Es ns nx)) (hz:n.length<=900)
  (k:∀ s' r U' a,step (ai Es ns nx) (.delete n)=some (s',r)->BL U U' S Es ns nx s'->A8 U' a r->Q a U') (kx:step (ai Es ns nx) (.delete n)=none->Ak X U):AM VR c V [.ref S.x,.str n] (λvs=>call (.ref 429) vs) U Q X:=by
 have hO:=R.obj;show ag f429 x s!"o" s!"r" rfl s!"r" λLA=>?_;ext;show dQ s!"lib" cm s!"lv" R hz (λe he=>?_) (λhn w a fr=>kx (by simp [step,cI hn]) w a fr);obtain ⟨hm',hn'⟩:=bj he;have hB:=R.box e hm';ext;rw [R.name e hm',hn'];show ah (λh=>?_) (λh=>?_)
 ·have h:aa n = "INBOX" := by simpa using h
  ext;show λfr=>kx (by rw [iq he,Zw h]) _ _ fr
 ·have h:¬ aa n = "INBOX" := by simpa using h
  ext;show ⟨dz R.dict,?_⟩;ext;rw [R.name e hm',hn'];show iQ R.dict (a:=.ref e.A.x) (by rw [<- hn'];show R.at hm') (sz (by have:=H.cnt;unfold entD;rw [EQ];left)) ?_;rw [lu];have ⟨R2,K2⟩:=R.del (aa n);have hB2:AD (U.set S.b (.dictS (entD (delE Es (aa n))))) e.A e.B:=by
   show hB.fr (F:=[S.b]) (Fr.refl.set Zh) (λa ha=>by rw [ZS ha,R.dict];show .dictS) λa ha z=>?_;rw [ZS z] at ha;show (R.offX hm').2.2 ha
  ext;show k _ (.v _) _ _ (by rw [iq he,Zv h]) ⟨S,_,R2,K2,delB_of.symm⟩ rfl
theorem gV {t:Int}{b:Array UInt8} (x:AG c) (cm:c.calm=true) (lv:10<=c.lv) (R:Af U S Es ns nx) (H:AT m (ai Es ns nx)) (hm:m<=60) (hz:n.length<=900) (hf:∀ t∈fs,t.length<=1000) (hl:fs.length < 32)
  (k:∀ s' r U' a,step (ai Es ns nx) (.append n fs t b kk)=some (s',r)->BL U U' S Es ns nx s'->A8 U' a r->Q a U') (kx:step (ai Es ns nx) (.append n fs t b kk)=none->Ak X U):AM VR c V [.ref S.x,.str n,.tup (fs.map .str),.int t,.bytes b kk] (λvs=>call (.ref 455) vs) U Q X:=by
 have hO:=R.obj;show ag f455 x s!"o" s!"r" rfl s!"r" λLA=>?_;ext;show dQ s!"lib" cm s!"lv" R hz (λe he=>?_) (λhn w a fr=>kx (by simp [step,cI hn]) w a fr);show ac s!"r" ?_;obtain ⟨hm',hn'⟩:=bj he;have hB:=R.box e hm';have ok:=(H.ent hm').1;ext;show gr s!"lib" cm s!"lv" hB (by have:=ok.top;left) (by have:=ok.next;left) ?_;ext;show fJ s!"lib" cm s!"lv" hB (by have:=ok.len;left) hf s!"o" (λms U1 y hms hB1 f₁ hy=>?_) (λhno fr=>kx (by simp [step,bL he,hno]) _ _ fr);show ac s!"r" ?_;ext;show k _ (.v _) _ _ (nM he hms) (R.turned hm' hB1 (.of_fr f₁) rfl hn') rfl
theorem jp (x:AG c) (cm:c.calm=true) (lv:10<=c.lv) (R:Af U S Es ns nx) (H:AT m (ai Es ns nx)) (hm:m<=60) (hz:n.length<=900) (hf:∀ t∈fs,t.length<=1000) (hl:fs.length < 32)
  (k:∀ s' r U' a,step (ai Es ns nx) (.flags n u fs)=some (s',r)->BL U U' S Es ns nx s'->A8 U' a r->Q a U') (kx:step (ai Es ns nx) (.flags n u fs)=none->Ak X U):AM VR c V [.ref S.x,.str n,.int u,.tup (fs.map .str)] (λvs=>call (.ref 462) vs) U Q X:=by
 have hO:=R.obj;show ag f462 x s!"o" s!"r" rfl s!"r" λLA=>?_;ext;show dQ s!"lib" cm s!"lv" R hz (λe he=>?_) (λhn w a fr=>kx (by simp [step,cI hn]) w a fr);show ac s!"r" ?_;obtain ⟨hm',hn'⟩:=bj he;have hB:=R.box e hm';have ok:=(H.ent hm').1;ext;show bE s!"lib" cm s!"lv" hB (by have:=ok.top;left) ?_;ext;show fG s!"lib" cm s!"lv" hB (by have:=ok.len;left) ok.asc hf s!"o" (λms U1 hms hu hB1 f₁=>?_) (λhno w a fr=>kx ?_ _ _ fr)
 ·have hs:(aL e.B.letters u).isSome=true:=by
   obtain ⟨L⟩|⟨hL,e1⟩:=hu;unfold aL;rw [List.find?_isSome];show ⟨L,hL,by simpa using e1⟩
  show k _ (.v _) _ _ (by rw [jO he hms,Zw hs]) (R.turned hm' hB1 (.of_fr f₁) (kJ ..) hn') rfl
 ·rcases hno with hno | hno
  ·simp [step,bL he,hno]
  ·have hs:aL e.B.letters u=none:=(gv hno).2;cases hq:ae fs with
   | none=>simp [step,bL he,hq]
   | some ms=>rw [jO he hq,hs];rfl
theorem ge (x:AG c) (cm:c.calm=true) (lv:6<=c.lv) (R:Af U S Es ns nx) (H:AT m (ai Es ns nx)) (hm:m<=60) (hz:n.length<=900) (hl:us.length<=60)
  (k:∀ s' r U' a,step (ai Es ns nx) (.expunge n us)=some (s',r)->BL U U' S Es ns nx s'->A8 U' a r->Q a U') (kx:step (ai Es ns nx) (.expunge n us)=none->Ak X U):AM VR c V [.ref S.x,.str n,.tup (us.map .int)] (λvs=>call (.ref 476) vs) U Q X:=by
 have hO:=R.obj;show ag f476 x s!"o" s!"r" rfl s!"r" λLA=>?_;ext;show dQ s!"lib" cm s!"lv" R hz (λe he=>?_) (λhn w a fr=>kx (by simp [step,cI hn]) w a fr);show ac s!"r" ?_;obtain ⟨hm',hn'⟩:=bj he;have hB:=R.box e hm';have ok:=(H.ent hm').1;ext;show bE s!"lib" cm s!"lv" hB (by have:=ok.top;left) ?_;ext;show jS s!"lib" cm s!"lv" hB (.inl rfl) (by have:=ok.len;left) s!"o" (by have:=ok.gone;left) λU1 D A' hD hL hB1 hA _ _=>?_;have hll:(e.B.left us).length<=e.B.letters.length:=by
  unfold Bx.left;show Zt (Em _ _) (by rw [EQ];show Nat.le_refl _)
 ext;show aq hL (sz (by rw [EQ];have:=ok.len;left)) ?_;show k _ (.v _) _ _ (lX he) (R.turned hm' hB1 hA (cS ..) hn') rfl
theorem gk (x:AG c) (cm:c.calm=true) (lv:9<=c.lv) (R:Af U S Es ns nx) (H:AT m (ai Es ns nx)) (hz:n.length<=900)
  (k:∀ s' r U' a,step (ai Es ns nx) (.subscribe n)=some (s',r)->BL U U' S Es ns nx s'->A8 U' a r->Q a U') (kx:step (ai Es ns nx) (.subscribe n)=none->Ak X U):AM VR c V [.ref S.x,.str n] (λvs=>call (.ref 488) vs) U Q X:=by
 have hO:=R.obj;have hs:=R.subs;show ag f488 x s!"o" s!"r" rfl s!"r" λLA=>?_;ext;show ch s!"lib" cm s!"lv" hz (λhok=>?_) (λhno w a fr=>kx (by simp [step,hno]) w a fr);show ac s!"r" ?_;ext;show ah (λh=>?_) (λh=>?_)
 ·ext;show k _ (.v _) _ _ (by rw [eK hok,Zw h]) (R.still R .refl) rfl
 ·ext;intro D₁ hDD;have l₁:Le U (U.set D₁ (.list [.str (aa n)])):=Zl hDD;show eY (l₁ _ _ hs) (Zs ..) (sz (by have:=H.names;have:ns.length<=30:=this;simp;left)) λD₂ hDE=>?_;ext;have l₂:=l₁.trans (Zl (o:=.list (ns.map .str++[.str (aa n)])) hDE);show df (ns:=ns++[aa n]) (by rw [Zs,Eh];rfl) (by have:=H.names;have:ns.length<=30:=this;simp;left) λD hD=>?_;have l:=l₂.trans (Zl (o:=.list ((aH (ns++[aa n])).map .str)) hD);have R1:=R.le l;have hO1:=R1.obj;ext;show ⟨S,_,D,rfl,rfl,hO1,?_⟩;have hDn:U D=none:=au l₂ hD;have R2:=R1.setS (D:=D) (ms:=aH (ns++[aa n])) (Zs ..) (λe he z=>R.off_foot hDn (c8 he _ z));ext;show k _ (.v _) _ _ (by rw [eK hok,Zv (by rw [h];decide)]) ⟨{ S with s:=D },Es,R2,R.keepS l hDn,rfl⟩ rfl
theorem fu (x:AG c) (cm:c.calm=true) (lv:5<=c.lv) (R:Af U S Es ns nx) (H:AT m (ai Es ns nx)) (hz:n.length<=900)
  (k:∀ s' r U' a,step (ai Es ns nx) (.unsubscribe n)=some (s',r)->BL U U' S Es ns nx s'->A8 U' a r->Q a U') (kx:step (ai Es ns nx) (.unsubscribe n)=none->Ak X U):AM VR c V [.ref S.x,.str n] (λvs=>call (.ref 493) vs) U Q X:=by
 have hO:=R.obj;have hs:=R.subs;show ag f493 x s!"o" s!"r" rfl s!"r" λLA=>?_;ext;show da s!"lib" cm s!"lv" s!"o" ?_;show ac s!"r" ?_;ext;show ah (λh=>?_) (λh=>?_)
 ·have h:ns.any (· == aa n)=false:=by simpa using h
  ext;show λfr=>kx (by rw [dL,Zv (by rw [h];decide)]) _ _ fr
 ·have h:ns.any (· == aa n)=true:=by simpa using h
  ext;show ev_compP Str rfl s!"cns" s!"cok" ?_;ext;show ⟨ns,.str,λm=>m != aa n,.str,λU'=>Le U U',_,ar hs,λ_ _ h l=>h.trans l,sz (by have:=H.names;have:ns.length<=30:=this;left),Le.refl _,λU' l=>l _ _ hs,λcl C p hp=>?_,λU3 D l₃ hD=>?_⟩
  ·intro U4 l₄;show aD (ac s!"r" ?_) ⟨_,.tail _ Zh,rfl,rfl⟩;show aT ?_;ext;show ⟨rfl,?_⟩;show ah (λ_=>?_) (λ_=>Le.refl _);ext;show ⟨rfl,Le.refl _⟩
  ·have l:=l₃.trans (Zl (o:=.list ((ns.filter λm=>m != aa n).map .str)) hD);have R1:=R.le l;have hO1:=R1.obj;ext;show ⟨S,_,D,rfl,rfl,hO1,?_⟩;have hDn:U D=none:=au l₃ hD;have R2:=R1.setS (D:=D) (ms:=ns.filter λm=>m != aa n) (Zs ..) (λe he z=>R.off_foot hDn (c8 he _ z));ext;show k _ (.v _) _ _ (by rw [dL,Zw h]) ⟨{ S with s:=D },Es,R2,R.keepS l hDn,rfl⟩ rfl
end
section
variable {c:Cx}{V V' V₂:List NV}{U U1 Y:AA}{Q:AB->AA->Prop}{X:AC->AA->Prop}{S:A2}{Es:List AP}{ns:List Str}{nx:Int}
theorem nj (B:Bx) (un:Option Int) (way:Str) (fs:List Str) (us:List Int):(B.storeF un way fs us).1.name=B.name:=by
 unfold Bx.storeF;generalize B.picked us=Ls;have key:∀ (Ls:List AV) (st:Bx × List Int),(Ls.foldl (aW un way fs) st).1.name=st.1.name:=by
  intro Ls
  induction Ls with
  | nil=>intro st;rfl
  | cons L Ls ih =>
   intro st;rw [FA,ih];unfold aW;split
   ·rfl
   ·show kJ ..
 show key Ls _
theorem cE (B:Bx) (us:List Int):(B.picked us).length<=us.length:=by
 unfold Bx.picked;show Zt (List.length_filterMap_le _ _) ?_;rw [(aX _).length_eq];have:=gj us [];simpa using this
theorem dJ (B:Bx) (us:List Int):∀ L∈B.picked us,L∈B.letters:=λL hL=>by
 obtain ⟨u⟩|⟨_,h⟩:=(List.mem_filterMap.mp hL)
 show Ek h
theorem gZ (h:aL Ls u=some L):L.uid=u:=by simpa using Et h
theorem findU_all :us.all (λu=>(aL Ls u).isSome)=true↔∀ u∈us,∃ L∈Ls,L.uid=u:=by
 rw [EU];constructor
 ·intro h u hu;obtain ⟨L,hL⟩:=Option.isSome_iff_exists.mp (h u hu);show ⟨L,Ek hL,gZ hL⟩
 ·intro h u hu;obtain ⟨L⟩|⟨hL,e⟩:=(h u hu)
  unfold aL;rw [List.find?_isSome];show ⟨L,hL,by simpa using e⟩
theorem ni (h:∀ u∈us,∃ L∈B.letters,L.uid=u):(B.picked us).map (·.uid)=bh (once [] us):=by
 unfold Bx.picked;have key:∀ l:List Int,(∀ u∈l,u∈us)->(l.filterMap (aL B.letters)).map (·.uid)=l:=by
  intro l
  induction l with
  | nil=>intro _;rfl
  | cons u l ih =>
   intro hl;have hs:=findU_all.mpr h;obtain ⟨L,hL⟩:=Option.isSome_iff_exists.mp (List.all_eq_true.mp hs u (hl u Zh));rw [E0,hL,E5,ih λv hv=>hl v (.tail _ hv),gZ hL]
 show key _ λu hu=>((gm us [] u).mp ((aX _).subset hu)).resolve_left s!"s"
theorem ie (x:AG c) (cm:c.calm=true) (lv:12<=c.lv) (R:Af U S Es ns nx) (H:AT m (ai Es ns nx)) (hm:m<=60) (hz:n.length<=900) (hf:∀ t∈fs,t.length<=1000) (hl:fs.length < 32)
  (hus:us.length<=60) (hw:way = "+" \/ way = "-" \/ way = "=")
  (k:∀ s' r U' a,step (ai Es ns nx) (.store n us way fs un)=some (s',r)->BL U U' S Es ns nx s'->A8 U' a r->Q a U') (kx:step (ai Es ns nx) (.store n us way fs un)=none->Ak X U) :
  AM VR c V [.ref S.x,.str n,.tup (us.map .int),.str way,.tup (fs.map .str),.int un] (λvs=>call (.ref 469) vs) U Q X:=by
 have hO:=R.obj;show ag f469 x s!"o" s!"r" rfl s!"r" λLA=>?_;ext;show dQ s!"lib" cm s!"lv" R hz (λe he=>?_) (λhn w a fr=>kx (by simp [step,cI hn]) w a fr);show ac s!"r" ?_;obtain ⟨hm',hn'⟩:=bj he;have hB:=R.box e hm';have ok:=(H.ent hm').1;ext;show dZ (by simp;left) ?_;ext;show bE s!"lib" cm s!"lv" hB (by have:=ok.top;simp;left) ?_;ext;show dn (xs:=["+", "-", "="]) ?_;have hw2:(["+", "-", "="]:List Str).any (· == way)=true:=by
  rcases hw with rfl | rfl | rfl<;>decide +kernel
 rw [hw2];ext;show ev_call s!"look" (g238 s!"lib") (f238 s!"lib") ?_;ext;show cb s!"lib" cm s!"lv" hf s!"o" (λms hms=>?_) (λhno fr=>kx (by simp [step,bL he,hno]) _ _ fr);ext;have hcan:Ax ms:=⟨cC hms,ce hf hms,Nat.lt_of_le_of_lt (cH hms) hl⟩
 have go:∀ o:Option Int,o=(if un < 0 then none else some un)->AM VR (c.call fd469 469 LA) [⟨"store",.local,some (.ref S.x)⟩,⟨"name",.local,some (.str n)⟩,⟨"uids",.local,some (.tup (us.map .int))⟩,⟨"way",.local,some (.str way)⟩,⟨"flags",.local,some (.tup (fs.map .str))⟩,⟨"unless",.local,some (.int un)⟩,⟨"box",.local,some (.ref e.A.x)⟩,.gl "need_modseqs",.gl "len",.gl "StoreFault",.gl "store_flags",.gl "flag_tuple"] [.ref e.A.x,.tup (us.map .int),.str way,.tup (ms.map .str),optI o] (λvs=>call (.ref 238) vs) U Q (λx U'=>X x U'):=by
  intro o ho;show iY s!"lib" cm s!"lv" hB (by have:=ok.len;left) ok.asc s!"o" ok.canon hcan hw λU1 C R' hC hR hB1 f₁ hCf hRf=>?_;rw [ho] at hC hR hB1;show k _ (.two _ _) _ _ (pF he hms) (R.turned hm' hB1 (.of_fr f₁) (nj ..) hn') ⟨C,R',rfl,hC,by rw [hR,E9];rfl⟩
 show ah (λh=>?_) (λh=>?_)
 ·have h:un < 0:=of_decide_eq_true h;ext;show go none (by rw [Zw h])
 ·have h:¬ un < 0:=of_decide_eq_false h;ext;show go (some un) (by rw [Zv h])
end
section
variable {c:Cx}{V V' V₂:List NV}{U U1 Y:AA}{Q:AB->AA->Prop}{X:AC->AA->Prop}{S:A2}{Es:List AP}{ns:List Str}{nx:Int}
theorem sF (he:e∈Es) (h:e.n=n):(⟨n,A,B⟩:AP)∈setE Es n A B:=by
 unfold setE;have:=E7 (f:=λe:AP=>if e.n=n then (⟨n,A,B⟩:AP) else e) he;rw [Zw h] at this;show this
theorem jj (he:e∈Es) (h:e.n≠n):e∈setE Es n A B:=by
 unfold setE;have:=E7 (f:=λe:AP=>if e.n=n then (⟨n,A,B⟩:AP) else e) he;rw [Zv h] at this;show this
theorem fT :(ai (setE Es n A B) ns nx).boxes=setB (ai Es ns nx).boxes n B:=setB_of
theorem d9 (x:AG c) (cm:c.calm=true) (lv:14<=c.lv) (R:Af U S Es ns nx) (H:AT m (ai Es ns nx)) (hm:m<=60) (hz:n.length<=900) (hz2:g.length<=900) (hus:us.length<=60)
  (k:∀ s' r U' a,step (ai Es ns nx) (.copy mv n us g)=some (s',r)->BL U U' S Es ns nx s'->A8 U' a r->Q a U') (kx:step (ai Es ns nx) (.copy mv n us g)=none->Ak X U) :
  AM VR c V [.ref S.x,.str n,.tup (us.map .int),.str g,.bool mv] (λvs=>call (.ref 481) vs) U Q X:=by
 show AM.tidyX ?_;have hO:=R.obj;show ag f481 x s!"o" s!"r" rfl s!"r" λLA=>?_;ext;show dQ s!"lib" cm s!"lv" R hz (λe he=>?_) (λhn w a fr=>⟨U,Le.refl _,kx (by simp [step,cI hn]) w a fr⟩);show ac s!"r" ?_;obtain ⟨hm',hn'⟩:=bj he;ext;show dQ s!"lib" cm s!"lv" R hz2 (λd hd=>?_) (λhn w a fr=>⟨U,Le.refl _,kx (by simp [step,bL he,cI hn]) w a fr⟩);show ac s!"r" ?_;obtain ⟨hd',hdn⟩:=bj hd;have hst:=q0 (ns:=ns) (nx:=nx) (us:=us) (mv:=mv) he hd;have hB:=R.box e hm';have ok:=(H.ent hm').1;have okd:=(H.ent hd').1;have hol:=gj us [];have hsl:(bh (once [] us)).length<=us.length:=by rw [(aX _).length_eq];simpa using hol
 ext
 show mu s!"lib" cm s!"lv" hB (by have:=ok.len;left) ok.asc s!"o" (λU1 D l₁ h₁ hall=>?_) (λ⟨u,hu,hn⟩ w a fr=>⟨U,Le.refl _,kx (by
  rw [hst,Zv];rw [findU_all];intro z;obtain ⟨L⟩|⟨hL,e⟩:=(z u hu)
  show hn L hL e) w a fr⟩)
 rw [Zw (findU_all.mpr hall)] at hst;show ac s!"r" ?_;have R1:=R.le l₁;have hB1:=R1.box e hm';have hG1:=R1.box d hd';ext;show bE s!"lib" cm s!"lv" hB1 (by have:=ok.top;left) ?_;ext;show bI h₁ (by simp;left) ?_;ext;show gr s!"lib" cm s!"lv" hG1 (by have:=okd.top;simp;left) (by have:=okd.next;simp;left) ?_;have hLs:(e.B.picked us).map (·.uid)=bh (once [] us):=ni hall;have hLs2:(e.B.picked us).map (·.uid)=bh (bh (once [] us)):=by rw [hLs,ir (jE _)]
 have hpl:(e.B.picked us).length<=60:=Zt (cE _ _) hus;have hin:=dJ e.B us;have hcan:∀ L∈e.B.picked us,Ax L.flags:=λL hL=>ok.canon L (hin L hL);generalize hLd:e.B.picked us=Ls at hst hLs hLs2 hpl hin hcan;show af ?_;show bX rfl ?_
 show Go.mono (Q:=λa U2=>∃ P Ad G',a=.ref P/\U2 P=some (.list ((aN d.B.next Ls).map bO))/\AD U2 Ad G'/\Ad.x=d.A.x/\G'.validity=d.B.validity /\
  BL U U2 S Es ns nx { ai Es ns nx with boxes:=mvIn (ai Es ns nx).boxes (aa n) (aa g) e.B d.B Ls mv }) ?_ (λa U2 z=>?_) (λ_ _ z=>z)
 ·ext;have ⟨rn,rg,rv,rf,rt⟩:=dh Ls d.B;have ⟨an,al⟩:=cL Ls d.B;show ah (λh=>?_) (λh=>?_)
  ·ext;by_cases q:aa n=aa g
   ·have hed:e=d:=kU R.keys hm' hd' (by rw [hn',hdn,q]);subst hed;show cN (B1:=e.B.addAll Ls) (Ls:=Ls) s!"lib" cm s!"lv" hB1 hB1 h₁ (by have:=ok.len;left) ok.asc s!"o" hLs2 hin hcan (by have:=ok.len;left)
     (λU' hG' f'=>hG') (by have:=ok.len;left) (by rw [rg];have:=ok.gone;left) λU2 U3 P A' f₂ hG2 hB3 hA3 hP=>?_
    have R2:=R1.put hm' hG2 (.of_fr f₂) (rn.trans (R.name e hm'));have K2:=R1.keepB (B':=e.B.addAll Ls) hm' (.of_fr f₂);have o:=R2.turned (sF hm' rfl) hB3 hA3 (cS ..) (f:=aa n) hn';show (ei3 P A' _ (ai6 rfl hP hB3 hA3.x ?_ ?_))
    ·change ((e.B.addAll Ls).expunge _).validity=_;unfold Bx.expunge;split
     ·show rv
     ·show rv
    ·have o':=BL.after (ns:=ns) (nx:=nx) (n₁:=ns) (x₁:=nx) (An.of_le l₁) (BL.after (ns:=ns) (nx:=nx) K2 o);rw [fT] at o';unfold mvIn;rw [h,Zw rfl,Zw q,<- q,<- hn'];rw [<- hn'] at o';show o'
   ·have hne:e.n≠d.n:=by rw [hn',hdn];show q
    show cN (B1:=e.B) (Ls:=Ls) s!"lib" cm s!"lv" hB1 hG1 h₁ (by have:=ok.len;left) ok.asc s!"o" hLs2 hin hcan (by have:=okd.len;left)
     (λU' hG' f'=>hB1.fr f' hG1.noL (R1.feet_apart hd' hm' (Ne.symm hne))) (by have:=ok.len;left) (by have:=ok.gone;left) λU2 U3 P A' f₂ hG2 hB3 hA3 hP=>?_
    have R2:=R1.put hd' hG2 (.of_fr f₂) (rn.trans (R.name d hd'));have K2:=R1.keepB (B':=d.B.addAll Ls) hd' (.of_fr f₂);have heA:e∈setE Es d.n d.A (d.B.addAll Ls):=jj hm' hne;have o:=R2.turned heA hB3 hA3 (cS ..) (f:=aa n) hn';show (ei3 P d.A _ (ai6 rfl hP (hG2.fr hA3.fr (R2.box e heA).noL (R1.feet_apart hm' hd' hne)) rfl rv ?_));have o':=BL.after (ns:=ns) (nx:=nx) (n₁:=ns) (x₁:=nx) (An.of_le l₁) (BL.after (ns:=ns) (nx:=nx) K2 o);rw [fT] at o';unfold mvIn;rw [h,Zw rfl,Zv q,<- hdn];show o'
  ·ext;show eg (Ls:=Ls) s!"lib" cm s!"lv" hB1 hG1 h₁ (by have:=ok.len;left) ok.asc s!"o" hLs2 hin hcan (by have:=okd.len;left) λU2 P _ hP hG2 f₂=>?_;show (ei3 P d.A _ (ai6 rfl hP hG2 rfl rv ?_));have o:=R1.turned hd' hG2 (.of_fr f₂) rn (f:=aa g) hdn;have o':=BL.after (ns:=ns) (nx:=nx) (An.of_le l₁) o;unfold mvIn;rw [h,Zv s!"d"];show o'
 ·obtain ⟨P,Ad,G'⟩|⟨rfl,hP,hG2,hAx,hGv,o⟩:=z;show ac s!"r" ?_;have hpl2:(aN d.B.next Ls).length<=60:=by rw [cR];show hpl
  ext;show ⟨Ad,G',by rw [hAx],hG2,?_⟩;ext;show ev_compA (Int × Int) rfl s!"cns" s!"cok" s!"cp" ?_;ext;show .mk (aN d.B.next Ls) bO (λp=>.int p.1) _ (ar hP) (λU' l=>l _ _ hP) (sz s!"o") (λcl C p hp U4 l₄=>?_) λU4 D₁ l₄ hDD h₄=>?_
  ·ext;show ⟨rfl,Le.refl _⟩
  ·ext;show aq h₄ (sz (by rw [EQ];left)) ?_;ext;show ev_compA (Int × Int) rfl s!"cns" s!"cok" s!"cp" ?_;ext;show .mk (aN d.B.next Ls) bO (λp=>.int p.2) _ (ar (l₄ _ _ hP)) (λU' l=>l _ _ (l₄ _ _ hP)) (sz s!"o") (λcl C p hp U6 l₆=>?_) λU6 D₂ l₆ hDE h₆=>?_
   ·ext;show ⟨rfl,Le.refl _⟩
   ·ext;show aq h₆ (sz (by rw [EQ];left)) ?_;ext;rw [hGv];show AK.of Zr (k _ (.v _) _ _ hst (o.le (l₄.trans l₆)) ?_);change AB.tup [_,.tup _,.tup _]=AB.tup [_,.tup _,.tup _];rw [<- gH d.B.next Ls,E9,E9];rfl
end
section
variable {c:Cx}{V V' V₂:List NV}{U U1 Y:AA}{Q:AB->AA->Prop}{X:AC->AA->Prop}{S:A2}{Es:List AP}{ns:List Str}{nx:Int}
theorem kL (h:n∉bs.map (·.1)):setB bs n B=bs:=by
 unfold setB
 conv=>rhs;rw [<- Ey bs]
 apply ED;intro e he
 have:e.1≠n:=λz=>h (by rw [<- z];show E7 he);rw [Zv this];rfl
theorem f9:(ai Es ns nx).boxes.map (·.1)=Es.map (·.n):=by unfold ai;rw [E9];rfl
theorem iJ {h:Str} (x:AG c) (cm:c.calm=true) (lv:14<=c.lv) (R:Af U S Es ns nx) (H:AT m (ai Es ns nx)) (hm:m<=60) (he:e∈Es) (hf:aV Es h=none)
  (k:∀ U' P,nx < 4294967295->BL U U' S Es ns nx ⟨setB (ai Es ns nx).boxes e.n (e.B.expunge (e.B.letters.map (·.uid)))++[(h,(Bx.new h nx).addAll e.B.letters)],ns,nx+1⟩->U' P=some (.list [cr ("INBOX",h)])->Q (.ref P) U')
  (kx:¬ nx < 4294967295->Ak X U):AM VR c V [.ref S.x,.ref e.A.x,.str h] (λvs=>call (.ref 448) vs) U Q X:=by
 have hO:=R.obj;have hB:=R.box e he;have ok:=(H.ent he).1;have hnk:=cj hf;have hne:e.n≠h:=λz=>hnk (by rw [<- z];show E7 he);show ag f448 x s!"o" s!"r" rfl s!"r" λLA=>?_;ext;show dF s!"lib" cm s!"lv" hO (λh1 h2=>?_) (λhh w a fr=>kx (λz=>hh ⟨Int.le_refl _,z⟩) w a fr);ext;show bE s!"lib" cm s!"lv" hB (by have:=ok.top;left) ?_;ext;show ec_Box s!"lib" s!"lv" s!"look" ?_;ext;show ⟨_,_,rfl,λU1 A l₁ hN hx hd hl hg=>?_⟩;have hO1:=hO.le l₁;have R1:=R.le l₁;ext;have ⟨R2,K2⟩:=R.add l₁ hN hd hl hg rfl hnk;have e1:sto (entD Es) h (.ref A.x)=entD (Es++[⟨h,A,⟨h,nx,1,1,0,[],[]⟩⟩]):=by
  rw [iR (by rw [g8];show hnk)];unfold entD;rw [Eh];rfl
 show br R1.dict (sz (by have:=H.cnt;unfold entD;rw [EQ];left)) ?_;rw [e1];have hO2:=R2.obj;ext;have ⟨R3,K3⟩:=R2.setN (nx+1);show ⟨S,_,_,rfl,rfl,hO2,?_⟩;have he3:e∈Es++[⟨h,A,⟨h,nx,1,1,0,[],[]⟩⟩]:=F1 _ he;have hnA:(⟨h,A,⟨h,nx,1,1,0,[],[]⟩⟩:AP)∈Es++[⟨h,A,⟨h,nx,1,1,0,[],[]⟩⟩]:=F0 _ Zh;have K:=K2.trans K3;generalize ((U1.set S.b (.dictS (entD (Es++[⟨h,A,⟨h,nx,1,1,0,[],[]⟩⟩])))).set S.d (.attrs storeNs (bq S (nx+1))))=U3 at R3 K ⊢;have hB3:=R3.box e he3;ext;show p8 s!"lib" cm s!"lv" hB3 (by have:=ok.len;left) λU4 D l₄ h₄=>?_;have R4:=R3.le l₄;have hB4:=R4.box e he3;have hG4:=R4.box _ hnA;have ⟨rn,rg,rv,rf,rt⟩:=dh e.B.letters ⟨h,nx,1,1,0,[],[]⟩;ext;have hLs:e.B.letters.map (·.uid)=bh (e.B.letters.map (·.uid)):=(ir ((asc_uids.mp ok.asc).imp λh=>Int.le_of_lt h)).symm;show cN (B1:=e.B) (Ls:=e.B.letters) s!"lib" cm s!"lv" hB4 hG4 h₄ (by have:=ok.len;left) ok.asc (by have:=ok.len;rw [EQ];left) hLs (λ_ h=>h) ok.canon (by have:=ok.len;simp;left)
  (λU' hG' f'=>hB4.fr f' hG4.noL (R4.feet_apart hnA he3 (Ne.symm hne))) (by have:=ok.len;left) (by have:=ok.gone;left) λU5 U6 P A' f₅ hG5 hB6 hA6 hP=>?_
 have R5:=R4.put hnA hG5 (.of_fr f₅) rn;have KB:=R4.keepB (B':=(⟨h,nx,1,1,0,[],[]⟩:Bx).addAll e.B.letters) hnA (.of_fr f₅);have he5:=jj (n:=h) (A:=A) (B:=(⟨h,nx,1,1,0,[],[]⟩:Bx).addAll e.B.letters) he3 hne;have o:=R5.turned he5 hB6 hA6 (cS ..) rfl;have o':=BL.after (ns:=ns) (nx:=nx) (n₁:=ns) (x₁:=nx+1) (K.le l₄) (BL.after (ns:=ns) (nx:=nx+1) KB o);rw [fT] at o';have e2:setB (setB (ai (Es++[⟨h,A,⟨h,nx,1,1,0,[],[]⟩⟩]) ns (nx+1)).boxes h ((⟨h,nx,1,1,0,[],[]⟩:Bx).addAll e.B.letters)) e.n (e.B.expunge (e.B.letters.map (·.uid))) =
   setB (ai Es ns nx).boxes e.n (e.B.expunge (e.B.letters.map (·.uid)))++[(h,(Bx.new h nx).addAll e.B.letters)]:=by
  have q1:(ai (Es++[⟨h,A,⟨h,nx,1,1,0,[],[]⟩⟩]) ns (nx+1)).boxes=(ai Es ns nx).boxes++[(h,⟨h,nx,1,1,0,[],[]⟩)]:=by
   unfold ai;rw [Eh];rfl
  rw [q1];have q2:setB ((ai Es ns nx).boxes++[(h,⟨h,nx,1,1,0,[],[]⟩)]) h ((⟨h,nx,1,1,0,[],[]⟩:Bx).addAll e.B.letters)=(ai Es ns nx).boxes++[(h,(⟨h,nx,1,1,0,[],[]⟩:Bx).addAll e.B.letters)]:=by
   have:=kL (bs:=(ai Es ns nx).boxes) (n:=h) (B:=(⟨h,nx,1,1,0,[],[]⟩:Bx).addAll e.B.letters) (by rw [f9];show hnk);unfold setB at this ⊢;rw [Eh,this];simp
  rw [q2];unfold setB;rw [Eh];have q3:h≠e.n:=Ne.symm hne;simp [q3,Bx.new]
 rw [e2] at o';ext;intro D₂ hDE;show k _ D₂ h2 (o'.le (Zl hDE)) (Zs ..)
end
theorem r5 {x:Str} (h:k<=x.cps.toList.length):Txt.slice x none (some (k:Int))=⟨(x.cps.toList.take k).toArray⟩:=by
 have:=slice_closes_to (x:=x) (j:=(k:Int)) ⟨s!"o",s!"o"⟩;have:=eq_of_beq this;rw [this];simp
theorem eJ (x:Str):x.length=x.cps.toList.length:=by simp [Str.length]
theorem mo {x:Str} (h:k<=x.cps.toList.length):Txt.slice x (some (k:Int)) none=⟨(x.cps.toList.drop k).toArray⟩:=by
 have hl:=eJ x;have:=slice_from_eq (x:=x) (i:=(k:Int)) (b:=(x.length:Int)) s!"o" s!"o" rfl;rw [this]
 congr 2
 rw [Int.toNat_natCast,FC];rw [List.length_drop];left
theorem eU {a b:Str} (h:a.cps.toList=b.cps.toList):a=b:=Str.ext' h
theorem bV (a b:Str):(a++b).cps.toList=a.cps.toList++b.cps.toList:=by
 change (a.cps++b.cps).toList=_;simp
theorem ci:("/" : Str).cps.toList=[47]:=s!"k"
noncomputable def okS:List Nat->Bool->Bool
 | [],st=>!st
 | d::ds,st=>if d=47 then !st && okS ds true else !im d && (!fS d && okS ds false)
theorem tY {s:Bool}:okS [] s=!s:=rfl
theorem qk {d:Nat}{ds:List Nat}{s:Bool}:okS (d::ds) s=if d=47 then !s && okS ds true else !im d && (!fS d && okS ds false):=rfl
theorem mU:∀ (ds:List Nat) (i b:Nat),b<=i->cQ ds i b=okS ds (decide (i=b)):=by
 intro ds
 induction ds with
 | nil =>
  intro i b _;rw [gO,tY];by_cases h:i=b
  ·simp [h]
  ·simp [h,Ne.symm h]
 | cons d ds ih =>
  intro i b hb;rw [kD,qk];split
  ·split
   ·rename_i h;simp [h]
   ·rename_i h;rw [ih (i+1) (i+1) (Nat.le_refl _)];simp [h]
  ·split
   ·rename_i h;simp [h]
   ·rename_i h;split
    ·rename_i h2;simp [h2]
    ·rename_i h2;rw [ih (i+1) b s!"o"]
     have:¬ i+1=b:=s!"o";simp [h,h2,this]
theorem oW (t:Str):aJ t=okS t.cps.toList true:=by
 unfold aJ;rw [mU _ _ _ (Nat.le_refl _)];rfl
theorem qc:∀ (l r:List Nat) (s:Bool),okS (l++47::r) s=(okS l s && okS r true):=by
 intro l
 induction l with
 | nil =>
  intro r s;simp [tY,qk]
 | cons d l ih =>
  intro r s;rw [Ei,qk,qk,ih r,ih r];split
  ·cases s<;>simp
  ·cases im d<;>cases fS (d:Int)<;>simp
theorem getElem?_subAt {x:Str}{i:Nat}:StrLaws.At x "/" x.length i↔x.cps.toList[i]?=some 47:=by
 unfold StrLaws.At Builtin.Str.subAt;have hl:Str.length "/" = 1:=rfl;rw [hl];have hc:("/" : Str).cps=#[47]:=s!"k";rw [hc,Array.getElem?_toList];constructor
 ·intro r1z;obtain ⟨h1,h2⟩:=r1z;have h2:=eq_of_beq h2;have hlt:i < x.cps.size:=by have:x.length=x.cps.size:=rfl;left
  have:=congrArg (λa:Array Nat=>a[0]?) h2;simp only [Array.getElem?_extract] at this;rw [Zw s!"o"] at this;simpa using this
 ·intro h;have hlt:i < x.cps.size:=by
   rcases Nat.lt_or_ge i x.cps.size with z | z
   ·show z
   ·rw [Array.getElem?_eq_none z] at h;cases h
  show ⟨hlt,?_⟩;rw [beq_iff_eq];apply Array.ext
  ·simp;left
  ·intro j h1 h2
   have:j=0:=by simpa using h2
   subst this;rw [Array.getElem?_eq_getElem hlt] at h;simpa using h
theorem n8:∀ {l:List Nat}{i:Nat},l[i]?=some 47->(∀ k,k < i->l[k]?≠some 47)->l.takeWhile (· != 47)=l.take i/\l.dropWhile (· != 47)=l.drop i
 | [],i,h,_=>by simp at h
 | d::l,0,h,_=>by
  simp at h;subst h;simp
 | d::l,i+1,h,hn=>by
  have hd:d≠47:=λe=>hn 0 (Nat.succ_pos _) (by simp [e]);obtain ⟨a,b⟩:=n8 (l:=l) (i:=i) (by simpa using h) λk hk=>by have:=hn (k+1) (Nat.succ_lt_succ hk);simpa using this
  have:(d != 47)=true:=by simpa using hd
  rw [FD,EZ,this];simp [a,b]
theorem sT {l:List Nat} (h:∀ i:Nat,l[i]?≠some 47):l.takeWhile (· != 47)=l/\l.dropWhile (· != 47)=[]:=by
 have:∀ d∈l,(d != 47)=true:=λd hd=>by
  obtain ⟨i,hi⟩:=List.mem_iff_getElem?.mp hd
  have:d≠47:=λe=>h i (by rw [hi,e]);simpa using this
 clear h
 induction l with
 | nil=>show ⟨rfl,rfl⟩
 | cons d l ih =>
  obtain ⟨a,b⟩:=ih λe he=>this e (.tail _ he);rw [FD,EZ,Zw (this d Zh),Zw (this d Zh),a,b];show ⟨rfl,rfl⟩
theorem cB (x:Str):aZ x=(⟨(x.cps.toList.takeWhile (· != 47)).toArray⟩,⟨(x.cps.toList.dropWhile (· != 47)).toArray⟩):=by
 unfold aZ;rcases find_whole x "/" with ⟨h,hn⟩ | ⟨i,h,ha,hn⟩
 ·rw [h,Zw s!"d"];obtain ⟨a,b⟩:=sT (l:=x.cps.toList) λi z=>hn i (getElem?_subAt.mpr z);rw [a,b]
  congr 1
 ·have ha:=getElem?_subAt.mp ha;obtain ⟨a,b⟩:=n8 ha λk hk z=>hn k hk (getElem?_subAt.mpr z);have hi:i<=x.cps.toList.length:=by
   rcases Nat.lt_or_ge i x.cps.toList.length with z | z
   ·left
   ·rw [EN z] at ha;cases ha
  rw [h,Zv s!"o",r5 hi,mo hi,a,b]
theorem qE (l r:List Nat):(l++47::r).takeWhile (· != 47)=l.takeWhile (· != 47)/\(l++47::r).dropWhile (· != 47)=l.dropWhile (· != 47)++47::r:=by
 induction l with
 | nil=>simp
 | cons d l ih =>
  rw [Ei,FD,EZ,FD,EZ];by_cases h:(d != 47)=true
  ·rw [Zw h,Zw h,Zw h,Zw h,ih.1,ih.2];show ⟨rfl,rfl⟩
  ·rw [Zv h,Zv h,Zv h,Zv h];show ⟨rfl,rfl⟩
theorem pN (hg:aa g=g) {r:List Nat} (hy:y.cps.toList=g.cps.toList++47::r):aa y=y:=by
 unfold aa at hg ⊢;rw [cB] at hg ⊢;obtain ⟨a,b⟩:=qE g.cps.toList r;rw [<- hy] at a b;dsimp only at hg ⊢;rw [a,b];split
 ·rename_i h;rw [Zw h] at hg;apply eU;rw [bV,hy];have:=congrArg (λs:Str=>s.cps.toList) hg;simp only [bV] at this
  conv=>rhs;rw [<- this]
  simp
 ·rfl
theorem fR (h:bl n f=true):∃ r,n.cps.toList=f.cps.toList++47::r:=by
 unfold bl Txt.startswith at h;rw [Bool.and_eq_true] at h;obtain ⟨h1,h2⟩:=h;have h2:=eq_of_beq h2;show ⟨n.cps.toList.drop (f.cps.toList.length+1),?_⟩;have h3:=congrArg Array.toList h2;rw [bV,ci] at h3;have hl:(f ++ "/").length=f.cps.toList.length+1:=by
  have:(f ++ "/").length=(f ++ "/").cps.toList.length:=by simp [Str.length]
  rw [this,bV,ci];simp
 rw [hl] at h3;simp only [Array.toList_extract,List.extract_eq_take_drop,List.drop_zero,Nat.zero_add,Nat.sub_zero] at h3;have h4:=List.take_append_drop (f.cps.toList.length+1) n.cps.toList;rw [h3,List.append_assoc] at h4;show h4.symm
theorem gC (f g:Str):bz f f g=g:=by
 unfold bz
 have:((f.length:Nat):Int)=((f.cps.toList.length:Nat):Int):=by simp [Str.length]
 rw [this,mo (Nat.le_refl _)];apply eU;rw [bV];simp
theorem fL {r:List Nat} (h:n.cps.toList=f.cps.toList++47::r):(bz n f g).cps.toList=g.cps.toList++47::r:=by
 unfold bz
 have:((f.length:Nat):Int)=((f.cps.toList.length:Nat):Int):=by simp [Str.length]
 rw [this,mo (by rw [h];simp),bV];simp [h]
theorem iy (n f g:Str):(bz n f g).length<=g.length+n.length:=by
 unfold bz;rw [Str.length_append];have:=PyProof.Txt.length_slice_le n (some (f.length:Int)) none;left
theorem gB (hn:aJ n=true) (hg:aJ g=true) (hg2:aa g=g) (h:n=f\/bl n f=true):aJ (bz n f g)=true/\aa (bz n f g)=bz n f g:=by
 rcases h with rfl | h
 ·rw [gC];show ⟨hg,hg2⟩
 ·obtain ⟨r,hr⟩:=fR h;have e:=fL (g:=g) hr;show ⟨?_,pN hg2 e⟩;rw [oW] at hn hg ⊢;rw [hr,qc,Bool.and_eq_true] at hn;rw [e,qc,hg,hn.2];rfl
theorem gK {ks:List Str}{h:Str}{p:Str × Str} (hp:p∈aC ks f h):p.1∈ks/\(p.1=f\/bl p.1 f=true)/\p.2=bz p.1 f h:=by
 unfold aC at hp;obtain ⟨n⟩|⟨hn,rfl⟩:=(ZM hp)
 obtain ⟨h1,h2⟩:=ZF hn;show ⟨(aw _).subset h1,?_,rfl⟩;rw [Bool.or_eq_true] at h2;show h2.imp (λz=>eq_of_beq z) id
theorem dN (ks:List Str) (f h:Str):(aC ks f h).length<=ks.length:=by
 unfold aC;rw [EQ,<- (aw ks).length_eq];show Em _ _
theorem kO (h:n∈Es.map (·.n)):∃ e,aV Es n=some e:=by
 cases q:aV Es n with
 | none=>show absurd h (cj q)
 | some e=>show ⟨e,rfl⟩
theorem gD {h:Str} (z:n=f\/bl n f=true):∃ s,n.cps.toList=f.cps.toList++s/\(bz n f h).cps.toList=h.cps.toList++s:=by
 rcases z with rfl | z
 ·show ⟨[],s!"s",by rw [gC];simp⟩
 ·obtain ⟨r,hr⟩:=fR z;show ⟨_,hr,fL hr⟩
theorem nq {m h:Str} (z:n=f\/bl n f=true) (w:m=f\/bl m f=true) (e:bz n f h=bz m f h):n=m:=by
 obtain ⟨s⟩|⟨h1,h2⟩:=(gD (h:=h) z)
 obtain ⟨t⟩|⟨h3,h4⟩:=(gD (h:=h) w)
 rw [e,h4] at h2;have:=List.append_cancel_left h2;apply eU;rw [h1,h3,this]
theorem iW {h:Str} (kd:(Es.map (·.n)).Nodup):∃ ts:List (AP × Str),aC (Es.map (·.n)) f h=ts.map (λt=>(t.1.n,t.2))/\(∀ t∈ts,t.1∈Es/\aV Es t.1.n=some t.1) /\
  (ts.map (·.1.n)).Nodup/\(ts.map (·.2)).Nodup:=by
 have key:∀ ps:List (Str × Str),(∀ p∈ps,p.1∈Es.map (·.n))->∃ ts:List (AP × Str),ps=ts.map (λt=>(t.1.n,t.2))/\∀ t∈ts,t.1∈Es/\aV Es t.1.n=some t.1:=by
  intro ps
  induction ps with
  | nil=>intro _;show ⟨[],rfl,λt ht=>by cases ht⟩
  | cons p ps ih =>
   intro hp;obtain ⟨ts⟩|⟨h1,h2⟩:=(ih λq hq=>hp q (.tail _ hq))
   obtain ⟨e,he⟩:=kO (hp p Zh);obtain ⟨hm,hn⟩:=bj he;show ⟨(e,p.2)::ts,?_,λt ht=>?_⟩
   ·rw [E5,<- h1,hn]
   ·rcases ZC ht with rfl | ht
    ·show ⟨hm,by rw [hn];show he⟩
    ·show h2 t ht
 obtain ⟨ts⟩|⟨h1,h2⟩:=(key (aC (Es.map (·.n)) f h) λp hp=>(gK hp).1)
 have nd:((aH (Es.map (·.n))).filter λn=>n == f || bl n f).Nodup:=((aw _).nodup_iff.mpr kd).filter _;show ⟨ts,h1,h2,?_,?_⟩
 ·have:ts.map (·.1.n)=(aC (Es.map (·.n)) f h).map (·.1):=by rw [h1,E9];rfl
  rw [this];unfold aC;rw [E9]
  have:((λx:Str × Str=>x.1)∘λn=>(n,bz n f h))=_root_.id:=rfl;rw [this,Ey];show nd
 ·have:ts.map (·.2)=(aC (Es.map (·.n)) f h).map (·.2):=by rw [h1,E9];rfl
  rw [this];unfold aC;rw [E9];show List.pairwise_map.mpr (nd.imp_of_mem λ{a b} ha hb hne e=>hne ?_);have q:∀ a,a∈((aH (Es.map (·.n))).filter λn=>n == f || bl n f)->a=f\/bl a f=true:=λa ha=>by
   have:=(ZF ha).2;rw [Bool.or_eq_true] at this;show this.imp (λz=>eq_of_beq z) id
  show nq (q a ha) (q b hb) e
noncomputable def bQ (t:AP × Str):AP:=⟨t.2,t.1.A,{ t.1.B with name:=t.2 }⟩
noncomputable def b5 (Es:List AP) (ts:List (AP × Str)):List AP:=Es.filter λe=>!(ts.any λt=>t.1.n == e.n)
theorem rp (Es:List AP):b5 Es []=Es:=by unfold b5;show List.filter_eq_self.mpr λ_ _=>rfl
theorem o6 (Es:List AP) (ts:List (AP × Str)) (t:AP × Str):delE (b5 Es ts) t.1.n=b5 Es (ts++[t]):=by
 unfold delE b5;rw [List.filter_filter];apply F6;intro e _;rw [FE];by_cases h:t.1.n=e.n
 ·simp [h]
 ·have h2:(t.1.n == e.n)=false:=by simpa using h
  have h3:¬ e.n=t.1.n:=λz=>h z.symm;simp [h2,h3]
theorem bf (Es:List AP) (ts:List (AP × Str)):(b5 Es ts).Sublist Es:=F7
theorem gW {ts:List (AP × Str)} (he:e∈b5 Es ts):∀ t∈ts,t.1.n≠e.n:=λt ht z=>by
 have:=(ZF he).2;rw [Bool.not_eq_true',EM] at this;show this t ht (by simpa using z)
theorem qM {ts:List (AP × Str)} (he:e∈Es) (hn:∀ t∈ts,t.1.n≠e.n):e∈b5 Es ts:=by
 show List.mem_filter.mpr ⟨he,?_⟩;rw [Bool.not_eq_true',EM];intro t ht;have:=hn t ht;simpa using this
theorem qq {ts:List (AP × Str)} (h2:∀ t∈ts,t.1∈Es/\aV Es t.1.n=some t.1) :
  renB (Es.map λe=>(e.n,e.B)) (ts.map λt=>(t.1.n,t.2))=(b5 Es ts++ts.map bQ).map λe=>(e.n,e.B):=by
 unfold renB;rw [Eh];show congr (congrArg _ ?_) ?_
 ·unfold b5;rw [Eu]
  congr 1
  apply F6;intro e _;change (!((ts.map λt=>(t.1.n,t.2)).any λp=>p.1 == e.n))=_;rw [FF];rfl
 ·induction ts with
  | nil=>rfl
  | cons t ts ih =>
   rw [E5,E0,ew,(h2 t Zh).2,ih λs hs=>h2 s (.tail _ hs)];rfl
theorem tT :∀ {E:List AP},(E.map (·.n)).Nodup->e∈E->vAt (entD E) e.n=some (.ref e.A.x):=by
 intro E
 induction E with
 | nil =>
  intro _ h;cases h
 | cons d E ih =>
  intro nd hm;have ih:=ih;rw [E5,E6] at nd;unfold vAt entD at ih ⊢;rw [E5,Eg];rcases ZC hm with rfl | hm
  ·simp
  ·have:d.n≠e.n:=λz=>nd.1 (by rw [z];show E7 hm);simp only [this,decide_false];show ih nd.2 hm
theorem pc (l:List Nat):(l.dropWhile (· != 47)).takeWhile (· != 47)=[]:=by
 induction l with
 | nil=>rfl
 | cons d l ih =>
  rw [EZ];split
  ·show ih
  ·rename_i h;rw [FD,Zv h]
theorem nG:∀ (p l:List Nat),(∀ d∈p,(d != 47)=true)->(p++l).takeWhile (· != 47)=p++l.takeWhile (· != 47)/\(p++l).dropWhile (· != 47)=l.dropWhile (· != 47):=by
 intro p
 induction p with
 | nil =>
  intro l _;show ⟨rfl,rfl⟩
 | cons d p ih =>
  intro l h;obtain ⟨a,b⟩:=ih l λe he=>h e (.tail _ he);rw [Ei,FD,EZ,Zw (h d Zh),Zw (h d Zh),a,b];show ⟨rfl,rfl⟩
theorem oU (l:List Nat):(l.dropWhile (· != 47)).dropWhile (· != 47)=l.dropWhile (· != 47):=by
 induction l with
 | nil=>rfl
 | cons d l ih =>
  rw [EZ];split
  ·show ih
  ·rename_i h;rw [EZ,Zv h]
theorem pE:("INBOX" : Str).cps.toList=[73,78,66,79,88]:=s!"k"
theorem sa:hV ("INBOX" : Str) = "INBOX" := by decide +kernel
theorem dm (t:Str):aa (aa t)=aa t:=by
 by_cases h:hV (aZ t).1 = "INBOX"
 ·have e:aa t = "INBOX" ++ (aZ t).2:=by unfold aa;rw [Zw h]
  rw [e];have hl:("INBOX" ++ (aZ t).2:Str).cps.toList=[73,78,66,79,88]++t.cps.toList.dropWhile (· != 47):=by
   rw [bV,pE,cB]
  obtain ⟨a,b⟩:=nG [73,78,66,79,88] (t.cps.toList.dropWhile (· != 47)) s!"d";rw [pc,<- hl] at a;rw [oU,<- hl] at b
  conv=>lhs;unfold aa
  rw [cB ("INBOX" ++ (aZ t).2),a,b];have e2:(⟨([73,78,66,79,88]++[]:List Nat).toArray⟩:Str) = "INBOX" := by decide +kernel
  dsimp only;rw [e2,Zw sa,cB t]
 ·have e:aa t=t:=by unfold aa;rw [Zv h]
  rw [e,e]
section
variable {c:Cx}{V V' V₂:List NV}{U U1 Y:AA}{Q:AB->AA->Prop}{X:AC->AA->Prop}{S:A2}{Es:List AP}{ns:List Str}{nx:Int}
theorem hU {h:Str} (x:AG c) (cm:c.calm=true) (lv:10<=c.lv) (R:Af U S Es ns nx) (H:AT m (ai Es ns nx)) (hfl:f.length<=400) (hhl:h.length<=400) (ho:aJ h=true) (hn:aa h=h)
  (k:∀ U' P,Le U U'->U P=none->U' P=some (.list ((aC (Es.map (·.n)) f h).map cr))->(∀ p∈aC (Es.map (·.n)) f h,aV Es p.2=none)->Q (.ref P) U')
  (kx:(∃ p∈aC (Es.map (·.n)) f h,∃ e,aV Es p.2=some e)->Ak X U):AM VR c V [.ref S.x,.str f,.str h] (λvs=>call (.ref 436) vs) U Q X:=by
 show AM.tidyX ?_;have cnt:=H.cnt;show ag f436 x s!"o" s!"r" rfl s!"r" λLA=>?_;ext;show ⟨s!"d",λP hP=>(ac s!"r" ?_)⟩;show bJ hP λU1 l₁ h₁=>?_;have R1:=R.le l₁;have hO1:=R1.obj;show af ?_;show bu (α:=Str) .str rfl ?_;ext;show nR s!"lib" cm s!"lv" R1 s!"o" λU2 D l₂ hDn h₂=>?_;have hDP:D≠P:=by rintro rfl;rw [h₁] at hDn;cases hDn
 let J1:=λ(r:List Str) (V':List NV) (U':AA)=>∃ v ds,V'=[⟨"store",.local,some (.ref S.x)⟩,⟨"old",.local,some (.str f)⟩,⟨"new",.local,some (.str h)⟩,⟨"pairs",.local,some (.ref P)⟩,⟨"name",.local,v⟩,⟨"goal",.local,none⟩,.gl "is_below",.gl "settled_name",.gl "len",.gl "need_new"]/\Fr [P] U2 U'/\aH (Es.map (·.n))=ds++r/\U' P=some (.list (((ds.filter λn=>n == f || bl n f).map λn=>(n,bz n f h)).map cr))
 show ⟨aH (Es.map (·.n)),_,J1,
  ar h₂,(ei2 _ ([]) (ai4 rfl Fr.refl rfl (l₂ _ _ h₁))),λ_ _ U' z=>ex2 z λ_ _ q=>by have f:=q.2.1;show f _ _ h₂ (by simpa using hDP),?_,?_⟩
 ·intro n r V1 U3 r1z;obtain ⟨v,ds⟩|⟨rfl,f₃,hd,hP3⟩:=r1z;have hmem:n∈Es.map (·.n):=(aw _).subset (by rw [hd];simp);obtain ⟨e⟩|⟨he,hen⟩:=(ZM hmem)
  show an4 (H.ent he) λ_ g1 g2 g3=>?_;rw [hen] at g1 g2 g3;show aB rfl (ac s!"r" ?_);have hdl:ds.length<=30:=by
   have:=congrArg List.length hd;rw [(aw _).length_eq,EQ,EG] at this;left
  have stp:∀ b:Bool,(n == f || bl n f)=b->((ds++[n]).filter λn=>n == f || bl n f)=(ds.filter λn=>n == f || bl n f)++(if b then [n] else []):=by
   intro b hb;rw [Ee,EP,hb];cases b<;>rfl
  show af ?_;show jg ?_;show Go.mono (Q:=λb U'=>b=(n == f || bl n f)/\U'=U3) ?_ (λb U' z=>?_) (λ_ _ z=>z)
  ·ext;show ah (λhq=>⟨by rw [hq];rfl,rfl⟩) (λhq=>?_);ext;show m0 s!"lib" cm s!"lv" s!"o" s!"o" ?_;ext;show ah (λhq2=>⟨by rw [hq,hq2];rfl,rfl⟩) (λhq2=>?_);ext;show ⟨by rw [hq,hq2];rfl,rfl⟩
  ·obtain ⟨hb,rfl⟩:=z;show ah (λhq=>?_) (λhq=>?_)
   ·have hst:=stp true (by rw [<- hb,hq]);have hnf:n=f\/bl n f=true:=by
     rw [hq] at hb;have hb:=hb.symm;rw [Bool.or_eq_true] at hb;show hb.imp (λz=>eq_of_beq z) id
    have hgood:=gB (n:=n) (f:=f) (g:=h) g1 ho hn hnf;have hlen:=iy n f h;have hslen:=PyProof.Txt.length_slice_le n (some (f.length:Int)) none;ext;show ⟨cK hP3,?_⟩;ext;show ig (sz s!"o") ?_;ext;show ch (t:=bz n f h) s!"lib" cm s!"lv" s!"o" (λhok=>?_) (λhno=>?_)
    ·rw [hgood.2];ext
     show ct hP3 (sz (by
      rw [EQ,EQ]
      show Zt (Em _ _) s!"o")) ?_
     ext;show AK.of Zr (ei2 _ (ds++[n]) (ai4 rfl (f₃.set Zh) (by rw [hd];simp) ?_));rw [Zs,hst,Eh,Eh];rfl
    ·rw [hgood.2,hgood.1] at hno;cases hno
   ·have hst:=stp false (by rw [<- hb,hq]);ext;show AK.of Zr (ei2 _ (ds++[n]) (ai4 rfl f₃ (by rw [hd];simp) ?_));rw [hP3,hst];simp
 ·intro V1 U3 r2z;obtain ⟨v,ds⟩|⟨rfl,f₃,hd,hP3⟩:=r2z;rw [ET] at hd;have hP3:U3 P=some (.list ((aC (Es.map (·.n)) f h).map cr)):=by
   rw [hP3,<- hd];rfl
  have l₃:Le U U3:=λa o e=>((((l₁.trans l₂).fr (F:=[P])).trans f₃).drop hP) a o e s!"s";have R3:=R.le l₃;have hpl:=dN (Es.map (·.n)) f h;rw [EQ] at hpl;generalize hps:aC (Es.map (·.n)) f h=ps at k kx hP3 hpl;show af ?_;show bu (α:=Str × Str) cr rfl ?_;ext
  let J2:=λ(r:List (Str × Str)) (V':List NV) (U':AA)=>∃ v w ds,V'=[⟨"store",.local,some (.ref S.x)⟩,⟨"old",.local,some (.str f)⟩,⟨"new",.local,some (.str h)⟩,⟨"pairs",.local,some (.ref P)⟩,⟨"name",.local,v⟩,⟨"goal",.local,w⟩,.gl "is_below",.gl "settled_name",.gl "len",.gl "need_new"]/\U'=U3/\ps=ds++r/\∀ p∈ds,aV Es p.2=none
  show ⟨ps,_,J2,
   ar hP3,(ei3 _ _ ([]) (ai4 rfl rfl rfl (λp hp=>by cases hp))),λ_ _ U' z=>ex3 z λ_ _ _ q=>by have e:=q.2.1;rw [e];show hP3,?_,?_⟩
  ·intro p r V1 _ r3z;obtain ⟨v,w,ds⟩|⟨rfl,rfl,hd,hu⟩:=r3z;show cX (as:=[.str p.1,.str p.2]) ?_ nm2 rfl (cm:=cm);change BN _ _ _ _ _ _ _;show aB rfl (ac s!"r" ?_);change BN _ _ _ _ _ _ _;show aB rfl (ac s!"r" ?_);change Al _ _ _ _ _ _ _;ext;show eu s!"lib" cm s!"lv" R3 (λhf=>?_) (λhe w a fr=>⟨U,l₃,kx ⟨p,by rw [hd];simp,he⟩ w a fr⟩);ext;show AK.of Zr (ei3 _ _ (ds++[p]) (ai4 rfl rfl (by rw [hd];simp) (λq hq=>?_)));rcases ZA hq with hq | hq
   ·show hu q hq
   ·rw [ZS hq];show hf
  ·intro V1 _ r4z;obtain ⟨v,w,ds⟩|⟨rfl,rfl,hd,hu⟩:=r4z;rw [ET] at hd;ext;show AK.of Zr (k _ P l₃ hP hP3 (by rw [hd];show hu))
end
section
variable {c:Cx}{V V' V₂:List NV}{U U1 U' Y:AA}{Q:AB->AA->Prop}{X:AC->AA->Prop}{S:A2}{Es:List AP}{ns:List Str}{nx:Int}
theorem Af.xd (R:Af U S Es ns nx) {d:AP} (he:e∈Es) (hd:d∈Es) (hn:e.n≠d.n):e.A.x≠d.A.x/\e.A.d≠d.A.d:=by
 have h:e.A.d≠d.A.d:=λz=>R.feet_apart hd he (Ne.symm hn) e.A.d Zh (by rw [z];show .head _);show ⟨λz=>h ?_,h⟩;have h1:=(R.box e he).x;have h2:=(R.box d hd).x;rw [z,h2] at h1;injection h1 with h1;injection h1 with _ h1;show h1.symm
theorem rB {v:Str}:(λy=>if y=("name" : Str) then some (AB.str v) else boxM A B y)=boxM A { B with name:=v }:=by
 funext y;by_cases h:y=("name" : Str)
 ·subst h;rfl
 ·unfold boxM;simp only [Zv h]
theorem kC :Br (.attrs boxNs (boxM A B)):=by
 intro y v h;unfold boxM at h
 repeat (first | (split at h;· cases h;trivial) | cases h)
theorem nQ:Br (.attrs storeNs (bq S nx)):=by
 intro y v h;unfold bq at h
 repeat (first | (split at h;· cases h;trivial) | cases h)
theorem kN:Br (.dictS (entD Es)):=by
 intro e he;obtain ⟨d⟩|⟨_,rfl⟩:=(ZM he)
 trivial
structure DK (U:AA) (S:A2) (nx:Int) (E:List AP) (ts:List (AP × Str)) (k:Nat):Prop where
 flat:B4 U
 only:∀ a o,U a=some o->a=S.x\/a=S.d\/a=S.b\/∃ t∈ts,a=t.1.A.x\/a=t.1.A.d
 obj:Ae U S nx
 dict:U S.b=some (.dictS (entD (E++(ts.take k).map bQ)))
 box:∀ (i:Nat) t,ts[i]?=some t->U t.1.A.x=some (.inst 163 t.1.A.d)/\U t.1.A.d=some (.attrs boxNs (boxM t.1.A (if i < k then { t.1.B with name:=t.2 } else t.1.B)))
theorem Af.renamed (R:Af U S Es ns nx) {ts:List (AP × Str)} (h2:∀ t∈ts,t.1∈Es/\aV Es t.1.n=some t.1) (h3:(ts.map (·.1.n)).Nodup) (h4:(ts.map (·.2)).Nodup) (h5:∀ t∈ts,aV Es t.2=none)
  (fr:Fr (S.b::ts.map (·.1.A.d)) U U') (hb:U' S.b=some (.dictS (entD (b5 Es ts++ts.map bQ)))) (hd:∀ t∈ts,U' t.1.A.d=some (.attrs boxNs (boxM t.1.A { t.1.B with name:=t.2 }))) :
  Af U' S (b5 Es ts++ts.map bQ) ns nx/\An U U' S Es S (b5 Es ts++ts.map bQ):=by
 have noL:B0 U (S.b::ts.map (·.1.A.d)):=λa ha=>by
  rcases ZC ha with rfl | ha
  ·rw [R.dict];show .dictS
  ·obtain ⟨t⟩|⟨ht,rfl⟩:=(ZM ha)
   rw [(R.box _ (h2 t ht).1).d];show .attrs nY
 have off:∀ a o,U a=some o->(∀ m,o≠.dictS m)->(∀ m,o≠.attrs boxNs m)->a∉S.b::ts.map (·.1.A.d):=λa o e n1 n2 z=>by
  rcases ZC z with rfl | z
  ·rw [R.dict] at e;cases e;show n1 _ rfl
  ·obtain ⟨t⟩|⟨ht,rfl⟩:=(ZM z)
   rw [(R.box _ (h2 t ht).1).d] at e;cases e;show n2 _ rfl
 have kp:∀ a o,U a=some o->(∀ m,o≠.dictS m)->(∀ m,o≠.attrs boxNs m)->U' a=some o:=λa o e n1 n2=>fr a o e (off a o e n1 n2);have hbox:∀ e∈b5 Es ts++ts.map bQ,AD U' e.A e.B:=λe he=>by
  rcases ZA he with he | he
  ·have hm:=(bf _ _).subset he;show (R.box e hm).fr fr noL λa ha z=>?_;rcases ZC z with rfl | z
   ·show (R.offX hm).2.2 ha
   ·obtain ⟨t⟩|⟨ht,rfl⟩:=(ZM z)
    show R.feet_apart hm (h2 t ht).1 (Ne.symm (gW he t ht)) _ Zh ha
  ·obtain ⟨t⟩|⟨ht,rfl⟩:=(ZM he)
   have b:=R.box _ (h2 t ht).1;show ex1 b.l λxs h11z=>?_;show an2 h11z λe1 e2=>?_;clear h11z;show ⟨kp _ _ b.x s!"s" s!"s",hd t ht,⟨xs,kp _ _ e1 s!"s" s!"s",e2.fr fr noL⟩,kp _ _ b.g s!"s" s!"s",b.lg⟩
 have foot:∀ a∈(b5 Es ts++ts.map bQ).flatMap (·.A.foot),a∈Es.flatMap (·.A.foot):=λa ha=>by
  obtain ⟨e⟩|⟨he,h⟩:=(List.mem_flatMap.mp ha)
  rcases ZA he with he | he
  ·show List.mem_flatMap.mpr ⟨e,(bf _ _).subset he,h⟩
  ·obtain ⟨t⟩|⟨ht,rfl⟩:=(ZM he)
   show List.mem_flatMap.mpr ⟨t.1,(h2 t ht).1,h⟩
 show ⟨⟨⟨kp _ _ R.obj.x s!"s" s!"s",kp _ _ R.obj.d s!"s" (λm z=>by injection z with z _;show b0 z)⟩,hb,hbox,kp _ _ R.subs s!"s" s!"s",λe he=>?_,?_,?_,λe he=>?_⟩,⟨rfl,rfl,rfl,fr.mono λa ha=>?_,λa ha=>?_⟩⟩
 ·rcases ZA he with he | he
  ·show R.name e ((bf _ _).subset he)
  ·obtain ⟨t⟩|⟨ht,h15z⟩:=(ZM he)
   obtain rfl:=h15z;rfl
 ·rw [Eh,Er];show ⟨R.keys.sublist ((bf _ _).map _),by rw [E9];show h4,λa ha b hb'=>?_⟩;rintro rfl;obtain ⟨e⟩|⟨he,rfl⟩:=(ZM ha)
  rw [E9] at hb';obtain ⟨t⟩|⟨ht,q⟩:=(ZM hb')
  show cj (h5 t ht) (by rw [show t.2=e.n from q];show E7 ((bf _ _).subset he))
 ·rw [F5,Er];have e1:(ts.map bQ).flatMap (·.A.foot)=(ts.map (·.1)).flatMap (·.A.foot):=by rw [List.flatMap_map,List.flatMap_map];rfl
  have nd:∀ us:List (AP × Str),(∀ t∈us,t∈ts)->(us.map (·.1.n)).Nodup->((us.map (·.1)).flatMap (·.A.foot)).Nodup:=by
   intro us
   induction us with
   | nil=>intro _ _;show .nil
   | cons t us ih =>
    intro hs hn;rw [E5,E6] at hn;rw [E5,Ez,Er];have b:=R.box _ (h2 t (hs t Zh)).1;show ⟨dT b.dl.symm b.dg.symm b.lg,ih (λu hu=>hs u (.tail _ hu)) hn.2,λa ha c hc=>?_⟩;rintro rfl;obtain ⟨e⟩|⟨he,hc⟩:=(List.mem_flatMap.mp hc)
    obtain ⟨u⟩|⟨hu,rfl⟩:=(ZM he)
    show R.feet_apart (h2 t (hs t Zh)).1 (h2 u (hs u (.tail _ hu))).1 (λz=>hn.1 (by rw [z];show E7 (f:=λt:AP × Str=>t.1.n) hu)) _ hc ha
  show ⟨R.apart.sublist (i8 (bf _ _)),by rw [e1];show nd ts (λ_ h=>h) h3,λa ha b hb'=>?_⟩;rintro rfl;rw [e1] at hb';obtain ⟨e⟩|⟨he,ha⟩:=(List.mem_flatMap.mp ha)
  obtain ⟨d⟩|⟨hd',hb'⟩:=(List.mem_flatMap.mp hb')
  obtain ⟨t⟩|⟨ht,rfl⟩:=(ZM hd')
  show R.feet_apart ((bf _ _).subset he) (h2 t ht).1 (Ne.symm (gW he t ht)) _ hb' ha
 ·rcases ZA he with he | he
  ·show R.sOff e ((bf _ _).subset he)
  ·obtain ⟨t⟩|⟨ht,rfl⟩:=(ZM he)
   change S.s∉t.1.A.foot;show R.sOff _ (h2 t ht).1
 ·rcases ZC ha with rfl | ha
  ·show .tail _ Zh
  ·obtain ⟨t⟩|⟨ht,rfl⟩:=(ZM ha)
   show c8 (h2 t ht).1 _ Zh
 ·simp only [bK,EC] at ha ⊢;rcases ha with h1 | h1 | h1 | h1
  ·show .inl (.inl h1)
  ·show .inl (.inr (.inl h1))
  ·show .inl (.inr (.inr (.inl h1)))
  ·show .inl (.inr (.inr (.inr (foot a h1))))
theorem mO (he:aV Es (aa n)=some e) (hn:e.n=aa n):step (ai Es ns nx) (.rename n g) =
  if aJ (aa g) && (aV Es (aa g)).isNone then
   (if aa n = "INBOX" then (if nx < 4294967295 then
    some (⟨setB (ai Es ns nx).boxes e.n (e.B.expunge (e.B.letters.map (·.uid)))++[(aa g,(Bx.new (aa g) nx).addAll e.B.letters)],ns,nx+1⟩,.pairs [("INBOX",aa g)]) else none)
   else (if (aC (Es.map (·.n)) (aa n) (aa g)).any (λp=>(aV Es p.2).isSome) then none else
    some ({ ai Es ns nx with boxes:=renB (ai Es ns nx).boxes (aC (Es.map (·.n)) (aa n) (aa g)) },.pairs (aC (Es.map (·.n)) (aa n) (aa g))))) else none:=by
 have fb:∀ x,aA (ai Es ns nx).boxes x=(aV Es x).map (·.B):=λx=>ew;rw [step,bL he,hn];simp only [fb,Option.isNone_map,Option.isSome_map,f9];rfl
end
section
variable {c:Cx}{V V' V₂:List NV}{U U1 U' Y:AA}{Q:AB->AA->Prop}{X:AC->AA->Prop}{S:A2}{Es:List AP}{ns:List Str}{nx:Int}
noncomputable def dB (U:AA) (p:Addr->Bool):AA:=λa=>if p a=true then U a else none
theorem oi {p:Addr->Bool}:Le (dB U p) U:=λa o e=>by
 unfold dB at e;split at e
 ·show e
 ·cases e
theorem nH {p:Addr->Bool}{a:Addr} (h:p a=true):dB U p a=U a:=Zw h
theorem b9 {p:Addr->Bool}{a:Addr} (h:p a=false):dB U p a=none:=Zv (by rw [h];decide)
noncomputable def renP (S:A2) (ts:List (AP × Str)):Addr->Bool:=λa=>a == S.x || (a == S.d || (a == S.b || ts.any λt=>a == t.1.A.x || a == t.1.A.d))
theorem renP_iff {ts:List (AP × Str)}{a:Addr}:renP S ts a=true↔(a=S.x\/a=S.d\/a=S.b\/∃ t∈ts,a=t.1.A.x\/a=t.1.A.d):=by
 unfold renP;simp only [Bool.or_eq_true,beq_iff_eq,EY]
theorem DK.turn {ts:List (AP × Str)}{E:List AP}{t:AP × Str} (r:DK U S nx E ts k) (ht:ts[k]?=some t) (hx:∀ (i:Nat) u,ts[i]?=some u->i≠k->u.1.A.d≠t.1.A.d) (hk:t.2∉(E++(ts.take k).map bQ).map (·.n)) :
  DK ((U.set t.1.A.d (.attrs boxNs (boxM t.1.A { t.1.B with name:=t.2 }))).set S.b (.dictS (sto (entD (E++(ts.take k).map bQ)) t.2 (.ref t.1.A.x)))) S nx E ts (k+1):=by
 obtain ⟨bx,bd⟩:=r.box k t ht;have hmem:t∈ts:=Eo ht;have n1:∀ a o,U a=some o->(∀ m,o≠.dictS m)->(∀ m,o≠.attrs boxNs m)->((U.set t.1.A.d (.attrs boxNs (boxM t.1.A { t.1.B with name:=t.2 }))).set S.b (.dictS (sto (entD (E++(ts.take k).map bQ)) t.2 (.ref t.1.A.x)))) a=some o:=λa o e h1 h2=>by
  rw [Zn,Zn]
  ·show e
  ·rintro rfl;rw [bd] at e;cases e;show h2 _ rfl
  ·rintro rfl;rw [r.dict] at e;cases e;show h1 _ rfl
 have n2:∀ a m,U a=some (.attrs boxNs m)->a≠t.1.A.d->((U.set t.1.A.d (.attrs boxNs (boxM t.1.A { t.1.B with name:=t.2 }))).set S.b (.dictS (sto (entD (E++(ts.take k).map bQ)) t.2 (.ref t.1.A.x)))) a=some (.attrs boxNs m):=λa m e h=>by
  rw [Zn,Zn h]
  ·show e
  ·rintro rfl;rw [r.dict] at e;cases e
 have e2:sto (entD (E++(ts.take k).map bQ)) t.2 (.ref t.1.A.x)=entD (E++(ts.take (k+1)).map bQ):=by
  rw [iR (by rw [g8];show hk),List.take_add_one,ht];unfold entD;simp [bQ]
 show ⟨λa o h=>?_,λa o h=>?_,⟨n1 _ _ r.obj.x s!"s" s!"s",n1 _ _ r.obj.d s!"s" (λm z=>by injection z with z _;show b0 z)⟩,by rw [Zs,e2],λi u hu=>?_⟩
 ·unfold AA.set at h;split at h
  ·cases h;rw [e2];show kN
  ·split at h
   ·cases h;show kC
   ·show r.flat a o h
 ·unfold AA.set at h;split at h
  ·rename_i q;show .inr (.inr (.inl q))
  ·split at h
   ·rename_i q;show .inr (.inr (.inr ⟨t,hmem,.inr q⟩))
   ·show r.only a o h
 ·obtain ⟨ux,ud⟩:=r.box i u hu;show ⟨n1 _ _ ux s!"s" s!"s",?_⟩;by_cases q:i=k
  ·subst q;rw [ht] at hu;cases hu;rw [Zw (Nat.lt_succ_self _),Zn,Zs];rintro z;rw [z,r.dict] at bd;cases bd
  ·rw [n2 _ _ ud (hx i u hu q)];by_cases h:i < k
   ·rw [Zw h,Zw s!"o"]
   ·rw [Zv h,Zv s!"o"]
theorem Am.nil':Am []:=λe he=>by cases he
theorem Am.so {x:Str}{k:NameKind} (f:Ba a) (h:Am r):Am (⟨x,k,some a⟩::r):=λe he b hb=>by
 rcases ZC he with rfl | he
 ·cases hb;show f
 ·show h e he b hb
theorem Am.no {x:Str}{k:NameKind} (h:Am r):Am (⟨x,k,none⟩::r):=λe he b hb=>by
 rcases ZC he with rfl | he
 ·cases hb
 ·show h e he b hb
theorem Am.op {x:Str}{k:NameKind}{v:Option Addr} (h:Am r):Am (⟨x,k,v.map .ref⟩::r):=by
 cases v with
 | none=>show h.no
 | some _=>show h.so trivial
theorem Bz.nil:Bz [] []:=⟨rfl,λ_ he=>by cases he⟩
theorem Bz.same {e:NV} (h:Bz r r'):Bz (e::r) (e::r'):=⟨by rw [E5,h.1];rfl,λd hd a ha=>by
 rcases ZC hd with rfl | hd
 ·show .head _
 ·show .tail _ (h.2 d hd a ha)⟩
theorem Bz.drop {x:Str}{k:NameKind}{o:Option AB} (h:Bz r r'):Bz (⟨x,k,o⟩::r) (⟨x,k,none⟩::r'):=⟨by rw [E5,h.1];rfl,λd hd a ha=>by
 rcases ZC hd with rfl | hd
 ·cases ha
 ·show .tail _ (h.2 d hd a ha)⟩
def NL (Y:AA) (b:Addr):Prop:=∃ o,Y b=some o/\∀ ys,o≠.list ys
theorem NL.ne {Y:AA}{a:Addr} (h:NL Y b) (ha:Y a=some (.list xs)):a≠b:=λz=>by
 obtain ⟨o,e,n⟩:=h;rw [<- z,ha] at e;show n xs (Option.some.inj e).symm
theorem mX {S:A2}{ts:List (AP × Str)}{Y:AA}{a:Addr} (ha:Y a=some (.list xs)) (h1:NL Y S.x) (h2:NL Y S.d) (h3:NL Y S.b) (h4:∀ t∈ts,NL Y t.1.A.x/\NL Y t.1.A.d):renP S ts a=false:=by
 rw [<- Bool.not_eq_true,renP_iff];rintro (z | z | z | ⟨t,ht,z | z⟩)
 ·show h1.ne ha z
 ·show h2.ne ha z
 ·show h3.ne ha z
 ·show (h4 t ht).1.ne ha z
 ·show (h4 t ht).2.ne ha z
theorem j6 {o:Str} (x:AG c) (cm:c.calm=true) (lv:16<=c.lv) (R:Af U S Es ns nx) (H:AT m (ai Es ns nx)) (hm:m<=60) (hz:o.length<=300) (hz2:g.length<=300)
  (k:∀ s' r U' a,step (ai Es ns nx) (.rename o g)=some (s',r)->BL U U' S Es ns nx s'->A8 U' a r->Q a U') (kx:step (ai Es ns nx) (.rename o g)=none->Ak X U):AM VR c V [.ref S.x,.str o,.str g] (λvs=>call (.ref 441) vs) U Q X:=by
 show AM.tidyX ?_;have hO:=R.obj;have cnt:=H.cnt;have hgl:=eB g;show ag f441 x s!"o" s!"r" rfl s!"r" λLA=>?_;ext;show dQ s!"lib" cm s!"lv" R s!"o" (λe he=>?_) (λhn w a fr=>⟨U,Le.refl _,kx (by simp [step,cI hn]) w a fr⟩);show ac s!"r" ?_;obtain ⟨hm',hn'⟩:=bj he;have hB:=R.box e hm';have hst:=mO (ns:=ns) (nx:=nx) (g:=g) he hn';ext;show ch s!"lib" cm s!"lv" s!"o" (λhok=>?_) (λhno w a fr=>⟨U,Le.refl _,kx (by rw [hst,hno];rfl) w a fr⟩);show ac s!"r" ?_;ext;show eu s!"lib" cm s!"lv" R (λhf=>?_) (λ⟨d,hd⟩ w a fr=>⟨U,Le.refl _,kx (by rw [hst,hd,hok];rfl) w a fr⟩);rw [hok,hf,Zw (show (true && (none:Option AP).isNone)=true from rfl)] at hst;ext;rw [R.name e hm',hn'];show ah (λh=>?_) (λh=>?_)
 ·have h:aa o = "INBOX" := eq_of_beq h;rw [Zw h] at hst;ext;show iJ s!"lib" cm s!"lv" R H hm hm' hf (λU1 P h1 ho hP=>?_) (λh1 w a fr=>⟨U,Le.refl _,kx (by rw [hst,Zv h1]) w a fr⟩);rw [Zw h1] at hst;show AK.of Zr (k _ (.pairs _) _ _ hst ho ⟨P,rfl,hP⟩)
 ·have h:¬ aa o = "INBOX" := λz=>by rw [z] at h;simp at h
  rw [Zv h] at hst;have hel:=(H.ent hm').2.2.2;rw [hn'] at hel;ext;rw [R.name e hm',hn']
  show hU s!"lib" cm s!"lv" R H hel s!"o" hok (dm g) (λU1 P l₁ hPn hP h5=>?_) (λ⟨p,hp,hd⟩ w a fr=>⟨U,Le.refl _,kx (by
   rw [hst,Zw];rw [EY];obtain ⟨d,hd⟩:=hd
   show ⟨p,hp,by rw [hd];rfl⟩) w a fr⟩)
  rw [Zv (by
   rw [Bool.not_eq_true,EM];intro p hp
   rw [h5 p hp];decide)] at hst
  show ac s!"r" ?_;obtain ⟨ts⟩|⟨hps,h2,h3,h4⟩:=(iW (Es:=Es) (f:=aa o) (h:=aa g) R.keys)
  rw [hps] at hP hst h5;have h5:∀ t∈ts,aV Es t.2=none:=λt ht=>h5 (t.1.n,t.2) (E7 (f:=λt:AP × Str=>(t.1.n,t.2)) ht);have hlen:ts.length<=30:=by
   have:=dN (Es.map (·.n)) (aa o) (aa g);rw [hps,EQ,EQ] at this;left
  rw [E9] at hP;have R1:=R.le l₁;have hPb:P≠S.b:=by rintro rfl;rw [R.dict] at hPn;cases hPn
  show af ?_;show dc rfl s!"cns" s!"cok" ?_ s!"u";ext
  let J1:=λ(r:List AB) (zs:List AB) (U':AA)=>∃ ds rs,ts=ds++rs/\r=rs.map (cr∘λt=>(t.1.n,t.2))/\zs=ds.map (λt=>AB.ref t.1.A.x)/\Fr [S.b] U1 U'/\U' S.b=some (.dictS (entD (b5 Es ds)))
  show ⟨J1,
   ⟨_,_,ar hP,sz (by rw [EQ];left),(ei2 ([]) ts (ai5 rfl rfl rfl Fr.refl (by rw [rp];show R1.dict))),λ_ _ U' z=>ex2 z λ_ _ q=>by have f:=q.2.2.2.1;show f _ _ hP (by simpa using hPb)⟩,λcl C=>?_,?_⟩
  ·intro v rest zs U2 r1z;obtain ⟨ds,rs⟩|⟨hts,hr,rfl,f₂,hb⟩:=r1z;cases rs with
   | nil=>cases hr
   | cons t rs =>
    rw [E5] at hr;cases hr;have htm:t∈ts:=by rw [hts];simp
    have hO2:Ae U2 S nx:=R1.obj.fr f₂ (by intro z;have hxb:=R1.obj.x;rw [ZS z,R1.dict] at hxb;cases hxb) (by intro z;have hxb:=R1.obj.d;rw [ZS z,R1.dict] at hxb;cases hxb);show aD (ac s!"r" ?_) ⟨_,.tail _ Zh,rfl,rfl⟩;show dA ?_;show ifT ?_;ext;show ⟨dz hb,?_⟩;ext;ext;have hnot:∀ u∈ds,u.1.n≠t.1.n:=λu hu z=>by
     rw [hts,Eh,Er] at h3;show h3.2.2 _ (E7 (f:=λt:AP × Str=>t.1.n) hu) _ s!"s" z
    show iQ hb (tT (R.keys.sublist ((bf _ _).map _)) (qM (h2 t htm).1 hnot)) (sz (by
     unfold entD;rw [EQ]
     have:=(bf Es ds).length_le;left)) ?_
    rw [lu,o6];show (ei2 (ds++[t]) rs (ai5 (by rw [hts];simp) rfl s!"s" (f₂.set Zh) (Zs ..)))
  ·intro ys U2 D r2z hD;obtain ⟨ds,rs⟩|⟨hts,hr,rfl,f₂,hb⟩:=r2z;have hrs:rs=[]:=by
    cases rs with
    | nil=>rfl
    | cons _ _=>cases hr
   subst hrs;rw [ET] at hts;subst hts;show ac s!"r" ?_;show bJ hD λUF lF hDF=>?_;have fF:Fr [S.b] U1 UF:=f₂.le lF;have hbF:=lF _ _ hb;have hPF:=fF _ _ hP (by simpa using hPb);have offb:∀ a o,U1 a=some o->(∀ m,o≠.dictS m)->UF a=some o:=λa o e n=>fF a o e λz=>by
    rw [ZS z,R1.dict] at e;cases e;show n _ rfl
   have hxd:∀ (i:Nat) u (j:Nat) t,ts[i]?=some u->ts[j]?=some t->i≠j->u.1.A.d≠t.1.A.d:=λi u j t hu ht hij=>by
    show (R.xd (h2 u (Eo hu)).1 (h2 t (Eo ht)).1 λz=>hij ?_).2;have e1:(ts.map (·.1.n))[i]?=some u.1.n:=by rw [ER,hu];rfl
    have e2:(ts.map (·.1.n))[j]?=some u.1.n:=by rw [ER,ht,z];rfl
    show (List.getElem?_inj (List.getElem?_eq_some_iff.mp e1).1 h3).mp (e1.trans e2.symm)
   have n1:NL UF S.x:=⟨_,offb _ _ R1.obj.x s!"s",s!"s"⟩
   have n2:NL UF S.d:=⟨_,offb _ _ R1.obj.d s!"s",s!"s"⟩
   have n3:∀ t∈ts,NL UF t.1.A.x/\NL UF t.1.A.d:=λt ht=>⟨⟨_,offb _ _ (R1.box _ (h2 t ht).1).x s!"s",s!"s"⟩,⟨_,offb _ _ (R1.box _ (h2 t ht).1).d s!"s",s!"s"⟩⟩
   have hDk:=mX hDF n1 n2 ⟨_,hbF,s!"s"⟩ n3;have hPk:=mX hPF n1 n2 ⟨_,hbF,s!"s"⟩ n3;show af ?_;show mI rfl cm s!"look" (sp s!"lib") ?_;ext
   show ⟨D,P,_,_,rfl,hDF,hPF,dB UF (renP S ts),[⟨"store",.cell,some (.ref S.x)⟩,⟨"old",.local,some (.str o)⟩,⟨"new",.local,some (.str g)⟩,⟨"box",.local,some (.ref e.A.x)⟩,⟨"found",.local,some (.str (aa g))⟩,⟨"pairs",.local,some (.ref P)⟩,⟨"pair",.local,none⟩,⟨"taken",.local,some (.ref D)⟩,⟨"one",.local,none⟩,.gl "settled_name",.gl "need_new",.gl "INBOX_store",.gl "rename_inbox",.gl "renamed_pairs",.gl "zip"],
    λk V' U'=>∃ v:Option Addr,V'=[⟨"store",.cell,some (.ref S.x)⟩,⟨"old",.local,some (.str o)⟩,⟨"new",.local,some (.str g)⟩,⟨"box",.local,some (.ref e.A.x)⟩,⟨"found",.local,some (.str (aa g))⟩,⟨"pairs",.local,some (.ref P)⟩,⟨"pair",.local,none⟩,⟨"taken",.local,some (.ref D)⟩,⟨"one",.local,v.map .ref⟩,.gl "settled_name",.gl "need_new",.gl "INBOX_store",.gl "rename_inbox",.gl "renamed_pairs",.gl "zip"]/\k<=ts.length/\DK U' S nx (b5 Es ts) ts k,
    oi,⟨b9 hDk,b9 hPk⟩,⟨rfl,λ_ h _ _=>h⟩,⟨none,rfl,Nat.zero_le _,?_⟩,?_,?_,?_⟩
   ·
    have k1:∀ {a:Addr},renP S ts a=true->dB UF (renP S ts) a=UF a:=λh=>nH h;have p1:renP S ts S.x=true:=renP_iff.mpr (.inl rfl);have p2:renP S ts S.d=true:=renP_iff.mpr (.inr (.inl rfl));have p3:renP S ts S.b=true:=renP_iff.mpr (.inr (.inr (.inl rfl)));have hx1:=offb _ _ R1.obj.x s!"s";have hx2:=offb _ _ R1.obj.d s!"s";show ⟨λa ob q=>?_,λa ob q=>?_,⟨by rw [k1 p1];show hx1,by rw [k1 p2];show hx2⟩,by rw [k1 p3,hbF];simp,λi t ht=>?_⟩
    ·have hp:renP S ts a=true:=by
      cases z:renP S ts a with
      | true=>rfl
      | false=>rw [b9 z] at q;cases q
     rw [k1 hp] at q;rcases renP_iff.mp hp with z | z | z | ⟨t,ht,z | z⟩
     ·rw [z,hx1] at q;cases q;trivial
     ·rw [z,hx2] at q;cases q;show nQ
     ·rw [z,hbF] at q;cases q;show kN
     ·rw [z,offb _ _ (R1.box _ (h2 t ht).1).x s!"s"] at q;cases q;trivial
     ·rw [z,offb _ _ (R1.box _ (h2 t ht).1).d s!"s"] at q;cases q;show kC
    ·cases z:renP S ts a with
     | true=>show renP_iff.mp z
     | false=>rw [b9 z] at q;cases q
    ·have htm:=Eo ht;rw [Zv (Nat.not_lt_zero i),k1 (renP_iff.mpr (.inr (.inr (.inr ⟨t,htm,.inl rfl⟩)))),k1 (renP_iff.mpr (.inr (.inr (.inr ⟨t,htm,.inr rfl⟩))))];show ⟨offb _ _ (R1.box _ (h2 t htm).1).x s!"s",offb _ _ (R1.box _ (h2 t htm).1).d s!"s"⟩
   ·intro i V' U' r3z;obtain ⟨v⟩|⟨rfl,_,r⟩:=r3z;show ⟨?_,r.flat⟩
    repeat (first | with_reducible show Am.nil' | with_reducible show Am.no ?_ | ((with_reducible show Am.so ?_ ?_);(· show trivial)) | with_reducible show Am.op ?_)
   ·intro i a b V1 U2 ha hb' r4z;obtain ⟨v⟩|⟨rfl,hi,r⟩:=r4z;rw [ER] at ha hb';obtain ⟨t⟩|⟨ht,rfl⟩:=(Option.map_eq_some_iff.mp ha)
    rw [ht] at hb';cases hb';obtain ⟨bx,bd⟩:=r.box i t ht;rw [Zv (Nat.lt_irrefl i)] at bd;have hlt:i < ts.length:=(List.getElem?_eq_some_iff.mp ht).1;show cX (as:=[.ref t.1.A.x,.tup [.str t.1.n,.str t.2]]) ?_ nm2 rfl (cm:=cm);change BN _ _ _ _ _ _ _;show aB rfl (ac s!"r" ?_);change BN _ _ _ _ _ _ _;show aB rfl (ac s!"r" ?_);change Al _ _ _ _ _ _ _;show af ?_;show bT ?_;ext;have hK:AZ c.K:=AG.toK x;show ⟨t.1.A.x,163,boxNs,_,rfl,⟨t.1.A.d,bx,bd⟩,bC hK,t8 hK s!"k",s!"k",s!"k",λd hd=>?_⟩;rw [bx] at hd;cases hd;rw [rB];have hO3:Ae (U2.set t.1.A.d (.attrs boxNs (boxM t.1.A { t.1.B with name:=t.2 }))) S nx:=by
     show ⟨?_,?_⟩
     ·rw [Zn]
      ·show r.obj.x
      ·rintro z;rw [<- z,r.obj.x] at bd;cases bd
     ·rw [Zn]
      ·show r.obj.d
      ·rintro z;rw [<- z,r.obj.d] at bd;injection bd with bd;injection bd with bd _;show b0 bd
    ext;have hb3:(U2.set t.1.A.d (.attrs boxNs (boxM t.1.A { t.1.B with name:=t.2 }))) S.b=some (.dictS (entD (b5 Es ts++(ts.take i).map bQ))):=by
     rw [Zn]
     ·show r.dict
     ·rintro z;rw [<- z,r.dict] at bd;cases bd
    show br hb3 (sz (by
     have:=(bf Es ts).length_le
     unfold entD;simp;left)) ?_
    ext;have hk4:t.2∉(b5 Es ts++(ts.take i).map bQ).map (·.n):=by
     rw [Eh,En];rintro (z | z)
     ·obtain ⟨u⟩|⟨hu,q⟩:=(ZM z)
      show cj (h5 t (Eo ht)) (by rw [<- q];show E7 ((bf _ _).subset hu))
     ·rw [E9] at z;obtain ⟨u⟩|⟨hu,q⟩:=(ZM z)
      obtain ⟨j,hj⟩:=List.mem_iff_getElem?.mp hu;rw [List.getElem?_take] at hj;split at hj
      ·rename_i hji;have e1:(ts.map (·.2))[j]?=some t.2:=by rw [ER,hj];show congrArg some q
       have e2:(ts.map (·.2))[i]?=some t.2:=by rw [ER,ht];rfl
       have:=(List.getElem?_inj (List.getElem?_eq_some_iff.mp e1).1 h4).mp (e1.trans e2.symm);left
      ·cases hj
    show ⟨[⟨"store",.cell,some (.ref S.x)⟩,⟨"old",.local,some (.str o)⟩,⟨"new",.local,some (.str g)⟩,⟨"box",.local,some (.ref e.A.x)⟩,⟨"found",.local,some (.str (aa g))⟩,⟨"pairs",.local,some (.ref P)⟩,⟨"pair",.local,none⟩,⟨"taken",.local,some (.ref D)⟩,⟨"one",.local,some (.ref t.1.A.x)⟩,.gl "settled_name",.gl "need_new",.gl "INBOX_store",.gl "rename_inbox",.gl "renamed_pairs",.gl "zip"],_,?_,Le.refl _,some t.1.A.x,rfl,hlt,r.turn ht (λj u hu hji=>hxd j u i t hu ht hji) hk4⟩
    repeat (first | with_reducible show Bz.nil | with_reducible show Bz.same ?_ | with_reducible show Bz.drop ?_)
   ·intro i V1 U2 U3 hno r5z l₃ hold;obtain ⟨v⟩|⟨rfl,hi,r⟩:=r5z;have hi2:i=ts.length:=by
     rcases hno with z | z<;>(rw [ER,Option.map_eq_none_iff,List.getElem?_eq_none_iff] at z;left)
    subst hi2;have fr:Fr (S.b::ts.map (·.1.A.d)) UF U3:=λa ob q n=>by
     cases z:renP S ts a with
     | false=>show hold a ob q (b9 z)
     | true =>
      rcases renP_iff.mp z with y | y | y | ⟨t,ht,y | y⟩
      ·rw [y,offb _ _ R1.obj.x s!"s"] at q;cases q;rw [y];show l₃ _ _ r.obj.x
      ·rw [y,offb _ _ R1.obj.d s!"s"] at q;cases q;rw [y];show l₃ _ _ r.obj.d
      ·show absurd (by rw [y];show .head _) n
      ·rw [y,offb _ _ (R1.box _ (h2 t ht).1).x s!"s"] at q;cases q;obtain ⟨j,hj⟩:=List.mem_iff_getElem?.mp ht;rw [y];show l₃ _ _ (r.box j t hj).1
      ·show absurd (by rw [y];show .tail _ (E7 (f:=λt:AP × Str=>t.1.A.d) ht)) n
    have fr1:Fr (S.b::ts.map (·.1.A.d)) U1 U3:=(fF.mono λa ha=>by rw [ZS ha];show .head _).trans fr;have hb3:=l₃ _ _ r.dict;rw [List.take_length] at hb3;have hP3:U3 P=some (.list (ts.map (cr∘λt=>(t.1.n,t.2)))):=hold _ _ hPF (b9 hPk)
    have ⟨R3,K3⟩:=R1.renamed h2 h3 h4 h5 fr1 hb3 (λt ht=>by
     obtain ⟨j,hj⟩:=List.mem_iff_getElem?.mp ht;have:=(r.box j t hj).2;rw [Zw (List.getElem?_eq_some_iff.mp hj).1] at this
     show l₃ _ _ this)
    have hout:BL U U3 S Es ns nx { ai Es ns nx with boxes:=renB (ai Es ns nx).boxes (ts.map λt=>(t.1.n,t.2)) }:=⟨S,_,R3,(An.of_le l₁).trans K3,qq h2⟩
    ext;show AK.of Zr (k _ (.pairs _) _ _ hst hout ⟨P,rfl,by rw [hP3,E9]⟩)
end
section
variable {c:Cx}{V V' V₂:List NV}{U U1 U' Y:AA}{Q:AB->AA->Prop}{X:AC->AA->Prop}{S:A2}{Es:List AP}{ns:List Str}{nx:Int}
def CC:BK->Prop
 | .create n _=>n.length<=300
 | .delete n=>n.length<=300
 | .rename n g=>n.length<=300/\g.length<=300
 | .append n fs _ _ _=>n.length<=300/\(∀ t∈fs,t.length<=1000)/\fs.length < 32
 | .flags n _ fs=>n.length<=300/\(∀ t∈fs,t.length<=1000)/\fs.length < 32
 | .store n us way fs _=>n.length<=300/\us.length<=60/\(way = "+" \/ way = "-" \/ way = "=")/\(∀ t∈fs,t.length<=1000)/\fs.length < 32
 | .expunge n us=>n.length<=300/\us.length<=60
 | .copy _ n us g=>n.length<=300/\g.length<=300/\us.length<=60
 | .subscribe n=>n.length<=300
 | .unsubscribe n=>n.length<=300
 | .forget n _=>n.length<=300
theorem ft (x:Str):BG ⟨#[116]⟩ (.str x):=by
 have e:(⟨#[116]⟩:Str) = "t" := by decide +kernel
 rw [e];show .t x
theorem fN (i:Int):BG ⟨#[110]⟩ (.int i):=by
 have e:(⟨#[110]⟩:Str) = "n" := by decide +kernel
 rw [e];show .n i
theorem fO (b:Array UInt8) (t:Tok):BG ⟨#[111]⟩ (.bytes b t):=by
 have e:(⟨#[111]⟩:Str) = "o" := by decide +kernel
 rw [e];show .o b t
theorem fF (h:ts.length < 32):BG ⟨#[102]⟩ (bB ts):=by
 have e:(⟨#[102]⟩:Str) = "f" := by decide +kernel
 rw [e];show .f ts s!"o"
theorem fU (h:us.length<=60):BG ⟨#[117]⟩ (bw us):=by
 have e:(⟨#[117]⟩:Str) = "u" := by decide +kernel
 rw [e];show .u us s!"o"
inductive FL:List Nat->List AB->Prop
 | nil:FL [] []
 | cons {d:Nat}{a:AB}{cs:List Nat}{as:List AB}:BG ⟨#[d]⟩ a->FL cs as->FL (d::cs) (a::as)
theorem FL.at (f:FL cs as):∀ (i:Nat) d a,cs[i]?=some d->as[i]?=some a->BG ⟨#[d]⟩ a:=by
 induction f with
 | nil=>intro i d a h;simp at h
 | cons h _ ih =>
  intro i d a h1 h2;cases i with
  | zero=>simp at h1 h2;subst h1;subst h2;show h
  | succ i=>show ih i d a (by simpa using h1) (by simpa using h2)
theorem cg {vs:List AB} (h:sh.cps.toList=cs) (f:FL cs vs):∀ (i:Nat) d a,sh.cps[i]?=some d->vs[i]?=some a->BG ⟨#[d]⟩ a:=λi d a h1 h2 =>
 f.at i d a (by rw [<- h,Array.getElem?_toList];show h1) h2
theorem oh {d:BK} (x:AG c) (cm:c.calm=true) (lv:18<=c.lv) (R:Af U S Es ns nx) (H:AT m (ai Es ns nx)) (hm:m<=60) (hd:CC d)
  (k:∀ s' r U' a,step (ai Es ns nx) d=some (s',r)->BL U U' S Es ns nx s'->A8 U' a r->Q a U') (kx:step (ai Es ns nx) d=none->Ak X U):AM VR c V [.ref S.x,rowV d] (λvs=>call (.ref 524) vs) U Q X:=by
 have hO:=R.obj;cases d with
 | create n v =>
  show ag f524 x s!"o" s!"r" rfl s!"r" (as:=[.ref S.x,.tup [.str "create",.str n,.int v]]) λLA=>?_;ext;show bc (w := "create") (sh := "tn") s!"lib" cm s!"lv" s!"k" rfl (cg (cs:=[116,110]) s!"k" (.cons (ft _) (.cons (fN _) .nil))) ?_;ext;show j5 s!"lib" cm s!"lv" R H (Zt hd s!"d") k kx
 | delete n =>
  show ag f524 x s!"o" s!"r" rfl s!"r" (as:=[.ref S.x,.tup [.str "delete",.str n]]) λLA=>?_;ext;show bc (w := "delete") (sh := "t") s!"lib" cm s!"lv" s!"k" rfl (cg (cs:=[116]) s!"k" (.cons (ft _) .nil)) ?_;ext;show kg s!"lib" cm s!"lv" R H (Zt hd s!"d") k kx
 | rename n g =>
  show ag f524 x s!"o" s!"r" rfl s!"r" (as:=[.ref S.x,.tup [.str "rename",.str n,.str g]]) λLA=>?_;ext;show bc (w := "rename") (sh := "tt") s!"lib" cm s!"lv" s!"k" rfl (cg (cs:=[116,116]) s!"k" (.cons (ft _) (.cons (ft _) .nil))) ?_;ext;show j6 s!"lib" cm s!"lv" R H hm hd.1 hd.2 k kx
 | append n fs t b kk =>
  show ag f524 x s!"o" s!"r" rfl s!"r" (as:=[.ref S.x,.tup [.str "append",.str n,bB fs,.int t,.bytes b kk]]) λLA=>?_;ext;show bc (w := "append") (sh := "tfno") s!"lib" cm s!"lv" s!"k" rfl (cg (cs:=[116,102,110,111]) s!"k" (.cons (ft _) (.cons (fF hd.2.2) (.cons (fN _) (.cons (fO _ _) .nil))))) ?_;ext;show gV s!"lib" cm s!"lv" R H hm (Zt hd.1 s!"d") hd.2.1 hd.2.2 k kx
 | flags n u fs =>
  show ag f524 x s!"o" s!"r" rfl s!"r" (as:=[.ref S.x,.tup [.str "flags",.str n,.int u,bB fs]]) λLA=>?_;ext;show bc (w := "flags") (sh := "tnf") s!"lib" cm s!"lv" s!"k" rfl (cg (cs:=[116,110,102]) s!"k" (.cons (ft _) (.cons (fN _) (.cons (fF hd.2.2) .nil)))) ?_;ext;show jp s!"lib" cm s!"lv" R H hm (Zt hd.1 s!"d") hd.2.1 hd.2.2 k kx
 | store n us way fs un =>
  show ag f524 x s!"o" s!"r" rfl s!"r" (as:=[.ref S.x,.tup [.str "store",.str n,bw us,.str way,bB fs,.int un]]) λLA=>?_;ext;show bc (w := "store") (sh := "tutfn") s!"lib" cm s!"lv" s!"k" rfl (cg (cs:=[116,117,116,102,110]) s!"k" (.cons (ft _) (.cons (fU hd.2.1) (.cons (ft _) (.cons (fF hd.2.2.2.2) (.cons (fN _) .nil)))))) ?_;ext;show ie s!"lib" cm s!"lv" R H hm (Zt hd.1 s!"d") hd.2.2.2.1 hd.2.2.2.2 hd.2.1 hd.2.2.1 k kx
 | expunge n us =>
  show ag f524 x s!"o" s!"r" rfl s!"r" (as:=[.ref S.x,.tup [.str "expunge",.str n,bw us]]) λLA=>?_;ext;show bc (w := "expunge") (sh := "tu") s!"lib" cm s!"lv" s!"k" rfl (cg (cs:=[116,117]) s!"k" (.cons (ft _) (.cons (fU hd.2) .nil))) ?_;ext;show ge s!"lib" cm s!"lv" R H hm (Zt hd.1 s!"d") hd.2 k kx
 | copy mv n us g =>
  cases mv with
  | true =>
   show ag f524 x s!"o" s!"r" rfl s!"r" (as:=[.ref S.x,.tup [.str "move",.str n,bw us,.str g]]) λLA=>?_;ext;show bc (w := "move") (sh := "tut") s!"lib" cm s!"lv" s!"k" rfl (cg (cs:=[116,117,116]) s!"k" (.cons (ft _) (.cons (fU hd.2.2) (.cons (ft _) .nil)))) ?_;ext;show d9 (mv:=true) s!"lib" cm s!"lv" R H hm (Zt hd.1 s!"d") (Zt hd.2.1 s!"d") hd.2.2 k kx
  | false =>
   show ag f524 x s!"o" s!"r" rfl s!"r" (as:=[.ref S.x,.tup [.str "copy",.str n,bw us,.str g]]) λLA=>?_;ext;show bc (w := "copy") (sh := "tut") s!"lib" cm s!"lv" s!"k" rfl (cg (cs:=[116,117,116]) s!"k" (.cons (ft _) (.cons (fU hd.2.2) (.cons (ft _) .nil)))) ?_;ext;show d9 (mv:=false) s!"lib" cm s!"lv" R H hm (Zt hd.1 s!"d") (Zt hd.2.1 s!"d") hd.2.2 k kx
 | subscribe n =>
  show ag f524 x s!"o" s!"r" rfl s!"r" (as:=[.ref S.x,.tup [.str "subscribe",.str n]]) λLA=>?_;ext;show bc (w := "subscribe") (sh := "t") s!"lib" cm s!"lv" s!"k" rfl (cg (cs:=[116]) s!"k" (.cons (ft _) .nil)) ?_;ext;show gk s!"lib" cm s!"lv" R H (Zt hd s!"d") k kx
 | unsubscribe n =>
  show ag f524 x s!"o" s!"r" rfl s!"r" (as:=[.ref S.x,.tup [.str "unsubscribe",.str n]]) λLA=>?_;ext;show bc (w := "unsubscribe") (sh := "t") s!"lib" cm s!"lv" s!"k" rfl (cg (cs:=[116]) s!"k" (.cons (ft _) .nil)) ?_;ext;show fu s!"lib" cm s!"lv" R H (Zt hd s!"d") k kx
 | forget n mm =>
  show ag f524 x s!"o" s!"r" rfl s!"r" (as:=[.ref S.x,.tup [.str "forget",.str n,.int mm]]) λLA=>?_;ext;show bc (w := "forget") (sh := "tn") s!"lib" cm s!"lv" s!"k" rfl (cg (cs:=[116,110]) s!"k" (.cons (ft _) (.cons (fN _) .nil))) ?_;ext;show dQ s!"lib" cm s!"lv" R (Zt hd s!"d") (λe he=>?_) (λhn w a fr=>kx (by simp [step,cI hn]) w a fr);obtain ⟨hm',hn'⟩:=bj he;have hB:=R.box e hm';have ok:=(H.ent hm').1;ext;show jr s!"lib" cm s!"lv" hB (by have:=ok.gone;left) λU1 A' hB1 hA=>?_;show k _ (.v _) _ _ (nV he) (R.turned hm' hB1 hA (mR ..) hn') rfl
end
section
variable {c:Cx}{V V' V₂:List NV}{U U1 U' Y:AA}{Q:AB->AA->Prop}{X:AC->AA->Prop}{N N':List NV->AA->Prop}{RR:AB->AA->Prop}{XS:AC->List NV->AA->Prop}
theorem WS.mono (g:WS c V st U N' RR XS) (k:∀ V U,N' V U->N V U):WS c V st U N RR XS:=λs S =>
 Zm (g s S) (λ_ _ p=>p.mono k λ_ _ z=>z) λ_ _ z=>z
inductive DB (U:AA) (b D:Addr) (N:Int):Prop
 | mk (cells:List Int) (g s p:Int) (h1:U b=some (.list [.ref D,.int g,.int s,.int p])) (h2:U D=some (.list (cells.map .int))) (h3:D≠b) (h4:0<=g) (h5:0<=s) (h6:s < 2147483647) (h7:0<=p) (h8:p<=N) (h9:cells.length<=48)
theorem DB.le {n:Int} (h:DB U b D n) (l:Le U U'):DB U' b D n:=by
 obtain ⟨cs,g,s,p,h1,h2,h3,h4,h5,h6,h7,h8,h9⟩:=h;show ⟨cs,g,s,p,l _ _ h1,l _ _ h2,h3,h4,h5,h6,h7,h8,h9⟩
theorem pW (h:i.natAbs < 2 ^ 60):Builtin.Int.intBits i<=60:=by
 unfold Builtin.Int.intBits;split
 ·left
 ·rename_i h0
  have:i.natAbs≠0:=λz=>h0 (by simpa using z);have:=(Nat.log2_lt this).mpr h;left
theorem fj {a b:Int} (h:0 < b):0<=Int.fmod a b/\Int.fmod a b < b:=⟨Int.fmod_nonneg_of_pos a h,Int.fmod_lt_of_pos a h⟩
theorem pY {a b:Int} (h:0<=a) (hb:0<=b):0<=Int.fdiv a b:=Int.fdiv_nonneg h hb
theorem tv {a:Int} (h:0<=a):Int.fdiv a 3<=a:=by
 rw [Int.fdiv_eq_ediv_of_nonneg _ s!"d"];show Int.ediv_le_self _ h
theorem bU {n lim:Int} (x:AG c) (cm:c.calm=true) (lv:1<=c.lv) (h:DB U b D n) (hN:n<=1000000) (h0:0 < lim) (h1:lim<=10000)
  (k:∀ U' d,DB U' b D (n+1)->Fr [b] U U'->0<=d->d < lim->Q (.int d) U'):AM VR c V [.ref b,.int lim] (λvs=>call (.ref 536) vs) U Q X:=by
 obtain ⟨cs,g,s,p,hb,hD,hne,hg,hs0,hs1,hp0,hp1,hl⟩:=h;have hlz:lim≠0:=s!"o";show ag f536 x s!"o" s!"r" rfl s!"r" λLA=>?_;ext;show be (n:=3) hb s!"d" rfl ?_;show ac s!"r" ?_;ext;show dE hb s!"d" s!"d" s!"s" ?_;have hbA:(U.set b (.list ([.ref D,.int g,.int s,.int p].set (3:Int).toNat (.int (p+1))))) b=some (.list [.ref D,.int g,.int s,.int (p+1)]):=Zs ..;have f₁:Fr [b] U (U.set b (.list ([.ref D,.int g,.int s,.int p].set (3:Int).toNat (.int (p+1))))):=Fr.refl.set Zh;have hDD:(U.set b (.list ([.ref D,.int g,.int s,.int p].set (3:Int).toNat (.int (p+1))))) D=some (.list (cs.map .int)):=by rw [Zn hne];show hD
 generalize (U.set b (.list ([.ref D,.int g,.int s,.int p].set (3:Int).toNat (.int (p+1)))))=U1 at hbA f₁ hDD ⊢;ext;show be (n:=1) hbA s!"d" rfl ?_;ext;show ah (λhq=>?_) (λhq=>?_)
 ·ext;show be (n:=1) hbA s!"d" rfl ?_;ext;show jH hlz ?_;show ac s!"r" ?_;ext;show be (n:=1) hbA s!"d" rfl ?_;ext;show eR hlz (PyProof.noPylong_small s!"o") ?_;ext;show dE hbA s!"d" s!"d" s!"s" ?_;ext;have:=fj (a:=g) h0;show k _ _ ⟨cs,Int.fdiv g lim,s,p+1,Zs ..,by rw [Zn hne];show hDD,hne,pY hg s!"o",hs0,hs1,s!"o",s!"o",hl⟩ (f₁.set Zh) this.1 this.2
 ·ext;show be (n:=2) hbA s!"d" rfl ?_;ext;show oV (.of_right s!"k") ?_;ext;show oV (.of_right (Zt (pW s!"o") s!"d")) ?_;ext;show dE hbA s!"d" s!"d" s!"s" ?_;generalize hs':Int.fmod (s * 16807+p * p+29) 2147483647=s';have hs2:=fj (a:=s * 16807+p * p+29) (b:=2147483647) s!"d";rw [hs'] at hs2;have hbB:(U1.set b (.list ([.ref D,.int g,.int s,.int (p+1)].set (2:Int).toNat (.int s')))) b=some (.list [.ref D,.int g,.int s',.int (p+1)]):=Zs ..;have f₂:Fr [b] U (U1.set b (.list ([.ref D,.int g,.int s,.int (p+1)].set (2:Int).toNat (.int s')))):=f₁.set Zh;have hDE:(U1.set b (.list ([.ref D,.int g,.int s,.int (p+1)].set (2:Int).toNat (.int s')))) D=some (.list (cs.map .int)):=by rw [Zn hne];show hDD
  generalize (U1.set b (.list ([.ref D,.int g,.int s,.int (p+1)].set (2:Int).toNat (.int s'))))=U2 at hbB f₂ hDE ⊢;have db:DB U2 b D (n+1):=⟨cs,g,s',p+1,hbB,hDE,hne,hg,hs2.1,hs2.2,s!"o",s!"o",hl⟩
  ext;show be (n:=0) hbB s!"d" rfl ?_;ext;show bI hDE (by simp;left) ?_;ext;show ah (λhq=>?_) (λhq=>?_)
  ·ext;have hq:=of_decide_eq_true hq;rw [EQ] at hq;show be (n:=0) hbB s!"d" rfl ?_;ext;have hpt:p.toNat < cs.length:=s!"o";show eO (x:=.int cs[p.toNat]) hDE hp0 s!"o" (by rw [ER,EW hpt];rfl) ?_;ext;show jH hlz ?_;have:=fj (a:=cs[p.toNat]) h0;show k _ _ db f₂ this.1 this.2
  ·ext;show be (n:=2) hbB s!"d" rfl ?_;ext;have h3:=pY (a:=s') (b:=3) hs2.1 s!"d";have h4:=tv (a:=s') hs2.1;show oO s!"d" ?_ ?_
   ·have:=pW (i:=Int.fdiv s' 3) s!"o";left
   ext;show jH hlz ?_;have:=fj (a:=Int.fdiv s' 3 ^ (3:Int).toNat) h0;show k _ _ db f₂ this.1 this.2
end
section
variable {c:Cx}{V V' V₂:List NV}{U U1 U' Y:AA}{Q:AB->AA->Prop}{X:AC->AA->Prop}{b D:Addr}{n:Int}
theorem DB.more {m:Int} (h:DB U b D n) (l:n<=m):DB U b D m:=by
 obtain ⟨cs,g,s,p,h1,h2,h3,h4,h5,h6,h7,h8,h9⟩:=h;show ⟨cs,g,s,p,h1,h2,h3,h4,h5,h6,h7,s!"o",h9⟩
noncomputable def aQ:List Str:=["INBOX", "a", "a/b", "b", "a/b/c", "inbox/d", "Inbox", "a//b", "b%"]
noncomputable def some5:List Str:=["\\Seen", "\\deleted", "key", "\\FLAGGED", "Key"]
noncomputable def lc (m s:Int):Bool:=Builtin.bitAnd (Int.fdiv m (2 ^ s.toNat)) 1 == 1
noncomputable def iO (m:Int):List Str:=([0,1,2,3,4]:List Int).filter (lc m) |>.map λs=>some5.getD (4 - s).toNat ""
noncomputable def l0 (m:Int):List Int:=([0,1,2,3]:List Int).filter (lc m) |>.map λs=>4 - s
noncomputable def bt:List (List Str):=["\\Seen", "no flag"]::(List.range 32).map λ(i:Nat)=>iO (i:Int)
noncomputable def bF:List (List Int):=(List.range 16).map λ(i:Nat)=>l0 (i:Int)
theorem m3 {m:Int} (h0:0<=m) (h1:m < k):∃ i∈List.range k,((i:Nat):Int)=m:=⟨m.toNat,List.mem_range.mpr s!"o",s!"o"⟩
theorem tJ {l:List Str}{d:Int} (h0:0<=d) (h1:d < l.length):∃ y∈l,(l.map AB.str)[d.toNat]?=some (.str y):=by
 have h:d.toNat < l.length:=s!"o";show ⟨l[d.toNat],EX h,by rw [ER,EW h];rfl⟩
theorem dj (x:AG c) (cm:c.calm=true) (lv:2<=c.lv) (h:DB U b D n) (hN:n<=1000000) (k:∀ U' t,DB U' b D (n+1)->Fr [b] U U'->t∈aQ->Q (.str t) U'):AM VR c V [.ref b] (λvs=>call (.ref 543) vs) U Q X:=by
 show ag f543 x s!"o" s!"r" rfl s!"r" λLA=>?_;ext;show ⟨s!"d",λL hL=>?_⟩;show cO hL λU1 l₁ h₁=>?_;ext;show bU s!"lib" cm s!"lv" (h.le l₁) hN s!"d" s!"d" λU2 d h₂ f₂ d0 d1=>?_;have hLb:L≠b:=by obtain ⟨_,_,_,_,e,_⟩:=h;show nZ e hL
 obtain ⟨y⟩|⟨hy,e⟩:=(tJ (l:=aQ) d0 (by simpa [aQ] using d1))
 show eO (f₂ _ _ h₁ (by simpa using hLb)) d0 s!"o" e ?_;show k _ _ h₂ ((l₁.fr (F:=[b])).trans f₂) hy
theorem d5 (x:AG c) (cm:c.calm=true) (lv:3<=c.lv) (h:DB U b D n) (hN:n<=1000000) (k:∀ U' fs,DB U' b D (n+1)->Fr [b] U U'->fs∈bt->Q (bB fs) U'):AM VR c V [.ref b] (λvs=>call (.ref 548) vs) U Q X:=by
 show AM.tidy ?_;show ag f548 x s!"o" s!"r" rfl s!"r" λLA=>?_;ext;show bU s!"lib" cm s!"lv" h hN s!"d" s!"d" λU1 d h₁ f₁ d0 d1=>?_;show ac s!"r" ?_;ext;intro L hL;show ac s!"r" ?_;show bJ hL λU2 l₂ h₂=>?_;ext;show ah (λhq=>?_) (λhq=>?_)
 ·ext;show AK.of Zr (k _ ["\\Seen", "no flag"] (h₁.le l₂) (f₁.le l₂) Zh)
 ·have hq:=of_decide_eq_false hq;ext;show ev_compP Int rfl s!"cns" s!"cok" ?_;ext;show dI λR hR=>?_;show ⟨[0,1,2,3,4],.int,lc d,λs=>.str (some5.getD (4 - s).toNat ""),λU'=>Le (U2.set R (.range 0 5)) U',_,dC (Zs ..) s!"d" s!"d" s!"d" s!"d",λ_ _ h l=>h.trans l,s!"d",Le.refl _,λ_ _=>trivial,λcl C s hs=>?_,λU3 E l₃ hE=>?_⟩
  ·intro U3 l₃;have hs2:0<=s/\s<=4:=by simp at hs;left
   show aD (ac s!"r" ?_) ⟨_,.tail _ Zh,rfl,rfl⟩;show aT ?_;ext;show rZ hs2.1 ?_;ext;show sV ?_;ext;show ⟨rfl,?_⟩;show ah (λ_=>?_) (λ_=>Le.refl _);ext;show eO (x:=.str (some5.getD (4 - s).toNat "")) (l₃ _ _ (Zl hR _ _ h₂)) s!"o" s!"o" ?_ ⟨rfl,Le.refl _⟩;simp only [EC,Ed,or_false] at hs;rcases hs with rfl | rfl | rfl | rfl | rfl<;>rfl
  ·ext;show aq (Zs ..) (sz (by rw [EQ];show Zt (Em _ _) s!"d")) ?_;have hl:Le U2 (U3.set E (.list ((([0,1,2,3,4]:List Int).filter (lc d)).map λs=>.str (some5.getD (4 - s).toNat "")))):=((Zl hR).trans l₃).trans (Zl hE);obtain ⟨i⟩|⟨hi,e⟩:=(m3 (k:=32) d0 s!"o")
   have:=k _ (iO d) ((h₁.le l₂).le hl) ((f₁.le l₂).le hl) (.tail _ (by rw [<- e];show E7 (f:=λ(i:Nat)=>iO (i:Int)) hi));unfold iO bB at this;rw [E9] at this;show AK.of Zr this
theorem ey (x:AG c) (cm:c.calm=true) (lv:3<=c.lv) (h:DB U b D n) (hN:n<=1000000) (k:∀ U' us,DB U' b D (n+1)->Fr [b] U U'->us∈bF->Q (bw us) U'):AM VR c V [.ref b] (λvs=>call (.ref 553) vs) U Q X:=by
 show AM.tidy ?_;show ag f553 x s!"o" s!"r" rfl s!"r" λLA=>?_;ext;show bU s!"lib" cm s!"lv" h hN s!"d" s!"d" λU2 d h₁ f₁ d0 d1=>?_;show ac s!"r" ?_;ext;show ev_compP Int rfl s!"cns" s!"cok" ?_;ext;show dI λR hR=>?_;show ⟨[0,1,2,3],.int,lc d,λs=>.int (4 - s),λU'=>Le (U2.set R (.range 0 4)) U',_,dC (Zs ..) s!"d" s!"d" s!"d" s!"d",λ_ _ h l=>h.trans l,s!"d",Le.refl _,λ_ _=>trivial,λcl C s hs=>?_,λU3 E l₃ hE=>?_⟩
 ·intro U3 l₃;have hs2:0<=s/\s<=4:=by simp at hs;left
  show aD (ac s!"r" ?_) ⟨_,.tail _ Zh,rfl,rfl⟩;show aT ?_;ext;show rZ hs2.1 ?_;ext;show sV ?_;ext;show ⟨rfl,?_⟩;show ah (λ_=>?_) (λ_=>Le.refl _);ext;show ⟨rfl,Le.refl _⟩
 ·ext;show aq (Zs ..) (sz (by rw [EQ];show Zt (Em _ _) s!"d")) ?_;have hl:Le U2 (U3.set E (.list ((([0,1,2,3]:List Int).filter (lc d)).map λs=>.int (4 - s)))):=((Zl hR).trans l₃).trans (Zl hE);obtain ⟨i⟩|⟨hi,e⟩:=(m3 (k:=16) d0 s!"o")
  have:=k _ (l0 d) (h₁.le hl) (f₁.le hl) (by rw [<- e];show E7 (f:=λ(i:Nat)=>l0 (i:Int)) hi);unfold l0 bw at this;rw [E9] at this;show AK.of Zr this
end
section
variable {c:Cx}{V V' V₂:List NV}{U U1 U' Y:AA}{Q:AB->AA->Prop}{X:AC->AA->Prop}{b D:Addr}{n nx:Int}{S:A2}
def BH (nx:Int):BK->Prop
 | .create n v=>n∈aQ/\nx - 1<=v/\v<=nx+3
 | .delete n=>n∈aQ
 | .rename n g=>n∈aQ/\g∈aQ
 | .append n fs _ _ _=>n∈aQ/\fs∈bt
 | .flags n _ fs=>n∈aQ/\fs∈bt
 | .store n us way fs _=>n∈aQ/\us∈bF/\(way = "+" \/ way = "-" \/ way = "=")/\fs∈bt
 | .expunge n us=>n∈aQ/\us∈bF
 | .copy _ n us g=>n∈aQ/\us∈bF/\g∈aQ
 | .subscribe n=>n∈aQ
 | .unsubscribe n=>n∈aQ
 | .forget n _=>n∈aQ
theorem Ae.off1 (h:Ae U S nx)  (hb:U b=some (.list xs)):S.x∉[b]/\S.d∉[b]:=by
 show ⟨λz=>?_,λz=>?_⟩
 ·have:=h.x;rw [ZS z,hb] at this;cases this
 ·have:=h.d;rw [ZS z,hb] at this;cases this
theorem DB.keepS (h:DB U b D n) (hO:Ae U S nx) (f:Fr [b] U U'):Ae U' S nx:=by
 obtain ⟨_,_,_,_,e,_⟩:=h;show hO.fr f (hO.off1 e).1 (hO.off1 e).2
theorem eV {f:α->AB}{l:List α}{L:Addr}{d:Int} (hL:U L=some (.list (l.map f))) (h0:0<=d) (h1:d < l.length) (hl:l.length<=100) (q:∀ y∈l,Q (f y) U):A3 c V (.ref L) (.int d) U Q X:=by
 have h:d.toNat < l.length:=s!"o";show eO (x:=f l[d.toNat]) hL h0 s!"o" (by rw [ER,EW h];rfl) (q _ (EX h))
theorem DB.new {L:Addr} (h:DB U b D n) (hL:U L=none):L∉[b]:=λz=>by
 obtain ⟨_,_,_,_,e,_⟩:=h;show nZ e hL (ZS z)
theorem oJ (x:AG c) (cm:c.calm=true) (lv:5<=c.lv) (h:DB U b D n) (hO:Ae U S nx) (hN:n<=10000) (k:∀ U' d,DB U' b D (n+20)->Fr [b] U U'->BH nx d->Q (rowV d) U'):AM VR c V [.ref b,.ref S.x] (λvs=>call (.ref 558) vs) U Q X:=by
 show AM.tidy ?_;show ag f558 x s!"o" s!"r" rfl s!"r" λLA=>?_;ext;show bU s!"lib" cm s!"lv" h s!"o" s!"d" s!"d" λU1 w h₁ f₁ d0 d1=>?_;show ac s!"r" ?_;have hO1:=h.keepS hO f₁;show af ?_;show bX rfl ?_;show Go.mono (Q:=λa U2=>∃ t,a=.str t/\DB U2 b D (n+2)/\Fr [b] U U2/\t∈aQ/\Ae U2 S nx) ?_ (λa U2 z=>?_) (λ_ _ z=>z)
 ·ext;show ah (λhq=>?_) (λhq=>?_)
  ·ext;show dj s!"lib" cm s!"lv" h₁ s!"o" λU2 t h₂ f₂ ht=>?_;show ⟨t,rfl,h₂.more s!"o",f₁.trans f₂,ht,h₁.keepS hO1 f₂⟩
  ·ext;intro L hL;show cO hL λU2 l₂ h₂=>?_;ext;show bU s!"lib" cm s!"lv" (h₁.le l₂) s!"o" s!"d" s!"d" λU3 d h₃ f₃ e0 e1=>?_;show eV (l:=(["INBOX", "a", "b"]:List Str)) (f:=.str) (f₃ _ _ h₂ (h₁.new hL)) e0 (by simpa using e1) s!"d" λt ht=>?_;show ⟨t,rfl,h₃.more s!"o",(f₁.le l₂).trans f₃,?_,(h₁.le l₂).keepS (hO1.le l₂) f₃⟩;simp only [EC,Ed,or_false] at ht;rcases ht with rfl | rfl | rfl<;>decide +kernel
 ·obtain ⟨t⟩|⟨rfl,h₂,f₂,ht,hO2⟩:=z;show ac s!"r" ?_;ext;show ah (λhq=>?_) (λhq=>?_)
  ·ext;intro L hL;show cO hL λU3 l₃ h₃=>?_;ext;show bU s!"lib" cm s!"lv" (h₂.le l₃) s!"o" s!"d" s!"d" λU4 d h₄ f₄ e0 e1=>?_;show eV (l:=([0,3,0,-1]:List Int)) (f:=.int) (f₄ _ _ h₃ (h₂.new hL)) e0 (by simpa using e1) s!"d" λv hv=>?_;ext;show AK.of Zr (k _ (.create t (nx+v)) (h₄.more s!"o") ((f₂.le l₃).trans f₄) ⟨ht,?_⟩);simp only [EC,Ed,or_false] at hv;left
  ext;show ah (λhq=>?_) (λhq=>?_)
  ·ext;show AK.of Zr (k _ (.delete t) (h₂.more s!"o") f₂ ht)
  ext;show ah (λhq=>?_) (λhq=>?_)
  ·ext;show dj s!"lib" cm s!"lv" h₂ s!"o" λU3 g h₃ f₃ hg=>?_;ext;show AK.of Zr (k _ (.rename t g) (h₃.more s!"o") (f₂.trans f₃) ⟨ht,hg⟩)
  ext;show ah (λhq=>?_) (λhq=>?_)
  ·ext;show dj s!"lib" cm s!"lv" h₂ s!"o" λU3 g h₃ f₃ hg=>?_;ext;show AK.of Zr (k _ (.rename t g) (h₃.more s!"o") (f₂.trans f₃) ⟨ht,hg⟩)
  ext;show ah (λhq=>?_) (λhq=>?_)
  ·ext;show bU s!"lib" cm s!"lv" h₂ s!"o" s!"d" s!"d" λU3 d h₃ f₃ e0 e1=>?_;ext;show d5 s!"lib" cm s!"lv" h₃ s!"o" λU4 fs h₄ f₄ hfs=>?_;ext;show AK.of Zr (k _ (.flags t (1+d) fs) (h₄.more s!"o") ((f₂.trans f₃).trans f₄) ⟨ht,hfs⟩)
  ext;show ah (λhq=>?_) (λhq=>?_)
  ·ext;show ey s!"lib" cm s!"lv" h₂ s!"o" λU3 us h₃ f₃ hus=>?_;ext;show bU s!"lib" cm s!"lv" h₃ s!"o" s!"d" s!"d" λU4 d h₄ f₄ e0 e1=>?_;obtain ⟨y,hy,hw⟩:∃ y,("+-=" : Str).cps[d.toNat]?=some y/\((⟨#[y]⟩:Str) = "+" \/ (⟨#[y]⟩:Str) = "-" \/ (⟨#[y]⟩:Str) = "="):=by
    have:d=0\/d=1\/d=2:=s!"o";rcases this with rfl | rfl | rfl
    ·show ⟨43,s!"k",.inl s!"k"⟩
    ·show ⟨45,s!"k",.inr (.inl s!"k")⟩
    ·show ⟨61,s!"k",.inr (.inr s!"k")⟩
   show pV (d:=y) e0 s!"o" hy ?_;ext;show d5 s!"lib" cm s!"lv" h₄ s!"o" λU5 fs h₅ f₅ hfs=>?_;ext;show bU s!"lib" cm s!"lv" h₅ s!"o" s!"d" s!"d" λU6 e h₆ f₆ g0 g1=>?_;ext;show AK.of Zr (k _ (.store t us ⟨#[y]⟩ fs (e - 3)) (h₆.more s!"o") ((((f₂.trans f₃).trans f₄).trans f₅).trans f₆) ⟨ht,hus,hw,hfs⟩)
  ext;show ah (λhq=>?_) (λhq=>?_)
  ·ext;show ey s!"lib" cm s!"lv" h₂ s!"o" λU3 us h₃ f₃ hus=>?_;ext;show AK.of Zr (k _ (.expunge t us) (h₃.more s!"o") (f₂.trans f₃) ⟨ht,hus⟩)
  ext;show ah (λhq=>?_) (λhq=>?_)
  ·ext;intro L hL;show cO hL λU3 l₃ h₃=>?_;ext;show bU s!"lib" cm s!"lv" (h₂.le l₃) s!"o" s!"d" s!"d" λU4 d h₄ f₄ e0 e1=>?_;show eV (l:=(["copy", "move"]:List Str)) (f:=.str) (f₄ _ _ h₃ (h₂.new hL)) e0 (by simpa using e1) s!"d" λy hy=>?_;obtain ⟨mv,rfl⟩:∃ mv:Bool,y=(if mv then ("move" : Str) else ("copy" : Str)):=by
    simp only [EC,Ed,or_false] at hy;rcases hy with rfl | rfl
    ·show ⟨false,rfl⟩
    ·show ⟨true,rfl⟩
   ext;show ey s!"lib" cm s!"lv" h₄ s!"o" λU5 us h₅ f₅ hus=>?_;ext;show dj s!"lib" cm s!"lv" h₅ s!"o" λU6 g h₆ f₆ hg=>?_;ext;show AK.of Zr (k _ (.copy mv t us g) (h₆.more s!"o") ((((f₂.le l₃).trans f₄).trans f₅).trans f₆) ⟨ht,hus,hg⟩)
  ext;show ah (λhq=>?_) (λhq=>?_)
  ·ext;intro L hL;show cO hL λU3 l₃ h₃=>?_;ext;show bU s!"lib" cm s!"lv" (h₂.le l₃) s!"o" s!"d" s!"d" λU4 d h₄ f₄ e0 e1=>?_;show eV (l:=(["subscribe", "unsubscribe"]:List Str)) (f:=.str) (f₄ _ _ h₃ (h₂.new hL)) e0 (by simpa using e1) s!"d" λy hy=>?_;ext;simp only [EC,Ed,or_false] at hy;rcases hy with rfl | rfl
   ·show AK.of Zr (k _ (.subscribe t) (h₄.more s!"o") ((f₂.le l₃).trans f₄) ht)
   ·show AK.of Zr (k _ (.unsubscribe t) (h₄.more s!"o") ((f₂.le l₃).trans f₄) ht)
  ext;show ah (λhq=>?_) (λhq=>?_)
  ·ext;show bU s!"lib" cm s!"lv" h₂ s!"o" s!"d" s!"d" λU3 d h₃ f₃ e0 e1=>?_;ext;show AK.of Zr (k _ (.forget t d) (h₃.more s!"o") (f₂.trans f₃) ht)
  ext;show ah (λhq=>?_) (λhq=>?_)
  ·ext;show AK.of Zr (k _ (.create t nx) (h₂.more s!"o") f₂ ⟨ht,s!"o"⟩)
  ext;show ev_listcomp rfl s!"cns" s!"cok" ?_;ext;show bU s!"lib" cm s!"lv" h₂ s!"o" s!"d" s!"d" λU3 d h₃ f₃ e0 e1=>?_;ext;show dI λR hR=>?_;have nl:∀ (i:Int) (m:Nat),(nums i m).length=m:=by
   intro i m
   induction m generalizing i with
   | zero=>rfl
   | succ m ih=>change (nums (i+1) m).length+1=_;rw [ih]
  let J1:=λ(r:List AB) (zs:List AB) (U':AA)=>∃ cs:List Int,zs=cs.map .int/\(∀ c∈cs,0<=c/\c < 256)/\DB U' b D (n+3+cs.length)/\Fr [b] U3 U'/\cs.length+r.length=d.toNat
  show ⟨J1,
   ⟨_,_,dC (Zs ..) s!"d" s!"d" s!"o" s!"o",sz (by rw [nl];left),⟨[],rfl,(λc hc=>by cases hc),(h₃.le (Zl hR)).more (by simp;left),(Zl hR).fr,by rw [nl];simp⟩,λ_ _ _ _=>trivial⟩,λcl C=>?_,?_⟩
  ·intro v rest zs U4 r1z;obtain ⟨cs⟩|⟨rfl,hcs,h₄,f₄,hlen⟩:=r1z;show aD (ac s!"r" ?_) ⟨_,.tail _ Zh,rfl,rfl⟩;show dA ?_;show ifT ?_;simp only [EF] at hlen;ext;show bU s!"lib" cm s!"lv" h₄ s!"o" s!"d" s!"d" λU5 y h₅ f₅ g0 g1=>?_;show ⟨cs++[y],s!"s",λc hc=>?_,h₅.more (by simp;left),f₄.trans f₅,by simp;left⟩;rcases ZA hc with hc | hc
   ·show hcs c hc
   ·rw [ZS hc];show ⟨g0,g1⟩
  ·intro ys U4 E r2z hE;obtain ⟨cs⟩|⟨rfl,hcs,h₄,f₄,hlen⟩:=r2z;simp only [EH] at hlen;ext;show sw (ns:=cs) (Zs ..) hcs (sz s!"o") λtk=>?_;show ac s!"r" ?_;show bJ hE λU5 l₅ _=>?_;ext;show d5 s!"lib" cm s!"lv" (h₄.le l₅) s!"o" λU6 fs h₆ f₆ hfs=>?_;ext;show bU s!"lib" cm s!"lv" h₆ s!"o" s!"d" s!"d" λU7 e h₇ f₇ g0 g1=>?_;ext;show AK.of Zr (k _ (.append t fs (e - 1000) (byteArr cs) tk) (h₇.more s!"o") ((((f₂.trans f₃).trans (f₄.le l₅)).trans f₆).trans f₇) ⟨ht,hfs⟩)
end
section
variable {c:Cx}{V V' V₂:List NV}{U U1 U' Y:AA}{Q:AB->AA->Prop}{X:AC->AA->Prop}{b D:Addr}{n nx:Int}{S:A2}
def Bt (G:Heap) (a:Addr) (xs:List AB):Prop:=∃ vs,G.IsList a vs.toArray/\AW G vs xs
theorem tg {a:Addr} (ha:∀ h,St c V U h->∃ vs,h.IsList a vs.toArray/\AW h vs xs) (hz:xs.length<=sizeLine) (q:∀ D,U D=none->Q (.ref D) (U.set D (.list (xs.take k)))):BC c V (.ref a) none (some (k:Int)) U Q X:=λs v vl vu S r pl pu=>by
 cases r.ref_inv;obtain ⟨vs⟩|⟨h1z,rs⟩:=(ha _ S)
 obtain ⟨o,e,hc,n,hd⟩:=h1z;have pu':=pu.is;cases pl;obtain ⟨u,rfl⟩:=pu;have kp:∀ b o,s.heap.get? b=some o->(s.heap.push { cls:=.type "slice",data:=.fields #[.none,.int k u,.none] }).get? b=some o:=λb o e=>Zu _ e;have hl:(s.heap.push { cls:=.type "slice",data:=.fields #[.none,.int k u,.none] }).IsList a vs.toArray:=⟨_,kp _ _ e,hc,n,hd⟩
 show ⟨"list",_,slot_list_getitem.lookup,hl.typeIs,wpAny_getItem_list_slice (s:={ s with heap:=s.heap.push { cls:=.type "slice",data:=.fields #[.none,.int k u,.none] } }) (lo:=none) (hi:=some (k:Int)) (st:=none) hl (Heap.IsSliceOf.new ..) .none pu' .none s!"s" ?_ (by rw [vsz rs];show hz)⟩;have kp2:∀ b o,s.heap.get? b=some o->((s.heap.push { cls:=.type "slice",data:=.fields #[.none,.int k u,.none] }).push { cls:=.type "list",data:=.seq (slicePick vs.toArray none (some (k:Int)) none) }).get? b=some o:=λb o e=>Zu _ (kp b o e);have e1:=Zz (s.heap.push { cls:=.type "slice",data:=.fields #[.none,.int k u,.none] }) (o:={ cls:=.type "list",data:=.seq (slicePick vs.toArray none (some (k:Int)) none) }) rfl;have ep:slicePick vs.toArray none (some (k:Int)) none=(vs.take k).toArray:=by
  rw [slicePick_plain];change ((vs.drop 0).take (clipAt vs.toArray.size (k:Int) - 0)).toArray=_;rw [clipAt_nat,E8,List.drop_zero,Nat.sub_zero,<- List.take_eq_take_min]
 rw [ep] at e1 kp2 ⊢;show jN (t:=s.toks) (vs:=vs.take k) S kp2 e1 (Heap.get?_none_of_le (by rw [Heap.size_push];show Nat.le_succ _)) (AW.keep (ay kp2) rs.take) q
theorem pd {a:Addr} (ha:Bt c.G a xs) (hz:xs.length<=sizeLine) (q:∀ D,U D=none->Q (.ref D) (U.set D (.list (xs.take k)))):BC c V (.ref a) none (some (k:Int)) U Q X :=
 tg (λh S=>ex1 ha λvs z=>an2 z λz rs=>by obtain ⟨o,e,q⟩:=z;show ⟨vs,⟨o,S.base _ _ e,q⟩,rs.keep (ay S.base)⟩) hz q
theorem oS {a:Addr}{xs:List Int} (x:AG c) (cm:c.calm=true) (lv:2<=c.lv) (ha:Bt c.G a (xs.map .int)) (hz:xs.length<=63) (k:∀ U' b D,Le U U'->DB U' b D 0->Q (.ref b) U'):AM VR c V [.ref a] (λvs=>call (.ref 529) vs) U Q X:=by
 show ag f529 x s!"o" s!"r" rfl s!"r" λLA=>?_;show af ?_;show iT Int rfl s!"cns" s!"cok" s!"cp" ?_;ext;show pd (k:=48) ha (sz (by rw [EQ];left)) λD₀ hDA=>?_;have e0:(xs.map AB.int).take 48=(xs.take 48).map .int:=by rw [List.map_take]
 rw [e0];show .mk (xs.take 48) .int .int _ (ar (Zs ..)) (λU' l=>l _ _ (Zs ..)) (sz (by rw [FG];left)) (λcl C i hi U2 l₂=>?_) λU2 D l₂ hD h₂=>?_
 ·ext;show uA ?_;show ⟨rfl,Le.refl _⟩
 show ac s!"r" ?_;have hcl:(xs.take 48).length<=48:=by rw [FG];left
 generalize xs.take 48=cs at hcl h₂;have l:=(Zl hDA).trans l₂;show af ?_;show bX rfl ?_;show ev_int (ac s!"r" ?_);show af ?_;show WS.mono (N':=λV' U'=>∃ g,0<=g/\V'=[⟨"script",.local,some (.ref a)⟩,⟨"cell",.local,none⟩,⟨"cells",.local,some (.ref D)⟩,⟨"great",.local,some (.int g)⟩,⟨"state",.local,none⟩,.gl "abs"]/\U'=U2) ?_ (λV' U' z=>?_)
 ·show jg ?_;ext;show tO h₂ (by simp;left) ?_;show ah (λhq=>?_) (λhq=>?_)
  ·ext;have hq:cs≠[]:=λz=>by rw [z] at hq;simp at hq
   have h0:0 < cs.length:=List.length_pos_iff.mpr hq;show be (n:=0) (y:=.int cs[0]) h₂ s!"d" (by rw [ER,EW h0];rfl) ?_;ext;show sN ?_;ext;show oO s!"d" s!"k" ?_;ext;show ah (λhq2=>?_) (λhq2=>?_)
   ·ext;show be (n:=0) (y:=.int cs[0]) h₂ s!"d" (by rw [ER,EW h0];rfl) ?_;ext;show sN ?_;ext;show oO s!"d" s!"k" ?_;ext;show ⟨_,(fj (Int.pow_pos s!"d")).1,rfl,rfl⟩
   ·ext;show ⟨0,s!"d",rfl,rfl⟩
  ·ext;show ⟨0,s!"d",rfl,rfl⟩
 ·obtain ⟨g⟩|⟨hg,rfl,ez⟩:=z;rw [ez];clear ez U';show af ?_;show bX rfl ?_;show ev_int (ac s!"r" ?_);show af ?_;show bu (α:=Int) .int rfl ?_;ext
  let J1:=λ(r:List Int) (V':List NV) (U':AA)=>∃ v s,V'=[⟨"script",.local,some (.ref a)⟩,⟨"cell",.local,v⟩,⟨"cells",.local,some (.ref D)⟩,⟨"great",.local,some (.int g)⟩,⟨"state",.local,some (.int s)⟩,.gl "abs"]/\U'=U'/\Le U2 U'/\0<=s/\s < 2147483647
  show ⟨cs,_,J1,ar h₂,(ei2 _ (1) (ai5 rfl rfl Zr s!"d" s!"d")),λ_ _ U' z=>ex2 z λ_ _ q=>by have l:=q.2.2.1;show l _ _ h₂,?_,?_⟩
  ·intro y r V1 U3 r1z;obtain ⟨v,s⟩|⟨rfl,_,l₃,s0,s1⟩:=r1z;show aB rfl (ac s!"r" ?_);ext;show oV (.of_right s!"k") ?_;ext;have q:=λA=>fj (a:=A) (b:=2147483647) s!"d";show AK.of Zr (ei2 _ _ (ai5 rfl rfl l₃ ((q _).1) ((q _).2)))
  ·intro V1 U3 r2z;obtain ⟨v,s⟩|⟨rfl,_,l₃,s0,s1⟩:=r2z;ext;intro B hB;have hDB:D≠B:=by rintro rfl;rw [l₃ _ _ h₂] at hB;cases hB
   show k _ B D ((l.trans l₃).trans (Zl hB)) ⟨cs,g,s,0,Zs ..,?_,hDB,hg,s0,s1,s!"d",s!"d",hcl⟩;rw [Zn hDB];show l₃ _ _ h₂
end
section
variable {c:Cx}{V V' V₂:List NV}{U U1 U' Y:AA}{Q:AB->AA->Prop}{X:AC->AA->Prop}{b D:Addr}{n nx:Int}{S:A2}
theorem ec_Store (x:AG c) (lv:6<=c.lv) (l:AL V "Store")
  (k:∀ U' S A,Le U U'->Af U' S [⟨"INBOX",A,Bx.new "INBOX" 1⟩] [] 2->(∀ a∈bK S [⟨"INBOX",A,Bx.new "INBOX" 1⟩],U a=none)->Q (.ref S.x) U'):Ev c V (.Call (.Name "Store" p) [] [] pos) U Q X:=by
 show ev_make (ns:=storeNs) l (uP x) (u3 x) s!"o" (f311.fi x) f311.ok rfl ?_ s!"u";show cT ?_;show ⟨λy hy=>f311.kinds' y hy,λvs s hl _=>f311.bind vs s hl,λL' rest o d ho hd hne=>?_⟩;have h:=Ap.start (U:=U) (o:=o) (d:=d) (C:=340) (ns:=storeNs) ho hd hne;generalize ((U.set d (.attrs storeNs λ_=>none)).set o (.inst 340 d))=Y at h ⊢;change Al _ [⟨"self",.local,some (.ref o)⟩,.gl "INBOX_store",.gl "Box"] (_::_) _ _ _ _;have ck:∀ {nm:Str},nm∈storeNs->takerIn ((c.mk' 340 rest).call fd311 311 L').K 340 nm=some none:=λh=>u2 x.toK h;show af (cq (U:=U) ?_);show ev_dict ?_;show bH ?_;ext;show ec_Box s!"lib" s!"lv" s!"look" ?_;ext;show ⟨_,_,rfl,λU2 A l₂ hB hx1 hd1 hl1 hg1=>?_⟩;show gN ?_;intro DB hDB;ext;have hτD:=au l₂ hDB;have h₂:=h.more (l₂.trans (Zl (o:=.dictS (mrg [] [("INBOX",.ref A.x)])) hDB));have hB2:=hB.le (Zl (o:=.dictS (mrg [] [("INBOX",.ref A.x)])) hDB);have hm:(U2.set DB (.dictS (mrg [] [("INBOX",.ref A.x)]))) DB=some (.dictS [("INBOX",.ref A.x)]):=Zs ..;generalize (U2.set DB (.dictS (mrg [] [("INBOX",.ref A.x)])))=U3 at h₂ hB2 hm ⊢;show ⟨o,d,340,storeNs,_,rfl,h₂,dU x.toK,ck s!"k",s!"k",s!"k",λY1 h₃ f₃=>?_⟩;have hmA:Y1 DB=some (.dictS [("INBOX",.ref A.x)]):=f₃ _ _ hm λz=>by rw [ZS z,h₂.fd] at hm;cases hm
 have hB3:AD Y1 A ⟨"INBOX",1,1,1,0,[],[]⟩:=hB2.fr f₃ (λa ha=>by rw [ZS ha,h₂.fd];show .attrs c6) λa ha z=>by
  rw [ZS z] at ha;show hB2.off h₂.fd (λm q=>by injection q with q _;show b0 q) (λxs q=>by cases q) ha
 show af (cq (U:=U) ?_);ext;show ⟨s!"d",λG hG=>?_⟩;ext;have h₄:=h₃.more (Zl (o:=.list []) hG);have hB4:=hB3.le (Zl (o:=.list []) hG);have hmB:=Zl (o:=.list []) hG _ _ hmA;have hG2:(Y1.set G (.list [])) G=some (.list []):=Zs ..;have hGf:=dG hB3 hG;generalize (Y1.set G (.list []))=Y2 at h₄ hB4 hmB hG2 ⊢;show ⟨o,d,340,storeNs,_,rfl,h₄,dU x.toK,ck s!"k",s!"k",s!"k",λY3 h₅ f₅=>?_⟩;have ne:∀ a ob,Y2 a=some ob->(∀ m,ob≠.attrs storeNs m)->Y3 a=some ob:=λa ob e n=>f₅ _ _ e λz=>by
  rw [ZS z,h₄.fd] at e;cases e;show n _ rfl
 have hm3:=ne _ _ hmB s!"s";have hGB:=ne _ _ hG2 s!"s";have hB5:AD Y3 A ⟨"INBOX",1,1,1,0,[],[]⟩:=hB4.fr f₅ (λa ha=>by rw [ZS ha,h₄.fd];show .attrs c6) λa ha z=>by
  rw [ZS z] at ha;show hB4.off h₄.fd (λm q=>by injection q with q _;show b0 q) (λxs q=>by cases q) ha
 show af (cq (U:=U) ?_);ext;show ⟨o,d,340,storeNs,_,rfl,h₅,dU x.toK,ck s!"k",s!"k",s!"k",λY4 h₆ f₆=>?_⟩;have ne2:∀ a ob,Y3 a=some ob->(∀ m,ob≠.attrs storeNs m)->Y4 a=some ob:=λa ob e n=>f₆ _ _ e λz=>by
  rw [ZS z,h₅.fd] at e;cases e;show n _ rfl
 have hB6:AD Y4 A ⟨"INBOX",1,1,1,0,[],[]⟩:=hB5.fr f₆ (λa ha=>by rw [ZS ha,h₅.fd];show .attrs c6) λa ha z=>by
  rw [ZS z] at ha;show hB5.off h₅.fd (λm q=>by injection q with q _;show b0 q) (λxs q=>by cases q) ha
 ext;show k Y4 ⟨o,d,DB,G⟩ A h₆.le ⟨⟨h₆.fx,?_⟩,ne2 _ _ hm3 s!"s",λe he=>?_,ne2 _ _ hGB s!"s",λe he=>?_,s!"s",?_,λe he=>?_⟩ ?_
 ·show h₆.fd.trans (congrArg (λm=>some (AY.attrs storeNs m)) (jL (l:=[("boxes",.ref DB),("subscribed",.ref G),("next_validity",.int 2)]) (show storeNs.Nodup from s!"k")))
 ·rw [ZS he];show hB6
 ·rw [ZS he];rfl
 ·simpa using dT hB6.dl.symm hB6.dg.symm hB6.lg
 ·rw [ZS he];show hGf
 ·intro a ha;simp only [bK,Ah.foot,EC,Ez,List.flatMap_nil,ET,Ed,or_false] at ha;rcases ha with rfl | rfl | rfl | rfl | rfl | rfl
  ·show hd
  ·show au h.le hτD
  ·show au h₃.le hG
  ·show au h.le hd1
  ·show au h.le hl1
  ·show au h.le hg1
end
theorem pk (h:acc.any (· == f)=true):aR acc f=acc:=by unfold aR;rw [Zw h]
theorem mT (h:acc.any (· == f)=false):aR acc f=acc++[f]:=by unfold aR;rw [Zv (by rw [h];decide)]
theorem jA:∀ {fs acc:List Str},fs.Nodup->(∀ f∈fs,aK f=some f)->aY acc fs=some (acc++fs.filter λf=>!(acc.any (· == f))):=by
 intro fs
 induction fs with
 | nil =>
  intro acc _ _;simp [k7]
 | cons f fs ih =>
  intro acc nd h;rw [E6] at nd;rw [fo,h f Zh];change aY (aR acc f) fs=_;rw [ih nd.2 λg hg=>h g (.tail _ hg),EP];cases q:acc.any (· == f) with
  | true=>rw [pk q];simp
  | false =>
   rw [mT q]
   have:(fs.filter λg=>!((acc++[f]).any (· == g)))=fs.filter λg=>!(acc.any (· == g)):=by
    apply F6;intro g hg;have hne:(f == g)=false:=by
     have:f≠g:=λe=>nd.1 (by rw [e];show hg);simpa using this
    rw [FE];simp [hne]
   rw [this];simp
theorem jy:∀ (a b acc:List Str),aY acc (a++b)=(aY acc a).bind λx=>aY x b:=by
 intro a
 induction a with
 | nil =>
  intro b acc;show rfl
 | cons f a ih =>
  intro b acc;rw [Ei];change ((aK f).bind λn=>aY (aR acc n) (a++b))=((aK f).bind λn=>aY (aR acc n) a).bind λx=>aY x b;cases aK f with
  | none=>rfl
  | some n=>show ih b (aR acc n)
theorem eI (h1:ae lf=some lf) (h2:ae ns=some ns):ae (lf++ns)=some (aH (lf++ns.filter λf=>!(lf.any (· == f)))):=by
 show an4 (bv h1) λa1 a2 a3 _=>?_;show an4 (bv h2) λb1 b2 b3 _=>?_;unfold ae;rw [jy,fE (by simpa using a1) a2];change (aY ([]++lf) ns).map aH=_;rw [List.nil_append,jA b1 b2];rfl
noncomputable def due1 (lf:List Str) (way:Str) (ns:List Str):List Str:=if way = "+" then aH (lf++ns.filter λf=>!(lf.any (· == f))) else ns
noncomputable def due2 (lf:List Str) (way:Str) (ns:List Str):List Str:=if way = "-" then lf.filter (λf=>!(ns.any (· == f))) else due1 lf way ns
theorem tG (h1:ae lf=some lf) (h2:ae ns=some ns):due2 lf way ns=aG lf way ns:=by
 unfold due2 due1 aG;by_cases h:way = "+"
 ·have hne:¬ (("+" : Str) = "-"):=s!"k";subst h;rw [Zv hne,Zw rfl,Zw rfl,eI h1 h2];rfl
 ·rw [Zv h,Zv h]
theorem rG {un:Option Int}:∀ (Ls:List AV) (st:Bx × List Int),BM st.1.letters->BM (Ls.foldl (aW un way fs) st).1.letters/\(Ls.foldl (aW un way fs) st).1.letters.length=st.1.letters.length/\(Ls.foldl (aW un way fs) st).2.length<=st.2.length+Ls.length:=by
 intro Ls
 induction Ls with
 | nil =>
  intro st h;show ⟨h,rfl,s!"s"⟩
 | cons L Ls ih =>
  intro st h;rw [FA];have hs:BM (aW un way fs st L).1.letters/\(aW un way fs st L).1.letters.length=st.1.letters.length/\(aW un way fs st L).2.length<=st.2.length+1:=by
   unfold aW;split
   ·show ⟨h,rfl,s!"o"⟩
   ·have e:=eZ (B:=st.1) (u:=L.uid) (ns:=aG L.flags way fs) h;show ⟨by rw [asc_uids];dsimp only;rw [e,<- asc_uids];show h,?_,?_⟩
    ·have:=congrArg List.length e;simpa using this
    ·dsimp only;split<;>simp
  obtain ⟨a,b,d⟩:=ih _ hs.1;show ⟨a,b.trans hs.2.1,?_⟩;rw [EF];left
noncomputable def K5:List Str:=["Key", "\\Deleted", "\\Flagged", "\\Seen", "key"]
def A7 (fs:List Str):Prop:=ae fs=some fs/\∀ f∈fs,f∈K5
theorem fB [DecidableEq α]:∀ {l m:List α},l.Nodup->(∀ a∈l,a∈m)->l.length<=m.length:=by
 intro l
 induction l with
 | nil =>
  intro _ _ _;show Nat.zero_le _
 | cons a l ih =>
  intro m nd h;rw [E6] at nd;have hm:=h a Zh;have:=ih nd.2 λb hb=>(List.mem_erase_of_ne (λe:b=a=>nd.1 (e ▸ hb))).mpr (h b (.tail _ hb));rw [List.length_erase_of_mem hm] at this
  have:0 < m.length:=List.length_pos_of_mem hm;rw [EF];left
theorem K5_short:∀ f∈K5,f.length<=20:=s!"k"
theorem A7.len (h:A7 fs):fs.length<=5:=fB (bv h.1).1 h.2
theorem A7.canon (h:A7 fs):Ax fs:=⟨h.1,λt ht=>Zt (K5_short t (h.2 t ht)) s!"d",Nat.lt_of_le_of_lt h.len s!"d"⟩
theorem sC:∀ fs∈bt,∀ t∈fs,((aK t).map λu=>K5.contains u).getD true=true:=s!"k"
theorem A7.drawn (h:fs∈bt) (e:ae fs=some ns):A7 ns:=by
 show ⟨cC e,λu hu=>?_⟩;obtain ⟨t⟩|⟨ht,hn⟩:=(((bv e).2.2.2 u).mp hu)
 have:=sC fs h t ht;rw [hn] at this;simpa using this
theorem A7.after (h1:A7 lf) (h2:A7 ns):A7 (aG lf way ns):=by
 show ⟨cF h1.1 h2.1,λf hf=>?_⟩;unfold aG at hf;split at hf
 ·rw [eI h1.1 h2.1] at hf;have hf:f∈aH (lf++ns.filter λf=>!(lf.any (· == f))):=hf;rcases ZA ((aw _).subset hf) with h | h
  ·show h1.2 f h
  ·show h2.2 f (ZF h).1
 ·split at hf
  ·show h1.2 f (ZF hf).1
  ·show h2.2 f hf
def BD (a:AB):Prop:=∃ b t,a=.bytes b t
structure BB (n t:Nat) (B:Bx):Prop where
 asc:BM B.letters
 below:∀ L∈B.letters,1<=L.uid/\L.uid < B.next
 flags:∀ L∈B.letters,A7 L.flags
 octs:∀ L∈B.letters,BD L.oct
 next1:1<=B.next
 next:B.next<=1+n
 len:B.letters.length+B.gone.length<=n
 top:B.top<=1+t
section
variable {n t n' t':Nat}{B:Bx}
theorem BB.mono (h:BB n t B) (hn:n<=n') (ht:t<=t'):BB n' t' B:=⟨h.asc,h.below,h.flags,h.octs,h.next1,by have:=h.next;left,by have:=h.len;left,by have:=h.top;left⟩
theorem BB.new (nm:Str) (v:Int):BB 0 0 (Bx.new nm v):=⟨.nil,(λL hL=>by cases hL),(λL hL=>by cases hL),(λL hL=>by cases hL),(by change (1:Int)<=1;decide),(by change (1:Int)<=1+((0:Nat):Int);decide),(by change 0+0<=0;decide),(by change (1:Int)<=1+((0:Nat):Int);decide)⟩
theorem BB.add (h:BB n t B) (hf:A7 fs) (ho:BD oct):BB (n+1) (t+1) (B.add oct fs i):=by
 have h1:=h.next1;have h2:=h.next;have h3:=h.len;have h4:=h.top;show ⟨?_,λL hL=>?_,λL hL=>?_,λL hL=>?_,?_,?_,?_,?_⟩
 ·change (B.letters++[_]).Pairwise _;rw [List.pairwise_append];show ⟨h.asc,s!"s",λa ha b hb=>?_⟩;rw [ZS hb];show (h.below a ha).2
 ·change 1<=L.uid/\L.uid < B.next+1;rcases ZA hL with hL | hL
  ·have:=h.below L hL;left
  ·rw [ZS hL];change 1<=B.next/\B.next < B.next+1;left
 ·rcases ZA hL with hL | hL
  ·show h.flags L hL
  ·rw [ZS hL];show hf
 ·rcases ZA hL with hL | hL
  ·show h.octs L hL
  ·rw [ZS hL];show ho
 ·change 1<=B.next+1;left
 ·change B.next+1<=1+((n+1:Nat):Int);left
 ·change (B.letters++[_]).length+B.gone.length<=n+1;simp;left
 ·change B.top+1<=1+((t+1:Nat):Int);left
theorem BB.addAll:∀ {Ls:List AV}{n t:Nat}{B:Bx},BB n t B->(∀ L∈Ls,A7 L.flags/\BD L.oct)->BB (n+Ls.length) (t+Ls.length) (B.addAll Ls):=by
 intro Ls
 induction Ls with
 | nil =>
  intro _ _ _ h _;show h
 | cons L Ls ih =>
  intro n t B h hf;have:=ih (h.add (oct:=L.oct) (i:=L.instant) (hf L Zh).1 (hf L Zh).2) λM hM=>hf M (.tail _ hM);rw [EF];show (this.mono s!"o" s!"o")
theorem po (ha:BM B.letters) (u:Int) (ns:List Str):(B.turn u ns).1=B\/∃ i L,B.letters[i]?=some L/\L.uid=u/\(B.turn u ns).1=B.put i u L ns:=by
 by_cases h:∃ L∈B.letters,L.uid=u
 ·obtain ⟨L⟩|⟨hL,e⟩:=h;obtain ⟨i,hi⟩:=List.mem_iff_getElem?.mp hL;rw [Bx.turn_at ha hi e];split
  ·show .inl rfl
  ·show .inr ⟨i,L,hi,e,rfl⟩
 ·obtain ⟨e1,e2⟩:=gv (Ls:=B.letters) (u:=u) (λL hL e=>h ⟨L,hL,e⟩);apply Or.inl;unfold Bx.turn;rw [e1,e2]
theorem BB.turn (h:BB n t B) (hf:A7 ns):BB n (t+1) (B.turn u ns).1:=by
 rcases po h.asc u ns with e | ⟨i,L,hi,hu,e⟩
 ·rw [e];show h.mono (Nat.le_refl _) (Nat.le_succ _)
 ·have hu2:=eZ (B:=B) (u:=u) (ns:=ns) h.asc;rw [e] at hu2 ⊢;have hin:=Eo hi;have h4:=h.top;have hmem:∀ M∈(B.put i u L ns).letters,M∈B.letters\/M=⟨u,L.oct,ns,L.instant,B.top+1⟩:=λM hM=>List.mem_or_eq_of_mem_set hM;show ⟨by rw [asc_uids,hu2,<- asc_uids];show h.asc,λM hM=>?_,λM hM=>?_,λM hM=>?_,h.next1,h.next,?_,?_⟩
  ·rcases hmem M hM with hM | rfl
   ·show h.below M hM
   ·change 1<=u/\u < B.next;rw [<- hu];show h.below L hin
  ·rcases hmem M hM with hM | rfl
   ·show h.flags M hM
   ·show hf
  ·rcases hmem M hM with hM | rfl
   ·show h.octs M hM
   ·show h.octs L hin
  ·change (B.letters.set i _).length+B.gone.length<=n;rw [List.length_set];show h.len
  ·change B.top+1<=1+((t+1:Nat):Int);left
theorem BB.steps {un:Option Int} (hf:A7 fs):∀ {Ls:List AV}{t:Nat}{st:Bx × List Int},BB n t st.1->(∀ L∈Ls,A7 L.flags)->BB n (t+Ls.length) (Ls.foldl (aW un way fs) st).1:=by
 intro Ls
 induction Ls with
 | nil =>
  intro _ _ h _;show h
 | cons L Ls ih =>
  intro t st h hl;rw [FA];have h1:BB n (t+1) (aW un way fs st L).1:=by
   unfold aW;split
   ·show h.mono (Nat.le_refl _) (Nat.le_succ _)
   ·show h.turn ((hl L Zh).after hf)
  have:=ih h1 λM hM=>hl M (.tail _ hM);rw [EF];show this.mono (Nat.le_refl _) s!"o"
theorem r9 (B:Bx) (us:List Int):(B.letters.filter λL=>!us.contains L.uid).length+(B.left us).length=B.letters.length:=by
 unfold Bx.left
 induction B.letters with
 | nil=>rfl
 | cons L Ls ih =>
  rw [EP,E5,EP];cases us.contains L.uid<;>simp at ih ⊢<;>left
theorem BB.expunge (h:BB n t B):BB n (t+1) (B.expunge us):=by
 unfold Bx.expunge;split
 ·show h.mono (Nat.le_refl _) (Nat.le_succ _)
 ·have h3:=h.len;have h4:=h.top;have hl:=r9 B us;show ⟨h.asc.sublist F7,λL hL=>h.below L (ZF hL).1,λL hL=>h.flags L (ZF hL).1,λL hL=>h.octs L (ZF hL).1,h.next1,h.next,?_,?_⟩
  ·change (B.letters.filter λL=>!us.contains L.uid).length+(B.gone++(B.left us).map λu=>(u,B.top+1)).length<=n;rw [EG,EQ];left
  ·change B.top+1<=1+((t+1:Nat):Int);left
theorem BB.forget {m:Int} (h:BB n t B):BB n t (B.forget m):=by
 unfold Bx.forget;split
 ·show h
 ·show ⟨h.asc,h.below,h.flags,h.octs,h.next1,h.next,?_,h.top⟩;have h3:=h.len;change B.letters.length+(B.kept m).length<=n
  have:(B.kept m).length<=B.gone.length:=Em _ _;left
end
theorem eM:∀ t∈aQ,(aa t).length<=20:=s!"k"
theorem qa:∀ us∈bF,us.length<=4:=s!"k"
structure AU (k:Nat) (s:Bh):Prop where
 box:∀ e∈s.boxes,BB (4 * k) (5 * k) e.2
 good:∀ e∈s.boxes,aJ e.1=true/\aa e.1=e.1/\e.1.length<=20 * (k+1)
 keys:(s.boxes.map (·.1)).Nodup
 count:s.boxes.length<=k+1
 names:s.names.length<=k
 sorted:s.names.Pairwise (λa b=>leS a b=true)
 once:s.names.Nodup
 next:s.next<=2+4 * k
section
variable {k:Nat}{s s':Bh}{B:Bx}{f:Str}
theorem cA (h:aA bs f=some B):(f,B)∈bs:=by
 unfold aA at h;obtain ⟨e⟩|⟨he,rfl⟩:=(Option.map_eq_some_iff.mp h)
 have h1:=Ek he;have h2:e.1=f:=by simpa using Et he
 rw [<- h2];show h1
theorem kX (h:(aA bs f).isNone=true):f∉bs.map (·.1):=λz=>by
 obtain ⟨e⟩|⟨he,rfl⟩:=(ZM z)
 unfold aA at h;rw [Option.isNone_map,Option.isNone_iff_eq_none] at h;have:=List.find?_eq_none.mp h e he;simp at this
theorem setB_keys :(setB bs f B).map (·.1)=bs.map (·.1):=by
 unfold setB;rw [E9];apply ED;intro e _;change (if e.1=f then (f,B) else e).1=e.1;split
 ·rename_i h;show h.symm
 ·rfl
theorem gq {e:Str × Bx} (h:e∈setB bs f B):(e∈bs)\/(e=(f,B)/\f∈bs.map (·.1)):=by
 obtain ⟨d⟩|⟨hd,rfl⟩:=(ZM h)
 by_cases q:d.1=f
 ·show .inr ⟨by rw [Zw q],?_⟩;rw [<- q];show E7 hd
 ·show .inl (by rw [Zv q];show hd)
theorem AU.mono (h:AU k s):AU (k+1) s :=
 ⟨λe he=>(h.box e he).mono s!"o" s!"o",λe he=>by have:=h.good e he;show ⟨this.1,this.2.1,s!"o"⟩,h.keys,by have:=h.count;left,by have:=h.names;left,h.sorted,h.once,by have:=h.next;left⟩
theorem AU.ok (h:AU k s) (hk:k<=9):AT 60 s:=by
 show ⟨λe he=>?_,λe he=>?_,by have:=h.count;left,by have:=h.names;left,by have:=h.next;left⟩
 ·have b:=h.box e he;have h1:=b.next;have h2:=b.len;have h3:=b.top;show ⟨b.asc,λL hL=>(b.flags L hL).canon,s!"o",s!"o",s!"o",s!"o"⟩
 ·have:=h.good e he;show ⟨this.1,this.2.1,s!"o"⟩
theorem AU.setB (h:AU k s) (hB:BB (4 * (k+1)) (5 * (k+1)) B):AU (k+1) { s with boxes:=Internal.setB s.boxes f B }:=by
 have hm:=h.mono;show ⟨λe he=>?_,λe he=>?_,?_,?_,hm.names,hm.sorted,hm.once,hm.next⟩
 ·rcases gq he with he | ⟨rfl,_⟩
  ·show hm.box e he
  ·show hB
 ·rcases gq he with he | ⟨rfl,hf⟩
  ·show hm.good e he
  ·obtain ⟨d⟩|⟨hd,hn⟩:=(ZM hf)
   have:=hm.good d hd;rw [hn] at this;show this
 ·change ((Internal.setB s.boxes f B).map _).Nodup;rw [setB_keys];show h.keys
 ·change (Internal.setB s.boxes f B).length<=_;unfold Internal.setB;rw [EQ];show hm.count
theorem AU.add (h:AU k s) (hB:BB (4 * (k+1)) (5 * (k+1)) B) (h1:aJ f=true) (h2:aa f=f) (h3:f.length<=20) (h4:f∉s.boxes.map (·.1)) {v:Int} (hv:v<=2+4 * (k+1)):AU (k+1) ⟨s.boxes++[(f,B)],s.names,v⟩:=by
 have hm:=h.mono;show ⟨λe he=>?_,λe he=>?_,?_,?_,hm.names,hm.sorted,hm.once,by push_cast;left⟩
 ·rcases ZA he with he | he
  ·show hm.box e he
  ·rw [ZS he];show hB
 ·rcases ZA he with he | he
  ·show hm.good e he
  ·rw [ZS he];show ⟨h1,h2,by change f.length<=_;left⟩
 ·change ((s.boxes++[(f,B)]).map _).Nodup;rw [Eh,Er];show ⟨h.keys,s!"s",λa ha b hb=>?_⟩;have hb:b=f:=by simpa using hb
  subst hb;rintro rfl;show h4 ha
 ·change (s.boxes++[(f,B)]).length<=_;have:=h.count;simp;left
theorem AU.ren {h:Str} (H:AU k s) (h1:aJ h=true) (h2:aa h=h) (h3:h.length<=20) (hno:(aC (s.boxes.map (·.1)) f h).any (λp=>(aA s.boxes p.2).isSome)=false) :
  AU (k+1) { s with boxes:=renB s.boxes (aC (s.boxes.map (·.1)) f h) }:=by
 have hm:=H.mono;have e0:s.boxes=(s.boxes.map λe=>(⟨e.1,⟨0,0,0,0⟩,e.2⟩:AP)).map λe=>(e.n,e.B):=by rw [E9];show (Ey _).symm
 have e1:(s.boxes.map λe=>(⟨e.1,⟨0,0,0,0⟩,e.2⟩:AP)).map (·.n)=s.boxes.map (·.1):=by rw [E9];rfl
 generalize hE:(s.boxes.map λe=>(⟨e.1,⟨0,0,0,0⟩,e.2⟩:AP))=Es at e0 e1;have kd:(Es.map (·.n)).Nodup:=by rw [e1];show H.keys
 obtain ⟨ts⟩|⟨q1,q2,q3,q4⟩:=(iW (f:=f) (h:=h) kd)
 rw [e1] at q1;have q5:∀ t∈ts,t.2∉Es.map (·.n):=λt ht z=>by
  have:=List.any_eq_false.mp hno (t.1.n,t.2) (by rw [q1];show E7 (f:=λt:AP × Str=>(t.1.n,t.2)) ht);obtain ⟨e,he⟩:=kO z;rw [e0,ew,he] at this;show this rfl
 have eb:renB s.boxes (aC (s.boxes.map (·.1)) f h)=(b5 Es ts++ts.map bQ).map λe=>(e.n,e.B):=by
  rw [q1]
  conv=>lhs;rw [e0]
  show qq q2
 have inb:∀ e∈Es,(e.n,e.B)∈s.boxes:=λe he=>by rw [e0];show E7 (f:=λe:AP=>(e.n,e.B)) he
 have hps:∀ t∈ts,(t.1.n=f\/bl t.1.n f=true)/\t.2=bz t.1.n f h:=λt ht=>by
  have:=gK (ks:=s.boxes.map (·.1)) (f:=f) (h:=h) (p:=(t.1.n,t.2)) (by rw [q1];show E7 (f:=λt:AP × Str=>(t.1.n,t.2)) ht);show ⟨this.2.1,this.2.2⟩
 have mem:∀ e∈(b5 Es ts++ts.map bQ).map (λe=>(e.n,e.B)),(e∈s.boxes)\/∃ t∈ts,e=(t.2,{ t.1.B with name:=t.2 }):=λe he=>by
  obtain ⟨d⟩|⟨hd,rfl⟩:=(ZM he)
  rcases ZA hd with hd | hd
  ·show .inl (inb d ((bf _ _).subset hd))
  ·obtain ⟨t⟩|⟨ht,rfl⟩:=(ZM hd)
   show .inr ⟨t,ht,rfl⟩
 show ⟨λe he=>?_,λe he=>?_,?_,?_,hm.names,hm.sorted,hm.once,hm.next⟩
 ·rcases mem e (by rw [<- eb];show he) with he | ⟨t,ht,rfl⟩
  ·show hm.box e he
  ·have b:=hm.box _ (inb _ (q2 t ht).1);show ⟨b.asc,b.below,b.flags,b.octs,b.next1,b.next,b.len,b.top⟩
 ·rcases mem e (by rw [<- eb];show he) with he | ⟨t,ht,rfl⟩
  ·show hm.good e he
  ·have g:=H.good _ (inb _ (q2 t ht).1);obtain ⟨a,b⟩:=hps t ht;have:=gB g.1 h1 h2 a;have hl:=iy t.1.n f h;change aJ t.2=true/\aa t.2=t.2/\t.2.length<=_;rw [b];have g3:t.1.n.length<=20 * (k+1):=g.2.2;show ⟨this.1,this.2,s!"o"⟩
 ·change ((renB s.boxes _).map _).Nodup;rw [eb,E9];change ((b5 Es ts++ts.map bQ).map (·.n)).Nodup;rw [Eh,Er];show ⟨kd.sublist ((bf _ _).map _),by rw [E9];show q4,λa ha b hb=>?_⟩;rintro rfl;rw [E9] at hb;obtain ⟨t⟩|⟨ht,hq⟩:=(ZM hb)
  show q5 t ht (by rw [show t.2=a from hq];show ((bf Es ts).map _).subset ha)
 ·change (renB s.boxes _).length<=_;rw [eb,EQ,EG,EQ];have hl:((b5 Es ts).map (·.n)++ts.map (·.1.n)).length<=(Es.map (·.n)).length:=by
   show fB ?_ λa ha=>?_
   ·rw [Er];show ⟨kd.sublist ((bf _ _).map _),q3,λa ha b hb=>?_⟩;rintro rfl;obtain ⟨e⟩|⟨he,rfl⟩:=(ZM ha)
    obtain ⟨t⟩|⟨ht,hq⟩:=(ZM hb)
    show gW he t ht hq
   ·rcases ZA ha with ha | ha
    ·show ((bf _ _).map _).subset ha
    ·obtain ⟨t⟩|⟨ht,rfl⟩:=(ZM ha)
     show E7 (q2 t ht).1
  rw [EG,EQ,EQ,e1,EQ] at hl;have:=H.count;left
end
theorem sQ {c:Prop} [Decidable c] {x y:α} (h:(if c then some x else none)=some y) (k:c->x=y->G):G:=by
 by_cases z:c
 ·rw [Zw z] at h;show k z (Option.some.inj h)
 ·rw [Zv z] at h;cases h
theorem sH {c:Prop} [Decidable c] {x:Option α}{y:α} (h:(if c then none else x)=some y) (k:¬ c->x=some y->G):G:=by
 by_cases z:c
 ·rw [Zw z] at h;cases h
 ·rw [Zv z] at h;show k z h
theorem ii {P:α->β->Prop}{a a':α}{b b':β} (e:some (a,b)=some (a',b')) (k:P a b):P a' b':=by
 have e:=Option.some.inj e;rw [<- (Prod.mk.inj e).1,<- (Prod.mk.inj e).2];show k
theorem ite2 {c:Prop} [Decidable c] {P:α->β->Prop}{a a':α}{b b':β} (e:(if c then some (a,b) else none)=some (a',b')) (k:c->P a b):P a' b':=sQ e λh z=>ii (congrArg some z) (k h)
theorem tW {c:Prop} [Decidable c] {P:α->β->Prop}{a a':α}{b b':β} (e:(if c then none else some (a,b))=some (a',b')) (k:¬ c->P a b):P a' b':=sH e λh z=>ii z (k h)
theorem nA {M:BK->Bh->B6->Prop}{s:Bh}
  (h1:∀ n v,aJ (aa n)=true->aA s.boxes (aa n)=none->s.next<=v->v < 4294967295->M (.create n v) ⟨s.boxes++[(aa n,Bx.new (aa n) v)],s.names,v+1⟩ (.v (.int v)))
  (h2:∀ n B,aA s.boxes (aa n)=some B->aa n ≠ "INBOX" -> M (.delete n) { s with boxes:=delB s.boxes (aa n) } (.v (.int B.validity)))
  (h3:∀ n g B,aA s.boxes (aa n)=some B->aJ (aa g)=true->aA s.boxes (aa g)=none->aa n = "INBOX" -> s.next < 4294967295 ->
   M (.rename n g) ⟨setB s.boxes (aa n) (B.expunge (B.letters.map (·.uid)))++[(aa g,(Bx.new (aa g) s.next).addAll B.letters)],s.names,s.next+1⟩ (.pairs [("INBOX",aa g)]))
  (h4:∀ n g B,aA s.boxes (aa n)=some B->aJ (aa g)=true->aA s.boxes (aa g)=none->aa n ≠ "INBOX" -> ¬ ((aC (s.boxes.map (·.1)) (aa n) (aa g)).any (λp=>(aA s.boxes p.2).isSome))=true ->
   M (.rename n g) { s with boxes:=renB s.boxes (aC (s.boxes.map (·.1)) (aa n) (aa g)) } (.pairs (aC (s.boxes.map (·.1)) (aa n) (aa g))))
  (h5:∀ n fs t b k B ns,aA s.boxes (aa n)=some B->ae fs=some ns->M (.append n fs t b k) { s with boxes:=setB s.boxes (aa n) (B.add (.bytes b k) ns t) } (.v (.tup [.int B.validity,.int B.next])))
  (h6:∀ n u fs B ns,aA s.boxes (aa n)=some B->ae fs=some ns->(aL B.letters u).isSome=true->M (.flags n u fs) { s with boxes:=setB s.boxes (aa n) (B.turn u ns).1 } (.v (.bool (B.turn u ns).2)))
  (h7:∀ n us way fs un B ns,aA s.boxes (aa n)=some B->ae fs=some ns->M (.store n us way fs un) { s with boxes:=setB s.boxes (aa n) (B.storeF (if un < 0 then none else some un) way ns us).1 }
   (.two (B.storeF (if un < 0 then none else some un) way ns us).2 (((B.picked us).filter (bn (if un < 0 then none else some un))).map (·.uid))))
  (h8:∀ n us B,aA s.boxes (aa n)=some B->M (.expunge n us) { s with boxes:=setB s.boxes (aa n) (B.expunge us) } (.v (bw (B.left us))))
  (h9:∀ mv n us g B G,aA s.boxes (aa n)=some B->aA s.boxes (aa g)=some G->us.all (λu=>(aL B.letters u).isSome)=true ->
   M (.copy mv n us g) { s with boxes:=mvIn s.boxes (aa n) (aa g) B G (B.picked us) mv } (.v (.tup [.int G.validity,bw ((B.picked us).map (·.uid)),bw ((aN G.next (B.picked us)).map (·.2))])))
  (h10:∀ n,aJ (aa n)=true->s.names.any (· == aa n)=true->M (.subscribe n) s (.v (.bool false)))
  (h11:∀ n,aJ (aa n)=true->¬ s.names.any (· == aa n)=true->M (.subscribe n) { s with names:=aH (s.names++[aa n]) } (.v (.bool true)))
  (h12:∀ n,s.names.any (· == aa n)=true->M (.unsubscribe n) { s with names:=s.names.filter λm=>m != aa n } (.v (.bool true)))
  (h13:∀ n m B,aA s.boxes (aa n)=some B->M (.forget n m) { s with boxes:=setB s.boxes (aa n) (B.forget m) } (.v (.int (B.forgot m))))
  {d:BK}{r:B6} (e:step s d=some (s',r)):M d s' r:=by
 cases d with
 | create n v =>
  show ite2 e λhc=>?_;rw [Bool.and_eq_true,Bool.and_eq_true,Bool.and_eq_true] at hc;show h1 n v hc.1.1 (Option.isNone_iff_eq_none.mp hc.1.2) (of_decide_eq_true hc.2.1) (of_decide_eq_true hc.2.2)
 | delete n =>
  rw [step] at e;cases hB:aA s.boxes (aa n) with
  | none=>rw [hB] at e;cases e
  | some B =>
   rw [hB] at e;show tW e λhi=>h2 n B hB hi
 | rename n g =>
  rw [step] at e;cases hB:aA s.boxes (aa n) with
  | none=>rw [hB] at e;cases e
  | some B =>
   rw [hB] at e;dsimp only at e;by_cases hc:(aJ (aa g) && (aA s.boxes (aa g)).isNone)=true
   ·rw [Zw hc] at e;rw [Bool.and_eq_true] at hc;by_cases hi:aa n = "INBOX"
    ·rw [Zw hi] at e;show ite2 e λhx=>h3 n g B hB hc.1 (Option.isNone_iff_eq_none.mp hc.2) hi hx
    ·rw [Zv hi] at e;show tW e λhno=>h4 n g B hB hc.1 (Option.isNone_iff_eq_none.mp hc.2) hi hno
   ·rw [Zv hc] at e;cases e
 | append n fs t b k =>
  rw [step] at e;cases hB:aA s.boxes (aa n) with
  | none=>rw [hB] at e;cases e
  | some B=>cases hf:ae fs with
   | none=>rw [hB,hf] at e;cases e
   | some ns=>rw [hB,hf] at e;show ii e (h5 n fs t b k B ns hB hf)
 | flags n u fs =>
  rw [step] at e;cases hB:aA s.boxes (aa n) with
  | none=>rw [hB] at e;cases e
  | some B=>cases hf:ae fs with
   | none=>rw [hB,hf] at e;cases e
   | some ns=>rw [hB,hf] at e;show ite2 e λhu=>h6 n u fs B ns hB hf hu
 | store n us way fs un =>
  rw [step] at e;cases hB:aA s.boxes (aa n) with
  | none=>rw [hB] at e;cases e
  | some B=>cases hf:ae fs with
   | none=>rw [hB,hf] at e;cases e
   | some ns=>rw [hB,hf] at e;show ii e (h7 n us way fs un B ns hB hf)
 | expunge n us =>
  rw [step] at e;cases hB:aA s.boxes (aa n) with
  | none=>rw [hB] at e;cases e
  | some B=>rw [hB] at e;show ii e (h8 n us B hB)
 | copy mv n us g =>
  rw [step] at e;cases hB:aA s.boxes (aa n) with
  | none=>rw [hB] at e;cases e
  | some B=>cases hG:aA s.boxes (aa g) with
   | none=>rw [hB,hG] at e;cases e
   | some G=>rw [hB,hG] at e;show ite2 e λhu=>h9 mv n us g B G hB hG hu
 | subscribe n =>
  rw [step] at e;by_cases hc:aJ (aa n)=true
  ·rw [Zw hc] at e;by_cases ha:s.names.any (· == aa n)=true
   ·rw [Zw ha] at e;show ii e (h10 n hc ha)
   ·rw [Zv ha] at e;show ii e (h11 n hc ha)
  ·rw [Zv hc] at e;cases e
 | unsubscribe n=>show ite2 e λha=>h12 n ha
 | forget n m =>
  rw [step] at e;cases hB:aA s.boxes (aa n) with
  | none=>rw [hB] at e;cases e
  | some B=>rw [hB] at e;show ii e (h13 n m B hB)
section
variable {k:Nat}{s s':Bh}
theorem rT (bs:As) (f:Str):(delB bs f).Sublist bs:=F7
theorem AU.setB' (h:AU k s) (hB:BB (4 * k) (5 * k) B):AU k { s with boxes:=Internal.setB s.boxes f B }:=by
 show ⟨λe he=>?_,λe he=>?_,?_,?_,h.names,h.sorted,h.once,h.next⟩
 ·rcases gq he with he | he
  ·show h.box e he
  ·rw [he.1];show hB
 ·rcases gq he with he | he
  ·show h.good e he
  ·show ex1 (ZM he.2) λd q=>an2 q λhd hn=>?_;have:=h.good d hd;rw [he.1];rw [hn] at this;show this
 ·show setB_keys.symm ▸ h.keys
 ·change (Internal.setB s.boxes f B).length<=_;unfold Internal.setB;rw [EQ];show h.count
theorem rY {d:BK}{r:B6} (h:AU k s) (hd:BH s.next d) (e:step s d=some (s',r)):AU (k+1) s':=by
 have hm:=h.mono;show nA (M:=λd s' _=>BH s.next d->AU (k+1) s') (λn v h1 h2 h3 h4 hd=>?_) (λn B hB hi hd=>?_) (λn g B hB hc hf hi hx hd=>?_) (λn g B hB hc hf hi hno hd=>?_) (λn fs t b kk B ns hB hf hd=>?_)
  (λn u fs B ns hB hf hu hd=>?_) (λn us way fs un B ns hB hf hd=>?_) (λn us B hB hd=>?_) (λmv n us g B G hB hG hu hd=>?_) (λn h1 h2 hd=>hm) (λn h1 hno hd=>?_) (λn h1 hd=>?_) (λn m B hB hd=>?_) e hd
 ·have hv:=hd.2.2;have hx:=h.next;show h.add ((BB.new _ _).mono (Nat.zero_le _) (Nat.zero_le _)) h1 (dm n) (eM n hd.1) (kX (by rw [h2];rfl)) s!"o"
 ·have sb:=rT s.boxes (aa n);show ⟨λe he=>hm.box e (sb.subset he),λe he=>hm.good e (sb.subset he),hm.keys.sublist (sb.map _),Zt sb.length_le hm.count,hm.names,hm.sorted,hm.once,hm.next⟩
 ·have hb:=h.box _ (cA hB);have hs:AU (k+1) { s with boxes:=setB s.boxes (aa n) (B.expunge (B.letters.map (·.uid))) }:=h.setB (hb.expunge.mono s!"o" s!"o");have hx:=h.next;have hl:=hb.len;have hn:BB (4 * (k+1)) (5 * (k+1)) ((Bx.new (aa g) s.next).addAll B.letters):=((BB.new _ _).addAll λL hL=>⟨hb.flags L hL,hb.octs L hL⟩).mono s!"o" s!"o";have hgl:=eM g hd.2;have hfo:=kX (by rw [hf];rfl:(aA s.boxes (aa g)).isNone=true);have hcnt:=h.count;show ⟨λe he=>?_,λe he=>?_,?_,?_,hm.names,hm.sorted,hm.once,by change s.next+1<=_;push_cast;left⟩
  ·rcases ZA he with he | he
   ·show hs.box e he
   ·rw [ZS he];show hn
  ·rcases ZA he with he | he
   ·show hs.good e he
   ·rw [ZS he];show ⟨hc,dm g,by change (aa g).length<=_;clear hs hn hb;left⟩
  ·have hk:=h.keys;clear hs hn hb hm h;change (List.map (λe:Str × Bx=>e.1) (setB s.boxes (aa n) (B.expunge (B.letters.map λL:AV=>L.uid))++[(aa g,(Bx.new (aa g) s.next).addAll B.letters)])).Nodup;rw [Eh,Er,setB_keys];show ⟨hk,List.nodup_cons.mpr ⟨Ed,ES⟩,λa ha b hb z=>hfo (by rw [z,ZS hb] at ha;show ha)⟩
  ·clear hs hn hb hm h;change (setB s.boxes (aa n) (B.expunge (B.letters.map λL:AV=>L.uid))++[(aa g,(Bx.new (aa g) s.next).addAll B.letters)]).length<=_;unfold setB;rw [EG,EQ];show Zt (Nat.succ_le_succ hcnt) s!"o"
 ·show h.ren hc (dm g) (eM g hd.2) (Bool.eq_false_iff.mpr hno)
 ·show h.setB (((h.box _ (cA hB)).add (A7.drawn hd.2 hf) ⟨_,_,rfl⟩).mono s!"o" s!"o")
 ·show h.setB (((h.box _ (cA hB)).turn (A7.drawn hd.2 hf)).mono s!"o" s!"o")
 ·have hb:=h.box _ (cA hB);have hp:=cE B us;have hu:=qa us hd.2.1;show h.setB ((BB.steps (A7.drawn hd.2.2.2 hf) (st:=(B,[])) hb (λL hL=>hb.flags L (dJ B us L hL))).mono s!"o" s!"o")
 ·show h.setB ((h.box _ (cA hB)).expunge.mono s!"o" s!"o")
 ·have hb:=h.box _ (cA hB);have hg:=h.box _ (cA hG);have hp:=cE B us;have hu:=qa us hd.2.1;have hga:BB (4 * k+4) (5 * k+4) (G.addAll (B.picked us)):=(hg.addAll λL hL=>⟨hb.flags L (dJ B us L hL),hb.octs L (dJ B us L hL)⟩).mono s!"o" s!"o";have h1:AU (k+1) { s with boxes:=setB s.boxes (aa g) (G.addAll (B.picked us)) }:=h.setB (hga.mono s!"o" s!"o");unfold mvIn;cases mv with
  | false=>show h1
  | true =>
   show h1.setB' ?_;by_cases q:aa n=aa g
   ·rw [Zw q];show hga.expunge.mono s!"o" s!"o"
   ·rw [Zv q];show hb.expunge.mono s!"o" s!"o"
 ·have hl:=h.names;have ho:=h.once;show ⟨hm.box,hm.good,hm.keys,hm.count,?_,dH _,?_,hm.next⟩
  ·change (aH (s.names++[_])).length<=_;rw [(aw _).length_eq,EG];show Zt (Nat.succ_le_succ hl) s!"o"
  ·clear hm h;change (aH (s.names++[_])).Nodup;rw [(aw _).nodup_iff,Er];show ⟨ho,List.nodup_cons.mpr ⟨Ed,ES⟩,λa ha b hb z=>hno (List.any_eq_true.mpr ⟨a,ha,by rw [z,ZS hb];show beq_self_eq_true _⟩)⟩
 ·have sb:(s.names.filter λm=>m != aa n).Sublist s.names:=F7;show ⟨hm.box,hm.good,hm.keys,hm.count,Zt sb.length_le hm.names,hm.sorted.sublist sb,hm.once.sublist sb,hm.next⟩
 ·show h.setB ((h.box _ (cA hB)).forget.mono s!"o" s!"o")
theorem rI:AU 0 ⟨[("INBOX",Bx.new "INBOX" 1)],[],2⟩:=by
 show ⟨λe he=>?_,λe he=>?_,s!"s",s!"s",s!"s",.nil,.nil,s!"d"⟩
 ·rw [ZS he];show BB.new _ _
 ·rw [ZS he];show ⟨s!"k",s!"k",s!"k"⟩
theorem BH.sz {nx:Int}{d:BK} (h:BH nx d):CC d:=by
 have n9:∀ n∈aQ,n.length<=300:=s!"k";have f5:∀ fs∈bt,(∀ t∈fs,t.length<=1000)/\fs.length < 32:=s!"k";have u4:∀ us∈bF,us.length<=60:=s!"k";cases d with
 | create n v=>show n9 n h.1
 | delete n=>show n9 n h
 | rename n g=>show ⟨n9 n h.1,n9 g h.2⟩
 | append n fs t b k=>show ⟨n9 n h.1,f5 fs h.2⟩
 | flags n u fs=>show ⟨n9 n h.1,f5 fs h.2⟩
 | store n us way fs un=>show ⟨n9 n h.1,u4 us h.2.1,h.2.2.1,f5 fs h.2.2.2⟩
 | expunge n us=>show ⟨n9 n h.1,u4 us h.2⟩
 | copy mv n us g=>show ⟨n9 n h.1,n9 g h.2.2,u4 us h.2.1⟩
 | subscribe n=>show n9 n h
 | unsubscribe n=>show n9 n h
 | forget n m=>show n9 n h
end
structure LG where
 l:Addr
 g:Addr
variable {P P':LG}
noncomputable def aS (w:Addr) (P:LG):List Addr:=[w,P.l,P.g]
noncomputable def c5 (P:LG) (B:Bx):List (Str × AB):=[("validity",.int B.validity),("next",.int B.next),("top",.int B.top),("floor",.int B.floor),("letters",.ref P.l),("gone",.ref P.g)]
structure AF (U:AA) (w:Addr) (P:LG) (B:Bx):Prop where
 w:U w=some (.dictS (c5 P B))
 l:U P.l=some (.list (B.letters.map letV))
 g:U P.g=some (.list (B.gone.map bO))
 lg:P.l≠P.g
structure Ac (U U':AA) (w:Addr) (P P':LG):Prop where
 new:∀ a∈aS w P',a∈aS w P\/U a=none
 fr:Fr (aS w P) U U'
section
variable {w:Addr}{P P' P'':LG}{B:Bx}{U U1 U':AA}
theorem wd_validity:vAt (c5 P B) "validity" = some (.int B.validity):=by rfl
theorem wd_next:vAt (c5 P B) "next" = some (.int B.next):=by rfl
theorem wd_top:vAt (c5 P B) "top" = some (.int B.top):=by rfl
theorem wd_floor:vAt (c5 P B) "floor" = some (.int B.floor):=by rfl
theorem wd_letters:vAt (c5 P B) "letters" = some (.ref P.l):=by rfl
theorem wd_gone:vAt (c5 P B) "gone" = some (.ref P.g):=by rfl
theorem wd_len:(c5 P B).length<=sizeLine:=sz (by unfold c5;simp)
theorem AF.le (h:AF U w P B) (l:Le U U'):AF U' w P B:=⟨l _ _ h.w,l _ _ h.l,l _ _ h.g,h.lg⟩
theorem AF.lw (h:AF U w P B):P.l≠w:=λe=>by have:=h.w;rw [<- e,h.l] at this;cases this
theorem AF.gw (h:AF U w P B):P.g≠w:=λe=>by have:=h.w;rw [<- e,h.g] at this;cases this
theorem AF.fr (h:AF U w P B) (f:Fr F U U') (hn:∀ a∈aS w P,a∉F):AF U' w P B :=
 ⟨f _ _ h.w (hn _ Zh),f _ _ h.l (hn _ (.tail _ Zh)),f _ _ h.g (hn _ (.tail _ (.tail _ Zh))),h.lg⟩
theorem Ac.refl:Ac U U w P P:=⟨λ_ h=>.inl h,Fr.refl⟩
theorem Ac.le (h:Ac U U1 w P P') (l:Le U1 U'):Ac U U' w P P':=⟨h.new,h.fr.le l⟩
theorem Ac.of_le (l:Le U U'):Ac U U' w P P:=Ac.refl.le l
theorem Ac.after (x:Ac U U1 w P P') (y:Ac U1 U' w P' P''):Ac U U' w P P'':=by
 show ⟨λa ha=>?_,λa o e n=>y.fr a o (x.fr a o e n) λz=>?_⟩
 ·rcases y.new a ha with h | h
  ·show x.new a h
  ·by_cases n:a∈aS w P
   ·show .inl n
   ·cases z:U a with
    | none=>show .inr rfl
    | some o=>rw [x.fr a o z n] at h;cases h
 ·rcases x.new a z with h | h
  ·show n h
  ·rw [h] at e;cases e
theorem Ac.of_fr (f:Fr [w] U U'):Ac U U' w P P:=⟨λ_ h=>.inl h,f.mono λa ha=>by rw [ZS ha];show .head _⟩
theorem Ac.mkL (h:U l=none) (le:Le U U1) (f:Fr [w] U1 U'):Ac U U' w P { P with l:=l }:=by
 show ⟨λa ha=>?_,(le.fr (F:=aS w P)).trans (f.mono λa ha=>by rw [ZS ha];show .head _)⟩;simp only [aS,EC,Ed,or_false] at ha ⊢;rcases ha with rfl | rfl | rfl
 ·show .inl (.inl rfl)
 ·show .inr h
 ·show .inl (.inr (.inr rfl))
theorem Ac.mkG {g:Addr} (h:U g=none) (le:Le U U1) (f:Fr [w] U1 U'):Ac U U' w P { P with g:=g }:=by
 show ⟨λa ha=>?_,(le.fr (F:=aS w P)).trans (f.mono λa ha=>by rw [ZS ha];show .head _)⟩;simp only [aS,EC,Ed,or_false] at ha ⊢;rcases ha with rfl | rfl | rfl
 ·show .inl (.inl rfl)
 ·show .inl (.inr (.inl rfl))
 ·show .inr h
theorem AF.setI (h:AF U w P B) (hl:B'.letters=B.letters) (hg:B'.gone=B.gone):AF (U.set w (.dictS (c5 P B'))) w P B' :=
 ⟨Zs ..,by rw [Zn h.lw,hl];show h.l,by rw [Zn h.gw,hg];show h.g,h.lg⟩
end
section
variable {c:Cx}{V:List NV}{U:AA}{M:AA->Prop}{X:AC->AA->Prop}{w:Addr}{P:LG}{B:Bx}
theorem jc (h:AF U w P B) (q:∀ U',AF U' w P { B with top:=i }->Fr [w] U U'->M U'):BJ c V (.ref w) (.str "top") (.int i) U M X :=
 br h.w wd_len (q _ (h.setI (B':={ B with top:=i }) rfl rfl) (Fr.refl.set Zh))
theorem qu (h:AF U w P B) (q:∀ U',AF U' w P { B with next:=i }->Fr [w] U U'->M U'):BJ c V (.ref w) (.str "next") (.int i) U M X :=
 br h.w wd_len (q _ (h.setI (B':={ B with next:=i }) rfl rfl) (Fr.refl.set Zh))
theorem pD (h:AF U w P B) (q:∀ U',AF U' w P { B with floor:=i }->Fr [w] U U'->M U'):BJ c V (.ref w) (.str "floor") (.int i) U M X :=
 br h.w wd_len (q _ (h.setI (B':={ B with floor:=i }) rfl rfl) (Fr.refl.set Zh))
theorem gM (h:AF U w P B) (hL:U l=some (.list (Ls.map letV))) (hn:l≠P.g) (q:∀ U',AF U' w { P with l:=l } { B with letters:=Ls }->Fr [w] U U'->M U') :
  BJ c V (.ref w) (.str "letters") (.ref l) U M X:=by
 have e:l≠w:=λe=>by have:=h.w;rw [<- e,hL] at this;cases this
 show br h.w wd_len (q _ ⟨Zs ..,by change _=_;rw [Zn e];show hL,by change _=_;rw [Zn h.gw];show h.g,hn⟩ (Fr.refl.set Zh))
theorem k9 {g:Addr}{G:List (Int × Int)} (h:AF U w P B) (hG:U g=some (.list (G.map bO))) (hn:P.l≠g) (q:∀ U',AF U' w { P with g:=g } { B with gone:=G }->Fr [w] U U'->M U') :
  BJ c V (.ref w) (.str "gone") (.ref g) U M X:=by
 have e:g≠w:=λe=>by have:=h.w;rw [<- e,hG] at this;cases this
 show br h.w wd_len (q _ ⟨Zs ..,by change _=_;rw [Zn h.lw];show h.l,by change _=_;rw [Zn e];show hG,hn⟩ (Fr.refl.set Zh))
end
section
variable {c:Cx}{V V' V₂:List NV}{U U1 U' Y:AA}{Q:AB->AA->Prop}{X:AC->AA->Prop}{w:Addr}{P:LG}{B:Bx}
theorem fZ {t:Int} (x:AG c) (cm:c.calm=true) (lv:1<=c.lv) (hW:AF U w P B) (hz:B.letters.length<=900)
  (k:∀ U' P',AF U' w P' (B.add oct fs t)->Ac U U' w P P'->Q (.int B.next) U'):AM VR c V [.ref w,oct,bB fs,.int t] (λvs=>call (.ref 593) vs) U Q X:=by
 show ag f593 x s!"o" s!"r" rfl s!"r" λLA=>?_
 symm
 show jc hW λU1 hW1 f₁=>?_
 symm
 intro L hL;show eY (Zl hL _ _ hW1.l) (Zs ..) (sz (by simp;left)) λLB hL2=>?_;have hL₂σ:U1 LB=none:=au (Zl hL) hL2;show cO hL2 λU2 l₂ h₂=>?_;have l₂:=(Zl hL).trans l₂;have hW2:=hW1.le l₂
 symm
 show gM (Ls:=B.letters++[⟨B.next,oct,fs,t,B.top+1⟩]) hW2 (by rw [h₂,Eh];rfl) (by rintro rfl;rw [hW1.g] at hL₂σ;cases hL₂σ) λU3 hW3 f₃=>?_;have a₃:=(Ac.of_fr (P:=P) f₁).after (Ac.mkL hL₂σ l₂ f₃)
 symm
 show qu hW3 λU4 hW4 f₄=>?_
 symm
 have e:B.next+1 - 1=B.next:=s!"o";change Q (.int (B.next+1 - 1)) _;rw [e];show k _ _ hW4 (a₃.after (.of_fr f₄))
theorem jw (B:Bx) (us:List Int):B.left us=(B.letters.filter λL=>us.any (· == L.uid)).map (·.uid):=by
 unfold Bx.left;rw [Eu];apply congrArg;apply F6;intro L _;change us.contains L.uid=_;rw [Bool.eq_iff_iff];simp
theorem eG (x:AG c) (cm:c.calm=true) (lv:1<=c.lv) (hW:AF U w P B) (ha:UV U a us) (haw:∀ l,a=.ref l->l∉aS w P) (hz:B.letters.length<=900) (hg:B.gone.length<=900)
  (k:∀ U' P' D,AF U' w P' (B.expunge us)->Ac U U' w P P'->U D=none->D∉aS w P'->U' D=some (.list ((B.left us).map .int))->Q (.ref D) U'):AM VR c V [.ref w,a] (λvs=>call (.ref 598) vs) U Q X:=by
 show ag f598 x s!"o" s!"r" rfl s!"r" λLA=>?_;have inU:∀ {c':Cx}{V:List NV}{U':AA}{u:Int}{Q X},UV U' a us->Q (.bool (us.any (· == u))) U'->Au c' V .In (.int u) a U' Q X:=by
  intro c' V U' u Q X h q;rcases h with rfl | ⟨l,rfl,hl⟩
  ·show sL q
  ·show rP hl q
 have notInU:∀ {c':Cx}{V:List NV}{U':AA}{u:Int}{Q X},UV U' a us->Q (.bool (!(us.any (· == u)))) U'->Au c' V .NotIn (.int u) a U' Q X:=by
  intro c' V U' u Q X h q;rcases h with rfl | ⟨l,rfl,hl⟩
  ·show m4 q
  ·show iz hl q
 have uvle:∀ {U1 U2:AA},Le U1 U2->UV U1 a us->UV U2 a us:=by
  rintro U1 U2 l (h | ⟨b,h,e⟩)
  ·show .inl h
  ·show .inr ⟨b,h,l _ _ e⟩
 show af ?_;show cc AV rfl s!"cns" s!"cok" ?_
 symm
 show ⟨B.letters,letV,λL=>us.any (· == L.uid),λL=>.int L.uid,λU'=>Le U U',_,ar hW.l,λ_ _ h l=>h.trans l,sz s!"o",Le.refl _,λU' l=>l _ _ hW.l,λcl C L hL=>?_,λU1 D l₁ hD=>?_⟩
 ·intro U2 l₂;show aD (ac s!"r" ?_) ⟨_,.tail _ Zh,rfl,rfl⟩;show aT ?_
  symm
  symm
  show inU (uvle l₂ ha) ?_
  symm
  show ⟨rfl,?_⟩;show ah (λ_=>?_) (λ_=>Le.refl _)
  symm
  show ⟨rfl,Le.refl _⟩
 have el:(B.letters.filter λL=>us.any (· == L.uid)).map (λL=>AB.int L.uid)=(B.left us).map .int:=by
  rw [jw,E9];rfl
 rw [el];have hDσ:=au l₁ hD;show ac s!"r" ?_;show bJ hD λU2 l₂ h₂=>?_;have l:=l₁.trans l₂;have hW2:=hW.le l;have hll:(B.left us).length<=B.letters.length:=by
  rw [jw,EQ];show Em _ _
 have hDw:D≠w:=by rintro rfl;rw [hW.w] at hDσ;cases hDσ
 have hDl:D≠P.l:=by rintro rfl;rw [hW.l] at hDσ;cases hDσ
 have hDg:D≠P.g:=by rintro rfl;rw [hW.g] at hDσ;cases hDσ
 have uvfr:∀ {U1 U2:AA},Fr [w] U1 U2->UV U1 a us->UV U2 a us:=by
  rintro U1 U2 f (h | ⟨b,h,e⟩)
  ·show .inl h
  ·show .inr ⟨b,h,f _ _ e λz=>haw b h (by rw [ZS z];show .head _)⟩
 symm
 show ⟨s!"d",λN hN=>?_⟩;show rF (Zl hN _ _ h₂) (Zs ..) ?_;have l₃:Le U (U2.set N (.list [])):=l.trans (Zl hN);have h₃:=Zl (o:=.list []) hN _ _ h₂;generalize (U2.set N (.list []))=U3 at l₃ h₃ ⊢;have hW3:=hW.le l₃
 symm
 show ah (λhq=>?_) (λhq=>?_)
 ·have hne:¬ (B.left us).isEmpty=true:=by simpa using hq
  symm
  show jc hW3 λU4 hW4 f₄=>?_;have h₄:=f₄ _ _ h₃ (by simpa using hDw);have haA:=uvfr f₄ (uvle l₃ ha)
  symm
  show ev_compA Int rfl s!"cns" s!"cok" s!"cp" ?_
  symm
  show .mk (B.left us) .int (λu=>bO (u,B.top+1)) _ (ar h₄) (λU' l=>l _ _ h₄) (sz s!"o") (λcl C u hu U5 l₅=>?_) λU5 E l₅ hE hE5=>?_
  ·have hW5:=hW4.le l₅
   symm
   show ⟨rfl,Le.refl _⟩
  show eY (l₅ _ _ hW4.g) hE5 (sz (by simp;left)) λG hG=>?_;have hGσ:U4 G=none:=au l₅ hG;show cO hG λU6 l₆ h₆=>?_;have l₆:=l₅.trans l₆;have hW6:=hW4.le l₆
  symm
  show k9 (G:=B.gone++(B.left us).map λu=>(u,B.top+1)) hW6 (by rw [h₆,Eh,E9];rfl) (by rintro e;rw [<- e,hW4.l] at hGσ;cases hGσ) λU7 hW7 f₇=>?_;have a₇:=((Ac.of_le (w:=w) (P:=P) l₃).after (Ac.of_fr f₄)).after (Ac.mkG hGσ l₆ f₇);have h₇:=f₇ _ _ (l₆ _ _ h₄) (by simpa using hDw);have ha7:=uvfr f₇ (uvle l₆ haA);have hDG:D≠G:=by rintro rfl;rw [h₄] at hGσ;cases hGσ
  symm
  show ev_compP AV rfl s!"cns" s!"cok" ?_
  symm
  show ⟨B.letters,letV,λL=>!(us.any (· == L.uid)),letV,λU'=>Le U7 U',_,ar hW7.l,λ_ _ h l=>h.trans l,sz s!"o",Le.refl _,λU' l=>l _ _ hW7.l,λcl C L hL=>?_,λU8 F l₈ hF=>?_⟩
  ·intro U8 l₈;show aD (ac s!"r" ?_) ⟨_,.tail _ Zh,rfl,rfl⟩;show aT ?_
   symm
   symm
   show notInU (uvle l₈ ha7) ?_
   symm
   show ⟨rfl,?_⟩;show ah (λ_=>?_) (λ_=>Le.refl _)
   symm
   show ⟨rfl,Le.refl _⟩
  have hFσ:=au l₈ hF;show cO hF λU9 l₉ h₉=>?_;have l₉:=l₈.trans l₉;have hW9:=hW7.le l₉
  symm
  show gM (Ls:=B.letters.filter λL=>!(us.any (· == L.uid))) hW9 h₉ (by rintro rfl;rw [hW7.g] at hFσ;cases hFσ) λU0 hW0 f₀=>?_;have a₀:=a₇.after (Ac.mkL hFσ l₉ f₀);have h₀:=f₀ _ _ (l₉ _ _ h₇) (by simpa using hDw);have hDF:D≠F:=by rintro rfl;rw [h₇] at hFσ;cases hFσ
  symm
  show k U0 _ D ?_ a₀ hDσ (by simp [aS,hDw,hDF,hDG]) h₀;have e:B.expunge us={ B with top:=B.top+1,gone:=B.gone++(B.left us).map λu=>(u,B.top+1),letters:=B.letters.filter λL=>!(us.any (· == L.uid)) }:=by
   unfold Bx.expunge;have e2:(B.letters.filter λL=>!us.contains L.uid)=B.letters.filter λL=>!(us.any (· == L.uid)):=by
    apply F6;intro L _
    have:us.contains L.uid=us.any (· == L.uid):=by rw [Bool.eq_iff_iff];simp
    rw [this]
   rw [Zv hne,e2]
  rw [e];show hW0
 ·have he:(B.left us).isEmpty=true:=by simpa using hq
  symm
  show k U3 P D ?_ (.of_le l₃) hDσ (by simp [aS,hDw,hDl,hDg]) h₃;unfold Bx.expunge;rw [Zw he];show hW3
theorem mW (x:AG c) (cm:c.calm=true) (lv:1<=c.lv) (hW:AF U w P B) (hz:B.letters.length<=900)
  (k:∀ L,aL B.letters u=some L->Q (letV L) U) (kn:aL B.letters u=none->Q .none U):AM VR c V [.ref w,.int u] (λvs=>call (.ref 612) vs) U Q X:=by
 show AM.tidy ?_;show ag f612 x s!"o" s!"r" rfl s!"r" λLA=>?_;show af ?_;show bu (α:=AV) letV rfl ?_
 symm
 let J1:=λ(r:List AV) (V':List NV) (U':AA)=>∃ v,V'=[⟨"world",.local,some (.ref w)⟩,⟨"uid",.local,some (.int u)⟩,⟨"letter",.local,v⟩]/\U'=U/\aL B.letters u=aL r u
 show ⟨B.letters,_,J1,ar hW.l,⟨_,rfl,rfl,rfl⟩,λ_ _ U' z=>ex1 z λ_ q=>by have e:=q.2.1;rw [e];show hW.l,?_,?_⟩
 ·intro L r V1 _ r1z;obtain ⟨v⟩|⟨rfl,rfl,hf⟩:=r1z;show aB rfl (ac s!"r" ?_)
  symm
  symm
  unfold aL at hf;rw [Eg] at hf;show ah (λhq=>?_) (λhq=>?_)
  ·rw [hq] at hf
   symm
   show AK.of Zr (k L hf)
  ·rw [hq] at hf
   symm
   show AK.of Zr ⟨_,rfl,rfl,hf⟩
 ·intro V1 _ r2z;obtain ⟨v⟩|⟨rfl,rfl,hf⟩:=r2z
  symm
  show AK.of Zr (kn (by rw [hf];rfl))
theorem iw (x:AG c) (cm:c.calm=true) (lv:1<=c.lv) (hW:AF U w P B) (hz:B.letters.length<=900) (ha:BM B.letters)
  (k:∀ U',AF U' w P (B.turn u fs).1->Fr (aS w P) U U'->Q (.bool (B.turn u fs).2) U'):AM VR c V [.ref w,.int u,bB fs] (λvs=>call (.ref 605) vs) U Q X:=by
 show AM.tidy ?_;show ag f605 x s!"o" s!"r" rfl s!"r" λLA=>?_;show af ?_;show bu (α:=Nat) (λi=>.int i) rfl ?_
 symm
 show bI hW.l (by simp;left) ?_
 symm
 show dI λD hD=>?_;rw [EQ];have en:nums 0 ((B.letters.length:Int) - 0).toNat=(List.range' 0 B.letters.length).map λ(i:Nat)=>AB.int (i:Int):=by
  rw [<- fW B.letters.length 0];simp
 let J2:=λ(r:List Nat) (V':List NV) (U':AA)=>∃ n v z,n<=B.letters.length/\r=List.range' n (B.letters.length - n)/\V'=[⟨"world",.local,some (.ref w)⟩,⟨"uid",.local,some (.int u)⟩,⟨"flags",.local,some (bB fs)⟩,⟨"spot",.local,v⟩,⟨"letter",.local,z⟩,.gl "range",.gl "len"]/\Le U U'/\∀ (j:Nat) L,j < n->B.letters[j]?=some L->L.uid=u->L.flags=fs
 show ⟨List.range' 0 B.letters.length,_,J2,
  by rw [<- en];show dC (Zs ..) s!"d" s!"d" s!"o" s!"o",⟨0,_,_,Nat.zero_le _,rfl,rfl,Zl hD,λj L hj=>s!"o"⟩,λ_ _ _ _=>trivial,?_,?_⟩
 ·intro y ys V1 U1 r3z;obtain ⟨n,v,z⟩|⟨hn,hr,rfl,l,hok⟩:=r3z;have hn':n < B.letters.length:=by
   have:=congrArg List.length hr;simp at this;left
  have er:B.letters.length - n=(B.letters.length - (n+1))+1:=s!"o";rw [er,Ex] at hr;cases hr;have hW1:=hW.le l;obtain ⟨L,hL⟩:∃ L,B.letters[y]?=some L:=⟨_,EW hn'⟩
  show aB rfl (ac s!"r" ?_)
  symm
  show be (n:=y) (y:=letV L) hW1.l s!"o" (by rw [ER,hL];rfl) ?_;show ac s!"r" ?_;show af ?_;show jg ?_;show Go.mono (Q:=λb U'=>b=(L.uid == u && !decide (L.flags=fs))/\U'=U1) ?_ (λb U' hz=>?_) (λ_ _ z=>z)
  ·symm
   symm
   show ah (λhq=>?_) (λhq=>⟨by rw [hq];rfl,rfl⟩)
   symm
   symm
   show mE (ys:=fs) ?_
   symm
   show ah (λhq2=>?_) (λhq2=>⟨by rw [hq,hq2];rfl,rfl⟩)
   symm
   show ⟨by rw [hq,hq2];rfl,rfl⟩
  ·obtain ⟨hb,rfl⟩:=hz;show ah (λhq=>?_) (λhq=>?_)
   ·rw [hq] at hb;have hb:=hb.symm;rw [Bool.and_eq_true] at hb;have hu:L.uid=u:=eq_of_beq hb.1;have hne:¬ L.flags=fs:=by simpa using hb.2
    have ht:B.turn u fs=(B.put y u L fs,true):=by rw [Bx.turn_at ha hL hu,Zv hne]
    rw [ht] at k
    symm
    show jc hW1 λU2 hW2 f₂=>?_
    symm
    symm
    symm
    show dE hW2.l (Int.natCast_nonneg y) s!"o" (by rw [EQ];show Int.ofNat_lt.mpr hn') ?_;rw [Int.toNat_natCast]
    symm
    show AK.of Zr (k _ ⟨?_,?_,?_,hW.lg⟩ (((l.fr (F:=aS w P)).trans (f₂.mono λa ha=>by rw [ZS ha];show .head _)).trans (Fr.refl.set (.tail _ Zh))))
    ·rw [Zn (Ne.symm hW.lw)];show hW2.w
    ·rw [Zs];change _=some (AY.list ((B.letters.set y ⟨u,L.oct,fs,L.instant,B.top+1⟩).map letV));rw [El];rfl
    ·rw [Zn (Ne.symm hW.lg)];show hW2.g
   ·rw [hq] at hb
    symm
    show AK.of Zr ⟨y+1,_,_,hn',rfl,rfl,l,λj M hj hM hu=>?_⟩;rcases Nat.lt_succ_iff_lt_or_eq.mp hj with hj | rfl
    ·show hok j M hj hM hu
    ·rw [hL] at hM;cases hM
     have:(L.uid == u)=true:=by simpa using hu
     rw [this] at hb;simpa using hb.symm
 ·intro V1 U1 r4z;obtain ⟨n,v,z⟩|⟨hn,hr,rfl,l,hok⟩:=r4z;have hn':n=B.letters.length:=by
   have:=congrArg List.length hr;simp at this;left
  subst hn'
  symm
  have ht:B.turn u fs=(B,false):=by
   unfold Bx.turn;cases B.letters.findIdx? (λL=>L.uid == u) with
   | none=>rfl
   | some i=>cases h2:aL B.letters u with
    | none=>rfl
    | some L =>
     obtain ⟨j,hj⟩:=List.mem_iff_getElem?.mp (Ek h2);show Zw (hok j L (List.getElem?_eq_some_iff.mp hj).1 hj (gZ h2))
  rw [ht] at k;show AK.of l (k _ hW Fr.refl)
end
section
variable {c:Cx}{V V' V₂:List NV}{U U1 U' Y:AA}{Q:AB->AA->Prop}{X:AC->AA->Prop}{w:Addr}{P:LG}{B:Bx}
theorem fY {v:Int} (nm:Str) (x:AG c) (cm:c.calm=true) (lv:1<=c.lv) (k:∀ U' w P,Le U U'->AF U' w P (Bx.new nm v)->U w=none->U P.l=none->U P.g=none->Q (.ref w) U'):AM VR c V [.int v] (λvs=>call (.ref 586) vs) U Q X:=by
 show ag f586 x s!"o" s!"r" rfl s!"r" λLA=>?_
 symm
 show ev_dict ?_;show bH ?_
 symm
 show bH ?_
 symm
 show bH ?_
 symm
 show bH ?_
 symm
 show bH ?_
 symm
 show ⟨s!"d",λL hL=>?_⟩;show bH ?_
 symm
 show ⟨s!"d",λG hG=>?_⟩;show gN λD hD=>?_;have l1:Le U (U.set L (.list [])):=Zl hL;have l2:Le U ((U.set L (.list [])).set G (.list [])):=l1.trans (Zl hG);have hLG:L≠G:=by rintro rfl;rw [Zs] at hG;cases hG
 have em:mrg [] [("validity",.int v),("next",.int 1),("top",.int 1),("floor",.int 0),("letters",.ref L),("gone",.ref G)]=c5 ⟨L,G⟩ (Bx.new nm v):=by rfl
 rw [em];have hl2:((U.set L (.list [])).set G (.list [])) L=some (.list []):=Zl hG _ _ (Zs ..);have hg2:((U.set L (.list [])).set G (.list [])) G=some (.list []):=Zs ..;have hDσ:=au l2 hD;have hGσ:=au l1 hG;generalize ((U.set L (.list [])).set G (.list []))=U2 at hD l2 hl2 hg2 ⊢;show k _ D ⟨L,G⟩ (l2.trans (Zl hD)) ⟨Zs ..,Zl hD _ _ hl2,Zl hD _ _ hg2,hLG⟩ hDσ hL hGσ
theorem gp {m:Int} (x:AG c) (cm:c.calm=true) (lv:1<=c.lv) (hW:AF U w P B) (hg:B.gone.length<=900)
  (k:∀ U' P',AF U' w P' (B.forget m)->Ac U U' w P P'->Q (.int (B.forgot m)) U'):AM VR c V [.ref w,.int m] (λvs=>call (.ref 632) vs) U Q X:=by
 show ag f632 x s!"o" s!"r" rfl s!"r" λLA=>?_
 symm
 show td ?_;show ac s!"r" ?_
 symm
 show ah (λh=>?_) (λh=>?_)
 ·have h:minI m B.top<=B.floor:=of_decide_eq_true h
  symm
  have:=k U P (by unfold Bx.forget;rw [Zw h];show hW) .refl;unfold Bx.forgot at this;rw [Zw h] at this;show this
 ·have h:¬ minI m B.top<=B.floor:=of_decide_eq_false h;show gi ?_;show af ?_;show cc (Int × Int) rfl s!"cns" s!"cok" ?_
  symm
  show ⟨B.gone,bO,λp=>decide (minI m B.top < p.2),bO,λU'=>Le U U',_,ar hW.g,λ_ _ h l=>h.trans l,sz s!"o",Le.refl _,λU' l=>l _ _ hW.g,λcl C p hp=>?_,λU3 D l₃ hD=>?_⟩
  ·intro U4 l₄;show aD (ac s!"r" ?_) ⟨_,.tail _ Zh,rfl,rfl⟩;show aT ?_
   symm
   symm
   show ⟨rfl,?_⟩;show ah (λ_=>?_) (λ_=>Le.refl _)
   symm
   show ⟨rfl,Le.refl _⟩
  ·show ac s!"r" ?_;show bJ hD λU4 l₄ h₄=>?_;have l:=l₃.trans l₄;have hW4:=hW.le l;have hDσ:=au l₃ hD;have h₄:U4 D=some (.list ((B.kept m).map bO)):=h₄
   symm
   show bI hW4.g (by simp;left) ?_
   symm
   have hkl:(B.kept m).length<=B.gone.length:=Em _ _;show bI h₄ (by simp;left) ?_
   symm
   rw [EQ,EQ];show k9 hW4 h₄ (by rintro rfl;rw [hW.l] at hDσ;cases hDσ) λU5 hW5 f₅=>?_
   symm
   show pD hW5 λU6 hW6 f₆=>?_
   symm
   have:=k U6 { P with g:=D } (by unfold Bx.forget;rw [Zv h];show hW6) ((Ac.mkG hDσ l f₅).after (.of_fr f₆));unfold Bx.forgot at this;rw [Zv h] at this;show this
noncomputable def bM (t:Str):Str:=if Txt.lower t = "\\seen" then "\\Seen" else if Txt.lower t = "\\deleted" then "\\Deleted" else if Txt.lower t = "\\flagged" then "\\Flagged" else t
noncomputable def qg (t:Str):Bool:=!(Builtin.Str.occurrences t " " 0 t.length 1).isEmpty
noncomputable def dX:List Str->List Str->Option (List Str)
 | acc,[]=>some acc
 | acc,t::ts=>if qg (bM t) then none else dX (aR acc (bM t)) ts
theorem mt:∀ fs∈bt,dX [] fs=aY [] fs:=s!"k"
theorem jB:∀ fs∈bt,fs.length<=5/\∀ t∈fs,t.length<=20:=s!"k"
theorem tU (t:Str):(vAt (mrg [] [("\\seen",.str "\\Seen"),("\\deleted",.str "\\Deleted"),("\\flagged",.str "\\Flagged")]) (Txt.lower t)).getD (.str t)=.str (bM t):=by
 have e:mrg [] [("\\seen",.str "\\Seen"),("\\deleted",.str "\\Deleted"),("\\flagged",.str "\\Flagged")]=[(("\\seen" : Str),AB.str "\\Seen"),("\\deleted",.str "\\Deleted"),("\\flagged",.str "\\Flagged")]:=by rfl
 rw [e];unfold bM;by_cases h1:Txt.lower t = "\\seen"
 ·rw [h1,Zw rfl];rfl
 by_cases h2:Txt.lower t = "\\deleted"
 ·rw [h2,Zv s!"k",Zw rfl];rfl
 by_cases h3:Txt.lower t = "\\flagged"
 ·rw [h3,Zv s!"k",Zv s!"k",Zw rfl];rfl
 rw [Zv h1,Zv h2,Zv h3];unfold vAt;simp [Ne.symm h1,Ne.symm h2,Ne.symm h3]
theorem mZ (t:Str):(bM t).length<=t.length+20:=by
 unfold bM
 repeat (first | (split;· (have:Str.length "\\Seen" <= 20:=by decide +kernel);left) | (split;· (have:Str.length "\\Deleted" <= 20:=by decide +kernel);left) | (split;· (have:Str.length "\\Flagged" <= 20:=by decide +kernel);left))
 left
theorem fQ {vs:List Expr}{attr:Str}{whole:Sem Value}:attributeBase (.Dict ks vs p) attr env whole=whole:=rfl
theorem dW (x:AG c) (cm:c.calm=true) (lv:1<=c.lv) (hz:ts.length<=5) (hl:∀ t∈ts,t.length<=20)
  (k:∀ ns,dX [] ts=some ns->Q (bB (aH ns)) U) (kn:dX [] ts=none->Q .none U):AM VR c V [bB ts] (λvs=>call (.ref 579) vs) U Q X:=by
 show AM.tidy ?_;show ag f579 x s!"o" s!"r" rfl s!"r" λLA=>?_
 symm
 show ⟨s!"d",λD hD=>(ac s!"r" ?_)⟩;show bJ hD λU1 l₁ h₁=>?_;show af ?_;show bu (α:=Str) .str rfl ?_
 symm
 let J1:=λ(r:List Str) (V':List NV) (U':AA)=>∃ v z acc,V'=[⟨"flags",.local,some (bB ts)⟩,⟨"found",.local,some (.ref D)⟩,⟨"text",.local,v⟩,⟨"own",.local,z⟩,.gl "tuple",.gl "sorted"]/\Le U U'/\U' D=some (.list (acc.map .str))/\acc.length+r.length<=5/\(∀ t∈r,t.length<=20)/\dX [] ts=dX acc r
 show ⟨ts,_,J1,
  dR,(ei3 _ _ ([]) (ai6 rfl l₁ h₁ (by simpa using hz) hl rfl)),λ_ _ _ _=>trivial,?_,?_⟩
 ·intro t r V1 U2 r1z;obtain ⟨v,z,acc⟩|⟨rfl,l₂,h₂,hlen,hr,hrow⟩:=r1z;simp only [EF] at hlen;have ht:=hr t Zh;have hol:=mZ t;rw [show dX acc (t::r)=if qg (bM t) then none else dX (aR acc (bM t)) r from rfl] at hrow;show aB rfl (ac s!"r" ?_);show af ?_
  with_reducible show bX s!"u" ?_
  show em_dict_get ?_ (hbase:=fQ);show ev_dict ?_;show bH ?_
  symm
  show bH ?_
  symm
  show bH ?_
  symm
  show gN λE hE=>?_;have og:=tU t;generalize mrg [] [("\\seen",.str "\\Seen"),("\\deleted",.str "\\Deleted"),("\\flagged",.str "\\Flagged")]=T at og ⊢;have l₃:Le U2 (U2.set E (.dictS T)):=Zl hE;have hE3:(U2.set E (.dictS T)) E=some (.dictS T):=Zs ..;generalize (U2.set E (.dictS T))=U3 at l₃ hE3 ⊢;show ⟨dz hE3,?_⟩
  symm
  show tw hE3 ?_;rw [og];show ac s!"r" ?_;have h₃:=l₃ _ _ h₂
  symm
  show ah (λhq=>?_) (λhq=>?_)
  ·have hq:qg (bM t)=true:=hq;rw [Zw hq] at hrow
   symm
   show AK.of (l₂.trans l₃) (kn hrow)
  ·have hq:qg (bM t)=false:=hq;rw [Zv (by rw [hq];decide)] at hrow
   symm
   show ah (λhq2=>?_) (λhq2=>?_)
   ·have hq2:acc.any (· == bM t)=false:=by simpa using hq2
    symm
    show ⟨cK h₃,?_⟩
    symm
    show ct h₃ (sz (by rw [EQ];left)) ?_
    symm
    have e:aR acc (bM t)=acc++[bM t]:=by unfold aR;rw [Zv (by rw [hq2];decide)]
    show AK.of Zr (ei3 _ _ (acc++[bM t]) (ai6 rfl ?_ (by rw [Zs,Eh];rfl) (by simp;left) (λu hu=>hr u (.tail _ hu)) (by rw [hrow,e])));show (l₂.trans l₃).setNew hD
   ·have hq2:acc.any (· == bM t)=true:=by simpa using hq2
    symm
    have e:aR acc (bM t)=acc:=by unfold aR;rw [Zw hq2]
    show AK.of Zr (ei3 _ _ acc (ai6 rfl (l₂.trans l₃) h₃ s!"o" (λu hu=>hr u (.tail _ hu)) (by rw [hrow,e])))
 ·intro V1 U2 r2z;obtain ⟨v,z,acc⟩|⟨rfl,l₂,h₂,hlen,hr,hrow⟩:=r2z;simp only [EH] at hlen
  symm
  show df h₂ s!"o" λE hE=>?_
  symm
  show aq (Zs ..) (sz (by rw [EQ,(aw _).length_eq];left)) ?_;show AK.of (l₂.trans (Zl hE)) (k acc hrow)
end
section
variable {c:Cx}{V V' V₂:List NV}{U U1 U' Y:AA}{Q:AB->AA->Prop}{X:AC->AA->Prop}{w:Addr}{P:LG}{B:Bx}
noncomputable def kY (t:Str):Str:=match Txt.split t "/" with
 | [] => ""
 | p::ps=>if Txt.lower p = "inbox" then Txt.join "/" ("INBOX" :: ps) else Txt.join "/" (p::ps)
theorem uw:∀ t∈aQ,t.length<=20/\(Txt.split t "/").length<=3/\(Txt.split t "/").length≠0/\(∀ p∈Txt.split t "/",p.length<=10) /\
  (Builtin.Str.partsBetween t (Builtin.Str.occurrences t "/" 0 t.length (t.length+1)) (Str.length "/")).length<=900:=s!"k"
theorem ty:∀ t∈aQ,kY t=aa t:=s!"k"
theorem ax {t:Str} (x:AG c) (cm:c.calm=true) (lv:1<=c.lv) (ht:t∈aQ) (k:Q (.str (aa t)) U):AM VR c V [.str t] (λvs=>call (.ref 565) vs) U Q X:=by
 show AM.tidy ?_;show an5 (uw t ht) λs1 s2 s3 s4 s5=>?_;rw [<- ty t ht] at k;show ag f565 x s!"o" s!"r" rfl s!"r" λLA=>?_
 symm
 show eP s!"k" (sz s!"o") (sz s!"o") λD hD=>?_;show ac s!"r" ?_;cases hs:Txt.split t "/" with
 | nil=>rw [hs] at s3;simp at s3
 | cons p ps =>
  rw [hs] at s2 s4;simp only [EF] at s2;unfold kY at k;rw [hs] at k;dsimp only at k;have hp:=s4 p Zh;show bJ hD λU1 l₁ h₁=>?_;rw [E5] at h₁
  symm
  show be (n:=0) (y:=.str p) h₁ s!"d" rfl ?_;show ⟨gI,?_⟩
  symm
  have hsum:∀ q:Str,q.length<=10->(((q::ps).map (·.length)).sum+(q::ps).length * Str.length "/")<=16777216:=by
   intro q hq
   have:Str.length "/" = 1:=rfl;rw [this];have h2:∀ ps:List Str,(∀ p∈ps,p.length<=10)->(ps.map (·.length)).sum<=10 * ps.length:=by
    intro ps
    induction ps with
    | nil=>intro _;simp
    | cons a l ih =>
     intro h;have:=ih λp hp=>h p (.tail _ hp);have:=h a Zh;simp only [E5,Ew,EF];left
   have:=h2 ps λp hp=>s4 p (.tail _ hp);simp only [E5,Ew,EF];left
  show ah (λhq=>?_) (λhq=>?_)
  ·have hq:Txt.lower p = "inbox" := eq_of_beq hq;rw [Zw hq] at k
   symm
   show dE h₁ s!"d" s!"d" (by rw [EF];left) ?_;have h₂:(U1.set D (.list ((AB.str p::ps.map .str).set (0:Int).toNat (.str "INBOX")))) D=some (.list (((("INBOX" : Str))::ps).map .str)):=Zs ..;have l₂:Le U (U1.set D (.list ((AB.str p::ps.map .str).set (0:Int).toNat (.str "INBOX")))):=l₁.setNew hD;generalize (U1.set D (.list ((AB.str p::ps.map .str).set (0:Int).toNat (.str "INBOX"))))=U2 at h₂ l₂ ⊢
   symm
   show lK h₂ (hsum _ s!"k") ?_;show AK.of l₂ k
  ·have hq:¬ Txt.lower p = "inbox" := λz=>by rw [z] at hq;simp at hq
   rw [Zv hq] at k
   symm
   show lK (ys:=p::ps) h₁ (hsum _ hp) ?_;show AK.of l₁ k
noncomputable def kF (t:Str):Bool:=!((Txt.split t "/").any (· == "")) && (!(!(Builtin.Str.occurrences t "%" 0 t.length 1).isEmpty) && !(!(Builtin.Str.occurrences t "*" 0 t.length 1).isEmpty))
theorem lI:∀ t∈aQ,kF (aa t)=aJ (aa t)/\(aa t).length<=20/\(Txt.split (aa t) "/").length<=3 /\
  (Builtin.Str.partsBetween (aa t) (Builtin.Str.occurrences (aa t) "/" 0 (aa t).length ((aa t).length+1)) (Str.length "/")).length<=900:=s!"k"
theorem c7 {t:Str} (x:AG c) (cm:c.calm=true) (lv:1<=c.lv) (ht:t∈aQ) (k:Q (.bool (aJ (aa t))) U):AM VR c V [.str (aa t)] (λvs=>call (.ref 572) vs) U Q X:=by
 show AM.tidy ?_;show an4 (lI t ht) λs0 s1 s2 s3=>?_;rw [<- s0] at k;generalize aa t=n at k s0 s1 s2 s3 ⊢;show ag f572 x s!"o" s!"r" rfl s!"r" λLA=>?_;unfold kF at k
 symm
 show eP s!"k" (sz s!"o") (sz s!"o") λD hD=>?_;show tj hD λU1 l₁ h₁=>?_
 symm
 show ah (λhq=>?_) (λhq=>?_)
 ·rw [hq,Bool.true_and] at k
  symm
  show ah (λhq2=>?_) (λhq2=>?_)
  ·rw [hq2,Bool.true_and] at k
   symm
   show AK.of l₁ k
  ·rw [hq2,Bool.false_and] at k;rw [hq2];show AK.of l₁ k
 ·rw [hq,Bool.false_and] at k;rw [hq];show AK.of l₁ k
end
section
variable {c:Cx}{V V' V₂:List NV}{U U1 U' Y:AA}{Q:AB->AA->Prop}{X:AC->AA->Prop}{w v:Addr}{P R:LG}{B G:Bx}
noncomputable def optL:Option AV->AB
 | some L=>letV L
 | none=>.none
theorem my:∀ us∈bF,us.length<=4/\once [] us=us:=s!"k"
theorem gA (h:us∈bF):B.picked us=(bh us).filterMap (aL B.letters):=by
 unfold Bx.picked;rw [(my us h).2]
theorem qz (h:us.all (λu=>(aL Ls u).isSome)=true):(bh us).map (aL Ls)=((bh us).filterMap (aL Ls)).map some:=by
 have key:∀ l:List Int,(∀ u∈l,u∈us)->l.map (aL Ls)=(l.filterMap (aL Ls)).map some:=by
  intro l
  induction l with
  | nil=>intro _;rfl
  | cons u l ih =>
   intro hl;obtain ⟨L,hL⟩:=Option.isSome_iff_exists.mp (List.all_eq_true.mp h u (hl u Zh));rw [E5,E0,hL,E5,ih λv hv=>hl v (.tail _ hv)]
 show key _ λu hu=>(aX _).subset hu
theorem rV :((bh us).map λu=>isN (optL (aL Ls u))).any id=!(us.all λu=>(aL Ls u).isSome):=by
 rw [FF,Bool.eq_iff_iff];simp only [EY,Bool.not_eq_true',List.all_eq_false,Function.comp];constructor
 ·intro r1z;obtain ⟨u⟩|⟨hu,h⟩:=r1z;show ⟨u,(aX _).subset hu,?_⟩;cases z:aL Ls u with
  | none=>simp
  | some L=>rw [z] at h;cases h
 ·intro r2z;obtain ⟨u⟩|⟨hu,h⟩:=r2z;show ⟨u,(aX _).symm.subset hu,?_⟩;cases z:aL Ls u with
  | none=>rfl
  | some L=>rw [z] at h;simp at h
theorem d6 (x:AG c) (cm:c.calm=true) (lv:1<=c.lv) (hW:AF U w P B) (hz:B.letters.length<=900)
  (k:Q (optL (aL B.letters u)) U):AM VR c V [.ref w,.int u] (λvs=>call (.ref 612) vs) U Q X :=
 mW x cm lv hW hz (λL h=>by rw [h] at k;show k) (λh=>by rw [h] at k;show k)
theorem ej (P1:LG->LG) (B1:Bx) (x:AG c) (cm:c.calm=true) (lv:2<=c.lv) (hW:AF U w P B) (hG:AF U v R G) (hz:B.letters.length<=100) (hgz:G.letters.length<=100) (hus:us∈bF)
  (hsrc:∀ U' R',AF U' v R' (G.addAll (B.picked us))->Ac U U' v R R'->AF U' w (P1 R') B1) (hP1:∀ R',(P1 R'=R'/\w=v)\/P1 R'=P) (hb1:B1.letters.length<=200) (hb2:B1.gone.length<=900)
  (hgoal:∀ U1 U2 R' P',AF U1 v R' (G.addAll (B.picked us))->Ac U U1 v R R'->AF U2 w P' (B1.expunge ((B.picked us).map (·.uid)))->Ac U1 U2 w (P1 R') P'->∃ Pv Bv,AF U2 v Pv Bv/\Bv.validity=G.validity)
  (kn:us.all (λu=>(aL B.letters u).isSome)=false->Q (.tup [.bool false,.none]) U)
  (k0:mv=false->us.all (λu=>(aL B.letters u).isSome)=true->∀ U' R',AF U' v R' (G.addAll (B.picked us))->Ac U U' v R R' ->
   Q (.tup [.bool true,.tup [.int G.validity,bw ((B.picked us).map (·.uid)),bw ((aN G.next (B.picked us)).map (·.2))]]) U')
  (k1:mv=true->us.all (λu=>(aL B.letters u).isSome)=true->∀ U1 U2 R' P',AF U1 v R' (G.addAll (B.picked us))->Ac U U1 v R R'->AF U2 w P' (B1.expunge ((B.picked us).map (·.uid)))->Ac U1 U2 w (P1 R') P' ->
   Q (.tup [.bool true,.tup [.int G.validity,bw ((B.picked us).map (·.uid)),bw ((aN G.next (B.picked us)).map (·.2))]]) U2) :
  AM VR c V [.ref w,.ref v,rowV (.copy mv n us g)] (λvs=>call (.ref 627) vs) U Q X:=by
 show AM.tidy ?_;obtain ⟨u4,uo⟩:=my us hus;have hsl:(bh us).length<=4:=by rw [(aX _).length_eq];show u4
 have hpk:=gA (B:=B) hus;show ag f627 x s!"o" s!"r" rfl s!"r" (as:=[.ref w,.ref v,.tup [.str (if mv then ("move" : Str) else ("copy" : Str)),.str n,bw us,.str g]]) λLA=>?_;show af ?_;show iT Int rfl s!"cns" s!"cok" s!"cp" ?_
 symm
 show s9 (ns:=us) s!"o" λD hD=>?_;show .mk (bh us) .int (λu=>optL (aL B.letters u)) _ (ar (Zs ..)) (λU' l=>l _ _ (Zs ..)) (sz s!"o") (λcl C u hu U2 l₂=>?_) λU2 T l₂ hT h₂=>?_
 ·have hW2:=hW.le ((Zl hD).trans l₂)
  symm
  show d6 s!"lib" cm s!"lv" hW2 s!"o" ?_;show ⟨rfl,Le.refl _⟩
 have hTσ:U T=none:=au (Zl hD) hT;show ac s!"r" ?_;have l:=(Zl (o:=.list ((bh us).map .int)) hD).trans l₂;clear l₂;have hW2:=hW.le l;have hG2:=hG.le l;have hTv:T∉aS v R:=by
  simp only [aS,EC,Ed,or_false];rintro (rfl | rfl | rfl)
  ·rw [hG.w] at hTσ;cases hTσ
  ·rw [hG.l] at hTσ;cases hTσ
  ·rw [hG.g] at hTσ;cases hTσ
 show af ?_;show jg ?_
 symm
 show ev_compA (Option AV) rfl s!"cns" s!"cok" s!"cp" ?_
 symm
 show .mk ((bh us).map (aL B.letters)) optL (λo=>.bool (isN (optL o))) _ (by rw [E9];show ar h₂) (λU' l=>l _ _ h₂) (sz (by rw [EQ];left)) (λcl C o ho U3 l₃=>?_) λU4 E l₄ hE h₄=>?_
 ·symm
  cases o with
  | none=>show hY (λas h=>by cases h) ⟨rfl,Le.refl _⟩
  | some L=>show gt ⟨rfl,Le.refl _⟩
 symm
 show r3 (bs:=(bh us).map λu=>isN (optL (aL B.letters u))) (by rw [h₄,E9,E9];rfl) ?_;rw [rV]
 symm
 have h₂:=l₄ _ _ h₂;have hG4:=hG2.le l₄;have l:=l.trans l₄;show ah (λhq=>?_) (λhq=>?_)
 ·have hq:us.all (λu=>(aL B.letters u).isSome)=false:=by simpa using hq
  symm
  show AK.of l (kn hq)
 have hq:us.all (λu=>(aL B.letters u).isSome)=true:=by simpa using hq
 have hmap:(bh us).map (λu=>optL (aL B.letters u))=(B.picked us).map letV:=by
  have:=qz hq;rw [<- hpk] at this;have:=congrArg (List.map optL) this;rw [E9,E9] at this;show this
 rw [hmap] at h₂;have hpl:(B.picked us).length<=4:=Zt (cE _ _) u4;generalize B.picked us=Ls at *
 symm
 show ev_listcomp rfl s!"cns" s!"cok" ?_
 symm
 let J1:=λ(r:List AB) (zs:List AB) (U':AA)=>∃ ds rs R',Ls=ds++rs/\r=rs.map letV/\zs=((aN G.next ds).map (·.2)).map .int/\AF U' v R' (G.addAll ds)/\Ac U4 U' v R R'
 show ⟨J1,
  ⟨_,_,ar h₂,sz (by rw [EQ];left),(ei3 ([]) Ls R (ai5 rfl rfl rfl hG4 .refl)),λ_ _ U' z=>ex3 z λ_ _ _ q=>by have a:=q.2.2.2.2;show a.fr _ _ h₂ hTv⟩,λcl C=>?_,?_⟩
 ·intro y rest zs U5 r3z;obtain ⟨ds,rs,R'⟩|⟨hLs,hr,rfl,hG5,a₅⟩:=r3z;cases rs with
  | nil=>cases hr
  | cons L rs =>
   rw [E5] at hr;cases hr;have ⟨an,al⟩:=cL ds G;have hdl:ds.length<=4:=by rw [hLs] at hpl;simp at hpl;left
   show aD (ac s!"r" ?_) ⟨_,.tail _ Zh,rfl,rfl⟩;show dA ?_;show ifT ?_
   symm
   symm
   symm
   symm
   show fZ s!"lib" cm s!"lv" hG5 s!"o" λU6 R'' hG6 a₆=>?_;show (ei3 (ds++[L]) rs R'' (ai5 (by rw [hLs];simp) rfl ?_ ?_ (a₅.after a₆)))
   ·rw [d8,Eh,Eh,an];rfl
   ·have e:G.addAll (ds++[L])=(G.addAll ds).add L.oct L.flags L.instant:=by unfold Bx.addAll;rw [Ec];rfl
    rw [e];show hG6
 intro ys U5 E2 r4z hE2;obtain ⟨ds,rs,R'⟩|⟨hLs,hr,rfl,hG5,a₅⟩:=r4z;have hrs:rs=[]:=by
  cases rs with
  | nil=>rfl
  | cons _ _=>cases hr
 subst hrs;rw [ET] at hLs;subst hLs;have hpl2:(aN G.next Ls).length<=4:=by rw [cR];show hpl
 show cO hE2 λU6 l₆ h₆=>?_;have hG6:=hG5.le l₆;have a₆:Ac U U6 v R R':=((Ac.of_le l).after a₅).le l₆;have hT6:=l₆ _ _ (a₅.fr _ _ h₂ hTv)
 symm
 show aq h₆ (sz (by rw [EQ,EQ];left)) ?_;show ac s!"r" ?_;have ⟨rn,rg,rv,rf,rt⟩:=dh Ls G;cases mv with
 | false =>
  rw [Zv s!"d"]
  symm
  show ev_compA AV rfl s!"cns" s!"cok" s!"cp" ?_
  symm
  show .mk Ls letV (λL=>.int L.uid) _ (ar hT6) (λU' l=>l _ _ hT6) (sz s!"o") (λcl C L hL Ux lx=>?_) λY1 E3 m₁ hE3 g₁=>?_
  ·symm
   show ⟨rfl,Le.refl _⟩
  symm
  show aq g₁ (sz (by rw [EQ];left)) ?_
  symm
  have em:Ls.map (λL=>AB.int L.uid)=(Ls.map (·.uid)).map .int:=by rw [E9];rfl
  rw [em,rv];show AK.of Zr (k0 rfl hq _ _ (hG6.le m₁) (a₆.le m₁))
 | true =>
  rw [Zw rfl]
  symm
  show ev_compA AV rfl s!"cns" s!"cok" s!"cp" ?_
  symm
  show .mk Ls letV (λL=>.int L.uid) _ (ar hT6) (λU' l=>l _ _ hT6) (sz s!"o") (λcl C L hL Ux lx=>?_) λU8 E3 l₈ hE3 h₈=>?_
  ·symm
   show ⟨rfl,Le.refl _⟩
  have em:Ls.map (λL=>AB.int L.uid)=(Ls.map (·.uid)).map .int:=by rw [E9];rfl
  rw [em] at h₈;show cT ?_;have hE₃σ:U6 E3=none:=hE3;have hG8:=hG6.le l₈;have a₈:=a₆.le l₈;have hW8:=hsrc _ _ hG8 a₈;have hW6:=hsrc _ _ hG6 a₆;show eG (us:=Ls.map (·.uid)) s!"lib" cm s!"lv" hW8 (.inr ⟨E3,rfl,h₈⟩) (λb hb z=>?_) s!"o" hb2 λU9 P' D₉ hW9 a₉ _ _ _=>?_
  ·cases hb;simp only [aS,EC,Ed,or_false] at z;rcases z with z | z | z
   ·rw [z,hW6.w] at hE₃σ;cases hE₃σ
   ·rw [z,hW6.l] at hE₃σ;cases hE₃σ
   ·rw [z,hW6.g] at hE₃σ;cases hE₃σ
  have hTw:T∉aS w (P1 R'):=by
   intro z;rcases hP1 R' with ⟨e1,e2⟩ | e1
   ·rw [e1,e2] at z;rcases a₅.new T z with y | y
    ·show hTv y
    ·rw [h₂] at y;cases y
   ·rw [e1] at z;simp only [aS,EC,Ed,or_false] at z;rcases z with z | z | z
    ·rw [z,hW.w] at hTσ;cases hTσ
    ·rw [z,hW.l] at hTσ;cases hTσ
    ·rw [z,hW.g] at hTσ;cases hTσ
  have hT9:=a₉.fr _ _ (l₈ _ _ hT6) hTw;obtain ⟨Pv,Bv⟩|⟨hv,hvv⟩:=(hgoal _ _ _ _ hG8 a₈ hW9 a₉)
  symm
  show ev_compA AV rfl s!"cns" s!"cok" s!"cp" ?_
  symm
  show .mk Ls letV (λL=>.int L.uid) _ (ar hT9) (λU' l=>l _ _ hT9) (sz s!"o") (λcl C L hL Ux lx=>?_) λY1 E4 m₁ hE4 g₁=>?_
  ·symm
   show ⟨rfl,Le.refl _⟩
  symm
  show aq g₁ (sz (by rw [EQ];left)) ?_
  symm
  have em:Ls.map (λL=>AB.int L.uid)=(Ls.map (·.uid)).map .int:=by rw [E9];rfl
  rw [em,hvv];show AK.of Zr (k1 rfl hq _ _ _ _ hG8 a₈ (hW9.le m₁) (a₉.le m₁))
end
section
variable {c:Cx}{V V' V₂:List NV}{U U1 U' Y:AA}{Q:AB->AA->Prop}{X:AC->AA->Prop}{w v:Addr}{P R:LG}{B G:Bx}
theorem cM {d:BK} (x:AG c) (cm:c.calm=true) (lv:1<=c.lv) (k:Q (.tup [.bool false,.none]) U):AM VR c V [.ref w,rowV d,.none] (λvs=>call (.ref 622) vs) U Q X:=by
 show ag f622 x s!"o" s!"r" rfl s!"r" λLA=>?_
 symm
 show hY (λas h=>by cases h) ?_
 symm
 show k
theorem ei (x:AG c) (cm:c.calm=true) (lv:2<=c.lv) (hW:AF U w P B) (hz:B.letters.length<=100) (ha:BM B.letters)
  (k:(aL B.letters u).isSome=true->∀ U',AF U' w P (B.turn u ns).1->Fr (aS w P) U U'->Q (.tup [.bool true,.bool (B.turn u ns).2]) U') (kn:(aL B.letters u).isSome=false->Q (.tup [.bool false,.none]) U) :
  AM VR c V [.ref w,rowV (.flags n u fs),bB ns] (λvs=>call (.ref 622) vs) U Q X:=by
 show ag f622 x s!"o" s!"r" rfl s!"r" (as:=[.ref w,.tup [.str "flags",.str n,.int u,bB fs],bB ns]) λLA=>?_
 symm
 show gt ?_
 symm
 show d6 s!"lib" cm s!"lv" hW s!"o" ?_;cases hf:aL B.letters u with
 | none =>
  symm
  show hY (λas h=>by cases h) ?_
  symm
  show kn (by rw [hf];rfl)
 | some L =>
  symm
  show gt ?_
  symm
  show iw s!"lib" cm s!"lv" hW s!"o" ha λU1 hW1 f₁=>?_
  symm
  show k (by rw [hf];rfl) _ hW1 f₁
theorem eh (x:AG c) (cm:c.calm=true) (lv:2<=c.lv) (hW:AF U w P B) (hz:B.letters.length<=100) (ha:BM B.letters) (hc:∀ L∈B.letters,Ax L.flags) (hn:Ax ns) (hus:us∈bF)
  (k:∀ U' C R,AF U' w P (B.storeF (if un < 0 then none else some un) way ns us).1->Fr (aS w P) U U'->U C=none->U R=none->U' C=some (.list ((B.storeF (if un < 0 then none else some un) way ns us).2.map .int)) ->
   U' R=some (.list ((((B.picked us).filter (bn (if un < 0 then none else some un))).map (·.uid)).map .int))->Q (.tup [.bool true,.tup [.ref C,.ref R]]) U') :
  AM VR c V [.ref w,rowV (.store n us way fs un),bB ns] (λvs=>call (.ref 622) vs) U Q X:=by
 show AM.tidy ?_;obtain ⟨u4,uo⟩:=my us hus;have hsl:(bh us).length<=4:=by rw [(aX _).length_eq];show u4
 have hpk:=gA (B:=B) hus;have hpl:(B.picked us).length<=4:=Zt (cE _ _) u4;have hpin:=dJ B us;show ag f622 x s!"o" s!"r" rfl s!"r" (as:=[.ref w,.tup [.str "store",.str n,bw us,.str way,bB fs,.int un],bB ns]) λLA=>?_
 symm
 show gt ?_
 symm
 show af ?_;show iT Int rfl s!"cns" s!"cok" s!"cp" ?_
 symm
 show s9 (ns:=us) s!"o" λD hD=>?_;show .mk (bh us) .int (λu=>optL (aL B.letters u)) _ (ar (Zs ..)) (λU' l=>l _ _ (Zs ..)) (sz s!"o") (λcl C u hu U2 l₂=>?_) λU2 T l₂ hT h₂=>?_
 ·have hW2:=hW.le ((Zl hD).trans l₂)
  symm
  show d6 s!"lib" cm s!"lv" hW2 s!"o" ?_;show ⟨rfl,Le.refl _⟩
 show ac s!"r" ?_;have l:=(Zl (o:=.list ((bh us).map .int)) hD).trans l₂;clear l₂;show af ?_;show cc (Option AV) rfl s!"cns" s!"cok" ?_
 symm
 show ⟨(bh us).map (aL B.letters),optL,λo=>!(isN (optL o)),optL,λU'=>Le U2 U',_,by rw [E9];show ar h₂,λ_ _ h l=>h.trans l,sz (by rw [EQ];left),Le.refl _,λU' l=>l _ _ h₂,λcl C o ho=>?_,λU3 TA l₃ hT2=>?_⟩
 ·intro U3 l₃;show aD (ac s!"r" ?_) ⟨_,.tail _ Zh,rfl,rfl⟩;show aT ?_
  symm
  cases o with
  | none =>
   show ff (λas h=>by cases h) ?_
   symm
   show ⟨rfl,Le.refl _⟩
  | some L =>
   show pR ?_
   symm
   show ⟨rfl,?_⟩;show ifT ?_
   symm
   show ⟨rfl,Le.refl _⟩
 have hmap:(((bh us).map (aL B.letters)).filter λo=>!(isN (optL o))).map optL=(B.picked us).map letV:=by
  rw [hpk];generalize bh us=l
  induction l with
  | nil=>rfl
  | cons u l ih =>
   rw [E5,EP,E0];cases aL B.letters u with
   | none=>show ih
   | some L =>
    change letV L::_=letV L::_;rw [ih]
 rw [hmap];show ac s!"r" ?_;show bJ hT2 λU4 l₄ h₄=>?_;have hTσ:U TA=none:=au l (au l₃ hT2);have l:=l.trans (l₃.trans l₄);clear l₃ l₄;have hst:B.storeF (if un < 0 then none else some un) way ns us=(B.picked us).foldl (aW (if un < 0 then none else some un) way ns) (B,[]):=rfl;rw [hst] at k;clear hst;generalize B.picked us=Ls at *;show af ?_;show cc AV rfl s!"cns" s!"cok" ?_
 symm
 show ⟨Ls,letV,bn (if un < 0 then none else some un),λL=>.int L.uid,λU'=>Le U4 U',_,ar h₄,λ_ _ h l=>h.trans l,sz s!"o",Le.refl _,λU' l=>l _ _ h₄,λcl C L hL=>?_,λU5 R l₅ hR=>?_⟩
 ·intro U5 l₅;show aD (ac s!"r" ?_) ⟨_,.tail _ Zh,rfl,rfl⟩;show aT ?_;show Go.mono (Q:=λb U'=>b=bn (if un < 0 then none else some un) L/\U'=U5) ?_ (λb U' hz=>?_) (λ_ _ z=>z)
  ·symm
   show ah (λhq=>?_) (λhq=>?_)
   ·have hq:¬ un < 0:=by have:=of_decide_eq_true hq;left
    rw [Zv hq]
    symm
    symm
    show ah (λhq2=>?_) (λhq2=>?_)
    ·symm
     show ⟨hq2.symm,rfl⟩
    ·show ⟨hq2.symm,rfl⟩
   ·have hq:un < 0:=by have:=of_decide_eq_false hq;left
    rw [Zw hq];show ⟨rfl,rfl⟩
  ·obtain ⟨rfl,rfl⟩:=hz;show ⟨rfl,?_⟩;show ah (λ_=>?_) (λ_=>Le.refl _)
   symm
   show ⟨rfl,Le.refl _⟩
 show ac s!"r" ?_;show bJ hR λU6 l₆ h₆=>?_;have hRσ:U R=none:=au l (au l₅ hR);have l:=l.trans (l₅.trans l₆);have h₄:=l₆ _ _ (l₅ _ _ h₄);clear l₅ l₆;generalize (if un < 0 then none else some un)=o at *
 symm
 show ⟨s!"d",λC hC=>(ac s!"r" ?_)⟩;have hCσ:U C=none:=au l hC;have hTC:TA≠C:=by rintro rfl;rw [h₄] at hC;cases hC
 have hRC:R≠C:=by rintro rfl;rw [h₆] at hC;cases hC
 show bJ hC λU7 l₇ h₇=>?_;have l:=l.trans l₇;have h₄:=l₇ _ _ h₄;have h₆:=l₇ _ _ h₆;have hW7:=hW.le l;have off:∀ {a:Addr},U a=none->a∉aS w P:=λ{a} h z=>by
  simp only [aS,EC,Ed,or_false] at z;rcases z with z | z | z
  ·rw [z,hW.w] at h;cases h
  ·rw [z,hW.l] at h;cases h
  ·rw [z,hW.g] at h;cases h
 have hTf:TA∉C::aS w P:=by rw [EC,not_or];show ⟨hTC,off hTσ⟩
 have hRf:R∉C::aS w P:=by rw [EC,not_or];show ⟨hRC,off hRσ⟩
 have hCw:=off hCσ;show af ?_;show bu (α:=AV) letV rfl ?_
 symm
 let J1:=λ(r:List AV) (V':List NV) (U':AA)=>∃ v1 v2 ds,V'=[⟨"world",.cell,some (.ref w)⟩,⟨"row",.cell,some (.tup [.str "store",.str n,bw us,.str way,bB fs,.int un])⟩,⟨"known",.cell,some (bB ns)⟩,⟨"there",.local,some (.ref TA)⟩,⟨"letter",.cell,v1⟩,⟨"refused",.local,some (.ref R)⟩,⟨"changed",.local,some (.ref C)⟩,⟨"due",.local,v2⟩,.gl "_law_find",.gl "_law_turn",.gl "sorted",.gl "tuple",.gl "list"]/\Ls=ds++r/\AF U' w P (ds.foldl (aW o way ns) (B,[])).1/\Fr (C::aS w P) U7 U'/\U' C=some (.list ((ds.foldl (aW o way ns) (B,[])).2.map .int))
 show ⟨Ls,_,J1,
  ar h₄,(ei3 _ _ ([]) (ai5 rfl rfl hW7 Fr.refl h₇)),λ_ _ U' z=>ex3 z λ_ _ _ q=>by have f:=q.2.2.2.1;show f _ _ h₄ hTf,?_,?_⟩
 ·intro L r V1 U8 r1z;obtain ⟨v1,v2,ds⟩|⟨rfl,hLs,hW8,f₈,hC8⟩:=r1z;have hLin:L∈Ls:=by rw [hLs];simp
  have hcl:Ax L.flags:=hc L (hpin L hLin);have hstep:(ds++[L]).foldl (aW o way ns) (B,[])=aW o way ns (ds.foldl (aW o way ns) (B,[])) L:=by rw [Ec];rfl
  show an3 (rG (un:=o) (way:=way) (fs:=ns) ds (B,[]) ha) λq1 q2 q3=>?_;have hdl:ds.length<=4:=by rw [hLs] at hpl;simp at hpl;left
  have q2:(ds.foldl (aW o way ns) (B,[])).1.letters.length=B.letters.length:=q2;have q3:(ds.foldl (aW o way ns) (B,[])).2.length<=0+ds.length:=q3;have hLf:=hcl.2.2;have hnf:=hn.2.2;show aB rfl (ac s!"r" ?_);show af ?_
  with_reducible show bX s!"u" ?_
  show ev_name s!"look" (ac s!"r" ?_);show af ?_;show WS.mono (N':=λV' U'=>V'=[⟨"world",.cell,some (.ref w)⟩,⟨"row",.cell,some (.tup [.str "store",.str n,bw us,.str way,bB fs,.int un])⟩,⟨"known",.cell,some (bB ns)⟩,⟨"there",.local,some (.ref TA)⟩,⟨"letter",.cell,some (letV L)⟩,⟨"refused",.local,some (.ref R)⟩,⟨"changed",.local,some (.ref C)⟩,⟨"due",.local,some (bB (due1 L.flags way ns))⟩,.gl "_law_find",.gl "_law_turn",.gl "sorted",.gl "tuple",.gl "list"]/\Le U8 U') ?_ (λV' U9 z=>?_)
  ·show jg ?_
   symm
   show ah (λhq=>?_) (λhq=>?_)
   ·have hq:way = "+" := eq_of_beq hq
    symm
    symm
    show jV (xs:=L.flags.map .str) (sz (by rw [EQ];left)) λE hE=>?_
    symm
    show ev_compP Str rfl s!"cns" s!"cok" ?_
    symm
    show ⟨ns,.str,λf=>!(L.flags.any (· == f)),.str,λU'=>Le (U8.set E (.list (L.flags.map .str))) U',_,dR,λ_ _ h l=>h.trans l,sz s!"o",Le.refl _,λ_ _=>trivial,λcl C' f hf=>?_,λU9 F l₉ hF=>?_⟩
    ·intro U9 l₉;show aD (ac s!"r" ?_) ⟨_,.tail _ Zh,rfl,rfl⟩;show aT ?_
     symm
     symm
     show ⟨rfl,?_⟩;show ah (λ_=>?_) (λ_=>Le.refl _)
     symm
     show ⟨rfl,Le.refl _⟩
    ·show eY (Zl hF _ _ (l₉ _ _ (Zs ..))) (Zs ..) (sz (by
      have:=Em (λf=>!(L.flags.any (· == f))) ns
      simp only [EQ];left)) λH hH=>?_
     rw [<- Eh]
     symm
     show df (Zs ..) (by
      have:=Em (λf=>!(L.flags.any (· == f))) ns
      rw [EG];left) λI hI=>?_
     symm
     show aq (Zs ..) (sz (by
      have:=Em (λf=>!(L.flags.any (· == f))) ns
      rw [EQ,(aw _).length_eq,EG];left)) ?_
     show ac s!"r" ?_
     symm
     show ⟨?_,(((Zl hE).trans l₉).trans (Zl hF)).trans ((Zl hH).trans (Zl hI))⟩;unfold due1;rw [Zw hq];rfl
   ·have hq:¬ way = "+" := λz=>by rw [z] at hq;simp at hq
    symm
    show ⟨by unfold due1;rw [Zv hq],Le.refl _⟩
  obtain ⟨rfl,l₉⟩:=z;show af ?_;show WS.mono (N':=λV' U'=>V'=[⟨"world",.cell,some (.ref w)⟩,⟨"row",.cell,some (.tup [.str "store",.str n,bw us,.str way,bB fs,.int un])⟩,⟨"known",.cell,some (bB ns)⟩,⟨"there",.local,some (.ref TA)⟩,⟨"letter",.cell,some (letV L)⟩,⟨"refused",.local,some (.ref R)⟩,⟨"changed",.local,some (.ref C)⟩,⟨"due",.local,some (bB (due2 L.flags way ns))⟩,.gl "_law_find",.gl "_law_turn",.gl "sorted",.gl "tuple",.gl "list"]/\Le U8 U') ?_ (λV' U0 z=>?_)
  ·show jg ?_
   symm
   show ah (λhq=>?_) (λhq=>?_)
   ·have hq:way = "-" := eq_of_beq hq
    symm
    show ev_compP Str rfl s!"cns" s!"cok" ?_
    symm
    show ⟨L.flags,.str,λf=>!(ns.any (· == f)),.str,λU'=>Le U9 U',_,dR,λ_ _ h l=>h.trans l,sz s!"o",Le.refl _,λ_ _=>trivial,λcl C' f hf=>?_,λU0 F l₀ hF=>?_⟩
    ·intro U0 l₀;show aD (ac s!"r" ?_) ⟨_,.tail _ Zh,rfl,rfl⟩;show aT ?_
     symm
     show dn (xs:=ns) ?_
     symm
     show ⟨rfl,?_⟩;show ah (λ_=>?_) (λ_=>Le.refl _)
     symm
     show ⟨rfl,Le.refl _⟩
    ·symm
     show aq (Zs ..) (sz (by
      have:=Em (λf=>!(ns.any (· == f))) L.flags
      rw [EQ];left)) ?_
     show ac s!"r" ?_
     symm
     show ⟨?_,(l₉.trans l₀).trans (Zl hF)⟩;unfold due2;rw [Zw hq];rfl
   ·have hq:¬ way = "-" := λz=>by rw [z] at hq;simp at hq
    symm
    show ⟨by unfold due2;rw [Zv hq],l₉⟩
  obtain ⟨rfl,l₀⟩:=z;rw [tG hcl.1 hn.1];have hW0:=hW8.le l₀;have hC0:=l₀ _ _ hC8;have f₀:=f₈.le l₀;have hR0:U0 R=some (.list (((Ls.filter (bn o)).map (·.uid)).map .int)):=by rw [f₀ _ _ h₆ hRf,E9];rfl
  have hany:((Ls.filter (bn o)).map (·.uid)).any (· == L.uid)=bn o L:=by
   rw [Bool.eq_iff_iff,EY];constructor
   ·intro r2z;obtain ⟨u⟩|⟨hu,e⟩:=r2z;obtain ⟨M⟩|⟨hM,rfl⟩:=(ZM hu)
    obtain ⟨hM1,hM2⟩:=ZF hM
    have:M=L:=ha.uniq (hpin M hM1) (hpin L hLin) (eq_of_beq e);rw [<- this];show hM2
   ·intro h;show ⟨L.uid,E7 (List.mem_filter.mpr ⟨hLin,h⟩),s!"s"⟩
  symm
  symm
  show iz hR0 ?_;rw [hany]
  symm
  show ah (λhq=>?_) (λhq=>?_)
  ·have hq:bn o L=false:=by simpa using hq
   have hs2:aW o way ns (ds.foldl (aW o way ns) (B,[])) L=(((ds.foldl (aW o way ns) (B,[])).1.turn L.uid (aG L.flags way ns)).1,if ((ds.foldl (aW o way ns) (B,[])).1.turn L.uid (aG L.flags way ns)).2 then (ds.foldl (aW o way ns) (B,[])).2++[L.uid] else (ds.foldl (aW o way ns) (B,[])).2):=by
    unfold aW;rw [hq];rfl
   symm
   symm
   show iw s!"lib" cm s!"lv" hW0 s!"o" q1 λY1 hτ ft=>?_;have hCτ:=ft _ _ hC0 hCw
   symm
   show ah (λhq2=>?_) (λhq2=>?_)
   ·symm
    show ⟨cK hCτ,?_⟩
    symm
    symm
    show ct hCτ (sz (by rw [EQ];left)) ?_
    symm
    show AK.of Zr (ei3 _ _ (ds++[L]) (ai5 rfl (by rw [hLs];simp) ?_ ((f₀.trans (ft.mono λa h=>.tail _ h)).set Zh) ?_))
    ·rw [hstep,hs2];show hτ.fr (F:=[C]) (Fr.refl.set Zh) λa h z=>hCw (by rw [<- ZS z];show h)
    ·rw [hstep,hs2,Zs,Zw hq2,Eh];rfl
   ·symm
    show AK.of Zr (ei3 _ _ (ds++[L]) (ai5 rfl (by rw [hLs];simp) ?_ (f₀.trans (ft.mono λa h=>.tail _ h)) ?_))
    ·rw [hstep,hs2];show hτ
    ·rw [hstep,hs2,Zv (by rw [hq2];decide)];show hCτ
  ·have hq:bn o L=true:=by simpa using hq
   have hs2:aW o way ns (ds.foldl (aW o way ns) (B,[])) L=ds.foldl (aW o way ns) (B,[]):=by unfold aW;rw [hq];rfl
   symm
   show AK.of Zr (ei3 _ _ (ds++[L]) (ai5 rfl (by rw [hLs];simp) (by rw [hstep,hs2];show hW0) f₀ (by rw [hstep,hs2];show hC0)))
 ·intro V1 U8 r3z;obtain ⟨v1,v2,ds⟩|⟨rfl,hLs,hW8,f₈,hC8⟩:=r3z;rw [ET] at hLs;subst hLs
  symm
  show AK.of Zr (k U8 C R hW8 (Fr.drop (P:=C) ?_ hCσ) hCσ hRσ hC8 ?_)
  ·show (l.fr (F:=C::aS w P)).trans f₈
  ·rw [f₈ _ _ h₆ hRf,E9];rfl
end
structure OA where
 d:Addr
 s:Addr
 b:Addr
structure AI where
 n:Str
 w:Addr
 P:LG
 B:Bx
variable {Ws:List AI}
noncomputable def AI.foot (e:AI):List Addr:=aS e.w e.P
noncomputable def oD (O:OA) (nx:Int):List (Str × AB):=[("next",.int nx),("names",.ref O.s),("boxes",.ref O.b)]
noncomputable def oB (Ws:List AI):List (Str × AB):=Ws.map λe=>(e.n,.ref e.w)
noncomputable def stoO (Ws:List AI) (ns:List Str) (nx:Int):Bh:=⟨Ws.map λe=>(e.n,e.B),ns,nx⟩
structure AQ (U:AA) (O:OA) (Ws:List AI) (ns:List Str) (nx:Int):Prop where
 d:U O.d=some (.dictS (oD O nx))
 s:U O.s=some (.list (ns.map .str))
 b:U O.b=some (.dictS (oB Ws))
 box:∀ e∈Ws,AF U e.w e.P e.B
 keys:(Ws.map (·.n)).Nodup
 apart:(Ws.flatMap (·.foot)).Nodup
 off:∀ e∈Ws,O.d∉e.foot/\O.s∉e.foot/\O.b∉e.foot
 db:O.d≠O.b
noncomputable def bN (O:OA) (Ws:List AI):List Addr:=O.d::O.s::O.b::Ws.flatMap (·.foot)
structure Ab (U U':AA) (O:OA) (Ws:List AI) (O':OA) (Ws':List AI):Prop where
 d:O'.d=O.d
 b:O'.b=O.b
 fr:Fr (bN O Ws) U U'
 new:∀ a∈bN O' Ws',a∈bN O Ws\/U a=none
section
variable {U U1 U':AA}{O O1 O':OA}{Ws W1 Ws':List AI}{ns:List Str}{nx:Int}{F:List Addr}
theorem Ab.refl:Ab U U O Ws O Ws:=⟨rfl,rfl,Fr.refl,λ_ h=>.inl h⟩
theorem Ab.le (K:Ab U U1 O Ws O' Ws') (l:Le U1 U'):Ab U U' O Ws O' Ws':=⟨K.d,K.b,K.fr.le l,K.new⟩
theorem Ab.of_le (l:Le U U'):Ab U U' O Ws O Ws:=Ab.refl.le l
theorem Ab.trans (K:Ab U U1 O Ws O1 W1) (J:Ab U1 U' O1 W1 O' Ws'):Ab U U' O Ws O' Ws':=by
 show ⟨J.d.trans K.d,J.b.trans K.b,λa o e n=>J.fr a o (K.fr a o e n) λz=>?_,λa ha=>?_⟩
 ·rcases K.new a z with h | h
  ·show n h
  ·rw [h] at e;cases e
 ·rcases J.new a ha with h | h
  ·show K.new a h
  ·by_cases n:a∈bN O Ws
   ·show .inl n
   ·cases z:U a with
    | none=>show .inr rfl
    | some o=>rw [K.fr a o z n] at h;cases h
theorem gU {e:AI} (he:e∈Ws):∀ a∈e.foot,a∈bN O Ws:=λa ha=>.tail _ (.tail _ (.tail _ (List.mem_flatMap.mpr ⟨e,he,ha⟩)))
theorem AF.told {w:Addr} (h:AF U w P B):∀ a∈aS w P,∃ o,U a=some o:=λa ha=>by
 simp only [aS,EC,Ed,or_false] at ha;rcases ha with rfl | rfl | rfl
 ·show ⟨_,h.w⟩
 ·show ⟨_,h.l⟩
 ·show ⟨_,h.g⟩
theorem AQ.told (R:AQ U O Ws ns nx):∀ a∈bN O Ws,∃ o,U a=some o:=λa ha=>by
 simp only [bN,EC] at ha;rcases ha with rfl | rfl | rfl | ha
 ·show ⟨_,R.d⟩
 ·show ⟨_,R.s⟩
 ·show ⟨_,R.b⟩
 ·obtain ⟨e⟩|⟨he,h⟩:=(List.mem_flatMap.mp ha)
  show (R.box e he).told a h
theorem AQ.off_new (R:AQ U O Ws ns nx) {a:Addr} (h:U a=none):a∉bN O Ws:=λz=>by
 obtain ⟨o,e⟩:=R.told a z;rw [h] at e;cases e
theorem AQ.fr (R:AQ U O Ws ns nx) (f:Fr F U U') (hn:∀ a∈bN O Ws,a∉F):AQ U' O Ws ns nx :=
 { R with d:=f _ _ R.d (hn _ Zh),s:=f _ _ R.s (hn _ (.tail _ Zh)),b:=f _ _ R.b (hn _ (.tail _ (.tail _ Zh))),box:=λe he=>(R.box e he).fr f λa ha=>hn a (gU he a ha) }
theorem AQ.le (R:AQ U O Ws ns nx) (l:Le U U'):AQ U' O Ws ns nx:=R.fr (F:=[]) l.fr λ_ _ h=>by cases h
theorem AQ.feet (R:AQ U O Ws ns nx) {e d:AI} (he:e∈Ws) (hd:d∈Ws) (hn:e.n≠d.n):∀ a∈d.foot,a∉e.foot:=by
 have key:∀ Ws:List AI,(Ws.flatMap (·.foot)).Nodup->e∈Ws->d∈Ws->∀ a∈d.foot,a∉e.foot:=by
  intro Ws
  induction Ws with
  | nil=>intro _ h;cases h
  | cons f Ws ih =>
   intro ap h1 h2 a ha;rw [Ez,Er] at ap;rcases ZC h1 with z1 | z1
   ·rcases ZC h2 with z2 | z2
    ·show absurd (by rw [z1,z2]) hn
    ·intro hb;rw [z1] at hb;show ap.2.2 a hb a (List.mem_flatMap.mpr ⟨d,z2,ha⟩) rfl
   ·rcases ZC h2 with z2 | z2
    ·intro hb;rw [z2] at ha;show ap.2.2 a ha a (List.mem_flatMap.mpr ⟨e,z1,hb⟩) rfl
    ·show ih ap.2.1 z1 z2 a ha
 show key Ws R.apart he hd
theorem c9 {d e:AI}:∀ {Ws:List AI},(Ws.map (·.n)).Nodup->d∈Ws->e∈Ws->d.n=e.n->d=e:=by
 intro Ws
 induction Ws with
 | nil =>
  intro _ h _ _;cases h
 | cons f Ws ih =>
  intro k hd he hn;rw [E5,E6] at k;rcases ZC hd with z1 | z1
  ·rcases ZC he with z2 | z2
   ·rw [z1,z2]
   ·show absurd (by rw [<- z1,hn];show E7 z2) k.1
  ·rcases ZC he with z2 | z2
   ·show absurd (by rw [<- z2,<- hn];show E7 z1) k.1
   ·show ih k.2 z1 z2 hn
noncomputable def aO (Ws:List AI) (n:Str):Option AI:=Ws.find? λe=>decide (e.n=n)
theorem bA {e:AI} (h:aO Ws n=some e):e∈Ws/\e.n=n:=⟨Ek h,by simpa using Et h⟩
theorem dS (h:aO Ws n=none):n∉Ws.map (·.n):=λz=>by
 obtain ⟨e⟩|⟨he,rfl⟩:=(ZM z)
 have:=List.find?_eq_none.mp h e he;simp at this
theorem cz {Ws:List AI}:vAt (oB Ws) n=(aO Ws n).map λe=>.ref e.w:=by
 unfold vAt oB aO
 induction Ws with
 | nil=>rfl
 | cons e Ws ih =>
  rw [E5,Eg,Eg];by_cases h:e.n=n
  ·simp [h]
  ·simp only [h,decide_false];show ih
theorem dD {Ws:List AI}:aA (Ws.map λe=>(e.n,e.B)) n=(aO Ws n).map (·.B):=by
 unfold aA aO
 induction Ws with
 | nil=>rfl
 | cons e Ws ih =>
  rw [E5,Eg,Eg];dsimp only;by_cases h:e.n=n
  ·simp [h]
  ·simp only [h,decide_false];show ih
noncomputable def setO (Ws:List AI) (n:Str) (P:LG) (B:Bx):List AI:=Ws.map λe=>if e.n=n then ⟨n,e.w,P,B⟩ else e
theorem rc (Ws:List AI) (n:Str) (P:LG) (B:Bx):(setO Ws n P B).map (·.n)=Ws.map (·.n):=by
 unfold setO;rw [E9];apply ED;intro e _;change (if e.n=n then (⟨n,e.w,P,B⟩:AI) else e).n=e.n;split
 ·rename_i h;show h.symm
 ·rfl
theorem gF (Ws:List AI) (n:Str) (P:LG) (B:Bx):(setO Ws n P B).map (λe=>(e.n,e.B))=setB (Ws.map λe=>(e.n,e.B)) n B:=by
 unfold setO setB;rw [E9,E9];apply ED;intro e _;change ((if e.n=n then (⟨n,e.w,P,B⟩:AI) else e).n,(if e.n=n then (⟨n,e.w,P,B⟩:AI) else e).B)=if e.n=n then (n,B) else (e.n,e.B)
 split<;>rfl
theorem tP (Ws:List AI) (n:Str) (P:LG) (B:Bx):oB (setO Ws n P B)=oB Ws:=by
 unfold oB setO;rw [E9];apply ED;intro e _;change ((if e.n=n then (⟨n,e.w,P,B⟩:AI) else e).n,AB.ref (if e.n=n then (⟨n,e.w,P,B⟩:AI) else e).w)=_;split
 ·rename_i h;rw [h]
 ·rfl
theorem mi {d:AI} (hd:d∈setO Ws n P B):(∃ e∈Ws,e.n=n/\d=⟨n,e.w,P,B⟩)\/(d∈Ws/\d.n≠n):=by
 obtain ⟨e⟩|⟨he,rfl⟩:=(ZM hd)
 by_cases h:e.n=n
 ·show .inl ⟨e,he,h,by rw [Zw h]⟩
 ·show .inr ⟨by rw [Zv h];show he,by rw [Zv h];show h⟩
theorem sW {e:AI} (he:e∈Ws) (h:e.n=n):(⟨n,e.w,P,B⟩:AI)∈setO Ws n P B:=by
 unfold setO;have:=E7 (f:=λe:AI=>if e.n=n then (⟨n,e.w,P,B⟩:AI) else e) he;rw [Zw h] at this;show this
theorem jf {e:AI} (he:e∈Ws) (h:e.n≠n):e∈setO Ws n P B:=by
 unfold setO;have:=E7 (f:=λe:AI=>if e.n=n then (⟨n,e.w,P,B⟩:AI) else e) he;rw [Zv h] at this;show this
theorem di {w:Addr} (h:AF U w P B):(aS w P).Nodup:=by
 unfold aS;have h1:=h.lw;have h2:=h.gw;have h3:=h.lg;simp [Ne.symm h1,Ne.symm h2,h3]
theorem pL {e:AI}:∀ {Ws:List AI},e∈Ws->e.n=n->(Ws.map (·.n)).Nodup->(Ws.flatMap (·.foot)).Nodup->(aS e.w P).Nodup ->
  (∀ a∈aS e.w P,a∈e.foot\/∀ d∈Ws,a∉d.foot)->((setO Ws n P B).flatMap (·.foot)).Nodup/\∀ a,a∈(setO Ws n P B).flatMap (·.foot)->a∈aS e.w P\/a∈Ws.flatMap (·.foot):=by
 intro Ws
 induction Ws with
 | nil =>
  intro he _ _ _ _ _;cases he
 | cons d Ws ih =>
  intro he hn kd ap hA hf;rw [E5,E6] at kd;rw [Ez,Er] at ap;have no:n∉Ws.map (·.n)->setO Ws n P B=Ws:=λh=>by
   unfold setO
   conv=>rhs;rw [<- Ey Ws]
   apply ED;intro e he;rw [Zv (λz=>h (by rw [<- z];show E7 he))];rfl
  by_cases hd:d.n=n
  ·have hde:d=e:=by
    rcases ZC he with z | z
    ·show z.symm
    ·show absurd (by rw [hd,<- hn];show E7 z) kd.1
   subst hde;have e1:setO (d::Ws) n P B=⟨n,d.w,P,B⟩::Ws:=by
    change (if d.n=n then (⟨n,d.w,P,B⟩:AI) else d)::setO Ws n P B=_;rw [Zw hd,no (by rw [<- hd];show kd.1)]
   rw [e1,Ez];show ⟨?_,λa ha=>?_⟩
   ·rw [Er];show ⟨hA,ap.2.1,λa ha b hb=>?_⟩;rintro rfl;rcases hf a ha with z | z
    ·show ap.2.2 a z a hb rfl
    ·obtain ⟨e'⟩|⟨he',h'⟩:=(List.mem_flatMap.mp hb)
     show z e' (.tail _ he') h'
   ·rcases ZA ha with ha | ha
    ·show .inl ha
    ·show .inr (by rw [Ez];show F0 _ ha)
  ·have he':e∈Ws:=(ZC he).resolve_left λz=>hd (by rw [<- z];show hn);obtain ⟨i1,i2⟩:=ih he' hn kd.2 ap.2.1 hA λa ha=>(hf a ha).imp id λz d hd=>z d (.tail _ hd);have e1:setO (d::Ws) n P B=d::setO Ws n P B:=by
    change (if d.n=n then (⟨n,d.w,P,B⟩:AI) else d)::setO Ws n P B=_;rw [Zv hd]
   rw [e1,Ez];show ⟨?_,λa ha=>?_⟩
   ·rw [Er];show ⟨ap.1,i1,λa ha b hb=>?_⟩;rintro rfl;rcases i2 a hb with z | z
    ·rcases hf a z with y | y
     ·show ap.2.2 a ha a (List.mem_flatMap.mpr ⟨e,he',y⟩) rfl
     ·show y d Zh ha
    ·show ap.2.2 a ha a z rfl
   ·rcases ZA ha with ha | ha
    ·show .inr (by rw [Ez];show F1 _ ha)
    ·show (i2 a ha).imp id λz=>by rw [Ez];show F0 _ z
theorem AQ.put (R:AQ U O Ws ns nx) {e:AI} (he:e∈Ws)  (hb:AF U' e.w P' B') (ba:Ac U U' e.w e.P P'):AQ U' O (setO Ws e.n P' B') ns nx/\Ab U U' O Ws O (setO Ws e.n P' B'):=by
 have hoff:=R.off e he;have hw:=R.box e he;have fe:∀ a,(∃ o,U a=some o)->a∉e.foot->a∉aS e.w P':=λa ⟨o,q⟩ n z=>(ba.new a z).elim n λz=>by rw [z] at q;cases q
 show ⟨⟨ba.fr _ _ R.d hoff.1,ba.fr _ _ R.s hoff.2.1,by rw [tP];show ba.fr _ _ R.b hoff.2.2,λd hd=>?_,by rw [rc];show R.keys,?_,λd hd=>?_,R.db⟩,⟨rfl,rfl,ba.fr.mono (gU he),λa ha=>?_⟩⟩
 ·rcases mi hd with ⟨e',he',hn,rfl⟩ | ⟨hd,hn⟩
  ·have:e'=e:=c9 R.keys he' he hn;rw [this];show hb
  ·show (R.box d hd).fr ba.fr (R.feet he hd (Ne.symm hn))
 ·show (pL he rfl R.keys R.apart (di hb) λa ha=>(ba.new a ha).imp id λz d hd q=>by
   obtain ⟨o,w⟩:=(R.box d hd).told a q;rw [z] at w;cases w).1
 ·rcases mi hd with ⟨e',he',hn,rfl⟩ | ⟨hd,hn⟩
  ·have:e'=e:=c9 R.keys he' he hn;rw [this];show ⟨fe _ ⟨_,R.d⟩ hoff.1,fe _ ⟨_,R.s⟩ hoff.2.1,fe _ ⟨_,R.b⟩ hoff.2.2⟩
  ·show R.off d hd
 ·simp only [bN,EC] at ha ⊢;rcases ha with h1 | h1 | h1 | h1
  ·show .inl (.inl h1)
  ·show .inl (.inr (.inl h1))
  ·show .inl (.inr (.inr (.inl h1)))
  ·obtain ⟨d⟩|⟨hd,h⟩:=(List.mem_flatMap.mp h1)
   rcases mi hd with ⟨e',he',hn,rfl⟩ | ⟨hd,hn⟩
   ·have:e'=e:=c9 R.keys he' he hn;rw [this] at h;show (ba.new a h).imp (λz=>.inr (.inr (.inr (List.mem_flatMap.mpr ⟨e,he,z⟩)))) id
   ·show .inl (.inr (.inr (.inr (List.mem_flatMap.mpr ⟨d,hd,h⟩))))
end
theorem uu (x:Str) (k:Nat):Txt.slice x none (some (k:Int))=⟨(x.cps.toList.take k).toArray⟩:=by
 rcases Nat.le_total k x.cps.toList.length with h | h
 ·show r5 h
 ·have hl:=eJ x;rw [slice_to_beyond s!"o",show ((x.length:Nat):Int)=((x.cps.toList.length:Nat):Int) from s!"o",r5 (Nat.le_refl _),FC h,List.take_length]
theorem qW (n f:Str):(Txt.slice (n ++ "/") none (some ((f.length:Int)+1)) == f ++ "/")=(n == f || bl n f):=by
 have hf:=eJ f;have hk:((f.length:Int)+1)=((f.cps.toList.length+1:Nat):Int):=s!"o";rw [hk,uu,Bool.eq_iff_iff,Bool.or_eq_true,beq_iff_eq,beq_iff_eq];have e:((⟨((n ++ "/" : Str).cps.toList.take (f.cps.toList.length+1)).toArray⟩:Str)=f ++ "/")↔(n.cps.toList++[47]).take (f.cps.toList.length+1)=f.cps.toList++[47]:=by
  constructor
  ·intro h;have:=congrArg (λs:Str=>s.cps.toList) h;simp only [bV,ci] at this;simpa using this
  ·intro h;apply eU;rw [bV,ci,bV,ci];simpa using h
 rw [e];constructor
 ·intro h;rcases Nat.lt_trichotomy n.cps.toList.length f.cps.toList.length with z | z | z
  ·have:=congrArg List.length h;simp only [FG,EG,List.length_singleton] at this;left
  ·apply Or.inl;rw [FC (by simp [z])] at h;show eU (List.append_cancel_right h)
  ·apply Or.inr;rw [List.take_append_of_le_length s!"o"] at h;unfold bl Txt.startswith
   rw [Bool.and_eq_true];have hl:(f ++ "/").length=f.cps.toList.length+1:=by
    have:(f ++ "/").length=(f ++ "/").cps.toList.length:=eJ _;rw [this,bV,ci];simp
   have hn:=eJ n;show ⟨by rw [hl,decide_eq_true_eq];left,?_⟩;unfold Builtin.Str.subAt;rw [beq_iff_eq];apply Array.toList_inj.mp;rw [hl,bV,ci,<- h];simp [List.extract_eq_take_drop]
 ·rintro (rfl | h)
  ·rw [FC s!"s"]
  ·obtain ⟨r,hr⟩:=fR h;have e2:f.cps.toList++47::r++[47]=(f.cps.toList++[47])++(r++[47]):=s!"s";rw [hr,e2,List.take_append_of_le_length s!"s",FC s!"s"]
section
variable {U U1 U':AA}{O O1 O':OA}{Ws W1 Ws':List AI}{ns:List Str}{nx:Int}{F:List Addr}
theorem iP:vAt (oD O nx) "next" = some (.int nx):=by rfl
theorem eS:vAt (oD O nx) "names" = some (.ref O.s):=by rfl
theorem bi:vAt (oD O nx) "boxes" = some (.ref O.b):=by rfl
theorem mB:(oD O nx).length<=sizeLine:=sz (by unfold oD;simp)
theorem nF :sto (oD O nx) "next" (.int i)=oD O i:=by rfl
theorem kW {s:Addr}:sto (oD O nx) "names" (.ref s)=oD { O with s:=s } nx:=by rfl
theorem AQ.ds (R:AQ U O Ws ns nx):O.s≠O.d/\O.s≠O.b:=by
 show ⟨λe=>?_,λe=>?_⟩
 ·have:=R.s;rw [e,R.d] at this;cases this
 ·have:=R.s;rw [e,R.b] at this;cases this
theorem AQ.setN (R:AQ U O Ws ns nx) (i:Int):AQ (U.set O.d (.dictS (oD O i))) O Ws ns i/\Ab U (U.set O.d (.dictS (oD O i))) O Ws O Ws:=by
 have f:Fr [O.d] U (U.set O.d (.dictS (oD O i))):=Fr.refl.set Zh
 show ⟨⟨Zs ..,by rw [Zn R.ds.1];show R.s,by rw [Zn (Ne.symm R.db)];show R.b,λe he=>(R.box e he).fr f λa ha z=>?_,R.keys,R.apart,R.off,R.db⟩,
  ⟨rfl,rfl,f.mono λa ha=>by rw [ZS ha];show .head _,λ_ h=>.inl h⟩⟩
 rw [ZS z] at ha;show (R.off e he).1 ha
theorem AQ.setS (R:AQ U O Ws ns nx) (l:Le U U1) {s:Addr} (hs:U1 s=some (.list (ms.map .str))) (hn:U s=none) :
  AQ (U1.set O.d (.dictS (oD { O with s:=s } nx))) { O with s:=s } Ws ms nx/\Ab U (U1.set O.d (.dictS (oD { O with s:=s } nx))) O Ws { O with s:=s } Ws:=by
 have R1:=R.le l;have f:Fr [O.d] U1 (U1.set O.d (.dictS (oD { O with s:=s } nx))):=Fr.refl.set Zh;have hsd:s≠O.d:=λe=>by rw [e,R.d] at hn;cases hn
 have nof:∀ e∈Ws,s∉e.foot:=λe he z=>R.off_new hn (gU he _ z)
 show ⟨⟨Zs ..,by change _=_;rw [Zn hsd];show hs,by change _=_;rw [Zn (Ne.symm R.db)];show R1.b,λe he=>(R1.box e he).fr f λa ha z=>?_,R.keys,R.apart,λe he=>⟨(R.off e he).1,nof e he,(R.off e he).2.2⟩,R.db⟩,
  ⟨rfl,rfl,(l.fr (F:=bN O Ws)).trans (f.mono λa ha=>by rw [ZS ha];show .head _),λa ha=>?_⟩⟩
 ·rw [ZS z] at ha;show (R.off e he).1 ha
 ·simp only [bN,EC] at ha ⊢;rcases ha with h1 | h1 | h1 | h1
  ·show .inl (.inl h1)
  ·show .inr (by rw [h1];show hn)
  ·show .inl (.inr (.inr (.inl h1)))
  ·show .inl (.inr (.inr (.inr h1)))
theorem AQ.setB (R:AQ U O Ws ns nx) (l:Le U U1) {W':List AI} (hb:∀ e∈W',AF U1 e.w e.P e.B) (hk:(W'.map (·.n)).Nodup) (ha:(W'.flatMap (·.foot)).Nodup) (hf:∀ a∈W'.flatMap (·.foot),a∈Ws.flatMap (·.foot)\/U a=none) :
  AQ (U1.set O.b (.dictS (oB W'))) O W' ns nx/\Ab U (U1.set O.b (.dictS (oB W'))) O Ws O W':=by
 have R1:=R.le l;have f:Fr [O.b] U1 (U1.set O.b (.dictS (oB W'))):=Fr.refl.set Zh;have off:∀ b,(∃ o,U b=some o)->(∀ e∈Ws,b∉e.foot)->∀ e∈W',b∉e.foot:=λb ⟨o,q⟩ h e he z=>by
  rcases hf b (List.mem_flatMap.mpr ⟨e,he,z⟩) with y | y
  ·obtain ⟨d⟩|⟨hd,y⟩:=(List.mem_flatMap.mp y)
   show h d hd y
  ·rw [q] at y;cases y
 have o1:=off O.d ⟨_,R.d⟩ λe he=>(R.off e he).1;have o2:=off O.s ⟨_,R.s⟩ λe he=>(R.off e he).2.1;have o3:=off O.b ⟨_,R.b⟩ λe he=>(R.off e he).2.2
 show ⟨⟨by rw [Zn R.db];show R1.d,by rw [Zn R.ds.2];show R1.s,Zs ..,λe he=>(hb e he).fr f λa ha z=>?_,hk,ha,λe he=>⟨o1 e he,o2 e he,o3 e he⟩,R.db⟩,
  ⟨rfl,rfl,(l.fr (F:=bN O Ws)).trans (f.mono λa ha=>by rw [ZS ha];show .tail _ (.tail _ Zh)),λa ha=>?_⟩⟩
 ·rw [ZS z] at ha;show o3 e he ha
 ·simp only [bN,EC] at ha ⊢;rcases ha with h1 | h1 | h1 | h1
  ·show .inl (.inl h1)
  ·show .inl (.inr (.inl h1))
  ·show .inl (.inr (.inr (.inl h1)))
  ·show (hf a h1).imp (λz=>.inr (.inr (.inr z))) id
theorem AQ.add (R:AQ U O Ws ns nx) (l:Le U U1) {w:Addr} (hW:AF U1 w P B) (h1:U w=none) (h2:U P.l=none) (h3:U P.g=none) (hn:n∉Ws.map (·.n)) :
  AQ (U1.set O.b (.dictS (oB (Ws++[⟨n,w,P,B⟩])))) O (Ws++[⟨n,w,P,B⟩]) ns nx/\Ab U (U1.set O.b (.dictS (oB (Ws++[⟨n,w,P,B⟩])))) O Ws O (Ws++[⟨n,w,P,B⟩]):=by
 have nf:∀ a∈aS w P,U a=none:=λa ha=>by
  simp only [aS,EC,Ed,or_false] at ha;rcases ha with rfl | rfl | rfl<;>assumption
 show R.setB l (λe he=>?_) ?_ ?_ λa ha=>?_
 ·rcases ZA he with he | he
  ·show (R.le l).box e he
  ·rw [ZS he];show hW
 ·rw [Eh,Er];show ⟨R.keys,s!"s",λa ha b hb=>?_⟩;simp at hb;subst hb;rintro rfl;show hn ha
 ·rw [F5,Er];show ⟨R.apart,by rw [FH];show di hW,λa ha b hb=>?_⟩;rintro rfl;rw [FH] at hb;have hb:a∈aS w P:=hb;obtain ⟨o,e⟩:=R.told a (.tail _ (.tail _ (.tail _ ha)));rw [nf a hb] at e;cases e
 ·rw [F5] at ha;rcases ZA ha with h | h
  ·show .inl h
  ·rw [FH] at h;show .inr (nf a h)
noncomputable def delO (Ws:List AI) (n:Str):List AI:=Ws.filter λe=>!decide (e.n=n)
theorem qj :wout (oB Ws) n=oB (delO Ws n):=by
 unfold wout oB delO;rw [Eu];apply congrArg;apply F6;intro e _;simp
theorem delO_sto :(delO Ws n).map (λe=>(e.n,e.B))=delB (Ws.map λe=>(e.n,e.B)) n:=by
 unfold delO delB;rw [Eu];rfl
theorem fk {E:List AI} (h:E.Sublist Ws):(E.flatMap (·.foot)).Sublist (Ws.flatMap (·.foot)):=by
 induction h with
 | slnil=>show .slnil
 | cons a _ ih=>rw [Ez];show ih.trans (List.sublist_append_right _ _)
 | cons_cons a _ ih=>rw [Ez,Ez];show List.Sublist.append (.refl _) ih
theorem AQ.del (R:AQ U O Ws ns nx) (n:Str):AQ (U.set O.b (.dictS (oB (delO Ws n)))) O (delO Ws n) ns nx/\Ab U (U.set O.b (.dictS (oB (delO Ws n)))) O Ws O (delO Ws n):=by
 have sb:(delO Ws n).Sublist Ws:=F7;show R.setB Zr (λe he=>R.box e (sb.subset he)) (R.keys.sublist (sb.map _)) (R.apart.sublist (fk sb)) λa ha=>.inl ((fk sb).subset ha)
theorem oR {w:Addr} (h:n∉Ws.map (·.n)):sto (oB Ws) n (.ref w)=oB (Ws++[⟨n,w,P,B⟩]):=by
 rw [iR (by unfold oB;rw [E9];show h)];unfold oB;rw [Eh];rfl
end
section
variable {c:Cx}{V V' V₂:List NV}{U U1 U' Y:AA}{Q:AB->AA->Prop}{X:AC->AA->Prop}{O:OA}{Ws:List AI}{ns:List Str}{nx:Int}
structure BS (U U':AA) (O:OA) (Ws:List AI) (s':Bh):Prop where
 out:∃ O' Ws',AQ U' O' Ws' s'.names s'.next/\Ab U U' O Ws O' Ws'/\s'.boxes=Ws'.map λe=>(e.n,e.B)
def CA (U:AA) (O:OA) (Ws:List AI) (D:Addr):Prop:=U D=none\/D∈bN O Ws
theorem Ab.newO {O':OA}{Ws':List AI} (K:Ab U U' O Ws O' Ws')  (h:U' D=none):CA U O Ws D:=by
 by_cases n:D∈bN O Ws
 ·show .inr n
 ·cases z:U D with
  | none=>show .inl z
  | some o=>rw [K.fr D o z n] at h;cases h
def CO (U U':AA) (O:OA) (Ws:List AI) (a:AB):B6->Prop
 | .v b=>a=b
 | .pairs ps=>∃ D,a=.ref D/\CA U O Ws D/\U' D=some (.list (ps.map cr))
 | .two xs ys=>∃ C R,a=.tup [.ref C,.ref R]/\CA U O Ws C/\CA U O Ws R/\U' C=some (.list (xs.map .int))/\U' R=some (.list (ys.map .int))
theorem AQ.still (R:AQ U O Ws ns nx) (l:Le U U'):BS U U' O Ws (stoO Ws ns nx):=⟨O,Ws,R.le l,.of_le l,rfl⟩
theorem bZ {e:AI} (h:aO Ws n=some e):aA (stoO Ws ns nx).boxes n=some e.B:=by
 change aA (Ws.map λe=>(e.n,e.B)) n=_;rw [dD,h];rfl
theorem cP (h:aO Ws n=none):aA (stoO Ws ns nx).boxes n=none:=by
 change aA (Ws.map λe=>(e.n,e.B)) n=_;rw [dD,h];rfl
theorem qF :(aA (stoO Ws ns nx).boxes n).isNone=(aO Ws n).isNone:=by
 change (aA (Ws.map λe=>(e.n,e.B)) n).isNone=_;rw [dD,Option.isNone_map]
theorem AQ.turned (R:AQ U O Ws ns nx) {e:AI} (he:e∈Ws)  (hf:e.n=f)  (hb:AF U' e.w P' B') (ba:Ac U U' e.w e.P P'):BS U U' O Ws { stoO Ws ns nx with boxes:=Internal.setB (stoO Ws ns nx).boxes f B' }:=by
 subst hf;obtain ⟨R',K⟩:=R.put he hb ba;show ⟨O,_,R',K,(gF ..).symm⟩
theorem inO (R:AQ U O Ws ns nx) {V:List NV}{U':AA}{Q X} (hb:U' O.b=some (.dictS (oB Ws))) (q:Q (.bool (aO Ws n).isSome) U'):Au c' V .In (.str n) (.ref O.b) U' Q X:=by
 show qi hb ?_;rw [cz,Option.isSome_map];show q
theorem dO (R:AQ U O Ws ns nx) {V:List NV}{U':AA}{Q X} (hb:U' O.b=some (.dictS (oB Ws))) (q:Q (.bool (!(aO Ws n).isSome)) U'):Au c' V .NotIn (.str n) (.ref O.b) U' Q X:=by
 show jM hb ?_;rw [cz,Option.isSome_map];show q
theorem fX {v:Int} (x:AG c) (cm:c.calm=true) (lv:3<=c.lv) (R:AQ U O Ws ns nx) (ht:n∈aQ) (hv:v < 4294967295) (hz:Ws.length<=40)
  (k:∀ s' r U' a,step (stoO Ws ns nx) (.create n v)=some (s',r)->BS U U' O Ws s'->CO U U' O Ws a r->Q (.tup [.bool true,a]) U') (kn:step (stoO Ws ns nx) (.create n v)=none->∀ a U',BS U U' O Ws (stoO Ws ns nx)->Q (.tup [.bool false,a]) U') :
  AM VR c V [.ref O.d,rowV (.create n v)] (λvs=>call (.ref 617) vs) U Q X:=by
 show ag f617 x s!"o" s!"r" rfl s!"r" (as:=[.ref O.d,.tup [.str "create",.str n,.int v]]) λLA=>?_
 symm
 show ax s!"lib" cm s!"lv" ht ?_;show ac s!"r" ?_
 symm
 show ak R.d bi ?_;show ac s!"r" ?_;have hs:step (stoO Ws ns nx) (.create n v)=if (aJ (aa n) && (aO Ws (aa n)).isNone && decide (nx<=v))=true then some (⟨(stoO Ws ns nx).boxes++[(aa n,Bx.new (aa n) v)],ns,v+1⟩,.v (.int v)) else none:=by
  rw [step,qF];have h1:(decide ((stoO Ws ns nx).next<=v) && decide (v < 4294967295))=decide (nx<=v):=by
   rw [decide_eq_true hv,Bool.and_true];rfl
  rw [h1];rfl
 symm
 show c7 s!"lib" cm s!"lv" ht ?_
 symm
 show ah (λhq=>?_) (λhq=>?_)
 ·have hq:aJ (aa n)=false:=by simpa using hq
  symm
  show kn (by rw [hs,hq];rfl) _ _ (R.still Zr)
 have hq:aJ (aa n)=true:=by simpa using hq
 symm
 show inO R R.b ?_
 symm
 show ah (λhq2=>?_) (λhq2=>?_)
 ·symm
  show kn ?_ _ _ (R.still Zr);cases hf:aO Ws (aa n) with
  | none=>rw [hf] at hq2;cases hq2
  | some e=>rw [hs,hf];simp
 have hf:aO Ws (aa n)=none:=by
  cases hf:aO Ws (aa n) with
  | none=>rfl
  | some e=>rw [hf] at hq2;cases hq2
 symm
 show ak R.d iP ?_
 symm
 show ah (λhq3=>?_) (λhq3=>?_)
 ·have hq3:=of_decide_eq_true hq3;have h4:¬ nx<=v:=s!"o"
  symm
  show kn (by rw [hs,Zv];simp [h4]) _ _ (R.still Zr)
 ·have hq3:=of_decide_eq_false hq3;have h4:nx<=v:=s!"o";rw [hq,hf,decide_eq_true h4,Zw (show (true && (none:Option AI).isNone && true)=true from rfl)] at hs
  symm
  show fY (aa n) s!"lib" cm s!"lv" λU1 w P l₁ hW h1 h2 h3=>?_
  symm
  have ⟨R2,K2⟩:=R.add l₁ hW h1 h2 h3 (dS hf);show br (l₁ _ _ R.b) (sz (by unfold oB;rw [EQ];left)) ?_;rw [oR (P:=P) (B:=Bx.new (aa n) v) (dS hf)]
  symm
  show br R2.d mB ?_;rw [nF];have ⟨R3,K3⟩:=R2.setN (v+1)
  symm
  show k _ (.v _) _ _ hs ⟨O,_,R3,K2.trans K3,?_⟩ rfl;change (Ws.map λe=>(e.n,e.B))++_=_;rw [Eh];rfl
theorem fV (x:AG c) (cm:c.calm=true) (lv:3<=c.lv) (R:AQ U O Ws ns nx) (ht:n∈aQ) (hz:Ws.length<=40)
  (k:∀ s' r U' a,step (stoO Ws ns nx) (.delete n)=some (s',r)->BS U U' O Ws s'->CO U U' O Ws a r->Q (.tup [.bool true,a]) U') (kn:step (stoO Ws ns nx) (.delete n)=none->∀ a U',BS U U' O Ws (stoO Ws ns nx)->Q (.tup [.bool false,a]) U') :
  AM VR c V [.ref O.d,rowV (.delete n)] (λvs=>call (.ref 617) vs) U Q X:=by
 show ag f617 x s!"o" s!"r" rfl s!"r" (as:=[.ref O.d,.tup [.str "delete",.str n]]) λLA=>?_
 symm
 show ax s!"lib" cm s!"lv" ht ?_;show ac s!"r" ?_
 symm
 show ak R.d bi ?_;show ac s!"r" ?_
 symm
 show dO R R.b ?_
 symm
 cases hf:aO Ws (aa n) with
 | none =>
  symm
  show kn (by rw [step,cP hf]) _ _ (R.still Zr)
 | some e =>
  obtain ⟨he,hn⟩:=bA hf
  symm
  show ah (λhq=>?_) (λhq=>?_)
  ·have hq:aa n = "INBOX" := eq_of_beq hq
   symm
   show kn (by rw [step,bZ hf];show Zw hq) _ _ (R.still Zr)
  ·have hq:¬ aa n = "INBOX" := λz=>by rw [z] at hq;simp at hq
   symm
   show ⟨dz R.b,?_⟩
   symm
   have ⟨R2,K2⟩:=R.del (aa n);show iQ R.b (a:=.ref e.w) (by rw [cz,hf];rfl) (sz (by unfold oB;rw [EQ];left)) ?_;rw [qj];have hW:AF (U.set O.b (.dictS (oB (delO Ws (aa n))))) e.w e.P e.B:=(R.box e he).fr (F:=[O.b]) (Fr.refl.set Zh) λa ha z=>by
    rw [ZS z] at ha;show (R.off e he).2.2 ha
   symm
   show k _ (.v _) _ _ (by rw [step,bZ hf];show Zv hq) ⟨O,_,R2,K2,delO_sto.symm⟩ rfl
end
section
variable {c:Cx}{V V' V₂:List NV}{U U1 U' Y:AA}{Q:AB->AA->Prop}{X:AC->AA->Prop}{O:OA}{Ws:List AI}{ns:List Str}{nx:Int}
noncomputable def newO (t:AI × Str):AI:=⟨t.2,t.1.w,t.1.P,{ t.1.B with name:=t.2 }⟩
noncomputable def bk (Ws:List AI) (ts:List (AI × Str)):List AI:=Ws.filter λe=>!(ts.any λt=>t.1.n == e.n)
theorem kR (Ws:List AI):bk Ws []=Ws:=by unfold bk;show List.filter_eq_self.mpr λ_ _=>rfl
theorem eX (Ws:List AI) (ts:List (AI × Str)):(bk Ws ts).Sublist Ws:=F7
theorem jl (Ws:List AI) (ts:List (AI × Str)) (t:AI × Str):delO (bk Ws ts) t.1.n=bk Ws (ts++[t]):=by
 unfold delO bk;rw [List.filter_filter];apply F6;intro e _;rw [FE];by_cases h:t.1.n=e.n
 ·simp [h]
 ·have h2:(t.1.n == e.n)=false:=by simpa using h
  have h3:¬ e.n=t.1.n:=λz=>h z.symm;simp [h2,h3]
theorem kI {ts:List (AI × Str)}{e:AI} (he:e∈bk Ws ts):∀ t∈ts,t.1.n≠e.n:=λt ht z=>by
 have:=(ZF he).2;rw [Bool.not_eq_true',EM] at this;show this t ht (by simpa using z)
theorem kM {ts:List (AI × Str)}{e:AI} (he:e∈Ws) (hn:∀ t∈ts,t.1.n≠e.n):e∈bk Ws ts:=by
 show List.mem_filter.mpr ⟨he,?_⟩;rw [Bool.not_eq_true',EM];intro t ht;have:=hn t ht;simpa using this
theorem fc (h:n∈Ws.map (·.n)):∃ e,aO Ws n=some e:=by
 cases q:aO Ws n with
 | none=>show absurd h (dS q)
 | some e=>show ⟨e,rfl⟩
theorem qS {h:Str} (kd:(Ws.map (·.n)).Nodup):∃ ts:List (AI × Str),aC (Ws.map (·.n)) f h=ts.map (λt=>(t.1.n,t.2))/\(∀ t∈ts,t.1∈Ws/\aO Ws t.1.n=some t.1)/\(ts.map (·.1.n)).Nodup/\(ts.map (·.2)).Nodup:=by
 obtain ⟨us⟩|⟨h1,h2,h3,h4⟩:=(iW (Es:=Ws.map λe=>(⟨e.n,⟨0,0,0,0⟩,e.B⟩:AP)) (f:=f) (h:=h) (by rw [E9];show kd))
 have e0:(Ws.map λe=>(⟨e.n,⟨0,0,0,0⟩,e.B⟩:AP)).map (·.n)=Ws.map (·.n):=by rw [E9];rfl
 rw [e0] at h1;have key:∀ us:List (AP × Str),(∀ t∈us,t.1∈Ws.map λe=>(⟨e.n,⟨0,0,0,0⟩,e.B⟩:AP))->∃ ts:List (AI × Str),us.map (λt=>(t.1.n,t.2))=ts.map (λt=>(t.1.n,t.2))/\∀ t∈ts,t.1∈Ws/\aO Ws t.1.n=some t.1:=by
  intro us
  induction us with
  | nil=>intro _;show ⟨[],rfl,λt ht=>by cases ht⟩
  | cons u us ih =>
   intro hu;obtain ⟨ts⟩|⟨a,b⟩:=(ih λt ht=>hu t (.tail _ ht))
   obtain ⟨e⟩|⟨he,hue⟩:=(ZM (hu u Zh))
   obtain ⟨d,hd⟩:=fc (E7 (f:=λe:AI=>e.n) he);obtain ⟨hm,hn⟩:=bA hd;have hn2:d.n=u.1.n:=by rw [hn,<- hue]
   show ⟨(d,u.2)::ts,by rw [E5,E5,a,hn2],λt ht=>?_⟩;rcases ZC ht with rfl | ht
   ·show ⟨hm,by change aO Ws d.n=_;rw [hn];show hd⟩
   ·show b t ht
 obtain ⟨ts⟩|⟨a,b⟩:=(key us λt ht=>(h2 t ht).1)
 show ⟨ts,h1.trans a,b,?_,?_⟩
 ·have q:=congrArg (List.map (·.1)) a;rw [E9,E9] at q;show q ▸ h3
 ·have q:=congrArg (List.map (·.2)) a;rw [E9,E9] at q;show q ▸ h4
theorem th {ts:List (AI × Str)} (h2:∀ t∈ts,t.1∈Ws/\aO Ws t.1.n=some t.1) :
  renB (Ws.map λe=>(e.n,e.B)) (ts.map λt=>(t.1.n,t.2))=(bk Ws ts++ts.map newO).map λe=>(e.n,e.B):=by
 unfold renB;rw [Eh];show congr (congrArg _ ?_) ?_
 ·unfold bk;rw [Eu];apply congrArg;apply F6;intro e _;change (!((ts.map λt=>(t.1.n,t.2)).any λp=>p.1 == e.n))=_;rw [FF];rfl
 ·induction ts with
  | nil=>rfl
  | cons t ts ih =>
   rw [E5,E0,dD,(h2 t Zh).2,ih λs hs=>h2 s (.tail _ hs)];rfl
theorem AQ.ren1 {ds:List (AI × Str)}{t:AI × Str} (R0:AQ U O Ws ns nx) (R:AQ U1 O (bk Ws ds++ds.map newO) ns nx) (ht:t.1∈Ws) (hnd:∀ u∈ds,u.1.n≠t.1.n) (hk:t.2∉(bk Ws ds++ds.map newO).map (·.n)) (hf:t.1.n∉ds.map (·.2)) :
  AQ (U1.set O.b (.dictS (oB (bk Ws (ds++[t])++(ds++[t]).map newO)))) O (bk Ws (ds++[t])++(ds++[t]).map newO) ns nx /\
   Ab U1 (U1.set O.b (.dictS (oB (bk Ws (ds++[t])++(ds++[t]).map newO)))) O (bk Ws ds++ds.map newO) O (bk Ws (ds++[t])++(ds++[t]).map newO):=by
 have hin:t.1∈bk Ws ds:=kM ht hnd;have sb:(bk Ws (ds++[t])).Sublist (bk Ws ds):=by rw [<- jl];show F7
 have sb2:(bk Ws (ds++[t])++ds.map newO).Sublist (bk Ws ds++ds.map newO):=List.Sublist.append sb (.refl _);have e1:bk Ws (ds++[t])++(ds++[t]).map newO=(bk Ws (ds++[t])++ds.map newO)++[newO t]:=s!"s";rw [e1];have tn:t.1∉bk Ws (ds++[t]):=λz=>kI z t s!"s" rfl;show R.setB Zr (λe he=>?_) ?_ ?_ λa ha=>?_
 ·rcases ZA he with he | he
  ·show R.box e (sb2.subset he)
  ·rw [ZS he];have:=R.box t.1 (F1 _ hin);show ⟨this.w,this.l,this.g,this.lg⟩
 ·rw [Eh,Er];show ⟨R.keys.sublist (sb2.map _),s!"s",λa ha b hb=>?_⟩;have hb:b=t.2:=by simpa [newO] using hb
  subst hb;rintro rfl;show hk ((sb2.map _).subset ha)
 ·rw [F5,Er];show ⟨R.apart.sublist (fk sb2),by rw [FH];show di (R.box t.1 (F1 _ hin)),λa ha b hb=>?_⟩;rw [FH] at hb;rintro rfl;have hb:a∈t.1.foot:=hb;obtain ⟨e⟩|⟨he,ha⟩:=(List.mem_flatMap.mp ha)
  show R.feet (F1 _ hin) (sb2.subset he) (λz=>?_) a ha hb;rcases ZA he with he | he
  ·show kI he t s!"s" z
  ·obtain ⟨u⟩|⟨hu,rfl⟩:=(ZM he)
   show hf (by rw [z];show E7 (f:=λu:AI × Str=>u.2) hu)
 ·rw [F5] at ha;rcases ZA ha with h | h
  ·show .inl ((fk sb2).subset h)
  ·rw [FH] at h;show .inl (List.mem_flatMap.mpr ⟨t.1,F1 _ hin,h⟩)
end
section
variable {c:Cx}{V V' V₂:List NV}{U U1 U' Y:AA}{Q:AB->AA->Prop}{X:AC->AA->Prop}{O:OA}{Ws:List AI}{ns:List Str}{nx:Int}
theorem sS {h:Str}{N X Yb:Bx} (hk:h∉bs.map (·.1)) (hne:f≠h):setB (setB (bs++[(h,N)]) h X) f Yb=setB bs f Yb++[(h,X)]:=by
 have q2:setB (bs++[(h,N)]) h X=bs++[(h,X)]:=by
  have:=kL (bs:=bs) (n:=h) (B:=X) hk;unfold setB at this ⊢;rw [Eh,this];simp
 rw [q2];unfold setB;rw [Eh];have q3:h≠f:=Ne.symm hne;simp [q3]
theorem mA {e:AI} (he:aO Ws (aa n)=some e):step (stoO Ws ns nx) (.rename n g) =
  if aJ (aa g) && (aO Ws (aa g)).isNone then
   (if aa n = "INBOX" then (if nx < 4294967295 then
    some (⟨setB (stoO Ws ns nx).boxes (aa n) (e.B.expunge (e.B.letters.map (·.uid)))++[(aa g,(Bx.new (aa g) nx).addAll e.B.letters)],ns,nx+1⟩,.pairs [("INBOX",aa g)]) else none)
   else (if (aC (Ws.map (·.n)) (aa n) (aa g)).any (λp=>(aO Ws p.2).isSome) then none else
    some ({ stoO Ws ns nx with boxes:=renB (stoO Ws ns nx).boxes (aC (Ws.map (·.n)) (aa n) (aa g)) },.pairs (aC (Ws.map (·.n)) (aa n) (aa g))))) else none:=by
 have fb:∀ x,aA (stoO Ws ns nx).boxes x=(aO Ws x).map (·.B):=λx=>dD;have kb:(stoO Ws ns nx).boxes.map (·.1)=Ws.map (·.n):=by unfold stoO;rw [E9];rfl
 rw [step,bZ he];simp only [fb,Option.isNone_map,Option.isSome_map,kb];rfl
theorem f7 (x:AG c) (cm:c.calm=true) (lv:4<=c.lv) (R:AQ U O Ws ns nx) (ht:n∈aQ) (hg:g∈aQ) (hnx:nx < 4294967295) (hz:Ws.length<=30) (hl:∀ e∈Ws,e.n.length<=400) (hb:∀ e∈Ws,e.B.letters.length<=100/\e.B.gone.length<=100)
  (k:∀ s' r U' a,step (stoO Ws ns nx) (.rename n g)=some (s',r)->BS U U' O Ws s'->CO U U' O Ws a r->Q (.tup [.bool true,a]) U') (kn:step (stoO Ws ns nx) (.rename n g)=none->∀ a U',BS U U' O Ws (stoO Ws ns nx)->Q (.tup [.bool false,a]) U') :
  AM VR c V [.ref O.d,rowV (.rename n g)] (λvs=>call (.ref 617) vs) U Q X:=by
 show AM.tidy ?_;show ag f617 x s!"o" s!"r" rfl s!"r" (as:=[.ref O.d,.tup [.str "rename",.str n,.str g]]) λLA=>?_
 symm
 show ax s!"lib" cm s!"lv" ht ?_;show ac s!"r" ?_
 symm
 show ak R.d bi ?_;show ac s!"r" ?_
 symm
 show ax s!"lib" cm s!"lv" hg ?_;show ac s!"r" ?_
 symm
 show dO R R.b ?_;cases hf:aO Ws (aa n) with
 | none =>
  symm
  show AK.of Zr (kn (by rw [step,cP hf]) _ _ (R.still Zr))
 | some e =>
 obtain ⟨he,hen⟩:=bA hf;have hs:=mA (ns:=ns) (nx:=nx) (g:=g) hf
 symm
 show inO R R.b ?_;cases hfg:aO Ws (aa g) with
 | some d =>
  symm
  show AK.of Zr (kn (by rw [hs,hfg];simp) _ _ (R.still Zr))
 | none =>
 rw [hfg] at hs;have hgk:=dS hfg
 symm
 show c7 s!"lib" cm s!"lv" hg ?_
 symm
 show ah (λhq=>?_) (λhq=>?_)
 ·have hq:aJ (aa g)=false:=by simpa using hq
  symm
  show AK.of Zr (kn (by rw [hs,hq];rfl) _ _ (R.still Zr))
 have hq:aJ (aa g)=true:=by simpa using hq
 rw [hq,Zw (show (true && (none:Option AI).isNone)=true from rfl)] at hs;have hlf:(aa n).length<=20:=(lI n ht).2.1;have hlg:(aa g).length<=20:=(lI g hg).2.1;generalize aa n=f at *;generalize aa g=h at *
 symm
 show ah (λhi=>?_) (λhi=>?_)
 ·have hi:f = "INBOX" := eq_of_beq hi;rw [Zw hi,Zw hnx] at hs;have hne:f≠h:=λz=>hgk (by rw [<- z,<- hen];show E7 he)
  symm
  show ak R.d iP ?_
  symm
  show fY h s!"lib" cm s!"lv" λU1 w P l₁ hW h1 h2 h3=>?_
  symm
  have ⟨R2,K2⟩:=R.add l₁ hW h1 h2 h3 hgk;show br (l₁ _ _ R.b) (sz (by unfold oB;rw [EQ];left)) ?_;rw [oR (P:=P) (B:=Bx.new h nx) hgk]
  symm
  show ak R2.d iP ?_
  symm
  show br R2.d mB ?_;rw [nF];have ⟨R3,K3⟩:=R2.setN (nx+1);have K3:=K2.trans K3;have hm:(⟨h,w,P,Bx.new h nx⟩:AI)∈Ws++[⟨h,w,P,Bx.new h nx⟩]:=F0 _ Zh;have he3:e∈Ws++[⟨h,w,P,Bx.new h nx⟩]:=F1 _ he;generalize ((U1.set O.b (.dictS (oB (Ws++[⟨h,w,P,Bx.new h nx⟩])))).set O.d (.dictS (oD O (nx+1))))=U3 at R3 K3 ⊢;have vg:vAt (oB (Ws++[⟨h,w,P,Bx.new h nx⟩])) h=some (.ref w):=by
   rw [cz];unfold aO;rw [List.find?_append]
   have:Ws.find? (λe=>decide (e.n=h))=none:=hfg;rw [this];simp
  have vf:vAt (oB (Ws++[⟨h,w,P,Bx.new h nx⟩])) f=some (.ref e.w):=by
   rw [cz];unfold aO;rw [List.find?_append]
   have:Ws.find? (λe=>decide (e.n=f))=some e:=hf;rw [this];rfl
  have hWe:=R3.box e he3;have hWg:=R3.box _ hm;have offb:O.b∉aS w P:=(R3.off _ hm).2.2;have fe:∀ a∈e.foot,a∉aS w P:=R3.feet hm he3 (by change h≠e.n;rw [hen];show Ne.symm hne);have hbe:=hb e he;show af ?_;show bu (α:=AV) letV rfl ?_
  symm
  show ak R3.b vf ?_
  symm
  let J1:=λ(r:List AV) (V':List NV) (U':AA)=>∃ v1 ds P',V'=[⟨"own",.local,some (.ref O.d)⟩,⟨"row",.local,some (.tup [.str "rename",.str n,.str g])⟩,⟨"word",.local,some (.str "rename")⟩,⟨"name",.cell,some (.str f)⟩,⟨"boxes",.cell,some (.ref O.b)⟩,⟨"goal",.cell,some (.str h)⟩,⟨"letter",.local,v1⟩,⟨"one",.local,none⟩,⟨"pairs",.local,none⟩,⟨"other",.local,none⟩,.gl "_law_normal",.gl "_law_is_name",.gl "_law_new",.gl "_law_put",.gl "_law_take",.gl "sorted",.gl "list",.gl "any"]/\e.B.letters=ds++r/\AF U' w P' ((Bx.new h nx).addAll ds)/\Ac U3 U' w P P'
  show ⟨e.B.letters,_,J1,
   ar hWe.l,(ei3 _ ([]) P (ai4 rfl rfl hWg .refl)),λ_ _ U' z=>ex3 z λ_ _ _ q=>by have a:=q.2.2.2;show a.fr _ _ hWe.l (fe _ (.tail _ Zh)),?_,?_⟩
  ·intro L r V1 U4 r1z;obtain ⟨v1,ds,P'⟩|⟨rfl,hLs,hW4,a₄⟩:=r1z;have ⟨an,al⟩:=cL ds (Bx.new h nx);have hdl:ds.length<=100:=by have:=hbe.1;rw [hLs] at this;simp at this;left
   show aB rfl (ac s!"r" ?_)
   symm
   show ak (a₄.fr _ _ R3.b offb) vg ?_
   symm
   symm
   symm
   symm
   show fZ s!"lib" cm s!"lv" hW4 (by rw [al];simp [Bx.new];left) λU5 P'' hW5 a₅=>?_
   symm
   show AK.of Zr (ei3 _ (ds++[L]) P'' (ai4 rfl (by rw [hLs];simp) ?_ (a₄.after a₅)));have e:(Bx.new h nx).addAll (ds++[L])=((Bx.new h nx).addAll ds).add L.oct L.flags L.instant:=by unfold Bx.addAll;rw [Ec];rfl
   rw [e];show hW5
  ·intro V1 U4 r2z;obtain ⟨v1,ds,P'⟩|⟨rfl,hLs,hW4,a₄⟩:=r2z;rw [ET] at hLs;subst hLs;have ⟨R5,KB⟩:=R3.put hm hW4 a₄;have he5:e∈setO (Ws++[⟨h,w,P,Bx.new h nx⟩]) h P' ((Bx.new h nx).addAll e.B.letters):=jf he3 (by rw [hen];show hne);have hWe5:=R5.box e he5;have vf5:=a₄.fr _ _ R3.b offb
   symm
   show ak vf5 vf ?_
   symm
   show ev_compA AV rfl s!"cns" s!"cok" s!"cp" ?_
   symm
   show ak vf5 vf ?_
   symm
   show .mk e.B.letters letV (λL=>.int L.uid) _ (ar hWe5.l) (λU' l=>l _ _ hWe5.l) (sz s!"o") (λcl C L hL U5 l₅=>?_) λU6 E l₆ hE h₆=>?_
   ·symm
    show ⟨rfl,Le.refl _⟩
   have em:e.B.letters.map (λL=>AB.int L.uid)=(e.B.letters.map (·.uid)).map .int:=by rw [E9];rfl
   rw [em] at h₆;show cT ?_;have hEσ:U4 E=none:=hE;show eG (us:=e.B.letters.map (·.uid)) s!"lib" cm s!"lv" (hWe5.le l₆) (.inr ⟨E,rfl,h₆⟩) (λb hb z=>?_) s!"o" s!"o" λU7 P7 D₇ hW7 a₇ _ _ _=>?_
   ·cases hb;obtain ⟨o,ho⟩:=hWe5.told _ z;rw [hEσ] at ho;cases ho
   have ⟨R7,K7⟩:=(R5.le l₆).put he5 hW7 a₇
   symm
   intro D₈ hD8;have K:=(K3.trans ((KB.le l₆).trans K7)).le (Zl (o:=.list [.tup [.str f,.str h]]) hD8);have hDσ:=(K3.trans ((KB.le l₆).trans K7)).newO hD8
   symm
   show AK.of Zr (k _ (.pairs _) _ _ hs ⟨O,_,R7.le (Zl hD8),K,?_⟩ ⟨D₈,rfl,hDσ,by rw [Zs,hi];rfl⟩);have e1:(setO (setO (Ws++[⟨h,w,P,Bx.new h nx⟩]) h P' ((Bx.new h nx).addAll e.B.letters)) e.n P7 (e.B.expunge (e.B.letters.map (·.uid)))).map (λe=>(e.n,e.B)) =
     setB (setB ((Ws.map λe=>(e.n,e.B))++[(h,Bx.new h nx)]) h ((Bx.new h nx).addAll e.B.letters)) f (e.B.expunge (e.B.letters.map (·.uid))):=by
    rw [gF,gF,hen,Eh];rfl
   have e2:=sS (bs:=Ws.map λe=>(e.n,e.B)) (h:=h) (f:=f) (N:=Bx.new h nx) (X:=(Bx.new h nx).addAll e.B.letters) (Yb:=e.B.expunge (e.B.letters.map (·.uid))) (by rw [E9];show hgk) hne;show (e1.trans e2).symm
 ·have hi:¬ f = "INBOX" := λz=>by rw [z] at hi;simp at hi
  rw [Zv hi] at hs
  symm
  show af ?_;show cc Str rfl s!"cns" s!"cok" ?_
  symm
  show ja R.b (sz (by unfold oB;rw [EQ];left)) λD hD=>?_;have ek:(oB Ws).map (λe=>AB.str e.1)=(Ws.map (·.n)).map .str:=by unfold oB;rw [E9,E9];rfl
  rw [ek]
  symm
  show df (Zs ..) (by rw [EQ];left) λD2 hD2=>?_;have l₁:Le U ((U.set D (.list ((Ws.map (·.n)).map .str))).set D2 (.list ((aH (Ws.map (·.n))).map .str))):=(Zl hD).trans (Zl hD2);have h₁:((U.set D (.list ((Ws.map (·.n)).map .str))).set D2 (.list ((aH (Ws.map (·.n))).map .str))) D2=some (.list ((aH (Ws.map (·.n))).map .str)):=Zs ..;generalize ((U.set D (.list ((Ws.map (·.n)).map .str))).set D2 (.list ((aH (Ws.map (·.n))).map .str)))=U1 at l₁ h₁ ⊢;have hsl:(aH (Ws.map (·.n))).length<=30:=by rw [(aw _).length_eq,EQ];show hz
  show ⟨aH (Ws.map (·.n)),.str,λm=>m == f || bl m f,λm=>cr (m,bz m f h),λU'=>Le U1 U',_,ar h₁,λ_ _ h l=>h.trans l,sz s!"o",Le.refl _,λU' l=>l _ _ h₁,λcl C m hm=>?_,λU2 T l₂ hT=>?_⟩
  ·intro U2 l₂;have hml:m.length<=400:=by
    obtain ⟨e⟩|⟨he,rfl⟩:=(ZM ((aw _).subset hm))
    show hl e he
   have h1:Str.length "/" = 1:=rfl;have hap:(m ++ "/" : Str).length=m.length+1:=by rw [Str.length_append,h1]
   have hsl:=PyProof.Txt.length_slice_le m (some (f.length:Int)) none;show aD (ac s!"r" ?_) ⟨_,.tail _ Zh,rfl,rfl⟩;show aT ?_
   symm
   show ig (sz s!"o") ?_
   symm
   show ig (sz s!"o") ?_
   symm
   rw [qW];show ⟨rfl,?_⟩;show ah (λ_=>?_) (λ_=>Le.refl _)
   symm
   show ig (sz s!"o") ?_
   symm
   show ⟨rfl,Le.refl _⟩
  have er:((aH (Ws.map (·.n))).filter λm=>m == f || bl m f).map (λm=>cr (m,bz m f h))=(aC (Ws.map (·.n)) f h).map cr:=by unfold aC;rw [E9];rfl
  rw [er];obtain ⟨ts⟩|⟨hps,h2,h3,h4⟩:=(qS (f:=f) (h:=h) R.keys)
  have htl:ts.length<=30:=by
   have:=dN (Ws.map (·.n)) f h;rw [hps,EQ,EQ] at this;left
  rw [hps] at hs;rw [hps,E9];have hTσ:U T=none:=au l₁ (au l₂ hT);show ac s!"r" ?_;show bJ hT λU3 l₃ h₃=>?_;have l:=l₁.trans (l₂.trans l₃);clear l₂ l₃;have R3:=R.le l;have hTf:=R.off_new hTσ
  symm
  show ev_compA (AI × Str) rfl s!"cns" s!"cok" s!"cp" ?_
  symm
  show .mk ts (cr∘λt=>(t.1.n,t.2)) (λt=>.bool (aO Ws t.2).isSome) _ (ar h₃) (λU' l=>l _ _ h₃) (sz s!"o") (λcl C t ht U4 l₄=>?_) λU5 E l₅ hE h₅=>?_
  ·symm
   symm
   show inO R (l₄ _ _ R3.b) ⟨rfl,Le.refl _⟩
  have l:=l.trans l₅;have h₃:=l₅ _ _ h₃;clear l₅;have R5:=R.le l
  symm
  show r3 (bs:=ts.map λt=>(aO Ws t.2).isSome) (by rw [h₅,E9];rfl) ?_;have ea:((ts.map λt=>(aO Ws t.2).isSome).any id)=((ts.map λt=>(t.1.n,t.2)).any λp=>(aO Ws p.2).isSome):=by rw [FF,FF];rfl
  rw [ea]
  symm
  show ah (λhq=>?_) (λhq=>?_)
  ·rw [Zw hq] at hs
   symm
   show AK.of Zr (kn hs _ _ (R.still l))
  rw [Zv (by rw [hq];decide)] at hs;have h5:∀ t∈ts,t.2∉Ws.map (·.n):=λt ht z=>by
   obtain ⟨d,hd⟩:=fc z;have:=List.any_eq_false.mp hq (t.1.n,t.2) (E7 (f:=λt:AI × Str=>(t.1.n,t.2)) ht);rw [hd] at this;show this rfl
  show gi ?_;show af ?_;show bu (α:=AI × Str) (cr∘λt=>(t.1.n,t.2)) rfl ?_
  symm
  let J2:=λ(r:List (AI × Str)) (V':List NV) (U':AA)=>∃ v1 v2 ds,V'=[⟨"own",.local,some (.ref O.d)⟩,⟨"row",.local,some (.tup [.str "rename",.str n,.str g])⟩,⟨"word",.local,some (.str "rename")⟩,⟨"name",.cell,some (.str f)⟩,⟨"boxes",.cell,some (.ref O.b)⟩,⟨"goal",.cell,some (.str h)⟩,⟨"letter",.local,none⟩,⟨"one",.local,v1⟩,⟨"pairs",.local,some (.ref T)⟩,⟨"other",.local,v2⟩,.gl "_law_normal",.gl "_law_is_name",.gl "_law_new",.gl "_law_put",.gl "_law_take",.gl "sorted",.gl "list",.gl "any"]/\ts=ds++r/\AQ U' O (bk Ws ds++ds.map newO) ns nx/\Ab U U' O Ws O (bk Ws ds++ds.map newO)/\U' T=some (.list (ts.map (cr∘λt=>(t.1.n,t.2))))
  show ⟨ts,_,J2,
   ar h₃,(ei3 _ _ ([]) (ai5 rfl rfl (by rw [kR,Ep,ET];show R5) (by rw [kR,Ep,ET];show .of_le l) h₃)),λ_ _ U' z=>ex3 z λ_ _ _ q=>by have q:=q.2.2.2.2;show q,?_,?_⟩
  ·intro t r V1 U6 r3z;obtain ⟨v1,v2,ds⟩|⟨rfl,hts,R6,K6,hT6⟩:=r3z;have htm:t∈ts:=by rw [hts];simp
   have dsub:∀ u∈ds,u∈ts:=λu hu=>by rw [hts];show F1 _ hu
   have hnd:∀ u∈ds,u.1.n≠t.1.n:=λu hu z=>by
    rw [hts,Eh,Er] at h3;show h3.2.2 _ (E7 (f:=λt:AI × Str=>t.1.n) hu) _ s!"s" z
   have hnd2:∀ u∈ds,u.2≠t.2:=λu hu z=>by
    rw [hts,Eh,Er] at h4;show h4.2.2 _ (E7 (f:=λt:AI × Str=>t.2) hu) _ s!"s" z
   have hf2:t.1.n∉ds.map (·.2):=λz=>by
    obtain ⟨u⟩|⟨hu,q⟩:=(ZM z)
    show h5 u (dsub u hu) (by rw [q];show E7 (h2 t htm).1)
   have hk2:t.2∉(bk Ws ds++ds.map newO).map (·.n):=by
    rw [Eh,En];rintro (z | z)
    ·show h5 t htm (((eX Ws ds).map _).subset z)
    ·rw [E9] at z;obtain ⟨u⟩|⟨hu,q⟩:=(ZM z)
     show hnd2 u hu q
   have hlen6:(bk Ws ds++ds.map newO).length<=60:=by
    have:=(eX Ws ds).length_le;have hd:ds.length<=ts.length:=by rw [hts];simp
    rw [EG,EQ];left
   have hin:t.1∈bk Ws ds:=kM (h2 t htm).1 hnd;have hv:vAt (oB (bk Ws ds++ds.map newO)) t.1.n=some (.ref t.1.w):=by
    rw [cz];obtain ⟨d,hd⟩:=fc (Ws:=bk Ws ds++ds.map newO) (E7 (f:=λe:AI=>e.n) (F1 (ds.map newO) hin));obtain ⟨hm,hn⟩:=bA hd
    have:d=t.1:=c9 R6.keys hm (F1 _ hin) hn;rw [hd,this];rfl
   have ⟨R7,K7⟩:=R.ren1 R6 (h2 t htm).1 hnd hk2 hf2;have hed:delO (bk Ws ds++ds.map newO) t.1.n=bk Ws (ds++[t])++ds.map newO:=by
    unfold delO;rw [Ee];show congr (congrArg _ (jl Ws ds t)) (List.filter_eq_self.mpr λe he=>?_);obtain ⟨u⟩|⟨hu,rfl⟩:=(ZM he)
    have:u.2≠t.1.n:=λz=>hf2 (by rw [<- z];show E7 (f:=λt:AI × Str=>t.2) hu);simp [newO,this]
   show cX (as:=[.str t.1.n,.str t.2]) ?_ nm2 rfl (cm:=cm);change BN _ _ _ _ _ _ _;show aB rfl (ac s!"r" ?_);change BN _ _ _ _ _ _ _;show aB rfl (ac s!"r" ?_);change Al _ _ _ _ _ _ _
   symm
   show ⟨dz R6.b,?_⟩
   symm
   show iQ R6.b hv (sz (by unfold oB;rw [EQ];left)) ?_;rw [qj,hed]
   symm
   show br (Zs ..) (sz (by
    have:=(eX Ws (ds++[t])).length_le;have hd:ds.length<=ts.length:=by rw [hts];simp
    unfold oB;rw [EQ,EG,EQ];left)) ?_
   have es:sto (oB (bk Ws (ds++[t])++ds.map newO)) t.2 (.ref t.1.w)=oB (bk Ws (ds++[t])++(ds++[t]).map newO):=by
    rw [oR (P:=t.1.P) (B:={ t.1.B with name:=t.2 })]
    ·congr 1;simp [newO]
    ·intro z;rw [Eh] at z;rcases ZA z with z | z
     ·show h5 t htm (((eX Ws (ds++[t])).map _).subset z)
     ·rw [E9] at z;obtain ⟨u⟩|⟨hu,q⟩:=(ZM z)
      show hnd2 u hu q
   rw [es];have e2:((U6.set O.b (.dictS (oB (bk Ws (ds++[t])++ds.map newO)))).set O.b (.dictS (oB (bk Ws (ds++[t])++(ds++[t]).map newO))))=U6.set O.b (.dictS (oB (bk Ws (ds++[t])++(ds++[t]).map newO))):=by
    funext a;unfold AA.set;split<;>rfl
   rw [e2]
   symm
   show AK.of Zr (ei3 _ _ (ds++[t]) (ai5 rfl (by rw [hts];simp) R7 (K6.trans K7) ?_));have hTb:T≠O.b:=λz=>hTf (by rw [z];show .tail _ (.tail _ Zh));rw [Zn hTb];show hT6
  ·intro V1 U6 r4z;obtain ⟨v1,v2,ds⟩|⟨rfl,hts,R6,K6,hT6⟩:=r4z;rw [ET] at hts;subst hts
   symm
   show AK.of Zr (k _ (.pairs _) _ _ hs ⟨O,_,R6,K6,th h2⟩ ⟨T,rfl,.inl hTσ,by rw [hT6,E9]⟩)
end
section
variable {c:Cx}{V V' V₂:List NV}{U U1 U' Y:AA}{Q:AB->AA->Prop}{X:AC->AA->Prop}{O:OA}{Ws:List AI}{ns:List Str}{nx:Int}{m:Nat}
theorem oent (H:AT m (stoO Ws ns nx)) {e:AI} (he:e∈Ws):Cp m e.B/\e.n.length<=400 :=
 have h:(e.n,e.B)∈(stoO Ws ns nx).boxes:=E7 (f:=λe:AI=>(e.n,e.B)) he
 ⟨H.box _ h,(H.good _ h).2.2⟩
theorem ocnt (H:AT m (stoO Ws ns nx)):Ws.length<=30:=by
 have:=H.count;unfold stoO at this;rw [EQ] at this;show this
theorem gf (h:fs∈bt):(dX [] fs).map aH=ae fs:=by rw [mt fs h];rfl
def Bc (Q:AB->AA->Prop) (U:AA) (O:OA) (Ws:List AI) (ns:List Str) (nx:Int) (d:BK):Prop :=
 (∀ s' r U' a,step (stoO Ws ns nx) d=some (s',r)->BS U U' O Ws s'->CO U U' O Ws a r->Q (.tup [.bool true,a]) U')/\(step (stoO Ws ns nx) d=none->∀ a U',BS U U' O Ws (stoO Ws ns nx)->Q (.tup [.bool false,a]) U')
theorem eQ {d:BK} (x:AG c) (cm:c.calm=true) (lv:6<=c.lv) (R:AQ U O Ws ns nx) (H:AT m (stoO Ws ns nx)) (hm:m<=60) (hd:BH nx d) (ht:(∃ n v,d=.create n v)\/(∃ n,d=.delete n)\/∃ n g,d=.rename n g) (k:Bc Q U O Ws ns nx d):AM VR c V [.ref O.d,rowV d] (λvs=>call (.ref 637) vs) U Q X:=by
 have cnt:=ocnt H;have hnx:nx<=1000:=H.next;rcases ht with ⟨n,v,rfl⟩ | ⟨n,rfl⟩ | ⟨n,g,rfl⟩
 ·skip
  show ag f637 x s!"o" s!"r" rfl s!"r" (as:=[.ref O.d,.tup [.str "create",.str n,.int v]]) λLA=>?_
  symm
  show ax s!"lib" cm s!"lv" hd.1 ?_
  symm
  show bp (xs:=["create", "delete", "rename"]) ?_;rw [show (["create", "delete", "rename"]:List Str).any (· == ("create" : Str))=true from s!"k"]
  symm
  show fX s!"lib" cm s!"lv" R hd.1 (by have:=hd.2.2;left) s!"o" k.1 k.2
 ·skip
  show ag f637 x s!"o" s!"r" rfl s!"r" (as:=[.ref O.d,.tup [.str "delete",.str n]]) λLA=>?_
  symm
  show ax s!"lib" cm s!"lv" hd ?_
  symm
  show bp (xs:=["create", "delete", "rename"]) ?_;rw [show (["create", "delete", "rename"]:List Str).any (· == ("delete" : Str))=true from s!"k"]
  symm
  show fV s!"lib" cm s!"lv" R hd s!"o" k.1 k.2
 ·skip
  show ag f637 x s!"o" s!"r" rfl s!"r" (as:=[.ref O.d,.tup [.str "rename",.str n,.str g]]) λLA=>?_
  symm
  show ax s!"lib" cm s!"lv" hd.1 ?_
  symm
  show bp (xs:=["create", "delete", "rename"]) ?_;rw [show (["create", "delete", "rename"]:List Str).any (· == ("rename" : Str))=true from s!"k"]
  symm
  show f7 s!"lib" cm s!"lv" R hd.1 hd.2 s!"o" cnt (λe he=>(oent H he).2) (λe he=>by have:=(oent H he).1;have h1:=this.len;have h2:=this.gone;left) k.1 k.2
theorem il (h:ns.any (· == f)=false):(ns.filter λm=>m != f)=ns:=by
 show List.filter_eq_self.mpr λa ha=>?_;have:=List.any_eq_false.mp h a ha;simpa using this
theorem u1 (h:ns.any (· == f)=true) (hp:ns.Pairwise (λa b=>leS a b=true)) (hn:ns.Nodup):aH ((ns.filter λm=>m != f)++[f])=ns:=by
 have hf:f∈ns:=by
  obtain ⟨a⟩|⟨ha,e⟩:=(List.any_eq_true.mp h)
  rw [<- eq_of_beq e];show ha
 have pm:((ns.filter λm=>m != f)++[f]).Perm ns:=by
  show (List.perm_ext_iff_of_nodup ?_ hn).mpr λa=>?_
  ·rw [Er];show ⟨hn.filter _,s!"s",λa ha b hb=>?_⟩;simp at hb ha;subst hb;show ha.2
  ·simp only [En,List.mem_filter,Eb,bne_iff_ne];constructor
   ·rintro (h | rfl)
    ·show h.1
    ·show hf
   ·intro h;by_cases e:a=f
    ·show .inr e
    ·show .inl ⟨h,e⟩
 rw [ku pm,ik hp]
theorem gS (x:AG c) (cm:c.calm=true) (lv:6<=c.lv) (R:AQ U O Ws ns nx) (H:AT m (stoO Ws ns nx)) (ht:n∈aQ) (hp:ns.Pairwise (λa b=>leS a b=true)) (hn:ns.Nodup) (k:Bc Q U O Ws ns nx (.subscribe n)):AM VR c V [.ref O.d,rowV (.subscribe n)] (λvs=>call (.ref 637) vs) U Q X:=by
 have hnl:ns.length<=30:=H.names;show ag f637 x s!"o" s!"r" rfl s!"r" (as:=[.ref O.d,.tup [.str "subscribe",.str n]]) λLA=>?_
 symm
 show ax s!"lib" cm s!"lv" ht ?_
 symm
 show bp (xs:=["create", "delete", "rename"]) ?_;rw [show (["create", "delete", "rename"]:List Str).any (· == ("subscribe" : Str))=false from s!"k"]
 symm
 show c7 s!"lib" cm s!"lv" ht ?_;have hs:step (stoO Ws ns nx) (.subscribe n)=if aJ (aa n) then (if ns.any (· == aa n) then some (stoO Ws ns nx,.v (.bool false)) else some ({ stoO Ws ns nx with names:=aH (ns++[aa n]) },.v (.bool true))) else none:=rfl
 generalize aa n=f at *
 symm
 show ah (λhq=>?_) (λhq=>?_)
 ·have hq:aJ f=false:=by simpa using hq
  symm
  show k.2 (by rw [hs,hq];rfl) _ _ (R.still Zr)
 have hq:aJ f=true:=by simpa using hq
 rw [Zw hq] at hs
 symm
 show ak R.d eS ?_;show eA R.s ?_;show ac s!"r" ?_
 symm
 show ev_compP Str rfl s!"cns" s!"cok" ?_
 symm
 show ak R.d eS ?_;show ⟨ns,.str,λm=>m != f,.str,λU'=>Le U U',_,ar R.s,λ_ _ h l=>h.trans l,sz s!"o",Le.refl _,λU' l=>l _ _ R.s,λcl C m hm=>?_,λU3 D l₃ hD=>?_⟩
 ·intro U4 l₄;show aD (ac s!"r" ?_) ⟨_,.tail _ Zh,rfl,rfl⟩;show aT ?_
  symm
  show ⟨rfl,?_⟩;show ah (λ_=>?_) (λ_=>Le.refl _)
  symm
  show ⟨rfl,Le.refl _⟩
 symm
 intro E hE;have hfl:(ns.filter λm=>m != f).length<=ns.length:=Em _ _;show eY (Zl hE _ _ (Zs ..)) (Zs ..) (sz (by simp only [EQ,EF,EH];left)) λF hF=>?_;have e1:(ns.filter λm=>m != f).map AB.str++[.str f]=((ns.filter λm=>m != f)++[f]).map .str:=s!"s";rw [e1]
 symm
 show df (Zs ..) (by rw [EG];simp only [EF,EH];left) λG hG=>?_;have lG:=((l₃.trans (Zl hD)).trans (Zl hE)).trans (Zl (o:=.list (((ns.filter λm=>m != f)++[f]).map .str)) hF);have hGσ:=au lG hG;have lG:=lG.trans (Zl (o:=.list ((aH ((ns.filter λm=>m != f)++[f])).map .str)) hG);have hGs:(AA.set _ G (.list ((aH ((ns.filter λm=>m != f)++[f])).map .str))) G=some (.list ((aH ((ns.filter λm=>m != f)++[f])).map .str)):=Zs (((U3.set D (.list ((ns.filter λm=>m != f).map .str))).set E (.list [.str f])).set F (.list (((ns.filter λm=>m != f)++[f]).map .str))) G _;generalize (AA.set _ G (.list ((aH ((ns.filter λm=>m != f)++[f])).map .str)))=U5 at lG hGs ⊢
 symm
 have ⟨R6,K6⟩:=R.setS lG hGs hGσ;show br (lG _ _ R.d) mB ?_;rw [kW]
 symm
 cases hany:ns.any (· == f) with
 | true =>
  rw [u1 hany hp hn] at R6;rw [Zw hany] at hs;show k.1 _ (.v _) _ _ hs ⟨_,Ws,R6,K6,rfl⟩ rfl
 | false =>
  rw [il hany] at R6;rw [Zv (by rw [hany];decide)] at hs;show k.1 _ (.v _) _ _ hs ⟨_,Ws,R6,K6,rfl⟩ rfl
theorem gc (x:AG c) (cm:c.calm=true) (lv:6<=c.lv) (R:AQ U O Ws ns nx) (H:AT m (stoO Ws ns nx)) (ht:n∈aQ) (k:Bc Q U O Ws ns nx (.unsubscribe n)):AM VR c V [.ref O.d,rowV (.unsubscribe n)] (λvs=>call (.ref 637) vs) U Q X:=by
 have hnl:ns.length<=30:=H.names;show ag f637 x s!"o" s!"r" rfl s!"r" (as:=[.ref O.d,.tup [.str "unsubscribe",.str n]]) λLA=>?_
 symm
 show ax s!"lib" cm s!"lv" ht ?_
 symm
 show bp (xs:=["create", "delete", "rename"]) ?_;rw [show (["create", "delete", "rename"]:List Str).any (· == ("unsubscribe" : Str))=false from s!"k"]
 symm
 show ak R.d eS ?_;show jn R.s ?_;have hs:step (stoO Ws ns nx) (.unsubscribe n)=if ns.any (· == aa n) then some ({ stoO Ws ns nx with names:=ns.filter λm=>m != aa n },.v (.bool true)) else none:=rfl
 generalize aa n=f at *;show ac s!"r" ?_
 symm
 show ev_compP Str rfl s!"cns" s!"cok" ?_
 symm
 show ak R.d eS ?_;show ⟨ns,.str,λm=>m != f,.str,λU'=>Le U U',_,ar R.s,λ_ _ h l=>h.trans l,sz s!"o",Le.refl _,λU' l=>l _ _ R.s,λcl C m hm=>?_,λU3 D l₃ hD=>?_⟩
 ·intro U4 l₄;show aD (ac s!"r" ?_) ⟨_,.tail _ Zh,rfl,rfl⟩;show aT ?_
  symm
  show ⟨rfl,?_⟩;show ah (λ_=>?_) (λ_=>Le.refl _)
  symm
  show ⟨rfl,Le.refl _⟩
 have hDσ:=au l₃ hD;show cO hD λU4 l₄ h₄=>?_;have l₄:=l₃.trans l₄
 symm
 have ⟨R6,K6⟩:=R.setS l₄ h₄ hDσ;show br (l₄ _ _ R.d) mB ?_;rw [kW]
 symm
 cases hany:ns.any (· == f) with
 | true =>
  rw [Zw hany] at hs;show k.1 _ (.v _) _ _ hs ⟨_,Ws,R6,K6,rfl⟩ rfl
 | false =>
  rw [il hany] at R6;rw [Zv (by rw [hany];decide)] at hs;show k.2 hs _ _ ⟨_,Ws,R6,K6,rfl⟩
end
section
variable {c:Cx}{V V' V₂:List NV}{U U1 U' Y:AA}{Q:AB->AA->Prop}{X:AC->AA->Prop}{O:OA}{Ws:List AI}{ns:List Str}{nx:Int}{m:Nat}
theorem lR {t:Int}{b:Array UInt8}{e:AI} (he:aO Ws (aa n)=some e) (hm:ae fs=some ms) :
  step (stoO Ws ns nx) (.append n fs t b kk)=some ({ stoO Ws ns nx with boxes:=setB (stoO Ws ns nx).boxes (aa n) (e.B.add (.bytes b kk) ms t) },.v (.tup [.int e.B.validity,.int e.B.next])):=by
 rw [step,bZ he,hm]
theorem mS {e:AI} (he:aO Ws (aa n)=some e) (hm:ae fs=some ms) :
  step (stoO Ws ns nx) (.flags n u fs)=if (aL e.B.letters u).isSome then some ({ stoO Ws ns nx with boxes:=setB (stoO Ws ns nx).boxes (aa n) (e.B.turn u ms).1 },.v (.bool (e.B.turn u ms).2)) else none:=by
 rw [step,bZ he,hm]
theorem m6 {e:AI} (he:aO Ws (aa n)=some e) (hm:ae fs=some ms) :
  step (stoO Ws ns nx) (.store n us way fs un)=some ({ stoO Ws ns nx with boxes:=setB (stoO Ws ns nx).boxes (aa n) (e.B.storeF (if un < 0 then none else some un) way ms us).1 },
   .two (e.B.storeF (if un < 0 then none else some un) way ms us).2 (((e.B.picked us).filter (bn (if un < 0 then none else some un))).map (·.uid))):=by
 rw [step,bZ he,hm]
theorem j1 {e:AI} (he:aO Ws (aa n)=some e) :
  step (stoO Ws ns nx) (.expunge n us)=some ({ stoO Ws ns nx with boxes:=setB (stoO Ws ns nx).boxes (aa n) (e.B.expunge us) },.v (bw (e.B.left us))):=by
 rw [step,bZ he]
theorem mn {e:AI} (he:aO Ws (aa n)=some e):step (stoO Ws ns nx) (.forget n mm)=some ({ stoO Ws ns nx with boxes:=setB (stoO Ws ns nx).boxes (aa n) (e.B.forget mm) },.v (.int (e.B.forgot mm))):=by
 rw [step,bZ he]
theorem pK {e d:AI} (he:aO Ws (aa n)=some e) (hd:aO Ws (aa g)=some d) :
  step (stoO Ws ns nx) (.copy mv n us g)=if us.all (λu=>(aL e.B.letters u).isSome) then
    some ({ stoO Ws ns nx with boxes:=mvIn (stoO Ws ns nx).boxes (aa n) (aa g) e.B d.B (e.B.picked us) mv },
     .v (.tup [.int d.B.validity,bw ((e.B.picked us).map (·.uid)),bw ((aN d.B.next (e.B.picked us)).map (·.2))]))
   else none:=by
 rw [step,bZ he,bZ hd]
theorem jZ {t:Int}{b:Array UInt8} (x:AG c) (cm:c.calm=true) (lv:6<=c.lv) (R:AQ U O Ws ns nx) (H:AT m (stoO Ws ns nx)) (hm:m<=60) (ht:n∈aQ) (hf:fs∈bt) (k:Bc Q U O Ws ns nx (.append n fs t b kk)) :
  AM VR c V [.ref O.d,rowV (.append n fs t b kk)] (λvs=>call (.ref 637) vs) U Q X:=by
 obtain ⟨d1,d2⟩:=jB fs hf;have kf:=gf hf;show ag f637 x s!"o" s!"r" rfl s!"r" (as:=[.ref O.d,.tup [.str "append",.str n,bB fs,.int t,.bytes b kk]]) λLA=>?_
 symm
 show ax s!"lib" cm s!"lv" ht ?_
 symm
 show bp (xs:=["create", "delete", "rename"]) ?_;rw [show (["create", "delete", "rename"]:List Str).any (· == ("append" : Str))=false from s!"k"]
 symm
 show ak R.d bi ?_;show dO R R.b ?_;cases he:aO Ws (aa n) with
 | none =>
  symm
  show k.2 (by rw [step,cP he]) _ _ (R.still Zr)
 | some e =>
 obtain ⟨hem,hen⟩:=bA he;have ok:=(oent H hem).1;have hW:=R.box e hem
 symm
 show ak R.d bi ?_
 symm
 show ak R.b (a:=.ref e.w) (by rw [cz,he];rfl) ?_;show ac s!"r" ?_
 symm
 show dW s!"lib" cm s!"lv" d1 d2 (λacc hacc=>?_) (λhno=>?_)
 ·rw [hacc] at kf;show ac s!"r" ?_
  symm
  show gt ?_
  symm
  show fZ s!"lib" cm s!"lv" hW (by have:=ok.len;left) λU1 PA hW1 a₁=>?_
  symm
  show k.1 _ (.v _) _ _ (lR he kf.symm) (R.turned hem hen hW1 a₁) rfl
 ·rw [hno] at kf;show ac s!"r" ?_
  symm
  show hY (λas h=>by cases h) ?_
  symm
  show k.2 (by rw [step,bZ he,<- kf];rfl) _ _ (R.still Zr)
theorem lL (x:AG c) (cm:c.calm=true) (lv:6<=c.lv) (R:AQ U O Ws ns nx) (H:AT m (stoO Ws ns nx)) (hm:m<=60) (ht:n∈aQ) (hf:fs∈bt) (k:Bc Q U O Ws ns nx (.flags n u fs)) :
  AM VR c V [.ref O.d,rowV (.flags n u fs)] (λvs=>call (.ref 637) vs) U Q X:=by
 obtain ⟨d1,d2⟩:=jB fs hf;have kf:=gf hf;show ag f637 x s!"o" s!"r" rfl s!"r" (as:=[.ref O.d,.tup [.str "flags",.str n,.int u,bB fs]]) λLA=>?_
 symm
 show ax s!"lib" cm s!"lv" ht ?_
 symm
 show bp (xs:=["create", "delete", "rename"]) ?_;rw [show (["create", "delete", "rename"]:List Str).any (· == ("flags" : Str))=false from s!"k"]
 symm
 show ak R.d bi ?_;show dO R R.b ?_;cases he:aO Ws (aa n) with
 | none =>
  symm
  show k.2 (by rw [step,cP he]) _ _ (R.still Zr)
 | some e =>
 obtain ⟨hem,hen⟩:=bA he;have ok:=(oent H hem).1;have hW:=R.box e hem
 symm
 show ak R.d bi ?_
 symm
 show ak R.b (a:=.ref e.w) (by rw [cz,he];rfl) ?_;show ac s!"r" ?_
 symm
 show bp (xs:=["flags", "store"]) ?_;rw [show (["flags", "store"]:List Str).any (· == ("flags" : Str))=true from s!"k"]
 symm
 show dW s!"lib" cm s!"lv" d1 d2 (λacc hacc=>?_) (λhno=>?_)
 ·rw [hacc] at kf;have hst:=mS (ns:=ns) (nx:=nx) (u:=u) he kf.symm
  symm
  show ei s!"lib" cm s!"lv" hW (by have:=ok.len;left) ok.asc (λhs U1 hW1 f₁=>?_) (λhs=>?_)
  ·rw [Zw hs] at hst;show k.1 _ (.v _) _ _ hst (R.turned hem hen hW1 ⟨λ_ h=>.inl h,f₁⟩) rfl
  ·rw [Zv (by rw [hs];decide)] at hst;show k.2 hst _ _ (R.still Zr)
 ·rw [hno] at kf
  symm
  show cM (d:=.flags n u fs) s!"lib" cm s!"lv" ?_;show k.2 (by rw [step,bZ he,<- kf];rfl) _ _ (R.still Zr)
theorem lU (x:AG c) (cm:c.calm=true) (lv:6<=c.lv) (R:AQ U O Ws ns nx) (H:AT m (stoO Ws ns nx)) (hm:m<=60) (ht:n∈aQ) (hus:us∈bF) (hf:fs∈bt) (k:Bc Q U O Ws ns nx (.store n us way fs un)) :
  AM VR c V [.ref O.d,rowV (.store n us way fs un)] (λvs=>call (.ref 637) vs) U Q X:=by
 obtain ⟨d1,d2⟩:=jB fs hf;have kf:=gf hf;show ag f637 x s!"o" s!"r" rfl s!"r" (as:=[.ref O.d,.tup [.str "store",.str n,bw us,.str way,bB fs,.int un]]) λLA=>?_
 symm
 show ax s!"lib" cm s!"lv" ht ?_
 symm
 show bp (xs:=["create", "delete", "rename"]) ?_;rw [show (["create", "delete", "rename"]:List Str).any (· == ("store" : Str))=false from s!"k"]
 symm
 show ak R.d bi ?_;show dO R R.b ?_;cases he:aO Ws (aa n) with
 | none =>
  symm
  show k.2 (by rw [step,cP he]) _ _ (R.still Zr)
 | some e =>
 obtain ⟨hem,hen⟩:=bA he;have ok:=(oent H hem).1;have hW:=R.box e hem
 symm
 show ak R.d bi ?_
 symm
 show ak R.b (a:=.ref e.w) (by rw [cz,he];rfl) ?_;show ac s!"r" ?_
 symm
 show bp (xs:=["flags", "store"]) ?_;rw [show (["flags", "store"]:List Str).any (· == ("store" : Str))=true from s!"k"]
 symm
 show dW s!"lib" cm s!"lv" d1 d2 (λacc hacc=>?_) (λhno=>?_)
 ·rw [hacc] at kf;have hkf:ae fs=some (aH acc):=kf.symm;have hcan:Ax (aH acc):=⟨cC hkf,ce (λt ht=>Zt (d2 t ht) s!"d") hkf,Nat.lt_of_le_of_lt (cH hkf) s!"o"⟩
  symm
  show eh s!"lib" cm s!"lv" hW (by have:=ok.len;left) ok.asc ok.canon hcan hus λU1 C S hW1 f₁ hC hS hC1 hS1=>?_;show k.1 _ (.two _ _) _ _ (m6 he hkf) (R.turned hem hen hW1 ⟨λ_ h=>.inl h,f₁⟩) ⟨C,S,rfl,.inl hC,.inl hS,hC1,hS1⟩
 ·rw [hno] at kf
  symm
  show cM (d:=.store n us way fs un) s!"lib" cm s!"lv" ?_;show k.2 (by rw [step,bZ he,<- kf];rfl) _ _ (R.still Zr)
theorem jK (x:AG c) (cm:c.calm=true) (lv:6<=c.lv) (R:AQ U O Ws ns nx) (H:AT m (stoO Ws ns nx)) (hm:m<=60) (ht:n∈aQ) (k:Bc Q U O Ws ns nx (.expunge n us)) :
  AM VR c V [.ref O.d,rowV (.expunge n us)] (λvs=>call (.ref 637) vs) U Q X:=by
 show ag f637 x s!"o" s!"r" rfl s!"r" (as:=[.ref O.d,.tup [.str "expunge",.str n,bw us]]) λLA=>?_
 symm
 show ax s!"lib" cm s!"lv" ht ?_
 symm
 show bp (xs:=["create", "delete", "rename"]) ?_;rw [show (["create", "delete", "rename"]:List Str).any (· == ("expunge" : Str))=false from s!"k"]
 symm
 show ak R.d bi ?_;show dO R R.b ?_;cases he:aO Ws (aa n) with
 | none =>
  symm
  show k.2 (by rw [step,cP he]) _ _ (R.still Zr)
 | some e =>
 obtain ⟨hem,hen⟩:=bA he;have ok:=(oent H hem).1;have hW:=R.box e hem
 symm
 show ak R.d bi ?_
 symm
 show ak R.b (a:=.ref e.w) (by rw [cz,he];rfl) ?_;show ac s!"r" ?_
 symm
 show bp (xs:=["flags", "store"]) ?_;rw [show (["flags", "store"]:List Str).any (· == ("expunge" : Str))=false from s!"k"]
 symm
 show eG (us:=us) s!"lib" cm s!"lv" hW (.inl rfl) (λl h=>by cases h) (by have:=ok.len;left) (by have:=ok.gone;left) λU1 P' D hW1 a₁ _ _ hD=>?_;have hll:(e.B.left us).length<=e.B.letters.length:=by
  rw [jw,EQ];show Em _ _
 symm
 show aq hD (sz (by rw [EQ];have:=ok.len;left)) ?_
 symm
 show k.1 _ (.v _) _ _ (j1 he) (R.turned hem hen hW1 a₁) rfl
theorem kh (x:AG c) (cm:c.calm=true) (lv:6<=c.lv) (R:AQ U O Ws ns nx) (H:AT m (stoO Ws ns nx)) (hm:m<=60) (ht:n∈aQ) (k:Bc Q U O Ws ns nx (.forget n mm)) :
  AM VR c V [.ref O.d,rowV (.forget n mm)] (λvs=>call (.ref 637) vs) U Q X:=by
 show ag f637 x s!"o" s!"r" rfl s!"r" (as:=[.ref O.d,.tup [.str "forget",.str n,.int mm]]) λLA=>?_
 symm
 show ax s!"lib" cm s!"lv" ht ?_
 symm
 show bp (xs:=["create", "delete", "rename"]) ?_;rw [show (["create", "delete", "rename"]:List Str).any (· == ("forget" : Str))=false from s!"k"]
 symm
 show ak R.d bi ?_;show dO R R.b ?_;cases he:aO Ws (aa n) with
 | none =>
  symm
  show k.2 (by rw [step,cP he]) _ _ (R.still Zr)
 | some e =>
 obtain ⟨hem,hen⟩:=bA he;have ok:=(oent H hem).1;have hW:=R.box e hem
 symm
 show ak R.d bi ?_
 symm
 show ak R.b (a:=.ref e.w) (by rw [cz,he];rfl) ?_;show ac s!"r" ?_
 symm
 show bp (xs:=["flags", "store"]) ?_;rw [show (["flags", "store"]:List Str).any (· == ("forget" : Str))=false from s!"k"]
 symm
 show gp s!"lib" cm s!"lv" hW (by have:=ok.gone;left) λU1 P' hW1 a₁=>?_
 symm
 show k.1 _ (.v _) _ _ (mn he) (R.turned hem hen hW1 a₁) rfl
end
section
variable {c:Cx}{V V' V₂:List NV}{U U1 U' Y:AA}{Q:AB->AA->Prop}{X:AC->AA->Prop}{O:OA}{Ws:List AI}{ns:List Str}{nx:Int}{m:Nat}
theorem i7 {O1:OA}{W1:List AI} (K:Ab U U1 O Ws O1 W1) (o:BS U1 U2 O1 W1 s'):BS U U2 O Ws s':=by
 obtain ⟨O',Ws',R,K',e⟩:=o;show ⟨O',Ws',R,K.trans K',e⟩
theorem k8 :(stoO (setO Ws n P B) ns nx).boxes=setB (stoO Ws ns nx).boxes n B:=gF ..
theorem oz (x:AG c) (cm:c.calm=true) (lv:6<=c.lv) (R:AQ U O Ws ns nx) (H:AT m (stoO Ws ns nx)) (hm:m<=60) (ht:n∈aQ) (hg:g∈aQ) (hus:us∈bF) (k:Bc Q U O Ws ns nx (.copy mv n us g)) :
  AM VR c V [.ref O.d,rowV (.copy mv n us g)] (λvs=>call (.ref 637) vs) U Q X:=by
 have hw:∃ wd:Str,(if mv then ("move" : Str) else ("copy" : Str))=wd/\(["create", "delete", "rename"]:List Str).any (· == wd)=false/\(["flags", "store"]:List Str).any (· == wd)=false/\(wd == ("subscribe" : Str))=false/\(wd == ("unsubscribe" : Str))=false/\(wd == ("append" : Str))=false/\(wd == ("expunge" : Str))=false/\(wd == ("forget" : Str))=false:=by
  cases mv<;>show ⟨_,rfl,s!"k",s!"k",s!"k",s!"k",s!"k",s!"k",s!"k"⟩
 obtain ⟨wd⟩|⟨hwd,w1,w2,w3,w4,w5,w6,w7⟩:=hw;show ag f637 x s!"o" s!"r" rfl s!"r" (as:=[.ref O.d,.tup [.str (if mv then ("move" : Str) else ("copy" : Str)),.str n,bw us,.str g]]) λLA=>?_;rw [hwd]
 symm
 show ax s!"lib" cm s!"lv" ht ?_
 symm
 show bp (xs:=["create", "delete", "rename"]) ?_;rw [w1]
 symm
 rw [w3]
 symm
 rw [w4]
 symm
 show ak R.d bi ?_;show dO R R.b ?_;cases he:aO Ws (aa n) with
 | none =>
  symm
  show k.2 (by rw [step,cP he]) _ _ (R.still Zr)
 | some e =>
 obtain ⟨hem,hen⟩:=bA he;have ok:=(oent H hem).1;have hW:=R.box e hem
 symm
 show ak R.d bi ?_
 symm
 show ak R.b (a:=.ref e.w) (by rw [cz,he];rfl) ?_;show ac s!"r" ?_
 symm
 rw [w5]
 symm
 show bp (xs:=["flags", "store"]) ?_;rw [w2]
 symm
 rw [w6]
 symm
 rw [w7]
 symm
 show ax s!"lib" cm s!"lv" hg ?_
 symm
 show ak R.d bi ?_;show dO R R.b ?_;cases hd:aO Ws (aa g) with
 | none =>
  symm
  show k.2 (by rw [step,bZ he,cP hd]) _ _ (R.still Zr)
 | some d =>
 obtain ⟨hdm,hdn⟩:=bA hd;have okd:=(oent H hdm).1;have hG:=R.box d hdm;have hst:=pK (ns:=ns) (nx:=nx) (us:=us) (mv:=mv) he hd
 symm
 show ak R.d bi ?_
 symm
 show ax s!"lib" cm s!"lv" hg ?_;show ak R.b (a:=.ref d.w) (by rw [cz,hd];rfl) ?_
 symm
 rw [<- hwd];have ⟨rn,rg,rv,rf,rt⟩:=dh (e.B.picked us) d.B;have ⟨an,al⟩:=cL (e.B.picked us) d.B;have hpl:(e.B.picked us).length<=4:=Zt (cE _ _) (my us hus).1;have l1:=ok.len;have l2:=okd.len;have l3:=ok.gone;have l4:=okd.gone;by_cases q:e.n=d.n
 ·have hed:e=d:=c9 R.keys hem hdm q;subst hed;have q':aa n=aa g:=by rw [<- hen,<- hdn]
  show ej (P1:=id) (B1:=e.B.addAll (e.B.picked us)) s!"lib" cm s!"lv" hW hG s!"o" s!"o" hus (λU' R' h _=>h) (λR'=>.inl ⟨rfl,rfl⟩) s!"o" (by rw [rg];left)
   (λU1 U2 R' P' _ _ h _=>⟨P',_,h,by unfold Bx.expunge;split<;>show rv⟩) (λhno=>?_) (λhmv hall U1 R' hW1 a₁=>?_) (λhmv hall U1 U2 R' P' hW1 a₁ hW2 a₂=>?_)
  ·rw [Zv (by rw [hno];decide)] at hst;show k.2 hst _ _ (R.still Zr)
  ·rw [Zw hall] at hst;have o:=R.turned hdm hdn hW1 a₁;show k.1 _ (.v _) _ _ hst ?_ rfl;unfold mvIn;rw [hmv,Zv s!"d"];show o
  ·rw [Zw hall] at hst;have ⟨R1,KA⟩:=R.put hdm hW1 a₁;have o:=i7 KA (R1.turned (sW hdm rfl) hen hW2 a₂);show k.1 _ (.v _) _ _ hst ?_ rfl;unfold mvIn;rw [hmv,Zw rfl,Zw q',<- hdn];rw [k8] at o;rw [q',<- hdn] at o ⊢;show o
 ·have q':¬ aa n=aa g:=λz=>q (by rw [hen,hdn,z]);have fe:∀ a∈e.foot,a∉d.foot:=R.feet hdm hem (Ne.symm q);have fd:∀ a∈d.foot,a∉e.foot:=R.feet hem hdm q;show ej (P1:=λ_=>e.P) (B1:=e.B) s!"lib" cm s!"lv" hW hG s!"o" s!"o" hus (λU' R' _ a=>hW.fr a.fr fe) (λR'=>.inr rfl) s!"o" s!"o"
   (λU1 U2 R' P' h a _ a₂=>⟨R',_,h.fr a₂.fr λb hb z=>?_,rv⟩) (λhno=>?_) (λhmv hall U1 R' hW1 a₁=>?_) (λhmv hall U1 U2 R' P' hW1 a₁ hW2 a₂=>?_)
  ·rcases a.new b hb with y | y
   ·show fd b y z
   ·obtain ⟨o,ho⟩:=hW.told b z;rw [y] at ho;cases ho
  ·rw [Zv (by rw [hno];decide)] at hst;show k.2 hst _ _ (R.still Zr)
  ·rw [Zw hall] at hst;have o:=R.turned hdm hdn hW1 a₁;show k.1 _ (.v _) _ _ hst ?_ rfl;unfold mvIn;rw [hmv,Zv s!"d"];show o
  ·rw [Zw hall] at hst;have ⟨R1,KA⟩:=R.put hdm hW1 a₁;have o:=i7 KA (R1.turned (jf hem q) hen hW2 a₂);show k.1 _ (.v _) _ _ hst ?_ rfl;unfold mvIn;rw [hmv,Zw rfl,Zv q',<- hdn];rw [k8] at o;show o
theorem pM {d:BK} (x:AG c) (cm:c.calm=true) (lv:6<=c.lv) (R:AQ U O Ws ns nx) (H:AT m (stoO Ws ns nx)) (hm:m<=60) (hd:BH nx d) (hp:ns.Pairwise (λa b=>leS a b=true)) (hn:ns.Nodup) (k:Bc Q U O Ws ns nx d):AM VR c V [.ref O.d,rowV d] (λvs=>call (.ref 637) vs) U Q X:=by
 cases d with
 | create n v=>show eQ x cm lv R H hm hd (.inl ⟨_,_,rfl⟩) k
 | delete n=>show eQ x cm lv R H hm hd (.inr (.inl ⟨_,rfl⟩)) k
 | rename n g=>show eQ x cm lv R H hm hd (.inr (.inr ⟨_,_,rfl⟩)) k
 | append n fs t b kk=>show jZ x cm lv R H hm hd.1 hd.2 k
 | flags n u fs=>show lL x cm lv R H hm hd.1 hd.2 k
 | store n us way fs un=>show lU x cm lv R H hm hd.1 hd.2.1 hd.2.2.2 k
 | expunge n us=>show jK x cm lv R H hm hd.1 k
 | copy mv n us g=>show oz x cm lv R H hm hd.1 hd.2.2 hd.2.1 k
 | subscribe n=>show gS x cm lv R H hd hp hn k
 | unsubscribe n=>show gc x cm lv R H hd k
 | forget n mm=>show kh x cm lv R H hm hd k
end
section
variable {c:Cx}{V V' V₂:List NV}{U U1 U' Y:AA}{Q:AB->AA->Prop}{X:AC->AA->Prop}{O:OA}{Ws:List AI}{ns:List Str}{nx:Int}{m:Nat}
noncomputable def boxN (n:Str) (B:Bx):AB:=.tup [.str n,.int B.validity,.int B.next,.int B.top,.int B.floor,.tup (B.letters.map letV),.tup (B.gone.map bO)]
noncomputable def kG (s:Bh):AB:=.tup [.int s.next,.tup (s.names.map .str),.tup ((aH (s.boxes.map (·.1))).map λn=>((aA s.boxes n).map (boxN n)).getD .none)]
theorem li (R:Af U S Es ns nx):stoV Es ns nx=kG (ai Es ns nx):=by
 unfold stoV kG;have e1:(ai Es ns nx).boxes.map (·.1)=Es.map (·.n):=f9;rw [e1,fH (d:=AB.none) (eC R)];have e2:(aH (Es.map (·.n))).map (λa=>((aV Es a).map λe=>boxV e.B).getD AB.none)=(aH (Es.map (·.n))).map λn=>((aA (ai Es ns nx).boxes n).map (boxN n)).getD .none:=by
  apply ED;intro n hn;obtain ⟨e,he⟩:=eC R n hn;obtain ⟨hm,hen⟩:=bj he;rw [he,bL he];change boxV e.B=boxN n e.B;unfold boxV boxN;rw [R.name e hm,hen]
 rw [e2];rfl
theorem iA (x:AG c) (cm:c.calm=true) (lv:2<=c.lv) (R:AQ U O Ws ns nx) (H:AT m (stoO Ws ns nx)) (hm:m<=60) (k:Q (kG (stoO Ws ns nx)) U):AM VR c V [.ref O.d] (λvs=>call (.ref 644) vs) U Q X:=by
 show AM.tidy ?_;have cnt:=ocnt H;have hnl:ns.length<=30:=H.names;show ag f644 x s!"o" s!"r" rfl s!"r" λLA=>?_
 symm
 show ⟨s!"d",λL hL=>(ac s!"r" ?_)⟩;have hLf:=R.off_new hL;show bJ hL λU1 l₁ h₁=>?_;have R1:=R.le l₁;show af ?_;show bu (α:=Str) .str rfl ?_
 symm
 show ak R1.d bi ?_
 symm
 show ja R1.b (sz (by unfold oB;rw [EQ];left)) λD hD=>?_;have ek:(oB Ws).map (λe=>AB.str e.1)=(Ws.map (·.n)).map .str:=by unfold oB;rw [E9,E9];rfl
 rw [ek]
 symm
 show df (Zs ..) (by rw [EQ];left) λD2 hD2=>?_;have hsl:(aH (Ws.map (·.n))).length<=30:=by rw [(aw _).length_eq,EQ];show cnt
 have l₂:Le U1 ((U1.set D (.list ((Ws.map (·.n)).map .str))).set D2 (.list ((aH (Ws.map (·.n))).map .str))):=(Zl hD).trans (Zl hD2);have h₂:((U1.set D (.list ((Ws.map (·.n)).map .str))).set D2 (.list ((aH (Ws.map (·.n))).map .str))) D2=some (.list ((aH (Ws.map (·.n))).map .str)):=Zs ..;have hD2L:D2≠L:=λz=>by
  have:=au (Zl (o:=.list ((Ws.map (·.n)).map .str)) hD) hD2;rw [z,h₁] at this;cases this
 generalize ((U1.set D (.list ((Ws.map (·.n)).map .str))).set D2 (.list ((aH (Ws.map (·.n))).map .str)))=U2 at l₂ h₂ ⊢;have R2:=R1.le l₂
 let J1:=λ(r:List Str) (V':List NV) (U':AA)=>∃ v1 v2 ds,V'=[⟨"own",.local,some (.ref O.d)⟩,⟨"boxes",.local,some (.ref L)⟩,⟨"name",.local,v1⟩,⟨"one",.local,v2⟩,.gl "sorted",.gl "list",.gl "tuple"]/\aH (Ws.map (·.n))=ds++r/\Fr [L] U2 U'/\U' L=some (.list (ds.map λn=>((aO Ws n).map λe=>boxN n e.B).getD .none))
 show ⟨aH (Ws.map (·.n)),_,J1,
  ar h₂,(ei3 _ _ ([]) (ai4 rfl rfl Fr.refl (l₂ _ _ h₁))),λ_ _ U' z=>ex3 z λ_ _ _ q=>by have f:=q.2.2.1;show f _ _ h₂ (by simpa using hD2L),?_,?_⟩
 ·intro n r V1 U3 r1z;obtain ⟨v1,v2,ds⟩|⟨rfl,hds,f₃,hLA⟩:=r1z;have R3:=R2.fr f₃ λa ha z=>hLf (by rw [<- ZS z];show ha);have hn:n∈Ws.map (·.n):=(aw _).subset (by rw [hds];simp);obtain ⟨e,he⟩:=fc hn;obtain ⟨hem,hen⟩:=bA he;have hW:=R3.box e hem;have ok:=(oent H hem).1;have hdl:ds.length<=30:=by rw [hds] at hsl;simp at hsl;left
  show aB rfl (ac s!"r" ?_)
  symm
  show ak R3.d bi ?_
  symm
  show ak R3.b (a:=.ref e.w) (by rw [cz,he];rfl) ?_;show ac s!"r" ?_
  symm
  show ⟨cK hLA,?_⟩
  symm
  show aq hW.l (sz (by rw [EQ];have:=ok.len;left)) ?_
  symm
  show aq hW.g (sz (by rw [EQ];have:=ok.gone;left)) ?_
  symm
  show ct hLA (sz (by rw [EQ];left)) ?_
  symm
  show AK.of Zr (ei3 _ _ (ds++[n]) (ai4 rfl (by rw [hds];simp) (f₃.set Zh) ?_));rw [Zs,Eh,E5,he];rfl
 ·intro V1 U3 r2z;obtain ⟨v1,v2,ds⟩|⟨rfl,hds,f₃,hLA⟩:=r2z;rw [ET] at hds;have R3:=R2.fr f₃ λa ha z=>hLf (by rw [<- ZS z];show ha);have hdl:ds.length<=30:=by rw [<- hds];show hsl
  symm
  show ak R3.d iP ?_
  symm
  show ak R3.d eS ?_
  symm
  show aq R3.s (sz (by rw [EQ];left)) ?_
  symm
  show aq hLA (sz (by rw [EQ];left)) ?_
  symm
  have lF:Le U U3:=λa o e=>((((l₁.trans l₂).fr (F:=[L])).trans f₃).drop hL) a o e s!"s";show AK.of lF ?_;have e3:kG (stoO Ws ns nx)=.tup [.int nx,.tup (ns.map .str),.tup (ds.map λn=>((aO Ws n).map λe=>boxN n e.B).getD .none)]:=by
   unfold kG;have e1:(stoO Ws ns nx).boxes.map (·.1)=Ws.map (·.n):=by unfold stoO;rw [E9];rfl
   rw [e1,hds];have e4:ds.map (λn=>((aA (stoO Ws ns nx).boxes n).map (boxN n)).getD AB.none)=ds.map λn=>((aO Ws n).map λe=>boxN n e.B).getD .none:=by
    apply ED;intro n _
    have:aA (stoO Ws ns nx).boxes n=(aO Ws n).map (·.B):=dD;rw [this,Option.map_map];rfl
   rw [e4];rfl
  rw [e3] at k;show k
end
section
variable {U U1 U':AA}{S:A2}{Es:List AP}{ns:List Str}{nx:Int}{F:List Addr}{O:OA}{Ws:List AI}
theorem A4.of {n:Nat}:∀ {as:List AB},(∀ a∈as,B9 U n a a)->A4 U n as as:=by
 intro as
 induction as with
 | nil =>
  intro _;show .nil
 | cons a as ih =>
  intro h;show .cons (h a Zh) (ih λb hb=>h b (.tail _ hb))
theorem nk {n:Nat} (l:List Str):A4 U n (l.map .str) (l.map .str):=.of λa ha=>by obtain ⟨x,_,rfl⟩:=ZM ha;show .str
theorem eH {n:Nat} (l:List Int):A4 U n (l.map .int) (l.map .int):=.of λa ha=>by obtain ⟨x,_,rfl⟩:=ZM ha;show .int
theorem sj (h:BD L.oct):B9 U 2 (letV L) (letV L):=by
 obtain ⟨b,t,e⟩:=h;unfold letV;rw [e];show .tup (.cons .int (.cons .bytes (.cons (.tup (nk _)) (.cons .int (.cons .int .nil)))))
theorem qV (p:Int × Int):B9 U 2 (bO p) (bO p):=.tup (.cons .int (.cons .int .nil))
theorem si (h:∀ L∈B.letters,BD L.oct):B9 U 4 (boxN n B) (boxN n B):=by
 unfold boxN;show .tup (.cons .str (.cons .int (.cons .int (.cons .int (.cons .int (.cons (.tup (.of λa ha=>?_)) (.cons (.tup (.of λa ha=>?_)) .nil)))))))
 ·obtain ⟨L,hL,rfl⟩:=ZM ha;show sj (h L hL)
 ·obtain ⟨p,_,rfl⟩:=ZM ha;show qV p
theorem lj {s:Bh} (h:∀ e∈s.boxes,∀ L∈e.2.letters,BD L.oct):∃ xs,kG s=.tup xs/\A4 U 5 xs xs:=by
 show ⟨_,rfl,.cons .int (.cons (.tup (nk _)) (.cons (.tup (.of λa ha=>?_)) .nil))⟩;obtain ⟨n,hn,rfl⟩:=ZM ha;cases hf:aA s.boxes n with
 | none=>show .none
 | some B=>show si (h _ (cA hf))
noncomputable def B6.val (r:B6):Option AB:=@B6.casesOn (λ_=>Option AB) r some (λ_=>none) λ_ _=>none
theorem rvI {b:AB} (z:B6.v a=.v b):a=b:=Option.some.inj (congrArg B6.val z)
theorem rvN {r:B6} (z:r=.v a) (h:r.val=none):G:=by
 rw [z] at h;cases h
def B7 (a:AB):Prop:=(∃ i,a=.int i)\/(∃ b,a=.bool b)\/∃ xs,a=.tup xs/\∀ U,A4 U 3 xs xs
theorem pB {s:Bh}{d:BK} (e:step s d=some (s',.v a)):B7 a:=by
 have key:∀ r,(r=B6.v a)->step s d=some (s',r)->B7 a:=λr hr e=>by
  show nA (M:=λ_ _ r=>r=B6.v a->B7 a) (λn v _ _ _ _ z=>.inl ⟨_,(rvI z).symm⟩) (λn B _ _ z=>.inl ⟨_,(rvI z).symm⟩) (λn g B _ _ _ _ _ z=>rvN z rfl) (λn g B _ _ _ _ _ z=>rvN z rfl)
   (λn fs t b kk B ns _ _ z=>.inr (.inr ⟨_,(rvI z).symm,λU=>.cons .int (.cons .int .nil)⟩)) (λn u fs B ns _ _ _ z=>.inr (.inl ⟨_,(rvI z).symm⟩)) (λn us way fs un B ns _ _ z=>rvN z rfl)
   (λn us B _ z=>.inr (.inr ⟨_,(rvI z).symm,λU=>eH _⟩)) (λmv n us g B G _ _ _ z=>.inr (.inr ⟨_,(rvI z).symm,λU=>.cons .int (.cons (.tup (eH _)) (.cons (.tup (eH _)) .nil))⟩))
   (λn _ _ z=>.inr (.inl ⟨_,(rvI z).symm⟩)) (λn _ _ z=>.inr (.inl ⟨_,(rvI z).symm⟩)) (λn _ z=>.inr (.inl ⟨_,(rvI z).symm⟩)) (λn m B _ z=>.inl ⟨_,(rvI z).symm⟩) e hr
 show key _ rfl e
theorem Af.fr (R:Af U S Es ns nx) (f:Fr F U U') (n:B0 U F) (hx:S.x∉F) (hn:∀ a∈bK S Es,a∉F):Af U' S Es ns nx :=
 { R with obj:=R.obj.fr f hx (hn _ Zh),dict:=f _ _ R.dict (hn _ (.tail _ Zh)),subs:=f _ _ R.subs (hn _ (.tail _ (.tail _ Zh))),box:=λe he=>(R.box e he).fr f n λa ha=>hn a (c8 he a ha) }
theorem AQ.noL (R:AQ U O Ws ns nx):B0 U (bN O Ws):=λa ha=>by
 simp only [bN,EC] at ha;rcases ha with rfl | rfl | rfl | ha
 ·rw [R.d];show .dictS
 ·rw [R.s];show .list
 ·rw [R.b];show .dictS
 ·obtain ⟨e,he,h⟩:=List.mem_flatMap.mp ha;have hw:=R.box e he;simp only [AI.foot,aS,EC,Ed,or_false] at h;rcases h with rfl | rfl | rfl
  ·rw [hw.w];show .dictS
  ·rw [hw.l];show .list
  ·rw [hw.g];show .list
theorem AQ.notInst (R:AQ U O Ws ns nx) {a:Addr} (h:U a=some (.inst C d)):a∉bN O Ws:=λz=>(R.noL a z).2 _ _ h
end
section
variable {c:Cx}{V:List NV}{U:AA}{Q:AB->AA->Prop}{X:AC->AA->Prop}
theorem m8 (h:B7 a) (q:Q (.bool false) U):Au c V .NotEq a a U Q X:=by
 rcases h with ⟨i,rfl⟩ | ⟨b,rfl⟩ | ⟨xs,rfl,z⟩
 ·show lE ?_;rw [show (i != i)=false from s!"s"];show q
 ·show lV ?_;rw [show (!(b == b))=false by cases b<;>rfl];show q
 ·show gL (z U) s!"d" q
end
section
variable {c:Cx}{V V' V₂:List NV}{U U1 U' Y:AA}{Q:AB->AA->Prop}{X:AC->AA->Prop}
structure BE (U:AA) (b D xA d₀:Addr) (k:Nat) (S:A2) (Es:List AP) (O:OA) (Ws:List AI) (ns:List Str) (nx:Int):Prop where
 db:DB U b D (20 * k)
 rep:Af U S Es ns nx
 own:AQ U O Ws ns nx
 same:(Es.map λe=>(e.n,e.B))=Ws.map λe=>(e.n,e.B)
 inv:AU k (ai Es ns nx)
 apart:∀ a∈bN O Ws,a∉bK S Es
 bOff:b∉bK S Es/\b∉bN O Ws
 dOff:D∉bK S Es/\D∉bN O Ws
 sx:S.x=xA
 od:O.d=d₀
theorem DB.hb {n:Int} (h:DB U b D n):∃ xs,U b=some (.list xs):=by
 obtain ⟨cs,g,s,p,h1,h2,h3,h4,h5,h6,h7,h8,h9⟩:=h;show ⟨_,h1⟩
theorem DB.hD {n:Int} (h:DB U b D n):∃ o,U D=some o:=by
 obtain ⟨cs,g,s,p,h1,h2,h3,h4,h5,h6,h7,h8,h9⟩:=h;show ⟨_,h2⟩
theorem DB.fr {n:Int} (h:DB U b D n) (f:Fr F U U') (hb:b∉F) (hD:D∉F):DB U' b D n:=by
 obtain ⟨cs,g,s,p,h1,h2,h3,h4,h5,h6,h7,h8,h9⟩:=h;show ⟨cs,g,s,p,f _ _ h1 hb,f _ _ h2 hD,h3,h4,h5,h6,h7,h8,h9⟩
section
variable {b D xA d₀:Addr}{k:Nat}{S S':A2}{Es Es':List AP}{O O':OA}{Ws Ws':List AI}{ns ms:List Str}{nx mx:Int}{Y2 Y3 Y4:AA}
theorem BE.rep2 (T:BE U b D xA d₀ k S Es O Ws ns nx) (f:Fr [b] U Y2):Af Y2 S Es ns nx:=by
 show ex1 T.db.hb λ_ e=>?_;show T.rep.fr f (λa ha=>by rw [ZS ha,e];show .list) (λz=>?_) λa ha z=>T.bOff.1 (by rw [<- ZS z];show ha);have:=T.rep.obj.x;rw [ZS z,e] at this;cases this
theorem BE.own2 (T:BE U b D xA d₀ k S Es O Ws ns nx) (f:Fr [b] U Y2):AQ Y2 O Ws ns nx:=T.own.fr f λa ha z=>T.bOff.2 (by rw [<- ZS z];show ha)
theorem BE.rep3 (T:BE U b D xA d₀ k S Es O Ws ns nx) (f:Fr [b] U Y2) (K:Ab Y2 Y3 O Ws O' Ws'):Af Y3 S Es ns nx :=
 (T.rep2 f).fr K.fr (T.own2 f).noL ((T.own2 f).notInst (T.rep2 f).obj.x) λa ha z=>T.apart a z ha
theorem BE.off (T:BE U b D xA d₀ k S Es O Ws ns nx) (f:Fr [b] U Y2) (K:Ab Y2 Y3 O Ws O' Ws'):∀ a∈bN O' Ws',a∉bK S Es:=λa ha z=>by
 rcases K.new a ha with h | h
 ·show T.apart a h z
 ·obtain ⟨o,e⟩:=(T.rep2 f).foot_told a z;rw [h] at e;cases e
theorem BE.newOff (T:BE U b D xA d₀ k S Es O Ws ns nx) (f:Fr [b] U Y2)  (h:CA Y2 O Ws C):C∉bK S Es:=λz=>by
 rcases h with h | h
 ·obtain ⟨o,e⟩:=(T.rep2 f).foot_told C z;rw [h] at e;cases e
 ·show T.apart C h z
theorem BE.go (T:BE U b D xA d₀ k S Es O Ws ns nx) (f:Fr [b] U Y2) (hdb:DB Y2 b D (20 * k+20)) (K:Ab Y2 Y3 O Ws O' Ws') (RO:AQ Y3 O' Ws' ms mx) (J:An Y3 Y4 S Es S' Es') (R:Af Y4 S' Es' ms mx)
  (hs:(Es'.map λe=>(e.n,e.B))=Ws'.map λe=>(e.n,e.B)) (inv:AU (k+1) (ai Es' ms mx)):BE Y4 b D xA d₀ (k+1) S' Es' O' Ws' ms mx:=by
 have d3:DB Y3 b D (20 * k+20):=hdb.fr K.fr T.bOff.2 T.dOff.2;have d4:DB Y4 b D (20 * k+20):=d3.fr J.fr T.bOff.1 T.dOff.1;have t2:(∃ o,Y2 b=some o)/\∃ o,Y2 D=some o:=⟨ex1 hdb.hb λ_ e=>⟨_,e⟩,hdb.hD⟩
 have t3:(∃ o,Y3 b=some o)/\∃ o,Y3 D=some o:=⟨ex1 d3.hb λ_ e=>⟨_,e⟩,d3.hD⟩
 have nO:∀ a,(∃ o,Y2 a=some o)->a∉bN O Ws->a∉bN O' Ws':=λa ⟨o,e⟩ n z=>(K.new a z).elim n λq=>by rw [q] at e;cases e
 have nS:∀ a,(∃ o,Y3 a=some o)->a∉bK S Es->a∉bK S' Es':=λa ⟨o,e⟩ n z=>(J.new a z).elim n λq=>by rw [q] at e;cases e
 show ⟨d4.more (by push_cast;left),R,RO.fr J.fr (T.off f K),hs,inv,λa ha=>nS a (RO.told a ha) (T.off f K a ha),⟨nS b t3.1 T.bOff.1,nO b t2.1 T.bOff.2⟩,⟨nS D t3.2 T.dOff.1,nO D t2.2 T.dOff.2⟩,J.x.trans T.sx,K.d.trans T.od⟩
end
theorem uN {a LA:Addr}{xs:List Int} (x:AG c) (cm:c.calm=true) (lv:22<=c.lv) (ha:Bt c.G a (xs.map .int)) (hz:xs.length<=63) (k:∀ U',Q (.bool true) U') (body:List Stmt) (hbody:fd651.body=.stmts body) :
  Al (c.top fd651 651 LA) (b7 fd651.scope.names [.ref a]) body U (NQ Q) Q (XF X):=by
 show Al.tidy ?_;have hb2:fd651.body=.stmts (ic (topS 96)):=rfl;obtain rfl:ic (topS 96)=body:=FuncBody.stmts.inj (hb2.symm.trans hbody);change Al _ [⟨"script",.local,some (.ref a)⟩,⟨"box",.local,none⟩,⟨"store",.local,none⟩,⟨"own",.local,none⟩,⟨"turn",.local,none⟩,⟨"row",.local,none⟩,⟨"due",.local,none⟩,⟨"heard",.local,none⟩,.gl "_law_box",.gl "Store",.gl "_law_new",.gl "range",.gl "_law_deed",.gl "_law_own",.gl "apply",.gl "StoreFault",.gl "_law_told"] (_::_) _ _ _ _
 symm
 show oS s!"lib" cm s!"lv" ha hz λU1 b D l₁ hdb=>?_;show ac s!"r" ?_;show af ?_
 with_reducible show bX s!"u" ?_
 show ec_Store s!"lib" s!"lv" s!"look" λU2 S A l₂ R hSn=>?_;show ac s!"r" ?_;have hbS:b∉bK S [⟨"INBOX",A,Bx.new "INBOX" 1⟩]:=λz=>by
  show ex1 hdb.hb λ_ e=>?_;rw [hSn b z] at e;cases e
 have hDS:D∉bK S [⟨"INBOX",A,Bx.new "INBOX" 1⟩]:=λz=>by
  show ex1 hdb.hD λ_ e=>?_;rw [hSn D z] at e;cases e
 have hdb:=hdb.le l₂;show af ?_
 with_reducible show bX s!"u" ?_
 show ev_dict ?_;show bH ?_
 symm
 show bH ?_
 symm
 show ⟨s!"d",λs hs=>?_⟩;show bH ?_
 symm
 show ev_dict ?_;show bH ?_
 symm
 show fY "INBOX" s!"lib" cm s!"lv" λU3 w P l₃ hW h1 h2 h3=>?_;show gN λbb hbb=>?_;have em1:mrg [] [("INBOX",.ref w)]=oB [⟨"INBOX",w,P,Bx.new "INBOX" 1⟩]:=by rfl
 rw [em1];show gN λdd hdd=>?_;have em2:mrg [] [("next",.int 2),("names",.ref s),("boxes",.ref bb)]=oD ⟨dd,s,bb⟩ 2:=by rfl
 rw [em2];show ac s!"r" ?_;have hs3:U3 s=some (.list []):=l₃ _ _ (Zs ..);have l23:Le U2 U3:=(Zl hs).trans l₃;have lbb:Le U3 (U3.set bb (.dictS (oB [⟨"INBOX",w,P,Bx.new "INBOX" 1⟩]))):=Zl hbb;have hbb4:(U3.set bb (.dictS (oB [⟨"INBOX",w,P,Bx.new "INBOX" 1⟩]))) bb=some (.dictS (oB [⟨"INBOX",w,P,Bx.new "INBOX" 1⟩])):=Zs ..;generalize (U3.set bb (.dictS (oB [⟨"INBOX",w,P,Bx.new "INBOX" 1⟩])))=U4 at hdd lbb hbb4 ⊢;have ldd:Le U4 (U4.set dd (.dictS (oD ⟨dd,s,bb⟩ 2))):=Zl hdd;have hdd5:(U4.set dd (.dictS (oD ⟨dd,s,bb⟩ 2))) dd=some (.dictS (oD ⟨dd,s,bb⟩ 2)):=Zs ..;generalize (U4.set dd (.dictS (oD ⟨dd,s,bb⟩ 2)))=U5 at ldd hdd5 ⊢;have l35:=lbb.trans ldd;have l25:=l23.trans l35;have hW5:=hW.le l35;have hs5:=l35 _ _ hs3;have hbb5:=ldd _ _ hbb4;have lset:=Zl (o:=.list []) hs;have n1:U2 w=none:=au lset h1;have n2:U2 P.l=none:=au lset h2;have n3:U2 P.g=none:=au lset h3;have n4:U2 bb=none:=au l23 hbb;have n5:U2 dd=none:=au (l23.trans lbb) hdd;have ndb:dd≠bb:=by rintro rfl;rw [hbb4] at hdd;cases hdd
 have nw:∀ a∈aS w P,(U2.set s (.list [])) a=none:=λa ha=>by
  simp only [aS,EC,Ed,or_false] at ha;rcases ha with rfl | rfl | rfl<;>assumption
 have hso:s∉aS w P:=λz=>by have:=nw s z;rw [Zs] at this;cases this
 have hbo:bb∉aS w P:=λz=>by obtain ⟨o,e⟩:=hW.told bb z;rw [hbb] at e;cases e
 have hdo:dd∉aS w P:=λz=>by obtain ⟨o,e⟩:=(hW.le lbb).told dd z;rw [hdd] at e;cases e
 have RO:AQ U5 ⟨dd,s,bb⟩ [⟨"INBOX",w,P,Bx.new "INBOX" 1⟩] [] 2 :=
  ⟨hdd5,hs5,hbb5,(λe he=>by rw [ZS he];show hW5),s!"s",(by rw [FH];show di hW),(λe he=>by rw [ZS he];show ⟨hdo,hso,hbo⟩),ndb⟩
 have nO:∀ a∈bN ⟨dd,s,bb⟩ [⟨"INBOX",w,P,Bx.new "INBOX" 1⟩],U2 a=none:=λa ha=>by
  simp only [bN,AI.foot,aS,EC,Ez,List.flatMap_nil,ET,Ed,or_false] at ha;rcases ha with rfl | rfl | rfl | rfl | rfl | rfl<;>assumption
 have T0:BE U5 b D S.x dd 0 S [⟨"INBOX",A,Bx.new "INBOX" 1⟩] ⟨dd,s,bb⟩ [⟨"INBOX",w,P,Bx.new "INBOX" 1⟩] [] 2:=by
  show ⟨hdb.le l25,R.le l25,RO,rfl,rI,λa h1 h2=>?_,⟨hbS,λz=>?_⟩,⟨hDS,λz=>?_⟩,rfl,rfl⟩
  ·obtain ⟨o,e⟩:=R.foot_told a h2;rw [nO a h1] at e;cases e
  ·show ex1 hdb.hb λ_ e=>?_;rw [nO b z] at e;cases e
  ·show ex1 hdb.hD λ_ e=>?_;rw [nO D z] at e;cases e
 clear nO RO hso hbo hdo nw ndb n1 n2 n3 n4 n5 lset hbb5 hs5 hW5 l35 hdd5 ldd hbb4 lbb l23 hs3 hW h1 h2 h3 hSn hbS hDS hdb hdd hbb hs;show af ?_;show bu (α:=Int) .int rfl ?_
 symm
 show dI λG hG=>?_;have T1:BE (U5.set G (.range 0 6)) b D S.x dd 0 S [⟨"INBOX",A,Bx.new "INBOX" 1⟩] ⟨dd,s,bb⟩ [⟨"INBOX",w,P,Bx.new "INBOX" 1⟩] [] 2 :=
  { T0 with db:=T0.db.le (Zl hG),rep:=T0.rep.le (Zl hG),own:=T0.own.le (Zl hG) }
 show ⟨[0,1,2,3,4,5],_,λr V' U'=>∃ v1 v2 v3 v4 k S' Es O Ws ns nx,r.length+k=6/\V'=[⟨"script",.local,some (.ref a)⟩,⟨"box",.local,some (.ref b)⟩,⟨"store",.local,some (.ref S.x)⟩,⟨"own",.local,some (.ref dd)⟩,⟨"turn",.local,v1⟩,⟨"row",.local,v2⟩,⟨"due",.local,v3⟩,⟨"heard",.local,v4⟩,.gl "_law_box",.gl "Store",.gl "_law_new",.gl "range",.gl "_law_deed",.gl "_law_own",.gl "apply",.gl "StoreFault",.gl "_law_told"]/\BE U' b D S.x dd k S' Es O Ws ns nx,
  dC (Zs ..) s!"d" s!"d" s!"d" s!"d" (cm:=cm),⟨_,_,_,_,0,_,_,_,_,_,_,rfl,rfl,T1⟩,λ_ _ _ _=>trivial,?_,?_⟩
 ·intro y r V1 Y1 r1z;obtain ⟨v1,v2,v3,v4,kk,SA,Es,O,Ws,ns,nx⟩|⟨hr,rfl,T⟩:=r1z;simp only [EF] at hr;show aB rfl (ac s!"r" ?_);have hSx:=T.sx;have hOd:=T.od;rw [<- hSx,<- hOd]
  symm
  show oJ (S:=SA) s!"lib" cm s!"lv" T.db T.rep.obj s!"o" λY2 d hdb2 f₂ hd=>?_;show ac s!"r" ?_;have O2:=T.own2 f₂;have hsto:stoO Ws ns nx=ai Es ns nx:=by unfold stoO ai;rw [T.same]
  have inv:=T.inv;have H:AT 60 (ai Es ns nx):=inv.ok s!"o";have HO:AT 60 (stoO Ws ns nx):=by rw [hsto];show H
  have hcnt:=H.cnt
  symm
  show pM (m:=60) s!"lib" cm s!"lv" O2 HO s!"d" hd inv.sorted inv.once ⟨λs' res Y3 a₃ hst ho hres=>?_,λhst a₃ Y3 ho=>?_⟩
  ·show ac s!"r" ?_;obtain ⟨O',Ws',RO',KO,hWs⟩:=ho;have R3:=T.rep3 f₂ KO;rw [hsto] at hst;show af ?_;show sM (C:=64) rfl (λV' h=>AL.same s!"look" h) (g64 s!"lib") (lY (AG.toK s!"lib")) ?_
   symm
   show oh (m:=60) s!"lib" cm s!"lv" R3 H s!"d" hd.sz (λs'' res' Y4 a₄ hst' ho' hres'=>?_) (λhno w a fr=>by rw [hst] at hno;cases hno);rw [hst] at hst';injection hst' with hst';injection hst' with e1 e2;subst e1;subst e2;obtain ⟨SB,Es2,R4,KS,hEs⟩:=ho';have hinv:AU (kk+1) (ai Es2 s'.names s'.next):=by
    have:=rY inv hd hst;have e:ai Es2 s'.names s'.next=s':=by unfold ai;rw [<- hEs]
    rw [e];show this
   have T':=T.go f₂ hdb2 KO RO' KS R4 (hEs.symm.trans hWs) hinv;have RO4:=T'.own;have H':AT 60 (ai Es2 s'.names s'.next):=hinv.ok s!"o";have hsto':stoO Ws' s'.names s'.next=ai Es2 s'.names s'.next:=by unfold stoO ai;rw [<- T'.same]
   have HO':AT 60 (stoO Ws' s'.names s'.next):=by rw [hsto'];show H'
   have hinvB:=λe he L hL=>(hinv.box e he).octs L hL;obtain ⟨xt⟩|⟨ext,zt⟩:=(lj (U:=Y4) (s:=ai Es2 s'.names s'.next) hinvB)
   have hcmp:∀ {c':Cx}{V'':List NV}{Q' X'},Q' (.bool false) Y4->Au c' V'' .NotEq a₄ a₃ Y4 Q' X':=by
    intro c' V'' Q' X' q;cases res with
    | v av =>
     have h1:a₄=av:=hres';have h2:a₃=av:=hres;rw [h1,h2];show m8 (pB hst) q
    | pairs ps =>
     obtain ⟨D4⟩|⟨rfl,h4⟩:=hres';obtain ⟨D3⟩|⟨rfl,hn3,h3⟩:=hres;show sg (n:=2) h4 (KS.fr _ _ h3 (T.newOff f₂ hn3)) (.of λa ha=>by show ex1 (ZM ha) λp h17z=>?_;show an2 h17z λ_ h16z=>?_;clear h17z;obtain rfl:=h16z;show .tup (.cons .str (.cons .str .nil))) s!"d" q
    | two us vs =>
     obtain ⟨C4,D4⟩|⟨rfl,h4,h4'⟩:=hres';obtain ⟨C3,D3⟩|⟨rfl,hn3,hn3',h3,h3'⟩:=hres;show gL (n:=3) (.cons (.list h4 (KS.fr _ _ h3 (T.newOff f₂ hn3)) (eH _)) (.cons (.list h4' (KS.fr _ _ h3' (T.newOff f₂ hn3')) (eH _)) .nil)) s!"d" q
   have hSS:=KS.x;have hOO:=KO.d;have hcnt':=H'.cnt;have hnm':s'.names.length<=30:=H'.names
   symm
   show lV ?_
   symm
   show hcmp ?_
   symm
   show me_store_told s!"lib" ?_
   symm
   show ⟨SB,s'.next,by rw [hSS],R4.obj,?_⟩
   symm
   show fy s!"lib" cm s!"lv" R4 s!"o" s!"o" (λe he=>by have:=(H'.ent he).1;have h1:=this.len;have h2:=this.gone;left) ?_;rw [li R4,ext]
   symm
   rw [<- hOO];show iA (m:=60) s!"lib" cm s!"lv" RO4 HO' s!"d" ?_;rw [hsto',ext];show gL zt s!"d" ?_
   symm
   show AK.of Zr ⟨_,_,_,_,kk+1,SB,Es2,O',Ws',_,_,s!"o",rfl,{ T' with sx:=hSS,od:=rfl }⟩
  ·show ac s!"r" ?_;obtain ⟨O',Ws',RO',KO,hWs⟩:=ho;have R3:=T.rep3 f₂ KO;rw [hsto] at hst;have RO':AQ Y3 O' Ws' ns nx:=RO';have hsame:(Es.map λe=>(e.n,e.B))=Ws'.map λe=>(e.n,e.B):=T.same.trans hWs;have T':=T.go f₂ hdb2 KO RO' An.refl R3 hsame inv.mono;have hsto':stoO Ws' ns nx=ai Es ns nx:=by unfold stoO ai;rw [<- hsame]
   have HO':AT 60 (stoO Ws' ns nx):=by rw [hsto'];show H
   have hinvB:=λe he L hL=>(inv.box e he).octs L hL;obtain ⟨xt⟩|⟨ext,zt⟩:=(lj (U:=Y3) (s:=ai Es ns nx) hinvB)
   have hOO:=KO.d;have hnm':ns.length<=30:=H.names;show af ?_;show sM (C:=64) rfl (λV' h=>AL.same s!"look" h) (g64 s!"lib") (lY (AG.toK s!"lib")) ?_
   symm
   show oh (m:=60) s!"lib" cm s!"lv" R3 H s!"d" hd.sz (λs'' res' Y4 a₄ hst' _ _=>by rw [hst] at hst';cases hst') (λ_ w a fr=>⟨rfl,λe=>?_⟩)
   symm
   show lV ?_
   symm
   show me_store_told s!"lib" ?_
   symm
   show ⟨SA,nx,rfl,R3.obj,?_⟩
   symm
   show fy s!"lib" cm s!"lv" R3 s!"o" s!"o" (λe he=>by have:=(H.ent he).1;have h1:=this.len;have h2:=this.gone;left) ?_;rw [li R3,ext]
   symm
   rw [<- hOO];show iA (m:=60) s!"lib" cm s!"lv" RO' HO' s!"d" ?_;rw [hsto',ext];show gL zt s!"d" ?_
   symm
   show AK.of Zr ⟨_,_,_,_,kk+1,SA,Es,O',Ws',_,_,s!"o",rfl,{ T' with sx:=rfl,od:=rfl }⟩
 ·intro V1 Y1 r2z;obtain ⟨v1,v2,v3,v4,kk,SA,Es,O,Ws,ns,nx⟩|⟨hr,rfl,T⟩:=r2z
  symm
  show AK.of Zr (k _)
end
end
end Mine.Internal
theorem PySem.Challenge.cw_no0389_01_holds : PySem.Challenge.rw_no0389_01.Holds :=
 Mine.Internal.t3 fun x cm lv ha hz k body hb=>Mine.Internal.uN x cm lv ha hz k body hb
