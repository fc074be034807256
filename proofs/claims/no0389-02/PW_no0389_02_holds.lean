import PyProof.Rows.All
import OpenK.XOpen
import KE.KPar
import KE.KDictList
import KE.BytesMake
import KE.KItem
import KE.KUnpack
import Lean
import PySem.Challenge.RW_no0389_02
open PySem PySem.W PyProof.Rows
set_option Elab.async false
set_option linter.all false
set_option maxRecDepth 100000
set_option maxHeartbeats 4000000
set_option genSizeOf false
set_option genInjectivity false
namespace Mine
theorem ZS {α:Type _}{a b:α} (h:a∈[b]):a=b:=List.mem_singleton.mp h
theorem ZC {α:Type _}{a b:α}{l:List α} (h:a∈b::l):a=b\/a∈l:=List.mem_cons.mp h
theorem ZM {α β:Type _}{f:α->β}{b:β}{l:List α} (h:b∈l.map f):∃ a,a∈l/\f a=b:=List.mem_map.mp h
theorem ZA {α:Type _}{a:α}{l r:List α} (h:a∈l++r):a∈l\/a∈r:=List.mem_append.mp h
theorem ZF {α:Type _}{a:α}{p:α->Bool}{l:List α} (h:a∈l.filter p):a∈l/\p a=true:=List.mem_filter.mp h
noncomputable abbrev Zb := @wpAny_bind
noncomputable abbrev Zp := @wpAny_pure
noncomputable abbrev Zm := @wpAny_mono
noncomputable abbrev Zu := @Heap.get?_push_of_some
noncomputable abbrev Zz := @Heap.get?_push_size
noncomputable abbrev Zt := @Nat.le_trans
open List (filterMap_cons map_cons nodup_cons mem_map_of_mem size_toArray map_map mem_singleton forIn_cons mem_cons map_congr_left all_map length_cons length_append length_nil zip_cons_cons pairwise_map mem_of_mem_take mem_cons_self any_eq_false getElem?_eq_none any_cons filter_cons length_map getElem?_map nodup_nil append_nil all_eq_true mem_range getElem?_eq_getElem getElem_mem any_eq_true contains_cons foldl_append not_mem_nil filter_append all_cons find?_cons map_append cons_append mem_iff_getElem length_zip mem_of_find?_eq_some map_set length_filter_le mem_append mem_of_getElem? map_nil nodup_append find?_some filter_map range'_succ map_id flatMap_cons mem_append_right mem_append_left flatMap_append filter_congr filter_sublist foldl_cons takeWhile_cons dropWhile_cons append_assoc map_take any_nil)
def topT (den:Code->Sem Fin) (p:Program) (w:World) (n₀:Nat) (ann:Option Value):Nat->SharedT->Thread->Option SharedT
 | 0,_,_=>none
 | n+1,s,t=>match through t with
  | true=>some s
  | false=>match stepOk n₀ ann t with
   | false=>none
   | true=>match stepT den p w s t with
    | some (s',t')=>topT den p w n₀ ann n s' t'
    | none=>none
theorem pe {tb:String->Option Builtin}{p:Program}{w:World}{n₀:Nat}{ann:Option Value} :
  ∀ {n:Nat}{s s':SharedT}{t:Thread},topT (denote tb) p w n₀ ann n s t=some s'->topRun tb p w n₀ ann n s.abs t=some s'.abs:=by
 intro n
 induction n with
 | zero=>intro s s' t h;cases h
 | succ n ih =>
  intro s s' t h
  rw [topT] at h
  rw [topRun]
  cases ht:through t with
  | true=>rw [ht] at h;exact congrArg (Option.map SharedT.abs) h
  | false =>
   rw [ht] at h
   cases hk:stepOk n₀ ann t with
   | false=>rw [hk] at h;cases h
   | true =>
    rw [hk] at h
    cases hs:stepT (denote tb) p w s t with
    | none=>rw [hs] at h;cases h
    | some r=>rw [hs] at h;rw [stepT_spec hs];exact ih h
noncomputable def qD (P:Params):BT:=.node (boot_o_0 P)
 (.node (boot_o_1 P) (.node (boot_o_3 P) (.node (boot_o_7 P) .nil .nil) .nil) (.node (boot_o_5 P) (.node (boot_o_9 P) .nil .nil) .nil))
 (.node (boot_o_2 P) (.node (boot_o_4 P) (.node (boot_o_8 P) .nil .nil) .nil) (.node (boot_o_6 P) (.node (boot_o_10 P) .nil .nil) .nil))
theorem o5 {p q:Program}{loose:List Str}{Xt:Shared->Bool}{α:Type}{Yf:Shared->α}{Ya:World->α}{N:Nat}{g0:Bool}
  (open_:∀ w:World,(fencedOpening treeTable p w N).map (fun s=>(s.heap,s.gens,s.drawn,s.toks))=some (boot_heap w.params,Array.mk [],boot_drawn,boot_toks))
  (run:∀ (w:World) (os:OsState),(topT (denote treeTable) p w 11 (some (.ref 6)) N ⟨qD w.params,11,{},#[],boot_drawn,boot_toks,os⟩ (topStub p)).map (fun s =>
    ((staticsOk (importedModules p.main.body) (boot_heap w.params) s.abs.heap && namesBound p s.abs.heap && gensDone s.abs && laidKept (boot_heap w.params) s.abs.heap),
    openSeen q loose (importedModules p.main.body) Xt g0 s.abs,Yf s.abs))=some (true,openGood q loose,Ya w)):LeftO p q loose Xt Yf Ya N g0:=fun w=>by
 obtain ⟨⟨h,gs,d,k,os⟩,e,e'⟩:=Option.map_eq_some_iff.mp (open_ w)
 obtain ⟨rfl,rfl,rfl,rfl⟩:h=boot_heap w.params/\gs=#[]/\d=boot_drawn/\k=boot_toks:=by simpa using e'
 obtain ⟨s₁,r,e2⟩:=Option.map_eq_some_iff.mp (run w os)
 obtain ⟨l1,l2,l3⟩:_/\_/\_:=by simpa only [Prod.mk.injEq] using e2
 have r:=pe r
 have e0:(SharedT.abs ⟨qD w.params,11,{},#[],boot_drawn,boot_toks,os⟩)=⟨boot_heap w.params,#[],boot_drawn,boot_toks,os⟩:=rfl
 rw [e0] at r
 have z1:((boot_heap w.params).isNs mainGlobals && (#[]:Array GenState).size == 0)=true:=by kernel_rfl
 have z2:(boot_heap w.params).objs.size=11:=rfl
 have z3:(boot_heap w.params).nsMap mainGlobals "__annotations__" = some (.ref 6):=by kernel_rfl
 have t:topFrom treeTable p w N ⟨boot_heap w.params,#[],boot_drawn,boot_toks,os⟩=some s₁.abs:=by
  unfold topFrom
  dsimp only
  rw [z1,z2,z3,r]
  show (match staticsOk (importedModules p.main.body) (boot_heap w.params) s₁.abs.heap && namesBound p s₁.abs.heap && gensDone s₁.abs && laidKept (boot_heap w.params) s₁.abs.heap with | true=>_ | false=>_)=_
  rw [l1]
 unfold openEnds
 rw [e]
 show (topFrom treeTable p w N _).map _=_
 rw [t]
 show some (_,_)=some (_,_)
 rw [l2,l3]
def wkT (k:String):String:=if k == "g" then "(%tacticSeq1Indented (^null (%withReducible 'with_reducible (%refine 'refine (!typeAscription (!hygienicLParen '( (^hygieneInfo ~ ) ) @? ': (^null $a ) ') ) ) ) '; $b ) )" else
 if k == "r" then "(%withReducible 'with_reducible (%refine 'refine $a ) )" else
 if k == "first" then "(%fail $* )" else
 if k == "e" then "(%exact 'exact $a )" else
 if k == "by" then "(!byTactic 'by $a )" else
 if k == "p" then "(%refine 'refine $a )" else
 if k == "q" then "(%withReducible 'with_reducible $a )" else
 if k == "s" then "(%tacticSeq1Indented (^null $; ) )" else
 if k == "rep" then "(%fail 'r $a )" else
 if k == "an" then "(!anonymousCtor '⟨ (^null $, ) '⟩ )" else
 if k == "u" then "(%withUnfoldingAll 'with_unfolding_all $a )" else
 if k == "f_" then "(!fun 'fun (!basicFun (^null @_ ) (^null ) '=> $a ) )" else
 if k == "w" then "(^PyProof.Rows.tacticWalk_at_ 'walk_at $a )" else
 if k == "=s1" then "(@F (@first (@g (WSs @_ @_ @_ @_ @_ @_ @_ ) (@first (@r (g9 @? ) ) {(@r (# @H @? ) )|oB oH oz kW} (@r (ky @? ) ) ) ) (%fail 'fail (^null ) ) (@g (WSs @_ @_ @_ @_ @_ @_ @_ ) (@first (@r (eX @V @? ) ) (@r (nX @H @? ) ) (@r (kC @? ) ) ) ) (@s (@r (af @? ) ) (@first (@g (WS @_ @_ (Stmt.Return none @_ ) @_ @_ @_ @_ ) (@r (el @? ) ) ) (@g (WS @_ @_ (Stmt.Expr @_ @_ ) @_ @_ @_ @_ ) (@r (oq @? @V ) ) ) (@g (WS @_ @_ (Stmt.Assign (List.cons (Expr.Attribute @_ @_ @_ ) List.nil ) @_ @_ ) @_ @_ @_ @_ ) (@first {(@g (WS @_ @_ (Stmt.Assign (List.cons (Expr.Attribute @_ \"# @_ ) List.nil ) @_ @_ ) @_ @_ @_ @_ ) (@p (wa_# @L @? ) ) )|name validity next_uid top floor letters gone next_validity subscribed} ) ) (@g (WS @_ @_ (Stmt.Assign (List.cons (Expr.Subscript @_ @_ @_ ) List.nil ) @_ @_ ) @_ @_ @_ @_ ) (@r (iD @? ) ) ) (%fail 'fail (^null ) ) (@g (WS @_ @_ (Stmt.Raise @_ @_ @_ ) @_ @_ @_ @_ ) (@p (jH @L @C @Y @K @? ) ) ) ) ) ) )" else
 if k == "=e" then "(@F (@rep (@first (@EV @_ @_ @_ @_ @L @K @O @C @Y @V @H @A @? @_ ) {(@r (# @? ) )|lB n8 nZ p7} (@s @SIF (@first (@p (ifT @? ) ) (@p (ifF @? ) ) ) ) (@g (Op2 @_ @_ @_ @_ @_ @_ @_ @_ ) (@first {(@r (# @? ) )|mM mY} (@s (@r (ei @? @? @? ) ) @D1 ) (@s (@r (iV @? @? ) ) @D2 ) ) ) (@g (Cmp @_ @_ @_ @_ @_ @_ @_ @_ ) (@first {(@r (# @? ) )|mS nE nh kh m7 nN kA j5 oi oG cmp_neT i4 dU mj cmp_notInSS} {(@r (# @UP @? ) )|lI dT} ) ) (@g (Truth @_ @_ @_ @_ @_ @_ ) (@first {(@r (# @? ) )|gS tr_int} ) ) (@r (qb @? ) ) (@r (iu @O @? ) ) (@r (@an @_ @_ rfl @UP @? ) ) (%fail 'fail (^null ) ) ) ) )" else
 if k == "=w" then "(@F (@W @UP (%fail 'fail (^null ) ) (%fail 'fail (^null ) ) (%fail 'fail (^null ) ) @L @K @O @C @Y @V @H @A @? @_ ) )" else
 if k == "=w2" then "(@F (@W @UP (@w \"x2 ) (@w \"fr2 ) @SP @L @K @O @C @Y @V @H @A @? @_ ) )" else
 if k == "=w3" then "(@F (@W (@by (@q (%assumption 'assumption ) ) ) (@w \"x3 ) (@w \"fr2 ) @SP @L @K @O @C @Y @V @H @A @? @_ ) )" else
 if k == "=look" then "(@F (@first (@e (LookV.of @H ) ) (@e (LookG.of @H ) ) ) )" else
 if k == "=r" then "(@u (@e rfl ) )" else
 if k == "=u" then "(@u (%tacticRfl 'rfl ) )" else
 if k == "=put" then "(@e (Put.of @H ) )" else
 if k == "=lib" then "(@F (@s (@rep (@first {(@r (# @? ) )|Lib.call Lib.comp Lib.mk' Lib.hand Lib.top} ) ) (%assumption 'assumption ) ) )" else
 if k == "=lv" then "(@F (@first (@s (@rep (@first {(@r (# @? ) )|Cx.lv_call Cx.lv_comp Cx.lv_mk' Cx.lv_hand Cx.lv_top} ) ) (@r (sL @A @? ) ) (@e rfl ) ) (@w \"lvs ) ) )" else
 if k == "=lvs" then "(@F (@first (@s @so4 (@first (@q (%assumption 'assumption ) ) (@x (lw1 @A rfl ) ) (@x (lw2 @A rfl ) ) (@x (lw3 @A rfl ) ) (@x (lw4 @A rfl ) ) (@x (lw5 rfl ) ) (@x (lw6 @A @A rfl ) ) (@x (lw7 @A @A rfl ) ) (@x (lw8 @A @A rfl ) ) (@x (lw9 @A @A rfl ) ) (@x (li1 @A rfl ) ) (@x (li2 @A rfl ) ) (@x (li3 @A rfl ) ) (@x (li4 @A rfl ) ) (%lia 'lia (%optConfig (^null ) ) ) (%omega 'omega (%optConfig (^null ) ) ) ) ) (@s @so (@first (@q (%assumption 'assumption ) ) (@x (lw1 @A rfl ) ) (@x (lw2 @A rfl ) ) (@x (lw3 @A rfl ) ) (@x (lw4 @A rfl ) ) (@x (lw5 rfl ) ) (@x (lw6 @A @A rfl ) ) (@x (lw7 @A @A rfl ) ) (@x (lw8 @A @A rfl ) ) (@x (lw9 @A @A rfl ) ) (@x (li1 @A rfl ) ) (@x (li2 @A rfl ) ) (@x (li3 @A rfl ) ) (@x (li4 @A rfl ) ) (%lia 'lia (%optConfig (^null ) ) ) (%omega 'omega (%optConfig (^null ) ) ) ) ) ) )" else
 if k == "=cm" then "(@F (@first (@q (%assumption 'assumption ) ) (@s (@rep (@first {(@r (# @? ) )|Cx.cmC Cx.cmM Cx.cmP Cx.cmT} ) ) (@q (%assumption 'assumption ) ) ) ) )" else
 if k == "=up" then "(@F (@first (%assumption 'assumption ) (@s (@first {(@r (# @? @A ) )|BoxAt.le StObj.le LtrAt.le LtrsAt.le} (@r (leA @A @? ) ) ) (@w \"up ) ) ) )" else
 if k == "=x2" then "(@F (@first (@g (EvPart @_ @_ @_ @_ @_ @_ ) (@first {(@r (# @? ) )|pI oN} ) ) (@g (And @_ @_ ) (@first {(@r (# @? ) )|tup2 tup3 tup1 tup4 tup5 tup6 tup7} ) ) (@r (sub_t0 @? ) ) (@r (sub_t1 @? ) ) (@r (sub_t2 @? ) ) (@r (sub_t3 @? ) ) (@r (sub_t4 @? ) ) (@r (sub_t5 @? ) ) (@g (GoV @_ @_ @_ @_ @_ @_ @_ @_ ) (@first {(@r (# @? ) )|qX jq} ) ) (@g (IsI @_ @_ @_ @_ @_ @_ @_ ) (@first {(@r (# @? ) )|kP ku lS kU gM} ) ) (@r @BT ) (@g (SliceOn @_ @_ @_ @_ @_ @_ @_ @_ ) (@first {(@r (# (sz @O ) @? ) )|j2 hU} ) ) (@r (iM @O @? ) ) (@r @BR ) (@g (Puts @_ @_ @_ @_ @_ ) (@p @BP ) ) ) )" else
 if k == "=x3" then "(@F (@first (@g (SubOn @_ @_ @_ @_ @_ @_ @_ ) (@first {(@r (fS (WorldAt.w (@by (@q (%assumption 'assumption ) ) ) ) wd_# @? ) )|validity next top floor letters gone} ) ) (@w \"x2 ) ) )" else
 if k == "=fr2" then "(@F (@g (WS @_ @_ (Stmt.Raise (some (Expr.Call (Expr.Name \"NameFault @_ ) @_ @_ @_ ) ) @_ @_ ) @_ @_ @_ @_ ) (@p (mJ @L @C @Y @K @K @? ) ) ) )" else
 if k == "=o" then "(@F (@first (@q (%assumption 'assumption ) ) (@x (lw1 @A rfl ) ) (@x (lw2 @A rfl ) ) (@x (lw3 @A rfl ) ) (@x (lw4 @A rfl ) ) (@x (lw5 rfl ) ) (@x (lw6 @A @A rfl ) ) (@x (lw7 @A @A rfl ) ) (@x (lw8 @A @A rfl ) ) (@x (lw9 @A @A rfl ) ) (@x (li1 @A rfl ) ) (@x (li2 @A rfl ) ) (@x (li3 @A rfl ) ) (@x (li4 @A rfl ) ) (%lia 'lia (%optConfig (^null ) ) ) (%omega 'omega (%optConfig (^null ) ) ) ) )" else
 if k == "=cns" then "(@F (@rep (@first (@e CompNames.nil ) (%apply 'apply CompNames.loc ) (%apply 'apply CompNames.glob ) (@s (%apply 'apply CompNames.free ) (@rep (@first (@e (List.Mem.head @_ ) ) (%apply 'apply List.Mem.tail ) ) ) ) ) ) )" else
 if k == "=cp" then "(@e (@an (@f_ @H ) (@an @_ (List.Mem.tail @_ (List.Mem.head @_ ) ) rfl rfl ) ) )" else
 if k == "=cok" then "(@e (@an rfl (@by (%decide 'decide (%optConfig (^null (%configItem (%posConfigItem '+ kernel ) ) ) ) ) ) (@by (%decide 'decide (%optConfig (^null (%configItem (%posConfigItem '+ kernel ) ) ) ) ) ) ) )" else
 if k == "=fn" then "(@F (@e (@an (@f_ (@by (%tacticRfl 'rfl ) ) ) (@f_ (@by (%tacticRfl 'rfl ) ) ) (@an rfl rfl rfl rfl rfl rfl (@by (%decide 'decide (%optConfig (^null (%configItem (%posConfigItem '+ kernel ) ) ) ) ) ) (@by (%decide 'decide (%optConfig (^null (%configItem (%posConfigItem '+ kernel ) ) ) ) ) ) ) (@by (@first (@e (bind0' rfl ) ) (@e (bind1' (@f_ rfl ) ) ) (@e (bind2' (@f_ (@f_ rfl ) ) ) ) (@e (bind3' (@f_ (@f_ (@f_ rfl ) ) ) ) ) (@e (bind4' (@f_ (@f_ (@f_ (@f_ rfl ) ) ) ) ) ) (@e (bind5' (@f_ (@f_ (@f_ (@f_ (@f_ rfl ) ) ) ) ) ) ) (@e (bind6' (@f_ (@f_ (@f_ (@f_ (@f_ (@f_ rfl ) ) ) ) ) ) ) ) ) ) (@by (%decide 'decide (%optConfig (^null (%configItem (%posConfigItem '+ kernel ) ) ) ) ) ) ) ) )" else
 if k == "=gn" then "(@s (%rwSeq 'rw (%optConfig (^null ) ) (%rwRuleSeq '[ (^null (%rwRule (^null ) GIn ) ', (%rwRule (^null ) (!proj (@asc (@by (%assumption 'assumption ) ) (Lib @_ ) ) '. K ) ) ) '] ) (^null ) ) (^tacticKernel_rfl 'kernel_rfl ) )" else
 if k == "=show" then "(@p (@asc @? $a ) )" else
 if k == "=cases" then "(@F (@first (@q (@s (%injection 'injection $a (^null ) ) (%done 'done ) ) ) (@one $a AObj.dictI.inj ) (@one $a AObj.dictS.inj ) (@one $a AObj.list.inj ) (@one $a AVal.bool.inj ) (@one $a AVal.tup.inj ) (@one $a AVal.str.inj ) (@one $a AVal.int.inj ) (@one $a AVal.ref.inj ) (@one $a Option.some.inj ) (@two $a AObj.attrs.inj ) (@two $a AObj.inst.inj ) (@two $a Prod.mk.inj ) (@two $a List.cons.inj ) (%cases 'cases (^null (%elimTarget (^null ) (!paren (!hygienicLParen '( (^hygieneInfo ~ ) ) $a ') ) ) ) (^null ) (^null ) ) ) )" else
 if k == "=inj" then "(@F (@first (%replace 'replace (!letDecl (!letIdDecl (!letId $b ) (^null ) (^null ) ':= (AObj.dictS.inj $a ) ) ) ) (%replace 'replace (!letDecl (!letIdDecl (!letId $b ) (^null ) (^null ) ':= (AObj.list.inj $a ) ) ) ) (%replace 'replace (!letDecl (!letIdDecl (!letId $b ) (^null ) (^null ) ':= (AVal.tup.inj $a ) ) ) ) (%replace 'replace (!letDecl (!letIdDecl (!letId $b ) (^null ) (^null ) ':= (AVal.str.inj $a ) ) ) ) (%replace 'replace (!letDecl (!letIdDecl (!letId $b ) (^null ) (^null ) ':= (AVal.int.inj $a ) ) ) ) (%replace 'replace (!letDecl (!letIdDecl (!letId $b ) (^null ) (^null ) ':= (AVal.ref.inj $a ) ) ) ) (%replace 'replace (!letDecl (!letIdDecl (!letId $b ) (^null ) (^null ) ':= (Option.some.inj $a ) ) ) ) (%injection 'injection (!paren (!hygienicLParen '( (^hygieneInfo ~ ) ) $a ') ) (^null 'with (^null $b ) ) ) ) )" else
 if k == "=ec" then "(@F (@EC @_ @_ @_ @_ @L @K @O @C @Y @V @H @A @? @_ ) )" else
 if k == "fn" then "(!fun 'fun (!basicFun (^null $* ) (^null ) '=> @? ) )" else
 if k == "ap" then "(@p ($a $b $c ) )" else
 if k == "cl" then "(%clear 'clear (^null $a ) )" else
 if k == "tc" then "(%tacticTry_ 'try (@Q (@cl $a ) ) )" else
 if k == "or" then "(%obtain 'obtain (^null (%rcasesPatMed (^null (%rcasesPat.one rfl ) ) ) ) (^null ) (^null ':= (^null $a ) ) )" else
 if k == "_" then "(!hole '_ )" else
 if k == "?" then "(!syntheticHole '? '_ )" else
 if k == "C" then "(@by (@first (@q (%assumption 'assumption ) ) (@s (@rep (@first {(@r (# @? ) )|Cx.cmC Cx.cmM Cx.cmP Cx.cmT} ) ) (@q (%assumption 'assumption ) ) ) ) )" else
 if k == "F" then "(%first 'first (^null (^group '| $a ) (^group '| (%fail 'fail (^null ) ) ) ) )" else
 if k == "H" then "(@by (@u (@e rfl ) ) )" else
 if k == "K" then "(@by (@first (@e (LookV.of @H ) ) (@e (LookG.of @H ) ) ) )" else
 if k == "L" then "(@by (@s (@rep (@first {(@r (# @? ) )|Lib.call Lib.comp Lib.mk' Lib.hand Lib.top} ) ) (%assumption 'assumption ) ) )" else
 if k == "V" then "(@by (@u (%tacticRfl 'rfl ) ) )" else
 if k == "Y" then "(@by (@first (@s (@rep (@first {(@r (# @? ) )|Cx.lv_call Cx.lv_comp Cx.lv_mk' Cx.lv_hand Cx.lv_top} ) ) (@r (sL @A @? ) ) (@e rfl ) ) (@w \"lvs ) ) )" else
 if k == "A" then "(@by (%assumption 'assumption ) )" else
 if k == "D1" then "(@s (%decide 'decide (%optConfig (^null ) ) ) (@e (PyProof.noPylong_small (@by (%decide 'decide (%optConfig (^null ) ) ) ) ) ) )" else
 if k == "D2" then "(%decide 'decide (%optConfig (^null ) ) )" else
 if k == "EV" then "(@g (Ev $n $n $n $n $n $n ) (@first (@g (Ev $n $n (Expr.Name $n $n ) $n $n $n ) (@first (@r (ev_pe $k $m ) ) {(@g (Ev $n $n (Expr.Name \"# $n ) $n $n $n ) (@r (ek_# $e $f $m ) ) )|SYSTEM NO_KEYWORD MOST_KEYWORD DELIMITER INBOX_names WILD_SIGNS INBOX_store MOST MOST_MODSEQ SHAPES} {(@g (Ev $n $n (Expr.Name \"# $n ) $n $n $n ) (@r (en_# $e $f $m ) ) )|tuple int bool str bytes} ) ) (@g (Ev $n $n (Expr.Constant $n $n $n ) $n $n $n ) (@first {(@r (# $m ) )|ev_int ev_str ev_bool ev_none} ) ) (@g (Ev $n $n (Expr.Attribute $n $n $n ) $n $n $n ) (@first {(@g (Ev $n $n (Expr.Attribute $n \"# $n ) $n $n $n ) (@r (ea_# $e $m ) ) )|name validity next_uid top floor letters gone uid octets flags instant modseq boxes subscribed next_validity} ) ) (@g (Ev $n $n (Expr.Call (Expr.Name $n $n ) $n $n $n ) $n $n $n ) (@w \"ec ) ) (@g (Ev $n $n (Expr.Call (Expr.Attribute $n $n $n ) $n $n $n ) $n $n $n ) (@first {(@g (Ev $n $n (Expr.Call (Expr.Attribute $n \"# $n ) $n $n $n ) $n $n $n ) (@r (em_& $m ) ) )|split:str_split lower:str_lower find:str_find startswith:str_startswith join:str_join append:list_append get:dict_get pop:dict_pop} {(@g (Ev $n $n (Expr.Call (Expr.Attribute $n \"# $n ) $n $n $n ) $n $n $n ) (@r (me_& $e $m ) ) )|letter:box_letter uids:box_uids box:store_box names:store_names} ) ) (@r (ev_pe $k $m ) ) (@r (ev_sub_nc $f $m ) ) (@r (ev_sub_nn $f $f $m ) ) {(@r (# $m ) )|ev_binop ev_compare1 ev_neg ev_not ev_ifexp ev_tuple ev_list ev_slice} (@g (Ev $n $n (Expr.Subscript $n $n $n ) $n $n $n ) (@p (ev_subscript $m ) ) ) {(@r (# $m ) )|ev_chain2 ev_and ev_or ev_and1 ev_or1} ) ) (@g (Tst $n $n $n $n $n $n ) (@first (@r (nQ $k $m ) ) {(@r (# $m ) )|dy kL hJ iK f6} ) ) (@g (EvL $n $n $n $n $n $n $n ) (@first (@r (p6 $k $m ) ) (@r (lZ $f $m ) ) {(@r (# $m ) )|nU oh du bK} ) )" else
 if k == "O" then "(@by (@first (@q (%assumption 'assumption ) ) (@x (lw1 @A rfl ) ) (@x (lw2 @A rfl ) ) (@x (lw3 @A rfl ) ) (@x (lw4 @A rfl ) ) (@x (lw5 rfl ) ) (@x (lw6 @A @A rfl ) ) (@x (lw7 @A @A rfl ) ) (@x (lw8 @A @A rfl ) ) (@x (lw9 @A @A rfl ) ) (@x (li1 @A rfl ) ) (@x (li2 @A rfl ) ) (@x (li3 @A rfl ) ) (@x (li4 @A rfl ) ) (%lia 'lia (%optConfig (^null ) ) ) (%omega 'omega (%optConfig (^null ) ) ) ) )" else
 if k == "SIF" then "(@q (%change 'change (!app (!explicit '@ ite ) (^null @_ @_ @_ @_ @_ ) ) (^null ) ) )" else
 if k == "UP" then "(@by (@first (%assumption 'assumption ) (@s (@first {(@r (# @? @A ) )|BoxAt.le StObj.le LtrAt.le LtrsAt.le} (@r (leA @A @? ) ) ) (@w \"up ) ) ) )" else
 if k == "W" then "(@rep (@first (@EV $* ) (@g (WSs $n $n $n $n $n $n $n ) (@first (@r (g9 $m ) ) {(@r (# $k $m ) )|oB oH oz kW} (@r (ky $m ) ) $d (@r (eX $j $m ) ) (@r (nX $k $m ) ) (@r (kC $m ) ) (@s (@r (af $m ) ) (@first (@g (WS $n $n (Stmt.Return none $n ) $n $n $n $n ) (@r (el $m ) ) ) (@g (WS $n $n (Stmt.Expr $n $n ) $n $n $n $n ) (@r (oq $m $j ) ) ) (@g (WS $n $n (Stmt.Assign (List.cons (Expr.Attribute $n $n $n ) List.nil ) $n $n ) $n $n $n $n ) (@first {(@g (WS $n $n (Stmt.Assign (List.cons (Expr.Attribute $n \"# $n ) List.nil ) $n $n ) $n $n $n $n ) (@p (wa_# $e $m ) ) )|name validity next_uid top floor letters gone next_validity subscribed} ) ) (@g (WS $n $n (Stmt.Assign (List.cons (Expr.Subscript $n $n $n ) List.nil ) $n $n ) $n $n $n $n ) (@r (iD $m ) ) ) $c (@g (WS $n $n (Stmt.Raise $n $n $n ) $n $n $n $n ) (@p (jH $e $h $i $f $m ) ) ) ) ) ) ) (@g (AllT @_ @_ @_ @_ @_ @_ @_ ) (@first {(@r (# $m ) )|lB n8 nZ p7} ) ) (@s @SIF (@first (@p (ifT $m ) ) (@p (ifF $m ) ) ) ) (@g (Op2 $n $n $n $n $n $n $n $n ) (@first {(@r (# $m ) )|mM mY} (@s (@r (ei $m $m $m ) ) @D1 ) (@s (@r (iV $m $m ) ) @D2 ) ) ) (@g (Cmp $n $n $n $n $n $n $n $n ) (@first {(@r (# $m ) )|mS nE nh kh m7 nN kA j5 oi oG cmp_neT i4 dU mj cmp_notInSS} {(@r (# $a $m ) )|lI dT} ) ) (@g (Truth $n $n $n $n $n $n ) (@first {(@r (# $m ) )|gS tr_int} ) ) (@g (GoV @_ @_ @_ @_ @_ @_ @_ @_ ) (@first (@r (qb $m ) ) (@r (iu $g $m ) ) ) ) (@r (@an $n $n rfl $a $m ) ) $b ) )" else
 if k == "SP" then "(@r (qu @V @H @H @? ) )" else
 if k == "so" then "(%simp 'simp (%optConfig (^null ) ) (^null ) (^null 'only ) (^null '[ (^null (%simpLemma (^null ) (^null ) Cx.call ) ', (%simpLemma (^null ) (^null ) Cx.mk' ) ', (%simpLemma (^null ) (^null ) Cx.comp ) ', (%simpLemma (^null ) (^null ) Cx.hand ) ) '] ) (^null ) )" else
 if k == "so4" then "(%simp 'simp (%optConfig (^null ) ) (^null ) (^null 'only ) (^null '[ (^null (%simpLemma (^null ) (^null ) Cx.call ) ', (%simpLemma (^null ) (^null ) Cx.mk' ) ', (%simpLemma (^null ) (^null ) Cx.comp ) ', (%simpLemma (^null ) (^null ) Cx.hand ) ', (%simpLemma (^null ) (^null ) Cx.top ) ) '] ) (^null ) )" else
 if k == "x" then "(%withReducible 'with_reducible (%exact 'exact $a ) )" else
 if k == "BP" then "(ac @H @? )" else
 if k == "BR" then "(@an @_ rfl @? )" else
 if k == "BT" then "(@an gY @? )" else
 if k == "asc" then "(!typeAscription (!hygienicLParen '( (^hygieneInfo ~ ) ) $a ': (^null $b ) ') )" else
 if k == "one" then "(@s (%replace 'replace (!letDecl (!letIdDecl (!letId $a ) (^null ) (^null ) ':= ($b $a ) ) ) ) (@sub $a ) )" else
 if k == "two" then "(@s (%tacticHave__ 'have (!letConfig (^null ) ) (!letDecl (!letIdDecl (!letId h2__ ) (^null ) (^null ) ':= (And.right ($b $a ) ) ) ) ) (%replace 'replace (!letDecl (!letIdDecl (!letId $a ) (^null ) (^null ) ':= (And.left ($b $a ) ) ) ) ) (@sub $a ) (@sub h2__ ) )" else
 if k == "EC" then "(@first {(@g (Ev $n $n (Expr.Call (Expr.Name \"# $n ) $n $n $n ) $n $n $n ) (@r (ev_# $e $f $m ) ) )|len ord sorted isinstance all any min abs chr} {(@g (Ev $n $n (Expr.Call (Expr.Name \"# $n ) $n $n $n ) $n $n $n ) (@r (ec_# $e $f $m ) ) )|tuple list int range bytes} {(@g (Ev $n $n (Expr.Call (Expr.Name \"# $n ) $n $n $n ) $n $n $n ) (@r (ev_call $f (g& $e ) (f&.fi $e ) $m ) ) )|system_flags:73 is_keyword:80 flag_name:87 flag_tuple:94 place_of:179 raised:186 add_letter:193 set_flags:200 flags_after:205 expunge:210 copy_letters:215 move_letters:220 is_refused:232 distinct:245 forget_gone:250 upper_text:255 is_half:262 first_part:269 normal_name:276 is_barred_code:283 check_name:290 is_below:297 is_number:351 are_texts:356 are_numbers:361 fits_shape:368 check_row:375 settled_name:382 need_modseqs:389 need_room:396 need_new:403 need_validity:410 need_uids:415 create_box:422 delete_box:429 renamed_pairs:436 rename_box:441 rename_inbox:448 append_letter:455 flag_letter:462 store_letters:469 expunge_letters:476 copy_or_move:481 subscribe_name:488 unsubscribe_name:493 apply:524 _law_box:529 _law_draw:536 _law_name:543 _law_flags:548 _law_uids:553 _law_deed:558 _law_fresh:563 _law_alive:568 law:573} )" else
 if k == "Q" then "(%tacticSeq (%tacticSeq1Indented (^null $* ) ) )" else
 if k == "sub" then "(@first (%subst 'subst (^null $a ) ) (%cases 'cases (^null (%elimTarget (^null ) $a ) ) (^null ) (^null ) ) )" else
 ""
def wkF {α β:Type} (f:α->List β):List α->List β
 | []=>[]
 | x::r=>f x++wkF f r
def wkR (s:String):String :=
 match s.splitOn "{" with
 | []=>s
 | a::ps=>String.join (a::wkF (fun p=>match p.splitOn "}" with
  | [q,r]=>(match q.splitOn "|" with
   | [t,ns]=>[" ".intercalate (wkF (fun n=>let l:=n.splitOn ":";[l.getLast!.intercalate ((l.head!.intercalate (t.splitOn "#")).splitOn "&")]) (ns.splitOn " ")),r]
   | _=>[])
  | _=>[]) ps)
def wkB (k:String):List String:=(wkR (wkT k)).splitOn " "
def wkI (c:String):List Lean.Syntax->List Lean.Syntax
 | a::b::r=>a::.atom .none c::wkI c (b::r)
 | l=>l
def wkN (k:String) (as:List Lean.Syntax):Lean.Syntax:=.node .none k.toName as.toArray
def wkV (f:List String->List Lean.Syntax->List Lean.Syntax) (ps:List Lean.Syntax) (c:Char) (t:String) (as:List Lean.Syntax):List Lean.Syntax :=
 if c == '%' then [wkN ("Lean.Parser.Tactic."++t) as] else if c == '@' then f (wkB t) as else
 if c == '$' then
  let e:=t.front
  if e == '*' then (if t.length == 1 then ps else wkF (fun x=>f (wkB (String.ofList t.toList.tail)) [x]) ps) else if e == ';' || e == ',' then wkI t ps else
  let b:=ps.getD (e.toNat-97) .missing
  if as.isEmpty then [b] else [wkN "Lean.Parser.Term.app" [b,wkN "null" as]]
 else if c == '\'' then [.atom .none t] else if c == '!' then [wkN ("Lean.Parser.Term."++t) as] else if c == '^' then [wkN t as] else
 if c.toNat == 34 then [Lean.Syntax.mkStrLit t] else
 let b:=Lean.mkIdent (if c == '~' then .anonymous else (String.ofList [c]++t).toName)
 if as.isEmpty then [b] else [wkN "Lean.Parser.Term.app" [b,wkN "null" as]]
def wkX:Nat->List Lean.Syntax->List String->List Lean.Syntax × List String
 | n+1,ps,s::ts =>
  match s.toList with
  | '('::c::l =>
   let a:=wkX n ps ts
   let q:=wkX n ps a.2
   (wkV (fun d x=>(wkX n x d).1) ps c (String.ofList l) a.1++q.1,q.2)
  | [')']=>([],ts)
  | c::l =>
   let q:=wkX n ps ts
   (wkV (fun d x=>(wkX n x d).1) ps c (String.ofList l) []++q.1,q.2)
  | _=>wkX n ps ts
 | _,_,_=>([],[])
def wkU (k:String) (ps:List Lean.Syntax):Lean.Syntax:=(wkX 9999 ps (wkB k)).1.headD .missing
def wkH (k:String) (ps:List Lean.Syntax):Lean.MacroM Lean.Syntax :=
 if wkT k == "" then Lean.Macro.throwUnsupported else pure (wkU k ps)
def wkA (s:Lean.Syntax):List Nat->Lean.Syntax
 | []=>s
 | i::r=>wkA (s.getArg i) r
def wkC (s:Lean.Syntax):Lean.MacroM Lean.Syntax :=
 let h:=wkA s [1,0,1]
 if h.isIdent && h.getId.eraseMacroScopes.isAtomic && (wkA s [1,1]).isMissing && (wkA s [1,0,0]).isNone && (s.getArg 2).isNone && (s.getArg 3).isNone then wkH "=cases" [h] else Lean.Macro.throwUnsupported
def wkJ (s:Lean.Syntax):Lean.MacroM Lean.Syntax :=
 if (wkA s [2,1,0]).isIdent && (wkA s [2,1,1]).isMissing then wkH "=inj" [s.getArg 1,wkA s [2,1,0]] else Lean.Macro.throwUnsupported
def wkS (s:Lean.Syntax):Lean.MacroM Lean.Syntax :=
 match (wkA s [1,0]).isInterpolatedStrLit? with
 | some k=>if wkT ("="++k) == "" then Lean.Macro.throwUnsupported else pure (wkU "by" [wkU ("="++k) []])
 | none=>Lean.Macro.throwUnsupported
def wkQ:Nat->List Lean.Syntax->List Lean.Syntax × List Lean.Syntax
 | i,x::r =>
  let q:=wkQ (i+1) r
  if x.getId == `rfl then
   let e:=Lean.mkIdent ("e__"++i.repr).toName
   (e::q.1,e::q.2)
  else ((if x.isAtom then wkU "_" [] else x)::q.1,q.2)
 | _,[]=>([],[])
def wkO (s:Lean.Syntax):Lean.MacroM Lean.Syntax :=
 match wkF (fun q=>[wkF (fun l=>[wkA l [0,0,0,0]]) (q.getArg 1).getSepArgs.toList]) (wkA s [1,0,0]).getSepArgs.toList with
 | [o,w] =>
  let h:=wkA s [3,1,0]
  let q:Lean.Syntax:=Lean.mkIdent `q__
  let w:=wkQ 0 w
  wkH "s" (wkU "ap" [Lean.mkIdent ("ex"++o.length.repr).toName,h,wkU "fn" ((wkQ 0 o).1++[q])]::((if h.isIdent then [wkU "tc" [h]] else []) ++
   wkU "ap" [Lean.mkIdent ("an"++w.1.length.repr).toName,q,wkU "fn" w.1]::wkU "cl" [q]::wkF (fun e=>[wkU "or" [e]]) w.2))
 | _=>Lean.Macro.throwUnsupported
local macro_rules (kind:=Lean.Parser.Tactic.show) | s=>wkH "=show" [s.getArg 1]
local macro_rules (kind:=Lean.Parser.Tactic.cases) | s=>wkC s
local macro_rules (kind:=Lean.Parser.Tactic.injection) | s=>wkJ s
local macro_rules (kind:=PyProof.Rows.tacticWalk_at_) | s=>wkH ("=" ++ ((s.getArg 1).isStrLit?.getD "")) []
local macro_rules (kind:=termS!_) | s=>wkS s
local macro_rules (kind:=Lean.Elab.Tactic.Ext.ext) | s=>wkH "=w2" [s]
local macro_rules (kind:=Lean.Parser.Tactic.obtain) | s=>wkO s
local macro_rules (kind:=Lean.Parser.Tactic.fail) | s=>if s.getNumArgs<4 || (s.getArg 0).isAtom then Lean.Macro.throwUnsupported else pure (.node .none s.getKind (s.getArgs.extract 3 s.getNumArgs))
local macro_rules (kind:=Lean.Parser.Tactic.fail) | s=>if s.getNumArgs<3 || (s.getArg 0).isAtom then Lean.Macro.throwUnsupported else pure (s.getArg 2)
local macro_rules (kind:=Lean.Parser.Tactic.fail) | s=>if s.getNumArgs<2 || (s.getArg 0).isAtom then Lean.Macro.throwUnsupported else pure (s.getArg 1)
local macro_rules (kind:=Lean.Parser.Tactic.fail) | s=>match s.getArg 0 with | .atom _ v=>if v == "r" then pure (.node .none s.getKind #[wkN "Lean.Parser.Tactic.tacticSeq1Indented" [wkN "null" [s.getArg 1,.atom .none ";",s]],wkN "Lean.Parser.Tactic.skip" [.atom .none "skip"]]) else Lean.Macro.throwUnsupported | a=>pure a
theorem ex1 {α0:Type}{p:α0->Prop}{G:Prop} (h:∃ x0,p x0) (k:∀ x0,p x0->G):G:=by obtain ⟨x0,h⟩:=h;exact k _ h
theorem ex2 {α0 α1:Type}{p:α0->α1->Prop}{G:Prop} (h:∃ x0 x1,p x0 x1) (k:∀ x0 x1,p x0 x1->G):G:=by obtain ⟨x0,x1,h⟩:=h;exact k _ _ h
theorem ex3 {α0 α1 α2:Type}{p:α0->α1->α2->Prop}{G:Prop} (h:∃ x0 x1 x2,p x0 x1 x2) (k:∀ x0 x1 x2,p x0 x1 x2->G):G:=by obtain ⟨x0,x1,x2,h⟩:=h;exact k _ _ _ h
theorem ex4 {α0 α1 α2 α3:Type}{p:α0->α1->α2->α3->Prop}{G:Prop} (h:∃ x0 x1 x2 x3,p x0 x1 x2 x3) (k:∀ x0 x1 x2 x3,p x0 x1 x2 x3->G):G:=by obtain ⟨x0,x1,x2,x3,h⟩:=h;exact k _ _ _ _ h
theorem ex5 {α0 α1 α2 α3 α4:Type}{p:α0->α1->α2->α3->α4->Prop}{G:Prop} (h:∃ x0 x1 x2 x3 x4,p x0 x1 x2 x3 x4) (k:∀ x0 x1 x2 x3 x4,p x0 x1 x2 x3 x4->G):G:=by obtain ⟨x0,x1,x2,x3,x4,h⟩:=h;exact k _ _ _ _ _ h
theorem an2 {a0 a1 G:Prop} (h:a0/\a1) (k:a0->a1->G):G:=by obtain ⟨h0,h1⟩:=h;exact k h0 h1
theorem an3 {a0 a1 a2 G:Prop} (h:a0/\a1/\a2) (k:a0->a1->a2->G):G:=by obtain ⟨h0,h1,h2⟩:=h;exact k h0 h1 h2
theorem an4 {a0 a1 a2 a3 G:Prop} (h:a0/\a1/\a2/\a3) (k:a0->a1->a2->a3->G):G:=by obtain ⟨h0,h1,h2,h3⟩:=h;exact k h0 h1 h2 h3
theorem an5 {a0 a1 a2 a3 a4 G:Prop} (h:a0/\a1/\a2/\a3/\a4) (k:a0->a1->a2->a3->a4->G):G:=by obtain ⟨h0,h1,h2,h3,h4⟩:=h;exact k h0 h1 h2 h3 h4
theorem an6 {a0 a1 a2 a3 a4 a5 G:Prop} (h:a0/\a1/\a2/\a3/\a4/\a5) (k:a0->a1->a2->a3->a4->a5->G):G:=by obtain ⟨h0,h1,h2,h3,h4,h5⟩:=h;exact k h0 h1 h2 h3 h4 h5
theorem an7 {a0 a1 a2 a3 a4 a5 a6 G:Prop} (h:a0/\a1/\a2/\a3/\a4/\a5/\a6) (k:a0->a1->a2->a3->a4->a5->a6->G):G:=by obtain ⟨h0,h1,h2,h3,h4,h5,h6⟩:=h;exact k h0 h1 h2 h3 h4 h5 h6
theorem an8 {a0 a1 a2 a3 a4 a5 a6 a7 G:Prop} (h:a0/\a1/\a2/\a3/\a4/\a5/\a6/\a7) (k:a0->a1->a2->a3->a4->a5->a6->a7->G):G:=by obtain ⟨h0,h1,h2,h3,h4,h5,h6,h7⟩:=h;exact k h0 h1 h2 h3 h4 h5 h6 h7
theorem an9 {a0 a1 a2 a3 a4 a5 a6 a7 a8 G:Prop} (h:a0/\a1/\a2/\a3/\a4/\a5/\a6/\a7/\a8) (k:a0->a1->a2->a3->a4->a5->a6->a7->a8->G):G:=by obtain ⟨h0,h1,h2,h3,h4,h5,h6,h7,h8⟩:=h;exact k h0 h1 h2 h3 h4 h5 h6 h7 h8
theorem an12 {a0 a1 a2 a3 a4 a5 a6 a7 a8 a9 a10 a11 G:Prop} (h:a0/\a1/\a2/\a3/\a4/\a5/\a6/\a7/\a8/\a9/\a10/\a11) (k:a0->a1->a2->a3->a4->a5->a6->a7->a8->a9->a10->a11->G):G:=by obtain ⟨h0,h1,h2,h3,h4,h5,h6,h7,h8,h9,h10,h11⟩:=h;exact k h0 h1 h2 h3 h4 h5 h6 h7 h8 h9 h10 h11
theorem lw1 {a b c:Nat} (h:a<=b) (e:Nat.ble b c=true):a<=c:=Zt h (Nat.le_of_ble_eq_true e)
theorem lw2 {a b c:Nat} (h:a < b) (e:Nat.ble b c=true):a < c:=Nat.lt_of_lt_of_le h (Nat.le_of_ble_eq_true e)
theorem lw3 {a b c:Nat} (h:a<=b) (e:Nat.ble (b+1) c=true):a < c:=Nat.lt_of_le_of_lt h (Nat.le_of_ble_eq_true e)
theorem lw4 {a b c:Nat} (h:a < b) (e:Nat.ble b (c+1)=true):a<=c:=Nat.le_of_lt_succ (Nat.lt_of_lt_of_le h (Nat.le_of_ble_eq_true e))
theorem lw5 {a b:Nat} (e:Nat.ble a b=true):a<=b:=Nat.le_of_ble_eq_true e
theorem lw6 {a b c d:Nat} (h:a=b) (g:b<=d) (e:Nat.ble d c=true):a<=c:=h ▸ lw1 g e
theorem lw7 {a b c d:Nat} (h:a=b) (g:b < d) (e:Nat.ble d c=true):a < c:=h ▸ lw2 g e
theorem lw8 {a b c d:Nat} (h:a=b) (g:b < d) (e:Nat.ble d (c+1)=true):a<=c:=h ▸ lw4 g e
theorem lw9 {a b c d:Nat} (h:a=b) (g:b<=d) (e:Nat.ble (d+1) c=true):a < c:=h ▸ lw3 g e
theorem li1 {a b c:Int} (h:a<=b) (e:decide (b<=c)=true):a<=c:=Int.le_trans h (of_decide_eq_true e)
theorem li2 {a b c:Int} (h:a < b) (e:decide (b<=c)=true):a < c:=Int.lt_of_lt_of_le h (of_decide_eq_true e)
theorem li3 {a b c:Int} (h:a<=b) (e:decide (b < c)=true):a < c:=Int.lt_of_le_of_lt h (of_decide_eq_true e)
theorem li4 {a b c:Int} (h:a < b) (e:decide (b<=c+1)=true):a<=c:=Int.le_of_lt_add_one (Int.lt_of_lt_of_le h (of_decide_eq_true e))
theorem li5 {a b:Int} (e:decide (a<=b)=true):a<=b:=of_decide_eq_true e
inductive AVal where
 | none
 | bool (b:Bool)
 | int (i:Int)
 | str (s:Str)
 | bytes (b:Array UInt8) (t:Tok)
 | type (n:String)
 | tup (vs:List AVal)
 | ref (a:Addr)
mutual
inductive VR (h:Heap):Value->AVal->Prop
 | none:VR h .none .none
 | bool (b:Bool):VR h (.bool b) (.bool b)
 | int (i:Int) (t:Tok):VR h (.int i t) (.int i)
 | str (x:Str) (t:Tok):VR h (.str x t) (.str x)
 | bytes (b:Array UInt8) (t:Tok):VR h (.bytes b t) (.bytes b t)
 | type (n:String):VR h (.type n) (.type n)
 | tup {a:Addr}{o:Obj}{vs:List Value}{n:Nat}{as:List AVal}:h.get? a=some o->o.cls=.type "tuple" -> o.data=.seq vs.toArray n->VRs h vs as->VR h (.ref a) (.tup as)
 | ref (a:Addr):VR h (.ref a) (.ref a)
inductive VRs (h:Heap):List Value->List AVal->Prop
 | nil:VRs h [] []
 | cons {v:Value}{a:AVal}{vs:List Value}{as:List AVal}:VR h v a->VRs h vs as->VRs h (v::vs) (a::as)
end
def TupKept (h h':Heap):Prop:=∀ b o,h.get? b=some o->o.cls=.type "tuple" -> (∃ xs n,o.data=.seq xs n)->∃ o',h'.get? b=some o'/\o'.cls=.type "tuple" /\ o'.data=o.data
theorem VR.keep {h h':Heap} (k:TupKept h h') {v:Value}{a:AVal} (x:VR h v a):VR h' v a :=
 VR.rec (motive_1:=fun v a _=>VR h' v a) (motive_2:=fun vs as _=>VRs h' vs as) .none .bool .int .str .bytes .type (fun e c d _ ih=>by refine ex1 (k _ _ e c ⟨_,_,d⟩) fun _ h1z=>?_;refine an3 h1z fun e' c' d'=>?_;clear h1z;exact .tup e' c' (d'.trans d) ih) .ref .nil (fun _ _ x r=>.cons x r) x
theorem VRs.keep {h h':Heap} (k:TupKept h h') {vs:List Value}{as:List AVal} (r:VRs h vs as):VRs h' vs as :=
 VRs.rec (motive_1:=fun v a _=>VR h' v a) (motive_2:=fun vs as _=>VRs h' vs as) .none .bool .int .str .bytes .type (fun e c d _ ih=>by refine ex1 (k _ _ e c ⟨_,_,d⟩) fun _ h2z=>?_;refine an3 h2z fun e' c' d'=>?_;clear h2z;exact .tup e' c' (d'.trans d) ih) .ref .nil (fun _ _ x r=>.cons x r) r
theorem VRs.length {h:Heap}{vs:List Value}:∀ {as:List AVal},VRs h vs as->vs.length=as.length:=by
 induction vs with
 | nil=>intro as r;cases r;rfl
 | cons v vs ih=>intro as r;cases r with | cons x r=>exact congrArg (·+1) (ih r)
theorem VRs.get {h:Heap}{vs:List Value}:∀ {as:List AVal}{i:Nat}{a:AVal},VRs h vs as->as[i]?=some a->∃ v,vs[i]?=some v/\VR h v a:=by
 induction vs with
 | nil=>intro as i a r e;cases r;cases e
 | cons v vs ih =>
  intro as i a r e
  cases r with
  | cons x r =>
   cases i with
   | zero=>cases e;exact ⟨_,rfl,x⟩
   | succ i=>rw [List.getElem?_cons_succ] at e ⊢;exact ih r e
theorem VRs.append {h:Heap}{vs:List Value}:∀ {ws:List Value}{as bs:List AVal},VRs h vs as->VRs h ws bs->VRs h (vs++ws) (as++bs):=by
 induction vs with
 | nil=>intro ws as bs r y;cases r;exact y
 | cons v vs ih=>intro ws as bs r y;cases r with | cons x r=>exact .cons x (ih r y)
set_option genInjectivity true in
inductive AObj where
 | list (vs:List AVal)
 | dictS (es:List (Str × AVal))
 | dictI (es:List (Int × AVal))
 | dictT (es:List (List Int × AVal)) (ep:Nat)
 | inst (C d:Addr)
 | range (i j:Int)
 | attrs (ns:List Str) (m:Str->Option AVal)
 | exc (C:Addr) (d:Option Addr) (vs:Array Value)
inductive KRs {K:Type} (h:Heap):List (K × Value)->List (K × AVal)->Prop
 | nil:KRs h [] []
 | cons {k:K}{v:Value}{a:AVal}{vs:List (K × Value)}{as:List (K × AVal)}:VR h v a->KRs h vs as->KRs h ((k,v)::vs) ((k,a)::as)
theorem KRs.keep {K:Type}{h h':Heap} (q:TupKept h h') {vs:List (K × Value)}{as:List (K × AVal)} (r:KRs h vs as):KRs h' vs as:=by
 induction r with
 | nil=>exact .nil
 | cons x _ ih=>exact .cons (x.keep q) ih
theorem KRs.length {K:Type}{h:Heap}{vs:List (K × Value)}{as:List (K × AVal)} (r:KRs h vs as):vs.length=as.length:=by
 induction r with
 | nil=>rfl
 | cons _ _ ih=>exact congrArg (·+1) ih
def DEp (h:Heap) (a:Addr) (ep:Nat):Prop:=∃ o es,h.get? a=some o/\o.data=.dict es ep
inductive OR (pr:Program) (w:World) (h:Heap) (a:Addr):AObj->Prop
 | list {vs:List Value}{n:Nat}{as:List AVal}:h.get? a=some { cls:=.type "list",data:=.seq vs.toArray n }->VRs h vs as->OR pr w h a (.list as)
 | dictS {kvs:List (Str × Value)}{es:List (Str × AVal)}:h.DictOf (strKind pr w) a kvs->KRs h kvs es->OR pr w h a (.dictS es)
 | dictI {kvs:List (Int × Value)}{es:List (Int × AVal)}:h.DictOf (intKind pr w) a kvs->KRs h kvs es->OR pr w h a (.dictI es)
 | dictT {xs:List (List Int × Addr × Value)}{es:List (List Int × AVal)}{ep:Nat}:h.DictOfH (tupleKind (intKind pr w)) a xs->DEp h a ep->KRs h (xs.map fun x=>(x.1,x.2.2)) es->OR pr w h a (.dictT es ep)
 | inst {C d:Addr}:h.get? a=some { cls:=.ref C,dict:=some d,data:=.plain }->OR pr w h a (.inst C d)
 | range {i j:Int}{t u v:Tok}:IsRange h a i j 1 t u v->OR pr w h a (.range i j)
 | attrs {ns:List Str}{m:Str->Option AVal}{m':Str->Option Value}:h.Ns1 a m'->Within m' ns ->
   (∀ x,match m x with | some v=>∃ v',m' x=some v'/\VR h v' v | none=>m' x=none)->OR pr w h a (.attrs ns m)
 | exc {C:Addr}{d:Option Addr}{vs:Array Value}:h.get? a=some { cls:=.ref C,dict:=d,data:=.fields vs }->OR pr w h a (.exc C d vs)
theorem OR.here {pr:Program}{w:World}{h:Heap}{a:Addr}{o:AObj} (x:OR pr w h a o):∃ ob,h.get? a=some ob/\(ob.cls=.type "tuple" -> ∀ xs n,ob.data≠.seq xs n):=by
 cases x with
 | list e _=>exact ⟨_,e,by intro q;simp at q⟩
 | dictS e _=>refine ex3 e fun o es ep h3z=>?_;(try clear e);refine an4 h3z fun e hc hd _=>?_;clear h3z;exact ⟨_,e,fun _ xs n q=>by rw [hd] at q;cases q⟩
 | dictI e _=>refine ex3 e fun o es ep h4z=>?_;(try clear e);refine an4 h4z fun e hc hd _=>?_;clear h4z;exact ⟨_,e,fun _ xs n q=>by rw [hd] at q;cases q⟩
 | dictT e _ _=>refine ex3 e fun o es ep h5z=>?_;(try clear e);refine an4 h5z fun e hc hd _=>?_;clear h5z;exact ⟨_,e,fun _ xs n q=>by rw [hd] at q;cases q⟩
 | inst e=>exact ⟨_,e,by intro q;cases q⟩
 | range e=>exact ⟨_,e,by intro q;simp at q⟩
 | attrs e _ _=>refine ex3 e fun o es ep h6z=>?_;(try clear e);refine an3 h6z fun e hd _=>?_;clear h6z;exact ⟨_,e,fun _ xs n q=>by rw [hd] at q;cases q⟩
 | exc e=>exact ⟨_,e,by intro q;cases q⟩
theorem OR.keep {pr:Program}{w:World}{h h':Heap}{a:Addr}{o:AObj} (x:OR pr w h a o) (k:TupKept h h') (e:h'.get? a=h.get? a):OR pr w h' a o:=by
 cases x with
 | list e' r=>exact .list (e.trans e') (r.keep k)
 | dictS e' r=>refine ex3 e' fun o es ep h7z=>?_;(try clear e');refine an2 h7z fun e' q=>?_;clear h7z;exact .dictS ⟨o,es,ep,e.trans e',q⟩ (r.keep k)
 | dictI e' r=>refine ex3 e' fun o es ep h8z=>?_;(try clear e');refine an2 h8z fun e' q=>?_;clear h8z;exact .dictI ⟨o,es,ep,e.trans e',q⟩ (r.keep k)
 | dictT e' dp r =>
  obtain ⟨o,es,ep⟩|⟨e',hc,hd,he,hk,hn⟩:=e'
  refine .dictT ⟨o,es,ep,e.trans e',hc,hd,he,fun x hx=>?_,hn⟩ (ex2 dp fun o2 es2 z=>an2 z fun z1 z2=>⟨o2,es2,e.trans z1,z2⟩) (r.keep k)
  obtain ⟨ot,items,n⟩|⟨ho,hct,hdt,hi⟩:=(hk x hx)
  obtain ⟨ot'⟩|⟨ho',hct',hdt'⟩:=(k _ ot ho hct ⟨_,_,hdt⟩)
  exact ⟨ot',items,n,ho',hct',hdt'.trans hdt,hi⟩
 | inst e'=>exact .inst (e.trans e')
 | range e'=>exact .range (e.trans e')
 | exc e'=>exact .exc (e.trans e')
 | @attrs ns m m' n w r =>
  refine .attrs (m':=m') ?_ w fun x=>?_
  ·obtain ⟨o,es,ep⟩|⟨ho,q⟩:=n
   exact ⟨o,es,ep,e.trans ho,q⟩
  ·have:=r x
   revert this
   split
   ·intro r1z
    obtain ⟨v'⟩|⟨p,q⟩:=r1z
    exact ⟨v',p,q.keep k⟩
   ·exact id
theorem nos {α:Type}{x:Option α}{o:α}{G:Prop} (h:x=none) (g:x=some o):G:=by rw [h] at g;cases g
theorem ne_n {α:Type}{f:Addr->Option α}{a b:Addr}{o:α} (h:f a=none) (g:f b=some o):a≠b:=fun e=>by rw [<- e] at g;exact nos h g
abbrev AState:=Addr->Option AObj
def AState.set (σ:AState) (a:Addr) (o:AObj):AState:=fun b=>if b=a then some o else σ b
theorem Zs (σ:AState) (a:Addr) (o:AObj):σ.set a o a=some o:=if_pos rfl
theorem Zn {σ:AState}{a b:Addr}{o:AObj} (h:b≠a):σ.set a o b=σ b:=if_neg h
def Le (σ τ:AState):Prop:=∀ a o,σ a=some o->τ a=some o
theorem Le.refl (σ:AState):Le σ σ:=fun _ _ e=>e
theorem Le.trans {σ τ υ:AState} (x:Le σ τ) (y:Le τ υ):Le σ υ:=fun a o e=>y a o (x a o e)
theorem Zl {σ:AState}{a:Addr}{o:AObj} (e:σ a=none):Le σ (σ.set a o):=fun b ob q=>by
 rw [Zn];exact q
 rintro rfl;rw [e] at q;cases q
structure NV where
 name:Str
 kind:NameKind
 val:Option AVal
def VarIs (env:Env) (h:Heap) (x:Str) (v:Value):NameKind->Prop
 | .local=>∃ m,h.Ns env.locals m/\m x=some v
 | .cell=>∃ b,env.cells.lookup x=some b/\h.IsCell b (some v)
 | .free=>∃ b,env.cells.lookup x=some b/\h.IsCell b (some v)
 | _=>False
structure Cx where
 prog:Program
 w:World
 K:Frag
 G:Heap
 A:Around
 env:Env
 fenv:Env
 outer:List Env
 own:List Addr
 lv:Nat
 fn:Bool
 calm:Bool
def Cx.frames (c:Cx):List Addr:=(c.fenv::c.outer).filterMap (·.frame)
structure Cx.Ok (c:Cx):Prop where
 fr:c.A.frames=some (c.fenv::c.outer)
 hd:c.calm=true->c.A.handled=none
 gd:c.A.guards=some []
 depth:c.A.depth+8 * c.lv<=900
 units:c.A.units+40 * c.lv<=9000
 kind:c.env.scope.kind=.function
 glob:c.env.globals=mainGlobals
 blt:c.env.builtins=builtinsNs
 KG:c.K.In c.G
 lim:c.G.NoLimit
 bg:∃ mg mb,c.G.Ns mainGlobals mg/\c.G.Ns builtinsNs mb/\(∀ (x:Str),nsIn c.K mainGlobals x=some none->mg x=none)/\∀ (x:Str) (v:Value),x≠("__name__" : Str)->bootBuiltins x=some v->mb x=some v
 sm:∃ o,c.G.get? sysModules=some o
 locIn:c.env.locals∈c.own
 cells:(c.env.cells.map (·.2)).Nodup
 cellsOff:∀ x∈c.env.cells,x.2≠c.env.locals
 cellsOf:∀ n∈c.env.scope.names,n.2=.cell->∃ b,c.env.cells.lookup n.1=some b
 fnEnv:c.fn=true->c.env=c.fenv
 fnOwn:c.fn=true->∀ x∈c.env.cells,x.2∈c.own
 nodup:(c.env.scope.names.map (·.1)).Nodup
 tame:c.env.scope.names.all (fun n=>n.1 != ("__debug__" : Str) && n.1 != ("__classdict__" : Str))=true
structure St (c:Cx) (ρ:List NV) (σ:AState) (h:Heap):Prop where
 ok:c.Ok
 base:c.G.StaysIn h
 frames:h.FunFrames c.G (c.fenv::c.outer)
 names:ρ.map (fun e=>(e.name,e.kind))=c.env.scope.names
 locs:∃ m,h.Ns c.env.locals m
 cellsAt:∀ x∈c.env.cells,∃ v,h.IsCell x.2 v
 vars:∀ e∈ρ,∀ a,e.val=some a->∃ v,VarIs c.env h e.name v e.kind/\VR h v a
 obj:∀ a o,σ a=some o->OR c.prog c.w h a o
 off:∀ a o,σ a=some o->c.G.get? a=none/\a∉c.own/\a∉c.frames/\∀ x∈c.env.cells,a≠x.2
 ownNew:∀ b∈c.own,c.G.get? b=none/\∃ o,h.get? b=some o/\∀ xs n,o.data≠.seq xs n
structure Step (c:Cx) (σ:AState) (s:Shared) (σ':AState) (s':Shared):Prop where
 kept:∀ b o,s.heap.get? b=some o->σ b=none->b∉c.own->∃ sl,s'.heap.get? b=some { o with slots:=sl }/\(b∉c.frames->sl=o.slots)
 there:∀ b o,s.heap.get? b=some o->∃ o',s'.heap.get? b=some o'
 grow:∀ b o,s.heap.get? b=some o->σ b=none->σ' b=none
 gens:s'.gens=s.gens
 os:s'.os=s.os
theorem Step.refl (c:Cx) (σ:AState) (s:Shared):Step c σ s σ s:=⟨fun _ o e _ _=>⟨o.slots,e,fun _=>rfl⟩,fun _ o e=>⟨o,e⟩,fun _ _ _ e=>e,rfl,rfl⟩
theorem Step.trans {c:Cx}{σ₁ σ₂ σ₃:AState}{s₁ s₂ s₃:Shared} (x:Step c σ₁ s₁ σ₂ s₂) (y:Step c σ₂ s₂ σ₃ s₃):Step c σ₁ s₁ σ₃ s₃ where
 kept b o e q n:=by
  obtain ⟨sl⟩|⟨e',f'⟩:=(x.kept b o e q n)
  obtain ⟨sl'⟩|⟨e'',f''⟩:=(y.kept b _ e' (x.grow b o e q) n)
  exact ⟨sl',e'',fun z=>(f'' z).trans (f' z)⟩
 there b o e:=let ⟨o',e'⟩:=x.there b o e;y.there b o' e'
 grow b o e q:=let ⟨o',e'⟩:=x.there b o e;y.grow b o' e' (x.grow b o e q)
 gens:=y.gens.trans x.gens
 os:=y.os.trans x.os
theorem Step.exact {c:Cx}{σ σ':AState}{s s':Shared} (x:Step c σ s σ' s') {b:Addr}{o:Obj} (e:s.heap.get? b=some o) (q:σ b=none) (n:b∉c.own) (f:b∉c.frames):s'.heap.get? b=some o:=by
 obtain ⟨sl⟩|⟨e',f'⟩:=(x.kept b o e q n)
 rw [e',f' f]
theorem Step.toks {c:Cx}{σ σ':AState}{s s':Shared}{t:Nat} (x:Step c σ s σ' s'):Step c σ s σ' { s' with toks:=t }:=⟨x.kept,x.there,x.grow,x.gens,x.os⟩
theorem ag (h:Heap):h.get? h.objs.size=none:=by
 cases q:h.get? h.objs.size with
 | none=>rfl
 | some o=>exact absurd (Heap.lt_size q) (Nat.lt_irrefl _)
theorem bH {h h' G:Heap}{l:List Env} (x:h.FunFrames G l) (k:∀ b∈l.filterMap (·.frame),∀ o,h.get? b=some o->∃ o',h'.get? b=some o'/\o'.data=o.data):h'.FunFrames G l:=by
 induction l with
 | nil=>trivial
 | cons env r ih =>
  refine an3 x fun hk h1z hr=>?_
  (try clear x)
  obtain ⟨L,o,hf,hn,ho,hd⟩:=h1z
  have hL:L∈(env::r).filterMap (·.frame):=by rw [filterMap_cons,hf];exact .head _
  obtain ⟨o'⟩|⟨ho',hd'⟩:=(k L hL o ho)
  refine ⟨hk,⟨L,o',hf,hn,ho',fun vs=>hd' ▸ hd vs⟩,ih hr fun b hb=>k b ?_⟩
  rw [filterMap_cons,hf];exact .tail _ hb
section
variable {c:Cx}{ρ:List NV}{σ σ' τ:AState}{h h':Heap}{s s':Shared}
theorem St.tupKept_of (S:St c ρ σ h) (k:∀ b o,h.get? b=some o->σ b=none->b∉c.own->∃ sl,h'.get? b=some { o with slots:=sl }):TupKept h h':=fun b o e q d=>by
 have h1:σ b=none:=by
  cases z:σ b with
  | none=>rfl
  | some ao =>
   obtain ⟨ob⟩|⟨e',n⟩:=((S.obj b ao z).here)
   rw [e] at e';cases e';obtain ⟨xs,m,d⟩:=d;exact absurd d (n q xs m)
 have h2:b∉c.own:=fun z=>by
  obtain ⟨_,ob,e',n⟩:=S.ownNew b z
  rw [e] at e';cases e';obtain ⟨xs,m,d⟩:=d;exact n xs m d
 obtain ⟨sl,e'⟩:=k b o e h1 h2
 exact ⟨_,e',q,rfl⟩
theorem Step.tup (x:Step c σ s σ' s') (S:St c ρ σ s.heap):TupKept s.heap s'.heap:=S.tupKept_of fun b o e q n=>let ⟨sl,e',_⟩:=x.kept b o e q n;⟨sl,e'⟩
theorem aq (k:∀ b o,h.get? b=some o->h'.get? b=some o):TupKept h h':=fun _ o e q _=>⟨o,k _ _ e,q,rfl⟩
theorem aw {a:Addr}{oa:Obj} (k:Heap.ExtBut a h h') (ha:h.get? a=some oa) (na:oa.cls=.type "tuple" -> ∀ xs n,oa.data≠.seq xs n):TupKept h h':=fun b o e q d=>by
 refine ⟨o,k b o ?_ e,q,rfl⟩
 rintro rfl;rw [ha] at e;cases e;obtain ⟨xs,m,d⟩:=d;exact na q xs m d
theorem VarIs.keep {env:Env}{x:Str}{v:Value}{k:NameKind} (y:VarIs env h x v k) (kn:∀ b o,b=env.locals\/(∃ n,(n,b)∈env.cells)->h.get? b=some o->h'.get? b=some o):VarIs env h' x v k:=by
 cases k with
 | «local»=>refine ex1 y fun m h5z=>?_;(try clear y);refine an2 h5z fun h4z e=>?_;clear h5z;obtain ⟨o,es,ep,ho,r⟩:=h4z;exact ⟨m,⟨o,es,ep,kn _ _ (.inl rfl) ho,r⟩,e⟩
 | cell=>obtain ⟨b,l,o,ho,d⟩:=y;exact ⟨b,l,o,kn _ _ (.inr ⟨_,mem_of_lookup l⟩) ho,d⟩
 | free=>obtain ⟨b,l,o,ho,d⟩:=y;exact ⟨b,l,o,kn _ _ (.inr ⟨_,mem_of_lookup l⟩) ho,d⟩
 | _=>exact y.elim
theorem OR.keepB {pr:Program}{w:World}{a:Addr}{o:AObj} (x:OR pr w h a o) (k:TupKept h h') (e:∀ ob,h.get? a=some ob->h'.get? a=some ob):OR pr w h' a o:=by
 refine ex1 x.here fun ob h6z=>?_
 refine an2 h6z fun ha _=>?_
 clear h6z
 exact x.keep k ((e ob ha).trans ha.symm)
theorem St.move (S:St c ρ σ h) {W:Addr->Prop} (k:∀ b o,¬ W b->h.get? b=some o->h'.get? b=some o) (hG:∀ b,W b->c.G.get? b=none) (hown:∀ b∈c.own,¬ W b)
  (hfr:∀ b∈c.frames,¬ W b) (hcl:∀ x∈c.env.cells,¬ W x.2) (hσ:∀ b o,σ b=some o->¬ W b) (t:TupKept h h'):St c ρ σ h' where
 ok:=S.ok
 base b o e:=k b o (fun w=>by rw [hG b w] at e;cases e) (S.base b o e)
 frames:=bH S.frames fun b hb o e=>⟨o,k b o (hfr b hb) e,rfl⟩
 names:=S.names
 locs:=by obtain ⟨m,o,es,ep,ho,r⟩:=S.locs;exact ⟨m,o,es,ep,k _ _ (hown _ S.ok.locIn) ho,r⟩
 cellsAt x hx:=by obtain ⟨v,o,e,d⟩:=S.cellsAt x hx;exact ⟨v,o,k _ _ (hcl x hx) e,d⟩
 vars e he a' ha:=by
  obtain ⟨v⟩|⟨y,r⟩:=(S.vars e he a' ha)
  refine ⟨v,y.keep fun b o hb e'=>k b o ?_ e',r.keep t⟩
  rcases hb with rfl | ⟨n,hn⟩
  ·exact hown _ S.ok.locIn
  ·exact hcl _ hn
 obj b o e:=(S.obj b o e).keepB t fun ob=>k b ob (hσ b o e)
 off:=S.off
 ownNew b hb:=let ⟨g,o,e,n⟩:=S.ownNew b hb;⟨g,o,k b o (hown b hb) e,n⟩
theorem St.ext (S:St c ρ σ h) (k:∀ b o,h.get? b=some o->h'.get? b=some o):St c ρ σ h' :=
 S.move (W:=fun _=>False) (fun b o _ e=>k b o e) (fun _ w=>w.elim) (fun _ _=>id) (fun _ _=>id) (fun _ _=>id) (fun _ _ _=>id) (aq k)
theorem St.less (S:St c ρ σ h) (k:∀ a o,τ a=some o->σ a=some o):St c ρ τ h :=
 { S with obj:=fun a o e=>S.obj a o (k a o e),off:=fun a o e=>S.off a o (k a o e) }
theorem St.add (S:St c ρ σ h) {a:Addr}{o:AObj} (x:OR c.prog c.w h a o) (f:c.G.get? a=none/\a∉c.own/\a∉c.frames/\∀ x∈c.env.cells,a≠x.2):St c ρ (σ.set a o) h :=
 { S with
  obj:=fun b ob e=>by
   by_cases q:b=a
   ·subst q;rw [Zs] at e;cases e;exact x
   ·rw [Zn q] at e;exact S.obj b ob e
  off:=fun b ob e=>by
   by_cases q:b=a
   ·subst q;exact f
   ·rw [Zn q] at e;exact S.off b ob e }
theorem St.none_of (S:St c ρ σ h) {a:Addr} (e:h.get? a=none):σ a=none:=by
 cases z:σ a with
 | none=>rfl
 | some o=>refine ex1 ((S.obj a o z).here) fun ob h8z=>?_;refine an2 h8z fun q _=>?_;clear h8z;rw [e] at q;cases q
theorem St.new_off (S:St c ρ σ h) {a:Addr} (e:h.get? a=none):c.G.get? a=none/\a∉c.own/\a∉c.frames/\∀ x∈c.env.cells,a≠x.2:=by
 refine ⟨?_,fun z=>?_,fun z=>?_,fun x hx=>?_⟩
 ·cases z:c.G.get? a with
  | none=>rfl
  | some o=>have:=S.base a o z;rw [e] at this;cases this
 ·obtain ⟨_,o,q,_⟩:=S.ownNew a z;rw [e] at q;cases q
 ·obtain ⟨_,o,q,_⟩:=Heap.FunFrames.mem S.frames z;rw [e] at q;cases q
 ·rintro rfl
  obtain ⟨v,o⟩|⟨q,_⟩:=(S.cellsAt x hx)
  rw [e] at q;cases q
theorem St.alloc (S:St c ρ σ h) {o:Obj}{ao:AObj} (x:OR c.prog c.w (h.push o) h.objs.size ao):St c ρ (σ.set h.objs.size ao) (h.push o):=by
 have S':=S.ext (h':=h.push o) fun b ob e=>Zu _ e
 exact S'.add x (S.new_off (ag h))
theorem Step.ext {t:Nat} (k:∀ b o,s.heap.get? b=some o->h'.get? b=some o):Step c σ s σ { s with heap:=h',toks:=t } :=
 ⟨fun b o e _ _=>⟨o.slots,k b o e,fun _=>rfl⟩,fun b o e=>⟨o,k b o e⟩,fun _ _ _ e=>e,rfl,rfl⟩
theorem Step.alloc {t:Nat}{a:Addr}{ao:AObj} (k:∀ b o,s.heap.get? b=some o->h'.get? b=some o) (n:s.heap.get? a=none):Step c σ s (σ.set a ao) { s with heap:=h',toks:=t } :=
 ⟨fun b o e _ _=>⟨o.slots,k b o e,fun _=>rfl⟩,fun b o e=>⟨o,k b o e⟩,fun b o e q=>by
  rw [Zn];exact q
  rintro rfl;rw [n] at e;(cases e),rfl,rfl⟩
theorem St.upd (S:St c ρ σ h) {a:Addr}{ao ao':AObj} (ha:σ a=some ao) (k:Heap.ExtBut a h h') (x:OR c.prog c.w h' a ao'):St c ρ (σ.set a ao') h':=by
 obtain ⟨ob⟩|⟨e,n⟩:=((S.obj a ao ha).here)
 have f:=S.off a ao ha
 have t:=aw k e n
 have S1:St c ρ (fun b=>if b=a then none else σ b) h:=S.less fun b o q=>by
  by_cases z:b=a
  ·rw [if_pos z] at q;cases q
  ·rw [if_neg z] at q;exact q
 have S2:=S1.move (W:=fun b=>b=a) (h':=h') (fun b o w e=>k b o w e) (fun b w=>w ▸ f.1) (fun b hb w=>f.2.1 (w ▸ hb)) (fun b hb w=>f.2.2.1 (w ▸ hb)) (fun x hx w=>f.2.2.2 x hx w.symm)
  (fun b o q w=>by rw [if_pos w] at q;cases q) t
 exact (S2.add x f).less fun b o q=>by
  by_cases z:b=a
  ·subst z;rw [Zs] at q ⊢;exact q
  ·rw [Zn z] at q ⊢;rw [if_neg z];exact q
theorem Step.upd {a:Addr}{ao ao':AObj}{t:Nat} (ha:σ a=some ao) (k:Heap.ExtBut a s.heap h') (x:OR c.prog c.w h' a ao'):Step c σ s (σ.set a ao') { s with heap:=h',toks:=t } :=
 ⟨fun b o e q _=>⟨o.slots,k b o (by rintro rfl;rw [ha] at q;cases q) e,fun _=>rfl⟩,fun b o e=>by
  by_cases z:b=a
  ·subst z;refine ex1 x.here fun ob h11z=>?_;refine an2 h11z fun e' _=>?_;clear h11z;exact ⟨ob,e'⟩
  ·exact ⟨o,k b o z e⟩,fun b o _ q=>by
  rw [Zn];exact q
  rintro rfl;rw [ha] at q;(cases q),rfl,rfl⟩
end
structure AExc where
 cls:Addr
 what:AVal
 at_:AVal
 fresh:Bool
def ca:List Str:=["what", "at"]
inductive FHere (σ:AState) (s:Shared) (e:Addr) (x:AExc) (fl:Option Value) (h B:Heap) (P:Addr->Prop):Prop
 | mk (oe:Obj) (vs:Array Value) (d:Addr) (m:Str->Option Value) (h1:h.get? e=some oe) (h2:oe.cls=.ref x.cls) (h3:oe.dict=some d/\oe.slots=#[]) (h4:oe.data=.fields vs) (h5:1 < vs.size/\(x.fresh=true->vs[2]?=some .none))
   (h6:B.Ns1 d m/\Within m ca/\s.heap.get? d=none/\σ d=none) (h7:(∃ v,m "what" = some v/\VR B v x.what)/\(∃ v,m "at" = some v/\VR B v x.at_) /\
   match fl with
   | none=>vs[1]?=some .none
   | some f=>∃ T oT ts,vs[1]?=some (.ref T)/\P T/\T≠e/\h.get? T=some oT/\oT.data=.fields ts/\ts[3]?=some f)
structure Flies (c:Cx) (σ:AState) (s:Shared) (e:Addr) (x:AExc) (fl:Option Value) (h B:Heap) (P:Addr->Prop):Prop where
 base:c.G.StaysIn B
 all:∀ b o,h.get? b=some o->b∈c.frames\/B.get? b=some o\/P b
 new:∀ b,P b->s.heap.get? b=none/\B.get? b=none/\σ b=none/\b∉c.own/\b∉c.frames/\∀ x∈c.env.cells,b≠x.2
 stays:B.StaysIn h
 off:∀ b∈c.frames,B.get? b=none
 own:P e
 noTup:∀ b o,P b->h.get? b=some o->o.cls=.type "tuple" -> ∀ xs n,o.data≠.seq xs n
 here:FHere σ s e x fl h B P
theorem FHere.tr {σ:AState}{s:Shared}{e:Addr}{x:AExc}{f:Value}{h B:Heap}{P:Addr->Prop}{G:Prop} (F:FHere σ s e x (some f) h B P) (k:∀ oe vs T,h.get? e=some oe->oe.data=.fields vs->vs[1]?=some (.ref T)->G):G:=by
 obtain ⟨oe,vs,d,m,h1,h2,h3,h4,h5,h6,h7⟩:=F
 obtain ⟨T,oT,ts,q,_⟩:=h7.2.2
 exact k oe vs T h1 h4 q
inductive Flown (c:Cx) (σ:AState) (s:Shared) (e:Addr) (x:AExc) (h:Heap):Prop
 | mk (fl:Option Value) (B:Heap) (P:Addr->Prop) (F:Flies c σ s e x fl h B P) (l:fl=none\/fl=some .none\/∃ L,c.fenv.frame=some L/\fl=some (rawInt L))
inductive GPost {α β:Type} (R:Heap->α->β->Prop) (c:Cx) (ρ:List NV) (σ:AState) (s:Shared) (Q:β->AState->Prop) (v:α) (s':Shared):Prop
 | mk (a:β) (σ':AState) (r:R s'.heap v a) (S:St c ρ σ' s'.heap) (y:Step c σ s σ' s') (q:Q a σ')
inductive XPost (c:Cx) (ρ:List NV) (σ:AState) (s:Shared) (X:AExc->AState->Prop) (v:Value) (s':Shared):Prop
 | mk (e:Addr) (x:AExc) (σ':AState) (hv:v=.ref e) (S:St c ρ σ' s'.heap) (y:Step c σ s σ' s') (F:Flown c σ' s e x s'.heap) (q:X x σ')
abbrev Same {α:Type}:Heap->α->α->Prop:=fun _ a b=>a=b
def GoV {α β:Type} (R:Heap->α->β->Prop) (c:Cx) (ρ:List NV) (as:List AVal) (t:List Value->Sem α) (σ:AState) (Q:β->AState->Prop) (X:AExc->AState->Prop):Prop :=
 ∀ vs s,St c ρ σ s.heap->VRs s.heap vs as->wpAny (model c.prog c.w) c.A (t vs) (GPost R c ρ σ s Q) (XPost c ρ σ s X) s
def Go {α β:Type} (R:Heap->α->β->Prop) (c:Cx) (ρ:List NV) (t:Sem α) (σ:AState) (Q:β->AState->Prop) (X:AExc->AState->Prop):Prop :=
 ∀ s,St c ρ σ s.heap->wpAny (model c.prog c.w) c.A t (GPost R c ρ σ s Q) (XPost c ρ σ s X) s
abbrev Ev (c:Cx) (ρ:List NV) (e:Expr) (σ:AState) (Q:AVal->AState->Prop) (X:AExc->AState->Prop):Prop:=Go VR c ρ (eval e c.env) σ Q X
abbrev Tst (c:Cx) (ρ:List NV) (e:Expr) (σ:AState) (Q:Bool->AState->Prop) (X:AExc->AState->Prop):Prop:=Go Same c ρ (isTrue e c.env (eval e c.env)) σ Q X
def v0 (vs:List Value):Value:=vs.headD .none
def v1 (vs:List Value):Value:=vs.tail.headD .none
abbrev V2 (c:Cx) (ρ:List NV) (a b:AVal) (t:Value->Value->Sem Value) (σ:AState) (Q:AVal->AState->Prop) (X:AExc->AState->Prop):Prop:=GoV VR c ρ [a,b] (fun vs=>t (v0 vs) (v1 vs)) σ Q X
abbrev Op2 (c:Cx) (ρ:List NV) (op:Operator) (a b:AVal) (σ:AState) (Q:AVal->AState->Prop) (X:AExc->AState->Prop):Prop:=V2 c ρ a b (fun u v=>binaryOp op u v) σ Q X
abbrev Cmp (c:Cx) (ρ:List NV) (op:CmpOp) (a b:AVal) (σ:AState) (Q:AVal->AState->Prop) (X:AExc->AState->Prop):Prop:=V2 c ρ a b (fun u v=>compareOp op u v) σ Q X
abbrev Truth (c:Cx) (ρ:List NV) (a:AVal) (σ:AState) (Q:Bool->AState->Prop) (X:AExc->AState->Prop):Prop:=GoV Same c ρ [a] (fun vs=>truthy (v0 vs)) σ Q X
section
variable (c:Cx) (ρ:List NV)
abbrev KE (e:Expr) (K:AVal->AVal->AState->Prop) (X:AExc->AState->Prop) (a:AVal) (σ:AState):Prop:=Ev c ρ e σ (K a) X
abbrev KOp (op:Operator) (Q:AVal->AState->Prop) (X:AExc->AState->Prop) (a b:AVal) (σ:AState):Prop:=Op2 c ρ op a b σ Q X
abbrev KCmp (op:CmpOp) (Q:AVal->AState->Prop) (X:AExc->AState->Prop) (a b:AVal) (σ:AState):Prop:=Cmp c ρ op a b σ Q X
abbrev KTr (Q:Bool->AState->Prop) (X:AExc->AState->Prop) (a:AVal) (σ:AState):Prop:=Truth c ρ a σ Q X
abbrev KIfE (b o:Expr) (Q:AVal->AState->Prop) (X:AExc->AState->Prop) (z:Bool) (σ:AState):Prop:=if z then Ev c ρ b σ Q X else Ev c ρ o σ Q X
abbrev KNot (Q:Bool->AState->Prop) (b:Bool) (σ:AState):Prop:=Q (!b) σ
end
section
variable {α β γ:Type}{R:Heap->α->β->Prop}{c:Cx}{ρ:List NV}{σ σ₁ σ' τ:AState}{h h':Heap}{s s₁ s':Shared}{Q Q':β->AState->Prop}{X X':AExc->AState->Prop}
theorem Flown.older {e:Addr}{x:AExc} (F:Flown c σ s₁ e x h) (k:∀ b o,s.heap.get? b=some o->∃ o',s₁.heap.get? b=some o'):Flown c σ s e x h:=by
 obtain ⟨fl,B,P,F,r⟩:=F
 have kn:∀ b,s₁.heap.get? b=none->s.heap.get? b=none:=fun b q=>by
  cases z:s.heap.get? b with
  | none=>rfl
  | some o=>obtain ⟨o',e'⟩:=k b o z;rw [q] at e';cases e'
 refine ⟨fl,B,P,{ F with new:=fun b hb=>⟨kn b (F.new b hb).1,(F.new b hb).2⟩,here:=?_ },r⟩
 obtain ⟨oe,vs,d,m,h1,h2,h3,h4,h5,⟨h6,h61,h62,h63⟩,h7⟩:=F.here
 exact ⟨oe,vs,d,m,h1,h2,h3,h4,h5,⟨h6,h61,kn d h62,h63⟩,h7⟩
theorem GPost.after {v:α} (x:Step c σ s σ₁ s₁) (p:GPost R c ρ σ₁ s₁ Q v s'):GPost R c ρ σ s Q v s':=by
 obtain ⟨a,σ',r,S,y,q⟩:=p;exact ⟨a,σ',r,S,x.trans y,q⟩
theorem XPost.after {v:Value} (x:Step c σ s σ₁ s₁) (p:XPost c ρ σ₁ s₁ X v s'):XPost c ρ σ s X v s':=by
 obtain ⟨e,a,σ',rfl,S,y,F,q⟩:=p;exact ⟨e,a,σ',rfl,S,x.trans y,F.older x.there,q⟩
theorem GPost.mono {v:α} (k:∀ a σ',Q a σ'->Q' a σ') (p:GPost R c ρ σ s Q v s'):GPost R c ρ σ s Q' v s':=by
 obtain ⟨a,σ',r,S,y,q⟩:=p;exact ⟨a,σ',r,S,y,k _ _ q⟩
theorem XPost.mono {v:Value} (k:∀ a σ',X a σ'->X' a σ') (p:XPost c ρ σ s X v s'):XPost c ρ σ s X' v s':=by
 obtain ⟨e,a,σ',rfl,S,y,F,q⟩:=p;exact ⟨e,a,σ',rfl,S,y,F,k _ _ q⟩
theorem GPost.here {v:α}{a:β} (S:St c ρ σ s.heap) (r:R s.heap v a) (q:Q a σ):GPost R c ρ σ s Q v s:=⟨a,σ,r,S,.refl ..,q⟩
theorem GPost.tok {v:α}{a:β}{t:Nat} (S:St c ρ σ s.heap) (r:R s.heap v a) (q:Q a σ):GPost R c ρ σ s Q v { s with toks:=t }:=⟨a,σ,r,S,(Step.refl ..).toks,q⟩
theorem Go.mono {t:Sem α} (g:Go R c ρ t σ Q X) (k:∀ a σ',Q a σ'->Q' a σ') (l:∀ a σ',X a σ'->X' a σ'):Go R c ρ t σ Q' X':=fun s S =>
 Zm (g s S) (fun _ _ p=>p.mono k) (fun _ _ p=>p.mono l)
theorem Go.use {t:Sem α}{P:α->Shared->Prop} (g:Go R c ρ t σ Q X) (S:St c ρ σ s.heap) (k:∀ v s₁ a σ₁,R s₁.heap v a->St c ρ σ₁ s₁.heap->Step c σ s σ₁ s₁->Q a σ₁->P v s₁) :
  wpAny (model c.prog c.w) c.A t P (XPost c ρ σ s X) s:=Zm (g s S) (fun v s₁ p=>by obtain ⟨a,σ₁,r,S₁,y,q⟩:=p;exact k v s₁ a σ₁ r S₁ y q) fun _ _ z=>z
theorem GoV.use {as:List AVal}{t:List Value->Sem α}{vs:List Value}{P:α->Shared->Prop} (g:GoV R c ρ as t σ Q X) (S:St c ρ σ s.heap) (r:VRs s.heap vs as) (k:∀ v s₁ a σ₁,R s₁.heap v a->St c ρ σ₁ s₁.heap->Step c σ s σ₁ s₁->Q a σ₁->P v s₁) :
  wpAny (model c.prog c.w) c.A (t vs) P (XPost c ρ σ s X) s:=Zm (g vs s S r) (fun v s₁ p=>by obtain ⟨a,σ₁,r,S₁,y,q⟩:=p;exact k v s₁ a σ₁ r S₁ y q) fun _ _ z=>z
theorem on {t:Sem γ}{R':Heap->γ->β->Prop} (y:Step c σ s σ₁ s₁) (w:wpAny (model c.prog c.w) c.A t (GPost R' c ρ σ₁ s₁ Q) (XPost c ρ σ₁ s₁ X) s₁):wpAny (model c.prog c.w) c.A t (GPost R' c ρ σ s Q) (XPost c ρ σ s X) s₁ :=
 Zm w (fun _ _ z=>z.after y) fun _ _ z=>z.after y
theorem onP {t:Sem γ}{P:γ->Shared->Prop} (y:Step c σ s σ₁ s₁) (w:wpAny (model c.prog c.w) c.A t P (XPost c ρ σ₁ s₁ X) s₁):wpAny (model c.prog c.w) c.A t P (XPost c ρ σ s X) s₁ :=
 Zm w (fun _ _ z=>z) fun _ _ z=>z.after y
theorem seq1 {R':Heap->γ->β->Prop}{t:Sem Value}{f:Value->Sem γ} (g:Go VR c ρ t σ (fun a σ₁=>GoV R' c ρ [a] (fun vs=>f (v0 vs)) σ₁ Q X) X) (s:Shared) (S:St c ρ σ s.heap) :
  wpAny (model c.prog c.w) c.A t (fun v s₁=>wpAny (model c.prog c.w) c.A (f v) (GPost R' c ρ σ s Q) (XPost c ρ σ s X) s₁) (XPost c ρ σ s X) s :=
 Zm (g s S) (fun v s₁ p=>by
  obtain ⟨a,σ₁,r,S₁,y,q⟩:=p
  exact Zm (q [v] s₁ S₁ (.cons r .nil)) (fun _ _ z=>z.after y) (fun _ _ z=>z.after y)) fun _ _ z=>z
theorem seq2 {R':Heap->γ->β->Prop}{t u:Sem Value}{f:Value->Value->Sem γ} (g:Go VR c ρ t σ (fun a σ₁=>Go VR c ρ u σ₁ (fun b σ₂=>GoV R' c ρ [a,b] (fun vs=>f (v0 vs) (v1 vs)) σ₂ Q X) X) X) (s:Shared) (S:St c ρ σ s.heap) :
  wpAny (model c.prog c.w) c.A t (fun v s₁=>wpAny (model c.prog c.w) c.A u (fun v' s₂=>wpAny (model c.prog c.w) c.A (f v v') (GPost R' c ρ σ s Q) (XPost c ρ σ s X) s₂) (XPost c ρ σ s X) s₁) (XPost c ρ σ s X) s :=
 Zm (g s S) (fun v s₁ p=>by
  obtain ⟨a,σ₁,ra,S₁,y,q⟩:=p
  refine Zm (q s₁ S₁) (fun v' s₂ p=>?_) (fun _ _ z=>z.after y)
  obtain ⟨b,σ₂,rb,S₂,y₂,q₂⟩:=p
  exact Zm (q₂ [v,v'] s₂ S₂ (.cons (ra.keep (y₂.tup S₁)) (.cons rb .nil))) (fun _ _ z=>z.after (y.trans y₂)) (fun _ _ z=>z.after (y.trans y₂))) fun _ _ z=>z
end
inductive LookV:List NV->Str->AVal->Prop
 | here {x:Str}{k:NameKind}{a:AVal}{r:List NV}:LookV (⟨x,k,some a⟩::r) x a
 | next {e:NV}{x:Str}{a:AVal}{r:List NV}:LookV r x a->LookV (e::r) x a
theorem LookV.mem {ρ:List NV}{x:Str}{a:AVal} (l:LookV ρ x a):∃ e∈ρ,e.name=x/\e.val=some a:=by
 induction l with
 | here=>exact ⟨_,.head _,rfl,rfl⟩
 | next _ ih=>refine ex1 ih fun e h1z=>?_;(try clear ih);refine an2 h1z fun m r=>?_;clear h1z;exact ⟨e,.tail _ m,r⟩
inductive LookG:List NV->Str->Prop
 | here {x:Str}{a:Option AVal}{r:List NV}:LookG (⟨x,.globalImplicit,a⟩::r) x
 | next {e:NV}{x:Str}{r:List NV}:LookG r x->LookG (e::r) x
@[reducible] def nthN:List NV->Nat->Option NV
 | [],_=>none
 | e::_,0=>some e
 | _::r,n+1=>nthN r n
theorem LookG.mem {ρ:List NV}{x:Str} (l:LookG ρ x):∃ e∈ρ,e.name=x/\e.kind=.globalImplicit:=by
 induction l with
 | here=>exact ⟨_,.head _,rfl,rfl⟩
 | next _ ih=>refine ex1 ih fun e h2z=>?_;(try clear ih);refine an2 h2z fun m r=>?_;clear h2z;exact ⟨e,.tail _ m,r⟩
theorem av {α:Type}{l:List (Str × α)}{x:Str}{k:α} (n:(l.map (·.1)).Nodup) (m:(x,k)∈l):l.lookup x=some k:=by
 induction l with
 | nil=>cases m
 | cons y r ih =>
  obtain ⟨y,j⟩:=y
  rw [map_cons,nodup_cons] at n
  rw [List.lookup_cons]
  rcases ZC m with e | m
  ·cases e;simp
  ·have:(x == y)=false:=beq_eq_false_iff_ne.mpr fun q=>n.1 (q ▸ mem_map_of_mem (f:=(·.1)) m)
   rw [this];exact ih n.2 m
section
variable {c:Cx}{ρ:List NV}{σ σ₁ σ' τ:AState}{h h':Heap}{s s₁ s':Shared}{Q:AVal->AState->Prop}{QB:Bool->AState->Prop}{X:AExc->AState->Prop}
theorem St.kindOf (S:St c ρ σ h) {e:NV} (m:e∈ρ):c.env.kindOf e.name=some e.kind:=by
 unfold Env.kindOf
 have:(e.name,e.kind)∈c.env.scope.names:=S.names ▸ mem_map_of_mem (f:=fun e:NV=>(e.name,e.kind)) m
 exact av S.ok.nodup this
theorem St.notDebug (S:St c ρ σ h) {e:NV} (m:e∈ρ):(e.name == ("__debug__" : Str))=false/\(e.name == ("__classdict__" : Str))=false:=by
 have:(e.name,e.kind)∈c.env.scope.names:=S.names ▸ mem_map_of_mem (f:=fun e:NV=>(e.name,e.kind)) m
 have:=List.all_eq_true.mp S.ok.tame _ this
 simpa using this
theorem jZ {e:NV}{v:Value}{Qv:Value->Shared->Prop}{E:Value->Shared->Prop} (S:St c ρ σ s.heap) (m:e∈ρ) (y:VarIs c.env s.heap e.name v e.kind) (q:Qv v s) :
  wpAny (model c.prog c.w) c.A (loadName c.env e.name) Qv E s:=by
 have k:=S.kindOf m
 revert y k
 cases e.kind with
 | «local»=>intro r1z k;refine ex1 r1z fun mm h3z=>?_;(try clear r1z);refine an2 h3z fun n z=>?_;clear h3z;exact wpAny_loadName_local S.ok.kind k n z q
 | cell=>intro r2z k;refine ex1 r2z fun b h4z=>?_;(try clear r2z);refine an2 h4z fun l z=>?_;clear h4z;exact wpAny_loadName_cell S.ok.kind k l z q
 | free=>intro r3z k;refine ex1 r3z fun b h5z=>?_;(try clear r3z);refine an2 h5z fun l z=>?_;clear h5z;exact wpAny_loadName_free S.ok.kind k l z q (S.notDebug m).2
 | _=>intro y;exact y.elim
theorem ev_name {x:Str}{p:Pos}{a:AVal} (l:LookV ρ x a) (q:Q a σ):Ev c ρ (.Name x p) σ Q X:=fun s S=>by
 refine ex1 l.mem fun e h7z=>?_
 refine an3 h7z fun m h6z ha=>?_
 clear h7z
 obtain rfl:=h6z
 obtain ⟨v⟩|⟨y,r⟩:=(S.vars e m a ha)
 exact wpAny_Name (jZ S m y (.here S r q)) (S.notDebug m).1
theorem bB {x:Str}{v:Value}{Qv:Value->Shared->Prop}{E:Value->Shared->Prop} (S:St c ρ σ s.heap) (l:LookG ρ x) (n:nsIn c.K mainGlobals x=some (some v)) (q:Qv v s) :
  wpAny (model c.prog c.w) c.A (eval (.Name x p) c.env) Qv E s:=by
 refine ex1 l.mem fun e h10z=>?_
 refine an3 h10z fun m h9z hk=>?_
 clear h10z
 obtain rfl:=h9z
 have k:=S.kindOf m
 rw [hk] at k
 refine wpAny_Name ?_ (S.notDebug m).1
 rw [loadName_read S.ok.kind k]
 unfold loadGlobal
 rw [S.ok.glob]
 refine Zb ((looks_nsIn (S.ok.KG.keeps S.base) n).here ?_)
 exact Zp q
theorem ev_global {x:Str}{p:Pos}{v:Value}{a:AVal} (l:LookG ρ x) (n:nsIn c.K mainGlobals x=some (some v)) (r:∀ h,VR h v a) (q:Q a σ):Ev c ρ (.Name x p) σ Q X:=fun s S =>
 bB S l n (.here S (r _) q)
theorem bn {x:Str}{v:Value}{Qv:Value->Shared->Prop}{E:Value->Shared->Prop} (S:St c ρ σ s.heap) (l:LookG ρ x) (n:nsIn c.K mainGlobals x=some none) (hv:bootBuiltins x=some v) (hn:x ≠ "__name__") (q:Qv v s) :
  wpAny (model c.prog c.w) c.A (eval (.Name x p) c.env) Qv E s:=by
 refine ex1 l.mem fun e h12z=>?_
 refine an3 h12z fun m h11z hk=>?_
 clear h12z
 obtain rfl:=h11z
 have k:=S.kindOf m
 rw [hk] at k
 refine wpAny_Name ?_ (S.notDebug m).1
 rw [loadName_read S.ok.kind k]
 unfold loadGlobal
 rw [S.ok.glob,S.ok.blt]
 refine ex2 S.ok.bg fun mg mb h13z=>?_
 refine an4 h13z fun ng nb g1 g2=>?_
 clear h13z
 refine Zb (wpAny_nsGet (ng.keeps S.base) ?_)
 rw [g1 _ n]
 refine Zb (wpAny_nsGet (nb.keeps S.base) ?_)
 rw [g2 _ _ hn hv]
 exact Zp q
theorem ev_int {i:Int}{k:Nat}{p:Pos} (q:Q (.int i) σ):Ev c ρ (.Constant (.int i) k p) σ Q X:=fun s S=>wpAny_Constant_int (.tok S (.int i _) q)
theorem ev_str {x:Str}{k:Nat}{p:Pos} (q:Q (.str x) σ):Ev c ρ (.Constant (.str x) k p) σ Q X:=fun s S=>by
 show wpAny _ _ (mkText x) _ _ _
 unfold mkText
 exact Zb (wpAny_fresh (Zp (.tok S (.str x _) q)))
theorem ev_bool {b:Bool}{k:Nat}{p:Pos} (q:Q (.bool b) σ):Ev c ρ (.Constant (.bool b) k p) σ Q X:=fun s S=>Zp (.here S (.bool b) q)
theorem ev_none {k:Nat}{p:Pos} (q:Q .none σ):Ev c ρ (.Constant .none k p) σ Q X:=fun s S=>Zp (.here S .none q)
theorem ev_binop {l r:Expr}{op:Operator}{p:Pos} (g:Ev c ρ l σ (KE c ρ r (KOp c ρ op Q X) X) X):Ev c ρ (.BinOp l op r p) σ Q X:=fun s S =>
 wpAny_BinOp (seq2 g s S)
theorem ev_compare1 {l r:Expr}{op:CmpOp}{p:Pos} (g:Ev c ρ l σ (KE c ρ r (KCmp c ρ op Q X) X) X) (hm:behindInMarks op r=false:=by walk_at "u"):Ev c ρ (.Compare l [op] [r] p) σ Q X:=fun s S =>
 wpAny_Compare1 (seq2 g s S) hm
theorem ev_ifexp {t b o:Expr}{p:Pos} (g:Tst c ρ t σ (KIfE c ρ b o Q X) X):Ev c ρ (.IfExp t b o p) σ Q X:=fun s S =>
 wpAny_IfExp (Zm (g s S) (fun z s₁ pp=>by
  obtain ⟨a,σ₁,rfl,S₁,y,q⟩:=pp
  cases z
  ·exact Zm (q s₁ S₁) (fun _ _ z=>z.after y) (fun _ _ z=>z.after y)
  ·exact Zm (q s₁ S₁) (fun _ _ z=>z.after y) (fun _ _ z=>z.after y)) fun _ _ z=>z)
theorem f6 {e:Expr} (g:Ev c ρ e σ (KTr c ρ QB X) X) (he:isTrue e c.env (eval e c.env)=(do let v <- eval e c.env;standAt e.pos;holding [v] (truthy v)):=by walk_at "u"):Tst c ρ e σ QB X:=fun s S =>
 wpAny_isTrue_value (seq1 g s S) he
theorem kL {e:Expr}{p:Pos} (g:Tst c ρ e σ (KNot QB) X):Tst c ρ (.UnaryOp .Not e p) σ QB X:=fun s S =>
 wpAny_isTrue_Not (Zm (g s S) (fun b s₁ pp=>by obtain ⟨a,σ₁,rfl,S₁,y,q⟩:=pp;exact ⟨_,σ₁,rfl,S₁,y,q⟩) fun _ _ z=>z)
abbrev AllT (c:Cx) (ρ:List NV) (op:BoolOp) (es:List Expr) (σ:AState) (Q:Bool->AState->Prop) (X:AExc->AState->Prop):Prop:=Go Same c ρ (allTrue op es c.env) σ Q X
theorem hJ {op:BoolOp}{es:List Expr}{p:Pos} (g:AllT c ρ op es σ QB X):Tst c ρ (.BoolOp op es p) σ QB X:=fun s S=>wpAny_isTrue_BoolOp (g s S)
abbrev KAnd (c:Cx) (ρ:List NV) (es:List Expr) (QB:Bool->AState->Prop) (X:AExc->AState->Prop) (b:Bool) (σ₁:AState):Prop:=if b then AllT c ρ .And es σ₁ QB X else QB false σ₁
abbrev KOr (c:Cx) (ρ:List NV) (es:List Expr) (QB:Bool->AState->Prop) (X:AExc->AState->Prop) (b:Bool) (σ₁:AState):Prop:=if b then QB true σ₁ else AllT c ρ .Or es σ₁ QB X
theorem n8 (q:QB true σ):AllT c ρ .And [] σ QB X:=fun s S=>wpAny_allTrue_And_nil (.here S rfl q)
theorem p7 (q:QB false σ):AllT c ρ .Or [] σ QB X:=fun s S=>wpAny_allTrue_Or_nil (.here S rfl q)
theorem lB {e:Expr}{es:List Expr} (g:Tst c ρ e σ (KAnd c ρ es QB X) X):AllT c ρ .And (e::es) σ QB X:=fun s S =>
 wpAny_allTrue_And_cons (Zm (g s S) (fun b s₁ pp=>by
  obtain ⟨a,σ₁,rfl,S₁,y,q⟩:=pp
  cases b
  ·exact ⟨_,σ₁,rfl,S₁,y,q⟩
  ·exact Zm (q s₁ S₁) (fun _ _ z=>z.after y) (fun _ _ z=>z.after y)) fun _ _ z=>z)
theorem nZ {e:Expr}{es:List Expr} (g:Tst c ρ e σ (KOr c ρ es QB X) X):AllT c ρ .Or (e::es) σ QB X:=fun s S =>
 wpAny_allTrue_Or_cons (Zm (g s S) (fun b s₁ pp=>by
  obtain ⟨a,σ₁,rfl,S₁,y,q⟩:=pp
  cases b
  ·exact Zm (q s₁ S₁) (fun _ _ z=>z.after y) (fun _ _ z=>z.after y)
  ·exact ⟨_,σ₁,rfl,S₁,y,q⟩) fun _ _ z=>z)
theorem dy {l r:Expr}{op:CmpOp}{p:Pos} (g:Ev c ρ l σ (KE c ρ r (KCmp c ρ op (KTr c ρ QB X) X) X) X) (hm:behindInMarks op r=false:=by walk_at "u") :
  Tst c ρ (.Compare l [op] [r] p) σ QB X:=fun s S=>by
 refine wpAny_isTrue_Compare1 ?_ hm
 refine g.use S fun u s₁ a σ₁ ra S₁ y₁ g₁=>onP y₁ (g₁.use S₁ fun v s₂ b σ₂ rb S₂ y₂ g₂=>onP (y₁.trans y₂) (GoV.use (vs:=[u,v]) g₂ S₂ (.cons (ra.keep (y₂.tup S₁)) (.cons rb .nil)) fun z s₃ d σ₃ rd S₃ y₃ g₃=>on ((y₁.trans y₂).trans y₃) ?_))
 exact g₃ [z] s₃ S₃ (.cons rd .nil)
end
noncomputable def VRI (h:Heap) (v:Value) (a:AVal):Prop:=match a with
 | .none=>v=.none
 | .bool b=>v=.bool b
 | .int i=>∃ t,v=.int i t
 | .str x=>∃ t,v=.str x t
 | .bytes b t=>v=.bytes b t
 | .type n=>v=.type n
 | .tup as=>∃ a o vs n,v=.ref a/\h.get? a=some o/\o.cls=.type "tuple" /\ o.data=.seq vs.toArray n/\VRs h vs as
 | .ref a=>v=.ref a
theorem VR.inv {h:Heap}{v:Value}{a:AVal} (r:VR h v a):VRI h v a:=by
 cases r with
 | int i t=>exact ⟨t,rfl⟩
 | str x t=>exact ⟨t,rfl⟩
 | tup e cl d rs=>exact ⟨_,_,_,_,rfl,e,cl,d,rs⟩
 | _=>exact rfl
noncomputable def VRsI (h:Heap) (vs:List Value) (as:List AVal):Prop:=match as with
 | []=>vs=[]
 | a::r=>∃ v ws,vs=v::ws/\VR h v a/\VRs h ws r
theorem VRs.inv {h:Heap}{vs:List Value}{as:List AVal} (r:VRs h vs as):VRsI h vs as:=by
 cases r with
 | nil=>exact rfl
 | cons x r=>exact ⟨_,_,rfl,x,r⟩
theorem VRs.one {h:Heap}{vs:List Value}{a:AVal} (r:VRs h vs [a]):∃ v,vs=[v]/\VR h v a :=
 ex2 r.inv fun v ws q=>an3 q fun e x r=>⟨v,e.trans (congrArg (v::·) r.inv),x⟩
theorem VRs.two {h:Heap}{vs:List Value}{a b:AVal} (r:VRs h vs [a,b]):∃ v w,vs=[v,w]/\VR h v a/\VR h w b :=
 ex2 r.inv fun v ws q=>an3 q fun e x r=>ex1 r.one fun w q=>an2 q fun e' y=>⟨v,w,e.trans (congrArg (v::·) e'),x,y⟩
theorem VR.int_inv {h:Heap}{v:Value}{i:Int} (r:VR h v (.int i)):∃ t,v=.int i t:=r.inv
theorem VR.str_inv {h:Heap}{v:Value}{x:Str} (r:VR h v (.str x)):∃ t,v=.str x t:=r.inv
theorem VR.bool_inv {h:Heap}{v:Value}{b:Bool} (r:VR h v (.bool b)):v=.bool b:=r.inv
theorem VR.none_inv {h:Heap}{v:Value} (r:VR h v .none):v=.none:=r.inv
theorem VR.bytes_inv {h:Heap}{v:Value}{b:Array UInt8}{t:Tok} (r:VR h v (.bytes b t)):v=.bytes b t:=r.inv
theorem VR.ref_inv {h:Heap}{v:Value}{a:Addr} (r:VR h v (.ref a)):v=.ref a:=r.inv
theorem VR.tup_inv {h:Heap}{v:Value}{as:List AVal} (r:VR h v (.tup as)):∃ a o vs n,v=.ref a/\h.get? a=some o/\o.cls=.type "tuple" /\ o.data=.seq vs.toArray n/\VRs h vs as:=r.inv
theorem VRs.one' {h:Heap}{vs:List Value}{a:AVal}{P:List Value->Prop} (r:VRs h vs [a]) (k:∀ v,VR h v a->P [v]):P vs:=by
 obtain ⟨v,rfl,x⟩:=r.one;exact k v x
theorem VRs.two' {h:Heap}{vs:List Value}{a b:AVal}{P:List Value->Prop} (r:VRs h vs [a,b]) (k:∀ v w,VR h v a->VR h w b->P [v,w]):P vs:=by
 obtain ⟨v,w,rfl,x,y⟩:=r.two;exact k v w x y
section
variable {h:Heap}{v:Value}{P:Value->Prop}
theorem VR.int' {i:Int} (r:VR h v (.int i)) (k:∀ t,P (.int i t)):P v:=by obtain ⟨t,rfl⟩:=r.int_inv;exact k t
theorem VR.str' {x:Str} (r:VR h v (.str x)) (k:∀ t,P (.str x t)):P v:=by obtain ⟨t,rfl⟩:=r.str_inv;exact k t
theorem VR.bool' {b:Bool} (r:VR h v (.bool b)) (k:P (.bool b)):P v:=by rw [r.bool_inv];exact k
theorem VR.none' (r:VR h v .none) (k:P .none):P v:=by rw [r.none_inv];exact k
theorem VR.bytes' {b:Array UInt8}{t:Tok} (r:VR h v (.bytes b t)) (k:P (.bytes b t)):P v:=by rw [r.bytes_inv];exact k
theorem VR.ref' {a:Addr} (r:VR h v (.ref a)) (k:P (.ref a)):P v:=by rw [r.ref_inv];exact k
end
section
variable {pr:Program}{w:World}{h:Heap}{a:Addr}{P:Prop}
noncomputable def ORI (pr:Program) (w:World) (h:Heap) (a:Addr) (o:AObj):Prop:=match o with
 | .list as=>∃ (vs:List Value) (n:Nat),h.get? a=some { cls:=.type "list",data:=.seq vs.toArray n }/\VRs h vs as
 | .dictS es=>∃ kvs,h.DictOf (strKind pr w) a kvs/\KRs h kvs es
 | .dictI es=>∃ kvs,h.DictOf (intKind pr w) a kvs/\KRs h kvs es
 | .dictT es ep=>∃ xs,h.DictOfH (tupleKind (intKind pr w)) a xs/\DEp h a ep/\KRs h (xs.map fun x=>(x.1,x.2.2)) es
 | .range i j=>∃ t u v,IsRange h a i j 1 t u v
 | .exc C d vs=>h.get? a=some { cls:=.ref C,dict:=d,data:=.fields vs }
 | .attrs ns m=>∃ m',h.Ns1 a m'/\Within m' ns/\(∀ x,match m x with | some v=>∃ v',m' x=some v'/\VR h v' v | none=>m' x=none)
 | .inst C d=>h.get? a=some { cls:=.ref C,dict:=some d,data:=.plain }
theorem OR.inv {o:AObj} (x:OR pr w h a o):ORI pr w h a o:=by
 cases x with
 | list e r=>exact ⟨_,_,e,r⟩
 | dictS e r=>exact ⟨_,e,r⟩
 | dictI e r=>exact ⟨_,e,r⟩
 | dictT e d r=>exact ⟨_,e,d,r⟩
 | range e=>exact ⟨_,_,_,e⟩
 | exc e=>exact e
 | attrs n w r=>exact ⟨_,n,w,r⟩
 | inst e=>exact e
theorem OR.list' {as:List AVal} (o:OR pr w h a (.list as)) (k:∀ (vs:List Value) (n:Nat),h.get? a=some { cls:=.type "list",data:=.seq vs.toArray n }->VRs h vs as->P):P:=ex2 o.inv fun vs n q=>an2 q (k vs n)
theorem OR.dictS' {es:List (Str × AVal)} (o:OR pr w h a (.dictS es)) (k:∀ kvs,h.DictOf (strKind pr w) a kvs->KRs h kvs es->P):P:=ex1 o.inv fun vs q=>an2 q (k vs)
theorem OR.dictI' {es:List (Int × AVal)} (o:OR pr w h a (.dictI es)) (k:∀ kvs,h.DictOf (intKind pr w) a kvs->KRs h kvs es->P):P:=ex1 o.inv fun vs q=>an2 q (k vs)
theorem OR.dictT' {es:List (List Int × AVal)}{ep:Nat} (o:OR pr w h a (.dictT es ep)) (k:∀ xs,h.DictOfH (tupleKind (intKind pr w)) a xs->DEp h a ep->KRs h (xs.map fun x=>(x.1,x.2.2)) es->P):P:=ex1 o.inv fun vs q=>an3 q (k vs)
theorem OR.range' {i j:Int} (o:OR pr w h a (.range i j)) (k:∀ t u v,IsRange h a i j 1 t u v->P):P:=ex3 o.inv k
theorem OR.exc' {C:Addr}{d:Option Addr}{vs:Array Value} (o:OR pr w h a (.exc C d vs)) (k:h.get? a=some { cls:=.ref C,dict:=d,data:=.fields vs }->P):P:=k o.inv
theorem OR.attrs' {ns:List Str}{m:Str->Option AVal} (o:OR pr w h a (.attrs ns m)) (k:∀ m',h.Ns1 a m'->Within m' ns->(∀ x,match m x with | some v=>∃ v',m' x=some v'/\VR h v' v | none=>m' x=none)->P):P:=ex1 o.inv fun m' q=>an3 q (k m')
theorem OR.inst' {C d:Addr} (o:OR pr w h a (.inst C d)) (k:h.get? a=some { cls:=.ref C,dict:=some d,data:=.plain }->P):P:=k o.inv
end
section
variable {c:Cx}{ρ:List NV}{σ σ₁ σ' τ:AState}{h h':Heap}{s s₁ s':Shared}{Q:AVal->AState->Prop}{QB:Bool->AState->Prop}{X:AExc->AState->Prop}
theorem vI {t:Value->Value->Sem Value}{i j:Int} (f:∀ s t' u,St c ρ σ s.heap->wpAny (model c.prog c.w) c.A (t (.int i t') (.int j u)) (GPost VR c ρ σ s Q) (XPost c ρ σ s X) s):V2 c ρ (.int i) (.int j) t σ Q X:=fun vs s S r=>by
 apply r.two';intro v w a b
 apply a.int';intro t;apply b.int';intro u;exact f s t u S
theorem vS {t:Value->Value->Sem Value}{i j:Str} (f:∀ s t' u,St c ρ σ s.heap->wpAny (model c.prog c.w) c.A (t (.str i t') (.str j u)) (GPost VR c ρ σ s Q) (XPost c ρ σ s X) s):V2 c ρ (.str i) (.str j) t σ Q X:=fun vs s S r=>by
 apply r.two';intro v w a b
 apply a.str';intro t;apply b.str';intro u;exact f s t u S
theorem mM {i j:Int} (q:Q (.int (i+j)) σ):Op2 c ρ .Add (.int i) (.int j) σ Q X:=by
 refine vI ?_;intro s t u S;with_reducible refine add_int ?_;exact (.tok S (.int ..) q)
theorem mY {i j:Int} (q:Q (.int (i - j)) σ):Op2 c ρ .Sub (.int i) (.int j) σ Q X:=by
 refine vI ?_;intro s t u S;with_reducible refine sub_int ?_;exact (.tok S (.int ..) q)
theorem nj {i j:Int} (ok:IntMulOk i j) (q:Q (.int (i * j)) σ):Op2 c ρ .Mult (.int i) (.int j) σ Q X:=by
 refine vI ?_;intro s t u S;with_reducible refine mul_int ?_ ok;exact (.tok S (.int ..) q)
theorem ei {i j:Int} (hj:j≠0) (hp:Builtin.divisionGoesByPylong i j=false) (q:Q (.int (Int.fdiv i j)) σ) (cm:c.calm=true:=by walk_at "cm"):Op2 c ρ .FloorDiv (.int i) (.int j) σ Q X:=by
 refine vI ?_;intro s t u S;exact floordiv_int_or (S.ok.hd cm) (fun e=>absurd e hj) (fun _=>.tok S (.int ..) q) fun _=>.inl hp
theorem iV {i j:Int} (hj:j≠0) (q:Q (.int (Int.fmod i j)) σ) (cm:c.calm=true:=by walk_at "cm"):Op2 c ρ .Mod (.int i) (.int j) σ Q X:=by
 refine vI ?_;intro s t u S;exact mod_int_or (S.ok.hd cm) (fun e=>absurd e hj) fun _=>.tok S (.int ..) q
theorem qs {i j:Int} (q:Q (.int (Builtin.bitAnd i j)) σ):Op2 c ρ .BitAnd (.int i) (.int j) σ Q X:=by
 refine vI ?_;intro s t u S;with_reducible refine and_int ?_;exact (.tok S (.int ..) q)
theorem qI {i j:Int} (hj:0<=j) (q:Q (.int (Int.fdiv i (2 ^ j.toNat))) σ):Op2 c ρ .RShift (.int i) (.int j) σ Q X:=by
 refine vI ?_;intro s t u S;with_reducible refine rshift_int hj ?_;exact (.tok S (.int ..) q)
theorem mL {i j:Int} (hj:0<=j) (hb:(Builtin.Int.intBits i:Int) * j<=2 ^ 27) (q:Q (.int (i ^ j.toNat)) σ):Op2 c ρ .Pow (.int i) (.int j) σ Q X:=by
 refine vI ?_;intro s t u S;with_reducible refine pow_int hj hb ?_;exact (.tok S (.int ..) q)
theorem nM {x y:Str} (hz:x.length+y.length<=sizeLine) (q:Q (.str (x++y)) σ):Op2 c ρ .Add (.str x) (.str y) σ Q X:=by
 refine vS ?_;intro s t u S;exact add_str (fun t' tk=>.tok S (.str ..) q) hz
theorem mS {i j:Int} (q:Q (.bool (i == j)) σ):Cmp c ρ .Eq (.int i) (.int j) σ Q X:=by
 refine vI ?_;intro s t u S;with_reducible refine eq_int ?_;exact (.here S (.bool _) q)
theorem nE {i j:Int} (q:Q (.bool (i != j)) σ):Cmp c ρ .NotEq (.int i) (.int j) σ Q X:=by
 refine vI ?_;intro s t u S;with_reducible refine ne_int ?_;exact (.here S (.bool _) q)
theorem nh {i j:Int} (q:Q (.bool (decide (i < j))) σ):Cmp c ρ .Lt (.int i) (.int j) σ Q X:=by
 refine vI ?_;intro s t u S;with_reducible refine lt_int ?_;exact (.here S (.bool _) q)
theorem kh {i j:Int} (q:Q (.bool (decide (i<=j))) σ):Cmp c ρ .LtE (.int i) (.int j) σ Q X:=by
 refine vI ?_;intro s t u S;with_reducible refine le_int ?_;exact (.here S (.bool _) q)
theorem m7 {i j:Int} (q:Q (.bool (decide (j < i))) σ):Cmp c ρ .Gt (.int i) (.int j) σ Q X:=by
 refine vI ?_;intro s t u S;with_reducible refine gt_int ?_;exact (.here S (.bool _) q)
theorem nN {i j:Int} (q:Q (.bool (decide (j<=i))) σ):Cmp c ρ .GtE (.int i) (.int j) σ Q X:=by
 refine vI ?_;intro s t u S;with_reducible refine ge_int ?_;exact (.here S (.bool _) q)
theorem kA {x y:Str} (q:Q (.bool (x == y)) σ):Cmp c ρ .Eq (.str x) (.str y) σ Q X:=by
 refine vS ?_;intro s t u S;with_reducible refine eq_str ?_;exact (.here S (.bool _) q)
theorem j5 {x y:Str} (q:Q (.bool (x != y)) σ):Cmp c ρ .NotEq (.str x) (.str y) σ Q X:=by
 refine vS ?_;intro s t u S;with_reducible refine ne_str ?_;exact (.here S (.bool _) q)
theorem oi {x y:Str} (q:Q (.bool (!(y.cps.toList < x.cps.toList))) σ):Cmp c ρ .LtE (.str x) (.str y) σ Q X:=by
 refine vS ?_;intro s t u S;with_reducible refine PySem.P.le_str ?_;exact (.here S (.bool _) q)
theorem gS {b:Bool} (q:QB b σ):Truth c ρ (.bool b) σ QB X:=fun vs s S r=>by
 apply r.one';intro v a
 apply a.bool';exact wpAny_truthy_bool (.here S rfl q)
theorem qU {a:Addr}{xs:List AVal} (ha:σ a=some (.list xs)) (hz:(xs.length:Int) < 2 ^ 63) (q:QB (!xs.isEmpty) σ):Truth c ρ (.ref a) σ QB X:=fun vs s S r=>by
 apply r.one';intro v ra
 apply ra.ref'
 refine (S.obj a _ ha).list' fun _ _ e rs=>?_
 refine wpAny_truthy_list ⟨_,e,rfl,_,rfl⟩ (by rw [size_toArray,rs.length];exact hz) ?_
 refine .tok S ?_ q
 rw [show (!xs.isEmpty)=_ from ?_]
 have:=rs.length
 cases xs<;>cases ‹List Value›<;>simp_all
end
inductive Put:List NV->Str->AVal->List NV->Prop
 | here {x:Str}{k:NameKind}{o:Option AVal}{a:AVal}{r:List NV}:k=.local\/k=.cell->Put (⟨x,k,o⟩::r) x a (⟨x,k,some a⟩::r)
 | next {e:NV}{x:Str}{a:AVal}{r r':List NV}:Put r x a r'->Put (e::r) x a (e::r')
inductive Puts (ρ:List NV) (x:Str) (a:AVal) (N:List NV->AState->Prop) (σ:AState):Prop
 | mk (ρ':List NV) (p:Put ρ x a ρ') (q:N ρ' σ)
theorem Put.names {ρ ρ':List NV}{x:Str}{a:AVal} (p:Put ρ x a ρ'):ρ'.map (fun e=>(e.name,e.kind))=ρ.map (fun e=>(e.name,e.kind)):=by
 induction p with
 | here=>rfl
 | next _ ih=>simp only [map_cons,ih]
theorem Put.kind {ρ ρ':List NV}{x:Str}{a:AVal} (p:Put ρ x a ρ'):∃ e∈ρ,e.name=x/\(e.kind=.local\/e.kind=.cell):=by
 induction p with
 | here h=>exact ⟨_,.head _,rfl,h⟩
 | next _ ih=>refine ex1 ih fun e h1z=>?_;(try clear ih);refine an2 h1z fun m r=>?_;clear h1z;exact ⟨e,.tail _ m,r⟩
theorem Put.mem {ρ ρ':List NV}{x:Str}{a:AVal} (p:Put ρ x a ρ'):∀ e∈ρ',(e.name=x/\e.val=some a/\(e.kind=.local\/e.kind=.cell))\/e∈ρ:=by
 induction p with
 | here h=>intro e m;rcases ZC m with rfl | m;exact .inl ⟨rfl,rfl,h⟩;exact .inr (.tail _ m)
 | next _ ih=>intro e m;rcases ZC m with rfl | m;exact .inr (.head _);exact (ih e m).imp id (.tail _)
theorem Put.only {ρ ρ':List NV}{x:Str}{a:AVal} (p:Put ρ x a ρ') (n:(ρ.map (·.name)).Nodup):∀ e∈ρ',e.name=x->e.val=some a:=by
 induction p with
 | here h =>
  rw [map_cons,nodup_cons] at n
  intro e m q
  rcases ZC m with rfl | m
  ·rfl
  ·exact absurd (q ▸ mem_map_of_mem (f:=(·.name)) m) n.1
 | @next f x a r r' pp ih =>
  rw [map_cons,nodup_cons] at n
  intro e m q
  rcases ZC m with rfl | m
  ·refine ex1 pp.kind fun e' h2z=>?_
   refine an3 h2z fun m' q' _=>?_
   clear h2z
   exact absurd ((q.trans q'.symm) ▸ mem_map_of_mem (f:=(·.name)) m') n.1
  ·exact ih n.2 e m q
section
variable {c:Cx}{ρ ρ':List NV}{σ σ₁ σ' τ:AState}{h h':Heap}{s s₁ s':Shared}{Q:AVal->AState->Prop}{QB:Bool->AState->Prop}{X:AExc->AState->Prop}
theorem St.nodupN (S:St c ρ σ h):(ρ.map (·.name)).Nodup:=by
 have:=S.ok.nodup
 rw [<- S.names,map_map] at this
 exact this
theorem iZ (n:(c.env.cells.map (·.2)).Nodup):∀ {x y:Str}{a b:Addr},c.env.cells.lookup x=some a->c.env.cells.lookup y=some b->x≠y->a≠b:=by
 intro x y a b hx hy hne e
 subst e
 have m1:=mem_of_lookup hx
 have m2:=mem_of_lookup hy
 have:∀ (l:List (Str × Addr)),(l.map (·.2)).Nodup->(x,a)∈l->(y,a)∈l->x=y:=by
  intro l
  induction l with
  | nil=>intro _ h;cases h
  | cons p l ih =>
   intro n h1 h2
   rw [map_cons,nodup_cons] at n
   rcases ZC h1 with e1 | h1<;>rcases ZC h2 with e2 | h2
   ·rw [<- e2] at e1;exact (Prod.mk.inj e1).1
   ·exact absurd (by rw [<- e1];exact mem_map_of_mem (f:=(·.2)) h2) n.1
   ·exact absurd (by rw [<- e2];exact mem_map_of_mem (f:=(·.2)) h1) n.1
   ·exact ih n.2 h1 h2
 exact hne (this _ n m1 m2)
theorem St.turn (S:St c ρ σ h) {b:Addr} (hb:b∈c.own) (k:Heap.SameBut b h h') (kb:∃ o',h'.get? b=some o'/\(∀ vs,o'.data≠.fields vs)/\∀ xs n,o'.data≠.seq xs n)
  (hn:ρ'.map (fun e=>(e.name,e.kind))=ρ.map (fun e=>(e.name,e.kind))) (hl:∃ m,h'.Ns c.env.locals m) (hc:∀ x∈c.env.cells,∃ v,h'.IsCell x.2 v)
  (hv:TupKept h h'->∀ e∈ρ',∀ a,e.val=some a->∃ v,VarIs c.env h' e.name v e.kind/\VR h' v a):St c ρ' σ h':=by
 obtain ⟨ob'⟩|⟨e2,e4,e5⟩:=kb
 obtain ⟨hg,ob,e1,e3⟩:=S.ownNew b hb
 have t:TupKept h h':=aw k.extBut e1 fun _=>e3
 refine ⟨S.ok,fun a o e=>(k.2 a (by rintro rfl;rw [hg] at e;cases e)).trans (S.base a o e),?_,hn.trans S.names,hl,hc,hv t,fun a o e=>?_,S.off,fun a ha=>?_⟩
 ·have aux:∀ l:List Env,h.FunFrames c.G l->h'.FunFrames c.G l:=by
   intro l
   induction l with
   | nil=>intro _;trivial
   | cons env r ih =>
    intro r1z
    refine an3 r1z fun hk h4z hr=>?_
    (try clear r1z)
    obtain ⟨L,o,hf,hnn,ho,hd⟩:=h4z
    refine ⟨hk,?_,ih hr⟩
    by_cases z:L=b
    ·subst z;exact ⟨L,ob',hf,hnn,e2,e4⟩
    ·exact ⟨L,o,hf,hnn,(k.2 L z).trans ho,hd⟩
  exact aux _ S.frames
 ·have:a≠b:=fun z=>(S.off a o e).2.1 (z ▸ hb)
  exact (S.obj a o e).keep t (k.2 a this)
 ·obtain ⟨g,o,q,n⟩:=S.ownNew a ha
  by_cases z:a=b
  ·subst z;exact ⟨g,ob',e2,e5⟩
  ·exact ⟨g,o,(k.2 a z).trans q,n⟩
theorem Step.turn {b:Addr}{t:Nat} (hb:b∈c.own) (k:Heap.SameBut b s.heap h') (kb:∃ o',h'.get? b=some o'):Step c σ s σ { s with heap:=h',toks:=t } :=
 ⟨fun a o e _ n=>⟨o.slots,(k.2 a (fun z=>n (z ▸ hb))).trans e,fun _=>rfl⟩,fun a o e=>by
  by_cases z:a=b
  ·subst z;exact kb
  ·exact ⟨o,(k.2 a z).trans e⟩,fun _ _ _ e=>e,rfl,rfl⟩
theorem bc {x:Str}{v:Value}{a:AVal}{P:Unit->Shared->Prop}{E:Value->Shared->Prop} (S:St c ρ σ s.heap) (p:Put ρ x a ρ') (r:VR s.heap v a) (hf:c.fn=true\/∃ e∈ρ,e.name=x/\e.kind=.local)
  (k:∀ s',St c ρ' σ s'.heap->Step c σ s σ s'->P () s'):wpAny (model c.prog c.w) c.A (storeName c.env x v) P E s:=by
 refine ex1 p.kind fun e h6z=>?_
 refine an3 h6z fun m h5z kd=>?_
 clear h6z
 obtain rfl:=h5z
 have kk:=S.kindOf m
 have nd:=S.nodupN
 have old:∀ e'∈ρ',e'.name≠e.name->e'∈ρ:=fun e' m' n=>(p.mem e' m').resolve_left fun q=>n q.1
 have kindEq:∀ e'∈ρ',e'.name=e.name->e'.kind=e.kind:=fun e' m' n=>by
  have h1:(e'.name,e'.kind)∈c.env.scope.names:=by
   rw [<- S.names,<- p.names];exact mem_map_of_mem (f:=fun e:NV=>(e.name,e.kind)) m'
  have h2:=av S.ok.nodup h1
  unfold Env.kindOf at kk
  rw [n,kk] at h2
  exact (Option.some.inj h2).symm
 cases hk:e.kind with
 | «local» =>
  rw [hk] at kk
  obtain ⟨mm,nn⟩:=S.locs
  refine wpAny_storeName_local kk nn (fun h' hns hsb=>?_) (by rw [S.ok.kind];rfl)
  have kbx:∃ o',h'.get? c.env.locals=some o'/\(∀ vs,o'.data≠.fields vs)/\∀ xs n,o'.data≠.seq xs n:=by
   obtain ⟨o,es,ep⟩|⟨ho,hd,_⟩:=hns
   exact ⟨o,ho,fun vs q=>(by rw [hd] at q;cases q),fun xs n q=>(by rw [hd] at q;cases q)⟩
  refine k _ (S.turn S.ok.locIn hsb kbx p.names ⟨_,hns⟩ (fun y hy=>?_) fun t e' m' a' ha=>?_) (Step.turn S.ok.locIn hsb (let ⟨o,q,_⟩:=kbx;⟨o,q⟩))
  ·obtain ⟨v',o⟩|⟨q,d⟩:=(S.cellsAt y hy)
   exact ⟨v',o,(hsb.2 _ (S.ok.cellsOff y hy)).trans q,d⟩
  ·by_cases z:e'.name=e.name
   ·have:=p.only nd e' m' z
    rw [this] at ha;cases ha
    refine ⟨v,?_,r.keep t⟩
    rw [kindEq e' m' z,hk,z]
    exact ⟨_,hns,if_pos rfl⟩
   ·obtain ⟨v'⟩|⟨y,r'⟩:=(S.vars e' (old e' m' z) a' ha)
    refine ⟨v',?_,r'.keep t⟩
    revert y
    cases e'.kind with
    | «local» =>
     intro r2z
     obtain ⟨m2⟩|⟨n2,q2⟩:=r2z
     refine ⟨_,hns,?_⟩
     show (if e'.name=e.name then some v else mm e'.name)=some v'
     rw [if_neg z]
     obtain ⟨o,es,ep⟩|⟨ho,hd,_,hm⟩:=nn
     obtain ⟨o2,es2,ep2⟩|⟨ho2,hd2,_,hm2⟩:=n2
     rw [ho] at ho2;cases ho2;rw [hd] at hd2;cases hd2
     rw [<- hm,hm2];exact q2
    | cell =>
     intro r3z
     obtain ⟨b,l,o,q,d⟩:=r3z
     exact ⟨b,l,o,(hsb.2 _ (S.ok.cellsOff _ (mem_of_lookup l))).trans q,d⟩
    | free =>
     intro r4z
     obtain ⟨b,l,o,q,d⟩:=r4z
     exact ⟨b,l,o,(hsb.2 _ (S.ok.cellsOff _ (mem_of_lookup l))).trans q,d⟩
    | _=>intro y;exact y.elim
 | cell =>
  rw [hk] at kk
  have fnT:c.fn=true:=hf.resolve_right fun ⟨e',m',n',k'⟩=>by
   have:=S.kindOf m'
   rw [n',kk,k'] at this;cases this
  obtain ⟨b,hb⟩:=S.ok.cellsOf (e.name,e.kind) (S.names ▸ mem_map_of_mem (f:=fun e:NV=>(e.name,e.kind)) m) hk
  have hbm:=mem_of_lookup hb
  have hbo:=S.ok.fnOwn fnT _ hbm
  obtain ⟨v₀,hc⟩:=S.cellsAt _ hbm
  refine wpAny_storeName_cell S.ok.kind kk hb hc (fun h' hcl hsb=>?_)
  have kbx:∃ o',h'.get? b=some o'/\(∀ vs,o'.data≠.fields vs)/\∀ xs n,o'.data≠.seq xs n:=by
   obtain ⟨o⟩|⟨ho,hd⟩:=hcl
   exact ⟨o,ho,fun vs q=>(by rw [hd] at q;cases q),fun xs n q=>(by rw [hd] at q;cases q)⟩
  have lne:c.env.locals≠b:=fun q=>S.ok.cellsOff _ hbm q.symm
  refine k _ (S.turn hbo hsb kbx p.names ?_ (fun y hy=>?_) fun t e' m' a' ha=>?_) (Step.turn hbo hsb (let ⟨o,q,_⟩:=kbx;⟨o,q⟩))
  ·refine ex4 S.locs fun mm o es ep h14z=>?_
   refine an2 h14z fun ho q=>?_
   clear h14z
   exact ⟨mm,o,es,ep,(hsb.2 _ lne).trans ho,q⟩
  ·by_cases z:y.2=b
   ·rw [z];exact ⟨_,hcl⟩
   ·obtain ⟨v',o⟩|⟨q,d⟩:=(S.cellsAt y hy)
    exact ⟨v',o,(hsb.2 _ z).trans q,d⟩
  ·by_cases z:e'.name=e.name
   ·have:=p.only nd e' m' z
    rw [this] at ha;cases ha
    refine ⟨v,?_,r.keep t⟩
    rw [kindEq e' m' z,hk,z]
    exact ⟨b,hb,hcl⟩
   ·obtain ⟨v'⟩|⟨y,r'⟩:=(S.vars e' (old e' m' z) a' ha)
    refine ⟨v',?_,r'.keep t⟩
    revert y
    cases e'.kind with
    | «local» =>
     intro r5z
     obtain ⟨m2⟩|⟨h17z,q2⟩:=r5z
     obtain ⟨o,es,ep,ho,q⟩:=h17z
     exact ⟨m2,⟨o,es,ep,(hsb.2 _ lne).trans ho,q⟩,q2⟩
    | cell =>
     intro r6z
     obtain ⟨b',l,o,q,d⟩:=r6z
     exact ⟨b',l,o,(hsb.2 _ (iZ S.ok.cells l hb z)).trans q,d⟩
    | free =>
     intro r7z
     obtain ⟨b',l,o,q,d⟩:=r7z
     exact ⟨b',l,o,(hsb.2 _ (iZ S.ok.cells l hb z)).trans q,d⟩
    | _=>intro y;exact y.elim
 | _=>rw [hk] at kd;rcases kd with q | q<;>cases q
end
def FEnd (N:List NV->AState->Prop) (R:AVal->AState->Prop) (fl:Flow) (s':Shared) (ρ':List NV) (σ':AState):Prop:=match fl with
  | .next=>N ρ' σ'
  | .ret v=>∃ a,VR s'.heap v a/\R a σ'
  | _=>False
inductive FPost (c:Cx) (σ:AState) (s:Shared) (N:List NV->AState->Prop) (R:AVal->AState->Prop) (fl:Flow) (s':Shared):Prop
 | mk (ρ':List NV) (σ':AState) (S:St c ρ' σ' s'.heap) (y:Step c σ s σ' s') (q:FEnd N R fl s' ρ' σ')
abbrev XAt (X:AExc->List NV->AState->Prop) (ρ:List NV):AExc->AState->Prop:=fun x σ'=>X x ρ σ'
inductive XSPost (c:Cx) (σ:AState) (s:Shared) (X:AExc->List NV->AState->Prop) (v:Value) (s':Shared):Prop
 | mk (ρ':List NV) (q:XPost c ρ' σ s (XAt X ρ') v s')
def WS (c:Cx) (ρ:List NV) (st:Stmt) (σ:AState) (N:List NV->AState->Prop) (R:AVal->AState->Prop) (X:AExc->List NV->AState->Prop):Prop :=
 ∀ s,St c ρ σ s.heap->wpAny (model c.prog c.w) c.A (exec st c.env) (FPost c σ s N R) (XSPost c σ s X) s
def WSs (c:Cx) (ρ:List NV) (st:List Stmt) (σ:AState) (N:List NV->AState->Prop) (R:AVal->AState->Prop) (X:AExc->List NV->AState->Prop):Prop :=
 ∀ s,St c ρ σ s.heap->wpAny (model c.prog c.w) c.A (execs st c.env) (FPost c σ s N R) (XSPost c σ s X) s
abbrev KS (c:Cx) (rest:List Stmt) (N:List NV->AState->Prop) (R:AVal->AState->Prop) (X:AExc->List NV->AState->Prop) (ρ':List NV) (σ':AState):Prop:=WSs c ρ' rest σ' N R X
abbrev KIfS (c:Cx) (ρ:List NV) (b o:List Stmt) (N:List NV->AState->Prop) (R:AVal->AState->Prop) (X:AExc->List NV->AState->Prop) (z:Bool) (σ':AState):Prop:=if z then WSs c ρ b σ' N R X else WSs c ρ o σ' N R X
abbrev KPut (ρ:List NV) (x:Str) (N:List NV->AState->Prop) (a:AVal) (σ':AState):Prop:=Puts ρ x a N σ'
abbrev NQ (Q:AVal->AState->Prop) (_:List NV) (σ':AState):Prop:=Q .none σ'
abbrev XF (X:AExc->AState->Prop) (x:AExc) (_:List NV) (σ':AState):Prop:=X x σ'
section
variable {c:Cx}{ρ ρ':List NV}{σ σ₁ σ' τ:AState}{h h':Heap}{s s₁ s':Shared}{N N':List NV->AState->Prop}{R R':AVal->AState->Prop}{X X':AExc->List NV->AState->Prop}
theorem FPost.after {fl:Flow} (x:Step c σ s σ₁ s₁) (p:FPost c σ₁ s₁ N R fl s'):FPost c σ s N R fl s':=by
 obtain ⟨ρ',σ',S,y,q⟩:=p;exact ⟨ρ',σ',S,x.trans y,q⟩
theorem XSPost.after {v:Value} (x:Step c σ s σ₁ s₁) (p:XSPost c σ₁ s₁ X v s'):XSPost c σ s X v s':=let ⟨ρ',q⟩:=p;⟨ρ',q.after x⟩
theorem XPost.toS {v:Value} (p:XPost c ρ σ s (XAt X ρ) v s'):XSPost c σ s X v s':=⟨ρ,p⟩
theorem FPost.mono {fl:Flow} (k:∀ ρ σ,N ρ σ->N' ρ σ) (l:∀ a σ,R a σ->R' a σ) (p:FPost c σ s N R fl s'):FPost c σ s N' R' fl s':=by
 obtain ⟨ρ',σ',S,y,q⟩:=p
 refine ⟨ρ',σ',S,y,?_⟩
 cases fl with
 | next=>exact k _ _ q
 | ret v=>refine ex1 q fun a h1z=>?_;(try clear q);refine an2 h1z fun r z=>?_;clear h1z;exact ⟨a,r,l _ _ z⟩
 | _=>exact q
theorem XSPost.mono {v:Value} (k:∀ x ρ σ,X x ρ σ->X' x ρ σ) (p:XSPost c σ s X v s'):XSPost c σ s X' v s':=let ⟨ρ',q⟩:=p;⟨ρ',q.mono fun _ _ z=>k _ _ _ z⟩
theorem WSs.mono {ss:List Stmt} (g:WSs c ρ ss σ N R X) (k:∀ ρ σ,N ρ σ->N' ρ σ) (l:∀ a σ,R a σ->R' a σ) (m:∀ x ρ σ,X x ρ σ->X' x ρ σ):WSs c ρ ss σ N' R' X':=fun s S =>
 Zm (g s S) (fun _ _ p=>p.mono k l) fun _ _ p=>p.mono m
theorem g9 (q:N ρ σ):WSs c ρ [] σ N R X:=fun s S=>wpAny_execs_nil ⟨ρ,σ,S,.refl ..,q⟩
theorem af {st:Stmt}{rest:List Stmt} (g:WS c ρ st σ (KS c rest N R X) R X):WSs c ρ (st::rest) σ N R X:=fun s S=>by
 refine wpAny_execs_cons (Zm (g s S) (fun fl s₁ p=>?_) fun _ _ z=>z)
 obtain ⟨ρ₁,σ₁,S₁,y,q⟩:=p
 cases fl with
 | next=>exact Zm (q s₁ S₁) (fun _ _ z=>z.after y) fun _ _ z=>z.after y
 | ret v=>exact ⟨ρ₁,σ₁,S₁,y,q⟩
 | _=>exact q.elim
theorem Go.useS {α β:Type}{RR:Heap->α->β->Prop}{t:Sem α}{K:β->AState->Prop}{P:α->Shared->Prop} (g:Go RR c ρ t σ K (XAt X ρ)) (S:St c ρ σ s.heap)
  (k:∀ v s₁ a σ₁,RR s₁.heap v a->St c ρ σ₁ s₁.heap->Step c σ s σ₁ s₁->K a σ₁->P v s₁):wpAny (model c.prog c.w) c.A t P (XSPost c σ s X) s :=
 Zm (g s S) (fun v s₁ p=>by obtain ⟨a,σ₁,r,S₁,y,q⟩:=p;exact k v s₁ a σ₁ r S₁ y q) fun _ _ z=>z.toS
theorem bq {x:Str}{p' p:Pos}{value:Expr} (hf:c.fn=true) (g:Ev c ρ value σ (KPut ρ x N) (XAt X ρ))
  (hs:swapsWith value (some (.Name x p')) p.line c.env=pure false:=by walk_at "u"):WS c ρ (.Assign [.Name x p'] value p) σ N R X:=fun s S=>by
 refine wpAny_Assign_Name ?_ hs
 refine g.useS S fun v s₁ a σ₁ r S₁ y q=>?_
 obtain ⟨ρ',pp,q⟩:=q
 exact bc S₁ pp r (.inl hf) fun s₂ S₂ y₂=>⟨ρ',σ₁,S₂,y.trans y₂,q⟩
theorem oQ {e:Expr}{p:Pos} (g:Ev c ρ e σ R (XAt X ρ)):WS c ρ (.Return (some e) p) σ N R X:=fun s S=>by
 refine wpAny_Return_some ?_
 exact g.useS S fun v s₁ a σ₁ r S₁ y q=>⟨ρ,σ₁,S₁,y,a,r,q⟩
theorem el {p:Pos} (q:R .none σ):WS c ρ (.Return none p) σ N R X:=fun s S=>wpAny_Return_none ⟨ρ,σ,S,.refl ..,.none,.none,q⟩
theorem qy {t:Expr}{b o:List Stmt}{p:Pos} (g:Tst c ρ t σ (KIfS c ρ b o N R X) (XAt X ρ)):WS c ρ (.If t b o p) σ N R X:=fun s S=>by
 refine wpAny_If ?_
 refine g.useS S fun z s₁ a σ₁ r S₁ y q=>?_
 cases r
 cases z
 ·exact Zm (q s₁ S₁) (fun _ _ z=>z.after y) fun _ _ z=>z.after y
 ·exact Zm (q s₁ S₁) (fun _ _ z=>z.after y) fun _ _ z=>z.after y
theorem rK {e:Expr}{p:Pos} (g:Ev c ρ e σ (fun a σ'=>a=.none/\N ρ σ') (XAt X ρ)) (hi:interactive c.env=false) (hs:swapsWith e none p.line c.env=pure false:=by walk_at "u"):WS c ρ (.Expr e p) σ N R X:=fun s S=>by
 refine wpAny_Expr ?_ hi hs
 refine g.useS S fun v s₁ a σ₁ r S₁ y q=>?_
 obtain ⟨rfl,q⟩:=q
 cases r
 exact ⟨ρ,σ₁,S₁,y,q⟩
theorem eX {x:Str}{p' p:Pos}{value:Expr}{rest:List Stmt} (hf:c.fn=true) (g:Ev c ρ value σ (KPut ρ x (KS c rest N R X)) (XAt X ρ))
  (hs:swapsWith value (some (.Name x p')) p.line c.env=pure false:=by walk_at "u"):WSs c ρ (.Assign [.Name x p'] value p::rest) σ N R X:=af (bq hf g hs)
theorem kC {t:Expr}{b o rest:List Stmt}{p:Pos} (g:Tst c ρ t σ (KIfS c ρ b o (KS c rest N R X) R X) (XAt X ρ)):WSs c ρ (.If t b o p::rest) σ N R X:=af (qy g)
theorem ky {e:Expr}{p:Pos}{rest:List Stmt} (g:Ev c ρ e σ R (XAt X ρ)):WSs c ρ (.Return (some e) p::rest) σ N R X:=af (oQ g)
end
section
variable {c:Cx}{ρ ρ':List NV}{σ σ₀ σ₁ σ' τ:AState}{h h' B:Heap}{s s₀ s₁ s':Shared}{P:Addr->Prop}
theorem St.slots (S:St c ρ σ h) (k:∀ b o,¬ P b->h.get? b=some o->∃ sl,h'.get? b=some { o with slots:=sl }) (k2:∀ b o,¬ P b->b∉c.frames->h.get? b=some o->h'.get? b=some o)
  (hP:∀ b,P b->c.G.get? b=none/\σ b=none/\b∉c.own/\b∉c.frames/\∀ x∈c.env.cells,b≠x.2)
  (hT:∀ b o,P b->h.get? b=some o->o.cls=.type "tuple" -> ∀ xs n,o.data≠.seq xs n):St c ρ σ h':=by
 have t:TupKept h h':=fun b o e q d=>by
  have np:¬ P b:=fun z=>by obtain ⟨xs,n,d⟩:=d;exact hT b o z e q xs n d
  obtain ⟨sl,e'⟩:=k b o np e
  exact ⟨_,e',q,rfl⟩
 have nsK:∀ (a:Addr) (m:Str->Option Value),¬ P a->h.Ns a m->h'.Ns a m:=fun a m np z=>by
  obtain ⟨o,es,ep,ho,r⟩:=z
  obtain ⟨sl,e'⟩:=k a o np ho
  exact ⟨_,es,ep,e',r⟩
 have lp:¬ P c.env.locals:=fun z=>(hP _ z).2.2.1 S.ok.locIn
 have cp:∀ x∈c.env.cells,¬ P x.2:=fun x hx z=>(hP _ z).2.2.2.2 x hx rfl
 have clK:∀ (a:Addr) (v:Option Value),¬ P a->h.IsCell a v->h'.IsCell a v:=fun a v np z=>by
  obtain ⟨o,ho,d⟩:=z
  obtain ⟨sl,e'⟩:=k a o np ho
  exact ⟨_,e',d⟩
 refine ⟨S.ok,fun a o e=>?_,bH S.frames fun b hb o e=>?_,S.names,?_,fun x hx=>?_,fun e he a ha=>?_,fun a o e=>?_,S.off,fun b hb=>?_⟩
 ·have np:¬ P a:=fun z=>by rw [(hP a z).1] at e;cases e
  refine k2 a o np (fun z=>?_) (S.base a o e)
  rw [(Heap.FunFrames.mem S.frames z).1] at e;cases e
 ·have np:¬ P b:=fun z=>(hP b z).2.2.2.1 hb
  obtain ⟨sl,e'⟩:=k b o np e
  exact ⟨_,e',rfl⟩
 ·obtain ⟨m,n⟩:=S.locs;exact ⟨m,nsK _ _ lp n⟩
 ·obtain ⟨v,y⟩:=S.cellsAt x hx;exact ⟨v,clK _ _ (cp x hx) y⟩
 ·obtain ⟨v⟩|⟨y,r⟩:=(S.vars e he a ha)
  refine ⟨v,?_,r.keep t⟩
  revert y
  cases e.kind with
  | «local»=>intro r1z;refine ex1 r1z fun m h2z=>?_;(try clear r1z);refine an2 h2z fun n q=>?_;clear h2z;exact ⟨m,nsK _ _ lp n,q⟩
  | cell=>intro r2z;refine ex1 r2z fun b h3z=>?_;(try clear r2z);refine an2 h3z fun l y=>?_;clear h3z;exact ⟨b,l,clK _ _ (cp _ (mem_of_lookup l)) y⟩
  | free=>intro r3z;refine ex1 r3z fun b h4z=>?_;(try clear r3z);refine an2 h4z fun l y=>?_;clear h4z;exact ⟨b,l,clK _ _ (cp _ (mem_of_lookup l)) y⟩
  | _=>intro y;exact y.elim
 ·have np:¬ P a:=fun z=>by rw [(hP a z).2.1] at e;cases e
  exact (S.obj a o e).keepB t fun ob q=>k2 a ob np (S.off a o e).2.2.1 q
 ·obtain ⟨g,o,q,n⟩:=S.ownNew b hb
  have np:¬ P b:=fun z=>(hP b z).2.2.1 hb
  obtain ⟨sl,e'⟩:=k b o np q
  exact ⟨g,_,e',n⟩
theorem St.frameL (S:St c ρ σ h) (hf:c.fn=true):∃ L,c.fenv.frame=some L/\L∈c.frames:=by
 refine an3 S.frames fun _ h5z _=>?_
 obtain ⟨L,_,hL,_⟩:=h5z
 exact ⟨L,hL,by unfold Cx.frames;rw [filterMap_cons,hL];exact .head _⟩
theorem eh (f:Array Value->Array Value) (o:Obj):(Obj.mapFields f o).dict=o.dict/\(Obj.mapFields f o).slots=o.slots:=by
 obtain ⟨c0,d0,dt,sl⟩:=o
 cases dt<;>exact ⟨rfl,rfl⟩
theorem cu {e:Addr}{x:AExc}{fl:Option Value}{L:Addr}{Pu:Unit->Shared->Prop}{E:Value->Shared->Prop} (S:St c ρ σ s.heap) (hf:c.fn=true) (F:Flies c σ s₀ e x fl s.heap B P) (y:Step c σ₀ s₀ σ s) (hL:c.fenv.frame=some L)
  (hfl:fl=none\/fl=some .none\/∃ L,c.fenv.frame=some L/\fl=some (rawInt L))
  (k:∀ s' B' P',St c ρ σ s'.heap->Step c σ₀ s₀ σ s'->Flies c σ s₀ e x (some (rawInt L)) s'.heap B' P'->Pu () s'):wpAny (model c.prog c.w) c.A (noteFrame (.ref e) c.env) Pu E s:=by
 rw [S.ok.fnEnv hf]
 obtain ⟨oe,vs,d,md,he,hcls,hds,hdat,hsf,hns,hwa⟩:=F.here
 have hdict:=hds.1
 have hslots:=hds.2
 have hsz:=hsf.1
 have hfr:=hsf.2
 have hw:=hwa.1
 have ha:=hwa.2.1
 have hfx:=hwa.2.2
 have hLf:L∈c.frames:=by unfold Cx.frames;rw [filterMap_cons,hL];exact .head _
 clear hwa
 by_cases hsame:fl=some (rawInt L)
 ·clear hfl
  subst hsame
  obtain ⟨T,oT,ts⟩|⟨h1,hPT,hTe,hT,hdT,h3⟩:=hfx
  unfold noteFrame
  simp only [hL]
  refine Zb (wpAny_field he hdat h1 ?_)
  rw [if_pos (show (Value.ref T != Value.none)=true from by simp)]
  refine Zb (wpAny_field hT hdT h3 ?_)
  rw [if_pos (show (rawInt L == rawInt L)=true from by simp)]
  exact Zp (k s B P S y F)
 ·have hnone:fl=none\/fl=some .none:=by
   rcases hfl with h | h | ⟨L',h1,h2⟩
   ·exact .inl h
   ·exact .inr h
   ·rw [hL] at h1;cases h1;exact absurd h2 hsame
  have part:∀ (s₁:Shared) (head:Value) (hadNext:Bool),s₁.gens=s.gens->s₁.os=s.os->(∀ b,¬ P b->s₁.heap.get? b=s.heap.get? b)->s₁.heap.get? e=some oe->(∀ b o,P b->s₁.heap.get? b=some o->o.cls=.type "tuple" -> ∀ xs n,o.data≠.seq xs n) ->
    (∀ b,(s.heap.get? b).isSome=(s₁.heap.get? b).isSome) ->
    wpAny (model c.prog c.w) c.A (do setField (.ref e) 1 (<- EntryCells.newEntry head (<- frameOf c.fenv) .none (rawInt L) .none (<- entryPlaceOf L hadNext))) Pu E s₁:=by
   intro s₁ head hadNext hg ho hk he₁ hnt hsome
   have SF:s₁.heap.FunFrames c.G (c.fenv::c.outer):=bH S.frames fun b hb o q=>⟨o,(hk b fun z=>(F.new b z).2.2.2.2.1 hb).trans q,rfl⟩
   refine Zb (wpAny_frameOf_fun S.ok.fr SF hL fun h₂ hs₂=>?_)
   refine Zb (wpAny_entryPlaceOf fun pl hpl=>?_)
   unfold EntryCells.newEntry newFields
   refine Zb (wpAny_newObj_type ?_ (hpl.sizeOk5 _ _ _ _ _))
   have hef:e∉c.frames:=(F.new e F.own).2.2.2.2.1
   have he₂:h₂.get? e=some oe:=(hs₂.2.1 e hef).trans he₁
   generalize hoT:({ cls:=.type "traceback",dict:=none,data:=.fields ([head,.ref L,.none,rawInt L,.none]++(if pl.isEmpty then List.replicate 6 Value.none else pl)).toArray }:Obj)=oT
   have he₃:=Zu (h:=h₂) oT he₂
   refine wpAny_setField he₃ hdat hsz ?_
   have hTe:h₂.objs.size≠e:=Nat.ne_of_gt (Heap.lt_size he₂)
   have hd₄:=Obj.data_mapFields hdat (·.setIfInBounds 1 (Value.ref h₂.objs.size))
   have he₄:=Heap.get?_update_self (Obj.mapFields (·.setIfInBounds 1 (Value.ref h₂.objs.size))) he₃ (Obj.isFreed_of_fields hd₄)
   have hnew:h₂.get? h₂.objs.size=none:=ag h₂
   have hnew₁:s₁.heap.get? h₂.objs.size=none:=by rw [hs₂.1];exact ag _
   have hnew0:s.heap.get? h₂.objs.size=none:=by
    have:=hsome h₂.objs.size
    rw [hnew₁] at this
    simpa using this
   have hTfree:oT.isFreed=false:=by rw [<- hoT];rfl
   have hT₄:((h₂.push oT).update e (Obj.mapFields (·.setIfInBounds 1 (Value.ref h₂.objs.size)))).get? h₂.objs.size=some oT :=
    (Heap.get?_update_other _ _ (Ne.symm hTe)).trans (Zz _ hTfree)
   have other:∀ b,b≠e->b≠h₂.objs.size->((h₂.push oT).update e (Obj.mapFields (·.setIfInBounds 1 (Value.ref h₂.objs.size)))).get? b=h₂.get? b:=fun b h1 h2=>by
    rw [Heap.get?_update_other _ _ (Ne.symm h1)]
    cases q:h₂.get? b with
    | some o=>exact Zu _ q
    | none =>
     cases q2:(h₂.push oT).get? b with
     | none=>rfl
     | some o =>
      have l:=Heap.lt_size q2
      rw [Heap.size_push] at l
      have l2:b < h₂.objs.size:=Nat.lt_of_le_of_ne (Nat.lt_succ_iff.mp l) h2
      obtain ⟨e1,e2⟩:=Heap.get?_some_iff.mp q2
      have:h₂.get? b=some o:=Heap.get?_some_iff.mpr ⟨by
       obtain ⟨objs,lf⟩:=h₂
       simp only [Heap.push,Array.getElem?_push] at e1
       rw [if_neg (by intro z;subst z;exact h2 rfl)] at e1
       exact e1,e2⟩
      rw [q] at this;cases this
   generalize hh₄:(h₂.push oT).update e (Obj.mapFields (·.setIfInBounds 1 (Value.ref h₂.objs.size)))=h₄ at other he₄ hT₄ ⊢
   have nf:=S.new_off hnew0
   have hs0:s₀.heap.get? h₂.objs.size=none:=by
    cases q:s₀.heap.get? h₂.objs.size with
    | none=>rfl
    | some o=>obtain ⟨o',q'⟩:=y.there _ _ q;rw [hnew0] at q';cases q'
   have hB:B.get? h₂.objs.size=none:=by
    cases q:B.get? h₂.objs.size with
    | none=>rfl
    | some o=>have:=F.stays _ _ q;rw [hnew0] at this;cases this
   have newP:∀ b,P b\/b=h₂.objs.size->s₀.heap.get? b=none/\B.get? b=none/\σ b=none/\b∉c.own/\b∉c.frames/\∀ x∈c.env.cells,b≠x.2:=by
    rintro b (hb | rfl)
    ·exact F.new b hb
    ·exact ⟨hs0,hB,S.none_of hnew0,nf.2.1,nf.2.2.1,nf.2.2.2⟩
   have k1:∀ b o,¬ (P b\/b=h₂.objs.size)->s.heap.get? b=some o->∃ sl,h₄.get? b=some { o with slots:=sl }:=fun b o np q=>by
    have n1:¬ P b:=fun z=>np (.inl z)
    have n2:b≠e:=fun z=>n1 (z ▸ F.own)
    obtain ⟨sl,q2⟩:=hs₂.2.2 b o ((hk b n1).trans q)
    exact ⟨sl,(other b n2 fun z=>np (.inr z)).trans q2⟩
   have k2:∀ b o,¬ (P b\/b=h₂.objs.size)->b∉c.frames->s.heap.get? b=some o->h₄.get? b=some o:=fun b o np nfr q=>by
    have n1:¬ P b:=fun z=>np (.inl z)
    have n2:b≠e:=fun z=>n1 (z ▸ F.own)
    exact (other b n2 fun z=>np (.inr z)).trans ((hs₂.2.1 b nfr).trans ((hk b n1).trans q))
   have S₄:St c ρ σ h₄:=S.slots (P:=fun b=>P b\/b=h₂.objs.size) k1 k2 (fun b hb=>by
     refine an6 (newP b hb) fun _ n2 n3 n4 n5 n6=>?_
     refine ⟨?_,n3,n4,n5,n6⟩
     cases q:c.G.get? b with
     | none=>rfl
     | some o=>have:=F.base b o q;rw [n2] at this;cases this) fun b o hb q=>by
    rcases hb with hb | rfl
    ·exact F.noTup b o hb q
    ·rw [hnew0] at q;cases q
   refine k _ B (fun b=>P b\/b=h₂.objs.size) S₄ ⟨fun b o q n1 n2=>?_,fun b o q=>?_,y.grow,hg.trans y.gens,ho.trans y.os⟩
    ⟨F.base,fun b o q=>?_,newP,fun b o q=>?_,F.off,.inl F.own,fun b o hb q=>?_,?_⟩
   ·obtain ⟨sl⟩|⟨q',fx⟩:=(y.kept b o q n1 n2)
    have np:¬ (P b\/b=h₂.objs.size):=by
     rintro (z | rfl)
     ·rw [(F.new b z).1] at q;cases q
     ·rw [hs0] at q;cases q
    obtain ⟨sl',q2⟩:=k1 b _ np q'
    refine ⟨sl',q2,fun nf=>?_⟩
    have:=k2 b _ np nf q'
    rw [q2] at this
    exact (congrArg Obj.slots (Option.some.inj this)).trans (fx nf)
   ·obtain ⟨o',q'⟩:=y.there b o q
    by_cases np:P b\/b=h₂.objs.size
    ·rw [(newP b np).1] at q;cases q
    ·obtain ⟨sl',q2⟩:=k1 b _ np q'
     exact ⟨_,q2⟩
   ·by_cases np:P b\/b=h₂.objs.size
    ·exact .inr (.inr np)
    ·by_cases fr:b∈c.frames
     ·exact .inl fr
     ·have n1:¬ P b:=fun z=>np (.inl z)
      have n2:b≠e:=fun z=>n1 (z ▸ F.own)
      have:s.heap.get? b=some o:=by
       rw [<- hk b n1,<- hs₂.2.1 b fr,<- other b n2 fun z=>np (.inr z)];exact q
      rcases F.all b o this with z | z | z
      ·exact .inl z
      ·exact .inr (.inl z)
      ·exact absurd z n1
   ·have np:¬ (P b\/b=h₂.objs.size):=fun z=>by rw [(newP b z).2.1] at q;cases q
    exact k2 b o np (fun z=>by rw [F.off b z] at q;cases q) (F.stays b o q)
   ·have tr:h₄.get? h₂.objs.size=some o->o.cls=.type "tuple" -> ∀ xs n,o.data≠.seq xs n:=fun q=>by
     rw [hT₄] at q;cases q
     intro q;rw [<- hoT] at q;exact absurd q (by simp)
    by_cases w:b=h₂.objs.size
    ·subst w;exact tr q
    ·have hb:=hb.resolve_right w
     by_cases z:b=e
     ·have ez:some _=some o:=he₄.symm.trans (z ▸ q)
      intro _ xs n d'
      rw [<- Option.some.inj ez,hd₄] at d';cases d'
     ·have q2:s₁.heap.get? b=some o:=by
       rw [<- hs₂.2.1 b (F.new b hb).2.2.2.2.1,<- other b z w]
       exact q
      exact hnt b o hb q2
   ·refine ⟨_,_,d,md,he₄,(Obj.cls_mapFields _ _).trans hcls,?_,hd₄,⟨by simpa using hsz,fun z=>by have:=hfr z;simpa [Array.getElem?_setIfInBounds] using this⟩,hns,hw,ha,h₂.objs.size,oT,_,by simp [hsz],.inr rfl,hTe,hT₄,by rw [<- hoT],?_⟩
    ·exact ⟨(eh _ _).1.trans hdict,(eh _ _).2.trans hslots⟩
    ·simp
  unfold noteFrame
  simp only [hL]
  clear hfl hsame
  rcases hnone with rfl | rfl
  ·refine Zb (wpAny_field he hdat hfx ?_)
   rw [if_neg (by decide)]
   exact part s .none _ rfl rfl (fun _ _=>rfl) he F.noTup fun _=>rfl
  ·obtain ⟨T,oT,ts⟩|⟨h1,hPT,hTe,hT,hdT,h3⟩:=hfx
   refine Zb (wpAny_field he hdat h1 ?_)
   rw [if_pos (show (Value.ref T != Value.none)=true from by simp)]
   refine Zb (wpAny_field hT hdT h3 ?_)
   rw [if_neg (show ¬ ((Value.none == rawInt L)=true) from by simp [rawInt])]
   refine Zb (wpAny_setField hT hdT (Array.getElem?_eq_some_iff.mp h3).1 ?_)
   have hdT':=Obj.data_mapFields hdT (·.setIfInBounds 3 Value.none)
   have selfT:=Heap.get?_update_self (Obj.mapFields (·.setIfInBounds 3 Value.none)) hT (Obj.isFreed_of_fields hdT')
   have other:∀ b,b≠T->(s.heap.update T (Obj.mapFields (·.setIfInBounds 3 Value.none))).get? b=s.heap.get? b:=fun b hb=>Heap.get?_update_other _ _ (Ne.symm hb)
   refine part { s with heap:=s.heap.update T (Obj.mapFields (·.setIfInBounds 3 Value.none)) } (.ref T) _ rfl rfl (fun b np=>other b fun z=>np (z ▸ hPT)) ((other e (Ne.symm hTe)).trans he) (fun b o hb q=>?_) fun b=>?_
   ·by_cases z:b=T
    ·have ez:some _=some o:=selfT.symm.trans (z ▸ q)
     intro _ xs n d'
     rw [<- Option.some.inj ez,hdT'] at d';cases d'
    ·exact F.noTup b o hb ((other b z).symm.trans q)
   ·by_cases z:b=T
    ·show _=((s.heap.update T (Obj.mapFields (·.setIfInBounds 3 Value.none))).get? b).isSome
     rw [z,selfT,hT];rfl
    ·show _=((s.heap.update T (Obj.mapFields (·.setIfInBounds 3 Value.none))).get? b).isSome
     rw [other b z]
theorem bt {e:Addr}{x:AExc}{fl:Option Value}{fr:Option Addr}{Pu:Unit->Shared->Prop}{E:Value->Shared->Prop} (S:St c ρ σ s.heap) (F:Flies c σ s₀ e x fl s.heap B P) (y:Step c σ₀ s₀ σ s)
  (k:∀ s',St c ρ σ s'.heap->Step c σ₀ s₀ σ s'->Flies c σ s₀ e x (fl.map fun _=>fr.elim .none fun f=>rawInt f) s'.heap B P->Pu () s'):wpAny (model c.prog c.w) c.A (setFlight (.ref e) fr) Pu E s:=by
 obtain ⟨oe,vs,d,md,he,hcls,hds,hdat,hsf,hns,hwa⟩:=F.here
 have hdict:=hds.1
 have hslots:=hds.2
 have hsz:=hsf.1
 have hfr:=hsf.2
 have hw:=hwa.1
 have ha:=hwa.2.1
 have hfx:=hwa.2.2
 unfold setFlight
 cases fl with
 | none =>
  refine Zb (wpAny_field he hdat hfx ?_)
  rw [if_neg (by decide)]
  exact Zp (k s S y F)
 | some f =>
  obtain ⟨T,oT,ts⟩|⟨h1,hPT,hTe,hT,hdT,h3⟩:=hfx
  refine Zb (wpAny_field he hdat h1 ?_)
  rw [if_pos (show (Value.ref T != Value.none)=true from by simp)]
  refine wpAny_setField hT hdT (Array.getElem?_eq_some_iff.mp h3).1 ?_
  have hdT':=Obj.data_mapFields hdT (·.setIfInBounds 3 (fr.elim .none fun f=>rawInt f))
  have selfT:=Heap.get?_update_self (Obj.mapFields (·.setIfInBounds 3 (fr.elim .none fun f=>rawInt f))) hT (Obj.isFreed_of_fields hdT')
  have other:∀ b,b≠T->(s.heap.update T (Obj.mapFields (·.setIfInBounds 3 (fr.elim .none fun f=>rawInt f)))).get? b=s.heap.get? b:=fun b hb=>Heap.get?_update_other _ _ (Ne.symm hb)
  have np:∀ b,¬ P b->b≠T:=fun b n z=>n (z ▸ hPT)
  refine k _ (S.slots (P:=P) (fun b o n q=>⟨o.slots,(other b (np b n)).trans q⟩) (fun b o n _ q=>(other b (np b n)).trans q) (fun b hb=>?_) F.noTup) ⟨fun b o q n1 n2=>?_,fun b o q=>?_,y.grow,y.gens,y.os⟩
   ⟨F.base,fun b o q=>?_,F.new,fun b o q=>?_,F.off,F.own,fun b o hb q=>?_,?_⟩
  ·refine an6 (F.new b hb) fun _ n2 n3 n4 n5 n6=>?_
   refine ⟨?_,n3,n4,n5,n6⟩
   cases q:c.G.get? b with
   | none=>rfl
   | some o=>have:=F.base b o q;rw [n2] at this;cases this
  ·obtain ⟨sl⟩|⟨q',fx⟩:=(y.kept b o q n1 n2)
   refine ⟨sl,?_,fx⟩
   exact (other b fun z=>by rw [z,(F.new T hPT).1] at q;cases q).trans q'
  ·obtain ⟨o',q'⟩:=y.there b o q
   exact ⟨o',(other b fun z=>by rw [z,(F.new T hPT).1] at q;cases q).trans q'⟩
  ·by_cases z:b=T
   ·exact .inr (.inr (z ▸ hPT))
   ·exact F.all b o ((other b z).symm.trans q)
  ·exact (other b fun z=>by rw [z,(F.new T hPT).2.1] at q;cases q).trans (F.stays b o q)
  ·by_cases z:b=T
   ·subst z
    have q:(s.heap.update b (Obj.mapFields (·.setIfInBounds 3 (fr.elim .none fun f=>rawInt f)))).get? b=some o:=q
    rw [selfT] at q;cases q
    intro _ xs n d';rw [hdT'] at d';cases d'
   ·exact F.noTup b o hb ((other b z).symm.trans q)
  ·exact ⟨oe,vs,d,md,(other e (Ne.symm hTe)).trans he,hcls,⟨hdict,hslots⟩,hdat,⟨hsz,hfr⟩,hns,hw,ha,T,_,_,h1,hPT,hTe,selfT,hdT',by
    have:=(Array.getElem?_eq_some_iff.mp h3).1
    simp [this]⟩
theorem eC {X:AExc->List NV->AState->Prop}{v:Value} (hf:c.fn=true) (p:XSPost c σ₀ s₀ X v s) :
  notedBy (model c.prog c.w) c.A c.env (fun e s'=>cameBackBy (model c.prog c.w) c.A c.env (XSPost c σ₀ s₀ X) e s') v s:=by
 obtain ⟨ρ',e,x,σ',rfl,S,y,⟨fl,B,P,F,hfl⟩,q⟩:=p
 obtain ⟨L⟩|⟨hL,_⟩:=(S.frameL hf)
 unfold notedBy
 refine cu S hf F y hL hfl fun s' B' P' S' y' F'=>?_
 unfold cameBackBy
 refine F'.here.tr fun oe vs T he hdat h1=>?_
 refine Zb (wpAny_field he hdat h1 ?_)
 rw [if_neg (by simp)]
 rw [S'.ok.fnEnv hf,hL]
 exact bt S' F' y' fun s'' S'' y'' F''=>⟨ρ',e,x,σ',rfl,S'',y'',⟨_,B',P',F'',.inr (.inr ⟨L,hL,rfl⟩)⟩,q⟩
end
structure ItK (c:Cx) (target:Expr) where
 need:AState->Prop
 ads:List Addr
 holds:Heap->List AVal->Prop
 it:Addr
 next:∀ {ρ:List NV}{σ:AState}{s:Shared}{v:AVal}{rest:List AVal}{P:Value->Shared->Prop}{P₀:Shared->Prop}{E E':Value->Shared->Prop},St c ρ σ s.heap->need σ->holds s.heap (v::rest) ->
  (∀ val h' t,VR h' val v->holds h' rest->(∀ b o,b∉ads->s.heap.get? b=some o->h'.get? b=some o)->(∀ b∈ads,∃ o,h'.get? b=some o/\∀ xs n,o.data≠.seq xs n)->P val { s with heap:=h',toks:=t }) ->
   wpAny (model c.prog c.w) c.A (pyNext (.ref it)) (fun r s₁=>match r with | none=>P₀ s₁ | some v=>wpAny (model c.prog c.w) c.A (letOwnedTupleGo target (.ref it) v) (fun _ s₂=>P v s₂) E' s₁) E s
 stop:∀ {ρ:List NV}{σ:AState}{s:Shared}{P:Option Value->Shared->Prop}{E:Value->Shared->Prop},St c ρ σ s.heap->need σ->holds s.heap [] ->
  (∀ h' t,(∀ b o,b∉ads->s.heap.get? b=some o->h'.get? b=some o)->P none { s with heap:=h',toks:=t })->wpAny (model c.prog c.w) c.A (pyNext (.ref it)) P E s
 self:∀ {ρ:List NV}{σ:AState}{s:Shared}{items:List AVal}{P:Value->Shared->Prop}{E:Value->Shared->Prop},St c ρ σ s.heap->need σ->holds s.heap items->P (.ref it) s->wpAny (model c.prog c.w) c.A (pyIter (.ref it)) P E s
 keep:∀ {h h':Heap}{items:List AVal},holds h items->(∀ b∈ads,∀ o,h.get? b=some o->h'.get? b=some o)->TupKept h h'->holds h' items
structure ItK.Off {c:Cx}{target:Expr} (K:ItK c target) (σ:AState) (h:Heap):Prop where
 sig:∀ b∈K.ads,σ b=none/\c.G.get? b=none/\b∉c.own/\b∉c.frames/\∀ x∈c.env.cells,b≠x.2
 at_:∀ b∈K.ads,∃ o,h.get? b=some o/\∀ xs n,o.data≠.seq xs n
section
variable {c:Cx}{target:Expr}{ρ ρ':List NV}{σ σ₀ σ₁ σ' τ:AState}{h h' B:Heap}{s s₀ s₁ s':Shared}{N:List NV->AState->Prop}{R:AVal->AState->Prop}{X:AExc->List NV->AState->Prop}
theorem b4 {prog:Program}{w:World}{A:Around}{E:Value->Shared->Prop}{I:Addr}{o:Obj}{T:String}{v:Value}{Q':Unit->Shared->Prop} (ho:s.heap.get? I=some o) (hc:o.cls=.type T)
  (hT:["enumerate", "zip", "dict_itemiterator", "dict_reverseitemiterator", "odict_iterator", "itertools.zip_longest", "itertools.pairwise"].contains T=false) (h:Q' () s) :
  wpAny (model prog w) A (letOwnedTupleGo target (.ref I) v) Q' E s:=by
 unfold letOwnedTupleGo
 cases target<;>first
  | exact Zp h
  | (cases v<;>first
    | exact Zp h
    | (refine Zb (wpAny_load ho ?_)
       rw [hc]
       cases o.data<;>first
        | exact Zp h
        | (simp only [hT,Bool.false_and,Bool.false_eq_true,if_false];exact Zp h)))
theorem ItK.Off.step {K:ItK c target} (O:K.Off σ s.heap) (y:Step c σ s σ' s'):K.Off σ' s'.heap:=by
 refine ⟨fun b hb=>?_,fun b hb=>?_⟩
 ·obtain ⟨o⟩|⟨e,_⟩:=(O.at_ b hb)
  obtain ⟨a1,a2⟩:=O.sig b hb
  exact ⟨y.grow b o e a1,a2⟩
 ·obtain ⟨o⟩|⟨e,n⟩:=(O.at_ b hb)
  refine an5 (O.sig b hb) fun a1 a2 a3 a4 _=>?_
  exact ⟨_,y.exact e a1 a3 a4,n⟩
theorem d4 {K:ItK c target} (O:K.Off σ h) (k:∀ b o,b∉K.ads->h.get? b=some o->h'.get? b=some o):TupKept h h':=fun b o e q d=>by
 by_cases z:b∈K.ads
 ·obtain ⟨o'⟩|⟨e',n⟩:=(O.at_ b z)
  rw [e] at e';cases e';obtain ⟨xs,m,d⟩:=d;exact absurd d (n xs m)
 ·exact ⟨o,k b o z e,q,rfl⟩
theorem St.advance {K:ItK c target} (S:St c ρ σ h) (O:K.Off σ h) (k:∀ b o,b∉K.ads->h.get? b=some o->h'.get? b=some o):St c ρ σ h' :=
 S.move (W:=fun b=>b∈K.ads) k (fun b hb=>(O.sig b hb).2.1) (fun b hb z=>(O.sig b z).2.2.1 hb) (fun b hb z=>(O.sig b z).2.2.2.1 hb) (fun x hx z=>(O.sig _ z).2.2.2.2 x hx rfl)
  (fun b o e z=>by rw [(O.sig b z).1] at e;cases e) (d4 O k)
theorem Step.advance {K:ItK c target}{t:Nat} (y:Step c σ₀ s₀ σ s) (O:K.Off σ s.heap) (n:∀ b∈K.ads,s₀.heap.get? b=none) (k:∀ b o,b∉K.ads->s.heap.get? b=some o->h'.get? b=some o):Step c σ₀ s₀ σ { s with heap:=h',toks:=t }:=by
 refine ⟨fun b o e q z=>?_,fun b o e=>?_,y.grow,y.gens,y.os⟩
 ·obtain ⟨sl⟩|⟨e',f⟩:=(y.kept b o e q z)
  exact ⟨sl,k b _ (fun w=>by rw [n b w] at e;cases e) e',f⟩
 ·obtain ⟨o',e'⟩:=y.there b o e
  exact ⟨o',k b _ (fun w=>by rw [n b w] at e;cases e) e'⟩
theorem ItK.keepStep {K:ItK c target}{items:List AVal} (H:K.holds s.heap items) (O:K.Off σ s.heap) (y:Step c σ s σ' s') (t:TupKept s.heap s'.heap):K.holds s'.heap items :=
 K.keep H (fun b hb o e=>an5 (O.sig b hb) fun a1 _ a3 a4 _=>y.exact e a1 a3 a4) t
inductive APost (c:Cx) (σ:AState) (s:Shared) (N:List NV->AState->Prop) (s₂:Shared):Prop
 | mk (ρ₂:List NV) (σ₂:AState) (S:St c ρ₂ σ₂ s₂.heap) (y:Step c σ s σ₂ s₂) (q:N ρ₂ σ₂)
def Asg (c:Cx) (target:Expr) (v:AVal) (ρ:List NV) (σ:AState) (N:List NV->AState->Prop) (X:AExc->List NV->AState->Prop):Prop :=
 ∀ val s,VR s.heap val v->St c ρ σ s.heap->wpAny (model c.prog c.w) c.A (assign target c.env val) (fun _=>APost c σ s N) (XSPost c σ s X) s
theorem ay {x:Str}{px:Pos}{v:AVal} (hf:c.fn=true) (g:Puts ρ x v N σ):Asg c (.Name x px) v ρ σ N X:=fun val s r S=>by
 obtain ⟨ρ₂,p,g⟩:=g
 refine wpAny_assign_Name ?_
 exact bc S p r (.inl hf) fun s₂ S₂ y₂=>⟨ρ₂,σ,S₂,y₂,g⟩
inductive LocAt (ρ:List NV) (x:Str):Prop
 | mk (e:NV) (m:e∈ρ) (h1:e.name=x) (h2:e.kind=.local)
theorem aT {x:Str}{px:Pos}{v:AVal} (g:Puts ρ x v N σ) (hl:LocAt ρ x):Asg c (.Name x px) v ρ σ N X:=fun val s r S=>by
 obtain ⟨ρ₂,p,g⟩:=g
 refine wpAny_assign_Name ?_
 exact bc S p r (.inr (let ⟨e,m,h1,h2⟩:=hl;⟨e,m,h1,h2⟩)) fun s₂ S₂ y₂=>⟨ρ₂,σ,S₂,y₂,g⟩
def AsgL (c:Cx):List Expr->List AVal->List NV->AState->(List NV->AState->Prop)->(AExc->List NV->AState->Prop)->Prop
 | e::es,v::vs,ρ,σ,N,X=>Asg c e v ρ σ (fun ρ' σ'=>AsgL c es vs ρ' σ' N X) X
 | [],[],ρ,σ,N,_=>N ρ σ
 | _,_,_,_,_,_=>False
theorem js {es:List Expr}{as:List AVal}{vs:List Value}{ρ:List NV}{σ:AState}{s:Shared} (g:AsgL c es as ρ σ N X) (r:VRs s.heap vs as) (S:St c ρ σ s.heap) (hn:∀ e∈es,∃ x p,e=.Name x p) :
  wpAny (model c.prog c.w) c.A (assignInOrder ((assignEach es c.env).map (·.2)) vs) (fun _=>APost c σ s N) (XSPost c σ s X) s:=by
 induction es generalizing as vs ρ σ s with
 | nil=>cases as with
  | nil=>cases r;exact Zp ⟨ρ,σ,S,.refl ..,g⟩
  | cons _ _=>exact g.elim
 | cons e es ih=>cases as with
  | nil=>exact g.elim
  | cons a as =>
  cases r with | @cons v _ vs _ rv rs =>
  refine ex2 (hn e (.head _)) fun x p h5z=>?_
  obtain rfl:=h5z
  refine (?_:wpAny _ _ (holding _ (assign (.Name x p) c.env v) >>= _) _ _ s)
  refine Zb (wpAny_holding (Zm (g v s rv S) (fun _ s₂ q=>?_) fun _ _ z=>z))
  obtain ⟨ρ₂,σ₂,S₂,y₂,g₂⟩:=q
  exact Zm (ih g₂ (rs.keep (y₂.tup S)) S₂ fun e he=>hn e (.tail _ he)) (fun _ s₃ q=>by obtain ⟨ρ₃,σ₃,S₃,y₃,g₃⟩:=q;exact ⟨ρ₃,σ₃,S₃,y₂.trans y₃,g₃⟩) fun _ _ z=>z.after y₂
theorem cZ {es:List Expr}{k:Nat}{p:Pos}{as:List AVal} (g:AsgL c es as ρ σ N X) (hn:∀ e∈es,∃ x p,e=.Name x p) (hl:es.length=as.length)
  (hle:(assignEach es c.env).length=es.length:=by walk_at "u") (hstar:(assignEach es c.env).findIdx? (·.1)=none:=by walk_at "u") (cm:c.calm=true:=by walk_at "cm"):Asg c (.Tuple es k p) (.tup as) ρ σ N X:=fun val s r S=>by
 refine ex4 r.tup_inv fun l ol vs n h7z=>?_
 refine an5 h7z fun h6z e ec ed rs=>?_
 clear h7z
 obtain rfl:=h6z
 have:=rs.length
 refine wpAny_assign_Tuple (S.ok.hd cm) ⟨ol,e,ec,n,ed⟩ (by rw [hle,hl,size_toArray,this]) hstar fun h' hx=>?_
 have kp:∀ b o,s.heap.get? b=some o->h'.get? b=some o:=fun b o q=>hx b o (fun z=>by rw [z,ag] at q;cases q) q
 have y:Step c σ s σ { s with heap:=h' }:=Step.ext (t:=s.toks) kp
 exact Zm (js (s:={ s with heap:=h' }) g (rs.keep (aq kp)) (S.ext kp) hn) (fun _ s₃ q=>by obtain ⟨ρ₃,σ₃,S₃,y₃,g₃⟩:=q;exact ⟨ρ₃,σ₃,S₃,y.trans y₃,g₃⟩) fun _ _ z=>z.after y
theorem oX {K:ItK c target}{body:List Stmt} (hf:c.fn=true) (I:List AVal->List NV->AState->Prop)
  (hn:∀ r ρ σ,I r ρ σ->K.need σ)
  (turn:∀ v rest ρ₁ σ₁,I (v::rest) ρ₁ σ₁->Asg c target v ρ₁ σ₁ (fun ρ₂ σ₂=>WSs c ρ₂ body σ₂ (fun ρ₃ σ₃=>I rest ρ₃ σ₃) R X) X)
  (done:∀ ρ₁ σ₁,I [] ρ₁ σ₁->N ρ₁ σ₁) (items:List AVal) (S:St c ρ σ s.heap) (O:K.Off σ s.heap) (H:K.holds s.heap items) (hi:I items ρ σ) (y:Step c σ₀ s₀ σ s) (n:∀ b∈K.ads,s₀.heap.get? b=none) :
  codeAny (model c.prog c.w) c.A (.forLoop target (.ref K.it) body [] c.env) (fun r s'=>match r with | .ok f=>FPost c σ₀ s₀ N R f s' | .error e=>cameBackBy (model c.prog c.w) c.A c.env (XSPost c σ₀ s₀ X) e s') s:=by
 let JJ:=fun (m:Nat) (s':Shared)=>∃ ρ₁ σ₁ its,St c ρ₁ σ₁ s'.heap/\K.Off σ₁ s'.heap/\K.holds s'.heap its/\I its ρ₁ σ₁/\Step c σ₀ s₀ σ₁ s'/\its.length=m
 refine codeAny_forLoop_any JJ (fun m s' h=>?_) items.length ⟨ρ,σ,items,S,O,H,hi,y,rfl⟩
 obtain ⟨ρ₁,σ₁,its⟩|⟨S₁,O₁,H₁,i₁,y₁,rfl⟩:=h
 cases its with
 | nil =>
  refine K.stop S₁ (hn _ _ _ i₁) H₁ fun h' t k=>?_
  refine wpAny_execs_nil ?_
  exact ⟨ρ₁,σ₁,S₁.advance O₁ k,y₁.advance O₁ n k,done _ _ i₁⟩
 | cons v rest =>
  refine K.next S₁ (hn _ _ _ i₁) H₁ fun val h' t r H' k ka=>?_
  have S₂:St c ρ₁ σ₁ h':=S₁.advance O₁ k
  have y₂:Step c σ₀ s₀ σ₁ { s' with heap:=h',toks:=t }:=y₁.advance O₁ n k
  have O₂:K.Off σ₁ h':=⟨O₁.sig,ka⟩
  have w:=turn v rest ρ₁ σ₁ i₁ val { s' with heap:=h',toks:=t } r S₂
  refine Zm w (fun _ s₂ p=>?_) fun _ _ p=>eC hf (p.after y₂)
  obtain ⟨ρ₂,σ₂,S₃,y₃,g⟩:=p
  have O₃:=ItK.Off.step (s:={ s' with heap:=h',toks:=t }) O₂ y₃
  refine Zm (g s₂ S₃) (fun f s₃ p=>?_) fun _ _ p=>eC hf (p.after (y₂.trans y₃))
  obtain ⟨ρ₃,σ₃,S₄,y₄,q⟩:=p
  have O₄:=O₃.step y₄
  cases f with
  | next =>
   have y34:=y₃.trans y₄
   exact ⟨rest.length,Nat.lt_succ_self _,ρ₃,σ₃,rest,S₄,O₄,ItK.keepStep (s:={ s' with heap:=h',toks:=t }) H' O₂ y34 (y34.tup S₂),q,(y₂.trans y₃).trans y₄,rfl⟩
  | ret v=>exact ⟨ρ₃,σ₃,S₄,(y₂.trans y₃).trans y₄,q⟩
  | _=>exact q.elim
def ItOf (c:Cx) (target:Expr) (a:AVal) (items:List AVal) (need:AState->Prop) (σ:AState):Prop :=
 ∀ (ρ:List NV) (s:Shared) (v:Value) (P:Value->Shared->Prop) (E:Value->Shared->Prop),St c ρ σ s.heap->VR s.heap v a ->
  (∀ (K:ItK c target) s',K.need=need->St c ρ σ s'.heap->Step c σ s σ s'->K.Off σ s'.heap->K.holds s'.heap items->(∀ b∈K.ads,s.heap.get? b=none)->P (.ref K.it) s')->wpAny (model c.prog c.w) c.A (pyIter v) P E s
inductive ForAt (c:Cx) (target:Expr) (ρ:List NV) (body:List Stmt) (N:List NV->AState->Prop) (R:AVal->AState->Prop) (X:AExc->List NV->AState->Prop) (a:AVal) (σ₁:AState):Prop
 | mk (I:List AVal->List NV->AState->Prop) (items:List AVal) (need:AState->Prop) (it:ItOf c target a items need σ₁) (i:I items ρ σ₁) (k:∀ r ρ σ,I r ρ σ->need σ)
   (turn:∀ v rest ρ₁ σ₁,I (v::rest) ρ₁ σ₁->Asg c target v ρ₁ σ₁ (KS c body (I rest) R X) X) (done:∀ ρ₁ σ₁,I [] ρ₁ σ₁->N ρ₁ σ₁)
theorem rL {iter:Expr}{body:List Stmt}{p:Pos} (hf:c.fn=true)
  (g:Ev c ρ iter σ (ForAt c target ρ body N R X) (XAt X ρ))
  (hs:∀ x,foldedSetIterable iter c.env x=pure x:=by with_unfolding_all (intro _;rfl)):WS c ρ (.For target iter body [] p) σ N R X:=fun s S=>by
 refine wpAny_For ?_ hs
 refine g.useS S fun v s₁ a σ₁ r S₁ y q=>?_
 obtain ⟨I,items,need,io,hi,hn,turn,done⟩:=q
 refine io ρ s₁ v _ _ S₁ r fun K s₂ hk S₂ y₂ O H n=>?_
 subst hk
 exact oX hf I hn turn done items S₂ O H hi (y.trans y₂) fun b hb=>by
  cases z:s.heap.get? b with
  | none=>rfl
  | some o=>obtain ⟨o',e'⟩:=y.there b o z;rw [n b hb] at e';cases e'
end
section
variable {c:Cx}{target:Expr}{ρ ρ':List NV}{σ σ₀ σ₁ σ' τ:AState}{h h' B:Heap}{s s₀ s₁ s':Shared}
theorem ar {vs:Array Value}:∀ xs n,Data.fields vs≠.seq xs n:=fun _ _ q=>by cases q
def sN (c:Cx) (cm:c.calm=true) (target:Expr) (l:Addr) (xs:List AVal) (it:Addr):ItK c target where
 need σ:=σ l=some (.list xs)
 ads:=[it]
 holds h items:=∃ i,h.IsListIter it l i/\items=xs.drop i
 it:=it
 next:=by
  intro ρ σ s v rest P P₀ E E' S hl H k
  obtain ⟨i⟩|⟨hit,he⟩:=H
  refine (S.obj l _ hl).list' fun vs n e rs=>?_
  have hx:xs[i]?=some v:=by
   have:=congrArg (fun z=>z[0]?) he
   simpa using this.symm
  have hr:rest=xs.drop (i+1):=by
   have:=congrArg List.tail he
   simpa using this
  obtain ⟨val⟩|⟨hv,r⟩:=(rs.get hx)
  refine wpAny_pyNext_list_item hit ⟨_,e,rfl,_,rfl⟩ (by simpa using hv) fun h' hit' hsb=>?_
  have hne:∃ ob,s.heap.get? it=some ob/\ob.cls≠.type "tuple" := by
   obtain ⟨o⟩|⟨ho,hc,_⟩:=hit
   exact ⟨o,ho,by rw [hc];intro q;simp at q⟩
  obtain ⟨ob⟩|⟨ho,hc⟩:=hne
  obtain ⟨o'⟩|⟨ho',hc',hd'⟩:=(id hit')
  refine b4 (s:={ s with heap:=h' }) ho' hc' (by decide) ?_
  refine k val h' s.toks (r.keep (aw hsb.extBut ho fun q=>absurd q hc)) ⟨i+1,hit',hr⟩ (fun b o nb e=>hsb.extBut b o (by simpa using nb) e) fun b hb=>?_
  rw [mem_singleton] at hb;subst hb
  exact ⟨o',ho',hd' ▸ ar⟩
 stop:=by
  intro ρ σ s P E S hl H k
  obtain ⟨i⟩|⟨hit,he⟩:=H
  refine (S.obj l _ hl).list' fun vs n e rs=>?_
  have hx:vs[i]?=none:=by
   have:xs.length<=i:=by simpa using he.symm
   rw [List.getElem?_eq_none_iff,rs.length];exact this
  refine wpAny_pyNext_list_end (S.ok.hd cm) hit ⟨_,e,rfl,_,rfl⟩ (by simpa using hx) fun h' hsb=>?_
  exact k h' s.toks (fun b o nb e=>hsb b o (by simpa using nb) e)
 self:=by
  intro ρ σ s items P E S hl H k
  obtain ⟨i⟩|⟨hit,he⟩:=H
  exact wpAny_pyIter_listiter hit k
 keep:=by
  intro h h' items H k t
  obtain ⟨i⟩|⟨h8z,he⟩:=H
  obtain ⟨o,ho,hc,hd⟩:=h8z
  exact ⟨i,⟨_,k it (.head _) o ho,hc,hd⟩,he⟩
theorem aG {l:Addr}{xs:List AVal} (hl:σ l=some (.list xs)) (cm:c.calm=true:=by walk_at "cm"):ItOf c target (.ref l) xs (fun σ=>σ l=some (.list xs)) σ:=fun ρ s v P E S r k=>by
 apply r.ref'
 refine (S.obj l _ hl).list' fun vs n e rs=>?_
 refine wpAny_pyIter_list ⟨_,e,rfl,_,rfl⟩ ?_
 have kp:∀ b o,s.heap.get? b=some o->(s.heap.push { cls:=.type "list_iterator",data:=.fields #[.ref l,.int 0 0] }).get? b=some o:=fun b o q=>Zu _ q
 have hn:=ag s.heap
 refine k (sN c cm target l xs s.heap.objs.size) _ rfl (S.ext kp) (Step.ext (t:=s.toks) kp) ⟨fun b hb=>?_,fun b hb=>?_⟩ ⟨0,⟨_,Zz _ rfl,rfl,rfl⟩,by simp⟩ fun b hb=>?_
 all_goals (rw [ZS hb])
 ·have f:=S.new_off hn;exact ⟨S.none_of hn,f⟩
 ·exact ⟨_,Zz _ rfl,ar⟩
 ·exact hn
def tupK (c:Cx) (cm:c.calm=true) (target:Expr) (l:Addr) (xs:List AVal) (it:Addr):ItK c target where
 need _:=True
 ads:=[it]
 holds h items:=∃ i,h.IsTupleIter it l i/\items=xs.drop i/\∃ o vs n,h.get? l=some o/\o.cls=.type "tuple" /\ o.data=.seq (vs:List Value).toArray n/\VRs h vs xs
 it:=it
 next:=by
  intro ρ σ s v rest P P₀ E E' S _ H k
  obtain ⟨i,hit,he,ol,vs,n,e,ec,ed,rs⟩:=H
  have hx:xs[i]?=some v:=by
   have:=congrArg (fun z=>z[0]?) he
   simpa using this.symm
  have hr:rest=xs.drop (i+1):=by
   have:=congrArg List.tail he
   simpa using this
  obtain ⟨val⟩|⟨hv,r⟩:=(rs.get hx)
  refine wpAny_pyNext_tuple_item hit ⟨_,e,ec,_,ed⟩ (by simpa using hv) fun h' hit' hsb=>?_
  obtain ⟨ob⟩|⟨ho,hc,hod⟩:=(id hit)
  obtain ⟨o'⟩|⟨ho',hc',hd'⟩:=(id hit')
  refine b4 (s:={ s with heap:=h' }) ho' hc' (by decide) ?_
  have kt:TupKept s.heap h':=aw hsb.extBut ho fun q=>by rw [hc] at q;simp at q
  have hne:l≠it:=by rintro rfl;rw [e] at ho;cases ho;rw [ec] at hc;simp at hc
  refine k val h' s.toks (r.keep kt) ⟨i+1,hit',hr,ol,vs,n,hsb.extBut l ol hne e,ec,ed,rs.keep kt⟩ (fun b o nb e=>hsb.extBut b o (by simpa using nb) e) fun b hb=>?_
  rw [mem_singleton] at hb;subst hb
  exact ⟨o',ho',hd' ▸ ar⟩
 stop:=by
  intro ρ σ s P E S _ H k
  obtain ⟨i,hit,he,ol,vs,n,e,ec,ed,rs⟩:=H
  have hx:vs[i]?=none:=by
   have:xs.length<=i:=by simpa using he.symm
   rw [List.getElem?_eq_none_iff,rs.length];exact this
  refine wpAny_pyNext_tuple_end (S.ok.hd cm) hit ⟨_,e,ec,_,ed⟩ (by simpa using hx) fun h' hsb=>?_
  exact k h' s.toks (fun b o nb e=>hsb b o (by simpa using nb) e)
 self:=by
  intro ρ σ s items P E S _ H k
  obtain ⟨i⟩|⟨hit,he⟩:=H
  exact wpAny_pyIter_tupleiter hit k
 keep:=by
  intro h h' items H k t
  obtain ⟨i,⟨o,ho,hc,hd⟩,he,ol,vs,n,e,ec,ed,rs⟩:=H
  obtain ⟨ol'⟩|⟨e',ec',ed'⟩:=(t l ol e ec ⟨_,_,ed⟩)
  exact ⟨i,⟨_,k it (.head _) o ho,hc,hd⟩,he,ol',vs,n,e',ec',ed'.trans ed,rs.keep t⟩
theorem cA {xs:List AVal} (cm:c.calm=true:=by walk_at "cm"):ItOf c target (.tup xs) xs (fun _=>True) σ:=fun ρ s v P E S r k=>by
 refine ex4 r.tup_inv fun l ol vs n h16z=>?_
 refine an5 h16z fun h15z e ec ed rs=>?_
 clear h16z
 obtain rfl:=h15z
 refine wpAny_pyIter_tuple ⟨_,e,ec,_,ed⟩ ?_
 have kp:∀ b o,s.heap.get? b=some o->(s.heap.push { cls:=.type "tuple_iterator",data:=.fields #[.ref l,.int 0 0] }).get? b=some o:=fun b o q=>Zu _ q
 have hn:=ag s.heap
 refine k (tupK c cm target l xs s.heap.objs.size) _ rfl (S.ext kp) (Step.ext (t:=s.toks) kp) ⟨fun b hb=>?_,fun b hb=>?_⟩ ⟨0,⟨_,Zz _ rfl,rfl,rfl⟩,by simp,ol,vs,n,kp _ _ e,ec,ed,rs.keep (aq kp)⟩ fun b hb=>?_
 all_goals (rw [ZS hb])
 ·have f:=S.new_off hn;exact ⟨S.none_of hn,f⟩
 ·exact ⟨_,Zz _ rfl,ar⟩
 ·exact hn
def nums:Int->Nat->List AVal
 | _,0=>[]
 | i,n+1=>.int i::nums (i+1) n
def r6 (c:Cx) (cm:c.calm=true) (target:Expr) (it:Addr):ItK c target where
 need _:=True
 ads:=[it]
 holds h items:=∃ (x:Int) (n:Nat),IsRangeIter h it x n 1/\items=nums x n
 it:=it
 next:=by
  intro ρ σ s v rest P P₀ E E' S _ H k
  obtain ⟨x,n⟩|⟨hit,he⟩:=H
  cases n with
  | zero=>cases he
  | succ n =>
   cases he
   refine wpAny_pyNext_range_item hit s!"o" fun h' hit' hsb=>?_
   refine b4 (s:={ s with heap:=h',toks:=s.toks+1 }) hit' rfl (by decide) ?_
   refine k _ h' _ (.int x _) ⟨x+1,n,(by have:=hit';simpa using this),rfl⟩ (fun b o nb e=>hsb.extBut b o (by simpa using nb) e) fun b hb=>?_
   rw [mem_singleton] at hb;subst hb
   exact ⟨_,hit',ar⟩
 stop:=by
  intro ρ σ s P E S _ H k
  obtain ⟨x,n⟩|⟨hit,he⟩:=H
  cases n with
  | succ n=>cases he
  | zero =>
   refine wpAny_pyNext_range_end (S.ok.hd cm) hit (by simp) fun h' hsb=>?_
   exact k h' s.toks (fun b o nb e=>hsb b o (by simpa using nb) e)
 self:=by
  intro ρ σ s items P E S _ H k
  obtain ⟨x,n⟩|⟨hit,he⟩:=H
  exact wpAny_pyIter_rangeiter hit k
 keep:=by
  intro h h' items H k t
  obtain ⟨x,n⟩|⟨hit,he⟩:=H
  exact ⟨x,n,k it (.head _) _ hit,he⟩
def pV (x:List Nat):List AVal:=x.map fun d=>.str ⟨#[d]⟩
def strK (c:Cx) (cm:c.calm=true) (target:Expr) (x:Str) (b:Bool) (it:Addr):ItK c target where
 need _:=True
 ads:=[it]
 holds h items:=∃ t i,h.IsStrIter it (if b then "str_ascii_iterator" else "str_iterator") x t i/\items=pV (x.cps.toList.drop i)
 it:=it
 next:=by
  intro ρ σ s v rest P P₀ E E' S _ H k
  obtain ⟨t,i⟩|⟨hit,he⟩:=H
  obtain ⟨d,r,hd,rfl,rfl⟩:∃ d r,x.cps.toList.drop i=d::r/\v=.str ⟨#[d]⟩/\rest=pV r:=by
   cases hz:x.cps.toList.drop i with
   | nil=>rw [hz] at he;cases he
   | cons d r=>rw [hz] at he;cases he;exact ⟨d,r,rfl,rfl,rfl⟩
  have hx:x.cps[i]?=some d:=by
   have:=congrArg (fun z=>z[0]?) hd
   simpa using this
  have hr:r=x.cps.toList.drop (i+1):=by
   have:=congrArg List.tail hd
   simpa using this.symm
  cases b with
  | true =>
   refine wpAny_pyNext_ascii_item hit hx fun h' hit' hsb=>?_
   obtain ⟨o'⟩|⟨ho',hc',hd'⟩:=(id hit')
   refine b4 (s:={ s with heap:=h',toks:=s.toks+1 }) ho' hc' (by decide) ?_
   refine k _ h' _ (.str _ _) ⟨t,i+1,hit',by rw [hr]⟩ (fun b o nb e=>hsb.extBut b o (by simpa using nb) e) fun b hb=>?_
   rw [mem_singleton] at hb;subst hb
   exact ⟨o',ho',hd' ▸ ar⟩
  | false =>
   refine wpAny_pyNext_wide_item hit hx fun h' hit' hsb=>?_
   obtain ⟨o'⟩|⟨ho',hc',hd'⟩:=(id hit')
   refine b4 (s:={ s with heap:=h',toks:=s.toks+1 }) ho' hc' (by decide) ?_
   refine k _ h' _ (.str _ _) ⟨t,i+1,hit',by rw [hr]⟩ (fun b o nb e=>hsb.extBut b o (by simpa using nb) e) fun b hb=>?_
   rw [mem_singleton] at hb;subst hb
   exact ⟨o',ho',hd' ▸ ar⟩
 stop:=by
  intro ρ σ s P E S _ H k
  obtain ⟨t,i⟩|⟨hit,he⟩:=H
  have hx:x.cps[i]?=none:=by
   cases hz:x.cps.toList.drop i with
   | nil=>have:x.cps.toList.length<=i:=by simpa using hz
          simpa using this
   | cons d r=>rw [hz] at he;cases he
  cases b with
  | true=>exact wpAny_pyNext_ascii_end (S.ok.hd cm) hit hx fun h' hsb=>k h' s.toks (fun b o nb e=>hsb b o (by simpa using nb) e)
  | false=>exact wpAny_pyNext_wide_end (S.ok.hd cm) hit hx fun h' hsb=>k h' s.toks (fun b o nb e=>hsb b o (by simpa using nb) e)
 self:=by
  intro ρ σ s items P E S _ H k
  obtain ⟨t,i⟩|⟨hit,he⟩:=H
  cases b with
  | true=>exact wpAny_pyIter_striter_ascii hit k
  | false=>exact wpAny_pyIter_striter_wide hit k
 keep:=by
  intro h h' items H k t
  obtain ⟨tk,i⟩|⟨h26z,he⟩:=H
  obtain ⟨o,ho,hc,hd⟩:=h26z
  exact ⟨tk,i,⟨_,k it (.head _) o ho,hc,hd⟩,he⟩
theorem qt {x:Str} (cm:c.calm=true:=by walk_at "cm"):ItOf c target (.str x) (pV x.cps.toList) (fun _=>True) σ:=fun ρ s v P E S r k=>by
 apply r.str';intro t
 have hn:=ag s.heap
 have f:=S.new_off hn
 have f0:=S.none_of hn
 cases ha:x.cps.all (· < 128) with
 | true =>
  refine wpAny_pyIter_ascii ha ?_
  have kp:∀ b o,s.heap.get? b=some o->(s.heap.push { cls:=.type "str_ascii_iterator",data:=.fields #[.str x t,.int 0 0] }).get? b=some o:=fun b o q=>Zu _ q
  refine k (strK c cm target x true s.heap.objs.size) _ rfl (S.ext kp) (Step.ext (t:=s.toks) kp) ⟨fun b hb=>?_,fun b hb=>?_⟩ ⟨t,0,⟨_,Zz _ rfl,rfl,rfl⟩,by simp⟩ fun b hb=>?_
  all_goals (rw [ZS hb])
  ·exact ⟨f0,f⟩
  ·exact ⟨_,Zz _ rfl,ar⟩
  ·exact hn
 | false =>
  refine wpAny_pyIter_wide ha ?_
  have kp:∀ b o,s.heap.get? b=some o->(s.heap.push { cls:=.type "str_iterator",data:=.fields #[.str x t,.int 0 0] }).get? b=some o:=fun b o q=>Zu _ q
  refine k (strK c cm target x false s.heap.objs.size) _ rfl (S.ext kp) (Step.ext (t:=s.toks) kp) ⟨fun b hb=>?_,fun b hb=>?_⟩ ⟨t,0,⟨_,Zz _ rfl,rfl,rfl⟩,by simp⟩ fun b hb=>?_
  all_goals (rw [ZS hb])
  ·exact ⟨f0,f⟩
  ·exact ⟨_,Zz _ rfl,ar⟩
  ·exact hn
end
inductive CompNames (ρ:List NV):List (Str × NameKind)->List NV->Prop
 | nil:CompNames ρ [] []
 | loc {x:Str}{ns:List (Str × NameKind)}{r:List NV}:CompNames ρ ns r->CompNames ρ ((x,.local)::ns) (⟨x,.local,none⟩::r)
 | glob {x:Str}{ns:List (Str × NameKind)}{r:List NV}:CompNames ρ ns r->CompNames ρ ((x,.globalImplicit)::ns) (⟨x,.globalImplicit,none⟩::r)
 | free {x:Str}{a:Option AVal}{ns:List (Str × NameKind)}{r:List NV}:(⟨x,.cell,a⟩:NV)∈ρ->CompNames ρ ns r->CompNames ρ ((x,.free)::ns) (⟨x,.cell,a⟩::r)
def Cx.comp (c:Cx) (scope:Scope) (cl:List (Str × Addr)) (C:Addr):Cx:={ c with env:=compEnvC scope cl C c.env,own:=[C],fn:=false }
theorem Cx.cmP {c:Cx}{scope:Scope}{cl:List (Str × Addr)}{C:Addr} (h:c.calm=true):(c.comp scope cl C).calm=true:=h
section
variable {c:Cx}{ρ ρ':List NV}{σ σ₀ σ₁ σ' τ:AState}{h h' B:Heap}{s s₀ s₁ s':Shared}{Q:AVal->AState->Prop}{X:AExc->AState->Prop}
def au (env:Env) (ns:List (Str × NameKind)) (acc:List (Str × Addr)):List (Str × Addr) :=
 ns.foldl (fun acc x=>if x.2 == .free then (x.1,(env.cells.lookup x.1).getD 0)::acc else acc) acc
theorem fH {env:Env}:∀ (ns:List (Str × NameKind)) (acc:List (Str × Addr)),(∀ x∈ns,x.2=.free->(env.cells.lookup x.1).isSome) ->
  (forIn ns acc (fun x r=>(if (x.2 == NameKind.free)=true then (do let y <- cellOf env x.1;pure (ForInStep.yield ((x.1,y)::r))) else pure (ForInStep.yield r):Sem (ForInStep (List (Str × Addr))))))=(pure (au env ns acc):Sem _)
 | [],acc,_=>rfl
 | (n,k)::ns,acc,h=>by
  rw [forIn_cons]
  have ih:=fun acc=>fH (env:=env) ns acc fun x hx=>h x (.tail _ hx)
  by_cases hk:k=.free
  ·subst hk
   have hs:=h (n,.free) (.head _) rfl
   obtain ⟨a,ha⟩:=Option.isSome_iff_exists.mp hs
   simp only [beq_self_eq_true,if_true,cellOf,ha]
   have:=ih ((n,a)::acc)
   rw [show au env ((n,.free)::ns) acc=au env ns ((n,a)::acc) from by show au env ns ((n,(env.cells.lookup n).getD 0)::acc)=_;rw [ha];rfl]
   exact this
  ·have hb:(k == NameKind.free)=false:=by simpa using hk
   simp only [hb,Bool.false_eq_true,if_false]
   have:=ih acc
   rw [show au env ((n,k)::ns) acc=au env ns acc from by show au env ns (if (k == NameKind.free)=true then _ else acc)=_;rw [hb];rfl]
   exact this
theorem cV {scope:Scope}{env:Env} (h:∀ x∈scope.names,x.2=.free->(env.cells.lookup x.1).isSome):closureFor scope env=pure (au env scope.names []):=by
 have:=fH scope.names [] h
 unfold closureFor
 refine Eq.trans ?_ (congrArg (fun t=>t >>= fun r=>pure r) this)
 rfl
theorem eP {env:Env}:∀ {ns:List (Str × NameKind)}{acc:List (Str × Addr)}{y:Str × Addr},y∈au env ns acc->(∀ x∈ns,x.2=.free->(env.cells.lookup x.1).isSome)->y∈acc\/(env.cells.lookup y.1=some y.2/\(y.1,.free)∈ns)
 | [],acc,y,h,_=>.inl h
 | (n,k)::ns,acc,y,h,hh=>by
  have h:y∈au env ns (if k == .free then (n,(env.cells.lookup n).getD 0)::acc else acc):=h
  rcases eP h fun x hx=>hh x (.tail _ hx) with h | ⟨h1,h2⟩
  ·by_cases hk:k=.free
   ·subst hk
    simp only [beq_self_eq_true,if_true] at h
    rcases ZC h with rfl | h
    ·obtain ⟨a,ha⟩:=Option.isSome_iff_exists.mp (hh (n,.free) (.head _) rfl)
     exact .inr ⟨by simp [ha],.head _⟩
    ·exact .inl h
   ·have hb:(k == NameKind.free)=false:=by simpa using hk
    rw [hb] at h;exact .inl h
  ·exact .inr ⟨h1,.tail _ h2⟩
theorem d6 {env:Env}:∀ {ns:List (Str × NameKind)}{acc:List (Str × Addr)}{y:Str × Addr},y∈acc->y∈au env ns acc
 | [],acc,y,h=>h
 | (n,k)::ns,acc,y,h=>by
  show y∈au env ns (if k == .free then (n,(env.cells.lookup n).getD 0)::acc else acc)
  refine d6 ?_
  split
  ·exact .tail _ h
  ·exact h
theorem cU {env:Env}:∀ {ns:List (Str × NameKind)}{acc:List (Str × Addr)}{x:Str},(x,.free)∈ns->∃ a,(x,a)∈au env ns acc
 | (n,k)::ns,acc,x,h=>by
  show ∃ a,(x,a)∈au env ns (if k == .free then (n,(env.cells.lookup n).getD 0)::acc else acc)
  rcases ZC h with e | h
  ·cases e;exact ⟨_,d6 (by simp only [beq_self_eq_true,if_true];exact .head _)⟩
  ·exact cU h
theorem dI {env:Env}:∀ {ns:List (Str × NameKind)}{acc:List (Str × Addr)},(ns.map (·.1)).Nodup->(acc.map (·.1)).Nodup->(∀ x∈ns,x.1∉acc.map (·.1))->((au env ns acc).map (·.1)).Nodup
 | [],_,_,h,_=>h
 | (n,k)::ns,acc,hn,ha,hx=>by
  show ((au env ns (if k == .free then (n,(env.cells.lookup n).getD 0)::acc else acc)).map (·.1)).Nodup
  rw [map_cons,nodup_cons] at hn
  refine dI hn.2 ?_ fun x hm=>?_
  ·split
   ·rw [map_cons,nodup_cons];exact ⟨hx _ (.head _),ha⟩
   ·exact ha
  ·split
   ·rw [map_cons,mem_cons]
    rintro (e | e)
    ·exact hn.1 (e ▸ mem_map_of_mem (f:=(·.1)) hm)
    ·exact hx x (.tail _ hm) e
   ·exact hx x (.tail _ hm)
theorem dh {α:Type}{l:List (Str × α)}{x:Str}{a:α} (n:(l.map (·.1)).Nodup) (m:(x,a)∈l):l.lookup x=some a:=av n m
theorem CompNames.frees {ns:List (Str × NameKind)} (n:CompNames ρ ns ρ'):∀ x∈ns,x.2=.free->∃ a,(⟨x.1,.cell,a⟩:NV)∈ρ:=by
 induction n with
 | nil=>intro x h;cases h
 | loc _ ih=>intro x h e;rcases ZC h with rfl | h;cases e;exact ih x h e
 | glob _ ih=>intro x h e;rcases ZC h with rfl | h;cases e;exact ih x h e
 | free m _ ih=>intro x h e;rcases ZC h with rfl | h;exact ⟨_,m⟩;exact ih x h e
theorem CompNames.noCell {ns:List (Str × NameKind)} (n:CompNames ρ ns ρ'):∀ x∈ns,x.2≠.cell:=by
 induction n with
 | nil=>intro x h;cases h
 | loc _ ih | glob _ ih | free _ _ ih =>
  intro x h
  rcases ZC h with rfl | h
  ·intro q;cases q
  ·exact ih x h
theorem CompNames.names {ns:List (Str × NameKind)} (n:CompNames ρ ns ρ') (S:St c ρ σ h) (kf:c.env.scope.kind=.function) :
  ρ'.map (fun e=>(e.name,e.kind))=ns.map fun (n,k)=>if (k == .free && c.env.scope.kind == .function && c.env.kindOf n == some .cell) then (n,.cell) else (n,k):=by
 induction n with
 | nil=>rfl
 | loc _ ih=>rw [map_cons,map_cons,ih];rfl
 | glob _ ih=>rw [map_cons,map_cons,ih];rfl
 | free m _ ih =>
  rw [map_cons,map_cons,ih]
  have:=S.kindOf m
  simp only at this
  simp [this,kf]
theorem CompNames.from_ {ns:List (Str × NameKind)} (n:CompNames ρ ns ρ'):∀ e∈ρ',(e.kind=.local/\e.val=none/\(e.name,.local)∈ns)\/(e.kind=.globalImplicit/\e.val=none)\/(e.kind=.cell/\e∈ρ/\(e.name,.free)∈ns):=by
 induction n with
 | nil=>intro x h;cases h
 | loc _ ih =>
  intro e h;rcases ZC h with rfl | h
  ·exact .inl ⟨rfl,rfl,.head _⟩
  ·rcases ih e h with ⟨a,b,d⟩ | h | ⟨a,b,d⟩
   ·exact .inl ⟨a,b,.tail _ d⟩
   ·exact .inr (.inl h)
   ·exact .inr (.inr ⟨a,b,.tail _ d⟩)
 | glob _ ih =>
  intro e h;rcases ZC h with rfl | h
  ·exact .inr (.inl ⟨rfl,rfl⟩)
  ·rcases ih e h with ⟨a,b,d⟩ | h | ⟨a,b,d⟩
   ·exact .inl ⟨a,b,.tail _ d⟩
   ·exact .inr (.inl h)
   ·exact .inr (.inr ⟨a,b,.tail _ d⟩)
 | free m _ ih =>
  intro e h;rcases ZC h with rfl | h
  ·exact .inr (.inr ⟨rfl,m,.head _⟩)
  ·rcases ih e h with ⟨a,b,d⟩ | h | ⟨a,b,d⟩
   ·exact .inl ⟨a,b,.tail _ d⟩
   ·exact .inr (.inl h)
   ·exact .inr (.inr ⟨a,b,.tail _ d⟩)
structure CompOk (scope:Scope):Prop where
 kind:scope.kind=.function
 nodup:(scope.names.map (·.1)).Nodup
 tame:scope.names.all (fun n=>n.1 != ("__debug__" : Str) && n.1 != ("__classdict__" : Str))=true
theorem St.comp {scope:Scope}{C:Addr} (S:St c ρ σ h) (hf:c.fn=true) (n:CompNames ρ scope.names ρ') (ok:CompOk scope) (hl:∃ m,h.Ns C m) (hG:c.G.get? C=none) (hx:σ C=none/\C∉c.frames/\∀ x∈c.env.cells,x.2≠C) :
  St (c.comp scope (au c.env scope.names []) C) ρ' σ h:=by
 have kf:c.env.scope.kind=.function:=S.ok.kind
 have hs:∀ x∈scope.names,x.2=.free->(c.env.cells.lookup x.1).isSome:=fun x hx e=>by
  obtain ⟨a,m⟩:=n.frees x hx e
  obtain ⟨b,hb⟩:=S.ok.cellsOf (x.1,.cell) (S.names ▸ mem_map_of_mem (f:=fun e:NV=>(e.name,e.kind)) m) rfl
  rw [hb];rfl
 have hm:∀ y∈au c.env scope.names [],c.env.cells.lookup y.1=some y.2/\(y.1,.free)∈scope.names:=fun y hy=>(eP hy hs).resolve_left (by simp)
 have nd:=dI (env:=c.env) (acc:=[]) ok.nodup (by simp) (by simp)
 have names':=n.names S kf
 have nm:(relabel scope c.env).names=ρ'.map (fun e=>(e.name,e.kind)):=names'.symm
 have k1:((relabel scope c.env).names.map (·.1))=scope.names.map (·.1):=by
  show (scope.names.map _).map _=_
  rw [map_map]
  refine map_congr_left fun x _=>?_
  obtain ⟨a,b⟩:=x
  simp only [Function.comp]
  split<;>rfl
 have lk:∀ x,(x,NameKind.free)∈scope.names->(au c.env scope.names []).lookup x=c.env.cells.lookup x:=fun x hx=>by
  obtain ⟨a,ha⟩:=cU (env:=c.env) (acc:=[]) hx
  rw [dh nd ha,(hm _ ha).1]
 refine ⟨⟨S.ok.fr,S.ok.hd,S.ok.gd,S.ok.depth,S.ok.units,ok.kind,S.ok.glob,S.ok.blt,S.ok.KG,S.ok.lim,S.ok.bg,S.ok.sm,.head _,?_,fun x hx'=>?_,fun x hx' e=>?_,fun z=>?_,fun z=>?_,?_,?_⟩,S.base,S.frames,nm.symm,hl,fun x hx'=>?_,fun e he a ha=>?_,S.obj,fun a o e=>?_,fun b hb=>?_⟩
 ·
  show ((au c.env scope.names []).map (·.2)).Nodup
  have:∀ l:List (Str × Addr),(l.map (·.1)).Nodup->(∀ y∈l,c.env.cells.lookup y.1=some y.2)->(l.map (·.2)).Nodup:=by
   intro l
   induction l with
   | nil=>intro _ _;simp
   | cons y l ih =>
    intro n1 n2
    rw [map_cons,nodup_cons] at n1 ⊢
    refine ⟨fun q=>?_,ih n1.2 fun z hz=>n2 z (.tail _ hz)⟩
    obtain ⟨z⟩|⟨hz,e⟩:=(ZM q)
    have hne:y.1≠z.1:=fun e=>n1.1 (e ▸ mem_map_of_mem (f:=(·.1)) hz)
    exact iZ S.ok.cells (n2 y (.head _)) (n2 z (.tail _ hz)) hne e.symm
  exact this _ nd fun y hy=>(hm y hy).1
 ·exact hx.2.2 _ (mem_of_lookup (hm x hx').1)
 ·have hx':x∈ρ'.map (fun e=>(e.name,e.kind)):=nm ▸ hx'
  obtain ⟨e'⟩|⟨he',rfl⟩:=(ZM hx')
  rcases n.from_ e' he' with ⟨q,_⟩ | ⟨q,_⟩ | ⟨_,_,q⟩
  ·rw [q] at e;cases e
  ·rw [q] at e;cases e
  ·obtain ⟨a,ha⟩:=cU (env:=c.env) (acc:=[]) q
   exact ⟨a,dh nd ha⟩
 ·cases z
 ·cases z
 ·show ((relabel scope c.env).names.map (·.1)).Nodup
  rw [k1];exact ok.nodup
 ·have:(relabel scope c.env).names.all (fun n=>n.1 != ("__debug__" : Str) && n.1 != ("__classdict__" : Str))=((relabel scope c.env).names.map (·.1)).all (fun n=>n != ("__debug__" : Str) && n != ("__classdict__" : Str)):=by rw [all_map];rfl
  have t2:scope.names.all (fun n=>n.1 != ("__debug__" : Str) && n.1 != ("__classdict__" : Str))=(scope.names.map (·.1)).all (fun n=>n != ("__debug__" : Str) && n != ("__classdict__" : Str)):=by rw [all_map];rfl
  show (relabel scope c.env).names.all _=true
  rw [this,k1,<- t2];exact ok.tame
 ·exact S.cellsAt _ (mem_of_lookup (hm x hx').1)
 ·rcases n.from_ e he with ⟨_,q,_⟩ | ⟨_,q⟩ | ⟨q1,q2,q3⟩
  ·rw [q] at ha;cases ha
  ·rw [q] at ha;cases ha
  ·obtain ⟨v⟩|⟨y,r⟩:=(S.vars e q2 a ha)
   refine ⟨v,?_,r⟩
   rw [q1] at y ⊢
   obtain ⟨b⟩|⟨hb,y⟩:=y
   exact ⟨b,(lk _ q3).trans hb,y⟩
 ·refine an4 (S.off a o e) fun q1 q2 q3 q4=>?_
  refine ⟨q1,fun z=>?_,q3,fun x hx'=>q4 _ (mem_of_lookup (hm x hx').1)⟩
  have z:a∈[C]:=z
  rw [ZS z,hx.1] at e;cases e
 ·have hb:b∈[C]:=hb
  rw [ZS hb]
  obtain ⟨m,o,es,ep⟩|⟨ho,hd,_⟩:=hl
  exact ⟨hG,o,ho,fun xs n q=>by rw [hd] at q;cases q⟩
end
section
variable {c:Cx}{ρ ρ':List NV}{σ σ₀ σ₁ σ' τ:AState}{h h' B:Heap}{s s₀ s₁ s':Shared}{Q:AVal->AState->Prop}{X:AExc->AState->Prop}
theorem lM {a:Addr}{m:Str->Option Value} (n:h.Ns a m) (k:∀ o,h.get? a=some o->∃ sl,h'.get? a=some { o with slots:=sl }):h'.Ns a m:=by
 obtain ⟨o,es,ep⟩|⟨ho,r⟩:=n
 obtain ⟨sl,e⟩:=k o ho
 exact ⟨_,es,ep,e,r⟩
theorem eZ {a:Addr}{v:Option Value} (n:h.IsCell a v) (k:∀ o,h.get? a=some o->∃ sl,h'.get? a=some { o with slots:=sl }):h'.IsCell a v:=by
 obtain ⟨o⟩|⟨ho,r⟩:=n
 obtain ⟨sl,e⟩:=k o ho
 exact ⟨_,e,r⟩
theorem St.back (S:St c ρ σ h) (t:TupKept h h') (kept:∀ b o,(b∈c.own\/∃ x∈c.env.cells,b=x.2)->h.get? b=some o->∃ sl,h'.get? b=some { o with slots:=sl })
  (off':∀ a o,σ' a=some o->c.G.get? a=none/\a∉c.own/\a∉c.frames/\∀ x∈c.env.cells,a≠x.2) (base':c.G.StaysIn h') (fr':h'.FunFrames c.G (c.fenv::c.outer))
  (obj':∀ a o,σ' a=some o->OR c.prog c.w h' a o):St c ρ σ' h' where
 ok:=S.ok
 base:=base'
 frames:=fr'
 names:=S.names
 locs:=let ⟨m,n⟩:=S.locs;⟨m,lM n fun o e=>kept _ o (.inl S.ok.locIn) e⟩
 cellsAt x hx:=let ⟨v,n⟩:=S.cellsAt x hx;⟨v,eZ n fun o e=>kept _ o (.inr ⟨x,hx,rfl⟩) e⟩
 vars e he a ha:=by
  obtain ⟨v⟩|⟨y,r⟩:=(S.vars e he a ha)
  refine ⟨v,?_,r.keep t⟩
  revert y
  cases e.kind with
  | «local»=>intro r1z;refine ex1 r1z fun m h4z=>?_;(try clear r1z);refine an2 h4z fun n q=>?_;clear h4z;exact ⟨m,lM n fun o e=>kept _ o (.inl S.ok.locIn) e,q⟩
  | cell=>intro r2z;refine ex1 r2z fun b h5z=>?_;(try clear r2z);refine an2 h5z fun l y=>?_;clear h5z;exact ⟨b,l,eZ y fun o e=>kept _ o (.inr ⟨_,mem_of_lookup l,rfl⟩) e⟩
  | free=>intro r3z;refine ex1 r3z fun b h6z=>?_;(try clear r3z);refine an2 h6z fun l y=>?_;clear h6z;exact ⟨b,l,eZ y fun o e=>kept _ o (.inr ⟨_,mem_of_lookup l,rfl⟩) e⟩
  | _=>intro y;exact y.elim
 obj:=obj'
 off:=off'
 ownNew b hb:=by
  obtain ⟨g,o,e,n⟩:=S.ownNew b hb
  obtain ⟨sl,e'⟩:=kept b o (.inl hb) e
  exact ⟨g,_,e',n⟩
theorem kr {prog:Program}{w:World}{A:Around}{R:Result->Shared->Prop}{elt target iter:Expr}{ifs:List Expr}{scope:Scope}{pos:Pos}{it acc:Value}{env:Env} (I:Nat->Shared->Prop)
  (turn:∀ n s,I n s->wpAny (model prog w) A (pyNext it) (fun r s₁=>match r with
   | none=>R (.ok .next) s₁
   | some v=>wpAny (model prog w) A (letOwnedTupleGo target it v) (fun _ s₁=>wpAny (model prog w) A (assign target env v) (fun _ s₂ =>
     wpAny (model prog w) A (forIn ifs true fun c r=>if r=true then do let ok <- isTrue c env (eval c env);pure (ForInStep.yield ok) else pure (ForInStep.yield r)) (fun ok s₃ =>
      if ok=true then wpAny (model prog w) A (eval elt env) (fun x s₄ =>
       wpAny (model prog w) A (call (.builtin "list.append") [acc,x]) (fun _ s₅=>∃ m,m < n/\I m s₅) (notedBy (model prog w) A env fun e s'=>R (.error e) s') s₄) (notedBy (model prog w) A env fun e s'=>R (.error e) s') s₃
      else ∃ m,m < n/\I m s₃) (notedBy (model prog w) A env fun e s'=>R (.error e) s') s₂) (notedBy (model prog w) A env fun e s'=>R (.error e) s') s₁) (notedBy (model prog w) A env fun e s'=>R (.error e) s') s₁) (notedBy (model prog w) A env fun e s'=>R (.error e) s') s)
  (n:Nat) (h:I n s):codeAny (model prog w) A (.compLoop (.ListComp elt [⟨target,iter,ifs,0⟩] scope pos) 0 it acc env) R s:=by
 refine codeAny_loop rfl I (fun n s hI=>?_) n h
 show wpAny _ A ((compTurn (.ListComp elt [⟨target,iter,ifs,0⟩] scope pos) 0 it acc env).onRaise (fun x=>do noteFrame x env;theTreesLotGoes x)) _ _ s
 refine wpAny_noted ?_
 rw [compTurn_list]
 refine Zb (wpAny_standAt (Zb (Zm (turn n s hI) (fun r s₁ h₁=>?_) fun _ _ h'=>h')))
 cases r with
 | none=>exact Zp h₁
 | some v =>
  refine Zb (Zm h₁ (fun _ s₁ h₁=>?_) fun _ _ h'=>h')
  refine Zb (Zm h₁ (fun _ s₂ h₂=>Zb (Zm h₂ (fun ok s₃ h₃=>?_) fun _ _ h'=>h')) fun _ _ h'=>h')
  cases ok with
  | false=>exact Zp ⟨rfl,h₃⟩
  | true =>
   exact Zb (Zb (Zm h₃ (fun x s₄ h₄=>Zb (Zm h₄ (fun _ s₅ h₅=>Zp (Zp ⟨rfl,h₅⟩)) fun _ _ h'=>h')) fun _ _ h'=>h'))
abbrev NoX:AExc->AState->Prop:=fun _ _=>False
abbrev NoXS:AExc->List NV->AState->Prop:=fun _ _ _=>False
theorem XPost.no {v:Value} (p:XPost c ρ σ s NoX v s'):False:=let ⟨_,_,_,_,_,_,_,q⟩:=p;q
theorem XSPost.no {v:Value} (p:XSPost c σ s NoXS v s'):False:=let ⟨_,p⟩:=p;p.no
def CTest (c:Cx) (ρ:List NV) (ifs:List Expr) (σ:AState) (Q:Bool->AState->Prop):Prop :=
 Go Same c ρ (forIn ifs true fun e r=>if r=true then do let ok <- isTrue e c.env (eval e c.env);pure (ForInStep.yield ok) else pure (ForInStep.yield r)) σ Q NoX
theorem eE {Q:Bool->AState->Prop} (q:Q true σ):CTest c ρ [] σ Q:=fun s S=>wpAny_tests_nil (.here S rfl q)
theorem bN {t:Expr}{Q:Bool->AState->Prop} (g:Tst c ρ t σ Q NoX):CTest c ρ [t] σ Q:=fun s S=>wpAny_tests_one (g s S)
def CTurn (c:Cx) (ρ:List NV) (target:Expr) (ifs:List Expr) (elt:Expr) (I:List AVal->List AVal->AState->Prop):Prop :=
 ∀ v rest ys σ,I (v::rest) ys σ->Asg c target v ρ σ (fun ρ₂ σ₂=>CTest c ρ₂ ifs σ₂ fun b σ₃=>if b then Ev c ρ₂ elt σ₃ (fun y σ₄=>I rest (ys++[y]) σ₄) NoX else I rest ys σ₃) NoXS
section
variable {scope:Scope}{C D:Addr}{target elt iter:Expr}{ifs:List Expr}{pos:Pos}{K:ItK c target}
theorem Step.ofComp {cl:List (Str × Addr)} (y:Step c σ₀ s₀ σ s) (y':Step (c.comp scope cl C) σ s σ' s') (hC:s₀.heap.get? C=none):Step c σ₀ s₀ σ' s':=by
 refine ⟨fun b o e q n=>?_,fun b o e=>?_,fun b o e q=>?_,y'.gens.trans y.gens,y'.os.trans y.os⟩
 ·obtain ⟨sl⟩|⟨e',f⟩:=(y.kept b o e q n)
  refine ex1 (y'.kept b _ e' (y.grow b o e q) (fun z=>by
   have z:b∈[C]:=z
   rw [ZS z,hC] at e;cases e)) fun sl' h8z=>?_
  refine an2 h8z fun e'' f'=>?_
  clear h8z
  exact ⟨sl',e'',fun z=>(f' z).trans (f z)⟩
 ·obtain ⟨o',e'⟩:=y.there b o e;exact y'.there b o' e'
 ·obtain ⟨o',e'⟩:=y.there b o e;exact y'.grow b o' e' (y.grow b o e q)
theorem nA {R:Result->Shared->Prop} (hf:c.fn=true) (n:CompNames ρ scope.names ρ') (ok:CompOk scope) (I:List AVal->List AVal->AState->Prop)
  (hn:∀ r ys σ,I r ys σ->K.need σ) (turn:∀ cl C,CTurn (c.comp scope cl C) ρ' target ifs elt I)
  (items:List AVal) (hsz:items.length<=sizeLine) (S:St c ρ σ s.heap) (O:K.Off σ s.heap) (H:K.holds s.heap items) (hi:I items [] σ) (y:Step c σ₀ s₀ σ s) (nK:∀ b∈K.ads,s₀.heap.get? b=none)
  (hC:s₀.heap.get? C=none) (hD:s₀.heap.get? D=none) (fC:σ C=none/\c.G.get? C=none/\C∉c.own/\C∉c.frames/\∀ x∈c.env.cells,C≠x.2) (fD:σ D=none/\c.G.get? D=none/\D∉c.own/\D∉c.frames/\∀ x∈c.env.cells,D≠x.2)
  (hCD:C≠D) (hCK:C∉K.ads) (hDK:D∉K.ads) (nC:∃ m,s.heap.Ns C m) (lD:s.heap.PlainList D #[])
  (hR:∀ s' σ' ys (vs:List Value) m,St c ρ σ' s'.heap->Step c σ₀ s₀ σ' s'->I [] ys σ'->s'.heap.PlainList D vs.toArray->VRs s'.heap vs ys->s'.heap.Ns C m->σ' D=none->σ' C=none->R (.ok .next) s') :
  codeAny (model c.prog c.w) c.A (.compLoop (.ListComp elt [⟨target,iter,ifs,0⟩] scope pos) 0 (.ref K.it) (.ref D) (c.comp scope (au c.env scope.names []) C).env) R s:=by
 let JJ:=fun (m:Nat) (s':Shared)=>∃ σ₁ its ys,∃ vs:List Value,St c ρ σ₁ s'.heap/\K.Off σ₁ s'.heap/\K.holds s'.heap its/\I its ys σ₁/\Step c σ₀ s₀ σ₁ s'/\its.length=m/\ys.length+its.length<=items.length/\s'.heap.PlainList D vs.toArray/\VRs s'.heap vs ys/\(∃ m,s'.heap.Ns C m)/\σ₁ C=none/\σ₁ D=none
 refine kr JJ (fun m s' h=>?_) items.length ⟨σ,items,[],[],S,O,H,hi,y,rfl,by simp,lD,.nil,nC,fC.1,fD.1⟩
 obtain ⟨σ₁,its,ys,vs⟩|⟨S₁,O₁,H₁,i₁,y₁,rfl,hl,lD₁,rD,nC₁,zC,zD⟩:=h
 have CD:C≠D:=hCD
 cases its with
 | nil =>
  refine K.stop S₁ (hn _ _ _ i₁) H₁ fun h' t k=>?_
  obtain ⟨m,nC₁⟩:=nC₁
  exact hR _ σ₁ ys vs m (S₁.advance O₁ k) (y₁.advance O₁ nK k) i₁ (lD₁.at fun o e=>k D o hDK e) (rD.keep (d4 O₁ k)) (nC₁.at' fun o e=>k C o hCK e) zD zC
 | cons v rest =>
  refine K.next S₁ (hn _ _ _ i₁) H₁ fun val h' t r H' k ka=>?_
  have S₂:St c ρ σ₁ h':=S₁.advance O₁ k
  have y₂:Step c σ₀ s₀ σ₁ { s' with heap:=h',toks:=t }:=y₁.advance O₁ nK k
  have O₂:K.Off σ₁ h':=⟨O₁.sig,ka⟩
  have lD₂:=lD₁.at fun o e=>k D o hDK e
  have rD₂:=rD.keep (d4 O₁ k)
  have nC₂:∃ m,h'.Ns C m:=let ⟨m,q⟩:=nC₁;⟨m,q.at' fun o e=>k C o hCK e⟩
  have S₂':=S₂.comp hf n ok nC₂ fC.2.1 ⟨zC,fC.2.2.2.1,fun x hx=>(fC.2.2.2.2 x hx).symm⟩
  have back:∀ (σ₃:AState) (ρ₃:List NV) (s₃:Shared),St (c.comp scope (au c.env scope.names []) C) ρ₃ σ₃ s₃.heap->Step (c.comp scope (au c.env scope.names []) C) σ₁ { s' with heap:=h',toks:=t } σ₃ s₃ ->
    St c ρ σ₃ s₃.heap/\K.Off σ₃ s₃.heap/\K.holds s₃.heap rest/\Step c σ₀ s₀ σ₃ s₃/\s₃.heap.PlainList D vs.toArray/\VRs s₃.heap vs ys/\(∃ m,s₃.heap.Ns C m)/\σ₃ C=none/\σ₃ D=none:=by
   intro σ₃ ρ₃ s₃ S₃ y₃
   have t₃:=y₃.tup S₂'
   have kp:∀ b o,b≠C->h'.get? b=some o->σ₁ b=none->∃ sl,s₃.heap.get? b=some { o with slots:=sl }:=fun b o nb e q=>by
    obtain ⟨sl⟩|⟨e',_⟩:=(y₃.kept b o e q (by show b∉[C];simpa using nb))
    exact ⟨sl,e'⟩
   have oldNone:∀ b o,h'.get? b=some o->σ₁ b=none->σ₃ b=none:=fun b o e q=>y₃.grow b o e q
   have own1:∀ b,b∈c.own->σ₁ b=none:=fun b hb=>by
    cases q:σ₁ b with
    | none=>rfl
    | some o=>exact absurd hb (S₂.off b o q).2.1
   have cell1:∀ x∈c.env.cells,σ₁ x.2=none:=fun x hx=>by
    cases q:σ₁ x.2 with
    | none=>rfl
    | some o=>exact absurd rfl ((S₂.off _ o q).2.2.2 x hx)
   have back1:St c ρ σ₃ s₃.heap:=by
    refine S₂.back t₃ (fun b o hb e=>?_) (fun a o q=>?_) S₃.base S₃.frames S₃.obj
    ·rcases hb with hb | ⟨x,hx,rfl⟩
     ·exact kp b o (fun z=>fC.2.2.1 (z ▸ hb)) e (own1 b hb)
     ·exact kp _ o (fun z=>fC.2.2.2.2 x hx z.symm) e (cell1 x hx)
    ·refine ⟨(S₃.off a o q).1,fun z=>?_,(S₃.off a o q).2.2.1,fun x hx z=>?_⟩
     ·obtain ⟨_,ob,e,_⟩:=S₂.ownNew a z
      rw [oldNone a ob e (own1 a z)] at q;cases q
     ·subst z
      obtain ⟨v,ob⟩|⟨e,_⟩:=(S₂.cellsAt x hx)
      rw [oldNone _ ob e (cell1 x hx)] at q;cases q
   have ex:∀ b o,b≠C->b∉c.frames->h'.get? b=some o->σ₁ b=none->s₃.heap.get? b=some o:=fun b o nb nf e q=>y₃.exact e q (by show b∉[C];simpa using nb) nf
   have hDo:∃ o,h'.get? D=some o:=let ⟨n,e⟩:=lD₂;⟨_,e⟩
   have hCo:∃ o,h'.get? C=some o:=let ⟨m,o,_,_,e,_⟩:=nC₂;⟨o,e⟩
   refine ⟨back1,⟨fun b hb=>?_,fun b hb=>?_⟩,?_,y₂.ofComp y₃ hC,lD₂.at fun o e=>ex D o CD.symm fD.2.2.2.1 e zD,rD₂.keep t₃,S₃.locs,?_,?_⟩
   ·obtain ⟨o⟩|⟨e,_⟩:=(O₂.at_ b hb)
    exact ⟨oldNone b o e (O₂.sig b hb).1,(O₂.sig b hb).2⟩
   ·obtain ⟨o⟩|⟨e,nn⟩:=(O₂.at_ b hb)
    exact ⟨o,ex b o (fun z=>hCK (z ▸ hb)) (O₂.sig b hb).2.2.2.1 e (O₂.sig b hb).1,nn⟩
   ·exact K.keep H' (fun b hb o e=>ex b o (fun z=>hCK (z ▸ hb)) (O₂.sig b hb).2.2.2.1 e (O₂.sig b hb).1) t₃
   ·obtain ⟨o,e⟩:=hCo;exact oldNone C o e zC
   ·obtain ⟨o,e⟩:=hDo;exact oldNone D o e zD
  refine Zm (turn _ C v rest ys σ₁ i₁ val { s' with heap:=h',toks:=t } r S₂') (fun _ s₃ p=>?_) fun _ _ p=>p.no.elim
  obtain ⟨ρ₃,σ₃,S₃,y₃,g₃⟩:=p
  refine Zm (g₃ s₃ S₃) (fun b s₄ p=>?_) fun _ _ p=>p.no.elim
  obtain ⟨b',σ₄,rfl,S₄,y₄,g₄⟩:=p
  cases b with
  | false =>
   refine an9 (back σ₄ ρ₃ s₄ S₄ (y₃.trans y₄)) fun a1 a2 a3 a4 a5 a6 a7 a8 a9=>?_
   exact ⟨rest.length,Nat.lt_succ_self _,σ₄,rest,ys,vs,a1,a2,a3,g₄,a4,rfl,by simp only [length_cons] at hl;walk_at "o",a5,a6,a7,a8,a9⟩
  | true =>
   refine Zm (g₄ s₄ S₄) (fun x s₅ p=>?_) fun _ _ p=>p.no.elim
   obtain ⟨yv,σ₅,r₅,S₅,y₅,g₅⟩:=p
   refine an9 (back σ₅ ρ₃ s₅ S₅ ((y₃.trans y₄).trans y₅)) fun a1 a2 a3 a4 a5 a6 a7 a8 a9=>?_
   have hlen:=a6.length
   refine wpAny_list_append_plain (hsz:=by simp only [length_cons] at hl;rw [size_toArray];walk_at "o") a5 fun h₆ l₆ hs=>?_
   obtain ⟨n₅,eD⟩:=a5
   have t₆:TupKept s₅.heap h₆:=aw hs.extBut eD fun q=>by simp at q
   have S₆:St c ρ σ₅ h₆:=a1.move (W:=fun b=>b=D) (fun b o nb e=>hs.extBut b o nb e) (fun b z=>z ▸ fD.2.1) (fun b hb z=>fD.2.2.1 (z ▸ hb)) (fun b hb z=>fD.2.2.2.1 (z ▸ hb)) (fun x hx z=>fD.2.2.2.2 x hx z.symm)
    (fun b o e z=>by rw [z,a9] at e;cases e) t₆
   refine ⟨rest.length,Nat.lt_succ_self _,σ₅,rest,ys++[yv],vs++[x],S₆,⟨a2.sig,fun b hb=>?_⟩,?_,g₅,?_,rfl,by simp only [length_cons,length_append,length_nil] at hl ⊢;walk_at "o",by simpa using l₆,(a6.append (.cons r₅ .nil)).keep t₆,?_,a8,a9⟩
   ·obtain ⟨o⟩|⟨e,nn⟩:=(a2.at_ b hb)
    exact ⟨o,hs.extBut b o (fun z=>hDK (z ▸ hb)) e,nn⟩
   ·exact K.keep a3 (fun b hb o e=>hs.extBut b o (fun z=>hDK (z ▸ hb)) e) t₆
   ·refine ⟨fun b o e q nb=>?_,fun b o e=>?_,a4.grow,a4.gens,a4.os⟩
    ·obtain ⟨sl⟩|⟨e',f⟩:=(a4.kept b o e q nb)
     exact ⟨sl,hs.extBut b _ (fun z=>by rw [z,hD] at e;cases e) e',f⟩
    ·obtain ⟨o',e'⟩:=a4.there b o e
     exact ⟨o',hs.extBut b _ (fun z=>by rw [z,hD] at e;cases e) e'⟩
   ·obtain ⟨m,q⟩:=a7;exact ⟨m,q.sameBut hs CD⟩
end
end
section
variable {c:Cx}{ρ ρ':List NV}{σ σ₀ σ₁ σ' τ:AState}{h h' B:Heap}{s s₀ s₁ s':Shared}{Q:AVal->AState->Prop}{X:AExc->AState->Prop}
variable {scope:Scope}{C D:Addr}{target elt iter:Expr}{ifs:List Expr}{pos:Pos}
theorem ct (y:Step c σ₀ s₀ σ s) {b:Addr} (e:s.heap.get? b=none):s₀.heap.get? b=none:=by
 cases q:s₀.heap.get? b with
 | none=>rfl
 | some o=>obtain ⟨o',e'⟩:=y.there b o q;rw [e] at e';cases e'
theorem Step.tell {ao:AObj} (y:Step c σ₀ s₀ σ s) (hD:s₀.heap.get? D=none):Step c σ₀ s₀ (σ.set D ao) s :=
 ⟨y.kept,y.there,fun b o e q=>by rw [Zn (by rintro rfl;rw [hD] at e;cases e)];exact y.grow b o e q,y.gens,y.os⟩
theorem Step.later {t:Nat} (y:Step c σ₀ s₀ σ s) (k:∀ b o,b≠C->s.heap.get? b=some o->h'.get? b=some o) (hC:s₀.heap.get? C=none):Step c σ₀ s₀ σ { s with heap:=h',toks:=t }:=by
 refine ⟨fun b o e q n=>?_,fun b o e=>?_,y.grow,y.gens,y.os⟩
 ·obtain ⟨sl⟩|⟨e',f⟩:=(y.kept b o e q n)
  exact ⟨sl,k b _ (by rintro rfl;rw [hC] at e;cases e) e',f⟩
 ·obtain ⟨o',e'⟩:=y.there b o e
  exact ⟨o',k b _ (by rintro rfl;rw [hC] at e;cases e) e'⟩
theorem ip {RR:Value->Addr->Result->Shared->Prop}{E:Value->Shared->Prop}{K:ItK c target} (hf:c.fn=true) (n:CompNames ρ scope.names ρ') (ok:CompOk scope) (I:List AVal->List AVal->AState->Prop)
  (hn:∀ r ys σ,I r ys σ->K.need σ) (turn:∀ cl C,CTurn (c.comp scope cl C) ρ' target ifs elt I)
  (items:List AVal) (hsz:items.length<=sizeLine) (S:St c ρ σ s.heap) (O:K.Off σ s.heap) (H:K.holds s.heap items) (hi:I items [] σ) (y:Step c σ₀ s₀ σ s) (nK:∀ b∈K.ads,s₀.heap.get? b=none)
  (hR:∀ s' σ' ys (vs:List Value) m C D,C≠D->s₀.heap.get? C=none->s₀.heap.get? D=none->(c.G.get? D=none/\D∉c.own/\D∉c.frames/\∀ x∈c.env.cells,D≠x.2)->(c.G.get? C=none/\C∉c.own/\C∉c.frames/\∀ x∈c.env.cells,C≠x.2) ->
   St c ρ σ' s'.heap->Step c σ₀ s₀ σ' s'->I [] ys σ'->s'.heap.PlainList D vs.toArray->VRs s'.heap vs ys->s'.heap.Ns C m->σ' D=none->σ' C=none->RR (.ref D) C (.ok .next) s') :
  wpAny (model c.prog c.w) c.A (newList []) (fun acc s₃=>wpAny (model c.prog c.w) c.A (newFunctionEnv scope c.env.globals (au c.env scope.names []) [] c.env.qual none .none (some c.env)) (fun cenv s₄ =>
   codeAny (model c.prog c.w) c.A (.compStart (.ListComp elt [⟨target,iter,ifs,0⟩] scope pos) 0 (.ref K.it) acc { cenv with scope:=relabel scope c.env }) (RR acc cenv.locals) s₄) E s₃) E s:=by
 refine wpAny_newObj_type (wpAny_newFunctionEnv n.noCell (by intro y hy;simp at hy) (fun h₁ hns₁ hsb₁=>?_) ok.kind)
 dsimp only at hns₁ hsb₁ ⊢
 generalize hH2:s.heap.push { cls:=.type "list",dict:=none,data:=.seq ([]:List Value).toArray }=H2 at hns₁ hsb₁ ⊢
 have hDn:=ag s.heap
 have hCn:s.heap.get? H2.objs.size=none:=by
  refine Heap.get?_none_of_le ?_
  rw [<- hH2,Heap.size_push];exact Nat.le_succ _
 have hCD:H2.objs.size≠s.heap.objs.size:=by rw [<- hH2,Heap.size_push];exact Nat.succ_ne_self _
 have old:∀ b o,s.heap.get? b=some o->h₁.get? b=some o:=fun b o e=>hsb₁.extBut b o (by rintro rfl;rw [hCn] at e;cases e) (Zu _ (hH2 ▸ Zu _ e))
 have hacc:h₁.PlainList s.heap.objs.size #[]:=⟨_,hsb₁.extBut _ _ hCD.symm (Zu _ (hH2 ▸ Zz _ rfl))⟩
 have fC:=S.new_off hCn
 have fD:=S.new_off hDn
 have loop:codeAny (model c.prog c.w) c.A (.compLoop (.ListComp elt [⟨target,iter,ifs,0⟩] scope pos) 0 (.ref K.it) (.ref s.heap.objs.size) (c.comp scope (au c.env scope.names []) H2.objs.size).env)
    (RR (.ref s.heap.objs.size) H2.objs.size) { s with heap:=h₁,toks:=s.toks+([]:List (Str × Value)).length }:=by
  have S₁:St c ρ σ h₁:=S.ext old
  have y₁:Step c σ₀ s₀ σ { s with heap:=h₁,toks:=s.toks+([]:List (Str × Value)).length }:=y.trans (Step.ext old)
  refine nA (R:=RR (.ref s.heap.objs.size) H2.objs.size) (s:={ s with heap:=h₁,toks:=s.toks+([]:List (Str × Value)).length }) hf n ok I hn turn items hsz S₁ ⟨O.sig,fun b hb=>let ⟨o,e,z⟩:=O.at_ b hb;⟨o,old b o e,z⟩⟩ (K.keep H (fun b _ o e=>old b o e) (aq old)) hi y₁ nK
   (ct y hCn) (ct y hDn) ⟨S.none_of hCn,fC⟩ ⟨S.none_of hDn,fD⟩ hCD (fun z=>?_) (fun z=>?_) ⟨_,hns₁⟩ hacc fun s' σ' ys vs m a1 a2 a3 a4 a5 a6 a7 a8=>hR s' σ' ys vs m _ _ hCD (ct y hCn) (ct y hDn) fD fC a1 a2 a3 a4 a5 a6 a7 a8
  ·obtain ⟨o⟩|⟨e,_⟩:=(O.at_ _ z)
   rw [hCn] at e;cases e
  ·obtain ⟨o⟩|⟨e,_⟩:=(O.at_ _ z)
   rw [hDn] at e;cases e
 refine codeAny_compStart_list loop (K.self (σ:=σ) (items:=items) (ρ:=ρ) (S.ext old) (hn _ _ _ hi) (K.keep H (fun b _ o e=>old b o e) (aq old)) loop)
theorem CompNames.closure {ns:List (Str × NameKind)} (n:CompNames ρ ns ρ') (S:St c ρ σ h):∀ x∈ns,x.2=.free->(c.env.cells.lookup x.1).isSome:=fun x hx e=>by
 obtain ⟨a,m⟩:=n.frees x hx e
 obtain ⟨b,hb⟩:=S.ok.cellsOf (x.1,.cell) (S.names ▸ mem_map_of_mem (f:=fun e:NV=>(e.name,e.kind)) m) rfl
 rw [hb];rfl
inductive CIter (c:Cx) (target:Expr) (I:List AVal->List AVal->AState->Prop) (a:AVal) (σ:AState):Prop
 | mk (items:List AVal) (need:AState->Prop) (it:ItOf c target a items need σ) (hz:items.length<=sizeLine) (i:I items [] σ) (k:∀ r ys σ,I r ys σ->need σ)
inductive CompAt (c:Cx) (ρ':List NV) (target:Expr) (ifs:List Expr) (elt:Expr) (scope:Scope) (D:AState->Addr->List AVal->Prop) (a:AVal) (σ:AState):Prop
 | mk (I:List AVal->List AVal->AState->Prop) (it:CIter c target I a σ) (turn:∀ cl C,CTurn (c.comp scope cl C) ρ' target ifs elt I) (done:∀ ys σ₁ D',I [] ys σ₁->σ₁ D'=none->D σ₁ D' ys)
theorem ev_listcomp (hf:c.fn=true) (n:CompNames ρ scope.names ρ') (ok:CompOk scope)
  (g:Ev c ρ iter σ (CompAt c ρ' target ifs elt scope fun σ₁ D ys=>Q (.ref D) (σ₁.set D (.list ys))) X) (hs:∀ x,foldedSetIterable iter c.env x=pure x:=by with_unfolding_all (intro _;rfl)) :
  Ev c ρ (.ListComp elt [⟨target,iter,ifs,0⟩] scope pos) σ Q X:=fun s S=>by
 rw [eval_ListComp]
 refine wpAny_comprehension_free (use:=none) rfl hs (cV (n.closure S)) ok.kind (fun x hx e=>by rw [<- e];exact av ok.nodup hx) ?_
 show wpAny _ _ (eval iter c.env) _ _ s
 refine g.use S fun xv s₁ a σ₁ r₁ S₁ y₁ g₁=>?_
 obtain ⟨I,⟨items,need,io,hsz,hi,hn⟩,turn,done⟩:=g₁
 refine io ρ s₁ xv _ _ S₁ r₁ fun K s₂ hk S₂ y₂ O H nK=>?_
 subst hk
 refine ip (RR:=fun acc C=>compPost (model c.prog c.w) c.A (XPost c ρ σ s X) none (GPost VR c ρ σ s Q) acc C) hf n ok I hn turn items hsz S₂ O H hi (y₁.trans y₂) (fun b hb=>ct y₁ (nK b hb)) ?_
 intro s' σ' ys vs m C D hCD hC hD fD fC S' y' i' lD rD nC zD zC
 refine ⟨m,nC,fun h' hsb=>?_⟩
 obtain ⟨nn,eD⟩:=lD
 have kp:∀ b o,b≠C->s'.heap.get? b=some o->h'.get? b=some o:=fun b o nb e=>hsb.extBut b o nb e
 have t:TupKept s'.heap h':=by
  obtain ⟨om,es,ep⟩|⟨ho,hd,_⟩:=nC
  exact aw hsb.extBut ho fun _ xs k q=>by rw [hd] at q;cases q
 have S'':St c ρ σ' h':=S'.move (W:=fun b=>b=C) kp (fun b z=>z ▸ fC.1) (fun b hb z=>fC.2.1 (z ▸ hb)) (fun b hb z=>fC.2.2.1 (z ▸ hb)) (fun x hx z=>fC.2.2.2 x hx z.symm) (fun b o e z=>by rw [z,zC] at e;cases e) t
 exact ⟨.ref D,σ'.set D (.list ys),.ref D,S''.add (.list (kp D _ hCD.symm eD) (rD.keep t)) fD,(y'.later (t:=s'.toks) kp hC).tell hD,done ys σ' D i' zD⟩
theorem cy {N:List NV->AState->Prop}{R:AVal->AState->Prop}{XS:AExc->List NV->AState->Prop}{x:Str}{py p:Pos} (hf:c.fn=true) (n:CompNames ρ scope.names ρ') (ok:CompOk scope)
  (g:Ev c ρ iter σ (CompAt c ρ' target ifs elt scope fun σ₁ D ys=>Puts ρ x (.ref D) N (σ₁.set D (.list ys))) (XAt XS ρ))
  (hsw:swapsWith (.ListComp elt [⟨target,iter,ifs,0⟩] scope pos) (some (.Name x py)) p.line c.env=pure true)
  (hs:∀ x,foldedSetIterable iter c.env x=pure x:=by with_unfolding_all (intro _;rfl)) :
  WS c ρ (.Assign [.Name x py] (.ListComp elt [⟨target,iter,ifs,0⟩] scope pos) p) σ N R XS:=fun s S=>by
 rw [exec_Assign_Name_used _ _ _ _ hsw]
 refine Zb (wpAny_standAt (Zb ?_))
 show wpAny _ _ (do let _ <- comprehension (.ListComp elt [⟨target,iter,ifs,0⟩] scope pos) scope c.env _ (newList []) false (eval iter c.env) (some (assign (.Name x py) c.env))) _ _ s
 refine Zb (Zm (wpAny_comprehension_free (use:=some (assign (.Name x py) c.env)) (Q:=fun _ s'=>FPost c σ s N R .next s') rfl hs (cV (n.closure S)) ok.kind (fun x hx e=>by rw [<- e];exact av ok.nodup hx) ?_) (fun _ s' hq=>Zp (Zp hq)) fun _ _ e=>e)
 refine g.useS S fun xv s₁ a σ₁ r₁ S₁ y₁ g₁=>?_
 obtain ⟨I,⟨items,need,io,hsz,hi,hn⟩,turn,done⟩:=g₁
 refine io ρ s₁ xv _ _ S₁ r₁ fun K s₂ hk S₂ y₂ O H nK=>?_
 subst hk
 refine ip (RR:=fun acc C=>compPost (model c.prog c.w) c.A (XSPost c σ s XS) (some (assign (.Name x py) c.env)) (fun _ s'=>FPost c σ s N R .next s') acc C) hf n ok I hn turn items hsz S₂ O H hi (y₁.trans y₂) (fun b hb=>ct y₁ (nK b hb)) ?_
 intro s' σ' ys vs m C D hCD hC hD fD fC S' y' i' lD rD nC zD zC
 obtain ⟨ρ₂,pp,hN⟩:=done ys σ' D i' zD
 have S₃:St c ρ (σ'.set D (.list ys)) s'.heap:=let ⟨nn,eD⟩:=lD;S'.add (.list eD rD) fD
 show wpAny _ _ (assign (.Name x py) c.env (.ref D)) _ _ s'
 refine wpAny_assign_Name ?_
 refine bc S₃ pp (.ref D) (.inl hf) fun s₄ S₄ y₄=>?_
 have zC':(σ'.set D (.list ys)) C=none:=by rw [Zn hCD];exact zC
 have nC₄:∃ m,s₄.heap.Ns C m:=by
  obtain ⟨om,es,ep⟩|⟨ho,r⟩:=nC
  exact ⟨m,om,es,ep,y₄.exact ho zC' fC.2.1 fC.2.2.1,r⟩
 obtain ⟨m₄,nC₄⟩:=nC₄
 refine ⟨m₄,nC₄,fun h' hsb=>?_⟩
 have kp:∀ b o,b≠C->s₄.heap.get? b=some o->h'.get? b=some o:=fun b o nb e=>hsb.extBut b o nb e
 have t:TupKept s₄.heap h':=by
  obtain ⟨om,es,ep⟩|⟨ho,hd,_⟩:=nC₄
  exact aw hsb.extBut ho fun _ xs k q=>by rw [hd] at q;cases q
 have S₅:St c ρ₂ (σ'.set D (.list ys)) h':=S₄.move (W:=fun b=>b=C) kp (fun b z=>z ▸ fC.1) (fun b hb z=>fC.2.1 (z ▸ hb)) (fun b hb z=>fC.2.2.1 (z ▸ hb)) (fun x hx z=>fC.2.2.2 x hx z.symm) (fun b o e z=>by rw [z,zC'] at e;cases e) t
 exact ⟨ρ₂,_,S₅,((y'.tell hD).trans y₄).later (t:=s₄.toks) kp hC,hN⟩
end
section
variable {c:Cx}{ρ ρ':List NV}{σ σ₀ σ₁ σ' τ:AState}{h h' B:Heap}{s s₀ s₁ s':Shared}{Q:AVal->AState->Prop}{X:AExc->AState->Prop}
structure FnIn (G:Heap) (a:Addr) (fd:FuncData):Prop where
 obj:∃ o,G.get? a=some o/\o.data=.func fd
 code:G.CodeRec fd.code fd.qualname
structure FnOk (fd:FuncData):Prop where
 clo:fd.closure=[]
 co:fd.scope.isCoroutine=false
 gen:fd.scope.isGenerator=false
 kind:fd.scope.kind=.function
 glob:fd.globals=mainGlobals
 blt:fd.builtins=builtinsNs
 nodup:(fd.scope.names.map (·.1)).Nodup
 tame:fd.scope.names.all (fun n=>n.1 != ("__debug__" : Str) && n.1 != ("__classdict__" : Str))=true
def Cx.call (c:Cx) (fd:FuncData) (a L:Addr):Cx :=
 { c with A:=c.A.deeper (callEnvC fd L a),env:=callEnvC fd L a,fenv:=callEnvC fd L a,outer:=c.fenv::c.outer,own:=L::(cellsFrom (L+1) fd.scope.names []).map (·.2),lv:=c.lv - 1,fn:=true }
theorem Cx.cmC {c:Cx}{fd:FuncData}{a L:Addr} (h:c.calm=true):(c.call fd a L).calm=true:=h
def bI:List (Str × NameKind)->List AVal->List NV
 | (x,k)::ns,a::as=>⟨x,k,some a⟩::bI ns as
 | (x,k)::ns,[]=>⟨x,k,none⟩::bI ns []
 | [],_=>[]
theorem cq:∀ (ns:List (Str × NameKind)) (as:List AVal),(bI ns as).map (fun e=>(e.name,e.kind))=ns
 | (x,k)::ns,a::as=>by show (x,k)::_=_;rw [cq ns as]
 | (x,k)::ns,[]=>by show (x,k)::_=_;rw [cq ns []]
 | [],_=>rfl
theorem ld {ns:List (Str × NameKind)}:∀ {e:NV},e∈bI ns []->e.val=none:=by
 induction ns with
 | nil=>intro e h;cases h
 | cons y ns ih =>
  intro e h
  rcases ZC h with rfl | h
  ·rfl
  ·exact ih h
theorem iX {ns:List (Str × NameKind)}:∀ {as:List AVal}{vs:List Value},VRs h vs as->∀ e∈bI ns as,∀ a,e.val=some a->∃ v,(e.name,v)∈(ns.map (·.1)).zip vs/\VR h v a/\(e.name,e.kind)∈ns.take as.length:=by
 induction ns with
 | nil=>intro as vs r e he;cases he
 | cons y ns ih =>
  intro as vs r e he a ha
  cases r with
  | nil=>rw [ld he] at ha;cases ha
  | cons rv rs =>
   rcases ZC he with rfl | he
   ·cases ha;exact ⟨_,.head _,rv,.head _⟩
   ·obtain ⟨w⟩|⟨m,r,q⟩:=(ih rs e he a ha)
    exact ⟨w,.tail _ m,r,.tail _ q⟩
theorem pH {kf:Str->Option NameKind}{bs:List (Str × Value)}:∀ {m:Str->Option Value}{x:Str},(∀ b∈bs,b.1≠x)->bindL kf bs m x=m x:=by
 induction bs with
 | nil=>intros;rfl
 | cons b r ih =>
  intro m x hh
  show bindL kf r _ x=_
  rw [ih fun b hb=>hh b (.tail _ hb)]
  split
  ·exact if_neg (hh _ (.head _)).symm
  ·rfl
theorem jE {kf:Str->Option NameKind}{bs:List (Str × Value)}:∀ {m:Str->Option Value}{x:Str}{v:Value},(bs.map (·.1)).Nodup->(x,v)∈bs->kf x=some .local->bindL kf bs m x=some v:=by
 induction bs with
 | nil=>intro m x v nd hm;cases hm
 | cons b r ih =>
  intro m x v nd hm hk
  rw [map_cons,nodup_cons] at nd
  show bindL kf r _ x=_
  rcases ZC hm with rfl | hm
  ·have far:∀ b∈r,b.1≠x:=fun b hb q=>nd.1 (by rw [<- q];exact mem_map_of_mem (f:=(·.1)) hb)
   rw [pH far,if_pos hk]
   exact if_pos rfl
  ·exact ih nd.2 hm hk
theorem pj {kf:Str->Option NameKind}{bs:List (Str × Value)}:∀ {m:Str->Option Value}{x:Str},(∀ b∈bs,b.1≠x)->bindC kf bs m x=m x:=by
 induction bs with
 | nil=>intros;rfl
 | cons b r ih =>
  intro m x hh
  show bindC kf r _ x=_
  rw [ih fun b hb=>hh b (.tail _ hb)]
  split
  ·rfl
  ·exact if_neg (hh _ (.head _)).symm
theorem jJ {kf:Str->Option NameKind}{bs:List (Str × Value)}:∀ {m:Str->Option Value}{x:Str}{v:Value},(bs.map (·.1)).Nodup->(x,v)∈bs->kf x=some .cell->bindC kf bs m x=some v:=by
 induction bs with
 | nil=>intro m x v nd hm;cases hm
 | cons b r ih =>
  intro m x v nd hm hk
  rw [map_cons,nodup_cons] at nd
  show bindC kf r _ x=_
  rcases ZC hm with rfl | hm
  ·have far:∀ b∈r,b.1≠x:=fun b hb q=>nd.1 (by rw [<- q];exact mem_map_of_mem (f:=(·.1)) hb)
   rw [pj far,if_neg (by rw [hk];simp)]
   exact if_pos rfl
  ·exact ih nd.2 hm hk
theorem cD:∀ {ns:List (Str × NameKind)}{n:Nat}{acc:List (Str × Addr)}{y:Str × Addr},y∈acc->y∈cellsFrom n ns acc
 | [],_,_,_,m=>m
 | (x,k)::ns,n,acc,y,m=>by
  unfold cellsFrom
  split
  ·exact cD (.tail _ m)
  ·exact cD m
theorem bA {ns:List (Str × NameKind)}{n:Nat}{acc:List (Str × Addr)}{x:Str} (m:(x,.cell)∈ns):∃ b,(x,b)∈cellsFrom n ns acc:=by
 induction ns generalizing n acc with
 | nil=>cases m
 | cons y ns ih =>
  obtain ⟨y,k⟩:=y
  unfold cellsFrom
  rcases ZC m with e | m
  ·cases e;exact ⟨_,by rw [if_pos (by rfl)];exact cD (.head _)⟩
  ·split
   ·exact ih m
   ·exact ih m
theorem bT {ns:List (Str × NameKind)}{n:Nat}{acc:List (Str × Addr)} (h1:(ns.map (·.1)).Nodup) (h2:(acc.map (·.1)).Nodup) (h3:∀ x∈ns,x.1∉acc.map (·.1)):((cellsFrom n ns acc).map (·.1)).Nodup:=by
 induction ns generalizing n acc with
 | nil=>exact h2
 | cons x ns ih =>
  obtain ⟨x,k⟩:=x
  rw [map_cons,nodup_cons] at h1
  unfold cellsFrom
  split
  ·refine ih h1.2 ?_ fun y hy q=>?_
   ·rw [map_cons,nodup_cons];exact ⟨h3 _ (.head _),h2⟩
   ·rw [map_cons,mem_cons] at q
    rcases q with q | q
    ·exact h1.1 (q ▸ mem_map_of_mem (f:=(·.1)) hy)
    ·exact h3 y (.tail _ hy) q
  ·exact ih h1.2 h2 fun y hy=>h3 y (.tail _ hy)
theorem gu {α β:Type}:∀ {l:List α}{r:List β},l.Nodup->((l.zip r).map (·.1)).Nodup
 | [],_,_=>by simp
 | _::_,[],_=>by simp
 | x::l,y::r,n=>by
  rw [nodup_cons] at n
  rw [zip_cons_cons,map_cons,nodup_cons]
  refine ⟨fun q=>?_,gu n.2⟩
  obtain ⟨z⟩|⟨hz,e⟩:=(ZM q)
  obtain ⟨z1,z2⟩:=z
  have:=(List.of_mem_zip hz).1
  exact n.1 (by have e:z1=x:=e;rw [<- e];exact this)
theorem St.enter {fd:FuncData}{a:Addr}{as:List AVal}{vs:List Value} (S:St c ρ σ s.heap) (lv:1<=c.lv) (ok:FnOk fd) (r:VRs s.heap vs as)
  (hkind:∀ x∈fd.scope.names.take as.length,x.2=.local\/x.2=.cell)
  (x:InCallC s (callEnvC fd s.heap.objs.size a).locals (bindL (callEnvC fd s.heap.objs.size a).kindOf ((fd.scope.names.map (·.1)).zip vs) fun _=>none) (callEnvC fd s.heap.objs.size a).cells
    (bindC (callEnvC fd s.heap.objs.size a).kindOf ((fd.scope.names.map (·.1)).zip vs) fun _=>none) s₁) :
  St (c.call fd a s.heap.objs.size) (bI fd.scope.names as) σ s₁.heap/\Step c σ s σ s₁:=by
 obtain ⟨⟨⟨hh,tk,rfl⟩,ns,keep,fresh⟩,cell,apart,above⟩:=x
 have cs:(callEnvC fd s.heap.objs.size a).cells=cellsFrom (s.heap.objs.size+1) fd.scope.names []:=rfl
 have hL:s.heap.get? s.heap.objs.size=none:=ag _
 have cn:=bT (n:=s.heap.objs.size+1) (acc:=[]) ok.nodup (by simp) (by simp)
 have clk:∀ y∈cellsFrom (s.heap.objs.size+1) fd.scope.names [],(cellsFrom (s.heap.objs.size+1) fd.scope.names []).lookup y.1=some y.2:=fun y hy=>av cn hy
 have cnew:∀ y∈cellsFrom (s.heap.objs.size+1) fd.scope.names [],s.heap.get? y.2=none:=fun y hy=>Heap.get?_none_of_le (Nat.le_of_lt (above y.1 y.2 hy))
 have owns:∀ b∈(c.call fd a s.heap.objs.size).own,s.heap.get? b=none:=fun b hb=>by
  rcases ZC hb with rfl | hb
  ·exact hL
  ·obtain ⟨y⟩|⟨hy,rfl⟩:=(ZM hb)
   exact cnew y hy
 have t:TupKept s.heap hh:=aq keep
 refine ⟨⟨⟨?_,S.ok.hd,S.ok.gd,?_,?_,ok.kind,ok.glob,ok.blt,S.ok.KG,S.ok.lim,S.ok.bg,S.ok.sm,.head _,?_,fun y hy=>?_,fun y hy e=>?_,fun _=>rfl,fun _ y hy=>?_,ok.nodup,ok.tame⟩,fun b o e=>keep b o (S.base b o e),?_,cq ..,⟨_,ns⟩,fun y hy=>?_,fun e he a' ha=>?_,fun b o e=>?_,fun b o e=>?_,fun b hb=>?_⟩,Step.ext keep⟩
 ·show c.A.frames.map _=_;rw [S.ok.fr];rfl
 ·have:=S.ok.depth
  show c.A.depth+1+8 * (c.lv - 1)<=900
  walk_at "o"
 ·have:=S.ok.units
  show c.A.units+3+40 * (c.lv - 1)<=9000
  walk_at "o"
 ·show ((cellsFrom (s.heap.objs.size+1) fd.scope.names []).map (·.2)).Nodup
  rw [List.Nodup,pairwise_map]
  exact apart
 ·have:=above y.1 y.2 hy
  exact fun q=>Nat.lt_irrefl _ (q ▸ this)
 ·obtain ⟨n,k⟩:=y
  cases e
  obtain ⟨b,hb⟩:=bA (n:=s.heap.objs.size+1) (acc:=[]) (show (n,NameKind.cell)∈fd.scope.names from hy)
  exact ⟨b,av cn hb⟩
 ·exact .tail _ (mem_map_of_mem (f:=(·.2)) hy)
 ·refine Heap.FunFrames.cons (m:=_) (by show fd.scope.kind≠.module;rw [ok.kind];simp) rfl ns ?_ (bH S.frames fun b _ o e=>⟨o,keep b o e,rfl⟩)
  cases q:c.G.get? s.heap.objs.size with
  | none=>exact q
  | some o=>have:=S.base _ o q;rw [hL] at this;cases this
 ·exact ⟨_,cell y.1 y.2 (clk y hy)⟩
 ·obtain ⟨v⟩|⟨m,rv,q⟩:=(iX r e he a' ha)
  have nd:=gu (r:=vs) ok.nodup
  have kq:=hkind _ q
  have mem:(e.name,e.kind)∈fd.scope.names:=mem_of_mem_take q
  have lk:(callEnvC fd s.heap.objs.size a).kindOf e.name=some e.kind:=av ok.nodup mem
  refine ⟨v,?_,rv.keep t⟩
  rcases kq with kq | kq
  ·simp only at kq
   rw [kq] at lk ⊢
   exact ⟨_,ns,jE nd m lk⟩
  ·simp only at kq
   rw [kq] at lk mem ⊢
   obtain ⟨b,hb⟩:=bA (n:=s.heap.objs.size+1) (acc:=[]) mem
   have hb':=av cn hb
   refine ⟨b,hb',?_⟩
   have:=cell e.name b hb'
   rw [jJ nd m lk] at this
   exact this
 ·exact (S.obj b o e).keepB t fun ob q=>keep b ob q
 ·obtain ⟨ob⟩|⟨q,_⟩:=((S.obj b o e).here)
  refine an4 (S.off b o e) fun f1 f2 f3 f4=>?_
  refine ⟨f1,fun z=>?_,fun z=>?_,fun y hy z=>?_⟩
  ·rw [owns b z] at q;cases q
  ·have:(c.call fd a s.heap.objs.size).frames=s.heap.objs.size::c.frames:=rfl
   rw [this] at z
   rcases ZC z with rfl | z
   ·rw [hL] at q;cases q
   ·exact f3 z
  ·subst z;rw [cnew y hy] at q;cases q
 ·refine ⟨?_,?_⟩
  ·cases q:c.G.get? b with
   | none=>exact q
   | some o =>
    have:=S.base b o q;rw [owns b hb] at this;cases this
  ·rcases ZC hb with rfl | hb
   ·obtain ⟨o,es,ep⟩|⟨ho,hd,_⟩:=ns
    exact ⟨o,ho,fun xs n q=>by rw [hd] at q;cases q⟩
   ·obtain ⟨y⟩|⟨hy,rfl⟩:=(ZM hb)
    obtain ⟨o⟩|⟨ho,hd⟩:=(cell y.1 y.2 (clk y hy))
    exact ⟨o,ho,fun xs n q=>by rw [hd] at q;cases q⟩
end
theorem me {ns:List (Str × NameKind)}:∀ {vs:List Value}{x:Str × Value},x∈(ns.map (·.1)).zip vs->∃ k,(x.1,k)∈ns.take vs.length:=by
 induction ns with
 | nil=>intro vs x hx;cases hx
 | cons y ns ih =>
  intro vs x hx
  cases vs with
  | nil=>cases hx
  | cons v vs =>
   rcases ZC hx with e | hx
   ·rw [e];exact ⟨y.2,.head _⟩
   ·exact ex1 (ih hx) fun k hk=>⟨k,.tail _ hk⟩
section
variable {c:Cx}{ρ ρ':List NV}{σ σ₀ σ₁ σ' τ:AState}{h h' B:Heap}{s s₀ s₁ s₂ s':Shared}{Q:AVal->AState->Prop}{X:AExc->AState->Prop}
theorem St.leave {fd:FuncData}{a:Addr} (S:St c ρ σ s.heap) (keep:∀ b o,s.heap.get? b=some o->s₁.heap.get? b=some o) (hg:s₁.gens=s.gens) (ho:s₁.os=s.os) (new:∀ b∈(c.call fd a s.heap.objs.size).own,s.heap.get? b=none)
  (S':St (c.call fd a s.heap.objs.size) ρ' σ' s₂.heap) (y:Step (c.call fd a s.heap.objs.size) σ s₁ σ' s₂):St c ρ σ' s₂.heap/\Step c σ s σ' s₂:=by
 have fr:(c.call fd a s.heap.objs.size).frames=s.heap.objs.size::c.frames:=rfl
 have kp:∀ b o,s.heap.get? b=some o->σ b=none->∃ sl,s₂.heap.get? b=some { o with slots:=sl }/\(b∉c.frames->sl=o.slots):=fun b o e q=>by
  obtain ⟨sl'⟩|⟨e'',f'⟩:=(y.kept b _ (keep b o e) q (fun z=>by rw [new b z] at e;cases e))
  refine ⟨sl',e'',fun z=>f' ?_⟩
  rw [fr]
  intro w
  rcases ZC w with rfl | w
  ·rw [ag] at e;cases e
  ·exact z w
 have ow:∀ b,b∈c.own\/(∃ x∈c.env.cells,b=x.2)->σ b=none:=fun b hb=>by
  cases q:σ b with
  | none=>rfl
  | some o =>
   have:=S.off b o q
   rcases hb with hb | ⟨x,hx,rfl⟩
   ·exact absurd hb this.2.1
   ·exact absurd rfl (this.2.2.2 x hx)
 have live:∀ b,b∈c.own\/(∃ x∈c.env.cells,b=x.2)->∃ o,s.heap.get? b=some o:=fun b hb=>by
  rcases hb with hb | ⟨x,hx,rfl⟩
  ·obtain ⟨_,o,e,_⟩:=S.ownNew b hb;exact ⟨o,e⟩
  ·obtain ⟨_,o⟩|⟨e,_⟩:=(S.cellsAt x hx)
   exact ⟨o,e⟩
 have st:Step c σ s σ' s₂:=⟨fun b o e q _=>kp b o e q,fun b o e=>y.there b o (keep b o e),fun b o e q=>y.grow b o (keep b o e) q,y.gens.trans hg,y.os.trans ho⟩
 refine ⟨S.back (st.tup S) (fun b o hb e=>?_) (fun b o q=>?_) S'.base S'.frames.2.2 S'.obj,st⟩
 ·obtain ⟨sl⟩|⟨e',_⟩:=(kp b o e (ow b hb))
  exact ⟨sl,e'⟩
 ·refine an4 (S'.off b o q) fun f1 f2 f3 f4=>?_
  refine ⟨f1,fun z=>?_,fun z=>f3 (by rw [fr];exact .tail _ z),fun x hx z=>?_⟩
  ·obtain ⟨ob,e⟩:=live b (.inl z)
   have:=st.grow b ob e (ow b (.inl z));rw [q] at this;cases this
  ·obtain ⟨ob,e⟩:=live b (.inr ⟨x,hx,z⟩)
   have:=st.grow b ob e (ow b (.inr ⟨x,hx,z⟩));rw [q] at this;cases this
theorem Flies.leave {fd:FuncData}{a e:Addr}{x:AExc}{P:Addr->Prop}{fl:Option Value} (S:St c ρ σ s.heap) (keep:∀ b o,s.heap.get? b=some o->s₁.heap.get? b=some o) (S':St (c.call fd a s.heap.objs.size) ρ' σ' s₂.heap)
  (F:Flies (c.call fd a s.heap.objs.size) σ' s₁ e x fl s₂.heap B P) (off:σ' s.heap.objs.size=none):Flies c σ' s e x fl s₂.heap B (fun b=>P b\/b=s.heap.objs.size):=by
 have fr:(c.call fd a s.heap.objs.size).frames=s.heap.objs.size::c.frames:=rfl
 have hL:s.heap.get? s.heap.objs.size=none:=ag _
 refine an3 S'.frames fun _ h4z _=>?_
 obtain ⟨L',oL,hf,hGL,hoL,hdL⟩:=h4z
 have hf:L'=s.heap.objs.size:=(Option.some.inj hf).symm
 subst hf
 have old:∀ b,s.heap.get? b≠none->b≠s.heap.objs.size:=fun b n z=>n (z ▸ hL)
 have nf:s.heap.objs.size∉c.frames:=fun z=>by
  obtain ⟨_,o,q,_⟩:=Heap.FunFrames.mem S.frames z
  rw [hL] at q;cases q
 refine ⟨F.base,fun b o q=>?_,fun b hb=>?_,F.stays,fun b hb=>F.off b (by rw [fr];exact .tail _ hb),.inl F.own,fun b o hb q=>?_,?_⟩
 ·rcases F.all b o q with z | z | z
  ·rw [fr] at z
   rcases ZC z with rfl | z
   ·exact .inr (.inr (.inr rfl))
   ·exact .inl z
  ·exact .inr (.inl z)
  ·exact .inr (.inr (.inl z))
 ·rcases hb with hb | rfl
  ·refine an6 (F.new b hb) fun n1 n2 n3 n4 n5 n6=>?_
   have n0:s.heap.get? b=none:=by
    cases q:s.heap.get? b with
    | none=>rfl
    | some o=>rw [keep b o q] at n1;cases n1
   refine ⟨n0,n2,n3,fun z=>?_,fun z=>n5 (by rw [fr];exact .tail _ z),fun y hy z=>?_⟩
   ·obtain ⟨_,o,q,_⟩:=S.ownNew b z;rw [n0] at q;cases q
   ·obtain ⟨_,o⟩|⟨q,_⟩:=(S.cellsAt y hy)
    rw [<- z,n0] at q;cases q
  ·refine ⟨hL,F.off _ (by rw [fr];exact .head _),off,fun z=>?_,nf,fun y hy z=>?_⟩
   ·obtain ⟨_,o,q,_⟩:=S.ownNew _ z;rw [hL] at q;cases q
   ·obtain ⟨_,o⟩|⟨q,_⟩:=(S.cellsAt y hy)
    rw [<- z,hL] at q;cases q
 ·rcases hb with hb | rfl
  ·exact F.noTup b o hb q
  ·refine ex4 S'.locs fun m o' es ep h7z=>?_
   refine an3 h7z fun ho' hd' _=>?_
   clear h7z
   have:(c.call fd a s.heap.objs.size).env.locals=s.heap.objs.size:=rfl
   rw [this] at ho'
   rw [q] at ho';cases ho'
   intro _ xs n z;rw [hd'] at z;cases z
 ·obtain ⟨oe,vs,d,m,h1,h2,h3,h4,h5,h6,h7,h8,h9⟩:=F.here
  have h6':s.heap.get? d=none:=by
   cases q:s.heap.get? d with
   | none=>rfl
   | some o=>have:=keep d o q;rw [h6.2.2.1] at this;cases this
  refine ⟨oe,vs,d,m,h1,h2,h3,h4,h5,⟨h6.1,h6.2.1,h6',h6.2.2.2⟩,h7,h8,?_⟩
  cases fl with
  | none=>exact h9
  | some f=>refine ex3 h9 fun T oT ts h8z=>?_;(try clear h9);refine an3 h8z fun q1 q2 q3=>?_;clear h8z;exact ⟨T,oT,ts,q1,.inl q2,q3⟩
def CPost (c:Cx) (ρ:List NV) (σ:AState) (s:Shared) (Q:AVal->AState->Prop) (X:AExc->AState->Prop) (r:Result) (s':Shared):Prop:=match r with
 | .ok (.ret v)=>GPost VR c ρ σ s Q v s'
 | .ok _=>False
 | .error e=>XPost c ρ σ s X e s'
theorem iB {fd:FuncData}{body:List Stmt}{a:Addr}{as₀ as:List AVal} (lv:1<=c.lv) (fi:FnIn c.G a fd) (ok:FnOk fd) (hb:fd.body=.stmts body)
  (hkind:∀ x∈fd.scope.names.take as.length,x.2=.local\/x.2=.cell)
  (hbind:∀ vs s,VRs s.heap vs as₀->c.G.StaysIn s.heap->∃ ws,VRs s.heap ws as/\BindsTo s fd ⟨vs,[]⟩ ((fd.scope.names.map (·.1)).zip ws))
  (g:∀ L,WSs (c.call fd a L) (bI fd.scope.names as) body σ (NQ Q) Q (XF X)) (vs₀:List Value) (s:Shared) (S:St c ρ σ s.heap) (r₀:VRs s.heap vs₀ as₀):codeAny (model c.prog c.w) c.A (.call (.ref a) ⟨vs₀,[]⟩) (CPost c ρ σ s Q X) s:=by
 obtain ⟨vs⟩|⟨r,hbd⟩:=(hbind vs₀ s r₀ S.base)
 refine ex1 fi.obj fun o h10z=>?_
 refine an2 h10z fun ho hd=>?_
 clear h10z
 have hroom:c.A.depth < recursionLimit:=by have:=S.ok.depth;show c.A.depth < 1000;walk_at "o"
 refine codeAny_call_function hroom (S.base _ _ ho) hd ok.co ok.gen hb (fi.code.keeps S.base) (hbd _ _ _ _ ?_)
 rw [ok.clo]
 have mem:∀ x∈(fd.scope.names.map (·.1)).zip vs,∃ k,(x.1,k)∈fd.scope.names.take as.length:=fun x hx=>r.length ▸ me hx
 refine wpAny_newFunctionEnv_cells ok.kind (fun x hx=>?_) fun env he s₁ x=>?_
 ·obtain ⟨k,hk⟩:=mem x hx
  have hk':=mem_of_mem_take hk
  have lk:=av ok.nodup hk'
  rcases hkind _ hk with q | q
  ·simp only at q;subst q;exact .inl lk
  ·simp only at q;subst q
   obtain ⟨b,hb⟩:=bA (n:=s.heap.objs.size+1) (acc:=[]) hk'
   exact .inr ⟨lk,by rw [av (bT ok.nodup (by simp) (by simp)) hb];rfl⟩
 ·subst he
  have keep:=x.toInCall.keep
  obtain ⟨S₁,y₁⟩:=S.enter (a:=a) lv ok r hkind x
  have hg:s₁.gens=s.gens:=y₁.gens
  have hos:s₁.os=s.os:=y₁.os
  have new:∀ b∈(c.call fd a s.heap.objs.size).own,s.heap.get? b=none:=fun b hb=>by
   rcases ZC hb with rfl | hb
   ·exact ag _
   ·obtain ⟨y⟩|⟨hy,rfl⟩:=(ZM hb)
    exact Heap.get?_none_of_le (Nat.le_of_lt (x.above y.1 y.2 hy))
  refine ⟨(S.ok.lim.keeps S.base).keeps keep,codeAny_func ?_⟩
  refine Zm (g s.heap.objs.size s₁ S₁) (fun f s₂ p=>?_) fun e s₂ p=>?_
  ·obtain ⟨ρ',σ',S₂,y₂,q⟩:=p
   obtain ⟨S₃,y₃⟩:=S.leave keep hg hos new S₂ y₂
   cases f with
   | next=>exact ⟨.none,σ',.none,S₃,y₃,q⟩
   | ret v=>refine ex1 q fun b h13z=>?_;(try clear q);refine an2 h13z fun rb q=>?_;clear h13z;exact ⟨b,σ',rb,S₃,y₃,q⟩
   | _=>exact q.elim
  ·obtain ⟨ρ',e,x',σ',rfl,S₂,y₂,⟨fl,B,P,F,hfl⟩,q⟩:=p
   unfold leaving
   obtain ⟨L⟩|⟨hL,_⟩:=(S₂.frameL rfl)
   refine Zb (cu S₂ rfl F y₂ hL hfl fun s₃ B' P' S₃ y₃ F₃=>?_)
   refine bt S₃ F₃ y₃ fun s₄ S₄ y₄ F₄=>?_
   obtain ⟨S₅,y₅⟩:=S.leave keep hg hos new S₄ y₄
   have off:σ' s.heap.objs.size=none:=by
    cases q:σ' s.heap.objs.size with
    | none=>rfl
    | some o=>exact absurd (mem_cons_self ..) (S₄.off _ o q).2.1
   exact ⟨e,x',σ',rfl,S₅,y₅,⟨_,B',_,F₄.leave S keep S₄ off,.inr (.inl rfl)⟩,q⟩
theorem ju {fd:FuncData}{body:List Stmt}{a:Addr}{as:List AVal} (lv:1<=c.lv) (fi:FnIn c.G a fd) (ok:FnOk fd) (hb:fd.body=.stmts body)
  (hkind:∀ x∈fd.scope.names.take as.length,x.2=.local\/x.2=.cell)
  (hbind:∀ vs s,vs.length=as.length->c.G.StaysIn s.heap->BindsTo s fd ⟨vs,[]⟩ ((fd.scope.names.map (·.1)).zip vs))
  (g:∀ L,WSs (c.call fd a L) (bI fd.scope.names as) body σ (NQ Q) Q (XF X)) (vs:List Value) (s:Shared) (S:St c ρ σ s.heap) (r:VRs s.heap vs as):codeAny (model c.prog c.w) c.A (.call (.ref a) ⟨vs,[]⟩) (CPost c ρ σ s Q X) s :=
 iB lv fi ok hb hkind (fun vs s r b=>⟨vs,r,hbind vs s r.length b⟩) g vs s S r
theorem oy {fd:FuncData}{body:List Stmt}{a:Addr}{as:List AVal} (lv:1<=c.lv) (fi:FnIn c.G a fd) (ok:FnOk fd) (hb:fd.body=.stmts body)
  (hkind:∀ x∈fd.scope.names.take as.length,x.2=.local\/x.2=.cell)
  (hbind:∀ vs s,vs.length=as.length->c.G.StaysIn s.heap->BindsTo s fd ⟨vs,[]⟩ ((fd.scope.names.map (·.1)).zip vs))
  (g:∀ L,WSs (c.call fd a L) (bI fd.scope.names as) body σ (NQ Q) Q (XF X)):GoV VR c ρ as (fun vs=>call (.ref a) vs) σ Q X:=fun vs s S r =>
 wpAny_call (ju lv fi ok hb hkind hbind g vs s S r)
end
section
variable {c:Cx}{ρ ρ':List NV}{σ σ₀ σ₁ σ' τ:AState}{h h' B:Heap}{s s₀ s₁ s₂ s':Shared}{Q:AVal->AState->Prop}{QL:List AVal->AState->Prop}{X:AExc->AState->Prop}
abbrev EvL (c:Cx) (ρ:List NV) (pos:Pos) (es:List Expr) (σ:AState) (Q:List AVal->AState->Prop) (X:AExc->AState->Prop):Prop:=Go VRs c ρ (spliced (backTo pos (starEach es c.env))) σ Q X
abbrev KCons (QL:List AVal->AState->Prop) (a:AVal) (as:List AVal) (σ₂:AState):Prop:=QL (a::as) σ₂
abbrev KL (c:Cx) (ρ:List NV) (pos:Pos) (es:List Expr) (QL:List AVal->AState->Prop) (X:AExc->AState->Prop) (a:AVal) (σ₁:AState):Prop:=EvL c ρ pos es σ₁ (KCons QL a) X
abbrev KCall (c:Cx) (ρ:List NV) (fa:List AVal) (f:Value) (Q:AVal->AState->Prop) (X:AExc->AState->Prop) (as:List AVal) (σ₁:AState):Prop:=GoV VR c ρ (fa++as) (fun vs=>call f vs) σ₁ Q X
abbrev KCal (c:Cx) (ρ:List NV) (f:Value) (Q:AVal->AState->Prop) (X:AExc->AState->Prop) (as:List AVal) (σ₁:AState):Prop:=GoV VR c ρ as (fun vs=>call f vs) σ₁ Q X
abbrev KCa1 (c:Cx) (ρ:List NV) (a:AVal) (f:Value) (Q:AVal->AState->Prop) (X:AExc->AState->Prop) (as:List AVal) (σ₁:AState):Prop:=GoV VR c ρ (a::as) (fun vs=>call f vs) σ₁ Q X
theorem du {pos:Pos} (q:QL [] σ):EvL c ρ pos [] σ QL X:=fun s S=>Calls.spliced_nil (.here S .nil q)
theorem bK {pos:Pos}{e:Expr}{es:List Expr} (g:Ev c ρ e σ (KL c ρ pos es QL X) X)
  (hs:starEach (e::es) c.env=(false,eval e c.env)::starEach es c.env:=by walk_at "u"):EvL c ρ pos (e::es) σ QL X:=fun s S=>by
 rw [hs]
 refine Calls.spliced_cons ?_
 refine g.use S fun v s₁ a σ₁ r S₁ y q=>?_
 refine Zm (q s₁ S₁) (fun vs s₂ p=>?_) fun _ _ z=>z.after y
 obtain ⟨as,σ₂,rs,S₂,y₂,q₂⟩:=p
 exact ⟨a::as,σ₂,.cons (r.keep (y₂.tup S₁)) rs,S₂,y.trans y₂,q₂⟩
theorem lZ {pos p:Pos}{x:Str}{es:List Expr}{a:AVal} (l:LookV ρ x a) (q:EvL c ρ pos es σ (KCons QL a) X):EvL c ρ pos (.Name x p::es) σ QL X:=bK (ev_name l q)
theorem nU {pos p:Pos}{i:Int}{k:Nat}{es:List Expr} (q:EvL c ρ pos es σ (KCons QL (.int i)) X):EvL c ρ pos (.Constant (.int i) k p::es) σ QL X:=bK (ev_int q)
theorem oh {pos p:Pos}{x:Str}{k:Nat}{es:List Expr} (q:EvL c ρ pos es σ (KCons QL (.str x)) X):EvL c ρ pos (.Constant (.str x) k p::es) σ QL X:=bK (ev_str q)
theorem br {f:Value}{pos:Pos}{es:List Expr}{P:Args->Shared->Prop}{E:Value->Shared->Prop}{A:Around}{M:Model}{env:Env} (hstar:(backTo pos (starEach es env)).all (fun x=>!x.1)=true)
  (h:wpAny M A (spliced (backTo pos (starEach es env))) (fun vs s'=>P ⟨vs,[]⟩ s') E s):wpAny M A (evalArgs f true (backTo pos (starEach es env)) []) P E s:=by
 cases hz:backTo pos (starEach es env) with
 | nil =>
  rw [hz] at h
  unfold evalArgs
  show wpAny M A (spliced [] >>= _) _ E s
  refine Zb (Zm h (fun vs s' h'=>?_) fun _ _ x=>x)
  refine Zb (Zp ?_)
  refine wpAny_holding ?_
  exact Zb (Zp (Zb (Zp (Zp h'))))
 | cons x r =>
  obtain ⟨b,x⟩:=x
  rw [hz] at h hstar
  have:b=false:=by simpa using (List.all_eq_true.mp hstar _ (.head _))
  subst this
  exact Calls.evalArgs_plain h
theorem ev_call {f:Str}{p pos:Pos}{es:List Expr}{a:Addr}{fd:FuncData} (l:LookG ρ f) (n:nsIn c.K mainGlobals f=some (some (.ref a))) (fi:FnIn c.G a fd)
  (g:EvL c ρ pos es σ (KCal c ρ (.ref a) Q X) X) (hstar:(backTo pos (starEach es c.env)).all (fun x=>!x.1)=true:=by walk_at "u") :
  Ev c ρ (.Call (.Name f p) es [] pos) σ Q X:=fun s S=>by
 refine wpAny_Call_Name_kw ?_
 refine bB S l n ?_
 refine ex1 fi.obj fun o h1z=>?_
 refine an2 h1z fun ho hd=>?_
 clear h1z
 refine Calls.callWith_function (o:=o) (fd:=fd) ?_
 refine br hstar ?_
 refine g.use S fun vs s₁ as σ₁ r S₁ y q=>⟨⟨S₁.base _ _ ho,hd⟩,?_⟩
 exact Zm (q vs s₁ S₁ r) (fun _ _ z=>z.after y) fun _ _ z=>z.after y
end
section
variable {c:Cx}{ρ ρ':List NV}{σ σ₀ σ₁ σ' τ:AState}{h h' B:Heap}{s s₀ s₁ s₂ s':Shared}{Q:AVal->AState->Prop}{X:AExc->AState->Prop}
structure ClsOk (K:Frag) (C:Addr):Prop where
 cd:∃ cd,clsIn K C=some cd/\cd.hasDict=true
 get:findIn K (.ref C) "__getattribute__" = some (some (.builtin "object.__getattribute__"))
 hook:findIn K (.ref C) "__getattr__" = some none
 set:findIn K (.ref C) "__setattr__" = some (some (.builtin "object.__setattr__"))
 over:plainOver K C=true
inductive InstIs (σ:AState) (x C:Addr) (ns:List Str) (m:Str->Option AVal):Prop
 | mk (d:Addr) (hx:σ x=some (.inst C d)) (hd:σ d=some (.attrs ns m))
theorem fW {d:Addr}{m:Str->Option Value} (n:h.Ns d m):∃ o,h.get? d=some o/\∀ x,lookIn x o=some (m x):=by
 obtain ⟨o,es,ep⟩|⟨ho,hd,hk,hm⟩:=n
 refine ⟨o,ho,fun x=>?_⟩
 unfold lookIn
 rw [hd]
 dsimp only
 have:=hm x
 unfold nsFind findBy at this
 rw [<- Array.find?_toList] at this
 split
 ·rename_i e he;rw [he] at this;exact congrArg some this
 ·rename_i he
  rw [he] at this
  have hr:es.toList.any (·.refKey)=false:=by
   rw [any_eq_false];intro e he;refine ex2 (hk e (Array.mem_toList_iff.mp he)) fun n t q=>?_;simp [DictEntry.refKey,q]
  rw [hr]
  exact congrArg some this
theorem St.instAt {x C:Addr}{ns:List Str}{m:Str->Option AVal} (S:St c ρ σ h) (I:InstIs σ x C ns m):∃ ox od m' d,InstAt h x ox C (some od)/\ox.dict=some d/\σ d=some (.attrs ns m)/\h.Ns1 d m'/\Within m' ns/\h.get? d=some od/\(∀ y,lookIn y od=some (m' y)) /\
  ∀ y,match m y with | some v=>∃ v',m' y=some v'/\VR h v' v | none=>m' y=none:=by
 obtain ⟨d,hx,hd⟩:=I
 refine (S.obj x _ hx).inst' fun e=>?_
 refine (S.obj d _ hd).attrs' fun m' n w r=>?_
 obtain ⟨od⟩|⟨eo,lk⟩:=(fW n.ns)
 exact ⟨_,od,m',d,⟨e,rfl,rfl,eo⟩,rfl,hd,n,w,eo,lk,r⟩
theorem VR.handed {v:Value}{a:AVal} (r:VR h v a):handedIn v=true:=by cases r<;>rfl
inductive AttrAt (K:Frag) (x:Str) (Q:AVal->AState->Prop) (a:AVal) (σ₁:AState):Prop
 | mk (o C:Addr) (ns:List Str) (m:Str->Option AVal) (v:AVal) (e:a=.ref o) (i:InstIs σ₁ o C ns m) (h:m x=some v) (k:ClsOk K C) (n:findIn K (.ref C) x=some none) (q:Q v σ₁)
theorem ev_attr {e:Expr}{x:Str}{p:Pos} (g:Ev c ρ e σ (AttrAt c.K x Q) X)
  (hbase:attributeBase e x c.env (eval e c.env)=eval e c.env:=by walk_at "u"):Ev c ρ (.Attribute e x p) σ Q X:=fun s S=>by
 rw [arm_eval_Attribute,hbase]
 refine Zb (g.use S fun v s₁ a σ₁ r S₁ y q=>?_)
 obtain ⟨o,C,ns,m,w,rfl,I,hm,ok,hf,q⟩:=q
 apply r.ref'
 obtain ⟨ox,od,m',d⟩|⟨I',_,_,n,_,_,lk,rr⟩:=(S₁.instAt I)
 have hy:=rr x
 rw [hm] at hy
 obtain ⟨w'⟩|⟨hw',rw'⟩:=hy
 refine ex1 ok.cd fun cd h9z=>?_
 refine an2 h9z fun hcd hdict=>?_
 clear h9z
 have hfo:findObj c.K C (some od) x=some (.value w'):=by
  have e1:W.ownOf cd (some od) x=some (some w'):=(if_pos hdict).trans ((lk x).trans (congrArg some hw'))
  unfold findObj
  rw [hcd,hf]
  show (W.ownOf cd (some od) x).bind _=_
  rw [e1];rfl
 refine Zb (wpAny_standAt (Zb (wpAny_holding (get_value (S₁.ok.KG.keeps S₁.base) I' ok.get hfo rw'.handed (Zb (wpAny_letTemporaryGo (Zp ?_)))))))
 exact ⟨w,σ₁,rw',S₁,y.toks,q⟩
inductive SetAt (K:Frag) (x:Str) (P:AState->Prop) (v a:AVal) (σ₂:AState):Prop
 | mk (o C:Addr) (ns:List Str) (m:Str->Option AVal) (e:a=.ref o) (i:InstIs σ₂ o C ns m) (k:ClsOk K C) (t:takerIn K C x=some none) (hx:x∈ns) (hz:ns.length<=1000) (q:∀ d,σ₂ o=some (.inst C d)->P (σ₂.set d (.attrs ns fun y=>if y=x then some v else m y)))
theorem bz {N:List NV->AState->Prop}{R:AVal->AState->Prop}{XS:AExc->List NV->AState->Prop}{e value:Expr}{x:Str}{pa p:Pos}
  (g:Ev c ρ value σ (KE c ρ e (SetAt c.K x (N ρ)) (XAt XS ρ)) (XAt XS ρ))
  (hs:swapsWith value (some (.Attribute e x pa)) p.line c.env=pure false:=by walk_at "u"):WS c ρ (.Assign [.Attribute e x pa] value p) σ N R XS:=fun s S=>by
 refine plainObj_wpAny_Assign_Attribute ?_ hs
 refine g.useS S fun v s₁ a σ₁ r S₁ y q=>?_
 refine Zm (q s₁ S₁) (fun ov s₂ p=>?_) fun _ _ z=>XSPost.after y z.toS
 obtain ⟨b,σ₂,r₂,S₂,y₂,o,C,ns,m,rfl,I,ok,ht,hx1,hx2,hN⟩:=p
 apply r₂.ref'
 obtain ⟨d₀,hx₀,hd₀⟩:=id I
 obtain ⟨ox,od,m',d⟩|⟨I',hd,hσd,n,wn,eo,lk,rr⟩:=(S₂.instAt I)
 have X:=S₂.ok.KG.keeps S₂.base
 have hx:σ₂ o=some (.inst C d):=by
  refine (S₂.obj o _ hx₀).inst' fun e=>?_
  have e2:=I'.at_
  rw [e] at e2;cases e2
  cases hd;exact hx₀
 refine set_plain X I' ok.set ?_
 refine osa_open (s:={ s₂ with toks:=s₂.toks+1 }) X I' ok.over ht fun bb=>?_
 refine ex1 ok.cd fun cd h11z=>?_
 refine an2 h11z fun hc hd'=>?_
 clear h11z
 obtain ⟨hx',hcl,hn',-⟩:=I'
 obtain ⟨oc,odi,oda,osl⟩:=ox
 dsimp only at hcl hd
 subst hcl hd
 refine Zb (Zp (Zb (Zb (wpAny_loadPart (s:={ s₂ with toks:=s₂.toks+1 }) hx' (Zb (looks_clsIn X hc _ _ _ _ (fun _ _ e=>e) ?_))))))
 rw [hd']
 refine Zp (a:=some d) (Zb (Zp (Zb ?_)))
 refine wpAny_nsSet1 (s:={ s₂ with toks:=s₂.toks+1 }) n fun h' n' sb=>?_
 have wn':Within (fun y=>if y=x then some v else m' y) ns:=fun y hy=>by
  by_cases z:y=x
  ·exact z ▸ hx1
  ·exact wn y (by dsimp only at hy;rwa [if_neg z] at hy)
 obtain ⟨on,en,epn⟩|⟨hon,hdn,hsn⟩:=(n'.count wn')
 refine Zb (wpAny_lookBehind hon (by rw [hdn];exact pastItsLine_dict (by rw [sizeLine_eq];walk_at "o")) ?_)
 refine Zp ?_
 obtain ⟨ob⟩|⟨e',nn⟩:=((S₂.obj d _ hσd).here)
 have t:TupKept s₂.heap h':=aw sb.extBut e' nn
 have R':OR c.prog c.w h' d (.attrs ns fun y=>if y=x then some a else m y):=.attrs n' wn' fun y=>by
  by_cases z:y=x
  ·rw [if_pos z,if_pos z];exact ⟨_,rfl,(r.keep (y₂.tup S₁)).keep t⟩
  ·rw [if_neg z,if_neg z]
   have:=rr y
   cases hm:m y with
   | none=>rw [hm] at this;exact this
   | some _=>rw [hm] at this;refine ex1 this fun w h14z=>?_;(try clear this);refine an2 h14z fun q1 q2=>?_;clear h14z;exact ⟨w,q1,q2.keep t⟩
 have S₃:=S₂.upd hσd sb.extBut R'
 exact ⟨ρ,_,S₃,(y.trans y₂).trans (Step.upd (t:=s₂.toks+1+1) hσd sb.extBut R'),hN d hx⟩
end
section
variable {c:Cx}{ρ ρ':List NV}{σ σ₀ σ₁ σ' τ:AState}{h h' B:Heap}{s s₀ s₁ s₂ s':Shared}{Q:AVal->AState->Prop}{X:AExc->AState->Prop}
theorem mf {pos:Pos}{es:List Expr}{f:Addr}{fd:FuncData}{first:List Value}{fa:List AVal}{P:AVal->AState->Prop} (S:St c ρ σ s.heap) (fi:FnIn c.G f fd) (rf:VRs s.heap first fa)
  (g:EvL c ρ pos es σ (KCall c ρ fa (.ref f) Q X) X) (hstar:(backTo pos (starEach es c.env)).all (fun x=>!x.1)=true) :
  wpAny (model c.prog c.w) c.A (callWith pos (.ref f) first (backTo pos (starEach es c.env)) []) (GPost VR c ρ σ s Q) (XPost c ρ σ s X) s:=by
 refine ex1 fi.obj fun o h1z=>?_
 refine an2 h1z fun ho hd=>?_
 clear h1z
 refine Calls.callWith_function (o:=o) (fd:=fd) ?_
 refine br hstar ?_
 refine g.use S fun vs s₁ as σ₁ r S₁ y q=>⟨⟨S₁.base _ _ ho,hd⟩,?_⟩
 exact Zm (q (first++vs) s₁ S₁ ((rf.keep (y.tup S)).append r)) (fun _ _ z=>z.after y) fun _ _ z=>z.after y
inductive MethAt (c:Cx) (ρ:List NV) (pos:Pos) (es:List Expr) (name:Str) (Q:AVal->AState->Prop) (X:AExc->AState->Prop) (a:AVal) (σ₁:AState):Prop
 | mk (x C:Addr) (ns:List Str) (m:Str->Option AVal) (f:Addr) (fd:FuncData) (e:a=.ref x) (i:InstIs σ₁ x C ns m) (h:m name=none) (k:ClsOk c.K C) (n:findIn c.K (.ref C) name=some (some (.ref f))) (t:typeIn c.K (.ref f)=some (.type "function")) (fi:FnIn c.G f fd)
   (q:EvL c ρ pos es σ₁ (KCa1 c ρ (.ref x) (.ref f) Q X) X)
theorem ev_method {o:Expr}{name:Str}{apos pos:Pos}{es:List Expr}{pl:Sem Bool}
  (g:Ev c ρ o σ (MethAt c ρ pos es name Q X) X)
  (hstar:(backTo pos (starEach es c.env)).all (fun x=>!x.1)=true:=by walk_at "u")
  (he:eval (.Call (.Attribute o name apos) es [] pos) c.env=(do
   let ov <- eval o c.env
   standAt apos.atName
   let (f,first) <- holding [ov] (getMethod ov name pl)
   callWith pos f first (backTo pos (starEach es c.env)) (backToKw pos (keywordEach [] c.env))):=by walk_at "u"):Ev c ρ (.Call (.Attribute o name apos) es [] pos) σ Q X:=fun s S=>by
 refine methodCall_KW ?_ he
 refine g.use S fun ov s₁ a σ₁ r S₁ y q=>?_
 obtain ⟨x,C,ns,m,f,fd,rfl,I,hm,ok,hf,ht,fi,q⟩:=q
 apply r.ref'
 obtain ⟨ox,od,m',d⟩|⟨I',_,_,n,_,_,lk,rr⟩:=(S₁.instAt I)
 have hy:=rr name
 rw [hm] at hy
 refine method_fn (S₁.ok.KG.keeps S₁.base) I' ok.get ok.hook hf ht (by unfold shadowIn;dsimp only;rw [lk,hy];rfl) ?_
 exact on y (mf (P:=Q) S₁ fi (.cons (.ref x) .nil) q hstar)
theorem callWith_of {pos:Pos}{es:List Expr}{id:String}{first:List Value}{fa:List AVal} (S:St c ρ σ s.heap) (rf:VRs s.heap first fa)
  (g:EvL c ρ pos es σ (KCall c ρ fa (.builtin id) Q X) X) (hstar:(backTo pos (starEach es c.env)).all (fun x=>!x.1)=true) :
  wpAny (model c.prog c.w) c.A (callWith pos (.builtin id) first (backTo pos (starEach es c.env)) []) (GPost VR c ρ σ s Q) (XPost c ρ σ s X) s:=by
 have hp:(backTo pos (starEach es c.env)).any (·.1)=false:=by
  rw [any_eq_false];intro x hx;have:=List.all_eq_true.mp hstar x hx;simpa using this
 refine Calls.callWith_builtin hp (br hstar ?_)
 refine g.use S fun vs s₁ as σ₁ r S₁ y q=>?_
 exact Zm (q (first++vs) s₁ S₁ ((rf.keep (y.tup S)).append r)) (fun _ _ z=>z.after y) fun _ _ z=>z.after y
theorem ev_builtin {f:Str}{p pos:Pos}{es:List Expr}{id:String} (l:LookG ρ f) (n:nsIn c.K mainGlobals f=some none) (hv:bootBuiltins f=some (.builtin id)) (hn:f ≠ "__name__")
  (g:EvL c ρ pos es σ (KCal c ρ (.builtin id) Q X) X) (hstar:(backTo pos (starEach es c.env)).all (fun x=>!x.1)=true:=by walk_at "u"):Ev c ρ (.Call (.Name f p) es [] pos) σ Q X:=fun s S=>by
 refine wpAny_Call_Name_kw ?_
 refine bn S l n hv hn ?_
 exact callWith_of S .nil g hstar
theorem ev_btype {f:Str}{p pos:Pos}{es:List Expr}{T:String} (l:LookG ρ f) (n:nsIn c.K mainGlobals f=some none) (hv:bootBuiltins f=some (.type T)) (hn:f ≠ "__name__")
  (g:EvL c ρ pos es σ (KCal c ρ (.type T) Q X) X) (hstar:(backTo pos (starEach es c.env)).all (fun x=>!x.1)=true:=by walk_at "u"):Ev c ρ (.Call (.Name f p) es [] pos) σ Q X:=fun s S=>by
 refine wpAny_Call_Name_kw ?_
 refine bn S l n hv hn ?_
 have hp:(backTo pos (starEach es c.env)).any (·.1)=false:=by
  rw [any_eq_false];intro x hx;have:=List.all_eq_true.mp hstar x hx;simpa using this
 refine PySem.callWith_type hp (br hstar ?_)
 refine g.use S fun vs s₁ as σ₁ r S₁ y q=>?_
 exact Zm (q vs s₁ S₁ r) (fun _ _ z=>z.after y) fun _ _ z=>z.after y
def BTy (c:Cx) (a:AVal) (T:String) (σ:AState):Prop:=∀ (ρ:List NV) (s:Shared) (v:Value),St c ρ σ s.heap->VR s.heap v a->s.TypeIs v T/\∀ ad,v=.ref ad->∃ ob:Obj,s.heap.get? ad=some ob/\ob.dict=none
theorem gY {x:Str}:BTy c (.str x) "str" σ:=fun ρ s v S r=>by
 apply r.str';intro t;exact ⟨typeIs_str s x t,fun _ q=>by cases q⟩
theorem dR {a:Addr}{xs:List AVal} (ha:σ a=some (.list xs)):BTy c (.ref a) "list" σ:=fun ρ s v S r=>by
 apply r.ref'
 refine (S.obj a _ ha).list' fun _ _ e _=>?_
 exact ⟨⟨_,e,rfl⟩,fun ad q=>by cases q;exact ⟨_,e,rfl⟩⟩
theorem m4 {K:Type} [DecidableEq K] {knd:KeyKind c.prog c.w K}{a:Addr}{kvs:List (K × Value)} (hd:s.heap.DictOf knd a kvs):s.TypeIs (.ref a) "dict" /\ ∀ ad,Value.ref a=.ref ad->∃ ob:Obj,s.heap.get? ad=some ob/\ob.dict=none :=
 ⟨hd.typeIs,fun ad q=>by cases q;refine ex3 hd fun o es ep h8z=>?_;(try clear hd);refine an3 h8z fun ho hc _=>?_;clear h8z;exact ⟨o,ho,hc.2.1⟩⟩
theorem jw {a:Addr}{xs:List (Str × AVal)} (ha:σ a=some (.dictS xs)):BTy c (.ref a) "dict" σ:=fun ρ s v S r=>by
 apply r.ref'
 refine (S.obj a _ ha).dictS' fun _ e _=>?_
 exact m4 e
inductive BMAt (c:Cx) (ρ:List NV) (pos:Pos) (es:List Expr) (T id:String) (Q:AVal->AState->Prop) (X:AExc->AState->Prop) (a:AVal) (σ₁:AState):Prop
 | mk (t:BTy c a T σ₁) (q:EvL c ρ pos es σ₁ (KCa1 c ρ a (.builtin id) Q X) X)
theorem ev_bmethod {o:Expr}{name:Str}{apos pos:Pos}{es:List Expr}{T id:String} (pa:PlainAttrs T) (slot:Slot T name id) (hty:typeOf (.builtin id)=pure (.type "method_descriptor"))
  (g:Ev c ρ o σ (BMAt c ρ pos es T id Q X) X)
  (hbase:attributeBase o name c.env (eval o c.env)=eval o c.env:=by walk_at "u")
  (hfew:((backTo pos (starEach es c.env)).all (fun x=>!x.1) && (backToKw pos (keywordEach [] c.env)).all (fun x=>x.1.isSome)
   && decide (es.length+([]:List Keyword).length+(if ([]:List Keyword).isEmpty then 0 else 1) < 30))=true:=by walk_at "u")
  (hline:(apos.endLine == pos.line)=true:=by walk_at "u"):Ev c ρ (.Call (.Attribute o name apos) es [] pos) σ Q X:=fun s S=>by
 have hstar:(backTo pos (starEach es c.env)).all (fun x=>!x.1)=true:=by
  rw [Bool.and_eq_true,Bool.and_eq_true] at hfew;exact hfew.1.1
 refine wpAny_Call_method hbase hfew hline pa slot hty ?_
 refine g.use S fun ov s₁ a σ₁ r S₁ y q=>?_
 obtain ⟨b1,b2⟩:=q.1 ρ s₁ ov S₁ r
 exact ⟨b1,b2,on y (callWith_of S₁ (.cons r .nil) q.2 hstar)⟩
end
section
variable {c:Cx}{ρ ρ':List NV}{σ σ₀ σ₁ σ' τ:AState}{h h' B:Heap}{s s₀ s₁ s₂ s':Shared}{Q:AVal->AState->Prop}{X:AExc->AState->Prop}
def Cx.mk' (c:Cx) (C:Addr) (rest:List Value):Cx:={ c with A:=c.A.under (.builtin "type.__call__" ⟨.ref C::rest,[]⟩),lv:=c.lv - 1 }
theorem St.mk' {C:Addr}{rest:List Value} (S:St c ρ σ h) (lv:1<=c.lv):St (c.mk' C rest) ρ σ h:=by
 have hu:(c.A.under (.builtin "type.__call__" ⟨.ref C::rest,[]⟩)).units=c.A.units+1:=units_under_make _ _ _
 have hd:(c.A.under (.builtin "type.__call__" ⟨.ref C::rest,[]⟩)).depth=c.A.depth+1:=depth_under_make _ _ _
 refine ⟨⟨S.ok.fr,S.ok.hd,S.ok.gd,?_,?_,S.ok.kind,S.ok.glob,S.ok.blt,S.ok.KG,S.ok.lim,S.ok.bg,S.ok.sm,S.ok.locIn,S.ok.cells,S.ok.cellsOff,S.ok.cellsOf,S.ok.fnEnv,S.ok.fnOwn,S.ok.nodup,S.ok.tame⟩,S.base,S.frames,S.names,S.locs,S.cellsAt,S.vars,S.obj,S.off,S.ownNew⟩
 ·have:=S.ok.depth
  show (c.A.under _).depth+8 * (c.lv - 1)<=900
  rw [hd];walk_at "o"
 ·have:=S.ok.units
  show (c.A.under _).units+40 * (c.lv - 1)<=9000
  rw [hu];walk_at "o"
theorem St.of_mk' {C:Addr}{rest:List Value} (ok:c.Ok) (S:St (c.mk' C rest) ρ σ h):St c ρ σ h:=⟨ok,S.base,S.frames,S.names,S.locs,S.cellsAt,S.vars,S.obj,S.off,S.ownNew⟩
theorem Step.of_mk' {C:Addr}{rest:List Value} (y:Step (c.mk' C rest) σ s σ' s'):Step c σ s σ' s':=⟨y.kept,y.there,y.grow,y.gens,y.os⟩
theorem XPost.of_mk' {C:Addr}{rest:List Value}{v:Value} (ok:c.Ok) (p:XPost (c.mk' C rest) ρ σ s X v s'):XPost c ρ σ s X v s':=by
 obtain ⟨e,x,σ',rfl,S,y,⟨fl,B,P,F,hf⟩,q⟩:=p
 refine ⟨e,x,σ',rfl,S.of_mk' ok,y.of_mk',⟨fl,B,P,⟨F.base,F.all,F.new,F.stays,F.off,F.own,F.noTup,?_⟩,hf⟩,q⟩
 obtain ⟨oe,vs,d,m,h1,h2,h3,h4,h5,h6,h7,h8,h9⟩:=F.here
 refine ⟨oe,vs,d,m,h1,h2,h3,h4,h5,h6,h7,h8,?_⟩
 cases fl with
 | none=>exact h9
 | some f=>exact h9
structure MkOk (K:Frag) (C fI:Addr):Prop where
 makes:makesIn K C=true
 init:findIn K (.ref C) "__init__" = some (some (.ref fI))
 fn:typeIn K (.ref fI)=some (.type "function")
 keep:keepIn K (.ref C)=true
theorem ev_make {f:Str}{p pos:Pos}{es:List Expr}{C fI:Addr}{fd:FuncData}{body:List Stmt}{ns:List Str} (l:LookG ρ f) (n:nsIn c.K mainGlobals f=some (some (.ref C))) (mk:MkOk c.K C fI) (lv:2<=c.lv) (fi:FnIn c.G fI fd) (ok:FnOk fd) (hb:fd.body=.stmts body)
  (g:EvL c ρ pos es σ (fun as σ₁=>(∀ y∈fd.scope.names.take (as.length+1),y.2=.local\/y.2=.cell)/\(∀ vs s,vs.length=as.length+1->c.G.StaysIn s.heap->BindsTo s fd ⟨vs,[]⟩ ((fd.scope.names.map (·.1)).zip vs)) /\
   ∀ L rest x d,σ₁ x=none->σ₁ d=none->x≠d->WSs ((c.mk' C rest).call fd fI L) (bI fd.scope.names (.ref x::as)) body ((σ₁.set d (.attrs ns fun _=>none)).set x (.inst C d))
    (fun _ σ'=>Q (.ref x) σ') (fun a σ'=>a=.none/\Q (.ref x) σ') (fun e _ σ'=>X e σ')) X)
  (hstar:(backTo pos (starEach es c.env)).all (fun x=>!x.1)=true:=by walk_at "u") :
  Ev c ρ (.Call (.Name f p) es [] pos) σ Q X:=fun s S=>by
 refine wpAny_Call_Name_kw ?_
 refine bB S l n ?_
 have hp:((backTo pos (starEach es c.env)).any (·.1) || (backToKw pos (keywordEach [] c.env)).any (·.1.isNone))=false:=by
  rw [Bool.or_eq_false_iff]
  refine ⟨?_,rfl⟩
  rw [any_eq_false];intro x hx;have:=List.all_eq_true.mp hstar x hx;simpa using this
 refine W.callWith_of (P:=fun h=>c.K.In h) hp (keeps_K mk.keep) (br hstar ?_)
 refine g.use S fun vs s₁ as σ₁ r S₁ y q=>⟨S₁.ok.KG.keeps S₁.base,?_⟩
 obtain ⟨hk,hbd,q⟩:=q
 obtain ⟨hh,gg,dd,tt,oo⟩:=s₁
 have Xk:=S₁.ok.KG.keeps S₁.base
 refine wpAny_call (make_core (makes_of Xk mk.makes) (looks_findIn Xk mk.init) (fun self=>bind_fn Xk self mk.fn) (.inl rfl) ?_)
 have hd0:=ag hh
 have S₂:=S₁.alloc (o:=emptyDict) (ao:=.attrs ns fun _=>none) (.attrs (m':=fun _=>none) ⟨_,#[],0,Zz _ rfl,rfl,(by intro e he;simp at he),List.Pairwise.nil,fun _=>rfl⟩ (fun y hy=>absurd rfl hy) fun _=>rfl)
 have S₃:=S₂.alloc (o:=instObj C hh.objs.size) (ao:=.inst C hh.objs.size) (.inst (Zz _ rfl))
 rw [show (hh.push emptyDict).objs.size=hh.objs.size+1 from Heap.size_push ..] at S₃
 have kp:∀ b o,hh.get? b=some o->((hh.push emptyDict).push (instObj C hh.objs.size)).get? b=some o:=fun b o e=>Zu _ (Zu _ e)
 have hx0:hh.get? (hh.objs.size+1)=none:=Heap.get?_none_of_le (Nat.le_succ _)
 have y₃:Step c σ₁ ⟨hh,gg,dd,tt,oo⟩ ((σ₁.set hh.objs.size (.attrs ns fun _=>none)).set (hh.objs.size+1) (.inst C hh.objs.size)) ⟨(hh.push emptyDict).push (instObj C hh.objs.size),gg,dd,tt,oo⟩ :=
  ((Step.ext (s:=⟨hh,gg,dd,tt,oo⟩) (t:=tt) kp).tell hd0).tell hx0
 have lv':1<=(c.mk' C vs).lv:=by show 1<=c.lv - 1;walk_at "o"
 have w:=ju (c:=c.mk' C vs) (ρ:=ρ) (as:=.ref (hh.objs.size+1)::as) (Q:=fun a σ'=>a=.none/\Q (.ref (hh.objs.size+1)) σ') (X:=X) lv' fi ok hb hk (fun vs s hl=>hbd vs s hl)
  (fun L=>(q L vs (hh.objs.size+1) hh.objs.size (S₁.none_of hx0) (S₁.none_of hd0) (Nat.succ_ne_self _)).mono (fun _ _ z=>⟨rfl,z⟩) (fun _ _ z=>z) fun _ _ _ z=>z)
  (.ref (hh.objs.size+1)::vs) ⟨(hh.push emptyDict).push (instObj C hh.objs.size),gg,dd,tt,oo⟩ (S₃.mk' s!"o") (.cons (.ref _) (r.keep (aq kp)))
 refine codeAny_mono w fun rr s' z=>?_
 rcases rr with e | (v | _ | _ | _)<;>first | exact z.elim | skip
 ·exact ((XPost.of_mk' S₁.ok z).after y₃).after y
 ·obtain ⟨a,σ',ra,S',y',rfl,hq⟩:=z
  cases ra
  exact ⟨rfl,.ref (hh.objs.size+1),σ',.ref _,S'.of_mk' S₁.ok,(y.trans y₃).trans y'.of_mk',hq⟩
end
section
variable {c:Cx}{ρ ρ':List NV}{σ σ₀ σ₁ σ' τ:AState}{h h' B:Heap}{s s₀ s₁ s₂ s':Shared}{Q:AVal->AState->Prop}{QB:Bool->AState->Prop}{X:AExc->AState->Prop}
variable {N:List NV->AState->Prop}{R:AVal->AState->Prop}{XS:AExc->List NV->AState->Prop}
abbrev KDrop (ρ:List NV) (N:List NV->AState->Prop) (_:AVal) (σ':AState):Prop:=N ρ σ'
theorem oq {e:Expr}{p:Pos} (g:Ev c ρ e σ (KDrop ρ N) (XAt XS ρ)) (hf:c.fn=true) (hs:swapsWith e none p.line c.env=pure false:=by walk_at "u"):WS c ρ (.Expr e p) σ N R XS:=fun s S=>by
 refine wpAny_Expr_any ?_ (by unfold interactive;rw [S.ok.kind];rfl) hs
 exact g.useS S fun v s₁ a σ₁ r S₁ y q=>⟨ρ,σ₁,S₁,y,q⟩
theorem qg {test:Expr}{body:List Stmt}{p:Pos} (hf:c.fn=true) (I:Nat->List NV->AState->Prop) (n:Nat) (hi:I n ρ σ)
  (turn:∀ n ρ₁ σ₁,I n ρ₁ σ₁->Tst c ρ₁ test σ₁ (fun b σ₂=>if b then WSs c ρ₁ body σ₂ (fun ρ₃ σ₃=>∃ m,m < n/\I m ρ₃ σ₃) R XS else N ρ₁ σ₂) (XAt XS ρ₁)):WS c ρ (.While test body [] p) σ N R XS:=fun s S=>by
 refine wpAny_While ?_
 refine codeAny_whileLoop (fun m s'=>∃ ρ₁ σ₁,St c ρ₁ σ₁ s'.heap/\Step c σ s σ₁ s'/\I m ρ₁ σ₁) (fun m s' hh=>?_) n ⟨ρ,σ,S,.refl ..,hi⟩
 obtain ⟨ρ₁,σ₁⟩|⟨S₁,y₁,i₁⟩:=hh
 refine Zm (turn m ρ₁ σ₁ i₁ s' S₁) (fun b s₂ p=>?_) fun _ _ p=>eC hf ((XPost.toS p).after y₁)
 obtain ⟨b',σ₂,rfl,S₂,y₂,g⟩:=p
 cases b with
 | false =>
  refine wpAny_execs_nil ?_
  exact ⟨ρ₁,σ₂,S₂,y₁.trans y₂,g⟩
 | true =>
  refine Zm (g s₂ S₂) (fun f s₃ p=>?_) fun _ _ p=>eC hf (p.after (y₁.trans y₂))
  obtain ⟨ρ₃,σ₃,S₃,y₃,q⟩:=p
  cases f with
  | next=>refine ex1 q fun k h2z=>?_;(try clear q);refine an2 h2z fun hk i₃=>?_;clear h2z;exact ⟨k,hk,ρ₃,σ₃,S₃,(y₁.trans y₂).trans y₃,i₃⟩
  | ret v=>exact ⟨ρ₃,σ₃,S₃,(y₁.trans y₂).trans y₃,q⟩
  | _=>exact q.elim
abbrev KTup (Q:AVal->AState->Prop) (as:List AVal) (σ₁:AState):Prop:=as.length<=sizeLine/\Q (.tup as) σ₁
abbrev KLst (Q:AVal->AState->Prop) (as:List AVal) (σ₁:AState):Prop:=as.length<=sizeLine/\∀ D,σ₁ D=none->Q (.ref D) (σ₁.set D (.list as))
theorem ev_tuple {es:List Expr}{k:Nat}{p:Pos} (g:EvL c ρ p es σ (KTup Q) X):Ev c ρ (.Tuple es k p) σ Q X:=fun s S=>by
 refine wpAny_Tuple_spliced ?_
 refine g.use S fun vs s₁ as σ₁ r S₁ y q=>⟨by rw [r.length];exact q.1,?_⟩
 have kp:∀ b o,s₁.heap.get? b=some o->(s₁.heap.push { cls:=.type "tuple",data:=.seq vs.toArray }).get? b=some o:=fun b o e=>Zu _ e
 exact ⟨.tup as,σ₁,.tup (Zz _ rfl) rfl rfl (r.keep (aq kp)),S₁.ext kp,y.trans (Step.ext (t:=s₁.toks) kp),q.2⟩
theorem nz {vs:List Value}{as:List AVal} (S:St c ρ σ s.heap) (r:VRs s.heap vs as) (hl:as.length<=sizeLine) (q:∀ D,σ D=none->Q (.ref D) (σ.set D (.list as))) :
  wpAny (model c.prog c.w) c.A (newList vs) (GPost VR c ρ σ s Q) (XPost c ρ σ s X) s:=by
 refine wpAny_newList ?_ (by rw [r.length];exact hl)
 have kp:∀ b o,s.heap.get? b=some o->(s.heap.push { cls:=.type "list",data:=.seq vs.toArray }).get? b=some o:=fun b o e=>Zu _ e
 have hn:=ag s.heap
 exact ⟨.ref s.heap.objs.size,_,.ref _,S.alloc (ao:=.list as) (.list (Zz _ rfl) (r.keep (aq kp))),Step.alloc (t:=s.toks) kp hn,q _ (S.none_of hn)⟩
theorem ev_list {es:List Expr}{p:Pos} (g:EvL c ρ p es σ (KLst Q) X):Ev c ρ (.List es p) σ Q X:=fun s S=>by
 rw [arm_eval_List]
 refine Zb (wpAny_standAt (Zb (g.use S fun vs s₁ as σ₁ r S₁ y q=>?_)))
 exact on y (nz S₁ r q.1 q.2)
theorem gJ {i:Int}{n:Nat} (h0:0<=i) (hn:i.toNat < n):seqIndex? i n=some i.toNat:=by
 unfold seqIndex?
 have e:(if i < 0 then i+(n:Int) else i)=i:=if_neg (Int.not_lt.mpr h0)
 have h1:i < (n:Int):=(Int.toNat_lt h0).mp hn
 simp only [e]
 rw [if_pos]
 simp [h0,h1]
theorem oA {n l:Nat} (h:n < l):l - n=l - (n+1)+1:=by rw [Nat.sub_add_eq];exact (Nat.sub_add_cancel (Nat.sub_pos_of_lt h)).symm
theorem pk {d k:Nat} (h:k<=d):((d:Int) - (k:Nat)).toNat=d - k:=by rw [<- Int.ofNat_sub h];rfl
def SubOn (c:Cx) (ρ:List NV) (a i:AVal) (σ:AState) (Q:AVal->AState->Prop) (X:AExc->AState->Prop):Prop:=∀ (s:Shared) (v w:Value),St c ρ σ s.heap->VR s.heap v a->VR s.heap w i ->
 ∃ T id,typeLookup (.type T) "__getitem__" = pure (some (.builtin id))/\s.TypeIs v T/\wpAny (model c.prog c.w) c.A (getItem v w) (GPost VR c ρ σ s Q) (XPost c ρ σ s X) s
abbrev KSub (c:Cx) (ρ:List NV) (Q:AVal->AState->Prop) (X:AExc->AState->Prop) (a i:AVal) (σ₂:AState):Prop:=SubOn c ρ a i σ₂ Q X
theorem ev_subscript {value slice:Expr}{p:Pos} (g:Ev c ρ value σ (KE c ρ slice (KSub c ρ Q X) X) X)
  (hs:∀ o i,subscripted slice false o i=operate [o,i] (getItem o i):=by intros;rfl):Ev c ρ (.Subscript value slice p) σ Q X:=fun s S=>by
 rw [eval_Subscript]
 refine Zb (g.use S fun o s₁ a σ₁ r S₁ y g₁=>?_)
 refine Zb (wpAny_holding (onP y (g₁.use S₁ fun i s₂ b σ₂ r₂ S₂ y₂ g₂=>?_)))
 obtain ⟨T,id⟩|⟨hl,hT,hg⟩:=(g₂ s₂ o i S₂ (r.keep (y₂.tup S₁)) r₂)
 refine Zb (wpAny_standAt (Zb ?_))
 rw [getitemInPython_of_ne hT.not_modules]
 refine Zb (wpAny_specialOf hT hl (Zp ?_))
 rw [hs]
 refine Zb (wpAny_operating (Zm hg (fun rr s₃ z=>?_) fun _ _ z=>((z.after y₂).after y)))
 exact Zb (wpAny_letTemporaryGo (Zp ((z.after y₂).after y)))
theorem d5 {a:Addr}{xs:List AVal}{i:Int}{x:AVal} (ha:σ a=some (.list xs)) (h0:0<=i) (hi:i < 2 ^ 63) (hx:xs[i.toNat]?=some x) (q:Q x σ):SubOn c ρ (.ref a) (.int i) σ Q X:=fun s v w S r r'=>by
 cases r.ref_inv
 obtain ⟨t,rfl⟩:=r'.int_inv
 cases S.obj a _ ha with
 | @list vs n _ e rs =>
  obtain ⟨v⟩|⟨hv,rv⟩:=(rs.get hx)
  have hl:s.heap.IsList a vs.toArray:=⟨_,e,rfl,_,rfl⟩
  exact ⟨"list",_,slot_list_getitem.lookup,hl.typeIs,wpAny_getItem_list hl h0 hi (by simpa using hv) (.here S rv q)⟩
theorem pd {xs:List AVal}{i:Int}{x:AVal} (h0:0<=i) (hi:i < 2 ^ 63) (hx:xs[i.toNat]?=some x) (q:Q x σ):SubOn c ρ (.tup xs) (.int i) σ Q X:=fun s v w S r r'=>by
 obtain ⟨t,rfl⟩:=r'.int_inv
 refine ex4 r.tup_inv fun l ol vs n h8z=>?_
 refine an5 h8z fun h7z e ec ed rs=>?_
 clear h8z
 obtain rfl:=h7z
 obtain ⟨v⟩|⟨hv,rv⟩:=(rs.get hx)
 have ht:IsTup s.heap l vs.toArray:=⟨ol,e,ec,n,ed⟩
 have hn:i.toNat < vs.length:=by
  rcases Nat.lt_or_ge i.toNat vs.length with z | z
  ·exact z
  ·rw [getElem?_eq_none z] at hv;cases hv
 exact ⟨"tuple",_,PyProof.Rows.slot_tuple_getitem.lookup,ht.typeIs,PyProof.Rows.getItem_tuple ht s!"o" hi (gJ h0 (by simpa using hn)) (by simpa using hv) (.here S rv q)⟩
theorem oE {xs:Str}{i:Int}{d:Nat} (h0:0<=i) (hi:i < 2 ^ 63) (hx:xs.cps[i.toNat]?=some d) (q:Q (.str ⟨#[d]⟩) σ):SubOn c ρ (.str xs) (.int i) σ Q X:=fun s v w S r r'=>by
 obtain ⟨t,rfl⟩:=r'.int_inv
 obtain ⟨u,rfl⟩:=r.str_inv
 have hn:i.toNat < xs.length:=by
  rcases Nat.lt_or_ge i.toNat xs.length with z | z
  ·exact z
  ·rw [Array.getElem?_eq_none z] at hx;cases hx
 exact ⟨"str",_,PyProof.Rows.slot_str_getitem.lookup,typeIs_str s xs u,P.getItem_str (by simp;walk_at "o") (by rw [gJ h0 hn];exact hx) (.tok S (.str ..) q)⟩
theorem ev_and1 {e:Expr}{p:Pos} (g:Ev c ρ e σ Q X):Ev c ρ (.BoolOp .And [e] p) σ Q X:=fun s S=>BoolOp_one (g s S)
theorem ev_or1 {e:Expr}{p:Pos} (g:Ev c ρ e σ Q X):Ev c ρ (.BoolOp .Or [e] p) σ Q X:=fun s S=>BoolOp_one (g s S)
abbrev KTrA (c:Cx) (ρ:List NV) (K:AVal->Bool->AState->Prop) (X:AExc->AState->Prop) (a:AVal) (σ₁:AState):Prop:=Truth c ρ a σ₁ (K a) X
abbrev KAndE (c:Cx) (ρ:List NV) (e:Expr) (Q:AVal->AState->Prop) (X:AExc->AState->Prop) (a:AVal) (b:Bool) (σ₂:AState):Prop:=if b then Ev c ρ e σ₂ Q X else Q a σ₂
abbrev KOrE (c:Cx) (ρ:List NV) (e:Expr) (Q:AVal->AState->Prop) (X:AExc->AState->Prop) (a:AVal) (b:Bool) (σ₂:AState):Prop:=if b then Q a σ₂ else Ev c ρ e σ₂ Q X
abbrev KNotV (Q:AVal->AState->Prop) (b:Bool) (σ₂:AState):Prop:=Q (.bool (!b)) σ₂
theorem ev_and {e₁ e₂:Expr}{es:List Expr}{p:Pos} (g:Ev c ρ e₁ σ (KTrA c ρ (KAndE c ρ (.BoolOp .And (e₂::es) p) Q X) X) X):Ev c ρ (.BoolOp .And (e₁::e₂::es) p) σ Q X:=fun s S=>by
 refine BoolOp_and ?_
 refine g.use S fun v s₁ a σ₁ r S₁ y q=>?_
 refine onP y (GoV.use (vs:=[v]) q S₁ (.cons r .nil) fun b s₂ b' σ₂ e S₂ y₂ q₂=>?_)
 cases e
 cases b with
 | true=>exact on (y.trans y₂) (q₂ s₂ S₂)
 | false=>exact ⟨a,σ₂,r.keep (y₂.tup S₁),S₂,y.trans y₂,q₂⟩
theorem ev_or {e₁ e₂:Expr}{es:List Expr}{p:Pos} (g:Ev c ρ e₁ σ (KTrA c ρ (KOrE c ρ (.BoolOp .Or (e₂::es) p) Q X) X) X):Ev c ρ (.BoolOp .Or (e₁::e₂::es) p) σ Q X:=fun s S=>by
 refine BoolOp_or ?_
 refine g.use S fun v s₁ a σ₁ r S₁ y q=>?_
 refine onP y (GoV.use (vs:=[v]) q S₁ (.cons r .nil) fun b s₂ b' σ₂ e S₂ y₂ q₂=>?_)
 cases e
 cases b with
 | false=>exact on (y.trans y₂) (q₂ s₂ S₂)
 | true=>exact ⟨a,σ₂,r.keep (y₂.tup S₁),S₂,y.trans y₂,q₂⟩
theorem ev_not {e:Expr}{p:Pos} (g:Ev c ρ e σ (KTr c ρ (KNotV Q) X) X):Ev c ρ (.UnaryOp .Not e p) σ Q X:=fun s S=>by
 refine wpAny_UnaryOp ?_
 refine g.use S fun v s₁ a σ₁ r S₁ y q=>?_
 unfold unaryOp
 refine wpAny_holding ?_
 refine Zb (onP y (GoV.use (vs:=[v]) q S₁ (.cons r .nil) fun b s₂ b' σ₂ e S₂ y₂ q₂=>?_))
 cases e
 exact Zp ⟨.bool (!b),σ₂,.bool _,S₂,y.trans y₂,q₂⟩
theorem ev_neg {i:Int}{k:Nat}{p p':Pos} (q:Q (.int (-i)) σ):Ev c ρ (.UnaryOp .USub (.Constant (.int i) k p') p) σ Q X:=fun s S=>by
 refine wpAny_UnaryOp (wpAny_Constant_int ?_)
 refine PyProof.Rows.neg_int ?_
 exact .tok (t:=s.toks+1+1) S (.int _ _) q
theorem et {a:AVal}{v:Value}{op:CmpOp}{r:Expr}{P:Value->Value->Shared->Prop} (y₀:Step c σ₀ s₀ σ s) (S:St c ρ σ s.heap) (ra:VR s.heap v a) {K:AVal->AVal->AState->Prop}
  (g:Ev c ρ r σ (fun b σ₁=>Cmp c ρ op a b σ₁ (fun z σ₂=>K b z σ₂) X) X)
  (k:∀ vb vz s₂ b z σ₂,VR s₂.heap vb b->VR s₂.heap vz z->St c ρ σ₂ s₂.heap->Step c σ₀ s₀ σ₂ s₂->K b z σ₂->P vb vz s₂) :
  wpAny (model c.prog c.w) c.A (eval r c.env) (fun b s₁=>wpAny (model c.prog c.w) c.A (compareOp op v b) (fun z s₂=>P b z s₂) (XPost c ρ σ₀ s₀ X) s₁) (XPost c ρ σ₀ s₀ X) s:=by
 refine onP y₀ (g.use S fun b s₁ ab σ₁ rb S₁ y₁ g₁=>?_)
 refine onP (y₀.trans y₁) (GoV.use (vs:=[v,b]) g₁ S₁ (.cons (ra.keep (y₁.tup S)) (.cons rb .nil)) fun z s₂ az σ₂ rz S₂ y₂ q=>?_)
 exact k b z s₂ ab az σ₂ (rb.keep (y₂.tup S₁)) rz S₂ ((y₀.trans y₁).trans y₂) q
section
variable (c:Cx) (ρ:List NV) (op₁ op₂:CmpOp) (r₂:Expr)
abbrev KCh2 (Q:AVal->AState->Prop) (X:AExc->AState->Prop) (b z:AVal) (t:Bool) (σ₄:AState):Prop:=if t then Ev c ρ r₂ σ₄ (KCmp c ρ op₂ Q X b) X else Q z σ₄
abbrev KCh1 (Q:AVal->AState->Prop) (X:AExc->AState->Prop) (b z:AVal) (σ₃:AState):Prop:=Truth c ρ z σ₃ (KCh2 c ρ op₂ r₂ Q X b z) X
abbrev KCh (Q:AVal->AState->Prop) (X:AExc->AState->Prop) (a b:AVal) (σ₂:AState):Prop:=Cmp c ρ op₁ a b σ₂ (KCh1 c ρ op₂ r₂ Q X b) X
abbrev KChT2 (Q:Bool->AState->Prop) (X:AExc->AState->Prop) (b:AVal) (t:Bool) (σ₄:AState):Prop:=if t then Ev c ρ r₂ σ₄ (KCmp c ρ op₂ (KTr c ρ Q X) X b) X else Q false σ₄
abbrev KChT1 (Q:Bool->AState->Prop) (X:AExc->AState->Prop) (b z:AVal) (σ₃:AState):Prop:=Truth c ρ z σ₃ (KChT2 c ρ op₂ r₂ Q X b) X
abbrev KChT (Q:Bool->AState->Prop) (X:AExc->AState->Prop) (a b:AVal) (σ₂:AState):Prop:=Cmp c ρ op₁ a b σ₂ (KChT1 c ρ op₂ r₂ Q X b) X
end
theorem ev_chain2 {l r₁ r₂:Expr}{op₁ op₂:CmpOp}{p:Pos}
  (g:Ev c ρ l σ (KE c ρ r₁ (KCh c ρ op₁ op₂ r₂ Q X) X) X)
  (hm:lastMarks [op₁,op₂] [r₁,r₂]=false:=by walk_at "u"):Ev c ρ (.Compare l [op₁,op₂] [r₁,r₂] p) σ Q X:=fun s S=>by
 refine Compare_chain ?_ hm
 refine g.use S fun v s₁ a σ₁ ra S₁ y₁ g₁=>?_
 refine chain_link (et (K:=fun b z σ₃=>Truth c ρ z σ₃ (fun t σ₄=>if t then Ev c ρ r₂ σ₄ (fun d σ₅=>Cmp c ρ op₂ b d σ₅ Q X) X else Q z σ₄) X) y₁ S₁ ra g₁ fun vb vz s₂ b z σ₂ rb rz S₂ y₂ q=>?_)
 refine onP y₂ (GoV.use (vs:=[vz]) q S₂ (.cons rz .nil) fun t s₃ t' σ₃ e S₃ y₃ q₃=>?_)
 cases e
 have y:=y₂.trans y₃
 cases t with
 | false=>exact ⟨z,σ₃,rz.keep (y₃.tup S₂),S₃,y,q₃⟩
 | true =>
  refine chain_last (et (K:=fun d z σ=>Q z σ) y S₃ (rb.keep (y₃.tup S₂)) q₃ fun vb' vz' s₄ b' z' σ₄ _ rz' S₄ y₄ q₄=>?_)
  exact ⟨z',σ₄,rz',S₄,y₄,q₄⟩
theorem iK {l r₁ r₂:Expr}{op₁ op₂:CmpOp}{p:Pos}
  (g:Ev c ρ l σ (KE c ρ r₁ (KChT c ρ op₁ op₂ r₂ QB X) X) X)
  (hm:lastMarks [op₁,op₂] [r₁,r₂]=false:=by walk_at "u"):Tst c ρ (.Compare l [op₁,op₂] [r₁,r₂] p) σ QB X:=fun s S=>by
 refine isTrue_chain ?_ hm
 refine g.use S fun v s₁ a σ₁ ra S₁ y₁ g₁=>?_
 refine test_link (et (K:=fun b z σ₃=>Truth c ρ z σ₃ (fun t σ₄=>if t then Ev c ρ r₂ σ₄ (fun d σ₅=>Cmp c ρ op₂ b d σ₅ (fun z σ₆=>Truth c ρ z σ₆ QB X) X) X else QB false σ₄) X) y₁ S₁ ra g₁ fun vb vz s₂ b z σ₂ rb rz S₂ y₂ q=>?_)
 refine onP y₂ (GoV.use (vs:=[vz]) q S₂ (.cons rz .nil) fun t s₃ t' σ₃ e S₃ y₃ q₃=>?_)
 cases e
 have y:=y₂.trans y₃
 cases t with
 | false=>exact ⟨false,σ₃,rfl,S₃,y,q₃⟩
 | true =>
  refine test_last (et (K:=fun d z σ=>Truth c ρ z σ QB X) y S₃ (rb.keep (y₃.tup S₂)) q₃ fun vb' vz' s₄ b' z' σ₄ _ rz' S₄ y₄ q₄=>?_)
  exact on y₄ (q₄ [vz'] s₄ S₄ (.cons rz' .nil))
end
section
variable {K:Type} [DecidableEq K]
def vAt (es:List (K × AVal)) (k:K):Option AVal:=(es.find? fun kv=>decide (kv.1=k)).map (·.2)
def sto (es:List (K × AVal)) (k:K) (v:AVal):List (K × AVal):=if es.any (fun kv=>decide (kv.1=k)) then es.map (fun kv=>if kv.1=k then (kv.1,v) else kv) else es++[(k,v)]
def wout (es:List (K × AVal)) (k:K):List (K × AVal):=es.filter fun kv=>decide (kv.1≠k)
variable {h:Heap}
theorem KRs.at {kvs:List (K × Value)}{es:List (K × AVal)} (k:K) (r:KRs h kvs es):(valueAt kvs k=none/\vAt es k=none)\/∃ v a,valueAt kvs k=some v/\vAt es k=some a/\VR h v a:=by
 induction r with
 | nil=>exact .inl ⟨rfl,rfl⟩
 | @cons k' _ _ _ _ x _ ih =>
  by_cases e:k'=k
  ·exact .inr ⟨_,_,by simp [valueAt,e],by simp [vAt,e],x⟩
  ·simpa [valueAt,vAt,e] using ih
theorem KRs.at_some {kvs:List (K × Value)}{es:List (K × AVal)}{k:K}{a:AVal} (r:KRs h kvs es) (e:vAt es k=some a):∃ v,valueAt kvs k=some v/\VR h v a:=by
 rcases r.at k with ⟨_,q⟩ | ⟨v,b,q1,q2,q3⟩
 ·rw [e] at q;cases q
 ·rw [e] at q2;cases q2;exact ⟨v,q1,q3⟩
theorem KRs.at_isSome {kvs:List (K × Value)}{es:List (K × AVal)} (k:K) (r:KRs h kvs es):(valueAt kvs k).isSome=(vAt es k).isSome:=by
 rcases r.at k with ⟨p,q⟩ | ⟨v,b,q1,q2,q3⟩
 ·rw [p,q];rfl
 ·rw [q1,q2];rfl
theorem KRs.any {kvs:List (K × Value)}{es:List (K × AVal)} (k:K) (r:KRs h kvs es):(kvs.any fun kv=>decide (kv.1=k))=es.any fun kv=>decide (kv.1=k):=by
 induction r with
 | nil=>rfl
 | cons _ _ ih=>simp only [any_cons,ih]
theorem KRs.app {kvs lvs:List (K × Value)}{es ls:List (K × AVal)} (r:KRs h kvs es) (q:KRs h lvs ls):KRs h (kvs++lvs) (es++ls):=by
 induction r with
 | nil=>exact q
 | cons x _ ih=>exact .cons x ih
theorem KRs.stored {kvs:List (K × Value)}{es:List (K × AVal)}{k:K}{v:Value}{a:AVal} (r:KRs h kvs es) (x:VR h v a):KRs h (stored kvs k v) (sto es k a):=by
 unfold PySem.stored sto
 rw [<- r.any k]
 split
 ·have:∀ {kvs:List (K × Value)}{es:List (K × AVal)},KRs h kvs es->KRs h (kvs.map fun kv=>if kv.1=k then (kv.1,v) else kv) (es.map fun kv=>if kv.1=k then (kv.1,a) else kv):=by
   intro kvs es r
   induction r with
   | nil=>exact .nil
   | @cons k' _ _ _ _ y _ ih =>
    rw [map_cons,map_cons]
    by_cases e:k'=k
    ·simp only [e,if_true];exact .cons x ih
    ·simp only [e,if_false];exact .cons y ih
  exact this r
 ·exact r.app (.cons x .nil)
theorem KRs.without {kvs:List (K × Value)}{es:List (K × AVal)}{k:K} (r:KRs h kvs es):KRs h (without kvs k) (wout es k):=by
 unfold PySem.without wout
 induction r with
 | nil=>exact .nil
 | @cons k' _ _ _ _ y _ ih =>
  rw [filter_cons,filter_cons]
  by_cases e:k'=k
  ·simp only [e,ne_eq,not_true_eq_false,decide_false,Bool.false_eq_true,if_false];exact ih
  ·simp only [e,ne_eq,not_false_eq_true,decide_true,if_true];exact .cons y ih
theorem KRs.get {kvs:List (K × Value)}{es:List (K × AVal)} (r:KRs h kvs es):∀ {i:Nat}{k:K}{x:Value},kvs[i]?=some (k,x)->∃ a,es[i]?=some (k,a):=by
 induction r with
 | nil=>intro i k x e;simp at e
 | cons _ _ ih =>
  intro i k x e
  cases i with
  | zero=>cases e;exact ⟨_,rfl⟩
  | succ i=>simpa using ih (by simpa using e)
end
section
variable {c:Cx}{ρ ρ':List NV}{σ σ₀ σ₁ σ' τ:AState}{h h' B:Heap}{s s₀ s₁ s₂ s':Shared}{Q:AVal->AState->Prop}{QB:Bool->AState->Prop}{X:AExc->AState->Prop}
variable {N:List NV->AState->Prop}{R:AVal->AState->Prop}{XS:AExc->List NV->AState->Prop}
theorem St.notMods (S:St c ρ σ h) {d:Addr}{o:AObj} (hd:σ d=some o):(d == sysModules)=false:=by
 obtain ⟨ob,e⟩:=S.ok.sm
 refine beq_eq_false_iff_ne.mpr fun q=>?_
 have:=(S.off d o hd).1
 rw [q,e] at this;cases this
theorem isS (x:Str) (t:Tok):(strKind c.prog c.w).is x (.str x t)=true:=strKind_is _ _ x t
theorem isI (x:Int) (t:Tok):(intKind c.prog c.w).is x (.int x t)=true:=intKind_is _ _ x t
theorem rp {d:Addr}{es:List (Str × AVal)}{k:Str} (hd:σ d=some (.dictS es)) (q:Q (.bool (vAt es k).isSome) σ):Cmp c ρ .In (.str k) (.ref d) σ Q X:=fun vs s S r=>by
 apply r.two';intro v w a b
 apply a.str';intro t;apply b.ref'
 refine (S.obj d _ hd).dictS' fun _ e rs=>?_
 exact wpAny_in_of (isS k t) (S.notMods hd) e.mapOf (.tok S (by rw [rs.at_isSome k];exact .bool _) q)
theorem ny {d:Addr}{es:List (Str × AVal)}{k:Str} (hd:σ d=some (.dictS es)) (q:Q (.bool (!(vAt es k).isSome)) σ):Cmp c ρ .NotIn (.str k) (.ref d) σ Q X:=fun vs s S r=>by
 apply r.two';intro v w a b
 apply a.str';intro t;apply b.ref'
 refine (S.obj d _ hd).dictS' fun _ e rs=>?_
 exact wpAny_notIn_of (isS k t) (S.notMods hd) e.mapOf (.tok S (by rw [rs.at_isSome k];exact .bool _) q)
theorem ru {d:Addr}{es:List (Int × AVal)}{k:Int} (hd:σ d=some (.dictI es)) (q:Q (.bool (vAt es k).isSome) σ):Cmp c ρ .In (.int k) (.ref d) σ Q X:=fun vs s S r=>by
 apply r.two';intro v w a b
 apply a.int';intro t;apply b.ref'
 refine (S.obj d _ hd).dictI' fun _ e rs=>?_
 exact wpAny_in_of (isI k t) (S.notMods hd) e.mapOf (.tok S (by rw [rs.at_isSome k];exact .bool _) q)
theorem nO {d:Addr}{es:List (Int × AVal)}{k:Int} (hd:σ d=some (.dictI es)) (q:Q (.bool (!(vAt es k).isSome)) σ):Cmp c ρ .NotIn (.int k) (.ref d) σ Q X:=fun vs s S r=>by
 apply r.two';intro v w a b
 apply a.int';intro t;apply b.ref'
 refine (S.obj d _ hd).dictI' fun _ e rs=>?_
 exact wpAny_notIn_of (isI k t) (S.notMods hd) e.mapOf (.tok S (by rw [rs.at_isSome k];exact .bool _) q)
theorem fS {d:Addr}{es:List (Str × AVal)}{k:Str}{a:AVal} (hd:σ d=some (.dictS es)) (ha:vAt es k=some a) (q:Q a σ):SubOn c ρ (.ref d) (.str k) σ Q X:=fun s v w S r r'=>by
 apply r.ref';apply r'.str';intro t
 refine (S.obj d _ hd).dictS' fun _ e rs=>?_
 obtain ⟨v⟩|⟨hv,rv⟩:=(rs.at_some ha)
 exact ⟨"dict",_,slot_dict_getitem.lookup,e.typeIs,wpAny_getItem_of (isS k t) e.mapOf hv (.tok S rv q)⟩
theorem VRs.set {h:Heap}{vs:List Value}{as:List AVal}{j:Nat}{v:Value}{a:AVal} (r:VRs h vs as) (y:VR h v a):VRs h (vs.set j v) (as.set j a):=by
 induction as generalizing vs j with
 | nil=>cases r;exact .nil
 | cons b as ih=>cases r with | cons x r=>cases j with
  | zero=>exact .cons y r
  | succ j=>exact .cons x (ih r)
theorem VRs.of_get {h:Heap}{vs:List Value}{as:List AVal} (hl:vs.length=as.length) (hh:∀ (j:Nat) (v:Value) (a:AVal),vs[j]?=some v->as[j]?=some a->VR h v a):VRs h vs as:=by
 induction as generalizing vs with
 | nil=>rw [List.length_eq_zero_iff.mp hl];exact .nil
 | cons a as ih=>cases vs with
  | nil=>cases hl
  | cons v vs=>exact .cons (hh 0 v a rfl rfl) (ih (Nat.succ.inj hl) fun j v a p q=>hh (j+1) v a p q)
def SetOn (c:Cx) (ρ:List NV) (o i v:AVal) (σ:AState) (N:AState->Prop) (X:AExc->AState->Prop):Prop:=∀ (s:Shared) (ov iv vv:Value),St c ρ σ s.heap->VR s.heap ov o->VR s.heap iv i->VR s.heap vv v ->
 wpAny (model c.prog c.w) c.A (setItem ov iv vv) (fun _ s'=>∃ σ',St c ρ σ' s'.heap/\Step c σ s σ' s'/\N σ') (XPost c ρ σ s X) s
abbrev KSo (c:Cx) (ρ:List NV) (N:List NV->AState->Prop) (XS:AExc->List NV->AState->Prop) (v a b:AVal) (σ₃:AState):Prop:=SetOn c ρ a b v σ₃ (N ρ) (XAt XS ρ)
abbrev KSi (c:Cx) (ρ:List NV) (i:Expr) (N:List NV->AState->Prop) (XS:AExc->List NV->AState->Prop) (v a:AVal) (σ₂:AState):Prop:=Ev c ρ i σ₂ (KSo c ρ N XS v a) (XAt XS ρ)
theorem iD {o i value:Expr}{pa p:Pos} (g:Ev c ρ value σ (KE c ρ o (KSi c ρ i N XS) (XAt XS ρ)) (XAt XS ρ))
  (hs:swapsWith value (some (.Subscript o i pa)) p.line c.env=pure false:=by walk_at "u"):WS c ρ (.Assign [.Subscript o i pa] value p) σ N R XS:=fun s S=>by
 refine wpAny_Assign_Subscript ?_ hs
 refine g.useS S fun v s₁ a σ₁ r S₁ y q=>?_
 refine Zm (q.use S₁ (P:=fun ov s₂=>wpAny (model c.prog c.w) c.A (eval i c.env) (fun iv s₃=>wpAny (model c.prog c.w) c.A (setItem ov iv v) (fun _=>FPost c σ s N R .next) (XSPost c σ s XS) s₃) (XSPost c σ s XS) s₂) fun ov s₂ b σ₂ r₂ S₂ y₂ q₂=>?_) (fun _ _ z=>z) fun _ _ z=>XSPost.after y z.toS
 refine Zm (q₂.use S₂ (P:=fun iv s₃=>wpAny (model c.prog c.w) c.A (setItem ov iv v) (fun _=>FPost c σ s N R .next) (XSPost c σ s XS) s₃) fun iv s₃ d σ₃ r₃ S₃ y₃ q₃=>?_) (fun _ _ z=>z) fun _ _ z=>XSPost.after (y.trans y₂) z.toS
 refine Zm (q₃ s₃ ov iv v S₃ (r₂.keep (y₃.tup S₂)) r₃ ((r.keep (y₂.tup S₁)).keep (y₃.tup S₂))) (fun _ s₄ z=>?_) fun _ _ z=>XSPost.after ((y.trans y₂).trans y₃) z.toS
 obtain ⟨σ₄⟩|⟨S₄,y₄,hN⟩:=z
 exact ⟨ρ,σ₄,S₄,((y.trans y₂).trans y₃).trans y₄,hN⟩
theorem fR {a:Addr}{xs:List AVal}{i:Int}{v:AVal}{M:AState->Prop} (ha:σ a=some (.list xs)) (h0:0<=i) (hi:i < 2 ^ 63) (hn:i < xs.length) (q:M (σ.set a (.list (xs.set i.toNat v)))):SetOn c ρ (.ref a) (.int i) v σ M X:=fun s ov iv vv S ro ri rv=>by
 apply ro.ref';apply ri.int';intro t
 refine (S.obj a _ ha).list' fun vs n e rs=>?_
 have hl:=rs.length
 refine ki_setAt e h0 hi (by rw [size_toArray,hl];exact hn) ?_
 have hd':∃ n',(s.heap.update a (Obj.mapSeq (·.setIfInBounds i.toNat vv))).get? a=some { cls:=.type "list",data:=.seq (vs.set i.toNat vv).toArray n' }:=by
  have:=Heap.get?_update_self (Obj.mapSeq (·.setIfInBounds i.toNat vv)) e rfl
  rw [this]
  have q:vs.toArray.setIfInBounds i.toNat vv=(vs.set i.toNat vv).toArray:=by simp
  simp only [Obj.mapSeq,q]
  exact ⟨_,rfl⟩
 obtain ⟨n',hd'⟩:=hd'
 have hs:Heap.SameBut a s.heap (s.heap.update a (Obj.mapSeq (·.setIfInBounds i.toNat vv))):=Heap.SameBut.update ..
 have tt:=aw hs.extBut e fun q=>by simp at q
 have R':OR c.prog c.w (s.heap.update a (Obj.mapSeq (·.setIfInBounds i.toNat vv))) a (.list (xs.set i.toNat v)):=.list hd' ((rs.set rv).keep tt)
 exact ⟨_,S.upd ha hs.extBut R',Step.upd (t:=s.toks) ha hs.extBut R',q⟩
theorem fY {d:Addr}{es:List (Str × AVal)}{k:Str}{v:AVal}{M:AState->Prop} (hd:σ d=some (.dictS es)) (hz:es.length<=sizeLine) (q:M (σ.set d (.dictS (sto es k v)))):SetOn c ρ (.ref d) (.str k) v σ M X:=fun s ov iv vv S ro ri rv=>by
 apply ro.ref';apply ri.str';intro t
 refine (S.obj d _ hd).dictS' fun _ e rs=>?_
 refine wpAny_setItem_pairs (isS k t) e (fun h' e' hs=>?_) (by rw [rs.length];exact hz)
 obtain ⟨ob⟩|⟨eo,nn⟩:=((S.obj d _ hd).here)
 have tt:TupKept s.heap h':=aw hs.extBut eo nn
 have R':OR c.prog c.w h' d (.dictS (sto es k v)):=.dictS e' ((rs.stored rv).keep tt)
 exact ⟨_,S.upd hd hs.extBut R',Step.upd (t:=s.toks+1) hd hs.extBut R',q⟩
theorem jV {d:Addr}{es:List (Int × AVal)}{k:Int}{v:AVal}{M:AState->Prop} (hd:σ d=some (.dictI es)) (hz:es.length<=sizeLine) (q:M (σ.set d (.dictI (sto es k v)))):SetOn c ρ (.ref d) (.int k) v σ M X:=fun s ov iv vv S ro ri rv=>by
 apply ro.ref';apply ri.int';intro t
 refine (S.obj d _ hd).dictI' fun _ e rs=>?_
 refine wpAny_setItem_pairs (isI k t) e (fun h' e' hs=>?_) (by rw [rs.length];exact hz)
 obtain ⟨ob⟩|⟨eo,nn⟩:=((S.obj d _ hd).here)
 have tt:TupKept s.heap h':=aw hs.extBut eo nn
 have R':OR c.prog c.w h' d (.dictI (sto es k v)):=.dictI e' ((rs.stored rv).keep tt)
 exact ⟨_,S.upd hd hs.extBut R',Step.upd (t:=s.toks+1) hd hs.extBut R',q⟩
theorem oD {d:Addr}{es:List (Str × AVal)}{k:Str}{a:AVal} (hd:σ d=some (.dictS es)) (ha:vAt es k=some a) (hz:es.length<=sizeLine) (q:Q a (σ.set d (.dictS (wout es k)))) :
  GoV VR c ρ [.ref d,.str k] (fun vs=>call (.builtin "dict.pop") vs) σ Q X:=fun vs s S r=>by
 apply r.two';intro v w x y
 apply x.ref';apply y.str';intro t
 refine (S.obj d _ hd).dictS' fun kvs e rs=>?_
 obtain ⟨v⟩|⟨hv,rv⟩:=(rs.at_some ha)
 refine call_meetsIn PySem.F.slot_dict_pop e.typeIs PySem.F.entry_dict_pop (PySem.F.args_dict_pop_2 _ _) (meets_dict_pop_there _ d (isS k t) [] (.inl rfl) rfl) ⟨kvs,v,e,(by rw [rs.length];exact hz),hv,fun h' e' hs=>?_⟩
 obtain ⟨ob⟩|⟨eo,nn⟩:=((S.obj d _ hd).here)
 have tt:TupKept s.heap h':=aw hs.extBut eo nn
 have R':OR c.prog c.w h' d (.dictS (wout es k)):=.dictS e' (rs.without.keep tt)
 exact ⟨a,_,rv.keep tt,S.upd hd hs.extBut R',Step.upd (t:=s.toks+1) hd hs.extBut R',q⟩
theorem pZ {d:Addr}{es:List (Str × AVal)} (hd:σ d=some (.dictS es)) (hz:es.length<=sizeLine) (q:∀ D,σ D=none->Q (.ref D) (σ.set D (.list (es.map fun e=>.str e.1)))) (cm:c.calm=true:=by walk_at "cm") :
  GoV VR c ρ [.ref d] (fun vs=>call (.type "list") vs) σ Q X:=fun vs s S r=>by
 apply r.one';intro v x
 apply x.ref'
 refine (S.obj d _ hd).dictS' fun kvs e rs=>?_
 obtain ⟨ep,hat⟩:=e.dictAt
 refine kdl_call (kdl_dict (knd:=strKind c.prog c.w) (kvs:=kvs) (ep:=ep) (S.notMods hd)) (S.ok.hd cm) hat (by rw [rs.length];exact hz) fun h' tk acc' c' hk hD hacc=>?_
 have hn:=ag s.heap
 have va:VRs h' acc'.toList (es.map fun e=>.str e.1):=VRs.of_get (by rw [Array.length_toList,length_map,hacc.1,rs.length]) fun j u b hu hb=>by
  obtain ⟨k,x⟩|⟨hx,hk⟩:=(hacc.2 j u (by rw [<- Array.getElem?_toList];exact hu))
  obtain ⟨t,rfl⟩:=Value.isStrOf_shape hk
  obtain ⟨a',ha'⟩:=rs.get hx
  rw [getElem?_map,ha'] at hb
  cases hb
  exact .str k t
 exact ⟨.ref _,_,.ref _,(S.ext hk).add (.list (by rw [Array.toArray_toList];exact hD) va) (S.new_off hn),(Step.ext (t:=tk) hk).tell hn,q _ (S.none_of hn)⟩
end
section
variable {c:Cx}{ρ ρ':List NV}{σ σ₀ σ₁ σ' τ:AState}{h h' B:Heap}{s s₀ s₁ s₂ s':Shared}{Q:AVal->AState->Prop}{QB:Bool->AState->Prop}{X:AExc->AState->Prop}
inductive PRs (h:Heap):List (Value × Value)->List (Str × AVal)->Prop
 | nil:PRs h [] []
 | cons {k:Str}{t:Tok}{v:Value}{a:AVal}{vs:List (Value × Value)}{as:List (Str × AVal)}:VR h v a->PRs h vs as->PRs h ((.str k t,v)::vs) ((k,a)::as)
theorem PRs.carries {h:Heap}{vs:List (Value × Value)}{as:List (Str × AVal)} (r:PRs h vs as):∃ kvs,Carries (strKind c.prog c.w) vs kvs/\KRs h kvs as:=by
 induction r with
 | nil=>exact ⟨[],trivial,.nil⟩
 | @cons k t v a vs as x _ ih=>refine ex1 ih fun kvs h1z=>?_;(try clear ih);refine an2 h1z fun q1 q2=>?_;clear h1z;exact ⟨(k,v)::kvs,⟨isS k t,rfl,q1⟩,.cons x q2⟩
def mrg (acc es:List (Str × AVal)):List (Str × AVal):=es.foldl (fun acc e=>sto acc e.1 e.2) acc
theorem KRs.merged {kvs more:List (Str × Value)}{es m:List (Str × AVal)} (r:KRs h kvs es) (q:KRs h more m):KRs h (merged kvs more) (mrg es m):=by
 unfold PySem.merged mrg
 induction q generalizing kvs es with
 | nil=>exact r
 | cons x _ ih=>exact ih (r.stored x)
abbrev EvP (c:Cx) (ρ:List NV) (pos:Pos) (ks:List (Option Expr)) (vs:List Expr) (σ:AState) (Q:List (Str × AVal)->AState->Prop) (X:AExc->AState->Prop):Prop:=Go PRs c ρ (evalPairs (pairTrees ks vs c.env pos)) σ Q X
theorem qR {pos:Pos}{Q:List (Str × AVal)->AState->Prop} (q:Q [] σ):EvP c ρ pos [] [] σ Q X:=fun s S=>pairTrees_nil_walk (.here S .nil q)
abbrev KPc (kk:Str) (Q:List (Str × AVal)->AState->Prop) (a:AVal) (es:List (Str × AVal)) (σ₃:AState):Prop:=Q ((kk,a)::es) σ₃
abbrev KPv (c:Cx) (ρ:List NV) (pos:Pos) (ks:List (Option Expr)) (vs:List Expr) (kk:Str) (Q:List (Str × AVal)->AState->Prop) (X:AExc->AState->Prop) (a:AVal) (σ₂:AState):Prop:=EvP c ρ pos ks vs σ₂ (KPc kk Q a) X
inductive KeyAt (c:Cx) (ρ:List NV) (pos:Pos) (v:Expr) (ks:List (Option Expr)) (vs:List Expr) (Q:List (Str × AVal)->AState->Prop) (X:AExc->AState->Prop) (ka:AVal) (σ₁:AState):Prop
 | mk (kk:Str) (e:ka=.str kk) (q:Ev c ρ v σ₁ (KPv c ρ pos ks vs kk Q X) X)
abbrev KDi (Q:AVal->AState->Prop) (es:List (Str × AVal)) (σ₁:AState):Prop:=∀ D,σ₁ D=none->Q (.ref D) (σ₁.set D (.dictS (mrg [] es)))
theorem p0 {pos:Pos}{k v:Expr}{ks:List (Option Expr)}{vs:List Expr}{Q:List (Str × AVal)->AState->Prop}
  (g:Ev c ρ k σ (KeyAt c ρ pos v ks vs Q X) X):EvP c ρ pos (some k::ks) (v::vs) σ Q X:=fun s S=>by
 refine pairTrees_cons_walk ?_
 refine g.use S fun kv s₁ ka σ₁ rk S₁ y₁ q₁=>?_
 obtain ⟨kk,rfl,q₁⟩:=q₁
 apply rk.str';intro t
 refine onP y₁ (q₁.use S₁ (P:=fun vv s₂=>wpAny (model c.prog c.w) c.A (evalPairs (pairTrees ks vs c.env pos)) (fun r s₃=>GPost PRs c ρ σ s Q ((.str kk t,vv)::r) s₃) (XPost c ρ σ s X) s₂) fun vv s₂ a σ₂ rv S₂ y₂ q₂=>?_)
 refine Zm (q₂ s₂ S₂) (fun r s₃ p=>?_) fun _ _ z=>z.after (y₁.trans y₂)
 obtain ⟨es,σ₃,rr,S₃,y₃,q₃⟩:=p
 exact ⟨_,σ₃,.cons (rv.keep (y₃.tup S₂)) rr,S₃,(y₁.trans y₂).trans y₃,q₃⟩
theorem ev_dict {ks:List (Option Expr)}{vs:List Expr}{p:Pos} (g:EvP c ρ p ks vs σ (KDi Q) X)
  (hall:ks.all (·.isSome)=true:=by walk_at "u") (hl:ks.length=vs.length:=by walk_at "u") (h0:ks≠[]:=by simp) (hlen:ks.length<=15:=by decide):Ev c ρ (.Dict ks vs p) σ Q X:=fun s S=>by
 refine wpAny_Dict_walk (knd:=strKind c.prog c.w) hall hl h0 hlen ?_
 have hn:=ag s.heap
 have kp:∀ b o,s.heap.get? b=some o->(s.heap.push { cls:=.type "dict",data:=.dict #[] }).get? b=some o:=fun b o e=>Zu _ e
 have y₀:Step c σ s σ { s with heap:=s.heap.push { cls:=.type "dict",data:=.dict #[] } }:=Step.ext (t:=s.toks) kp
 have S₀:St c ρ σ (s.heap.push { cls:=.type "dict",data:=.dict #[] }):=S.ext kp
 have fD:=S.new_off hn
 have hD0:(s.heap.push { cls:=.type "dict",data:=.dict #[] }).get? s.heap.objs.size=some { cls:=.type "dict",data:=.dict #[] }:=Zz _ rfl
 refine onP y₀ (Go.use (s:={ s with heap:=s.heap.push { cls:=.type "dict",data:=.dict #[] } }) g S₀ fun vs' s₁ es σ₁ r S₁ y₁ q=>?_)
 obtain ⟨kvs⟩|⟨hc,rk⟩:=(r.carries (c:=c))
 have hD1:=y₁.exact hD0 (S.none_of hn) fD.2.1 fD.2.2.1
 have nD:σ₁ s.heap.objs.size=none:=y₁.grow _ _ hD0 (S.none_of hn)
 refine ⟨kvs,hc,⟨_,#[],0,hD1,⟨rfl,rfl,rfl⟩,rfl,(fun e he=>by simp at he),.nil,nodup_nil⟩,fun h' hd hs=>?_⟩
 have t:TupKept s₁.heap h':=aw hs.extBut hD1 fun q=>by simp at q
 have S₂:St c ρ σ₁ h':=S₁.move (W:=fun b=>b=s.heap.objs.size) (fun b o nb e=>hs.extBut b o nb e) (fun b z=>z ▸ fD.1) (fun b hb z=>fD.2.1 (z ▸ hb)) (fun b hb z=>fD.2.2.1 (z ▸ hb)) (fun x hx z=>fD.2.2.2 x hx z.symm) (fun b o e z=>by rw [z,nD] at e;cases e) t
 have R':OR c.prog c.w h' s.heap.objs.size (.dictS (mrg [] es)):=.dictS hd ((KRs.merged .nil rk).keep t)
 exact ⟨.ref _,_,.ref _,S₂.add R' fD,((y₀.trans y₁).later (t:=s₁.toks+vs'.length) (fun b o nb e=>hs.extBut b o nb e) hn).tell hn,q _ nD⟩
theorem ev_dict_nil {p:Pos} (ao:AObj) (ha:ao=.dictS []\/ao=.dictI []\/ao=.dictT [] 0) (q:∀ D,σ D=none->Q (.ref D) (σ.set D ao)):Ev c ρ (.Dict [] [] p) σ Q X:=fun s S=>by
 refine wpAny_Dict_empty ?_
 have hn:=ag s.heap
 have kp:∀ b o,s.heap.get? b=some o->(s.heap.push { cls:=.type "dict",data:=.dict #[] }).get? b=some o:=fun b o e=>Zu _ e
 have R':OR c.prog c.w (s.heap.push { cls:=.type "dict",data:=.dict #[] }) s.heap.objs.size ao:=by
  rcases ha with rfl | rfl | rfl
  ·exact .dictS (.new _) .nil
  ·exact .dictI (.new _) .nil
  ·exact .dictT (.new _) ⟨_,_,Zz _ rfl,rfl⟩ .nil
 exact ⟨.ref _,_,.ref _,S.alloc R',Step.alloc (t:=s.toks) kp hn,q _ (S.none_of hn)⟩
end
theorem gU {h:Heap}{ns:List Int}:∀ {vs:List Value},VRs h vs (ns.map .int)->IntsAre vs ns:=by
 induction ns with
 | nil=>intro vs r;cases r;exact .nil
 | cons n ns ih=>intro vs r;cases r with | cons x r=>apply x.int';intro t;exact .cons n t (ih r)
theorem rE {h:Heap}{vs:List Value}{ns:List Int} (r:IntsAre vs ns):VRs h vs (ns.map .int):=by
 induction r with
 | nil=>exact .nil
 | cons n t _ ih=>exact .cons (.int n t) ih
theorem eG {h:Heap}{ns:List Str}:∀ {vs:List Value},VRs h vs (ns.map .str)->StrsAre vs ns:=by
 induction ns with
 | nil=>intro vs r;cases r;exact .nil
 | cons n ns ih=>intro vs r;cases r with | cons x r=>apply x.str';intro t;exact .cons n t (ih r)
theorem rj {h:Heap}{vs:List Value}{ns:List Str} (r:StrsAre vs ns):VRs h vs (ns.map .str):=by
 induction r with
 | nil=>exact .nil
 | cons n t _ ih=>exact .cons (.str n t) ih
section
variable {c:Cx}{ρ ρ':List NV}{σ σ₀ σ₁ σ' τ:AState}{h h' B:Heap}{s s₀ s₁ s₂ s':Shared}{Q:AVal->AState->Prop}{QB:Bool->AState->Prop}{X:AExc->AState->Prop}
theorem vsz {vs:List Value}{as:List AVal} (r:VRs h vs as):vs.toArray.size=as.length:=by rw [size_toArray,r.length]
theorem mt {h':Heap}{D:Addr}{vs:List Value}{n t:Nat}{as:List AVal} (S:St c ρ σ s.heap) (hk:∀ b o,s.heap.get? b=some o->h'.get? b=some o) (hD:h'.get? D=some { cls:=.type "list",data:=.seq vs.toArray n }) (hn:s.heap.get? D=none)
  (r:VRs h' vs as) (q:∀ D,σ D=none->Q (.ref D) (σ.set D (.list as))):GPost VR c ρ σ s Q (.ref D) { s with heap:=h',toks:=t } :=
 ⟨.ref _,_,.ref _,(S.ext hk).add (.list hD r) (S.new_off hn),(Step.ext (t:=t) hk).tell hn,q _ (S.none_of hn)⟩
theorem iG {l:Addr}{ns:List Int} (hl:σ l=some (.list (ns.map .int))) (hz:ns.length < 64) (q:∀ ns':List Int,ns'.Perm ns->ns'.Pairwise (·<=·)->∀ D,σ D=none->Q (.ref D) (σ.set D (.list (ns'.map .int)))) :
  GoV VR c ρ [.ref l] (fun vs=>call (.builtin "sorted") vs) σ Q X:=fun vs s S r=>by
 apply r.one';intro v x
 apply x.ref'
 refine (S.obj l _ hl).list' fun vs n e rs=>?_
 refine sorted_ints ⟨_,e,rfl,_,rfl⟩ (gU rs) (by rw [rs.length,length_map];exact hz) fun out ns' a1 a2 a3=>?_
 obtain ⟨m,he⟩:=sortedAll_at s.heap vs out
 exact mt (t:=s.toks) (vs:=out.toList) S (fun _ _=>sortedAll_old) (by rw [Array.toArray_toList];exact he) (Heap.get?_none_of_le (Nat.le_succ _)) (rE a1) (q ns' a2 a3)
theorem ig {l:Addr}{ns:List Str} (hl:σ l=some (.list (ns.map .str))) (hz:ns.length < 64) (q:∀ ns':List Str,ns'.Perm ns->sortedS ns'=true->∀ D,σ D=none->Q (.ref D) (σ.set D (.list (ns'.map .str)))) :
  GoV VR c ρ [.ref l] (fun vs=>call (.builtin "sorted") vs) σ Q X:=fun vs s S r=>by
 apply r.one';intro v x
 apply x.ref'
 refine (S.obj l _ hl).list' fun vs n e rs=>?_
 refine sorted_strs ⟨_,e,rfl,_,rfl⟩ (eG rs) (by rw [rs.length,length_map];exact hz) fun out ns' a1 a2 a3=>?_
 obtain ⟨m,he⟩:=sortedAll_at s.heap vs out
 exact mt (t:=s.toks) (vs:=out.toList) S (fun _ _=>sortedAll_old) (by rw [Array.toArray_toList];exact he) (Heap.get?_none_of_le (Nat.le_succ _)) (rj a1) (q ns' a2 a3)
theorem aJ {l:Addr}{xs:List AVal} (hl:σ l=some (.list xs)) (hz:xs.length<=sizeLine) (q:Q (.tup xs) σ):GoV VR c ρ [.ref l] (fun vs=>call (.type "tuple") vs) σ Q X:=fun vs s S r=>by
 apply r.one';intro v x
 apply x.ref'
 refine (S.obj l _ hl).list' fun vs n e rs=>?_
 refine call_tuple_list ⟨_,e,rfl,_,rfl⟩ (fun h' hk=>?_) (by rw [vsz rs];exact hz)
 have kp:∀ b o,s.heap.get? b=some o->(h'.push { cls:=.type "tuple",data:=.seq vs.toArray }).get? b=some o:=fun b o e=>Zu _ (hk b o e)
 exact ⟨.tup xs,σ,.tup (Zz _ rfl) rfl rfl (rs.keep (aq kp)),S.ext kp,Step.ext (t:=s.toks) kp,q⟩
theorem ij {xs:List AVal} (q:Q (.tup xs) σ):GoV VR c ρ [.tup xs] (fun vs=>call (.type "tuple") vs) σ Q X:=fun vs s S r=>by
 apply r.one';intro v x
 obtain ⟨l,ol,vs,n⟩|⟨rfl,e,ec,ed,rs⟩:=(id x.tup_inv)
 exact call_tuple_same ⟨ol,e,ec,n,ed⟩ (.here S x q)
theorem bJ {l:Addr}{xs:List AVal} (hl:σ l=some (.list xs)) (hz:(xs.length:Int) < 2 ^ 63) (q:Q (.int xs.length) σ):GoV VR c ρ [.ref l] (fun vs=>call (.builtin "len") vs) σ Q X:=fun vs s S r=>by
 apply r.one';intro v x
 apply x.ref'
 refine (S.obj l _ hl).list' fun vs n e rs=>?_
 refine Calls.call_len_list ⟨_,e,rfl,_,rfl⟩ (by rw [vsz rs];exact hz) (.tok (t:=s.toks+1+1) S ?_ q)
 rw [vsz rs];exact .int _ _
theorem dv {xs:List AVal} (hz:(xs.length:Int) < 2 ^ 63) (q:Q (.int xs.length) σ):GoV VR c ρ [.tup xs] (fun vs=>call (.builtin "len") vs) σ Q X:=fun vs s S r=>by
 apply r.one';intro v x
 refine ex4 x.tup_inv fun l ol vs n h22z=>?_
 refine an5 h22z fun h21z e ec ed rs=>?_
 clear h22z
 obtain rfl:=h21z
 refine len_tuple (items:=vs.toArray) ⟨ol,e,ec,n,ed⟩ (by rw [vsz rs];exact hz) (.tok (t:=s.toks+1+1) S ?_ q)
 rw [vsz rs];exact .int _ _
theorem iu {x:Str} (hz:(x.length:Int) < 2 ^ 63) (q:Q (.int x.length) σ):GoV VR c ρ [.str x] (fun vs=>call (.builtin "len") vs) σ Q X:=fun vs s S r=>by
 apply r.one';intro v y
 apply y.str';intro t
 exact P.len_str s!"o" (.tok (t:=s.toks+1+1) S (.int _ _) q)
theorem nV {a b:Addr}{xs ys:List AVal} (ha:σ a=some (.list xs)) (hb:σ b=some (.list ys)) (hz:xs.length+ys.length<=sizeLine) (q:∀ D,σ D=none->Q (.ref D) (σ.set D (.list (xs++ys)))):Op2 c ρ .Add (.ref a) (.ref b) σ Q X:=fun vs s S r=>by
 apply r.two';intro v w x y
 apply x.ref';apply y.ref'
 refine (S.obj a _ ha).list' fun vs n e rs=>?_
 refine (S.obj b _ hb).list' fun ws m e' rs'=>?_
 refine P.add_list e e' ?_ (by rw [vsz rs,vsz rs'];exact hz)
 have kp:∀ b o,s.heap.get? b=some o->(s.heap.push { cls:=.type "list",data:=.seq (vs.toArray++ws.toArray) }).get? b=some o:=fun b o e=>Zu _ e
 refine mt (t:=s.toks) (vs:=vs++ws) (n:=0) S kp ?_ (ag _) ((rs.append rs').keep (aq kp)) q
 rw [Zz _ rfl];simp
theorem rA {xs ys:List AVal} (hz:xs.length+ys.length<=sizeLine) (q:Q (.tup (xs++ys)) σ):Op2 c ρ .Add (.tup xs) (.tup ys) σ Q X:=fun vs s S r=>by
 apply r.two';intro v w x y
 obtain ⟨l,ol,vs,n⟩|⟨rfl,e,ec,ed,rs⟩:=(id x.tup_inv)
 obtain ⟨l2,ol2,ws,n2⟩|⟨rfl,e2,ec2,ed2,rs2⟩:=(id y.tup_inv)
 obtain ⟨cls,dd,data,sl⟩:=ol
 obtain ⟨cls2,dd2,data2,sl2⟩:=ol2
 simp only at ec ed ec2 ed2
 subst ec ed ec2 ed2
 by_cases hv:vs=[]
 ·subst hv;cases rs
  exact concat_meets ⟨_,e,rfl⟩ ⟨_,e2,rfl⟩ noFill_tuple_add seq_tuple_add PySem.F.slot_tuple_add PySem.F.entry_tuple_add (PySem.F.args_tuple_add_2 _ _)
   (tuple_addW0 l l2 _ ws.toArray n n2 dd dd2 sl sl2 (by simp)) ⟨e,e2,.here S y q⟩
 ·by_cases hw:ws=[]
  ·subst hw;cases rs2
   rw [append_nil] at q
   exact concat_meets ⟨_,e,rfl⟩ ⟨_,e2,rfl⟩ noFill_tuple_add seq_tuple_add PySem.F.slot_tuple_add PySem.F.entry_tuple_add (PySem.F.args_tuple_add_2 _ _)
    (tuple_addW1 l l2 vs.toArray _ n n2 dd dd2 sl sl2 (by simpa using hv) (by simp)) ⟨e,e2,.here S x q⟩
  ·refine concat_meets ⟨_,e,rfl⟩ ⟨_,e2,rfl⟩ noFill_tuple_add seq_tuple_add PySem.F.slot_tuple_add PySem.F.entry_tuple_add (PySem.F.args_tuple_add_2 _ _)
    (tuple_addW2 l l2 vs.toArray ws.toArray n n2 dd dd2 sl sl2 (by simpa using hv) (by simpa using hw) (by rw [vsz rs,vsz rs2];exact hz)) ⟨e,e2,?_⟩
   have kp:∀ b o,s.heap.get? b=some o->(s.heap.push { cls:=.type "tuple",data:=.seq (vs.toArray++ws.toArray) }).get? b=some o:=fun b o e=>Zu _ e
   exact ⟨.tup _,σ,.tup (vs:=vs++ws) (n:=0) (Zz _ rfl) rfl (by simp) ((rs.append rs2).keep (aq kp)),S.ext kp,Step.ext (t:=s.toks) kp,q⟩
theorem c5 {l:Addr}{xs:List AVal}{a:AVal} (hl:σ l=some (.list xs)) (hz:xs.length<=sizeLine) (q:Q .none (σ.set l (.list (xs++[a])))):GoV VR c ρ [.ref l,a] (fun vs=>call (.builtin "list.append") vs) σ Q X:=fun vs s S r=>by
 apply r.two';intro v w x y
 apply x.ref'
 refine (S.obj l _ hl).list' fun vs n e rs=>?_
 refine wpAny_list_append_plain ⟨n,e⟩ (fun h' e' hs=>?_) (by rw [vsz rs];exact hz)
 obtain ⟨m,e'⟩:=e'
 have tt:TupKept s.heap h':=aw hs.extBut e fun q=>by simp at q
 have R':OR c.prog c.w h' l (.list (xs++[a])):=.list (vs:=vs++[w]) (n:=m) (by rw [e'];simp) ((rs.append (.cons y .nil)).keep tt)
 exact ⟨.none,_,.none,S.upd hl hs.extBut R',Step.upd (t:=s.toks) hl hs.extBut R',q⟩
end
open PySem.SeqAt
mutual
inductive AEq (σ:AState):Nat->AVal->AVal->Prop
 | none {n:Nat}:AEq σ n .none .none
 | bool {n:Nat}{b:Bool}:AEq σ n (.bool b) (.bool b)
 | int {n:Nat}{i:Int}:AEq σ n (.int i) (.int i)
 | str {n:Nat}{x:Str}:AEq σ n (.str x) (.str x)
 | bytes {n:Nat}{b:Array UInt8}{t:Tok}:AEq σ n (.bytes b t) (.bytes b t)
 | ref {n:Nat}{a:Addr}:AEq σ n (.ref a) (.ref a)
 | tup {n:Nat}{xs ys:List AVal}:AEqs σ n xs ys->AEq σ (n+1) (.tup xs) (.tup ys)
 | list {n:Nat}{l m:Addr}{xs ys:List AVal}:σ l=some (.list xs)->σ m=some (.list ys)->AEqs σ n xs ys->AEq σ (n+1) (.ref l) (.ref m)
inductive AEqs (σ:AState):Nat->List AVal->List AVal->Prop
 | nil {n:Nat}:AEqs σ n [] []
 | cons {n:Nat}{a b:AVal}{as bs:List AVal}:AEq σ n a b->AEqs σ n as bs->AEqs σ n (a::as) (b::bs)
end
theorem AEqs.length {σ:AState}{n:Nat}{as:List AVal}:∀ {bs:List AVal},AEqs σ n as bs->as.length=bs.length:=by
 induction as with
 | nil=>intro bs r;cases r;rfl
 | cons a as ih=>intro bs r;cases r with | cons _ r=>exact congrArg (·+1) (ih r)
section
variable {c:Cx}{ρ ρ':List NV}{σ σ₀ σ₁ σ' τ:AState}{h h' B:Heap}{s s₀ s₁ s₂ s':Shared}{Q:AVal->AState->Prop}{QB:Bool->AState->Prop}{X:AExc->AState->Prop}
theorem nR {A:Around}{y x:Value}{b d:Bool} (e:b=d) (z:EqAt A s y x b):EqAt A s y x d:=e ▸ z
theorem ql {A:Around}{y x:Value}{b d:Bool} (e:b=d) (z:RcAt A s y x b):RcAt A s y x d:=e ▸ z
theorem fu (n:Nat):(List.range n).all (fun _=>true)=true:=by simp
abbrev EqA1 (s:Shared) (n:Nat) (a b:AVal):Prop:=∀ {A:Around}{v w:Value},VR s.heap v a->VR s.heap w b->A.units+n < cLine->EqAt A s v w true
abbrev EqAs (s:Shared) (n:Nat) (as bs:List AVal):Prop:=∀ {A:Around}{vs ws:List Value},VRs s.heap vs as->VRs s.heap ws bs->A.units+n < cLine->∀ (j:Nat) (h1:j < vs.length) (h2:j < ws.length),EqAt A s vs[j] ws[j] true
theorem AEqs.eqAt (S:St c ρ σ s.heap) {n:Nat}{as bs:List AVal} (z:AEqs σ n as bs):EqAs s n as bs:=by
 refine AEqs.rec (motive_1:=fun n a b _=>EqA1 s n a b) (motive_2:=fun n as bs _=>EqAs s n as bs) ?_ ?_ ?_ ?_ ?_ ?_ ?_ ?_ ?_ ?_ z
 ·intro n A v w r r' _;apply r.none';apply r'.none';exact .same _
 ·intro n b A v w r r' _;apply r.bool';apply r'.bool';exact .same _
 ·intro n i A v w r r' _
  apply r.int';intro t;apply r'.int';intro u
  exact nR (by simp) ((MeetsSeq.EqGives.int _ _ t u).at _ s)
 ·intro n x A v w r r' _
  apply r.str';intro t;apply r'.str';intro u
  exact nR (by simp) ((eqGives_str _ _ t u).at _ s)
 ·intro n b t A v w r r' _;apply r.bytes';apply r'.bytes';exact .same _
 ·intro n a A v w r r' _;apply r.ref';apply r'.ref';exact .same _
 ·intro n xs ys z ih A v w r r' hu
  refine ex4 r.tup_inv fun l ol vs k h6z=>?_
  refine an5 h6z fun h5z e ec ed rs=>?_
  clear h6z
  obtain rfl:=h5z
  refine ex4 r'.tup_inv fun l2 ol2 ws k2 h8z=>?_
  refine an5 h8z fun h7z e2 ec2 ed2 rs2=>?_
  clear h8z
  obtain rfl:=h7z
  by_cases q:l=l2
  ·subst q;exact .same _
  ·refine .of_refs q (ql ?_ (RcAt.tuples (e:=fun _=>true) (items:=vs.toArray) (items2:=ws.toArray) ⟨ol,e,ec,k,ed⟩ ⟨ol2,e2,ec2,k2,ed2⟩ s!"o" fun j h1 h2=>by
    have:=ih rs rs2 (A:=A.in1) (by show A.units+1+n < _;walk_at "o") j (by simpa using h1) (by simpa using h2)
    simpa using this))
   rw [fu,vsz rs,vsz rs2,z.length];simp
 ·intro n l m xs ys ha hb z ih A v w r r' hu
  apply r.ref';apply r'.ref'
  by_cases q:l=m
  ·subst q;exact .same _
  ·cases S.obj l _ ha with
   | @list vs k _ e rs =>
    refine (S.obj m _ hb).list' fun ws k2 e2 rs2=>?_
    refine .of_refs q (ql ?_ (RcAt.lists (e:=fun _=>true) (items:=vs.toArray) (items2:=ws.toArray) ⟨_,e,rfl,_,rfl⟩ ⟨_,e2,rfl,_,rfl⟩ (by rw [vsz rs,vsz rs2,z.length]) s!"o" fun j h1 h2=>by
     have:=ih rs rs2 (A:=A.in1) (by show A.units+1+n < _;walk_at "o") j (by simpa using h1) (by simpa using h2)
     simpa using this))
    rw [fu]
 ·intro n A vs ws r r' _ j h1;cases r;simp at h1
 ·intro n a b as bs z zs ih1 ih2 A vs ws r r' hu j h1 h2
  cases r with
  | cons x r =>
   cases r' with
   | cons y r' =>
    cases j with
    | zero=>exact ih1 x y hu
    | succ j=>exact ih2 r r' hu j (by simpa using h1) (by simpa using h2)
end
theorem rX (xs ys:List Str):((List.range (min xs.length ys.length)).all (fun j=>xs[j]?.getD default == ys[j]?.getD default) && xs.length == ys.length)=decide (xs=ys):=by
 rw [Bool.eq_iff_iff]
 simp only [Bool.and_eq_true,all_eq_true,mem_range,beq_iff_eq,decide_eq_true_eq]
 constructor
 ·intro r1z
  obtain ⟨h1,h2⟩:=r1z
  refine List.ext_getElem h2 fun i hi hj=>?_
  have:=h1 i s!"o"
  simpa [hi,hj] using this
 ·rintro rfl
  exact ⟨fun _ _=>rfl,rfl⟩
theorem pJ {A:Around}{s:Shared}{vs ws:List Value}{xs ys:List Str} (r:VRs s.heap vs (xs.map .str)) (r':VRs s.heap ws (ys.map .str)) (j:Nat) (h1:j < vs.length) (h2:j < ws.length) :
  EqAt A s vs[j] ws[j] (xs[j]?.getD default == ys[j]?.getD default):=by
 have l1:j < xs.length:=by have:=r.length;rw [length_map] at this;walk_at "o"
 have l2:j < ys.length:=by have:=r'.length;rw [length_map] at this;walk_at "o"
 obtain ⟨v⟩|⟨hv,rv⟩:=(r.get (i:=j) (a:=.str xs[j]) (by simp [l1]))
 obtain ⟨w⟩|⟨hw,rw'⟩:=(r'.get (i:=j) (a:=.str ys[j]) (by simp [l2]))
 rcases rv.str_inv with ⟨t,rfl⟩
 rcases rw'.str_inv with ⟨u,rfl⟩
 rw [getElem?_eq_getElem h1] at hv
 rw [getElem?_eq_getElem h2] at hw
 rw [Option.some.inj hv,Option.some.inj hw]
 refine nR ?_ ((eqGives_str _ _ t u).at _ s)
 simp [l1,l2]
section
variable {c:Cx}{ρ ρ':List NV}{σ σ₀ σ₁ σ' τ:AState}{h h' B:Heap}{s s₀ s₁ s₂ s':Shared}{Q:AVal->AState->Prop}{QB:Bool->AState->Prop}{X:AExc->AState->Prop}
theorem p8:cLine=9900:=rfl
theorem St.room (S:St c ρ σ h) {n:Nat} (hn:n<=800):c.A.units+n < cLine:=by
 have:=S.ok.units
 rw [p8];walk_at "o"
theorem oG {xs ys:List Str} (q:Q (.bool (decide (xs=ys))) σ):Cmp c ρ .Eq (.tup (xs.map .str)) (.tup (ys.map .str)) σ Q X:=fun vs s S r=>by
 apply r.two';intro v w x y
 refine ex4 x.tup_inv fun l ol vs k h8z=>?_
 refine an5 h8z fun h7z e ec ed rs=>?_
 clear h8z
 obtain rfl:=h7z
 refine ex4 y.tup_inv fun l2 ol2 ws k2 h10z=>?_
 refine an5 h10z fun h9z e2 ec2 ed2 rs2=>?_
 clear h10z
 obtain rfl:=h9z
 refine eq_tupleAt (items:=vs.toArray) (items2:=ws.toArray) ⟨ol,e,ec,k,ed⟩ ⟨ol2,e2,ec2,k2,ed2⟩ (S.room (n:=0) s!"o") (fun j h1 h2=>by
  have:=pJ (A:=c.A.in1) rs rs2 j (by simpa using h1) (by simpa using h2)
  simpa using this) ?_
 rw [vsz rs,vsz rs2,length_map,length_map,rX]
 exact .here S (.bool _) q
theorem oR {a b:Addr}{xs:List AVal} (ha:σ a=some (.list xs)) (hb:σ b=some (.list [])) (q:Q (.bool xs.isEmpty) σ):Cmp c ρ .Eq (.ref a) (.ref b) σ Q X:=fun vs s S r=>by
 apply r.two';intro v w x y
 apply x.ref';apply y.ref'
 refine (S.obj a _ ha).list' fun vs n e rs=>?_
 refine (S.obj b _ hb).list' fun ws m e2 rs2=>?_
 cases rs2
 have fin:∀ b,b=xs.isEmpty->GPost VR c ρ σ s Q (.bool b) s:=fun b e=>e ▸ .here S (.bool _) q
 cases xs with
 | nil=>cases rs;exact eq_listAt (e:=fun _=>true) ⟨_,e,rfl,_,rfl⟩ ⟨_,e2,rfl,_,rfl⟩ rfl (S.room (n:=0) s!"o") (fun j h1=>by simp at h1) (fin _ rfl)
 | cons x xs=>exact eq_list_lengthsAt ⟨_,e,rfl,_,rfl⟩ ⟨_,e2,rfl,_,rfl⟩ (by rw [vsz rs];simp) (S.room (n:=0) s!"o") (fin _ rfl)
theorem qO {n:Nat}{xs ys:List AVal} (z:AEqs σ n xs ys) (hn:n<=700) (q:Q (.bool false) σ):Cmp c ρ .NotEq (.tup xs) (.tup ys) σ Q X:=fun vs s S r=>by
 apply r.two';intro v w x y
 refine ex4 x.tup_inv fun l ol vs k h24z=>?_
 refine an5 h24z fun h23z e ec ed rs=>?_
 clear h24z
 obtain rfl:=h23z
 refine ex4 y.tup_inv fun l2 ol2 ws k2 h26z=>?_
 refine an5 h26z fun h25z e2 ec2 ed2 rs2=>?_
 clear h26z
 obtain rfl:=h25z
 refine RcNeAt.tuples (e:=fun _=>true) (items:=vs.toArray) (items2:=ws.toArray) ⟨ol,e,ec,k,ed⟩ ⟨ol2,e2,ec2,k2,ed2⟩ (S.room (n:=0) s!"o") (fun j h1 h2=>by
  have:=AEqs.eqAt S z rs rs2 (A:=c.A.in1) (by have:=S.room (n:=n+1) s!"o";show c.A.units+1+n < _;walk_at "o") j (by simpa using h1) (by simpa using h2)
  simpa using this) _ _ _ _ ?_
 rw [fu,vsz rs,vsz rs2,z.length]
 exact .here S (by simpa using VR.bool false) q
theorem pM {n:Nat}{a b:Addr}{xs ys:List AVal} (ha:σ a=some (.list xs)) (hb:σ b=some (.list ys)) (z:AEqs σ n xs ys) (hn:n<=700) (q:Q (.bool false) σ):Cmp c ρ .NotEq (.ref a) (.ref b) σ Q X:=fun vs s S r=>by
 apply r.two';intro v w x y
 apply x.ref';apply y.ref'
 refine (S.obj a _ ha).list' fun vs k e rs=>?_
 refine (S.obj b _ hb).list' fun ws m e2 rs2=>?_
 refine RcNeAt.lists (e:=fun _=>true) (items:=vs.toArray) (items2:=ws.toArray) ⟨_,e,rfl,_,rfl⟩ ⟨_,e2,rfl,_,rfl⟩ (by rw [vsz rs,vsz rs2,z.length]) (S.room (n:=0) s!"o") (fun j h1 h2=>by
  have:=AEqs.eqAt S z rs rs2 (A:=c.A.in1) (by have:=S.room (n:=n+1) s!"o";show c.A.units+1+n < _;walk_at "o") j (by simpa using h1) (by simpa using h2)
  simpa using this) _ _ _ _ ?_
 rw [fu]
 exact .here S (by simpa using VR.bool false) q
theorem lI {l:Addr}{xs:List Str}{x:Str} (hl:σ l=some (.list (xs.map .str))) (q:Q (.bool (xs.any (· == x))) σ):Cmp c ρ .In (.str x) (.ref l) σ Q X:=fun vs s S r=>by
 apply r.two';intro v w a b
 apply a.str';intro t;apply b.ref'
 refine (S.obj l _ hl).list' fun vs k e rs=>?_
 exact in_list_strs ⟨_,e,rfl,_,rfl⟩ (eG rs) (.here S (.bool _) q)
theorem dT {l:Addr}{xs:List Str}{x:Str} (hl:σ l=some (.list (xs.map .str))) (q:Q (.bool (!(xs.any (· == x)))) σ):Cmp c ρ .NotIn (.str x) (.ref l) σ Q X:=fun vs s S r=>by
 apply r.two';intro v w a b
 apply a.str';intro t;apply b.ref'
 refine (S.obj l _ hl).list' fun vs k e rs=>?_
 exact notin_list_strs ⟨_,e,rfl,_,rfl⟩ (eG rs) (.here S (.bool _) q)
theorem qr {l:Addr}{xs:List Int}{x:Int} (hl:σ l=some (.list (xs.map .int))) (q:Q (.bool (xs.any (· == x))) σ):Cmp c ρ .In (.int x) (.ref l) σ Q X:=fun vs s S r=>by
 apply r.two';intro v w a b
 apply a.int';intro t;apply b.ref'
 refine (S.obj l _ hl).list' fun vs k e rs=>?_
 exact in_list_ints ⟨_,e,rfl,_,rfl⟩ (gU rs) (.here S (.bool _) q)
theorem i4 {xs:List Str}{x:Str} (q:Q (.bool (xs.any (· == x))) σ):Cmp c ρ .In (.str x) (.tup (xs.map .str)) σ Q X:=fun vs s S r=>by
 apply r.two';intro v w a b
 apply a.str';intro t
 refine ex4 b.tup_inv fun l ol vs k h47z=>?_
 refine an5 h47z fun h46z e ec ed rs=>?_
 clear h47z
 obtain rfl:=h46z
 exact in_tuple_strs (items:=vs.toArray) ⟨_,e,ec,_,ed⟩ (eG rs) (.here S (.bool _) q)
theorem dU {xs:List Str}{x:Str} (q:Q (.bool (!(xs.any (· == x)))) σ):Cmp c ρ .NotIn (.str x) (.tup (xs.map .str)) σ Q X:=fun vs s S r=>by
 apply r.two';intro v w a b
 apply a.str';intro t
 refine ex4 b.tup_inv fun l ol vs k h52z=>?_
 refine an5 h52z fun h51z e ec ed rs=>?_
 clear h52z
 obtain rfl:=h51z
 exact notin_tuple_strs (items:=vs.toArray) ⟨_,e,ec,_,ed⟩ (eG rs) (.here S (.bool _) q)
theorem mj {x y:Str} (q:Q (.bool (!(Builtin.Str.occurrences x y 0 x.length 1).isEmpty)) σ):Cmp c ρ .In (.str y) (.str x) σ Q X:=by
 refine vS ?_;intro s t u S;exact PyProof.Rows.in_str (.here S (.bool _) q)
end
section
variable {c:Cx}{ρ ρ':List NV}{σ σ₀ σ₁ σ' τ:AState}{h h' B:Heap}{s s₀ s₁ s₂ s':Shared}{Q:AVal->AState->Prop}{QB:Bool->AState->Prop}{X:AExc->AState->Prop}
theorem VRs.drop {h:Heap}{k:Nat}{vs:List Value}{as:List AVal} (r:VRs h vs as):VRs h (vs.drop k) (as.drop k):=by
 induction k generalizing vs as with
 | zero=>exact r
 | succ k ih=>cases r with
  | nil=>exact .nil
  | cons _ r=>exact ih r
theorem GPost.ext {v:Value}{a:AVal}{h':Heap}{t:Nat} (S:St c ρ σ s.heap) (k:∀ b o,s.heap.get? b=some o->h'.get? b=some o) (r:VR h' v a) (q:Q a σ):GPost VR c ρ σ s Q v { s with heap:=h',toks:=t } :=
 ⟨a,σ,r,S.ext k,Step.ext k,q⟩
def OldIn (h h':Heap):Prop:=∀ b o,h.get? b=some o->h'.get? b=some o
theorem iL (h:Heap):KeptH (OldIn h):=fun _ _ k b o e=>Zu _ (k b o e)
def PartV:Option Int->Value->Prop
 | none,v=>v=.none
 | some i,v=>∃ t,v=.int i t
theorem PartV.is:∀ {i:Option Int}{v:Value},PartV i v->IsPart v i
 | none,_,e=>by cases e;exact .none
 | some i,_,⟨t,e⟩=>by cases e;exact .int i t
inductive IntAt (Q:Option Int->AState->Prop) (a:AVal) (σ₁:AState):Prop
 | mk (i:Int) (e:a=.int i) (q:Q (some i) σ₁)
def EvPart (c:Cx) (ρ:List NV):Option Expr->AState->(Option Int->AState->Prop)->(AExc->AState->Prop)->Prop
 | none,σ,Q,_=>Q none σ
 | some e,σ,Q,X=>Ev c ρ e σ (IntAt Q) X
def SliceOn (c:Cx) (ρ:List NV) (a:AVal) (i j:Option Int) (σ:AState) (Q:AVal->AState->Prop) (X:AExc->AState->Prop):Prop:=∀ (s:Shared) (v vl vu:Value),St c ρ σ s.heap->VR s.heap v a->PartV i vl->PartV j vu ->
 ItemOn (model c.prog c.w) c.A (XPost c ρ σ s X) v (.ref s.heap.objs.size) (GPost VR c ρ σ s Q) { s with heap:=s.heap.push { cls:=.type "slice",data:=.fields #[vl,vu,.none] } }
theorem jS {e:Option Expr}{K:Option Int->AState->Prop}{P:Value->Shared->Prop} (g:EvPart c ρ e σ K X) (S:St c ρ σ s.heap) (k:∀ v s₁ i σ₁,PartV i v->St c ρ σ₁ s₁.heap->Step c σ s σ₁ s₁->K i σ₁->P v s₁) :
  wpAny (model c.prog c.w) c.A (evalPart e c.env) P (XPost c ρ σ s X) s:=by
 cases e with
 | none=>exact evalPart_none_step (k .none s none σ rfl S (.refl ..) g)
 | some e =>
  refine evalPart_some_step (Go.use g S fun v s₁ a σ₁ r S₁ y q=>?_)
  obtain ⟨i,rfl,q⟩:=q
  exact k v s₁ (some i) σ₁ r.int_inv S₁ y q
abbrev KSl3 (c:Cx) (ρ:List NV) (a:AVal) (i:Option Int) (Q:AVal->AState->Prop) (X:AExc->AState->Prop) (j:Option Int) (σ₃:AState):Prop:=SliceOn c ρ a i j σ₃ Q X
abbrev KSl2 (c:Cx) (ρ:List NV) (hi:Option Expr) (a:AVal) (Q:AVal->AState->Prop) (X:AExc->AState->Prop) (i:Option Int) (σ₂:AState):Prop:=EvPart c ρ hi σ₂ (KSl3 c ρ a i Q X) X
abbrev KSl (c:Cx) (ρ:List NV) (lo hi:Option Expr) (Q:AVal->AState->Prop) (X:AExc->AState->Prop) (a:AVal) (σ₁:AState):Prop:=EvPart c ρ lo σ₁ (KSl2 c ρ hi a Q X) X
theorem ev_slice {value:Expr}{lo hi:Option Expr}{p p':Pos} (g:Ev c ρ value σ (KSl c ρ lo hi Q X) X):Ev c ρ (.Subscript value (.Slice lo hi none p') p) σ Q X:=fun s S=>by
 rw [eval_Subscript]
 refine Zb (g.use S fun o s₁ a σ₁ r S₁ y g₁=>?_)
 refine Zb (wpAny_holding (wpAny_Slice (onP y (jS g₁ S₁ fun vl s₂ i σ₂ pl S₂ y₂ g₂=>?_))))
 refine onP (y.trans y₂) (jS g₂ S₂ fun vu s₃ j σ₃ pu S₃ y₃ g₃=>?_)
 have yy:=(y.trans y₂).trans y₃
 obtain ⟨T,id⟩|⟨hl,hT,hg⟩:=(g₃ s₃ o vl vu S₃ ((r.keep (y₂.tup S₁)).keep (y₃.tup S₂)) pl pu)
 refine evalPart_none_step ?_
 refine Zb (wpAny_standAt (Zb ?_))
 rw [getitemInPython_of_ne hT.not_modules]
 refine Zb (wpAny_specialOf hT hl (Zp ?_))
 show wpAny _ _ (operate [_,_] (getItem o _) >>= _) _ _ _
 refine Zb (wpAny_operating (Zm hg (fun rr s₄ z=>?_) fun _ _ z=>z.after yy))
 exact Zb (wpAny_letTemporaryGo (Zp (z.after yy)))
theorem j2 {x:Str}{j:Int} (hz:x.length<=sizeLine) (q:Q (.str (Txt.slice x none (some j))) σ):SliceOn c ρ (.str x) none (some j) σ Q X:=fun s v vl vu S r pl pu=>by
 apply r.str';intro t;cases pl;obtain ⟨u,rfl⟩:=pu
 exact SBH.sliceItem_ns (iL s.heap) (fun _ _ e=>e) (fun h' t' k P=>.ext S P (.str _ _) q) hz
theorem hU {x:Str}{j:Int} (hz:x.length<=sizeLine) (q:Q (.str (Txt.slice x (some j) none)) σ):SliceOn c ρ (.str x) (some j) none σ Q X:=fun s v vl vu S r pl pu=>by
 apply r.str';intro t;cases pu;obtain ⟨u,rfl⟩:=pl
 exact SBH.sliceItem_sn (iL s.heap) (fun _ _ e=>e) (fun h' t' k P=>.ext S P (.str _ _) q) hz
theorem g8 {xs:List AVal}{k:Nat} (h1:1<=k) (hk:k<=xs.length) (hz:xs.length<=sizeLine) (q:Q (.tup (xs.drop k)) σ):SliceOn c ρ (.tup xs) (some (k:Int)) none σ Q X:=fun s v vl vu S r pl pu=>by
 refine ex4 r.tup_inv fun l ol vs n h7z=>?_
 refine an5 h7z fun h6z e ec ed rs=>?_
 clear h7z
 obtain rfl:=h6z
 cases pu;obtain ⟨u,rfl⟩:=pl
 have kp:∀ b o,s.heap.get? b=some o->(s.heap.push { cls:=.type "slice",data:=.fields #[.int k u,.none,.none] }).get? b=some o:=fun b o e=>Zu _ e
 have ht:IsTup (s.heap.push { cls:=.type "slice",data:=.fields #[.int k u,.none,.none] }) l vs.toArray:=⟨ol,kp _ _ e,ec,n,ed⟩
 refine ⟨"tuple",_,PyProof.Rows.slot_tuple_getitem.lookup,ht.typeIs,getItem_tuple_from (s:={ s with heap:=s.heap.push { cls:=.type "slice",data:=.fields #[.int k u,.none,.none] } }) ht (Heap.IsSliceOf.new ..) h1 (by rw [vsz rs];exact hk) ?_ (by rw [vsz rs];exact hz)⟩
 have kp2:∀ b o,s.heap.get? b=some o->((s.heap.push { cls:=.type "slice",data:=.fields #[.int k u,.none,.none] }).push { cls:=.type "tuple",data:=.seq (vs.toArray.toList.drop k).toArray }).get? b=some o:=fun b o e=>Zu _ (kp b o e)
 refine .ext (t:=s.toks) S kp2 (.tup (vs:=vs.drop k) (n:=0) (Zz _ rfl) rfl (by simp) (VRs.drop (rs.keep (aq kp2)))) q
theorem qb {d:Nat} (q:Q (.int d) σ):GoV VR c ρ [.str ⟨#[d]⟩] (fun vs=>call (.builtin "ord") vs) σ Q X:=fun vs s S r=>by
 apply r.one';intro v y
 apply y.str';intro t;exact P.ord_of_char (.tok S (.int _ _) q)
theorem rS {i:Int} (h0:0<=i) (h1:i<=0x10FFFF) (q:Q (.str ⟨#[i.toNat]⟩) σ):GoV VR c ρ [.int i] (fun vs=>call (.builtin "chr") vs) σ Q X:=fun vs s S r=>by
 apply r.one';intro v y
 apply y.int';intro t;exact P.chr_of_int (by simp;walk_at "o") (.tok S (.str _ _) q)
theorem si {i j:Int} (q:Q (.int (if j < i then j else i)) σ) (cm:c.calm=true:=by walk_at "cm"):GoV VR c ρ [.int i,.int j] (fun vs=>call (.builtin "min") vs) σ Q X:=fun vs s S r=>by
 apply r.two';intro v w x y
 apply x.int';intro t;apply y.int';intro u
 refine min_two_ints (S.ok.hd cm) fun h' tk k=>.ext S k ?_ q
 split<;>exact .int _ _
theorem qc {i:Int} (q:Q (.int (if i < 0 then -i else i)) σ):GoV VR c ρ [.int i] (fun vs=>call (.builtin "abs") vs) σ Q X:=fun vs s S r=>by
 apply r.one';intro v y
 apply y.int';intro t;exact call_abs_int fun u tk=>.tok S (.int _ _) q
theorem sw {i:Int} (q:Q (.int i) σ):GoV VR c ρ [.int i] (fun vs=>call (.type "int") vs) σ Q X:=fun vs s S r=>by
 apply r.one';intro v y
 apply y.int';intro t;exact call_int_int (.here S (.int _ _) q)
theorem qi {l:Addr}{ns:List Int} (hl:σ l=some (.list (ns.map .int))) (hr:∀ n∈ns,0<=n/\n < 256) (hz:ns.length<=sizeLine) (q:∀ t,Q (.bytes (byteArr ns) t) σ) (cm:c.calm=true:=by walk_at "cm"):GoV VR c ρ [.ref l] (fun vs=>call (.type "bytes") vs) σ Q X:=fun vs s S r=>by
 apply r.one';intro v x
 apply x.ref'
 refine (S.obj l _ hl).list' fun vs n e rs=>?_
 exact call_bytes_ints ⟨_,e,rfl,_,rfl⟩ (gU rs) hr (by rw [rs.length,length_map];exact hz) (S.ok.hd cm) fun h' t k kk=>.ext S kk (.bytes _ _) (q t)
theorem iM {x:Str} (hz:x.length<=5592405) (q:Q (.str (Txt.lower x)) σ):GoV VR c ρ [.str x] (fun vs=>call (.builtin "str.lower") vs) σ Q X:=fun vs s S r=>by
 apply r.one';intro v y
 apply y.str';intro t;exact SCL.lower hz fun _=>.tok S (.str _ _) q
theorem qX {x y:Str} (q:Q (.int (Txt.find x y)) σ):GoV VR c ρ [.str x,.str y] (fun vs=>call (.builtin "str.find") vs) σ Q X:=fun vs s S r=>by
 apply r.two';intro v w a b
 apply a.str';intro t;apply b.str';intro u;exact SC.find (.tok S (.int _ _) q)
theorem jq {x y:Str} (q:Q (.bool (Txt.startswith x y)) σ):GoV VR c ρ [.str x,.str y] (fun vs=>call (.builtin "str.startswith") vs) σ Q X:=fun vs s S r=>by
 apply r.two';intro v w a b
 apply a.str';intro t;apply b.str';intro u;exact SC.startswith (.here S (.bool _) q)
theorem rq {x:Str}{l:Addr}{ys:List Str} (hl:σ l=some (.list (ys.map .str))) (hz:(ys.map (·.length)).sum+ys.length * x.length<=16777216) (q:Q (.str (Txt.join x ys)) σ):GoV VR c ρ [.str x,.ref l] (fun vs=>call (.builtin "str.join") vs) σ Q X:=fun vs s S r=>by
 apply r.two';intro v w a b
 apply a.str';intro t;apply b.ref'
 refine (S.obj l _ hl).list' fun vs n e rs=>?_
 exact join_list (items:=vs.toArray) ⟨_,e,rfl,_,rfl⟩ (eG rs) hz fun t' k=>.tok S (.str _ _) q
end
section
variable {c:Cx}{target:Expr}{ρ ρ':List NV}{σ σ₀ σ₁ σ' τ:AState}{h h' B:Heap}{s s₀ s₁ s₂ s':Shared}{Q:AVal->AState->Prop}{QB:Bool->AState->Prop}{X:AExc->AState->Prop}
theorem ev_bname {x:Str}{p:Pos}{T:String} (l:LookG ρ x) (n:nsIn c.K mainGlobals x=some none) (hv:bootBuiltins x=some (.type T)) (hn:x ≠ "__name__") (q:Q (.type T) σ):Ev c ρ (.Name x p) σ Q X:=fun s S =>
 bn S l n hv hn (.here S (.type T) q)
theorem VR.type_inv {h:Heap}{v:Value}{n:String} (r:VR h v (.type n)):v=.type n:=r.inv
theorem VR.type' {h:Heap}{v:Value}{n:String}{P:Value->Prop} (r:VR h v (.type n)) (k:P (.type n)):P v:=by rw [r.type_inv];exact k
theorem cY {r:Addr}{i j:Int} (hr:σ r=some (.range i j)) (hi:-(2 ^ 62)<=i) (hi':i < 2 ^ 62) (hj:-(2 ^ 62)<=j) (hj':j < 2 ^ 62) (cm:c.calm=true:=by walk_at "cm"):ItOf c target (.ref r) (nums i (j - i).toNat) (fun _=>True) σ:=fun ρ s v P E S rv k=>by
 apply rv.ref'
 refine (S.obj r _ hr).range' fun _ _ _ e=>?_
 refine wpAny_pyIter_range e (small_one hi hi' hj hj') ?_
 have hn:=ag s.heap
 have hs:Builtin.Range.rangeSize i j 1=((j - i).toNat:Int):=by rw [rangeSize_one];split<;>walk_at "o"
 rw [hs]
 have kp:∀ b o,s.heap.get? b=some o->(s.heap.push { cls:=.type "range_iterator",data:=.fields #[rawInt i,rawInt ((j - i).toNat:Int),rawInt 1] }).get? b=some o:=fun b o q=>Zu _ q
 refine k (r6 c cm target s.heap.objs.size) _ rfl (S.ext kp) (Step.ext (t:=s.toks) kp) ⟨fun b hb=>?_,fun b hb=>?_⟩ ⟨i,_,Zz _ rfl,rfl⟩ fun b hb=>?_
 all_goals (rw [ZS hb])
 ·exact ⟨S.none_of hn,S.new_off hn⟩
 ·exact ⟨_,Zz _ rfl,ar⟩
 ·exact hn
theorem dc {j:Int} (q:∀ D,σ D=none->Q (.ref D) (σ.set D (.range 0 j))):GoV VR c ρ [.int j] (fun vs=>call (.type "range") vs) σ Q X:=fun vs s S r=>by
 apply r.one';intro v y
 apply y.int';intro t
 refine call_range_1 ?_
 have hn:=ag s.heap
 have kp:∀ b o,s.heap.get? b=some o->(s.heap.push { cls:=.type "range",data:=.fields #[.int 0 s.toks,.int j t,.int 1 (s.toks+1)] }).get? b=some o:=fun b o q=>Zu _ q
 exact ⟨.ref _,_,.ref _,S.alloc (ao:=.range 0 j) (.range (Zz _ rfl)),Step.alloc (t:=s.toks+1+1) kp hn,q _ (S.none_of hn)⟩
abbrev IsI (c:Cx) (ρ:List NV) (a:AVal) (T:String) (σ:AState) (Q:AVal->AState->Prop) (X:AExc->AState->Prop):Prop:=GoV VR c ρ [a,.type T] (fun vs=>call (.builtin "isinstance") vs) σ Q X
theorem g7 {a:AVal}{T:String} (f:∀ s v,St c ρ σ s.heap->VR s.heap v a->wpAny (model c.prog c.w) c.A (call (.builtin "isinstance") [v,.type T]) (GPost VR c ρ σ s Q) (XPost c ρ σ s X) s):IsI c ρ a T σ Q X:=fun vs s S r=>by
 apply r.two';intro v w x y
 apply y.type';exact f s v S x
theorem kP {i:Int} (q:Q (.bool true) σ):IsI c ρ (.int i) "int" σ Q X:=g7 fun s v S r=>by
 apply r.int';intro t;exact IsiPair.int_int (.here S (.bool _) q)
theorem ku {i:Int} (q:Q (.bool false) σ):IsI c ρ (.int i) "bool" σ Q X:=g7 fun s v S r=>by
 apply r.int';intro t;exact IsiPair.int_bool (.tok S (.bool _) q)
theorem lS {x:Str} (q:Q (.bool true) σ):IsI c ρ (.str x) "str" σ Q X:=g7 fun s v S r=>by
 apply r.str';intro t;exact IsiPair.str_str (.here S (.bool _) q)
theorem kU {xs:List AVal} (q:Q (.bool true) σ):IsI c ρ (.tup xs) "tuple" σ Q X:=g7 fun s v S r=>by
 refine ex4 r.tup_inv fun l ol vs n h10z=>?_
 refine an5 h10z fun h9z e ec ed rs=>?_
 clear h10z
 obtain rfl:=h9z;exact IsiPair.tuple_tuple e ec (.here S (.bool _) q)
theorem gE {h:Heap}:∀ {l:List (Str × Tok)}{ys:List Str},l.map (·.1)=ys->VRs h (strValues l) (ys.map .str)
 | [],_,e=>by cases e;exact .nil
 | (x,t)::l,_,e=>by cases e;exact .cons (.str x t) (gE rfl)
end
section
variable {c:Cx}{target:Expr}{ρ ρ':List NV}{σ σ₀ σ₁ σ' τ:AState}{h h' B:Heap}{s s₀ s₁ s₂ s':Shared}{Q:AVal->AState->Prop}{QB:Bool->AState->Prop}{X:AExc->AState->Prop}
variable {N:List NV->AState->Prop}{R:AVal->AState->Prop}{XS:AExc->List NV->AState->Prop}
theorem sq {h':Heap}{D:Addr}{vs:List Value}{n t:Nat}{as:List AVal} (S:St c ρ σ s.heap) (hk:∀ b o,s.heap.get? b=some o->h'.get? b=some o) (hD:h'.get? D=some { cls:=.type "list",data:=.seq vs.toArray n }) (hn:s.heap.get? D=none)
  (r:∀ h,VRs h vs as) (q:∀ D,σ D=none->Q (.ref D) (σ.set D (.list as))):GPost VR c ρ σ s Q (.ref D) { s with heap:=h',toks:=t }:=mt S hk hD hn (r _) q
theorem iJ {x y:Str} (hy:(y.length == 0)=false) (hx:x.length<=sizeLine) (hn:(Builtin.Str.partsBetween x (Builtin.Str.occurrences x y 0 x.length (x.length+1)) y.length).length<=sizeLine)
  (q:∀ D,σ D=none->Q (.ref D) (σ.set D (.list ((Txt.split x y).map .str)))):GoV VR c ρ [.str x,.str y] (fun vs=>call (.builtin "str.split") vs) σ Q X:=fun vs s S r=>by
 apply r.two';intro v w a b
 apply a.str';intro t;apply b.str';intro u
 have go:∀ (l:List (Str × Tok)) (k:Nat),l.map (·.1)=Txt.split x y->wants (GPost VR c ρ σ s Q) (XPost c ρ σ s X) (.ok (.ret (.ref s.heap.objs.size))) { s with toks:=k,heap:=s.heap.push { cls:=.type "list",data:=.seq (strValues l).toArray } }:=fun l k e =>
  sq (t:=k) (n:=0) S (fun b o e=>Zu _ e) (Zz _ rfl) (ag _) (fun h=>gE e) q
 cases h1:(decide (x.length < y.length) || decide (Builtin.Str.strKind x < Builtin.Str.strKind y))
 ·cases hf:(Builtin.Str.occurrences x y 0 x.length (x.length+1)).isEmpty
  ·refine call_meets PySem.F.slot_str_split (typeIs_str _ _ _) PySem.F.entry_str_split (PySem.F.args_str_split_2 _ _) (meets_str_split_sep x y t u h1 hy hf hx hn) ?_
   rw [strsFrom_eq]
   exact go _ _ ((numbered_texts _ _).trans ((if_neg (ne_true_of_eq_false h1)).trans (if_neg (ne_true_of_eq_false hf))).symm)
  ·exact call_meets PySem.F.slot_str_split (typeIs_str _ _ _) PySem.F.entry_str_split (PySem.F.args_str_split_2 _ _) (meets_str_split_not_found x y t u h1 hy hf) (go [(x,t)] s.toks ((if_neg (ne_true_of_eq_false h1)).trans (if_pos hf)).symm)
 ·exact call_meets PySem.F.slot_str_split (typeIs_str _ _ _) PySem.F.entry_str_split (PySem.F.args_str_split_2 _ _) (meets_str_split_cannot_occur x y t u h1) (go [(x,t)] s.toks (if_pos h1).symm)
abbrev KAsg (c:Cx) (t:Expr) (ρ:List NV) (N:List NV->AState->Prop) (XS:AExc->List NV->AState->Prop) (a:AVal) (σ₁:AState):Prop:=Asg c t a ρ σ₁ N XS
inductive SwapAt (ρ:List NV) (x₁ x₂:Str) (N:List NV->AState->Prop) (a:AVal) (σ₁:AState):Prop
 | mk (a₁ a₂:AVal) (ρ₁ ρ₂:List NV) (e:a=.tup [a₁,a₂]) (p₁:Put ρ x₂ a₂ ρ₁) (p₂:Put ρ₁ x₁ a₁ ρ₂) (q:N ρ₂ σ₁)
theorem dH {es:List Expr}{k:Nat}{pt p:Pos}{value:Expr} (g:Ev c ρ value σ (KAsg c (.Tuple es k pt) ρ N XS) (XAt XS ρ))
  (hs:swapsWithSole [.Tuple es k pt] value p.line c.env=pure false:=by walk_at "u") (hw:swappedStores [.Tuple es k pt] value c.env=pure none:=by walk_at "u"):WS c ρ (.Assign [.Tuple es k pt] value p) σ N R XS:=fun s S=>by
 refine Assign_Tuple ?_ hs hw
 refine g.useS S fun v s₁ a σ₁ r S₁ y q=>?_
 refine Zm (q v s₁ r S₁) (fun _ s₂ z=>?_) fun _ _ z=>z.after y
 obtain ⟨ρ₂,σ₂,S₂,y₂,hN⟩:=z
 exact ⟨ρ₂,σ₂,S₂,y.trans y₂,hN⟩
theorem iS {es:List Expr}{k:Nat}{pt p:Pos}{value:Expr}{x₁ x₂:Str} (hf:c.fn=true) (g:Ev c ρ value σ (SwapAt ρ x₁ x₂ N) (XAt XS ρ))
  (hs:swapsWithSole [.Tuple es k pt] value p.line c.env=pure false:=by walk_at "u") (hw:swappedStores [.Tuple es k pt] value c.env=pure (some [x₁,x₂]):=by walk_at "u") (cm:c.calm=true:=by walk_at "cm"):WS c ρ (.Assign [.Tuple es k pt] value p) σ N R XS:=fun s S=>by
 refine Assign_Tuple_swapped ?_ hs hw
 refine g.useS S fun v s₁ a σ₁ r S₁ y q=>?_
 obtain ⟨a₁,a₂,ρ₁,ρ₂,rfl,p₁,p₂,hN⟩:=q
 refine ex4 r.tup_inv fun l ol vs n h6z=>?_
 refine an5 h6z fun h5z e ec ed rs=>?_
 clear h6z
 obtain rfl:=h5z
 revert ed;apply rs.two';intro v₁ v₂ r₁ r₂ ed
 refine wpAny_unpackItems_tuple (items:=#[v₁,v₂]) (S₁.ok.hd cm) ⟨ol,e,ec,n,ed⟩ fun h' hx=>?_
 have kp:∀ b o,s₁.heap.get? b=some o->h'.get? b=some o:=fun b o q=>hx b o (fun z=>by rw [z,ag] at q;cases q) q
 have tk:=aq kp
 have S₂:St c ρ σ₁ h':=S₁.ext kp
 have y₂:Step c σ s σ₁ { s₁ with heap:=h' }:=y.trans (Step.ext (t:=s₁.toks) kp)
 show wpAny _ _ (assignInOrder [bindName c.env x₂,bindName c.env x₁] [v₂,v₁]) _ _ _
 unfold assignInOrder
 refine Zb (wpAny_holding (bindName_ (bc (s:={ s₁ with heap:=h' }) S₂ p₁ (r₂.keep tk) (.inl hf) fun s₃ S₃ y₃=>?_)))
 unfold assignInOrder
 refine Zb (wpAny_holding (bindName_ (bc S₃ p₂ ((r₁.keep tk).keep (y₃.tup S₂)) (.inl hf) fun s₄ S₄ y₄=>?_)))
 unfold assignInOrder
 exact Zp ⟨ρ₂,σ₁,S₄,(y₂.trans y₃).trans y₄,hN⟩
theorem oP {es:List Expr}{k:Nat}{p:Pos}{l:Addr}{as:List AVal} (hl:σ l=some (.list as)) (g:AsgL c es as ρ σ N XS) (hn:∀ e∈es,∃ x p,e=.Name x p) (hlen:es.length=as.length)
  (hle:(assignEach es c.env).length=es.length:=by walk_at "u") (hstar:(assignEach es c.env).findIdx? (·.1)=none:=by walk_at "u") (cm:c.calm=true:=by walk_at "cm"):Asg c (.Tuple es k p) (.ref l) ρ σ N XS:=fun val s r S=>by
 apply r.ref'
 refine (S.obj l _ hl).list' fun vs n e rs=>?_
 rw [arm_assign_Tuple]
 refine Zb (wpAny_standAt ?_)
 unfold unpack
 rw [hstar,hle,hlen,<- vsz rs]
 refine Zb (wpAny_holding (kun_itemsOf (S.ok.hd cm) ⟨_,e,rfl,_,rfl⟩ fun h' hx=>?_))
 have kp:∀ b o,s.heap.get? b=some o->h'.get? b=some o:=fun b o q=>hx b o (fun z=>by rw [z,ag] at q;cases q) q
 have y:Step c σ s σ { s with heap:=h' }:=Step.ext (t:=s.toks) kp
 exact Zm (js (s:={ s with heap:=h' }) g (rs.keep (aq kp)) (S.ext kp) hn) (fun _ s₃ q=>by obtain ⟨ρ₃,σ₃,S₃,y₃,g₃⟩:=q;exact ⟨ρ₃,σ₃,S₃,y.trans y₃,g₃⟩) fun _ _ z=>z.after y
theorem lU {d:Addr}{es:List (Int × AVal)} (hd:σ d=some (.dictI es)) (hz:es.length<=sizeLine) (q:∀ D,σ D=none->Q (.ref D) (σ.set D (.list (es.map fun e=>.int e.1)))) (cm:c.calm=true:=by walk_at "cm") :
  GoV VR c ρ [.ref d] (fun vs=>call (.type "list") vs) σ Q X:=fun vs s S r=>by
 apply r.one';intro v x
 apply x.ref'
 refine (S.obj d _ hd).dictI' fun kvs e rs=>?_
 obtain ⟨ep,hat⟩:=e.dictAt
 refine kdl_call (kdl_dict (knd:=intKind c.prog c.w) (kvs:=kvs) (ep:=ep) (S.notMods hd)) (S.ok.hd cm) hat (by rw [rs.length];exact hz) fun h' tk acc' c' hk hD hacc=>?_
 have hn:=ag s.heap
 have va:VRs h' acc'.toList (es.map fun e=>.int e.1):=VRs.of_get (by rw [Array.length_toList,length_map,hacc.1,rs.length]) fun j u b hu hb=>by
  obtain ⟨k,x⟩|⟨hx,hk⟩:=(hacc.2 j u (by rw [<- Array.getElem?_toList];exact hu))
  obtain ⟨t,rfl⟩:=Value.isInt_shape hk
  obtain ⟨a',ha'⟩:=rs.get hx
  rw [getElem?_map,ha'] at hb
  cases hb
  exact .int k t
 exact ⟨.ref _,_,.ref _,(S.ext hk).add (.list (by rw [Array.toArray_toList];exact hD) va) (S.new_off hn),(Step.ext (t:=tk) hk).tell hn,q _ (S.none_of hn)⟩
theorem lh {h:Heap}{vs:List Value}{bs:List Bool} (r:VRs h vs (bs.map .bool)):vs=bs.map .bool:=by
 induction bs generalizing vs with
 | nil=>cases r;rfl
 | cons b bs ih=>cases r with | cons r rs=>apply r.bool';rw [ih rs];rfl
theorem gx {prog:Program}{w:World}{A:Around}{bs:List Bool}:TruthOf prog w A (fun i v=>(bs.map Value.bool).toArray[i]?=some v) (fun i=>bs[i]?.getD false):=fun i v s Q E hp hq=>by
 have:((bs.map Value.bool)[i]?)=some v:=by simpa using hp
 rw [getElem?_map] at this
 have hq:Q (bs[i]?.getD false) s:=hq
 cases hb:bs[i]? with
 | none=>rw [hb] at this;cases this
 | some b=>rw [hb] at this hq;cases this;exact wpAny_truthy_bool hq
theorem oW (bs:List Bool) (f:Bool->Bool):(List.range bs.length).all (fun i=>f (bs[i]?.getD false))=bs.all f:=by
 rw [Bool.eq_iff_iff]
 simp only [all_eq_true,mem_range]
 constructor
 ·intro h b hb
  obtain ⟨i,hi,rfl⟩:=List.mem_iff_getElem.mp hb
  simpa [hi] using h i hi
 ·intro h i hi
  simpa [hi] using h bs[i] (getElem_mem hi)
theorem qP {l:Addr}{bs:List Bool} (hl:σ l=some (.list (bs.map .bool))) (q:Q (.bool (bs.all id)) σ) (cm:c.calm=true:=by walk_at "cm"):GoV VR c ρ [.ref l] (fun vs=>call (.builtin "all") vs) σ Q X:=fun vs s S r=>by
 apply r.one';intro v x
 apply x.ref'
 refine (S.obj l _ hl).list' fun vs n e rs=>?_
 cases lh rs
 refine call_all_walk (wpAny_pyIter_list ⟨_,e,rfl,_,rfl⟩ ?_)
 have hne:l≠s.heap.objs.size:=Nat.ne_of_lt (Heap.lt_size e)
 have kp:∀ b o,s.heap.get? b=some o->(s.heap.push { cls:=.type "list_iterator",data:=.fields #[.ref l,.int 0 0] }).get? b=some o:=fun b o q=>Zu _ q
 refine ⟨_,_,_,_,_,_,_,rfl,Walks.list (A:=c.A.in1) (S.ok.hd cm) _ l hne (bs.map Value.bool).toArray,⟨⟨_,Zz _ rfl,rfl,rfl⟩,⟨_,kp _ _ e,rfl,_,rfl⟩⟩,gx,fun h' tk k=>?_⟩
 refine .ext (t:=tk) S (fun b o q=>k b o (fun z=>by rw [ZS z,ag] at q;cases q) (kp b o q)) ?_ q
 rw [size_toArray,length_map]
 have:=oW bs id
 simp only [id] at this ⊢
 rw [this];exact .bool _
theorem pG (bs:List Bool):(List.range bs.length).any (fun i=>bs[i]?.getD false)=bs.any id:=by
 rw [Bool.eq_iff_iff]
 simp only [any_eq_true,mem_range]
 constructor
 ·intro r1z
  obtain ⟨i⟩|⟨hi,h⟩:=r1z
  exact ⟨bs[i],getElem_mem hi,by simpa [hi] using h⟩
 ·intro r2z
  obtain ⟨b⟩|⟨hb,h⟩:=r2z
  obtain ⟨i,hi,rfl⟩:=List.mem_iff_getElem.mp hb
  exact ⟨i,hi,by simpa [hi] using h⟩
theorem qN {l:Addr}{bs:List Bool} (hl:σ l=some (.list (bs.map .bool))) (q:Q (.bool (bs.any id)) σ) (cm:c.calm=true:=by walk_at "cm"):GoV VR c ρ [.ref l] (fun vs=>call (.builtin "any") vs) σ Q X:=fun vs s S r=>by
 apply r.one';intro v x
 apply x.ref'
 refine (S.obj l _ hl).list' fun vs n e rs=>?_
 cases lh rs
 refine call_any_walk (wpAny_pyIter_list ⟨_,e,rfl,_,rfl⟩ ?_)
 have hne:l≠s.heap.objs.size:=Nat.ne_of_lt (Heap.lt_size e)
 have kp:∀ b o,s.heap.get? b=some o->(s.heap.push { cls:=.type "list_iterator",data:=.fields #[.ref l,.int 0 0] }).get? b=some o:=fun b o q=>Zu _ q
 refine ⟨_,_,_,_,_,_,_,rfl,Walks.list (A:=c.A.in1) (S.ok.hd cm) _ l hne (bs.map Value.bool).toArray,⟨⟨_,Zz _ rfl,rfl,rfl⟩,⟨_,kp _ _ e,rfl,_,rfl⟩⟩,gx,fun h' tk k=>?_⟩
 refine .ext (t:=tk) S (fun b o q=>k b o (fun z=>by rw [ZS z,ag] at q;cases q) (kp b o q)) ?_ q
 rw [size_toArray,length_map,pG];exact .bool _
end
open Builtin Builtin.ObjectAttr
abbrev j6:List Value:=[.type "Exception",.type "BaseException",.type "object"]
def b5:List Value->Bool
 | .ref _::r=>b5 r
 | l=>l == j6
theorem ni {a:Addr}{r:List Value}:b5 (.ref a::r)=b5 r:=by rw [b5]
theorem dJ {P:List Value->Prop} (h0:P j6) (h1:∀ a r,P r->P (.ref a::r)):∀ {l:List Value},b5 l=true->P l
 | [],e=>by cases e
 | .ref a::r,e=>h1 a r (dJ h0 h1 (by rwa [ni] at e))
 | .none::r,e=>by cases e
 | .bool _::r,e=>by cases e
 | .int _ _::r,e=>by cases e
 | .type n::r,e=>by
  have:(Value.type n::r)=j6:=beq_iff_eq.mp e
  rw [this];exact h0
 | .str _ _::r,e=>by cases e
 | .bytes _ _::r,e=>by cases e
 | .float _ _::r,e=>by cases e
 | .builtin _::r,e=>by cases e
 | .ellipsis::r,e=>by cases e
 | .notImplemented::r,e=>by cases e
theorem bF {l:List Value} (e:b5 l=true):l.contains (.type "Exception")=true/\l.contains (.type "BaseException")=true/\l.contains (.type "object")=true/\l.contains (.type "AttributeError")=false/\l.contains (.type "NameError")=false:=by
 refine dJ (P:=fun l=>l.contains (.type "Exception")=true/\l.contains (.type "BaseException")=true/\l.contains (.type "object")=true/\l.contains (.type "AttributeError")=false/\l.contains (.type "NameError")=false) (by decide +kernel) (fun a r q=>?_) e
 simp only [contains_cons]
 refine an5 q fun h1 h2 h3 h4 h5=>?_
 (try clear q)
 rw [h1,h2,h3,h4,h5]
 exact ⟨rfl,rfl,rfl,rfl,rfl⟩
inductive eclsIn (K:Frag) (C:Addr):Prop
 | mk (nm qn:Str) (N:Addr) (bs bm:List Value) (hdct:Bool) (sn:List Str) (sub:List Value) (ab:Bool) (col:Option Bool) (dd:Option Addr) (k0 k1 k2 k3 k5:Option Value) (h:K.lookup C=some (excClassObj nm qn C N bs bm hdct sn sub ab col dd k0 k1 k2 k3 k5 "Exception.__new__")) (m:b5 bm=true)
inductive EclsG (h:Heap) (C:Addr):Prop
 | mk (nm qn:Str) (N:Addr) (bs bm:List Value) (hdct:Bool) (sn:List Str) (sub:List Value) (ab:Bool) (col:Option Bool) (dd:Option Addr) (k0 k1 k2 k3 k5:Option Value) (g:h.get? C=some (excClassObj nm qn C N bs bm hdct sn sub ab col dd k0 k1 k2 k3 k5 "Exception.__new__")) (m:b5 bm=true)
theorem fc {K:Frag}{h:Heap}{C:Addr} (X:K.In h) (q:eclsIn K C):EclsG h C:=by
 obtain ⟨nm,qn,N,bs,bm,hdct,sn,sub,ab,col,dd,k0,k1,k2,k3,k5,g,m⟩:=q
 exact ⟨nm,qn,N,bs,bm,hdct,sn,sub,ab,col,dd,k0,k1,k2,k3,k5,X _ _ g,m⟩
section
variable {M:Model}{prog:Program}{w:World}{A:Around}{E:Value->Shared->Prop}{h:Heap}{g:Array GenState}{d:Drawn}{t:Nat}{os:OsState}
variable {nm q:Str}{C N:Addr}{bs bm:List Value}{hdct:Bool}{sn:List Str}{sub:List Value}{ab:Bool}{col:Option Bool}{dd:Option Addr}{k0 k1 k2 k3 k5:Option Value}
theorem bY {base:Value}{b:Bool}{newId:String}{Q:Bool->Shared->Prop} (hC:h.get? C=some (excClassObj nm q C N bs bm hdct sn sub ab col dd k0 k1 k2 k3 k5 newId)) (e:(Value.ref C::bm).contains base=b) (hq:Q b ⟨h,g,d,t,os⟩) :
  wpAny M A (isSubtype (.ref C) base) Q E ⟨h,g,d,t,os⟩:=wpAny_isSubtype_exc hC (e.symm ▸ hq)
theorem mV (e:b5 bm=true) {rest:List Value}{Q:Unit->Shared->Prop} (hC:h.get? C=some (excClassObj nm q C N bs bm hdct sn sub ab col dd k0 k1 k2 k3 k5 "Exception.__new__"))
  (hq:Q () ⟨h,g,d,t,os⟩):wpAny M A (checkBuiltinCall "Exception.__new__" ⟨.ref C::rest,[]⟩) Q E ⟨h,g,d,t,os⟩:=by
 have F:=PySem.F.excBase_Exception
 have hcont:(Value.ref C::bm).contains (.type "Exception")=true:=by rw [contains_cons,(bF e).1,Bool.or_true]
 have hstar:=F.noStar
 unfold checkBuiltinCall
 rw [F.newKind,F.newSplit]
 repeat (first | with_reducible refine wpAny_loadPart_at hC ?_ | with_reducible refine bY hC hcont ?_ | with_reducible refine wpAny_staticBase_exc hC ?_ | with_reducible refine wpAny_madeBy_exc hC ?_ | wp_step)
 all_goals exact hq
theorem qf {R:Result->Shared->Prop} (e:b5 bm=true) {rest:List Value} (hC:h.get? C=some (excClassObj nm q C N bs bm hdct sn sub ab col dd k0 k1 k2 k3 k5 "Exception.__new__"))
  (hq:R (.ok (.ret (.ref (h.objs.size+1)))) ⟨(h.push { cls:=.type "tuple",data:=.seq rest.toArray }).push
   { cls:=.ref C,data:=.fields #[.ref h.objs.size,.none,.none,.none,.bool false,.none] },g,d,t,os⟩) (hrest:rest.length<=sizeLine) :
  codeAny (model prog w) A (.builtin "Exception.__new__" ⟨.ref C::rest,[]⟩) R ⟨h,g,d,t,os⟩:=by
 have F:=PySem.F.excBase_Exception
 have hends:=F.ends
 refine an5 (bF e) fun e1 e2 e3 e4 e5=>?_
 have hcB:(Value.ref C::bm).contains (.type "Exception")=true:=by rw [contains_cons,e1,Bool.or_true]
 have hcA:(Value.ref C::bm).contains (.type "AttributeError")=false:=by rw [contains_cons,e4];rfl
 have hcN:(Value.ref C::bm).contains (.type "NameError")=false:=by rw [contains_cons,e5];rfl
 refine codeAny_builtinAt F.entry ?_
 unfold Builtin.«BaseException.__new__»
 refine PySem.wpAt_bind ?_
 show PySem.wpAt _ _ _ (stack >>= _) _ _ _
 refine PySem.wpAt_bind (PySem.wpAt_stack fun p below=>PySem.wpAt_of_wpAny ?_)
 wp_walk
 refine PySem.wpAt_of_wpAny ?_
 rw [F.owner]
 repeat (first | with_reducible refine wpAny_madeHere_exc F.canon hC ?_ | with_reducible refine wpAny_loadPart_at hC ?_ | with_reducible refine bY hC hcB ?_ | with_reducible refine bY hC hcA ?_ | with_reducible refine bY hC hcN ?_ | wp_step)
 show R _ _
 rw [Heap.size_push]
 exact hq
abbrev cT (C t:Addr):Obj:={ cls:=.ref C,data:=.fields #[.ref t,.none,.none,.none,.bool false,.none] }
theorem iq {K:Frag}{fI:Addr}{rest:List Value}{Q:Fin->Shared->Prop} (X:K.In h) (e:eclsIn K C) (hi:findIn K (.ref C) "__init__" = some (some (.ref fI))) (ht:typeIn K (.ref fI)=some (.type "function"))
  (hq:wpAny (model prog w) A (call (.ref fI) (.ref (h.objs.size+1)::rest)) (fun r s'=>r=.none/\Q (.done (.ret (.ref (h.objs.size+1)))) s') E ⟨(h.push { cls:=.type "tuple",data:=.seq rest.toArray }).push (cT C h.objs.size),g,d,t,os⟩) (hrest:rest.length<=sizeLine) :
  wpAny (model prog w) A (Builtin.«type.__call__» ⟨.ref C::rest,[]⟩) Q E ⟨h,g,d,t,os⟩:=by
 have F:=PySem.F.excBase_Exception
 obtain ⟨nm,q,N,bs,bm,hdct,sn,sub,ab,col,dd,k0,k1,k2,k3,k5,hC,em⟩:=fc X e
 repeat (first | with_reducible refine wpAny_loadPart_at hC ?_ | with_reducible refine wpAny_madeBy_exc hC ?_ | wp_step)
 refine codeAny_call_builtin_code (Code.quiet_builtin _ F.quiet) (mV em hC ?_)
 refine qf em hC ?_ hrest
 show wpAny _ _ _ _ _ _
 have kp:∀ b o,h.get? b=some o->((h.push { cls:=.type "tuple",data:=.seq rest.toArray }).push (cT C h.objs.size)).get? b=some o:=fun b o e=>Zu _ (Zu _ e)
 have X₁:=X.keeps kp
 have hC₁:=kp _ _ hC
 have hget:((h.push { cls:=.type "tuple",data:=.seq rest.toArray }).push (cT C h.objs.size)).get? (h.objs.size+1)=some (cT C h.objs.size):=by heap_get
 have hcC:(Value.ref C::bm).contains (.ref C)=true:=by simp
 unfold isInstance
 repeat (first | with_reducible refine wpAny_loadPart_at hget ?_ | with_reducible refine bY hC₁ hcC ?_ | wp_step)
 show wpAny _ _ (typeLookup (.ref C) _) _ _ _
 refine (looks_findIn X₁ hi).at ?_
 refine wpAny_holding (Zb ((bind_fn X₁ _ ht).at ?_))
 refine Zb (Zm hq (fun r s' hr=>?_) fun _ _ x=>x)
 obtain ⟨rfl,hQ⟩:=hr
 wp_walk
 exact hQ
theorem o4 {K:Frag}{fI:Addr}{rest:List Value}{Q:Value->Shared->Prop} (X:K.In h) (e:eclsIn K C) (hi:findIn K (.ref C) "__init__" = some (some (.ref fI))) (ht:typeIn K (.ref fI)=some (.type "function"))
  (hq:wpAny (model prog w) (A.under (.builtin "type.__call__" ⟨.ref C::rest,[]⟩)) (call (.ref fI) (.ref (h.objs.size+1)::rest)) (fun r s'=>r=.none/\Q (.ref (h.objs.size+1)) s') E ⟨(h.push { cls:=.type "tuple",data:=.seq rest.toArray }).push (cT C h.objs.size),g,d,t,os⟩) (hrest:rest.length<=sizeLine) :
  wpAny (model prog w) A (call (.ref C) rest) Q E ⟨h,g,d,t,os⟩:=by
 obtain ⟨nm,q,N,bs,bm,hdct,sn,sub,ab,col,dd,k0,k1,k2,k3,k5,hC,em⟩:=fc X e
 have f1:=tc_lookup
 have f2:=tc_bind (.ref C)
 have hT:(⟨h,g,d,t,os⟩:Shared).TypeIs (.ref C) "type" := ⟨_,hC,rfl⟩
 refine wpAny_call (codeAny_of_tree ?_)
 show wpAny _ _ (callAny (.ref C) _) _ _ _
 repeat (any_goals (first | assumption | with_reducible refine wpAny_loadPart_at hC ?_ | wp_step))
 refine ⟨rfl,?_⟩
 exact codeAny_call_builtin_at (Code.quiet_builtin _ (by decide +kernel)) entry_typeCall (wpAny_check_type_call_sub hC (iq X e hi ht hq hrest))
end
def rP (K:Frag) (C:Addr):Bool:=(clsIn K C).any fun cd=>cd.hasDict && b5 cd.mro
structure EClsOk (K:Frag) (C:Addr):Prop where
 made:eclsIn K C
 over:rP K C=true
 get:findIn K (.ref C) "__getattribute__" = some (some (.builtin "BaseException.__getattribute__"))
 hook:findIn K (.ref C) "__getattr__" = some none
 set:findIn K (.ref C) "__setattr__" = some (some (.builtin "object.__setattr__"))
section
variable {prog:Program}{w:World}{A:Around}{E:Value->Shared->Prop}{s:Shared}{K:Frag}{x C:Addr}{R:Result->Shared->Prop}
theorem m5 (self:Value) {l:List Value} (e:b5 l=true):refuseLoop self "__setattr__" l=pure () :=
 dJ (P:=fun l=>refuseLoop self "__setattr__" l=pure ()) (PySem.F.store_Exception.passes self) (fun a r q=>by rw [refuseLoop_ref];exact q) e
theorem jK {ox:Obj}{od:Option Obj}{name:Str}{tk:Tok}{v:Value} (X:K.In s.heap) (I:InstAt s.heap x ox C od) (hp:rP K C=true) (ht:takerIn K C name=some none)
  (h:∀ b,wpAny (model prog w) A.in1 (storeInOwnDict (.ref x) (.ref C) (.str name tk) name v b)
   (fun fin s'=>match fin with | .done f=>R (.ok f) s' | .again c'=>c'.quiet=true/\codeAny (model prog w) A c' R s') (fun e s'=>R (.error e) s') s) :
  codeAny (model prog w) A (.call (.builtin "object.__setattr__") ⟨[.ref x,.str name tk,v],[]⟩) R s:=by
 have SF:=PySem.F.store_object
 obtain ⟨cd⟩|⟨hc,ho⟩:=(any_some hp)
 rw [Bool.and_eq_true] at ho
 have ho:=ho.2
 have ne:cd.mro.isEmpty=false:=by cases q:cd.mro with | nil=>rw [q] at ho;cases ho | cons _ _=>rfl
 have sub:Looks (model prog w) s.heap (isInstance (.ref x) (.type "object")) true:=I.type.andThen (looks_mroIn X (by unfold mroIn;rw [hc,Option.bind_some,if_neg (by rw [ne];decide),(bF ho).2.2.1]))
 refine codeAny_call_builtin SF.slot.plain SF.entry (@check_slot (model prog w) _ _ s "object.__setattr__" "object" "__setattr__" (.ref x) [.str name tk,v] [] _ SF.kind SF.split sub (SF.args (.ref x) (.str name tk) v) ?_)
 obtain ⟨attr⟩|⟨ha,hr⟩:=(Option.bind_eq_some_iff.mp ht)
 have hm:Looks (model prog w) s.heap (mroOf (.ref C)) cd.mro:=(looks_clsIn X hc).andThen .now
 have L3:Looks (model prog w) s.heap (storeTaker? attr) none:=by
  cases attr with
  | none=>exact .now
  | some a =>
   obtain ⟨b⟩|⟨hb,q⟩:=(Option.map_eq_some_iff.mp hr)
   refine (looks_takesIn X hb).andThen ?_
   cases b
   ·exact .now
   ·cases q
 rw [osa_eq,refuse_eq]
 refine Zb (Zb (I.type.here (Zb (hm.here ?_))))
 rw [m5 _ ho]
 refine Zp (Zb (I.type.here (Zb ((looks_findIn X ha).here (Zb (L3.here ?_))))))
 exact h _
end
section
variable {c:Cx}{ρ ρ':List NV}{σ σ₀ σ₁ σ' τ:AState}{h h' B:Heap}{s s₀ s₁ s₂ s':Shared}{Q:AVal->AState->Prop}{X:AExc->AState->Prop}
theorem St.excAt {x C:Addr}{d:Option Addr}{vs:Array Value} (S:St c ρ σ h) (e:σ x=some (.exc C d vs)):h.get? x=some { cls:=.ref C,dict:=d,data:=.fields vs }:=by
 refine (S.obj x _ e).exc' fun e=>?_
 exact e
inductive E0At (c:Cx) (ρ:List NV) (N:List NV->AState->Prop) (x:Str) (v a:AVal) (σ₂:AState):Prop
 | mk (o C:Addr) (vs:Array Value) (ns:List Str) (e1:a=.ref o) (h1:σ₂ o=some (.exc C none vs)) (h2:EClsOk c.K C) (h3:takerIn c.K C x=some none) (h4:x∈ns) (h5:ns.length<=1000)
   (h6:∀ d,σ₂ d=none->d≠o->N ρ ((σ₂.set o (.exc C (some d) vs)).set d (.attrs ns fun y=>if y=x then some v else none)))
theorem j7 {N:List NV->AState->Prop}{R:AVal->AState->Prop}{XS:AExc->List NV->AState->Prop}{e value:Expr}{x:Str}{pa p:Pos}
  (g:Ev c ρ value σ (fun v σ₁=>Ev c ρ e σ₁ (E0At c ρ N x v) (XAt XS ρ)) (XAt XS ρ))
  (hs:swapsWith value (some (.Attribute e x pa)) p.line c.env=pure false:=by walk_at "u"):WS c ρ (.Assign [.Attribute e x pa] value p) σ N R XS:=fun s S=>by
 refine plainObj_wpAny_Assign_Attribute ?_ hs
 refine g.useS S fun v s₁ a σ₁ r S₁ y q=>?_
 refine Zm (q s₁ S₁) (fun ov s₂ p=>?_) fun _ _ z=>XSPost.after y z.toS
 obtain ⟨b,σ₂,r₂,S₂,y₂,p⟩:=p
 obtain ⟨o,C,vs,ns,rfl,ho,ok,ht,hx1,hx2,hN⟩:=p
 apply r₂.ref'
 have X:=S₂.ok.KG.keeps S₂.base
 have e₀:=S₂.excAt ho
 have I:InstAt s₂.heap o { cls:=.ref C,dict:=none,data:=.fields vs } C none:=⟨e₀,rfl,rfl,trivial⟩
 refine set_plain X I ok.set ?_
 refine jK (s:={ s₂ with toks:=s₂.toks+1 }) X I ok.over ht fun bb=>?_
 obtain ⟨cd⟩|⟨hc,hd'⟩:=(any_some ok.over)
 rw [Bool.and_eq_true] at hd'
 have hd':=hd'.1
 refine Zb (Zp (Zb (Zb (wpAny_loadPart (s:={ s₂ with toks:=s₂.toks+1 }) e₀ (Zb (looks_clsIn X hc _ _ _ _ (fun _ _ e=>e) ?_))))))
 rw [hd']
 have hn:=ag s₂.heap
 have hos:o≠s₂.heap.objs.size:=Nat.ne_of_lt (Heap.lt_size e₀)
 have e₁:(s₂.heap.push { cls:=.type "dict",data:=.dict #[] }).get? o=some { cls:=.ref C,dict:=none,data:=.fields vs }:=Zu _ e₀
 show wpAny _ _ (alloc { cls:=.type "dict",data:=.dict #[] } >>= fun d=>update o (fun o=>{ cls:=o.cls,dict:=some d,data:=o.data,slots:=o.slots }) >>= fun _=>dictMade (.ref C) o d) _ _ _
 refine Zb (wpAny_alloc' (Zb (wpAny_update' e₁ (Zp ?_))))
 have e₃:=Heap.get?_update_self (fun o=>{ cls:=o.cls,dict:=some s₂.heap.objs.size,data:=o.data,slots:=o.slots }) e₁ rfl
 have hgd:((s₂.heap.push { cls:=.type "dict",data:=.dict #[] }).update o fun o=>{ cls:=o.cls,dict:=some s₂.heap.objs.size,data:=o.data,slots:=o.slots }).get? s₂.heap.objs.size
   = some { cls:=.type "dict",data:=.dict #[] }:=(Heap.get?_update_ne _ _ _ _ hos.symm).trans (Heap.get?_push_at rfl rfl)
 have kp:∀ b ob,b≠o->s₂.heap.get? b=some ob->((s₂.heap.push { cls:=.type "dict",data:=.dict #[] }).update o fun o=>{ cls:=o.cls,dict:=some s₂.heap.objs.size,data:=o.data,slots:=o.slots }).get? b=some ob :=
  fun b ob hb e=>(Heap.get?_update_ne _ _ _ _ hb).trans (Zu _ e)
 dsimp only at e₃ hgd kp ⊢
 generalize hgen:((s₂.heap.push { cls:=.type "dict",data:=.dict #[] }).update o fun o=>{ cls:=o.cls,dict:=some s₂.heap.objs.size,data:=o.data,slots:=o.slots })=h₃ at e₃ hgd kp ⊢
 have hnd:h₃.Ns s₂.heap.objs.size (fun _=>none):=⟨_,#[],_,hgd,rfl,fun e he=>absurd he (by simp),fun _=>rfl⟩
 have S₃:=S₂.upd (h':=h₃) ho (ao':=.exc C (some s₂.heap.objs.size) vs) (fun b ob hb e=>kp b ob hb e) (.exc e₃)
 have S₄:=S₃.add (a:=s₂.heap.objs.size) (o:=.attrs ns fun _=>none) (.attrs (m':=fun _=>none) (Heap.Ns1.of_empty hnd) (fun y hy=>absurd rfl hy) fun _=>rfl) (S₂.new_off hn)
 have y₃:Step c σ₂ s₂ (σ₂.set o (.exc C (some s₂.heap.objs.size) vs)) { s₂ with heap:=h₃,toks:=s₂.toks+1 }:=Step.upd (t:=s₂.toks+1) ho (fun b ob hb e=>kp b ob hb e) (.exc e₃)
 have hs2:σ₂ s₂.heap.objs.size=none:=S₂.none_of hn
 have y₄:Step c σ₂ s₂ ((σ₂.set o (.exc C (some s₂.heap.objs.size) vs)).set s₂.heap.objs.size (.attrs ns fun _=>none)) { s₂ with heap:=h₃,toks:=s₂.toks+1 }:=y₃.tell hn
 show wpAny _ _ (storeInDict s₂.heap.objs.size (.str x s₂.toks) x v) _ _ _
 unfold storeInDict newKeyGuard
 refine Zb (Zp (Zb ?_))
 refine wpAny_nsSet1 (s:={ s₂ with heap:=h₃,toks:=s₂.toks+1 }) (Heap.Ns1.of_empty hnd) fun h' n' sb=>?_
 have wn':Within (fun y=>if y=x then some v else none) ns:=fun y hy=>by
  by_cases z:y=x
  ·exact z ▸ hx1
  ·dsimp only at hy;rw [if_neg z] at hy;exact absurd rfl hy
 obtain ⟨on,en,epn⟩|⟨hon,hdn,hsn⟩:=(n'.count wn')
 refine Zb (wpAny_lookBehind hon (by rw [hdn];exact pastItsLine_dict (by rw [sizeLine_eq];walk_at "o")) ?_)
 refine Zp ?_
 have ha4:=Zs (σ₂.set o (.exc C (some s₂.heap.objs.size) vs)) s₂.heap.objs.size (.attrs ns fun _=>none)
 have t:TupKept h₃ h':=aw sb.extBut hgd fun q=>by simp at q
 have t2:TupKept s₂.heap h₃:=aw (a:=o) (fun b ob hb e=>kp b ob hb e) e₀ fun q=>by cases q
 have R':OR c.prog c.w h' s₂.heap.objs.size (.attrs ns fun y=>if y=x then some a else none):=.attrs n' wn' fun y=>by
  by_cases z:y=x
  ·rw [if_pos z,if_pos z];exact ⟨_,rfl,((r.keep (y₂.tup S₁)).keep t2).keep t⟩
  ·rw [if_neg z,if_neg z]
 have S₅:=S₄.upd ha4 sb.extBut R'
 have y₅:=Step.upd (c:=c) (s:={ s₂ with heap:=h₃,toks:=s₂.toks+1 }) (t:=s₂.toks+1+1) ha4 sb.extBut R'
 have es:((σ₂.set o (.exc C (some s₂.heap.objs.size) vs)).set s₂.heap.objs.size (.attrs ns fun _=>none)).set s₂.heap.objs.size (.attrs ns fun y=>if y=x then some a else none) =
   (σ₂.set o (.exc C (some s₂.heap.objs.size) vs)).set s₂.heap.objs.size (.attrs ns fun y=>if y=x then some a else none):=by
  funext b;unfold AState.set;split<;>rfl
 rw [es] at S₅ y₅
 exact ⟨ρ,_,S₅,((y.trans y₂).trans y₄).trans y₅,hN _ hs2 hos.symm⟩
inductive E1At (c:Cx) (ρ:List NV) (N:List NV->AState->Prop) (x:Str) (v a:AVal) (σ₂:AState):Prop
 | mk (o C d:Addr) (vs:Array Value) (ns:List Str) (m:Str->Option AVal) (e1:a=.ref o) (h1:σ₂ o=some (.exc C (some d) vs)) (h0:σ₂ d=some (.attrs ns m)) (h2:EClsOk c.K C) (h3:takerIn c.K C x=some none) (h4:x∈ns) (h5:ns.length<=1000)
   (h6:N ρ (σ₂.set d (.attrs ns fun y=>if y=x then some v else m y)))
theorem kN {N:List NV->AState->Prop}{R:AVal->AState->Prop}{XS:AExc->List NV->AState->Prop}{e value:Expr}{x:Str}{pa p:Pos}
  (g:Ev c ρ value σ (fun v σ₁=>Ev c ρ e σ₁ (E1At c ρ N x v) (XAt XS ρ)) (XAt XS ρ))
  (hs:swapsWith value (some (.Attribute e x pa)) p.line c.env=pure false:=by walk_at "u"):WS c ρ (.Assign [.Attribute e x pa] value p) σ N R XS:=fun s S=>by
 refine plainObj_wpAny_Assign_Attribute ?_ hs
 refine g.useS S fun v s₁ a σ₁ r S₁ y q=>?_
 refine Zm (q s₁ S₁) (fun ov s₂ p=>?_) fun _ _ z=>XSPost.after y z.toS
 obtain ⟨b,σ₂,r₂,S₂,y₂,p⟩:=p
 obtain ⟨o,C,d,vs,ns,m,rfl,ho,hσd,ok,ht,hx1,hx2,hN⟩:=p
 apply r₂.ref'
 have X:=S₂.ok.KG.keeps S₂.base
 have e₀:=S₂.excAt ho
 refine (S₂.obj d _ hσd).attrs' fun m' n w rr=>?_
 obtain ⟨od⟩|⟨eo,lk⟩:=(fW n.ns)
 have I:InstAt s₂.heap o { cls:=.ref C,dict:=some d,data:=.fields vs } C (some od):=⟨e₀,rfl,rfl,eo⟩
 refine set_plain X I ok.set ?_
 refine jK (s:={ s₂ with toks:=s₂.toks+1 }) X I ok.over ht fun bb=>?_
 obtain ⟨cd⟩|⟨hc,hd'⟩:=(any_some ok.over)
 rw [Bool.and_eq_true] at hd'
 have hd':=hd'.1
 refine Zb (Zp (Zb (Zb (wpAny_loadPart (s:={ s₂ with toks:=s₂.toks+1 }) e₀ (Zb (looks_clsIn X hc _ _ _ _ (fun _ _ e=>e) ?_))))))
 rw [hd']
 refine Zp (a:=some d) (Zb (Zp (Zb ?_)))
 refine wpAny_nsSet1 (s:={ s₂ with toks:=s₂.toks+1 }) n fun h' n' sb=>?_
 have wn':Within (fun y=>if y=x then some v else m' y) ns:=fun y hy=>by
  by_cases z:y=x
  ·exact z ▸ hx1
  ·exact w y (by dsimp only at hy;rwa [if_neg z] at hy)
 obtain ⟨on,en,epn⟩|⟨hon,hdn,hsn⟩:=(n'.count wn')
 refine Zb (wpAny_lookBehind hon (by rw [hdn];exact pastItsLine_dict (by rw [sizeLine_eq];walk_at "o")) ?_)
 refine Zp ?_
 obtain ⟨ob⟩|⟨e',nn⟩:=((S₂.obj d _ hσd).here)
 have t:TupKept s₂.heap h':=aw sb.extBut e' nn
 have R':OR c.prog c.w h' d (.attrs ns fun y=>if y=x then some a else m y):=.attrs n' wn' fun y=>by
  by_cases z:y=x
  ·rw [if_pos z,if_pos z];exact ⟨_,rfl,(r.keep (y₂.tup S₁)).keep t⟩
  ·rw [if_neg z,if_neg z]
   have:=rr y
   cases hm:m y with
   | none=>rw [hm] at this;exact this
   | some _=>rw [hm] at this;refine ex1 this fun w h10z=>?_;(try clear this);refine an2 h10z fun q1 q2=>?_;clear h10z;exact ⟨w,q1,q2.keep t⟩
 have S₃:=S₂.upd hσd sb.extBut R'
 exact ⟨ρ,_,S₃,(y.trans y₂).trans (Step.upd (t:=s₂.toks+1+1) hσd sb.extBut R'),hN⟩
end
section
variable {M:Model}{prog:Program}{w:World}{A:Around}{E:Value->Shared->Prop}{h:Heap}{g:Array GenState}{d:Drawn}{t:Nat}{os:OsState}{K:Frag}
variable {nm q:Str}{C N:Addr}{bs bm:List Value}{hdct:Bool}{sn:List Str}{sub:List Value}{ab:Bool}{col:Option Bool}{dd:Option Addr}{k0 k1 k2 k3 k5:Option Value}
theorem mz (em:b5 bm=true) {e:Addr}{oe:Obj}{rest:List Value}{Q:Unit->Shared->Prop}
  (hC:h.get? C=some (excClassObj nm q C N bs bm hdct sn sub ab col dd k0 k1 k2 k3 k5 "Exception.__new__")) (he:h.get? e=some oe) (hcls:oe.cls=.ref C) (hq:Q () ⟨h,g,d,t,os⟩) :
  wpAny M A (checkBuiltinCall "Exception.__init__" ⟨.ref e::rest,[]⟩) Q E ⟨h,g,d,t,os⟩:=by
 have F:=PySem.F.excBase_Exception
 have hcB:(Value.ref C::bm).contains (.type "Exception")=true:=by rw [contains_cons,(bF em).1,Bool.or_true]
 have hshort:=F.noStar
 unfold checkBuiltinCall
 rw [F.initKind,F.initSplit,F.initRow]
 repeat (first | (with_reducible refine wpAny_loadPart_at he ?_;rw [hcls]) | with_reducible refine wpAny_loadPart_at hC ?_ | with_reducible refine bY hC hcB ?_ | wp_step)
 refine wpAny_onRaise ?_
 rw [show ∀ (a b:String) (n:Nat),Bind.check ⟨.positional, "*", "Exception",.self,[⟨"args",.varPos,false⟩]⟩ a b n (List.map (fun x=>x.fst) ({ pos:=Value.ref e::rest }:Args).kw)=pure () from
  fun a b n=>check_star_args _ _ _ _ _ _]
 exact Zp hq
theorem lu {s:Shared}{name:Str}{v:Value}{T:String}{pl:Sem Bool}{Q:Value × List Value->Shared->Prop} (X:K.In s.heap) (ht:typeOf (.type T)=pure (.type "type")) (hs:Manifest.isStub T=false)
  (e:findCls K (.type T) (.type "type") name=some (.val v)) (hh:handedIn v=true) (h:Q (v,[]) { s with toks:=s.toks+1 }):wpAny (model prog w) A (getMethod (.type T) name pl) Q E s:=by
 have hstub:opaqueClassAbove (.type T)=pure none:=by unfold opaqueClassAbove;dsimp only;rw [hs];rfl
 have L0:Looks (model prog w) s.heap (typeOf (.type T)) (.type "type"):=Looks.of_pure ht
 have hg:findIn K (.type "type") "__getattribute__" = some (some (.builtin "type.__getattribute__")):=type_tga
 unfold getMethod specialOf
 refine Zb (Zb (L0.here ((looks_findIn X hg).here ?_)))
 dsimp only
 rw [if_pos canon_tga]
 refine Zb (Zm (Q:=fun v=>Q (v,[])) (E:=E) ?_ (fun _ _ z=>Zp z) fun _ _ z=>z)
 have LO:Looks (model prog w) s.heap (opaqueClassAbove (.type T)) none:=Looks.of_pure hstub
 refine cls_open X LO L0 hg (looks_hook X (r:=none) (by rfl)) (by show subIn K _ _=_;rfl) e
  (Zp (by show wpAny _ _ (handedOut v) _ _ _;rw [handedOut_of hh];exact Zp h))
end
section
variable {c:Cx}{ρ ρ':List NV}{σ σ₀ σ₁ σ' τ:AState}{h h' B:Heap}{s s₀ s₁ s₂ s':Shared}{Q:AVal->AState->Prop}{X:AExc->AState->Prop}
theorem mP {e C t0:Addr}{od:Option Addr}{vs:Array Value}{a:AVal} (he:σ e=some (.exc C od vs)) (h0:vs[0]?=some (.ref t0)) (hC:eclsIn c.K C) (q:∀ t,Q .none (σ.set e (.exc C od (vs.setIfInBounds 0 (.ref t))))) :
  GoV VR c ρ [.ref e,a] (fun vs=>call (.builtin "Exception.__init__") vs) σ Q X:=fun vs' s S r=>by
 apply r.two';intro v w x y
 apply x.ref'
 have F:=PySem.F.excBase_Exception
 have e₀:=S.excAt he
 obtain ⟨hh,gg,dd,tt,oo⟩:=s
 dsimp only at S e₀ r x y
 obtain ⟨nm,qn,N,bs,bm,hdct,sn,sub,ab,col,ddd,k0,k1,k2,k3,k5,hC,em⟩:=fc (S.ok.KG.keeps S.base) hC
 refine wpAny_call (codeAny_call_builtin F.init.plain F.initEntry (mz em hC e₀ rfl ?_))
 unfold Builtin.«BaseException.__init__» Builtin.BaseException.bexcPut
 have e₁:(hh.push { cls:=.type "tuple",data:=.seq [w].toArray }).get? e=some { cls:=.ref C,dict:=od,data:=.fields vs }:=Zu _ e₀
 have hsz:0 < vs.size:=by
  cases q:vs.size with
  | zero=>rw [Array.getElem?_eq_none s!"o"] at h0;cases h0
  | succ _=>walk_at "o"
 show wpAny _ _ (newTuple [w] >>= fun t=>(do
  let old <- field (.ref e) 0
  setField (.ref e) 0 t
  if let .ref _:=old then letGo [old] []) >>= fun _=>ret .none) _ _ _
 refine Zb ?_
 refine Zm (Q:=fun t s'=>t=.ref hh.objs.size/\s'=⟨hh.push { cls:=.type "tuple",data:=.seq [w].toArray },gg,dd,tt,oo⟩) (E:=fun _ _=>False) (by wp_walk;exact ⟨rfl,rfl⟩) (fun t s' z=>?_) fun _ _ z=>z.elim
 obtain ⟨rfl,rfl⟩:=z
 refine Zb (Zb (wpAny_field e₁ rfl h0 (Zb (wpAny_setField e₁ rfl hsz (wpAny_letGo (Zp ?_))))))
 have kp:∀ b o,hh.get? b=some o->(hh.push { cls:=.type "tuple",data:=.seq [w].toArray }).get? b=some o:=fun b o e=>Zu _ e
 have S₁:=S.ext kp
 have e₂:=Heap.get?_update_self (Obj.mapFields (·.setIfInBounds 0 (Value.ref hh.objs.size))) e₁ rfl
 have R':OR c.prog c.w ((hh.push { cls:=.type "tuple",data:=.seq [w].toArray }).update e (Obj.mapFields (·.setIfInBounds 0 (Value.ref hh.objs.size)))) e (.exc C od (vs.setIfInBounds 0 (.ref hh.objs.size))):=.exc e₂
 have S₂:=S₁.upd he (fun b o hb e=>(Heap.get?_update_other _ _ (Ne.symm hb)).trans e) R'
 have y₁:Step c σ ⟨hh,gg,dd,tt,oo⟩ σ ⟨hh.push { cls:=.type "tuple",data:=.seq [w].toArray },gg,dd,tt,oo⟩:=Step.ext (s:=⟨hh,gg,dd,tt,oo⟩) (t:=tt) kp
 have y₂:=Step.upd (c:=c) (s:=⟨hh.push { cls:=.type "tuple",data:=.seq [w].toArray },gg,dd,tt,oo⟩) (t:=tt) he (fun b o hb e=>(Heap.get?_update_other _ _ (Ne.symm hb)).trans e) R'
 exact ⟨.none,_,.none,S₂,y₁.trans y₂,q _⟩
inductive XInit (c:Cx) (Q:AVal->AState->Prop) (as:List AVal) (σ₁:AState):Prop
 | mk (e C t0:Addr) (od:Option Addr) (vs:Array Value) (a:AVal) (e1:as=[.ref e,a]) (h1:σ₁ e=some (.exc C od vs)) (h2:vs[0]?=some (.ref t0)) (h3:eclsIn c.K C) (h4:∀ t,Q .none (σ₁.set e (.exc C od (vs.setIfInBounds 0 (.ref t)))))
theorem ev_excinit {pl:Sem Bool}{p ap pos:Pos}{es:List Expr} (l:LookG ρ "Exception") (n:nsIn c.K mainGlobals "Exception" = some none) (hf:findCls c.K (.type "Exception") (.type "type") "__init__" = some (.val (.builtin "Exception.__init__")))
  (g:EvL c ρ pos es σ (XInit c Q) X)
  (hstar:(backTo pos (starEach es c.env)).all (fun x=>!x.1)=true:=by walk_at "u")
  (he:eval (.Call (.Attribute (.Name "Exception" p) "__init__" ap) es [] pos) c.env=(do
   let ov <- eval (.Name "Exception" p) c.env
   standAt ap.atName
   let (f,first) <- holding [ov] (getMethod ov "__init__" pl)
   callWith pos f first (backTo pos (starEach es c.env)) (backToKw pos (keywordEach [] c.env))):=by walk_at "u"):Ev c ρ (.Call (.Attribute (.Name "Exception" p) "__init__" ap) es [] pos) σ Q X:=fun s S=>by
 refine methodCall_KW ?_ he
 refine bn S l n PyProof.Rows.Boot.«Exception» (by decide +kernel) ?_
 refine lu (T:="Exception") (name:="__init__") (S.ok.KG.keeps S.base) (by kernel_rfl) (by decide +kernel) hf rfl ?_
 have y:Step c σ s σ { s with toks:=s.toks+1 }:=(Step.refl c σ s).toks
 refine on y (callWith_of (s:={ s with toks:=s.toks+1 }) (fa:=[]) S .nil ?_ hstar)
 refine g.mono (fun as σ₁ z=>?_) fun _ _ z=>z
 obtain ⟨e,C,t0,od,vs,a,rfl,h1,h2,h3,h4⟩:=z
 exact mP h1 h2 h3 h4
end
theorem jj:entryFor table "proto.unchain" = some Builtin.«proto.unchain»:=entryFor_of_tree (by kernel_rfl)
section
variable {prog:Program}{w:World}{A:Around}{E:Value->Shared->Prop}{env:Env}{C:Addr}
variable {nm q:Str}{N:Addr}{bs bm:List Value}{hdct:Bool}{sn:List Str}{sub:List Value}{ab:Bool}{col:Option Bool}{dd:Option Addr}{k0 k1 k2 k3 k5:Option Value}
theorem kJ {α:Type}{e:Addr}{oe:Obj}{vs:Array Value}{Q:α->Shared->Prop}{s:Shared} (he:s.heap.get? e=some oe) (hd:oe.data=.fields vs) (hsz:2 < vs.size)
  (hh:A.handled=none\/∃ e' oe' vs',A.handled=some (.ref e')/\e'≠e/\s.heap.get? e'=some oe'/\oe'.data=.fields vs'/\vs'[2]?=some .none)
  (h:∀ h' vs₂,Heap.ExtBut e s.heap h'->h'.get? e=some { oe with data:=.fields vs₂ }->vs₂.size=vs.size->(∀ i,i≠2->vs₂[i]?=vs[i]?)->(A.handled=none->vs₂=vs)->E (.ref e) { s with heap:=h' }):wpAny (model prog w) A (raiseNew (.ref e):Sem α) Q E s:=by
 rcases hh with hh | ⟨e',oe',vs',hh,hne,he',hd',h2⟩
 ·obtain ⟨c0,d0,dt,sl⟩:=oe
  cases hd
  exact wpAny_raiseNew_none hh (h s.heap vs (fun b o _ q=>q) he rfl (fun _ _=>rfl) fun _=>rfl)
 ·unfold raiseNew
  refine Zb (wpAny_handled ?_)
  rw [hh]
  dsimp only
  have hne':(Value.ref e' != Value.ref e)=true:=by simp [hne]
  rw [if_pos hne']
  refine Zb (wpAny_holding (wpAny_runValue (codeAny_builtin jj ?_)))
  unfold Builtin.«proto.unchain»
  dsimp only
  refine Zb (wpAny_field he' hd' h2 ?_)
  rw [if_pos (by rfl)]
  refine Zp ?_
  show wpAny _ _ _ _ _ _
  refine Zb ?_
  show wpAny _ _ (setField (.ref e) 2 (.ref e')) _ _ _
  refine wpAny_setField he hd hsz ?_
  refine wpAny_throw ?_
  obtain ⟨c0,d0,dt,sl⟩:=oe
  dsimp only at hd
  subst hd
  refine h _ (vs.setIfInBounds 2 (.ref e')) (fun b o hb q=>(Heap.get?_update_other _ _ (Ne.symm hb)).trans q) (Heap.get?_update_self _ he rfl) (by simp) (fun i hi=>by simp [Array.getElem?_setIfInBounds,Ne.symm hi]) fun z=>by rw [hh] at z;cases z
theorem i8 {s:Shared}{x:Sem Value}{Q:Flow->Shared->Prop} (hbase:bm.contains (.type "BaseException")=true)
  (h:wpAny (model prog w) A x (fun v s₁=>∃ e d vs,v=.ref e/\s₁.heap.get? C=some (excClassObj nm q C N bs bm hdct sn sub ab col dd k0 k1 k2 k3 k5 "Exception.__new__") /\
   s₁.heap.get? e=some { cls:=.ref C,dict:=some d,data:=.fields vs }/\vs[1]?=some .none/\2 < vs.size /\
   (A.handled=none\/∃ e' oe' vs',A.handled=some (.ref e')/\e'≠e/\s₁.heap.get? e'=some oe'/\oe'.data=.fields vs'/\vs'[2]?=some .none) /\
   ∀ h' vs₂,Heap.ExtBut e s₁.heap h'->h'.get? e=some { cls:=.ref C,dict:=some d,data:=.fields vs₂ }->vs₂.size=vs.size->(∀ i,i≠2->vs₂[i]?=vs[i]?)->(A.handled=none->vs₂=vs)->E (.ref e) { s₁ with heap:=h' }) E s) :
  wpAny (model prog w) A (raiseStmt env (some x) none) Q E s:=by
 have hcB:(Value.ref C::bm).contains (.type "BaseException")=true:=by rw [contains_cons,hbase,Bool.or_true]
 unfold raiseStmt
 refine Zb (Zm h (fun v s₁ h₁=>?_) fun _ _ x=>x)
 obtain ⟨e,d,vs⟩|⟨rfl,hC,he,h1,hsz,hh,hE⟩:=h₁
 obtain ⟨hp,g,dr,tk,os⟩:=s₁
 repeat (first | with_reducible refine wpAny_loadPart_at he ?_ | with_reducible refine wpAny_loadPart_at hC ?_ | with_reducible refine bY hC hcB ?_ | wp_step)
 rw [h1]
 refine Zp ?_
 rw [if_neg (by decide)]
 refine Zp ?_
 refine kJ he rfl hsz hh fun h' vs₂ k1 k2 k3 k4 k5=>hE h' vs₂ k1 k2 k3 k4 k5
end
def hid (h:Heap):List Addr->Heap
 | []=>h
 | a::l=>(hid h l).hide a
theorem gV {h:Heap}{b:Addr}:∀ {l:List Addr},b∉l->(hid h l).get? b=h.get? b
 | [],_=>rfl
 | a::l,n=>by
  rw [mem_cons,not_or] at n
  show ((hid h l).hide a).get? b=_
  rw [Heap.hide_ne _ n.1];exact gV n.2
theorem pY {h:Heap}{b:Addr}{o:Obj}:∀ {l:List Addr},(hid h l).get? b=some o->h.get? b=some o
 | [],e=>e
 | a::l,e=>pY (l:=l) (Heap.of_hide e)
theorem nq {h:Heap}{b:Addr}:∀ {l:List Addr},b∈l->(hid h l).get? b=none
 | a::l,m=>by
  by_cases z:b=a
  ·subst z;exact Heap.hide_self _ _
  ·show ((hid h l).hide a).get? b=_
   rw [Heap.hide_ne _ z]
   exact nq ((ZC m).resolve_left z)
def Flat:AVal->Prop
 | .tup _=>False
 | _=>True
theorem VR.flat {h h':Heap}{v:Value}{a:AVal} (r:VR h v a) (f:Flat a):VR h' v a:=by
 cases r with
 | tup=>exact f.elim
 | none=>exact .none
 | bool b=>exact .bool b
 | int i t=>exact .int i t
 | str x t=>exact .str x t
 | bytes b t=>exact .bytes b t
 | type n=>exact .type n
 | ref a=>exact .ref a
section
variable {c:Cx}{ρ ρ':List NV}{σ σ₀ σ₁ σ' τ:AState}{h h' B:Heap}{s s₀ s₁ s₂ s':Shared}{Q:AVal->AState->Prop}{X:AExc->AState->Prop}
inductive InitDone (C e:Addr) (w a:AVal) (σ σ':AState):Prop
 | mk (d:Addr) (vs:Array Value) (m:Str->Option AVal) (h1:σ d=none) (h2:d≠e) (h3:σ'=(σ.set e (.exc C (some d) vs)).set d (.attrs ca m)) (h4:m "what" = some w) (h5:m "at" = some a) (h6:vs[1]?=some .none) (h7:vs[2]?=some .none) (h8:2 < vs.size)
structure EMk (c:Cx) (C fI:Addr) (fd:FuncData) (body:List Stmt):Prop where
 ecls:EClsOk c.K C
 init:findIn c.K (.ref C) "__init__" = some (some (.ref fI))
 fn:typeIn c.K (.ref fI)=some (.type "function")
 fi:FnIn c.G fI fd
 ok:FnOk fd
 hb:fd.body=.stmts body
 kinds:∀ x∈fd.scope.names.take 3,x.2=.local\/x.2=.cell
 run:∀ (c':Cx) (L:Addr) (σ:AState) (e t:Addr) (w a:AVal),c'.G=c.G->c'.K=c.K->c'.prog=c.prog->c'.w=c.w->0 < c'.lv->σ e=none ->
  WSs (c'.call fd fI L) (bI fd.scope.names [.ref e,w,a]) body (σ.set e (.exc C none #[.ref t,.none,.none,.none,.bool false,.none])) (fun _ σ'=>InitDone C e w a σ σ') (fun x σ'=>x=.none/\InitDone C e w a σ σ') (fun _ _ _=>False)
def EBind (c:Cx) (fd:FuncData) (as:List AVal) (w a:AVal):Prop:=∀ e vs s,VRs s.heap vs (.ref e::as)->c.G.StaysIn s.heap->∃ ws,VRs s.heap ws [.ref e,w,a]/\BindsTo s fd ⟨vs,[]⟩ ((fd.scope.names.map (·.1)).zip ws)
def RaiseOk (c:Cx) (σ:AState):Prop:=c.A.handled=none\/∃ e' C' d' vs',c.A.handled=some (.ref e')/\σ e'=some (.exc C' d' vs')/\vs'[2]?=some .none
theorem iI {N:List NV->AState->Prop}{R:AVal->AState->Prop}{XS:AExc->List NV->AState->Prop}{f:Str}{p pos p':Pos}{es:List Expr}{C fI:Addr}{fd:FuncData}{body:List Stmt}
  (l:LookG ρ f) (n:nsIn c.K mainGlobals f=some (some (.ref C))) (mk:EMk c C fI fd body) (lv:2<=c.lv)
  (g:EvL c ρ pos es σ (fun as σ₁=>σ₁=σ/\RaiseOk c σ/\as.length<=5/\∃ w a,Flat w/\Flat a/\EBind c fd as w a/\∀ fr,(c.calm=true->fr=true)->XS ⟨C,w,a,fr⟩ ρ σ) (XAt XS ρ))
  (hstar:(backTo pos (starEach es c.env)).all (fun x=>!x.1)=true:=by walk_at "u") :
  WS c ρ (.Raise (some (.Call (.Name f p) es [] pos)) none p') σ N R XS:=fun s S=>by
 have hp:(backTo pos (starEach es c.env)).any (·.1)=false:=by
  rw [any_eq_false];intro x hx;have:=List.all_eq_true.mp hstar x hx;simpa using this
 have XC:=S.ok.KG
 obtain ⟨nm,qn,N',bs,bm,hdct,sn,sub,ab,col,dd,k0,k1,k2,k3,k5,hCG,em⟩:=fc XC mk.ecls.made
 rw [arm_exec_Raise]
 refine Zb (wpAny_standAt ?_)
 refine i8 (C:=C) (nm:=nm) (q:=qn) (N:=N') (bs:=bs) (bm:=bm) (hdct:=hdct) (sn:=sn) (sub:=sub) (ab:=ab) (col:=col) (dd:=dd) (k0:=k0) (k1:=k1) (k2:=k2) (k3:=k3) (k5:=k5) (bF em).2.1 ?_
 show wpAny _ _ (eval (.Call (.Name f p) es [] pos) c.env >>= fun v=>standAt p' >>= fun _=>pure v) _ _ s
 refine Zb ?_
 refine Zm (wpAny_Call_ofName (Q:=fun v s'=>_) ?_) (fun v s₃ h₃=>Zb (wpAny_standAt (Zp h₃))) fun _ _ x=>x
 refine bB S l n ?_
 refine (?_:wpAny _ _ (holding _ (evalArgs _ true _ _) >>= _) _ _ _)
 refine Zb (wpAny_holding ?_)
 refine br hstar ?_
 refine g.useS S fun vs s₁ as σ₁ r S₁ y q=>?_
 refine an4 q fun e1 hro hl5 q2=>?_
 clear q
 obtain rfl:=e1
 obtain ⟨w,a⟩|⟨fw,fa,eb,hX⟩:=(q2)
 refine Zb (wpAny_standAt ?_)
 obtain ⟨hh,gg,dr,tt,oo⟩:=s₁
 rw [hp]
 have hC:hh.get? C=_:=S₁.base _ _ hCG
 refine Zb (wpAny_keeperOf_exc hC ?_)
 have hlen:vs.length<=sizeLine:=by have:=r.length;exact Zt (by walk_at "o" : vs.length<=5) (by decide)
 refine Zb ?_
 show wpAny _ _ (call (.ref C) vs) _ _ _
 refine o4 (S₁.ok.KG.keeps S₁.base) mk.ecls.made mk.init mk.fn ?_ hlen
 have kp:∀ b o,hh.get? b=some o->((hh.push { cls:=.type "tuple",data:=.seq vs.toArray }).push (cT C hh.objs.size)).get? b=some o:=fun b o e=>Zu _ (Zu _ e)
 have he0:hh.get? (hh.objs.size+1)=none:=Heap.get?_none_of_le (Nat.le_succ _)
 have hget:((hh.push { cls:=.type "tuple",data:=.seq vs.toArray }).push (cT C hh.objs.size)).get? (hh.objs.size+1)=some (cT C hh.objs.size):=by heap_get
 have S₂:=S₁.ext kp
 have S₃:=S₂.add (a:=hh.objs.size+1) (o:=.exc C none #[.ref hh.objs.size,.none,.none,.none,.bool false,.none]) (.exc hget) (S₁.new_off he0)
 have y₃:Step c σ₁ ⟨hh,gg,dr,tt,oo⟩ (σ₁.set (hh.objs.size+1) (.exc C none #[.ref hh.objs.size,.none,.none,.none,.bool false,.none])) ⟨(hh.push { cls:=.type "tuple",data:=.seq vs.toArray }).push (cT C hh.objs.size),gg,dr,tt,oo⟩ :=
  (Step.ext (s:=⟨hh,gg,dr,tt,oo⟩) (t:=tt) kp).tell he0
 have hs1:σ₁ (hh.objs.size+1)=none:=S₁.none_of he0
 have lv':1<=(c.mk' C vs).lv:=by show 1<=c.lv - 1;walk_at "o"
 have w':=iB (c:=c.mk' C vs) (ρ:=ρ) (as₀:=.ref (hh.objs.size+1)::as) (as:=[.ref (hh.objs.size+1),w,a]) (Q:=fun x σ'=>x=.none/\InitDone C (hh.objs.size+1) w a σ₁ σ') (X:=NoX) lv' mk.fi mk.ok mk.hb mk.kinds
  (fun vs' s' r' b'=>eb (hh.objs.size+1) vs' s' r' b')
  (fun L=>(mk.run (c.mk' C vs) L σ₁ (hh.objs.size+1) hh.objs.size w a rfl rfl rfl rfl lv' hs1).mono (fun _ _ z=>⟨rfl,z⟩) (fun _ _ z=>z) fun _ _ _ z=>z)
  (.ref (hh.objs.size+1)::vs) ⟨(hh.push { cls:=.type "tuple",data:=.seq vs.toArray }).push (cT C hh.objs.size),gg,dr,tt,oo⟩ (S₃.mk' s!"o") (.cons (.ref _) (r.keep (aq kp)))
 refine wpAny_call (codeAny_mono w' fun rr s' z=>?_)
 rcases rr with e | (v | _ | _ | _)<;>first | exact z.elim | skip
 ·exact z.no.elim
 obtain ⟨x,σ',rx,S',y',z⟩:=z
 refine an2 z fun e1 z2=>?_
 clear z
 obtain rfl:=e1
 apply rx.none'
 obtain ⟨d,vs₁,m,hd0,hde,rfl,hw,ha,h1,h2,hsz⟩:=z2
 refine ⟨rfl,?_⟩
 refine Zb (wpAny_holding (wpAny_point (Zp ?_)))
 have S'':=S'.of_mk' S₁.ok
 have hye:=(y.trans y₃).trans y'.of_mk'
 have se:(((σ₁.set (hh.objs.size+1) (.exc C (some d) vs₁)).set d (.attrs ca m)) (hh.objs.size+1))=some (.exc C (some d) vs₁):=by
  rw [Zn (Ne.symm hde),Zs]
 have sd:(((σ₁.set (hh.objs.size+1) (.exc C (some d) vs₁)).set d (.attrs ca m)) d)=some (.attrs ca m):=Zs ..
 have ee:=S''.excAt se
 refine ⟨hh.objs.size+1,d,vs₁,rfl,S''.base _ _ hCG,ee,h1,hsz,?_,fun h' vs₂ hk he' hz hi hcalm=>?_⟩
 ·refine hro.imp id ?_
  intro r1z
  obtain ⟨e',C',d',vs'⟩|⟨q1,q2,q3⟩:=r1z
  have ne1:e'≠hh.objs.size+1:=by rintro rfl;rw [hs1] at q2;cases q2
  have ne2:e'≠d:=by rintro rfl;rw [hd0] at q2;cases q2
  refine ⟨e',_,vs',q1,ne1,S''.excAt (C:=C') (d:=d') (vs:=vs') (by rw [Zn ne2,Zn ne1];exact q2),rfl,q3⟩
 ·generalize hτ:(σ₁.set (hh.objs.size+1) (.exc C (some d) vs₁)).set d (.attrs ca m)=τ at *
  have le:∀ b o,σ₁ b=some o->τ b=some o/\b≠hh.objs.size+1/\b≠d:=fun b o q=>by
   have ne1:b≠hh.objs.size+1:=by rintro rfl;rw [hs1] at q;cases q
   have ne2:b≠d:=by rintro rfl;rw [hd0] at q;cases q
   exact ⟨by rw [<- hτ,Zn ne2,Zn ne1];exact q,ne1,ne2⟩
  have hse:s.heap.get? (hh.objs.size+1)=none:=by
   cases q:s.heap.get? (hh.objs.size+1) with
   | none=>rfl
   | some o=>have:=hye.grow _ o q hs1;rw [se] at this;cases this
  have hsd:s.heap.get? d=none:=by
   cases q:s.heap.get? d with
   | none=>rfl
   | some o=>have:=hye.grow _ o q hd0;rw [sd] at this;cases this
  have S4:=S''.upd se hk (.exc he')
  have y4:Step c τ s' (τ.set (hh.objs.size+1) (.exc C (some d) vs₂)) { s' with heap:=h' }:=Step.upd (t:=s'.toks) se hk (.exc he')
  have y5:=hye.trans y4
  have S5:St c ρ σ₁ h':=S4.less fun b o q=>by rw [Zn (le b o q).2.1];exact (le b o q).1
  have y6:Step c σ₁ s σ₁ { s' with heap:=h' }:=⟨y5.kept,y5.there,fun _ _ _ q=>q,y5.gens,y5.os⟩
  have off:=S''.off _ _ se
  have offd:=S''.off _ _ sd
  have hden:d∉((hh.objs.size+1)::c.frames):=by
   rw [mem_cons,not_or];exact ⟨hde,offd.2.2.1⟩
  have hfr:∀ b∈c.frames,c.G.get? b=none:=fun b hb=>(Heap.FunFrames.mem S.frames hb).1
  refine ⟨ρ,hh.objs.size+1,⟨C,w,a,c.A.handled.isNone⟩,σ₁,rfl,S5,y6,⟨none,hid h' ((hh.objs.size+1)::c.frames),fun b=>b=hh.objs.size+1,⟨fun b o q=>?_,fun b o q=>?_,?_,fun b o q=>pY q,fun b hb=>nq (.tail _ hb),rfl,?_,?_⟩,.inl rfl⟩,hX _ fun z=>by rw [S.ok.hd z];rfl⟩
  ·rw [gV]
   ·exact S5.base b o q
   ·rw [mem_cons,not_or]
    exact ⟨(by rintro rfl;rw [off.1] at q;cases q),fun z=>by rw [hfr b z] at q;cases q⟩
  ·by_cases z:b=hh.objs.size+1
   ·exact .inr (.inr z)
   ·by_cases z2:b∈c.frames
    ·exact .inl z2
    ·refine .inr (.inl ?_)
     rw [gV];exact q
     rw [mem_cons,not_or];exact ⟨z,z2⟩
  ·rintro b rfl
   exact ⟨hse,nq (.head _),hs1,off.2⟩
  ·rintro b o rfl q
   rw [he'] at q;cases q
   intro z;cases z
  ·cases S4.obj d (.attrs ca m) (by rw [Zn hde];exact sd) with
   | @attrs _ _ m' n' wn rr =>
    have hw':=rr "what"
    have ha':=rr "at"
    rw [hw] at hw';rw [ha] at ha'
    obtain ⟨v1⟩|⟨e1,r1⟩:=hw'
    obtain ⟨v2⟩|⟨e2,r2⟩:=ha'
    refine ⟨_,vs₂,d,m',he',rfl,⟨rfl,rfl⟩,rfl,⟨by walk_at "o",fun z=>by rw [hcalm (by simpa using z)];exact h2⟩,⟨n'.at fun o q=>by rw [gV hden];exact q,wn,hsd,hd0⟩,⟨v1,e1,r1.flat fw⟩,⟨v2,e2,r2.flat fa⟩,?_⟩
    exact (hi 1 (by decide)).trans h1
end
def Cx.hand (c:Cx) (e:Addr):Cx:={ c with A:=c.A.mark (some (.ref e)),calm:=false }
section
variable {c:Cx}{ρ ρ':List NV}{σ σ₀ σ₁ σ' τ:AState}{h h' B:Heap}{s s₀ s₁ s₂ s':Shared}{Q:AVal->AState->Prop}{X:AExc->AState->Prop}
theorem St.hand {e:Addr} (S:St c ρ σ h):St (c.hand e) ρ σ h :=
 ⟨⟨S.ok.fr,(fun z=>by cases z),S.ok.gd,S.ok.depth,S.ok.units,S.ok.kind,S.ok.glob,S.ok.blt,S.ok.KG,S.ok.lim,S.ok.bg,S.ok.sm,S.ok.locIn,S.ok.cells,S.ok.cellsOff,S.ok.cellsOf,S.ok.fnEnv,S.ok.fnOwn,S.ok.nodup,S.ok.tame⟩,
  S.base,S.frames,S.names,S.locs,S.cellsAt,S.vars,S.obj,S.off,S.ownNew⟩
theorem St.unhand {e:Addr} (ok:c.Ok) (S:St (c.hand e) ρ σ h):St c ρ σ h:=⟨ok,S.base,S.frames,S.names,S.locs,S.cellsAt,S.vars,S.obj,S.off,S.ownNew⟩
theorem Step.hand {e:Addr} (y:Step c σ s σ' s'):Step (c.hand e) σ s σ' s':=⟨y.kept,y.there,y.grow,y.gens,y.os⟩
theorem Step.unhand {e:Addr} (y:Step (c.hand e) σ s σ' s'):Step c σ s σ' s':=⟨y.kept,y.there,y.grow,y.gens,y.os⟩
theorem Flies.hand {e a:Addr}{x:AExc}{fl:Option Value}{P:Addr->Prop} (F:Flies c σ s a x fl h B P):Flies (c.hand e) σ s a x fl h B P:=⟨F.base,F.all,F.new,F.stays,F.off,F.own,F.noTup,F.here⟩
theorem Flies.unhand {e a:Addr}{x:AExc}{fl:Option Value}{P:Addr->Prop} (F:Flies (c.hand e) σ s a x fl h B P):Flies c σ s a x fl h B P:=⟨F.base,F.all,F.new,F.stays,F.off,F.own,F.noTup,F.here⟩
theorem r4 {N:List NV->AState->Prop}{R:AVal->AState->Prop}{XS:AExc->List NV->AState->Prop}{body hb:List Stmt}{b₀:Stmt}{f:Str}{pf pos p:Pos}{C:Addr}
  (hf:c.fn=true) (l:∀ ρ',ρ'.map (fun e=>(e.name,e.kind))=ρ.map (fun e=>(e.name,e.kind))->LookG ρ' f) (n:nsIn c.K mainGlobals f=some (some (.ref C))) (eo:EClsOk c.K C)
  (g:WSs c ρ body σ N R (fun x ρ' σ'=>x.cls=C/\∀ e,WSs (c.hand e) ρ' (b₀::hb) σ' N R NoXS)) :
  WS c ρ (.Try body [.ExceptHandler (some (.Name f pf)) none (b₀::hb) pos] [] [] p) σ N R XS:=fun s S=>by
 obtain ⟨nm,qn,N',bs,bm,hdct,sn,sub,ab,col,dd,k0,k1,k2,k3,k5,hCG,em⟩:=fc S.ok.KG eo.made
 refine wpAny_Try_except (Zm (g s S) (fun fl s₁ q=>?_) fun v s₁ q=>?_)
 ·cases fl with
  | next=>exact Zp q
  | _=>exact q
 obtain ⟨ρ₁,e,x,σ₁,rfl,S₁,y,⟨fl,B,P,F,hfl⟩,hx,hw⟩:=q
 obtain ⟨L⟩|⟨hL,_⟩:=(S₁.frameL hf)
 refine cu S₁ hf F y hL hfl fun s₂ B₂ P₂ S₂ y₂ F₂=>?_
 refine bt S₂ F₂ y₂ fun s₃ S₃ y₃ F₃=>?_
 obtain ⟨oe,vs,d,m,he,hcls,hrest⟩:=F₃.here
 refine wpAny_handleBy_cons (codeAny_handlers_test ?_) (by intro q;cases q)
 refine bB (c:=c.hand e) (S₃.hand (e:=e)) (l ρ₁ (S₃.names.trans S.names.symm)) n ?_
 obtain ⟨hh,gg,dr,tt,oo⟩:=s₃
 refine wpAny_excMatches_sub_self (S₃.base _ _ hCG) he (hcls.trans (by rw [hx])) (bF em).2.1 ?_
 refine codeAny_handlers_suite ?_
 refine bt (c:=c.hand e) S₃.hand F₃.hand y₃.hand fun s₄ S₄ y₄ F₄=>?_
 refine Zm (hw e s₄ S₄) (fun fl s₅ q=>?_) fun v s₅ q=>q.no.elim
 obtain ⟨ρ₅,σ₅,S₅,y₅,q⟩:=q
 exact ⟨ρ₅,σ₅,S₅.unhand S.ok,(y₄.trans y₅).unhand,q⟩
end
section
variable {prog:Program}{w:World}{A:Around}{E:Value->Shared->Prop}{s:Shared}{K:Frag}{x C:Addr}{ox:Obj}{od:Option Obj}{name:Str}{expr:Bool}{Q:Value->Shared->Prop}
theorem oU {M:Model}{nameV:Value}{Q:Unit->Shared->Prop}{nm qn:Str}{N:Addr}{bs bm:List Value}{hdct:Bool}{sn:List Str}{sub:List Value}{ab:Bool}{col:Option Bool}{dd:Option Addr}{k0 k1 k2 k3 k5:Option Value}
  {hp:Heap}{g:Array GenState}{d:Drawn}{t:Nat}{os:OsState}
  (hC:hp.get? C=some (excClassObj nm qn C N bs bm hdct sn sub ab col dd k0 k1 k2 k3 k5 "Exception.__new__")) (em:b5 bm=true)
  (hox:hp.get? x=some ox) (hoc:ox.cls=.ref C) (hq:Q () ⟨hp,g,d,t,os⟩):wpAny M A (checkBuiltinCall "BaseException.__getattribute__" ⟨[.ref x,nameV],[]⟩) Q E ⟨hp,g,d,t,os⟩:=by
 have hk:builtinKind "BaseException.__getattribute__" = some .slot:=by decide +kernel
 have hsplit:splitId "BaseException.__getattribute__" = some ("BaseException", "__getattribute__"):=by decide +kernel
 have hcB:(Value.ref C::bm).contains (.type "BaseException")=true:=by rw [contains_cons,(bF em).2.1,Bool.or_true]
 have ha:=PySem.F.args_bexc_ga (.ref x) nameV
 unfold checkBuiltinCall
 rw [hk,hsplit]
 refine Zb ?_
 ·unfold isInstance
  repeat (first | (with_reducible refine wpAny_loadPart_at hox ?_;rw [hoc]) | with_reducible refine bY hC hcB ?_ | wp_step)
  exact hq
theorem nc {v:Value} (X:K.In s.heap) (I:InstAt s.heap x ox C od) (eo:EClsOk K C)
  (hf:findObj K C od name=some (.value v)) (hh:handedIn v=true) (h:Q v { s with toks:=s.toks+1 }):wpAny (model prog w) A (getAttr (.ref x) name expr) Q E s:=by
 obtain ⟨nm,qn,N,bs,bm,hdct,sn,sub,ab,col,ddd,k0,k1,k2,k3,k5,hC,em⟩:=fc X eo.made
 have FB:=PySem.F.attr_Exception
 obtain ⟨hp,g,d,t,os⟩:=s
 have L0:=I.type (M:=model prog w)
 have L1:=looks_findIn (M:=model prog w) X eo.get
 have L2:=looks_findIn (M:=model prog w) X eo.hook
 have L3:=looks_find (M:=model prog w) X I hf
 have hx0:(expr && onTheHeap (Value.builtin "BaseException.__getattribute__"))=false:=by cases expr<;>rfl
 unfold getAttr getAttrBy
 refine Zb (wpAny_mkText (wpAny_holding (Zb (L0.at (Zb (L1.at ?_))))))
 dsimp only
 rw [if_neg (by rw [show (Value.builtin "BaseException.__getattribute__" == Value.builtin "object.__getattribute__")=false from by decide +kernel,Bool.and_false];decide)]
 unfold getAttrByItsOwn hookBefore callGetattribute boundAndCalled
 rw [if_pos (by rfl)]
 refine Zb (L2.at ?_)
 rw [hx0]
 dsimp only
 rw [if_neg (by decide),FB.ga.bind (.ref x)]
 refine Zb (wpAny_attempt (wpAny_holding (Zb (Zp ?_))))
 refine wpAny_call (codeAny_call_builtin FB.ga.plain PySem.F.entry_bexc_ga ?_)
 refine oU hC em I.at_ I.cls ?_
 unfold Builtin.«object.__getattribute__»
 refine Zb (Zp (Zb (Zp (Zb (L0.at (Zb (L3.at ?_)))))))
 refine Zp ?_
 show wpAny _ _ (handedOut v) _ _ _
 rw [handedOut_of hh];exact Zp h
end
section
variable {c:Cx}{ρ ρ':List NV}{σ σ₀ σ₁ σ' τ:AState}{h h' B:Heap}{s s₀ s₁ s₂ s':Shared}{Q:AVal->AState->Prop}{X:AExc->AState->Prop}
inductive XAttr (c:Cx) (x:Str) (Q:AVal->AState->Prop) (a:AVal) (σ₁:AState):Prop
 | mk (o C d:Addr) (vs:Array Value) (ns:List Str) (m:Str->Option AVal) (v:AVal) (e1:a=.ref o) (h1:σ₁ o=some (.exc C (some d) vs)) (h2:σ₁ d=some (.attrs ns m)) (h3:m x=some v) (h4:EClsOk c.K C) (h5:findIn c.K (.ref C) x=some none) (h6:Q v σ₁)
theorem ev_attrE {e:Expr}{x:Str}{p:Pos} (g:Ev c ρ e σ (XAttr c x Q) X)
  (hbase:attributeBase e x c.env (eval e c.env)=eval e c.env:=by walk_at "u"):Ev c ρ (.Attribute e x p) σ Q X:=fun s S=>by
 rw [arm_eval_Attribute,hbase]
 refine Zb (g.use S fun v s₁ a σ₁ r S₁ y q=>?_)
 obtain ⟨o,C,d,vs,ns,m,w,rfl,ho,hd,hm,ok,hf,q⟩:=q
 apply r.ref'
 refine (S₁.obj d _ hd).attrs' fun m' n wn rr=>?_
 obtain ⟨od⟩|⟨eo,lk⟩:=(fW n.ns)
 have I':InstAt s₁.heap o { cls:=.ref C,dict:=some d,data:=.fields vs } C (some od):=⟨S₁.excAt ho,rfl,rfl,eo⟩
 have hy:=rr x
 rw [hm] at hy
 obtain ⟨w'⟩|⟨hw',rw'⟩:=hy
 obtain ⟨cd⟩|⟨hcd,hdict⟩:=(any_some ok.over)
 rw [Bool.and_eq_true] at hdict
 have hfo:findObj c.K C (some od) x=some (.value w'):=by
  have e1:W.ownOf cd (some od) x=some (some w'):=(if_pos hdict.1).trans ((lk x).trans (congrArg some hw'))
  unfold findObj
  rw [hcd,hf]
  show (W.ownOf cd (some od) x).bind _=_
  rw [e1];rfl
 refine Zb (wpAny_standAt (Zb (wpAny_holding (nc (S₁.ok.KG.keeps S₁.base) I' ok hfo rw'.handed (Zb (wpAny_letTemporaryGo (Zp ?_)))))))
 exact ⟨w,σ₁,rw',S₁,y.toks,q⟩
end
section
variable {c:Cx}{ρ ρ':List NV}{σ σ₀ σ₁ σ' τ:AState}{h h' B:Heap}{s s₀ s₁ s₂ s':Shared}{Q:AVal->AState->Prop}{X:AExc->AState->Prop}
theorem Flies.told {e:Addr}{x:AExc}{fl:Option Value}{P:Addr->Prop} (S₀:St c ρ' σ₀ s₀.heap) (S:St c ρ σ s.heap) (F:Flies c σ s₀ e x fl s.heap B P) (y:Step c σ₀ s₀ σ s) (hfr:x.fresh=true) :
  ∃ d vs m,σ e=none/\σ d=none/\e≠d/\vs[2]?=some .none/\m "what" = some x.what/\m "at" = some x.at_/\St c ρ ((σ.set e (.exc x.cls (some d) vs)).set d (.attrs ca m)) s.heap/\Step c σ₀ s₀ ((σ.set e (.exc x.cls (some d) vs)).set d (.attrs ca m)) s:=by
 obtain ⟨oe,vs,d,m,he,hcls,⟨hdict,hslots⟩,hdat,⟨hsz,hfv⟩,⟨n,wn,hd0,hσd⟩,⟨v1,e1,r1⟩,⟨v2,e2,r2⟩,_⟩:=F.here
 refine an4 (F.new e F.own) fun he0 hBe hσe hoff=>?_
 obtain ⟨c0,d0,dt,sl⟩:=oe
 dsimp only at hcls hdict hslots hdat
 subst hcls hdict hslots hdat
 have hne:e≠d:=by rintro rfl;refine ex3 n fun o _ _ h1z=>?_;(try clear n);refine an2 h1z fun q _=>?_;clear h1z;rw [hBe] at q;cases q
 have hdf:d∉c.frames:=fun z=>by refine ex3 n fun o _ _ h2z=>?_;(try clear n);refine an2 h2z fun q _=>?_;clear h2z;rw [F.off d z] at q;cases q
 have hGe:∀ b,s₀.heap.get? b=none->c.G.get? b=none:=fun b q=>by
  cases z:c.G.get? b with
  | none=>rfl
  | some o=>have:=S₀.base b o z;rw [q] at this;cases this
 have offd:c.G.get? d=none/\d∉c.own/\d∉c.frames/\∀ x∈c.env.cells,d≠x.2:=by
  refine ⟨hGe d hd0,fun z=>?_,hdf,?_⟩
  ·obtain ⟨_,o,q,_⟩:=S₀.ownNew d z;rw [hd0] at q;cases q
  ·rintro x hx rfl
   obtain ⟨v,o⟩|⟨q,_⟩:=(S₀.cellsAt x hx)
   rw [hd0] at q;cases q
 have kB:TupKept B s.heap:=aq F.stays
 have S1:=S.add (a:=e) (o:=.exc x.cls (some d) vs) (.exc he) ⟨hGe e he0,hoff⟩
 have S2:=S1.add (a:=d) (o:=.attrs ca fun y=>if y = "what" then some x.what else if y = "at" then some x.at_ else none) (.attrs (m':=m) (n.at fun o q=>F.stays d o q) wn fun y=>by
   by_cases z1:y = "what"
   ·subst z1;rw [if_pos rfl];exact ⟨v1,e1,r1.keep kB⟩
   ·rw [if_neg z1]
    by_cases z2:y = "at"
    ·subst z2;rw [if_pos rfl];exact ⟨v2,e2,r2.keep kB⟩
    ·rw [if_neg z2]
     show m y=none
     cases q:m y with
     | none=>rfl
     | some v =>
      have:=wn y (by rw [q];simp)
      unfold ca at this
      rw [mem_cons,mem_singleton] at this
      rcases this with rfl | rfl
      ·exact absurd rfl z1
      ·exact absurd rfl z2) offd
 exact ⟨d,vs,_,hσe,hσd,hne,hfv hfr,if_pos rfl,(if_neg (by decide)).trans (if_pos rfl),S2,(y.tell he0).tell hd0⟩
theorem o6 {N:List NV->AState->Prop}{R:AVal->AState->Prop}{XS:AExc->AState->Prop}{body hb:List Stmt}{b₀:Stmt}{f nm':Str}{pf pos p:Pos}{C:Addr}
  (hf:c.fn=true) (l:∀ ρ',ρ'.map (fun e=>(e.name,e.kind))=ρ.map (fun e=>(e.name,e.kind))->LookG ρ' f) (n:nsIn c.K mainGlobals f=some (some (.ref C))) (eo:EClsOk c.K C)
  (ln:∀ ρ',ρ'.map (fun e=>(e.name,e.kind))=ρ.map (fun e=>(e.name,e.kind))->∀ v,∃ ρ₂,Put ρ' nm' v ρ₂) (hk:c.env.kindOf nm'=some .local) (hloc:c.fenv.frame=some c.env.locals)
  (g:WSs c ρ body σ N R (fun x ρ' σ'=>x.cls=C/\x.fresh=true/\∀ e d vs m ρ₂,σ' e=none->σ' d=none->e≠d->vs[2]?=some .none->m "what" = some x.what->m "at" = some x.at_->Put ρ' nm' (.ref e) ρ₂ ->
   WSs (c.hand e) ρ₂ (b₀::hb) ((σ'.set e (.exc C (some d) vs)).set d (.attrs ca m)) (fun _ _=>False) (fun _ _=>False) (fun x _ σ''=>XS x σ''))) :
  WS c ρ (.Try body [.ExceptHandler (some (.Name f pf)) (some nm') (b₀::hb) pos] [] [] p) σ N R (fun x _ σ'=>XS x σ'):=fun s S=>by
 obtain ⟨nm,qn,N',bs,bm,hdct,sn,sub,ab,col,dd,k0,k1,k2,k3,k5,hCG,em⟩:=fc S.ok.KG eo.made
 refine wpAny_Try_except (Zm (g s S) (fun fl s₁ q=>?_) fun v s₁ q=>?_)
 ·cases fl with
  | next=>exact Zp q
  | _=>exact q
 obtain ⟨ρ₁,e,x,σ₁,rfl,S₁,y,⟨fl,B,P,F,hfl⟩,hx,hfr,hw⟩:=q
 obtain ⟨L⟩|⟨hL,_⟩:=(S₁.frameL hf)
 refine cu S₁ hf F y hL hfl fun s₂ B₂ P₂ S₂ y₂ F₂=>?_
 refine bt S₂ F₂ y₂ fun s₃ S₃ y₃ F₃=>?_
 obtain ⟨oe,vs,d,m,he,hcls,hrest⟩:=F₃.here
 refine wpAny_handleBy_cons (codeAny_handlers_test ?_) (by intro q;cases q)
 refine bB (c:=c.hand e) (S₃.hand (e:=e)) (l ρ₁ (S₃.names.trans S.names.symm)) n ?_
 obtain ⟨hh,gg,dr,tt,oo⟩:=s₃
 refine wpAny_excMatches_sub_self (S₃.base _ _ hCG) he (hcls.trans (by rw [hx])) (bF em).2.1 ?_
 refine codeAny_handlers_suite_as ?_
 refine bt (c:=c.hand e) S₃.hand F₃.hand y₃.hand fun s₄ S₄ y₄ F₄=>?_
 obtain ⟨d,vs,m⟩|⟨q1,q2,q3,q4,q5,q6,S₅,y₅⟩:=(F₄.told (c:=c.hand e) S.hand S₄ y₄ hfr)
 obtain ⟨ρ₂,hput⟩:=ln ρ₁ (S₃.names.trans S.names.symm) (.ref e)
 refine bc (c:=c.hand e) S₅ hput (.ref e) (.inl hf) fun s₅ S₆ y₆=>?_
 have hw':=hw e d vs m ρ₂ q1 q2 q3 q4 q5 q6 hput
 rw [<- hx] at hw'
 refine Zm (hw' s₅ S₆) (fun fl s₆ q=>?_) fun v s₆ q=>?_
 ·obtain ⟨ρ₆,σ₆,S₇,_,q⟩:=q
  cases fl<;>first | exact q.elim | (refine ex1 q fun _ h6z=>?_;(try clear q);refine an2 h6z fun _ q=>?_;clear h6z;exact q.elim)
 obtain ⟨ρ₆,e2,x2,σ₆,rfl,S₇,y₇,⟨fl',B',P',F',hfl'⟩,hX⟩:=q
 refine cu (c:=c.hand e) S₇ hf F' y₇ hL hfl' fun s₇ B₇ P₇ S₈ y₈ F₈=>?_
 obtain ⟨mm,hn⟩:=S₈.locs
 have hlf:c.env.locals∈c.frames:=by unfold Cx.frames;rw [filterMap_cons,hloc];exact .head _
 have hlo:c.env.locals∈c.own:=S.ok.locIn
 refine wpAny_nameGoes (env:=c.env) hk hn (by rw [S.ok.kind];rfl) fun h' m' n' sb=>?_
 have clne:∀ x∈c.env.cells,x.2≠c.env.locals:=S.ok.cellsOff
 have S₉:St (c.hand e) (ρ₆.map fun e=>{ e with val:=none }) σ₆ h':=by
  obtain ⟨o',es,ep⟩|⟨ho',hd',hrest'⟩:=(id n')
  refine S₈.turn hlo sb ⟨o',ho',(fun vs q=>by rw [hd'] at q;cases q),fun xs n q=>by rw [hd'] at q;cases q⟩ ?_ ⟨m',n'⟩ (fun x hx=>?_) fun _ e he a ha=>?_
  ·rw [map_map];rfl
  ·obtain ⟨v,o⟩|⟨q,d⟩:=(S₈.cellsAt x hx)
   exact ⟨v,o,(sb.2 _ (clne x hx)).trans q,d⟩
  ·obtain ⟨e0⟩|⟨_,rfl⟩:=(ZM he)
   cases ha
 have y₉:Step (c.hand e) σ₆ s₇ σ₆ { s₇ with heap:=h',toks:=s₇.toks+1 }:=by
  obtain ⟨o',es,ep⟩|⟨ho',_⟩:=(id n')
  exact Step.turn hlo sb ⟨o',ho'⟩
 have ne:∀ b,b∉c.frames->b≠c.env.locals:=fun b q z=>q (z ▸ hlf)
 have F₉:Flies (c.hand e) σ₆ s₅ e2 x2 (some (rawInt L)) h' B₇ P₇:=by
  refine ⟨F₈.base,fun b o q=>?_,F₈.new,fun b o q=>?_,F₈.off,F₈.own,fun b o hb q=>?_,?_⟩
  ·by_cases z:b=c.env.locals
   ·exact .inl (z ▸ hlf)
   ·exact F₈.all b o ((sb.2 b z).symm.trans q)
  ·exact (sb.2 b fun z=>by rw [z,F₈.off _ hlf] at q;cases q).trans (F₈.stays b o q)
  ·exact F₈.noTup b o hb ((sb.2 b (ne b (F₈.new b hb).2.2.2.2.1)).symm.trans q)
  ·obtain ⟨oe,vs,d,m,he,h2,h3,h4,h5,h6,h7,h8,T,oT,ts,t1,t2,t3,t4,t5⟩:=F₈.here
   exact ⟨oe,vs,d,m,(sb.2 _ (ne _ (F₈.new e2 F₈.own).2.2.2.2.1)).trans he,h2,h3,h4,h5,h6,h7,h8,T,oT,ts,t1,t2,t3,(sb.2 _ (ne _ (F₈.new T t2).2.2.2.2.1)).trans t4,t5⟩
 have y₁₀:=y₈.trans y₉
 unfold PySem.passOn
 refine F₉.here.tr fun oe' vs' T he' hdat' h1=>?_
 refine Zb (wpAny_field he' hdat' h1 ?_)
 rw [if_neg (by simp)]
 have hfr':c.env.frame=some L:=by rw [S.ok.fnEnv hf,hL]
 rw [hfr']
 refine Zb (bt (c:=c.hand e) S₉ F₉ y₁₀ fun s₁₁ S₁₁ y₁₁ F₁₁=>?_)
 refine wpAny_throw ?_
 unfold notedBy
 refine cu (c:=c.hand e) S₁₁ hf F₁₁ y₁₁ hL (.inr (.inr ⟨L,hL,rfl⟩)) fun s₁₂ B₁₂ P₁₂ S₁₂ y₁₂ F₁₂=>?_
 unfold cameBackBy
 refine F₁₂.here.tr fun oe2 vs2 T2 he2 hdat2 h12=>?_
 refine Zb (wpAny_field he2 hdat2 h12 ?_)
 rw [if_neg (by simp),hfr']
 refine bt (S₁₂.unhand S.ok) F₁₂.unhand y₁₂.unhand fun s₁₃ S₁₃ y₁₃ F₁₃=>?_
 have yy:=(y₅.trans y₆).unhand
 exact ⟨_,e2,x2,σ₆,rfl,S₁₃,yy.trans y₁₃,Flown.older ⟨_,_,_,F₁₃,.inr (.inr ⟨L,hL,rfl⟩)⟩ yy.there,hX⟩
end
abbrev pw:Program:=PySem.Challenge.pw_no0389_02
noncomputable def topS (i:Nat):Stmt:=pw.main.body.getD i (.Pass ⟨0,0,0,0⟩)
noncomputable def sB (s:Stmt) (j:Nat):Stmt:=match s with
 | .ClassDef _ _ _ b ..=>b.getD j (.Pass ⟨0,0,0,0⟩)
 | _=>s
noncomputable def subS (i j:Nat):Stmt:=sB (topS i) j
noncomputable def gc (s:Stmt):List Stmt:=match s with
 | .FunctionDef _ _ b ..=>b
 | _=>[]
noncomputable def q7 (s:Stmt):Scope:=match s with
 | .FunctionDef _ _ _ _ _ _ sc ..=>sc
 | _=>default
noncomputable def sr (s:Stmt):Arguments:=match s with
 | .FunctionDef _ a ..=>a
 | _=>default
noncomputable def sk (s:Stmt):Str:=match s with
 | .FunctionDef n ..=>n
 | _=>default
noncomputable def fdOf (s:Stmt) (q:Str) (d:Value) (m:Str) (t code:Nat):FuncData :=
 { name:=sk s,qualname:=q,params:=sr s,body:=.stmts (gc s),scope:=q7 s,globals:=3,closure:=[],defaults:=d,kwdefaults:=.none,pyModule:=.str m t,code:=.ref code }
noncomputable def fnO (f:FuncData):Obj:=⟨.type "function",none,.func f,#[]⟩
noncomputable def cdO (n q:Str) (t l a:Nat) (r s v u:Nat):Obj:={ cls:=.type "code",data:=.fields #[.str n t,.str q (t+1),.str "/claim/cut.py" (t+2),.int l 0,.int a 0,.int 0 0,.int 0 0,.int 3 0,.ref r,.bool true,.int 181 0,.ref s,.none,.ref v,.ref (v+1),.ref (v+2),.int u 0,.int l 0,.str "/claim/cut.py" (u+1)] }
noncomputable def cdC (n q:Str) (t l a r u:Nat):Obj:={ cls:=.type "code",data:=.fields #[.str n t,.str q (t+1),.str "/claim/cut.py" (t+2),.int l 0,.int a 0,.int 0 0,.int 0 0,.int 3 0,.ref r,.bool true,.int 181 0,.ref (r+1),.none,.none,.none,.ref (r+2),.int u 0,.int l 0,.str "/claim/cut.py" (u+1)] }
noncomputable def en (P:Params) (k:Str) (t:Nat) (v:Value):DictEntry:={ hash:=PyData.keyHash P k,key:=.str k t,val:=v }
noncomputable def o2 (P:Params):Obj:={ cls:=Value.none,data:=Data.dict #[en P "type.__subclasses__.Exception.0" 225 (.int 39 0),en P "type.__subclasses__.Exception.n" 226 (.int 1 0)] 2 }
noncomputable def o3 (P:Params):Obj:={ cls:=Value.type "dict",data:=Data.dict #[en P "__name__" 165 (.str "law_no0389_02" 892),en P "__doc__" 166 .none,en P "__package__" 167 .none,en P "__loader__" 168 (.builtin "__main__.__loader__#opaque"),en P "__spec__" 169 .none,en P "__annotations__" 170 (.ref 6),en P "__builtins__" 171 (.ref 4),en P "__file__" 173 (.str "/claim/cut.py" 172),en P "__cached__" 174 .none,en P "PostError" 228 (.ref 39),en P "NameFault" 244 (.ref 52),en P "StoreFault" 260 (.ref 64),en P "SYSTEM" 264 (.str "\\Seen \\Answered \\Flagged \\Deleted \\Draft" 263),{ hash:=PyData.keyHash P (Str.ofString "NO_KEYWORD"),key:=Value.str (Str.ofString "NO_KEYWORD") 266,val:=Value.str (Str.ofString "(){ %*\"\\]") 265 },en P "MOST_KEYWORD" 268 (.int 60 267),en P "system_flags" 274 (.ref 73),en P "is_keyword" 282 (.ref 80),en P "flag_name" 290 (.ref 87),en P "flag_tuple" 300 (.ref 94),en P "Letter" 352 (.ref 125),en P "Box" 409 (.ref 163),en P "remade" 415 (.ref 172),en P "place_of" 426 (.ref 179),en P "raised" 433 (.ref 186),en P "add_letter" 445 (.ref 193),en P "set_flags" 457 (.ref 200),en P "flags_after" 463 (.ref 205),en P "expunge" 469 (.ref 210),en P "copy_letters" 475 (.ref 215),en P "move_letters" 481 (.ref 220),en P "is_sound" 487 (.ref 225),en P "is_refused" 497 (.ref 232),en P "store_flags" 503 (.ref 238),en P "distinct" 512 (.ref 245),en P "forget_gone" 518 (.ref 250),en P "upper_text" 526 (.ref 255),en P "DELIMITER" 530 (.str "/" 529),en P "INBOX_names" 532 (.str "INBOX" 531),en P "WILD_SIGNS" 534 (.str "%*" 533),en P "is_half" 541 (.ref 262),en P "first_part" 549 (.ref 269),en P "normal_name" 558 (.ref 276),en P "is_barred_code" 565 (.ref 283),en P "check_name" 575 (.ref 290),en P "is_below" 583 (.ref 297),en P "INBOX_store" 587 (.str "INBOX" 586),en P "MOST" 589 (.int 4294967295 588),en P "MOST_MODSEQ" 591 (.int 9223372036854775807 590),en P "SHAPES" 593 (.str "create:tn delete:t rename:tt append:tfno flags:tnf store:tutfn expunge:tu copy:tut move:tut subscribe:t unsubscribe:t forget:tn snapshot:nfr" 592),en P "Store" 653 (.ref 340),en P "is_number" 660 (.ref 351),en P "are_texts" 666 (.ref 356),en P "are_numbers" 672 (.ref 361),en P "fits_shape" 680 (.ref 368),en P "check_row" 692 (.ref 375),en P "settled_name" 701 (.ref 382),en P "need_modseqs" 709 (.ref 389),en P "need_room" 717 (.ref 396),en P "need_new" 725 (.ref 403),en P "need_validity" 733 (.ref 410),en P "need_uids" 739 (.ref 415),en P "create_box" 749 (.ref 422),en P "delete_box" 758 (.ref 429),en P "renamed_pairs" 770 (.ref 436),en P "rename_box" 776 (.ref 441),en P "rename_inbox" 786 (.ref 448),en P "append_letter" 799 (.ref 455),en P "flag_letter" 810 (.ref 462),en P "store_letters" 823 (.ref 469),en P "expunge_letters" 833 (.ref 476),en P "copy_or_move" 839 (.ref 481),en P "subscribe_name" 848 (.ref 488),en P "unsubscribe_name" 854 (.ref 493),en P "is_letter_told" 861 (.ref 500),en P "is_box_told" 867 (.ref 505),en P "need_sound" 876 (.ref 512),en P "restore" 882 (.ref 517),en P "apply" 891 (.ref 524),en P "_law_box" 899 (.ref 529),en P "_law_draw" 909 (.ref 536),en P "_law_name" 916 (.ref 543),en P "_law_flags" 922 (.ref 548),en P "_law_uids" 928 (.ref 553),en P "_law_deed" 934 (.ref 558),en P "_law_fresh" 940 (.ref 563),en P "_law_alive" 946 (.ref 568),en P "law" 952 (.ref 573)] 87 }
noncomputable def o22:Obj:={ cls:=Value.type "tuple",data:=Data.seq #[Value.int (-1) 202] }
noncomputable def fd29:FuncData:=fdOf (subS 1 0) "PostError.__init__" (.ref 22) "postkeep.errors" 187 28
noncomputable def fd36:FuncData:=fdOf (subS 1 1) "PostError.told" .none "postkeep.errors" 187 35
noncomputable def o38 (P:Params):Obj:={ cls:=Value.type "dict",data:=Data.dict #[en P "__module__" 196 (.str "postkeep.errors" 187),en P "__firstlineno__" 200 (.int 2 199),en P "__init__" 211 (.ref 29),en P "told" 218 (.ref 36),en P "__static_attributes__" 221 (.ref 37),en P "__weakref__" 223 (.ref 40),en P "__doc__" 224 .none] 3 }
noncomputable def o39:Obj:={ cls:=Value.type "type",data:=Data.cls { name:=Str.ofString "PostError",bases:=[Value.type "Exception"],mro:=[Value.ref 39,Value.type "Exception",Value.type "BaseException",Value.type "object"],ns:=38,qualname:=Str.ofString "PostError",subclasses:=[Value.ref 52,Value.ref 64] },slots:=#[some (Value.ref 15),none,some (Value.str (Str.ofString "PostError") 189),some (Value.str (Str.ofString "PostError") 197),some (Value.builtin "Exception.__new__"),some (Value.bool true)] }
noncomputable def o51 (P:Params):Obj:={ cls:=Value.type "dict",data:=Data.dict #[en P "__module__" 236 (.str "postkeep.errors" 187),en P "__firstlineno__" 240 (.int 11 239),en P "__static_attributes__" 241 (.ref 50),en P "__doc__" 242 .none] 2 }
noncomputable def o52:Obj:={ cls:=Value.type "type",data:=Data.cls { name:=Str.ofString "NameFault",bases:=[Value.ref 39],mro:=[Value.ref 52,Value.ref 39,Value.type "Exception",Value.type "BaseException",Value.type "object"],ns:=51,qualname:=Str.ofString "NameFault" },slots:=#[some (Value.ref 43),none,some (Value.str (Str.ofString "NameFault") 229),some (Value.str (Str.ofString "NameFault") 237),some (Value.builtin "Exception.__new__"),some (Value.bool true)] }
noncomputable def o63 (P:Params):Obj:={ cls:=Value.type "dict",data:=Data.dict #[en P "__module__" 252 (.str "postkeep.errors" 187),en P "__firstlineno__" 256 (.int 13 255),en P "__static_attributes__" 257 (.ref 62),en P "__doc__" 258 .none] 2 }
noncomputable def o64:Obj:={ cls:=Value.type "type",data:=Data.cls { name:=Str.ofString "StoreFault",bases:=[Value.ref 39],mro:=[Value.ref 64,Value.ref 39,Value.type "Exception",Value.type "BaseException",Value.type "object"],ns:=63,qualname:=Str.ofString "StoreFault" },slots:=#[some (Value.ref 55),none,some (Value.str (Str.ofString "StoreFault") 245),some (Value.str (Str.ofString "StoreFault") 253),some (Value.builtin "Exception.__new__"),some (Value.bool true)] }
noncomputable def fd73:FuncData:=fdOf (topS 8) "system_flags" .none "postkeep.boxes" 261 72
noncomputable def fd80:FuncData:=fdOf (topS 9) "is_keyword" .none "postkeep.boxes" 261 79
noncomputable def fd87:FuncData:=fdOf (topS 10) "flag_name" .none "postkeep.boxes" 261 86
noncomputable def fd94:FuncData:=fdOf (topS 11) "flag_tuple" .none "postkeep.boxes" 261 93
noncomputable def fd108:FuncData:=fdOf (subS 12 0) "Letter.__init__" .none "postkeep.boxes" 261 107
noncomputable def fd115:FuncData:=fdOf (subS 12 1) "Letter.has" .none "postkeep.boxes" 261 114
noncomputable def fd122:FuncData:=fdOf (subS 12 2) "Letter.told" .none "postkeep.boxes" 261 121
noncomputable def o124 (P:Params):Obj:={ cls:=Value.type "dict",data:=Data.dict #[en P "__module__" 308 (.str "postkeep.boxes" 261),en P "__firstlineno__" 312 (.int 42 311),en P "__init__" 324 (.ref 108),en P "has" 332 (.ref 115),en P "told" 339 (.ref 122),en P "__static_attributes__" 345 (.ref 123),en P "__dict__" 347 (.ref 126),en P "__weakref__" 349 (.ref 127),en P "__doc__" 350 .none] 4 }
noncomputable def o125:Obj:={ cls:=Value.type "type",data:=Data.cls { name:=Str.ofString "Letter",bases:=[Value.type "object"],mro:=[Value.ref 125,Value.type "object"],ns:=124,qualname:=Str.ofString "Letter" },slots:=#[none,none,some (Value.str (Str.ofString "Letter") 301),some (Value.str (Str.ofString "Letter") 309),some (Value.builtin "object.__new__"),some (Value.bool true)] }
noncomputable def fd143:FuncData:=fdOf (subS 13 0) "Box.__init__" .none "postkeep.boxes" 261 142
noncomputable def fd150:FuncData:=fdOf (subS 13 1) "Box.letter" .none "postkeep.boxes" 261 149
noncomputable def fd155:FuncData:=fdOf (subS 13 2) "Box.uids" .none "postkeep.boxes" 261 154
noncomputable def fd160:FuncData:=fdOf (subS 13 3) "Box.told" .none "postkeep.boxes" 261 159
noncomputable def o162 (P:Params):Obj:={ cls:=Value.type "dict",data:=Data.dict #[en P "__module__" 360 (.str "postkeep.boxes" 261),en P "__firstlineno__" 364 (.int 56 363),en P "__init__" 373 (.ref 143),en P "letter" 382 (.ref 150),en P "uids" 388 (.ref 155),en P "told" 394 (.ref 160),en P "__static_attributes__" 402 (.ref 161),en P "__dict__" 404 (.ref 164),en P "__weakref__" 406 (.ref 165),en P "__doc__" 407 .none] 4 }
noncomputable def o163:Obj:={ cls:=Value.type "type",data:=Data.cls { name:=Str.ofString "Box",bases:=[Value.type "object"],mro:=[Value.ref 163,Value.type "object"],ns:=162,qualname:=Str.ofString "Box" },slots:=#[none,none,some (Value.str (Str.ofString "Box") 353),some (Value.str (Str.ofString "Box") 361),some (Value.builtin "object.__new__"),some (Value.bool true)] }
noncomputable def fd172:FuncData:=fdOf (topS 14) "remade" .none "postkeep.boxes" 261 171
noncomputable def fd179:FuncData:=fdOf (topS 15) "place_of" .none "postkeep.boxes" 261 178
noncomputable def fd186:FuncData:=fdOf (topS 16) "raised" .none "postkeep.boxes" 261 185
noncomputable def fd193:FuncData:=fdOf (topS 17) "add_letter" .none "postkeep.boxes" 261 192
noncomputable def fd200:FuncData:=fdOf (topS 18) "set_flags" .none "postkeep.boxes" 261 199
noncomputable def fd205:FuncData:=fdOf (topS 19) "flags_after" .none "postkeep.boxes" 261 204
noncomputable def fd210:FuncData:=fdOf (topS 20) "expunge" .none "postkeep.boxes" 261 209
noncomputable def fd215:FuncData:=fdOf (topS 21) "copy_letters" .none "postkeep.boxes" 261 214
noncomputable def fd220:FuncData:=fdOf (topS 22) "move_letters" .none "postkeep.boxes" 261 219
noncomputable def fd225:FuncData:=fdOf (topS 23) "is_sound" .none "postkeep.boxes" 261 224
noncomputable def fd232:FuncData:=fdOf (topS 25) "is_refused" .none "postkeep.changes" 488 231
noncomputable def o233:Obj:={ cls:=Value.type "tuple",data:=Data.seq #[Value.none] }
noncomputable def fd238:FuncData:=fdOf (topS 26) "store_flags" (.ref 233) "postkeep.changes" 488 237
noncomputable def fd245:FuncData:=fdOf (topS 27) "distinct" .none "postkeep.changes" 488 244
noncomputable def fd250:FuncData:=fdOf (topS 28) "forget_gone" .none "postkeep.changes" 488 249
noncomputable def fd255:FuncData:=fdOf (topS 30) "upper_text" .none "postkeep.octets" 519 254
noncomputable def fd262:FuncData:=fdOf (topS 35) "is_half" .none "postkeep.names" 527 261
noncomputable def fd269:FuncData:=fdOf (topS 36) "first_part" .none "postkeep.names" 527 268
noncomputable def fd276:FuncData:=fdOf (topS 37) "normal_name" .none "postkeep.names" 527 275
noncomputable def fd283:FuncData:=fdOf (topS 38) "is_barred_code" .none "postkeep.names" 527 282
noncomputable def fd290:FuncData:=fdOf (topS 39) "check_name" .none "postkeep.names" 527 289
noncomputable def fd297:FuncData:=fdOf (topS 40) "is_below" .none "postkeep.names" 527 296
noncomputable def fd311:FuncData:=fdOf (subS 46 0) "Store.__init__" .none "postkeep.store" 584 310
noncomputable def fd318:FuncData:=fdOf (subS 46 1) "Store.has" .none "postkeep.store" 584 317
noncomputable def fd325:FuncData:=fdOf (subS 46 2) "Store.box" .none "postkeep.store" 584 324
noncomputable def fd332:FuncData:=fdOf (subS 46 3) "Store.names" .none "postkeep.store" 584 331
noncomputable def fd337:FuncData:=fdOf (subS 46 4) "Store.told" .none "postkeep.store" 584 336
noncomputable def o339 (P:Params):Obj:={ cls:=Value.type "dict",data:=Data.dict #[en P "__module__" 601 (.str "postkeep.store" 584),en P "__firstlineno__" 605 (.int 229 604),en P "__init__" 612 (.ref 311),en P "has" 620 (.ref 318),en P "box" 629 (.ref 325),en P "names" 636 (.ref 332),en P "told" 642 (.ref 337),en P "__static_attributes__" 646 (.ref 338),en P "__dict__" 648 (.ref 341),en P "__weakref__" 650 (.ref 342),en P "__doc__" 651 .none] 4 }
noncomputable def o340:Obj:={ cls:=Value.type "type",data:=Data.cls { name:=Str.ofString "Store",bases:=[Value.type "object"],mro:=[Value.ref 340,Value.type "object"],ns:=339,qualname:=Str.ofString "Store" },slots:=#[none,none,some (Value.str (Str.ofString "Store") 594),some (Value.str (Str.ofString "Store") 602),some (Value.builtin "object.__new__"),some (Value.bool true)] }
noncomputable def fd351:FuncData:=fdOf (topS 47) "is_number" .none "postkeep.store" 584 350
noncomputable def fd356:FuncData:=fdOf (topS 48) "are_texts" .none "postkeep.store" 584 355
noncomputable def fd361:FuncData:=fdOf (topS 49) "are_numbers" .none "postkeep.store" 584 360
noncomputable def fd368:FuncData:=fdOf (topS 50) "fits_shape" .none "postkeep.store" 584 367
noncomputable def fd375:FuncData:=fdOf (topS 51) "check_row" .none "postkeep.store" 584 374
noncomputable def fd382:FuncData:=fdOf (topS 52) "settled_name" .none "postkeep.store" 584 381
noncomputable def fd389:FuncData:=fdOf (topS 53) "need_modseqs" .none "postkeep.store" 584 388
noncomputable def fd396:FuncData:=fdOf (topS 54) "need_room" .none "postkeep.store" 584 395
noncomputable def fd403:FuncData:=fdOf (topS 55) "need_new" .none "postkeep.store" 584 402
noncomputable def fd410:FuncData:=fdOf (topS 56) "need_validity" .none "postkeep.store" 584 409
noncomputable def fd415:FuncData:=fdOf (topS 57) "need_uids" .none "postkeep.store" 584 414
noncomputable def fd422:FuncData:=fdOf (topS 58) "create_box" .none "postkeep.store" 584 421
noncomputable def fd429:FuncData:=fdOf (topS 59) "delete_box" .none "postkeep.store" 584 428
noncomputable def fd436:FuncData:=fdOf (topS 60) "renamed_pairs" .none "postkeep.store" 584 435
noncomputable def fd441:FuncData:=fdOf (topS 61) "rename_box" .none "postkeep.store" 584 440
noncomputable def fd448:FuncData:=fdOf (topS 62) "rename_inbox" .none "postkeep.store" 584 447
noncomputable def fd455:FuncData:=fdOf (topS 63) "append_letter" .none "postkeep.store" 584 454
noncomputable def fd462:FuncData:=fdOf (topS 64) "flag_letter" .none "postkeep.store" 584 461
noncomputable def fd469:FuncData:=fdOf (topS 65) "store_letters" .none "postkeep.store" 584 468
noncomputable def fd476:FuncData:=fdOf (topS 66) "expunge_letters" .none "postkeep.store" 584 475
noncomputable def fd481:FuncData:=fdOf (topS 67) "copy_or_move" .none "postkeep.store" 584 480
noncomputable def fd488:FuncData:=fdOf (topS 68) "subscribe_name" .none "postkeep.store" 584 487
noncomputable def fd493:FuncData:=fdOf (topS 69) "unsubscribe_name" .none "postkeep.store" 584 492
noncomputable def fd500:FuncData:=fdOf (topS 70) "is_letter_told" .none "postkeep.store" 584 499
noncomputable def fd505:FuncData:=fdOf (topS 71) "is_box_told" .none "postkeep.store" 584 504
noncomputable def fd512:FuncData:=fdOf (topS 72) "need_sound" .none "postkeep.store" 584 511
noncomputable def fd517:FuncData:=fdOf (topS 73) "restore" .none "postkeep.store" 584 516
noncomputable def fd524:FuncData:=fdOf (topS 74) "apply" .none "postkeep.store" 584 523
noncomputable def fd529:FuncData:=fdOf (topS 76) "_law_box" .none "law_no0389_02" 892 528
noncomputable def fd536:FuncData:=fdOf (topS 77) "_law_draw" .none "law_no0389_02" 892 535
noncomputable def fd543:FuncData:=fdOf (topS 78) "_law_name" .none "law_no0389_02" 892 542
noncomputable def fd548:FuncData:=fdOf (topS 79) "_law_flags" .none "law_no0389_02" 892 547
noncomputable def fd553:FuncData:=fdOf (topS 80) "_law_uids" .none "law_no0389_02" 892 552
noncomputable def fd558:FuncData:=fdOf (topS 81) "_law_deed" .none "law_no0389_02" 892 557
noncomputable def fd563:FuncData:=fdOf (topS 82) "_law_fresh" .none "law_no0389_02" 892 562
noncomputable def fd568:FuncData:=fdOf (topS 83) "_law_alive" .none "law_no0389_02" 892 567
noncomputable def fd573:FuncData:=fdOf (topS 84) "law" .none "law_no0389_02" 892 572
noncomputable def kf (P:Params):Frag:=[(2,o2 P),(3,o3 P),(22,o22),(28,cdO "__init__" "PostError.__init__" 203 4 3 23 24 25 209),(29,fnO fd29),(35,cdO "told" "PostError.told" 212 9 1 30 31 32 216),(36,fnO fd36),(38,o38 P),(39,o39),(51,o51 P),(52,o52),(63,o63 P),(64,o64),(72,cdO "system_flags" "system_flags" 269 19 0 67 68 69 272),(73,fnO fd73),(79,cdO "is_keyword" "is_keyword" 275 21 1 74 75 76 280),(80,fnO fd80),(86,cdO "flag_name" "flag_name" 283 28 1 81 82 83 288),(87,fnO fd87),(93,cdO "flag_tuple" "flag_tuple" 291 35 1 88 89 90 298),(94,fnO fd94),(107,cdO "__init__" "Letter.__init__" 313 44 6 102 103 104 322),(108,fnO fd108),(114,cdO "has" "Letter.has" 325 51 2 109 110 111 330),(115,fnO fd115),(121,cdO "told" "Letter.told" 333 54 1 116 117 118 337),(122,fnO fd122),(124,o124 P),(125,o125),(142,cdO "__init__" "Box.__init__" 365 58 3 137 138 139 371),(143,fnO fd143),(149,cdO "letter" "Box.letter" 374 67 2 144 145 146 380),(150,fnO fd150),(154,cdC "uids" "Box.uids" 383 71 1 151 386),(155,fnO fd155),(159,cdC "told" "Box.told" 389 74 1 156 392),(160,fnO fd160),(162,o162 P),(163,o163),(171,cdC "remade" "remade" 410 77 1 168 413),(172,fnO fd172),(178,cdO "place_of" "place_of" 416 83 2 173 174 175 424),(179,fnO fd179),(185,cdO "raised" "raised" 427 94 1 180 181 182 431),(186,fnO fd186),(192,cdO "add_letter" "add_letter" 434 97 4 187 188 189 443),(193,fnO fd193),(199,cdO "set_flags" "set_flags" 446 103 3 194 195 196 455),(200,fnO fd200),(204,cdC "flags_after" "flags_after" 458 113 3 201 461),(205,fnO fd205),(209,cdC "expunge" "expunge" 464 122 2 206 467),(210,fnO fd210),(214,cdC "copy_letters" "copy_letters" 470 133 3 211 473),(215,fnO fd215),(219,cdC "move_letters" "move_letters" 476 140 3 216 479),(220,fnO fd220),(224,cdC "is_sound" "is_sound" 482 144 1 221 485),(225,fnO fd225),(231,cdO "is_refused" "is_refused" 490 162 2 226 227 228 495),(232,fnO fd232),(233,o233),(237,cdC "store_flags" "store_flags" 498 164 5 234 501),(238,fnO fd238),(244,cdO "distinct" "distinct" 504 172 1 239 240 241 510),(245,fnO fd245),(249,cdC "forget_gone" "forget_gone" 513 177 2 246 516),(250,fnO fd250),(254,cdC "upper_text" "upper_text" 521 187 1 251 524),(255,fnO fd255),(261,cdO "is_half" "is_half" 535 193 1 256 257 258 539),(262,fnO fd262),(268,cdO "first_part" "first_part" 542 195 1 263 264 265 547),(269,fnO fd269),(275,cdO "normal_name" "normal_name" 550 200 1 270 271 272 556),(276,fnO fd276),(282,cdO "is_barred_code" "is_barred_code" 559 205 1 277 278 279 563),(283,fnO fd283),(289,cdO "check_name" "check_name" 566 207 1 284 285 286 573),(290,fnO fd290),(296,cdO "is_below" "is_below" 576 222 2 291 292 293 581),(297,fnO fd297),(310,cdO "__init__" "Store.__init__" 606 231 1 305 306 307 610),(311,fnO fd311),(317,cdO "has" "Store.has" 613 236 2 312 313 314 618),(318,fnO fd318),(324,cdO "box" "Store.box" 621 239 2 319 320 321 627),(325,fnO fd325),(331,cdO "names" "Store.names" 630 245 1 326 327 328 634),(332,fnO fd332),(336,cdC "told" "Store.told" 637 248 1 333 640),(337,fnO fd337),(339,o339 P),(340,o340),(350,cdO "is_number" "is_number" 654 251 1 345 346 347 658),(351,fnO fd351),(355,cdC "are_texts" "are_texts" 661 253 1 352 664),(356,fnO fd356),(360,cdC "are_numbers" "are_numbers" 667 255 1 357 670),(361,fnO fd361),(367,cdO "fits_shape" "fits_shape" 673 257 2 362 363 364 678),(368,fnO fd368),(374,cdO "check_row" "check_row" 681 269 1 369 370 371 690),(375,fnO fd375),(381,cdO "settled_name" "settled_name" 693 282 1 376 377 378 699),(382,fnO fd382),(388,cdO "need_modseqs" "need_modseqs" 702 289 2 383 384 385 707),(389,fnO fd389),(395,cdO "need_room" "need_room" 710 292 2 390 391 392 715),(396,fnO fd396),(402,cdO "need_new" "need_new" 718 296 2 397 398 399 723),(403,fnO fd403),(409,cdO "need_validity" "need_validity" 726 299 2 404 405 406 731),(410,fnO fd410),(414,cdC "need_uids" "need_uids" 734 302 2 411 737),(415,fnO fd415),(421,cdO "create_box" "create_box" 740 308 3 416 417 418 747),(422,fnO fd422),(428,cdO "delete_box" "delete_box" 750 315 2 423 424 425 756),(429,fnO fd429),(435,cdO "renamed_pairs" "renamed_pairs" 759 321 3 430 431 432 768),(436,fnO fd436),(440,cdC "rename_box" "rename_box" 771 329 3 437 774),(441,fnO fd441),(447,cdO "rename_inbox" "rename_inbox" 777 341 3 442 443 444 784),(448,fnO fd448),(454,cdO "append_letter" "append_letter" 787 349 5 449 450 451 797),(455,fnO fd455),(461,cdO "flag_letter" "flag_letter" 800 354 4 456 457 458 808),(462,fnO fd462),(468,cdO "store_letters" "store_letters" 811 358 6 463 464 465 821),(469,fnO fd469),(475,cdO "expunge_letters" "expunge_letters" 824 364 3 470 471 472 831),(476,fnO fd476),(480,cdC "copy_or_move" "copy_or_move" 834 368 5 477 837),(481,fnO fd481),(487,cdO "subscribe_name" "subscribe_name" 840 376 2 482 483 484 846),(488,fnO fd488),(492,cdC "unsubscribe_name" "unsubscribe_name" 849 382 2 489 852),(493,fnO fd493),(499,cdO "is_letter_told" "is_letter_told" 855 388 1 494 495 496 859),(500,fnO fd500),(504,cdC "is_box_told" "is_box_told" 862 392 1 501 865),(505,fnO fd505),(511,cdO "need_sound" "need_sound" 868 398 2 506 507 508 874),(512,fnO fd512),(516,cdC "restore" "restore" 877 406 4 513 880),(517,fnO fd517),(523,cdO "apply" "apply" 883 427 2 518 519 520 889),(524,fnO fd524),(528,cdC "_law_box" "_law_box" 894 454 1 525 897),(529,fnO fd529),(535,cdO "_law_draw" "_law_draw" 900 463 2 530 531 532 907),(536,fnO fd536),(542,cdO "_law_name" "_law_name" 910 474 1 537 538 539 914),(543,fnO fd543),(547,cdC "_law_flags" "_law_flags" 917 476 1 544 920),(548,fnO fd548),(552,cdC "_law_uids" "_law_uids" 923 482 1 549 926),(553,fnO fd553),(557,cdC "_law_deed" "_law_deed" 929 485 2 554 932),(558,fnO fd558),(562,cdC "_law_fresh" "_law_fresh" 935 510 2 559 938),(563,fnO fd563),(567,cdC "_law_alive" "_law_alive" 941 516 1 564 944),(568,fnO fd568),(572,cdC "law" "law" 947 529 1 569 950),(573,fnO fd573)]
noncomputable def kAs:List Addr:=[2,3,22,28,29,35,36,38,39,51,52,63,64,72,73,79,80,86,87,93,94,107,108,114,115,121,122,124,125,142,143,149,150,154,155,159,160,162,163,171,172,178,179,185,186,192,193,199,200,204,205,209,210,214,215,219,220,224,225,231,232,233,237,238,244,245,249,250,254,255,261,262,268,269,275,276,282,283,289,290,296,297,310,311,317,318,324,325,331,332,336,337,339,340,350,351,355,356,360,361,367,368,374,375,381,382,388,389,395,396,402,403,409,410,414,415,421,422,428,429,435,436,440,441,447,448,454,455,461,462,468,469,475,476,480,481,487,488,492,493,499,500,504,505,511,512,516,517,523,524,528,529,535,536,542,543,547,548,552,553,557,558,562,563,567,568,572,573]
structure Lib (c:Cx):Prop where
 K:c.K=kf c.w.params
 KG:c.K.In c.G
theorem Lib.call {c:Cx}{fd:FuncData}{a L:Addr} (x:Lib c):Lib (c.call fd a L):=⟨x.K,x.KG⟩
theorem Lib.mk' {c:Cx}{C:Addr}{r:List Value} (x:Lib c):Lib (c.mk' C r):=⟨x.K,x.KG⟩
theorem Lib.hand {c:Cx}{e:Addr} (x:Lib c):Lib (c.hand e):=⟨x.K,x.KG⟩
theorem Lib.comp {c:Cx}{s:Scope}{cl:List (Str × Addr)}{C:Addr} (x:Lib c):Lib (c.comp s cl C):=⟨x.K,x.KG⟩
abbrev GIn (c:Cx) (s:Str) (a:Nat):Prop:=nsIn c.K mainGlobals s=some (some (.ref a))
structure FnC (fd:FuncData) (a:Addr) (n:Nat):Prop where
 look:∀ P,(kf P).lookup a=some ⟨.type "function",none,.func fd,#[]⟩
 code:∀ P,codeIn (kf P) fd.code fd.qualname=true
 ok:FnOk fd
 bind:∀ (vs:List Value) (s:Shared),vs.length=n->BindsTo s fd ⟨vs,[]⟩ ((fd.scope.names.map (·.1)).zip vs)
 kinds:(fd.scope.names.take n).all (fun x=>x.2 == .local || x.2 == .cell)=true
theorem FnC.fi {fd:FuncData}{a:Addr}{n:Nat} (F:FnC fd a n) {c:Cx} (x:Lib c):FnIn c.G a fd:=by
 have KG:=x.KG
 rw [x.K] at KG
 exact ⟨⟨_,KG _ _ (F.look _),rfl⟩,codeRec_of KG (F.code _)⟩
noncomputable def kG:List (Str × NameKind)->List AVal->(List NV->Prop)->Prop
 | [],_,k=>k []
 | p::ns,as,k=>match p with
  | (x,kd)=>match as with
   | []=>kG ns [] fun r=>k (⟨x,kd,none⟩::r)
   | a::as=>kG ns as fun r=>k (⟨x,kd,some a⟩::r)
theorem k7 {ns:List (Str × NameKind)}:∀ {as:List AVal}{k:List NV->Prop},kG ns as k->k (bI ns as):=by
 induction ns with
 | nil=>intro as k h;cases as<;>exact h
 | cons p ns ih=>intro as k h;cases as<;>exact ih h
noncomputable def rN (b:FuncBody) (k:List Stmt->Prop):Prop:=match b with
 | .stmts ss=>(match ss with
  | []=>k []
  | s::r=>k (s::r))
 | _=>False
theorem mH {b:FuncBody}{k:List Stmt->Prop} (h:rN b k):∃ ss,b=.stmts ss/\k ss:=by
 cases b with
 | stmts ss=>exact ⟨ss,rfl,by cases ss<;>exact h⟩
 | _=>exact h.elim
theorem ai {fd:FuncData}{a:Addr}{n:Nat} (F:FnC fd a n) {c:Cx}{ρ ρ':List NV}{σ:AState}{Q:AVal->AState->Prop}{X:AExc->AState->Prop}{body:List Stmt}{as:List AVal} (x:Lib c) (lv:1<=c.lv) (hb:rN fd.body fun ss=>body=ss) (hn:as.length=n)
  (hs:kG fd.scope.names as fun r=>ρ'=r) (g:∀ L,WSs (c.call fd a L) ρ' body σ (NQ Q) Q (XF X)):GoV VR c ρ as (fun vs=>call (.ref a) vs) σ Q X:=by
 obtain ⟨ss,hb,rfl⟩:=mH hb
 obtain rfl:=k7 hs
 refine oy lv (F.fi x) F.ok hb (fun y hy=>?_) (fun vs s hl _=>F.bind vs s (hl.trans hn)) g
 have:=List.all_eq_true.mp F.kinds y (hn ▸ hy)
 rw [Bool.or_eq_true] at this
 exact this.imp eq_of_beq eq_of_beq
theorem lenS {α:Type}{l:List α}{n:Nat} (h:l.length=n+1):∃ a r,l=a::r/\r.length=n:=by
 cases l with
 | nil=>cases h
 | cons a r=>exact ⟨a,r,rfl,Nat.succ.inj h⟩
theorem len0 {α:Type}{l:List α} (h:l.length=0):l=[]:=List.length_eq_zero_iff.mp h
theorem len1 {α:Type}{l:List α} (h:l.length=1):∃ a,l=[a]:=List.length_eq_one_iff.mp h
theorem len2 {α:Type}{l:List α} (h:l.length=2):∃ a b,l=[a,b]:=ex2 (lenS h) fun a _ h=>ex1 (len1 h.2) fun b e=>⟨a,b,by rw [h.1,e]⟩
theorem len3 {α:Type}{l:List α} (h:l.length=3):∃ a b c,l=[a,b,c]:=ex2 (lenS h) fun a _ h=>ex2 (len2 h.2) fun b c e=>⟨a,b,c,by rw [h.1,e]⟩
theorem len4 {α:Type}{l:List α} (h:l.length=4):∃ a b c d,l=[a,b,c,d]:=ex2 (lenS h) fun a _ h=>ex3 (len3 h.2) fun b c d e=>⟨a,b,c,d,by rw [h.1,e]⟩
theorem len5 {α:Type}{l:List α} (h:l.length=5):∃ a b c d e,l=[a,b,c,d,e]:=ex2 (lenS h) fun a _ h=>ex4 (len4 h.2) fun b c d f e=>⟨a,b,c,d,f,by rw [h.1,e]⟩
theorem len6 {α:Type}{l:List α} (h:l.length=6):∃ a b c d e f,l=[a,b,c,d,e,f]:=ex2 (lenS h) fun a _ h=>ex5 (len5 h.2) fun b c d f g e=>⟨a,b,c,d,f,g,by rw [h.1,e]⟩
theorem bind0' {fd:FuncData} (g:bindArgs fd ⟨[],[]⟩=pure ((fd.scope.names.map (·.1)).zip [])) (vs:List Value) (s:Shared) (h:vs.length=0):BindsTo s fd ⟨vs,[]⟩ ((fd.scope.names.map (·.1)).zip vs):=by cases len0 h;exact .of_eq g
theorem bind1' {fd:FuncData} (g:∀ a,bindArgs fd ⟨[a],[]⟩=pure ((fd.scope.names.map (·.1)).zip [a])) (vs:List Value) (s:Shared) (h:vs.length=1):BindsTo s fd ⟨vs,[]⟩ ((fd.scope.names.map (·.1)).zip vs):=by obtain ⟨_,rfl⟩:=len1 h;exact .of_eq (g ..)
theorem bind2' {fd:FuncData} (g:∀ a b,bindArgs fd ⟨[a,b],[]⟩=pure ((fd.scope.names.map (·.1)).zip [a,b])) (vs:List Value) (s:Shared) (h:vs.length=2):BindsTo s fd ⟨vs,[]⟩ ((fd.scope.names.map (·.1)).zip vs):=by obtain ⟨_,_,rfl⟩:=len2 h;exact .of_eq (g ..)
theorem bind3' {fd:FuncData} (g:∀ a b c,bindArgs fd ⟨[a,b,c],[]⟩=pure ((fd.scope.names.map (·.1)).zip [a,b,c])) (vs:List Value) (s:Shared) (h:vs.length=3):BindsTo s fd ⟨vs,[]⟩ ((fd.scope.names.map (·.1)).zip vs):=by obtain ⟨_,_,_,rfl⟩:=len3 h;exact .of_eq (g ..)
theorem bind4' {fd:FuncData} (g:∀ a b c d,bindArgs fd ⟨[a,b,c,d],[]⟩=pure ((fd.scope.names.map (·.1)).zip [a,b,c,d])) (vs:List Value) (s:Shared) (h:vs.length=4):BindsTo s fd ⟨vs,[]⟩ ((fd.scope.names.map (·.1)).zip vs):=by obtain ⟨_,_,_,_,rfl⟩:=len4 h;exact .of_eq (g ..)
theorem bind5' {fd:FuncData} (g:∀ a b c d e,bindArgs fd ⟨[a,b,c,d,e],[]⟩=pure ((fd.scope.names.map (·.1)).zip [a,b,c,d,e])) (vs:List Value) (s:Shared) (h:vs.length=5):BindsTo s fd ⟨vs,[]⟩ ((fd.scope.names.map (·.1)).zip vs):=by obtain ⟨_,_,_,_,_,rfl⟩:=len5 h;exact .of_eq (g ..)
theorem bind6' {fd:FuncData} (g:∀ a b c d e g,bindArgs fd ⟨[a,b,c,d,e,g],[]⟩=pure ((fd.scope.names.map (·.1)).zip [a,b,c,d,e,g])) (vs:List Value) (s:Shared) (h:vs.length=6):BindsTo s fd ⟨vs,[]⟩ ((fd.scope.names.map (·.1)).zip vs):=by obtain ⟨_,_,_,_,_,_,rfl⟩:=len6 h;exact .of_eq (g ..)
theorem f238 {c:Cx} (x:Lib c):FnIn c.G 238 fd238:=by
 have KG:=x.KG
 rw [x.K] at KG
 exact ⟨⟨_,KG 238 _ (by rfl),rfl⟩,codeRec_of KG (by rfl)⟩
theorem sR:FnOk fd238:=⟨rfl,rfl,rfl,rfl,rfl,rfl,by decide +kernel,by decide +kernel⟩
theorem bind238 {c:Cx} (x:Lib c) (vs:List Value) (s:Shared) (h:vs.length=5) (b:c.G.StaysIn s.heap):BindsTo s fd238 ⟨vs,[]⟩ ((fd238.scope.names.map (·.1)).zip vs):=by
 have X:=x.KG.keeps b
 rw [x.K] at X
 obtain ⟨v0,v1,v2,v3,v4,rfl⟩:=len5 h
 exact kp_binds X fun S=>by rfl
theorem f73:FnC fd73 73 0:=by walk_at "fn"
theorem g73 {c:Cx} (x:Lib c):GIn c "system_flags" 73:=by walk_at "gn"
theorem f80:FnC fd80 80 1:=by walk_at "fn"
theorem g80 {c:Cx} (x:Lib c):GIn c "is_keyword" 80:=by walk_at "gn"
theorem f87:FnC fd87 87 1:=by walk_at "fn"
theorem g87 {c:Cx} (x:Lib c):GIn c "flag_name" 87:=by walk_at "gn"
theorem f94:FnC fd94 94 1:=by walk_at "fn"
theorem g94 {c:Cx} (x:Lib c):GIn c "flag_tuple" 94:=by walk_at "gn"
theorem f108:FnC fd108 108 6:=by walk_at "fn"
theorem f122:FnC fd122 122 1:=by walk_at "fn"
theorem f143:FnC fd143 143 3:=by walk_at "fn"
theorem f150:FnC fd150 150 2:=by walk_at "fn"
theorem f155:FnC fd155 155 1:=by walk_at "fn"
theorem f160:FnC fd160 160 1:=by walk_at "fn"
theorem f179:FnC fd179 179 2:=by walk_at "fn"
theorem g179 {c:Cx} (x:Lib c):GIn c "place_of" 179:=by walk_at "gn"
theorem f186:FnC fd186 186 1:=by walk_at "fn"
theorem g186 {c:Cx} (x:Lib c):GIn c "raised" 186:=by walk_at "gn"
theorem f193:FnC fd193 193 4:=by walk_at "fn"
theorem g193 {c:Cx} (x:Lib c):GIn c "add_letter" 193:=by walk_at "gn"
theorem f200:FnC fd200 200 3:=by walk_at "fn"
theorem g200 {c:Cx} (x:Lib c):GIn c "set_flags" 200:=by walk_at "gn"
theorem f205:FnC fd205 205 3:=by walk_at "fn"
theorem g205 {c:Cx} (x:Lib c):GIn c "flags_after" 205:=by walk_at "gn"
theorem f210:FnC fd210 210 2:=by walk_at "fn"
theorem g210 {c:Cx} (x:Lib c):GIn c "expunge" 210:=by walk_at "gn"
theorem f215:FnC fd215 215 3:=by walk_at "fn"
theorem g215 {c:Cx} (x:Lib c):GIn c "copy_letters" 215:=by walk_at "gn"
theorem f220:FnC fd220 220 3:=by walk_at "fn"
theorem g220 {c:Cx} (x:Lib c):GIn c "move_letters" 220:=by walk_at "gn"
theorem f232:FnC fd232 232 2:=by walk_at "fn"
theorem g232 {c:Cx} (x:Lib c):GIn c "is_refused" 232:=by walk_at "gn"
theorem g238 {c:Cx} (x:Lib c):GIn c "store_flags" 238:=by walk_at "gn"
theorem f245:FnC fd245 245 1:=by walk_at "fn"
theorem g245 {c:Cx} (x:Lib c):GIn c "distinct" 245:=by walk_at "gn"
theorem f250:FnC fd250 250 2:=by walk_at "fn"
theorem g250 {c:Cx} (x:Lib c):GIn c "forget_gone" 250:=by walk_at "gn"
theorem f255:FnC fd255 255 1:=by walk_at "fn"
theorem g255 {c:Cx} (x:Lib c):GIn c "upper_text" 255:=by walk_at "gn"
theorem f262:FnC fd262 262 1:=by walk_at "fn"
theorem g262 {c:Cx} (x:Lib c):GIn c "is_half" 262:=by walk_at "gn"
theorem f269:FnC fd269 269 1:=by walk_at "fn"
theorem g269 {c:Cx} (x:Lib c):GIn c "first_part" 269:=by walk_at "gn"
theorem f276:FnC fd276 276 1:=by walk_at "fn"
theorem g276 {c:Cx} (x:Lib c):GIn c "normal_name" 276:=by walk_at "gn"
theorem f283:FnC fd283 283 1:=by walk_at "fn"
theorem g283 {c:Cx} (x:Lib c):GIn c "is_barred_code" 283:=by walk_at "gn"
theorem f290:FnC fd290 290 1:=by walk_at "fn"
theorem g290 {c:Cx} (x:Lib c):GIn c "check_name" 290:=by walk_at "gn"
theorem f297:FnC fd297 297 2:=by walk_at "fn"
theorem g297 {c:Cx} (x:Lib c):GIn c "is_below" 297:=by walk_at "gn"
theorem f311:FnC fd311 311 1:=by walk_at "fn"
theorem f325:FnC fd325 325 2:=by walk_at "fn"
theorem f332:FnC fd332 332 1:=by walk_at "fn"
theorem f337:FnC fd337 337 1:=by walk_at "fn"
theorem f351:FnC fd351 351 1:=by walk_at "fn"
theorem g351 {c:Cx} (x:Lib c):GIn c "is_number" 351:=by walk_at "gn"
theorem f356:FnC fd356 356 1:=by walk_at "fn"
theorem g356 {c:Cx} (x:Lib c):GIn c "are_texts" 356:=by walk_at "gn"
theorem f361:FnC fd361 361 1:=by walk_at "fn"
theorem g361 {c:Cx} (x:Lib c):GIn c "are_numbers" 361:=by walk_at "gn"
theorem f368:FnC fd368 368 2:=by walk_at "fn"
theorem g368 {c:Cx} (x:Lib c):GIn c "fits_shape" 368:=by walk_at "gn"
theorem f375:FnC fd375 375 1:=by walk_at "fn"
theorem g375 {c:Cx} (x:Lib c):GIn c "check_row" 375:=by walk_at "gn"
theorem f382:FnC fd382 382 1:=by walk_at "fn"
theorem g382 {c:Cx} (x:Lib c):GIn c "settled_name" 382:=by walk_at "gn"
theorem f389:FnC fd389 389 2:=by walk_at "fn"
theorem g389 {c:Cx} (x:Lib c):GIn c "need_modseqs" 389:=by walk_at "gn"
theorem f396:FnC fd396 396 2:=by walk_at "fn"
theorem g396 {c:Cx} (x:Lib c):GIn c "need_room" 396:=by walk_at "gn"
theorem f403:FnC fd403 403 2:=by walk_at "fn"
theorem g403 {c:Cx} (x:Lib c):GIn c "need_new" 403:=by walk_at "gn"
theorem f410:FnC fd410 410 2:=by walk_at "fn"
theorem g410 {c:Cx} (x:Lib c):GIn c "need_validity" 410:=by walk_at "gn"
theorem f415:FnC fd415 415 2:=by walk_at "fn"
theorem g415 {c:Cx} (x:Lib c):GIn c "need_uids" 415:=by walk_at "gn"
theorem f422:FnC fd422 422 3:=by walk_at "fn"
theorem g422 {c:Cx} (x:Lib c):GIn c "create_box" 422:=by walk_at "gn"
theorem f429:FnC fd429 429 2:=by walk_at "fn"
theorem g429 {c:Cx} (x:Lib c):GIn c "delete_box" 429:=by walk_at "gn"
theorem f436:FnC fd436 436 3:=by walk_at "fn"
theorem g436 {c:Cx} (x:Lib c):GIn c "renamed_pairs" 436:=by walk_at "gn"
theorem f441:FnC fd441 441 3:=by walk_at "fn"
theorem g441 {c:Cx} (x:Lib c):GIn c "rename_box" 441:=by walk_at "gn"
theorem f448:FnC fd448 448 3:=by walk_at "fn"
theorem g448 {c:Cx} (x:Lib c):GIn c "rename_inbox" 448:=by walk_at "gn"
theorem f455:FnC fd455 455 5:=by walk_at "fn"
theorem g455 {c:Cx} (x:Lib c):GIn c "append_letter" 455:=by walk_at "gn"
theorem f462:FnC fd462 462 4:=by walk_at "fn"
theorem g462 {c:Cx} (x:Lib c):GIn c "flag_letter" 462:=by walk_at "gn"
theorem f469:FnC fd469 469 6:=by walk_at "fn"
theorem g469 {c:Cx} (x:Lib c):GIn c "store_letters" 469:=by walk_at "gn"
theorem f476:FnC fd476 476 3:=by walk_at "fn"
theorem g476 {c:Cx} (x:Lib c):GIn c "expunge_letters" 476:=by walk_at "gn"
theorem f481:FnC fd481 481 5:=by walk_at "fn"
theorem g481 {c:Cx} (x:Lib c):GIn c "copy_or_move" 481:=by walk_at "gn"
theorem f488:FnC fd488 488 2:=by walk_at "fn"
theorem g488 {c:Cx} (x:Lib c):GIn c "subscribe_name" 488:=by walk_at "gn"
theorem f493:FnC fd493 493 2:=by walk_at "fn"
theorem g493 {c:Cx} (x:Lib c):GIn c "unsubscribe_name" 493:=by walk_at "gn"
theorem f524:FnC fd524 524 2:=by walk_at "fn"
theorem g524 {c:Cx} (x:Lib c):GIn c "apply" 524:=by walk_at "gn"
theorem f529:FnC fd529 529 1:=by walk_at "fn"
theorem g529 {c:Cx} (x:Lib c):GIn c "_law_box" 529:=by walk_at "gn"
theorem f536:FnC fd536 536 2:=by walk_at "fn"
theorem g536 {c:Cx} (x:Lib c):GIn c "_law_draw" 536:=by walk_at "gn"
theorem f543:FnC fd543 543 1:=by walk_at "fn"
theorem g543 {c:Cx} (x:Lib c):GIn c "_law_name" 543:=by walk_at "gn"
theorem f548:FnC fd548 548 1:=by walk_at "fn"
theorem g548 {c:Cx} (x:Lib c):GIn c "_law_flags" 548:=by walk_at "gn"
theorem f553:FnC fd553 553 1:=by walk_at "fn"
theorem g553 {c:Cx} (x:Lib c):GIn c "_law_uids" 553:=by walk_at "gn"
theorem f558:FnC fd558 558 2:=by walk_at "fn"
theorem g558 {c:Cx} (x:Lib c):GIn c "_law_deed" 558:=by walk_at "gn"
theorem f563:FnC fd563 563 2:=by walk_at "fn"
theorem g563 {c:Cx} (x:Lib c):GIn c "_law_fresh" 563:=by walk_at "gn"
theorem f568:FnC fd568 568 1:=by walk_at "fn"
theorem g568 {c:Cx} (x:Lib c):GIn c "_law_alive" 568:=by walk_at "gn"
theorem f573:FnC fd573 573 1:=by walk_at "fn"
def qv:Program:=view pw [84]
def loose:List Str:=pw.boundNames.filter (fun n=>n != ("law" : Str))
theorem o0:@denote=@PySem.W.Fast.tw11892475500146522536:=PySem.W.Fast.te11892475500146522536
theorem ou:@treeTable=@PySem.W.Fast.tw14364793385576792824:=PySem.W.Fast.te14364793385576792824
theorem rc:@openSeen=@PySem.W.Fast.tw4187177175401517315:=PySem.W.Fast.te4187177175401517315
set_option maxRecDepth 1000000 in
set_option maxHeartbeats 0 in
theorem one (w:World) (os:OsState):(topT (@PySem.W.Fast.tw11892475500146522536 PySem.W.Fast.tw14364793385576792824) pw w 11 (some (.ref 6)) 8000 ⟨qD w.params,11,{},#[],boot_drawn,boot_toks,os⟩ (topStub pw)).map (fun s =>
    ((staticsOk (importedModules pw.main.body) (boot_heap w.params) s.abs.heap && namesBound pw s.abs.heap && gensDone s.abs && laidKept (boot_heap w.params) s.abs.heap),
    @PySem.W.Fast.tw4187177175401517315 qv loose (importedModules pw.main.body) (fun s=>xlAt qv [] s && recOk [] s) true s.abs,(kAs.map s.abs.heap.get?,(s.abs.heap.get? sysModules).isSome)))=some (true,openGood qv loose,((kf w.params).map fun p=>some p.2,true)):=by
 kernel_rfl
set_option maxRecDepth 1000000 in
set_option maxHeartbeats 0 in
theorem sH (w:World):(fencedOpening (@PySem.W.Fast.tw14364793385576792824) pw w 8000).map (fun s=>(s.heap,s.gens,s.drawn,s.toks))=some (boot_heap w.params,Array.mk [],boot_drawn,boot_toks):=by
 kernel_rfl
theorem sF:LeftO pw qv loose (fun s=>xlAt qv [] s && recOk [] s) (fun s=>(kAs.map s.heap.get?,(s.heap.get? sysModules).isSome)) (fun w=>((kf w.params).map fun p=>some p.2,true)) 8000:=by
 refine o5 (fun w=>?_) fun w os=>?_
 ·rw [ou];exact sH w
 ·rw [o0,ou,rc];exact one w os
def Cx.top (c:Cx) (fd:FuncData) (a L:Addr):Cx :=
 { c with A:=c.A.deeper (callEnvC fd L a),env:=callEnvC fd L a,fenv:=callEnvC fd L a,outer:=[],own:=L::(cellsFrom (L+1) fd.scope.names []).map (·.2),lv:=c.lv - 1,fn:=true }
theorem Cx.cmT {c:Cx}{fd:FuncData}{a L:Addr} (h:c.calm=true):(c.top fd a L).calm=true:=h
theorem Cx.lv_top {n:Nat}{c:Cx}{fd:FuncData}{a L:Addr} (h:n+1<=c.lv):n<=(c.top fd a L).lv:=Nat.le_sub_of_add_le h
theorem Lib.top {c:Cx}{fd:FuncData}{a L:Addr} (x:Lib c):Lib (c.top fd a L):=⟨x.K,x.KG⟩
structure TopOk (c:Cx):Prop where
 fr:c.A.frames=some []
 hd:c.calm=true->c.A.handled=none
 gd:c.A.guards=some []
 depth:c.A.depth+8 * c.lv<=900
 units:c.A.units+40 * c.lv<=9000
 KG:c.K.In c.G
 lim:c.G.NoLimit
 bg:∃ mg mb,c.G.Ns mainGlobals mg/\c.G.Ns builtinsNs mb/\(∀ (x:Str),nsIn c.K mainGlobals x=some none->mg x=none)/\∀ (x:Str) (v:Value),x≠("__name__" : Str)->bootBuiltins x=some v->mb x=some v
 sm:∃ o,c.G.get? sysModules=some o
section
variable {c:Cx}{ρ ρ':List NV}{σ σ₀ σ₁ σ' τ:AState}{s s₀ s₁ s₂ s':Shared}
theorem St.enter0 {fd:FuncData}{a:Addr}{as:List AVal}{vs:List Value} (T:TopOk c) (base:c.G.StaysIn s.heap) (obj:∀ b o,σ b=some o->OR c.prog c.w s.heap b o/\c.G.get? b=none) (lv:1<=c.lv) (ok:FnOk fd) (r:VRs s.heap vs as)
  (hkind:∀ x∈fd.scope.names.take as.length,x.2=.local\/x.2=.cell)
  (x:InCallC s (callEnvC fd s.heap.objs.size a).locals (bindL (callEnvC fd s.heap.objs.size a).kindOf ((fd.scope.names.map (·.1)).zip vs) fun _=>none) (callEnvC fd s.heap.objs.size a).cells
    (bindC (callEnvC fd s.heap.objs.size a).kindOf ((fd.scope.names.map (·.1)).zip vs) fun _=>none) s₁) :
  St (c.top fd a s.heap.objs.size) (bI fd.scope.names as) σ s₁.heap:=by
 obtain ⟨⟨⟨hh,tk,rfl⟩,ns,keep,fresh⟩,cell,apart,above⟩:=x
 have cs:(callEnvC fd s.heap.objs.size a).cells=cellsFrom (s.heap.objs.size+1) fd.scope.names []:=rfl
 have hL:s.heap.get? s.heap.objs.size=none:=ag _
 have cn:=bT (n:=s.heap.objs.size+1) (acc:=[]) ok.nodup (by simp) (by simp)
 have clk:∀ y∈cellsFrom (s.heap.objs.size+1) fd.scope.names [],(cellsFrom (s.heap.objs.size+1) fd.scope.names []).lookup y.1=some y.2:=fun y hy=>av cn hy
 have cnew:∀ y∈cellsFrom (s.heap.objs.size+1) fd.scope.names [],s.heap.get? y.2=none:=fun y hy=>Heap.get?_none_of_le (Nat.le_of_lt (above y.1 y.2 hy))
 have owns:∀ b∈(c.top fd a s.heap.objs.size).own,s.heap.get? b=none:=fun b hb=>by
  rcases ZC hb with rfl | hb
  ·exact hL
  ·obtain ⟨y,hy,rfl⟩:=ZM hb
   exact cnew y hy
 have t:TupKept s.heap hh:=aq keep
 have fr0:(c.top fd a s.heap.objs.size).frames=[s.heap.objs.size]:=rfl
 refine ⟨⟨?_,T.hd,T.gd,?_,?_,ok.kind,ok.glob,ok.blt,T.KG,T.lim,T.bg,T.sm,.head _,?_,fun y hy=>?_,fun y hy e=>?_,fun _=>rfl,fun _ y hy=>?_,ok.nodup,ok.tame⟩,fun b o e=>keep b o (base b o e),?_,cq ..,⟨_,ns⟩,fun y hy=>?_,fun e he a' ha=>?_,fun b o e=>?_,fun b o e=>?_,fun b hb=>?_⟩
 ·show c.A.frames.map _=_;rw [T.fr];rfl
 ·have:=T.depth
  show c.A.depth+1+8 * (c.lv - 1)<=900
  walk_at "o"
 ·have:=T.units
  show c.A.units+3+40 * (c.lv - 1)<=9000
  walk_at "o"
 ·show ((cellsFrom (s.heap.objs.size+1) fd.scope.names []).map (·.2)).Nodup
  rw [List.Nodup,pairwise_map]
  exact apart
 ·have:=above y.1 y.2 hy
  exact fun q=>Nat.lt_irrefl _ (q ▸ this)
 ·obtain ⟨n,k⟩:=y
  cases e
  obtain ⟨b,hb⟩:=bA (n:=s.heap.objs.size+1) (acc:=[]) (show (n,NameKind.cell)∈fd.scope.names from hy)
  exact ⟨b,av cn hb⟩
 ·exact .tail _ (mem_map_of_mem (f:=(·.2)) hy)
 ·refine Heap.FunFrames.cons (m:=_) (by show fd.scope.kind≠.module;rw [ok.kind];simp) rfl ns ?_ trivial
  cases q:c.G.get? s.heap.objs.size with
  | none=>exact q
  | some o=>have:=base _ o q;rw [hL] at this;cases this
 ·exact ⟨_,cell y.1 y.2 (clk y hy)⟩
 ·obtain ⟨v,m,rv,q⟩:=iX r e he a' ha
  have nd:=gu (r:=vs) ok.nodup
  have kq:=hkind _ q
  have mem:(e.name,e.kind)∈fd.scope.names:=mem_of_mem_take q
  have lk:(callEnvC fd s.heap.objs.size a).kindOf e.name=some e.kind:=av ok.nodup mem
  refine ⟨v,?_,rv.keep t⟩
  rcases kq with kq | kq
  ·simp only at kq
   rw [kq] at lk ⊢
   exact ⟨_,ns,jE nd m lk⟩
  ·simp only at kq
   rw [kq] at lk mem ⊢
   obtain ⟨b,hb⟩:=bA (n:=s.heap.objs.size+1) (acc:=[]) mem
   have hb':=av cn hb
   refine ⟨b,hb',?_⟩
   have:=cell e.name b hb'
   rw [jJ nd m lk] at this
   exact this
 ·exact (obj b o e).1.keepB t fun ob q=>keep b ob q
 ·obtain ⟨ob,q,_⟩:=(obj b o e).1.here
  refine ⟨(obj b o e).2,fun z=>?_,fun z=>?_,fun y hy z=>?_⟩
  ·rw [owns b z] at q;cases q
  ·rw [fr0] at z
   rw [ZS z,hL] at q;cases q
  ·subst z;rw [cnew y hy] at q;cases q
 ·refine ⟨?_,?_⟩
  ·cases q:c.G.get? b with
   | none=>exact q
   | some o =>
    have:=base b o q;rw [owns b hb] at this;cases this
  ·rcases ZC hb with rfl | hb
   ·obtain ⟨o,es,ep,ho,hd,_⟩:=ns
    exact ⟨o,ho,fun xs n q=>by rw [hd] at q;cases q⟩
   ·obtain ⟨y,hy,rfl⟩:=ZM hb
    obtain ⟨o,ho,hd⟩:=cell y.1 y.2 (clk y hy)
    exact ⟨o,ho,fun xs n q=>by rw [hd] at q;cases q⟩
end
theorem rR {K:Frag}{h:Heap}{ns:Addr}{m:Str->Option Value}{x:Str}{r:Option Value} (X:K.In h) (N:h.Ns ns m) (e:nsIn K ns x=some r):m x=r:=by
 obtain ⟨o,es,ep,ho,hd,hk,hm⟩:=N
 have q:=hm x
 unfold nsFind findBy at q
 rw [<- Array.find?_toList] at q
 clear hm hk
 cases hl:K.lookup ns with
 | none=>unfold nsIn at e;rw [hl] at e;cases e
 | some o2 =>
  have h2:=X _ _ hl
  rw [ho] at h2
  have h2:=Option.some.inj h2
  rw [<- h2] at hl
  clear h2 ho X
  obtain ⟨c,d,data,sl⟩:=o
  have hd:data=_:=hd
  rw [hd] at hl
  clear hd
  unfold nsIn at e
  rw [hl] at e
  clear hl
  have e:(match es.toList.find? (fun z=>z.key.isStr x) with | some e=>some (some e.val) | none=>if es.toList.any (·.refKey) then none else some none)=some r:=e
  have q:(es.toList.find? (fun z=>z.key.isStr x)).map (·.val)=m x:=q
  cases he:es.toList.find? (fun z=>z.key.isStr x) with
  | some en=>rw [he] at e q;exact q.symm.trans (Option.some.inj e)
  | none =>
   rw [he] at e q
   refine q.symm.trans ?_
   by_cases z:es.toList.any (·.refKey)=true
   ·have e:=(if_pos z).symm.trans e;cases e
   ·exact Option.some.inj ((if_neg z).symm.trans e)
theorem qk {c:Cx}{fd:FuncData}{body:List Stmt}{a:Addr}{n:Nat}{as:List AVal}{Q:AVal->AState->Prop} (T:TopOk c) (x:Lib c) (lv:1<=c.lv) (F:FnC fd a n) (hb:fd.body=.stmts body) (hn:as.length=n)
  (g:∀ L,WSs (c.top fd a L) (bI fd.scope.names as) body (fun _=>none) (NQ Q) Q (XF fun _ _=>False)) {vs:List Value}{s:Shared} (base:c.G.StaysIn s.heap) (r:VRs s.heap vs as) :
  wpAny (model c.prog c.w) c.A (call (.ref a) vs) (fun v s'=>∃ b σ',VR s'.heap v b/\Q b σ'/\c.G.StaysIn s'.heap/\s'.os=s.os/\s'.gens=s.gens) (fun _ _=>False) s:=by
 refine wpAny_call ?_
 have fi:=F.fi x
 have ok:=F.ok
 obtain ⟨o,ho,hd⟩:=fi.obj
 have hroom:c.A.depth < recursionLimit:=by have:=T.depth;show c.A.depth < 1000;walk_at "o"
 have hkind:∀ y∈fd.scope.names.take as.length,y.2=.local\/y.2=.cell:=fun y hy=>by
  have:=List.all_eq_true.mp F.kinds y (hn ▸ hy)
  rw [Bool.or_eq_true] at this
  exact this.imp eq_of_beq eq_of_beq
 refine codeAny_call_function hroom (base _ _ ho) hd ok.co ok.gen hb (fi.code.keeps base) (F.bind vs s (r.length.trans hn) _ _ _ _ ?_)
 rw [ok.clo]
 have mem:∀ x∈(fd.scope.names.map (·.1)).zip vs,∃ k,(x.1,k)∈fd.scope.names.take as.length:=fun x hx=>r.length ▸ me hx
 refine wpAny_newFunctionEnv_cells ok.kind (fun x hx=>?_) fun env he s₁ y=>?_
 ·obtain ⟨k,hk⟩:=mem x hx
  have hk':=mem_of_mem_take hk
  have lk:=av ok.nodup hk'
  rcases hkind _ hk with q | q
  ·simp only at q;subst q;exact .inl lk
  ·simp only at q;subst q
   obtain ⟨b,hb⟩:=bA (n:=s.heap.objs.size+1) (acc:=[]) hk'
   exact .inr ⟨lk,by rw [av (bT ok.nodup (by simp) (by simp)) hb];rfl⟩
 ·subst he
  have keep:=y.toInCall.keep
  have S₁:=St.enter0 (σ:=fun _=>none) (a:=a) T base (fun b o e=>by cases e) lv ok r hkind y
  obtain ⟨⟨hh,tk,e₁⟩,_⟩:=y.toInCall
  refine ⟨(T.lim.keeps base).keeps keep,codeAny_func ?_⟩
  refine Zm (g s.heap.objs.size s₁ S₁) (fun f s₂ p=>?_) fun e s₂ p=>?_
  ·obtain ⟨ρ',σ',S₂,y₂,q⟩:=p
   have e1:s₂.os=s.os:=y₂.os.trans (by rw [e₁])
   have e2:s₂.gens=s.gens:=y₂.gens.trans (by rw [e₁])
   cases f with
   | next=>exact ⟨_,σ',.none,q,S₂.base,e1,e2⟩
   | ret v=>obtain ⟨b,rb,q⟩:=q;exact ⟨b,σ',rb,q,S₂.base,e1,e2⟩
   | _=>exact q.elim
  ·obtain ⟨ρ',e,x',σ',rfl,S₂,y₂,_,q⟩:=p
   exact q.elim
abbrev rw1:OpenLaw:=PySem.Challenge.rw_no0389_02
noncomputable def d1:DefRec:=match defOf qv rw1.name with | some x=>x.1 | none=>⟨"",default,[],default,⟨0,0,0,0⟩⟩
noncomputable abbrev Yf1 (s:Shared):=(kAs.map s.heap.get?,(s.heap.get? sysModules).isSome)
noncomputable abbrev Ya1 (w:World):=((kf w.params).map fun p=>some p.2,true)
noncomputable def c0 (w:World) (G:Heap):Cx:={ prog:=pw,w,K:=kf w.params,G,A:=callerA,env:=default,fenv:=default,outer:=[],own:=[],lv:=23,fn:=true,calm:=true }
theorem sa {w:World}{G:Heap}{mg mb:Str->Option Value} (X:(kf w.params).In G) (g:G.Ns mainGlobals mg) (b:G.Ns builtinsNs mb) (hb:∀ x:Str,x ≠ "__name__" -> mb x=bootBuiltins x) (l:G.NoLimit) (sm:∃ o,G.get? sysModules=some o):TopOk (c0 w G) where
 fr:=rfl
 hd:=fun _=>rfl
 gd:=rfl
 depth:=(by decide:301+8 * 23<=900)
 units:=(by decide:4+40 * 23<=9000)
 KG:=X
 lim:=l
 bg:=⟨mg,mb,g,b,fun x e=>rR X g e,fun x v n e=>by rw [hb x n];exact e⟩
 sm:=sm
abbrev LawBody:Prop:=∀ {c:Cx}{a L₀:Addr}{xs:List Int}{σ:AState}{Q:AVal->AState->Prop}{X:AExc->AState->Prop},Lib c->c.calm=true->22<=c.lv->(∃ vs,c.G.IsList a vs.toArray/\VRs c.G vs (xs.map .int))->xs.length<=63->(∀ σ',Q (.bool true) σ')->∀ body:List Stmt,fd573.body=.stmts body ->
  WSs (c.top fd573 573 L₀) (bI fd573.scope.names [.ref a]) body σ (NQ Q) Q (XF X)
theorem qm {R:WRecords}{cl:Str->Option Addr}{h:Heap}{ns:List Int}:∀ {vs:List Value}{as:List Addr},ReadsAllW R cl h vs (ns.map WData.int) as->VRs h vs (ns.map .int):=by
 induction ns with
 | nil=>intro vs as r;rw [(readsAllW_nil_inv r).1];exact .nil
 | cons i ns ih =>
  intro vs as r
  refine ex4 (readsAllW_cons_inv r) fun v ws _ _ q=>an4 q fun e _ x r=>?_
  refine ex1 (readsW_int_inv x) fun t e2=>?_
  rw [e,e2.1];exact .cons (.int _ _) (ih r)
theorem q9 {R:WRecords}{cl:Str->Option Addr}{h:Heap}{vs:List Value}{args:List WData}{as:List Addr} (r:ReadsAllW R cl h vs args as) (e:WShape.hasAll R args [.list .int]=true)
  (p:WTm.holds R (.and (.not (.lt (.lit (.int 63)) (.len (.arg 0)))) (.lit (.bool true))) { args:=args }=true) :
  ∃ a us,vs=[.ref a]/\h.IsList a us.toArray/\∃ xs:List Int,VRs h us (xs.map .int)/\xs.length<=63:=by
 cases args with
 | nil=>cases e
 | cons d ds =>
  refine an2 (Bool.and_eq_true_iff.mp (show (WShape.has R d (.list .int) && WShape.hasAll R ds [])=true from e)) fun e1 e2=>?_
  clear e
  cases ds with
  | cons d2 ds=>cases e2
  | nil =>
   refine ex1 (hasW_list e1) fun ds q=>an2 q fun h1 e3=>?_
   clear e1 q
   obtain ⟨xs,e4⟩:=items_int e3
   rw [h1,e4] at r p
   refine ex4 (readsAllW_cons_inv r) fun v ws as bs q=>an4 q fun e5 _ x r2=>?_
   refine ex3 (readsW_list_inv x) fun a us as2 q=>an4 q fun e7 hl hr _=>?_
   refine ⟨a,us.toList,by rw [e5,(readsAllW_nil_inv r2).1,e7],hl,xs,qm hr,?_⟩
   clear r hl hr r2 q x e5 e7 e3 e4 h1
   have q:WTm.holds R (.and (.not (.lt (.lit (.int 63)) (.len (.arg 0)))) (.lit (.bool true))) { args:=[.list (xs.map WData.int)] }=!decide ((63:Int) < ((xs.map WData.int).length:Int)):=by
    show (match (match some (WData.bool !decide ((63:Int) < ((xs.map WData.int).length:Int))) with | some (.bool false)=>some (WData.bool false) | some (.bool true)=>some (.bool true) | _=>none) with | some (.bool true)=>true | _=>false)=_
    cases decide ((63:Int) < ((xs.map WData.int).length:Int))<;>rfl
   rw [q,length_map] at p
   have:=of_decide_eq_false (Bool.not_eq_true' _ ▸ p)
   walk_at "o"
theorem qB (B:LawBody):WalkX qv loose (XL qv []) Yf1 Ya1 rw1.row.toRowW d1 [] fun f vs=>PySem.call f vs:=by
 intro w s₀ s₁ mg mb G Y a o pm cd doc dV kV ho hd hcd hdf hmg hgens args vals as L hpre hlay hr hwell hlow
 obtain ⟨y1,y2⟩:=Prod.mk.inj Y
 have K0:(kf w.params).In s₀.heap:=Frag.in_of rfl y1
 have K1:=K0.keeps L.keeps
 have hm:mg "law" = some (.ref 573):=rR K1 G.T.g rfl
 have hmg:mg "law" = some (.ref a):=hmg
 obtain rfl:573=a:=Value.ref.inj (Option.some.inj (hm.symm.trans hmg))
 have sm:∃ o,s₁.heap.get? sysModules=some o:=let ⟨o,e⟩:=Option.isSome_iff_exists.mp y2;⟨o,L.keeps _ _ e⟩
 obtain ⟨p1,p2⟩:=Bool.and_eq_true_iff.mp hpre
 obtain ⟨la,us,rfl,hl,xs,hx,hz⟩:=q9 hr p1 p2
 have lib:Lib (c0 w s₁.heap):=⟨rfl,K1⟩
 have T:=sa (w:=w) K1 G.T.g G.T.b G.T.builtins G.T.nolimit sm
 refine Zm (qk (c:=c0 w s₁.heap) (Q:=fun b _=>b=.bool true) T lib (show 1<=23 by decide) f573 (body:=gc (topS 84)) rfl (as:=[.ref la]) rfl (fun L₀=>B (X:=fun _ _=>False) (Q:=fun b _=>b=.bool true) lib rfl (show 22<=23 by decide) ⟨us,hl,hx⟩ hz (fun _=>rfl) _ rfl) (fun _ _ e=>e) (.cons (.ref la) .nil)) (fun v s' z=>?_) fun _ _ z=>z.elim
 obtain ⟨b,σ'⟩|⟨r,rfl,hb,ho,hgg⟩:=z
 cases r
 have post:rw1.row.toRowW.claim.post args (.bool true) args=true:=by
  show (WShape.has [] (.bool true) .bool && WTm.holds [] (.eq .res (.lit (.bool true))) { args:=args,res:=some (.bool true),after:=args })=true
  with_unfolding_all rfl
 exact ⟨.inl ⟨_,.bool true,[],rfl,fun _=>rfl,.bool _,post,fun _=>⟨.nil,fun _ h=>nomatch h⟩⟩,.of_keep hb,ho,.of_eq (hgg.trans hgens)⟩
theorem qZ:@OpenLaw.wellSaid=@PySem.W.Fast.tw9446332074065402090:=PySem.W.Fast.te9446332074065402090
set_option maxRecDepth 1000000 in
set_option maxHeartbeats 0 in
theorem sD:rw1.wellSaid=true:=by
 rw [qZ]
 iterate 38 (refine look_both ?_ (by decide +kernel))
 decide +kernel
set_option maxRecDepth 100000 in
set_option maxHeartbeats 8000000 in
theorem t2 (B:LawBody) (said:rw1.row.wellSaid=true):rw1.row.Holds:=by
 refine holds_openX (r:=rw1.row) (q:=qv) (loose:=loose) (d:=d1) sF (XP:=XL qv []) (kwd:=[]) (fun s e=>xl_of s (Bool.and_eq_true_iff.mp e).1) XL.keeps (by rfl) (by rfl) (by rfl) (fun s e=>recFacts_of (Bool.and_eq_true_iff.mp e).2) (by rfl) said (by decide +kernel) ⟨rfl,rfl,rfl,rfl,rfl,by decide +kernel⟩ ?_ (qB B)
 exact ⟨[.list []],by decide +kernel,by decide +kernel⟩
theorem t3 (B:LawBody):PySem.Challenge.rw_no0389_02.Holds:=holds_law sD (t2 B)
section
variable {c:Cx}{ρ ρ':List NV}{σ σ₀ σ₁ σ' τ:AState}{h h' B:Heap}{s s₀ s₁ s₂ s':Shared}{Q:AVal->AState->Prop}{QB:Bool->AState->Prop}{X:AExc->AState->Prop}
def isN:AVal->Bool
 | .none=>true
 | _=>false
theorem nt {a:AVal} (hr:∀ as,a≠.tup as) (q:Q (.bool (isN a)) σ):Cmp c ρ .Is a .none σ Q X:=fun vs s S r=>by
 apply r.two';intro v w ra b
 apply b.none'
 refine is_none ?_
 have:(v == Value.none)=isN a:=by cases ra<;>first | rfl | exact absurd rfl (hr _)
 show GPost VR c ρ σ s Q (.bool (v == .none)) s
 rw [this];exact .here S (.bool _) q
theorem f9 {a:AVal} (hr:∀ as,a≠.tup as) (q:Q (.bool (!isN a)) σ):Cmp c ρ .IsNot a .none σ Q X:=fun vs s S r=>by
 apply r.two';intro v w ra b
 apply b.none'
 refine isNot_none ?_
 have:(v == Value.none)=isN a:=by cases ra<;>first | rfl | exact absurd rfl (hr _)
 show GPost VR c ρ σ s Q (.bool (!(v == .none))) s
 rw [this];exact .here S (.bool _) q
theorem gM {b:Array UInt8}{t:Tok} (q:Q (.bool true) σ):IsI c ρ (.bytes b t) "bytes" σ Q X:=g7 fun s v S r=>by
 apply r.bytes';exact call_isinstance (isinstance_true (Tx := "bytes") F.isi_meta_bytes F.sub_bytes_bytes) ⟨rfl,.here S (.bool _) q⟩
theorem VRs.take {h:Heap}:∀ {k:Nat}{vs:List Value}{as:List AVal},VRs h vs as->VRs h (vs.take k) (as.take k)
 | 0,_,_,_=>.nil
 | _+1,_,_,.nil=>.nil
 | k+1,_,_,.cons x r=>.cons x (VRs.take (k:=k) r)
def idsD (ns:List Int):List (Int × AVal):=ns.foldl (fun es n=>sto es n (.bool true)) []
theorem mE {h:Heap}:∀ {vs:List Value}{kvs:List (Int × Value)},StoredAll (fun v k=>∃ t,v=.int k t) (fun _ y=>y=.bool true) vs kvs->∀ {ns:List Int},IntsAre vs ns->KRs h kvs (idsD ns):=by
 intro vs kvs H
 induction H with
 | nil=>intro ns i;cases i;exact .nil
 | @snoc l kvs v k y _ hk hy ih =>
  intro ns i
  obtain ⟨t,rfl⟩:=hk
  subst hy
  have:∃ ns₀,ns=ns₀++[k]/\IntsAre l ns₀:=by
   clear ih
   rename_i h1
   clear h1
   induction l generalizing ns with
   | nil=>cases i with | cons n t r=>cases r;exact ⟨[],rfl,.nil⟩
   | cons a l ih=>cases i with | cons n t r=>refine ex1 (ih r) fun ns₀ h19z=>?_;refine an2 h19z fun h18z q=>?_;clear h19z;obtain rfl:=h18z;exact ⟨n::ns₀,rfl,.cons n t q⟩
  obtain ⟨ns₀⟩|⟨rfl,q⟩:=this
  unfold idsD
  rw [foldl_append]
  exact (ih q).stored (.bool true)
end
noncomputable def pick (nm:Str->Prop) (cn:Const->Prop) (bo:Expr->Operator->Expr->Prop) (co:Expr->List CmpOp->List Expr->Prop) (su:Expr->Expr->Prop) (tu:List Expr->Prop) (un:UnaryOp->Expr->Prop) (e:Expr):Prop:=match e with
 | .Name x _=>nm x
 | .Constant k _ _=>cn k
 | .BinOp l op r _=>bo l op r
 | .Compare l ops rs _=>co l ops rs
 | .Subscript v s _=>su v s
 | .Tuple es _ _=>tu es
 | .UnaryOp op e _=>un op e
 | _=>False
theorem eF {nm:Str->Prop}{cn:Const->Prop}{bo:Expr->Operator->Expr->Prop}{co:Expr->List CmpOp->List Expr->Prop}{su:Expr->Expr->Prop}{tu:List Expr->Prop}{un:UnaryOp->Expr->Prop}{M:Expr->Prop}{e:Expr} (h:pick nm cn bo co su tu un e)
  (h1:∀ x p,nm x->M (.Name x p)) (h2:∀ k n p,cn k->M (.Constant k n p)) (h3:∀ l op r p,bo l op r->M (.BinOp l op r p)) (h4:∀ l ops rs p,co l ops rs->M (.Compare l ops rs p)) (h5:∀ v s p,su v s->M (.Subscript v s p))
  (h6:∀ es k p,tu es->M (.Tuple es k p)) (h7:∀ op e p,un op e->M (.UnaryOp op e p)):M e:=by
 cases e with
 | Name x p=>exact h1 _ _ h
 | Constant k n p=>exact h2 _ _ _ h
 | BinOp l op r p=>exact h3 _ _ _ _ h
 | Compare l ops rs p=>exact h4 _ _ _ _ h
 | Subscript v s p=>exact h5 _ _ _ h
 | Tuple es k p=>exact h6 _ _ _ h
 | UnaryOp op e p=>exact h7 _ _ _ h
 | _=>exact False.elim h
noncomputable def onS (o:Option AVal) (k:AVal->Prop):Prop:=match o with
 | some a=>k a
 | none=>False
noncomputable def eqR (l:List Nat):List Nat->Bool:=@List.rec Nat (fun _=>List Nat->Bool) (fun m=>@List.casesOn Nat (fun _=>Bool) m true fun _ _=>false) (fun a _ h m=>@List.casesOn Nat (fun _=>Bool) m false fun b m=>bif Nat.beq a b then h m else false) l
noncomputable def eqN (a b:Str):=eqR a.cps.toList b.cps.toList
theorem eqR_of {l:List Nat}:∀ {m},eqR l m=true->l=m:=by
 induction l with
 | nil=>intro m h;cases m with
  | nil=>rfl
  | cons b m=>cases h
 | cons a l ih=>intro m h;cases m with
  | nil=>cases h
  | cons b m=>
   change (bif Nat.beq a b then eqR l m else false)=true at h;cases z:Nat.beq a b with
   | true=>rw [z] at h;rw [Nat.eq_of_beq_eq_true z,ih h]
   | false=>rw [z] at h;cases h
theorem eqN_of {a b:Str} (h:eqN a b=true):a=b:=by
 cases a;cases b;exact congrArg Str.mk (Array.ext' (eqR_of h))
noncomputable def jv:List NV->Str->(AVal->Prop)->Prop
 | [],_,_=>False
 | e::r,x,k=>bif eqN e.name x then onS e.val k else jv r x k
theorem fg {x:Str}{k:AVal->Prop}:∀ {ρ:List NV},jv ρ x k->∃ a,k a/\LookV ρ x a:=by
 intro ρ
 induction ρ with
 | nil=>exact fun h=>False.elim h
 | cons e r ih =>
  intro h
  obtain ⟨y,kd,v⟩:=e
  have h':bif eqN y x then onS v k else jv r x k:=h
  clear h
  cases z:eqN y x with
  | true =>
   rw [z] at h';cases eqN_of z
   cases v with
   | none=>exact False.elim h'
   | some a=>exact ⟨a,h',.here⟩
  | false=>rw [z] at h';exact ex1 (ih h') fun a g=>an2 g fun g1 g2=>⟨a,g1,.next g2⟩
noncomputable def cmpK (op:CmpOp) (a b:AVal) (k:Bool->Prop):Prop:=match a with
 | .int i=>(match b with
  | .int j=>(match op with
   | .Eq=>k (i == j)
   | .NotEq=>k (i != j)
   | .Lt=>k (decide (i < j))
   | .LtE=>k (decide (i<=j))
   | .Gt=>k (decide (j < i))
   | .GtE=>k (decide (j<=i))
   | _=>False)
  | _=>False)
 | .str i=>(match b with
  | .str j=>(match op with
   | .Eq=>k (i == j)
   | .NotEq=>k (i != j)
   | _=>False)
  | _=>False)
 | _=>False
noncomputable def opK (op:Operator) (a b:AVal) (k:AVal->Prop):Prop:=match a with
 | .int i=>(match b with
  | .int j=>(match op with
   | .Add=>k (.int (i+j))
   | .Sub=>k (.int (i - j))
   | _=>False)
  | _=>False)
 | _=>False
noncomputable def qo (c:Const) (k:AVal->Prop):Prop:=match c with
 | .int i=>k (.int i)
 | .str x=>k (.str x)
 | .bool b=>k (.bool b)
 | .none=>k .none
 | _=>False
noncomputable def nthK:List AVal->Nat->(AVal->Prop)->Prop
 | [],_,_=>False
 | a::r,n,k=>match n with
  | 0=>k a
  | n+1=>nthK r n k
theorem oV {k:AVal->Prop}:∀ {as:List AVal}{n:Nat},nthK as n k->∃ a,k a/\as[n]?=some a:=by
 intro as
 induction as with
 | nil=>exact fun h=>False.elim h
 | cons a r ih=>intro n h;cases n with
  | zero=>exact ⟨a,h,rfl⟩
  | succ n=>exact ih h
noncomputable def natK (c:Const) (k:Nat->Prop):Prop:=match c with
 | .int i=>(match i with
  | .ofNat n=>bif Nat.ble n 1000 then k n else False
  | _=>False)
 | _=>False
noncomputable def rQ (a:AVal) (k:List AVal->Prop):Prop:=match a with
 | .tup as=>k as
 | _=>False
noncomputable def uno {α:Type} (l:List α) (k:α->Prop):Prop:=match l with
 | []=>False
 | a::r=>match r with
  | []=>k a
  | _=>False
theorem kQ {α:Type}{l:List α}{k:α->Prop} (h:uno l k):∃ a,l=[a]/\k a:=by
 cases l with
 | nil=>exact False.elim h
 | cons a r=>cases r with
  | nil=>exact ⟨a,rfl,h⟩
  | cons _ _=>exact False.elim h
noncomputable def cmpE (f:Expr->(AVal->Prop)->Prop) (k:Bool->Prop) (l:Expr) (ops:List CmpOp) (rs:List Expr):Prop :=
 uno ops fun op=>uno rs fun r=>bif behindInMarks op r then False else f l fun a=>f r fun b=>cmpK op a b k
noncomputable def peS (ρ:List NV) (f:Expr->(AVal->Prop)->Prop) (fs:List Expr->(List AVal->Prop)->Prop) (e:Expr) (k:AVal->Prop):Prop :=
 pick (fun x=>jv ρ x k) (fun c=>qo c k) (fun l op r=>f l fun a=>f r fun b=>opK op a b k) (cmpE f fun z=>k (.bool z))
  (fun v s=>pick (fun _=>False) (fun c=>natK c fun n=>f v fun a=>rQ a fun as=>nthK as n k) (fun _ _ _=>False) (fun _ _ _=>False) (fun _ _=>False) (fun _=>False) (fun _ _=>False) s)
  (fun es=>fs es fun as=>k (.tup as)) (fun _ _=>False) e
noncomputable def pesS (f:Expr->(AVal->Prop)->Prop) (fs:List Expr->(List AVal->Prop)->Prop) (es:List Expr) (k:List AVal->Prop):Prop:=match es with
 | []=>k []
 | e::es=>f e fun a=>fs es fun as=>k (a::as)
noncomputable def peB (ρ:List NV):Nat->(Expr->(AVal->Prop)->Prop) × (List Expr->(List AVal->Prop)->Prop)
 | 0=>(fun _ _=>False,fun _ _=>False)
 | n+1=>(peS ρ (peB ρ n).1 (peB ρ n).2,pesS (peB ρ n).1 (peB ρ n).2)
def EvOf (ρ:List NV) (e:Expr) (a:AVal):Prop:=∀ c σ Q X,Q a σ->Ev c ρ e σ Q X
def EvLOf (ρ:List NV) (n:Nat) (es:List Expr) (as:List AVal):Prop:=as.length<=n/\∀ c pos σ QL X,QL as σ->EvL c ρ pos es σ QL X
def TstOf (ρ:List NV) (e:Expr) (a:Bool):Prop:=∀ c σ Q X,Q a σ->Tst c ρ e σ Q X
def PV (ρ:List NV) (f:Expr->(AVal->Prop)->Prop):Prop:=∀ {e k},f e k->∃ a,k a/\EvOf ρ e a
theorem lW {ρ:List NV}{c:Const}{n:Nat}{p:Pos}{k:AVal->Prop} (h:qo c k):∃ a,k a/\EvOf ρ (.Constant c n p) a:=by
 cases c with
 | int i=>exact ⟨_,h,fun _ _ _ _ q=>ev_int q⟩
 | str x=>exact ⟨_,h,fun _ _ _ _ q=>ev_str q⟩
 | bool b=>exact ⟨_,h,fun _ _ _ _ q=>ev_bool q⟩
 | none=>exact ⟨_,h,fun _ _ _ _ q=>ev_none q⟩
 | _=>exact False.elim h
theorem pX {op:Operator}{a b:AVal}{k:AVal->Prop} (h:opK op a b k):∃ z,k z/\∀ c ρ σ Q X,Q z σ->Op2 c ρ op a b σ Q X:=by
 cases a with
 | int i=>cases b with
  | int j=>cases op with
   | Add=>exact ⟨_,h,fun _ _ _ _ _ q=>mM q⟩
   | Sub=>exact ⟨_,h,fun _ _ _ _ _ q=>mY q⟩
   | _=>exact False.elim h
  | _=>exact False.elim h
 | _=>exact False.elim h
theorem pF {op:CmpOp}{a b:AVal}{k:Bool->Prop} (h:cmpK op a b k):∃ z,k z/\∀ c ρ σ Q X,Q (.bool z) σ->Cmp c ρ op a b σ Q X:=by
 cases a with
 | int i=>cases b with
  | int j=>cases op with
   | Eq=>exact ⟨_,h,fun _ _ _ _ _ q=>mS q⟩
   | NotEq=>exact ⟨_,h,fun _ _ _ _ _ q=>nE q⟩
   | Lt=>exact ⟨_,h,fun _ _ _ _ _ q=>nh q⟩
   | LtE=>exact ⟨_,h,fun _ _ _ _ _ q=>kh q⟩
   | Gt=>exact ⟨_,h,fun _ _ _ _ _ q=>m7 q⟩
   | GtE=>exact ⟨_,h,fun _ _ _ _ _ q=>nN q⟩
   | _=>exact False.elim h
  | _=>exact False.elim h
 | str i=>cases b with
  | str j=>cases op with
   | Eq=>exact ⟨_,h,fun _ _ _ _ _ q=>kA q⟩
   | NotEq=>exact ⟨_,h,fun _ _ _ _ _ q=>j5 q⟩
   | _=>exact False.elim h
  | _=>exact False.elim h
 | _=>exact False.elim h
theorem bifF {z:Bool}{P:Prop} (h:bif z then False else P):z=false/\P:=by
 cases z with
 | true=>exact False.elim h
 | false=>exact ⟨rfl,h⟩
theorem bifT {z:Bool}{P:Prop} (h:bif z then P else False):z=true/\P:=by
 cases z with
 | false=>exact False.elim h
 | true=>exact ⟨rfl,h⟩
theorem jR {ρ:List NV}{f:Expr->(AVal->Prop)->Prop}{k:Bool->Prop}{l:Expr}{ops:List CmpOp}{rs:List Expr}{p:Pos} (F:PV ρ f) (h:cmpE f k l ops rs) :
  ∃ z,k z/\EvOf ρ (.Compare l ops rs p) (.bool z)/\TstOf ρ (.Compare l ops rs p) z:=by
 refine ex1 (kQ h) fun op g=>an2 g fun e g=>?_
 refine ex1 (kQ g) fun r g=>an2 g fun e' g=>an2 (bifF g) fun hm g=>ex1 (F g) fun a g=>an2 g fun g ha=>ex1 (F g) fun b g=>an2 g fun g hb=>ex1 (pF g) fun z g=>an2 g fun g hz=>?_
 rw [e,e']
 exact ⟨z,g,fun _ _ _ _ q=>ev_compare1 (ha _ _ _ _ (hb _ _ _ _ (hz _ _ _ _ _ q))) hm,fun _ _ _ _ q=>dy (ha _ _ _ _ (hb _ _ _ _ (hz _ _ _ _ _ (gS q)))) hm⟩
theorem pP {ρ:List NV}{f:Expr->(AVal->Prop)->Prop}{k:AVal->Prop}{v:Expr}{c:Const}{m:Nat}{p' p:Pos} (F:PV ρ f) (h:natK c fun n=>f v fun a=>rQ a fun as=>nthK as n k):∃ a,k a/\EvOf ρ (.Subscript v (.Constant c m p') p) a:=by
 cases c with
 | int i=>cases i with
  | ofNat n =>
   refine an2 (bifT h) fun hn g=>ex1 (F g) fun a g=>an2 g fun g ha=>?_
   cases a with
   | tup as=>exact ex1 (oV g) fun a g=>an2 g fun g e=>⟨a,g,fun _ _ _ _ q=>ev_subscript (ha _ _ _ _ (ev_int (pd (Int.natCast_nonneg n) (Int.lt_of_le_of_lt (Int.ofNat_le.mpr (Nat.le_of_ble_eq_true hn)) (by decide)) e q)))⟩
   | _=>exact False.elim g
  | _=>exact False.elim h
 | _=>exact False.elim h
theorem qG {ρ:List NV}{n:Nat}{e:Expr}{k:AVal->Prop} (h:(peB ρ n).1 e k) (es:List Expr) (env:Env):starEach (e::es) env=(false,eval e env)::starEach es env:=by
 cases n with
 | zero=>exact False.elim h
 | succ n=>exact eF (M:=fun e=>starEach (e::es) env=(false,eval e env)::starEach es env) h (fun _ _ _=>rfl) (fun _ _ _ _=>rfl) (fun _ _ _ _ _=>rfl) (fun _ _ _ _ _=>rfl) (fun _ _ _ _=>rfl) (fun _ _ _ _=>rfl) (fun _ _ _ _=>rfl)
theorem kE {ρ:List NV} (n:Nat):n<=1000->PV ρ (peB ρ n).1/\∀ {es k},(peB ρ n).2 es k->∃ as,k as/\EvLOf ρ n es as:=by
 induction n with
 | zero=>exact fun _=>⟨fun h=>False.elim h,fun h=>False.elim h⟩
 | succ n ih =>
  intro hn
  refine an2 (ih (Nat.le_of_succ_le hn)) fun i1 i2=>⟨fun {e k} h=>?_,fun {es k} h=>?_⟩
  ·exact eF (M:=fun e=>∃ a,k a/\EvOf ρ e a) h (fun x p h=>ex1 (fg h) fun a g=>an2 g fun g l=>⟨a,g,fun _ _ _ _ q=>ev_name l q⟩) (fun c n p h=>lW h)
    (fun l op r p h=>ex1 (i1 h) fun a g=>an2 g fun g ha=>ex1 (i1 g) fun b g=>an2 g fun g hb=>ex1 (pX g) fun z g=>an2 g fun g hz=>⟨z,g,fun _ _ _ _ q=>ev_binop (ha _ _ _ _ (hb _ _ _ _ (hz _ _ _ _ _ q)))⟩)
    (fun l ops rs p h=>ex1 (jR i1 h) fun z g=>an3 g fun g hz _=>⟨_,g,hz⟩)
    (fun v s p h=>eF (M:=fun s=>∃ a,k a/\EvOf ρ (.Subscript v s p) a) h (fun _ _ h=>False.elim h) (fun c n p h=>pP i1 h) (fun _ _ _ _ h=>False.elim h) (fun _ _ _ _ h=>False.elim h) (fun _ _ _ h=>False.elim h) (fun _ _ _ h=>False.elim h) (fun _ _ _ h=>False.elim h))
    (fun es _ p h=>ex1 (i2 h) fun as g=>an2 g fun g hl=>an2 hl fun hz hl=>⟨_,g,fun _ _ _ _ q=>ev_tuple (hl _ _ _ _ _ ⟨Zt hz (Zt (Nat.le_of_succ_le hn) (by decide)),q⟩)⟩) (fun _ _ _ h=>False.elim h)
  ·cases es with
   | nil=>exact ⟨[],h,Nat.zero_le _,fun _ _ _ _ _ q=>du q⟩
   | cons e es=>exact ex1 (i1 h) fun a g=>an2 g fun g ha=>ex1 (i2 g) fun as g=>an2 g fun g hl=>an2 hl fun hz hl=>⟨a::as,g,Nat.succ_le_succ hz,fun _ _ _ _ _ q=>bK (ha _ _ _ _ (hl _ _ _ _ _ q)) (qG h _ _)⟩
noncomputable def sQ (a:AVal) (k:Bool->Prop):Prop:=match a with
 | .bool b=>k b
 | _=>False
noncomputable def ptS (ρ:List NV) (k:Bool->Prop) (e:Expr) (un:UnaryOp->Expr->Prop):Prop :=
 pick (fun x=>jv ρ x fun a=>sQ a k) (fun _=>False) (fun _ _ _=>False) (cmpE (peB ρ 12).1 k) (fun _ _=>False) (fun _=>False) un e
noncomputable def ptK (ρ:List NV) (e:Expr) (k:Bool->Prop):Prop:=ptS ρ k e fun op e=>match op with
 | .Not=>ptS ρ (fun z=>k (!z)) e fun _ _=>False
 | _=>False
theorem lK {ρ:List NV}{k:Bool->Prop}{e:Expr}{un:UnaryOp->Expr->Prop} (h:ptS ρ k e un) (hu:∀ op e p,un op e->∃ z,k z/\TstOf ρ (.UnaryOp op e p) z):∃ z,k z/\TstOf ρ e z :=
 eF (M:=fun e=>∃ z,k z/\TstOf ρ e z) h (fun x p h=>ex1 (fg h) fun a g=>an2 g fun g l=>by
   cases a with
   | bool b=>exact ⟨b,g,fun _ _ _ _ q=>f6 (ev_name l (gS q))⟩
   | _=>exact False.elim g) (fun _ _ _ h=>False.elim h) (fun _ _ _ _ h=>False.elim h)
  (fun l ops rs p h=>ex1 (jR (kE 12 (by decide)).1 h) fun z g=>an3 g fun g _ hz=>⟨_,g,hz⟩) (fun _ _ _ h=>False.elim h) (fun _ _ _ h=>False.elim h) hu
theorem mA {ρ:List NV}{k:Bool->Prop}{e:Expr} (h:ptK ρ e k):∃ z,k z/\TstOf ρ e z:=lK h fun op e p h=>by
 cases op with
 | Not=>exact ex1 (lK h fun _ _ _ h=>False.elim h) fun z g=>an2 g fun g hz=>⟨_,g,fun _ _ _ _ q=>kL (hz _ _ _ _ q)⟩
 | _=>exact False.elim h
noncomputable def ifK (s:Stmt) (k:Expr->Prop):Prop:=match s with
 | .If t _ o _=>(match o with
  | []=>k t
  | _=>False)
 | _=>False
noncomputable def rW (z:Bool) (P:Prop):Prop:=bif z then False else P
noncomputable def ll (ρ:List NV):Nat->List Stmt->(List Stmt->Prop)->Prop
 | 0,ss,k=>k ss
 | n+1,ss,k=>match ss with
  | s::rest=>ifK s fun t=>ptK ρ t fun z=>rW z (ll ρ n rest k)
  | []=>False
noncomputable def setK (e:NV) (a:AVal) (r:List NV) (k:List NV->Prop):Prop:=match e with
 | ⟨y,kd,_⟩=>match kd with
  | .local=>k (⟨y,.local,some a⟩::r)
  | .cell=>k (⟨y,.cell,some a⟩::r)
  | _=>False
noncomputable def putK:List NV->Str->AVal->(List NV->Prop)->Prop
 | [],_,_,_=>False
 | e::r,x,a,k=>bif eqN e.name x then setK e a r k else putK r x a fun r'=>k (e::r')
theorem pA {x:Str}{a:AVal}:∀ {ρ:List NV}{k:List NV->Prop},putK ρ x a k->∃ ρ',k ρ'/\Put ρ x a ρ':=by
 intro ρ
 induction ρ with
 | nil=>exact fun h=>False.elim h
 | cons e r ih =>
  intro k h
  obtain ⟨y,kd,v⟩:=e
  have h':bif eqN y x then setK ⟨y,kd,v⟩ a r k else putK r x a fun r'=>k (⟨y,kd,v⟩::r'):=h
  clear h
  cases z:eqN y x with
  | true =>
   rw [z] at h';cases eqN_of z
   cases kd with
   | «local»=>exact ⟨_,h',.here (.inl rfl)⟩
   | cell=>exact ⟨_,h',.here (.inr rfl)⟩
   | _=>exact False.elim h'
  | false=>rw [z] at h';exact ex1 (ih h') fun a g=>an2 g fun g1 g2=>⟨_,g1,.next g2⟩
theorem got {α:Type}{a:α}{M:α->Prop} (h:∃ b,a=b/\M b):M a:=by obtain ⟨b,e,m⟩:=h;exact e ▸ m
section
variable {c:Cx}{ρ ρ':List NV}{σ:AState}{Q:AVal->AState->Prop}{X:AExc->AState->Prop}{N:List NV->AState->Prop}{R:AVal->AState->Prop}{XS:AExc->List NV->AState->Prop}
theorem LookV.of {x:Str}{a:AVal} (h:jv ρ x fun b=>a=b):LookV ρ x a:=got (fg h)
theorem Put.of {x:Str}{a:AVal} (h:putK ρ x a fun b=>ρ'=b):Put ρ x a ρ':=got (pA h)
noncomputable def isG:List NV->Str->Bool
 | [],_=>false
 | e::r,x=>match e.kind with
  | .globalImplicit=>bif eqN e.name x then true else isG r x
  | _=>isG r x
theorem LookG.of {x:Str} (h:true=isG ρ x):LookG ρ x:=by
 induction ρ with
 | nil=>cases h
 | cons e r ih =>
  obtain ⟨y,k,v⟩:=e
  cases k with
  | globalImplicit =>
   have h':true=(bif eqN y x then true else isG r x):=h
   cases z:eqN y x with
   | true=>cases eqN_of z;exact .here
   | false=>rw [z] at h';exact .next (ih h')
  | _=>exact .next (ih h)
theorem ev_pe {e:Expr}{a:AVal} (h:(peB ρ 12).1 e fun b=>a=b) (q:Q a σ):Ev c ρ e σ Q X:=got ((kE 12 (by decide)).1 h) _ _ _ _ q
theorem p6 {pos:Pos}{es:List Expr}{as:List AVal}{QL:List AVal->AState->Prop} (h:(peB ρ 12).2 es fun b=>as=b) (q:QL as σ):EvL c ρ pos es σ QL X:=(got ((kE 12 (by decide)).2 h)).2 _ _ _ _ _ q
theorem nQ {e:Expr}{b:Bool}{QB:Bool->AState->Prop} (h:ptK ρ e fun z=>b=z) (q:QB b σ):Tst c ρ e σ QB X:=got (mA h) _ _ _ _ q
theorem iC (n:Nat) {rest:List Stmt} (q:WSs c ρ rest σ N R XS):∀ {ss:List Stmt},(ll ρ n ss fun r=>rest=r)->WSs c ρ ss σ N R XS:=by
 induction n with
 | zero=>intro ss h;exact (show rest=ss from h) ▸ q
 | succ n ih =>
  intro ss h
  cases ss with
  | nil=>exact False.elim h
  | cons s ss=>cases s with
   | If t b o p=>cases o with
    | nil=>exact ex1 (mA h) fun z g=>an2 g fun g hz=>an2 (bifF g) fun e g=>kC (hz _ _ _ _ (by rw [e];exact g9 (ih g)))
    | cons _ _=>exact False.elim h
   | _=>exact False.elim h
theorem oB {ss rest:List Stmt} (h:ll ρ 6 ss fun r=>rest=r) (q:WSs c ρ rest σ N R XS):WSs c ρ ss σ N R XS:=iC 6 q h
theorem oH {ss rest:List Stmt} (h:ll ρ 3 ss fun r=>rest=r) (q:WSs c ρ rest σ N R XS):WSs c ρ ss σ N R XS:=iC 3 q h
theorem oz {ss rest:List Stmt} (h:ll ρ 1 ss fun r=>rest=r) (q:WSs c ρ rest σ N R XS):WSs c ρ ss σ N R XS:=iC 1 q h
theorem nX {t:Expr}{b o rest:List Stmt}{p:Pos}{z:Bool} (h:ptK ρ t fun w=>z=w) (q:KIfS c ρ b o (KS c rest N R XS) R XS z σ):WSs c ρ (.If t b o p::rest) σ N R XS:=kC (nQ h q)
theorem kW {e:Expr}{p:Pos}{rest:List Stmt}{a:AVal} (h:(peB ρ 12).1 e fun b=>a=b) (q:R a σ):WSs c ρ (.Return (some e) p::rest) σ N R XS:=ky (ev_pe h q)
theorem ac {x:Str}{a:AVal} (h:putK ρ x a fun r=>ρ'=r) (q:N ρ' σ):Puts ρ x a N σ:=⟨_,.of h,q⟩
theorem qu {x:Str}{p' p:Pos}{value:Expr}{a:AVal}{rest:List Stmt} (hf:c.fn=true) (h:(peB ρ 12).1 value fun b=>a=b) (h':putK ρ x a fun r=>ρ'=r) (q:WSs c ρ' rest σ N R XS)
  (hs:swapsWith value (some (.Name x p')) p.line c.env=pure false:=by walk_at "u"):WSs c ρ (.Assign [.Name x p'] value p::rest) σ N R XS:=eX hf (ev_pe h (ac h' q)) hs
end
theorem ei2 {α0 α1:Type}{p:α0->α1->Prop} (x0:α0) (x1:α1) (h:p x0 x1):∃ x0 x1,p x0 x1:=⟨x0,x1,h⟩
theorem ei3 {α0 α1 α2:Type}{p:α0->α1->α2->Prop} (x0:α0) (x1:α1) (x2:α2) (h:p x0 x1 x2):∃ x0 x1 x2,p x0 x1 x2:=⟨x0,x1,x2,h⟩
theorem ai4 {a0 a1 a2 a3:Prop} (h0:a0) (h1:a1) (h2:a2) (h3:a3):a0/\a1/\a2/\a3:=⟨h0,h1,h2,h3⟩
theorem ai5 {a0 a1 a2 a3 a4:Prop} (h0:a0) (h1:a1) (h2:a2) (h3:a3) (h4:a4):a0/\a1/\a2/\a3/\a4:=⟨h0,h1,h2,h3,h4⟩
theorem ai6 {a0 a1 a2 a3 a4 a5:Prop} (h0:a0) (h1:a1) (h2:a2) (h3:a3) (h4:a4) (h5:a5):a0/\a1/\a2/\a3/\a4/\a5:=⟨h0,h1,h2,h3,h4,h5⟩
theorem ai7 {a0 a1 a2 a3 a4 a5 a6:Prop} (h0:a0) (h1:a1) (h2:a2) (h3:a3) (h4:a4) (h5:a5) (h6:a6):a0/\a1/\a2/\a3/\a4/\a5/\a6:=⟨h0,h1,h2,h3,h4,h5,h6⟩
theorem ai8 {a0 a1 a2 a3 a4 a5 a6 a7:Prop} (h0:a0) (h1:a1) (h2:a2) (h3:a3) (h4:a4) (h5:a5) (h6:a6) (h7:a7):a0/\a1/\a2/\a3/\a4/\a5/\a6/\a7:=⟨h0,h1,h2,h3,h4,h5,h6,h7⟩
section
variable {α β:Type}{R:Heap->α->β->Prop}{c:Cx}{ρ ρ':List NV}{σ σ₁ σ' τ:AState}{s s':Shared}{Q:β->AState->Prop}{X:AExc->AState->Prop}
variable {N:List NV->AState->Prop}{RR:AVal->AState->Prop}{XS:AExc->List NV->AState->Prop}
theorem St.fewer {h:Heap} (S:St c ρ σ' h) (l:Le τ σ'):St c ρ τ h:=S.less l
theorem Step.fewer (y:Step c σ s σ' s') (l:Le τ σ'):Step c σ s τ s':=⟨y.kept,y.there,(fun b o e q=>by
 have:=y.grow b o e q
 cases z:τ b with
 | none=>rfl
 | some o=>rw [l b o z] at this;cases this),y.gens,y.os⟩
inductive Tidy (Q:β->AState->Prop) (a:β) (σ':AState):Prop
 | mk (τ:AState) (l:Le τ σ') (q:Q a τ)
theorem Tidy.of {a:β} (l:Le τ σ) (q:Q a τ):Tidy Q a σ:=⟨τ,l,q⟩
theorem GPost.tidy {v:α} (p:GPost R c ρ σ s (Tidy Q) v s'):GPost R c ρ σ s Q v s':=by
 obtain ⟨a,σ',r,S,y,τ,l,q⟩:=p;exact ⟨a,τ,r,S.fewer l,y.fewer l,q⟩
theorem GoV.tidy {as:List AVal}{t:List Value->Sem α} (g:GoV R c ρ as t σ (Tidy Q) X):GoV R c ρ as t σ Q X:=fun vs s S r=>Zm (g vs s S r) (fun _ _ p=>p.tidy) fun _ _ z=>z
theorem FPost.tidy {fl:Flow} (p:FPost c σ s (Tidy N) (Tidy RR) fl s'):FPost c σ s N RR fl s':=by
 obtain ⟨ρ',σ',S,y,q⟩:=p
 cases fl with
 | next=>obtain ⟨τ,l,q⟩:=q;exact ⟨ρ',τ,S.fewer l,y.fewer l,q⟩
 | ret v=>obtain ⟨a,r,τ,l,q⟩:=q;exact ⟨ρ',τ,S.fewer l,y.fewer l,a,r,q⟩
 | _=>exact q.elim
abbrev TidyX (X:AExc->AState->Prop):AExc->AState->Prop:=Tidy X
theorem Flown.fewer {e:Addr}{x:AExc}{h:Heap} (F:Flown c σ' s e x h) (l:Le τ σ'):Flown c τ s e x h:=by
 have no:∀ b,σ' b=none->τ b=none:=fun b q=>by
  cases z:τ b with
  | none=>rfl
  | some o=>rw [l b o z] at q;cases q
 obtain ⟨fl,B,P,F,r⟩:=F
 refine ⟨fl,B,P,{ F with new:=fun b hb=>an4 (F.new b hb) fun h1 h2 h3 h4=>⟨h1,h2,no b h3,h4⟩,here:=?_ },r⟩
 obtain ⟨oe,vs,d,m,h1,h2,h3,h4,h5,⟨h6,h61,h62,h63⟩,h7⟩:=F.here
 exact ⟨oe,vs,d,m,h1,h2,h3,h4,h5,⟨h6,h61,h62,no d h63⟩,h7⟩
theorem XPost.tidy {v:Value} (p:XPost c ρ σ s (TidyX X) v s'):XPost c ρ σ s X v s':=by
 obtain ⟨e,x,σ',rfl,S,y,F,τ,l,q⟩:=p
 exact ⟨e,x,τ,rfl,S.fewer l,y.fewer l,F.fewer l,q⟩
theorem GoV.tidyX {as:List AVal}{t:List Value->Sem α} (g:GoV R c ρ as t σ (Tidy Q) (TidyX X)):GoV R c ρ as t σ Q X:=fun vs s S r=>Zm (g vs s S r) (fun _ _ p=>p.tidy) fun _ _ z=>z.tidy
theorem WSs.tidy {ss:List Stmt} (g:WSs c ρ ss σ (Tidy N) (Tidy RR) XS):WSs c ρ ss σ N RR XS:=fun s S=>Zm (g s S) (fun _ _ p=>p.tidy) fun _ _ z=>z
theorem fresh {P:AState->Prop}{D:Addr}{o:AObj} (hD:σ D=none) (k:∀ σ',Le σ σ'->σ' D=some o->P σ'):P (σ.set D o):=k _ (Zl hD) (Zs ..)
theorem ifT {A B:Prop} (h:A):if true=true then A else B:=by rw [if_pos rfl];exact h
theorem ifF {A B:Prop} (h:B):if false=true then A else B:=by rw [if_neg (by decide)];exact h
theorem aj {b:Bool}{A B:Prop} (h1:b=true->A) (h2:b=false->B):if b=true then A else B:=by
 cases b
 ·exact ifF (h2 rfl)
 ·exact ifT (h1 rfl)
section
variable {n m k:Nat}{fd:FuncData}{a L C:Addr}{r:List Value}{sc:Scope}{cl:List (Str × Addr)}
theorem Cx.lv_call (h:n+1<=c.lv):n<=(c.call fd a L).lv:=Nat.le_sub_of_add_le h
theorem Cx.lv_mk' (h:n+1<=c.lv):n<=(c.mk' C r).lv:=Nat.le_sub_of_add_le h
theorem Cx.lv_comp (h:n<=c.lv):n<=(c.comp sc cl C).lv:=h
theorem Cx.lv_hand (h:n<=c.lv):n<=(c.hand a).lv:=h
theorem sL (h:m<=k) (e:Nat.ble n m=true):n<=k:=Zt (Nat.le_of_ble_eq_true e) h
end
def Fr (F:List Addr) (σ σ':AState):Prop:=∀ a o,σ a=some o->a∉F->σ' a=some o
theorem Fr.refl {F:List Addr}:Fr F σ σ:=fun _ _ e _=>e
theorem Le.fr {F:List Addr} (l:Le σ σ'):Fr F σ σ':=fun a o e _=>l a o e
theorem Fr.trans {F:List Addr} (x:Fr F σ σ₁) (y:Fr F σ₁ σ'):Fr F σ σ':=fun a o e n=>y a o (x a o e n) n
theorem Fr.mono {F G:List Addr} (x:Fr F σ σ') (h:∀ a∈F,a∈G):Fr G σ σ':=fun a o e n=>x a o e fun z=>n (h a z)
theorem Fr.set {F:List Addr}{d:Addr}{o:AObj} (x:Fr F σ σ') (h:d∈F):Fr F σ (σ'.set d o):=fun a ob e n=>by
 have hne:a≠d:=fun z=>n (by rw [z];exact h)
 rw [Zn hne];exact x a ob e n
theorem Fr.le {F:List Addr} (x:Fr F σ σ₁) (l:Le σ₁ σ'):Fr F σ σ':=fun a o e n=>l a o (x a o e n)
end
structure Ltr where
 uid:Int
 oct:AVal
 flags:List Str
 instant:Int
 modseq:Int
noncomputable def letterNs:List Str:=["uid", "octets", "flags", "instant", "modseq"]
noncomputable def dA (L:Ltr):Str->Option AVal:=fun y =>
 if y = "uid" then some (.int L.uid) else if y = "octets" then some L.oct else if y = "flags" then some (.tup (L.flags.map .str)) else if y = "instant" then some (.int L.instant) else if y = "modseq" then some (.int L.modseq) else none
noncomputable def LtrAt (σ:AState) (a:Addr) (L:Ltr):Prop:=InstIs σ a 125 letterNs (dA L)
structure Bx where
 name:Str
 validity:Int
 next:Int
 top:Int
 floor:Int
 letters:List Ltr
 gone:List (Int × Int)
structure BxA where
 x:Addr
 d:Addr
 l:Addr
 g:Addr
noncomputable def boxNs:List Str:=["name", "validity", "next_uid", "top", "floor", "letters", "gone"]
noncomputable def boxM (A:BxA) (B:Bx):Str->Option AVal:=fun y =>
 if y = "name" then some (.str B.name) else if y = "validity" then some (.int B.validity) else if y = "next_uid" then some (.int B.next) else if y = "top" then some (.int B.top) else if y = "floor" then some (.int B.floor)
 else if y = "letters" then some (.ref A.l) else if y = "gone" then some (.ref A.g) else none
noncomputable def bE (p:Int × Int):AVal:=.tup [.int p.1,.int p.2]
inductive LtrsAt (σ:AState):List Addr->List Ltr->Prop
 | nil:LtrsAt σ [] []
 | cons {a:Addr}{L:Ltr}{as:List Addr}{Ls:List Ltr}:LtrAt σ a L->LtrsAt σ as Ls->LtrsAt σ (a::as) (L::Ls)
structure BoxAt (σ:AState) (A:BxA) (B:Bx):Prop where
 x:σ A.x=some (.inst 163 A.d)
 d:σ A.d=some (.attrs boxNs (boxM A B))
 l:∃ xs,σ A.l=some (.list (xs.map .ref))/\LtrsAt σ xs B.letters
 g:σ A.g=some (.list (B.gone.map bE))
 lg:A.l≠A.g
structure StA where
 x:Addr
 d:Addr
 b:Addr
 s:Addr
noncomputable def storeNs:List Str:=["boxes", "subscribed", "next_validity"]
noncomputable def aQ (A:StA) (n:Int):Str->Option AVal:=fun y=>if y = "boxes" then some (.ref A.b) else if y = "subscribed" then some (.ref A.s) else if y = "next_validity" then some (.int n) else none
structure Sto where
 boxes:List (Str × Bx)
 names:List Str
 next:Int
noncomputable def BxA.foot (A:BxA):List Addr:=[A.d,A.l,A.g]
noncomputable def LibK (K:Frag):Prop:=∃ P,K=kf P
theorem Lib.toK {c:Cx} (x:Lib c):LibK c.K:=⟨_,x.K⟩
theorem cJ {K:Frag} (x:LibK K):ClsOk K 125:=by obtain ⟨_,rfl⟩:=x;exact ⟨⟨_,rfl,rfl⟩,rfl,rfl,rfl,rfl⟩
theorem bl {K:Frag} (x:LibK K):ClsOk K 163:=by obtain ⟨_,rfl⟩:=x;exact ⟨⟨_,rfl,rfl⟩,rfl,rfl,rfl,rfl⟩
theorem dC {K:Frag} (x:LibK K):ClsOk K 340:=by obtain ⟨_,rfl⟩:=x;exact ⟨⟨_,rfl,rfl⟩,rfl,rfl,rfl,rfl⟩
section
variable {c:Cx} (x:Lib c)
include x
theorem r5:ClsOk c.K 125:=cJ x.toK
theorem nI:ClsOk c.K 163:=bl x.toK
theorem nu:ClsOk c.K 340:=dC x.toK
theorem sU:MkOk c.K 125 108:=by rw [x.K];exact ⟨rfl,rfl,rfl,rfl⟩
theorem sO:MkOk c.K 163 143:=by rw [x.K];exact ⟨rfl,rfl,rfl,rfl⟩
theorem sJ:MkOk c.K 340 311:=by rw [x.K];exact ⟨rfl,rfl,rfl,rfl⟩
end
noncomputable def updL (l:List (Str × AVal)):Str->Option AVal:=l.foldr (fun p m y=>if y=p.1 then some p.2 else m y) (fun _=>none)
theorem gf {y:Str}{p:Str × AVal}{l:List (Str × AVal)}:updL (p::l) y=if y=p.1 then some p.2 else updL l y:=rfl
theorem o1 {y:Str}:∀ {l:List (Str × AVal)},y∉l.map (·.1)->updL l y=none:=by
 intro l
 induction l with
 | nil=>exact fun _=>rfl
 | cons p l ih=>intro h;rw [gf,if_neg fun e=>h (by rw [e];exact .head _)];exact ih fun z=>h (.tail _ z)
noncomputable def setL:List (Str × AVal)->Str->AVal->List (Str × AVal)
 | [],_,_=>[]
 | p::l,k,v=>bif p.1 == k then (p.1,v)::l else p::setL l k v
noncomputable def hasL:List (Str × AVal)->Str->Bool
 | [],_=>false
 | p::l,k=>bif p.1 == k then true else hasL l k
theorem cK {k:Str}{v:AVal}:∀ {l:List (Str × AVal)},hasL l k=true->(fun y=>if y=k then some v else updL l y)=updL (setL l k v):=by
 intro l
 induction l with
 | nil=>intro h;cases h
 | cons p l ih =>
  intro h
  have h':(bif p.1 == k then true else hasL l k)=true:=h
  have e:setL (p::l) k v=bif p.1 == k then (p.1,v)::l else p::setL l k v:=rfl
  funext y
  cases z:(p.1 == k) with
  | true =>
   rw [e,z]
   have z:=eq_of_beq z
   show (if y=k then some v else if y=p.1 then some p.2 else updL l y)=if y=p.1 then some v else updL l y
   rw [z]
   by_cases q:y=k
   ·rw [if_pos q,if_pos q]
   ·rw [if_neg q,if_neg q,if_neg q]
  | false =>
   rw [e,z]
   rw [z] at h'
   have ih:=congrFun (ih h') y
   have n:p.1≠k:=fun q=>by rw [q,beq_self_eq_true] at z;cases z
   show (if y=k then some v else if y=p.1 then some p.2 else updL l y)=if y=p.1 then some p.2 else updL (setL l k v) y
   rw [<- ih]
   by_cases q:y=p.1
   ·rw [if_pos q,if_pos q,if_neg (q ▸ n)]
   ·rw [if_neg q,if_neg q]
noncomputable def boxL (A:BxA) (B:Bx):List (Str × AVal):=[("name",.str B.name),("validity",.int B.validity),("next_uid",.int B.next),("top",.int B.top),("floor",.int B.floor),("letters",.ref A.l),("gone",.ref A.g)]
noncomputable def qF (S:StA) (n:Int):List (Str × AVal):=[("boxes",.ref S.b),("subscribed",.ref S.s),("next_validity",.int n)]
def NotLtr (o:Option AObj):Prop:=(∀ m,o≠some (.attrs letterNs m))/\∀ C d,o≠some (.inst C d)
theorem NotLtr.list {xs:List AVal}:NotLtr (some (.list xs)):=⟨fun _ h=>by simp at h,fun _ _ h=>by simp at h⟩
theorem lC:boxNs≠letterNs:=by decide +kernel
theorem cL:storeNs≠letterNs:=by decide +kernel
theorem bG:storeNs≠boxNs:=by decide +kernel
theorem NotLtr.attrs {ns:List Str}{m:Str->Option AVal} (h:ns≠letterNs):NotLtr (some (.attrs ns m)):=⟨fun _ e=>by simp at e;exact h e.1,fun _ _ e=>by simp at e⟩
theorem NotLtr.dictS {es:List (Str × AVal)}:NotLtr (some (.dictS es)):=⟨fun _ h=>by simp at h,fun _ _ h=>by simp at h⟩
def NoL (σ:AState) (F:List Addr):Prop:=∀ a∈F,NotLtr (σ a)
section
variable {σ σ₁ σ' τ:AState}{A A':BxA}{B B':Bx}{F:List Addr}
theorem LtrAt.fr {a:Addr}{L:Ltr} (h:LtrAt σ a L) (f:Fr F σ σ') (n:NoL σ F):LtrAt σ' a L:=by
 obtain ⟨d,h1,h2⟩:=h
 exact ⟨d,f _ _ h1 fun z=>(n _ z).2 _ _ h1,f _ _ h2 fun z=>(n _ z).1 _ h2⟩
theorem LtrsAt.fr {as:List Addr}{Ls:List Ltr} (h:LtrsAt σ as Ls) (f:Fr F σ σ') (n:NoL σ F):LtrsAt σ' as Ls:=by
 induction h with
 | nil=>exact .nil
 | cons x _ ih=>exact .cons (x.fr f n) ih
theorem NoL.nil:NoL σ []:=fun _ h=>by cases h
theorem LtrAt.le {a:Addr}{L:Ltr} (h:LtrAt σ a L) (l:Le σ σ'):LtrAt σ' a L:=h.fr (F:=[]) l.fr .nil
theorem LtrsAt.le {as:List Addr}{Ls:List Ltr} (h:LtrsAt σ as Ls) (l:Le σ σ'):LtrsAt σ' as Ls:=h.fr (F:=[]) l.fr .nil
theorem BoxAt.noL (h:BoxAt σ A B):NoL σ A.foot:=fun a ha=>by
 refine ex1 h.l fun xs h1z=>?_
 refine an2 h1z fun hl _=>?_
 clear h1z
 simp only [BxA.foot,mem_cons,not_mem_nil,or_false] at ha
 rcases ha with rfl | rfl | rfl
 ·rw [h.d];exact .attrs lC
 ·rw [hl];exact .list
 ·rw [h.g];exact .list
theorem BoxAt.le (h:BoxAt σ A B) (l:Le σ σ'):BoxAt σ' A B:=by
 refine ex1 h.l fun xs h2z=>?_
 refine an2 h2z fun h1 h2=>?_
 clear h2z
 exact ⟨l _ _ h.x,l _ _ h.d,⟨xs,l _ _ h1,h2.le l⟩,l _ _ h.g,h.lg⟩
theorem BoxAt.fr (h:BoxAt σ A B) (f:Fr F σ σ') (n:NoL σ F) (hd:∀ a∈A.foot,a∉F):BoxAt σ' A B:=by
 refine ex1 h.l fun xs h3z=>?_
 refine an2 h3z fun h1 h2=>?_
 clear h3z
 exact ⟨f _ _ h.x fun z=>(n _ z).2 _ _ h.x,f _ _ h.d (hd _ (by simp [BxA.foot])),⟨xs,f _ _ h1 (hd _ (by simp [BxA.foot])),h2.fr f n⟩,f _ _ h.g (hd _ (by simp [BxA.foot])),h.lg⟩
theorem BoxAt.dl (h:BoxAt σ A B):A.l≠A.d:=by
 refine ex1 h.l fun xs h4z=>?_
 refine an2 h4z fun h1 _=>?_
 clear h4z
 intro e;rw [e,h.d] at h1;cases h1
theorem BoxAt.dg (h:BoxAt σ A B):A.g≠A.d:=by
 have h1:=h.g
 intro e;rw [e,h.d] at h1;cases h1
theorem BoxAt.dx (h:BoxAt σ A B):A.x≠A.d:=by
 have h1:=h.x
 intro e;rw [e,h.d] at h1;cases h1
theorem BoxAt.lx (h:BoxAt σ A B):A.x≠A.l:=by
 refine ex1 h.l fun xs h5z=>?_
 refine an2 h5z fun h1 _=>?_
 clear h5z
 intro e;rw [<- e,h.x] at h1;cases h1
theorem BoxAt.setD (h:BoxAt σ A B) (hl:B'.letters=B.letters) (hg:B'.gone=B.gone):BoxAt (σ.set A.d (.attrs boxNs (boxM A B'))) A B'/\Fr [A.d] σ (σ.set A.d (.attrs boxNs (boxM A B'))):=by
 have f:Fr [A.d] σ (σ.set A.d (.attrs boxNs (boxM A B'))):=Fr.refl.set (.head _)
 have n:NoL σ [A.d]:=fun a ha=>h.noL a (by rw [ZS ha];exact .head _)
 refine ex1 h.l fun xs h6z=>?_
 refine an2 h6z fun h1 h2=>?_
 clear h6z
 refine ⟨⟨?_,Zs ..,⟨xs,?_,hl ▸ h2.fr f n⟩,?_,h.lg⟩,f⟩
 ·rw [Zn h.dx];exact h.x
 ·rw [Zn h.dl];exact h1
 ·rw [Zn h.dg,hg];exact h.g
theorem BoxAt.setL {l':Addr}{xs:List Addr}{Ls:List Ltr} (h:BoxAt σ A B) (h1:σ l'=some (.list (xs.map .ref))) (h2:LtrsAt σ xs Ls) (hn:l'≠A.g) :
  BoxAt (σ.set A.d (.attrs boxNs (boxM { A with l:=l' } { B with letters:=Ls }))) { A with l:=l' } { B with letters:=Ls }/\Fr [A.d] σ (σ.set A.d (.attrs boxNs (boxM { A with l:=l' } { B with letters:=Ls }))):=by
 have f:Fr [A.d] σ (σ.set A.d (.attrs boxNs (boxM { A with l:=l' } { B with letters:=Ls }))):=Fr.refl.set (.head _)
 have n:NoL σ [A.d]:=fun a ha=>h.noL a (by rw [ZS ha];exact .head _)
 have e:l'≠A.d:=by intro e;rw [e,h.d] at h1;cases h1
 refine ⟨⟨?_,Zs ..,⟨xs,?_,h2.fr f n⟩,?_,hn⟩,f⟩
 ·show _=_;rw [Zn h.dx];exact h.x
 ·show _=_;rw [Zn e];exact h1
 ·show _=_;rw [Zn h.dg];exact h.g
theorem BoxAt.setG {g':Addr}{G:List (Int × Int)} (h:BoxAt σ A B) (h1:σ g'=some (.list (G.map bE))) (hn:A.l≠g') :
  BoxAt (σ.set A.d (.attrs boxNs (boxM { A with g:=g' } { B with gone:=G }))) { A with g:=g' } { B with gone:=G }/\Fr [A.d] σ (σ.set A.d (.attrs boxNs (boxM { A with g:=g' } { B with gone:=G }))):=by
 have f:Fr [A.d] σ (σ.set A.d (.attrs boxNs (boxM { A with g:=g' } { B with gone:=G }))):=Fr.refl.set (.head _)
 have n:NoL σ [A.d]:=fun a ha=>h.noL a (by rw [ZS ha];exact .head _)
 have e:g'≠A.d:=by intro e;rw [e,h.d] at h1;cases h1
 refine ex1 h.l fun xs h7z=>?_
 refine an2 h7z fun h2 h3=>?_
 clear h7z
 refine ⟨⟨?_,Zs ..,⟨xs,?_,h3.fr f n⟩,?_,hn⟩,f⟩
 ·show _=_;rw [Zn h.dx];exact h.x
 ·show _=_;rw [Zn h.dl];exact h2
 ·show _=_;rw [Zn e];exact h1
theorem BoxAt.inL {xs:List Addr}{Ls:List Ltr} (h:BoxAt σ A B) (h2:LtrsAt σ xs Ls):BoxAt (σ.set A.l (.list (xs.map .ref))) A { B with letters:=Ls }/\Fr [A.l] σ (σ.set A.l (.list (xs.map .ref))):=by
 have f:Fr [A.l] σ (σ.set A.l (.list (xs.map .ref))):=Fr.refl.set (.head _)
 have n:NoL σ [A.l]:=fun a ha=>h.noL a (by rw [ZS ha];exact .tail _ (.head _))
 refine ⟨⟨?_,?_,⟨xs,Zs ..,h2.fr f n⟩,?_,h.lg⟩,f⟩
 ·rw [Zn h.lx];exact h.x
 ·rw [Zn (Ne.symm h.dl)];exact h.d
 ·rw [Zn (Ne.symm h.lg)];exact h.g
end
section
variable {K:Frag}{ρ:List NV}{σ:AState}{Q:AVal->AState->Prop}{P:AState->Prop}{A:BxA}{B:Bx}{S:StA}{n:Int}{L:Ltr}{a:Addr}
theorem rB (x:LibK K) (hB:BoxAt σ A B) (q:Q (.str B.name) σ):AttrAt K "name" Q (.ref A.x) σ :=
 ⟨A.x,163,boxNs,boxM A B,.str B.name,rfl,⟨A.d,hB.x,hB.d⟩,rfl,bl x,by obtain ⟨_,rfl⟩:=x;rfl,q⟩
theorem lr (x:LibK K) (hB:BoxAt σ A B) (q:Q (.int B.validity) σ):AttrAt K "validity" Q (.ref A.x) σ :=
 ⟨A.x,163,boxNs,boxM A B,.int B.validity,rfl,⟨A.d,hB.x,hB.d⟩,rfl,bl x,by obtain ⟨_,rfl⟩:=x;rfl,q⟩
theorem k8 (x:LibK K) (hB:BoxAt σ A B) (q:Q (.int B.next) σ):AttrAt K "next_uid" Q (.ref A.x) σ :=
 ⟨A.x,163,boxNs,boxM A B,.int B.next,rfl,⟨A.d,hB.x,hB.d⟩,rfl,bl x,by obtain ⟨_,rfl⟩:=x;rfl,q⟩
theorem kS {v:AVal} (x:LibK K) (hB:BoxAt σ A B) (k:P (σ.set A.d (.attrs boxNs fun y=>if y = "next_uid" then some v else boxM A B y))):SetAt K "next_uid" P v (.ref A.x) σ :=
 ⟨A.x,163,boxNs,boxM A B,rfl,⟨A.d,hB.x,hB.d⟩,bl x,(by obtain ⟨_,rfl⟩:=x;rfl),(by decide +kernel),(by decide +kernel),fun d e=>by rw [hB.x] at e;cases e;exact k⟩
theorem rT (x:LibK K) (hB:BoxAt σ A B) (q:Q (.int B.top) σ):AttrAt K "top" Q (.ref A.x) σ :=
 ⟨A.x,163,boxNs,boxM A B,.int B.top,rfl,⟨A.d,hB.x,hB.d⟩,rfl,bl x,by obtain ⟨_,rfl⟩:=x;rfl,q⟩
theorem r3 {v:AVal} (x:LibK K) (hB:BoxAt σ A B) (k:P (σ.set A.d (.attrs boxNs fun y=>if y = "top" then some v else boxM A B y))):SetAt K "top" P v (.ref A.x) σ :=
 ⟨A.x,163,boxNs,boxM A B,rfl,⟨A.d,hB.x,hB.d⟩,bl x,(by obtain ⟨_,rfl⟩:=x;rfl),(by decide +kernel),(by decide +kernel),fun d e=>by rw [hB.x] at e;cases e;exact k⟩
theorem qE (x:LibK K) (hB:BoxAt σ A B) (q:Q (.int B.floor) σ):AttrAt K "floor" Q (.ref A.x) σ :=
 ⟨A.x,163,boxNs,boxM A B,.int B.floor,rfl,⟨A.d,hB.x,hB.d⟩,rfl,bl x,by obtain ⟨_,rfl⟩:=x;rfl,q⟩
theorem pU {v:AVal} (x:LibK K) (hB:BoxAt σ A B) (k:P (σ.set A.d (.attrs boxNs fun y=>if y = "floor" then some v else boxM A B y))):SetAt K "floor" P v (.ref A.x) σ :=
 ⟨A.x,163,boxNs,boxM A B,rfl,⟨A.d,hB.x,hB.d⟩,bl x,(by obtain ⟨_,rfl⟩:=x;rfl),(by decide +kernel),(by decide +kernel),fun d e=>by rw [hB.x] at e;cases e;exact k⟩
theorem m9 (x:LibK K) (hB:BoxAt σ A B) (q:Q (.ref A.l) σ):AttrAt K "letters" Q (.ref A.x) σ :=
 ⟨A.x,163,boxNs,boxM A B,.ref A.l,rfl,⟨A.d,hB.x,hB.d⟩,rfl,bl x,by obtain ⟨_,rfl⟩:=x;rfl,q⟩
theorem m6 {v:AVal} (x:LibK K) (hB:BoxAt σ A B) (k:P (σ.set A.d (.attrs boxNs fun y=>if y = "letters" then some v else boxM A B y))):SetAt K "letters" P v (.ref A.x) σ :=
 ⟨A.x,163,boxNs,boxM A B,rfl,⟨A.d,hB.x,hB.d⟩,bl x,(by obtain ⟨_,rfl⟩:=x;rfl),(by decide +kernel),(by decide +kernel),fun d e=>by rw [hB.x] at e;cases e;exact k⟩
theorem rJ (x:LibK K) (hB:BoxAt σ A B) (q:Q (.ref A.g) σ):AttrAt K "gone" Q (.ref A.x) σ :=
 ⟨A.x,163,boxNs,boxM A B,.ref A.g,rfl,⟨A.d,hB.x,hB.d⟩,rfl,bl x,by obtain ⟨_,rfl⟩:=x;rfl,q⟩
theorem rG {v:AVal} (x:LibK K) (hB:BoxAt σ A B) (k:P (σ.set A.d (.attrs boxNs fun y=>if y = "gone" then some v else boxM A B y))):SetAt K "gone" P v (.ref A.x) σ :=
 ⟨A.x,163,boxNs,boxM A B,rfl,⟨A.d,hB.x,hB.d⟩,bl x,(by obtain ⟨_,rfl⟩:=x;rfl),(by decide +kernel),(by decide +kernel),fun d e=>by rw [hB.x] at e;cases e;exact k⟩
theorem lX {v:Int} (x:LibK K) (hB:BoxAt σ A B) (k:∀ σ',BoxAt σ' A { B with next:=v }->Fr [A.d] σ σ'->P σ'):SetAt K "next_uid" P (.int v) (.ref A.x) σ:=by
 refine kS x hB ?_
 have e:(fun y=>if y=("next_uid" : Str) then some (.int v) else boxM A B y)=boxM A { B with next:=v }:=cK (l:=boxL A B) rfl
 rw [e]
 have:=hB.setD (B':={ B with next:=v }) rfl rfl
 exact k _ this.1 this.2
theorem sj {v:Int} (x:LibK K) (hB:BoxAt σ A B) (k:∀ σ',BoxAt σ' A { B with top:=v }->Fr [A.d] σ σ'->P σ'):SetAt K "top" P (.int v) (.ref A.x) σ:=by
 refine r3 x hB ?_
 have e:(fun y=>if y=("top" : Str) then some (.int v) else boxM A B y)=boxM A { B with top:=v }:=cK (l:=boxL A B) rfl
 rw [e]
 have:=hB.setD (B':={ B with top:=v }) rfl rfl
 exact k _ this.1 this.2
theorem pO {v:Int} (x:LibK K) (hB:BoxAt σ A B) (k:∀ σ',BoxAt σ' A { B with floor:=v }->Fr [A.d] σ σ'->P σ'):SetAt K "floor" P (.int v) (.ref A.x) σ:=by
 refine pU x hB ?_
 have e:(fun y=>if y=("floor" : Str) then some (.int v) else boxM A B y)=boxM A { B with floor:=v }:=cK (l:=boxL A B) rfl
 rw [e]
 have:=hB.setD (B':={ B with floor:=v }) rfl rfl
 exact k _ this.1 this.2
theorem m8 {l':Addr}{xs:List Addr}{Ls:List Ltr} (x:LibK K) (hB:BoxAt σ A B) (h1:σ l'=some (.list (xs.map .ref))) (h2:LtrsAt σ xs Ls) (hn:l'≠A.g) (k:∀ σ',BoxAt σ' { A with l:=l' } { B with letters:=Ls }->Fr [A.d] σ σ'->P σ'):SetAt K "letters" P (.ref l') (.ref A.x) σ:=by
 refine m6 x hB ?_
 have e:(fun y=>if y=("letters" : Str) then some (AVal.ref l') else boxM A B y)=boxM { A with l:=l' } { B with letters:=Ls }:=cK (l:=boxL A B) rfl
 rw [e]
 have:=hB.setL h1 h2 hn
 exact k _ this.1 this.2
theorem q8 {g':Addr}{G:List (Int × Int)} (x:LibK K) (hB:BoxAt σ A B) (h1:σ g'=some (.list (G.map bE))) (hn:A.l≠g') (k:∀ σ',BoxAt σ' { A with g:=g' } { B with gone:=G }->Fr [A.d] σ σ'->P σ'):SetAt K "gone" P (.ref g') (.ref A.x) σ:=by
 refine rG x hB ?_
 have e:(fun y=>if y=("gone" : Str) then some (AVal.ref g') else boxM A B y)=boxM { A with g:=g' } { B with gone:=G }:=cK (l:=boxL A B) rfl
 rw [e]
 have:=hB.setG h1 hn
 exact k _ this.1 this.2
theorem sv (x:LibK K) (hL:LtrAt σ a L) (q:Q (.int L.uid) σ):AttrAt K "uid" Q (.ref a) σ :=
 ⟨a,125,letterNs,dA L,.int L.uid,rfl,hL,rfl,cJ x,by obtain ⟨_,rfl⟩:=x;rfl,q⟩
theorem ph (x:LibK K) (hL:LtrAt σ a L) (q:Q (L.oct) σ):AttrAt K "octets" Q (.ref a) σ :=
 ⟨a,125,letterNs,dA L,L.oct,rfl,hL,rfl,cJ x,by obtain ⟨_,rfl⟩:=x;rfl,q⟩
theorem qJ (x:LibK K) (hL:LtrAt σ a L) (q:Q (.tup (L.flags.map .str)) σ):AttrAt K "flags" Q (.ref a) σ :=
 ⟨a,125,letterNs,dA L,.tup (L.flags.map .str),rfl,hL,rfl,cJ x,by obtain ⟨_,rfl⟩:=x;rfl,q⟩
theorem mU (x:LibK K) (hL:LtrAt σ a L) (q:Q (.int L.instant) σ):AttrAt K "instant" Q (.ref a) σ :=
 ⟨a,125,letterNs,dA L,.int L.instant,rfl,hL,rfl,cJ x,by obtain ⟨_,rfl⟩:=x;rfl,q⟩
theorem oZ (x:LibK K) (hL:LtrAt σ a L) (q:Q (.int L.modseq) σ):AttrAt K "modseq" Q (.ref a) σ :=
 ⟨a,125,letterNs,dA L,.int L.modseq,rfl,hL,rfl,cJ x,by obtain ⟨_,rfl⟩:=x;rfl,q⟩
structure StObj (σ:AState) (S:StA) (n:Int):Prop where
 x:σ S.x=some (.inst 340 S.d)
 d:σ S.d=some (.attrs storeNs (aQ S n))
theorem StObj.le {σ':AState} (h:StObj σ S n) (l:Le σ σ'):StObj σ' S n:=⟨l _ _ h.x,l _ _ h.d⟩
theorem qK (x:LibK K) (hS:StObj σ S n) (q:Q (.ref S.b) σ):AttrAt K "boxes" Q (.ref S.x) σ :=
 ⟨S.x,340,storeNs,aQ S n,.ref S.b,rfl,⟨S.d,hS.x,hS.d⟩,rfl,dC x,by obtain ⟨_,rfl⟩:=x;rfl,q⟩
theorem jr (x:LibK K) (hS:StObj σ S n) (q:Q (.ref S.s) σ):AttrAt K "subscribed" Q (.ref S.x) σ :=
 ⟨S.x,340,storeNs,aQ S n,.ref S.s,rfl,⟨S.d,hS.x,hS.d⟩,rfl,dC x,by obtain ⟨_,rfl⟩:=x;rfl,q⟩
theorem jm {v:AVal} (x:LibK K) (hS:StObj σ S n) (k:P (σ.set S.d (.attrs storeNs fun y=>if y = "subscribed" then some v else aQ S n y))):SetAt K "subscribed" P v (.ref S.x) σ :=
 ⟨S.x,340,storeNs,aQ S n,rfl,⟨S.d,hS.x,hS.d⟩,dC x,(by obtain ⟨_,rfl⟩:=x;rfl),(by decide +kernel),(by decide +kernel),fun d e=>by rw [hS.x] at e;cases e;exact k⟩
theorem gj (x:LibK K) (hS:StObj σ S n) (q:Q (.int n) σ):AttrAt K "next_validity" Q (.ref S.x) σ :=
 ⟨S.x,340,storeNs,aQ S n,.int n,rfl,⟨S.d,hS.x,hS.d⟩,rfl,dC x,by obtain ⟨_,rfl⟩:=x;rfl,q⟩
theorem fZ {v:AVal} (x:LibK K) (hS:StObj σ S n) (k:P (σ.set S.d (.attrs storeNs fun y=>if y = "next_validity" then some v else aQ S n y))):SetAt K "next_validity" P v (.ref S.x) σ :=
 ⟨S.x,340,storeNs,aQ S n,rfl,⟨S.d,hS.x,hS.d⟩,dC x,(by obtain ⟨_,rfl⟩:=x;rfl),(by decide +kernel),(by decide +kernel),fun d e=>by rw [hS.x] at e;cases e;exact k⟩
theorem ma {v:Int}:(fun y=>if y=("next_validity" : Str) then some (AVal.int v) else aQ S n y)=aQ S v:=cK (l:=qF S n) rfl
theorem ly {v:Addr}:(fun y=>if y=("subscribed" : Str) then some (AVal.ref v) else aQ S n y)=aQ { S with s:=v } n:=cK (l:=qF S n) rfl
end
section
variable {c:Cx}{ρ:List NV}{σ:AState}{Q:AVal->AState->Prop}{X:AExc->AState->Prop}{N:List NV->AState->Prop}{R:AVal->AState->Prop}{XS:AExc->List NV->AState->Prop}{e value:Expr}{p pa:Pos}
inductive BoxR (f:BxA->Bx->AVal) (Q:AVal->AState->Prop) (a:AVal) (σ₁:AState):Prop
 | mk (A:BxA) (B:Bx) (e:a=.ref (BxA.x A)) (h:BoxAt σ₁ A B) (q:Q (f A B) σ₁)
inductive LtrR (f:Ltr->AVal) (Q:AVal->AState->Prop) (a:AVal) (σ₁:AState):Prop
 | mk (l:Addr) (L:Ltr) (e:a=.ref l) (h:LtrAt σ₁ l L) (q:Q (f L) σ₁)
inductive StR (f:StA->Int->AVal) (Q:AVal->AState->Prop) (a:AVal) (σ₁:AState):Prop
 | mk (S:StA) (n:Int) (e:a=.ref (StA.x S)) (h:StObj σ₁ S n) (q:Q (f S n) σ₁)
inductive BoxW {α:Type} (k:α->AVal) (u:Bx->α->Bx) (P:AState->Prop) (v a:AVal) (σ₂:AState):Prop
 | mk (A:BxA) (B:Bx) (i:α) (e:a=.ref (BxA.x A)) (ev:v=k i) (h:BoxAt σ₂ A B) (q:∀ σ',BoxAt σ' A (u B i)->Fr [A.d] σ₂ σ'->P σ')
inductive LettersW (P:AState->Prop) (v a:AVal) (σ₂:AState):Prop
 | mk (A:BxA) (B:Bx) (l':Addr) (xs:List Addr) (Ls:List Ltr) (e:a=.ref (BxA.x A)) (ev:v=.ref l') (h:BoxAt σ₂ A B) (h1:σ₂ l'=some (.list (xs.map .ref))) (h2:LtrsAt σ₂ xs Ls) (h3:l'≠A.g) (q:∀ σ',BoxAt σ' { A with l:=l' } { B with letters:=Ls }->Fr [A.d] σ₂ σ'->P σ')
inductive GoneW (P:AState->Prop) (v a:AVal) (σ₂:AState):Prop
 | mk (A:BxA) (B:Bx) (g':Addr) (G:List (Int × Int)) (e:a=.ref (BxA.x A)) (ev:v=.ref g') (h:BoxAt σ₂ A B) (h1:σ₂ g'=some (.list (G.map bE))) (h3:A.l≠g') (q:∀ σ',BoxAt σ' { A with g:=g' } { B with gone:=G }->Fr [A.d] σ₂ σ'->P σ')
inductive StW {α:Type} (k:α->AVal) (u:StA->Int->α->Str->Option AVal) (P:AState->Prop) (v a:AVal) (σ₂:AState):Prop
 | mk (S:StA) (n:Int) (i:α) (e:a=.ref (StA.x S)) (ev:v=k i) (h:StObj σ₂ S n) (q:P (σ₂.set S.d (.attrs storeNs (u S n i))))
theorem ea_name (x:Lib c) (g:Ev c ρ e σ (BoxR (fun A B=>(.str B.name)) Q) X) (hbase:∀ nm,attributeBase e nm c.env (eval e c.env)=eval e c.env:=by with_unfolding_all (intro _;rfl)):Ev c ρ (.Attribute e "name" p) σ Q X :=
 ev_attr (g.mono (fun a σ₁ z=>by obtain ⟨A,B,rfl,hB,q⟩:=z;exact rB x.toK hB q) fun _ _ z=>z) (hbase _)
theorem ea_validity (x:Lib c) (g:Ev c ρ e σ (BoxR (fun A B=>(.int B.validity)) Q) X) (hbase:∀ nm,attributeBase e nm c.env (eval e c.env)=eval e c.env:=by with_unfolding_all (intro _;rfl)):Ev c ρ (.Attribute e "validity" p) σ Q X :=
 ev_attr (g.mono (fun a σ₁ z=>by obtain ⟨A,B,rfl,hB,q⟩:=z;exact lr x.toK hB q) fun _ _ z=>z) (hbase _)
theorem ea_next_uid (x:Lib c) (g:Ev c ρ e σ (BoxR (fun A B=>(.int B.next)) Q) X) (hbase:∀ nm,attributeBase e nm c.env (eval e c.env)=eval e c.env:=by with_unfolding_all (intro _;rfl)):Ev c ρ (.Attribute e "next_uid" p) σ Q X :=
 ev_attr (g.mono (fun a σ₁ z=>by obtain ⟨A,B,rfl,hB,q⟩:=z;exact k8 x.toK hB q) fun _ _ z=>z) (hbase _)
theorem ea_top (x:Lib c) (g:Ev c ρ e σ (BoxR (fun A B=>(.int B.top)) Q) X) (hbase:∀ nm,attributeBase e nm c.env (eval e c.env)=eval e c.env:=by with_unfolding_all (intro _;rfl)):Ev c ρ (.Attribute e "top" p) σ Q X :=
 ev_attr (g.mono (fun a σ₁ z=>by obtain ⟨A,B,rfl,hB,q⟩:=z;exact rT x.toK hB q) fun _ _ z=>z) (hbase _)
theorem ea_floor (x:Lib c) (g:Ev c ρ e σ (BoxR (fun A B=>(.int B.floor)) Q) X) (hbase:∀ nm,attributeBase e nm c.env (eval e c.env)=eval e c.env:=by with_unfolding_all (intro _;rfl)):Ev c ρ (.Attribute e "floor" p) σ Q X :=
 ev_attr (g.mono (fun a σ₁ z=>by obtain ⟨A,B,rfl,hB,q⟩:=z;exact qE x.toK hB q) fun _ _ z=>z) (hbase _)
theorem ea_letters (x:Lib c) (g:Ev c ρ e σ (BoxR (fun A B=>(.ref A.l)) Q) X) (hbase:∀ nm,attributeBase e nm c.env (eval e c.env)=eval e c.env:=by with_unfolding_all (intro _;rfl)):Ev c ρ (.Attribute e "letters" p) σ Q X :=
 ev_attr (g.mono (fun a σ₁ z=>by obtain ⟨A,B,rfl,hB,q⟩:=z;exact m9 x.toK hB q) fun _ _ z=>z) (hbase _)
theorem ea_gone (x:Lib c) (g:Ev c ρ e σ (BoxR (fun A B=>(.ref A.g)) Q) X) (hbase:∀ nm,attributeBase e nm c.env (eval e c.env)=eval e c.env:=by with_unfolding_all (intro _;rfl)):Ev c ρ (.Attribute e "gone" p) σ Q X :=
 ev_attr (g.mono (fun a σ₁ z=>by obtain ⟨A,B,rfl,hB,q⟩:=z;exact rJ x.toK hB q) fun _ _ z=>z) (hbase _)
theorem ea_uid (x:Lib c) (g:Ev c ρ e σ (LtrR (fun L=>(.int L.uid)) Q) X) (hbase:∀ nm,attributeBase e nm c.env (eval e c.env)=eval e c.env:=by with_unfolding_all (intro _;rfl)):Ev c ρ (.Attribute e "uid" p) σ Q X :=
 ev_attr (g.mono (fun a σ₁ z=>by obtain ⟨l,L,rfl,hB,q⟩:=z;exact sv x.toK hB q) fun _ _ z=>z) (hbase _)
theorem ea_octets (x:Lib c) (g:Ev c ρ e σ (LtrR (fun L=>(L.oct)) Q) X) (hbase:∀ nm,attributeBase e nm c.env (eval e c.env)=eval e c.env:=by with_unfolding_all (intro _;rfl)):Ev c ρ (.Attribute e "octets" p) σ Q X :=
 ev_attr (g.mono (fun a σ₁ z=>by obtain ⟨l,L,rfl,hB,q⟩:=z;exact ph x.toK hB q) fun _ _ z=>z) (hbase _)
theorem ea_flags (x:Lib c) (g:Ev c ρ e σ (LtrR (fun L=>(.tup (L.flags.map .str))) Q) X) (hbase:∀ nm,attributeBase e nm c.env (eval e c.env)=eval e c.env:=by with_unfolding_all (intro _;rfl)):Ev c ρ (.Attribute e "flags" p) σ Q X :=
 ev_attr (g.mono (fun a σ₁ z=>by obtain ⟨l,L,rfl,hB,q⟩:=z;exact qJ x.toK hB q) fun _ _ z=>z) (hbase _)
theorem ea_instant (x:Lib c) (g:Ev c ρ e σ (LtrR (fun L=>(.int L.instant)) Q) X) (hbase:∀ nm,attributeBase e nm c.env (eval e c.env)=eval e c.env:=by with_unfolding_all (intro _;rfl)):Ev c ρ (.Attribute e "instant" p) σ Q X :=
 ev_attr (g.mono (fun a σ₁ z=>by obtain ⟨l,L,rfl,hB,q⟩:=z;exact mU x.toK hB q) fun _ _ z=>z) (hbase _)
theorem ea_modseq (x:Lib c) (g:Ev c ρ e σ (LtrR (fun L=>(.int L.modseq)) Q) X) (hbase:∀ nm,attributeBase e nm c.env (eval e c.env)=eval e c.env:=by with_unfolding_all (intro _;rfl)):Ev c ρ (.Attribute e "modseq" p) σ Q X :=
 ev_attr (g.mono (fun a σ₁ z=>by obtain ⟨l,L,rfl,hB,q⟩:=z;exact oZ x.toK hB q) fun _ _ z=>z) (hbase _)
theorem ea_boxes (x:Lib c) (g:Ev c ρ e σ (StR (fun S n=>(.ref S.b)) Q) X) (hbase:∀ nm,attributeBase e nm c.env (eval e c.env)=eval e c.env:=by with_unfolding_all (intro _;rfl)):Ev c ρ (.Attribute e "boxes" p) σ Q X :=
 ev_attr (g.mono (fun a σ₁ z=>by obtain ⟨S,n,rfl,hB,q⟩:=z;exact qK x.toK hB q) fun _ _ z=>z) (hbase _)
theorem ea_subscribed (x:Lib c) (g:Ev c ρ e σ (StR (fun S n=>(.ref S.s)) Q) X) (hbase:∀ nm,attributeBase e nm c.env (eval e c.env)=eval e c.env:=by with_unfolding_all (intro _;rfl)):Ev c ρ (.Attribute e "subscribed" p) σ Q X :=
 ev_attr (g.mono (fun a σ₁ z=>by obtain ⟨S,n,rfl,hB,q⟩:=z;exact jr x.toK hB q) fun _ _ z=>z) (hbase _)
theorem ea_next_validity (x:Lib c) (g:Ev c ρ e σ (StR (fun S n=>(.int n)) Q) X) (hbase:∀ nm,attributeBase e nm c.env (eval e c.env)=eval e c.env:=by with_unfolding_all (intro _;rfl)):Ev c ρ (.Attribute e "next_validity" p) σ Q X :=
 ev_attr (g.mono (fun a σ₁ z=>by obtain ⟨S,n,rfl,hB,q⟩:=z;exact gj x.toK hB q) fun _ _ z=>z) (hbase _)
theorem wa_next_uid (x:Lib c) (g:Ev c ρ value σ (KE c ρ e (BoxW .int (fun B i=>{ B with next:=i }) (N ρ)) (XAt XS ρ)) (XAt XS ρ))
  (hs:swapsWith value (some (.Attribute e "next_uid" pa)) p.line c.env=pure false:=by walk_at "u"):WS c ρ (.Assign [.Attribute e "next_uid" pa] value p) σ N R XS :=
 bz (g.mono (fun v σ₁ z=>z.mono (fun a σ₂ z=>by obtain ⟨A,B,i,rfl,rfl,hB,q⟩:=z;exact lX (P:=N ρ) x.toK hB q) fun _ _ z=>z) fun _ _ z=>z) hs
theorem wa_top (x:Lib c) (g:Ev c ρ value σ (KE c ρ e (BoxW .int (fun B i=>{ B with top:=i }) (N ρ)) (XAt XS ρ)) (XAt XS ρ))
  (hs:swapsWith value (some (.Attribute e "top" pa)) p.line c.env=pure false:=by walk_at "u"):WS c ρ (.Assign [.Attribute e "top" pa] value p) σ N R XS :=
 bz (g.mono (fun v σ₁ z=>z.mono (fun a σ₂ z=>by obtain ⟨A,B,i,rfl,rfl,hB,q⟩:=z;exact sj (P:=N ρ) x.toK hB q) fun _ _ z=>z) fun _ _ z=>z) hs
theorem wa_floor (x:Lib c) (g:Ev c ρ value σ (KE c ρ e (BoxW .int (fun B i=>{ B with floor:=i }) (N ρ)) (XAt XS ρ)) (XAt XS ρ))
  (hs:swapsWith value (some (.Attribute e "floor" pa)) p.line c.env=pure false:=by walk_at "u"):WS c ρ (.Assign [.Attribute e "floor" pa] value p) σ N R XS :=
 bz (g.mono (fun v σ₁ z=>z.mono (fun a σ₂ z=>by obtain ⟨A,B,i,rfl,rfl,hB,q⟩:=z;exact pO (P:=N ρ) x.toK hB q) fun _ _ z=>z) fun _ _ z=>z) hs
theorem wa_letters (x:Lib c) (g:Ev c ρ value σ (KE c ρ e (LettersW (N ρ)) (XAt XS ρ)) (XAt XS ρ))
  (hs:swapsWith value (some (.Attribute e "letters" pa)) p.line c.env=pure false:=by walk_at "u"):WS c ρ (.Assign [.Attribute e "letters" pa] value p) σ N R XS :=
 bz (g.mono (fun v σ₁ z=>z.mono (fun a σ₂ z=>by obtain ⟨A,B,l',xs,Ls,rfl,rfl,hB,h1,h2,h3,q⟩:=z;exact m8 (P:=N ρ) x.toK hB h1 h2 h3 q) fun _ _ z=>z) fun _ _ z=>z) hs
theorem wa_gone (x:Lib c) (g:Ev c ρ value σ (KE c ρ e (GoneW (N ρ)) (XAt XS ρ)) (XAt XS ρ))
  (hs:swapsWith value (some (.Attribute e "gone" pa)) p.line c.env=pure false:=by walk_at "u"):WS c ρ (.Assign [.Attribute e "gone" pa] value p) σ N R XS :=
 bz (g.mono (fun v σ₁ z=>z.mono (fun a σ₂ z=>by obtain ⟨A,B,g',G,rfl,rfl,hB,h1,h3,q⟩:=z;exact q8 (P:=N ρ) x.toK hB h1 h3 q) fun _ _ z=>z) fun _ _ z=>z) hs
theorem wa_next_validity (x:Lib c) (g:Ev c ρ value σ (KE c ρ e (StW .int (fun S _ i=>aQ S i) (N ρ)) (XAt XS ρ)) (XAt XS ρ))
  (hs:swapsWith value (some (.Attribute e "next_validity" pa)) p.line c.env=pure false:=by walk_at "u"):WS c ρ (.Assign [.Attribute e "next_validity" pa] value p) σ N R XS :=
 bz (g.mono (fun v σ₁ z=>z.mono (fun a σ₂ z=>by obtain ⟨S,n,i,rfl,rfl,hB,q⟩:=z;exact fZ (P:=N ρ) x.toK hB (by rw [ma];exact q)) fun _ _ z=>z) fun _ _ z=>z) hs
theorem wa_subscribed (x:Lib c) (g:Ev c ρ value σ (KE c ρ e (StW .ref (fun S n s'=>aQ { S with s:=s' } n) (N ρ)) (XAt XS ρ)) (XAt XS ρ))
  (hs:swapsWith value (some (.Attribute e "subscribed" pa)) p.line c.env=pure false:=by walk_at "u"):WS c ρ (.Assign [.Attribute e "subscribed" pa] value p) σ N R XS :=
 bz (g.mono (fun v σ₁ z=>z.mono (fun a σ₂ z=>by obtain ⟨S,n,s',rfl,rfl,hB,q⟩:=z;exact jm (P:=N ρ) x.toK hB (by rw [ly];exact q)) fun _ _ z=>z) fun _ _ z=>z) hs
end
abbrev Star (c:Cx) (pos:Pos) (es:List Expr):Prop:=(backTo pos (starEach es c.env)).all (fun x=>!x.1)=true
abbrev Few (c:Cx) (pos:Pos) (es:List Expr):Prop:=((backTo pos (starEach es c.env)).all (fun x=>!x.1) && (backToKw pos (keywordEach [] c.env)).all (fun x=>x.1.isSome)
   && decide (es.length+([]:List Keyword).length+(if ([]:List Keyword).isEmpty then 0 else 1) < 30))=true
abbrev Lin (p q:Pos):Prop:=(p.endLine == q.line)=true
section
variable (c:Cx) (ρ:List NV) (pos:Pos) (es:List Expr) (f:Value) (Q:AVal->AState->Prop) (X:AExc->AState->Prop) (a:AVal) (σ₁:AState)
inductive BoxM:Prop
 | mk (A:BxA) (B:Bx) (e:a=.ref A.x) (h:BoxAt σ₁ A B) (q:EvL c ρ pos es σ₁ (KCa1 c ρ (.ref A.x) f Q X) X)
inductive StM:Prop
 | mk (S:StA) (n:Int) (e:a=.ref S.x) (h:StObj σ₁ S n) (q:EvL c ρ pos es σ₁ (KCa1 c ρ (.ref S.x) f Q X) X)
inductive LtrM:Prop
 | mk (l:Addr) (L:Ltr) (e:a=.ref l) (h:LtrAt σ₁ l L) (q:EvL c ρ pos es σ₁ (KCa1 c ρ (.ref l) f Q X) X)
end
section
variable {c:Cx}{ρ:List NV}{σ:AState}{Q:AVal->AState->Prop}{X:AExc->AState->Prop}{p pos apos:Pos}{es:List Expr}
theorem rY (x:Lib c):nsIn c.K mainGlobals "len" = some none:=by rw [x.K];rfl
theorem ev_len (x:Lib c) (l:LookG ρ "len") (g:EvL c ρ pos es σ (KCal c ρ (.builtin "len") Q X) X) (hstar:Star c pos es:=by walk_at "u"):Ev c ρ (.Call (.Name "len" p) es [] pos) σ Q X :=
 ev_builtin l (rY x) PyProof.Rows.Boot.«len» (by decide +kernel) g hstar
theorem rZ (x:Lib c):nsIn c.K mainGlobals "ord" = some none:=by rw [x.K];rfl
theorem ev_ord (x:Lib c) (l:LookG ρ "ord") (g:EvL c ρ pos es σ (KCal c ρ (.builtin "ord") Q X) X) (hstar:Star c pos es:=by walk_at "u"):Ev c ρ (.Call (.Name "ord" p) es [] pos) σ Q X :=
 ev_builtin l (rZ x) PyProof.Rows.Boot.«ord» (by decide +kernel) g hstar
theorem o8 (x:Lib c):nsIn c.K mainGlobals "sorted" = some none:=by rw [x.K];rfl
theorem ev_sorted (x:Lib c) (l:LookG ρ "sorted") (g:EvL c ρ pos es σ (KCal c ρ (.builtin "sorted") Q X) X) (hstar:Star c pos es:=by walk_at "u"):Ev c ρ (.Call (.Name "sorted" p) es [] pos) σ Q X :=
 ev_builtin l (o8 x) PyProof.Rows.Boot.«sorted» (by decide +kernel) g hstar
theorem jo (x:Lib c):nsIn c.K mainGlobals "isinstance" = some none:=by rw [x.K];rfl
theorem ev_isinstance (x:Lib c) (l:LookG ρ "isinstance") (g:EvL c ρ pos es σ (KCal c ρ (.builtin "isinstance") Q X) X) (hstar:Star c pos es:=by walk_at "u"):Ev c ρ (.Call (.Name "isinstance" p) es [] pos) σ Q X :=
 ev_builtin l (jo x) PyProof.Rows.Boot.«isinstance» (by decide +kernel) g hstar
theorem rV (x:Lib c):nsIn c.K mainGlobals "all" = some none:=by rw [x.K];rfl
theorem ev_all (x:Lib c) (l:LookG ρ "all") (g:EvL c ρ pos es σ (KCal c ρ (.builtin "all") Q X) X) (hstar:Star c pos es:=by walk_at "u"):Ev c ρ (.Call (.Name "all" p) es [] pos) σ Q X :=
 ev_builtin l (rV x) PyProof.Rows.Boot.«all» (by decide +kernel) g hstar
theorem r8 (x:Lib c):nsIn c.K mainGlobals "any" = some none:=by rw [x.K];rfl
theorem ev_any (x:Lib c) (l:LookG ρ "any") (g:EvL c ρ pos es σ (KCal c ρ (.builtin "any") Q X) X) (hstar:Star c pos es:=by walk_at "u"):Ev c ρ (.Call (.Name "any" p) es [] pos) σ Q X :=
 ev_builtin l (r8 x) PyProof.Rows.Boot.«any» (by decide +kernel) g hstar
theorem r7 (x:Lib c):nsIn c.K mainGlobals "min" = some none:=by rw [x.K];rfl
theorem ev_min (x:Lib c) (l:LookG ρ "min") (g:EvL c ρ pos es σ (KCal c ρ (.builtin "min") Q X) X) (hstar:Star c pos es:=by walk_at "u"):Ev c ρ (.Call (.Name "min" p) es [] pos) σ Q X :=
 ev_builtin l (r7 x) PyProof.Rows.Boot.«min» (by decide +kernel) g hstar
theorem sg (x:Lib c):nsIn c.K mainGlobals "abs" = some none:=by rw [x.K];rfl
theorem ev_abs (x:Lib c) (l:LookG ρ "abs") (g:EvL c ρ pos es σ (KCal c ρ (.builtin "abs") Q X) X) (hstar:Star c pos es:=by walk_at "u"):Ev c ρ (.Call (.Name "abs" p) es [] pos) σ Q X :=
 ev_builtin l (sg x) PyProof.Rows.Boot.«abs» (by decide +kernel) g hstar
theorem rU (x:Lib c):nsIn c.K mainGlobals "chr" = some none:=by rw [x.K];rfl
theorem ev_chr (x:Lib c) (l:LookG ρ "chr") (g:EvL c ρ pos es σ (KCal c ρ (.builtin "chr") Q X) X) (hstar:Star c pos es:=by walk_at "u"):Ev c ρ (.Call (.Name "chr" p) es [] pos) σ Q X :=
 ev_builtin l (rU x) PyProof.Rows.Boot.«chr» (by decide +kernel) g hstar
theorem lQ (x:Lib c):nsIn c.K mainGlobals "tuple" = some none:=by rw [x.K];rfl
theorem ec_tuple (x:Lib c) (l:LookG ρ "tuple") (g:EvL c ρ pos es σ (KCal c ρ (.type "tuple") Q X) X) (hstar:Star c pos es:=by walk_at "u"):Ev c ρ (.Call (.Name "tuple" p) es [] pos) σ Q X :=
 ev_btype l (lQ x) PyProof.Rows.Boot.«tuple» (by decide +kernel) g hstar
theorem en_tuple (x:Lib c) (l:LookG ρ "tuple") (q:Q (.type "tuple") σ):Ev c ρ (.Name "tuple" p) σ Q X:=ev_bname l (lQ x) PyProof.Rows.Boot.«tuple» (by decide +kernel) q
theorem q0 (x:Lib c):nsIn c.K mainGlobals "list" = some none:=by rw [x.K];rfl
theorem ec_list (x:Lib c) (l:LookG ρ "list") (g:EvL c ρ pos es σ (KCal c ρ (.type "list") Q X) X) (hstar:Star c pos es:=by walk_at "u"):Ev c ρ (.Call (.Name "list" p) es [] pos) σ Q X :=
 ev_btype l (q0 x) PyProof.Rows.Boot.«list» (by decide +kernel) g hstar
theorem qx (x:Lib c):nsIn c.K mainGlobals "int" = some none:=by rw [x.K];rfl
theorem ec_int (x:Lib c) (l:LookG ρ "int") (g:EvL c ρ pos es σ (KCal c ρ (.type "int") Q X) X) (hstar:Star c pos es:=by walk_at "u"):Ev c ρ (.Call (.Name "int" p) es [] pos) σ Q X :=
 ev_btype l (qx x) PyProof.Rows.Boot.«int» (by decide +kernel) g hstar
theorem en_int (x:Lib c) (l:LookG ρ "int") (q:Q (.type "int") σ):Ev c ρ (.Name "int" p) σ Q X:=ev_bname l (qx x) PyProof.Rows.Boot.«int» (by decide +kernel) q
theorem rl (x:Lib c):nsIn c.K mainGlobals "bool" = some none:=by rw [x.K];rfl
theorem en_bool (x:Lib c) (l:LookG ρ "bool") (q:Q (.type "bool") σ):Ev c ρ (.Name "bool" p) σ Q X:=ev_bname l (rl x) PyProof.Rows.Boot.«bool» (by decide +kernel) q
theorem sp (x:Lib c):nsIn c.K mainGlobals "str" = some none:=by rw [x.K];rfl
theorem en_str (x:Lib c) (l:LookG ρ "str") (q:Q (.type "str") σ):Ev c ρ (.Name "str" p) σ Q X:=ev_bname l (sp x) PyProof.Rows.Boot.«str» (by decide +kernel) q
theorem mq (x:Lib c):nsIn c.K mainGlobals "bytes" = some none:=by rw [x.K];rfl
theorem ec_bytes (x:Lib c) (l:LookG ρ "bytes") (g:EvL c ρ pos es σ (KCal c ρ (.type "bytes") Q X) X) (hstar:Star c pos es:=by walk_at "u"):Ev c ρ (.Call (.Name "bytes" p) es [] pos) σ Q X :=
 ev_btype l (mq x) PyProof.Rows.Boot.«bytes» (by decide +kernel) g hstar
theorem en_bytes (x:Lib c) (l:LookG ρ "bytes") (q:Q (.type "bytes") σ):Ev c ρ (.Name "bytes" p) σ Q X:=ev_bname l (mq x) PyProof.Rows.Boot.«bytes» (by decide +kernel) q
theorem qe (x:Lib c):nsIn c.K mainGlobals "range" = some none:=by rw [x.K];rfl
theorem ec_range (x:Lib c) (l:LookG ρ "range") (g:EvL c ρ pos es σ (KCal c ρ (.type "range") Q X) X) (hstar:Star c pos es:=by walk_at "u"):Ev c ρ (.Call (.Name "range" p) es [] pos) σ Q X :=
 ev_btype l (qe x) PyProof.Rows.Boot.«range» (by decide +kernel) g hstar
theorem qQ (x:Lib c):nsIn c.K mainGlobals "zip" = some none:=by rw [x.K];rfl
theorem kF (x:Lib c):nsIn c.K mainGlobals "Exception" = some none:=by rw [x.K];rfl
theorem po (x:Lib c):∃ t,nsIn c.K mainGlobals "SYSTEM" = some (some (.str "\\Seen \\Answered \\Flagged \\Deleted \\Draft" t)):=by rw [x.K];exact ⟨_,rfl⟩
theorem ek_SYSTEM (x:Lib c) (l:LookG ρ "SYSTEM") (q:Q (.str "\\Seen \\Answered \\Flagged \\Deleted \\Draft") σ):Ev c ρ (.Name "SYSTEM" p) σ Q X:=let ⟨t,e⟩:=po x;ev_global l e (fun h=>.str _ t) q
theorem jn (x:Lib c):∃ t,nsIn c.K mainGlobals "NO_KEYWORD" = some (some (.str "(){ %*\"\\]" t)):=by rw [x.K];exact ⟨_,rfl⟩
theorem ek_NO_KEYWORD (x:Lib c) (l:LookG ρ "NO_KEYWORD") (q:Q (.str "(){ %*\"\\]") σ):Ev c ρ (.Name "NO_KEYWORD" p) σ Q X:=let ⟨t,e⟩:=jn x;ev_global l e (fun h=>.str _ t) q
theorem gN (x:Lib c):∃ t,nsIn c.K mainGlobals "MOST_KEYWORD" = some (some (.int 60 t)):=by rw [x.K];exact ⟨_,rfl⟩
theorem ek_MOST_KEYWORD (x:Lib c) (l:LookG ρ "MOST_KEYWORD") (q:Q (.int 60) σ):Ev c ρ (.Name "MOST_KEYWORD" p) σ Q X:=let ⟨t,e⟩:=gN x;ev_global l e (fun h=>.int _ t) q
theorem kI (x:Lib c):∃ t,nsIn c.K mainGlobals "DELIMITER" = some (some (.str "/" t)):=by rw [x.K];exact ⟨_,rfl⟩
theorem ek_DELIMITER (x:Lib c) (l:LookG ρ "DELIMITER") (q:Q (.str "/") σ):Ev c ρ (.Name "DELIMITER" p) σ Q X:=let ⟨t,e⟩:=kI x;ev_global l e (fun h=>.str _ t) q
theorem iA (x:Lib c):∃ t,nsIn c.K mainGlobals "INBOX_names" = some (some (.str "INBOX" t)):=by rw [x.K];exact ⟨_,rfl⟩
theorem ek_INBOX_names (x:Lib c) (l:LookG ρ "INBOX_names") (q:Q (.str "INBOX") σ):Ev c ρ (.Name "INBOX_names" p) σ Q X:=let ⟨t,e⟩:=iA x;ev_global l e (fun h=>.str _ t) q
theorem jl (x:Lib c):∃ t,nsIn c.K mainGlobals "WILD_SIGNS" = some (some (.str "%*" t)):=by rw [x.K];exact ⟨_,rfl⟩
theorem ek_WILD_SIGNS (x:Lib c) (l:LookG ρ "WILD_SIGNS") (q:Q (.str "%*") σ):Ev c ρ (.Name "WILD_SIGNS" p) σ Q X:=let ⟨t,e⟩:=jl x;ev_global l e (fun h=>.str _ t) q
theorem iF (x:Lib c):∃ t,nsIn c.K mainGlobals "INBOX_store" = some (some (.str "INBOX" t)):=by rw [x.K];exact ⟨_,rfl⟩
theorem ek_INBOX_store (x:Lib c) (l:LookG ρ "INBOX_store") (q:Q (.str "INBOX") σ):Ev c ρ (.Name "INBOX_store" p) σ Q X:=let ⟨t,e⟩:=iF x;ev_global l e (fun h=>.str _ t) q
theorem rI (x:Lib c):∃ t,nsIn c.K mainGlobals "MOST" = some (some (.int 4294967295 t)):=by rw [x.K];exact ⟨_,rfl⟩
theorem ek_MOST (x:Lib c) (l:LookG ρ "MOST") (q:Q (.int 4294967295) σ):Ev c ρ (.Name "MOST" p) σ Q X:=let ⟨t,e⟩:=rI x;ev_global l e (fun h=>.int _ t) q
theorem ir (x:Lib c):∃ t,nsIn c.K mainGlobals "MOST_MODSEQ" = some (some (.int 9223372036854775807 t)):=by rw [x.K];exact ⟨_,rfl⟩
theorem ek_MOST_MODSEQ (x:Lib c) (l:LookG ρ "MOST_MODSEQ") (q:Q (.int 9223372036854775807) σ):Ev c ρ (.Name "MOST_MODSEQ" p) σ Q X:=let ⟨t,e⟩:=ir x;ev_global l e (fun h=>.int _ t) q
theorem pq (x:Lib c):∃ t,nsIn c.K mainGlobals "SHAPES" = some (some (.str "create:tn delete:t rename:tt append:tfno flags:tnf store:tutfn expunge:tu copy:tut move:tut subscribe:t unsubscribe:t forget:tn snapshot:nfr" t)):=by rw [x.K];exact ⟨_,rfl⟩
theorem ek_SHAPES (x:Lib c) (l:LookG ρ "SHAPES") (q:Q (.str "create:tn delete:t rename:tt append:tfno flags:tnf store:tutfn expunge:tu copy:tut move:tut subscribe:t unsubscribe:t forget:tn snapshot:nfr") σ):Ev c ρ (.Name "SHAPES" p) σ Q X:=let ⟨t,e⟩:=pq x;ev_global l e (fun h=>.str _ t) q
theorem em_str_split {o:Expr} (g:Ev c ρ o σ (BMAt c ρ pos es "str" "str.split" Q X) X)
  (hbase:attributeBase o "split" c.env (eval o c.env)=eval o c.env:=by walk_at "u")
  (hfew:Few c pos es:=by walk_at "u")
  (hline:Lin apos pos:=by walk_at "u"):Ev c ρ (.Call (.Attribute o "split" apos) es [] pos) σ Q X :=
 ev_bmethod F.plainAttrs_str F.slot_str_split F.type_str_split g hbase hfew hline
theorem em_str_lower {o:Expr} (g:Ev c ρ o σ (BMAt c ρ pos es "str" "str.lower" Q X) X)
  (hbase:attributeBase o "lower" c.env (eval o c.env)=eval o c.env:=by walk_at "u")
  (hfew:Few c pos es:=by walk_at "u")
  (hline:Lin apos pos:=by walk_at "u"):Ev c ρ (.Call (.Attribute o "lower" apos) es [] pos) σ Q X :=
 ev_bmethod F.plainAttrs_str F.slot_str_lower F.type_str_lower g hbase hfew hline
theorem em_str_find {o:Expr} (g:Ev c ρ o σ (BMAt c ρ pos es "str" "str.find" Q X) X)
  (hbase:attributeBase o "find" c.env (eval o c.env)=eval o c.env:=by walk_at "u")
  (hfew:Few c pos es:=by walk_at "u")
  (hline:Lin apos pos:=by walk_at "u"):Ev c ρ (.Call (.Attribute o "find" apos) es [] pos) σ Q X :=
 ev_bmethod F.plainAttrs_str F.slot_str_find F.type_str_find g hbase hfew hline
theorem em_str_startswith {o:Expr} (g:Ev c ρ o σ (BMAt c ρ pos es "str" "str.startswith" Q X) X)
  (hbase:attributeBase o "startswith" c.env (eval o c.env)=eval o c.env:=by walk_at "u")
  (hfew:Few c pos es:=by walk_at "u")
  (hline:Lin apos pos:=by walk_at "u"):Ev c ρ (.Call (.Attribute o "startswith" apos) es [] pos) σ Q X :=
 ev_bmethod F.plainAttrs_str F.slot_str_startswith F.type_str_startswith g hbase hfew hline
theorem em_str_join {o:Expr} (g:Ev c ρ o σ (BMAt c ρ pos es "str" "str.join" Q X) X)
  (hbase:attributeBase o "join" c.env (eval o c.env)=eval o c.env:=by walk_at "u")
  (hfew:Few c pos es:=by walk_at "u")
  (hline:Lin apos pos:=by walk_at "u"):Ev c ρ (.Call (.Attribute o "join" apos) es [] pos) σ Q X :=
 ev_bmethod F.plainAttrs_str F.slot_str_join F.type_str_join g hbase hfew hline
theorem em_list_append {o:Expr} (g:Ev c ρ o σ (BMAt c ρ pos es "list" "list.append" Q X) X)
  (hbase:attributeBase o "append" c.env (eval o c.env)=eval o c.env:=by walk_at "u")
  (hfew:Few c pos es:=by walk_at "u")
  (hline:Lin apos pos:=by walk_at "u"):Ev c ρ (.Call (.Attribute o "append" apos) es [] pos) σ Q X :=
 ev_bmethod F.plainAttrs_list F.slot_list_append F.type_list_append g hbase hfew hline
theorem em_dict_get {o:Expr} (g:Ev c ρ o σ (BMAt c ρ pos es "dict" "dict.get" Q X) X)
  (hbase:attributeBase o "get" c.env (eval o c.env)=eval o c.env:=by walk_at "u")
  (hfew:Few c pos es:=by walk_at "u")
  (hline:Lin apos pos:=by walk_at "u"):Ev c ρ (.Call (.Attribute o "get" apos) es [] pos) σ Q X :=
 ev_bmethod F.plainAttrs_dict F.slot_dict_get F.type_dict_get g hbase hfew hline
theorem em_dict_pop {o:Expr} (g:Ev c ρ o σ (BMAt c ρ pos es "dict" "dict.pop" Q X) X)
  (hbase:attributeBase o "pop" c.env (eval o c.env)=eval o c.env:=by walk_at "u")
  (hfew:Few c pos es:=by walk_at "u")
  (hline:Lin apos pos:=by walk_at "u"):Ev c ρ (.Call (.Attribute o "pop" apos) es [] pos) σ Q X :=
 ev_bmethod F.plainAttrs_dict F.slot_dict_pop F.type_dict_pop g hbase hfew hline
theorem me_box_letter {o:Expr}{pl:Sem Bool} (x:Lib c) (g:Ev c ρ o σ (BoxM c ρ pos es (.ref 150) Q X) X)
  (hstar:Star c pos es:=by walk_at "u")
  (he:eval (.Call (.Attribute o "letter" apos) es [] pos) c.env=(do
   let ov <- eval o c.env
   standAt apos.atName
   let (f,first) <- holding [ov] (getMethod ov "letter" pl)
   callWith pos f first (backTo pos (starEach es c.env)) (backToKw pos (keywordEach [] c.env))):=by walk_at "u"):Ev c ρ (.Call (.Attribute o "letter" apos) es [] pos) σ Q X :=
 ev_method (g.mono (fun a σ₁ z=>by obtain ⟨A,B,rfl,hB,q⟩:=z;exact ⟨A.x,163,boxNs,boxM A B,150,fd150,rfl,⟨A.d,hB.x,hB.d⟩,rfl,nI x,by rw [x.K];rfl,by rw [x.K];rfl,f150.fi x,q⟩) fun _ _ z=>z) hstar he
theorem me_box_uids {o:Expr}{pl:Sem Bool} (x:Lib c) (g:Ev c ρ o σ (BoxM c ρ pos es (.ref 155) Q X) X)
  (hstar:Star c pos es:=by walk_at "u")
  (he:eval (.Call (.Attribute o "uids" apos) es [] pos) c.env=(do
   let ov <- eval o c.env
   standAt apos.atName
   let (f,first) <- holding [ov] (getMethod ov "uids" pl)
   callWith pos f first (backTo pos (starEach es c.env)) (backToKw pos (keywordEach [] c.env))):=by walk_at "u"):Ev c ρ (.Call (.Attribute o "uids" apos) es [] pos) σ Q X :=
 ev_method (g.mono (fun a σ₁ z=>by obtain ⟨A,B,rfl,hB,q⟩:=z;exact ⟨A.x,163,boxNs,boxM A B,155,fd155,rfl,⟨A.d,hB.x,hB.d⟩,rfl,nI x,by rw [x.K];rfl,by rw [x.K];rfl,f155.fi x,q⟩) fun _ _ z=>z) hstar he
theorem me_box_told {o:Expr}{pl:Sem Bool} (x:Lib c) (g:Ev c ρ o σ (BoxM c ρ pos es (.ref 160) Q X) X)
  (hstar:Star c pos es:=by walk_at "u")
  (he:eval (.Call (.Attribute o "told" apos) es [] pos) c.env=(do
   let ov <- eval o c.env
   standAt apos.atName
   let (f,first) <- holding [ov] (getMethod ov "told" pl)
   callWith pos f first (backTo pos (starEach es c.env)) (backToKw pos (keywordEach [] c.env))):=by walk_at "u"):Ev c ρ (.Call (.Attribute o "told" apos) es [] pos) σ Q X :=
 ev_method (g.mono (fun a σ₁ z=>by obtain ⟨A,B,rfl,hB,q⟩:=z;exact ⟨A.x,163,boxNs,boxM A B,160,fd160,rfl,⟨A.d,hB.x,hB.d⟩,rfl,nI x,by rw [x.K];rfl,by rw [x.K];rfl,f160.fi x,q⟩) fun _ _ z=>z) hstar he
theorem me_store_box {o:Expr}{pl:Sem Bool} (x:Lib c) (g:Ev c ρ o σ (StM c ρ pos es (.ref 325) Q X) X)
  (hstar:Star c pos es:=by walk_at "u")
  (he:eval (.Call (.Attribute o "box" apos) es [] pos) c.env=(do
   let ov <- eval o c.env
   standAt apos.atName
   let (f,first) <- holding [ov] (getMethod ov "box" pl)
   callWith pos f first (backTo pos (starEach es c.env)) (backToKw pos (keywordEach [] c.env))):=by walk_at "u"):Ev c ρ (.Call (.Attribute o "box" apos) es [] pos) σ Q X :=
 ev_method (g.mono (fun a σ₁ z=>by obtain ⟨S,n,rfl,hB,q⟩:=z;exact ⟨S.x,340,storeNs,aQ S n,325,fd325,rfl,⟨S.d,hB.x,hB.d⟩,rfl,nu x,by rw [x.K];rfl,by rw [x.K];rfl,f325.fi x,q⟩) fun _ _ z=>z) hstar he
theorem me_store_names {o:Expr}{pl:Sem Bool} (x:Lib c) (g:Ev c ρ o σ (StM c ρ pos es (.ref 332) Q X) X)
  (hstar:Star c pos es:=by walk_at "u")
  (he:eval (.Call (.Attribute o "names" apos) es [] pos) c.env=(do
   let ov <- eval o c.env
   standAt apos.atName
   let (f,first) <- holding [ov] (getMethod ov "names" pl)
   callWith pos f first (backTo pos (starEach es c.env)) (backToKw pos (keywordEach [] c.env))):=by walk_at "u"):Ev c ρ (.Call (.Attribute o "names" apos) es [] pos) σ Q X :=
 ev_method (g.mono (fun a σ₁ z=>by obtain ⟨S,n,rfl,hB,q⟩:=z;exact ⟨S.x,340,storeNs,aQ S n,332,fd332,rfl,⟨S.d,hB.x,hB.d⟩,rfl,nu x,by rw [x.K];rfl,by rw [x.K];rfl,f332.fi x,q⟩) fun _ _ z=>z) hstar he
theorem me_store_told {o:Expr}{pl:Sem Bool} (x:Lib c) (g:Ev c ρ o σ (StM c ρ pos es (.ref 337) Q X) X)
  (hstar:Star c pos es:=by walk_at "u")
  (he:eval (.Call (.Attribute o "told" apos) es [] pos) c.env=(do
   let ov <- eval o c.env
   standAt apos.atName
   let (f,first) <- holding [ov] (getMethod ov "told" pl)
   callWith pos f first (backTo pos (starEach es c.env)) (backToKw pos (keywordEach [] c.env))):=by walk_at "u"):Ev c ρ (.Call (.Attribute o "told" apos) es [] pos) σ Q X :=
 ev_method (g.mono (fun a σ₁ z=>by obtain ⟨S,n,rfl,hB,q⟩:=z;exact ⟨S.x,340,storeNs,aQ S n,337,fd337,rfl,⟨S.d,hB.x,hB.d⟩,rfl,nu x,by rw [x.K];rfl,by rw [x.K];rfl,f337.fi x,q⟩) fun _ _ z=>z) hstar he
theorem me_letter_told {o:Expr}{pl:Sem Bool} (x:Lib c) (g:Ev c ρ o σ (LtrM c ρ pos es (.ref 122) Q X) X)
  (hstar:Star c pos es:=by walk_at "u")
  (he:eval (.Call (.Attribute o "told" apos) es [] pos) c.env=(do
   let ov <- eval o c.env
   standAt apos.atName
   let (f,first) <- holding [ov] (getMethod ov "told" pl)
   callWith pos f first (backTo pos (starEach es c.env)) (backToKw pos (keywordEach [] c.env))):=by walk_at "u"):Ev c ρ (.Call (.Attribute o "told" apos) es [] pos) σ Q X :=
 ev_method (g.mono (fun a σ₁ z=>by obtain ⟨l,L,rfl,hB,q⟩:=z;exact ⟨l,125,letterNs,dA L,122,fd122,rfl,hB,rfl,r5 x,by rw [x.K];rfl,by rw [x.K];rfl,f122.fi x,q⟩) fun _ _ z=>z) hstar he
end
section
variable {α:Type}{c:Cx}{target:Expr}{ρ ρ':List NV}{σ σ₀ σ₁ σ' τ:AState}{N:List NV->AState->Prop}{R:AVal->AState->Prop}{X:AExc->List NV->AState->Prop}{Q:AVal->AState->Prop}{XE:AExc->AState->Prop}
inductive ForMAt (f:α->AVal) (c:Cx) (target:Expr) (ρ:List NV) (body:List Stmt) (N:List NV->AState->Prop) (R:AVal->AState->Prop) (X:AExc->List NV->AState->Prop) (a:AVal) (σ₁:AState):Prop
 | mk (xs:List α) (need:AState->Prop) (I:List α->List NV->AState->Prop) (it:ItOf c target a (xs.map f) need σ₁) (i:I xs ρ σ₁) (k:∀ r ρ σ,I r ρ σ->need σ)
   (turn:∀ y ys ρ₁ σ₁,I (y::ys) ρ₁ σ₁->Asg c target (f y) ρ₁ σ₁ (KS c body (Tidy (I ys)) R X) X) (done:∀ ρ₁ σ₁,I [] ρ₁ σ₁->N ρ₁ σ₁)
theorem aX {iter:Expr}{body:List Stmt}{p:Pos} (f:α->AVal) (hf:c.fn=true)
  (g:Ev c ρ iter σ (ForMAt f c target ρ body N R X) (XAt X ρ))
  (hs:∀ x,foldedSetIterable iter c.env x=pure x:=by with_unfolding_all (intro _;rfl)):WS c ρ (.For target iter body [] p) σ N R X:=by
 refine rL hf (g.mono (fun a σ₁ z=>?_) fun _ _ z=>z) hs
 obtain ⟨xs,need,I,h1,h2,h3,turn,done⟩:=z
 refine ⟨fun r ρ' σ'=>∃ ys,r=ys.map f/\I ys ρ' σ',_,need,h1,⟨xs,rfl,h2⟩,fun r ρ σ ⟨ys,_,h⟩=>h3 ys ρ σ h,?_,?_⟩
 ·intro v rest ρ₁ σ₁ r1z
  obtain ⟨ys⟩|⟨hr,hi⟩:=r1z
  cases ys with
  | nil=>cases hr
  | cons y ys =>
   rw [map_cons] at hr
   cases hr
   intro val s r S
   refine Zm (turn y ys ρ₁ σ₁ hi val s r S) (fun _ s₂ z=>?_) fun _ _ z=>z
   obtain ⟨ρ₂,σ₂,S₂,y₂,g₂⟩:=z
   refine ⟨ρ₂,σ₂,S₂,y₂,fun s S=>Zm (g₂ s S) (fun fl s' q=>?_) fun _ _ z=>z⟩
   obtain ⟨ρ',σ',S',y',q⟩:=q
   cases fl with
   | next=>obtain ⟨τ,l,q⟩:=q;exact ⟨ρ',τ,S'.fewer l,y'.fewer l,ys,rfl,q⟩
   | ret v=>exact ⟨ρ',σ',S',y',q⟩
   | _=>exact q.elim
 ·intro ρ₁ σ₁ r2z
  obtain ⟨ys⟩|⟨hr,hi⟩:=r2z
  cases ys with
  | cons y ys=>cases hr
  | nil=>exact done ρ₁ σ₁ hi
abbrev KGz (gz:AVal) (σ:AState) (z:AVal) (σ₄:AState):Prop:=z=gz/\Le σ σ₄
abbrev KPt (c:Cx) (elt:Expr) (pz:Bool) (gz:AVal) (σ:AState) (ρ₂:List NV) (b:Bool) (σ₃:AState):Prop:=b=pz/\if b=true then Ev c ρ₂ elt σ₃ (KGz gz σ) NoX else Le σ σ₃
abbrev KCt (c:Cx) (ifs:List Expr) (K:List NV->Bool->AState->Prop) (ρ₂:List NV) (σ₂:AState):Prop:=CTest c ρ₂ ifs σ₂ (K ρ₂)
def PTurn (c:Cx) (ρ:List NV) (target:Expr) (ifs:List Expr) (elt:Expr) (P:AState->Prop) (y:AVal) (pz:Bool) (gz:AVal):Prop :=
 ∀ σ,P σ->Asg c target y ρ σ (KCt c ifs (KPt c elt pz gz σ)) NoXS
theorem lH {ifs:List Expr}{elt:Expr}{P:AState->Prop} (hP:∀ σ σ',P σ->Le σ σ'->P σ') (xs:List α) (f:α->AVal) (p:α->Bool) (g:α->AVal)
  (turn:∀ y∈xs,PTurn c ρ target ifs elt P (f y) (p y) (g y)) :
  CTurn c ρ target ifs elt (fun r zs σ=>P σ/\∃ ds rs,xs=ds++rs/\r=rs.map f/\zs=(ds.filter p).map g):=by
 intro v rest zs σ r3z
 obtain ⟨hp,ds,rs,hx,hr,hz⟩:=r3z
 cases rs with
 | nil=>cases hr
 | cons y rs =>
  rw [map_cons] at hr
  cases hr
  intro val s r S
  refine Zm (turn y (by rw [hx];simp) σ hp val s r S) (fun _ s₂ z=>?_) fun _ _ z=>z
  obtain ⟨ρ₂,σ₂,S₂,y₂,g₂⟩:=z
  refine ⟨ρ₂,σ₂,S₂,y₂,fun s₃ S₃=>Zm (g₂ s₃ S₃) (fun b s₄ z=>z.mono fun b σ₄ ⟨hb,h⟩=>?_) fun _ _ z=>z⟩
  cases b with
  | true =>
   rw [if_pos rfl] at h ⊢
   refine h.mono (fun z σ₅ ⟨hz',l⟩=>⟨hP _ _ hp l,ds++[y],rs,by simp [hx],rfl,?_⟩) fun _ _ z=>z
   rw [filter_append,filter_cons,<- hb]
   simp [hz,hz']
  | false =>
   rw [if_neg (by decide)] at h ⊢
   refine ⟨hP _ _ hp h,ds++[y],rs,by simp [hx],rfl,?_⟩
   rw [filter_append,filter_cons,<- hb]
   simp [hz]
section
variable {scope:Scope}{elt iter:Expr}{ifs:List Expr}{pos:Pos}
inductive PComp (α:Type) (c:Cx) (ρ':List NV) (target:Expr) (ifs:List Expr) (elt:Expr) (scope:Scope) (D:AState->Addr->List AVal->Prop) (a:AVal) (σ₁:AState):Prop
 | mk (xs:List α) (f:α->AVal) (p:α->Bool) (g:α->AVal) (P:AState->Prop) (need:AState->Prop) (it:ItOf c target a (xs.map f) need σ₁) (hP:∀ σ σ',P σ->Le σ σ'->P σ') (hz:xs.length<=sizeLine) (h2:P σ₁) (h3:∀ σ,P σ->need σ)
   (turn:∀ cl C,∀ y∈xs,PTurn (c.comp scope cl C) ρ' target ifs elt P (f y) (p y) (g y)) (done:∀ σ' A,P σ'->σ' A=none->D σ' A ((xs.filter p).map g))
abbrev KDr (Q:AVal->AState->Prop) (σ₁:AState) (D:Addr) (zs:List AVal):Prop:=Q (.ref D) (σ₁.set D (.list zs))
abbrev KDp (ρ:List NV) (x:Str) (N:List NV->AState->Prop) (σ₁:AState) (D:Addr) (zs:List AVal):Prop:=Puts ρ x (.ref D) N (σ₁.set D (.list zs))
theorem PComp.cx {D:AState->Addr->List AVal->Prop}{a:AVal} (h:PComp α c ρ' target ifs elt scope D a σ₁):CompAt c ρ' target ifs elt scope D a σ₁:=by
 obtain ⟨xs,f,p,g,P,need,h1,hP,hz,h2,h3,turn,done⟩:=h
 refine ⟨fun r zs σ=>P σ/\∃ ds rs,xs=ds++rs/\r=rs.map f/\zs=(ds.filter p).map g,⟨_,need,h1,by rw [length_map];exact hz,⟨h2,[],xs,rfl,rfl,rfl⟩,fun r ys σ h=>h3 σ h.1⟩,fun cl C=>lH hP xs f p g (turn cl C),?_⟩
 intro ys σ₁ A r4z hD
 obtain ⟨hp,ds,rs,hx,hr,hz⟩:=r4z
 cases rs with
 | cons _ _=>cases hr
 | nil=>rw [append_nil] at hx;subst hx;rw [hz];exact done σ₁ A hp hD
theorem ev_compP (α:Type) (hf:c.fn=true) (n:CompNames ρ scope.names ρ') (ok:CompOk scope)
  (it:Ev c ρ iter σ (PComp α c ρ' target ifs elt scope (KDr Q)) XE) (hs:∀ x,foldedSetIterable iter c.env x=pure x:=by with_unfolding_all (intro _;rfl)) :
  Ev c ρ (.ListComp elt [⟨target,iter,ifs,0⟩] scope pos) σ Q XE :=
 ev_listcomp hf n ok (it.mono (fun a σ₁ z=>z.cx) fun _ _ z=>z) hs
theorem d9 (α:Type) {x:Str}{py q:Pos} (hf:c.fn=true) (n:CompNames ρ scope.names ρ') (ok:CompOk scope)
  (it:Ev c ρ iter σ (PComp α c ρ' target ifs elt scope (KDp ρ x N)) (XAt X ρ))
  (hsw:swapsWith (.ListComp elt [⟨target,iter,ifs,0⟩] scope pos) (some (.Name x py)) q.line c.env=pure true:=by walk_at "u")
  (hs:∀ x,foldedSetIterable iter c.env x=pure x:=by with_unfolding_all (intro _;rfl)) :
  WS c ρ (.Assign [.Name x py] (.ListComp elt [⟨target,iter,ifs,0⟩] scope pos) q) σ N R X :=
 cy hf n ok (it.mono (fun a σ₁ z=>z.cx) fun _ _ z=>z) hsw hs
end
end
theorem aS {σ σ':AState}{D:Addr} (l:Le σ σ') (h:σ' D=none):σ D=none:=by
 cases z:σ D with
 | none=>rfl
 | some ob=>rw [l _ _ z] at h;cases h
section
variable {α:Type}{c:Cx}{ρ ρ':List NV}{σ σ₁:AState}{N:List NV->AState->Prop}{R:AVal->AState->Prop}{X:AExc->List NV->AState->Prop}{Q:AVal->AState->Prop}{XE:AExc->AState->Prop}
variable {scope:Scope}{elt iter:Expr}{pos px:Pos}{x:Str}
def CPut (ρ':List NV) (x:Str) (ρ₂:AVal->List NV):Prop:=(∀ v,putK ρ' x v fun r=>ρ₂ v=r)/\LocAt ρ' x
inductive PAll (α:Type) (c:Cx) (ρ₂:AVal->List NV) (target elt:Expr) (scope:Scope) (D:Addr->AState->Prop) (a:AVal) (σ₁:AState):Prop
 | mk (xs:List α) (f g:α->AVal) (need:AState->Prop) (it:ItOf c target a (xs.map f) need σ₁) (hn:∀ σ,Le σ₁ σ->need σ) (hz:xs.length<=sizeLine)
   (turn:∀ cl C,∀ y∈xs,∀ σ,Le σ₁ σ->Ev (c.comp scope cl C) (ρ₂ (f y)) elt σ (KGz (g y) σ) NoX) (done:∀ τ A,Le σ₁ τ->σ₁ A=none->τ A=some (.list (xs.map g))->D A τ)
theorem PAll.cx {ρ₂:AVal->List NV}{D:Addr->AState->Prop}{a:AVal} (p:CPut ρ' x ρ₂) (h:PAll α c ρ₂ (.Name x px) elt scope D a σ₁):PComp α c ρ' (.Name x px) [] elt scope (fun σ A zs=>D A (σ.set A (.list zs))) a σ₁:=by
 obtain ⟨xs,f,g,need,it,hn,hz,turn,done⟩:=h
 refine ⟨xs,f,fun _=>true,g,Le σ₁,need,it,fun _ _ h l=>h.trans l,hz,Le.refl _,hn,fun cl C y hy σ l=>aT ⟨_,.of (p.1 _),eE ⟨rfl,ifT (turn cl C y hy σ l)⟩⟩ p.2,fun τ A l n=>?_⟩
 rw [List.filter_eq_self.mpr fun _ _=>rfl]
 exact done _ A (l.trans (Zl n)) (aS l n) (Zs ..)
abbrev KAr (Q:AVal->AState->Prop) (A:Addr) (σ:AState):Prop:=Q (.ref A) σ
abbrev KAp (ρ:List NV) (x:Str) (N:List NV->AState->Prop) (A:Addr) (σ:AState):Prop:=Puts ρ x (.ref A) N σ
theorem ev_compA (α:Type) {ρ₂:AVal->List NV} (hf:c.fn=true) (n:CompNames ρ scope.names ρ') (ok:CompOk scope) (p:CPut ρ' x ρ₂)
  (it:Ev c ρ iter σ (PAll α c ρ₂ (.Name x px) elt scope (KAr Q)) XE) (hs:∀ x,foldedSetIterable iter c.env x=pure x:=by with_unfolding_all (intro _;rfl)) :
  Ev c ρ (.ListComp elt [⟨.Name x px,iter,[],0⟩] scope pos) σ Q XE:=ev_compP α hf n ok (it.mono (fun a σ₁ z=>z.cx p) fun _ _ z=>z) hs
theorem ib (α:Type) {ρ₂:AVal->List NV}{y:Str}{py q:Pos} (hf:c.fn=true) (n:CompNames ρ scope.names ρ') (ok:CompOk scope) (p:CPut ρ' x ρ₂)
  (it:Ev c ρ iter σ (PAll α c ρ₂ (.Name x px) elt scope (KAp ρ y N)) (XAt X ρ))
  (hsw:swapsWith (.ListComp elt [⟨.Name x px,iter,[],0⟩] scope pos) (some (.Name y py)) q.line c.env=pure true:=by walk_at "u")
  (hs:∀ x,foldedSetIterable iter c.env x=pure x:=by with_unfolding_all (intro _;rfl)) :
  WS c ρ (.Assign [.Name y py] (.ListComp elt [⟨.Name x px,iter,[],0⟩] scope pos) q) σ N R X:=d9 α hf n ok (it.mono (fun a σ₁ z=>z.cx p) fun _ _ z=>z) hsw hs
end
section
variable {c:Cx}{ρ:List NV}{σ:AState}{N:List NV->AState->Prop}{R:AVal->AState->Prop}{XS:AExc->List NV->AState->Prop}{Q:AVal->AState->Prop}{X:AExc->AState->Prop}
theorem nm2 {x y:String}{p q:Pos}:∀ e∈[Expr.Name x p,Expr.Name y q],∃ x p,e=.Name x p:=fun e he=>by
 rcases ZC he with rfl | he
 ·exact ⟨_,_,rfl⟩
 ·exact ⟨_,_,ZS he⟩
theorem mO {K:Frag} (x:LibK K):EClsOk K 64:=by obtain ⟨_,rfl⟩:=x;exact ⟨⟨_,_,_,_,_,_,_,_,_,_,_,_,_,_,_,_,rfl,rfl⟩,rfl,rfl,rfl,rfl⟩
theorem iW {K:Frag} (x:LibK K):EClsOk K 52:=by obtain ⟨_,rfl⟩:=x;exact ⟨⟨_,_,_,_,_,_,_,_,_,_,_,_,_,_,_,_,rfl,rfl⟩,rfl,rfl,rfl,rfl⟩
theorem fn29 (x:Lib c):FnIn c.G 29 fd29:=by
 have KG:=x.KG
 rw [x.K] at KG
 exact ⟨⟨_,KG 29 _ (by rfl),rfl⟩,codeRec_of KG (by rfl)⟩
theorem ok29:FnOk fd29:=⟨rfl,rfl,rfl,rfl,rfl,rfl,by decide +kernel,by decide +kernel⟩
theorem p9 (C:Addr) (hC:C=64\/C=52) (c':Cx) (x:Lib c') (L:Addr) (σ:AState) (e t:Addr) (w a:AVal) (he:σ e=none) :
  WSs (c'.call fd29 29 L) (bI fd29.scope.names [.ref e,w,a]) (gc (subS 1 0)) (σ.set e (.exc C none #[.ref t,.none,.none,.none,.bool false,.none])) (fun _ σ'=>InitDone C e w a σ σ') (fun x σ'=>x=.none/\InitDone C e w a σ σ') (fun _ _ _=>False):=by
 have eo:EClsOk (c'.call fd29 29 L).K C:=by rcases hC with rfl | rfl;exact mO x.toK;exact iW x.toK
 show WSs _ [⟨"self",.local,some (.ref e)⟩,⟨"what",.local,some w⟩,⟨"at",.local,some a⟩,⟨"Exception",.globalImplicit,none⟩] (_::_) _ _ _ _
 refine af ?_
 refine rK ?_ (by rfl)
 refine ev_excinit s!"look" (kF s!"lib") (by obtain ⟨_,h⟩:=x.toK;show findCls c'.K _ _ _=_;rw [h];rfl) ?_
 walk_at "w"
 refine ⟨e,C,t,none,_,w,rfl,Zs ..,rfl,eo.made,fun t2=>⟨rfl,?_⟩⟩
 refine af ?_
 refine j7 ?_
 walk_at "w"
 have tk:∀ nm:Str,nm = "what" \/ nm = "at" -> takerIn (c'.call fd29 29 L).K C nm=some none:=by
  intro nm hn
  obtain ⟨_,h⟩:=x.toK
  show takerIn c'.K C nm=_;rw [h]
  rcases hC with rfl | rfl<;>rcases hn with rfl | rfl<;>rfl
 refine ⟨e,C,_,ca,rfl,Zs ..,eo,tk _ (.inl rfl),by decide +kernel,by decide +kernel,fun d hd hde=>?_⟩
 refine af ?_
 refine kN ?_
 walk_at "w"
 refine ⟨e,C,d,_,ca,_,rfl,by rw [Zn (Ne.symm hde),Zs],Zs ..,eo,tk _ (.inr rfl),by decide +kernel,by decide +kernel,?_⟩
 walk_at "w"
 have hσd:σ d=none:=by
  rw [Zn hde] at hd
  rw [Zn hde] at hd
  exact hd
 refine ⟨d,(#[.ref t,.none,.none,.none,.bool false,.none]:Array Value).setIfInBounds 0 (.ref t2),fun y=>if y = "at" then some a else if y = "what" then some w else none,hσd,hde,?_,(if_neg (by decide)).trans (if_pos rfl),if_pos rfl,rfl,rfl,(by simp:2 < _)⟩
 funext b
 unfold AState.set
 by_cases h1:b=d
 ·simp only [if_pos h1]
 ·simp only [if_neg h1]
  by_cases h2:b=e
  ·simp only [if_pos h2]
  ·simp only [if_neg h2]
theorem emk (C:Addr) (hC:C=64\/C=52) (x:Lib c):EMk c C 29 fd29 (gc (subS 1 0)) where
 ecls:=by rcases hC with rfl | rfl;exact mO x.toK;exact iW x.toK
 init:=by obtain ⟨_,h⟩:=x.toK;rw [h];rcases hC with rfl | rfl<;>rfl
 fn:=by obtain ⟨_,h⟩:=x.toK;rw [h];rfl
 fi:=fn29 x
 ok:=ok29
 hb:=rfl
 kinds:=by decide +kernel
 run c' L σ e t w a h1 h2 h3 h4 _ he:=p9 C hC c' ⟨by rw [h2,h4];exact x.K,by rw [h1,h2];exact x.KG⟩ L σ e t w a he
theorem bind1 (x:Lib c) (w:AVal):EBind c fd29 [w] w (.int (-1)):=fun e vs s r b=>by
 refine ex2 r.two fun v1 v2 h4z=>?_
 refine an3 h4z fun h3z r1 r2=>?_
 clear h4z
 obtain rfl:=h3z
 have X:=x.KG.keeps b
 rw [x.K] at X
 refine ⟨[v1,v2,.int (-1) 202],.cons r1 (.cons r2 (.cons (.int _ _) .nil)),?_⟩
 exact kp_binds X fun S=>by rfl
theorem bind2 (x:Lib c) (w a:AVal):EBind c fd29 [w,a] w a:=fun e vs s r b=>by
 cases r with
 | cons r0 r =>
 refine ex2 r.two fun v1 v2 h6z=>?_
 refine an3 h6z fun h5z r1 r2=>?_
 clear h6z
 obtain rfl:=h5z
 have X:=x.KG.keeps b
 rw [x.K] at X
 refine ⟨_,.cons r0 (.cons r1 (.cons r2 .nil)),?_⟩
 exact kp_binds X fun S=>by rfl
theorem g64 (x:Lib c):nsIn c.K mainGlobals "StoreFault" = some (some (.ref 64)):=by rw [x.K];rfl
theorem g52 (x:Lib c):nsIn c.K mainGlobals "NameFault" = some (some (.ref 52)):=by rw [x.K];rfl
theorem jH {p pos p' ps:Pos}{k:Nat}{t:Str} (x:Lib c) (cm:c.calm=true) (lv:2<=c.lv) (l:LookG ρ "StoreFault") (q:∀ fr,XS ⟨64,.str t,.int (-1),fr⟩ ρ σ)
  (hstar:(backTo pos (starEach [.Constant (.str t) k ps] c.env)).all (fun x=>!x.1)=true:=by walk_at "u") :
  WS c ρ (.Raise (some (.Call (.Name "StoreFault" p) [.Constant (.str t) k ps] [] pos)) none p') σ N R XS:=fun s S =>
 iI l (g64 x) (emk 64 (.inl rfl) x) lv (bK (ev_str (du ⟨rfl,.inl (S.ok.hd cm),(by simp:_<=5),.str t,.int (-1),trivial,trivial,bind1 x _,fun fr _=>q fr⟩))) hstar s S
theorem mJ {p pos p' ps pn:Pos}{k:Nat}{t nm:Str}{i:Int} (x:Lib c) (cm:c.calm=true) (lv:2<=c.lv) (l:LookG ρ "NameFault") (ln:LookV ρ nm (.int i)) (q:XS ⟨52,.str t,.int i,true⟩ ρ σ)
  (hstar:(backTo pos (starEach [.Constant (.str t) k ps,.Name nm pn] c.env)).all (fun x=>!x.1)=true:=by walk_at "u") :
  WS c ρ (.Raise (some (.Call (.Name "NameFault" p) [.Constant (.str t) k ps,.Name nm pn] [] pos)) none p') σ N R XS:=fun s S =>
 iI l (g52 x) (emk 52 (.inr rfl) x) lv (bK (ev_str (bK (ev_name ln (du ⟨rfl,.inl (S.ok.hd cm),(by simp:_<=5),.str t,.int i,trivial,trivial,bind2 x _ _,fun fr h=>by rw [h cm];exact q⟩))))) hstar s S
end
theorem sz {n:Nat} (h:n<=5000):n<=sizeLine:=Zt h (by decide)
theorem cf {α:Type}{le:α->α->Prop} (anti:∀ a b,le a b->le b a->a=b):∀ {l r:List α},l.Perm r->l.Pairwise le->r.Pairwise le->l=r
 | [],r,h,_,_=>(List.nil_perm.mp h).symm
 | a::l,r,h,hl,hr=>by
  cases r with
  | nil=>exact absurd h.symm (by simp)
  | cons b r =>
   rw [List.pairwise_cons] at hl hr
   have e:a=b:=by
    have ha:a∈b::r:=h.subset (mem_cons_self ..)
    have hb:b∈a::l:=h.symm.subset (mem_cons_self ..)
    rcases ZC ha with ha | ha
    ·exact ha
    ·rcases ZC hb with hb | hb
     ·exact hb.symm
     ·exact anti _ _ (hl.1 b hb) (hr.1 a ha)
   subst e
   rw [cf anti ((List.perm_cons a).mp h) hl.2 hr.2]
noncomputable def leS (a b:Str):Bool:=!Spec.ltCps b.cps.toList a.cps.toList
theorem gR {a b:Str}:leS a b=true↔a.cps.toList<=b.cps.toList:=by
 unfold leS;rw [ltCps_eq,Bool.not_eq_true',decide_eq_false_iff_not];exact List.not_lt
theorem Str.ext' {a b:Str} (h:a.cps.toList=b.cps.toList):a=b:=by
 obtain ⟨a⟩:=a;obtain ⟨b⟩:=b
 simpa using h
theorem jB (a b c:Str) (h1:leS a b=true) (h2:leS b c=true):leS a c=true:=by
 rw [gR] at *;exact List.le_trans h1 h2
theorem oJ (a b:Str):(leS a b || leS b a)=true:=by
 rw [Bool.or_eq_true,gR,gR];exact List.le_total _ _
theorem k9 {a b:Str} (h1:leS a b=true) (h2:leS b a=true):a=b:=by
 rw [gR] at *;exact Str.ext' (List.le_antisymm h1 h2)
theorem cj:∀ {l:List Str}{p:Str},risingS p l=true->(p::l).Pairwise (fun a b=>leS a b=true)
 | [],p,_=>by simp
 | x::r,p,h=>by
  unfold risingS at h
  rw [Bool.and_eq_true] at h
  have ih:=cj h.2
  rw [List.pairwise_cons] at ih ⊢
  refine ⟨fun y hy=>?_,List.pairwise_cons.mpr ih⟩
  rcases ZC hy with rfl | hy
  ·exact h.1
  ·exact jB _ _ _ h.1 (ih.1 y hy)
theorem eI:∀ {l:List Str},sortedS l=true->l.Pairwise (fun a b=>leS a b=true)
 | [],_=>.nil
 | x::r,h=>cj h
noncomputable def bf (l:List Str):List Str:=l.mergeSort leS
theorem aC (l:List Str):(bf l).Perm l:=List.mergeSort_perm l leS
theorem dS (l:List Str):(bf l).Pairwise (fun a b=>leS a b=true):=List.pairwise_mergeSort jB oJ l
theorem kg {l r:List Str} (h:r.Perm l) (hs:sortedS r=true):r=bf l :=
 cf (le:=fun a b=>leS a b=true) (fun a b=>k9) (h.trans (aC l).symm) (eI hs) (dS l)
theorem gy {l:List Str} (h:l.Pairwise (fun a b=>leS a b=true)):bf l=l :=
 cf (le:=fun a b=>leS a b=true) (fun a b=>k9) (aC l) (dS l) h
noncomputable def bD (l:List Int):List Int:=l.mergeSort (fun a b=>decide (a<=b))
theorem aZ (l:List Int):(bD l).Perm l:=List.mergeSort_perm l _
theorem iw (l:List Int):(bD l).Pairwise (·<=·):=by
 have:=List.pairwise_mergeSort (le:=fun a b:Int=>decide (a<=b)) (fun a b c h1 h2=>by simp at *;walk_at "o") (fun a b=>by simp;walk_at "o") l
 exact this.imp fun h=>by simpa using h
theorem ko {l r:List Int} (h:r.Perm l) (hs:r.Pairwise (·<=·)):r=bD l :=
 cf (fun a b h1 h2=>Int.le_antisymm h1 h2) (h.trans (aZ l).symm) hs (iw l)
theorem gA {l:List Int} (h:l.Pairwise (·<=·)):bD l=l :=
 cf (fun a b h1 h2=>Int.le_antisymm h1 h2) (aZ l) (iw l) h
section
variable {c:Cx}{ρ:List NV}{σ:AState}{Q:AVal->AState->Prop}{X:AExc->AState->Prop}
theorem gT {l:Addr}{ns:List Str} (hl:σ l=some (.list (ns.map .str))) (hz:ns.length < 64) (q:∀ D,σ D=none->Q (.ref D) (σ.set D (.list ((bf ns).map .str)))) :
  GoV VR c ρ [.ref l] (fun vs=>call (.builtin "sorted") vs) σ Q X:=ig hl hz fun ns' h1 h2=>by rw [kg h1 h2];exact q
theorem kD {l:Addr}{ns:List Int} (hl:σ l=some (.list (ns.map .int))) (hz:ns.length < 64) (q:∀ D,σ D=none->Q (.ref D) (σ.set D (.list ((bD ns).map .int)))) :
  GoV VR c ρ [.ref l] (fun vs=>call (.builtin "sorted") vs) σ Q X:=iG hl hz fun ns' h1 h2=>by rw [ko h1 h2];exact q
theorem aL {a:Addr}{xs:List AVal}{n:Nat}{y:AVal} (ha:σ a=some (.list xs)) (hn:n < 4611686018427387904) (hx:xs[n]?=some y) (q:Q y σ):SubOn c ρ (.ref a) (.int (n:Int)) σ Q X :=
 d5 ha (Int.natCast_nonneg _) s!"o" (by simpa using hx) q
theorem sS (n m:Nat):Int.fdiv ((n:Int)+m) 2=(((n+m) / 2:Nat):Int):=by
 rw [Int.fdiv_eq_ediv_of_nonneg _ (by decide)];simp
end
noncomputable def sysFlags:List Str:=["\\Seen", "\\Answered", "\\Flagged", "\\Deleted", "\\Draft"]
noncomputable def b9 (d:Nat):Bool:=decide (32 < (d:Int)) && decide ((d:Int) < 127) && (Builtin.Str.occurrences "(){ %*\"\\]" ⟨#[d]⟩ 0 ("(){ %*\"\\]" : Str).length 1).isEmpty
noncomputable def bZ (x:Str):Bool:=decide (1<=(x.length:Int)) && decide ((x.length:Int)<=60) && x.cps.toList.all b9
noncomputable def aA (x:Str):Option Str:=match sysFlags.find? (fun n=>Txt.lower x == Txt.lower n) with
 | some n=>some n
 | none=>if bZ x then some x else none
variable {c:Cx}{ρ:List NV}{σ:AState}{Q:AVal->AState->Prop}{X:AExc->AState->Prop}
theorem gL (x:Lib c) (lv:1<=c.lv) (k:∀ σ' D,Le σ σ'->σ' D=some (.list (sysFlags.map .str))->Q (.ref D) σ'):GoV VR c ρ [] (fun vs=>call (.ref 73) vs) σ Q X:=by
 refine ai f73 x s!"o" s!"r" rfl s!"r" fun L₀=>?_
 walk_at "s1"
 walk_at "e"
 refine ⟨gY,?_⟩
 walk_at "e"
 refine iJ (by decide +kernel) (by decide +kernel) (by decide +kernel) fun D hD=>?_
 rw [show Txt.split ("\\Seen \\Answered \\Flagged \\Deleted \\Draft" : Str) (" " : Str)=sysFlags from by decide +kernel]
 exact fresh hD fun σ' l h=>k σ' D l h
theorem ja {t:Str} (x:Lib c) (cm:c.calm=true) (lv:1<=c.lv) (hz:t.length<=1000) (k:Q (.bool (bZ t)) σ):GoV VR c ρ [.str t] (fun vs=>call (.ref 80) vs) σ Q X:=by
 refine ai f80 x s!"o" s!"r" rfl s!"r" fun L₀=>?_
 walk_at "s1"
 walk_at "e"
 refine aj (fun h1=>?_) (fun h1=>?_)
 ·walk_at "e"
  refine aj (fun h2=>?_) (fun h2=>?_)
  ·rw [Bool.not_eq_true'] at h2
   walk_at "s1";walk_at "e"
   have e:bZ t=false:=by unfold bZ;rw [h2];simp
   rw [e] at k;exact k
  rw [Bool.not_eq_false'] at h2
  walk_at "s1"
  refine af ?_
  have e:bZ t=t.cps.toList.all b9:=by unfold bZ;rw [h1,h2];simp
  rw [e] at k
  refine aX (α:=Nat) (fun d=>.str ⟨#[d]⟩) rfl ?_
  walk_at "e"
  let J1:=fun (ds:List Nat) (ρ':List NV) (σ':AState)=>∃ v,ρ'=[⟨"text",.local,some (.str t)⟩,⟨"sign",.local,v⟩,⟨"len",.globalImplicit,none⟩,⟨"MOST_KEYWORD",.globalImplicit,none⟩,⟨"ord",.globalImplicit,none⟩,⟨"NO_KEYWORD",.globalImplicit,none⟩]/\σ'=σ/\t.cps.toList.all b9=ds.all b9
  refine ⟨t.cps.toList,_,J1,qt,⟨_,rfl,rfl,rfl⟩,fun _ _ _ _=>trivial,?_,?_⟩
  ·intro d ds ρ₁ σ₁ r1z
   obtain ⟨w⟩|⟨rfl,rfl,he⟩:=r1z
   refine ay rfl (ac s!"r" ?_)
   have bad:b9 d=false->∀ NN,WSs (c.call fd80 80 L₀) [⟨"text",.local,some (.str t)⟩,⟨"sign",.local,some (.str ⟨#[d]⟩)⟩,⟨"len",.globalImplicit,none⟩,⟨"MOST_KEYWORD",.globalImplicit,none⟩,⟨"ord",.globalImplicit,none⟩,⟨"NO_KEYWORD",.globalImplicit,none⟩] [.Return (some (.Constant (.bool false) 0 ⟨26,19,26,24⟩)) ⟨26,12,26,24⟩] σ₁ NN Q (fun x _ σ'=>X x σ'):=fun hb NN=>by
    walk_at "s1";walk_at "e"
    rw [he,all_cons,hb,Bool.false_and] at k
    exact k
   walk_at "s1"
   walk_at "e"
   refine aj (fun a1=>?_) (fun a1=>?_)
   ·walk_at "e"
    refine aj (fun a2=>?_) (fun a2=>?_)
    ·refine bad ?_ _
     unfold b9;rw [Bool.not_eq_true'] at a2;rw [a2];simp
    ·walk_at "e"
     refine aj (fun a3=>?_) (fun a3=>?_)
     ·refine bad ?_ _
      unfold b9;rw [Bool.not_eq_true'] at a3;rw [a3];simp
     ·walk_at "w"
      rw [Bool.not_eq_false'] at a2
      rw [Bool.not_eq_false'] at a3
      refine Tidy.of (Le.refl _) ⟨_,rfl,rfl,?_⟩
      rw [he,all_cons]
      unfold b9
      rw [a1,a2,a3];rfl
   ·walk_at "e"
    refine bad ?_ _
    unfold b9;rw [a1];rfl
  ·intro ρ₁ σ₁ r2z
   obtain ⟨w⟩|⟨rfl,rfl,he⟩:=r2z
   walk_at "s1";walk_at "e"
   rw [he] at k;exact k
 ·walk_at "e"
  walk_at "s1";walk_at "e"
  have e:bZ t=false:=by unfold bZ;rw [h1];simp
  rw [e] at k;exact k
theorem kM {t:Str} (x:Lib c) (cm:c.calm=true) (lv:4<=c.lv) (hz:t.length<=1000) (k:∀ n,aA t=some n->Q (.str n) σ) (kx:aA t=none->∀ fr,X ⟨64,.str "no flag",.int (-1),fr⟩ σ):GoV VR c ρ [.str t] (fun vs=>call (.ref 87) vs) σ Q X:=by
 refine GoV.tidyX ?_
 refine ai f87 x s!"o" s!"r" rfl s!"r" fun L₀=>?_
 refine af ?_
 refine aX (α:=Str) .str rfl ?_
 walk_at "e"
 refine gL s!"lib" s!"lv" fun σ' D l hD=>?_
 let J2:=fun (ns:List Str) (ρ':List NV) (σ':AState)=>∃ v,ρ'=[⟨"text",.local,some (.str t)⟩,⟨"name",.local,v⟩,⟨"system_flags",.globalImplicit,none⟩,⟨"is_keyword",.globalImplicit,none⟩,⟨"StoreFault",.globalImplicit,none⟩]/\Le σ σ'/\σ' D=some (.list (sysFlags.map .str))/\(∀ n∈ns,n.length<=100)/\sysFlags.find? (fun n=>Txt.lower t == Txt.lower n)=ns.find? (fun n=>Txt.lower t == Txt.lower n)
 refine ⟨sysFlags,_,J2,aG hD,⟨_,rfl,l,hD,by decide +kernel,rfl⟩,fun _ _ _ z=>by obtain ⟨_,_,_,h,_⟩:=z;exact h,?_,?_⟩
 ·intro n ns ρ₁ σ₁ r3z
  obtain ⟨v⟩|⟨rfl,l,hD,hl,he⟩:=r3z
  refine ay rfl (ac s!"r" ?_)
  have hn:n.length<=5592405:=Zt (hl n (.head _)) (by decide)
  walk_at "w"
  refine ⟨gY,?_⟩
  walk_at "w"
  refine iM s!"o" ?_
  walk_at "w"
  refine ⟨gY,?_⟩
  walk_at "w"
  refine iM hn ?_
  walk_at "w"
  refine aj (fun h=>?_) (fun h=>?_)
  ·walk_at "w"
   refine Tidy.of l (k n ?_)
   unfold aA
   simp [he,find?_cons,h]
  ·walk_at "w"
   refine Tidy.of (Le.refl _) ⟨_,rfl,l,hD,fun m hm=>hl m (.tail _ hm),?_⟩
   simp [he,find?_cons,h]
 ·intro ρ₁ σ₁ r4z
  obtain ⟨v⟩|⟨rfl,l,hD,hl,he⟩:=r4z
  walk_at "w"
  refine ja s!"lib" cm s!"lv" hz ?_
  walk_at "w"
  refine aj (fun h=>?_) (fun h=>?_)
  ·rw [Bool.not_eq_true'] at h
   walk_at "w"
   refine fun fr=>⟨σ,l,kx ?_ fr⟩
   unfold aA
   rw [he]
   simp [h]
  ·walk_at "w"
   refine Tidy.of l (k t ?_)
   unfold aA
   rw [he]
   rw [Bool.not_eq_false'] at h
   simp [h]
theorem Le.setNew {σ σ':AState}{l:Addr}{o:AObj} (h:Le σ σ') (n:σ l=none):Le σ (σ'.set l o):=fun a ob e=>by
 have hne:a≠l:=by rintro rfl;rw [n] at e;cases e
 rw [Zn hne];exact h a ob e
noncomputable def aP (acc:List Str) (n:Str):List Str:=if acc.any (· == n) then acc else acc++[n]
noncomputable def aF:List Str->List Str->Option (List Str)
 | acc,[]=>some acc
 | acc,t::ts=>(aA t).bind fun n=>aF (aP acc n) ts
noncomputable def ae (ts:List Str):Option (List Str):=(aF [] ts).map bf
theorem bQ {ts:List Str} (x:Lib c) (cm:c.calm=true) (lv:6<=c.lv) (hz:∀ t∈ts,t.length<=1000) (hl:ts.length < 64) (k:∀ ns,ae ts=some ns->Q (.tup (ns.map .str)) σ) (kx:ae ts=none->∀ fr,X ⟨64,.str "no flag",.int (-1),fr⟩ σ):GoV VR c ρ [.tup (ts.map .str)] (fun vs=>call (.ref 94) vs) σ Q X:=by
 refine GoV.tidyX ?_
 refine ai f94 x s!"o" s!"r" rfl s!"r" fun L₀=>?_
 walk_at "w"
 refine ⟨by decide,fun D hD=>(ac s!"r" ?_)⟩
 refine af ?_
 refine aX (α:=Str) .str rfl ?_
 walk_at "w"
 let J3:=fun (r:List Str) (ρ':List NV) (σ':AState)=>∃ v w acc,ρ'=[⟨"flags",.local,some (.tup (ts.map .str))⟩,⟨"found",.local,some (.ref D)⟩,⟨"text",.local,v⟩,⟨"name",.local,w⟩,⟨"flag_name",.globalImplicit,none⟩,⟨"tuple",.globalImplicit,none⟩,⟨"sorted",.globalImplicit,none⟩]/\Le σ σ'/\σ' D=some (.list (acc.map .str))/\aF [] ts=aF acc r/\acc.length+r.length < 64/\(∀ t∈r,t.length<=1000)
 refine ⟨ts,_,J3,
  cA,(ei3 _ _ ([]) (ai6 rfl (Zl hD) (Zs ..) rfl (by simpa using hl) hz)),fun _ _ _ _=>trivial,?_,?_⟩
 ·intro t r ρ₁ σ₁ r5z
  obtain ⟨v,w,acc⟩|⟨rfl,l,hl,he,hlen,hz⟩:=r5z
  refine ay rfl (ac s!"r" ?_)
  walk_at "w"
  refine kM s!"lib" cm s!"lv" (hz t (.head _)) (fun n hn=>?_) (fun hn fr=>?_)
  ·refine ac s!"r" ?_
   walk_at "w"
   have e':aF [] ts=aF (aP acc n) r:=by rw [he];show (aA t).bind _=_;rw [hn];rfl
   refine aj (fun h=>?_) (fun h=>?_)
   ·walk_at "w"
    refine ⟨dR hl,?_⟩
    walk_at "w"
    refine c5 hl (sz (by simp only [length_map,length_cons] at *;walk_at "o")) ?_
    walk_at "w"
    rw [Bool.not_eq_true'] at h
    refine Tidy.of (Le.refl _) (ei3 _ _ (acc++[n]) (ai6 rfl (l.setNew hD) (by rw [Zs,map_append];rfl) ?_ (by simp only [length_append,length_cons,length_nil] at *;walk_at "o") (fun t ht=>hz t (.tail _ ht))))
    rw [e'];unfold aP;rw [h];rfl
   ·walk_at "w"
    rw [Bool.not_eq_false'] at h
    refine Tidy.of (Le.refl _) (ei3 _ _ acc (ai6 rfl l hl ?_ (by simp only [length_cons] at *;walk_at "o") (fun t ht=>hz t (.tail _ ht))))
    rw [e'];unfold aP;rw [h];rfl
  ·refine ⟨σ,l,kx ?_ fr⟩
   unfold ae
   rw [he];unfold aF;rw [hn];rfl
 ·intro ρ₁ σ₁ r6z
  obtain ⟨v,w,acc⟩|⟨rfl,l,hl,he,hlen,hz⟩:=r6z
  walk_at "w"
  refine gT hl (by simpa using hlen) fun D2 hD2=>?_
  walk_at "w"
  refine aJ (Zs ..) (sz (by rw [length_map,(aC acc).length_eq];simp at hlen;walk_at "o")) ?_
  refine Tidy.of (l.trans (Zl hD2)) (k _ ?_)
  unfold ae
  rw [he];rfl
theorem FnC.kinds' {fd:FuncData}{a:Addr}{n:Nat} (F:FnC fd a n):∀ y∈fd.scope.names.take n,y.2=.local\/y.2=.cell:=fun y hy=>by
 have:=List.all_eq_true.mp F.kinds y hy
 rw [Bool.or_eq_true] at this
 exact this.imp eq_of_beq eq_of_beq
section
variable {c:Cx}{ρ:List NV}{σ σ₁ τ:AState}{Q:AVal->AState->Prop}{X:AExc->AState->Prop}{N:List NV->AState->Prop}{R:AVal->AState->Prop}{XS:AExc->List NV->AState->Prop}
structure InitAt (σ τ:AState) (o d C:Addr) (ns:List Str) (m:Str->Option AVal):Prop where
 le:Le σ τ
 fx:τ o=some (.inst C d)
 fd:τ d=some (.attrs ns m)
 nx:σ o=none
 nd:σ d=none
theorem mw {f:Addr->Option AObj}{a b:Addr}{o:AObj} (h:f a=some o) (g:f b=none):b≠a:=fun e=>by rw [e,h] at g;cases g
theorem none_of {l:Le σ τ}{a:Addr} (h:τ a=none):σ a=none:=by
 cases z:σ a with
 | none=>rfl
 | some ob=>rw [l _ _ z] at h;cases h
theorem InitAt.more {σ':AState}{o d C:Addr}{ns:List Str}{m:Str->Option AVal} (h:InitAt σ τ o d C ns m) (l:Le τ σ'):InitAt σ σ' o d C ns m:=⟨h.le.trans l,l _ _ h.fx,l _ _ h.fd,h.nx,h.nd⟩
theorem InitAt.upd {o d C:Addr}{ns:List Str}{m m':Str->Option AVal} (h:InitAt σ τ o d C ns m):InitAt σ (τ.set d (.attrs ns m')) o d C ns m' :=
 ⟨h.le.setNew h.nd,(by
  have hne:o≠d:=fun e=>by have:=h.fx;rw [e,h.fd] at this;cases this
  rw [Zn hne];exact h.fx),Zs ..,h.nx,h.nd⟩
theorem InitAt.start {o d C:Addr}{ns:List Str} (hx:σ o=none) (hd:σ d=none) (hne:o≠d):InitAt σ ((σ.set d (.attrs ns fun _=>none)).set o (.inst C d)) o d C ns (fun _=>none) :=
 ⟨(Zl hd).setNew hx,Zs ..,by rw [Zn (Ne.symm hne),Zs],hx,hd⟩
inductive WiAt (c:Cx) (ρ:List NV) (σ:AState) (nm:Str) (N:List NV->AState->Prop) (v a:AVal) (τ₂:AState):Prop
 | mk (o d C:Addr) (ns:List Str) (m:Str->Option AVal) (ha:a=.ref o) (h:InitAt σ τ₂ o d C ns m) (h1:ClsOk c.K C) (h2:takerIn c.K C nm=some none) (h3:nm∈ns) (h4:ns.length<=1000)
   (q:∀ τ',InitAt σ τ' o d C ns (fun y=>if y=nm then some v else m y)->Fr [d] τ₂ τ'->N ρ τ')
abbrev KWi (c:Cx) (ρ:List NV) (σ:AState) (nm:Str) (N:List NV->AState->Prop) (e:Expr) (XS:AExc->List NV->AState->Prop) (v:AVal) (τ₁:AState):Prop:=Ev c ρ e τ₁ (WiAt c ρ σ nm N v) (XAt XS ρ)
theorem bU {e value:Expr}{pa p:Pos}{nm:Str} (g:Ev c ρ value τ (KWi c ρ σ nm N e XS) (XAt XS ρ))
  (hs:swapsWith value (some (.Attribute e nm pa)) p.line c.env=pure false:=by walk_at "u"):WS c ρ (.Assign [.Attribute e nm pa] value p) τ N R XS :=
 bz (g.mono (fun v τ₁ z=>z.mono (fun a τ₂ z=>by
  obtain ⟨o,d,C,ns,m,rfl,h,h1,h2,h3,h4,q⟩:=z
  refine ⟨o,C,ns,m,rfl,⟨d,h.fx,h.fd⟩,h1,h2,h3,h4,fun d' e=>?_⟩
  rw [h.fx] at e;cases e
  exact q _ h.upd (Fr.refl.set (.head _))) fun _ _ z=>z) fun _ _ z=>z) hs
theorem sE (x:Lib c):nsIn c.K mainGlobals "Letter" = some (some (.ref 125)):=by rw [x.K];rfl
theorem sW (x:Lib c):nsIn c.K mainGlobals "Box" = some (some (.ref 163)):=by rw [x.K];rfl
theorem sX (x:Lib c):nsIn c.K mainGlobals "Store" = some (some (.ref 340)):=by rw [x.K];rfl
theorem sG {K:Frag} (x:LibK K) {nm:Str} (h:nm∈letterNs):takerIn K 125 nm=some none:=by
 obtain ⟨_,rfl⟩:=x
 simp only [letterNs,mem_cons,not_mem_nil,or_false] at h
 rcases h with rfl | rfl | rfl | rfl | rfl<;>rfl
theorem rM {K:Frag} (x:LibK K) {nm:Str} (h:nm∈boxNs):takerIn K 163 nm=some none:=by
 obtain ⟨_,rfl⟩:=x
 simp only [boxNs,mem_cons,not_mem_nil,or_false] at h
 rcases h with rfl | rfl | rfl | rfl | rfl | rfl | rfl<;>rfl
theorem sP {K:Frag} (x:LibK K) {nm:Str} (h:nm∈storeNs):takerIn K 340 nm=some none:=by
 obtain ⟨_,rfl⟩:=x
 simp only [storeNs,mem_cons,not_mem_nil,or_false] at h
 rcases h with rfl | rfl | rfl<;>rfl
theorem p5 {y:Str}{p:Str × AVal}:∀ {l:List (Str × AVal)},updL (l++[p]) y=(updL l y).or (if y=p.1 then some p.2 else none):=by
 intro l
 induction l with
 | nil=>rfl
 | cons q l ih =>
  rw [cons_append,gf,gf]
  by_cases z:y=q.1
  ·rw [if_pos z,if_pos z];rfl
  ·rw [if_neg z,if_neg z];exact ih
theorem iU:∀ {l:List (Str × AVal)},(l.map (·.1)).Nodup->updL l.reverse=updL l:=by
 intro l
 induction l with
 | nil=>exact fun _=>rfl
 | cons p l ih =>
  intro h
  rw [map_cons,nodup_cons] at h
  funext y
  rw [List.reverse_cons,p5,ih h.2]
  by_cases z:y=p.1
  ·rw [o1 (z ▸ h.1)];exact (if_pos z).trans (if_pos z).symm
  ·rw [if_neg z,Option.or_none];exact (if_neg z).symm
inductive LtrPre (Q:AVal->AState->Prop) (as:List AVal) (σ₁:AState):Prop
 | mk (L:Ltr) (e:as=[.int L.uid,L.oct,.tup (L.flags.map .str),.int L.instant,.int L.modseq]) (k:∀ σ' y,Le σ₁ σ'->LtrAt σ' y L->Q (.ref y) σ')
inductive BoxPre (Q:AVal->AState->Prop) (as:List AVal) (σ₁:AState):Prop
 | mk (nm:Str) (v:Int) (e:as=[.str nm,.int v]) (k:∀ σ' A,Le σ₁ σ'->BoxAt σ' A ⟨nm,v,1,1,0,[],[]⟩->σ₁ A.x=none->σ₁ A.d=none->σ₁ A.l=none->σ₁ A.g=none->Q (.ref A.x) σ')
theorem ec_Letter {p pos:Pos}{es:List Expr} (x:Lib c) (lv:3<=c.lv) (l:LookG ρ "Letter")
  (g:EvL c ρ pos es σ (LtrPre Q) X)
  (hstar:(backTo pos (starEach es c.env)).all (fun x=>!x.1)=true:=by walk_at "u"):Ev c ρ (.Call (.Name "Letter" p) es [] pos) σ Q X:=by
 refine ev_make (ns:=letterNs) l (sE x) (sU x) s!"o" (f108.fi x) f108.ok rfl (g.mono (fun as σ₁ z=>?_) fun _ _ z=>z) hstar
 obtain ⟨L,rfl,k⟩:=z
 refine ⟨fun y hy=>f108.kinds' y hy,fun vs s hl _=>f108.bind vs s hl,fun L' rest o d ho hd hne=>?_⟩
 have h:=InitAt.start (σ:=σ₁) (o:=o) (d:=d) (C:=125) (ns:=letterNs) ho hd hne
 generalize ((σ₁.set d (.attrs letterNs fun _=>none)).set o (.inst 125 d))=τ at h ⊢
 show WSs _ [⟨"self",.local,some (.ref o)⟩,⟨"uid",.local,some (.int L.uid)⟩,⟨"octets",.local,some L.oct⟩,⟨"flags",.local,some (.tup (L.flags.map .str))⟩,⟨"instant",.local,some (.int L.instant)⟩,⟨"modseq",.local,some (.int L.modseq)⟩,⟨"tuple",.globalImplicit,none⟩] (_::_) _ _ _ _
 have ck:∀ {nm:Str},nm∈letterNs->takerIn ((c.mk' 125 rest).call fd108 108 L').K 125 nm=some none:=fun h=>sG x.toK h
 refine af (bU (σ:=σ₁) ?_)
 walk_at "w"
 refine ⟨o,d,125,letterNs,_,rfl,h,cJ x.toK,ck (by decide +kernel),by decide +kernel,by decide +kernel,fun τ' h _=>?_⟩
 refine af (bU (σ:=σ₁) ?_)
 walk_at "w"
 refine ⟨o,d,125,letterNs,_,rfl,h,cJ x.toK,ck (by decide +kernel),by decide +kernel,by decide +kernel,fun τ' h _=>?_⟩
 refine af (bU (σ:=σ₁) ?_)
 walk_at "w"
 refine ij ?_
 walk_at "w"
 refine ⟨o,d,125,letterNs,_,rfl,h,cJ x.toK,ck (by decide +kernel),by decide +kernel,by decide +kernel,fun τ' h _=>?_⟩
 refine af (bU (σ:=σ₁) ?_)
 walk_at "w"
 refine ⟨o,d,125,letterNs,_,rfl,h,cJ x.toK,ck (by decide +kernel),by decide +kernel,by decide +kernel,fun τ' h _=>?_⟩
 refine af (bU (σ:=σ₁) ?_)
 walk_at "w"
 refine ⟨o,d,125,letterNs,_,rfl,h,cJ x.toK,ck (by decide +kernel),by decide +kernel,by decide +kernel,fun τ' h _=>?_⟩
 walk_at "w"
 refine k _ _ h.le ⟨d,h.fx,?_⟩
 exact h.fd.trans (congrArg (fun m=>some (AObj.attrs letterNs m)) (iU (l:=[("uid",.int L.uid),("octets",L.oct),("flags",.tup (L.flags.map .str)),("instant",.int L.instant),("modseq",.int L.modseq)]) (show letterNs.Nodup by decide +kernel)))
theorem ec_Box {p pos:Pos}{es:List Expr} (x:Lib c) (lv:3<=c.lv) (l:LookG ρ "Box")
  (g:EvL c ρ pos es σ (BoxPre Q) X)
  (hstar:(backTo pos (starEach es c.env)).all (fun x=>!x.1)=true:=by walk_at "u"):Ev c ρ (.Call (.Name "Box" p) es [] pos) σ Q X:=by
 refine ev_make (ns:=boxNs) l (sW x) (sO x) s!"o" (f143.fi x) f143.ok rfl (g.mono (fun as σ₁ z=>?_) fun _ _ z=>z) hstar
 obtain ⟨nm,v,rfl,k⟩:=z
 refine ⟨fun y hy=>f143.kinds' y hy,fun vs s hl _=>f143.bind vs s hl,fun L' rest o d ho hd hne=>?_⟩
 have h:=InitAt.start (σ:=σ₁) (o:=o) (d:=d) (C:=163) (ns:=boxNs) ho hd hne
 generalize ((σ₁.set d (.attrs boxNs fun _=>none)).set o (.inst 163 d))=τ at h ⊢
 show WSs _ [⟨"self",.local,some (.ref o)⟩,⟨"name",.local,some (.str nm)⟩,⟨"validity",.local,some (.int v)⟩] (_::_) _ _ _ _
 have ck:∀ {nm:Str},nm∈boxNs->takerIn ((c.mk' 163 rest).call fd143 143 L').K 163 nm=some none:=fun h=>rM x.toK h
 refine af (bU (σ:=σ₁) ?_)
 walk_at "w"
 refine ⟨o,d,163,boxNs,_,rfl,h,bl x.toK,ck (by decide +kernel),by decide +kernel,by decide +kernel,fun τ' h _=>?_⟩
 refine af (bU (σ:=σ₁) ?_)
 walk_at "w"
 refine ⟨o,d,163,boxNs,_,rfl,h,bl x.toK,ck (by decide +kernel),by decide +kernel,by decide +kernel,fun τ' h _=>?_⟩
 refine af (bU (σ:=σ₁) ?_)
 walk_at "w"
 refine ⟨o,d,163,boxNs,_,rfl,h,bl x.toK,ck (by decide +kernel),by decide +kernel,by decide +kernel,fun τ' h _=>?_⟩
 refine af (bU (σ:=σ₁) ?_)
 walk_at "w"
 refine ⟨o,d,163,boxNs,_,rfl,h,bl x.toK,ck (by decide +kernel),by decide +kernel,by decide +kernel,fun τ' h _=>?_⟩
 refine af (bU (σ:=σ₁) ?_)
 walk_at "w"
 refine ⟨o,d,163,boxNs,_,rfl,h,bl x.toK,ck (by decide +kernel),by decide +kernel,by decide +kernel,fun τ' h _=>?_⟩
 refine af (bU (σ:=σ₁) ?_)
 walk_at "w"
 refine ⟨by decide,fun D hD=>?_⟩
 walk_at "w"
 have hl1:σ₁ D=none:=none_of (l:=h.le) hD
 have hDd:D≠d:=mw h.fd hD
 refine ⟨o,d,163,boxNs,_,rfl,h.more (Zl hD),bl x.toK,ck (by decide +kernel),by decide +kernel,by decide +kernel,fun τ₂ h f2=>?_⟩
 have hL:τ₂ D=some (.list []):=f2 _ _ (Zs ..) (by simpa using hDd)
 refine af (bU (σ:=σ₁) ?_)
 walk_at "w"
 refine ⟨by decide,fun G hG=>?_⟩
 walk_at "w"
 have hl2:σ₁ G=none:=none_of (l:=h.le) hG
 have hGd:G≠d:=mw h.fd hG
 have hDG:D≠G:=(mw hL hG).symm
 refine ⟨o,d,163,boxNs,_,rfl,h.more (Zl hG),bl x.toK,ck (by decide +kernel),by decide +kernel,by decide +kernel,fun τ₃ h f3=>?_⟩
 have hL3:τ₃ D=some (.list []):=f3 _ _ (by rw [Zn hDG];exact hL) (by simpa using hDd)
 have hG3:τ₃ G=some (.list []):=f3 _ _ (Zs ..) (by simpa using hGd)
 walk_at "w"
 refine k _ ⟨o,d,D,G⟩ h.le ⟨h.fx,?_,⟨[],hL3,.nil⟩,hG3,hDG⟩ ho hd hl1 hl2
 exact h.fd.trans (congrArg (fun m=>some (AObj.attrs boxNs m)) (iU (l:=[("name",.str nm),("validity",.int v),("next_uid",.int 1),("top",.int 1),("floor",.int 0),("letters",.ref D),("gone",.ref G)]) (show boxNs.Nodup by decide +kernel)))
end
section
variable {c:Cx}{ρ:List NV}{σ σ₁ τ:AState}{Q:AVal->AState->Prop}{X:AExc->AState->Prop}
theorem LtrsAt.get {xs:List Addr}{Ls:List Ltr} (h:LtrsAt σ xs Ls):∀ {i:Nat}{L:Ltr},Ls[i]?=some L->∃ a,xs[i]?=some a/\LtrAt σ a L:=by
 induction h with
 | nil=>intro i L e;simp at e
 | cons x _ ih =>
  intro i L e
  cases i with
  | zero=>simp at e;subst e;exact ⟨_,rfl,x⟩
  | succ i=>simp at e;refine ex1 (ih e) fun a h1z=>?_;refine an2 h1z fun h1 h2=>?_;clear h1z;exact ⟨a,by simpa using h1,h2⟩
theorem LtrsAt.len {xs:List Addr}{Ls:List Ltr} (h:LtrsAt σ xs Ls):xs.length=Ls.length:=by
 induction h with
 | nil=>rfl
 | cons _ _ ih=>simp [ih]
def Asc (Ls:List Ltr):Prop:=Ls.Pairwise (fun a b=>a.uid < b.uid)
theorem Asc.lt {Ls:List Ltr} (h:Asc Ls) {i j:Nat}{a b:Ltr} (hi:Ls[i]?=some a) (hj:Ls[j]?=some b) (hij:i < j):a.uid < b.uid:=by
 obtain ⟨h1,rfl⟩:=List.getElem?_eq_some_iff.mp hi
 obtain ⟨h2,rfl⟩:=List.getElem?_eq_some_iff.mp hj
 exact List.pairwise_iff_getElem.mp h i j h1 h2 hij
theorem sf {lo hi:Nat} (h:lo < hi):(lo+hi) / 2 < hi:=Nat.div_lt_of_lt_mul (by rw [Nat.two_mul];exact Nat.add_lt_add_right h hi)
theorem sy {lo hi:Nat} (h:lo < hi):lo<=(lo+hi) / 2:=(Nat.le_div_iff_mul_le (by decide)).mpr (by rw [Nat.mul_two];exact Nat.add_le_add_left (Nat.le_of_lt h) lo)
theorem dY {l:Addr}{xs:List Addr}{Ls:List Ltr}{u:Int} (x:Lib c) (cm:c.calm=true) (lv:1<=c.lv) (hl:σ l=some (.list (xs.map .ref))) (hL:LtrsAt σ xs Ls) (hz:Ls.length<=1000) (ha:Asc Ls)
  (k:∀ (i:Nat) L,Ls[i]?=some L->L.uid=u->Q (.int i) σ) (kn:(∀ L∈Ls,L.uid≠u)->Q (.int (-1)) σ):GoV VR c ρ [.ref l,.int u] (fun vs=>call (.ref 179) vs) σ Q X:=by
 have hlen:=hL.len
 refine ai f179 x s!"o" s!"r" rfl s!"r" fun L₀=>?_
 refine af ?_
 refine iS rfl ?_
 walk_at "w"
 refine bJ hl (by simp;walk_at "o") ?_
 walk_at "w"
 refine ⟨(by simp [sizeLine]:_<=sizeLine),_,_,_,_,rfl,by walk_at "put",by walk_at "put",?_⟩
 refine af ?_
 rw [length_map]
 refine qg rfl (fun n ρ' σ'=>∃ lo hi m,σ'=σ/\ρ'=[⟨"letters",.local,some (.ref l)⟩,⟨"uid",.local,some (.int u)⟩,⟨"low",.local,some (.int (lo:Nat))⟩,⟨"high",.local,some (.int (hi:Nat))⟩,⟨"middle",.local,m⟩,⟨"len",.globalImplicit,none⟩]/\lo<=hi/\hi<=Ls.length/\n=hi - lo /\
  (∀ i L,i < lo->Ls[i]?=some L->L.uid < u)/\∀ i L,hi<=i->Ls[i]?=some L->u<=L.uid) Ls.length ?_ ?_
 ·exact ⟨0,Ls.length,none,rfl,by rw [hlen];rfl,Nat.zero_le _,Nat.le_refl _,rfl,fun i L h=>by walk_at "o",fun i L h e=>by rw [getElem?_eq_none h] at e;cases e⟩
 ·intro n ρ₁ σ₁ r1z
  obtain ⟨lo,hi,m⟩|⟨rfl,rfl,h1,h2,rfl,h3,h4⟩:=r1z
  walk_at "w"
  refine aj (fun h=>?_) (fun h=>?_)
  ·have hlt:lo < hi:=by simpa using h
   have hm2:(lo+hi) / 2 < hi:=sf hlt
   have hm1:lo<=(lo+hi) / 2:=sy hlt
   obtain ⟨Lm,eLm⟩:∃ Lm,Ls[(lo+hi) / 2]?=some Lm:=⟨_,getElem?_eq_getElem (Nat.lt_of_lt_of_le hm2 h2)⟩
   obtain ⟨am⟩|⟨eam,hLm⟩:=(hL.get eLm)
   walk_at "w"
   rw [sS]
   refine ac s!"r" ?_
   walk_at "w"
   refine aL (n:=(lo+hi) / 2) hl s!"o" (y:=.ref am) (by rw [getElem?_map,eam];rfl) ?_
   refine ⟨am,Lm,rfl,hLm,?_⟩
   walk_at "w"
   refine aj (fun h5=>?_) (fun h5=>?_)
   ·walk_at "w"
    refine ac s!"r" ?_
    walk_at "w"
    have h5:Lm.uid < u:=by simpa using h5
    refine ⟨hi - ((lo+hi) / 2+1),Nat.sub_lt_sub_left hlt (Nat.lt_succ_of_le hm1),(lo+hi) / 2+1,hi,_,rfl,rfl,hm2,h2,rfl,fun i L hi' eL=>?_,h4⟩
    by_cases z:i=(lo+hi) / 2
    ·subst z;rw [eLm] at eL;cases eL;exact h5
    ·exact Int.lt_trans (ha.lt eL eLm s!"o") h5
   ·walk_at "w"
    refine ac s!"r" ?_
    walk_at "w"
    have h5:u<=Lm.uid:=by simpa using h5
    refine ⟨(lo+hi) / 2 - lo,Nat.sub_lt_sub_right hm1 hm2,lo,(lo+hi) / 2,_,rfl,rfl,hm1,Zt (Nat.le_of_lt hm2) h2,rfl,h3,fun i L hi' eL=>?_⟩
    by_cases z:i=(lo+hi) / 2
    ·subst z;rw [eLm] at eL;cases eL;exact h5
    ·exact Int.le_of_lt (Int.lt_of_le_of_lt h5 (ha.lt eLm eL s!"o"))
  ·have hge:lo=hi:=by have:¬ lo < hi:=by simpa using h
                      walk_at "o"
   subst hge
   walk_at "w"
   refine bJ hl (by simp;walk_at "o") ?_
   walk_at "w"
   rw [length_map]
   have none_case:(∀ L,Ls[lo]?=some L->L.uid≠u)->Q (.int (-1)) σ₁:=fun hh=>kn fun L hL' e=>by
    obtain ⟨i,hi⟩:=List.mem_iff_getElem?.mp hL'
    rcases Nat.lt_trichotomy i lo with z | z | z
    ·have:=h3 i L z hi;walk_at "o"
    ·subst z;exact hh L hi e
    ·obtain ⟨L2,e2⟩:∃ L2,Ls[lo]?=some L2:=⟨_,getElem?_eq_getElem (by have:=(List.getElem?_eq_some_iff.mp hi).1;walk_at "o")⟩
     have a1:=h4 lo L2 (Nat.le_refl _) e2
     have a2:=ha.lt e2 hi z
     walk_at "o"
   refine aj (fun h6=>?_) (fun h6=>?_)
   ·have hlo:lo < Ls.length:=by have:lo < xs.length:=by simpa using h6
                                walk_at "o"
    obtain ⟨Lm,eLm⟩:∃ Lm,Ls[lo]?=some Lm:=⟨_,getElem?_eq_getElem hlo⟩
    obtain ⟨am⟩|⟨eam,hLm⟩:=(hL.get eLm)
    walk_at "w"
    refine aL (n:=lo) hl s!"o" (y:=.ref am) (by rw [getElem?_map,eam];rfl) ?_
    refine ⟨am,Lm,rfl,hLm,?_⟩
    walk_at "w"
    refine aj (fun h7=>?_) (fun h7=>?_)
    ·walk_at "w"
     exact k lo Lm eLm (by simpa using h7)
    ·walk_at "w"
     refine none_case fun L e=>?_
     rw [eLm] at e;cases e
     simpa using h7
   ·walk_at "w"
    refine none_case fun L e=>?_
    have:=(List.getElem?_eq_some_iff.mp e).1
    exact absurd this (by have:xs.length<=lo:=by simpa using h6
                          walk_at "o")
end
section
variable {c:Cx}{ρ:List NV}{σ σ₁ τ:AState}{Q:AVal->AState->Prop}{X:AExc->AState->Prop}
theorem cw:∀ {xs:List Addr}{Ls:List Ltr},xs.length=Ls.length->(xs.zip Ls).map (fun p=>AVal.ref p.1)=xs.map .ref
 | [],[],_=>rfl
 | x::xs,L::Ls,h=>by simp only [zip_cons_cons,map_cons];rw [cw (by simpa using h)]
 | [],_::_,h=>by simp at h
 | _::_,[],h=>by simp at h
theorem LtrsAt.zipMem {xs:List Addr}{Ls:List Ltr} (h:LtrsAt σ xs Ls):∀ p∈xs.zip Ls,LtrAt σ p.1 p.2:=by
 induction h with
 | nil=>intro p hp;simp at hp
 | cons x _ ih =>
  intro p hp
  rw [zip_cons_cons] at hp
  rcases ZC hp with rfl | hp
  ·exact x
  ·exact ih p hp
theorem LtrsAt.zip_snd {xs:List Addr}{Ls:List Ltr} (h:LtrsAt σ xs Ls):(xs.zip Ls).map (·.2)=Ls:=by
 induction h with
 | nil=>rfl
 | cons _ _ ih=>simp [ih]
theorem LtrsAt.filt (p:Ltr->Bool) {xs:List Addr}{Ls:List Ltr} (h:LtrsAt σ xs Ls):∃ ys,((xs.zip Ls).filter (fun q=>p q.2)).map (fun q=>AVal.ref q.1)=ys.map .ref/\LtrsAt σ ys (Ls.filter p):=by
 induction h with
 | nil=>exact ⟨[],rfl,.nil⟩
 | @cons a L as Ls x _ ih =>
  obtain ⟨ys⟩|⟨h1,h2⟩:=ih
  simp only [zip_cons_cons,filter_cons]
  split
  ·exact ⟨a::ys,by simp [h1],.cons x h2⟩
  ·exact ⟨ys,h1,h2⟩
theorem gq {A:BxA}{B:Bx} (x:Lib c) (lv:1<=c.lv) (hB:BoxAt σ A B) (k:∀ σ',BoxAt σ' A { B with top:=B.top+1 }->Fr [A.d] σ σ'->Q (.int (B.top+1)) σ'):GoV VR c ρ [.ref A.x] (fun vs=>call (.ref 186) vs) σ Q X:=by
 refine ai f186 x s!"o" s!"r" rfl s!"r" fun L₀=>?_
 walk_at "w"
 refine ⟨_,_,_,rfl,rfl,hB,fun σ' h1 f1=>?_⟩
 walk_at "w"
 exact k σ' h1 f1
theorem jF {A:BxA}{B:Bx}{u:Int} (x:Lib c) (cm:c.calm=true) (lv:3<=c.lv) (hB:BoxAt σ A B) (hz:B.letters.length<=1000) (ha:Asc B.letters)
  (k:∀ (i:Nat) L a,B.letters[i]?=some L->L.uid=u->LtrAt σ a L->Q (.ref a) σ) (kn:(∀ L∈B.letters,L.uid≠u)->Q .none σ):GoV VR c ρ [.ref A.x,.int u] (fun vs=>call (.ref 150) vs) σ Q X:=by
 refine ex1 hB.l fun xs h2z=>?_
 refine an2 h2z fun hl hL=>?_
 clear h2z
 refine ai f150 x s!"o" s!"r" rfl s!"r" fun L₀=>?_
 walk_at "w"
 refine dY s!"lib" cm s!"lv" hl hL hz ha (fun i L e1 e2=>?_) (fun hn=>?_)
 ·refine ac s!"r" ?_
  obtain ⟨a⟩|⟨e3,hLa⟩:=(hL.get e1)
  walk_at "w"
  have:=(List.getElem?_eq_some_iff.mp e1).1
  refine aL (n:=i) hl s!"o" (y:=.ref a) (by rw [getElem?_map,e3];rfl) ?_
  exact k i L a e1 e2 hLa
 ·refine ac s!"r" ?_
  walk_at "w"
  exact kn hn
theorem n7 {A:BxA}{B:Bx} (x:Lib c) (cm:c.calm=true) (lv:1<=c.lv) (hB:BoxAt σ A B) (hz:B.letters.length<=1000)
  (k:∀ σ' D,Le σ σ'->σ' D=some (.list ((B.letters.map (·.uid)).map .int))->Q (.ref D) σ'):GoV VR c ρ [.ref A.x] (fun vs=>call (.ref 155) vs) σ Q X:=by
 refine ex1 hB.l fun xs h4z=>?_
 refine an2 h4z fun hl hL=>?_
 clear h4z
 refine ai f155 x s!"o" s!"r" rfl s!"r" fun L₀=>?_
 walk_at "w"
 refine ev_compA (Addr × Ltr) rfl s!"cns" s!"cok" s!"cp" ?_
 walk_at "w"
 refine .mk (xs.zip B.letters) (fun p=>.ref p.1) (fun p=>.int p.2.uid) _ (by rw [cw hL.len];exact aG hl) (fun σ' l=>l _ _ hl) (sz (by rw [length_zip];walk_at "o")) (fun cl C p hp σ₂ l2=>?_) fun σ₃ D l3 hD h3=>?_
 ·walk_at "w"
  refine ⟨p.1,p.2,rfl,(hL.zipMem p hp).le l2,?_⟩
  exact ⟨rfl,Le.refl _⟩
 ·refine k _ _ l3 ?_
  have:=congrArg (List.map fun L:Ltr=>AVal.int L.uid) hL.zip_snd
  rw [map_map] at this
  rw [h3,map_map];exact congrArg (fun l=>some (AObj.list l)) this
theorem LtrsAt.snoc {xs:List Addr}{Ls:List Ltr}{y:Addr}{L:Ltr} (h:LtrsAt σ xs Ls) (hy:LtrAt σ y L):LtrsAt σ (xs++[y]) (Ls++[L]):=by
 induction h with
 | nil=>exact .cons hy .nil
 | cons x _ ih=>exact .cons x ih
noncomputable def Bx.add (B:Bx) (oct:AVal) (ns:List Str) (t:Int):Bx:={ B with top:=B.top+1,next:=B.next+1,letters:=B.letters++[⟨B.next,oct,ns,t,B.top+1⟩] }
theorem f7 {A:BxA}:∀ a∈[A.d],a∈A.foot:=fun a h=>by rw [ZS h];exact .head _
theorem nT {A:BxA}:∀ a∈[A.l],a∈A.foot:=fun a h=>by rw [ZS h];exact .tail _ (.head _)
theorem eQ {A:BxA}{B:Bx}{oct:AVal}{fs:List Str}{t:Int} (x:Lib c) (cm:c.calm=true) (lv:8<=c.lv) (hB:BoxAt σ A B) (hz:B.letters.length<=900) (hf:∀ t∈fs,t.length<=1000) (hl:fs.length < 64)
  (k:∀ ns σ' y,ae fs=some ns->BoxAt σ' A (B.add oct ns t)->Fr A.foot σ σ'->LtrAt σ' y ⟨B.next,oct,ns,t,B.top+1⟩->Q (.ref y) σ')
  (kx:ae fs=none->∀ fr,X ⟨64,.str "no flag",.int (-1),fr⟩ σ):GoV VR c ρ [.ref A.x,oct,.tup (fs.map .str),.int t] (fun vs=>call (.ref 193) vs) σ Q X:=by
 refine ai f193 x s!"o" s!"r" rfl s!"r" fun L₀=>?_
 walk_at "w"
 refine bQ s!"lib" cm s!"lv" hf hl (fun ns hns=>?_) (fun h fr=>kx h fr)
 refine ac s!"r" ?_
 refine af ?_
 refine bq rfl ?_
 refine ec_Letter s!"lib" s!"lv" s!"look" ?_
 walk_at "w"
 refine gq s!"lib" s!"lv" hB fun σ₁ hB₁ f₁=>?_
 walk_at "w"
 refine ⟨⟨B.next,oct,ns,t,B.top+1⟩,rfl,fun σ₂ y l₂ hy=>?_⟩
 have hB₂:=hB₁.le l₂
 refine ac s!"r" ?_
 walk_at "w"
 refine ⟨_,_,_,rfl,rfl,hB₂,fun σ₃ hB₃ f₃=>?_⟩
 have hy₃:LtrAt σ₃ y ⟨B.next,oct,ns,t,B.top+1⟩:=hy.fr f₃ fun a ha=>hB₂.noL a (f7 a ha)
 refine ex1 hB₃.l fun xs h5z=>?_
 refine an2 h5z fun hl₃ hL₃=>?_
 clear h5z
 walk_at "w"
 refine ⟨dR hl₃,?_⟩
 walk_at "w"
 refine c5 hl₃ (sz (by rw [length_map,hL₃.len];exact Zt hz (by decide))) ?_
 have h4:=hB₃.inL (hL₃.snoc hy₃)
 rw [map_append] at h4
 walk_at "w"
 refine k ns _ y hns h4.1 ?_ (hy₃.fr h4.2 fun a ha=>hB₃.noL a (nT a ha))
 exact (((f₁.mono f7).le l₂).trans (f₃.mono f7)).trans (h4.2.mono nT)
end
section
variable {c:Cx}{ρ:List NV}{σ σ₁ τ:AState}{Q:AVal->AState->Prop}{X:AExc->AState->Prop}
theorem kX (acc:List Str) (n:Str):(aP acc n).length<=acc.length+1:=by
 unfold aP;split<;>simp
theorem gK:∀ {ts acc ns:List Str},aF acc ts=some ns->ns.length<=acc.length+ts.length
 | [],acc,ns,h=>by cases h;simp
 | t::ts,acc,ns,h=>by
  obtain ⟨n⟩|⟨_,h⟩:=(Option.bind_eq_some_iff.mp h)
  have:=gK h
  have:=kX acc n
  simp only [length_cons];walk_at "o"
theorem cR {ts ns:List Str} (h:ae ts=some ns):ns.length<=ts.length:=by
 obtain ⟨a⟩|⟨h2,rfl⟩:=(Option.map_eq_some_iff.mp h)
 rw [(aC a).length_eq]
 simpa using gK h2
theorem ii {t n:Str} (h:aA t=some n) (hz:t.length<=1000):n.length<=1000:=by
 unfold aA at h
 split at h
 ·rename_i m hm
  cases h
  have:=mem_of_find?_eq_some hm
  exact Zt ((by decide +kernel:∀ n∈sysFlags,n.length<=100) _ this) (by decide)
 ·split at h
  ·cases h;exact hz
  ·cases h
theorem eU:∀ {ts acc ns:List Str},aF acc ts=some ns->(∀ t∈ts,t.length<=1000)->(∀ t∈acc,t.length<=1000)->∀ t∈ns,t.length<=1000
 | [],acc,ns,h,_,h2=>by cases h;exact h2
 | t::ts,acc,ns,h,h1,h2=>by
  obtain ⟨n⟩|⟨hn,h⟩:=(Option.bind_eq_some_iff.mp h)
  refine eU h (fun t ht=>h1 t (.tail _ ht)) fun u hu=>?_
  unfold aP at hu
  split at hu
  ·exact h2 u hu
  ·rcases ZA hu with hu | hu
   ·exact h2 u hu
   ·rw [ZS hu];exact ii hn (h1 t (.head _))
theorem ch {ts ns:List Str} (hz:∀ t∈ts,t.length<=1000) (h:ae ts=some ns):∀ t∈ns,t.length<=1000:=by
 obtain ⟨a⟩|⟨h2,rfl⟩:=(Option.map_eq_some_iff.mp h)
 intro t ht
 exact eU h2 hz (by intro t ht;cases ht) t ((aC a).subset ht)
def Fault (X:AExc->AState->Prop) (σ:AState):Prop:=∀ w a fr,X ⟨64,w,a,fr⟩ σ
theorem LtrsAt.put {xs:List Addr}{Ls:List Ltr}{y:Addr}{L:Ltr} (h:LtrsAt σ xs Ls) (hy:LtrAt σ y L):∀ i,LtrsAt σ (xs.set i y) (Ls.set i L):=by
 induction h with
 | nil=>intro i;exact .nil
 | cons x r ih =>
  intro i
  cases i with
  | zero=>exact .cons hy r
  | succ i=>exact .cons x (ih i)
noncomputable def Bx.put (B:Bx) (i:Nat) (u:Int) (L:Ltr) (ns:List Str):Bx:={ B with top:=B.top+1,letters:=B.letters.set i ⟨u,L.oct,ns,L.instant,B.top+1⟩ }
theorem jX {A:BxA}{B:Bx}{fs:List Str}{u:Int} (x:Lib c) (cm:c.calm=true) (lv:8<=c.lv) (hB:BoxAt σ A B) (hz:B.letters.length<=900) (ha:Asc B.letters) (hf:∀ t∈fs,t.length<=1000) (hl:fs.length < 64)
  (k:∀ ns (i:Nat) (L:Ltr) σ',ae fs=some ns->B.letters[i]?=some L->L.uid=u->L.flags≠ns->BoxAt σ' A (B.put i u L ns)->Fr A.foot σ σ'->Q (.bool true) σ')
  (ks:∀ ns (i:Nat) (L:Ltr),ae fs=some ns->B.letters[i]?=some L->L.uid=u->L.flags=ns->Q (.bool false) σ)
  (kx:(ae fs=none\/∀ L∈B.letters,L.uid≠u)->Fault X σ):GoV VR c ρ [.ref A.x,.int u,.tup (fs.map .str)] (fun vs=>call (.ref 200) vs) σ Q X:=by
 refine ex1 hB.l fun xs h7z=>?_
 refine an2 h7z fun hlx hL=>?_
 clear h7z
 refine ai f200 x s!"o" s!"r" rfl s!"r" fun L₀=>?_
 walk_at "w"
 refine bQ s!"lib" cm s!"lv" hf hl (fun ns hns=>?_) (fun h fr=>kx (.inl h) _ _ fr)
 refine ac s!"r" ?_
 walk_at "w"
 refine dY s!"lib" cm s!"lv" hlx hL s!"o" ha (fun i L e1 e2=>?_) (fun hn=>?_)
 ·refine ac s!"r" ?_
  obtain ⟨a⟩|⟨e3,hLa⟩:=(hL.get e1)
  have hi:=(List.getElem?_eq_some_iff.mp e1).1
  walk_at "w"
  refine aL (n:=i) hlx s!"o" (y:=.ref a) (by rw [getElem?_map,e3];rfl) ?_
  refine ac s!"r" ?_
  walk_at "w"
  refine aj (fun h=>?_) (fun h=>?_)
  ·walk_at "w"
   exact ks ns i L hns e1 e2 (by simpa using h)
  ·walk_at "w"
   refine ec_Letter s!"lib" s!"lv" s!"look" ?_
   walk_at "w"
   refine gq s!"lib" s!"lv" hB fun σ₁ hB₁ f₁=>?_
   walk_at "w"
   refine ⟨⟨u,L.oct,ns,L.instant,B.top+1⟩,rfl,fun σ₂ y l₂ hy=>?_⟩
   have hB₂:=hB₁.le l₂
   refine ex1 hB₂.l fun xs₂ h9z=>?_
   refine an2 h9z fun hl₂ hL₂=>?_
   clear h9z
   walk_at "w"
   have h4:=hB₂.inL (hL₂.put hy i)
   have e6:(xs₂.set i y).map AVal.ref=(xs₂.map AVal.ref).set i (.ref y):=by rw [map_set]
   rw [e6] at h4
   refine fR hl₂ (Int.natCast_nonneg i) s!"o" (by rw [length_map,hL₂.len];exact Int.ofNat_lt.mpr hi) ?_
   rw [Int.toNat_natCast]
   walk_at "w"
   refine k ns i L _ hns e1 e2 (by simpa using h) h4.1 ?_
   exact ((f₁.mono f7).le l₂).trans (h4.2.mono nT)
 ·refine ac s!"r" ?_
  walk_at "w"
  exact fun fr=>kx (.inr hn) _ _ fr
theorem i0 {l:Addr}{L:Ltr}{fs:List Str}{way:Str} (x:Lib c) (cm:c.calm=true) (lv:8<=c.lv) (hL:LtrAt σ l L) (hf:∀ t∈fs,t.length<=1000) (hl:fs.length < 32) (hLf:∀ t∈L.flags,t.length<=1000) (hLl:L.flags.length < 32)
  (kp:∀ ns ms,way = "+" -> ae fs=some ns->ae (L.flags++ns)=some ms->Q (.tup (ms.map .str)) σ)
  (km:∀ ns,way = "-" -> ae fs=some ns->Q (.tup ((L.flags.filter fun f=>!(ns.any (· == f))).map .str)) σ)
  (ke:∀ ns,way = "=" -> ae fs=some ns->Q (.tup (ns.map .str)) σ)
  (kx:(ae fs=none\/(∀ ns,ae fs=some ns->way = "+" /\ ae (L.flags++ns)=none)\/(way ≠ "+" /\ way ≠ "-" /\ way ≠ "="))->Fault X σ):GoV VR c ρ [.ref l,.str way,.tup (fs.map .str)] (fun vs=>call (.ref 205) vs) σ Q X:=by
 refine GoV.tidyX ?_
 refine ai f205 x s!"o" s!"r" rfl s!"r" fun L₀=>?_
 walk_at "w"
 refine bQ s!"lib" cm s!"lv" hf s!"o" (fun ns hns=>?_) (fun h fr=>⟨σ,Le.refl _,kx (.inl h) _ _ fr⟩)
 refine ac s!"r" ?_
 walk_at "w"
 refine aj (fun h=>?_) (fun h=>?_)
 ·have hw:way = "+" := by simpa using h
  walk_at "w"
  have hnl:ns.length < 32:=Nat.lt_of_le_of_lt (cR hns) hl
  refine rA (sz (by simp;walk_at "o")) ?_
  rw [<- map_append]
  walk_at "w"
  refine bQ s!"lib" cm s!"lv" (fun t ht=>?_) (by simp;walk_at "o") (fun ms hms=>Tidy.of (Le.refl _) (kp ns ms hw hns hms)) (fun h2 fr=>⟨σ,Le.refl _,kx (.inr (.inl fun ns' h3=>?_)) _ _ fr⟩)
  ·rcases ZA ht with ht | ht
   ·exact hLf t ht
   ·exact ch hf hns t ht
  ·rw [hns] at h3;cases h3;exact ⟨hw,h2⟩
 ·have hw:way ≠ "+" := by simpa using h
  walk_at "w"
  refine aj (fun h=>?_) (fun h=>?_)
  ·have hw:way = "-" := by simpa using h
   walk_at "w"
   refine ev_compP Str rfl s!"cns" s!"cok" ?_
   walk_at "w"
   refine ⟨L.flags,.str,fun f=>!(ns.any (· == f)),.str,fun σ'=>Le σ σ',_,cA,fun _ _ h l=>h.trans l,sz s!"o",Le.refl _,fun _ _=>trivial,fun cl C f hf=>?_,fun σ' D l hD=>?_⟩
   ·intro σ₂ l2
    refine aT (ac s!"r" ?_) ⟨_,.tail _ (.head _),rfl,rfl⟩
    refine bN ?_
    walk_at "w"
    refine ⟨rfl,?_⟩
    refine aj (fun _=>?_) (fun _=>Le.refl _)
    walk_at "w"
    exact ⟨rfl,Le.refl _⟩
   ·walk_at "w"
    refine aJ (Zs ..) (sz (by rw [length_map];exact Zt (length_filter_le _ _) s!"o")) ?_
    exact Tidy.of (l.trans (Zl hD)) (km ns hw hns)
  ·have hw2:way ≠ "-" := by simpa using h
   walk_at "w"
   refine aj (fun h=>?_) (fun h=>?_)
   ·have hw:way = "=" := by simpa using h
    walk_at "w"
    exact Tidy.of (Le.refl _) (ke ns hw hns)
   ·have hw3:way ≠ "=" := by simpa using h
    walk_at "w"
    exact fun fr=>⟨σ,Le.refl _,kx (.inr (.inr ⟨hw,hw2,hw3⟩)) _ _ fr⟩
noncomputable def optI:Option Int->AVal
 | some n=>.int n
 | none=>.none
noncomputable def bP (un:Option Int) (L:Ltr):Bool:=match un with | some n=>decide (n < L.modseq) | none=>false
theorem eM {l:Addr}{L:Ltr}{un:Option Int} (x:Lib c) (cm:c.calm=true) (lv:1<=c.lv) (hL:LtrAt σ l L)
  (k:Q (.bool (bP un L)) σ):GoV VR c ρ [.ref l,optI un] (fun vs=>call (.ref 232) vs) σ Q X:=by
 cases un with
 | none =>
  refine ai f232 x s!"o" s!"r" rfl s!"r" fun L₀=>?_
  unfold optI
  walk_at "w"
  refine f9 (fun as h=>by cases h) ?_
  walk_at "w"
  exact k
 | some n =>
  refine ai f232 x s!"o" s!"r" rfl s!"r" fun L₀=>?_
  unfold optI
  walk_at "w"
  refine f9 (fun as h=>by cases h) ?_
  walk_at "w"
  exact k
end
section
variable {c:Cx}{ρ:List NV}{σ σ₁ τ:AState}{Q:AVal->AState->Prop}{X:AExc->AState->Prop}
theorem bC {N:List NV->AState->Prop}{R:AVal->AState->Prop}{XS:AExc->List NV->AState->Prop}{ss:List Stmt}{D:Addr}{o:AObj} (hD:σ D=none) (k:∀ σ',Le σ σ'->σ' D=some o->WSs c ρ ss σ' N R XS):WSs c ρ ss (σ.set D o) N R XS:=k _ (Zl hD) (Zs ..)
theorem eV {α β:Type}{RR:Heap->α->β->Prop}{t:Sem α}{Q:β->AState->Prop}{D:Addr}{o:AObj} (hD:σ D=none) (k:∀ σ',Le σ σ'->σ' D=some o->Go RR c ρ t σ' Q X):Go RR c ρ t (σ.set D o) Q X:=k _ (Zl hD) (Zs ..)
theorem r9 {α β:Type}{RR:Heap->α->β->Prop}{as:List AVal}{t:List Value->Sem α}{Q:β->AState->Prop}{D:Addr}{o:AObj} (hD:σ D=none) (k:∀ σ',Le σ σ'->σ' D=some o->GoV RR c ρ as t σ' Q X):GoV RR c ρ as t (σ.set D o) Q X:=k _ (Zl hD) (Zs ..)
theorem Fr.drop {F:List Addr}{P:Addr}{σ σ':AState} (f:Fr (P::F) σ σ') (n:σ P=none):Fr F σ σ':=fun a o e na=>f a o e fun z=>by
 rcases ZC z with rfl | z
 ·rw [n] at e;cases e
 ·exact na z
def UV (σ:AState) (a:AVal) (us:List Int):Prop:=a=.tup (us.map .int)\/∃ l,a=.ref l/\σ l=some (.list (us.map .int))
noncomputable def gZ (us:List Int) (acc:List (Int × AVal)):List (Int × AVal):=us.foldl (fun es n=>sto es n (.bool true)) acc
theorem jY {K:Type} [DecidableEq K] (es:List (K × AVal)) (k:K) (v:AVal):(sto es k v).length<=es.length+1:=by
 unfold sto;split<;>simp
noncomputable def dj {K:Type} (es:List (K × AVal)):List K:=es.map (·.1)
theorem mG {K:Type} [DecidableEq K] (es:List (K × AVal)) (k:K):(vAt es k).isSome=(dj es).contains k:=by
 unfold vAt dj
 rw [Option.isSome_map]
 induction es with
 | nil=>rfl
 | cons e es ih =>
  rw [find?_cons,map_cons,contains_cons]
  by_cases h:e.1=k
  ·simp [h]
  ·have:(k == e.1)=false:=beq_eq_false_iff_ne.mpr (Ne.symm h)
   simp only [h,decide_false,this,Bool.false_or]
   exact ih
theorem oS {K:Type} [DecidableEq K] (es:List (K × AVal)) (k:K) (v:AVal):dj (sto es k v)=if (dj es).contains k then dj es else dj es++[k]:=by
 unfold sto dj
 have h:(es.any fun kv=>decide (kv.1=k))=(es.map (·.1)).contains k:=by
  induction es with
  | nil=>rfl
  | cons e es ih =>
   rw [any_cons,map_cons,contains_cons,ih]
   congr 1
   by_cases h:e.1=k
   ·simp [h]
   ·have:(k == e.1)=false:=beq_eq_false_iff_ne.mpr (Ne.symm h)
    rw [this];simp [h]
 rw [h]
 split
 ·rw [map_map]
  apply map_congr_left
  intro e _
  show (if e.1=k then (e.1,v) else e).1=e.1
  split<;>rfl
 ·simp
noncomputable def once (acc:List Int):List Int->List Int
 | []=>acc
 | u::us=>once (if acc.contains u then acc else acc++[u]) us
theorem fk:∀ (us:List Int) (acc:List (Int × AVal)),dj (gZ us acc)=once (dj acc) us
 | [],_=>rfl
 | u::us,acc=>by
  show dj (gZ us (sto acc u _))=_
  rw [fk us,oS];rfl
theorem eA (us:List Int):dj (idsD us)=once [] us:=fk us []
theorem dO:∀ (us acc:List Int) (u:Int),u∈once acc us↔u∈acc\/u∈us
 | [],acc,u=>by simp [once]
 | v::us,acc,u=>by
  unfold once
  rw [dO us]
  split
  ·rename_i h
   have h:v∈acc:=by simpa using h
   rw [mem_cons]
   constructor
   ·rintro (h1 | h1)
    ·exact .inl h1
    ·exact .inr (.inr h1)
   ·rintro (h1 | rfl | h1)
    ·exact .inl h1
    ·exact .inl h
    ·exact .inr h1
  ·rw [mem_append,mem_singleton,mem_cons]
   constructor
   ·rintro ((h1 | h1) | h1)
    ·exact .inl h1
    ·exact .inr (.inl h1)
    ·exact .inr (.inr h1)
   ·rintro (h1 | h1 | h1)
    ·exact .inl (.inl h1)
    ·exact .inl (.inr h1)
    ·exact .inr h1
theorem jf (us:List Int) (u:Int):(once [] us).contains u=us.contains u:=by
 rw [Bool.eq_iff_iff];simp [dO]
theorem d8:∀ (us acc:List Int),(once acc us).length<=acc.length+us.length
 | [],acc=>by simp [once]
 | v::us,acc=>by
  unfold once
  have:=d8 us (if acc.contains v then acc else acc++[v])
  have h2:(if acc.contains v then acc else acc++[v]).length<=acc.length+1:=by split<;>simp
  simp only [length_cons];walk_at "o"
theorem kR {us:List Int} (x:Lib c) (cm:c.calm=true) (lv:1<=c.lv) (hz:us.length < 64)
  (k:∀ σ' D,Le σ σ'->σ' D=some (.list ((bD (once [] us)).map .int))->Q (.ref D) σ'):GoV VR c ρ [.tup (us.map .int)] (fun vs=>call (.ref 245) vs) σ Q X:=by
 refine ai f245 x s!"o" s!"r" rfl s!"r" fun L₀=>?_
 walk_at "w"
 refine ev_dict_nil (.dictI []) (.inr (.inl rfl)) fun D hD=>(ac s!"r" ?_)
 refine af ?_
 refine aX (α:=Int) .int rfl ?_
 walk_at "w"
 let J1:=fun (r:List Int) (ρ':List NV) (σ':AState)=>∃ v acc,ρ'=[⟨"uids",.local,some (.tup (us.map .int))⟩,⟨"seen",.local,some (.ref D)⟩,⟨"uid",.local,v⟩,⟨"sorted",.globalImplicit,none⟩,⟨"list",.globalImplicit,none⟩]/\Le σ σ'/\σ' D=some (.dictI acc)/\acc.length+r.length < 64/\idsD us=gZ r acc
 refine ⟨us,_,J1,
  cA,(ei2 _ ([]) (ai5 rfl (Zl hD) (Zs ..) (by simpa using hz) rfl)),fun _ _ _ _=>trivial,?_,?_⟩
 ·intro n r ρ₁ σ₁ r1z
  obtain ⟨v,acc⟩|⟨rfl,l,hd,hlen,he⟩:=r1z
  refine ay rfl (ac s!"r" ?_)
  walk_at "w"
  refine jV hd (sz (by simp at hlen;walk_at "o")) ?_
  walk_at "w"
  have:=jY acc n (.bool true)
  exact Tidy.of (Le.refl _) (ei2 _ _ (ai5 rfl (l.setNew hD) (Zs ..) (by simp only [length_cons] at hlen;walk_at "o") he))
 ·intro ρ₁ σ₁ r2z
  obtain ⟨v,acc⟩|⟨rfl,l,hd,hlen,he⟩:=r2z
  walk_at "w"
  refine lU hd (sz (by simp at hlen;walk_at "o")) fun D2 hD2=>?_
  walk_at "w"
  refine kD (ns:=acc.map (·.1)) (by rw [Zs,map_map];rfl) (by simpa using hlen) fun D3 hD3=>?_
  have e:idsD us=acc:=he
  refine fresh hD3 fun σ₃ l3 h3=>k _ _ ((l.trans (Zl hD2)).trans l3) ?_
  rw [h3,<- eA,e];rfl
noncomputable def Bx.left (B:Bx) (us:List Int):List Int:=(B.letters.map (·.uid)).filter fun u=>us.contains u
noncomputable def Bx.expunge (B:Bx) (us:List Int):Bx:=if (B.left us).isEmpty then B else
 { B with top:=B.top+1,letters:=B.letters.filter fun L=>!us.contains L.uid,gone:=B.gone++(B.left us).map fun u=>(u,B.top+1) }
structure BoxA (σ σ':AState) (A A':BxA):Prop where
 x:A'.x=A.x
 d:A'.d=A.d
 l:A'.l=A.l\/σ A'.l=none
 g:A'.g=A.g\/σ A'.g=none
 fr:Fr A.foot σ σ'
theorem iH {A:BxA}{B:Bx}{a:AVal}{us:List Int} (x:Lib c) (cm:c.calm=true) (lv:4<=c.lv) (hB:BoxAt σ A B) (ha:UV σ a us) (hz:B.letters.length<=900) (hus:us.length<=900) (hg:B.gone.length<=900)
  (k:∀ σ' D A',σ D=none->σ' D=some (.list ((B.left us).map .int))->BoxAt σ' A' (B.expunge us)->BoxA σ σ' A A'->D≠A'.l->D≠A'.g->Q (.ref D) σ'):GoV VR c ρ [.ref A.x,a] (fun vs=>call (.ref 210) vs) σ Q X:=by
 refine ai f210 x s!"o" s!"r" rfl s!"r" fun L₀=>?_
 walk_at "w"
 refine ev_dict_nil (.dictI []) (.inr (.inl rfl)) fun W hW=>(ac s!"r" ?_)
 refine af ?_
 refine aX (α:=Int) .int rfl ?_
 walk_at "w"
 have io:∃ need,(∀ tgt,ItOf (c.call fd210 210 L₀) tgt a (us.map .int) need (σ.set W (.dictI [])))/\∀ σ',Le σ σ'->need σ':=by
  rcases ha with rfl | ⟨l,rfl,hl⟩
  ·exact ⟨_,fun _=>cA,fun _ _=>trivial⟩
  ·exact ⟨_,fun _=>aG (Zl hW _ _ hl),fun σ' l'=>l' _ _ hl⟩
 obtain ⟨need⟩|⟨io,hneed⟩:=io
 let J2:=fun (r:List Int) (ρ':List NV) (σ':AState)=>∃ v acc,ρ'=[⟨"box",.local,some (.ref A.x)⟩,⟨"uids",.local,some a⟩,⟨"wanted",.cell,some (.ref W)⟩,⟨"uid",.local,v⟩,⟨"there",.local,none⟩,⟨"modseq",.cell,none⟩,⟨"raised",.globalImplicit,none⟩]/\Le σ σ'/\σ' W=some (.dictI acc)/\acc.length+r.length<=900/\idsD us=gZ r acc
 refine ⟨us,_,J2,
  io _,(ei2 _ ([]) (ai5 rfl (Zl hW) (Zs ..) (by simpa using hus) rfl)),fun _ _ σ' z=>ex2 z fun _ _ q=>by have l:=q.2.1;exact hneed σ' l,?_,?_⟩
 ·intro n r ρ₁ σ₁ r3z
  obtain ⟨v,acc⟩|⟨rfl,l,hd,hlen,he⟩:=r3z
  refine ay rfl (ac s!"r" ?_)
  walk_at "w"
  refine jV hd (sz (by simp at hlen;walk_at "o")) ?_
  walk_at "w"
  have:=jY acc n (.bool true)
  exact Tidy.of (Le.refl _) (ei2 _ _ (ai5 rfl (l.setNew hW) (Zs ..) (by simp only [length_cons] at hlen;walk_at "o") he))
 ·intro ρ₁ σ₁ r4z
  obtain ⟨v,acc⟩|⟨rfl,l,hd,hlen,he⟩:=r4z
  have e:idsD us=acc:=he
  have hin:∀ u,(vAt acc u).isSome=us.contains u:=fun u=>by rw [mG,<- e,eA,jf]
  have hB₁:=hB.le l
  refine af ?_
  refine d9 Int rfl s!"cns" s!"cok" ?_
  walk_at "w"
  refine n7 s!"lib" cm s!"lv" hB₁ s!"o" fun σ₂ D₂ l₂ h₂=>?_
  refine ⟨B.letters.map (·.uid),.int,fun u=>us.contains u,.int,fun σ'=>Le σ₂ σ',_,aG h₂,fun _ _ h l=>h.trans l,sz (by simp;walk_at "o"),Le.refl _,fun σ' l=>l _ _ h₂,fun cl C u hu=>?_,fun σ₃ D l₃ hD=>?_⟩
  ·intro σ₄ l₄
   refine aT (ac s!"r" ?_) ⟨_,.tail _ (.head _),rfl,rfl⟩
   refine bN ?_
   walk_at "w"
   refine ru (l₄ _ _ (l₂ _ _ hd)) ?_
   rw [hin]
   walk_at "w"
   refine ⟨rfl,?_⟩
   refine aj (fun _=>?_) (fun _=>Le.refl _)
   walk_at "w"
   exact ⟨rfl,Le.refl _⟩
  ·refine ac s!"r" ?_
   have l5:Le σ σ₃:=(l.trans l₂).trans l₃
   have hDσ:σ D=none:=aS l5 hD
   refine bC hD fun σ₅ l6 h6=>?_
   have hB₅:=hB.le (l5.trans l6)
   have h6':σ₅ D=some (.list ((B.left us).map .int)):=h6
   walk_at "w"
   refine ⟨by decide,fun E hE=>?_⟩
   refine r9 hE fun σ₆ l7 h7=>?_
   have l8:=l5.trans (l6.trans l7)
   have hB₆:=hB.le l8
   have h6'':=l7 _ _ h6'
   have hW₆:σ₆ W=some (.dictI acc):=(((l₂.trans l₃).trans l6).trans l7) _ _ hd
   refine oR (a:=D) (l7 _ _ h6') h7 ?_
   rw [List.isEmpty_map]
   walk_at "w"
   refine aj (fun h=>?_) (fun h=>?_)
   ·walk_at "w"
    refine ⟨by decide,fun G hG=>?_⟩
    have he:(B.left us)=[]:=by simpa using h
    have hGσ:σ G=none:=aS l8 hG
    have lG:=l8.trans (Zl (o:=.list []) hG)
    have neq:∀ b,(∃ o,σ b=some o)->G≠b:=fun b ⟨o,e⟩ z=>by rw [<- z,hGσ] at e;cases e
    refine k _ G A hGσ (by rw [Zs,he];rfl) (by unfold Bx.expunge;rw [h];exact hB.le lG) ⟨rfl,rfl,.inl rfl,.inl rfl,lG.fr⟩ (neq _ ?_) (neq _ ⟨_,hB.g⟩)
    refine ex1 hB.l fun xs h10z=>?_
    refine an2 h10z fun hx _=>?_
    clear h10z
    exact ⟨_,hx⟩
   ·walk_at "w"
    refine gq s!"lib" s!"lv" hB₆ fun σ₇ hB₇ f₇=>?_
    refine ac s!"r" ?_
    have hDd:D≠A.d:=fun z=>by rw [z,hB₆.d] at h6'';cases h6''
    have hWd:W≠A.d:=fun z=>by rw [z,hB₆.d] at hW₆;cases hW₆
    have h7D:σ₇ D=some (.list ((B.left us).map .int)):=f₇ _ _ h6'' (by simpa using hDd)
    have h7W:σ₇ W=some (.dictI acc):=f₇ _ _ hW₆ (by simpa using hWd)
    refine ex1 hB₇.l fun xs h11z=>?_
    refine an2 h11z fun hx hL=>?_
    clear h11z
    refine af ?_
    refine wa_letters s!"lib" ?_
    refine ev_compP (Addr × Ltr) rfl s!"cns" s!"cok" ?_
    walk_at "w"
    refine ⟨xs.zip B.letters,fun p=>.ref p.1,fun p=>!us.contains p.2.uid,fun p=>.ref p.1,fun σ'=>Le σ₇ σ',_,by rw [cw hL.len];exact aG hx,fun _ _ h l=>h.trans l,sz (by rw [length_zip];walk_at "o"),Le.refl _,fun σ' l=>l _ _ hx,fun cl C p hp=>?_,fun σ₈ D₈ l₈ hD₈=>?_⟩
    ·intro σ₂ l2
     refine aT (ac s!"r" ?_) ⟨_,.tail _ (.head _),rfl,rfl⟩
     refine bN ?_
     walk_at "w"
     refine ⟨p.1,p.2,rfl,(hL.zipMem p hp).le l2,?_⟩
     walk_at "w"
     refine nO (l2 _ _ h7W) ?_
     rw [hin]
     walk_at "w"
     refine ⟨rfl,?_⟩
     refine aj (fun _=>?_) (fun _=>Le.refl _)
     walk_at "w"
     exact ⟨rfl,Le.refl _⟩
    ·obtain ⟨ys⟩|⟨e1,hys⟩:=(hL.filt (fun L=>!us.contains L.uid))
     refine eV hD₈ fun σ₉ l₉ h₉=>?_
     have hB₉:=hB₇.le (l₈.trans l₉)
     have h9:σ₉ D₈=some (.list (ys.map .ref)):=by rw [h₉,e1]
     have hD8σ:σ D₈=none:=aS l8 (by
      cases z:σ₆ D₈ with
      | none=>rfl
      | some ob =>
       by_cases w:D₈=A.d
       ·have:=l₈ _ _ hB₇.d;rw [<- w,hD₈] at this;cases this
       ·rw [l₈ _ _ (f₇ _ _ z (by simpa using w))] at hD₈;cases hD₈)
     have hgne:D₈≠A.g:=fun z=>by have:=hB.g;rw [<- z,hD8σ] at this;cases this
     walk_at "w"
     refine ⟨A,_,D₈,ys,_,rfl,rfl,hB₉,h9,hys.le (l₈.trans l₉),hgne,fun τ hBτ fτ=>?_⟩
     have hDd9:D∉[A.d]:=by simpa using hDd
     have hτD:τ D=some (.list ((B.left us).map .int)):=fτ _ _ ((l₈.trans l₉) _ _ h7D) hDd9
     refine af ?_
     refine wa_gone s!"lib" ?_
     walk_at "w"
     refine ⟨{ A with l:=D₈ },_,rfl,hBτ,?_⟩
     walk_at "w"
     refine ev_compA Int rfl s!"cns" s!"cok" s!"cp" ?_
     walk_at "w"
     refine .mk (B.left us) .int (fun u=>bE (u,B.top+1)) _ (aG hτD) (fun σ' l=>l _ _ hτD) (sz (Zt (length_filter_le _ _) (by simp;walk_at "o"))) (fun cl C u hu σ₂ l2=>?_) fun τ₂ D₁ m₂ hD₁ h₂=>?_
     ·walk_at "w"
      exact ⟨rfl,Le.refl _⟩
     ·have hBτ2:=hBτ.le m₂
      refine nV hBτ2.g h₂ (Zt (m:=2000) (by simp only [length_map];have:=length_filter_le (fun u=>us.contains u) (B.letters.map (·.uid));simp only [length_map] at this;unfold Bx.left;walk_at "o") (by decide)) fun G hG=>?_
      refine eV hG fun τ₃ m₃ h₃=>?_
      have hBτ3:=hBτ2.le m₃
      walk_at "w"
      have hG0:σ G=none:=by
       cases z:σ G with
       | none=>rfl
       | some ob =>
        by_cases w:G=A.d
        ·have:=m₂ _ _ hBτ.d;rw [<- w,hG] at this;cases this
        ·have w':G∉[A.d]:=by simpa using w
         have:=m₂ _ _ (fτ _ _ (l₉ _ _ (l₈ _ _ (f₇ _ _ (l8 _ _ z) w'))) w')
         rw [hG] at this;cases this
      have hGl:D₈≠G:=fun z=>by
       refine ex1 hBτ2.l fun xs' h13z=>?_
       refine an2 h13z fun hx' _=>?_
       clear h13z
       have hx':τ₂ D₈=_:=hx'
       rw [z,hG] at hx';cases hx'
      refine ⟨{ A with l:=D₈ },_,G,B.gone++(B.left us).map (fun u=>(u,B.top+1)),rfl,rfl,hBτ3,?_,hGl,fun τ₄ hB₄ f₄=>?_⟩
      ·rw [h₃,map_append,map_map];rfl
      ·have hD4:τ₄ D=some (.list ((B.left us).map .int)):=f₄ _ _ (m₃ _ _ (m₂ _ _ hτD)) hDd9
       walk_at "w"
       have hfr:Fr [A.d] σ τ₄:=(((((l8.fr (F:=[A.d])).trans f₇).le (l₈.trans l₉)).trans fτ).le (m₂.trans m₃)).trans f₄
       refine k _ D { A with l:=D₈,g:=G } hDσ hD4 (by unfold Bx.expunge;rw [h];exact hB₄) ⟨rfl,rfl,.inr hD8σ,.inr hG0,hfr.mono f7⟩ ?_ ?_
       ·intro z
        have z:D=D₈:=z
        have:=l₈ _ _ h7D;rw [z,hD₈] at this;cases this
       ·intro z
        have z:D=G:=z
        have:=m₂ _ _ hτD;rw [z,hG] at this;cases this
end
section
variable {c:Cx}{ρ:List NV}{σ σ₁ τ:AState}{Q:AVal->AState->Prop}{X:AExc->AState->Prop}
noncomputable def minI (a b:Int):Int:=if b < a then b else a
noncomputable def Bx.kept (B:Bx) (m:Int):List (Int × Int):=B.gone.filter fun p=>decide (minI m B.top < p.2)
noncomputable def Bx.forget (B:Bx) (m:Int):Bx:=if minI m B.top<=B.floor then B else { B with gone:=B.kept m,floor:=minI m B.top }
noncomputable def Bx.forgot (B:Bx) (m:Int):Int:=if minI m B.top<=B.floor then 0 else (B.gone.length:Int) - (B.kept m).length
theorem il {A:BxA}{B:Bx}{m:Int} (x:Lib c) (cm:c.calm=true) (lv:1<=c.lv) (hB:BoxAt σ A B) (hg:B.gone.length<=900)
  (k:∀ σ' A',BoxAt σ' A' (B.forget m)->BoxA σ σ' A A'->Q (.int (B.forgot m)) σ'):GoV VR c ρ [.ref A.x,.int m] (fun vs=>call (.ref 250) vs) σ Q X:=by
 refine ai f250 x s!"o" s!"r" rfl s!"r" fun L₀=>?_
 walk_at "w"
 refine si ?_
 refine ac s!"r" ?_
 walk_at "w"
 refine aj (fun h=>?_) (fun h=>?_)
 ·have h:minI m B.top<=B.floor:=of_decide_eq_true h
  walk_at "w"
  have:=k σ A (by unfold Bx.forget;rw [if_pos h];exact hB) ⟨rfl,rfl,.inl rfl,.inl rfl,Fr.refl⟩
  unfold Bx.forgot at this
  rw [if_pos h] at this
  exact this
 ·have h:¬ minI m B.top<=B.floor:=of_decide_eq_false h
  refine g9 ?_
  refine af ?_
  refine d9 (Int × Int) rfl s!"cns" s!"cok" ?_
  walk_at "w"
  refine ⟨B.gone,bE,fun p=>decide (minI m B.top < p.2),bE,fun σ'=>Le σ σ',_,aG hB.g,fun _ _ h l=>h.trans l,sz s!"o",Le.refl _,fun σ' l=>l _ _ hB.g,fun cl C p hp=>?_,fun σ₃ D l₃ hD=>?_⟩
  ·intro σ₄ l₄
   refine cZ (as:=[.int p.1,.int p.2]) ?_ nm2 rfl
   show Asg _ _ _ _ _ _ _
   refine aT (ac s!"r" ?_) ⟨_,.tail _ (.head _),rfl,rfl⟩
   show Asg _ _ _ _ _ _ _
   refine aT (ac s!"r" ?_) ⟨_,.tail _ (.tail _ (.head _)),rfl,rfl⟩
   show CTest _ _ _ _ _
   refine bN ?_
   walk_at "w"
   refine ⟨rfl,?_⟩
   refine aj (fun _=>?_) (fun _=>Le.refl _)
   walk_at "w"
   exact ⟨rfl,Le.refl _⟩
  ·refine ac s!"r" ?_
   refine bC hD fun σ₄ l₄ h₄=>?_
   have l:=l₃.trans l₄
   have hB₄:=hB.le l
   have hDσ:=aS l₃ hD
   have h₄:σ₄ D=some (.list ((B.kept m).map bE)):=h₄
   walk_at "w"
   refine bJ hB₄.g (by simp;walk_at "o") ?_
   walk_at "w"
   have hkl:(B.kept m).length<=B.gone.length:=length_filter_le _ _
   refine bJ h₄ (by simp;walk_at "o") ?_
   walk_at "w"
   refine ac s!"r" ?_
   rw [length_map,length_map]
   walk_at "w"
   have neq:∀ b,(∃ o,σ b=some o)->b≠D:=fun b ⟨o,e⟩ z=>by rw [z,hDσ] at e;cases e
   refine ⟨A,_,D,B.kept m,rfl,rfl,hB₄,h₄,neq _ (by refine ex1 hB.l fun xs h1z=>?_;refine an2 h1z fun hx _=>?_;clear h1z;exact ⟨_,hx⟩),fun σ₅ hB₅ f₅=>?_⟩
   refine af ?_
   refine wa_floor s!"lib" ?_
   walk_at "w"
   refine ⟨{ A with g:=D },_,_,rfl,rfl,hB₅,fun σ₆ hB₆ f₆=>?_⟩
   walk_at "w"
   have:=k σ₆ { A with g:=D } (by unfold Bx.forget;rw [if_neg h];exact hB₆) ⟨rfl,rfl,.inl rfl,.inr hDσ,((l.fr (F:=[A.d])).trans (f₅.trans f₆)).mono f7⟩
   unfold Bx.forgot at this
   rw [if_neg h] at this
   exact this
end
section
variable {c:Cx}{ρ:List NV}{σ σ₁ τ:AState}{Q:AVal->AState->Prop}{X:AExc->AState->Prop}
noncomputable def Bx.addAll (G:Bx) (Ls:List Ltr):Bx:=Ls.foldl (fun G L=>G.add L.oct L.flags L.instant) G
noncomputable def aB:Int->List Ltr->List (Int × Int)
 | _,[]=>[]
 | n,L::Ls=>(L.uid,n)::aB (n+1) Ls
def Canon (fs:List Str):Prop:=ae fs=some fs/\(∀ t∈fs,t.length<=1000)/\fs.length < 32
theorem Asc.uniq {Ls:List Ltr} (h:Asc Ls) {a b:Ltr} (ha:a∈Ls) (hb:b∈Ls) (e:a.uid=b.uid):a=b:=by
 obtain ⟨i,hi⟩:=List.mem_iff_getElem?.mp ha
 obtain ⟨j,hj⟩:=List.mem_iff_getElem?.mp hb
 rcases Nat.lt_trichotomy i j with z | z | z
 ·have:=h.lt hi hj z;walk_at "o"
 ·subst z;exact Option.some.inj (hi.symm.trans hj)
 ·have:=h.lt hj hi z;walk_at "o"
theorem dE:∀ (n:Int) (La:List Ltr) (L:Ltr),aB n (La++[L])=aB n La++[(L.uid,n+La.length)]
 | n,[],L=>by simp [aB]
 | n,M::La,L=>by
  show (M.uid,n)::aB (n+1) (La++[L])=_
  rw [dE]
  simp only [aB,cons_append,length_cons]
  congr 4
  push_cast;walk_at "o"
theorem bL:∀ (n:Int) (La:List Ltr),(aB n La).length=La.length
 | n,[]=>rfl
 | n,M::La=>by simp [aB,bL]
theorem dP:∀ (Ls:List Ltr) (G:Bx),(G.addAll Ls).next=G.next+Ls.length/\(G.addAll Ls).letters.length=G.letters.length+Ls.length
 | [],G=>by simp [Bx.addAll]
 | L::Ls,G=>by
  have:=dP Ls (G.add L.oct L.flags L.instant)
  show ((G.add L.oct L.flags L.instant).addAll Ls).next=_/\((G.add L.oct L.flags L.instant).addAll Ls).letters.length=_
  rw [this.1,this.2]
  simp only [Bx.add,length_append,length_cons,length_nil]
  walk_at "o"
theorem pg {A:BxA}{B:Bx}{D:Addr}{xs:List AVal} (h:BoxAt σ A B) (hD:σ D=some (.list xs)) (hl:D≠A.l) (hg:D≠A.g):D∉A.foot:=by
 simp only [BxA.foot,mem_cons,not_mem_nil,or_false]
 rintro (z | z | z)
 ·rw [z,h.d] at hD;cases hD
 ·exact hl z
 ·exact hg z
theorem c7 {A:BxA}{B:Bx}{D:Addr} (h:BoxAt σ A B) (hD:σ D=none):D∉A.foot:=by
 simp only [BxA.foot,mem_cons,not_mem_nil,or_false]
 refine ex1 h.l fun xs h1z=>?_
 refine an2 h1z fun hx _=>?_
 clear h1z
 rintro (z | z | z)
 ·rw [z,h.d] at hD;cases hD
 ·rw [z,hx] at hD;cases hD
 ·rw [z,h.g] at hD;cases hD
theorem dG {A Ag:BxA}{B G:Bx}{l:Addr}{us:List Int}{Ls:List Ltr} (x:Lib c) (cm:c.calm=true) (lv:10<=c.lv) (hB:BoxAt σ A B) (hG:BoxAt σ Ag G) (hl:σ l=some (.list (us.map .int)))
  (hz:B.letters.length<=900) (ha:Asc B.letters) (hus:us.length < 64) (hLs:Ls.map (·.uid)=bD us) (hin:∀ L∈Ls,L∈B.letters) (hcan:∀ L∈Ls,Canon L.flags) (hgz:G.letters.length+Ls.length<=900)
  (k:∀ σ' D,σ D=none->σ' D=some (.list ((aB G.next Ls).map bE))->BoxAt σ' Ag (G.addAll Ls)->Fr Ag.foot σ σ'->Q (.ref D) σ'):GoV VR c ρ [.ref A.x,.ref l,.ref Ag.x] (fun vs=>call (.ref 215) vs) σ Q X:=by
 refine ai f215 x s!"o" s!"r" rfl s!"r" fun L₀=>?_
 have hlen:Ls.length < 64:=by
  have:=congrArg List.length hLs
  rw [length_map,(aZ us).length_eq] at this;walk_at "o"
 walk_at "w"
 refine ⟨by decide,fun P hP=>(ac s!"r" ?_)⟩
 refine bC hP fun σ₁ l₁ h₁=>?_
 refine af ?_
 refine aX (α:=Addr × Ltr) (fun p=>.ref p.1) rfl ?_
 refine ev_listcomp rfl s!"cns" s!"cok" ?_
 walk_at "w"
 refine kD (l₁ _ _ hl) s!"o" fun S hS=>?_
 let J1:=fun (r:List AVal) (zs:List AVal) (σ':AState)=>Le (σ₁.set S (.list ((bD us).map .int))) σ'/\∃ as La Lb,zs=as.map AVal.ref/\LtrsAt σ' as La/\Ls=La++Lb/\r=(Lb.map (·.uid)).map .int
 refine ⟨J1,
  ⟨_,_,aG (Zs ..),sz (by rw [length_map,(aZ us).length_eq];walk_at "o"),⟨Le.refl _,[],[],Ls,rfl,.nil,rfl,by rw [hLs]⟩,fun _ _ σ' h=>h.1 _ _ (Zs ..)⟩,fun cl C=>?_,?_⟩
 ·intro v rest zs σ₂ r1z
  refine an2 r1z fun l₂ q2=>?_
  obtain ⟨as,La,Lb⟩|⟨e1,hLa,e2,hr⟩:=(q2)
  clear q2 r1z
  subst e2
  obtain rfl:=e1
  cases Lb with
  | nil=>cases hr
  | cons L Lb =>
   rw [map_cons,map_cons] at hr
   cases hr
   have hB₂:=hB.le ((l₁.trans (Zl hS)).trans l₂)
   refine aT (ac s!"r" ?_) ⟨_,.tail _ (.head _),rfl,rfl⟩
   refine eE ?_
   refine ifT ?_
   walk_at "w"
   refine jF s!"lib" cm s!"lv" hB₂ s!"o" ha (fun i M a e1 e2 hM=>?_) (fun hn=>absurd rfl (hn L (hin L (by simp))))
   have e:M=L:=ha.uniq (mem_of_getElem? e1) (hin L (by simp)) e2
   subst e
   exact ⟨l₂,as++[a],La++[M],Lb,by simp,hLa.snoc hM,by simp,rfl⟩
 ·intro ys σ₂ D r2z hD
  refine an2 r2z fun l₂ q2=>?_
  obtain ⟨as,La,Lb⟩|⟨e1,hLa,hLs',hr⟩:=(q2)
  clear q2 r2z
  obtain rfl:=e1
  have hLb:Lb=[]:=by
   cases Lb with
   | nil=>rfl
   | cons _ _=>cases hr
  subst hLb
  rw [append_nil] at hLs'
  subst hLs'
  have l3:Le σ₁ σ₂:=(Zl hS).trans l₂
  have hDσ:σ D=none:=aS (l₁.trans l3) hD
  have hG₀:=hG.le ((l₁.trans l3).trans (Zl (o:=.list (as.map .ref)) hD))
  have hP₀:(σ₂.set D (.list (as.map .ref))) P=some (.list []):=Zl hD _ _ (l3 _ _ h₁)
  have hPne:∀ a o,σ a=some o->a≠P:=fun a o e z=>by rw [z,hP] at e;cases e
  have hDf:D∉P::Ag.foot:=by
   rw [mem_cons,not_or]
   exact ⟨(fun z=>by rw [z,l3 _ _ h₁] at hD;cases hD),c7 hG hDσ⟩
  let J2:=fun (r:List (Addr × Ltr)) (ρ':List NV) (σ':AState)=>∃ v w La,ρ'=[⟨"box",.cell,some (.ref A.x)⟩,⟨"uids",.local,some (.ref l)⟩,⟨"goal",.local,some (.ref Ag.x)⟩,⟨"pairs",.local,some (.ref P)⟩,⟨"letter",.local,v⟩,⟨"made",.local,w⟩,⟨"sorted",.globalImplicit,none⟩,⟨"add_letter",.globalImplicit,none⟩]/\Fr (P::Ag.foot) (σ₂.set D (.list (as.map .ref))) σ'/\BoxAt σ' Ag (G.addAll La)/\σ' P=some (.list ((aB G.next La).map bE))/\Ls=La++r.map (·.2)/\(∀ p∈r,LtrAt σ' p.1 p.2)/\P∉Ag.foot
  refine ⟨as.zip Ls,_,J2,
   by rw [cw hLa.len];exact aG (Zs ..),(ei3 _ _ ([]) (ai7 rfl Fr.refl hG₀ hP₀ (by rw [hLa.zip_snd];rfl) (fun p hp=>(hLa.le (Zl hD)).zipMem p hp) (c7 hG hP))),fun _ _ σ' z=>ex3 z fun _ _ _ q=>by have f:=q.2.1;exact f _ _ (Zs ..) hDf,?_,?_⟩
  ·intro r3z r ρ₁ σ₃ r4z
   obtain ⟨a,L⟩:=r3z
   obtain ⟨v,w,La⟩|⟨rfl,f,hG₃,hP₃,hLs',hr',hPf⟩:=r4z
   have hL₃:=hr' _ (.head _)
   dsimp only at hL₃
   have hcl:Canon L.flags:=hcan L (by rw [hLs'];simp)
   have hq:=dP La G
   have hll:La.length+(r.length+1)=Ls.length:=by rw [hLs'];simp
   refine ay rfl (ac s!"r" ?_)
   walk_at "w"
   refine f9 (fun as h=>by cases h) ?_
   walk_at "w"
   refine eQ s!"lib" cm s!"lv" hG₃ s!"o" hcl.2.1 (by have:=hcl.2.2;walk_at "o") (fun ns σ₄ y hns hG₄ f₄ hy=>?_) (fun hno=>by rw [hcl.1] at hno;cases hno)
   rw [hcl.1] at hns;cases hns
   refine ac s!"r" ?_
   have hP₄:σ₄ P=some (.list ((aB G.next La).map bE)):=f₄ _ _ hP₃ hPf
   have hL₄:LtrAt σ₄ a L:=hL₃.fr f₄ hG₃.noL
   walk_at "w"
   refine ⟨dR hP₄,?_⟩
   walk_at "w"
   refine ⟨(by simp [sizeLine]:_<=sizeLine),?_⟩
   walk_at "w"
   have hapl:(aB G.next La).length=La.length:=bL ..
   refine c5 hP₄ (sz (by rw [length_map,hapl];walk_at "o")) ?_
   walk_at "w"
   have f5:Fr [P] σ₄ (σ₄.set P (.list ((aB G.next La).map bE++[.tup [.int L.uid,.int (G.addAll La).next]]))):=Fr.refl.set (.head _)
   have nP:NoL σ₄ [P]:=fun b hb=>by rw [ZS hb,hP₄];exact .list
   have sub1:∀ b∈Ag.foot,b∈P::Ag.foot:=fun b hb=>.tail _ hb
   have sub2:∀ b∈[P],b∈P::Ag.foot:=fun b hb=>by rw [ZS hb];exact .head _
   refine Tidy.of (Le.refl _) (ei3 _ _ (La++[L]) (ai7 rfl ((f.trans (f₄.mono sub1)).trans (f5.mono sub2)) ?_ ?_ (by rw [hLs'];simp) (fun p hp=>((hr' p (.tail _ hp)).fr f₄ hG₃.noL).fr f5 nP) hPf))
   ·have:=hG₄.fr f5 nP (fun b hb z=>hPf (by rw [<- ZS z];exact hb))
    have e:G.addAll (La++[L])=(G.addAll La).add L.oct L.flags L.instant:=by unfold Bx.addAll;rw [foldl_append];rfl
    rw [e];exact this
   ·rw [Zs,dE,map_append,hq.1];rfl
  ·intro ρ₁ σ₃ r5z
   obtain ⟨v,w,La⟩|⟨rfl,f,hG₃,hP₃,hLs',hr',hPf⟩:=r5z
   rw [map_nil,append_nil] at hLs'
   subst hLs'
   walk_at "w"
   refine k σ₃ P hP hP₃ hG₃ (Fr.drop (P:=P) ?_ hP)
   exact ((l₁.trans (l3.trans (Zl hD))).fr (F:=P::Ag.foot)).trans f
end
section
variable {c:Cx}{ρ:List NV}{σ σ₁ τ:AState}{Q:AVal->AState->Prop}{X:AExc->AState->Prop}
theorem dB:∀ (n:Int) (La:List Ltr),(aB n La).map (·.1)=La.map (·.uid)
 | n,[]=>rfl
 | n,M::La=>by simp [aB,dB]
theorem ci {A Ag:BxA}{B B1 G:Bx}{l:Addr}{us:List Int}{Ls:List Ltr} (x:Lib c) (cm:c.calm=true) (lv:12<=c.lv) (hB:BoxAt σ A B) (hG:BoxAt σ Ag G) (hl:σ l=some (.list (us.map .int)))
  (hz:B.letters.length<=900) (ha:Asc B.letters) (hus:us.length < 64) (hLs:Ls.map (·.uid)=bD us) (hin:∀ L∈Ls,L∈B.letters) (hcan:∀ L∈Ls,Canon L.flags) (hgz:G.letters.length+Ls.length<=900)
  (hsrc:∀ σ',BoxAt σ' Ag (G.addAll Ls)->Fr Ag.foot σ σ'->BoxAt σ' A B1) (hz1:B1.letters.length<=900) (hg1:B1.gone.length<=900)
  (k:∀ σ₁ σ₂ P A',Fr Ag.foot σ σ₁->BoxAt σ₁ Ag (G.addAll Ls)->BoxAt σ₂ A' (B1.expunge (Ls.map (·.uid)))->BoxA σ₁ σ₂ A A'->σ₂ P=some (.list ((aB G.next Ls).map bE))->Q (.ref P) σ₂):GoV VR c ρ [.ref A.x,.ref l,.ref Ag.x] (fun vs=>call (.ref 220) vs) σ Q X:=by
 have hlen:Ls.length < 64:=by
  have:=congrArg List.length hLs
  rw [length_map,(aZ us).length_eq] at this;walk_at "o"
 refine ai f220 x s!"o" s!"r" rfl s!"r" fun L₀=>?_
 walk_at "w"
 refine dG s!"lib" cm s!"lv" hB hG hl hz ha hus hLs hin hcan hgz fun σ₁ P hP h₁ hG₁ f₁=>?_
 refine ac s!"r" ?_
 have hB₁:=hsrc σ₁ hG₁ f₁
 walk_at "w"
 refine ev_compA (Int × Int) rfl s!"cns" s!"cok" s!"cp" ?_
 walk_at "w"
 refine .mk (aB G.next Ls) bE (fun p=>.int p.1) _ (aG h₁) (fun σ' l=>l _ _ h₁) (sz (by rw [bL];walk_at "o")) (fun cl C p hp σ₄ l₄=>?_) fun σ₅ D l₅ hD h₅=>?_
 ·walk_at "w"
  exact ⟨rfl,Le.refl _⟩
 ·have h₅:σ₅ D=some (.list ((Ls.map (·.uid)).map .int)):=by
   rw [h₅,<- dB G.next,map_map];rfl
  walk_at "w"
  refine iH s!"lib" cm s!"lv" (hB₁.le l₅) (.inr ⟨D,rfl,h₅⟩) hz1 (by simp;walk_at "o") hg1 fun σ₆ R A' _ _ hB₆ hA₆ _ _=>?_
  walk_at "w"
  have hPA:P∉A.foot:=by
   refine pg hB₁ h₁ (fun z=>?_) fun z=>?_
   ·refine ex1 hB.l fun xs h1z=>?_
    refine an2 h1z fun hx _=>?_
    clear h1z
    rw [z,hx] at hP;cases hP
   ·rw [z,hB.g] at hP;cases hP
  have hA:BoxA σ₁ σ₆ A A':=⟨hA₆.x,hA₆.d,hA₆.l.imp id (aS l₅),hA₆.g.imp id (aS l₅),(l₅.fr).trans hA₆.fr⟩
  exact k σ₁ σ₆ P A' f₁ hG₁ hB₆ hA (hA.fr _ _ h₁ hPA)
end
theorem ik:∀ n∈sysFlags,aA n=some n:=by decide +kernel
theorem jb {t n:Str} (h:aA t=some n):aA n=some n:=by
 have h0:=h
 unfold aA at h
 split at h
 ·rename_i m hm
  cases h
  exact ik _ (mem_of_find?_eq_some hm)
 ·split at h
  ·cases h;exact h0
  ·cases h
theorem addOnce_mem {acc:List Str}{n u:Str}:u∈aP acc n↔u∈acc\/u=n:=by
 unfold aP
 split
 ·rename_i h
  rw [any_eq_true] at h
  obtain ⟨y⟩|⟨hy,e⟩:=h
  have e:y=n:=by simpa using e
  subst e
  constructor
  ·exact .inl
  ·rintro (h | rfl)
   ·exact h
   ·exact hy
 ·simp
theorem jp {acc:List Str}{n:Str} (h:acc.Nodup):(aP acc n).Nodup:=by
 unfold aP
 split
 ·exact h
 ·rename_i hc
  rw [nodup_append]
  refine ⟨h,by simp,fun a ha b hb=>?_⟩
  rw [ZS hb]
  rintro rfl
  exact hc (List.any_eq_true.mpr ⟨_,ha,by simp⟩)
theorem fj:∀ {ts acc ns:List Str},aF acc ts=some ns->acc.Nodup->(∀ f∈acc,aA f=some f)->ns.Nodup/\(∀ f∈ns,aA f=some f)/\∀ u,u∈ns↔u∈acc\/∃ t∈ts,aA t=some u
 | [],acc,ns,h,h1,h2=>by cases h;exact ⟨h1,h2,fun u=>by simp⟩
 | t::ts,acc,ns,h,h1,h2=>by
  obtain ⟨n⟩|⟨hn,h⟩:=(Option.bind_eq_some_iff.mp h)
  refine an3 (fj h (jp h1) (fun f hf=>by
   rcases addOnce_mem.mp hf with hf | rfl
   ·exact h2 f hf
   ·exact jb hn)) fun a b d=>?_
  refine ⟨a,b,fun u=>?_⟩
  rw [d,addOnce_mem]
  constructor
  ·rintro ((h | rfl) | ⟨s,hs,e⟩)
   ·exact .inl h
   ·exact .inr ⟨t,.head _,hn⟩
   ·exact .inr ⟨s,.tail _ hs,e⟩
  ·rintro (h | ⟨s,hs,e⟩)
   ·exact .inl (.inl h)
   ·rcases ZC hs with rfl | hs
    ·rw [hn] at e;cases e;exact .inl (.inr rfl)
    ·exact .inr ⟨s,hs,e⟩
theorem aR {ts ns:List Str} (h:ae ts=some ns):ns.Nodup/\(∀ f∈ns,aA f=some f)/\ns.Pairwise (fun a b=>leS a b=true)/\∀ u,u∈ns↔∃ t∈ts,aA t=some u:=by
 obtain ⟨a⟩|⟨h2,rfl⟩:=(Option.map_eq_some_iff.mp h)
 refine an3 (fj h2 .nil (fun f hf=>by cases hf)) fun q1 q2 q3=>?_
 have pm:=aC a
 exact ⟨pm.nodup_iff.mpr q1,fun f hf=>q2 f (pm.subset hf),dS a,fun u=>by rw [pm.mem_iff,q3];simp⟩
theorem cW:∀ {fs acc:List Str},(acc++fs).Nodup->(∀ f∈fs,aA f=some f)->aF acc fs=some (acc++fs)
 | [],acc,_,_=>by simp [aF]
 | f::fs,acc,h1,h2=>by
  unfold aF
  rw [h2 f (.head _)]
  show aF (aP acc f) fs=_
  have hn:aP acc f=acc++[f]:=by
   unfold aP
   rw [if_neg]
   intro hc
   rw [any_eq_true] at hc
   obtain ⟨y⟩|⟨hy,e⟩:=hc
   have e:y=f:=by simpa using e
   subst e
   exact (List.nodup_append.mp h1).2.2 y hy y (.head _) rfl
  rw [hn,cW (by simpa using h1) (fun g hg=>h2 g (.tail _ hg))]
  simp
theorem dD {fs:List Str} (h1:fs.Nodup) (h2:∀ f∈fs,aA f=some f) (h3:fs.Pairwise (fun a b=>leS a b=true)):ae fs=some fs:=by
 unfold ae
 rw [cW (by simpa using h1) h2]
 simp [gy h3]
theorem cF {ts ns:List Str} (h:ae ts=some ns):ae ns=some ns :=
 let ⟨a,b,d,_⟩:=aR h;dD a b d
theorem fX {fs:List Str} (p:Str->Bool) (h:ae fs=some fs):ae (fs.filter p)=some (fs.filter p) :=
 let ⟨a,b,d,_⟩:=aR h
 dD (a.filter p) (fun f hf=>b f ((ZF hf).1)) (d.filter p)
theorem eO:∀ {ts acc:List Str},(∀ t∈ts,(aA t).isSome)->(aF acc ts).isSome
 | [],acc,_=>rfl
 | t::ts,acc,h=>by
  obtain ⟨n,hn⟩:=Option.isSome_iff_exists.mp (h t (.head _))
  unfold aF
  rw [hn]
  exact eO fun s hs=>h s (.tail _ hs)
theorem eT {fs gs:List Str} (h1:ae fs=some fs) (h2:ae gs=some gs):∃ ns,ae (fs++gs)=some ns:=by
 have:(aF [] (fs++gs)).isSome:=eO fun t ht=>by
  rcases ZA ht with ht | ht
  ·rw [(aR h1).2.1 t ht];rfl
  ·rw [(aR h2).2.1 t ht];rfl
 obtain ⟨a,ha⟩:=Option.isSome_iff_exists.mp this
 exact ⟨bf a,by unfold ae;rw [ha];rfl⟩
noncomputable def aH (lf:List Str) (way:Str) (fs:List Str):List Str:=if way = "+" then (ae (lf++fs)).getD [] else if way = "-" then lf.filter (fun f=>!(fs.any (· == f))) else fs
theorem cb {lf fs:List Str}{way:Str} (h1:ae lf=some lf) (h2:ae fs=some fs):ae (aH lf way fs)=some (aH lf way fs):=by
 unfold aH
 split
 ·obtain ⟨ns,h⟩:=eT h1 h2
  rw [h];exact cF h
 ·split
  ·exact fX _ h1
  ·exact h2
section
variable {c:Cx}{ρ:List NV}{σ σ₁ τ:AState}{Q:AVal->AState->Prop}{X:AExc->AState->Prop}
noncomputable def b7 (Ls:List Ltr) (u:Int):Option Ltr:=Ls.find? (fun L=>L.uid == u)
noncomputable def ixOf (Ls:List Ltr) (u:Int):Int:=match Ls.findIdx? (fun L=>L.uid == u) with | some i=>(i:Int) | none=>-1
theorem qh {Ls:List Ltr} (ha:Asc Ls) {i:Nat}{L:Ltr}{u:Int} (e:Ls[i]?=some L) (hu:L.uid=u):Ls.findIdx? (fun L=>L.uid == u)=some i/\b7 Ls u=some L:=by
 obtain ⟨h,rfl⟩:=List.getElem?_eq_some_iff.mp e
 have h1:Ls.findIdx? (fun L=>L.uid == u)=some i:=by
  rw [List.findIdx?_eq_some_iff_getElem]
  refine ⟨h,by simp [hu],fun j hj=>?_⟩
  have:=ha.lt (getElem?_eq_getElem (Nat.lt_trans hj h)) (getElem?_eq_getElem h) hj
  simp;walk_at "o"
 refine ⟨h1,?_⟩
 unfold b7
 cases q:Ls.find? (fun L=>L.uid == u) with
 | none =>
  have:=List.find?_eq_none.mp q _ (getElem_mem h)
  simp [hu] at this
 | some M =>
  have hM:M.uid=u:=by simpa using find?_some q
  rw [ha.uniq (mem_of_find?_eq_some q) (getElem_mem h) (hM.trans hu.symm)]
theorem fE {Ls:List Ltr}{u:Int} (h:∀ L∈Ls,L.uid≠u):Ls.findIdx? (fun L=>L.uid == u)=none/\b7 Ls u=none:=by
 refine ⟨List.findIdx?_eq_none_iff.mpr fun L hL=>by simpa using h L hL,List.find?_eq_none.mpr fun L hL=>by simpa using h L hL⟩
noncomputable def Bx.turn (B:Bx) (u:Int) (ns:List Str):Bx × Bool:=match B.letters.findIdx? (fun L=>L.uid == u),b7 B.letters u with
 | some i,some L=>if L.flags=ns then (B,false) else (B.put i u L ns,true)
 | _,_=>(B,false)
theorem Bx.turn_at {B:Bx} (ha:Asc B.letters) {i:Nat}{L:Ltr}{u:Int}{ns:List Str} (e:B.letters[i]?=some L) (hu:L.uid=u):B.turn u ns=if L.flags=ns then (B,false) else (B.put i u L ns,true):=by
 obtain ⟨h1,h2⟩:=qh ha e hu
 unfold Bx.turn;rw [h1,h2]
theorem eN {A:BxA}{B:Bx}{fs:List Str}{u:Int} (x:Lib c) (cm:c.calm=true) (lv:8<=c.lv) (hB:BoxAt σ A B) (hz:B.letters.length<=900) (ha:Asc B.letters) (hf:∀ t∈fs,t.length<=1000) (hl:fs.length < 64)
  (k:∀ ns σ',ae fs=some ns->(∃ L∈B.letters,L.uid=u)->BoxAt σ' A (B.turn u ns).1->Fr A.foot σ σ'->Q (.bool (B.turn u ns).2) σ')
  (kx:(ae fs=none\/∀ L∈B.letters,L.uid≠u)->Fault X σ):GoV VR c ρ [.ref A.x,.int u,.tup (fs.map .str)] (fun vs=>call (.ref 200) vs) σ Q X :=
 jX x cm lv hB hz ha hf hl
  (fun ns i L σ' h1 h2 h3 h4 h5 h6=>by
   have:=k ns σ' h1 ⟨L,mem_of_getElem? h2,h3⟩
   rw [Bx.turn_at ha h2 h3,if_neg h4] at this
   exact this h5 h6)
  (fun ns i L h1 h2 h3 h4=>by
   have:=k ns σ h1 ⟨L,mem_of_getElem? h2,h3⟩
   rw [Bx.turn_at ha h2 h3,if_pos h4] at this
   exact this hB Fr.refl) kx
noncomputable def bh (un:Option Int) (way:Str) (fs:List Str) (st:Bx × List Int) (L:Ltr):Bx × List Int :=
 if bP un L then st else let r:=st.1.turn L.uid (aH L.flags way fs);(r.1,if r.2 then st.2++[L.uid] else st.2)
noncomputable def Bx.picked (B:Bx) (us:List Int):List Ltr:=(bD (once [] us)).filterMap (b7 B.letters)
noncomputable def Bx.storeF (B:Bx) (un:Option Int) (way:Str) (fs:List Str) (us:List Int):Bx × List Int:=(B.picked us).foldl (bh un way fs) (B,[])
theorem jP {xs:List Addr}{Ls:List Ltr} (h:LtrsAt σ xs Ls) (ha:Asc Ls):∀ us:List Int,∃ as,((us.map (ixOf Ls)).filter (fun i=>decide (0<=i))).map (fun i=>AVal.ref (xs[i.toNat]?.getD 0))=as.map .ref/\LtrsAt σ as (us.filterMap (b7 Ls))
 | []=>⟨[],rfl,.nil⟩
 | u::us=>by
  obtain ⟨as⟩|⟨h1,h2⟩:=(jP h ha us)
  by_cases hu:∃ L∈Ls,L.uid=u
  ·obtain ⟨L⟩|⟨hL,e⟩:=hu
   obtain ⟨i,hi⟩:=List.mem_iff_getElem?.mp hL
   obtain ⟨e1,e2⟩:=qh ha hi e
   obtain ⟨a⟩|⟨hx,hLa⟩:=(h.get hi)
   refine ⟨a::as,?_,?_⟩
   ·rw [map_cons,filter_cons]
    have:ixOf Ls u=(i:Int):=by unfold ixOf;rw [e1]
    rw [this,if_pos (by simp),map_cons,h1]
    simp [hx]
   ·rw [filterMap_cons,e2];exact .cons hLa h2
  ·obtain ⟨e1,e2⟩:=fE (Ls:=Ls) (u:=u) (fun L hL e=>hu ⟨L,hL,e⟩)
   refine ⟨as,?_,?_⟩
   ·rw [map_cons,filter_cons]
    have:ixOf Ls u=-1:=by unfold ixOf;rw [e1]
    rw [this,if_neg (by decide),h1]
   ·rw [filterMap_cons,e2];exact h2
theorem eH {B:Bx}{u:Int}{ns:List Str} (ha:Asc B.letters):(B.turn u ns).1.letters.map (·.uid)=B.letters.map (·.uid):=by
 by_cases h:∃ L∈B.letters,L.uid=u
 ·obtain ⟨L⟩|⟨hL,e⟩:=h
  obtain ⟨i,hi⟩:=List.mem_iff_getElem?.mp hL
  rw [Bx.turn_at ha hi e]
  split
  ·rfl
  ·show (B.letters.set i _).map _=_
   rw [map_set]
   apply List.ext_getElem?
   intro j
   rw [List.getElem?_set]
   split
   ·rename_i h;subst h
    split
    ·rw [getElem?_map,hi];simp [e]
    ·rename_i h;rw [getElem?_eq_none];simpa using h
   ·rfl
 ·obtain ⟨e1,e2⟩:=fE (Ls:=B.letters) (u:=u) (fun L hL e=>h ⟨L,hL,e⟩)
  unfold Bx.turn;rw [e1,e2]
theorem asc_uids {Ls:List Ltr}:Asc Ls↔(Ls.map (·.uid)).Pairwise (· < ·):=by unfold Asc;rw [pairwise_map]
theorem hH {lf fs:List Str}{way:Str} (h1:lf.length < 32) (h2:fs.length < 32):(aH lf way fs).length < 64:=by
 unfold aH
 split
 ·cases z:ae (lf++fs) with
  | none=>simp
  | some ns=>have:=cR z;simp at this ⊢;walk_at "o"
 ·split
  ·exact Nat.lt_of_le_of_lt (length_filter_le _ _) s!"o"
  ·walk_at "o"
theorem gk {lf fs:List Str}{way:Str} (h1:∀ t∈lf,t.length<=1000) (h2:∀ t∈fs,t.length<=1000):∀ t∈aH lf way fs,t.length<=1000:=by
 unfold aH
 split
 ·cases z:ae (lf++fs) with
  | none=>intro t ht;cases ht
  | some ns=>exact ch (fun t ht=>(ZA ht).elim (h1 t) (h2 t)) z
 ·split
  ·exact fun t ht=>h1 t (ZF ht).1
  ·exact h2
theorem gP {l:Addr}{L:Ltr}{fs:List Str}{way:Str} (x:Lib c) (cm:c.calm=true) (lv:8<=c.lv) (hL:LtrAt σ l L) (hcl:Canon L.flags) (hfs:Canon fs) (hw:way = "+" \/ way = "-" \/ way = "=")
  (k:Q (.tup ((aH L.flags way fs).map .str)) σ):GoV VR c ρ [.ref l,.str way,.tup (fs.map .str)] (fun vs=>call (.ref 205) vs) σ Q X :=
 i0 x cm lv hL hfs.2.1 hfs.2.2 hcl.2.1 hcl.2.2
  (fun ns ms h1 h2 h3=>by
   rw [hfs.1] at h2;cases h2
   unfold aH at k;rw [if_pos h1,h3] at k;exact k)
  (fun ns h1 h2=>by
   rw [hfs.1] at h2;cases h2
   unfold aH at k;rw [if_neg (by rw [h1];decide +kernel),if_pos h1] at k;exact k)
  (fun ns h1 h2=>by
   rw [hfs.1] at h2;cases h2
   unfold aH at k;rw [if_neg (by rw [h1];decide +kernel),if_neg (by rw [h1];decide +kernel)] at k;exact k)
  (fun h=>by
   exfalso
   rcases h with h | h | h
   ·rw [hfs.1] at h;cases h
   ·obtain ⟨ns,h2⟩:=eT hcl.1 hfs.1
    rw [(h _ hfs.1).2] at h2;cases h2
   ·rcases hw with hw | hw | hw
    ·exact h.1 hw
    ·exact h.2.1 hw
    ·exact h.2.2 hw)
theorem iz {A:BxA}{B:Bx}{us:List Int}{way:Str}{fs:List Str}{un:Option Int} (x:Lib c) (cm:c.calm=true) (lv:10<=c.lv) (hB:BoxAt σ A B) (hz:B.letters.length<=900) (ha:Asc B.letters) (hus:us.length < 64)
  (hcan:∀ L∈B.letters,Canon L.flags) (hfs:Canon fs) (hw:way = "+" \/ way = "-" \/ way = "=")
  (k:∀ σ' C R,σ' C=some (.list ((B.storeF un way fs us).2.map .int))->σ' R=some (.list (((B.picked us).filter (bP un)).map fun L=>.int L.uid))->BoxAt σ' A (B.storeF un way fs us).1->Fr A.foot σ σ'->C∉A.foot->R∉A.foot->Q (.tup [.ref C,.ref R]) σ') :
  GoV VR c ρ [.ref A.x,.tup (us.map .int),.str way,.tup (fs.map .str),optI un] (fun vs=>call (.ref 238) vs) σ Q X:=by
 refine ex1 hB.l fun xs h6z=>?_
 refine an2 h6z fun hlx hL=>?_
 clear h6z
 refine oy s!"o" (f238 x) sR rfl (fun y hy=>?_) (fun vs s hl b=>bind238 x vs s hl b) fun L₀=>?_
 ·have h:(fd238.scope.names.take 5).all (fun x=>x.2 == .local || x.2 == .cell)=true:=by decide +kernel
  have:=List.all_eq_true.mp h y hy
  rw [Bool.or_eq_true] at this
  exact this.imp eq_of_beq eq_of_beq
 show WSs _ [⟨"box",.cell,some (.ref A.x)⟩,⟨"uids",.local,some (.tup (us.map .int))⟩,⟨"way",.local,some (.str way)⟩,⟨"flags",.local,some (.tup (fs.map .str))⟩,⟨"unless",.cell,some (optI un)⟩,⟨"letters",.local,none⟩,⟨"letter",.local,none⟩,⟨"refused",.local,none⟩,⟨"changed",.local,none⟩,⟨"distinct",.globalImplicit,none⟩,⟨"is_refused",.globalImplicit,none⟩,⟨"set_flags",.globalImplicit,none⟩,⟨"flags_after",.globalImplicit,none⟩] (_::_) _ _ _ _
 have hdl:(bD (once [] us)).length < 64:=by
  rw [(aZ _).length_eq]
  have:=d8 us []
  simp at this;walk_at "o"
 refine af ?_
 refine d9 Int rfl s!"cns" s!"cok" ?_
 refine ev_compA Int rfl s!"cns" s!"cok" s!"cp" ?_
 walk_at "w"
 refine kR s!"lib" cm s!"lv" hus fun σ₁ D₁ l₁ h₁=>?_
 refine .mk (bD (once [] us)) .int (fun u=>.int (ixOf B.letters u)) _ (aG h₁) (fun σ' l=>l _ _ h₁) (sz s!"o") (fun cl C u hu σ₂ l₂=>?_) fun σ₂ D₂ l₂ hD₂ hh₂=>?_
 ·have l:=l₁.trans l₂
  have hB₂:=hB.le l
  walk_at "w"
  refine dY s!"lib" cm s!"lv" (l _ _ hlx) (hL.le l) s!"o" ha (fun i L e1 e2=>⟨?_,Le.refl _⟩) (fun hn=>⟨?_,Le.refl _⟩)
  ·show _=AVal.int (ixOf B.letters u)
   unfold ixOf;rw [(qh ha e1 e2).1]
  ·show _=AVal.int (ixOf B.letters u)
   unfold ixOf;rw [(fE hn).1]
 obtain ⟨as⟩|⟨e1,hLa⟩:=(jP hL ha (bD (once [] us)))
 have hlen:(B.picked us).length < 64:=Nat.lt_of_le_of_lt (List.length_filterMap_le _ _) hdl
 refine ⟨(bD (once [] us)).map (ixOf B.letters),.int,fun i=>decide (0<=i),fun i=>.ref (xs[i.toNat]?.getD 0),fun σ'=>Le σ₂ σ',_,
  by rw [map_map];exact aG hh₂,fun _ _ h l=>h.trans l,sz (by rw [length_map];walk_at "o"),Le.refl _,fun σ' l=>l _ _ hh₂,fun cl C i hi=>?_,fun σ₃ D₃ l₃ hD₃=>?_⟩
 ·intro σ₃ l₃
  have l:=(l₁.trans l₂).trans l₃
  refine aT (ac s!"r" ?_) ⟨_,.tail _ (.head _),rfl,rfl⟩
  refine bN ?_
  walk_at "w"
  refine ⟨rfl,?_⟩
  refine aj (fun h=>?_) (fun _=>Le.refl _)
  have hi0:0<=i:=of_decide_eq_true h
  have hB₃:=hB.le l
  obtain ⟨u⟩|⟨_,rfl⟩:=(ZM hi)
  obtain ⟨n,en⟩:∃ n:Nat,ixOf B.letters u=(n:Int)/\n < xs.length:=by
   unfold ixOf at hi0 ⊢
   split
   ·rename_i i hi
    exact ⟨i,rfl,by rw [hL.len];exact (List.findIdx?_eq_some_iff_getElem.mp hi).1⟩
   ·rename_i hi;rw [hi] at hi0;exact absurd hi0 (by decide)
  rw [en.1]
  walk_at "w"
  have hx:xs[n]?=some xs[n]:=getElem?_eq_getElem en.2
  refine aL (n:=n) (l _ _ hlx) (by have:=hL.len;walk_at "o") (y:=.ref xs[n]) (by rw [getElem?_map,hx];rfl) ⟨?_,Le.refl _⟩
  show AVal.ref _=AVal.ref (xs[((n:Int)).toNat]?.getD 0)
  rw [Int.toNat_natCast,hx];rfl
 refine ac s!"r" ?_
 rw [e1]
 refine bC hD₃ fun σ₄ l₄ h₄=>?_
 have l:=((l₁.trans l₂).trans l₃).trans l₄
 have hLa₄:LtrsAt σ₄ as (B.picked us):=hLa.le l
 refine af ?_
 refine d9 (Addr × Ltr) rfl s!"cns" s!"cok" ?_
 walk_at "w"
 refine ⟨as.zip (B.picked us),fun p=>.ref p.1,fun p=>bP un p.2,fun p=>.int p.2.uid,fun σ'=>Le σ₄ σ',_,by rw [cw hLa₄.len];exact aG h₄,fun _ _ h l=>h.trans l,sz (by rw [length_zip];walk_at "o"),Le.refl _,fun σ' l=>l _ _ h₄,fun cl C p hp=>?_,fun σ₅ R l₅ hR=>?_⟩
 ·intro σ₅ l₅
  refine aT (ac s!"r" ?_) ⟨_,.tail _ (.head _),rfl,rfl⟩
  refine bN ?_
  have hp':=(hLa₄.zipMem p hp).le l₅
  walk_at "w"
  refine eM s!"lib" cm s!"lv" hp' ?_
  walk_at "w"
  refine ⟨rfl,?_⟩
  refine aj (fun _=>?_) (fun _=>Le.refl _)
  walk_at "w"
  exact ⟨rfl,Le.refl _⟩
 refine ac s!"r" ?_
 refine bC hR fun σ₆ l₆ h₆=>?_
 walk_at "w"
 refine ⟨by decide,fun Cc hC=>(ac s!"r" ?_)⟩
 refine bC hC fun σ₇ l₇ h₇=>?_
 have lA:=l.trans ((l₅.trans l₆).trans l₇)
 have l47:=(l₅.trans l₆).trans l₇
 have hBz:=hB.le lA
 have hCσ:σ Cc=none:=aS (l.trans (l₅.trans l₆)) hC
 have hRσ:σ R=none:=aS (l.trans l₅) hR
 have hLσ:σ D₃=none:=aS ((l₁.trans l₂).trans l₃) hD₃
 have hCf:=c7 hB hCσ
 have hR₆:σ₆ R=some (.list (((B.picked us).filter (bP un)).map fun L=>.int L.uid)):=by
  rw [h₆]
  congr 2
  have:=hLa₄.zip_snd
  generalize B.picked us=Ls at this
  conv=>rhs;rw [<- this]
  rw [filter_map,map_map]
  rfl
 have hRC:R≠Cc:=fun z=>by rw [z,hC] at hR₆;cases hR₆
 have hDC:D₃≠Cc:=fun z=>by have:=(l₅.trans l₆) _ _ h₄;rw [z,hC] at this;cases this
 have hDf:D₃∉Cc::A.foot:=by rw [mem_cons,not_or];exact ⟨hDC,c7 hB hLσ⟩
 have hRf:R∉Cc::A.foot:=by rw [mem_cons,not_or];exact ⟨hRC,c7 hB hRσ⟩
 refine af ?_
 refine aX (α:=Addr × Ltr) (fun p=>.ref p.1) rfl ?_
 walk_at "w"
 let J1:=fun (r:List (Addr × Ltr)) (ρ':List NV) (σ':AState)=>∃ v done,ρ'=[⟨"box",.cell,some (.ref A.x)⟩,⟨"uids",.local,some (.tup (us.map .int))⟩,⟨"way",.local,some (.str way)⟩,⟨"flags",.local,some (.tup (fs.map .str))⟩,⟨"unless",.cell,some (optI un)⟩,⟨"letters",.local,some (.ref D₃)⟩,⟨"letter",.local,v⟩,⟨"refused",.local,some (.ref R)⟩,⟨"changed",.local,some (.ref Cc)⟩,⟨"distinct",.globalImplicit,none⟩,⟨"is_refused",.globalImplicit,none⟩,⟨"set_flags",.globalImplicit,none⟩,⟨"flags_after",.globalImplicit,none⟩]/\Fr (Cc::A.foot) σ₇ σ'/\BoxAt σ' A (done.foldl (bh un way fs) (B,[])).1/\σ' Cc=some (.list ((done.foldl (bh un way fs) (B,[])).2.map .int))/\B.picked us=done++r.map (·.2)/\(∀ p∈r,LtrAt σ' p.1 p.2)/\(done.foldl (bh un way fs) (B,[])).1.letters.map (·.uid)=B.letters.map (·.uid)/\(done.foldl (bh un way fs) (B,[])).2.length<=done.length
 refine ⟨as.zip (B.picked us),_,J1,
  by rw [cw hLa₄.len];exact aG (l47 _ _ h₄),(ei2 _ ([]) (ai8 rfl Fr.refl hBz h₇ (by rw [hLa₄.zip_snd];rfl) (fun p hp=>(hLa₄.le l47).zipMem p hp) rfl (Nat.le_refl _))),
  fun _ _ σ' z=>ex2 z fun _ _ q=>by have f:=q.2.1;exact f _ _ (l47 _ _ h₄) hDf,?_,?_⟩
 ·intro r1z r ρ₁ σ₈ r2z
  obtain ⟨a,L⟩:=r1z
  obtain ⟨v,done⟩|⟨rfl,f,hB₈,hC₈,hpk,hr,hu,hln⟩:=r2z
  have hL₈:=hr _ (.head _)
  dsimp only at hL₈ hpk
  have hpl:done.length < 64:=by have:=congrArg List.length hpk;simp at this;walk_at "o"
  have hLB:L∈B.letters:=by
   have:L∈B.picked us:=by rw [hpk];simp
   unfold Bx.picked at this
   obtain ⟨u⟩|⟨_,hu⟩:=(List.mem_filterMap.mp this)
   exact mem_of_find?_eq_some hu
  have hcl:=hcan L hLB
  generalize est:done.foldl (bh un way fs) (B,[])=st at *
  have hst:(done++[L]).foldl (bh un way fs) (B,[])=bh un way fs st L:=by rw [foldl_append,est];rfl
  have hlz:st.1.letters.length<=900:=by have:=congrArg List.length hu;simp at this;walk_at "o"
  have hasc:Asc st.1.letters:=by rw [asc_uids,hu,<- asc_uids];exact ha
  have hin:∃ M∈st.1.letters,M.uid=L.uid:=by
   have:L.uid∈st.1.letters.map (·.uid):=by rw [hu];exact mem_map_of_mem hLB
   exact ZM this
  have hCne:Cc∉A.foot:=hCf
  refine ay rfl (ac s!"r" ?_)
  walk_at "w"
  refine eM s!"lib" cm s!"lv" hL₈ ?_
  walk_at "w"
  refine aj (fun h=>?_) (fun h=>?_)
  ·have hrf:bP un L=false:=by simpa using h
   walk_at "w"
   refine gP s!"lib" cm s!"lv" hL₈ hcl hfs hw ?_
   walk_at "w"
   refine eN s!"lib" cm s!"lv" hB₈ hlz hasc (gk hcl.2.1 hfs.2.1) (hH hcl.2.2 hfs.2.2) (fun ns σ₉ hns _ hB₉ f₉=>?_) (fun h=>?_)
   ·rw [cb hcl.1 hfs.1] at hns;cases hns
    have hC₉:=f₉ _ _ hC₈ hCne
    have fA:Fr (Cc::A.foot) σ₈ σ₉:=f₉.mono fun b hb=>.tail _ hb
    have hr₉:∀ p∈r,LtrAt σ₉ p.1 p.2:=fun p hp=>(hr p (.tail _ hp)).fr f₉ hB₈.noL
    have hL₉:LtrAt σ₉ a L:=hL₈.fr f₉ hB₈.noL
    have hsu:(bh un way fs st L).1=(st.1.turn L.uid (aH L.flags way fs)).1:=by unfold bh;rw [hrf];rfl
    have hs2:(bh un way fs st L).2=if (st.1.turn L.uid (aH L.flags way fs)).2 then st.2++[L.uid] else st.2:=by unfold bh;rw [hrf];rfl
    walk_at "w"
    refine aj (fun h=>?_) (fun h=>?_)
    ·rw [h] at hs2
     walk_at "w"
     refine ⟨dR hC₉,?_⟩
     walk_at "w"
     refine c5 hC₉ (sz (by rw [length_map];walk_at "o")) ?_
     walk_at "w"
     have f5:Fr [Cc] σ₉ (σ₉.set Cc (.list (st.2.map .int++[.int L.uid]))):=Fr.refl.set (.head _)
     have nP:NoL σ₉ [Cc]:=fun b hb=>by rw [ZS hb,hC₉];exact .list
     refine Tidy.of (Le.refl _) (ei2 _ (done++[L]) (ai8 rfl ((f.trans fA).trans (f5.mono fun b hb=>by rw [ZS hb];exact .head _)) ?_ ?_ (by rw [hpk];simp) (fun p hp=>(hr₉ p hp).fr f5 nP) ?_ ?_))
     ·rw [hst,hsu]
      exact hB₉.fr f5 nP (fun b hb z=>hCf (by rw [<- ZS z];exact hb))
     ·rw [hst,hs2,Zs];simp
     ·rw [hst,hsu,eH hasc,hu]
     ·rw [hst,hs2];simp;walk_at "o"
    ·rw [h] at hs2
     walk_at "w"
     refine Tidy.of (Le.refl _) (ei2 _ (done++[L]) (ai8 rfl (f.trans fA) ?_ ?_ (by rw [hpk];simp) hr₉ ?_ ?_))
     ·rw [hst,hsu];exact hB₉
     ·rw [hst,hs2];exact hC₉
     ·rw [hst,hsu,eH hasc,hu]
     ·rw [hst,hs2];simp;walk_at "o"
   ·exfalso
    rcases h with h | h
    ·rw [cb hcl.1 hfs.1] at h;cases h
    ·obtain ⟨M⟩|⟨hM,e⟩:=hin
     exact h M hM e
  ·have hrf:bP un L=true:=by simpa using h
   walk_at "w"
   have hss:bh un way fs st L=st:=by unfold bh;rw [hrf];rfl
   refine Tidy.of (Le.refl _) (ei2 _ (done++[L]) (ai8 rfl f ?_ ?_ (by rw [hpk];simp) (fun p hp=>hr p (.tail _ hp)) ?_ ?_))
   ·rw [hst,hss];exact hB₈
   ·rw [hst,hss];exact hC₈
   ·rw [hst,hss,hu]
   ·rw [hst,hss];simp;walk_at "o"
 ·intro ρ₁ σ₈ r3z
  obtain ⟨v,done⟩|⟨rfl,f,hB₈,hC₈,hpk,hr,hu,hln⟩:=r3z
  rw [map_nil,append_nil] at hpk
  subst hpk
  walk_at "w"
  refine k σ₈ Cc R hC₈ (f _ _ (l₇ _ _ hR₆) hRf) hB₈ (Fr.drop (P:=Cc) ?_ hCσ) hCf (fun z=>hRf (.tail _ z))
  exact (lA.fr (F:=Cc::A.foot)).trans f
end
section
variable {c:Cx}{ρ:List NV}{σ σ₁ τ:AState}{Q:AVal->AState->Prop}{X:AExc->AState->Prop}{K:Option Int->AState->Prop}
theorem pI (q:K none σ):EvPart c ρ none σ K X:=q
theorem oN {e:Expr} (q:Ev c ρ e σ (IntAt K) X):EvPart c ρ (some e) σ K X:=q
theorem tup1 {a:AVal}{P:Prop} (q:P):[a].length<=sizeLine/\P:=⟨by simp [sizeLine],q⟩
theorem tup2 {a b:AVal}{P:Prop} (q:P):[a,b].length<=sizeLine/\P:=⟨by simp [sizeLine],q⟩
theorem tup3 {a b d:AVal}{P:Prop} (q:P):[a,b,d].length<=sizeLine/\P:=⟨by simp [sizeLine],q⟩
theorem tup4 {a b d e:AVal}{P:Prop} (q:P):[a,b,d,e].length<=sizeLine/\P:=⟨by simp [sizeLine],q⟩
theorem tup5 {a b d e f:AVal}{P:Prop} (q:P):[a,b,d,e,f].length<=sizeLine/\P:=⟨by simp [sizeLine],q⟩
theorem tup6 {a b d e f g:AVal}{P:Prop} (q:P):[a,b,d,e,f,g].length<=sizeLine/\P:=⟨by simp [sizeLine],q⟩
theorem tup7 {a b d e f g h:AVal}{P:Prop} (q:P):[a,b,d,e,f,g,h].length<=sizeLine/\P:=⟨by simp [sizeLine],q⟩
end
section
variable {c:Cx}{ρ:List NV}{σ σ₁ τ:AState}{Q:AVal->AState->Prop}{X:AExc->AState->Prop}
noncomputable def aI (x:Str):Str × Str:=if Txt.find x "/" < 0 then (x, "") else (Txt.slice x none (some (Txt.find x "/")),Txt.slice x (some (Txt.find x "/")) none)
theorem jc {t:Str} (x:Lib c) (cm:c.calm=true) (lv:1<=c.lv) (hz:t.length<=1000) (k:Q (.tup [.str (aI t).1,.str (aI t).2]) σ):GoV VR c ρ [.str t] (fun vs=>call (.ref 269) vs) σ Q X:=by
 refine ai f269 x s!"o" s!"r" rfl s!"r" fun L₀=>?_
 ext
 unfold aI at k
 refine aj (fun h=>?_) (fun h=>?_)
 ·have h:Txt.find t "/" < 0:=of_decide_eq_true h
  rw [if_pos h] at k
  ext
  exact k
 ·have h:¬ Txt.find t "/" < 0:=of_decide_eq_false h
  rw [if_neg h] at k
  ext
  exact k
noncomputable def cX (d:Nat):Nat:=if 97<=d/\d<=122 then d - 32 else d
noncomputable def gp (x:Str):Str:=Txt.join "" (x.cps.toList.map fun d=>⟨#[cX d]⟩)
theorem jh {t:Str} (x:Lib c) (cm:c.calm=true) (lv:1<=c.lv) (hz:t.length<=1000) (k:Q (.str (gp t)) σ):GoV VR c ρ [.str t] (fun vs=>call (.ref 255) vs) σ Q X:=by
 refine GoV.tidy ?_
 refine ai f255 x s!"o" s!"r" rfl s!"r" fun L₀=>?_
 ext
 refine ev_compA Nat rfl s!"cns" s!"cok" s!"cp" ?_
 ext
 refine .mk t.cps.toList (fun d=>.str ⟨#[d]⟩) (fun d=>.str ⟨#[cX d]⟩) _ qt (fun _ _=>trivial) (sz (by simpa [Str.length] using Zt hz (by decide))) (fun cl C d hd σ₂ l2=>?_) fun σ₃ D l₃ hD h₃=>?_
 ·ext
  have q:∀ a b:Nat,decide ([a] < [b])=decide (a < b):=fun a b=>by simp [List.cons_lt_cons_iff]
  refine aj (fun h=>?_) (fun h=>?_)
  ·have h1:97<=d:=by
    have h:(!decide ([d] < [97]))=true:=h
    rw [q] at h;simpa using h
   ext
   refine aj (fun h=>?_) (fun h=>?_)
   ·have h2:d<=122:=by
     have h:(!decide ([122] < [d]))=true:=h
     rw [q] at h;simpa using h
    ext
    refine rS s!"o" s!"o" ⟨?_,Le.refl _⟩
    show AVal.str ⟨#[((d:Int) - 32).toNat]⟩=AVal.str ⟨#[cX d]⟩
    have:((d:Int) - 32).toNat=d - 32:=pk (k:=32) (Zt (by decide) h1)
    rw [this,cX,if_pos ⟨h1,h2⟩]
   ·have h2:¬ d<=122:=by
     have h:(!decide ([122] < [d]))=false:=h
     rw [q] at h;simpa using h
    ext
    refine ⟨?_,Le.refl _⟩
    show AVal.str ⟨#[d]⟩=AVal.str ⟨#[cX d]⟩
    rw [cX,if_neg (fun z=>h2 z.2)]
  ·have h1:¬ 97<=d:=by
    have h:(!decide ([d] < [97]))=false:=h
    rw [q] at h;simpa using h
   ext
   refine ⟨?_,Le.refl _⟩
   show AVal.str ⟨#[d]⟩=AVal.str ⟨#[cX d]⟩
   rw [cX,if_neg (fun z=>h1 z.1)]
 ·ext
  refine rq (ys:=t.cps.toList.map fun d=>⟨#[cX d]⟩) (by rw [h₃,map_map];rfl) ?_ ?_
  ·rw [map_map,length_map]
   have:(t.cps.toList.map ((fun x:Str=>x.length)∘fun d=>(⟨#[cX d]⟩:Str))).sum=t.cps.toList.length:=by
    generalize t.cps.toList=l
    induction l with
    | nil=>rfl
    | cons a l ih=>rw [map_cons,List.sum_cons,ih,length_cons];simp [Str.length];walk_at "o"
   rw [this]
   have:t.cps.toList.length<=1000:=by simpa [Str.length] using hz
   have e:Str.length "" = 0:=rfl
   rw [e];walk_at "o"
  ·exact Tidy.of l₃ k
theorem im {i:Int} (x:Lib c) (lv:1<=c.lv) (k:Q (.bool (decide (55296<=i) && decide (i<=57343))) σ):GoV VR c ρ [.int i] (fun vs=>call (.ref 262) vs) σ Q X:=by
 refine ai f262 x s!"o" s!"r" rfl s!"r" fun L₀=>?_
 ext
 refine aj (fun h=>?_) (fun h=>?_)
 ·ext;rw [h,Bool.true_and] at k;exact k
 ·rw [h] at k ⊢;exact k
noncomputable def ie (i:Int):Bool:=decide (i < 32) || (decide (127<=i) && decide (i<=159)) || i == 8232 || i == 8233 || (decide (55296<=i) && decide (i<=57343))
theorem fM {i:Int} (x:Lib c) (lv:2<=c.lv) (k:Q (.bool (ie i)) σ):GoV VR c ρ [.int i] (fun vs=>call (.ref 283) vs) σ Q X:=by
 refine ai f283 x s!"o" s!"r" rfl s!"r" fun L₀=>?_
 ext
 unfold ie at k
 refine aj (fun h=>?_) (fun h=>?_)
 ·rw [h,Bool.true_or,Bool.true_or,Bool.true_or,Bool.true_or] at k
  rw [h];exact k
 rw [h,Bool.false_or] at k
 ext
 refine aj (fun h1=>?_) (fun h1=>?_)
 ·ext
  rw [h1,Bool.true_and] at k
  refine aj (fun h2=>?_) (fun h2=>?_)
  ·rw [h2] at k ⊢;exact k
  rw [h2,Bool.false_or] at k
  ext
  refine aj (fun h3=>?_) (fun h3=>?_)
  ·rw [h3] at k ⊢;exact k
  rw [h3,Bool.false_or] at k
  ext
  refine aj (fun h4=>?_) (fun h4=>?_)
  ·rw [h4] at k ⊢;exact k
  rw [h4,Bool.false_or] at k
  ext
  refine im s!"lib" s!"lv" ?_
  ext
  exact k
 ·rw [h1,Bool.false_and,Bool.false_or] at k
  ext
  rw [h1]
  ext
  refine aj (fun h3=>?_) (fun h3=>?_)
  ·rw [h3] at k ⊢;exact k
  rw [h3,Bool.false_or] at k
  ext
  refine aj (fun h4=>?_) (fun h4=>?_)
  ·rw [h4] at k ⊢;exact k
  rw [h4,Bool.false_or] at k
  ext
  refine im s!"lib" s!"lv" ?_
  ext
  exact k
noncomputable def aa (t:Str):Str:=if gp (aI t).1 = "INBOX" then "INBOX" ++ (aI t).2 else t
theorem eR (t:Str):(aI t).1.length<=t.length/\(aI t).2.length<=t.length:=by
 unfold aI
 split
 ·exact ⟨Nat.le_refl _,Nat.zero_le _⟩
 ·exact ⟨PyProof.Txt.length_slice_le ..,PyProof.Txt.length_slice_le ..⟩
theorem cE {t:Str} (x:Lib c) (cm:c.calm=true) (lv:3<=c.lv) (hz:t.length<=1000) (k:Q (.str (aa t)) σ):GoV VR c ρ [.str t] (fun vs=>call (.ref 276) vs) σ Q X:=by
 refine ai f276 x s!"o" s!"r" rfl s!"r" fun L₀=>?_
 refine af ?_
 refine dH ?_
 ext
 refine jc s!"lib" cm s!"lv" hz ?_
 refine cZ (as:=[.str (aI t).1,.str (aI t).2]) ?_ nm2 rfl
 show Asg _ _ _ _ _ _ _
 refine ay rfl (ac s!"r" ?_)
 show Asg _ _ _ _ _ _ _
 refine ay rfl (ac s!"r" ?_)
 show WSs _ _ _ _ _ _ _
 have hl:=eR t
 ext
 refine jh s!"lib" cm s!"lv" s!"o" ?_
 ext
 unfold aa at k
 refine aj (fun h=>?_) (fun h=>?_)
 ·have h:gp (aI t).1 = "INBOX" := by simpa using h
  rw [if_pos h] at k
  ext
  refine nM (sz (by have:Str.length "INBOX" = 5:=rfl;walk_at "o")) ?_
  ext
  exact k
 ·have h:¬ gp (aI t).1 = "INBOX" := by simpa using h
  rw [if_neg h] at k
  ext
  exact k
end
section
variable {c:Cx}{ρ:List NV}{σ σ₁ τ:AState}{Q:AVal->AState->Prop}{X:AExc->AState->Prop}
theorem ff:∀ (n k:Nat),nums (k:Int) n=(List.range' k n).map fun (i:Nat)=>AVal.int (i:Int)
 | 0,k=>rfl
 | n+1,k=>by
  have:=ff n (k+1)
  rw [range'_succ,map_cons,<- this];rfl
noncomputable def jx (d:Nat):Bool:=!(Builtin.Str.occurrences "%*" ⟨#[d]⟩ 0 2 1).isEmpty
noncomputable def cc:List Nat->Nat->Nat->Bool
 | [],at',b=>b != at'
 | d::ds,at',b=>if d=47 then (if at'=b then false else cc ds (at'+1) (at'+1)) else if jx d then false else if ie d then false else cc ds (at'+1) b
noncomputable def aM (t:Str):Bool:=cc t.cps.toList 0 0
theorem jk {t:Str} (x:Lib c) (cm:c.calm=true) (lv:4<=c.lv) (hz:t.length<=1000) (k:aM t=true->Q (.str t) σ) (kx:aM t=false->∀ w i,X ⟨52,.str w,.int i,true⟩ σ):GoV VR c ρ [.str t] (fun vs=>call (.ref 290) vs) σ Q X:=by
 refine GoV.tidyX ?_
 refine ai f290 x s!"o" s!"r" rfl s!"r" fun L₀=>?_
 ext
 refine af ?_
 refine aX (α:=Nat) (fun i=>.int i) rfl ?_
 ext
 refine dc fun D hD=>?_
 have en:nums 0 ((t.length:Int) - 0).toNat=(List.range' 0 t.length).map fun (i:Nat)=>AVal.int (i:Int):=by
  rw [<- ff t.length 0];simp
 let J1:=fun (r:List Nat) (ρ':List NV) (σ':AState)=>∃ n b v w,n<=t.length/\r=List.range' n (t.length - n)/\ρ'=[⟨"text",.local,some (.str t)⟩,⟨"begin",.local,some (.int ((b:Nat):Int))⟩,⟨"at",.local,v⟩,⟨"sign",.local,w⟩,⟨"range",.globalImplicit,none⟩,⟨"len",.globalImplicit,none⟩,⟨"DELIMITER",.globalImplicit,none⟩,⟨"NameFault",.globalImplicit,none⟩,⟨"WILD_SIGNS",.globalImplicit,none⟩,⟨"is_barred_code",.globalImplicit,none⟩,⟨"ord",.globalImplicit,none⟩]/\Le σ σ'/\cc (t.cps.toList.drop n) n b=aM t
 refine ⟨List.range' 0 t.length,_,J1,
  by rw [<- en];exact cY (Zs ..) (by decide) (by decide) s!"o" s!"o",⟨0,0,_,_,Nat.zero_le _,rfl,rfl,Zl hD,rfl⟩,fun _ _ _ _=>trivial,?_,?_⟩
 ·intro y ys ρ₁ σ₁ r1z
  obtain ⟨n,b,v,w⟩|⟨hn,hr,rfl,l,hok⟩:=r1z
  have hn':n < t.length:=by
   have:=congrArg List.length hr
   simp at this;walk_at "o"
  have er:t.length - n=(t.length - (n+1))+1:=oA hn'
  rw [er,range'_succ] at hr
  cases hr
  have hx:y < t.cps.toList.length:=by simpa [Str.length] using hn'
  have hd:t.cps.toList.drop y=t.cps.toList[y]::t.cps.toList.drop (y+1):=List.drop_eq_getElem_cons hx
  have hx':t.cps[y]?=some t.cps.toList[y]:=by
   rw [<- Array.getElem?_toList];exact getElem?_eq_getElem hx
  generalize t.cps.toList[y]=d at hd hx'
  rw [hd] at hok
  unfold cc at hok
  refine ay rfl (ac s!"r" ?_)
  ext
  refine oE (d:=d) (Int.natCast_nonneg y) s!"o" (by rw [Int.toNat_natCast];exact hx') ?_
  ext
  refine aj (fun h=>?_) (fun h=>?_)
  ·have h:d=47:=by have:(⟨#[d]⟩:Str)=⟨#[47]⟩:=eq_of_beq h
                   simpa using this
   rw [if_pos h] at hok
   ext
   refine aj (fun h2=>?_) (fun h2=>?_)
   ·have h2:(y:Int)=b:=eq_of_beq h2
    have h2:y=b:=by walk_at "o"
    rw [if_pos h2] at hok
    ext
    exact ⟨σ,l,kx hok.symm _ _⟩
   ·have h2:¬ (y:Int)=b:=fun e=>by rw [e] at h2;simp at h2
    have h2:¬ y=b:=by walk_at "o"
    rw [if_neg h2] at hok
    ext
    exact Tidy.of (Le.refl _) ⟨y+1,y+1,_,_,hn',rfl,rfl,l,hok⟩
  ·have h:¬ d=47:=fun e=>by rw [e] at h;exact absurd h (by decide +kernel)
   rw [if_neg h] at hok
   ext
   refine aj (fun h2=>?_) (fun h2=>?_)
   ·have h2:jx d=true:=h2
    rw [if_pos h2] at hok
    ext
    exact ⟨σ,l,kx hok.symm _ _⟩
   ·have h2:¬ jx d=true:=by rw [show jx d=false from h2];decide
    rw [if_neg h2] at hok
    ext
    refine fM s!"lib" s!"lv" ?_
    ext
    refine aj (fun h3=>?_) (fun h3=>?_)
    ·rw [if_pos h3] at hok
     ext
     exact ⟨σ,l,kx hok.symm _ _⟩
    ·rw [if_neg (by rw [h3];decide)] at hok
     ext
     exact Tidy.of (Le.refl _) ⟨y+1,b,_,_,hn',rfl,rfl,l,hok⟩
 ·intro ρ₁ σ₁ r2z
  obtain ⟨n,b,v,w⟩|⟨hn,hr,rfl,l,hok⟩:=r2z
  have hn':n=t.length:=by
   have:=congrArg List.length hr
   simp at this;walk_at "o"
  subst hn'
  have hd:t.cps.toList.drop t.length=[]:=List.drop_eq_nil_of_le (by simp [Str.length])
  rw [hd] at hok
  ext
  refine aj (fun h=>?_) (fun h=>?_)
  ·ext
   have hb:(b:Int)=t.length:=eq_of_beq h
   have hb:b=t.length:=by walk_at "o"
   refine ⟨σ,l,kx ?_ _ _⟩
   rw [<- hok];unfold cc;simp [hb]
  ·ext
   have hb:¬ (b:Int)=t.length:=fun e=>by rw [e] at h;simp at h
   have hb:b≠t.length:=by walk_at "o"
   refine Tidy.of l (k ?_)
   rw [<- hok];unfold cc;simp [hb]
noncomputable def aU (n p:Str):Bool:=Txt.startswith n (p ++ "/")
theorem lO {n p:Str} (x:Lib c) (cm:c.calm=true) (lv:1<=c.lv) (hz:n.length<=1000) (hp:p.length<=1000) (k:Q (.bool (aU n p)) σ):GoV VR c ρ [.str n,.str p] (fun vs=>call (.ref 297) vs) σ Q X:=by
 refine ai f297 x s!"o" s!"r" rfl s!"r" fun L₀=>?_
 ext
 refine nM (sz (by have:Str.length "/" = 1:=rfl;walk_at "o")) ?_
 ext
 exact k
end
section
variable {c:Cx}{ρ ρ' ρ₂:List NV}{σ σ₁ τ:AState}{Q:AVal->AState->Prop}{X:AExc->AState->Prop}
theorem LookG.same {x:Str} (l:LookG ρ x):∀ {ρ':List NV},ρ'.map (fun e=>(e.name,e.kind))=ρ.map (fun e=>(e.name,e.kind))->LookG ρ' x:=by
 induction l with
 | here =>
  intro ρ' h
  cases ρ' with
  | nil=>cases h
  | cons e r =>
   obtain ⟨n,k,v⟩:=e
   rw [map_cons,map_cons] at h
   cases (List.cons.inj h).1
   exact .here
 | next _ ih =>
  intro ρ' h
  cases ρ' with
  | nil=>cases h
  | cons e r=>exact .next (ih (List.cons.inj h).2)
theorem Put.same {x:Str}{a:AVal} (p:Put ρ x a ρ₂):∀ {ρ':List NV},ρ'.map (fun e=>(e.name,e.kind))=ρ.map (fun e=>(e.name,e.kind))->∀ v,∃ ρ₂,Put ρ' x v ρ₂:=by
 induction p with
 | here hk =>
  intro ρ' h v
  cases ρ' with
  | nil=>cases h
  | cons e r =>
   obtain ⟨n,k,w⟩:=e
   rw [map_cons,map_cons] at h
   cases (List.cons.inj h).1
   exact ⟨_,.here hk⟩
 | next _ ih =>
  intro ρ' h v
  cases ρ' with
  | nil=>cases h
  | cons e r=>obtain ⟨r2,p⟩:=ih (List.cons.inj h).2 v;exact ⟨_,.next p⟩
theorem dM (t:Str):(aa t).length<=t.length+5:=by
 unfold aa
 split
 ·have:=(eR t).2
  have h5:Str.length "INBOX" = 5:=rfl
  rw [Str.length_append,h5];walk_at "o"
 ·walk_at "o"
theorem Put.value {x:Str}{a:AVal} (p:Put ρ x a ρ₂):LookV ρ₂ x a:=by
 induction p with
 | here _=>exact .here
 | next _ ih=>exact .next ih
theorem bS {t:Str} (x:Lib c) (cm:c.calm=true) (lv:8<=c.lv) (hz:t.length<=900) (k:aM (aa t)=true->Q (.str (aa t)) σ) (kx:aM (aa t)=false->Fault X σ):GoV VR c ρ [.str t] (fun vs=>call (.ref 382) vs) σ Q X:=by
 refine GoV.tidyX ?_
 have hl:=dM t
 refine ai f382 x s!"o" s!"r" rfl s!"r" fun L₀=>?_
 ext
 refine cE s!"lib" cm s!"lv" s!"o" ?_
 ext
 refine af ?_
 refine o6 (C:=52) rfl (fun ρ' h=>LookG.same s!"look" h) (g52 s!"lib") (iW (Lib.toK s!"lib")) (fun ρ' h=>Put.same (a:=.none) (ρ₂:=_) s!"put" h) rfl rfl ?_
 ext
 refine jk s!"lib" cm s!"lv" s!"o" (fun hok=>?_) (fun hno w i=>⟨rfl,rfl,?_⟩)
 ·ext
  exact Tidy.of (Le.refl _) (k hok)
 ·intro e d vs m ρ₂ h1 h2 h3 h4 h5 h6 hp
  have he:((σ.set e (.exc 52 (some d) vs)).set d (.attrs ca m)) e=some (.exc 52 (some d) vs):=by rw [Zn h3,Zs]
  have hd:((σ.set e (.exc 52 (some d) vs)).set d (.attrs ca m)) d=some (.attrs ca m):=Zs ..
  have l:Le σ ((σ.set e (.exc 52 (some d) vs)).set d (.attrs ca m)):=(Zl h1).trans (Zl (by rw [Zn (Ne.symm h3)];exact h2))
  generalize ((σ.set e (.exc 52 (some d) vs)).set d (.attrs ca m))=σ₂ at he hd l
  have y:Lib ((c.call fd382 382 L₀).hand e):=by walk_at "lib"
  refine af ?_
  refine iI (LookG.same s!"look" hp.names) (g64 y) (emk 64 (.inl rfl) y) s!"lv" ?_
  refine bK (ev_attrE (ev_name hp.value ⟨e,52,d,vs,_,m,_,rfl,he,hd,h5,iW y.toK,by rw [y.K];rfl,?_⟩))
  refine bK (ev_attrE (ev_name hp.value ⟨e,52,d,vs,_,m,_,rfl,he,hd,h6,iW y.toK,by rw [y.K];rfl,?_⟩))
  refine du ⟨rfl,.inr ⟨e,52,some d,vs,rfl,he,h4⟩,(by simp:_<=5),.str w,.int i,trivial,trivial,bind2 y _ _,fun fr _=>⟨σ,l,kx hno _ _ _⟩⟩
end
section
variable {c:Cx}{ρ ρ' ρ₂:List NV}{σ σ₁ τ:AState}{Q:AVal->AState->Prop}{X:AExc->AState->Prop}
theorem fm {i:Int} (x:Lib c) (cm:c.calm=true) (lv:1<=c.lv) (k:Q (.bool true) σ):GoV VR c ρ [.int i] (fun vs=>call (.ref 351) vs) σ Q X:=by
 refine ai f351 x s!"o" s!"r" rfl s!"r" fun L₀=>?_
 ext
 exact k
theorem j9 {ts:List Str} (x:Lib c) (cm:c.calm=true) (lv:1<=c.lv) (hz:ts.length<=900) (k:Q (.bool true) σ):GoV VR c ρ [.tup (ts.map .str)] (fun vs=>call (.ref 356) vs) σ Q X:=by
 refine GoV.tidy ?_
 refine ai f356 x s!"o" s!"r" rfl s!"r" fun L₀=>?_
 ext
 refine ev_compA Str rfl s!"cns" s!"cok" s!"cp" ?_
 ext
 refine .mk ts .str (fun _=>.bool true) _ cA (fun _ _=>trivial) (sz s!"o") (fun cl C d hd σ₂ l2=>?_) fun σ₃ D l₃ hD h₃=>?_
 ·ext
  exact ⟨rfl,Le.refl _⟩
 ·ext
  refine qP (bs:=ts.map fun _=>true) (by rw [h₃,map_map];rfl) ?_
  have e:((ts.map fun _=>true).all id)=true:=by rw [all_map,all_eq_true];intro _ _;rfl
  rw [e]
  exact Tidy.of l₃ k
theorem ic {us:List Int} (x:Lib c) (cm:c.calm=true) (lv:2<=c.lv) (hz:us.length<=900) (k:Q (.bool true) σ):GoV VR c ρ [.tup (us.map .int)] (fun vs=>call (.ref 361) vs) σ Q X:=by
 refine GoV.tidy ?_
 refine ai f361 x s!"o" s!"r" rfl s!"r" fun L₀=>?_
 ext
 refine ev_compA Int rfl s!"cns" s!"cok" s!"cp" ?_
 ext
 refine .mk us .int (fun _=>.bool true) _ cA (fun _ _=>trivial) (sz s!"o") (fun cl C d hd σ₂ l2=>?_) fun σ₃ D l₃ hD h₃=>?_
 ·ext
  refine fm s!"lib" cm s!"lv" ?_
  exact ⟨rfl,Le.refl _⟩
 ·ext
  refine qP (bs:=us.map fun _=>true) (by rw [h₃,map_map];rfl) ?_
  have e:((us.map fun _=>true).all id)=true:=by rw [all_map,all_eq_true];intro _ _;rfl
  rw [e]
  exact Tidy.of l₃ k
inductive Fits:Str->AVal->Prop
 | t (x:Str):Fits "t" (.str x)
 | n (i:Int):Fits "n" (.int i)
 | o (b:Array UInt8) (t:Tok):Fits "o" (.bytes b t)
 | f (ts:List Str):ts.length<=900->Fits "f" (.tup (ts.map .str))
 | u (us:List Int):us.length<=900->Fits "u" (.tup (us.map .int))
theorem ji {l:Str}{a:AVal} (x:Lib c) (cm:c.calm=true) (lv:4<=c.lv) (h:Fits l a) (k:Q (.bool true) σ):GoV VR c ρ [a,.str l] (fun vs=>call (.ref 368) vs) σ Q X:=by
 cases h with
 | t v =>
  refine ai f368 x s!"o" s!"r" rfl s!"r" fun L₀=>?_
  ext
  exact k
 | n v =>
  refine ai f368 x s!"o" s!"r" rfl s!"r" fun L₀=>?_
  ext
  refine fm s!"lib" cm s!"lv" ?_
  exact k
 | o b t =>
  refine ai f368 x s!"o" s!"r" rfl s!"r" fun L₀=>?_
  ext
  exact k
 | f ts hz =>
  refine ai f368 x s!"o" s!"r" rfl s!"r" fun L₀=>?_
  ext
  refine j9 s!"lib" cm s!"lv" hz ?_
  exact k
 | u us hz =>
  refine ai f368 x s!"o" s!"r" rfl s!"r" fun L₀=>?_
  ext
  refine ic s!"lib" cm s!"lv" hz ?_
  exact k
end
section
variable {prog:Program}{w:World}{A:Around}{E:Value->Shared->Prop}{s:Shared}{h h' B:Heap}
structure Src (prog:Program) (w:World) (A:Around) (it:Addr) (fp:List Addr) (B:Heap) (items:List AVal) (At:Nat->Heap->Prop):Prop where
 live:∀ i h,At i h->∃ o,h.get? it=some o/\∀ xs n,o.data≠.seq xs n
 frame:∀ i h h',At i h->(∀ b∈fp,∀ o,h.get? b=some o->h'.get? b=some o)->TupKept B h'->At i h'
 item:∀ i (s:Shared) (a:AVal) (Q:Value->Shared->Prop) (E:Value->Shared->Prop),items[i]?=some a->At i s.heap ->
  (∀ x h' tk,VR B x a->At (i+1) h'->Heap.SameBut it s.heap h'->Q x { s with heap:=h',toks:=tk })->wpAny (model prog w) A (SmallTypes.nextOf (.ref it)) Q E s
 done:∀ i (s:Shared) (Q:Value->Shared->Prop) (E:Value->Shared->Prop),items[i]?=none->At i s.heap ->
  (∀ h' e,Heap.ExtBut it s.heap h'->(∃ o,h'.get? e=some o/\o.cls=.type "StopIteration")->E (.ref e) { s with heap:=h' })->wpAny (model prog w) A (SmallTypes.nextOf (.ref it)) Q E s
theorem Src.list (hh:A.handled=none) (it l:Addr) (hne:l≠it) {vs:List Value}{xs:List AVal} (rs:VRs B vs xs) :
  Src prog w A it [it,l] B xs (fun i h=>h.IsListIter it l i/\h.IsList l vs.toArray) where
 live:=fun _ _ st=>let ⟨o,ho,_,hd⟩:=st.1;⟨o,ho,hd ▸ ar⟩
 frame:=fun _ _ _ st hk _=>⟨st.1.at fun o e=>hk it (by simp) o e,st.2.at fun o e=>hk l (by simp) o e⟩
 item:=fun i s a Q E hi st hQ=>by
  obtain ⟨v⟩|⟨hv,r⟩:=(rs.get hi)
  exact wpAny_nextOf_list_item st.1 st.2 (x:=v) (by simpa using hv) fun h' hit' hs'=>hQ v h' s.toks r ⟨hit',st.2.extBut hs'.extBut hne⟩ hs'
 done:=fun i s Q E hi st hE=>wpAny_nextOf_list_end hh st.1 st.2 (by
  have:vs.length<=i:=by rw [rs.length];simpa using hi
  simpa using this) hE
theorem fo {it t:Addr}{i:Nat}{items:Array Value}{x:Value}{Q:Value->Shared->Prop} (hit:s.heap.IsTupleIter it t i) (ht:s.heap.IsTuple t items) (hx:items[i]?=some x)
  (hQ:∀ h',h'.IsTupleIter it t (i+1)->Heap.SameBut it s.heap h'->Q x { s with heap:=h' }):wpAny (model prog w) A (SmallTypes.nextOf (.ref it)) Q E s:=by
 obtain ⟨o⟩|⟨ho,hc,hd⟩:=(id hit)
 obtain ⟨ol,hol,_,nl,hdl⟩:=ht
 unfold SmallTypes.nextOf
 refine Zb (wpAny_callSpecial?_slot (name:=Str.ofString "__next__") hit.typeIs F.slot_tuple_iterator_next (wpAny_call_entry F.slot_tuple_iterator_next hit.typeIs F.entry_tuple_iterator_next ?_ (F.args_tuple_iterator_next_1 _)))
 show wpAny _ _ (field (.ref it) 0 >>= _) _ _ s
 refine Zb (wpAny_field ho hd (x:=.ref t) rfl ?_)
 show wpAny _ _ (if (Value.ref t == Value.none)=true then _ else _) _ _ s
 rw [if_neg (show ¬ ((Value.ref t == Value.none)=true) from Bool.false_ne_true)]
 show wpAny _ _ (field (.ref it) 1 >>= _) _ _ s
 refine Zb (wpAny_field ho hd (x:=.int i 0) rfl ?_)
 show wpAny _ _ (seqItems? (.ref t) >>= _) _ _ s
 refine Zb (wpAny_seqItems hol hdl ?_)
 simp only [Int.toNat_natCast,hx]
 refine Zb (wpAny_setField ho hd (by simp) (Zp ⟨x,rfl,Zp (hQ _ ?_ (Heap.SameBut.update ..))⟩))
 exact ⟨_,Heap.get?_update_self _ ho (Obj.isFreed_of_fields (Obj.data_mapFields hd _)),(Obj.cls_mapFields ..).trans hc,by
  rw [Obj.data_mapFields hd];simp [rawInt]⟩
theorem ge {it t:Addr}{i:Nat}{items:Array Value}{Q:Value->Shared->Prop} (hh:A.handled=none) (hit:s.heap.IsTupleIter it t i) (ht:s.heap.IsTuple t items) (hx:items[i]?=none)
  (hE:∀ h' e,Heap.ExtBut it s.heap h'->(∃ o,h'.get? e=some o/\o.cls=.type "StopIteration")->E (.ref e) { s with heap:=h' }):wpAny (model prog w) A (SmallTypes.nextOf (.ref it)) Q E s:=by
 obtain ⟨o⟩|⟨ho,hc,hd⟩:=(id hit)
 obtain ⟨ol,hol,_,nl,hdl⟩:=ht
 unfold SmallTypes.nextOf
 refine Zb (wpAny_callSpecial?_slot (name:=Str.ofString "__next__") hit.typeIs F.slot_tuple_iterator_next (wpAny_call_entry F.slot_tuple_iterator_next hit.typeIs F.entry_tuple_iterator_next ?_ (F.args_tuple_iterator_next_1 _)))
 show wpAny _ _ (field (.ref it) 0 >>= _) _ _ s
 refine Zb (wpAny_field ho hd (x:=.ref t) rfl ?_)
 show wpAny _ _ (if (Value.ref t == Value.none)=true then _ else _) _ _ s
 rw [if_neg (show ¬ ((Value.ref t == Value.none)=true) from Bool.false_ne_true)]
 show wpAny _ _ (field (.ref it) 1 >>= _) _ _ s
 refine Zb (wpAny_field ho hd (x:=.int i 0) rfl ?_)
 show wpAny _ _ (seqItems? (.ref t) >>= _) _ _ s
 refine Zb (wpAny_seqItems hol hdl ?_)
 simp only [Int.toNat_natCast,hx]
 refine Zb (wpAny_rule (Zb (wpAny_setField ho hd (by simp) ?_)))
 show wpAny _ _ (newExc (.type "StopIteration") [] >>= _) _ _ _
 refine Zb ?_
 simp only [newExc,newTuple]
 refine Zb (wpAny_newObj_type ?_ (by size_fits))
 refine Zb (m:=firstArgMember _ _) (wpAny_of_eq (a:=Value.none) (by first | rfl | (simp only [firstArgMember];rfl)) ?_)
 refine wpAny_newObj_type ?_ (by size_fits)
 simp only [raiseNew]
 refine Zb (wpAny_handled ?_)
 first | rw [show A.in1.handled=none from hh] | rw [hh]
 refine Zb (Zp (wpAny_throw ?_))
 exact hE _ _ (((Heap.SameBut.update ..).extBut.push _).push _) ⟨_,Zz _ rfl,rfl⟩
theorem Src.tup (hh:A.handled=none) (it l:Addr) {vs:List Value}{xs:List AVal} (rs:VRs B vs xs) (hl:B.IsTuple l vs.toArray) (hB:B.get? it=none) :
  Src prog w A it [it] B xs (fun i h=>h.IsTupleIter it l i/\h.IsTuple l vs.toArray) where
 live:=fun _ _ st=>let ⟨o,ho,_,hd⟩:=st.1;⟨o,ho,hd ▸ ar⟩
 frame:=fun _ _ _ st hk t=>by
  obtain ⟨⟨o,ho,hc,hd⟩,_⟩:=st
  obtain ⟨ol,e,ec,n,ed⟩:=hl
  obtain ⟨o'⟩|⟨e',ec',ed'⟩:=(t l ol e ec ⟨_,_,ed⟩)
  exact ⟨⟨o,hk it (by simp) o ho,hc,hd⟩,o',e',ec',n,ed'.trans ed⟩
 item:=fun i s a Q E hi st hQ=>by
  obtain ⟨v⟩|⟨hv,r⟩:=(rs.get hi)
  have hne:l≠it:=by rintro rfl;refine ex1 hl fun o h7z=>?_;(try clear hl);refine an2 h7z fun e _=>?_;clear h7z;rw [hB] at e;cases e
  exact fo st.1 st.2 (x:=v) (by simpa using hv) fun h' hit' hs'=>hQ v h' s.toks r ⟨hit',st.2.extBut hs'.extBut hne⟩ hs'
 done:=fun i s Q E hi st hE=>ge hh st.1 st.2 (by
  have:vs.length<=i:=by rw [rs.length];simpa using hi
  simpa using this) hE
noncomputable def jQ (x:Str):List AVal:=x.cps.toList.map fun d=>.str ⟨#[d]⟩
theorem gl {x:Str}{i:Nat}{a:AVal} (h:(jQ x)[i]?=some a):∃ d,x.cps[i]?=some d/\a=.str ⟨#[d]⟩:=by
 unfold jQ at h
 rw [getElem?_map,Option.map_eq_some_iff] at h
 obtain ⟨d⟩|⟨hd,rfl⟩:=h
 exact ⟨d,by simpa using hd,rfl⟩
theorem iR {x:Str}{i:Nat} (h:(jQ x)[i]?=none):x.cps[i]?=none:=by
 unfold jQ at h
 simpa using h
theorem Src.str (hh:A.handled=none) (it:Addr) (x:Str) (t:Tok):∃ At:Nat->Heap->Prop,Src prog w A it [it] B (jQ x) At/\∀ h:Heap,h.get? it=some { cls:=.type (strIterType x),data:=.fields #[.str x t,.int 0 0] }->At 0 h:=by
 cases ha:x.cps.all (· < 128)
 ·refine ⟨fun i h=>h.IsStrIter it "str_iterator" x t i,?_,fun h e=>?_⟩
  ·exact {
    live:=fun _ _ st=>let ⟨o,ho,_,hd⟩:=st;⟨o,ho,hd ▸ ar⟩
    frame:=fun _ _ _ st hk _=>let ⟨o,ho,r⟩:=st;⟨o,hk it (by simp) o ho,r⟩
    item:=fun i s a Q E hi st hQ=>by
     obtain ⟨d⟩|⟨hd,rfl⟩:=(gl hi)
     exact wpAny_nextOf_wide_item st hd fun h' hit' hs'=>hQ _ h' (s.toks+1) (.str _ _) hit' hs'
    done:=fun i s Q E hi st hE=>wpAny_nextOf_wide_end hh st (iR hi) hE }
  ·exact ⟨_,e,by simp [strIterType,ha],rfl⟩
 ·refine ⟨fun i h=>h.IsStrIter it "str_ascii_iterator" x t i,?_,fun h e=>?_⟩
  ·exact {
    live:=fun _ _ st=>let ⟨o,ho,_,hd⟩:=st;⟨o,ho,hd ▸ ar⟩
    frame:=fun _ _ _ st hk _=>let ⟨o,ho,r⟩:=st;⟨o,hk it (by simp) o ho,r⟩
    item:=fun i s a Q E hi st hQ=>by
     obtain ⟨d⟩|⟨hd,rfl⟩:=(gl hi)
     exact wpAny_nextOf_ascii_item st hd fun h' hit' hs'=>hQ _ h' (s.toks+1) (.str _ _) hit' hs'
    done:=fun i s Q E hi st hE=>wpAny_nextOf_ascii_end hh st (iR hi) hE }
  ·exact ⟨_,e,by simp [strIterType,ha],rfl⟩
end
section
variable {prog:Program}{w:World}{A:Around}{E:Value->Shared->Prop}{s:Shared}{h h' B:Heap}
structure ZAp (z TI TO i1 i2:Addr) (fp1 fp2:List Addr) (B:Heap):Prop where
 TIz:TI≠z
 TOz:TO≠z
 i1z:i1≠z
 i2z:i2≠z
 TITO:TI≠TO
 TIi1:TI≠i1
 TIi2:TI≠i2
 TOi1:TO≠i1
 TOi2:TO≠i2
 i12:i1≠i2
 f1:∀ b∈fp1,b≠z/\b≠TO/\b≠i2
 f2:∀ b∈fp2,b≠z/\b≠TO/\b≠i1
 new:∀ b,b=z\/b=TI\/b=TO\/b=i1\/b=i2->B.get? b=none
theorem bj {W:Addr->Prop} (t:TupKept B h) (k:∀ b o,¬ W b->h.get? b=some o->h'.get? b=some o) (n:∀ b,W b->B.get? b=none):TupKept B h':=fun b o e c d=>by
 obtain ⟨o'⟩|⟨e',c',d'⟩:=(t b o e c d)
 exact ⟨o',k b o' (fun z=>by rw [n b z] at e;cases e) e',c',d'⟩
structure ZAt (z TI TO i1 i2:Addr) (At1 At2:Nat->Heap->Prop) (f0:Value) (k:Nat) (h:Heap):Prop where
 z:IsZip h z TI TO f0
 ti:IsPair h TI (.ref i1) (.ref i2)
 to:∃ a b,IsPair h TO a b
 a1:At1 k h
 a2:At2 k h
theorem pv {z TI TO i1 i2:Addr}{fp1 fp2:List Addr}{k:Nat}{xs ys:List AVal}{At1 At2:Nat->Heap->Prop}{a b:AVal}{Q:Value->Shared->Prop}
  (D:ZAp z TI TO i1 i2 fp1 fp2 B) (S1:Src prog w A i1 fp1 B xs At1) (S2:Src prog w A i2 fp2 B ys At2) (t:TupKept B s.heap) (Z:ZAt z TI TO i1 i2 At1 At2 .none k s.heap) (hx:xs[k]?=some a) (hy:ys[k]?=some b)
  (hQ:∀ h' (T:Addr) tk,ZAt z TI TO i1 i2 At1 At2 (rawInt T) (k+1) h'->(∃ x y,VR B x a/\VR B y b/\IsPair h' T x y)->s.heap.get? T=none ->
   (∀ c o,c≠z->c≠TO->c≠i1->c≠i2->s.heap.get? c=some o->h'.get? c=some o)->Q (.ref T) { s with heap:=h',toks:=tk }) :
  wpAny (model prog w) A (Builtin.«zip.__next__» ⟨[.ref z],[]⟩) (fun fin s'=>∃ v,fin=.done (.ret v)/\Q v s') E s:=by
 obtain ⟨hz,hTI,⟨pa,pb,hTO⟩,st1,st2⟩:=Z
 obtain ⟨h₀,g,d,tk₀,os⟩:=s
 show wpAny _ _ (field (.ref z) 2 >>= _) _ _ _
 refine Zb (wpAny_field hz rfl (x:=.bool false) rfl ?_)
 show wpAny _ _ (field (.ref z) 3 >>= _) _ _ _
 refine Zb (wpAny_field hz rfl (x:=.ref TI) rfl ?_)
 refine Zb (wpAny_seqItems hTI rfl ?_)
 show wpAny _ _ (SmallTypes.ownedTupleIsFree (.ref z) >>= _) _ _ _
 refine Zb ?_
 unfold SmallTypes.ownedTupleIsFree
 refine Zb (wpAny_field hz rfl (x:=.none) rfl (Zp ?_))
 simp only [if_true]
 refine Zb (wpAny_rule ?_)
 refine Zb (wpAny_field hz rfl (x:=.ref TO) rfl ?_)
 refine Zb (wpAny_setField_rec hz (by simp) fun h₁ hz₁ hs₁=>?_)
 replace hz₁:IsZip h₁ z TI TO .ellipsis:=hz₁
 have hs₁:Heap.SameBut z h₀ h₁:=hs₁
 have t₁:TupKept B h₁:=bj (W:=fun b=>b=z) t (fun b o n e=>hs₁.extBut _ _ n e) fun b e=>D.new b (.inl e)
 have st1₁:At1 k h₁:=S1.frame _ _ _ st1 (fun b hb o e=>hs₁.extBut _ _ (D.f1 b hb).1 e) t₁
 have st2₁:At2 k h₁:=S2.frame _ _ _ st2 (fun b hb o e=>hs₁.extBut _ _ (D.f2 b hb).1 e) t₁
 refine Zb ?_
 simp only [List.zipIdx_cons,List.zipIdx_nil,forIn_cons,List.forIn_nil]
 refine Zb (Zb (wpAny_onRaise ?_))
 show wpAny _ _ (SmallTypes.nextOf (.ref i1) >>= _) _ _ _
 refine Zb (S1.item k _ a _ _ hx st1₁ fun x h₂ tk₂ rx st1₂ hs₂=>Zp ?_)
 have hs₂:Heap.SameBut i1 h₁ h₂:=hs₂
 have t₂:TupKept B h₂:=bj (W:=fun b=>b=i1) t₁ (fun b o n e=>hs₂.extBut _ _ n e) fun b e=>D.new b (.inr (.inr (.inr (.inl e))))
 have st2₂:At2 k h₂:=S2.frame _ _ _ st2₁ (fun b hb o e=>hs₂.extBut _ _ (D.f2 b hb).2.2 e) t₂
 have hTO₂:IsPair h₂ TO pa pb:=hs₂.extBut _ _ D.TOi1 (hs₁.extBut _ _ D.TOz hTO)
 refine Zb (wpAny_seqItems hTO₂ rfl ?_)
 refine Zb (wpAny_updateSeq_pair hTO₂ fun h₃ hTO₃ hs₃=>?_)
 replace hTO₃:IsPair h₃ TO x pb:=hTO₃
 have hs₃:Heap.SameBut TO h₂ h₃:=hs₃
 have t₃:TupKept B h₃:=bj (W:=fun b=>b=TO) t₂ (fun b o n e=>hs₃.extBut _ _ n e) fun b e=>D.new b (.inr (.inr (.inl e)))
 have st2₃:At2 k h₃:=S2.frame _ _ _ st2₂ (fun b hb o e=>hs₃.extBut _ _ (D.f2 b hb).2.1 e) t₃
 have st1₃:At1 (k+1) h₃:=S1.frame _ _ _ st1₂ (fun b hb o e=>hs₃.extBut _ _ (D.f1 b hb).2.1 e) t₃
 refine Zb (wpAny_letGo (Zp ?_))
 refine Zb (Zb (wpAny_onRaise ?_))
 show wpAny _ _ (SmallTypes.nextOf (.ref i2) >>= _) _ _ _
 refine Zb (S2.item k _ b _ _ hy st2₃ fun y h₄ tk₄ ry st2₄ hs₄=>Zp ?_)
 have hs₄:Heap.SameBut i2 h₃ h₄:=hs₄
 have t₄:TupKept B h₄:=bj (W:=fun b=>b=i2) t₃ (fun b o n e=>hs₄.extBut _ _ n e) fun b e=>D.new b (.inr (.inr (.inr (.inr e))))
 have st1₄:At1 (k+1) h₄:=S1.frame _ _ _ st1₃ (fun b hb o e=>hs₄.extBut _ _ (D.f1 b hb).2.2 e) t₄
 have hTO₄:IsPair h₄ TO x pb:=hs₄.extBut _ _ D.TOi2 hTO₃
 refine Zb (wpAny_seqItems hTO₄ rfl ?_)
 refine Zb (wpAny_updateSeq_pair hTO₄ fun h₅ hTO₅ hs₅=>?_)
 replace hTO₅:IsPair h₅ TO x y:=hTO₅
 have hs₅:Heap.SameBut TO h₄ h₅:=hs₅
 have t₅:TupKept B h₅:=bj (W:=fun b=>b=TO) t₄ (fun b o n e=>hs₅.extBut _ _ n e) fun b e=>D.new b (.inr (.inr (.inl e)))
 have st1₅:At1 (k+1) h₅:=S1.frame _ _ _ st1₄ (fun b hb o e=>hs₅.extBut _ _ (D.f1 b hb).2.1 e) t₅
 have st2₅:At2 (k+1) h₅:=S2.frame _ _ _ st2₄ (fun b hb o e=>hs₅.extBut _ _ (D.f2 b hb).2.1 e) t₅
 refine Zb (wpAny_letGo (Zp (Zp ?_)))
 refine Zb (wpAny_seqItems hTO₅ rfl ?_)
 refine Zb (wpAny_newTuple ?_)
 have hz₅:IsZip h₅ z TI TO .ellipsis:=hs₅.extBut _ _ D.TOz.symm (hs₄.extBut _ _ D.i2z.symm (hs₃.extBut _ _ D.TOz.symm (hs₂.extBut _ _ D.i1z.symm hz₁)))
 have hk₅:∀ c o,c≠z->c≠TO->c≠i1->c≠i2->h₀.get? c=some o->h₅.get? c=some o:=fun c o c1 c2 c3 c4 e =>
  hs₅.extBut _ _ c2 (hs₄.extBut _ _ c4 (hs₃.extBut _ _ c2 (hs₂.extBut _ _ c3 (hs₁.extBut _ _ c1 e))))
 have hTI₅:IsPair h₅ TI (.ref i1) (.ref i2):=hk₅ _ _ D.TIz D.TITO D.TIi1 D.TIi2 hTI
 have hzlt:z < h₅.objs.size:=Heap.lt_size hz₅
 show wpAny _ _ (SmallTypes.ownedTupleHandOut (.ref z) (.ref h₅.objs.size) >>= _) _ _ _
 refine Zb ?_
 unfold SmallTypes.ownedTupleHandOut
 have hz₆:IsZip (h₅.push { cls:=.type "tuple",data:=.seq #[x,y] }) z TI TO .ellipsis:=Zu _ hz₅
 refine Zb (wpAny_setField_rec hz₆ (by simp) fun h₇ hz₇ hs₇=>?_)
 replace hz₇:IsZip h₇ z TI TO (rawInt h₅.objs.size):=hz₇
 refine wpAny_setField_rec hz₇ (by simp) fun h₈ hz₈ hs₈=>?_
 replace hz₈:IsZip h₈ z TI TO (rawInt h₅.objs.size):=hz₈
 have up:∀ c o,c≠z->h₅.get? c=some o->h₈.get? c=some o:=fun c o c1 e=>hs₈.extBut _ _ c1 (hs₇.extBut _ _ c1 (Zu _ e))
 have hT₈:IsPair h₈ h₅.objs.size x y:=hs₈.extBut _ _ (Nat.ne_of_gt hzlt) (hs₇.extBut _ _ (Nat.ne_of_gt hzlt) (Zz _ rfl))
 have t₈:TupKept B h₈:=bj (W:=fun b=>b=z) t₅ (fun b o n e=>up b o n e) fun b e=>D.new b (.inl e)
 have hsz:h₅.objs.size=h₀.objs.size:=by rw [hs₅.1,hs₄.1,hs₃.1,hs₂.1,hs₁.1]
 refine Zp ⟨_,rfl,?_⟩
 show Q (.ref h₅.objs.size) _
 exact hQ h₈ h₅.objs.size tk₄ ⟨hz₈,up _ _ D.TIz hTI₅,⟨_,_,up _ _ D.TOz hTO₅⟩,S1.frame _ _ _ st1₅ (fun b hb o e=>up _ _ (D.f1 b hb).1 e) t₈,S2.frame _ _ _ st2₅ (fun b hb o e=>up _ _ (D.f2 b hb).1 e) t₈⟩
  ⟨x,y,rx,ry,hT₈⟩ (by rw [hsz];exact ag _) fun c o c1 c2 c3 c4 e=>up c o c1 (hk₅ c o c1 c2 c3 c4 e)
theorem pQ {z TI TO i1 i2:Addr}{fp1 fp2:List Addr}{k:Nat}{xs ys:List AVal}{At1 At2:Nat->Heap->Prop}{Q:Fin->Shared->Prop}
  (D:ZAp z TI TO i1 i2 fp1 fp2 B) (S1:Src prog w A i1 fp1 B xs At1) (S2:Src prog w A i2 fp2 B ys At2) (t:TupKept B s.heap) (Z:ZAt z TI TO i1 i2 At1 At2 .none k s.heap) (hend:xs[k]?=none\/ys[k]?=none)
  (hE:∀ h' e tk,(∀ c o,c≠z->c≠TO->c≠i1->c≠i2->s.heap.get? c=some o->h'.get? c=some o)->(∃ o,h'.get? e=some o/\o.cls=.type "StopIteration")->E (.ref e) { s with heap:=h',toks:=tk }) :
  wpAny (model prog w) A (Builtin.«zip.__next__» ⟨[.ref z],[]⟩) Q E s:=by
 obtain ⟨hz,hTI,⟨pa,pb,hTO⟩,st1,st2⟩:=Z
 obtain ⟨h₀,g,d,tk₀,os⟩:=s
 show wpAny _ _ (field (.ref z) 2 >>= _) _ _ _
 refine Zb (wpAny_field hz rfl (x:=.bool false) rfl ?_)
 show wpAny _ _ (field (.ref z) 3 >>= _) _ _ _
 refine Zb (wpAny_field hz rfl (x:=.ref TI) rfl ?_)
 refine Zb (wpAny_seqItems hTI rfl ?_)
 show wpAny _ _ (SmallTypes.ownedTupleIsFree (.ref z) >>= _) _ _ _
 refine Zb ?_
 unfold SmallTypes.ownedTupleIsFree
 refine Zb (wpAny_field hz rfl (x:=.none) rfl (Zp ?_))
 simp only [if_true]
 refine Zb (wpAny_rule ?_)
 refine Zb (wpAny_field hz rfl (x:=.ref TO) rfl ?_)
 refine Zb (wpAny_setField_rec hz (by simp) fun h₁ hz₁ hs₁=>?_)
 replace hz₁:IsZip h₁ z TI TO .ellipsis:=hz₁
 have hs₁:Heap.SameBut z h₀ h₁:=hs₁
 have t₁:TupKept B h₁:=bj (W:=fun b=>b=z) t (fun b o n e=>hs₁.extBut _ _ n e) fun b e=>D.new b (.inl e)
 have st1₁:At1 k h₁:=S1.frame _ _ _ st1 (fun b hb o e=>hs₁.extBut _ _ (D.f1 b hb).1 e) t₁
 have st2₁:At2 k h₁:=S2.frame _ _ _ st2 (fun b hb o e=>hs₁.extBut _ _ (D.f2 b hb).1 e) t₁
 refine Zb ?_
 simp only [List.zipIdx_cons,List.zipIdx_nil,forIn_cons,List.forIn_nil]
 refine Zb (Zb (wpAny_onRaise ?_))
 show wpAny _ _ (SmallTypes.nextOf (.ref i1) >>= _) _ _ _
 cases hx:xs[k]? with
 | none =>
  refine Zb (S1.done k _ _ _ hx st1₁ fun h₂ e hs₂ he=>?_)
  obtain ⟨oe⟩|⟨hoe,hce⟩:=he
  have hs₂:Heap.ExtBut i1 h₁ h₂:=hs₂
  have hz₂:IsZip h₂ z TI TO .ellipsis:=hs₂ _ _ D.i1z.symm hz₁
  have hez:e≠z:=fun x=>by subst x;rw [hz₂] at hoe;cases hoe;simp at hce
  refine wpAny_setField_rec hz₂ (by simp) fun h₃ _ hs₃=>hE h₃ e tk₀ (fun c o c1 _ c3 _ x=>hs₃.extBut _ _ c1 (hs₂ _ _ c3 (hs₁.extBut _ _ c1 x))) ⟨oe,hs₃.extBut _ _ hez hoe,hce⟩
 | some a =>
  have hy:ys[k]?=none:=by rcases hend with h | h;rw [hx] at h;cases h;exact h
  refine Zb (S1.item k _ a _ _ hx st1₁ fun x h₂ tk₂ rx st1₂ hs₂=>Zp ?_)
  have hs₂:Heap.SameBut i1 h₁ h₂:=hs₂
  have t₂:TupKept B h₂:=bj (W:=fun b=>b=i1) t₁ (fun b o n e=>hs₂.extBut _ _ n e) fun b e=>D.new b (.inr (.inr (.inr (.inl e))))
  have st2₂:At2 k h₂:=S2.frame _ _ _ st2₁ (fun b hb o e=>hs₂.extBut _ _ (D.f2 b hb).2.2 e) t₂
  have hTO₂:IsPair h₂ TO pa pb:=hs₂.extBut _ _ D.TOi1 (hs₁.extBut _ _ D.TOz hTO)
  refine Zb (wpAny_seqItems hTO₂ rfl ?_)
  refine Zb (wpAny_updateSeq_pair hTO₂ fun h₃ hTO₃ hs₃=>?_)
  have hs₃:Heap.SameBut TO h₂ h₃:=hs₃
  have t₃:TupKept B h₃:=bj (W:=fun b=>b=TO) t₂ (fun b o n e=>hs₃.extBut _ _ n e) fun b e=>D.new b (.inr (.inr (.inl e)))
  have st2₃:At2 k h₃:=S2.frame _ _ _ st2₂ (fun b hb o e=>hs₃.extBut _ _ (D.f2 b hb).2.1 e) t₃
  refine Zb (wpAny_letGo (Zp ?_))
  refine Zb (Zb (wpAny_onRaise ?_))
  show wpAny _ _ (SmallTypes.nextOf (.ref i2) >>= _) _ _ _
  refine Zb (S2.done k _ _ _ hy st2₃ fun h₄ e hs₄ he=>?_)
  obtain ⟨oe⟩|⟨hoe,hce⟩:=he
  have hs₄:Heap.ExtBut i2 h₃ h₄:=hs₄
  have hz₄:IsZip h₄ z TI TO .ellipsis:=hs₄ _ _ D.i2z.symm (hs₃.extBut _ _ D.TOz.symm (hs₂.extBut _ _ D.i1z.symm hz₁))
  have hez:e≠z:=fun x=>by subst x;rw [hz₄] at hoe;cases hoe;simp at hce
  refine wpAny_setField_rec hz₄ (by simp) fun h₅ _ hs₅=>hE h₅ e tk₂ (fun c o c1 c2 c3 c4 x=>hs₅.extBut _ _ c1 (hs₄ _ _ c4 (hs₃.extBut _ _ c2 (hs₂.extBut _ _ c3 (hs₁.extBut _ _ c1 x))))) ⟨oe,hs₅.extBut _ _ hez hoe,hce⟩
theorem gO {z TI TO i1 i2:Addr}{fp1 fp2:List Addr}{k:Nat}{xs ys:List AVal}{At1 At2:Nat->Heap->Prop}{a b:AVal}{Q:Option Value->Shared->Prop}
  (D:ZAp z TI TO i1 i2 fp1 fp2 B) (S1:Src prog w A.in1 i1 fp1 B xs At1) (S2:Src prog w A.in1 i2 fp2 B ys At2) (t:TupKept B s.heap) (Z:ZAt z TI TO i1 i2 At1 At2 .none k s.heap) (hx:xs[k]?=some a) (hy:ys[k]?=some b)
  (hQ:∀ h' (T:Addr) tk,ZAt z TI TO i1 i2 At1 At2 (rawInt T) (k+1) h'->(∃ x y,VR B x a/\VR B y b/\IsPair h' T x y)->s.heap.get? T=none ->
   (∀ c o,c≠z->c≠TO->c≠i1->c≠i2->s.heap.get? c=some o->h'.get? c=some o)->Q (some (.ref T)) { s with heap:=h',toks:=tk }):wpAny (model prog w) A (pyNext (.ref z)) Q E s:=by
 have hT:s.TypeIs (.ref z) "zip" := ⟨_,Z.z,rfl⟩
 unfold pyNext
 exact Zb (wpAny_attempt (wpAny_callSpecial?_slot (name:=Str.ofString "__next__") hT F.slot_zip_next
  (wpAny_call_entry F.slot_zip_next hT F.entry_zip_next (pv D S1 S2 t Z hx hy fun h' T tk a1 a2 a3 a4=>Zp (hQ h' T tk a1 a2 a3 a4)) (F.args_zip_next_1 _))))
theorem dN {z TI TO i1 i2:Addr}{fp1 fp2:List Addr}{k:Nat}{xs ys:List AVal}{At1 At2:Nat->Heap->Prop}{Q:Option Value->Shared->Prop}
  (D:ZAp z TI TO i1 i2 fp1 fp2 B) (S1:Src prog w A.in1 i1 fp1 B xs At1) (S2:Src prog w A.in1 i2 fp2 B ys At2) (t:TupKept B s.heap) (Z:ZAt z TI TO i1 i2 At1 At2 .none k s.heap) (hend:xs[k]?=none\/ys[k]?=none)
  (hQ:∀ h' tk,(∀ c o,c≠z->c≠TO->c≠i1->c≠i2->s.heap.get? c=some o->h'.get? c=some o)->Q none { s with heap:=h',toks:=tk }):wpAny (model prog w) A (pyNext (.ref z)) Q E s:=by
 have hT:s.TypeIs (.ref z) "zip" := ⟨_,Z.z,rfl⟩
 unfold pyNext
 refine Zb (wpAny_attempt (wpAny_callSpecial?_slot (name:=Str.ofString "__next__") hT F.slot_zip_next
  (wpAny_call_entry F.slot_zip_next hT F.entry_zip_next (pQ D S1 S2 t Z hend fun h' e tk hk he=>?_) (F.args_zip_next_1 _))))
 obtain ⟨o⟩|⟨ho,hc⟩:=he
 refine Zb (wpAny_isInstance (T := "StopIteration") (b:=true) ⟨o,ho,hc⟩ isSubtype_stop ?_)
 exact Zp (hQ h' tk hk)
end
section
variable {prog:Program}{w:World}{A:Around}{E:Value->Shared->Prop}{s:Shared}{h h' B:Heap}
abbrev zt1 (h:Heap) (l:Addr):Heap:=h.push { cls:=.type "tuple_iterator",data:=.fields #[.ref l,.int 0 0] }
abbrev zt2 (h:Heap) (l:Addr) (x:Str) (t:Tok):Heap:=(zt1 h l).push { cls:=.type (strIterType x),data:=.fields #[.str x t,.int 0 0] }
abbrev zt3 (h:Heap) (l:Addr) (x:Str) (t:Tok):Heap:=(zt2 h l x t).push { cls:=.type "tuple",data:=.seq #[.ref h.objs.size,.ref (zt1 h l).objs.size] }
abbrev zt4 (h:Heap) (l:Addr) (x:Str) (t:Tok):Heap:=(zt3 h l x t).push { cls:=.type "tuple",data:=.seq #[.none,.none] }
abbrev zt5 (h:Heap) (l:Addr) (x:Str) (t:Tok):Heap:=(zt4 h l x t).push { cls:=.type "zip",data:=.fields #[.none,.bool false,.bool false,.ref (zt2 h l x t).objs.size,.ref (zt3 h l x t).objs.size] }
set_option maxHeartbeats 2000000 in
theorem kj (l:Addr) (xs:Array Value) (x:Str) (t:Tok) :
  Meets (Builtin.«zip.__new__» ⟨[.type "zip",.ref l,.str x t],[]⟩) (fun _ R s=>s.heap.IsTuple l xs /\
   R (.ok (.ret (.ref (zt4 s.heap l x t).objs.size))) { s with heap:=zt5 s.heap l x t }) :=
 .of_wp fun prog w A R s h=>by
  obtain ⟨hp,g,d,tk,os⟩:=s;obtain ⟨hl1,h⟩:=h
  have hsub:=sub_zip
  have hL1:Heap.IsTuple (Shared.heap ⟨hp,g,d,tk,os⟩) l xs:=hl1
  wp_walk using wpAny_pyIter_tuple hL1,wpAny_pyIter_strU
  exact ⟨_,rfl,h⟩
theorem l0 {l:Addr}{xs:Array Value}{x:Str}{t:Tok}{Q:Value->Shared->Prop} (hl:s.heap.IsTuple l xs)
  (h:∀ h',IsZip h' (s.heap.objs.size+4) (s.heap.objs.size+2) (s.heap.objs.size+3) .none->IsPair h' (s.heap.objs.size+2) (.ref s.heap.objs.size) (.ref (s.heap.objs.size+1)) ->
   IsPair h' (s.heap.objs.size+3) .none .none->h'.IsTupleIter s.heap.objs.size l 0->h'.get? (s.heap.objs.size+1)=some { cls:=.type (strIterType x),data:=.fields #[.str x t,.int 0 0] }->h'.objs.size=s.heap.objs.size+5 ->
   (∀ c o,s.heap.get? c=some o->h'.get? c=some o)->Q (.ref (s.heap.objs.size+4)) { s with heap:=h' }) :
  wpAny (model prog w) A (call (.type "zip") [.ref l,.str x t]) Q E s:=by
 refine callType_new F.called_zip (by decide) (F.typeCall_zip_2 _ _) (F.newCall_zip_2 _ _) (fun obj=>F.args_object_init_3 obj _ _) F.entry_zip_new (kj l xs x t) ⟨hl,?_⟩
 have z1:(zt1 s.heap l).objs.size=s.heap.objs.size+1:=Heap.size_push ..
 have z2:(zt2 s.heap l x t).objs.size=s.heap.objs.size+2:=by rw [Heap.size_push,z1]
 have z3:(zt3 s.heap l x t).objs.size=s.heap.objs.size+3:=by rw [Heap.size_push,z2]
 have z4:(zt4 s.heap l x t).objs.size=s.heap.objs.size+4:=by rw [Heap.size_push,z3]
 have z5:(zt5 s.heap l x t).objs.size=s.heap.objs.size+5:=by rw [Heap.size_push,z4]
 have g5:(zt5 s.heap l x t).get? (zt4 s.heap l x t).objs.size=some _:=Zz _ rfl
 have g4:(zt5 s.heap l x t).get? (zt3 s.heap l x t).objs.size=some _:=Zu _ (Zz _ rfl)
 have g3:(zt5 s.heap l x t).get? (zt2 s.heap l x t).objs.size=some _:=Zu _ (Zu _ (Zz _ rfl))
 have g2:(zt5 s.heap l x t).get? (zt1 s.heap l).objs.size=some _:=Zu _ (Zu _ (Zu _ (Zz _ rfl)))
 have g1:(zt5 s.heap l x t).get? s.heap.objs.size=some _:=Zu _ (Zu _ (Zu _ (Zu _ (Zz _ rfl))))
 show _/\_
 rw [z2,z3,z4] at g5
 rw [z1,z2] at g3
 rw [z3] at g4
 rw [z1] at g2
 rw [z4]
 exact ⟨⟨_,g5,rfl⟩,h _ g5 g3 g4 ⟨_,g1,rfl,rfl⟩ g2 z5 fun c o x =>
  Zu _ (Zu _ (Zu _ (Zu _ (Zu _ x))))⟩
end
def FlatO:AObj->Prop
 | .list vs=>∀ v∈vs,Flat v
 | .dictS es=>∀ e∈es,Flat e.2
 | .dictI es=>∀ e∈es,Flat e.2
 | .dictT _ _=>False
 | .attrs _ m=>∀ x v,m x=some v->Flat v
 | .inst _ _ | .range _ _ | .exc _ _ _=>True
def FlatS (σ:AState):Prop:=∀ a o,σ a=some o->FlatO o
def FlatN (ρ:List NV):Prop:=∀ e∈ρ,∀ a,e.val=some a->Flat a
section
variable {c:Cx}{target:Expr}{ρ ρ':List NV}{σ σ₀ σ₁ σ' σF σ00 τ:AState}{h h' B:Heap}{s s₀ s₁ s' s00:Shared}{N:List NV->AState->Prop}{R:AVal->AState->Prop}{X:AExc->List NV->AState->Prop}
theorem VRs.flat {vs:List Value}{as:List AVal} (r:VRs h vs as) (f:∀ a∈as,Flat a):VRs h' vs as:=by
 induction as generalizing vs with
 | nil=>cases r;exact .nil
 | cons a as ih=>cases r with | cons r rs=>exact .cons (r.flat (f _ (.head _))) (ih rs fun b hb=>f b (.tail _ hb))
theorem KRs.flat {K:Type}{vs:List (K × Value)}{as:List (K × AVal)} (r:KRs h vs as):(∀ e∈as,Flat e.2)->KRs h' vs as:=by
 induction r with
 | nil=>exact fun _=>.nil
 | cons r _ ih=>exact fun f=>.cons (r.flat (f _ (.head _))) (ih fun b hb=>f b (.tail _ hb))
theorem OR.flat {pr:Program}{w:World}{a:Addr}{o:AObj} (x:OR pr w h a o) (f:FlatO o) (k:∀ ob,h.get? a=some ob->h'.get? a=some ob):OR pr w h' a o:=by
 refine ex1 x.here fun ob h1z=>?_
 refine an2 h1z fun ha _=>?_
 clear h1z
 have e:h'.get? a=h.get? a:=(k ob ha).trans ha.symm
 cases x with
 | list e' r=>exact .list (e.trans e') (r.flat f)
 | dictS e' r=>refine ex3 e' fun o es ep h2z=>?_;(try clear e');refine an2 h2z fun e' q=>?_;clear h2z;exact .dictS ⟨o,es,ep,e.trans e',q⟩ (r.flat f)
 | dictI e' r=>refine ex3 e' fun o es ep h3z=>?_;(try clear e');refine an2 h3z fun e' q=>?_;clear h3z;exact .dictI ⟨o,es,ep,e.trans e',q⟩ (r.flat f)
 | dictT _ _ _=>exact f.elim
 | inst e'=>exact .inst (e.trans e')
 | range e'=>exact .range (e.trans e')
 | attrs e' w r =>
  obtain ⟨o,es,ep⟩|⟨e',q⟩:=e'
  refine .attrs ⟨o,es,ep,e.trans e',q⟩ w fun x=>?_
  have:=r x
  split at this
  ·rename_i v hv
   obtain ⟨v'⟩|⟨e1,r1⟩:=this
   exact ⟨v',e1,r1.flat (f x v hv)⟩
  ·exact this
 | exc e'=>exact .exc (e.trans e')
theorem St.moveFlat (S:St c ρ σ h) {W:Addr->Prop} (k:∀ b o,¬ W b->h.get? b=some o->h'.get? b=some o) (hG:∀ b,W b->c.G.get? b=none) (hown:∀ b∈c.own,¬ W b)
  (hfr:∀ b∈c.frames,¬ W b) (hcl:∀ x∈c.env.cells,¬ W x.2) (hσ:∀ b o,σ b=some o->¬ W b) (fn:FlatN ρ) (fs:FlatS σ):St c ρ σ h' where
 ok:=S.ok
 base b o e:=k b o (fun w=>by rw [hG b w] at e;cases e) (S.base b o e)
 frames:=bH S.frames fun b hb o e=>⟨o,k b o (hfr b hb) e,rfl⟩
 names:=S.names
 locs:=let ⟨m,o,es,ep,ho,r⟩:=S.locs;⟨m,o,es,ep,k _ _ (hown _ S.ok.locIn) ho,r⟩
 cellsAt x hx:=let ⟨v,o,e,d⟩:=S.cellsAt x hx;⟨v,o,k _ _ (hcl x hx) e,d⟩
 vars e he a' ha:=by
  obtain ⟨v⟩|⟨y,r⟩:=(S.vars e he a' ha)
  refine ⟨v,y.keep fun b o hb e'=>k b o ?_ e',r.flat (fn e he a' ha)⟩
  rcases hb with rfl | ⟨n,hn⟩
  ·exact hown _ S.ok.locIn
  ·exact hcl _ hn
 obj b o e:=(S.obj b o e).flat (fs b o e) fun ob=>k b ob (hσ b o e)
 off:=S.off
 ownNew b hb:=let ⟨g,o,e,n⟩:=S.ownNew b hb;⟨g,o,k b o (hown b hb) e,n⟩
def Dim (ρ ρ':List NV):Prop:=ρ'.map (fun e=>(e.name,e.kind))=ρ.map (fun e=>(e.name,e.kind))/\∀ e∈ρ',∀ a,e.val=some a->e∈ρ
theorem St.dim (S:St c ρ σ h) (d:Dim ρ ρ'):St c ρ' σ h:={ S with names:=d.1.trans S.names,vars:=fun e he a ha=>S.vars e (d.2 e he a ha) a ha }
def retell (σF σ₀ σ₁:AState):AState:=fun a=>match σ₁ a with
 | some o=>some o
 | none=>if σ₀ a=none then σF a else none
theorem pC:Le σ₁ (retell σF σ₀ σ₁):=fun a o e=>by unfold retell;rw [e]
theorem nv (y:Step c σ₀ s₀ σ₁ s) (S:St c ρ σF s₀.heap):∀ a o,σF a=some o->σ₀ a=none->retell σF σ₀ σ₁ a=some o:=fun a o e n=>by
 obtain ⟨ob⟩|⟨q,_⟩:=((S.obj a o e).here)
 unfold retell
 rw [y.grow a ob q n]
 simp only [n,if_true]
 exact e
theorem St.retell (S₁:St c ρ' σ₁ s.heap) (SF:St c ρ σF s₀.heap) (y:Step c σ₀ s₀ σ₁ s) (t:TupKept s₀.heap s.heap):St c ρ' (retell σF σ₀ σ₁) s.heap:=by
 have key:∀ a o,Mine.retell σF σ₀ σ₁ a=some o->σ₁ a=some o\/(σ₀ a=none/\σF a=some o):=fun a o e=>by
  unfold Mine.retell at e
  split at e
  ·rename_i q;exact .inl (q.trans e)
  ·split at e
   ·rename_i q;exact .inr ⟨q,e⟩
   ·cases e
 refine { S₁ with obj:=fun a o e=>?_,off:=fun a o e=>?_ }
 ·rcases key a o e with q | ⟨q1,q2⟩
  ·exact S₁.obj a o q
  ·refine an4 (SF.off a o q2) fun f1 f2 f3 f4=>?_
   exact (SF.obj a o q2).keepB t fun ob e=>y.exact e q1 f2 f3
 ·rcases key a o e with q | ⟨q1,q2⟩
  ·exact S₁.off a o q
  ·exact SF.off a o q2
theorem Step.retell (y:Step c σ₀ s₀ σ₁ s) (l:Le σ₀ σF):Step c σF s₀ (retell σF σ₀ σ₁) s:=by
 have no:∀ b,σF b=none->σ₀ b=none:=fun b q=>by
  cases z:σ₀ b with
  | none=>rfl
  | some o=>rw [l b o z] at q;cases q
 refine ⟨fun b o e q n=>y.kept b o e (no b q) n,y.there,fun b o e q=>?_,y.gens,y.os⟩
 unfold Mine.retell
 rw [y.grow b o e (no b q)]
 simp only [no b q,if_true]
 exact q
theorem Step.dimin (y:Step c σ₀ s₀ σ s) (l:Le τ σ):Step c σ₀ s₀ τ s:=⟨y.kept,y.there,(fun b o e q=>by
 have:=y.grow b o e q
 cases z:τ b with
 | none=>rfl
 | some o=>rw [l b o z] at this;cases this),y.gens,y.os⟩
inductive ZipEnd (I:List NV->AState->Prop) (ρ₃:List NV) (σ₃:AState):Prop
 | mk (ρ₄:List NV) (τ:AState) (d:Dim ρ₃ ρ₄) (l:Le τ σ₃) (q:I ρ₄ τ)
theorem jC {z TI TO i1 i2:Addr}{fp1 fp2:List Addr}{xs ys:List AVal}{At1 At2:Nat->Heap->Prop}{ρF:List NV}{elts:List Expr}{x1:Nat}{tp:Pos}{body:List Stmt} (hf:c.fn=true)
  (D:ZAp z TI TO i1 i2 fp1 fp2 s₀.heap) (S1:Src c.prog c.w c.A.in1 i1 fp1 s₀.heap xs At1) (S2:Src c.prog c.w c.A.in1 i2 fp2 s₀.heap ys At2)
  (SF:St c ρF σF s₀.heap) (hle:Le σ₀ σF) (y0:Step c σ00 s00 σF s₀)
  (I:Nat->List NV->AState->Prop) (flat:∀ k ρ σ,I k ρ σ->FlatN ρ/\FlatS σ)
  (turn:∀ k a b ρ₁ σ₁,xs[k]?=some a->ys[k]?=some b->I k ρ₁ σ₁->Asg c (.Tuple elts x1 tp) (.tup [a,b]) ρ₁ σ₁ (KS c body (ZipEnd (I (k+1))) (fun _ _=>False) (fun _ _ _=>False)) (fun _ _ _=>False))
  (done:∀ k ρ₁ σ₁ σ₂,(xs[k]?=none\/ys[k]?=none)->I k ρ₁ σ₁->Le σ₁ σ₂->(∀ a o,σF a=some o->σ₀ a=none->σ₂ a=some o)->N ρ₁ σ₂)
  (S:St c ρ σ s.heap) (y:Step c σ₀ s₀ σ s) (hi:I 0 ρ σ) (Z:ZAt z TI TO i1 i2 At1 At2 .none 0 s.heap)
  (off:∀ b,b=z\/b=TI\/b=TO\/b=i1\/b=i2->σ b=none/\c.G.get? b=none/\b∉c.own/\b∉c.frames/\∀ x∈c.env.cells,b≠x.2)
  (offF:∀ b,b∈fp1\/b∈fp2->σ b=none/\b∉c.own/\b∉c.frames/\∃ o,s.heap.get? b=some o) :
  codeAny (model c.prog c.w) c.A (.forLoop (.Tuple elts x1 tp) (.ref z) body [] c.env) (fun r s'=>match r with | .ok f=>FPost c σ00 s00 N R f s' | .error e=>cameBackBy (model c.prog c.w) c.A c.env (XSPost c σ00 s00 X) e s') s:=by
 have S₀:St c ρF σ₀ s₀.heap:=SF.less hle
 let W:Addr->Prop:=fun b=>b=z\/b=TI\/b=TO\/b=i1\/b=i2
 let JJ:=fun (m:Nat) (s':Shared)=>∃ k ρ₁ σ₁,m+k=xs.length/\St c ρ₁ σ₁ s'.heap/\Step c σ₀ s₀ σ₁ s'/\I k ρ₁ σ₁/\ZAt z TI TO i1 i2 At1 At2 .none k s'.heap/\(∀ b,W b->σ₁ b=none/\c.G.get? b=none/\b∉c.own/\b∉c.frames/\∀ x∈c.env.cells,b≠x.2)/\(∀ b,b∈fp1\/b∈fp2->σ₁ b=none/\b∉c.own/\b∉c.frames/\∃ o,s'.heap.get? b=some o)
 refine codeAny_forLoop_any JJ (fun m s' h=>?_) xs.length ⟨0,ρ,σ,rfl,S,y,hi,Z,off,offF⟩
 obtain ⟨k,ρ₁,σ₁⟩|⟨hm,S₁,y₁,i₁,Z₁,o₁,f₁⟩:=h
 have t₁:TupKept s₀.heap s'.heap:=y₁.tup S₀
 obtain ⟨fn,fs⟩:=flat _ _ _ i₁
 have mv:∀ h':Heap,(∀ b o,¬ W b->s'.heap.get? b=some o->h'.get? b=some o)->St c ρ₁ σ₁ h':=fun h' kk =>
  S₁.moveFlat (W:=W) kk (fun b hb=>(o₁ b hb).2.1) (fun b hb z=>(o₁ b z).2.2.1 hb) (fun b hb z=>(o₁ b z).2.2.2.1 hb) (fun x hx z=>(o₁ _ z).2.2.2.2 x hx rfl) (fun b o e z=>by rw [(o₁ b z).1] at e;cases e) fn fs
 have st:∀ (h':Heap) (tk:Nat),(∀ b o,¬ W b->s'.heap.get? b=some o->h'.get? b=some o)->Step c σ₀ s₀ σ₁ { s' with heap:=h',toks:=tk }:=fun h' tk kk =>
  ⟨fun b o e q n=>by
    obtain ⟨sl⟩|⟨e',f⟩:=(y₁.kept b o e q n)
    exact ⟨sl,kk b _ (fun w=>by rw [D.new b w] at e;cases e) e',f⟩,
   fun b o e=>by
    obtain ⟨o',e'⟩:=y₁.there b o e
    exact ⟨o',kk b _ (fun w=>by rw [D.new b w] at e;cases e) e'⟩,y₁.grow,y₁.gens,y₁.os⟩
 have nW:∀ b,¬ W b->b≠z/\b≠TI/\b≠TO/\b≠i1/\b≠i2:=fun b n=>⟨fun q=>n (.inl q),fun q=>n (.inr (.inl q)),fun q=>n (.inr (.inr (.inl q))),fun q=>n (.inr (.inr (.inr (.inl q)))),fun q=>n (.inr (.inr (.inr (.inr q))))⟩
 have stop:(xs[k]?=none\/ys[k]?=none)->∀ (h':Heap) (tk:Nat),(∀ b o,b≠z->b≠TO->b≠i1->b≠i2->s'.heap.get? b=some o->h'.get? b=some o) ->
   FPost c σ00 s00 N R .next { s' with heap:=h',toks:=tk }:=fun hend h' tk kk=>by
  have kk':∀ b o,¬ W b->s'.heap.get? b=some o->h'.get? b=some o:=fun b o n e=>let ⟨n1,_,n3,n4,n5⟩:=nW b n;kk b o n1 n3 n4 n5 e
  have y₂:=st h' tk kk'
  have S₂:=mv h' kk'
  exact ⟨ρ₁,retell σF σ₀ σ₁,St.retell (s:={ s' with heap:=h',toks:=tk }) S₂ SF y₂ (y₂.tup S₀),y0.trans (Step.retell y₂ hle),done k ρ₁ σ₁ _ hend i₁ pC (nv y₂ SF)⟩
 cases hx:xs[k]? with
 | none=>exact dN D S1 S2 t₁ Z₁ (.inl hx) fun h' tk kk=>wpAny_execs_nil (stop (.inl hx) h' tk kk)
 | some a =>
  cases hy:ys[k]? with
  | none=>exact dN D S1 S2 t₁ Z₁ (.inr hy) fun h' tk kk=>wpAny_execs_nil (stop (.inr hy) h' tk kk)
  | some b =>
   refine gO D S1 S2 t₁ Z₁ hx hy fun h₂ T tk Z₂ ⟨x,w,rx,rw',hT⟩ hTn kk=>?_
   refine wpAny_letOwnedTupleGo_zip Z₂.z fun h₃ hz₃ hs₃=>?_
   have hs₃:Heap.SameBut z h₂ h₃:=hs₃
   have kk':∀ b o,¬ W b->s'.heap.get? b=some o->h₃.get? b=some o:=fun b o n e=>let ⟨n1,_,n3,n4,n5⟩:=nW b n;hs₃.extBut _ _ n1 (kk b o n1 n3 n4 n5 e)
   have y₃:=st h₃ tk kk'
   have S₃:=mv h₃ kk'
   have t₃:TupKept s₀.heap h₃:=y₃.tup S₀
   have hTz:T≠z:=fun q=>by have:=Z₁.z;rw [<- q,IsZip,hTn] at this;cases this
   have r:VR h₃ (.ref T) (.tup [a,b]):=.tup (hs₃.extBut _ _ hTz hT) rfl (vs:=[x,w]) (n:=0) rfl (.cons (rx.keep t₃) (.cons (rw'.keep t₃) .nil))
   have hf₃:∀ (b:Addr),b∈fp1\/b∈fp2->b≠z:=fun b hb=>hb.elim (fun q=>(D.f1 b q).1) fun q=>(D.f2 b q).1
   have Z₃:ZAt z TI TO i1 i2 At1 At2 .none (k+1) h₃:=⟨hz₃,hs₃.extBut _ _ D.TIz Z₂.ti,(let ⟨p,q,e⟩:=Z₂.to;⟨p,q,hs₃.extBut _ _ D.TOz e⟩),
    S1.frame _ _ _ Z₂.a1 (fun b hb o e=>hs₃.extBut _ _ (hf₃ b (.inl hb)) e) t₃,S2.frame _ _ _ Z₂.a2 (fun b hb o e=>hs₃.extBut _ _ (hf₃ b (.inr hb)) e) t₃⟩
   refine Zm (turn k a b ρ₁ σ₁ hx hy i₁ (.ref T) { s' with heap:=h₃,toks:=tk } r S₃) (fun _ s₄ p=>?_) fun _ _ p=>?_
   ·obtain ⟨ρ₂,σ₂,S₄,y₄,g⟩:=p
    refine Zm (g s₄ S₄) (fun f s₅ p=>?_) fun _ _ p=>?_
    ·obtain ⟨ρ₃,σ₃,S₅,y₅,q⟩:=p
     have y45:=y₄.trans y₅
     cases f with
     | next =>
      obtain ⟨ρ₄,τ,d,l,hI⟩:=q
      have hlt:k < xs.length:=(List.getElem?_eq_some_iff.mp hx).1
      have exW:∀ b o,W b->h₃.get? b=some o->s₅.heap.get? b=some o:=fun b o hb e=>let ⟨n1,_,n3,n4,_⟩:=o₁ b hb;y45.exact (s:={ s' with heap:=h₃,toks:=tk }) e n1 n3 n4
      have exF:∀ b o,(b∈fp1\/b∈fp2)->h₃.get? b=some o->s₅.heap.get? b=some o:=fun b o hb e=>let ⟨n1,n3,n4,_⟩:=f₁ b hb;y45.exact (s:={ s' with heap:=h₃,toks:=tk }) e n1 n3 n4
      have lt:∀ b,σ₃ b=none->τ b=none:=fun b q=>by
       cases z:τ b with
       | none=>rfl
       | some o=>rw [l b o z] at q;cases q
      have t₅:TupKept s₀.heap s₅.heap:=(y₃.trans y45).tup S₀
      have hex:∀ b,W b->∃ o,h₃.get? b=some o:=fun b hb=>by
       rcases hb with e | e | e | e | e<;>rw [e]<;>clear e
       ·exact ⟨_,Z₃.z⟩
       ·exact ⟨_,Z₃.ti⟩
       ·refine ex2 Z₃.to fun _ _ e=>?_;exact ⟨_,e⟩
       ·obtain ⟨o⟩|⟨e,_⟩:=(S1.live _ _ Z₃.a1)
        exact ⟨o,e⟩
       ·obtain ⟨o⟩|⟨e,_⟩:=(S2.live _ _ Z₃.a2)
        exact ⟨o,e⟩
      have hexF:∀ b,b∈fp1\/b∈fp2->∃ o,h₃.get? b=some o:=fun b hb=>by
       by_cases z:W b
       ·exact hex b z
       ·obtain ⟨_,_,_,o,e⟩:=f₁ b hb;exact ⟨o,kk' b o z e⟩
      refine ⟨m - 1,by walk_at "o",k+1,ρ₄,τ,by walk_at "o",(S₅.dim d).less l,(y₃.trans y45).dimin l,hI,⟨exW _ _ (.inl rfl) Z₃.z,exW _ _ (.inr (.inl rfl)) Z₃.ti,(let ⟨p,q,e⟩:=Z₃.to;⟨p,q,exW _ _ (.inr (.inr (.inl rfl))) e⟩),
       S1.frame _ _ _ Z₃.a1 (fun b hb o e=>exF b o (.inl hb) e) t₅,S2.frame _ _ _ Z₃.a2 (fun b hb o e=>exF b o (.inr hb) e) t₅⟩,fun b hb=>?_,fun b hb=>?_⟩
      ·obtain ⟨n1,n2⟩:=o₁ b hb
       obtain ⟨o,e⟩:=hex b hb
       exact ⟨lt b (y45.grow b o e n1),n2⟩
      ·refine an4 (f₁ b hb) fun n1 n2 n3 _=>?_
       obtain ⟨o,e⟩:=hexF b hb
       exact ⟨lt b (y45.grow b o e n1),n2,n3,o,exF b o hb e⟩
     | ret v=>refine ex1 q fun _ h12z=>?_;(try clear q);refine an2 h12z fun _ q=>?_;clear h12z;exact q.elim
     | _=>exact q.elim
    ·obtain ⟨_,_,_,_,_,_,_,_,q⟩:=p;exact q.elim
   ·obtain ⟨_,_,_,_,_,_,_,_,q⟩:=p;exact q.elim
end
section
variable {c:Cx}{ρ ρ':List NV}{σ σ₀ σ₁ σ' σF σ00 τ:AState}{h h' B:Heap}{s s₀ s₁ s' s00:Shared}{N:List NV->AState->Prop}{R:AVal->AState->Prop}{X:AExc->List NV->AState->Prop}
theorem e9 {h:Heap}{b:Addr} (hb:h.objs.size<=b):h.get? b=none:=by
 cases z:h.get? b with
 | none=>rfl
 | some o=>exact absurd (Heap.lt_size z) (Nat.not_lt.mpr hb)
inductive ZipUse (c:Cx) (elts:List Expr) (x1:Nat) (tp:Pos) (body:List Stmt) (ρ:List NV) (σF:AState) (xs ys:List AVal) (N:List NV->AState->Prop) (gone:AState->Prop):Prop
 | mk (σ₀:AState) (ρ₀:List NV) (I:Nat->List NV->AState->Prop) (le:Le σ₀ σF) (g:gone σ₀) (d:Dim ρ ρ₀) (i:I 0 ρ₀ σ₀) (fl:∀ k ρ σ,I k ρ σ->FlatN ρ/\FlatS σ)
  (turn:∀ k a b ρ₁ σ₁,xs[k]?=some a->ys[k]?=some b->I k ρ₁ σ₁->Asg c (.Tuple elts x1 tp) (.tup [a,b]) ρ₁ σ₁ (KS c body (ZipEnd (I (k+1))) (fun _ _=>False) (fun _ _ _=>False)) (fun _ _ _=>False))
  (done:∀ k ρ₁ σ₁ σ₂,(xs[k]?=none\/ys[k]?=none)->I k ρ₁ σ₁->Le σ₁ σ₂->(∀ a o,σF a=some o->σ₀ a=none->σ₂ a=some o)->N ρ₁ σ₂)
theorem mB {elts:List Expr}{x1:Nat}{tp p pos pz:Pos}{body:List Stmt}{e1 e2:Expr} (hf:c.fn=true) (cm:c.calm=true) (l:LookG ρ "zip") (n:nsIn c.K mainGlobals "zip" = some none)
  (g:EvL c ρ pos [e1,e2] σ (fun as σF=>∃ xs x,as=[.tup xs,.str x]/\ZipUse c elts x1 tp body ρ σF xs (jQ x) N fun _=>True) (XAt X ρ))
  (hstar:(backTo pos (starEach [e1,e2] c.env)).all (fun x=>!x.1)=true:=by walk_at "u")
  (hs:∀ x,foldedSetIterable (.Call (.Name "zip" pz) [e1,e2] [] pos) c.env x=pure x:=by with_unfolding_all (intro _;rfl)) :
  WS c ρ (.For (.Tuple elts x1 tp) (.Call (.Name "zip" pz) [e1,e2] [] pos) body [] p) σ N R X:=fun s S=>by
 refine wpAny_For ?_ hs
 refine wpAny_Call_Name_kw ?_
 refine bn S l n Boot.«zip» (by decide +kernel) ?_
 have hp:(backTo pos (starEach [e1,e2] c.env)).any (·.1)=false:=by
  rw [any_eq_false];intro x hx;have:=List.all_eq_true.mp hstar x hx;simpa using this
 refine PySem.callWith_type hp (br hstar ?_)
 refine g.useS S fun vs s₁ as σF r S₁ y q=>?_
 obtain ⟨xs,x,rfl,σ₀,ρ₀,I,hle,_,hd,hi,flat,turn,done⟩:=q
 apply r.two';intro v w r1 r2
 refine ex4 r1.tup_inv fun lt ol us m h4z=>?_
 refine an5 h4z fun h3z e ec ed rs=>?_
 clear h4z
 obtain rfl:=h3z
 apply r2.str';intro t
 refine l0 ⟨ol,e,ec,m,ed⟩ fun h' hz hTI hTO h1 h2 hsz kp=>?_
 refine wpAny_pyIter_zip hz ?_
 have hh:c.A.in1.handled=none:=S.ok.hd cm
 obtain ⟨At2⟩|⟨S2,at2⟩:=(Src.str (prog:=c.prog) (w:=c.w) (A:=c.A.in1) (B:=s₁.heap) hh (s₁.heap.objs.size+1) x t)
 have S1:=Src.tup (prog:=c.prog) (w:=c.w) (A:=c.A.in1) (B:=s₁.heap) hh s₁.heap.objs.size lt rs ⟨ol,e,ec,m,ed⟩ (e9 (Nat.le_refl _))
 have bey:∀ b,(b=s₁.heap.objs.size+4\/b=s₁.heap.objs.size+2\/b=s₁.heap.objs.size+3\/b=s₁.heap.objs.size\/b=s₁.heap.objs.size+1)->s₁.heap.get? b=none:=fun b hb=>e9 s!"o"
 have D:ZAp (s₁.heap.objs.size+4) (s₁.heap.objs.size+2) (s₁.heap.objs.size+3) s₁.heap.objs.size (s₁.heap.objs.size+1) [s₁.heap.objs.size] [s₁.heap.objs.size+1] s₁.heap :=
  ⟨by simp,by simp,by simp,by simp,by simp,by simp,by simp,by simp,by simp,by simp,fun b hb=>by rw [ZS hb];simp,fun b hb=>by rw [ZS hb];simp,bey⟩
 have y2:Step c σ₀ s₁ σ₀ { s₁ with heap:=h' }:=Step.ext (t:=s₁.toks) kp
 have S₀:=S₁.less hle
 have At1:Heap.IsTupleIter h' s₁.heap.objs.size lt 0/\Heap.IsTuple h' lt us.toArray:=⟨h1,ol,kp _ _ e,ec,m,ed⟩
 refine jC hf D S1 S2 S₁ hle y I flat turn done (((S₀.ext kp).dim hd)) y2 hi ⟨hz,hTI,⟨_,_,hTO⟩,At1,at2 _ h2⟩ (fun b hb=>?_) fun b hb=>?_
 ·have q:=bey b hb
  exact ⟨S₀.none_of q,S₁.new_off q⟩
 ·rcases hb with hb | hb
  ·rw [ZS hb]
   have q:=bey _ (.inr (.inr (.inr (.inl rfl))))
   refine an4 (S₁.new_off q) fun _ f2 f3 _=>?_
   obtain ⟨o⟩|⟨ho,_⟩:=h1
   exact ⟨S₀.none_of q,f2,f3,o,ho⟩
  ·rw [ZS hb]
   have q:=bey _ (.inr (.inr (.inr (.inr rfl))))
   refine an4 (S₁.new_off q) fun _ f2 f3 _=>?_
   exact ⟨S₀.none_of q,f2,f3,_,h2⟩
theorem kT {elts:List Expr}{x1:Nat}{tp p pos pz:Pos}{body:List Stmt}{e1 e2:Expr} (hf:c.fn=true) (cm:c.calm=true) (l:LookG ρ "zip") (n:nsIn c.K mainGlobals "zip" = some none)
  (g:EvL c ρ pos [e1,e2] σ (fun as σF=>∃ l1 l2 xs ys,as=[.ref l1,.ref l2]/\σF l1=some (.list xs)/\σF l2=some (.list ys)/\ZipUse c elts x1 tp body ρ σF xs ys N fun σ₀=>σ₀ l1=none/\σ₀ l2=none) (XAt X ρ))
  (hstar:(backTo pos (starEach [e1,e2] c.env)).all (fun x=>!x.1)=true:=by walk_at "u")
  (hs:∀ x,foldedSetIterable (.Call (.Name "zip" pz) [e1,e2] [] pos) c.env x=pure x:=by with_unfolding_all (intro _;rfl)) :
  WS c ρ (.For (.Tuple elts x1 tp) (.Call (.Name "zip" pz) [e1,e2] [] pos) body [] p) σ N R X:=fun s S=>by
 refine wpAny_For ?_ hs
 refine wpAny_Call_Name_kw ?_
 refine bn S l n Boot.«zip» (by decide +kernel) ?_
 have hp:(backTo pos (starEach [e1,e2] c.env)).any (·.1)=false:=by
  rw [any_eq_false];intro x hx;have:=List.all_eq_true.mp hstar x hx;simpa using this
 refine PySem.callWith_type hp (br hstar ?_)
 refine g.useS S fun vs s₁ as σF r S₁ y q=>?_
 obtain ⟨l1,l2,xs,ys⟩|⟨e1,hl1,hl2,q3⟩:=(q)
 clear q
 obtain rfl:=e1
 obtain ⟨σ₀,ρ₀,I,hle,gg,hd,hi,flat,turn,done⟩:=q3
 have g1:=gg.1
 have g2:=gg.2
 apply r.two';intro v w r1 r2
 apply r1.ref'
 apply r2.ref'
 obtain ⟨us,n1,e1',rs1⟩:∃ us n,s₁.heap.get? l1=some { cls:=.type "list",data:=.seq (us:List Value).toArray n }/\VRs s₁.heap us xs:=by
  refine (S₁.obj l1 _ hl1).list' fun _ _ e rs=>?_
  exact ⟨_,_,e,rs⟩
 obtain ⟨ws,n2,e2',rs2⟩:∃ us n,s₁.heap.get? l2=some { cls:=.type "list",data:=.seq (us:List Value).toArray n }/\VRs s₁.heap us ys:=by
  refine (S₁.obj l2 _ hl2).list' fun _ _ e rs=>?_
  exact ⟨_,_,e,rs⟩
 refine call_zip_2 (xs:=us.toArray) (ys:=ws.toArray) ⟨_,e1',rfl,_,rfl⟩ ⟨_,e2',rfl,_,rfl⟩ fun h' hz hTI hTO h1 h2 hsz kp=>?_
 refine wpAny_pyIter_zip hz ?_
 have hh:c.A.in1.handled=none:=S.ok.hd cm
 have lt1:l1 < s₁.heap.objs.size:=Heap.lt_size e1'
 have lt2:l2 < s₁.heap.objs.size:=Heap.lt_size e2'
 have S1:=Src.list (prog:=c.prog) (w:=c.w) (A:=c.A.in1) (B:=s₁.heap) hh s₁.heap.objs.size l1 (Nat.ne_of_lt lt1) rs1
 have S2:=Src.list (prog:=c.prog) (w:=c.w) (A:=c.A.in1) (B:=s₁.heap) hh (s₁.heap.objs.size+1) l2 (Nat.ne_of_lt (Nat.lt_add_right 1 lt2)) rs2
 have bey:∀ b,(b=s₁.heap.objs.size+4\/b=s₁.heap.objs.size+2\/b=s₁.heap.objs.size+3\/b=s₁.heap.objs.size\/b=s₁.heap.objs.size+1)->s₁.heap.get? b=none:=fun b hb=>e9 s!"o"
 have D:ZAp (s₁.heap.objs.size+4) (s₁.heap.objs.size+2) (s₁.heap.objs.size+3) s₁.heap.objs.size (s₁.heap.objs.size+1) [s₁.heap.objs.size,l1] [s₁.heap.objs.size+1,l2] s₁.heap:=by
  refine ⟨by simp,by simp,by simp,by simp,by simp,by simp,by simp,by simp,by simp,by simp,fun b hb=>?_,fun b hb=>?_,bey⟩
  ·rcases ZC hb with rfl | hb
   ·simp
   ·rw [ZS hb]
    exact ⟨Nat.ne_of_lt (Nat.lt_add_right 4 lt1),Nat.ne_of_lt (Nat.lt_add_right 3 lt1),Nat.ne_of_lt (Nat.lt_add_right 1 lt1)⟩
  ·rcases ZC hb with rfl | hb
   ·simp
   ·rw [ZS hb]
    exact ⟨Nat.ne_of_lt (Nat.lt_add_right 4 lt2),Nat.ne_of_lt (Nat.lt_add_right 3 lt2),Nat.ne_of_lt lt2⟩
 have y2:Step c σ₀ s₁ σ₀ { s₁ with heap:=h' }:=Step.ext (t:=s₁.toks) kp
 have S₀:=S₁.less hle
 refine jC hf D S1 S2 S₁ hle y I flat turn done (((S₀.ext kp).dim hd)) y2 hi ⟨hz,hTI,⟨_,_,hTO⟩,⟨h1,_,kp _ _ e1',rfl,_,rfl⟩,h2,_,kp _ _ e2',rfl,_,rfl⟩ (fun b hb=>?_) fun b hb=>?_
 ·have q:=bey b hb
  exact ⟨S₀.none_of q,S₁.new_off q⟩
 ·have it1:∃ o,h'.get? s₁.heap.objs.size=some o:=let ⟨o,ho,_⟩:=h1;⟨o,ho⟩
  have it2:∃ o,h'.get? (s₁.heap.objs.size+1)=some o:=let ⟨o,ho,_⟩:=h2;⟨o,ho⟩
  have nw:∀ b,s₁.heap.get? b=none->(∃ o,h'.get? b=some o)->σ₀ b=none/\b∉c.own/\b∉c.frames/\∃ o,h'.get? b=some o:=fun b q ho=>let ⟨_,f2,f3,_⟩:=S₁.new_off q;⟨S₀.none_of q,f2,f3,ho⟩
  simp only [mem_cons,not_mem_nil,or_false] at hb
  rcases hb with (rfl | rfl) | (rfl | rfl)
  ·exact nw _ (bey _ (.inr (.inr (.inr (.inl rfl))))) it1
  ·refine an4 (S₁.off _ _ hl1) fun _ f2 f3 _=>?_
   exact ⟨g1,f2,f3,_,kp _ _ e1'⟩
  ·exact nw _ (bey _ (.inr (.inr (.inr (.inr rfl))))) it2
  ·refine an4 (S₁.off _ _ hl2) fun _ f2 f3 _=>?_
   exact ⟨g2,f2,f3,_,kp _ _ e2'⟩
end
section
variable {c:Cx}{ρ ρ' ρ₂:List NV}{σ σ₁ τ:AState}{Q:AVal->AState->Prop}{X:AExc->AState->Prop}
noncomputable def shapesL:List (Str × Str):=[("create", "tn"),("delete", "t"),("rename", "tt"),("append", "tfno"),("flags", "tnf"),("store", "tutfn"),("expunge", "tu"),("copy", "tut"),("move", "tut"),("subscribe", "t"),("unsubscribe", "t"),("forget", "tn"),("snapshot", "nfr")]
noncomputable def kK:Str := "create:tn delete:t rename:tt append:tfno flags:tnf store:tutfn expunge:tu copy:tut move:tut subscribe:t unsubscribe:t forget:tn snapshot:nfr"
theorem kO:Txt.split kK " " = shapesL.map (fun e:Str × Str=>(e.1++(":" : Str)++e.2:Str)):=by decide +kernel
theorem lj:(Txt.split kK " ").map AVal.str=shapesL.map fun e=>AVal.str (e.1++(":" : Str)++e.2):=by rw [kO,map_map];rfl
theorem mh:∀ e∈shapesL,Txt.split (e.1++(":" : Str)++e.2) ":" = [e.1,e.2]:=by decide +kernel
theorem o7:∀ e∈shapesL,∀ f∈shapesL,e.1=f.1->e=f:=by decide +kernel
theorem gD:∀ e∈shapesL,e.1.length<=12/\e.2.length<=5/\(e.1++(":" : Str)++e.2).length<=30:=by decide +kernel
theorem lJ:∀ e∈shapesL,(Builtin.Str.partsBetween (e.1++(":" : Str)++e.2) (Builtin.Str.occurrences (e.1++(":" : Str)++e.2) ":" 0 (e.1++(":" : Str)++e.2).length ((e.1++(":" : Str)++e.2).length+1)) (Str.length ":")).length<=900:=by decide +kernel
theorem jA {ρ:List NV}:Dim ρ (ρ.map fun e=>{ e with val:=none }):=⟨by rw [map_map];rfl,fun e he a ha=>by
 obtain ⟨e0⟩|⟨_,rfl⟩:=(ZM he)
 cases ha⟩
theorem mT {ρ:List NV}:FlatN (ρ.map fun e=>{ e with val:=none }):=fun e he a ha=>by
 obtain ⟨e0⟩|⟨_,rfl⟩:=(ZM he)
 cases ha
theorem aK {w sh:Str}{vs:List AVal} (x:Lib c) (cm:c.calm=true) (lv:6<=c.lv) (hs:(w,sh)∈shapesL) (hl:vs.length=sh.length) (hv:∀ (i:Nat) d a,sh.cps[i]?=some d->vs[i]?=some a->Fits ⟨#[d]⟩ a)
  (k:Q .none σ):GoV VR c ρ [.tup (.str w::vs)] (fun vs=>call (.ref 375) vs) σ Q X:=by
 refine GoV.tidy ?_
 refine ai f375 x s!"o" s!"r" rfl s!"r" fun L₀=>?_
 ext
 have hsz:=(gD _ hs).2.1
 have hvl:vs.length<=5:=by rw [hl];exact hsz
 refine dv (by simp;walk_at "o") ?_
 ext
 refine af ?_
 refine aX (α:=Str × Str) (fun e=>.str (e.1++(":" : Str)++e.2)) rfl ?_
 ext
 refine iJ (by decide +kernel) (by decide +kernel) (by decide +kernel) fun D hD=>?_
 let J1:=fun (r:List (Str × Str)) (ρ':List NV) (σ':AState)=>∃ v1 v2 v3,ρ'=[⟨"row",.local,some (.tup (.str w::vs))⟩,⟨"entry",.local,v1⟩,⟨"word",.local,v2⟩,⟨"shape",.local,v3⟩,⟨"value",.local,none⟩,⟨"letter",.local,none⟩,⟨"isinstance",.globalImplicit,none⟩,⟨"tuple",.globalImplicit,none⟩,⟨"len",.globalImplicit,none⟩,⟨"str",.globalImplicit,none⟩,⟨"StoreFault",.globalImplicit,none⟩,⟨"SHAPES",.globalImplicit,none⟩,⟨"zip",.globalImplicit,none⟩,⟨"fits_shape",.globalImplicit,none⟩]/\Le (σ.set D (.list ((Txt.split kK " ").map .str))) σ'/\(w,sh)∈r/\∀ e∈r,e∈shapesL
 refine ⟨shapesL,_,J1,
  by rw [<- lj];exact aG (Zs ..),(ei3 _ _ _ (ai4 rfl (Le.refl _) hs (fun _ h=>h))),fun _ _ σ' z=>ex3 z fun _ _ _ q=>by have l:=q.2.1;exact l _ _ (Zs ..),?_,?_⟩
 ·intro e r ρ₁ σ₁ r1z
  obtain ⟨v1,v2,v3⟩|⟨rfl,l,hm,hr⟩:=r1z
  have he:=hr e (.head _)
  have hsh:=gD _ he
  refine ay rfl (ac s!"r" ?_)
  refine af ?_
  refine dH ?_
  ext
  refine iJ (by decide +kernel) (sz s!"o") (sz (Zt (lJ _ he) (by decide))) fun D₁ hD₁=>?_
  rw [mh _ he]
  refine oP (as:=[.str e.1,.str e.2]) (Zs ..) ?_ nm2 rfl (cm:=cm)
  show Asg _ _ _ _ _ _ _
  refine ay rfl (ac s!"r" ?_)
  show Asg _ _ _ _ _ _ _
  refine ay rfl (ac s!"r" ?_)
  show WSs _ _ _ _ _ _ _
  refine bC hD₁ fun σ₂ l₂ h₂=>?_
  ext
  refine aj (fun h=>?_) (fun h=>?_)
  ·have h:e.1=w:=eq_of_beq h
   have he2:e=(w,sh):=o7 _ he _ hs h
   subst he2
   ext
   refine dv (by simp;walk_at "o") ?_
   ext
   refine aj (fun h=>?_) (fun _=>?_)
   ·exfalso;simp [hl] at h
   refine g9 ?_
   refine af ?_
   refine mB rfl cm s!"look" (qQ s!"lib") ?_
   ext
   refine g8 (k:=1) (by decide) (by simp) (sz (by simp;walk_at "o")) ?_
   ext
   let J2:=fun (k:Nat) (ρ':List NV) (σ':AState)=>ρ'=[⟨"row",.local,none⟩,⟨"entry",.local,none⟩,⟨"word",.local,none⟩,⟨"shape",.local,none⟩,⟨"value",.local,none⟩,⟨"letter",.local,none⟩,⟨"isinstance",.globalImplicit,none⟩,⟨"tuple",.globalImplicit,none⟩,⟨"len",.globalImplicit,none⟩,⟨"str",.globalImplicit,none⟩,⟨"StoreFault",.globalImplicit,none⟩,⟨"SHAPES",.globalImplicit,none⟩,⟨"zip",.globalImplicit,none⟩,⟨"fits_shape",.globalImplicit,none⟩]/\σ'=fun _=>none
   refine ⟨vs,sh,rfl,fun _=>none,_,J2,fun _ _ h=>(by cases h),trivial,jA,⟨rfl,rfl⟩,?_,?_,?_⟩
   ·intro _ _ _ r2z
    obtain ⟨rfl,rfl⟩:=r2z
    exact ⟨mT (ρ:=[⟨"row",.local,none⟩,⟨"entry",.local,none⟩,⟨"word",.local,none⟩,⟨"shape",.local,none⟩,⟨"value",.local,none⟩,⟨"letter",.local,none⟩,⟨"isinstance",.globalImplicit,none⟩,⟨"tuple",.globalImplicit,none⟩,⟨"len",.globalImplicit,none⟩,⟨"str",.globalImplicit,none⟩,⟨"StoreFault",.globalImplicit,none⟩,⟨"SHAPES",.globalImplicit,none⟩,⟨"zip",.globalImplicit,none⟩,⟨"fits_shape",.globalImplicit,none⟩]),fun a o h=>by cases h⟩
   ·intro i a b _ _ ha hb r3z
    obtain ⟨rfl,rfl⟩:=r3z
    obtain ⟨d⟩|⟨hd,rfl⟩:=(gl hb)
    have hf:=hv i d a hd ha
    refine cZ (as:=[a,.str ⟨#[d]⟩]) ?_ nm2 rfl (cm:=cm)
    show Asg _ _ _ _ _ _ _
    refine ay rfl (ac s!"r" ?_)
    show Asg _ _ _ _ _ _ _
    refine ay rfl (ac s!"r" ?_)
    show WSs _ _ _ _ _ _ _
    ext
    refine ji s!"lib" cm s!"lv" hf ?_
    ext
    exact ⟨_,_,jA,fun _ _ h=>(by cases h),rfl,rfl⟩
   ·intro i _ _ σ₃ _ r4z _ hold
    obtain ⟨rfl,rfl⟩:=r4z
    ext
    have l3:Le σ₂ σ₃:=fun a o e=>hold a o e rfl
    exact Tidy.of ((((Zl hD).trans l).trans l₂).trans l3) k
  ·ext
   have hne:(w,sh)≠e:=fun z=>by rw [<- z] at h;simp at h
   refine Tidy.of (Le.refl _) (ei3 _ _ _ (ai4 rfl (l.trans l₂) ?_ (fun f hf=>hr f (.tail _ hf))))
   rcases ZC hm with z | z
   ·exact absurd z hne
   ·exact z
 ·intro ρ₁ σ₁ r5z
  obtain ⟨v1,v2,v3⟩|⟨rfl,l,hm,hr⟩:=r5z
  cases hm
end
structure Ent where
 n:Str
 A:BxA
 B:Bx
noncomputable def entD (Es:List Ent):List (Str × AVal):=Es.map fun e=>(e.n,.ref e.A.x)
structure Rep (σ:AState) (S:StA) (Es:List Ent) (ns:List Str) (nx:Int):Prop where
 obj:StObj σ S nx
 dict:σ S.b=some (.dictS (entD Es))
 box:∀ e∈Es,BoxAt σ e.A e.B
 subs:σ S.s=some (.list (ns.map .str))
 name:∀ e∈Es,e.B.name=e.n
 keys:(Es.map (·.n)).Nodup
 apart:(Es.flatMap (·.A.foot)).Nodup
 sOff:∀ e∈Es,S.s∉e.A.foot
section
variable {σ σ₁ σ' τ:AState}{S:StA}{Es:List Ent}{ns:List Str}{nx:Int}{F:List Addr}
theorem StObj.fr (h:StObj σ S nx) (f:Fr F σ σ') (hx:S.x∉F) (hd:S.d∉F):StObj σ' S nx:=⟨f _ _ h.x hx,f _ _ h.d hd⟩
theorem Rep.le (R:Rep σ S Es ns nx) (l:Le σ σ'):Rep σ' S Es ns nx :=
 { R with obj:=R.obj.le l,dict:=l _ _ R.dict,box:=fun e he=>(R.box e he).le l,subs:=l _ _ R.subs }
theorem BoxAt.off {A:BxA}{B:Bx} (h:BoxAt σ A B) {a:Addr}{o:AObj} (e:σ a=some o) (hn:∀ m,o≠.attrs boxNs m) (hl:∀ xs,o≠.list xs):a∉A.foot:=by
 simp only [BxA.foot,mem_cons,not_mem_nil,or_false]
 refine ex1 h.l fun xs h1z=>?_
 refine an2 h1z fun hx _=>?_
 clear h1z
 rintro (z | z | z)
 ·rw [z,h.d] at e;cases e;exact hn _ rfl
 ·rw [z,hx] at e;cases e;exact hl _ rfl
 ·rw [z,h.g] at e;cases e;exact hl _ rfl
theorem Rep.offX (R:Rep σ S Es ns nx) {e:Ent} (he:e∈Es):S.x∉e.A.foot/\S.d∉e.A.foot/\S.b∉e.A.foot:=by
 have b:=R.box e he
 refine ⟨b.off R.obj.x (fun _ z=>by cases z) (fun _ z=>by cases z),b.off R.obj.d (fun m z=>?_) (fun _ z=>by cases z),b.off R.dict (fun _ z=>by cases z) (fun _ z=>by cases z)⟩
 injection z with z1 _
 exact bG z1
theorem Rep.at (R:Rep σ S Es ns nx) {e:Ent} (he:e∈Es):vAt (entD Es) e.n=some (.ref e.A.x):=by
 have key:∀ Es:List Ent,(Es.map (·.n)).Nodup->e∈Es->vAt (entD Es) e.n=some (.ref e.A.x):=by
  intro Es
  induction Es with
  | nil=>intro _ h;cases h
  | cons d Es ih =>
   intro nd hm
   rw [map_cons,nodup_cons] at nd
   unfold vAt entD at ih ⊢
   rw [map_cons,find?_cons]
   rcases ZC hm with rfl | hm
   ·simp
   ·have:d.n≠e.n:=fun z=>nd.1 (by rw [z];exact mem_map_of_mem hm)
    simp only [this,decide_false]
    exact ih nd.2 hm
 exact key Es R.keys he
theorem qz {Es:List Ent}{n:Str} (h:n∉Es.map (·.n)):vAt (entD Es) n=none:=by
 unfold vAt entD
 rw [Option.map_eq_none_iff,List.find?_eq_none]
 intro x hx
 obtain ⟨e⟩|⟨he,rfl⟩:=(ZM hx)
 simp only [decide_eq_true_eq]
 exact fun z=>h (by rw [<- z];exact mem_map_of_mem he)
noncomputable def aD (Es:List Ent) (n:Str):Option Ent:=Es.find? fun e=>decide (e.n=n)
theorem aO {Es:List Ent}{n:Str}{e:Ent} (h:aD Es n=some e):e∈Es/\e.n=n:=⟨mem_of_find?_eq_some h,by simpa using find?_some h⟩
theorem bW {Es:List Ent}{n:Str} (h:aD Es n=none):n∉Es.map (·.n):=fun z=>by
 obtain ⟨e⟩|⟨he,rfl⟩:=(ZM z)
 have:=List.find?_eq_none.mp h e he
 simp at this
theorem fQ (R:Rep σ S Es ns nx) (n:Str):(vAt (entD Es) n).isSome=(aD Es n).isSome:=by
 cases h:aD Es n with
 | none=>rw [qz (bW h)];rfl
 | some e=>obtain ⟨he,rfl⟩:=aO h;rw [R.at he];rfl
noncomputable def setE (Es:List Ent) (n:Str) (A:BxA) (B:Bx):List Ent:=Es.map fun e=>if e.n=n then ⟨n,A,B⟩ else e
theorem pE (Es:List Ent) (n:Str) (A:BxA) (B:Bx):(setE Es n A B).map (·.n)=Es.map (·.n):=by
 unfold setE;rw [map_map]
 apply map_congr_left
 intro e _
 show (if e.n=n then (⟨n,A,B⟩:Ent) else e).n=e.n
 split
 ·rename_i h;exact h.symm
 ·rfl
theorem o9 {Es:List Ent}{n:Str}{A:BxA}{B:Bx} (h:n∉Es.map (·.n)):setE Es n A B=Es:=by
 unfold setE
 conv=>rhs;rw [<- map_id Es]
 apply map_congr_left
 intro e he
 have:e.n≠n:=fun z=>h (by rw [<- z];exact mem_map_of_mem he)
 rw [if_neg this];rfl
end
section
variable {σ σ₁ σ' τ:AState}{S:StA}{Es:List Ent}{ns:List Str}{nx:Int}{F:List Addr}
theorem gt {d e:Ent}:∀ {Es:List Ent},(Es.map (·.n)).Nodup->d∈Es->e∈Es->d.n=e.n->d=e
 | [],_,h,_,_=>by cases h
 | f::Es,k,hd,he,hn=>by
  rw [map_cons,nodup_cons] at k
  rcases ZC hd with z1 | z1
  ·rcases ZC he with z2 | z2
   ·rw [z1,z2]
   ·exact absurd (by rw [<- z1,hn];exact mem_map_of_mem z2) k.1
  ·rcases ZC he with z2 | z2
   ·exact absurd (by rw [<- z2,<- hn];exact mem_map_of_mem z1) k.1
   ·exact gt k.2 z1 z2 hn
theorem dn {A:BxA} (h1:A.d≠A.l) (h2:A.d≠A.g) (h3:A.l≠A.g):A.foot.Nodup:=by
 unfold BxA.foot;simp [h1,h2,h3]
theorem oO {Es:List Ent}{n:Str}{A:BxA}{B:Bx}{e:Ent} (he:e∈Es) (hn:e.n=n) (kd:(Es.map (·.n)).Nodup) (ap:(Es.flatMap (·.A.foot)).Nodup) (hA:A.foot.Nodup)
  (hf:∀ a∈A.foot,a∈e.A.foot\/∀ e'∈Es,a∉e'.A.foot):((setE Es n A B).flatMap (·.A.foot)).Nodup/\∀ a,a∈(setE Es n A B).flatMap (·.A.foot)->a∈A.foot\/a∈Es.flatMap (·.A.foot):=by
 induction Es with
 | nil=>cases he
 | cons d Es ih =>
  rw [map_cons,nodup_cons] at kd
  rw [flatMap_cons,nodup_append] at ap
  by_cases hd:d.n=n
  ·have hde:d=e:=by
    rcases ZC he with z | z
    ·exact z.symm
    ·exact absurd (by rw [hd,<- hn];exact mem_map_of_mem z) kd.1
   have hnone:setE Es n A B=Es:=o9 (by rw [<- hd];exact kd.1)
   have e1:setE (d::Es) n A B=⟨n,A,B⟩::Es:=by
    show (if d.n=n then (⟨n,A,B⟩:Ent) else d)::setE Es n A B=_
    rw [if_pos hd,hnone]
   rw [e1]
   refine ⟨?_,fun a ha=>?_⟩
   ·rw [flatMap_cons,nodup_append]
    refine ⟨hA,ap.2.1,fun a ha b hb=>?_⟩
    rintro rfl
    rcases hf a ha with z | z
    ·exact ap.2.2 a (by rw [hde];exact z) a hb rfl
    ·obtain ⟨e'⟩|⟨he',h'⟩:=(List.mem_flatMap.mp hb)
     exact z e' (.tail _ he') h'
   ·rw [flatMap_cons,mem_append] at ha
    rcases ha with ha | ha
    ·exact .inl ha
    ·exact .inr (by rw [flatMap_cons];exact mem_append_right _ ha)
  ·have hne:e≠d:=fun z=>hd (by rw [<- z];exact hn)
   have he':e∈Es:=(ZC he).resolve_left hne
   obtain ⟨i1,i2⟩:=ih he' kd.2 ap.2.1 (fun a ha=>(hf a ha).imp id fun z e' he'=>z e' (.tail _ he'))
   have e1:setE (d::Es) n A B=d::setE Es n A B:=by
    show (if d.n=n then (⟨n,A,B⟩:Ent) else d)::setE Es n A B=_
    rw [if_neg hd]
   rw [e1]
   refine ⟨?_,fun a ha=>?_⟩
   ·rw [flatMap_cons,nodup_append]
    refine ⟨ap.1,i1,fun a ha b hb=>?_⟩
    rintro rfl
    rcases i2 a hb with z | z
    ·rcases hf a z with y | y
     ·exact ap.2.2 a ha a (List.mem_flatMap.mpr ⟨e,he',y⟩) rfl
     ·exact y d (.head _) ha
    ·exact ap.2.2 a ha a z rfl
   ·rw [flatMap_cons,mem_append] at ha
    rcases ha with ha | ha
    ·exact .inr (by rw [flatMap_cons];exact mem_append_left _ ha)
    ·exact (i2 a ha).imp id fun z=>by rw [flatMap_cons];exact mem_append_right _ z
theorem Rep.feet_apart (R:Rep σ S Es ns nx) {e d:Ent} (he:e∈Es) (hd:d∈Es) (hn:e.n≠d.n):∀ a∈d.A.foot,a∉e.A.foot:=by
 have key:∀ Es:List Ent,(Es.flatMap (·.A.foot)).Nodup->e∈Es->d∈Es->∀ a∈d.A.foot,a∉e.A.foot:=by
  intro Es
  induction Es with
  | nil=>intro _ h;cases h
  | cons f Es ih =>
   intro ap h1 h2 a ha
   rw [flatMap_cons,nodup_append] at ap
   rcases ZC h1 with z1 | z1
   ·rcases ZC h2 with z2 | z2
    ·exact absurd (by rw [z1,z2]) hn
    ·intro hb
     rw [z1] at hb
     exact ap.2.2 a hb a (List.mem_flatMap.mpr ⟨d,z2,ha⟩) rfl
   ·rcases ZC h2 with z2 | z2
    ·intro hb
     rw [z2] at ha
     exact ap.2.2 a ha a (List.mem_flatMap.mpr ⟨e,z1,hb⟩) rfl
    ·exact ih ap.2.1 z1 z2 a ha
 exact key Es R.apart he hd
theorem Rep.put (R:Rep σ S Es ns nx) {e:Ent} (he:e∈Es) {A':BxA}{B':Bx} (hb:BoxAt σ' A' B') (ba:BoxA σ σ' e.A A') (hn:B'.name=e.n):Rep σ' S (setE Es e.n A' B') ns nx:=by
 have b:=R.box e he
 refine an3 (R.offX he) fun ox od ob=>?_
 have hs:S.s∉e.A.foot:=R.sOff e he
 have hnew:∀ a∈A'.foot,a∈e.A.foot\/σ a=none:=fun a ha=>by
  simp only [BxA.foot,mem_cons,not_mem_nil,or_false] at ha ⊢
  rcases ha with rfl | rfl | rfl
  ·exact .inl (.inl ba.d)
  ·exact ba.l.imp (fun z=>.inr (.inl z)) id
  ·exact ba.g.imp (fun z=>.inr (.inr z)) id
 have hbox:∀ d∈Es,d.n≠e.n->BoxAt σ' d.A d.B:=fun d hd hne=>(R.box d hd).fr ba.fr b.noL (R.feet_apart he hd fun z=>hne z.symm)
 have hold:∀ a,(∃ o,σ a=some o)->a∉e.A.foot->a∉A'.foot:=fun a ⟨o,q⟩ n z=>(hnew a z).elim n fun z=>by rw [z] at q;cases q
 have nfoot:∀ d∈Es,∀ a∈d.A.foot,∃ o,σ a=some o:=fun d hd a ha=>by
  have bd:=R.box d hd
  refine ex1 bd.l fun xs h2z=>?_
  refine an2 h2z fun hx _=>?_
  clear h2z
  simp only [BxA.foot,mem_cons,not_mem_nil,or_false] at ha
  rcases ha with rfl | rfl | rfl
  ·exact ⟨_,bd.d⟩
  ·exact ⟨_,hx⟩
  ·exact ⟨_,bd.g⟩
 refine ⟨R.obj.fr ba.fr ox od,?_,fun d hd=>?_,ba.fr _ _ R.subs hs,fun d hd=>?_,by rw [pE];exact R.keys,?_,fun d hd=>?_⟩
 ·have:entD (setE Es e.n A' B')=entD Es:=by
   unfold entD setE
   rw [map_map]
   apply map_congr_left
   intro d hd
   show ((if d.n=e.n then (⟨e.n,A',B'⟩:Ent) else d).n,AVal.ref (if d.n=e.n then (⟨e.n,A',B'⟩:Ent) else d).A.x)=_
   split
   ·rename_i h
    have:d=e:=gt R.keys hd he h
    rw [this,ba.x]
   ·rfl
  rw [this];exact ba.fr _ _ R.dict ob
 ·obtain ⟨d0⟩|⟨hd0,rfl⟩:=(ZM hd)
  show BoxAt σ' (if d0.n=e.n then (⟨e.n,A',B'⟩:Ent) else d0).A (if d0.n=e.n then (⟨e.n,A',B'⟩:Ent) else d0).B
  split
  ·exact hb
  ·rename_i h;exact hbox d0 hd0 h
 ·obtain ⟨d0⟩|⟨hd0,rfl⟩:=(ZM hd)
  show (if d0.n=e.n then (⟨e.n,A',B'⟩:Ent) else d0).B.name=(if d0.n=e.n then (⟨e.n,A',B'⟩:Ent) else d0).n
  split
  ·exact hn
  ·exact R.name d0 hd0
 ·refine (oO he rfl R.keys R.apart (dn hb.dl.symm hb.dg.symm hb.lg) fun a ha=>?_).1
  exact (hnew a ha).imp id fun z d hd q=>by obtain ⟨o,w⟩:=nfoot d hd a q;rw [z] at w;cases w
 ·obtain ⟨d0⟩|⟨hd0,rfl⟩:=(ZM hd)
  show S.s∉(if d0.n=e.n then (⟨e.n,A',B'⟩:Ent) else d0).A.foot
  split
  ·exact hold _ ⟨_,R.subs⟩ hs
  ·exact R.sOff d0 hd0
end
section
variable {c:Cx}{ρ ρ' ρ₂:List NV}{σ σ₁ τ:AState}{Q:AVal->AState->Prop}{X:AExc->AState->Prop}{S:StA}{Es:List Ent}{ns:List Str}{nx:Int}
theorem dw {t:Str} (x:Lib c) (cm:c.calm=true) (lv:5<=c.lv) (R:Rep σ S Es ns nx) (hz:t.length<=900)
  (k:∀ e,aD Es (aa t)=some e->Q (.ref e.A.x) σ) (kx:aD Es (aa t)=none->Fault X σ):GoV VR c ρ [.ref S.x,.str t] (fun vs=>call (.ref 325) vs) σ Q X:=by
 have hO:=R.obj
 refine ai f325 x s!"o" s!"r" rfl s!"r" fun L₀=>?_
 ext
 refine cE s!"lib" cm s!"lv" s!"o" ?_
 ext
 refine ny R.dict ?_
 rw [fQ R]
 ext
 cases hf:aD Es (aa t) with
 | none =>
  ext
  exact fun fr=>kx hf _ _ fr
 | some e =>
  obtain ⟨he,hn⟩:=aO hf
  ext
  refine fS R.dict (by rw [<- hn];exact R.at he) ?_
  ext
  exact k e hf
theorem lR (x:Lib c) (cm:c.calm=true) (lv:5<=c.lv) (R:Rep σ S Es ns nx) (hz:Es.length < 64)
  (k:∀ σ' D,Le σ σ'->σ D=none->σ' D=some (.list ((bf (Es.map (·.n))).map .str))->Q (.ref D) σ'):GoV VR c ρ [.ref S.x] (fun vs=>call (.ref 332) vs) σ Q X:=by
 have hO:=R.obj
 refine ai f332 x s!"o" s!"r" rfl s!"r" fun L₀=>?_
 ext
 refine pZ R.dict (by unfold entD;rw [length_map];exact sz s!"o") fun D hD=>?_
 ext
 have e:(entD Es).map (fun e=>AVal.str e.1)=(Es.map (·.n)).map .str:=by unfold entD;rw [map_map,map_map];rfl
 rw [e]
 refine gT (Zs ..) (by rw [length_map];exact hz) fun D2 hD2=>?_
 ext
 exact k _ D2 ((Zl hD).trans (Zl hD2)) (aS (Zl hD) hD2) (Zs ..)
end
section
variable {c:Cx}{ρ ρ' ρ₂:List NV}{σ σ₁ τ:AState}{Q:AVal->AState->Prop}{X:AExc->AState->Prop}{S:StA}{Es:List Ent}{ns:List Str}{nx:Int}
noncomputable def letV (L:Ltr):AVal:=.tup [.int L.uid,L.oct,.tup (L.flags.map .str),.int L.instant,.int L.modseq]
noncomputable def boxV (B:Bx):AVal:=.tup [.str B.name,.int B.validity,.int B.next,.int B.top,.int B.floor,.tup (B.letters.map letV),.tup (B.gone.map bE)]
noncomputable def stoV (Es:List Ent) (ns:List Str) (nx:Int):AVal:=.tup [.int nx,.tup (ns.map .str),.tup (((bf (Es.map (·.n))).filterMap (aD Es)).map fun e=>boxV e.B)]
theorem i7 {l:Addr}{L:Ltr} (x:Lib c) (lv:1<=c.lv) (hL:LtrAt σ l L) (k:Q (letV L) σ):GoV VR c ρ [.ref l] (fun vs=>call (.ref 122) vs) σ Q X:=by
 refine ai f122 x s!"o" s!"r" rfl s!"r" fun L₀=>?_
 ext
 exact k
theorem kY {A:BxA}{B:Bx} (x:Lib c) (cm:c.calm=true) (lv:3<=c.lv) (hB:BoxAt σ A B) (hz:B.letters.length<=900) (hg:B.gone.length<=900) (k:Q (boxV B) σ):GoV VR c ρ [.ref A.x] (fun vs=>call (.ref 160) vs) σ Q X:=by
 refine GoV.tidy ?_
 refine ex1 hB.l fun xs h1z=>?_
 refine an2 h1z fun hx hL=>?_
 clear h1z
 refine ai f160 x s!"o" s!"r" rfl s!"r" fun L₀=>?_
 ext
 refine ev_compA (Addr × Ltr) rfl s!"cns" s!"cok" s!"cp" ?_
 ext
 refine .mk (xs.zip B.letters) (fun p=>.ref p.1) (fun p=>letV p.2) _ (by rw [cw hL.len];exact aG hx) (fun σ' l=>l _ _ hx) (sz (by rw [length_zip];walk_at "o")) (fun cl C p hp σ₄ l₄=>?_) fun σ₄ D l₄ hD h₄=>?_
 ·refine me_letter_told s!"lib" ?_
  ext
  refine ⟨p.1,p.2,rfl,(hL.zipMem p hp).le l₄,?_⟩
  ext
  refine i7 s!"lib" s!"lv" ((hL.zipMem p hp).le l₄) ?_
  exact ⟨rfl,Le.refl _⟩
 ·have e1:(xs.zip B.letters).map (fun p=>letV p.2)=B.letters.map letV:=by
   have:=congrArg (List.map letV) hL.zip_snd
   rw [map_map] at this
   exact this
  rw [e1] at h₄
  have hB₄:=hB.le l₄
  ext
  refine aJ h₄ (sz (by rw [length_map];walk_at "o")) ?_
  ext
  refine aJ hB₄.g (sz (by rw [length_map];walk_at "o")) ?_
  ext
  exact Tidy.of l₄ k
theorem dZ (R:Rep σ S Es ns nx):∀ n∈bf (Es.map (·.n)),∃ e,aD Es n=some e:=fun n hn=>by
 have:=(aC _).subset hn
 cases h:aD Es n with
 | none=>exact absurd this (bW h)
 | some e=>exact ⟨e,rfl⟩
theorem eK {α β γ:Type}{l:List α}{f:α->Option β}{g:β->γ}{d:γ} (h:∀ a∈l,∃ b,f a=some b):(l.filterMap f).map g=l.map fun a=>((f a).map g).getD d:=by
 induction l with
 | nil=>rfl
 | cons a l ih =>
  obtain ⟨b,hb⟩:=h a (.head _)
  rw [filterMap_cons,hb,map_cons,map_cons,ih fun a ha=>h a (.tail _ ha),hb]
  rfl
theorem i9 (x:Lib c) (cm:c.calm=true) (lv:7<=c.lv) (R:Rep σ S Es ns nx) (hz:Es.length < 64) (hns:ns.length<=900) (hb:∀ e∈Es,e.B.letters.length<=900/\e.B.gone.length<=900) (k:Q (stoV Es ns nx) σ):GoV VR c ρ [.ref S.x] (fun vs=>call (.ref 337) vs) σ Q X:=by
 refine GoV.tidy ?_
 have hO:=R.obj
 have nd:=dZ R
 refine ai f337 x s!"o" s!"r" rfl s!"r" fun L₀=>?_
 ext
 refine ev_compA Str rfl s!"cns" s!"cok" s!"cp" ?_
 ext
 refine lR s!"lib" cm s!"lv" R hz fun σ₁ D₁ l₁ _ h₁=>?_
 have hlen:(bf (Es.map (·.n))).length < 64:=by rw [(aC _).length_eq,length_map];exact hz
 refine .mk (bf (Es.map (·.n))) .str (fun n=>((aD Es n).map fun e=>boxV e.B).getD .none) _ (aG h₁) (fun σ' l=>l _ _ h₁) (sz s!"o") (fun cl C n hn σ₄ l₄=>?_) fun σ₄ D l₄ hD h₄=>?_
 ·have R₄:=R.le (l₁.trans l₄)
  have hO₄:=R₄.obj
  obtain ⟨e,he⟩:=nd n hn
  obtain ⟨hm,hen⟩:=aO he
  refine me_box_told s!"lib" ?_
  ext
  refine fS R₄.dict (by rw [<- hen];exact R₄.at hm) ?_
  refine ⟨e.A,e.B,rfl,R₄.box e hm,?_⟩
  ext
  refine kY s!"lib" cm s!"lv" (R₄.box e hm) (hb e hm).1 (hb e hm).2 ?_
  refine ⟨?_,Le.refl _⟩
  show _=((aD Es n).map fun e=>boxV e.B).getD .none
  rw [he];rfl
 ·have R₄:=R.le (l₁.trans l₄)
  have hO₄:=R₄.obj
  ext
  refine aJ h₄ (sz (by rw [length_map];walk_at "o")) ?_
  ext
  refine aJ R₄.subs (sz (by rw [length_map];walk_at "o")) ?_
  ext
  refine Tidy.of (l₁.trans l₄) ?_
  unfold stoV at k
  rw [eK (d:=AVal.none) nd] at k
  exact k
end
section
variable {c:Cx}{ρ:List NV}{σ:AState}{Q:AVal->AState->Prop}{X:AExc->AState->Prop}
theorem ev_idsC {x:Str}{p1 p2 px pos:Pos}{k:Nat}{iter:Expr}{scope:Scope} (hsc:scope.names=[((".0" : Str),NameKind.local),(x,NameKind.local)]) (hx0:(x == (".0" : Str))=false) (hkind:scope.kind=.function) (hx':(x == ("__debug__" : Str))=false)
  (g:Ev c ρ iter σ (fun a σ₁=>∃ ns:List Int,a=.tup (ns.map .int)/\ns.length<=sizeLine/\∀ D,σ₁ D=none->Q (.ref D) (σ₁.set D (.dictI (idsD ns)))) X)
  (hs:∀ x,foldedSetIterable iter c.env x=pure x:=by with_unfolding_all (intro _;rfl)) (cm:c.calm=true:=by walk_at "cm") :
  Ev c ρ (.DictComp (.Name x p1) (.Constant (.bool true) k p2) [⟨.Name x px,iter,[],0⟩] scope pos) σ Q X:=fun s S=>by
 have two:∀ y∈[((".0" : Str),NameKind.local),(x,NameKind.local)],y=((".0" : Str),NameKind.local)\/y=(x,NameKind.local):=fun y hy=>by simpa using hy
 have hx:scope.names.lookup x=some .local:=by rw [hsc];simp [List.lookup,hx0]
 refine wpAny_DictComp_free (intKind c.prog c.w) (fun _=>true) (fun v k=>∃ t,v=.int k t) (fun _ y=>y=.bool true) (cl:=[]) ?_ ?_ hkind ?_ hx ?_ hs
 ·rw [cV (by rw [hsc];intro y hy;rcases two y hy with rfl | rfl<;>(intro q;cases q)),hsc];rfl
 ·rw [hsc];intro y hy;rcases two y hy with rfl | rfl<;>(intro q;cases q)
 ·rw [hsc];intro y hy _;rcases two y hy with rfl | rfl<;>simp [List.lookup,hx0]
 refine g.use S fun v s₁ a σ₁ r S₁ y q=>?_
 obtain ⟨ns⟩|⟨rfl,hl,q⟩:=q
 refine ex4 r.tup_inv fun l ol vs n h4z=>?_
 refine an5 h4z fun h3z e ec ed rs=>?_
 clear h4z
 obtain rfl:=h3z
 have hi:=gU rs
 refine wpAny_pyIter_tuple ⟨_,e,ec,_,ed⟩ ?_
 have hlt:=Heap.lt_size e
 have kp:∀ b o,s₁.heap.get? b=some o->(s₁.heap.push { cls:=.type "tuple_iterator",data:=.fields #[.ref l,.int 0 0] }).get? b=some o:=fun b o q=>Zu _ q
 refine ⟨s₁.heap.objs.size,_,_,_,_,_,rfl,Walks.tuple (S₁.ok.hd cm) s₁.heap.objs.size l (Nat.ne_of_lt hlt) vs.toArray,by rw [vsz rs,length_map];exact hl,⟨⟨_,Zz _ rfl,rfl,rfl⟩,⟨_,kp _ _ e,ec,_,ed⟩⟩,?_,⟨?_,?_,?_⟩,?_⟩
 ·intro b hb
  show b < (s₁.heap.push _).objs.size
  rw [Heap.size_push]
  have hb':b=s₁.heap.objs.size\/b=l:=by simpa using hb
  rcases hb' with rfl | rfl
  ·exact Nat.lt_succ_self _
  ·exact Nat.lt_succ_of_lt hlt
 ·intro C i v s₃ m₃ E' _ _ _ _
  exact Zp ⟨rfl,_,_,rfl,fun _ _ z=>z⟩
 ·intro C i v s₃ m₃ E' hv _ hn hm _
  have hv':vs[i]?=some v:=by simpa using hv
  obtain ⟨kk,t,rfl⟩:∃ kk t,v=.int kk t:=by
   obtain ⟨hlt,rfl⟩:=List.getElem?_eq_some_iff.mp hv'
   have:∀ (vs:List Value) (ns:List Int),IntsAre vs ns->∀ v∈vs,∃ kk t,v=.int kk t:=by
    intro vs ns hi
    induction hi with
    | nil=>intro v hv;cases hv
    | cons n t r ih =>
     intro v hv
     rcases ZC hv with rfl | hv
     ·exact ⟨_,_,rfl⟩
     ·exact ih v hv
   exact this _ _ hi _ (getElem_mem hlt)
  refine wpAny_Name (wpAny_loadName_local (by simp [compEnvC,relabel,hkind]) (lookup_relabel_local hx) hn hm ?_) hx'
  exact ⟨⟨kk,isI kk t,t,rfl⟩,_,_,rfl,fun _ _ z=>z⟩
 ·intro C i v s₃ m₃ E' _ _ _ _ _
  exact Zp ⟨rfl,_,_,rfl,fun _ _ z=>z⟩
 ·intro D h' tk kvs vs' hD hd hlen hP hF hk
  have evs:vs'=vs:=by
   refine List.ext_getElem? fun j=>?_
   by_cases hj:j < vs'.length
   ·have h1:=hP j vs'[j] (getElem?_eq_getElem hj)
    rw [getElem?_eq_getElem hj]
    exact (by simpa using h1.symm)
   ·rw [getElem?_eq_none s!"o",getElem?_eq_none]
    rw [hlen,size_toArray] at hj;omega
  subst evs
  rw [List.filter_eq_self.mpr fun _ _=>rfl] at hF
  have old:∀ b o,s₁.heap.get? b=some o->h'.get? b=some o:=fun b o z=>hk b o (by
   intro w
   have w:b=s₁.heap.objs.size:=by simpa using w
   subst w;rw [ag] at z;cases z) (kp b o z)
  have hD1:s₁.heap.get? D=none:=by
   cases z:s₁.heap.get? D with
   | none=>rfl
   | some o=>have:=kp D o z;rw [hD] at this;cases this
  have S₂:=(S₁.ext old).add (a:=D) (o:=.dictI (idsD ns)) (.dictI hd (mE hF hi)) (S₁.new_off hD1)
  have y₂:Step c σ₁ s₁ (σ₁.set D (.dictI (idsD ns))) { s₁ with heap:=h',toks:=tk }:=(Step.ext (t:=tk) old).tell hD1
  exact ⟨.ref D,_,.ref D,S₂,y.trans y₂,q D (S₁.none_of hD1)⟩
end
section
variable {c:Cx}{ρ ρ' ρ₂:List NV}{σ σ₁ τ:AState}{Q:AVal->AState->Prop}{X:AExc->AState->Prop}{S:StA}{Es:List Ent}{ns:List Str}{nx:Int}
theorem bi {A:BxA}{B:Bx}{n:Int} (x:Lib c) (cm:c.calm=true) (lv:3<=c.lv) (hB:BoxAt σ A B) (h:B.top+n<=9223372036854775807) (k:Q .none σ):GoV VR c ρ [.ref A.x,.int n] (fun vs=>call (.ref 389) vs) σ Q X:=by
 refine ai f389 x s!"o" s!"r" rfl s!"r" fun L₀=>?_
 ext
 refine aj (fun h2=>?_) (fun _=>?_)
 ·have:=of_decide_eq_true h2
  exfalso;walk_at "o"
 ext
 exact k
theorem fB {A:BxA}{B:Bx}{n:Int} (x:Lib c) (cm:c.calm=true) (lv:4<=c.lv) (hB:BoxAt σ A B) (h:B.top+(n+1)<=9223372036854775807) (h2:B.next+n - 1<=4294967295) (k:Q .none σ):GoV VR c ρ [.ref A.x,.int n] (fun vs=>call (.ref 396) vs) σ Q X:=by
 refine ai f396 x s!"o" s!"r" rfl s!"r" fun L₀=>?_
 ext
 refine bi s!"lib" cm s!"lv" hB h ?_
 ext
 refine aj (fun h3=>?_) (fun _=>?_)
 ·have:=of_decide_eq_true h3
  exfalso;walk_at "o"
 ext
 exact k
theorem d3 {n:Str} (x:Lib c) (cm:c.calm=true) (lv:3<=c.lv) (R:Rep σ S Es ns nx) (k:aD Es n=none->Q .none σ) (kx:(∃ e,aD Es n=some e)->Fault X σ):GoV VR c ρ [.ref S.x,.str n] (fun vs=>call (.ref 403) vs) σ Q X:=by
 have hO:=R.obj
 refine ai f403 x s!"o" s!"r" rfl s!"r" fun L₀=>?_
 ext
 refine rp R.dict ?_
 rw [fQ R]
 ext
 cases hf:aD Es n with
 | none=>ext;exact k hf
 | some e=>ext;exact fun fr=>kx ⟨e,hf⟩ _ _ fr
theorem c8 {v:Int} (x:Lib c) (cm:c.calm=true) (lv:3<=c.lv) (hO:StObj σ S nx) (k:nx<=v->v < 4294967295->Q .none σ) (kx:¬ (nx<=v/\v < 4294967295)->Fault X σ):GoV VR c ρ [.ref S.x,.int v] (fun vs=>call (.ref 410) vs) σ Q X:=by
 refine ai f410 x s!"o" s!"r" rfl s!"r" fun L₀=>?_
 ext
 refine aj (fun h=>?_) (fun h=>?_)
 ·have h:=of_decide_eq_true h
  ext
  refine aj (fun h2=>?_) (fun h2=>?_)
  ·have h2:¬ v < 4294967295:=by simpa using h2
   ext
   exact fun fr=>kx (fun z=>h2 z.2) _ _ fr
  ·have h2:v < 4294967295:=by simpa using h2
   ext
   exact k h h2
 ·have h:=of_decide_eq_false h
  ext
  exact fun fr=>kx (fun z=>h z.1) _ _ fr
theorem j0 {A:BxA}{B:Bx}{us:List Int} (x:Lib c) (cm:c.calm=true) (lv:5<=c.lv) (hB:BoxAt σ A B) (hz:B.letters.length<=900) (ha:Asc B.letters) (hus:us.length < 64)
  (k:∀ σ' D,Le σ σ'->σ' D=some (.list ((bD (once [] us)).map .int))->(∀ u∈us,∃ L∈B.letters,L.uid=u)->Q (.ref D) σ') (kx:(∃ u∈us,∀ L∈B.letters,L.uid≠u)->Fault X σ):GoV VR c ρ [.ref A.x,.tup (us.map .int)] (fun vs=>call (.ref 415) vs) σ Q X:=by
 refine GoV.tidyX ?_
 have hol:=d8 us []
 have hz2:(once [] us).length < 64:=by simp at hol;walk_at "o"
 refine ai f415 x s!"o" s!"r" rfl s!"r" fun L₀=>?_
 ext
 refine ev_idsC rfl rfl rfl rfl ?_ (cm:=cm)
 ext
 refine ⟨sz s!"o",fun D₁ hD₁=>?_⟩
 ext
 have hkl:(idsD us).length < 64:=by
  have:=congrArg List.length (eA us)
  unfold dj at this
  rw [length_map] at this;walk_at "o"
 refine lU (Zs ..) (sz s!"o") (fun D₂ hD₂=>?_) (cm:=cm)
 ext
 refine kD (ns:=once [] us) (by rw [Zs,<- eA];unfold dj;rw [map_map];rfl) hz2 fun D hD=>?_
 ext
 refine bC hD fun σ₁ l₁ h₁=>?_
 have l:=((Zl hD₁).trans (Zl hD₂)).trans l₁
 have hB₁:=hB.le l
 refine af ?_
 refine aX (α:=Int) .int rfl ?_
 ext
 let J1:=fun (r:List Int) (ρ':List NV) (σ':AState)=>∃ v done,ρ'=[⟨"box",.local,some (.ref A.x)⟩,⟨"uids",.local,some (.tup (us.map .int))⟩,⟨"uid",.local,v⟩,⟨"found",.local,some (.ref D)⟩,⟨"sorted",.globalImplicit,none⟩,⟨"list",.globalImplicit,none⟩,⟨"StoreFault",.globalImplicit,none⟩]/\σ₁=σ'/\bD (once [] us)=done++r/\∀ u∈done,∃ L∈B.letters,L.uid=u
 refine ⟨bD (once [] us),_,J1,
  aG h₁,(ei2 _ ([]) (ai4 rfl rfl rfl (fun u hu=>by cases hu))),fun _ _ σ' z=>ex2 z fun _ _ q=>by have e:=q.2.1;rw [<- e];exact h₁,?_,?_⟩
 ·intro u r ρ₁ _ r1z
  obtain ⟨v,done⟩|⟨rfl,rfl,hd,hu⟩:=r1z
  have hus2:u∈us:=by
   have:u∈bD (once [] us):=by rw [hd];simp
   have:=(aZ _).subset this
   rw [dO] at this
   exact this.resolve_left (by simp)
  refine ay rfl (ac s!"r" ?_)
  ext
  refine jF s!"lib" cm s!"lv" hB₁ s!"o" ha (fun i M a e1 e2 hM=>?_) (fun hn=>?_)
  ·ext
   refine nt (fun as h=>by cases h) ?_
   ext
   refine Tidy.of (Le.refl _) (ei2 _ (done++[u]) (ai4 rfl rfl (by rw [hd];simp) (fun w hw=>?_)))
   rcases ZA hw with hw | hw
   ·exact hu w hw
   ·rw [ZS hw];exact ⟨M,mem_of_getElem? e1,e2⟩
  ·ext
   refine nt (fun as h=>by cases h) ?_
   ext
   exact fun fr=>⟨σ,l,kx ⟨u,hus2,hn⟩ _ _ fr⟩
 ·intro ρ₁ _ r2z
  obtain ⟨v,done⟩|⟨rfl,rfl,hd,hu⟩:=r2z
  ext
  refine Tidy.of (Le.refl _) (k _ D l h₁ fun u hm=>hu u ?_)
  rw [append_nil] at hd
  rw [<- hd]
  exact (aZ _).symm.subset ((dO _ _ _).mpr (.inr hm))
end
noncomputable def aY (S:StA) (Es:List Ent):List Addr:=S.d::S.b::S.s::Es.flatMap (·.A.foot)
structure Kept (σ σ':AState) (S:StA) (Es:List Ent) (S':StA) (Es':List Ent):Prop where
 x:S'.x=S.x
 d:S'.d=S.d
 b:S'.b=S.b
 fr:Fr (aY S Es) σ σ'
 new:∀ a∈aY S' Es',a∈aY S Es\/σ a=none
section
variable {σ σ₁ σ' τ:AState}{S S₁ S':StA}{Es E₁ Es':List Ent}{ns:List Str}{nx:Int}{F:List Addr}
theorem Kept.refl:Kept σ σ S Es S Es:=⟨rfl,rfl,rfl,Fr.refl,fun _ h=>.inl h⟩
theorem Kept.le (K:Kept σ σ₁ S Es S' Es') (l:Le σ₁ σ'):Kept σ σ' S Es S' Es':=⟨K.x,K.d,K.b,K.fr.le l,K.new⟩
theorem Kept.of_le (l:Le σ σ'):Kept σ σ' S Es S Es:=Kept.refl.le l
theorem Kept.trans (K:Kept σ σ₁ S Es S₁ E₁) (J:Kept σ₁ σ' S₁ E₁ S' Es'):Kept σ σ' S Es S' Es':=by
 refine ⟨J.x.trans K.x,J.d.trans K.d,J.b.trans K.b,fun a o e n=>J.fr a o (K.fr a o e n) fun z=>?_,fun a ha=>?_⟩
 ·rcases K.new a z with h | h
  ·exact n h
  ·rw [h] at e;cases e
 ·rcases J.new a ha with h | h
  ·exact K.new a h
  ·by_cases n:a∈aY S Es
   ·exact .inl n
   ·cases z:σ a with
    | none=>exact .inr rfl
    | some o=>rw [K.fr a o z n] at h;cases h
theorem Rep.foot_told (R:Rep σ S Es ns nx):∀ a∈aY S Es,∃ o,σ a=some o:=fun a ha=>by
 simp only [aY,mem_cons] at ha
 rcases ha with rfl | rfl | rfl | ha
 ·exact ⟨_,R.obj.d⟩
 ·exact ⟨_,R.dict⟩
 ·exact ⟨_,R.subs⟩
 ·obtain ⟨d⟩|⟨hd,h⟩:=(List.mem_flatMap.mp ha)
  have bd:=R.box d hd
  refine ex1 bd.l fun xs h2z=>?_
  refine an2 h2z fun hx _=>?_
  clear h2z
  simp only [BxA.foot,mem_cons,not_mem_nil,or_false] at h
  rcases h with rfl | rfl | rfl
  ·exact ⟨_,bd.d⟩
  ·exact ⟨_,hx⟩
  ·exact ⟨_,bd.g⟩
theorem Rep.off_foot (R:Rep σ S Es ns nx) {a:Addr} (h:σ a=none):a∉aY S Es:=fun z=>by
 obtain ⟨o,e⟩:=R.foot_told a z;rw [h] at e;cases e
theorem cN {e:Ent} (he:e∈Es):∀ a∈e.A.foot,a∈aY S Es:=fun a ha =>
 .tail _ (.tail _ (.tail _ (List.mem_flatMap.mpr ⟨e,he,ha⟩)))
theorem Rep.keepB (R:Rep σ S Es ns nx) {e:Ent} (he:e∈Es) {A':BxA}{B':Bx} (ba:BoxA σ σ' e.A A'):Kept σ σ' S Es S (setE Es e.n A' B'):=by
 refine ⟨rfl,rfl,rfl,ba.fr.mono (cN he),fun a ha=>?_⟩
 simp only [aY,mem_cons] at ha
 rcases ha with rfl | rfl | rfl | ha
 ·exact .inl (.head _)
 ·exact .inl (.tail _ (.head _))
 ·exact .inl (.tail _ (.tail _ (.head _)))
 ·obtain ⟨d⟩|⟨hd,h⟩:=(List.mem_flatMap.mp ha)
  obtain ⟨d0⟩|⟨hd0,rfl⟩:=(ZM hd)
  have h:a∈(if d0.n=e.n then (⟨e.n,A',B'⟩:Ent) else d0).A.foot:=h
  by_cases q:d0.n=e.n
  ·rw [if_pos q] at h
   simp only [BxA.foot,mem_cons,not_mem_nil,or_false] at h
   have hf:∀ b∈e.A.foot,b∈aY S Es:=cN he
   rcases h with rfl | rfl | rfl
   ·exact .inl (hf _ (by rw [ba.d];exact .head _))
   ·exact ba.l.imp (fun z=>hf _ (by rw [z];exact .tail _ (.head _))) id
   ·exact ba.g.imp (fun z=>hf _ (by rw [z];exact .tail _ (.tail _ (.head _)))) id
  ·rw [if_neg q] at h
   exact .inl (cN hd0 _ h)
theorem BoxA.of_fr {A:BxA} (f:Fr A.foot σ σ'):BoxA σ σ' A A:=⟨rfl,rfl,.inl rfl,.inl rfl,f⟩
theorem Rep.setN (R:Rep σ S Es ns nx) (v:Int):Rep (σ.set S.d (.attrs storeNs (aQ S v))) S Es ns v/\Kept σ (σ.set S.d (.attrs storeNs (aQ S v))) S Es S Es:=by
 have hd:∀ a o,σ a=some o->(∀ m,o≠.attrs storeNs m)->(σ.set S.d (.attrs storeNs (aQ S v))) a=some o:=fun a o e n=>by
  rw [Zn];exact e
  rintro rfl;rw [R.obj.d] at e;cases e;exact n _ rfl
 have f:Fr [S.d] σ (σ.set S.d (.attrs storeNs (aQ S v))):=Fr.refl.set (.head _)
 refine ⟨{ R with obj:=⟨hd _ _ R.obj.x (by simp),Zs ..⟩,dict:=hd _ _ R.dict (by simp),box:=fun e he=>?_,subs:=hd _ _ R.subs (by simp) },⟨rfl,rfl,rfl,f.mono fun a ha=>?_,fun _ h=>.inl h⟩⟩
 ·refine (R.box e he).fr f (fun a ha=>?_) fun a ha z=>?_
  ·rw [ZS ha,R.obj.d];exact .attrs cL
  ·rw [ZS z] at ha;exact (R.offX he).2.1 ha
 ·rw [ZS ha];exact .head _
theorem Rep.setS (R:Rep σ S Es ns nx) {D:Addr}{ms:List Str} (hD:σ D=some (.list (ms.map .str))) (ho:∀ e∈Es,D∉e.A.foot) :
  Rep (σ.set S.d (.attrs storeNs (aQ { S with s:=D } nx))) { S with s:=D } Es ms nx:=by
 have hd:∀ a o,σ a=some o->(∀ m,o≠.attrs storeNs m)->(σ.set S.d (.attrs storeNs (aQ { S with s:=D } nx))) a=some o:=fun a o e n=>by
  rw [Zn];exact e
  rintro rfl;rw [R.obj.d] at e;cases e;exact n _ rfl
 have f:Fr [S.d] σ (σ.set S.d (.attrs storeNs (aQ { S with s:=D } nx))):=Fr.refl.set (.head _)
 refine ⟨⟨hd _ _ R.obj.x (by simp),Zs ..⟩,hd _ _ R.dict (by simp),fun e he=>?_,hd _ _ hD (by simp),R.name,R.keys,R.apart,ho⟩
 refine (R.box e he).fr f (fun a ha=>?_) fun a ha z=>?_
 ·rw [ZS ha,R.obj.d];exact .attrs cL
 ·rw [ZS z] at ha;exact (R.offX he).2.1 ha
theorem Rep.setD (R:Rep σ S Es ns nx) {E':List Ent} (hb:∀ e∈E',BoxAt σ e.A e.B) (hn:∀ e∈E',e.B.name=e.n) (hk:(E'.map (·.n)).Nodup) (ha:(E'.flatMap (·.A.foot)).Nodup) (hs:∀ e∈E',S.s∉e.A.foot) :
  Rep (σ.set S.b (.dictS (entD E'))) S E' ns nx:=by
 have hd:∀ a o,σ a=some o->(∀ m,o≠.dictS m)->(σ.set S.b (.dictS (entD E'))) a=some o:=fun a o e n=>by
  rw [Zn];exact e
  rintro rfl;rw [R.dict] at e;cases e;exact n _ rfl
 have f:Fr [S.b] σ (σ.set S.b (.dictS (entD E'))):=Fr.refl.set (.head _)
 refine ⟨⟨hd _ _ R.obj.x (by simp),hd _ _ R.obj.d (by simp)⟩,Zs ..,fun e he=>?_,hd _ _ R.subs (by simp),hn,hk,ha,hs⟩
 refine (hb e he).fr f (fun a ha=>?_) fun a ha z=>?_
 ·rw [ZS ha,R.dict];exact .dictS
 ·rw [ZS z] at ha
  exact (hb e he).off R.dict (by simp) (by simp) ha
theorem sT {E':List Ent} (h:∀ a∈E'.flatMap (·.A.foot),a∈Es.flatMap (·.A.foot)\/σ a=none):Kept σ (σ.set S.b (.dictS (entD E'))) S Es S E':=by
 have f:Fr [S.b] σ (σ.set S.b (.dictS (entD E'))):=Fr.refl.set (.head _)
 refine ⟨rfl,rfl,rfl,f.mono fun a ha=>by rw [ZS ha];exact .tail _ (.head _),fun a ha=>?_⟩
 simp only [aY,mem_cons] at ha ⊢
 rcases ha with h1 | h1 | h1 | h1
 ·exact .inl (.inl h1)
 ·exact .inl (.inr (.inl h1))
 ·exact .inl (.inr (.inr (.inl h1)))
 ·exact (h a h1).imp (fun z=>.inr (.inr (.inr z))) id
theorem Rep.add (R:Rep σ S Es ns nx) (l:Le σ σ₁) {A:BxA}{B:Bx}{n:Str} (hB:BoxAt σ₁ A B) (hd:σ A.d=none) (hl:σ A.l=none) (hg:σ A.g=none) (hn:B.name=n) (hk:n∉Es.map (·.n)) :
  Rep (σ₁.set S.b (.dictS (entD (Es++[⟨n,A,B⟩])))) S (Es++[⟨n,A,B⟩]) ns nx/\Kept σ (σ₁.set S.b (.dictS (entD (Es++[⟨n,A,B⟩])))) S Es S (Es++[⟨n,A,B⟩]):=by
 have R₁:=R.le l
 have nf:∀ a∈A.foot,σ a=none:=fun a ha=>by
  simp only [BxA.foot,mem_cons,not_mem_nil,or_false] at ha
  rcases ha with rfl | rfl | rfl<;>assumption
 have mem:∀ e∈Es++[⟨n,A,B⟩],e∈Es\/e=⟨n,A,B⟩:=fun e he=>by simpa using he
 refine ⟨R₁.setD (fun e he=>?_) (fun e he=>?_) ?_ ?_ (fun e he=>?_),?_⟩
 ·rcases mem e he with h | rfl
  ·exact R₁.box e h
  ·exact hB
 ·rcases mem e he with h | rfl
  ·exact R.name e h
  ·exact hn
 ·rw [map_append,nodup_append]
  refine ⟨R.keys,by simp,fun a ha b hb=>?_⟩
  simp at hb;subst hb
  rintro rfl;exact hk ha
 ·rw [flatMap_append,nodup_append]
  refine ⟨R.apart,by simpa using dn hB.dl.symm hB.dg.symm hB.lg,fun a ha b hb=>?_⟩
  rintro rfl
  have hb:a∈A.foot:=by simpa using hb
  obtain ⟨o,e⟩:=R.foot_told a (.tail _ (.tail _ (.tail _ ha)))
  rw [nf a hb] at e;cases e
 ·rcases mem e he with h | rfl
  ·exact R.sOff e h
  ·intro z;have:=nf _ z;rw [R.subs] at this;cases this
 ·refine ⟨rfl,rfl,rfl,(l.fr (F:=aY S Es)).trans ((Fr.refl.set (F:=[S.b]) (.head _)).mono fun a ha=>by rw [ZS ha];exact .tail _ (.head _)),fun a ha=>?_⟩
  simp only [aY,mem_cons,flatMap_append,mem_append] at ha ⊢
  rcases ha with h1 | h1 | h1 | h1 | h1
  ·exact .inl (.inl h1)
  ·exact .inl (.inr (.inl h1))
  ·exact .inl (.inr (.inr (.inl h1)))
  ·exact .inl (.inr (.inr (.inr h1)))
  ·exact .inr (nf a (by simpa using h1))
theorem Rep.keepS (R:Rep σ S Es ns nx) (l:Le σ σ₁) {D:Addr} (hD:σ D=none) {m:Str->Option AVal}{T:List Str}:Kept σ (σ₁.set S.d (.attrs T m)) S Es { S with s:=D } Es:=by
 refine ⟨rfl,rfl,rfl,(l.fr (F:=aY S Es)).trans ((Fr.refl.set (F:=[S.d]) (.head _)).mono fun a ha=>by rw [ZS ha];exact .head _),fun a ha=>?_⟩
 simp only [aY,mem_cons] at ha ⊢
 rcases ha with h1 | h1 | h1 | h1
 ·exact .inl (.inl h1)
 ·exact .inl (.inr (.inl h1))
 ·exact .inr (by rw [h1];exact hD)
 ·exact .inl (.inr (.inr (.inr h1)))
noncomputable def delE (Es:List Ent) (n:Str):List Ent:=Es.filter fun e=>!decide (e.n=n)
theorem jU {Es:List Ent}{n:Str}:wout (entD Es) n=entD (delE Es n):=by
 unfold wout entD delE
 rw [filter_map]
 congr 1
 apply filter_congr
 intro e _
 simp
theorem ix {E:List Ent} (h:E.Sublist Es):(E.flatMap (·.A.foot)).Sublist (Es.flatMap (·.A.foot)):=by
 induction h with
 | slnil=>exact .slnil
 | cons a _ ih=>rw [flatMap_cons];exact ih.trans (List.sublist_append_right _ _)
 | cons_cons a _ ih=>rw [flatMap_cons,flatMap_cons];exact List.Sublist.append (.refl _) ih
theorem Rep.del (R:Rep σ S Es ns nx) (n:Str):Rep (σ.set S.b (.dictS (entD (delE Es n)))) S (delE Es n) ns nx/\Kept σ (σ.set S.b (.dictS (entD (delE Es n)))) S Es S (delE Es n):=by
 have sb:(delE Es n).Sublist Es:=filter_sublist
 exact ⟨R.setD (fun e he=>R.box e (sb.subset he)) (fun e he=>R.name e (sb.subset he)) (R.keys.sublist (sb.map _)) (R.apart.sublist (ix sb)) (fun e he=>R.sOff e (sb.subset he)),
  sT fun a ha=>.inl ((ix sb).subset ha)⟩
end
inductive Deed where
 | create (n:Str) (v:Int)
 | delete (n:Str)
 | rename (n g:Str)
 | append (n:Str) (fs:List Str) (t:Int) (b:Array UInt8) (k:Tok)
 | flags (n:Str) (u:Int) (fs:List Str)
 | store (n:Str) (us:List Int) (way:Str) (fs:List Str) (un:Int)
 | expunge (n:Str) (us:List Int)
 | copy (mv:Bool) (n:Str) (us:List Int) (g:Str)
 | subscribe (n:Str)
 | unsubscribe (n:Str)
 | forget (n:Str) (m:Int)
noncomputable def fq (fs:List Str):AVal:=.tup (fs.map .str)
noncomputable def b0 (us:List Int):AVal:=.tup (us.map .int)
noncomputable def rowV:Deed->AVal
 | .create n v=>.tup [.str "create",.str n,.int v]
 | .delete n=>.tup [.str "delete",.str n]
 | .rename n g=>.tup [.str "rename",.str n,.str g]
 | .append n fs t b k=>.tup [.str "append",.str n,fq fs,.int t,.bytes b k]
 | .flags n u fs=>.tup [.str "flags",.str n,.int u,fq fs]
 | .store n us way fs un=>.tup [.str "store",.str n,b0 us,.str way,fq fs,.int un]
 | .expunge n us=>.tup [.str "expunge",.str n,b0 us]
 | .copy mv n us g=>.tup [.str (if mv then "move" else "copy"),.str n,b0 us,.str g]
 | .subscribe n=>.tup [.str "subscribe",.str n]
 | .unsubscribe n=>.tup [.str "unsubscribe",.str n]
 | .forget n m=>.tup [.str "forget",.str n,.int m]
inductive Res where
 | v (a:AVal)
 | pairs (ps:List (Str × Str))
 | two (xs ys:List Int)
noncomputable def d7 (p:Str × Str):AVal:=.tup [.str p.1,.str p.2]
noncomputable def ResAt (σ:AState) (a:AVal):Res->Prop
 | .v b=>a=b
 | .pairs ps=>∃ D,a=.ref D/\σ D=some (.list (ps.map d7))
 | .two xs ys=>∃ C R,a=.tup [.ref C,.ref R]/\σ C=some (.list (xs.map .int))/\σ R=some (.list (ys.map .int))
abbrev Boxes:=List (Str × Bx)
noncomputable def ak (bs:Boxes) (n:Str):Option Bx:=(bs.find? fun e=>decide (e.1=n)).map (·.2)
noncomputable def setB (bs:Boxes) (n:Str) (B:Bx):Boxes:=bs.map fun e=>if e.1=n then (n,B) else e
noncomputable def delB (bs:Boxes) (n:Str):Boxes:=bs.filter fun e=>!decide (e.1=n)
noncomputable def Bx.new (n:Str) (v:Int):Bx:=⟨n,v,1,1,0,[],[]⟩
noncomputable def be (n f g:Str):Str:=g++Txt.slice n (some (f.length:Int)) none
noncomputable def ax (ks:List Str) (f g:Str):List (Str × Str):=((bf ks).filter fun n=>n == f || aU n f).map fun n=>(n,be n f g)
noncomputable def renB (bs:Boxes) (ps:List (Str × Str)):Boxes:=(bs.filter fun e=>!(ps.any fun p=>p.1 == e.1))++ps.filterMap fun p=>(ak bs p.1).map fun B=>(p.2,{ B with name:=p.2 })
noncomputable def mvIn (bs:Boxes) (f h:Str) (B G:Bx) (Ls:List Ltr) (mv:Bool):Boxes :=
 let b1:=setB bs h (G.addAll Ls)
 if mv then setB b1 f ((if f=h then G.addAll Ls else B).expunge (Ls.map (·.uid))) else b1
noncomputable def step (s:Sto):Deed->Option (Sto × Res)
 | .create n v =>
  if aM (aa n) && (ak s.boxes (aa n)).isNone && (decide (s.next<=v) && decide (v < 4294967295)) then
   some (⟨s.boxes++[(aa n,Bx.new (aa n) v)],s.names,v+1⟩,.v (.int v)) else none
 | .delete n=>match ak s.boxes (aa n) with
  | none=>none
  | some B=>if aa n = "INBOX" then none else some ({ s with boxes:=delB s.boxes (aa n) },.v (.int B.validity))
 | .rename n g=>match ak s.boxes (aa n) with
  | none=>none
  | some B =>
   if aM (aa g) && (ak s.boxes (aa g)).isNone then
    if aa n = "INBOX" then
     if s.next < 4294967295 then
      some (⟨setB s.boxes (aa n) (B.expunge (B.letters.map (·.uid)))++[(aa g,(Bx.new (aa g) s.next).addAll B.letters)],s.names,s.next+1⟩,.pairs [("INBOX",aa g)])
     else none
    else
     let ps:=ax (s.boxes.map (·.1)) (aa n) (aa g)
     if ps.any (fun p=>(ak s.boxes p.2).isSome) then none else some ({ s with boxes:=renB s.boxes ps },.pairs ps)
   else none
 | .append n fs t b k=>match ak s.boxes (aa n),ae fs with
  | some B,some ns=>some ({ s with boxes:=setB s.boxes (aa n) (B.add (.bytes b k) ns t) },.v (.tup [.int B.validity,.int B.next]))
  | _,_=>none
 | .flags n u fs=>match ak s.boxes (aa n),ae fs with
  | some B,some ns=>if (b7 B.letters u).isSome then some ({ s with boxes:=setB s.boxes (aa n) (B.turn u ns).1 },.v (.bool (B.turn u ns).2)) else none
  | _,_=>none
 | .store n us way fs un=>match ak s.boxes (aa n),ae fs with
  | some B,some ns =>
   let o:=if un < 0 then none else some un
   some ({ s with boxes:=setB s.boxes (aa n) (B.storeF o way ns us).1 },.two (B.storeF o way ns us).2 (((B.picked us).filter (bP o)).map (·.uid)))
  | _,_=>none
 | .expunge n us=>match ak s.boxes (aa n) with
  | some B=>some ({ s with boxes:=setB s.boxes (aa n) (B.expunge us) },.v (b0 (B.left us)))
  | none=>none
 | .copy mv n us g=>match ak s.boxes (aa n),ak s.boxes (aa g) with
  | some B,some G =>
   if us.all (fun u=>(b7 B.letters u).isSome) then
    some ({ s with boxes:=mvIn s.boxes (aa n) (aa g) B G (B.picked us) mv },
     .v (.tup [.int G.validity,b0 ((B.picked us).map (·.uid)),b0 ((aB G.next (B.picked us)).map (·.2))]))
   else none
  | _,_=>none
 | .subscribe n=>if aM (aa n) then
   (if s.names.any (· == aa n) then some (s,.v (.bool false)) else some ({ s with names:=bf (s.names++[aa n]) },.v (.bool true))) else none
 | .unsubscribe n=>if s.names.any (· == aa n) then some ({ s with names:=s.names.filter fun m=>m != aa n },.v (.bool true)) else none
 | .forget n m=>match ak s.boxes (aa n) with
  | some B=>some ({ s with boxes:=setB s.boxes (aa n) (B.forget m) },.v (.int (B.forgot m)))
  | none=>none
noncomputable def ah (Es:List Ent) (ns:List Str) (nx:Int):Sto:=⟨Es.map fun e=>(e.n,e.B),ns,nx⟩
theorem dW {Es:List Ent}{n:Str}:ak (Es.map fun e=>(e.n,e.B)) n=(aD Es n).map (·.B):=by
 unfold ak aD
 induction Es with
 | nil=>rfl
 | cons e Es ih =>
  rw [map_cons,find?_cons,find?_cons]
  dsimp only
  by_cases h:e.n=n
  ·simp [h]
  ·simp only [h,decide_false];exact ih
theorem setB_of {Es:List Ent}{n:Str}{A:BxA}{B:Bx}:(setE Es n A B).map (fun e=>(e.n,e.B))=setB (Es.map fun e=>(e.n,e.B)) n B:=by
 unfold setE setB
 rw [map_map,map_map]
 apply map_congr_left
 intro e _
 show ((if e.n=n then (⟨n,A,B⟩:Ent) else e).n,(if e.n=n then (⟨n,A,B⟩:Ent) else e).B)=if e.n=n then (n,B) else (e.n,e.B)
 split<;>rfl
theorem delB_of {Es:List Ent}{n:Str}:(delE Es n).map (fun e=>(e.n,e.B))=delB (Es.map fun e=>(e.n,e.B)) n:=by
 unfold delE delB
 rw [filter_map]
 rfl
structure Out (σ σ':AState) (S:StA) (Es:List Ent) (ns:List Str) (nx:Int) (s':Sto):Prop where
 out:∃ S' Es',Rep σ' S' Es' s'.names s'.next/\Kept σ σ' S Es S' Es'/\s'.boxes=Es'.map fun e=>(e.n,e.B)
structure BxOk (m:Nat) (B:Bx):Prop where
 asc:Asc B.letters
 canon:∀ L∈B.letters,Canon L.flags
 len:B.letters.length<=m
 gone:B.gone.length<=m
 top:B.top<=2 * m
 next:B.next<=m
structure StoOk (m:Nat) (s:Sto):Prop where
 box:∀ e∈s.boxes,BxOk m e.2
 good:∀ e∈s.boxes,aM e.1=true/\aa e.1=e.1/\e.1.length<=400
 count:s.boxes.length<=30
 names:s.names.length<=30
 next:s.next<=1000
theorem jW (B:Bx) (u:Int) (ns:List Str):(B.turn u ns).1.name=B.name:=by
 unfold Bx.turn
 split
 ·split<;>rfl
 ·rfl
theorem cr (B:Bx) (us:List Int):(B.expunge us).name=B.name:=by
 unfold Bx.expunge
 split<;>rfl
theorem mr (B:Bx) (m:Int):(B.forget m).name=B.name:=by
 unfold Bx.forget
 split<;>rfl
section
variable {σ σ':AState}{S:StA}{Es:List Ent}{ns:List Str}{nx:Int}{m:Nat}
theorem bw {n:Str}{e:Ent} (h:aD Es n=some e):ak (ah Es ns nx).boxes n=some e.B:=by
 show ak (Es.map fun e=>(e.n,e.B)) n=_
 rw [dW,h];rfl
theorem ce {n:Str} (h:aD Es n=none):ak (ah Es ns nx).boxes n=none:=by
 show ak (Es.map fun e=>(e.n,e.B)) n=_
 rw [dW,h];rfl
theorem lw {n:Str}{v:Int} (hok:aM (aa n)=true) (hf:aD Es (aa n)=none) (h1:nx<=v) (h2:v < 4294967295) :
  step (ah Es ns nx) (.create n v)=some (⟨(ah Es ns nx).boxes++[(aa n,Bx.new (aa n) v)],ns,v+1⟩,.v (.int v)):=by
 rw [step,ce hf,hok,if_pos]
 ·rfl
 ·simp only [Option.isNone_none,Bool.and_self,Bool.true_and,Bool.and_eq_true,decide_eq_true_eq];exact ⟨h1,h2⟩
theorem gv {n:Str}{e:Ent} (he:aD Es (aa n)=some e):step (ah Es ns nx) (.delete n)=if aa n = "INBOX" then none else some ({ ah Es ns nx with boxes:=delB (ah Es ns nx).boxes (aa n) },.v (.int e.B.validity)):=by
 rw [step,bw he]
theorem l4 {n:Str}{fs ms:List Str}{t:Int}{b:Array UInt8}{kk:Tok}{e:Ent} (he:aD Es (aa n)=some e) (hm:ae fs=some ms) :
  step (ah Es ns nx) (.append n fs t b kk)=some ({ ah Es ns nx with boxes:=setB (ah Es ns nx).boxes (aa n) (e.B.add (.bytes b kk) ms t) },.v (.tup [.int e.B.validity,.int e.B.next])):=by
 rw [step,bw he,hm]
theorem iP {n:Str}{u:Int}{fs ms:List Str}{e:Ent} (he:aD Es (aa n)=some e) (hm:ae fs=some ms) :
  step (ah Es ns nx) (.flags n u fs)=if (b7 e.B.letters u).isSome then some ({ ah Es ns nx with boxes:=setB (ah Es ns nx).boxes (aa n) (e.B.turn u ms).1 },.v (.bool (e.B.turn u ms).2)) else none:=by
 rw [step,bw he,hm]
theorem mK {n way:Str}{us:List Int}{fs ms:List Str}{un:Int}{e:Ent} (he:aD Es (aa n)=some e) (hm:ae fs=some ms) :
  step (ah Es ns nx) (.store n us way fs un)=some ({ ah Es ns nx with boxes:=setB (ah Es ns nx).boxes (aa n) (e.B.storeF (if un < 0 then none else some un) way ms us).1 },
   .two (e.B.storeF (if un < 0 then none else some un) way ms us).2 (((e.B.picked us).filter (bP (if un < 0 then none else some un))).map (·.uid))):=by
 rw [step,bw he,hm]
theorem kc {n:Str}{us:List Int}{e:Ent} (he:aD Es (aa n)=some e) :
  step (ah Es ns nx) (.expunge n us)=some ({ ah Es ns nx with boxes:=setB (ah Es ns nx).boxes (aa n) (e.B.expunge us) },.v (b0 (e.B.left us))):=by
 rw [step,bw he]
theorem oM {n g:Str}{us:List Int}{mv:Bool}{e d:Ent} (he:aD Es (aa n)=some e) (hd:aD Es (aa g)=some d) :
  step (ah Es ns nx) (.copy mv n us g)=if us.all (fun u=>(b7 e.B.letters u).isSome) then
    some ({ ah Es ns nx with boxes:=mvIn (ah Es ns nx).boxes (aa n) (aa g) e.B d.B (e.B.picked us) mv },
     .v (.tup [.int d.B.validity,b0 ((e.B.picked us).map (·.uid)),b0 ((aB d.B.next (e.B.picked us)).map (·.2))]))
   else none:=by
 rw [step,bw he,bw hd]
theorem ej {n:Str} (hok:aM (aa n)=true):step (ah Es ns nx) (.subscribe n) =
  if ns.any (· == aa n) then some (ah Es ns nx,.v (.bool false)) else some ({ ah Es ns nx with names:=bf (ns++[aa n]) },.v (.bool true)):=by
 rw [step,if_pos hok];rfl
theorem da {n:Str}:step (ah Es ns nx) (.unsubscribe n)=if ns.any (· == aa n) then some ({ ah Es ns nx with names:=ns.filter fun m=>m != aa n },.v (.bool true)) else none:=rfl
theorem kZ {n:Str}{m:Int}{e:Ent} (he:aD Es (aa n)=some e):step (ah Es ns nx) (.forget n m)=some ({ ah Es ns nx with boxes:=setB (ah Es ns nx).boxes (aa n) (e.B.forget m) },.v (.int (e.B.forgot m))):=by
 rw [step,bw he]
theorem StoOk.ent (H:StoOk m (ah Es ns nx)) {e:Ent} (he:e∈Es):BxOk m e.B/\aM e.n=true/\aa e.n=e.n/\e.n.length<=400 :=
 have h:(e.n,e.B)∈(ah Es ns nx).boxes:=mem_map_of_mem (f:=fun e:Ent=>(e.n,e.B)) he
 ⟨H.box _ h,H.good _ h⟩
theorem StoOk.cnt (H:StoOk m (ah Es ns nx)):Es.length<=30:=by
 have:=H.count
 unfold ah at this
 rw [length_map] at this;exact this
theorem Rep.turned (R:Rep σ S Es ns nx) {e:Ent} (he:e∈Es) {A':BxA}{B':Bx} (hb:BoxAt σ' A' B') (ba:BoxA σ σ' e.A A') (hn:B'.name=e.B.name) {f:Str} (hf:e.n=f) :
  Out σ σ' S Es ns nx { ah Es ns nx with boxes:=setB (ah Es ns nx).boxes f B' }:=by
 subst hf
 exact ⟨S,setE Es e.n A' B',R.put he hb ba (hn.trans (R.name e he)),R.keepB he ba,setB_of.symm⟩
theorem Rep.still (R:Rep σ S Es ns nx) (R':Rep σ' S Es ns nx) (K:Kept σ σ' S Es S Es):Out σ σ' S Es ns nx (ah Es ns nx):=⟨S,Es,R',K,rfl⟩
theorem Out.le {σ₁:AState}{s':Sto} (o:Out σ σ₁ S Es ns nx s') (l:Le σ₁ σ'):Out σ σ' S Es ns nx s':=by
 obtain ⟨S',Es',R,K,e⟩:=o
 exact ⟨S',Es',R.le l,K.le l,e⟩
theorem Out.after {σ₁:AState}{S₁:StA}{E₁:List Ent}{n₁:List Str}{x₁:Int}{s':Sto} (K:Kept σ σ₁ S Es S₁ E₁) (o:Out σ₁ σ' S₁ E₁ n₁ x₁ s'):Out σ σ' S Es ns nx s':=by
 obtain ⟨S',Es',R,K',e⟩:=o
 exact ⟨S',Es',R,K.trans K',e⟩
theorem cP:∀ (Ls:List Ltr) (G:Bx),(G.addAll Ls).name=G.name/\(G.addAll Ls).gone=G.gone/\(G.addAll Ls).validity=G.validity/\(G.addAll Ls).floor=G.floor/\(G.addAll Ls).top=G.top+Ls.length
 | [],G=>by simp [Bx.addAll]
 | L::Ls,G=>by
  have:=cP Ls (G.add L.oct L.flags L.instant)
  show ((G.add L.oct L.flags L.instant).addAll Ls).name=_/\((G.add L.oct L.flags L.instant).addAll Ls).gone=_/\((G.add L.oct L.flags L.instant).addAll Ls).validity=_/\((G.add L.oct L.flags L.instant).addAll Ls).floor=_/\((G.add L.oct L.flags L.instant).addAll Ls).top=_
  refine ⟨this.1,this.2.1,this.2.2.1,this.2.2.2.1,this.2.2.2.2.trans ?_⟩
  simp only [Bx.add,length_cons];push_cast;walk_at "o"
end
section
variable {c:Cx}{ρ ρ' ρ₂:List NV}{σ σ₁ τ:AState}{Q:AVal->AState->Prop}{X:AExc->AState->Prop}{S:StA}{Es:List Ent}{ns:List Str}{nx:Int}
theorem g6 {K:Type} [DecidableEq K] {es:List (K × AVal)}{k:K}{v:AVal} (h:k∉es.map (·.1)):sto es k v=es++[(k,v)]:=by
 unfold sto
 rw [if_neg]
 intro z
 rw [any_eq_true] at z
 obtain ⟨e⟩|⟨he,q⟩:=z
 have q:e.1=k:=by simpa using q
 exact h (by rw [<- q];exact mem_map_of_mem he)
theorem gi {Es:List Ent}:(entD Es).map (·.1)=Es.map (·.n):=by unfold entD;rw [map_map];rfl
theorem jg {n:Str}{v:Int}{m:Nat} (x:Lib c) (cm:c.calm=true) (lv:9<=c.lv) (R:Rep σ S Es ns nx) (H:StoOk m (ah Es ns nx)) (hz:n.length<=900)
  (k:∀ s' r σ' a,step (ah Es ns nx) (.create n v)=some (s',r)->Out σ σ' S Es ns nx s'->ResAt σ' a r->Q a σ') (kx:step (ah Es ns nx) (.create n v)=none->Fault X σ):GoV VR c ρ [.ref S.x,.str n,.int v] (fun vs=>call (.ref 422) vs) σ Q X:=by
 have hO:=R.obj
 refine ai f422 x s!"o" s!"r" rfl s!"r" fun L₀=>?_
 ext
 refine bS s!"lib" cm s!"lv" hz (fun hok=>?_) (fun hno w a fr=>kx (by simp [step,hno]) w a fr)
 refine ac s!"r" ?_
 ext
 refine d3 s!"lib" cm s!"lv" R (fun hf=>?_) (fun ⟨e,he⟩ w a fr=>kx (by simp [step,bw he]) w a fr)
 ext
 refine c8 s!"lib" cm s!"lv" hO (fun h1 h2=>?_) (fun h w a fr=>kx (by rw [step,if_neg];simp only [Bool.and_eq_true,decide_eq_true_eq];exact fun z=>h z.2) w a fr)
 ext
 refine ec_Box s!"lib" s!"lv" s!"look" ?_
 ext
 refine ⟨_,_,rfl,fun σ₁ A l₁ hB hx hd hl hg=>?_⟩
 have hO₁:=hO.le l₁
 have R₁:=R.le l₁
 have hnk:=bW hf
 ext
 have ⟨R₂,K₂⟩:=R.add l₁ hB hd hl hg rfl hnk
 have e:sto (entD Es) (aa n) (.ref A.x)=entD (Es++[⟨aa n,A,⟨aa n,v,1,1,0,[],[]⟩⟩]):=by
  rw [g6 (by rw [gi];exact hnk)]
  unfold entD;rw [map_append];rfl
 refine fY R₁.dict (sz (by have:=H.cnt;unfold entD;rw [length_map];walk_at "o")) ?_
 rw [e]
 have hO₂:=R₂.obj
 ext
 have ⟨R₃,K₃⟩:=R₂.setN (v+1)
 refine ⟨S,_,_,rfl,rfl,hO₂,?_⟩
 ext
 refine k _ (.v _) _ _ (lw hok hf h1 h2) ⟨S,_,R₃,K₂.trans K₃,?_⟩ rfl
 show (ah Es ns nx).boxes++_=_
 rw [map_append];rfl
theorem jd {n:Str}{m:Nat} (x:Lib c) (cm:c.calm=true) (lv:6<=c.lv) (R:Rep σ S Es ns nx) (H:StoOk m (ah Es ns nx)) (hz:n.length<=900)
  (k:∀ s' r σ' a,step (ah Es ns nx) (.delete n)=some (s',r)->Out σ σ' S Es ns nx s'->ResAt σ' a r->Q a σ') (kx:step (ah Es ns nx) (.delete n)=none->Fault X σ):GoV VR c ρ [.ref S.x,.str n] (fun vs=>call (.ref 429) vs) σ Q X:=by
 have hO:=R.obj
 refine ai f429 x s!"o" s!"r" rfl s!"r" fun L₀=>?_
 ext
 refine dw s!"lib" cm s!"lv" R hz (fun e he=>?_) (fun hn w a fr=>kx (by simp [step,ce hn]) w a fr)
 obtain ⟨hm',hn'⟩:=aO he
 have hB:=R.box e hm'
 ext
 rw [R.name e hm',hn']
 refine aj (fun h=>?_) (fun h=>?_)
 ·have h:aa n = "INBOX" := by simpa using h
  ext
  exact fun fr=>kx (by rw [gv he,if_pos h]) _ _ fr
 ·have h:¬ aa n = "INBOX" := by simpa using h
  ext
  refine ⟨jw R.dict,?_⟩
  ext
  rw [R.name e hm',hn']
  refine oD R.dict (a:=.ref e.A.x) (by rw [<- hn'];exact R.at hm') (sz (by have:=H.cnt;unfold entD;rw [length_map];walk_at "o")) ?_
  rw [jU]
  have ⟨R₂,K₂⟩:=R.del (aa n)
  have hB₂:BoxAt (σ.set S.b (.dictS (entD (delE Es (aa n))))) e.A e.B:=by
   refine hB.fr (F:=[S.b]) (Fr.refl.set (.head _)) (fun a ha=>by rw [ZS ha,R.dict];exact .dictS) fun a ha z=>?_
   rw [ZS z] at ha;exact (R.offX hm').2.2 ha
  ext
  exact k _ (.v _) _ _ (by rw [gv he,if_neg h]) ⟨S,_,R₂,K₂,delB_of.symm⟩ rfl
theorem gm {n:Str}{fs:List Str}{t:Int}{b:Array UInt8}{kk:Tok}{m:Nat} (x:Lib c) (cm:c.calm=true) (lv:10<=c.lv) (R:Rep σ S Es ns nx) (H:StoOk m (ah Es ns nx)) (hm:m<=60) (hz:n.length<=900) (hf:∀ t∈fs,t.length<=1000) (hl:fs.length < 32)
  (k:∀ s' r σ' a,step (ah Es ns nx) (.append n fs t b kk)=some (s',r)->Out σ σ' S Es ns nx s'->ResAt σ' a r->Q a σ') (kx:step (ah Es ns nx) (.append n fs t b kk)=none->Fault X σ):GoV VR c ρ [.ref S.x,.str n,.tup (fs.map .str),.int t,.bytes b kk] (fun vs=>call (.ref 455) vs) σ Q X:=by
 have hO:=R.obj
 refine ai f455 x s!"o" s!"r" rfl s!"r" fun L₀=>?_
 ext
 refine dw s!"lib" cm s!"lv" R hz (fun e he=>?_) (fun hn w a fr=>kx (by simp [step,ce hn]) w a fr)
 refine ac s!"r" ?_
 obtain ⟨hm',hn'⟩:=aO he
 have hB:=R.box e hm'
 have ok:=(H.ent hm').1
 ext
 refine fB s!"lib" cm s!"lv" hB (by have:=ok.top;walk_at "o") (by have:=ok.next;walk_at "o") ?_
 ext
 refine eQ s!"lib" cm s!"lv" hB (by have:=ok.len;walk_at "o") hf s!"o" (fun ms σ₁ y hms hB₁ f₁ hy=>?_) (fun hno fr=>kx (by simp [step,bw he,hno]) _ _ fr)
 refine ac s!"r" ?_
 ext
 exact k _ (.v _) _ _ (l4 he hms) (R.turned hm' hB₁ (.of_fr f₁) rfl hn') rfl
theorem hZ {n:Str}{u:Int}{fs:List Str}{m:Nat} (x:Lib c) (cm:c.calm=true) (lv:10<=c.lv) (R:Rep σ S Es ns nx) (H:StoOk m (ah Es ns nx)) (hm:m<=60) (hz:n.length<=900) (hf:∀ t∈fs,t.length<=1000) (hl:fs.length < 32)
  (k:∀ s' r σ' a,step (ah Es ns nx) (.flags n u fs)=some (s',r)->Out σ σ' S Es ns nx s'->ResAt σ' a r->Q a σ') (kx:step (ah Es ns nx) (.flags n u fs)=none->Fault X σ):GoV VR c ρ [.ref S.x,.str n,.int u,.tup (fs.map .str)] (fun vs=>call (.ref 462) vs) σ Q X:=by
 have hO:=R.obj
 refine ai f462 x s!"o" s!"r" rfl s!"r" fun L₀=>?_
 ext
 refine dw s!"lib" cm s!"lv" R hz (fun e he=>?_) (fun hn w a fr=>kx (by simp [step,ce hn]) w a fr)
 refine ac s!"r" ?_
 obtain ⟨hm',hn'⟩:=aO he
 have hB:=R.box e hm'
 have ok:=(H.ent hm').1
 ext
 refine bi s!"lib" cm s!"lv" hB (by have:=ok.top;walk_at "o") ?_
 ext
 refine eN s!"lib" cm s!"lv" hB (by have:=ok.len;walk_at "o") ok.asc hf s!"o" (fun ms σ₁ hms hu hB₁ f₁=>?_) (fun hno w a fr=>kx ?_ _ _ fr)
 ·have hs:(b7 e.B.letters u).isSome=true:=by
   obtain ⟨L⟩|⟨hL,e1⟩:=hu
   unfold b7;rw [List.find?_isSome];exact ⟨L,hL,by simpa using e1⟩
  exact k _ (.v _) _ _ (by rw [iP he hms,if_pos hs]) (R.turned hm' hB₁ (.of_fr f₁) (jW ..) hn') rfl
 ·rcases hno with hno | hno
  ·simp [step,bw he,hno]
  ·have hs:b7 e.B.letters u=none:=(fE hno).2
   cases hq:ae fs with
   | none=>simp [step,bw he,hq]
   | some ms=>rw [iP he hq,hs];rfl
theorem eW {n:Str}{us:List Int}{m:Nat} (x:Lib c) (cm:c.calm=true) (lv:6<=c.lv) (R:Rep σ S Es ns nx) (H:StoOk m (ah Es ns nx)) (hm:m<=60) (hz:n.length<=900) (hl:us.length<=60)
  (k:∀ s' r σ' a,step (ah Es ns nx) (.expunge n us)=some (s',r)->Out σ σ' S Es ns nx s'->ResAt σ' a r->Q a σ') (kx:step (ah Es ns nx) (.expunge n us)=none->Fault X σ):GoV VR c ρ [.ref S.x,.str n,.tup (us.map .int)] (fun vs=>call (.ref 476) vs) σ Q X:=by
 have hO:=R.obj
 refine ai f476 x s!"o" s!"r" rfl s!"r" fun L₀=>?_
 ext
 refine dw s!"lib" cm s!"lv" R hz (fun e he=>?_) (fun hn w a fr=>kx (by simp [step,ce hn]) w a fr)
 refine ac s!"r" ?_
 obtain ⟨hm',hn'⟩:=aO he
 have hB:=R.box e hm'
 have ok:=(H.ent hm').1
 ext
 refine bi s!"lib" cm s!"lv" hB (by have:=ok.top;walk_at "o") ?_
 ext
 refine iH s!"lib" cm s!"lv" hB (.inl rfl) (by have:=ok.len;walk_at "o") s!"o" (by have:=ok.gone;walk_at "o") fun σ₁ D A' hD hL hB₁ hA _ _=>?_
 have hll:(e.B.left us).length<=e.B.letters.length:=by
  unfold Bx.left
  exact Zt (length_filter_le _ _) (by rw [length_map];exact Nat.le_refl _)
 ext
 refine aJ hL (sz (by rw [length_map];have:=ok.len;walk_at "o")) ?_
 exact k _ (.v _) _ _ (kc he) (R.turned hm' hB₁ hA (cr ..) hn') rfl
theorem fL {n:Str}{m:Nat} (x:Lib c) (cm:c.calm=true) (lv:9<=c.lv) (R:Rep σ S Es ns nx) (H:StoOk m (ah Es ns nx)) (hz:n.length<=900)
  (k:∀ s' r σ' a,step (ah Es ns nx) (.subscribe n)=some (s',r)->Out σ σ' S Es ns nx s'->ResAt σ' a r->Q a σ') (kx:step (ah Es ns nx) (.subscribe n)=none->Fault X σ):GoV VR c ρ [.ref S.x,.str n] (fun vs=>call (.ref 488) vs) σ Q X:=by
 have hO:=R.obj
 have hs:=R.subs
 refine ai f488 x s!"o" s!"r" rfl s!"r" fun L₀=>?_
 ext
 refine bS s!"lib" cm s!"lv" hz (fun hok=>?_) (fun hno w a fr=>kx (by simp [step,hno]) w a fr)
 refine ac s!"r" ?_
 ext
 refine aj (fun h=>?_) (fun h=>?_)
 ·ext
  exact k _ (.v _) _ _ (by rw [ej hok,if_pos h]) (R.still R .refl) rfl
 ·ext
  intro D₁ hD₁
  have l₁:Le σ (σ.set D₁ (.list [.str (aa n)])):=Zl hD₁
  refine nV (l₁ _ _ hs) (Zs ..) (sz (by have:=H.names;have:ns.length<=30:=this;simp;walk_at "o")) fun D₂ hD₂=>?_
  ext
  have l₂:=l₁.trans (Zl (o:=.list (ns.map .str++[.str (aa n)])) hD₂)
  refine gT (ns:=ns++[aa n]) (by rw [Zs,map_append];rfl) (by have:=H.names;have:ns.length<=30:=this;simp;walk_at "o") fun D hD=>?_
  have l:=l₂.trans (Zl (o:=.list ((bf (ns++[aa n])).map .str)) hD)
  have R₁:=R.le l
  have hO₁:=R₁.obj
  ext
  refine ⟨S,_,D,rfl,rfl,hO₁,?_⟩
  have hDn:σ D=none:=aS l₂ hD
  have R₂:=R₁.setS (D:=D) (ms:=bf (ns++[aa n])) (Zs ..) (fun e he z=>R.off_foot hDn (cN he _ z))
  ext
  refine k _ (.v _) _ _ (by rw [ej hok,if_neg (by rw [h];decide)]) ⟨{ S with s:=D },Es,R₂,R.keepS l hDn,rfl⟩ rfl
theorem eJ {n:Str}{m:Nat} (x:Lib c) (cm:c.calm=true) (lv:5<=c.lv) (R:Rep σ S Es ns nx) (H:StoOk m (ah Es ns nx)) (hz:n.length<=900)
  (k:∀ s' r σ' a,step (ah Es ns nx) (.unsubscribe n)=some (s',r)->Out σ σ' S Es ns nx s'->ResAt σ' a r->Q a σ') (kx:step (ah Es ns nx) (.unsubscribe n)=none->Fault X σ):GoV VR c ρ [.ref S.x,.str n] (fun vs=>call (.ref 493) vs) σ Q X:=by
 have hO:=R.obj
 have hs:=R.subs
 refine ai f493 x s!"o" s!"r" rfl s!"r" fun L₀=>?_
 ext
 refine cE s!"lib" cm s!"lv" s!"o" ?_
 refine ac s!"r" ?_
 ext
 refine aj (fun h=>?_) (fun h=>?_)
 ·have h:ns.any (· == aa n)=false:=by simpa using h
  ext
  exact fun fr=>kx (by rw [da,if_neg (by rw [h];decide)]) _ _ fr
 ·have h:ns.any (· == aa n)=true:=by simpa using h
  ext
  refine ev_compP Str rfl s!"cns" s!"cok" ?_
  ext
  refine ⟨ns,.str,fun m=>m != aa n,.str,fun σ'=>Le σ σ',_,aG hs,fun _ _ h l=>h.trans l,sz (by have:=H.names;have:ns.length<=30:=this;walk_at "o"),Le.refl _,fun σ' l=>l _ _ hs,fun cl C p hp=>?_,fun σ₃ D l₃ hD=>?_⟩
  ·intro σ₄ l₄
   refine aT (ac s!"r" ?_) ⟨_,.tail _ (.head _),rfl,rfl⟩
   refine bN ?_
   ext
   refine ⟨rfl,?_⟩
   refine aj (fun _=>?_) (fun _=>Le.refl _)
   ext
   exact ⟨rfl,Le.refl _⟩
  ·have l:=l₃.trans (Zl (o:=.list ((ns.filter fun m=>m != aa n).map .str)) hD)
   have R₁:=R.le l
   have hO₁:=R₁.obj
   ext
   refine ⟨S,_,D,rfl,rfl,hO₁,?_⟩
   have hDn:σ D=none:=aS l₃ hD
   have R₂:=R₁.setS (D:=D) (ms:=ns.filter fun m=>m != aa n) (Zs ..) (fun e he z=>R.off_foot hDn (cN he _ z))
   ext
   refine k _ (.v _) _ _ (by rw [da,if_pos h]) ⟨{ S with s:=D },Es,R₂,R.keepS l hDn,rfl⟩ rfl
end
section
variable {c:Cx}{ρ ρ' ρ₂:List NV}{σ σ₁ τ:AState}{Q:AVal->AState->Prop}{X:AExc->AState->Prop}{S:StA}{Es:List Ent}{ns:List Str}{nx:Int}
theorem lP (B:Bx) (un:Option Int) (way:Str) (fs:List Str) (us:List Int):(B.storeF un way fs us).1.name=B.name:=by
 unfold Bx.storeF
 generalize B.picked us=Ls
 have key:∀ (Ls:List Ltr) (st:Bx × List Int),(Ls.foldl (bh un way fs) st).1.name=st.1.name:=by
  intro Ls
  induction Ls with
  | nil=>intro st;rfl
  | cons L Ls ih =>
   intro st
   rw [foldl_cons,ih]
   unfold bh
   split
   ·rfl
   ·exact jW ..
 exact key Ls _
theorem cz (B:Bx) (us:List Int):(B.picked us).length<=us.length:=by
 unfold Bx.picked
 refine Zt (List.length_filterMap_le _ _) ?_
 rw [(aZ _).length_eq]
 have:=d8 us []
 simpa using this
theorem c6 (B:Bx) (us:List Int):∀ L∈B.picked us,L∈B.letters:=fun L hL=>by
 obtain ⟨u⟩|⟨_,h⟩:=(List.mem_filterMap.mp hL)
 exact mem_of_find?_eq_some h
theorem jD {Ls:List Ltr}{u:Int}{L:Ltr} (h:b7 Ls u=some L):L.uid=u:=by simpa using find?_some h
theorem findU_all {Ls:List Ltr}{us:List Int}:us.all (fun u=>(b7 Ls u).isSome)=true↔∀ u∈us,∃ L∈Ls,L.uid=u:=by
 rw [all_eq_true]
 constructor
 ·intro h u hu
  obtain ⟨L,hL⟩:=Option.isSome_iff_exists.mp (h u hu)
  exact ⟨L,mem_of_find?_eq_some hL,jD hL⟩
 ·intro h u hu
  obtain ⟨L⟩|⟨hL,e⟩:=(h u hu)
  unfold b7;rw [List.find?_isSome];exact ⟨L,hL,by simpa using e⟩
theorem lq {B:Bx}{us:List Int} (h:∀ u∈us,∃ L∈B.letters,L.uid=u):(B.picked us).map (·.uid)=bD (once [] us):=by
 unfold Bx.picked
 have key:∀ l:List Int,(∀ u∈l,u∈us)->(l.filterMap (b7 B.letters)).map (·.uid)=l:=by
  intro l
  induction l with
  | nil=>intro _;rfl
  | cons u l ih =>
   intro hl
   have hs:=findU_all.mpr h
   obtain ⟨L,hL⟩:=Option.isSome_iff_exists.mp (List.all_eq_true.mp hs u (hl u (.head _)))
   rw [filterMap_cons,hL,map_cons,ih fun v hv=>hl v (.tail _ hv),jD hL]
 exact key _ fun u hu=>((dO us [] u).mp ((aZ _).subset hu)).resolve_left (by simp)
theorem gb {n way:Str}{us:List Int}{fs:List Str}{un:Int}{m:Nat} (x:Lib c) (cm:c.calm=true) (lv:12<=c.lv) (R:Rep σ S Es ns nx) (H:StoOk m (ah Es ns nx)) (hm:m<=60) (hz:n.length<=900) (hf:∀ t∈fs,t.length<=1000) (hl:fs.length < 32)
  (hus:us.length<=60) (hw:way = "+" \/ way = "-" \/ way = "=")
  (k:∀ s' r σ' a,step (ah Es ns nx) (.store n us way fs un)=some (s',r)->Out σ σ' S Es ns nx s'->ResAt σ' a r->Q a σ') (kx:step (ah Es ns nx) (.store n us way fs un)=none->Fault X σ) :
  GoV VR c ρ [.ref S.x,.str n,.tup (us.map .int),.str way,.tup (fs.map .str),.int un] (fun vs=>call (.ref 469) vs) σ Q X:=by
 have hO:=R.obj
 refine ai f469 x s!"o" s!"r" rfl s!"r" fun L₀=>?_
 ext
 refine dw s!"lib" cm s!"lv" R hz (fun e he=>?_) (fun hn w a fr=>kx (by simp [step,ce hn]) w a fr)
 refine ac s!"r" ?_
 obtain ⟨hm',hn'⟩:=aO he
 have hB:=R.box e hm'
 have ok:=(H.ent hm').1
 ext
 refine dv (by simp;walk_at "o") ?_
 ext
 refine bi s!"lib" cm s!"lv" hB (by have:=ok.top;simp;walk_at "o") ?_
 ext
 refine dU (xs:=["+", "-", "="]) ?_
 have hw2:(["+", "-", "="]:List Str).any (· == way)=true:=by
  rcases hw with rfl | rfl | rfl<;>decide +kernel
 rw [hw2]
 ext
 refine ev_call s!"look" (g238 s!"lib") (f238 s!"lib") ?_
 ext
 refine bQ s!"lib" cm s!"lv" hf s!"o" (fun ms hms=>?_) (fun hno fr=>kx (by simp [step,bw he,hno]) _ _ fr)
 ext
 have hcan:Canon ms:=⟨cF hms,ch hf hms,Nat.lt_of_le_of_lt (cR hms) hl⟩
 have go:∀ o:Option Int,o=(if un < 0 then none else some un)->GoV VR (c.call fd469 469 L₀) [⟨"store",.local,some (.ref S.x)⟩,⟨"name",.local,some (.str n)⟩,⟨"uids",.local,some (.tup (us.map .int))⟩,⟨"way",.local,some (.str way)⟩,⟨"flags",.local,some (.tup (fs.map .str))⟩,⟨"unless",.local,some (.int un)⟩,⟨"box",.local,some (.ref e.A.x)⟩,⟨"need_modseqs",.globalImplicit,none⟩,⟨"len",.globalImplicit,none⟩,⟨"StoreFault",.globalImplicit,none⟩,⟨"store_flags",.globalImplicit,none⟩,⟨"flag_tuple",.globalImplicit,none⟩] [.ref e.A.x,.tup (us.map .int),.str way,.tup (ms.map .str),optI o] (fun vs=>call (.ref 238) vs) σ Q (fun x σ'=>X x σ'):=by
  intro o ho
  refine iz s!"lib" cm s!"lv" hB (by have:=ok.len;walk_at "o") ok.asc s!"o" ok.canon hcan hw fun σ₁ C R' hC hR hB₁ f₁ hCf hRf=>?_
  rw [ho] at hC hR hB₁
  exact k _ (.two _ _) _ _ (mK he hms) (R.turned hm' hB₁ (.of_fr f₁) (lP ..) hn') ⟨C,R',rfl,hC,by rw [hR,map_map];rfl⟩
 refine aj (fun h=>?_) (fun h=>?_)
 ·have h:un < 0:=of_decide_eq_true h
  ext
  exact go none (by rw [if_pos h])
 ·have h:¬ un < 0:=of_decide_eq_false h
  ext
  exact go (some un) (by rw [if_neg h])
end
section
variable {c:Cx}{ρ ρ' ρ₂:List NV}{σ σ₁ τ:AState}{Q:AVal->AState->Prop}{X:AExc->AState->Prop}{S:StA}{Es:List Ent}{ns:List Str}{nx:Int}
theorem qA {n:Str}{A:BxA}{B:Bx}{e:Ent} (he:e∈Es) (h:e.n=n):(⟨n,A,B⟩:Ent)∈setE Es n A B:=by
 unfold setE
 have:=mem_map_of_mem (f:=fun e:Ent=>if e.n=n then (⟨n,A,B⟩:Ent) else e) he
 rw [if_pos h] at this;exact this
theorem iE {n:Str}{A:BxA}{B:Bx}{e:Ent} (he:e∈Es) (h:e.n≠n):e∈setE Es n A B:=by
 unfold setE
 have:=mem_map_of_mem (f:=fun e:Ent=>if e.n=n then (⟨n,A,B⟩:Ent) else e) he
 rw [if_neg h] at this;exact this
theorem e8 {n:Str}{A:BxA}{B:Bx}:(ah (setE Es n A B) ns nx).boxes=setB (ah Es ns nx).boxes n B:=setB_of
theorem dF {n g:Str}{us:List Int}{mv:Bool}{m:Nat} (x:Lib c) (cm:c.calm=true) (lv:14<=c.lv) (R:Rep σ S Es ns nx) (H:StoOk m (ah Es ns nx)) (hm:m<=60) (hz:n.length<=900) (hz2:g.length<=900) (hus:us.length<=60)
  (k:∀ s' r σ' a,step (ah Es ns nx) (.copy mv n us g)=some (s',r)->Out σ σ' S Es ns nx s'->ResAt σ' a r->Q a σ') (kx:step (ah Es ns nx) (.copy mv n us g)=none->Fault X σ) :
  GoV VR c ρ [.ref S.x,.str n,.tup (us.map .int),.str g,.bool mv] (fun vs=>call (.ref 481) vs) σ Q X:=by
 refine GoV.tidyX ?_
 have hO:=R.obj
 refine ai f481 x s!"o" s!"r" rfl s!"r" fun L₀=>?_
 ext
 refine dw s!"lib" cm s!"lv" R hz (fun e he=>?_) (fun hn w a fr=>⟨σ,Le.refl _,kx (by simp [step,ce hn]) w a fr⟩)
 refine ac s!"r" ?_
 obtain ⟨hm',hn'⟩:=aO he
 ext
 refine dw s!"lib" cm s!"lv" R hz2 (fun d hd=>?_) (fun hn w a fr=>⟨σ,Le.refl _,kx (by simp [step,bw he,ce hn]) w a fr⟩)
 refine ac s!"r" ?_
 obtain ⟨hd',hdn⟩:=aO hd
 have hst:=oM (ns:=ns) (nx:=nx) (us:=us) (mv:=mv) he hd
 have hB:=R.box e hm'
 have ok:=(H.ent hm').1
 have okd:=(H.ent hd').1
 have hol:=d8 us []
 have hsl:(bD (once [] us)).length<=us.length:=by rw [(aZ _).length_eq];simpa using hol
 ext
 refine j0 s!"lib" cm s!"lv" hB (by have:=ok.len;walk_at "o") ok.asc s!"o" (fun σ₁ D l₁ h₁ hall=>?_) (fun ⟨u,hu,hn⟩ w a fr=>⟨σ,Le.refl _,kx (by
  rw [hst,if_neg]
  rw [findU_all]
  intro z
  obtain ⟨L⟩|⟨hL,e⟩:=(z u hu)
  exact hn L hL e) w a fr⟩)
 rw [if_pos (findU_all.mpr hall)] at hst
 refine ac s!"r" ?_
 have R₁:=R.le l₁
 have hB₁:=R₁.box e hm'
 have hG₁:=R₁.box d hd'
 ext
 refine bi s!"lib" cm s!"lv" hB₁ (by have:=ok.top;walk_at "o") ?_
 ext
 refine bJ h₁ (by simp;walk_at "o") ?_
 ext
 refine fB s!"lib" cm s!"lv" hG₁ (by have:=okd.top;simp;walk_at "o") (by have:=okd.next;simp;walk_at "o") ?_
 have hLs:(e.B.picked us).map (·.uid)=bD (once [] us):=lq hall
 have hLs2:(e.B.picked us).map (·.uid)=bD (bD (once [] us)):=by rw [hLs,gA (iw _)]
 have hpl:(e.B.picked us).length<=60:=Zt (cz _ _) hus
 have hin:=c6 e.B us
 have hcan:∀ L∈e.B.picked us,Canon L.flags:=fun L hL=>ok.canon L (hin L hL)
 generalize hLd:e.B.picked us=Ls at hst hLs hLs2 hpl hin hcan
 refine af ?_
 refine bq rfl ?_
 refine Go.mono (Q:=fun a σ₂=>∃ P Ad G',a=.ref P/\σ₂ P=some (.list ((aB d.B.next Ls).map bE))/\BoxAt σ₂ Ad G'/\Ad.x=d.A.x/\G'.validity=d.B.validity /\
  Out σ σ₂ S Es ns nx { ah Es ns nx with boxes:=mvIn (ah Es ns nx).boxes (aa n) (aa g) e.B d.B Ls mv }) ?_ (fun a σ₂ z=>?_) (fun _ _ z=>z)
 ·ext
  have ⟨rn,rg,rv,rf,rt⟩:=cP Ls d.B
  have ⟨an,al⟩:=dP Ls d.B
  refine aj (fun h=>?_) (fun h=>?_)
  ·ext
   by_cases q:aa n=aa g
   ·have hed:e=d:=gt R.keys hm' hd' (by rw [hn',hdn,q])
    subst hed
    refine ci (B1:=e.B.addAll Ls) (Ls:=Ls) s!"lib" cm s!"lv" hB₁ hB₁ h₁ (by have:=ok.len;walk_at "o") ok.asc s!"o" hLs2 hin hcan (by have:=ok.len;walk_at "o")
     (fun σ' hG' f'=>hG') (by have:=ok.len;walk_at "o") (by rw [rg];have:=ok.gone;walk_at "o") fun σ₂ σ₃ P A' f₂ hG₂ hB₃ hA₃ hP=>?_
    have R₂:=R₁.put hm' hG₂ (.of_fr f₂) (rn.trans (R.name e hm'))
    have K₂:=R₁.keepB (B':=e.B.addAll Ls) hm' (.of_fr f₂)
    have o:=R₂.turned (qA hm' rfl) hB₃ hA₃ (cr ..) (f:=aa n) hn'
    refine (ei3 P A' _ (ai6 rfl hP hB₃ hA₃.x ?_ ?_))
    ·show ((e.B.addAll Ls).expunge _).validity=_
     unfold Bx.expunge;split
     ·exact rv
     ·exact rv
    ·have o':=Out.after (ns:=ns) (nx:=nx) (n₁:=ns) (x₁:=nx) (Kept.of_le l₁) (Out.after (ns:=ns) (nx:=nx) K₂ o)
     rw [e8] at o'
     unfold mvIn
     rw [h,if_pos rfl,if_pos q,<- q,<- hn']
     rw [<- hn'] at o'
     exact o'
   ·have hne:e.n≠d.n:=by rw [hn',hdn];exact q
    refine ci (B1:=e.B) (Ls:=Ls) s!"lib" cm s!"lv" hB₁ hG₁ h₁ (by have:=ok.len;walk_at "o") ok.asc s!"o" hLs2 hin hcan (by have:=okd.len;walk_at "o")
     (fun σ' hG' f'=>hB₁.fr f' hG₁.noL (R₁.feet_apart hd' hm' (Ne.symm hne))) (by have:=ok.len;walk_at "o") (by have:=ok.gone;walk_at "o") fun σ₂ σ₃ P A' f₂ hG₂ hB₃ hA₃ hP=>?_
    have R₂:=R₁.put hd' hG₂ (.of_fr f₂) (rn.trans (R.name d hd'))
    have K₂:=R₁.keepB (B':=d.B.addAll Ls) hd' (.of_fr f₂)
    have he₂:e∈setE Es d.n d.A (d.B.addAll Ls):=iE hm' hne
    have o:=R₂.turned he₂ hB₃ hA₃ (cr ..) (f:=aa n) hn'
    refine (ei3 P d.A _ (ai6 rfl hP (hG₂.fr hA₃.fr (R₂.box e he₂).noL (R₁.feet_apart hm' hd' hne)) rfl rv ?_))
    have o':=Out.after (ns:=ns) (nx:=nx) (n₁:=ns) (x₁:=nx) (Kept.of_le l₁) (Out.after (ns:=ns) (nx:=nx) K₂ o)
    rw [e8] at o'
    unfold mvIn
    rw [h,if_pos rfl,if_neg q,<- hdn]
    exact o'
  ·ext
   refine dG (Ls:=Ls) s!"lib" cm s!"lv" hB₁ hG₁ h₁ (by have:=ok.len;walk_at "o") ok.asc s!"o" hLs2 hin hcan (by have:=okd.len;walk_at "o") fun σ₂ P _ hP hG₂ f₂=>?_
   refine (ei3 P d.A _ (ai6 rfl hP hG₂ rfl rv ?_))
   have o:=R₁.turned hd' hG₂ (.of_fr f₂) rn (f:=aa g) hdn
   have o':=Out.after (ns:=ns) (nx:=nx) (Kept.of_le l₁) o
   unfold mvIn
   rw [h,if_neg (by decide)]
   exact o'
 ·obtain ⟨P,Ad,G'⟩|⟨rfl,hP,hG₂,hAx,hGv,o⟩:=z
  refine ac s!"r" ?_
  have hpl2:(aB d.B.next Ls).length<=60:=by rw [bL];exact hpl
  ext
  refine ⟨Ad,G',by rw [hAx],hG₂,?_⟩
  ext
  refine ev_compA (Int × Int) rfl s!"cns" s!"cok" s!"cp" ?_
  ext
  refine .mk (aB d.B.next Ls) bE (fun p=>.int p.1) _ (aG hP) (fun σ' l=>l _ _ hP) (sz s!"o") (fun cl C p hp σ₄ l₄=>?_) fun σ₄ D₁ l₄ hD₁ h₄=>?_
  ·ext
   exact ⟨rfl,Le.refl _⟩
  ·ext
   refine aJ h₄ (sz (by rw [length_map];walk_at "o")) ?_
   ext
   refine ev_compA (Int × Int) rfl s!"cns" s!"cok" s!"cp" ?_
   ext
   refine .mk (aB d.B.next Ls) bE (fun p=>.int p.2) _ (aG (l₄ _ _ hP)) (fun σ' l=>l _ _ (l₄ _ _ hP)) (sz s!"o") (fun cl C p hp σ₆ l₆=>?_) fun σ₆ D₂ l₆ hD₂ h₆=>?_
   ·ext
    exact ⟨rfl,Le.refl _⟩
   ·ext
    refine aJ h₆ (sz (by rw [length_map];walk_at "o")) ?_
    ext
    rw [hGv]
    refine Tidy.of (Le.refl _) (k _ (.v _) _ _ hst (o.le (l₄.trans l₆)) ?_)
    show AVal.tup [_,.tup _,.tup _]=AVal.tup [_,.tup _,.tup _]
    rw [<- dB d.B.next Ls,map_map,map_map]
    rfl
end
section
variable {c:Cx}{ρ ρ' ρ₂:List NV}{σ σ₁ τ:AState}{Q:AVal->AState->Prop}{X:AExc->AState->Prop}{S:StA}{Es:List Ent}{ns:List Str}{nx:Int}
theorem oK {bs:Boxes}{n:Str}{B:Bx} (h:n∉bs.map (·.1)):setB bs n B=bs:=by
 unfold setB
 conv=>rhs;rw [<- map_id bs]
 apply map_congr_left
 intro e he
 have:e.1≠n:=fun z=>h (by rw [<- z];exact mem_map_of_mem he)
 rw [if_neg this];rfl
theorem fe:(ah Es ns nx).boxes.map (·.1)=Es.map (·.n):=by unfold ah;rw [map_map];rfl
theorem gQ {h:Str}{e:Ent}{m:Nat} (x:Lib c) (cm:c.calm=true) (lv:14<=c.lv) (R:Rep σ S Es ns nx) (H:StoOk m (ah Es ns nx)) (hm:m<=60) (he:e∈Es) (hf:aD Es h=none)
  (k:∀ σ' P,nx < 4294967295->Out σ σ' S Es ns nx ⟨setB (ah Es ns nx).boxes e.n (e.B.expunge (e.B.letters.map (·.uid)))++[(h,(Bx.new h nx).addAll e.B.letters)],ns,nx+1⟩->σ' P=some (.list [d7 ("INBOX",h)])->Q (.ref P) σ')
  (kx:¬ nx < 4294967295->Fault X σ):GoV VR c ρ [.ref S.x,.ref e.A.x,.str h] (fun vs=>call (.ref 448) vs) σ Q X:=by
 have hO:=R.obj
 have hB:=R.box e he
 have ok:=(H.ent he).1
 have hnk:=bW hf
 have hne:e.n≠h:=fun z=>hnk (by rw [<- z];exact mem_map_of_mem he)
 refine ai f448 x s!"o" s!"r" rfl s!"r" fun L₀=>?_
 ext
 refine c8 s!"lib" cm s!"lv" hO (fun h1 h2=>?_) (fun hh w a fr=>kx (fun z=>hh ⟨Int.le_refl _,z⟩) w a fr)
 ext
 refine bi s!"lib" cm s!"lv" hB (by have:=ok.top;walk_at "o") ?_
 ext
 refine ec_Box s!"lib" s!"lv" s!"look" ?_
 ext
 refine ⟨_,_,rfl,fun σ₁ A l₁ hN hx hd hl hg=>?_⟩
 have hO₁:=hO.le l₁
 have R₁:=R.le l₁
 ext
 have ⟨R₂,K₂⟩:=R.add l₁ hN hd hl hg rfl hnk
 have e1:sto (entD Es) h (.ref A.x)=entD (Es++[⟨h,A,⟨h,nx,1,1,0,[],[]⟩⟩]):=by
  rw [g6 (by rw [gi];exact hnk)]
  unfold entD;rw [map_append];rfl
 refine fY R₁.dict (sz (by have:=H.cnt;unfold entD;rw [length_map];walk_at "o")) ?_
 rw [e1]
 have hO₂:=R₂.obj
 ext
 have ⟨R₃,K₃⟩:=R₂.setN (nx+1)
 refine ⟨S,_,_,rfl,rfl,hO₂,?_⟩
 have he₃:e∈Es++[⟨h,A,⟨h,nx,1,1,0,[],[]⟩⟩]:=mem_append_left _ he
 have hn₃:(⟨h,A,⟨h,nx,1,1,0,[],[]⟩⟩:Ent)∈Es++[⟨h,A,⟨h,nx,1,1,0,[],[]⟩⟩]:=mem_append_right _ (.head _)
 have K:=K₂.trans K₃
 generalize ((σ₁.set S.b (.dictS (entD (Es++[⟨h,A,⟨h,nx,1,1,0,[],[]⟩⟩])))).set S.d (.attrs storeNs (aQ S (nx+1))))=σ₃ at R₃ K ⊢
 have hB₃:=R₃.box e he₃
 ext
 refine n7 s!"lib" cm s!"lv" hB₃ (by have:=ok.len;walk_at "o") fun σ₄ D l₄ h₄=>?_
 have R₄:=R₃.le l₄
 have hB₄:=R₄.box e he₃
 have hG₄:=R₄.box _ hn₃
 have ⟨rn,rg,rv,rf,rt⟩:=cP e.B.letters ⟨h,nx,1,1,0,[],[]⟩
 ext
 have hLs:e.B.letters.map (·.uid)=bD (e.B.letters.map (·.uid)):=(gA ((asc_uids.mp ok.asc).imp fun h=>Int.le_of_lt h)).symm
 refine ci (B1:=e.B) (Ls:=e.B.letters) s!"lib" cm s!"lv" hB₄ hG₄ h₄ (by have:=ok.len;walk_at "o") ok.asc (by have:=ok.len;rw [length_map];walk_at "o") hLs (fun _ h=>h) ok.canon (by have:=ok.len;simp;walk_at "o")
  (fun σ' hG' f'=>hB₄.fr f' hG₄.noL (R₄.feet_apart hn₃ he₃ (Ne.symm hne))) (by have:=ok.len;walk_at "o") (by have:=ok.gone;walk_at "o") fun σ₅ σ₆ P A' f₅ hG₅ hB₆ hA₆ hP=>?_
 have R₅:=R₄.put hn₃ hG₅ (.of_fr f₅) rn
 have K₅:=R₄.keepB (B':=(⟨h,nx,1,1,0,[],[]⟩:Bx).addAll e.B.letters) hn₃ (.of_fr f₅)
 have he₅:=iE (n:=h) (A:=A) (B:=(⟨h,nx,1,1,0,[],[]⟩:Bx).addAll e.B.letters) he₃ hne
 have o:=R₅.turned he₅ hB₆ hA₆ (cr ..) rfl
 have o':=Out.after (ns:=ns) (nx:=nx) (n₁:=ns) (x₁:=nx+1) (K.le l₄) (Out.after (ns:=ns) (nx:=nx+1) K₅ o)
 rw [e8] at o'
 have e2:setB (setB (ah (Es++[⟨h,A,⟨h,nx,1,1,0,[],[]⟩⟩]) ns (nx+1)).boxes h ((⟨h,nx,1,1,0,[],[]⟩:Bx).addAll e.B.letters)) e.n (e.B.expunge (e.B.letters.map (·.uid))) =
   setB (ah Es ns nx).boxes e.n (e.B.expunge (e.B.letters.map (·.uid)))++[(h,(Bx.new h nx).addAll e.B.letters)]:=by
  have q1:(ah (Es++[⟨h,A,⟨h,nx,1,1,0,[],[]⟩⟩]) ns (nx+1)).boxes=(ah Es ns nx).boxes++[(h,⟨h,nx,1,1,0,[],[]⟩)]:=by
   unfold ah;rw [map_append];rfl
  rw [q1]
  have q2:setB ((ah Es ns nx).boxes++[(h,⟨h,nx,1,1,0,[],[]⟩)]) h ((⟨h,nx,1,1,0,[],[]⟩:Bx).addAll e.B.letters)=(ah Es ns nx).boxes++[(h,(⟨h,nx,1,1,0,[],[]⟩:Bx).addAll e.B.letters)]:=by
   have:=oK (bs:=(ah Es ns nx).boxes) (n:=h) (B:=(⟨h,nx,1,1,0,[],[]⟩:Bx).addAll e.B.letters) (by rw [fe];exact hnk)
   unfold setB at this ⊢
   rw [map_append,this];simp
  rw [q2]
  unfold setB
  rw [map_append]
  have q3:h≠e.n:=Ne.symm hne
  simp [q3,Bx.new]
 rw [e2] at o'
 ext
 intro D₂ hD₂
 exact k _ D₂ h2 (o'.le (Zl hD₂)) (Zs ..)
end
theorem sI {x:Str}{k:Nat} (h:k<=x.cps.toList.length):Txt.slice x none (some (k:Int))=⟨(x.cps.toList.take k).toArray⟩:=by
 have:=slice_closes_to (x:=x) (j:=(k:Int)) ⟨by walk_at "o",by walk_at "o"⟩
 have:=eq_of_beq this
 rw [this];simp
theorem pT (x:Str):x.length=x.cps.toList.length:=by simp [Str.length]
theorem kH {x:Str}{k:Nat} (h:k<=x.cps.toList.length):Txt.slice x (some (k:Int)) none=⟨(x.cps.toList.drop k).toArray⟩:=by
 have hl:=pT x
 have:=slice_from_eq (x:=x) (i:=(k:Int)) (b:=(x.length:Int)) s!"o" s!"o" rfl
 rw [this]
 congr 2
 rw [Int.toNat_natCast,List.take_of_length_le]
 rw [List.length_drop];walk_at "o"
theorem iy {a b:Str} (h:a.cps.toList=b.cps.toList):a=b:=Str.ext' h
theorem cI (a b:Str):(a++b).cps.toList=a.cps.toList++b.cps.toList:=by
 show (a.cps++b.cps).toList=_
 simp
theorem ia:("/" : Str).cps.toList=[47]:=by decide +kernel
noncomputable def okS:List Nat->Bool->Bool
 | [],st=>!st
 | d::ds,st=>if d=47 then !st && okS ds true else !jx d && (!ie d && okS ds false)
theorem dK:∀ (ds:List Nat) (i b:Nat),b<=i->cc ds i b=okS ds (decide (i=b))
 | [],i,b,_=>by
  unfold cc okS
  by_cases h:i=b
  ·simp [h]
  ·simp [h,Ne.symm h]
 | d::ds,i,b,hb=>by
  unfold cc okS
  split
  ·split
   ·rename_i h;simp [h]
   ·rename_i h
    rw [dK ds (i+1) (i+1) (Nat.le_refl _)]
    simp [h]
  ·split
   ·rename_i h;simp [h]
   ·rename_i h
    split
    ·rename_i h2;simp [h2]
    ·rename_i h2
     rw [dK ds (i+1) b s!"o"]
     have:¬ i+1=b:=by walk_at "o"
     simp [h,h2,this]
theorem nG (t:Str):aM t=okS t.cps.toList true:=by
 unfold aM;rw [dK _ _ _ (Nat.le_refl _)];rfl
theorem gX:∀ (l r:List Nat) (s:Bool),okS (l++47::r) s=(okS l s && okS r true)
 | [],r,s=>by simp [okS]
 | d::l,r,s=>by
  rw [cons_append,okS,okS,gX l r,gX l r]
  split
  ·cases s<;>simp
  ·cases jx d<;>cases ie (d:Int)<;>simp
theorem getElem?_subAt {x:Str}{i:Nat}:StrLaws.At x "/" x.length i↔x.cps.toList[i]?=some 47:=by
 unfold StrLaws.At Builtin.Str.subAt
 have hl:Str.length "/" = 1:=rfl
 rw [hl]
 have hc:("/" : Str).cps=#[47]:=by decide +kernel
 rw [hc,Array.getElem?_toList]
 constructor
 ·intro r1z
  obtain ⟨h1,h2⟩:=r1z
  have h2:=eq_of_beq h2
  have hlt:i < x.cps.size:=by have:x.length=x.cps.size:=rfl;walk_at "o"
  have:=congrArg (fun a:Array Nat=>a[0]?) h2
  simp only [Array.getElem?_extract] at this
  rw [if_pos s!"o"] at this
  simpa using this
 ·intro h
  have hlt:i < x.cps.size:=by
   rcases Nat.lt_or_ge i x.cps.size with z | z
   ·exact z
   ·rw [Array.getElem?_eq_none z] at h;cases h
  refine ⟨hlt,?_⟩
  rw [beq_iff_eq]
  apply Array.ext
  ·simp;walk_at "o"
  ·intro j h1 h2
   have:j=0:=by simpa using h2
   subst this
   rw [Array.getElem?_eq_getElem hlt] at h
   simpa using h
theorem my:∀ {l:List Nat}{i:Nat},l[i]?=some 47->(∀ k,k < i->l[k]?≠some 47)->l.takeWhile (· != 47)=l.take i/\l.dropWhile (· != 47)=l.drop i
 | [],i,h,_=>by simp at h
 | d::l,0,h,_=>by
  simp at h;subst h;simp
 | d::l,i+1,h,hn=>by
  have hd:d≠47:=fun e=>hn 0 (Nat.succ_pos _) (by simp [e])
  obtain ⟨a,b⟩:=my (l:=l) (i:=i) (by simpa using h) fun k hk=>by have:=hn (k+1) (Nat.succ_lt_succ hk);simpa using this
  have:(d != 47)=true:=by simpa using hd
  rw [takeWhile_cons,dropWhile_cons,this]
  simp [a,b]
theorem qw {l:List Nat} (h:∀ i:Nat,l[i]?≠some 47):l.takeWhile (· != 47)=l/\l.dropWhile (· != 47)=[]:=by
 have:∀ d∈l,(d != 47)=true:=fun d hd=>by
  obtain ⟨i,hi⟩:=List.mem_iff_getElem?.mp hd
  have:d≠47:=fun e=>h i (by rw [hi,e])
  simpa using this
 clear h
 induction l with
 | nil=>exact ⟨rfl,rfl⟩
 | cons d l ih =>
  obtain ⟨a,b⟩:=ih fun e he=>this e (.tail _ he)
  rw [takeWhile_cons,dropWhile_cons,if_pos (this d (.head _)),if_pos (this d (.head _)),a,b]
  exact ⟨rfl,rfl⟩
theorem b8 (x:Str):aI x=(⟨(x.cps.toList.takeWhile (· != 47)).toArray⟩,⟨(x.cps.toList.dropWhile (· != 47)).toArray⟩):=by
 unfold aI
 rcases find_whole x "/" with ⟨h,hn⟩ | ⟨i,h,ha,hn⟩
 ·rw [h,if_pos (by decide)]
  obtain ⟨a,b⟩:=qw (l:=x.cps.toList) fun i z=>hn i (getElem?_subAt.mpr z)
  rw [a,b]
  congr 1
 ·have ha:=getElem?_subAt.mp ha
  obtain ⟨a,b⟩:=my ha fun k hk z=>hn k hk (getElem?_subAt.mpr z)
  have hi:i<=x.cps.toList.length:=by
   rcases Nat.lt_or_ge i x.cps.toList.length with z | z
   ·walk_at "o"
   ·rw [getElem?_eq_none z] at ha;cases ha
  rw [h,if_neg s!"o",sI hi,kH hi,a,b]
theorem pB (l r:List Nat):(l++47::r).takeWhile (· != 47)=l.takeWhile (· != 47)/\(l++47::r).dropWhile (· != 47)=l.dropWhile (· != 47)++47::r:=by
 induction l with
 | nil=>simp
 | cons d l ih =>
  rw [cons_append,takeWhile_cons,dropWhile_cons,takeWhile_cons,dropWhile_cons]
  by_cases h:(d != 47)=true
  ·rw [if_pos h,if_pos h,if_pos h,if_pos h,ih.1,ih.2];exact ⟨rfl,rfl⟩
  ·rw [if_neg h,if_neg h,if_neg h,if_neg h];exact ⟨rfl,rfl⟩
theorem nH {g:Str} (hg:aa g=g) {y:Str}{r:List Nat} (hy:y.cps.toList=g.cps.toList++47::r):aa y=y:=by
 unfold aa at hg ⊢
 rw [b8] at hg ⊢
 obtain ⟨a,b⟩:=pB g.cps.toList r
 rw [<- hy] at a b
 dsimp only at hg ⊢
 rw [a,b]
 split
 ·rename_i h
  rw [if_pos h] at hg
  apply iy
  rw [cI,hy]
  have:=congrArg (fun s:Str=>s.cps.toList) hg
  simp only [cI] at this
  conv=>rhs;rw [<- this]
  simp
 ·rfl
theorem fh {n f:Str} (h:aU n f=true):∃ r,n.cps.toList=f.cps.toList++47::r:=by
 unfold aU Txt.startswith at h
 rw [Bool.and_eq_true] at h
 obtain ⟨h1,h2⟩:=h
 have h2:=eq_of_beq h2
 refine ⟨n.cps.toList.drop (f.cps.toList.length+1),?_⟩
 have h3:=congrArg Array.toList h2
 rw [cI,ia] at h3
 have hl:(f ++ "/").length=f.cps.toList.length+1:=by
  have:(f ++ "/").length=(f ++ "/").cps.toList.length:=by simp [Str.length]
  rw [this,cI,ia];simp
 rw [hl] at h3
 simp only [Array.toList_extract,List.extract_eq_take_drop,List.drop_zero,Nat.zero_add,Nat.sub_zero] at h3
 have h4:=List.take_append_drop (f.cps.toList.length+1) n.cps.toList
 rw [h3,append_assoc] at h4
 exact h4.symm
theorem fv (f g:Str):be f f g=g:=by
 unfold be
 have:((f.length:Nat):Int)=((f.cps.toList.length:Nat):Int):=by simp [Str.length]
 rw [this,kH (Nat.le_refl _)]
 apply iy
 rw [cI];simp
theorem eS {n f g:Str}{r:List Nat} (h:n.cps.toList=f.cps.toList++47::r):(be n f g).cps.toList=g.cps.toList++47::r:=by
 unfold be
 have:((f.length:Nat):Int)=((f.cps.toList.length:Nat):Int):=by simp [Str.length]
 rw [this,kH (by rw [h];simp),cI]
 simp [h]
theorem gC (n f g:Str):(be n f g).length<=g.length+n.length:=by
 unfold be
 rw [Str.length_append]
 have:=PyProof.Txt.length_slice_le n (some (f.length:Int)) none
 walk_at "o"
theorem fP {n f g:Str} (hn:aM n=true) (hg:aM g=true) (hg2:aa g=g) (h:n=f\/aU n f=true):aM (be n f g)=true/\aa (be n f g)=be n f g:=by
 rcases h with rfl | h
 ·rw [fv];exact ⟨hg,hg2⟩
 ·obtain ⟨r,hr⟩:=fh h
  have e:=eS (g:=g) hr
  refine ⟨?_,nH hg2 e⟩
  rw [nG] at hn hg ⊢
  rw [hr,gX,Bool.and_eq_true] at hn
  rw [e,gX,hg,hn.2];rfl
theorem dq {ks:List Str}{f h:Str}{p:Str × Str} (hp:p∈ax ks f h):p.1∈ks/\(p.1=f\/aU p.1 f=true)/\p.2=be p.1 f h:=by
 unfold ax at hp
 obtain ⟨n⟩|⟨hn,rfl⟩:=(ZM hp)
 obtain ⟨h1,h2⟩:=ZF hn
 refine ⟨(aC _).subset h1,?_,rfl⟩
 rw [Bool.or_eq_true] at h2
 exact h2.imp (fun z=>eq_of_beq z) id
theorem fz (ks:List Str) (f h:Str):(ax ks f h).length<=ks.length:=by
 unfold ax
 rw [length_map,<- (aC ks).length_eq]
 exact length_filter_le _ _
theorem jz {Es:List Ent}{n:Str} (h:n∈Es.map (·.n)):∃ e,aD Es n=some e:=by
 cases q:aD Es n with
 | none=>exact absurd h (bW q)
 | some e=>exact ⟨e,rfl⟩
theorem fy {n f h:Str} (z:n=f\/aU n f=true):∃ s,n.cps.toList=f.cps.toList++s/\(be n f h).cps.toList=h.cps.toList++s:=by
 rcases z with rfl | z
 ·exact ⟨[],by simp,by rw [fv];simp⟩
 ·obtain ⟨r,hr⟩:=fh z
  exact ⟨_,hr,eS hr⟩
theorem lm {n m f h:Str} (z:n=f\/aU n f=true) (w:m=f\/aU m f=true) (e:be n f h=be m f h):n=m:=by
 obtain ⟨s⟩|⟨h1,h2⟩:=(fy (h:=h) z)
 obtain ⟨t⟩|⟨h3,h4⟩:=(fy (h:=h) w)
 rw [e,h4] at h2
 have:=List.append_cancel_left h2
 apply iy
 rw [h1,h3,this]
theorem i3 {Es:List Ent}{f h:Str} (kd:(Es.map (·.n)).Nodup):∃ ts:List (Ent × Str),ax (Es.map (·.n)) f h=ts.map (fun t=>(t.1.n,t.2))/\(∀ t∈ts,t.1∈Es/\aD Es t.1.n=some t.1) /\
  (ts.map (·.1.n)).Nodup/\(ts.map (·.2)).Nodup:=by
 have key:∀ ps:List (Str × Str),(∀ p∈ps,p.1∈Es.map (·.n))->∃ ts:List (Ent × Str),ps=ts.map (fun t=>(t.1.n,t.2))/\∀ t∈ts,t.1∈Es/\aD Es t.1.n=some t.1:=by
  intro ps
  induction ps with
  | nil=>intro _;exact ⟨[],rfl,fun t ht=>by cases ht⟩
  | cons p ps ih =>
   intro hp
   obtain ⟨ts⟩|⟨h1,h2⟩:=(ih fun q hq=>hp q (.tail _ hq))
   obtain ⟨e,he⟩:=jz (hp p (.head _))
   obtain ⟨hm,hn⟩:=aO he
   refine ⟨(e,p.2)::ts,?_,fun t ht=>?_⟩
   ·rw [map_cons,<- h1,hn]
   ·rcases ZC ht with rfl | ht
    ·exact ⟨hm,by rw [hn];exact he⟩
    ·exact h2 t ht
 obtain ⟨ts⟩|⟨h1,h2⟩:=(key (ax (Es.map (·.n)) f h) fun p hp=>(dq hp).1)
 have nd:((bf (Es.map (·.n))).filter fun n=>n == f || aU n f).Nodup:=((aC _).nodup_iff.mpr kd).filter _
 refine ⟨ts,h1,h2,?_,?_⟩
 ·have:ts.map (·.1.n)=(ax (Es.map (·.n)) f h).map (·.1):=by rw [h1,map_map];rfl
  rw [this]
  unfold ax
  rw [map_map]
  have:((fun x:Str × Str=>x.1)∘fun n=>(n,be n f h))=_root_.id:=rfl
  rw [this,map_id];exact nd
 ·have:ts.map (·.2)=(ax (Es.map (·.n)) f h).map (·.2):=by rw [h1,map_map];rfl
  rw [this]
  unfold ax
  rw [map_map]
  refine List.pairwise_map.mpr (nd.imp_of_mem fun {a b} ha hb hne e=>hne ?_)
  have q:∀ a,a∈((bf (Es.map (·.n))).filter fun n=>n == f || aU n f)->a=f\/aU a f=true:=fun a ha=>by
   have:=(ZF ha).2
   rw [Bool.or_eq_true] at this
   exact this.imp (fun z=>eq_of_beq z) id
  exact lm (q a ha) (q b hb) e
noncomputable def aW (t:Ent × Str):Ent:=⟨t.2,t.1.A,{ t.1.B with name:=t.2 }⟩
noncomputable def bp (Es:List Ent) (ts:List (Ent × Str)):List Ent:=Es.filter fun e=>!(ts.any fun t=>t.1.n == e.n)
theorem pc (Es:List Ent):bp Es []=Es:=by unfold bp;exact List.filter_eq_self.mpr fun _ _=>rfl
theorem mX (Es:List Ent) (ts:List (Ent × Str)) (t:Ent × Str):delE (bp Es ts) t.1.n=bp Es (ts++[t]):=by
 unfold delE bp
 rw [List.filter_filter]
 apply filter_congr
 intro e _
 rw [List.any_append]
 by_cases h:t.1.n=e.n
 ·simp [h]
 ·have h2:(t.1.n == e.n)=false:=by simpa using h
  have h3:¬ e.n=t.1.n:=fun z=>h z.symm
  simp [h2,h3]
theorem aE (Es:List Ent) (ts:List (Ent × Str)):(bp Es ts).Sublist Es:=filter_sublist
theorem eu {Es:List Ent}{ts:List (Ent × Str)}{e:Ent} (he:e∈bp Es ts):∀ t∈ts,t.1.n≠e.n:=fun t ht z=>by
 have:=(ZF he).2
 rw [Bool.not_eq_true',any_eq_false] at this
 exact this t ht (by simpa using z)
theorem jN {Es:List Ent}{ts:List (Ent × Str)}{e:Ent} (he:e∈Es) (hn:∀ t∈ts,t.1.n≠e.n):e∈bp Es ts:=by
 refine List.mem_filter.mpr ⟨he,?_⟩
 rw [Bool.not_eq_true',any_eq_false]
 intro t ht
 have:=hn t ht
 simpa using this
theorem j4 {Es:List Ent}{ts:List (Ent × Str)} (h2:∀ t∈ts,t.1∈Es/\aD Es t.1.n=some t.1) :
  renB (Es.map fun e=>(e.n,e.B)) (ts.map fun t=>(t.1.n,t.2))=(bp Es ts++ts.map aW).map fun e=>(e.n,e.B):=by
 unfold renB
 rw [map_append]
 refine congr (congrArg _ ?_) ?_
 ·unfold bp
  rw [filter_map]
  congr 1
  apply filter_congr
  intro e _
  show (!((ts.map fun t=>(t.1.n,t.2)).any fun p=>p.1 == e.n))=_
  rw [List.any_map];rfl
 ·induction ts with
  | nil=>rfl
  | cons t ts ih =>
   rw [map_cons,filterMap_cons,dW,(h2 t (.head _)).2,ih fun s hs=>h2 s (.tail _ hs)]
   rfl
theorem oC {e:Ent}:∀ {E:List Ent},(E.map (·.n)).Nodup->e∈E->vAt (entD E) e.n=some (.ref e.A.x)
 | [],_,h=>by cases h
 | d::E,nd,hm=>by
  have ih:=oC (e:=e) (E:=E)
  rw [map_cons,nodup_cons] at nd
  unfold vAt entD at ih ⊢
  rw [map_cons,find?_cons]
  rcases ZC hm with rfl | hm
  ·simp
  ·have:d.n≠e.n:=fun z=>nd.1 (by rw [z];exact mem_map_of_mem hm)
   simp only [this,decide_false]
   exact ih nd.2 hm
theorem nF (l:List Nat):(l.dropWhile (· != 47)).takeWhile (· != 47)=[]:=by
 induction l with
 | nil=>rfl
 | cons d l ih =>
  rw [dropWhile_cons]
  split
  ·exact ih
  ·rename_i h;rw [takeWhile_cons,if_neg h]
theorem gG:∀ (p l:List Nat),(∀ d∈p,(d != 47)=true)->(p++l).takeWhile (· != 47)=p++l.takeWhile (· != 47)/\(p++l).dropWhile (· != 47)=l.dropWhile (· != 47)
 | [],l,_=>⟨rfl,rfl⟩
 | d::p,l,h=>by
  obtain ⟨a,b⟩:=gG p l fun e he=>h e (.tail _ he)
  rw [cons_append,takeWhile_cons,dropWhile_cons,if_pos (h d (.head _)),if_pos (h d (.head _)),a,b]
  exact ⟨rfl,rfl⟩
theorem nk (l:List Nat):(l.dropWhile (· != 47)).dropWhile (· != 47)=l.dropWhile (· != 47):=by
 induction l with
 | nil=>rfl
 | cons d l ih =>
  rw [dropWhile_cons]
  split
  ·exact ih
  ·rename_i h;rw [dropWhile_cons,if_neg h]
theorem mZ:("INBOX" : Str).cps.toList=[73,78,66,79,88]:=by decide +kernel
theorem qM:gp ("INBOX" : Str) = "INBOX" := by decide +kernel
theorem cO (t:Str):aa (aa t)=aa t:=by
 by_cases h:gp (aI t).1 = "INBOX"
 ·have e:aa t = "INBOX" ++ (aI t).2:=by unfold aa;rw [if_pos h]
  rw [e]
  have hl:("INBOX" ++ (aI t).2:Str).cps.toList=[73,78,66,79,88]++t.cps.toList.dropWhile (· != 47):=by
   rw [cI,mZ,b8]
  obtain ⟨a,b⟩:=gG [73,78,66,79,88] (t.cps.toList.dropWhile (· != 47)) (by decide)
  rw [nF,<- hl] at a
  rw [nk,<- hl] at b
  conv=>lhs;unfold aa
  rw [b8 ("INBOX" ++ (aI t).2),a,b]
  have e2:(⟨([73,78,66,79,88]++[]:List Nat).toArray⟩:Str) = "INBOX" := by decide +kernel
  dsimp only
  rw [e2,if_pos qM,b8 t]
 ·have e:aa t=t:=by unfold aa;rw [if_neg h]
  rw [e,e]
section
variable {c:Cx}{ρ ρ' ρ₂:List NV}{σ σ₁ τ:AState}{Q:AVal->AState->Prop}{X:AExc->AState->Prop}{S:StA}{Es:List Ent}{ns:List Str}{nx:Int}
theorem f8 {f h:Str}{m:Nat} (x:Lib c) (cm:c.calm=true) (lv:10<=c.lv) (R:Rep σ S Es ns nx) (H:StoOk m (ah Es ns nx)) (hfl:f.length<=400) (hhl:h.length<=400) (ho:aM h=true) (hn:aa h=h)
  (k:∀ σ' P,Le σ σ'->σ P=none->σ' P=some (.list ((ax (Es.map (·.n)) f h).map d7))->(∀ p∈ax (Es.map (·.n)) f h,aD Es p.2=none)->Q (.ref P) σ')
  (kx:(∃ p∈ax (Es.map (·.n)) f h,∃ e,aD Es p.2=some e)->Fault X σ):GoV VR c ρ [.ref S.x,.str f,.str h] (fun vs=>call (.ref 436) vs) σ Q X:=by
 refine GoV.tidyX ?_
 have cnt:=H.cnt
 refine ai f436 x s!"o" s!"r" rfl s!"r" fun L₀=>?_
 ext
 refine ⟨by decide,fun P hP=>(ac s!"r" ?_)⟩
 refine bC hP fun σ₁ l₁ h₁=>?_
 have R₁:=R.le l₁
 have hO₁:=R₁.obj
 refine af ?_
 refine aX (α:=Str) .str rfl ?_
 ext
 refine lR s!"lib" cm s!"lv" R₁ s!"o" fun σ₂ D l₂ hDn h₂=>?_
 have hDP:D≠P:=by rintro rfl;rw [h₁] at hDn;cases hDn
 let J1:=fun (r:List Str) (ρ':List NV) (σ':AState)=>∃ v ds,ρ'=[⟨"store",.local,some (.ref S.x)⟩,⟨"old",.local,some (.str f)⟩,⟨"new",.local,some (.str h)⟩,⟨"pairs",.local,some (.ref P)⟩,⟨"name",.local,v⟩,⟨"goal",.local,none⟩,⟨"is_below",.globalImplicit,none⟩,⟨"settled_name",.globalImplicit,none⟩,⟨"len",.globalImplicit,none⟩,⟨"need_new",.globalImplicit,none⟩]/\Fr [P] σ₂ σ'/\bf (Es.map (·.n))=ds++r/\σ' P=some (.list (((ds.filter fun n=>n == f || aU n f).map fun n=>(n,be n f h)).map d7))
 refine ⟨bf (Es.map (·.n)),_,J1,
  aG h₂,(ei2 _ ([]) (ai4 rfl Fr.refl rfl (l₂ _ _ h₁))),fun _ _ σ' z=>ex2 z fun _ _ q=>by have f:=q.2.1;exact f _ _ h₂ (by simpa using hDP),?_,?_⟩
 ·intro n r ρ₁ σ₃ r1z
  obtain ⟨v,ds⟩|⟨rfl,f₃,hd,hP₃⟩:=r1z
  have hmem:n∈Es.map (·.n):=(aC _).subset (by rw [hd];simp)
  obtain ⟨e⟩|⟨he,hen⟩:=(ZM hmem)
  refine an4 (H.ent he) fun _ g1 g2 g3=>?_
  rw [hen] at g1 g2 g3
  refine ay rfl (ac s!"r" ?_)
  have hdl:ds.length<=30:=by
   have:=congrArg List.length hd
   rw [(aC _).length_eq,length_map,length_append] at this;walk_at "o"
  have stp:∀ b:Bool,(n == f || aU n f)=b->((ds++[n]).filter fun n=>n == f || aU n f)=(ds.filter fun n=>n == f || aU n f)++(if b then [n] else []):=by
   intro b hb
   rw [filter_append,filter_cons,hb]
   cases b<;>rfl
  refine af ?_
  refine qy ?_
  refine Go.mono (Q:=fun b σ'=>b=(n == f || aU n f)/\σ'=σ₃) ?_ (fun b σ' z=>?_) (fun _ _ z=>z)
  ·ext
   refine aj (fun hq=>⟨by rw [hq];rfl,rfl⟩) (fun hq=>?_)
   ext
   refine lO s!"lib" cm s!"lv" s!"o" s!"o" ?_
   ext
   refine aj (fun hq2=>⟨by rw [hq,hq2];rfl,rfl⟩) (fun hq2=>?_)
   ext
   exact ⟨by rw [hq,hq2];rfl,rfl⟩
  ·obtain ⟨hb,rfl⟩:=z
   refine aj (fun hq=>?_) (fun hq=>?_)
   ·have hst:=stp true (by rw [<- hb,hq])
    have hnf:n=f\/aU n f=true:=by
     rw [hq] at hb
     have hb:=hb.symm
     rw [Bool.or_eq_true] at hb
     exact hb.imp (fun z=>eq_of_beq z) id
    have hgood:=fP (n:=n) (f:=f) (g:=h) g1 ho hn hnf
    have hlen:=gC n f h
    have hslen:=PyProof.Txt.length_slice_le n (some (f.length:Int)) none
    ext
    refine ⟨dR hP₃,?_⟩
    ext
    refine nM (sz s!"o") ?_
    ext
    refine bS (t:=be n f h) s!"lib" cm s!"lv" s!"o" (fun hok=>?_) (fun hno=>?_)
    ·rw [hgood.2]
     ext
     refine c5 hP₃ (sz (by
      rw [length_map,length_map]
      exact Zt (length_filter_le _ _) s!"o")) ?_
     ext
     refine Tidy.of (Le.refl _) (ei2 _ (ds++[n]) (ai4 rfl (f₃.set (.head _)) (by rw [hd];simp) ?_))
     rw [Zs,hst,map_append,map_append];rfl
    ·rw [hgood.2,hgood.1] at hno;cases hno
   ·have hst:=stp false (by rw [<- hb,hq])
    ext
    refine Tidy.of (Le.refl _) (ei2 _ (ds++[n]) (ai4 rfl f₃ (by rw [hd];simp) ?_))
    rw [hP₃,hst];simp
 ·intro ρ₁ σ₃ r2z
  obtain ⟨v,ds⟩|⟨rfl,f₃,hd,hP₃⟩:=r2z
  rw [append_nil] at hd
  have hP₃:σ₃ P=some (.list ((ax (Es.map (·.n)) f h).map d7)):=by
   rw [hP₃,<- hd];rfl
  have l₃:Le σ σ₃:=fun a o e=>((((l₁.trans l₂).fr (F:=[P])).trans f₃).drop hP) a o e (by simp)
  have R₃:=R.le l₃
  have hpl:=fz (Es.map (·.n)) f h
  rw [length_map] at hpl
  generalize hps:ax (Es.map (·.n)) f h=ps at k kx hP₃ hpl
  refine af ?_
  refine aX (α:=Str × Str) d7 rfl ?_
  ext
  let J2:=fun (r:List (Str × Str)) (ρ':List NV) (σ':AState)=>∃ v w ds,ρ'=[⟨"store",.local,some (.ref S.x)⟩,⟨"old",.local,some (.str f)⟩,⟨"new",.local,some (.str h)⟩,⟨"pairs",.local,some (.ref P)⟩,⟨"name",.local,v⟩,⟨"goal",.local,w⟩,⟨"is_below",.globalImplicit,none⟩,⟨"settled_name",.globalImplicit,none⟩,⟨"len",.globalImplicit,none⟩,⟨"need_new",.globalImplicit,none⟩]/\σ'=σ₃/\ps=ds++r/\∀ p∈ds,aD Es p.2=none
  refine ⟨ps,_,J2,
   aG hP₃,(ei3 _ _ ([]) (ai4 rfl rfl rfl (fun p hp=>by cases hp))),fun _ _ σ' z=>ex3 z fun _ _ _ q=>by have e:=q.2.1;rw [e];exact hP₃,?_,?_⟩
  ·intro p r ρ₁ _ r3z
   obtain ⟨v,w,ds⟩|⟨rfl,rfl,hd,hu⟩:=r3z
   refine cZ (as:=[.str p.1,.str p.2]) ?_ nm2 rfl (cm:=cm)
   show Asg _ _ _ _ _ _ _
   refine ay rfl (ac s!"r" ?_)
   show Asg _ _ _ _ _ _ _
   refine ay rfl (ac s!"r" ?_)
   show WSs _ _ _ _ _ _ _
   ext
   refine d3 s!"lib" cm s!"lv" R₃ (fun hf=>?_) (fun he w a fr=>⟨σ,l₃,kx ⟨p,by rw [hd];simp,he⟩ w a fr⟩)
   ext
   refine Tidy.of (Le.refl _) (ei3 _ _ (ds++[p]) (ai4 rfl rfl (by rw [hd];simp) (fun q hq=>?_)))
   rcases ZA hq with hq | hq
   ·exact hu q hq
   ·rw [ZS hq];exact hf
  ·intro ρ₁ _ r4z
   obtain ⟨v,w,ds⟩|⟨rfl,rfl,hd,hu⟩:=r4z
   rw [append_nil] at hd
   ext
   exact Tidy.of (Le.refl _) (k _ P l₃ hP hP₃ (by rw [hd];exact hu))
end
section
variable {c:Cx}{ρ ρ' ρ₂:List NV}{σ σ₁ σ' τ:AState}{Q:AVal->AState->Prop}{X:AExc->AState->Prop}{S:StA}{Es:List Ent}{ns:List Str}{nx:Int}
theorem Rep.xd (R:Rep σ S Es ns nx) {e d:Ent} (he:e∈Es) (hd:d∈Es) (hn:e.n≠d.n):e.A.x≠d.A.x/\e.A.d≠d.A.d:=by
 have h:e.A.d≠d.A.d:=fun z=>R.feet_apart hd he (Ne.symm hn) e.A.d (.head _) (by rw [z];exact .head _)
 refine ⟨fun z=>h ?_,h⟩
 have h1:=(R.box e he).x
 have h2:=(R.box d hd).x
 rw [z,h2] at h1
 injection h1 with h1;injection h1 with _ h1;exact h1.symm
theorem oI {A:BxA}{B:Bx}{v:Str}:(fun y=>if y=("name" : Str) then some (AVal.str v) else boxM A B y)=boxM A { B with name:=v }:=by
 funext y;by_cases h:y=("name" : Str)
 ·subst h;rfl
 ·unfold boxM;simp only [if_neg h]
theorem jI {A:BxA}{B:Bx}:FlatO (.attrs boxNs (boxM A B)):=by
 intro y v h
 unfold boxM at h
 repeat (first | (split at h;· cases h;trivial) | cases h)
theorem lT:FlatO (.attrs storeNs (aQ S nx)):=by
 intro y v h
 unfold aQ at h
 repeat (first | (split at h;· cases h;trivial) | cases h)
theorem jy:FlatO (.dictS (entD Es)):=by
 intro e he
 obtain ⟨d⟩|⟨_,rfl⟩:=(ZM he)
 trivial
structure Ren (σ:AState) (S:StA) (nx:Int) (E:List Ent) (ts:List (Ent × Str)) (k:Nat):Prop where
 flat:FlatS σ
 only:∀ a o,σ a=some o->a=S.x\/a=S.d\/a=S.b\/∃ t∈ts,a=t.1.A.x\/a=t.1.A.d
 obj:StObj σ S nx
 dict:σ S.b=some (.dictS (entD (E++(ts.take k).map aW)))
 box:∀ (i:Nat) t,ts[i]?=some t->σ t.1.A.x=some (.inst 163 t.1.A.d)/\σ t.1.A.d=some (.attrs boxNs (boxM t.1.A (if i < k then { t.1.B with name:=t.2 } else t.1.B)))
theorem Rep.renamed (R:Rep σ S Es ns nx) {ts:List (Ent × Str)} (h2:∀ t∈ts,t.1∈Es/\aD Es t.1.n=some t.1) (h3:(ts.map (·.1.n)).Nodup) (h4:(ts.map (·.2)).Nodup) (h5:∀ t∈ts,aD Es t.2=none)
  (fr:Fr (S.b::ts.map (·.1.A.d)) σ σ') (hb:σ' S.b=some (.dictS (entD (bp Es ts++ts.map aW)))) (hd:∀ t∈ts,σ' t.1.A.d=some (.attrs boxNs (boxM t.1.A { t.1.B with name:=t.2 }))) :
  Rep σ' S (bp Es ts++ts.map aW) ns nx/\Kept σ σ' S Es S (bp Es ts++ts.map aW):=by
 have noL:NoL σ (S.b::ts.map (·.1.A.d)):=fun a ha=>by
  rcases ZC ha with rfl | ha
  ·rw [R.dict];exact .dictS
  ·obtain ⟨t⟩|⟨ht,rfl⟩:=(ZM ha)
   rw [(R.box _ (h2 t ht).1).d];exact .attrs lC
 have off:∀ a o,σ a=some o->(∀ m,o≠.dictS m)->(∀ m,o≠.attrs boxNs m)->a∉S.b::ts.map (·.1.A.d):=fun a o e n1 n2 z=>by
  rcases ZC z with rfl | z
  ·rw [R.dict] at e;cases e;exact n1 _ rfl
  ·obtain ⟨t⟩|⟨ht,rfl⟩:=(ZM z)
   rw [(R.box _ (h2 t ht).1).d] at e;cases e;exact n2 _ rfl
 have kp:∀ a o,σ a=some o->(∀ m,o≠.dictS m)->(∀ m,o≠.attrs boxNs m)->σ' a=some o:=fun a o e n1 n2=>fr a o e (off a o e n1 n2)
 have hbox:∀ e∈bp Es ts++ts.map aW,BoxAt σ' e.A e.B:=fun e he=>by
  rcases ZA he with he | he
  ·have hm:=(aE _ _).subset he
   refine (R.box e hm).fr fr noL fun a ha z=>?_
   rcases ZC z with rfl | z
   ·exact (R.offX hm).2.2 ha
   ·obtain ⟨t⟩|⟨ht,rfl⟩:=(ZM z)
    exact R.feet_apart hm (h2 t ht).1 (Ne.symm (eu he t ht)) _ (.head _) ha
  ·obtain ⟨t⟩|⟨ht,rfl⟩:=(ZM he)
   have b:=R.box _ (h2 t ht).1
   refine ex1 b.l fun xs h11z=>?_
   refine an2 h11z fun e1 e2=>?_
   clear h11z
   exact ⟨kp _ _ b.x (by simp) (by simp),hd t ht,⟨xs,kp _ _ e1 (by simp) (by simp),e2.fr fr noL⟩,kp _ _ b.g (by simp) (by simp),b.lg⟩
 have foot:∀ a∈(bp Es ts++ts.map aW).flatMap (·.A.foot),a∈Es.flatMap (·.A.foot):=fun a ha=>by
  obtain ⟨e⟩|⟨he,h⟩:=(List.mem_flatMap.mp ha)
  rcases ZA he with he | he
  ·exact List.mem_flatMap.mpr ⟨e,(aE _ _).subset he,h⟩
  ·obtain ⟨t⟩|⟨ht,rfl⟩:=(ZM he)
   exact List.mem_flatMap.mpr ⟨t.1,(h2 t ht).1,h⟩
 refine ⟨⟨⟨kp _ _ R.obj.x (by simp) (by simp),kp _ _ R.obj.d (by simp) (fun m z=>by injection z with z _;exact bG z)⟩,hb,hbox,kp _ _ R.subs (by simp) (by simp),fun e he=>?_,?_,?_,fun e he=>?_⟩,⟨rfl,rfl,rfl,fr.mono fun a ha=>?_,fun a ha=>?_⟩⟩
 ·rcases ZA he with he | he
  ·exact R.name e ((aE _ _).subset he)
  ·obtain ⟨t⟩|⟨ht,h15z⟩:=(ZM he)
   obtain rfl:=h15z;rfl
 ·rw [map_append,nodup_append]
  refine ⟨R.keys.sublist ((aE _ _).map _),by rw [map_map];exact h4,fun a ha b hb'=>?_⟩
  rintro rfl
  obtain ⟨e⟩|⟨he,rfl⟩:=(ZM ha)
  rw [map_map] at hb'
  obtain ⟨t⟩|⟨ht,q⟩:=(ZM hb')
  exact bW (h5 t ht) (by rw [show t.2=e.n from q];exact mem_map_of_mem ((aE _ _).subset he))
 ·rw [flatMap_append,nodup_append]
  have e1:(ts.map aW).flatMap (·.A.foot)=(ts.map (·.1)).flatMap (·.A.foot):=by rw [List.flatMap_map,List.flatMap_map];rfl
  have nd:∀ us:List (Ent × Str),(∀ t∈us,t∈ts)->(us.map (·.1.n)).Nodup->((us.map (·.1)).flatMap (·.A.foot)).Nodup:=by
   intro us
   induction us with
   | nil=>intro _ _;exact .nil
   | cons t us ih =>
    intro hs hn
    rw [map_cons,nodup_cons] at hn
    rw [map_cons,flatMap_cons,nodup_append]
    have b:=R.box _ (h2 t (hs t (.head _))).1
    refine ⟨dn b.dl.symm b.dg.symm b.lg,ih (fun u hu=>hs u (.tail _ hu)) hn.2,fun a ha c hc=>?_⟩
    rintro rfl
    obtain ⟨e⟩|⟨he,hc⟩:=(List.mem_flatMap.mp hc)
    obtain ⟨u⟩|⟨hu,rfl⟩:=(ZM he)
    exact R.feet_apart (h2 t (hs t (.head _))).1 (h2 u (hs u (.tail _ hu))).1 (fun z=>hn.1 (by rw [z];exact mem_map_of_mem (f:=fun t:Ent × Str=>t.1.n) hu)) _ hc ha
  refine ⟨R.apart.sublist (ix (aE _ _)),by rw [e1];exact nd ts (fun _ h=>h) h3,fun a ha b hb'=>?_⟩
  rintro rfl
  rw [e1] at hb'
  obtain ⟨e⟩|⟨he,ha⟩:=(List.mem_flatMap.mp ha)
  obtain ⟨d⟩|⟨hd',hb'⟩:=(List.mem_flatMap.mp hb')
  obtain ⟨t⟩|⟨ht,rfl⟩:=(ZM hd')
  exact R.feet_apart ((aE _ _).subset he) (h2 t ht).1 (Ne.symm (eu he t ht)) _ hb' ha
 ·rcases ZA he with he | he
  ·exact R.sOff e ((aE _ _).subset he)
  ·obtain ⟨t⟩|⟨ht,rfl⟩:=(ZM he)
   show S.s∉t.1.A.foot
   exact R.sOff _ (h2 t ht).1
 ·rcases ZC ha with rfl | ha
  ·exact .tail _ (.head _)
  ·obtain ⟨t⟩|⟨ht,rfl⟩:=(ZM ha)
   exact cN (h2 t ht).1 _ (.head _)
 ·simp only [aY,mem_cons] at ha ⊢
  rcases ha with h1 | h1 | h1 | h1
  ·exact .inl (.inl h1)
  ·exact .inl (.inr (.inl h1))
  ·exact .inl (.inr (.inr (.inl h1)))
  ·exact .inl (.inr (.inr (.inr (foot a h1))))
theorem mc {n g:Str}{e:Ent} (he:aD Es (aa n)=some e) (hn:e.n=aa n):step (ah Es ns nx) (.rename n g) =
  if aM (aa g) && (aD Es (aa g)).isNone then
   (if aa n = "INBOX" then (if nx < 4294967295 then
    some (⟨setB (ah Es ns nx).boxes e.n (e.B.expunge (e.B.letters.map (·.uid)))++[(aa g,(Bx.new (aa g) nx).addAll e.B.letters)],ns,nx+1⟩,.pairs [("INBOX",aa g)]) else none)
   else (if (ax (Es.map (·.n)) (aa n) (aa g)).any (fun p=>(aD Es p.2).isSome) then none else
    some ({ ah Es ns nx with boxes:=renB (ah Es ns nx).boxes (ax (Es.map (·.n)) (aa n) (aa g)) },.pairs (ax (Es.map (·.n)) (aa n) (aa g))))) else none:=by
 have fb:∀ x,ak (ah Es ns nx).boxes x=(aD Es x).map (·.B):=fun x=>dW
 rw [step,bw he,hn]
 simp only [fb,Option.isNone_map,Option.isSome_map,fe]
 rfl
end
section
variable {c:Cx}{ρ ρ' ρ₂:List NV}{σ σ₁ σ' τ:AState}{Q:AVal->AState->Prop}{X:AExc->AState->Prop}{S:StA}{Es:List Ent}{ns:List Str}{nx:Int}
noncomputable def c9 (σ:AState) (p:Addr->Bool):AState:=fun a=>if p a=true then σ a else none
theorem lE {p:Addr->Bool}:Le (c9 σ p) σ:=fun a o e=>by
 unfold c9 at e;split at e
 ·exact e
 ·cases e
theorem mo {p:Addr->Bool}{a:Addr} (h:p a=true):c9 σ p a=σ a:=if_pos h
theorem bM {p:Addr->Bool}{a:Addr} (h:p a=false):c9 σ p a=none:=if_neg (by rw [h];decide)
noncomputable def renP (S:StA) (ts:List (Ent × Str)):Addr->Bool:=fun a=>a == S.x || (a == S.d || (a == S.b || ts.any fun t=>a == t.1.A.x || a == t.1.A.d))
theorem renP_iff {ts:List (Ent × Str)}{a:Addr}:renP S ts a=true↔(a=S.x\/a=S.d\/a=S.b\/∃ t∈ts,a=t.1.A.x\/a=t.1.A.d):=by
 unfold renP
 simp only [Bool.or_eq_true,beq_iff_eq,any_eq_true]
theorem Ren.turn {ts:List (Ent × Str)}{E:List Ent}{k:Nat}{t:Ent × Str} (r:Ren σ S nx E ts k) (ht:ts[k]?=some t) (hx:∀ (i:Nat) u,ts[i]?=some u->i≠k->u.1.A.d≠t.1.A.d) (hk:t.2∉(E++(ts.take k).map aW).map (·.n)) :
  Ren ((σ.set t.1.A.d (.attrs boxNs (boxM t.1.A { t.1.B with name:=t.2 }))).set S.b (.dictS (sto (entD (E++(ts.take k).map aW)) t.2 (.ref t.1.A.x)))) S nx E ts (k+1):=by
 obtain ⟨bx,bd⟩:=r.box k t ht
 have hmem:t∈ts:=mem_of_getElem? ht
 have n1:∀ a o,σ a=some o->(∀ m,o≠.dictS m)->(∀ m,o≠.attrs boxNs m)->((σ.set t.1.A.d (.attrs boxNs (boxM t.1.A { t.1.B with name:=t.2 }))).set S.b (.dictS (sto (entD (E++(ts.take k).map aW)) t.2 (.ref t.1.A.x)))) a=some o:=fun a o e h1 h2=>by
  rw [Zn,Zn]
  ·exact e
  ·rintro rfl;rw [bd] at e;cases e;exact h2 _ rfl
  ·rintro rfl;rw [r.dict] at e;cases e;exact h1 _ rfl
 have n2:∀ a m,σ a=some (.attrs boxNs m)->a≠t.1.A.d->((σ.set t.1.A.d (.attrs boxNs (boxM t.1.A { t.1.B with name:=t.2 }))).set S.b (.dictS (sto (entD (E++(ts.take k).map aW)) t.2 (.ref t.1.A.x)))) a=some (.attrs boxNs m):=fun a m e h=>by
  rw [Zn,Zn h]
  ·exact e
  ·rintro rfl;rw [r.dict] at e;cases e
 have e2:sto (entD (E++(ts.take k).map aW)) t.2 (.ref t.1.A.x)=entD (E++(ts.take (k+1)).map aW):=by
  rw [g6 (by rw [gi];exact hk),List.take_add_one,ht]
  unfold entD
  simp [aW]
 refine ⟨fun a o h=>?_,fun a o h=>?_,⟨n1 _ _ r.obj.x (by simp) (by simp),n1 _ _ r.obj.d (by simp) (fun m z=>by injection z with z _;exact bG z)⟩,by rw [Zs,e2],fun i u hu=>?_⟩
 ·unfold AState.set at h
  split at h
  ·cases h;rw [e2];exact jy
  ·split at h
   ·cases h;exact jI
   ·exact r.flat a o h
 ·unfold AState.set at h
  split at h
  ·rename_i q;exact .inr (.inr (.inl q))
  ·split at h
   ·rename_i q;exact .inr (.inr (.inr ⟨t,hmem,.inr q⟩))
   ·exact r.only a o h
 ·obtain ⟨ux,ud⟩:=r.box i u hu
  refine ⟨n1 _ _ ux (by simp) (by simp),?_⟩
  by_cases q:i=k
  ·subst q
   rw [ht] at hu;cases hu
   rw [if_pos (Nat.lt_succ_self _),Zn,Zs]
   rintro z;rw [z,r.dict] at bd;cases bd
  ·rw [n2 _ _ ud (hx i u hu q)]
   by_cases h:i < k
   ·rw [if_pos h,if_pos s!"o"]
   ·rw [if_neg h,if_neg s!"o"]
theorem FlatN.nil':FlatN []:=fun e he=>by cases he
theorem FlatN.so {x:Str}{k:NameKind}{a:AVal}{r:List NV} (f:Flat a) (h:FlatN r):FlatN (⟨x,k,some a⟩::r):=fun e he b hb=>by
 rcases ZC he with rfl | he
 ·cases hb;exact f
 ·exact h e he b hb
theorem FlatN.no {x:Str}{k:NameKind}{r:List NV} (h:FlatN r):FlatN (⟨x,k,none⟩::r):=fun e he b hb=>by
 rcases ZC he with rfl | he
 ·cases hb
 ·exact h e he b hb
theorem FlatN.op {x:Str}{k:NameKind}{v:Option Addr}{r:List NV} (h:FlatN r):FlatN (⟨x,k,v.map .ref⟩::r):=by
 cases v with
 | none=>exact h.no
 | some _=>exact h.so trivial
theorem Dim.nil:Dim [] []:=⟨rfl,fun _ he=>by cases he⟩
theorem Dim.same {e:NV}{r r':List NV} (h:Dim r r'):Dim (e::r) (e::r'):=⟨by rw [map_cons,h.1];rfl,fun d hd a ha=>by
 rcases ZC hd with rfl | hd
 ·exact .head _
 ·exact .tail _ (h.2 d hd a ha)⟩
theorem Dim.drop {x:Str}{k:NameKind}{o:Option AVal}{r r':List NV} (h:Dim r r'):Dim (⟨x,k,o⟩::r) (⟨x,k,none⟩::r'):=⟨by rw [map_cons,h.1];rfl,fun d hd a ha=>by
 rcases ZC hd with rfl | hd
 ·cases ha
 ·exact .tail _ (h.2 d hd a ha)⟩
def NL (τ:AState) (b:Addr):Prop:=∃ o,τ b=some o/\∀ ys,o≠.list ys
theorem NL.ne {τ:AState}{a b:Addr}{xs:List AVal} (h:NL τ b) (ha:τ a=some (.list xs)):a≠b:=fun z=>by
 obtain ⟨o,e,n⟩:=h
 rw [<- z,ha] at e;exact n xs (Option.some.inj e).symm
theorem mn {S:StA}{ts:List (Ent × Str)}{τ:AState}{a:Addr}{xs:List AVal} (ha:τ a=some (.list xs)) (h1:NL τ S.x) (h2:NL τ S.d) (h3:NL τ S.b) (h4:∀ t∈ts,NL τ t.1.A.x/\NL τ t.1.A.d):renP S ts a=false:=by
 rw [<- Bool.not_eq_true,renP_iff]
 rintro (z | z | z | ⟨t,ht,z | z⟩)
 ·exact h1.ne ha z
 ·exact h2.ne ha z
 ·exact h3.ne ha z
 ·exact (h4 t ht).1.ne ha z
 ·exact (h4 t ht).2.ne ha z
theorem je {o g:Str}{m:Nat} (x:Lib c) (cm:c.calm=true) (lv:16<=c.lv) (R:Rep σ S Es ns nx) (H:StoOk m (ah Es ns nx)) (hm:m<=60) (hz:o.length<=300) (hz2:g.length<=300)
  (k:∀ s' r σ' a,step (ah Es ns nx) (.rename o g)=some (s',r)->Out σ σ' S Es ns nx s'->ResAt σ' a r->Q a σ') (kx:step (ah Es ns nx) (.rename o g)=none->Fault X σ):GoV VR c ρ [.ref S.x,.str o,.str g] (fun vs=>call (.ref 441) vs) σ Q X:=by
 refine GoV.tidyX ?_
 have hO:=R.obj
 have cnt:=H.cnt
 have hgl:=dM g
 refine ai f441 x s!"o" s!"r" rfl s!"r" fun L₀=>?_
 ext
 refine dw s!"lib" cm s!"lv" R s!"o" (fun e he=>?_) (fun hn w a fr=>⟨σ,Le.refl _,kx (by simp [step,ce hn]) w a fr⟩)
 refine ac s!"r" ?_
 obtain ⟨hm',hn'⟩:=aO he
 have hB:=R.box e hm'
 have hst:=mc (ns:=ns) (nx:=nx) (g:=g) he hn'
 ext
 refine bS s!"lib" cm s!"lv" s!"o" (fun hok=>?_) (fun hno w a fr=>⟨σ,Le.refl _,kx (by rw [hst,hno];rfl) w a fr⟩)
 refine ac s!"r" ?_
 ext
 refine d3 s!"lib" cm s!"lv" R (fun hf=>?_) (fun ⟨d,hd⟩ w a fr=>⟨σ,Le.refl _,kx (by rw [hst,hd,hok];rfl) w a fr⟩)
 rw [hok,hf,if_pos (show (true && (none:Option Ent).isNone)=true from rfl)] at hst
 ext
 rw [R.name e hm',hn']
 refine aj (fun h=>?_) (fun h=>?_)
 ·have h:aa o = "INBOX" := eq_of_beq h
  rw [if_pos h] at hst
  ext
  refine gQ s!"lib" cm s!"lv" R H hm hm' hf (fun σ₁ P h1 ho hP=>?_) (fun h1 w a fr=>⟨σ,Le.refl _,kx (by rw [hst,if_neg h1]) w a fr⟩)
  rw [if_pos h1] at hst
  exact Tidy.of (Le.refl _) (k _ (.pairs _) _ _ hst ho ⟨P,rfl,hP⟩)
 ·have h:¬ aa o = "INBOX" := fun z=>by rw [z] at h;simp at h
  rw [if_neg h] at hst
  have hel:=(H.ent hm').2.2.2
  rw [hn'] at hel
  ext
  rw [R.name e hm',hn']
  refine f8 s!"lib" cm s!"lv" R H hel s!"o" hok (cO g) (fun σ₁ P l₁ hPn hP h5=>?_) (fun ⟨p,hp,hd⟩ w a fr=>⟨σ,Le.refl _,kx (by
   rw [hst,if_pos]
   rw [any_eq_true]
   obtain ⟨d,hd⟩:=hd
   exact ⟨p,hp,by rw [hd];rfl⟩) w a fr⟩)
  rw [if_neg (by
   rw [Bool.not_eq_true,any_eq_false]
   intro p hp
   rw [h5 p hp];decide)] at hst
  refine ac s!"r" ?_
  obtain ⟨ts⟩|⟨hps,h2,h3,h4⟩:=(i3 (Es:=Es) (f:=aa o) (h:=aa g) R.keys)
  rw [hps] at hP hst h5
  have h5:∀ t∈ts,aD Es t.2=none:=fun t ht=>h5 (t.1.n,t.2) (mem_map_of_mem (f:=fun t:Ent × Str=>(t.1.n,t.2)) ht)
  have hlen:ts.length<=30:=by
   have:=fz (Es.map (·.n)) (aa o) (aa g)
   rw [hps,length_map,length_map] at this;walk_at "o"
  rw [map_map] at hP
  have R₁:=R.le l₁
  have hPb:P≠S.b:=by rintro rfl;rw [R.dict] at hPn;cases hPn
  refine af ?_
  refine cy rfl s!"cns" s!"cok" ?_ s!"u"
  ext
  let J1:=fun (r:List AVal) (zs:List AVal) (σ':AState)=>∃ ds rs,ts=ds++rs/\r=rs.map (d7∘fun t=>(t.1.n,t.2))/\zs=ds.map (fun t=>AVal.ref t.1.A.x)/\Fr [S.b] σ₁ σ'/\σ' S.b=some (.dictS (entD (bp Es ds)))
  refine ⟨J1,
   ⟨_,_,aG hP,sz (by rw [length_map];walk_at "o"),(ei2 ([]) ts (ai5 rfl rfl rfl Fr.refl (by rw [pc];exact R₁.dict))),fun _ _ σ' z=>ex2 z fun _ _ q=>by have f:=q.2.2.2.1;exact f _ _ hP (by simpa using hPb)⟩,fun cl C=>?_,?_⟩
  ·intro v rest zs σ₂ r1z
   obtain ⟨ds,rs⟩|⟨hts,hr,rfl,f₂,hb⟩:=r1z
   cases rs with
   | nil=>cases hr
   | cons t rs =>
    rw [map_cons] at hr
    cases hr
    have htm:t∈ts:=by rw [hts];simp
    have hO₂:StObj σ₂ S nx:=R₁.obj.fr f₂ (by intro z;have hxb:=R₁.obj.x;rw [ZS z,R₁.dict] at hxb;cases hxb) (by intro z;have hxb:=R₁.obj.d;rw [ZS z,R₁.dict] at hxb;cases hxb)
    refine aT (ac s!"r" ?_) ⟨_,.tail _ (.head _),rfl,rfl⟩
    refine eE ?_
    refine ifT ?_
    ext
    refine ⟨jw hb,?_⟩
    ext
    ext
    have hnot:∀ u∈ds,u.1.n≠t.1.n:=fun u hu z=>by
     rw [hts,map_append,nodup_append] at h3
     exact h3.2.2 _ (mem_map_of_mem (f:=fun t:Ent × Str=>t.1.n) hu) _ (by simp) z
    refine oD hb (oC (R.keys.sublist ((aE _ _).map _)) (jN (h2 t htm).1 hnot)) (sz (by
     unfold entD;rw [length_map]
     have:=(aE Es ds).length_le;walk_at "o")) ?_
    rw [jU,mX]
    exact (ei2 (ds++[t]) rs (ai5 (by rw [hts];simp) rfl (by simp) (f₂.set (.head _)) (Zs ..)))
  ·intro ys σ₂ D r2z hD
   obtain ⟨ds,rs⟩|⟨hts,hr,rfl,f₂,hb⟩:=r2z
   have hrs:rs=[]:=by
    cases rs with
    | nil=>rfl
    | cons _ _=>cases hr
   subst hrs
   rw [append_nil] at hts
   subst hts
   refine ac s!"r" ?_
   refine bC hD fun σF lF hDF=>?_
   have fF:Fr [S.b] σ₁ σF:=f₂.le lF
   have hbF:=lF _ _ hb
   have hPF:=fF _ _ hP (by simpa using hPb)
   have offb:∀ a o,σ₁ a=some o->(∀ m,o≠.dictS m)->σF a=some o:=fun a o e n=>fF a o e fun z=>by
    rw [ZS z,R₁.dict] at e;cases e;exact n _ rfl
   have hxd:∀ (i:Nat) u (j:Nat) t,ts[i]?=some u->ts[j]?=some t->i≠j->u.1.A.d≠t.1.A.d:=fun i u j t hu ht hij=>by
    refine (R.xd (h2 u (mem_of_getElem? hu)).1 (h2 t (mem_of_getElem? ht)).1 fun z=>hij ?_).2
    have e1:(ts.map (·.1.n))[i]?=some u.1.n:=by rw [getElem?_map,hu];rfl
    have e2:(ts.map (·.1.n))[j]?=some u.1.n:=by rw [getElem?_map,ht,z];rfl
    exact (List.getElem?_inj (List.getElem?_eq_some_iff.mp e1).1 h3).mp (e1.trans e2.symm)
   have n1:NL σF S.x:=⟨_,offb _ _ R₁.obj.x (by simp),by simp⟩
   have n2:NL σF S.d:=⟨_,offb _ _ R₁.obj.d (by simp),by simp⟩
   have n3:∀ t∈ts,NL σF t.1.A.x/\NL σF t.1.A.d:=fun t ht=>⟨⟨_,offb _ _ (R₁.box _ (h2 t ht).1).x (by simp),by simp⟩,⟨_,offb _ _ (R₁.box _ (h2 t ht).1).d (by simp),by simp⟩⟩
   have hDk:=mn hDF n1 n2 ⟨_,hbF,by simp⟩ n3
   have hPk:=mn hPF n1 n2 ⟨_,hbF,by simp⟩ n3
   refine af ?_
   refine kT rfl cm s!"look" (qQ s!"lib") ?_
   ext
   refine ⟨D,P,_,_,rfl,hDF,hPF,c9 σF (renP S ts),[⟨"store",.cell,some (.ref S.x)⟩,⟨"old",.local,some (.str o)⟩,⟨"new",.local,some (.str g)⟩,⟨"box",.local,some (.ref e.A.x)⟩,⟨"found",.local,some (.str (aa g))⟩,⟨"pairs",.local,some (.ref P)⟩,⟨"pair",.local,none⟩,⟨"taken",.local,some (.ref D)⟩,⟨"one",.local,none⟩,⟨"settled_name",.globalImplicit,none⟩,⟨"need_new",.globalImplicit,none⟩,⟨"INBOX_store",.globalImplicit,none⟩,⟨"rename_inbox",.globalImplicit,none⟩,⟨"renamed_pairs",.globalImplicit,none⟩,⟨"zip",.globalImplicit,none⟩],
    fun k ρ' σ'=>∃ v:Option Addr,ρ'=[⟨"store",.cell,some (.ref S.x)⟩,⟨"old",.local,some (.str o)⟩,⟨"new",.local,some (.str g)⟩,⟨"box",.local,some (.ref e.A.x)⟩,⟨"found",.local,some (.str (aa g))⟩,⟨"pairs",.local,some (.ref P)⟩,⟨"pair",.local,none⟩,⟨"taken",.local,some (.ref D)⟩,⟨"one",.local,v.map .ref⟩,⟨"settled_name",.globalImplicit,none⟩,⟨"need_new",.globalImplicit,none⟩,⟨"INBOX_store",.globalImplicit,none⟩,⟨"rename_inbox",.globalImplicit,none⟩,⟨"renamed_pairs",.globalImplicit,none⟩,⟨"zip",.globalImplicit,none⟩]/\k<=ts.length/\Ren σ' S nx (bp Es ts) ts k,
    lE,⟨bM hDk,bM hPk⟩,⟨rfl,fun _ h _ _=>h⟩,⟨none,rfl,Nat.zero_le _,?_⟩,?_,?_,?_⟩
   ·
    have k1:∀ {a:Addr},renP S ts a=true->c9 σF (renP S ts) a=σF a:=fun h=>mo h
    have p1:renP S ts S.x=true:=renP_iff.mpr (.inl rfl)
    have p2:renP S ts S.d=true:=renP_iff.mpr (.inr (.inl rfl))
    have p3:renP S ts S.b=true:=renP_iff.mpr (.inr (.inr (.inl rfl)))
    have hx1:=offb _ _ R₁.obj.x (by simp)
    have hx2:=offb _ _ R₁.obj.d (by simp)
    refine ⟨fun a ob q=>?_,fun a ob q=>?_,⟨by rw [k1 p1];exact hx1,by rw [k1 p2];exact hx2⟩,by rw [k1 p3,hbF];simp,fun i t ht=>?_⟩
    ·have hp:renP S ts a=true:=by
      cases z:renP S ts a with
      | true=>rfl
      | false=>rw [bM z] at q;cases q
     rw [k1 hp] at q
     rcases renP_iff.mp hp with z | z | z | ⟨t,ht,z | z⟩
     ·rw [z,hx1] at q;cases q;trivial
     ·rw [z,hx2] at q;cases q;exact lT
     ·rw [z,hbF] at q;cases q;exact jy
     ·rw [z,offb _ _ (R₁.box _ (h2 t ht).1).x (by simp)] at q;cases q;trivial
     ·rw [z,offb _ _ (R₁.box _ (h2 t ht).1).d (by simp)] at q;cases q;exact jI
    ·cases z:renP S ts a with
     | true=>exact renP_iff.mp z
     | false=>rw [bM z] at q;cases q
    ·have htm:=mem_of_getElem? ht
     rw [if_neg (Nat.not_lt_zero i),k1 (renP_iff.mpr (.inr (.inr (.inr ⟨t,htm,.inl rfl⟩)))),k1 (renP_iff.mpr (.inr (.inr (.inr ⟨t,htm,.inr rfl⟩))))]
     exact ⟨offb _ _ (R₁.box _ (h2 t htm).1).x (by simp),offb _ _ (R₁.box _ (h2 t htm).1).d (by simp)⟩
   ·intro i ρ' σ' r3z
    obtain ⟨v⟩|⟨rfl,_,r⟩:=r3z
    refine ⟨?_,r.flat⟩
    repeat (first | with_reducible exact FlatN.nil' | with_reducible refine FlatN.no ?_ | ((with_reducible refine FlatN.so ?_ ?_);(· exact trivial)) | with_reducible refine FlatN.op ?_)
   ·intro i a b ρ₁ σ₂ ha hb' r4z
    obtain ⟨v⟩|⟨rfl,hi,r⟩:=r4z
    rw [getElem?_map] at ha hb'
    obtain ⟨t⟩|⟨ht,rfl⟩:=(Option.map_eq_some_iff.mp ha)
    rw [ht] at hb'
    cases hb'
    obtain ⟨bx,bd⟩:=r.box i t ht
    rw [if_neg (Nat.lt_irrefl i)] at bd
    have hlt:i < ts.length:=(List.getElem?_eq_some_iff.mp ht).1
    refine cZ (as:=[.ref t.1.A.x,.tup [.str t.1.n,.str t.2]]) ?_ nm2 rfl (cm:=cm)
    show Asg _ _ _ _ _ _ _
    refine ay rfl (ac s!"r" ?_)
    show Asg _ _ _ _ _ _ _
    refine ay rfl (ac s!"r" ?_)
    show WSs _ _ _ _ _ _ _
    refine af ?_
    refine bz ?_
    ext
    have hK:LibK c.K:=Lib.toK x
    refine ⟨t.1.A.x,163,boxNs,_,rfl,⟨t.1.A.d,bx,bd⟩,bl hK,rM hK (by decide +kernel),by decide +kernel,by decide +kernel,fun d hd=>?_⟩
    rw [bx] at hd;cases hd
    rw [oI]
    have hO₃:StObj (σ₂.set t.1.A.d (.attrs boxNs (boxM t.1.A { t.1.B with name:=t.2 }))) S nx:=by
     refine ⟨?_,?_⟩
     ·rw [Zn]
      ·exact r.obj.x
      ·rintro z;rw [<- z,r.obj.x] at bd;cases bd
     ·rw [Zn]
      ·exact r.obj.d
      ·rintro z;rw [<- z,r.obj.d] at bd;injection bd with bd;injection bd with bd _;exact bG bd
    ext
    have hb₃:(σ₂.set t.1.A.d (.attrs boxNs (boxM t.1.A { t.1.B with name:=t.2 }))) S.b=some (.dictS (entD (bp Es ts++(ts.take i).map aW))):=by
     rw [Zn]
     ·exact r.dict
     ·rintro z;rw [<- z,r.dict] at bd;cases bd
    refine fY hb₃ (sz (by
     have:=(aE Es ts).length_le
     unfold entD;simp;walk_at "o")) ?_
    ext
    have hk4:t.2∉(bp Es ts++(ts.take i).map aW).map (·.n):=by
     rw [map_append,mem_append]
     rintro (z | z)
     ·obtain ⟨u⟩|⟨hu,q⟩:=(ZM z)
      exact bW (h5 t (mem_of_getElem? ht)) (by rw [<- q];exact mem_map_of_mem ((aE _ _).subset hu))
     ·rw [map_map] at z
      obtain ⟨u⟩|⟨hu,q⟩:=(ZM z)
      obtain ⟨j,hj⟩:=List.mem_iff_getElem?.mp hu
      rw [List.getElem?_take] at hj
      split at hj
      ·rename_i hji
       have e1:(ts.map (·.2))[j]?=some t.2:=by rw [getElem?_map,hj];exact congrArg some q
       have e2:(ts.map (·.2))[i]?=some t.2:=by rw [getElem?_map,ht];rfl
       have:=(List.getElem?_inj (List.getElem?_eq_some_iff.mp e1).1 h4).mp (e1.trans e2.symm)
       walk_at "o"
      ·cases hj
    refine ⟨[⟨"store",.cell,some (.ref S.x)⟩,⟨"old",.local,some (.str o)⟩,⟨"new",.local,some (.str g)⟩,⟨"box",.local,some (.ref e.A.x)⟩,⟨"found",.local,some (.str (aa g))⟩,⟨"pairs",.local,some (.ref P)⟩,⟨"pair",.local,none⟩,⟨"taken",.local,some (.ref D)⟩,⟨"one",.local,some (.ref t.1.A.x)⟩,⟨"settled_name",.globalImplicit,none⟩,⟨"need_new",.globalImplicit,none⟩,⟨"INBOX_store",.globalImplicit,none⟩,⟨"rename_inbox",.globalImplicit,none⟩,⟨"renamed_pairs",.globalImplicit,none⟩,⟨"zip",.globalImplicit,none⟩],_,?_,Le.refl _,some t.1.A.x,rfl,hlt,r.turn ht (fun j u hu hji=>hxd j u i t hu ht hji) hk4⟩
    repeat (first | with_reducible exact Dim.nil | with_reducible refine Dim.same ?_ | with_reducible refine Dim.drop ?_)
   ·intro i ρ₁ σ₂ σ₃ hno r5z l₃ hold
    obtain ⟨v⟩|⟨rfl,hi,r⟩:=r5z
    have hi2:i=ts.length:=by
     rcases hno with z | z<;>(rw [getElem?_map,Option.map_eq_none_iff,List.getElem?_eq_none_iff] at z;walk_at "o")
    subst hi2
    have fr:Fr (S.b::ts.map (·.1.A.d)) σF σ₃:=fun a ob q n=>by
     cases z:renP S ts a with
     | false=>exact hold a ob q (bM z)
     | true =>
      rcases renP_iff.mp z with y | y | y | ⟨t,ht,y | y⟩
      ·rw [y,offb _ _ R₁.obj.x (by simp)] at q;cases q;rw [y];exact l₃ _ _ r.obj.x
      ·rw [y,offb _ _ R₁.obj.d (by simp)] at q;cases q;rw [y];exact l₃ _ _ r.obj.d
      ·exact absurd (by rw [y];exact .head _) n
      ·rw [y,offb _ _ (R₁.box _ (h2 t ht).1).x (by simp)] at q;cases q
       obtain ⟨j,hj⟩:=List.mem_iff_getElem?.mp ht
       rw [y];exact l₃ _ _ (r.box j t hj).1
      ·exact absurd (by rw [y];exact .tail _ (mem_map_of_mem (f:=fun t:Ent × Str=>t.1.A.d) ht)) n
    have fr1:Fr (S.b::ts.map (·.1.A.d)) σ₁ σ₃:=(fF.mono fun a ha=>by rw [ZS ha];exact .head _).trans fr
    have hb₃:=l₃ _ _ r.dict
    rw [List.take_length] at hb₃
    have hP₃:σ₃ P=some (.list (ts.map (d7∘fun t=>(t.1.n,t.2)))):=hold _ _ hPF (bM hPk)
    have ⟨R₃,K₃⟩:=R₁.renamed h2 h3 h4 h5 fr1 hb₃ (fun t ht=>by
     obtain ⟨j,hj⟩:=List.mem_iff_getElem?.mp ht
     have:=(r.box j t hj).2
     rw [if_pos (List.getElem?_eq_some_iff.mp hj).1] at this
     exact l₃ _ _ this)
    have hout:Out σ σ₃ S Es ns nx { ah Es ns nx with boxes:=renB (ah Es ns nx).boxes (ts.map fun t=>(t.1.n,t.2)) }:=⟨S,_,R₃,(Kept.of_le l₁).trans K₃,j4 h2⟩
    ext
    exact Tidy.of (Le.refl _) (k _ (.pairs _) _ _ hst hout ⟨P,rfl,by rw [hP₃,map_map]⟩)
end
section
variable {c:Cx}{ρ ρ' ρ₂:List NV}{σ σ₁ σ' τ:AState}{Q:AVal->AState->Prop}{X:AExc->AState->Prop}{S:StA}{Es:List Ent}{ns:List Str}{nx:Int}
def DeedSz:Deed->Prop
 | .create n _=>n.length<=300
 | .delete n=>n.length<=300
 | .rename n g=>n.length<=300/\g.length<=300
 | .append n fs _ _ _=>n.length<=300/\(∀ t∈fs,t.length<=1000)/\fs.length < 32
 | .flags n _ fs=>n.length<=300/\(∀ t∈fs,t.length<=1000)/\fs.length < 32
 | .store n us way fs _=>n.length<=300/\us.length<=60/\(way = "+" \/ way = "-" \/ way = "=")/\(∀ t∈fs,t.length<=1000)/\fs.length < 32
 | .expunge n us=>n.length<=300/\us.length<=60
 | .copy _ n us g=>n.length<=300/\g.length<=300/\us.length<=60
 | .subscribe n=>n.length<=300
 | .unsubscribe n=>n.length<=300
 | .forget n _=>n.length<=300
theorem ft (x:Str):Fits ⟨#[116]⟩ (.str x):=by
 have e:(⟨#[116]⟩:Str) = "t" := by decide +kernel
 rw [e];exact .t x
theorem fN (i:Int):Fits ⟨#[110]⟩ (.int i):=by
 have e:(⟨#[110]⟩:Str) = "n" := by decide +kernel
 rw [e];exact .n i
theorem fO (b:Array UInt8) (t:Tok):Fits ⟨#[111]⟩ (.bytes b t):=by
 have e:(⟨#[111]⟩:Str) = "o" := by decide +kernel
 rw [e];exact .o b t
theorem fF {ts:List Str} (h:ts.length < 32):Fits ⟨#[102]⟩ (fq ts):=by
 have e:(⟨#[102]⟩:Str) = "f" := by decide +kernel
 rw [e];exact .f ts s!"o"
theorem fU {us:List Int} (h:us.length<=60):Fits ⟨#[117]⟩ (b0 us):=by
 have e:(⟨#[117]⟩:Str) = "u" := by decide +kernel
 rw [e];exact .u us s!"o"
inductive FL:List Nat->List AVal->Prop
 | nil:FL [] []
 | cons {d:Nat}{a:AVal}{cs:List Nat}{as:List AVal}:Fits ⟨#[d]⟩ a->FL cs as->FL (d::cs) (a::as)
theorem FL.at {cs:List Nat}{as:List AVal} (f:FL cs as):∀ (i:Nat) d a,cs[i]?=some d->as[i]?=some a->Fits ⟨#[d]⟩ a:=by
 induction f with
 | nil=>intro i d a h;simp at h
 | cons h _ ih =>
  intro i d a h1 h2
  cases i with
  | zero=>simp at h1 h2;subst h1;subst h2;exact h
  | succ i=>exact ih i d a (by simpa using h1) (by simpa using h2)
theorem bR {sh:Str}{cs:List Nat}{vs:List AVal} (h:sh.cps.toList=cs) (f:FL cs vs):∀ (i:Nat) d a,sh.cps[i]?=some d->vs[i]?=some a->Fits ⟨#[d]⟩ a:=fun i d a h1 h2 =>
 f.at i d a (by rw [<- h,Array.getElem?_toList];exact h1) h2
theorem qC {d:Deed}{m:Nat} (x:Lib c) (cm:c.calm=true) (lv:18<=c.lv) (R:Rep σ S Es ns nx) (H:StoOk m (ah Es ns nx)) (hm:m<=60) (hd:DeedSz d)
  (k:∀ s' r σ' a,step (ah Es ns nx) d=some (s',r)->Out σ σ' S Es ns nx s'->ResAt σ' a r->Q a σ') (kx:step (ah Es ns nx) d=none->Fault X σ):GoV VR c ρ [.ref S.x,rowV d] (fun vs=>call (.ref 524) vs) σ Q X:=by
 have hO:=R.obj
 cases d with
 | create n v =>
  refine ai f524 x s!"o" s!"r" rfl s!"r" (as:=[.ref S.x,.tup [.str "create",.str n,.int v]]) fun L₀=>?_
  ext
  refine aK (w := "create") (sh := "tn") s!"lib" cm s!"lv" (by decide +kernel) rfl (bR (cs:=[116,110]) (by decide +kernel) (.cons (ft _) (.cons (fN _) .nil))) ?_
  ext
  exact jg s!"lib" cm s!"lv" R H (Zt hd (by decide)) k kx
 | delete n =>
  refine ai f524 x s!"o" s!"r" rfl s!"r" (as:=[.ref S.x,.tup [.str "delete",.str n]]) fun L₀=>?_
  ext
  refine aK (w := "delete") (sh := "t") s!"lib" cm s!"lv" (by decide +kernel) rfl (bR (cs:=[116]) (by decide +kernel) (.cons (ft _) .nil)) ?_
  ext
  exact jd s!"lib" cm s!"lv" R H (Zt hd (by decide)) k kx
 | rename n g =>
  refine ai f524 x s!"o" s!"r" rfl s!"r" (as:=[.ref S.x,.tup [.str "rename",.str n,.str g]]) fun L₀=>?_
  ext
  refine aK (w := "rename") (sh := "tt") s!"lib" cm s!"lv" (by decide +kernel) rfl (bR (cs:=[116,116]) (by decide +kernel) (.cons (ft _) (.cons (ft _) .nil))) ?_
  ext
  exact je s!"lib" cm s!"lv" R H hm hd.1 hd.2 k kx
 | append n fs t b kk =>
  refine ai f524 x s!"o" s!"r" rfl s!"r" (as:=[.ref S.x,.tup [.str "append",.str n,fq fs,.int t,.bytes b kk]]) fun L₀=>?_
  ext
  refine aK (w := "append") (sh := "tfno") s!"lib" cm s!"lv" (by decide +kernel) rfl (bR (cs:=[116,102,110,111]) (by decide +kernel) (.cons (ft _) (.cons (fF hd.2.2) (.cons (fN _) (.cons (fO _ _) .nil))))) ?_
  ext
  exact gm s!"lib" cm s!"lv" R H hm (Zt hd.1 (by decide)) hd.2.1 hd.2.2 k kx
 | flags n u fs =>
  refine ai f524 x s!"o" s!"r" rfl s!"r" (as:=[.ref S.x,.tup [.str "flags",.str n,.int u,fq fs]]) fun L₀=>?_
  ext
  refine aK (w := "flags") (sh := "tnf") s!"lib" cm s!"lv" (by decide +kernel) rfl (bR (cs:=[116,110,102]) (by decide +kernel) (.cons (ft _) (.cons (fN _) (.cons (fF hd.2.2) .nil)))) ?_
  ext
  exact hZ s!"lib" cm s!"lv" R H hm (Zt hd.1 (by decide)) hd.2.1 hd.2.2 k kx
 | store n us way fs un =>
  refine ai f524 x s!"o" s!"r" rfl s!"r" (as:=[.ref S.x,.tup [.str "store",.str n,b0 us,.str way,fq fs,.int un]]) fun L₀=>?_
  ext
  refine aK (w := "store") (sh := "tutfn") s!"lib" cm s!"lv" (by decide +kernel) rfl (bR (cs:=[116,117,116,102,110]) (by decide +kernel) (.cons (ft _) (.cons (fU hd.2.1) (.cons (ft _) (.cons (fF hd.2.2.2.2) (.cons (fN _) .nil)))))) ?_
  ext
  exact gb s!"lib" cm s!"lv" R H hm (Zt hd.1 (by decide)) hd.2.2.2.1 hd.2.2.2.2 hd.2.1 hd.2.2.1 k kx
 | expunge n us =>
  refine ai f524 x s!"o" s!"r" rfl s!"r" (as:=[.ref S.x,.tup [.str "expunge",.str n,b0 us]]) fun L₀=>?_
  ext
  refine aK (w := "expunge") (sh := "tu") s!"lib" cm s!"lv" (by decide +kernel) rfl (bR (cs:=[116,117]) (by decide +kernel) (.cons (ft _) (.cons (fU hd.2) .nil))) ?_
  ext
  exact eW s!"lib" cm s!"lv" R H hm (Zt hd.1 (by decide)) hd.2 k kx
 | copy mv n us g =>
  cases mv with
  | true =>
   refine ai f524 x s!"o" s!"r" rfl s!"r" (as:=[.ref S.x,.tup [.str "move",.str n,b0 us,.str g]]) fun L₀=>?_
   ext
   refine aK (w := "move") (sh := "tut") s!"lib" cm s!"lv" (by decide +kernel) rfl (bR (cs:=[116,117,116]) (by decide +kernel) (.cons (ft _) (.cons (fU hd.2.2) (.cons (ft _) .nil)))) ?_
   ext
   exact dF (mv:=true) s!"lib" cm s!"lv" R H hm (Zt hd.1 (by decide)) (Zt hd.2.1 (by decide)) hd.2.2 k kx
  | false =>
   refine ai f524 x s!"o" s!"r" rfl s!"r" (as:=[.ref S.x,.tup [.str "copy",.str n,b0 us,.str g]]) fun L₀=>?_
   ext
   refine aK (w := "copy") (sh := "tut") s!"lib" cm s!"lv" (by decide +kernel) rfl (bR (cs:=[116,117,116]) (by decide +kernel) (.cons (ft _) (.cons (fU hd.2.2) (.cons (ft _) .nil)))) ?_
   ext
   exact dF (mv:=false) s!"lib" cm s!"lv" R H hm (Zt hd.1 (by decide)) (Zt hd.2.1 (by decide)) hd.2.2 k kx
 | subscribe n =>
  refine ai f524 x s!"o" s!"r" rfl s!"r" (as:=[.ref S.x,.tup [.str "subscribe",.str n]]) fun L₀=>?_
  ext
  refine aK (w := "subscribe") (sh := "t") s!"lib" cm s!"lv" (by decide +kernel) rfl (bR (cs:=[116]) (by decide +kernel) (.cons (ft _) .nil)) ?_
  ext
  exact fL s!"lib" cm s!"lv" R H (Zt hd (by decide)) k kx
 | unsubscribe n =>
  refine ai f524 x s!"o" s!"r" rfl s!"r" (as:=[.ref S.x,.tup [.str "unsubscribe",.str n]]) fun L₀=>?_
  ext
  refine aK (w := "unsubscribe") (sh := "t") s!"lib" cm s!"lv" (by decide +kernel) rfl (bR (cs:=[116]) (by decide +kernel) (.cons (ft _) .nil)) ?_
  ext
  exact eJ s!"lib" cm s!"lv" R H (Zt hd (by decide)) k kx
 | forget n mm =>
  refine ai f524 x s!"o" s!"r" rfl s!"r" (as:=[.ref S.x,.tup [.str "forget",.str n,.int mm]]) fun L₀=>?_
  ext
  refine aK (w := "forget") (sh := "tn") s!"lib" cm s!"lv" (by decide +kernel) rfl (bR (cs:=[116,110]) (by decide +kernel) (.cons (ft _) (.cons (fN _) .nil))) ?_
  ext
  refine dw s!"lib" cm s!"lv" R (Zt hd (by decide)) (fun e he=>?_) (fun hn w a fr=>kx (by simp [step,ce hn]) w a fr)
  obtain ⟨hm',hn'⟩:=aO he
  have hB:=R.box e hm'
  have ok:=(H.ent hm').1
  ext
  refine il s!"lib" cm s!"lv" hB (by have:=ok.gone;walk_at "o") fun σ₁ A' hB₁ hA=>?_
  exact k _ (.v _) _ _ (kZ he) (R.turned hm' hB₁ hA (mr ..) hn') rfl
end
section
variable {c:Cx}{ρ ρ' ρ₂:List NV}{σ σ₁ σ' τ:AState}{Q:AVal->AState->Prop}{X:AExc->AState->Prop}{N N':List NV->AState->Prop}{RR:AVal->AState->Prop}{XS:AExc->List NV->AState->Prop}
theorem WS.mono {st:Stmt} (g:WS c ρ st σ N' RR XS) (k:∀ ρ σ,N' ρ σ->N ρ σ):WS c ρ st σ N RR XS:=fun s S =>
 Zm (g s S) (fun _ _ p=>p.mono k fun _ _ z=>z) fun _ _ z=>z
inductive DB (σ:AState) (b D:Addr) (N:Int):Prop
 | mk (cells:List Int) (g s p:Int) (h1:σ b=some (.list [.ref D,.int g,.int s,.int p])) (h2:σ D=some (.list (cells.map .int))) (h3:D≠b) (h4:0<=g) (h5:0<=s) (h6:s < 2147483647) (h7:0<=p) (h8:p<=N) (h9:cells.length<=48)
theorem DB.le {b D:Addr}{n:Int} (h:DB σ b D n) (l:Le σ σ'):DB σ' b D n:=by
 obtain ⟨cs,g,s,p,h1,h2,h3,h4,h5,h6,h7,h8,h9⟩:=h
 exact ⟨cs,g,s,p,l _ _ h1,l _ _ h2,h3,h4,h5,h6,h7,h8,h9⟩
theorem oj {i:Int} (h:i.natAbs < 2 ^ 60):Builtin.Int.intBits i<=60:=by
 unfold Builtin.Int.intBits
 split
 ·walk_at "o"
 ·rename_i h0
  have:i.natAbs≠0:=fun z=>h0 (by simpa using z)
  have:=(Nat.log2_lt this).mpr h
  walk_at "o"
theorem ey {a b:Int} (h:0 < b):0<=Int.fmod a b/\Int.fmod a b < b:=⟨Int.fmod_nonneg_of_pos a h,Int.fmod_lt_of_pos a h⟩
theorem og {a b:Int} (h:0<=a) (hb:0<=b):0<=Int.fdiv a b:=Int.fdiv_nonneg h hb
theorem rm {a:Int} (h:0<=a):Int.fdiv a 3<=a:=by
 rw [Int.fdiv_eq_ediv_of_nonneg _ (by decide)]
 exact Int.ediv_le_self _ h
theorem bu {b D:Addr}{n lim:Int} (x:Lib c) (cm:c.calm=true) (lv:1<=c.lv) (h:DB σ b D n) (hN:n<=1000000) (h0:0 < lim) (h1:lim<=10000)
  (k:∀ σ' d,DB σ' b D (n+1)->Fr [b] σ σ'->0<=d->d < lim->Q (.int d) σ'):GoV VR c ρ [.ref b,.int lim] (fun vs=>call (.ref 536) vs) σ Q X:=by
 obtain ⟨cs,g,s,p,hb,hD,hne,hg,hs0,hs1,hp0,hp1,hl⟩:=h
 have hlz:lim≠0:=by walk_at "o"
 refine ai f536 x s!"o" s!"r" rfl s!"r" fun L₀=>?_
 ext
 refine aL (n:=3) hb (by decide) rfl ?_
 refine ac s!"r" ?_
 ext
 refine fR hb (by decide) (by decide) (by simp) ?_
 have hb₁:(σ.set b (.list ([.ref D,.int g,.int s,.int p].set (3:Int).toNat (.int (p+1))))) b=some (.list [.ref D,.int g,.int s,.int (p+1)]):=Zs ..
 have f₁:Fr [b] σ (σ.set b (.list ([.ref D,.int g,.int s,.int p].set (3:Int).toNat (.int (p+1))))):=Fr.refl.set (.head _)
 have hD₁:(σ.set b (.list ([.ref D,.int g,.int s,.int p].set (3:Int).toNat (.int (p+1))))) D=some (.list (cs.map .int)):=by rw [Zn hne];exact hD
 generalize (σ.set b (.list ([.ref D,.int g,.int s,.int p].set (3:Int).toNat (.int (p+1)))))=σ₁ at hb₁ f₁ hD₁ ⊢
 ext
 refine aL (n:=1) hb₁ (by decide) rfl ?_
 ext
 refine aj (fun hq=>?_) (fun hq=>?_)
 ·ext
  refine aL (n:=1) hb₁ (by decide) rfl ?_
  ext
  refine iV hlz ?_
  refine ac s!"r" ?_
  ext
  refine aL (n:=1) hb₁ (by decide) rfl ?_
  ext
  refine ei hlz (PyProof.noPylong_small s!"o") ?_
  ext
  refine fR hb₁ (by decide) (by decide) (by simp) ?_
  ext
  have:=ey (a:=g) h0
  refine k _ _ ⟨cs,Int.fdiv g lim,s,p+1,Zs ..,by rw [Zn hne];exact hD₁,hne,og hg s!"o",hs0,hs1,by walk_at "o",by walk_at "o",hl⟩ (f₁.set (.head _)) this.1 this.2
 ·ext
  refine aL (n:=2) hb₁ (by decide) rfl ?_
  ext
  refine nj (.of_right (by decide +kernel)) ?_
  ext
  refine nj (.of_right (Zt (oj s!"o") (by decide))) ?_
  ext
  refine fR hb₁ (by decide) (by decide) (by simp) ?_
  generalize hs':Int.fmod (s * 16807+p * p+29) 2147483647=s'
  have hs2:=ey (a:=s * 16807+p * p+29) (b:=2147483647) (by decide)
  rw [hs'] at hs2
  have hb₂:(σ₁.set b (.list ([.ref D,.int g,.int s,.int (p+1)].set (2:Int).toNat (.int s')))) b=some (.list [.ref D,.int g,.int s',.int (p+1)]):=Zs ..
  have f₂:Fr [b] σ (σ₁.set b (.list ([.ref D,.int g,.int s,.int (p+1)].set (2:Int).toNat (.int s')))):=f₁.set (.head _)
  have hD₂:(σ₁.set b (.list ([.ref D,.int g,.int s,.int (p+1)].set (2:Int).toNat (.int s')))) D=some (.list (cs.map .int)):=by rw [Zn hne];exact hD₁
  generalize (σ₁.set b (.list ([.ref D,.int g,.int s,.int (p+1)].set (2:Int).toNat (.int s'))))=σ₂ at hb₂ f₂ hD₂ ⊢
  have db:DB σ₂ b D (n+1):=⟨cs,g,s',p+1,hb₂,hD₂,hne,hg,hs2.1,hs2.2,by walk_at "o",by walk_at "o",hl⟩
  ext
  refine aL (n:=0) hb₂ (by decide) rfl ?_
  ext
  refine bJ hD₂ (by simp;walk_at "o") ?_
  ext
  refine aj (fun hq=>?_) (fun hq=>?_)
  ·ext
   have hq:=of_decide_eq_true hq
   rw [length_map] at hq
   refine aL (n:=0) hb₂ (by decide) rfl ?_
   ext
   have hpt:p.toNat < cs.length:=by walk_at "o"
   refine d5 (x:=.int cs[p.toNat]) hD₂ hp0 s!"o" (by rw [getElem?_map,getElem?_eq_getElem hpt];rfl) ?_
   ext
   refine iV hlz ?_
   have:=ey (a:=cs[p.toNat]) h0
   exact k _ _ db f₂ this.1 this.2
  ·ext
   refine aL (n:=2) hb₂ (by decide) rfl ?_
   ext
   have h3:=og (a:=s') (b:=3) hs2.1 (by decide)
   have h4:=rm (a:=s') hs2.1
   refine mL (by decide) ?_ ?_
   ·have:=oj (i:=Int.fdiv s' 3) s!"o"
    walk_at "o"
   ext
   refine iV hlz ?_
   have:=ey (a:=Int.fdiv s' 3 ^ (3:Int).toNat) h0
   exact k _ _ db f₂ this.1 this.2
end
section
variable {c:Cx}{ρ ρ' ρ₂:List NV}{σ σ₁ σ' τ:AState}{Q:AVal->AState->Prop}{X:AExc->AState->Prop}{b D:Addr}{n:Int}
theorem DB.more {m:Int} (h:DB σ b D n) (l:n<=m):DB σ b D m:=by
 obtain ⟨cs,g,s,p,h1,h2,h3,h4,h5,h6,h7,h8,h9⟩:=h
 exact ⟨cs,g,s,p,h1,h2,h3,h4,h5,h6,h7,by walk_at "o",h9⟩
noncomputable def bv:List Str:=["INBOX", "a", "a/b", "b", "a/b/c", "inbox/d", "Inbox", "a//b", "b%"]
noncomputable def some5:List Str:=["\\Seen", "\\deleted", "key", "\\FLAGGED", "Key"]
noncomputable def jM (m s:Int):Bool:=Builtin.bitAnd (Int.fdiv m (2 ^ s.toNat)) 1 == 1
noncomputable def gW (m:Int):List Str:=([0,1,2,3,4]:List Int).filter (jM m) |>.map fun s=>some5.getD (4 - s).toNat ""
noncomputable def ki (m:Int):List Int:=([0,1,2,3]:List Int).filter (jM m) |>.map fun s=>4 - s
noncomputable def bX:List (List Str):=["\\Seen", "no flag"]::(List.range 32).map fun (i:Nat)=>gW (i:Int)
noncomputable def cv:List (List Int):=(List.range 16).map fun (i:Nat)=>ki (i:Int)
theorem li {m:Int}{k:Nat} (h0:0<=m) (h1:m < k):∃ i∈List.range k,((i:Nat):Int)=m:=⟨m.toNat,List.mem_range.mpr s!"o",by walk_at "o"⟩
theorem rh {l:List Str}{d:Int} (h0:0<=d) (h1:d < l.length):∃ y∈l,(l.map AVal.str)[d.toNat]?=some (.str y):=by
 have h:d.toNat < l.length:=by walk_at "o"
 exact ⟨l[d.toNat],getElem_mem h,by rw [getElem?_map,getElem?_eq_getElem h];rfl⟩
theorem cQ (x:Lib c) (cm:c.calm=true) (lv:2<=c.lv) (h:DB σ b D n) (hN:n<=1000000) (k:∀ σ' t,DB σ' b D (n+1)->Fr [b] σ σ'->t∈bv->Q (.str t) σ'):GoV VR c ρ [.ref b] (fun vs=>call (.ref 543) vs) σ Q X:=by
 refine ai f543 x s!"o" s!"r" rfl s!"r" fun L₀=>?_
 ext
 refine ⟨by decide,fun L hL=>?_⟩
 refine eV hL fun σ₁ l₁ h₁=>?_
 ext
 refine bu s!"lib" cm s!"lv" (h.le l₁) hN (by decide) (by decide) fun σ₂ d h₂ f₂ d0 d1=>?_
 have hLb:L≠b:=by obtain ⟨_,_,_,_,e,_⟩:=h;exact mw e hL
 obtain ⟨y⟩|⟨hy,e⟩:=(rh (l:=bv) d0 (by simpa [bv] using d1))
 refine d5 (f₂ _ _ h₁ (by simpa using hLb)) d0 s!"o" e ?_
 exact k _ _ h₂ ((l₁.fr (F:=[b])).trans f₂) hy
theorem dk (x:Lib c) (cm:c.calm=true) (lv:3<=c.lv) (h:DB σ b D n) (hN:n<=1000000) (k:∀ σ' fs,DB σ' b D (n+1)->Fr [b] σ σ'->fs∈bX->Q (fq fs) σ'):GoV VR c ρ [.ref b] (fun vs=>call (.ref 548) vs) σ Q X:=by
 refine GoV.tidy ?_
 refine ai f548 x s!"o" s!"r" rfl s!"r" fun L₀=>?_
 ext
 refine bu s!"lib" cm s!"lv" h hN (by decide) (by decide) fun σ₁ d h₁ f₁ d0 d1=>?_
 refine ac s!"r" ?_
 ext
 intro L hL
 refine ac s!"r" ?_
 refine bC hL fun σ₂ l₂ h₂=>?_
 ext
 refine aj (fun hq=>?_) (fun hq=>?_)
 ·ext
  exact Tidy.of (Le.refl _) (k _ ["\\Seen", "no flag"] (h₁.le l₂) (f₁.le l₂) (.head _))
 ·have hq:=of_decide_eq_false hq
  ext
  refine ev_compP Int rfl s!"cns" s!"cok" ?_
  ext
  refine dc fun R hR=>?_
  refine ⟨[0,1,2,3,4],.int,jM d,fun s=>.str (some5.getD (4 - s).toNat ""),fun σ'=>Le (σ₂.set R (.range 0 5)) σ',_,cY (Zs ..) (by decide) (by decide) (by decide) (by decide),fun _ _ h l=>h.trans l,by decide,Le.refl _,fun _ _=>trivial,fun cl C s hs=>?_,fun σ₃ E l₃ hE=>?_⟩
  ·intro σ₃ l₃
   have hs2:0<=s/\s<=4:=by simp at hs;walk_at "o"
   refine aT (ac s!"r" ?_) ⟨_,.tail _ (.head _),rfl,rfl⟩
   refine bN ?_
   ext
   refine qI hs2.1 ?_
   ext
   refine qs ?_
   ext
   refine ⟨rfl,?_⟩
   refine aj (fun _=>?_) (fun _=>Le.refl _)
   ext
   refine d5 (x:=.str (some5.getD (4 - s).toNat "")) (l₃ _ _ (Zl hR _ _ h₂)) s!"o" s!"o" ?_ ⟨rfl,Le.refl _⟩
   simp only [mem_cons,not_mem_nil,or_false] at hs
   rcases hs with rfl | rfl | rfl | rfl | rfl<;>rfl
  ·ext
   refine aJ (Zs ..) (sz (by rw [length_map];exact Zt (length_filter_le _ _) (by decide))) ?_
   have hl:Le σ₂ (σ₃.set E (.list ((([0,1,2,3,4]:List Int).filter (jM d)).map fun s=>.str (some5.getD (4 - s).toNat "")))):=((Zl hR).trans l₃).trans (Zl hE)
   obtain ⟨i⟩|⟨hi,e⟩:=(li (k:=32) d0 s!"o")
   have:=k _ (gW d) ((h₁.le l₂).le hl) ((f₁.le l₂).le hl) (.tail _ (by rw [<- e];exact mem_map_of_mem (f:=fun (i:Nat)=>gW (i:Int)) hi))
   unfold gW fq at this
   rw [map_map] at this
   exact Tidy.of (Le.refl _) this
theorem ef (x:Lib c) (cm:c.calm=true) (lv:3<=c.lv) (h:DB σ b D n) (hN:n<=1000000) (k:∀ σ' us,DB σ' b D (n+1)->Fr [b] σ σ'->us∈cv->Q (b0 us) σ'):GoV VR c ρ [.ref b] (fun vs=>call (.ref 553) vs) σ Q X:=by
 refine GoV.tidy ?_
 refine ai f553 x s!"o" s!"r" rfl s!"r" fun L₀=>?_
 ext
 refine bu s!"lib" cm s!"lv" h hN (by decide) (by decide) fun σ₂ d h₁ f₁ d0 d1=>?_
 refine ac s!"r" ?_
 ext
 refine ev_compP Int rfl s!"cns" s!"cok" ?_
 ext
 refine dc fun R hR=>?_
 refine ⟨[0,1,2,3],.int,jM d,fun s=>.int (4 - s),fun σ'=>Le (σ₂.set R (.range 0 4)) σ',_,cY (Zs ..) (by decide) (by decide) (by decide) (by decide),fun _ _ h l=>h.trans l,by decide,Le.refl _,fun _ _=>trivial,fun cl C s hs=>?_,fun σ₃ E l₃ hE=>?_⟩
 ·intro σ₃ l₃
  have hs2:0<=s/\s<=4:=by simp at hs;walk_at "o"
  refine aT (ac s!"r" ?_) ⟨_,.tail _ (.head _),rfl,rfl⟩
  refine bN ?_
  ext
  refine qI hs2.1 ?_
  ext
  refine qs ?_
  ext
  refine ⟨rfl,?_⟩
  refine aj (fun _=>?_) (fun _=>Le.refl _)
  ext
  exact ⟨rfl,Le.refl _⟩
 ·ext
  refine aJ (Zs ..) (sz (by rw [length_map];exact Zt (length_filter_le _ _) (by decide))) ?_
  have hl:Le σ₂ (σ₃.set E (.list ((([0,1,2,3]:List Int).filter (jM d)).map fun s=>.int (4 - s)))):=((Zl hR).trans l₃).trans (Zl hE)
  obtain ⟨i⟩|⟨hi,e⟩:=(li (k:=16) d0 s!"o")
  have:=k _ (ki d) (h₁.le hl) (f₁.le hl) (by rw [<- e];exact mem_map_of_mem (f:=fun (i:Nat)=>ki (i:Int)) hi)
  unfold ki b0 at this
  rw [map_map] at this
  exact Tidy.of (Le.refl _) this
end
section
variable {c:Cx}{ρ ρ' ρ₂:List NV}{σ σ₁ σ' τ:AState}{Q:AVal->AState->Prop}{X:AExc->AState->Prop}{b D:Addr}{n nx:Int}{S:StA}
def DeedIn (nx:Int):Deed->Prop
 | .create n v=>n∈bv/\nx - 1<=v/\v<=nx+3
 | .delete n=>n∈bv
 | .rename n g=>n∈bv/\g∈bv
 | .append n fs _ _ _=>n∈bv/\fs∈bX
 | .flags n _ fs=>n∈bv/\fs∈bX
 | .store n us way fs _=>n∈bv/\us∈cv/\(way = "+" \/ way = "-" \/ way = "=")/\fs∈bX
 | .expunge n us=>n∈bv/\us∈cv
 | .copy _ n us g=>n∈bv/\us∈cv/\g∈bv
 | .subscribe n=>n∈bv
 | .unsubscribe n=>n∈bv
 | .forget n _=>n∈bv
theorem StObj.off1 (h:StObj σ S nx) {xs:List AVal} (hb:σ b=some (.list xs)):S.x∉[b]/\S.d∉[b]:=by
 refine ⟨fun z=>?_,fun z=>?_⟩
 ·have:=h.x;rw [ZS z,hb] at this;cases this
 ·have:=h.d;rw [ZS z,hb] at this;cases this
theorem DB.keepS (h:DB σ b D n) (hO:StObj σ S nx) (f:Fr [b] σ σ'):StObj σ' S nx:=by
 obtain ⟨_,_,_,_,e,_⟩:=h
 exact hO.fr f (hO.off1 e).1 (hO.off1 e).2
theorem ew {α:Type}{f:α->AVal}{l:List α}{L:Addr}{d:Int} (hL:σ L=some (.list (l.map f))) (h0:0<=d) (h1:d < l.length) (hl:l.length<=100) (q:∀ y∈l,Q (f y) σ):SubOn c ρ (.ref L) (.int d) σ Q X:=by
 have h:d.toNat < l.length:=by walk_at "o"
 exact d5 (x:=f l[d.toNat]) hL h0 s!"o" (by rw [getElem?_map,getElem?_eq_getElem h];rfl) (q _ (getElem_mem h))
theorem DB.new {L:Addr} (h:DB σ b D n) (hL:σ L=none):L∉[b]:=fun z=>by
 obtain ⟨_,_,_,_,e,_⟩:=h
 exact mw e hL (ZS z)
theorem lV (x:Lib c) (cm:c.calm=true) (lv:5<=c.lv) (h:DB σ b D n) (hO:StObj σ S nx) (hN:n<=10000) (k:∀ σ' d,DB σ' b D (n+20)->Fr [b] σ σ'->DeedIn nx d->Q (rowV d) σ'):GoV VR c ρ [.ref b,.ref S.x] (fun vs=>call (.ref 558) vs) σ Q X:=by
 refine GoV.tidy ?_
 refine ai f558 x s!"o" s!"r" rfl s!"r" fun L₀=>?_
 ext
 refine bu s!"lib" cm s!"lv" h s!"o" (by decide) (by decide) fun σ₁ w h₁ f₁ d0 d1=>?_
 refine ac s!"r" ?_
 have hO₁:=h.keepS hO f₁
 refine af ?_
 refine bq rfl ?_
 refine Go.mono (Q:=fun a σ₂=>∃ t,a=.str t/\DB σ₂ b D (n+2)/\Fr [b] σ σ₂/\t∈bv/\StObj σ₂ S nx) ?_ (fun a σ₂ z=>?_) (fun _ _ z=>z)
 ·ext
  refine aj (fun hq=>?_) (fun hq=>?_)
  ·ext
   refine cQ s!"lib" cm s!"lv" h₁ s!"o" fun σ₂ t h₂ f₂ ht=>?_
   exact ⟨t,rfl,h₂.more s!"o",f₁.trans f₂,ht,h₁.keepS hO₁ f₂⟩
  ·ext
   intro L hL
   refine eV hL fun σ₂ l₂ h₂=>?_
   ext
   refine bu s!"lib" cm s!"lv" (h₁.le l₂) s!"o" (by decide) (by decide) fun σ₃ d h₃ f₃ e0 e1=>?_
   refine ew (l:=(["INBOX", "a", "b"]:List Str)) (f:=.str) (f₃ _ _ h₂ (h₁.new hL)) e0 (by simpa using e1) (by decide) fun t ht=>?_
   refine ⟨t,rfl,h₃.more s!"o",(f₁.le l₂).trans f₃,?_,(h₁.le l₂).keepS (hO₁.le l₂) f₃⟩
   simp only [mem_cons,not_mem_nil,or_false] at ht
   rcases ht with rfl | rfl | rfl<;>decide +kernel
 ·obtain ⟨t⟩|⟨rfl,h₂,f₂,ht,hO₂⟩:=z
  refine ac s!"r" ?_
  ext
  refine aj (fun hq=>?_) (fun hq=>?_)
  ·ext
   intro L hL
   refine eV hL fun σ₃ l₃ h₃=>?_
   ext
   refine bu s!"lib" cm s!"lv" (h₂.le l₃) s!"o" (by decide) (by decide) fun σ₄ d h₄ f₄ e0 e1=>?_
   refine ew (l:=([0,3,0,-1]:List Int)) (f:=.int) (f₄ _ _ h₃ (h₂.new hL)) e0 (by simpa using e1) (by decide) fun v hv=>?_
   ext
   refine Tidy.of (Le.refl _) (k _ (.create t (nx+v)) (h₄.more s!"o") ((f₂.le l₃).trans f₄) ⟨ht,?_⟩)
   simp only [mem_cons,not_mem_nil,or_false] at hv
   walk_at "o"
  ext
  refine aj (fun hq=>?_) (fun hq=>?_)
  ·ext
   exact Tidy.of (Le.refl _) (k _ (.delete t) (h₂.more s!"o") f₂ ht)
  ext
  refine aj (fun hq=>?_) (fun hq=>?_)
  ·ext
   refine cQ s!"lib" cm s!"lv" h₂ s!"o" fun σ₃ g h₃ f₃ hg=>?_
   ext
   exact Tidy.of (Le.refl _) (k _ (.rename t g) (h₃.more s!"o") (f₂.trans f₃) ⟨ht,hg⟩)
  ext
  refine aj (fun hq=>?_) (fun hq=>?_)
  ·ext
   refine cQ s!"lib" cm s!"lv" h₂ s!"o" fun σ₃ g h₃ f₃ hg=>?_
   ext
   exact Tidy.of (Le.refl _) (k _ (.rename t g) (h₃.more s!"o") (f₂.trans f₃) ⟨ht,hg⟩)
  ext
  refine aj (fun hq=>?_) (fun hq=>?_)
  ·ext
   refine bu s!"lib" cm s!"lv" h₂ s!"o" (by decide) (by decide) fun σ₃ d h₃ f₃ e0 e1=>?_
   ext
   refine dk s!"lib" cm s!"lv" h₃ s!"o" fun σ₄ fs h₄ f₄ hfs=>?_
   ext
   exact Tidy.of (Le.refl _) (k _ (.flags t (1+d) fs) (h₄.more s!"o") ((f₂.trans f₃).trans f₄) ⟨ht,hfs⟩)
  ext
  refine aj (fun hq=>?_) (fun hq=>?_)
  ·ext
   refine ef s!"lib" cm s!"lv" h₂ s!"o" fun σ₃ us h₃ f₃ hus=>?_
   ext
   refine bu s!"lib" cm s!"lv" h₃ s!"o" (by decide) (by decide) fun σ₄ d h₄ f₄ e0 e1=>?_
   obtain ⟨y,hy,hw⟩:∃ y,("+-=" : Str).cps[d.toNat]?=some y/\((⟨#[y]⟩:Str) = "+" \/ (⟨#[y]⟩:Str) = "-" \/ (⟨#[y]⟩:Str) = "="):=by
    have:d=0\/d=1\/d=2:=by walk_at "o"
    rcases this with rfl | rfl | rfl
    ·exact ⟨43,by decide +kernel,.inl (by decide +kernel)⟩
    ·exact ⟨45,by decide +kernel,.inr (.inl (by decide +kernel))⟩
    ·exact ⟨61,by decide +kernel,.inr (.inr (by decide +kernel))⟩
   refine oE (d:=y) e0 s!"o" hy ?_
   ext
   refine dk s!"lib" cm s!"lv" h₄ s!"o" fun σ₅ fs h₅ f₅ hfs=>?_
   ext
   refine bu s!"lib" cm s!"lv" h₅ s!"o" (by decide) (by decide) fun σ₆ e h₆ f₆ g0 g1=>?_
   ext
   exact Tidy.of (Le.refl _) (k _ (.store t us ⟨#[y]⟩ fs (e - 3)) (h₆.more s!"o") ((((f₂.trans f₃).trans f₄).trans f₅).trans f₆) ⟨ht,hus,hw,hfs⟩)
  ext
  refine aj (fun hq=>?_) (fun hq=>?_)
  ·ext
   refine ef s!"lib" cm s!"lv" h₂ s!"o" fun σ₃ us h₃ f₃ hus=>?_
   ext
   exact Tidy.of (Le.refl _) (k _ (.expunge t us) (h₃.more s!"o") (f₂.trans f₃) ⟨ht,hus⟩)
  ext
  refine aj (fun hq=>?_) (fun hq=>?_)
  ·ext
   intro L hL
   refine eV hL fun σ₃ l₃ h₃=>?_
   ext
   refine bu s!"lib" cm s!"lv" (h₂.le l₃) s!"o" (by decide) (by decide) fun σ₄ d h₄ f₄ e0 e1=>?_
   refine ew (l:=(["copy", "move"]:List Str)) (f:=.str) (f₄ _ _ h₃ (h₂.new hL)) e0 (by simpa using e1) (by decide) fun y hy=>?_
   obtain ⟨mv,rfl⟩:∃ mv:Bool,y=(if mv then ("move" : Str) else ("copy" : Str)):=by
    simp only [mem_cons,not_mem_nil,or_false] at hy
    rcases hy with rfl | rfl
    ·exact ⟨false,rfl⟩
    ·exact ⟨true,rfl⟩
   ext
   refine ef s!"lib" cm s!"lv" h₄ s!"o" fun σ₅ us h₅ f₅ hus=>?_
   ext
   refine cQ s!"lib" cm s!"lv" h₅ s!"o" fun σ₆ g h₆ f₆ hg=>?_
   ext
   exact Tidy.of (Le.refl _) (k _ (.copy mv t us g) (h₆.more s!"o") ((((f₂.le l₃).trans f₄).trans f₅).trans f₆) ⟨ht,hus,hg⟩)
  ext
  refine aj (fun hq=>?_) (fun hq=>?_)
  ·ext
   intro L hL
   refine eV hL fun σ₃ l₃ h₃=>?_
   ext
   refine bu s!"lib" cm s!"lv" (h₂.le l₃) s!"o" (by decide) (by decide) fun σ₄ d h₄ f₄ e0 e1=>?_
   refine ew (l:=(["subscribe", "unsubscribe"]:List Str)) (f:=.str) (f₄ _ _ h₃ (h₂.new hL)) e0 (by simpa using e1) (by decide) fun y hy=>?_
   ext
   simp only [mem_cons,not_mem_nil,or_false] at hy
   rcases hy with rfl | rfl
   ·exact Tidy.of (Le.refl _) (k _ (.subscribe t) (h₄.more s!"o") ((f₂.le l₃).trans f₄) ht)
   ·exact Tidy.of (Le.refl _) (k _ (.unsubscribe t) (h₄.more s!"o") ((f₂.le l₃).trans f₄) ht)
  ext
  refine aj (fun hq=>?_) (fun hq=>?_)
  ·ext
   refine bu s!"lib" cm s!"lv" h₂ s!"o" (by decide) (by decide) fun σ₃ d h₃ f₃ e0 e1=>?_
   ext
   exact Tidy.of (Le.refl _) (k _ (.forget t d) (h₃.more s!"o") (f₂.trans f₃) ht)
  ext
  refine aj (fun hq=>?_) (fun hq=>?_)
  ·ext
   exact Tidy.of (Le.refl _) (k _ (.create t nx) (h₂.more s!"o") f₂ ⟨ht,by walk_at "o"⟩)
  ext
  refine ev_listcomp rfl s!"cns" s!"cok" ?_
  ext
  refine bu s!"lib" cm s!"lv" h₂ s!"o" (by decide) (by decide) fun σ₃ d h₃ f₃ e0 e1=>?_
  ext
  refine dc fun R hR=>?_
  have nl:∀ (i:Int) (m:Nat),(nums i m).length=m:=by
   intro i m
   induction m generalizing i with
   | zero=>rfl
   | succ m ih=>show (nums (i+1) m).length+1=_;rw [ih]
  let J1:=fun (r:List AVal) (zs:List AVal) (σ':AState)=>∃ cs:List Int,zs=cs.map .int/\(∀ c∈cs,0<=c/\c < 256)/\DB σ' b D (n+3+cs.length)/\Fr [b] σ₃ σ'/\cs.length+r.length=d.toNat
  refine ⟨J1,
   ⟨_,_,cY (Zs ..) (by decide) (by decide) s!"o" s!"o",sz (by rw [nl];walk_at "o"),⟨[],rfl,(fun c hc=>by cases hc),(h₃.le (Zl hR)).more (by simp;walk_at "o"),(Zl hR).fr,by rw [nl];simp⟩,fun _ _ _ _=>trivial⟩,fun cl C=>?_,?_⟩
  ·intro v rest zs σ₄ r1z
   obtain ⟨cs⟩|⟨rfl,hcs,h₄,f₄,hlen⟩:=r1z
   refine aT (ac s!"r" ?_) ⟨_,.tail _ (.head _),rfl,rfl⟩
   refine eE ?_
   refine ifT ?_
   simp only [length_cons] at hlen
   ext
   refine bu s!"lib" cm s!"lv" h₄ s!"o" (by decide) (by decide) fun σ₅ y h₅ f₅ g0 g1=>?_
   refine ⟨cs++[y],by simp,fun c hc=>?_,h₅.more (by simp;walk_at "o"),f₄.trans f₅,by simp;walk_at "o"⟩
   rcases ZA hc with hc | hc
   ·exact hcs c hc
   ·rw [ZS hc];exact ⟨g0,g1⟩
  ·intro ys σ₄ E r2z hE
   obtain ⟨cs⟩|⟨rfl,hcs,h₄,f₄,hlen⟩:=r2z
   simp only [length_nil] at hlen
   ext
   refine qi (ns:=cs) (Zs ..) hcs (sz s!"o") fun tk=>?_
   refine ac s!"r" ?_
   refine bC hE fun σ₅ l₅ _=>?_
   ext
   refine dk s!"lib" cm s!"lv" (h₄.le l₅) s!"o" fun σ₆ fs h₆ f₆ hfs=>?_
   ext
   refine bu s!"lib" cm s!"lv" h₆ s!"o" (by decide) (by decide) fun σ₇ e h₇ f₇ g0 g1=>?_
   ext
   exact Tidy.of (Le.refl _) (k _ (.append t fs (e - 1000) (byteArr cs) tk) (h₇.more s!"o") ((((f₂.trans f₃).trans (f₄.le l₅)).trans f₆).trans f₇) ⟨ht,hfs⟩)
end
section
variable {c:Cx}{ρ ρ' ρ₂:List NV}{σ σ₁ σ' τ:AState}{Q:AVal->AState->Prop}{X:AExc->AState->Prop}{b D:Addr}{n nx:Int}{S:StA}
def InBase (G:Heap) (a:Addr) (xs:List AVal):Prop:=∃ vs,G.IsList a vs.toArray/\VRs G vs xs
theorem mC {a:Addr}{xs:List AVal}{k:Nat} (ha:∀ h,St c ρ σ h->∃ vs,h.IsList a vs.toArray/\VRs h vs xs) (hz:xs.length<=sizeLine) (q:∀ D,σ D=none->Q (.ref D) (σ.set D (.list (xs.take k)))):SliceOn c ρ (.ref a) none (some (k:Int)) σ Q X:=fun s v vl vu S r pl pu=>by
 cases r.ref_inv
 obtain ⟨vs⟩|⟨h1z,rs⟩:=(ha _ S)
 obtain ⟨o,e,hc,n,hd⟩:=h1z
 have pu':=pu.is
 cases pl;obtain ⟨u,rfl⟩:=pu
 have kp:∀ b o,s.heap.get? b=some o->(s.heap.push { cls:=.type "slice",data:=.fields #[.none,.int k u,.none] }).get? b=some o:=fun b o e=>Zu _ e
 have hl:(s.heap.push { cls:=.type "slice",data:=.fields #[.none,.int k u,.none] }).IsList a vs.toArray:=⟨_,kp _ _ e,hc,n,hd⟩
 refine ⟨"list",_,slot_list_getitem.lookup,hl.typeIs,wpAny_getItem_list_slice (s:={ s with heap:=s.heap.push { cls:=.type "slice",data:=.fields #[.none,.int k u,.none] } }) (lo:=none) (hi:=some (k:Int)) (st:=none) hl (Heap.IsSliceOf.new ..) .none pu' .none (by simp) ?_ (by rw [vsz rs];exact hz)⟩
 have kp2:∀ b o,s.heap.get? b=some o->((s.heap.push { cls:=.type "slice",data:=.fields #[.none,.int k u,.none] }).push { cls:=.type "list",data:=.seq (slicePick vs.toArray none (some (k:Int)) none) }).get? b=some o:=fun b o e=>Zu _ (kp b o e)
 have e1:=Zz (s.heap.push { cls:=.type "slice",data:=.fields #[.none,.int k u,.none] }) (o:={ cls:=.type "list",data:=.seq (slicePick vs.toArray none (some (k:Int)) none) }) rfl
 have ep:slicePick vs.toArray none (some (k:Int)) none=(vs.take k).toArray:=by
  rw [slicePick_plain]
  show ((vs.drop 0).take (clipAt vs.toArray.size (k:Int) - 0)).toArray=_
  rw [clipAt_nat,size_toArray,List.drop_zero,Nat.sub_zero,<- List.take_eq_take_min]
 rw [ep] at e1 kp2 ⊢
 exact mt (t:=s.toks) (vs:=vs.take k) S kp2 e1 (Heap.get?_none_of_le (by rw [Heap.size_push];exact Nat.le_succ _)) (VRs.keep (aq kp2) rs.take) q
theorem m0 {a:Addr}{xs:List AVal}{k:Nat} (ha:InBase c.G a xs) (hz:xs.length<=sizeLine) (q:∀ D,σ D=none->Q (.ref D) (σ.set D (.list (xs.take k)))):SliceOn c ρ (.ref a) none (some (k:Int)) σ Q X :=
 mC (fun h S=>ex1 ha fun vs z=>an2 z fun z rs=>by obtain ⟨o,e,q⟩:=z;exact ⟨vs,⟨o,S.base _ _ e,q⟩,rs.keep (aq S.base)⟩) hz q
theorem nB {a:Addr}{xs:List AVal}{k:Nat} (ha:σ a=some (.list xs)) (hz:xs.length<=sizeLine) (q:∀ D,σ D=none->Q (.ref D) (σ.set D (.list (xs.take k)))):SliceOn c ρ (.ref a) none (some (k:Int)) σ Q X :=
 mC (fun h S=>(S.obj a _ ha).list' fun vs n e rs=>⟨vs,⟨_,e,rfl,n,rfl⟩,rs⟩) hz q
theorem m3 {a:Addr}{xs:List Int} (x:Lib c) (cm:c.calm=true) (lv:2<=c.lv) (ha:InBase c.G a (xs.map .int)) (hz:xs.length<=63) (k:∀ σ' b D,Le σ σ'->DB σ' b D 0->Q (.ref b) σ'):GoV VR c ρ [.ref a] (fun vs=>call (.ref 529) vs) σ Q X:=by
 refine ai f529 x s!"o" s!"r" rfl s!"r" fun L₀=>?_
 refine af ?_
 refine ib Int rfl s!"cns" s!"cok" s!"cp" ?_
 ext
 refine m0 (k:=48) ha (sz (by rw [length_map];walk_at "o")) fun D₀ hD₀=>?_
 have e0:(xs.map AVal.int).take 48=(xs.take 48).map .int:=by rw [map_take]
 rw [e0]
 refine .mk (xs.take 48) .int .int _ (aG (Zs ..)) (fun σ' l=>l _ _ (Zs ..)) (sz (by rw [List.length_take];walk_at "o")) (fun cl C i hi σ₂ l₂=>?_) fun σ₂ D l₂ hD h₂=>?_
 ·ext
  refine sw ?_
  exact ⟨rfl,Le.refl _⟩
 refine ac s!"r" ?_
 have hcl:(xs.take 48).length<=48:=by rw [List.length_take];walk_at "o"
 generalize xs.take 48=cs at hcl h₂
 have l:=(Zl hD₀).trans l₂
 refine af ?_
 refine bq rfl ?_
 refine ev_int (ac s!"r" ?_)
 refine af ?_
 refine WS.mono (N':=fun ρ' σ'=>∃ g,0<=g/\ρ'=[⟨"script",.local,some (.ref a)⟩,⟨"cell",.local,none⟩,⟨"cells",.local,some (.ref D)⟩,⟨"great",.local,some (.int g)⟩,⟨"state",.local,none⟩,⟨"abs",.globalImplicit,none⟩]/\σ'=σ₂) ?_ (fun ρ' σ' z=>?_)
 ·refine qy ?_
  ext
  refine qU h₂ (by simp;walk_at "o") ?_
  refine aj (fun hq=>?_) (fun hq=>?_)
  ·ext
   have hq:cs≠[]:=fun z=>by rw [z] at hq;simp at hq
   have h0:0 < cs.length:=List.length_pos_iff.mpr hq
   refine aL (n:=0) (y:=.int cs[0]) h₂ (by decide) (by rw [getElem?_map,getElem?_eq_getElem h0];rfl) ?_
   ext
   refine qc ?_
   ext
   refine mL (by decide) (by decide +kernel) ?_
   ext
   refine aj (fun hq2=>?_) (fun hq2=>?_)
   ·ext
    refine aL (n:=0) (y:=.int cs[0]) h₂ (by decide) (by rw [getElem?_map,getElem?_eq_getElem h0];rfl) ?_
    ext
    refine qc ?_
    ext
    refine mL (by decide) (by decide +kernel) ?_
    ext
    exact ⟨_,(ey (Int.pow_pos (by decide))).1,rfl,rfl⟩
   ·ext
    exact ⟨0,by decide,rfl,rfl⟩
  ·ext
   exact ⟨0,by decide,rfl,rfl⟩
 ·obtain ⟨g⟩|⟨hg,rfl,ez⟩:=z
  rw [ez]
  clear ez σ'
  refine af ?_
  refine bq rfl ?_
  refine ev_int (ac s!"r" ?_)
  refine af ?_
  refine aX (α:=Int) .int rfl ?_
  ext
  let J1:=fun (r:List Int) (ρ':List NV) (σ':AState)=>∃ v s,ρ'=[⟨"script",.local,some (.ref a)⟩,⟨"cell",.local,v⟩,⟨"cells",.local,some (.ref D)⟩,⟨"great",.local,some (.int g)⟩,⟨"state",.local,some (.int s)⟩,⟨"abs",.globalImplicit,none⟩]/\σ'=σ'/\Le σ₂ σ'/\0<=s/\s < 2147483647
  refine ⟨cs,_,J1,aG h₂,(ei2 _ (1) (ai5 rfl rfl (Le.refl _) (by decide) (by decide))),fun _ _ σ' z=>ex2 z fun _ _ q=>by have l:=q.2.2.1;exact l _ _ h₂,?_,?_⟩
  ·intro y r ρ₁ σ₃ r1z
   obtain ⟨v,s⟩|⟨rfl,_,l₃,s0,s1⟩:=r1z
   refine ay rfl (ac s!"r" ?_)
   ext
   refine nj (.of_right (by decide +kernel)) ?_
   ext
   have q:=fun A=>ey (a:=A) (b:=2147483647) (by decide)
   exact Tidy.of (Le.refl _) (ei2 _ _ (ai5 rfl rfl l₃ ((q _).1) ((q _).2)))
  ·intro ρ₁ σ₃ r2z
   obtain ⟨v,s⟩|⟨rfl,_,l₃,s0,s1⟩:=r2z
   ext
   intro B hB
   have hDB:D≠B:=by rintro rfl;rw [l₃ _ _ h₂] at hB;cases hB
   refine k _ B D ((l.trans l₃).trans (Zl hB)) ⟨cs,g,s,0,Zs ..,?_,hDB,hg,s0,s1,by decide,by decide,hcl⟩
   rw [Zn hDB];exact l₃ _ _ h₂
end
section
variable {c:Cx}{ρ ρ' ρ₂:List NV}{σ σ₁ σ' τ:AState}{Q:AVal->AState->Prop}{X:AExc->AState->Prop}{b D:Addr}{n nx:Int}{S:StA}
theorem ec_Store {p pos:Pos} (x:Lib c) (lv:6<=c.lv) (l:LookG ρ "Store")
  (k:∀ σ' S A,Le σ σ'->Rep σ' S [⟨"INBOX",A,Bx.new "INBOX" 1⟩] [] 2->(∀ a∈aY S [⟨"INBOX",A,Bx.new "INBOX" 1⟩],σ a=none)->Q (.ref S.x) σ'):Ev c ρ (.Call (.Name "Store" p) [] [] pos) σ Q X:=by
 refine ev_make (ns:=storeNs) l (sX x) (sJ x) s!"o" (f311.fi x) f311.ok rfl ?_ s!"u"
 refine du ?_
 refine ⟨fun y hy=>f311.kinds' y hy,fun vs s hl _=>f311.bind vs s hl,fun L' rest o d ho hd hne=>?_⟩
 have h:=InitAt.start (σ:=σ) (o:=o) (d:=d) (C:=340) (ns:=storeNs) ho hd hne
 generalize ((σ.set d (.attrs storeNs fun _=>none)).set o (.inst 340 d))=τ at h ⊢
 show WSs _ [⟨"self",.local,some (.ref o)⟩,⟨"INBOX_store",.globalImplicit,none⟩,⟨"Box",.globalImplicit,none⟩] (_::_) _ _ _ _
 have ck:∀ {nm:Str},nm∈storeNs->takerIn ((c.mk' 340 rest).call fd311 311 L').K 340 nm=some none:=fun h=>sP x.toK h
 refine af (bU (σ:=σ) ?_)
 refine ev_dict ?_
 refine p0 ?_
 ext
 refine ec_Box s!"lib" s!"lv" s!"look" ?_
 ext
 refine ⟨_,_,rfl,fun σ₂ A l₂ hB hx1 hd1 hl1 hg1=>?_⟩
 refine qR ?_
 intro DB hDB
 ext
 have hτD:=aS l₂ hDB
 have h₂:=h.more (l₂.trans (Zl (o:=.dictS (mrg [] [("INBOX",.ref A.x)])) hDB))
 have hB₂:=hB.le (Zl (o:=.dictS (mrg [] [("INBOX",.ref A.x)])) hDB)
 have hm:(σ₂.set DB (.dictS (mrg [] [("INBOX",.ref A.x)]))) DB=some (.dictS [("INBOX",.ref A.x)]):=Zs ..
 generalize (σ₂.set DB (.dictS (mrg [] [("INBOX",.ref A.x)])))=σ₃ at h₂ hB₂ hm ⊢
 refine ⟨o,d,340,storeNs,_,rfl,h₂,dC x.toK,ck (by decide +kernel),by decide +kernel,by decide +kernel,fun τ₁ h₃ f₃=>?_⟩
 have hm₁:τ₁ DB=some (.dictS [("INBOX",.ref A.x)]):=f₃ _ _ hm fun z=>by rw [ZS z,h₂.fd] at hm;cases hm
 have hB₃:BoxAt τ₁ A ⟨"INBOX",1,1,1,0,[],[]⟩:=hB₂.fr f₃ (fun a ha=>by rw [ZS ha,h₂.fd];exact .attrs cL) fun a ha z=>by
  rw [ZS z] at ha
  exact hB₂.off h₂.fd (fun m q=>by injection q with q _;exact bG q) (fun xs q=>by cases q) ha
 refine af (bU (σ:=σ) ?_)
 ext
 refine ⟨by decide,fun G hG=>?_⟩
 ext
 have h₄:=h₃.more (Zl (o:=.list []) hG)
 have hB₄:=hB₃.le (Zl (o:=.list []) hG)
 have hm₂:=Zl (o:=.list []) hG _ _ hm₁
 have hG₂:(τ₁.set G (.list [])) G=some (.list []):=Zs ..
 have hGf:=c7 hB₃ hG
 generalize (τ₁.set G (.list []))=τ₂ at h₄ hB₄ hm₂ hG₂ ⊢
 refine ⟨o,d,340,storeNs,_,rfl,h₄,dC x.toK,ck (by decide +kernel),by decide +kernel,by decide +kernel,fun τ₃ h₅ f₅=>?_⟩
 have ne:∀ a ob,τ₂ a=some ob->(∀ m,ob≠.attrs storeNs m)->τ₃ a=some ob:=fun a ob e n=>f₅ _ _ e fun z=>by
  rw [ZS z,h₄.fd] at e;cases e;exact n _ rfl
 have hm₃:=ne _ _ hm₂ (by simp)
 have hG₃:=ne _ _ hG₂ (by simp)
 have hB₅:BoxAt τ₃ A ⟨"INBOX",1,1,1,0,[],[]⟩:=hB₄.fr f₅ (fun a ha=>by rw [ZS ha,h₄.fd];exact .attrs cL) fun a ha z=>by
  rw [ZS z] at ha
  exact hB₄.off h₄.fd (fun m q=>by injection q with q _;exact bG q) (fun xs q=>by cases q) ha
 refine af (bU (σ:=σ) ?_)
 ext
 refine ⟨o,d,340,storeNs,_,rfl,h₅,dC x.toK,ck (by decide +kernel),by decide +kernel,by decide +kernel,fun τ₄ h₆ f₆=>?_⟩
 have ne2:∀ a ob,τ₃ a=some ob->(∀ m,ob≠.attrs storeNs m)->τ₄ a=some ob:=fun a ob e n=>f₆ _ _ e fun z=>by
  rw [ZS z,h₅.fd] at e;cases e;exact n _ rfl
 have hB₆:BoxAt τ₄ A ⟨"INBOX",1,1,1,0,[],[]⟩:=hB₅.fr f₆ (fun a ha=>by rw [ZS ha,h₅.fd];exact .attrs cL) fun a ha z=>by
  rw [ZS z] at ha
  exact hB₅.off h₅.fd (fun m q=>by injection q with q _;exact bG q) (fun xs q=>by cases q) ha
 ext
 refine k τ₄ ⟨o,d,DB,G⟩ A h₆.le ⟨⟨h₆.fx,?_⟩,ne2 _ _ hm₃ (by simp),fun e he=>?_,ne2 _ _ hG₃ (by simp),fun e he=>?_,by simp,?_,fun e he=>?_⟩ ?_
 ·exact h₆.fd.trans (congrArg (fun m=>some (AObj.attrs storeNs m)) (iU (l:=[("boxes",.ref DB),("subscribed",.ref G),("next_validity",.int 2)]) (show storeNs.Nodup by decide +kernel)))
 ·rw [ZS he];exact hB₆
 ·rw [ZS he];rfl
 ·simpa using dn hB₆.dl.symm hB₆.dg.symm hB₆.lg
 ·rw [ZS he];exact hGf
 ·intro a ha
  simp only [aY,BxA.foot,mem_cons,flatMap_cons,List.flatMap_nil,append_nil,not_mem_nil,or_false] at ha
  rcases ha with rfl | rfl | rfl | rfl | rfl | rfl
  ·exact hd
  ·exact aS h.le hτD
  ·exact aS h₃.le hG
  ·exact aS h.le hd1
  ·exact aS h.le hl1
  ·exact aS h.le hg1
end
theorem mW {acc:List Str}{f:Str} (h:acc.any (· == f)=true):aP acc f=acc:=by unfold aP;rw [if_pos h]
theorem k6 {acc:List Str}{f:Str} (h:acc.any (· == f)=false):aP acc f=acc++[f]:=by unfold aP;rw [if_neg (by rw [h];decide)]
theorem dL:∀ {fs acc:List Str},fs.Nodup->(∀ f∈fs,aA f=some f)->aF acc fs=some (acc++fs.filter fun f=>!(acc.any (· == f)))
 | [],acc,_,_=>by simp [aF]
 | f::fs,acc,nd,h=>by
  rw [nodup_cons] at nd
  unfold aF
  rw [h f (.head _)]
  show aF (aP acc f) fs=_
  rw [dL nd.2 fun g hg=>h g (.tail _ hg),filter_cons]
  cases q:acc.any (· == f) with
  | true=>rw [mW q];simp
  | false =>
   rw [k6 q]
   have:(fs.filter fun g=>!((acc++[f]).any (· == g)))=fs.filter fun g=>!(acc.any (· == g)):=by
    apply filter_congr
    intro g hg
    have hne:(f == g)=false:=by
     have:f≠g:=fun e=>nd.1 (by rw [e];exact hg)
     simpa using this
    rw [List.any_append];simp [hne]
   rw [this];simp
theorem eg:∀ (a b acc:List Str),aF acc (a++b)=(aF acc a).bind fun x=>aF x b
 | [],b,acc=>rfl
 | f::a,b,acc=>by
  rw [cons_append]
  show ((aA f).bind fun n=>aF (aP acc n) (a++b))=((aA f).bind fun n=>aF (aP acc n) a).bind fun x=>aF x b
  cases aA f with
  | none=>rfl
  | some n=>exact eg a b (aP acc n)
theorem iO {lf ns:List Str} (h1:ae lf=some lf) (h2:ae ns=some ns):ae (lf++ns)=some (bf (lf++ns.filter fun f=>!(lf.any (· == f)))):=by
 refine an4 (aR h1) fun a1 a2 a3 _=>?_
 refine an4 (aR h2) fun b1 b2 b3 _=>?_
 unfold ae
 rw [eg,cW (by simpa using a1) a2]
 show (aF ([]++lf) ns).map bf=_
 rw [List.nil_append,dL b1 b2];rfl
theorem jO {un:Option Int}{way:Str}{fs:List Str}:∀ (Ls:List Ltr) (st:Bx × List Int),Asc st.1.letters->Asc (Ls.foldl (bh un way fs) st).1.letters/\(Ls.foldl (bh un way fs) st).1.letters.length=st.1.letters.length/\(Ls.foldl (bh un way fs) st).2.length<=st.2.length+Ls.length
 | [],st,h=>⟨h,rfl,by simp⟩
 | L::Ls,st,h=>by
  rw [foldl_cons]
  have hs:Asc (bh un way fs st L).1.letters/\(bh un way fs st L).1.letters.length=st.1.letters.length/\(bh un way fs st L).2.length<=st.2.length+1:=by
   unfold bh
   split
   ·exact ⟨h,rfl,by walk_at "o"⟩
   ·have e:=eH (B:=st.1) (u:=L.uid) (ns:=aH L.flags way fs) h
    refine ⟨by rw [asc_uids];dsimp only;rw [e,<- asc_uids];exact h,?_,?_⟩
    ·have:=congrArg List.length e
     simpa using this
    ·dsimp only;split<;>simp
  obtain ⟨a,b,d⟩:=jO Ls _ hs.1
  refine ⟨a,b.trans hs.2.1,?_⟩
  rw [length_cons];walk_at "o"
noncomputable def K5:List Str:=["Key", "\\Deleted", "\\Flagged", "\\Seen", "key"]
noncomputable def K5Ok (fs:List Str):Prop:=ae fs=some fs/\∀ f∈fs,f∈K5
theorem cS {α:Type} [DecidableEq α]:∀ {l m:List α},l.Nodup->(∀ a∈l,a∈m)->l.length<=m.length
 | [],_,_,_=>Nat.zero_le _
 | a::l,m,nd,h=>by
  rw [nodup_cons] at nd
  have hm:=h a (.head _)
  have:=cS (l:=l) (m:=m.erase a) nd.2 fun b hb=>(List.mem_erase_of_ne (fun e=>nd.1 (by rw [<- e];exact hb))).mpr (h b (.tail _ hb))
  rw [List.length_erase_of_mem hm] at this
  have:0 < m.length:=List.length_pos_of_mem hm
  rw [length_cons];walk_at "o"
theorem K5_short:∀ f∈K5,f.length<=20:=by decide +kernel
theorem K5Ok.len {fs:List Str} (h:K5Ok fs):fs.length<=5:=cS (aR h.1).1 h.2
theorem K5Ok.canon {fs:List Str} (h:K5Ok fs):Canon fs:=⟨h.1,fun t ht=>Zt (K5_short t (h.2 t ht)) (by decide),Nat.lt_of_le_of_lt h.len (by decide)⟩
theorem pL:∀ fs∈bX,∀ t∈fs,((aA t).map fun u=>K5.contains u).getD true=true:=by decide +kernel
theorem K5Ok.drawn {fs ns:List Str} (h:fs∈bX) (e:ae fs=some ns):K5Ok ns:=by
 refine ⟨cF e,fun u hu=>?_⟩
 obtain ⟨t⟩|⟨ht,hn⟩:=(((aR e).2.2.2 u).mp hu)
 have:=pL fs h t ht
 rw [hn] at this
 simpa using this
theorem K5Ok.after {lf ns:List Str}{way:Str} (h1:K5Ok lf) (h2:K5Ok ns):K5Ok (aH lf way ns):=by
 refine ⟨cb h1.1 h2.1,fun f hf=>?_⟩
 unfold aH at hf
 split at hf
 ·rw [iO h1.1 h2.1] at hf
  have hf:f∈bf (lf++ns.filter fun f=>!(lf.any (· == f))):=hf
  rcases ZA ((aC _).subset hf) with h | h
  ·exact h1.2 f h
  ·exact h2.2 f (ZF h).1
 ·split at hf
  ·exact h1.2 f (ZF hf).1
  ·exact h2.2 f hf
noncomputable def IsBytes (a:AVal):Prop:=∃ b t,a=.bytes b t
structure BxI (n t:Nat) (B:Bx):Prop where
 asc:Asc B.letters
 below:∀ L∈B.letters,1<=L.uid/\L.uid < B.next
 flags:∀ L∈B.letters,K5Ok L.flags
 octs:∀ L∈B.letters,IsBytes L.oct
 next1:1<=B.next
 next:B.next<=1+n
 len:B.letters.length+B.gone.length<=n
 top:B.top<=1+t
section
variable {n t n' t':Nat}{B:Bx}
theorem BxI.mono (h:BxI n t B) (hn:n<=n') (ht:t<=t'):BxI n' t' B:=⟨h.asc,h.below,h.flags,h.octs,h.next1,by have:=h.next;walk_at "o",by have:=h.len;walk_at "o",by have:=h.top;walk_at "o"⟩
theorem BxI.new (nm:Str) (v:Int):BxI 0 0 (Bx.new nm v):=⟨.nil,(fun L hL=>by cases hL),(fun L hL=>by cases hL),(fun L hL=>by cases hL),(by show (1:Int)<=1;decide),(by show (1:Int)<=1+((0:Nat):Int);decide),(by show 0+0<=0;decide),(by show (1:Int)<=1+((0:Nat):Int);decide)⟩
theorem BxI.add {oct:AVal}{fs:List Str}{i:Int} (h:BxI n t B) (hf:K5Ok fs) (ho:IsBytes oct):BxI (n+1) (t+1) (B.add oct fs i):=by
 have h1:=h.next1;have h2:=h.next;have h3:=h.len;have h4:=h.top
 refine ⟨?_,fun L hL=>?_,fun L hL=>?_,fun L hL=>?_,?_,?_,?_,?_⟩
 ·show (B.letters++[_]).Pairwise _
  rw [List.pairwise_append]
  refine ⟨h.asc,by simp,fun a ha b hb=>?_⟩
  rw [ZS hb];exact (h.below a ha).2
 ·show 1<=L.uid/\L.uid < B.next+1
  rcases ZA hL with hL | hL
  ·have:=h.below L hL;walk_at "o"
  ·rw [ZS hL];show 1<=B.next/\B.next < B.next+1;walk_at "o"
 ·rcases ZA hL with hL | hL
  ·exact h.flags L hL
  ·rw [ZS hL];exact hf
 ·rcases ZA hL with hL | hL
  ·exact h.octs L hL
  ·rw [ZS hL];exact ho
 ·show 1<=B.next+1;walk_at "o"
 ·show B.next+1<=1+((n+1:Nat):Int);walk_at "o"
 ·show (B.letters++[_]).length+B.gone.length<=n+1
  simp;walk_at "o"
 ·show B.top+1<=1+((t+1:Nat):Int);walk_at "o"
theorem BxI.addAll:∀ {Ls:List Ltr}{n t:Nat}{B:Bx},BxI n t B->(∀ L∈Ls,K5Ok L.flags/\IsBytes L.oct)->BxI (n+Ls.length) (t+Ls.length) (B.addAll Ls)
 | [],_,_,_,h,_=>h
 | L::Ls,n,t,B,h,hf=>by
  have:=BxI.addAll (Ls:=Ls) (h.add (oct:=L.oct) (i:=L.instant) (hf L (.head _)).1 (hf L (.head _)).2) fun M hM=>hf M (.tail _ hM)
  rw [length_cons]
  exact (this.mono s!"o" s!"o")
theorem hV (ha:Asc B.letters) (u:Int) (ns:List Str):(B.turn u ns).1=B\/∃ i L,B.letters[i]?=some L/\L.uid=u/\(B.turn u ns).1=B.put i u L ns:=by
 by_cases h:∃ L∈B.letters,L.uid=u
 ·obtain ⟨L⟩|⟨hL,e⟩:=h
  obtain ⟨i,hi⟩:=List.mem_iff_getElem?.mp hL
  rw [Bx.turn_at ha hi e]
  split
  ·exact .inl rfl
  ·exact .inr ⟨i,L,hi,e,rfl⟩
 ·obtain ⟨e1,e2⟩:=fE (Ls:=B.letters) (u:=u) (fun L hL e=>h ⟨L,hL,e⟩)
  left;unfold Bx.turn;rw [e1,e2]
theorem BxI.turn {u:Int}{ns:List Str} (h:BxI n t B) (hf:K5Ok ns):BxI n (t+1) (B.turn u ns).1:=by
 rcases hV h.asc u ns with e | ⟨i,L,hi,hu,e⟩
 ·rw [e];exact h.mono (Nat.le_refl _) (Nat.le_succ _)
 ·have hu2:=eH (B:=B) (u:=u) (ns:=ns) h.asc
  rw [e] at hu2 ⊢
  have hin:=mem_of_getElem? hi
  have h4:=h.top
  have hmem:∀ M∈(B.put i u L ns).letters,M∈B.letters\/M=⟨u,L.oct,ns,L.instant,B.top+1⟩:=fun M hM=>List.mem_or_eq_of_mem_set hM
  refine ⟨by rw [asc_uids,hu2,<- asc_uids];exact h.asc,fun M hM=>?_,fun M hM=>?_,fun M hM=>?_,h.next1,h.next,?_,?_⟩
  ·rcases hmem M hM with hM | rfl
   ·exact h.below M hM
   ·show 1<=u/\u < B.next
    rw [<- hu];exact h.below L hin
  ·rcases hmem M hM with hM | rfl
   ·exact h.flags M hM
   ·exact hf
  ·rcases hmem M hM with hM | rfl
   ·exact h.octs M hM
   ·exact h.octs L hin
  ·show (B.letters.set i _).length+B.gone.length<=n
   rw [List.length_set];exact h.len
  ·show B.top+1<=1+((t+1:Nat):Int);walk_at "o"
theorem BxI.steps {un:Option Int}{way:Str}{fs:List Str} (hf:K5Ok fs):∀ {Ls:List Ltr}{t:Nat}{st:Bx × List Int},BxI n t st.1->(∀ L∈Ls,K5Ok L.flags)->BxI n (t+Ls.length) (Ls.foldl (bh un way fs) st).1
 | [],_,_,h,_=>h
 | L::Ls,t,st,h,hl=>by
  rw [foldl_cons]
  have h1:BxI n (t+1) (bh un way fs st L).1:=by
   unfold bh
   split
   ·exact h.mono (Nat.le_refl _) (Nat.le_succ _)
   ·exact h.turn ((hl L (.head _)).after hf)
  have:=BxI.steps (un:=un) (way:=way) hf (Ls:=Ls) h1 fun M hM=>hl M (.tail _ hM)
  rw [length_cons]
  exact this.mono (Nat.le_refl _) s!"o"
theorem pS (B:Bx) (us:List Int):(B.letters.filter fun L=>!us.contains L.uid).length+(B.left us).length=B.letters.length:=by
 unfold Bx.left
 induction B.letters with
 | nil=>rfl
 | cons L Ls ih =>
  rw [filter_cons,map_cons,filter_cons]
  cases us.contains L.uid<;>simp at ih ⊢<;>walk_at "o"
theorem BxI.expunge {us:List Int} (h:BxI n t B):BxI n (t+1) (B.expunge us):=by
 unfold Bx.expunge
 split
 ·exact h.mono (Nat.le_refl _) (Nat.le_succ _)
 ·have h3:=h.len;have h4:=h.top
  have hl:=pS B us
  refine ⟨h.asc.sublist filter_sublist,fun L hL=>h.below L (ZF hL).1,fun L hL=>h.flags L (ZF hL).1,fun L hL=>h.octs L (ZF hL).1,h.next1,h.next,?_,?_⟩
  ·show (B.letters.filter fun L=>!us.contains L.uid).length+(B.gone++(B.left us).map fun u=>(u,B.top+1)).length<=n
   rw [length_append,length_map];walk_at "o"
  ·show B.top+1<=1+((t+1:Nat):Int);walk_at "o"
theorem BxI.forget {m:Int} (h:BxI n t B):BxI n t (B.forget m):=by
 unfold Bx.forget
 split
 ·exact h
 ·refine ⟨h.asc,h.below,h.flags,h.octs,h.next1,h.next,?_,h.top⟩
  have h3:=h.len
  show B.letters.length+(B.kept m).length<=n
  have:(B.kept m).length<=B.gone.length:=length_filter_le _ _
  walk_at "o"
end
theorem dQ:∀ t∈bv,(aa t).length<=20:=by decide +kernel
theorem nY:∀ us∈cv,us.length<=4:=by decide +kernel
structure StoInv (k:Nat) (s:Sto):Prop where
 box:∀ e∈s.boxes,BxI (4 * k) (5 * k) e.2
 good:∀ e∈s.boxes,aM e.1=true/\aa e.1=e.1/\e.1.length<=20 * (k+1)
 keys:(s.boxes.map (·.1)).Nodup
 count:s.boxes.length<=k+1
 names:s.names.length<=k
 sorted:s.names.Pairwise (fun a b=>leS a b=true)
 once:s.names.Nodup
 next:s.next<=2+4 * k
section
variable {k:Nat}{s s':Sto}{B:Bx}{f:Str}
theorem aV {bs:Boxes} (h:ak bs f=some B):(f,B)∈bs:=by
 unfold ak at h
 obtain ⟨e⟩|⟨he,rfl⟩:=(Option.map_eq_some_iff.mp h)
 have h1:=mem_of_find?_eq_some he
 have h2:e.1=f:=by simpa using find?_some he
 rw [<- h2];exact h1
theorem jt {bs:Boxes} (h:(ak bs f).isNone=true):f∉bs.map (·.1):=fun z=>by
 obtain ⟨e⟩|⟨he,rfl⟩:=(ZM z)
 unfold ak at h
 rw [Option.isNone_map,Option.isNone_iff_eq_none] at h
 have:=List.find?_eq_none.mp h e he
 simp at this
theorem setB_keys {bs:Boxes}:(setB bs f B).map (·.1)=bs.map (·.1):=by
 unfold setB;rw [map_map]
 apply map_congr_left
 intro e _
 show (if e.1=f then (f,B) else e).1=e.1
 split
 ·rename_i h;exact h.symm
 ·rfl
theorem df {bs:Boxes}{e:Str × Bx} (h:e∈setB bs f B):(e∈bs)\/(e=(f,B)/\f∈bs.map (·.1)):=by
 obtain ⟨d⟩|⟨hd,rfl⟩:=(ZM h)
 by_cases q:d.1=f
 ·refine .inr ⟨by rw [if_pos q],?_⟩
  rw [<- q];exact mem_map_of_mem hd
 ·exact .inl (by rw [if_neg q];exact hd)
theorem StoInv.mono (h:StoInv k s):StoInv (k+1) s :=
 ⟨fun e he=>(h.box e he).mono s!"o" s!"o",fun e he=>by have:=h.good e he;exact ⟨this.1,this.2.1,by walk_at "o"⟩,h.keys,by have:=h.count;walk_at "o",by have:=h.names;walk_at "o",h.sorted,h.once,by have:=h.next;walk_at "o"⟩
theorem StoInv.ok (h:StoInv k s) (hk:k<=9):StoOk 60 s:=by
 refine ⟨fun e he=>?_,fun e he=>?_,by have:=h.count;walk_at "o",by have:=h.names;walk_at "o",by have:=h.next;walk_at "o"⟩
 ·have b:=h.box e he
  have h1:=b.next;have h2:=b.len;have h3:=b.top
  exact ⟨b.asc,fun L hL=>(b.flags L hL).canon,by walk_at "o",by walk_at "o",by walk_at "o",by walk_at "o"⟩
 ·have:=h.good e he
  exact ⟨this.1,this.2.1,by walk_at "o"⟩
theorem StoInv.setB (h:StoInv k s) (hB:BxI (4 * (k+1)) (5 * (k+1)) B):StoInv (k+1) { s with boxes:=Mine.setB s.boxes f B }:=by
 have hm:=h.mono
 refine ⟨fun e he=>?_,fun e he=>?_,?_,?_,hm.names,hm.sorted,hm.once,hm.next⟩
 ·rcases df he with he | ⟨rfl,_⟩
  ·exact hm.box e he
  ·exact hB
 ·rcases df he with he | ⟨rfl,hf⟩
  ·exact hm.good e he
  ·obtain ⟨d⟩|⟨hd,hn⟩:=(ZM hf)
   have:=hm.good d hd
   rw [hn] at this;exact this
 ·show ((Mine.setB s.boxes f B).map _).Nodup
  rw [setB_keys];exact h.keys
 ·show (Mine.setB s.boxes f B).length<=_
  unfold Mine.setB;rw [length_map];exact hm.count
theorem StoInv.add (h:StoInv k s) (hB:BxI (4 * (k+1)) (5 * (k+1)) B) (h1:aM f=true) (h2:aa f=f) (h3:f.length<=20) (h4:f∉s.boxes.map (·.1)) {v:Int} (hv:v<=2+4 * (k+1)):StoInv (k+1) ⟨s.boxes++[(f,B)],s.names,v⟩:=by
 have hm:=h.mono
 refine ⟨fun e he=>?_,fun e he=>?_,?_,?_,hm.names,hm.sorted,hm.once,by push_cast;walk_at "o"⟩
 ·rcases ZA he with he | he
  ·exact hm.box e he
  ·rw [ZS he];exact hB
 ·rcases ZA he with he | he
  ·exact hm.good e he
  ·rw [ZS he];exact ⟨h1,h2,by show f.length<=_;walk_at "o"⟩
 ·show ((s.boxes++[(f,B)]).map _).Nodup
  rw [map_append,nodup_append]
  refine ⟨h.keys,by simp,fun a ha b hb=>?_⟩
  have hb:b=f:=by simpa using hb
  subst hb
  rintro rfl;exact h4 ha
 ·show (s.boxes++[(f,B)]).length<=_
  have:=h.count
  simp;walk_at "o"
theorem StoInv.ren {h:Str} (H:StoInv k s) (h1:aM h=true) (h2:aa h=h) (h3:h.length<=20) (hno:(ax (s.boxes.map (·.1)) f h).any (fun p=>(ak s.boxes p.2).isSome)=false) :
  StoInv (k+1) { s with boxes:=renB s.boxes (ax (s.boxes.map (·.1)) f h) }:=by
 have hm:=H.mono
 have e0:s.boxes=(s.boxes.map fun e=>(⟨e.1,⟨0,0,0,0⟩,e.2⟩:Ent)).map fun e=>(e.n,e.B):=by rw [map_map];exact (map_id _).symm
 have e1:(s.boxes.map fun e=>(⟨e.1,⟨0,0,0,0⟩,e.2⟩:Ent)).map (·.n)=s.boxes.map (·.1):=by rw [map_map];rfl
 generalize hE:(s.boxes.map fun e=>(⟨e.1,⟨0,0,0,0⟩,e.2⟩:Ent))=Es at e0 e1
 have kd:(Es.map (·.n)).Nodup:=by rw [e1];exact H.keys
 obtain ⟨ts⟩|⟨q1,q2,q3,q4⟩:=(i3 (f:=f) (h:=h) kd)
 rw [e1] at q1
 have q5:∀ t∈ts,t.2∉Es.map (·.n):=fun t ht z=>by
  have:=List.any_eq_false.mp hno (t.1.n,t.2) (by rw [q1];exact mem_map_of_mem (f:=fun t:Ent × Str=>(t.1.n,t.2)) ht)
  obtain ⟨e,he⟩:=jz z
  rw [e0,dW,he] at this
  exact this rfl
 have eb:renB s.boxes (ax (s.boxes.map (·.1)) f h)=(bp Es ts++ts.map aW).map fun e=>(e.n,e.B):=by
  rw [q1]
  conv=>lhs;rw [e0]
  exact j4 q2
 have inb:∀ e∈Es,(e.n,e.B)∈s.boxes:=fun e he=>by rw [e0];exact mem_map_of_mem (f:=fun e:Ent=>(e.n,e.B)) he
 have hps:∀ t∈ts,(t.1.n=f\/aU t.1.n f=true)/\t.2=be t.1.n f h:=fun t ht=>by
  have:=dq (ks:=s.boxes.map (·.1)) (f:=f) (h:=h) (p:=(t.1.n,t.2)) (by rw [q1];exact mem_map_of_mem (f:=fun t:Ent × Str=>(t.1.n,t.2)) ht)
  exact ⟨this.2.1,this.2.2⟩
 have mem:∀ e∈(bp Es ts++ts.map aW).map (fun e=>(e.n,e.B)),(e∈s.boxes)\/∃ t∈ts,e=(t.2,{ t.1.B with name:=t.2 }):=fun e he=>by
  obtain ⟨d⟩|⟨hd,rfl⟩:=(ZM he)
  rcases ZA hd with hd | hd
  ·exact .inl (inb d ((aE _ _).subset hd))
  ·obtain ⟨t⟩|⟨ht,rfl⟩:=(ZM hd)
   exact .inr ⟨t,ht,rfl⟩
 refine ⟨fun e he=>?_,fun e he=>?_,?_,?_,hm.names,hm.sorted,hm.once,hm.next⟩
 ·rcases mem e (by rw [<- eb];exact he) with he | ⟨t,ht,rfl⟩
  ·exact hm.box e he
  ·have b:=hm.box _ (inb _ (q2 t ht).1)
   exact ⟨b.asc,b.below,b.flags,b.octs,b.next1,b.next,b.len,b.top⟩
 ·rcases mem e (by rw [<- eb];exact he) with he | ⟨t,ht,rfl⟩
  ·exact hm.good e he
  ·have g:=H.good _ (inb _ (q2 t ht).1)
   obtain ⟨a,b⟩:=hps t ht
   have:=fP g.1 h1 h2 a
   have hl:=gC t.1.n f h
   show aM t.2=true/\aa t.2=t.2/\t.2.length<=_
   rw [b]
   have g3:t.1.n.length<=20 * (k+1):=g.2.2
   exact ⟨this.1,this.2,by walk_at "o"⟩
 ·show ((renB s.boxes _).map _).Nodup
  rw [eb,map_map]
  show ((bp Es ts++ts.map aW).map (·.n)).Nodup
  rw [map_append,nodup_append]
  refine ⟨kd.sublist ((aE _ _).map _),by rw [map_map];exact q4,fun a ha b hb=>?_⟩
  rintro rfl
  rw [map_map] at hb
  obtain ⟨t⟩|⟨ht,hq⟩:=(ZM hb)
  exact q5 t ht (by rw [show t.2=a from hq];exact ((aE Es ts).map _).subset ha)
 ·show (renB s.boxes _).length<=_
  rw [eb,length_map,length_append,length_map]
  have hl:((bp Es ts).map (·.n)++ts.map (·.1.n)).length<=(Es.map (·.n)).length:=by
   refine cS ?_ fun a ha=>?_
   ·rw [nodup_append]
    refine ⟨kd.sublist ((aE _ _).map _),q3,fun a ha b hb=>?_⟩
    rintro rfl
    obtain ⟨e⟩|⟨he,rfl⟩:=(ZM ha)
    obtain ⟨t⟩|⟨ht,hq⟩:=(ZM hb)
    exact eu he t ht hq
   ·rcases ZA ha with ha | ha
    ·exact ((aE _ _).map _).subset ha
    ·obtain ⟨t⟩|⟨ht,rfl⟩:=(ZM ha)
     exact mem_map_of_mem (q2 t ht).1
  rw [length_append,length_map,length_map,e1,length_map] at hl
  have:=H.count
  walk_at "o"
end
theorem pK {α:Type}{c:Prop} [Decidable c] {x y:α}{G:Prop} (h:(if c then some x else none)=some y) (k:c->x=y->G):G:=by
 by_cases z:c
 ·rw [if_pos z] at h;exact k z (Option.some.inj h)
 ·rw [if_neg z] at h;cases h
theorem qp {α:Type}{c:Prop} [Decidable c] {x:Option α}{y:α}{G:Prop} (h:(if c then none else x)=some y) (k:¬ c->x=some y->G):G:=by
 by_cases z:c
 ·rw [if_pos z] at h;cases h
 ·rw [if_neg z] at h;exact k z h
theorem gH {α β:Type}{P:α->β->Prop}{a a':α}{b b':β} (e:some (a,b)=some (a',b')) (k:P a b):P a' b':=by
 have e:=Option.some.inj e
 rw [<- (Prod.mk.inj e).1,<- (Prod.mk.inj e).2];exact k
theorem ite2 {α β:Type}{c:Prop} [Decidable c] {P:α->β->Prop}{a a':α}{b b':β} (e:(if c then some (a,b) else none)=some (a',b')) (k:c->P a b):P a' b':=pK e fun h z=>gH (congrArg some z) (k h)
theorem rO {α β:Type}{c:Prop} [Decidable c] {P:α->β->Prop}{a a':α}{b b':β} (e:(if c then none else some (a,b))=some (a',b')) (k:¬ c->P a b):P a' b':=qp e fun h z=>gH z (k h)
theorem fJ {M:Deed->Sto->Res->Prop}{s:Sto}
  (h1:∀ n v,aM (aa n)=true->ak s.boxes (aa n)=none->s.next<=v->v < 4294967295->M (.create n v) ⟨s.boxes++[(aa n,Bx.new (aa n) v)],s.names,v+1⟩ (.v (.int v)))
  (h2:∀ n B,ak s.boxes (aa n)=some B->aa n ≠ "INBOX" -> M (.delete n) { s with boxes:=delB s.boxes (aa n) } (.v (.int B.validity)))
  (h3:∀ n g B,ak s.boxes (aa n)=some B->aM (aa g)=true->ak s.boxes (aa g)=none->aa n = "INBOX" -> s.next < 4294967295 ->
   M (.rename n g) ⟨setB s.boxes (aa n) (B.expunge (B.letters.map (·.uid)))++[(aa g,(Bx.new (aa g) s.next).addAll B.letters)],s.names,s.next+1⟩ (.pairs [("INBOX",aa g)]))
  (h4:∀ n g B,ak s.boxes (aa n)=some B->aM (aa g)=true->ak s.boxes (aa g)=none->aa n ≠ "INBOX" -> ¬ ((ax (s.boxes.map (·.1)) (aa n) (aa g)).any (fun p=>(ak s.boxes p.2).isSome))=true ->
   M (.rename n g) { s with boxes:=renB s.boxes (ax (s.boxes.map (·.1)) (aa n) (aa g)) } (.pairs (ax (s.boxes.map (·.1)) (aa n) (aa g))))
  (h5:∀ n fs t b k B ns,ak s.boxes (aa n)=some B->ae fs=some ns->M (.append n fs t b k) { s with boxes:=setB s.boxes (aa n) (B.add (.bytes b k) ns t) } (.v (.tup [.int B.validity,.int B.next])))
  (h6:∀ n u fs B ns,ak s.boxes (aa n)=some B->ae fs=some ns->(b7 B.letters u).isSome=true->M (.flags n u fs) { s with boxes:=setB s.boxes (aa n) (B.turn u ns).1 } (.v (.bool (B.turn u ns).2)))
  (h7:∀ n us way fs un B ns,ak s.boxes (aa n)=some B->ae fs=some ns->M (.store n us way fs un) { s with boxes:=setB s.boxes (aa n) (B.storeF (if un < 0 then none else some un) way ns us).1 }
   (.two (B.storeF (if un < 0 then none else some un) way ns us).2 (((B.picked us).filter (bP (if un < 0 then none else some un))).map (·.uid))))
  (h8:∀ n us B,ak s.boxes (aa n)=some B->M (.expunge n us) { s with boxes:=setB s.boxes (aa n) (B.expunge us) } (.v (b0 (B.left us))))
  (h9:∀ mv n us g B G,ak s.boxes (aa n)=some B->ak s.boxes (aa g)=some G->us.all (fun u=>(b7 B.letters u).isSome)=true ->
   M (.copy mv n us g) { s with boxes:=mvIn s.boxes (aa n) (aa g) B G (B.picked us) mv } (.v (.tup [.int G.validity,b0 ((B.picked us).map (·.uid)),b0 ((aB G.next (B.picked us)).map (·.2))])))
  (h10:∀ n,aM (aa n)=true->s.names.any (· == aa n)=true->M (.subscribe n) s (.v (.bool false)))
  (h11:∀ n,aM (aa n)=true->¬ s.names.any (· == aa n)=true->M (.subscribe n) { s with names:=bf (s.names++[aa n]) } (.v (.bool true)))
  (h12:∀ n,s.names.any (· == aa n)=true->M (.unsubscribe n) { s with names:=s.names.filter fun m=>m != aa n } (.v (.bool true)))
  (h13:∀ n m B,ak s.boxes (aa n)=some B->M (.forget n m) { s with boxes:=setB s.boxes (aa n) (B.forget m) } (.v (.int (B.forgot m))))
  {d:Deed}{s':Sto}{r:Res} (e:step s d=some (s',r)):M d s' r:=by
 cases d with
 | create n v =>
  refine ite2 e fun hc=>?_
  rw [Bool.and_eq_true,Bool.and_eq_true,Bool.and_eq_true] at hc
  exact h1 n v hc.1.1 (Option.isNone_iff_eq_none.mp hc.1.2) (of_decide_eq_true hc.2.1) (of_decide_eq_true hc.2.2)
 | delete n =>
  rw [step] at e
  cases hB:ak s.boxes (aa n) with
  | none=>rw [hB] at e;cases e
  | some B =>
   rw [hB] at e
   exact rO e fun hi=>h2 n B hB hi
 | rename n g =>
  rw [step] at e
  cases hB:ak s.boxes (aa n) with
  | none=>rw [hB] at e;cases e
  | some B =>
   rw [hB] at e
   dsimp only at e
   by_cases hc:(aM (aa g) && (ak s.boxes (aa g)).isNone)=true
   ·rw [if_pos hc] at e
    rw [Bool.and_eq_true] at hc
    by_cases hi:aa n = "INBOX"
    ·rw [if_pos hi] at e
     exact ite2 e fun hx=>h3 n g B hB hc.1 (Option.isNone_iff_eq_none.mp hc.2) hi hx
    ·rw [if_neg hi] at e
     exact rO e fun hno=>h4 n g B hB hc.1 (Option.isNone_iff_eq_none.mp hc.2) hi hno
   ·rw [if_neg hc] at e;cases e
 | append n fs t b k =>
  rw [step] at e
  cases hB:ak s.boxes (aa n) with
  | none=>rw [hB] at e;cases e
  | some B=>cases hf:ae fs with
   | none=>rw [hB,hf] at e;cases e
   | some ns=>rw [hB,hf] at e;exact gH e (h5 n fs t b k B ns hB hf)
 | flags n u fs =>
  rw [step] at e
  cases hB:ak s.boxes (aa n) with
  | none=>rw [hB] at e;cases e
  | some B=>cases hf:ae fs with
   | none=>rw [hB,hf] at e;cases e
   | some ns=>rw [hB,hf] at e;exact ite2 e fun hu=>h6 n u fs B ns hB hf hu
 | store n us way fs un =>
  rw [step] at e
  cases hB:ak s.boxes (aa n) with
  | none=>rw [hB] at e;cases e
  | some B=>cases hf:ae fs with
   | none=>rw [hB,hf] at e;cases e
   | some ns=>rw [hB,hf] at e;exact gH e (h7 n us way fs un B ns hB hf)
 | expunge n us =>
  rw [step] at e
  cases hB:ak s.boxes (aa n) with
  | none=>rw [hB] at e;cases e
  | some B=>rw [hB] at e;exact gH e (h8 n us B hB)
 | copy mv n us g =>
  rw [step] at e
  cases hB:ak s.boxes (aa n) with
  | none=>rw [hB] at e;cases e
  | some B=>cases hG:ak s.boxes (aa g) with
   | none=>rw [hB,hG] at e;cases e
   | some G=>rw [hB,hG] at e;exact ite2 e fun hu=>h9 mv n us g B G hB hG hu
 | subscribe n =>
  rw [step] at e
  by_cases hc:aM (aa n)=true
  ·rw [if_pos hc] at e
   by_cases ha:s.names.any (· == aa n)=true
   ·rw [if_pos ha] at e;exact gH e (h10 n hc ha)
   ·rw [if_neg ha] at e;exact gH e (h11 n hc ha)
  ·rw [if_neg hc] at e;cases e
 | unsubscribe n=>exact ite2 e fun ha=>h12 n ha
 | forget n m =>
  rw [step] at e
  cases hB:ak s.boxes (aa n) with
  | none=>rw [hB] at e;cases e
  | some B=>rw [hB] at e;exact gH e (h13 n m B hB)
section
variable {k:Nat}{s s':Sto}
theorem lb (bs:Boxes) (f:Str):(delB bs f).Sublist bs:=filter_sublist
theorem StoInv.setB' (h:StoInv k s) (hB:BxI (4 * k) (5 * k) B):StoInv k { s with boxes:=Mine.setB s.boxes f B }:=by
 refine ⟨fun e he=>?_,fun e he=>?_,?_,?_,h.names,h.sorted,h.once,h.next⟩
 ·rcases df he with he | he
  ·exact h.box e he
  ·rw [he.1];exact hB
 ·rcases df he with he | he
  ·exact h.good e he
  ·refine ex1 (ZM he.2) fun d q=>an2 q fun hd hn=>?_
   have:=h.good d hd
   rw [he.1];rw [hn] at this;exact this
 ·exact setB_keys.symm ▸ h.keys
 ·show (Mine.setB s.boxes f B).length<=_
  unfold Mine.setB;rw [length_map];exact h.count
theorem p4 {d:Deed}{r:Res} (h:StoInv k s) (hd:DeedIn s.next d) (e:step s d=some (s',r)):StoInv (k+1) s':=by
 have hm:=h.mono
 refine fJ (M:=fun d s' _=>DeedIn s.next d->StoInv (k+1) s') (fun n v h1 h2 h3 h4 hd=>?_) (fun n B hB hi hd=>?_) (fun n g B hB hc hf hi hx hd=>?_) (fun n g B hB hc hf hi hno hd=>?_) (fun n fs t b kk B ns hB hf hd=>?_)
  (fun n u fs B ns hB hf hu hd=>?_) (fun n us way fs un B ns hB hf hd=>?_) (fun n us B hB hd=>?_) (fun mv n us g B G hB hG hu hd=>?_) (fun n h1 h2 hd=>hm) (fun n h1 hno hd=>?_) (fun n h1 hd=>?_) (fun n m B hB hd=>?_) e hd
 ·have hv:=hd.2.2
  have hx:=h.next
  exact h.add ((BxI.new _ _).mono (Nat.zero_le _) (Nat.zero_le _)) h1 (cO n) (dQ n hd.1) (jt (by rw [h2];rfl)) s!"o"
 ·have sb:=lb s.boxes (aa n)
  exact ⟨fun e he=>hm.box e (sb.subset he),fun e he=>hm.good e (sb.subset he),hm.keys.sublist (sb.map _),Zt sb.length_le hm.count,hm.names,hm.sorted,hm.once,hm.next⟩
 ·have hb:=h.box _ (aV hB)
  have hs:StoInv (k+1) { s with boxes:=setB s.boxes (aa n) (B.expunge (B.letters.map (·.uid))) }:=h.setB (hb.expunge.mono s!"o" s!"o")
  have hx:=h.next
  have hl:=hb.len
  have hn:BxI (4 * (k+1)) (5 * (k+1)) ((Bx.new (aa g) s.next).addAll B.letters):=((BxI.new _ _).addAll fun L hL=>⟨hb.flags L hL,hb.octs L hL⟩).mono s!"o" s!"o"
  have hgl:=dQ g hd.2
  have hfo:=jt (by rw [hf];rfl:(ak s.boxes (aa g)).isNone=true)
  have hcnt:=h.count
  refine ⟨fun e he=>?_,fun e he=>?_,?_,?_,hm.names,hm.sorted,hm.once,by show s.next+1<=_;push_cast;walk_at "o"⟩
  ·rcases ZA he with he | he
   ·exact hs.box e he
   ·rw [ZS he];exact hn
  ·rcases ZA he with he | he
   ·exact hs.good e he
   ·rw [ZS he]
    exact ⟨hc,cO g,by show (aa g).length<=_;clear hs hn hb;walk_at "o"⟩
  ·have hk:=h.keys
   clear hs hn hb hm h
   show (List.map (fun e:Str × Bx=>e.1) (setB s.boxes (aa n) (B.expunge (B.letters.map fun L:Ltr=>L.uid))++[(aa g,(Bx.new (aa g) s.next).addAll B.letters)])).Nodup
   rw [map_append,nodup_append,setB_keys]
   exact ⟨hk,List.nodup_cons.mpr ⟨not_mem_nil,nodup_nil⟩,fun a ha b hb z=>hfo (by rw [z,ZS hb] at ha;exact ha)⟩
  ·clear hs hn hb hm h
   show (setB s.boxes (aa n) (B.expunge (B.letters.map fun L:Ltr=>L.uid))++[(aa g,(Bx.new (aa g) s.next).addAll B.letters)]).length<=_
   unfold setB
   rw [length_append,length_map]
   exact Zt (Nat.succ_le_succ hcnt) s!"o"
 ·exact h.ren hc (cO g) (dQ g hd.2) (Bool.eq_false_iff.mpr hno)
 ·exact h.setB (((h.box _ (aV hB)).add (K5Ok.drawn hd.2 hf) ⟨_,_,rfl⟩).mono s!"o" s!"o")
 ·exact h.setB (((h.box _ (aV hB)).turn (K5Ok.drawn hd.2 hf)).mono s!"o" s!"o")
 ·have hb:=h.box _ (aV hB)
  have hp:=cz B us
  have hu:=nY us hd.2.1
  exact h.setB ((BxI.steps (K5Ok.drawn hd.2.2.2 hf) (st:=(B,[])) hb (fun L hL=>hb.flags L (c6 B us L hL))).mono s!"o" s!"o")
 ·exact h.setB ((h.box _ (aV hB)).expunge.mono s!"o" s!"o")
 ·have hb:=h.box _ (aV hB)
  have hg:=h.box _ (aV hG)
  have hp:=cz B us
  have hu:=nY us hd.2.1
  have hga:BxI (4 * k+4) (5 * k+4) (G.addAll (B.picked us)):=(hg.addAll fun L hL=>⟨hb.flags L (c6 B us L hL),hb.octs L (c6 B us L hL)⟩).mono s!"o" s!"o"
  have h1:StoInv (k+1) { s with boxes:=setB s.boxes (aa g) (G.addAll (B.picked us)) }:=h.setB (hga.mono s!"o" s!"o")
  unfold mvIn
  cases mv with
  | false=>exact h1
  | true =>
   refine h1.setB' ?_
   by_cases q:aa n=aa g
   ·rw [if_pos q];exact hga.expunge.mono s!"o" s!"o"
   ·rw [if_neg q];exact hb.expunge.mono s!"o" s!"o"
 ·have hl:=h.names
  have ho:=h.once
  refine ⟨hm.box,hm.good,hm.keys,hm.count,?_,dS _,?_,hm.next⟩
  ·show (bf (s.names++[_])).length<=_
   rw [(aC _).length_eq,length_append];exact Zt (Nat.succ_le_succ hl) s!"o"
  ·clear hm h
   show (bf (s.names++[_])).Nodup
   rw [(aC _).nodup_iff,nodup_append]
   exact ⟨ho,List.nodup_cons.mpr ⟨not_mem_nil,nodup_nil⟩,fun a ha b hb z=>hno (List.any_eq_true.mpr ⟨a,ha,by rw [z,ZS hb];exact beq_self_eq_true _⟩)⟩
 ·have sb:(s.names.filter fun m=>m != aa n).Sublist s.names:=filter_sublist
  exact ⟨hm.box,hm.good,hm.keys,hm.count,Zt sb.length_le hm.names,hm.sorted.sublist sb,hm.once.sublist sb,hm.next⟩
 ·exact h.setB ((h.box _ (aV hB)).forget.mono s!"o" s!"o")
theorem pD:StoInv 0 ⟨[("INBOX",Bx.new "INBOX" 1)],[],2⟩:=by
 refine ⟨fun e he=>?_,fun e he=>?_,by simp,by simp,by simp,.nil,.nil,by decide⟩
 ·rw [ZS he];exact BxI.new _ _
 ·rw [ZS he];exact ⟨by decide +kernel,by decide +kernel,by decide +kernel⟩
theorem DeedIn.sz {nx:Int}{d:Deed} (h:DeedIn nx d):DeedSz d:=by
 have n9:∀ n∈bv,n.length<=300:=by decide +kernel
 have f5:∀ fs∈bX,(∀ t∈fs,t.length<=1000)/\fs.length < 32:=by decide +kernel
 have u4:∀ us∈cv,us.length<=60:=by decide +kernel
 cases d with
 | create n v=>exact n9 n h.1
 | delete n=>exact n9 n h
 | rename n g=>exact ⟨n9 n h.1,n9 g h.2⟩
 | append n fs t b k=>exact ⟨n9 n h.1,f5 fs h.2⟩
 | flags n u fs=>exact ⟨n9 n h.1,f5 fs h.2⟩
 | store n us way fs un=>exact ⟨n9 n h.1,u4 us h.2.1,h.2.2.1,f5 fs h.2.2.2⟩
 | expunge n us=>exact ⟨n9 n h.1,u4 us h.2⟩
 | copy mv n us g=>exact ⟨n9 n h.1,n9 g h.2.2,u4 us h.2.1⟩
 | subscribe n=>exact n9 n h
 | unsubscribe n=>exact n9 n h
 | forget n m=>exact n9 n h
end
structure Gr (B B':Bx):Prop where
 val:B'.validity=B.validity
 next:B.next<=B'.next
 ltr:∀ L∈B'.letters,(∃ M∈B.letters,M.uid=L.uid/\M.oct=L.oct/\M.instant=L.instant)\/B.next<=L.uid
section
variable {A B C B':Bx}{u m:Int}{ns:List Str}{us:List Int}
theorem Gr.refl:Gr B B:=⟨rfl,Int.le_refl _,fun L hL=>.inl ⟨L,hL,rfl,rfl,rfl⟩⟩
theorem Gr.trans (a:Gr A B) (b:Gr B C):Gr A C:=⟨b.val.trans a.val,Int.le_trans a.next b.next,fun L hL=>by
 rcases b.ltr L hL with ⟨M,hM,e1,e2,e3⟩ | h
 ·rcases a.ltr M hM with ⟨N,hN,f1,f2,f3⟩ | h
  ·exact .inl ⟨N,hN,f1.trans e1,f2.trans e2,f3.trans e3⟩
  ·exact .inr (e1 ▸ h)
 ·exact .inr (Int.le_trans a.next h)⟩
theorem Gr.add {oct:AVal}{i:Int}:Gr B (B.add oct ns i):=⟨rfl,Int.le_add_of_nonneg_right (by decide),fun L hL=>by
 rcases ZA hL with h | h
 ·exact .inl ⟨L,h,rfl,rfl,rfl⟩
 ·rw [ZS h];exact .inr (Int.le_refl _)⟩
theorem Gr.addAll:∀ (Ls:List Ltr) (B:Bx),Gr B (B.addAll Ls)
 | [],_=>.refl
 | L::Ls,B=>Gr.add.trans (Gr.addAll Ls (B.add L.oct L.flags L.instant))
theorem Gr.expunge:Gr B (B.expunge us):=by
 unfold Bx.expunge
 split
 ·exact .refl
 ·exact ⟨rfl,Int.le_refl _,fun L hL=>.inl ⟨L,(ZF hL).1,rfl,rfl,rfl⟩⟩
theorem Gr.forget:Gr B (B.forget m):=by
 unfold Bx.forget
 split
 ·exact .refl
 ·exact ⟨rfl,Int.le_refl _,fun L hL=>.inl ⟨L,hL,rfl,rfl,rfl⟩⟩
theorem Gr.turn (ha:Asc B.letters):Gr B (B.turn u ns).1:=by
 rcases hV ha u ns with e | ⟨i,L,hi,hu,e⟩
 ·rw [e];exact .refl
 ·rw [e]
  refine ⟨rfl,Int.le_refl _,fun M hM=>.inl ?_⟩
  rcases List.mem_or_eq_of_mem_set hM with h | h
  ·exact ⟨M,h,rfl,rfl,rfl⟩
  ·rw [h];exact ⟨L,mem_of_getElem? hi,hu,rfl,rfl⟩
theorem Gr.steps {un:Option Int}{way:Str}{fs:List Str}:∀ {Ls:List Ltr}{st:Bx × List Int},Asc st.1.letters->Gr st.1 (Ls.foldl (bh un way fs) st).1
 | [],_,_=>.refl
 | L::Ls,st,ha=>by
  rw [foldl_cons]
  have h1:Asc (bh un way fs st L).1.letters:=(jO (un:=un) (way:=way) (fs:=fs) [L] st ha).1
  have h2:Gr st.1 (bh un way fs st L).1:=by
   unfold bh
   split
   ·exact .refl
   ·exact .turn ha
  exact h2.trans (Gr.steps h1)
end
structure Grow (s s':Sto):Prop where
 next:s.next<=s'.next
 box:∀ e∈s'.boxes,(∃ d∈s.boxes,Gr d.2 e.2)\/s.next<=e.2.validity
structure Vals (s:Sto):Prop where
 once:(s.boxes.map (·.2.validity)).Nodup
 low:∀ e∈s.boxes,1<=e.2.validity/\e.2.validity < s.next
 inbox:("INBOX" : Str)∈s.boxes.map (·.1)
section
variable {s s' s₁:Sto}{bs:Boxes}{f g:Str}{B B':Bx}{k:Nat}
theorem Grow.refl:Grow s s:=⟨Int.le_refl _,fun e he=>.inl ⟨e,he,.refl⟩⟩
theorem Grow.trans (a:Grow s s₁) (b:Grow s₁ s'):Grow s s':=⟨Int.le_trans a.next b.next,fun e he=>by
 rcases b.box e he with ⟨d,hd,g⟩ | h
 ·rcases a.box d hd with ⟨d',hd',g'⟩ | h
  ·exact .inl ⟨d',hd',g'.trans g⟩
  ·exact .inr (g.val ▸ h)
 ·exact .inr (Int.le_trans a.next h)⟩
theorem mu:∀ {bs:Boxes}{d e:Str × Bx},(bs.map (·.1)).Nodup->d∈bs->e∈bs->d.1=e.1->d=e
 | [],_,_,_,h,_,_=>by cases h
 | b::bs,d,e,kd,hd,he,q=>by
  rw [map_cons,nodup_cons] at kd
  rcases ZC hd with h1 | h1<;>rcases ZC he with h2 | h2
  ·rw [h1,h2]
  ·rw [h1] at q;exact (kd.1 (q ▸ mem_map_of_mem (f:=fun x:Str × Bx=>x.1) h2)).elim
  ·rw [h2] at q;exact (kd.1 (q ▸ mem_map_of_mem (f:=fun x:Str × Bx=>x.1) h1)).elim
  ·exact mu kd.2 h1 h2 q
theorem qL (kd:(bs.map (·.1)).Nodup) (h:ak bs f=some B) (v:B'.validity=B.validity):(setB bs f B').map (·.2.validity)=bs.map (·.2.validity):=by
 unfold setB
 rw [map_map]
 refine map_congr_left fun e he=>?_
 show (if e.1=f then (f,B') else e).2.validity=e.2.validity
 by_cases q:e.1=f
 ·rw [if_pos q,mu kd he (aV h) q];exact v
 ·rw [if_neg q]
theorem dm {b:Str × Bx}{bs:Boxes}{f:Str}:ak (b::bs) f=if b.1=f then some b.2 else ak bs f:=by
 unfold ak
 rw [find?_cons]
 by_cases q:b.1=f
 ·rw [if_pos q,decide_eq_true q];rfl
 ·rw [if_neg q,decide_eq_false q]
theorem jG {b:Str × Bx}{bs:Boxes}{f:Str}:setB (b::bs) f B'=(if b.1=f then (f,B') else b)::setB bs f B':=rfl
theorem iQ (q:f≠g):∀ bs:Boxes,ak (setB bs g B') f=ak bs f
 | []=>rfl
 | b::bs=>by
  rw [jG,dm,dm,iQ q bs]
  by_cases z:b.1=g
  ·rw [if_pos z,if_neg (Ne.symm q),if_neg (z ▸ Ne.symm q)]
  ·rw [if_neg z]
theorem dX:∀ bs:Boxes,ak bs g=some B->ak (setB bs g B') g=some B'
 | [],h=>by cases h
 | b::bs,h=>by
  rw [jG,dm]
  rw [dm] at h
  by_cases z:b.1=g
  ·rw [if_pos z,if_pos rfl]
  ·rw [if_neg z,if_neg z];rw [if_neg z] at h;exact dX bs h
theorem Vals.setB (V:Vals s) (kd:(s.boxes.map (·.1)).Nodup) (h:ak s.boxes f=some B) (g:Gr B B'):Grow s { s with boxes:=Mine.setB s.boxes f B' }/\Vals { s with boxes:=Mine.setB s.boxes f B' }:=by
 have hB:=aV h
 refine ⟨⟨Int.le_refl _,fun e he=>.inl ?_⟩,⟨?_,fun e he=>?_,?_⟩⟩
 ·rcases df he with he | ⟨e1,_⟩
  ·exact ⟨e,he,.refl⟩
  ·rw [e1];exact ⟨_,hB,g⟩
 ·rw [qL kd h g.val];exact V.once
 ·rcases df he with he | ⟨e1,_⟩
  ·exact V.low e he
  ·rw [e1]
   show 1<=B'.validity/\B'.validity < s.next
   rw [g.val];exact V.low _ hB
 ·show ("INBOX" : Str)∈(Mine.setB s.boxes f B').map _
  rw [setB_keys];exact V.inbox
theorem Vals.add (V:Vals s) {v:Int} (hv:s.next<=B.validity) (h1:1<=s.next) (h2:B.validity < v):Grow s ⟨s.boxes++[(f,B)],s.names,v⟩/\Vals ⟨s.boxes++[(f,B)],s.names,v⟩:=by
 refine ⟨⟨Int.le_of_lt (Int.lt_of_le_of_lt hv h2),fun e he=>?_⟩,⟨?_,fun e he=>?_,?_⟩⟩
 ·rcases ZA he with he | he
  ·exact .inl ⟨e,he,.refl⟩
  ·rw [ZS he];exact .inr hv
 ·show ((s.boxes++[(f,B)]).map _).Nodup
  rw [map_append,nodup_append]
  refine ⟨V.once,List.nodup_cons.mpr ⟨not_mem_nil,nodup_nil⟩,fun a ha b hb z=>?_⟩
  obtain ⟨e,he,e1⟩:=ZM ha
  have:=(V.low e he).2
  have e2:b=B.validity:=ZS hb
  omega
 ·rcases ZA he with he | he
  ·exact ⟨(V.low e he).1,Int.lt_of_lt_of_le (V.low e he).2 (Int.le_of_lt (Int.lt_of_le_of_lt hv h2))⟩
  ·rw [ZS he];exact ⟨Int.le_trans h1 hv,h2⟩
 ·show ("INBOX" : Str)∈(s.boxes++[(f,B)]).map _
  rw [map_append];exact mem_append_left _ V.inbox
end
section
variable {s s':Sto}{f h:Str}{k:Nat}
theorem iT {α β:Type}{φ:α->β}:∀ {bs:List α}{d e:α},(bs.map φ).Nodup->d∈bs->e∈bs->φ d=φ e->d=e
 | [],_,_,_,h,_,_=>by cases h
 | b::bs,d,e,kd,hd,he,q=>by
  rw [map_cons,nodup_cons] at kd
  rcases ZC hd with h1 | h1<;>rcases ZC he with h2 | h2
  ·rw [h1,h2]
  ·rw [h1] at q;exact (kd.1 (q ▸ mem_map_of_mem (f:=φ) h2)).elim
  ·rw [h2] at q;exact (kd.1 (q ▸ mem_map_of_mem (f:=φ) h1)).elim
  ·exact iT kd.2 h1 h2 q
theorem Vals.one (V:Vals s):1<=s.next:=by
 obtain ⟨e,he,_⟩:=ZM V.inbox
 have:=V.low e he
 omega
theorem nL {f:Str} (h:aU "INBOX" f=true):False:=by
 obtain ⟨r,e⟩:=fh h
 have:(47:Nat)∈("INBOX" : Str).cps.toList:=by rw [e];simp
 revert this
 decide +kernel
theorem Vals.ren (H:StoInv k s) (V:Vals s) (hi:f ≠ "INBOX") :
  Grow s { s with boxes:=renB s.boxes (ax (s.boxes.map (·.1)) f h) }/\Vals { s with boxes:=renB s.boxes (ax (s.boxes.map (·.1)) f h) }:=by
 have e0:s.boxes=(s.boxes.map fun e=>(⟨e.1,⟨0,0,0,0⟩,e.2⟩:Ent)).map fun e=>(e.n,e.B):=by rw [map_map];exact (map_id _).symm
 have e1:(s.boxes.map fun e=>(⟨e.1,⟨0,0,0,0⟩,e.2⟩:Ent)).map (·.n)=s.boxes.map (·.1):=by rw [map_map];rfl
 generalize hE:(s.boxes.map fun e=>(⟨e.1,⟨0,0,0,0⟩,e.2⟩:Ent))=Es at e0 e1
 have kd:(Es.map (·.n)).Nodup:=by rw [e1];exact H.keys
 obtain ⟨ts,q1,q2,q3,q4⟩:=i3 (f:=f) (h:=h) kd
 rw [e1] at q1
 have eb:renB s.boxes (ax (s.boxes.map (·.1)) f h)=(bp Es ts++ts.map aW).map fun e=>(e.n,e.B):=by
  rw [q1]
  conv=>lhs;rw [e0]
  exact j4 q2
 have inb:∀ e∈Es,(e.n,e.B)∈s.boxes:=fun e he=>by rw [e0];exact mem_map_of_mem (f:=fun e:Ent=>(e.n,e.B)) he
 have mem:∀ e∈(bp Es ts++ts.map aW).map (fun e=>(e.n,e.B)),(e∈s.boxes)\/∃ t∈ts,e=(t.2,{ t.1.B with name:=t.2 }):=fun e he=>by
  obtain ⟨d,hd,rfl⟩:=ZM he
  rcases ZA hd with hd | hd
  ·exact .inl (inb d ((aE _ _).subset hd))
  ·obtain ⟨t,ht,rfl⟩:=ZM hd
   exact .inr ⟨t,ht,rfl⟩
 have vu:(Es.map fun e=>e.B.validity).Nodup:=by
  have:=V.once
  rw [e0,map_map] at this;exact this
 have uq:∀ t∈ts,∀ e∈Es,t.1.B.validity=e.B.validity->t.1=e:=fun t ht e he z=>iT vu (q2 t ht).1 he z
 rw [eb]
 refine ⟨⟨Int.le_refl _,fun e he=>.inl ?_⟩,⟨?_,fun e he=>?_,?_⟩⟩
 ·rcases mem e he with he | ⟨t,ht,e2⟩
  ·exact ⟨e,he,.refl⟩
  ·rw [e2]
   exact ⟨_,inb _ (q2 t ht).1,rfl,Int.le_refl _,fun L hL=>.inl ⟨L,hL,rfl,rfl,rfl⟩⟩
 ·show (List.map _ (List.map _ (bp Es ts++ts.map aW))).Nodup
  rw [map_map,map_append,nodup_append]
  refine ⟨vu.sublist ((aE _ _).map _),?_,fun a ha b hb z=>?_⟩
  ·rw [map_map]
   unfold List.Nodup at q3 ⊢
   rw [pairwise_map] at q3 ⊢
   exact q3.imp_of_mem fun {a b} ha hb n z=>n (congrArg Ent.n (uq a ha _ (q2 b hb).1 z))
  ·obtain ⟨e,he,e2⟩:=ZM ha
   rw [map_map] at hb
   obtain ⟨t,ht,e3⟩:=ZM hb
   have e4:t.1.B.validity=e.B.validity:=e3.trans (z.symm.trans e2.symm)
   exact eu he t ht (congrArg Ent.n (uq t ht e ((aE _ _).subset he) e4))
 ·rcases mem e he with he | ⟨t,ht,e2⟩
  ·exact V.low e he
  ·have q:=V.low _ (inb _ (q2 t ht).1)
   rw [e2];exact q
 ·have:=V.inbox
  rw [<- e1] at this
  obtain ⟨e,he,e2⟩:=ZM this
  show _∈List.map _ (List.map _ (bp Es ts++ts.map aW))
  rw [map_map,map_append]
  refine mem_append_left _ (List.mem_map.mpr ⟨e,jN he fun t ht z=>?_,e2⟩)
  have p:=dq (ks:=s.boxes.map (·.1)) (f:=f) (h:=h) (p:=(t.1.n,t.2)) (by rw [q1];exact mem_map_of_mem (f:=fun t:Ent × Str=>(t.1.n,t.2)) ht)
  have z:t.1.n = "INBOX" := z.trans e2
  rcases p.2.1 with p | p
  ·exact hi (p.symm.trans z)
  ·exact nL (f:=f) (by rw [<- z];exact p)
theorem pi {d:Deed}{r:Res} (H:StoInv k s) (V:Vals s) (e:step s d=some (s',r)):Grow s s'/\Vals s':=by
 have kd:=H.keys
 refine fJ (M:=fun _ s' _=>Grow s s'/\Vals s') (fun n v h1 h2 h3 h4=>?_) (fun n B hB hi=>?_) (fun n g B hB hc hf hi hx=>?_) (fun n g B hB hc hf hi hno=>?_) (fun n fs t b kk B ns hB hf=>?_)
  (fun n u fs B ns hB hf hu=>?_) (fun n us way fs un B ns hB hf=>?_) (fun n us B hB=>?_) (fun mv n us g B G hB hG hu=>?_) (fun n h1 h2=>?_) (fun n h1 hno=>?_) (fun n h1=>?_) (fun n m B hB=>?_) e
 ·exact V.add (B:=Bx.new (aa n) v) h3 V.one (Int.lt_succ v)
 ·have sb:=lb s.boxes (aa n)
  refine ⟨⟨Int.le_refl _,fun e he=>.inl ⟨e,sb.subset he,.refl⟩⟩,⟨V.once.sublist (sb.map _),fun e he=>V.low e (sb.subset he),?_⟩⟩
  obtain ⟨e,he,e2⟩:=ZM V.inbox
  refine List.mem_map.mpr ⟨e,List.mem_filter.mpr ⟨he,?_⟩,e2⟩
  rw [Bool.not_eq_true',decide_eq_false_iff_not,e2]
  exact Ne.symm hi
 ·have v1:=V.setB kd hB (Gr.expunge (us:=B.letters.map (·.uid)))
  have hv:((Bx.new (aa g) s.next).addAll B.letters).validity=s.next:=(cP B.letters (Bx.new (aa g) s.next)).2.2.1
  have v2:=v1.2.add (f:=aa g) (B:=(Bx.new (aa g) s.next).addAll B.letters) (v:=s.next+1) (by rw [hv];exact Int.le_refl _) V.one (by rw [hv];exact Int.lt_succ _)
  exact ⟨v1.1.trans v2.1,v2.2⟩
 ·exact V.ren H hi
 ·exact V.setB kd hB .add
 ·exact V.setB kd hB (.turn (H.box _ (aV hB)).asc)
 ·exact V.setB kd hB (Gr.steps (st:=(B,[])) (H.box _ (aV hB)).asc)
 ·exact V.setB kd hB .expunge
 ·have v1:=V.setB kd hG (Gr.addAll (B.picked us) G)
  unfold mvIn
  cases mv with
  | false=>exact v1
  | true =>
   have kd2:((setB s.boxes (aa g) (G.addAll (B.picked us))).map (·.1)).Nodup:=by rw [setB_keys];exact kd
   have v2:ak (setB s.boxes (aa g) (G.addAll (B.picked us))) (aa n)=some (if aa n=aa g then G.addAll (B.picked us) else B):=by
    by_cases q:aa n=aa g
    ·rw [if_pos q,q];exact dX _ hG
    ·rw [if_neg q,iQ q];exact hB
   have v3:=v1.2.setB kd2 v2 (Gr.expunge (us:=(B.picked us).map (·.uid)))
   exact ⟨v1.1.trans v3.1,v3.2⟩
 ·exact ⟨.refl,V⟩
 ·exact ⟨⟨Int.le_refl _,fun e he=>.inl ⟨e,he,.refl⟩⟩,V.once,V.low,V.inbox⟩
 ·exact ⟨⟨Int.le_refl _,fun e he=>.inl ⟨e,he,.refl⟩⟩,V.once,V.low,V.inbox⟩
 ·exact V.setB kd hB .forget
end
def Al (s:Sto) (k:List Int) (a:AVal):Prop:=∃ e∈s.boxes,∃ L∈e.2.letters,k=[e.2.validity,L.uid]/\a=.tup [L.oct,.int L.instant]
def New (s:Sto) (k:List Int):Prop:=∃ v u,k=[v,u]/\(s.next<=v\/∃ e∈s.boxes,e.2.validity=v/\e.2.next<=u)
structure Inv2 (s:Sto) (m:List Int->Option AVal) (dd:List Int->Prop):Prop where
 mean:∀ k a,m k=some a->∃ v u,k=[v,u]/\v < s.next/\∀ e∈s.boxes,e.2.validity=v->u < e.2.next
 sub:∀ k a,Al s k a->m k=some a
 dead:∀ k,dd k->(m k).isSome=true/\∀ a,¬ Al s k a
section
variable {s s':Sto}{k:List Int}{a:AVal}{m m':List Int->Option AVal}{dd dd':List Int->Prop}{n:Nat}
theorem Grow.al (G:Grow s s') (h:Al s' k a):Al s k a\/New s k:=by
 obtain ⟨e,he,L,hL,h1,h2⟩:=h
 rcases G.box e he with ⟨d,hd,g⟩ | q
 ·rcases g.ltr L hL with ⟨M,hM,e1,e2,e3⟩ | q
  ·exact .inl ⟨d,hd,M,hM,by rw [h1,g.val,e1],by rw [h2,e2,e3]⟩
  ·exact .inr ⟨_,_,h1,.inr ⟨d,hd,g.val.symm,q⟩⟩
 ·exact .inr ⟨_,_,h1,.inl q⟩
theorem Inv2.fresh (I:Inv2 s m dd) (h:New s k):m k=none:=by
 cases e:m k with
 | none=>rfl
 | some a =>
  obtain ⟨v,u,e1,h1,h2⟩:=I.mean k a e
  obtain ⟨v',u',e2,h3⟩:=h
  rw [e1] at e2
  have e3:=(List.cons.inj e2).1
  have e4:=(List.cons.inj (List.cons.inj e2).2).1
  rcases h3 with h3 | ⟨d,hd,h4,h5⟩
  ·omega
  ·have:=h2 d hd (h4.trans e3.symm)
   omega
theorem Inv2.ok (I:Inv2 s m dd) (G:Grow s s') (hd:∀ k,dd' k↔dd k\/((∃ a,Al s k a)/\∀ a,¬ Al s' k a)) (h:Al s' k a):¬ dd' k/\(m k=none\/m k=some a):=by
 rcases G.al h with q | q
 ·refine ⟨fun z=>?_,.inr (I.sub k a q)⟩
  rcases (hd k).mp z with z | z
  ·exact (I.dead k z).2 a q
  ·exact z.2 a h
 ·have f:=I.fresh q
  refine ⟨fun z=>?_,.inl f⟩
  rcases (hd k).mp z with z | z
  ·have:=(I.dead k z).1
   rw [f] at this;cases this
  ·exact z.2 a h
theorem Inv2.go (I:Inv2 s m dd) (G:Grow s s') (V:Vals s') (H:StoInv n s') (hd:∀ k,dd' k↔dd k\/((∃ a,Al s k a)/\∀ a,¬ Al s' k a))
  (h1:∀ k a,Al s' k a->m' k=some a) (h2:∀ k,(∀ a,¬ Al s' k a)->m' k=m k):Inv2 s' m' dd':=by
 have old:∀ k a,m k=some a->∃ v u,k=[v,u]/\v < s'.next/\∀ e∈s'.boxes,e.2.validity=v->u < e.2.next:=fun k a h=>by
  obtain ⟨v,u,e1,h3,h4⟩:=I.mean k a h
  refine ⟨v,u,e1,Int.lt_of_lt_of_le h3 G.next,fun e he q=>?_⟩
  rcases G.box e he with ⟨d,hd,g⟩ | z
  ·exact Int.lt_of_lt_of_le (h4 d hd (g.val.symm.trans q)) g.next
  ·omega
 refine ⟨fun k a h=>?_,h1,fun k z=>?_⟩
 ·by_cases q:∃ b,Al s' k b
  ·obtain ⟨b,e,he,L,hL,e1,_⟩:=q
   refine ⟨_,_,e1,(V.low e he).2,fun e' he' z=>?_⟩
   rw [iT (φ:=fun x:Str × Bx=>x.2.validity) V.once he' he z]
   exact ((H.box e he).below L hL).2
  ·rw [h2 k fun b z=>q ⟨b,z⟩] at h
   exact old k a h
 ·have no:∀ a,¬ Al s' k a:=fun a h=>(I.ok G hd h).1 z
  refine ⟨?_,no⟩
  rw [h2 k no]
  rcases (hd k).mp z with z | ⟨⟨a,z⟩,_⟩
  ·exact (I.dead k z).1
  ·rw [I.sub k a z];rfl
theorem Inv2.start:Inv2 ⟨[("INBOX",Bx.new "INBOX" 1)],[],2⟩ (fun _=>none) (fun _=>False) :=
 ⟨fun _ _ h=>(by cases h),fun k a ⟨e,he,L,hL,_⟩=>(by rw [ZS he] at hL;cases hL),fun _ h=>h.elim⟩
theorem Vals.start:Vals ⟨[("INBOX",Bx.new "INBOX" 1)],[],2⟩ :=
 ⟨List.nodup_cons.mpr ⟨not_mem_nil,nodup_nil⟩,fun e he=>by rw [ZS he];exact ⟨Int.le_refl _,show (1:Int) < 2 by decide⟩,List.mem_singleton.mpr rfl⟩
noncomputable def fV:Deed->Res->List (Int × Int)
 | .append ..,.v (.tup [.int v,.int u])=>[(v,u)]
 | .copy ..,.v (.tup [.int v,_,.tup us])=>us.filterMap fun x=>match x with | .int u=>some (v,u) | _=>none
 | _,_=>[]
theorem gB:∀ (Ls:List Ltr) (G:Bx),∀ L∈G.letters,L∈(G.addAll Ls).letters
 | [],_,_,h=>h
 | M::Ls,G,L,h=>gB Ls (G.add M.oct M.flags M.instant) L (mem_append_left _ h)
theorem fG:∀ (Ls:List Ltr) (G:Bx),∀ u∈(aB G.next Ls).map (·.2),G.next<=u/\∃ L∈(G.addAll Ls).letters,L.uid=u
 | [],_,_,h=>by cases h
 | M::Ls,G,u,h=>by
  rcases ZC h with h | h
  ·exact ⟨Int.le_of_eq h.symm,_,gB Ls (G.add M.oct M.flags M.instant) _ (mem_append_right _ (List.mem_singleton.mpr rfl)),h.symm⟩
  ·obtain ⟨h1,h2⟩:=fG Ls (G.add M.oct M.flags M.instant) u h
   exact ⟨Int.le_trans (Int.le_add_of_nonneg_right (by decide)) h1,h2⟩
theorem mN {v:Int}{us:List Int}{p:Int × Int} (h:p∈(us.map AVal.int).filterMap fun x=>match x with | .int u=>some (v,u) | _=>none):p.1=v/\p.2∈us:=by
 obtain ⟨x,hx,e⟩:=List.mem_filterMap.mp h
 obtain ⟨u,hu,rfl⟩:=ZM hx
 have e:some (v,u)=some p:=e
 rw [<- Option.some.inj e];exact ⟨rfl,hu⟩
theorem Al.of {B:Bx}{f:Str}{L:Ltr} (h:ak s.boxes f=some B) (hL:L∈B.letters):∃ a,Al s [B.validity,L.uid] a:=⟨_,_,aV h,L,hL,rfl,rfl⟩
theorem mQ {d:Deed}{r:Res} (H:StoInv n s) (e:step s d=some (s',r)):∀ p∈fV d r,New s [p.1,p.2]/\∃ a,Al s' [p.1,p.2] a:=by
 refine fJ (M:=fun d s' r=>∀ p∈fV d r,New s [p.1,p.2]/\∃ a,Al s' [p.1,p.2] a) (fun n v h1 h2 h3 h4 p hp=>?_) (fun n B hB hi p hp=>?_) (fun n g B hB hc hf hi hx p hp=>?_) (fun n g B hB hc hf hi hno p hp=>?_) (fun n fs t b kk B ns hB hf p hp=>?_)
  (fun n u fs B ns hB hf hu p hp=>?_) (fun n us way fs un B ns hB hf p hp=>?_) (fun n us B hB p hp=>?_) (fun mv n us g B G hB hG hu p hp=>?_) (fun n h1 h2 p hp=>?_) (fun n h1 hno p hp=>?_) (fun n h1 p hp=>?_) (fun n m B hB p hp=>?_) e
 ·cases hp
 ·cases hp
 ·cases hp
 ·cases hp
 ·have hp:p∈[(B.validity,B.next)]:=hp
  rw [ZS hp]
  exact ⟨⟨_,_,rfl,.inr ⟨_,aV hB,rfl,Int.le_refl _⟩⟩,Al.of (B:=B.add (.bytes b kk) ns t) (L:=⟨B.next,.bytes b kk,ns,t,B.top+1⟩) (dX _ hB) (mem_append_right _ (List.mem_singleton.mpr rfl))⟩
 ·cases hp
 ·cases hp
 ·cases hp
 ·obtain ⟨e1,e2⟩:=mN hp
  obtain ⟨h1,L,hL,e3⟩:=fG (B.picked us) G p.2 e2
  have hv:(G.addAll (B.picked us)).validity=G.validity:=(Gr.addAll (B.picked us) G).val
  rw [e1]
  refine ⟨⟨_,_,rfl,.inr ⟨_,aV hG,rfl,h1⟩⟩,?_⟩
  have f1:ak (setB s.boxes (aa g) (G.addAll (B.picked us))) (aa g)=some (G.addAll (B.picked us)):=dX _ hG
  rw [<- hv,<- e3]
  unfold mvIn
  cases mv with
  | false=>exact Al.of f1 hL
  | true =>
   by_cases q:aa n=aa g
   ·have eB:G=B:=by rw [q,hG] at hB;exact Option.some.inj hB
    have f2:=dX (B':=(G.addAll (B.picked us)).expunge ((B.picked us).map (·.uid))) _ f1
    have g1:((G.addAll (B.picked us)).expunge ((B.picked us).map (·.uid))).validity=(G.addAll (B.picked us)).validity:=Gr.expunge.val
    dsimp only
    rw [if_pos q,<- g1,q]
    refine Al.of f2 ?_
    unfold Bx.expunge
    split
    ·exact hL
    ·refine List.mem_filter.mpr ⟨hL,?_⟩
     rw [Bool.not_eq_true',Bool.eq_false_iff]
     intro z
     obtain ⟨M,hM,e4⟩:=ZM (List.contains_iff_mem.mp z)
     have:=((H.box _ (aV hB)).below M (c6 B us M hM)).2
     rw [<- eB] at this
     have h1:G.next<=L.uid:=e3 ▸ h1
     have:M.uid < G.next:=this
     omega
   ·have f2:ak (setB (setB s.boxes (aa g) (G.addAll (B.picked us))) (aa n) ((if aa n=aa g then G.addAll (B.picked us) else B).expunge ((B.picked us).map (·.uid)))) (aa g)=some (G.addAll (B.picked us)):=by
     rw [iQ (Ne.symm q)];exact f1
    exact Al.of f2 hL
 ·cases hp
 ·cases hp
 ·cases hp
 ·cases hp
end
section
variable {K:Type} [DecidableEq K] {es fs:List (K × AVal)}{k j:K}{a b v:AVal}
theorem cH {x:K × AVal}:vAt (x::es) k=if x.1=k then some x.2 else vAt es k:=by
 unfold vAt
 rw [find?_cons]
 by_cases q:x.1=k
 ·rw [if_pos q,decide_eq_true q];rfl
 ·rw [if_neg q,decide_eq_false q]
theorem mF:∀ {es:List (K × AVal)},vAt es k=some a->(k,a)∈es
 | [],h=>by cases h
 | x::es,h=>by
  rw [cH] at h
  by_cases q:x.1=k
  ·rw [if_pos q] at h
   rw [<- q,<- Option.some.inj h];exact .head _
  ·rw [if_neg q] at h;exact .tail _ (mF h)
theorem j1:∀ {es:List (K × AVal)},(es.map (·.1)).Nodup->(k,a)∈es->vAt es k=some a
 | [],_,h=>by cases h
 | x::es,kd,h=>by
  rw [map_cons,nodup_cons] at kd
  rw [cH]
  rcases ZC h with h | h
  ·rw [<- h,if_pos rfl]
  ·have:x.1≠k:=fun z=>kd.1 (z ▸ mem_map_of_mem (f:=fun x:K × AVal=>x.1) h)
   rw [if_neg this];exact j1 kd.2 h
theorem sA (h:k∉es.map (·.1)):vAt es k=none:=by
 cases e:vAt es k with
 | none=>rfl
 | some a=>exact (h (mem_map_of_mem (f:=fun x:K × AVal=>x.1) (mF e))).elim
theorem qV:vAt (es++fs) k=(vAt es k).or (vAt fs k):=by
 induction es with
 | nil=>rfl
 | cons x es ih =>
  rw [cons_append,cH,cH,ih]
  by_cases q:x.1=k
  ·rw [if_pos q,if_pos q];rfl
  ·rw [if_neg q,if_neg q]
theorem rH:vAt (es.map fun kv=>if kv.1=j then (kv.1,v) else kv) k=if j=k then (vAt es k).map (fun _=>v) else vAt es k:=by
 induction es with
 | nil=>by_cases z:j=k<;>simp [vAt,z]
 | cons x es ih =>
  rw [map_cons,cH,cH,ih]
  by_cases q:x.1=j
  ·rw [if_pos q]
   by_cases z:j=k
   ·have w:x.1=k:=q.trans z
    rw [if_pos (show ((x.1,v):K × AVal).1=k from w),if_pos w,if_pos z];rfl
   ·have w:¬ x.1=k:=fun w=>z (q.symm.trans w)
    rw [if_neg (show ¬ ((x.1,v):K × AVal).1=k from w),if_neg w,if_neg z]
  ·rw [if_neg q]
   by_cases w:x.1=k
   ·rw [if_pos w,if_pos w,if_neg (fun z:j=k=>q (w.trans z.symm))]
   ·rw [if_neg w,if_neg w]
theorem kz:vAt (sto es j v) k=if j=k then some v else vAt es k:=by
 unfold sto
 by_cases h:es.any (fun kv=>decide (kv.1=j))=true
 ·rw [if_pos h,rH]
  by_cases z:j=k
  ·rw [if_pos z,if_pos z]
   obtain ⟨x,hx,e⟩:=List.any_eq_true.mp h
   cases w:vAt es k with
   | some _=>rfl
   | none =>
    unfold vAt at w
    rw [Option.map_eq_none_iff,List.find?_eq_none] at w
    exact (w x hx (z ▸ e)).elim
  ·rw [if_neg z,if_neg z]
 ·rw [if_neg h,qV,cH]
  by_cases z:j=k
  ·rw [if_pos z,if_pos z,sA]
   ·rfl
   ·rintro q
    obtain ⟨x,hx,e⟩:=ZM q
    exact h (List.any_eq_true.mpr ⟨x,hx,decide_eq_true (e.trans z.symm)⟩)
  ·rw [if_neg z,if_neg z]
   cases vAt es k<;>rfl
def aN (es fs:List (K × AVal)):List (K × AVal):=fs.foldl (fun m x=>sto m x.1 x.2) es
theorem cg {x:K × AVal}:aN es (x::fs)=aN (sto es x.1 x.2) fs:=rfl
theorem dz:∀ {fs es:List (K × AVal)},k∉fs.map (·.1)->vAt (aN es fs) k=vAt es k
 | [],_,_=>rfl
 | x::fs,es,h=>by
  rw [cg,dz fun z=>h (.tail _ z),kz,if_neg fun z=>h (by rw [<- z];exact .head _)]
theorem jL:∀ {fs es:List (K × AVal)},(fs.map (·.1)).Nodup->(k,a)∈fs->vAt (aN es fs) k=some a
 | [],_,_,h=>by cases h
 | x::fs,es,kd,h=>by
  rw [map_cons,nodup_cons] at kd
  rw [cg]
  rcases ZC h with h | h
  ·rw [<- h] at kd ⊢
   rw [dz kd.1,kz,if_pos rfl]
  ·exact jL kd.2 h
end
noncomputable def bk (Bs:List Bx):List (List Int × AVal):=Bs.flatMap fun B=>B.letters.map fun L=>([B.validity,L.uid],.tup [L.oct,.int L.instant])
theorem aliveL_mem {Bs:List Bx}{k:List Int}{a:AVal}:(k,a)∈bk Bs↔∃ B∈Bs,∃ L∈B.letters,k=[B.validity,L.uid]/\a=.tup [L.oct,.int L.instant]:=by
 unfold bk
 rw [List.mem_flatMap]
 constructor
 ·rintro ⟨B,hB,h⟩
  obtain ⟨L,hL,e⟩:=ZM h
  exact ⟨B,hB,L,hL,(Prod.mk.inj e).1.symm,(Prod.mk.inj e).2.symm⟩
 ·rintro ⟨B,hB,L,hL,e1,e2⟩
  exact ⟨B,hB,List.mem_map.mpr ⟨L,hL,by rw [e1,e2]⟩⟩
theorem gI:∀ {Bs:List Bx},(Bs.map (·.validity)).Nodup->(∀ B∈Bs,Asc B.letters)->((bk Bs).map (·.1)).Nodup
 | [],_,_=>nodup_nil
 | B::Bs,kd,ha=>by
  rw [map_cons,nodup_cons] at kd
  show ((B.letters.map fun L=>(([B.validity,L.uid],.tup [L.oct,.int L.instant]):List Int × AVal))++bk Bs |>.map (·.1)).Nodup
  rw [map_append,nodup_append]
  refine ⟨?_,gI kd.2 fun C hC=>ha C (.tail _ hC),fun x hx y hy z=>?_⟩
  ·rw [map_map]
   unfold List.Nodup
   rw [pairwise_map]
   refine (ha B (.head _)).imp fun {L M} h z=>?_
   have:=(List.cons.inj (List.cons.inj z).2).1
   omega
  ·rw [map_map] at hx
   obtain ⟨L,hL,e1⟩:=ZM hx
   obtain ⟨⟨k,a⟩,he,e2⟩:=ZM hy
   obtain ⟨C,hC,M,hM,e3,_⟩:=aliveL_mem.mp he
   have e2:k=y:=e2
   have e1:[B.validity,L.uid]=x:=e1
   have q:[B.validity,L.uid]=[C.validity,M.uid]:=by rw [e1,z,<- e2,e3]
   have q:=(List.cons.inj q).1
   exact kd.1 (q ▸ mem_map_of_mem (f:=fun x:Bx=>x.validity) hC)
theorem iN {K:Type} [DecidableEq K]:∀ {fs es:List (K × AVal)},((es++fs).map (·.1)).Nodup->aN es fs=es++fs
 | [],es,_=>(append_nil es).symm
 | x::fs,es,h=>by
  have e:es++x::fs=es++[x]++fs:=by rw [append_assoc];rfl
  rw [e] at h ⊢
  have h1:x.1∉es.map (·.1):=fun z=>by
   rw [append_assoc,map_append,nodup_append] at h
   exact h.2.2 _ z _ (.head _) rfl
  rw [cg,g6 h1]
  exact iN h
section
variable {Es:List Ent}{ns:List Str}{nx:Int}{s:Sto}{k:List Int}{a:AVal}{m:List (List Int × AVal)}{n:Nat}
noncomputable def cM (Es:List Ent):List Bx:=((bf (Es.map (·.n))).filterMap (aD Es)).map (·.B)
theorem hY:∀ {Es:List Ent}{e:Ent},(Es.map (·.n)).Nodup->e∈Es->aD Es e.n=some e
 | [],_,_,h=>by cases h
 | d::Es,e,kd,h=>by
  rw [map_cons,nodup_cons] at kd
  unfold aD
  rw [find?_cons]
  rcases ZC h with h | h
  ·rw [h,decide_eq_true rfl]
  ·have:¬ d.n=e.n:=fun z=>kd.1 (z ▸ mem_map_of_mem (f:=fun x:Ent=>x.n) h)
   rw [decide_eq_false this]
   exact hY kd.2 h
theorem oF {α:Type}{f:α->Option α}:∀ {l:List α},(∀ x∈l,f x=some x)->l.filterMap f=l
 | [],_=>rfl
 | x::l,h=>by rw [filterMap_cons,h x (.head _),oF fun y hy=>h y (.tail _ hy)]
theorem bV (kd:(Es.map (·.n)).Nodup):(cM Es).Perm (Es.map (·.B)):=by
 have e:(Es.map (·.n)).filterMap (aD Es)=Es:=by
  rw [List.filterMap_map]
  exact oF fun e he=>hY kd he
 unfold cM
 have p:=((aC (Es.map (·.n))).filterMap (aD Es)).map (·.B)
 rw [e] at p;exact p
theorem qq (kd:(Es.map (·.n)).Nodup):(k,a)∈bk (cM Es)↔Al (ah Es ns nx) k a:=by
 rw [aliveL_mem]
 constructor
 ·rintro ⟨B,hB,L,hL,e1,e2⟩
  obtain ⟨e,he,e3⟩:=ZM ((bV kd).subset hB)
  subst e3
  exact ⟨(e.n,e.B),mem_map_of_mem (f:=fun e:Ent=>(e.n,e.B)) he,L,hL,e1,e2⟩
 ·rintro ⟨p,hp,L,hL,e1,e2⟩
  obtain ⟨e,he,e3⟩:=ZM hp
  subst e3
  exact ⟨e.B,(bV kd).symm.subset (mem_map_of_mem (f:=fun e:Ent=>e.B) he),L,hL,e1,e2⟩
theorem i6 (kd:(Es.map (·.n)).Nodup) (V:Vals (ah Es ns nx)) (H:StoInv n (ah Es ns nx)):((bk (cM Es)).map (·.1)).Nodup:=by
 refine gI ?_ fun B hB=>?_
 ·have:=V.once
  unfold ah at this
  rw [map_map] at this
  have p:=(bV kd).map (·.validity)
  rw [map_map] at p
  exact p.nodup_iff.mpr this
 ·obtain ⟨e,he,e3⟩:=ZM ((bV kd).subset hB)
  subst e3
  exact (H.box (e.n,e.B) (mem_map_of_mem (f:=fun e:Ent=>(e.n,e.B)) he)).asc
structure L2Inv (s:Sto) (M D A:List (List Int × AVal)):Prop where
 inv:Inv2 s (vAt M) (fun k=>(vAt D k).isSome=true)
 al:∀ k a,(k,a)∈A↔Al s k a
 once:(A.map (·.1)).Nodup
noncomputable def bO (A C:List (List Int × AVal)):List (List Int × AVal):=(A.filter fun x=>!(vAt C x.1).isSome).map fun x=>(x.1,.bool true)
theorem goneL_key {A C:List (List Int × AVal)}:(∃ b,(k,b)∈bO A C)↔(∃ a,(k,a)∈A)/\vAt C k=none:=by
 unfold bO
 constructor
 ·rintro ⟨b,h⟩
  obtain ⟨x,hx,e⟩:=ZM h
  obtain ⟨h1,h2⟩:=ZF hx
  have e:=(Prod.mk.inj e).1
  rw [Bool.not_eq_true',Option.isSome_eq_false_iff,Option.isNone_iff_eq_none] at h2
  rw [<- e];exact ⟨⟨x.2,h1⟩,h2⟩
 ·rintro ⟨⟨a,h⟩,h2⟩
  exact ⟨_,List.mem_map.mpr ⟨(k,a),List.mem_filter.mpr ⟨h,by rw [h2];rfl⟩,rfl⟩⟩
theorem gF {K:Type} [DecidableEq K] {k:K}:∀ {fs es:List (K × AVal)},(vAt (aN es fs) k).isSome=true↔(vAt es k).isSome=true\/k∈fs.map (·.1)
 | [],es=>⟨.inl,fun h=>h.elim id fun h=>by cases h⟩
 | x::fs,es=>by
  rw [cg,gF,kz,map_cons,mem_cons]
  by_cases z:x.1=k
  ·rw [if_pos z];exact ⟨fun _=>.inr (.inl z.symm),fun _=>.inl rfl⟩
  ·rw [if_neg z]
   exact ⟨fun h=>h.elim .inl fun h=>.inr (.inr h),fun h=>h.elim .inl fun h=>h.elim (fun h=>(z h.symm).elim) .inr⟩
theorem L2Inv.go {s':Sto}{M D A C:List (List Int × AVal)} (I:L2Inv s M D A) (G:Grow s s') (V:Vals s') (H:StoInv n s') (hC:∀ k a,(k,a)∈C↔Al s' k a) (kd:(C.map (·.1)).Nodup) :
  L2Inv s' (aN M C) (aN D (bO A C)) C/\∀ k a,(k,a)∈C->vAt (aN D (bO A C)) k=none/\(vAt M k=none\/vAt M k=some a):=by
 have none_of:∀ k,vAt C k=none↔∀ a,¬ Al s' k a:=fun k=>by
  constructor
  ·intro h a z
   rw [j1 kd ((hC k a).mpr z)] at h;cases h
  ·intro h
   cases e:vAt C k with
   | none=>rfl
   | some a=>exact (h a ((hC k a).mp (mF e))).elim
 have hd:∀ k,(vAt (aN D (bO A C)) k).isSome=true↔(vAt D k).isSome=true\/((∃ a,Al s k a)/\∀ a,¬ Al s' k a):=fun k=>by
  rw [gF]
  refine or_congr Iff.rfl ?_
  rw [<- none_of k]
  constructor
  ·intro h
   obtain ⟨x,hx,e⟩:=ZM h
   subst e
   obtain ⟨⟨a,h1⟩,h2⟩:=goneL_key.mp ⟨x.2,hx⟩
   exact ⟨⟨a,(I.al _ a).mp h1⟩,h2⟩
  ·rintro ⟨⟨a,h1⟩,h2⟩
   obtain ⟨b,h3⟩:=goneL_key.mpr ⟨⟨a,(I.al k a).mpr h1⟩,h2⟩
   exact mem_map_of_mem (f:=fun x:List Int × AVal=>x.1) h3
 refine ⟨⟨I.inv.go G V H hd (fun k a h=>jL kd ((hC k a).mpr h)) fun k h=>dz fun z=>?_,hC,kd⟩,fun k a h=>?_⟩
 ·obtain ⟨x,hx,e⟩:=ZM z
  subst e
  exact h x.2 ((hC _ _).mp hx)
 ·have o:=I.inv.ok G hd ((hC k a).mp h)
  refine ⟨?_,o.2⟩
  cases e:vAt (aN D (bO A C)) k with
  | none=>rfl
  | some b=>exact (o.1 (by rw [e];rfl)).elim
end
section
variable {c:Cx}{ρ ρ' ρ₂:List NV}{σ σ₁ σ' τ:AState}{Q:AVal->AState->Prop}{X:AExc->AState->Prop}
structure FreshOk (w:Str) (a:AVal) (ps:List (Int × Int)):Prop where
 one:w = "append" -> ∃ p,a=bE p/\ps=[p]
 two:w = "copy" \/ w = "move" -> ∃ v x us,a=.tup [.int v,x,b0 us]/\ps=us.map (fun u=>(v,u))/\us.length<=60
 no:w ≠ "append" -> w ≠ "copy" -> w ≠ "move" -> ps=[]
 len:ps.length<=60
theorem re {a b w:Str} (h:[a,b].any (· == w)=true):w=a\/w=b:=by
 rw [any_cons,any_cons,any_nil,Bool.or_false,Bool.or_eq_true] at h
 exact h.imp (fun z=>(eq_of_beq z).symm) fun z=>(eq_of_beq z).symm
theorem qW {a b w:Str} (h:[a,b].any (· == w)=false):w≠a/\w≠b:=by
 rw [any_cons,any_cons,any_nil,Bool.or_false,Bool.or_eq_false_iff] at h
 exact ⟨(ne_of_beq_false h.1).symm,(ne_of_beq_false h.2).symm⟩
theorem j3 {w:Str}{rest:List AVal}{a:AVal}{ps:List (Int × Int)} (x:Lib c) (cm:c.calm=true) (lv:2<=c.lv) (F:FreshOk w a ps)
  (k:∀ σ' D,Le σ σ'->σ D=none->σ' D=some (.list (ps.map bE))->Q (.ref D) σ'):GoV VR c ρ [.tup (.str w::rest),a] (fun vs=>call (.ref 563) vs) σ Q X:=by
 refine ai f563 x s!"o" s!"r" rfl s!"r" fun L₀=>?_
 ext
 refine aj (fun hq=>?_) (fun hq=>?_)
 ·obtain ⟨p,e1,e2⟩:=F.one (eq_of_beq hq)
  ext
  intro D hD
  refine k _ D (Zl hD) hD ?_
  rw [e1,e2];exact Zs ..
 ·have hq:=ne_of_beq_false hq
  ext
  refine i4 (xs:=["copy", "move"]) ?_
  ext
  refine aj (fun hq2=>?_) (fun hq2=>?_)
  ·have hw:w = "copy" \/ w = "move" := re hq2
   obtain ⟨v,y,us,e1,e2,e3⟩:=F.two hw
   subst e1
   ext
   refine ev_compA Int rfl s!"cns" s!"cok" s!"cp" ?_
   ext
   refine .mk us .int (fun u=>bE (v,u)) _ cA (fun _ _=>trivial) (sz s!"o") (fun cl C u hu σ₂ l₂=>?_) fun σ₁ D l₁ hD h₁=>?_
   ·ext
    exact ⟨rfl,Le.refl _⟩
   ·refine k _ D l₁ hD ?_
    rw [h₁,e2,map_map];rfl
  ·have hw:w ≠ "copy" /\ w ≠ "move" := qW hq2
   have e:=F.no hq hw.1 hw.2
   ext
   refine ⟨by decide,fun D hD=>?_⟩
   refine k _ D (Zl hD) hD ?_
   rw [e];exact Zs ..
theorem pN {w:Str}{a:AVal} (h:w ≠ "append" /\ w ≠ "copy" /\ w ≠ "move"):FreshOk w a []:=⟨fun e=>(h.1 e).elim,fun e=>(e.elim h.2.1 h.2.2).elim,fun _ _ _=>rfl,Nat.zero_le _⟩
theorem b6 {σ:AState}{d:Deed}{a:AVal}{r:Res}{w:Str}{rest:List AVal} (e:rowV d=.tup (.str w::rest)) (h:w ≠ "append" /\ w ≠ "copy" /\ w ≠ "move") (e2:fV d r=[]):DeedSz d->ResAt σ a r->∃ w rest,rowV d=.tup (.str w::rest)/\FreshOk w a (fV d r):=fun _ _=>⟨w,rest,e,e2 ▸ pN h⟩
theorem cB {v:Int}:∀ us:List Int,(us.map AVal.int).filterMap (fun x=>match x with | .int u=>some (v,u) | _=>none)=us.map fun u=>(v,u)
 | []=>rfl
 | u::us=>congrArg ((v,u)::·) (cB us)
theorem qd {s s':Sto}{d:Deed}{r:Res}{a:AVal} (hd:DeedSz d) (e:step s d=some (s',r)) (hr:ResAt σ a r):∃ w rest,rowV d=.tup (.str w::rest)/\FreshOk w a (fV d r):=by
 refine fJ (M:=fun d s' r=>DeedSz d->ResAt σ a r->∃ w rest,rowV d=.tup (.str w::rest)/\FreshOk w a (fV d r)) (fun _ _ _ _ _ _=>b6 rfl (by decide +kernel) rfl)
  (fun _ _ _ _=>b6 rfl (by decide +kernel) rfl) (fun _ _ _ _ _ _ _ _=>b6 rfl (by decide +kernel) rfl) (fun _ _ _ _ _ _ _ _=>b6 rfl (by decide +kernel) rfl)
  (fun n fs t b k B ns _ _ _ hr=>⟨_,_,rfl,fun _=>⟨(B.validity,B.next),hr,rfl⟩,fun e=>(((by decide +kernel:("append" : Str) ≠ "copy" /\ ("append" : Str) ≠ "move").elim fun p q=>Or.elim e p q:False)).elim,fun e=>(e rfl).elim,show 1<=60 by decide⟩)
  (fun _ _ _ _ _ _ _ _=>b6 rfl (by decide +kernel) rfl) (fun _ _ _ _ _ _ _ _ _=>b6 rfl (by decide +kernel) rfl) (fun _ _ _ _=>b6 rfl (by decide +kernel) rfl)
  (fun mv n us g B G _ _ _ hd hr=>⟨if mv then "move" else "copy",_,rfl,fun e=>?_,fun _=>⟨G.validity,_,_,hr,cB _,?_⟩,fun h1 h2 h3=>?_,?_⟩)
  (fun _ _ _=>b6 rfl (by decide +kernel) rfl) (fun _ _ _=>b6 rfl (by decide +kernel) rfl) (fun _ _=>b6 rfl (by decide +kernel) rfl) (fun _ _ _ _=>b6 rfl (by decide +kernel) rfl) e hd hr
 ·cases mv with
  | true=>exact ((by decide +kernel:("move" : Str) ≠ "append") e).elim
  | false=>exact ((by decide +kernel:("copy" : Str) ≠ "append") e).elim
 ·rw [length_map,bL]
  have:=cz B us
  have:=hd.2.2
  walk_at "o"
 ·cases mv with
  | true=>exact (h3 rfl).elim
  | false=>exact (h2 rfl).elim
 ·have e:=cB (v:=G.validity) ((aB G.next (B.picked us)).map fun x:Int × Int=>x.2)
  refine Zt (Nat.le_of_eq (congrArg List.length e)) ?_
  rw [length_map,length_map,bL]
  have:=cz B us
  have:=hd.2.2
  walk_at "o"
end
section
variable {pr:Program}{w:World}{h:Heap}
theorem nJ {ks:List Int}:∀ {vs:List Value},VRs h vs (ks.map .int)->ItemsAre (intKind pr w) ks vs:=by
 induction ks with
 | nil=>intro vs r;rw [show vs=[] from r.inv];exact .nil
 | cons k ks ih=>intro vs r;exact ex2 r.inv fun v ws q=>an3 q fun e x r=>ex1 x.int_inv fun t e'=>by rw [e,e'];exact .cons (intKind_is _ _ k t) (ih r)
theorem mI {ks:List Int}{vs:List Value} (x:ItemsAre (intKind pr w) ks vs):VRs h vs (ks.map .int):=by
 induction x with
 | nil=>exact .nil
 | cons y _ ih=>obtain ⟨t,rfl⟩:=Value.isInt_shape y;exact .cons (.int _ t) ih
theorem VR.tkey {v:Value}{ks:List Int} (r:VR h v (.tup (ks.map .int))):∃ a,v=.ref a/\IsTupleKey (intKind pr w) h ks a :=
 ex4 r.tup_inv fun a o vs n q=>an5 q fun e ho hc hd rs=>⟨a,e,o,_,n,ho,hc,hd,by rw [List.toList_toArray];exact nJ rs⟩
theorem rF {ks:List Int}{a:Addr} (x:IsTupleKey (intKind pr w) h ks a):VR h (.ref a) (.tup (ks.map .int)):=by
 obtain ⟨o,items,n,ho,hc,hd,hi⟩:=x
 exact .tup ho hc (by rw [Array.toArray_toList];exact hd) (mI hi)
abbrev fK (x:List Int × Addr × Value):List Int × Value:=(x.1,x.2.2)
theorem atKey_val {xs:List (List Int × Addr × Value)}{k:List Int}:(atKey xs k).map (·.2)=valueAt (xs.map fK) k:=by
 induction xs with
 | nil=>rfl
 | cons x xs ih =>
  by_cases e:x.1=k
  ·simp [atKey,valueAt,e]
  ·simpa [atKey,valueAt,e] using ih
theorem mD {xs:List (List Int × Addr × Value)}{k:List Int}{a:Addr}{v:Value}:(storedH xs k a v).map fK=stored (xs.map fK) k v:=by
 have e:(atKey xs k).isSome=(xs.map fK).any fun kv=>decide (kv.1=k):=by
  induction xs with
  | nil=>rfl
  | cons x xs ih =>
   by_cases e:x.1=k
   ·simp [atKey,e]
   ·simpa [atKey,e] using ih
 unfold storedH stored
 rw [e]
 split
 ·rw [map_map,map_map]
  apply map_congr_left
  intro x _
  show fK (putAt k v x)=if (fK x).1=k then ((fK x).1,v) else fK x
  unfold putAt
  by_cases z:x.1=k
  ·rw [if_pos z,if_pos z]
  ·rw [if_neg z,if_neg z]
 ·rw [map_append];rfl
end
section
variable {c:Cx}{ρ:List NV}{σ σ':AState}{Q:AVal->AState->Prop}{X:AExc->AState->Prop}{s:Shared}{target:Expr}
theorem St.roomT (S:St c ρ σ s.heap):(tupleKind (intKind c.prog c.w)).room c.A.in1:=tupleKind_room_in1 (S.room (by decide:1<=800))
theorem lY {d:Addr}{es:List (List Int × AVal)}{ep:Nat}{k:List Int} (hd:σ d=some (.dictT es ep)) (q:Q (.bool (vAt es k).isSome) σ):Cmp c ρ .In (.tup (k.map .int)) (.ref d) σ Q X:=fun vs s S r=>by
 apply r.two';intro v w a b
 apply b.ref'
 refine (S.obj d _ hd).dictT' fun xs e _ rs=>?_
 refine ex1 (VR.tkey (pr:=c.prog) (w:=c.w) a) fun ka z=>an2 z fun e1 hk=>?_
 rw [e1]
 exact wpAny_in_heap S.roomT hk (S.notMods hd) e (.tok S (by rw [<- rs.at_isSome k,<- atKey_val,Option.isSome_map];exact .bool _) q)
theorem gw {d:Addr}{es:List (List Int × AVal)}{ep:Nat}{k:List Int} (hd:σ d=some (.dictT es ep)) (q:Q (.bool (!(vAt es k).isSome)) σ):Cmp c ρ .NotIn (.tup (k.map .int)) (.ref d) σ Q X:=fun vs s S r=>by
 apply r.two';intro v w a b
 apply b.ref'
 refine (S.obj d _ hd).dictT' fun xs e _ rs=>?_
 refine ex1 (VR.tkey (pr:=c.prog) (w:=c.w) a) fun ka z=>an2 z fun e1 hk=>?_
 rw [e1]
 exact wpAny_notIn_heap S.roomT hk (S.notMods hd) e (.tok S (by rw [<- rs.at_isSome k,<- atKey_val,Option.isSome_map];exact .bool _) q)
theorem gh {d:Addr}{es:List (List Int × AVal)}{ep:Nat}{k:List Int}{a:AVal} (hd:σ d=some (.dictT es ep)) (ha:vAt es k=some a) (q:Q a σ):SubOn c ρ (.ref d) (.tup (k.map .int)) σ Q X:=fun s v w S r r'=>by
 apply r.ref'
 refine (S.obj d _ hd).dictT' fun xs e _ rs=>?_
 refine ex1 (VR.tkey (pr:=c.prog) (w:=c.w) r') fun ka z=>an2 z fun e1 hk=>?_
 rw [e1]
 refine ex1 (rs.at_some ha) fun v z=>an2 z fun hv rv=>?_
 have hv:(atKey xs k).map (·.2)=some v:=atKey_val.trans hv
 refine ex1 (Option.map_eq_some_iff.mp hv) fun p z=>an2 z fun hp e2=>?_
 exact ⟨"dict",_,slot_dict_getitem.lookup,e.typeIs,wpAny_getItem_heap S.roomT hk e hp (.tok S (e2 ▸ rv) q)⟩
theorem fT {d:Addr}{es:List (List Int × AVal)}{ep:Nat}{k:List Int}{v:AVal}{M:AState->Prop} (hd:σ d=some (.dictT es ep)) (hz:es.length<=sizeLine) (q:∀ ep',M (σ.set d (.dictT (sto es k v) ep'))) :
  SetOn c ρ (.ref d) (.tup (k.map .int)) v σ M X:=fun s ov iv vv S ro ri rv=>by
 apply ro.ref'
 refine (S.obj d _ hd).dictT' fun xs e _ rs=>?_
 refine ex1 (VR.tkey (pr:=c.prog) (w:=c.w) ri) fun ka z=>an2 z fun e1 hk=>?_
 rw [e1]
 have hl:xs.length<=sizeLine:=by have:=rs.length;rw [length_map] at this;rw [this];exact hz
 refine wpAny_setItem_heap (hsz:=hl) S.roomT hk e fun h' e' hs=>?_
 refine ex1 ((S.obj d _ hd).here) fun ob z=>an2 z fun eo nn=>?_
 have tt:TupKept s.heap h':=aw hs.extBut eo nn
 obtain ⟨ep',de⟩:∃ ep',DEp h' d ep':=by obtain ⟨o,es',ep',ho,_,hd',_⟩:=e';exact ⟨ep',o,es',ho,hd'⟩
 have R':OR c.prog c.w h' d (.dictT (sto es k v) ep'):=.dictT e' de (by
  have:=(rs.stored (k:=k) rv).keep tt
  rw [<- mD (a:=ka)] at this;exact this)
 exact ⟨_,S.upd hd hs.extBut R',Step.upd (t:=_) hd hs.extBut R',q ep'⟩
theorem qT {d:Addr}{es:List (List Int × AVal)}{ep:Nat}{k:List Int}{a:AVal} (hd:σ d=some (.dictT es ep)) (q:Q ((vAt es k).getD a) σ) :
  GoV VR c ρ [.ref d,.tup (k.map .int),a] (fun vs=>call (.builtin "dict.get") vs) σ Q X:=fun vs s S r=>by
 refine ex2 r.inv fun v ws z=>an3 z fun ev x r=>?_
 rw [ev]
 apply r.two';intro u w y z
 apply x.ref'
 refine (S.obj d _ hd).dictT' fun xs e _ rs=>?_
 refine ex1 (VR.tkey (pr:=c.prog) (w:=c.w) y) fun ka z'=>an2 z' fun e1 hk=>?_
 rw [e1]
 refine call_meetsIn PySem.F.slot_dict_get e.typeIs PySem.F.entry_dict_get (PySem.F.args_dict_get_3 _ _ _) (meetsH_dict_get_default _ d ka (S.notMods hd) w) ⟨S.roomT,k,xs,hk,e,?_⟩
 refine .tok S ?_ q
 rw [atKey_val]
 rcases rs.at k with ⟨q1,q2⟩ | ⟨v,b,q1,q2,q3⟩
 ·rw [q1,q2];exact z
 ·rw [q1,q2];exact q3
end
section
variable {prog:Program}{w:World}{A:Around}{E:Value->Shared->Prop}{s:Shared}{it d:Addr}{i ep:Nat}{es:Array DictEntry}{od:Obj}
theorem qj {en:DictEntry}{Q:Option Value->Shared->Prop} (hit:s.heap.IsKeyIter it d i es.size ep) (hod:s.heap.get? d=some od) (hdd:od.data=.dict es ep) (he:es[i]?=some en)
  (hQ:∀ h',h'.IsKeyIter it d (i+1) es.size ep->Heap.SameBut it s.heap h'->Q (some en.key) { s with heap:=h' }):wpAny (model prog w) A (pyNext (.ref it)) Q E s:=by
 obtain ⟨o,ho,hc,hd⟩:=id hit
 have hlt:i < es.size:=(Array.getElem?_eq_some_iff.mp he).1
 unfold pyNext
 refine Zb (wpAny_attempt (wpAny_callSpecial?_slot (name:=Str.ofString "__next__") hit.typeIs PySem.F.slot_dict_keyiterator_next (wpAny_call_entry PySem.F.slot_dict_keyiterator_next hit.typeIs PySem.F.entry_dict_keyiterator_next ?_ (PySem.F.args_dict_keyiterator_next_1 _))))
 refine Zb (Zp (Zb (Zb (Zb (wpAny_typeNameOfWhole_keyiter hit.typeIs (Zp (Zb (wpAny_fieldsOf ho hd ?_))))))))
 rw [show Builtin.Dict_items.ownsTuple "dict_keyiterator" = false from by decide]
 refine (?_:wpAny _ _ (if (Value.ref d == Value.none)=true then _ else _) _ _ s)
 rw [if_neg (show ¬ ((Value.ref d == Value.none)=true) from Bool.false_ne_true)]
 refine Zb (Zp (Zb (wpAny_dictEntries hod hdd ?_)))
 rw [if_neg (by simp)]
 refine Zb (Zp (Zb (wpAny_dictEpoch hod hdd ?_)))
 rw [if_neg (by simp)]
 refine Zp ?_
 dsimp only
 rw [if_neg (Int.not_lt.mpr (Int.natCast_nonneg i)),Int.toNat_natCast,he]
 refine (?_:wpAny _ _ (_ >>= fun b=>_) _ _ s)
 refine Zb (Zb (wpAny_typeNameOfWhole_keyiter hit.typeIs (Zp ?_)))
 refine Zb (wpAny_isOneOf_keyiter hit.typeIs ?_)
 refine (?_:wpAny _ _ (setField (.ref it) 1 (rawInt ((i:Int)+1)) >>= _) _ _ s)
 refine Zb (wpAny_setField ho hd (by simp) ?_)
 have hit':(s.heap.update it (Obj.mapFields (·.setIfInBounds 1 (rawInt ((i:Int)+1))))).IsKeyIter it d (i+1) es.size ep :=
  ⟨_,Heap.get?_update_self _ ho (Obj.isFreed_of_fields (Obj.data_mapFields hd _)),(Obj.cls_mapFields ..).trans hc,by rw [Obj.data_mapFields hd];simp [rawInt]⟩
 refine Zb (wpAny_holding ?_)
 refine Zb (wpAny_isOneOf_keyiter (s:={ s with heap:=s.heap.update it (Obj.mapFields (·.setIfInBounds 1 (rawInt ((i:Int)+1)))) }) hit'.typeIs ?_)
 refine (?_:wpAny _ _ (pure en.key) _ _ _)
 exact Zp (Zp ⟨_,rfl,Zp (hQ _ hit' (Heap.SameBut.update ..))⟩)
theorem qS {Q:Option Value->Shared->Prop} (hh:A.handled=none) (hit:s.heap.IsKeyIter it d i es.size ep) (hod:s.heap.get? d=some od) (hdd:od.data=.dict es ep) (he:es[i]?=none)
  (hQ:∀ h',Heap.ExtBut it s.heap h'->Q none { s with heap:=h' }):wpAny (model prog w) A (pyNext (.ref it)) Q E s:=by
 obtain ⟨o,ho,hc,hd⟩:=id hit
 unfold pyNext
 refine Zb (wpAny_attempt (wpAny_callSpecial?_slot (name:=Str.ofString "__next__") hit.typeIs PySem.F.slot_dict_keyiterator_next (wpAny_call_entry PySem.F.slot_dict_keyiterator_next hit.typeIs PySem.F.entry_dict_keyiterator_next ?_ (PySem.F.args_dict_keyiterator_next_1 _))))
 refine Zb (Zp (Zb (Zb (Zb (wpAny_typeNameOfWhole_keyiter hit.typeIs (Zp (Zb (wpAny_fieldsOf ho hd ?_))))))))
 rw [show Builtin.Dict_items.ownsTuple "dict_keyiterator" = false from by decide]
 refine (?_:wpAny _ _ (if (Value.ref d == Value.none)=true then _ else _) _ _ s)
 rw [if_neg (show ¬ ((Value.ref d == Value.none)=true) from Bool.false_ne_true)]
 refine Zb (Zp (Zb (wpAny_dictEntries hod hdd ?_)))
 rw [if_neg (by simp)]
 refine Zb (Zp (Zb (wpAny_dictEpoch hod hdd ?_)))
 rw [if_neg (by simp)]
 refine Zp ?_
 dsimp only
 rw [if_neg (Int.not_lt.mpr (Int.natCast_nonneg i)),Int.toNat_natCast,he]
 refine (?_:wpAny _ _ (_ >>= fun b=>_) _ _ s)
 refine Zb (Zb (wpAny_typeNameOfWhole_keyiter hit.typeIs (Zp ?_)))
 refine (?_:wpAny _ _ (setField (.ref it) 0 .none >>= _) _ _ s)
 refine Zb (wpAny_setField ho hd (by simp) ?_)
 refine (?_:wpAny _ _ (newExc (.type "StopIteration") [] >>= _) _ _ _)
 refine Zb ?_
 unfold newExc newTuple
 refine Zb (wpAny_newObj_type ?_ (by size_fits))
 refine Zb (m:=firstArgMember _ _) (wpAny_of_eq (a:=Value.none) (by first | rfl | (simp only [firstArgMember];rfl)) ?_)
 refine wpAny_newObj_type ?_ (by size_fits)
 unfold raiseNew
 refine Zb (wpAny_handled ?_)
 rw [show A.in1.handled=none from hh]
 refine Zb (Zp (wpAny_throw ?_))
 refine Zb (wpAny_isInstance (T := "StopIteration") (b:=true) ⟨_,Zz _ rfl,rfl⟩ isSubtype_stop ?_)
 exact Zp (hQ _ (((Heap.SameBut.update ..).extBut.push _).push _))
end
section
variable {c:Cx}{ρ:List NV}{σ σ':AState}{Q:AVal->AState->Prop}{X:AExc->AState->Prop}{s:Shared}{target:Expr}
theorem KRs.keys {K:Type}{h:Heap}{kvs:List (K × Value)}{es:List (K × AVal)} (r:KRs h kvs es):kvs.map (·.1)=es.map (·.1):=by
 induction r with
 | nil=>rfl
 | cons _ _ ih=>rw [map_cons,map_cons,ih]
abbrev tK (x:List Int × AVal):AVal:=.tup (x.1.map .int)
theorem ek {h:Heap}{d:Addr}{es:List (List Int × AVal)}{ep:Nat}{P:Prop} (o:OR c.prog c.w h d (.dictT es ep))
  (k:∀ od (ds:Array DictEntry),h.get? d=some od->od.data=.dict ds ep->ds.size=es.length->(∀ (i:Nat) (v:AVal),(es.map tK)[i]?=some v->∃ en,ds[i]?=some en/\VR h en.key v)->P):P :=
 o.dictT' fun xs e dep rs=>by
  obtain ⟨od,ds,ep',ho,_,hd,he,hk,_⟩:=e
  obtain ⟨o2,es2,z1,z2⟩:=dep
  have e1:o2=od:=Option.some.inj (z1.symm.trans ho)
  have e2:ep'=ep:=by
   rw [e1,hd] at z2
   injection z2 with _ z3
  rw [e2] at hd
  have hl:xs.length=es.length:=by have:=rs.length;rwa [length_map] at this
  refine k od ds ho hd ((size_of_entries he).trans hl) fun i v hv=>?_
  obtain ⟨x,hx,e3⟩:∃ x,es[i]?=some x/\tK x=v:=by
   rw [getElem?_map] at hv;exact Option.map_eq_some_iff.mp hv
  have kk:(xs[i]?).map (·.1)=some x.1:=by
   have q:=congrArg (fun z=>z[i]?) rs.keys
   simp only [map_map,getElem?_map,hx] at q
   exact q
  obtain ⟨y,hy,e4⟩:=Option.map_eq_some_iff.mp kk
  refine ⟨_,by rw [entry_at he,hy];rfl,?_⟩
  rw [<- e3,tK,<- e4]
  exact rF (hk y (mem_of_getElem? hy))
noncomputable def sV (c:Cx) (cm:c.calm=true) (target:Expr) (d:Addr) (es:List (List Int × AVal)) (ep:Nat) (it:Addr):ItK c target where
 need σ:=σ d=some (.dictT es ep)
 ads:=[it]
 holds h items:=∃ i,h.IsKeyIter it d i es.length ep/\items=(es.map tK).drop i
 it:=it
 next:=by
  intro ρ σ s v rest P P₀ E E' S hl H k
  refine ex1 H fun i q=>an2 q fun hit he=>?_
  refine ek (S.obj d _ hl) fun od ds ho hd hz hk=>?_
  have hx:(es.map tK)[i]?=some v:=by
   have:=congrArg (fun z=>z[0]?) he
   rw [List.getElem?_drop] at this;exact this.symm
  have hr:rest=(es.map tK).drop (i+1):=by
   have:=congrArg List.tail he
   rw [List.tail_drop] at this;exact this
  refine ex1 (hk i v hx) fun en q=>an2 q fun hen r=>?_
  refine qj (hz.symm ▸ hit) ho hd hen fun h' hit' hsb=>?_
  rw [hz] at hit'
  refine ex1 hit fun ob q=>an3 q fun ho1 hc _=>?_
  refine ex1 (id hit') fun o' q=>an3 q fun ho' hc' hd'=>?_
  refine b4 (s:={ s with heap:=h' }) ho' hc' (by decide) ?_
  refine k en.key h' s.toks (r.keep (aw hsb.extBut ho1 fun q=>by rw [hc] at q;simp at q)) ⟨i+1,hit',hr⟩ (fun b o nb e=>hsb.extBut b o (by simpa using nb) e) fun b hb=>?_
  rw [ZS hb]
  exact ⟨o',ho',hd' ▸ ar⟩
 stop:=by
  intro ρ σ s P E S hl H k
  refine ex1 H fun i q=>an2 q fun hit he=>?_
  refine ek (S.obj d _ hl) fun od ds ho hd hz hk=>?_
  have hx:ds[i]?=none:=by
   have:es.length<=i:=by simpa using he.symm
   rw [Array.getElem?_eq_none_iff,hz];exact this
  refine qS (S.ok.hd cm) (hz.symm ▸ hit) ho hd hx fun h' hsb=>?_
  exact k h' s.toks (fun b o nb e=>hsb b o (by simpa using nb) e)
 self:=by
  intro ρ σ s items P E S hl H k
  refine ex1 H fun i q=>an2 q fun hit he=>?_
  refine wpAny_pyIter_slot hit.typeIs PySem.F.slot_dict_keyiterator_iter (wpAny_call_entry PySem.F.slot_dict_keyiterator_iter hit.typeIs PySem.F.entry_dict_keyiterator_iter ?_ (PySem.F.args_dict_keyiterator_iter_1 _))
  show wpAny _ _ (ret (.ref it)) _ _ s
  exact Zp ⟨_,rfl, "dict_keyiterator",_,hit.typeIs,PySem.F.slot_dict_keyiterator_next.lookup,k⟩
 keep:=by
  intro h h' items H k t
  refine ex1 H fun i q=>an2 q fun q he=>ex1 q fun o q=>an3 q fun ho hc hd=>?_
  exact ⟨i,⟨_,k it (.head _) o ho,hc,hd⟩,he⟩
theorem mi {d:Addr}{es:List (List Int × AVal)}{ep:Nat} (hl:σ d=some (.dictT es ep)) (cm:c.calm=true:=by walk_at "cm"):ItOf c target (.ref d) (es.map tK) (fun σ=>σ d=some (.dictT es ep)) σ:=fun ρ s v P E S r k=>by
 apply r.ref'
 refine ek (S.obj d _ hl) fun od ds ho hd hz hk=>?_
 have kp:∀ b o,s.heap.get? b=some o->(s.heap.push { cls:=.type "dict_keyiterator",data:=.fields #[.ref d,.int 0 0,.int es.length 0,.int ep 0] }).get? b=some o:=fun b o q=>Zu _ q
 have hn:=ag s.heap
 have hT:s.TypeIs (.ref d) "dict" := (S.obj d _ hl).dictT' fun xs e _ _=>e.typeIs
 refine wpAny_pyIter_slot hT PySem.F.slot_dict_iter (wpAny_call_entry PySem.F.slot_dict_iter hT PySem.F.entry_dict_iter ?_ (PySem.F.args_dict_iter_1 _))
 unfold Builtin.«dict.__iter__»
 refine Zb ?_
 unfold Builtin.Dict.dictSlotNone
 refine Zb (wpAny_notOrdered_dict hT ?_)
 show wpAny _ _ (pure (Value.ref d)) _ _ s
 refine Zp ?_
 show wpAny _ _ (Builtin.Dict.showsAll d >>= _) _ _ s
 unfold Builtin.Dict.showsAll
 rw [if_neg (by rw [S.notMods hl];exact Bool.false_ne_true)]
 refine Zb (Zp ?_)
 refine Zb (wpAny_dictEntries ho hd ?_)
 refine Zb (wpAny_dictEpoch ho hd ?_)
 refine Zb (wpAny_newObj_type (Zp ⟨_,rfl, "dict_keyiterator",_,⟨_,Zz _ rfl,rfl⟩,PySem.F.slot_dict_keyiterator_next.lookup,?_⟩))
 rw [hz]
 refine k (sV c cm target d es ep s.heap.objs.size) _ rfl (S.ext kp) (Step.ext (t:=s.toks) kp) ⟨fun b hb=>?_,fun b hb=>?_⟩ ⟨0,⟨_,Zz _ rfl,rfl,rfl⟩,rfl⟩ fun b hb=>?_
 all_goals (rw [ZS hb])
 ·have f:=S.new_off hn;exact ⟨S.none_of hn,f⟩
 ·exact ⟨_,Zz _ rfl,ar⟩
 ·exact hn
end
section
variable {c:Cx}{ρ ρ' ρ₂:List NV}{σ σ₁ σ' τ:AState}{Q:AVal->AState->Prop}{X:AExc->AState->Prop}
theorem AEqs.of {n:Nat}:∀ {as:List AVal},(∀ a∈as,AEq σ n a a)->AEqs σ n as as
 | [],_=>.nil
 | a::as,h=>.cons (h a (.head _)) (AEqs.of fun b hb=>h b (.tail _ hb))
theorem pR {n:Nat} (l:List Str):AEqs σ n (l.map .str) (l.map .str):=.of fun a ha=>by obtain ⟨x,_,rfl⟩:=ZM ha;exact .str
theorem cG {K:Type} [DecidableEq K] {es fs gs:List (K × AVal)}:aN es (fs++gs)=aN (aN es fs) gs:=foldl_append
theorem cC {K:Type} [DecidableEq K]:∀ {fs es:List (K × AVal)},(aN es fs).length<=es.length+fs.length
 | [],_=>Nat.le_refl _
 | x::fs,es=>by
  rw [cg,length_cons]
  have h1:=cC (fs:=fs) (es:=sto es x.1 x.2)
  have h2:=jY es x.1 x.2
  omega
noncomputable def jT (B:Bx) (Ls:List Ltr):List (List Int × AVal):=Ls.map fun L=>([B.validity,L.uid],.tup [L.oct,.int L.instant])
theorem lN {Bs:List Bx}{B:Bx}:bk (Bs++[B])=bk Bs++jT B B.letters:=by
 unfold bk
 rw [flatMap_append,List.flatMap_singleton];rfl
theorem eY:∀ {Bs:List Bx},(∀ B∈Bs,B.letters.length<=60)->(bk Bs).length<=60 * Bs.length
 | [],_=>Nat.le_refl _
 | B::Bs,h=>by
  have h1:=eY (Bs:=Bs) fun C hC=>h C (.tail _ hC)
  have h2:=h B (.head _)
  have e:(bk (B::Bs)).length=B.letters.length+(bk Bs).length:=by
   unfold bk;rw [flatMap_cons,length_append,length_map]
  rw [e,length_cons];omega
theorem rC {vs:List Int}{i:Nat} (h:vs.Nodup) (hi:i < vs.length):(vs.take i).any (· == vs[i])=false:=by
 rw [any_eq_false]
 intro y hy z
 obtain ⟨j,hj,e⟩:=List.mem_take_iff_getElem.mp hy
 have e2:vs[j]'(by omega)=vs[i]:=e.trans (eq_of_beq z)
 exact List.pairwise_iff_getElem.mp h j i (by omega) hi (by omega) e2
theorem kl {Bs:List Bx}{nx:Int}{y:AVal} (x:Lib c) (cm:c.calm=true) (lv:2<=c.lv) (hin:("INBOX" : Str)∈Bs.map (·.name)) (hs:bf (Bs.map (·.name))=Bs.map (·.name)) (hv:(Bs.map (·.validity)).Nodup)
  (hr:∀ B∈Bs,1<=B.validity/\B.validity < nx) (hz:Bs.length<=30) (hl:∀ B∈Bs,B.letters.length<=60) (k:∀ σ' D ep,Le σ σ'->σ D=none->σ' D=some (.dictT (aN [] (bk Bs)) ep)->Q (.ref D) σ'):GoV VR c ρ [.tup [.int nx,y,.tup (Bs.map boxV)]] (fun vs=>call (.ref 568) vs) σ Q X:=by
 refine GoV.tidy ?_
 refine ai f568 x s!"o" s!"r" rfl s!"r" fun L₀=>?_
 refine af ?_
 with_reducible refine bq s!"u" ?_
 refine ev_dict_nil (.dictT [] 0) (.inr (.inr rfl)) fun F hF=>?_
 refine ac s!"r" ?_
 refine bC hF fun σ₁ l₁ hF₁=>?_
 refine af ?_
 refine ib Bx rfl s!"cns" s!"cok" s!"cp" ?_
 ext
 refine .mk Bs boxV (fun B=>.str B.name) _ cA (fun _ _=>trivial) (sz s!"o") (fun cl C B hB σ₂ l₂=>?_) fun σ₃ D₁ l13 _ hD₁=>?_
 ·ext
  exact ⟨rfl,Le.refl _⟩
 refine ac s!"r" ?_
 refine af ?_
 refine ib Bx rfl s!"cns" s!"cok" s!"cp" ?_
 ext
 refine .mk Bs boxV (fun B=>.int B.validity) _ cA (fun _ _=>trivial) (sz s!"o") (fun cl C B hB σ₂ l₂=>?_) fun σ₅ D₂ l₅ hD₂ hD₂=>?_
 ·ext
  exact ⟨rfl,Le.refl _⟩
 refine ac s!"r" ?_
 ext
 refine dT (xs:=Bs.map (·.name)) (l₅ _ _ (by rw [hD₁,map_map];rfl)) ?_
 rw [show ((Bs.map (·.name)).any (· == ("INBOX" : Str)))=true from List.any_eq_true.mpr ⟨_,hin,beq_self_eq_true _⟩]
 have l35:=l₅
 have hD₁':σ₅ D₁=some (.list ((Bs.map (·.name)).map .str)):=l35 _ _ (by rw [hD₁,map_map];rfl)
 ext
 refine gT hD₁' (by rw [length_map];walk_at "o") fun D₃ hD₃=>?_
 rw [hs]
 refine pM (n:=1) (Zl hD₃ _ _ hD₁') (Zs ..) (pR _) (by decide) ?_
 ext
 refine bC hD₃ fun σ₆ l₆ _=>?_
 have l36:=l35.trans l₆
 have hD₂:σ₆ D₂=some (.list ((Bs.map (·.validity)).map .int)):=l₆ _ _ (by rw [hD₂,map_map];rfl)
 have hF₆:=l36 _ _ (l13 _ _ hF₁)
 generalize hvs:Bs.map (·.validity)=vs at hv hD₂
 have hvl:vs.length<=30:=by rw [<- hvs,length_map];exact hz
 have hvr:∀ v∈vs,1<=v/\v < nx:=fun v h=>by rw [<- hvs] at h;obtain ⟨B,hB,e⟩:=ZM h;rw [<- e];exact hr B hB
 refine af ?_
 refine aX (α:=Nat) (fun i=>.int i) rfl ?_
 ext
 refine bJ hD₂ (by rw [length_map];walk_at "o") ?_
 rw [length_map]
 ext
 refine dc fun G hG=>?_
 have en:nums 0 ((vs.length:Int) - 0).toNat=(List.range' 0 vs.length).map fun (i:Nat)=>AVal.int (i:Int):=by
  rw [<- ff vs.length 0];simp
 let J1:=fun (r:List Nat) (ρ':List NV) (σ':AState)=>∃ n v,n<=vs.length/\r=List.range' n (vs.length - n)/\ρ'=[⟨"told",.local,some (.tup [.int nx,y,.tup (Bs.map boxV)])⟩,⟨"found",.local,some (.ref F)⟩,⟨"one",.local,none⟩,⟨"names",.local,some (.ref D₁)⟩,⟨"validities",.local,some (.ref D₂)⟩,⟨"spot",.local,v⟩,⟨"letter",.local,none⟩,⟨"sorted",.globalImplicit,none⟩,⟨"range",.globalImplicit,none⟩,⟨"len",.globalImplicit,none⟩]/\Le σ₆ σ'
 refine ⟨List.range' 0 vs.length,_,J1,by rw [<- en];exact cY (Zs ..) (by decide) (by decide) s!"o" s!"o",⟨0,_,Nat.zero_le _,rfl,rfl,Zl hG⟩,fun _ _ _ _=>trivial,?_,?_⟩
 ·intro i ys ρ₁ σ₇ r1z
  refine ex2 r1z fun n v q=>?_
  clear r1z
  refine an4 q fun hn hr e l=>?_
  clear q
  obtain rfl:=e
  have hn':n < vs.length:=by
   have:=congrArg List.length hr
   simp at this;walk_at "o"
  have er:vs.length - n=(vs.length - (n+1))+1:=oA hn'
  rw [er,range'_succ] at hr
  cases hr
  refine ay rfl (ac s!"r" ?_)
  have hD₂:=l _ _ hD₂
  ext
  refine aL (n:=i) (y:=.int vs[i]) hD₂ s!"o" (by rw [getElem?_map,getElem?_eq_getElem hn'];rfl) ?_
  ext
  refine nB (k:=i) hD₂ (sz (by rw [length_map];walk_at "o")) fun D₄ hD₄=>?_
  rw [<- map_take]
  refine qr (xs:=vs.take i) (Zs ..) ?_
  rw [rC hv hn']
  ext
  refine aL (n:=i) (y:=.int vs[i]) (Zl hD₄ _ _ hD₂) s!"o" (by rw [getElem?_map,getElem?_eq_getElem hn'];rfl) ?_
  have hr2:=hvr _ (getElem_mem hn')
  refine kh ?_
  rw [decide_eq_true hr2.1]
  ext
  rw [decide_eq_true hr2.2]
  ext
  exact Tidy.of (Zl hD₄) ⟨i+1,_,hn',rfl,rfl,l⟩
 ·intro ρ₁ σ₇ r1z
  refine ex2 r1z fun n v q=>?_
  clear r1z
  refine an4 q fun hn hr e l=>?_
  clear q
  obtain rfl:=e
  have hF₇:=l _ _ hF₆
  have l07:=l₁.trans (l13.trans (l36.trans l))
  refine af ?_
  refine aX (α:=Bx) boxV rfl ?_
  ext
  let J2:=fun (r:List Bx) (ρ':List NV) (σ':AState)=>∃ v1 v2 ds ep,ρ'=[⟨"told",.local,some (.tup [.int nx,y,.tup (Bs.map boxV)])⟩,⟨"found",.local,some (.ref F)⟩,⟨"one",.local,v1⟩,⟨"names",.local,some (.ref D₁)⟩,⟨"validities",.local,some (.ref D₂)⟩,⟨"spot",.local,v⟩,⟨"letter",.local,v2⟩,⟨"sorted",.globalImplicit,none⟩,⟨"range",.globalImplicit,none⟩,⟨"len",.globalImplicit,none⟩]/\Bs=ds++r/\Fr [F] σ₇ σ'/\σ' F=some (.dictT (aN [] (bk ds)) ep)
  refine ⟨Bs,_,J2,cA,⟨_,_,[],0,rfl,rfl,Fr.refl,hF₇⟩,fun _ _ _ _=>trivial,?_,?_⟩
  ·intro B r ρ₁ σ₈ r2z
   refine ex4 r2z fun v1 v2 ds ep q=>?_
   clear r2z
   refine an4 q fun e hds f hF₈=>?_
   clear q
   obtain rfl:=e
   have hB:=hl B (by rw [hds];simp)
   have hdl:ds.length<=30:=by rw [hds] at hz;simp at hz;walk_at "o"
   have hda:∀ C∈ds,C.letters.length<=60:=fun C hC=>hl C (by rw [hds];exact mem_append_left _ hC)
   refine ay rfl (ac s!"r" ?_)
   refine af ?_
   refine aX (α:=Ltr) letV rfl ?_
   ext
   let J3:=fun (r:List Ltr) (ρ':List NV) (σ':AState)=>∃ v2 es ep,ρ'=[⟨"told",.local,some (.tup [.int nx,y,.tup (Bs.map boxV)])⟩,⟨"found",.local,some (.ref F)⟩,⟨"one",.local,some (boxV B)⟩,⟨"names",.local,some (.ref D₁)⟩,⟨"validities",.local,some (.ref D₂)⟩,⟨"spot",.local,v⟩,⟨"letter",.local,v2⟩,⟨"sorted",.globalImplicit,none⟩,⟨"range",.globalImplicit,none⟩,⟨"len",.globalImplicit,none⟩]/\B.letters=es++r/\Fr [F] σ₇ σ'/\σ' F=some (.dictT (aN (aN [] (bk ds)) (jT B es)) ep)
   refine ⟨B.letters,_,J3,cA,⟨_,[],_,rfl,rfl,f,hF₈⟩,fun _ _ _ _=>trivial,?_,?_⟩
   ·intro L r ρ₁ σ₉ r3z
    refine ex3 r3z fun v2 es ep q=>?_
    clear r3z
    refine an4 q fun e hes f hF₉=>?_
    clear q
    obtain rfl:=e
    refine ay rfl (ac s!"r" ?_)
    ext
    refine fT (k:=[B.validity,L.uid]) hF₉ (sz ?_) fun ep'=>?_
    ·have h1:=cC (fs:=jT B es) (es:=aN [] (bk ds))
     have h2:=cC (fs:=bk ds) (es:=[])
     have h3:=eY hda
     have h4:(jT B es).length=es.length:=length_map ..
     have h5:es.length<=60:=by rw [hes] at hB;simp at hB;walk_at "o"
     simp at h2
     walk_at "o"
    ext
    refine Tidy.of (Le.refl _) ⟨_,es++[L],ep',rfl,by rw [hes];simp,f.set (.head _),?_⟩
    rw [Zs]
    have e:jT B (es++[L])=jT B es++[([B.validity,L.uid],.tup [L.oct,.int L.instant])]:=map_append
    rw [e,cG];rfl
   ·intro ρ₁ σ₉ r3z
    refine ex3 r3z fun v2 es ep q=>?_
    clear r3z
    refine an4 q fun e hes f hF₉=>?_
    clear q
    obtain rfl:=e
    rw [append_nil] at hes
    ext
    refine Tidy.of (Le.refl _) ⟨_,_,ds++[B],ep,rfl,by rw [hds];simp,f,?_⟩
    rw [hF₉,<- hes,lN,cG]
  ·intro ρ₁ σ₈ r2z
   refine ex4 r2z fun v1 v2 ds ep q=>?_
   clear r2z
   refine an4 q fun e hds f hF₈=>?_
   clear q
   obtain rfl:=e
   rw [append_nil] at hds
   ext
   refine Tidy.of (Le.refl _) (k _ _ ep (fun a o e=>(((l07.fr (F:=[F])).trans f).drop hF) a o e not_mem_nil) hF ?_)
   rw [hds];exact hF₈
end
section
variable {c:Cx}{ρ ρ' ρ₂:List NV}{σ σ₁ σ' τ:AState}{Q:AVal->AState->Prop}{X:AExc->AState->Prop}
structure Dicts (σ:AState) (m d a:Addr) (k:Nat) (M D A:List (List Int × AVal)):Prop where
 hm:∃ ep,σ m=some (.dictT M ep)
 hd:∃ ep,σ d=some (.dictT D ep)
 ha:∃ ep,σ a=some (.dictT A ep)
 ml:M.length<=1800 * k
 dl:D.length<=1800 * k
 al:A.length<=1800
 md:m≠d
 am:a≠m
 ad:a≠d
theorem Dicts.fr {m d a:Addr}{k:Nat}{M D A:List (List Int × AVal)}{F:List Addr} (h:Dicts σ m d a k M D A) (f:Fr F σ σ') (hm:m∉F) (hd:d∉F) (ha:a∉F):Dicts σ' m d a k M D A :=
 { h with hm:=ex1 h.hm fun _ e=>⟨_,f _ _ e hm⟩,hd:=ex1 h.hd fun _ e=>⟨_,f _ _ e hd⟩,ha:=ex1 h.ha fun _ e=>⟨_,f _ _ e ha⟩ }
theorem Rep.offT {S:StA}{Es:List Ent}{ns:List Str}{nx:Int}{m:Addr}{M:List (List Int × AVal)} (R:Rep σ S Es ns nx) (h:∃ ep,σ m=some (.dictT M ep)):m∉aY S Es:=fun z=>by
 obtain ⟨ep,h⟩:=h
 simp only [aY,mem_cons] at z
 rcases z with rfl | rfl | rfl | z
 ·rw [R.obj.d] at h;cases h
 ·rw [R.dict] at h;cases h
 ·rw [R.subs] at h;cases h
 ·obtain ⟨e,he,z⟩:=List.mem_flatMap.mp z
  have bd:=R.box e he
  obtain ⟨xs,hx,_⟩:=bd.l
  simp only [BxA.foot,mem_cons,not_mem_nil,or_false] at z
  rcases z with rfl | rfl | rfl
  ·rw [bd.d] at h;cases h
  ·rw [hx] at h;cases h
  ·rw [bd.g] at h;cases h
theorem DB.hb {b D:Addr}{n:Int} (h:DB σ b D n):∃ xs,σ b=some (.list xs):=by
 obtain ⟨cs,g,s,p,h1,h2,h3,h4,h5,h6,h7,h8,h9⟩:=h
 exact ⟨_,h1⟩
theorem DB.hD {b D:Addr}{n:Int} (h:DB σ b D n):∃ xs,σ D=some (.list xs):=by
 obtain ⟨cs,g,s,p,h1,h2,h3,h4,h5,h6,h7,h8,h9⟩:=h
 exact ⟨_,h2⟩
theorem DB.fr {b D:Addr}{n:Int}{F:List Addr} (h:DB σ b D n) (f:Fr F σ σ') (hb:b∉F) (hD:D∉F):DB σ' b D n:=by
 obtain ⟨cs,g,s,p,h1,h2,h3,h4,h5,h6,h7,h8,h9⟩:=h
 exact ⟨cs,g,s,p,f _ _ h1 hb,f _ _ h2 hD,h3,h4,h5,h6,h7,h8,h9⟩
theorem L2Inv.start:L2Inv ⟨[("INBOX",Bx.new "INBOX" 1)],[],2⟩ [] [] [] :=
 ⟨⟨fun _ _ h=>(by cases h),Inv2.start.sub,fun _ h=>(by cases h)⟩,fun k a=>⟨fun h=>(by cases h),fun h=>(by cases Inv2.start.sub k a h)⟩,nodup_nil⟩
structure Turn (σ:AState) (b D x₀ m d a:Addr) (k:Nat) (S:StA) (Es:List Ent) (ns:List Str) (nx:Int) (M C A:List (List Int × AVal)):Prop where
 db:DB σ b D (20 * k)
 rep:Rep σ S Es ns nx
 inv:StoInv k (ah Es ns nx)
 vals:Vals (ah Es ns nx)
 l2:L2Inv (ah Es ns nx) M C A
 di:Dicts σ m d a k M C A
 bOff:b∉aY S Es
 dOff:D∉aY S Es
 sx:S.x=x₀
theorem Rep.fr {S:StA}{Es:List Ent}{ns:List Str}{nx:Int}{F:List Addr} (R:Rep σ S Es ns nx) (f:Fr F σ σ') (n:NoL σ F) (hx:S.x∉F) (hn:∀ a∈aY S Es,a∉F):Rep σ' S Es ns nx :=
 { R with obj:=R.obj.fr f hx (hn _ (.head _)),dict:=f _ _ R.dict (hn _ (.tail _ (.head _))),subs:=f _ _ R.subs (hn _ (.tail _ (.tail _ (.head _)))),box:=fun e he=>(R.box e he).fr f n fun a ha=>hn a (cN he a ha) }
theorem Rep.fr1 {S:StA}{Es:List Ent}{ns:List Str}{nx:Int}{b:Addr} (R:Rep σ S Es ns nx) (f:Fr [b] σ σ') (h:b∉aY S Es) (n:NotLtr (σ b)) (hx:S.x≠b):Rep σ' S Es ns nx :=
 R.fr f (fun a ha=>by rw [ZS ha];exact n) (fun z=>hx (ZS z)) fun a ha z=>h (by rw [<- ZS z];exact ha)
theorem iY {S:StA}{Es:List Ent}{ns:List Str}{nx:Int} (R:Rep σ S Es ns nx):(cM Es).map (·.name)=bf (Es.map (·.n)):=by
 unfold cM
 rw [map_map,eK (d:=("" : Str)) (dZ R)]
 refine (map_congr_left fun n hn=>?_).trans (map_id _)
 obtain ⟨e,he⟩:=dZ R n hn
 obtain ⟨hm,hen⟩:=aO he
 rw [he]
 exact (R.name e hm).trans hen
theorem i5 {Es:List Ent} (kd:(Es.map (·.n)).Nodup) {B:Bx} (h:B∈cM Es):∃ e∈Es,e.B=B:=ZM ((bV kd).subset h)
theorem nr {Es:List Ent}{ns:List Str}{nx:Int}:stoV Es ns nx=.tup [.int nx,.tup (ns.map .str),.tup ((cM Es).map boxV)]:=by
 unfold stoV cM
 rw [map_map];rfl
theorem mR {α:Type}:∀ l:List α,(l.map fun _=>false).any id=false
 | []=>rfl
 | _::l=>mR l
theorem szz {n:Nat} (h:n<=18000):n<=sizeLine:=Zt h (by decide)
theorem NotLtr.dictT {es:List (List Int × AVal)}{ep:Nat}:NotLtr (some (.dictT es ep)):=⟨fun _ h=>(by cases h),fun _ _ h=>(by cases h)⟩
theorem oY {a:Addr}{xs:List (List Int × AVal)}{ep:Nat} (ha:σ a=some (.dictT xs ep)):BTy c (.ref a) "dict" σ:=fun ρ s v S r=>by
 apply r.ref'
 refine (S.obj a _ ha).dictT' fun _ h _ _=>⟨h.typeIs,fun ad q=>?_⟩
 cases q
 exact ex3 h fun o es ep z=>an6 z fun ho hc _ _ _ _=>⟨o,ho,hc.2.1⟩
section
variable {N A C ds:List (List Int × AVal)}{y:List Int × AVal}
theorem lL:bO (ds++[y]) N=bO ds N++bO [y] N:=by unfold bO;rw [filter_append,map_append]
theorem qa (h:(!(vAt N y.1).isSome)=true):aN C (bO (ds++[y]) N)=sto (aN C (bO ds N)) y.1 (.bool true):=by
 rw [lL,cG]
 unfold bO
 rw [filter_cons,if_pos h];rfl
theorem qH (h:(!(vAt N y.1).isSome)=false):aN C (bO (ds++[y]) N)=aN C (bO ds N):=by
 rw [lL,cG]
 unfold bO
 rw [filter_cons,h];rfl
theorem pW:(bO ds N).length<=ds.length:=by unfold bO;rw [length_map];exact length_filter_le ..
theorem l9 {α:Type}{A ds r:List α}{n:Nat} (h:A.length<=n) (e:A=ds++r):ds.length<=n:=by rw [e,length_append] at h;omega
theorem lc {k:Nat} (h:C.length<=1800 * k) (hk:k<=9) (h2:ds.length<=1800):(aN C (bO ds N)).length<=1800 * (k+1):=by
 have h1:=cC (fs:=bO ds N) (es:=C)
 have h2:=pW (ds:=ds) (N:=N)
 omega
theorem lz {k:Nat} (h:C.length<=1800 * k) (h2:ds.length<=1800):(aN C ds).length<=1800 * (k+1):=by
 have h1:=cC (fs:=ds) (es:=C)
 omega
theorem qY {M:List (List Int × AVal)} (hK:(N.map (·.1)).Nodup) (e:N=ds++y::A) (h:vAt M y.1=none\/vAt M y.1=some y.2):(vAt (aN M ds) y.1).getD y.2=y.2:=by
 have:y.1∉ds.map (·.1):=fun z=>by
  rw [e,map_append,nodup_append] at hK
  exact hK.2.2 _ z _ (.head _) rfl
 rw [dz this]
 rcases h with h | h<;>rw [h]<;>rfl
end
inductive MidI (s:Sto) (a b D x₀ m d al:Addr) (k:Nat) (M C A:List (List Int × AVal)) (ρ':List NV) (σ':AState):Prop
 | mk (v1 v2 v4 v5:Option AVal) (f:Addr) (ps:List (Int × Int)) (S:StA) (Es:List Ent) (ns:List Str) (nx:Int)
  (h2:ρ'=[⟨"script",.local,some (.ref a)⟩,⟨"box",.local,some (.ref b)⟩,⟨"store",.local,some (.ref x₀)⟩,⟨"meaning",.cell,some (.ref m)⟩,⟨"dead",.local,some (.ref d)⟩,⟨"alive",.local,some (.ref al)⟩,⟨"turn",.local,v1⟩,⟨"row",.local,v2⟩,⟨"fresh",.local,some (.ref f)⟩,⟨"pair",.local,v4⟩,⟨"here",.cell,v5⟩,⟨"_law_box",.globalImplicit,none⟩,⟨"Store",.globalImplicit,none⟩,⟨"range",.globalImplicit,none⟩,⟨"_law_deed",.globalImplicit,none⟩,⟨"_law_fresh",.globalImplicit,none⟩,⟨"apply",.globalImplicit,none⟩,⟨"StoreFault",.globalImplicit,none⟩,⟨"any",.globalImplicit,none⟩,⟨"_law_alive",.globalImplicit,none⟩])
  (rep:Rep σ' S Es ns nx) (db:DB σ' b D (20 * k+20)) (di:Dicts σ' m d al k M C A) (bOff:b∉aY S Es) (dOff:D∉aY S Es) (sx:S.x=x₀) (inv:StoInv (k+1) (ah Es ns nx)) (vals:Vals (ah Es ns nx))
  (gr:Grow s (ah Es ns nx)) (hf:σ' f=some (.list (ps.map bE))) (hp:ps.length<=60) (new:∀ p∈ps,New s [p.1,p.2]/\∃ a,Al (ah Es ns nx) [p.1,p.2] a)
inductive LawI (a b D x₀ m d:Addr) (r:List Int) (ρ':List NV) (σ':AState):Prop
 | mk (v1 v2 v3 v4 v5:Option AVal) (k:Nat) (S:StA) (Es:List Ent) (ns:List Str) (nx:Int) (M C A:List (List Int × AVal)) (al:Addr) (h1:r.length+k=9)
  (h2:ρ'=[⟨"script",.local,some (.ref a)⟩,⟨"box",.local,some (.ref b)⟩,⟨"store",.local,some (.ref x₀)⟩,⟨"meaning",.cell,some (.ref m)⟩,⟨"dead",.local,some (.ref d)⟩,⟨"alive",.local,some (.ref al)⟩,⟨"turn",.local,v1⟩,⟨"row",.local,v2⟩,⟨"fresh",.local,v3⟩,⟨"pair",.local,v4⟩,⟨"here",.cell,v5⟩,⟨"_law_box",.globalImplicit,none⟩,⟨"Store",.globalImplicit,none⟩,⟨"range",.globalImplicit,none⟩,⟨"_law_deed",.globalImplicit,none⟩,⟨"_law_fresh",.globalImplicit,none⟩,⟨"apply",.globalImplicit,none⟩,⟨"StoreFault",.globalImplicit,none⟩,⟨"any",.globalImplicit,none⟩,⟨"_law_alive",.globalImplicit,none⟩]) (T:Turn σ' b D x₀ m d al k S Es ns nx M C A)
theorem sM {a L₀:Addr}{xs:List Int} (x:Lib c) (cm:c.calm=true) (lv:22<=c.lv) (ha:InBase c.G a (xs.map .int)) (hz:xs.length<=63) (k:∀ σ',Q (.bool true) σ') (body:List Stmt) (hbody:fd573.body=.stmts body) :
  WSs (c.top fd573 573 L₀) (bI fd573.scope.names [.ref a]) body σ (NQ Q) Q (XF X):=by
 refine WSs.tidy ?_
 have hb2:fd573.body=.stmts (gc (topS 84)):=rfl
 obtain rfl:gc (topS 84)=body:=FuncBody.stmts.inj (hb2.symm.trans hbody)
 show WSs _ [⟨"script",.local,some (.ref a)⟩,⟨"box",.local,none⟩,⟨"store",.local,none⟩,⟨"meaning",.cell,none⟩,⟨"dead",.local,none⟩,⟨"alive",.local,none⟩,⟨"turn",.local,none⟩,⟨"row",.local,none⟩,⟨"fresh",.local,none⟩,⟨"pair",.local,none⟩,⟨"here",.cell,none⟩,⟨"_law_box",.globalImplicit,none⟩,⟨"Store",.globalImplicit,none⟩,⟨"range",.globalImplicit,none⟩,⟨"_law_deed",.globalImplicit,none⟩,⟨"_law_fresh",.globalImplicit,none⟩,⟨"apply",.globalImplicit,none⟩,⟨"StoreFault",.globalImplicit,none⟩,⟨"any",.globalImplicit,none⟩,⟨"_law_alive",.globalImplicit,none⟩] (_::_) _ _ _ _
 ext
 refine m3 s!"lib" cm s!"lv" ha hz fun σ₁ b D l₁ hdb=>?_
 refine ac s!"r" ?_
 refine af ?_
 with_reducible refine bq s!"u" ?_
 refine ec_Store s!"lib" s!"lv" s!"look" fun σ₂ S A l₂ R hSn=>?_
 refine ac s!"r" ?_
 have hbS:b∉aY S [⟨"INBOX",A,Bx.new "INBOX" 1⟩]:=fun z=>by
  refine ex1 hdb.hb fun _ e=>?_
  rw [hSn b z] at e;cases e
 have hDS:D∉aY S [⟨"INBOX",A,Bx.new "INBOX" 1⟩]:=fun z=>by
  refine ex1 hdb.hD fun _ e=>?_
  rw [hSn D z] at e;cases e
 have hdb:=hdb.le l₂
 refine af ?_
 with_reducible refine bq s!"u" ?_
 refine ev_dict_nil (.dictT [] 0) (.inr (.inr rfl)) fun m hm=>?_
 refine ac s!"r" ?_
 refine bC hm fun σ₃ l₃ hm₃=>?_
 refine af ?_
 with_reducible refine bq s!"u" ?_
 refine ev_dict_nil (.dictT [] 0) (.inr (.inr rfl)) fun d hd=>?_
 refine ac s!"r" ?_
 refine bC hd fun σ₄ l₄ hd₄=>?_
 refine af ?_
 with_reducible refine bq s!"u" ?_
 refine ev_dict_nil (.dictT [] 0) (.inr (.inr rfl)) fun al hal=>?_
 refine ac s!"r" ?_
 refine bC hal fun σ₅ l₅ ha₅=>?_
 refine af ?_
 refine aX (α:=Int) .int rfl ?_
 ext
 refine dc fun G hG=>?_
 have l6:Le σ₅ (σ₅.set G (.range 0 9)):=Zl hG
 have T₀:Turn (σ₅.set G (.range 0 9)) b D S.x m d al 0 S [⟨"INBOX",A,Bx.new "INBOX" 1⟩] [] 2 [] [] []:=by
  have l:=((l₃.trans l₄).trans l₅).trans l6
  refine ⟨hdb.le l,R.le l,pD,Vals.start,L2Inv.start,
   ⟨⟨_,l6 _ _ (l₅ _ _ (l₄ _ _ hm₃))⟩,⟨_,l6 _ _ (l₅ _ _ hd₄)⟩,⟨_,l6 _ _ ha₅⟩,Nat.zero_le _,Nat.zero_le _,Nat.zero_le _,(ne_n hd hm₃).symm,?_,?_⟩,hbS,hDS,rfl⟩
  ·exact ne_n hal (l₄ _ _ hm₃)
  ·exact ne_n hal hd₄
 clear ha₅ hal hd₄ hd hm₃ hm hDS hbS hSn R hz ha
 refine ⟨[0,1,2,3,4,5,6,7,8],_,LawI a b D S.x m d,cY (Zs ..) (by decide) (by decide) (by decide) (by decide) (cm:=cm),.mk _ _ _ _ _ 0 _ _ _ _ _ _ _ _ rfl rfl T₀,fun _ _ _ _=>trivial,?_,?_⟩
 ·intro y r ρ₁ τ₁ r1z
  obtain ⟨v1,v2,v3,v4,v5,kk,S₁,Es,ns,nx,M,C,A,al,hr,e,T⟩:=r1z
  subst e
  simp only [length_cons] at hr
  refine ay rfl (ac s!"r" ?_)
  have hSx:=T.sx
  rw [<- hSx]
  ext
  refine lV (S:=S₁) s!"lib" cm s!"lv" T.db T.rep.obj s!"o" fun τ₂ dd hdb₂ f₂ hdd=>?_
  refine ac s!"r" ?_
  ext
  refine ⟨by decide,fun e he=>?_⟩
  refine ac s!"r" ?_
  refine bC he fun τ₃ l₃ _=>?_
  clear he
  refine ex1 T.db.hb fun _ eb=>?_
  have nb:∀ {a:Addr}{M:List (List Int × AVal)},(∃ ep,τ₁ a=some (.dictT M ep))->a∉[b]:=fun h z=>by
   obtain ⟨_,h⟩:=h
   rw [ZS z,eb] at h;cases h
  have R₃:Rep τ₃ S₁ Es ns nx:=(T.rep.fr1 f₂ T.bOff (by rw [eb];exact .list) fun z=>by have:=T.rep.obj.x;rw [z,eb] at this;cases this).le l₃
  have D₃:Dicts τ₃ m d al kk M C A:=T.di.fr (f₂.le l₃) (nb T.di.hm) (nb T.di.hd) (nb T.di.ha)
  have hdb₃:=hdb₂.le l₃
  have inv:=T.inv
  have H:StoOk 60 (ah Es ns nx):=inv.ok s!"o"
  refine af ?_
  refine WS.mono (N':=MidI (ah Es ns nx) a b D S₁.x m d al kk M C A) ?_ (fun ρ₂ τ₄ z=>?_)
  ·refine r4 (C:=64) rfl (fun ρ' h=>LookG.same s!"look" h) (g64 s!"lib") (mO (Lib.toK s!"lib")) ?_
   ext
   refine qC (m:=60) s!"lib" cm s!"lv" R₃ H (by decide) hdd.sz (fun s' res τ₄ a₄ hst ho hres=>?_) (fun _ w a fr=>⟨rfl,fun e=>?_⟩)
   ·obtain ⟨S₂,Es₂,R₄,KS,hEs⟩:=ho
    obtain ⟨w,rest,hrow,F⟩:=qd hdd.sz hst hres
    have es:ah Es₂ s'.names s'.next=s':=by unfold ah;rw [<- hEs]
    have g:=pi inv T.vals hst
    have i2:=p4 inv hdd hst
    have fr:=mQ inv hst
    rw [<- es] at g i2 fr
    rw [hrow]
    ext
    refine j3 s!"lib" cm s!"lv" F fun τ₅ Df l₅ hDf hF₅=>?_
    refine ac s!"r" ?_
    ext
    have nS:∀ a,(∃ xs,τ₃ a=some (.list xs))->a∉aY S₁ Es->a∉aY S₂ Es₂:=fun a ⟨o,e⟩ n z=>(KS.new a z).elim n fun q=>by rw [q] at e;cases e
    exact .mk _ _ _ _ Df _ S₂ Es₂ _ _ rfl (R₄.le l₅) ((hdb₃.fr KS.fr T.bOff T.dOff).le l₅) (D₃.fr (KS.fr.le l₅) (R₃.offT D₃.hm) (R₃.offT D₃.hd) (R₃.offT D₃.ha)) (nS b hdb₃.hb T.bOff) (nS D hdb₃.hD T.dOff) KS.x i2 g.2 g.1 hF₅ F.len fr
   ·ext
    refine ⟨by decide,fun e₂ he₂=>?_⟩
    refine ac s!"r" ?_
    have l₄:=Zl (o:=.list []) he₂
    ext
    exact .mk _ _ _ _ e₂ [] S₁ Es _ _ rfl (R₃.le l₄) (hdb₃.le l₄) (D₃.fr (l₄.fr (F:=[])) not_mem_nil not_mem_nil not_mem_nil) T.bOff T.dOff rfl inv.mono T.vals .refl (Zs ..) (Nat.zero_le _) fun p h=>by cases h
  ·obtain ⟨w1,w2,w4,w5,f,ps,S₂,Es₂,ms,mx,e2,R₄,hdb₄,D₄,bOff,dOff,sx,inv₂,vals₂,gr,hf,hp,hnew⟩:=z
   subst e2
   ext
   refine ev_compA (Int × Int) rfl s!"cns" s!"cok" s!"cp" ?_
   ext
   refine .mk ps bE (fun _=>.bool false) _ (aG hf) (fun σ' l=>l _ _ hf) (sz s!"o") (fun cl C p hp σ₃ l₃=>?_) fun τ₅ E l₅ hE hE₅=>?_
   ·ext
    refine ex1 D₄.hm fun ep hm=>?_
    refine lY (k:=[p.1,p.2]) (l₃ _ _ hm) ?_
    rw [T.l2.inv.fresh (hnew p hp).1]
    exact ⟨rfl,Le.refl _⟩
   ext
   refine qN (bs:=ps.map fun _=>false) (by rw [hE₅,map_map];rfl) ?_
   rw [mR]
   ext
   have R₅:=R₄.le l₅
   have H₂:StoOk 60 (ah Es₂ ms mx):=inv₂.ok s!"o"
   have hcnt:=H₂.cnt
   have hnm:ms.length<=30:=H₂.names
   have kd:(Es₂.map (·.n)).Nodup:=R₅.keys
   refine me_store_told s!"lib" ?_
   ext
   refine ⟨S₂,mx,by rw [sx],R₅.obj,?_⟩
   ext
   refine i9 s!"lib" cm s!"lv" R₅ s!"o" s!"o" (fun e he=>by have:=(H₂.ent he).1;have h1:=this.len;have h2:=this.gone;walk_at "o") ?_
   rw [nr]
   have hl:∀ B∈cM Es₂,B.letters.length<=60:=fun B hB=>by obtain ⟨e,he,e2⟩:=i5 kd hB;rw [<- e2];exact (H₂.ent he).1.len
   have hz2:(cM Es₂).length<=30:=by rw [(bV kd).length_eq,length_map];exact hcnt
   ext
   refine kl (Bs:=cM Es₂) s!"lib" cm s!"lv" ?_ ?_ ?_ ?_ hz2 hl fun τ₆ hh ep₆ l₆ hn₆ hh₆=>?_
   ·rw [iY R₅]
    refine (aC _).symm.subset ?_
    rw [<- fe (ns:=ms) (nx:=mx)];exact vals₂.inbox
   ·rw [iY R₅];exact gy (dS _)
   ·have:=vals₂.once
    unfold ah at this
    rw [map_map] at this
    have p:=(bV kd).map (·.validity)
    rw [map_map] at p
    exact p.nodup_iff.mpr this
   ·intro B hB
    obtain ⟨e,he,e2⟩:=i5 kd hB
    rw [<- e2]
    exact vals₂.low (e.n,e.B) (mem_map_of_mem (f:=fun e:Ent=>(e.n,e.B)) he)
   rw [iN (i6 kd vals₂ inv₂),List.nil_append] at hh₆
   have hC:=fun k a=>qq (ns:=ms) (nx:=mx) (k:=k) (a:=a) kd
   have hK:=i6 kd vals₂ inv₂
   have hCl:(bk (cM Es₂)).length<=1800:=Zt (eY hl) (Nat.mul_le_mul_left 60 hz2)
   have lt:=T.l2.go gr vals₂ inv₂ hC hK
   have hN:∀ k a,(k,a)∈bk (cM Es₂)->∃ b t i,a=.tup [.bytes b t,.int i]:=fun k a h=>by
    obtain ⟨B,hB,L,hL,_,e2⟩:=aliveL_mem.mp h
    obtain ⟨e,he,e3⟩:=i5 kd hB
    obtain ⟨b,t,e4⟩:=(inv₂.box (e.n,e.B) (mem_map_of_mem (f:=fun e:Ent=>(e.n,e.B)) he)).octs L (by rw [e3];exact hL)
    exact ⟨b,t,L.instant,by rw [e2,e4]⟩
   generalize bk (cM Es₂)=N at hh₆ hC hK hCl lt hN
   refine ac s!"r" ?_
   have l46:=l₅.trans l₆
   ext
   refine nt (fun as h=>by cases h) ?_
   ext
   refine ev_compA (Int × Int) rfl s!"cns" s!"cok" s!"cp" ?_
   ext
   have hf₆:=l46 _ _ hf
   refine .mk ps bE (fun _=>.bool false) _ (aG hf₆) (fun σ' l=>l _ _ hf₆) (sz s!"o") (fun cl C p hp σ₃ l₃=>?_) fun τ₇ E l₇ hE hE₇=>?_
   ·ext
    obtain ⟨v,hv⟩:=(hnew p hp).2
    refine gw (k:=[p.1,p.2]) (l₃ _ _ hh₆) ?_
    rw [j1 hK ((hC _ _).mpr hv)]
    exact ⟨rfl,Le.refl _⟩
   ext
   refine qN (bs:=ps.map fun _=>false) (by rw [hE₇,map_map];rfl) ?_
   rw [mR]
   ext
   have l47:=l46.trans l₇
   have D₇:=D₄.fr (l47.fr (F:=[])) not_mem_nil not_mem_nil not_mem_nil
   have hh₇:=l₇ _ _ hh₆
   have nm:hh≠m:=ex1 D₄.hm fun _ e=>ne_n hn₆ (l₅ _ _ e)
   have nd:hh≠d:=ex1 D₄.hd fun _ e=>ne_n hn₆ (l₅ _ _ e)
   refine ex1 D₇.hm fun em hm₇=>ex1 D₇.hd fun ed hd₇=>ex1 D₇.ha fun ea ha₇=>?_
   refine af ?_
   refine aX (α:=List Int × AVal) tK rfl ?_
   ext
   let J1:=fun (r:List (List Int × AVal)) (ρ':List NV) (σ':AState)=>∃ v ds ep,ρ'=[⟨"script",.local,some (.ref a)⟩,⟨"box",.local,some (.ref b)⟩,⟨"store",.local,some (.ref S₁.x)⟩,⟨"meaning",.cell,some (.ref m)⟩,⟨"dead",.local,some (.ref d)⟩,⟨"alive",.local,some (.ref al)⟩,⟨"turn",.local,w1⟩,⟨"row",.local,w2⟩,⟨"fresh",.local,some (.ref f)⟩,⟨"pair",.local,v⟩,⟨"here",.cell,some (.ref hh)⟩,⟨"_law_box",.globalImplicit,none⟩,⟨"Store",.globalImplicit,none⟩,⟨"range",.globalImplicit,none⟩,⟨"_law_deed",.globalImplicit,none⟩,⟨"_law_fresh",.globalImplicit,none⟩,⟨"apply",.globalImplicit,none⟩,⟨"StoreFault",.globalImplicit,none⟩,⟨"any",.globalImplicit,none⟩,⟨"_law_alive",.globalImplicit,none⟩]/\A=ds++r/\Fr [d] τ₇ σ'/\σ' d=some (.dictT (aN C (bO ds N)) ep)
   refine ⟨A,_,J1,mi ha₇,⟨_,[],_,rfl,rfl,Fr.refl,hd₇⟩,fun _ _ _ z=>ex3 z fun _ _ _ q=>q.2.2.1 _ _ ha₇ (fun z=>D₇.ad (ZS z)),?_,?_⟩
   ·intro y' r' ρ₁ τ₈ z
    refine ex3 z fun v ds ep q=>?_
    clear z
    refine an4 q fun e hds f₈ hd₈=>?_
    clear q
    obtain rfl:=e
    refine ay rfl (ac s!"r" ?_)
    ext
    refine gw (k:=y'.1) (f₈ _ _ hh₇ fun z=>nd (ZS z)) ?_
    ext
    have hds':=l9 D₇.al hds
    refine aj (fun hq=>?_) (fun hq=>?_)
    ·ext
     refine fT (k:=y'.1) hd₈ (szz (Zt (lc D₇.dl s!"o" hds') s!"o")) fun ep'=>?_
     ext
     refine Tidy.of (Le.refl _) ⟨_,ds++[y'],ep',rfl,by rw [hds,append_assoc];rfl,f₈.set (.head _),?_⟩
     rw [Zs,qa hq]
    ·ext
     exact Tidy.of (Le.refl _) ⟨_,ds++[y'],ep,rfl,by rw [hds,append_assoc];rfl,f₈,by rw [qH hq];exact hd₈⟩
   ·intro ρ₁ τ₈ z
    refine ex3 z fun v ds ep q=>?_
    clear z
    refine an4 q fun e hds f₈ hd₈=>?_
    clear q
    obtain rfl:=e
    rw [append_nil] at hds
    rw [<- hds] at hd₈
    clear hds
    have hh₈:=f₈ _ _ hh₇ fun z=>nd (ZS z)
    have hm₈:=f₈ _ _ hm₇ fun z=>D₇.md (ZS z)
    refine af ?_
    refine aX (α:=List Int × AVal) tK rfl ?_
    ext
    let J2:=fun (r:List (List Int × AVal)) (ρ':List NV) (σ':AState)=>∃ v ds ep,ρ'=[⟨"script",.local,some (.ref a)⟩,⟨"box",.local,some (.ref b)⟩,⟨"store",.local,some (.ref S₁.x)⟩,⟨"meaning",.cell,some (.ref m)⟩,⟨"dead",.local,some (.ref d)⟩,⟨"alive",.local,some (.ref al)⟩,⟨"turn",.local,w1⟩,⟨"row",.local,w2⟩,⟨"fresh",.local,some (.ref f)⟩,⟨"pair",.local,v⟩,⟨"here",.cell,some (.ref hh)⟩,⟨"_law_box",.globalImplicit,none⟩,⟨"Store",.globalImplicit,none⟩,⟨"range",.globalImplicit,none⟩,⟨"_law_deed",.globalImplicit,none⟩,⟨"_law_fresh",.globalImplicit,none⟩,⟨"apply",.globalImplicit,none⟩,⟨"StoreFault",.globalImplicit,none⟩,⟨"any",.globalImplicit,none⟩,⟨"_law_alive",.globalImplicit,none⟩]/\N=ds++r/\Fr [m] τ₈ σ'/\σ' m=some (.dictT (aN M ds) ep)
    refine ⟨N,_,J2,mi hh₈,⟨_,[],_,rfl,rfl,Fr.refl,hm₈⟩,fun _ _ _ z=>ex3 z fun _ _ _ q=>q.2.2.1 _ _ hh₈ (fun z=>nm (ZS z)),?_,?_⟩
    ·intro y' r' ρ₁ τ₉ z
     refine ex3 z fun v ds ep q=>?_
     clear z
     refine an4 q fun e hds f₉ hm₉=>?_
     clear q
     obtain rfl:=e
     have hy:(y'.1,y'.2)∈N:=by rw [hds];exact mem_append_right _ (.head _)
     have lt2:=lt.2 _ _ hy
     have hh₉:=f₉ _ _ hh₈ fun z=>nm (ZS z)
     have hy2:=j1 hK hy
     refine ay rfl (ac s!"r" ?_)
     ext
     refine lY (k:=y'.1) (f₉ _ _ hd₈ fun z=>D₇.md (ZS z).symm) ?_
     rw [lt2.1]
     ext
     refine ⟨oY hm₉,?_⟩
     ext
     refine gh (k:=y'.1) hh₉ hy2 ?_
     ext
     refine qT (k:=y'.1) hm₉ ?_
     rw [qY hK hds lt2.2]
     ext
     refine gh (k:=y'.1) hh₉ hy2 ?_
     obtain ⟨oct,t,i,e2⟩:=hN _ _ hy
     rw [e2]
     refine qO (n:=1) (.cons .bytes (.cons .int .nil)) (by decide) ?_
     ext
     refine gh (k:=y'.1) hh₉ hy2 ?_
     ext
     refine fT (k:=y'.1) hm₉ (szz (Zt (lz D₇.ml (l9 hCl hds)) s!"o")) fun ep'=>?_
     ext
     refine Tidy.of (Le.refl _) ⟨_,ds++[y'],ep',rfl,by rw [hds,append_assoc];rfl,f₉.set (.head _),?_⟩
     rw [Zs,cG];rfl
    ·intro ρ₁ τ₉ z
     refine ex3 z fun v ds ep q=>?_
     clear z
     refine an4 q fun e hds f₉ hm₉=>?_
     clear q
     obtain rfl:=e
     rw [append_nil] at hds
     rw [<- hds] at hm₉
     clear hds
     ext
     have R₈:=R₄.le l47
     have db₈:=hdb₄.le l47
     refine ex1 db₈.hb fun _ eb=>ex1 db₈.hD fun _ eD=>?_
     have hd₉:=f₉ _ _ hd₈ fun z=>D₇.md (ZS z).symm
     have hh₉:=f₉ _ _ hh₈ fun z=>nm (ZS z)
     have om:m∉aY S₂ Es₂:=R₄.offT D₄.hm
     have od:d∉aY S₂ Es₂:=R₄.offT D₄.hd
     have hx:=R₈.obj.x
     have nl:∀ {x y:Addr}{τ:AState}{l:List AVal}{es:List (List Int × AVal)}{ep:Nat},τ x=some (.list l)->τ y=some (.dictT es ep)->x∉[y]:=fun h g z=>by rw [ZS z,g] at h;cases h
     have R₉:Rep τ₈ S₂ Es₂ ms mx:=(R₄.le l47).fr1 f₈ od (by rw [hd₇];exact .dictT) fun z=>by rw [z,hd₇] at hx;cases hx
     have R₁₀:Rep τ₉ S₂ Es₂ ms mx:=R₉.fr1 f₉ om (by rw [hm₈];exact .dictT) fun z=>by have hx:=R₉.obj.x;rw [z,hm₈] at hx;cases hx
     have db₉:DB τ₉ b D (20 * kk+20):=by
      have h1:=db₈.fr f₈ (nl eb hd₇) (nl eD hd₇)
      refine ex1 h1.hb fun _ eb=>ex1 h1.hD fun _ eD=>?_
      exact h1.fr f₉ (nl eb hm₈) (nl eD hm₈)
     exact Tidy.of (Le.refl _) (.mk _ _ _ _ _ (kk+1) S₂ Es₂ ms mx _ _ _ hh s!"o" rfl ⟨db₉.more (by push_cast;walk_at "o"),R₁₀,inv₂,vals₂,lt.1,⟨⟨_,hm₉⟩,⟨_,hd₉⟩,⟨_,hh₉⟩,lz D₇.ml hCl,lc D₇.dl s!"o" D₇.al,hCl,D₇.md,nm,nd⟩,bOff,dOff,sx⟩)
 ·intro ρ₁ τ₁ r1z
  obtain ⟨v1,v2,v3,v4,v5,kk,S₁,Es,ns,nx,M,C,A,al,hr,e,T⟩:=r1z
  subst e
  ext
  exact Tidy.of (Le.refl _) (k _)
end
end Mine
theorem PySem.Challenge.cw_no0389_02_holds : PySem.Challenge.rw_no0389_02.Holds :=
 Mine.t3 fun x cm lv ha hz k body hb=>Mine.sM x cm lv ha hz k body hb
