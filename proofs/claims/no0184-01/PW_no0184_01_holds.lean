import PyProof.Rows.All
import Wide.All
import OpenK.AllK
import Wide.FinOn
import PySem.Challenge.RW_no0184_01
set_option tactic.hygienic false
set_option genSizeOf false
set_option genInjectivity false
set_option genCtorIdx false
set_option compiler.extract_closed false
set_option bootstrap.genMatcherCode false
set_option Elab.async false
set_option linter.all false
namespace Mine.Internal
def mkS(a:List (String×Lean.Syntax))(s:String):Lean.Syntax:=
 (((s.replace "!" "1null 1T.tacticSeq1Indented 1T.tacticSeq").splitOn " ").foldl (λ(st:List (String×Lean.Syntax)×List Lean.Syntax) w=>
  let c:=w.front
  let r:=String.ofList w.toList.tail
  if c='=' then((r,st.2.head!)::st.1,st.2.tail)
  else
   let n:=if c.toNat<48 then 0 else c.toNat - 48
   let x:Lean.Syntax:=if c='\'' then .atom .none r
    else if c='&' then .ident .none r.toRawSubstring r.toName []
    else if c='"' then(Lean.Syntax.mkStrLit r).raw
    else if c='$' then(st.1.lookup r).get!
    else .node .none ((r.toName.replacePrefix `T `Lean.Parser.Tactic).replacePrefix `M `Lean.Parser.Term) (st.2.take n).reverse.toArray
   (st.1,x::st.2.drop n)) (a,[])).2.head!
def aR:Lean.Syntax:=mkS [] "'rfl 1T.tacticRfl !"
def aD:Lean.Syntax:=mkS [] "'decide 0null 1T.optConfig 2T.decide !"
def aI:Lean.Syntax:=mkS [] "'intros 0null 2T.intros '; 'rfl 1T.tacticRfl 3null 1T.tacticSeq1Indented 1T.tacticSeq"
def aU:Lean.Syntax:=mkS [] "'intros 0null 2T.intros '; 'with_unfolding_all 'rfl 1T.tacticRfl ! 2T.withUnfoldingAll 3null 1T.tacticSeq1Indented 1T.tacticSeq"
end Mine.Internal
open PySem PySem.W PySem.Calls PyProof.Rows
set_option Elab.async false
set_option maxRecDepth 100000
set_option maxHeartbeats 0
namespace Mine
noncomputable def topT(sT:SharedT→Thread→Option (SharedT×Thread))(ok:Thread→Bool):Nat→SharedT→Thread→Option SharedT
 |0,_,_=>none
 |n+1,s,t=>match through t with
  |true=>some s
  |false=>match ok t with
   |false=>none
   |true=>match sT s t with
    |some (s',t')=>topT sT ok n s' t'
    |none=>none
theorem topT_of{tb:String→Option Builtin}{p:Program}{w:World}{n₀:Nat}{ann:Option Value}: ∀{n:Nat} {s s':SharedT} {t:Thread},topT (stepT (denote tb) p w) (stepOk n₀ ann) n s t=some s'→topRun tb p w n₀ ann n s.abs t=some s'.abs
 |0,_,_,_,h=>by cases h
 |n+1,s,s',t,h=>by
  unfold topT at h
  unfold topRun
  cases he:through t with
  |true=>rw[he]at h;cases h;rfl
  |false=>
   rw[he]at h
   cases hk:stepOk n₀ ann t with
   |false=>rw[hk]at h;cases h
   |true=>
    rw[hk]at h
    cases hs:stepT (denote tb) p w s t with
    |none=>rw[hs]at h;cases h
    |some r=>obtain⟨s₂,t₂⟩:=r;rw[hs]at h;dsimp only;rw[stepT_spec hs];exact topT_of h
noncomputable def bootT(P:Params):BT:=
 .node (boot_o_0 P) (.node (boot_o_1 P) (.node (boot_o_3 P) (.node (boot_o_7 P) .nil .nil) .nil) (.node (boot_o_5 P) (.node (boot_o_9 P) .nil .nil) .nil))
  (.node (boot_o_2 P) (.node (boot_o_4 P) (.node (boot_o_8 P) .nil .nil) .nil) (.node (boot_o_6 P) (.node (boot_o_10 P) .nil .nil) .nil))
theorem bootT_abs(P:Params):absHeap (bootT P) 11 (boot_heap P).life=boot_heap P:=by kernel_rfl!
theorem absGet(t:BT)(n:Nat)(life:Life)(a:Nat):(absHeap t n life).get? a=match Nat.blt a n with|true=>alive ((t.get a).getD default)|false=>none:=by
 cases h:Nat.blt a n with
 |false=>exact abs_get_none λq=>by rw[Nat.blt_eq.mpr q]at h;cases h
 |true=>
  have h:=Nat.blt_eq.mp h
  unfold Heap.get?
  rw[absHeap_at,if_pos h]
  generalize (t.get a).getD default=o
  obtain⟨c,d,dt,sl⟩:=o
  cases dt<;>rfl
noncomputable def obsT(as:List Addr)(s:SharedT):List (Option Obj):=as.map λa=>match Nat.blt a s.n with|true=>alive ((s.tree.get a).getD default)|false=>none
theorem obsT_eq(as:List Addr)(s:SharedT):as.map s.abs.heap.get? =obsT as s:=List.map_congr_left λa _=>absGet s.tree s.n s.life a
theorem leftO_ofT{p q:Program}{loose:List Str}{Xt:Shared→Bool}{Yf:Shared→List (Option Obj)}{Ya:World→List (Option Obj)}{N:Nat}{as:List Addr}
  {St:(Code→Sem Fin)→Program→World→SharedT→Thread→Option (SharedT×Thread)} {De:(String→Option Builtin)→Code→Sem Fin} {Tt:String→Option Builtin} {Ok:Nat→Option Value→Thread→Bool} {Im:List Stmt→List Str}
  {Os:Program→List Str→List Str→(Shared→Bool)→Bool→Shared→_}
  (eS: @stepT=St) (eD: @denote=De) (eT:treeTable=Tt) (eK: @stepOk=Ok) (eI: @importedModules=Im) (eO: @openSeen=Os) (eY: ∀s:SharedT,Yf s.abs=obsT as s)
  (open_: ∀w:World,(fencedOpening treeTable p w N).map (λs=>(s.heap,s.gens,s.drawn,s.toks))=some (boot_heap w.params,#[],boot_drawn,boot_toks))
  (size: ∀w:World,((boot_heap w.params).isNs mainGlobals&&(#[]:Array GenState).size==0,(boot_heap w.params).objs.size,(boot_heap w.params).nsMap mainGlobals "__annotations__")=(true,11,some (.ref 6)))
  (r1: ∀w:World,(λos=>(topT (St (De Tt) p w) (Ok 11 (some (.ref 6))) N ⟨bootT w.params,11,(boot_heap w.params).life,#[],boot_drawn,boot_toks,os⟩ (topStub p)).map (λs=>
    (staticsOk (Im p.main.body) (boot_heap w.params) s.abs.heap&&namesBound p s.abs.heap&&gensDone s.abs&&laidKept (boot_heap w.params) s.abs.heap)))= λ_=>some true)
  (r2: ∀w:World,(λos=>(topT (St (De Tt) p w) (Ok 11 (some (.ref 6))) N ⟨bootT w.params,11,(boot_heap w.params).life,#[],boot_drawn,boot_toks,os⟩ (topStub p)).map (λs=>Os q loose (Im p.main.body) Xt true s.abs))= λ_=>some (openGood q loose))
  (r3: ∀w:World,(λos=>(topT (St (De Tt) p w) (Ok 11 (some (.ref 6))) N ⟨bootT w.params,11,(boot_heap w.params).life,#[],boot_drawn,boot_toks,os⟩ (topStub p)).map (λs=>obsT as s))= λ_=>some (Ya w)):LeftO p q loose Xt Yf Ya N true:=λw=>by
 subst eS eD eT eK eI eO
 obtain⟨⟨h,gs,d,k,os⟩,e,e'⟩:=Option.map_eq_some_iff.mp (open_ w)
 obtain⟨rfl,rfl,rfl,rfl⟩:h=boot_heap w.params∧gs= #[]∧d=boot_drawn∧k=boot_toks:=by simpa using e'
 obtain⟨z1,z2,z3⟩:_∧_∧_:=by simpa only[Prod.mk.injEq]using size w
 obtain⟨s,r,l1⟩:=Option.map_eq_some_iff.mp (congrFun (r1 w) os)
 have l2:=congrFun (r2 w) os
 have l3:=congrFun (r3 w) os
 have l2:(topT _ _ _ _ _).map _=_:=l2
 have l3:(topT _ _ _ _ _).map _=_:=l3
 rw[r]at l2 l3
 have l2:=Option.some.inj l2
 have l3:=Option.some.inj l3
 have r:=topT_of r
 have ab:SharedT.abs ⟨bootT w.params,11,(boot_heap w.params).life,#[],boot_drawn,boot_toks,os⟩=⟨boot_heap w.params,#[],boot_drawn,boot_toks,os⟩:=by
  show(⟨absHeap _ _ _,_,_,_,_⟩:Shared)=_
  rw[bootT_abs]
 rw[ab]at r
 have t:topFrom treeTable p w N ⟨boot_heap w.params,#[],boot_drawn,boot_toks,os⟩=some s.abs:=by
  unfold topFrom
  dsimp only
  rw[z1,z2,z3,r]
  show(match staticsOk (importedModules p.main.body) (boot_heap w.params) s.abs.heap&&namesBound p s.abs.heap&&gensDone s.abs&&laidKept (boot_heap w.params) s.abs.heap with|true=>_|false=>_)=_
  rw[l1]
 unfold openEnds
 rw[e]
 show(topFrom treeTable p w N _).map _=_
 rw[t]
 exact congrArg some (Prod.ext l2 ((eY s).trans l3))
noncomputable def vw:Program:=view PySem.Challenge.rw_no0184_01.row.prog [0,2,3,4,5,6,7,8,9,10,12,13,14,16,17,18,19,20,21,22,23,24,25,26,27,29,30,31,32,33,34,35,36,37,38,39,40,41,43,44,45,46,47,48,49,50,51]
noncomputable def lo:List PySem.Str:=[PySem.Str.ofString "VOID",PySem.Str.ofString "Store"]
noncomputable def lv:List (PySem.Str×WData):=[(PySem.Str.ofString "VOID",WData.tuple [WData.int 5,WData.int 0])]
noncomputable def pg:Program:=PySem.Challenge.rw_no0184_01.row.prog
noncomputable def R(w:World)(os:OsState):Option SharedT:=topT (PySem.W.Fast.tw10156331382660048174 (PySem.W.Fast.tw11892475500146522536 PySem.W.Fast.tw14364793385576792824) pg w) (PySem.W.Fast.tw6613529449190102663 11 (some (.ref 6))) 7128 ⟨bootT w.params,11,(boot_heap w.params).life,#[],boot_drawn,boot_toks,os⟩ (topStub pg)
noncomputable def xt(s:Shared):Bool:=xlAt Mine.vw Mine.lv s&&recOk (RowW.records PySem.Challenge.rw_no0184_01.row.toRowW) s
theorem run1(w:World):(λos=>(R w os).map (λs=>staticsOk (PySem.W.Fast.tw5923862056798008813 pg.main.body) (boot_heap w.params) s.abs.heap&&namesBound pg s.abs.heap&&gensDone s.abs&&laidKept (boot_heap w.params) s.abs.heap))= λ_=>some true:=by kernel_rfl
theorem run2(w:World):(λos=>(R w os).map (λs=>PySem.W.Fast.tw4187177175401517315 vw lo (PySem.W.Fast.tw5923862056798008813 pg.main.body) xt true s.abs))= λ_=>some (openGood vw lo):=by kernel_rfl
theorem said0:PySem.W.Fast.tw9446332074065402090 PySem.Challenge.rw_no0184_01=true:=by kernel_rfl
local macro_rules | `(tactic| o_law) => pure (Internal.mkS [] "'refine &holds_law '( & 1hygieneInfo 2M.hygienicLParen =a $a $a &congrFun &PySem.W.Fast.te9446332074065402090 '_ 1M.hole 2null 2M.app ') 3M.paren '. &trans 3M.proj &said0 1null 2M.app ') 3M.paren 'fun &said 1null 0null '=> '? '_ 2M.syntheticHole 4M.basicFun 2M.fun 2null 2M.app 2T.refine")
local macro_rules | `(tactic| o_head $H) => pure (Internal.mkS [("H", H)] "'( 'refine =a $a &PySem.W.holds_open '( &r ':= &PySem.Challenge.rw_no0184_01.row ') 5M.namedArgument '( &q ':= &Mine.vw =b $b ') 5M.namedArgument '( &loose ':= &Mine.lo ') 5M.namedArgument '( &Xt ':= 'fun &s 1null =c $c 0null '=> &xlAt $b &Mine.lv =d $d &s 3null 2M.app '&& &recOk '( & 1hygieneInfo 2M.hygienicLParen =e $e &RowW.records &PySem.Challenge.rw_no0184_01.row.toRowW 1null 2M.app ') 3M.paren &s 2null 2M.app 3«term_&&_» 4M.basicFun 2M.fun ') 5M.namedArgument '( &XP ':= &XL $b $d 2null 2M.app ') 5M.namedArgument '( &Yf ':= &Hook.obs $H 1null 2M.app ') 5M.namedArgument '( &Ya ':= &Hook.val $H 1null 2M.app ') 5M.namedArgument '( &YP ':= &Hook.says $H 1null 2M.app ') 5M.namedArgument '( &N ':= '7128 1num ') 5M.namedArgument '? &hl 2M.syntheticHole $e &Hook.of $H 1null 2M.app ') 3M.paren $e &Hook.keeps $H 1null 2M.app ') 3M.paren $e 'fun &s &e 2null =f $f 0null '=> &xl_of &s $e &Bool.and_eq_true_iff.mp &e 1null 2M.app ') 3M.paren =g $g '. '1 1fieldIdx 3M.proj 2null 2M.app 4M.basicFun 2M.fun ') 3M.paren &XL.keeps $e 'by 'rfl 1T.tacticRfl ! 2M.byTactic ') 3M.paren =h $h $h $h $e 'fun $f 0null '=> &recFacts_of $g '. '2 1fieldIdx 3M.proj 1null 2M.app 4M.basicFun 2M.fun ') 3M.paren $h $e 'by 'assumption 1T.assumption ! 2M.byTactic ') 3M.paren $e 'by 'decide '+ &kernel 2T.posConfigItem 1T.configItem 1null 1T.optConfig 2T.decide ! 2M.byTactic =i $i ') 3M.paren '⟨ &rfl ', &rfl ', &rfl ', &rfl ', &rfl ', $i ;null '⟩ 3M.anonymousCtor '? &hw 2M.syntheticHole '? &hc 2M.syntheticHole Hnull 2M.app 2T.refine 0null 'case &hl 1Lean.binderIdent 0null 2T.caseArg 1null '=> $a &leftO_ofT &PySem.W.Fast.te10156331382660048174 &PySem.W.Fast.te11892475500146522536 &PySem.W.Fast.te14364793385576792824 &PySem.W.Fast.te6613529449190102663 &PySem.W.Fast.te5923862056798008813 &PySem.W.Fast.te4187177175401517315 $e 'fun $c 0null '=> &obsT_eq '_ 1M.hole &s 2null 2M.app 4M.basicFun 2M.fun ') 3M.paren $e &boot_open $e 'by 'kernel_rfl 1tacticKernel_rfl ! 2M.byTactic =j $j ') 3M.paren &rfl $e 'fun $c 0null '=> $j 4M.basicFun 2M.fun ') 3M.paren 3null 2M.app ') 3M.paren $e 'fun &w 1null 0null '=> $j 4M.basicFun 2M.fun ') 3M.paren =k $k &run1 &run2 $k <null 2M.app 2T.refine ! 4T.case 3null 1T.tacticSeq1Indented 1T.tacticSeq ') 3T.paren")
set_option maxRecDepth 100000 in
set_option maxHeartbeats 8000000 in
open_top hd for PySem.Challenge.rw_no0184_01
end Mine
set_option hygiene false
set_option maxRecDepth 100000
set_option maxHeartbeats 4000000
open PySem PySem.W PySem.Calls PyProof.Rows
namespace Mine.Internal
local macro_rules | `(tactic| omega) => pure (mkS [] "'first '| 'assumption 1T.assumption ! 2group '| 'lia 0null 1T.optConfig 2T.lia ! 2group '| 'omega '( &config ':= '{ '} 2«term{}» '{ 0null 0null 1M.structInstFields 0null 1M.optEllipsis 0null '} 6M.structInst 2choice ') 5T.valConfigItem 1T.configItem 1null 1T.optConfig 2T.omega ! 2group 3null 2T.first")
local macro_rules | `(tactic| obtain $p:rcasesPatMed := $e:term) => pure (mkS [("p", p), ("e", e)] "'first '| '( 'refine =a $a &p1b 'fun &P'z &k'z 2null 0null '=> '? '_ 2M.syntheticHole =b $b 4M.basicFun 2M.fun 1null 2M.app 2T.refine '; '( 'rcases 0null $e 2T.elimTarget 1null 'with $p 0null 2T.rcasesPatLo 2null 3T.rcases ! =c $c ') 3T.paren '<;> '( $a &k'z $b 1null 2M.app 2T.refine '; 'clear &k'z &P'z 2null 2T.clear 3null 1T.tacticSeq1Indented 1T.tacticSeq ') 3T.paren 3T.«tactic_<;>_» 3null 1T.tacticSeq1Indented 1T.tacticSeq ') 3T.paren ! 2group '| $c 2group 2null 2T.first")
theorem p1b{T:Prop}(h: ∀P:Prop,(T→P)→P):T:=h T id
theorem b0n{α:Type}{x:α}{C:Prop}(h:none=some x):C:=nomatch h
theorem a0t{C:Prop}(h:false=true):C:=nomatch h
theorem gn0{α:Type}{s:List α}{a:α}:(s++[a])[s.length]?=some a:=List.getElem?_concat_length
theorem gn1{α:Type}{s:List α}{a b:α}:(s++[a]++[b])[s.length]?=some a:=by simp
theorem gn2{α:Type}{s:List α}{a b:α}:(s++[a]++[b])[s.length+1]?=some b:=by simp
theorem gn3{α:Type}{s:List α}{a b c:α}:(s++[a]++[b]++[c])[s.length]?=some a:=by simp
theorem gn4{α:Type}{s:List α}{a b c:α}:(s++[a]++[b]++[c])[s.length+1]?=some b:=by simp
theorem gn5{α:Type}{s:List α}{a b c:α}:(s++[a]++[b]++[c])[s.length+2]?=some c:=by simp
theorem ln1{α:Type}{s:List α}{a:α}:(s++[a]).length=s.length+1:=List.length_append
theorem ln2{α:Type}{s:List α}{a b:α}:(s++[a]++[b]).length=s.length+2:=by simp
theorem ln3{α:Type}{s:List α}{a b c:α}:(s++[a]++[b]++[c]).length=s.length+3:=by simp
theorem gp0{α:Type}{s:List α}{a b:α}:(s++[a,b])[s.length]?=some a:=by simp
theorem gp1{α:Type}{s:List α}{a b:α}:(s++[a,b])[s.length+1]?=some b:=by simp
theorem gq0{α:Type}{s:List α}{a b c:α}:(s++[a,b]++[c])[s.length]?=some a:=by simp
theorem gq1{α:Type}{s:List α}{a b c:α}:(s++[a,b]++[c])[s.length+1]?=some b:=by simp
theorem gq2{α:Type}{s:List α}{a b c:α}:(s++[a,b]++[c])[s.length+2]?=some c:=by simp
theorem gm0{α:Type}{s:List α}{a b c d:α}:(s++[a]++[b]++[c]++[d])[s.length]?=some a:=by simp
theorem gm1{α:Type}{s:List α}{a b c d:α}:(s++[a]++[b]++[c]++[d])[s.length+1]?=some b:=by simp
theorem gm2{α:Type}{s:List α}{a b c d:α}:(s++[a]++[b]++[c]++[d])[s.length+2]?=some c:=by simp
theorem gm3{α:Type}{s:List α}{a b c d:α}:(s++[a]++[b]++[c]++[d])[s.length+3]?=some d:=by simp
theorem ln4{α:Type}{s:List α}{a b c d:α}:(s++[a]++[b]++[c]++[d]).length=s.length+4:=by simp
theorem ge0{α:Type}{s:List α}{a:α}{n:Nat}(e:s.length=n):(s++[a])[n]?=some a:=e▸gn0
theorem a0m{P Q:Prop}{C:Prop}(h:P∧Q)(k:P→Q→C):C:=k h.1 h.2
theorem b0l{P Q R:Prop}{C:Prop}(h:P∧Q∧R)(k:P→Q→R→C):C:=k h.1 h.2.1 h.2.2
theorem r0m{P Q R S:Prop}{C:Prop}(h:P∧Q∧R∧S)(k:P→Q→R→S→C):C:=k h.1 h.2.1 h.2.2.1 h.2.2.2
theorem o1z{P Q R S T U:Prop}{C:Prop}(h:P∧Q∧R∧S∧T∧U)(k:P→Q→R→S→T→U→C):C:=k h.1 h.2.1 h.2.2.1 h.2.2.2.1 h.2.2.2.2.1 h.2.2.2.2.2
theorem a0k{α:Type}{P:α→Prop}{C:Prop}(h: ∃a,P a)(k: ∀a,P a→C):C:=h.elim λa h=>k a h
theorem a0a{α:Type}{P Q:α→Prop}{C:Prop}(h: ∃a,P a∧Q a)(k: ∀a,P a→Q a→C):C:=h.elim λa h=>k a h.1 h.2
theorem a0q{α:Type}{P Q R:α→Prop}{C:Prop}(h: ∃a,P a∧Q a∧R a)(k: ∀a,P a→Q a→R a→C):C:=h.elim λa h=>k a h.1 h.2.1 h.2.2
theorem g0k{α:Type}{P Q R S:α→Prop}{C:Prop}(h: ∃a,P a∧Q a∧R a∧S a)(k: ∀a,P a→Q a→R a→S a→C):C:=h.elim λa h=>k a h.1 h.2.1 h.2.2.1 h.2.2.2
theorem x0a{α β:Type}{P:α→β→Prop}{C:Prop}(h: ∃a b,P a b)(k: ∀a b,P a b→C):C:=h.elim λa h=>h.elim λb h=>k a b h
theorem c0e{α β:Type}{P Q:α→β→Prop}{C:Prop}(h: ∃a b,P a b∧Q a b)(k: ∀a b,P a b→Q a b→C):C:=h.elim λa h=>h.elim λb h=>k a b h.1 h.2
theorem b0j{α β:Type}{P Q R:α→β→Prop}{C:Prop}(h: ∃a b,P a b∧Q a b∧R a b)(k: ∀a b,P a b→Q a b→R a b→C):C:=h.elim λa h=>h.elim λb h=>k a b h.1 h.2.1 h.2.2
theorem e1g{α β:Type}{P Q R S T U:α→β→Prop}{C:Prop}(h: ∃a b,P a b∧Q a b∧R a b∧S a b∧T a b∧U a b)(k: ∀a b,P a b→Q a b→R a b→S a b→T a b→U a b→C):C:=h.elim λa h=>h.elim λb h=>k a b h.1 h.2.1 h.2.2.1 h.2.2.2.1 h.2.2.2.2.1 h.2.2.2.2.2
theorem h0o{α β γ:Type}{P Q:α→β→γ→Prop}{C:Prop}(h: ∃a b c,P a b c∧Q a b c)(k: ∀a b c,P a b c→Q a b c→C):C:=h.elim λa h=>h.elim λb h=>h.elim λc h=>k a b c h.1 h.2
theorem d0l{α β γ:Type}{P Q R S:α→β→γ→Prop}{C:Prop}(h: ∃a b c,P a b c∧Q a b c∧R a b c∧S a b c)(k: ∀a b c,P a b c→Q a b c→R a b c→S a b c→C):C:=h.elim λa h=>h.elim λb h=>h.elim λc h=>k a b c h.1 h.2.1 h.2.2.1 h.2.2.2
theorem a1o{α β γ:Type}{P Q R S T:α→β→γ→Prop}{C:Prop}(h: ∃a b c,P a b c∧Q a b c∧R a b c∧S a b c∧T a b c)(k: ∀a b c,P a b c→Q a b c→R a b c→S a b c→T a b c→C):C:=h.elim λa h=>h.elim λb h=>h.elim λc h=>k a b c h.1 h.2.1 h.2.2.1 h.2.2.2.1 h.2.2.2.2
theorem r0n{α β γ:Type}{P Q R S T U:α→β→γ→Prop}{C:Prop}(h: ∃a b c,P a b c∧Q a b c∧R a b c∧S a b c∧T a b c∧U a b c)(k: ∀a b c,P a b c→Q a b c→R a b c→S a b c→T a b c→U a b c→C):C:=h.elim λa h=>h.elim λb h=>h.elim λc h=>k a b c h.1 h.2.1 h.2.2.1 h.2.2.2.1 h.2.2.2.2.1 h.2.2.2.2.2
theorem i1y{α β γ:Type}{P Q R S T U V:α→β→γ→Prop}{C:Prop}(h: ∃a b c,P a b c∧Q a b c∧R a b c∧S a b c∧T a b c∧U a b c∧V a b c)(k: ∀a b c,P a b c→Q a b c→R a b c→S a b c→T a b c→U a b c→V a b c→C):C:=h.elim λa h=>h.elim λb h=>h.elim λc h=>k a b c h.1 h.2.1 h.2.2.1 h.2.2.2.1 h.2.2.2.2.1 h.2.2.2.2.2.1 h.2.2.2.2.2.2
theorem u0z{α β γ δ:Type}{P Q R S T:α→β→γ→δ→Prop}{C:Prop}(h: ∃a b c d,P a b c d∧Q a b c d∧R a b c d∧S a b c d∧T a b c d)(k: ∀a b c d,P a b c d→Q a b c d→R a b c d→S a b c d→T a b c d→C):C:=h.elim λa h=>h.elim λb h=>h.elim λc h=>h.elim λd h=>k a b c d h.1 h.2.1 h.2.2.1 h.2.2.2.1 h.2.2.2.2
theorem x0c{α β γ δ ε ζ:Type}{P Q R:α→β→γ→δ→ε→ζ→Prop}{C:Prop}(h: ∃a b c d e f,P a b c d e f∧Q a b c d e f∧R a b c d e f)(k: ∀a b c d e f,P a b c d e f→Q a b c d e f→R a b c d e f→C):C:=h.elim λa h=>h.elim λb h=>h.elim λc h=>h.elim λd h=>h.elim λe h=>h.elim λf h=>k a b c d e f h.1 h.2.1 h.2.2
theorem i1w{α β:Type}{P Q R S T:α→β→Prop}{C:Prop}(h: ∃a b,P a b∧Q a b∧R a b∧S a b∧T a b)(k: ∀a b,P a b→Q a b→R a b→S a b→T a b→C):C:=h.elim λa h=>h.elim λb h=>k a b h.1 h.2.1 h.2.2.1 h.2.2.2.1 h.2.2.2.2
theorem e1h{α β:Type}{P Q R S T U V:α→β→Prop}{C:Prop}(h: ∃a b,P a b∧Q a b∧R a b∧S a b∧T a b∧U a b∧V a b)(k: ∀a b,P a b→Q a b→R a b→S a b→T a b→U a b→V a b→C):C:=h.elim λa h=>h.elim λb h=>k a b h.1 h.2.1 h.2.2.1 h.2.2.2.1 h.2.2.2.2.1 h.2.2.2.2.2.1 h.2.2.2.2.2.2
theorem a1n{α β:Type}{P Q R S T U V W:α→β→Prop}{C:Prop}(h: ∃a b,P a b∧Q a b∧R a b∧S a b∧T a b∧U a b∧V a b∧W a b)(k: ∀a b,P a b→Q a b→R a b→S a b→T a b→U a b→V a b→W a b→C):C:=h.elim λa h=>h.elim λb h=>k a b h.1 h.2.1 h.2.2.1 h.2.2.2.1 h.2.2.2.2.1 h.2.2.2.2.2.1 h.2.2.2.2.2.2.1 h.2.2.2.2.2.2.2
theorem c1m{α β:Type}{P Q R S T U V W X Y:α→β→Prop}{C:Prop}(h: ∃a b,P a b∧Q a b∧R a b∧S a b∧T a b∧U a b∧V a b∧W a b∧X a b∧Y a b)(k: ∀a b,P a b→Q a b→R a b→S a b→T a b→U a b→V a b→W a b→X a b→Y a b→C):C:=h.elim λa h=>h.elim λb h=>k a b h.1 h.2.1 h.2.2.1 h.2.2.2.1 h.2.2.2.2.1 h.2.2.2.2.2.1 h.2.2.2.2.2.2.1 h.2.2.2.2.2.2.2.1 h.2.2.2.2.2.2.2.2.1 h.2.2.2.2.2.2.2.2.2
theorem p0i{α β:Type}{P Q R S:α→β→Prop}{C:Prop}(h: ∃a b,P a b∧Q a b∧R a b∧S a b)(k: ∀a b,P a b→Q a b→R a b→S a b→C):C:=h.elim λa h=>h.elim λb h=>k a b h.1 h.2.1 h.2.2.1 h.2.2.2
theorem x0b{α β γ δ:Type}{P Q:α→β→γ→δ→Prop}{C:Prop}(h: ∃a b c d,P a b c d∧Q a b c d)(k: ∀a b c d,P a b c d→Q a b c d→C):C:=h.elim λa h=>h.elim λb h=>h.elim λc h=>h.elim λd h=>k a b c d h.1 h.2
theorem u0y{α β γ:Type}{P Q R S T U V W:α→β→γ→Prop}{C:Prop}(h: ∃a b c,P a b c∧Q a b c∧R a b c∧S a b c∧T a b c∧U a b c∧V a b c∧W a b c)(k: ∀a b c,P a b c→Q a b c→R a b c→S a b c→T a b c→U a b c→V a b c→W a b c→C):C:=h.elim λa h=>h.elim λb h=>h.elim λc h=>k a b c h.1 h.2.1 h.2.2.1 h.2.2.2.1 h.2.2.2.2.1 h.2.2.2.2.2.1 h.2.2.2.2.2.2.1 h.2.2.2.2.2.2.2
theorem l1z{α β γ δ ε:Type}{P Q R S:α→β→γ→δ→ε→Prop}{C:Prop}(h: ∃a b c d e,P a b c d e∧Q a b c d e∧R a b c d e∧S a b c d e)(k: ∀a b c d e,P a b c d e→Q a b c d e→R a b c d e→S a b c d e→C):C:=h.elim λa h=>h.elim λb h=>h.elim λc h=>h.elim λd h=>h.elim λe h=>k a b c d e h.1 h.2.1 h.2.2.1 h.2.2.2
theorem m1a{α β γ δ ε:Type}{P Q R S T:α→β→γ→δ→ε→Prop}{C:Prop}(h: ∃a b c d e,P a b c d e∧Q a b c d e∧R a b c d e∧S a b c d e∧T a b c d e)(k: ∀a b c d e,P a b c d e→Q a b c d e→R a b c d e→S a b c d e→T a b c d e→C):C:=h.elim λa h=>h.elim λb h=>h.elim λc h=>h.elim λd h=>h.elim λe h=>k a b c d e h.1 h.2.1 h.2.2.1 h.2.2.2.1 h.2.2.2.2
theorem i1x{α β γ:Type}{P Q R:α→β→γ→Prop}{C:Prop}(h: ∃a b c,P a b c∧Q a b c∧R a b c)(k: ∀a b c,P a b c→Q a b c→R a b c→C):C:=h.elim λa h=>h.elim λb h=>h.elim λc h=>k a b c h.1 h.2.1 h.2.2
namespace La
inductive T
 |n (i:Nat)|z (i:Nat)|k (c:Nat)|ad (a b:T)|sb (a b:T)|ml (c:Nat) (a:T)|mr (a:T) (c:Nat)|mx (a b:T)|mn (a b:T)|ca (a:T)|tn (a:T)|ng (a:T)|ab (a:T)
noncomputable def T.ctorIdx(x:T):Nat:=T.casesOn (motive:=λ_=>Nat) x (λ_=>0) (λ_=>1) (λ_=>2) (λ_ _=>3) (λ_ _=>4) (λ_ _=>5) (λ_ _=>6) (λ_ _=>7) (λ_ _=>8) (λ_=>9) (λ_=>10) (λ_=>11) (λ_=>12)
inductive F
 |le (a b:T)|lt (a b:T)|eq (a b:T)|zle (a b:T)|zlt (a b:T)|zeq (a b:T)|an (a b:F)|or (a b:F)|no (a:F)|im (a b:F)|ff
noncomputable def F.ctorIdx(x:F):Nat:=F.casesOn (motive:=λ_=>Nat) x (λ_ _=>0) (λ_ _=>1) (λ_ _=>2) (λ_ _=>3) (λ_ _=>4) (λ_ _=>5) (λ_ _=>6) (λ_ _=>7) (λ_=>8) (λ_ _=>9) 10
noncomputable def lkN:List Nat→Nat→Nat
 |[],_=>0
 |a::l,i=>match i with|0=>a|i+1=>lkN l i
noncomputable def lkZ:List Int→Nat→Int
 |[],_=>0
 |a::l,i=>match i with|0=>a|i+1=>lkZ l i
section
variable (ns:List Nat) (is:List Int)
noncomputable def T.ev:T→Nat×Int
 | .n i=>(lkN ns i,0)
 | .z i=>(0,lkZ is i)
 | .k c=>(c,@OfNat.ofNat Int c instOfNat)
 | .ad a b=>(a.ev.1+b.ev.1,a.ev.2+b.ev.2)
 | .sb a b=>(a.ev.1 - b.ev.1,a.ev.2 - b.ev.2)
 | .ml c a=>(c*a.ev.1,@OfNat.ofNat Int c instOfNat*a.ev.2)
 | .mr a c=>(a.ev.1*c,a.ev.2* @OfNat.ofNat Int c instOfNat)
 | .mx a b=>(max a.ev.1 b.ev.1,0)
 | .mn a b=>(min a.ev.1 b.ev.1,0)
 | .ca a=>(0,(a.ev.1:Int))
 | .tn a=>(a.ev.2.toNat,0)
 | .ng a=>(0,-a.ev.2)
 | .ab a=>(a.ev.2.natAbs,0)
noncomputable def F.den:F→Prop
 | .le a b=>(a.ev ns is).1≤(b.ev ns is).1
 | .lt a b=>(a.ev ns is).1<(b.ev ns is).1
 | .eq a b=>(a.ev ns is).1=(b.ev ns is).1
 | .zle a b=>(a.ev ns is).2≤(b.ev ns is).2
 | .zlt a b=>(a.ev ns is).2<(b.ev ns is).2
 | .zeq a b=>(a.ev ns is).2=(b.ev ns is).2
 | .an a b=>a.den∧b.den
 | .or a b=>a.den∨b.den
 | .no a=>¬a.den
 | .im a b=>a.den→b.den
 | .ff=>False
end
structure P where
 c:Int
 l:List Int
noncomputable def h1v:List Int→List Int→List Int
 |[],m=>m
 |a::l,m=>match m with|[]=>a::l|b::m=>(a+b)::h1v l m
noncomputable def smL(s:Int):List Int→List Int
 |[]=>[]
 |a::l=>(s*a)::smL s l
noncomputable def P.ad(p q:P):P:=⟨p.c+q.c,h1v p.l q.l⟩
noncomputable def P.sm(s:Int)(p:P):P:=⟨s*p.c,smL s p.l⟩
noncomputable def P.sb(p q:P):P:=p.ad (q.sm (-1))
noncomputable def P.k(c:Int):P:=⟨c,[]⟩
noncomputable def k1h:Nat→List Int
 |0=>[1]
 |i+1=>0::k1h i
noncomputable def evL:List Int→(Nat→Int)→Int
 |[],_=>0
 |a::l,r=>a*r 0+evL l λi=>r (i+1)
noncomputable def P.ev(p:P)(r:Nat→Int):Int:=p.c+evL p.l r
theorem e1i: ∀(l m:List Int) (r:Nat→Int),evL (h1v l m) r=evL l r+evL m r:=by
 intro l
 induction l with
 |nil=>intro m r;exact(Int.zero_add _).symm
 |cons a l h=>intro m r;cases m with
  |nil=>exact(Int.add_zero _).symm
  |cons b m=>show(a+b)*r 0+evL (h1v l m) _=a*r 0+evL l _+(b*r 0+evL m _);rw[h,Int.add_mul];omega
theorem i1z(s:Int): ∀(l:List Int) (r:Nat→Int),evL (smL s l) r=s*evL l r:=by
 intro l
 induction l with
 |nil=>intro r;exact(Int.mul_zero _).symm
 |cons a l h=>intro r;show s*a*r 0+evL (smL s l) _=s*(a*r 0+evL l _);rw[h,Int.mul_add,Int.mul_assoc]
theorem t0b: ∀(i:Nat) (r:Nat→Int),evL (k1h i) r=r i:=by
 intro i
 induction i with
 |zero=>intro r;show 1*r 0+0=_;omega
 |succ i h=>intro r;show 0*r 0+evL (k1h i) _=_;rw[h];omega
theorem P.ev_ad(p q:P)(r:Nat→Int):(p.ad q).ev r=p.ev r+q.ev r:=by
 show p.c+q.c+evL (h1v _ _) r=p.c+evL p.l r+(q.c+evL q.l r);rw[e1i];omega
theorem P.ev_sm(s:Int)(p:P)(r:Nat→Int):(p.sm s).ev r=s*p.ev r:=by
 show s*p.c+evL (smL _ _) r=s*(p.c+evL p.l r);rw[i1z,Int.mul_add]
theorem P.ev_sb(p q:P)(r:Nat→Int):(p.sb q).ev r=p.ev r - q.ev r:=by
 show(p.ad (q.sm (-1))).ev r=_;rw[P.ev_ad,P.ev_sm];omega
theorem P.ev_k(c:Int)(r:Nat→Int):(P.k c).ev r=c:=Int.add_zero c
noncomputable abbrev Al:=List (List P×P)
noncomputable def Al.two(f:List P→P→P→Al)(x y:Al):Al:=x.flatMap λa=>y.flatMap λb=>f (a.1++b.1) a.2 b.2
noncomputable def fAd(h:List P)(p q:P):Al:=[(h,p.ad q)]
noncomputable def fSb(h:List P)(p q:P):Al:=[(h,p.sb q)]
noncomputable def fTs(h:List P)(p q:P):Al:=[((p.sb q)::h,p.sb q),((q.sb p)::h,P.k 0)]
noncomputable def fMx(h:List P)(p q:P):Al:=[((p.sb q)::h,p),((q.sb p)::h,q)]
noncomputable def fMn(h:List P)(p q:P):Al:=[((p.sb q)::h,q),((q.sb p)::h,p)]
noncomputable def T.al:T→Bool→Al
 | .n i,m=>match m with|true=>[([],⟨0,k1h (2*i)⟩)]|false=>[([],P.k 0)]
 | .z i,m=>match m with|true=>[([],P.k 0)]|false=>[([],⟨0,k1h (2*i+1)⟩)]
 | .k c,_=>[([],P.k c)]
 | .ad a b,m=>Al.two fAd (a.al m) (b.al m)
 | .sb a b,m=>match m with
  |true=>Al.two fTs (a.al true) (b.al true)
  |false=>Al.two fSb (a.al false) (b.al false)
 | .ml c a,m=>(a.al m).map λx=>(x.1,x.2.sm c)
 | .mr a c,m=>(a.al m).map λx=>(x.1,x.2.sm c)
 | .mx a b,m=>match m with|true=>Al.two fMx (a.al true) (b.al true)|false=>[([],P.k 0)]
 | .mn a b,m=>match m with|true=>Al.two fMn (a.al true) (b.al true)|false=>[([],P.k 0)]
 | .ca a,m=>match m with|true=>[([],P.k 0)]|false=>a.al true
 | .tn a,m=>match m with|true=>(a.al false).flatMap λx=>[(x.2::x.1,x.2),(x.2.sm (-1)::x.1,P.k 0)]|false=>[([],P.k 0)]
 | .ng a,m=>match m with|true=>[([],P.k 0)]|false=>(a.al false).map λx=>(x.1,x.2.sm (-1))
 | .ab a,m=>match m with|true=>(a.al false).flatMap λx=>[(x.2::x.1,x.2),(x.2.sm (-1)::x.1,x.2.sm (-1))]|false=>[([],P.k 0)]
noncomputable def k0n(r:Nat→Int)(h:List P):Prop:=∀p∈h,0≤p.ev r
noncomputable def Can(r:Nat→Int)(x:Al)(v:Int):Prop:=∃a∈x,k0n r a.1∧a.2.ev r=v
theorem k0n.nil{r:Nat→Int}:k0n r []:=λ_ h=>nomatch h
theorem k0n.cons{r:Nat→Int}{p:P}{h:List P}(x:0≤p.ev r)(y:k0n r h):k0n r (p::h):=λq m=>by
 cases m with
 |head=>exact x
 |tail _ m=>exact y q m
theorem k0n.app{r:Nat→Int}{h k:List P}(x:k0n r h)(y:k0n r k):k0n r (h++k):=λq m=>(List.mem_append.mp m).elim (x q) (y q)
theorem Can.one{r:Nat→Int}{p:P}{v:Int}(h:p.ev r=v):Can r [([],p)] v:=⟨_,.head _,k0n.nil,h⟩
theorem Can.two{r:Nat→Int}{f:List P→P→P→Al}{x y:Al}{v w u:Int}(h:Can r x v)(k:Can r y w)
  (g: ∀c p q,k0n r c→p.ev r=v→q.ev r=w→Can r (f c p q) u):Can r (Al.two f x y) u:=by
 refine a0q h λa ha h1 h2=>?_
 refine a0q k λb hb k1 k2=>?_
 refine a0a (g _ _ _ (h1.app k1) h2 k2) λc hc g1=>?_
 exact⟨c,List.mem_flatMap.mpr ⟨a,ha,List.mem_flatMap.mpr ⟨b,hb,hc⟩⟩,g1⟩
theorem Can.flat{r:Nat→Int}{f:List P×P→Al}{x:Al}{v u:Int}(h:Can r x v)(g: ∀a,k0n r a.1→a.2.ev r=v→Can r (f a) u):Can r (x.flatMap f) u:=by
 refine a0q h λa ha h1 h2=>?_
 refine a0a (g a h1 h2) λc hc g1=>?_
 exact⟨c,List.mem_flatMap.mpr ⟨a,ha,hc⟩,g1⟩
theorem Can.sm{r:Nat→Int}{x:Al}{v:Int}(s:Int)(h:Can r x v):Can r (x.map λx=>(x.1,x.2.sm s)) (s*v):=by
 refine a0q h λa ha h1 h2=>?_
 exact⟨_,List.mem_map_of_mem ha,h1,by rw[P.ev_sm,h2]⟩
noncomputable def vl(x:Nat×Int):Bool→Int
 |true=>x.1
 |false=>x.2
noncomputable def o0t(ns:List Nat)(is:List Int)(i:Nat):Int:=if i%2=0 then(lkN ns (i / 2):Int)else lkZ is (i / 2)
theorem sb1{x y:Nat}(h:(y:Int)≤x):(x:Int) - y=((x - y:Nat):Int):=by omega
theorem sb2{x y:Nat}(h:(x:Int)≤y):(0:Int)=((x - y:Nat):Int):=by omega
theorem mx1{x y:Nat}(h:(y:Int)≤x):(x:Int)=((max x y:Nat):Int):=by omega
theorem mx2{x y:Nat}(h:(x:Int)≤y):(y:Int)=((max x y:Nat):Int):=by omega
theorem mn1{x y:Nat}(h:(y:Int)≤x):(y:Int)=((min x y:Nat):Int):=by omega
theorem mn2{x y:Nat}(h:(x:Int)≤y):(x:Int)=((min x y:Nat):Int):=by omega
theorem tn1{z:Int}(h:0≤z):z=(z.toNat:Int):=by omega
theorem tn2{z:Int}(h:z≤0):0=(z.toNat:Int):=by omega
theorem ab1{z:Int}(h:0≤z):z=(z.natAbs:Int):=by omega
theorem ab2{z:Int}(h:z≤0): -1*z=(z.natAbs:Int):=by omega
theorem T.can(ns:List Nat)(is:List Int)(t:T): ∀m,Can (o0t ns is) (t.al m) (vl (t.ev ns is) m):=by
 have two {a b:Int} (c:List P) (p q:P) (hc:k0n (o0t ns is) c) (ep:p.ev (o0t ns is)=a) (eq:q.ev (o0t ns is)=b) (u u':P) {w:Int} (h1:b≤a→u.ev (o0t ns is)=w) (h2:a≤b→u'.ev (o0t ns is)=w):Can (o0t ns is) [((p.sb q)::c,u),((q.sb p)::c,u')] w:=by
  by_cases h:b≤a
  ·exact⟨_,.head _,hc.cons (by rw[P.ev_sb];omega),h1 h⟩
  ·exact⟨_,.tail _ (.head _),hc.cons (by rw[P.ev_sb];omega),h2 (by omega)⟩
 have sg {a:Int} {x:List P×P} (hc:k0n (o0t ns is) x.1) (ep:x.2.ev (o0t ns is)=a) (u u':P) {w:Int} (h1:0≤a→u.ev (o0t ns is)=w) (h2:a≤0→u'.ev (o0t ns is)=w):Can (o0t ns is) [(x.2::x.1,u),(x.2.sm (-1)::x.1,u')] w:=by
  by_cases h:0≤a
  ·exact⟨_,.head _,hc.cons (by omega),h1 h⟩
  ·exact⟨_,.tail _ (.head _),hc.cons (by rw[P.ev_sm];omega),h2 (by omega)⟩
 have k0:Can (o0t ns is) [([],P.k 0)] 0:=Can.one (P.ev_k 0 _)
 induction t with
 |n i=>
  intro m;cases m
  ·exact k0
  ·refine Can.one ?_
   show(0:Int)+evL _ _=_
   rw[t0b,Int.zero_add];unfold o0t;rw[if_pos (by omega),show 2*i / 2=i by omega];rfl
 |z i=>
  intro m;cases m
  ·refine Can.one ?_
   show(0:Int)+evL _ _=_
   rw[t0b,Int.zero_add];unfold o0t;rw[if_neg (by omega),show(2*i+1) / 2=i by omega];rfl
  ·exact k0
 |k c=>intro m;cases m<;>exact Can.one (P.ev_k c _)
 |ad a b ha hb=>
  intro m
  refine Can.two (ha m) (hb m) λc p q hc hp hq=>⟨_,.head _,hc,?_⟩
  rw[P.ev_ad,hp,hq]
  clear hp hq;cases m
  ·rfl
  ·exact(Int.natCast_add _ _).symm
 |sb a b ha hb=>
  intro m;cases m
  ·exact Can.two (f:=fSb) (ha false) (hb false) λc p q hc hp hq=>⟨_,.head _,hc,by rw[P.ev_sb,hp,hq];rfl⟩
  ·refine Can.two (f:=fTs) (ha true) (hb true) λc p q hc hp hq=>two c p q hc hp hq _ _ (λh=>?_) (λh=>?_)
   ·rw[P.ev_sb,hp,hq];exact sb1 h
   ·rw[P.ev_k];exact sb2 h
 |ml c a ha=>
  intro m
  have:=(ha m).sm c
  cases m
  ·exact this
  ·rw[show vl ((T.ml c a).ev ns is) true=c*vl (a.ev ns is) true from Int.natCast_mul _ _];exact this
 |mr a c ha=>
  intro m
  have:=(ha m).sm c
  rw[Int.mul_comm]at this
  cases m
  ·exact this
  ·rw[show vl ((T.mr a c).ev ns is) true=vl (a.ev ns is) true*c from Int.natCast_mul _ _];exact this
 |mx a b ha hb=>
  intro m;cases m
  ·exact k0
  ·refine Can.two (f:=fMx) (ha true) (hb true) λc p q hc hp hq=>two c p q hc hp hq _ _ (λh=>?_) (λh=>?_)
   ·rw[hp];exact mx1 h
   ·rw[hq];exact mx2 h
 |mn a b ha hb=>
  intro m;cases m
  ·exact k0
  ·refine Can.two (f:=fMn) (ha true) (hb true) λc p q hc hp hq=>two c p q hc hp hq _ _ (λh=>?_) (λh=>?_)
   ·rw[hq];exact mn1 h
   ·rw[hp];exact mn2 h
 |ca a ha=>
  intro m;cases m
  ·exact ha true
  ·exact k0
 |tn a ha=>
  intro m;cases m
  ·exact k0
  ·refine(ha false).flat λx hx e=>sg hx e _ _ (λh=>?_) (λh=>?_)
   ·rw[e];exact tn1 h
   ·rw[P.ev_k];exact tn2 h
 |ng a ha=>
  intro m;cases m
  ·have:=(ha false).sm (-1)
   rw[show vl ((T.ng a).ev ns is) false= -1*vl (a.ev ns is) false from Int.neg_eq_neg_one_mul _];exact this
  ·exact k0
 |ab a ha=>
  intro m;cases m
  ·exact k0
  ·refine(ha false).flat λx hx e=>sg hx e _ _ (λh=>?_) (λh=>?_)
   ·rw[e];exact ab1 h
   ·rw[P.ev_sm,e];exact ab2 h
noncomputable abbrev Dn:=List (List P)
noncomputable def Dn.two(x y:Dn):Dn:=x.flatMap λa=>y.map λb=>a++b
noncomputable def cmp(f:P→P→Dn)(x y:Al):Dn:=x.flatMap λa=>y.flatMap λb=>(f a.2 b.2).map λh=>h++(a.1++b.1)
noncomputable def P.one(p:P):P:=p.ad (P.k (-1))
noncomputable def F.dn:F→Bool→Dn
 | .le a b,s=>cmp (λp q=>match s with|true=>[[q.sb p]]|false=>[[(p.sb q).one]]) (a.al true) (b.al true)
 | .lt a b,s=>cmp (λp q=>match s with|true=>[[(q.sb p).one]]|false=>[[p.sb q]]) (a.al true) (b.al true)
 | .eq a b,s=>cmp (λp q=>match s with|true=>[[q.sb p,p.sb q]]|false=>[[(p.sb q).one],[(q.sb p).one]]) (a.al true) (b.al true)
 | .zle a b,s=>cmp (λp q=>match s with|true=>[[q.sb p]]|false=>[[(p.sb q).one]]) (a.al false) (b.al false)
 | .zlt a b,s=>cmp (λp q=>match s with|true=>[[(q.sb p).one]]|false=>[[p.sb q]]) (a.al false) (b.al false)
 | .zeq a b,s=>cmp (λp q=>match s with|true=>[[q.sb p,p.sb q]]|false=>[[(p.sb q).one],[(q.sb p).one]]) (a.al false) (b.al false)
 | .an a b,s=>match s with|true=>Dn.two (a.dn true) (b.dn true)|false=>a.dn false++b.dn false
 | .or a b,s=>match s with|true=>a.dn true++b.dn true|false=>Dn.two (a.dn false) (b.dn false)
 | .no a,s=>a.dn !s
 | .im a b,s=>match s with|true=>a.dn false++b.dn true|false=>Dn.two (a.dn true) (b.dn false)
 | .ff,s=>match s with|true=>[]|false=>[[]]
noncomputable def Sat(r:Nat→Int)(x:Dn):Prop:=∃h∈x,k0n r h
theorem Sat.two{r:Nat→Int}{x y:Dn}(h:Sat r x)(k:Sat r y):Sat r (Dn.two x y):=by
 refine a0a h λa ha h=>?_
 refine a0a k λb hb k=>?_
 exact⟨_,List.mem_flatMap.mpr ⟨a,ha,List.mem_map_of_mem hb⟩,h.app k⟩
theorem Sat.l{r:Nat→Int}{x y:Dn}(h:Sat r x):Sat r (x++y):=by
 refine a0a h λa ha h=>?_
 exact⟨a,List.mem_append_left _ ha,h⟩
theorem Sat.r{r:Nat→Int}{x y:Dn}(h:Sat r y):Sat r (x++y):=by
 refine a0a h λa ha h=>?_
 exact⟨a,List.mem_append_right _ ha,h⟩
theorem Sat.cmp{r:Nat→Int}{f:P→P→Dn}{x y:Al}{v w:Int}(h:Can r x v)(k:Can r y w)(g: ∀p q,p.ev r=v→q.ev r=w→Sat r (f p q)):Sat r (cmp f x y):=by
 refine a0q h λa ha h1 h2=>?_
 refine a0q k λb hb k1 k2=>?_
 refine a0a (g _ _ h2 k2) λc hc g=>?_
 exact⟨_,List.mem_flatMap.mpr ⟨a,ha,List.mem_flatMap.mpr ⟨b,hb,List.mem_map_of_mem hc⟩⟩,g.app (h1.app k1)⟩
theorem F.sat(ns:List Nat)(is:List Int)(f:F):(f.den ns is→Sat (o0t ns is) (f.dn true))∧(¬f.den ns is→Sat (o0t ns is) (f.dn false)):=by
 have c1 {r:Nat→Int} {p q:P} {v w:Int} (hp:p.ev r=v) (hq:q.ev r=w) (h:v≤w):0≤(q.sb p).ev r:=by rw[P.ev_sb,hp,hq];omega
 have c2 {r:Nat→Int} {p q:P} {v w:Int} (hp:p.ev r=v) (hq:q.ev r=w) (h:w<v):0≤(p.sb q).one.ev r:=by unfold P.one;rw[P.ev_ad,P.ev_sb,P.ev_k,hp,hq];omega
 have one {r:Nat→Int} {p:P} {l:Dn} (h:0≤p.ev r):Sat r ([p]::l):=⟨_,.head _,k0n.nil.cons h⟩
 have le {r:Nat→Int} {x y:Al} {v w:Int} (hx:Can r x v) (hy:Can r y w):(v≤w→Sat r (cmp (λp q=>[[q.sb p]]) x y))∧(¬v≤w→Sat r (cmp (λp q=>[[(p.sb q).one]]) x y)):=by
  refine⟨λh=>Sat.cmp hx hy λp q hp hq=>one (c1 hp hq h),λh=>Sat.cmp hx hy λp q hp hq=>one (c2 hp hq (by omega))⟩
 have lt {r:Nat→Int} {x y:Al} {v w:Int} (hx:Can r x v) (hy:Can r y w):(v<w→Sat r (cmp (λp q=>[[(q.sb p).one]]) x y))∧(¬v<w→Sat r (cmp (λp q=>[[p.sb q]]) x y)):=by
  refine⟨λh=>Sat.cmp hx hy λp q hp hq=>one (c2 hq hp h),λh=>Sat.cmp hx hy λp q hp hq=>one (c1 hq hp (by omega))⟩
 have eq {r:Nat→Int} {x y:Al} {v w:Int} (hx:Can r x v) (hy:Can r y w):(v=w→Sat r (cmp (λp q=>[[q.sb p,p.sb q]]) x y))∧(¬v=w→Sat r (cmp (λp q=>[[(p.sb q).one],[(q.sb p).one]]) x y)):=by
  refine⟨λh=>Sat.cmp hx hy λp q hp hq=>⟨_,.head _,(k0n.nil.cons (c1 hq hp (by omega))).cons (c1 hp hq (by omega))⟩,λh=>Sat.cmp hx hy λp q hp hq=>?_⟩
  by_cases k:w<v
  ·exact one (c2 hp hq k)
  ·exact⟨_,.tail _ (.head _),k0n.nil.cons (c2 hq hp (by omega))⟩
 induction f with
 |le a b=>exact⟨λh=>(le (a.can ns is true) (b.can ns is true)).1 (Int.ofNat_le.mpr h),λh=>(le (a.can ns is true) (b.can ns is true)).2 λk=>h (Int.ofNat_le.mp k)⟩
 |lt a b=>exact⟨λh=>(lt (a.can ns is true) (b.can ns is true)).1 (Int.ofNat_lt.mpr h),λh=>(lt (a.can ns is true) (b.can ns is true)).2 λk=>h (Int.ofNat_lt.mp k)⟩
 |eq a b=>exact⟨λh=>(eq (a.can ns is true) (b.can ns is true)).1 (congrArg Int.ofNat h),λh=>(eq (a.can ns is true) (b.can ns is true)).2 λk=>h (Int.ofNat.inj k)⟩
 |zle a b=>exact le (a.can ns is false) (b.can ns is false)
 |zlt a b=>exact lt (a.can ns is false) (b.can ns is false)
 |zeq a b=>exact eq (a.can ns is false) (b.can ns is false)
 |an a b ha hb=>exact⟨λh=>Sat.two (ha.1 h.1) (hb.1 h.2),λh=>(Classical.em (a.den ns is)).elim (λk=>Sat.r (hb.2 λl=>h ⟨k,l⟩)) λk=>Sat.l (ha.2 k)⟩
 |or a b ha hb=>exact⟨λh=>h.elim (λh=>Sat.l (ha.1 h)) λh=>Sat.r (hb.1 h),λh=>Sat.two (ha.2 λk=>h (.inl k)) (hb.2 λk=>h (.inr k))⟩
 |no a ha=>exact⟨ha.2,λh=>ha.1 (Classical.not_not.mp h)⟩
 |im a b ha hb=>exact⟨λh=>(Classical.em (a.den ns is)).elim (λk=>Sat.r (hb.1 (h k))) λk=>Sat.l (ha.2 k),λh=>Sat.two (ha.1 (Classical.byContradiction λk=>h λl=>absurd l k)) (hb.2 λk=>h λ_=>k)⟩
 |ff=>exact⟨False.elim,λ_=>⟨_,.head _,k0n.nil⟩⟩
noncomputable def P.hd(p:P):Int:=match p.l with|[]=>0|a::_=>a
noncomputable def P.tl(p:P):P:=⟨p.c,match p.l with|[]=>[]|_::l=>l⟩
noncomputable def o1j:Int→Bool
 | .ofNat n=>Nat.blt 0 n
 | .negSucc _=>false
noncomputable def o1i:Int→Bool
 | .ofNat _=>false
 | .negSucc _=>true
noncomputable def k1l:Int→Bool
 | .ofNat n=>Nat.beq n 0
 | .negSucc _=>false
noncomputable def n1k(h:List P):List P:=h.filter λp=>o1j p.hd
noncomputable def o1h(h:List P):List P:=h.filter λp=>o1i p.hd
noncomputable def k1k(h:List P):List P:=(h.filter λp=>k1l p.hd).map P.tl
noncomputable def n1r(p q:P):P:=(p.tl.sm (-q.hd)).ad (q.tl.sm p.hd)
noncomputable def g1a:List P→Bool
 |[]=>false
 |p::l=>match p.l with|[]=>(match p.c with| .negSucc _=>true| .ofNat _=>g1a l)|_::_=>g1a l
noncomputable def fm:Nat→Bool→List P→Bool
 |0,_,h=>g1a h
 |n+1,b,h=>g1a h||fm n (!b) (((match b with|true=>P.mk 0 [1]::n1k h|false=>n1k h).flatMap λp=>(o1h h).map λq=>n1r p q)++k1k h)
theorem P.ev_hd(p:P)(r:Nat→Int):p.ev r=p.hd*r 0+p.tl.ev λi=>r (i+1):=by
 obtain⟨c,l⟩:=p
 cases l with
 |nil=>show c+0=0*r 0+(c+0);omega
 |cons a l=>show c+(a*r 0+evL l _)=a*r 0+(c+evL l _);omega
theorem w0f{h:List P}{r:Nat→Int}(hh:k0n r h):g1a h=false:=by
 induction h with
 |nil=>rfl
 |cons p l ih=>
  have i:=ih λq m=>hh q (.tail _ m)
  have k:=hh p (.head _)
  obtain⟨c,m⟩:=p
  cases m with
  |cons=>exact i
  |nil=>cases c with
   |ofNat n=>exact i
   |negSucc n=>exact absurd (show(0:Int)≤Int.negSucc n+0 from k) (by omega)
theorem f1m{z:Int}(h:o1j z=true):0≤z:=by
 cases z with
 |ofNat n=>exact Int.natCast_nonneg n
 |negSucc n=>exact a0t h
theorem f1i{z:Int}(h:o1i z=true):z≤0:=by
 cases z with
 |ofNat n=>exact a0t h
 |negSucc n=>exact Int.le_of_lt (Int.negSucc_lt_zero n)
theorem b1z{z:Int}(h:k1l z=true):z=0:=by
 cases z with
 |ofNat n=>exact congrArg Int.ofNat (Nat.eq_of_beq_eq_true h)
 |negSucc n=>exact a0t h
theorem o0d{h:List P}{p:P}(m:p∈n1k h):p∈h∧0≤p.hd:=⟨(List.mem_filter.mp m).1,f1m (List.mem_filter.mp m).2⟩
theorem f1e{h:List P}{p:P}(m:p∈o1h h):p∈h∧p.hd≤0:=⟨(List.mem_filter.mp m).1,f1i (List.mem_filter.mp m).2⟩
theorem z0p{h:List P}{r:Nat→Int}(hh:k0n r h):k0n (λi=>r (i+1)) (k1k h):=λp m=>by
 refine a0a (List.mem_map.mp m) λq hq z0=>?_;subst z0
 have k:=hh q (List.mem_filter.mp hq).1
 rw[P.ev_hd,b1z (List.mem_filter.mp hq).2,Int.zero_mul,Int.zero_add]at k
 exact k
theorem m1b: ∀(n:Nat) (b:Bool) {h:List P} {r:Nat→Int},k0n r h→(∀i,i%2=(if b then 0 else 1)→0≤r i)→fm n b h=false:=by
 intro n
 induction n with
 |zero=>intro b h r hh _;exact w0f hh
 |succ n ih=>
  intro b h r hh hr
  show(g1a h||fm n (!b) _)=false
  rw[w0f hh,Bool.false_or]
  refine ih (!b) (r:=λi=>r (i+1)) ?_ λi e=>hr (i+1) (by(clear hr;cases b)<;>simp at e⊢ <;>omega)
  refine k0n.app (λx m=>?_) (z0p hh)
  refine a0a (List.mem_flatMap.mp m) λp hp m=>?_
  refine a0a (List.mem_map.mp m) λq hq z0=>?_;subst z0
  obtain⟨q1,q2⟩:=f1e hq
  have kq:=hh q q1
  have kp:0≤p.ev r∧0≤p.hd:=by
   cases b
   ·exact⟨hh p (o0d hp).1,(o0d hp).2⟩
   ·cases hp with
    |head=>exact⟨by have:=hr 0 rfl;show 0≤(0:Int)+(1*r 0+0);omega,by decide⟩
    |tail _ hp=>exact⟨hh p (o0d hp).1,(o0d hp).2⟩
  rw[P.ev_hd]at kq kp
  unfold n1r
  rw[P.ev_ad,P.ev_sm,P.ev_sm]
  have e1:0≤-q.hd*(p.hd*r 0+p.tl.ev λi=>r (i+1)):=Int.mul_nonneg (by omega) kp.1
  have e2:=Int.mul_nonneg kp.2 kq
  rw[Int.mul_add]at e1 e2
  have e3: -q.hd*(p.hd*r 0)= -(p.hd*(q.hd*r 0)):=by rw[Int.neg_mul,←Int.mul_assoc,←Int.mul_assoc,Int.mul_comm q.hd]
  omega
noncomputable def rdT:Nat→Nat→T×Nat
 |0,c=>(.k 0,c)
 |f+1,c=>match c%32 with
  |0=>(.n 0,c / 32)
  |1=>(.n 1,c / 32)
  |2=>(.n 2,c / 32)
  |3=>(.n 3,c / 32)
  |4=>(.z 0,c / 32)
  |5=>(.z 1,c / 32)
  |6=>(.k 0,c / 32)
  |7=>(.k 1,c / 32)
  |8=>(.n (c / 32%32),c / 1024)
  |9=>(.z (c / 32%32),c / 1024)
  |10=>(.k (c / 32%32),c / 1024)
  |11=>(.k (c / 32%1048576*10^(c / 33554432%32)),c / 1073741824)
  |12=>(.ad (rdT f (c / 32)).1 (rdT f (rdT f (c / 32)).2).1,(rdT f (rdT f (c / 32)).2).2)
  |13=>(.sb (rdT f (c / 32)).1 (rdT f (rdT f (c / 32)).2).1,(rdT f (rdT f (c / 32)).2).2)
  |14=>(.ml (c / 32%32) (rdT f (c / 1024)).1,(rdT f (c / 1024)).2)
  |15=>(.mr (rdT f (c / 1024)).1 (c / 32%32),(rdT f (c / 1024)).2)
  |16=>(.mx (rdT f (c / 32)).1 (rdT f (rdT f (c / 32)).2).1,(rdT f (rdT f (c / 32)).2).2)
  |17=>(.mn (rdT f (c / 32)).1 (rdT f (rdT f (c / 32)).2).1,(rdT f (rdT f (c / 32)).2).2)
  |18=>(.ca (rdT f (c / 32)).1,(rdT f (c / 32)).2)
  |19=>(.tn (rdT f (c / 32)).1,(rdT f (c / 32)).2)
  |20=>(.ng (rdT f (c / 32)).1,(rdT f (c / 32)).2)
  |22=>(.k (c / 32%1048576*2^(c / 33554432%1024)),c / 34359738368)
  |_=>(.ab (rdT f (c / 32)).1,(rdT f (c / 32)).2)
noncomputable def rdF:Nat→Nat→F×Nat
 |0,c=>(.ff,c)
 |f+1,c=>match c%32 with
  |0=>(.le (rdT f (c / 32)).1 (rdT f (rdT f (c / 32)).2).1,(rdT f (rdT f (c / 32)).2).2)
  |1=>(.lt (rdT f (c / 32)).1 (rdT f (rdT f (c / 32)).2).1,(rdT f (rdT f (c / 32)).2).2)
  |2=>(.eq (rdT f (c / 32)).1 (rdT f (rdT f (c / 32)).2).1,(rdT f (rdT f (c / 32)).2).2)
  |3=>(.zle (rdT f (c / 32)).1 (rdT f (rdT f (c / 32)).2).1,(rdT f (rdT f (c / 32)).2).2)
  |4=>(.zlt (rdT f (c / 32)).1 (rdT f (rdT f (c / 32)).2).1,(rdT f (rdT f (c / 32)).2).2)
  |5=>(.zeq (rdT f (c / 32)).1 (rdT f (rdT f (c / 32)).2).1,(rdT f (rdT f (c / 32)).2).2)
  |6=>(.an (rdF f (c / 32)).1 (rdF f (rdF f (c / 32)).2).1,(rdF f (rdF f (c / 32)).2).2)
  |7=>(.or (rdF f (c / 32)).1 (rdF f (rdF f (c / 32)).2).1,(rdF f (rdF f (c / 32)).2).2)
  |8=>(.im (rdF f (c / 32)).1 (rdF f (rdF f (c / 32)).2).1,(rdF f (rdF f (c / 32)).2).2)
  |9=>(.no (rdF f (c / 32)).1,(rdF f (c / 32)).2)
  |_=>(.ff,c / 32)
noncomputable def chk(ns:List Nat)(is:List Int)(c:Nat):Bool:=((rdF 40 c).1.dn false).all λh=>fm (2*(ns.length+is.length)) true h
theorem LA(ns:List Nat)(is:List Int)(c:Nat)(h:chk ns is c=true):(rdF 40 c).1.den ns is:=Classical.byContradiction λk=>by
 refine a0a (((rdF 40 c).1.sat ns is).2 k) λc hc hh=>?_
 have:=List.all_eq_true.mp h c hc
 rw[m1b _ true hh λi e=>by unfold o0t;rw[if_pos (show i%2=0 from e)];omega]at this;have this:=this
 exact a0t this
end La
theorem LA(ns:List Nat)(is:List Int)(c:Nat)(h:La.chk ns is c=true):(La.rdF 40 c).1.den ns is:=La.LA ns is c h
set_option backward.match.sparseCases false
inductive AV where
 |none
 |bool (b:Bool)
 |int (i:Int)
 |str (s:PySem.Str)
 |tup (l:List AV)
 |ref (n:Nat)
 |glob (v:Value)
 |rng (a b c:Int)
 |vview (n:Nat)
noncomputable def AV.ctorIdx(x:AV):Nat:=AV.casesOn (motive_1:=λ_=>Nat) x 0 (λ_=>1) (λ_=>2) (λ_=>3) (λ_=>4) (λ_=>5) (λ_=>6) (λ_ _ _=>7) (λ_=>8)
inductive AObj where
 |list (l:List AV)
 |dictI (l:List (Int×AV))
 |dictS (l:List (PySem.Str×AV))
 |dictT (l:List (List Int×AV))
 |set (S:Int→Bool) (n:Nat)
 |inst (C:Addr) (d:Nat)
 |ns (m:List (PySem.Str×AV))
 |raw (o:Obj)
noncomputable def AObj.ctorIdx(x:AObj):Nat:=AObj.casesOn (motive:=λ_=>Nat) x (λ_=>0) (λ_=>1) (λ_=>2) (λ_=>3) (λ_ _=>4) (λ_ _=>5) (λ_=>6) (λ_=>7)
abbrev Sig:=List AObj
abbrev Loc:=List (PySem.Str×AV)
mutual
noncomputable def V(ρ:List Addr)(h:Heap):AV→Value→Prop
 | .none,v=>v=.none
 | .bool b,v=>v=.bool b
 | .int i,v=>∃t,v=.int i t
 | .str x,v=>∃t,v=.str x t
 | .tup l,v=>∃a vs,v=.ref a∧IsTup h a vs∧VL ρ h l vs.toList∧l.length≤sizeLine
 | .ref n,v=>∃a,ρ[n]?=some a∧v=.ref a
 | .glob u,v=>v=u
 | .rng a b c,v=>∃r t u w,v=.ref r∧IsRange h r a b c t u w
 | .vview n,v=>∃r a,v=.ref r∧ρ[n]?=some a∧h.IsValuesView r a
noncomputable def VL(ρ:List Addr)(h:Heap):List AV→List Value→Prop
 |[],vs=>vs=[]
 |x::l,vs=>∃v r,vs=v::r∧V ρ h x v∧VL ρ h l r
end
noncomputable def Imm(o:Obj):Prop:=(o.cls=.type "tuple"∧∃vs n,o.data=.seq vs n)∨((o.cls=.type "range"∨o.cls=.type "dict_values")∧∃vs,o.data=.fields vs)
noncomputable def TK(h h':Heap):Prop:=∀a o,h.get? a=some o→Imm o→h'.get? a=some o
theorem TK.refl(h:Heap):TK h h:=λ_ _ x _=>x
theorem TK.trans{a b c:Heap}(x:TK a b)(y:TK b c):TK a c:=λ_ _ z i=>y _ _ (x _ _ z i) i
theorem TK.ofKeeps{h h':Heap}(k: ∀b o,h.get? b=some o→h'.get? b=some o):TK h h':=λ_ _ x _=>k _ _ x
theorem TK.tup{h h':Heap}(k:TK h h'){a:Addr}{vs:Array Value}:IsTup h a vs→IsTup h' a vs:=λ⟨o,e,c,n,d⟩=>⟨o,k a o e (.inl ⟨c,vs,n,d⟩),c,n,d⟩
theorem TK.but{h h':Heap}{a:Addr}(hn: ∀o,h.get? a=some o→¬Imm o)(k: ∀b o,b≠a→h.get? b=some o→h'.get? b=some o):TK h h':=λb o e i=>k b o (λq=>hn o (q▸e) i) e
theorem j0u{α:Type}{l l':List α}(hp:l<+:l'){i:Nat}{a:α}(e:l[i]?=some a):l'[i]?=some a:=by
 obtain⟨t,rfl⟩:=hp;rw[List.getElem?_append_left (List.getElem?_eq_some_iff.mp e).1];exact e
mutual
theorem V.mono{ρ ρ':List Addr}{h h':Heap}(hp:ρ<+:ρ')(k:TK h h'): ∀(x:AV) (v:Value),V ρ h x v→V ρ' h' x v
 | .none,_,e=>e
 | .bool _,_,e=>e
 | .int _,_,e=>e
 | .str _,_,e=>e
 | .tup l,_,e=>p0i e λa vs e t r z=>⟨a,vs,e,k.tup t,VL.mono hp k l _ r,z⟩
 | .ref _,_,e=>a0a e λa e q=>⟨a,j0u hp e,q⟩
 | .glob _,_,e=>e
 | .rng _ _ _,_,e=>x0b e λr t u w e q=>⟨r,t,u,w,e,k _ _ q (.inr ⟨.inl rfl,_,rfl⟩)⟩
 | .vview n,_,e=>b0j e λr a e ea q=>⟨r,a,e,j0u hp ea,a0q q λo ho hc hd=>⟨o,k _ _ ho (.inr ⟨.inr hc,_,hd⟩),hc,hd⟩⟩
theorem VL.mono{ρ ρ':List Addr}{h h':Heap}(hp:ρ<+:ρ')(k:TK h h'): ∀(l:List AV) (vs:List Value),VL ρ h l vs→VL ρ' h' l vs
 |[],_,e=>e
 |x::l,_,e=>b0j e λv r e a b=>⟨v,r,e,V.mono hp k x v a,VL.mono hp k l r b⟩
end
mutual
noncomputable def AV.bd(k:Nat):AV→Prop
 | .tup l=>AV.bdL k l
 | .ref n=>n<k
 | .vview n=>n<k
 |_=>True
noncomputable def AV.bdL(k:Nat):List AV→Prop
 |[]=>True
 |x::l=>x.bd k∧AV.bdL k l
end
theorem c1g{k:Nat}{l:List AV}:(AV.tup l).bd k↔AV.bdL k l:=Iff.rfl
theorem c1f{k n:Nat}:(AV.ref n).bd k↔n<k:=Iff.rfl
theorem i1b{k n:Nat}:(AV.vview n).bd k↔n<k:=Iff.rfl
theorem n0m{k:Nat}{x:AV}{l:List AV}:AV.bdL k (x::l)↔x.bd k∧AV.bdL k l:=Iff.rfl
mutual
theorem V.cut{ρ:List Addr}{h:Heap}{k:Nat}: ∀(x:AV) (v:Value),V ρ h x v→x.bd k→V (ρ.take k) h x v
 | .none,_,e,_=>e
 | .bool _,_,e,_=>e
 | .int _,_,e,_=>e
 | .str _,_,e,_=>e
 | .tup l,_,e,b=>p0i e λa vs e t r z=>⟨a,vs,e,t,VL.cut l _ r (c1g.mp b),z⟩
 | .ref n,_,e,b=>a0a e λa e q=>⟨a,(List.getElem?_take_of_lt (c1f.mp b)).trans e,q⟩
 | .glob _,_,e,_=>e
 | .rng _ _ _,_,e,_=>e
 | .vview n,_,e,b=>b0j e λr a e ea q=>⟨r,a,e,(List.getElem?_take_of_lt (i1b.mp b)).trans ea,q⟩
theorem VL.cut{ρ:List Addr}{h:Heap}{k:Nat}: ∀(l:List AV) (vs:List Value),VL ρ h l vs→AV.bdL k l→VL (ρ.take k) h l vs
 |[],_,e,_=>e
 |x::l,_,e,c=>b0j e λv r e a b=>⟨v,r,e,V.cut x v a (n0m.mp c).1,VL.cut l r b (n0m.mp c).2⟩
end
mutual
theorem V.bd{ρ:List Addr}{h:Heap}: ∀(x:AV) (v:Value),V ρ h x v→x.bd ρ.length
 | .none,_,_=>trivial
 | .bool _,_,_=>trivial
 | .int _,_,_=>trivial
 | .str _,_,_=>trivial
 | .tup l,_,e=>p0i e λ_ _ _ _ r _=>c1g.mpr (VL.bd l _ r)
 | .ref n,_,e=>a0a e λ_ e _=>c1f.mpr (List.getElem?_eq_some_iff.mp e).1
 | .glob _,_,_=>trivial
 | .rng _ _ _,_,_=>trivial
 | .vview n,_,e=>b0j e λ_ _ _ ea _=>i1b.mpr (List.getElem?_eq_some_iff.mp ea).1
theorem VL.bd{ρ:List Addr}{h:Heap}: ∀(l:List AV) (vs:List Value),VL ρ h l vs→AV.bdL ρ.length l
 |[],_,_=>trivial
 |x::l,_,e=>b0j e λv r _ a b=>n0m.mpr ⟨V.bd x v a,VL.bd l r b⟩
end
@[elab_as_elim] theorem V.int_el {ρ:List Addr} {h:Heap} {i:Int} {a:Value} {C:Value→Prop} (va:V ρ h (.int i) a) (k: ∀t,C (.int i t)):C a:=Exists.elim va λt e=>e▸k t
@[elab_as_elim] theorem V.str_el {ρ:List Addr} {h:Heap} {i:PySem.Str} {a:Value} {C:Value→Prop} (va:V ρ h (.str i) a) (k: ∀t,C (.str i t)):C a:=Exists.elim va λt e=>e▸k t
theorem V.ref_eq{ρ:List Addr}{h:Heap}{i:Nat}{a:Value}{ad:Addr}(va:V ρ h (.ref i) a)(ei:ρ[i]?=some ad):a=.ref ad:=a0a va λ_ e q=>q.trans (congrArg Value.ref (Option.some.inj (e.symm.trans ei)))
@[elab_as_elim] theorem V.ref_el {ρ:List Addr} {h:Heap} {i:Nat} {a:Value} {ad:Addr} {C:Value→Prop} (va:V ρ h (.ref i) a) (ei:ρ[i]?=some ad) (k:C (.ref ad)):C a:=V.ref_eq va ei▸k
theorem VL.length{ρ:List Addr}{h:Heap}{l:List AV}: ∀{vs:List Value},VL ρ h l vs→l.length=vs.length:=by
 induction l with
 |nil=>exactλH=>(congrArg List.length H).symm
 |cons x l ih=>exactλH=>b0j H λv r e _ b=>(congrArg (· +1) (ih b)).trans (congrArg List.length e).symm
theorem VL.get{ρ:List Addr}{h:Heap}{l:List AV}: ∀{vs:List Value},VL ρ h l vs→∀(i:Nat) (x:AV),l[i]?=some x→∃v,vs[i]?=some v∧V ρ h x v:=by
 induction l with
 |nil=>intros;trivial
 |cons y l ih=>
  exactλH i x hx=>b0j H λv r e a b=>by
   clear H;subst e
   cases i with
   |zero=>exact⟨v,rfl,Option.some.inj hx▸a⟩
   |succ i=>exact ih b i x hx
theorem VL.append{ρ:List Addr}{h:Heap}{l l':List AV}{vs vs':List Value}(H:VL ρ h l vs)(f:VL ρ h l' vs'):VL ρ h (l++l') (vs++vs'):=by
 induction l generalizing vs with
 |nil=>exact(show _=_ from H)▸f
 |cons y l ih=>exact b0j H λv r e a b=>⟨v,_,congrArg (· ++vs') e,a,ih b⟩
theorem VL.set{ρ:List Addr}{h:Heap}{l:List AV}: ∀{vs:List Value},VL ρ h l vs→∀(i:Nat) (x:AV) (v:Value),V ρ h x v→VL ρ h (l.set i x) (vs.set i v):=by
 induction l with
 |nil=>exactλH i x v _=>congrArg (List.set · i v) H
 |cons y l ih=>
  exactλH i x v hv=>b0j H λw r e a b=>by
   clear H;subst e
   cases i with
   |zero=>exact⟨v,r,rfl,hv,b⟩
   |succ i=>exact⟨w,_,rfl,a,ih b i x v hv⟩
theorem VL.take{ρ:List Addr}{h:Heap}{l:List AV}: ∀{vs:List Value},VL ρ h l vs→∀(i:Nat),VL ρ h (l.take i) (vs.take i):=by
 induction l with
 |nil=>exactλH i=>(show _=_ from H)▸(by rw[List.take_nil,List.take_nil];rfl)
 |cons y l ih=>
  exactλH i=>b0j H λw r e a b=>by
   clear H;subst e
   cases i with
   |zero=>rfl
   |succ i=>exact⟨w,_,rfl,a,ih b i⟩
theorem VL.drop{ρ:List Addr}{h:Heap}{l:List AV}: ∀{vs:List Value},VL ρ h l vs→∀(i:Nat),VL ρ h (l.drop i) (vs.drop i):=by
 induction l with
 |nil=>exactλH i=>(show _=_ from H)▸(by rw[List.drop_nil,List.drop_nil];rfl)
 |cons y l ih=>
  exactλH i=>b0j H λw r e a b=>by
   clear H;subst e
   cases i with
   |zero=>exact⟨w,r,rfl,a,b⟩
   |succ i=>exact ih b i
section
variable (prog:Program) (w:World)
noncomputable def Rep(ρ:List Addr)(h:Heap)(a:Addr):AObj→Prop
 | .list l=>∃(vs:List Value) (n:Nat),IsL h a vs.toArray n∧VL ρ h l vs∧l.length≤sizeLine
 | .dictI l=>∃kvs:List (Int×Value),h.DictOf (intKind prog w) a kvs∧kvs.map (·.1)=l.map (·.1)∧VL ρ h (l.map (·.2)) (kvs.map (·.2))
 | .dictS l=>∃kvs:List (PySem.Str×Value),h.DictOf (strKind prog w) a kvs∧kvs.map (·.1)=l.map (·.1)∧VL ρ h (l.map (·.2)) (kvs.map (·.2))
 | .dictT l=>∃xs:List (List Int×Addr×Value),h.DictOfH (tupleKind (intKind prog w)) a xs∧xs.map (·.1)=l.map (·.1)∧VL ρ h (l.map (·.2)) (xs.map (·.2.2))
 | .set S n=>h.SetOf (intKind prog w) a S n
 | .inst C d=>∃dx,ρ[d]?=some dx∧h.get? a=some (instObj C dx)
 | .ns m=>∃f,(h.Ns a f∧h.DictLe a m.length)∧∀x,match m.lookup x with
   |some y=>∃v,f x=some v∧V ρ h y v
   |none=>f x=none
 | .raw o=>h.get? a=some o∧¬Imm o
noncomputable def AObj.bd(k:Nat):AObj→Prop
 | .list l=>AV.bdL k l
 | .dictI l=>AV.bdL k (l.map (·.2))
 | .dictS l=>AV.bdL k (l.map (·.2))
 | .dictT l=>AV.bdL k (l.map (·.2))
 | .set _ _=>True
 | .inst _ d=>d<k
 | .ns m=>∀x v,m.lookup x=some v→v.bd k
 | .raw _=>True
structure St (base:Heap) (os:OsState) (ρ:List Addr) (σ:Sig) (s:Shared):Prop where
 len:ρ.length=σ.length
 nodup:ρ.Nodup
 fresh: ∀a∈ρ,base.get? a=none
 rep: ∀(i:Nat) (a:Addr) (o:AObj),ρ[i]?=some a→σ[i]?=some o→Rep prog w ρ s.heap a o
 base: ∀b o,base.get? b=some o→s.heap.get? b=some o
 gens:s.gens= #[]
 os:s.os=os
end
theorem i0t{o:Obj}(h1:o.cls≠ .type "tuple")(h2:o.cls≠ .type "range")(h3:o.cls≠ .type "dict_values"): ¬Imm o:=λh=>h.elim (λx=>h1 x.1) (λx=>x.1.elim h2 h3)
theorem b0y{o:Obj}{es:Array DictEntry}{n:Nat}(h:o.data=.dict es n): ¬Imm o:=λx=>x.elim (λ⟨_,_,_,e⟩=>by(rw[h]at e;have e:=e);(trivial)) (λ⟨_,_,e⟩=>by(rw[h]at e;have e:=e);(trivial))
theorem r0z{o:Obj}{v:Option Value}(h:o.data=.cell v): ¬Imm o:=λx=>x.elim (λ⟨_,_,_,e⟩=>by(rw[h]at e;have e:=e);(trivial)) (λ⟨_,_,e⟩=>by(rw[h]at e;have e:=e);(trivial))
theorem l0u{prog:Program}{w:World}{h h':Heap}(k:TK h h'){ks:List Int}{a:Addr}(x:IsTupleKey (intKind prog w) h ks a):IsTupleKey (intKind prog w) h' ks a:=
 d0l x λo items n ho hc hd hi=>(k.tup ⟨o,ho,hc,n,hd⟩).elim λo' q=>b0l q λho' hc' q=>q.elim λn' hd'=>⟨o',items,n',ho',hc',hd',hi⟩
theorem Rep.obj{prog:Program}{w:World}{ρ:List Addr}{h:Heap}{a:Addr}{o:AObj}(r:Rep prog w ρ h a o): ∃ob,h.get? a=some ob∧¬Imm ob∧∀{ρ':List Addr} {h':Heap},ρ<+:ρ'→TK h h'→h'.get? a=some ob→Rep prog w ρ' h' a o:=by
 cases o with
 |list l=>exact b0j r λvs n ho q z=>⟨_,ho,i0t (by simp) (by simp) (by simp),λhp k e=>⟨vs,n,e,VL.mono hp k _ _ q,z⟩⟩
 |dictI l=>exact a0q r λkvs D e q=>h0o D λo es ep ho r=>⟨o,ho,b0y r.2.1,λhp k e'=>⟨kvs,⟨o,es,ep,e',r⟩,e,VL.mono hp k _ _ q⟩⟩
 |dictS l=>exact a0q r λkvs D e q=>h0o D λo es ep ho r=>⟨o,ho,b0y r.2.1,λhp k e'=>⟨kvs,⟨o,es,ep,e',r⟩,e,VL.mono hp k _ _ q⟩⟩
 |dictT l=>exact a0q r λkvs D e q=>h0o D λo es ep ho r=>⟨o,ho,b0y r.2.1,λhp k e'=>⟨kvs,⟨o,es,ep,e',r.1,r.2.1,r.2.2.1,λx hx=>l0u k (r.2.2.2.1 x hx),r.2.2.2.2⟩,e,VL.mono hp k _ _ q⟩⟩
 |set S n=>exact x0b r λo es ep t ho q=>⟨o,ho,i0t (by rw[q.1.1];trivial) (by rw[q.1.1];trivial) (by rw[q.1.1];trivial),λhp k e'=>⟨o,es,ep,t,e',q⟩⟩
 |inst C d=>exact a0a r λdx e ho=>⟨_,ho,i0t nofun nofun nofun,λhp k e'=>⟨dx,j0u hp e,e'⟩⟩
 |ns m=>
  exact a0a r λf p q=>h0o p.1 λo es ep ho r=>⟨o,ho,b0y r.1,λhp k e'=>⟨f,⟨⟨o,es,ep,e',r⟩,p.2.of_same ho e'⟩,λx=>by
   have:=q x
   revert this
   cases m.lookup x with
   |none=>exact id
   |some y=>exactλt=>a0a t λv a b=>⟨v,a,V.mono hp k _ _ b⟩⟩⟩
 |raw o=>exact⟨o,r.1,r.2,λhp k e=>⟨e,r.2⟩⟩
theorem AObj.nontup{prog:Program}{w:World}{ρ:List Addr}{h:Heap}{a:Addr}{o:AObj}(r:Rep prog w ρ h a o)(ob:Obj)(e:h.get? a=some ob): ¬Imm ob:=r.obj.elim λ_ q=>Option.some.inj (q.1.symm.trans e)▸q.2.1
theorem AObj.alive{prog:Program}{w:World}{ρ:List Addr}{h:Heap}{a:Addr}{o:AObj}(r:Rep prog w ρ h a o): ∃ob,h.get? a=some ob:=r.obj.elim λob q=>⟨ob,q.1⟩
theorem Rep.mono{prog:Program}{w:World}{ρ ρ':List Addr}{h h':Heap}{a:Addr}(hp:ρ<+:ρ')(k:TK h h')(ka: ∀o,h.get? a=some o→h'.get? a=some o){o:AObj}(r:Rep prog w ρ h a o):Rep prog w ρ' h' a o:=r.obj.elim λ_ q=>q.2.2 hp k (ka _ q.1)
theorem Rep.bd{prog:Program}{w:World}{ρ:List Addr}{h:Heap}{a:Addr}{o:AObj}(r:Rep prog w ρ h a o):o.bd ρ.length:=by
 cases o with
 |list l=>exact b0j r λ_ _ _ q _=>VL.bd _ _ q
 |dictI l=>exact a0q r λ_ _ _ q=>VL.bd _ _ q
 |dictS l=>exact a0q r λ_ _ _ q=>VL.bd _ _ q
 |dictT l=>exact a0q r λ_ _ _ q=>VL.bd _ _ q
 |set _ _=>trivial
 |inst _ d=>exact a0a r λ_ e _=>(List.getElem?_eq_some_iff.mp e).1
 |ns m=>
  exact a0a r λf _ q x v e=>by
   have:=q x
   rw[e]at this
   exact a0a this λcv _ b=>V.bd v cv b
 |raw _=>trivial
theorem Rep.cut{prog:Program}{w:World}{ρ:List Addr}{h:Heap}{a:Addr}{k:Nat}{o:AObj}(r:Rep prog w ρ h a o)(b:o.bd k):Rep prog w (ρ.take k) h a o:=by
 cases o with
 |list l=>exact b0j r λvs n r q z=>⟨vs,n,r,VL.cut _ _ q b,z⟩
 |dictI l=>exact a0q r λkvs r e q=>⟨kvs,r,e,VL.cut _ _ q b⟩
 |dictS l=>exact a0q r λkvs r e q=>⟨kvs,r,e,VL.cut _ _ q b⟩
 |dictT l=>exact a0q r λkvs r e q=>⟨kvs,r,e,VL.cut _ _ q b⟩
 |set _ _=>exact r
 |inst _ d=>exact a0a r λdx e r=>⟨dx,(List.getElem?_take_of_lt b).trans e,r⟩
 |ns m=>
  exact a0a r λf r q=>⟨f,r,λx=>by
   have:=q x
   have b:=b x
   revert this b
   cases m.lookup x with
   |none=>exactλh _=>h
   |some y=>exactλt b=>a0a t λv x1 x2=>⟨v,x1,V.cut _ _ x2 (b _ rfl)⟩⟩
 |raw _=>exact r
theorem k0z{α:Type}{l:List α}{x y:α}{i:Nat}(e:(l++[x])[i]?=some y):l[i]?=some y∨i=l.length∧x=y:=by
 by_cases hi:i<l.length
 ·exact .inl ((List.getElem?_append_left hi).symm.trans e)
 ·rw[List.getElem?_append_right (Nat.not_lt.mp hi)]at e;have e:=e
  by_cases h0:i - l.length=0
  ·rw[h0]at e;exact .inr ⟨by omega,Option.some.inj e⟩
  ·rw[List.getElem?_singleton,if_neg h0]at e;have e:=e;(exact b0n e)
theorem j0t{α:Type}{l:List α}{a:α}(n:l.Nodup)(h:a∉l):(l++[a]).Nodup:=List.nodup_append.mpr ⟨n,List.pairwise_singleton _ _,λx hx y hy e=>h (List.mem_singleton.mp hy▸e▸hx)⟩
section
variable {prog:Program} {w:World} {base:Heap} {os:OsState} {ρ ρ':List Addr} {σ:Sig} {s s':Shared}
theorem St.at(S:St prog w base os ρ σ s){i:Nat}{o:AObj}(e:σ[i]?=some o): ∃a,ρ[i]?=some a∧Rep prog w ρ s.heap a o:=by
 have hi:i<ρ.length:=by rw[S.len];exact(List.getElem?_eq_some_iff.mp e).1
 exact⟨ρ[i],List.getElem?_eq_getElem hi,S.rep i _ o (List.getElem?_eq_getElem hi) e⟩
theorem St.alive(S:St prog w base os ρ σ s){a:Addr}(h:a∈ρ): ∃ob,s.heap.get? a=some ob:=by
 obtain⟨i,hi,rfl⟩:=List.mem_iff_getElem.mp h
 have hj:i<σ.length:=by rw[←S.len];exact hi
 exact AObj.alive (S.rep i _ _ (List.getElem?_eq_getElem hi) (List.getElem?_eq_getElem hj))
theorem St.nontup(S:St prog w base os ρ σ s){a:Addr}(h:a∈ρ)(ob:Obj)(e:s.heap.get? a=some ob): ¬Imm ob:=by
 obtain⟨i,hi,rfl⟩:=List.mem_iff_getElem.mp h
 have hj:i<σ.length:=by rw[←S.len];exact hi
 exact AObj.nontup (S.rep i _ _ (List.getElem?_eq_getElem hi) (List.getElem?_eq_getElem hj)) ob e
theorem St.keeps(S:St prog w base os ρ σ s)(k: ∀b o,s.heap.get? b=some o→s'.heap.get? b=some o)(hg:s'.gens=s.gens)(ho:s'.os=s.os):St prog w base os ρ σ s':=
 ⟨S.len,S.nodup,S.fresh,λi a o ea eo=>(S.rep i a o ea eo).mono (List.prefix_rfl) (TK.ofKeeps k) (λ_ e=>k _ _ e),λb o e=>k _ _ (S.base b o e),hg.trans S.gens,ho.trans S.os⟩
theorem St.keepsBut(S:St prog w base os ρ σ s)(k: ∀b o,s.heap.get? b=some o→(b∈ρ∨base.get? b≠none)→s'.heap.get? b=some o)(t:TK s.heap s'.heap)(hg:s'.gens=s.gens)(ho:s'.os=s.os):St prog w base os ρ σ s':=
 ⟨S.len,S.nodup,S.fresh,λi a o ea eo=>(S.rep i a o ea eo).mono (List.prefix_rfl) t (λ_ e=>k _ _ e (.inl (List.mem_of_getElem? ea))),λb o e=>k _ _ (S.base b o e) (.inr (by rw[e];exact Option.some_ne_none _)),hg.trans S.gens,ho.trans S.os⟩
theorem St.tok(S:St prog w base os ρ σ s)(n:Nat):St prog w base os ρ σ {s with toks:=n}:=⟨S.len,S.nodup,S.fresh,S.rep,S.base,S.gens,S.os⟩
theorem m0r{h:Heap}{b:Addr}(hb:h.objs.size≤b):h.get? b=none:=by
 cases q:h.get? b with
 |none=>rfl
 |some o=>exact absurd (Heap.lt_size q) (Nat.not_lt.mpr hb)
theorem b0h(h:Heap):h.get? h.objs.size=none:=m0r (Nat.le_refl _)
theorem St.adopt(S:St prog w base os ρ σ s){o:AObj}{a:Addr}(ha:a∉ρ)(hb:base.get? a=none)(r:Rep prog w (ρ++[a]) s.heap a o):St prog w base os (ρ++[a]) (σ++[o]) s:=
 ⟨by rw[List.length_append,List.length_append,S.len];rfl,j0t S.nodup ha,λb hb'=>(List.mem_append.mp hb').elim (S.fresh b) λh=>List.mem_singleton.mp h▸hb,
  λi b ob eb eo=>(k0z eb).elim
   (λh=>(S.rep i b ob h ((k0z eo).resolve_right λq=>Nat.lt_irrefl _ (S.len▸q.1▸(List.getElem?_eq_some_iff.mp h).1))).mono (List.prefix_append _ _) (TK.refl _) λ_ e=>e)
   λq=>q.2▸((k0z eo).resolve_left λh=>Nat.lt_irrefl _ (S.len▸q.1▸(List.getElem?_eq_some_iff.mp h).1)).2▸r,S.base,S.gens,S.os⟩
theorem g0v{h h':Heap}{a:Addr}(k: ∀b o,h.get? b=some o→h'.get? b=some o)(e:h'.get? a=none):h.get? a=none:=by
 cases q:h.get? a with
 |none=>rfl
 |some o=>exact b0n (e.symm.trans (k _ _ q))
theorem St.fresh'(S:St prog w base os ρ σ s){a:Addr}(ha:s.heap.get? a=none):a∉ρ:=λh=>(S.alive h).elim λ_ e=>b0n (ha.symm.trans e)
theorem St.new(S:St prog w base os ρ σ s){o:AObj}{a:Addr}(k: ∀b o,s.heap.get? b=some o→s'.heap.get? b=some o)(ha:s.heap.get? a=none)(r:Rep prog w (ρ++[a]) s'.heap a o)
  (hg:s'.gens=s.gens) (ho:s'.os=s.os):St prog w base os (ρ++[a]) (σ++[o]) s':=(S.keeps k hg ho).adopt (S.fresh' ha) (g0v S.base ha) r
theorem St.upd(S:St prog w base os ρ σ s){i:Nat}{o:AObj}{a:Addr}(ea:ρ[i]?=some a)(k: ∀b ob,b≠a→s.heap.get? b=some ob→s'.heap.get? b=some ob)(r:TK s.heap s'.heap→Rep prog w ρ s'.heap a o)
  (hg:s'.gens=s.gens) (ho:s'.os=s.os):St prog w base os ρ (σ.set i o) s':=by
 have ha:a∈ρ:=List.mem_of_getElem? ea
 have t:TK s.heap s'.heap:=TK.but (S.nontup ha) k
 refine⟨by simp[S.len],S.nodup,S.fresh,λj b ob eb eo=>?_,λb ob e=>k b ob (λx=>?_) (S.base b ob e),hg.trans S.gens,ho.trans S.os⟩
 ·by_cases hij:i=j
  ·subst hij
   rw[ea]at eb;have eb:=eb;cases eb
   have:i<σ.length:=by rw[←S.len];exact(List.getElem?_eq_some_iff.mp ea).1
   rw[List.getElem?_set_self this]at eo;have eo:=eo;cases eo
   exact r t
  ·rw[List.getElem?_set_ne hij]at eo
   refine(S.rep j b ob eb eo).mono List.prefix_rfl t λoo e=>k b oo (λx=>?_) e
   clear k r ha;subst x
   have h1:=(List.getElem?_eq_some_iff.mp ea);have h2:=(List.getElem?_eq_some_iff.mp eb)
   exact hij ((List.getElem_inj S.nodup).mp (h1.2.trans h2.2.symm))
 ·clear ea k r;subst x;(rw[S.fresh b ha]at e;have e:=e);(exact b0n e)
noncomputable def Cl(k:Nat)(σ:Sig):Prop:=∀o∈σ,o.bd k
theorem St.cl(S:St prog w base os ρ σ s):Cl σ.length σ:=λo ho=>by
 obtain⟨i,hi,rfl⟩:=List.mem_iff_getElem.mp ho
 have hj:i<ρ.length:=by rw[S.len];exact hi
 have:=Rep.bd (S.rep i _ _ (List.getElem?_eq_getElem hj) (List.getElem?_eq_getElem hi))
 rwa [S.len]at this
theorem St.cut(S:St prog w base os ρ σ s)(k:Nat)(c:Cl k (σ.take k)):St prog w base os (ρ.take k) (σ.take k) s:=by
 refine⟨by simp[S.len],S.nodup.sublist (List.take_sublist _ _),λa ha=>S.fresh a (List.mem_of_mem_take ha),λi a o ea eo=>?_,S.base,S.gens,S.os⟩
 have hi:i<k:=by have:=(List.getElem?_eq_some_iff.mp eo).1;simp at this;omega
 have b:=c o (List.mem_of_getElem? eo)
 rw[List.getElem?_take_of_lt hi]at ea eo
 exact(S.rep i a o ea eo).cut b
end
set_option backward.match.sparseCases true
structure Gx where
 prog:Program
 w:World
 base:Heap
 os:OsState
noncomputable abbrev Gx.M (G:Gx):Model:=model G.prog G.w
abbrev Gx.St (G:Gx):=Internal.St G.prog G.w G.base G.os
noncomputable def e0t(n:Nat)(A:Around):Prop:=A.depth+n<1000∧A.units+10*n+100<9900∧A.handled=none
theorem e0t.mono{n m:Nat}{A:Around}(r:e0t n A)(h:m≤n):e0t m A:=⟨by have:=r.1;omega,by have:=r.2.1;omega,r.2.2⟩
theorem e0t.in1{n:Nat}{A:Around}(r:e0t (n+1) A):e0t n A.in1:=⟨by have:=r.1;simp;omega,by have:=r.2.1;simp;omega,r.2.2⟩
theorem e0t.deeper{n:Nat}{A:Around}(r:e0t (n+1) A)(env:Env):e0t n (A.deeper env):=⟨by have:=r.1;show A.depth+1+n<1000;omega,by have:=r.2.1;show A.units+3+10*n+100<9900;omega,r.2.2⟩
theorem e0t.limit{n:Nat}{A:Around}(r:e0t n A):A.depth<recursionLimit:=by have:=r.1;show A.depth<1000;omega
theorem e0t.line{n:Nat}{A:Around}(r:e0t n A):A.units+100<cLine:=by have:=r.2.1;show A.units+100<9900;omega
theorem e0t.mark{n:Nat}{A:Around}(r:e0t n A):A.mark none=A:=rfl
noncomputable def d0x(cenv:Env)(b:Addr):Prop:=b=cenv.locals∨∃n,(n,b)∈cenv.cells
noncomputable def f0g(_:Addr):Prop:=False
structure Nxt (own:Addr→Prop) (ρ:List Addr) (s:Shared) (ρ':List Addr) (s':Shared):Prop where
 pre:ρ<+:ρ'
 new: ∀a∈ρ',a∈ρ∨s.heap.get? a=none
 keep: ∀b o,s.heap.get? b=some o→b∉ρ→¬own b→s'.heap.get? b=some o
 tk:TK s.heap s'.heap
 live: ∀b o,s.heap.get? b=some o→∃o',s'.heap.get? b=some o'
theorem Nxt.refl{own:Addr→Prop}{ρ:List Addr}{s:Shared}:Nxt own ρ s ρ s:=⟨List.prefix_rfl,λ_ h=>.inl h,λ_ _ e _ _=>e,TK.refl _,λ_ o e=>⟨o,e⟩⟩
theorem Nxt.trans{own:Addr→Prop}{ρ ρ₁ ρ₂:List Addr}{s s₁ s₂:Shared}(a:Nxt own ρ s ρ₁ s₁)(b:Nxt own ρ₁ s₁ ρ₂ s₂):Nxt own ρ s ρ₂ s₂:=by
 refine⟨a.pre.trans b.pre,λx hx=>?_,λx o e h1 h2=>?_,a.tk.trans b.tk,λx o e=>?_⟩
 ·rcases b.new x hx with h|h
  ·exact a.new x h
  ·cases q:s.heap.get? x with
   |none=>exact .inr rfl
   |some o=>refine a0k (a.live x o q) λo' e=>?_;(rw[h]at e;have e:=e);(exact b0n e)
 ·refine b.keep x o (a.keep x o e h1 h2) (λh=>?_) h2
  rcases a.new x h with h|h
  ·exact h1 h
  ·rw[h]at e;have e:=e;(exact b0n e)
 ·refine a0k (a.live x o e) λo' e'=>?_
  exact b.live x o' e'
theorem Nxt.weak{own own':Addr→Prop}{ρ ρ':List Addr}{s s':Shared}(a:Nxt own ρ s ρ' s')(h: ∀b,own b→own' b):Nxt own' ρ s ρ' s':=⟨a.pre,a.new,λb o e h1 h2=>a.keep b o e h1 λq=>h2 (h b q),a.tk,a.live⟩
theorem Nxt.keeps{own:Addr→Prop}{ρ:List Addr}{s s':Shared}(k: ∀b o,s.heap.get? b=some o→s'.heap.get? b=some o):Nxt own ρ s ρ s':=
 ⟨List.prefix_rfl,λ_ h=>.inl h,λb o e _ _=>k b o e,TK.ofKeeps k,λb o e=>⟨o,k b o e⟩⟩
theorem Nxt.cut{own:Addr→Prop}{ρ ρ':List Addr}{s s':Shared}(a:Nxt own ρ s ρ' s'){k:Nat}(hk:ρ.length≤k):Nxt own ρ s (ρ'.take k) s':=by
 refine⟨?_,λx hx=>a.new x (List.mem_of_mem_take hx),a.keep,a.tk,a.live⟩
 obtain⟨t,rfl⟩:=a.pre
 exact⟨t.take (k - ρ.length),by rw[List.take_append,List.take_of_length_le hk]⟩
structure FrOk (G:Gx) (cenv:Env) (loc:Loc) (ρ:List Addr) (s:Shared):Prop where
 kind:cenv.scope.kind=.function
 glob:cenv.globals=mainGlobals
 blt:cenv.builtins=builtinsNs
 ns: ∃m,s.heap.Ns cenv.locals m∧∀x v,loc.lookup x=some v→cenv.kindOf x=some .local→∃cv,m x=some cv∧V ρ s.heap v cv
 own:cenv.locals∉ρ∧G.base.get? cenv.locals=none
 cells: ∀n c,(n,c)∈cenv.cells→(∃o v,s.heap.get? c=some o∧o.data=.cell v)∧c∉ρ∧G.base.get? c=none
 cval: ∀x v,loc.lookup x=some v→cenv.kindOf x=some .cell→∃c cv,cenv.cells.lookup x=some c∧s.heap.IsCell c (some cv)∧V ρ s.heap v cv
 apart: ∀n n' c,(n,c)∈cenv.cells→(n',c)∈cenv.cells→n=n'
theorem FrOk.own_alive{G:Gx}{cenv:Env}{loc:Loc}{ρ:List Addr}{s:Shared}(F:FrOk G cenv loc ρ s){b:Addr}(h:d0x cenv b):(∃o,s.heap.get? b=some o)∧b∉ρ∧(∀o,s.heap.get? b=some o→¬Imm o)∧G.base.get? b=none:=
 h.elim (λe=>e▸a0a F.ns λm z _=>h0o z λo es ep ho r=>⟨⟨_,ho⟩,F.own.1,λo' ho'=>Option.some.inj (ho.symm.trans ho')▸b0y r.1,F.own.2⟩)
  λq=>q.elim λn hn=>b0l (F.cells n b hn) λz h1 h2=>c0e z λo v ho hd=>⟨⟨_,ho⟩,h1,λo' ho'=>Option.some.inj (ho.symm.trans ho')▸r0z hd,h2⟩
theorem FrOk.move{G:Gx}{cenv:Env}{loc:Loc}{ρ ρ':List Addr}{s s':Shared}(F:FrOk G cenv loc ρ s)(hp:ρ<+:ρ')(t:TK s.heap s'.heap)(kp: ∀b o,d0x cenv b→s.heap.get? b=some o→s'.heap.get? b=some o)(nin: ∀b,d0x cenv b→b∉ρ'):FrOk G cenv loc ρ' s':=
 ⟨F.kind,F.glob,F.blt,a0a F.ns λm z q=>h0o z λo es ep ho r=>⟨m,⟨o,es,ep,kp _ _ (.inl rfl) ho,r⟩,λx v hx hk=>a0a (q x v hx hk) λcv a b=>⟨cv,a,V.mono hp t _ _ b⟩⟩,⟨nin _ (.inl rfl),F.own.2⟩,
  λn c h=>b0l (F.cells n c h) λz h1 h2=>⟨c0e z λo v ho hd=>⟨o,v,kp _ _ (.inr ⟨n,h⟩) ho,hd⟩,nin _ (.inr ⟨n,h⟩),h2⟩,
  λx v hx hk=>b0j (F.cval x v hx hk) λc cv hc z b=>⟨c,cv,hc,a0a z λo ho hd=>⟨o,kp _ _ (.inr ⟨x,mem_of_lookup hc⟩) ho,hd⟩,V.mono hp t _ _ b⟩,F.apart⟩
theorem FrOk.next{G:Gx}{cenv:Env}{loc:Loc}{ρ ρ':List Addr}{s s':Shared}(F:FrOk G cenv loc ρ s)(N:Nxt f0g ρ s ρ' s'):FrOk G cenv loc ρ' s':=
 F.move N.pre N.tk (λb o hb e=>N.keep b o e (F.own_alive hb).2.1 id) λb hb h=>(N.new b h).elim (F.own_alive hb).2.1 λq=>(F.own_alive hb).1.elim λ_ e=>b0n (q.symm.trans e)
theorem FrOk.weak{G:Gx}{cenv:Env}{loc loc':Loc}{ρ:List Addr}{s:Shared}(F:FrOk G cenv loc ρ s)(h: ∀x v,loc'.lookup x=some v→loc.lookup x=some v):FrOk G cenv loc' ρ s:=
 ⟨F.kind,F.glob,F.blt,let⟨m,a,b⟩:=F.ns;⟨m,a,λx v hx hk=>b x v (h x v hx) hk⟩,F.own,F.cells,λx v hx hk=>F.cval x v (h x v hx) hk,F.apart⟩
abbrev Rl (α β:Type):=List Addr→Heap→β→α→Prop
noncomputable def rId{α:Type}:Rl α α:=λ_ _ x v=>v=x
inductive Post(G:Gx)(ρ:List Addr)(s:Shared){α β:Type}(R:Rl α β)(Q:β→Sig→Prop)(v:α)(s':Shared):Prop
 |mk (x:β) (ρ':List Addr) (σ':Sig) (S:G.St ρ' σ' s') (N:Nxt f0g ρ s ρ' s') (r:R ρ' s'.heap x v) (q:Q x σ')
theorem Post.trans{G:Gx}{ρ ρ₁:List Addr}{s s₁:Shared}{α β:Type}{R:Rl α β}{Q:β→Sig→Prop}{v:α}{s':Shared}(N:Nxt f0g ρ s ρ₁ s₁)(p:Post G ρ₁ s₁ R Q v s'):Post G ρ s R Q v s':=
 let⟨x,ρ',σ',a,b,c,d⟩:=p;⟨x,ρ',σ',a,N.trans b,c,d⟩
abbrev noE (_:Value) (_:Shared):Prop:=False
noncomputable def OkT(G:Gx)(n:Nat)(cenv:Env)(loc:Loc)(σ:Sig){α β:Type}(R:Rl α β)(t:Sem α)(Q:β→Sig→Prop):Prop:=
 ∀A ρ s,e0t n A→G.St ρ σ s→FrOk G cenv loc ρ s→wpAny G.M A t (Post G ρ s R Q) noE s
abbrev OkE (G:Gx) (n:Nat) (cenv:Env) (loc:Loc) (σ:Sig) (e:Expr) (Q:AV→Sig→Prop):Prop:=OkT G n cenv loc σ V (eval e cenv) Q
abbrev OkB (G:Gx) (n:Nat) (cenv:Env) (loc:Loc) (σ:Sig) (e:Expr) (Q:Bool→Sig→Prop):Prop:=OkT G n cenv loc σ rId (isTrue e cenv (eval e cenv)) Q
inductive AFlow where
 |next|brk|cont
 |ret (x:AV)
noncomputable def AFlow.ctorIdx(x:AFlow):Nat:=AFlow.casesOn (motive:=λ_=>Nat) x 0 1 2 (λ_=>3)
noncomputable def s0l(ρ:List Addr)(h:Heap):AFlow→Flow→Prop
 | .next,f=>f=.next
 | .brk,f=>f=.brk
 | .cont,f=>f=.cont
 | .ret x,f=>∃v,f=.ret v∧V ρ h x v
inductive PostS(G:Gx)(cenv:Env)(ρ:List Addr)(s:Shared)(Q:AFlow→Loc→Sig→Prop)(f:Flow)(s':Shared):Prop
 |mk (fl:AFlow) (loc':Loc) (ρ':List Addr) (σ':Sig) (S:G.St ρ' σ' s') (N:Nxt (d0x cenv) ρ s ρ' s') (F:FrOk G cenv loc' ρ' s') (r:s0l ρ' s'.heap fl f) (q:Q fl loc' σ')
theorem PostS.trans{G:Gx}{cenv:Env}{ρ ρ₁:List Addr}{s s₁:Shared}{Q:AFlow→Loc→Sig→Prop}{v:Flow}{s':Shared}(N:Nxt (d0x cenv) ρ s ρ₁ s₁)(p:PostS G cenv ρ₁ s₁ Q v s'):PostS G cenv ρ s Q v s':=
 let⟨x,l,ρ',σ',a,b,c,d,e⟩:=p;⟨x,l,ρ',σ',a,N.trans b,c,d,e⟩
noncomputable def OkF(G:Gx)(n:Nat)(cenv:Env)(loc:Loc)(σ:Sig)(t:Sem Flow)(Q:AFlow→Loc→Sig→Prop):Prop:=
 ∀A ρ s,e0t n A→G.St ρ σ s→FrOk G cenv loc ρ s→wpAny G.M A t (PostS G cenv ρ s Q) noE s
abbrev OkS (G:Gx) (n:Nat) (cenv:Env) (loc:Loc) (σ:Sig) (st:Stmt) (Q:AFlow→Loc→Sig→Prop):Prop:=OkF G n cenv loc σ (exec st cenv) Q
abbrev q0y (G:Gx) (n:Nat) (cenv:Env) (loc:Loc) (σ:Sig) (st:List Stmt) (Q:AFlow→Loc→Sig→Prop):Prop:=OkF G n cenv loc σ (execs st cenv) Q
inductive PostU(G:Gx)(cenv:Env)(ρ:List Addr)(s:Shared)(Q:Loc→Sig→Prop)(_:Unit)(s':Shared):Prop
 |mk (loc':Loc) (ρ':List Addr) (σ':Sig) (S:G.St ρ' σ' s') (N:Nxt (d0x cenv) ρ s ρ' s') (F:FrOk G cenv loc' ρ' s') (q:Q loc' σ')
theorem PostU.trans{G:Gx}{cenv:Env}{ρ ρ₁:List Addr}{s s₁:Shared}{Q:Loc→Sig→Prop}{v:Unit}{s':Shared}(N:Nxt (d0x cenv) ρ s ρ₁ s₁)(p:PostU G cenv ρ₁ s₁ Q v s'):PostU G cenv ρ s Q v s':=
 let⟨l,ρ',σ',a,b,c,d⟩:=p;⟨l,ρ',σ',a,N.trans b,c,d⟩
noncomputable def OkA(G:Gx)(n:Nat)(cenv:Env)(loc:Loc)(σ:Sig)(target:Expr)(x:AV)(Q:Loc→Sig→Prop):Prop:=
 ∀A ρ s v,e0t n A→G.St ρ σ s→FrOk G cenv loc ρ s→V ρ s.heap x v→wpAny G.M A (assign target cenv v) (PostU G cenv ρ s Q) noE s
noncomputable def Op1(G:Gx)(n:Nat)(σ:Sig){α β:Type}(R:Rl α β)(f:Value→Sem α)(x:AV)(Q:β→Sig→Prop):Prop:=
 ∀A ρ s a,e0t n A→G.St ρ σ s→V ρ s.heap x a→wpAny G.M A (f a) (Post G ρ s R Q) noE s
noncomputable def Op2(G:Gx)(n:Nat)(σ:Sig){α β:Type}(R:Rl α β)(f:Value→Value→Sem α)(x y:AV)(Q:β→Sig→Prop):Prop:=
 ∀A ρ s a b,e0t n A→G.St ρ σ s→V ρ s.heap x a→V ρ s.heap y b→wpAny G.M A (f a b) (Post G ρ s R Q) noE s
noncomputable def a0b(G:Gx)(n:Nat)(f:Value)(xs:List AV)(σ:Sig)(Q:AV→Sig→Prop):Prop:=
 ∀A ρ s vs,e0t n A→G.St ρ σ s→VL ρ s.heap xs vs→wpAny G.M A (call f vs) (Post G ρ s V Q) noE s
abbrev l0d (G:Gx) (n:Nat) (op:Operator) (x y:AV) (σ:Sig) (Q:AV→Sig→Prop):Prop:=Op2 G n σ V (binaryOp op) x y Q
abbrev b0e (G:Gx) (n:Nat) (op:CmpOp) (x y:AV) (σ:Sig) (Q:AV→Sig→Prop):Prop:=Op2 G n σ V (compareOp op) x y Q
abbrev j0b (G:Gx) (n:Nat) (x:AV) (σ:Sig) (Q:Bool→Sig→Prop):Prop:=Op1 G n σ rId truthy x Q
structure WOk (G:Gx) (K:Frag):Prop where
 X:K.In G.base
 g: ∃mg,G.base.Ns mainGlobals mg
 b: ∃mb,G.base.Ns builtinsNs mb∧∀x:PySem.Str,x≠"__name__"→mb x=bootBuiltins x
 nolimit:G.base.NoLimit
theorem WOk.kin{G:Gx}{K:Frag}(W:WOk G K){ρ:List Addr}{σ:Sig}{s:Shared}(S:G.St ρ σ s):K.In s.heap:=W.X.keeps S.base
section
variable {G:Gx} {n:Nat} {cenv:Env} {loc:Loc} {σ:Sig} {α β γ δ:Type}
theorem OkT.then{R:Rl α β}{t:Sem α}{Qm:β→Sig→Prop}(h:OkT G n cenv loc σ R t Qm){A:Around}{ρ:List Addr}{s:Shared}(r:e0t n A)(S:G.St ρ σ s)(F:FrOk G cenv loc ρ s){P:α→Shared→Prop}
  (k: ∀v x ρ₁ σ₁ s₁,G.St ρ₁ σ₁ s₁→Nxt f0g ρ s ρ₁ s₁→FrOk G cenv loc ρ₁ s₁→R ρ₁ s₁.heap x v→Qm x σ₁→P v s₁):wpAny G.M A t P noE s:=
 wpAny_mono (h A ρ s r S F) (λv s₁ ⟨x,ρ₁,σ₁,S₁,N,q,m⟩=>k v x ρ₁ σ₁ s₁ S₁ N (F.next N) q m) λ_ _ e=>e
theorem c0p{ρ ρ₁:List Addr}{s s₁:Shared}{A:Around}{R:Rl α β}{t:Sem α}{Q:β→Sig→Prop}(N:Nxt f0g ρ s ρ₁ s₁)(h:wpAny G.M A t (Post G ρ₁ s₁ R Q) noE s₁):wpAny G.M A t (Post G ρ s R Q) noE s₁:=
 wpAny_mono h (λ_ _ p=>p.trans N) λ_ _ e=>e
theorem OkT.mono{R:Rl α β}{t:Sem α}{Q Q':β→Sig→Prop}(h:OkT G n cenv loc σ R t Q)(k: ∀x σ',Q x σ'→Q' x σ'):OkT G n cenv loc σ R t Q':=
 λA ρ s r S F=>wpAny_mono (h A ρ s r S F) (λv s' ⟨x,ρ',σ',a,b,c,d⟩=>⟨x,ρ',σ',a,b,c,k _ _ d⟩) λ_ _ e=>e
theorem OkT.weakLoc{R:Rl α β}{t:Sem α}{Q:β→Sig→Prop}{loc':Loc}(h:OkT G n cenv loc' σ R t Q)(k: ∀x v,loc'.lookup x=some v→loc.lookup x=some v):OkT G n cenv loc σ R t Q:=
 λA ρ s r S F=>h A ρ s r S (F.weak k)
theorem e0b{R:Rl α β}{ρ:List Addr}{s s':Shared}{v:α}{x:β}{σ:Sig}{Q:β→Sig→Prop}(S:G.St ρ σ s)(k: ∀b o,s.heap.get? b=some o→s'.heap.get? b=some o)(hg:s'.gens=s.gens)(ho:s'.os=s.os)
  (r:R ρ s'.heap x v) (q:Q x σ):Post G ρ s R Q v s':=⟨x,ρ,σ,S.keeps k hg ho,Nxt.keeps k,r,q⟩
theorem a0e{R:Rl α β}{ρ:List Addr}{s:Shared}{v:α}{x:β}{σ:Sig}{Q:β→Sig→Prop}{tk:Nat}(S:G.St ρ σ s)(r:R ρ s.heap x v)(q:Q x σ):Post G ρ s R Q v {s with toks:=tk}:=
 e0b S (λ_ _ e=>e) rfl rfl r q
theorem l1f{x:PySem.Str}{pos:Pos}{v:AV}{Q:AV→Sig→Prop}(hv:loc.lookup x=some v)(hk:cenv.kindOf x=some .local)(h:Q v σ)(hd:autoParam ((x==("__debug__":PySem.Str))=false) aD):
  OkE G n cenv loc σ (.Name x pos) Q:=λA ρ s r S F=>by
 refine a0a (F.ns) λm hm hl=>?_
 refine a0a (hl x v hv hk) λcv e hV=>?_
 exact wpAny_Name (wpAny_loadName_local F.kind hk hm e (a0e (tk:=s.toks) S hV h)) hd
theorem g1t{x:PySem.Str}{pos:Pos}{v:AV}{Q:AV→Sig→Prop}(hv:loc.lookup x=some v)(hk:cenv.kindOf x=some .cell)(h:Q v σ)(hd:autoParam ((x==("__debug__":PySem.Str))=false) aD):
  OkE G n cenv loc σ (.Name x pos) Q:=λA ρ s r S F=>by
 refine b0j (F.cval x v hv hk) λc cv hc hi hV=>?_
 exact wpAny_Name (wpAny_loadName_cell F.kind hk hc hi (a0e (tk:=s.toks) S hV h)) hd
theorem g1x{K:Frag}(W:WOk G K){x:PySem.Str}{pos:Pos}{v:Value}{Q:AV→Sig→Prop}(hk:cenv.kindOf x=some .globalImplicit)(e:nsIn K mainGlobals x=some (some v))(h:Q (.glob v) σ)(hd:autoParam ((x==("__debug__":PySem.Str))=false) aD):
  OkE G n cenv loc σ (.Name x pos) Q:=λA ρ s r S F=>by
 refine a0k (W.g) λmg hg=>?_
 exact Name_function_global F.kind hk (loadGlobal_global (env:=cenv) (by rw[F.glob];exact hg.keeps S.base) (mg_of W.X hg e) (a0e (tk:=s.toks) (x:=AV.glob v) S rfl h)) hd
theorem l1d{K:Frag}(W:WOk G K){x:PySem.Str}{pos:Pos}{v:Value}{Q:AV→Sig→Prop}(hk:cenv.kindOf x=some .globalImplicit)(e:nsIn K mainGlobals x=some none)(hv:bootBuiltins x=some v)(h:Q (.glob v) σ)
  (hn:autoParam (x≠"__name__") aD) (hd:autoParam ((x==("__debug__":PySem.Str))=false) aD):OkE G n cenv loc σ (.Name x pos) Q:=λA ρ s r S F=>by
 refine a0k (W.g) λmg hg=>?_
 refine a0a (W.b) λmb hb hb'=>?_
 exact Name_function_global F.kind hk (loadGlobal_builtin (env:=cenv) (by rw[F.glob];exact hg.keeps S.base) (mg_none_of W.X hg e) (by rw[F.blt];exact hb.keeps S.base) ((hb' x hn).trans hv) (a0e (tk:=s.toks) (x:=AV.glob v) S rfl h)) hd
theorem d1h{i:Int}{k pos}{Q:AV→Sig→Prop}(h:Q (.int i) σ):OkE G n cenv loc σ (.Constant (.int i) k pos) Q:=λA ρ s r S F=>wpAny_Constant_int (a0e (x:=AV.int i) S ⟨_,rfl⟩ h)
theorem h1b{x:PySem.Str}{k pos}{Q:AV→Sig→Prop}(h:Q (.str x) σ):OkE G n cenv loc σ (.Constant (.str x) k pos) Q:=λA ρ s r S F=>wpAny_Constant_str (a0e (x:=AV.str x) S ⟨_,rfl⟩ h)
theorem g1r{b:Bool}{k pos}{Q:AV→Sig→Prop}(h:Q (.bool b) σ):OkE G n cenv loc σ (.Constant (.bool b) k pos) Q:=λA ρ s r S F=>wpAny_Constant_bool (a0e (tk:=s.toks) (x:=AV.bool b) S rfl h)
theorem g1z{k pos}{Q:AV→Sig→Prop}(h:Q .none σ):OkE G n cenv loc σ (.Constant .none k pos) Q:=λA ρ s r S F=>wpAny_Constant_none (a0e (tk:=s.toks) (x:=AV.none) S rfl h)
theorem Op2.go{f:Value→Value→Sem α}{R:Rl α β}{x y:AV}{Q:β→Sig→Prop}(h:Op2 G n σ R f x y Q){A:Around}{ρ:List Addr}{s:Shared}{a b:Value}(r:e0t n A)(S:G.St ρ σ s)(va:V ρ s.heap x a)(vb:V ρ s.heap y b):
  wpAny G.M A (f a b) (Post G ρ s R Q) noE s:=h A ρ s a b r S va vb
theorem l1c{l op r pos}{Q:AV→Sig→Prop}(h:OkE G n cenv loc σ l λx σ₁=>OkE G n cenv loc σ₁ r λy σ₂=>l0d G n op x y σ₂ Q):OkE G n cenv loc σ (.BinOp l op r pos) Q:=λA ρ s rm S F=>
 wpAny_BinOp (h.then rm S F λa x ρ₁ σ₁ s₁ S₁ N₁ F₁ va q=>q.then rm S₁ F₁ λb y ρ₂ σ₂ s₂ S₂ N₂ F₂ vb q₂=>
  c0p (N₁.trans N₂) (q₂ A ρ₂ s₂ a b rm S₂ (V.mono N₂.pre N₂.tk _ _ va) vb))
theorem l1e{l op r pos}{Q:AV→Sig→Prop}(h:OkE G n cenv loc σ l λx σ₁=>OkE G n cenv loc σ₁ r λy σ₂=>b0e G n op x y σ₂ Q)
  (hm:autoParam (behindInMarks op r=false) aU):OkE G n cenv loc σ (.Compare l [op] [r] pos) Q:=λA ρ s rm S F=>
 wpAny_Compare1 (h.then rm S F λa x ρ₁ σ₁ s₁ S₁ N₁ F₁ va q=>q.then rm S₁ F₁ λb y ρ₂ σ₂ s₂ S₂ N₂ F₂ vb q₂=>
  c0p (N₁.trans N₂) (q₂ A ρ₂ s₂ a b rm S₂ (V.mono N₂.pre N₂.tk _ _ va) vb)) hm
theorem o1o{t b e:Expr}{pos}{Q:AV→Sig→Prop}(h:OkB G n cenv loc σ t λc σ₁=>if c then OkE G n cenv loc σ₁ b Q else OkE G n cenv loc σ₁ e Q):OkE G n cenv loc σ (.IfExp t b e pos) Q:=λA ρ s rm S F=>
 wpAny_IfExp (h.then rm S F λa x ρ₁ σ₁ s₁ S₁ N₁ F₁ va q=>by
  cases va
  cases a
  ·exact c0p N₁ (q A ρ₁ s₁ rm S₁ F₁)
  ·exact c0p N₁ (q A ρ₁ s₁ rm S₁ F₁))
theorem n1m{op x pos}{Q:AV→Sig→Prop}(h:OkE G n cenv loc σ x λv σ₁=>Op1 G n σ₁ V (unaryOp op) v Q):OkE G n cenv loc σ (.UnaryOp op x pos) Q:=λA ρ s rm S F=>
 wpAny_UnaryOp (h.then rm S F λa x ρ₁ σ₁ s₁ S₁ N₁ F₁ va q=>c0p N₁ (q A ρ₁ s₁ a rm S₁ va))
theorem k1y{l op r pos}{Q:Bool→Sig→Prop}(h:OkE G n cenv loc σ l λx σ₁=>OkE G n cenv loc σ₁ r λy σ₂=>b0e G n op x y σ₂ λc σ₃=>j0b G n c σ₃ Q)
  (hm:autoParam (behindInMarks op r=false) aU):OkB G n cenv loc σ (.Compare l [op] [r] pos) Q:=λA ρ s rm S F=>
 wpAny_isTrue_Compare1 (h.then rm S F λa x ρ₁ σ₁ s₁ S₁ N₁ F₁ va q=>q.then rm S₁ F₁ λb y ρ₂ σ₂ s₂ S₂ N₂ F₂ vb q₂=>
  wpAny_mono (q₂ A ρ₂ s₂ a b rm S₂ (V.mono N₂.pre N₂.tk _ _ va) vb) (λc s₃ ⟨z,ρ₃,σ₃,S₃,N₃,vz,q₃⟩=>c0p ((N₁.trans N₂).trans N₃) (q₃ A ρ₃ s₃ c rm S₃ vz)) λ_ _ e=>e) hm
theorem k1z{x pos}{Q:Bool→Sig→Prop}(h:OkB G n cenv loc σ x λb σ₁=>Q (!b) σ₁):OkB G n cenv loc σ (.UnaryOp .Not x pos) Q:=λA ρ s rm S F=>
 isTrue_not (h.then rm S F λa x ρ₁ σ₁ s₁ S₁ N₁ F₁ va q=>by cases va;exact⟨!a,ρ₁,σ₁,S₁,N₁,rfl,q⟩)
theorem o1m{t b e:Expr}{pos}{Q:Bool→Sig→Prop}(h:OkB G n cenv loc σ t λc σ₁=>if c then OkB G n cenv loc σ₁ b Q else OkB G n cenv loc σ₁ e Q):OkB G n cenv loc σ (.IfExp t b e pos) Q:=λA ρ s rm S F=>
 isTrue_IfExp (h.then rm S F λa x ρ₁ σ₁ s₁ S₁ N₁ F₁ va q=>by
  cases va
  cases a
  ·exact c0p N₁ (q A ρ₁ s₁ rm S₁ F₁)
  ·exact c0p N₁ (q A ρ₁ s₁ rm S₁ F₁))
noncomputable def z0w(G:Gx)(n:Nat)(cenv:Env)(loc:Loc)(σ:Sig)(op:BoolOp)(es:List Expr)(pos:Pos)(Q:Bool→Sig→Prop):Prop:=∀whole,OkT G n cenv loc σ rId (isTrue (.BoolOp op es pos) cenv whole) Q
theorem d1e{op es pos}{Q:Bool→Sig→Prop}(h:z0w G n cenv loc σ op es pos Q):OkB G n cenv loc σ (.BoolOp op es pos) Q:=h _
theorem k1x{x rest pos}{Q:Bool→Sig→Prop}(h:OkB G n cenv loc σ x λc σ₁=>if c then z0w G n cenv loc σ₁ .And rest pos Q else Q false σ₁):z0w G n cenv loc σ .And (x::rest) pos Q:=λwhole A ρ s rm S F=>
 isTrue_and (h.then rm S F λa x ρ₁ σ₁ s₁ S₁ N₁ F₁ va q=>by
  cases va
  cases a
  ·exact⟨false,ρ₁,σ₁,S₁,N₁,rfl,q⟩
  ·exact c0p N₁ (q whole A ρ₁ s₁ rm S₁ F₁))
theorem o1n{x rest pos}{Q:Bool→Sig→Prop}(h:OkB G n cenv loc σ x λc σ₁=>if c then Q true σ₁ else z0w G n cenv loc σ₁ .Or rest pos Q):z0w G n cenv loc σ .Or (x::rest) pos Q:=λwhole A ρ s rm S F=>
 isTrue_or (h.then rm S F λa x ρ₁ σ₁ s₁ S₁ N₁ F₁ va q=>by
  cases va
  cases a
  ·exact c0p N₁ (q whole A ρ₁ s₁ rm S₁ F₁)
  ·exact⟨true,ρ₁,σ₁,S₁,N₁,rfl,q⟩)
theorem g1o{pos}{Q:Bool→Sig→Prop}(h:Q true σ):z0w G n cenv loc σ .And [] pos Q:=λwhole A ρ s rm S F=>isTrue_and_nil (a0e (tk:=s.toks) S rfl h)
theorem l1a{pos}{Q:Bool→Sig→Prop}(h:Q false σ):z0w G n cenv loc σ .Or [] pos Q:=λwhole A ρ s rm S F=>isTrue_or_nil (a0e (tk:=s.toks) S rfl h)
theorem z0s{e:Expr}{Q:Bool→Sig→Prop}(h:OkE G n cenv loc σ e λv σ₁=>j0b G n v σ₁ Q)
  (he:autoParam (PySem.isTrue e cenv (eval e cenv)=(do let v ←eval e cenv;standAt e.pos;holding [v] (truthy v))) aU):OkB G n cenv loc σ e Q:=λA ρ s rm S F=>
 isTrue_plain (h.then rm S F λa x ρ₁ σ₁ s₁ S₁ N₁ F₁ va q=>c0p N₁ (q A ρ₁ s₁ a rm S₁ va)) he
theorem h1u{b:Bool}{Q:Bool→Sig→Prop}(h:Q b σ):j0b G n (.bool b) σ Q:=λA ρ s a rm S va=>by
 subst va
 exact wpAny_truthy_bool (a0e (tk:=s.toks) S rfl h)
noncomputable def o0q(G:Gx)(n:Nat)(cenv:Env)(loc:Loc)(σ:Sig)(es:List Expr)(Q:List AV→Sig→Prop):Prop:=∀pos,OkT G n cenv loc σ VL (spliced (backTo pos (starEach es cenv))) Q
theorem v0y{Q:List AV→Sig→Prop}(h:Q [] σ):o0q G n cenv loc σ [] Q:=λpos A ρ s rm S F=>wpAny_pure (a0e (tk:=s.toks) (x:=([]:List AV)) S rfl h)
theorem v0x{e:Expr}{rest:List Expr}{Q:List AV→Sig→Prop}(h:OkE G n cenv loc σ e λx σ₁=>o0q G n cenv loc σ₁ rest λxs σ₂=>Q (x::xs) σ₂)
  (he:autoParam (starEach (e::rest) cenv=(false,eval e cenv)::starEach rest cenv) aR):o0q G n cenv loc σ (e::rest) Q:=λpos A ρ s rm S F=>by
 rw[he]
 show wpAny _ _ (do let v ←eval e cenv;let here ←pure [v];return here++(←holding here (spliced (backTo pos (starEach rest cenv))))) _ _ _
 refine wpAny_bind (h.then rm S F λa x ρ₁ σ₁ s₁ S₁ N₁ F₁ va q=>wpAny_bind (wpAny_pure (wpAny_bind (wpAny_holding ((q pos).then rm S₁ F₁ λvs xs ρ₂ σ₂ s₂ S₂ N₂ F₂ vl q₂=>wpAny_pure ?_)))))
 exact⟨x::xs,ρ₂,σ₂,S₂,N₁.trans N₂,⟨a,vs,rfl,V.mono N₂.pre N₂.tk _ _ va,vl⟩,q₂⟩
theorem m0w(h:Heap)(vs:List Value):IsTup (h.push {cls:=.type "tuple",data:=.seq vs.toArray}) h.objs.size vs.toArray:=⟨_,Heap.get?_push_size _ rfl,rfl,0,rfl⟩
theorem e1s(h:Heap)(vs:List Value):(h.push {cls:=.type "list",data:=.seq vs.toArray}).IsList h.objs.size vs.toArray:=⟨_,Heap.get?_push_size _ rfl,rfl,0,rfl⟩
theorem h1c{es:List Expr}{k:Nat}{pos:Pos}{Q:AV→Sig→Prop}(h:o0q G n cenv loc σ es λxs σ₁=>xs.length≤1000∧Q (.tup xs) σ₁):OkE G n cenv loc σ (.Tuple es k pos) Q:=λA ρ s rm S F=>by
 refine Tuple_ ((h pos).then rm S F λvs xs ρ₁ σ₁ s₁ S₁ N₁ F₁ vl q=>c0p N₁ ?_)
 have hl:=VL.length vl
 refine wpAny_newObj_type (e0b S₁ (λb o e=>Heap.get?_push_of_some _ e) rfl rfl (x:=AV.tup xs) ⟨_,_,rfl,m0w _ vs,?_,by rw[sizeLine_eq];omega⟩ q.2) (by show vs.toArray.size≤sizeLine;rw[List.size_toArray,sizeLine_eq];omega)
 exact VL.mono List.prefix_rfl (TK.ofKeeps λb o e=>Heap.get?_push_of_some _ e) _ _ (by simpa using vl)
theorem k0x{own:Addr→Prop}{ρ:List Addr}{s s':Shared}(k: ∀b o,s.heap.get? b=some o→s'.heap.get? b=some o){a:Addr}(ha:s.heap.get? a=none):Nxt own ρ s (ρ++[a]) s':=
 ⟨List.prefix_append _ _,λx hx=>by rcases List.mem_append.mp hx with h|h<;>simp_all,λb o e _ _=>k b o e,TK.ofKeeps k,λb o e=>⟨o,k b o e⟩⟩
theorem t0x{ρ:List Addr}{s:Shared}{σ:Sig}{o:AObj}{ob:Obj}{tk:Nat}{Q:AV→Sig→Prop}(S:G.St ρ σ s)(r:Rep G.prog G.w (ρ++[s.heap.objs.size]) (s.heap.push ob) s.heap.objs.size o)(q:Q (.ref σ.length) (σ++[o])):
  Post G ρ s V Q (.ref s.heap.objs.size) {s with heap:=s.heap.push ob,toks:=tk}:=by
 have k: ∀b oo,s.heap.get? b=some oo→(s.heap.push ob).get? b=some oo:=λb oo e=>Heap.get?_push_of_some _ e
 refine⟨.ref σ.length,ρ++[s.heap.objs.size],σ++[o],S.new k (b0h _) r rfl rfl,k0x k (b0h _),⟨_,by rw[←S.len];exact gn0,rfl⟩,q⟩
theorem c1a{es:List Expr}{pos:Pos}{Q:AV→Sig→Prop}(h:o0q G n cenv loc σ es λxs σ₁=>xs.length≤1000∧Q (.ref σ₁.length) (σ₁++[.list xs])):OkE G n cenv loc σ (.List es pos) Q:=λA ρ s rm S F=>by
 refine List_ ((h pos).then rm S F λvs xs ρ₁ σ₁ s₁ S₁ N₁ F₁ vl q=>c0p N₁ ?_)
 have hl:=VL.length vl
 refine wpAny_newObj_type (t0x (tk:=s₁.toks) (o:=.list xs) S₁ ⟨vs,0,IsL.new _ _,?_,by rw[sizeLine_eq];omega⟩ q.2) (by show vs.toArray.size≤sizeLine;rw[List.size_toArray,sizeLine_eq];omega)
 exact VL.mono (List.prefix_append _ _) (TK.ofKeeps λb o e=>Heap.get?_push_of_some _ e) _ _ vl
theorem y0z{ρ:List Addr}{h:Heap}{a:Addr}{o:AObj}(ho:o=.dictI []∨o=.dictS []∨o=.dictT [])(hx:h.get? a=some {cls:=.type "dict",data:=.dict #[]}):Rep G.prog G.w ρ h a o:=by
 rcases ho with rfl|rfl|rfl
 ·exact⟨[],⟨_,#[],0,hx,⟨rfl,rfl,rfl⟩,rfl,λe he=>by simp at he,.nil,by exact List.nodup_nil⟩,rfl,rfl⟩
 ·exact⟨[],⟨_,#[],0,hx,⟨rfl,rfl,rfl⟩,rfl,λe he=>by simp at he,.nil,by exact List.nodup_nil⟩,rfl,rfl⟩
 ·exact⟨[],⟨_,#[],0,hx,⟨rfl,rfl,rfl⟩,rfl,rfl,λe he=>by simp at he,by exact List.nodup_nil⟩,rfl,rfl⟩
theorem s0k{pos:Pos}{o:AObj}{Q:AV→Sig→Prop}(ho:o=.dictI []∨o=.dictS []∨o=.dictT [])(h:Q (.ref σ.length) (σ++[o])):OkE G n cenv loc σ (.Dict [] [] pos) Q:=λA ρ s rm S F=>
 wpAny_Dict_empty (t0x (tk:=s.toks) S (y0z ho (Heap.get?_push_size _ rfl)) h)
end
section
variable {G:Gx} {n:Nat} {cenv:Env} {loc:Loc} {σ:Sig} {α β γ δ:Type}
theorem d1o{a b:Int}{Q:AV→Sig→Prop}(h:Q (.int (a+b)) σ):l0d G n .Add (.int a) (.int b) σ Q:=λA ρ s x y r S ⟨t,ex⟩ ⟨u,ey⟩=>by
 subst ex ey;exact add_int (a0e (x:=AV.int (a+b)) S ⟨_,rfl⟩ h)
theorem d1p{a b:Int}{Q:AV→Sig→Prop}(h:Q (.int (a - b)) σ):l0d G n .Sub (.int a) (.int b) σ Q:=λA ρ s x y r S ⟨t,ex⟩ ⟨u,ey⟩=>by
 subst ex ey;exact sub_int (a0e (x:=AV.int (a - b)) S ⟨_,rfl⟩ h)
theorem r0d{a b:Int}{Q:AV→Sig→Prop}(hm:IntMulOk a b)(h:Q (.int (a*b)) σ):l0d G n .Mult (.int a) (.int b) σ Q:=λA ρ s x y r S ⟨t,ex⟩ ⟨u,ey⟩=>by
 subst ex ey;exact PyProof.Rows.mul_int (a0e (x:=AV.int (a*b)) S ⟨_,rfl⟩ h) hm
theorem n0n{a b:Int}{Q:AV→Sig→Prop}(hb:0<b)(hl:b<2^1000)(h:Q (.int (a / b)) σ):l0d G n .FloorDiv (.int a) (.int b) σ Q:=λA ρ s x y r S ⟨t,ex⟩ ⟨u,ey⟩=>by
 subst ex ey
 refine floordiv_int (by omega) (a0e (x:=AV.int (a / b)) S ⟨_,by rw[Int.fdiv_eq_ediv_of_nonneg _ (by omega)]⟩ h) (.inl (PyProof.noPylong_of_log2 ?_))
 have h1:b.natAbs<2^1000:=by omega
 have h2:b.natAbs≠0:=by omega
 exact Nat.lt_trans ((Nat.log2_lt h2).mpr h1) (by decide)
theorem j0e{a b:Int}{Q:AV→Sig→Prop}(hb:0<b)(h:Q (.int (a%b)) σ):l0d G n .Mod (.int a) (.int b) σ Q:=λA ρ s x y r S ⟨t,ex⟩ ⟨u,ey⟩=>by
 subst ex ey
 exact mod_int' (by omega) (a0e (x:=AV.int (a%b)) S ⟨_,by rw[Int.fmod_eq_emod_of_nonneg _ (by omega)]⟩ h)
theorem w0l{a b:Int}{Q:AV→Sig→Prop}(h0:0≤b)(h1:b≤1000000)(ha:a.natAbs<2^64)(h:Q (.int (a^b.toNat)) σ):l0d G n .Pow (.int a) (.int b) σ Q:=λA ρ s x y r S ⟨t,ex⟩ ⟨u,ey⟩=>by
 subst ex ey;exact pow_int_small h0 h1 ha (a0e (x:=AV.int (a^b.toNat)) S ⟨_,rfl⟩ h)
theorem k1f{a:Int}{Q:AV→Sig→Prop}(h:Q (.int (-a)) σ):Op1 G n σ V (unaryOp .USub) (.int a) Q:=λA ρ s x r S ⟨t,ex⟩=>by
 subst ex;exact PyProof.Rows.neg_int (a0e (x:=AV.int (-a)) S ⟨_,rfl⟩ h)
theorem i1n{a b:Int}{Q:AV→Sig→Prop}(h:Q (.bool (decide (a<b))) σ):b0e G n .Lt (.int a) (.int b) σ Q:=λA ρ s x y r S ⟨t,ex⟩ ⟨u,ey⟩=>by
 subst ex ey;exact lt_int (a0e (tk:=s.toks) (x:=AV.bool _) S rfl h)
theorem i1l{a b:Int}{Q:AV→Sig→Prop}(h:Q (.bool (decide (b<a))) σ):b0e G n .Gt (.int a) (.int b) σ Q:=λA ρ s x y r S ⟨t,ex⟩ ⟨u,ey⟩=>by
 subst ex ey;exact gt_int (a0e (tk:=s.toks) (x:=AV.bool _) S rfl h)
theorem i1k{a b:Int}{Q:AV→Sig→Prop}(h:Q (.bool (decide (b≤a))) σ):b0e G n .GtE (.int a) (.int b) σ Q:=λA ρ s x y r S ⟨t,ex⟩ ⟨u,ey⟩=>by
 subst ex ey;exact PyProof.Rows.ge_int (a0e (tk:=s.toks) (x:=AV.bool _) S rfl h)
theorem i1m{a b:Int}{Q:AV→Sig→Prop}(h:Q (.bool (decide (a≤b))) σ):b0e G n .LtE (.int a) (.int b) σ Q:=λA ρ s x y r S ⟨t,ex⟩ ⟨u,ey⟩=>by
 subst ex ey;exact PyProof.Rows.le_int (a0e (tk:=s.toks) (x:=AV.bool _) S rfl h)
theorem d1u{a b:Int}{Q:AV→Sig→Prop}(h:Q (.bool (a==b)) σ):b0e G n .Eq (.int a) (.int b) σ Q:=λA ρ s x y r S ⟨t,ex⟩ ⟨u,ey⟩=>by
 subst ex ey;exact PyProof.Rows.eq_int (a0e (tk:=s.toks) (x:=AV.bool _) S rfl h)
theorem d1x{a b:Int}{Q:AV→Sig→Prop}(h:Q (.bool (a !=b)) σ):b0e G n .NotEq (.int a) (.int b) σ Q:=λA ρ s x y r S ⟨t,ex⟩ ⟨u,ey⟩=>by
 subst ex ey;exact PyProof.Rows.ne_int (a0e (tk:=s.toks) (x:=AV.bool _) S rfl h)
theorem d1v{a b:PySem.Str}{Q:AV→Sig→Prop}(h:Q (.bool (a==b)) σ):b0e G n .Eq (.str a) (.str b) σ Q:=λA ρ s x y r S ⟨t,ex⟩ ⟨u,ey⟩=>by
 subst ex ey;exact PyProof.Rows.eq_str (a0e (tk:=s.toks) (x:=AV.bool _) S rfl h)
theorem d1y{a b:PySem.Str}{Q:AV→Sig→Prop}(h:Q (.bool (a !=b)) σ):b0e G n .NotEq (.str a) (.str b) σ Q:=λA ρ s x y r S ⟨t,ex⟩ ⟨u,ey⟩=>by
 subst ex ey;exact PyProof.Rows.ne_str (a0e (tk:=s.toks) (x:=AV.bool _) S rfl h)
noncomputable def AV.isNone:AV→Bool
 | .none=>true
 |_=>false
theorem V.isNone{ρ:List Addr}{h:Heap}{x:AV}{v:Value}(e:V ρ h x v)(hg: ∀u,x≠ .glob u):(v== .none)=x.isNone:=by
 cases x with
 |none=>exact(congrArg (· ==Value.none) e).trans rfl
 |bool b=>exact(show _=_ from e)▸rfl
 |int b=>exact Exists.elim e λ_ e=>e▸rfl
 |str b=>exact Exists.elim e λ_ e=>e▸rfl
 |tup b=>exact c0e e λ_ _ e _=>e▸rfl
 |ref b=>exact a0a e λ_ _ e=>e▸rfl
 |glob u=>exact absurd rfl (hg u)
 |rng a b c=>exact x0b e λ_ _ _ _ e _=>e▸rfl
 |vview b=>exact c0e e λ_ _ e _=>e▸rfl
theorem u0v{x:AV}{Q:AV→Sig→Prop}(hx: ∀u,x≠ .glob u)(h:Q (.bool x.isNone) σ):b0e G n .Is x .none σ Q:=λA ρ s a b r S va vb=>by
 subst vb;exact PyProof.Rows.is_none_gen (a0e (tk:=s.toks) (x:=AV.bool _) S (by rw[V.isNone va hx];rfl) h)
theorem i0b{x:AV}{Q:AV→Sig→Prop}(hx: ∀u,x≠ .glob u)(h:Q (.bool (!x.isNone)) σ):b0e G n .IsNot x .none σ Q:=λA ρ s a b r S va vb=>by
 subst vb;exact PyProof.Rows.isnot_none_gen (a0e (tk:=s.toks) (x:=AV.bool _) S (by rw[V.isNone va hx];rfl) h)
mutual
noncomputable def AV.py:AV→PyData
 | .none=>.none
 | .bool b=>.bool b
 | .int i=>.int i
 | .str x=>.str x
 | .tup l=>.tuple (AV.pyL l)
 | .ref _=>.none
 | .glob _=>.none
 | .rng _ _ _=>.none
 | .vview _=>.none
noncomputable def AV.pyL:List AV→List PyData
 |[]=>[]
 |x::l=>x.py::AV.pyL l
end
mutual
noncomputable def AV.dat:Nat→AV→Prop
 |_,.none=>True
 |_,.bool _=>True
 |_,.int _=>True
 |_,.str x=>PyData.strOk x=true
 |n+1,.tup l=>AV.datL n l
 |_,_=>False
noncomputable def AV.datL:Nat→List AV→Prop
 |_,[]=>True
 |n,x::l=>AV.dat n x∧AV.datL n l
end
theorem l1w{i:Int}:(AV.int i).py=.int i:=rfl
theorem l1x{i:PySem.Str}:(AV.str i).py=.str i:=rfl
theorem l1y{l:List AV}:(AV.tup l).py=.tuple (AV.pyL l):=rfl
theorem g1h:AV.pyL []=[]:=rfl
theorem g1g{x:AV}{l:List AV}:AV.pyL (x::l)=x.py::AV.pyL l:=rfl
theorem k1q{n:Nat}{x:AV}{l:List AV}:AV.datL n (x::l)=(AV.dat n x∧AV.datL n l):=rfl
mutual
theorem V.reads{ρ:List Addr}{h:Heap}: ∀(n:Nat) (x:AV) (v:Value),V ρ h x v→AV.dat n x→∃as,Reads h v x.py as
 |_,.none,_,e,_=>(show _=_ from e)▸⟨_,Reads.none⟩
 |_,.bool b,_,e,_=>(show _=_ from e)▸⟨_,Reads.bool b⟩
 |_,.int i,_,e,_=>Exists.elim e λt e=>e▸⟨_,Reads.int i t⟩
 |_,.str i,_,e,_=>Exists.elim e λt e=>e▸⟨_,Reads.str i t⟩
 |n,.tup l,_,e,d=>by
  cases n with
  |zero=>exact False.elim d
  |succ n=>exact p0i e λa vs e q r _=>a0q q λo ho hc q=>q.elim λm hd=>(VL.reads n l _ r d).elim λas q=>e▸⟨_,Reads.tuple ho hc hd q⟩
 |n,.ref _,_,_,d=>by cases n<;>exact False.elim d
 |n,.glob _,_,_,d=>by cases n<;>exact False.elim d
 |n,.rng _ _ _,_,_,d=>by cases n<;>exact False.elim d
 |n,.vview _,_,_,d=>by cases n<;>exact False.elim d
theorem VL.reads{ρ:List Addr}{h:Heap}: ∀(n:Nat) (l:List AV) (vs:List Value),VL ρ h l vs→AV.datL n l→∃as,ReadsAll h vs (AV.pyL l) as
 |_,[],_,e,_=>(show _=_ from e)▸⟨_,ReadsAll.nil⟩
 |n,x::l,_,e,d=>b0j e λv r e a b=>(V.reads n x v a d.1).elim λas p=>(VL.reads n l r b d.2).elim λbs q=>e▸⟨_,ReadsAll.cons p q⟩
end
mutual
theorem AV.lay: ∀(n:Nat) (x:AV),AV.dat n x→x.py.canLay0=true∧x.py.depth≤n
 |n,.none,_=>⟨rfl,Nat.zero_le _⟩
 |n,.bool b,_=>⟨rfl,Nat.zero_le _⟩
 |n,.int i,_=>⟨rfl,Nat.zero_le _⟩
 |n,.str i,d=>⟨by cases n<;>exact d,Nat.zero_le _⟩
 |n,.tup l,d=>by
  cases n with
  |zero=>exact False.elim d
  |succ n=>exact⟨(AV.layL n l d).1,Nat.succ_le_succ (AV.layL n l d).2⟩
 |n,.ref _,d=>by cases n<;>exact False.elim d
 |n,.glob _,d=>by cases n<;>exact False.elim d
 |n,.rng _ _ _,d=>by cases n<;>exact False.elim d
 |n,.vview _,d=>by cases n<;>exact False.elim d
theorem AV.layL: ∀(n:Nat) (l:List AV),AV.datL n l→PyData.canLayAll0 (AV.pyL l)=true∧PyData.depthAll (AV.pyL l)≤n
 |n,[],_=>by simp[g1h,g1g,PyData.canLayAll0,PyData.depthAll]
 |n,x::l,d=>by
  simp only[k1q]at d
  refine a0m (AV.lay n x d.1) λa b=>?_
  refine a0m (AV.layL n l d.2) λa' b'=>?_
  simp only[g1h,g1g,PyData.canLayAll0,PyData.depthAll,a,a',Bool.and_self,true_and]
  omega
end
noncomputable def AV.eqb(x y:AV):Bool:=PyData.eqv x.py y.py
noncomputable def AV.eqbL(x y:List AV):Bool:=PyData.eqvAll (AV.pyL x) (AV.pyL y)
theorem d1t{x y:AV}{Q:AV→Sig→Prop}(m:Nat)(hm:m≤90)(dx:AV.dat m x)(k:Nat)(dy:AV.dat k y)(h:Q (.bool (x.eqb y)) σ):b0e G n .Eq x y σ Q:=λA ρ s a b r S va vb=>by
 refine a0k (V.reads m x a va dx) λas ra=>?_
 refine a0k (V.reads k y b vb dy) λbs rb=>?_
 have h1:=r.line
 have h2:=(AV.lay m x dx).2
 exact SeqAt.compareEq_reads ra rb (AV.lay m x dx).1 (AV.lay k y dy).1 (by omega) (a0e (tk:=s.toks) (x:=AV.bool _) S rfl h)
theorem w0q{x y:AV}{Q:AV→Sig→Prop}(m:Nat)(hm:m≤90)(dx:AV.dat m x)(k:Nat)(dy:AV.dat k y)(h:Q (.bool (!x.eqb y)) σ):b0e G n .NotEq x y σ Q:=λA ρ s a b r S va vb=>by
 refine a0k (V.reads m x a va dx) λas ra=>?_
 refine a0k (V.reads k y b vb dy) λbs rb=>?_
 have h1:=r.line
 have h2:=(AV.lay m x dx).2
 exact SeqAt.compareNe_reads ra rb (AV.lay m x dx).1 (AV.lay k y dy).1 (by omega) (a0e (tk:=s.toks) (x:=AV.bool _) S rfl h)
theorem St.list(S:G.St ρ σ s){i:Nat}{l:List AV}(e:σ[i]?=some (.list l)): ∃a vs m,ρ[i]?=some a∧IsL s.heap a vs.toArray m∧VL ρ s.heap l vs∧l.length≤sizeLine:=by
 refine a0a (S.at e) λa ea z0=>?_;(refine x0a z0 λvs m r=>?_)
 exact⟨a,vs,m,ea,r⟩
theorem i0p(S:G.St ρ σ s){i:Nat}{l:List AV}(e:σ[i]?=some (.list l)){v:Value}(hv:V ρ s.heap (.ref i) v){m:Nat}(d:AV.datL m l): ∃as,Reads s.heap v (.list (AV.pyL l)) as:=by
 refine d0l (St.list S e) λa vs k ea ho hl _=>?_
 refine V.ref_el hv ea ?_
 refine a0k (VL.reads m l vs hl d) λas q=>?_
 exact⟨_,Reads.list ho rfl rfl (by simpa using q)⟩
theorem r0f{i j:Nat}{l l':List AV}{Q:AV→Sig→Prop}(m:Nat)(hm:m≤80)(k:Nat)(ei:σ[i]?=some (.list l))(ej:σ[j]?=some (.list l'))(dx:AV.datL m l)(dy:AV.datL k l')(h:Q (.bool (AV.eqbL l l')) σ):b0e G n .Eq (.ref i) (.ref j) σ Q:=λA ρ s a b r S va vb=>by
 refine a0k (i0p S ei va dx) λas ra=>?_
 refine a0k (i0p S ej vb dy) λbs rb=>?_
 have h1:=r.line
 have h2:=(AV.layL m l dx)
 have h3:=(AV.layL k l' dy)
 refine SeqAt.compareEq_reads ra rb (by simp only[PyData.canLay0];exact h2.1) (by simp only[PyData.canLay0];exact h3.1) ?_ (a0e (tk:=s.toks) (x:=AV.bool (AV.eqbL l l')) S ?_ h)
 ·simp only[PyData.depth];omega
 ·simp only[PyData.eqv];rfl
theorem w0r{i j:Nat}{l l':List AV}{Q:AV→Sig→Prop}(m:Nat)(hm:m≤80)(k:Nat)(ei:σ[i]?=some (.list l))(ej:σ[j]?=some (.list l'))(dx:AV.datL m l)(dy:AV.datL k l')(h:Q (.bool (!AV.eqbL l l')) σ):b0e G n .NotEq (.ref i) (.ref j) σ Q:=λA ρ s a b r S va vb=>by
 refine a0k (i0p S ei va dx) λas ra=>?_
 refine a0k (i0p S ej vb dy) λbs rb=>?_
 have h1:=r.line
 have h2:=(AV.layL m l dx)
 have h3:=(AV.layL k l' dy)
 refine SeqAt.compareNe_reads ra rb (by simp only[PyData.canLay0];exact h2.1) (by simp only[PyData.canLay0];exact h3.1) ?_ (a0e (tk:=s.toks) (x:=AV.bool (!AV.eqbL l l')) S ?_ h)
 ·simp only[PyData.depth];omega
 ·simp only[PyData.eqv];rfl
theorem f1k{own:Addr→Prop}{ρ:List Addr}{s s':Shared}{i:Nat}{a:Addr}(S:G.St ρ σ s)(ea:ρ[i]?=some a)(k:Heap.SameBut a s.heap s'.heap)(l: ∃o,s'.heap.get? a=some o):Nxt own ρ s ρ s':=by
 have ha:a∈ρ:=List.mem_of_getElem? ea
 have kk: ∀b ob,b≠a→s.heap.get? b=some ob→s'.heap.get? b=some ob:=λb ob hb e=>(k.2 b hb).trans e
 refine⟨List.prefix_rfl,λx h=>.inl h,λb o e h1 _=>kk b o (λx=>h1 (x▸ha)) e,TK.but (S.nontup ha) kk,λb o e=>?_⟩
 by_cases h:b=a
 ·clear ea k ha kk;subst h;exact l
 ·exact⟨o,kk b o h e⟩
theorem d0n{R:Rl α β}{ρ:List Addr}{s s':Shared}{i:Nat}{a:Addr}{o:AObj}{v:α}{x:β}{Q:β→Sig→Prop}(S:G.St ρ σ s)(ea:ρ[i]?=some a)(k:Heap.SameBut a s.heap s'.heap)(r:TK s.heap s'.heap→Rep G.prog G.w ρ s'.heap a o)
  (hg:s'.gens=s.gens) (ho:s'.os=s.os) (rv:R ρ s'.heap x v) (q:Q x (σ.set i o)):Post G ρ s R Q v s':=
 by
 have S':=S.upd ea (λb ob hb e=>(k.2 b hb).trans e) r hg ho
 exact⟨x,ρ,σ.set i o,S',f1k S ea k (S'.alive (List.mem_of_getElem? ea)),rv,q⟩
abbrev l0e (G:Gx) (n:Nat) (value slice:Expr) (x y:AV) (σ:Sig) (Q:AV→Sig→Prop):Prop:=Op2 G n σ V (subscriptTail value slice) x y Q
theorem l1g{value slice pos}{Q:AV→Sig→Prop}(h:OkE G n cenv loc σ value λx σ₁=>OkE G n cenv loc σ₁ slice λy σ₂=>l0e G n value slice x y σ₂ Q):OkE G n cenv loc σ (.Subscript value slice pos) Q:=λA ρ s rm S F=>
 Subscript_ (h.then rm S F λa x ρ₁ σ₁ s₁ S₁ N₁ F₁ va q=>q.then rm S₁ F₁ λb y ρ₂ σ₂ s₂ S₂ N₂ F₂ vb q₂=>
  c0p (N₁.trans N₂) (q₂ A ρ₂ s₂ a b rm S₂ (V.mono N₂.pre N₂.tk _ _ va) vb))
theorem IsL.typeIs{s:Shared}{a:Addr}{vs:Array Value}{m:Nat}(h:IsL s.heap a vs m):s.TypeIs (.ref a) "list":=⟨_,h,rfl⟩
theorem b0r{value slice:Expr}{i:Nat}{l:List AV}{k:Int}{x:AV}{Q:AV→Sig→Prop}(ei:σ[i]?=some (.list l))(h0:0≤k)(hx:l[k.toNat]?=some x)(h:Q x σ)
  (hs:autoParam (∀a u,subscripted slice false (.ref a) (.int k u)=operate [.ref a,.int k u] (getItem (.ref a) (.int k u))) aU):l0e G n value slice (.ref i) (.int k) σ Q:=λA ρ s a b r S va vb=>by
 refine d0l (St.list S ei) λad vs m ea ho hl z=>?_
 refine V.ref_el va ea ?_
 refine V.int_el vb λu=>?_
 refine a0a (VL.get hl _ _ hx) λv ev hv=>?_
 have hk:k.toNat<l.length:=(List.getElem?_eq_some_iff.mp hx).1
 rw[sizeLine_eq]at z
 refine tail_any (IsL.typeIs ho) slot_list_getitem.lookup (wpAny_getItem_list ho.isList h0 (by omega) (by simpa using ev) ?_) (hs _ _)
 exact a0e (tk:=s.toks) S hv h
theorem s0e{value slice:Expr}{l:List AV}{k:Int}{x:AV}{Q:AV→Sig→Prop}(h0:0≤k)(hx:l[k.toNat]?=some x)(h:Q x σ)
  (hs:autoParam (∀a u,subscripted slice false (.ref a) (.int k u)=operate [.ref a,.int k u] (getItem (.ref a) (.int k u))) aU):l0e G n value slice (.tup l) (.int k) σ Q:=λA ρ s a b r S va vb=>by
 refine p0i va λad vs z0 ho hl z=>?_;subst z0
 refine V.int_el vb λu=>?_
 refine a0a (VL.get hl _ _ hx) λv ev hv=>?_
 have hk:k.toNat<l.length:=(List.getElem?_eq_some_iff.mp hx).1
 have hlen:=VL.length hl
 rw[sizeLine_eq]at z
 refine item_tupleT (l:=vs.toList) (by simpa using ho) (by omega) (by omega) (j:=k.toNat) ?_ ev (a0e (tk:=s.toks) S hv h) (hs _ _)
 unfold seqIndex?
 simp only[show¬k<0 by omega,if_false]
 rw[if_pos (by have e1:vs.toList.length=vs.size:=(by simp);rw[e1]at hlen⊢;simp;omega)]
end
section
variable {G:Gx} {n:Nat} {cenv:Env} {loc:Loc} {σ:Sig} {α β γ δ:Type} {K:Frag}
theorem y0h{o:Obj}{es:Array DictEntry}{ep:Nat}{name:PySem.Str}(hd:o.data=.dict es ep)(hk:StrKeys es):lookIn name o=some (nsFind es name):=by
 unfold lookIn nsFind findBy
 rw[hd]
 dsimp only
 rw[←Array.find?_toList]
 cases e:es.toList.find? (·.key.isStr name)with
 |some en=>rfl
 |none=>
  dsimp only
  rw[if_neg]
  ·rfl
  ·simp only[List.any_eq_true,not_exists,not_and]
   intro x hx
   refine x0a (hk x (Array.mem_toList_iff.mp hx)) λm t q=>?_
   simp[DictEntry.refKey,q]
theorem x0z(S:G.St ρ σ s){i d:Nat}{C:Addr}{m:List (PySem.Str×AV)}(hi:σ[i]?=some (.inst C d))(hd:σ[d]?=some (.ns m)): ∃x dx od,ρ[i]?=some x∧ρ[d]?=some dx∧W.InstAt s.heap x (instObj C dx) C (some od)∧
  s.heap.get? dx=some od∧(∃f,s.heap.Ns dx f∧s.heap.DictLe dx m.length∧(∀name,lookIn name od=some (f name))∧∀y,match m.lookup y with|some z=>∃v,f y=some v∧V ρ s.heap z v|none=>f y=none):=by
 refine a0a (S.at hi) λx ex z0=>?_;(refine a0a z0 λdx edx ho=>?_)
 refine a0a (S.at hd) λdx' edx' z0=>?_;obtain⟨f,⟨hns,hz⟩,hq⟩:=z0
 rw[edx]at edx';have edx':=edx';cases edx'
 refine d0l hns λo es ep hod hdat hk hf=>?_
 refine⟨x,dx,o,ex,edx,⟨ho,rfl,rfl,hod⟩,hod,f,⟨o,es,ep,hod,hdat,hk,hf⟩,hz,λname=>?_,hq⟩
 rw[y0h hdat hk,hf]
theorem p0j{C:Addr}{o:Obj}{name:PySem.Str}{v:Value}(hh:hasDictIn K C=true)(ha:findIn K (.ref C) name=some none)(hl:lookIn name o=some (some v)):findObj K C (some o) name=some (.value v):=by
 unfold hasDictIn at hh
 refine a0a (any_some hh) λcd hc hd=>?_
 unfold findObj
 rw[hc,Option.bind_some,ha,Option.bind_some]
 have e:W.ownOf cd (some o) name=some (some v):=(if_pos hd).trans hl
 show(W.ownOf cd (some o) name).bind _=_
 rw[e];rfl
noncomputable def AV.plain:AV→Bool
 | .glob _=>false
 |_=>true
theorem V.handed{ρ:List Addr}{h:Heap}{x:AV}{v:Value}(e:V ρ h x v)(hg:x.plain=true):handedIn v=true:=by
 cases x with
 |none=>exact(show _=_ from e)▸rfl
 |bool b=>exact(show _=_ from e)▸rfl
 |int b=>exact Exists.elim e λ_ e=>e▸rfl
 |str b=>exact Exists.elim e λ_ e=>e▸rfl
 |tup b=>exact c0e e λ_ _ e _=>e▸rfl
 |ref b=>exact a0a e λ_ _ e=>e▸rfl
 |glob u=>(exact a0t hg)
 |rng a b c=>exact x0b e λ_ _ _ _ e _=>e▸rfl
 |vview b=>exact c0e e λ_ _ e _=>e▸rfl
abbrev d0b (G:Gx) (n:Nat) (x:AV) (name:PySem.Str) (σ:Sig) (Q:AV→Sig→Prop):Prop:=Op1 G n σ V (λo=>getAttr o name true) x Q
theorem g1q{value:Expr}{attr:PySem.Str}{pos:Pos}{Q:AV→Sig→Prop}(h:OkE G n cenv loc σ value λx σ₁=>d0b G n x attr σ₁ Q)
  (he:autoParam (eval (.Attribute value attr pos) cenv=(do
   let o ←eval value cenv
   standAt pos.atName
   let r ←holding [o] (getAttr o attr true)
   letTemporaryGo value o r
   pure r)) aU):OkE G n cenv loc σ (.Attribute value attr pos) Q:=λA ρ s rm S F=>
 Attribute_any_ (h.then rm S F λa x ρ₁ σ₁ s₁ S₁ N₁ F₁ va q=>c0p N₁ (q A ρ₁ s₁ a rm S₁ va)) he
theorem e0w(W:WOk G K){i d:Nat}{C:Addr}{name:PySem.Str}{m:List (PySem.Str×AV)}{x:AV}{Q:AV→Sig→Prop}(hi:σ[i]?=some (.inst C d))(hd:σ[d]?=some (.ns m))(hl:m.lookup name=some x)(hx:x.plain=true)
  (hg:plainGet K C name=true) (hh:hasDictIn K C=true) (ha:findIn K (.ref C) name=some none) (h:Q x σ):d0b G n (.ref i) name σ Q:=λA ρ s a rm S va=>by
 refine a1o (x0z S hi hd) λad dx od ei ed I hod z0=>?_;(refine g0k z0 λf hns hz hlook hq=>?_)
 refine V.ref_el va ei ?_
 have:=hq name
 rw[hl]at this
 refine a0a (this) λv ev hv=>?_
 exact get_value (W.kin S) I (plainGet_of hg).1 (p0j hh ha (by rw[hlook,ev])) (hv.handed hx) (a0e S hv h)
theorem f0l{α:Type}: ∀{ps:List PySem.Str} {ys:List α} {x:PySem.Str} {v:α},(ps.zip ys).lookup x=some v→∃i:Nat,ps[i]?=some x∧ys[i]?=some v
 |[],_,_,_,h=>by trivial
 |_::_,[],_,_,h=>by trivial
 |p::ps,y::ys,x,v,h=>by
  simp only[List.zip_cons_cons,List.lookup_cons]at h
  split at h
  ·rename_i e;cases h;exact⟨0,by simpa using(eq_of_beq e).symm,rfl⟩
  ·refine a0a (f0l h) λi a b=>?_
   exact⟨i+1,by simpa using a,by simpa using b⟩
theorem j0s{α:Type}: ∀{l:List (PySem.Str×α)} {x:PySem.Str} {v:α},(l.map (·.1)).Nodup→(x,v)∈l→l.lookup x=some v
 |(y,w)::l,x,v,hn,h=>by
  simp only[List.map_cons,List.nodup_cons]at hn
  rw[List.lookup_cons]
  split
  ·rename_i e
   have e:=eq_of_beq e
   subst e
   rcases List.mem_cons.mp h with h|h
   ·cases h;rfl
   ·exact absurd (List.mem_map_of_mem (f:=(·.1)) h) hn.1
  ·rename_i e
   rcases List.mem_cons.mp h with h|h
   ·cases h;simp at e
   ·exact j0s hn.2 h
theorem i0z{α:Type}{ps:List PySem.Str}{ws:List α}{x:PySem.Str}{v:α}{i:Nat}(hn:ps.Nodup)(hl:ws.length=ps.length)(hp:ps[i]?=some x)(hw:ws[i]?=some v):(ps.zip ws).reverse.lookup x=some v:=by
 refine j0s ?_ ?_
 ·rw[List.map_reverse,(List.reverse_perm _).nodup_iff,List.map_fst_zip (by omega)];exact hn
 ·rw[List.mem_reverse]
  refine List.mem_of_getElem? (i:=i) ?_
  rw[List.getElem?_zip_eq_some];exact⟨hp,hw⟩
noncomputable def f0x(G:Gx)(f:Value):Prop:=∀h:Heap,(∀b o,G.base.get? b=some o→h.get? b=some o)→∃k,(k=Keeper.frame∨k=Keeper.machine∨k=Keeper.boundFrame)∧Looks G.M h (keeperOf f) k
theorem f1a(W:WOk G K){f:Value}(hk:keepIn K f=true):f0x G f:=λh k=>keeps_K hk h (W.X.keeps k)
theorem j0n{id:String}:f0x G (.builtin id):=λh _=>⟨.machine,.inr (.inl rfl),Looks.of_pure rfl⟩
theorem m1p{id:String}:f0x G (.type id):=λh _=>⟨.machine,.inr (.inl rfl),Looks.of_pure rfl⟩
theorem z0o{f:Value}{es:List Expr}{pos:Pos}{Qm:List AV→Sig→Prop}(h:o0q G n cenv loc σ es Qm)(hstar:(backTo pos (starEach es cenv)).any (·.1)=false){A:Around}{ρ:List Addr}{s:Shared}(rm:e0t n A)(S:G.St ρ σ s)(F:FrOk G cenv loc ρ s){P:Args→Shared→Prop}
  (k: ∀vs xs ρ₁ σ₁ s₁,G.St ρ₁ σ₁ s₁→Nxt f0g ρ s ρ₁ s₁→FrOk G cenv loc ρ₁ s₁→VL ρ₁ s₁.heap xs vs→Qm xs σ₁→P ⟨vs,[]⟩ s₁):wpAny G.M A (evalArgs f true (backTo pos (starEach es cenv)) []) P noE s:=by
 have h':=h pos
 generalize backTo pos (starEach es cenv)=trees at hstar h'
 cases trees with
 |nil=>
  unfold evalArgs
  show wpAny _ _ (spliced []>>=_) _ _ _
  refine wpAny_bind (h'.then rm S F λvs xs ρ₁ σ₁ s₁ S₁ N₁ F₁ vl q=>?_)
  refine wpAny_holding ?_
  exact wpAny_bind (wpAny_pure (wpAny_bind (wpAny_pure (wpAny_pure (k vs xs ρ₁ σ₁ s₁ S₁ N₁ F₁ vl q)))))
 |cons e rest=>
  obtain⟨b,t⟩:=e
  simp only[List.any_cons,Bool.or_eq_false_iff]at hstar
  refine a0m (hstar) λz0 _=>?_;(clear hstar;subst z0)
  exact Calls.evalArgs_plain (h'.then rm S F λvs xs ρ₁ σ₁ s₁ S₁ N₁ F₁ vl q=>k vs xs ρ₁ σ₁ s₁ S₁ N₁ F₁ vl q)
theorem g1s{func:Expr}{args:List Expr}{pos:Pos}{Q:AV→Sig→Prop}(h:OkE G n cenv loc σ func λx σ₁=>∃f,x=.glob f∧f0x G f∧o0q G n cenv loc σ₁ args λxs σ₂=>a0b G n f xs σ₂ Q)
  (hstar:autoParam (∀pos,(backTo pos (starEach args cenv)).any (·.1)=false) aI)
  (he:autoParam (eval (.Call func args [] pos) cenv=(do callWith pos (←eval func cenv) [] (backTo pos (starEach args cenv)) (backToKw pos (keywordEach [] cenv)))) aU):
  OkE G n cenv loc σ (.Call func args [] pos) Q:=λA ρ s rm S F=>by
 refine Call_ (h.then rm S F λa x ρ₁ σ₁ s₁ S₁ N₁ F₁ va q=>?_) he
 obtain⟨f,rfl,hk,q⟩:=q
 cases va
 refine callWith_of (P:=λh=>∀b o,G.base.get? b=some o→h.get? b=some o) (by rw[hstar];rfl) hk (z0o q (hstar pos) rm S₁ F₁ λvs xs ρ₂ σ₂ s₂ S₂ N₂ F₂ vl q₂=>⟨S₂.base,?_⟩)
 exact c0p (N₁.trans N₂) (q₂ A ρ₂ s₂ vs rm S₂ vl)
noncomputable def d0j(G:Gx)(n:Nat)(σ:Sig)(x:AV)(name:PySem.Str)(f:Value):Prop:=∀A ρ s v pl,e0t n A→G.St ρ σ s→V ρ s.heap x v→∀Q:Value×List Value→Shared→Prop,Q (f,[v]) s→wpAny G.M A (getMethod v name pl) Q noE s
theorem g1y{o:Expr}{name:PySem.Str}{apos pos:Pos}{pl:Sem Bool}{args:List Expr}{Q:AV→Sig→Prop}
  (h:OkE G n cenv loc σ o λx σ₁=>∃f,d0j G n σ₁ x name f∧f0x G f∧o0q G n cenv loc σ₁ args λxs σ₂=>a0b G n f (x::xs) σ₂ Q)
  (hstar:autoParam (∀pos,(backTo pos (starEach args cenv)).any (·.1)=false) aI)
  (he:autoParam (eval (.Call (.Attribute o name apos) args [] pos) cenv=(do
   let ov ←eval o cenv
   standAt apos.atName
   let(f,first) ←holding [ov] (getMethod ov name pl)
   callWith pos f first (backTo pos (starEach args cenv)) (backToKw pos (keywordEach [] cenv)))) aR):
  OkE G n cenv loc σ (.Call (.Attribute o name apos) args [] pos) Q:=λA ρ s rm S F=>by
 refine methodCall_KW (pl:=pl) (h.then rm S F λa x ρ₁ σ₁ s₁ S₁ N₁ F₁ va q=>?_) he
 refine a0q (q) λf hm hk q=>?_
 refine hm A ρ₁ s₁ a pl rm S₁ va _ ?_
 refine callWith_of (P:=λh=>∀b o,G.base.get? b=some o→h.get? b=some o) (by rw[hstar];rfl) hk (z0o q (hstar pos) rm S₁ F₁ λvs xs ρ₂ σ₂ s₂ S₂ N₂ F₂ vl q₂=>⟨S₂.base,?_⟩)
 exact c0p (N₁.trans N₂) (q₂ A ρ₂ s₂ (a::vs) rm S₂ ⟨a,vs,rfl,V.mono N₂.pre N₂.tk _ _ va,vl⟩)
theorem i0r(W:WOk G K){i d:Nat}{C f:Addr}{name:PySem.Str}{m:List (PySem.Str×AV)}(hi:σ[i]?=some (.inst C d))(hd:σ[d]?=some (.ns m))(hl:m.lookup name=none)
  (hg:plainGet K C name=true) (hf:findIn K (.ref C) name=some (some (.ref f))) (ht:isFn K (.ref f)=true):d0j G n σ (.ref i) name (.ref f):=λA ρ s v pl rm S va Q q=>by
 refine a1o (x0z S hi hd) λad dx od ei ed I hod z0=>?_;(refine g0k z0 λg hns hz hlook hq=>?_)
 obtain rfl:=V.ref_eq va ei
 have:=hq name
 rw[hl]at this
 refine method_fn (W.kin S) I (plainGet_of hg).1 (plainGet_of hg).2 hf (beq_iff_eq.mp ht) ?_ q
 show(lookIn name od).map _=_
 rw[hlook,this];rfl
theorem q0c{i:Nat}{l:List AV}{name:PySem.Str}{id:String}(hi:σ[i]?=some (.list l))(slot:Slot "list" name id)(hty:typeOf (.builtin id)=pure (.type "method_descriptor")):d0j G n σ (.ref i) name (.builtin id):=λA ρ s v pl rm S va Q q=>by
 refine d0l (St.list S hi) λad vs m ea ho hl z=>?_
 obtain rfl:=V.ref_eq va ea
 exact getMethod_builtin (IsL.typeIs ho) PySem.F.plainAttrs_list slot hty (λb e=>by cases e;exact⟨_,ho,rfl⟩) q
noncomputable def v0w(G:Gx)(n:Nat)(f:Value)(xs:List AV)(σ:Sig)(Q:AV→Sig→Prop):Prop:=
 ∀A ρ s vs,e0t n A→G.St ρ σ s→VL ρ s.heap xs vs→codeAny G.M A (.call f ⟨vs,[]⟩) (λr s'=>match r with| .ok (.ret v)=>Post G ρ s V Q v s'| .ok _=>False| .error e=>noE e s') s
theorem Nxt.leave{own:Addr→Prop}{ρ ρ':List Addr}{s s₀ s':Shared}(N:Nxt own ρ s₀ ρ' s')(k: ∀b o,s.heap.get? b=some o→s₀.heap.get? b=some o)(hn: ∀b,own b→s.heap.get? b=none):Nxt f0g ρ s ρ' s':=
 ⟨N.pre,λa ha=>(N.new a ha).imp id (g0v k),λb o e h1 _=>N.keep b o (k b o e) h1 λq=>b0n ((hn b q).symm.trans e),λb o e i=>N.tk _ _ (k _ _ e) i,λb o e=>N.live b o (k b o e)⟩
@[elab_as_elim] theorem call_fin {ρ ρ':List Addr} {s s':Shared} {σ':Sig} {afl:AFlow} {fl:Flow} {x:AV} {k:Nat} {Q:AV→Sig→Prop} {T:Flow→Prop} (S:G.St ρ σ s) (S₂:G.St ρ' σ' s') (N:Nxt f0g ρ s ρ' s') (hx:match afl with| .ret y=>x=y|_=>x=.none) (hkk:σ.length≤k) (hbd:x.bd k) (hcl:Cl k (σ'.take k)) (hQ:Q x (σ'.take k)) (hf:s0l ρ' s'.heap afl fl)
  (h1: ∀v,Post G ρ s V Q v s'→T (.ret v)) (h2:Post G ρ s V Q .none s'→T .next) (h3:Post G ρ s V Q .none s'→T .brk) (h4:Post G ρ s V Q .none s'→T .cont):T fl:=by
 have fin: ∀cv,V ρ' s'.heap x cv→Post G ρ s V Q cv s':=λcv hV=>⟨x,ρ'.take k,σ'.take k,S₂.cut k hcl,N.cut (S.len▸hkk),V.cut _ _ hV hbd,hQ⟩
 cases afl with
 |ret y=>exact a0a hf λv e hv=>e▸h1 v (fin _ (hx▸hv))
 |next=>exact(show fl=.next from hf)▸h2 (fin _ (hx▸rfl))
 |brk=>exact(show fl=.brk from hf)▸h3 (fin _ (hx▸rfl))
 |cont=>exact(show fl=.cont from hf)▸h4 (fin _ (hx▸rfl))
theorem c1k(W:WOk G K){f:Addr}{xs:List AV}{Q:AV→Sig→Prop}{oc:Value}{od:Option Addr}{osl:Array (Option Value)}{name qual:PySem.Str}{params:Arguments}{body:List Stmt}{scope:Scope}{dV kV doc pm cdv ct:Value}{an:Option Addr}{ps:List PySem.Str}{ys:List AV}
  (ho:K.lookup f=some ⟨oc,od,.func (fnOf name qual params body scope dV kV doc pm an cdv ct),osl⟩) (hcd:codeIn K cdv qual=true)
  (hbind: ∀(s:Shared) ρ (vs:List Value),G.St ρ σ s→VL ρ s.heap xs vs→∃ws,VL ρ s.heap ys ws∧ws.length=ps.length∧BindsTo s (fnOf name qual params body scope dV kV doc pm an cdv ct) ⟨vs,[]⟩ (ps.zip ws))
  (hlen:ps.length=ys.length) (hloc:(ps.all λp=>scope.names.lookup p==some .local)=true) (hnd:ps.Nodup) (hcell: ∀x∈scope.names,x.2≠ .cell)
  (h: ∀L,(Cl σ.length σ)→q0y G n (callEnv (fnOf name qual params body scope dV kV doc pm an cdv ct) L f) (ps.zip ys) σ body λfl _ σ'=>∃k x,(match fl with| .ret y=>x=y|_=>x=.none)∧σ.length≤k∧x.bd k∧Cl k (σ'.take k)∧Q x (σ'.take k))
  (hco:scope.isCoroutine=false) (hgen:scope.isGenerator=false) (hk:scope.kind=.function):v0w G (n+1) (.ref f) xs σ Q:=λA ρ s vs rm S vl=>by
 refine a0q (hbind s ρ vs S vl) λws hws hwl hb=>?_
 refine(codeAny_call_def (fd:=fnOf name qual params body scope dV kV doc pm an cdv ct) (body:=body) (binds:=ps.zip ws) rm.limit ((W.kin S) _ _ ho) rfl (W.nolimit.keeps S.base) (codeRec_of (W.kin S) hcd) rfl hb hcell ?_ (λh₀ hns hkeep=>?_) hco hgen hk)
 ·exactλx hx=>eq_of_beq (List.all_eq_true.mp hloc x.1 (List.of_mem_zip hx).1)
 ·have S':G.St ρ σ {s with heap:=h₀,toks:=s.toks+(ps.zip ws).length}:=S.keeps hkeep rfl rfl
  have F:FrOk G (callEnv (fnOf name qual params body scope dV kV doc pm an cdv ct) s.heap.objs.size f) (ps.zip ys) ρ {s with heap:=h₀,toks:=s.toks+(ps.zip ws).length}:=
   ⟨hk,rfl,rfl,⟨_,hns,λx v hx _=>a0a (f0l hx) λi hi he=>a0a (VL.get hws i v he) λcv ecv hcv=>⟨cv,i0z hnd hwl hi ecv,V.mono List.prefix_rfl (TK.ofKeeps hkeep) _ _ hcv⟩⟩,
    ⟨S.fresh' (b0h _),g0v S.base (b0h _)⟩,λn c h=>(List.not_mem_nil h).elim,λx v hx hc=>a0a (f0l hx) λi hi _=>(nomatch(eq_of_beq (List.all_eq_true.mp hloc x (List.mem_of_getElem? hi))).symm.trans hc),λn n' c h _=>(List.not_mem_nil h).elim⟩
  refine wpAny_mono (h s.heap.objs.size S.cl _ ρ _ (rm.deeper _) S' F) (λfl s' p=>?_) (λ_ _ e=>e.elim)
  obtain⟨afl,loc',ρ',σ',S₂,N₂,F₂,hfl,q⟩:=p
  refine b0j q λk x hx hkk q=>?_
  have N₁:Nxt f0g ρ s ρ' s':=N₂.leave hkeep λb q=>q.elim (λe=>e▸b0h _) λq=>q.elim λ_ q=>(List.not_mem_nil q).elim
  exact call_fin S S₂ N₁ hx hkk q.1 q.2.1 q.2.2 hfl (λ_ h=>h) (λh=>h) (λh=>h) λh=>h
theorem i1j(W:WOk G K){f:Addr}{xs:List AV}{Q:AV→Sig→Prop}{oc:Value}{od:Option Addr}{osl:Array (Option Value)}{name qual:PySem.Str}{params:Arguments}{body:List Stmt}{scope:Scope}{dV kV doc pm cdv ct:Value}{an:Option Addr}{ps:List PySem.Str}{ys:List AV}
  (ho:K.lookup f=some ⟨oc,od,.func (fnOf name qual params body scope dV kV doc pm an cdv ct),osl⟩) (hcd:codeIn K cdv qual=true)
  (hbind: ∀(s:Shared) ρ (vs:List Value),G.St ρ σ s→VL ρ s.heap xs vs→∃ws,VL ρ s.heap ys ws∧ws.length=ps.length∧BindsTo s (fnOf name qual params body scope dV kV doc pm an cdv ct) ⟨vs,[]⟩ (ps.zip ws))
  (hlen:ps.length=ys.length) (hloc:(ps.all λp=>scope.names.lookup p==some .local)=true) (hnd:ps.Nodup) (hcell: ∀x∈scope.names,x.2≠ .cell)
  (h: ∀L,(Cl σ.length σ)→q0y G n (callEnv (fnOf name qual params body scope dV kV doc pm an cdv ct) L f) (ps.zip ys) σ body λfl _ σ'=>∃k x,(match fl with| .ret y=>x=y|_=>x=.none)∧σ.length≤k∧x.bd k∧Cl k (σ'.take k)∧Q x (σ'.take k))
  (hco:scope.isCoroutine=false) (hgen:scope.isGenerator=false) (hk:scope.kind=.function):a0b G (n+1) (.ref f) xs σ Q:=λA ρ s vs rm S vl=>wpAny_call (c1k W ho hcd hbind hlen hloc hnd hcell h hco hgen hk A ρ s vs rm S vl)
end
section
variable {G:Gx} {n:Nat} {cenv:Env} {loc:Loc} {σ:Sig} {α β γ δ:Type} {K:Frag}
theorem e0a{own:Addr→Prop}{ρ ρ':List Addr}{s s':Shared}(N:Nxt f0g ρ s ρ' s'):Nxt own ρ s ρ' s':=N.weak λ_ h=>h.elim
theorem m0h{ρ ρ₁:List Addr}{s s₁:Shared}{A:Around}{t:Sem Flow}{Q:AFlow→Loc→Sig→Prop}(N:Nxt (d0x cenv) ρ s ρ₁ s₁)(h:wpAny G.M A t (PostS G cenv ρ₁ s₁ Q) noE s₁):wpAny G.M A t (PostS G cenv ρ s Q) noE s₁:=
 wpAny_mono h (λ_ _ p=>p.trans N) λ_ _ e=>e
theorem z0n{ρ ρ₁:List Addr}{s s₁:Shared}{A:Around}{t:Sem Unit}{Q:Loc→Sig→Prop}(N:Nxt (d0x cenv) ρ s ρ₁ s₁)(h:wpAny G.M A t (PostU G cenv ρ₁ s₁ Q) noE s₁):wpAny G.M A t (PostU G cenv ρ s Q) noE s₁:=
 wpAny_mono h (λ_ _ p=>p.trans N) λ_ _ e=>e
theorem OkF.mono{t:Sem Flow}{Q Q':AFlow→Loc→Sig→Prop}(h:OkF G n cenv loc σ t Q)(k: ∀fl l σ',Q fl l σ'→Q' fl l σ'):OkF G n cenv loc σ t Q':=
 λA ρ s r S F=>wpAny_mono (h A ρ s r S F) (λv s' ⟨x,l,ρ',σ',a,b,c,d,e⟩=>⟨x,l,ρ',σ',a,b,c,d,k _ _ _ e⟩) λ_ _ e=>e
theorem OkF.weakLoc{t:Sem Flow}{Q:AFlow→Loc→Sig→Prop}{loc':Loc}(h:OkF G n cenv loc' σ t Q)(k: ∀x v,loc'.lookup x=some v→loc.lookup x=some v):OkF G n cenv loc σ t Q:=
 λA ρ s r S F=>h A ρ s r S (F.weak k)
theorem l1n{Q:AFlow→Loc→Sig→Prop}(h:Q .next loc σ):q0y G n cenv loc σ [] Q:=λA ρ s rm S F=>wpAny_execs_nil ⟨.next,loc,ρ,σ,S,Nxt.refl,F,rfl,h⟩
theorem d0c{st:Stmt}{rest:List Stmt}{Q:AFlow→Loc→Sig→Prop}(h:OkS G n cenv loc σ st λfl l σ₁=>match fl with| .next=>q0y G n cenv l σ₁ rest Q|fl=>Q fl l σ₁):q0y G n cenv loc σ (st::rest) Q:=λA ρ s rm S F=>
 wpAny_execs_cons (wpAny_mono (h A ρ s rm S F) (λf s₁ ⟨fl,l,ρ₁,σ₁,S₁,N₁,F₁,hf,q⟩=>by
  cases fl with
  |next=>cases hf;exact m0h N₁ (q A ρ₁ s₁ rm S₁ F₁)
  |brk=>cases hf;exact⟨.brk,l,ρ₁,σ₁,S₁,N₁,F₁,rfl,q⟩
  |cont=>cases hf;exact⟨.cont,l,ρ₁,σ₁,S₁,N₁,F₁,rfl,q⟩
  |ret x=>(refine a0a hf λv z0 hv=>?_;subst z0);exact⟨.ret x,l,ρ₁,σ₁,S₁,N₁,F₁,⟨v,rfl,hv⟩,q⟩) λ_ _ e=>e)
theorem l1o{e:Expr}{pos}{Q:AFlow→Loc→Sig→Prop}(h:OkE G n cenv loc σ e λx σ₁=>Q (.ret x) loc σ₁):OkS G n cenv loc σ (.Return (some e) pos) Q:=λA ρ s rm S F=>
 wpAny_Return_some (h.then rm S F λv x ρ₁ σ₁ s₁ S₁ N₁ F₁ hv q=>⟨.ret x,loc,ρ₁,σ₁,S₁,e0a N₁,F₁,⟨v,rfl,hv⟩,q⟩)
theorem h1t{pos}{Q:AFlow→Loc→Sig→Prop}(h:Q (.ret .none) loc σ):OkS G n cenv loc σ (.Return none pos) Q:=λA ρ s rm S F=>
 wpAny_Return_none ⟨.ret .none,loc,ρ,σ,S,Nxt.refl,F,⟨.none,rfl,rfl⟩,h⟩
theorem h1s{pos}{Q:AFlow→Loc→Sig→Prop}(h:Q .next loc σ):OkS G n cenv loc σ (.Pass pos) Q:=λA ρ s rm S F=>wpAny_Pass ⟨.next,loc,ρ,σ,S,Nxt.refl,F,rfl,h⟩
theorem h1q{pos}{Q:AFlow→Loc→Sig→Prop}(h:Q .cont loc σ):OkS G n cenv loc σ (.Continue pos) Q:=λA ρ s rm S F=>wpAny_Continue ⟨.cont,loc,ρ,σ,S,Nxt.refl,F,rfl,h⟩
theorem o1r{t:Expr}{b e:List Stmt}{pos}{Q:AFlow→Loc→Sig→Prop}(h:OkB G n cenv loc σ t λc σ₁=>if c then q0y G n cenv loc σ₁ b Q else q0y G n cenv loc σ₁ e Q):OkS G n cenv loc σ (.If t b e pos) Q:=λA ρ s rm S F=>
 wpAny_If (h.then rm S F λa x ρ₁ σ₁ s₁ S₁ N₁ F₁ va q=>by
  cases va
  cases a
  ·exact m0h (e0a N₁) (q A ρ₁ s₁ rm S₁ F₁)
  ·exact m0h (e0a N₁) (q A ρ₁ s₁ rm S₁ F₁))
theorem h1r{e:Expr}{pos:Pos}{Q:AFlow→Loc→Sig→Prop}(h:OkE G n cenv loc σ e λ_ σ₁=>Q .next loc σ₁)(hs:autoParam (swapsWith e none pos.line cenv=pure false) aR)
  (hi:autoParam (interactive cenv=false) aR):OkS G n cenv loc σ (.Expr e pos) Q:=λA ρ s rm S F=>
 wpAny_Expr_any (h.then rm S F λv x ρ₁ σ₁ s₁ S₁ N₁ F₁ hv q=>⟨.next,loc,ρ₁,σ₁,S₁,e0a N₁,F₁,rfl,q⟩) hi hs
theorem h0s{α:Type}{x y:PySem.Str}{v w:α}{l:List (PySem.Str×α)}(h:((x,v)::l).lookup y=some w):(y=x∧v=w)∨(y≠x∧l.lookup y=some w):=by
 rw[List.lookup_cons]at h
 cases e:y==x with
 |true=>rw[e]at h;exact .inl ⟨eq_of_beq e,Option.some.inj h⟩
 |false=>rw[e]at h;exact .inr ⟨λq=>by((rw[q,beq_self_eq_true]at e;have e:=e);(exact a0t e.symm)),h⟩
theorem j1v{h:Heap}{a c:Addr}{m:PySem.Str→Option Value}{o:Obj}{v:Option Value}(n:h.Ns a m)(ho:h.get? c=some o)(hd:o.data=.cell v):c≠a:=λe=>h0o n λo' es ep ho' r=>nomatch(congrArg Obj.data (Option.some.inj (ho.symm.trans (e▸ho')))▸hd).symm.trans r.1
theorem FrOk.turn{ρ:List Addr}{s:Shared}(F:FrOk G cenv loc ρ s)(S:G.St ρ σ s){a:Addr}(ha:d0x cenv a){h':Heap}{tk:Nat}(kk: ∀b,b≠a→h'.get? b=s.heap.get? b)(hn: ∃o,h'.get? a=some o){C:Prop}
  (k:TK s.heap h'→Nxt (d0x cenv) ρ s ρ {s with heap:=h',toks:=tk}→G.St ρ σ {s with heap:=h',toks:=tk}→C):C:=
 r0m (F.own_alive ha) λ_ O1 O2 O3=>
 have t:TK s.heap h':=TK.but O2 λb o hb e=>(kk b hb).trans e
 k t ⟨List.prefix_rfl,λ_ h=>.inl h,λb o e _ h2=>(kk b λe'=>h2 (e'▸ha)).trans e,t,λb o e=>(Classical.em (b=a)).elim (λhb=>hb▸hn) λhb=>⟨o,(kk b hb).trans e⟩⟩
  (S.keepsBut (λb o e hb=>(kk b λe'=>hb.elim (λh=>O1 (e'▸h)) λh=>h (e'▸O3)).trans e) t rfl rfl)
theorem e0q{x:PySem.Str}{pos:Pos}{v:AV}{Q:Loc→Sig→Prop}(hk:cenv.kindOf x=some .local)(h:Q ((x,v)::loc) σ):OkA G n cenv loc σ (.Name x pos) v Q:=λA ρ s cv rm S F hv=>by
 refine a0a (F.ns) λm hm hl=>?_
 refine wpAny_assign_Name (wpAny_storeName_local hk hm (λh' hn hs=>?_) (by rw[F.kind];rfl))
 refine F.turn (tk:=s.toks+1) S (.inl rfl) hs.2 (h0o hn λo _ _ e _=>⟨o,e⟩) λtk N S'=>?_
 have old: ∀{b o w},s.heap.get? b=some o→o.data=.cell w→h'.get? b=some o:=λe d=>(hs.2 _ (j1v hm e d)).trans e
 exact⟨_,ρ,σ,S',N,⟨F.kind,F.glob,F.blt,⟨_,hn,λy w hy hky=>(h0s hy).elim (λq=>⟨cv,if_pos q.1,V.mono List.prefix_rfl tk _ _ (q.2▸hv)⟩) λq=>a0a (hl y w q.2 hky) λcw a b=>⟨cw,(if_neg q.1).trans a,V.mono List.prefix_rfl tk _ _ b⟩⟩,F.own,
  λn c hc=>b0l (F.cells n c hc) λz h1 h2=>⟨c0e z λo v' ho hd=>⟨o,v',old ho hd,hd⟩,h1,h2⟩,
  λy w hy hky=>(h0s hy).elim (λq=>nomatch(q.1▸hk).symm.trans hky) λq=>b0j (F.cval y w q.2 hky) λc cw hc z b=>⟨c,cw,hc,a0a z λo ho hd=>⟨o,old ho hd,hd⟩,V.mono List.prefix_rfl tk _ _ b⟩,F.apart⟩,h⟩
theorem g1m{x:PySem.Str}{pos:Pos}{v:AV}{c:Addr}{Q:Loc→Sig→Prop}(hk:cenv.kindOf x=some .cell)(hc:cenv.cells.lookup x=some c)(h:Q ((x,v)::loc) σ):OkA G n cenv loc σ (.Name x pos) v Q:=λA ρ s cv rm S F hv=>by
 refine b0l (F.cells x c (mem_of_lookup hc)) λz0 _ _=>?_
 refine c0e z0 λoc v0 hoc hdc=>?_
 refine wpAny_assign_Name (wpAny_storeName_cell F.kind hk hc ⟨oc,hoc,hdc⟩ λh' hn hs=>?_)
 refine F.turn (tk:=s.toks) S (.inr ⟨x,mem_of_lookup hc⟩) hs.2 (a0a hn λo e _=>⟨o,e⟩) λtk N S'=>?_
 refine a0a (F.ns) λm hm hl=>?_
 exact⟨_,ρ,σ,S',N,⟨F.kind,F.glob,F.blt,⟨m,hm.sameBut hs (j1v hm hoc hdc).symm,λy w hy hky=>(h0s hy).elim (λq=>nomatch(q.1▸hk).symm.trans hky) λq=>a0a (hl y w q.2 hky) λcw a b=>⟨cw,a,V.mono List.prefix_rfl tk _ _ b⟩⟩,F.own,
  λn d hd=>b0l (F.cells n d hd) λz h1 h2=>⟨(Classical.em (d=c)).elim (λe=>a0a hn λo ho hd=>⟨o,_,e▸ho,hd⟩) λe=>c0e z λo v' ho hd=>⟨o,v',(hs.2 d e).trans ho,hd⟩,h1,h2⟩,
  λy w hy hky=>(h0s hy).elim (λq=>⟨c,cv,q.1▸hc,hn,V.mono List.prefix_rfl tk _ _ (q.2▸hv)⟩) λq=>b0j (F.cval y w q.2 hky) λd cw hd z b=>⟨d,cw,hd,a0a z λo ho hdd=>⟨o,(hs.2 d λe=>q.1 (F.apart _ _ _ (mem_of_lookup hd) (e▸mem_of_lookup hc))).trans ho,hdd⟩,V.mono List.prefix_rfl tk _ _ b⟩,F.apart⟩,h⟩
theorem h1o{x:PySem.Str}{pos':Pos}{value:Expr}{pos:Pos}{Q:AFlow→Loc→Sig→Prop}(h:OkE G n cenv loc σ value λv σ₁=>OkA G n cenv loc σ₁ (.Name x pos') v λl σ₂=>Q .next l σ₂)
  (hs:autoParam (swapsWith value (some (.Name x pos')) pos.line cenv=pure false) aR):OkS G n cenv loc σ (.Assign [.Name x pos'] value pos) Q:=λA ρ s rm S F=>
 by
  rw[exec_Assign_Name cenv x pos' value pos hs]
  refine wpAny_bind (wpAny_standAt (wpAny_bind (h.then rm S F λv x' ρ₁ σ₁ s₁ S₁ N₁ F₁ hv q=>?_)))
  show wpAny G.M A (assign (.Name x pos') cenv v>>= λ_=>pure Flow.next) _ _ _
  exact wpAny_bind (wpAny_mono (q A ρ₁ s₁ v rm S₁ F₁ hv) (λ_ s₂ ⟨l,ρ₂,σ₂,S₂,N₂,F₂,q₂⟩=>wpAny_pure ⟨.next,l,ρ₂,σ₂,S₂,(e0a N₁).trans N₂,F₂,rfl,q₂⟩) λ_ _ e=>e)
noncomputable def k1n(G:Gx)(n:Nat)(cenv:Env)(loc:Loc)(σ:Sig)(ts:List Expr)(xs:List AV)(Q:Loc→Sig→Prop):Prop:=
 ∀A ρ s vs,e0t n A→G.St ρ σ s→FrOk G cenv loc ρ s→VL ρ s.heap xs vs→wpAny G.M A (assignInOrder ((assignEach ts cenv).map (·.2)) vs) (PostU G cenv ρ s Q) noE s
theorem g1n{Q:Loc→Sig→Prop}(h:Q loc σ):k1n G n cenv loc σ [] [] Q:=λA ρ s vs rm S F hv=>by
 subst hv;exact wpAny_pure ⟨loc,ρ,σ,S,Nxt.refl,F,h⟩
theorem v0v{t:Expr}{ts:List Expr}{x:AV}{xs:List AV}{Q:Loc→Sig→Prop}(h:OkA G n cenv loc σ t x λl σ₁=>k1n G n cenv l σ₁ ts xs Q)(he:autoParam ((assignEach (t::ts) cenv).map (·.2)=assign t cenv::(assignEach ts cenv).map (·.2)) aR):k1n G n cenv loc σ (t::ts) (x::xs) Q:=λA ρ s vs rm S F hv=>by
 refine b0j hv λv r z0 a b=>?_;subst z0
 rw[he]
 show wpAny _ _ (holding r (assign t cenv v)>>= λ_=>assignInOrder _ r) _ _ _
 exact wpAny_bind (wpAny_holding (wpAny_mono (h A ρ s v rm S F a) (λ_ s₁ ⟨l,ρ₁,σ₁,S₁,N₁,F₁,q⟩=>z0n N₁ (q A ρ₁ s₁ r rm S₁ F₁ (VL.mono N₁.pre N₁.tk _ _ b))) λ_ _ e=>e))
theorem k1w{ts:List Expr}{k:Nat}{pos:Pos}{xs:List AV}{Q:Loc→Sig→Prop}(h:k1n G n cenv loc σ ts xs Q)(hn:autoParam ((assignEach ts cenv).length=xs.length) aR)(hstar:autoParam ((assignEach ts cenv).findIdx? (·.1)=none) aR):
  OkA G n cenv loc σ (.Tuple ts k pos) (.tup xs) Q:=λA ρ s v rm S F hv=>by
 refine p0i hv λa vs z0 ht hl _=>?_;subst z0
 refine assign_Tuple_tuple rm.2.2 ht (by rw[hn,VL.length hl];simp) hstar λh' he=>?_
 have kk: ∀b o,s.heap.get? b=some o→h'.get? b=some o:=λb o e=>he b o (Nat.ne_of_lt (Heap.lt_size e)) e
 have N:Nxt (d0x cenv) ρ s ρ {s with heap:=h'}:=Nxt.keeps kk
 have N':Nxt f0g ρ s ρ {s with heap:=h'}:=Nxt.keeps kk
 exact z0n N (h A ρ _ _ rm (S.keeps kk rfl rfl) (F.next N') (VL.mono List.prefix_rfl (TK.ofKeeps kk) _ _ hl))
end
section
variable {G:Gx} {n:Nat} {cenv:Env} {loc:Loc} {σ:Sig} {α β γ δ:Type} {K:Frag}
theorem h1p{ts:List Expr}{k:Nat}{tpos:Pos}{value:Expr}{pos:Pos}{Q:AFlow→Loc→Sig→Prop}(h:OkE G n cenv loc σ value λv σ₁=>OkA G n cenv loc σ₁ (.Tuple ts k tpos) v λl σ₂=>Q .next l σ₂)
  (hs:autoParam (swapsWithSole [.Tuple ts k tpos] value pos.line cenv=pure false) aR) (hw:autoParam (swappedStores [.Tuple ts k tpos] value cenv=pure none) aR):OkS G n cenv loc σ (.Assign [.Tuple ts k tpos] value pos) Q:=λA ρ s rm S F=>
 Assign_Tuple (h.then rm S F λv x' ρ₁ σ₁ s₁ S₁ N₁ F₁ hv q=>wpAny_mono (q A ρ₁ s₁ v rm S₁ F₁ hv) (λ_ s₂ ⟨l,ρ₂,σ₂,S₂,N₂,F₂,q₂⟩=>⟨.next,l,ρ₂,σ₂,S₂,(e0a N₁).trans N₂,F₂,rfl,q₂⟩) λ_ _ e=>e) hs hw
noncomputable def rU:Rl Unit Unit:=λ_ _ _ _=>True
abbrev h0z (G:Gx) (n:Nat) (x:AV) (name:PySem.Str) (y:AV) (σ:Sig) (Q:Sig→Prop):Prop:=Op2 G n σ rU (λo v=>setAttr o name v) x y λ(_:Unit) σ'=>Q σ'
theorem w0b{o:Expr}{attr:PySem.Str}{pos':Pos}{value:Expr}{pos:Pos}{Q:AFlow→Loc→Sig→Prop}
  (h:OkE G n cenv loc σ value λv σ₁=>OkE G n cenv loc σ₁ o λx σ₂=>h0z G n x attr v σ₂ λσ₃=>Q .next loc σ₃)
  (hs:autoParam (swapsWith value (some (.Attribute o attr pos')) pos.line cenv=pure false) aR):OkS G n cenv loc σ (.Assign [.Attribute o attr pos'] value pos) Q:=λA ρ s rm S F=>
 plainObj_wpAny_Assign_Attribute (h.then rm S F λv x ρ₁ σ₁ s₁ S₁ N₁ F₁ hv q=>q.then rm S₁ F₁ λov y ρ₂ σ₂ s₂ S₂ N₂ F₂ ho q₂=>
  wpAny_mono (q₂ A ρ₂ s₂ ov v rm S₂ ho (V.mono N₂.pre N₂.tk _ _ hv)) (λ_ s₃ ⟨_,ρ₃,σ₃,S₃,N₃,_,q₃⟩=>⟨.next,loc,ρ₃,σ₃,S₃,e0a ((N₁.trans N₂).trans N₃),F₂.next N₃,rfl,q₃⟩) λ_ _ e=>e) hs
noncomputable def c0r:List (PySem.Str×AV)→PySem.Str→AV→List (PySem.Str×AV)
 |[],k,v=>[(k,v)]
 |(y,u)::r,k,v=>if y==k then(y,v)::r else(y,u)::c0r r k v
theorem eSn{p:PySem.Str×AV}{r:List (PySem.Str×AV)}{k:PySem.Str}{v:AV}:c0r (p::r) k v=if p.1==k then(p.1,v)::r else(p.1,p.2)::c0r r k v:=rfl
theorem p0w{x y:PySem.Str}{u:AV}{r:List (PySem.Str×AV)}:((y,u)::r).lookup x=if x=y then some u else r.lookup x:=by
 rw[List.lookup_cons]
 by_cases h:x=y
 ·rw[if_pos h,h,beq_self_eq_true]
 ·rw[if_neg h,beq_false_of_ne h]
theorem p0x(k x:PySem.Str)(v:AV)(m:List (PySem.Str×AV)):(c0r m k v).lookup x=if x=k then some v else m.lookup x:=by
 induction m with
 |nil=>exact p0w
 |cons p r ih=>
  rw[eSn,p0w (u:=p.2) (r:=r)]
  by_cases hy:p.1=k
  ·rw[if_pos (beq_iff_eq.mpr hy),p0w,←hy]
   by_cases hx:x=p.1
   ·rw[if_pos hx,if_pos hx]
   ·rw[if_neg hx,if_neg hx,if_neg hx]
  ·rw[if_neg (λh=>hy (eq_of_beq h)),p0w,ih]
   by_cases hx:x=k
   ·rw[if_pos hx,if_pos hx,if_neg λe=>hy (e.symm.trans hx)]
   ·rw[if_neg hx,if_neg hx]
theorem k0j(m:List (PySem.Str×AV))(k:PySem.Str)(v:AV):(c0r m k v).length=if(m.lookup k).isSome then m.length else m.length+1:=by
 induction m with
 |nil=>rfl
 |cons p r ih=>
  rw[eSn,p0w (u:=p.2) (r:=r)]
  by_cases hy:p.1=k
  ·rw[if_pos (beq_iff_eq.mpr hy),if_pos hy.symm];rfl
  ·rw[if_neg (λh=>hy (eq_of_beq h)),if_neg (Ne.symm hy),List.length_cons,ih,apply_ite (· +1)];rfl
theorem b1n(m:List (PySem.Str×AV))(k:PySem.Str)(v:AV):(c0r m k v).length≤m.length+1:=by
 rw[k0j];split
 ·exact Nat.le_succ _
 ·exact Nat.le_refl _
theorem q0i{name:PySem.Str}{z:Int}{key v c:Value}{d:Option Addr}{es:Array DictEntry}{n:Nat}{s:Array (Option Value)}{i:Nat}(hi:es.findIdx? (·.key.isStr name)=some i):Obj.putName name z key v ⟨c,d,.dict es n,s⟩=⟨c,d,.dict (es.modify i λe=>{e with val:=v}) n,s⟩:=by
 rw[Obj.putName_eq];unfold Obj.putNameByArray;dsimp only;rw[hi]
theorem q0h{name:PySem.Str}{z:Int}{key v c:Value}{d:Option Addr}{es:Array DictEntry}{n:Nat}{s:Array (Option Value)}(hi:es.findIdx? (·.key.isStr name)=none):Obj.putName name z key v ⟨c,d,.dict es n,s⟩=⟨c,d,.dict (es.push ⟨z,key,v⟩) (n+1),s⟩:=by
 rw[Obj.putName_eq];unfold Obj.putNameByArray;dsimp only;rw[hi]
theorem w0x{h:Heap}{a:Addr}{o:Obj}{es:Array DictEntry}{ep n:Nat}(e:h.get? a=some o)(d:o.data=.dict es ep)(z:es.size≤n):h.DictLe a n:=λo' es' ep' ho' hd'=>
 (Data.dict.inj ((d.symm.trans (congrArg Obj.data (Option.some.inj (e.symm.trans ho')))).trans hd')).1▸z
theorem b1g{M:Model}{A:Around}{E:Value→Shared→Prop}{s:Shared}{a:Addr}{f:PySem.Str→Option Value}{k:Nat}{name:PySem.Str}{v:Value}{Q:Unit→Shared→Prop}(hn:s.heap.Ns a f)(hz:s.heap.DictLe a k)
  (h: ∀h',h'.Ns a (λx=>if x=name then some v else f x)→Heap.SameBut a s.heap h'→h'.DictLe a (if(f name).isSome then k else k+1)→Q () {s with heap:=h',toks:=s.toks+1}):wpAny M A (nsSet a name v) Q E s:=by
 refine d0l hn λo es ep ho hd hk hm=>?_
 have hsz:=hz o es ep ho hd
 clear hn hz
 cases o with
 |mk c d dt sl=>
 subst hd
 unfold nsSet strHash
 refine wpAny_bind (wpAny_bind (wpAny_askSetting (wpAny_pure (wpAny_bind (wpAny_mkText (wpAny_bind (wpAny_loadPart ho ?_)))))))
 have hany:es.any (·.refKey)=false:=Array.any_eq_false'.mpr λe he=>x0a (hk e he) λn t h=>by rw[DictEntry.refKey,h];exact Bool.false_ne_true
 simp only[aRefKeyMayBeTheName_eq,aRefKeyMayBeTheNameByArray,hany,Bool.and_false,Bool.false_eq_true,if_false]
 clear hany
 refine wpAny_updatePart ho ?_
 have fin: ∀{es':Array DictEntry} {ep':Nat} {g:Obj→Obj},g ⟨c,d,.dict es ep,sl⟩=⟨c,d,.dict es' ep',sl⟩→StrKeys es'→(∀x,nsFind es' x=if x=name then some v else f x)→es'.size≤(if(f name).isSome then k else k+1)→Q () {s with heap:=s.heap.update a g,toks:=s.toks+1}:=λe hk' hf hz=>
  have G:=(Heap.get?_update_self _ ho (e▸rfl)).trans (congrArg some e)
  h _ ⟨_,_,_,G,rfl,hk',hf⟩ (Heap.SameBut.update ..) (w0x G rfl hz)
 clear h
 cases hi:es.findIdx? (·.key.isStr name)with
 |some i=>
  refine fin (q0i hi) (hk.modify _ _) (λx=>?_) ?_
  ·rw[←hm];exact findBy_modify (λn v=>v.isStr n) Value.isStr_inj es name x v i hi
  ·rw[←hm,if_pos,Array.size_modify]
   ·exact hsz
   ·unfold nsFind findBy
    rw[Option.isSome_map,Array.find?_isSome]
    exact(Array.findIdx?_eq_some_iff_getElem.mp hi).elim λhlt q=>⟨es[i],Array.getElem_mem hlt,q.1⟩
 |none=>
  refine fin (q0h hi) (hk.push _ _ _ _) (λx=>?_) ?_
  ·rw[←hm]
   exact findBy_push (λn v=>v.isStr n) es name x _ _ v (λy=>by
    show(name==y)=decide (y=name)
    rw[Bool.beq_eq_decide_eq];exact decide_eq_decide.mpr eq_comm) hi
  ·rw[←hm,Array.size_push,if_neg]
   ·exact Nat.succ_le_succ hsz
   ·unfold nsFind findBy
    rw[Array.find?_eq_none.mpr λx hx=>by simpa using Array.findIdx?_eq_none_iff.mp hi x hx];exact Bool.false_ne_true
theorem b0q(W:WOk G K){i d:Nat}{C:Addr}{name:PySem.Str}{m:List (PySem.Str×AV)}{y:AV}{Q:Sig→Prop}(hi:σ[i]?=some (.inst C d))(hd:σ[d]?=some (.ns m))
  (hs:findIn K (.ref C) "__setattr__"=some (some (.builtin "object.__setattr__"))) (hp:plainOver K C=true) (ht:takerIn K C name=some none) (hh:hasDictIn K C=true) (h:Q (σ.set d (.ns (c0r m name y)))) (hl:autoParam (m.length≤1000) aD):h0z G n (.ref i) name y σ Q:=λA ρ s a v rm S va vv=>by
 refine a1o (x0z S hi hd) λad dx od ei ed I hod z0=>?_
 refine g0k z0 λf hns hz hlook hq=>?_
 refine V.ref_el va ei ?_
 have S1:G.St ρ σ {s with toks:=s.toks+1}:=S.tok _
 refine set_plain (W.kin S) I hs (osa_open (s:={s with toks:=s.toks+1}) (W.kin S1) I hp ht λb=>?_)
 refine a0a (any_some hh) λcd hc hd'=>?_
 refine wpAny_bind (wpAny_pure (wpAny_bind (wpAny_bind (wpAny_loadPart I.at_ (wpAny_bind ((looks_clsIn (W.kin S1) hc).here ?_))))))
 rw[hd']
 refine wpAny_pure (a:=some dx) (wpAny_bind (wpAny_pure (wpAny_bind ?_)))
 refine b1g hns hz λh' hn' hsb hz'=>?_
 have hz':h'.DictLe dx (c0r m name y).length:=by
  have hs:(f name).isSome=(m.lookup name).isSome:=by
   have:=hq name
   revert this
   cases m.lookup name with
   |none=>exactλh=>congrArg Option.isSome h
   |some z=>exactλh=>a0a h λu a1 _=>congrArg Option.isSome a1
  rw[k0j,←hs];exact hz'
 refine d0l hn' λo' es' ep' ho' hdat' _ _=>?_
 refine wpAny_bind (wpAny_lookBehind ho' ?_ (wpAny_pure ?_))
 ·rw[hdat'];exact pastItsLine_dict (Nat.le_trans (hz' o' es' ep' ho' hdat') (Nat.le_trans (b1n m name y) (Nat.le_trans (Nat.succ_le_succ hl) (by rw[sizeLine_eq];decide))))
 ·refine d0n (x:=()) (o:=.ns (c0r m name y)) S ed hsb (λtk=>⟨_,⟨hn',hz'⟩,λx=>?_⟩) rfl rfl trivial h
  rw[p0x]
  by_cases hx:x=name
  ·rw[if_pos hx];exact⟨v,if_pos hx,V.mono List.prefix_rfl tk _ _ vv⟩
  ·rw[if_neg hx]
   have:=hq x
   revert this
   cases m.lookup x with
   |none=>exactλh=>(if_neg hx).trans h
   |some z=>exactλh=>a0a h λu a1 a2=>⟨u,(if_neg hx).trans a1,V.mono List.prefix_rfl tk _ _ a2⟩
abbrev a0y (G:Gx) (n:Nat) (x i y:AV) (σ:Sig) (Q:Sig→Prop):Prop:=
 ∀A ρ s a b c,e0t n A→G.St ρ σ s→V ρ s.heap x a→V ρ s.heap i b→V ρ s.heap y c→wpAny G.M A (setItem a b c) (Post G ρ s rU λ(_:Unit) σ'=>Q σ') noE s
theorem z0x{o i:Expr}{pos':Pos}{value:Expr}{pos:Pos}{Q:AFlow→Loc→Sig→Prop}
  (h:OkE G n cenv loc σ value λv σ₁=>OkE G n cenv loc σ₁ o λx σ₂=>OkE G n cenv loc σ₂ i λk σ₃=>a0y G n x k v σ₃ λσ₄=>Q .next loc σ₄)
  (hs:autoParam (swapsWith value (some (.Subscript o i pos')) pos.line cenv=pure false) aR):OkS G n cenv loc σ (.Assign [.Subscript o i pos'] value pos) Q:=λA ρ s rm S F=>
 wpAny_Assign_Subscript (h.then rm S F λv x ρ₁ σ₁ s₁ S₁ N₁ F₁ hv q=>q.then rm S₁ F₁ λov y ρ₂ σ₂ s₂ S₂ N₂ F₂ ho q₂=>q₂.then rm S₂ F₂ λiv z ρ₃ σ₃ s₃ S₃ N₃ F₃ hi q₃=>
  wpAny_mono (q₃ A ρ₃ s₃ ov iv v rm S₃ (V.mono N₃.pre N₃.tk _ _ ho) hi (V.mono (N₂.trans N₃).pre (N₂.trans N₃).tk _ _ hv)) (λ_ s₄ ⟨_,ρ₄,σ₄,S₄,N₄,_,q₄⟩=>⟨.next,loc,ρ₄,σ₄,S₄,e0a (((N₁.trans N₂).trans N₃).trans N₄),F₃.next N₄,rfl,q₄⟩) λ_ _ e=>e) hs
theorem r0t{M:Model}{prog:Program}{w:World}{A:Around}{E:Value→Shared→Prop}{s:Shared}{l:Addr}{vs:List Value}{m:Nat}{k:Int}{t:Tok}{v:Value}{Q:Unit→Shared→Prop}(hl:IsL s.heap l vs.toArray m)(h0:0≤k)(hfit:k<2^63)(hn:k<vs.length)
  (hQ: ∀h' m',IsL h' l (vs.set k.toNat v).toArray m'→Heap.SameBut l s.heap h'→Q () {s with heap:=h'}):wpAny (model prog w) A (setItem (.ref l) (.int k t) v) Q E s:=by
 refine a0k (Int.eq_ofNat_of_zero_le h0) λj z0=>?_
 have hj:j<vs.length:=by rw[z0]at hn;exact Int.ofNat_lt.mp hn
 have hx':vs.toArray[j]?=some vs[j]:=(List.getElem?_toArray ..).trans (List.getElem?_eq_getElem hj)
 have hfin:IsL (s.heap.update l (Obj.mapSeq (·.setIfInBounds j v))) l (vs.set k.toNat v).toArray m:=by
  unfold IsL
  rw[z0]
  rw[Heap.get?_update_self _ hl (by rfl)]
  simp[Obj.mapSeq]
 have fin:=hQ _ _ hfin (Heap.SameBut.update ..)
 clear hQ hfin hn
 have hT:=IsL.typeIs hl
 unfold setItem
 try with_reducible refine wpAny_holding ?_
 first|refine wpAny_bind (wpAny_pure ?_)|skip
 refine wpAny_bind (wpAny_sequenceKey hT (by decide) ?_)
 refine wpAny_bind (wpAny_callSpecial?_slot (name:=Str.ofString "__setitem__") hT slot_list_setitem
  (wpAny_call_entry slot_list_setitem hT entry_list_setitem ?_ (args_list_setitem _ _ _)))
 show wpAny _ _ (Builtin.List.listSubscript? (.int k t)>>=_) _ _ s
 refine wpAny_bind (wpAny_listSubscript_int (fitsIndex_of h0 hfit) ?_)
 clear h0 hfit;subst z0
 show wpAny _ _ ((seqItemAt l j>>= λr=>pure (r.map (j, ·)))>>=_) _ _ s
 refine wpAny_bind (wpAny_bind (wpAny_seqItemAt hl rfl (wpAny_pure ?_)))
 rw[hx']
 show wpAny _ _ (setSeqItemAt l j v>>=_) _ _ s
 refine wpAny_bind (wpAny_setSeqItemAt hl rfl ?_)
 first
  |exact wpAny_bind (wpAny_pure (wpAny_pure ⟨.none,rfl,wpAny_pure fin⟩))
  |exact wpAny_pure ⟨.none,rfl,wpAny_pure fin⟩
theorem d0p{i:Nat}{l:List AV}{k:Int}{y:AV}{Q:Sig→Prop}(hi:σ[i]?=some (.list l))(h0:0≤k)(hk:k.toNat<l.length)(h:Q (σ.set i (.list (l.set k.toNat y)))):a0y G n (.ref i) (.int k) y σ Q:=λA ρ s a b c rm S va vb vc=>by
 refine d0l (St.list S hi) λad vs m ea ho hl z=>?_
 refine V.ref_el va ea ?_
 refine V.int_el vb λu=>?_
 have hlen:=VL.length hl
 have z':=z
 rw[sizeLine_eq]at z
 refine r0t (M:=G.M) ho h0 (by omega) (by exact LA [_,_] [_] 1806085289991621672 rfl hk hlen) λh' m' hn' hsb=>?_
 exact d0n (x:=()) (o:=.list (l.set k.toNat y)) S ea hsb (λtk=>⟨_,_,hn',VL.set (VL.mono List.prefix_rfl tk _ _ hl) _ _ _ (V.mono List.prefix_rfl tk _ _ vc),by simpa using z'⟩) rfl rfl trivial h
noncomputable def g0d{α:Type}[DecidableEq α](l:List (α×AV))(k:α):Option AV:=(l.find? λp=>p.1=k).map (·.2)
noncomputable def n0c{α:Type}[DecidableEq α](l:List (α×AV))(k:α)(v:AV):List (α×AV):=if l.any (λp=>p.1=k)then l.map (λp=>if p.1=k then(p.1,v)else p)else l++[(k,v)]
theorem u0b{α β:Type}{g:β→Value}{ρ:List Addr}{h:Heap}{P:List (α×β)→List (α×AV)→Prop}(h0:P [] [])(h1: ∀a v x kvs l,V ρ h x (g v)→P kvs l→P ((a,v)::kvs) ((a,x)::l)){kvs:List (α×β)}: ∀{l:List (α×AV)},kvs.map (·.1)=l.map (·.1)→VL ρ h (l.map (·.2)) (kvs.map λp=>g p.2)→P kvs l:=by
 induction kvs with
 |nil=>
  intro l e _
  cases l with
  |nil=>exact h0
  |cons _ _=>exact absurd e nofun
 |cons p kvs ih=>
  intro l e hl
  cases l with
  |nil=>exact absurd e nofun
  |cons q l=>exact b0j hl λv r e1 hv hl=>a0m (List.cons.inj e) λe2 e3=>a0m (List.cons.inj e1) λe4 e5=>(show(p.1,q.2)=q from Prod.ext e2 rfl)▸h1 p.1 p.2 q.2 kvs l ((show g p.2=v from e4)▸hv) (ih e3 (e5▸hl))
theorem c1o{α β:Type}[DecidableEq α]{a k:α}{v:β}{l:List (α×β)}(h:a=k):((a,v)::l).find? (λp=>decide (p.1=k))=some (a,v):=List.find?_cons_of_pos (p:=λp:α×β=>decide (p.1=k)) (decide_eq_true h)
theorem c1n{α β:Type}[DecidableEq α]{a k:α}{v:β}{l:List (α×β)}(h: ¬a=k):((a,v)::l).find? (λp=>decide (p.1=k))=l.find? (λp=>decide (p.1=k)):=List.find?_cons_of_neg (p:=λp:α×β=>decide (p.1=k)) λe=>h (of_decide_eq_true e)
theorem p0k{α β:Type}[DecidableEq α]{g:β→Value}{ρ:List Addr}{h:Heap}{k:α}{kvs:List (α×β)}{l:List (α×AV)}(e:kvs.map (·.1)=l.map (·.1))(hl:VL ρ h (l.map (·.2)) (kvs.map λp=>g p.2)):
  (∃p x,kvs.find? (λp=>decide (p.1=k))=some p∧l.find? (λp=>decide (p.1=k))=some x∧V ρ h x.2 (g p.2))∨(kvs.find? (λp=>decide (p.1=k))=none∧l.find? (λp=>decide (p.1=k))=none):=
 u0b (P:=λ(kvs:List (α×β)) (l:List (α×AV))=>(∃p x,kvs.find? (λp=>decide (p.1=k))=some p∧l.find? (λp=>decide (p.1=k))=some x∧V ρ h x.2 (g p.2))∨(kvs.find? (λp=>decide (p.1=k))=none∧l.find? (λp=>decide (p.1=k))=none)) (.inr ⟨rfl,rfl⟩) (λa v x kvs l hv ih=>by
  by_cases hk:a=k
  ·exact .inl ⟨_,_,c1o hk,c1o hk,hv⟩
  ·rw[c1n hk,c1n hk];exact ih) e hl
theorem n0y{α:Type}[DecidableEq α]{k:α}{l:List (α×AV)}{r:Option (α×AV)}(e:l.find? (λp=>decide (p.1=k))=r):g0d l k=r.map Prod.snd:=by unfold g0d;rw[e]
theorem n0i{α:Type}[DecidableEq α]{k:α}{l:List (α×Value)}{r:Option (α×Value)}(e:l.find? (λp=>decide (p.1=k))=r):valueAt l k=r.map Prod.snd:=by unfold valueAt;rw[e]
theorem k0r{α:Type}[DecidableEq α]{ρ:List Addr}{h:Heap}{k:α}{kvs:List (α×Value)}{l:List (α×AV)}(e:kvs.map (·.1)=l.map (·.1))(hl:VL ρ h (l.map (·.2)) (kvs.map (·.2))):
  (∃x v,g0d l k=some x∧valueAt kvs k=some v∧V ρ h x v)∨(g0d l k=none∧valueAt kvs k=none):=
 (p0k (k:=k) (g:=id) e hl).imp (λq=>b0j q λp x e1 e2 hv=>⟨x.2,p.2,n0y e2,n0i e1,hv⟩) λq=>⟨n0y q.2,n0i q.1⟩
theorem t0m{α:Type}[DecidableEq α]{k:α}{kvs:List (α×Value)}{l:List (α×AV)}(e:kvs.map (·.1)=l.map (·.1)):kvs.any (λp=>decide (p.1=k))=l.any (λp=>decide (p.1=k)):=
 (List.any_map (p:=λa=>decide (a=k)) (f:=Prod.fst)).symm.trans ((congrArg (List.any · λa=>decide (a=k)) e).trans List.any_map)
theorem y0d{α β:Type}[DecidableEq α]{k:α}{v:β}(l:List (α×β)):(l.map λkv=>if kv.1=k then(kv.1,v)else kv).map (·.1)=l.map (·.1):=
 List.map_map.trans (List.map_congr_left λp _=>by show(if p.1=k then(p.1,v)else p).1=p.1;split<;>rfl)
theorem m0f{α:Type}[DecidableEq α]{k:α}{v:Value}{x:AV}{kvs:List (α×Value)}{l:List (α×AV)}(e:kvs.map (·.1)=l.map (·.1)):(stored kvs k v).map (·.1)=(n0c l k x).map (·.1):=by
 unfold stored n0c
 rw[t0m e]
 split
 ·rw[y0d,y0d,e]
 ·rw[List.map_append,List.map_append,e];rfl
theorem v0p{α:Type}[DecidableEq α]{ρ:List Addr}{h:Heap}{k:α}{v:Value}{x:AV}(hv:V ρ h x v){kvs:List (α×Value)}{l:List (α×AV)}(e:kvs.map (·.1)=l.map (·.1))(hl:VL ρ h (l.map (·.2)) (kvs.map (·.2))):
  VL ρ h ((l.map λp=>if p.1=k then(p.1,x)else p).map (·.2)) ((kvs.map λkv=>if kv.1=k then(kv.1,v)else kv).map (·.2)):=
 u0b (g:=id) (P:=λ(kvs:List (α×Value)) (l:List (α×AV))=>VL ρ h ((l.map λp:α×AV=>if p.1=k then(p.1,x)else p).map Prod.snd) ((kvs.map λkv:α×Value=>if kv.1=k then(kv.1,v)else kv).map Prod.snd)) rfl (λa w y kvs l hw ih=>⟨_,_,rfl,by
  show V ρ h (if a=k then(a,x)else(a,y)).2 (if a=k then(a,v)else(a,w)).2
  by_cases hk:a=k
  ·rw[if_pos hk,if_pos hk];exact hv
  ·rw[if_neg hk,if_neg hk];exact hw,ih⟩) e hl
theorem m0g{α:Type}[DecidableEq α]{ρ:List Addr}{h:Heap}{k:α}{v:Value}{x:AV}{kvs:List (α×Value)}{l:List (α×AV)}(e:kvs.map (·.1)=l.map (·.1))(hl:VL ρ h (l.map (·.2)) (kvs.map (·.2)))(hv:V ρ h x v):VL ρ h ((n0c l k x).map (·.2)) ((stored kvs k v).map (·.2)):=by
 unfold stored n0c
 rw[t0m e]
 split
 ·exact v0p hv e hl
 ·rw[List.map_append,List.map_append];exact VL.append hl ⟨v,[],rfl,hv,rfl⟩
theorem c0t{kvs:List (α×Value)}{l:List (α×AV)}(e:kvs.map (·.1)=l.map (·.1)):kvs.length=l.length:=by
 have:=congrArg List.length e
 simpa using this
theorem d0m{prog:Program}{w:World}{k:Int}{u:Tok}:(intKind prog w).is k (.int k u)=true:=by exact decide_eq_true rfl
theorem t0j{prog:Program}{w:World}{k:PySem.Str}{u:Tok}:(PySem.strKind prog w).is k (.str k u)=true:=by exact decide_eq_true rfl
theorem f0h{i:Nat}{l:List (Int×AV)}{k:Int}{y:AV}{Q:Sig→Prop}(hi:σ[i]?=some (.dictI l))(hz:l.length≤1000000)(h:Q (σ.set i (.dictI (n0c l k y)))):a0y G n (.ref i) (.int k) y σ Q:=λA ρ s a b c rm S va vb vc=>by
 refine a0a (S.at hi) λad ea z0=>?_;(refine a0q z0 λkvs hd e hl=>?_)
 refine V.ref_el va ea ?_
 refine V.int_el vb λu=>?_
 refine wpAny_setItem_pairs (knd:=intKind G.prog G.w) (k:=k) d0m hd (λh' hd' hsb=>?_) (by rw[c0t e,sizeLine_eq];exact LA [_] [] 29014221616312736288178184 rfl hz)
 exact d0n (x:=()) (o:=.dictI (n0c l k y)) S ea hsb (λtk=>⟨_,hd',m0f e,m0g e (VL.mono List.prefix_rfl tk _ _ hl) (V.mono List.prefix_rfl tk _ _ vc)⟩) rfl rfl trivial h
theorem z0c{i:Nat}{l:List (PySem.Str×AV)}{k:PySem.Str}{y:AV}{Q:Sig→Prop}(hi:σ[i]?=some (.dictS l))(hz:l.length≤1000000)(h:Q (σ.set i (.dictS (n0c l k y)))):a0y G n (.ref i) (.str k) y σ Q:=λA ρ s a b c rm S va vb vc=>by
 refine a0a (S.at hi) λad ea z0=>?_;(refine a0q z0 λkvs hd e hl=>?_)
 refine V.ref_el va ea ?_
 refine V.str_el vb λu=>?_
 refine wpAny_setItem_pairs (knd:=PySem.strKind G.prog G.w) (k:=k) t0j hd (λh' hd' hsb=>?_) (by rw[c0t e,sizeLine_eq];exact LA [_] [] 29014221616312736288178184 rfl hz)
 exact d0n (x:=()) (o:=.dictS (n0c l k y)) S ea hsb (λtk=>⟨_,hd',m0f e,m0g e (VL.mono List.prefix_rfl tk _ _ hl) (V.mono List.prefix_rfl tk _ _ vc)⟩) rfl rfl trivial h
theorem d0h{value slice:Expr}{i:Nat}{l:List (Int×AV)}{k:Int}{x:AV}{Q:AV→Sig→Prop}(ei:σ[i]?=some (.dictI l))(hx:g0d l k=some x)(h:Q x σ)
  (hs:autoParam (∀a u,subscripted slice false (.ref a) (.int k u)=operate [.ref a,.int k u] (getItem (.ref a) (.int k u))) aU):l0e G n value slice (.ref i) (.int k) σ Q:=λA ρ s a b r S va vb=>by
 refine a0a (S.at ei) λad ea z0=>?_;(refine a0q z0 λkvs hd e hl=>?_)
 refine V.ref_el va ea ?_
 refine V.int_el vb λu=>?_
 refine(k0r (k:=k) e hl).elim (λq=>?_) λq=>b0n (q.1.symm.trans hx)
 refine b0j q λx' v e1 ev hv=>?_
 obtain rfl:=Option.some.inj (e1.symm.trans hx)
 exact tail_any hd.typeIs slot_dict_getitem.lookup (wpAny_getItem_of (knd:=intKind G.prog G.w) d0m hd.mapOf ev (a0e S hv h)) (hs _ _)
theorem l0l{α:Type}[DecidableEq α]{ρ:List Addr}{h:Heap}{k:α}{kvs:List (α×Value)}{l:List (α×AV)}(e:kvs.map (·.1)=l.map (·.1))(hl:VL ρ h (l.map (·.2)) (kvs.map (·.2))):(valueAt kvs k).isSome=(g0d l k).isSome:=
 (k0r e hl).elim (λq=>b0j q λ_ _ e1 e2 _=>by rw[e1,e2];rfl) λq=>by rw[q.1,q.2];rfl
theorem f1j(W:WOk G K)(hm:(∃o,G.base.get? sysModules=some o))(S:G.St ρ σ s){a:Addr}(ha:a∈ρ):(a==sysModules)=false:=by
 refine a0k (hm) λo ho=>?_
 simp only[beq_eq_false_iff_ne,ne_eq]
 intro e
 have:=S.fresh a ha
 rw[e,ho]at this;have this:=this;(exact b0n this.symm)
theorem n0q(hm: ∃o,G.base.get? sysModules=some o){i:Nat}{l:List (Int×AV)}{k:Int}{Q:AV→Sig→Prop}(ei:σ[i]?=some (.dictI l))(h:Q (.bool (g0d l k).isSome) σ):b0e G n .In (.int k) (.ref i) σ Q:=λA ρ s b a r S vb va=>by
 refine a0a (S.at ei) λad ea z0=>?_;(refine a0q z0 λkvs hd e hl=>?_)
 refine V.ref_el va ea ?_
 refine V.int_el vb λu=>?_
 refine wpAny_in_of (knd:=intKind G.prog G.w) d0m ?_ hd.mapOf (a0e (x:=AV.bool (g0d l k).isSome) S (by rw[l0l e hl];rfl) h)
 refine a0k (hm) λo ho=>?_
 simp only[beq_eq_false_iff_ne,ne_eq]
 intro q
 have:=S.fresh _ (List.mem_of_getElem? ea)
 rw[q,ho]at this;have this:=this;(exact b0n this.symm)
theorem m0p(hm: ∃o,G.base.get? sysModules=some o){i:Nat}{l:List (Int×AV)}{k:Int}{Q:AV→Sig→Prop}(ei:σ[i]?=some (.dictI l))(h:Q (.bool (!(g0d l k).isSome)) σ):b0e G n .NotIn (.int k) (.ref i) σ Q:=λA ρ s b a r S vb va=>by
 refine a0a (S.at ei) λad ea z0=>?_;(refine a0q z0 λkvs hd e hl=>?_)
 refine V.ref_el va ea ?_
 refine V.int_el vb λu=>?_
 refine wpAny_notIn_of (knd:=intKind G.prog G.w) d0m ?_ hd.mapOf (a0e (x:=AV.bool (!(g0d l k).isSome)) S (by rw[l0l e hl];rfl) h)
 refine a0k (hm) λo ho=>?_
 simp only[beq_eq_false_iff_ne,ne_eq]
 intro q
 have:=S.fresh _ (List.mem_of_getElem? ea)
 rw[q,ho]at this;have this:=this;(exact b0n this.symm)
theorem w0o{i:Nat}{T:Int→Bool}{m:Nat}{k:Int}{Q:AV→Sig→Prop}(ei:σ[i]?=some (.set T m))(h:Q (.bool (T k)) σ):b0e G n .In (.int k) (.ref i) σ Q:=λA ρ s b a r S vb va=>by
 refine a0a (S.at ei) λad ea hS=>?_
 refine V.ref_el va ea ?_
 refine V.int_el vb λu=>?_
 exact wpAny_inSet_of (knd:=intKind G.prog G.w) d0m rfl hS (a0e (x:=AV.bool (T k)) S rfl h)
theorem b0w{i:Nat}{T:Int→Bool}{m:Nat}{k:Int}{Q:AV→Sig→Prop}(ei:σ[i]?=some (.set T m))(h:Q (.bool (!T k)) σ):b0e G n .NotIn (.int k) (.ref i) σ Q:=λA ρ s b a r S vb va=>by
 refine a0a (S.at ei) λad ea hS=>?_
 refine V.ref_el va ea ?_
 refine V.int_el vb λu=>?_
 exact wpAny_notInSet_of (knd:=intKind G.prog G.w) d0m rfl hS (a0e (x:=AV.bool (!T k)) S rfl h)
noncomputable def n1z(l:List AV)(ks:List Int):Prop:=l=ks.map .int
theorem u0w{i:Nat}{ks:List Int}{k:Int}{Q:AV→Sig→Prop}(ei:σ[i]?=some (.list (ks.map .int)))(h:Q (.bool (!ks.contains k)) σ):b0e G n .NotIn (.int k) (.ref i) σ Q:=λA ρ s b a r S vb va=>by
 refine d0l (St.list S ei) λad vs m ea ho hl z=>?_
 refine V.ref_el va ea ?_
 refine V.int_el vb λu=>?_
 have key: ∀(ks:List Int) (vs:List Value),VL ρ s.heap (ks.map .int) vs→(∀y∈vs,SeqAt.EqAt A.in1 s y (.int k u) (Value.isInt k y))∧vs.any (Value.isInt k)=ks.contains k:=by
  intro ks
  induction ks with
  |nil=>intro vs e;(subst e);simp
  |cons a ks ih=>
   intro vs ⟨v,r,e,hv,hr⟩
   obtain⟨t,rfl⟩:=hv
   subst e
   refine a0m (ih r hr) λh1 h2=>?_
   have e2:Value.isInt k (.int a t)=(a==k):=by
    by_cases hh:a=k
    ·clear h ih h1 h2;subst hh;rfl
    ·simp[Value.isInt,hh]
   refine⟨λy hy=>?_,?_⟩
   ·rcases List.mem_cons.mp hy with rfl|hy
    ·rw[e2];exact SeqAt.EqAt.int_int a t k u
    ·exact h1 y hy
   ·rw[List.any_cons,h2,e2,List.contains_cons]
    rw[show(a==k)=(k==a)from BEq.comm]
 refine a0m (key ks vs hl) λh1 h2=>?_
 refine SeqAt.notIn_listAt (Value.isInt k) ho.isList (λy hy=>h1 y (by simpa using hy)) (a0e (tk:=s.toks) (x:=AV.bool (!ks.contains k)) S ?_ h)
 show Value.bool _=_
 rw[←h2,List.any_toArray]
end
noncomputable def Sub(l' l:Loc):Prop:=∀x v,l'.lookup x=some v→l.lookup x=some v
theorem Sub.refl(l:Loc):Sub l l:=λ_ _ h=>h
theorem Sub.nil(l:Loc):Sub [] l:=λ_ _ h=>by trivial
theorem Sub.cons{x:PySem.Str}{v:AV}{l' l:Loc}(h:l.lookup x=some v)(r:Sub l' l):Sub ((x,v)::l') l:=λy w hy=>by
 exact(h0s hy).elim (λq=>q.2▸q.1▸h) λq=>r y w q.2
section
variable {G:Gx} {n:Nat} {cenv:Env} {loc:Loc} {σ:Sig} {α β γ δ:Type} {K:Frag}
theorem l1l{x:PySem.Str}{pos':Pos}{value:Expr}{pos:Pos}{a:Int}{Q:AFlow→Loc→Sig→Prop}(hx:loc.lookup x=some (.int a))(hk:cenv.kindOf x=some .local)
  (h:OkE G n cenv loc σ value λv σ₁=>∃b,v=.int b∧Q .next ((x,.int (a+b))::loc) σ₁):OkS G n cenv loc σ (.AugAssign (.Name x pos') .Add value pos) Q:=λA ρ s rm S F=>by
 refine a0a (F.ns) λm hm hl=>?_
 refine a0a (hl x _ hx hk) λcv e z0=>?_;obtain⟨u,hV⟩:=z0
 subst hV
 rw[exec_AugAssign_Name cenv x pos' .Add value pos]
 refine wpAny_bind (wpAny_standAt (wpAny_bind (wpAny_loadName_local F.kind hk hm e ?_)))
 refine wpAny_bind (wpAny_holding (h.then rm S F λv y ρ₁ σ₁ s₁ S₁ N₁ F₁ hv q=>?_))
 obtain⟨b,rfl,q⟩:=q
 obtain⟨t,rfl⟩:=hv
 refine wpAny_bind (wpAny_standAt (wpAny_bind ?_))
 refine wpAny_operating (wpAny_iadd_int ?_)
 show wpAny G.M A (assign (.Name x pos') cenv (.int (a+b) s₁.toks)>>= λ_=>pure Flow.next) _ _ _
 have A1:OkA G n cenv loc σ₁ (.Name x pos') (.int (a+b)) λl σ₂=>Q .next l σ₂:=e0q hk q
 have S₁':G.St ρ₁ σ₁ {s₁ with toks:=s₁.toks+1}:=S₁.tok _
 have N₁':Nxt f0g ρ₁ s₁ ρ₁ {s₁ with toks:=s₁.toks+1}:=Nxt.keeps λ_ _ e=>e
 exact wpAny_bind (wpAny_mono (A1 A ρ₁ _ _ rm S₁' (F₁.next N₁') ⟨_,rfl⟩) (λ_ s₂ ⟨l,ρ₂,σ₂,S₂,N₂,F₂,q₂⟩=>wpAny_pure ⟨.next,l,ρ₂,σ₂,S₂,(e0a (N₁.trans N₁')).trans N₂,F₂,rfl,q₂⟩) λ_ _ e=>e)
theorem a0w{M:Model}{A:Around}{t:Sem α}{P:α→Shared→Prop}{E:Value→Shared→Prop}{s:Shared}(h:wpAny M A t P noE s):wpAny M A t P E s:=wpAny_mono h (λ_ _ x=>x) λ_ _ e=>e.elim
theorem PostS.el{ρ:List Addr}{s s':Shared}{Q:AFlow→Loc→Sig→Prop}{f:Flow}{C:Prop}(p:PostS G cenv ρ s Q f s')(k: ∀fl l ρ' σ',G.St ρ' σ' s'→Nxt (d0x cenv) ρ s ρ' s'→FrOk G cenv l ρ' s'→s0l ρ' s'.heap fl f→Q fl l σ'→C):C:=by
 cases p with
 |mk fl l ρ' σ' a b c d e=>exact k fl l ρ' σ' a b c d e
@[elab_as_elim] theorem loop_post {ρ ρ':List Addr} {s s':Shared} {l:Loc} {σ':Sig} {Q:AFlow→Loc→Sig→Prop} {fl:AFlow} {f:Flow} {X:Prop} {T:Flow→Prop} (S:G.St ρ' σ' s') (N:Nxt (d0x cenv) ρ s ρ' s') (F:FrOk G cenv l ρ' s')
  (q:match fl with| .next| .cont=>X| .brk=>Q .next l σ'| .ret x=>Q (.ret x) l σ') (hf:s0l ρ' s'.heap fl f) (h1:X→T .next) (h0:T .next→T .cont) (h2:PostS G cenv ρ s Q .next s'→T .brk) (h3: ∀v,PostS G cenv ρ s Q (.ret v) s'→T (.ret v)):T f:=by
 cases fl with
 |next=>exact(show f=.next from hf)▸h1 q
 |cont=>exact(show f=.cont from hf)▸h0 (h1 q)
 |brk=>exact(show f=.brk from hf)▸h2 ⟨.next,l,ρ',σ',S,N,F,rfl,q⟩
 |ret x=>exact a0a hf λv e hv=>e▸h3 v ⟨.ret x,l,ρ',σ',S,N,F,⟨v,rfl,hv⟩,q⟩
theorem d1l{test:Expr}{body orelse:List Stmt}{pos:Pos}{Q:AFlow→Loc→Sig→Prop}(I:Nat→Loc→Sig→Prop)(m:Nat)(h0: ∃l,Sub l loc∧I m l σ)
  (turn: ∀m l σ₁,I m l σ₁→OkB G n cenv l σ₁ test λb σ₂=>if b then q0y G n cenv l σ₂ body (λfl l₃ σ₃=>match fl with
    | .next| .cont=>∃m' l',m'<m∧Sub l' l₃∧I m' l' σ₃
    | .brk=>Q .next l₃ σ₃
    | .ret x=>Q (.ret x) l₃ σ₃)else q0y G n cenv l σ₂ orelse Q):OkS G n cenv loc σ (.While test body orelse pos) Q:=λA ρ s rm S F=>by
 refine a0a (h0) λl hs h0=>?_
 refine wpAny_While (codeAny_whileLoop (λm s'=>∃l ρ' σ',I m l σ'∧G.St ρ' σ' s'∧Nxt (d0x cenv) ρ s ρ' s'∧FrOk G cenv l ρ' s') (λm s₁ p=>d0l p λl ρ₁ σ₁ hI S₁ N₁ F₁=>?_) m ⟨l,ρ,σ,h0,S,Nxt.refl,F.weak hs⟩)
 refine a0w ((turn m l σ₁ hI).then rm S₁ F₁ λb x ρ₂ σ₂ s₂ S₂ N₂ F₂ hb q=>?_)
 cases hb
 have N12:=N₁.trans (e0a N₂)
 cases b with
 |false=>exact a0w (m0h N12 (q A ρ₂ s₂ rm S₂ F₂))
 |true=>
  exact a0w (wpAny_mono (q A ρ₂ s₂ rm S₂ F₂) (λf s₃ p=>p.el λfl l₃ ρ₃ σ₃ S₃ N₃ F₃ hf q₃=>loop_post S₃ (N12.trans N₃) F₃ q₃ hf (λq=>b0j q λm' l' hm hs hI'=>⟨m',hm,l',ρ₃,σ₃,hI',S₃,N12.trans N₃,F₃.weak hs⟩) (λh=>h) (λh=>h) λ_ h=>h) λ_ _ e=>e)
structure Iter (G:Gx) (I:Addr) (xs:List AV) (C:Sig→Prop) (J:Nat→List Addr→Heap→Prop):Prop where
 self: ∀{i ρ s A} {Q:Value→Shared→Prop},J i ρ s.heap→Q (.ref I) s→wpAny G.M A (pyIter (.ref I)) Q noE s
 item: ∀{A n ρ σ s i x},e0t n A→G.St ρ σ s→C σ→J i ρ s.heap→xs[i]?=some x→∀{Q:Option Value→Shared→Prop},(∀v h' tk,V ρ s.heap x v→J (i+1) ρ h'→(∀b o,b≠I→s.heap.get? b=some o→h'.get? b=some o)→Q (some v) {s with heap:=h',toks:=tk})→wpAny G.M A (pyNext (.ref I)) Q noE s
 done: ∀{A n ρ σ s},e0t n A→G.St ρ σ s→C σ→J xs.length ρ s.heap→∀{Q:Option Value→Shared→Prop},(∀h' tk,(∀b o,b≠I→s.heap.get? b=some o→h'.get? b=some o)→Q none {s with heap:=h',toks:=tk})→wpAny G.M A (pyNext (.ref I)) Q noE s
 frame: ∀{i ρ ρ' h h'},J i ρ h→(∀o,h.get? I=some o→h'.get? I=some o)→ρ<+:ρ'→TK h h'→J i ρ' h'
 obj: ∀{i ρ h},J i ρ h→∃o,h.get? I=some o∧¬Imm o
noncomputable def h0j(G:Gx)(n:Nat)(σ:Sig)(x:AV)(xs:List AV)(C:Sig→Prop):Prop:=
 ∀A ρ s v,e0t n A→G.St ρ σ s→V ρ s.heap x v→∀Q:Value→Shared→Prop,(∀I J h' tk,Iter G I xs C J→s.heap.get? I=none→(∀b o,s.heap.get? b=some o→h'.get? b=some o)→J 0 ρ h'→Q (.ref I) {s with heap:=h',toks:=tk})→wpAny G.M A (pyIter v) Q noE s
theorem i0n{i:Nat}{l:List AV}(hi:σ[i]?=some (.list l)):h0j G n σ (.ref i) l λσ'=>σ'[i]?=some (.list l):=λA ρ s v rm S va Q q=>by
 refine d0l (St.list S hi) λad vs m ea ho hl z=>?_
 refine V.ref_el va ea ?_
 refine wpAny_pyIter_list ho.isList (q s.heap.objs.size (λj ρ' h=>h.IsListIter s.heap.objs.size ad j∧ρ'[i]?=some ad) _ s.toks ?_ (b0h _) (λb o e=>Heap.get?_push_of_some _ e) ⟨⟨_,Heap.get?_push_size _ rfl,rfl,rfl⟩,ea⟩)
 constructor
 ·intro j ρ s' A' Q' h q';exact wpAny_pyIter_listiter h.1 q'
 ·intro A' n' ρ' σ' s' j x rm' S' C' h hx Q' q'
  refine d0l (St.list S' C') λad' vs' m' ea' ho' hl' z'=>?_
  rw[h.2]at ea';have ea':=ea';cases ea'
  refine a0a (VL.get hl' _ _ hx) λv ev hv=>?_
  exact wpAny_pyNext_list_item h.1 ho'.isList (x:=v) (by simpa using ev) λh' hit hs=>q' v h' s'.toks hv ⟨hit,h.2⟩ λb o hb e=>(hs.2 b hb).trans e
 ·intro A' n' ρ' σ' s' rm' S' C' h Q' q'
  refine d0l (St.list S' C') λad' vs' m' ea' ho' hl' z'=>?_
  rw[h.2]at ea';have ea':=ea';cases ea'
  refine wpAny_pyNext_list_end rm'.2.2 h.1 ho'.isList ?_ λh' he=>q' h' s'.toks λb o hb e=>he b o hb e
  rw[VL.length hl'];simp
 ·intro j ρ' ρ'' h h' hJ k1 k2 k3
  exact⟨let⟨o,e,r⟩:=hJ.1;⟨o,k1 o e,r⟩,j0u k2 hJ.2⟩
 ·intro j ρ' h hJ
  refine a0q hJ.1 λo e c _=>?_
  exact⟨o,e,i0t (by rw[c];trivial) (by rw[c];trivial) (by rw[c];trivial)⟩
theorem i0o{l:List AV}:h0j G n σ (.tup l) l λ_=>True:=λA ρ s v rm S va Q q=>by
 refine p0i va λad vs z0 ht hl z=>?_;subst z0
 refine wpAny_pyIter_tuple (items:=vs) ht (q s.heap.objs.size (λj ρ' h=>h.IsTupleIter s.heap.objs.size ad j∧IsTup h ad vs∧VL ρ' h l vs.toList) _ s.toks ?_ (b0h _) (λb o e=>Heap.get?_push_of_some _ e)
  ⟨⟨_,Heap.get?_push_size _ rfl,rfl,rfl⟩,ht.push _,VL.mono List.prefix_rfl (TK.ofKeeps λb o e=>Heap.get?_push_of_some _ e) _ _ hl⟩)
 constructor
 ·intro j ρ s' A' Q' h q';exact wpAny_pyIter_tupleiter h.1 q'
 ·intro A' n' ρ' σ' s' j x rm' S' C' h hx Q' q'
  refine a0a (VL.get h.2.2 _ _ hx) λv ev hv=>?_
  refine wpAny_pyNext_tuple_item h.1 (items:=vs) h.2.1 (x:=v) (by simpa using ev) λh' hit hs=>?_
  have tk:TK s'.heap h':=TK.but (a:=s.heap.objs.size) (λo e=>by
   refine a0q h.1 λo' e' c' _=>?_
   rw[e']at e;have e:=e;(clear e';cases e);exact i0t (by rw[c'];trivial) (by rw[c'];trivial) (by rw[c'];trivial)) λb o hb e=>(hs.2 b hb).trans e
  exact q' v h' s'.toks hv ⟨hit,tk.tup h.2.1,VL.mono List.prefix_rfl tk _ _ h.2.2⟩ λb o hb e=>(hs.2 b hb).trans e
 ·intro A' n' ρ' σ' s' rm' S' C' h Q' q'
  refine wpAny_pyNext_tuple_end rm'.2.2 h.1 (items:=vs) h.2.1 ?_ λh' he=>q' h' s'.toks λb o hb e=>he b o hb e
  have:=VL.length h.2.2
  rw[this];simp
 ·intro j ρ' ρ'' h h' hJ k1 k2 k3
  exact⟨let⟨o,e,r⟩:=hJ.1;⟨o,k1 o e,r⟩,k3.tup hJ.2.1,VL.mono k2 k3 _ _ hJ.2.2⟩
 ·intro j ρ' h hJ
  refine a0q hJ.1 λo e c _=>?_
  exact⟨o,e,i0t (by rw[c];trivial) (by rw[c];trivial) (by rw[c];trivial)⟩
inductive ForI(G:Gx)(cenv:Env)(k:Nat)(I:Nat→Loc→Sig→Prop)(ρ₀:List Addr)(s₀:Shared)(J:Nat→List Addr→Heap→Prop)(a:Addr)(m:Nat)(s':Shared):Prop
 |mk (i:Nat) (l:Loc) (ρ':List Addr) (σ':Sig) (hm:i+m=k) (hI:I i l σ') (S:G.St ρ' σ' s') (N:Nxt (d0x cenv) ρ₀ s₀ ρ' s') (F:FrOk G cenv l ρ' s') (hJ:J i ρ' s'.heap) (ha:a∉ρ')
theorem g1k{own:Addr→Prop}{ρ ρ':List Addr}{σ':Sig}{s₁ s':Shared}{b:Addr}{h:Heap}{tk:Nat}(S₁:G.St ρ σ s₁)(S:G.St ρ' σ' s')(N:Nxt own ρ s₁ ρ' s')(hb1:s₁.heap.get? b=none)(hbρ:b∉ρ')(hobj: ∀o,s'.heap.get? b=some o→¬Imm o)
  (hk: ∀c o,c≠b→s'.heap.get? c=some o→h.get? c=some o):G.St ρ' σ' {s' with heap:=h,toks:=tk}∧Nxt own ρ s₁ ρ' {s' with heap:=h,toks:=tk}∧TK s'.heap h:=
 have t:TK s'.heap h:=TK.but hobj hk
 have kp: ∀{c o},s₁.heap.get? c=some o→c≠b:=λe q=>b0n (hb1.symm.trans (q▸e))
 ⟨S.keepsBut (λc o e h=>hk c o (λq=>h.elim (λh=>hbρ (q▸h)) λh=>h (q▸g0v S₁.base hb1)) e) t rfl rfl,
  ⟨N.pre,N.new,λc o e h1 h2=>hk c o (kp e) (N.keep c o e h1 h2),N.tk.trans t,λc o e=>(N.live c o e).elim λo' e'=>⟨o',hk c o' (kp e) e'⟩⟩,t⟩
theorem h0r{h:Heap}{a:Addr}(x: ∃o,h.get? a=some o∧¬Imm o)(o:Obj)(e:h.get? a=some o): ¬Imm o:=a0a x λo' ho hc=>Option.some.inj (ho.symm.trans e)▸hc
theorem j0d{ρ₀ ρ₁:List Addr}{s₀ s₁:Shared}{h₁:Heap}{tk₁:Nat}{l₁:Loc}{σ₁:Sig}{a:Addr}(S₀:G.St ρ₀ σ s₀)(S₁:G.St ρ₁ σ₁ s₁)(N₁:Nxt (d0x cenv) ρ₀ s₀ ρ₁ s₁)(F₁:FrOk G cenv l₁ ρ₁ s₁)(ha:a∉ρ₁)(hn: ∃o,s₁.heap.get? a=some o∧¬Imm o)
  (hk: ∀b o,b≠a→s₁.heap.get? b=some o→h₁.get? b=some o) (hown: ¬d0x cenv a) (hf:s₀.heap.get? a=none) {C:Prop}
  (k:G.St ρ₁ σ₁ {s₁ with heap:=h₁,toks:=tk₁}→Nxt (d0x cenv) ρ₀ s₀ ρ₁ {s₁ with heap:=h₁,toks:=tk₁}→FrOk G cenv l₁ ρ₁ {s₁ with heap:=h₁,toks:=tk₁}→TK s₁.heap h₁→C):C:=
 b0l (g1k (tk:=tk₁) S₀ S₁ N₁ hf ha (h0r hn) hk) λA B t=>k A B (F₁.move List.prefix_rfl t (λb o h e=>hk b o (λq=>hown (q▸h)) e) λb h=>(F₁.own_alive h).2.1) t
theorem Iter.after{xs:List AV}{C:Sig→Prop}{J:Nat→List Addr→Heap→Prop}{a:Addr}(IT:Iter G a xs C J)(hown: ¬d0x cenv a){ρ₁ ρ₂:List Addr}{s₁ s₂:Shared}{i:Nat}(N:Nxt (d0x cenv) ρ₁ s₁ ρ₂ s₂)(ha:a∉ρ₁)(hJ:J i ρ₁ s₁.heap):J i ρ₂ s₂.heap∧a∉ρ₂:=
 a0a (IT.obj hJ) λoa hoa _=>⟨IT.frame hJ (λo e=>N.keep a o e ha hown) N.pre N.tk,λhb=>(N.new a hb).elim ha λh1=>b0n (h1.symm.trans hoa)⟩
theorem l1m{target iter:Expr}{body orelse:List Stmt}{pos:Pos}{Q:AFlow→Loc→Sig→Prop}
  (h:OkE G n cenv loc σ iter λx σ₁=>∃xs C,h0j G n σ₁ x xs C∧∃I:Nat→Loc→Sig→Prop,(∃l,Sub l loc∧I 0 l σ₁)∧(∀i l σ₂,i≤xs.length→I i l σ₂→C σ₂)∧
   (∀i y l σ₂,xs[i]?=some y→I i l σ₂→OkA G n cenv l σ₂ target y λl₃ σ₃=>q0y G n cenv l₃ σ₃ body λfl l₄ σ₄=>match fl with
    | .next| .cont=>∃l',Sub l' l₄∧I (i+1) l' σ₄
    | .brk=>Q .next l₄ σ₄
    | .ret v=>Q (.ret v) l₄ σ₄)∧(∀l σ₂,I xs.length l σ₂→q0y G n cenv l σ₂ orelse Q))
  (hs:autoParam (∀x,foldedSetIterable iter cenv x=pure x) aI) (ht:autoParam (∀it v,letOwnedTupleGo target it v=pure ()) aI):OkS G n cenv loc σ (.For target iter body orelse pos) Q:=λA ρ s rm S F=>by
 refine wpAny_For (h.then rm S F λv x ρ₀ σ₀ s₀ S₀ N₀ F₀ hv q=>?_) hs
 refine c0e (q) λxs C hit q=>?_
 refine g0k q λI q hC hturn hend=>?_
 refine a0a q λl₀ hsub hI0=>?_
 refine hit A ρ₀ s₀ v rm S₀ hv _ λa J h' tk IT hfresh hk hJ0=>?_
 have Nk:Nxt f0g ρ₀ s₀ ρ₀ {s₀ with heap:=h',toks:=tk}:=Nxt.keeps hk
 have hown: ¬d0x cenv a:=λhb=>(F₀.own_alive hb).1.elim λo e=>b0n (hfresh.symm.trans e)
 refine codeAny_forLoop (ForI G cenv xs.length I ρ₀ s₀ J a) (λm s₁ p=>?_) xs.length ⟨0,l₀,ρ₀,σ₀,by exact LA [_] [] 6530 rfl,hI0,S₀.keeps hk rfl rfl,e0a Nk,(F₀.next Nk).weak hsub,hJ0,S₀.fresh' hfresh⟩ (λv=>ht _ v)
 obtain⟨i,l₁,ρ₁,σ₁,hm,hI,S₁,N₁,F₁,hJ,ha⟩:=p
 have hle:i≤xs.length:=by exact LA [_,_,_] [] 2199091425352 rfl hm
 rcases Nat.lt_or_ge i xs.length with hlt|hge
 ·refine a0w (IT.item rm S₁ (hC i l₁ σ₁ hle hI) hJ (List.getElem?_eq_getElem hlt) λv h₂ tk₂ hv hJ' hk₂=>?_)
  refine j0d (tk₁:=tk₂) S₀ S₁ N₁ F₁ ha (IT.obj hJ) hk₂ hown hfresh λS₂ N₂ F₂ tk'=>?_
  refine a0w (wpAny_mono (hturn i _ l₁ σ₁ (List.getElem?_eq_getElem hlt) hI A ρ₁ _ v rm S₂ F₂ (V.mono List.prefix_rfl tk' _ _ hv)) (λ_ s₃ p=>?_) λ_ _ e=>e)
  obtain⟨l₃,ρ₃,σ₃,S₃,N₃,F₃,q₃⟩:=p
  refine a0w (wpAny_mono (q₃ A ρ₃ s₃ rm S₃ F₃) (λf s₄ p=>p.el λfl l₄ ρ₄ σ₄ S₄ N₄ F₄ hf q₄=>?_) λ_ _ e=>e)
  have N04:=N₂.trans (N₃.trans N₄)
  refine loop_post S₄ ((e0a N₀).trans N04) F₄ q₄ hf (λq=>?_) (λh=>h) (λh=>h) λ_ h=>h
  refine a0m (IT.after hown (N₃.trans N₄) ha hJ') λhJ4 ha4=>a0a q λl' hs' hI'=>?_
  exact⟨m - 1,by exact LA [_,_,_] [] 1440468529926867267656 rfl hm hlt,i+1,l',ρ₄,σ₄,by exact LA [_,_,_] [] 2748387792509341410173923400 rfl hm hlt,hI',S₄,N04,F₄.weak hs',hJ4,ha4⟩
 ·have hi:i=xs.length:=by exact LA [_,_,_] [] 2308097016708739144 rfl hm hge
  clear hm hge hle;subst hi
  exact a0w (IT.done rm S₁ (hC _ l₁ σ₁ (Nat.le_refl _) hI) hJ λh₂ tk₂ hk₂=>j0d (tk₁:=tk₂) S₀ S₁ N₁ F₁ ha (IT.obj hJ) hk₂ hown hfresh λS₂ N₂ F₂ tk'=>a0w (m0h ((e0a N₀).trans N₂) (hend l₁ σ₁ hI A ρ₁ _ rm S₂ F₂)))
end
noncomputable def o0s(cells:List (PySem.Str×Addr)):List (PySem.Str×NameKind)→List (PySem.Str×Addr)→List (PySem.Str×Addr)
 |[],acc=>acc
 |(n,k)::r,acc=>if k== .free then(match cells.lookup n with|some c=>o0s cells r ((n,c)::acc)|none=>o0s cells r acc)else o0s cells r acc
theorem clY{cells acc:List (PySem.Str×Addr)}{n:PySem.Str}{k:NameKind}{c:Addr}{r:List (PySem.Str×NameKind)}(h:(k== .free)=true)(e:cells.lookup n=some c):o0s cells ((n,k)::r) acc=o0s cells r ((n,c)::acc):=by
 refine(if_pos h).trans ?_
 rw[e]
theorem clN{cells acc:List (PySem.Str×Addr)}{n:PySem.Str}{k:NameKind}{r:List (PySem.Str×NameKind)}(h:(k== .free)=true→cells.lookup n=none):o0s cells ((n,k)::r) acc=o0s cells r acc:=by
 by_cases q:(k== .free)=true
 ·refine(if_pos q).trans ?_
  rw[h q]
 ·exact if_neg q
theorem u0u{scope:Scope}{env:Env}(h: ∀p∈scope.names,p.2=.free→(env.cells.lookup p.1).isSome=true):closureFor scope env=pure (o0s env.cells scope.names []):=by
 unfold closureFor
 have key: ∀(l:List (PySem.Str×NameKind)) (acc:List (PySem.Str×Addr)),(∀p∈l,p.2=.free→(env.cells.lookup p.1).isSome=true)→
   (forIn l acc λp cs=>match p with|(name,kind)=>if(kind==NameKind.free)=true then do let c ←cellOf env name;pure (ForInStep.yield ((name,c)::cs))else pure (ForInStep.yield cs))=(pure (o0s env.cells l acc):Sem _):=by
  intro l
  induction l with
  |nil=>intro acc _;rfl
  |cons p r ih=>
   intro acc h
   obtain⟨n,k⟩:=p
   rw[List.forIn_cons]
   by_cases hk:(k==NameKind.free)=true
   ·have hs:=h (n,k) (.head _) (eq_of_beq hk)
    refine a0k (Option.isSome_iff_exists.mp hs) λc hc=>?_
    have hc':env.cells.lookup n=some c:=hc
    have e:cellOf env n=pure c:=by unfold cellOf;rw[hc']
    rw[clY hk hc']
    simp only[hk,if_true,e,pure_bind]
    exact ih _ λp hp=>h p (.tail _ hp)
   ·rw[clN λq=>absurd q hk]
    simp only[hk,Bool.false_eq_true,if_false,pure_bind]
    exact ih _ λp hp=>h p (.tail _ hp)
 rw[show(pure (o0s env.cells scope.names []):Sem _)=(pure (o0s env.cells scope.names [])>>=pure)from rfl,←key scope.names [] h]
theorem n0p{cells:List (PySem.Str×Addr)}: ∀{l:List (PySem.Str×NameKind)} {acc:List (PySem.Str×Addr)} {n:PySem.Str} {c:Addr},(n,c)∈o0s cells l acc→(n,c)∈acc∨cells.lookup n=some c
 |[],_,_,_,h=>.inl h
 |(m,k)::r,acc,n,c,h=>by
  have no (q:o0s cells ((m,k)::r) acc=o0s cells r acc):(n,c)∈acc∨cells.lookup n=some c:=n0p (q▸h)
  by_cases hk:(k==NameKind.free)=true
  ·cases e:cells.lookup m with
   |none=>exact no (clN λ_=>e)
   |some d=>
    rw[clY hk e]at h
    rcases n0p h with h|h
    ·rcases List.mem_cons.mp h with h|h
     ·cases h;exact .inr e
     ·exact .inl h
    ·exact .inr h
  ·exact no (clN λq=>absurd q hk)
set_option tactic.hygienic true in
theorem f0o{cells:List (PySem.Str×Addr)}{n:PySem.Str}{c:Addr}(hc:cells.lookup n=some c): ∀{l:List (PySem.Str×NameKind)} {acc:List (PySem.Str×Addr)},((n,NameKind.free)∈l∨acc.lookup n=some c)→(∀d,(n,d)∈acc→d=c)→(o0s cells l acc).lookup n=some c
 |[],acc,h,_=>h.elim (λx=>by(exact absurd x nofun)) id
 |(m,k)::r,acc,h,u=>by
  have hu: ∀e,cells.lookup m=some e→∀d,(n,d)∈(m,e)::acc→d=c:=λe he d hd=>by
   rcases List.mem_cons.mp hd with hd|hd
   ·clear h;cases hd;(rw[hc]at he;have he:=he);(clear hd;cases he);rfl
   ·exact u d hd
  by_cases hk:(k==NameKind.free)=true
  ·cases he:cells.lookup m with
   |some e=>
    rw[clY hk he]
    refine f0o hc ?_ (hu e he)
    by_cases hm:n=m
    ·clear h hu;subst hm;(rw[hc]at he;have he:=he);cases he;exact .inr (by simp)
    ·rcases h with h|h
     ·rcases List.mem_cons.mp h with h|h
      ·clear hu he;cases h;exact absurd rfl hm
      ·exact .inl h
     ·refine .inr ?_
      rw[List.lookup_cons]
      have:(n==m)=false:=by exact decide_eq_false ‹_›
      rw[this];exact h
   |none=>
    rw[clN λ_=>he]
    refine f0o hc ?_ u
    rcases h with h|h
    ·rcases List.mem_cons.mp h with h|h
     ·clear hu;cases h;(rw[hc]at he;have he:=he);(exact b0n he.symm)
     ·exact .inl h
    ·exact .inr h
  ·rw[clN λq=>absurd q hk]
   refine f0o hc ?_ u
   rcases h with h|h
   ·rcases List.mem_cons.mp h with h|h
    ·clear hu;cases h;exact absurd rfl hk
    ·exact .inl h
   ·exact .inr h
theorem h0l{env:Env}{n:PySem.Str}: ∀{names:List (PySem.Str×NameKind)},(names.map λ(n,k)=>if(k==NameKind.free&&env.scope.kind== .function&&env.kindOf n==some .cell)then(n,NameKind.cell)else(n,k)).lookup n=
  (names.lookup n).map λk=>if(k==NameKind.free&&env.scope.kind== .function&&env.kindOf n==some .cell)then NameKind.cell else k
 |[]=>rfl
 |(m,k)::r=>by
  have ih:=@h0l env n r
  have pull:(if(k==NameKind.free&&env.scope.kind== .function&&env.kindOf m==some .cell)=true then(m,NameKind.cell)else(m,k))=(m,if(k==NameKind.free&&env.scope.kind== .function&&env.kindOf m==some .cell)=true then NameKind.cell else k):=by split<;>rfl
  rw[List.map_cons]
  dsimp only
  rw[pull]
  by_cases hm:n=m
  ·clear pull;subst hm
   rw[List.lookup_cons_self,List.lookup_cons_self];rfl
  ·have e:(n==m)=false:=by exact decide_eq_false ‹_›
   rw[List.lookup_cons,e,List.lookup_cons,e];exact ih
noncomputable def f0p(scope:Scope)(cenv:Env)(x:PySem.Str)(p:PySem.Str×NameKind):Bool:=match p.2 with
  | .local=>(p.1==x||p.1==(".0":PySem.Str))&&scope.names.lookup p.1==some .local
  | .free=>cenv.kindOf p.1==some .cell&&(cenv.cells.lookup p.1).isSome
  | .cell=>false
  |_=>true
noncomputable def j0y(scope:Scope)(cenv:Env)(x:PySem.Str):Bool:=scope.kind== .function&&scope.names.lookup x==some .local&&scope.names.all (f0p scope cenv x)
theorem g0j{scope:Scope}{cenv:Env}{x:PySem.Str}{C:Prop}(h:j0y scope cenv x=true)(k:scope.kind=.function→scope.names.lookup x=some .local→(∀p∈scope.names,f0p scope cenv x p=true)→C):C:=
 a0m (Bool.and_eq_true_iff.mp h) λa b=>a0m (Bool.and_eq_true_iff.mp a) λa c=>k (eq_of_beq a) (eq_of_beq c) (List.all_eq_true.mp b)
theorem n0s{scope:Scope}{cenv:Env}{x:PySem.Str}{p:PySem.Str×NameKind}(h:f0p scope cenv x p=true)(e:p.2=.free):(cenv.cells.lookup p.1).isSome=true:=by
 unfold f0p at h;rw[e]at h;exact(Bool.and_eq_true_iff.mp h).2
theorem h0k{scope:Scope}{cenv:Env}{x:PySem.Str}{p:PySem.Str×NameKind}(h:f0p scope cenv x p=true)(e:p.2=.local):(p.1=x∨p.1=(".0":PySem.Str))∧scope.names.lookup p.1=some .local:=by
 unfold f0p at h;rw[e]at h;exact a0m (Bool.and_eq_true_iff.mp h) λa b=>⟨(Bool.or_eq_true_iff.mp a).imp eq_of_beq eq_of_beq,eq_of_beq b⟩
section
variable {G:Gx} {n:Nat} {cenv:Env} {loc:Loc} {σ:Sig} {α β γ δ:Type} {K:Frag}
noncomputable abbrev g0e (scope:Scope) (cenv:Env) (L:Addr):Env:=compEnvC scope (o0s cenv.cells scope.names []) L cenv
theorem m0t{scope:Scope}{L:Addr}{z:PySem.Str}{c:NameKind}(h:(g0e scope cenv L).kindOf z=some c):(c=.cell∧(z,.free)∈scope.names∧scope.names.lookup z=some .free∧cenv.kindOf z=some .cell)∨scope.names.lookup z=some c:=by
 refine a0a (Option.map_eq_some_iff.mp (h0l.symm.trans h)) λk ek hk2=>?_
 cases hc:(k==NameKind.free&&cenv.scope.kind== .function&&cenv.kindOf z==some .cell)with
 |true=>
  rw[hc]at hk2
  exact a0m (Bool.and_eq_true_iff.mp hc) λa b=>a0m (Bool.and_eq_true_iff.mp a) λa _=>.inl ⟨hk2.symm,eq_of_beq a▸mem_of_lookup ek,eq_of_beq a▸ek,eq_of_beq b⟩
 |false=>rw[hc]at hk2;exact .inr (ek.trans (congrArg some hk2))
theorem a1u{scope:Scope}{x:PySem.Str}(hk:j0y scope cenv x=true){L:Addr}{y:AV}{v:Value}{ρ:List Addr}{s:Shared}{m:PySem.Str→Option Value}(F:FrOk G cenv loc ρ s)(h0:loc.lookup (".0":PySem.Str)=none)
  (hL:s.heap.Ns L m) (hm:m x=some v) (hv:V ρ s.heap y v) (hLρ:L∉ρ) (hLb:G.base.get? L=none):FrOk G (g0e scope cenv L) ((x,y)::loc) ρ s:=
 g0j hk λhkind hx hall=>
 have cl: ∀{n c},(n,c)∈o0s cenv.cells scope.names []→cenv.cells.lookup n=some c:=λh=>(n0p h).elim (λh=>(List.not_mem_nil h).elim) id
 ⟨hkind,F.glob,F.blt,⟨m,hL,λz w hz hkz=>(h0s hz).elim (λq=>⟨v,q.1▸hm,q.2▸hv⟩) λq=>(m0t hkz).elim (λq=>nomatch q.1) λe=>(h0k (hall _ (mem_of_lookup e)) rfl).1.elim (λe=>absurd e q.1) λe=>b0n (h0.symm.trans ((show z=(".0":PySem.Str)from e)▸q.2))⟩,⟨hLρ,hLb⟩,λz c hc=>F.cells z c (mem_of_lookup (cl hc)),
  λz w hz hkz=>(m0t hkz).elim (λe=>r0m e λ_ hmem ek hc3=>(h0s hz).elim (λq=>nomatch(q.1▸ek).symm.trans hx) λq=>b0j (F.cval z w q.2 hc3) λc cv hc hi hV=>⟨c,cv,f0o hc (.inl hmem) (λd hd=>(List.not_mem_nil hd).elim),hi,hV⟩)
   λe=>a0t (hall _ (mem_of_lookup e)),
  λa b c ha hb=>F.apart a b c (mem_of_lookup (cl ha)) (mem_of_lookup (cl hb))⟩
theorem m0u{prog:Program}{w:World}{A:Around}{E:Value→Shared→Prop}{s:Shared}{l:Addr}{vs:List Value}{m:Nat}{x:Value}{Q:Value→Shared→Prop}(hl:IsL s.heap l vs.toArray m)(hz:vs.length≤sizeLine)
  (hQ: ∀h' m',IsL h' l (vs++[x]).toArray m'→Heap.SameBut l s.heap h'→Q .none {s with heap:=h'}):wpAny (model prog w) A (call (.builtin "list.append") [.ref l,x]) Q E s:=by
 refine call_meets slot_list_append (IsL.typeIs hl) entry_list_append (args_list_append _ _) (list_append l vs.toArray m x (by assumption)) ⟨hl,hQ _ (m+1) ?_ (Heap.SameBut.update ..)⟩
 unfold IsL
 rw[Heap.get?_update_self _ hl (by rfl)]
 simp[Obj.mapSeq]
theorem q0d{h:Heap}{a:Addr}{f:PySem.Str→Option Value}(x:h.Ns a f)(o:Obj)(e:h.get? a=some o): ¬Imm o:=h0o x λ_ _ _ ho r=>Option.some.inj (ho.symm.trans e)▸b0y r.1
theorem v0f{h:Heap}{a:Addr}{us:Array Value}{m:Nat}(x:IsL h a us m)(o:Obj)(e:h.get? a=some o): ¬Imm o:=Option.some.inj (x.symm.trans e)▸i0t (by simp) (by simp) (by simp)
inductive CompI(G:Gx)(n:Nat)(I:Nat→List AV→Sig→Prop)(ρ:List Addr)(s₁:Shared)(J:Nat→List Addr→Heap→Prop)(a D Cx:Addr)(m:Nat)(s':Shared):Prop
 |mk (i:Nat) (ys:List AV) (ρ':List Addr) (σ':Sig) (vs:List Value) (k:Nat) (mm:PySem.Str→Option Value) (him:i+m=n) (hI:I i ys σ') (hys:ys.length≤i) (S:G.St ρ' σ' s') (N:Nxt f0g ρ s₁ ρ' s') (hJ:J i ρ' s'.heap) (ha:a∉ρ') (hL:IsL s'.heap D vs.toArray k) (hVL:VL ρ' s'.heap ys vs) (hD:D∉ρ') (hC:Cx∉ρ') (hNs:s'.heap.Ns Cx mm)
theorem Nxt.stays{own:Addr→Prop}{ρ ρ':List Addr}{s s':Shared}(N:Nxt own ρ s ρ' s'){b:Addr}{o:Obj}(e:s.heap.get? b=some o)(h:b∉ρ):b∉ρ':=λq=>(N.new b q).elim h λq=>b0n (q.symm.trans e)
theorem o0f{h h':Heap}{a:Addr}{m:PySem.Str→Option Value}(x:h.Ns a m)(k: ∀o,h.get? a=some o→h'.get? a=some o):h'.Ns a m:=h0o x λo es ep ho r=>⟨o,es,ep,k _ ho,r⟩
theorem p0b{a D Cx:Addr}{xs:List AV}{C:Sig→Prop}{J:Nat→List Addr→Heap→Prop}(IT:Iter G a xs C J){ρh ρ₅:List Addr}{h s₅:Shared}{j k:Nat}{vs:Array Value}{mm:PySem.Str→Option Value}(N:Nxt f0g ρh h ρ₅ s₅)(h1:D∉ρh)(h2:Cx∉ρh)(h3:a∉ρh)(hL:IsL h.heap D vs k)(hN:h.heap.Ns Cx mm)(hJ:J j ρh h.heap){P:Prop}
  (k:IsL s₅.heap D vs k→s₅.heap.Ns Cx mm→J j ρ₅ s₅.heap→D∉ρ₅→Cx∉ρ₅→a∉ρ₅→P):P:=
 a0a (IT.obj hJ) λoa hoa _=>h0o hN λo es ep ho r=>k (N.keep _ _ hL h1 id) (o0f hN λo e=>N.keep _ _ e h2 id) (IT.frame hJ (λo e=>N.keep _ _ e h3 id) N.pre N.tk) (N.stays hL h1) (N.stays ho h2) (N.stays hoa h3)
theorem w0t{elt iter:Expr}{x:PySem.Str}{px:Pos}{ifs:List Expr}{scope:Scope}{pos:Pos}{A:Around}{ρ:List Addr}{s₁ s':Shared}{a D Cx:Addr}{xs:List AV}{C:Sig→Prop}{J:Nat→List Addr→Heap→Prop}{R:Result→Shared→Prop}
  (rm:e0t n A) (S₁:G.St ρ σ s₁) (F₁:FrOk G cenv loc ρ s₁) (IT:Iter G a xs C J) (hfresh:s₁.heap.get? a=none) (hsc:j0y scope cenv x=true) (h0:loc.lookup (".0":PySem.Str)=none)
  (hlen:xs.length≤1000000) (I:Nat→List AV→Sig→Prop) (hC: ∀i ys σ',i≤xs.length→I i ys σ'→C σ')
  (turn: ∀i y ys σ',xs[i]?=some y→I i ys σ'→∀L,OkT G n (g0e scope cenv L) ((x,y)::loc) σ' rId (forIn ifs true λc r=>if r=true then do let ok ←isTrue c (g0e scope cenv L) (eval c (g0e scope cenv L));pure (ForInStep.yield ok)else pure (ForInStep.yield r)) λb σ₁=>
   if b then OkE G n (g0e scope cenv L) ((x,y)::loc) σ₁ elt λz σ₂=>I (i+1) (ys++[z]) σ₂ else I (i+1) ys σ₁)
  (hD1:s₁.heap.get? D=none) (hC1:s₁.heap.get? Cx=none) (hDC:D≠Cx) (haD:a≠D) (haC:a≠Cx)
  (hR: ∀ys σ' ρ' s' vs m mm,I xs.length ys σ'→ys.length≤xs.length→G.St ρ' σ' s'→Nxt f0g ρ s₁ ρ' s'→IsL s'.heap D vs m→VL ρ' s'.heap ys vs.toList→D∉ρ'→Cx∉ρ'→s'.heap.Ns Cx mm→R (.ok .next) s')
  (h:CompI G xs.length I ρ s₁ J a D Cx xs.length s'):codeAny G.M A (.compLoop (.ListComp elt [⟨.Name x px,iter,ifs,0⟩] scope pos) 0 (.ref a) (.ref D) (g0e scope cenv Cx)) R s':=by
 refine codeAny_compLoop_tests (CompI G xs.length I ρ s₁ J a D Cx) (λm s' p=>?_) xs.length h
 clear h
 obtain⟨i,ys,ρ',σ',vs,k,mm,him,hI,hys,S',N',hJ,ha',hL',hVL,hD',hC',hNs⟩:=p
 rcases Nat.lt_or_ge i xs.length with hlt|hge
 ·refine a0w (IT.item rm S' (hC i ys σ' (Nat.le_of_lt hlt) hI) hJ (List.getElem?_eq_getElem hlt) λv h₂ tk₂ hv hJ' hk₂=>?_)
  refine b0l (g1k (tk:=tk₂) S₁ S' N' hfresh ha' (h0r (IT.obj hJ)) hk₂) λS₃ N₃ t₃=>?_
  have hNs₃:h₂.Ns Cx mm:=o0f hNs λo e=>hk₂ _ _ (Ne.symm haC) e
  refine wpAny_assign_Name (wpAny_storeName_local (env:=g0e scope cenv Cx) (g0j hsc λ_ hx _=>lookup_relabel_local hx) hNs₃ (λh₄ hn₄ hs₄=>?_) (g0j hsc λhk _ _=>by show(scope.kind== .class||(scope.kind== .module&&Cx !=cenv.globals))=false;rw[hk];rfl))
  refine b0l (g1k (tk:=tk₂+1) S₁ S₃ N₃ hC1 hC' (q0d hNs₃) (λc o hc e=>(hs₄.2 c hc).trans e)) λS₄ N₄ t₄=>?_
  refine a0w ((turn i _ ys σ' (List.getElem?_eq_getElem hlt) hI Cx).then rm S₄ (a1u hsc (F₁.next N₄) h0 hn₄ (by exact if_pos rfl) (V.mono List.prefix_rfl (t₃.trans t₄) _ _ hv) hC' (g0v S₁.base hC1)) λb b' ρ₅ σ₅ s₅ S₅ N₅ F₅ hb q=>?_)
  cases hb
  refine p0b IT N₅ hD' hC' ha' ((hs₄.2 _ hDC).trans (hk₂ _ _ (Ne.symm haD) hL')) hn₄ (IT.frame hJ' (λo e=>(hs₄.2 _ haC).trans e) List.prefix_rfl t₄) λhL₅ hNs₅ hJ₅ hD₅ hC₅ ha₅=>?_
  have hVL₅:=VL.mono N₅.pre ((t₃.trans t₄).trans N₅.tk) _ _ hVL
  have N₅:=N₄.trans N₅
  cases b with
  |false=>exact⟨m - 1,by exact LA [_,_,_] [] 1440468529926867267656 rfl him hlt,i+1,ys,ρ₅,σ₅,vs,k,_,by exact LA [_,_,_] [] 2748387792509341410173923400 rfl him hlt,q,Nat.le_succ_of_le hys,S₅,N₅,hJ₅,ha₅,hL₅,hVL₅,hD₅,hC₅,hNs₅⟩
  |true=>
   refine a0w ((show OkE _ _ _ _ _ _ _ from q).then rm S₅ F₅ λz zz ρ₆ σ₆ s₆ S₆ N₆ F₆ hz q₆=>?_)
   refine p0b IT N₆ hD₅ hC₅ ha₅ hL₅ hNs₅ hJ₅ λhL₆ hNs₆ hJ₆ hD₆ hC₆ ha₆=>?_
   have hVL₆:=VL.mono N₆.pre N₆.tk _ _ hVL₅
   have hvl:=VL.length hVL₆
   refine a0w (m0u hL₆ (by rw[sizeLine_eq];exact LA [_,_,_,_] [] 33451120044766245594574299813435423501680648 rfl hlen hys hlt hvl) λh₇ m₇ hL₇ hs₇=>?_)
   refine b0l (g1k (tk:=s₆.toks) S₁ S₆ (N₅.trans N₆) hD1 hD₆ (v0f hL₆) (λc o hc e=>(hs₇.2 c hc).trans e)) λS₇ N₇ t₇=>?_
   exact⟨m - 1,by exact LA [_,_,_] [] 1440468529926867267656 rfl him hlt,i+1,ys++[zz],ρ₆,σ₆,vs++[z],m₇,_,by exact LA [_,_,_] [] 2748387792509341410173923400 rfl him hlt,q₆,(List.length_append ..)▸Nat.succ_le_succ hys,S₇,N₇,IT.frame hJ₆ (λo e=>(hs₇.2 _ haD).trans e) List.prefix_rfl t₇,ha₆,hL₇,
    VL.append (VL.mono List.prefix_rfl t₇ _ _ hVL₆) ⟨z,[],rfl,V.mono List.prefix_rfl t₇ _ _ hz,rfl⟩,hD₆,hC₆,o0f hNs₆ λo e=>(hs₇.2 _ (Ne.symm hDC)).trans e⟩
 ·have hi:i=xs.length:=by exact LA [_,_,_] [] 2308097016708739144 rfl him hge
  clear him hge;subst hi
  exact a0w (IT.done rm S' (hC _ ys σ' (Nat.le_refl _) hI) hJ λh₂ tk₂ hk₂=>b0l (g1k (tk:=tk₂) S₁ S' N' hfresh ha' (h0r (IT.obj hJ)) hk₂) λS₃ N₃ t₃=>
   hR ys σ' ρ' _ _ k mm hI hys S₃ N₃ (hk₂ _ _ (Ne.symm haD) hL') (VL.mono List.prefix_rfl t₃ _ _ hVL) hD' hC' (o0f hNs λo e=>hk₂ _ _ (Ne.symm haC) e))
theorem w0s{elt iter:Expr}{x:PySem.Str}{px:Pos}{ifs:List Expr}{scope:Scope}{pos:Pos}{A:Around}{ρ:List Addr}{s₁ s₂:Shared}{a:Addr}{xs:List AV}{C:Sig→Prop}{J:Nat→List Addr→Heap→Prop}
  (rm:e0t n A) (S₁:G.St ρ σ s₁) (F₁:FrOk G cenv loc ρ s₁) (hk12: ∀b o,s₁.heap.get? b=some o→s₂.heap.get? b=some o) (hg:s₂.gens=s₁.gens) (hos:s₂.os=s₁.os) (IT:Iter G a xs C J) (hJ0:J 0 ρ s₂.heap) (hfresh:s₁.heap.get? a=none) (hsc:j0y scope cenv x=true) (h0:loc.lookup (".0":PySem.Str)=none)
  (hlen:xs.length≤1000000) (I:Nat→List AV→Sig→Prop) (hI0:I 0 [] σ) (hC: ∀i ys σ',i≤xs.length→I i ys σ'→C σ')
  (turn: ∀i y ys σ',xs[i]?=some y→I i ys σ'→∀L,OkT G n (g0e scope cenv L) ((x,y)::loc) σ' rId (forIn ifs true λc r=>if r=true then do let ok ←isTrue c (g0e scope cenv L) (eval c (g0e scope cenv L));pure (ForInStep.yield ok)else pure (ForInStep.yield r)) λb σ₁=>
   if b then OkE G n (g0e scope cenv L) ((x,y)::loc) σ₁ elt λz σ₂=>I (i+1) (ys++[z]) σ₂ else I (i+1) ys σ₁)
  {RR:Value→Addr→Result→Shared→Prop}
  (hRR: ∀D Cx ys σ' ρ' s' vs m mm,I xs.length ys σ'→ys.length≤xs.length→G.St ρ' σ' s'→Nxt f0g ρ s₁ ρ' s'→IsL s'.heap D vs m→VL ρ' s'.heap ys vs.toList→s₁.heap.get? D=none→s₁.heap.get? Cx=none→D≠Cx→D∉ρ'→Cx∉ρ'→s'.heap.Ns Cx mm→RR (.ref D) Cx (.ok .next) s'):
  wpAny G.M A (newList []) (λacc s₃=>wpAny G.M A (newFunctionEnv scope cenv.globals (o0s cenv.cells scope.names []) [] cenv.qual none .none (some cenv)) (λcenv' s₄=>
   codeAny G.M A (.compStart (.ListComp elt [⟨.Name x px,iter,ifs,0⟩] scope pos) 0 (.ref a) acc {cenv' with scope:=relabel scope cenv}) (RR acc cenv'.locals) s₄) noE s₃) noE s₂:=by
 refine g0j hsc λhkind hx hall=>?_
 refine wpAny_newObj_type (wpAny_newFunctionEnv (λy hy e=>by have:=hall y hy;unfold f0p at this;rw[e]at this;cases this) (λy hy=>(List.not_mem_nil hy).elim) (λh₁ hns₁ hsb₁=>?_) hkind)
 have hCs:(s₂.heap.push {cls:=.type "list",dict:=none,data:=.seq ([]:List Value).toArray}).objs.size=s₂.heap.objs.size+1:=Heap.size_push ..
 have fresh: ∀b,s₂.heap.objs.size≤b→s₁.heap.get? b=none:=λb hb=>g0v hk12 (m0r hb)
 have lt: ∀{b},b<s₂.heap.objs.size+1→b≠(s₂.heap.push {cls:=.type "list",dict:=none,data:=.seq ([]:List Value).toArray}).objs.size:=λh=>hCs▸Nat.ne_of_lt h
 have old: ∀b o,s₂.heap.get? b=some o→h₁.get? b=some o:=λb o e=>hsb₁.extBut b o (lt (Nat.lt_succ_of_lt (Heap.lt_size e))) (Heap.get?_push_of_some _ (Heap.get?_push_of_some _ e))
 have old1:=λb o e=>old b o (hk12 b o e)
 have hJ:=IT.frame hJ0 (λo e=>old _ _ e) List.prefix_rfl (TK.ofKeeps old)
 have hD1:=fresh _ (Nat.le_refl _)
 have hC1:=fresh _ (Nat.le_trans (Nat.le_succ _) (Nat.le_of_eq hCs.symm))
 refine a0a (IT.obj hJ0) λoa hoa _=>?_
 have hoa:=Heap.lt_size hoa
 have loop:=w0t (s':={s₂ with heap:=h₁,toks:=s₂.toks+([]:List (PySem.Str×Value)).length}) (elt:=elt) (iter:=iter) (px:=px) (pos:=pos) rm S₁ F₁ IT hfresh hsc h0 hlen I hC turn hD1 hC1 (lt (Nat.lt_succ_self _)) (Nat.ne_of_lt hoa) (lt (Nat.lt_succ_of_lt hoa)) (R:=RR _ _)
  (λys σ' ρ' s' vs m mm a b c d e f g i j=>hRR _ _ ys σ' ρ' s' vs m mm a b c d e f hD1 hC1 (lt (Nat.lt_succ_self _)) g i j)
  ⟨0,[],ρ,σ,[],0,_,Nat.zero_add _,hI0,Nat.le_refl _,S₁.keeps old1 hg hos,Nxt.keeps old1,hJ,S₁.fresh' hfresh,hsb₁.extBut _ _ (lt (Nat.lt_succ_self _)) (Heap.get?_push_of_some _ (Heap.get?_push_size _ rfl)),rfl,S₁.fresh' hD1,S₁.fresh' hC1,hns₁⟩
 exact codeAny_compStart_list loop (a0w (IT.self hJ loop))
noncomputable def m0l(G:Gx)(n:Nat)(cenv:Env)(loc:Loc)(scope:Scope)(x:PySem.Str)(ifs:List Expr)(elt:Expr)(src:AV)(σ₁:Sig)(Q:List AV→Sig→Prop):Prop:=
 ∃xs C,h0j G n σ₁ src xs C∧xs.length≤1000000∧∃I:Nat→List AV→Sig→Prop,I 0 [] σ₁∧(∀i ys σ',i≤xs.length→I i ys σ'→C σ')∧
  (∀i y ys σ',xs[i]?=some y→I i ys σ'→∀L,OkT G n (g0e scope cenv L) ((x,y)::loc) σ' rId (forIn ifs true λc r=>if r=true then do let ok ←isTrue c (g0e scope cenv L) (eval c (g0e scope cenv L));pure (ForInStep.yield ok)else pure (ForInStep.yield r)) λb σ₂=>
   if b then OkE G n (g0e scope cenv L) ((x,y)::loc) σ₂ elt λz σ₃=>I (i+1) (ys++[z]) σ₃ else I (i+1) ys σ₂)∧
  ∀ys σ',I xs.length ys σ'→Q ys σ'
theorem i0x{cenv:Env}{loc:Loc}{σ:Sig}{Q:Bool→Sig→Prop}(h:Q true σ):OkT G n cenv loc σ rId (forIn ([]:List Expr) true λc r=>if r=true then do let ok ←isTrue c cenv (eval c cenv);pure (ForInStep.yield ok)else pure (ForInStep.yield r)) Q:=λA ρ s rm S F=>by
 rw[List.forIn_nil];exact wpAny_pure (a0e (tk:=s.toks) S rfl h)
theorem z0f{cenv:Env}{loc:Loc}{σ:Sig}{c:Expr}{Q:Bool→Sig→Prop}(h:OkB G n cenv loc σ c Q):OkT G n cenv loc σ rId (forIn [c] true λc r=>if r=true then do let ok ←isTrue c cenv (eval c cenv);pure (ForInStep.yield ok)else pure (ForInStep.yield r)) Q:=λA ρ s rm S F=>
 wpAny_tests_one (h A ρ s rm S F)
theorem s0x{elt iter:Expr}{x:PySem.Str}{px:Pos}{ifs:List Expr}{scope:Scope}{pos:Pos}{A:Around}{ρ:List Addr}{s:Shared}{use:Option (Value→Sem Unit)}{Qe:List AV→Sig→Prop}{QQ:Value→Shared→Prop}
  (rm:e0t n A) (S:G.St ρ σ s) (F:FrOk G cenv loc ρ s) (h0:loc.lookup (".0":PySem.Str)=none) (hsc:j0y scope cenv x=true)
  (h:OkE G n cenv loc σ iter λsrc σ₁=>m0l G n cenv loc scope x ifs elt src σ₁ Qe)
  (fin: ∀D Cx ys σ' ρ' s',ys.length≤1000000→Qe ys σ'→G.St (ρ'++[D]) (σ'++[.list ys]) s'→Nxt f0g ρ s (ρ'++[D]) s'→ρ'.length=σ'.length→(∃mm,s'.heap.Ns Cx mm)→s.heap.get? Cx=none→Cx∉ρ'++[D]→compPost G.M A noE use QQ (.ref D) Cx (.ok .next) s')
  (hs: ∀x,foldedSetIterable iter cenv x=pure x):wpAny G.M A (comprehension (.ListComp elt [⟨.Name x px,iter,ifs,0⟩] scope pos) scope cenv pos' (newList []) false (eval iter cenv) use) QQ noE s:=by
 refine g0j hsc λhkind _ hall=>?_
 refine wpAny_comprehension_free (use:=use) rfl hs (u0u λp hp hf=>n0s (hall p hp) hf) hkind (λp hp hl=>(h0k (hall p hp) hl).2) (h.then rm S F λv src ρ₁ σ₁ s₁ S₁ N₁ F₁ hv q=>?_)
 refine b0j q λxs C hit hlen q=>g0k q λI hI0 hC turn hend=>?_
 refine hit A ρ₁ s₁ v rm S₁ hv _ λa J h' tk IT hfresh hk hJ0=>?_
 refine w0s (s₂:={s₁ with heap:=h',toks:=tk}) (RR:=λacc Cx=>compPost G.M A noE use QQ acc Cx) rm S₁ F₁ hk rfl rfl IT hJ0 hfresh hsc h0 hlen I hI0 hC turn λD Cx ys σ' ρ' s' vs m mm hI hys S' N' hL hVL hD1 hC1 hDC hD hC' hNs=>?_
 have fr: ∀b,s₁.heap.get? b=none→s.heap.get? b=none:=λb hb=>by
  cases q:s.heap.get? b with
  |none=>rfl
  |some o=>exact(N₁.live b o q).elim λo' e=>b0n (hb.symm.trans e)
 have N:=N₁.trans N'
 have app: ∀{b},b∈ρ'++[D]→b∈ρ'∨b=D:=λh=>(List.mem_append.mp h).imp id List.mem_singleton.mp
 exact fin D Cx ys σ' ρ' s' (Nat.le_trans hys hlen) (hend ys σ' hI) (S'.adopt hD (g0v S₁.base hD1) ⟨vs.toList,m,hL,VL.mono (List.prefix_append _ _) (TK.refl _) _ _ hVL,by rw[sizeLine_eq];exact LA [_,_] [] 30423616446720454173194087399432 rfl hlen hys⟩)
  ⟨N.pre.trans (List.prefix_append _ _),λb hb=>(app hb).elim (N.new b) λe=>.inr (e▸fr _ hD1),N.keep,N.tk,N.live⟩ S'.len ⟨mm,hNs⟩ (fr _ hC1) λh=>(app h).elim hC' λe=>hDC e.symm
theorem g1u{elt iter:Expr}{x:PySem.Str}{px:Pos}{ifs:List Expr}{scope:Scope}{pos:Pos}{Q:AV→Sig→Prop}
  (h:OkE G n cenv loc σ iter λsrc σ₁=>m0l G n cenv loc scope x ifs elt src σ₁ λys σ'=>Q (.ref σ'.length) (σ'++[.list ys]))
  (h0:autoParam (loc.lookup (".0":PySem.Str)=none) aR) (hsc:autoParam (j0y scope cenv x=true) aR) (hs:autoParam (∀x,foldedSetIterable iter cenv x=pure x) aI):OkE G n cenv loc σ (.ListComp elt [⟨.Name x px,iter,ifs,0⟩] scope pos) Q:=λA ρ s rm S F=>by
 rw[eval_ListComp]
 refine s0x (use:=none) rm S F h0 hsc h (λD Cx ys σ' ρ' s' hys hQ S' N' hlen ⟨mm,hNs⟩ hC1 hCρ=>⟨mm,hNs,λh' hsb=>?_⟩) hs
 refine b0l (g1k (tk:=s'.toks) S S' N' hC1 hCρ (q0d hNs) (λc o hc e=>(hsb.2 c hc).trans e)) λS₂ N₂ t₂=>?_
 exact⟨.ref σ'.length,ρ'++[D],σ'++[.list ys],S₂,N₂,⟨D,by rw[←hlen];exact gn0,rfl⟩,hQ⟩
theorem w0c{y:PySem.Str}{py:Pos}{elt iter:Expr}{x:PySem.Str}{px:Pos}{ifs:List Expr}{scope:Scope}{pos spos:Pos}{Q:AFlow→Loc→Sig→Prop}
  (h:OkE G n cenv loc σ iter λsrc σ₁=>m0l G n cenv loc scope x ifs elt src σ₁ λys σ'=>Q .next ((y,.ref σ'.length)::loc) (σ'++[.list ys]))
  (hky:autoParam (cenv.kindOf y=some .local) aR) (hsw:autoParam (swapsWith (.ListComp elt [⟨.Name x px,iter,ifs,0⟩] scope pos) (some (.Name y py)) spos.line cenv=pure true) aR)
  (h0:autoParam (loc.lookup (".0":PySem.Str)=none) aR) (hsc:autoParam (j0y scope cenv x=true) aR) (hs:autoParam (∀x,foldedSetIterable iter cenv x=pure x) aI):OkS G n cenv loc σ (.Assign [.Name y py] (.ListComp elt [⟨.Name x px,iter,ifs,0⟩] scope pos) spos) Q:=λA ρ s rm S F=>by
 rw[exec_Assign_Name_used _ _ _ _ hsw]
 refine wpAny_bind (wpAny_standAt (wpAny_bind ?_))
 show wpAny _ A (do let _ ←comprehension (.ListComp elt [⟨.Name x px,iter,ifs,0⟩] scope pos) scope cenv _ (newList []) false (eval iter cenv) (some (assign (.Name y py) cenv))) _ _ s
 refine wpAny_bind (wpAny_mono (s0x (use:=some (assign (.Name y py) cenv)) (QQ:=λ_ s'=>PostS G cenv ρ s Q .next s') rm S F h0 hsc h (λD Cx ys σ' ρ' s' hys hQ S' N' hlen ⟨mm,hNs⟩ hC1 hCρ=>?_) hs) (λ_ s' hq=>wpAny_pure (wpAny_pure hq)) λ_ _ e=>e)
 show wpAny _ A (assign (.Name y py) cenv (.ref D)) _ _ _
 have A1:OkA G n cenv loc (σ'++[.list ys]) (.Name y py) (.ref σ'.length) λl σ₂=>Q .next l σ₂:=e0q hky hQ
 have F':=F.next N'
 have hnown: ¬d0x cenv Cx:=λhb=>(F.own_alive hb).1.elim λo e=>b0n (hC1.symm.trans e)
 refine wpAny_mono (A1 A _ s' _ rm S' F' ⟨D,by rw[←hlen];exact gn0,rfl⟩) (λ_ s₂ p=>?_) λ_ _ e=>e
 obtain⟨l,ρ₂,σ₂,S₂,N₂,F₂,q₂⟩:=p
 refine h0o hNs λo es ep ho r=>?_
 have hNs₂:s₂.heap.Ns Cx mm:=⟨o,es,ep,N₂.keep _ _ ho hCρ hnown,r⟩
 exact⟨mm,hNs₂,λh' hsb=>j0d (tk₁:=s₂.toks) S S₂ ((e0a N').trans N₂) F₂ (N₂.stays ho hCρ) ⟨o,N₂.keep _ _ ho hCρ hnown,b0y r.1⟩ (λc ob hc e=>(hsb.2 c hc).trans e) hnown hC1 λS₃ N₃ F₃ _=>⟨.next,l,ρ₂,σ₂,S₃,N₃,F₃,rfl,q₂⟩⟩
end
section
variable {G:Gx} {n:Nat} {cenv:Env} {loc:Loc} {σ:Sig} {α β γ δ:Type} {K:Frag}
theorem o1v{f:Value}{xs:List AV}{Q:AV→Sig→Prop}(h: ∀A ρ s vs,e0t n A→G.St ρ σ s→VL ρ s.heap xs vs→wpAny G.M A (call f vs) (Post G ρ s V Q) noE s):a0b G n f xs σ Q:=h
theorem j0f{f:Value}{x:AV}{Q:AV→Sig→Prop}(h: ∀A ρ s v,e0t n A→G.St ρ σ s→V ρ s.heap x v→wpAny G.M A (call f [v]) (Post G ρ s V Q) noE s):a0b G n f [x] σ Q:=λA ρ s vs rm S hv=>by
 obtain⟨v,r,rfl,hv,hr⟩:=hv;(subst hr);exact h A ρ s v rm S hv
theorem d1r{f:Value}{x y:AV}{Q:AV→Sig→Prop}(h: ∀A ρ s v u,e0t n A→G.St ρ σ s→V ρ s.heap x v→V ρ s.heap y u→wpAny G.M A (call f [v,u]) (Post G ρ s V Q) noE s):a0b G n f [x,y] σ Q:=λA ρ s vs rm S hv=>by
 obtain⟨v,r,rfl,hv,u,r',rfl,hu,hr⟩:=hv;(subst hr);exact h A ρ s v u rm S hv hu
theorem a1b{f:Value}{x y z:AV}{Q:AV→Sig→Prop}(h: ∀A ρ s v u t,e0t n A→G.St ρ σ s→V ρ s.heap x v→V ρ s.heap y u→V ρ s.heap z t→wpAny G.M A (call f [v,u,t]) (Post G ρ s V Q) noE s):a0b G n f [x,y,z] σ Q:=λA ρ s vs rm S hv=>by
 obtain⟨v,r,rfl,hv,u,r',rfl,hu,t,r'',rfl,ht,hr⟩:=hv;(subst hr);exact h A ρ s v u t rm S hv hu ht
theorem l1v{f:Value}{Q:AV→Sig→Prop}(h: ∀A ρ s,e0t n A→G.St ρ σ s→wpAny G.M A (call f []) (Post G ρ s V Q) noE s):a0b G n f [] σ Q:=λA ρ s vs rm S hv=>by
 subst hv;exact h A ρ s rm S
theorem c0w{ρ:List Addr}{s:Shared}{h':Heap}{tk:Nat}{a:Addr}{o:AObj}{Q:AV→Sig→Prop}(S:G.St ρ σ s)(k: ∀b ob,s.heap.get? b=some ob→h'.get? b=some ob)(ha:s.heap.get? a=none)(r:Rep G.prog G.w (ρ++[a]) h' a o)(q:Q (.ref σ.length) (σ++[o])):
  Post G ρ s V Q (.ref a) {s with heap:=h',toks:=tk}:=
 ⟨.ref σ.length,ρ++[a],σ++[o],S.new (s':={s with heap:=h',toks:=tk}) k ha r rfl rfl,k0x (s':={s with heap:=h',toks:=tk}) k ha,⟨a,by rw[←S.len];exact gn0,rfl⟩,q⟩
theorem l0y{i:Nat}{l:List AV}{Q:AV→Sig→Prop}(hi:σ[i]?=some (.list l))(h:Q (.int l.length) σ):a0b G n (.builtin "len") [.ref i] σ Q:=j0f λA ρ s v rm S va=>by
 refine d0l (St.list S hi) λad vs m ea ho hl z=>?_
 refine V.ref_el va ea ?_
 have hlen:=VL.length hl
 rw[sizeLine_eq]at z
 refine Calls.call_len_list ho.isList (by simp;exact LA [_,_] [] 81778677612841057377644587800789000 rfl z hlen) (a0e (x:=AV.int l.length) S ⟨_,by rw[hlen];simp;rfl⟩ h)
theorem b1c{l:List AV}{Q:AV→Sig→Prop}(h:Q (.int l.length) σ):a0b G n (.builtin "len") [.tup l] σ Q:=j0f λA ρ s v rm S va=>by
 refine p0i va λa vs z0 ht hl z=>?_;subst z0
 have hlen:=VL.length hl
 rw[sizeLine_eq]at z
 have e1:vs.toList.length=vs.size:=by simp
 rw[e1]at hlen
 refine PyProof.Rows.len_tuple ht (by omega) (a0e (x:=AV.int l.length) S ⟨_,by rw[hlen]⟩ h)
theorem g0u(hm: ∃o,G.base.get? sysModules=some o){ρ:List Addr}{s:Shared}(S:G.St ρ σ s){a:Addr}(ha:a∈ρ):(a==sysModules)=false:=by
 refine a0k (hm) λo ho=>?_
 simp only[beq_eq_false_iff_ne,ne_eq]
 intro e
 have:=S.fresh a ha
 rw[e,ho]at this;have this:=this;(exact b0n this.symm)
theorem l0x(hm: ∃o,G.base.get? sysModules=some o){i:Nat}{l:List (Int×AV)}{Q:AV→Sig→Prop}(hi:σ[i]?=some (.dictI l))(hz:l.length≤1000000)(h:Q (.int l.length) σ):a0b G n (.builtin "len") [.ref i] σ Q:=j0f λA ρ s v rm S va=>by
 refine a0a (S.at hi) λad ea z0=>?_;(refine a0q z0 λkvs hd e hl=>?_)
 refine V.ref_el va ea ?_
 have hk:=c0t e
 refine call_len_dict (g0u hm S (List.mem_of_getElem? ea)) hd (by omega) (a0e (x:=AV.int l.length) S ⟨_,by rw[hk]⟩ h)
theorem f0n{i:Nat}{l:List AV}{x:AV}{Q:AV→Sig→Prop}(hi:σ[i]?=some (.list l))(hz:l.length<10000000)(h:Q .none (σ.set i (.list (l++[x])))):a0b G n (.builtin "list.append") [.ref i,x] σ Q:=d1r λA ρ s v u rm S va vu=>by
 refine d0l (St.list S hi) λad vs m ea ho hl z=>?_
 refine V.ref_el va ea ?_
 have hlen:=VL.length hl
 refine m0u ho (by rw[sizeLine_eq];exact LA [_,_] [] 30423616446721573318801000595496 rfl hz hlen) λh' m' hL hs=>?_
 exact d0n (x:=AV.none) (o:=.list (l++[x])) S ea hs (λtk=>⟨_,_,hL,VL.append (VL.mono List.prefix_rfl tk _ _ hl) ⟨u,[],rfl,V.mono List.prefix_rfl tk _ _ vu,rfl⟩,by rw[sizeLine_eq];simp;omega⟩) rfl rfl rfl h
theorem k1t{i:Nat}{l:List AV}{x:AV}{Q:AV→Sig→Prop}(hi:σ[i]?=some (.list (l++[x])))(h:Q x (σ.set i (.list l))):a0b G n (.builtin "list.pop") [.ref i] σ Q:=j0f λA ρ s v rm S va=>by
 refine d0l (St.list S hi) λad vs m ea ho hl z=>?_
 refine V.ref_el va ea ?_
 have hlen:=VL.length hl
 simp only[List.length_append,List.length_singleton]at hlen z
 refine a0a (VL.get hl l.length x (by exact gn0)) λu hu hv=>?_
 have hvs:vs.length - 1=l.length:=by exact LA [_,_] [] 247838981238856 rfl hlen
 refine call_meets F.slot_list_pop (IsL.typeIs ho) F.entry_list_pop (F.args_list_pop_1 _) (MeetsSeq.list_pop_last ad vs.toArray m u (by simp only[List.size_toArray,List.getElem?_toArray];rw[hvs];exact hu) (by simp;exact LA [_,_,_] [] 2398156681678397911112 rfl hlen z)) ⟨ho,?_⟩
 refine d0n (s':={s with heap:=_}) (o:=.list l) S ea (Heap.SameBut.update ..) (λtk=>⟨vs.take l.length,m+1,?_,?_,by exact LA [_,_] [] 1099552534536 rfl z⟩) rfl rfl ?_ h
 ·unfold IsL
  rw[Heap.get?_update_self _ ho (by rfl)]
  have e1:(vs.toArray.eraseIdxIfInBounds (vs.toArray.size - 1))=(vs.take l.length).toArray:=by
   apply Array.toList_inj.mp
   rw[Array.toList_eraseIdxIfInBounds]
   simp only[List.size_toArray]
   rw[hvs,List.eraseIdx_eq_take_drop_succ]
   have:vs.drop (l.length+1)=[]:=List.drop_eq_nil_of_le (by exact LA [_,_] [] 7894527888076872 rfl hlen)
   rw[this,List.append_nil]
  simp only[Obj.mapSeq,e1]
  have:((vs.take l.length).toArray.size==vs.toArray.size)=false:=by
   simp only[List.size_toArray,List.length_take,beq_eq_false_iff_ne];exact LA [_,_] [] 37173467047538760 rfl hlen
  rw[this];rfl
 ·have h2:=VL.take (VL.mono List.prefix_rfl tk _ _ hl) l.length
  rwa [List.take_left]at h2
 ·have hk:TK s.heap (s.heap.update ad (Obj.mapSeq λxs=>xs.eraseIdxIfInBounds (vs.toArray.size - 1))):=TK.but (S.nontup (List.mem_of_getElem? ea)) λb o hb e=>by rw[Heap.get?_update_other _ _ (Ne.symm hb)];exact e
  exact V.mono List.prefix_rfl hk _ _ hv
theorem z0b{Q:AV→Sig→Prop}(h:Q (.ref σ.length) (σ++[.set (λ_=>false) 0])):a0b G n (.type "set") [] σ Q:=l1v λA ρ s rm S=>by
 refine call_set_0 λled=>c0w (tk:=s.toks) S (λb ob e=>Heap.get?_push_of_some _ e) (b0h _) ?_ h
 refine⟨_,#[],0,_,Heap.get?_push_size _ rfl,⟨rfl,rfl,rfl⟩,rfl,λe he=>by simp at he,λk=>by simp,by decide,by cases led<;>rfl,rfl⟩
theorem i0s{i:Nat}{T:Int→Bool}{m:Nat}(hi:σ[i]?=some (.set T m)):d0j G n σ (.ref i) "add" (.builtin "set.add"):=λA ρ s v pl rm S va Q q=>by
 refine a0a (S.at hi) λad ea hS=>?_
 obtain rfl:=V.ref_eq va ea
 exact getMethod_set_add hS q
theorem h1w{i:Nat}{T:Int→Bool}{m:Nat}{k:Int}{Q:AV→Sig→Prop}(hi:σ[i]?=some (.set T m))(hz:m+1<4096)(h:Q .none (σ.set i (.set (λj=>T j||decide (j=k)) (if T k then m else m+1)))):a0b G n (.builtin "set.add") [.ref i,.int k] σ Q:=d1r λA ρ s v u rm S va vu=>by
 refine a0a (S.at hi) λad ea hS=>?_
 refine V.ref_el va ea ?_
 refine V.int_el vu λt=>?_
 exact call_set_add (knd:=intKind G.prog G.w) d0m rfl hS hz λh' hs hS'=>d0n (x:=AV.none) (o:=.set (λj=>T j||decide (j=k)) (if T k then m else m+1)) S ea hs (λ_=>hS') rfl rfl rfl h
theorem e0s{a:Int}{Q:AV→Sig→Prop}(h:Q (.rng 0 a 1) σ):a0b G n (.type "range") [.int a] σ Q:=j0f λA ρ s v rm S ⟨t,e⟩=>by
 subst e
 exact call_range_1 (e0b (x:=AV.rng 0 a 1) S (λb o e=>Heap.get?_push_of_some _ e) rfl rfl ⟨_,_,_,_,rfl,Heap.get?_push_size _ rfl⟩ h)
theorem s0b{a b c:Int}{Q:AV→Sig→Prop}(hc:c= -1)(h:Q (.rng a b c) σ):a0b G n (.type "range") [.int a,.int b,.int c] σ Q:=a1b λA ρ s v u w rm S ⟨t,e⟩ ⟨t',e'⟩ ⟨t'',e''⟩=>by
 subst e e' e''
 exact call_range_3 (by exact LA [] [_] 6740187418792 rfl hc) (e0b (x:=AV.rng a b c) S (λb o e=>Heap.get?_push_of_some _ e) rfl rfl ⟨_,_,_,_,rfl,Heap.get?_push_size _ rfl⟩ h) (.inl (PyProof.noPylong_small (by(clear h;subst hc);decide)))
theorem z0h{i:Nat}{l:List AV}{Q:AV→Sig→Prop}(hi:σ[i]?=some (.list l))(h:Q (.tup l) σ):a0b G n (.type "tuple") [.ref i] σ Q:=j0f λA ρ s v rm S va=>by
 refine d0l (St.list S hi) λad vs m ea ho hl z=>?_
 refine V.ref_el va ea ?_
 refine call_tuple_list ho.isList (λh' hk=>?_) (by rw[List.size_toArray,←VL.length hl];exact z)
 have k: ∀b o,s.heap.get? b=some o→(h'.push {cls:=.type "tuple",data:=.seq vs.toArray}).get? b=some o:=λb o e=>Heap.get?_push_of_some _ (hk b o e)
 exact e0b (x:=AV.tup l) S k rfl rfl ⟨_,_,rfl,m0w _ vs,VL.mono List.prefix_rfl (TK.ofKeeps k) _ _ (by simpa using hl),z⟩ h
theorem v0e{k:Int}{Q:AV→Sig→Prop}(h:Q (.bool false) σ):a0b G n (.builtin "isinstance") [.int k,.glob (.type "bool")] σ Q:=d1r λA ρ s v u rm S ⟨t,e⟩ vu=>by
 subst e;(subst vu)
 exact IsiPair.int_bool (a0e (x:=AV.bool false) S rfl h)
theorem j1o{i:Nat}{l:List AV}{Q:AV→Sig→Prop}(hi:σ[i]?=some (.list l))(h:Q (.ref σ.length) (σ++[.list l])):a0b G n (.type "list") [.ref i] σ Q:=j0f λA ρ s v rm S va=>by
 refine d0l (St.list S hi) λad vs m ea ho hl z=>?_
 refine V.ref_el va ea ?_
 refine call_list_seq ad (.inl rfl) ho rfl rfl (λh' c' hk hn=>?_) (by rw[List.size_toArray,←VL.length hl];exact z)
 exact c0w (o:=.list l) (tk:=s.toks) S hk (b0h _) ⟨vs,c',hn,VL.mono (List.prefix_append _ _) (TK.ofKeeps hk) _ _ hl,z⟩ h
theorem s0f{ρ:List Addr}{h:Heap}: ∀{l:List AV} {vs:List Value},(vs.length=l.length)→(∀(j:Nat) v,vs[j]?=some v→∃x,l[j]?=some x∧V ρ h x v)→VL ρ h l vs
 |[],[],_,_=>rfl
 |[],_::_,e,_=>by trivial
 |_::_,[],e,_=>by trivial
 |x::l,v::vs,e,h=>by
  refine a0a (h 0 v rfl) λy hy hv=>?_
  simp at hy;subst hy
  exact⟨v,vs,rfl,hv,s0f (by simpa using e) λj u hu=>by simpa using h (j+1) u (by simpa using hu)⟩
theorem b1d{m:Nat}{Q:AV→Sig→Prop}(hm:m≤1000000)(h:Q (.ref σ.length) (σ++[.list ((List.range m).map λ(i:Nat)=>AV.int (i:Int))])):a0b G n (.type "list") [.rng 0 m 1] σ Q:=j0f λA ρ s v rm S ⟨r,t,u,w,e,hr⟩=>by
 subst e
 have hsz:Builtin.Range.rangeSize 0 (m:Int) 1=m:=by unfold Builtin.Range.rangeSize;simp;exact LA [_] [] 19534118984 rfl
 have hsm:Builtin.Range.small 0 (m:Int) 1=true:=by unfold Builtin.Range.small;rw[hsz];simp[Builtin.Range.rangeFitsLong];exact LA [_] [] 92074605504649805562244447638653662428686506622984 rfl hm
 refine call_list_range rm.2.2 hr hsm hsz (by omega) λh' tk acc c' hk hn hacc=>?_
 refine c0w (o:=.list ((List.range m).map λ(i:Nat)=>AV.int (i:Int))) S hk (b0h _) ⟨acc.toList,c',by simpa using hn,s0f (by simp[hacc.1]) λj v hv=>?_,by simp;rw[sizeLine_eq];exact LA [_] [] 29014221616312736288178184 rfl hm⟩ h
 have hj:j<m:=by
  have:=(List.getElem?_eq_some_iff.mp hv).1
  simp[hacc.1]at this;exact this
 obtain⟨t,rfl⟩:=hacc.2 j v (by simpa using hv)
 exact⟨.int j,by simp[hj],⟨t,by simp⟩⟩
theorem f1b{i:Nat}(hm: ∃o,G.base.get? sysModules=some o){l:List (Int×AV)}{Q:AV→Sig→Prop}(hi:σ[i]?=some (.dictI l))(hz:l.length≤1000000)(h:Q (.ref σ.length) (σ++[.list (l.map λp=>.int p.1)])):a0b G n (.type "list") [.ref i] σ Q:=j0f λA ρ s v rm S va=>by
 refine a0a (S.at hi) λad ea z0=>?_;(refine a0q z0 λkvs hd e hl=>?_)
 refine V.ref_el va ea ?_
 refine a0k (hd.dictAt) λep hat=>?_
 have hk:=c0t e
 refine kdl_call (kdl_dict (knd:=intKind G.prog G.w) (kvs:=kvs) (ep:=ep) (g0u hm S (List.mem_of_getElem? ea))) rm.2.2 hat (by rw[sizeLine_eq];exact LA [_,_] [] 30423616446720456424993901084680 rfl hz hk) λh' tk acc c' hkk hn hacc=>?_
 refine c0w (o:=.list (l.map λp=>.int p.1)) S hkk (b0h _) ⟨acc.toList,c',by simpa using hn,s0f (by simp[hacc.1,hk]) λj v hv=>?_,by simp;rw[sizeLine_eq];exact LA [_] [] 29014221616312736288178184 rfl hz⟩ h
 refine c0e (hacc.2 j v (by simpa using hv)) λk x hx his=>?_
 refine a0k (Value.isInt_shape his) λt z0=>?_;subst z0
 refine⟨.int k,?_,⟨t,rfl⟩⟩
 have:(kvs.map (·.1))[j]?=some k:=by rw[List.getElem?_map,hx];rfl
 rw[e,List.getElem?_map]at this;have this:=this
 rw[List.getElem?_map]
 cases q:l[j]? with
 |none=>(rw[q]at this;have this:=this);(exact b0n this)
 |some p=>(rw[q]at this;have this:=this);(clear hx hv his;cases this);rfl
end
section
variable {G:Gx} {n:Nat} {cenv:Env} {loc:Loc} {σ:Sig} {α β γ δ:Type} {K:Frag}
noncomputable def OkK(G:Gx)(n:Nat)(cenv:Env)(Q:AFlow→Loc→Sig→Prop):List (List Stmt)→Loc→Sig→Prop
 |[],loc,σ=>Q .next loc σ
 |b::Ks,loc,σ=>q0y G n cenv loc σ b λfl l σ'=>match fl with| .next=>OkK G n cenv Q Ks l σ'|fl=>Q fl l σ'
variable {Ks:List (List Stmt)} {rest:List Stmt} {Q:AFlow→Loc→Sig→Prop}
theorem h1l{b:List Stmt}(h:OkK G n cenv Q [b] loc σ):q0y G n cenv loc σ b Q:=OkF.mono h λfl l σ' q=>by cases fl<;>exact q
theorem o1q(h:Q .next loc σ):OkK G n cenv Q [] loc σ:=h
theorem h1k(h:OkK G n cenv Q Ks loc σ):OkK G n cenv Q ([]::Ks) loc σ:=l1n h
theorem d1k{e:Expr}{pos}(h:OkE G n cenv loc σ e λx σ₁=>Q (.ret x) loc σ₁):OkK G n cenv Q ((.Return (some e) pos::rest)::Ks) loc σ:=d0c (l1o h)
theorem h1n{pos}(h:Q (.ret .none) loc σ):OkK G n cenv Q ((.Return none pos::rest)::Ks) loc σ:=d0c (h1t h)
theorem h1g{pos}(h:Q .cont loc σ):OkK G n cenv Q ((.Continue pos::rest)::Ks) loc σ:=d0c (h1q h)
theorem h1m{pos}(h:OkK G n cenv Q (rest::Ks) loc σ):OkK G n cenv Q ((.Pass pos::rest)::Ks) loc σ:=d0c (h1s h)
theorem n1o{st:Stmt}(h:OkS G n cenv loc σ st λfl l σ₁=>fl=.next∧OkK G n cenv Q (rest::Ks) l σ₁):OkK G n cenv Q ((st::rest)::Ks) loc σ:=d0c (OkF.mono h λfl l σ' ⟨e,q⟩=>by subst e;exact q)
theorem l1i{b:List Stmt}(h:OkK G n cenv (λfl l σ'=>match fl with| .next=>OkK G n cenv Q (rest::Ks) l σ'|fl=>Q fl l σ') [b] loc σ):q0y G n cenv loc σ b λfl l σ'=>match fl with| .next=>q0y G n cenv l σ' rest (λfl l σ'=>match fl with| .next=>OkK G n cenv Q Ks l σ'|fl=>Q fl l σ')|fl=>(match fl with| .next=>OkK G n cenv Q Ks l σ'|fl=>Q fl l σ'):=
 OkF.mono h λfl l σ' q=>by cases fl<;>exact q
theorem n1n{t:Expr}{b e:List Stmt}{pos}(h:OkB G n cenv loc σ t λc σ₁=>if c then OkK G n cenv Q (b::rest::Ks) loc σ₁ else OkK G n cenv Q (e::rest::Ks) loc σ₁):OkK G n cenv Q ((.If t b e pos::rest)::Ks) loc σ:=
 d0c (o1r (OkT.mono h λc σ' q=>by
  cases c with
  |true=>exact OkF.mono q λfl l σ' q=>by cases fl<;>exact q
  |false=>exact OkF.mono q λfl l σ' q=>by cases fl<;>exact q))
theorem z0u{x:PySem.Str}{pos':Pos}{value:Expr}{pos:Pos}(hk:cenv.kindOf x=some .local)(h:OkE G n cenv loc σ value λv σ₁=>OkK G n cenv Q (rest::Ks) ((x,v)::loc) σ₁)
  (hs:autoParam (swapsWith value (some (.Name x pos')) pos.line cenv=pure false) aR):OkK G n cenv Q ((.Assign [.Name x pos'] value pos::rest)::Ks) loc σ:=d0c (h1o (OkT.mono h λv σ' q=>e0q hk q) hs)
theorem f0w{x:PySem.Str}{pos':Pos}{value:Expr}{pos:Pos}{c:Addr}(hk:cenv.kindOf x=some .cell)(hc:cenv.cells.lookup x=some c)(h:OkE G n cenv loc σ value λv σ₁=>OkK G n cenv Q (rest::Ks) ((x,v)::loc) σ₁)
  (hs:autoParam (swapsWith value (some (.Name x pos')) pos.line cenv=pure false) aR):OkK G n cenv Q ((.Assign [.Name x pos'] value pos::rest)::Ks) loc σ:=d0c (h1o (OkT.mono h λv σ' q=>g1m hk hc q) hs)
theorem h1e{x y:PySem.Str}{k:Nat}{px py tpos:Pos}{value:Expr}{pos:Pos}(hkx:cenv.kindOf x=some .local)(hky:cenv.kindOf y=some .local)(h:OkE G n cenv loc σ value λv σ₁=>∃a b,v=.tup [a,b]∧OkK G n cenv Q (rest::Ks) ((y,b)::(x,a)::loc) σ₁)
  (hs:autoParam (swapsWithSole [.Tuple [.Name x px,.Name y py] k tpos] value pos.line cenv=pure false) aR) (hw:autoParam (swappedStores [.Tuple [.Name x px,.Name y py] k tpos] value cenv=pure none) aR):OkK G n cenv Q ((.Assign [.Tuple [.Name x px,.Name y py] k tpos] value pos::rest)::Ks) loc σ:=
 d0c (h1p (OkT.mono h λv σ' ⟨a,b,e,q⟩=>by subst e;exact k1w (v0v (e0q hkx (v0v (e0q hky (g1n q)))))) hs hw)
theorem v0z{o:Expr}{attr:PySem.Str}{pos':Pos}{value:Expr}{pos:Pos}(h:OkE G n cenv loc σ value λv σ₁=>OkE G n cenv loc σ₁ o λx σ₂=>h0z G n x attr v σ₂ λσ₃=>OkK G n cenv Q (rest::Ks) loc σ₃)
  (hs:autoParam (swapsWith value (some (.Attribute o attr pos')) pos.line cenv=pure false) aR):OkK G n cenv Q ((.Assign [.Attribute o attr pos'] value pos::rest)::Ks) loc σ:=d0c (w0b h hs)
theorem h1j{o i:Expr}{pos':Pos}{value:Expr}{pos:Pos}(h:OkE G n cenv loc σ value λv σ₁=>OkE G n cenv loc σ₁ o λx σ₂=>OkE G n cenv loc σ₂ i λk σ₃=>a0y G n x k v σ₃ λσ₄=>OkK G n cenv Q (rest::Ks) loc σ₄)
  (hs:autoParam (swapsWith value (some (.Subscript o i pos')) pos.line cenv=pure false) aR):OkK G n cenv Q ((.Assign [.Subscript o i pos'] value pos::rest)::Ks) loc σ:=d0c (z0x h hs)
theorem h1h{e:Expr}{pos:Pos}(h:OkE G n cenv loc σ e λ_ σ₁=>OkK G n cenv Q (rest::Ks) loc σ₁)(hs:autoParam (swapsWith e none pos.line cenv=pure false) aR)
  (hi:autoParam (interactive cenv=false) aR):OkK G n cenv Q ((.Expr e pos::rest)::Ks) loc σ:=d0c (h1r h hs hi)
theorem l1h{x:PySem.Str}{pos':Pos}{value:Expr}{pos:Pos}{a:Int}(hx:loc.lookup x=some (.int a))(hk:cenv.kindOf x=some .local)
  (h:OkE G n cenv loc σ value λv σ₁=>∃b,v=.int b∧OkK G n cenv Q (rest::Ks) ((x,.int (a+b))::loc) σ₁):OkK G n cenv Q ((.AugAssign (.Name x pos') .Add value pos::rest)::Ks) loc σ:=d0c (l1l hx hk h)
theorem h1f{y:PySem.Str}{py:Pos}{elt iter:Expr}{x:PySem.Str}{px:Pos}{ifs:List Expr}{scope:Scope}{pos spos:Pos}
  (h:OkE G n cenv loc σ iter λsrc σ₁=>m0l G n cenv loc scope x ifs elt src σ₁ λys σ'=>OkK G n cenv Q (rest::Ks) ((y,.ref σ'.length)::loc) (σ'++[.list ys]))
  (hky:autoParam (cenv.kindOf y=some .local) aR) (hsw:autoParam (swapsWith (.ListComp elt [⟨.Name x px,iter,ifs,0⟩] scope pos) (some (.Name y py)) spos.line cenv=pure true) aR)
  (h0:autoParam (loc.lookup (".0":PySem.Str)=none) aR) (hsc:autoParam (j0y scope cenv x=true) aR) (hs:autoParam (∀x,foldedSetIterable iter cenv x=pure x) aI):OkK G n cenv Q ((.Assign [.Name y py] (.ListComp elt [⟨.Name x px,iter,ifs,0⟩] scope pos) spos::rest)::Ks) loc σ:=d0c (w0c h hky hsw h0 hsc hs)
noncomputable def u0q(Q P:AFlow→Loc→Sig→Prop):Prop:=∀fl l σ,Q fl l σ→P fl l σ
theorem u0q.use{Q P:AFlow→Loc→Sig→Prop}{fl:AFlow}{l:Loc}{σ:Sig}(hP:u0q Q P)(h:Q fl l σ):P fl l σ:=hP _ _ _ h
inductive WNext(I:Nat→Loc→Sig→Prop)(m:Nat)(l:Loc)(σ:Sig):Prop
 |mk (m':Nat) (l':Loc) (lt:m'<m) (sub:Sub l' l) (h:I m' l' σ)
inductive FNext(I:Nat→Loc→Sig→Prop)(i:Nat)(l:Loc)(σ:Sig):Prop
 |mk (l':Loc) (sub:Sub l' l) (h:I i l' σ)
theorem d0s{test:Expr}{body orelse:List Stmt}{pos:Pos}(I:Nat→Loc→Sig→Prop)(m:Nat)(h0: ∃l,Sub l loc∧I m l σ)
  (turn: ∀m l σ₁,I m l σ₁→∀P,u0q (λfl l₃ σ₃=>match fl with
    | .next| .cont=>WNext I m l₃ σ₃
    | .brk=>False
    | .ret x=>Q (.ret x) l₃ σ₃) P→OkB G n cenv l σ₁ test λb σ₂=>if b then OkK G n cenv P [body] l σ₂ else OkK G n cenv Q (orelse::rest::Ks) l σ₂):OkK G n cenv Q ((.While test body orelse pos::rest)::Ks) loc σ:=
 d0c (d1l I m h0 λm l σ₁ hI=>OkT.mono (turn m l σ₁ hI _ λ_ _ _ h=>h) λb σ₂ q=>by
  cases b with
  |true=>exact OkF.mono (h1l q) λfl l σ' q=>by cases fl<;>first|exact(let⟨a,b,c,d,e⟩:=q;⟨a,b,c,d,e⟩)|exact q|exact q.elim
  |false=>exact OkF.mono q λfl l σ' q=>by cases fl<;>exact q)
inductive ForG(G:Gx)(n:Nat)(cenv:Env)(Q:AFlow→Loc→Sig→Prop)(target:Expr)(body:List Stmt)(Ks:List (List Stmt))(loc:Loc)(x:AV)(σ₁:Sig):Prop
 |mk (xs:List AV) (C:Sig→Prop) (it:h0j G n σ₁ x xs C) (I:Nat→Loc→Sig→Prop) (h0: ∃l,Sub l loc∧I 0 l σ₁) (hC: ∀i l σ₂,i≤xs.length→I i l σ₂→C σ₂)
  (turn: ∀i y l σ₂,xs[i]?=some y→I i l σ₂→∀P,u0q (λfl l₄ σ₄=>match fl with
    | .next| .cont=>FNext I (i+1) l₄ σ₄
    | .brk=>False
    | .ret v=>Q (.ret v) l₄ σ₄) P→OkA G n cenv l σ₂ target y λl₃ σ₃=>OkK G n cenv P [body] l₃ σ₃) (fin: ∀l σ₂,I xs.length l σ₂→OkK G n cenv Q Ks l σ₂)
theorem h0h{target iter:Expr}{body orelse:List Stmt}{pos:Pos}
  (h:OkE G n cenv loc σ iter λx σ₁=>ForG G n cenv Q target body (orelse::rest::Ks) loc x σ₁)
  (hs:autoParam (∀x,foldedSetIterable iter cenv x=pure x) aI) (ht:autoParam (∀it v,letOwnedTupleGo target it v=pure ()) aI):OkK G n cenv Q ((.For target iter body orelse pos::rest)::Ks) loc σ:=
 d0c (l1m (OkT.mono h λx σ₁ ⟨xs,C,hit,I,h0,hC,ht,he⟩=>⟨xs,C,hit,I,h0,hC,λi y l σ₂ hy hI A ρ s v rm S F hv=>wpAny_mono (ht i y l σ₂ hy hI _ (λ_ _ _ h=>h) A ρ s v rm S F hv) (λ_ s' ⟨l',ρ',σ',S',N',F',q⟩=>⟨l',ρ',σ',S',N',F',OkF.mono (h1l q) λfl l σ' q=>by cases fl<;>first|exact(let⟨b,d,e⟩:=q;⟨b,d,e⟩)|exact q|exact q.elim⟩) λ_ _ e=>e,
  λl σ₂ hI=>OkF.mono (he l σ₂ hI) λfl l σ' q=>by cases fl<;>exact q⟩) hs ht)
inductive Fin(σ:Sig)(Q:AV→Sig→Prop)(fl:AFlow)(σ':Sig):Prop
 |mk (k:Nat) (x:AV) (hx:match fl with| .ret y=>x=y|_=>x=.none) (le:σ.length≤k) (b:x.bd k) (c:Cl k (σ'.take k)) (q:Q x (σ'.take k))
theorem Fin.same{σ:Sig}{Q:AV→Sig→Prop}{x:AV}(c:Cl σ.length σ)(b:x.bd σ.length)(q:Q x σ):Fin σ Q (.ret x) σ:=⟨σ.length,x,rfl,Nat.le_refl _,b,by rw[List.take_length];exact c,by rw[List.take_length];exact q⟩
theorem Fin.same0{σ:Sig}{Q:AV→Sig→Prop}(c:Cl σ.length σ)(q:Q .none σ):Fin σ Q .next σ:=⟨σ.length,.none,rfl,Nat.le_refl _,trivial,by rw[List.take_length];exact c,by rw[List.take_length];exact q⟩
structure Same (W:List Nat) (σ σ':Sig):Prop where
 le:σ.length≤σ'.length
 at_: ∀i,i<σ.length→i∉W→σ'[i]?=σ[i]?
theorem Same.refl(W:List Nat)(σ:Sig):Same W σ σ:=⟨Nat.le_refl _,λ_ _ _=>rfl⟩
theorem Same.set{W:List Nat}{σ σ':Sig}{i:Nat}{o:AObj}(h:Same W σ σ')(hi:i∈W∨σ.length≤i):Same W σ (σ'.set i o):=⟨by rw[List.length_set];exact h.le,λj hj hW=>by
 rw[List.getElem?_set_ne]
 ·exact h.at_ j hj hW
 ·rintro rfl;rcases hi with hi|hi
  ·exact hW hi
  ·exact LA [_,_] [] 10996198441000 rfl hj hi⟩
theorem Same.app{W:List Nat}{σ σ':Sig}{r:Sig}(h:Same W σ σ'):Same W σ (σ'++r):=⟨by rw[List.length_append];have:=h.le;exact LA [_,_,_] [] 2246267928584 rfl this,λj hj hW=>by
 rw[List.getElem?_append_left (by have:=h.le;exact LA [_,_,_] [] 2252969126953000 rfl hj this)];exact h.at_ j hj hW⟩
theorem Same.get{W:List Nat}{σ σ':Sig}{i:Nat}{o:AObj}(h:Same W σ σ')(e:σ[i]?=some o)(hi:i∉W):σ'[i]?=some o:=(h.at_ i (List.getElem?_eq_some_iff.mp e).1 hi).trans e
theorem Same.trans{W:List Nat}{a b c:Sig}(h:Same W a b)(k:Same W b c):Same W a c:=⟨Nat.le_trans h.le k.le,λi hi hW=>(k.at_ i (Nat.lt_of_lt_of_le hi h.le) hW).trans (h.at_ i hi hW)⟩
theorem Same.mono{W W':List Nat}{σ σ':Sig}(h:Same W σ σ')(k: ∀i∈W,i∈W'):Same W' σ σ':=⟨h.le,λi hi hW=>h.at_ i hi λq=>hW (k i q)⟩
theorem Same.eq0{σ σ':Sig}(h:Same [] σ σ'):σ'.take σ.length=σ:=by
 apply List.ext_getElem?;intro i
 have:=h.le
 by_cases hi:i<σ.length
 ·rw[List.getElem?_take_of_lt hi];exact h.at_ i hi (by exact nofun)
 ·rw[List.getElem?_eq_none (by simp;exact LA [_,_,_] [] 2251637654824 rfl hi),List.getElem?_eq_none (by exact LA [_,_] [] 1074791720 rfl hi)]
theorem Same.eq1{σ σ':Sig}{a:Nat}{o:AObj}(h:Same [a] σ σ')(ha:σ'[a]?=some o):σ'.take σ.length=σ.set a o:=by
 apply List.ext_getElem?;intro i
 have:=h.le
 by_cases hi:i<σ.length
 ·rw[List.getElem?_take_of_lt hi]
  by_cases e:i=a
  ·clear h;subst e;rw[ha,List.getElem?_set_self hi]
  ·rw[List.getElem?_set_ne (Ne.symm e)];exact h.at_ i hi (by simpa using e)
 ·rw[List.getElem?_eq_none (by simp;exact LA [_,_,_] [] 2251637654824 rfl hi),List.getElem?_eq_none (by simp;exact LA [_,_] [] 1074791720 rfl hi)]
theorem Same.eq2{σ σ':Sig}{a b:Nat}{o p:AObj}(h:Same [a,b] σ σ')(ha:σ'[a]?=some o)(hb:σ'[b]?=some p):σ'.take σ.length=(σ.set a o).set b p:=by
 apply List.ext_getElem?;intro i
 have:=h.le
 by_cases hi:i<σ.length
 ·rw[List.getElem?_take_of_lt hi]
  by_cases e:i=b
  ·clear h;subst e;rw[hb,List.getElem?_set_self (by simpa using hi)]
  ·rw[List.getElem?_set_ne (Ne.symm e)]
   by_cases e':i=a
   ·clear h;subst e';rw[ha,List.getElem?_set_self hi]
   ·rw[List.getElem?_set_ne (Ne.symm e')];exact h.at_ i hi (by simp;exact⟨e',e⟩)
 ·rw[List.getElem?_eq_none (by simp;exact LA [_,_,_] [] 2251637654824 rfl hi),List.getElem?_eq_none (by simp;exact LA [_,_] [] 1074791720 rfl hi)]
theorem Same.eq3{σ σ':Sig}{a b c:Nat}{o p q:AObj}(h:Same [a,b,c] σ σ')(ha:σ'[a]?=some o)(hb:σ'[b]?=some p)(hc:σ'[c]?=some q):σ'.take σ.length=((σ.set a o).set b p).set c q:=by
 apply List.ext_getElem?;intro i
 have:=h.le
 by_cases hi:i<σ.length
 ·rw[List.getElem?_take_of_lt hi]
  by_cases e:i=c
  ·clear h;subst e;rw[hc,List.getElem?_set_self (by simpa using hi)]
  ·rw[List.getElem?_set_ne (Ne.symm e)]
   by_cases e':i=b
   ·clear h;subst e';rw[hb,List.getElem?_set_self (by simpa using hi)]
   ·rw[List.getElem?_set_ne (Ne.symm e')]
    by_cases e'':i=a
    ·clear h;subst e'';rw[ha,List.getElem?_set_self hi]
    ·rw[List.getElem?_set_ne (Ne.symm e'')];exact h.at_ i hi (by simp;exact⟨e'',e',e⟩)
 ·rw[List.getElem?_eq_none (by simp;exact LA [_,_,_] [] 2251637654824 rfl hi),List.getElem?_eq_none (by simp;exact LA [_,_] [] 1074791720 rfl hi)]
theorem Cl.nth{k:Nat}{σ:Sig}{i:Nat}{o:AObj}(c:Cl k σ)(e:σ[i]?=some o):o.bd k:=c o (List.mem_of_getElem? e)
theorem Cl.set{k:Nat}{σ:Sig}{i:Nat}{o:AObj}(c:Cl k σ)(b:o.bd k):Cl k (σ.set i o):=λp hp=>by
 rcases List.mem_or_eq_of_mem_set hp with h|h
 ·exact c p h
 ·clear hp;subst h;exact b
theorem Cl.app{k:Nat}{σ:Sig}{o:AObj}(c:Cl k σ)(b:o.bd k):Cl k (σ++[o]):=λp hp=>by
 rcases List.mem_append.mp hp with h|h
 ·exact c p h
 ·simp at h;(clear hp;subst h);exact b
theorem Fin.of{σ σ':Sig}{Q:AV→Sig→Prop}{fl:AFlow}{x:AV}(hx:match fl with| .ret y=>x=y|_=>x=.none)(τ:Sig)(e:σ'.take σ.length=τ)(c:Cl σ.length τ)(b:x.bd σ.length)(q:Q x τ):Fin σ Q fl σ':=⟨σ.length,x,hx,Nat.le_refl _,b,by rw[e];exact c,by rw[e];exact q⟩
theorem a0c{σ:Sig}{i j:Nat}{o p:AObj}(h:σ[i]?=some o)(hij:j≠i):(σ.set j p)[i]?=some o:=by rw[List.getElem?_set_ne hij];exact h
theorem a0d{σ:Sig}{i:Nat}{o p:AObj}(h:σ[i]?=some o):(σ.set i p)[i]?=some p:=List.getElem?_set_self (List.getElem?_eq_some_iff.mp h).1
theorem a0j{σ r:Sig}{i:Nat}{o:AObj}(h:σ[i]?=some o):(σ++r)[i]?=some o:=by rw[List.getElem?_append_left (List.getElem?_eq_some_iff.mp h).1];exact h
theorem d0f{σ:Sig}{o:AObj}:(σ++[o])[σ.length]?=some o:=by exact gn0
theorem b0m{σ:Sig}{i:Nat}{o:AObj}(h:σ[i]?=some o):i<σ.length:=(List.getElem?_eq_some_iff.mp h).1
theorem i1c{fd:FuncData}(hb:bindArgs fd ⟨[],[]⟩=pure []): ∀(s:Shared) (ρ:List Addr) (vs:List Value),G.St ρ σ s→VL ρ s.heap [] vs→∃ws,VL ρ s.heap [] ws∧ws.length=([]:List PySem.Str).length∧BindsTo s fd ⟨vs,[]⟩ (([]:List PySem.Str).zip ws):=λs ρ vs S hv=>by
 subst hv
 exact⟨[],rfl,rfl,BindsTo.of_eq hb⟩
theorem w0m{fd:FuncData}{p:PySem.Str}{x:AV}(hb: ∀v,bindArgs fd ⟨[v],[]⟩=pure [(p,v)]): ∀(s:Shared) (ρ:List Addr) (vs:List Value),G.St ρ σ s→VL ρ s.heap [x] vs→∃ws,VL ρ s.heap [x] ws∧ws.length=[p].length∧BindsTo s fd ⟨vs,[]⟩ ([p].zip ws):=λs ρ vs S hv=>by
 obtain⟨v,r,rfl,hv,hr⟩:=hv;(subst hr)
 exact⟨[v],⟨v,[],rfl,hv,rfl⟩,rfl,BindsTo.of_eq (hb v)⟩
theorem e0x{fd:FuncData}{p q:PySem.Str}{x y:AV}(hb: ∀v u,bindArgs fd ⟨[v,u],[]⟩=pure [(p,v),(q,u)]): ∀(s:Shared) (ρ:List Addr) (vs:List Value),G.St ρ σ s→VL ρ s.heap [x,y] vs→∃ws,VL ρ s.heap [x,y] ws∧ws.length=[p,q].length∧BindsTo s fd ⟨vs,[]⟩ ([p,q].zip ws):=λs ρ vs S hv=>by
 obtain⟨v,r,rfl,hv,u,r',rfl,hu,hr⟩:=hv;(subst hr)
 exact⟨[v,u],⟨v,_,rfl,hv,u,[],rfl,hu,rfl⟩,rfl,BindsTo.of_eq (hb v u)⟩
theorem e0y{fd:FuncData}{p q o:PySem.Str}{x y z:AV}(hb: ∀v u t,bindArgs fd ⟨[v,u,t],[]⟩=pure [(p,v),(q,u),(o,t)]): ∀(s:Shared) (ρ:List Addr) (vs:List Value),G.St ρ σ s→VL ρ s.heap [x,y,z] vs→∃ws,VL ρ s.heap [x,y,z] ws∧ws.length=[p,q,o].length∧BindsTo s fd ⟨vs,[]⟩ ([p,q,o].zip ws):=λs ρ vs S hv=>by
 obtain⟨v,r,rfl,hv,u,r',rfl,hu,t,r'',rfl,ht,hr⟩:=hv;(subst hr)
 exact⟨[v,u,t],⟨v,_,rfl,hv,u,_,rfl,hu,t,[],rfl,ht,rfl⟩,rfl,BindsTo.of_eq (hb v u t)⟩
theorem u0r{fd:FuncData}{p q o o':PySem.Str}{x y z z':AV}(hb: ∀v u t t',bindArgs fd ⟨[v,u,t,t'],[]⟩=pure [(p,v),(q,u),(o,t),(o',t')]): ∀(s:Shared) (ρ:List Addr) (vs:List Value),G.St ρ σ s→VL ρ s.heap [x,y,z,z'] vs→∃ws,VL ρ s.heap [x,y,z,z'] ws∧ws.length=[p,q,o,o'].length∧BindsTo s fd ⟨vs,[]⟩ ([p,q,o,o'].zip ws):=λs ρ vs S hv=>by
 obtain⟨v,r,rfl,hv,u,r',rfl,hu,t,r'',rfl,ht,t',r3,rfl,ht',hr⟩:=hv;(subst hr)
 exact⟨[v,u,t,t'],⟨v,_,rfl,hv,u,_,rfl,hu,t,_,rfl,ht,t',[],rfl,ht',rfl⟩,rfl,BindsTo.of_eq (hb v u t t')⟩
theorem a0x(W:WOk G K){f:Addr}{xs:List AV}{Q:AV→Sig→Prop}{oc:Value}{od:Option Addr}{osl:Array (Option Value)}{name qual:PySem.Str}{params:Arguments}{body:List Stmt}{scope:Scope}{dV kV doc pm cdv ct:Value}{an:Option Addr}{ps:List PySem.Str}{ys:List AV}
  (ho:K.lookup f=some ⟨oc,od,.func (fnOf name qual params body scope dV kV doc pm an cdv ct),osl⟩) (hcd:codeIn K cdv qual=true)
  (hbind: ∀(s:Shared) ρ (vs:List Value),G.St ρ σ s→VL ρ s.heap xs vs→∃ws,VL ρ s.heap ys ws∧ws.length=ps.length∧BindsTo s (fnOf name qual params body scope dV kV doc pm an cdv ct) ⟨vs,[]⟩ (ps.zip ws))
  (hlen:ps.length=ys.length) (hloc:(ps.all λp=>scope.names.lookup p==some .local)=true) (hnd:ps.Nodup) (hcell: ∀x∈scope.names,x.2≠ .cell)
  (hco:scope.isCoroutine=false) (hgen:scope.isGenerator=false) (hk:scope.kind=.function)
  (h: ∀(L:Addr) (qq:PySem.Str) (fu:Option Addr) (co:Value),(Cl σ.length σ)→OkK G n ⟨scope,L,mainGlobals,[],qq,fu,co,some L,builtinsNs⟩ (λfl _ σ'=>Fin σ Q fl σ') [body] (ps.zip ys) σ):a0b G (n+1) (.ref f) xs σ Q:=
 i1j W ho hcd hbind hlen hloc hnd hcell (λL c=>OkF.mono (h1l (h L _ _ _ c)) λ_ _ _ ⟨k,x,a,b,c,d,e⟩=>⟨k,x,a,b,c,d,e⟩) hco hgen hk
theorem e1a(W:WOk G K){f:Addr}{xs:List AV}{Q:AV→Sig→Prop}{oc:Value}{od:Option Addr}{osl:Array (Option Value)}{name qual:PySem.Str}{params:Arguments}{body:List Stmt}{scope:Scope}{dV kV doc pm cdv ct:Value}{an:Option Addr}{ps:List PySem.Str}{ys:List AV}
  (ho:K.lookup f=some ⟨oc,od,.func (fnOf name qual params body scope dV kV doc pm an cdv ct),osl⟩) (hcd:codeIn K cdv qual=true)
  (hbind: ∀(s:Shared) ρ (vs:List Value),G.St ρ σ s→VL ρ s.heap xs vs→∃ws,VL ρ s.heap ys ws∧ws.length=ps.length∧BindsTo s (fnOf name qual params body scope dV kV doc pm an cdv ct) ⟨vs,[]⟩ (ps.zip ws))
  (hlen:ps.length=ys.length) (hloc:(ps.all λp=>scope.names.lookup p==some .local)=true) (hnd:ps.Nodup) (hcell: ∀x∈scope.names,x.2≠ .cell)
  (hco:scope.isCoroutine=false) (hgen:scope.isGenerator=false) (hk:scope.kind=.function)
  (h: ∀(L:Addr) (qq:PySem.Str) (fu:Option Addr) (co:Value),(Cl σ.length σ)→OkK G n ⟨scope,L,mainGlobals,[],qq,fu,co,some L,builtinsNs⟩ (λfl _ σ'=>Fin σ Q fl σ') [body] (ps.zip ys) σ):v0w G (n+1) (.ref f) xs σ Q:=
 c1k W ho hcd hbind hlen hloc hnd hcell (λL c=>OkF.mono (h1l (h L _ _ _ c)) λ_ _ _ ⟨k,x,a,b,c,d,e⟩=>⟨k,x,a,b,c,d,e⟩) hco hgen hk
end
section
variable {G:Gx} {n:Nat} {cenv:Env} {loc:Loc} {σ:Sig} {K:Frag}
theorem t0k{a b c:Int}{N:Nat}(hs:Builtin.Range.small a b c=true)(hN:Builtin.Range.rangeSize a b c=N):h0j G n σ (.rng a b c) ((List.range N).map λ(i:Nat)=>AV.int (a+i*c)) λ_=>True:=λA ρ s v rm S va Q q=>by
 refine x0b va λr t u w z0 hr=>?_;subst z0
 refine wpAny_pyIter_range hr hs (q s.heap.objs.size (λj ρ' h=>IsRangeIter h s.heap.objs.size (a+j*c) ((N:Int) - j) c) _ s.toks ?_ (b0h _) (λb o e=>Heap.get?_push_of_some _ e) ?_)
 ·constructor
  ·intro j ρ s' A' Q' h q';exact wpAny_pyIter_rangeiter h q'
  ·intro A' n' ρ' σ' s' j x rm' S' C' h hx Q' q'
   rw[List.getElem?_map]at hx
   refine a0a (Option.map_eq_some_iff.mp hx) λy hy z0=>?_;subst z0
   have hj:j<N:=by have:=(List.getElem?_eq_some_iff.mp hy).1;simpa using this
   have hyj:y=j:=by have:=(List.getElem?_eq_some_iff.mp hy).2;simpa using this.symm
   subst hyj
   refine wpAny_pyNext_range_item h (by exact LA [_,_] [] 635050848714792 rfl hj) λh' hit hsb=>q' _ h' _ ⟨_,rfl⟩ ?_ λb o hb e=>(hsb.2 b hb).trans e
   have e1:a+((y+1:Nat):Int)*c=a+(y:Int)*c+c:=by rw[Int.natCast_add,Int.add_mul];omega
   have e2:(N:Int) - ((y+1:Nat):Int)=(N:Int) - y - 1:=by exact LA [_,_] [] 8321808158383046412709 rfl
   show IsRangeIter h' _ (a+((y+1:Nat):Int)*c) ((N:Int) - ((y+1:Nat):Int)) c
   rw[e1,e2];exact hit
  ·intro A' n' ρ' σ' s' rm' S' C' h Q' q'
   rw[List.length_map,List.length_range]at h
   refine wpAny_pyNext_range_end rm'.2.2 h (by exact LA [_] [] 6461344163 rfl) λh' he=>q' h' s'.toks λb o hb e=>he b o hb e
  ·intro j ρ' ρ'' h h' hJ k1 k2 k3
   exact k1 _ hJ
  ·intro j ρ' h hJ
   exact⟨_,hJ,i0t (by simp) (by simp) (by simp)⟩
 ·show IsRangeIter _ _ (a+((0:Nat):Int)*c) ((N:Int) - ((0:Nat):Int)) c
  rw[Int.natCast_zero,Int.zero_mul,Int.add_zero,Int.sub_zero,←hN]
  exact Heap.get?_push_size _ rfl
theorem f0u{k:Nat}(hk:k≤1000000):h0j G n σ (.rng 0 k 1) ((List.range k).map λ(i:Nat)=>AV.int (i:Int)) λ_=>True:=by
 have hsz:Builtin.Range.rangeSize 0 (k:Int) 1=k:=by unfold Builtin.Range.rangeSize;simp;exact LA [_] [] 19534118984 rfl
 have h:=t0k (G:=G) (n:=n) (σ:=σ) (a:=0) (b:=k) (c:=1) (N:=k) (by unfold Builtin.Range.small;rw[hsz];simp[Builtin.Range.rangeFitsLong];exact LA [_] [] 92074605504649805562244447638653662428686506622984 rfl hk) hsz
 simpa using h
theorem l0v{k:Nat}(hk:k≤1000000):h0j G n σ (.rng ((k:Int) - 1) (-1) (-1)) ((List.range k).map λ(i:Nat)=>AV.int ((k:Int) - 1 - i)) λ_=>True:=by
 have hsz:Builtin.Range.rangeSize ((k:Int) - 1) (-1) (-1)=k:=by
  unfold Builtin.Range.rangeSize
  simp only[show¬(-1:Int)>0 by decide,if_false]
  rcases Nat.eq_zero_or_pos k with h|h
  ·subst h;rfl
  ·rw[if_pos (by exact LA [_] [] 7901545425279016 rfl h)];simp
 have h:=t0k (G:=G) (n:=n) (σ:=σ) (a:=(k:Int) - 1) (b:=-1) (c:=-1) (N:=k) (by unfold Builtin.Range.small;rw[hsz];simp[Builtin.Range.rangeFitsLong];exact LA [_] [] 106154792714502535576645723173374090391353671464017565890518776643592 rfl hk) hsz
 have e:((List.range k).map λ(i:Nat)=>AV.int ((k:Int) - 1+i* -1))=(List.range k).map λ(i:Nat)=>AV.int ((k:Int) - 1 - i):=List.map_congr_left λi _=>by congr 1;omega
 rwa [e]at h
theorem VL.intsAre{ρ:List Addr}{h:Heap}: ∀{ks:List Int} {vs:List Value},VL ρ h (ks.map .int) vs→IntsAre vs ks
 |[],_,e=>by(subst e);exact .nil
 |k::ks,_,⟨v,r,e,⟨t,hv⟩,hr⟩=>by subst e hv;exact .cons k t (VL.intsAre hr)
theorem j0l{ρ:List Addr}{h:Heap}: ∀{ks:List Int} {vs:List Value},IntsAre vs ks→VL ρ h (ks.map .int) vs
 |[],_,e=>by cases e;rfl
 |k::ks,_,e=>by cases e with|cons _ t r=>exact⟨_,_,rfl,⟨t,rfl⟩,j0l r⟩
theorem p1k{i:Nat}{ks:List Int}{Q:AV→Sig→Prop}(hi:σ[i]?=some (.list (ks.map .int)))(h:Q (.int ks.sum) σ):a0b G n (.builtin "sum") [.ref i] σ Q:=j0f λA ρ s v rm S va=>by
 refine d0l (St.list S hi) λad vs m ea ho hl z=>?_
 refine V.ref_el va ea ?_
 have hI:=VL.intsAre hl
 refine a0k (hI.allInts.items) λxs hx=>?_
 have hl':s.heap.IsList ad (intItems xs):=hx▸ho.isList
 refine sum_intListG rm.2.2 hl' λh' tk t' hk=>?_
 have e1:ks=xs.toList.map (·.1):=by
  rw[←nums_intItems,←hx]
  exact(show numsOf vs.toArray.toList=ks from hI.numsOf).symm
 have e2:preSum (numAt xs) xs.size=ks.sum:=by
  rw[preSum_eq,List.take_of_length_le (by simp),e1]
 rw[e2]
 exact e0b (x:=AV.int ks.sum) S hk rfl rfl ⟨_,rfl⟩ h
theorem n0g{prog:Program}{w:World}{A:Around}{E:Value→Shared→Prop}{s:Shared}{T:String}{r d:Addr}{m:Nat}{P:Nat→Value→Prop}{OK:Heap→Prop}{Q:Value→Shared→Prop}{ns:List Int}
  (K:KdlSrc prog w T r d m P OK) (hh:A.handled=none) (hok:OK s.heap) (h64:m<64) (hI: ∀vs:List Value,vs.length=m→(∀j v,vs[j]?=some v→P j v)→IntsAre vs ns)
  (h: ∀(h':Heap) (tk:Nat) (a:Addr) (e:Nat) (vs:List Value) (ns':List Int),(∀b o,s.heap.get? b=some o→h'.get? b=some o)→s.heap.get? a=none→IsL h' a vs.toArray e→IntsAre vs ns'→ns'.Perm ns→ns'.Pairwise (· ≤ ·)→Q (.ref a) {s with heap:=h',toks:=tk}):
  wpAny (model prog w) A (call (.builtin "sorted") [.ref r]) Q E s:=by
 refine Calls.call_function_entry kind_sorted plain_sorted entry_sorted (args_sorted1 _) ?_
 unfold Builtin.«sorted»
 refine wpAny_bind (m:=checkCount "sorted" 1 1 _) (wpAny_pure ?_)
 refine wpAny_bind (kdu_collect (A:=A.in1) K hh hok (by rw[sizeLine_eq];exact LA [_] [] 29014221616306139284471848 rfl h64) λh' tk acc hk hacc=>?_)
 have hl:acc.toList.length=m:=by rw[Array.length_toList];exact hacc.1
 have hIa:IntsAre acc.toList ns:=hI _ hl λj v e=>hacc.2 j v (by rw[←Array.getElem?_toList];exact e)
 refine wpAny_bind (wpAny_newList ?_ (by rw[hl,sizeLine_eq];exact LA [_] [] 29014221616306139284471848 rfl h64))
 have hoL:(h'.push (seqObj "list" acc.toList.toArray 0)).get? h'.objs.size=some (seqObj "list" acc.toList.toArray 0):=Heap.get?_push_size _ rfl
 refine wpAny_bind (wpAny_holding (wpAny_call_entry slot_list_sort ⟨_,hoL,rfl⟩ entry_list_sort (list_sort_tree hoL hIa (by rw[hl];exact h64) λout ns' a1 a2 a3=>⟨_,rfl,?_⟩) (args_list_sort _)))
 refine wpAny_pure ⟨_,rfl,?_⟩
 refine a0k (sortedHeap_at (out:=out) hoL) λe he=>?_
 refine h _ tk h'.objs.size e out.toList ns' (λb o hb=>?_) ?_ he a1 a2 a3
 ·have hb':=hk b o hb
  have hlt:=Heap.lt_size hb'
  rw[sortedHeap_old (Nat.ne_of_lt hlt) (by rw[size_push'];exact Nat.lt_succ_of_lt hlt)]
  exact Heap.get?_push_of_some _ hb'
 ·cases q:s.heap.get? h'.objs.size with
  |none=>rfl
  |some o=>exact absurd (Heap.lt_size (hk _ _ q)) (Nat.lt_irrefl _)
theorem j0m: ∀{vs:List Value} {ks:List Int},vs.length=ks.length→(∀(j:Nat) v,vs[j]?=some v→∃k t,ks[j]?=some k∧v=.int k t)→IntsAre vs ks
 |[],[],_,_=>.nil
 |[],_::_,e,_=>by trivial
 |_::_,[],e,_=>by trivial
 |v::vs,k::ks,e,h=>by
  refine c0e (h 0 v rfl) λk' t hk z0=>?_;subst z0
  simp at hk;subst hk
  exact .cons _ t (j0m (by simpa using e) λj u hu=>by simpa using h (j+1) u (by simpa using hu))
theorem m0b{ρ:List Addr}{s:Shared}{h':Heap}{tk:Nat}{a:Addr}{e:Nat}{vs:List Value}{ns:List Int}{Q:AV→Sig→Prop}(S:G.St ρ σ s)(k: ∀b ob,s.heap.get? b=some ob→h'.get? b=some ob)(ha:s.heap.get? a=none)(hl:IsL h' a vs.toArray e)(hI:IntsAre vs ns)(hz:ns.length≤1000)
  (q:Q (.ref σ.length) (σ++[.list (ns.map .int)])):Post G ρ s V Q (.ref a) {s with heap:=h',toks:=tk}:=
 c0w (o:=.list (ns.map .int)) S k ha ⟨vs,e,hl,j0l hI,by rw[List.length_map,sizeLine_eq];exact LA [_] [] 29014221616309437753294856 rfl hz⟩ q
theorem m0d(hm: ∃o,G.base.get? sysModules=some o){i:Nat}{l:List (Int×AV)}{Q:AV→Sig→Prop}(hi:σ[i]?=some (.dictI l))(hz:l.length<64)(h: ∀ks:List Int,ks.Perm (l.map (·.1))→ks.Pairwise (· ≤ ·)→Q (.ref σ.length) (σ++[.list (ks.map .int)])):a0b G n (.builtin "sorted") [.ref i] σ Q:=j0f λA ρ s v rm S va=>by
 refine a0a (S.at hi) λad ea z0=>?_;(refine a0q z0 λkvs hd e hl=>?_)
 refine V.ref_el va ea ?_
 refine a0k (hd.dictAt) λep hat=>?_
 have hk:=c0t e
 refine n0g (ns:=l.map (·.1)) (kdl_dict (knd:=intKind G.prog G.w) (kvs:=kvs) (ep:=ep) (g0u hm S (List.mem_of_getElem? ea))) rm.2.2 hat (by exact LA [_,_] [] 77788038229499732667236392 rfl hz hk) (λvs hvl hP=>?_) λh' tk a e' vs ns' hkk ha hL hI hp hs=>?_
 ·refine j0m (by rw[hvl,hk,List.length_map]) λj v hv=>?_
  refine c0e (hP j v hv) λk x hx his=>?_
  refine a0k (Value.isInt_shape his) λt z0=>?_;subst z0
  refine⟨k,t,?_,rfl⟩
  rw[←e,List.getElem?_map,hx];rfl
 ·exact m0b S hkk ha hL hI (by rw[hp.length_eq,List.length_map];exact LA [_] [] 3626779008082159407038504 rfl hz) (h ns' hp hs)
theorem z0j(hm: ∃o,G.base.get? sysModules=some o){i:Nat}{l:List (Int×AV)}{Q:AV→Sig→Prop}(hi:σ[i]?=some (.dictI l))(h:Q (.vview i) σ):a0b G n (.builtin "dict.values") [.ref i] σ Q:=j0f λA ρ s v rm S va=>by
 refine a0a (S.at hi) λad ea z0=>?_;(refine a0q z0 λkvs hd e hl=>?_)
 refine V.ref_el va ea ?_
 refine call_meetsIn F.slot_dict_values hd.typeIs F.entry_dict_values (F.args_dict_values_1 _) (meets_dict_values (intKind G.prog G.w) ad (g0u hm S (List.mem_of_getElem? ea))) ⟨⟨_,hd⟩,?_⟩
 exact e0b (s':={s with heap:=_}) (x:=AV.vview i) S (λb o e=>Heap.get?_push_of_some _ e) rfl rfl ⟨_,_,rfl,ea,_,Heap.get?_push_size _ rfl,rfl,rfl⟩ h
theorem m0e{i:Nat}{l:List (Int×AV)}{l0c:List Int}{Q:AV→Sig→Prop}(hi:σ[i]?=some (.dictI l))(hv:l.map (·.2)=l0c.map .int)(hz:l.length<64)(h: ∀ks:List Int,ks.Perm l0c→ks.Pairwise (· ≤ ·)→Q (.ref σ.length) (σ++[.list (ks.map .int)])):a0b G n (.builtin "sorted") [.vview i] σ Q:=j0f λA ρ s v rm S va=>by
 refine a0a (S.at hi) λad ea z0=>?_;(refine a0q z0 λkvs hd e hl=>?_)
 refine b0j va λr a' z0 ea' hview=>?_;subst z0
 rw[ea]at ea';cases ea'
 refine a0k (hd.dictAt) λep hat=>?_
 have hk:=c0t e
 rw[hv]at hl
 refine n0g (ns:=l0c) (kdl_values (knd:=intKind G.prog G.w) (kvs:=kvs) (ep:=ep)) rm.2.2 ⟨hview,hat⟩ (by exact LA [_,_] [] 77788038229499732667236392 rfl hz hk) (λvs hvl hP=>?_) λh' tk a e' vs ns' hkk ha hL hI hp hs=>?_
 ·have hlv:l0c.length=l.length:=by have:=congrArg List.length hv;simpa using this.symm
  refine j0m (by rw[hvl,hk,hlv]) λj v hv'=>?_
  refine a0k (hP j v hv') λk hx=>?_
  have hj:j<l0c.length:=by rw[hlv,←hk];exact(List.getElem?_eq_some_iff.mp hx).1
  refine a0a (VL.get hl j (.int l0c[j]) (by simp[hj])) λv' e1 z0=>?_;obtain⟨t,e2⟩:=z0
  rw[List.getElem?_map,hx]at e1;cases e1
  exact⟨l0c[j],t,by simp[hj],e2⟩
 ·have hlv:l0c.length=l.length:=by have:=congrArg List.length hv;simpa using this.symm
  exact m0b S hkk ha hL hI (by rw[hp.length_eq];exact LA [_,_] [] 3802953426359388494437351260200 rfl hz hlv) (h ns' hp hs)
theorem h0e{i:Nat}{l:List (Int×AV)}{name:PySem.Str}{id:String}(hi:σ[i]?=some (.dictI l))(slot:Slot "dict" name id)(hty:typeOf (.builtin id)=pure (.type "method_descriptor")):d0j G n σ (.ref i) name (.builtin id):=λA ρ s v pl rm S va Q q=>by
 refine a0a (S.at hi) λad ea z0=>?_;(refine a0q z0 λkvs hd e hl=>?_)
 obtain rfl:=V.ref_eq va ea
 exact getMethod_builtin hd.typeIs F.plainAttrs_dict slot hty hd.mapOf.noDict q
theorem v0l{i:Nat}{l:List (PySem.Str×AV)}{name:PySem.Str}{id:String}(hi:σ[i]?=some (.dictS l))(slot:Slot "dict" name id)(hty:typeOf (.builtin id)=pure (.type "method_descriptor")):d0j G n σ (.ref i) name (.builtin id):=λA ρ s v pl rm S va Q q=>by
 refine a0a (S.at hi) λad ea z0=>?_;(refine a0q z0 λkvs hd e hl=>?_)
 obtain rfl:=V.ref_eq va ea
 exact getMethod_builtin hd.typeIs F.plainAttrs_dict slot hty hd.mapOf.noDict q
theorem v0m{i:Nat}{l:List (List Int×AV)}{name:PySem.Str}{id:String}(hi:σ[i]?=some (.dictT l))(slot:Slot "dict" name id)(hty:typeOf (.builtin id)=pure (.type "method_descriptor")):d0j G n σ (.ref i) name (.builtin id):=λA ρ s v pl rm S va Q q=>by
 refine a0a (S.at hi) λad ea z0=>?_;(refine a0q z0 λxs hd e hl=>?_)
 obtain rfl:=V.ref_eq va ea
 exact getMethod_builtin hd.typeIs F.plainAttrs_dict slot hty (dictOfH_noDict hd) q
theorem x0q(hm: ∃o,G.base.get? sysModules=some o){i:Nat}{l:List (Int×AV)}{k:Int}{y:AV}{Q:AV→Sig→Prop}(hi:σ[i]?=some (.dictI l))(h:Q ((g0d l k).getD y) σ):a0b G n (.builtin "dict.get") [.ref i,.int k,y] σ Q:=a1b λA ρ s v u t rm S va vu vt=>by
 refine a0a (S.at hi) λad ea z0=>?_;(refine a0q z0 λkvs hd e hl=>?_)
 refine V.ref_el va ea ?_
 refine V.int_el vu λu=>?_
 refine call_meetsIn F.slot_dict_get hd.typeIs F.entry_dict_get (F.args_dict_get_3 _ _ _) (meets_dict_get_default (intKind G.prog G.w) ad d0m (g0u hm S (List.mem_of_getElem? ea)) t) ⟨_,hd.mapOf,?_⟩
 exact a0e S ((k0r e hl).elim (λq=>b0j q λx v e1 e2 hw=>by rw[e1,e2];exact hw) λq=>by rw[q.1,q.2];exact vt) h
theorem x0r(hm: ∃o,G.base.get? sysModules=some o){i:Nat}{l:List (PySem.Str×AV)}{k:PySem.Str}{y:AV}{Q:AV→Sig→Prop}(hi:σ[i]?=some (.dictS l))(h:Q ((g0d l k).getD y) σ):a0b G n (.builtin "dict.get") [.ref i,.str k,y] σ Q:=a1b λA ρ s v u t rm S va vu vt=>by
 refine a0a (S.at hi) λad ea z0=>?_;(refine a0q z0 λkvs hd e hl=>?_)
 refine V.ref_el va ea ?_
 refine V.str_el vu λu=>?_
 refine call_meetsIn F.slot_dict_get hd.typeIs F.entry_dict_get (F.args_dict_get_3 _ _ _) (meets_dict_get_default (PySem.strKind G.prog G.w) ad t0j (g0u hm S (List.mem_of_getElem? ea)) t) ⟨_,hd.mapOf,?_⟩
 exact a0e S ((k0r e hl).elim (λq=>b0j q λx v e1 e2 hw=>by rw[e1,e2];exact hw) λq=>by rw[q.1,q.2];exact vt) h
theorem h0q{prog:Program}{w:World}{ρ:List Addr}{h:Heap}: ∀{ks:List Int} {vs:List Value},VL ρ h (ks.map .int) vs→ItemsAre (intKind prog w) ks vs
 |[],_,e=>by(subst e);exact .nil
 |k::ks,_,⟨v,r,e,⟨t,hv⟩,hr⟩=>by subst e hv;exact .cons d0m (h0q hr)
theorem s0p{k:List Int}{l:List (List Int×Addr×Value)}{r:Option (List Int×Addr×Value)}(e:l.find? (λp=>decide (p.1=k))=r):atKey l k=r.map Prod.snd:=by unfold atKey;rw[e]
theorem t0e{ρ:List Addr}{h:Heap}{k:List Int}{xs:List (List Int×Addr×Value)}{l:List (List Int×AV)}(e:xs.map (·.1)=l.map (·.1))(hl:VL ρ h (l.map (·.2)) (xs.map (·.2.2))):
  (∃x v,g0d l k=some x∧(atKey xs k).map (·.2)=some v∧V ρ h x v)∨(g0d l k=none∧atKey xs k=none):=
 (p0k (k:=k) (g:=Prod.snd) e hl).imp (λq=>b0j q λp x e1 e2 hv=>⟨x.2,p.2.2,n0y e2,congrArg (Option.map Prod.snd) (s0p e1),hv⟩) λq=>⟨n0y q.2,s0p q.1⟩
theorem x0s(hm: ∃o,G.base.get? sysModules=some o){i:Nat}{l:List (List Int×AV)}{ks:List Int}{y:AV}{Q:AV→Sig→Prop}(hi:σ[i]?=some (.dictT l))(h:Q ((g0d l ks).getD y) σ):a0b G n (.builtin "dict.get") [.ref i,.tup (ks.map .int),y] σ Q:=a1b λA ρ s v u t rm S va vu vt=>by
 refine a0a (S.at hi) λad ea z0=>?_;(refine a0q z0 λxs hd e hl=>?_)
 refine V.ref_el va ea ?_
 obtain⟨tu,vs,rfl,⟨o,ho,hc,m,hdat⟩,hvs,z⟩:=vu
 refine call_meetsIn F.slot_dict_get hd.typeIs F.entry_dict_get (F.args_dict_get_3 _ _ _) (meetsH_dict_get_default (tupleKind (intKind G.prog G.w)) ad tu (g0u hm S (List.mem_of_getElem? ea)) t) ⟨?_,ks,xs,⟨o,vs,m,ho,hc,hdat,h0q hvs⟩,hd,?_⟩
 ·have:=rm.line
  show A.in1.units<cLine
  simp;exact LA [_,_] [] 46056945491100038082600 rfl this
 ·exact a0e S ((t0e e hl).elim (λq=>b0j q λx v e1 e2 hw=>by rw[e1,e2];exact hw) λq=>by rw[q.1,q.2];exact vt) h
theorem z0d{i:Nat}{l:List (List Int×AV)}{ks:List Int}{y:AV}{Q:Sig→Prop}(hi:σ[i]?=some (.dictT l))(hn:g0d l ks=none)(hz:l.length≤1000000)(h:Q (σ.set i (.dictT (l++[(ks,y)])))):a0y G n (.ref i) (.tup (ks.map .int)) y σ Q:=λA ρ s a b c rm S va vb vc=>by
 refine a0a (S.at hi) λad ea z0=>?_;(refine a0q z0 λxs hd e hl=>?_)
 refine V.ref_el va ea ?_
 obtain⟨tu,vs,rfl,⟨o,ho,hc,m,hdat⟩,hvs,z⟩:=vb
 have hlen:xs.length=l.length:=by have:=congrArg List.length e;simpa using this
 have hno:atKey xs ks=none:=(t0e (k:=ks) e hl).elim (λq=>b0j q λ_ _ e1 _ _=>b0n (hn.symm.trans e1)) (·.2)
 refine wpAny_setItem_heap (knd:=tupleKind (intKind G.prog G.w)) (k:=ks) (by have:=rm.line;show A.in1.units<cLine;simp;exact LA [_,_] [] 46056945491100038082600 rfl this) ⟨o,vs,m,ho,hc,hdat,h0q hvs⟩ hd (λh' hd' hsb=>?_) (by rw[hlen,sizeLine_eq];exact LA [_] [] 29014221616312736288178184 rfl hz)
 rw[storedH_new hno]at hd'
 exact d0n (x:=()) (o:=.dictT (l++[(ks,y)])) S ea hsb (λtk=>⟨_,hd',by simp[e],by
  rw[List.map_append,List.map_append]
  exact VL.append (VL.mono List.prefix_rfl tk _ _ hl) ⟨c,[],rfl,V.mono List.prefix_rfl tk _ _ vc,rfl⟩⟩) rfl rfl trivial h
end
mutual
theorem AV.bd_mono{k k':Nat}(hk:k≤k'): ∀x:AV,x.bd k→x.bd k'
 | .none,_=>trivial
 | .bool _,_=>trivial
 | .int _,_=>trivial
 | .str _,_=>trivial
 | .tup l,h=>AV.bdL_mono hk l h
 | .ref n,h=>Nat.lt_of_lt_of_le h hk
 | .glob _,_=>trivial
 | .rng _ _ _,_=>trivial
 | .vview n,h=>Nat.lt_of_lt_of_le h hk
theorem AV.bdL_mono{k k':Nat}(hk:k≤k'): ∀l:List AV,AV.bdL k l→AV.bdL k' l
 |[],_=>trivial
 |x::l,h=>⟨AV.bd_mono hk x h.1,AV.bdL_mono hk l h.2⟩
end
theorem AObj.bd_mono{k k':Nat}(hk:k≤k'): ∀{o:AObj},o.bd k→o.bd k'
 | .list _,h=>AV.bdL_mono hk _ h
 | .dictI _,h=>AV.bdL_mono hk _ h
 | .dictS _,h=>AV.bdL_mono hk _ h
 | .dictT _,h=>AV.bdL_mono hk _ h
 | .set _ _,_=>trivial
 | .inst _ _,h=>Nat.lt_of_lt_of_le h hk
 | .ns _,h=>λx v e=>AV.bd_mono hk v (h x v e)
 | .raw _,_=>trivial
section
variable {G:Gx} {n:Nat} {cenv:Env} {loc:Loc} {σ:Sig} {K:Frag}
theorem f1d(W:WOk G K){C fI:Addr}{xs:List AV}{Q:AV→Sig→Prop}(hm:makesIn K C=true)(hi:findIn K (.ref C) "__init__"=some (some (.ref fI)))(hf:typeIn K (.ref fI)=some (.type "function"))
  (h:v0w G n (.ref fI) (.ref (σ.length+1)::xs) (σ++[.ns [],.inst C σ.length]) λy σ'=>y=.none∧Q (.ref (σ.length+1)) σ'):a0b G (n+1) (.ref C) xs σ Q:=λA ρ s vs rm S vl=>by
 have X:=W.kin S
 obtain⟨hp,g,d,t,os⟩:=s
 refine wpAny_call (make_core (makes_of X hm) (looks_findIn X hi) (λself=>bind_fn X self hf) (.inl rfl) ?_)
 have rm':e0t n (A.under (.builtin "type.__call__" ⟨.ref C::vs,[]⟩)):=⟨by have:=rm.1;show A.depth+1+n<1000;exact LA [_,_] [] 3987685692269448652907794893216165928 rfl this,by have:=rm.2.1;show A.units+1+10*n+100<9900;exact LA [_,_] [] 3291165015413786336969405491758743184063650674445301176401801256 rfl this,rm.2.2⟩
 have k1: ∀b o,hp.get? b=some o→(hp.push emptyDict).get? b=some o:=λb o e=>Heap.get?_push_of_some _ e
 have k2: ∀b o,(hp.push emptyDict).get? b=some o→((hp.push emptyDict).push (instObj C hp.objs.size)).get? b=some o:=λb o e=>Heap.get?_push_of_some _ e
 have hs1:(hp.push emptyDict).objs.size=hp.objs.size+1:=Heap.size_push _ _
 have S1:G.St (ρ++[hp.objs.size]) (σ++[.ns []]) ⟨hp.push emptyDict,g,d,t,os⟩:=S.new k1 (b0h _) ⟨λ_=>none,⟨⟨emptyDict,#[],0,Heap.get?_push_size _ rfl,rfl,λe he=>by simp at he,λx=>rfl⟩,λo es ep ho hd=>by
  rw[Heap.get?_push_size _ rfl]at ho;cases ho;cases hd;exact Nat.le_refl _⟩,λx=>rfl⟩ rfl rfl
 have S2:G.St (ρ++[hp.objs.size]++[(hp.push emptyDict).objs.size]) (σ++[.ns []]++[.inst C σ.length]) ⟨(hp.push emptyDict).push (instObj C hp.objs.size),g,d,t,os⟩:=S1.new k2 (b0h _) ⟨hp.objs.size,by rw[←S.len];exact gn1,Heap.get?_push_size _ rfl⟩ rfl rfl
 have N:Nxt f0g ρ ⟨hp,g,d,t,os⟩ (ρ++[hp.objs.size]++[(hp.push emptyDict).objs.size]) ⟨(hp.push emptyDict).push (instObj C hp.objs.size),g,d,t,os⟩:=
  (k0x (s':=⟨hp.push emptyDict,g,d,t,os⟩) k1 (b0h _)).trans (k0x (s:=⟨hp.push emptyDict,g,d,t,os⟩) k2 (b0h _))
 have hx:(ρ++[hp.objs.size]++[(hp.push emptyDict).objs.size])[σ.length+1]?=some (hp.objs.size+1):=by rw[hs1,←S.len];exact gn2
 have e:σ++[.ns []]++[.inst C σ.length]=σ++[.ns [],.inst C σ.length]:=by exact List.append_assoc _ _ _
 rw[e]at S2
 refine codeAny_mono (h _ _ _ _ rm' S2 ⟨.ref (hp.objs.size+1),vs,rfl,⟨_,hx,rfl⟩,VL.mono N.pre N.tk _ _ vl⟩) λr s' z=>?_
 cases r with
 |error er=>exact z
 |ok fl=>
  cases fl with
  |next=>exact z
  |brk=>exact z
  |cont=>exact z
  |ret v=>
   obtain⟨y,ρ',σ',S',N',hy,rfl,q⟩:=z
   subst hy
   exact⟨rfl,.ref (σ.length+1),ρ',σ',S',N.trans N',⟨_,j0u N'.pre hx,rfl⟩,q⟩
end
theorem h1x{α:Type}{P:α→Prop}{a:α}{l:List α}(h1:P a)(h2: ∀x∈l,P x): ∀x∈a::l,P x:=List.forall_mem_cons.mpr ⟨h1,h2⟩
theorem w0j{k:Nat}{m:List (PySem.Str×AV)}(h: ∀p∈m,AV.bd k p.2):AObj.bd k (.ns m):=λ_ _ hx=>h _ (PySem.mem_of_lookup hx)
section
variable {G:Gx} {n:Nat} {cenv:Env} {loc:Loc} {σ:Sig} {K:Frag}
theorem h0v{ρ:List Addr}{s:Shared}{l:List AV}{ws:List Value}{so:Obj}{Q:AV→Sig→Prop}(S:G.St ρ σ s)(hl:VL ρ s.heap l ws)(hz:l.length≤sizeLine)(q:Q (.ref σ.length) (σ++[.list l])):
  Post G ρ s V Q (.ref (s.heap.objs.size+1)) {s with heap:=(s.heap.push so).push {cls:=.type "list",data:=.seq ws.toArray}}:=
 have k2: ∀c o,s.heap.get? c=some o→((s.heap.push so).push {cls:=.type "list",data:=.seq ws.toArray}).get? c=some o:=λ_ _ e=>Heap.get?_push_of_some _ (Heap.get?_push_of_some _ e)
 c0w (o:=.list l) (tk:=s.toks) S k2 (m0r (Nat.le_succ _)) (by rw[show s.heap.objs.size+1=(s.heap.push so).objs.size from(Heap.size_push ..).symm];exact⟨ws,0,Heap.get?_push_size _ rfl,VL.mono (List.prefix_append _ _) (TK.ofKeeps k2) _ _ hl,hz⟩) q
theorem g1v{value lower:Expr}{p pos:Pos}{Q:AV→Sig→Prop}
  (h:OkE G n cenv loc σ value λx σ₁=>OkE G n cenv loc σ₁ lower λk σ₂=>∃i l,∃a:Nat,x=.ref i∧k=.int a∧σ₂[i]?=some (.list l)∧Q (.ref σ₂.length) (σ₂++[.list (l.drop a)]))
  (ht:autoParam (∀o r,letTemporaryGo value o r=pure ()) aI):OkE G n cenv loc σ (.Subscript value (.Slice (some lower) none none p) pos) Q:=λA ρ s rm S F=>by
 refine wpAny_Subscript_list_slice (h.then rm S F λv x ρ₁ σ₁ s₁ S₁ N₁ F₁ hv q=>?_) ht
 rw[evalPart_some]
 refine q.then rm S₁ F₁ λu k ρ₂ σ₂ s₂ S₂ N₂ F₂ hu q₂=>?_
 rw[evalPart_none]
 obtain⟨i,l,a,rfl,rfl,hi,q₂⟩:=q₂
 refine d0l (St.list S₂ hi) λad vs m ea ho hl z=>?_
 obtain rfl:=V.ref_eq (V.mono N₂.pre N₂.tk _ _ hv) ea
 obtain⟨t,rfl⟩:=hu
 refine wpAny_pure ⟨ad,vs.toArray,some (a:Int),none,rfl,ho.isList,by rw[List.size_toArray,←VL.length hl];exact z,.int _ _,.none,?_⟩
 rw[slicePick_from']
 exact(h0v S₂ (VL.drop hl a) (by rw[List.length_drop];exact LA [_,_,_] [] 1168667344904 rfl z) q₂).trans (N₁.trans N₂)
theorem c1b{value upper:Expr}{p pos:Pos}{Q:AV→Sig→Prop}
  (h:OkE G n cenv loc σ value λx σ₁=>OkE G n cenv loc σ₁ upper λk σ₂=>∃i l,∃b:Nat,x=.ref i∧k=.int b∧σ₂[i]?=some (.list l)∧Q (.ref σ₂.length) (σ₂++[.list (l.take b)]))
  (ht:autoParam (∀o r,letTemporaryGo value o r=pure ()) aI):OkE G n cenv loc σ (.Subscript value (.Slice none (some upper) none p) pos) Q:=λA ρ s rm S F=>by
 refine wpAny_Subscript_list_slice (h.then rm S F λv x ρ₁ σ₁ s₁ S₁ N₁ F₁ hv q=>?_) ht
 rw[evalPart_none]
 refine wpAny_pure ?_
 rw[evalPart_some]
 refine q.then rm S₁ F₁ λu k ρ₂ σ₂ s₂ S₂ N₂ F₂ hu q₂=>?_
 obtain⟨i,l,b,rfl,rfl,hi,q₂⟩:=q₂
 refine d0l (St.list S₂ hi) λad vs m ea ho hl z=>?_
 obtain rfl:=V.ref_eq (V.mono N₂.pre N₂.tk _ _ hv) ea
 obtain⟨t,rfl⟩:=hu
 refine⟨ad,vs.toArray,none,some (b:Int),rfl,ho.isList,by rw[List.size_toArray,←VL.length hl];exact z,.none,.int _ _,?_⟩
 rw[slicePick_upto']
 exact(h0v S₂ (VL.take hl b) (by rw[List.length_take];exact LA [_,_,_] [] 1102229569544 rfl z) q₂).trans (N₁.trans N₂)
theorem d1i{value upper:Expr}{p pos:Pos}{Q:AV→Sig→Prop}{ad:Addr}{items:Array Value}{ks:List Int}(hb:G.base.IsList ad items)(hI:IntsAre items.toList ks)(hz:ks.length≤1000)
  (h:OkE G n cenv loc σ value λx σ₁=>OkE G n cenv loc σ₁ upper λk σ₂=>∃b:Nat,x=.glob (.ref ad)∧k=.int b∧Q (.ref σ₂.length) (σ₂++[.list ((ks.take b).map .int)]))
  (ht:autoParam (∀o r,letTemporaryGo value o r=pure ()) aI):OkE G n cenv loc σ (.Subscript value (.Slice none (some upper) none p) pos) Q:=λA ρ s rm S F=>by
 refine wpAny_Subscript_list_slice (h.then rm S F λv x ρ₁ σ₁ s₁ S₁ N₁ F₁ hv q=>?_) ht
 rw[evalPart_none]
 refine wpAny_pure ?_
 rw[evalPart_some]
 refine q.then rm S₁ F₁ λu k ρ₂ σ₂ s₂ S₂ N₂ F₂ hu q₂=>?_
 obtain⟨b,rfl,rfl,q₂⟩:=q₂
 subst hv
 obtain⟨t,rfl⟩:=hu
 have hl:VL ρ₂ s₂.heap (ks.map .int) items.toList:=j0l hI
 have hlen:=VL.length hl
 rw[List.length_map]at hlen
 have hsz:items.size=ks.length:=by rw[hlen];simp
 obtain⟨o,ho,hc,ne,hd⟩:=hb
 refine⟨ad,items,none,some (b:Int),rfl,⟨o,S₂.base _ _ ho,hc,ne,hd⟩,by rw[hsz,sizeLine_eq];exact LA [_] [] 29014221616309437753294856 rfl hz,.none,.int _ _,?_⟩
 rw[slicePick_upto']
 exact(h0v S₂ (List.map_take▸VL.take hl b) (by rw[List.length_map,List.length_take,sizeLine_eq];exact LA [_,_] [] 29710562935152658952182136840 rfl hz) q₂).trans (N₁.trans N₂)
theorem p0u{sel:Nat→Bool}(a:Nat): ∀(xs:List Value) (j:Nat),(∀k,j≤k→k<j+xs.length→sel k=decide (a≤k))→((xs.zipIdx j).filterMap λp=>if sel p.2=true then none else some p.1)=xs.take (a - j)
 |[],j,_=>by simp
 |x::xs,j,h=>by
  have ih:=p0u a xs (j+1) λk h1 h2=>h k (by exact LA [_,_] [] 1099552534536 rfl h1) (by simp at h2⊢;exact LA [_,_,_] [] 8351812920143694397480 rfl h2)
  rw[List.zipIdx_cons,List.filterMap_cons]
  have h0:=h j (Nat.le_refl _) (by simp)
  by_cases hj:a≤j
  ·dsimp only
   rw[h0,decide_eq_true hj]
   simp only[if_true]
   rw[ih,show a - j=0 by exact LA [_,_] [] 6631867842568 rfl hj,show a - (j+1)=0 by exact LA [_,_] [] 7003202312503304 rfl hj];rfl
  ·dsimp only
   rw[h0,decide_eq_false hj]
   simp only[Bool.false_eq_true,if_false]
   rw[ih,show a - j=(a - (j+1))+1 by exact LA [_,_] [] 272767407991949504807208 rfl hj,List.take_succ_cons]
theorem o0c{prog:Program}{w:World}{A:Around}{E:Value→Shared→Prop}{s:Shared}{sl:Addr}{P:_→Shared→Prop}(hTs:s.TypeIs (.ref sl) "slice")(h:P none s):wpAny (model prog w) A (Builtin.List.listSubscript? (.ref sl)) P E s:=by
 unfold Builtin.List.listSubscript?
 refine wpAny_bind (wpAny_specialOf hTs slice_no_index ?_)
 simp only[Option.isNone_none,if_true]
 exact wpAny_pure h
theorem m0k{prog:Program}{w:World}{A:Around}{E:Value→Shared→Prop}{s:Shared}{sl:Addr}{os:Obj}{a:Nat}{t:Tok}{P:_→Shared→Prop}(hos:s.heap.get? sl=some os)(hds:os.data=.fields #[.int a t,.none,.none])(h:P (rawPart (some (a:Int)),rawPart none,rawPart none) s):wpAny (model prog w) A (Builtin.List.listSliceParts (.ref sl)) P E s:=by
 rw[listSliceParts_eq]
 refine wpAny_bind (wpAny_field hos hds (x:=.none) rfl (wpAny_bind (wpAny_listPart .none ?_)))
 rw[if_neg (by exact Bool.false_ne_true)]
 refine wpAny_bind (wpAny_field hos hds (x:=.int a t) rfl (wpAny_bind (wpAny_listPart (.int _ _) ?_)))
 exact wpAny_bind (wpAny_field hos hds (x:=.none) rfl (wpAny_bind (wpAny_listPart .none (wpAny_pure h))))
theorem v0h{prog:Program}{w:World}{A:Around}{E:Value→Shared→Prop}{s:Shared}{l:Addr}{vs:Array Value}{m:Nat}{P:_→Shared→Prop}(hl:IsL s.heap l vs m)(h:P vs s):wpAny (model prog w) A (Builtin.List.listItems (.ref l)) P E s:=by
 unfold Builtin.List.listItems
 exact wpAny_bind (wpAny_seqItems hl rfl (wpAny_pure h))
theorem p0e{prog:Program}{w:World}{A:Around}{E:Value→Shared→Prop}{s:Shared}{l sl:Addr}{vs:List Value}{m a:Nat}{t:Tok}{Q:Unit→Shared→Prop}(hl:IsL s.heap l vs.toArray m)(hs:s.heap.IsSliceOf sl (.int a t) .none .none)(ha:a≤vs.length)(hz:vs.length≤sizeLine)
  (hQ: ∀h' m',IsL h' l (vs.take a).toArray m'→Heap.SameBut l s.heap h'→Q () {s with heap:=h'}):wpAny (model prog w) A (delItem (.ref l) (.ref sl)) Q E s:=by
 refine a0q hs λos hos hcs hds=>?_
 have hTs:s.TypeIs (.ref sl) "slice":=⟨os,hos,hcs⟩
 have fin: ∀f:Array Value→Array Value,f vs.toArray=(vs.take a).toArray→Q () {s with heap:=s.heap.update l (Obj.mapSeq f)}:=λf e=>(show∃m',IsL (s.heap.update l (Obj.mapSeq f)) l (vs.take a).toArray m' from⟨_,by
  unfold IsL
  rw[Heap.get?_update_self _ hl (by rfl)]
  simp only[Obj.mapSeq,e];rfl⟩).elim λm' hL=>hQ _ m' hL (Heap.SameBut.update ..)
 have hb:sliceBounds (some (a:Int)) none none vs.toArray.size=((a:Int),(vs.length:Int),1):=by
  simp only[sliceBounds,Option.getD_none,List.size_toArray]
  have h1: ¬((a:Int)<0):=by exact LA [_] [] 6310025 rfl
  simp only[h1,if_false,show(1:Int)>0 by decide,if_true]
  congr 1
  omega
 have hf:=congrArg List.toArray (p0u (sel:=λk=>if(1:Int)>0 then decide ((a:Int)≤k)&&decide ((k:Int)<vs.length)&&(((k:Int) - a)%1==0)else decide ((vs.length:Int)<k)&&decide ((k:Int)≤a)&&(((a:Int) - k)%-1==0)) a vs 0 λk _ h=>by
  rw[if_pos (by decide)]
  have h1:((k:Int)<vs.length):=by exact LA [_,_] [] 1759841414938664 rfl h
  have h2:(((k:Int) - a)%1==0)=true:=by simp
  rw[h2,decide_eq_true h1,Bool.and_true,Bool.and_true]
  simp)
 rw[Nat.sub_zero]at hf;have hf:=hf
 clear hQ hs
 refine wpAny_delItem_slot (IsL.typeIs hl) (by decide) F.slot_list_delitem (wpAny_call_entry F.slot_list_delitem (IsL.typeIs hl) F.entry_list_delitem ?_ (F.args_list_delitem_2 _ _))
 show wpAny _ _ (Builtin.List.listSubscript? (.ref sl)>>=_) _ _ s
 refine wpAny_bind (o0c hTs ?_)
 show wpAny _ _ (typeOf (.ref sl)>>=_) _ _ s
 refine wpAny_bind (wpAny_typeOf hTs ?_)
 rw[if_neg (by decide)]
 refine wpAny_bind (m0k hos hds ?_)
 clear hds hos hTs
 refine wpAny_bind (v0h hl ?_)
 refine wpAny_bind (wpAny_of_eq (sliceIndices_raw (some (a:Int)) none none vs.toArray.size (by trivial)) ?_)
 rw[hb]
 clear hb
 refine wpAny_bind (wpAny_rule ?_)
 refine wpAny_bind (listUpdate_at hl rfl ?_ (by assumption) ?_)
 ·exact wpAny_bind (wpAny_letGo (wpAny_pure ⟨_,rfl,fin _ hf⟩))
 ·refine Nat.le_trans (Nat.le_of_eq (congrArg Array.size hf)) ?_
  simp;exact LA [_,_,_] [] 7929680577462280 rfl hz
theorem w0d{value lower:Expr}{p q pos:Pos}{Q:AFlow→Loc→Sig→Prop}
  (h:OkE G n cenv loc σ value λx σ₁=>OkE G n cenv loc σ₁ lower λk σ₂=>∃i l,∃a:Nat,x=.ref i∧k=.int a∧σ₂[i]?=some (.list l)∧a≤l.length∧Q .next loc (σ₂.set i (.list (l.take a)))):OkS G n cenv loc σ (.Delete [.Subscript value (.Slice (some lower) none none p) q] pos) Q:=λA ρ s rm S F=>by
 refine wpAny_Delete (wpAny_deleteEach_cons (wpAny_delete_Subscript (h.then rm S F λv x ρ₁ σ₁ s₁ S₁ N₁ F₁ hv qq=>wpAny_Slice ?_)))
 rw[evalPart_some]
 refine qq.then rm S₁ F₁ λu k ρ₂ σ₂ s₂ S₂ N₂ F₂ hu q₂=>?_
 rw[evalPart_none]
 refine wpAny_pure (wpAny_pure ?_)
 obtain⟨i,l,a,rfl,rfl,hi,hal,q₂⟩:=q₂
 refine d0l (St.list S₂ hi) λad vs m ea ho hl z=>?_
 obtain rfl:=V.ref_eq (V.mono N₂.pre N₂.tk _ _ hv) ea
 obtain⟨t,rfl⟩:=hu
 have hlen:=VL.length hl
 have k2: ∀b o,s₂.heap.get? b=some o→(s₂.heap.push {cls:=.type "slice",data:=.fields #[.int a t,.none,.none]}).get? b=some o:=λb o e=>Heap.get?_push_of_some _ e
 have S₃:G.St ρ₂ σ₂ {s₂ with heap:=s₂.heap.push {cls:=.type "slice",data:=.fields #[.int a t,.none,.none]}}:=S₂.keeps k2 rfl rfl
 have N₃:Nxt f0g ρ₂ s₂ ρ₂ {s₂ with heap:=s₂.heap.push {cls:=.type "slice",data:=.fields #[.int a t,.none,.none]}}:=Nxt.keeps k2
 have ho':IsL (s₂.heap.push {cls:=.type "slice",data:=.fields #[.int a t,.none,.none]}) ad vs.toArray m:=k2 _ _ ho
 refine p0e ho' (Heap.IsSliceOf.new ..) (by exact LA [_,_,_] [] 2251869682434056 rfl hal hlen) (by exact LA [_,_,_] [] 1196337446027272 rfl z hlen) λh' m' hL hsb=>?_
 refine wpAny_deleteEach_nil ?_
 have p4:Post G ρ₂ {s₂ with heap:=s₂.heap.push {cls:=.type "slice",data:=.fields #[.int a t,.none,.none]}} rU (λ(_:Unit) σ'=>Q .next loc σ') () {s₂ with heap:=h'}:=
  d0n (x:=()) (o:=.list (l.take a)) S₃ ea hsb (λtk=>⟨vs.take a,m',hL,VL.take (VL.mono List.prefix_rfl ((TK.ofKeeps k2).trans tk) _ _ hl) a,by rw[List.length_take];exact LA [_,_,_] [] 1102229569544 rfl z⟩) rfl rfl trivial q₂
 obtain⟨_,ρ₄,σ₄,S₄,N₄,_,q₄⟩:=p4
 exact⟨.next,loc,ρ₄,σ₄,S₄,e0a (((N₁.trans N₂).trans N₃).trans N₄),(F₂.next N₃).next N₄,rfl,q₄⟩
theorem w0a{value lower:Expr}{p q pos:Pos}{Q:AFlow→Loc→Sig→Prop}{rest:List Stmt}{Ks:List (List Stmt)}
  (h:OkE G n cenv loc σ value λx σ₁=>OkE G n cenv loc σ₁ lower λk σ₂=>∃i l,∃a:Nat,x=.ref i∧k=.int a∧σ₂[i]?=some (.list l)∧a≤l.length∧OkK G n cenv Q (rest::Ks) loc (σ₂.set i (.list (l.take a)))):OkK G n cenv Q ((.Delete [.Subscript value (.Slice (some lower) none none p) q] pos::rest)::Ks) loc σ:=d0c (w0d h)
end
theorem s0u{kindOf:PySem.Str→Option NameKind}{x:PySem.Str}: ∀{ps:List PySem.Str} {ws:List Value} {m:PySem.Str→Option Value},x∉ps→bindL kindOf (ps.zip ws) m x=m x
 |[],_,_,_=>rfl
 |_::_,[],_,_=>rfl
 |p::ps,w::ws,m,h=>by
  simp only[List.mem_cons,not_or]at h
  rw[List.zip_cons_cons];unfold bindL
  rw[s0u h.2]
  split
  ·exact if_neg h.1
  ·rfl
theorem o0y{kindOf:PySem.Str→Option NameKind}{x:PySem.Str}{cv:Value}: ∀{ps:List PySem.Str} {ws:List Value} {m:PySem.Str→Option Value} {i:Nat},ps.Nodup→ps[i]?=some x→ws[i]?=some cv→kindOf x=some .local→bindL kindOf (ps.zip ws) m x=some cv
 |[],_,_,_,_,h,_,_=>by trivial
 |_::_,[],_,_,_,_,h,_=>by trivial
 |p::ps,w::ws,m,0,hn,h1,h2,hk=>by
  simp at h1 h2;subst h1 h2
  rw[List.zip_cons_cons];unfold bindL
  rw[s0u (List.nodup_cons.mp hn).1,if_pos hk];exact if_pos rfl
 |p::ps,w::ws,m,i+1,hn,h1,h2,hk=>by
  rw[List.zip_cons_cons];unfold bindL
  exact o0y (List.nodup_cons.mp hn).2 (by simpa using h1) (by simpa using h2) hk
theorem s0t{kindOf:PySem.Str→Option NameKind}{x:PySem.Str}: ∀{ps:List PySem.Str} {ws:List Value} {m:PySem.Str→Option Value},x∉ps→bindC kindOf (ps.zip ws) m x=m x
 |[],_,_,_=>rfl
 |_::_,[],_,_=>rfl
 |p::ps,w::ws,m,h=>by
  simp only[List.mem_cons,not_or]at h
  rw[List.zip_cons_cons];unfold bindC
  rw[s0t h.2]
  split
  ·rfl
  ·exact if_neg h.1
theorem o0x{kindOf:PySem.Str→Option NameKind}{x:PySem.Str}{cv:Value}: ∀{ps:List PySem.Str} {ws:List Value} {m:PySem.Str→Option Value} {i:Nat},ps.Nodup→ps[i]?=some x→ws[i]?=some cv→kindOf x=some .cell→bindC kindOf (ps.zip ws) m x=some cv
 |[],_,_,_,_,h,_,_=>by trivial
 |_::_,[],_,_,_,_,h,_=>by trivial
 |p::ps,w::ws,m,0,hn,h1,h2,hk=>by
  simp at h1 h2;subst h1 h2
  rw[List.zip_cons_cons];unfold bindC
  rw[s0t (List.nodup_cons.mp hn).1,if_neg (by rw[hk];decide)];exact if_pos rfl
 |p::ps,w::ws,m,i+1,hn,h1,h2,hk=>by
  rw[List.zip_cons_cons];unfold bindC
  exact o0x (List.nodup_cons.mp hn).2 (by simpa using h1) (by simpa using h2) hk
theorem c0y{x:PySem.Str}: ∀{names:List (PySem.Str×NameKind)} {k:Nat} {acc:List (PySem.Str×Addr)},((x,NameKind.cell)∈names∨(acc.lookup x).isSome=true)→((cellsFrom k names acc).lookup x).isSome=true
 |[],_,_,h=>h.elim (λh=>by(exact absurd h nofun)) id
 |(n,kd)::r,k,acc,h=>by
  unfold cellsFrom
  split
  ·rename_i hk
   refine c0y ?_
   by_cases hx:x=n
   ·subst hx;exact .inr (by simp)
   ·rcases h with h|h
    ·rcases List.mem_cons.mp h with h|h
     ·cases h;exact absurd rfl hx
     ·exact .inl h
    ·refine .inr ?_
     have e:(x==n)=false:=by exact decide_eq_false ‹_›
     rw[List.lookup_cons,e];exact h
  ·rename_i hk
   refine c0y ?_
   rcases h with h|h
   ·rcases List.mem_cons.mp h with h|h
    ·cases h;trivial
    ·exact .inl h
   ·exact .inr h
theorem d0u: ∀{names:List (PySem.Str×NameKind)} {k:Nat} {acc:List (PySem.Str×Addr)},(names.map (·.1)++acc.map (·.1)).Nodup→((cellsFrom k names acc).map (·.1)).Nodup
 |[],_,_,h=>by unfold cellsFrom;assumption
 |(n,kd)::r,k,acc,h=>by
  unfold cellsFrom
  split
  ·refine d0u ?_
   simp only[List.map_cons]at h⊢
   exact(List.perm_middle.nodup_iff).mpr h
  ·refine d0u ?_
   simp only[List.map_cons,List.cons_append,List.nodup_cons]at h
   exact h.2
section
variable {G:Gx} {n:Nat} {cenv:Env} {loc:Loc} {σ:Sig} {K:Frag}
theorem s0w(W:WOk G K){f:Addr}{xs:List AV}{Q:AV→Sig→Prop}{oc:Value}{od:Option Addr}{osl:Array (Option Value)}{name qual:PySem.Str}{params:Arguments}{body:List Stmt}{scope:Scope}{dV kV doc pm cdv ct:Value}{an:Option Addr}{ps:List PySem.Str}{ys:List AV}
  (ho:K.lookup f=some ⟨oc,od,.func (fnOf name qual params body scope dV kV doc pm an cdv ct),osl⟩) (hcd:codeIn K cdv qual=true)
  (hbind: ∀(h:Heap) ρ (vs:List Value),VL ρ h xs vs→∃ws,VL ρ h ys ws∧ws.length=ps.length∧bindArgs (fnOf name qual params body scope dV kV doc pm an cdv ct) ⟨vs,[]⟩=pure (ps.zip ws))
  (hlen:ps.length=ys.length) (hloc:(ps.all λp=>scope.names.lookup p==some .local||scope.names.lookup p==some .cell)=true) (hnd:ps.Nodup) (hnn:(scope.names.map (·.1)).Nodup)
  (hco:scope.isCoroutine=false) (hgen:scope.isGenerator=false) (hk:scope.kind=.function)
  (h: ∀(L:Addr) (qq:PySem.Str) (fu:Option Addr) (co:Value),(Cl σ.length σ)→OkK G n ⟨scope,L,mainGlobals,cellsFrom (L+1) scope.names [],qq,fu,co,some L,builtinsNs⟩ (λfl _ σ'=>Fin σ Q fl σ') [body] (ps.zip ys) σ):a0b G (n+1) (.ref f) xs σ Q:=λA ρ s vs rm S vl=>by
 refine a0q (hbind s.heap ρ vs vl) λws hws hwl hb=>?_
 refine wpAny_call (codeAny_call_cells (fd:=fnOf name qual params body scope dV kV doc pm an cdv ct) (body:=body) (binds:=ps.zip ws) rm.limit ((W.kin S) _ _ ho) rfl (W.nolimit.keeps S.base) (codeRec_of (W.kin S) hcd) rfl hb rfl
  (λx hx=>(Bool.or_eq_true_iff.mp (List.all_eq_true.mp hloc x.1 (List.of_mem_zip hx).1)).imp eq_of_beq λh=>⟨eq_of_beq h,c0y (.inl (PySem.mem_of_lookup (eq_of_beq h)))⟩) (λs₁ x=>?_) hco hgen hk)
 refine x0a (x.toInCall.same) λh₁ tk₁ z0=>?_;subst z0
 have hkeep:=x.toInCall.keep
 have gone: ∀b,s.heap.objs.size≤b→b∉ρ∧G.base.get? b=none:=λb hb=>⟨S.fresh' (m0r hb),g0v S.base (m0r hb)⟩
 have F:FrOk G (callEnvC (fnOf name qual params body scope dV kV doc pm an cdv ct) s.heap.objs.size f) (ps.zip ys) ρ {s with heap:=h₁,toks:=tk₁}:=
  ⟨hk,rfl,rfl,⟨_,x.toInCall.ns,λz v hz hkz=>a0a (f0l hz) λi hi he=>a0a (VL.get hws i v he) λcv ecv hcv=>⟨cv,o0y hnd hi ecv hkz,V.mono List.prefix_rfl (TK.ofKeeps hkeep) _ _ hcv⟩⟩,gone _ (Nat.le_refl _),
   λnm c hc=>a0a (x.cell nm c (j0s (d0u (by rw[List.map_nil,List.append_nil];exact hnn)) hc)) λo ho' hd'=>⟨⟨o,_,ho',hd'⟩,gone _ (Nat.le_of_lt (x.above nm c hc))⟩,
   λz v hz hkz=>a0a (f0l hz) λi hi he=>a0a (VL.get hws i v he) λcv ecv hcv=>(Option.isSome_iff_exists.mp (c0y (k:=s.heap.objs.size+1) (acc:=[]) (.inl (PySem.mem_of_lookup hkz)))).elim λc hc=>
    ⟨c,cv,hc,by rw[←o0x hnd hi ecv hkz];exact x.cell z c hc,V.mono List.prefix_rfl (TK.ofKeeps hkeep) _ _ hcv⟩,λn1 n2 c h1 h2=>name_of_addr x.apart h1 h2⟩
 refine wpAny_mono (h1l (h s.heap.objs.size _ _ _ S.cl) _ ρ _ (rm.deeper _) (S.keeps hkeep rfl rfl) F) (λfl s' p=>?_) (λ_ _ e=>e.elim)
 obtain⟨afl,loc',ρ',σ',S₂,N₂,F₂,hfl,k,y,hx,hkk,hbd,hcl,hQ⟩:=p
 exact call_fin S S₂ (N₂.leave hkeep λb q=>m0r (q.elim (λe=>e▸Nat.le_refl _) λq=>q.elim λnm q=>Nat.le_of_lt (x.above nm b q))) hx hkk hbd hcl hQ hfl (λ_ h=>h) (λh=>h) (λh=>h) λh=>h
end
section
variable {G:Gx} {n:Nat} {cenv:Env} {loc:Loc} {σ:Sig}
noncomputable def l1k(G:Gx)(o:Obj)(l:List (Int×AV)):Prop:=∃(kvs:List (Int×Value)) (ep:Nat),(∀(h:Heap) (a:Addr),h.get? a=some o→h.DictAt (intKind G.prog G.w) a kvs ep)∧kvs.map (·.1)=l.map (·.1)∧∀(ρ:List Addr) (h:Heap),VL ρ h (l.map (·.2)) (kvs.map (·.2))
theorem VL.flat{ρ ρ':List Addr}{h h':Heap}: ∀{l:List AV} {vs:List Value},(∀x∈l,∃k,x=.int k)→VL ρ h l vs→VL ρ' h' l vs
 |[],_,_,e=>e
 |x::l,_,hx,⟨v,r,e,a,b⟩=>by
  refine a0k (hx x (by exact .head _)) λk z0=>?_;subst z0
  exact⟨v,r,e,a,VL.flat (λy hy=>hx y (List.mem_cons_of_mem _ hy)) b⟩
theorem h1a{e:Expr}{Q:AV→Sig→Prop}{i:Nat}{l:List (Int×AV)}(hi:σ[i]?=some (.dictI l))(hl: ∀p∈l,∃k,p.2=.int k)
  (h: ∀o,l1k G o l→OkE G n cenv loc (σ.set i (.raw o)) e λx σ'=>σ'[i]?=some (.raw o)∧Q x (σ'.set i (.dictI l))):OkE G n cenv loc σ e Q:=λA ρ s r S F=>by
 refine a0a (S.at hi) λa ea z0=>?_;(refine a0q z0 λkvs hd e1 hv=>?_)
 refine a0k (hd.dictAt) λep z0=>?_;(refine e1g z0 λo es ho hx hdat hk hp hn=>?_)
 have hvf: ∀(ρ:List Addr) (h:Heap),VL ρ h (l.map (·.2)) (kvs.map (·.2)):=λρ h=>VL.flat (λx hx=>by
  refine a0a (List.mem_map.mp hx) λp hp z0=>?_;subst z0
  exact hl p hp) hv
 have hraw:l1k G o l:=⟨kvs,ep,λh a ha=>⟨o,es,ha,hx,hdat,hk,hp,hn⟩,e1,hvf⟩
 have S':G.St ρ (σ.set i (.raw o)) s:=S.upd (s':=s) ea (λb ob _ e=>e) (λ_=>⟨ho,b0y hdat⟩) rfl rfl
 refine wpAny_mono (h o hraw A ρ s r S' F) (λv s' ⟨x,ρ',σ',S₂,N,hV,hr,q⟩=>?_) λ_ _ e=>e
 refine a0a (S₂.at hr) λa' ea' hr'=>?_
 have S₃:G.St ρ' (σ'.set i (.dictI l)) s':=S₂.upd (s':=s') ea' (λb ob _ e=>e) (λ_=>⟨kvs,⟨o,es,ep,hr'.1,hx,hdat,hk,hp,hn⟩,e1,hvf _ _⟩) rfl rfl
 exact⟨x,ρ',_,S₃,N,hV,q⟩
theorem y0a(hm: ∃o,G.base.get? sysModules=some o){i:Nat}{o:Obj}{l:List (Int×AV)}(hi:σ[i]?=some (.raw o))(hd:l1k G o l):h0j G n σ (.ref i) (l.map λp=>.int p.1) λσ'=>σ'[i]?=some (.raw o):=λA ρ s v rm S va Q q=>by
 refine a0a (S.at hi) λad ea z0=>?_;obtain⟨ho,_⟩:=z0
 refine V.ref_el va ea ?_
 refine b0j hd λkvs ep hat hk _=>?_
 have hlen:kvs.length=l.length:=by have:=congrArg List.length hk;simpa using this
 refine wpAny_pyIter_dict (g0u hm S (List.mem_of_getElem? ea)) (hat _ _ ho) (q s.heap.objs.size (λj ρ' h=>h.IsKeyIter s.heap.objs.size ad j kvs.length ep∧ρ'[i]?=some ad) _ s.toks ?_ (b0h _) (λb o e=>Heap.get?_push_of_some _ e) ⟨⟨_,Heap.get?_push_size _ rfl,rfl,rfl⟩,ea⟩)
 constructor
 ·intro j ρ s' A' Q' h q';exact wpAny_pyIter_keyiter h.1 q'
 ·intro A' n' ρ' σ' s' j x rm' S' C' h hx Q' q'
  refine a0a (S'.at C') λad' ea' z0=>?_;obtain⟨ho',_⟩:=z0
  rw[h.2]at ea';cases ea'
  rw[List.getElem?_map]at hx
  refine a0a (Option.map_eq_some_iff.mp hx) λp hp z0=>?_;subst z0
  have hkj:(kvs.map (·.1))[j]?=some p.1:=by rw[hk,List.getElem?_map,hp];rfl
  rw[List.getElem?_map]at hkj
  obtain⟨⟨k,w⟩,hkw,ek⟩:=Option.map_eq_some_iff.mp hkj
  simp only at ek
  refine wpAny_pyNext_dict_item h.1 (hat _ _ ho') hkw λkey h' hkey hit' hs=>?_
  refine a0k (Value.isInt_shape hkey) λt z0=>?_;subst z0
  exact q' _ h' s'.toks ⟨t,by rw[←ek]⟩ ⟨hit',h.2⟩ λb o hb e=>(hs.2 b hb).trans e
 ·intro A' n' ρ' σ' s' rm' S' C' h Q' q'
  refine a0a (S'.at C') λad' ea' z0=>?_;obtain⟨ho',_⟩:=z0
  rw[h.2]at ea';cases ea'
  rw[List.length_map,←hlen]at h
  exact wpAny_pyNext_dict_end rm'.2.2 h.1 (hat _ _ ho') (by simp) λh' he=>q' h' s'.toks λb o hb e=>he b o hb e
 ·intro j ρ' ρ'' h h' hJ k1 k2 k3
  exact⟨hJ.1.at k1,j0u k2 hJ.2⟩
 ·intro j ρ' h hJ
  refine a0q hJ.1 λo e c _=>?_
  exact⟨o,e,i0t (by rw[c];trivial) (by rw[c];trivial) (by rw[c];trivial)⟩
theorem d1j{value upper:Expr}{p pos:Pos}{Q:AV→Sig→Prop}
  (h:OkE G n cenv loc σ value λx σ₁=>OkE G n cenv loc σ₁ upper λk σ₂=>∃i l,∃b:Nat,x=.ref i∧k=.int b∧σ₂[i]?=some (.list l)∧Q (.ref σ₂.length) (σ₂++[.list (l.take b)])):OkE G n cenv loc σ (.Subscript value (.Slice none (some upper) none p) pos) Q:=λA ρ s rm S F=>by
 refine Subscript_ (h.then rm S F λv x ρ₁ σ₁ s₁ S₁ N₁ F₁ hv q=>wpAny_Slice ?_)
 rw[evalPart_none]
 refine wpAny_pure ?_
 rw[evalPart_some]
 refine q.then rm S₁ F₁ λu k ρ₂ σ₂ s₂ S₂ N₂ F₂ hu q₂=>?_
 refine wpAny_pure ?_
 obtain⟨i,l,b,rfl,rfl,hi,q₂⟩:=q₂
 refine d0l (St.list S₂ hi) λad vs m ea ho hl z=>?_
 refine a0a (V.mono N₂.pre N₂.tk _ _ hv) λa' ea' z0=>?_;subst z0
 rw[ea]at ea';cases ea'
 obtain⟨t,rfl⟩:=hu
 refine tail_any (ops:=[.ref s₂.heap.objs.size,.ref ad]) (ho.isList.push _).typeIs slot_list_getitem.lookup (wpAny_getItem_list_slice (lo:=none) (hi:=some (b:Int)) (st:=none) (ho.isList.push _) (Heap.IsSliceOf.new ..) .none (.int _ _) .none (by trivial) ?_ (by rw[List.size_toArray,←VL.length hl];exact z)) (by with_unfolding_all rfl)
 rw[slicePick_upto',Heap.size_push]
 have k2: ∀c o,s₂.heap.get? c=some o→((s₂.heap.push {cls:=.type "slice",data:=.fields #[.none,.int b t,.none]}).push {cls:=.type "list",data:=.seq (vs.take b).toArray}).get? c=some o:=λb o e=>Heap.get?_push_of_some _ (Heap.get?_push_of_some _ e)
 have e1:s₂.heap.objs.size+1=(s₂.heap.push {cls:=.type "slice",data:=.fields #[.none,.int b t,.none]}).objs.size:=by rw[Heap.size_push]
 refine(c0w (o:=.list (l.take b)) (tk:=s₂.toks) S₂ k2 ?_ ?_ q₂).trans (N₁.trans N₂)
 ·cases q:s₂.heap.get? (s₂.heap.objs.size+1)with
  |none=>rfl
  |some o=>exact absurd (Heap.lt_size q) (by show¬(s₂.heap.objs.size+1<s₂.heap.objs.size);exact LA [_] [] 7352361 rfl)
 ·rw[e1]
  exact⟨vs.take b,0,Heap.get?_push_size _ rfl,VL.take (VL.mono (List.prefix_append _ _) (TK.ofKeeps k2) _ _ hl) b,by rw[List.length_take];exact LA [_,_,_] [] 1102229569544 rfl z⟩
end
theorem n1x(w:World):PySem.Challenge.rw_no0184_01=PySem.Challenge.rw_no0184_01∧(hd.heap_1 w.params)=(hd.heap_1 w.params):=by
 k_fill
 exact⟨rfl,rfl⟩
section
variable {G:Gx} {n:Nat} {cenv:Env} {loc:Loc} {σ:Sig} {K:Frag}
theorem g1w(W:WOk G K){x:PySem.Str}{pos:Pos}{i:Int}{t:Tok}{Q:AV→Sig→Prop}(hk:cenv.kindOf x=some .globalImplicit)(e:nsIn K mainGlobals x=some (some (.int i t)))(h:Q (.int i) σ)(hd:autoParam ((x==("__debug__":PySem.Str))=false) aD):
  OkE G n cenv loc σ (.Name x pos) Q:=λA ρ s r S F=>by
 refine a0k (W.g) λmg hg=>?_
 exact Name_function_global F.kind hk (loadGlobal_global (env:=cenv) (by rw[F.glob];exact hg.keeps S.base) (mg_of W.X hg e) (a0e (tk:=s.toks) (x:=AV.int i) S ⟨_,rfl⟩ h)) hd
theorem d1f{op:BoolOp}{e:Expr}{pos:Pos}{Q:AV→Sig→Prop}(h:OkE G n cenv loc σ e Q):OkE G n cenv loc σ (.BoolOp op [e] pos) Q:=λA ρ s rm S F=>BoolOp_one (h A ρ s rm S F)
theorem o1p{e₁ e₂:Expr}{rest:List Expr}{pos:Pos}{Q:AV→Sig→Prop}(h:OkE G n cenv loc σ e₁ λx σ₁=>∃b,x=.bool b∧(b=true→Q (.bool true) σ₁)∧(b=false→OkE G n cenv loc σ₁ (.BoolOp .Or (e₂::rest) pos) Q)):OkE G n cenv loc σ (.BoolOp .Or (e₁::e₂::rest) pos) Q:=λA ρ s rm S F=>
 BoolOp_or (h.then rm S F λv x ρ₁ σ₁ s₁ S₁ N₁ F₁ hv q=>by
  refine a0q (q) λb z0 q1 q2=>?_;subst z0
  subst hv
  refine wpAny_truthy_bool ?_
  cases b with
  |true=>exact⟨.bool true,ρ₁,σ₁,S₁,N₁,rfl,q1 rfl⟩
  |false=>exact c0p N₁ (q2 rfl A ρ₁ s₁ rm S₁ F₁))
theorem l1b{e₁ e₂:Expr}{rest:List Expr}{pos:Pos}{Q:AV→Sig→Prop}(h:OkE G n cenv loc σ e₁ λx σ₁=>∃b,x=.bool b∧(b=false→Q (.bool false) σ₁)∧(b=true→OkE G n cenv loc σ₁ (.BoolOp .And (e₂::rest) pos) Q)):OkE G n cenv loc σ (.BoolOp .And (e₁::e₂::rest) pos) Q:=λA ρ s rm S F=>
 BoolOp_and (h.then rm S F λv x ρ₁ σ₁ s₁ S₁ N₁ F₁ hv q=>by
  refine a0q (q) λb z0 q1 q2=>?_;subst z0
  subst hv
  refine wpAny_truthy_bool ?_
  cases b with
  |false=>exact⟨.bool false,ρ₁,σ₁,S₁,N₁,rfl,q1 rfl⟩
  |true=>exact c0p N₁ (q2 rfl A ρ₁ s₁ rm S₁ F₁))
theorem a0h{c:Bool}{A B:Prop}(h1:c=true→A)(h2:c=false→B):if c=true then A else B:=by
 cases c
 ·exact h2 rfl
 ·exact h1 rfl
end
section
variable {G:Gx} {m:Nat} {cenv:Env} {loc:Loc} {σ:Sig} {K:Frag}
theorem d1g(W:WOk G K){x:PySem.Str}{pos:Pos}{a:Addr}{i j:Int}{t u:Tok}{k:Nat}{od:Option Addr}{sl:Array (Option Value)}{Q:AV→Sig→Prop}(hk:cenv.kindOf x=some .globalImplicit)(e:nsIn K mainGlobals x=some (some (.ref a)))
  (ho:K.lookup a=some ⟨.type "tuple",od,.seq #[.int i t,.int j u] k,sl⟩) (h:Q (.tup [.int i,.int j]) σ) (hd:autoParam ((x==("__debug__":PySem.Str))=false) aD):
  OkE G m cenv loc σ (.Name x pos) Q:=λA ρ s r S F=>by
 refine a0k (W.g) λmg hg=>?_
 refine Name_function_global F.kind hk (loadGlobal_global (env:=cenv) (by rw[F.glob];exact hg.keeps S.base) (mg_of W.X hg e) (a0e (tk:=s.toks) (x:=AV.tup [.int i,.int j]) S ?_ h)) hd
 have:=W.kin S _ _ ho
 exact⟨a,#[.int i t,.int j u],rfl,⟨_,this,rfl,_,rfl⟩,⟨_,_,rfl,⟨t,rfl⟩,_,_,rfl,⟨u,rfl⟩,rfl⟩,by rw[sizeLine_eq];exact Nat.le_of_ble_eq_true rfl⟩
end
abbrev Cel:=Int×Int
noncomputable abbrev Cel.av (c:Cel):AV:=.tup [.int c.1,.int c.2]
structure Sto where
 heap:List Cel
 stack:List Cel
 trail:List Int
 hb:Int
noncomputable def q0k(n sy:Nat)(hb:Int):List (PySem.Str×AV):=[("symbols",.ref sy),("max_heap",.int 100000),("heap",.ref (n+2)),("stack",.ref (n+3)),("trail",.ref (n+4)),("hb",.int hb),("bb",.int 0)]
structure IsSt (σ:Sig) (n sy:Nat) (S:Sto):Prop where
 ns:σ[n]?=some (.ns (q0k n sy S.hb))
 inst:σ[n+1]?=some (.inst 374 n)
 heap:σ[n+2]?=some (.list (S.heap.map Cel.av))
 stack:σ[n+3]?=some (.list (S.stack.map Cel.av))
 trail:σ[n+4]?=some (.list (S.trail.map .int))
section
variable {G:Gx} {m:Nat} {cenv:Env} {loc:Loc} {σ:Sig} {n sy:Nat} {S:Sto}
theorem h0n{name:PySem.Str}{x:AV}(W:WOk G (hd.heap_1 G.w.params)){Q:AV→Sig→Prop}(hS:IsSt σ n sy S)(hl:(q0k n sy S.hb).lookup name=some x)(hx:x.plain=true)(hg:plainGet (hd.heap_1 G.w.params) 374 name=true)(ha:findIn (hd.heap_1 G.w.params) (.ref 374) name=some none)(h:Q x σ):d0b G m (.ref (n+1)) name σ Q:=
 e0w W hS.inst hS.ns hl hx hg (by k_is) ha h
theorem l1p(W:WOk G (hd.heap_1 G.w.params)){Q:AV→Sig→Prop}(hS:IsSt σ n sy S)(h:Q (.ref (n+2)) σ):d0b G m (.ref (n+1)) "heap" σ Q:=h0n W hS rfl rfl (by k_is) (by k_is) h
theorem k1o(W:WOk G (hd.heap_1 G.w.params)){Q:AV→Sig→Prop}(hS:IsSt σ n sy S)(h:Q (.ref (n+3)) σ):d0b G m (.ref (n+1)) "stack" σ Q:=h0n W hS rfl rfl (by k_is) (by k_is) h
theorem k1p(W:WOk G (hd.heap_1 G.w.params)){Q:AV→Sig→Prop}(hS:IsSt σ n sy S)(h:Q (.ref (n+4)) σ):d0b G m (.ref (n+1)) "trail" σ Q:=h0n W hS rfl rfl (by k_is) (by k_is) h
theorem f1z(W:WOk G (hd.heap_1 G.w.params)){Q:AV→Sig→Prop}(hS:IsSt σ n sy S)(h:Q (.ref sy) σ):d0b G m (.ref (n+1)) "symbols" σ Q:=h0n W hS rfl rfl (by k_is) (by k_is) h
theorem n1q(W:WOk G (hd.heap_1 G.w.params)){Q:AV→Sig→Prop}(hS:IsSt σ n sy S)(h:Q (.int 100000) σ):d0b G m (.ref (n+1)) "max_heap" σ Q:=h0n W hS rfl rfl (by k_is) (by k_is) h
theorem o1t(W:WOk G (hd.heap_1 G.w.params)){Q:AV→Sig→Prop}(hS:IsSt σ n sy S)(h:Q (.int S.hb) σ):d0b G m (.ref (n+1)) "hb" σ Q:=h0n W hS rfl rfl (by k_is) (by k_is) h
theorem o1s(W:WOk G (hd.heap_1 G.w.params)){Q:AV→Sig→Prop}(hS:IsSt σ n sy S)(h:Q (.int 0) σ):d0b G m (.ref (n+1)) "bb" σ Q:=h0n W hS rfl rfl (by k_is) (by k_is) h
theorem n1e{f:Addr}{name:PySem.Str}(W:WOk G (hd.heap_1 G.w.params))(hS:IsSt σ n sy S)(hl:(q0k n sy S.hb).lookup name=none)(hg:plainGet (hd.heap_1 G.w.params) 374 name=true)(hf:findIn (hd.heap_1 G.w.params) (.ref 374) name=some (some (.ref f)))(ht:isFn (hd.heap_1 G.w.params) (.ref f)=true):d0j G m σ (.ref (n+1)) name (.ref f):=
 i0r W hS.inst hS.ns hl hg hf ht
end
theorem Cel.dat(c:Cel):AV.dat 1 c.av:=by trivial
theorem Cel.eqb(c d:Cel):AV.eqb c.av d.av=decide (c=d):=by
 obtain⟨a,b⟩:=c;obtain⟨x,y⟩:=d
 simp only[AV.eqb,l1w,l1x,l1y,g1h,g1g,PyData.eqv,PyData.eqvAll,Bool.and_true,Prod.mk.injEq]
 by_cases h1:a=x<;>by_cases h2:b=y<;>simp[h1,h2]
section
variable {G:Gx} {m:Nat} {cenv:Env} {loc:Loc} {σ:Sig} {n sy:Nat} {S:Sto}
theorem d1w{a b a' b':Int}{Q:AV→Sig→Prop}(h:Q (.bool (decide ((a,b)=(a',b')))) σ):b0e G m .Eq (.tup [.int a,.int b]) (.tup [.int a',.int b']) σ Q:=
 d1t 1 (by decide) (Cel.dat (a,b)) 1 (Cel.dat (a',b')) (by rw[←Cel.eqb]at h;exact h)
theorem d1z{a b a' b':Int}{Q:AV→Sig→Prop}(h:Q (.bool (!decide ((a,b)=(a',b')))) σ):b0e G m .NotEq (.tup [.int a,.int b]) (.tup [.int a',.int b']) σ Q:=
 w0q 1 (by decide) (Cel.dat (a,b)) 1 (Cel.dat (a',b')) (by rw[←Cel.eqb]at h;exact h)
theorem a0s{value slice:Expr}{i:Nat}{H:List Cel}{k:Int}{x:Cel}{Q:AV→Sig→Prop}(ei:σ[i]?=some (.list (H.map Cel.av)))(h0:0≤k)(hx:H[k.toNat]?=some x)(h:Q x.av σ)
  (hs:autoParam (∀a u,subscripted slice false (.ref a) (.int k u)=operate [.ref a,.int k u] (getItem (.ref a) (.int k u))) aU):l0e G m value slice (.ref i) (.int k) σ Q:=
 b0r ei h0 (by rw[List.getElem?_map,hx];rfl) h hs
end
section
variable {G:Gx} {m:Nat} {cenv:Env} {loc:Loc} {σ:Sig}
theorem r0y{i:Nat}{l:List AV}(hi:σ[i]?=some (.list l)):d0j G m σ (.ref i) "append" (.builtin "list.append"):=q0c hi slot_list_append type_list_append
theorem b1f{i:Nat}{l:List AV}(hi:σ[i]?=some (.list l)):d0j G m σ (.ref i) "pop" (.builtin "list.pop"):=q0c hi F.slot_list_pop F.type_list_pop
theorem g0s{i:Nat}{H:List Cel}{Q:AV→Sig→Prop}(hi:σ[i]?=some (.list (H.map Cel.av)))(h:Q (.int H.length) σ):a0b G m (.builtin "len") [.ref i] σ Q:=l0y hi (by rw[List.length_map];exact h)
theorem e0v{i:Nat}{H:List Cel}{a b:Int}{Q:AV→Sig→Prop}(hi:σ[i]?=some (.list (H.map Cel.av)))(hz:H.length<1000000)(h:Q .none (σ.set i (.list ((H++[(a,b)]).map Cel.av)))):a0b G m (.builtin "list.append") [.ref i,.tup [.int a,.int b]] σ Q:=
 f0n hi (by rw[List.length_map];exact LA [_] [] 8462482286582457481658408 rfl hz) (by simpa using h)
theorem b0s{i:Nat}{H:List Cel}{k a b:Int}{Q:Sig→Prop}(hi:σ[i]?=some (.list (H.map Cel.av)))(h0:0≤k)(hk:k<H.length)(h:Q (σ.set i (.list ((H.set k.toNat (a,b)).map Cel.av)))):a0y G m (.ref i) (.int k) (.tup [.int a,.int b]) σ Q:=
 d0p hi h0 (by rw[List.length_map];exact LA [_] [_] 165543093590956136 rfl h0 hk) (by simpa[List.map_set]using h)
theorem s0n{i:Nat}{H:List Int}{a:Int}{Q:AV→Sig→Prop}(hi:σ[i]?=some (.list (H.map AV.int)))(hz:H.length<1000000)(h:Q .none (σ.set i (.list ((H++[a]).map AV.int)))):a0b G m (.builtin "list.append") [.ref i,.int a] σ Q:=
 f0n hi (by rw[List.length_map];exact LA [_] [] 8462482286582457481658408 rfl hz) (by simpa using h)
theorem b1b{i:Nat}{H:List Int}{Q:AV→Sig→Prop}(hi:σ[i]?=some (.list (H.map AV.int)))(h:Q (.int H.length) σ):a0b G m (.builtin "len") [.ref i] σ Q:=l0y hi (by rw[List.length_map];exact h)
end
noncomputable def putSt(σ:Sig)(n:Nat)(S:Sto):Sig:=((σ.set (n+2) (.list (S.heap.map Cel.av))).set (n+3) (.list (S.stack.map Cel.av))).set (n+4) (.list (S.trail.map .int))
theorem c0l(k:Nat): ∀H:List Cel,AV.bdL k (H.map Cel.av)
 |[]=>trivial
 |_::r=>⟨by trivial,c0l k r⟩
theorem k0p(k:Nat): ∀H:List Int,AV.bdL k (H.map AV.int)
 |[]=>trivial
 |_::r=>⟨trivial,k0p k r⟩
section
variable {σ:Sig} {n sy:Nat} {S S' S'':Sto}
theorem e0n:(putSt σ n S).length=σ.length:=by simp[putSt]
theorem IsSt.put(h:IsSt σ n sy S)(e:S'.hb=S.hb):IsSt (putSt σ n S') n sy S':=by
 have l2:=b0m h.heap
 have l3:=b0m h.stack
 have l4:=b0m h.trail
 refine⟨?_,?_,?_,?_,?_⟩
 ·rw[e];exact a0c (a0c (a0c h.ns (by exact LA [_] [] 77606985 rfl)) (by exact LA [_] [] 111161417 rfl)) (by exact LA [_] [] 144715849 rfl)
 ·exact a0c (a0c (a0c h.inst (by exact LA [_] [] 7709543903305 rfl)) (by exact LA [_] [] 7709577457737 rfl)) (by exact LA [_] [] 7709611012169 rfl)
 ·exact a0c (a0c (a0d h.heap) (by exact LA [_] [] 81376856518729 rfl)) (by exact LA [_] [] 81376890073161 rfl)
 ·exact a0c (a0d (a0c h.stack (by exact LA [_] [] 116561195053129 rfl))) (by exact LA [_] [] 116561262161993 rfl)
 ·exact a0d (a0c (a0c h.trail (by exact LA [_] [] 151745567141961 rfl)) (by exact LA [_] [] 151745600696393 rfl))
theorem c0c{i:Nat}{o:AObj}(h:σ[i]?=some o)(hi:i<n+2∨n+4<i):(putSt σ n S)[i]?=some o:=a0c (a0c (a0c h (by exact LA [_,_] [] 91660841831343019677251011816 rfl hi)) (by exact LA [_,_] [] 131274923088475188474022986984 rfl hi)) (by exact LA [_,_] [] 170889004345607357270794962152 rfl hi)
theorem Same.eqSt{σ':Sig}(h:Same [n+2,n+3,n+4] σ σ')(hS:IsSt σ' n sy S):σ'.take σ.length=putSt σ n S:=h.eq3 hS.heap hS.stack hS.trail
theorem f1p:putSt (putSt σ n S) n S'=putSt σ n S':=by
 apply List.ext_getElem?;intro i
 simp only[putSt,List.getElem?_set,List.length_set]
 repeat' split
 all_goals first|rfl|omega
theorem v0o(h:IsSt σ n sy S):putSt σ n S=σ:=by
 have e:Same [n+2,n+3,n+4] σ σ:=Same.refl _ _
 rw[←e.eqSt h,List.take_length]
theorem Cl.putSt{k:Nat}(c:Cl k σ):Cl k (putSt σ n S):=((c.set (o:=.list _) (c0l _ _)).set (o:=.list _) (c0l _ _)).set (o:=.list _) (k0p _ _)
theorem IsSt.set{i:Nat}{o:AObj}(h:IsSt σ n sy S)(hi:i<n∨n+4<i):IsSt (σ.set i o) n sy S:=
 ⟨a0c h.ns (by exact LA [_,_] [] 1183221874679679550696 rfl hi),a0c h.inst (by exact LA [_,_] [] 8514429398867932588541160 rfl hi),a0c h.heap (by exact LA [_,_] [] 89512459313048087293854952 rfl hi),a0c h.stack (by exact LA [_,_] [] 128198085540716220884452584 rfl hi),a0c h.trail (by exact LA [_,_] [] 166883711768384354475050216 rfl hi)⟩
theorem IsSt.app{r:Sig}(h:IsSt σ n sy S):IsSt (σ++r) n sy S:=⟨a0j h.ns,a0j h.inst,a0j h.heap,a0j h.stack,a0j h.trail⟩
theorem IsSt.setHeap{H:List Cel}(h:IsSt σ n sy S):IsSt (σ.set (n+2) (.list (H.map Cel.av))) n sy {S with heap:=H}:=
 ⟨a0c h.ns (by exact LA [_] [] 77606985 rfl),a0c h.inst (by exact LA [_] [] 7709543903305 rfl),a0d h.heap,a0c h.stack (by exact LA [_] [] 116561195053129 rfl),a0c h.trail (by exact LA [_] [] 151745567141961 rfl)⟩
theorem IsSt.setStack{H:List Cel}(h:IsSt σ n sy S):IsSt (σ.set (n+3) (.list (H.map Cel.av))) n sy {S with stack:=H}:=
 ⟨a0c h.ns (by exact LA [_] [] 111161417 rfl),a0c h.inst (by exact LA [_] [] 7709577457737 rfl),a0c h.heap (by exact LA [_] [] 81376856518729 rfl),a0d h.stack,a0c h.trail (by exact LA [_] [] 151745600696393 rfl)⟩
theorem IsSt.setTrail{H:List Int}(h:IsSt σ n sy S):IsSt (σ.set (n+4) (.list (H.map .int))) n sy {S with trail:=H}:=
 ⟨a0c h.ns (by exact LA [_] [] 144715849 rfl),a0c h.inst (by exact LA [_] [] 7709611012169 rfl),a0c h.heap (by exact LA [_] [] 81376890073161 rfl),a0c h.stack (by exact LA [_] [] 116561262161993 rfl),a0d h.trail⟩
theorem IsSt.same{σ':Sig}{W:List Nat}(h:IsSt σ n sy S)(s:Same W σ σ')(hw: ∀i∈W,i<n∨n+4<i):IsSt σ' n sy S:=by
 have k: ∀i,n≤i→i≤n+4→i∉W:=λi h1 h2 q=>by have:=hw i q;exact LA [_,_] [] 13026774174195523051745952097402888 rfl h1 h2 this
 exact⟨s.get h.ns (k _ (by exact LA [_] [] 0 rfl) (by exact LA [_] [] 144715776 rfl)),s.get h.inst (k _ (by exact LA [_] [] 7352320 rfl) (by exact LA [_] [] 148189184384 rfl)),s.get h.heap (k _ (by exact LA [_] [] 77606912 rfl) (by exact LA [_] [] 4742048973184 rfl)),s.get h.stack (k _ (by exact LA [_] [] 111161344 rfl) (by exact LA [_] [] 4742050021760 rfl)),s.get h.trail (k _ (by exact LA [_] [] 144715776 rfl) (by exact LA [_] [] 4742051070336 rfl))⟩
theorem Same.put{W:List Nat}{σ':Sig}(h:Same W σ σ')(h2:n+2∈W)(h3:n+3∈W)(h4:n+4∈W):Same W σ (putSt σ' n S):=((h.set (.inl h2)).set (.inl h3)).set (.inl h4)
theorem Fin.st{σ':Sig}{Q:AV→Sig→Prop}{fl:AFlow}{x:AV}(hcl:Cl σ.length σ)(hx:match fl with| .ret y=>x=y|_=>x=.none)(s:Same [n+2,n+3,n+4] σ σ')(hS:IsSt σ' n sy S)(b:x.bd σ.length)(q:Q x (putSt σ n S)):Fin σ Q fl σ':=Fin.of hx _ (s.eqSt hS) hcl.putSt b q
end
noncomputable def z0r(y:Nat):List (PySem.Str×AV):=[("texts",.ref (y+2)),("atom_numbers",.ref (y+3)),("functors",.ref (y+4)),("functor_numbers",.ref (y+5))]
noncomputable def u0j(ts:List PySem.Str):List (PySem.Str×AV):=ts.mapIdx λi t=>(t,.int i)
noncomputable def u0k(fs:List Cel):List (List Int×AV):=fs.mapIdx λi f=>([f.1,f.2],.int i)
structure IsSy (σ:Sig) (y:Nat) (ts:List PySem.Str) (fs:List Cel):Prop where
 ns:σ[y]?=some (.ns (z0r y))
 inst:σ[y+1]?=some (.inst 154 y)
 texts:σ[y+2]?=some (.list (ts.map .str))
 atoms:σ[y+3]?=some (.dictS (u0j ts))
 funs:σ[y+4]?=some (.list (fs.map Cel.av))
 keys:σ[y+5]?=some (.dictT (u0k fs))
section
variable {G:Gx} {m:Nat} {cenv:Env} {loc:Loc} {σ:Sig} {n y:Nat} {S:Sto} {ts:List PySem.Str} {fs:List Cel}
theorem l1t{name:PySem.Str}{x:AV}(W:WOk G (hd.heap_1 G.w.params)){Q:AV→Sig→Prop}(hS:IsSy σ y ts fs)(hl:(z0r y).lookup name=some x)(hx:x.plain=true)(hg:plainGet (hd.heap_1 G.w.params) 154 name=true)(ha:findIn (hd.heap_1 G.w.params) (.ref 154) name=some none)(h:Q x σ):d0b G m (.ref (y+1)) name σ Q:=
 e0w W hS.inst hS.ns hl hx hg (by k_is) ha h
theorem n1f{f:Addr}{name:PySem.Str}(W:WOk G (hd.heap_1 G.w.params))(hS:IsSy σ y ts fs)(hl:(z0r y).lookup name=none)(hg:plainGet (hd.heap_1 G.w.params) 154 name=true)(hf:findIn (hd.heap_1 G.w.params) (.ref 154) name=some (some (.ref f)))(ht:isFn (hd.heap_1 G.w.params) (.ref f)=true):d0j G m σ (.ref (y+1)) name (.ref f):=
 i0r W hS.inst hS.ns hl hg hf ht
theorem IsSy.put(h:IsSy σ y ts fs)(hn:y+5<n∨n+4<y):IsSy (putSt σ n S) y ts fs:=
 ⟨c0c h.ns (by exact LA [_,_] [] 183490622181725707497824677731529786600 rfl hn),c0c h.inst (by exact LA [_,_] [] 10007647302237731230521611580347949129983722728 rfl hn),c0c h.texts (by exact LA [_,_] [] 3380263766833185384179514535283699593468449260776 rfl hn),c0c h.atoms (by exact LA [_,_] [] 4841765404164088302422813449257114781921153778920 rfl hn),c0c h.funs (by exact LA [_,_] [] 6303267041494991220666112363230529970373858297064 rfl hn),c0c h.keys (by exact LA [_,_] [] 7764768678825894138909411277203945158826562815208 rfl hn)⟩
theorem IsSy.set{i:Nat}{o:AObj}(h:IsSy σ y ts fs)(hi:i<y∨y+5<i):IsSy (σ.set i o) y ts fs:=
 ⟨a0c h.ns (by exact LA [_,_] [] 1183221909864051639528 rfl hi),a0c h.inst (by exact LA [_,_] [] 8514429398903116960629992 rfl hi),a0c h.texts (by exact LA [_,_] [] 89512459313083271665943784 rfl hi),a0c h.atoms (by exact LA [_,_] [] 128198085540751405256541416 rfl hi),a0c h.funs (by exact LA [_,_] [] 166883711768419538847139048 rfl hi),a0c h.keys (by exact LA [_,_] [] 205569337996087672437736680 rfl hi)⟩
theorem IsSy.app{r:Sig}(h:IsSy σ y ts fs):IsSy (σ++r) y ts fs:=⟨a0j h.ns,a0j h.inst,a0j h.texts,a0j h.atoms,a0j h.funs,a0j h.keys⟩
theorem IsSy.same{σ':Sig}{W:List Nat}(h:IsSy σ y ts fs)(s:Same W σ σ')(hw: ∀i∈W,i<y∨y+5<i):IsSy σ' y ts fs:=by
 have k: ∀i,y≤i→i≤y+5→i∉W:=λi h1 h2 q=>by have:=hw i q;exact LA [_,_] [] 13028041824795751282273348707450888 rfl h1 h2 this
 exact⟨s.get h.ns (k _ (by exact LA [_] [] 0 rfl) (by exact LA [_] [] 178270208 rfl)),s.get h.inst (k _ (by exact LA [_] [] 7352320 rfl) (by exact LA [_] [] 182548922752 rfl)),s.get h.texts (k _ (by exact LA [_] [] 77606912 rfl) (by exact LA [_] [] 5841560600960 rfl)),s.get h.atoms (k _ (by exact LA [_] [] 111161344 rfl) (by exact LA [_] [] 5841561649536 rfl)),s.get h.funs (k _ (by exact LA [_] [] 144715776 rfl) (by exact LA [_] [] 5841562698112 rfl)),s.get h.keys (k _ (by exact LA [_] [] 178270208 rfl) (by exact LA [_] [] 5841563746688 rfl))⟩
end
set_option backward.match.sparseCases false
section
inductive Stop(P:Prop):Prop
 |mk (h:P)
theorem Stop.h{P:Prop}:Stop P→P:=λ⟨h⟩=>h
noncomputable def h1d(P:Prop):Prop:=P
theorem here{P:Prop}(h:P):h1d P:=h
structure Rec where
 E:Expr→Loc→Sig→(AV→Sig→Prop)→Prop
 B:Expr→Loc→Sig→(Bool→Sig→Prop)→Prop
 Es:List Expr→Loc→Sig→(List AV→Sig→Prop)→Prop
 Bs:BoolOp→List Expr→Pos→Loc→Sig→(Bool→Sig→Prop)→Prop
 K:List (List Stmt)→Loc→Sig→Prop
noncomputable def m1e:List (PySem.Str×AV):=(("REF":PySem.Str),AV.int 0)::
 (("SRF":PySem.Str),AV.int 1)::
 (("STR":PySem.Str),AV.int 2)::
 (("LIS":PySem.Str),AV.int 3)::
 (("CON":PySem.Str),AV.int 4)::
 (("INT":PySem.Str),AV.int 5)::
 (("FUN":PySem.Str),AV.int 6)::
 (("F_DOT":PySem.Str),AV.int 0)::
 (("VOID":PySem.Str),AV.tup [.int 5,.int 0])::
 (("VISIT":PySem.Str),AV.int 0)::
 (("BUILD":PySem.Str),AV.int 1)::
 (("A_NIL":PySem.Str),AV.int 0)::
 (("len":PySem.Str),AV.glob (Value.builtin "len"))::
 (("range":PySem.Str),AV.glob (Value.type "range"))::
 (("tuple":PySem.Str),AV.glob (Value.type "tuple"))::
 (("set":PySem.Str),AV.glob (Value.type "set"))::
 (("list":PySem.Str),AV.glob (Value.type "list"))::
 (("sorted":PySem.Str),AV.glob (Value.builtin "sorted"))::
 (("isinstance":PySem.Str),AV.glob (Value.builtin "isinstance"))::
 (("sum":PySem.Str),AV.glob (Value.builtin "sum"))::
 (("bool":PySem.Str),AV.glob (Value.type "bool"))::
 (("is_variable":PySem.Str),AV.glob (Value.ref 432))::
 (("same_shape":PySem.Str),AV.glob (Value.ref 425))::
 (("push_arguments":PySem.Str),AV.glob (Value.ref 411))::
 (("push_pairs":PySem.Str),AV.glob (Value.ref 418))::
 (("bind_checked":PySem.Str),AV.glob (Value.ref 446))::
 (("occurs_in":PySem.Str),AV.glob (Value.ref 453))::
 (("variable_number":PySem.Str),AV.glob (Value.ref 481))::
 (("PairSet":PySem.Str),AV.glob (Value.ref 400))::
 (("unify":PySem.Str),AV.glob (Value.ref 439))::
 (("copy":PySem.Str),AV.glob (Value.ref 460))::
 (("variables":PySem.Str),AV.glob (Value.ref 467))::
 (("ground":PySem.Str),AV.glob (Value.ref 474))::
 (("variant":PySem.Str),AV.glob (Value.ref 488))::
 (("_law_pick":PySem.Str),AV.glob (Value.ref 495))::
 (("_law_leaf":PySem.Str),AV.glob (Value.ref 502))::
 (("_law_tree":PySem.Str),AV.glob (Value.ref 507))::
 (("_law_bound":PySem.Str),AV.glob (Value.ref 514))::
 (("_law_full":PySem.Str),AV.glob (Value.ref 519))::
 (("_law_free":PySem.Str),AV.glob (Value.ref 526))::
 (("_law_match":PySem.Str),AV.glob (Value.ref 533))::
 (("_law_match_all":PySem.Str),AV.glob (Value.ref 540))::
 (("fixed_atoms":PySem.Str),AV.glob (Value.ref 60))::
 (("fixed_functors":PySem.Str),AV.glob (Value.ref 67))::
 (("Symbols":PySem.Str),AV.glob (Value.ref 154))::
 (("Store":PySem.Str),AV.glob (Value.ref 374))::[]
noncomputable def o1e:Value→Bool
 | .builtin _=>true
 | .type _=>true
 | .ref a=>[432,425,411,418,446,453,481,400,439,460,467,474,488,495,502,507,514,519,526,533,540,60,67,154,374].contains a
 |_=>false
noncomputable def n1i(C:Nat):List (PySem.Str×Addr):=cond (Nat.beq C 154) [("atom",88),("functor",102),("func",109),("arity",123)]<|cond (Nat.beq C 374) [("push",202),("new_var",209),("reserve",216),("deref",230),("is_unbound",237),("bind",244),("bind_pair",251),("globalise",258),("mark",265),("undo_to",272),("stack_put",279),("is_compound",286),("functor_of",293),("width",300),("base",307),("new_block",321),("put_term",364),("take_term",371)]<|cond (Nat.beq C 400) [("add",397)]<|[]
noncomputable def l1s(C:Nat):List PySem.Str:=cond (Nat.beq C 154) ["texts","atom_numbers","functors","functor_numbers"]<|cond (Nat.beq C 374) ["symbols","max_heap","heap","stack","trail","hb","bb"]<|cond (Nat.beq C 400) ["span","met"]<|[]
noncomputable def n0a(e:Expr):Bool:= !Nat.beq e.ctorIdx 22
noncomputable def t0r(e:Expr):Bool:= !(Nat.ble 8 e.ctorIdx&&Nat.ble e.ctorIdx 10)
noncomputable def j1u(e:Expr):Bool:= !Nat.beq e.ctorIdx 25
noncomputable def w0g(e:Expr):Bool:=Nat.beq e.ctorIdx 23||(Nat.ble 20 e.ctorIdx&&Nat.ble e.ctorIdx 21)
noncomputable def gd(b:Bool)(A B:Prop):Prop:=match b with
 |true=>A
 |false=>B
noncomputable def op{α:Type}(o:Option α)(A:α→Prop)(B:Prop):Prop:=match o with
 |some a=>A a
 |none=>B
noncomputable def one{α:Type}:List α→Option α
 |[]=>none
 |a::l=>(match l with|[]=>some a|_::_=>none)
noncomputable def two{α:Type}:List α→Option (α×α)
 |[]=>none
 |a::l=>(one l).map λb=>(a,b)
noncomputable def t0i:Expr→Option (PySem.Str×Pos)
 | .Name x p=>some (x,p)
 |_=>none
noncomputable def isI:AV→Option Int
 | .int a=>some a
 |_=>none
noncomputable def j1p:Expr→Option Nat
 | .Constant c _ _=>(match c with| .int i=>(match i with| .ofNat k=>some k| .negSucc _=>none)|_=>none)
 |_=>none
variable (md:List Nat) (G:Gx) (n:Nat) (cenv:Env) (Q:AFlow→Loc→Sig→Prop)
noncomputable def l0w(K:Bool→Sig→Prop)(v:AV)(σ:Sig):Prop:=match v with
 | .bool b=>K b σ
 |_=>Stop (j0b G n v σ K)
noncomputable def j1e(o:Operator)(x:AV)(K:AV→Sig→Prop)(y:AV)(σ:Sig):Prop:=
 op (isI x) (λa=>op (isI y) (λb=>match o with
  | .Add=>K (.int (a+b)) σ
  | .Sub=>K (.int (a - b)) σ
  |_=>Stop (l0d G n o x y σ K)) (Stop (l0d G n o x y σ K))) (Stop (l0d G n o x y σ K))
noncomputable def p1e(R:Rec)(o:Operator)(r:Expr)(loc:Loc)(K:AV→Sig→Prop)(x:AV)(σ:Sig):Prop:=R.E r loc σ (j1e G n o x K)
noncomputable def m0v:AV→Option (Int×Int)
 | .tup l=>op2 (two l)
 |_=>none
 where op2:Option (AV×AV)→Option (Int×Int)
  |some p=>(isI p.1).bind λa=>(isI p.2).map λb=>(a,b)
  |none=>none
noncomputable def isS:AV→Option PySem.Str
 | .str a=>some a
 |_=>none
noncomputable def j1i(o:CmpOp)(x y:AV)(σ:Sig)(K:AV→Sig→Prop)(k:Bool→Bool):Prop:=
 op (m0v x) (λp=>op (m0v y) (λq=>(match p with|(a,b)=>(match q with|(c,d)=>K (.bool (k (decide ((a,b)=(c,d))))) σ))) (Stop (b0e G n o x y σ K))) (Stop (b0e G n o x y σ K))
noncomputable def o1c(o:CmpOp)(x y:AV)(σ:Sig)(K:AV→Sig→Prop):Prop:=
 op (isS x) (λa=>op (isS y) (λb=>match o with
  | .Eq=>K (.bool (a==b)) σ
  | .NotEq=>K (.bool (a !=b)) σ
  |_=>Stop (b0e G n o x y σ K)) (Stop (b0e G n o x y σ K))) (Stop (b0e G n o x y σ K))
noncomputable def j1h(o:CmpOp)(x:AV)(K:AV→Sig→Prop)(y:AV)(σ:Sig):Prop:=match x with
 | .int a=>op (isI y) (λb=>match o with
   | .Eq=>K (.bool (a==b)) σ
   | .NotEq=>K (.bool (a !=b)) σ
   | .Lt=>K (.bool (decide (a<b))) σ
   | .Gt=>K (.bool (decide (b<a))) σ
   | .GtE=>K (.bool (decide (b≤a))) σ
   | .LtE=>K (.bool (decide (a≤b))) σ
   |_=>Stop (b0e G n o x y σ K)) (Stop (b0e G n o x y σ K))
 | .str _=>o1c G n o x y σ K
 | .tup _=>(match o with
   | .Eq=>j1i G n .Eq x y σ K id
   | .NotEq=>j1i G n .NotEq x y σ K not
   |_=>Stop (b0e G n o x y σ K))
 |_=>Stop (b0e G n o x y σ K)
noncomputable def j1g(o:CmpOp)(x:AV)(K:AV→Sig→Prop)(y:AV)(σ:Sig):Prop:=match o with
 | .In=>Stop (b0e G n o x y σ K)
 | .NotIn=>Stop (b0e G n o x y σ K)
 | .Is=>Stop (b0e G n o x y σ K)
 | .IsNot=>Stop (b0e G n o x y σ K)
 |_=>j1h G n o x K y σ
noncomputable def o1b(R:Rec)(o:CmpOp)(r:Expr)(loc:Loc)(K:AV→Sig→Prop)(x:AV)(σ:Sig):Prop:=R.E r loc σ (j1g G n o x K)
noncomputable def p1f(R:Rec)(b e:Expr)(loc:Loc)(K:AV→Sig→Prop)(c:Bool)(σ:Sig):Prop:=Stop (if c=true then R.E b loc σ K else R.E e loc σ K)
noncomputable def p1j(K:AV→Sig→Prop)(xs:List AV)(σ:Sig):Prop:=gd (Nat.ble xs.length 1000) (K (.tup xs) σ) False
noncomputable def m1n(K:AV→Sig→Prop)(xs:List AV)(σ:Sig):Prop:=gd (Nat.ble xs.length 1000) (K (.ref σ.length) (σ++[.list xs])) False
noncomputable def a1y(v s:Expr)(x:AV)(K:AV→Sig→Prop)(y:AV)(σ:Sig):Prop:=Stop (l0e G n v s x y σ K)
noncomputable def isT:AV→Option (List AV)
 | .tup l=>some l
 |_=>none
noncomputable def o1d(R:Rec)(v s:Expr)(loc:Loc)(K:AV→Sig→Prop)(x:AV)(σ:Sig):Prop:=
 op (j1p s) (λi=>op (isT x) (λl=>op (l[i]?) (λz=>K z σ) (R.E s loc σ (a1y G n v s x K))) (R.E s loc σ (a1y G n v s x K))) (R.E s loc σ (a1y G n v s x K))
noncomputable def m1j(a:PySem.Str)(K:AV→Sig→Prop)(x:AV)(σ:Sig):Prop:=Stop (d0b G n x a σ K)
noncomputable def p1g(K:AV→Sig→Prop)(x:AV)(σ:Sig):Prop:=match x with
 | .int a=>K (.int (-a)) σ
 |_=>Stop (Op1 G n σ V (unaryOp .USub) x K)
noncomputable def m1o(K:AV→Sig→Prop)(x:AV)(σ:Sig):Prop:=match x with
 | .bool a=>K (.bool (!a)) σ
 |_=>Stop (Op1 G n σ V (unaryOp .Not) x K)
noncomputable def o1a(f:Value)(K:AV→Sig→Prop)(xs:List AV)(σ:Sig):Prop:=Stop (a0b G n f xs σ K)
noncomputable def p0t(f:Value)(x:AV)(K:AV→Sig→Prop)(xs:List AV)(σ:Sig):Prop:=Stop (a0b G n f (x::xs) σ K)
noncomputable def j1f(R:Rec)(args:List Expr)(loc:Loc)(K:AV→Sig→Prop)(x:AV)(σ:Sig):Prop:=match x with
 | .glob f=>gd (o1e f) (R.Es args loc σ (o1a G n f K)) (Stop (f0x G f∧R.Es args loc σ (o1a G n f K)))
 |_=>False
inductive MStop(R:Rec)(name:PySem.Str)(args:List Expr)(loc:Loc)(K:AV→Sig→Prop)(x:AV)(σ:Sig):Prop
 |mk (f:Value) (h1:d0j G n σ x name f) (h2:f0x G f) (h:R.Es args loc σ (p0t G n f x K))
noncomputable def c1r(R:Rec)(name:PySem.Str)(args:List Expr)(loc:Loc)(K:AV→Sig→Prop)(x:AV)(σ:Sig):Prop:=Stop (MStop G n R name args loc K x σ)
noncomputable def m1l(x:AV)(K:List AV→Sig→Prop)(xs:List AV)(σ:Sig):Prop:=K (x::xs) σ
noncomputable def kEs(R:Rec)(rest:List Expr)(loc:Loc)(K:List AV→Sig→Prop)(x:AV)(σ:Sig):Prop:=R.Es rest loc σ (m1l x K)
noncomputable def p1h(K:Bool→Sig→Prop)(b:Bool)(σ:Sig):Prop:=K (!b) σ
noncomputable def p1c(R:Rec)(rest:List Expr)(pos:Pos)(loc:Loc)(K:Bool→Sig→Prop)(c:Bool)(σ:Sig):Prop:=Stop (if c=true then R.Bs .And rest pos loc σ K else K false σ)
noncomputable def kOr(R:Rec)(rest:List Expr)(pos:Pos)(loc:Loc)(K:Bool→Sig→Prop)(c:Bool)(σ:Sig):Prop:=Stop (if c=true then K true σ else R.Bs .Or rest pos loc σ K)
noncomputable def p1i(loc:Loc)(x:AV)(σ:Sig):Prop:=Stop (Q (.ret x) loc σ)
noncomputable def kIf(R:Rec)(b e:List Stmt)(kk:List (List Stmt))(loc:Loc)(c:Bool)(σ:Sig):Prop:=Stop (if c=true then R.K (b::kk) loc σ else R.K (e::kk) loc σ)
noncomputable def m1h(R:Rec)(x:PySem.Str)(kk:List (List Stmt))(loc:Loc)(v:AV)(σ:Sig):Prop:=R.K kk ((x,v)::loc) σ
noncomputable def m1i(R:Rec)(x y:PySem.Str)(kk:List (List Stmt))(loc:Loc)(v:AV)(σ:Sig):Prop:=
 op ((isT v).bind two) (λp=>(match p with|(a,b)=>R.K kk ((y,b)::(x,a)::loc) σ)) (Stop (∃a b,v=.tup [a,b]∧R.K kk ((y,b)::(x,a)::loc) σ))
noncomputable def m1m(R:Rec)(kk:List (List Stmt))(loc:Loc)(_:AV)(σ:Sig):Prop:=R.K kk loc σ
noncomputable def p1d(R:Rec)(x:PySem.Str)(a:Int)(kk:List (List Stmt))(loc:Loc)(v:AV)(σ:Sig):Prop:=
 op (isI v) (λb=>R.K kk ((x,.int (a+b))::loc) σ) (Stop (∃b,v=.int b∧R.K kk ((x,.int (a+b))::loc) σ))
noncomputable def a1x(R:Rec)(a:PySem.Str)(v:AV)(kk:List (List Stmt))(loc:Loc)(x:AV)(σ:Sig):Prop:=Stop (h0z G n x a v σ (R.K kk loc))
noncomputable def a1w(R:Rec)(o:Expr)(a:PySem.Str)(kk:List (List Stmt))(loc:Loc)(v:AV)(σ:Sig):Prop:=R.E o loc σ (a1x G n R a v kk loc)
noncomputable def j1k(R:Rec)(x v:AV)(kk:List (List Stmt))(loc:Loc)(k:AV)(σ:Sig):Prop:=Stop (a0y G n x k v σ (R.K kk loc))
noncomputable def j1j(R:Rec)(i:Expr)(v:AV)(kk:List (List Stmt))(loc:Loc)(x:AV)(σ:Sig):Prop:=R.E i loc σ (j1k G n R x v kk loc)
noncomputable def e1u(R:Rec)(o i:Expr)(kk:List (List Stmt))(loc:Loc)(v:AV)(σ:Sig):Prop:=R.E o loc σ (j1j G n R i v kk loc)
noncomputable def n1j(e:Expr)(loc:Loc)(σ:Sig)(K:AV→Sig→Prop)(x:PySem.Str):NameKind→Prop
 | .local=>op (loc.lookup x) (λv=>K v σ) (Stop (OkE G n cenv loc σ e K))
 | .cell=>op (loc.lookup x) (λv=>K v σ) (Stop (OkE G n cenv loc σ e K))
 | .globalImplicit=>op (m1e.lookup x) (λv=>K v σ) (Stop (OkE G n cenv loc σ e K))
 |_=>Stop (OkE G n cenv loc σ e K)
noncomputable def i1o(e:Expr)(loc:Loc)(σ:Sig)(K:AV→Sig→Prop):Const→Prop
 | .int i=>K (.int i) σ
 | .str s=>K (.str s) σ
 | .bool b=>K (.bool b) σ
 | .none=>K .none σ
 |_=>Stop (OkE G n cenv loc σ e K)
noncomputable def i1i(R:Rec)(e:Expr)(f:Expr)(args:List Expr)(pos:Pos)(loc:Loc)(σ:Sig)(K:AV→Sig→Prop):Prop:=match f with
 | .Name x p=>R.E (.Name x p) loc σ (j1f G n R args loc K)
 | .Attribute o name apos=>gd (w0g o&&(Nat.blt args.length 30&&apos.endLine==pos.line)) (R.E o loc σ (c1r G n R name args loc K)) (Stop (OkE G n cenv loc σ e K))
 |_=>Stop (OkE G n cenv loc σ e K)
noncomputable def m1k(R:Rec)(o:BoolOp)(rest:List Expr)(pos:Pos)(loc:Loc)(K:AV→Sig→Prop)(v:AV)(σ:Sig):Prop:=match v with
 | .bool b=>(match o with
  | .Or=>Stop (if b=true then K (.bool true) σ else R.E (.BoolOp .Or rest pos) loc σ K)
  | .And=>Stop (if b=true then R.E (.BoolOp .And rest pos) loc σ K else K (.bool false) σ))
 |_=>False
noncomputable def i1g(R:Rec)(e:Expr)(o:BoolOp)(es:List Expr)(pos:Pos)(loc:Loc)(σ:Sig)(K:AV→Sig→Prop):Prop:=match es with
 |[]=>Stop (OkE G n cenv loc σ e K)
 |x::l=>(match l with|[]=>R.E x loc σ K|y::r=>R.E x loc σ (m1k R o (y::r) pos loc K))
noncomputable def unE(R:Rec)(e x:Expr)(loc:Loc)(σ:Sig)(K:AV→Sig→Prop):UnaryOp→Prop
 | .USub=>R.E x loc σ (p1g G n K)
 | .Not=>R.E x loc σ (m1o G n K)
 |_=>Stop (OkE G n cenv loc σ e K)
noncomputable def e1t(e:Expr):Bool:=Nat.beq e.ctorIdx 26
noncomputable def k1c(R:Rec)(e:Expr)(loc:Loc)(σ:Sig)(K:AV→Sig→Prop):Prop:=match e with
 | .Name x _=>gd (x=="__debug__") (Stop (OkE G n cenv loc σ e K)) (op (cenv.kindOf x) (n1j G n cenv e loc σ K x) (Stop (OkE G n cenv loc σ e K)))
 | .Constant c _ _=>i1o G n cenv e loc σ K c
 | .BinOp l o r _=>R.E l loc σ (p1e G n R o r loc K)
 | .Compare l ops rs _=>op (one ops) (λo=>op (one rs) (λr=>gd (behindInMarks o r) (Stop (OkE G n cenv loc σ e K)) (R.E l loc σ (o1b G n R o r loc K))) (Stop (OkE G n cenv loc σ e K))) (Stop (OkE G n cenv loc σ e K))
 | .IfExp t b c pos=>gd (md.contains pos.line) (Stop (h1d (OkE G n cenv loc σ e K))) (R.B t loc σ (p1f R b c loc K))
 | .Tuple es _ _=>R.Es es loc σ (p1j K)
 | .List es _=>R.Es es loc σ (m1n K)
 | .Dict ks vs _=>gd (ks.isEmpty&&vs.isEmpty) (K (.ref σ.length) (σ++[.dictI []])) (Stop (OkE G n cenv loc σ e K))
 | .Subscript v s _=>gd (e1t s) (Stop (OkE G n cenv loc σ e K)) (R.E v loc σ (o1d G n R v s loc K))
 | .Attribute v a _=>gd (w0g v) (R.E v loc σ (m1j G n a K)) (Stop (OkE G n cenv loc σ e K))
 | .UnaryOp o x _=>unE G n cenv R e x loc σ K o
 | .BoolOp o es pos=>i1g G n cenv R e o es pos loc σ K
 | .Call f args ks pos=>gd (ks.isEmpty&&args.all n0a) (i1i G n cenv R e f args pos loc σ K) (Stop (OkE G n cenv loc σ e K))
 |_=>Stop (OkE G n cenv loc σ e K)
noncomputable def unB(R:Rec)(e x:Expr)(loc:Loc)(σ:Sig)(K:Bool→Sig→Prop):UnaryOp→Prop
 | .Not=>R.B x loc σ (p1h K)
 |_=>Stop (OkB G n cenv loc σ e K)
noncomputable def k1b(R:Rec)(e:Expr)(loc:Loc)(σ:Sig)(K:Bool→Sig→Prop):Prop:=match e with
 | .UnaryOp o x _=>unB G n cenv R e x loc σ K o
 | .BoolOp o es pos=>R.Bs o es pos loc σ K
 | .Compare l ops rs _=>op (one ops) (λo=>op (one rs) (λr=>gd (behindInMarks o r) (Stop (OkB G n cenv loc σ e K)) (R.E l loc σ (o1b G n R o r loc (l0w G n K)))) (Stop (OkB G n cenv loc σ e K))) (Stop (OkB G n cenv loc σ e K))
 | .Name _ _=>R.E e loc σ (l0w G n K)
 | .Call _ _ _ _=>R.E e loc σ (l0w G n K)
 | .Subscript _ _ _=>R.E e loc σ (l0w G n K)
 | .Constant _ _ _=>R.E e loc σ (l0w G n K)
 |_=>Stop (OkB G n cenv loc σ e K)
noncomputable def c1x(R:Rec)(es:List Expr)(loc:Loc)(σ:Sig)(K:List AV→Sig→Prop):Prop:=match es with
 |[]=>K [] σ
 |e::rest=>gd (n0a e) (R.E e loc σ (kEs R rest loc K)) (Stop (o0q G n cenv loc σ es K))
noncomputable def c1w(R:Rec)(o:BoolOp)(es:List Expr)(pos:Pos)(loc:Loc)(σ:Sig)(K:Bool→Sig→Prop):Prop:=match es with
 |[]=>(match o with| .And=>K true σ| .Or=>K false σ)
 |e::rest=>(match o with| .And=>R.B e loc σ (p1c R rest pos loc K)| .Or=>R.B e loc σ (kOr R rest pos loc K))
noncomputable def n0z(cenv:Env)(x:PySem.Str):Bool:=cenv.kindOf x==some .local
noncomputable def j1c(cenv:Env)(x:PySem.Str):Bool:=cenv.kindOf x==some .cell&&(cenv.cells.lookup x).isSome
noncomputable def n1p(R:Rec)(v:Expr)(kk:List (List Stmt))(loc:Loc)(σ:Sig)(D:Prop)(t:Expr):Prop:=match t with
 | .Name x _=>gd (n0z cenv x) (R.E v loc σ (m1h R x kk loc)) (gd (j1c cenv x) (R.E v loc σ (m1h R x kk loc)) D)
 | .Attribute o a _=>R.E v loc σ (a1w G n R o a kk loc)
 | .Subscript o i _=>R.E v loc σ (e1u G n R o i kk loc)
 | .Tuple xs _ _=>op (two xs) (λp=>(match p with|(a,b)=>op (t0i a) (λx=>op (t0i b) (λy=>(match x with|(x,_)=>(match y with|(y,_)=>gd (j1u v&&(n0z cenv x&&n0z cenv y)) (R.E v loc σ (m1i R x y kk loc)) D))) D) D)) D
 |_=>D
noncomputable def o1u(R:Rec)(v:Expr)(kk:List (List Stmt))(loc:Loc)(σ:Sig)(D:Prop)(t:Expr):Operator→Prop
 | .Add=>op (t0i t) (λx=>(match x with|(x,_)=>gd (n0z cenv x) (op ((loc.lookup x).bind isI) (λa=>R.E v loc σ (p1d R x a kk loc)) D) D)) D
 |_=>D
noncomputable def k1d(R:Rec)(kk:List (List Stmt))(loc:Loc)(σ:Sig):Prop:=match kk with
 |[]=>Stop (Q .next loc σ)
 |b::kk=>(match b with
  |[]=>R.K kk loc σ
  |st::rest=>(match st with
   | .Return e _=>(match e with|some e=>R.E e loc σ (p1i Q loc)|none=>Stop (Q (.ret .none) loc σ))
   | .Pass _=>R.K (rest::kk) loc σ
   | .Continue _=>Stop (Q .cont loc σ)
   | .If t b e pos=>gd (md.contains pos.line) (Stop (h1d (OkK G n cenv Q ((st::rest)::kk) loc σ))) (R.B t loc σ (kIf R b e (rest::kk) loc))
   | .Assign ts v pos=>gd (md.contains pos.line) (Stop (h1d (OkK G n cenv Q ((st::rest)::kk) loc σ)))<|gd (t0r v) (op (one ts) (n1p G n cenv R v (rest::kk) loc σ (Stop (OkK G n cenv Q ((st::rest)::kk) loc σ))) (Stop (OkK G n cenv Q ((st::rest)::kk) loc σ))) (Stop (OkK G n cenv Q ((st::rest)::kk) loc σ))
   | .AugAssign t o v _=>o1u cenv R v (rest::kk) loc σ (Stop (OkK G n cenv Q ((st::rest)::kk) loc σ)) t o
   | .Expr e pos=>gd (md.contains pos.line) (Stop (h1d (OkK G n cenv Q ((st::rest)::kk) loc σ)))<|gd (t0r e&& !interactive cenv) (R.E e loc σ (m1m R (rest::kk) loc)) (Stop (OkK G n cenv Q ((st::rest)::kk) loc σ))
   |_=>Stop (OkK G n cenv Q ((st::rest)::kk) loc σ)))
noncomputable def go:Nat→Rec
 |0=>⟨λ_ _ _ _=>False,λ_ _ _ _=>False,λ_ _ _ _=>False,λ_ _ _ _ _ _=>False,λ_ _ _=>False⟩
 |k+1=>⟨k1c md G n cenv (go k),k1b G n cenv (go k),c1x G n cenv (go k),c1w (go k),k1d md G n cenv Q (go k)⟩
end
set_option backward.match.sparseCases true
theorem c0h{G:Gx}{n:Nat}{cenv:Env}{loc:Loc}{σ:Sig}{es:List Expr}{Q Q':List AV→Sig→Prop}(h:o0q G n cenv loc σ es Q)(k: ∀x σ',Q x σ'→Q' x σ'):o0q G n cenv loc σ es Q':=λpos=>OkT.mono (h pos) k
theorem OkT.mono2{G:Gx}{n:Nat}{σ:Sig}{α β:Type}{R:Rl α β}{f:Value→Value→Sem α}{x y:AV}{Q Q':β→Sig→Prop}(h:Op2 G n σ R f x y Q)(k: ∀x σ',Q x σ'→Q' x σ'):Op2 G n σ R f x y Q':=
 λA ρ s a b r S va vb=>wpAny_mono (h A ρ s a b r S va vb) (λv s' ⟨x,ρ',σ',a,b,c,d⟩=>⟨x,ρ',σ',a,b,c,k _ _ d⟩) λ_ _ e=>e
theorem k1g{G:Gx}{m:Nat}{σ:Sig}{b:Bool}{Q:AV→Sig→Prop}(h:Q (.bool (!b)) σ):Op1 G m σ V (unaryOp .Not) (.bool b) Q:=λA ρ s a rm S va=>by
 subst va
 show wpAny _ _ (do return Value.bool (!(←truthy (Value.bool b)))) _ _ _
 exact wpAny_bind (wpAny_truthy_bool (wpAny_pure (a0e (tk:=s.toks) (x:=AV.bool (!b)) S rfl h)))
theorem a0y.mono{G:Gx}{n:Nat}{x i y:AV}{σ:Sig}{Q Q':Sig→Prop}(h:a0y G n x i y σ Q)(k: ∀σ',Q σ'→Q' σ'):a0y G n x i y σ Q':=λA ρ s a b c r S va vb vc=>
 wpAny_mono (h A ρ s a b c r S va vb vc) (λv s' ⟨x,ρ',σ',a,b,c,d⟩=>⟨x,ρ',σ',a,b,c,k _ d⟩) λ_ _ e=>e
theorem w0h{o:Expr}(h:w0g o=true)(a:PySem.Str)(cenv:Env)(w:Sem Value):attributeBase o a cenv w=w:=by
 cases o<;>first|rfl|exact Bool.noConfusion h
theorem x0e{v:Expr}(h:w0g v=true)(a:PySem.Str)(pos:Pos)(cenv:Env):eval (.Attribute v a pos) cenv=(do
   let o ←eval v cenv
   standAt pos.atName
   let r ←holding [o] (getAttr o a true)
   letTemporaryGo v o r
   pure r):=by
 have e:eval (.Attribute v a pos) cenv=(do
   let o ←attributeBase v a cenv (eval v cenv)
   standAt pos.atName
   let r ←holding [o] (getAttr o a true)
   letTemporaryGo v o r
   pure r):=by with_unfolding_all rfl
 rw[e,w0h h]
theorem x0f{o:Expr}(h:w0g o=true){name:PySem.Str}{apos pos:Pos}{args:List Expr}{cenv:Env}(hs:(backTo pos (starEach args cenv)).any (·.1)=false)(hn:Nat.blt args.length 30=true)(hl:(apos.endLine==pos.line)=true):
  eval (.Call (.Attribute o name apos) args [] pos) cenv=(do
   let ov ←eval o cenv
   standAt apos.atName
   let(f,first) ←holding [ov] (getMethod ov name (do return (←importBound o cenv).getD true))
   callWith pos f first (backTo pos (starEach args cenv)) (backToKw pos (keywordEach [] cenv))):=by
 have e:eval (.Call (.Attribute o name apos) args [] pos) cenv=(do
   let ov ←attributeBase o name cenv (eval o cenv)
   standAt apos.atName
   methodCall o name apos pos cenv ov (args.length+([]:List Keyword).length) (backTo pos (starEach args cenv)) (backToKw pos (keywordEach [] cenv))):=by with_unfolding_all rfl
 rw[e,w0h h]
 have hf:methodCallForm (args.length+([]:List Keyword).length) (backTo pos (starEach args cenv)) (backToKw pos (keywordEach [] cenv))=true:=by
  unfold methodCallForm
  rw[Bool.and_eq_true,Bool.and_eq_true]
  refine⟨⟨?_,rfl⟩,?_⟩
  ·rw[List.all_eq_not_any_not];simp only[Bool.not_not,Bool.not_eq_true'];exact hs
  ·have:=Nat.le_of_ble_eq_true hn
   exact decide_eq_true (by show args.length+0+0<30;omega)
 unfold methodCall
 have hm:methodCallPos true o cenv apos pos=pure pos:=if_pos (show(!true||apos.endLine==pos.line)=true from hl)
 have hc (ov:Value):calleeOf true o cenv ov name=getMethod ov name (do return (←importBound o cenv).getD true):=if_pos rfl
 simp only[hf,hc,hm]
 rfl
theorem m0i{b:Bool}{A B C:Prop}(h:gd b A B)(h1:b=true→A→C)(h2:b=false→B→C):C:=by
 cases b
 ·exact h2 rfl h
 ·exact h1 rfl h
theorem j0a{α:Type}{o:Option α}{A:α→Prop}{B C:Prop}(h:op o A B)(h1: ∀a,o=some a→A a→C)(h2:o=none→B→C):C:=by
 cases o
 ·exact h2 rfl h
 ·exact h1 _ rfl h
theorem v0n{α:Type}{l:List α}{a:α}(h:one l=some a):l=[a]:=by
 cases l with
 |nil=>(exact b0n h)
 |cons x l=>cases l with
  |nil=>cases h;rfl
  |cons _ _=>(exact b0n h)
theorem f1w{α:Type}{l:List α}{p:α×α}(h:two l=some p):l=[p.1,p.2]:=by
 cases l with
 |nil=>(exact b0n h)
 |cons x l=>
  refine a0a (Option.map_eq_some_iff.mp (show(one l).map (λb=>(x,b))=some p from h)) λb hb z0=>?_;subst z0
  rw[v0n hb]
theorem o0a{e:Expr}{x:PySem.Str×Pos}(h:t0i e=some x):e=.Name x.1 x.2:=by
 cases e<;>first|exact b0n h|(cases h;rfl)
theorem i0m{x:AV}{a:Int}(h:isI x=some a):x=.int a:=by cases x<;>first|exact b0n h|(cases h;rfl)
theorem a1v{x:AV}{a:PySem.Str}(h:isS x=some a):x=.str a:=by cases x<;>first|exact b0n h|(cases h;rfl)
theorem j1d{x:AV}{a:List AV}(h:isT x=some a):x=.tup a:=by cases x<;>first|exact b0n h|(cases h;rfl)
theorem k0v{x:AV}{p:Int×Int}(h:m0v x=some p):x=.tup [.int p.1,.int p.2]:=by
 cases x with
 |tup l=>
  have h:m0v.op2 (two l)=some p:=h
  cases e:two l with
  |none=>rw[e]at h;(exact b0n h)
  |some q=>
   rw[e]at h
   refine a0a (Option.bind_eq_some_iff.mp (show(isI q.1).bind (λa=>(isI q.2).map λb=>(a,b))=some p from h)) λa ha h=>?_
   refine a0a (Option.map_eq_some_iff.mp h) λb hb z0=>?_;subst z0
   rw[f1w e,i0m ha,i0m hb]
 |_=>(exact b0n h)
theorem f1c{s:Expr}{i:Nat}(h:j1p s=some i): ∃k p,s=.Constant (.int i) k p:=by
 cases s with
 |Constant c k p=>cases c with
  |int j=>cases j<;>first|exact b0n h|(cases h;exact⟨_,_,rfl⟩)
  |_=>exact b0n h
 |_=>exact b0n h
theorem x0d{α:Type}{l:List α}(h:l.isEmpty=true):l=[]:=by cases l<;>first|rfl|(exact a0t h)
theorem d0k{a b:Bool}(h:(a&&b)=true):a=true∧b=true:=by cases a<;>cases b<;>first|exact⟨rfl,rfl⟩|(exact a0t h)
section
variable {md:List Nat} {G:Gx} {n:Nat} {cenv:Env} {Q:AFlow→Loc→Sig→Prop} {R:Rec} {σ:Sig} {loc:Loc} {F:Frag}
structure Sound (G:Gx) (n:Nat) (cenv:Env) (Q:AFlow→Loc→Sig→Prop) (R:Rec):Prop where
 E: ∀{e loc σ K},R.E e loc σ K→OkE G n cenv loc σ e K
 B: ∀{e loc σ K},R.B e loc σ K→OkB G n cenv loc σ e K
 Es: ∀{es loc σ K},R.Es es loc σ K→o0q G n cenv loc σ es K
 Bs: ∀{o es pos loc σ K},R.Bs o es pos loc σ K→z0w G n cenv loc σ o es pos K
 K: ∀{kk loc σ},R.K kk loc σ→OkK G n cenv Q kk loc σ
structure Tabs (G:Gx):Prop where
 glob: ∀p∈m1e,∀{n:Nat} {cenv:Env} {loc:Loc} {σ:Sig} {pos:Pos} {Q:AV→Sig→Prop},cenv.kindOf p.1=some .globalImplicit→Q p.2 σ→OkE G n cenv loc σ (.Name p.1 pos) Q
 keep: ∀{f},o1e f=true→f0x G f
 meth: ∀C,∀p∈n1i C,∀{n:Nat} {σ:Sig} {i d:Nat} {m:List (PySem.Str×AV)},σ[i]?=some (.inst C d)→σ[d]?=some (.ns m)→m.lookup p.1=none→d0j G n σ (.ref i) p.1 (.ref p.2)∧f0x G (.ref p.2)
 attr: ∀C,∀a∈l1s C,∀{n:Nat} {σ:Sig} {i d:Nat} {m:List (PySem.Str×AV)} {x:AV} {Q:AV→Sig→Prop},σ[i]?=some (.inst C d)→σ[d]?=some (.ns m)→m.lookup a=some x→x.plain=true→Q x σ→d0b G n (.ref i) a σ Q
theorem t0l{K:Bool→Sig→Prop}{v:AV}(h:l0w G n K v σ):j0b G n v σ K:=by
 cases v with
 |bool b=>exact h1u h
 |_=>exact h.h
theorem e1v{o:Operator}{x y:AV}{K:AV→Sig→Prop}(h:j1e G n o x K y σ):l0d G n o x y σ K:=
 j0a h (λa ha h=>j0a h (λb hb h=>by
  rw[i0m ha,i0m hb]
  cases o with
  |Add=>exact d1o h
  |Sub=>exact d1p h
  |_=>rw[←i0m ha,←i0m hb];exact h.h) λ_ h=>h.h) λ_ h=>h.h
theorem j1l{o:CmpOp}{x y:AV}{K:AV→Sig→Prop}(h:o1c G n o x y σ K):b0e G n o x y σ K:=
 j0a h (λc hc h=>j0a h (λb hb h=>by
   cases o with
   |Eq=>rw[a1v hb,a1v hc];exact d1v h
   |NotEq=>rw[a1v hb,a1v hc];exact d1y h
   |_=>exact h.h) λ_ h=>h.h) λ_ h=>h.h
theorem e1x{o:CmpOp}{x y:AV}{K:AV→Sig→Prop}(h:j1h G n o x K y σ):b0e G n o x y σ K:=by
 cases x with
 |int a=>exact j0a h (λb hb h=>by
   cases o with
   |Eq=>rw[i0m hb];exact d1u h
   |NotEq=>rw[i0m hb];exact d1x h
   |Lt=>rw[i0m hb];exact i1n h
   |Gt=>rw[i0m hb];exact i1l h
   |GtE=>rw[i0m hb];exact i1k h
   |LtE=>rw[i0m hb];exact i1m h
   |_=>exact h.h) λ_ h=>h.h
 |str a=>exact j1l h
 |tup l=>cases o with
  |Eq=>exact j0a (o:=m0v (.tup l)) h (λp hp h=>j0a h (λq hq h=>by rw[k0v hp,k0v hq];exact d1w h) λ_ h=>h.h) λ_ h=>h.h
  |NotEq=>exact j0a (o:=m0v (.tup l)) h (λp hp h=>j0a h (λq hq h=>by rw[k0v hp,k0v hq];exact d1z h) λ_ h=>h.h) λ_ h=>h.h
  |_=>exact h.h
 |_=>exact h.h
theorem y0b{o:CmpOp}{x y:AV}{K:AV→Sig→Prop}(h:j1g G n o x K y σ):b0e G n o x y σ K:=by
 cases o<;>first|exact e1x h|exact h.h
variable (T:Tabs G) (hR:Sound G n cenv Q R)
include hR
theorem j1m{v s:Expr}{x:AV}{K:AV→Sig→Prop}(h:o1d G n R v s loc K x σ):OkE G n cenv loc σ s λy σ₂=>l0e G n v s x y σ₂ K:=by
 have slow:R.E s loc σ (a1y G n v s x K)→OkE G n cenv loc σ s λy σ₂=>l0e G n v s x y σ₂ K:=λh=>OkT.mono (hR.E h) λ_ _ q=>q.h
 refine j0a h (λi hi h=>j0a h (λl hl h=>j0a h (λz hz hK=>?_) λ_=>slow) λ_=>slow) λ_=>slow
 refine x0a (f1c hi) λk p z0=>?_;subst z0
 rw[j1d hl]
 exact d1h (s0e (Int.natCast_nonneg i) hz hK)
include T
theorem e1w{args:List Expr}{x:AV}{K:AV→Sig→Prop}(h:j1f G n R args loc K x σ): ∃f,x=.glob f∧f0x G f∧o0q G n cenv loc σ args λxs σ₂=>a0b G n f xs σ₂ K:=by
 cases x with
 |glob f=>exact m0i h (λhk h=>⟨f,rfl,T.keep hk,c0h (hR.Es h) λ_ _ q=>q.h⟩) λ_ h=>⟨f,rfl,h.h.1,c0h (hR.Es h.h.2) λ_ _ q=>q.h⟩
 |_=>exact h.elim
omit T in
theorem e1y{name:PySem.Str}{args:List Expr}{x:AV}{K:AV→Sig→Prop}(h:c1r G n R name args loc K x σ): ∃f,d0j G n σ x name f∧f0x G f∧o0q G n cenv loc σ args λxs σ₂=>a0b G n f (x::xs) σ₂ K:=
 let⟨f,h1,h2,h3⟩:=h.h
 ⟨f,h1,h2,c0h (hR.Es h3) λ_ _ q=>q.h⟩
end
section
variable {md:List Nat} {G:Gx} {n:Nat} {cenv:Env} {Q:AFlow→Loc→Sig→Prop} {R:Rec} {σ:Sig} {loc:Loc} {F:Frag}
theorem c0u{v:Expr}(h:t0r v=true)(t:Option Expr)(l:Nat)(cenv:Env):swapsWith v t l cenv=pure false:=by
 cases v<;>first|rfl|exact Bool.noConfusion h
theorem o0e{v:Expr}(h:j1u v=true){x y:PySem.Str}{px py tpos:Pos}{k:Nat}(cenv:Env):swappedStores [.Tuple [.Name x px,.Name y py] k tpos] v cenv=pure none:=by
 cases v<;>first|rfl|exact Bool.noConfusion h
theorem h0u{e:Expr}(h:n0a e=true)(rest:List Expr)(cenv:Env):starEach (e::rest) cenv=(false,eval e cenv)::starEach rest cenv:=by
 cases e<;>first|rfl|exact Bool.noConfusion h
theorem h0f{cenv:Env}: ∀{es:List Expr} (h:es.all n0a=true) (pos:Pos),(backTo pos (starEach es cenv)).any (·.1)=false
 |[],_,_=>rfl
 |e::es,h,pos=>by
  rw[h0u (d0k h).1]
  exact h0f (es:=es) (d0k h).2 pos
variable (T:Tabs G) (hR:Sound G n cenv Q R)
include T hR
omit T in
theorem d1q{o:BoolOp}{es:List Expr}{pos:Pos}{K:AV→Sig→Prop}(h:i1g G n cenv R (.BoolOp o es pos) o es pos loc σ K):OkE G n cenv loc σ (.BoolOp o es pos) K:=by
 cases es with
 |nil=>exact h.h
 |cons x l=>cases l with
  |nil=>exact d1f (hR.E h)
  |cons y r=>cases o with
   |Or=>exact o1p (OkT.mono (hR.E h) λv σ₁ h=>by
     cases v with
     |bool b=>exact⟨b,rfl,λe=>by have h:=h.h;rw[if_pos e]at h;exact h,λe=>by have h:=h.h;rw[if_neg (by rw[e];exact Bool.noConfusion)]at h;exact hR.E h⟩
     |_=>exact h.elim)
   |And=>exact l1b (OkT.mono (hR.E h) λv σ₁ h=>by
     cases v with
     |bool b=>exact⟨b,rfl,λe=>by have h:=h.h;rw[if_neg (by rw[e];exact Bool.noConfusion)]at h;exact h,λe=>by have h:=h.h;rw[if_pos e]at h;exact hR.E h⟩
     |_=>exact h.elim)
theorem d1s{f:Expr}{args:List Expr}{pos:Pos}{K:AV→Sig→Prop}(hp:args.all n0a=true)(h:i1i G n cenv R (.Call f args [] pos) f args pos loc σ K):OkE G n cenv loc σ (.Call f args [] pos) K:=by
 cases f with
 |Name x p=>exact g1s (func:=.Name x p) (OkT.mono (hR.E (e:=.Name x p) h) λx σ₁ h=>e1w T hR h) (h0f hp)
 |Attribute o name ap=>exact m0i h (λhc h=>g1y (OkT.mono (hR.E h) λx σ₁ h=>e1y hR h) (h0f hp) (x0f (d0k hc).1 (h0f hp pos) (d0k (d0k hc).2).1 (d0k (d0k hc).2).2)) λ_ h=>h.h
 |_=>exact h.h
theorem f1s{e:Expr}{K:AV→Sig→Prop}(h:k1c md G n cenv R e loc σ K):OkE G n cenv loc σ e K:=by
 cases e with
 |Name x pos=>exact m0i h (λ_ h=>h.h) λhd h=>j0a h (λk hk h=>by
   cases k with
   |«local»=>exact j0a h (λv hv h=>l1f hv hk h hd) λ_ h=>h.h
   |cell=>exact j0a h (λv hv h=>g1t hv hk h hd) λ_ h=>h.h
   |globalImplicit=>exact j0a h (λv hv h=>T.glob _ (mem_of_lookup hv) hk h) λ_ h=>h.h
   |_=>exact h.h) λ_ h=>h.h
 |Constant c k pos=>cases c with
  |int i=>exact d1h h
  |str i=>exact h1b h
  |bool i=>exact g1r h
  |none=>exact g1z h
  |_=>exact h.h
 |BinOp l o r pos=>exact l1c (OkT.mono (hR.E h) λx σ₁ h=>OkT.mono (hR.E h) λy σ₂ h=>e1v h)
 |Compare l ops rs pos=>exact j0a h (λo ho h=>j0a h (λr hr h=>m0i h (λ_ h=>h.h) λhb h=>by
   rw[v0n ho,v0n hr]
   exact l1e (OkT.mono (hR.E h) λx σ₁ h=>OkT.mono (hR.E h) λy σ₂ h=>y0b h) hb) λ_ h=>h.h) λ_ h=>h.h
 |IfExp t b e pos=>exact m0i h (λ_ h=>h.h) λ_ h=>o1o (OkT.mono (hR.B h) λc σ₁ h=>by
   cases c
   ·exact hR.E h.h
   ·exact hR.E h.h)
 |Tuple es k pos=>exact h1c (c0h (hR.Es h) λxs σ₁ h=>m0i h (λe h=>⟨Nat.le_of_ble_eq_true e,h⟩) λ_ h=>h.elim)
 |List es pos=>exact c1a (c0h (hR.Es h) λxs σ₁ h=>m0i h (λe h=>⟨Nat.le_of_ble_eq_true e,h⟩) λ_ h=>h.elim)
 |Dict ks vs pos=>exact m0i h (λe h=>by rw[x0d (d0k e).1,x0d (d0k e).2];exact s0k (.inl rfl) h) λ_ h=>h.h
 |Subscript v s pos=>exact m0i h (λ_ h=>h.h) λ_ h=>l1g (OkT.mono (hR.E h) λx σ₁ h=>j1m hR h)
 |Attribute v a pos=>exact m0i h (λhb h=>g1q (OkT.mono (hR.E h) λx σ₁ h=>h.h) (x0e hb _ _ _)) λ_ h=>h.h
 |BoolOp o es pos=>exact d1q hR h
 |UnaryOp o x pos=>cases o with
  |USub=>exact n1m (OkT.mono (hR.E h) λx σ₁ h=>by cases x<;>first|exact k1f h|exact h.h)
  |Not=>exact n1m (OkT.mono (hR.E h) λx σ₁ h=>by cases x<;>first|exact k1g h|exact h.h)
  |_=>exact h.h
 |Call f args ks pos=>exact m0i h (λhc h=>by rw[x0d (d0k hc).1]at h⊢;exact d1s T hR (d0k hc).2 h) λ_ h=>h.h
 |_=>exact h.h
omit T
theorem f1r{e:Expr}{K:Bool→Sig→Prop}(h:k1b G n cenv R e loc σ K):OkB G n cenv loc σ e K:=by
 have val: ∀{e},R.E e loc σ (l0w G n K)→OkE G n cenv loc σ e λv σ₁=>j0b G n v σ₁ K:=λh=>OkT.mono (hR.E h) λ_ _ h=>t0l h
 cases e with
 |UnaryOp o x pos=>cases o with
  |Not=>exact k1z (hR.B h)
  |_=>exact h.h
 |BoolOp o es pos=>exact d1e (hR.Bs h)
 |Compare l ops rs pos=>exact j0a h (λo ho h=>j0a h (λr hr h=>m0i h (λ_ h=>h.h) λhb h=>by
   rw[v0n ho,v0n hr]
   exact k1y (OkT.mono (hR.E h) λx σ₁ h=>OkT.mono (hR.E h) λy σ₂ h=>OkT.mono2 (y0b h) λ_ _ h=>t0l h) hb) λ_ h=>h.h) λ_ h=>h.h
 |Name x p=>exact z0s (val h)
 |Call f as ks p=>exact z0s (val h)
 |Subscript a b p=>exact z0s (val h)
 |Constant a b p=>exact z0s (val h)
 |_=>exact h.h
theorem b1q{es:List Expr}{K:List AV→Sig→Prop}(h:c1x G n cenv R es loc σ K):o0q G n cenv loc σ es K:=by
 cases es with
 |nil=>exact v0y h
 |cons e rest=>exact m0i h (λhp h=>v0x (OkT.mono (hR.E h) λx σ₁ h=>c0h (hR.Es h) λ_ _ h=>h) (h0u hp _ _)) λ_ h=>h.h
theorem b1p{o:BoolOp}{es:List Expr}{pos:Pos}{K:Bool→Sig→Prop}(h:c1w R o es pos loc σ K):z0w G n cenv loc σ o es pos K:=by
 cases es with
 |nil=>cases o with
  |And=>exact g1o h
  |Or=>exact l1a h
 |cons e rest=>cases o with
  |And=>exact k1x (OkT.mono (hR.B h) λc σ₁ h=>by
    cases c
    ·exact h.h
    ·exact hR.Bs h.h)
  |Or=>exact o1n (OkT.mono (hR.B h) λc σ₁ h=>by
    cases c
    ·exact hR.Bs h.h
    ·exact h.h)
theorem i1a{t v:Expr}{pos:Pos}{kk:List (List Stmt)}{rest:List Stmt}(hc:t0r v=true)(h:n1p G n cenv R v (rest::kk) loc σ (Stop (OkK G n cenv Q ((.Assign [t] v pos::rest)::kk) loc σ)) t):OkK G n cenv Q ((.Assign [t] v pos::rest)::kk) loc σ:=by
 cases t with
 |Name x p=>exact m0i h (λhk h=>z0u (eq_of_beq hk) (OkT.mono (hR.E h) λ_ _ h=>hR.K h) (c0u hc _ _ _)) λ_ h=>m0i h (λhk h=>by
   refine a0k (Option.isSome_iff_exists.mp (d0k hk).2) λc hc2=>?_
   exact f0w (eq_of_beq (d0k hk).1) hc2 (OkT.mono (hR.E h) λ_ _ h=>hR.K h) (c0u hc _ _ _)) λ_ h=>h.h
 |Attribute o a p=>exact v0z (OkT.mono (hR.E h) λ_ _ h=>OkT.mono (hR.E h) λ_ _ h=>OkT.mono2 h.h λ_ _ h=>hR.K h) (c0u hc _ _ _)
 |Subscript o i p=>exact h1j (OkT.mono (hR.E h) λ_ _ h=>OkT.mono (hR.E h) λ_ _ h=>OkT.mono (hR.E h) λ_ _ h=>a0y.mono h.h λ_ h=>hR.K h) (c0u hc _ _ _)
 |Tuple xs k p=>exact j0a h (λq hq h=>j0a h (λx hx h=>j0a h (λy hy h=>m0i h (λhk h=>by
   rw[f1w hq,o0a hx,o0a hy]
   refine h1e (eq_of_beq (d0k (d0k hk).2).1) (eq_of_beq (d0k (d0k hk).2).2) (OkT.mono (hR.E h) λv σ₁ h=>?_) (by unfold swapsWithSole;exact c0u hc _ _ _) (o0e (d0k hk).1 _)
   refine j0a h (λr hr h=>?_) λ_ h=>?_
   ·refine a0a (Option.bind_eq_some_iff.mp hr) λl hl hr=>?_
    exact⟨r.1,r.2,by rw[j1d hl,f1w hr],hR.K h⟩
   ·refine c0e (h.h) λa b e h=>?_
    exact⟨a,b,e,hR.K h⟩) λ_ h=>h.h) λ_ h=>h.h) λ_ h=>h.h) λ_ h=>h.h
 |_=>exact h.h
theorem f1t{kk:List (List Stmt)}(h:k1d md G n cenv Q R kk loc σ):OkK G n cenv Q kk loc σ:=by
 cases kk with
 |nil=>exact h.h
 |cons b kk=>cases b with
  |nil=>exact h1k (hR.K h)
  |cons st rest=>cases st with
   |Return e pos=>cases e with
    |none=>exact h1n h.h
    |some e=>exact d1k (OkT.mono (hR.E h) λ_ _ h=>h.h)
   |Pass pos=>exact h1m (hR.K h)
   |Continue pos=>exact h1g h.h
   |If t b e pos=>exact m0i h (λ_ h=>h.h) λ_ h=>n1n (OkT.mono (hR.B h) λc σ₁ h=>by
     cases c
     ·exact hR.K h.h
     ·exact hR.K h.h)
   |AugAssign t o v pos=>cases o with
    |Add=>exact j0a h (λx hx h=>m0i h (λhk h=>j0a h (λa ha h=>by
      refine a0a (Option.bind_eq_some_iff.mp ha) λw hw ha=>?_
      rw[i0m ha]at hw
      rw[o0a hx]
      refine l1h hw (eq_of_beq hk) (OkT.mono (hR.E h) λv σ₁ h=>j0a h (λb hb h=>⟨b,i0m hb,hR.K h⟩) λ_ h=>?_)
      refine a0a (h.h) λb e h=>?_
      exact⟨b,e,hR.K h⟩) λ_ h=>h.h) λ_ h=>h.h) λ_ h=>h.h
    |_=>exact h.h
   |Expr e pos=>exact m0i h (λ_ h=>h.h) λ_ h=>m0i h (λhc h=>h1h (OkT.mono (hR.E h) λ_ _ h=>hR.K h) (c0u (d0k hc).1 _ _ _) (by have:=(d0k hc).2;simpa using this)) λ_ h=>h.h
   |Assign ts v pos=>exact m0i h (λ_ h=>h.h) λ_ h=>m0i h (λhc h=>j0a h (λt ht h=>by
     have e:=v0n ht
     subst e
     exact i1a hR hc h) λ_ h=>h.h) λ_ h=>h.h
   |_=>exact h.h
omit hR
include T
theorem a1s: ∀k,Sound G n cenv Q (go md G n cenv Q k)
 |0=>⟨λh=>h.elim,λh=>h.elim,λh=>h.elim,λh=>h.elim,λh=>h.elim⟩
 |k+1=>⟨λh=>f1s T (a1s k) h,λh=>f1r (a1s k) h,λh=>b1q (a1s k) h,λh=>b1p (a1s k) h,λh=>f1t (a1s k) h⟩
end
theorem g0y{α:Type}{P:α→Prop}{b:Bool}{x y:List α}(h1:b=true→∀z∈x,P z)(h2: ∀z∈y,P z): ∀z∈cond b x y,P z:=by
 cases b
 ·exact h2
 ·exact h1 rfl
theorem c1y{G:Gx}(W:WOk G (hd.heap_1 G.w.params)):Tabs G:=by
 refine⟨?_,?_,?_,?_⟩
 ·unfold m1e
  repeat (first
   |refine List.forall_mem_cons.mpr ⟨λhk h=>g1w W hk (by k_is) h,?_⟩
   |refine List.forall_mem_cons.mpr ⟨λhk h=>d1g W hk (by k_is) (by k_is) h,?_⟩
   |refine List.forall_mem_cons.mpr ⟨λhk h=>g1x W hk (by k_is) h,?_⟩
   |refine List.forall_mem_cons.mpr ⟨λhk h=>l1d W hk (by k_is) rfl h,?_⟩)
  exactλ_ h=>(nomatch h)
 ·intro f h
  cases f with
  |builtin _=>exact j0n
  |type _=>exact m1p
  |ref a=>
   refine f1a W ?_
   revert a
   have: ∀a∈([432,425,411,418,446,453,481,400,439,460,467,474,488,495,502,507,514,519,526,533,540,60,67,154,374]:List Nat),keepIn (hd.heap_1 G.w.params) (.ref a)=true:=by
    repeat refine List.forall_mem_cons.mpr ⟨by k_is,?_⟩
    exactλ_ h=>(nomatch h)
   exactλa h=>this a (List.contains_iff_mem.mp h)
  |_=>(exact a0t h)
 ·intro C
  have at_: ∀{C f:Addr} {name:PySem.Str},plainGet (hd.heap_1 G.w.params) C name=true→findIn (hd.heap_1 G.w.params) (.ref C) name=some (some (.ref f))→isFn (hd.heap_1 G.w.params) (.ref f)=true→keepIn (hd.heap_1 G.w.params) (.ref f)=true→
   ∀{n:Nat} {σ:Sig} {i d:Nat} {m:List (PySem.Str×AV)},σ[i]?=some (.inst C d)→σ[d]?=some (.ns m)→m.lookup name=none→d0j G n σ (.ref i) name (.ref f)∧f0x G (.ref f):=λh1 h2 h3 h4 _ _ _ _ _ hi hd hl=>⟨i0r W hi hd hl h1 h2 h3,f1a W h4⟩
  refine g0y (λe=>?_) (g0y (λe=>?_) (g0y (λe=>?_) λ_ h=>(nomatch h)))
  all_goals
   cases Nat.eq_of_beq_eq_true e
   repeat refine List.forall_mem_cons.mpr ⟨at_ (by k_is) (by k_is) (by k_is) (by k_is),?_⟩
   exactλ_ h=>(nomatch h)
 ·intro C
  have at_: ∀{C:Addr} {name:PySem.Str},plainGet (hd.heap_1 G.w.params) C name=true→hasDictIn (hd.heap_1 G.w.params) C=true→findIn (hd.heap_1 G.w.params) (.ref C) name=some none→
   ∀{n:Nat} {σ:Sig} {i d:Nat} {m:List (PySem.Str×AV)} {x:AV} {Q:AV→Sig→Prop},σ[i]?=some (.inst C d)→σ[d]?=some (.ns m)→m.lookup name=some x→x.plain=true→Q x σ→d0b G n (.ref i) name σ Q:=λh1 h2 h3 _ _ _ _ _ _ _ hi hd hl hx h=>e0w W hi hd hl hx h1 h2 h3 h
  refine g0y (λe=>?_) (g0y (λe=>?_) (g0y (λe=>?_) λ_ h=>(nomatch h)))
  all_goals
   cases Nat.eq_of_beq_eq_true e
   repeat refine List.forall_mem_cons.mpr ⟨at_ (by k_is) (by k_is) (by k_is),?_⟩
   exactλ_ h=>(nomatch h)
noncomputable def e1z{α:Type}(K:α→Sig→Prop)(x:α)(σ:Sig):Prop:=Stop (K x σ)
noncomputable def noQ(_:AFlow)(_:Loc)(_:Sig):Prop:=False
section
variable {G:Gx} {n:Nat} {cenv:Env} {Q:AFlow→Loc→Sig→Prop} {σ:Sig} {loc:Loc}
theorem e1o(md:List Nat)(W:WOk G (hd.heap_1 G.w.params)){kk:List (List Stmt)}(h:(go md G n cenv Q 100000).K kk loc σ):OkK G n cenv Q kk loc σ:=(a1s (c1y W) _).K h
theorem n1y(md:List Nat)(W:WOk G (hd.heap_1 G.w.params)){e:Expr}{K:AV→Sig→Prop}(h:(go md G n cenv noQ 100000).E e loc σ (e1z K)):OkE G n cenv loc σ e K:=OkT.mono ((a1s (c1y W) _).E h) λ_ _ h=>h.h
theorem p1a(md:List Nat)(W:WOk G (hd.heap_1 G.w.params)){e:Expr}{K:Bool→Sig→Prop}(h:(go md G n cenv noQ 100000).B e loc σ (e1z K)):OkB G n cenv loc σ e K:=OkT.mono ((a1s (c1y W) _).B h) λ_ _ h=>h.h
theorem m1d(md:List Nat)(W:WOk G (hd.heap_1 G.w.params)){es:List Expr}{K:List AV→Sig→Prop}(h:(go md G n cenv noQ 100000).Es es loc σ (e1z K)):o0q G n cenv loc σ es K:=c0h ((a1s (c1y W) _).Es h) λ_ _ h=>h.h
end
theorem m1g{A B:Prop}(h:A):if true=true then A else B:=h
theorem m1f{A B:Prop}(h:B):if false=true then A else B:=by rw[if_neg (by exact Bool.noConfusion)];exact h
section
variable {G:Gx} {m:Nat} {σ:Sig} {n y sy:Nat} {S:Sto} {ts:List PySem.Str} {fs:List Cel} {R:Rec} {name:PySem.Str} {args:List Expr} {loc:Loc} {K:AV→Sig→Prop} {x:AV} {f:Addr}
theorem l1q(W:WOk G (hd.heap_1 G.w.params))(hS:IsSt σ n sy S)(hl:(q0k n sy S.hb).lookup name=some x)(hp:(x.plain&&(l1s 374).contains name)=true)(h:K x σ):d0b G m (.ref (n+1)) name σ K:=(c1y W).attr 374 _ (List.contains_iff_mem.mp (d0k hp).2) hS.inst hS.ns hl (d0k hp).1 h
theorem l1r(W:WOk G (hd.heap_1 G.w.params))(hS:IsSy σ y ts fs)(hl:(z0r y).lookup name=some x)(hp:(x.plain&&(l1s 154).contains name)=true)(h:K x σ):d0b G m (.ref (y+1)) name σ K:=(c1y W).attr 154 _ (List.contains_iff_mem.mp (d0k hp).2) hS.inst hS.ns hl (d0k hp).1 h
theorem n1g(W:WOk G (hd.heap_1 G.w.params))(hS:IsSt σ n sy S)(hl:(q0k n sy S.hb).lookup name=none)(hf:(n1i 374).lookup name=some f)(h:R.Es args loc σ (p0t G m (.ref f) (.ref (n+1)) K)):MStop G m R name args loc K (.ref (n+1)) σ:=
 let⟨a,b⟩:=(c1y W).meth 374 _ (mem_of_lookup hf) hS.inst hS.ns hl
 ⟨_,a,b,h⟩
theorem n1h(W:WOk G (hd.heap_1 G.w.params))(hS:IsSy σ y ts fs)(hl:(z0r y).lookup name=none)(hf:(n1i 154).lookup name=some f)(h:R.Es args loc σ (p0t G m (.ref f) (.ref (y+1)) K)):MStop G m R name args loc K (.ref (y+1)) σ:=
 let⟨a,b⟩:=(c1y W).meth 154 _ (mem_of_lookup hf) hS.inst hS.ns hl
 ⟨_,a,b,h⟩
theorem j1r{i:Nat}{l:List AV}(hi:σ[i]?=some (.list l))(h:R.Es args loc σ (p0t G m (.builtin "list.append") (.ref i) K)):MStop G m R "append" args loc K (.ref i) σ:=⟨_,r0y hi,j0n,h⟩
theorem j1t{i:Nat}{l:List AV}(hi:σ[i]?=some (.list l))(h:R.Es args loc σ (p0t G m (.builtin "list.pop") (.ref i) K)):MStop G m R "pop" args loc K (.ref i) σ:=⟨_,b1f hi,j0n,h⟩
theorem j1s{i:Nat}{l:List (Int×AV)}(hi:σ[i]?=some (.dictI l))(h:R.Es args loc σ (p0t G m (.builtin "dict.get") (.ref i) K)):MStop G m R "get" args loc K (.ref i) σ:=⟨_,h0e hi F.slot_dict_get F.type_dict_get,j0n,h⟩
theorem f1f(hY:IsSy σ y ts fs)(h:R.Es args loc σ (p0t G m (.builtin "dict.get") (.ref (y+3)) K)):MStop G m R "get" args loc K (.ref (y+3)) σ:=⟨_,v0l hY.atoms F.slot_dict_get F.type_dict_get,j0n,h⟩
theorem f1g(hY:IsSy σ y ts fs)(h:R.Es args loc σ (p0t G m (.builtin "dict.get") (.ref (y+5)) K)):MStop G m R "get" args loc K (.ref (y+5)) σ:=⟨_,v0m hY.keys F.slot_dict_get F.type_dict_get,j0n,h⟩
end
local macro_rules | `(tactic| walk_at $s) => match [("*", "'repeat 'walk_at \"1 2PyProof.Rows.tacticWalk_at_ ! 2T.tacticRepeat_"), ("1", "'first =a $a '| '( '( 'fail_if_success =b $b '( $b '( 'with_reducible =c $c 'show '∀ &P 1null ': &AFlow '→ &Loc '→ &Sig '→ 'Prop 1M.prop 3M.arrow 3M.arrow 3M.arrow 2M.typeSpec 1null ', &u0q '_ 1M.hole =d $d &P 2null 2M.app '→ $d 3M.arrow 5M.forall 2T.show ! 2T.withReducible ! ') 3T.paren ! 2T.failIfSuccess ! ') 3T.paren ! 2T.failIfSuccess ! ') 3T.paren '; 'intro &P'z &h'z 2null 2T.intro 3null 1T.tacticSeq1Indented 1T.tacticSeq ') 3T.paren ! 2group '| 'walk_at =e $e \"sl 2PyProof.Rows.tacticWalk_at_ ! 2group '| '( '( $b '( $b '( $c 'show &OkK $d $d $d $d $d $d $d 7null =f $f 2M.app 2T.show ! 2T.withReducible ! ') 3T.paren ! 2T.failIfSuccess ! ') 3T.paren ! 2T.failIfSuccess ! ') 3T.paren '; '( $c $b '( $a '| '( 'show &OkK $d $d $d $d '( & 1hygieneInfo 2M.hygienicLParen =g $g $g &Stmt.While $d $d $d $d 4null =h $h 2M.app ':: $d 3«term_::_» ') 3M.paren ':: $d 3«term_::_» ') 3M.paren $d $d 7null 2M.app 2T.show ! ') 3T.paren ! 2group '| '( 'show &OkK $d $d $d $d $g $g &Stmt.For $d $d $d $d $d 5null 2M.app ':: $d 3«term_::_» ') 3M.paren ':: $d 3«term_::_» ') 3M.paren $d $d 7null 2M.app 2T.show ! ') 3T.paren ! 2group '| '( 'show &OkK $d $d $d $d $g $g &Stmt.Delete $d $d 2null =i $i 2M.app ':: $d 3«term_::_» ') 3M.paren ':: $d 3«term_::_» ') 3M.paren $d $d 7null 2M.app 2T.show ! ') 3T.paren ! 2group '| '( 'show &OkK $d $d $d $d $g $g &Stmt.Assign $d $g &Expr.ListComp $h 2M.app ') 3M.paren $d 3null 2M.app ':: $d 3«term_::_» ') 3M.paren ':: $d 3«term_::_» ') 3M.paren $d $d 7null 2M.app 2T.show ! ') 3T.paren ! 2group 4null 2T.first ! ') 3T.paren ! 2T.failIfSuccess ! 2T.withReducible ! ') 3T.paren '; $a '| 'refine =j $j &e1o &a1z $g 'by 'assumption 1T.assumption ! 2M.byTactic ') 3M.paren =k $k '⟨ '? '_ 2M.syntheticHole =l $l 1null =m $m '⟩ 3M.anonymousCtor =n $n 3null 2M.app 2T.refine ! 2group '| $j &e1o '[ 0null '] 3«term[_]» $k $n 3null =o $o 2M.app 2T.refine ! 2group 2null 2T.first 5null 1T.tacticSeq1Indented 1T.tacticSeq ') 3T.paren ! 2group '| '( '( $b '( $b '( $c 'show &OkT $d $d $d $d $d $d $g &eval $i 2M.app ') 3M.paren $d 8null 2M.app 2T.show ! 2T.withReducible ! ') 3T.paren ! 2T.failIfSuccess ! ') 3T.paren ! 2T.failIfSuccess ! ') 3T.paren '; $j &n1y $o 2M.app 2T.refine 3null 1T.tacticSeq1Indented 1T.tacticSeq ') 3T.paren ! 2group '| '( '( $b '( $b '( $c 'show &OkT $d $d $d $d $d $d $g &isTrue $d $d $d 3null 2M.app ') 3M.paren $d 8null 2M.app 2T.show ! =p $p 2T.withReducible ! ') 3T.paren ! 2T.failIfSuccess ! ') 3T.paren ! 2T.failIfSuccess ! ') 3T.paren '; $j &p1a $o 2M.app 2T.refine '; '( $c $b $p 2T.failIfSuccess ! 2T.withReducible ! ') 3T.paren 5null 1T.tacticSeq1Indented 1T.tacticSeq ') 3T.paren ! 2group '| '( '( $b '( $b '( $c 'show &o0q $f 2M.app 2T.show ! 2T.withReducible ! ') 3T.paren ! 2T.failIfSuccess ! ') 3T.paren ! 2T.failIfSuccess ! ') 3T.paren '; $j &m1d $o 2M.app 2T.refine 3null 1T.tacticSeq1Indented 1T.tacticSeq ') 3T.paren ! 2group '| $e \"op 2PyProof.Rows.tacticWalk_at_ ! 2group '| $c $j &m1g $m 2M.app 2T.refine ! 2T.withReducible ! 2group '| $c $j &m1f $m 2M.app 2T.refine ! 2T.withReducible ! 2group '| $j $n 2T.refine ! 2group '| '( $j &u0q.use $k $l 2null 2M.app 2T.refine ! ') 3T.paren ! 2group ;null 2T.first"), ("sl", "'first =a $a '| '( '( 'fail_if_success =b $b '( $b '( 'with_reducible =c $c 'show &OkT '_ 1M.hole =d $d $d $d $d $d $d '( & 1hygieneInfo 2M.hygienicLParen =e $e &eval $e &Expr.Subscript =f $f $d $e &Expr.Slice =g $g $e &some $d 1null 2M.app ') 3M.paren =h $h &none &none $d 4null 2M.app ') 3M.paren $d 3null 2M.app ') 3M.paren $d 2null 2M.app ') 3M.paren $d 8null 2M.app 2T.show ! 2T.withReducible ! ') 3T.paren ! 2T.failIfSuccess ! ') 3T.paren ! 2T.failIfSuccess ! ') 3T.paren '; 'refine =i $i &g1v '? '_ 2M.syntheticHole =j $j 1null =k $k 2M.app 2T.refine 3null 1T.tacticSeq1Indented 1T.tacticSeq ') 3T.paren ! 2group '| '( '( $b '( $b '( $c 'show &OkT $d $d $d $d $d $d $e &eval $e $f $e &Expr.Attribute $d $d $d 3null 2M.app ') 3M.paren $e $g &none $h &none $d 4null 2M.app ') 3M.paren =l $l $d 3null 2M.app ') 3M.paren $d 2null 2M.app ') 3M.paren $d 8null 2M.app 2T.show ! 2T.withReducible ! ') 3T.paren ! 2T.failIfSuccess ! ') 3T.paren ! 2T.failIfSuccess ! ') 3T.paren '; $i &d1j $k 2M.app 2T.refine 3null 1T.tacticSeq1Indented 1T.tacticSeq ') 3T.paren ! 2group '| '( '( $b '( $b '( $c 'show &OkT $d $d $d $d $d $d $e &eval $e $f $d $l $d 3null 2M.app ') 3M.paren $d 2null 2M.app ') 3M.paren $d 8null 2M.app 2T.show ! 2T.withReducible ! ') 3T.paren ! 2T.failIfSuccess ! ') 3T.paren ! 2T.failIfSuccess ! ') 3T.paren '; $i &c1b $k 2M.app 2T.refine 3null 1T.tacticSeq1Indented 1T.tacticSeq ') 3T.paren ! 2group '| '( '( $b '( $b '( $c 'show &OkT $d $d $d $d $d $d $e &eval $e &Expr.ListComp $d $d $d $d 4null 2M.app ') 3M.paren =m $m $d 2null 2M.app ') 3M.paren $d 8null 2M.app 2T.show ! 2T.withReducible ! ') 3T.paren ! 2T.failIfSuccess ! ') 3T.paren ! 2T.failIfSuccess ! ') 3T.paren '; $i &g1u $k 2M.app 2T.refine 3null 1T.tacticSeq1Indented 1T.tacticSeq ') 3T.paren ! 2group '| '( '( $b '( $b '( $c 'show &OkK $d $d $d $d $e $e &Stmt.Delete $d $d 2null 2M.app ':: $d 3«term_::_» ') 3M.paren ':: $d 3«term_::_» ') 3M.paren $d $d 7null 2M.app 2T.show ! 2T.withReducible ! ') 3T.paren ! 2T.failIfSuccess ! ') 3T.paren ! 2T.failIfSuccess ! ') 3T.paren '; $i &w0a $k 2M.app 2T.refine 3null 1T.tacticSeq1Indented 1T.tacticSeq ') 3T.paren ! 2group '| '( '( $b '( $b '( $c 'show &OkK $d $d $d $d $e $e &Stmt.Assign $d $m $d 3null 2M.app ':: $d 3«term_::_» ') 3M.paren ':: $d 3«term_::_» ') 3M.paren $d $d 7null 2M.app 2T.show ! 2T.withReducible ! ') 3T.paren ! 2T.failIfSuccess ! ') 3T.paren ! 2T.failIfSuccess ! ') 3T.paren '; $a '| $i &h1f $k 2M.app 2T.refine ! 2group '| $i &f0w $e 'by 'rfl 1T.tacticRfl ! 2M.byTactic ') 3M.paren =n $n $n $j 3null 2M.app 2T.refine ! 2group '| $i &z0u $n $j 2null 2M.app 2T.refine ! 2group 3null 2T.first 3null 1T.tacticSeq1Indented 1T.tacticSeq ') 3T.paren ! 2group 6null 2T.first"), ("op", "'first =a $a '| '( '( 'fail_if_success =b $b '( $b '( 'with_reducible =c $c 'show &a0b '_ 1M.hole =d $d $d '( & 1hygieneInfo 2M.hygienicLParen =e $e &Value.builtin \"len 1null 2M.app ') 3M.paren $d $d $d 6null 2M.app 2T.show ! 2T.withReducible ! ') 3T.paren ! 2T.failIfSuccess ! ') 3T.paren ! 2T.failIfSuccess ! ') 3T.paren '; $a '| 'refine =f $f &g0s $e 'by 'walk_at \"sg 2PyProof.Rows.tacticWalk_at_ ! 2M.byTactic ') 3M.paren '? '_ 2M.syntheticHole =g $g 2null =h $h 2M.app 2T.refine ! 2group '| $f &b1b $h 2M.app 2T.refine ! 2group '| $f &l0y $h 2M.app 2T.refine ! 2group '| $f &b1c $g 1null =i $i 2M.app 2T.refine ! 2group 4null 2T.first 3null 1T.tacticSeq1Indented 1T.tacticSeq ') 3T.paren ! 2group '| '( '( $b '( $b '( $c 'show &MStop =j $j $d $d $d $e &PySem.Str.ofString =k $k \"append 1null 2M.app ') 3M.paren $d $d $d $d $d 9null 2M.app 2T.show ! 2T.withReducible ! ') 3T.paren ! 2T.failIfSuccess ! ') 3T.paren ! 2T.failIfSuccess ! ') 3T.paren '; $f &j1r $h 2M.app 2T.refine 3null 1T.tacticSeq1Indented 1T.tacticSeq ') 3T.paren ! 2group '| '( '( $b '( $b '( $c 'show $j $d $d $d $e $k \"pop 1null 2M.app ') 3M.paren $d $d $d $d $d 9null 2M.app 2T.show ! 2T.withReducible ! ') 3T.paren ! 2T.failIfSuccess ! ') 3T.paren ! 2T.failIfSuccess ! ') 3T.paren '; $f &j1t $h 2M.app 2T.refine 3null 1T.tacticSeq1Indented 1T.tacticSeq ') 3T.paren ! 2group '| $c '( $a '| $f &v0e $i 2M.app 2T.refine ! 2group '| $f &m1c $e 'by 'assumption 1T.assumption ! 2M.byTactic ') 3M.paren =l $l $l $g 3null 2M.app 2T.refine ! 2group '| $f &l1q $l $l $e 'by 'with_unfolding_all 'rfl 1T.tacticRfl ! 2T.withUnfoldingAll =m $m ! 2M.byTactic ') 3M.paren =n $n $n $g 5null =o $o 2M.app 2T.refine ! 2group '| $f &l1r $o 2M.app 2T.refine ! 2group '| $f &n1g $o 2M.app 2T.refine ! 2group '| $f &n1h $o 2M.app 2T.refine ! 2group '| $f &j1s $l $g 2null =p $p 2M.app 2T.refine ! 2group '| $f &f1f $p 2M.app 2T.refine ! 2group '| $f &f1g $p 2M.app 2T.refine ! 2group '| $f &b0r $l $e 'by 'decide 0null 1T.optConfig 2T.decide ! 2M.byTactic ') 3M.paren $n $g $e 'by 'intro $d $d 2null 2T.intro '; $m 3null 1T.tacticSeq1Indented 1T.tacticSeq 2M.byTactic ') 3M.paren 5null 2M.app 2T.refine ! 2group :null 2T.first ! ') 3T.paren ! 2T.withReducible ! 2group 4null 2T.first"), ("sg", "'( 'first =a $a '| 'assumption 1T.assumption ! =b $b 2group '| 'exact =c $c &IsSt.heap '( & 1hygieneInfo 2M.hygienicLParen =d $d 'by $b 2M.byTactic ') 3M.paren 1null =e $e 2M.app 2T.exact ! 2group '| $c &IsSt.stack $e 2M.app 2T.exact ! 2group '| $c &IsSt.trail $e 2M.app 2T.exact ! 2group '| $c &a0d $e 2M.app 2T.exact ! 2group '| $c &d0f 2T.exact ! 2group '| '( $a '| 'refine =f $f &a0j '? '_ 2M.syntheticHole =g $g 1null 2M.app 2T.refine ! 2group '| $f &a0c $g $d 'by $a '| 'omega 0null 1T.optConfig =h $h 2T.omega ! 2group '| 'decide $h 2T.decide ! 2group 2null 2T.first ! 2M.byTactic ') 3M.paren 2null 2M.app 2T.refine ! 2group 2null 2T.first ! ') 3T.paren '; 'walk_at \"sg 2PyProof.Rows.tacticWalk_at_ 3null 1T.tacticSeq1Indented 1T.tacticSeq 2group 7null 2T.first ! ') 3T.paren")].lookup s.getString with
 |some t=>pure (mkS [] t)
 |none=>Lean.Macro.throwUnsupported
section
variable {G:Gx} {m:Nat} {cenv:Env} {loc:Loc} {σ:Sig} {n sy:Nat} {S:Sto}
theorem b0d(W:WOk G (hd.heap_1 G.w.params)){t v:Int}{Q:AV→Sig→Prop}(h:Q (.bool (t==0||t==1)) σ):a0b G (m+1) (.ref 432) [.tup [.int t,.int v]] σ Q:=by
 refine a0x W (by k_is) (by k_is) (w0m (p:="cell") λv=>rfl) rfl rfl (by decide) (by decide) rfl rfl rfl (λL qq fu co hcl=>?_)
 walk_at"*"
 refine a0h (λhb=>?_) (λhb=>?_)
 ·walk_at"*"
  rw[hb]at h;exact Fin.same hcl trivial h
 ·walk_at"*"
  rw[hb]at h;exact Fin.same hcl trivial h
noncomputable def a0i(S:Sto):Nat→Cel→Option Cel
 |0,_=>none
 |k+1,c=>
  if c.1=0 then(if 0≤c.2 then match S.heap[c.2.toNat]? with|some d=>if d=c then some c else a0i S k d|none=>none else none)
  else if c.1=1 then(if 0≤c.2 then match S.stack[c.2.toNat]? with|some d=>if d=c then some c else a0i S k d|none=>none else none)
  else some c
theorem eDr{S:Sto}{k:Nat}{c:Cel}:a0i S (k+1) c=if c.1=0 then(if 0≤c.2 then match S.heap[c.2.toNat]? with|some d=>if d=c then some c else a0i S k d|none=>none else none)
  else if c.1=1 then(if 0≤c.2 then match S.stack[c.2.toNat]? with|some d=>if d=c then some c else a0i S k d|none=>none else none)
  else some c:=rfl
theorem b0g(W:WOk G (hd.heap_1 G.w.params))(hS:IsSt σ n sy S){k:Nat}{c d:Cel}{Q:AV→Sig→Prop}(hd:a0i S k c=some d)(h:Q d.av σ):a0b G (m+1) (.ref 230) [.ref (n+1),c.av] σ Q:=by
 refine a0x W (by k_is) (by k_is) (e0x (p:="self") (q:="cell") λv u=>rfl) rfl rfl (by decide) (by decide) rfl rfl rfl (λL qq fu co hcl=>?_)
 walk_at"*"
 refine d0s (λm l σ'=>σ'=σ∧∃c,l=([("self",.ref (n+1)),("cell",Cel.av c)]:Loc)∧a0i S m c=some d) k ⟨_,Sub.refl _,rfl,c,rfl,hd⟩ λk l σ' ⟨e1,c,e2,hd⟩=>?_
 subst e1 e2
 walk_at"*"
 obtain _|k:=k
 ·exact b0n hd
 simp only[eDr]at hd
 refine a0h (λh0=>?_) (λh0=>?_)
 ·simp only[beq_iff_eq]at h0
  rw[if_pos h0]at hd
  split at hd<;>rename_i h1
  ·split at hd<;>rename_i h2
   ·walk_at"*"
    refine a0s hS.heap h1 h2 ?_
    walk_at"*"
    refine a0h (λh3=>?_) (λh3=>?_)
    ·rw[if_pos (of_decide_eq_true h3)]at hd
     cases hd
     walk_at"*"
     exact Fin.same hcl (by trivial) h
    ·rw[if_neg (of_decide_eq_false h3)]at hd
     walk_at"*"
     exact⟨k,_,by exact LA [_] [] 7352321 rfl,Sub.cons rfl (Sub.cons rfl (Sub.nil _)),rfl,_,rfl,hd⟩
   ·exact b0n hd
  ·exact b0n hd
 ·simp only[beq_eq_false_iff_ne,ne_eq]at h0
  rw[if_neg h0]at hd
  walk_at"*"
  refine a0h (λh0'=>?_) (λh0'=>?_)
  ·simp only[beq_iff_eq]at h0'
   rw[if_pos h0']at hd
   split at hd<;>rename_i h1
   ·split at hd<;>rename_i h2
    ·walk_at"*"
     refine a0s hS.stack h1 h2 ?_
     walk_at"*"
     refine a0h (λh3=>?_) (λh3=>?_)
     ·rw[if_pos (of_decide_eq_true h3)]at hd
      cases hd
      walk_at"*"
      exact Fin.same hcl (by trivial) h
     ·rw[if_neg (of_decide_eq_false h3)]at hd
      walk_at"*"
      exact⟨k,_,by exact LA [_] [] 7352321 rfl,Sub.cons rfl (Sub.cons rfl (Sub.nil _)),rfl,_,rfl,hd⟩
    ·exact b0n hd
   ·exact b0n hd
  ·simp only[beq_eq_false_iff_ne,ne_eq]at h0'
   rw[if_neg h0']at hd
   cases hd
   walk_at"*"
   exact Fin.same hcl (by trivial) h
end
section
variable {G:Gx} {m:Nat} {cenv:Env} {loc:Loc} {σ:Sig} {n sy:Nat} {S:Sto}
theorem f1o(W:WOk G (hd.heap_1 G.w.params))(hS:IsSt σ n sy S){a b:Int}(hz:S.heap.length<100000){Q:AV→Sig→Prop}(h:Q (.int S.heap.length) (putSt σ n {S with heap:=S.heap++[(a,b)]})):a0b G (m+1) (.ref 202) [.ref (n+1),.tup [.int a,.int b]] σ Q:=by
 refine a0x W (by k_is) (by k_is) (e0x (p:="self") (q:="cell") λv u=>rfl) rfl rfl (by decide) (by decide) rfl rfl rfl (λL qq fu co hcl=>?_)
 walk_at"*"
 refine a0h (λh1=>?_) (λh1=>?_)
 ·simp only[decide_eq_true_eq]at h1;omega
 walk_at"*"
 refine e0v hS.heap (by exact LA [_] [] 7253556466966728795324456 rfl hz) ?_
 walk_at"*"
 exact Fin.st hcl rfl ((Same.refl _ _).set (by exact .inl (.head _))) hS.setHeap trivial h
theorem f0f(W:WOk G (hd.heap_1 G.w.params))(hS:IsSt σ n sy S)(hz:S.heap.length<100000){Q:AV→Sig→Prop}(h:Q (Cel.av (0,S.heap.length)) (putSt σ n {S with heap:=S.heap++[(0,(S.heap.length:Int))]})):a0b G (m+2) (.ref 209) [.ref (n+1)] σ Q:=by
 refine a0x W (by k_is) (by k_is) (w0m (p:="self") λv=>rfl) rfl rfl (by decide) (by decide) rfl rfl rfl (λL qq fu co hcl=>?_)
 walk_at"*"
 refine f1o W hS hz ?_
 have hS':IsSt (putSt σ n {S with heap:=S.heap++[(0,(S.heap.length:Int))]}) n sy _:=hS.put rfl
 walk_at"*"
 exact Fin.st hcl rfl ((Same.refl _ _).put (by exact .head _) (by exact .tail _ (.head _)) (by exact .tail _ (.tail _ (.head _)))) hS' (by trivial) h
theorem o0b(W:WOk G (hd.heap_1 G.w.params))(hS:IsSt σ n sy S){a:Int}{d:Cel}(h0:0≤a)(hd:S.heap[a.toNat]?=some d){Q:AV→Sig→Prop}(h:Q (.bool (decide (d=(0,a)))) σ):a0b G (m+1) (.ref 237) [.ref (n+1),.tup [.int 0,.int a]] σ Q:=by
 refine a0x W (by k_is) (by k_is) (e0x (p:="self") (q:="cell") λv u=>rfl) rfl rfl (by decide) (by decide) rfl rfl rfl (λL qq fu co hcl=>?_)
 walk_at"*"
 refine a0s hS.heap h0 hd ?_
 walk_at"*"
 exact Fin.same hcl trivial h
end
section
variable {G:Gx} {m:Nat} {cenv:Env} {loc:Loc} {σ:Sig} {n sy:Nat} {S:Sto}
theorem a0p(W:WOk G (hd.heap_1 G.w.params)){c:Cel}{x:Nat}{Q:AV→Sig→Prop}(h:Q (.bool (c.1==2||c.1==3)) σ):a0b G (m+1) (.ref 286) [.ref x,c.av] σ Q:=by
 refine a0x W (by k_is) (by k_is) (e0x (p:="self") (q:="cell") λv u=>rfl) rfl rfl (by decide) (by decide) rfl rfl rfl (λL qq fu co hcl=>?_)
 walk_at"*"
 refine a0h (λhb=>?_) (λhb=>?_)
 ·walk_at"*"
  rw[hb]at h;exact Fin.same hcl trivial h
 ·walk_at"*"
  rw[hb]at h;exact Fin.same hcl trivial h
theorem g0g(W:WOk G (hd.heap_1 G.w.params)){c:Cel}{x:Nat}{Q:AV→Sig→Prop}(h:Q (.int (if c.1=3 then c.2 else c.2+1)) σ):a0b G (m+1) (.ref 307) [.ref x,c.av] σ Q:=by
 refine a0x W (by k_is) (by k_is) (e0x (p:="self") (q:="cell") λv u=>rfl) rfl rfl (by decide) (by decide) rfl rfl rfl (λL qq fu co hcl=>?_)
 walk_at"*"
 refine a0h (λh1=>?_) (λh1=>?_)
 ·rw[if_pos (beq_iff_eq.mp h1)]at h
  walk_at"*"
  exact Fin.same hcl trivial h
 ·rw[if_neg (by simpa using h1)]at h
  walk_at"*"
  exact Fin.same hcl trivial h
noncomputable def o0u(f:Nat)(k:Nat):List Cel:=(List.range k).map λ(i:Nat)=>((0:Int),((f+i:Nat):Int))
theorem z0a(f k:Nat):o0u f (k+1)=o0u f k++[(0,((f+k:Nat):Int))]:=by simp[o0u,List.range_succ]
theorem d0z(f k:Nat):(o0u f k).length=k:=by simp[o0u]
theorem n0e(W:WOk G (hd.heap_1 G.w.params))(hS:IsSt σ n sy S){k:Nat}(hz:S.heap.length+k≤100000){Q:AV→Sig→Prop}(h:Q (.int S.heap.length) (putSt σ n {S with heap:=S.heap++o0u S.heap.length k})):a0b G (m+1) (.ref 216) [.ref (n+1),.int k] σ Q:=by
 refine a0x W (by k_is) (by k_is) (e0x (p:="self") (q:="count") λv u=>rfl) rfl rfl (by decide) (by decide) rfl rfl rfl (λL qq fu co hcl=>?_)
 walk_at"*"
 refine a0h (λh1=>?_) (λh1=>?_)
 ·simp only[decide_eq_true_eq]at h1;omega
 walk_at"*"
 refine h0h ?_
 walk_at"*"
 refine e0s ⟨_,_,f0u (by exact LA [_,_] [] 7427641823290822994001145864 rfl hz),λi l σ'=>l=([("self",.ref (n+1)),("count",.int k),("first",.int S.heap.length)]:Loc)∧Same [n+2,n+3,n+4] σ σ'∧IsSt σ' n sy {S with heap:=S.heap++o0u S.heap.length i},⟨_,?_,rfl,Same.refl _ _,by simpa[o0u]using hS⟩,λ_ _ _ _ _=>trivial,?_,?_⟩
 ·exact Sub.cons rfl (Sub.cons rfl (Sub.cons rfl (Sub.nil _)))
 ·intro i y l σ' hy z0;refine b0l z0 λel hs hS'=>?_;clear z0
  subst el
  have hi:i<k∧y=.int i:=by
   rw[List.getElem?_map]at hy
   refine a0a (Option.map_eq_some_iff.mp hy) λz hz z0=>?_;subst z0
   obtain⟨h1,h2⟩:=List.getElem?_eq_some_iff.mp hz
   simp at h1 h2;subst h2;exact⟨h1,rfl⟩
  obtain⟨hi,rfl⟩:=hi
  intro P hP
  refine e0q (by rfl) ?_
  walk_at"*"
  refine e0v hS'.heap (by simp[d0z];exact LA [_,_,_] [] 7975369680605415517269478073919614984 rfl hz hi) ?_
  walk_at"*"
  refine⟨_,Sub.cons rfl (Sub.cons rfl (Sub.cons rfl (Sub.nil _))),rfl,hs.set (by exact .inl (.head _)),?_⟩
  have:=hS'.setHeap (H:=S.heap++o0u S.heap.length i++[(0,(S.heap.length:Int)+i)])
  rw[z0a,←List.append_assoc,Int.natCast_add];exact this
 ·intro l σ' z0;refine b0l z0 λel hs hS'=>?_;clear z0
  subst el
  walk_at"*"
  rw[List.length_map,List.length_range]at hS'
  exact Fin.st hcl rfl hs hS' trivial h
end
section
variable {G:Gx} {m:Nat} {cenv:Env} {loc:Loc} {σ:Sig} {n y:Nat} {S:Sto} {ts:List PySem.Str} {fs:List Cel}
theorem s0o(W:WOk G (hd.heap_1 G.w.params))(hY:IsSy σ y ts fs){f:Int}{a k:Int}(h0:0≤f)(hf:fs[f.toNat]?=some (a,k)){Q:AV→Sig→Prop}(h:Q (.int k) σ):a0b G (m+1) (.ref 123) [.ref (y+1),.int f] σ Q:=by
 refine a0x W (by k_is) (by k_is) (e0x (p:="self") (q:="functor") λv u=>rfl) rfl rfl (by decide) (by decide) rfl rfl rfl (λL qq fu co hcl=>?_)
 walk_at"*"
 refine a0s hY.funs h0 hf ?_
 walk_at"*"
 exact Fin.same hcl trivial h
theorem i0y(W:WOk G (hd.heap_1 G.w.params))(hS:IsSt σ n (y+1) S)(hY:IsSy σ y ts fs){t p k:Int}(hw:(t=3∧k=2)∨(t=2∧0≤p∧∃f a,S.heap[p.toNat]?=some (6,f)∧0≤f∧fs[f.toNat]?=some (a,k))){Q:AV→Sig→Prop}(h:Q (.int k) σ):a0b G (m+2) (.ref 300) [.ref (n+1),.tup [.int t,.int p]] σ Q:=by
 refine a0x W (by k_is) (by k_is) (e0x (p:="self") (q:="cell") λv u=>rfl) rfl rfl (by decide) (by decide) rfl rfl rfl (λL qq fu co hcl=>?_)
 walk_at"*"
 rcases hw with⟨rfl,rfl⟩|⟨rfl,hp,f,a,hf,hf0,hfs⟩
 ·walk_at"*"
  exact Fin.same hcl trivial h
 ·walk_at"*"
  refine a0s hS.heap hp hf ?_
  walk_at"*"
  refine s0o W hY hf0 hfs ?_
  walk_at"*"
  exact Fin.same hcl trivial h
theorem f0r(W:WOk G (hd.heap_1 G.w.params))(hS:IsSt σ n (y+1) S){t p f:Int}(hw:(t=3∧f=0)∨(t=2∧0≤p∧∃u,S.heap[p.toNat]?=some (u,f))){Q:AV→Sig→Prop}(h:Q (.int f) σ):a0b G (m+1) (.ref 293) [.ref (n+1),.tup [.int t,.int p]] σ Q:=by
 refine a0x W (by k_is) (by k_is) (e0x (p:="self") (q:="cell") λv u=>rfl) rfl rfl (by decide) (by decide) rfl rfl rfl (λL qq fu co hcl=>?_)
 walk_at"*"
 rcases hw with⟨rfl,rfl⟩|⟨rfl,hp,u,hf⟩
 ·walk_at"*"
  exact Fin.same hcl trivial h
 ·walk_at"*"
  refine a0s hS.heap hp hf ?_
  walk_at"*"
  exact Fin.same hcl trivial h
noncomputable def blk(f:Int)(a k:Nat):List Cel:=if f=0 then o0u a 2 else(6,f)::o0u (a+1) k
noncomputable def a0f(f:Int)(a:Nat):Cel:=if f=0 then(3,a)else(2,a)
theorem u0d(H:List Cel)(k:Nat)(c:Cel):(H++o0u H.length (1+k)).set H.length c=H++c::o0u (H.length+1) k:=by
 rw[List.set_append_right _ _ (Nat.le_refl _),Nat.sub_self]
 congr 1
 rw[Nat.add_comm 1 k]
 simp only[o0u,List.range_succ_eq_map,List.map_cons,List.map_map,List.set_cons_zero]
 congr 1
 refine List.map_congr_left λi _=>?_
 simp only[Function.comp];congr 1;exact LA [_,_] [] 1405559116381827653 rfl
theorem e0o(W:WOk G (hd.heap_1 G.w.params))(hS:IsSt σ n (y+1) S)(hY:IsSy σ y ts fs)(hd:y+5<n){f a:Int}{k:Nat}(hf:f=0∨0<f∧fs[f.toNat]?=some (a,(k:Int)))(hz:S.heap.length+2+k≤100000){Q:AV→Sig→Prop}
  (h:Q (a0f f S.heap.length).av (putSt σ n {S with heap:=S.heap++blk f S.heap.length k})):a0b G (m+2) (.ref 321) [.ref (n+1),.int f] σ Q:=by
 refine a0x W (by k_is) (by k_is) (e0x (p:="self") (q:="f") λv u=>rfl) rfl rfl (by decide) (by decide) rfl rfl rfl (λL qq fu co hcl=>?_)
 walk_at"*"
 refine a0h (λh1=>?_) (λh1=>?_)
 ·simp only[beq_iff_eq]at h1
  subst h1
  walk_at"*"
  refine n0e W hS (k:=2) (by exact LA [_,_] [] 6646141685193263293699578987180077064 rfl hz) ?_
  walk_at"*"
  exact Fin.st hcl rfl ((Same.refl _ _).put (by exact .head _) (by exact .tail _ (.head _)) (by exact .tail _ (.tail _ (.head _)))) (hS.put rfl) (by trivial) h
 ·have h1':f≠0:=by simpa using h1
  refine a0m (hf.resolve_left h1') λhf0 hfs=>?_
  walk_at"*"
  refine s0o W hY (by omega) hfs ?_
  walk_at"*"
  rw[show(1:Int)+k=((1+k:Nat):Int)by exact LA [_] [] 254007647621 rfl]
  refine n0e W hS (by exact LA [_,_] [] 212676533883306692056985085866125176840 rfl hz) ?_
  have hS':IsSt (putSt σ n {S with heap:=S.heap++o0u S.heap.length (1+k)}) n (y+1) _:=hS.put rfl
  walk_at"*"
  refine b0s hS'.heap (by exact LA [_] [] 18627 rfl) (by simp[d0z];exact LA [_,_] [] 55229003727428 rfl) ?_
  walk_at"*"
  have hS'':=hS'.setHeap (H:=(S.heap++o0u S.heap.length (1+k)).set S.heap.length (6,f))
  rw[u0d]at hS''
  rw[Int.toNat_natCast,u0d]
  simp only[blk,a0f,if_neg h1']at h
  exact Fin.st hcl rfl (((Same.refl _ _).put (by exact .head _) (by exact .tail _ (.head _)) (by exact .tail _ (.tail _ (.head _)))).set (by exact .inl (.head _))) hS'' (by trivial) h
end
section
variable {G:Gx} {m:Nat} {cenv:Env} {loc:Loc} {σ:Sig} {n y:Nat} {S:Sto} {ts:List PySem.Str} {fs:List Cel} {sy:Nat}
noncomputable def g0h(S:Sto)(p:Int)(v:Cel):Sto:={S with heap:=S.heap.set p.toNat v,trail:=if p<S.hb then S.trail++[p]else S.trail}
theorem n0o(W:WOk G (hd.heap_1 G.w.params))(hS:IsSt σ n sy S){p:Int}{v:Cel}(h0:0≤p)(hp:p<S.heap.length)(ht:S.trail.length<1000){Q:AV→Sig→Prop}(h:Q .none (putSt σ n (g0h S p v))):a0b G (m+1) (.ref 244) [.ref (n+1),.tup [.int 0,.int p],v.av] σ Q:=by
 refine a0x W (by k_is) (by k_is) (e0y (p:="self") (q:="cell") (o:="value") λv u t=>rfl) rfl rfl (by decide) (by decide) rfl rfl rfl (λL qq fu co hcl=>?_)
 walk_at"*"
 refine b0s hS.heap h0 hp ?_
 have hS':=hS.setHeap (H:=S.heap.set p.toNat v)
 walk_at"*"
 refine a0h (λh2=>?_) (λh2=>?_)
 ·walk_at"*"
  refine s0n hS'.trail (by show S.trail.length<1000000;exact LA [_] [] 7253556466964529772068904 rfl ht) ?_
  have hS'':=hS'.setTrail (H:=S.trail++[p])
  walk_at"*"
  have e:g0h S p v={S with heap:=S.heap.set p.toNat v,trail:=S.trail++[p]}:=by unfold g0h;rw[if_pos (of_decide_eq_true h2)]
  rw[e]at h
  exact Fin.st hcl rfl (((Same.refl _ _).set (by exact .inl (.head _))).set (by exact .inl (.tail _ (.tail _ (.head _))))) hS'' trivial h
 ·walk_at"*"
  have e:g0h S p v={S with heap:=S.heap.set p.toNat v}:=by unfold g0h;rw[if_neg (of_decide_eq_false h2)]
  rw[e]at h
  exact Fin.st hcl rfl ((Same.refl _ _).set (by exact .inl (.head _))) hS' trivial h
theorem z0y(W:WOk G (hd.heap_1 G.w.params))(hS:IsSt σ n sy S){p:Int}{v:Cel}(h0:0≤p)(hp:p<S.stack.length){Q:AV→Sig→Prop}(h:Q .none (putSt σ n {S with stack:=S.stack.set p.toNat v})):a0b G (m+1) (.ref 244) [.ref (n+1),.tup [.int 1,.int p],v.av] σ Q:=by
 refine a0x W (by k_is) (by k_is) (e0y (p:="self") (q:="cell") (o:="value") λv u t=>rfl) rfl rfl (by decide) (by decide) rfl rfl rfl (λL qq fu co hcl=>?_)
 walk_at"*"
 refine b0s hS.stack h0 hp ?_
 have hS':=hS.setStack (H:=S.stack.set p.toNat v)
 walk_at"*"
 refine a0h (λh2=>?_) (λh2=>?_)
 ·have:=of_decide_eq_true h2;omega
 walk_at"*"
 exact Fin.st hcl rfl ((Same.refl _ _).set (by exact .inl (.tail _ (.head _)))) hS' trivial h
theorem o0z(W:WOk G (hd.heap_1 G.w.params))(hS:IsSt σ n sy S){p q:Int}(hne:p≠q)(h0:0≤p)(hp:p<S.heap.length)(h0':0≤q)(hq:q<S.heap.length)(ht:S.trail.length<1000){Q:AV→Sig→Prop}
  (h:Q .none (putSt σ n (if p<q then g0h S q (0,p)else g0h S p (0,q)))):a0b G (m+2) (.ref 251) [.ref (n+1),.tup [.int 0,.int p],.tup [.int 0,.int q]] σ Q:=by
 refine a0x W (by k_is) (by k_is) (e0y (p:="self") (q:="c1") (o:="c2") λv u t=>rfl) rfl rfl (by decide) (by decide) rfl rfl rfl (λL qq fu co hcl=>?_)
 walk_at"*"
 refine a0h (λh1=>?_) (λh1=>?_)
 ·have:=of_decide_eq_true h1;simp at this;exact absurd this hne
 walk_at"*"
 refine a0h (λh2=>?_) (λh2=>?_)
 ·rw[if_pos (of_decide_eq_true h2)]at h
  walk_at"*"
  refine n0o (v:=(0,p)) W hS h0' hq ht ?_
  walk_at"*"
  exact Fin.st hcl rfl ((Same.refl _ _).put (by exact .head _) (by exact .tail _ (.head _)) (by exact .tail _ (.tail _ (.head _)))) (hS.put rfl) trivial h
 ·rw[if_neg (of_decide_eq_false h2)]at h
  walk_at"*"
  refine n0o (v:=(0,q)) W hS h0 hp ht ?_
  walk_at"*"
  exact Fin.st hcl rfl ((Same.refl _ _).put (by exact .head _) (by exact .tail _ (.head _)) (by exact .tail _ (.tail _ (.head _)))) (hS.put rfl) trivial h
theorem c0j(W:WOk G (hd.heap_1 G.w.params))(hS:IsSt σ n sy S){k:Nat}{c d:Cel}{Q:AV→Sig→Prop}(hd:a0i S k c=some d)(h1:d.1≠1)(h:Q d.av σ):a0b G (m+2) (.ref 258) [.ref (n+1),c.av] σ Q:=by
 refine a0x W (by k_is) (by k_is) (e0x (p:="self") (q:="cell") λv u=>rfl) rfl rfl (by decide) (by decide) rfl rfl rfl (λL qq fu co hcl=>?_)
 walk_at"*"
 refine b0g (c:=c) W hS hd ?_
 walk_at"*"
 refine a0h (λh2=>?_) (λh2=>?_)
 ·exact absurd (beq_iff_eq.mp h2) h1
 walk_at"*"
 exact Fin.same hcl (by trivial) h
theorem i0j(W:WOk G (hd.heap_1 G.w.params))(hS:IsSt σ n sy S){k:Nat}{c:Cel}{q:Int}{Q:AV→Sig→Prop}(hd:a0i S k c=some (1,q))(h0:0≤q)(hq:q<S.stack.length)(hz:S.heap.length<100000)
  (h:Q (Cel.av (0,S.heap.length)) (putSt σ n {S with heap:=S.heap++[(0,(S.heap.length:Int))],stack:=S.stack.set q.toNat (0,S.heap.length)})):a0b G (m+3) (.ref 258) [.ref (n+1),c.av] σ Q:=by
 refine a0x W (by k_is) (by k_is) (e0x (p:="self") (q:="cell") λv u=>rfl) rfl rfl (by decide) (by decide) rfl rfl rfl (λL qq fu co hcl=>?_)
 walk_at"*"
 refine b0g (c:=c) W hS hd ?_
 walk_at"*"
 refine f0f W hS hz ?_
 have hS':IsSt (putSt σ n {S with heap:=S.heap++[(0,(S.heap.length:Int))]}) n sy _:=hS.put rfl
 walk_at"*"
 refine z0y (v:=(0,(S.heap.length:Int))) W hS' h0 hq ?_
 have hS'':=hS'.put (S':={S with heap:=S.heap++[(0,(S.heap.length:Int))],stack:=S.stack.set q.toNat (0,S.heap.length)}) rfl
 walk_at"*"
 exact Fin.st hcl rfl (((Same.refl _ _).put (by exact .head _) (by exact .tail _ (.head _)) (by exact .tail _ (.tail _ (.head _)))).put (by exact .head _) (by exact .tail _ (.head _)) (by exact .tail _ (.tail _ (.head _)))) hS'' (by trivial) h
theorem y0i(W:WOk G (hd.heap_1 G.w.params))(hS:IsSt σ n sy S){Q:AV→Sig→Prop}(h:Q (.int S.trail.length) σ):a0b G (m+1) (.ref 265) [.ref (n+1)] σ Q:=by
 refine a0x W (by k_is) (by k_is) (w0m (p:="self") λv=>rfl) rfl rfl (by decide) (by decide) rfl rfl rfl (λL qq fu co hcl=>?_)
 walk_at"*"
 exact Fin.same hcl trivial h
theorem b1j{i:Nat}{H:List Int}{a:Int}{Q:AV→Sig→Prop}(hi:σ[i]?=some (.list ((H++[a]).map AV.int)))(h:Q (.int a) (σ.set i (.list (H.map AV.int)))):a0b G m (.builtin "list.pop") [.ref i] σ Q:=
 k1t (l:=H.map AV.int) (x:=.int a) (by simpa using hi) h
noncomputable def o0n(H:List Cel)(es:List Int):List Cel:=es.foldr (λe h=>h.set e.toNat (0,e)) H
theorem g0t(H:List Cel): ∀es,(o0n H es).length=H.length
 |[]=>rfl
 |e::es=>by show((o0n H es).set _ _).length=_;rw[List.length_set,g0t H es]
theorem v0t(W:WOk G (hd.heap_1 G.w.params))(hS:IsSt σ n sy S){t es:List Int}(ht:S.trail=t++es)(hes: ∀e∈es,0≤e∧e<S.heap.length){Q:AV→Sig→Prop}(h:Q .none (putSt σ n {S with heap:=o0n S.heap es,trail:=t})):a0b G (m+1) (.ref 272) [.ref (n+1),.int t.length] σ Q:=by
 refine a0x W (by k_is) (by k_is) (e0x (p:="self") (q:="mark") λv u=>rfl) rfl rfl (by decide) (by decide) rfl rfl rfl (λL qq fu co hcl=>?_)
 walk_at"*"
 refine d0s (λk l σ'=>∃es1 es2,es1.length=k∧es=es1++es2∧l=([("self",.ref (n+1)),("mark",.int t.length)]:Loc)∧Same [n+2,n+3,n+4] σ σ'∧IsSt σ' n sy {S with heap:=o0n S.heap es2,trail:=t++es1}) es.length
  ⟨_,Sub.refl _,es,[],rfl,by exact .symm (List.append_nil _),rfl,Same.refl _ _,by rw[←ht];exact hS⟩ λk l σ' ⟨es1,es2,hk,he,el,hs,hS'⟩=>?_
 subst el
 walk_at"*"
 refine a0h (λh1=>?_) (λh1=>?_)
 ·rcases List.eq_nil_or_concat es1 with rfl|⟨es0,e,rfl⟩
  ·simp at h1
  rw[List.concat_eq_append]at he hS' hk
  have hmem:=hes e (by rw[he];simp)
  have hT:σ'[n+4]?=some (.list (((t++es0)++[e]).map AV.int)):=by rw[List.append_assoc];exact hS'.trail
  walk_at"*"
  refine b1j hT ?_
  have hS2:=hS'.setTrail (H:=t++es0)
  walk_at"*"
  refine a0h (λh2=>?_) (λh2=>?_)
  ·walk_at"*"
   refine b0s hS2.heap hmem.1 (by show e<(o0n S.heap es2).length;rw[g0t];exact hmem.2) ?_
   have hS3:=hS2.setHeap (H:=(o0n S.heap es2).set e.toNat (0,e))
   walk_at"*"
   refine⟨es0.length,_,by simp at hk;exact LA [_,_] [] 1100626276424 rfl hk,Sub.cons rfl (Sub.cons rfl (Sub.nil _)),es0,e::es2,rfl,by rw[he];exact List.append_assoc _ _ _,rfl,(hs.set (by exact .inl (.tail _ (.tail _ (.head _))))).set (by exact .inl (.head _)),hS3⟩
  ·have:=of_decide_eq_false h2;omega
 ·have h1:=of_decide_eq_false h1
  simp at h1
  have:es1=[]:=List.length_eq_zero_iff.mp (by exact LA [_,_] [] 217369670918418536 rfl h1)
  subst this
  simp only[List.nil_append,List.append_nil]at he hS'
  subst he
  walk_at"*"
  exact Fin.st hcl rfl hs hS' trivial h
end
theorem f1h{a b:Int}(ha:a.natAbs<2^64):IntMulOk a b:=by
 refine IntMulOk.of_left ?_
 unfold Builtin.Int.intBits
 split
 ·exact LA [] [] 2108608 rfl
 ·rename_i h
  have h2:a.natAbs≠0:=by simpa using h
  have:=(Nat.log2_lt h2).mpr ha
  omega
structure IsPs (σ:Sig) (d:Nat) (span:Int) (T:Int→Bool) (k:Nat):Prop where
 ns:σ[d]?=some (.ns [("span",.int span),("met",.ref (d+2))])
 inst:σ[d+1]?=some (.inst 400 d)
 met:σ[d+2]?=some (.set T k)
theorem IsPs.set{σ:Sig}{d:Nat}{span:Int}{T:Int→Bool}{k i:Nat}{o:AObj}(h:IsPs σ d span T k)(hi:i<d∨d+2<i):IsPs (σ.set i o) d span T k:=⟨a0c h.ns (by exact LA [_,_] [] 1183221804310935373032 rfl hi),a0c h.inst (by exact LA [_,_] [] 8514429398797563844363496 rfl hi),a0c h.met (by exact LA [_,_] [] 89512459312977718549677288 rfl hi)⟩
theorem IsPs.app{σ r:Sig}{d:Nat}{span:Int}{T:Int→Bool}{k:Nat}(h:IsPs σ d span T k):IsPs (σ++r) d span T k:=⟨a0j h.ns,a0j h.inst,a0j h.met⟩
section
variable {G:Gx} {m:Nat} {cenv:Env} {loc:Loc} {σ:Sig} {n y:Nat} {S:Sto} {ts:List PySem.Str} {fs:List Cel} {sy:Nat}
theorem m0z(W:WOk G (hd.heap_1 G.w.params))(hS:IsSt σ n sy S){Q:AV→Sig→Prop}(h: ∀σ',Same [] σ σ'→σ'.length=σ.length+3→IsPs σ' σ.length (S.heap.length+1) (λ_=>false) 0→Q (.ref (σ.length+1)) σ'):a0b G (m+2) (.ref 400) [.ref (n+1)] σ Q:=by
 refine f1d W (by k_is) (by k_is) (by k_is) ?_
 have hS1:IsSt (σ++[.ns [],.inst 400 σ.length]) n sy S:=hS.app
 refine e1a W (by k_is) (by k_is) (e0x (p:="self") (q:="store") λv u=>rfl) rfl rfl (by decide) (by decide) rfl rfl rfl (λL qq fu co hcl=>?_)
 have hi:(σ++[AObj.ns [],AObj.inst 400 σ.length])[σ.length+1]?=some (.inst 400 σ.length):=by exact gp1
 have hn:(σ++[AObj.ns [],AObj.inst 400 σ.length])[σ.length]?=some (.ns []):=by exact gp0
 walk_at"*"
 refine b0q W hi hn (by k_is) (by k_is) (by k_is) (by k_is) ?_
 walk_at"*"
 refine z0b ?_
 walk_at"*"
 have e1:((σ++[AObj.ns [],AObj.inst 400 σ.length]).set σ.length (.ns (c0r [] (PySem.Str.ofString "span") (.int (S.heap.length+1)))))=σ++[.ns [("span",.int (S.heap.length+1))],.inst 400 σ.length]:=by
  rw[List.set_append_right _ _ (Nat.le_refl _),Nat.sub_self];rfl
 rw[e1]
 have e2:(σ++[AObj.ns [("span",.int (S.heap.length+1))],AObj.inst 400 σ.length]).length=σ.length+2:=by exact List.length_append ..
 rw[e2]
 have hi2:(σ++[AObj.ns [("span",.int (S.heap.length+1))],AObj.inst 400 σ.length]++[.set (λ_=>false) 0])[σ.length+1]?=some (.inst 400 σ.length):=by exact gq1
 have hn2:(σ++[AObj.ns [("span",.int (S.heap.length+1))],AObj.inst 400 σ.length]++[.set (λ_=>false) 0])[σ.length]?=some (.ns [("span",.int (S.heap.length+1))]):=by exact gq0
 refine b0q W hi2 hn2 (by k_is) (by k_is) (by k_is) (by k_is) ?_ (Nat.le_of_ble_eq_true rfl)
 walk_at"*"
 have e3:(σ++[AObj.ns [("span",.int (S.heap.length+1))],AObj.inst 400 σ.length]++[AObj.set (λ_=>false) 0]).set σ.length (.ns (c0r [("span",.int (S.heap.length+1))] (PySem.Str.ofString "met") (.ref (σ.length+2))))=σ++[.ns [("span",.int (S.heap.length+1)),("met",.ref (σ.length+2))],.inst 400 σ.length,.set (λ_=>false) 0]:=by
  rw[List.append_assoc,List.set_append_right _ _ (Nat.le_refl _),Nat.sub_self];rfl
 rw[e3]
 have hlen:(σ++[AObj.ns [("span",.int (S.heap.length+1)),("met",.ref (σ.length+2))],AObj.inst 400 σ.length,AObj.set (λ_=>false) 0]).length=σ.length+3:=by exact List.length_append ..
 refine⟨σ.length+3,.none,rfl,by simp,trivial,?_,?_⟩
 ·rw[List.take_of_length_le (by rw[hlen];exact Nat.le_refl _)]
  rw[show(σ++[AObj.ns [],AObj.inst 400 σ.length]).length=σ.length+2 by exact List.length_append ..]at hcl
  have c0:Cl (σ.length+3) σ:=λo ho=>AObj.bd_mono (Nat.le_succ _) (hcl o (List.mem_append_left _ ho))
  intro o ho
  rcases List.mem_append.mp ho with ho|ho
  ·exact c0 o ho
  ·simp only[List.mem_cons,List.not_mem_nil,or_false]at ho
   rcases ho with rfl|rfl|rfl
   ·intro x v hx
    rw[List.lookup_cons]at hx
    split at hx
    ·cases hx;trivial
    ·rw[List.lookup_cons]at hx
     split at hx
     ·cases hx;show _<_;exact LA [_] [] 3642537345409 rfl
     ·exact b0n hx
   ·show _<_;exact LA [_] [] 111161345 rfl
   ·trivial
 ·rw[List.take_of_length_le (by rw[hlen];exact Nat.le_refl _)]
  refine⟨rfl,h _ (Same.refl _ _).app hlen ⟨by simp,by simp,by simp⟩⟩
theorem r0a{d k:Nat}{span:Int}{T:Int→Bool}{name:PySem.Str}{x:AV}(W:WOk G (hd.heap_1 G.w.params)){Q:AV→Sig→Prop}(hS:IsPs σ d span T k)(hl:([(PySem.Str.ofString "span",AV.int span),(PySem.Str.ofString "met",AV.ref (d+2))]:List (PySem.Str×AV)).lookup name=some x)(hx:x.plain=true)(hg:plainGet (hd.heap_1 G.w.params) 400 name=true)(ha:findIn (hd.heap_1 G.w.params) (.ref 400) name=some none)(h:Q x σ):d0b G m (.ref (d+1)) name σ Q:=
 e0w W hS.inst hS.ns hl hx hg (by k_is) ha h
theorem b1k(W:WOk G (hd.heap_1 G.w.params)){d k:Nat}{span:Int}{T:Int→Bool}(hP:IsPs σ d span T k){c e:Cel}(hc:c.2.natAbs<2^64)(hk:k+1<4096){Q:AV→Sig→Prop}
  (h1:T (c.2*span+e.2)=true→Q (.bool false) σ) (h2:T (c.2*span+e.2)=false→Q (.bool true) (σ.set (d+2) (.set (λj=>T j||decide (j=c.2*span+e.2)) (k+1)))):a0b G (m+1) (.ref 397) [.ref (d+1),c.av,e.av] σ Q:=by
 refine a0x W (by k_is) (by k_is) (e0y (p:="self") (q:="left") (o:="right") λv u t=>rfl) rfl rfl (by decide) (by decide) rfl rfl rfl (λL qq fu co hcl=>?_)
 walk_at"*"
 refine r0a W hP rfl rfl (by k_is) (by k_is) ?_
 walk_at"*"
 refine r0d (f1h hc) ?_
 walk_at"*"
 refine r0a W hP rfl rfl (by k_is) (by k_is) ?_
 walk_at"*"
 refine w0o hP.met ?_
 walk_at"*"
 refine a0h (λh=>?_) (λh=>?_)
 ·walk_at"*"
  exact Fin.same hcl trivial (h1 h)
 ·walk_at"*"
  refine r0a W hP rfl rfl (by k_is) (by k_is) ?_
  walk_at"*"
  refine .mk _ (i0s hP.met) (j0n) ?_
  walk_at"*"
  refine h1w hP.met hk ?_
  rw[h]
  walk_at"*"
  exact Fin.of rfl _ (((Same.refl [d+2] σ).set (by exact .inl (.head _))).eq1 (a0d hP.met)) (hcl.set trivial) trivial (h2 h)
theorem o0h(W:WOk G (hd.heap_1 G.w.params))(hS:IsSt σ n sy S){c e:Cel}{b:Bool}(hb:(c.1≠e.1∧b=false)∨(c.1=e.1∧c.1=3∧b=true)∨(c.1=e.1∧c.1≠3∧0≤c.2∧0≤e.2∧∃u v,S.heap[c.2.toNat]?=some u∧S.heap[e.2.toNat]?=some v∧b=decide (u=v))){Q:AV→Sig→Prop}(h:Q (.bool b) σ):a0b G (m+1) (.ref 425) [.ref (n+1),c.av,e.av] σ Q:=by
 refine a0x W (by k_is) (by k_is) (e0y (p:="store") (q:="left") (o:="right") λv u t=>rfl) rfl rfl (by decide) (by decide) rfl rfl rfl (λL qq fu co hcl=>?_)
 walk_at"*"
 refine a0h (λh1=>?_) (λh1=>?_)
 ·simp only[bne_iff_ne,ne_eq]at h1
  rcases hb with⟨_,rfl⟩|⟨h2,_⟩|⟨h2,_⟩
  ·walk_at"*"
   exact Fin.same hcl trivial h
  ·exact absurd h2 h1
  ·exact absurd h2 h1
 have h1:c.1=e.1:=by simpa using h1
 walk_at"*"
 refine a0h (λh2=>?_) (λh2=>?_)
 ·simp only[beq_iff_eq]at h2
  rcases hb with⟨h3,_⟩|⟨_,_,rfl⟩|⟨_,h3,_⟩
  ·exact absurd h1 h3
  ·walk_at"*"
   exact Fin.same hcl trivial h
  ·exact absurd h2 h3
 have h2:c.1≠3:=by simpa using h2
 rcases hb with⟨h3,_⟩|⟨_,h3,_⟩|⟨_,_,p1,p2,u,v,hu,hv,rfl⟩
 ·exact absurd h1 h3
 ·exact absurd h3 h2
 ·walk_at"*"
  refine a0s hS.heap p1 hu ?_
  walk_at"*"
  refine a0s hS.heap p2 hv ?_
  walk_at"*"
  exact Fin.same hcl trivial h
theorem e0p(W:WOk G (hd.heap_1 G.w.params)){c:Cel}{Q:AV→Sig→Prop}(h:Q (.int (if c.1=0 then c.2 else -1 - c.2)) σ):a0b G (m+1) (.ref 481) [c.av] σ Q:=by
 refine a0x W (by k_is) (by k_is) (w0m (p:="cell") λv=>rfl) rfl rfl (by decide) (by decide) rfl rfl rfl (λL qq fu co hcl=>?_)
 walk_at"*"
 refine a0h (λh1=>?_) (λh1=>?_)
 ·rw[if_pos (beq_iff_eq.mp h1)]at h
  walk_at"*"
  exact Fin.same hcl trivial h
 ·rw[if_neg (by simpa using h1)]at h
  walk_at"*"
  exact Fin.same hcl trivial h
end
noncomputable def bs(c:Cel):Int:=if c.1=3 then c.2 else c.2+1
structure IsBlk (S:Sto) (fs:List Cel) (c:Cel) (f:Int) (args:List Cel):Prop where
 p0:0≤c.2
 k:(c.1=3∧f=0∧args.length=2)∨(c.1=2∧S.heap[c.2.toNat]?=some (6,f)∧0<f∧∃a,fs[f.toNat]?=some (a,(args.length:Int)))
 args: ∀i x,args[i]?=some x→S.heap[(bs c).toNat+i]?=some x
theorem IsBlk.wd{S:Sto}{fs:List Cel}{c:Cel}{f:Int}{args:List Cel}(h:IsBlk S fs c f args):(c.1=3∧(args.length:Int)=2)∨(c.1=2∧0≤c.2∧∃f a,S.heap[c.2.toNat]?=some (6,f)∧0≤f∧fs[f.toNat]?=some (a,(args.length:Int))):=by
 rcases h.k with⟨h1,h2,h3⟩|⟨h1,h2,h3,a,h4⟩
 ·exact .inl ⟨h1,by exact LA [_] [] 81383358005320 rfl h3⟩
 ·exact .inr ⟨h1,h.p0,f,a,h2,by exact LA [] [_] 4499576968 rfl h3,h4⟩
theorem IsBlk.fn{S:Sto}{fs:List Cel}{c:Cel}{f:Int}{args:List Cel}(h:IsBlk S fs c f args):(c.1=3∧f=0)∨(c.1=2∧0≤c.2∧∃u,S.heap[c.2.toNat]?=some (u,f)):=by
 rcases h.k with⟨h1,h2,h3⟩|⟨h1,h2,h3,a,h4⟩
 ·exact .inl ⟨h1,h2⟩
 ·exact .inr ⟨h1,h.p0,_,h2⟩
theorem IsBlk.comp{S:Sto}{fs:List Cel}{c:Cel}{f:Int}{args:List Cel}(h:IsBlk S fs c f args):(c.1==2||c.1==3)=true:=by
 rcases h.k with⟨h1,_⟩|⟨h1,_⟩<;>simp[h1]
theorem IsBlk.b0{S:Sto}{fs:List Cel}{c:Cel}{f:Int}{args:List Cel}(h:IsBlk S fs c f args):0≤bs c:=by
 have:=h.p0;unfold bs;split<;>omega
noncomputable def wkL(wk:List Cel):AObj:=.list (wk.reverse.map Cel.av)
theorem n0v{α:Type}(l wk:List α)(i:Nat)(x:α)(hi:i<l.length)(hx:l[l.length - 1 - i]?=some x):(l.drop (l.length - i)++wk).reverse++[x]=(l.drop (l.length - (i+1))++wk).reverse:=by
 have hlt:l.length - (i+1)<l.length:=by exact LA [_,_] [] 1372604339355688 rfl hi
 have e:l.drop (l.length - (i+1))=x::l.drop (l.length - i):=by
  rw[List.drop_eq_getElem_cons hlt]
  congr 1
  ·have:=(List.getElem?_eq_some_iff.mp hx).2;rw[←this];congr 1;exact LA [_,_] [] 1372651383030178 rfl
  ·congr 1;exact LA [_,_] [] 52141563828651458600 rfl hi
 rw[e];simp
theorem c0k{k i:Nat}{f:Nat→AV}{y:AV}(hy:((List.range k).map f)[i]?=some y):i<k∧y=f i:=by
 rw[List.getElem?_map]at hy
 refine a0a (Option.map_eq_some_iff.mp hy) λz hz z0=>?_;subst z0
 obtain⟨h1,h2⟩:=List.getElem?_eq_some_iff.mp hz
 simp at h1 h2;subst h2;exact⟨h1,rfl⟩
theorem c0z{σ:Sig}{i:Nat}{o:AObj}(h:σ[i]?=some o):σ.set i o=σ:=by
 apply List.ext_getElem?;intro j
 by_cases e:i=j
 ·subst e;rw[a0d h,h]
 ·rw[List.getElem?_set_ne e]
section
variable {G:Gx} {m:Nat} {cenv:Env} {loc:Loc} {σ:Sig} {n y:Nat} {S:Sto} {ts:List PySem.Str} {fs:List Cel} {sy:Nat}
theorem h1y{i:Nat}{wk:List Cel}{c:Cel}{Q:AV→Sig→Prop}(hi:σ[i]?=some (wkL wk))(hz:wk.length<1000000)(h:Q .none (σ.set i (wkL (c::wk)))):a0b G m (.builtin "list.append") [.ref i,c.av] σ Q:=
 e0v hi (by simpa using hz) (by simpa[wkL]using h)
theorem y0o{i:Nat}{wk:List Cel}{c:Cel}{Q:AV→Sig→Prop}(hi:σ[i]?=some (wkL (c::wk)))(h:Q c.av (σ.set i (wkL wk))):a0b G m (.builtin "list.pop") [.ref i] σ Q:=
 k1t (l:=wk.reverse.map Cel.av) (x:=c.av) (by simpa[wkL]using hi) h
theorem c0x(W:WOk G (hd.heap_1 G.w.params))(hS:IsSt σ n (y+1) S)(hY:IsSy σ y ts fs){c:Cel}{f:Int}{args wk:List Cel}{wi:Nat}(hB:IsBlk S fs c f args)(hw:σ[wi]?=some (wkL wk))(hwi:(wi<n∨n+4<wi)∧(wi<y∨y+5<wi))(hz:args.length+wk.length<1000000){Q:AV→Sig→Prop}
  (h:Q .none (σ.set wi (wkL (args++wk)))):a0b G (m+3) (.ref 411) [.ref (n+1),c.av,.ref wi] σ Q:=by
 refine a0x W (by k_is) (by k_is) (e0y (p:="store") (q:="cell") (o:="work") λv u t=>rfl) rfl rfl (by decide) (by decide) rfl rfl rfl (λL qq fu co hcl=>?_)
 walk_at"*"
 refine g0g (c:=c) W ?_
 rw[show(if c.1=3 then c.2 else c.2+1)=bs c from rfl]
 walk_at"*"
 refine h0h ?_
 walk_at"*"
 refine i0y W hS hY hB.wd ?_
 walk_at"*"
 refine s0b rfl ⟨_,_,l0v (k:=args.length) (by exact LA [_,_] [] 7427641822139027389301141544 rfl hz),λi l σ'=>l=([("store",.ref (n+1)),("work",.ref wi),("place",.int (bs c))]:Loc)∧σ'=σ.set wi (wkL (args.drop (args.length - i)++wk)),⟨_,?_,rfl,?_⟩,λ_ _ _ _ _=>trivial,?_,?_⟩
 ·exact Sub.cons rfl (Sub.cons rfl (Sub.cons rfl (Sub.nil _)))
 ·simp only[Nat.sub_zero,List.drop_length,List.nil_append]
  exact(c0z hw).symm
 ·intro i z l σ' hz' z0;refine a0m z0 λel es=>?_;clear z0
  subst el es
  refine a0m (c0k hz') λhi z0=>?_;subst z0
  intro P hP
  refine e0q (by rfl) ?_
  have hS':IsSt (σ.set wi (wkL (args.drop (args.length - i)++wk))) n (y+1) S:=hS.set hwi.1
  have hw':=a0d (p:=wkL (args.drop (args.length - i)++wk)) hw
  have hlt:args.length - 1 - i<args.length:=by exact LA [_,_] [] 1133645243908136 rfl hi
  have hx:args[args.length - 1 - i]?=some args[args.length - 1 - i]:=List.getElem?_eq_getElem hlt
  have hb0:=hB.b0
  walk_at"*"
  refine a0s (x:=args[args.length - 1 - i]) hS'.heap (by exact LA [_,_] [_] 704863277177530691472097320 rfl hi hb0) ?_ ?_
  ·have:=hB.args _ _ hx
   rw[show(bs c+((args.length:Int) - 1 - i)).toNat=(bs c).toNat+(args.length - 1 - i)by exact LA [_,_] [_] 299633359710396003579002516859818901544 rfl hi hb0];exact this
  walk_at"*"
  refine h1y hw' (by simp;exact LA [_,_,_] [] 7975369679430792205454223777693970472 rfl hz) ?_
  walk_at"*"
  refine⟨_,Sub.cons rfl (Sub.cons rfl (Sub.cons rfl (Sub.nil _))),rfl,?_⟩
  rw[List.set_set]
  congr 1
  have:=n0v args wk i _ hi hx
  simp only[wkL,←this,List.reverse_cons]
 ·intro l σ' z0;refine a0m z0 λel es=>?_;clear z0
  subst el es
  walk_at"*"
  simp only[List.length_map,List.length_range,Nat.sub_self,List.drop_zero]
  exact Fin.of rfl _ (((Same.refl [wi] σ).set (by exact .inl (.head _))).eq1 (a0d hw)) (hcl.set (c0l _ _)) trivial h
end
noncomputable def g1b(S:Sto)(fs:List Cel)(R:List Cel→(Int→Bool)→Nat→Prop)(d:Cel)(wk:List Cel)(T:Int→Bool)(k:Nat):Prop:=
 ((d.1==2||d.1==3)=false∧R wk T k)∨((d.1==2||d.1==3)=true∧T d.2=true∧R wk T k)∨
  ((d.1==2||d.1==3)=true∧T d.2=false∧∃f args,IsBlk S fs d f args∧k+1<4096∧args.length+wk.length<1000000∧R (args++wk) (λx=>T x||decide (x=d.2)) (k+1))
noncomputable def b0t(S:Sto)(fs:List Cel)(v:Cel):Nat→List Cel→(Int→Bool)→Nat→Prop
 |0,wk,_,_=>wk=[]
 |j+1,wk,T,k=>match wk with
  |[]=>False
  |c::wk=>∃q d,a0i S q c=some d∧d≠v∧g1b S fs (b0t S fs v j) d wk T k
section
variable {S:Sto} {fs:List Cel} {v c d:Cel} {j q k:Nat} {wk args:List Cel} {T:Int→Bool} {f:Int}
theorem b0t.nil:b0t S fs v 0 [] T k:=rfl
theorem b0t.leaf(h1:a0i S q c=some d)(h2:d≠v)(h3:(d.1==2||d.1==3)=false)(h4:b0t S fs v j wk T k):b0t S fs v (j+1) (c::wk) T k:=⟨q,d,h1,h2,.inl ⟨h3,h4⟩⟩
theorem b0t.seen(h1:a0i S q c=some d)(h2:d≠v)(h3:(d.1==2||d.1==3)=true)(h4:T d.2=true)(h5:b0t S fs v j wk T k):b0t S fs v (j+1) (c::wk) T k:=⟨q,d,h1,h2,.inr (.inl ⟨h3,h4,h5⟩)⟩
theorem b0t.push(h1:a0i S q c=some d)(h2:d≠v)(h3:IsBlk S fs d f args)(h4:T d.2=false)(h5:k+1<4096)(h6:args.length+wk.length<1000000)(h7:b0t S fs v j (args++wk) (λx=>T x||decide (x=d.2)) (k+1)):b0t S fs v (j+1) (c::wk) T k:=⟨q,d,h1,h2,.inr (.inr ⟨h3.comp,h4,f,args,h3,h5,h6,h7⟩)⟩
theorem b0t.inv(h:b0t S fs v j (c::wk) T k): ∃j' q d,j=j'+1∧a0i S q c=some d∧d≠v∧g1b S fs (b0t S fs v j') d wk T k:=by
 cases j with
 |zero=>(trivial)
 |succ j=>exact let⟨q,d,h⟩:=h;⟨j,q,d,rfl,h⟩
end
section
variable {G:Gx} {m:Nat} {cenv:Env} {loc:Loc} {σ:Sig} {n y:Nat} {S:Sto} {ts:List PySem.Str} {fs:List Cel} {sy:Nat}
inductive OccI(σ:Sig)(n:Nat)(S:Sto)(fs:List Cel)(v:Cel)(j:Nat)(l:Loc)(σ':Sig):Prop
 |mk (wk:List Cel) (T:Int→Bool) (k:Nat) (x0:l=([("store",.ref (n+1)),("variable",Cel.av v),("met",.ref σ.length),("work",.ref (σ.length+1))]:Loc)) (x1:Same [] σ σ') (x2:σ'[σ.length]?=some (.set T k)) (x3:σ'[σ.length+1]?=some (wkL wk)) (x4:b0t S fs v j wk T k)
theorem y0k(W:WOk G (hd.heap_1 G.w.params))(hS:IsSt σ n (y+1) S)(hY:IsSy σ y ts fs){v c d:Cel}{q:Nat}(hd:a0i S q c=some d)(hdv:d≠v)(hv:v.1≠1)(hr:(d.1==2||d.1==3)=false∨(d.1==2||d.1==3)=true∧∃j,b0t S fs v j [d] (λ_=>false) 0){Q:AV→Sig→Prop}
  (h:Q (.bool false) σ):a0b G (m+4) (.ref 453) [.ref (n+1),v.av,c.av] σ Q:=by
 refine a0x W (by k_is) (by k_is) (e0y (p:="store") (q:="variable") (o:="cell") λv u t=>rfl) rfl rfl (by decide) (by decide) rfl rfl rfl (λL qq fu co hcl=>?_)
 walk_at"*"
 refine b0g (c:=c) W hS hd ?_
 walk_at"*"
 refine a0h (λh1=>absurd (of_decide_eq_true h1) hdv) (λh1=>?_)
 walk_at"*"
 refine a0h (λh1=>absurd (beq_iff_eq.mp h1) hv) (λh1=>?_)
 walk_at"*"
 refine a0p (c:=d) W ?_
 walk_at"*"
 rcases hr with hr|⟨hcomp,j,hr⟩
 ·rw[hr]
  walk_at"*"
  exact Fin.same hcl trivial h
 rw[hcomp]
 walk_at"*"
 refine z0b ?_
 walk_at"*"
 refine d0s (OccI σ n S fs v) j
  ⟨_,?_,[d],_,0,rfl,(Same.refl _ _).app.app,by exact gn1,by exact gn2,hr⟩ λj l σ' ⟨wk,T,k,el,hs,hT,hw,hr⟩=>?_
 ·exact Sub.cons rfl (Sub.cons rfl (Sub.cons rfl (Sub.cons (by exact congrArg (λn=>some (AV.ref n)) ln1) (Sub.nil _))))
 subst el
 have hS':=hS.same hs (by exact nofun)
 have hY':=hY.same hs (by exact nofun)
 walk_at"*"
 have eL: ∀{c:Cel} {wk:List Cel},¬(0<(([]:List Cel).reverse.length:Int))∧0<((c::wk).reverse.length:Int):=λ{c wk}=>⟨by trivial,by simp⟩
 have lt:=hs.le
 refine a0h (λh1=>?_) (λh1=>?_)
 ·have h1:=of_decide_eq_true h1
  obtain _|⟨c',wk⟩:=wk
  ·exact absurd h1 (eL (c:=d) (wk:=[])).1
  obtain⟨j',q',d',rfl,hd',hdv',hr⟩:=hr.inv
  walk_at"*"
  refine y0o hw ?_
  have hS2:IsSt (σ'.set (σ.length+1) (wkL wk)) n (y+1) S:=hS'.set (.inr (by have:=b0m hS.trail;exact LA [_,_] [] 8315025278641442402344 rfl this))
  have hY2:IsSy (σ'.set (σ.length+1) (wkL wk)) y ts fs:=hY'.set (.inr (by have:=b0m hY.keys;exact LA [_,_] [] 8315061307438494920744 rfl this))
  have hT2:(σ'.set (σ.length+1) (wkL wk))[σ.length]?=some (.set T k):=a0c hT (by exact LA [_] [] 7352393 rfl)
  have hw2:=a0d (p:=wkL wk) hw
  have hs2:Same [] σ (σ'.set (σ.length+1) (wkL wk)):=hs.set (.inr (by exact LA [_] [] 7352320 rfl))
  walk_at"*"
  refine b0g (c:=c') W hS2 hd' ?_
  walk_at"*"
  refine a0h (λh1=>absurd (of_decide_eq_true h1) hdv') (λ_=>?_)
  walk_at"*"
  refine a0p (c:=d') W ?_
  walk_at"*"
  rcases hr with⟨hc,hr⟩|⟨hc,hTd,hr⟩|⟨hc,hTd,f,args,hB,hk,hz,hr⟩
  ·rw[hc]
   walk_at"*"
   exact⟨j',_,by exact LA [_] [] 7352321 rfl,Sub.cons rfl (Sub.cons rfl (Sub.cons rfl (Sub.cons rfl (Sub.nil _)))),wk,T,k,rfl,hs2,hT2,hw2,hr⟩
  ·rw[hc]
   walk_at"*"
   refine b0w hT2 ?_
   rw[hTd]
   walk_at"*"
   exact⟨j',_,by exact LA [_] [] 7352321 rfl,Sub.cons rfl (Sub.cons rfl (Sub.cons rfl (Sub.cons rfl (Sub.nil _)))),wk,T,k,rfl,hs2,hT2,hw2,hr⟩
  ·rw[hc]
   walk_at"*"
   refine b0w hT2 ?_
   rw[hTd]
   walk_at"*"
   refine .mk _ (i0s hT2) (j0n) ?_
   walk_at"*"
   refine h1w hT2 hk ?_
   rw[hTd]
   have hw3:=a0c (p:=.set (λx=>T x||decide (x=d'.2)) (k+1)) hw2 (show σ.length≠σ.length+1 by exact LA [_] [] 235274313 rfl)
   have hT3:=a0d (p:=.set (λx=>T x||decide (x=d'.2)) (k+1)) hT2
   have hs3:=hs2.set (i:=σ.length) (o:=.set (λx=>T x||decide (x=d'.2)) (k+1)) (.inr (Nat.le_refl _))
   have hS3:=hS.same hs3 (by exact nofun)
   have hY3:=hY.same hs3 (by exact nofun)
   walk_at"*"
   refine c0x W hS3 hY3 hB hw3 ⟨.inr (by have:=b0m hS.trail;exact LA [_,_] [] 8315025278641442402344 rfl this),.inr (by have:=b0m hY.keys;exact LA [_,_] [] 8315061307438494920744 rfl this)⟩ hz ?_
   walk_at"*"
   exact⟨j',_,by exact LA [_] [] 7352321 rfl,Sub.cons rfl (Sub.cons rfl (Sub.cons rfl (Sub.cons rfl (Sub.nil _)))),args++wk,_,k+1,rfl,hs3.set (.inr (by exact LA [_] [] 7352320 rfl)),a0c hT3 (by exact LA [_] [] 7352393 rfl),a0d hw3,hr⟩
 ·have h1:=of_decide_eq_false h1
  obtain _|⟨c',wk⟩:=wk
  ·walk_at"*"
   exact Fin.of rfl _ hs.eq0 hcl trivial h
  ·exact absurd (eL (c:=c') (wk:=wk)).2 h1
end
noncomputable def c0q(S:Sto)(fs:List Cel):Nat→List Cel→(Int→Bool)→Nat→Bool→Prop
 |0,wk,_,_,b=>wk=[]∧b=true
 |j+1,wk,T,k,b=>match wk with
  |[]=>False
  |c::wk=>∃q d,a0i S q c=some d∧(((d.1==0||d.1==1)=true∧b=false)∨(d.1==0||d.1==1)=false∧g1b S fs (λwk T k=>c0q S fs j wk T k b) d wk T k)
noncomputable def b0z(S:Sto)(fs:List Cel)(R:List Int):Nat→List Cel→(Int→Bool)→Nat→List Int→Prop
 |0,wk,_,_,A=>wk=[]∧A=R
 |j+1,wk,T,k,A=>match wk with
  |[]=>False
  |c::wk=>∃q d,a0i S q c=some d∧((d.1=0∧((A.contains d.2=true∧b0z S fs R j wk T k A)∨(A.contains d.2=false∧A.length+1<4096∧b0z S fs R j wk T k (A++[d.2]))))∨
   (d.1==0)=false∧g1b S fs (λwk T k=>b0z S fs R j wk T k A) d wk T k)
section
variable {S:Sto} {fs:List Cel} {c d:Cel} {j q k:Nat} {wk args:List Cel} {T:Int→Bool} {f p:Int} {b:Bool} {A R:List Int}
theorem c0q.nil:c0q S fs 0 [] T k true:=⟨rfl,rfl⟩
theorem c0q.fin(h:c0q S fs j [] T k b):b=true:=by
 cases j with
 |zero=>exact h.2
 |succ j=>exact h.elim
theorem c0q.var(h1:a0i S q c=some d)(h2:(d.1==0||d.1==1)=true):c0q S fs (j+1) (c::wk) T k false:=⟨q,d,h1,.inl ⟨h2,rfl⟩⟩
theorem c0q.leaf(h1:a0i S q c=some d)(h2:(d.1==0||d.1==1)=false)(h3:(d.1==2||d.1==3)=false)(h4:c0q S fs j wk T k b):c0q S fs (j+1) (c::wk) T k b:=⟨q,d,h1,.inr ⟨h2,.inl ⟨h3,h4⟩⟩⟩
theorem c0q.seen(h1:a0i S q c=some d)(h2:(d.1==0||d.1==1)=false)(h3:(d.1==2||d.1==3)=true)(h4:T d.2=true)(h5:c0q S fs j wk T k b):c0q S fs (j+1) (c::wk) T k b:=⟨q,d,h1,.inr ⟨h2,.inr (.inl ⟨h3,h4,h5⟩)⟩⟩
theorem c0q.push(h1:a0i S q c=some d)(h2:(d.1==0||d.1==1)=false)(h3:IsBlk S fs d f args)(h4:T d.2=false)(h5:k+1<4096)(h6:args.length+wk.length<1000000)(h7:c0q S fs j (args++wk) (λx=>T x||decide (x=d.2)) (k+1) b):c0q S fs (j+1) (c::wk) T k b:=⟨q,d,h1,.inr ⟨h2,.inr (.inr ⟨h3.comp,h4,f,args,h3,h5,h6,h7⟩)⟩⟩
theorem c0q.inv(h:c0q S fs j (c::wk) T k b): ∃j' q d,j=j'+1∧a0i S q c=some d∧(((d.1==0||d.1==1)=true∧b=false)∨(d.1==0||d.1==1)=false∧g1b S fs (λwk T k=>c0q S fs j' wk T k b) d wk T k):=by
 cases j with
 |zero=>cases h.1
 |succ j=>exact let⟨q,d,h⟩:=h;⟨j,q,d,rfl,h⟩
theorem b0z.nil:b0z S fs R 0 [] T k R:=⟨rfl,rfl⟩
theorem b0z.fin(h:b0z S fs R j [] T k A):A=R:=by
 cases j with
 |zero=>exact h.2
 |succ j=>exact h.elim
theorem b0z.old(h1:a0i S q c=some (0,p))(h2:A.contains p=true)(h3:b0z S fs R j wk T k A):b0z S fs R (j+1) (c::wk) T k A:=⟨q,(0,p),h1,.inl ⟨rfl,.inl ⟨h2,h3⟩⟩⟩
theorem b0z.new(h1:a0i S q c=some (0,p))(h2:A.contains p=false)(h3:A.length+1<4096)(h4:b0z S fs R j wk T k (A++[p])):b0z S fs R (j+1) (c::wk) T k A:=⟨q,(0,p),h1,.inl ⟨rfl,.inr ⟨h2,h3,h4⟩⟩⟩
theorem b0z.leaf(h1:a0i S q c=some d)(h2:(d.1==0)=false)(h3:(d.1==2||d.1==3)=false)(h4:b0z S fs R j wk T k A):b0z S fs R (j+1) (c::wk) T k A:=⟨q,d,h1,.inr ⟨h2,.inl ⟨h3,h4⟩⟩⟩
theorem b0z.seen(h1:a0i S q c=some d)(h2:(d.1==0)=false)(h3:(d.1==2||d.1==3)=true)(h4:T d.2=true)(h5:b0z S fs R j wk T k A):b0z S fs R (j+1) (c::wk) T k A:=⟨q,d,h1,.inr ⟨h2,.inr (.inl ⟨h3,h4,h5⟩)⟩⟩
theorem b0z.push(h1:a0i S q c=some d)(h2:(d.1==0)=false)(h3:IsBlk S fs d f args)(h4:T d.2=false)(h5:k+1<4096)(h6:args.length+wk.length<1000000)(h7:b0z S fs R j (args++wk) (λx=>T x||decide (x=d.2)) (k+1) A):b0z S fs R (j+1) (c::wk) T k A:=⟨q,d,h1,.inr ⟨h2,.inr (.inr ⟨h3.comp,h4,f,args,h3,h5,h6,h7⟩)⟩⟩
theorem b0z.inv(h:b0z S fs R j (c::wk) T k A): ∃j' q d,j=j'+1∧a0i S q c=some d∧((d.1=0∧((A.contains d.2=true∧b0z S fs R j' wk T k A)∨(A.contains d.2=false∧A.length+1<4096∧b0z S fs R j' wk T k (A++[d.2]))))∨
   (d.1==0)=false∧g1b S fs (λwk T k=>b0z S fs R j' wk T k A) d wk T k):=by
 cases j with
 |zero=>cases h.1
 |succ j=>exact let⟨q,d,h⟩:=h;⟨j,q,d,rfl,h⟩
end
theorem u0n{c:Cel}{wk:List Cel}: ¬(0<(([]:List Cel).reverse.length:Int))∧0<((c::wk).reverse.length:Int):=⟨by exact nofun,by simp⟩
theorem Fin.list{σ σ':Sig}{Q:AV→Sig→Prop}{l:List AV}(hcl:Cl σ.length σ)(s:Same [] σ σ')(e:σ'[σ.length]?=some (.list l))(b:AV.bdL σ.length l)(q:Q (.ref σ.length) (σ++[.list l])):Fin σ Q (.ret (.ref σ.length)) σ':=by
 have et:σ'.take (σ.length+1)=σ++[.list l]:=by
  rw[List.take_add_one,s.eq0,e];rfl
 refine⟨σ.length+1,.ref σ.length,rfl,Nat.le_succ _,Nat.lt_succ_self _,?_,?_⟩
 ·rw[et]
  exact Cl.app (λo ho=>AObj.bd_mono (Nat.le_succ _) (hcl o ho)) (AV.bdL_mono (Nat.le_succ _) _ b)
 ·rw[et];exact q
section
variable {G:Gx} {m:Nat} {cenv:Env} {loc:Loc} {σ:Sig} {n y:Nat} {S:Sto} {ts:List PySem.Str} {fs:List Cel} {sy:Nat}
inductive GrI(σ:Sig)(n:Nat)(S:Sto)(fs:List Cel)(b:Bool)(j:Nat)(l:Loc)(σ':Sig):Prop
 |mk (wk:List Cel) (T:Int→Bool) (k:Nat) (x0:l=([("store",.ref (n+1)),("met",.ref σ.length),("work",.ref (σ.length+1))]:Loc)) (x1:Same [] σ σ') (x2:σ'[σ.length]?=some (.set T k)) (x3:σ'[σ.length+1]?=some (wkL wk)) (x4:c0q S fs j wk T k b)
theorem p0q(W:WOk G (hd.heap_1 G.w.params))(hS:IsSt σ n (y+1) S)(hY:IsSy σ y ts fs){c:Cel}{b:Bool}{j:Nat}(hr:c0q S fs j [c] (λ_=>false) 0 b){Q:AV→Sig→Prop}
  (h:Q (.bool b) σ):a0b G (m+4) (.ref 474) [.ref (n+1),c.av] σ Q:=by
 refine a0x W (by k_is) (by k_is) (e0x (p:="store") (q:="cell") λv u=>rfl) rfl rfl (by decide) (by decide) rfl rfl rfl (λL qq fu co hcl=>?_)
 walk_at"*"
 refine z0b ?_
 walk_at"*"
 refine d0s (GrI σ n S fs b) j
  ⟨_,?_,[c],_,0,rfl,(Same.refl _ _).app.app,by exact gn1,by exact gn2,hr⟩ λj l σ' ⟨wk,T,k,el,hs,hT,hw,hr⟩=>?_
 ·exact Sub.cons rfl (Sub.cons rfl (Sub.cons (by exact congrArg (λn=>some (AV.ref n)) ln1) (Sub.nil _)))
 subst el
 have hS':=hS.same hs (by exact nofun)
 have hY':=hY.same hs (by exact nofun)
 walk_at"*"
 have lt:=hs.le
 have gS:=b0m hS.trail
 have gY:=b0m hY.keys
 refine a0h (λh1=>?_) (λh1=>?_)
 ·have h1:=of_decide_eq_true h1
  obtain _|⟨c',wk⟩:=wk
  ·exact absurd h1 (u0n (c:=c) (wk:=[])).1
  obtain⟨j',q',d',rfl,hd',hr⟩:=hr.inv
  walk_at"*"
  refine y0o hw ?_
  have hS2:IsSt (σ'.set (σ.length+1) (wkL wk)) n (y+1) S:=hS'.set (.inr (by exact LA [_,_] [] 8315025278641442402344 rfl gS))
  have hT2:(σ'.set (σ.length+1) (wkL wk))[σ.length]?=some (.set T k):=a0c hT (by exact LA [_] [] 7352393 rfl)
  have hw2:=a0d (p:=wkL wk) hw
  have hs2:Same [] σ (σ'.set (σ.length+1) (wkL wk)):=hs.set (.inr (by exact LA [_] [] 7352320 rfl))
  walk_at"*"
  refine b0g (c:=c') W hS2 hd' ?_
  walk_at"*"
  refine b0d W ?_
  walk_at"*"
  rcases hr with⟨hv,rfl⟩|⟨hv,hr⟩
  ·rw[hv]
   walk_at"*"
   exact Fin.of rfl _ hs2.eq0 hcl trivial h
  rw[hv]
  walk_at"*"
  refine a0p (c:=d') W ?_
  walk_at"*"
  rcases hr with⟨hc,hr⟩|⟨hc,hTd,hr⟩|⟨hc,hTd,f,args,hB,hk,hz,hr⟩
  ·rw[hc]
   walk_at"*"
   exact⟨j',_,by exact LA [_] [] 7352321 rfl,Sub.cons rfl (Sub.cons rfl (Sub.cons rfl (Sub.nil _))),wk,T,k,rfl,hs2,hT2,hw2,hr⟩
  ·rw[hc]
   walk_at"*"
   refine b0w hT2 ?_
   rw[hTd]
   walk_at"*"
   exact⟨j',_,by exact LA [_] [] 7352321 rfl,Sub.cons rfl (Sub.cons rfl (Sub.cons rfl (Sub.nil _))),wk,T,k,rfl,hs2,hT2,hw2,hr⟩
  ·rw[hc]
   walk_at"*"
   refine b0w hT2 ?_
   rw[hTd]
   walk_at"*"
   refine .mk _ (i0s hT2) (j0n) ?_
   walk_at"*"
   refine h1w hT2 hk ?_
   rw[hTd]
   have hw3:=a0c (p:=.set (λx=>T x||decide (x=d'.2)) (k+1)) hw2 (show σ.length≠σ.length+1 by exact LA [_] [] 235274313 rfl)
   have hT3:=a0d (p:=.set (λx=>T x||decide (x=d'.2)) (k+1)) hT2
   have hs3:=hs2.set (i:=σ.length) (o:=.set (λx=>T x||decide (x=d'.2)) (k+1)) (.inr (Nat.le_refl _))
   have hS3:=hS.same hs3 (by exact nofun)
   have hY3:=hY.same hs3 (by exact nofun)
   walk_at"*"
   refine c0x W hS3 hY3 hB hw3 ⟨.inr (by exact LA [_,_] [] 8315025278641442402344 rfl gS),.inr (by exact LA [_,_] [] 8315061307438494920744 rfl gY)⟩ hz ?_
   walk_at"*"
   exact⟨j',_,by exact LA [_] [] 7352321 rfl,Sub.cons rfl (Sub.cons rfl (Sub.cons rfl (Sub.nil _))),args++wk,_,k+1,rfl,hs3.set (.inr (by exact LA [_] [] 7352320 rfl)),a0c hT3 (by exact LA [_] [] 7352393 rfl),a0d hw3,hr⟩
 ·have h1:=of_decide_eq_false h1
  obtain _|⟨c',wk⟩:=wk
  ·have:=hr.fin;subst this
   walk_at"*"
   exact Fin.of rfl _ hs.eq0 hcl trivial h
  ·exact absurd (u0n (c:=c') (wk:=wk)).2 h1
noncomputable def vars(A:List Int):List AV:=A.map λp=>Cel.av (0,p)
theorem s0r(k:Nat): ∀A:List Int,AV.bdL k (vars A)
 |[]=>trivial
 |_::r=>⟨by trivial,s0r k r⟩
theorem z0k(A:List Int)(p:Int):vars (A++[p])=vars A++[Cel.av (0,p)]:=by simp[vars]
inductive VrI(σ:Sig)(n:Nat)(S:Sto)(fs:List Cel)(R:List Int)(j:Nat)(l:Loc)(σ':Sig):Prop
 |mk (wk:List Cel) (T:Int→Bool) (k:Nat) (A:List Int) (x0:l=([("store",.ref (n+1)),("found",.ref σ.length),("noted",.ref (σ.length+1)),("met",.ref (σ.length+2)),("work",.ref (σ.length+3))]:Loc)) (x1:Same [] σ σ') (x2:σ'[σ.length]?=some (.list (vars A))) (x3:σ'[σ.length+1]?=some (.set (λx=>A.contains x) A.length)) (x4:σ'[σ.length+2]?=some (.set T k)) (x5:σ'[σ.length+3]?=some (wkL wk)) (x6:b0z S fs R j wk T k A)
theorem k0m(W:WOk G (hd.heap_1 G.w.params))(hS:IsSt σ n (y+1) S)(hY:IsSy σ y ts fs){c d:Cel}{q:Nat}{R:List Int}{j:Nat}(hd:a0i S q c=some d)(hd1:d.1≠1)(hr:b0z S fs R j [d] (λ_=>false) 0 []){Q:AV→Sig→Prop}
  (h:Q (.ref σ.length) (σ++[.list (vars R)])):a0b G (m+4) (.ref 467) [.ref (n+1),c.av] σ Q:=by
 refine a0x W (by k_is) (by k_is) (e0x (p:="store") (q:="cell") λv u=>rfl) rfl rfl (by decide) (by decide) rfl rfl rfl (λL qq fu co hcl=>?_)
 walk_at"*"
 refine z0b ?_
 walk_at"*"
 refine z0b ?_
 have hS0:IsSt (σ++[.list []]++[.set (λ_=>false) 0]++[.set (λ_=>false) 0]) n (y+1) S:=hS.app.app.app
 walk_at"*"
 refine c0j (c:=c) W hS0 hd hd1 ?_
 walk_at"*"
 refine d0s (VrI σ n S fs R) j
  ⟨_,?_,[d],_,0,[],rfl,(Same.refl _ _).app.app.app.app,by exact gm0,by exact gm1,by exact gm2,by exact gm3,hr⟩ λj l σ' ⟨wk,T,k,A,el,hs,hF,hN,hT,hw,hr⟩=>?_
 ·exact Sub.cons rfl (Sub.cons rfl (Sub.cons (by simp<;>rfl) (Sub.cons (by simp<;>rfl) (Sub.cons (by exact congrArg (λn=>some (AV.ref n)) ln3<;>rfl) (Sub.nil _)))))
 subst el
 have hS':=hS.same hs (by exact nofun)
 have hY':=hY.same hs (by exact nofun)
 walk_at"*"
 have lt:=hs.le
 have gS:=b0m hS.trail
 have gY:=b0m hY.keys
 refine a0h (λh1=>?_) (λh1=>?_)
 ·have h1:=of_decide_eq_true h1
  obtain _|⟨c',wk⟩:=wk
  ·exact absurd h1 (u0n (c:=c) (wk:=[])).1
  obtain⟨j',q',d',rfl,hd',hr⟩:=hr.inv
  walk_at"*"
  refine y0o hw ?_
  have hS2:IsSt (σ'.set (σ.length+3) (wkL wk)) n (y+1) S:=hS'.set (.inr (by exact LA [_,_] [] 125193595729665161441320 rfl gS))
  have hF2:=a0c (p:=wkL wk) (j:=σ.length+3) hF (by exact LA [_] [] 111161417 rfl)
  have hN2:=a0c (p:=wkL wk) (j:=σ.length+3) hN (by exact LA [_] [] 7709577457737 rfl)
  have hT2:=a0c (p:=wkL wk) (j:=σ.length+3) hT (by exact LA [_] [] 81376856518729 rfl)
  have hw2:=a0d (p:=wkL wk) hw
  have hs2:Same [] σ (σ'.set (σ.length+3) (wkL wk)):=hs.set (.inr (by exact LA [_] [] 111161344 rfl))
  walk_at"*"
  refine b0g (c:=c') W hS2 hd' ?_
  walk_at"*"
  rcases hr with⟨hv,hr⟩|⟨hv,hr⟩
  ·refine a0h (λ_=>?_) (λh=>by simp[hv]at h)
   walk_at"*"
   refine b0w hN2 ?_
   walk_at"*"
   rcases hr with⟨hA,hr⟩|⟨hA,hz,hr⟩
   ·rw[hA]
    walk_at"*"
    exact⟨j',_,by exact LA [_] [] 7352321 rfl,Sub.cons rfl (Sub.cons rfl (Sub.cons rfl (Sub.cons rfl (Sub.cons rfl (Sub.nil _))))),wk,T,k,A,rfl,hs2,hF2,hN2,hT2,hw2,hr⟩
   ·rw[hA]
    walk_at"*"
    refine .mk _ (i0s hN2) (j0n) ?_
    walk_at"*"
    refine h1w hN2 hz ?_
    rw[hA]
    have eA:(λx=>A.contains x||decide (x=d'.2))= λx=>(A++[d'.2]).contains x:=by
     funext x
     rw[List.contains_eq_mem,List.contains_eq_mem]
     simp
    rw[eA]
    have hF3:=a0c (p:=.set (λx=>(A++[d'.2]).contains x) (A.length+1)) (j:=σ.length+1) hF2 (by exact LA [_] [] 7352393 rfl)
    have hN3:=a0d (p:=.set (λx=>(A++[d'.2]).contains x) (A.length+1)) hN2
    have hT3:=a0c (p:=.set (λx=>(A++[d'.2]).contains x) (A.length+1)) (j:=σ.length+1) hT2 (by exact LA [_] [] 2543030644809 rfl)
    have hw3:=a0c (p:=.set (λx=>(A++[d'.2]).contains x) (A.length+1)) (j:=σ.length+1) hw2 (by exact LA [_] [] 3642542272585 rfl)
    have hs3:=hs2.set (i:=σ.length+1) (o:=.set (λx=>(A++[d'.2]).contains x) (A.length+1)) (.inr (by exact LA [_] [] 7352320 rfl))
    walk_at"*"
    refine f0n hF3 (by simp[vars];exact LA [_] [] 8665581861453685458757234728 rfl hz) ?_
    walk_at"*"
    refine⟨j',_,by exact LA [_] [] 7352321 rfl,Sub.cons rfl (Sub.cons rfl (Sub.cons rfl (Sub.cons rfl (Sub.cons rfl (Sub.nil _))))),wk,T,k,A++[d'.2],rfl,hs3.set (.inr (by exact LA [_] [] 0 rfl)),?_,(by rw[List.length_append];exact a0c hN3 (by exact LA [_] [] 235274313 rfl)),a0c hT3 (by exact LA [_] [] 2483421257 rfl),a0c hw3 (by exact LA [_] [] 3557163081 rfl),hr⟩
    have ed:Cel.av (0,d'.2)=d'.av:=by rw[←hv]
    rw[z0k,ed];exact a0d hF3
  refine a0h (λh=>by rw[hv]at h;(exact a0t h)) (λ_=>?_)
  walk_at"*"
  refine a0p (c:=d') W ?_
  walk_at"*"
  rcases hr with⟨hc,hr⟩|⟨hc,hTd,hr⟩|⟨hc,hTd,f,args,hB,hk,hz,hr⟩
  ·rw[hc]
   walk_at"*"
   exact⟨j',_,by exact LA [_] [] 7352321 rfl,Sub.cons rfl (Sub.cons rfl (Sub.cons rfl (Sub.cons rfl (Sub.cons rfl (Sub.nil _))))),wk,T,k,A,rfl,hs2,hF2,hN2,hT2,hw2,hr⟩
  ·rw[hc]
   walk_at"*"
   refine b0w hT2 ?_
   rw[hTd]
   walk_at"*"
   exact⟨j',_,by exact LA [_] [] 7352321 rfl,Sub.cons rfl (Sub.cons rfl (Sub.cons rfl (Sub.cons rfl (Sub.cons rfl (Sub.nil _))))),wk,T,k,A,rfl,hs2,hF2,hN2,hT2,hw2,hr⟩
  ·rw[hc]
   walk_at"*"
   refine b0w hT2 ?_
   rw[hTd]
   walk_at"*"
   refine .mk _ (i0s hT2) (j0n) ?_
   walk_at"*"
   refine h1w hT2 hk ?_
   rw[hTd]
   have hF3:=a0c (p:=.set (λx=>T x||decide (x=d'.2)) (k+1)) (j:=σ.length+2) hF2 (by exact LA [_] [] 77606985 rfl)
   have hN3:=a0c (p:=.set (λx=>T x||decide (x=d'.2)) (k+1)) (j:=σ.length+2) hN2 (by exact LA [_] [] 7709543903305 rfl)
   have hw3:=a0c (p:=.set (λx=>T x||decide (x=d'.2)) (k+1)) (j:=σ.length+2) hw2 (by exact LA [_] [] 116561195053129 rfl)
   have hT3:=a0d (p:=.set (λx=>T x||decide (x=d'.2)) (k+1)) hT2
   have hs3:=hs2.set (i:=σ.length+2) (o:=.set (λx=>T x||decide (x=d'.2)) (k+1)) (.inr (by exact LA [_] [] 77606912 rfl))
   have hS3:=hS.same hs3 (by exact nofun)
   have hY3:=hY.same hs3 (by exact nofun)
   walk_at"*"
   refine c0x W hS3 hY3 hB hw3 ⟨.inr (by exact LA [_,_] [] 125193595729665161441320 rfl gS),.inr (by exact LA [_,_] [] 125193631758462213959720 rfl gY)⟩ hz ?_
   walk_at"*"
   exact⟨j',_,by exact LA [_] [] 7352321 rfl,Sub.cons rfl (Sub.cons rfl (Sub.cons rfl (Sub.cons rfl (Sub.cons rfl (Sub.nil _))))),args++wk,_,k+1,A,rfl,hs3.set (.inr (by exact LA [_] [] 111161344 rfl)),a0c hF3 (by exact LA [_] [] 111161417 rfl),a0c hN3 (by exact LA [_] [] 7709577457737 rfl),a0c hT3 (by exact LA [_] [] 81376856518729 rfl),a0d hw3,hr⟩
 ·have h1:=of_decide_eq_false h1
  obtain _|⟨c',wk⟩:=wk
  ·have:=hr.fin;subst this
   walk_at"*"
   exact Fin.list hcl hs hF (s0r _ _) h
  ·exact absurd (u0n (c:=c') (wk:=wk)).2 h1
end
noncomputable abbrev y0q (p:Cel×Cel):AV:=.tup [p.1.av,p.2.av]
noncomputable def wkP(wk:List (Cel×Cel)):AObj:=.list (wk.reverse.map y0q)
theorem w0i(k:Nat): ∀wk:List (Cel×Cel),AV.bdL k (wk.map y0q)
 |[]=>trivial
 |_::r=>⟨by trivial,w0i k r⟩
theorem IsBlk.same{S:Sto}{fs:List Cel}{c e:Cel}{f:Int}{args args':List Cel}(h:IsBlk S fs c f args)(h':IsBlk S fs e f args'):c.1=e.1∧args.length=args'.length:=by
 rcases h.k with⟨h1,h2,h3⟩|⟨h1,h2,h3,a,h4⟩<;>rcases h'.k with⟨h1',h2',h3'⟩|⟨h1',h2',h3',a',h4'⟩
 ·exact LA [_,_] [_,_] 1364001018368172223951259967741721120936 rfl h1 h3 h1' h3'
 ·exact LA [_,_] [_,_,_] 37855354753596872921256 rfl h2 h3'
 ·exact LA [_,_] [_,_,_] 37855354753663478405256 rfl h3 h2'
 ·rw[h4]at h4';simp at h4';exact LA [_,_] [_,_,_,_] 1396737042778564819781929002648220951974056 rfl h1 h1' h4'
theorem IsBlk.shape{S:Sto}{fs:List Cel}{c e:Cel}{f g:Int}{args args':List Cel}(h:IsBlk S fs c f args)(h':IsBlk S fs e g args'):
  (c.1≠e.1∧decide (f=g)=false)∨(c.1=e.1∧c.1=3∧decide (f=g)=true)∨(c.1=e.1∧c.1≠3∧0≤c.2∧0≤e.2∧∃u v,S.heap[c.2.toNat]?=some u∧S.heap[e.2.toNat]?=some v∧decide (f=g)=decide (u=v)):=by
 have p:=h.p0
 have p':=h'.p0
 rcases h.k with⟨h1,h2,h3⟩|⟨h1,h2,h3,a,h4⟩<;>rcases h'.k with⟨h1',h2',h3'⟩|⟨h1',h2',h3',a',h4'⟩
 ·exact .inr (.inl ⟨by exact LA [] [_,_] 5914468936316162216 rfl h1 h1',h1,by simp;exact LA [] [_,_] 5775946284208296 rfl h2 h2'⟩)
 ·exact .inl ⟨by exact LA [] [_,_] 189269485381079077032 rfl h1 h1',by simp;exact LA [] [_,_] 184833580571234472 rfl h2 h3'⟩
 ·exact .inl ⟨by exact LA [] [_,_] 189269520565450117288 rfl h1 h1',by simp;exact LA [] [_,_] 184833613890721928 rfl h3 h2'⟩
 ·exact .inr (.inr ⟨by exact LA [] [_,_] 5914433751943024808 rfl h1 h1',by exact LA [] [_] 116691344625832 rfl h1,p,p',_,_,h2,h2',by simp⟩)
section
variable {G:Gx} {m:Nat} {cenv:Env} {loc:Loc} {σ:Sig} {n y:Nat} {S:Sto} {ts:List PySem.Str} {fs:List Cel} {sy:Nat}
theorem d1m{i:Nat}{wk:List (Cel×Cel)}{c e:Cel}{Q:AV→Sig→Prop}(hi:σ[i]?=some (wkP wk))(hz:wk.length<1000000)(h:Q .none (σ.set i (wkP ((c,e)::wk)))):a0b G m (.builtin "list.append") [.ref i,.tup [c.av,e.av]] σ Q:=
 f0n hi (by simp;exact LA [_] [] 8462482286582457481658408 rfl hz) (by simpa[wkP]using h)
theorem y0p{i:Nat}{wk:List (Cel×Cel)}{p:Cel×Cel}{Q:AV→Sig→Prop}(hi:σ[i]?=some (wkP (p::wk)))(h:Q (y0q p) (σ.set i (wkP wk))):a0b G m (.builtin "list.pop") [.ref i] σ Q:=
 k1t (l:=wk.reverse.map y0q) (x:=y0q p) (by simpa[wkP]using hi) h
theorem o0g(W:WOk G (hd.heap_1 G.w.params))(hS:IsSt σ n (y+1) S)(hY:IsSy σ y ts fs){c e:Cel}{f:Int}{args args':List Cel}{wk:List (Cel×Cel)}{wi:Nat}(hB:IsBlk S fs c f args)(hB':IsBlk S fs e f args')(hw:σ[wi]?=some (wkP wk))(hwi:(wi<n∨n+4<wi)∧(wi<y∨y+5<wi))(hz:args.length+wk.length<1000000){Q:AV→Sig→Prop}
  (h:Q .none (σ.set wi (wkP (args.zip args'++wk)))):a0b G (m+3) (.ref 418) [.ref (n+1),c.av,e.av,.ref wi] σ Q:=by
 refine a0x W (by k_is) (by k_is) (u0r (p:="store") (q:="left") (o:="right") (o':="work") λv u t t'=>rfl) rfl rfl (by decide) (by decide) rfl rfl rfl (λL qq fu co hcl=>?_)
 have hl:=(hB.same hB').2
 have hzl:(args.zip args').length=args.length:=by rw[List.length_zip];exact LA [_,_] [] 34932293704 rfl hl
 walk_at"*"
 refine g0g (c:=c) W ?_
 rw[show(if c.1=3 then c.2 else c.2+1)=bs c from rfl]
 walk_at"*"
 refine g0g (c:=e) W ?_
 rw[show(if e.1=3 then e.2 else e.2+1)=bs e from rfl]
 walk_at"*"
 refine h0h ?_
 walk_at"*"
 refine i0y W hS hY hB.wd ?_
 walk_at"*"
 refine s0b rfl ⟨_,_,l0v (k:=args.length) (by exact LA [_,_] [] 7427641822139027389301141544 rfl hz),λi l σ'=>l=([("store",.ref (n+1)),("work",.ref wi),("left_place",.int (bs c)),("right_place",.int (bs e))]:Loc)∧σ'=σ.set wi (wkP ((args.zip args').drop (args.length - i)++wk)),⟨_,?_,rfl,?_⟩,λ_ _ _ _ _=>trivial,?_,?_⟩
 ·exact Sub.cons rfl (Sub.cons rfl (Sub.cons rfl (Sub.cons rfl (Sub.nil _))))
 ·rw[Nat.sub_zero,List.drop_of_length_le (by exact LA [_,_] [] 1073774664 rfl hzl),List.nil_append]
  exact(c0z hw).symm
 ·intro i z l σ' hz' z0;refine a0m z0 λel es=>?_;clear z0
  subst el es
  refine a0m (c0k hz') λhi z0=>?_;subst z0
  intro P hP
  refine e0q (by rfl) ?_
  have hS':IsSt (σ.set wi (wkP ((args.zip args').drop (args.length - i)++wk))) n (y+1) S:=hS.set hwi.1
  have hw':=a0d (p:=wkP ((args.zip args').drop (args.length - i)++wk)) hw
  have hlt:args.length - 1 - i<args.length:=by exact LA [_,_] [] 1133645243908136 rfl hi
  have hlt':args.length - 1 - i<args'.length:=by exact LA [_,_,_] [] 1323789600939854244800921672 rfl hl hlt
  have hx:args[args.length - 1 - i]?=some args[args.length - 1 - i]:=List.getElem?_eq_getElem hlt
  have hx':args'[args.length - 1 - i]?=some args'[args.length - 1 - i]:=List.getElem?_eq_getElem hlt'
  have hb0:=hB.b0
  have hb0':=hB'.b0
  walk_at"*"
  refine a0s (x:=args[args.length - 1 - i]) hS'.heap (by exact LA [_,_] [_] 704863277177530691472097320 rfl hi hb0) ?_ ?_
  ·have:=hB.args _ _ hx
   rw[show(bs c+((args.length:Int) - 1 - i)).toNat=(bs c).toNat+(args.length - 1 - i)by exact LA [_,_] [_] 299633359710396003579002516859818901544 rfl hi hb0];exact this
  walk_at"*"
  refine a0s (x:=args'[args.length - 1 - i]) hS'.heap (by exact LA [_,_] [_] 704863277177530691472097320 rfl hi hb0') ?_ ?_
  ·have:=hB'.args _ _ hx'
   rw[show(bs e+((args.length:Int) - 1 - i)).toNat=(bs e).toNat+(args.length - 1 - i)by exact LA [_,_] [_] 299633359710396003579002516859818901544 rfl hi hb0'];exact this
  walk_at"*"
  refine d1m hw' (by simp;exact LA [_,_,_,_] [] 8166778551776747232720422601073720569896 rfl hz) ?_
  walk_at"*"
  refine⟨_,Sub.cons rfl (Sub.cons rfl (Sub.cons rfl (Sub.cons rfl (Sub.nil _)))),rfl,?_⟩
  rw[List.set_set]
  congr 1
  have:=n0v (args.zip args') wk i (args[args.length - 1 - i],args'[args.length - 1 - i]) (by exact LA [_,_,_] [] 71504805003336 rfl hzl hi) (by rw[hzl,List.getElem?_zip_eq_some];exact⟨hx,hx'⟩)
  rw[hzl]at this
  simp only[wkP,←this,List.reverse_cons]
 ·intro l σ' z0;refine a0m z0 λel es=>?_;clear z0
  subst el es
  walk_at"*"
  simp only[List.length_map,List.length_range,Nat.sub_self,List.drop_zero]
  exact Fin.of rfl _ (((Same.refl [wi] σ).set (by exact .inl (.head _))).eq1 (a0d hw)) (hcl.set (w0i _ _)) trivial h
theorem l0g(W:WOk G (hd.heap_1 G.w.params))(hS:IsSt σ n (y+1) S)(hY:IsSy σ y ts fs){p:Int}{c d:Cel}{q:Nat}(hd:a0i S q c=some d)(hdv:d≠(0,p))(hr:(d.1==2||d.1==3)=false∨(d.1==2||d.1==3)=true∧∃j,b0t S fs (0,p) j [d] (λ_=>false) 0)
  (h0:0≤p) (hp:p<S.heap.length) (ht:S.trail.length<1000) {Q:AV→Sig→Prop} (h:Q (.bool true) (putSt σ n (g0h S p c))):a0b G (m+5) (.ref 446) [.ref (n+1),.tup [.int 0,.int p],c.av,.bool true] σ Q:=by
 refine a0x W (by k_is) (by k_is) (u0r (p:="store") (q:="variable") (o:="value") (o':="occurs") λv u t t'=>rfl) rfl rfl (by decide) (by decide) rfl rfl rfl (λL qq fu co hcl=>?_)
 walk_at"*"
 refine y0k (v:=(0,p)) (c:=c) W hS hY hd hdv (by exact nofun) hr ?_
 walk_at"*"
 refine n0o (v:=c) W hS h0 hp ht ?_
 walk_at"*"
 exact Fin.st hcl rfl ((Same.refl _ _).put (by exact .head _) (by exact .tail _ (.head _)) (by exact .tail _ (.tail _ (.head _)))) (hS.put rfl) trivial h
noncomputable def uni(S:Sto)(p:Int)(e:Cel):Sto:=if e.1=0 then(if p<e.2 then g0h S e.2 (0,p)else g0h S p e)else g0h S p e
theorem d1a{S:Sto}{p:Int}{e:Cel}:(uni S p e).hb=S.hb:=by unfold uni;split<;>(try split)<;>rfl
inductive UniI(σ:Sig)(n y:Nat)(S:Sto)(c1 c2:Cel)(p:Int)(e:Cel)(j:Nat)(l:Loc)(σ':Sig):Prop
 |mk (wk:List (Cel×Cel)) (S':Sto) (x0:l=([("store",.ref (n+1)),("occurs",.bool true),("work",.ref (σ.length+3))]:Loc)) (x1:Same [n+2,n+3,n+4] σ σ') (x2:IsSt σ' n (y+1) S') (x3:σ'[σ.length+3]?=some (wkP wk)) (x4:((j=1∧wk=[(c1,c2)]∧S'=S)∨(j=0∧wk=[]∧S'=uni S p e)))
theorem b1x(W:WOk G (hd.heap_1 G.w.params))(hS:IsSt σ n (y+1) S)(hY:IsSy σ y ts fs)(hny:y+5<n){p:Int}{c1 c2 e:Cel}{q q1 q2:Nat}(hd1:a0i S q c1=some (0,p))(hd2:a0i S q1 c2=some e)(hee:a0i S q2 e=some e)(hne:e≠(0,p))(he1:e.1≠1)
  (hr:(e.1==2||e.1==3)=false∨(e.1==2||e.1==3)=true∧∃j,b0t S fs (0,p) j [e] (λ_=>false) 0)
  (h0:0≤p) (hp:p<S.heap.length) (he:e.1=0→0≤e.2∧e.2<S.heap.length) (ht:S.trail.length<1000) {Q:AV→Sig→Prop} (h:Q (.bool true) (putSt σ n (uni S p e))):a0b G (m+6) (.ref 439) [.ref (n+1),c1.av,c2.av,.bool true] σ Q:=by
 refine a0x W (by k_is) (by k_is) (u0r (p:="store") (q:="c1") (o:="c2") (o':="occurs") λv u t t'=>rfl) rfl rfl (by decide) (by decide) rfl rfl rfl (λL qq fu co hcl=>?_)
 walk_at"*"
 refine m0z W hS λσ1 hs1 hl1 hps=>?_
 walk_at"*"
 have gS:=b0m hS.trail
 have gY:=b0m hY.keys
 walk_at"*"
 refine d0s (UniI σ n y S c1 c2 p e) 1
  ⟨_,?_,[(c1,c2)],S,rfl,(hs1.app.mono (by exact nofun)),(hS.same hs1 (by exact nofun)).app,by exact ge0 ‹_›,.inl ⟨rfl,rfl,rfl⟩⟩ λj l σ' ⟨wk,S',el,hs,hS',hw,hr'⟩=>?_
 ·exact Sub.cons rfl (Sub.cons rfl (Sub.cons (by exact congrArg (λn=>some (AV.ref n)) ‹_›) (Sub.nil _)))
 subst el
 have lt:=hs.le
 walk_at"*"
 rcases hr' with⟨rfl,rfl,rfl⟩|⟨rfl,rfl,rfl⟩
 ·refine a0h (λ_=>?_) (λh=>by trivial)
  walk_at"*"
  refine y0p hw ?_
  have hw2:=a0d (p:=wkP []) hw
  have hs2:Same [n+2,n+3,n+4] σ (σ'.set (σ.length+3) (wkP [])):=hs.set (.inr (by exact LA [_] [] 111161344 rfl))
  have hS2:IsSt (σ'.set (σ.length+3) (wkP [])) n (y+1) S':=hS'.set (.inr (by exact LA [_,_] [] 125193595729665161441320 rfl gS))
  have hY2:IsSy (σ'.set (σ.length+3) (wkP [])) y ts fs:=hY.same hs2 (by simp;exact LA [_,_] [] 8380378004917623612671131984862240212344095439714197053919521756835712624603502227496 rfl hny)
  walk_at"*"
  refine b0g (c:=c1) W hS2 hd1 ?_
  walk_at"*"
  refine b0g (c:=c2) W hS2 hd2 ?_
  walk_at"*"
  refine a0h (λh=>absurd (of_decide_eq_true h).symm hne) (λ_=>?_)
  walk_at"*"
  refine b0d W ?_
  walk_at"*"
  refine b0d W ?_
  walk_at"*"
  have fin: ∀(σ₃:Sig) (l₃:Loc),Sub ([("store",.ref (n+1)),("occurs",.bool true),("work",.ref (σ.length+3))]:Loc) l₃→σ₃=putSt (σ'.set (σ.length+3) (wkP [])) n (uni S' p e)→WNext (UniI σ n y S' c1 c2 p e) 1 l₃ σ₃:=by
   intro σ₃ l₃ hl e3
   subst e3
   exact⟨0,_,by exact LA [] [] 7361 rfl,hl,[],_,rfl,hs2.put (by exact .head _) (by exact .tail _ (.head _)) (by exact .tail _ (.tail _ (.head _))),hS2.put d1a,c0c hw2 (by exact LA [_,_] [] 140955457769324559312527340363386466344 rfl gS),.inr ⟨rfl,rfl,rfl⟩⟩
  refine a0h (λh=>?_) (λh=>?_)
  ·have he0:e.1=0:=by simp only[Bool.or_eq_true,beq_iff_eq]at h;rcases h with h|h;exact h;exact absurd h he1
   obtain⟨a,b⟩:=e
   simp only at he0 he
   subst he0
   refine a0m (he rfl) λhb0 hb1=>?_
   walk_at"*"
   refine o0z W hS2 (p:=p) (q:=b) (λe=>hne (by rw[e])) h0 hp hb0 hb1 ht ?_
   walk_at"*"
   exact fin _ _ (Sub.cons rfl (Sub.cons rfl (Sub.cons rfl (Sub.nil _)))) rfl
  ·have he0:e.1≠0:=by simp only[Bool.or_eq_false_iff,beq_eq_false_iff_ne]at h;exact h.1
   walk_at"*"
   refine l0g (c:=e) W hS2 hY2 hee hne hr h0 hp ht ?_
   walk_at"*"
   exact fin _ _ (Sub.cons rfl (Sub.cons rfl (Sub.cons rfl (Sub.nil _)))) (by unfold uni;rw[if_neg he0])
 ·refine a0h (λh=>by trivial) (λ_=>?_)
  walk_at"*"
  exact Fin.st hcl rfl hs hS' trivial h
end
noncomputable def vn(c:Cel):Int:=if c.1=0 then c.2 else -1 - c.2
noncomputable def isV(c:Cel):Bool:=c.1==0||c.1==1
noncomputable def isC(c:Cel):Bool:=c.1==2||c.1==3
abbrev b0k:=List (Int×Int)
noncomputable def b0o(F:b0k)(k:Int):Option Int:=(F.find? λp=>p.1=k).map (·.2)
noncomputable def a0u(F:b0k):List (Int×AV):=F.map λp=>(p.1,.int p.2)
theorem d0w(F:b0k)(k:Int):g0d (a0u F) k=(b0o F k).map .int:=by
 unfold g0d a0u b0o
 rw[List.find?_map]
 simp only[Option.map_map]
 rfl
theorem y0t{F:b0k}{k v:Int}(h:b0o F k=none):n0c (a0u F) k (.int v)=a0u (F++[(k,v)]):=by
 unfold n0c
 rw[if_neg]
 ·simp[a0u]
 ·intro q
  unfold b0o at h
  simp only[Option.map_eq_none_iff,List.find?_eq_none]at h
  simp only[a0u,List.any_map,List.any_eq_true]at q
  refine a0a (q) λx hx hk=>?_
  exact h x hx hk
inductive VtStep(Rr:List (Cel×Cel)→(Int→Bool)→Nat→b0k→b0k→Bool→Prop)(S:Sto)(fs:List Cel)(span:Int)(d e:Cel)(wk:List (Cel×Cel))(T:Int→Bool)(k:Nat)(F B:b0k)(r:Bool):Prop
 |new (h1:isV d=true) (h2:isV e=true) (h3:b0o F (vn d)=none) (h4:b0o B (vn e)=none) (h5:F.length≤100000) (h6:B.length≤100000) (h:Rr wk T k (F++[(vn d,vn e)]) (B++[(vn e,vn d)]) r)
 |ok (h1:isV d=true) (h2:isV e=true) (h3:b0o F (vn d)=some (vn e)) (h:Rr wk T k F B r)
 |bad (h1:isV d=true) (h2:isV e=true) (h3:b0o F (vn d)=none∧b0o B (vn e)≠none∨∃b,b0o F (vn d)=some b∧b≠vn e) (h:r=false)
 |mixed (h1:isV d≠isV e) (h:r=false)
 |shape {f:Int} {args:List Cel} (h1:isV d=false) (h2:isV e=false) (h3:IsBlk S fs d f args) (h4:isC e=false∨∃g args',IsBlk S fs e g args'∧f≠g) (h:r=false)
 |seen {f:Int} {args args':List Cel} (h1:isV d=false) (h2:isV e=false) (h3:IsBlk S fs d f args) (h4:IsBlk S fs e f args') (h5:T (d.2*span+e.2)=true) (h6:d.2.natAbs<2^64) (h7:k+1<4096) (h:Rr wk T k F B r)
 |push {f:Int} {args args':List Cel} (h1:isV d=false) (h2:isV e=false) (h3:IsBlk S fs d f args) (h4:IsBlk S fs e f args') (h5:T (d.2*span+e.2)=false) (h6:d.2.natAbs<2^64) (h7:k+1<4096) (h8:args.length+wk.length<1000000) (h:Rr (args.zip args'++wk) (λx=>T x||decide (x=d.2*span+e.2)) (k+1) F B r)
 |eq (h1:isV d=false) (h2:isV e=false) (h3:isC d=false) (h4:d=e) (h:Rr wk T k F B r)
 |ne (h1:isV d=false) (h2:isV e=false) (h3:isC d=false) (h4:d≠e) (h:r=false)
inductive VtGo(Rr:List (Cel×Cel)→(Int→Bool)→Nat→b0k→b0k→Bool→Prop)(S:Sto)(fs:List Cel)(span:Int)(c c':Cel)(wk:List (Cel×Cel))(T:Int→Bool)(k:Nat)(F B:b0k)(r:Bool):Prop
 |mk (q q':Nat) (d e:Cel) (h1:a0i S q c=some d) (h2:a0i S q' c'=some e) (h:VtStep Rr S fs span d e wk T k F B r)
noncomputable def e0h(S:Sto)(fs:List Cel)(span:Int):Nat→List (Cel×Cel)→(Int→Bool)→Nat→b0k→b0k→Bool→Prop
 |0,wk,_,_,_,_,r=>wk=[]∧r=true
 |j+1,wk,T,k,F,B,r=>match wk with
  |[]=>False
  |p::wk=>VtGo (e0h S fs span j) S fs span p.1 p.2 wk T k F B r
section
variable {S:Sto} {fs:List Cel} {span:Int} {j q q':Nat} {c c' d e:Cel} {wk:List (Cel×Cel)} {T:Int→Bool} {k:Nat} {F B:b0k} {r:Bool} {f:Int} {args args':List Cel}
theorem e0h.nil:e0h S fs span 0 [] T k F B true:=⟨rfl,rfl⟩
theorem e0h.fin(h:e0h S fs span j [] T k F B r):r=true:=by
 cases j with
 |zero=>exact h.2
 |succ j=>exact h.elim
theorem e0h.go(h1:a0i S q c=some d)(h2:a0i S q' c'=some e)(h:VtStep (e0h S fs span j) S fs span d e wk T k F B r):e0h S fs span (j+1) ((c,c')::wk) T k F B r:=⟨q,q',d,e,h1,h2,h⟩
end
section
variable {G:Gx} {m:Nat} {cenv:Env} {loc:Loc} {σ:Sig} {n y:Nat} {S:Sto} {ts:List PySem.Str} {fs:List Cel} {sy:Nat}
theorem inM{hm: ∃o,G.base.get? sysModules=some o}{i:Nat}{F:b0k}{k:Int}{Q:AV→Sig→Prop}(ei:σ[i]?=some (.dictI (a0u F)))(h:Q (.bool (!(b0o F k).isSome)) σ):b0e G m .NotIn (.int k) (.ref i) σ Q:=
 m0p hm ei (by rw[d0w,Option.isSome_map];exact h)
theorem j1y{i:Nat}{F:b0k}{k v:Int}{Q:Sig→Prop}(hi:σ[i]?=some (.dictI (a0u F)))(hk:b0o F k=none)(hz:F.length≤1000000)(h:Q (σ.set i (.dictI (a0u (F++[(k,v)]))))):a0y G m (.ref i) (.int k) (.int v) σ Q:=
 f0h hi (by simpa[a0u]using hz) (by rw[y0t hk];exact h)
noncomputable def vtL(n N:Nat):Loc:=[("store",.ref (n+1)),("forward",.ref N),("backward",.ref (N+1)),("met",.ref (N+3)),("work",.ref (N+5))]
inductive vtI(σ:Sig)(S:Sto)(fs:List Cel)(n:Nat)(r:Bool)(j:Nat)(l:Loc)(σ':Sig):Prop
 |mk (wk:List (Cel×Cel)) (T:Int→Bool) (k:Nat) (F B:b0k) (el:l=vtL n σ.length) (hs:Same [] σ σ') (hF:σ'[σ.length]?=some (.dictI (a0u F))) (hB:σ'[σ.length+1]?=some (.dictI (a0u B))) (hP:IsPs σ' (σ.length+2) (S.heap.length+1) T k) (hw:σ'[σ.length+5]?=some (wkP wk)) (hr:e0h S fs (S.heap.length+1) j wk T k F B r)
theorem n0k{n N:Nat}{l:Loc}(h1:List.lookup (PySem.Str.ofString "store") l=some (AV.ref (n+1)))(h2:List.lookup (PySem.Str.ofString "forward") l=some (AV.ref N))(h3:List.lookup (PySem.Str.ofString "backward") l=some (AV.ref (N+1)))(h4:List.lookup (PySem.Str.ofString "met") l=some (AV.ref (N+3)))(h5:List.lookup (PySem.Str.ofString "work") l=some (AV.ref (N+5))):Sub (vtL n N) l:=
 Sub.cons h1 (Sub.cons h2 (Sub.cons h3 (Sub.cons h4 (Sub.cons h5 (Sub.nil _)))))
theorem n0j(W:WOk G (hd.heap_1 G.w.params))(hm: ∃o,G.base.get? sysModules=some o)(hS:IsSt σ n (y+1) S)(hY:IsSy σ y ts fs){c c':Cel}{r:Bool}{j:Nat}(hr:e0h S fs (S.heap.length+1) j [(c,c')] (λ_=>false) 0 [] [] r){Q:AV→Sig→Prop}
  (h:Q (.bool r) σ):a0b G (m+4) (.ref 488) [.ref (n+1),c.av,c'.av] σ Q:=by
 refine a0x W (by k_is) (by k_is) (e0y (p:="store") (q:="c1") (o:="c2") λv u t=>rfl) rfl rfl (by decide) (by decide) rfl rfl rfl (λL qq fu co hcl=>?_)
 have gS:=b0m hS.trail
 have gY:=b0m hY.keys
 walk_at"*"
 have hS0:IsSt (σ++[.dictI []]++[.dictI []]) n (y+1) S:=hS.app.app
 walk_at"*"
 refine m0z W hS0 λσ1 hs1 hl1 hps=>?_
 have e2:(σ++[AObj.dictI []]++[AObj.dictI []]).length=σ.length+2:=by exact ln2
 have e5:σ1.length=σ.length+5:=by rw[hl1,e2]
 rw[e2]at hps
 walk_at"*"
 refine d0s (vtI σ S fs n r) j ⟨vtL n σ.length,?_,[(c,c')],_,0,[],[],rfl,((Same.refl _ _).app.app.trans hs1).app,?_,?_,hps.app,by exact ge0 ‹_›,hr⟩ λj l σ' ⟨wk,T,k,F,B,el,hs,hF,hB,hps,hw,hr⟩=>?_
 ·exact n0k rfl (by rfl) (by simp<;>rfl) (by simp<;>rfl) (by exact congrArg (λn=>some (AV.ref n)) ‹_›)
 ·exact a0j (hs1.get (by exact gn1) (by exact nofun))
 ·exact a0j (hs1.get (by exact gn2) (by exact nofun))
 subst el
 have hS':=hS.same hs (by exact nofun)
 have hY':=hY.same hs (by exact nofun)
 have lt:=hs.le
 unfold vtL
 walk_at"*"
 refine a0h (λh1=>?_) (λh1=>?_)
 ·obtain _|⟨⟨a,a'⟩,wk⟩:=wk
  ·trivial
  obtain _|j':=j
  ·exact absurd hr.1 (List.cons_ne_nil _ _)
  obtain⟨q,q',d,e,hd,he,hst⟩:=hr
  walk_at"*"
  refine y0p hw ?_
  have hS2:IsSt (σ'.set (σ.length+5) (wkP wk)) n (y+1) S:=hS'.set (.inr (by exact LA [_,_] [] 200751459455579484860456 rfl gS))
  have hF2:=a0c (p:=wkP wk) (j:=σ.length+5) hF (by exact LA [_] [] 178270281 rfl)
  have hB2:=a0c (p:=wkP wk) (j:=σ.length+5) hB (by exact LA [_] [] 7709644566601 rfl)
  have hP2:IsPs (σ'.set (σ.length+5) (wkP wk)) (σ.length+2) (S.heap.length+1) T k:=hps.set (.inr (by exact LA [_] [] 191416257837281665 rfl))
  have hw2:=a0d (p:=wkP wk) hw
  have hs2:Same [] σ (σ'.set (σ.length+5) (wkP wk)):=hs.set (.inr (by exact LA [_] [] 178270208 rfl))
  have hY2:=hY.same hs2 (by exact nofun)
  generalize hσ2:σ'.set (σ.length+5) (wkP wk)=σ2 at hS2 hF2 hB2 hP2 hw2 hs2 hY2⊢
  have next: ∀l₃,Sub (vtL n σ.length) l₃→e0h S fs (S.heap.length+1) j' wk T k F B r→WNext (vtI σ S fs n r) (j'+1) l₃ σ2:=λl₃ hl hr=>⟨j',_,by exact LA [_] [] 7352321 rfl,hl,wk,T,k,F,B,rfl,hs2,hF2,hB2,hP2,hw2,hr⟩
  have stop:r=false→Fin σ Q (.ret (.bool false)) σ2:=λe=>Fin.of rfl _ hs2.eq0 hcl trivial (e▸h)
  walk_at"*"
  refine b0g (c:=a) W hS2 hd ?_
  walk_at"*"
  refine b0g (c:=a') W hS2 he ?_
  walk_at"*"
  refine b0d W ?_
  walk_at"*"
  have eV: ∀c:Cel,(c.1==0||c.1==1)=isV c:=λ_=>rfl
  have eC: ∀c:Cel,(c.1==2||c.1==3)=isC c:=λ_=>rfl
  rw[eV]
  cases hvd:isV d with
  |true=>
   walk_at"*"
   refine b0d W ?_
   walk_at"*"
   rw[eV]
   cases hve:isV e with
   |true=>
    walk_at"*"
    refine e0p (c:=d) W ?_
    rw[show(if d.1=0 then d.2 else -1 - d.2)=vn d from rfl]
    walk_at"*"
    refine e0p (c:=e) W ?_
    rw[show(if e.1=0 then e.2 else -1 - e.2)=vn e from rfl]
    walk_at"*"
    refine inM (hm:=hm) hF2 ?_
    walk_at"*"
    cases hf:b0o F (vn d)with
    |none=>
     walk_at"*"
     refine inM (hm:=hm) hB2 ?_
     walk_at"*"
     cases hb:b0o B (vn e)with
     |none=>
      walk_at"*"
      obtain⟨z1,z2,hr⟩:F.length≤100000∧B.length≤100000∧e0h S fs (S.heap.length+1) j' wk T k (F++[(vn d,vn e)]) (B++[(vn e,vn d)]) r:=by
       cases hst with
       |new _ _ _ _ z1 z2 hr=>exact⟨z1,z2,hr⟩
       |ok _ _ h=>rw[hf]at h;(exact b0n h)
       |bad _ _ h=>
        rcases h with⟨_,h⟩|⟨b,h,_⟩
        ·exact absurd hb h
        ·rw[hf]at h;(exact b0n h)
       |mixed h=>rw[hvd,hve]at h;exact absurd rfl h
       |shape h=>rw[hvd]at h;(exact a0t h.symm)
       |seen h=>rw[hvd]at h;(exact a0t h.symm)
       |push h=>rw[hvd]at h;(exact a0t h.symm)
       |eq h=>rw[hvd]at h;(exact a0t h.symm)
       |ne h=>rw[hvd]at h;(exact a0t h.symm)
      walk_at"*"
      refine j1y hF2 hf (by exact LA [_] [] 7253556466931544423235592 rfl z1) ?_
      walk_at"*"
      refine j1y (a0c hB2 (by exact LA [_] [] 235274313 rfl)) hb (by exact LA [_] [] 7253556466931544423235592 rfl z2) ?_
      walk_at"*"
      exact⟨j',_,by exact LA [_] [] 7352321 rfl,n0k rfl rfl rfl rfl rfl,wk,T,k,_,_,rfl,(hs2.set (.inr (by exact LA [_] [] 0 rfl))).set (.inr (by exact LA [_] [] 7352320 rfl)),a0c (a0d hF2) (by exact LA [_] [] 7352393 rfl),a0d (a0c hB2 (by exact LA [_] [] 235274313 rfl)),(hP2.set (by exact LA [_] [] 2732784689331864731687 rfl)).set (by exact LA [_] [] 277765594686179075009983557671 rfl),a0c (a0c hw2 (by exact LA [_] [] 5704646729 rfl)) (by exact LA [_] [] 5841565528137 rfl),hr⟩
     |some b=>
      walk_at"*"
      refine inM (hm:=hm) hF2 ?_
      rw[hf]
      walk_at"*"
      refine stop ?_
      cases hst with
      |new _ _ _ h=>rw[hb]at h;(exact b0n h.symm)
      |ok _ _ h=>rw[hf]at h;(exact b0n h)
      |bad _ _ _ h=>exact h
      |mixed _ h=>exact h
      |shape h=>rw[hvd]at h;(exact a0t h.symm)
      |seen h=>rw[hvd]at h;(exact a0t h.symm)
      |push h=>rw[hvd]at h;(exact a0t h.symm)
      |eq h=>rw[hvd]at h;(exact a0t h.symm)
      |ne h=>rw[hvd]at h;(exact a0t h.symm)
    |some b=>
     walk_at"*"
     refine inM (hm:=hm) hF2 ?_
     rw[hf]
     walk_at"*"
     refine d0h (x:=.int b) hF2 (by rw[d0w,hf];rfl) ?_
     walk_at"*"
     refine a0h (λh=>?_) (λh=>?_)
     ·simp only[bne_iff_ne,ne_eq]at h
      walk_at"*"
      refine stop ?_
      cases hst with
      |new _ _ h=>rw[hf]at h;(exact b0n h.symm)
      |ok _ _ h'=>rw[hf]at h';cases h';exact absurd rfl h
      |bad _ _ _ h=>exact h
      |mixed _ h=>exact h
      |shape h=>rw[hvd]at h;(exact a0t h.symm)
      |seen h=>rw[hvd]at h;(exact a0t h.symm)
      |push h=>rw[hvd]at h;(exact a0t h.symm)
      |eq h=>rw[hvd]at h;(exact a0t h.symm)
      |ne h=>rw[hvd]at h;(exact a0t h.symm)
     ·have hb:b=vn e:=by simpa using h
      walk_at"*"
      refine next _ (n0k rfl rfl rfl rfl rfl) ?_
      cases hst with
      |new _ _ h=>rw[hf]at h;(exact b0n h.symm)
      |ok _ _ _ h=>exact h
      |bad _ _ h=>
       rcases h with⟨h,_⟩|⟨b',h,h'⟩
       ·rw[hf]at h;(exact b0n h.symm)
       ·rw[hf]at h;cases h;exact absurd hb h'
      |mixed h=>rw[hvd,hve]at h;exact absurd rfl h
      |shape h=>rw[hvd]at h;(exact a0t h.symm)
      |seen h=>rw[hvd]at h;(exact a0t h.symm)
      |push h=>rw[hvd]at h;(exact a0t h.symm)
      |eq h=>rw[hvd]at h;(exact a0t h.symm)
      |ne h=>rw[hvd]at h;(exact a0t h.symm)
   |false=>
    walk_at"*"
    refine b0d W ?_
    walk_at"*"
    rw[eV,hvd]
    walk_at"*"
    refine stop ?_
    cases hst with
    |new _ h=>rw[hve]at h;(exact a0t h)
    |ok _ h=>rw[hve]at h;(exact a0t h)
    |bad _ h=>rw[hve]at h;(exact a0t h)
    |mixed _ h=>exact h
    |shape h=>rw[hvd]at h;(exact a0t h.symm)
    |seen h=>rw[hvd]at h;(exact a0t h.symm)
    |push h=>rw[hvd]at h;(exact a0t h.symm)
    |eq h=>rw[hvd]at h;(exact a0t h.symm)
    |ne h=>rw[hvd]at h;(exact a0t h.symm)
  |false=>
   walk_at"*"
   refine b0d W ?_
   walk_at"*"
   rw[eV,hvd]
   walk_at"*"
   refine b0d W ?_
   walk_at"*"
   rw[eV]
   cases hve:isV e with
   |true=>
    walk_at"*"
    refine stop ?_
    cases hst with
    |new h=>rw[hvd]at h;(exact a0t h)
    |ok h=>rw[hvd]at h;(exact a0t h)
    |bad h=>rw[hvd]at h;(exact a0t h)
    |mixed _ h=>exact h
    |shape _ h=>rw[hve]at h;(exact a0t h.symm)
    |seen _ h=>rw[hve]at h;(exact a0t h.symm)
    |push _ h=>rw[hve]at h;(exact a0t h.symm)
    |eq _ h=>rw[hve]at h;(exact a0t h.symm)
    |ne _ h=>rw[hve]at h;(exact a0t h.symm)
   |false=>
    walk_at"*"
    refine a0p (c:=d) W ?_
    walk_at"*"
    rw[eC]
    cases hcd:isC d with
    |true=>
     walk_at"*"
     refine a0p (c:=e) W ?_
     walk_at"*"
     rw[eC]
     cases hce:isC e with
     |false=>
      walk_at"*"
      refine stop ?_
      cases hst with
      |new h=>rw[hvd]at h;(exact a0t h)
      |ok h=>rw[hvd]at h;(exact a0t h)
      |bad h=>rw[hvd]at h;(exact a0t h)
      |mixed _ h=>exact h
      |shape _ _ _ _ h=>exact h
      |seen _ _ _ h=>have:=h.comp;rw[eC,hce]at this;(exact a0t this)
      |push _ _ _ h=>have:=h.comp;rw[eC,hce]at this;(exact a0t this)
      |eq _ _ h=>rw[hcd]at h;(exact a0t h.symm)
      |ne _ _ h=>rw[hcd]at h;(exact a0t h.symm)
     |true=>
      walk_at"*"
      obtain⟨f,g,args,args',hBd,hBe,hrest⟩: ∃f g args args',IsBlk S fs d f args∧IsBlk S fs e g args'∧(f≠g∧r=false∨f=g∧d.2.natAbs<2^64∧k+1<4096∧((T (d.2*(S.heap.length+1)+e.2)=true∧e0h S fs (S.heap.length+1) j' wk T k F B r)∨
        (T (d.2*(S.heap.length+1)+e.2)=false∧args.length+wk.length<1000000∧e0h S fs (S.heap.length+1) j' (args.zip args'++wk) (λx=>T x||decide (x=d.2*(S.heap.length+1)+e.2)) (k+1) F B r))):=by
       cases hst with
       |new h=>rw[hvd]at h;(exact a0t h)
       |ok h=>rw[hvd]at h;(exact a0t h)
       |bad h=>rw[hvd]at h;(exact a0t h)
       |mixed h=>rw[hvd,hve]at h;exact absurd rfl h
       |shape _ _ h1 h2 h3=>
        rcases h2 with h2|⟨g,args',h2,h4⟩
        ·rw[hce]at h2;(exact a0t h2.symm)
        ·exact⟨_,g,_,args',h1,h2,.inl ⟨h4,h3⟩⟩
       |seen _ _ h1 h2 h3 h4 h5 h6=>exact⟨_,_,_,_,h1,h2,.inr ⟨rfl,h4,h5,.inl ⟨h3,h6⟩⟩⟩
       |push _ _ h1 h2 h3 h4 h5 h6 h7=>exact⟨_,_,_,_,h1,h2,.inr ⟨rfl,h4,h5,.inr ⟨h3,h6,h7⟩⟩⟩
       |eq _ _ h=>rw[hcd]at h;(exact a0t h.symm)
       |ne _ _ h=>rw[hcd]at h;(exact a0t h.symm)
      refine o0h (c:=d) (e:=e) W hS2 (hBd.shape hBe) ?_
      walk_at"*"
      rcases hrest with⟨hfg,hr0⟩|⟨rfl,hd64,hk,hrest⟩
      ·rw[show decide (f=g)=false by exact decide_eq_false ‹_›]
       walk_at"*"
       exact stop hr0
      ·rw[show decide (f=f)=true by exact decide_eq_true rfl]
       walk_at"*"
       refine .mk _ (i0r W hP2.inst hP2.ns (by rfl) (by k_is) (by k_is) (by k_is)) (f1a W (by k_is)) ?_
       walk_at"*"
       refine b1k (c:=d) (e:=e) W hP2 hd64 hk (λhT=>?_) (λhT=>?_)
       ·walk_at"*"
        refine next _ (n0k rfl rfl rfl rfl rfl) ?_
        rcases hrest with⟨_,hr⟩|⟨hT',_⟩
        ·exact hr
        ·rw[hT]at hT';(exact a0t hT'.symm)
       ·refine b0l (hrest.resolve_left (λh=>by rw[hT]at h;cases h.1)) λ_ hz hr=>?_
        walk_at"*"
        have hs3:=hs2.set (i:=σ.length+2+2) (o:=.set (λx=>T x||decide (x=d.2*(S.heap.length+1)+e.2)) (k+1)) (.inr (by exact LA [_] [] 2545104072704 rfl))
        have hS3:=hS.same hs3 (by exact nofun)
        have hY3:=hY.same hs3 (by exact nofun)
        have hw3:=a0c (p:=.set (λx=>T x||decide (x=d.2*(S.heap.length+1)+e.2)) (k+1)) (j:=σ.length+2+2) hw2 (by exact LA [_] [] 6125320250793013321 rfl)
        walk_at"*"
        refine o0g (c:=d) (e:=e) W hS3 hY3 hBd hBe hw3 ⟨.inr (by exact LA [_,_] [] 200751459455579484860456 rfl gS),.inr (by exact LA [_,_] [] 200751495484376537378856 rfl gY)⟩ hz ?_
        walk_at"*"
        refine⟨j',_,by exact LA [_] [] 7352321 rfl,n0k rfl rfl rfl rfl rfl,args.zip args'++wk,_,k+1,F,B,rfl,hs3.set (.inr (by exact LA [_] [] 178270208 rfl)),a0c (a0c hF2 (by exact LA [_] [] 2545104072777 rfl)) (by exact LA [_] [] 178270281 rfl),a0c (a0c hB2 (by exact LA [_] [] 252626336701886537 rfl)) (by exact LA [_] [] 7709644566601 rfl),?_,a0d hw3,hr⟩
        exact⟨a0c (a0c hP2.ns (by exact LA [_] [] 2666555736972472393 rfl)) (by exact LA [_] [] 81376923627593 rfl),a0c (a0c hP2.inst (by exact LA [_] [] 8349471471919237050441 rfl)) (by exact LA [_] [] 254805648047353929 rfl),a0c (a0d hP2.met) (by exact LA [_] [] 2668735048317939785 rfl)⟩
    |false=>
     walk_at"*"
     have hst':(d=e∧e0h S fs (S.heap.length+1) j' wk T k F B r)∨(d≠e∧r=false):=by
      cases hst with
      |new h=>rw[hvd]at h;(exact a0t h)
      |ok h=>rw[hvd]at h;(exact a0t h)
      |bad h=>rw[hvd]at h;(exact a0t h)
      |mixed h=>rw[hvd,hve]at h;exact absurd rfl h
      |shape _ _ h=>have:=h.comp;rw[eC,hcd]at this;(exact a0t this)
      |seen _ _ h=>have:=h.comp;rw[eC,hcd]at this;(exact a0t this)
      |push _ _ h=>have:=h.comp;rw[eC,hcd]at this;(exact a0t this)
      |eq _ _ _ h1 h2=>exact .inl ⟨h1,h2⟩
      |ne _ _ _ h1 h2=>exact .inr ⟨h1,h2⟩
     rcases hst' with⟨rfl,hr⟩|⟨hne,hr⟩
     ·rw[decide_eq_true (rfl:(d.1,d.2)=(d.1,d.2))]
      walk_at"*"
      exact next _ (n0k rfl rfl rfl rfl rfl) hr
     ·rw[decide_eq_false (show¬(d.1,d.2)=(e.1,e.2)from hne)]
      walk_at"*"
      exact stop hr
 ·obtain _|⟨c',wk⟩:=wk
  ·have er:=hr.fin
   subst er
   walk_at"*"
   exact Fin.of rfl _ hs.eq0 hcl trivial h
  ·simp at h1
end
abbrev b0b:=List (Int×Cel)
noncomputable def a0o(F:b0b)(k:Int):Option Cel:=(F.find? λp=>p.1=k).map (·.2)
noncomputable def b0v(F:b0b):List (Int×AV):=F.map λp=>(p.1,p.2.av)
theorem l0m(F:b0b)(k:Int):g0d (b0v F) k=(a0o F k).map Cel.av:=by
 unfold g0d b0v a0o
 rw[List.find?_map]
 simp only[Option.map_map]
 rfl
theorem y0s{F:b0b}{k:Int}{v:Cel}(h:a0o F k=none):n0c (b0v F) k v.av=b0v (F++[(k,v)]):=by
 unfold n0c
 rw[if_neg]
 ·simp[b0v]
 ·intro q
  unfold a0o at h
  simp only[Option.map_eq_none_iff,List.find?_eq_none]at h
  simp only[b0v,List.any_map,List.any_eq_true]at q
  refine a0a (q) λx hx hk=>?_
  exact h x hx hk
theorem s0q(k:Nat): ∀F:b0b,AV.bdL k ((b0v F).map (·.2))
 |[]=>trivial
 |_::r=>⟨by trivial,s0q k r⟩
structure CpSt where
 H:List Cel
 tab:b0b
 made:b0b
 wt:List (Cel×Cel)
inductive CpItem(S:Sto)(fs:List Cel)(pos:Nat)(c:Cel)(s:CpSt):CpSt→Prop
 |varOld {q p x}:a0i {S with heap:=s.H} q c=some (0,p)→a0o s.tab p=some x→pos<s.H.length→CpItem S fs pos c s {s with H:=s.H.set pos x}
 |varNew {q p}:a0i {S with heap:=s.H} q c=some (0,p)→a0o s.tab p=none→s.tab.length≤100000→CpItem S fs pos c s {s with tab:=s.tab++[(p,(0,(pos:Int)))]}
 |leaf {q d}:a0i {S with heap:=s.H} q c=some d→(d.1==0)=false→isC d=false→pos<s.H.length→CpItem S fs pos c s {s with H:=s.H.set pos d}
 |old {q d b}:a0i {S with heap:=s.H} q c=some d→(d.1==0)=false→isC d=true→a0o s.made d.2=some b→pos<s.H.length→CpItem S fs pos c s {s with H:=s.H.set pos b}
 |new {q d f args}:a0i {S with heap:=s.H} q c=some d→(d.1==0)=false→IsBlk {S with heap:=s.H} fs d f args→a0o s.made d.2=none→s.made.length≤100000→s.wt.length<100000→s.H.length+2+args.length≤100000→pos<s.H.length→
   CpItem S fs pos c s {s with H:=(s.H++blk f s.H.length args.length).set pos (a0f f s.H.length),made:=s.made++[(d.2,a0f f s.H.length)],wt:=s.wt++[(d,a0f f s.H.length)]}
inductive CpFrom(S:Sto)(fs:List Cel)(src place k:Nat):Nat→CpSt→CpSt→Prop
 |nil {s}:CpFrom S fs src place k k s s
 |cons {i c s s1 s'}:i<k→s.H[src+i]?=some c→CpItem S fs (place+i) c s s1→CpFrom S fs src place k (i+1) s1 s'→CpFrom S fs src place k i s s'
inductive CpRun(S:Sto)(fs:List Cel):Nat→Nat→CpSt→CpSt→Prop
 |nil {k s}:k=s.wt.length→CpRun S fs 0 k s s
 |row {j k s s1 s' o w f args} {place:Nat}:s.wt[k]?=some (o,w)→IsBlk {S with heap:=s.H} fs o f args→args.length≤100000→bs w=(place:Int)→CpFrom S fs (bs o).toNat place args.length 0 s s1→CpRun S fs j (k+1) s1 s'→CpRun S fs (j+1) k s s'
theorem CpFrom.inv{S:Sto}{fs:List Cel}{src place k i:Nat}{s s':CpSt}(h:CpFrom S fs src place k i s s'):(i=k∧s=s')∨∃c s1,i<k∧s.H[src+i]?=some c∧CpItem S fs (place+i) c s s1∧CpFrom S fs src place k (i+1) s1 s':=by
 cases h with
 |nil=>exact .inl ⟨rfl,rfl⟩
 |cons h1 h2 h3 h4=>exact .inr ⟨_,_,h1,h2,h3,h4⟩
theorem CpRun.inv{S:Sto}{fs:List Cel}{j k:Nat}{s s':CpSt}(h:CpRun S fs j k s s'):(k=s.wt.length∧s=s')∨∃j' s1 o w f args,∃place:Nat,j=j'+1∧s.wt[k]?=some (o,w)∧IsBlk {S with heap:=s.H} fs o f args∧args.length≤100000∧bs w=(place:Int)∧CpFrom S fs (bs o).toNat place args.length 0 s s1∧CpRun S fs j' (k+1) s1 s':=by
 cases h with
 |nil h=>exact .inl ⟨h,rfl⟩
 |row h1 h2 h3 h4 h5 h6=>exact .inr ⟨_,_,_,_,_,_,_,rfl,h1,h2,h3,h4,h5,h6⟩
section
variable {G:Gx} {m:Nat} {cenv:Env} {loc:Loc} {σ:Sig} {n y:Nat} {S:Sto} {ts:List PySem.Str} {fs:List Cel} {sy:Nat}
theorem inC(hm: ∃o,G.base.get? sysModules=some o){i:Nat}{F:b0b}{k:Int}{Q:AV→Sig→Prop}(ei:σ[i]?=some (.dictI (b0v F)))(h:Q (.bool (a0o F k).isSome) σ):b0e G m .In (.int k) (.ref i) σ Q:=
 n0q hm ei (by rw[l0m,Option.isSome_map];exact h)
theorem t0s(hm: ∃o,G.base.get? sysModules=some o){i:Nat}{F:b0b}{k:Int}{Q:AV→Sig→Prop}(ei:σ[i]?=some (.dictI (b0v F)))(h:Q (.bool (!(a0o F k).isSome)) σ):b0e G m .NotIn (.int k) (.ref i) σ Q:=
 m0p hm ei (by rw[l0m,Option.isSome_map];exact h)
theorem c1u{i:Nat}{F:b0b}{k:Int}{v:Cel}{Q:Sig→Prop}(hi:σ[i]?=some (.dictI (b0v F)))(hk:a0o F k=none)(hz:F.length≤1000000)(h:Q (σ.set i (.dictI (b0v (F++[(k,v)]))))):a0y G m (.ref i) (.int k) v.av σ Q:=
 f0h hi (by simpa[b0v]using hz) (by rw[y0s hk];exact h)
theorem z0e{value slice:Expr}{i:Nat}{F:b0b}{k:Int}{x:Cel}{Q:AV→Sig→Prop}(ei:σ[i]?=some (.dictI (b0v F)))(hx:a0o F k=some x)(h:Q x.av σ)
  (hs:autoParam (∀a u,subscripted slice false (.ref a) (.int k u)=operate [.ref a,.int k u] (getItem (.ref a) (.int k u))) aU):l0e G m value slice (.ref i) (.int k) σ Q:=
 d0h ei (by rw[l0m,hx];rfl) h hs
theorem Fin.stT{σ':Sig}{Q:AV→Sig→Prop}{fl:AFlow}{x:AV}{ti:Nat}{tab:b0b}(hcl:Cl σ.length σ)(hx:match fl with| .ret y=>x=y|_=>x=.none)(s:Same [n+2,n+3,n+4,ti] σ σ')(hS:IsSt σ' n sy S)(hT:σ'[ti]?=some (.dictI (b0v tab)))(b:x.bd σ.length)
  (q:Q x ((putSt σ n S).set ti (.dictI (b0v tab)))):Fin σ Q fl σ':=by
 refine Fin.of hx _ ?_ (hcl.putSt.set (o:=.dictI _) (s0q _ _)) b q
 apply List.ext_getElem?;intro i
 have:=s.le
 by_cases hi:i<σ.length
 ·rw[List.getElem?_take_of_lt hi]
  by_cases e:i=ti
  ·subst e;rw[hT,List.getElem?_set_self (by rw[e0n];exact hi)]
  ·rw[List.getElem?_set_ne (Ne.symm e)]
   unfold putSt
   by_cases e4:i=n+4
   ·subst e4;rw[hS.trail,List.getElem?_set_self (by simpa using hi)]
   ·rw[List.getElem?_set_ne (Ne.symm e4)]
    by_cases e3:i=n+3
    ·subst e3;rw[hS.stack,List.getElem?_set_self (by simpa using hi)]
    ·rw[List.getElem?_set_ne (Ne.symm e3)]
     by_cases e2:i=n+2
     ·subst e2;rw[hS.heap,List.getElem?_set_self (by simpa using hi)]
     ·rw[List.getElem?_set_ne (Ne.symm e2)];exact s.at_ i hi (by simp;exact LA [_,_,_] [] 1947004731304318723373776792112608991865060357559652045534843510924514212787424069928 rfl e e4 e3 e2)
 ·rw[List.getElem?_eq_none (by simp;exact LA [_,_,_] [] 2251637654824 rfl hi),List.getElem?_eq_none (by simp[e0n];exact LA [_,_] [] 1074791720 rfl hi)]
end
section
variable {G:Gx} {m:Nat} {cenv:Env} {loc:Loc} {σ:Sig} {n y:Nat} {S:Sto} {ts:List PySem.Str} {fs:List Cel} {sy:Nat}
noncomputable def cpL(n N ti:Nat)(first:Cel)(k:Nat):Loc:=[("store",.ref (n+1)),("table",.ref ti),("made",.ref N),("first",first.av),("waiting",.ref (N+1)),("at",.int k)]
theorem k0a{n N ti k:Nat}{first:Cel}{l:Loc}(h1:List.lookup (PySem.Str.ofString "store") l=some (AV.ref (n+1)))(h2:List.lookup (PySem.Str.ofString "table") l=some (AV.ref ti))(h3:List.lookup (PySem.Str.ofString "made") l=some (AV.ref N))(h4:List.lookup (PySem.Str.ofString "first") l=some first.av)(h5:List.lookup (PySem.Str.ofString "waiting") l=some (AV.ref (N+1)))(h6:List.lookup (PySem.Str.ofString "at") l=some (AV.int k)):Sub (cpL n N ti first k) l:=
 Sub.cons h1 (Sub.cons h2 (Sub.cons h3 (Sub.cons h4 (Sub.cons h5 (Sub.cons h6 (Sub.nil _))))))
noncomputable def i1q(n N ti:Nat)(first:Cel)(k:Nat)(a:Int)(b:Nat):Loc:=(PySem.Str.ofString "source",.int a)::(PySem.Str.ofString "place",.int b)::cpL n N ti first k
theorem w0v{n N ti k b:Nat}{a:Int}{first:Cel}{l:Loc}(h1:List.lookup (PySem.Str.ofString "source") l=some (AV.int a))(h2:List.lookup (PySem.Str.ofString "place") l=some (AV.int b))(h:Sub (cpL n N ti first k) l):Sub (i1q n N ti first k a b) l:=Sub.cons h1 (Sub.cons h2 h)
structure CpIs (σ:Sig) (n y ti:Nat) (S:Sto) (s:CpSt) (σ':Sig):Prop where
 same:Same [n+2,n+3,n+4,ti] σ σ'
 st:IsSt σ' n (y+1) {S with heap:=s.H}
 tab:σ'[ti]?=some (.dictI (b0v s.tab))
 made:σ'[σ.length]?=some (.dictI (b0v s.made))
 wt:σ'[σ.length+1]?=some (.list (s.wt.map y0q))
theorem CpIs.setH{σ σ':Sig}{n y ti:Nat}{S:Sto}{s:CpSt}{H:List Cel}(h:CpIs σ n y ti S s σ')(ht:ti<n∨n+4<ti)(hn:n+4<σ.length):CpIs σ n y ti S {s with H:=H} (σ'.set (n+2) (.list (H.map Cel.av))):=
 ⟨h.same.set (by exact .inl (.head _)),h.st.setHeap,a0c h.tab (by exact LA [_,_] [] 2797266901591278675297512 rfl ht),a0c h.made (by exact LA [_,_] [] 39560043848766861352 rfl hn),a0c h.wt (by exact LA [_,_] [] 266078503074887920267304 rfl hn)⟩
theorem CpIs.putH{σ σ':Sig}{n y ti:Nat}{S:Sto}{s:CpSt}{H:List Cel}(h:CpIs σ n y ti S s σ')(ht:ti<n∨n+4<ti)(hn:n+4<σ.length):CpIs σ n y ti S {s with H:=H} (putSt σ' n {S with heap:=H}):=
 ⟨h.same.put (by exact .head _) (by exact .tail _ (.head _)) (by exact .tail _ (.tail _ (.head _))),h.st.put rfl,c0c h.tab (by exact LA [_,_] [] 5599689397635672225885762870052072 rfl ht),c0c h.made (by exact LA [_,_] [] 44953152289654086101035397160 rfl hn),c0c h.wt (by exact LA [_,_] [] 292558943331808996854683515815473192 rfl hn)⟩
theorem CpIs.setT{σ σ':Sig}{n y ti:Nat}{S:Sto}{s:CpSt}{T:b0b}(h:CpIs σ n y ti S s σ')(ht:ti<n∨n+4<ti)(hn:ti<σ.length):CpIs σ n y ti S {s with tab:=T} (σ'.set ti (.dictI (b0v T))):=
 ⟨h.same.set (by exact .inl (.tail _ (.tail _ (.tail _ (.head _))))),h.st.set ht,a0d h.tab,a0c h.made (by exact LA [_,_] [] 34436317224 rfl hn),a0c h.wt (by exact LA [_,_] [] 247802509688872 rfl hn)⟩
theorem CpIs.setM{σ σ':Sig}{n y ti:Nat}{S:Sto}{s:CpSt}{T:b0b}(h:CpIs σ n y ti S s σ')(hn:n+4<σ.length)(ht:ti<σ.length):CpIs σ n y ti S {s with made:=T} (σ'.set σ.length (.dictI (b0v T))):=
 ⟨h.same.set (.inr (Nat.le_refl _)),h.st.set (.inr (by omega)),a0c h.tab (by exact LA [_,_] [] 1150320680 rfl ht),a0d h.made,a0c h.wt (by exact LA [_] [] 235274313 rfl)⟩
theorem CpIs.setW{σ σ':Sig}{n y ti:Nat}{S:Sto}{s:CpSt}{w:List (Cel×Cel)}(h:CpIs σ n y ti S s σ')(hn:n+4<σ.length)(ht:ti<σ.length):CpIs σ n y ti S {s with wt:=w} (σ'.set (σ.length+1) (.list (w.map y0q))):=
 ⟨h.same.set (.inr (by exact LA [_] [] 7352320 rfl)),h.st.set (.inr (by exact LA [_,_] [] 8315025278641442402344 rfl hn)),a0c h.tab (by exact LA [_,_] [] 7743902613544 rfl ht),a0c h.made (by exact LA [_] [] 7352393 rfl),a0d h.wt⟩
theorem h1z{i:Nat}{wk:List (Cel×Cel)}{c e:Cel}{Q:AV→Sig→Prop}(hi:σ[i]?=some (.list (wk.map y0q)))(hz:wk.length<1000000)(h:Q .none (σ.set i (.list ((wk++[(c,e)]).map y0q)))):a0b G m (.builtin "list.append") [.ref i,.tup [c.av,e.av]] σ Q:=
 f0n hi (by simp;exact LA [_] [] 8462482286582457481658408 rfl hz) (by simpa using h)
theorem k1e{value slice:Expr}{i:Nat}{wk:List (Cel×Cel)}{k:Nat}{x:Cel×Cel}{Q:AV→Sig→Prop}(ei:σ[i]?=some (.list (wk.map y0q)))(hx:wk[k]?=some x)(h:Q (y0q x) σ)
  (hs:autoParam (∀(j:Int) a u,subscripted slice false (.ref a) (.int j u)=operate [.ref a,.int j u] (getItem (.ref a) (.int j u))) aU):l0e G m value slice (.ref i) (.int k) σ Q:=
 b0r ei (by exact LA [_] [] 18627 rfl) (by rw[List.getElem?_map,Int.toNat_natCast,hx];rfl) h (hs _)
inductive CpI(σ:Sig)(n y:Nat)(S:Sto)(fs:List Cel)(ti:Nat)(f:Int)(s':CpSt)(j:Nat)(l:Loc)(σ':Sig):Prop
 |mk (k:Nat) (s:CpSt) (x0:l=cpL n σ.length ti (a0f f S.heap.length) k) (x1:CpIs σ n y ti S s σ') (x2:CpRun S fs j k s s')
inductive CpF(σ:Sig)(n y:Nat)(S:Sto)(fs:List Cel)(ti:Nat)(f:Int)(k:Nat)(o:Cel)(place:Nat)(args':List Cel)(s1:CpSt)(i:Nat)(l:Loc)(σ':Sig):Prop
 |mk (s:CpSt) (x0:l=i1q n σ.length ti (a0f f S.heap.length) (k+1) (bs o) place) (x1:CpIs σ n y ti S s σ') (x2:CpFrom S fs (bs o).toNat place args'.length i s s1)
set_option tactic.hygienic true in
theorem p0c(W:WOk G (hd.heap_1 G.w.params))(hm: ∃o,G.base.get? sysModules=some o)(hS:IsSt σ n (y+1) S)(hY:IsSy σ y ts fs)(hny:y+5<n){ti:Nat}{tab:b0b}(hT:σ[ti]?=some (.dictI (b0v tab)))(hti:(ti<n∨n+4<ti)∧(ti<y∨y+5<ti)){c d:Cel}{q j:Nat}{f:Int}{args:List Cel}{s':CpSt}
  (hd:a0i S q c=some d) (hB:IsBlk S fs d f args) (hz:S.heap.length+2+args.length≤100000)
  (hr:CpRun S fs j 0 ⟨S.heap++blk f S.heap.length args.length,tab,[(d.2,a0f f S.heap.length)],[(d,a0f f S.heap.length)]⟩ s') {Q:AV→Sig→Prop}
  (h:Q (a0f f S.heap.length).av ((putSt σ n {S with heap:=s'.H}).set ti (.dictI (b0v s'.tab)))):a0b G (m+4) (.ref 460) [.ref (n+1),c.av,.ref ti] σ Q:=by
 refine a0x W (by k_is) (by k_is) (e0y (p:="store") (q:="cell") (o:="table") λv u t=>rfl) rfl rfl (by decide) (by decide) rfl rfl rfl (λL qq fu co hcl=>?_)
 have gS:=b0m hS.trail
 have gY:=b0m hY.keys
 have gT:=b0m hT
 have hdc:=hB.comp
 have hd0:(d.1==0)=false:=by rcases hB.k with⟨h,_⟩|⟨h,_⟩<;>simp[h]
 walk_at"*"
 refine c0j (c:=c) W hS hd (by rcases hB.k with⟨h,_⟩|⟨h,_⟩<;>omega) ?_
 walk_at"*"
 refine a0h (λh=>by rw[hd0]at h;(exact a0t h)) (λ_=>?_)
 walk_at"*"
 refine a0p (c:=d) W ?_
 rw[hdc]
 walk_at"*"
 have hS0:IsSt (σ++[.dictI []]) n (y+1) S:=hS.app
 have hY0:IsSy (σ++[.dictI []]) y ts fs:=hY.app
 walk_at"*"
 refine f0r W hS0 hB.fn ?_
 walk_at"*"
 obtain⟨a,hfa⟩: ∃a,f=0∨0<f∧fs[f.toNat]?=some (a,(args.length:Int)):=by
  rcases hB.k with⟨_,h,_⟩|⟨_,_,h,a,h'⟩
  ·exact⟨0,.inl h⟩
  ·exact⟨a,.inr ⟨h,h'⟩⟩
 refine e0o W hS0 hY0 hny hfa hz ?_
 have hS1:IsSt (putSt (σ++[.dictI []]) n {S with heap:=S.heap++blk f S.heap.length args.length}) n (y+1) _:=hS0.put rfl
 have hl1:(putSt (σ++[.dictI []]) n {S with heap:=S.heap++blk f S.heap.length args.length}).length=σ.length+1:=by rw[e0n];exact ln1
 have hs1:Same [n+2,n+3,n+4,ti] σ (putSt (σ++[.dictI []]) n {S with heap:=S.heap++blk f S.heap.length args.length}):=(Same.refl _ _).app.put (by exact .head _) (by exact .tail _ (.head _)) (by exact .tail _ (.tail _ (.head _)))
 have hM1:(putSt (σ++[.dictI []]) n {S with heap:=S.heap++blk f S.heap.length args.length})[σ.length]?=some (.dictI (b0v [])):=c0c (by exact gn0) (by exact LA [_,_] [] 44953152289654086101035397160 rfl gS)
 have hT1:(putSt (σ++[.dictI []]) n {S with heap:=S.heap++blk f S.heap.length args.length})[ti]?=some (.dictI (b0v tab)):=c0c (a0j hT) (by exact LA [_,_,_] [] 201750072676660245132947347963476023511948548152520 rfl hti)
 generalize putSt (σ++[.dictI []]) n {S with heap:=S.heap++blk f S.heap.length args.length}=σ1 at*
 walk_at"*"
 refine c1u (v:=a0f f S.heap.length) hM1 rfl (by simp) ?_
 walk_at"*"
 have hw0:CpIs σ n y ti S ⟨S.heap++blk f S.heap.length args.length,tab,[(d.2,a0f f S.heap.length)],[(d,a0f f S.heap.length)]⟩ (σ1.set σ.length (.dictI (b0v ([]++[(d.2,a0f f S.heap.length)])))++[.list [.tup [d.av,(a0f f S.heap.length).av]]]):=
  ⟨(hs1.set (.inr (Nat.le_refl _))).app,(hS1.set (.inr (by omega))).app,a0j (a0c hT1 (by exact LA [_,_] [] 1150320680 rfl gT)),a0j (a0d hM1),by
   rw[List.getElem?_append_right (by simp;exact LA [_,_] [] 7929678095843400 rfl hl1)];simp[hl1]⟩
 rw[List.length_set,hl1]
 walk_at"*"
 refine d0s (CpI σ n y S fs ti f s') j ⟨cpL n σ.length ti (a0f f S.heap.length) 0,?_,0,_,rfl,hw0,hr⟩ λj l σ' ⟨k,s,el,hI,hr⟩=>?_
 ·exact k0a rfl rfl (by simp<;>rfl) rfl (by simp<;>rfl) rfl
 subst el
 unfold cpL
 have hIw:=hI.wt
 have hIs:=hI.st
 walk_at"*"
 rcases hr.inv with⟨hk,rfl⟩|⟨j',s1,o,w,f',args',place,rfl,hk,hBo,haz,hbw,hfrom,hrest⟩
 ·refine a0h (λh1=>absurd (of_decide_eq_true h1) (by rw[hk];simp)) (λh1=>?_)
  walk_at"*"
  exact Fin.stT hcl rfl hI.same hI.st hI.tab (by trivial) h
 ·refine a0h (λ_=>?_) (λh1=>by
   exfalso
   have:=(List.getElem?_eq_some_iff.mp hk).1
   have h1:=of_decide_eq_false h1
   simp at h1;exact LA [_,_] [] 10996198441000 rfl this h1)
  walk_at"*"
  refine k1e hI.wt hk ?_
  walk_at"*"
  refine g0g (c:=o) W ?_
  rw[show(if o.1=3 then o.2 else o.2+1)=bs o from rfl]
  walk_at"*"
  refine g0g (c:=w) W ?_
  rw[show(if w.1=3 then w.2 else w.2+1)=bs w from rfl,hbw]
  have hb0:=hBo.b0
  have hIy:=hY.same hI.same (by simp;exact LA [_,_,_] [] 196794046674129002546718612717862187271098691857300789414723254736732034623337893799682569015075723047856320927241468425632099575279656 rfl hny hti)
  walk_at"*"
  refine h0h ?_
  walk_at"*"
  refine i0y W hIs hIy hBo.wd ?_
  walk_at"*"
  refine e0s ⟨_,_,f0u (k:=args'.length) (by exact LA [_] [] 7253556466931544423235592 rfl haz),CpF σ n y S fs ti f k o place args' s1,⟨_,?_,s,rfl,hI,hfrom⟩,λ_ _ _ _ _=>trivial,?_,?_⟩
  ·exact w0v rfl rfl (k0a rfl rfl rfl rfl rfl rfl)
  ·intro i z l σ2 hz' z0;obtain⟨s2,el,hI2,hfrom⟩:=z0
   subst el
   refine a0m (c0k hz') λhi z0=>?_;subst z0
   intro P hP
   refine e0q (by rfl) ?_
   obtain⟨citem,s3,hlt,hitem,hit,hfrom⟩:=hfrom.inv.resolve_left (by omega)
   have hIs2:=hI2.st
   have hIy2:=hY.same hI2.same (by simp;exact LA [_,_,_] [] 196794046674129002546718612717862187271098691857300789414723254736732034623337893799682569015075723047856320927241468425632099575279656 rfl hny hti)
   have fin: ∀σ3 l3,Sub (i1q n σ.length ti (a0f f S.heap.length) (k+1) (bs o) place) l3→CpIs σ n y ti S s3 σ3→FNext (CpF σ n y S fs ti f k o place args' s1) (i+1) l3 σ3:=λσ3 l3 h1 h2=>⟨_,h1,s3,rfl,h2,hfrom⟩
   have hpi:((place:Int)+i).toNat=place+i:=by exact LA [_,_] [] 35598367273570 rfl
   have ssub: ∀{l:Loc},List.lookup (PySem.Str.ofString "source") l=some (AV.int (bs o))→List.lookup (PySem.Str.ofString "place") l=some (AV.int place)→Sub (cpL n σ.length ti (a0f f S.heap.length) (k+1)) l→Sub (i1q n σ.length ti (a0f f S.heap.length) (k+1) (bs o) place) l:=λh1 h2 h3=>w0v h1 h2 h3
   unfold i1q cpL
   have hcit:s2.H[(bs o+(i:Int)).toNat]?=some citem:=by rw[show(bs o+(i:Int)).toNat=(bs o).toNat+i by exact LA [_] [_] 5309763902842738792 rfl hb0];exact hitem
   walk_at"*"
   refine a0s (x:=citem) hIs2.heap (by exact LA [_] [_] 19941737764968 rfl hb0) hcit ?_
   walk_at"*"
   cases hit with
   |varOld h1 h2 h3=>
    refine b0g (c:=citem) W hIs2 h1 ?_
    walk_at"*"
    refine inC hm hI2.tab ?_
    rw[h2]
    walk_at"*"
    refine z0e hI2.tab h2 ?_
    walk_at"*"
    refine b0s hIs2.heap (by exact LA [_,_] [] 1678323907 rfl) (by show(place:Int)+i<(s2.H.length:Int);exact LA [_,_,_] [] 94595878580992880680 rfl h3) ?_
    walk_at"*"
    refine fin _ _ (ssub rfl rfl (k0a rfl rfl rfl rfl rfl rfl)) ?_
    rw[hpi]
    exact hI2.setH hti.1 gS
   |varNew h1 h2 h3=>
    refine b0g (c:=citem) W hIs2 h1 ?_
    walk_at"*"
    refine inC hm hI2.tab ?_
    rw[h2]
    walk_at"*"
    refine c1u (v:=(0,(place:Int)+i)) hI2.tab h2 (by exact LA [_] [] 7253556466931544423235592 rfl h3) ?_
    walk_at"*"
    refine fin _ _ (ssub rfl rfl (k0a rfl rfl rfl rfl rfl rfl)) ?_
    exact hI2.setT hti.1 gT
   |leaf h1 h2 h3 h4=>
    rename_i qd d'
    refine b0g (c:=citem) W hIs2 h1 ?_
    walk_at"*"
    refine a0h (λh=>by rw[h2]at h;(exact a0t h)) (λ_=>?_)
    walk_at"*"
    refine a0p (c:=d') W ?_
    rw[show(d'.1==2||d'.1==3)=isC d' from rfl,h3]
    walk_at"*"
    refine b0s hIs2.heap (by exact LA [_,_] [] 1678323907 rfl) (by show(place:Int)+i<(s2.H.length:Int);exact LA [_,_,_] [] 94595878580992880680 rfl h4) ?_
    walk_at"*"
    refine fin _ _ (ssub rfl rfl (k0a rfl rfl rfl rfl rfl rfl)) ?_
    rw[hpi]
    exact hI2.setH hti.1 gS
   |old h1 h2 h3 h4 h5=>
    rename_i qd d' b'
    refine b0g (c:=citem) W hIs2 h1 ?_
    walk_at"*"
    refine a0h (λh=>by rw[h2]at h;(exact a0t h)) (λ_=>?_)
    walk_at"*"
    refine a0p (c:=d') W ?_
    rw[show(d'.1==2||d'.1==3)=isC d' from rfl,h3]
    walk_at"*"
    refine inC hm hI2.made ?_
    rw[h4]
    walk_at"*"
    refine z0e hI2.made h4 ?_
    walk_at"*"
    refine b0s hIs2.heap (by exact LA [_,_] [] 1678323907 rfl) (by show(place:Int)+i<(s2.H.length:Int);exact LA [_,_,_] [] 94595878580992880680 rfl h5) ?_
    walk_at"*"
    refine fin _ _ (ssub rfl rfl (k0a rfl rfl rfl rfl rfl rfl)) ?_
    rw[hpi]
    exact hI2.setH hti.1 gS
   |new h1 h2 h3 h4 h5 h6 h7 h8=>
    rename_i qd d' fd dargs
    refine b0g (c:=citem) W hIs2 h1 ?_
    walk_at"*"
    refine a0h (λh=>by rw[h2]at h;(exact a0t h)) (λ_=>?_)
    walk_at"*"
    refine a0p (c:=d') W ?_
    rw[h3.comp]
    walk_at"*"
    refine inC hm hI2.made ?_
    rw[h4]
    walk_at"*"
    refine f0r W hIs2 h3.fn ?_
    walk_at"*"
    obtain⟨a2,hfa2⟩: ∃a,fd=0∨0<fd∧fs[fd.toNat]?=some (a,(dargs.length:Int)):=by
     rcases h3.k with⟨_,h,_⟩|⟨_,_,h,a,h'⟩
     ·exact⟨0,.inl h⟩
     ·exact⟨a,.inr ⟨h,h'⟩⟩
    refine e0o W hIs2 hIy2 hny hfa2 h7 ?_
    have hI3:=hI2.putH (H:=s2.H++blk fd s2.H.length dargs.length) hti.1 gS
    generalize putSt σ2 n {S with heap:=s2.H++blk fd s2.H.length dargs.length}=σ3 at hI3⊢
    walk_at"*"
    refine c1u (v:=a0f fd s2.H.length) hI3.made h4 (by show s2.made.length≤1000000;exact LA [_] [] 7253556466931544423235592 rfl h5) ?_
    have hI4:=hI3.setM (T:=s2.made++[(d'.2,a0f fd s2.H.length)]) gS gT
    generalize σ3.set σ.length (.dictI (b0v (s2.made++[(d'.2,a0f fd s2.H.length)])))=σ4 at hI4⊢
    have hIs4:=hI4.st
    have hIw4:=hI4.wt
    walk_at"*"
    refine b0s hIs4.heap (by exact LA [_,_] [] 1678323907 rfl) (by simp;exact LA [_,_,_,_] [] 4309837389778463314948136 rfl h8) ?_
    rw[hpi]
    have hI5:=hI4.setH (H:=(s2.H++blk fd s2.H.length dargs.length).set (place+i) (a0f fd s2.H.length)) hti.1 gS
    generalize σ4.set (n+2) (.list (((s2.H++blk fd s2.H.length dargs.length).set (place+i) (a0f fd s2.H.length)).map Cel.av))=σ5 at hI5⊢
    have hIw5:=hI5.wt
    walk_at"*"
    refine h1z hI5.wt (by simp;exact LA [_] [] 7253556466966728795324456 rfl h6) ?_
    walk_at"*"
    refine fin _ _ (ssub rfl rfl (k0a rfl rfl rfl rfl rfl rfl)) ?_
    exact hI5.setW gS gT
  ·intro l σ2 z0;obtain⟨s2,el,hI2,hfrom⟩:=z0
   subst el
   simp only[List.length_map,List.length_range]at hfrom
   refine a0m (hfrom.inv.resolve_right (λ⟨_,_,h,_⟩=>by exact LA [_] [] 10485800 rfl h)) λ_ z0=>?_;subst z0
   walk_at"*"
   exact⟨j',_,by exact LA [_] [] 7352321 rfl,k0a rfl rfl rfl rfl rfl rfl,k+1,_,rfl,hI2,hrest⟩
end
inductive Tm where
 |v (n:Int)
 |a (n:Int)
 |i (n:Int)
 |s (f:Int) (ts:List Tm)
noncomputable def Tm.ctorIdx(x:Tm):Nat:=Tm.casesOn (motive_1:=λ_=>Nat) x (λ_=>0) (λ_=>1) (λ_=>2) (λ_ _=>3)
mutual
noncomputable def Tm.av:Tm→AV
 | .v n=>.tup [.str "v",.int n]
 | .a n=>.tup [.str "a",.int n]
 | .i n=>.tup [.str "i",.int n]
 | .s f ts=>.tup [.str "s",.int f,.tup (Tm.avL ts)]
noncomputable def Tm.avL:List Tm→List AV
 |[]=>[]
 |t::ts=>t.av::Tm.avL ts
end
theorem f0d{n:Int}:(Tm.v n).av=.tup [.str "v",.int n]:=rfl
theorem f0a{n:Int}:(Tm.a n).av=.tup [.str "a",.int n]:=rfl
theorem f0b{n:Int}:(Tm.i n).av=.tup [.str "i",.int n]:=rfl
theorem f0c{f:Int}{ts:List Tm}:(Tm.s f ts).av=.tup [.str "s",.int f,.tup (Tm.avL ts)]:=rfl
theorem o1w{t:Tm}{ts:List Tm}:Tm.avL (t::ts)=t.av::Tm.avL ts:=rfl
theorem Tm.avL_map: ∀ts:List Tm,Tm.avL ts=ts.map Tm.av
 |[]=>rfl
 |t::ts=>congrArg _ (Tm.avL_map ts)
mutual
theorem Tm.bd(k:Nat): ∀t:Tm,t.av.bd k
 | .v n=>by trivial
 | .a n=>by trivial
 | .i n=>by trivial
 | .s f ts=>⟨trivial,trivial,Tm.bdL k ts,trivial⟩
theorem Tm.bdL(k:Nat): ∀ts:List Tm,AV.bdL k (Tm.avL ts)
 |[]=>trivial
 |t::ts=>⟨Tm.bd k t,Tm.bdL k ts⟩
end
noncomputable def c1v(F:b0b)(k:Int)(v:Cel):b0b:=F.map λp=>if p.1=k then(p.1,v)else p
theorem y0v{F:b0b}{k:Int}{v x:Cel}(h:a0o F k=some x):n0c (b0v F) k v.av=b0v (c1v F k v):=by
 unfold n0c
 rw[if_pos]
 ·simp only[b0v,c1v,List.map_map]
  refine List.map_congr_left λp _=>?_
  simp only[Function.comp]
  split<;>rfl
 ·unfold a0o at h
  refine a0a (Option.map_eq_some_iff.mp h) λp hp _=>?_
  have hm:=List.mem_of_find?_eq_some hp
  have hq:=List.find?_some hp
  simp only[b0v,List.any_map,List.any_eq_true]
  exact⟨p,hm,hq⟩
noncomputable def h0x(tab:b0b):List Int:=tab.map (·.1)
noncomputable def g0a:List Int→Sto→b0b→Sto→b0b→Prop
 |[],S,tab,S',tab'=>S'=S∧tab'=tab
 |k::ks,S,tab,S',tab'=>∃c,a0o tab k=some c∧(((c.1==1)=false∧g0a ks S tab S' tab')∨(c.1==1)=true∧∃q p,a0i S q c=some (1,p)∧0≤p∧p<S.stack.length∧S.heap.length<100000∧
   g0a ks {S with heap:=S.heap++[(0,(S.heap.length:Int))],stack:=S.stack.set p.toNat (0,S.heap.length)} (c1v tab k (0,S.heap.length)) S' tab')
theorem g0a.nil{S:Sto}{tab:b0b}:g0a [] S tab S tab:=⟨rfl,rfl⟩
theorem g0a.skip{k:Int}{ks:List Int}{S S':Sto}{tab tab':b0b}{c:Cel}(h1:a0o tab k=some c)(h2:(c.1==1)=false)(h:g0a ks S tab S' tab'):g0a (k::ks) S tab S' tab':=⟨c,h1,.inl ⟨h2,h⟩⟩
theorem g0a.glob{k p:Int}{q:Nat}{ks:List Int}{S S':Sto}{tab tab':b0b}{c:Cel}(h1:a0o tab k=some c)(h2:(c.1==1)=true)(h3:a0i S q c=some (1,p))(h4:0≤p)(h5:p<S.stack.length)(h6:S.heap.length<100000)
  (h:g0a ks {S with heap:=S.heap++[(0,(S.heap.length:Int))],stack:=S.stack.set p.toNat (0,S.heap.length)} (c1v tab k (0,S.heap.length)) S' tab'):g0a (k::ks) S tab S' tab':=⟨c,h1,.inr ⟨h2,q,p,h3,h4,h5,h6,h⟩⟩
structure PtSt where
 H:List Cel
 tab:b0b
 wt:List (Int×List Tm)
inductive PtItem(fs:List Cel)(pos:Nat)(s:PtSt):Tm→PtSt→Prop
 |varOld {n x}:a0o s.tab n=some x→pos<s.H.length→PtItem fs pos s (.v n) {s with H:=s.H.set pos x}
 |varNew {n}:a0o s.tab n=none→s.tab.length≤100000→PtItem fs pos s (.v n) {s with tab:=s.tab++[(n,(0,(pos:Int)))]}
 |atom {n}:pos<s.H.length→PtItem fs pos s (.a n) {s with H:=s.H.set pos (4,n)}
 |int {n}:pos<s.H.length→PtItem fs pos s (.i n) {s with H:=s.H.set pos (5,n)}
 |str {f a ts}:(f=0∨0<f∧fs[f.toNat]?=some (a,(ts.length:Int)))→s.wt.length<100000→s.H.length+2+ts.length≤100000→pos<s.H.length→
   PtItem fs pos s (.s f ts) {s with H:=(s.H++blk f s.H.length ts.length).set pos (a0f f s.H.length),wt:=s.wt++[(bs (a0f f s.H.length),ts)]}
inductive PtFrom(fs:List Cel)(place:Nat)(ts:List Tm):Nat→PtSt→PtSt→Prop
 |nil {s}:PtFrom fs place ts ts.length s s
 |cons {i t s s1 s'}:ts[i]?=some t→PtItem fs (place+i) s t s1→PtFrom fs place ts (i+1) s1 s'→PtFrom fs place ts i s s'
inductive PtRun(fs:List Cel):Nat→Nat→PtSt→PtSt→Prop
 |nil {k s}:k=s.wt.length→PtRun fs 0 k s s
 |row {j k s s1 s' ts} {place:Nat}:s.wt[k]?=some ((place:Int),ts)→PtFrom fs place ts 0 s s1→PtRun fs j (k+1) s1 s'→PtRun fs (j+1) k s s'
theorem PtFrom.inv{fs:List Cel}{place i:Nat}{ts:List Tm}{s s':PtSt}(h:PtFrom fs place ts i s s'):(i=ts.length∧s=s')∨∃t s1,ts[i]?=some t∧PtItem fs (place+i) s t s1∧PtFrom fs place ts (i+1) s1 s':=by
 cases h with
 |nil=>exact .inl ⟨rfl,rfl⟩
 |cons h1 h2 h3=>exact .inr ⟨_,_,h1,h2,h3⟩
theorem PtRun.inv{fs:List Cel}{j k:Nat}{s s':PtSt}(h:PtRun fs j k s s'):(k=s.wt.length∧s=s')∨∃j' s1 ts,∃place:Nat,j=j'+1∧s.wt[k]?=some ((place:Int),ts)∧PtFrom fs place ts 0 s s1∧PtRun fs j' (k+1) s1 s':=by
 cases h with
 |nil h=>exact .inl ⟨h,rfl⟩
 |row h1 h2 h3=>exact .inr ⟨_,_,_,_,rfl,h1,h2,h3⟩
noncomputable abbrev g1l (p:Int×List Tm):AV:=.tup [.int p.1,.tup (Tm.avL p.2)]
structure PtIs (σ:Sig) (n y ti wi:Nat) (S:Sto) (s:PtSt) (σ':Sig):Prop where
 same:Same [n+2,n+3,n+4,ti] σ σ'
 st:IsSt σ' n (y+1) {S with heap:=s.H}
 tab:σ'[ti]?=some (.dictI (b0v s.tab))
 wt:σ'[wi]?=some (.list (s.wt.map g1l))
section
variable {σ σ':Sig} {n y ti wi:Nat} {S:Sto} {s:PtSt}
theorem PtIs.setH{H:List Cel}(h:PtIs σ n y ti wi S s σ')(ht:ti<n∨n+4<ti)(hw:n+4<wi):PtIs σ n y ti wi S {s with H:=H} (σ'.set (n+2) (.list (H.map Cel.av))):=
 ⟨h.same.set (by exact .inl (.head _)),h.st.setHeap,a0c h.tab (by exact LA [_,_] [] 2797266901591278675297512 rfl ht),a0c h.wt (by exact LA [_,_] [] 39560043848766861352 rfl hw)⟩
theorem PtIs.putH{H:List Cel}(h:PtIs σ n y ti wi S s σ')(ht:ti<n∨n+4<ti)(hw:n+4<wi):PtIs σ n y ti wi S {s with H:=H} (putSt σ' n {S with heap:=H}):=
 ⟨h.same.put (by exact .head _) (by exact .tail _ (.head _)) (by exact .tail _ (.tail _ (.head _))),h.st.put rfl,c0c h.tab (by exact LA [_,_] [] 5599689397635672225885762870052072 rfl ht),c0c h.wt (by exact LA [_,_] [] 44953152289654086101035397160 rfl hw)⟩
theorem PtIs.setT{T:b0b}(h:PtIs σ n y ti wi S s σ')(ht:ti<n∨n+4<ti)(hw:ti<wi):PtIs σ n y ti wi S {s with tab:=T} (σ'.set ti (.dictI (b0v T))):=
 ⟨h.same.set (by exact .inl (.tail _ (.tail _ (.tail _ (.head _))))),h.st.set ht,a0d h.tab,a0c h.wt (by exact LA [_,_] [] 34436317224 rfl hw)⟩
theorem PtIs.setW{w:List (Int×List Tm)}(h:PtIs σ n y ti wi S s σ')(hn:n+4<wi)(hw:ti<wi)(hl:σ.length≤wi):PtIs σ n y ti wi S {s with wt:=w} (σ'.set wi (.list (w.map g1l))):=
 ⟨h.same.set (.inr hl),h.st.set (.inr hn),a0c h.tab (by exact LA [_,_] [] 1150320680 rfl hw),a0d h.wt⟩
end
noncomputable def ptL(n wi ti:Nat)(made:Cel)(k:Nat):Loc:=[("self",.ref (n+1)),("table",.ref ti),("made",made.av),("waiting",.ref wi),("at",.int k)]
theorem k0k{n wi ti k:Nat}{made:Cel}{l:Loc}(h1:List.lookup (PySem.Str.ofString "self") l=some (AV.ref (n+1)))(h2:List.lookup (PySem.Str.ofString "table") l=some (AV.ref ti))(h3:List.lookup (PySem.Str.ofString "made") l=some made.av)(h4:List.lookup (PySem.Str.ofString "waiting") l=some (AV.ref wi))(h5:List.lookup (PySem.Str.ofString "at") l=some (AV.int k)):Sub (ptL n wi ti made k) l:=
 Sub.cons h1 (Sub.cons h2 (Sub.cons h3 (Sub.cons h4 (Sub.cons h5 (Sub.nil _)))))
noncomputable def k1u(n wi ti:Nat)(made:Cel)(k:Nat)(p:Int):Loc:=(PySem.Str.ofString "place",.int p)::ptL n wi ti made k
theorem j0v{n wi ti k:Nat}{p:Int}{made:Cel}{l:Loc}(h1:List.lookup (PySem.Str.ofString "place") l=some (AV.int p))(h:Sub (ptL n wi ti made k) l):Sub (k1u n wi ti made k p) l:=Sub.cons h1 h
section
variable {G:Gx} {m:Nat} {cenv:Env} {loc:Loc} {σ:Sig} {n y:Nat} {S:Sto} {ts:List PySem.Str} {fs:List Cel} {sy:Nat}
theorem d1n{i:Nat}{wk:List (Int×List Tm)}{p:Int}{us:List Tm}{Q:AV→Sig→Prop}(hi:σ[i]?=some (.list (wk.map g1l)))(hz:wk.length<1000000)(h:Q .none (σ.set i (.list ((wk++[(p,us)]).map g1l)))):a0b G m (.builtin "list.append") [.ref i,.tup [.int p,.tup (Tm.avL us)]] σ Q:=
 f0n hi (by simp;exact LA [_] [] 8462482286582457481658408 rfl hz) (by simpa using h)
theorem f1u{value slice:Expr}{i:Nat}{wk:List (Int×List Tm)}{k:Nat}{x:Int×List Tm}{Q:AV→Sig→Prop}(ei:σ[i]?=some (.list (wk.map g1l)))(hx:wk[k]?=some x)(h:Q (g1l x) σ)
  (hs:autoParam (∀(j:Int) a u,subscripted slice false (.ref a) (.int j u)=operate [.ref a,.int j u] (getItem (.ref a) (.int j u))) aU):l0e G m value slice (.ref i) (.int k) σ Q:=
 b0r ei (by exact LA [_] [] 18627 rfl) (by rw[List.getElem?_map,Int.toNat_natCast,hx];rfl) h (hs _)
theorem upC{i:Nat}{F:b0b}{k:Int}{v x:Cel}{Q:Sig→Prop}(hi:σ[i]?=some (.dictI (b0v F)))(hk:a0o F k=some x)(hz:F.length≤1000000)(h:Q (σ.set i (.dictI (b0v (c1v F k v))))):a0y G m (.ref i) (.int k) v.av σ Q:=
 f0h hi (by simpa[b0v]using hz) (by rw[y0v hk];exact h)
noncomputable def q0e(fs:List Cel)(t:Tm)(S:Sto)(tab:b0b)(c:Cel)(S':Sto)(tab':b0b):Prop:=match t with
 | .v k=>(a0o tab k=some c∧S'=S∧tab'=tab)∨(a0o tab k=none∧S.heap.length<100000∧tab.length≤100000∧c=(0,(S.heap.length:Int))∧S'={S with heap:=S.heap++[(0,(S.heap.length:Int))]}∧tab'=tab++[(k,(0,(S.heap.length:Int)))])
 | .a k=>c=(4,k)∧S'=S∧tab'=tab
 | .i k=>c=(5,k)∧S'=S∧tab'=tab
 | .s f us=>c=a0f f S.heap.length∧(∃a,f=0∨0<f∧fs[f.toNat]?=some (a,(us.length:Int)))∧S.heap.length+2+us.length≤100000∧∃j s',PtRun fs j 0 ⟨S.heap++blk f S.heap.length us.length,tab,[(bs (a0f f S.heap.length),us)]⟩ s'∧S'={S with heap:=s'.H}∧tab'=s'.tab
inductive PtI(σ:Sig)(n y:Nat)(S1:Sto)(fs:List Cel)(ti wi:Nat)(f:Int)(s':PtSt)(j:Nat)(l:Loc)(σ':Sig):Prop
 |mk (k:Nat) (s:PtSt) (x0:l=ptL n wi ti (a0f f S1.heap.length) k) (x1:PtIs σ n y ti wi S1 s σ') (x2:PtRun fs j k s s')
inductive GlF(σ:Sig)(n y ti:Nat)(t:Tm)(tab:b0b)(S1:Sto)(tab1:b0b)(i:Nat)(l:Loc)(σ':Sig):Prop
 |mk (Si:Sto) (tabi:b0b) (x0:l=([("self",.ref (n+1)),("term",t.av),("table",.ref ti)]:Loc)) (x1:Same [n+2,n+3,n+4,ti] σ σ') (x2:IsSt σ' n (y+1) Si) (x3:σ'[ti]?=some (.dictI (b0v tabi))) (x4:σ'[σ.length]?=some (.list ((h0x tab).map AV.int))) (x5:tabi.length≤100000) (x6:g0a ((h0x tab).drop i) Si tabi S1 tab1)
inductive PtF(σ:Sig)(n y:Nat)(S1:Sto)(fs:List Cel)(ti wi:Nat)(f:Int)(k place:Nat)(us':List Tm)(s1:PtSt)(i:Nat)(l:Loc)(σ':Sig):Prop
 |mk (s:PtSt) (x0:l=k1u n wi ti (a0f f S1.heap.length) (k+1) ((place:Int)+i)) (x1:PtIs σ n y ti wi S1 s σ') (x2:PtFrom fs place us' i s s1)
set_option tactic.hygienic true in
theorem s0a(W:WOk G (hd.heap_1 G.w.params))(hm: ∃o,G.base.get? sysModules=some o)(hS:IsSt σ n (y+1) S)(hY:IsSy σ y ts fs)(hny:y+5<n){ti:Nat}{tab tab1 tab':b0b}(hT:σ[ti]?=some (.dictI (b0v tab)))(hti:(ti<n∨n+4<ti)∧(ti<y∨y+5<ti)){t:Tm}{S1 S':Sto}{c:Cel}
  (hg:g0a (h0x tab) S tab S1 tab1) (hz:tab.length≤100000) (hr:q0e fs t S1 tab1 c S' tab') {Q:AV→Sig→Prop}
  (h:Q c.av ((putSt σ n S').set ti (.dictI (b0v tab')))):a0b G (m+4) (.ref 364) [.ref (n+1),t.av,.ref ti] σ Q:=by
 refine a0x W (by k_is) (by k_is) (e0y (p:="self") (q:="term") (o:="table") λv u t=>rfl) rfl rfl (by decide) (by decide) rfl rfl rfl (λL qq fu co hcl=>?_)
 have gS:=b0m hS.trail
 have gY:=b0m hY.keys
 have gT:=b0m hT
 walk_at"*"
 refine h0h ?_
 walk_at"*"
 refine f1b hm hT (by simpa[b0v]using by exact LA [_] [] 7253556466931544423235592 rfl hz) ?_
 have ek:(b0v tab).map (λp=>AV.int p.1)=(h0x tab).map AV.int:=by simp[b0v,h0x]
 rw[ek]
 refine⟨_,_,i0n (by exact gn0),GlF σ n y ti t tab S1 tab1,
  ⟨_,?_,S,tab,rfl,(Same.refl _ _).app,hS.app,a0j hT,by exact gn0,hz,by rw[List.drop_zero];exact hg⟩,λi l σ' _ ⟨_,_,_,_,_,_,h,_,_⟩=>h,?_,?_⟩
 ·exact Sub.cons rfl (Sub.cons rfl (Sub.cons rfl (Sub.nil _)))
 ·intro i x l σ' hx z0;obtain⟨Si,tabi,el,hs,hSi,hTi,hL,hzi,hgi⟩:=z0
  subst el
  rw[List.getElem?_map]at hx
  refine a0a (Option.map_eq_some_iff.mp hx) λk hk z0=>?_;subst z0
  intro P hP
  refine e0q (by rfl) ?_
  rw[List.drop_eq_getElem_cons (List.getElem?_eq_some_iff.mp hk).1,(List.getElem?_eq_some_iff.mp hk).2]at hgi
  refine a0a hgi λc' h1 hgi=>?_
  rcases hgi with⟨h2,h3⟩|⟨h2,q',p',h3,h4,h5,h6,h7⟩
  ·walk_at"*"
   refine z0e hTi h1 ?_
   walk_at"*"
   refine a0h (λh=>by rw[h2]at h;(exact a0t h)) (λ_=>?_)
   walk_at"*"
   exact⟨_,Sub.cons rfl (Sub.cons rfl (Sub.cons rfl (Sub.nil _))),Si,tabi,rfl,hs,hSi,hTi,hL,hzi,h3⟩
  ·walk_at"*"
   refine z0e hTi h1 ?_
   walk_at"*"
   refine a0h (λ_=>?_) (λh=>by rw[h2]at h;(exact a0t h.symm))
   walk_at"*"
   refine z0e hTi h1 ?_
   walk_at"*"
   refine i0j (c:=c') W hSi h3 h4 h5 h6 ?_
   have hS2:IsSt (putSt σ' n {Si with heap:=Si.heap++[(0,(Si.heap.length:Int))],stack:=Si.stack.set p'.toNat (0,Si.heap.length)}) n (y+1) _:=hSi.put rfl
   have hT2:=c0c (n:=n) (S:={Si with heap:=Si.heap++[(0,(Si.heap.length:Int))],stack:=Si.stack.set p'.toNat (0,Si.heap.length)}) hTi (by exact LA [_,_,_] [] 201750072676660245132947347963476023511948548152520 rfl hti)
   have hL2:=c0c (n:=n) (S:={Si with heap:=Si.heap++[(0,(Si.heap.length:Int))],stack:=Si.stack.set p'.toNat (0,Si.heap.length)}) hL (.inr (by omega))
   have hs2:=hs.put (S:={Si with heap:=Si.heap++[(0,(Si.heap.length:Int))],stack:=Si.stack.set p'.toNat (0,Si.heap.length)}) (n:=n) (by exact .head _) (by exact .tail _ (.head _)) (by exact .tail _ (.tail _ (.head _)))
   walk_at"*"
   refine upC (v:=(0,(Si.heap.length:Int))) hT2 h1 (by exact LA [_] [] 7253556466931544423235592 rfl hzi) ?_
   walk_at"*"
   exact⟨_,Sub.cons rfl (Sub.cons rfl (Sub.cons rfl (Sub.nil _))),_,_,rfl,hs2.set (by exact .inl (.tail _ (.tail _ (.tail _ (.head _))))),hS2.set hti.1,a0d hT2,a0c hL2 (by exact LA [_,_] [] 34436317224 rfl gT),by simpa[c1v]using hzi,h7⟩
 ·intro l σ1 z0;obtain⟨Si,tabi,el,hs1,hS1,hT1,hL1,hz1,hg1⟩:=z0
  subst el
  have el:((h0x tab).map AV.int).length=(h0x tab).length:=by exact List.length_map ..
  rw[el,List.drop_length]at hg1
  obtain⟨e1,e2⟩:=hg1
  subst e1 e2
  have hY1:=hY.same hs1 (by simp;exact LA [_,_,_] [] 196794046674129002546718612717862187271098691857300789414723254736732034623337893799682569015075723047856320927241468425632099575279656 rfl hny hti)
  have lt1:σ.length+1≤σ1.length:=b0m hL1
  cases t with
  |v k=>
   simp only[f0d,f0a,f0b,f0c]
   walk_at"*"
   refine t0s hm hT1 ?_
   walk_at"*"
   rcases hr with⟨h1,rfl,rfl⟩|⟨h1,h2,h3,rfl,rfl,rfl⟩
   ·rw[h1]
    walk_at"*"
    refine z0e hT1 h1 ?_
    walk_at"*"
    exact Fin.stT hcl rfl hs1 hS1 hT1 (by trivial) h
   ·rw[h1]
    walk_at"*"
    refine f0f W hS1 h2 ?_
    have hS2:IsSt (putSt σ1 n {S1 with heap:=S1.heap++[(0,(S1.heap.length:Int))]}) n (y+1) _:=hS1.put rfl
    have hT2:=c0c (n:=n) (S:={S1 with heap:=S1.heap++[(0,(S1.heap.length:Int))]}) hT1 (by exact LA [_,_,_] [] 201750072676660245132947347963476023511948548152520 rfl hti)
    walk_at"*"
    refine c1u (v:=(0,(S1.heap.length:Int))) hT2 h1 (by exact LA [_] [] 7253556466931544423235592 rfl hz1) ?_
    have hT3:=a0d (p:=.dictI (b0v (tab1++[(k,(0,(S1.heap.length:Int)))]))) hT2
    have hg:a0o (tab1++[(k,(0,(S1.heap.length:Int)))]) k=some (0,(S1.heap.length:Int)):=by
     unfold a0o at h1⊢
     rw[List.find?_append,Option.map_eq_none_iff.mp h1];simp
    walk_at"*"
    refine z0e hT3 hg ?_
    walk_at"*"
    exact Fin.stT hcl rfl ((hs1.put (by exact .head _) (by exact .tail _ (.head _)) (by exact .tail _ (.tail _ (.head _)))).set (by exact .inl (.tail _ (.tail _ (.tail _ (.head _)))))) (hS2.set hti.1) hT3 (by trivial) h
  |a k=>
   refine b0l hr λz0 z1 z2=>?_;subst z0 z1 z2
   simp only[f0d,f0a,f0b,f0c]
   walk_at"*"
   exact Fin.stT hcl rfl hs1 hS1 hT1 (by trivial) h
  |i k=>
   refine b0l hr λz0 z1 z2=>?_;subst z0 z1 z2
   simp only[f0d,f0a,f0b,f0c]
   walk_at"*"
   exact Fin.stT hcl rfl hs1 hS1 hT1 (by trivial) h
  |s f us=>
   obtain⟨rfl,⟨a,hfa⟩,hzz,j,s',hrun,rfl,rfl⟩:=hr
   simp only[f0d,f0a,f0b,f0c]
   walk_at"*"
   refine e0o W hS1 hY1 hny hfa hzz ?_
   have hS2:IsSt (putSt σ1 n {S1 with heap:=S1.heap++blk f S1.heap.length us.length}) n (y+1) _:=hS1.put rfl
   have hT2:=c0c (n:=n) (S:={S1 with heap:=S1.heap++blk f S1.heap.length us.length}) hT1 (by exact LA [_,_,_] [] 201750072676660245132947347963476023511948548152520 rfl hti)
   have hs2:=hs1.put (S:={S1 with heap:=S1.heap++blk f S1.heap.length us.length}) (n:=n) (by exact .head _) (by exact .tail _ (.head _)) (by exact .tail _ (.tail _ (.head _)))
   have hl2:(putSt σ1 n {S1 with heap:=S1.heap++blk f S1.heap.length us.length}).length=σ1.length:=e0n
   generalize putSt σ1 n {S1 with heap:=S1.heap++blk f S1.heap.length us.length}=σ2 at hS2 hT2 hs2 hl2⊢
   walk_at"*"
   refine g0g (c:=a0f f S1.heap.length) W ?_
   rw[show(if(a0f f S1.heap.length).1=3 then(a0f f S1.heap.length).2 else(a0f f S1.heap.length).2+1)=bs (a0f f S1.heap.length)from rfl]
   walk_at"*"
   have hw0:PtIs σ n y ti σ2.length S1 ⟨S1.heap++blk f S1.heap.length us.length,tab1,[(bs (a0f f S1.heap.length),us)]⟩ (σ2++[.list [.tup [.int (bs (a0f f S1.heap.length)),.tup (Tm.avL us)]]]):=
    ⟨hs2.app,hS2.app,a0j hT2,by exact gn0⟩
   have gw:σ.length≤σ2.length:=by exact LA [_,_,_] [] 2305880469959356424 rfl lt1 hl2
   generalize σ2.length=wi at hw0 gw⊢
   have gwS:n+4<wi:=by exact LA [_,_,_] [] 2580787156262373692551208 rfl gS gw
   have gwT:ti<wi:=by exact LA [_,_,_] [] 2252969126953000 rfl gT gw
   walk_at"*"
   refine d0s (PtI σ n y S1 fs ti wi f s') j ⟨ptL n wi ti (a0f f S1.heap.length) 0,?_,0,_,rfl,hw0,hrun⟩ λj l σ' ⟨k,s,el,hI,hrun⟩=>?_
   ·exact k0k rfl rfl rfl rfl rfl
   subst el
   unfold ptL
   have hIw:=hI.wt
   have hIs:=hI.st
   walk_at"*"
   rcases hrun.inv with⟨hk,rfl⟩|⟨j',s1,us',place,rfl,hk,hfrom,hrest⟩
   ·refine a0h (λh1=>absurd (of_decide_eq_true h1) (by rw[hk];simp)) (λh1=>?_)
    walk_at"*"
    exact Fin.stT hcl rfl hI.same hI.st hI.tab (by trivial) h
   ·refine a0h (λ_=>?_) (λh1=>by
     exfalso
     have:=(List.getElem?_eq_some_iff.mp hk).1
     have h1:=of_decide_eq_false h1
     simp at h1;exact LA [_,_] [] 10996198441000 rfl this h1)
    walk_at"*"
    refine f1u hI.wt hk ?_
    walk_at"*"
    refine h0h ?_
    walk_at"*"
    refine⟨_,_,i0o,PtF σ n y S1 fs ti wi f k place us' s1,⟨_,?_,s,rfl,hI,hfrom⟩,λ_ _ _ _ _=>trivial,?_,?_⟩
    ·exact j0v (by simp<;>rfl) (k0k rfl rfl rfl rfl rfl)
    ·intro i z l σ2 hz' z0;obtain⟨s2,el,hI2,hfrom⟩:=z0
     subst el
     rw[Tm.avL_map]at hz'
     have hi:i<us'.length:=by have:=(List.getElem?_eq_some_iff.mp hz').1;rw[List.length_map]at this;exact this
     refine b0j (hfrom.inv.resolve_left (by omega)) λt s3 ht hit hfrom=>?_
     rw[List.getElem?_map,ht]at hz'
     cases hz'
     intro P hP
     refine e0q (by rfl) ?_
     have hIs2:=hI2.st
     have hIy2:=hY.same hI2.same (by simp;exact LA [_,_,_] [] 196794046674129002546718612717862187271098691857300789414723254736732034623337893799682569015075723047856320927241468425632099575279656 rfl hny hti)
     have fin: ∀σ3 l3,Sub (k1u n wi ti (a0f f S1.heap.length) (k+1) ((place:Int)+i+1)) l3→PtIs σ n y ti wi S1 s3 σ3→FNext (PtF σ n y S1 fs ti wi f k place us' s1) (i+1) l3 σ3:=λσ3 l3 h1 h2=>⟨_,h1,s3,by rw[show(place:Int)+((i+1:Nat):Int)=(place:Int)+i+1 by exact LA [_,_] [] 8321808122099162696069 rfl],h2,hfrom⟩
     have hpi:((place:Int)+i).toNat=place+i:=by exact LA [_,_] [] 35598367273570 rfl
     unfold k1u ptL
     cases hit with
     |varOld h1 h2=>
      simp only[f0d,f0a,f0b,f0c]
      walk_at"*"
      refine inC hm hI2.tab ?_
      rw[h1]
      walk_at"*"
      refine z0e hI2.tab h1 ?_
      walk_at"*"
      refine b0s hIs2.heap (by exact LA [_,_] [] 1678323907 rfl) (by show(place:Int)+i<(s2.H.length:Int);exact LA [_,_,_] [] 94595878580992880680 rfl h2) ?_
      walk_at"*"
      refine fin _ _ (j0v rfl (k0k rfl rfl rfl rfl rfl)) ?_
      rw[hpi]
      exact hI2.setH hti.1 gwS
     |varNew h1 h2=>
      simp only[f0d,f0a,f0b,f0c]
      walk_at"*"
      refine inC hm hI2.tab ?_
      rw[h1]
      walk_at"*"
      refine c1u (v:=(0,(place:Int)+i)) hI2.tab h1 (by exact LA [_] [] 7253556466931544423235592 rfl h2) ?_
      walk_at"*"
      refine fin _ _ (j0v rfl (k0k rfl rfl rfl rfl rfl)) ?_
      exact hI2.setT hti.1 gwT
     |atom h1=>
      simp only[f0d,f0a,f0b,f0c]
      walk_at"*"
      refine b0s hIs2.heap (by exact LA [_,_] [] 1678323907 rfl) (by show(place:Int)+i<(s2.H.length:Int);exact LA [_,_,_] [] 94595878580992880680 rfl h1) ?_
      walk_at"*"
      refine fin _ _ (j0v rfl (k0k rfl rfl rfl rfl rfl)) ?_
      rw[hpi]
      exact hI2.setH hti.1 gwS
     |int h1=>
      simp only[f0d,f0a,f0b,f0c]
      walk_at"*"
      refine b0s hIs2.heap (by exact LA [_,_] [] 1678323907 rfl) (by show(place:Int)+i<(s2.H.length:Int);exact LA [_,_,_] [] 94595878580992880680 rfl h1) ?_
      walk_at"*"
      refine fin _ _ (j0v rfl (k0k rfl rfl rfl rfl rfl)) ?_
      rw[hpi]
      exact hI2.setH hti.1 gwS
     |str h1 h2 h3 h4=>
      rename_i f2 a2 us2
      simp only[f0d,f0a,f0b,f0c]
      walk_at"*"
      refine e0o W hIs2 hIy2 hny h1 h3 ?_
      have hI3:=hI2.putH (H:=s2.H++blk f2 s2.H.length us2.length) hti.1 gwS
      generalize putSt σ2 n {S1 with heap:=s2.H++blk f2 s2.H.length us2.length}=σ3 at hI3⊢
      have hIs3:=hI3.st
      walk_at"*"
      refine b0s hIs3.heap (by exact LA [_,_] [] 1678323907 rfl) (by simp;exact LA [_,_,_,_] [] 4309837389778463314948136 rfl h4) ?_
      rw[hpi]
      have hI4:=hI3.setH (H:=(s2.H++blk f2 s2.H.length us2.length).set (place+i) (a0f f2 s2.H.length)) hti.1 gwS
      generalize σ3.set (n+2) (.list (((s2.H++blk f2 s2.H.length us2.length).set (place+i) (a0f f2 s2.H.length)).map Cel.av))=σ4 at hI4⊢
      have hIs4:=hI4.st
      have hIw4:=hI4.wt
      walk_at"*"
      refine g0g (c:=a0f f2 s2.H.length) W ?_
      rw[show(if(a0f f2 s2.H.length).1=3 then(a0f f2 s2.H.length).2 else(a0f f2 s2.H.length).2+1)=bs (a0f f2 s2.H.length)from rfl]
      walk_at"*"
      refine d1n hI4.wt (by simp;exact LA [_] [] 7253556466966728795324456 rfl h2) ?_
      walk_at"*"
      refine fin _ _ (j0v rfl (k0k rfl rfl rfl rfl rfl)) ?_
      exact hI4.setW gwS gwT gw
    ·intro l σ2 z0;obtain⟨s2,el,hI2,hfrom⟩:=z0
     subst el
     rw[Tm.avL_map,List.length_map]at hfrom
     refine a0m (hfrom.inv.resolve_right (λ⟨_,_,h,_⟩=>by have h2:us'.length<us'.length:=(List.getElem?_eq_some_iff.mp h).1;exact absurd h2 (Nat.lt_irrefl _))) λ_ z0=>?_;subst z0
     walk_at"*"
     exact⟨j',_,by exact LA [_] [] 7352321 rfl,k0k rfl rfl rfl rfl rfl,k+1,_,rfl,hI2,hrest⟩
end
abbrev k0o:=List (Int×Option Tm)
noncomputable def kAv:Option Tm→AV
 |none=>.none
 |some t=>t.av
noncomputable def r0v(F:k0o):List (Int×AV):=F.map λp=>(p.1,kAv p.2)
noncomputable def x0p(F:k0o)(k:Int):Option (Option Tm):=(F.find? λp=>p.1=k).map (·.2)
noncomputable def q0g(F:k0o)(k:Int)(v:Option Tm):k0o:=if F.any (λp=>p.1=k)then F.map (λp=>if p.1=k then(p.1,v)else p)else F++[(k,v)]
theorem l0n(F:k0o)(k:Int):g0d (r0v F) k=(x0p F k).map kAv:=by
 unfold g0d r0v x0p
 rw[List.find?_map]
 simp only[Option.map_map]
 rfl
theorem y0u(F:k0o)(k:Int)(v:Option Tm):n0c (r0v F) k (kAv v)=r0v (q0g F k v):=by
 unfold n0c q0g
 have e:((r0v F).any λp=>decide (p.1=k))=F.any λp=>decide (p.1=k):=by simp[r0v,List.any_map];rfl
 rw[e]
 split
 ·simp only[r0v,List.map_map]
  refine List.map_congr_left λp _=>?_
  simp only[Function.comp]
  split<;>rfl
 ·simp[r0v]
noncomputable abbrev k1v (p:Bool×Cel):AV:=.tup [.int (if p.1 then 1 else 0),p.2.av]
noncomputable def wkT(wk:List (Bool×Cel)):AObj:=.list (wk.reverse.map k1v)
inductive TkStep(Rr:List (Bool×Cel)→List Tm→k0o→b0k→Prop)(S:Sto)(fs:List Cel)(d:Cel)(wk:List (Bool×Cel))(R:List Tm)(K:k0o)(A:b0k):Prop
 |varOld {p k:Int} (h1:d=(0,p)) (h2:b0o A p=some k) (h3:R.length<100000) (h:Rr wk (R++[.v k]) K A)
 |varNew {p:Int} (h1:d=(0,p)) (h2:b0o A p=none) (h3:A.length≤100000) (h4:R.length<100000) (h:Rr wk (R++[.v A.length]) K (A++[(p,(A.length:Int))]))
 |atom {k:Int} (h1:d=(4,k)) (h3:R.length<100000) (h:Rr wk (R++[.a k]) K A)
 |int {k:Int} (h1:d=(5,k)) (h3:R.length<100000) (h:Rr wk (R++[.i k]) K A)
 |known {t:Tm} (h1:isC d=true) (h2:x0p K d.2=some (some t)) (h3:R.length<100000) (h:Rr wk (R++[t]) K A)
 |push {f:Int} {args:List Cel} (h1:IsBlk S fs d f args) (h2:x0p K d.2=none) (h3:K.length≤100000) (h4:args.length+wk.length<100000) (h:Rr (args.map (λx=>(false,x))++(true,d)::wk) R (q0g K d.2 none) A)
noncomputable def TkB(Rr:List (Bool×Cel)→List Tm→k0o→b0k→Prop)(S:Sto)(fs:List Cel)(c:Cel)(wk:List (Bool×Cel))(R:List Tm)(K:k0o)(A:b0k):Prop:=∃f args ts R0,R=R0++ts∧IsBlk S fs c f args∧ts.length=args.length∧R0.length+ts.length<100000∧K.length≤100000∧Rr wk (R0++[.s f ts]) (q0g K c.2 (some (.s f ts))) A
noncomputable def d0i(S:Sto)(fs:List Cel)(r:Tm)(A':b0k):Nat→List (Bool×Cel)→List Tm→k0o→b0k→Prop
 |0,wk,R,_,A=>wk=[]∧R[0]?=some r∧A=A'
 |j+1,wk,R,K,A=>match wk with
  |[]=>False
  |x::wk=>(x.1=true∧TkB (d0i S fs r A' j) S fs x.2 wk R K A)∨(x.1=false∧∃q d,a0i S q x.2=some d∧TkStep (d0i S fs r A' j) S fs d wk R K A)
section
variable {S:Sto} {fs:List Cel} {r t:Tm} {A A':b0k} {j q:Nat} {c d:Cel} {wk:List (Bool×Cel)} {R ts:List Tm} {K:k0o} {f p k:Int} {args:List Cel} {b:Bool}
theorem d0i.nil(h:R[0]?=some r):d0i S fs r A' 0 [] R K A':=⟨rfl,h,rfl⟩
theorem d0i.fin(h:d0i S fs r A' j [] R K A):R[0]?=some r∧A=A':=by
 cases j with
 |zero=>exact h.2
 |succ j=>exact h.elim
theorem d0i.go(e:a0i S q c=some d)(h:TkStep (d0i S fs r A' j) S fs d wk R K A):d0i S fs r A' (j+1) ((false,c)::wk) R K A:=.inr ⟨rfl,q,d,e,h⟩
theorem d0i.build(h1:IsBlk S fs c f args)(h2:ts.length=args.length)(h3:R.length+ts.length<100000)(h4:K.length≤100000)(h:d0i S fs r A' j wk (R++[.s f ts]) (q0g K c.2 (some (.s f ts))) A):d0i S fs r A' (j+1) ((true,c)::wk) (R++ts) K A:=.inl ⟨rfl,f,args,ts,R,rfl,h1,h2,h3,h4,h⟩
theorem d0i.inv(h:d0i S fs r A' j ((b,c)::wk) R K A): ∃j',j=j'+1∧((b=true∧TkB (d0i S fs r A' j') S fs c wk R K A)∨(b=false∧∃q d,a0i S q c=some d∧TkStep (d0i S fs r A' j') S fs d wk R K A)):=by
 cases j with
 |zero=>cases h.1
 |succ j=>exact⟨j,rfl,h⟩
end
structure TkIs (σ:Sig) (ti:Nat) (wk:List (Bool×Cel)) (R:List Tm) (K:k0o) (A:b0k) (σ':Sig):Prop where
 same:Same [ti] σ σ'
 tab:σ'[ti]?=some (.dictI (a0u A))
 known:σ'[σ.length]?=some (.dictI (r0v K))
 res:σ'[σ.length+1]?=some (.list (R.map Tm.av))
 wk:σ'[σ.length+2]?=some (wkT wk)
section
variable {σ σ':Sig} {ti:Nat} {wk:List (Bool×Cel)} {R:List Tm} {K:k0o} {A:b0k}
theorem TkIs.setT{B:b0k}(h:TkIs σ ti wk R K A σ')(ht:ti<σ.length):TkIs σ ti wk R K B (σ'.set ti (.dictI (a0u B))):=⟨h.same.set (by exact .inl (.head _)),a0d h.tab,a0c h.known (by exact LA [_,_] [] 34436317224 rfl ht),a0c h.res (by exact LA [_,_] [] 247802509688872 rfl ht),a0c h.wk (by exact LA [_,_] [] 2605155439640616 rfl ht)⟩
theorem TkIs.setK{B:k0o}(h:TkIs σ ti wk R K A σ')(ht:ti<σ.length):TkIs σ ti wk R B A (σ'.set σ.length (.dictI (r0v B))):=⟨h.same.set (.inr (Nat.le_refl _)),a0c h.tab (by exact LA [_,_] [] 1150320680 rfl ht),a0d h.known,a0c h.res (by exact LA [_] [] 235274313 rfl),a0c h.wk (by exact LA [_] [] 2483421257 rfl)⟩
theorem TkIs.setR{B:List Tm}(h:TkIs σ ti wk R K A σ')(ht:ti<σ.length):TkIs σ ti wk B K A (σ'.set (σ.length+1) (.list (B.map Tm.av))):=⟨h.same.set (.inr (by exact LA [_] [] 7352320 rfl)),a0c h.tab (by exact LA [_,_] [] 7743902613544 rfl ht),a0c h.known (by exact LA [_] [] 7352393 rfl),a0d h.res,a0c h.wk (by exact LA [_] [] 2543030644809 rfl)⟩
theorem TkIs.setW{B:List (Bool×Cel)}(h:TkIs σ ti wk R K A σ')(ht:ti<σ.length):TkIs σ ti B R K A (σ'.set (σ.length+2) (wkT B)):=⟨h.same.set (.inr (by exact LA [_] [] 77606912 rfl)),a0c h.tab (by exact LA [_,_] [] 81411181674536 rfl ht),a0c h.known (by exact LA [_] [] 77606985 rfl),a0c h.res (by exact LA [_] [] 7709543903305 rfl),a0d h.wk⟩
theorem TkIs.app{r:Sig}(h:TkIs σ ti wk R K A σ'):TkIs σ ti wk R K A (σ'++r):=⟨h.same.app,a0j h.tab,a0j h.known,a0j h.res,a0j h.wk⟩
end
noncomputable def tkL(n N ti:Nat):Loc:=[("self",.ref (n+1)),("table",.ref ti),("known",.ref N),("results",.ref (N+1)),("work",.ref (N+2))]
theorem h0m{n N ti:Nat}{l:Loc}(h1:List.lookup (PySem.Str.ofString "self") l=some (AV.ref (n+1)))(h2:List.lookup (PySem.Str.ofString "table") l=some (AV.ref ti))(h3:List.lookup (PySem.Str.ofString "known") l=some (AV.ref N))(h4:List.lookup (PySem.Str.ofString "results") l=some (AV.ref (N+1)))(h5:List.lookup (PySem.Str.ofString "work") l=some (AV.ref (N+2))):Sub (tkL n N ti) l:=
 Sub.cons h1 (Sub.cons h2 (Sub.cons h3 (Sub.cons h4 (Sub.cons h5 (Sub.nil _)))))
section
variable {G:Gx} {m:Nat} {cenv:Env} {loc:Loc} {σ:Sig} {n y:Nat} {S:Sto} {ts:List PySem.Str} {fs:List Cel} {sy:Nat}
theorem w0e{i:Nat}{wk:List (Bool×Cel)}{b:Bool}{c:Cel}{z:Int}(hb:(if b then(1:Int)else 0)=z){Q:AV→Sig→Prop}(hi:σ[i]?=some (wkT wk))(hz:wk.length<1000000)(h:Q .none (σ.set i (wkT ((b,c)::wk)))):a0b G m (.builtin "list.append") [.ref i,.tup [.int z,c.av]] σ Q:=by
 subst hb
 exact f0n hi (by simp;exact LA [_] [] 8462482286582457481658408 rfl hz) (by simpa[wkT]using h)
theorem f1l{i:Nat}{wk:List (Bool×Cel)}{p:Bool×Cel}{Q:AV→Sig→Prop}(hi:σ[i]?=some (wkT (p::wk)))(h:Q (k1v p) (σ.set i (wkT wk))):a0b G m (.builtin "list.pop") [.ref i] σ Q:=
 k1t (l:=wk.reverse.map k1v) (x:=k1v p) (by simpa[wkT]using hi) h
theorem m0n{i:Nat}{R:List Tm}{t:Tm}{x:AV}(hx:x=t.av){Q:AV→Sig→Prop}(hi:σ[i]?=some (.list (R.map Tm.av)))(hz:R.length<1000000)(h:Q .none (σ.set i (.list ((R++[t]).map Tm.av)))):a0b G m (.builtin "list.append") [.ref i,x] σ Q:=by
 subst hx
 exact f0n hi (by simp;exact LA [_] [] 8462482286582457481658408 rfl hz) (by simpa using h)
theorem j1x{i:Nat}{F:k0o}{k:Int}{v:Option Tm}{x:AV}(hx:x=kAv v){Q:Sig→Prop}(hi:σ[i]?=some (.dictI (r0v F)))(hz:F.length≤1000000)(h:Q (σ.set i (.dictI (r0v (q0g F k v))))):a0y G m (.ref i) (.int k) x σ Q:=by
 subst hx
 walk_at"*"
 exact f0h hi (by simpa[r0v]using hz) (by rw[y0u];exact h)
inductive TkI(σ:Sig)(n:Nat)(S:Sto)(fs:List Cel)(ti:Nat)(r:Tm)(A':b0k)(j:Nat)(l:Loc)(σ':Sig):Prop
 |mk (wk:List (Bool×Cel)) (R:List Tm) (K:k0o) (A:b0k) (x0:l=tkL n σ.length ti) (x1:TkIs σ ti wk R K A σ') (x2:d0i S fs r A' j wk R K A)
theorem q0p(W:WOk G (hd.heap_1 G.w.params))(hm: ∃o,G.base.get? sysModules=some o)(hS:IsSt σ n (y+1) S)(hY:IsSy σ y ts fs){ti:Nat}{A A':b0k}(hT:σ[ti]?=some (.dictI (a0u A)))(hti:(ti<n∨n+4<ti)∧(ti<y∨y+5<ti)){c d:Cel}{q j:Nat}{r:Tm}
  (hd:a0i S q c=some d) (hd1:d.1≠1) (hr:d0i S fs r A' j [(false,d)] [] [] A) {Q:AV→Sig→Prop}
  (h:Q r.av (σ.set ti (.dictI (a0u A')))):a0b G (m+4) (.ref 371) [.ref (n+1),c.av,.ref ti] σ Q:=by
 refine a0x W (by k_is) (by k_is) (e0y (p:="self") (q:="cell") (o:="table") λv u t=>rfl) rfl rfl (by decide) (by decide) rfl rfl rfl (λL qq fu co hcl=>?_)
 have gS:=b0m hS.trail
 have gY:=b0m hY.keys
 have gT:=b0m hT
 walk_at"*"
 have hS0:IsSt (σ++[.dictI []]++[.list []]) n (y+1) S:=hS.app.app
 walk_at"*"
 refine c0j (c:=c) W hS0 hd hd1 ?_
 walk_at"*"
 have hI0:TkIs σ ti [(false,d)] [] [] A (σ++[.dictI []]++[.list []]++[.list [.tup [.int 0,.tup [.int d.1,.int d.2]]]]):=⟨(Same.refl _ _).app.app.app,a0j (a0j (a0j hT)),by exact gn3,by exact gn4,by exact gn5⟩
 walk_at"*"
 refine d0s (TkI σ n S fs ti r A') j ⟨tkL n σ.length ti,?_,_,_,_,_,rfl,hI0,hr⟩ λj l σ' ⟨wk,R,K,A,el,hI,hr⟩=>?_
 ·exact h0m rfl rfl rfl (by simp<;>rfl) (by exact congrArg (λn=>some (AV.ref n)) ln2<;>rfl)
 subst el
 unfold tkL
 have hIw:=hI.wk
 have hIs:=hS.same hI.same (by simp;exact LA [_,_,_] [] 6156923548800345893067166159262041273041722568 rfl hti)
 walk_at"*"
 refine a0h (λh1=>?_) (λh1=>?_)
 ·obtain _|⟨⟨b,c'⟩,wk⟩:=wk
  ·trivial
  refine a0a (hr.inv) λj' z0 hst=>?_;subst z0
  walk_at"*"
  refine f1l hI.wk ?_
  have hI2:=hI.setW (B:=wk) gT
  generalize σ'.set (σ.length+2) (wkT wk)=σ2 at hI2⊢
  have hIs2:=hS.same hI2.same (by simp;exact LA [_,_,_] [] 6156923548800345893067166159262041273041722568 rfl hti)
  have hIy2:=hY.same hI2.same (by simp;exact LA [_,_,_] [] 7585565080616509803189106044025402860989619400 rfl hti)
  have fin: ∀σ3 l3 wk R K A,Sub (tkL n σ.length ti) l3→TkIs σ ti wk R K A σ3→d0i S fs r A' j' wk R K A→WNext (TkI σ n S fs ti r A') (j'+1) l3 σ3:=λσ3 l3 wk R K A h1 h2 h3=>⟨j',_,by exact LA [_] [] 7352321 rfl,h1,wk,R,K,A,rfl,h2,h3⟩
  rcases hst with⟨rfl,f,args,us,R0,rfl,hB,hul,hRz,hKz,hr⟩|⟨rfl,q',d',hd',hst⟩
  ·walk_at"*"
   refine f0r W hIs2 hB.fn ?_
   have hIr2:=hI2.res
   walk_at"*"
   refine i0y W hIs2 hIy2 hB.wd ?_
   walk_at"*"
   have ef:(((R0++us).map Tm.av).length:Int) - args.length=(R0.length:Nat):=by simp;exact LA [_,_,_] [] 3027068104088837193800 rfl hul
   rw[ef]
   walk_at"*"
   refine⟨_,_,R0.length,rfl,rfl,hI2.res,?_⟩
   have ed:((R0++us).map Tm.av).drop R0.length=us.map Tm.av:=by simp
   rw[ed]
   have hI3:=hI2.app (r:=[AObj.list (us.map Tm.av)])
   walk_at"*"
   refine z0h (l:=us.map Tm.av) d0f ?_
   walk_at"*"
   refine⟨_,_,R0.length,rfl,rfl,hI3.res,by simp,?_⟩
   have et:((R0++us).map Tm.av).take R0.length=R0.map Tm.av:=by simp
   rw[et]
   have hI4:=hI3.setR (B:=R0) gT
   generalize (σ2++[AObj.list (us.map Tm.av)]).set (σ.length+1) (.list (R0.map Tm.av))=σ4 at hI4⊢
   walk_at"*"
   refine j1x (v:=some (.s f us)) (by simp only[kAv,f0d,f0a,f0b,f0c,Tm.avL_map]) hI4.known (by exact LA [_] [] 7253556466931544423235592 rfl hKz) ?_
   have hI5:=hI4.setK (B:=q0g K c'.2 (some (.s f us))) gT
   generalize σ4.set σ.length (.dictI (r0v (q0g K c'.2 (some (.s f us)))))=σ5 at hI5⊢
   have hIr5:=hI5.res
   walk_at"*"
   refine m0n (t:=.s f us) (by simp only[f0d,f0a,f0b,f0c,Tm.avL_map]) hI5.res (by exact LA [_,_] [] 7427641822173930286413262888 rfl hRz) ?_
   walk_at"*"
   exact fin _ _ _ _ _ _ (h0m rfl rfl rfl rfl rfl) (hI5.setR gT) hr
  ·walk_at"*"
   refine b0g (c:=c') W hIs2 hd' ?_
   walk_at"*"
   have hIr2:=hI2.res
   have hIw2:=hI2.wk
   cases hst with
   |varOld e1 h2 h3 h4=>
    rename_i p k
    subst e1
    walk_at"*"
    refine inM (hm:=hm) hI2.tab ?_
    rw[h2]
    walk_at"*"
    refine d0h (x:=.int k) hI2.tab (by rw[d0w,h2];rfl) ?_
    walk_at"*"
    refine m0n (t:=.v k) rfl hI2.res (by exact LA [_] [] 7253556466966728795324456 rfl h3) ?_
    walk_at"*"
    exact fin _ _ _ _ _ _ (h0m rfl rfl rfl rfl rfl) (hI2.setR gT) h4
   |varNew e1 h2 h3 h4 h5=>
    rename_i p
    subst e1
    walk_at"*"
    refine inM (hm:=hm) hI2.tab ?_
    rw[h2]
    walk_at"*"
    refine l0x hm hI2.tab (by simp[a0u];exact LA [_] [] 7253556466931544423235592 rfl h3) ?_
    have el:((a0u A).length:Int)=(A.length:Int):=by simp[a0u]
    rw[el]
    walk_at"*"
    refine j1y hI2.tab h2 (by exact LA [_] [] 7253556466931544423235592 rfl h3) ?_
    have hI3:=hI2.setT (B:=A++[(p,(A.length:Int))]) gT
    generalize σ2.set ti (.dictI (a0u (A++[(p,(A.length:Int))])))=σ3 at hI3⊢
    have hIr3:=hI3.res
    walk_at"*"
    refine d0h (x:=.int A.length) hI3.tab (by
     rw[d0w]
     unfold b0o at h2⊢
     rw[List.find?_append,Option.map_eq_none_iff.mp h2];simp) ?_
    walk_at"*"
    refine m0n (t:=.v A.length) rfl hI3.res (by exact LA [_] [] 7253556466966728795324456 rfl h4) ?_
    walk_at"*"
    exact fin _ _ _ _ _ _ (h0m rfl rfl rfl rfl rfl) (hI3.setR gT) h5
   |atom e1 h2 h3=>
    rename_i k
    subst e1
    walk_at"*"
    refine m0n (t:=.a k) rfl hI2.res (by exact LA [_] [] 7253556466966728795324456 rfl h2) ?_
    walk_at"*"
    exact fin _ _ _ _ _ _ (h0m rfl rfl rfl rfl rfl) (hI2.setR gT) h3
   |int e1 h2 h3=>
    rename_i k
    subst e1
    walk_at"*"
    refine m0n (t:=.i k) rfl hI2.res (by exact LA [_] [] 7253556466966728795324456 rfl h2) ?_
    walk_at"*"
    exact fin _ _ _ _ _ _ (h0m rfl rfl rfl rfl rfl) (hI2.setR gT) h3
   |known h1 h2 h3 h4=>
    rename_i t
    have hc:d'.1=2∨d'.1=3:=by simpa[isC]using h1
    have e0:(d'.1==0)=false:=by simp;exact LA [] [_] 226163008678316348648 rfl hc
    have e4:(d'.1==4)=false:=by simp;exact LA [] [_] 5096103444137637975272 rfl hc
    have e5:(d'.1==5)=false:=by simp;exact LA [] [_] 6276695064855049278696 rfl hc
    refine a0h (λh=>by rw[e0]at h;(exact a0t h)) (λ_=>?_)
    walk_at"*"
    refine a0h (λh=>by rw[e4]at h;(exact a0t h)) (λ_=>?_)
    walk_at"*"
    refine a0h (λh=>by rw[e5]at h;(exact a0t h)) (λ_=>?_)
    walk_at"*"
    refine n0q hm hI2.known ?_
    rw[l0n,h2]
    walk_at"*"
    refine d0h (x:=t.av) hI2.known (by rw[l0n,h2];rfl) ?_
    walk_at"*"
    have hn:t.av.isNone=false:=by cases t<;>rfl
    refine u0v (by intro u;cases t<;>exact AV.noConfusion) ?_
    rw[hn]
    walk_at"*"
    refine m0n (t:=t) rfl hI2.res (by exact LA [_] [] 7253556466966728795324456 rfl h3) ?_
    walk_at"*"
    exact fin _ _ _ _ _ _ (h0m rfl rfl rfl rfl rfl) (hI2.setR gT) h4
   |push h1 h2 h3 h4 h5=>
    rename_i f args
    have hc:d'.1=2∨d'.1=3:=by have:=h1.comp;simpa using this
    have e0:(d'.1==0)=false:=by simp;exact LA [] [_] 226163008678316348648 rfl hc
    have e4:(d'.1==4)=false:=by simp;exact LA [] [_] 5096103444137637975272 rfl hc
    have e5:(d'.1==5)=false:=by simp;exact LA [] [_] 6276695064855049278696 rfl hc
    refine a0h (λh=>by rw[e0]at h;(exact a0t h)) (λ_=>?_)
    walk_at"*"
    refine a0h (λh=>by rw[e4]at h;(exact a0t h)) (λ_=>?_)
    walk_at"*"
    refine a0h (λh=>by rw[e5]at h;(exact a0t h)) (λ_=>?_)
    walk_at"*"
    refine n0q hm hI2.known ?_
    rw[l0n,h2]
    walk_at"*"
    refine j1x (v:=none) rfl hI2.known (by exact LA [_] [] 7253556466931544423235592 rfl h3) ?_
    have hI3:=hI2.setK (B:=q0g K d'.2 none) gT
    generalize σ2.set σ.length (.dictI (r0v (q0g K d'.2 none)))=σ3 at hI3⊢
    have hIw3:=hI3.wk
    walk_at"*"
    refine w0e (b:=true) (c:=d') rfl hI3.wk (by exact LA [_,_] [] 7427641823326851791020109864 rfl h4) ?_
    have hI4:=hI3.setW (B:=(true,d')::wk) gT
    generalize σ3.set (σ.length+2) (wkT ((true,d')::wk))=σ4 at hI4⊢
    have hIs4:=hS.same hI4.same (by simp;exact LA [_,_,_] [] 6156923548800345893067166159262041273041722568 rfl hti)
    have hIy4:=hY.same hI4.same (by simp;exact LA [_,_,_] [] 7585565080616509803189106044025402860989619400 rfl hti)
    walk_at"*"
    refine g0g (c:=d') W ?_
    rw[show(if d'.1=3 then d'.2 else d'.2+1)=bs d' from rfl]
    walk_at"*"
    refine h0h ?_
    walk_at"*"
    refine i0y W hIs4 hIy4 h1.wd ?_
    walk_at"*"
    refine s0b rfl ⟨_,_,l0v (k:=args.length) (by exact LA [_,_] [] 7427641822137901489394298920 rfl h4),λi l σ'=>l=((PySem.Str.ofString "place",AV.int (bs d'))::tkL n σ.length ti)∧TkIs σ ti ((args.map λx=>(false,x)).drop (args.length - i)++(true,d')::wk) R (q0g K d'.2 none) A σ',⟨_,?_,rfl,?_⟩,λ_ _ _ _ _=>trivial,?_,?_⟩
    ·exact Sub.cons rfl (h0m rfl rfl rfl rfl rfl)
    ·rw[Nat.sub_zero,List.drop_of_length_le (by simp),List.nil_append];exact hI4
    ·intro i z l σ5 hz' z0;refine a0m z0 λel hI5=>?_;clear z0
     subst el
     refine a0m (c0k hz') λhi z0=>?_;subst z0
     intro P hP
     refine e0q (by rfl) ?_
     have hIs5:=hS.same hI5.same (by simp;exact LA [_,_,_] [] 6156923548800345893067166159262041273041722568 rfl hti)
     have hIw5:=hI5.wk
     have hlt:args.length - 1 - i<args.length:=by exact LA [_,_] [] 1133645243908136 rfl hi
     have hx:args[args.length - 1 - i]?=some args[args.length - 1 - i]:=List.getElem?_eq_getElem hlt
     have hb0:=h1.b0
     unfold tkL
     walk_at"*"
     refine a0s (x:=args[args.length - 1 - i]) hIs5.heap (by exact LA [_,_] [_] 704863277177530691472097320 rfl hi hb0) ?_ ?_
     ·have:=h1.args _ _ hx
      rw[show(bs d'+((args.length:Int) - 1 - i)).toNat=(bs d').toNat+(args.length - 1 - i)by exact LA [_,_] [_] 299633359710396003579002516859818901544 rfl hi hb0];exact this
     walk_at"*"
     refine w0e (b:=false) (c:=args[args.length - 1 - i]) rfl hI5.wk (by simp;exact LA [_,_,_] [] 8166778559317850463362871197378542579752 rfl h4) ?_
     walk_at"*"
     refine⟨_,Sub.cons rfl (h0m rfl rfl rfl rfl rfl),rfl,?_⟩
     have hI6:=hI5.setW (B:=(args.map λx=>(false,x)).drop (args.length - (i+1))++(true,d')::wk) gT
     have:=n0v (args.map λx=>(false,x)) ((true,d')::wk) i (false,args[args.length - 1 - i]) (by simpa using hi) (by rw[List.length_map,List.getElem?_map,hx];rfl)
     rw[List.length_map]at this
     have e6:wkT ((false,args[args.length - 1 - i])::((args.map λx=>(false,x)).drop (args.length - i)++(true,d')::wk))=wkT ((args.map λx=>(false,x)).drop (args.length - (i+1))++(true,d')::wk):=by
      simp only[wkT,←this,List.reverse_cons]
     rw[e6];exact hI6
    ·intro l σ5 z0;refine a0m z0 λel hI5=>?_;clear z0
     subst el
     simp only[List.length_map,List.length_range,Nat.sub_self,List.drop_zero]at hI5
     walk_at"*"
     exact fin _ _ _ _ _ _ (h0m rfl rfl rfl rfl rfl) hI5 h5
 ·obtain _|⟨⟨b,c'⟩,wk⟩:=wk
  ·have hr:=hr.fin
   have:=hr.2
   subst this
   have hr:=hr.1
   ·walk_at"*"
    refine b0r hI.res (by decide) (by rw[List.getElem?_map,show Int.toNat 0=0 from rfl,hr];rfl) ?_
    walk_at"*"
    refine Fin.of rfl _ (hI.same.eq1 hI.tab) (hcl.set (o:=.dictI _) ?_) (Tm.bd _ r) h
    clear hI hr hIw hIs h1
    have: ∀F:b0k,AV.bdL σ.length ((a0u F).map (·.2)):=λF=>by
     induction F with
     |nil=>trivial
     |cons p F ih=>exact⟨trivial,ih⟩
    exact this _
  ·simp at h1
end
theorem b1i:(2:Int)^200<2^1000:=by
 have:=Nat.pow_lt_pow_right (show 1<2 by decide) (show 200<1000 by decide)
 exact_mod_cast this
noncomputable def x0x(ci:Nat)(pos num seed bud:Int):AObj:=.list [.ref ci,.int pos,.int num,.int seed,.int bud]
structure IsHand (σ:Sig) (hi ci:Nat) (ks:List Int) (bud:Int):Prop where
 cells:σ[ci]?=some (.list (ks.map .int))
 hand: ∃pos num seed:Int,0≤pos∧pos≤ks.length∧0≤num∧0≤seed∧seed<2^40∧σ[hi]?=some (x0x ci pos num seed bud)
theorem IsHand.lt{σ:Sig}{hi ci:Nat}{ks:List Int}{bud:Int}(h:IsHand σ hi ci ks bud):hi<σ.length∧ci<σ.length:=by
 refine r0n (h.hand) λ_ _ _ _ _ _ _ _ h2=>?_
 exact⟨b0m h2,b0m h.cells⟩
theorem IsHand.ne{σ:Sig}{hi ci:Nat}{ks:List Int}{bud:Int}(h:IsHand σ hi ci ks bud):hi≠ci:=by
 refine r0n (h.hand) λ_ _ _ _ _ _ _ _ h2=>?_
 rintro rfl
 rw[h.cells]at h2
 cases ks with
 |nil=>(exact absurd h2 nofun)
 |cons k r=>(exact absurd h2 nofun)
theorem IsHand.same{σ σ':Sig}{hi ci:Nat}{ks:List Int}{bud:Int}{W:List Nat}(h:IsHand σ hi ci ks bud)(s:Same W σ σ')(h1:hi∉W)(h2:ci∉W):IsHand σ' hi ci ks bud:=by
 refine r0n (h.hand) λa b c p1 p2 p3 p4 p5 h3=>?_
 exact⟨s.get h.cells h2,a,b,c,p1,p2,p3,p4,p5,s.get h3 h1⟩
section
variable {G:Gx} {m:Nat} {cenv:Env} {loc:Loc} {σ:Sig}
theorem Fin.one{σ σ':Sig}{i:Nat}{o:AObj}{Q:AV→Sig→Prop}{fl:AFlow}{x:AV}(hcl:Cl σ.length σ)(hx:match fl with| .ret y=>x=y|_=>x=.none)(s:Same [i] σ σ')(e:σ'[i]?=some o)(hb:o.bd σ.length)(b:x.bd σ.length)(q:Q x (σ.set i o)):Fin σ Q fl σ':=Fin.of hx _ (s.eq1 e) (hcl.set hb) b q
theorem c0v(W:WOk G (hd.heap_1 G.w.params)){hi ci:Nat}{ks:List Int}{bud limit:Int}(hH:IsHand σ hi ci ks bud)(hl0:0<limit)(hl1:limit<2^200){Q:AV→Sig→Prop}
  (h: ∀d σ',0≤d→d<limit→Same [hi] σ σ'→σ'.length=σ.length→IsHand σ' hi ci ks bud→Q (.int d) σ'):a0b G (m+1) (.ref 495) [.ref hi,.int limit] σ Q:=by
 refine a0x W (by k_is) (by k_is) (e0x (p:="hand") (q:="limit") λv u=>rfl) rfl rfl (by decide) (by decide) rfl rfl rfl (λL qq fu co hcl=>?_)
 have hne:=hH.ne
 have hlt:=hH.lt
 have hcells:=hH.cells
 refine r0n (hH.hand) λpos num seed p1 p2 p3 p4 p5 hh=>?_
 unfold x0x at hh
 have bd: ∀pos num seed,(x0x ci pos num seed bud).bd σ.length:=λpos num seed=>by
  exact⟨hlt.2,trivial,trivial,trivial,trivial,trivial⟩
 have fin: ∀(σ':Sig) (d pos num seed:Int),0≤d→d<limit→0≤pos→pos≤ks.length→0≤num→0≤seed→seed<2^40→Same [hi] σ σ'→σ'[hi]?=some (x0x ci pos num seed bud)→Fin σ Q (.ret (.int d)) σ':=λσ' d pos num seed h1 h2 h3 h4 h5 h6 h7 hs he=>
  Fin.one hcl rfl hs he (bd _ _ _) trivial (h d _ h1 h2 ((Same.refl _ _).set (by exact .inl (.head _))) (by exact List.length_set) ⟨a0c hcells hne,pos,num,seed,h3,h4,h5,h6,h7,a0d hh⟩)
 walk_at"*"
 refine a0h (λh2=>?_) (λh2=>?_)
 ·walk_at"*"
  refine a0h (λh3=>?_) (λh3=>?_)
  ·walk_at"*"
   refine r0d (f1h (by omega)) ?_
   walk_at"*"
   refine j0e (by decide) ?_
   walk_at"*"
   refine d0p hh (by decide) (Nat.le_of_ble_eq_true rfl) ?_
   have hh2:(σ.set hi (.list ([AV.ref ci,.int pos,.int num,.int seed,.int bud].set (Int.toNat 3) (.int (seed*48271%2147483647)))))[hi]?=some (.list [.ref ci,.int pos,.int num,.int (seed*48271%2147483647),.int bud]):=a0d hh
   walk_at"*"
   refine n0n (by decide) (Int.lt_trans (show(7:Int)<2^200 by decide) b1i) ?_
   walk_at"*"
   refine j0e hl0 ?_
   have:=Int.emod_nonneg (seed*48271) (show(2147483647:Int)≠0 by decide)
   have:=Int.emod_lt_of_pos (seed*48271) (show(0:Int)<2147483647 by decide)
   walk_at"*"
   exact fin _ _ pos num _ (Int.emod_nonneg _ (by exact LA [] [_] 210630744200 rfl hl0)) (Int.emod_lt_of_pos _ hl0) p1 p2 p3 (by omega) (by omega) ((Same.refl _ _).set (by exact .inl (.head _))) hh2
  ·have h3:pos≠ks.length:=by simpa using h3
   have hlp:pos.toNat<ks.length:=by omega
   have hkp:ks[pos.toNat]?=some ks[pos.toNat]:=List.getElem?_eq_getElem hlp
   walk_at"*"
   refine b0r (x:=.int ks[pos.toNat]) hcells p1 (by rw[List.getElem?_map,hkp];rfl) ?_
   walk_at"*"
   refine d0p hh (by decide) (Nat.le_of_ble_eq_true rfl) ?_
   have hh2:(σ.set hi (.list ([AV.ref ci,.int pos,.int num,.int seed,.int bud].set (Int.toNat 1) (.int (pos+1)))))[hi]?=some (.list [.ref ci,.int (pos+1),.int num,.int seed,.int bud]):=a0d hh
   walk_at"*"
   refine a0h (λh4=>?_) (λh4=>?_)
   ·have h4:=of_decide_eq_true h4
    walk_at"*"
    refine d0p hh2 (by decide) (Nat.le_of_ble_eq_true rfl) ?_
    have hh3:((σ.set hi (.list ([AV.ref ci,.int pos,.int num,.int seed,.int bud].set (Int.toNat 1) (.int (pos+1))))).set hi (.list ([AV.ref ci,.int (pos+1),.int num,.int seed,.int bud].set (Int.toNat 2) (.int ks[pos.toNat]))))[hi]?=some (.list [.ref ci,.int (pos+1),.int ks[pos.toNat],.int seed,.int bud]):=a0d hh2
    walk_at"*"
    refine j0e hl0 ?_
    walk_at"*"
    refine n0n hl0 (Int.lt_trans hl1 b1i) ?_
    walk_at"*"
    refine d0p hh3 (by decide) (Nat.le_of_ble_eq_true rfl) ?_
    walk_at"*"
    exact fin _ _ (pos+1) (ks[pos.toNat] / limit) seed (Int.emod_nonneg _ (by exact LA [] [_] 210630744200 rfl hl0)) (Int.emod_lt_of_pos _ hl0) (by exact LA [] [_] 7847109859432 rfl p1) (by omega) (Int.ediv_nonneg (by omega) (by exact LA [] [_] 4499576968 rfl hl0)) p4 p5 ((((Same.refl _ _).set (by exact .inl (.head _))).set (by exact .inl (.head _))).set (by exact .inl (.head _))) (a0d hh3)
   ·have h4:=of_decide_eq_false h4
    walk_at"*"
    refine d0p hh2 (by decide) (Nat.le_of_ble_eq_true rfl) ?_
    have hh3:((σ.set hi (.list ([AV.ref ci,.int pos,.int num,.int seed,.int bud].set (Int.toNat 1) (.int (pos+1))))).set hi (.list ([AV.ref ci,.int (pos+1),.int num,.int seed,.int bud].set (Int.toNat 2) (.int (-ks[pos.toNat])))))[hi]?=some (.list [.ref ci,.int (pos+1),.int (-ks[pos.toNat]),.int seed,.int bud]):=a0d hh2
    walk_at"*"
    refine j0e hl0 ?_
    walk_at"*"
    refine n0n hl0 (Int.lt_trans hl1 b1i) ?_
    walk_at"*"
    refine d0p hh3 (by decide) (Nat.le_of_ble_eq_true rfl) ?_
    walk_at"*"
    exact fin _ _ (pos+1) ((-ks[pos.toNat]) / limit) seed (Int.emod_nonneg _ (by exact LA [] [_] 210630744200 rfl hl0)) (Int.emod_lt_of_pos _ hl0) (by exact LA [] [_] 7847109859432 rfl p1) (by omega) (Int.ediv_nonneg (by omega) (by exact LA [] [_] 4499576968 rfl hl0)) p4 p5 ((((Same.refl _ _).set (by exact .inl (.head _))).set (by exact .inl (.head _))).set (by exact .inl (.head _))) (a0d hh3)
 ·walk_at"*"
  refine j0e hl0 ?_
  walk_at"*"
  refine n0n hl0 (Int.lt_trans hl1 b1i) ?_
  walk_at"*"
  refine d0p hh (by decide) (Nat.le_of_ble_eq_true rfl) ?_
  walk_at"*"
  exact fin _ _ pos (num / limit) seed (Int.emod_nonneg _ (by exact LA [] [_] 210630744200 rfl hl0)) (Int.emod_lt_of_pos _ hl0) (by omega) (by omega) (Int.ediv_nonneg (by omega) (by exact LA [] [_] 4499576968 rfl hl0)) p4 p5 ((Same.refl _ _).set (by exact .inl (.head _))) (a0d hh)
end
theorem IsHand.out{σ σ':Sig}{hi ci:Nat}{ks:List Int}{bud bud':Int}(hH:IsHand σ hi ci ks bud)(hH':IsHand σ' hi ci ks bud'): ∃o,σ'[hi]?=some o∧o.bd σ.length∧IsHand (σ.set hi o) hi ci ks bud':=by
 refine r0n (hH'.hand) λp n s a1 a2 a3 a4 a5 e=>?_
 refine r0n (hH.hand) λ_ _ _ _ _ _ _ _ e0=>?_
 refine⟨_,e,?_,a0c hH.cells hH.ne,p,n,s,a1,a2,a3,a4,a5,a0d e0⟩
 exact⟨hH.lt.2,trivial,trivial,trivial,trivial,trivial⟩
theorem Fin.hand{σ σ':Sig}{hi ci:Nat}{ks:List Int}{bud bud':Int}{Q:AV→Sig→Prop}{x:AV}(hcl:Cl σ.length σ)(hH:IsHand σ hi ci ks bud)(hs:Same [hi] σ σ')(hH':IsHand σ' hi ci ks bud')(b:x.bd σ.length)
  (h: ∀τ,Same [hi] σ τ→τ.length=σ.length→IsHand τ hi ci ks bud'→Q x τ):Fin σ Q (.ret x) σ':=by
 refine a0q (hH.out hH') λo e ho hI=>?_
 walk_at"*"
 exact Fin.one hcl rfl hs e ho b (h _ ((Same.refl _ _).set (by exact .inl (.head _))) (by exact List.length_set) hI)
noncomputable def b1a(low:Int):Tm→Prop
 | .v k=>0≤k∧k<low
 | .s _ _=>False
 |_=>True
noncomputable def c0i(a1 a2:Int):AObj:=.list [.int 0,.int a1,.int a2]
noncomputable def d0d(f1 f2 f3:Int):AObj:=.list [.int 0,.int f1,.int f2,.int f3]
section
variable {G:Gx} {m:Nat} {cenv:Env} {loc:Loc} {σ:Sig}
theorem r0u(W:WOk G (hd.heap_1 G.w.params)){hi ci ai:Nat}{ks:List Int}{bud low a1 a2:Int}(hH:IsHand σ hi ci ks bud)(hA:σ[ai]?=some (c0i a1 a2))(hai:ai≠hi)(hl0:0≤low)(hl1:low<2^200){Q:AV→Sig→Prop}
  (h: ∀t σ',b1a low t→Same [hi] σ σ'→σ'.length=σ.length→IsHand σ' hi ci ks bud→Q t.av σ'):a0b G (m+2) (.ref 502) [.ref hi,.ref ai,.int low] σ Q:=by
 refine a0x W (by k_is) (by k_is) (e0y (p:="hand") (q:="atoms") (o:="lowest") λv u t=>rfl) rfl rfl (by decide) (by decide) rfl rfl rfl (λL qq fu co hcl=>?_)
 unfold c0i at hA
 walk_at"*"
 refine c0v W hH (by decide) (by decide) λd σ1 h1 h2 hs1 hl1' hH1=>?_
 walk_at"*"
 refine a0h (λe=>?_) (λe=>?_)
 ·have hA1:=hs1.get hA (by simpa using hai)
  walk_at"*"
  refine c0v W hH1 (by decide) (by decide) λd2 σ2 h3 h4 hs2 hl2 hH2=>?_
  have hA2:=hs2.get hA1 (by simpa using hai)
  obtain⟨z,hz⟩: ∃z:Int,([AV.int 0,.int a1,.int a2]:List AV)[d2.toNat]?=some (.int z):=by
   have:d2=0∨d2=1∨d2=2:=by exact LA [] [_] 2936595821080805151232961419368 rfl h3 h4
   rcases this with rfl|rfl|rfl<;>exact⟨_,rfl⟩
  walk_at"*"
  refine b0r hA2 h3 hz ?_
  walk_at"*"
  exact Fin.hand hcl hH (hs1.trans hs2) hH2 (Tm.bd _ (.a z)) λτ a b c=>h (.a z) τ trivial a b c
 walk_at"*"
 refine a0h (λe=>?_) (λe=>?_)
 ·walk_at"*"
  refine c0v W hH1 (by decide) (by decide) λd2 σ2 h3 h4 hs2 hl2 hH2=>?_
  walk_at"*"
  exact Fin.hand hcl hH (hs1.trans hs2) hH2 (Tm.bd _ (.i (d2 - 4))) λτ a b c=>h (.i (d2 - 4)) τ trivial a b c
 walk_at"*"
 refine a0h (λe=>?_) (λe=>?_)
 ·walk_at"*"
  refine w0l (by decide) (by decide) (by decide) ?_
  walk_at"*"
  refine c0v W hH1 (by decide) (by decide) λd2 σ2 h3 h4 hs2 hl2 hH2=>?_
  walk_at"*"
  refine w0l (by decide) (by decide) (by decide) ?_
  walk_at"*"
  exact Fin.hand hcl hH (hs1.trans hs2) hH2 (Tm.bd _ (.i (d2 - 10^Int.toNat 29))) λτ a b c=>h (.i (d2 - 10^Int.toNat 29)) τ trivial a b c
 walk_at"*"
 refine a0h (λe=>?_) (λe=>?_)
 ·have e:=of_decide_eq_true e
  walk_at"*"
  refine c0v W hH1 e hl1 λd2 σ2 h3 h4 hs2 hl2 hH2=>?_
  walk_at"*"
  exact Fin.hand hcl hH (hs1.trans hs2) hH2 (Tm.bd _ (.v d2)) λτ a b c=>h (.v d2) τ ⟨h3,h4⟩ a b c
 ·have hA1:=hs1.get hA (by simpa using hai)
  walk_at"*"
  exact Fin.hand hcl hH hs1 hH1 (Tm.bd _ (.a 0)) λτ a b c=>h (.a 0) τ trivial a b c
noncomputable def c1i(low f1 f2 a1:Int)(o:Option Tm):Prop:=o=none∨∃t,b1a low t∧(o=some t∨o=some (.s f1 [t])∨o=some (.s f2 [t,.a a1])∨o=some (.s f2 [.i 7,t]))
theorem a1a(W:WOk G (hd.heap_1 G.w.params)){hi ci ai fi:Nat}{ks:List Int}{bud low a1 a2 f1 f2 f3:Int}(hH:IsHand σ hi ci ks bud)(hA:σ[ai]?=some (c0i a1 a2))(hai:ai≠hi)(hF:σ[fi]?=some (d0d f1 f2 f3))(hfi:fi≠hi)(hl0:0≤low)(hl1:low<2^200){Q:AV→Sig→Prop}
  (h: ∀o σ',c1i low f1 f2 a1 o→Same [hi] σ σ'→σ'.length=σ.length→IsHand σ' hi ci ks bud→Q (kAv o) σ'):a0b G (m+3) (.ref 514) [.ref hi,.int low,.ref ai,.ref fi] σ Q:=by
 refine a0x W (by k_is) (by k_is) (u0r (p:="hand") (q:="number") (o:="atoms") (o':="forms") λv u t t'=>rfl) rfl rfl (by decide) (by decide) rfl rfl rfl (λL qq fu co hcl=>?_)
 walk_at"*"
 refine c0v W hH (by decide) (by decide) λd σ1 h1 h2 hs1 hl1' hH1=>?_
 have hA1:=hs1.get hA (by simpa using hai)
 walk_at"*"
 refine r0u W hH1 hA1 hai hl0 hl1 λt σ2 ht hs2 hl2 hH2=>?_
 have hA2:=hs2.get hA1 (by simpa using hai)
 have hF2:=hs2.get (hs1.get hF (by simpa using hfi)) (by simpa using hfi)
 have hs:=hs1.trans hs2
 unfold c0i at hA2
 unfold d0d at hF2
 walk_at"*"
 refine a0h (λe=>?_) (λe=>?_)
 ·walk_at"*"
  exact Fin.hand hcl hH hs hH2 (Tm.bd _ t) λτ a b c=>h (some t) τ (.inr ⟨t,ht,.inl rfl⟩) a b c
 walk_at"*"
 refine a0h (λe=>?_) (λe=>?_)
 ·walk_at"*"
  exact Fin.hand hcl hH hs hH2 (Tm.bd _ (.s f1 [t])) λτ a b c=>h (some (.s f1 [t])) τ (.inr ⟨t,ht,.inr (.inl rfl)⟩) a b c
 walk_at"*"
 refine a0h (λe=>?_) (λe=>?_)
 ·walk_at"*"
  exact Fin.hand hcl hH hs hH2 (Tm.bd _ (.s f2 [t,.a a1])) λτ a b c=>h (some (.s f2 [t,.a a1])) τ (.inr ⟨t,ht,.inr (.inr (.inl rfl))⟩) a b c
 walk_at"*"
 refine a0h (λe=>?_) (λe=>?_)
 ·walk_at"*"
  exact Fin.hand hcl hH hs hH2 (Tm.bd _ (.s f2 [.i 7,t])) λτ a b c=>h (some (.s f2 [.i 7,t])) τ (.inr ⟨t,ht,.inr (.inr (.inr rfl))⟩) a b c
 walk_at"*"
 exact Fin.hand hcl hH hs hH2 trivial λτ a b c=>h none τ (.inl rfl) a b c
end
theorem p0s{c:Bool}{A B:Prop}(h2:c=false→B)(h1:c=true→A):if c=true then A else B:=a0h h1 h2
mutual
noncomputable def Tm.dep:Tm→Nat
 | .s _ ts=>Tm.depL ts+1
 |_=>0
noncomputable def Tm.depL:List Tm→Nat
 |[]=>0
 |t::ts=>max t.dep (Tm.depL ts)
end
mutual
noncomputable def Tm.size:Tm→Nat
 | .s _ ts=>Tm.sizeL ts+1
 |_=>1
noncomputable def Tm.sizeL:List Tm→Nat
 |[]=>0
 |t::ts=>t.size+Tm.sizeL ts
end
theorem q0w{n:Int}:(Tm.v n).dep=0:=rfl
theorem q0t{n:Int}:(Tm.a n).dep=0:=rfl
theorem q0u{n:Int}:(Tm.i n).dep=0:=rfl
theorem q0v{f:Int}{ts:List Tm}:(Tm.s f ts).dep=Tm.depL ts+1:=rfl
theorem w0z:Tm.depL []=0:=rfl
theorem w0y{t:Tm}{ts:List Tm}:Tm.depL (t::ts)=max t.dep (Tm.depL ts):=rfl
theorem e0g{n:Int}:(Tm.v n).size=1:=rfl
theorem e0d{n:Int}:(Tm.a n).size=1:=rfl
theorem e0e{n:Int}:(Tm.i n).size=1:=rfl
theorem e0f{f:Int}{ts:List Tm}:(Tm.s f ts).size=Tm.sizeL ts+1:=rfl
theorem f0z:Tm.sizeL []=0:=rfl
theorem f0y{t:Tm}{ts:List Tm}:Tm.sizeL (t::ts)=t.size+Tm.sizeL ts:=rfl
theorem Tm.dep_mem: ∀{ts:List Tm} {t:Tm},t∈ts→t.dep≤Tm.depL ts
 |u::ts,t,h=>by
  simp only[w0z,w0y]
  rcases List.mem_cons.mp h with rfl|h
  ·exact LA [_,_] [] 1064960 rfl
  ·have:=Tm.dep_mem h;exact LA [_,_,_] [] 1185411006472 rfl this
mutual
noncomputable def a0r(A:List Int):Tm→List Int
 | .v k=>if A.contains k then A else A++[k]
 | .s _ ts=>a0g A ts
 | .a _=>A
 | .i _=>A
noncomputable def a0g(A:List Int):List Tm→List Int
 |[]=>A
 |t::ts=>a0g (a0r A t) ts
end
theorem k0e{A:List Int}{k:Int}:a0r A (.v k)=if A.contains k then A else A++[k]:=rfl
theorem k0d{A:List Int}{f:Int}{ts:List Tm}:a0r A (.s f ts)=a0g A ts:=rfl
theorem k0b{A:List Int}{k:Int}:a0r A (.a k)=A:=rfl
theorem k0c{A:List Int}{k:Int}:a0r A (.i k)=A:=rfl
theorem r0l{A:List Int}:a0g A []=A:=rfl
theorem r0k{A:List Int}{t:Tm}{ts:List Tm}:a0g A (t::ts)=a0g (a0r A t) ts:=rfl
theorem e0i(A:List Int): ∀ts us:List Tm,a0g A (ts++us)=a0g (a0g A ts) us
 |[],_=>rfl
 |t::ts,us=>by simp only[List.cons_append,r0l,r0k];exact e0i _ ts us
mutual
theorem i0g(A:List Int): ∀t:Tm,(a0r A t).length≤A.length+t.size
 | .v k=>by simp only[k0e,k0d,k0b,k0c,e0g,e0d,e0e,e0f];split<;>simp
 | .s _ ts=>by simp only[k0e,k0d,k0b,k0c,e0g,e0d,e0e,e0f];have:=i0d A ts;exact LA [_,_,_] [] 8156067303748141064 rfl this
 | .a _=>by simp[k0e,k0d,k0b,k0c]
 | .i _=>by simp[k0e,k0d,k0b,k0c]
theorem i0d(A:List Int): ∀ts:List Tm,(a0g A ts).length≤A.length+Tm.sizeL ts
 |[]=>by simp[r0l,r0k]
 |t::ts=>by
  simp only[r0l,r0k,f0z,f0y]
  have:=i0d (a0r A t) ts
  have:=i0g A t
  exact LA [_,_,_,_,_] [] 2704129353443547454771173916680 rfl (by assumption) this
end
theorem n0f: ∀(ts:List Tm) (i:Nat) (t:Tm),ts[i]?=some t→Tm.sizeL (ts.take i)+t.size≤Tm.sizeL ts
 |[],i,t,h=>by trivial
 |u::ts,0,t,h=>by simp at h;subst h;simp[f0z,f0y]
 |u::ts,i+1,t,h=>by
  have:=n0f ts i t (by simpa using h)
  simp only[List.take_succ_cons,f0z,f0y];exact LA [_,_,_,_] [] 2485734911889021874184 rfl this
section
variable {G:Gx} {m:Nat} {cenv:Env} {loc:Loc} {σ:Sig}
theorem o0w(k:Nat)(A:List Int):(AObj.list (A.map AV.int)).bd k:=k0p k A
theorem w0k(k:Nat): ∀F:b0k,(AObj.dictI (a0u F)).bd k:=λF=>by
 show AV.bdL k ((a0u F).map (·.2))
 induction F with
 |nil=>trivial
 |cons p F ih=>exact⟨trivial,ih⟩
end
section
variable {G:Gx} {m:Nat} {cenv:Env} {loc:Loc} {σ:Sig}
theorem e0j(W:WOk G (hd.heap_1 G.w.params)){fi:Nat}(t:Tm)(σ:Sig)(A:List Int)(Q:AV→Sig→Prop)(hd:t.dep=0)(hF:σ[fi]?=some (.list (A.map .int)))(hz:A.length+t.size≤100000)
  (h:Q (.ref fi) (σ.set fi (.list ((a0r A t).map .int)))):a0b G (m+1) (.ref 526) [t.av,.ref fi] σ Q:=by
 have gF:=b0m hF
 refine a0x W (by k_is) (by k_is) (e0x (p:="tree") (q:="found") λv u=>rfl) rfl rfl (by decide) (by decide) rfl rfl rfl (λL qq fu co hcl=>?_)
 cases t with
 |v k=>
  simp only[f0d,f0a,f0b,f0c]
  walk_at"*"
  refine u0w hF ?_
  walk_at"*"
  simp only[k0e,k0d,k0b,k0c]at h
  refine a0h (λe=>?_) (λe=>?_)
  ·walk_at"*"
   refine s0n hF (by simp only[e0g,e0d,e0e,e0f]at hz;exact LA [_] [] 7427641822173930286419554312 rfl hz) ?_
   walk_at"*"
   rw[if_neg (by simpa using e)]at h
   walk_at"*"
   exact Fin.one hcl rfl ((Same.refl _ _).set (by exact .inl (.head _))) (a0d hF) (o0w _ _) gF h
  ·walk_at"*"
   rw[if_pos (by simpa using e),c0z hF]at h
   walk_at"*"
   exact Fin.same hcl gF h
 |a k=>
  simp only[f0d,f0a,f0b,f0c]
  walk_at"*"
  simp only[k0e,k0d,k0b,k0c]at h
  rw[c0z hF]at h
  walk_at"*"
  exact Fin.same hcl gF h
 |i k=>
  simp only[f0d,f0a,f0b,f0c]
  walk_at"*"
  simp only[k0e,k0d,k0b,k0c]at h
  rw[c0z hF]at h
  walk_at"*"
  exact Fin.same hcl gF h
 |s f ts=>trivial
theorem e1j(W:WOk G (hd.heap_1 G.w.params)){fi:Nat}: ∀(d:Nat) (t:Tm) (σ:Sig) (A:List Int) (Q:AV→Sig→Prop),t.dep≤d→σ[fi]?=some (.list (A.map .int))→A.length+t.size≤100000→
  Q (.ref fi) (σ.set fi (.list ((a0r A t).map .int)))→a0b G (m+d+1) (.ref 526) [t.av,.ref fi] σ Q:=by
 intro d
 induction d with
 |zero=>exactλt σ A Q hd hF hz h=>e0j W t σ A Q (by exact LA [_] [] 6444744712 rfl hd) hF hz h
 |succ d ih=>
  intro t σ A Q hd hF hz h
  cases t with
  |s f ts=>
   have gF:=b0m hF
   have hdl:Tm.depL ts≤d:=by simp only[q0w,q0t,q0u,q0v]at hd;exact LA [_,_] [] 1126141908758536 rfl hd
   have hzl:A.length+Tm.sizeL ts≤100000:=by simp only[e0g,e0d,e0e,e0f]at hz;exact LA [_,_] [] 6490372737873561009065110982897672 rfl hz
   refine a0x W (by k_is) (by k_is) (e0x (p:="tree") (q:="found") λv u=>rfl) rfl rfl (by decide) (by decide) rfl rfl rfl (λL qq fu co hcl=>?_)
   simp only[f0d,f0a,f0b,f0c]
   walk_at"*"
   refine h0h ?_
   walk_at"*"
   refine⟨_,_,i0o,λi l σ'=>l=([("found",.ref fi)]:Loc)∧σ'=σ.set fi (.list ((a0g A (ts.take i)).map .int)),⟨_,?_,rfl,?_⟩,λ_ _ _ _ _=>trivial,?_,?_⟩
   ·exact Sub.cons rfl (Sub.nil _)
   ·simp only[List.take_zero,r0l,r0k];exact(c0z hF).symm
   ·intro i z l σ' hz' z0;refine a0m z0 λel es=>?_;clear z0
    subst el es
    rw[Tm.avL_map,List.getElem?_map]at hz'
    refine a0a (Option.map_eq_some_iff.mp hz') λt ht z0=>?_;subst z0
    intro P hP
    refine e0q (by rfl) ?_
    have hF2:=a0d (p:=.list ((a0g A (ts.take i)).map .int)) hF
    have e1:=i0d A (ts.take i)
    have e2:=n0f ts i t ht
    walk_at"*"
    refine ih t _ (a0g A (ts.take i)) _ (Nat.le_trans (Tm.dep_mem (List.mem_of_getElem? ht)) hdl) hF2 (by exact LA [_,_,_,_,_] [] 7482890306925178187741371117326141851601698466836488 rfl hzl e1 e2) ?_
    walk_at"*"
    refine⟨_,Sub.cons rfl (Sub.nil _),rfl,?_⟩
    rw[List.set_set]
    have:ts.take (i+1)=ts.take i++[t]:=by rw[List.take_add_one,ht];rfl
    rw[this,e0i];rfl
   ·intro l σ' z0;refine a0m z0 λel es=>?_;clear z0
    subst el es
    rw[Tm.avL_map,List.length_map,List.take_length]
    walk_at"*"
    simp only[k0e,k0d,k0b,k0c]at h
    walk_at"*"
    exact Fin.one hcl rfl ((Same.refl _ _).set (by exact .inl (.head _))) (a0d hF) (o0w _ _) gF h
  |v k=>exact e0j (m:=m+d+1) W _ σ A Q (by simp[q0w,q0t,q0u,q0v]) hF hz h
  |a k=>exact e0j (m:=m+d+1) W _ σ A Q (by simp[q0w,q0t,q0u,q0v]) hF hz h
  |i k=>exact e0j (m:=m+d+1) W _ σ A Q (by simp[q0w,q0t,q0u,q0v]) hF hz h
end
abbrev MR:=Bool×b0k×b0k
noncomputable def c0g(F B:b0k)(a b:Int):MR:=
 let p:b0k×b0k:=if(b0o F a).isSome=false∧(b0o B b).isSome=false then(F++[(a,b)],B++[(b,a)])else(F,B)
 (decide ((b0o p.1 a).getD (-1)=b)&&decide ((b0o p.2 b).getD (-1)=a),p)
mutual
noncomputable def a0n(F B:b0k):Tm→Tm→MR
 | .v a,.v b=>c0g F B a b
 | .a x,.a y=>(decide (x=y),F,B)
 | .i x,.i y=>(decide (x=y),F,B)
 | .s f ts,.s g us=>if f=g∧ts.length=us.length then b0p F B ts us else(false,F,B)
 |_,_=>(false,F,B)
noncomputable def b0p(F B:b0k):List Tm→List Tm→MR
 |[],[]=>(true,F,B)
 |t::ts,u::us=>if(a0n F B t u).1 then b0p (a0n F B t u).2.1 (a0n F B t u).2.2 ts us else a0n F B t u
 |_,_=>(false,F,B)
end
theorem mtv(F B:b0k)(a b:Int):a0n F B (.v a) (.v b)=c0g F B a b:=rfl
theorem mta(F B:b0k)(a b:Int):a0n F B (.a a) (.a b)=(decide (a=b),F,B):=rfl
theorem mti(F B:b0k)(a b:Int):a0n F B (.i a) (.i b)=(decide (a=b),F,B):=rfl
theorem mts(F B:b0k)(f g:Int)(ts us:List Tm):a0n F B (.s f ts) (.s g us)=if f=g∧ts.length=us.length then b0p F B ts us else(false,F,B):=rfl
theorem mlc(F B:b0k)(t u:Tm)(ts us:List Tm):b0p F B (t::ts) (u::us)=if(a0n F B t u).1 then b0p (a0n F B t u).2.1 (a0n F B t u).2.2 ts us else a0n F B t u:=rfl
theorem mln(F B:b0k):b0p F B [] []=(true,F,B):=rfl
theorem le2{a b c d:Nat}:a≤a+c∧b≤b+d:=⟨Nat.le_add_right _ _,Nat.le_add_right _ _⟩
theorem v0j(F B:b0k)(a b:Int):(c0g F B a b).2.1.length≤F.length+1∧(c0g F B a b).2.2.length≤B.length+1:=by
 unfold c0g;dsimp only;split<;>simp
theorem b0c: ∀t:Tm,1≤t.size:=λt=>by cases t<;>simp[e0g,e0d,e0e,e0f]
mutual
theorem h0d(F B:b0k): ∀t u:Tm,(a0n F B t u).2.1.length≤F.length+t.size∧(a0n F B t u).2.2.length≤B.length+t.size
 | .v a,.v b=>v0j F B a b
 | .a x,.a y=>le2
 | .i x,.i y=>le2
 | .s f ts,.s g us=>by
  simp only[mts,e0g,e0d,e0e,e0f]
  split
  ·have:=m0x F B ts us;exact LA [_,_,_,_,_] [] 9860203141272228419955573781103480869486792 rfl this
  ·simp
 | .v _,.a _=>le2
 | .v _,.i _=>le2
 | .v _,.s _ _=>le2
 | .a _,.v _=>le2
 | .a _,.i _=>le2
 | .a _,.s _ _=>le2
 | .i _,.v _=>le2
 | .i _,.a _=>le2
 | .i _,.s _ _=>le2
 | .s _ _,.v _=>le2
 | .s _ _,.a _=>le2
 | .s _ _,.i _=>le2
theorem m0x(F B:b0k): ∀ts us:List Tm,(b0p F B ts us).2.1.length≤F.length+Tm.sizeL ts∧(b0p F B ts us).2.2.length≤B.length+Tm.sizeL ts
 |[],[]=>le2
 |[],_::_=>le2
 |_::_,[]=>le2
 |t::ts,u::us=>by
  have h1:=h0d F B t u
  have h2:=m0x (a0n F B t u).2.1 (a0n F B t u).2.2 ts us
  simp only[mlc,f0z,f0y]
  split<;>omega
end
section
variable {G:Gx} {m:Nat} {cenv:Env} {loc:Loc} {σ:Sig}
theorem j1q{i:Nat}{l:List (Int×AV)}(hi:σ[i]?=some (.dictI l)):d0j G m σ (.ref i) "get" (.builtin "dict.get"):=h0e hi F.slot_dict_get F.type_dict_get
theorem m1c(hm: ∃o,G.base.get? sysModules=some o){i:Nat}{F:b0k}{k y:Int}{Q:AV→Sig→Prop}(hi:σ[i]?=some (.dictI (a0u F)))(h:Q (.int ((b0o F k).getD y)) σ):a0b G m (.builtin "dict.get") [.ref i,.int k,.int y] σ Q:=
 x0q hm hi (by
  rw[d0w]
  cases e:b0o F k with
  |none=>rw[e]at h;exact h
  |some z=>rw[e]at h;exact h)
end
section
variable {G:Gx} {m:Nat} {cenv:Env} {loc:Loc} {σ:Sig}
theorem Fin.two{σ σ':Sig}{ti bi:Nat}{F' B':b0k}{Q:AV→Sig→Prop}{b:Bool}(hcl:Cl σ.length σ)(s:Same [ti,bi] σ σ')(hF:σ'[ti]?=some (.dictI (a0u F')))(hB:σ'[bi]?=some (.dictI (a0u B')))(q:Q (.bool b) ((σ.set ti (.dictI (a0u F'))).set bi (.dictI (a0u B')))):Fin σ Q (.ret (.bool b)) σ':=
 Fin.of rfl _ (s.eq2 hF hB) ((hcl.set (w0k _ _)).set (w0k _ _)) trivial q
theorem i0q(W:WOk G (hd.heap_1 G.w.params))(hm: ∃o,G.base.get? sysModules=some o){ti bi:Nat}(hne:ti≠bi)(t u:Tm){σ:Sig}{F B:b0k}{Q:AV→Sig→Prop}(hd:t.dep=0∨u.dep=0)(hF:σ[ti]?=some (.dictI (a0u F)))(hB:σ[bi]?=some (.dictI (a0u B)))(hz:F.length+t.size≤100000∧B.length+t.size≤100000)
  (h:Q (.bool (a0n F B t u).1) ((σ.set ti (.dictI (a0u (a0n F B t u).2.1))).set bi (.dictI (a0u (a0n F B t u).2.2)))):a0b G (m+1) (.ref 533) [t.av,u.av,.ref ti,.ref bi] σ Q:=by
 refine a0x W (by k_is) (by k_is) (u0r (p:="left") (q:="right") (o:="there") (o':="back") λv u t t'=>rfl) rfl rfl (by decide) (by decide) rfl rfl rfl (λL qq fu co hcl=>?_)
 have no:(a0n F B t u)=(false,F,B)→Fin σ Q (.ret (.bool false)) σ:=λe=>by
  rw[e]at h
  walk_at"*"
  exact Fin.two hcl (Same.refl _ _) hF hB h
 cases t with
 |v a=>
  cases u with
  |v b=>
   simp only[f0d,f0a,f0b,f0c]
   walk_at"*"
   refine inM (hm:=hm) hF ?_
   walk_at"*"
   simp only[mtv,mta,mti,mts]at h
   cases ha:(b0o F a).isSome with
   |true=>
    have e:c0g F B a b=(decide ((b0o F a).getD (-1)=b)&&decide ((b0o B b).getD (-1)=a),F,B):=by unfold c0g;rw[if_neg (by simp[ha])]
    rw[e]at h
    walk_at"*"
    refine p0s (λe=>?_) (λe=>?_)
    ·rw[show decide ((b0o F a).getD (-1)=b)=false by assumption]at h
     walk_at"*"
     exact Fin.two hcl (Same.refl _ _) hF hB h
    ·rw[show decide ((b0o F a).getD (-1)=b)=true by assumption]at h
     walk_at"*"
     exact Fin.two hcl (Same.refl _ _) hF hB h
   |false=>
    walk_at"*"
    refine inM (hm:=hm) hB ?_
    walk_at"*"
    cases hb:(b0o B b).isSome with
    |true=>
     have e:c0g F B a b=(decide ((b0o F a).getD (-1)=b)&&decide ((b0o B b).getD (-1)=a),F,B):=by unfold c0g;rw[if_neg (by simp[hb])]
     rw[e]at h
     walk_at"*"
     refine p0s (λe=>?_) (λe=>?_)
     ·rw[show decide ((b0o F a).getD (-1)=b)=false by assumption]at h
      walk_at"*"
      exact Fin.two hcl (Same.refl _ _) hF hB h
     ·rw[show decide ((b0o F a).getD (-1)=b)=true by assumption]at h
      walk_at"*"
      exact Fin.two hcl (Same.refl _ _) hF hB h
    |false=>
     have e:c0g F B a b=(decide ((b0o (F++[(a,b)]) a).getD (-1)=b)&&decide ((b0o (B++[(b,a)]) b).getD (-1)=a),F++[(a,b)],B++[(b,a)]):=by unfold c0g;rw[if_pos ⟨ha,hb⟩]
     rw[e]at h
     have ha':b0o F a=none:=by simpa using ha
     have hb':b0o B b=none:=by simpa using hb
     walk_at"*"
     refine j1y hF ha' (by simp only[e0g,e0d,e0e,e0f]at hz;exact LA [_,_] [] 267608999539374120598097557099815675225309384 rfl hz) ?_
     walk_at"*"
     refine j1y (a0c hB hne) hb' (by simp only[e0g,e0d,e0e,e0f]at hz;exact LA [_,_] [] 267608999580912495466376178128059645859070152 rfl hz) ?_
     have hF2:=a0c (p:=.dictI (a0u (B++[(b,a)]))) (a0d (p:=.dictI (a0u (F++[(a,b)]))) hF) (Ne.symm hne)
     have hB2:=a0d (p:=.dictI (a0u (B++[(b,a)]))) (a0c (p:=.dictI (a0u (F++[(a,b)]))) hB hne)
     have hs2:=((Same.refl [ti,bi] σ).set (i:=ti) (o:=.dictI (a0u (F++[(a,b)]))) (by exact .inl (.head _))).set (i:=bi) (o:=.dictI (a0u (B++[(b,a)]))) (by exact .inl (.tail _ (.head _)))
     walk_at"*"
     refine p0s (λe=>?_) (λe=>?_)
     ·rw[show decide ((b0o (F++[(a,b)]) a).getD (-1)=b)=false by assumption]at h
      walk_at"*"
      exact Fin.two hcl hs2 hF2 hB2 h
     ·rw[show decide ((b0o (F++[(a,b)]) a).getD (-1)=b)=true by assumption]at h
      walk_at"*"
      exact Fin.two hcl hs2 hF2 hB2 h
  |a b=>simp only[f0d,f0a,f0b,f0c];walk_at"*";exact no rfl
  |i b=>simp only[f0d,f0a,f0b,f0c];walk_at"*";exact no rfl
  |s g us=>simp only[f0d,f0a,f0b,f0c];walk_at"*";exact no rfl
 |a x=>
  cases u with
  |a b=>
   simp only[f0d,f0a,f0b,f0c]
   walk_at"*"
   simp only[mtv,mta,mti,mts]at h
   refine p0s (λe=>?_) (λe=>?_)
   ·rw[show decide (x=b)=false by assumption]at h
    walk_at"*"
    exact Fin.two hcl (Same.refl _ _) hF hB h
   ·rw[show decide (x=b)=true by assumption]at h
    walk_at"*"
    exact Fin.two hcl (Same.refl _ _) hF hB h
  |v b=>simp only[f0d,f0a,f0b,f0c];walk_at"*";exact no rfl
  |i b=>simp only[f0d,f0a,f0b,f0c];walk_at"*";exact no rfl
  |s g us=>simp only[f0d,f0a,f0b,f0c];walk_at"*";exact no rfl
 |i x=>
  cases u with
  |i b=>
   simp only[f0d,f0a,f0b,f0c]
   walk_at"*"
   simp only[mtv,mta,mti,mts]at h
   refine p0s (λe=>?_) (λe=>?_)
   ·rw[show decide (x=b)=false by assumption]at h
    walk_at"*"
    exact Fin.two hcl (Same.refl _ _) hF hB h
   ·rw[show decide (x=b)=true by assumption]at h
    walk_at"*"
    exact Fin.two hcl (Same.refl _ _) hF hB h
  |v b=>simp only[f0d,f0a,f0b,f0c];walk_at"*";exact no rfl
  |a b=>simp only[f0d,f0a,f0b,f0c];walk_at"*";exact no rfl
  |s g us=>simp only[f0d,f0a,f0b,f0c];walk_at"*";exact no rfl
 |s f ts=>
  cases u with
  |s g us=>simp[q0w,q0t,q0u,q0v]at hd
  |v b=>simp only[f0d,f0a,f0b,f0c];walk_at"*";exact no rfl
  |a b=>simp only[f0d,f0a,f0b,f0c];walk_at"*";exact no rfl
  |i b=>simp only[f0d,f0a,f0b,f0c];walk_at"*";exact no rfl
end
theorem f0i: ∀(ts:List Tm) (i:Nat) (t:Tm),ts[i]?=some t→ts.drop i=t::ts.drop (i+1)∧Tm.sizeL (ts.drop i)=t.size+Tm.sizeL (ts.drop (i+1))
 |[],i,t,h=>by trivial
 |u::ts,0,t,h=>by simp at h;subst h;trivial
 |u::ts,i+1,t,h=>by
  have:=f0i ts i t (by simpa using h)
  assumption
section
variable {G:Gx} {m:Nat} {cenv:Env} {loc:Loc} {σ:Sig}
theorem t0q(W:WOk G (hd.heap_1 G.w.params))(hm: ∃o,G.base.get? sysModules=some o){ti bi:Nat}(hne:ti≠bi): ∀(d:Nat) (t u:Tm) (σ:Sig) (F B:b0k) (Q:AV→Sig→Prop),t.dep≤d→σ[ti]?=some (.dictI (a0u F))→σ[bi]?=some (.dictI (a0u B))→(F.length+t.size≤100000∧B.length+t.size≤100000)→t.size≤100000→
  Q (.bool (a0n F B t u).1) ((σ.set ti (.dictI (a0u (a0n F B t u).2.1))).set bi (.dictI (a0u (a0n F B t u).2.2)))→a0b G (m+d+1) (.ref 533) [t.av,u.av,.ref ti,.ref bi] σ Q:=by
 intro d
 induction d with
 |zero=>exactλt u σ F B Q hd hF hB hz _ h=>i0q W hm hne t u (.inl (by exact LA [_] [] 6444744712 rfl hd)) hF hB hz h
 |succ d ih=>
  intro t u σ F B Q hd hF hB hz hz0 h
  by_cases hleaf:t.dep=0∨u.dep=0
  ·exact i0q (m:=m+d+1) W hm hne t u hleaf hF hB hz h
  cases t with
  |v _=>exact absurd (.inl rfl) hleaf
  |a _=>exact absurd (.inl rfl) hleaf
  |i _=>exact absurd (.inl rfl) hleaf
  |s f ts=>
   cases u with
   |v _=>exact absurd (.inr rfl) hleaf
   |a _=>exact absurd (.inr rfl) hleaf
   |i _=>exact absurd (.inr rfl) hleaf
   |s g us=>
    have hdl:Tm.depL ts≤d:=by simp only[q0w,q0t,q0u,q0v]at hd;exact LA [_,_] [] 1126141908758536 rfl hd
    have hzl:F.length+Tm.sizeL ts≤100000∧B.length+Tm.sizeL ts≤100000:=by simp only[e0g,e0d,e0e,e0f]at hz;exact LA [_,_,_] [] 8627185146361164274375070849892049219115272006750425834913210535641288 rfl hz
    refine a0x W (by k_is) (by k_is) (u0r (p:="left") (q:="right") (o:="there") (o':="back") λv u t t'=>rfl) rfl rfl (by decide) (by decide) rfl rfl rfl (λL qq fu co hcl=>?_)
    have no: ¬(f=g∧ts.length=us.length)→Fin σ Q (.ret (.bool false)) σ:=λe=>by
     simp only[mtv,mta,mti,mts,if_neg e]at h
     walk_at"*"
     exact Fin.two hcl (Same.refl _ _) hF hB h
    simp only[f0d,f0a,f0b,f0c]
    walk_at"*"
    refine a0h (λe=>?_) (λe=>?_)
    ·have e:f≠g:=by simpa using e
     walk_at"*"
     exact no λq=>e q.1
    have efg:f=g:=by simpa using e
    walk_at"*"
    rw[Tm.avL_map,Tm.avL_map,List.length_map,List.length_map]
    refine a0h (λe=>?_) (λe=>?_)
    ·have e:ts.length≠us.length:=by simp only[bne_iff_ne,ne_eq]at e;exact LA [_,_] [] 1128409846060328 rfl e
     walk_at"*"
     exact no λq=>e q.2
    have elen:ts.length=us.length:=by simp at e;exact LA [_,_] [] 1101711558824 rfl e
    simp only[mtv,mta,mti,mts,if_pos (And.intro efg elen)]at h
    walk_at"*"
    refine h0h ?_
    walk_at"*"
    rw[List.length_map]
    have hlz:ts.length≤100000:=by
     have: ∀l:List Tm,l.length≤Tm.sizeL l:=λl=>by
      induction l with
      |nil=>simp
      |cons t l ih=>have:=b0c t;simp only[f0z,f0y,List.length_cons];exact LA [_,_,_] [] 1268466278935373578248 rfl ih this
     have:=this ts
     simp only[e0g,e0d,e0e,e0f]at hz0;exact LA [_,_] [] 6490372737859425332355518537150472 rfl hz0 this
    refine e0s ⟨_,_,f0u (k:=ts.length) (by exact LA [_] [] 7253556466931544423235592 rfl hlz),λi l σ'=>∃Fi Bi,l=([("left",(Tm.s f ts).av),("right",(Tm.s g us).av),("there",.ref ti),("back",.ref bi)]:Loc)∧σ'=(σ.set ti (.dictI (a0u Fi))).set bi (.dictI (a0u Bi))∧b0p F B ts us=b0p Fi Bi (ts.drop i) (us.drop i)∧Fi.length+Tm.sizeL (ts.drop i)≤100000∧Bi.length+Tm.sizeL (ts.drop i)≤100000,
     ⟨_,?_,F,B,rfl,?_,by rfl,by exact‹_∧_›.1,by exact‹_∧_›.2⟩,λ_ _ _ _ _=>trivial,?_,?_⟩
    ·simp only[f0d,f0a,f0b,f0c,Tm.avL_map]
     exact Sub.cons rfl (Sub.cons rfl (Sub.cons rfl (Sub.cons rfl (Sub.nil _))))
    ·rw[c0z hF,c0z hB]
    ·intro i z l σ' hz' z0;refine i1w z0 λFi Bi el es hmm hzF hzB=>?_;clear z0
     subst el
     refine a0m (c0k hz') λhi z0=>?_;subst z0
     have ht:ts[i]?=some ts[i]:=List.getElem?_eq_getElem hi
     have hi':i<us.length:=by omega
     have hu:us[i]?=some us[i]:=List.getElem?_eq_getElem hi'
     refine a0m (f0i ts i _ ht) λd1 d2=>?_
     refine a0m (f0i us i _ hu) λd3 _=>?_
     rw[d1,d3]at hmm
     simp only[mlc]at hmm
     have hF2:σ'[ti]?=some (.dictI (a0u Fi)):=by rw[es];exact a0c (a0d hF) (Ne.symm hne)
     have hB2:σ'[bi]?=some (.dictI (a0u Bi)):=by rw[es];exact a0d (a0c hB hne)
     have hs2:Same [ti,bi] σ σ':=by rw[es];exact((Same.refl _ _).set (by exact .inl (.head _))).set (by exact .inl (.tail _ (.head _)))
     intro P hP
     refine e0q (by rfl) ?_
     simp only[f0d,f0a,f0b,f0c,Tm.avL_map]
     walk_at"*"
     refine s0e (x:=ts[i].av) (by exact LA [_] [] 18627 rfl) (by rw[Int.toNat_natCast,List.getElem?_map,ht];rfl) ?_
     walk_at"*"
     refine s0e (x:=us[i].av) (by exact LA [_] [] 18627 rfl) (by rw[Int.toNat_natCast,List.getElem?_map,hu];rfl) ?_
     walk_at"*"
     refine ih ts[i] us[i] σ' Fi Bi _ (Nat.le_trans (Tm.dep_mem (List.getElem_mem hi)) hdl) hF2 hB2 ⟨by exact LA [_,_,_,_] [] 6805649085256155380780947183835716530184 rfl hzF d2,by exact LA [_,_,_,_] [] 6805649085256155380780947183835716530184 rfl hzB d2⟩ (by exact LA [_,_,_,_] [] 6646141684809670041688263556940705800 rfl hzF d2) ?_
     have hl:=h0d Fi Bi ts[i] us[i]
     generalize hr:a0n Fi Bi ts[i] us[i]=r at hmm hl⊢
     have hF3:=a0c (p:=.dictI (a0u r.2.2)) (a0d (p:=.dictI (a0u r.2.1)) hF2) (Ne.symm hne)
     have hB3:=a0d (p:=.dictI (a0u r.2.2)) (a0c (p:=.dictI (a0u r.2.1)) hB2 hne)
     have hs3:=(hs2.set (i:=ti) (o:=.dictI (a0u r.2.1)) (by exact .inl (.head _))).set (i:=bi) (o:=.dictI (a0u r.2.2)) (by exact .inl (.tail _ (.head _)))
     walk_at"*"
     cases hr1:r.1 with
     |true=>
      rw[hr1,if_pos rfl]at hmm
      walk_at"*"
      refine⟨([("left",.tup [.str "s",.int f,.tup (ts.map Tm.av)]),("right",.tup [.str "s",.int g,.tup (us.map Tm.av)]),("there",.ref ti),("back",.ref bi)]:Loc),Sub.cons rfl (Sub.cons rfl (Sub.cons rfl (Sub.cons rfl (Sub.nil _)))),r.2.1,r.2.2,by simp only[f0d,f0a,f0b,f0c,Tm.avL_map],?_,hmm,by exact LA [_,_,_,_,_,_,_] [] 8227524900121476945766672163585966917425304615146419549797101576 rfl hzF d2 hl,by exact LA [_,_,_,_,_,_,_] [] 8227524900217257908677467111920139208601424534897404469383802888 rfl hzB d2 hl⟩
      ·rw[es]
       apply List.ext_getElem?;intro k
       simp only[List.getElem?_set,List.length_set]
       repeat' split
       all_goals first|rfl|omega|simp_all
     |false=>
      rw[hr1,if_neg (by trivial)]at hmm
      walk_at"*"
      rw[hmm,hr1]at h
      walk_at"*"
      exact Fin.two hcl hs3 hF3 hB3 h
    ·intro l σ' z0;refine i1w z0 λFi Bi el es hmm hzF hzB=>?_;clear z0
     subst el
     rw[List.length_map,List.length_range,List.drop_length,elen,List.drop_length]at hmm
     simp only[mln]at hmm
     rw[hmm]at h
     have hF2:σ'[ti]?=some (.dictI (a0u Fi)):=by rw[es];exact a0c (a0d hF) (Ne.symm hne)
     have hB2:σ'[bi]?=some (.dictI (a0u Bi)):=by rw[es];exact a0d (a0c hB hne)
     walk_at"*"
     exact Fin.two hcl (by rw[es];exact((Same.refl _ _).set (by exact .inl (.head _))).set (by exact .inl (.tail _ (.head _)))) hF2 hB2 h
end
theorem e0z: ∀ks:List Int,AV.datL 1 (ks.map .int)
 |[]=>trivial
 |_::r=>⟨trivial,e0z r⟩
theorem l0i: ∀ks ls:List Int,AV.eqbL (ks.map .int) (ls.map .int)=decide (ks=ls)
 |[],[]=>by rfl
 |[],_::_=>by rfl
 |_::_,[]=>by rfl
 |k::ks,l::ls=>by
  have ih:=l0i ks ls
  simp only[AV.eqbL,List.map_cons,g1h,g1g,PyData.eqvAll,l1w,l1x,l1y,PyData.eqv,List.cons.injEq]at ih⊢
  rw[ih]
  by_cases h1:k=l<;>by_cases h2:ks=ls<;>simp[h1,h2]
section
variable {G:Gx} {m:Nat} {cenv:Env} {loc:Loc} {σ:Sig}
theorem q0a(W:WOk G (hd.heap_1 G.w.params))(hm: ∃o,G.base.get? sysModules=some o){di ki d N:Nat}{due told:List Tm}{F B:b0k}(hD:σ[di]?=some (.list (due.map Tm.av)))(hK:σ[ki]?=some (.list (told.map Tm.av)))(hlen:due.length=told.length)(hz:Tm.sizeL due≤100000)(hd:Tm.depL due≤d)
  (hmm:b0p [] [] due told=(true,F,B)) (hB:B.length<64) (hN:N≤100000) (hks: ∀ks:List Int,ks.Perm (B.map (·.1))→ks.Pairwise (· ≤ ·)→ks=(List.range N).map λ(i:Nat)=>(i:Int)) {Q:AV→Sig→Prop} (h:Q (.bool true) σ):a0b G (m+d+2) (.ref 540) [.ref di,.ref ki,.int N] σ Q:=by
 refine a0x W (by k_is) (by k_is) (e0y (p:="due") (q:="told") (o:="numbers") λv u t=>rfl) rfl rfl (by decide) (by decide) rfl rfl rfl (λL qq fu co hcl=>?_)
 have gD:=b0m hD
 have gK:=b0m hK
 walk_at"*"
 have hD0:(σ++[AObj.dictI []]++[AObj.dictI []])[di]?=some (.list (due.map Tm.av)):=a0j (a0j hD)
 walk_at"*"
 refine h0h ?_
 walk_at"*"
 rw[List.length_map]
 have hlz:due.length≤100000:=by
  have: ∀l:List Tm,l.length≤Tm.sizeL l:=λl=>by
   induction l with
   |nil=>exact Nat.le_refl _
   |cons t l ih=>have:=b0c t;simp only[f0z,f0y,List.length_cons];exact LA [_,_,_] [] 1268466278935373578248 rfl ih this
  have:=this due
  exact LA [_,_] [] 6338254626815845051128436064264 rfl hz this
 refine e0s ⟨_,_,f0u (k:=due.length) (by exact LA [_] [] 7253556466931544423235592 rfl hlz),λi l σ'=>∃Fi Bi,l=([("due",.ref di),("told",.ref ki),("numbers",.int N),("there",.ref σ.length),("back",.ref (σ.length+1))]:Loc)∧Same [] σ σ'∧σ'[σ.length]?=some (.dictI (a0u Fi))∧σ'[σ.length+1]?=some (.dictI (a0u Bi))∧b0p Fi Bi (due.drop i) (told.drop i)=(true,F,B)∧Fi.length+Tm.sizeL (due.drop i)≤100000∧Bi.length+Tm.sizeL (due.drop i)≤100000,
  ⟨_,?_,[],[],rfl,(Same.refl _ _).app.app,by exact gn1,by exact gn2,by assumption,by simpa using hz,by simpa using hz⟩,λ_ _ _ _ _=>trivial,?_,?_⟩
 ·exact Sub.cons rfl (Sub.cons rfl (Sub.cons rfl (Sub.cons rfl (Sub.cons (by exact congrArg (λn=>some (AV.ref n)) ln1) (Sub.nil _)))))
 ·intro i z l σ' hz' z0;refine e1h z0 λFi Bi el hs hF hBk hmi hzF hzB=>?_;clear z0
  subst el
  refine a0m (c0k hz') λhi z0=>?_;subst z0
  have ht:due[i]?=some due[i]:=List.getElem?_eq_getElem hi
  have hi':i<told.length:=by exact LA [_,_,_] [] 1197370352107592 rfl hlen hi
  have hu:told[i]?=some told[i]:=List.getElem?_eq_getElem hi'
  refine a0m (f0i due i _ ht) λd1 d2=>?_
  refine a0m (f0i told i _ hu) λd3 _=>?_
  rw[d1,d3]at hmi
  simp only[mlc]at hmi
  have hD':=hs.get hD (by exact nofun)
  have hK':=hs.get hK (by exact nofun)
  intro P hP
  refine e0q (by rfl) ?_
  walk_at"*"
  refine b0r (x:=due[i].av) hD' (by exact LA [_] [] 18627 rfl) (by rw[Int.toNat_natCast,List.getElem?_map,ht];rfl) ?_
  walk_at"*"
  refine b0r (x:=told[i].av) hK' (by exact LA [_] [] 18627 rfl) (by rw[Int.toNat_natCast,List.getElem?_map,hu];rfl) ?_
  walk_at"*"
  refine t0q (m:=m) W hm (show σ.length≠σ.length+1 by exact LA [_] [] 235274313 rfl) d due[i] told[i] σ' Fi Bi _ (Nat.le_trans (Tm.dep_mem (List.getElem_mem hi)) hd) hF hBk ⟨by exact LA [_,_,_,_] [] 6805649085256155380780947183835716530184 rfl hzF d2,by exact LA [_,_,_,_] [] 6805649085256155380780947183835716530184 rfl hzB d2⟩ (by exact LA [_,_,_,_] [] 6646141684809670041688263556940705800 rfl hzF d2) ?_
  have hl:=h0d Fi Bi due[i] told[i]
  generalize hr:a0n Fi Bi due[i] told[i]=r at hmi hl⊢
  have hr1:r.1=true:=by
   cases e:r.1 with
   |true=>rfl
   |false=>rw[e,if_neg (by trivial)]at hmi;rw[hmi]at e;(exact a0t e.symm)
  rw[hr1,if_pos rfl]at hmi
  rw[hr1]
  walk_at"*"
  exact⟨_,Sub.cons rfl (Sub.cons rfl (Sub.cons rfl (Sub.cons rfl (Sub.cons rfl (Sub.nil _))))),r.2.1,r.2.2,rfl,(hs.set (.inr (Nat.le_refl _))).set (.inr (by exact LA [_] [] 7352320 rfl)),a0c (a0d hF) (by exact LA [_] [] 7352393 rfl),a0d (a0c hBk (by exact LA [_] [] 235274313 rfl)),hmi,by exact LA [_,_,_,_,_,_,_] [] 8227524900121476945766672163585966917425304615146419549797101576 rfl hzF d2 hl,by exact LA [_,_,_,_,_,_,_] [] 8227524900217257908677467111920139208601424534897404469383802888 rfl hzB d2 hl⟩
 ·intro l σ' z0;refine e1h z0 λFi Bi el hs hF hBk hmi hzF hzB=>?_;clear z0
  subst el
  rw[List.length_map,List.length_range,List.drop_length,hlen,List.drop_length]at hmi
  simp only[mln]at hmi
  cases hmi
  have hD':=hs.get hD (by exact nofun)
  have hK':=hs.get hK (by exact nofun)
  walk_at"*"
  have ek:(a0u B).map (·.1)=B.map (·.1):=by exact List.map_map
  refine m0d hm hBk (by simpa[a0u]using hB) λks hp hsrt=>?_
  rw[ek]at hp
  have hkk:=hks ks hp hsrt
  walk_at"*"
  refine e0s ?_
  walk_at"*"
  refine b1d (m:=N) (by exact LA [_] [] 7253556466931544423235592 rfl hN) ?_
  walk_at"*"
  have e1:((List.range N).map λ(i:Nat)=>AV.int (i:Int))=ks.map .int:=by rw[hkk];simp
  rw[e1]
  walk_at"*"
  refine r0f 1 (by decide) 1 (a0j d0f) d0f (e0z _) (e0z _) ?_
  rw[l0i]
  walk_at"*"
  refine a0h (λ_=>?_) (λe=>by simp at e)
  have hD2:(σ'++[AObj.list (ks.map .int)]++[AObj.list (ks.map .int)])[di]?=some (.list (due.map Tm.av)):=a0j (a0j hD')
  have hK2:(σ'++[AObj.list (ks.map .int)]++[AObj.list (ks.map .int)])[ki]?=some (.list (told.map Tm.av)):=a0j (a0j hK')
  walk_at"*"
  rw[List.length_map,List.length_map,hlen]
  rw[show((told.length:Int)==told.length)=true by exact decide_eq_true rfl]
  walk_at"*"
  exact Fin.of rfl _ (hs.app.app.eq0) hcl trivial h
end
noncomputable def g1j(f:Tm→Option Tm):List Tm→Option (List Tm)
 |[]=>some []
 |t::ts=>(f t).bind λu=>(g1j f ts).map λus=>u::us
set_option tactic.hygienic true in
theorem t0o{f:Tm→Option Tm}: ∀{ts us:List Tm},g1j f ts=some us→us.length=ts.length∧∀(i:Nat) (t:Tm),ts[i]?=some t→∃u,us[i]?=some u∧f t=some u
 |[],us,h=>by cases(show some []=some us from h);exact⟨rfl,λi t h=>by trivial⟩
 |t::ts,us,h=>by
  obtain⟨u,h1,h⟩:=Option.bind_eq_some_iff.mp h
  obtain⟨vs,h2,h⟩:=Option.map_eq_some_iff.mp h
  ·cases h
   refine a0m (t0o h2) λe1 e2=>?_
   refine⟨by simp[e1],λi t' ht=>?_⟩
   cases i with
   |zero=>simp at ht;subst ht;exact⟨u,rfl,h1⟩
   |succ i=>simpa using e2 i t' (by simpa using ht)
abbrev e0u:=List (Int×Tm)
noncomputable def g0r(F:e0u)(k:Int):Option Tm:=(F.find? λp=>p.1=k).map (·.2)
noncomputable def h0c(F:e0u):List (Int×AV):=F.map λp=>(p.1,p.2.av)
theorem l0o(F:e0u)(k:Int):g0d (h0c F) k=(g0r F k).map Tm.av:=by
 unfold g0d h0c g0r
 rw[List.find?_map]
 simp only[Option.map_map]
 rfl
noncomputable def g0c(bd:e0u):Nat→Tm→Option Tm
 |0,_=>none
 |n+1,.v k=>match g0r bd k with
  |some u=>g0c bd n u
  |none=>some (.v k)
 |n+1,.s f ts=>if ts.length≤1000 then(g1j (g0c bd n) ts).map (.s f)else none
 |_+1,.a k=>some (.a k)
 |_+1,.i k=>some (.i k)
theorem a1m{bd:e0u}{n:Nat}{k:Int}:g0c bd (n+1) (.v k)=(match g0r bd k with
  |some u=>g0c bd n u
  |none=>some (.v k)):=rfl
theorem a1l{bd:e0u}{n:Nat}{f:Int}{ts:List Tm}:g0c bd (n+1) (.s f ts)=if ts.length≤1000 then(g1j (g0c bd n) ts).map (.s f)else none:=rfl
theorem a1j{bd:e0u}{n:Nat}{k:Int}:g0c bd (n+1) (.a k)=some (.a k):=rfl
theorem a1k{bd:e0u}{n:Nat}{k:Int}:g0c bd (n+1) (.i k)=some (.i k):=rfl
section
variable {G:Gx} {m:Nat} {cenv:Env} {loc:Loc} {σ:Sig}
theorem i1e{fd:FuncData}{p q:PySem.Str}{x y:AV}(hb: ∀v u,bindArgs fd ⟨[v,u],[]⟩=pure [(p,v),(q,u)]): ∀(h:Heap) (ρ:List Addr) (vs:List Value),VL ρ h [x,y] vs→∃ws,VL ρ h [x,y] ws∧ws.length=[p,q].length∧bindArgs fd ⟨vs,[]⟩=pure ([p,q].zip ws):=λh ρ vs hv=>by
 obtain⟨v,r,rfl,hv,u,r',rfl,hu,hr⟩:=hv;(subst hr)
 exact⟨[v,u],⟨v,_,rfl,hv,u,[],rfl,hu,rfl⟩,rfl,hb v u⟩
theorem x0l(W:WOk G (hd.heap_1 G.w.params))(hm: ∃o,G.base.get? sysModules=some o){bi:Nat}{bd:e0u}: ∀(N:Nat) (t t':Tm) (σ:Sig) (Q:AV→Sig→Prop),g0c bd N t=some t'→σ[bi]?=some (.dictI (h0c bd))→Q t'.av σ→a0b G (m+N) (.ref 519) [t.av,.ref bi] σ Q:=by
 intro N
 induction N with
 |zero=>intro t t' σ Q hf;trivial
 |succ N ih=>
  intro t t' σ Q hf hB h
  refine s0w W (by k_is) (by k_is) (i1e (p:="tree") (q:="bindings") λv u=>rfl) rfl rfl (by decide) (by decide) rfl rfl rfl (λL qq fu co hcl=>?_)
  cases t with
  |v k=>
   simp only[f0d,f0a,f0b,f0c]
   walk_at"*"
   refine n0q hm hB ?_
   rw[l0o,Option.isSome_map]
   walk_at"*"
   simp only[a1m,a1l,a1j,a1k]at hf
   cases hg:g0r bd k with
   |some u=>
    rw[hg]at hf
    walk_at"*"
    refine d0h (x:=u.av) hB (by rw[l0o,hg];rfl) ?_
    walk_at"*"
    refine ih u t' σ _ hf hB ?_
    walk_at"*"
    exact Fin.same hcl (Tm.bd _ t') h
   |none=>
    rw[hg]at hf
    cases hf
    walk_at"*"
    exact Fin.same hcl (Tm.bd _ (.v k)) h
  |a k=>
   simp only[a1m,a1l,a1j,a1k]at hf;cases hf
   simp only[f0d,f0a,f0b,f0c]
   walk_at"*"
   exact Fin.same hcl (Tm.bd _ (.a k)) h
  |i k=>
   simp only[a1m,a1l,a1j,a1k]at hf;cases hf
   simp only[f0d,f0a,f0b,f0c]
   walk_at"*"
   exact Fin.same hcl (Tm.bd _ (.i k)) h
  |s f ts=>
   simp only[a1m,a1l,a1j,a1k]at hf
   split at hf
   case isFalse=>(exact b0n hf)
   rename_i hl1000
   refine a0a (Option.map_eq_some_iff.mp hf) λus hus z0=>?_;subst z0
   refine a0m (t0o hus) λhlen hget=>?_
   simp only[f0d,f0a,f0b,f0c]
   walk_at"*"
   refine⟨_,_,i0o,?_,λi ys σ'=>σ'=σ∧ys=(us.take i).map Tm.av,⟨rfl,by rfl⟩,λ_ _ _ _ _=>trivial,?_,?_⟩
   ·rw[Tm.avL_map,List.length_map];exact LA [_] [] 7253556466929345399980040 rfl hl1000
   ·intro i z ys σ' hz' z0;refine a0m z0 λes ey=>?_;clear z0;intro L'
    subst es ey
    rw[Tm.avL_map,List.getElem?_map]at hz'
    refine a0a (Option.map_eq_some_iff.mp hz') λt ht z0=>?_;subst z0
    refine a0a (hget i t ht) λu hu hfu=>?_
    refine i0x ?_
    rw[if_pos rfl]
    walk_at"*"
    refine ih t u σ' _ hfu hB ?_
    refine⟨rfl,?_⟩
    rw[List.take_add_one,hu];simp
   ·intro ys σ' z0;refine a0m z0 λes ey=>?_;clear z0
    subst es ey
    rw[Tm.avL_map,List.length_map,←hlen,List.take_length]
    walk_at"*"
    refine z0h d0f ?_
    walk_at"*"
    have:=Fin.of (fl:=.ret (Tm.s f us).av) (x:=(Tm.s f us).av) (σ:=σ') (σ':=σ'++[.list (us.map Tm.av)]) (Q:=Q) rfl σ' (by simp) hcl (Tm.bd _ _) h
    simp only[f0d,f0a,f0b,f0c,Tm.avL_map]at this
    exact this
end
noncomputable def x0g(f1 f2 f3:Int)(k:Nat):Int:=if k=1 then f1 else if k=2 then f2 else f3
mutual
noncomputable def j1z(fm:Nat→Int):Tm→Prop
 | .v k=>0≤k∧k<4
 | .s f ts=>1≤ts.length∧ts.length≤3∧f=fm ts.length∧z0q fm ts
 | .a _=>True
 | .i _=>True
noncomputable def z0q(fm:Nat→Int):List Tm→Prop
 |[]=>True
 |t::ts=>j1z fm t∧z0q fm ts
end
mutual
noncomputable def a1d:Tm→Nat
 | .s _ ts=>u0x ts+1
 |_=>0
noncomputable def u0x:List Tm→Nat
 |[]=>0
 |t::ts=>a1d t+u0x ts
end
theorem o1y{fm:Nat→Int}{f:Int}{ts:List Tm}:j1z fm (.s f ts)=(1≤ts.length∧ts.length≤3∧f=fm ts.length∧z0q fm ts):=rfl
theorem n1v{n:Int}:a1d (Tm.v n)=0:=rfl
theorem n1s{n:Int}:a1d (Tm.a n)=0:=rfl
theorem n1t{n:Int}:a1d (Tm.i n)=0:=rfl
theorem n1u{f:Int}{ts:List Tm}:a1d (.s f ts)=u0x ts+1:=rfl
theorem g1d:u0x []=0:=rfl
theorem g1c{t:Tm}{ts:List Tm}:u0x (t::ts)=a1d t+u0x ts:=rfl
theorem o0k{fm:Nat→Int}: ∀{ts us:List Tm},z0q fm ts→z0q fm us→z0q fm (ts++us)
 |[],_,_,h=>h
 |_::_,_,⟨a,b⟩,h=>⟨a,o0k b h⟩
theorem n0r: ∀(ts us:List Tm),u0x (ts++us)=u0x ts+u0x us
 |[],us=>by simp[g1d,g1c]
 |t::ts,us=>by simp only[List.cons_append,g1d,g1c,n0r ts us];exact LA [_,_,_] [] 2287409456087426 rfl
theorem n0t: ∀(ts us:List Tm),Tm.depL (ts++us)=max (Tm.depL ts) (Tm.depL us)
 |[],us=>by rfl
 |t::ts,us=>by simp only[List.cons_append,w0z,w0y,n0t ts us];exact LA [_,_,_] [] 2287551190139394 rfl
section
variable {G:Gx} {m:Nat} {cenv:Env} {loc:Loc} {σ:Sig}
theorem c1h{fd:FuncData}{p q o o':PySem.Str}{x y z z':AV}(hb: ∀v u t t',bindArgs fd ⟨[v,u,t,t'],[]⟩=pure [(p,v),(q,u),(o,t),(o',t')]): ∀(h:Heap) (ρ:List Addr) (vs:List Value),VL ρ h [x,y,z,z'] vs→∃ws,VL ρ h [x,y,z,z'] ws∧ws.length=[p,q,o,o'].length∧bindArgs fd ⟨vs,[]⟩=pure ([p,q,o,o'].zip ws):=λh ρ vs hv=>by
 obtain⟨v,r,rfl,hv,u,r',rfl,hu,t,r'',rfl,ht,t',r3,rfl,ht',hr⟩:=hv;(subst hr)
 exact⟨[v,u,t,t'],⟨v,_,rfl,hv,u,_,rfl,hu,t,_,rfl,ht,t',[],rfl,ht',rfl⟩,rfl,hb v u t t'⟩
theorem p0v{fm:Nat→Int}: ∀{t:Tm},b1a 4 t→j1z fm t∧a1d t=0∧t.dep=0
 | .v _,h=>⟨h,rfl,rfl⟩
 | .a _,_=>⟨trivial,rfl,rfl⟩
 | .i _,_=>⟨trivial,rfl,rfl⟩
theorem f1v(W:WOk G (hd.heap_1 G.w.params)){hi ci ai fi:Nat}{ks:List Int}{a1 a2 f1 f2 f3:Int}(hai:ai≠hi)(hfi:fi≠hi): ∀(D:Nat) (σ:Sig) (b:Nat) (Q:AV→Sig→Prop),IsHand σ hi ci ks b→σ[ai]?=some (c0i a1 a2)→σ[fi]?=some (d0d f1 f2 f3)→
  (∀t b' σ',j1z (x0g f1 f2 f3) t→a1d t+b'=b→t.dep≤D→Same [hi] σ σ'→σ'.length=σ.length→IsHand σ' hi ci ks (b':Nat)→Q t.av σ')→a0b G (m+D+3) (.ref 507) [.ref hi,.int D,.ref ai,.ref fi] σ Q:=by
 intro D
 induction D with
 |zero=>
  intro σ b Q hH hA hF h
  refine s0w W (by k_is) (by k_is) (c1h (p:="hand") (q:="depth") (o:="atoms") (o':="forms") λv u t t'=>rfl) rfl rfl (by decide) (by decide) rfl rfl rfl (λL qq fu co hcl=>?_)
  walk_at"*"
  refine c0v (m:=m+0+1) W hH (by decide) (by decide) λd σ1 h1 h2 hs1 hl1' hH1=>?_
  have hA1:=hs1.get hA (by simpa using hai)
  walk_at"*"
  have leaf: ∀(P:AV→Sig→Prop),(∀x σ',Fin σ Q (.ret x) σ'→P x σ')→a0b G (m+0+2) (.ref 502) [.ref hi,.ref ai,.int 4] σ1 P:=λP hP=>by
   refine r0u (m:=m+0) W hH1 hA1 hai (by decide) (by decide) λt σ2 ht hs2 hl2 hH2=>hP _ _ ?_
   refine b0l (p0v (fm:=x0g f1 f2 f3) ht) λs1 s2 s3=>?_
   walk_at"*"
   exact Fin.hand hcl hH (hs1.trans hs2) hH2 (Tm.bd _ t) λτ x1 x2 x3=>h t b τ s1 (by exact LA [_,_] [] 1134276313160 rfl s2) (by exact LA [_] [] 6442647624 rfl s3) x1 x2 x3
  refine a0h (λ_=>?_) (λ_=>?_)
  ·walk_at"*"
   exact leaf _ λx σ' q=>⟨q⟩
  ·walk_at"*"
   exact leaf _ λx σ' q=>⟨q⟩
 |succ D ih=>
  intro σ b Q hH hA hF h
  refine s0w W (by k_is) (by k_is) (c1h (p:="hand") (q:="depth") (o:="atoms") (o':="forms") λv u t t'=>rfl) rfl rfl (by decide) (by decide) rfl rfl rfl (λL qq fu co hcl=>?_)
  walk_at"*"
  refine c0v (m:=m+D+2) W hH (by decide) (by decide) λd σ1 h1 h2 hs1 hl1' hH1=>?_
  have hA1:=hs1.get hA (by simpa using hai)
  have hF1:=hs1.get hF (by simpa using hfi)
  walk_at"*"
  have leaf: ∀(P:AV→Sig→Prop),(∀x σ',Fin σ Q (.ret x) σ'→P x σ')→a0b G (m+D+3) (.ref 502) [.ref hi,.ref ai,.int 4] σ1 P:=λP hP=>by
   refine r0u (m:=m+D+1) W hH1 hA1 hai (by decide) (by decide) λt σ2 ht hs2 hl2 hH2=>hP _ _ ?_
   refine b0l (p0v (fm:=x0g f1 f2 f3) ht) λs1 s2 s3=>?_
   walk_at"*"
   exact Fin.hand hcl hH (hs1.trans hs2) hH2 (Tm.bd _ t) λτ x1 x2 x3=>h t b τ s1 (by exact LA [_,_] [] 1134276313160 rfl s2) (by exact LA [_,_] [] 7743826231368 rfl s3) x1 x2 x3
  refine a0h (λ_=>?_) (λe0=>?_)
  ·walk_at"*"
   exact leaf _ λx σ' q=>⟨q⟩
  have hd0:d≠0:=by simpa using e0
  walk_at"*"
  refine r0n (hH1.hand) λpos num seed p1 p2 p3 p4 p5 hh=>?_
  unfold x0x at hh
  have hlt:=hH.lt
  walk_at"*"
  refine a0h (λ_=>?_) (λe1=>?_)
  ·walk_at"*"
   exact leaf _ λx σ' q=>⟨q⟩
  have hb0:b≠0:=by simp at e1;omega
  walk_at"*"
  refine d0p hh (by decide) (Nat.le_of_ble_eq_true rfl) ?_
  have hH2:IsHand (σ1.set hi (.list ([AV.ref ci,.int pos,.int num,.int seed,.int b].set (Int.toNat 4) (.int ((b:Int) - 1))))) hi ci ks ((b - 1:Nat):Int):=
   ⟨a0c hH1.cells hH1.ne,pos,num,seed,p1,p2,p3,p4,p5,by rw[show((b - 1:Nat):Int)=(b:Int) - 1 by exact LA [_] [] 258917818833846667560 rfl hb0];exact a0d hh⟩
  have hs2:=hs1.set (i:=hi) (o:=.list ([AV.ref ci,.int pos,.int num,.int seed,.int b].set (Int.toNat 4) (.int ((b:Int) - 1)))) (by exact .inl (.head _))
  have hl2:(σ1.set hi (.list ([AV.ref ci,.int pos,.int num,.int seed,.int b].set (Int.toNat 4) (.int ((b:Int) - 1))))).length=σ.length:=by simp;omega
  generalize σ1.set hi (.list ([AV.ref ci,.int pos,.int num,.int seed,.int b].set (Int.toNat 4) (.int ((b:Int) - 1))))=σ2 at hH2 hs2 hl2⊢
  have hF2:=hs2.get hF (by simpa using hfi)
  have hA2:=hs2.get hA (by simpa using hai)
  obtain⟨k,hk1,hk3,rfl⟩: ∃k:Nat,1≤k∧k≤3∧d=(k:Int):=⟨d.toNat,by omega,by exact LA [] [_] 116706077118600 rfl h2,by exact LA [] [_] 5070348490856 rfl h1⟩
  have hf:([AV.int 0,.int f1,.int f2,.int f3]:List AV)[((k:Nat):Int).toNat]?=some (.int (x0g f1 f2 f3 k)):=by
   have:k=1∨k=2∨k=3:=by exact LA [_] [] 134373528967409049412490829503496 rfl hk1 hk3
   rcases this with rfl|rfl|rfl<;>rfl
  walk_at"*"
  refine b0r hF2 (by omega) hf ?_
  walk_at"*"
  refine e0s ?_
  refine⟨_,_,f0u (k:=k) (by exact LA [_] [] 6917530505113305096 rfl hk3),by simp;exact LA [_] [] 6917530505113305096 rfl hk3,λi ys σ'=>∃us b',ys=us.map Tm.av∧us.length=i∧z0q (x0g f1 f2 f3) us∧u0x us+b'+1=b∧Tm.depL us≤D∧Same [hi] σ σ'∧σ'.length=σ.length∧IsHand σ' hi ci ks (b':Nat),⟨[],b - 1,rfl,rfl,trivial,by simp only[g1d,g1c];exact LA [_] [] 8323116530562763048 rfl hb0,by simp[w0z,w0y],hs2,hl2,hH2⟩,λ_ _ _ _ _=>trivial,?_,?_⟩
  ·intro i z ys σ3 hz' z0;refine a1n z0 λus b' ey hul hsu hcu hdu hs3 hl3 hH3=>?_;clear z0;intro L'
   subst ey
   refine i0x ?_
   rw[if_pos rfl]
   walk_at"*"
   rw[show((D+1:Nat):Int) - 1=(D:Int)by exact LA [_] [] 626226776485 rfl]
   refine ih σ3 b' _ hH3 (hs3.get hA (by simpa using hai)) (hs3.get hF (by simpa using hfi)) λt b'' σ4 ht hc hdp hs4 hl4 hH4=>?_
   refine⟨us++[t],b'',by simp,by simp[hul],o0k hsu ⟨ht,trivial⟩,?_,?_,hs3.trans hs4,by exact LA [_,_,_] [] 1198469897289800 rfl hl3 hl4,hH4⟩
   ·rw[n0r];simp only[g1d,g1c];exact LA [_,_,_,_,_] [] 3025663150772301474578875282492859232328 rfl hcu hc
   ·rw[n0t];simp only[w0z,w0y];exact LA [_,_,_] [] 1404835416349912104968 rfl hdu hdp
  ·intro ys σ3 z0;refine a1n z0 λus b' ey hul hsu hcu hdu hs3 hl3 hH3=>?_;clear z0
   subst ey
   rw[List.length_map,List.length_range]at hul
   walk_at"*"
   refine z0h d0f ?_
   walk_at"*"
   have hH4:IsHand (σ3++[.list (us.map Tm.av)]) hi ci ks (b':Nat):=hH3.same (W:=[]) (Same.refl _ _).app (by exact nofun) (by exact nofun)
   have:=Fin.hand (Q:=Q) (x:=(Tm.s (x0g f1 f2 f3 k) us).av) hcl hH (hs3.app (r:=[AObj.list (us.map Tm.av)])) hH4 (Tm.bd _ _) λτ x1 x2 x3=>h (.s (x0g f1 f2 f3 k) us) b' τ (by
    simp only[o1y];exact⟨by exact LA [_,_] [] 1372191660710920 rfl hk1 hul,by exact LA [_,_] [] 3820178420696154120 rfl hk3 hul,by rw[hul],hsu⟩) (by simp only[n1v,n1s,n1t,n1u];exact LA [_,_,_] [] 2406161115401129701448 rfl hcu) (by simp only[q0w,q0t,q0u,q0v];exact LA [_,_] [] 7929918780375048 rfl hdu) x1 x2 x3
   simp only[f0d,f0a,f0b,f0c,Tm.avL_map]at this
   exact this
end
theorem h0p{α β:Type}[DecidableEq α](key:β→α): ∀(ts:List β) (k:Nat) (t:α),(g0d (ts.mapIdx λi t=>(key t,AV.int ((i+k:Nat):Int))) t=none∧t∉ts.map key)∨∃i:Nat,g0d (ts.mapIdx λi t=>(key t,AV.int ((i+k:Nat):Int))) t=some (.int ((i+k:Nat):Int))∧(ts.map key)[i]?=some t
 |[],k,t=>.inl ⟨rfl,by exact nofun⟩
 |u::ts,k,t=>by
  have ih:=h0p key ts (k+1) t
  have e:(List.mapIdx (λi t=>(key t,AV.int ((i+k:Nat):Int))) (u::ts))=(key u,AV.int ((0+k:Nat):Int))::ts.mapIdx λi t=>(key t,AV.int ((i+(k+1):Nat):Int)):=by
   rw[List.mapIdx_cons]
   congr 1
   apply List.mapIdx_eq_mapIdx_iff.mpr
   intro i hi
   exact congrArg (λz:Int=>(key _,AV.int z)) (LA [_,_] [] 8120003942072857157 rfl)
  rw[e]
  by_cases h:key u=t
  ·refine .inr ⟨0,?_,by simp[h]⟩
   simp[g0d,h]
  ·have e2:g0d ((key u,AV.int ((0+k:Nat):Int))::ts.mapIdx λi t=>(key t,AV.int ((i+(k+1):Nat):Int))) t=g0d (ts.mapIdx λi t=>(key t,AV.int ((i+(k+1):Nat):Int))) t:=by
    simp[g0d,h]
   rw[e2]
   rcases ih with⟨h1,h2⟩|⟨i,h1,h2⟩
   ·exact .inl ⟨h1,by simp only[List.map_cons,List.mem_cons,not_or];exact⟨λq=>h q.symm,h2⟩⟩
   ·refine .inr ⟨i+1,?_,by assumption⟩
    rw[h1];congr 2;exact LA [_,_] [] 1405559116381827653 rfl
theorem b1s(ts:List PySem.Str)(t:PySem.Str):(g0d (u0j ts) t=none∧t∉ts)∨∃i:Nat,g0d (u0j ts) t=some (.int (i:Int))∧ts[i]?=some t:=by
 have:=h0p (λx:PySem.Str=>x) ts 0 t
 simpa[u0j]using this
theorem b1u(fs:List Cel)(a n:Int):(g0d (u0k fs) [a,n]=none∧(a,n)∉fs)∨∃i:Nat,g0d (u0k fs) [a,n]=some (.int (i:Int))∧fs[i]?=some (a,n):=by
 have:=h0p (λx:Cel=>[x.1,x.2]) fs 0 [a,n]
 rcases this with⟨h1,h2⟩|⟨i,h1,h2⟩
 ·exact .inl ⟨by simpa[u0k]using h1,λq=>h2 (List.mem_map.mpr ⟨_,q,rfl⟩)⟩
 ·refine .inr ⟨i,by simpa[u0k]using h1,?_⟩
  rw[List.getElem?_map]at h2
  refine a0a (Option.map_eq_some_iff.mp h2) λx hx e=>?_
  obtain⟨p,q⟩:=x
  simp at e
  rw[hx,e.1,e.2]
theorem t0y{α:Type}[DecidableEq α]{l:List (α×AV)}{k:α}{v:AV}(h:g0d l k=none):n0c l k v=l++[(k,v)]:=by
 unfold n0c
 rw[if_neg]
 intro q
 unfold g0d at h
 simp only[Option.map_eq_none_iff,List.find?_eq_none]at h
 simp only[List.any_eq_true]at q
 refine a0a (q) λx hx hk=>?_
 exact h x hx hk
theorem b1r(ts:List PySem.Str)(t:PySem.Str):u0j ts++[(t,.int (ts.length:Int))]=u0j (ts++[t]):=by simp[u0j]
theorem b1t(fs:List Cel)(a n:Int):u0k fs++[([a,n],.int (fs.length:Int))]=u0k (fs++[(a,n)]):=by simp[u0k]
section
variable {G:Gx} {m:Nat} {cenv:Env} {loc:Loc} {σ:Sig} {n y:Nat} {ts:List PySem.Str} {fs:List Cel}
theorem IsSy.setA(h:IsSy σ y ts fs)(t:PySem.Str):IsSy ((σ.set (y+2) (.list ((ts++[t]).map .str))).set (y+3) (.dictS (u0j (ts++[t])))) y (ts++[t]) fs:=
 ⟨a0c (a0c h.ns (by exact LA [_] [] 77606985 rfl)) (by exact LA [_] [] 111161417 rfl),a0c (a0c h.inst (by exact LA [_] [] 7709543903305 rfl)) (by exact LA [_] [] 7709577457737 rfl),a0c (a0d h.texts) (by exact LA [_] [] 81376856518729 rfl),a0d (a0c h.atoms (by exact LA [_] [] 116561195053129 rfl)),a0c (a0c h.funs (by exact LA [_] [] 151745567141961 rfl)) (by exact LA [_] [] 151745600696393 rfl),a0c (a0c h.keys (by exact LA [_] [] 186929939230793 rfl)) (by exact LA [_] [] 186929972785225 rfl)⟩
theorem IsSy.setF(h:IsSy σ y ts fs)(c:Cel):IsSy ((σ.set (y+4) (.list ((fs++[c]).map Cel.av))).set (y+5) (.dictT (u0k (fs++[c])))) y ts (fs++[c]):=
 ⟨a0c (a0c h.ns (by exact LA [_] [] 144715849 rfl)) (by exact LA [_] [] 178270281 rfl),a0c (a0c h.inst (by exact LA [_] [] 7709611012169 rfl)) (by exact LA [_] [] 7709644566601 rfl),a0c (a0c h.texts (by exact LA [_] [] 81376890073161 rfl)) (by exact LA [_] [] 81376923627593 rfl),a0c (a0c h.atoms (by exact LA [_] [] 116561262161993 rfl)) (by exact LA [_] [] 116561295716425 rfl),a0c (a0d h.funs) (by exact LA [_] [] 151745667805257 rfl),a0d (a0c h.keys (by exact LA [_] [] 186930006339657 rfl))⟩
theorem i0a(k:Nat): ∀l:List PySem.Str,AV.bdL k (l.map AV.str)
 |[]=>trivial
 |_::r=>⟨trivial,i0a k r⟩
theorem r0b(k:Nat)(l:List PySem.Str):(AObj.dictS (u0j l)).bd k:=by
 show AV.bdL k ((u0j l).map (·.2))
 have: ∀(l:List (PySem.Str×AV)),(∀p∈l,∃i,p.2=.int i)→AV.bdL k (l.map (·.2)):=λl=>by
  induction l with
  |nil=>exactλ_=>trivial
  |cons p l ih=>
   intro h
   refine a0k (h p (List.mem_cons_self ..)) λi e=>?_
   exact⟨by show AV.bd k p.2;rw[e];trivial,ih λq hq=>h q (List.mem_cons_of_mem _ hq)⟩
 refine this _ λp hp=>?_
 simp only[u0j,List.mem_mapIdx]at hp
 obtain⟨i,_,rfl⟩:=hp
 exact⟨_,rfl⟩
theorem r0c(k:Nat)(l:List Cel):(AObj.dictT (u0k l)).bd k:=by
 show AV.bdL k ((u0k l).map (·.2))
 have: ∀(l:List (List Int×AV)),(∀p∈l,∃i,p.2=.int i)→AV.bdL k (l.map (·.2)):=λl=>by
  induction l with
  |nil=>exactλ_=>trivial
  |cons p l ih=>
   intro h
   refine a0k (h p (List.mem_cons_self ..)) λi e=>?_
   exact⟨by show AV.bd k p.2;rw[e];trivial,ih λq hq=>h q (List.mem_cons_of_mem _ hq)⟩
 refine this _ λp hp=>?_
 simp only[u0k,List.mem_mapIdx]at hp
 obtain⟨i,_,rfl⟩:=hp
 exact⟨_,rfl⟩
theorem q0z(W:WOk G (hd.heap_1 G.w.params))(hm: ∃o,G.base.get? sysModules=some o)(hY:IsSy σ y ts fs){t:PySem.Str}(hz:ts.length≤1000){Q:AV→Sig→Prop}
  (h1: ∀i:Nat,ts[i]?=some t→Q (.int i) σ) (h2:t∉ts→Q (.int ts.length) ((σ.set (y+2) (.list ((ts++[t]).map .str))).set (y+3) (.dictS (u0j (ts++[t]))))):a0b G (m+1) (.ref 88) [.ref (y+1),.str t] σ Q:=by
 refine a0x W (by k_is) (by k_is) (e0x (p:="self") (q:="text") λv u=>rfl) rfl rfl (by decide) (by decide) rfl rfl rfl (λL qq fu co hcl=>?_)
 walk_at"*"
 refine x0r hm hY.atoms ?_
 rcases b1s ts t with⟨e,hn⟩|⟨i,e,hi⟩
 ·rw[e]
  simp only[Option.getD_none]
  walk_at"*"
  have hT:=hY.texts
  walk_at"*"
  refine f0n hT (by simp;exact LA [_] [] 8462482286579158946775048 rfl hz) ?_
  walk_at"*"
  refine e0w W (a0c hY.inst (show y+2≠y+1 by exact LA [_] [] 7709543903305 rfl)) (a0c hY.ns (show y+2≠y by exact LA [_] [] 77606985 rfl)) rfl rfl (by k_is) (by k_is) (by k_is) ?_
  walk_at"*"
  refine z0c (a0c hY.atoms (show y+2≠y+3 by exact LA [_] [] 116561195053129 rfl)) (by simp[u0j];exact LA [_] [] 7253556466929345399980040 rfl hz) ?_
  rw[t0y e,List.length_map,b1r]
  walk_at"*"
  have e2:(ts.map AV.str++[AV.str t])=(ts++[t]).map .str:=by simp
  rw[e2]
  walk_at"*"
  exact Fin.of rfl _ ((((Same.refl [y+2,y+3] σ).set (by exact .inl (.head _))).set (by exact .inl (.tail _ (.head _)))).eq2 (a0c (a0d hT) (by exact LA [_] [] 81376856518729 rfl)) (a0d (a0c hY.atoms (by exact LA [_] [] 116561195053129 rfl)))) ((hcl.set (o:=.list _) (i0a _ _)).set (r0b _ _)) trivial (h2 hn)
 ·rw[e]
  simp only[Option.getD_some]
  walk_at"*"
  walk_at"*"
  exact Fin.same hcl trivial (h1 i hi)
theorem v0c(W:WOk G (hd.heap_1 G.w.params))(hm: ∃o,G.base.get? sysModules=some o)(hY:IsSy σ y ts fs){a k:Int}(hz:fs.length≤1000){Q:AV→Sig→Prop}
  (h1: ∀i:Nat,fs[i]?=some (a,k)→Q (.int i) σ) (h2:(a,k)∉fs→Q (.int fs.length) ((σ.set (y+4) (.list ((fs++[(a,k)]).map Cel.av))).set (y+5) (.dictT (u0k (fs++[(a,k)]))))):a0b G (m+1) (.ref 102) [.ref (y+1),.int a,.int k] σ Q:=by
 refine a0x W (by k_is) (by k_is) (e0y (p:="self") (q:="atom") (o:="arity") λv u t=>rfl) rfl rfl (by decide) (by decide) rfl rfl rfl (λL qq fu co hcl=>?_)
 walk_at"*"
 refine x0s (ks:=[a,k]) hm hY.keys ?_
 rcases b1u fs a k with⟨e,hn⟩|⟨i,e,hi⟩
 ·rw[e]
  simp only[Option.getD_none]
  walk_at"*"
  have hT:=hY.funs
  walk_at"*"
  refine e0v hT (by exact LA [_] [] 7253556466964529772068872 rfl hz) ?_
  walk_at"*"
  refine e0w W (a0c hY.inst (show y+4≠y+1 by exact LA [_] [] 7709611012169 rfl)) (a0c hY.ns (show y+4≠y by exact LA [_] [] 144715849 rfl)) rfl rfl (by k_is) (by k_is) (by k_is) ?_
  walk_at"*"
  refine z0d (ks:=[a,k]) (a0c hY.keys (show y+4≠y+5 by exact LA [_] [] 186930006339657 rfl)) e (by simp[u0k];exact LA [_] [] 7253556466929345399980040 rfl hz) ?_
  rw[b1t]
  walk_at"*"
  exact Fin.of rfl _ ((((Same.refl [y+4,y+5] σ).set (by exact .inl (.head _))).set (by exact .inl (.tail _ (.head _)))).eq2 (a0c (a0d hT) (by exact LA [_] [] 151745667805257 rfl)) (a0d (a0c hY.keys (by exact LA [_] [] 186930006339657 rfl)))) ((hcl.set (o:=.list _) (c0l _ _)).set (r0c _ _)) trivial (h2 hn)
 ·rw[e]
  simp only[Option.getD_some]
  walk_at"*"
  walk_at"*"
  exact Fin.same hcl trivial (h1 i hi)
end
theorem p0o{F:b0b}{k:Int}{v:Cel}(h:a0o F k=none):a0o (F++[(k,v)]) k=some v:=by
 unfold a0o at h⊢
 rw[List.find?_append,Option.map_eq_none_iff.mp h];simp
section
variable {G:Gx} {m:Nat} {cenv:Env} {loc:Loc} {σ:Sig} {n y:Nat} {S:Sto} {ts:List PySem.Str} {fs:List Cel}
theorem p0d(W:WOk G (hd.heap_1 G.w.params))(hS:IsSt σ n (y+1) S){ti q:Nat}{c d:Cel}(hd:a0i S q c=some d)(h0:isV d=false)(h2:isC d=false){Q:AV→Sig→Prop}(h:Q d.av σ):a0b G (m+4) (.ref 460) [.ref (n+1),c.av,.ref ti] σ Q:=by
 refine a0x W (by k_is) (by k_is) (e0y (p:="store") (q:="cell") (o:="table") λv u t=>rfl) rfl rfl (by decide) (by decide) rfl rfl rfl (λL qq fu co hcl=>?_)
 simp only[isV,Bool.or_eq_false_iff]at h0
 walk_at"*"
 refine c0j (c:=c) W hS hd (by simpa using h0.2) ?_
 walk_at"*"
 refine a0h (λh=>by rw[h0.1]at h;(exact a0t h)) (λ_=>?_)
 walk_at"*"
 refine a0p (c:=d) W ?_
 rw[show(d.1==2||d.1==3)=isC d from rfl,h2]
 walk_at"*"
 exact Fin.same hcl (by trivial) h
theorem r0h(W:WOk G (hd.heap_1 G.w.params))(hm: ∃o,G.base.get? sysModules=some o)(hS:IsSt σ n (y+1) S){ti q:Nat}{tab:b0b}(hT:σ[ti]?=some (.dictI (b0v tab))){c x:Cel}{p:Int}(hd:a0i S q c=some (0,p))(hx:a0o tab p=some x){Q:AV→Sig→Prop}(h:Q x.av σ):a0b G (m+4) (.ref 460) [.ref (n+1),c.av,.ref ti] σ Q:=by
 refine a0x W (by k_is) (by k_is) (e0y (p:="store") (q:="cell") (o:="table") λv u t=>rfl) rfl rfl (by decide) (by decide) rfl rfl rfl (λL qq fu co hcl=>?_)
 walk_at"*"
 refine c0j (c:=c) W hS hd (by exact nofun) ?_
 walk_at"*"
 refine t0s hm hT ?_
 rw[hx]
 walk_at"*"
 refine z0e hT hx ?_
 walk_at"*"
 exact Fin.same hcl (by trivial) h
theorem r0g(W:WOk G (hd.heap_1 G.w.params))(hm: ∃o,G.base.get? sysModules=some o)(hS:IsSt σ n (y+1) S){ti q:Nat}{tab:b0b}(hT:σ[ti]?=some (.dictI (b0v tab)))(hti:ti<n∨n+4<ti){c:Cel}{p:Int}(hd:a0i S q c=some (0,p))(hx:a0o tab p=none)(hz:S.heap.length<100000)(hz2:tab.length≤100000){Q:AV→Sig→Prop}
  (h:Q (Cel.av (0,S.heap.length)) ((putSt σ n {S with heap:=S.heap++[(0,(S.heap.length:Int))]}).set ti (.dictI (b0v (tab++[(p,(0,(S.heap.length:Int)))]))))):a0b G (m+4) (.ref 460) [.ref (n+1),c.av,.ref ti] σ Q:=by
 refine a0x W (by k_is) (by k_is) (e0y (p:="store") (q:="cell") (o:="table") λv u t=>rfl) rfl rfl (by decide) (by decide) rfl rfl rfl (λL qq fu co hcl=>?_)
 walk_at"*"
 refine c0j (c:=c) W hS hd (by exact nofun) ?_
 walk_at"*"
 refine t0s hm hT ?_
 rw[hx]
 walk_at"*"
 refine f0f W hS hz ?_
 have hS2:IsSt (putSt σ n {S with heap:=S.heap++[(0,(S.heap.length:Int))]}) n (y+1) _:=hS.put rfl
 have hT2:=c0c (n:=n) (S:={S with heap:=S.heap++[(0,(S.heap.length:Int))]}) hT (by exact LA [_,_] [] 5599689397635672225885762870052072 rfl hti)
 walk_at"*"
 refine c1u (v:=(0,(S.heap.length:Int))) hT2 hx (by exact LA [_] [] 7253556466931544423235592 rfl hz2) ?_
 have hT3:=a0d (p:=.dictI (b0v (tab++[(p,(0,(S.heap.length:Int)))]))) hT2
 walk_at"*"
 refine z0e hT3 (p0o hx) ?_
 walk_at"*"
 exact Fin.stT hcl rfl (((Same.refl _ _).put (by exact .head _) (by exact .tail _ (.head _)) (by exact .tail _ (.tail _ (.head _)))).set (by exact .inl (.tail _ (.tail _ (.tail _ (.head _)))))) (hS2.set hti) hT3 (by trivial) h
theorem r0i(W:WOk G (hd.heap_1 G.w.params))(hm: ∃o,G.base.get? sysModules=some o)(hS:IsSt σ n (y+1) S){ti q:Nat}(hT:σ[ti]?=some (.dictI (b0v [])))(hti:ti<n∨n+4<ti){c:Cel}{p:Int}(hd:a0i S q c=some (1,p))(hp0:0≤p)(hp:p<S.stack.length)(hz:S.heap.length+1<100000){Q:AV→Sig→Prop}
  (h:Q (Cel.av (0,(S.heap.length:Int)+1)) ((putSt σ n {S with heap:=S.heap++[(0,(S.heap.length:Int)),(0,(S.heap.length:Int)+1)],stack:=S.stack.set p.toNat (0,S.heap.length)}).set ti (.dictI (b0v [((S.heap.length:Int),(0,(S.heap.length:Int)+1))])))):a0b G (m+4) (.ref 460) [.ref (n+1),c.av,.ref ti] σ Q:=by
 refine a0x W (by k_is) (by k_is) (e0y (p:="store") (q:="cell") (o:="table") λv u t=>rfl) rfl rfl (by decide) (by decide) rfl rfl rfl (λL qq fu co hcl=>?_)
 walk_at"*"
 refine i0j (c:=c) W hS hd hp0 hp (by exact LA [_] [] 6189701782888550011520430120 rfl hz) ?_
 have hS1:IsSt (putSt σ n {S with heap:=S.heap++[(0,(S.heap.length:Int))],stack:=S.stack.set p.toNat (0,S.heap.length)}) n (y+1) _:=hS.put rfl
 have hT1:=c0c (n:=n) (S:={S with heap:=S.heap++[(0,(S.heap.length:Int))],stack:=S.stack.set p.toNat (0,S.heap.length)}) hT (by exact LA [_,_] [] 5599689397635672225885762870052072 rfl hti)
 have hs1:Same [n+2,n+3,n+4,ti] σ (putSt σ n {S with heap:=S.heap++[(0,(S.heap.length:Int))],stack:=S.stack.set p.toNat (0,S.heap.length)}):=(Same.refl _ _).put (by exact .head _) (by exact .tail _ (.head _)) (by exact .tail _ (.tail _ (.head _)))
 generalize putSt σ n {S with heap:=S.heap++[(0,(S.heap.length:Int))],stack:=S.stack.set p.toNat (0,S.heap.length)}=σ1 at hS1 hT1 hs1⊢
 walk_at"*"
 refine t0s hm hT1 ?_
 walk_at"*"
 refine f0f W hS1 (by simp;omega) ?_
 have eh:((S.heap++[((0:Int),(S.heap.length:Int))]).length:Int)=(S.heap.length:Int)+1:=by simp
 simp only[eh]
 have hS2:IsSt (putSt σ1 n {S with heap:=(S.heap++[(0,(S.heap.length:Int))])++[(0,(S.heap.length:Int)+1)],stack:=S.stack.set p.toNat (0,S.heap.length)}) n (y+1) _:=hS1.put rfl
 have hT2:=c0c (n:=n) (S:={S with heap:=(S.heap++[(0,(S.heap.length:Int))])++[(0,(S.heap.length:Int)+1)],stack:=S.stack.set p.toNat (0,S.heap.length)}) hT1 (by exact LA [_,_] [] 5599689397635672225885762870052072 rfl hti)
 have hs2:=hs1.put (n:=n) (S:={S with heap:=(S.heap++[(0,(S.heap.length:Int))])++[(0,(S.heap.length:Int)+1)],stack:=S.stack.set p.toNat (0,S.heap.length)}) (by exact .head _) (by exact .tail _ (.head _)) (by exact .tail _ (.tail _ (.head _)))
 walk_at"*"
 refine c1u (v:=(0,(S.heap.length:Int)+1)) hT2 rfl (by exact Nat.zero_le _) ?_
 have hT3:=a0d (p:=.dictI (b0v ([]++[((S.heap.length:Int),(0,(S.heap.length:Int)+1))]))) hT2
 walk_at"*"
 refine z0e hT3 (p0o rfl) ?_
 have e3:(S.heap++[(0,(S.heap.length:Int))])++[(0,(S.heap.length:Int)+1)]=S.heap++[((0:Int),(S.heap.length:Int)),(0,(S.heap.length:Int)+1)]:=by exact List.append_assoc _ _ _
 have hS3:=hS2.set (i:=ti) (o:=.dictI (b0v ([]++[((S.heap.length:Int),(0,(S.heap.length:Int)+1))]))) hti
 rw[e3]at hS3 hT3
 have hs3:=hs2.set (i:=ti) (o:=.dictI (b0v ([]++[((S.heap.length:Int),(0,(S.heap.length:Int)+1))]))) (by exact .inl (.tail _ (.tail _ (.tail _ (.head _)))))
 rw[e3]at hs3
 rw[e3]
 walk_at"*"
 exact Fin.stT hcl rfl hs3 hS3 hT3 (by trivial) h
theorem x0o(W:WOk G (hd.heap_1 G.w.params))(hm: ∃o,G.base.get? sysModules=some o)(hY:IsSy σ y ts fs){t:PySem.Str}{k:Int}(hz:ts.length≤1000∧fs.length≤1000){Q:AV→Sig→Prop}
  (h: ∀(i a:Nat) ts' fs' σ',(ts'=ts∨ts'=ts++[t]∧t∉ts)→ts'[a]?=some t→(fs'=fs∨fs'=fs++[((a:Int),k)]∧((a:Int),k)∉fs)→fs'[i]?=some ((a:Int),k)→Same [y+2,y+3,y+4,y+5] σ σ'→σ'.length=σ.length→IsSy σ' y ts' fs'→Q (.int i) σ'):a0b G (m+2) (.ref 109) [.ref (y+1),.str t,.int k] σ Q:=by
 refine a0x W (by k_is) (by k_is) (e0y (p:="self") (q:="text") (o:="arity") λv u t=>rfl) rfl rfl (by decide) (by decide) rfl rfl rfl (λL qq fu co hcl=>?_)
 have fin: ∀(i:Nat) ts' fs' (σ':Sig),Same [y+2,y+3,y+4,y+5] σ σ'→IsSy σ' y ts' fs'→(∀τ,Same [y+2,y+3,y+4,y+5] σ τ→τ.length=σ.length→IsSy τ y ts' fs'→Q (.int i) τ)→Fin σ Q (.ret (.int i)) σ':=λi ts' fs' σ' hs hY' hq=>by
  have gY:=b0m hY.keys
  have tk: ∀{j:Nat} {o:AObj},j<σ.length→σ'[j]?=some o→(σ'.take σ.length)[j]?=some o:=λhj e=>by rw[List.getElem?_take_of_lt hj];exact e
  have hYτ:IsSy (σ'.take σ.length) y ts' fs':=⟨tk (by exact LA [_,_] [] 35219983839272 rfl gY) hY'.ns,tk (by exact LA [_,_] [] 43923326118146088 rfl gY) hY'.inst,tk (by exact LA [_,_] [] 1236251327464484904 rfl gY) hY'.texts,tk (by exact LA [_,_] [] 1272280124483448872 rfl gY) hY'.atoms,tk (by exact LA [_,_] [] 1308308921502412840 rfl gY) hY'.funs,tk (by omega) hY'.keys⟩
  have hl:(σ'.take σ.length).length=σ.length:=by rw[List.length_take];have:=hs.le;exact LA [_,_] [] 34932293640 rfl this
  have hsτ:Same [y+2,y+3,y+4,y+5] σ (σ'.take σ.length):=⟨by exact LA [_,_] [] 33587272 rfl hl,λj hj hw=>by rw[List.getElem?_take_of_lt hj];exact hs.at_ j hj hw⟩
  walk_at"*"
  refine Fin.of rfl _ rfl (λo ho=>?_) trivial (hq _ hsτ hl hYτ)
  obtain⟨j,hj,rfl⟩:=List.mem_iff_getElem.mp ho
  have hjl:j<σ.length:=by exact LA [_,_,_] [] 1197370352107592 rfl hl hj
  have ej:(σ'.take σ.length)[j]?=some (σ'.take σ.length)[j]:=List.getElem?_eq_getElem hj
  by_cases hw:j∈[y+2,y+3,y+4,y+5]
  ·simp only[List.mem_cons,List.not_mem_nil,or_false]at hw
   generalize (σ'.take σ.length)[j]=ob at ej⊢
   rcases hw with rfl|rfl|rfl|rfl
   ·rw[hYτ.texts]at ej;cases ej;exact i0a _ _
   ·rw[hYτ.atoms]at ej;cases ej;exact r0b _ _
   ·rw[hYτ.funs]at ej;cases ej;exact c0l _ _
   ·rw[hYτ.keys]at ej;cases ej;exact r0c _ _
  ·exact hcl _ (List.mem_of_getElem? ((hsτ.at_ j hjl hw).symm.trans ej))
 have fst: ∀(a:Nat) ts' (σ1:Sig) (P:AV→Sig→Prop),(ts'=ts∨ts'=ts++[t]∧t∉ts)→ts'[a]?=some t→Same [y+2,y+3,y+4,y+5] σ σ1→IsSy σ1 y ts' fs→(∀x σ',Fin σ Q (.ret x) σ'→P x σ')→a0b G (m+1) (.ref 102) [.ref (y+1),.int a,.int k] σ1 P:=λa ts' σ1 P h1 h2 hs1 hY1 hP=>by
  refine v0c W hm hY1 hz.2 (λi hi=>hP _ _ (fin i ts' fs σ1 hs1 hY1 λτ x1 x2 x3=>h i a ts' fs τ h1 h2 (.inl rfl) hi x1 x2 x3)) λhn=>hP _ _ ?_
  walk_at"*"
  exact fin fs.length ts' (fs++[((a:Int),k)]) _ ((hs1.set (by exact .inl (.tail _ (.tail _ (.head _))))).set (by exact .inl (.tail _ (.tail _ (.tail _ (.head _)))))) (hY1.setF _) λτ x1 x2 x3=>h fs.length a ts' (fs++[((a:Int),k)]) τ h1 h2 (.inr ⟨rfl,hn⟩) (by exact gn0) x1 x2 x3
 walk_at"*"
 refine q0z W hm hY hz.1 (λi hi=>?_) λhn=>?_
 ·walk_at"*"
  exact fst i ts σ _ (.inl rfl) hi (Same.refl _ _) hY λx σ' q=>⟨q⟩
 ·have hY1:=hY.setA t
  walk_at"*"
  exact fst ts.length (ts++[t]) _ _ (.inr ⟨rfl,hn⟩) (by exact gn0) (((Same.refl _ _).set (by exact .inl (.head _))).set (by exact .inl (.tail _ (.head _)))) hY1 λx σ' q=>⟨q⟩
end
section
variable {G:Gx} {m:Nat} {cenv:Env} {loc:Loc} {σ:Sig} {n y:Nat} {S:Sto} {ts:List PySem.Str} {fs:List Cel} {K:Frag}
theorem k0l(W:WOk G (hd.heap_1 G.w.params))(hS:IsSt σ n y S){c:Cel}{i:Nat}(hi:i=S.stack.length∨(i=1∧S.stack=[]))(hz:S.stack.length≤1000){Q:AV→Sig→Prop}
  (h: ∀st,(st=S.stack++[c]∧i=S.stack.length∨i=1∧S.stack=[]∧st=[(5,0),c])→Q .none (putSt σ n {S with stack:=st})):a0b G (m+1) (.ref 279) [.ref (n+1),.int i,c.av] σ Q:=by
 refine a0x W (by k_is) (by k_is) (e0y (p:="self") (q:="i") (o:="value") λv u t=>rfl) rfl rfl (by decide) (by decide) rfl rfl rfl (λL qq fu co hcl=>?_)
 walk_at"*"
 refine a0h (λe=>?_) (λ_=>?_)
 ·have e:=of_decide_eq_true e
  rcases hi with h|⟨h,h'⟩
  ·omega
  ·rw[h']at e;simp at e;omega
 walk_at"*"
 refine d0s (λj l σ'=>∃st,l=([("self",.ref (n+1)),("i",.int i),("value",c.av),("stack",.ref (n+3))]:Loc)∧Same [n+2,n+3,n+4] σ σ'∧IsSt σ' n y {S with stack:=st}∧(j=0∧st.length=i∧(st=S.stack∧i=S.stack.length∨i=1∧S.stack=[]∧st=[(5,0)])∨j=1∧i=1∧S.stack=[]∧st=[])) (if i=S.stack.length then 0 else 1)
  ⟨_,?_,S.stack,rfl,Same.refl _ _,hS,?_⟩ λj l σ' ⟨st,el,hs,hS',hj⟩=>?_
 ·exact Sub.cons rfl (Sub.cons rfl (Sub.cons rfl (Sub.cons rfl (Sub.nil _))))
 ·by_cases e:i=S.stack.length
  ·rw[if_pos e];exact .inl ⟨rfl,e.symm,.inl ⟨rfl,e⟩⟩
  ·rw[if_neg e]
   refine a0m (hi.resolve_left e) λh1 h2=>?_
   exact .inr ⟨rfl,h1,h2,h2⟩
 subst el
 have hst:=hS'.stack
 walk_at"*"
 rcases hj with⟨rfl,hl,hc⟩|⟨rfl,h1,h2,rfl⟩
 ·refine a0h (λe=>by have e:=of_decide_eq_true e;simp at e;omega) (λ_=>?_)
  walk_at"*"
  refine e0v hst (by rcases hc with⟨rfl,_⟩|⟨_,_,rfl⟩<;>simp;exact LA [_] [] 7253556466964529772068872 rfl hz) ?_
  have hS2:=hS'.setStack (H:=st++[(c.1,c.2)])
  walk_at"*"
  exact Fin.st hcl rfl (hs.set (by exact .inl (.tail _ (.head _)))) hS2 trivial (h _ (by
   rcases hc with⟨rfl,e⟩|⟨e1,e2,rfl⟩
   ·exact .inl ⟨rfl,e⟩
   ·exact .inr ⟨e1,e2,rfl⟩))
 ·refine a0h (λ_=>?_) (λe=>by have e:=of_decide_eq_false e;rw[h1]at e;simp at e)
  walk_at"*"
  refine e0v hst (by exact Nat.le_add_left _ _) ?_
  have hS2:=hS'.setStack (H:=[]++[((5:Int),(0:Int))])
  walk_at"*"
  exact⟨0,_,by exact LA [] [] 7361 rfl,Sub.cons rfl (Sub.cons rfl (Sub.cons rfl (Sub.cons rfl (Sub.nil _)))),_,rfl,hs.set (by exact .inl (.tail _ (.head _))),hS2,.inl ⟨rfl,by rw[h1];rfl,.inr ⟨h1,h2,rfl⟩⟩⟩
end
section
variable {G:Gx} {m:Nat} {cenv:Env} {loc:Loc} {σ:Sig} {n y:Nat} {S:Sto} {ts:List PySem.Str} {fs:List Cel} {K:Frag}
theorem u0f(W:WOk G (hd.heap_1 G.w.params)){sy:Nat}(hsy:sy<σ.length){Q:AV→Sig→Prop}(h: ∀σ',Same [] σ σ'→σ'.length=σ.length+5→IsSt σ' σ.length sy ⟨[],[],[],0⟩→Q (.ref (σ.length+1)) σ'):a0b G (m+2) (.ref 374) [.ref sy] σ Q:=by
 refine f1d W (by k_is) (by k_is) (by k_is) ?_
 have hi:(σ++[AObj.ns [],AObj.inst 374 σ.length])[σ.length+1]?=some (.inst 374 σ.length):=by exact gp1
 have hn:(σ++[AObj.ns [],AObj.inst 374 σ.length])[σ.length]?=some (.ns []):=by exact gp0
 have hl0:(σ++[AObj.ns [],AObj.inst 374 σ.length]).length=σ.length+2:=by exact List.length_append ..
 have hs0:Same [] σ (σ++[AObj.ns [],AObj.inst 374 σ.length]):=(Same.refl _ _).app
 refine e1a W (by k_is) (by k_is) (ys:=[.ref (σ.length+1),.ref sy,.int 100000]) (ps:=["self","symbols","max_heap"]) (λs ρ vs S hv=>?_) rfl rfl (by decide) (by decide) rfl rfl rfl (λL qq fu co hcl=>?_)
 ·obtain⟨v,r,rfl,hv,u,r',rfl,hu,hr⟩:=hv;(subst hr)
  exact⟨[v,u,_],⟨v,_,rfl,hv,u,_,rfl,hu,_,[],rfl,⟨_,rfl⟩,rfl⟩,rfl,binds_K (W.kin S) rfl (by k_is) rfl rfl rfl⟩
 rw[hl0]at hcl
 generalize σ++[AObj.ns [],AObj.inst 374 σ.length]=σ0 at hi hn hl0 hs0 hcl⊢
 walk_at"*"
 refine b0q W hi hn (by k_is) (by k_is) (by k_is) (by k_is) ?_
 have hi1:=a0c (p:=.ns (c0r [] (PySem.Str.ofString "symbols") (.ref sy))) (j:=σ.length) hi (by exact LA [_] [] 235274313 rfl)
 have hn1:=a0d (p:=.ns (c0r [] (PySem.Str.ofString "symbols") (.ref sy))) hn
 have hs1:=hs0.set (i:=σ.length) (o:=.ns (c0r [] (PySem.Str.ofString "symbols") (.ref sy))) (.inr (Nat.le_refl _))
 have hl1:(σ0.set σ.length (.ns (c0r [] (PySem.Str.ofString "symbols") (.ref sy)))).length=σ.length+2:=by simp[hl0]
 generalize σ0.set σ.length (.ns (c0r [] (PySem.Str.ofString "symbols") (.ref sy)))=σ1 at hi1 hn1 hs1 hl1⊢
 walk_at"*"
 refine b0q W hi1 hn1 (by k_is) (by k_is) (by k_is) (by k_is) ?_ (Nat.le_of_ble_eq_true rfl)
 generalize hm2:c0r (c0r [] (PySem.Str.ofString "symbols") (AV.ref sy)) (PySem.Str.ofString "max_heap") (.int 100000)=m2
 have hi2:=a0c (p:=.ns m2) (j:=σ.length) hi1 (by exact LA [_] [] 235274313 rfl)
 have hn2:=a0d (p:=.ns m2) hn1
 have hs2:=hs1.set (i:=σ.length) (o:=.ns m2) (.inr (Nat.le_refl _))
 have hl2:(σ1.set σ.length (.ns m2)).length=σ.length+2:=by simp[hl1]
 have hz2:m2.length=2:=by rw[←hm2];rfl
 generalize σ1.set σ.length (.ns m2)=σ2 at hi2 hn2 hs2 hl2⊢
 walk_at"*"
 rw[hl2]
 walk_at"*"
 refine b0q W (a0j hi2) (a0j hn2) (by k_is) (by k_is) (by k_is) (by k_is) ?_ (by exact LA [_] [] 3458765991291715656 rfl hz2)
 generalize hm3:c0r m2 (PySem.Str.ofString "heap") (AV.ref (σ.length+2))=m3
 have hi3:=a0c (p:=.ns m3) (j:=σ.length) (a0j (r:=[AObj.list []]) hi2) (by exact LA [_] [] 235274313 rfl)
 have hn3:=a0d (p:=.ns m3) (a0j (r:=[AObj.list []]) hn2)
 have hs3:=(hs2.app (r:=[AObj.list []])).set (i:=σ.length) (o:=.ns m3) (.inr (Nat.le_refl _))
 have hl3:((σ2++[AObj.list []]).set σ.length (.ns m3)).length=σ.length+3:=by simp[hl2]
 have hh3:((σ2++[AObj.list []]).set σ.length (.ns m3))[σ.length+2]?=some (.list []):=a0c (by rw[←hl2];exact d0f) (by exact LA [_] [] 2483421257 rfl)
 have hz3:m3.length=3:=by rw[←hm3,←hm2];rfl
 generalize (σ2++[AObj.list []]).set σ.length (.ns m3)=σ3 at hi3 hn3 hs3 hl3 hh3⊢
 walk_at"*"
 rw[hl3]
 walk_at"*"
 refine b0q W (a0j hi3) (a0j hn3) (by k_is) (by k_is) (by k_is) (by k_is) ?_ (by exact LA [_] [] 3458765991292764232 rfl hz3)
 generalize hm4:c0r m3 (PySem.Str.ofString "stack") (AV.ref (σ.length+3))=m4
 have hi4:=a0c (p:=.ns m4) (j:=σ.length) (a0j (r:=[AObj.list []]) hi3) (by exact LA [_] [] 235274313 rfl)
 have hn4:=a0d (p:=.ns m4) (a0j (r:=[AObj.list []]) hn3)
 have hs4:=(hs3.app (r:=[AObj.list []])).set (i:=σ.length) (o:=.ns m4) (.inr (Nat.le_refl _))
 have hl4:((σ3++[AObj.list []]).set σ.length (.ns m4)).length=σ.length+4:=by simp[hl3]
 have hh4:=a0c (p:=.ns m4) (j:=σ.length) (a0j (r:=[AObj.list []]) hh3) (by exact LA [_] [] 2483421257 rfl)
 have hk4:((σ3++[AObj.list []]).set σ.length (.ns m4))[σ.length+3]?=some (.list []):=a0c (by rw[←hl3];exact d0f) (by exact LA [_] [] 3557163081 rfl)
 have hz4:m4.length=4:=by rw[←hm4,←hm3,←hm2];rfl
 generalize (σ3++[AObj.list []]).set σ.length (.ns m4)=σ4 at hi4 hn4 hs4 hl4 hh4 hk4⊢
 walk_at"*"
 rw[hl4]
 walk_at"*"
 refine b0q W (a0j hi4) (a0j hn4) (by k_is) (by k_is) (by k_is) (by k_is) ?_ (by exact LA [_] [] 3458765991293812808 rfl hz4)
 generalize hm5:c0r m4 (PySem.Str.ofString "trail") (AV.ref (σ.length+4))=m5
 have hi5:=a0c (p:=.ns m5) (j:=σ.length) (a0j (r:=[AObj.list []]) hi4) (by exact LA [_] [] 235274313 rfl)
 have hn5:=a0d (p:=.ns m5) (a0j (r:=[AObj.list []]) hn4)
 have hs5:=(hs4.app (r:=[AObj.list []])).set (i:=σ.length) (o:=.ns m5) (.inr (Nat.le_refl _))
 have hl5:((σ4++[AObj.list []]).set σ.length (.ns m5)).length=σ.length+5:=by simp[hl4]
 have hh5:=a0c (p:=.ns m5) (j:=σ.length) (a0j (r:=[AObj.list []]) hh4) (by exact LA [_] [] 2483421257 rfl)
 have hk5:=a0c (p:=.ns m5) (j:=σ.length) (a0j (r:=[AObj.list []]) hk4) (by exact LA [_] [] 3557163081 rfl)
 have ht5:((σ4++[AObj.list []]).set σ.length (.ns m5))[σ.length+4]?=some (.list []):=a0c (by rw[←hl4];exact d0f) (by exact LA [_] [] 4630904905 rfl)
 have hz5:m5.length=5:=by rw[←hm5,←hm4,←hm3,←hm2];rfl
 generalize (σ4++[AObj.list []]).set σ.length (.ns m5)=σ5 at hi5 hn5 hs5 hl5 hh5 hk5 ht5⊢
 walk_at"*"
 refine b0q W hi5 hn5 (by k_is) (by k_is) (by k_is) (by k_is) ?_ (by exact LA [_] [] 3458765991294861384 rfl hz5)
 generalize hm6:c0r m5 (PySem.Str.ofString "hb") (AV.int 0)=m6
 have hz6:m6.length=6:=by rw[←hm6,←hm5,←hm4,←hm3,←hm2];rfl
 have hi6:=a0c (p:=.ns m6) (j:=σ.length) hi5 (by exact LA [_] [] 235274313 rfl)
 have hn6:=a0d (p:=.ns m6) hn5
 walk_at"*"
 refine b0q W hi6 hn6 (by k_is) (by k_is) (by k_is) (by k_is) ?_ (by exact LA [_] [] 3458765991295909960 rfl hz6)
 have hm7:c0r m6 (PySem.Str.ofString "bb") (AV.int 0)=q0k σ.length sy 0:=by rw[←hm6,←hm5,←hm4,←hm3,←hm2];rfl
 rw[hm7,List.set_set]
 have hs7:=hs5.set (i:=σ.length) (o:=.ns (q0k σ.length sy 0)) (.inr (Nat.le_refl _))
 have hl7:(σ5.set σ.length (.ns (q0k σ.length sy 0))).length=σ.length+5:=by simp[hl5]
 have hI:IsSt (σ5.set σ.length (.ns (q0k σ.length sy 0))) σ.length sy ⟨[],[],[],0⟩:=⟨a0d hn5,a0c hi5 (by exact LA [_] [] 235274313 rfl),a0c hh5 (by exact LA [_] [] 2483421257 rfl),a0c hk5 (by exact LA [_] [] 3557163081 rfl),a0c ht5 (by exact LA [_] [] 4630904905 rfl)⟩
 generalize σ5.set σ.length (.ns (q0k σ.length sy 0))=σ7 at hs7 hl7 hI⊢
 walk_at"*"
 refine⟨σ.length+5,.none,rfl,by exact LA [_,_] [] 6126443608080253000 rfl hl0,trivial,?_,?_⟩
 ·rw[List.take_of_length_le (by exact LA [_,_] [] 6126443611301478472 rfl hl7)]
  intro o ho
  obtain⟨j,hj,rfl⟩:=List.mem_iff_getElem.mp ho
  have ej:σ7[j]?=some σ7[j]:=List.getElem?_eq_getElem hj
  generalize σ7[j]=ob at ej⊢
  by_cases hjl:j<σ.length
  ·have e2:=(hs0.at_ j hjl (by exact nofun)).trans ((hs7.at_ j hjl (by exact nofun)).symm.trans ej)
   exact AObj.bd_mono (by exact LA [_] [] 5841560600960 rfl) (hcl _ (List.mem_of_getElem? e2))
  ·have:j=σ.length∨j=σ.length+1∨j=σ.length+2∨j=σ.length+3∨j=σ.length+4:=by exact LA [_,_,_] [] 232602048429018047284645860910794300199531003712566481631362810249288 rfl hl7 hj hjl
   rcases this with rfl|rfl|rfl|rfl|rfl
   ·rw[hI.ns]at ej;cases ej
    refine w0j ?_
    repeat' refine h1x ?_ ?_
    all_goals first|exact trivial|exactλ_ h=>(nomatch h)|(show _<_;omega)
   ·rw[hI.inst]at ej;cases ej;show _<_;exact LA [_] [] 178270209 rfl
   ·rw[hI.heap]at ej;cases ej;exact c0l _ _
   ·rw[hI.stack]at ej;cases ej;exact c0l _ _
   ·rw[hI.trail]at ej;cases ej;exact k0p _ _
 ·rw[List.take_of_length_le (by exact LA [_,_] [] 6126443611301478472 rfl hl7)]
  exact⟨rfl,h σ7 hs7 hl7 hI⟩
end
noncomputable def k1r(f:Expr→Option AV):List Expr→Option (List AV)
 |[]=>some []
 |e::r=>(f e).bind λx=>(k1r f r).bind λl=>bif n0a e then some (x::l)else none
noncomputable def m1y:Nat→Expr→Option AV
 |0,_=>none
 |n+1,e=>match e with
  | .Constant c _ _=>(match c with| .int i=>some (.int i)| .str s=>some (.str s)|_=>none)
  | .Tuple es _ _=>(k1r (m1y n) es).bind λl=>bif Nat.ble l.length 1000 then some (.tup l)else none
  |_=>none
theorem s0s{α:Type}{b:Bool}{x y:α}(h:(bif b then some x else none)=some y):b=true∧x=y:=by
 cases b
 ·exact b0n h
 ·cases h;exact⟨rfl,rfl⟩
section
variable {G:Gx} {n:Nat} {cenv:Env} {loc:Loc} {σ:Sig}
theorem y0g{f:Expr→Option AV}(hf: ∀{e v} {Q:AV→Sig→Prop},f e=some v→Q v σ→OkE G n cenv loc σ e Q): ∀{es:List Expr} {l:List AV} {Q:List AV→Sig→Prop},k1r f es=some l→Q l σ→o0q G n cenv loc σ es Q
 |[],l,Q,e,h=>by cases e;exact v0y h
 |x::r,l,Q,e,h=>by
  refine a0a (Option.bind_eq_some_iff.mp e) λv hv e=>?_
  refine a0a (Option.bind_eq_some_iff.mp e) λl' hl e=>?_
  refine a0m (s0s e) λhp z0=>?_;subst z0
  exact v0x (hf hv (y0g hf hl h)) (h0u hp _ _)
theorem y0f(k:Nat): ∀{e:Expr} {v:AV} {Q:AV→Sig→Prop},m1y k e=some v→Q v σ→OkE G n cenv loc σ e Q:=by
 induction k with
 |zero=>intro e v Q h _;exact b0n h
 |succ k ih=>
  intro e v Q h hQ
  cases e with
  |Constant c _ _=>cases c<;>first|exact b0n h|(cases h;first|exact d1h hQ|exact h1b hQ)
  |Tuple es _ _=>
   refine a0a (Option.bind_eq_some_iff.mp (show(k1r (m1y k) es).bind (λl=>bif Nat.ble l.length 1000 then some (.tup l)else none)=some v from h)) λl hl e=>?_
   refine a0m (s0s e) λhp z0=>?_;subst z0
   exact h1c (y0g ih hl ⟨Nat.le_of_ble_eq_true hp,hQ⟩)
  |_=>exact b0n h
end
noncomputable def m0o:List PySem.Str:=("[]":PySem.Str)::(".":PySem.Str)::("{}":PySem.Str)::("-":PySem.Str)::("+":PySem.Str)::("*":PySem.Str)::("/":PySem.Str)::(",":PySem.Str)::("|":PySem.Str)::(";":PySem.Str)::("->":PySem.Str)::("\\+":PySem.Str)::(":-":PySem.Str)::("?-":PySem.Str)::("-->":PySem.Str)::("!":PySem.Str)::("true":PySem.Str)::("fail":PySem.Str)::("false":PySem.Str)::("call":PySem.Str)::("=":PySem.Str)::("^":PySem.Str)::("error":PySem.Str)::("":PySem.Str)::("end_of_file":PySem.Str)::("system":PySem.Str)::("$VAR":PySem.Str)::("catch":PySem.Str)::("throw":PySem.Str)::[]
noncomputable def g0p:List (PySem.Str×Int):=((".":PySem.Str),(2:Int))::((",":PySem.Str),(2:Int))::((";":PySem.Str),(2:Int))::(("->":PySem.Str),(2:Int))::(("\\+":PySem.Str),(1:Int))::((":-":PySem.Str),(2:Int))::((":-":PySem.Str),(1:Int))::(("?-":PySem.Str),(1:Int))::(("-->":PySem.Str),(2:Int))::(("{}":PySem.Str),(1:Int))::(("=":PySem.Str),(2:Int))::(("^":PySem.Str),(2:Int))::(("-":PySem.Str),(1:Int))::(("-":PySem.Str),(2:Int))::(("+":PySem.Str),(2:Int))::(("/":PySem.Str),(2:Int))::(("error":PySem.Str),(2:Int))::(("$VAR":PySem.Str),(1:Int))::(("catch":PySem.Str),(3:Int))::(("throw":PySem.Str),(1:Int))::(("!":PySem.Str),(0:Int))::(("true":PySem.Str),(0:Int))::(("fail":PySem.Str),(0:Int))::(("false":PySem.Str),(0:Int))::(("call":PySem.Str),(1:Int))::(("call":PySem.Str),(2:Int))::(("call":PySem.Str),(3:Int))::(("call":PySem.Str),(4:Int))::(("call":PySem.Str),(5:Int))::(("call":PySem.Str),(6:Int))::(("call":PySem.Str),(7:Int))::(("call":PySem.Str),(8:Int))::[]
noncomputable abbrev b1l (p:PySem.Str×Int):AV:=.tup [.str p.1,.int p.2]
section
variable {G:Gx} {m:Nat} {cenv:Env} {loc:Loc} {σ:Sig}
theorem m0j(W:WOk G (hd.heap_1 G.w.params)){Q:AV→Sig→Prop}(h: ∀T:List PySem.Str,T[1]?=some (PySem.Str.ofString ".")→T.Nodup→T.length≤100→Q (.tup (T.map .str)) σ):a0b G (m+1) (.ref 60) [] σ Q:=by
 refine a0x W (by k_is) (by k_is) (i1c rfl) rfl rfl (by decide) (by decide) rfl rfl rfl (λL qq fu co hcl=>?_)
 have h1:m0o[1]?=some (PySem.Str.ofString "."):=rfl
 have h2:m0o.Nodup:=by decide+kernel
 have h3:m0o.length≤100:=by decide+kernel
 have h5:(AV.tup (m0o.map .str)).bd σ.length:=i0a _ _
 refine d1k ?_
 refine y0f (v:=.tup (m0o.map .str)) 3 ?_ ?_
 ·kernel_rfl
 exact Fin.same hcl h5 (h m0o h1 h2 h3)
theorem j0j(W:WOk G (hd.heap_1 G.w.params)){Q:AV→Sig→Prop}(h: ∀T:List (PySem.Str×Int),T[0]?=some (PySem.Str.ofString ".",2)→T.length≤100→Q (.tup (T.map b1l)) σ):a0b G (m+1) (.ref 67) [] σ Q:=by
 refine a0x W (by k_is) (by k_is) (i1c rfl) rfl rfl (by decide) (by decide) rfl rfl rfl (λL qq fu co hcl=>?_)
 have hb: ∀T:List (PySem.Str×Int),AV.bdL σ.length (T.map b1l):=λT=>by
  induction T with
  |nil=>trivial
  |cons p T ih=>exact⟨by trivial,ih⟩
 have h1:g0p[0]?=some (PySem.Str.ofString ".",2):=rfl
 have h3:g0p.length≤100:=by decide+kernel
 have h5:(AV.tup (g0p.map b1l)).bd σ.length:=hb _
 refine d1k ?_
 refine y0f (v:=.tup (g0p.map b1l)) 3 ?_ ?_
 ·kernel_rfl
 exact Fin.same hcl h5 (h g0p h1 h3)
end
structure SyOk (ts:List PySem.Str) (fs:List Cel):Prop where
 nt:ts.Nodup
 dot:ts[1]?=some (PySem.Str.ofString ".")
 f0:fs[0]?=some (1,2)
 lt:ts.length≤300
 lf:fs.length≤300
section
variable {G:Gx} {m:Nat} {cenv:Env} {loc:Loc} {σ:Sig}
theorem v0s(W:WOk G (hd.heap_1 G.w.params))(hm: ∃o,G.base.get? sysModules=some o){Q:AV→Sig→Prop}(h: ∀σ' ts fs,Same [] σ σ'→σ'.length=σ.length+6→IsSy σ' σ.length ts fs→SyOk ts fs→Q (.ref (σ.length+1)) σ'):a0b G (m+5) (.ref 154) [] σ Q:=by
 refine f1d W (by k_is) (by k_is) (by k_is) ?_
 have hi:(σ++[AObj.ns [],AObj.inst 154 σ.length])[σ.length+1]?=some (.inst 154 σ.length):=by exact gp1
 have hn:(σ++[AObj.ns [],AObj.inst 154 σ.length])[σ.length]?=some (.ns []):=by exact gp0
 have hl0:(σ++[AObj.ns [],AObj.inst 154 σ.length]).length=σ.length+2:=by exact List.length_append ..
 have hs0:Same [] σ (σ++[AObj.ns [],AObj.inst 154 σ.length]):=(Same.refl _ _).app
 refine e1a W (by k_is) (by k_is) (w0m (p:="self") λv=>rfl) rfl rfl (by decide) (by decide) rfl rfl rfl (λL qq fu co hcl=>?_)
 rw[hl0]at hcl
 generalize σ++[AObj.ns [],AObj.inst 154 σ.length]=σ0 at hi hn hl0 hs0 hcl⊢
 refine e1o [23] W ⟨?_⟩
 walk_at"*"
 rw[hl0]
 walk_at"*"
 refine b0q W (a0j hi) (a0j hn) (by k_is) (by k_is) (by k_is) (by k_is) ?_
 generalize hm3:c0r [] (PySem.Str.ofString "texts") (AV.ref (σ.length+2))=m3
 have hi3:=a0c (p:=.ns m3) (j:=σ.length) (a0j (r:=[AObj.list []]) hi) (by exact LA [_] [] 235274313 rfl)
 have hn3:=a0d (p:=.ns m3) (a0j (r:=[AObj.list []]) hn)
 have hs3:=(hs0.app (r:=[AObj.list []])).set (i:=σ.length) (o:=.ns m3) (.inr (Nat.le_refl _))
 have hl3:((σ0++[AObj.list []]).set σ.length (.ns m3)).length=σ.length+3:=by simp[hl0]
 have hh3:((σ0++[AObj.list []]).set σ.length (.ns m3))[σ.length+2]?=some (.list []):=a0c (by rw[←hl0];exact d0f) (by exact LA [_] [] 2483421257 rfl)
 have hz3:m3.length=1:=by rw[←hm3];rfl
 generalize (σ0++[AObj.list []]).set σ.length (.ns m3)=σ3 at hi3 hn3 hs3 hl3 hh3⊢
 walk_at"*"
 refine here (v0z (s0k (.inr (.inl rfl)) ?_))
 walk_at"*"
 rw[hl3]
 walk_at"*"
 refine b0q W (a0j hi3) (a0j hn3) (by k_is) (by k_is) (by k_is) (by k_is) ?_ (by exact LA [_] [] 108086437228019784 rfl hz3)
 generalize hm4:c0r m3 (PySem.Str.ofString "atom_numbers") (AV.ref (σ.length+3))=m4
 have hi4:=a0c (p:=.ns m4) (j:=σ.length) (a0j (r:=[AObj.dictS []]) hi3) (by exact LA [_] [] 235274313 rfl)
 have hn4:=a0d (p:=.ns m4) (a0j (r:=[AObj.dictS []]) hn3)
 have hs4:=(hs3.app (r:=[AObj.dictS []])).set (i:=σ.length) (o:=.ns m4) (.inr (Nat.le_refl _))
 have hl4:((σ3++[AObj.dictS []]).set σ.length (.ns m4)).length=σ.length+4:=by simp[hl3]
 have hh4:=a0c (p:=.ns m4) (j:=σ.length) (a0j (r:=[AObj.dictS []]) hh3) (by exact LA [_] [] 2483421257 rfl)
 have hk4:((σ3++[AObj.dictS []]).set σ.length (.ns m4))[σ.length+3]?=some (.dictS []):=a0c (by rw[←hl3];exact d0f) (by exact LA [_] [] 3557163081 rfl)
 have hz4:m4.length=2:=by rw[←hm4,←hm3];rfl
 generalize (σ3++[AObj.dictS []]).set σ.length (.ns m4)=σ4 at hi4 hn4 hs4 hl4 hh4 hk4⊢
 refine e1o [25] W ⟨?_⟩
 walk_at"*"
 rw[hl4]
 walk_at"*"
 refine b0q W (a0j hi4) (a0j hn4) (by k_is) (by k_is) (by k_is) (by k_is) ?_ (by exact LA [_] [] 3458765991291715656 rfl hz4)
 generalize hm5:c0r m4 (PySem.Str.ofString "functors") (AV.ref (σ.length+4))=m5
 have hi5:=a0c (p:=.ns m5) (j:=σ.length) (a0j (r:=[AObj.list []]) hi4) (by exact LA [_] [] 235274313 rfl)
 have hn5:=a0d (p:=.ns m5) (a0j (r:=[AObj.list []]) hn4)
 have hs5:=(hs4.app (r:=[AObj.list []])).set (i:=σ.length) (o:=.ns m5) (.inr (Nat.le_refl _))
 have hl5:((σ4++[AObj.list []]).set σ.length (.ns m5)).length=σ.length+5:=by simp[hl4]
 have hh5:=a0c (p:=.ns m5) (j:=σ.length) (a0j (r:=[AObj.list []]) hh4) (by exact LA [_] [] 2483421257 rfl)
 have hk5:=a0c (p:=.ns m5) (j:=σ.length) (a0j (r:=[AObj.list []]) hk4) (by exact LA [_] [] 3557163081 rfl)
 have hf5:((σ4++[AObj.list []]).set σ.length (.ns m5))[σ.length+4]?=some (.list []):=a0c (by rw[←hl4];exact d0f) (by exact LA [_] [] 4630904905 rfl)
 have hz5:m5.length=3:=by rw[←hm5,←hm4,←hm3];rfl
 generalize (σ4++[AObj.list []]).set σ.length (.ns m5)=σ5 at hi5 hn5 hs5 hl5 hh5 hk5 hf5⊢
 walk_at"*"
 refine here (v0z (s0k (.inr (.inr rfl)) ?_))
 walk_at"*"
 rw[hl5]
 walk_at"*"
 refine b0q W (a0j hi5) (a0j hn5) (by k_is) (by k_is) (by k_is) (by k_is) ?_ (by exact LA [_] [] 3458765991292764232 rfl hz5)
 have hm6:c0r m5 (PySem.Str.ofString "functor_numbers") (AV.ref (σ.length+5))=z0r σ.length:=by rw[←hm5,←hm4,←hm3];rfl
 rw[hm6]
 have hs6:=(hs5.app (r:=[AObj.dictT []])).set (i:=σ.length) (o:=.ns (z0r σ.length)) (.inr (Nat.le_refl _))
 have hl6:((σ5++[AObj.dictT []]).set σ.length (.ns (z0r σ.length))).length=σ.length+6:=by simp[hl5]
 have hY6:IsSy ((σ5++[AObj.dictT []]).set σ.length (.ns (z0r σ.length))) σ.length [] []:=⟨a0d (a0j hn5),a0c (a0j hi5) (by exact LA [_] [] 235274313 rfl),a0c (a0j hh5) (by exact LA [_] [] 2483421257 rfl),a0c (a0j hk5) (by exact LA [_] [] 3557163081 rfl),a0c (a0j hf5) (by exact LA [_] [] 4630904905 rfl),a0c (by rw[←hl5];exact d0f) (by exact LA [_] [] 5704646729 rfl)⟩
 generalize (σ5++[AObj.dictT []]).set σ.length (.ns (z0r σ.length))=σ6 at hs6 hl6 hY6⊢
 walk_at"*"
 refine h0h ?_
 walk_at"*"
 refine m0j W λT hT1 hTn hTl=>?_
 refine⟨_,_,i0o,λi l σ'=>l=([("self",.ref (σ.length+1))]:Loc)∧Same [] σ σ'∧σ'.length=σ.length+6∧IsSy σ' σ.length (T.take i) [],⟨_,Sub.cons rfl (Sub.nil _),rfl,hs6,hl6,by simpa using hY6⟩,λ_ _ _ _ _=>trivial,?_,?_⟩
 ·intro i z l σ' hz' z0;refine r0m z0 λel hs hl hY=>?_;clear z0
  subst el
  rw[List.getElem?_map]at hz'
  refine a0a (Option.map_eq_some_iff.mp hz') λt ht z0=>?_;subst z0
  have hi':=(List.getElem?_eq_some_iff.mp ht).1
  have etk:T.take (i+1)=T.take i++[t]:=by rw[List.take_add_one,ht];rfl
  intro P hP
  refine e0q (by rfl) ?_
  walk_at"*"
  refine q0z W hm hY (by simp;exact LA [_,_] [] 3713821704331302458178764808 rfl hTl) (λj hj=>?_) λhnew=>?_
  ·exfalso
   have hjl:j<i:=by have:=(List.getElem?_eq_some_iff.mp hj).1;simp at this;exact LA [_,_,_] [] 1100654084136 rfl this
   rw[List.getElem?_take_of_lt hjl]at hj
   have e1:=(List.getElem?_eq_some_iff.mp hj)
   have e2:=(List.getElem?_eq_some_iff.mp ht)
   have:=(List.getElem_inj hTn).mp (e1.2.trans e2.2.symm)
   exact LA [_,_] [] 11029551546408 rfl hjl this
  ·walk_at"*"
   refine⟨_,Sub.cons rfl (Sub.nil _),rfl,(hs.set (.inr (by exact LA [_] [] 77606912 rfl))).set (.inr (by exact LA [_] [] 111161344 rfl)),by simp[hl],?_⟩
   rw[etk];exact hY.setA t
 ·intro l σ7 z0;refine r0m z0 λel hs7 hl7 hY7=>?_;clear z0
  subst el
  rw[List.length_map,List.take_length]at hY7
  walk_at"*"
  refine h0h ?_
  walk_at"*"
  refine j0j W λR hR0 hRl=>?_
  refine⟨_,_,i0o,λi l σ'=>∃ts fs,l=([("self",.ref (σ.length+1))]:Loc)∧Same [] σ σ'∧σ'.length=σ.length+6∧IsSy σ' σ.length ts fs∧ts.Nodup∧ts[1]?=some (PySem.Str.ofString ".")∧ts.length≤100+i∧fs.length≤i∧(i=0→fs=[])∧(0<i→fs[0]?=some (1,2)),⟨_,Sub.cons rfl (Sub.nil _),T,[],rfl,hs7,hl7,hY7,hTn,hT1,by omega,by exact Nat.le_refl _,λ_=>rfl,λh=>by omega⟩,λ_ _ _ _ _=>trivial,?_,?_⟩
  ·intro i z l σ' hz' z0;refine c1m z0 λts fs el hs hl hY hn hd hlt hlf hf0 hf1=>?_;clear z0
   subst el
   have hil:=(List.getElem?_eq_some_iff.mp hz').1
   rw[List.length_map]at hil
   rw[List.getElem?_map]at hz'
   refine a0a (Option.map_eq_some_iff.mp hz') λrow hrow z0=>?_;subst z0
   intro P hP
   refine e0q (by rfl) ?_
   walk_at"*"
   refine x0o W hm hY ⟨by exact LA [_,_,_] [] 137015837070877201784285797436622621410806038536 rfl hRl hlt hil,by exact LA [_,_,_] [] 3987685691998258750625467008256671752 rfl hRl hlf hil⟩ λj a ts' fs' σ2 ht' hta hf' hfj hs2 hl2 hY2=>?_
   walk_at"*"
   have hn':ts'.Nodup:=by
    rcases ht' with rfl|⟨rfl,hnm⟩
    ·exact hn
    ·exact List.nodup_append.mpr ⟨hn,by simp,λx hx y hy=>by simp at hy;subst hy;exactλe=>hnm (e▸hx)⟩
   have hd':ts'[1]?=some (PySem.Str.ofString "."):=by
    rcases ht' with rfl|⟨rfl,_⟩
    ·exact hd
    ·rw[List.getElem?_append_left (List.getElem?_eq_some_iff.mp hd).1];exact hd
   refine⟨_,Sub.cons rfl (Sub.nil _),ts',fs',rfl,⟨by have:=hs.le;exact LA [_,_,_] [] 74939970648869830728 rfl hl hl2,λq hq hw=>(hs2.at_ q (by exact LA [_,_,_] [] 2343069456052650056 rfl hl hq) (by simp;exact LA [_,_] [] 7952578573766486190377685188582583483038302910578728 rfl hq)).trans (hs.at_ q hq hw)⟩,by exact LA [_,_,_] [] 7632969927769285782274120 rfl hl hl2,hY2,hn',hd',?_,?_,λh=>by omega,λ_=>?_⟩
   ·rcases ht' with rfl|⟨rfl,_⟩
    ·exact LA [_,_] [] 9142375357059712870676703472910344 rfl hlt
    ·simp;exact LA [_,_] [] 9361792365629154256325564556899647496 rfl hlt
   ·rcases hf' with rfl|⟨rfl,_⟩
    ·exact LA [_,_] [] 7743826067464 rfl hlf
    ·simp;omega
   ·by_cases h0:i=0
    ·have e0:=hf0 h0
     subst e0 h0
     rw[hR0]at hrow;cases hrow
     have e1:=List.getElem?_eq_some_iff.mp hta
     have e2:=List.getElem?_eq_some_iff.mp hd'
     have:a=1:=(List.getElem_inj hn').mp (e1.2.trans e2.2.symm)
     subst this
     rcases hf' with rfl|⟨rfl,_⟩
     ·assumption
     ·rfl
    ·have e1:=hf1 (by exact LA [_] [] 6482299176 rfl h0)
     rcases hf' with rfl|⟨rfl,_⟩
     ·exact e1
     ·rw[List.getElem?_append_left (List.getElem?_eq_some_iff.mp e1).1];exact e1
  ·intro l σ8 z0;refine c1m z0 λts fs el hs hl hY hn hd hlt hlf hf0 hf1=>?_;clear z0
   subst el
   walk_at"*"
   rw[List.length_map]at hlt hlf hf1
   have hR1:0<R.length:=(List.getElem?_eq_some_iff.mp hR0).1
   refine⟨σ.length+6,.none,rfl,by exact LA [_,_] [] 7279365112687099976 rfl hl0,trivial,?_,?_⟩
   ·rw[List.take_of_length_le (by exact LA [_,_] [] 7279365116982067272 rfl hl)]
    intro o ho
    obtain⟨j,hj,rfl⟩:=List.mem_iff_getElem.mp ho
    have ej:σ8[j]?=some σ8[j]:=List.getElem?_eq_getElem hj
    generalize σ8[j]=ob at ej⊢
    by_cases hjl:j<σ.length
    ·have e2:=(hs0.at_ j hjl (by exact nofun)).trans ((hs.at_ j hjl (by exact nofun)).symm.trans ej)
     exact AObj.bd_mono (by exact LA [_] [] 6941072228736 rfl) (hcl _ (List.mem_of_getElem? e2))
    ·have:j=σ.length∨j=σ.length+1∨j=σ.length+2∨j=σ.length+3∨j=σ.length+4∨j=σ.length+5:=by exact LA [_,_,_] [] 9844818957404421237375678125302887564483524542150668044303853475790566244876360 rfl hl hj hjl
     rcases this with rfl|rfl|rfl|rfl|rfl|rfl
     ·rw[hY.ns]at ej;cases ej
      refine w0j ?_
      repeat' refine h1x ?_ ?_
      all_goals first|exact trivial|exactλ_ h=>(nomatch h)|(show _<_;omega)
     ·rw[hY.inst]at ej;cases ej;show _<_;exact LA [_] [] 211824641 rfl
     ·rw[hY.texts]at ej;cases ej;exact i0a _ _
     ·rw[hY.atoms]at ej;cases ej;exact r0b _ _
     ·rw[hY.funs]at ej;cases ej;exact c0l _ _
     ·rw[hY.keys]at ej;cases ej;exact r0c _ _
   ·rw[List.take_of_length_le (by exact LA [_,_] [] 7279365116982067272 rfl hl)]
    exact⟨rfl,h σ8 ts fs hs hl hY ⟨hn,hd,hf1 hR1,by exact LA [_,_] [] 87112424866268507542245165662619093532680 rfl hRl hlt,by exact LA [_,_] [] 2535305243982796072598140977160 rfl hRl hlf⟩⟩
end
theorem Tm.vinj{a b:Int}(h:Tm.v a=Tm.v b):a=b:=by injection h
mutual
inductive Dec(S:Sto)(fs:List Cel):Cel→Tm→Prop
 |con {k}:Dec S fs (4,k) (.a k)
 |int {k}:Dec S fs (5,k) (.i k)
 |var {p}:0≤p→S.heap[p.toNat]?=some (0,p)→Dec S fs (0,p) (.v p)
 |ref {p c t}:0≤p→S.heap[p.toNat]?=some c→c≠(0,p)→Dec S fs c t→Dec S fs (0,p) t
 |blk {c f args ts}:IsBlk S fs c f args→DecL S fs args ts→Dec S fs c (.s f ts)
inductive DecL(S:Sto)(fs:List Cel):List Cel→List Tm→Prop
 |nil:DecL S fs [] []
 |cons {c cs t ts}:Dec S fs c t→DecL S fs cs ts→DecL S fs (c::cs) (t::ts)
end
inductive Head(S:Sto)(fs:List Cel):Cel→Tm→Prop
 |con {k}:Head S fs (4,k) (.a k)
 |int {k}:Head S fs (5,k) (.i k)
 |var {p}:0≤p→S.heap[p.toNat]?=some (0,p)→Head S fs (0,p) (.v p)
 |blk {c f args ts}:IsBlk S fs c f args→DecL S fs args ts→Head S fs c (.s f ts)
theorem IsBlk.tag{S:Sto}{fs:List Cel}{c:Cel}{f:Int}{args:List Cel}(h:IsBlk S fs c f args):c.1=2∨c.1=3:=by
 rcases h.k with⟨h,_⟩|⟨h,_⟩<;>omega
theorem h0a{S:Sto}{k:Nat}{c:Cel}(h0:c.1≠0)(h1:c.1≠1):a0i S (k+1) c=some c:=by
 simp only[eDr,if_neg h0,if_neg h1]
theorem Head.deref{S:Sto}{fs:List Cel}{d:Cel}{t:Tm}(h:Head S fs d t):a0i S 1 d=some d:=by
 cases h with
 |con=>exact h0a (by exact nofun) (by exact nofun)
 |int=>exact h0a (by exact nofun) (by exact nofun)
 |var h0 h=>simp only[eDr,if_true,if_pos h0,h]
 |blk h _=>exact h0a (by have:=h.tag;exact LA [] [_] 226163008678316348648 rfl this) (by have:=h.tag;exact LA [] [_] 263056496825735451880 rfl this)
theorem Head.dec{S:Sto}{fs:List Cel}{d:Cel}{t:Tm}(h:Head S fs d t):Dec S fs d t:=by
 cases h with
 |con=>exact .con
 |int=>exact .int
 |var h0 h=>exact .var h0 h
 |blk h hl=>exact .blk h hl
theorem Head.tag{S:Sto}{fs:List Cel}{d:Cel}{t:Tm}(h:Head S fs d t):d.1≠1:=by
 cases h with
 |con=>exact nofun
 |int=>exact nofun
 |var h0 h=>exact nofun
 |blk h _=>have:=h.tag;exact LA [] [_] 263056496825735451880 rfl this
theorem Dec.deref{S:Sto}{fs:List Cel}: ∀{c:Cel} {t:Tm},Dec S fs c t→∃q d,a0i S q c=some d∧Head S fs d t:=by
 intro c t h
 refine Dec.rec (motive_1:=λc t _=>∃q d,a0i S q c=some d∧Head S fs d t) (motive_2:=λ_ _ _=>True) ?_ ?_ ?_ ?_ ?_ trivial (λ_ _ _ _=>trivial) h
 ·exactλ{k}=>⟨1,_,Head.deref (.con (fs:=fs)),.con⟩
 ·exactλ{k}=>⟨1,_,Head.deref (.int (fs:=fs)),.int⟩
 ·exactλ{p} h0 h=>⟨1,_,Head.deref (.var (fs:=fs) h0 h),.var h0 h⟩
 ·rintro p c t h0 hc hne _ ⟨q,d,hq,hd⟩
  refine⟨q+1,d,?_,hd⟩
  simp only[eDr,if_true,if_pos h0,hc,if_neg hne]
  exact hq
 ·exactλ{c f args ts} hB hl _=>⟨1,_,Head.deref (.blk hB hl),.blk hB hl⟩
set_option tactic.hygienic true in
theorem f0q{S:Sto}: ∀{k j:Nat} {c d:Cel},a0i S k c=some d→k≤j→a0i S j c=some d
 |0,_,_,_,h,_=>by trivial
 |k+1,0,_,_,_,h=>by omega
 |k+1,j+1,c,d,h,hj=>by
  simp only[eDr]at h⊢
  split
  ·rename_i h0
   rw[if_pos h0]at h
   split
   ·rename_i h1
    rw[if_pos h1]at h
    split at h
    ·rename_i e he
     split
     ·rename_i h2;rw[if_pos h2]at h;exact h
     ·rename_i h2;rw[if_neg h2]at h;exact f0q h (by exact LA [_,_] [] 1126141908758536 rfl hj)
    ·exact b0n h
   ·rename_i h1;rw[if_neg h1]at h;(exact b0n h)
  ·rename_i h0
   rw[if_neg h0]at h
   split
   ·rename_i h3
    rw[if_pos h3]at h
    split
    ·rename_i h1
     rw[if_pos h1]at h
     split at h
     ·rename_i e he
      split
      ·rename_i h2;rw[if_pos h2]at h;exact h
      ·rename_i h2;rw[if_neg h2]at h;exact f0q h (by exact LA [_,_] [] 1126141908758536 rfl hj)
     ·exact b0n h
    ·rename_i h1;rw[if_neg h1]at h;(exact b0n h)
   ·rename_i h3;rw[if_neg h3]at h;exact h
theorem j0h{S:Sto}{k j:Nat}{c d e:Cel}(h:a0i S k c=some d)(h':a0i S j c=some e):d=e:=by
 have h1:=f0q h (Nat.le_max_left k j)
 have h2:=f0q h' (Nat.le_max_right k j)
 rw[h1]at h2;exact Option.some.inj h2
theorem l0t{S:Sto}{fs:List Cel}{c:Cel}{f g:Int}{args args':List Cel}(h:IsBlk S fs c f args)(h':IsBlk S fs c g args'):f=g∧args=args':=by
 have hl:f=g∧args.length=args'.length:=by
  rcases h.k with⟨h1,h2,h3⟩|⟨h1,h2,h3,a,h4⟩<;>rcases h'.k with⟨h1',h2',h3'⟩|⟨h1',h2',h3',a',h4'⟩
  ·exact LA [_,_] [_,_] 1332032244500168190731122061233819816 rfl h2 h3 h2' h3'
  ·exact LA [_,_] [_,_,_] 38763883267617224018694312 rfl h1 h1'
  ·exact LA [_,_] [_,_,_] 38763883267652408389734568 rfl h1 h1'
  ·rw[h2]at h2';cases h2'
   rw[h4]at h4';simp at h4';exact LA [_,_] [_,_,_] 1240444158463146120191284424 rfl h4'
 refine⟨hl.1,List.ext_getElem? λi=>?_⟩
 cases e:args[i]? with
 |some x=>
  have hi:i<args'.length:=by have:=(List.getElem?_eq_some_iff.mp e).1;exact LA [_,_,_] [_,_] 1255533814331567379656 rfl hl this
  have e':args'[i]?=some args'[i]:=List.getElem?_eq_getElem hi
  have a1:=h.args i x e
  have a2:=h'.args i _ e'
  rw[a1]at a2
  rw[e'];exact a2
 |none=>
  have hi:args'.length≤i:=by have:=List.getElem?_eq_none_iff.mp e;exact LA [_,_,_] [_,_] 2398148796006804886728 rfl hl this
  exact(List.getElem?_eq_none hi).symm
theorem Tm.ind{P:Tm→Prop}{PL:List Tm→Prop}(step: ∀t,(∀f ts,t=.s f ts→PL ts)→P t)(nil:PL [])(cons: ∀t ts,P t→PL ts→PL (t::ts)): ∀t,P t:=
 λt=>Tm.rec (motive_1:=P) (motive_2:=PL) (λ_=>step _ λ_ _ e=>nomatch e) (λ_=>step _ λ_ _ e=>nomatch e) (λ_=>step _ λ_ _ e=>nomatch e) (λ_ _ h=>step _ λ_ _ e=>by cases e;exact h) nil (λt ts h1 h2=>cons t ts h1 h2) t
theorem Tm.indL{P:Tm→Prop}{PL:List Tm→Prop}(step: ∀t,(∀f ts,t=.s f ts→PL ts)→P t)(nil:PL [])(cons: ∀t ts,P t→PL ts→PL (t::ts)): ∀ts,PL ts
 |[]=>nil
 |t::ts=>cons t ts (Tm.ind step nil cons t) (Tm.indL step nil cons ts)
theorem Tm.both{P:Tm→Prop}{PL:List Tm→Prop}(step: ∀t,(∀f ts,t=.s f ts→PL ts)→P t)(nil:PL [])(cons: ∀t ts,P t→PL ts→PL (t::ts)):(∀t,P t)∧∀ts,PL ts:=⟨Tm.ind step nil cons,Tm.indL step nil cons⟩
inductive HdS(S:Sto)(fs:List Cel)(t u:Tm):Prop
 |eq (h:t=u)
 |blk (f:Int) (args:List Cel) (ts us:List Tm) (h1:t=.s f ts) (h2:u=.s f us) (h3:DecL S fs args ts) (h4:DecL S fs args us)
theorem c0d{S:Sto}{fs:List Cel}{d:Cel}{f:Int}{args:List Cel}(h:IsBlk S fs d f args):isC d=true∧isV d=false:=by
 have:=h.tag
 rcases this with h|h<;>simp[isC,isV,h]
noncomputable def tmA(d:Cel):Tm:=if d.1=4 then .a d.2 else if d.1=5 then .i d.2 else .v d.2
theorem Head.shape{S:Sto}{fs:List Cel}{d:Cel}{t:Tm}(h:Head S fs d t):(isC d=false∧t=tmA d)∨(isC d=true∧∃f args ts,t=.s f ts∧IsBlk S fs d f args∧DecL S fs args ts):=by
 cases h with
 |con=>exact .inl ⟨rfl,rfl⟩
 |int=>exact .inl ⟨rfl,rfl⟩
 |var _ _=>exact .inl ⟨rfl,rfl⟩
 |blk hB hl=>exact .inr ⟨(c0d hB).1,_,_,_,rfl,hB,hl⟩
theorem Head.two{S:Sto}{fs:List Cel}{d:Cel}{t u:Tm}(h:Head S fs d t)(h':Head S fs d u):HdS S fs t u:=
 h.shape.elim (λa=>h'.shape.elim (λb=>.eq (a.2.trans b.2.symm)) λb=>a0t (a.1.symm.trans b.1)) λa=>h'.shape.elim (λb=>a0t (b.1.symm.trans a.1)) λb=>
  i1x a.2 λf args ts e hB hl=>i1x b.2 λg args' us e' hB' hl'=>a0m (l0t hB hB') λz0 z1=>.blk f args ts us e (z0▸e') hl (z1▸hl')
theorem s0z{S:Sto}{fs:List Cel}:(∀t:Tm,∀{d:Cel} {u:Tm},Head S fs d t→Head S fs d u→t=u)∧∀ts:List Tm,∀{cs:List Cel} {us:List Tm},DecL S fs cs ts→DecL S fs cs us→ts=us:=by
 refine Tm.both (λt ih d u h h'=>?_) (λ{cs us} h h'=>?_) (λt ts ih ihs cs us h h'=>?_)
 ·cases h.two h' with
  |eq e=>exact e
  |blk f args ts us e1 e2 l1 l2=>exact e1.trans ((congrArg (Tm.s f) (ih f ts e1 l1 l2)).trans e2.symm)
 ·cases h;cases h';rfl
 ·cases h with
  |cons h hl=>
   cases h' with
   |cons h2 hl2=>exact c0e h.deref λq d e1 hd=>c0e h2.deref λq' d' e2 hd'=>(ih hd (j0h e1 e2▸hd'))▸(ihs hl hl2)▸rfl
theorem Head.det{S:Sto}{fs:List Cel}{d:Cel}{t u:Tm}(h:Head S fs d t)(h':Head S fs d u):t=u:=s0z.1 t h h'
theorem DecL.det{S:Sto}{fs:List Cel}{cs:List Cel}{ts us:List Tm}(h:DecL S fs cs ts)(h':DecL S fs cs us):ts=us:=s0z.2 ts h h'
theorem DecL.length{S:Sto}{fs:List Cel}: ∀{cs:List Cel} {ts:List Tm},DecL S fs cs ts→cs.length=ts.length
 |cs,[],h=>by cases h;rfl
 |cs,t::ts,h=>by
  cases h with
  |cons _ hl=>simp[hl.length]
mutual
noncomputable def b0u(p:Int):Tm→Prop
 | .v k=>k=p
 | .s _ ts=>a0z p ts
 | .a _=>False
 | .i _=>False
noncomputable def a0z(p:Int):List Tm→Prop
 |[]=>False
 |t::ts=>b0u p t∨a0z p ts
end
theorem n0x{p k:Int}:b0u p (.v k)=(k=p):=rfl
theorem n0w{p:Int}{f:Int}{ts:List Tm}:b0u p (.s f ts)=a0z p ts:=rfl
theorem g1f{p:Int}:a0z p []=False:=rfl
theorem g1e{p:Int}{t:Tm}{ts:List Tm}:a0z p (t::ts)=(b0u p t∨a0z p ts):=rfl
mutual
theorem y0j{S:Sto}{fs:List Cel}{p:Int}: ∀(t:Tm) {c:Cel} {wk:List Cel},Dec S fs c t→¬b0u p t→∀{N:Nat} {T:Int→Bool} {k:Nat},k+t.size+N<4096→wk.length+t.size+N<100000→(∀(T':Int→Bool) (k':Nat),k'≤k+t.size→∃j,b0t S fs (0,p) j wk T' k')→∃j,b0t S fs (0,p) j (c::wk) T k
 |t,c,wk,h,hv,N,T,k,hk,hw,cont=>by
  refine c0e (h.deref) λq d e hd=>?_
  have hz:=b0c t
  cases hd with
  |con=>refine a0k (cont T k (by exact LA [_,_] [] 1060864 rfl)) λj hj=>?_;exact⟨_,.leaf e (by exact nofun) rfl hj⟩
  |int=>refine a0k (cont T k (by exact LA [_,_] [] 1060864 rfl)) λj hj=>?_;exact⟨_,.leaf e (by exact nofun) rfl hj⟩
  |var h0 hh=>
   refine a0k (cont T k (by exact LA [_,_] [] 1060864 rfl)) λj hj=>?_
   exact⟨_,.leaf e (by simpa[n0x,n0w]using hv) rfl hj⟩
  | @blk c' f args ts hB hl=>
   have hne:d≠(0,p):=by rintro rfl;have:=hB.tag;simp at this
   have hlen:=hl.length
   have hls: ∀l:List Tm,l.length≤Tm.sizeL l:=λl=>by
    induction l with
    |nil=>exact Nat.le_refl _
    |cons t l ih=>have:=b0c t;simp only[f0z,f0y,List.length_cons];exact LA [_,_,_] [] 1268466278935373578248 rfl ih this
   have hls':=hls ts
   simp only[e0g,e0d,e0e,e0f]at hk hw cont
   cases hT:T d.2 with
   |true=>refine a0k (cont T k (by exact LA [_,_] [] 7562342400 rfl)) λj hj=>?_;exact⟨_,.seen e hne hB.comp hT hj⟩
   |false=>
    refine a0k (t0v ts (wk:=wk) hl (by simpa[n0x,n0w]using hv) (N:=N) (T:=λx=>T x||decide (x=d.2)) (k:=k+1) (by exact LA [_,_,_] [] 5444977438460703209439601221101525807144 rfl hk) (by exact LA [_,_,_] [] 6805649085281389243331198454955573129256 rfl hw) λT' k' hk'=>cont T' k' (by exact LA [_,_,_] [] 8351812919044182769672 rfl hk')) λj hj=>?_
    exact⟨_,.push e hne hB hT (by exact LA [_,_,_] [] 5192741293553824459363179911589928 rfl hk) (by exact LA [_,_,_,_,_] [] 8979467977772200626659138976334770730291159766544424 rfl hw hlen hls') hj⟩
theorem t0v{S:Sto}{fs:List Cel}{p:Int}: ∀(ts:List Tm) {cs:List Cel} {wk:List Cel},DecL S fs cs ts→¬a0z p ts→∀{N:Nat} {T:Int→Bool} {k:Nat},k+Tm.sizeL ts+N<4096→wk.length+Tm.sizeL ts+N<100000→(∀(T':Int→Bool) (k':Nat),k'≤k+Tm.sizeL ts→∃j,b0t S fs (0,p) j wk T' k')→∃j,b0t S fs (0,p) j (cs++wk) T k
 |[],cs,wk,h,hv,N,T,k,hk,hw,cont=>by cases h;exact cont T k (by simp)
 |t::ts,cs,wk,h,hv,N,T,k,hk,hw,cont=>by
  cases h with
  | @cons c cs' _ _ h hl=>
   simp only[g1f,g1e,not_or]at hv
   simp only[f0z,f0y]at hk hw cont
   have hlen:=hl.length
   have hls: ∀l:List Tm,l.length≤Tm.sizeL l:=λl=>by
    induction l with
    |nil=>exact Nat.le_refl _
    |cons t l ih=>have:=b0c t;simp only[f0z,f0y,List.length_cons];exact LA [_,_,_] [] 1268466278935373578248 rfl ih this
   have hls':=hls ts
   refine y0j t h hv.1 (N:=N) (by exact LA [_,_,_,_] [] 5317362039195598178296260893128142888 rfl hk) (by simp;exact LA [_,_,_,_,_,_] [] 8034692285122530156676865107443747468929768760835998474448936 rfl hw hlen hls') λT' k' hk'=>?_
   exact t0v ts hl hv.2 (N:=N) (by exact LA [_,_,_,_,_] [] 5846501440021240775999395377541622757709050163240 rfl hk hk') (by exact LA [_,_,_,_] [] 6805649086588653924816560026176761245736 rfl hw) λT'' k'' hk''=>cont T'' k'' (by exact LA [_,_,_,_,_] [] 5390456824382954908695460708360 rfl hk' hk'')
end
theorem d0g{S:Sto}{fs:List Cel}{d e:Cel}{f g:Int}{as bs':List Cel}{ts us:List Tm}(h:IsBlk S fs d f as)(hl:DecL S fs as ts)(h':IsBlk S fs e g bs')(hl':DecL S fs bs' us)(he:d.2=e.2):d=e:=by
 have fun_no: ∀{z:Int} {t:Tm},¬Dec S fs (6,z) t:=λ{z t} q=>by
  refine c0e (q.deref) λn d' e1 hd'=>?_
  have e2:a0i S 1 (6,z)=some (6,z):=h0a (by exact nofun) (by exact nofun)
  have:=j0h e1 e2
  subst this
  cases hd' with
  |blk hB _=>have:=hB.tag;simp at this
 have mixed: ∀{d e:Cel} {f g:Int} {as bs':List Cel} {ts:List Tm},IsBlk S fs d f as→DecL S fs as ts→IsBlk S fs e g bs'→d.2=e.2→d.1=3→e.1=2→False:=by
  intro d e f g as bs' ts h hl h' he h3 h2
  rcases h.k with⟨_,_,hlen⟩|⟨q,_⟩
  ·rcases h'.k with⟨q,_⟩|⟨_,hF,_⟩
   ·exact LA [] [_] 11375690379497640 rfl h2 q
   ·obtain _|⟨a,as⟩:=as
    ·trivial
    ·have:=h.args 0 a rfl
     have eb:bs d=d.2:=by unfold bs;rw[if_pos h3]
     rw[eb,Nat.add_zero,he,hF]at this
     cases this
     cases hl with
     |cons ha _=>exact fun_no ha
  ·exact LA [] [_] 11340506008457384 rfl h3 q
 have t1:=h.tag
 have t2:=h'.tag
 obtain⟨d1,d2⟩:=d
 obtain⟨e1,e2⟩:=e
 simp only at he t1 t2
 subst he
 rcases t1 with rfl|rfl<;>rcases t2 with rfl|rfl
 ·rfl
 ·exact(mixed h' hl' h rfl rfl rfl).elim
 ·exact(mixed h hl h' rfl rfl rfl).elim
 ·rfl
mutual
noncomputable def grT:Tm→Bool
 | .v _=>false
 | .s _ ts=>grL ts
 | .a _=>true
 | .i _=>true
noncomputable def grL:List Tm→Bool
 |[]=>true
 |t::ts=>grT t&&grL ts
end
theorem e1f{n:Int}:grT (Tm.v n)=false:=rfl
theorem e1c{n:Int}:grT (Tm.a n)=true:=rfl
theorem e1d{n:Int}:grT (Tm.i n)=true:=rfl
theorem e1e{f:Int}{ts:List Tm}:grT (.s f ts)=grL ts:=rfl
theorem i1v:grL []=true:=rfl
theorem i1u{t:Tm}{ts:List Tm}:grL (t::ts)=(grT t&&grL ts):=rfl
theorem b0i: ∀l:List Tm,l.length≤Tm.sizeL l
 |[]=>by exact Nat.le_refl _
 |t::l=>by have:=b0i l;have:=b0c t;simp only[f0z,f0y,List.length_cons];exact LA [_,_,_] [] 1268466278935373578248 rfl (by assumption) this
noncomputable def h0i(S:Sto)(fs:List Cel)(P:Tm→Prop)(x:Int):Prop:=∀d f as ts,d.2=x→IsBlk S fs d f as→DecL S fs as ts→P (.s f ts)
mutual
theorem r0p{S:Sto}{fs:List Cel}{b:Bool}: ∀(t:Tm) {c:Cel} {wk:List Cel},Dec S fs c t→grT t=true→∀{T:Int→Bool} {k:Nat},k+t.size<4096→wk.length+t.size<100000→(∀(T':Int→Bool) (k':Nat),k'≤k+t.size→(∀x,T' x=true→T x=true∨h0i S fs (λu=>grT u=true) x)→∃j,c0q S fs j wk T' k' b)→∃j,c0q S fs j (c::wk) T k b
 |t,c,wk,h,hv,T,k,hk,hw,cont=>by
  refine c0e (h.deref) λq d e hd=>?_
  have hz:=b0c t
  cases hd with
  |con=>refine a0k (cont T k (by exact LA [_,_] [] 1060864 rfl) λx hx=>.inl hx) λj hj=>?_;exact⟨_,.leaf e rfl rfl hj⟩
  |int=>refine a0k (cont T k (by exact LA [_,_] [] 1060864 rfl) λx hx=>.inl hx) λj hj=>?_;exact⟨_,.leaf e rfl rfl hj⟩
  |var h0 hh=>simp[e1f,e1c,e1d,e1e]at hv
  | @blk c' f args ts hB hl=>
   have hnv:(d.1==0||d.1==1)=false:=(c0d hB).2
   have hlen:=hl.length
   have hls':=b0i ts
   simp only[e0g,e0d,e0e,e0f]at hk hw cont
   cases hT:T d.2 with
   |true=>refine a0k (cont T k (by exact LA [_,_] [] 7562342400 rfl) λx hx=>.inl hx) λj hj=>?_;exact⟨_,.seen e hnv hB.comp hT hj⟩
   |false=>
    have key:h0i S fs (λu=>grT u=true) d.2:=λd' f' as' ts' e1 hB' hl'=>by
     have:=d0g hB' hl' hB hl e1
     subst this
     have:=Head.det (.blk hB' hl') (.blk hB hl)
     rw[this];exact hv
    refine a0k (t0g ts (wk:=wk) hl (by simpa[e1f,e1c,e1d,e1e]using hv) (T:=λx=>T x||decide (x=d.2)) (k:=k+1) (by exact LA [_,_] [] 5192734122635630141240698296348712 rfl hk) (by exact LA [_,_] [] 6490372737873597902553258402000936 rfl hw) λT' k' hk' hx'=>cont T' k' (by exact LA [_,_,_] [] 8351812919044182769672 rfl hk') λx hx=>by
     rcases hx' x hx with q|q
     ·simp only[Bool.or_eq_true,decide_eq_true_eq]at q
      rcases q with q|q
      ·exact .inl q
      ·subst q;exact .inr key
     ·exact .inr q) λj hj=>?_
    exact⟨_,.push e hnv hB hT (by exact LA [_,_] [] 5071036419486156698602033917992 rfl hk) (by exact LA [_,_,_,_] [] 8563487985352177078331359967483991468640579624 rfl hw hlen hls') hj⟩
theorem t0g{S:Sto}{fs:List Cel}{b:Bool}: ∀(ts:List Tm) {cs:List Cel} {wk:List Cel},DecL S fs cs ts→grL ts=true→∀{T:Int→Bool} {k:Nat},k+Tm.sizeL ts<4096→wk.length+Tm.sizeL ts<100000→(∀(T':Int→Bool) (k':Nat),k'≤k+Tm.sizeL ts→(∀x,T' x=true→T x=true∨h0i S fs (λu=>grT u=true) x)→∃j,c0q S fs j wk T' k' b)→∃j,c0q S fs j (cs++wk) T k b
 |[],cs,wk,h,hv,T,k,hk,hw,cont=>by cases h;exact cont T k (by simp) λx hx=>.inl hx
 |t::ts,cs,wk,h,hv,T,k,hk,hw,cont=>by
  cases h with
  | @cons c cs' _ _ h hl=>
   simp only[i1v,i1u,Bool.and_eq_true]at hv
   simp only[f0z,f0y]at hk hw cont
   have hlen:=hl.length
   have hls':=b0i ts
   refine r0p t h hv.1 (by exact LA [_,_,_] [] 5071029165931239010821616971816 rfl hk) (by simp;exact LA [_,_,_,_,_] [] 7482890302396716396740936397399651986412064707981352 rfl hw hlen hls') λT' k' hk' hx'=>?_
   refine t0g ts hl hv.2 (by exact LA [_,_,_,_] [] 5444977525954127214346094952129757196328 rfl hk hk') (by exact LA [_,_,_] [] 6490372739082523722167882207997992 rfl hw) λT'' k'' hk'' hx''=>cont T'' k'' (by exact LA [_,_,_,_,_] [] 5390456824382954908695460708360 rfl hk' hk'') λx hx=>?_
   rcases hx'' x hx with q|q
   ·exact hx' x q
   ·exact .inr q
end
mutual
theorem t0f{S:Sto}{fs:List Cel}: ∀(t:Tm) {c:Cel} {wk:List Cel},Dec S fs c t→grT t=false→∀{T:Int→Bool} {k:Nat},k+t.size<4096→wk.length+t.size<100000→(∀x,T x=true→h0i S fs (λu=>grT u=true∨t.size<u.size) x)→∃j,c0q S fs j (c::wk) T k false
 |t,c,wk,h,hv,T,k,hk,hw,inv=>by
  refine c0e (h.deref) λq d e hd=>?_
  cases hd with
  |con=>simp[e1f,e1c,e1d,e1e]at hv
  |int=>simp[e1f,e1c,e1d,e1e]at hv
  |var h0 hh=>exact⟨1,.var e rfl⟩
  | @blk c' f args ts hB hl=>
   have hnv:(d.1==0||d.1==1)=false:=(c0d hB).2
   have hlen:=hl.length
   have hls':=b0i ts
   cases hT:T d.2 with
   |true=>
    rcases inv _ hT d f args ts rfl hB hl with h|h
    ·rw[h]at hv;(exact a0t hv.symm)
    ·omega
   |false=>
    simp only[e0g,e0d,e0e,e0f]at hk hw inv
    refine a0k (p0p ts (wk:=wk) hl (by simpa[e1f,e1c,e1d,e1e]using hv) (T:=λx=>T x||decide (x=d.2)) (k:=k+1) (by exact LA [_,_] [] 5192734122635630141240698296348712 rfl hk) (by exact LA [_,_] [] 6490372737873597902553258402000936 rfl hw) λx hx=>by
     simp only[Bool.or_eq_true,decide_eq_true_eq]at hx
     rcases hx with hx|hx
     ·intro d' f' as' ts' e1 hB' hl'
      rcases inv x hx d' f' as' ts' e1 hB' hl' with h|h
      ·exact .inl h
      ·exact .inr (by exact LA [_,_] [] 1100626276392 rfl h)
     ·subst hx
      intro d' f' as' ts' e1 hB' hl'
      have:=d0g hB' hl' hB hl e1
      subst this
      have:=Head.det (.blk hB' hl') (.blk hB hl)
      rw[this]
      exact .inr (by simp only[e0g,e0d,e0e,e0f];exact LA [_] [] 7352321 rfl)) λj hj=>?_
    exact⟨_,.push e hnv hB hT (by exact LA [_,_] [] 5071036419486156698602033917992 rfl hk) (by exact LA [_,_,_,_] [] 8563487985352177078331359967483991468640579624 rfl hw hlen hls') hj⟩
theorem p0p{S:Sto}{fs:List Cel}: ∀(ts:List Tm) {cs:List Cel} {wk:List Cel},DecL S fs cs ts→grL ts=false→∀{T:Int→Bool} {k:Nat},k+Tm.sizeL ts<4096→wk.length+Tm.sizeL ts<100000→(∀x,T x=true→h0i S fs (λu=>grT u=true∨Tm.sizeL ts<u.size) x)→∃j,c0q S fs j (cs++wk) T k false
 |[],cs,wk,h,hv,T,k,hk,hw,inv=>by simp[i1v,i1u]at hv
 |t::ts,cs,wk,h,hv,T,k,hk,hw,inv=>by
  cases h with
  | @cons c cs' _ _ h hl=>
   simp only[f0z,f0y]at hk hw inv
   have hlen:=hl.length
   have hls':=b0i ts
   cases ht:grT t with
   |false=>
    refine t0f t h ht (by exact LA [_,_,_] [] 5071029165931239010821616971816 rfl hk) (by simp;exact LA [_,_,_,_,_] [] 7482890302396716396740936397399651986412064707981352 rfl hw hlen hls') λx hx d' f' as' ts' e1 hB' hl'=>?_
    rcases inv x hx d' f' as' ts' e1 hB' hl' with h|h
    ·exact .inl h
    ·exact .inr (by exact LA [_,_,_] [] 2200165167144 rfl h)
   |true=>
    simp only[i1v,i1u,ht,Bool.true_and]at hv
    refine r0p t h ht (by exact LA [_,_,_] [] 5071029165931239010821616971816 rfl hk) (by simp;exact LA [_,_,_,_,_] [] 7482890302396716396740936397399651986412064707981352 rfl hw hlen hls') λT' k' hk' hx'=>?_
    refine p0p ts hl hv (by exact LA [_,_,_,_] [] 5444977525954127214346094952129757196328 rfl hk hk') (by exact LA [_,_,_] [] 6490372739082523722167882207997992 rfl hw) λx hx=>?_
    rcases hx' x hx with q|q
    ·intro d' f' as' ts' e1 hB' hl'
     rcases inv x q d' f' as' ts' e1 hB' hl' with h|h
     ·exact .inl h
     ·exact .inr (by exact LA [_,_,_] [] 2234524905512 rfl h)
    ·intro d' f' as' ts' e1 hB' hl'
     exact .inl (q d' f' as' ts' e1 hB' hl')
end
theorem j1b{S:Sto}{fs:List Cel}{c:Cel}{t:Tm}(h:Dec S fs c t)(hz:t.size<4000): ∃j,c0q S fs j [c] (λ_=>false) 0 (grT t):=by
 cases ht:grT t with
 |true=>exact r0p t h ht (by exact LA [_] [] 4836109336550202216382504 rfl hz) (by simp;exact LA [_] [] 6044630647349900600508456 rfl hz) λT' k' _ _=>⟨0,.nil⟩
 |false=>exact t0f t h ht (by exact LA [_] [] 4836109336550202216382504 rfl hz) (by simp;exact LA [_] [] 6044630647349900600508456 rfl hz) λx hx=>by(exact a0t hx)
noncomputable def j0c(A:List Int)(t:Tm):Prop:=∀p,b0u p t→p∈A
noncomputable def c1d(A:List Int)(ts:List Tm):Prop:=∀p,a0z p ts→p∈A
mutual
theorem p0n{A:List Int}: ∀(t:Tm) {p:Int},p∈A→p∈a0r A t
 | .v k,p,h=>by simp only[k0e,k0d,k0b,k0c];split;exact h;exact List.mem_append_left _ h
 | .s _ ts,p,h=>by simp only[k0e,k0d,k0b,k0c];exact i0f ts h
 | .a _,p,h=>h
 | .i _,p,h=>h
theorem i0f{A:List Int}: ∀(ts:List Tm) {p:Int},p∈A→p∈a0g A ts
 |[],p,h=>h
 |t::ts,p,h=>by simp only[r0l,r0k];exact i0f ts (p0n t h)
end
mutual
theorem f0e{A:List Int}: ∀(t:Tm),j0c (a0r A t) t
 | .v k,p,h=>by
  simp only[n0x,n0w]at h;subst h
  simp only[k0e,k0d,k0b,k0c]
  split
  ·rename_i q;simpa using q
  ·exact List.mem_append_right _ (.head _)
 | .s _ ts,p,h=>by simp only[k0e,k0d,k0b,k0c];exact l0j ts p h
 | .a _,p,h=>h.elim
 | .i _,p,h=>h.elim
theorem l0j{A:List Int}: ∀(ts:List Tm),c1d (a0g A ts) ts
 |[],p,h=>h.elim
 |t::ts,p,h=>by
  simp only[r0l,r0k]
  rcases h with h|h
  ·exact i0f ts (f0e t p h)
  ·exact l0j ts p h
end
mutual
theorem j0k{A:List Int}: ∀(t:Tm),j0c A t→a0r A t=A
 | .v k,h=>by simp only[k0e,k0d,k0b,k0c];rw[if_pos (by simpa using h k rfl)]
 | .s _ ts,h=>by simp only[k0e,k0d,k0b,k0c];exact m0q ts h
 | .a _,h=>rfl
 | .i _,h=>rfl
theorem m0q{A:List Int}: ∀(ts:List Tm),c1d A ts→a0g A ts=A
 |[],h=>rfl
 |t::ts,h=>by
  simp only[r0l,r0k]
  rw[j0k t λp hp=>h p (.inl hp)]
  exact m0q ts λp hp=>h p (.inr hp)
end
mutual
theorem d1b{S:Sto}{fs:List Cel}{R:List Int}: ∀(t:Tm) {c:Cel} {wk:List Cel},Dec S fs c t→∀{T:Int→Bool} {k:Nat} {A:List Int},k+t.size<4096→A.length+t.size<4096→wk.length+t.size<100000→(∀x,T x=true→h0i S fs (λu=>j0c A u∨t.size<u.size) x)→
  (∀(T':Int→Bool) (k':Nat),k'≤k+t.size→(∀x,T' x=true→T x=true∨h0i S fs (λu=>j0c (a0r A t) u) x)→∃j,b0z S fs R j wk T' k' (a0r A t))→∃j,b0z S fs R j (c::wk) T k A
 |t,c,wk,h,T,k,A,hk,hA,hw,inv,cont=>by
  refine c0e (h.deref) λq d e hd=>?_
  have hz:=b0c t
  cases hd with
  |con=>refine a0k (cont T k (by exact LA [_,_] [] 1060864 rfl) λx hx=>.inl hx) λj hj=>?_;exact⟨_,.leaf e rfl rfl hj⟩
  |int=>refine a0k (cont T k (by exact LA [_,_] [] 1060864 rfl) λx hx=>.inl hx) λj hj=>?_;exact⟨_,.leaf e rfl rfl hj⟩
  | @var p h0 hh=>
   refine a0k (cont T k (by exact LA [_,_] [] 1060864 rfl) λx hx=>.inl hx) λj hj=>?_
   simp only[k0e,k0d,k0b,k0c]at hj
   cases hc:A.contains p with
   |true=>rw[if_pos hc]at hj;exact⟨_,.old e hc hj⟩
   |false=>rw[if_neg (by rw[hc];trivial)]at hj;exact⟨_,.new e hc (by omega) hj⟩
  | @blk c' f args ts hB hl=>
   have hnv:(d.1==0)=false:=by have:=hB.tag;simp;exact LA [] [_] 226163008678316348648 rfl this
   have hlen:=hl.length
   have hls':=b0i ts
   cases hT:T d.2 with
   |true=>
    rcases inv _ hT d f args ts rfl hB hl with h|h
    ·refine a0k (cont T k (by exact LA [_,_] [] 1060864 rfl) λx hx=>.inl hx) λj hj=>?_
     rw[j0k _ h]at hj
     exact⟨_,.seen e hnv hB.comp hT hj⟩
    ·omega
   |false=>
    simp only[e0g,e0d,e0e,e0f]at hk hA hw inv cont
    have key: ∀B,j0c B (.s f ts)→h0i S fs (λu=>j0c B u) d.2:=λB hB0 d' f' as' ts' e1 hB' hl'=>by
     have:=d0g hB' hl' hB hl e1
     subst this
     have:=Head.det (.blk hB' hl') (.blk hB hl)
     rw[this];exact hB0
    refine a0k (z0l ts (wk:=wk) hl (R:=R) (T:=λx=>T x||decide (x=d.2)) (k:=k+1) (A:=A) (by exact LA [_,_] [] 5192734122635630141240698296348712 rfl hk) (by exact LA [_,_] [] 5071029165931239010826985680936 rfl hA) (by exact LA [_,_] [] 6490372737873597902553258402000936 rfl hw) (λx hx=>by
     simp only[Bool.or_eq_true,decide_eq_true_eq]at hx
     rcases hx with hx|hx
     ·intro d' f' as' ts' e1 hB' hl'
      rcases inv x hx d' f' as' ts' e1 hB' hl' with h|h
      ·exact .inl h
      ·exact .inr (by exact LA [_,_] [] 1100626276392 rfl h)
     ·subst hx
      intro d' f' as' ts' e1 hB' hl'
      have:=d0g hB' hl' hB hl e1
      subst this
      have:=Head.det (.blk hB' hl') (.blk hB hl)
      rw[this]
      exact .inr (by simp only[e0g,e0d,e0e,e0f];exact LA [_] [] 7352321 rfl)) λT' k' hk' hx'=>cont T' k' (by exact LA [_,_,_] [] 8351812919044182769672 rfl hk') λx hx=>by
     rcases hx' x hx with q|q
     ·simp only[Bool.or_eq_true,decide_eq_true_eq]at q
      rcases q with q|q
      ·exact .inl q
      ·subst q;exact .inr (key _ (f0e (A:=A) (.s f ts)))
     ·exact .inr q) λj hj=>?_
    exact⟨_,.push e hnv hB hT (by exact LA [_,_] [] 5071036419486156698602033917992 rfl hk) (by exact LA [_,_,_,_] [] 8563487985352177078331359967483991468640579624 rfl hw hlen hls') hj⟩
theorem z0l{S:Sto}{fs:List Cel}{R:List Int}: ∀(ts:List Tm) {cs:List Cel} {wk:List Cel},DecL S fs cs ts→∀{T:Int→Bool} {k:Nat} {A:List Int},k+Tm.sizeL ts<4096→A.length+Tm.sizeL ts<4096→wk.length+Tm.sizeL ts<100000→(∀x,T x=true→h0i S fs (λu=>j0c A u∨Tm.sizeL ts<u.size) x)→
  (∀(T':Int→Bool) (k':Nat),k'≤k+Tm.sizeL ts→(∀x,T' x=true→T x=true∨h0i S fs (λu=>j0c (a0g A ts) u) x)→∃j,b0z S fs R j wk T' k' (a0g A ts))→∃j,b0z S fs R j (cs++wk) T k A
 |[],cs,wk,h,T,k,A,hk,hA,hw,inv,cont=>by cases h;exact cont T k (by simp) λx hx=>.inl hx
 |t::ts,cs,wk,h,T,k,A,hk,hA,hw,inv,cont=>by
  cases h with
  | @cons c cs' _ _ h hl=>
   simp only[f0z,f0y]at hk hA hw inv cont
   simp only[r0l,r0k]at cont
   have hlen:=hl.length
   have hls':=b0i ts
   have hfl:=i0g A t
   refine d1b t h (by exact LA [_,_,_] [] 5071029165931239010821616971816 rfl hk) (by exact LA [_,_,_] [] 5071029165931239010821616971816 rfl hA) (by simp;exact LA [_,_,_,_,_] [] 7482890302396716396740936397399651986412064707981352 rfl hw hlen hls') (λx hx d' f' as' ts' e1 hB' hl'=>?_) λT' k' hk' hx'=>?_
   ·rcases inv x hx d' f' as' ts' e1 hB' hl' with h|h
    ·exact .inl h
    ·exact .inr (by exact LA [_,_,_] [] 2200165167144 rfl h)
   ·refine z0l ts hl (by exact LA [_,_,_,_] [] 5444977525954127214346094952129757196328 rfl hk hk') (by exact LA [_,_,_,_] [] 5444977525954127214346094952129757196328 rfl hA hfl) (by exact LA [_,_,_] [] 6490372739082523722167882207997992 rfl hw) (λx hx d' f' as' ts' e1 hB' hl'=>?_) λT'' k'' hk'' hx''=>cont T'' k'' (by exact LA [_,_,_,_,_] [] 5390456824382954908695460708360 rfl hk' hk'') λx hx=>?_
    ·rcases hx' x hx with q|q
     ·rcases inv x q d' f' as' ts' e1 hB' hl' with h|h
      ·exact .inl λp hp=>p0n t (h p hp)
      ·exact .inr (by exact LA [_,_,_] [] 2234524905512 rfl h)
     ·exact .inl (q d' f' as' ts' e1 hB' hl')
    ·rcases hx'' x hx with q|q
     ·rcases hx' x q with q|q
      ·exact .inl q
      ·exact .inr λd' f' as' ts' e1 hB' hl' p hp=>i0f ts (q d' f' as' ts' e1 hB' hl' p hp)
     ·exact .inr q
end
theorem o0o{S:Sto}{fs:List Cel}{c:Cel}{t:Tm}(h:Dec S fs c t)(hz:t.size<4000): ∃j,b0z S fs (a0r [] t) j [c] (λ_=>false) 0 []:=
 d1b t h (by exact LA [_] [] 4836109336550202216382504 rfl hz) (by simp;exact LA [_] [] 4722762838119765344296 rfl hz) (by simp;exact LA [_] [] 6044630647349900600508456 rfl hz) (λx hx=>by(exact a0t hx)) λT' k' _ _=>⟨0,.nil⟩
mutual
noncomputable def Tm.sub(g:Int→Tm):Tm→Tm
 | .v k=>g k
 | .a k=>.a k
 | .i k=>.i k
 | .s f ts=>.s f (Tm.subL g ts)
noncomputable def Tm.subL(g:Int→Tm):List Tm→List Tm
 |[]=>[]
 |t::ts=>t.sub g::Tm.subL g ts
end
theorem k0i{g:Int→Tm}{n:Int}:(Tm.v n).sub g=g n:=rfl
theorem k0f{g:Int→Tm}{n:Int}:(Tm.a n).sub g=.a n:=rfl
theorem k0g{g:Int→Tm}{n:Int}:(Tm.i n).sub g=.i n:=rfl
theorem k0h{g:Int→Tm}{f:Int}{ts:List Tm}:(Tm.s f ts).sub g=.s f (Tm.subL g ts):=rfl
theorem p0h{g:Int→Tm}:Tm.subL g []=[]:=rfl
theorem p0g{g:Int→Tm}{t:Tm}{ts:List Tm}:Tm.subL g (t::ts)=t.sub g::Tm.subL g ts:=rfl
noncomputable def Tm.ren(f:Int→Int)(t:Tm):Tm:=t.sub λk=>.v (f k)
noncomputable def Tm.renL(f:Int→Int)(ts:List Tm):List Tm:=Tm.subL (λk=>.v (f k)) ts
theorem d0r(g:Int→Tm): ∀ts:List Tm,Tm.subL g ts=ts.map (Tm.sub g)
 |[]=>rfl
 |t::ts=>by simp only[p0h,p0g,List.map_cons,d0r g ts]
theorem a0v(g:Int→Tm)(ts:List Tm):(Tm.subL g ts).length=ts.length:=by rw[d0r,List.length_map]
theorem c0f{p:Int}: ∀{ts:List Tm},a0z p ts↔∃t∈ts,b0u p t
 |[]=>by simp[g1f,g1e]
 |t::ts=>by simp only[g1f,g1e,c0f (ts:=ts),List.mem_cons,exists_eq_or_imp]
mutual
theorem o0m(g h:Int→Tm): ∀t:Tm,(t.sub g).sub h=t.sub λk=>(g k).sub h
 | .v k=>rfl
 | .a k=>rfl
 | .i k=>rfl
 | .s f ts=>by simp only[k0i,k0f,k0g,k0h];rw[e0c g h ts]
theorem e0c(g h:Int→Tm): ∀ts:List Tm,Tm.subL h (Tm.subL g ts)=Tm.subL (λk=>(g k).sub h) ts
 |[]=>rfl
 |t::ts=>by simp only[p0h,p0g];rw[o0m g h t,e0c g h ts]
end
mutual
theorem f0j{g h:Int→Tm}: ∀t:Tm,(∀p,b0u p t→g p=h p)→t.sub g=t.sub h
 | .v k,e=>e k rfl
 | .a k,_=>rfl
 | .i k,_=>rfl
 | .s f ts,e=>by simp only[k0i,k0f,k0g,k0h];rw[c0b ts e]
theorem c0b{g h:Int→Tm}: ∀ts:List Tm,(∀p,a0z p ts→g p=h p)→Tm.subL g ts=Tm.subL h ts
 |[],_=>rfl
 |t::ts,e=>by simp only[p0h,p0g];rw[f0j t λp hp=>e p (.inl hp),c0b ts λp hp=>e p (.inr hp)]
end
mutual
theorem v0r: ∀t:Tm,t.sub .v=t
 | .v k=>rfl
 | .a k=>rfl
 | .i k=>rfl
 | .s f ts=>by simp only[k0i,k0f,k0g,k0h];rw[u0g ts]
theorem u0g: ∀ts:List Tm,Tm.subL .v ts=ts
 |[]=>rfl
 |t::ts=>by simp only[p0h,p0g];rw[v0r t,u0g ts]
end
mutual
theorem h0b{g:Int→Tm}{q:Int}: ∀t:Tm,b0u q (t.sub g)↔∃p,b0u p t∧b0u q (g p)
 | .v k=>⟨λh=>⟨k,rfl,h⟩,λ⟨p,hp,h⟩=>by simp only[n0x,n0w]at hp;subst hp;exact h⟩
 | .a k=>⟨λh=>h.elim,λ⟨p,hp,h⟩=>hp.elim⟩
 | .i k=>⟨λh=>h.elim,λ⟨p,hp,h⟩=>hp.elim⟩
 | .s f ts=>by simp only[k0i,k0f,k0g,k0h,n0x,n0w];exact i0l ts
theorem i0l{g:Int→Tm}{q:Int}: ∀ts:List Tm,a0z q (Tm.subL g ts)↔∃p,a0z p ts∧b0u q (g p)
 |[]=>⟨λh=>h.elim,λ⟨p,hp,h⟩=>hp.elim⟩
 |t::ts=>by
  simp only[p0h,p0g,g1f,g1e,h0b t,i0l ts]
  constructor
  ·rintro (⟨p,a,b⟩|⟨p,a,b⟩)
   ·exact⟨p,.inl a,b⟩
   ·exact⟨p,.inr a,b⟩
  ·rintro ⟨p,a|a,b⟩
   ·exact .inl ⟨p,a,b⟩
   ·exact .inr ⟨p,a,b⟩
end
theorem k0t{f:Int→Int}{q:Int}(t:Tm):b0u q (t.ren f)↔∃p,b0u p t∧q=f p:=by
 unfold Tm.ren;rw[h0b];simp only[n0x,n0w,eq_comm]
theorem i0k{f:Int→Int}{q:Int}(ts:List Tm):a0z q (Tm.renL f ts)↔∃p,a0z p ts∧q=f p:=by
 unfold Tm.renL;rw[i0l];simp only[n0x,n0w,eq_comm]
mutual
theorem d0q{f:Int→Int}: ∀t:Tm,(t.ren f).size=t.size
 | .v k=>rfl
 | .a k=>rfl
 | .i k=>rfl
 | .s g ts=>by have:=c0o (f:=f) ts;unfold Tm.renL at this;simp only[Tm.ren,k0i,k0f,k0g,k0h,e0g,e0d,e0e,e0f,this]
theorem c0o{f:Int→Int}: ∀ts:List Tm,Tm.sizeL (Tm.renL f ts)=Tm.sizeL ts
 |[]=>rfl
 |t::ts=>by have:=c0o (f:=f) ts;have h:=d0q (f:=f) t;unfold Tm.renL at*;unfold Tm.ren at h;simp only[p0h,p0g,f0z,f0y,this,h]
end
mutual
theorem r0j{f:Int→Int}: ∀t:Tm,(t.ren f).dep=t.dep
 | .v k=>rfl
 | .a k=>rfl
 | .i k=>rfl
 | .s g ts=>by have:=n0u (f:=f) ts;unfold Tm.renL at this;simp only[Tm.ren,k0i,k0f,k0g,k0h,q0w,q0t,q0u,q0v,this]
theorem n0u{f:Int→Int}: ∀ts:List Tm,Tm.depL (Tm.renL f ts)=Tm.depL ts
 |[]=>rfl
 |t::ts=>by have:=n0u (f:=f) ts;have h:=r0j (f:=f) t;unfold Tm.renL at*;unfold Tm.ren at h;simp only[p0h,p0g,w0z,w0y,this,h]
end
theorem s0d(f g:Int→Int)(t:Tm):(t.ren f).ren g=t.ren λk=>g (f k):=o0m _ _ t
theorem y0y(f g:Int→Int)(t:List Tm):Tm.renL g (Tm.renL f t)=Tm.renL (λk=>g (f k)) t:=e0c _ _ t
theorem q0j{f g:Int→Int}(t:Tm)(h: ∀p,b0u p t→f p=g p):t.ren f=t.ren g:=f0j t λp hp=>by rw[h p hp]
theorem n0d{f g:Int→Int}(t:List Tm)(h: ∀p,a0z p t→f p=g p):Tm.renL f t=Tm.renL g t:=c0b t λp hp=>by rw[h p hp]
theorem Dec.sub{S S':Sto}{fs:List Cel}{g:Int→Tm}(H: ∀(p:Nat) (x:Cel),S.heap[p]?=some x→(S'.heap[p]?=some x∧(x=(0,(p:Int))→g p=.v p))∨(x=(0,(p:Int))∧∃v,S'.heap[p]?=some v∧v≠(0,(p:Int))∧Dec S' fs v (g p))):
  ∀{c:Cel} {t:Tm},Dec S fs c t→Dec S' fs c (t.sub g):=by
 intro c t h
 refine Dec.rec (motive_1:=λc t _=>Dec S' fs c (t.sub g)) (motive_2:=λargs ts _=>∀args':List Cel,args'.length=args.length→(∀(i:Nat) (x:Cel),args[i]?=some x→∃x',args'[i]?=some x'∧(x'=x∨∃p:Nat,x=(0,(p:Int))∧S.heap[p]?=some x∧Dec S' fs x' (g p)))→DecL S' fs args' (Tm.subL g ts)) ?_ ?_ ?_ ?_ ?_ ?_ ?_ h
 ·exact .con
 ·exact .int
 ·intro p h0 h
  have e:((p.toNat:Nat):Int)=p:=by exact LA [] [_] 4556495919208 rfl h0
  rcases H p.toNat _ h with⟨h1,h2⟩|⟨_,v,h1,h2,h3⟩
  ·rw[e]at h2
   simp only[k0i,k0f,k0g,k0h]
   rw[h2 rfl]
   exact .var h0 h1
  ·rw[e]at h2 h3
   exact .ref h0 h1 h2 h3
 ·intro p c t h0 h hne _ ih
  have e:((p.toNat:Nat):Int)=p:=by exact LA [] [_] 4556495919208 rfl h0
  rcases H p.toNat _ h with⟨h1,h2⟩|⟨h1,_⟩
  ·exact .ref h0 h1 hne ih
  ·rw[e]at h1;exact absurd h1 hne
 ·intro c f args ts hB hl ih
  have hlen:=hl.length
  refine .blk (args:=args.mapIdx λi x=>(S'.heap[(bs c).toNat+i]?).getD x) ⟨hB.p0,?_,?_⟩ (ih _ (by simp) ?_)
  ·rw[List.length_mapIdx]
   rcases hB.k with h|⟨h1,h2,h3⟩
   ·exact .inl h
   ·refine .inr ⟨h1,?_,h3⟩
    rcases H _ _ h2 with⟨h,_⟩|⟨h,_⟩
    ·exact h
    ·exact absurd h nofun
  ·intro i x hx
   rw[List.getElem?_mapIdx]at hx
   cases e:args[i]? with
   |none=>rw[e]at hx;(exact b0n hx)
   |some y=>
    rw[e]at hx
    simp only[Option.map_some,Option.some.injEq]at hx
    have:=hB.args i y e
    rcases H _ _ this with⟨h,_⟩|⟨_,v,h,_⟩
    ·rw[h]at hx⊢;exact congrArg some hx
    ·rw[h]at hx⊢;exact congrArg some hx
  ·intro i x hx
   rw[List.getElem?_mapIdx,hx]
   have:=hB.args i x hx
   rcases H _ _ this with⟨h,_⟩|⟨h1,v,h2,_,h3⟩
   ·exact⟨_,rfl,.inl (by rw[h];rfl)⟩
   ·refine⟨_,rfl,.inr ⟨(bs c).toNat+i,h1,this,?_⟩⟩
    rw[h2];exact h3
 ·intro args' hl _
  rw[List.length_nil,List.length_eq_zero_iff]at hl
  subst hl
  exact .nil
 ·intro c cs t ts hc hcs ih1 ih2 args' hl hx
  obtain _|⟨x',as⟩:=args'
  ·trivial
  ·simp only[p0h,p0g]
   refine .cons ?_ (ih2 as (by simpa using hl) λi x h=>by simpa using hx (i+1) x (by simpa using h))
   refine a0a (hx 0 c rfl) λy hy e=>?_
   simp at hy;subst hy
   rcases e with rfl|⟨p,rfl,hp,hD⟩
   ·exact ih1
   ·cases hc with
    |var _ _=>exact hD
    |ref _ h hne _=>
     rw[Int.toNat_natCast,hp]at h
     cases h;exact absurd rfl hne
    |blk hB _=>have:=hB.tag;simp at this
theorem Dec.ext{S S':Sto}{fs:List Cel}(H: ∀(p:Nat) (x:Cel),S.heap[p]?=some x→S'.heap[p]?=some x){c:Cel}{t:Tm}(h:Dec S fs c t):Dec S' fs c t:=by
 have:=h.sub (S':=S') (g:=.v) λp x hx=>.inl ⟨H p x hx,λ_=>rfl⟩
 rwa [v0r]at this
theorem Dec.app{S S':Sto}{fs:List Cel}{X:List Cel}(e:S'.heap=S.heap++X){c:Cel}{t:Tm}(h:Dec S fs c t):Dec S' fs c t:=
 h.ext λp x hx=>by rw[e,List.getElem?_append_left (List.getElem?_eq_some_iff.mp hx).1];exact hx
theorem Dec.fv{S:Sto}{fs:List Cel}{c:Cel}{t:Tm}(h:Dec S fs c t): ∀p,b0u p t→0≤p∧S.heap[p.toNat]?=some (0,p):=by
 refine Dec.rec (motive_1:=λc t _=>∀p,b0u p t→0≤p∧S.heap[p.toNat]?=some (0,p)) (motive_2:=λargs ts _=>∀p,a0z p ts→0≤p∧S.heap[p.toNat]?=some (0,p)) ?_ ?_ ?_ ?_ ?_ ?_ ?_ h
 ·exactλp hp=>hp.elim
 ·exactλp hp=>hp.elim
 ·intro p h0 h q hq;simp only[n0x,n0w]at hq;subst hq;exact⟨h0,h⟩
 ·exactλ_ _ _ _ ih=>ih
 ·exactλ_ _ ih=>ih
 ·exactλp hp=>hp.elim
 ·exactλ_ _ ih1 ih2 p hp=>hp.elim (ih1 p) (ih2 p)
theorem DecL.fv{S:Sto}{fs:List Cel}: ∀{cs:List Cel} {ts:List Tm},DecL S fs cs ts→∀p,a0z p ts→0≤p∧S.heap[p.toNat]?=some (0,p)
 |[],[],_=>λp hp=>hp.elim
 |[],_::_,h=>by(exact absurd h nofun)
 |_::_,[],h=>by(exact absurd h nofun)
 |c::cs,t::ts,h=>by
  cases h with
  |cons a b=>exactλp hp=>hp.elim (a.fv p) (b.fv p)
theorem DecL.iff{S:Sto}{fs:List Cel}: ∀{cs:List Cel} {ts:List Tm},DecL S fs cs ts↔cs.length=ts.length∧∀(i:Nat) (c:Cel) (t:Tm),cs[i]?=some c→ts[i]?=some t→Dec S fs c t
 |[],[]=>⟨λ_=>⟨rfl,λi c t h=>by trivial⟩,λ_=>.nil⟩
 |[],_::_=>⟨λh=>(by(exact absurd h nofun)),λh=>(by simp at h)⟩
 |_::_,[]=>⟨λh=>(by(exact absurd h nofun)),λh=>(by simp at h)⟩
 |c::cs,t::ts=>by
  constructor
  ·intro h
   cases h with
   |cons a b=>
    refine a0m (DecL.iff.mp b) λe q=>?_
    refine⟨by simp[e],λi x u hx hu=>?_⟩
    cases i with
    |zero=>simp at hx hu;subst hx hu;exact a
    |succ i=>exact q i x u (by simpa using hx) (by simpa using hu)
  ·intro z0;refine a0m z0 λe q=>?_;clear z0
   exact .cons (q 0 c t rfl rfl) (DecL.iff.mpr ⟨by simpa using e,λi x u hx hu=>q (i+1) x u (by simpa using hx) (by simpa using hu)⟩)
noncomputable def idx(L:List Int)(p:Int):Int:=(L.idxOf p:Nat)
noncomputable def num(L:List Int):b0k:=L.mapIdx λi p=>(p,(i:Int))
theorem k0w(L:List Int)(p:Int):num (L++[p])=num L++[(p,(L.length:Int))]:=by simp[num]
theorem h0t(L:List Int):(num L).length=L.length:=by simp[num]
theorem l0q(F:b0k)(k v x:Int):b0o (F++[(k,v)]) x=(b0o F x).or (if k=x then some v else none):=by
 simp only[b0o,List.find?_append]
 cases e:F.find? (λp=>decide (p.1=x))with
 |some y=>rfl
 |none=>
  simp only[Option.none_or,Option.map_none,Option.none_or,List.find?_cons,List.find?_nil]
  by_cases h:k=x<;>simp[h]
theorem l0a{α:Type}{P:List α→Prop}(h0:P [])(h1: ∀l a,P l→P (l++[a])): ∀l,P l:=λl=>by
 have: ∀n (l:List α),l.length=n→P l:=by
  intro n
  induction n with
  |zero=>intro l hl;rw[List.length_eq_zero_iff]at hl;subst hl;exact h0
  |succ n ih=>
   intro l hl
   rcases List.eq_nil_or_concat l with rfl|⟨l',a,rfl⟩
   ·exact h0
   ·rw[List.concat_eq_append]at hl⊢
    exact h1 _ _ (ih _ (by simpa using hl))
 exact this _ l rfl
theorem r0q{L r:List Int}{p:Int}(h:p∈L):idx (L++r) p=idx L p:=by simp only[idx];rw[List.idxOf_append,if_pos h]
theorem r0s{L:List Int}{p:Int}(h:p∉L):idx (L++[p]) p=L.length:=by simp only[idx];rw[List.idxOf_append,if_neg h];simp
theorem k0s(L:List Int)(p:Int):b0o (num L) p=if p∈L then some (idx L p)else none:=by
 induction L using l0a with
 |h0=>rfl
 |h1 L q ih=>
  rw[k0w,l0q,ih]
  by_cases h:p∈L
  ·rw[if_pos h,if_pos (List.mem_append_left _ h),r0q h];rfl
  ·rw[if_neg h]
   by_cases e:q=p
   ·subst e
    rw[if_pos rfl,if_pos (by exact List.mem_append_right _ (.head _)),r0s h];rfl
   ·rw[if_neg e,if_neg (by simp[h];exactλq=>e q.symm)];rfl
mutual
theorem p0l(L:List Int): ∀t:Tm,L<+:a0r L t
 | .v k=>by simp only[k0e,k0d,k0b,k0c];split;exact List.prefix_rfl;exact List.prefix_append _ _
 | .s _ ts=>by simp only[k0e,k0d,k0b,k0c];exact g0m L ts
 | .a _=>List.prefix_rfl
 | .i _=>List.prefix_rfl
theorem g0m(L:List Int): ∀ts:List Tm,L<+:a0g L ts
 |[]=>List.prefix_rfl
 |t::ts=>by simp only[r0l,r0k];exact(p0l L t).trans (g0m _ ts)
end
theorem e1r{L L':List Int}{p:Int}(h:L<+:L')(hp:p∈L):idx L' p=idx L p:=by
 obtain⟨r,rfl⟩:=h;exact r0q hp
theorem s0c{L L':List Int}(h:L<+:L'){t:Tm}(ht:j0c L t):t.ren (idx L')=t.ren (idx L):=q0j t λp hp=>e1r h (ht p hp)
theorem j0c.pre{L L':List Int}(h:L<+:L'){t:Tm}(ht:j0c L t):j0c L' t:=λp hp=>h.subset (ht p hp)
theorem l0p(F:k0o)(k x:Int)(v:Option Tm):x0p (q0g F k v) x=if k=x then some v else x0p F x:=by
 unfold q0g x0p
 by_cases h:F.any (λp=>p.1=k)=true
 ·rw[if_pos h]
  induction F with
  |nil=>simp at h
  |cons p F ih=>
   simp only[List.map_cons,List.find?_cons]
   by_cases e:p.1=k
   ·rw[if_pos e]
    by_cases e2:k=x
    ·subst e2;simp[e]
    ·have e3: ¬p.1=x:=λq=>e2 (e.symm.trans q)
     simp only[e3,decide_false,e,e2,if_false]
     by_cases h':F.any (λp=>p.1=k)=true
     ·have:=ih h';rw[if_neg e2]at this;exact this
     ·congr 1
      clear ih h
      induction F with
      |nil=>rfl
      |cons q F ih2=>
       simp only[List.any_cons,Bool.or_eq_true,decide_eq_true_eq,not_or]at h'
       simp only[List.map_cons,List.find?_cons,if_neg h'.1]
       split
       ·rfl
       ·exact ih2 h'.2
   ·rw[if_neg e]
    simp only[List.any_cons,e,decide_false,Bool.false_or]at h
    by_cases e2:p.1=x
    ·have: ¬k=x:=λq=>e (e2.trans q.symm)
     simp[e2,this]
    ·simp only[e2,decide_false]
     exact ih h
 ·rw[if_neg h,List.find?_append]
  have hn: ∀p∈F,¬p.1=k:=λp hp q=>h (List.any_eq_true.mpr ⟨p,hp,by exact decide_eq_true ‹_›⟩)
  by_cases e:k=x
  ·subst e
   have:F.find? (λp=>decide (p.1=k))=none:=by
    rw[List.find?_eq_none];intro p hp;simpa using hn p hp
   simp[this]
  ·simp[e]
theorem t0z(F:k0o)(k:Int)(v:Option Tm):(q0g F k v).length≤F.length+1:=by
 unfold q0g;split<;>simp
noncomputable def g1p(L:List Int)(o:Option Tm)(U:Tm):Prop:=∃u,o=some u∧j0c L U∧u=U.ren (idx L)
theorem g1p.pre{L L':List Int}{o:Option Tm}{U:Tm}(hp:L<+:L')(h:g1p L o U):g1p L' o U:=by
 refine a0q h λu a b c=>?_
 exact⟨u,a,b.pre hp,by rw[c,s0c hp b]⟩
theorem h0i.mono{S:Sto}{fs:List Cel}{P Q:Tm→Prop}{x:Int}(h:h0i S fs P x)(k: ∀U,P U→Q U):h0i S fs Q x:=λd f as ts h1 h2 h3=>k _ (h d f as ts h1 h2 h3)
noncomputable def j0x(S:Sto)(fs:List Cel)(L:List Int)(n:Nat)(K:k0o):Prop:=∀x o,x0p K x=some o→h0i S fs (λU=>g1p L o U∨n<U.size) x
noncomputable def l1j(S:Sto)(fs:List Cel)(L:List Int)(K K':k0o):Prop:=∀x o,x0p K' x=some o→x0p K x=some o∨h0i S fs (g1p L o) x
theorem j0x.mono{S:Sto}{fs:List Cel}{L L':List Int}{n n':Nat}{K:k0o}(h:j0x S fs L n K)(hp:L<+:L')(hn:n'≤n):j0x S fs L' n' K:=λx o e=>(h x o e).mono λU q=>q.elim (λq=>.inl (q.pre hp)) λq=>.inr (by exact LA [_,_,_] [] 2252969160507400 rfl hn q)
theorem j0x.new{S:Sto}{fs:List Cel}{L L':List Int}{n:Nat}{K K':k0o}(h:j0x S fs L n K)(hp:L<+:L')(hk:l1j S fs L' K K'):j0x S fs L' n K':=λx o e=>by
 rcases hk x o e with q|q
 ·exact h.mono hp (Nat.le_refl _) x o q
 ·exact q.mono λU q=>.inl q
mutual
theorem c1z{S:Sto}{fs:List Cel}{r:Tm}{A':b0k}: ∀(t:Tm) {c:Cel} {wk:List (Bool×Cel)},Dec S fs c t→∀{R:List Tm} {K:k0o} {L:List Int},K.length+2*t.size<10000→L.length+t.size<10000→wk.length+2*t.size<100000→R.length+t.size<100000→j0x S fs L t.size K→
  (∀K',K'.length≤K.length+2*t.size→l1j S fs (a0r L t) K K'→∃j,d0i S fs r A' j wk (R++[t.ren (idx (a0r L t))]) K' (num (a0r L t)))→∃j,d0i S fs r A' j ((false,c)::wk) R K (num L)
 |t,c,wk,h,R,K,L,hk,hL,hw,hR,inv,cont=>by
  refine c0e (h.deref) λq d e hd=>?_
  have hz:=b0c t
  cases hd with
  |con=>refine a0k (cont K (by exact LA [_,_] [] 1155543040 rfl) λx o h=>.inl h) λj hj=>?_;exact⟨_,.go e (.atom rfl (by exact LA [_,_] [] 6189701782888550011514138664 rfl hR) hj)⟩
  |int=>refine a0k (cont K (by exact LA [_,_] [] 1155543040 rfl) λx o h=>.inl h) λj hj=>?_;exact⟨_,.go e (.int rfl (by exact LA [_,_] [] 6189701782888550011514138664 rfl hR) hj)⟩
  | @var p h0 hh=>
   refine a0k (cont K (by exact LA [_,_] [] 1155543040 rfl) λx o h=>.inl h) λj hj=>?_
   simp only[k0e,k0d,k0b,k0c,Tm.ren,k0i,k0f,k0g,k0h]at hj
   cases hc:L.contains p with
   |true=>
    rw[if_pos hc]at hj
    exact⟨_,.go e (.varOld rfl (by rw[k0s,if_pos (by simpa using hc)]) (by exact LA [_,_] [] 6189701782888550011514138664 rfl hR) hj)⟩
   |false=>
    have hc':p∉L:=by simpa using hc
    rw[if_neg (by rw[hc];trivial),k0w,r0s hc']at hj
    have:=h0t L
    refine⟨_,.go e (.varNew rfl (by rw[k0s,if_neg hc']) (by rw[this];exact LA [_,_] [] 6189701782851395314588332072 rfl hL) (by exact LA [_,_] [] 6189701782888550011514138664 rfl hR) (by rw[this];exact hj))⟩
  | @blk c' f args ts hB hl=>
   have hC:=(c0d hB).1
   have hlen:=hl.length
   have hls':=b0i ts
   cases hK:x0p K d.2 with
   |some o=>
    rcases inv _ _ hK d f args ts rfl hB hl with⟨u,rfl,ha,hu⟩|h
    ·refine a0k (cont K (by exact LA [_,_] [] 1155543040 rfl) λx o h=>.inl h) λj hj=>?_
     rw[j0k _ ha,←hu]at hj
     exact⟨_,.go e (.known hC hK (by exact LA [_,_] [] 6189701782888550011514138664 rfl hR) hj)⟩
    ·omega
   |none=>
    simp only[e0g,e0d,e0e,e0f]at hk hL hw hR inv cont
    have key: ∀P:Tm→Prop,P (.s f ts)→h0i S fs P d.2:=λP hP d' f' as' ts' e1 hB' hl'=>by
     have:=d0g hB' hl' hB hl e1
     subst this
     have:=Head.det (.blk hB' hl') (.blk hB hl)
     rw[this];exact hP
    have kl:=t0z K d.2 none
    refine a0k (z0g ts (wk:=(true,d)::wk) hl (r:=r) (A':=A') (R:=R) (K:=q0g K d.2 none) (L:=L) (by exact LA [_,_,_] [] 5846008423702667160108638054522558308071403171880 rfl hk kl) (by exact LA [_,_] [] 5192298523239889842499129712848936 rfl hL) (by simp;exact LA [_,_] [] 6968984662088167806509231359204663868010536 rfl hw) (by exact LA [_,_] [] 6490372737873597902553258402000936 rfl hR) (λx o ex=>by
      rw[l0p]at ex
      split at ex
      ·rename_i q;subst q
       cases ex
       exact key _ (.inr (by simp only[e0g,e0d,e0e,e0f];exact LA [_] [] 7352321 rfl))
      ·exact(inv x o ex).mono λU q=>q.elim .inl λq=>.inr (by exact LA [_,_] [] 1100626276392 rfl q)) λK' hk' hx'=>by
     have kl':=t0z K' d.2 (some ((Tm.s f ts).ren (idx (a0r L (.s f ts)))))
     refine a0k (cont (q0g K' d.2 (some ((Tm.s f ts).ren (idx (a0r L (.s f ts)))))) (by exact LA [_,_,_,_,_] [] 10141370105792859081942519057488310340412637192 rfl kl hk' kl') λx o ex=>by
      rw[l0p]at ex
      split at ex
      ·rename_i q;subst q
       cases ex
       exact .inr (key _ ⟨_,rfl,f0e _,rfl⟩)
      ·rename_i hne
       rcases hx' x o ex with q|q
       ·rw[l0p,if_neg hne]at q;exact .inl q
       ·exact .inr q) λj hj=>?_
     refine⟨j+1,.build hB ?_ ?_ (by exact LA [_,_,_,_] [] 7662479672505512599130074823174105250026516807969419304 rfl hk kl hk') ?_⟩
     ·rw[Tm.renL,a0v];exact hlen.symm
     ·rw[Tm.renL,a0v];exact LA [_,_,_] [] 6805649085256191634649855497255677603880 rfl hR hls'
     ·exact hj) λj hj=>?_
    exact⟨_,.go e (.push hB hK (by exact LA [_,_] [] 6490372736655184693396406360092712 rfl hk) (by exact LA [_,_,_,_] [] 7307510059669726410007627773987324244232090169384 rfl hw hlen hls') hj)⟩
theorem z0g{S:Sto}{fs:List Cel}{r:Tm}{A':b0k}: ∀(ts:List Tm) {cs:List Cel} {wk:List (Bool×Cel)},DecL S fs cs ts→∀{R:List Tm} {K:k0o} {L:List Int},K.length+2*Tm.sizeL ts<10000→L.length+Tm.sizeL ts<10000→wk.length+2*Tm.sizeL ts<100000→R.length+Tm.sizeL ts<100000→j0x S fs L (Tm.sizeL ts) K→
  (∀K',K'.length≤K.length+2*Tm.sizeL ts→l1j S fs (a0g L ts) K K'→∃j,d0i S fs r A' j wk (R++Tm.renL (idx (a0g L ts)) ts) K' (num (a0g L ts)))→∃j,d0i S fs r A' j (cs.map (λx=>(false,x))++wk) R K (num L)
 |[],cs,wk,h,R,K,L,hk,hL,hw,hR,inv,cont=>by
  cases h
  have:=cont K (by exact LA [_,_] [] 1155543040 rfl) λx o h=>.inl h
  simpa[Tm.renL,p0h,p0g,r0l,r0k]using this
 |t::ts,cs,wk,h,R,K,L,hk,hL,hw,hR,inv,cont=>by
  cases h with
  | @cons c cs' _ _ h hl=>
   simp only[f0z,f0y]at hk hL hw hR inv cont
   simp only[r0l,r0k]at cont
   have hlen:=hl.length
   have hls':=b0i ts
   have hfl:=i0g L t
   have hsz:=b0c t
   refine c1z t h (by exact LA [_,_,_] [] 5444519616386465802361274477861989789736 rfl hk) (by exact LA [_,_,_] [] 5192298523239889842499124344139816 rfl hL) (by simp;exact LA [_,_,_,_,_] [] 7846379181832435599921484243724069893850760448288091025448 rfl hw hlen hls') (by exact LA [_,_,_] [] 6490372737873597902553253033291816 rfl hR) (inv.mono List.prefix_rfl (by exact LA [_,_] [] 1060864 rfl)) λK' hk' hx'=>?_
   refine z0g ts hl (by exact LA [_,_,_,_] [] 5986312627265370274450429512458911728194794773557288 rfl hk hk') (by exact LA [_,_,_,_] [] 5575188088515870682098739180385890434297896 rfl hL hfl) (by exact LA [_,_,_] [] 6805649085337870257623593929803177144360 rfl hw) (by simp;exact LA [_,_,_] [] 6968984663571531495844015868320364904853544 rfl hR hsz) ((inv.mono (n':=Tm.sizeL ts) List.prefix_rfl (by exact LA [_,_] [] 45056 rfl)).new (p0l L t) hx') λK'' hk'' hx''=>?_
   refine a0k (cont K'' (by exact LA [_,_,_,_,_] [] 5787960319948579759980633741566152146952 rfl hk' hk'') λx o ex=>by
    rcases hx'' x o ex with q|q
    ·rcases hx' x o q with q|q
     ·exact .inl q
     ·exact .inr (q.mono λU q=>q.pre (g0m _ ts))
    ·exact .inr q) λj hj=>?_
   refine⟨j,?_⟩
   have e:Tm.renL (idx (a0g (a0r L t) ts)) (t::ts)=t.ren (idx (a0r L t))::Tm.renL (idx (a0g (a0r L t) ts)) ts:=by
    rw[←s0c (g0m (a0r L t) ts) (f0e t)];rfl
   rw[e]at hj
   simpa using hj
end
theorem b1w{S:Sto}{fs:List Cel}{d:Cel}{t:Tm}{L:List Int}(h:Dec S fs d t)(hz:t.size<1000)(hL:L.length<1000): ∃j,d0i S fs (t.ren (idx (a0r L t))) (num (a0r L t)) j [(false,d)] [] [] (num L):=
 c1z t h (by simp;exact LA [_] [] 4951761743649370114260041768 rfl hz) (by exact LA [_,_] [] 174224627682456096114926202583803034435624 rfl hz hL) (by simp;exact LA [_] [] 6189701782934750389159165992 rfl hz) (by simp;exact LA [_] [] 6044630647349900597362728 rfl hz) (λx o e=>by trivial) λK' _ _=>⟨0,.nil (by rfl)⟩
structure Good (F B:b0k):Prop where
 fb: ∀a b,b0o F a=some b→b0o B b=some a
 bf: ∀a b,b0o B b=some a→b0o F a=some b
theorem Good.nil:Good [] []:=⟨λa b h=>by trivial,λa b h=>by trivial⟩
theorem f0t{F:b0k}{a b x:Int}(h:b0o F a=none):b0o (F++[(a,b)]) x=if a=x then some b else b0o F x:=by
 rw[l0q]
 by_cases e:a=x
 ·subst e;rw[h];rfl
 ·simp[e]
theorem Good.snoc{F B:b0k}{a b:Int}(g:Good F B)(ha:b0o F a=none)(hb:b0o B b=none):Good (F++[(a,b)]) (B++[(b,a)]):=by
 constructor
 ·intro x y h
  rw[f0t ha]at h
  rw[f0t hb]
  split at h
  ·rename_i e;cases h;rw[if_pos rfl,e]
  ·rename_i e
   have:=g.fb x y h
   rw[if_neg (λq=>by subst q;rw[hb]at this;(exact b0n this))];exact this
 ·intro x y h
  rw[f0t hb]at h
  rw[f0t ha]
  split at h
  ·rename_i e;cases h;rw[if_pos rfl,e]
  ·rename_i e
   have:=g.bf x y h
   rw[if_neg (λq=>by subst q;rw[ha]at this;(exact b0n this))];exact this
mutual
noncomputable def okT(F:b0k):Tm→Tm→Prop
 | .v a,.v b=>b0o F a=some b
 | .a x,.a y=>x=y
 | .i x,.i y=>x=y
 | .s f ts,.s g us=>f=g∧okL F ts us
 |_,_=>False
noncomputable def okL(F:b0k):List Tm→List Tm→Prop
 |[],[]=>True
 |t::ts,u::us=>okT F t u∧okL F ts us
 |_,_=>False
end
theorem y0l{F:b0k}: ∀{ts us:List Tm},okL F ts us→ts.length=us.length
 |[],[],_=>rfl
 |[],_::_,h=>h.elim
 |_::_,[],h=>h.elim
 |t::ts,u::us,h=>by simp[y0l h.2]
noncomputable def u0p(F F':b0k):Prop:=∀a b,b0o F a=some b→b0o F' a=some b
theorem u0p.refl(F:b0k):u0p F F:=λ_ _ h=>h
theorem u0p.trans{F G H:b0k}(a:u0p F G)(b:u0p G H):u0p F H:=λx y h=>b x y (a x y h)
theorem u0p.snoc{F:b0k}{a b:Int}:u0p F (F++[(a,b)]):=λx y h=>by rw[l0q,h];rfl
mutual
theorem k0y{F F':b0k}(h:u0p F F'): ∀t u:Tm,okT F t u→okT F' t u
 | .v a,.v b,e=>h a b e
 | .a x,.a y,e=>e
 | .i x,.i y,e=>e
 | .s f ts,.s g us,e=>⟨e.1,t0w h ts us e.2⟩
 | .v _,.a _,e=>e.elim
 | .v _,.i _,e=>e.elim
 | .v _,.s _ _,e=>e.elim
 | .a _,.v _,e=>e.elim
 | .a _,.i _,e=>e.elim
 | .a _,.s _ _,e=>e.elim
 | .i _,.v _,e=>e.elim
 | .i _,.a _,e=>e.elim
 | .i _,.s _ _,e=>e.elim
 | .s _ _,.v _,e=>e.elim
 | .s _ _,.a _,e=>e.elim
 | .s _ _,.i _,e=>e.elim
theorem t0w{F F':b0k}(h:u0p F F'): ∀ts us:List Tm,okL F ts us→okL F' ts us
 |[],[],e=>trivial
 |[],_::_,e=>e.elim
 |_::_,[],e=>e.elim
 |t::ts,u::us,e=>⟨k0y h t u e.1,t0w h ts us e.2⟩
end
theorem j0p{F B:b0k}{a b:Int}(g:Good F B)(h:b0o F a=some b):c0g F B a b=(true,F,B):=by
 have h2:=g.fb a b h
 simp[c0g,h,h2]
theorem j0o{F B:b0k}{a b:Int}(h:b0o F a=none)(h2:b0o B b=none):c0g F B a b=(true,F++[(a,b)],B++[(b,a)]):=by
 simp[c0g,h,h2,f0t h,f0t h2]
theorem v0i{F B:b0k}{a b:Int}(h0:0≤b)(g:Good F B)(h:b0o F a=none∧b0o B b≠none∨∃c,b0o F a=some c∧c≠b):(c0g F B a b).1=false:=by
 rcases h with⟨h1,h2⟩|⟨c,h1,h2⟩
 ·refine a0k (Option.ne_none_iff_exists'.mp h2) λx hx=>?_
  simp[c0g,h1,hx];exact LA [] [_,_,_] 84349364640493475944 rfl h0
 ·simp[c0g,h1,h2]
theorem m0y(F B:b0k)(a b:Int):b0o F a=some b∨(b0o F a=none∧b0o B b=none)∨(b0o F a=none∧b0o B b≠none∨∃c,b0o F a=some c∧c≠b):=by
 cases h:b0o F a with
 |none=>
  cases h2:b0o B b with
  |none=>exact .inr (.inl ⟨rfl,rfl⟩)
  |some x=>exact .inr (.inr (.inl ⟨rfl,by exact Option.some_ne_none _⟩))
 |some c=>
  by_cases e:c=b
  ·subst e;exact .inl rfl
  ·exact .inr (.inr (.inr ⟨c,rfl,e⟩))
mutual
theorem b1h{F B:b0k}(g:Good F B): ∀t u:Tm,okT F t u→a0n F B t u=(true,F,B)
 | .v a,.v b,e=>j0p g e
 | .a x,.a y,e=>congrArg (·,F,B) (decide_eq_true e)
 | .i x,.i y,e=>congrArg (·,F,B) (decide_eq_true e)
 | .s f ts,.s h us,e=>by
  have:=y0l e.2
  rw[mts,if_pos ⟨e.1,this⟩]
  exact m0a g ts us e.2
 | .v _,.a _,e=>e.elim
 | .v _,.i _,e=>e.elim
 | .v _,.s _ _,e=>e.elim
 | .a _,.v _,e=>e.elim
 | .a _,.i _,e=>e.elim
 | .a _,.s _ _,e=>e.elim
 | .i _,.v _,e=>e.elim
 | .i _,.a _,e=>e.elim
 | .i _,.s _ _,e=>e.elim
 | .s _ _,.v _,e=>e.elim
 | .s _ _,.a _,e=>e.elim
 | .s _ _,.i _,e=>e.elim
theorem m0a{F B:b0k}(g:Good F B): ∀ts us:List Tm,okL F ts us→b0p F B ts us=(true,F,B)
 |[],[],e=>rfl
 |[],_::_,e=>e.elim
 |_::_,[],e=>e.elim
 |t::ts,u::us,e=>by
  simp only[mlc,b1h g t u e.1,if_true]
  exact m0a g ts us e.2
end
noncomputable def o1l(F B F' B':b0k):Prop:=Good F' B'∧u0p F F'
mutual
theorem j0q{F B:b0k}(g:Good F B): ∀t u:Tm,(a0n F B t u).1=true→okT (a0n F B t u).2.1 t u∧Good (a0n F B t u).2.1 (a0n F B t u).2.2∧u0p F (a0n F B t u).2.1
 | .v a,.v b,e=>by
  simp only[mtv]at e⊢
  rcases m0y F B a b with h|⟨h1,h2⟩|h
  ·rw[j0p g h];exact⟨h,g,.refl _⟩
  ·rw[j0o h1 h2];exact⟨(f0t h1).trans (if_pos rfl),g.snoc h1 h2,.snoc⟩
  ·exfalso
   rcases h with⟨h1,h2⟩|⟨c,h1,h2⟩
   ·refine a0k (Option.ne_none_iff_exists'.mp h2) λx hx=>?_
    have hg:=g.bf x b hx
    simp[c0g,h1,hx]at e
    have:b0o F a≠none:=by rw[←e.2,hg];exact Option.some_ne_none _
    exact this h1
   ·simp[c0g,h1,h2]at e
 | .a x,.a y,e=>⟨(of_decide_eq_true e:x=y),g,.refl _⟩
 | .i x,.i y,e=>⟨(of_decide_eq_true e:x=y),g,.refl _⟩
 | .s f ts,.s h us,e=>by
  simp only[mts]at e⊢
  split at e
  ·rename_i q
   rw[if_pos q]
   have:=f0v g ts us e
   exact⟨⟨q.1,this.1⟩,this.2⟩
  ·exact a0t e
 | .v _,.a _,e=>a0t e
 | .v _,.i _,e=>a0t e
 | .v _,.s _ _,e=>a0t e
 | .a _,.v _,e=>a0t e
 | .a _,.i _,e=>a0t e
 | .a _,.s _ _,e=>a0t e
 | .i _,.v _,e=>a0t e
 | .i _,.a _,e=>a0t e
 | .i _,.s _ _,e=>a0t e
 | .s _ _,.v _,e=>a0t e
 | .s _ _,.a _,e=>a0t e
 | .s _ _,.i _,e=>a0t e
theorem f0v{F B:b0k}(g:Good F B): ∀ts us:List Tm,(b0p F B ts us).1=true→okL (b0p F B ts us).2.1 ts us∧Good (b0p F B ts us).2.1 (b0p F B ts us).2.2∧u0p F (b0p F B ts us).2.1
 |[],[],e=>⟨trivial,g,.refl _⟩
 |[],_::_,e=>a0t e
 |_::_,[],e=>a0t e
 |t::ts,u::us,e=>by
  simp only[mlc]at e⊢
  split at e
  ·rename_i q
   rw[if_pos q]
   refine b0l (j0q g t u q) λa1 a2 a3=>?_
   refine b0l (f0v a2 ts us e) λb1 b2 b3=>?_
   exact⟨⟨k0y b3 t u a1,b1⟩,b2,a3.trans b3⟩
  ·rename_i q;exact absurd e q
end
noncomputable def Inj(P:Int→Prop)(f:Int→Int):Prop:=∀a b,P a→P b→f a=f b→a=b
noncomputable def gF(f:Int→Int)(L:List Int):b0k:=L.map λa=>(a,f a)
noncomputable def gB(f:Int→Int)(L:List Int):b0k:=L.map λa=>(f a,a)
theorem e1n(f:Int→Int)(L:List Int)(a:Int):b0o (gF f L) a=if a∈L then some (f a)else none:=by
 induction L with
 |nil=>rfl
 |cons b L ih=>
  simp only[gF,b0o,List.map_cons,List.find?_cons]at ih⊢
  by_cases e:b=a
  ·subst e;simp
  ·simp only[e,decide_false]
   rw[ih]
   have:a≠b:=λq=>e q.symm
   simp[this]
theorem e1m{f:Int→Int}{P:Int→Prop}(hf:Inj P f){L:List Int}(hL: ∀a∈L,P a){a:Int}(ha:P a):b0o (gB f L) (f a)=if a∈L then some a else none:=by
 induction L with
 |nil=>rfl
 |cons b L ih=>
  simp only[gB,b0o,List.map_cons,List.find?_cons]at ih⊢
  by_cases e:b=a
  ·subst e;simp
  ·have e2: ¬f b=f a:=λq=>e (hf b a (hL b (by exact .head _)) ha q)
   simp only[e2,decide_false]
   rw[ih λx hx=>hL x (List.mem_cons_of_mem _ hx)]
   have:a≠b:=λq=>e q.symm
   simp[this]
theorem e1l(f:Int→Int)(L:List Int)(a:Int):gF f (L++[a])=gF f L++[(a,f a)]:=by simp[gF]
theorem e1k(f:Int→Int)(L:List Int)(a:Int):gB f (L++[a])=gB f L++[(f a,a)]:=by simp[gB]
mutual
theorem i0h{A:List Int}: ∀(t:Tm) {p:Int},p∈a0r A t→p∈A∨b0u p t
 | .v k,p,h=>by
  simp only[k0e,k0d,k0b,k0c]at h
  split at h
  ·exact .inl h
  ·rcases List.mem_append.mp h with h|h
   ·exact .inl h
   ·simp at h;exact .inr h.symm
 | .s _ ts,p,h=>by simp only[k0e,k0d,k0b,k0c]at h;exact i0e ts h
 | .a _,p,h=>.inl h
 | .i _,p,h=>.inl h
theorem i0e{A:List Int}: ∀(ts:List Tm) {p:Int},p∈a0g A ts→p∈A∨a0z p ts
 |[],p,h=>.inl h
 |t::ts,p,h=>by
  simp only[r0l,r0k]at h
  rcases i0e ts h with h|h
  ·rcases i0h t h with h|h
   ·exact .inl h
   ·exact .inr (.inl h)
  ·exact .inr (.inr h)
end
mutual
theorem q0b{f:Int→Int}{P:Int→Prop}(hf:Inj P f): ∀(t:Tm) (L:List Int),(∀a∈L,P a)→(∀p,b0u p t→P p)→a0n (gF f L) (gB f L) t (t.ren f)=(true,gF f (a0r L t),gB f (a0r L t))
 | .v a,L,hL,hv=>by
  simp only[Tm.ren,k0i,k0f,k0g,k0h,mtv,mta,mti,mts,k0e,k0d,k0b,k0c]
  have h1:=e1n f L a
  have h2:=e1m hf hL (hv a rfl)
  by_cases h:a∈L
  ·rw[if_pos h]at h1 h2
   rw[if_pos (by simpa using h)]
   simp[c0g,h1,h2]
  ·rw[if_neg h]at h1 h2
   rw[if_neg (by simpa using h),e1l,e1k]
   exact j0o h1 h2
 | .a x,L,hL,hv=>congrArg (·,_,_) (decide_eq_true rfl)
 | .i x,L,hL,hv=>congrArg (·,_,_) (decide_eq_true rfl)
 | .s g ts,L,hL,hv=>by
  simp only[Tm.ren,k0i,k0f,k0g,k0h,mtv,mta,mti,mts,k0e,k0d,k0b,k0c]
  rw[if_pos ⟨trivial,(a0v _ _).symm⟩]
  exact j0r hf ts L hL hv
theorem j0r{f:Int→Int}{P:Int→Prop}(hf:Inj P f): ∀(ts:List Tm) (L:List Int),(∀a∈L,P a)→(∀p,a0z p ts→P p)→b0p (gF f L) (gB f L) ts (Tm.renL f ts)=(true,gF f (a0g L ts),gB f (a0g L ts))
 |[],L,hL,hv=>rfl
 |t::ts,L,hL,hv=>by
  simp only[Tm.renL,p0h,p0g,mlc,r0l,r0k]
  have h1:=q0b hf t L hL λp hp=>hv p (.inl hp)
  simp only[Tm.ren]at h1
  rw[h1]
  simp only[if_true]
  exact j0r hf ts (a0r L t) (λa ha=>(i0h t ha).elim (hL a) λq=>hv a (.inl q)) λp hp=>hv p (.inr hp)
end
mutual
theorem y0n{F:b0k}: ∀t u:Tm,okT F t u→u=t.ren (λa=>(b0o F a).getD 0)∧∀p,b0u p t→∃b,b0o F p=some b
 | .v a,.v b,e=>by
  refine⟨?_,λp hp=>?_⟩
  ·show _=Tm.v ((b0o F a).getD 0);rw[show b0o F a=some b from e];rfl
  ·cases hp;exact⟨b,e⟩
 | .a x,.a y,e=>⟨congrArg _ (Eq.symm e),λp hp=>hp.elim⟩
 | .i x,.i y,e=>⟨congrArg _ (Eq.symm e),λp hp=>hp.elim⟩
 | .s f ts,.s h us,e=>by
  obtain⟨rfl,e⟩:=e
  refine a0m (y0m ts us e) λh1 h2=>?_
  exact⟨by simp only[Tm.ren,k0i,k0f,k0g,k0h];rw[h1];rfl,h2⟩
 | .v _,.a _,e=>e.elim
 | .v _,.i _,e=>e.elim
 | .v _,.s _ _,e=>e.elim
 | .a _,.v _,e=>e.elim
 | .a _,.i _,e=>e.elim
 | .a _,.s _ _,e=>e.elim
 | .i _,.v _,e=>e.elim
 | .i _,.a _,e=>e.elim
 | .i _,.s _ _,e=>e.elim
 | .s _ _,.v _,e=>e.elim
 | .s _ _,.a _,e=>e.elim
 | .s _ _,.i _,e=>e.elim
theorem y0m{F:b0k}: ∀ts us:List Tm,okL F ts us→us=Tm.renL (λa=>(b0o F a).getD 0) ts∧∀p,a0z p ts→∃b,b0o F p=some b
 |[],[],e=>⟨rfl,λp hp=>hp.elim⟩
 |[],_::_,e=>e.elim
 |_::_,[],e=>e.elim
 |t::ts,u::us,e=>by
  refine a0m (y0n t u e.1) λh1 h2=>?_
  refine a0m (y0m ts us e.2) λh3 h4=>?_
  exact⟨by rw[h1,h3];rfl,λp hp=>hp.elim (h2 p) (h4 p)⟩
end
noncomputable def Vrt(t u:Tm):Prop:=∃f,Inj (λp=>b0u p t) f∧u=t.ren f
theorem l0z(t u:Tm):(a0n [] [] t u).1=true↔Vrt t u:=by
 constructor
 ·intro h
  refine b0l (j0q Good.nil t u h) λh1 h2 _=>?_
  refine a0m (y0n t u h1) λh3 h4=>?_
  refine⟨_,λa b ha hb e=>?_,h3⟩
  refine a0k (h4 a ha) λx hx=>?_
  refine a0k (h4 b hb) λy hy=>?_
  simp only[hx,hy,Option.getD_some]at e
  subst e
  have q1:=h2.fb a x hx
  have q2:=h2.fb b x hy
  rw[q1]at q2;exact Option.some.inj q2
 ·rintro ⟨f,hf,rfl⟩
  have:=q0b hf t [] (λa h=>by simp at h) λp hp=>hp
  simp only[gF,gB,List.map_nil]at this
  rw[this]
theorem Vrt.of_ren{f:Int→Int}{t:Tm}(hf:Inj (λp=>b0u p t) f):Vrt t (t.ren f):=⟨f,hf,rfl⟩
theorem Vrt.symm{t u:Tm}(h:Vrt t u):Vrt u t:=by
 refine a0a h λf hf z0=>?_;subst z0
 classical
 have hg: ∀q,∃p,(∃a,b0u a t∧f a=q)→b0u p t∧f p=q:=λq=>by
  by_cases h: ∃a,b0u a t∧f a=q
  ·refine a0k (h) λa ha=>?_;exact⟨a,λ_=>ha⟩
  ·exact⟨0,λq=>absurd q h⟩
 refine⟨λq=>Classical.choose (hg q),λa b ha hb e=>?_,?_⟩
 ·refine a0a ((k0t t).mp ha) λp hp z0=>?_;subst z0
  refine a0a ((k0t t).mp hb) λq hq z0=>?_;subst z0
  have e1:=Classical.choose_spec (hg (f p)) ⟨p,hp,rfl⟩
  have e2:=Classical.choose_spec (hg (f q)) ⟨q,hq,rfl⟩
  simp only at e
  rw[←e1.2,←e2.2,e]
 ·rw[s0d]
  have:t=t.ren λk=>k:=(v0r t).symm
  conv=>lhs;rw[this]
  refine q0j t λp hp=>?_
  have e1:=Classical.choose_spec (hg (f p)) ⟨p,hp,rfl⟩
  exact(hf _ _ e1.1 hp e1.2).symm
theorem Vrt.trans{t u w:Tm}(h:Vrt t u)(k:Vrt u w):Vrt t w:=by
 refine a0a h λf hf z0=>?_;subst z0
 refine a0a k λg hg z0=>?_;subst z0
 rw[s0d]
 refine⟨_,λa b ha hb e=>hf a b ha hb ?_,rfl⟩
 exact hg _ _ ((k0t t).mpr ⟨a,ha,rfl⟩) ((k0t t).mpr ⟨b,hb,rfl⟩) e
theorem v0k{t u:Tm}{f g:Int→Int}(hf:Inj (λp=>b0u p t) f)(hg:Inj (λp=>b0u p u) g):(a0n [] [] (t.ren f) (u.ren g)).1=(a0n [] [] t u).1:=by
 rw[Bool.eq_iff_iff,l0z,l0z]
 constructor
 ·exactλh=>((Vrt.of_ren hf).trans h).trans (Vrt.of_ren hg).symm
 ·exactλh=>((Vrt.of_ren hf).symm.trans h).trans (Vrt.of_ren hg)
theorem IsBlk.hi{S:Sto}{fs:List Cel}{c:Cel}{f:Int}{args:List Cel}(h:IsBlk S fs c f args):c.2<S.heap.length:=by
 rcases h.k with⟨h1,h2,h3⟩|⟨h1,h2,h3⟩
 ·obtain _|⟨a,as⟩:=args
  ·trivial
  ·have:=h.args 0 a rfl
   have hb:bs c=c.2:=by unfold bs;rw[if_pos h1]
   rw[hb]at this
   have:=(List.getElem?_eq_some_iff.mp this).1
   have:=h.p0
   exact LA [_] [_] 637854389219368 rfl (by assumption)
 ·have:=(List.getElem?_eq_some_iff.mp h2).1
  have:=h.p0
  exact LA [_] [_] 622904626216 rfl (by assumption)
theorem b1o{s a b c d:Int}(hb:0≤b∧b<s)(hd:0≤d∧d<s)(h:a*s+b=c*s+d):a=c∧b=d:=by
 have hs:0<s:=by exact LA [] [_,_] 5845180045528264 rfl hb
 have e1:(a*s+b) / s=a:=by rw[Int.add_comm,Int.add_mul_ediv_right _ _ (by exact LA [] [_] 210630744200 rfl hs),Int.ediv_eq_zero_of_lt hb.1 hb.2];exact LA [] [_] 4331909 rfl
 have e2:(c*s+d) / s=c:=by rw[Int.add_comm,Int.add_mul_ediv_right _ _ (by exact LA [] [_] 210630744200 rfl hs),Int.ediv_eq_zero_of_lt hd.1 hd.2];exact LA [] [_] 4331909 rfl
 have:a=c:=by rw[←e1,←e2,h]
 subst this
 exact⟨rfl,by exact LA [] [_,_,_] 2635910116742934696 rfl h⟩
noncomputable def z0v(S:Sto)(fs:List Cel)(span:Int)(P:Tm→Tm→Prop)(x:Int):Prop:=∀d e f g as bs' ts us,d.2*span+e.2=x→IsBlk S fs d f as→DecL S fs as ts→IsBlk S fs e g bs'→DecL S fs bs' us→P (.s f ts) (.s g us)
theorem z0v.mono{S:Sto}{fs:List Cel}{span:Int}{P Q:Tm→Tm→Prop}{x:Int}(h:z0v S fs span P x)(k: ∀t u,P t u→Q t u):z0v S fs span Q x:=λd e f g as bs' ts us h1 h2 h3 h4 h5=>k _ _ (h d e f g as bs' ts us h1 h2 h3 h4 h5)
theorem y0c{S:Sto}{fs:List Cel}{P:Tm→Tm→Prop}{d e:Cel}{f g:Int}{as bs':List Cel}{ts us:List Tm}(h2:IsBlk S fs d f as)(h3:DecL S fs as ts)(h4:IsBlk S fs e g bs')(h5:DecL S fs bs' us)(hP:P (.s f ts) (.s g us)):
  z0v S fs (S.heap.length+1) P (d.2*(S.heap.length+1)+e.2):=λd' e' f' g' as1 bs1 ts1 us1 h1 k2 k3 k4 k5=>by
 refine a0m (b1o (by have:=k4.p0;have:=k4.hi;exact LA [_] [_] 8687799161704964424107956328 rfl (by assumption) this) (by have:=h4.p0;have:=h4.hi;exact LA [_] [_] 8687799161704964424107956328 rfl (by assumption) this) h1) λq1 q2=>?_
 have e1:=d0g k2 k3 h2 h3 q1
 have e2:=d0g k4 k5 h4 h5 q2
 subst e1 e2
 have q3:=Head.det (.blk k2 k3) (.blk h2 h3)
 have q4:=Head.det (.blk k4 k5) (.blk h4 h5)
 rw[q3,q4];exact hP
theorem f1y{α β:Type}{a:α}{b:β}{as:List α}{bs:List β}:(a::as).zip (b::bs)=(a,b)::as.zip bs:=rfl
theorem IsBlk.arity{S:Sto}{fs:List Cel}{c e:Cel}{f:Int}{as as':List Cel}(h:IsBlk S fs c f as)(h':IsBlk S fs e f as'):as.length=as'.length:=(h.same h').2
theorem Head.notBlk{S:Sto}{fs:List Cel}{d:Cel}{t:Tm}(h:Head S fs d t)(hc:isC d=true): ∃f args ts,t=.s f ts∧IsBlk S fs d f args∧DecL S fs args ts:=by
 cases h with
 |con=>trivial
 |int=>trivial
 |var _ _=>trivial
 |blk hB hl=>exact⟨_,_,_,rfl,hB,hl⟩
theorem Head.kind{S:Sto}{fs:List Cel}{d:Cel}{t:Tm}(h:Head S fs d t):(∃p,t=.v p∧d=(0,p)∧0≤p∧S.heap[p.toNat]?=some (0,p))∨(∃k,t=.a k∧d=(4,k))∨(∃k,t=.i k∧d=(5,k))∨∃f args ts,t=.s f ts∧IsBlk S fs d f args∧DecL S fs args ts:=by
 cases h with
 |con=>exact .inr (.inl ⟨_,rfl,rfl⟩)
 |int=>exact .inr (.inr (.inl ⟨_,rfl,rfl⟩))
 |var h0 h=>exact .inl ⟨_,rfl,rfl,h0,h⟩
 |blk hB hl=>exact .inr (.inr (.inr ⟨_,_,_,rfl,hB,hl⟩))
noncomputable def VtT(S:Sto)(fs:List Cel)(r:Bool)(t:Tm):Prop:=∀(u:Tm) {c c':Cel} {wk:List (Cel×Cel)},Dec S fs c t→Dec S fs c' u→∀{T:Int→Bool} {k:Nat} {F B:b0k},Good F B→S.heap.length≤100000→k+t.size<4096→F.length+t.size≤100000→B.length+t.size≤100000→wk.length+t.size<100000→
  (∀x,T x=true→z0v S fs (S.heap.length+1) (λa b=>okT F a b∨t.size<a.size) x)→
  ((a0n F B t u).1=true→∀(T':Int→Bool) (k':Nat),k'≤k+t.size→(∀x,T' x=true→T x=true∨z0v S fs (S.heap.length+1) (λa b=>okT (a0n F B t u).2.1 a b) x)→∃j,e0h S fs (S.heap.length+1) j wk T' k' (a0n F B t u).2.1 (a0n F B t u).2.2 r)→
  ((a0n F B t u).1=false→r=false)→∃j,e0h S fs (S.heap.length+1) j ((c,c')::wk) T k F B r
noncomputable def VtL(S:Sto)(fs:List Cel)(r:Bool)(ts:List Tm):Prop:=∀(us:List Tm) {cs cs':List Cel} {wk:List (Cel×Cel)},DecL S fs cs ts→DecL S fs cs' us→∀{T:Int→Bool} {k:Nat} {F B:b0k},Good F B→S.heap.length≤100000→k+Tm.sizeL ts<4096→F.length+Tm.sizeL ts≤100000→B.length+Tm.sizeL ts≤100000→wk.length+Tm.sizeL ts<100000→
  (∀x,T x=true→z0v S fs (S.heap.length+1) (λa b=>okT F a b∨Tm.sizeL ts<a.size) x)→
  ((b0p F B ts us).1=true→∀(T':Int→Bool) (k':Nat),k'≤k+Tm.sizeL ts→(∀x,T' x=true→T x=true∨z0v S fs (S.heap.length+1) (λa b=>okT (b0p F B ts us).2.1 a b) x)→∃j,e0h S fs (S.heap.length+1) j wk T' k' (b0p F B ts us).2.1 (b0p F B ts us).2.2 r)→
  ((b0p F B ts us).1=false→r=false)→ts.length=us.length→∃j,e0h S fs (S.heap.length+1) j (cs.zip cs'++wk) T k F B r
section
variable {S:Sto} {fs:List Cel} {r:Bool}
inductive VtC(S:Sto)(fs:List Cel)(d e:Cel)(t u:Tm):Prop
 |var (p p':Int) (h1:t=.v p) (h2:u=.v p') (h3:d=(0,p)) (h4:e=(0,p')) (h:0≤p')
 |eq (h1:d=e) (h2:isV d=false) (h3:isC d=false) (h4: ∀F B,a0n F B t u=(true,F,B))
 |bad (h1: ∀F B,a0n F B t u=(false,F,B)) (h2: ∀{Rr span wk T k F B r},r=false→VtStep Rr S fs span d e wk T k F B r)
 |blk (f:Int) (args args':List Cel) (ts us:List Tm) (h1:t=.s f ts) (h2:u=.s f us) (h3:IsBlk S fs d f args) (h4:DecL S fs args ts) (h5:IsBlk S fs e f args') (h6:DecL S fs args' us)
theorem b1y{d e:Cel}{t u:Tm}(hd:Head S fs d t)(he:Head S fs e u):VtC S fs d e t u:=by
 cases hd with
 | @con x=>
  cases he with
  | @con y=>
   by_cases m:x=y
   ·exact .eq (congrArg _ m) rfl rfl λF B=>congrArg (·,F,B) (decide_eq_true m)
   ·exact .bad (λF B=>congrArg (·,F,B) (decide_eq_false m)) (λh=>.ne rfl rfl rfl (λe=>m (congrArg Prod.snd e)) h)
  |int=>exact .bad (λ_ _=>rfl) (λh=>.ne rfl rfl rfl nofun h)
  |var _ _=>exact .bad (λ_ _=>rfl) (λh=>.mixed (λh=>a0t h) h)
  |blk hB _=>exact .bad (λ_ _=>rfl) (λh=>.ne rfl (c0d hB).2 rfl (λe=>by have:=hB.tag;rw[←e]at this;simp at this) h)
 | @int x=>
  cases he with
  | @int y=>
   by_cases m:x=y
   ·exact .eq (congrArg _ m) rfl rfl λF B=>congrArg (·,F,B) (decide_eq_true m)
   ·exact .bad (λF B=>congrArg (·,F,B) (decide_eq_false m)) (λh=>.ne rfl rfl rfl (λe=>m (congrArg Prod.snd e)) h)
  |con=>exact .bad (λ_ _=>rfl) (λh=>.ne rfl rfl rfl nofun h)
  |var _ _=>exact .bad (λ_ _=>rfl) (λh=>.mixed (λh=>a0t h) h)
  |blk hB _=>exact .bad (λ_ _=>rfl) (λh=>.ne rfl (c0d hB).2 rfl (λe=>by have:=hB.tag;rw[←e]at this;simp at this) h)
 |var _ _=>
  cases he with
  |var h _=>exact .var _ _ rfl rfl rfl rfl h
  |con=>exact .bad (λ_ _=>rfl) (λh=>.mixed (λh=>a0t h.symm) h)
  |int=>exact .bad (λ_ _=>rfl) (λh=>.mixed (λh=>a0t h.symm) h)
  |blk hB _=>exact .bad (λ_ _=>rfl) (λh=>.mixed (λh=>a0t ((c0d hB).2.symm.trans h.symm)) h)
 | @blk _ f _ _ hA hl=>
  cases he with
  |var _ _=>exact .bad (λ_ _=>rfl) (λh=>.mixed (λh=>a0t ((c0d hA).2.symm.trans h)) h)
  |con=>exact .bad (λ_ _=>rfl) (λh=>.shape (c0d hA).2 rfl hA (.inl rfl) h)
  |int=>exact .bad (λ_ _=>rfl) (λh=>.shape (c0d hA).2 rfl hA (.inl rfl) h)
  | @blk _ g _ _ hB hl'=>
   by_cases m:f=g
   ·subst m;exact .blk _ _ _ _ _ rfl rfl hA hl hB hl'
   ·exact .bad (λF B=>if_neg λh=>m h.1) (λh=>.shape (c0d hA).2 (c0d hB).2 hA (.inr ⟨_,_,hB,m⟩) h)
theorem u0m{t u:Tm}{wk:List (Cel×Cel)}{T:Int→Bool}{k:Nat}{F B F' B':b0k}(hm:a0n F B t u=(true,F',B'))
  (cont:(a0n F B t u).1=true→∀(T':Int→Bool) (k':Nat),k'≤k+t.size→(∀x,T' x=true→T x=true∨z0v S fs (S.heap.length+1) (λa b=>okT (a0n F B t u).2.1 a b) x)→∃j,e0h S fs (S.heap.length+1) j wk T' k' (a0n F B t u).2.1 (a0n F B t u).2.2 r): ∃j,e0h S fs (S.heap.length+1) j wk T k F' B' r:=by
 rw[hm]at cont;exact cont rfl T k (Nat.le_add_right _ _) λx hx=>.inl hx
theorem u0l{t:Tm}(ih: ∀f ts,t=.s f ts→VtL S fs r ts):VtT S fs r t:=by
 intro u c c' wk h h' T k F B
 refine c0e (h.deref) λq d ed hd=>?_
 refine c0e (h'.deref) λq' e ee he=>?_
 have hc:=b1y hd he
 clear h h' hd he
 cases hc with
 |var p p' h1 h2 h3 h4 hp'=>
  subst h1 h2 h3 h4
  intro g hH hk hF hB0 hw inv cont bad
  rcases m0y F B p p' with m|⟨m1,m2⟩|m
  ·exact(u0m (t:=.v p) (u:=.v p') (j0p g m) cont).elim λj hj=>⟨_,.go ed ee (.ok rfl rfl m hj)⟩
  ·refine(u0m (t:=.v p) (u:=.v p') (j0o m1 m2) cont).elim λj hj=>⟨_,.go ed ee (.new rfl rfl m1 m2 (Nat.le_trans (Nat.le_add_right _ _) hF) (Nat.le_trans (Nat.le_add_right _ _) hB0) hj)⟩
  ·exact⟨1,.go ed ee (.bad rfl rfl m (bad (v0i hp' g m)))⟩
 |eq e1 e2 e3 hm=>
  intro g hH hk hF hB0 hw inv cont bad
  exact(u0m (hm F B) cont).elim λj hj=>⟨_,.go ed ee (.eq e2 (e1▸e2) e3 e1 hj)⟩
 |bad hm hs=>
  intro g hH hk hF hB0 hw inv cont bad
  exact⟨1,.go ed ee (hs (bad (congrArg Prod.fst (hm F B))))⟩
 |blk f args args' ts us h1 h2 hB hl hB' hl'=>
  subst h1 h2
  intro g hH hk hF hB0 hw inv cont bad
  have hv:=(c0d hB).2
  have hv':=(c0d hB').2
  have hz:=b0c (.s f ts)
  have hlen:=hl.length
  have hlen':=hl'.length
  have hll:=hB.arity hB'
  have hls':=b0i ts
  have hnat:d.2.natAbs<2^64:=by have:=hB.p0;have:=hB.hi;omega
  have hll2:ts.length=us.length:=by exact LA [_,_,_,_] [] 3581046330173044064328 rfl hlen hlen' hll
  have hm:a0n F B (.s f ts) (.s f us)=b0p F B ts us:=if_pos ⟨rfl,hll2⟩
  cases hT:T (d.2*(S.heap.length+1)+e.2)with
  |true=>
   refine(inv _ hT d e f f args args' ts us rfl hB hl hB' hl').elim (λm=>?_) λm=>absurd m (Nat.lt_irrefl _)
   exact(u0m (hm.trans (m0a g ts us m.2)) cont).elim λj hj=>⟨_,.go ed ee (.seen hv hv' hB hB' hT hnat (by exact LA [_,_] [] 5192741293555258981560216286408744 rfl hk hz) hj)⟩
  |false=>
   rw[hm]at cont bad
   have hsz:(Tm.s f ts).size=Tm.sizeL ts+1:=rfl
   rw[hsz]at hk hF hB0 hw inv cont
   refine a0k (ih f ts rfl us (wk:=wk) hl hl' (T:=λx=>T x||decide (x=d.2*(S.heap.length+1)+e.2)) (k:=k+1) g hH (by exact LA [_,_] [] 5192734122635630141240698296348712 rfl hk) (by exact LA [_,_] [] 6490372737873561009065110982897672 rfl hF) (by exact LA [_,_] [] 6490372737873561009065110982897672 rfl hB0) (by exact LA [_,_] [] 6490372737873597902553258402000936 rfl hw) (λx hx=>by
     simp only[Bool.or_eq_true,decide_eq_true_eq]at hx
     rcases hx with hx|hx
     ·exact(inv x hx).mono λa b q=>q.elim .inl λq=>.inr (by exact LA [_,_] [] 1100626276392 rfl q)
     ·clear inv cont;subst hx
      exact y0c hB hl hB' hl' (.inr (by simp only[e0g,e0d,e0e,e0f];exact LA [_] [] 7352321 rfl)))
    (λhm T' k' hk' hx'=>cont hm T' k' (by exact LA [_,_,_] [] 8351812919044182769672 rfl hk') λx hx=>by
     rcases hx' x hx with q|q
     ·simp only[Bool.or_eq_true,decide_eq_true_eq]at q
      rcases q with q|q
      ·exact .inl q
      ·clear hx' inv cont;subst q
       exact .inr (y0c hB hl hB' hl' ⟨rfl,(f0v g ts us hm).1⟩)
     ·exact .inr q) bad hll2) λj hj=>?_
   exact⟨_,.go ed ee (.push hv hv' hB hB' hT hnat (by exact LA [_,_] [] 5071036419486156698602033917992 rfl hk) (by exact LA [_,_,_,_] [] 8563487985352177078331359967483991468640579624 rfl hw hlen hls') hj)⟩
theorem k1i:VtL S fs r []:=λus {cs cs' wk} h h' {T k F B} g hH hk hF hB0 hw inv cont bad hlen=>by
 cases us with
 |cons _ _=>trivial
 |nil=>
  cases h;cases h'
  exact cont rfl T k (by exact LA [_,_] [] 1060864 rfl) λx hx=>.inl hx
theorem f1x{t:Tm}{ts:List Tm}(ht:VtT S fs r t)(hts:VtL S fs r ts):VtL S fs r (t::ts):=λus {cs cs' wk} h h' {T k F B} g hH hk hF hB0 hw inv cont bad hlen=>by
 obtain _|⟨u,us⟩:=us
 ·trivial
 cases h with
 | @cons c cs1 _ _ h hl=>
  cases h' with
  | @cons c' cs2 _ _ h' hl'=>
   simp only[f0z,f0y]at hk hF hB0 hw inv cont
   simp only[mlc]at cont bad
   have hl1:=hl.length
   have hls':=b0i ts
   have hml:=h0d F B t u
   rw[f1y,List.cons_append]
   refine ht u h h' g hH (by exact LA [_,_,_] [] 5071029165931239010821616971816 rfl hk) (by exact LA [_,_,_] [] 6490372737873561009065105614188552 rfl hF) (by exact LA [_,_,_] [] 6490372737873561009065105614188552 rfl hB0) (by simp;exact LA [_,_,_,_,_,_] [] 245199349429018860891384736368207950657328000970528927784 rfl hw hl1 hls') (λx hx=>(inv x hx).mono λa b q=>q.elim .inl λq=>.inr (by exact LA [_,_,_] [] 2200165167144 rfl q)) (λhm T' k' hk' hx'=>?_) λhm=>?_
   ·rw[if_pos hm]at cont bad
    refine b0l (j0q g t u hm) λm1 m2 m3=>?_
    refine hts us hl hl' m2 hH (by exact LA [_,_,_,_] [] 5444977525954127214346094952129757196328 rfl hk hk') (by exact LA [_,_,_,_,_,_] [] 7662479671227296455638281269808178059655895914534416392 rfl hF hml) (by exact LA [_,_,_,_,_,_] [] 245199349481966252222245908370849345688686743376487264264 rfl hB0 hml) (by exact LA [_,_,_] [] 6490372739082523722167882207997992 rfl hw) (λx hx=>?_) (λhm2 T'' k'' hk'' hx''=>cont hm2 T'' k'' (by exact LA [_,_,_,_,_] [] 5390456824382954908695460708360 rfl hk' hk'') λx hx=>?_) bad (by simpa using hlen)
    ·rcases hx' x hx with q|q
     ·exact(inv x q).mono λa b q=>q.elim (λq=>.inl (k0y m3 a b q)) λq=>.inr (by exact LA [_,_,_] [] 2234524905512 rfl q)
     ·exact q.mono λa b q=>.inl q
    ·rcases hx'' x hx with q|q
     ·rcases hx' x q with q|q
      ·exact .inl q
      ·exact .inr (q.mono λa b q=>k0y (f0v m2 ts us hm2).2.2 a b q)
     ·exact .inr q
   ·rw[if_neg (by rw[hm];trivial)]at bad
    exact bad hm
mutual
theorem d1c: ∀t:Tm,VtT S fs r t
 | .v _| .a _| .i _=>u0l λ_ _ e=>by(trivial)
 | .s f ts=>u0l λ_ _ e=>by cases e;exact z0m ts
theorem z0m: ∀ts:List Tm,VtL S fs r ts
 |[]=>k1i
 |t::ts=>f1x (d1c t) (z0m ts)
end
end
theorem s0h{S:Sto}{fs:List Cel}{c c':Cel}{t u:Tm}(h:Dec S fs c t)(h':Dec S fs c' u)(hH:S.heap.length≤100000)(hz:t.size<1000): ∃j,e0h S fs (S.heap.length+1) j [(c,c')] (λ_=>false) 0 [] [] (a0n [] [] t u).1:=
 d1c t u h h' Good.nil hH (by exact LA [_] [] 4836109336550202213236776 rfl hz) (by simp;exact LA [_] [] 6044630647314716225273896 rfl hz) (by simp;exact LA [_] [] 6044630647314716225273896 rfl hz) (by simp;exact LA [_] [] 6044630647349900597362728 rfl hz) (λx hx=>by(exact a0t hx)) (λhm T' k' _ _=>⟨0,by rw[hm];exact .nil⟩) λhm=>hm
mutual
noncomputable def wfT(fs:List Cel):Tm→Prop
 | .s f ts=>((f=0∧ts.length=2)∨(0<f∧∃a,fs[f.toNat]?=some (a,(ts.length:Int))))∧wfL fs ts
 |_=>True
noncomputable def wfL(fs:List Cel):List Tm→Prop
 |[]=>True
 |t::ts=>wfT fs t∧wfL fs ts
end
theorem n1w{fs:List Cel}{f:Int}{ts:List Tm}:wfT fs (.s f ts)=(((f=0∧ts.length=2)∨(0<f∧∃a,fs[f.toNat]?=some (a,(ts.length:Int))))∧wfL fs ts):=rfl
theorem p1l{fs:List Cel}{t:Tm}{ts:List Tm}:wfL fs (t::ts)=(wfT fs t∧wfL fs ts):=rfl
theorem o0p{fs:List Cel}: ∀{ts:List Tm} {i:Nat} {t:Tm},wfL fs ts→ts[i]?=some t→wfT fs t
 |[],i,t,_,h=>by trivial
 |u::ts,0,t,h,e=>by simp at e;subst e;exact h.1
 |u::ts,i+1,t,h,e=>o0p h.2 (by simpa using e)
mutual
theorem k1j{fs:List Cel}{f:Int→Int}: ∀t:Tm,wfT fs t→wfT fs (t.ren f)
 | .v k,h=>trivial
 | .a k,h=>trivial
 | .i k,h=>trivial
 | .s g ts,h=>by
  have:=s0i (f:=f) ts h.2
  simp only[Tm.ren,k0i,k0f,k0g,k0h,n1w,a0v]
  exact⟨h.1,this⟩
theorem s0i{fs:List Cel}{f:Int→Int}: ∀ts:List Tm,wfL fs ts→wfL fs (Tm.renL f ts)
 |[],h=>trivial
 |t::ts,h=>⟨k1j t h.1,s0i ts h.2⟩
end
mutual
noncomputable def Tm.al:Tm→Nat
 | .s _ ts=>ts.length+1+Tm.alL ts
 |_=>0
noncomputable def Tm.alL:List Tm→Nat
 |[]=>0
 |t::ts=>t.al+Tm.alL ts
end
theorem a1i{n:Int}:(Tm.v n).al=0:=rfl
theorem a1f{n:Int}:(Tm.a n).al=0:=rfl
theorem a1g{n:Int}:(Tm.i n).al=0:=rfl
theorem a1h{f:Int}{ts:List Tm}:(Tm.s f ts).al=ts.length+1+Tm.alL ts:=rfl
theorem i1t:Tm.alL []=0:=rfl
theorem i1s{t:Tm}{ts:List Tm}:Tm.alL (t::ts)=t.al+Tm.alL ts:=rfl
mutual
theorem l0f: ∀t:Tm,t.al+1≤2*t.size
 | .v k=>by exact Nat.le_add_left _ _
 | .a k=>by exact Nat.le_add_left _ _
 | .i k=>by exact Nat.le_add_left _ _
 | .s g ts=>by have:=s0m ts;simp only[a1i,a1f,a1g,a1h,e0g,e0d,e0e,e0f];exact LA [_,_,_] [] 8967732205509601310328468025352 rfl this
theorem s0m: ∀ts:List Tm,Tm.alL ts+ts.length≤2*Tm.sizeL ts
 |[]=>by exact Nat.le_refl _
 |t::ts=>by have:=l0f t;have:=s0m ts;simp only[i1t,i1s,f0z,f0y,List.length_cons];exact LA [_,_,_,_,_] [] 6067722491488775304616622299810869392343838728 rfl (by assumption) this
end
noncomputable def b0f(H:List Cel):Nat→List (Int×List Tm)→Prop
 |p,[]=>p≤H.length
 |p,(q,us)::r=>∃q':Nat,q=(q':Int)∧p≤q'∧(∀i,i<us.length→H[q'+i]?=some (0,((q'+i:Nat):Int)))∧b0f H (q'+us.length) r
theorem o1x{H:List Cel}{p:Nat}:b0f H p []=(p≤H.length):=rfl
theorem b0f.len{H:List Cel}: ∀{r:List (Int×List Tm)} {p:Nat},b0f H p r→p≤H.length
 |[],p,h=>h
 |(q,us)::r,p,⟨q',_,h1,h2,h3⟩=>by have:=h3.len;exact LA [_,_,_,_] [] 3458872313213124616 rfl h1 this
theorem b0f.set{H:List Cel}{pos:Nat}{x:Cel}: ∀{r:List (Int×List Tm)} {p:Nat},b0f H p r→pos<p→b0f (H.set pos x) p r
 |[],p,h,hp=>by simp only[o1x,List.length_set];exact h
 |(q,us)::r,p,⟨q',e,h1,h2,h3⟩,hp=>⟨q',e,h1,λi hi=>by rw[List.getElem?_set_ne (by exact LA [_,_,_,_] [] 112268063577443696648 rfl h1 hp)];exact h2 i hi,h3.set (by exact LA [_,_,_,_] [] 3508375580166881288 rfl h1 hp)⟩
theorem u0a{f k i:Nat}(h:i<k):(o0u f k)[i]?=some (0,((f+i:Nat):Int)):=by
 simp[o0u,h]
theorem l0h{f:Int}{a k:Nat}(h:f=0→k=2):(blk f a k).length≤k+1∧k≤(blk f a k).length:=by
 unfold blk
 split
 ·rename_i e;rw[d0z,h e];exact LA [] [] 2668734865951762438 rfl
 ·rw[List.length_cons,d0z];exact LA [_] [] 8083961572058214406 rfl
theorem w0n(f:Int)(a:Nat):bs (a0f f a)=((if f=0 then a else a+1:Nat):Int):=by
 unfold bs a0f
 by_cases h:f=0<;>simp[h]
theorem i1f{H:List Cel}{f:Int}{k i:Nat}(h:f=0→k=2)(hi:i<k):(H++blk f H.length k)[(if f=0 then H.length else H.length+1)+i]?=some (0,(((if f=0 then H.length else H.length+1)+i:Nat):Int)):=by
 by_cases e:f=0
 ·simp only[e,if_true,blk]
  rw[List.getElem?_append_right (by exact LA [_,_] [] 1060864 rfl),Nat.add_sub_cancel_left,u0a (by have:=h e;exact LA [_,_] [_] 2932726049562082126454316995848 rfl h hi e)]
 ·simp only[e,if_false,blk]
  rw[List.getElem?_append_right (by exact LA [_,_] [] 1309028352 rfl),show H.length+1+i - H.length=i+1 by exact LA [_,_] [] 7929679168549282 rfl,List.getElem?_cons_succ,u0a hi]
theorem b0f.app{H:List Cel}{f:Int}{us:List Tm}(hf:f=0→us.length=2): ∀{r:List (Int×List Tm)} {p:Nat},b0f H p r→b0f (H++blk f H.length us.length) p (r++[(bs (a0f f H.length),us)])
 |[],p,h=>by
  have:=l0h (a:=H.length) hf
  have h':p≤H.length:=h
  refine⟨_,w0n f H.length,by split<;>omega,λi hi=>i1f hf hi,?_⟩
  show _≤(H++blk f H.length us.length).length
  rw[List.length_append]
  by_cases e:f=0
  ·simp only[e,if_true];rw[e]at this;exact LA [_,_,_] [] 89764594852351193383112 rfl this
  ·simp only[e,if_false];simp only[blk,e,if_false,List.length_cons,d0z];exact LA [_,_] [] 7929690785329536 rfl
 |(q,us')::r,p,⟨q',e,h1,h2,h3⟩=>⟨q',e,h1,λi hi=>by have:=h2 i hi;rw[List.getElem?_append_left (List.getElem?_eq_some_iff.mp this).1];exact this,h3.app hf⟩
noncomputable def n0h(G:List (Int×List Tm)):Nat:=(G.map λp=>Tm.sizeL p.2).sum
noncomputable def o0v(G:List (Int×List Tm)):Nat:=(G.map λp=>Tm.alL p.2).sum
noncomputable def q0x(G:List (Int×List Tm)):Nat:=(G.map λp=>Tm.sizeL p.2+1).sum
noncomputable def Sat(fs:List Cel)(s:PtSt)(pos:Nat):Tm→Prop
 | .v n=>∃x,a0o s.tab n=some x∧s.H[pos]?=some x
 | .a n=>s.H[pos]?=some (4,n)
 | .i n=>s.H[pos]?=some (5,n)
 | .s f us=>∃a:Nat,s.H[pos]?=some (a0f f a)∧(bs (a0f f a),us)∈s.wt∧(f≠0→s.H[a]?=some (6,f))∧((f=0∧us.length=2)∨(0<f∧∃a,fs[f.toNat]?=some (a,(us.length:Int))))
structure Grow (s s':PtSt) (cur:Nat):Prop where
 len:s.H.length≤s'.H.length
 low: ∀p,p<cur→s'.H[p]?=s.H[p]?
 firm: ∀(p:Nat) (x:Cel),s.H[p]?=some x→x≠(0,(p:Int))→s'.H[p]?=some x
 tab: ∀n x,a0o s.tab n=some x→a0o s'.tab n=some x
 wt:s.wt<+:s'.wt
theorem Grow.refl(s:PtSt)(cur:Nat):Grow s s cur:=⟨Nat.le_refl _,λ_ _=>rfl,λ_ _ h _=>h,λ_ _ h=>h,List.prefix_rfl⟩
theorem Grow.trans{s s1 s2:PtSt}{c c':Nat}(a:Grow s s1 c)(b:Grow s1 s2 c')(h:c≤c'):Grow s s2 c:=⟨Nat.le_trans a.len b.len,λp hp=>(b.low p (by exact LA [_,_,_] [] 1197370352107528 rfl h hp)).trans (a.low p hp),λp x hx hn=>b.firm p x (a.firm p x hx hn) hn,λn x hx=>b.tab n x (a.tab n x hx),a.wt.trans b.wt⟩
theorem Sat.grow{fs:List Cel}{s s':PtSt}{cur pos:Nat}(g:Grow s s' cur)(hp:pos<cur): ∀{t:Tm},Sat fs s pos t→Sat fs s' pos t
 | .v n,⟨x,h1,h2⟩=>⟨x,g.tab n x h1,by rw[g.low pos hp];exact h2⟩
 | .a n,h=>by simp only[Sat]at h⊢;rw[g.low pos hp];exact h
 | .i n,h=>by simp only[Sat]at h⊢;rw[g.low pos hp];exact h
 | .s f us,⟨a,h1,h2,h3,h4⟩=>⟨a,by rw[g.low pos hp];exact h1,g.wt.subset h2,λhf=>g.firm a _ (h3 hf) (by exact nofun),h4⟩
structure TabOk (lo cur:Nat) (tab0:b0b) (s:PtSt):Prop where
 old: ∀n x,a0o tab0 n=some x→a0o s.tab n=some x
 new: ∀n x,a0o s.tab n=some x→a0o tab0 n=some x∨(a0o tab0 n=none∧∃p:Nat,lo≤p∧p<cur∧x=(0,(p:Int))∧s.H[p]?=some (0,(p:Int)))
 apart: ∀n m x,a0o tab0 n=none→a0o tab0 m=none→a0o s.tab n=some x→a0o s.tab m=some x→n=m
theorem v0d(F:b0b)(k x:Int)(v:Cel):a0o (F++[(k,v)]) x=(a0o F x).or (if k=x then some v else none):=by
 simp only[a0o,List.find?_append]
 cases e:F.find? (λp=>decide (p.1=x))with
 |some y=>rfl
 |none=>
  simp only[Option.none_or,Option.map_none,Option.none_or,List.find?_cons,List.find?_nil]
  by_cases h:k=x<;>simp[h]
theorem f0s{F:b0b}{k x:Int}{v:Cel}(h:a0o F k=none):a0o (F++[(k,v)]) x=if k=x then some v else a0o F x:=by
 rw[v0d]
 by_cases e:k=x
 ·subst e;rw[h];rfl
 ·simp[e]
theorem TabOk.grow{lo cur cur':Nat}{tab0:b0b}{s s':PtSt}(h:TabOk lo cur tab0 s)(hc:cur≤cur')(hl: ∀p,p<cur→s'.H[p]?=s.H[p]?)(e:s'.tab=s.tab):TabOk lo cur' tab0 s':=
 ⟨λn x hx=>by rw[e];exact h.old n x hx,λn x hx=>by
  rw[e]at hx
  rcases h.new n x hx with q|⟨q0,p,h1,h2,h3,h4⟩
  ·exact .inl q
  ·exact .inr ⟨q0,p,h1,by exact LA [_,_,_] [] 1197370352107528 rfl hc h2,h3,by rw[hl p h2];exact h4⟩,λn m x a b c d=>h.apart n m x a b (by rw[←e];exact c) (by rw[←e];exact d)⟩
theorem b0f.uncons{H:List Cel}{pos:Nat}{t:Tm}{us:List Tm}{r:List (Int×List Tm)}(h:b0f H pos (((pos:Int),t::us)::r)):H[pos]?=some (0,(pos:Int))∧b0f H (pos+1) (((pos+1:Nat),us)::r):=
 g0k h λq' e _ h2 h3=>by
  have e':q'=pos:=(Int.ofNat.inj e).symm
  subst e'
  exact⟨h2 0 (Nat.succ_pos _),q'+1,rfl,Nat.le_refl _,λi hi=>by rw[show q'+1+i=q'+(i+1)by exact LA [_,_] [] 7929690785329538 rfl];exact h2 (i+1) (Nat.succ_lt_succ hi),by rw[show q'+1+us.length=q'+(t::us).length by simp;exact LA [_,_] [] 7929690785329538 rfl];exact h3⟩
theorem h0w{H:List Cel}{q p:Nat}{x:Cel}(h:p<q):(H.set q x)[p]?=H[p]? :=List.getElem?_set_ne (Nat.ne_of_gt h)
theorem i0v{H:List Cel}{q p:Nat}{x y:Cel}(hs:H[q]?=some (0,(q:Int)))(hy:H[p]?=some y)(hn:y≠(0,(p:Int))):(H.set q x)[p]?=some y:=
 (List.getElem?_set_ne λe=>by subst e;exact hn (Option.some.inj (hy.symm.trans hs))).trans hy
theorem g0q{F:b0b}{k m:Int}{v x:Cel}(hn:a0o F k=none)(hx:a0o F m=some x):a0o (F++[(k,v)]) m=some x:=(f0s hn).trans ((if_neg λe=>b0n (hn.symm.trans (e▸hx))).trans hx)
theorem e0l{F:b0b}{k m:Int}{v x:Cel}(hn:a0o F k=none)(hx:a0o (F++[(k,v)]) m=some x):(k=m∧v=x)∨a0o F m=some x:=by
 rw[f0s hn]at hx
 by_cases e:k=m
 ·rw[if_pos e]at hx;exact .inl ⟨e,Option.some.inj hx⟩
 ·rw[if_neg e]at hx;exact .inr hx
theorem TabOk.add{lo q:Nat}{tab0:b0b}{s:PtSt}{n:Int}(hT:TabOk lo q tab0 s)(hn:a0o s.tab n=none)(hlo:lo≤q)(hself:s.H[q]?=some (0,(q:Int))):TabOk lo (q+1) tab0 {s with tab:=s.tab++[(n,(0,(q:Int)))]}:=
 have far: ∀k,a0o tab0 k=none→a0o s.tab k=some (0,(q:Int))→False:=λk k0 hk=>(hT.new k _ hk).elim (λh=>b0n (k0.symm.trans h)) λz=>g0k z.2 λp _ h2 h3 _=>Nat.ne_of_lt h2 (Int.ofNat.inj (congrArg Prod.snd h3)).symm
 have n0:a0o tab0 n=none:=by
  cases e:a0o tab0 n with
  |none=>rfl
  |some x=>exact b0n (hn.symm.trans (hT.old n x e))
 ⟨λm x hx=>g0q hn (hT.old m x hx),λm x hx=>(e0l hn hx).elim (λe=>.inr ⟨e.1▸n0,q,hlo,Nat.lt_succ_self _,e.2.symm,hself⟩) λh=>(hT.new m x h).imp id λz=>⟨z.1,g0k z.2 λp h1 h2 h3 h4=>⟨p,h1,Nat.lt_succ_of_lt h2,h3,h4⟩⟩,
  λm m' x h1 h2 h3 h4=>(e0l hn h3).elim (λa=>(e0l hn h4).elim (λb=>a.1.symm.trans b.1) λb=>(far m' h2 (a.2▸b)).elim) λa=>(e0l hn h4).elim (λb=>(far m h1 (b.2▸a)).elim) λb=>hT.apart m m' x h1 h2 a b⟩
inductive PtO(fs:List Cel)(lo pos:Nat)(tab0:b0b)(t:Tm)(us:List Tm)(r:List (Int×List Tm))(s:PtSt):Prop
 |mk (s1:PtSt) (nw:List (Int×List Tm)) (h1:PtItem fs pos s t s1) (h2:Grow s s1 pos) (h3:b0f s1.H (pos+1) (((pos+1:Nat),us)::(r++nw))) (h4:TabOk lo (pos+1) tab0 s1) (h5:Sat fs s1 pos t) (h6:s1.wt=s.wt++nw) (h7:n0h nw+1≤t.size) (h8:q0x nw≤t.size) (h9:s1.H.length+o0v nw≤s.H.length+t.al) (h10:s1.tab.length≤s.tab.length+1) (h11:nw.length≤1) (h12:(∀p∈nw,wfL fs p.2))
theorem f1n{fs:List Cel}{lo pos B:Nat}{tab0:b0b}{t:Tm}{us:List Tm}{r:List (Int×List Tm)}{s:PtSt}(hw:wfT fs t)(hr:b0f s.H pos (((pos:Int),t::us)::r))(hT:TabOk lo pos tab0 s)(hlo:lo≤pos)
  (b1:s.H.length+t.al≤B) (b2:s.tab.length+t.size≤B) (b3:s.wt.length+t.size≤B) (hB:B<100000):
  PtO fs lo pos tab0 t us r s:=by
 refine a0m (b0f.uncons hr) λhself hrest=>?_
 have hpos:pos<s.H.length:=(List.getElem?_eq_some_iff.mp hself).1
 have leaf: ∀{x},PtItem fs pos s t {s with H:=s.H.set pos x}→Sat fs {s with H:=s.H.set pos x} pos t→PtO fs lo pos tab0 t us r s:=λa b=>⟨_,[],a,⟨Nat.le_of_eq (List.length_set ..).symm,λ_ hp=>h0w hp,λ_ _=>i0v hself,λ_ _ h=>h,List.prefix_rfl⟩,(List.append_nil r).symm▸hrest.set (Nat.lt_succ_self _),
  hT.grow (Nat.le_succ _) (λ_ hp=>h0w hp) rfl,b,(List.append_nil _).symm,b0c t,Nat.zero_le _,Nat.le_trans (Nat.le_of_eq (List.length_set ..)) (Nat.le_add_right _ _),Nat.le_succ _,Nat.zero_le _,λ_ h=>(List.not_mem_nil h).elim⟩
 cases t with
 |v n=>
  cases hn:a0o s.tab n with
  |some x=>exact leaf (.varOld hn hpos) ⟨x,hn,List.getElem?_set_self hpos⟩
  |none=>
   exact⟨_,[],.varNew hn (by exact LA [_,_] [] 6490372737859647984978567286325288 rfl hB (show s.tab.length+1≤B from b2)),⟨Nat.le_refl _,λ_ _=>rfl,λ_ _ h _=>h,λm x hx=>g0q hn hx,List.prefix_rfl⟩,(List.append_nil r).symm▸hrest,hT.add hn hlo hself,⟨(0,(pos:Int)),(f0s hn).trans (if_pos rfl),hself⟩,(List.append_nil _).symm,Nat.le_refl _,Nat.zero_le _,Nat.le_add_right _ _,Nat.le_of_eq List.length_append,Nat.zero_le _,λ_ h=>(List.not_mem_nil h).elim⟩
 |a n=>exact leaf (.atom hpos) (List.getElem?_set_self hpos)
 |i n=>exact leaf (.int hpos) (List.getElem?_set_self hpos)
 |s f vs=>
  clear leaf
  have hf:f=0→vs.length=2:=λe=>by rcases hw.1 with h|h;exact h.2;have:=h.1;exact LA [_] [_] 83318936153821352 rfl e h.1
  have bl:=l0h (a:=s.H.length) hf
  have hls:=b0i vs
  simp only[e0g,e0d,e0e,e0f,a1i,a1f,a1g,a1h]at b1 b2 b3
  have hlow: ∀p,p<pos→((s.H++blk f s.H.length vs.length).set pos (a0f f s.H.length))[p]?=s.H[p]? :=λp hp=>(h0w hp).trans (List.getElem?_append_left (Nat.lt_trans hp hpos))
  have hHl:((s.H++blk f s.H.length vs.length).set pos (a0f f s.H.length)).length=s.H.length+(blk f s.H.length vs.length).length:=(List.length_set ..).trans List.length_append
  have hlen2:s.H.length+2+vs.length≤100000:=by exact LA [_,_,_,_] [] 228359689449666922905205638248726424227417522216 rfl hB b1
  have hself':(s.H++blk f s.H.length vs.length)[pos]?=some (0,(pos:Int)):=(List.getElem?_append_left hpos).trans hself
  refine⟨{s with H:=(s.H++blk f s.H.length vs.length).set pos (a0f f s.H.length),wt:=s.wt++[(bs (a0f f s.H.length),vs)]},[(bs (a0f f s.H.length),vs)],?_,⟨by rw[hHl];exact Nat.le_add_right _ _,hlow,λp y hy hn=>i0v hself' ((List.getElem?_append_left (List.getElem?_eq_some_iff.mp hy).1).trans hy) hn,λ_ _ h=>h,List.prefix_append _ _⟩,?_,hT.grow (Nat.le_succ _) hlow rfl,⟨s.H.length,List.getElem?_set_self (List.getElem?_eq_some_iff.mp hself').1,List.mem_append_right _ (.head _),λhf0=>?_,hw.1⟩,rfl,Nat.le_refl _,Nat.le_refl _,?_,Nat.le_succ _,Nat.le_refl _,λp h=>List.mem_singleton.mp h▸hw.2⟩
  ·have b3:s.wt.length<100000:=by exact LA [_,_,_] [] 6646141683606966344729035916440862760 rfl hB b3
   rcases hw.1 with h|⟨h,a,h'⟩
   ·exact .str (a:=0) (.inl h.1) b3 hlen2 hpos
   ·exact .str (a:=a) (.inr ⟨h,h'⟩) b3 hlen2 hpos
  ·exact(hrest.app hf).set (Nat.lt_succ_self _)
  ·rw[List.getElem?_set_ne (Nat.ne_of_lt hpos),List.getElem?_append_right (Nat.le_refl _),Nat.sub_self]
   simp[blk,hf0]
  ·simp only[hHl,o0v,a1i,a1f,a1g,a1h,List.map_cons,List.map_nil,List.sum_cons,List.sum_nil];exact LA [_,_,_,_] [] 4280252769604659007409744382592549064 rfl bl
theorem q0m(p:Int×List Tm)(r:List (Int×List Tm)):n0h (p::r)=Tm.sizeL p.2+n0h r:=by rfl
theorem q0l(p:Int×List Tm)(r:List (Int×List Tm)):o0v (p::r)=Tm.alL p.2+o0v r:=by rfl
theorem q0n(p:Int×List Tm)(r:List (Int×List Tm)):q0x (p::r)=Tm.sizeL p.2+1+q0x r:=by rfl
theorem l0b(r r':List (Int×List Tm)):n0h (r++r')=n0h r+n0h r':=by simp[n0h]
theorem u0h(r r':List (Int×List Tm)):o0v (r++r')=o0v r+o0v r':=by simp[o0v]
theorem u0i(r r':List (Int×List Tm)):q0x (r++r')=q0x r+q0x r':=by simp[q0x]
inductive PtR(fs:List Cel)(lo B1 B2 B3:Nat)(tab0:b0b)(ts:List Tm)(place:Nat)(us:List Tm)(i:Nat)(r:List (Int×List Tm))(s:PtSt):Prop
 |mk (s1:PtSt) (nw:List (Int×List Tm)) (h1:PtFrom fs place ts i s s1) (h2:Grow s s1 (place+i)) (h3:b0f s1.H (place+ts.length) (r++nw)) (h4:TabOk lo (place+ts.length) tab0 s1) (h5:(∀j t,us[j]?=some t→Sat fs s1 (place+i+j) t)) (h6:s1.wt=s.wt++nw) (h7:s1.H.length+o0v (r++nw)≤B1) (h8:s1.tab.length+n0h (r++nw)≤B2) (h9:s1.wt.length+n0h (r++nw)≤B3) (h10:q0x (r++nw)≤q0x r+Tm.sizeL us) (h11:(∀p∈nw,wfL fs p.2))
theorem y0r{fs:List Cel}{lo B1 B2 B3:Nat}{tab0:b0b}(hB:B1+B2+B3<100000){ts:List Tm}{place:Nat}(hlo:lo≤place): ∀(us:List Tm) (i:Nat) (r:List (Int×List Tm)) (s:PtSt),ts.drop i=us→i≤ts.length→wfL fs us→b0f s.H (place+i) (((place+i:Nat),us)::r)→TabOk lo (place+i) tab0 s→
  s.H.length+Tm.alL us+o0v r≤B1→s.tab.length+Tm.sizeL us+n0h r≤B2→s.wt.length+Tm.sizeL us+n0h r≤B3→
  PtR fs lo B1 B2 B3 tab0 ts place us i r s
 |[],i,r,s,hd,hi,hw,hr,hT,b1,b2,b3=>by
  have:i=ts.length:=by have:=List.drop_eq_nil_iff.mp hd;exact LA [_,_] [] 1128100012261384 rfl hi this
  subst this
  refine g0k hr λq' e _ _ h3=>?_
  have e':q'=place+ts.length:=by exact LA [_,_,_] [] 1166504959337187496 rfl e
  subst e'
  refine⟨s,[],.nil,.refl _ _,by simpa using h3,hT,λj t h=>by trivial,by exact .symm (List.append_nil _),?_,?_,?_,by simp,by exact nofun⟩
  ·simpa[i1t,i1s]using b1
  ·simpa[f0z,f0y]using b2
  ·simpa[f0z,f0y]using b3
 |t::us,i,r,s,hd,hi,hw,hr,hT,b1,b2,b3=>by
  have hi':i<ts.length:=by
   rcases Nat.lt_or_ge i ts.length with h|h
   ·exact h
   ·rw[List.drop_of_length_le h]at hd;(trivial)
  have ht:ts[i]?=some t:=by
   have:=List.getElem?_drop (xs:=ts) (i:=i) (j:=0)
   rw[hd]at this;simpa using this.symm
  have hd':ts.drop (i+1)=us:=by
   have:=List.drop_drop (i:=1) (j:=i) (l:=ts)
   rw[hd]at this;simpa[Nat.add_comm]using this.symm
  simp only[i1t,i1s,f0z,f0y]at b1 b2 b3
  have hz:=b0c t
  obtain⟨s1,nw,h1,h2,h3,h4,h5,h6,h7,h8,h9,h10,h11,h12⟩:=f1n (B:=B1+B2+B3) hw.1 hr hT (by exact LA [_,_,_] [] 2246267928584 rfl hlo) (by exact LA [_,_,_,_,_,_,_] [] 8119624283318684786001178593210376 rfl b1) (by exact LA [_,_,_,_,_,_,_] [] 8118357870658495841979956789129224 rfl b2) (by exact LA [_,_,_,_,_,_,_] [] 5524744742591538486517702030929928 rfl b3) hB
  have hwt:s1.wt.length=s.wt.length+nw.length:=by rw[h6,List.length_append]
  obtain⟨s2,nw2,k1,k2,k3,k4,k5,k6,k7,k8,k9,k10,k11⟩:=y0r hB (ts:=ts) hlo us (i+1) (r++nw) s1 hd' hi' hw.2 h3 h4 (by rw[u0h];exact LA [_,_,_,_,_,_,_] [] 6220306963745273244006710130979880327365746110472 rfl b1 h9) (by rw[l0b];exact LA [_,_,_,_,_,_,_] [] 6520968017184138290891768531538630030781479716053725192 rfl b2 h7 h10) (by rw[l0b];exact LA [_,_,_,_,_,_,_,_] [] 7001836093064850476895528136361555868540540522988301689282768904 rfl b3 h7 h11 hwt)
  refine⟨s2,nw++nw2,.cons ht h1 k1,h2.trans k2 (by exact LA [_,_] [] 7743838650752 rfl),by rw[←List.append_assoc];exact k3,k4,λj u hj=>?_,by rw[k6,h6,List.append_assoc],by rw[←List.append_assoc];exact k7,by rw[←List.append_assoc];exact k8,by rw[←List.append_assoc];exact k9,?_,λp hp=>?_⟩
  ·cases j with
   |zero=>simp at hj;subst hj;exact h5.grow k2 (by exact LA [_,_] [] 7743838650753 rfl)
   |succ j=>
    have:=k5 j u (by simpa using hj)
    rwa [show place+(i+1)+j=place+i+(j+1)by exact LA [_,_,_] [] 8351799843651904876930 rfl]at this
  ·simp only[f0z,f0y]
   rw[←List.append_assoc]
   rw[u0i r nw]at k10
   exact LA [_,_,_,_,_] [] 5389221301014716830603569823752 rfl h8 k10
  ·rcases List.mem_append.mp hp with hp|hp
   ·exact h12 p hp
   ·exact k11 p hp
noncomputable def h0y(fs:List Cel)(s:PtSt)(cur:Nat)(p:Int×List Tm):Prop:=∃place:Nat,p.1=place∧∀i t,p.2[i]?=some t→place+i<cur∧Sat fs s (place+i) t
theorem h0y.grow{fs:List Cel}{s s':PtSt}{cur cur':Nat}{p:Int×List Tm}(h:h0y fs s cur p)(g:Grow s s' cur)(hc:cur≤cur'):h0y fs s' cur' p:=by
 refine a0a h λpl e q=>?_
 exact⟨pl,e,λi t ht=>⟨by have:=(q i t ht).1;exact LA [_,_,_,_] [] 1294011403013197955080 rfl hc this,(q i t ht).2.grow g (q i t ht).1⟩⟩
theorem m0m{A B H:List Cel}(h: ∀i,i<A.length→H[i]?=(A++B)[i]?): ∃X,H=A++X:=⟨H.drop A.length,(List.take_append_drop A.length H).symm.trans (congrArg (· ++H.drop A.length) (List.ext_getElem? λi=>by
 by_cases hi:i<A.length
 ·rw[List.getElem?_take_of_lt hi,h i hi,List.getElem?_append_left hi]
 ·rw[List.getElem?_eq_none (Nat.not_lt.mp hi),List.getElem?_eq_none (Nat.le_trans (List.length_take_le ..) (Nat.not_lt.mp hi))]))⟩
theorem p0f{α:Type}{l r:List α}{k:Nat}{p:α}(h:l.drop k=p::r):l[k]?=some p∧l.drop (k+1)=r∧k<l.length:=
 have e:l[k]?=some p:=by
  have:=List.getElem?_drop (xs:=l) (i:=k) (j:=0)
  rw[h]at this;exact this.symm
 ⟨e,List.tail_drop.symm.trans (congrArg List.tail h),(List.getElem?_eq_some_iff.mp e).1⟩
theorem j1w{fs:List Cel}{lo B1 B2 B3:Nat}{tab0:b0b}(hB:B1+B2+B3<100000): ∀(M:Nat) (k cur:Nat) (s:PtSt),q0x (s.wt.drop k)≤M→k≤s.wt.length→lo≤cur→b0f s.H cur (s.wt.drop k)→TabOk lo cur tab0 s→(∀p∈s.wt,wfL fs p.2)→
  s.H.length+o0v (s.wt.drop k)≤B1→s.tab.length+n0h (s.wt.drop k)≤B2→s.wt.length+n0h (s.wt.drop k)≤B3→(∀j p,j<k→s.wt[j]?=some p→h0y fs s cur p)→
  ∃j s',PtRun fs j k s s'∧Grow s s' cur∧TabOk lo s'.H.length tab0 s'∧(∀p∈s'.wt,h0y fs s' s'.H.length p)∧s'.H.length≤B1∧s'.tab.length≤B2:=by
 intro M
 induction M using Nat.strongRecOn with
 |_ M ih=>
 intro k cur s hM hk hlo hr hT hw b1 b2 b3 hd
 cases hdr:s.wt.drop k with
 |nil=>
  have:k=s.wt.length:=by have:=List.drop_eq_nil_iff.mp hdr;exact LA [_,_] [] 1128100012261384 rfl hk this
  subst this
  rw[hdr]at hr
  refine⟨0,s,.nil rfl,.refl _ _,hT.grow hr (λ_ _=>rfl) rfl,λp hp=>?_,by exact LA [_,_,_] [] 2199091425288 rfl b1,by exact LA [_,_,_] [] 2199091425288 rfl b2⟩
  obtain⟨j,hj,rfl⟩:=List.mem_iff_getElem.mp hp
  exact(hd j _ hj (List.getElem?_eq_getElem hj)).grow (.refl _ _) hr
 |cons p r=>
  obtain⟨q,ts⟩:=p
  rw[hdr]at hr hM b1 b2 b3
  refine g0k hr λq' z0 h1 h2 h3=>?_;subst z0
  refine b0l (p0f hdr) λhrow hdr' hkl=>?_
  rw[q0n]at hM;rw[q0l]at b1;rw[q0m]at b2 b3
  simp only at hM b1 b2 b3
  obtain⟨s1,nw,k1,k2,k3,k4,k5,k6,k7,k8,k9,k10,k11⟩:=y0r hB (lo:=lo) (tab0:=tab0) (ts:=ts) (place:=q') (by exact LA [_,_,_] [] 2251869615325192 rfl hlo h1) ts 0 r s rfl (Nat.zero_le _) (hw _ (List.mem_of_getElem? hrow)) ⟨q',rfl,Nat.le_refl _,h2,h3⟩ (hT.grow h1 (λ_ _=>rfl) rfl) (by exact LA [_,_,_,_] [] 3616728693068298989576 rfl b1) (by exact LA [_,_,_,_] [] 3616728693068298989576 rfl b2) (by exact LA [_,_,_,_] [] 3616728693068298989576 rfl b3)
  have hd1:s1.wt.drop (k+1)=r++nw:=by rw[k6,List.drop_append_of_le_length (by omega),hdr']
  refine e1g (ih (M - 1) (by exact LA [_,_,_] [] 2560754954537414664 rfl hM) (k+1) (q'+ts.length) s1 (by rw[hd1];exact LA [_,_,_,_] [] 8758780901492230876907843592 rfl hM k10) (by rw[k6,List.length_append];exact LA [_,_,_] [] 2300419246161960 rfl hkl) (by exact LA [_,_,_,_] [] 3544332976542220296 rfl hlo h1) (by rw[hd1];exact k3) k4 (λp hp=>by
    rw[k6]at hp
    rcases List.mem_append.mp hp with hp|hp
    ·exact hw p hp
    ·exact k11 p hp) (by rw[hd1];exact k7) (by rw[hd1];exact k8) (by rw[hd1];exact k9) λj p hj hp=>by
   by_cases e:j=k
   ·subst e
    rw[k6,List.getElem?_append_left hkl,hrow]at hp
    cases hp
    exact⟨q',rfl,λi t ht=>⟨by have:=(List.getElem?_eq_some_iff.mp ht).1;simp only at this;exact LA [_,_,_] [] 1209465341771816 rfl this,by simpa using k5 i t ht⟩⟩
   ·rw[k6,List.getElem?_append_left (by exact LA [_,_,_] [] 1226351703662559272 rfl hkl hj)]at hp
    exact(hd j p (by exact LA [_,_] [] 36930645361432068136 rfl hj e) hp).grow ⟨k2.len,λx hx=>k2.low x (by exact LA [_,_,_] [] 6967140093987422216 rfl h1 hx),k2.firm,k2.tab,k2.wt⟩ (by exact LA [_,_,_] [] 2246267928584 rfl h1)) λj s' r1 r2 r3 r4 r5 r6=>?_
  exact⟨j+1,s',.row hrow k1 r1,⟨Nat.le_trans k2.len r2.len,λp hp=>(r2.low p (by exact LA [_,_,_,_] [] 3508375580166881288 rfl h1 hp)).trans (k2.low p (by exact LA [_,_,_] [] 6967140093987422216 rfl h1 hp)),λp x hx hn=>r2.firm p x (k2.firm p x hx hn) hn,λn x hx=>r2.tab n x (k2.tab n x hx),k2.wt.trans r2.wt⟩,r3,r4,r5,r6⟩
mutual
theorem f1q{fs:List Cel}{S:Sto}{s:PtSt}{E:Int→Tm}(hS:S.heap=s.H)(hr: ∀p∈s.wt,h0y fs s s.H.length p)(hE: ∀n x,a0o s.tab n=some x→Dec S fs x (E n)): ∀(t:Tm) (pos:Nat),Sat fs s pos t→∃c,s.H[pos]?=some c∧Dec S fs c (t.sub E)
 | .v n,pos,⟨x,h1,h2⟩=>⟨x,h2,hE n x h1⟩
 | .a n,pos,h=>⟨_,h,.con⟩
 | .i n,pos,h=>⟨_,h,.int⟩
 | .s f us,pos,⟨a,h1,h2,h3,h4⟩=>by
  refine a0a (hr _ h2) λpl e q=>?_
  simp only at e q
  refine a0q (o0i hS hr hE us pl λi t ht=>(q i t ht).2) λargs e1 e2 e3=>?_
  refine⟨_,h1,.blk (args:=args) ⟨?_,?_,λi x hx=>?_⟩ e3⟩
  ·unfold a0f;split<;>simp
  ·by_cases hf:f=0
   ·left
    refine⟨by simp[a0f,hf],hf,?_⟩
    rcases h4 with h4|h4
    ·rw[e1];exact h4.2
    ·exact LA [_] [_] 83318936153821352 rfl hf h4.1
   ·right
    rcases h4 with h4|⟨h4,b,h5⟩
    ·exact absurd h4.1 hf
    ·refine⟨by simp[a0f,hf],?_,h4,b,by rw[e1];exact h5⟩
     rw[hS];simp only[a0f,if_neg hf,Int.toNat_natCast];exact h3 hf
  ·rw[hS,e,Int.toNat_natCast];exact e2 i x hx
theorem o0i{fs:List Cel}{S:Sto}{s:PtSt}{E:Int→Tm}(hS:S.heap=s.H)(hr: ∀p∈s.wt,h0y fs s s.H.length p)(hE: ∀n x,a0o s.tab n=some x→Dec S fs x (E n)): ∀(us:List Tm) (pl:Nat),(∀i t,us[i]?=some t→Sat fs s (pl+i) t)→∃args:List Cel,args.length=us.length∧(∀i x,args[i]?=some x→s.H[pl+i]?=some x)∧DecL S fs args (Tm.subL E us)
 |[],pl,h=>⟨[],rfl,λi x hx=>by trivial,.nil⟩
 |t::us,pl,h=>by
  refine a0a (f1q hS hr hE t pl (by simpa using h 0 t rfl)) λc h1 h2=>?_
  refine a0q (o0i hS hr hE us (pl+1) λi u hu=>by
   have:=h (i+1) u (by simpa using hu)
   rwa [show pl+(i+1)=pl+1+i by exact LA [_,_] [] 1372615949549954 rfl]at this) λargs e1 e2 e3=>?_
  refine⟨c::args,by simp[e1],λi x hx=>?_,.cons h2 e3⟩
  cases i with
  |zero=>simp at hx;subst hx;exact h1
  |succ i=>rw[show pl+(i+1)=pl+1+i by exact LA [_,_] [] 1372615949549954 rfl];exact e2 i x (by simpa using hx)
end
mutual
theorem b1m{fs:List Cel}{s:PtSt}(hr: ∀p∈s.wt,h0y fs s s.H.length p): ∀(t:Tm) (pos:Nat),Sat fs s pos t→∀n,b0u n t→∃x,a0o s.tab n=some x
 | .v n,pos,⟨x,h1,h2⟩,m,hm=>by simp only[n0x,n0w]at hm;subst hm;exact⟨x,h1⟩
 | .a n,pos,h,m,hm=>hm.elim
 | .i n,pos,h,m,hm=>hm.elim
 | .s f us,pos,⟨a,h1,h2,h3,h4⟩,m,hm=>by
  refine a0a (hr _ h2) λpl e q=>?_
  exact m0c hr us pl (λi t ht=>(q i t ht).2) m hm
theorem m0c{fs:List Cel}{s:PtSt}(hr: ∀p∈s.wt,h0y fs s s.H.length p): ∀(us:List Tm) (pl:Nat),(∀i t,us[i]?=some t→Sat fs s (pl+i) t)→∀n,a0z n us→∃x,a0o s.tab n=some x
 |[],pl,h,m,hm=>hm.elim
 |t::us,pl,h,m,hm=>by
  rcases hm with hm|hm
  ·exact b1m hr t pl (by simpa using h 0 t rfl) m hm
  ·refine m0c hr us (pl+1) (λi u hu=>?_) m hm
   have:=h (i+1) u (by simpa using hu)
   rwa [show pl+(i+1)=pl+1+i by exact LA [_,_] [] 1372615949549954 rfl]at this
end
structure PutOk (fs:List Cel) (S:Sto) (tab:b0b) (t:Tm) (c:Cel) (S':Sto) (tab':b0b):Prop where
 stack:S'.stack=S.stack
 trail:S'.trail=S.trail
 hb:S'.hb=S.hb
 app: ∃X,S'.heap=S.heap++X
 len:S'.heap.length≤S.heap.length+t.al+1
 tlen:tab'.length≤tab.length+t.size
 old: ∀n x,a0o tab n=some x→a0o tab' n=some x
 new: ∀n x,a0o tab' n=some x→a0o tab n=some x∨(a0o tab n=none∧∃p:Nat,S.heap.length≤p∧x=(0,(p:Int))∧S'.heap[p]?=some (0,(p:Int)))
 apart: ∀n m x,a0o tab n=none→a0o tab m=none→a0o tab' n=some x→a0o tab' m=some x→n=m
 vars: ∀n,b0u n t→∃x,a0o tab' n=some x
 dec: ∀E:Int→Tm,(∀n x,a0o tab' n=some x→Dec S' fs x (E n))→Dec S' fs c (t.sub E)
theorem h0g{fs:List Cel}{S:Sto}{tab:b0b}{t:Tm}{c:Cel}(h1: ∀n,b0u n t→∃x,a0o tab n=some x)(h2: ∀E:Int→Tm,(∀n x,a0o tab n=some x→Dec S fs x (E n))→Dec S fs c (t.sub E)):PutOk fs S tab t c S tab:=
 ⟨rfl,rfl,rfl,⟨[],by exact .symm (List.append_nil _)⟩,by exact LA [_,_] [] 7550152704 rfl,by exact LA [_,_] [] 1060864 rfl,λ_ _ h=>h,λ_ _ h=>.inl h,λn m x a b c d=>by(rw[a]at c;(exact b0n c)),h1,h2⟩
theorem y0x{fs:List Cel}{S:Sto}{tab:b0b}{t:Tm}(hw:wfT fs t)(b1:S.heap.length+2*t.size<30000)(b2:tab.length+t.size<30000): ∃c S' tab',q0e fs t S tab c S' tab'∧PutOk fs S tab t c S' tab':=by
 have hz:=b0c t
 have hal:=l0f t
 cases t with
 |v n=>
  cases h:a0o tab n with
  |some x=>exact⟨x,S,tab,.inl ⟨h,rfl,rfl⟩,h0g (λm hm=>by simp only[n0x,n0w]at hm;subst hm;exact⟨x,h⟩) λE hE=>hE n x h⟩
  |none=>
   have hs:(S.heap++[((0:Int),(S.heap.length:Int))])[S.heap.length]?=some (0,(S.heap.length:Int)):=by exact gn0
   exact⟨_,_,_,.inr ⟨h,by exact LA [_,_] [] 6338254625676722292484963577896 rfl b1,by exact LA [_,_] [] 6189701782851395316735815720 rfl b2,rfl,rfl,rfl⟩,rfl,rfl,rfl,⟨_,rfl⟩,Nat.le_of_eq List.length_append,Nat.le_of_eq List.length_append,λm x hx=>g0q h hx,λm x hx=>(e0l h hx).elim (λq=>.inr ⟨q.1▸h,S.heap.length,Nat.le_refl _,q.2.symm,hs⟩) .inl,
    λm m' x h1 h2 h3 h4=>(e0l h h3).elim (λa=>(e0l h h4).elim (λb=>a.1.symm.trans b.1) λb=>b0n (h2.symm.trans b)) λa=>b0n (h1.symm.trans a),λm hm=>⟨_,(f0s h).trans (if_pos (show n=m from hm))⟩,λE hE=>hE n _ ((f0s h).trans (if_pos rfl))⟩
 |a n=>exact⟨_,S,tab,⟨rfl,rfl,rfl⟩,h0g (λm hm=>hm.elim) λE hE=>.con⟩
 |i n=>exact⟨_,S,tab,⟨rfl,rfl,rfl⟩,h0g (λm hm=>hm.elim) λE hE=>.int⟩
 |s f us=>
  have hf:f=0→us.length=2:=λe=>by rcases hw.1 with h|h;exact h.2;have:=h.1;exact LA [_] [_] 83318936153821352 rfl e h.1
  have bl:=l0h (a:=S.heap.length) hf
  have hls:=b0i us
  simp only[e0g,e0d,e0e,e0f,a1i,a1f,a1g,a1h]at b1 b2 hal
  have hrows:b0f (S.heap++blk f S.heap.length us.length) S.heap.length [(bs (a0f f S.heap.length),us)]:=b0f.app (r:=[]) hf (Nat.le_refl S.heap.length)
  refine e1g (j1w (fs:=fs) (lo:=S.heap.length) (B1:=S.heap.length+(us.length+1)+Tm.alL us) (B2:=tab.length+Tm.sizeL us) (B3:=1+Tm.sizeL us) (tab0:=tab) (by exact LA [_,_,_,_,_] [] 341758013418223092404370614677292779068237709437547321228062953647326146517242325309443413347676200 rfl b1 b2 hal) (q0x [(bs (a0f f S.heap.length),us)]) 0 S.heap.length ⟨S.heap++blk f S.heap.length us.length,tab,[(bs (a0f f S.heap.length),us)]⟩ (Nat.le_refl _) (Nat.zero_le _) (Nat.le_refl _) hrows
   ⟨λ_ _ h=>h,λ_ _ h=>.inl h,λn m x a b c d=>by(rw[a]at c;(exact b0n c))⟩ (by simpa using hw.2) (by simp[o0v];exact LA [_,_] [] 8314869892331654349000 rfl bl) (by exact Nat.le_refl _) (by exact Nat.le_refl _) (λj p hj=>by omega)) λj s' r1 r2 r3 r4 r5 r6=>?_
  have hap:=m0m (B:=blk f S.heap.length us.length) r2.low
  have hwt:(bs (a0f f S.heap.length),us)∈s'.wt:=r2.wt.subset (by exact .head _)
  refine a0a (r4 _ hwt) λpl e q=>?_
  simp only at e q
  refine⟨_,_,_,⟨rfl,?_,by exact LA [_,_,_,_] [] 257110153077989073701155357196992828292580349281571293148229672 rfl b1 hal,j,s',r1,rfl,rfl⟩,rfl,rfl,rfl,hap,?_,?_,r2.tab,?_,λn m x=>r3.apart n m x,λn hn=>m0c r4 us pl (λi t ht=>(q i t ht).2) n hn,λE hE=>?_⟩
  ·rcases hw.1 with h|⟨h,a,h'⟩
   ·exact⟨0,.inl h.1⟩
   ·exact⟨a,.inr ⟨h,h'⟩⟩
  ·simp only[a1i,a1f,a1g,a1h];exact LA [_,_,_,_] [] 9001154358990621695967821692936 rfl r5
  ·simp only[e0g,e0d,e0e,e0f];exact LA [_,_,_] [] 8156067303748141064 rfl r6
  ·exactλn x hx=>(r3.new n x hx).imp id λz=>⟨z.1,g0k z.2 λp h1 _ h3 h4=>⟨p,h1,h3,h4⟩⟩
  ·refine a0q (o0i (S:={S with heap:=s'.H}) rfl r4 hE us pl λi t ht=>(q i t ht).2) λargs e1 e2 e3=>?_
   refine .blk (args:=args) ⟨?_,?_,λi x hx=>?_⟩ e3
   ·unfold a0f;split<;>simp
   ·by_cases hf0:f=0
    ·left
     exact⟨by simp[a0f,hf0],hf0,by rw[e1];exact hf hf0⟩
    ·right
     rcases hw.1 with h4|⟨h4,b,h5⟩
     ·exact absurd h4.1 hf0
     ·refine⟨by simp[a0f,hf0],?_,h4,b,by rw[e1];exact h5⟩
      simp only[a0f,if_neg hf0,Int.toNat_natCast]
      refine r2.firm _ _ ?_ (by exact nofun)
      simp only[blk,if_neg hf0]
      rw[List.getElem?_append_right (Nat.le_refl _),Nat.sub_self];rfl
   ·simp only[e,Int.toNat_natCast];exact e2 i x hx
noncomputable def ext(E:Int→Tm)(tab tab':b0b):Int→Tm:=λn=>match a0o tab n with
 |some _=>E n
 |none=>.v ((a0o tab' n).getD (0,0)).2
theorem PutOk.ext{fs:List Cel}{S S':Sto}{tab tab':b0b}{t:Tm}{c:Cel}{E:Int→Tm}(h:PutOk fs S tab t c S' tab')(hE: ∀n x,a0o tab n=some x→Dec S fs x (E n)): ∀n x,a0o tab' n=some x→Dec S' fs x (Internal.ext E tab tab' n):=λn x hx=>by
 refine a0k (h.app) λX hX=>?_
 rcases h.new n x hx with q|⟨q0,p,h1,rfl,h3⟩
 ·simp only[Internal.ext,q];exact(hE n x q).app hX
 ·simp only[Internal.ext,q0,hx,Option.getD_some]
  exact .var (by exact LA [_] [] 18627 rfl) (by simpa using h3)
set_option tactic.hygienic true in
theorem j0i{S S':Sto}(H: ∀(p:Nat) (x:Cel),S.heap[p]?=some x→S'.heap[p]?=some x)(hs:S'.stack=S.stack): ∀{q:Nat} {c d:Cel},a0i S q c=some d→a0i S' q c=some d
 |0,c,d,h=>by assumption
 |q+1,c,d,h=>by
  simp only[eDr]at h⊢
  split
  ·rename_i h0
   rw[if_pos h0]at h
   split
   ·rename_i h1
    rw[if_pos h1]at h
    split at h
    ·rename_i e he
     rw[H _ _ he]
     simp only
     split
     ·rename_i h2;rw[if_pos h2]at h;exact h
     ·rename_i h2;rw[if_neg h2]at h;exact j0i H hs h
    ·exact b0n h
   ·rename_i h1;rw[if_neg h1]at h;(exact b0n h)
  ·rename_i h0
   rw[if_neg h0]at h
   rw[hs]
   split
   ·rename_i h3
    rw[if_pos h3]at h
    split
    ·rename_i h1
     rw[if_pos h1]at h
     split at h
     ·rename_i e he
      split
      ·rename_i h2;rw[if_pos h2]at h;exact h
      ·rename_i h2;rw[if_neg h2]at h;exact j0i H hs h
     ·exact b0n h
    ·rename_i h1;rw[if_neg h1]at h;(exact b0n h)
   ·rename_i h3;rw[if_neg h3]at h;exact h
theorem IsBlk.ext{S S':Sto}{fs:List Cel}(H: ∀(p:Nat) (x:Cel),S.heap[p]?=some x→S'.heap[p]?=some x){c:Cel}{f:Int}{args:List Cel}(h:IsBlk S fs c f args):IsBlk S' fs c f args:=
 ⟨h.p0,by rcases h.k with h|⟨a,b,c⟩;exact .inl h;exact .inr ⟨a,H _ _ b,c⟩,λi x hx=>H _ _ (h.args i x hx)⟩
structure GrowC (s s':CpSt) (cur:Nat):Prop where
 len:s.H.length≤s'.H.length
 low: ∀p,p<cur→s'.H[p]?=s.H[p]?
 firm: ∀(p:Nat) (x:Cel),s.H[p]?=some x→x≠(0,(p:Int))→s'.H[p]?=some x
 tab: ∀n x,a0o s.tab n=some x→a0o s'.tab n=some x
 made: ∀n x,a0o s.made n=some x→a0o s'.made n=some x
 wt:s.wt<+:s'.wt
theorem GrowC.refl(s:CpSt)(cur:Nat):GrowC s s cur:=⟨Nat.le_refl _,λ_ _=>rfl,λ_ _ h _=>h,λ_ _ h=>h,λ_ _ h=>h,List.prefix_rfl⟩
theorem GrowC.trans{s s1 s2:CpSt}{c c':Nat}(a:GrowC s s1 c)(b:GrowC s1 s2 c')(h:c≤c'):GrowC s s2 c:=⟨Nat.le_trans a.len b.len,λp hp=>(b.low p (by exact LA [_,_,_] [] 1197370352107528 rfl h hp)).trans (a.low p hp),λp x hx hn=>b.firm p x (a.firm p x hx hn) hn,λn x hx=>b.tab n x (a.tab n x hx),λn x hx=>b.made n x (a.made n x hx),a.wt.trans b.wt⟩
theorem GrowC.down{s s':CpSt}{c c':Nat}(a:GrowC s s' c)(h:c'≤c):GrowC s s' c':=⟨a.len,λp hp=>a.low p (by exact LA [_,_,_] [] 1197370352107528 rfl h hp),a.firm,a.tab,a.made,a.wt⟩
noncomputable def u0o(S:Sto)(s:CpSt)(pos:Nat)(c:Cel):Prop:=∃q d,a0i S q c=some d∧((∃p x,d=(0,p)∧a0o s.tab p=some x∧s.H[pos]?=some x)∨(isV d=false∧isC d=false∧s.H[pos]?=some d)∨(isC d=true∧∃b,a0o s.made d.2=some b∧s.H[pos]?=some b))
theorem u0o.grow{S:Sto}{s s':CpSt}{cur pos:Nat}{c:Cel}(g:GrowC s s' cur)(hp:pos<cur):u0o S s pos c→u0o S s' pos c:=by
 rintro ⟨q,d,h,⟨p,x,h1,h2,h3⟩|⟨h1,h2,h3⟩|⟨h1,b,h2,h3⟩⟩
 ·exact⟨q,d,h,.inl ⟨p,x,h1,g.tab _ _ h2,by rw[g.low pos hp];exact h3⟩⟩
 ·exact⟨q,d,h,.inr (.inl ⟨h1,h2,by rw[g.low pos hp];exact h3⟩)⟩
 ·exact⟨q,d,h,.inr (.inr ⟨h1,b,g.made _ _ h2,by rw[g.low pos hp];exact h3⟩)⟩
structure CInv (S:Sto) (fs:List Cel) (s:CpSt) (G:List (Int×List Tm)):Prop where
 pre: ∀(p:Nat) (x:Cel),S.heap[p]?=some x→s.H[p]?=some x
 gl:G.length=s.wt.length
 ml:s.made.length≤s.wt.length
 row: ∀(j:Nat) (o w:Cel),s.wt[j]?=some (o,w)→∃f args ts,∃a:Nat,IsBlk S fs o f args∧DecL S fs args ts∧w=a0f f a∧(f≠0→s.H[a]?=some (6,f))∧G[j]?=some (bs w,ts)
 made: ∀a b,a0o s.made a=some b→∃o,(o,b)∈s.wt∧o.2=a
theorem CInv.set{S:Sto}{fs:List Cel}{s s':CpSt}{G:List (Int×List Tm)}(h:CInv S fs s G)(h1: ∀(p:Nat) (x:Cel),S.heap[p]?=some x→s'.H[p]?=some x)(h2: ∀(p:Nat) (x:Cel),s.H[p]?=some x→x≠(0,(p:Int))→s'.H[p]?=some x)(hw:s'.wt=s.wt)(hm:s'.made=s.made):CInv S fs s' G:=
 ⟨h1,by rw[hw];exact h.gl,by rw[hw,hm];exact h.ml,λj o w e=>by
  rw[hw]at e
  refine u0z (h.row j o w e) λf args ts a a1 a2 a3 a4 a5=>?_
  exact⟨f,args,ts,a,a1,a2,a3,λhf=>h2 _ _ (a4 hf) (by exact nofun),a5⟩,λa b e=>by rw[hm]at e;rw[hw];exact h.made a b e⟩
noncomputable abbrev CpSt.pt (s:CpSt):PtSt:=⟨s.H,s.tab,[]⟩
inductive CpO(S:Sto)(fs:List Cel)(lo pos:Nat)(tab0:b0b)(c:Cel)(t:Tm)(us:List Tm)(r G:List (Int×List Tm))(s:CpSt):Prop
 |mk (s1:CpSt) (nw:List (Int×List Tm)) (h1:CpItem S fs pos c s s1) (h2:GrowC s s1 pos) (h3:b0f s1.H (pos+1) (((pos+1:Nat),us)::(r++nw))) (h4:TabOk lo (pos+1) tab0 s1.pt) (h5:CInv S fs s1 (G++nw)) (h6:u0o S s1 pos c) (h7:n0h nw+1≤t.size) (h8:q0x nw≤t.size) (h9:s1.H.length+o0v nw≤s.H.length+t.al) (h10:s1.tab.length≤s.tab.length+1) (h11:s1.wt.length=s.wt.length+nw.length) (h12:nw.length≤1)
theorem e1b{S:Sto}{fs:List Cel}{lo pos B:Nat}{tab0:b0b}{c:Cel}{t:Tm}{us:List Tm}{r G:List (Int×List Tm)}{s:CpSt}(hc:Dec S fs c t)(hr:b0f s.H pos (((pos:Int),t::us)::r))(hT:TabOk lo pos tab0 s.pt)(hI:CInv S fs s G)(hlo:lo≤pos)(hS:S.heap.length≤lo)
  (b1:s.H.length+t.al≤B) (b2:s.tab.length+t.size≤B) (b3:s.wt.length+t.size≤B) (hB:B<100000):
  CpO S fs lo pos tab0 c t us r G s:=by
 refine a0m (b0f.uncons hr) λhself hrest=>?_
 have hpos:pos<s.H.length:=(List.getElem?_eq_some_iff.mp hself).1
 refine c0e (hc.deref) λq d ed hd=>?_
 have ed':a0i {S with heap:=s.H} q c=some d:=j0i (S':={S with heap:=s.H}) hI.pre rfl ed
 have lt: ∀{p y},S.heap[p]?=some y→p<pos:=λh=>Nat.lt_of_lt_of_le (List.getElem?_eq_some_iff.mp h).1 (Nat.le_trans hS hlo)
 have leaf: ∀{x},CpItem S fs pos c s {s with H:=s.H.set pos x}→u0o S {s with H:=s.H.set pos x} pos c→CpO S fs lo pos tab0 c t us r G s:=λa b=>⟨_,[],a,⟨Nat.le_of_eq (List.length_set ..).symm,λ_ hp=>h0w hp,λ_ _=>i0v hself,λ_ _ h=>h,λ_ _ h=>h,List.prefix_rfl⟩,(List.append_nil r).symm▸hrest.set (Nat.lt_succ_self _),
  hT.grow (Nat.le_succ _) (λ_ hp=>h0w hp) rfl,(List.append_nil G).symm▸hI.set (λp y hy=>(h0w (lt hy)).trans (hI.pre p y hy)) (λ_ _=>i0v hself) rfl rfl,b,b0c t,Nat.zero_le _,Nat.le_trans (Nat.le_of_eq (List.length_set ..)) (Nat.le_add_right _ _),Nat.le_succ _,rfl,Nat.zero_le _⟩
 clear hc hr
 rcases hd.kind with⟨p,e1,e2,_⟩|⟨x,e1,e2⟩|⟨x,e1,e2⟩|⟨f,args,vs,e1,hBk,hl⟩
 ·cases hn:a0o s.tab p with
  |some x=>exact leaf (.varOld (e2▸ed') hn hpos) ⟨q,_,ed,.inl ⟨p,x,e2,hn,List.getElem?_set_self hpos⟩⟩
  |none=>
   exact⟨_,[],.varNew (e2▸ed') hn (by exact LA [_,_] [] 6490372737859647984978567286325288 rfl hB (Nat.le_trans (Nat.add_le_add_left (b0c t) _) b2)),⟨Nat.le_refl _,λ_ _=>rfl,λ_ _ h _=>h,λm x hx=>g0q hn hx,λ_ _ h=>h,List.prefix_rfl⟩,(List.append_nil r).symm▸hrest,hT.add hn hlo hself,
    (List.append_nil G).symm▸hI.set hI.pre (λ_ _ h _=>h) rfl rfl,⟨q,_,ed,.inl ⟨p,(0,(pos:Int)),e2,(f0s hn).trans (if_pos rfl),hself⟩⟩,b0c t,Nat.zero_le _,Nat.le_add_right _ _,Nat.le_of_eq List.length_append,rfl,Nat.zero_le _⟩
 ·exact leaf (.leaf ed' (e2▸rfl) (e2▸rfl) hpos) ⟨q,_,ed,.inr (.inl ⟨e2▸rfl,e2▸rfl,List.getElem?_set_self hpos⟩)⟩
 ·exact leaf (.leaf ed' (e2▸rfl) (e2▸rfl) hpos) ⟨q,_,ed,.inr (.inl ⟨e2▸rfl,e2▸rfl,List.getElem?_set_self hpos⟩)⟩
 ·have hC:=(c0d hBk).1
  have hd0:(d.1==0)=false:=by have:=hBk.tag;simp;exact LA [] [_] 226163008678316348648 rfl this
  cases hm:a0o s.made d.2 with
  |some b=>exact leaf (.old ed' hd0 hC hm hpos) ⟨q,_,ed,.inr (.inr ⟨hC,b,hm,List.getElem?_set_self hpos⟩)⟩
  |none=>
   clear leaf hd
   subst e1
   have hlen:=hl.length
   have hf:f=0→vs.length=2:=λe=>by rcases hBk.k with⟨_,_,h⟩|⟨_,_,h,_⟩<;>omega
   have bl:=l0h (a:=s.H.length) hf
   have hls:=b0i vs
   have hml:=hI.ml
   simp only[e0g,e0d,e0e,e0f,a1i,a1f,a1g,a1h]at b1 b2 b3
   have hlow: ∀p,p<pos→((s.H++blk f s.H.length args.length).set pos (a0f f s.H.length))[p]?=s.H[p]? :=λp hp=>(h0w hp).trans (List.getElem?_append_left (Nat.lt_trans hp hpos))
   have hself':(s.H++blk f s.H.length args.length)[pos]?=some (0,(pos:Int)):=(List.getElem?_append_left hpos).trans hself
   have hfirm: ∀(p:Nat) (y:Cel),s.H[p]?=some y→y≠(0,(p:Int))→((s.H++blk f s.H.length args.length).set pos (a0f f s.H.length))[p]?=some y:=λp y hy hn=>i0v hself' ((List.getElem?_append_left (List.getElem?_eq_some_iff.mp hy).1).trans hy) hn
   have hHl:((s.H++blk f s.H.length args.length).set pos (a0f f s.H.length)).length=s.H.length+(blk f s.H.length vs.length).length:=by rw[hlen];exact(List.length_set ..).trans List.length_append
   have hset:((s.H++blk f s.H.length args.length).set pos (a0f f s.H.length))[pos]?=some (a0f f s.H.length):=List.getElem?_set_self (List.getElem?_eq_some_iff.mp hself').1
   have hI':CInv S fs {s with H:=(s.H++blk f s.H.length args.length).set pos (a0f f s.H.length),made:=s.made++[(d.2,a0f f s.H.length)],wt:=s.wt++[(d,a0f f s.H.length)]} (G++[(bs (a0f f s.H.length),vs)]):=by
    refine⟨λp x hx=>(hlow p (lt hx)).trans (hI.pre p x hx),by rw[List.length_append,List.length_append];exact congrArg (· +1) hI.gl,by rw[List.length_append,List.length_append];exact Nat.succ_le_succ hml,λj o w hj=>?_,λa b hab=>(e0l hm hab).elim (λe=>⟨d,by rw[←e.2];exact List.mem_append_right _ (.head _),e.1⟩) λh=>a0a (hI.made a b h) λo h1 h2=>⟨o,List.mem_append_left _ h1,h2⟩⟩
    refine(k0z hj).elim (λhj=>?_) λhj=>?_
    ·refine u0z (hI.row j o w hj) λf1 args1 ts1 a1 x1 x2 x3 x4 x5=>?_
     exact⟨f1,args1,ts1,a1,x1,x2,x3,λh=>hfirm _ _ (x4 h) nofun,(List.getElem?_append_left (List.getElem?_eq_some_iff.mp x5).1).trans x5⟩
    ·refine a0m (Prod.mk.inj hj.2) λz0 z1=>?_
     refine⟨f,args,vs,s.H.length,z0▸hBk,hl,z1.symm,λh=>?_,by rw[←z1,hj.1,←hI.gl];exact List.getElem?_concat_length⟩
     show((s.H++blk f s.H.length args.length).set pos (a0f f s.H.length))[s.H.length]?=some (6,f)
     rw[List.getElem?_set_ne (Nat.ne_of_lt hpos),List.getElem?_append_right (Nat.le_refl _),Nat.sub_self]
     simp[blk,h]
   refine⟨_,[(bs (a0f f s.H.length),vs)],.new ed' hd0 (hBk.ext (S':={S with heap:=s.H}) hI.pre) hm (by exact LA [_,_,_,_] [] 6968984664586548514208004357038123567644712 rfl hB b3 hml) (by exact LA [_,_,_] [] 6646141683606966344729035916440862760 rfl hB b3) (by exact LA [_,_,_,_,_] [] 245199349577321510120923479942518246008922109213205168168 rfl hB b1 hlen) hpos,
    ⟨by rw[hHl];exact Nat.le_add_right _ _,hlow,hfirm,λ_ _ h=>h,λm x hx=>g0q hm hx,List.prefix_append _ _⟩,hlen▸(hrest.app hf).set (Nat.lt_succ_self _),hT.grow (Nat.le_succ _) hlow rfl,hI',⟨q,_,ed,.inr (.inr ⟨hC,_,(f0s hm).trans (if_pos rfl),hset⟩)⟩,Nat.le_refl _,Nat.le_refl _,?_,Nat.le_succ _,List.length_append,Nat.le_refl _⟩
   simp only[hHl,o0v,a1i,a1f,a1g,a1h,List.map_cons,List.map_nil,List.sum_cons,List.sum_nil];exact LA [_,_,_,_] [] 4280252769604659007409744382592549064 rfl bl
inductive CpR(S:Sto)(fs:List Cel)(lo B1 B2 B3:Nat)(tab0:b0b)(args:List Cel)(src place:Nat)(us:List Tm)(cs:List Cel)(i:Nat)(r G:List (Int×List Tm))(s:CpSt):Prop
 |mk (s1:CpSt) (nw:List (Int×List Tm)) (h1:CpFrom S fs src place args.length i s s1) (h2:GrowC s s1 (place+i)) (h3:b0f s1.H (place+args.length) (r++nw)) (h4:TabOk lo (place+args.length) tab0 s1.pt) (h5:CInv S fs s1 (G++nw)) (h6:(∀j c,cs[j]?=some c→u0o S s1 (place+i+j) c)) (h7:s1.H.length+o0v (r++nw)≤B1) (h8:s1.tab.length+n0h (r++nw)≤B2) (h9:s1.wt.length+n0h (r++nw)≤B3) (h10:q0x (r++nw)≤q0x r+Tm.sizeL us)
theorem w0u{S:Sto}{fs:List Cel}{lo B1 B2 B3:Nat}{tab0:b0b}(hB:B1+B2+B3<100000){args:List Cel}{src place:Nat}(hlo:lo≤place)(hS:S.heap.length≤lo)(hsrc: ∀i x,args[i]?=some x→S.heap[src+i]?=some x): ∀(us:List Tm) (cs:List Cel) (i:Nat) (r G:List (Int×List Tm)) (s:CpSt),args.drop i=cs→i≤args.length→DecL S fs cs us→b0f s.H (place+i) (((place+i:Nat),us)::r)→TabOk lo (place+i) tab0 s.pt→CInv S fs s G→
  s.H.length+Tm.alL us+o0v r≤B1→s.tab.length+Tm.sizeL us+n0h r≤B2→s.wt.length+Tm.sizeL us+n0h r≤B3→
  CpR S fs lo B1 B2 B3 tab0 args src place us cs i r G s
 |[],cs,i,r,G,s,hd,hi,hl,hr,hT,hI,b1,b2,b3=>by
  have hcs:cs=[]:=by cases hl;rfl
  subst hcs
  have:i=args.length:=by have:=List.drop_eq_nil_iff.mp hd;exact LA [_,_] [] 1128100012261384 rfl hi this
  subst this
  refine g0k hr λq' e _ _ h3=>?_
  have e':q'=place+args.length:=by exact LA [_,_,_] [] 1166504959337187496 rfl e
  subst e'
  refine⟨s,[],.nil,.refl _ _,by simpa using h3,hT,by simpa using hI,λj t h=>by trivial,?_,?_,?_,by simp⟩
  ·simpa[i1t,i1s]using b1
  ·simpa[f0z,f0y]using b2
  ·simpa[f0z,f0y]using b3
 |t::us,cs,i,r,G,s,hd,hi,hl,hr,hT,hI,b1,b2,b3=>by
  cases hl with
  | @cons c cs' _ _ hc hl=>
  have hi':i<args.length:=by
   rcases Nat.lt_or_ge i args.length with h|h
   ·exact h
   ·rw[List.drop_of_length_le h]at hd;(trivial)
  have ht:args[i]?=some c:=by
   have:=List.getElem?_drop (xs:=args) (i:=i) (j:=0)
   rw[hd]at this;simpa using this.symm
  have hd':args.drop (i+1)=cs':=by
   have:=List.drop_drop (i:=1) (j:=i) (l:=args)
   rw[hd]at this;simpa[Nat.add_comm]using this.symm
  simp only[i1t,i1s,f0z,f0y]at b1 b2 b3
  have hz:=b0c t
  obtain⟨s1,nw,h1,h2,h3,h4,h5,h6,h7,h8,h9,h10,h11,h12⟩:=e1b (B:=B1+B2+B3) hc hr hT hI (by exact LA [_,_,_] [] 2246267928584 rfl hlo) hS (by exact LA [_,_,_,_,_,_,_] [] 8119624283318684786001178593210376 rfl b1) (by exact LA [_,_,_,_,_,_,_] [] 8118357870658495841979956789129224 rfl b2) (by exact LA [_,_,_,_,_,_,_] [] 5524744742591538486517702030929928 rfl b3) hB
  obtain⟨s2,nw2,k1,k2,k3,k4,k5,k6,k7,k8,k9,k10⟩:=w0u hB hlo hS hsrc us cs' (i+1) (r++nw) (G++nw) s1 hd' hi' hl h3 h4 h5 (by rw[u0h];exact LA [_,_,_,_,_,_,_] [] 6220306963745273244006710130979880327365746110472 rfl b1 h9) (by rw[l0b];exact LA [_,_,_,_,_,_,_] [] 6520968017184138290891768531538630030781479716053725192 rfl b2 h7 h10) (by rw[l0b];exact LA [_,_,_,_,_,_,_,_] [] 7001836093016959992636744336974154153509339248217218598534787080 rfl b3 h7 h11 h12)
  refine⟨s2,nw++nw2,.cons hi' (hI.pre _ _ (hsrc i c ht)) h1 k1,h2.trans k2 (by exact LA [_,_] [] 7743838650752 rfl),by rw[←List.append_assoc];exact k3,k4,by rw[←List.append_assoc];exact k5,λj u hj=>?_,by rw[←List.append_assoc];exact k7,by rw[←List.append_assoc];exact k8,by rw[←List.append_assoc];exact k9,?_⟩
  ·cases j with
   |zero=>simp at hj;subst hj;exact h6.grow k2 (by exact LA [_,_] [] 7929690946810241 rfl)
   |succ j=>
    have:=k6 j u (by simpa using hj)
    rwa [show place+(i+1)+j=place+i+(j+1)by exact LA [_,_,_] [] 8351799843651904876930 rfl]at this
  ·simp only[f0z,f0y]
   rw[←List.append_assoc]
   rw[u0i r nw]at k10
   exact LA [_,_,_,_,_] [] 5389221301014716830603569823752 rfl h8 k10
noncomputable def g0f(S:Sto)(fs:List Cel)(s:CpSt)(cur:Nat)(p:Cel×Cel):Prop:=∃place:Nat,bs p.2=place∧∀f args,IsBlk S fs p.1 f args→∀i c,args[i]?=some c→place+i<cur∧u0o S s (place+i) c
theorem g0f.grow{S:Sto}{fs:List Cel}{s s':CpSt}{cur cur':Nat}{p:Cel×Cel}(h:g0f S fs s cur p)(g:GrowC s s' cur)(hc:cur≤cur'):g0f S fs s' cur' p:=by
 refine a0a h λpl e q=>?_
 exact⟨pl,e,λf args hB i t ht=>⟨by have:=(q f args hB i t ht).1;exact LA [_,_,_,_] [] 1294011403013197955080 rfl hc this,(q f args hB i t ht).2.grow g (q f args hB i t ht).1⟩⟩
theorem i1r{S:Sto}{fs:List Cel}{lo B1 B2 B3:Nat}{tab0:b0b}(hB:B1+B2+B3<100000)(hS:S.heap.length≤lo): ∀(M:Nat) (k cur:Nat) (s:CpSt) (G:List (Int×List Tm)),q0x (G.drop k)≤M→k≤s.wt.length→lo≤cur→b0f s.H cur (G.drop k)→TabOk lo cur tab0 s.pt→CInv S fs s G→
  s.H.length+o0v (G.drop k)≤B1→s.tab.length+n0h (G.drop k)≤B2→s.wt.length+n0h (G.drop k)≤B3→(∀j p,j<k→s.wt[j]?=some p→g0f S fs s cur p)→
  ∃j s' G',CpRun S fs j k s s'∧GrowC s s' cur∧TabOk lo s'.H.length tab0 s'.pt∧CInv S fs s' G'∧(∀p∈s'.wt,g0f S fs s' s'.H.length p)∧s'.H.length≤B1∧s'.tab.length≤B2:=by
 intro M
 induction M using Nat.strongRecOn with
 |_ M ih=>
 intro k cur s G hM hk hlo hr hT hI b1 b2 b3 hd
 have hgl:=hI.gl
 cases hdr:G.drop k with
 |nil=>
  have:k=s.wt.length:=by have:=List.drop_eq_nil_iff.mp hdr;exact LA [_,_,_] [] 1182899724359114457096 rfl hk hgl this
  subst this
  rw[hdr]at hr
  refine⟨0,s,G,.nil rfl,.refl _ _,hT.grow hr (λ_ _=>rfl) rfl,hI,λp hp=>?_,by exact LA [_,_,_] [] 2199091425288 rfl b1,by exact LA [_,_,_] [] 2199091425288 rfl b2⟩
  obtain⟨j,hj,rfl⟩:=List.mem_iff_getElem.mp hp
  exact(hd j _ hj (List.getElem?_eq_getElem hj)).grow (.refl _ _) hr
 |cons p r=>
  obtain⟨q,ts⟩:=p
  rw[hdr]at hr hM b1 b2 b3
  refine g0k hr λq' z0 h1 h2 h3=>?_;subst z0
  refine b0l (p0f hdr) λhrow hdr' hkl=>?_
  have hkw:k<s.wt.length:=by exact LA [_,_,_] [] 1197370352107592 rfl hgl hkl
  obtain⟨o,w,how⟩: ∃o w,s.wt[k]?=some (o,w):=⟨(s.wt[k]'hkw).1,(s.wt[k]'hkw).2,List.getElem?_eq_getElem hkw⟩
  refine u0z (hI.row k o w how) λf args ts' a x1 x2 x3 x4 x5=>?_
  rw[hrow]at x5
  simp only[Option.some.injEq,Prod.mk.injEq]at x5
  obtain⟨x5,rfl⟩:=x5
  have hal:=x2.length
  have hls:=b0i ts
  rw[q0n]at hM;rw[q0l]at b1;rw[q0m]at b2 b3
  simp only at hM b1 b2 b3
  have hlo':lo≤q':=by exact LA [_,_,_] [] 2251869615325192 rfl hlo h1
  obtain⟨s1,nw,k1,k2,k3,k4,k5,k6,k7,k8,k9,k10⟩:=w0u hB (fs:=fs) (tab0:=tab0) (args:=args) (src:=(bs o).toNat) (place:=q') hlo' hS x1.args ts args 0 r G s rfl (Nat.zero_le _) x2 ⟨q',rfl,Nat.le_refl _,h2,h3⟩ (hT.grow h1 (λ_ _=>rfl) rfl) hI (by exact LA [_,_,_,_] [] 3616728693068298989576 rfl b1) (by exact LA [_,_,_,_] [] 3616728693068298989576 rfl b2) (by exact LA [_,_,_,_] [] 3616728693068298989576 rfl b3)
  have hd1:(G++nw).drop (k+1)=r++nw:=by rw[List.drop_append_of_le_length (by omega),hdr']
  have hpre:=k2.wt
  obtain⟨wn,hwn⟩:=hpre
  refine i1y (ih (M - 1) (by exact LA [_,_,_] [] 2560754954537414664 rfl hM) (k+1) (q'+args.length) s1 (G++nw) (by rw[hd1];exact LA [_,_,_,_] [] 8758780901492230876907843592 rfl hM k10) (by rw[←hwn,List.length_append];exact LA [_,_,_,_] [] 3592758283948536135752 rfl hgl hkl) (by exact LA [_,_,_,_] [] 3544332976542220296 rfl hlo h1) (by rw[hd1];exact k3) k4 k5 (by rw[hd1];exact k7) (by rw[hd1];exact k8) (by rw[hd1];exact k9) λj p hj hp=>by
   by_cases e:j=k
   ·subst e
    rw[←hwn,List.getElem?_append_left hkw,how]at hp
    cases hp
    refine⟨q',x5.symm,λf' args' hB' i t ht=>?_⟩
    refine a0m (l0t hB' x1) λ_ z0=>?_;subst z0
    exact⟨by have:=(List.getElem?_eq_some_iff.mp ht).1;exact LA [_,_,_] [] 1209465341771816 rfl this,by simpa using k6 i t ht⟩
   ·rw[←hwn,List.getElem?_append_left (by exact LA [_,_,_,_] [] 1323704202851505821220936 rfl hgl hkl hj)]at hp
    exact(hd j p (by exact LA [_,_] [] 36930645361432068136 rfl hj e) hp).grow (k2.down (by omega)) (by exact LA [_,_,_] [] 2246267928584 rfl h1)) λj s' G' r1 r2 r3 r4 r5 r6 r7=>?_
  refine⟨j+1,s',G',.row how (x1.ext (S':={S with heap:=s.H}) hI.pre) (by exact LA [_,_,_,_,_,_,_,_] [] 263280796956742101376170512312525284578232052984749650176719073320 rfl hB b3 hal hls) x5.symm k1 r1,(k2.down (by omega)).trans r2 (by exact LA [_,_,_] [] 2246267928584 rfl h1)|> λg=>g,r3,r4,r5,r6,r7⟩
theorem x0y{S:Sto}{fs:List Cel}{d e:Cel}{f g:Int}{as bs':List Cel}{ts us:List Tm}(h:IsBlk S fs d f as)(hl:DecL S fs as ts)(h':IsBlk S fs e g bs')(hl':DecL S fs bs' us)(he:d.2=e.2):d=e∧f=g∧as=bs'∧ts=us:=by
 have:=d0g h hl h' hl' he
 subst this
 refine a0m (l0t h h') λz0 z1=>?_;subst z0;subst z1
 exact⟨rfl,rfl,rfl,DecL.det hl hl'⟩
theorem o1f{S S':Sto}{fs:List Cel}{o:Cel}{f:Int}{a:Nat}{args args':List Cel}(h:IsBlk S fs o f args)(h6:f≠0→S'.heap[a]?=some (6,f))(hl:args'.length=args.length)(ha: ∀i x,args'[i]?=some x→S'.heap[(bs (a0f f a)).toNat+i]?=some x):IsBlk S' fs (a0f f a) f args':=by
 refine⟨?_,?_,ha⟩
 ·unfold a0f;split<;>simp
 ·by_cases hf0:f=0
  ·left
   refine⟨by simp[a0f,hf0],hf0,?_⟩
   rcases h.k with⟨_,_,h⟩|⟨_,_,h,_⟩<;>omega
  ·right
   rcases h.k with⟨_,h,_⟩|⟨_,_,h4,b,h5⟩
   ·exact absurd h hf0
   ·refine⟨by simp[a0f,hf0],?_,h4,b,by rw[hl];exact h5⟩
    simp only[a0f,if_neg hf0,Int.toNat_natCast];exact h6 hf0
inductive CsO(S:Sto)(fs:List Cel)(s:CpSt)(t:Tm)(pos:Nat):Prop
 |var (p:Int) (x:Cel) (e:t=.v p) (h:a0o s.tab p=some x) (hx:s.H[pos]?=some x)
 |atm (k:Int) (e:t=.a k) (hx:s.H[pos]?=some (4,k))
 |int (k:Int) (e:t=.i k) (hx:s.H[pos]?=some (5,k))
 |blk (f:Int) (ts:List Tm) (args:List Cel) (o:Cel) (a pl:Nat) (e:t=.s f ts) (hB:IsBlk S fs o f args) (hl:DecL S fs args ts) (hx:s.H[pos]?=some (a0f f a)) (h6:f≠0→s.H[a]?=some (6,f)) (ep:bs (a0f f a)=(pl:Int)) (hq: ∀i c,args[i]?=some c→u0o S s (pl+i) c)
theorem s0y{S:Sto}{fs:List Cel}{s:CpSt}{G:List (Int×List Tm)}(hI:CInv S fs s G)(hr: ∀p∈s.wt,g0f S fs s s.H.length p){t:Tm}{c:Cel}{pos:Nat}(h:Dec S fs c t)(hc:u0o S s pos c):CsO S fs s t pos:=by
 refine c0e h.deref λq d e hd=>?_
 refine c0e hc λq' d' e' hc=>?_
 obtain rfl:=j0h e e'
 clear h e e'
 cases hd with
 |con=>exact hc.elim (λhc=>b0j hc λp x h1 _ _=>absurd (show(4:Int)=0 from congrArg Prod.fst h1) (by decide)) λhc=>hc.elim (λhc=>.atm _ rfl hc.2.2) λhc=>a0t hc.1
 |int=>exact hc.elim (λhc=>b0j hc λp x h1 _ _=>absurd (show(5:Int)=0 from congrArg Prod.fst h1) (by decide)) λhc=>hc.elim (λhc=>.int _ rfl hc.2.2) λhc=>a0t hc.1
 | @var p h0 hh=>exact hc.elim (λhc=>b0j hc λp' x h1 h2 h3=>.var p x rfl ((show p'=p from(congrArg Prod.snd h1).symm)▸h2) h3) λhc=>hc.elim (λhc=>a0t hc.1.symm) λhc=>a0t hc.1
 | @blk c' f args ts hB hl=>
  refine hc.elim (λhc=>b0j hc λp x h1 _ _=>?_) λhc=>hc.elim (λhc=>a0t (hc.2.1.symm.trans (c0d hB).1)) λhc=>a0a hc.2 λb h2 h3=>?_
  ·have:=hB.tag;rw[h1]at this;simp at this
  ·refine a0a (hI.made _ _ h2) λo ho ho2=>?_
   refine(List.mem_iff_getElem?.mp ho).elim λj hj=>?_
   refine u0z (hI.row j o b hj) λf' args' ts' a x1 x2 x3 x4 x5=>?_
   refine r0m (x0y x1 x2 hB hl ho2) λ_ z1 _ z3=>?_;subst z1 z3
   refine(hr _ ho).elim λpl q=>?_
   exact .blk _ _ args' o a pl rfl x1 x2 (x3▸h3) x4 (x3▸q.1) λi c hi=>(q.2 _ _ x1 i c hi).2
theorem l1u{S S':Sto}{fs:List Cel}{s:CpSt}{G:List (Int×List Tm)}{E:Int→Tm}(hS:S'.heap=s.H)(hI:CInv S fs s G)(hr: ∀p∈s.wt,g0f S fs s s.H.length p)(hE: ∀n x,a0o s.tab n=some x→Dec S' fs x (E n)):(∀(t:Tm) (c:Cel) (pos:Nat),Dec S fs c t→u0o S s pos c→(∃x,s.H[pos]?=some x∧Dec S' fs x (t.sub E)))∧∀us:List Tm,∀(cs:List Cel) (pl:Nat),DecL S fs cs us→(∀i c,cs[i]?=some c→u0o S s (pl+i) c)→∃args:List Cel,args.length=cs.length∧(∀i x,args[i]?=some x→s.H[pl+i]?=some x)∧DecL S' fs args (Tm.subL E us):=by
 refine Tm.both (λt ih c pos h hc=>?_) (λcs pl hl h=>?_) (λt us iht ihl cs pl hl h=>?_)
 ·cases s0y hI hr h hc with
  |var p x e h hx=>exact⟨x,hx,e▸hE _ _ h⟩
  |atm k e hx=>exact⟨_,hx,e▸ .con⟩
  |int k e hx=>exact⟨_,hx,e▸ .int⟩
  |blk f ts args o a pl e hB hl hx h6 ep hq=>exact a0q (ih _ _ e args pl hl hq) λas a1 a2 a3=>⟨_,hx,e▸ .blk (o1f hB (λhf=>by rw[hS];exact h6 hf) a1 λi x hx=>by rw[hS,ep,Int.toNat_natCast];exact a2 i x hx) a3⟩
 ·cases hl;exact⟨[],rfl,λi x hx=>by trivial,.nil⟩
 ·cases hl with
  | @cons c cs' _ _ hc hl=>
  refine a0a (iht c pl hc (by simpa using h 0 c rfl)) λx h1 h2=>?_
  refine a0q (ihl cs' (pl+1) hl λi u hu=>by
   have:=h (i+1) u (by simpa using hu)
   rwa [show pl+(i+1)=pl+1+i by exact LA [_,_] [] 1372615949549954 rfl]at this) λargs e1 e2 e3=>?_
  refine⟨x::args,by simp[e1],λi y hx=>?_,.cons h2 e3⟩
  cases i with
  |zero=>simp at hx;subst hx;exact h1
  |succ i=>rw[show pl+(i+1)=pl+1+i by exact LA [_,_] [] 1372615949549954 rfl];exact e2 i y (by simpa using hx)
theorem i1h{S:Sto}{fs:List Cel}{s:CpSt}{G:List (Int×List Tm)}(hI:CInv S fs s G)(hr: ∀p∈s.wt,g0f S fs s s.H.length p):(∀(t:Tm) (c:Cel) (pos:Nat),Dec S fs c t→u0o S s pos c→∀n,b0u n t→(∃x,a0o s.tab n=some x))∧∀us:List Tm,∀(cs:List Cel) (pl:Nat),DecL S fs cs us→(∀i c,cs[i]?=some c→u0o S s (pl+i) c)→∀n,a0z n us→∃x,a0o s.tab n=some x:=by
 refine Tm.both (λt ih c pos h hc n hn=>?_) (λcs pl hl h n hn=>hn.elim) (λt us iht ihl cs pl hl h n hn=>?_)
 ·cases s0y hI hr h hc with
  |var p x e h hx=>rw[e]at hn;exact⟨x,(show p=n from hn)▸h⟩
  |atm k e hx=>rw[e]at hn;exact hn.elim
  |int k e hx=>rw[e]at hn;exact hn.elim
  |blk f ts args o a pl e hB hl hx h6 ep hq=>rw[e]at hn;exact ih _ _ e args pl hl hq n hn
 ·cases hl with
  | @cons c cs' _ _ hc hl=>
  rcases hn with hn|hn
  ·exact iht c pl hc (by simpa using h 0 c rfl) n hn
  ·refine ihl cs' (pl+1) hl (λi u hu=>?_) n hn
   have:=h (i+1) u (by simpa using hu)
   rwa [show pl+(i+1)=pl+1+i by exact LA [_,_] [] 1372615949549954 rfl]at this
noncomputable def c1l(fs:List Cel)(c:Cel)(S:Sto)(tab:b0b)(x:Cel)(S':Sto)(tab':b0b):Prop:=
 (∃q,a0i S q c=some x∧isV x=false∧isC x=false∧S'=S∧tab'=tab)∨
 (∃q p,a0i S q c=some (0,p)∧a0o tab p=some x∧S'=S∧tab'=tab)∨
 (∃q p,a0i S q c=some (0,p)∧a0o tab p=none∧S.heap.length<100000∧tab.length≤100000∧x=(0,(S.heap.length:Int))∧S'={S with heap:=S.heap++[(0,(S.heap.length:Int))]}∧tab'=tab++[(p,(0,(S.heap.length:Int)))])∨
 (∃q j d f args s',a0i S q c=some d∧IsBlk S fs d f args∧S.heap.length+2+args.length≤100000∧CpRun S fs j 0 ⟨S.heap++blk f S.heap.length args.length,tab,[(d.2,a0f f S.heap.length)],[(d,a0f f S.heap.length)]⟩ s'∧x=a0f f S.heap.length∧S'={S with heap:=s'.H}∧tab'=s'.tab)
theorem a1e{fs:List Cel}{S:Sto}{tab:b0b}{c:Cel}{t:Tm}(h:Dec S fs c t)(b1:S.heap.length+2*t.size<30000)(b2:tab.length+t.size<30000): ∃x S' tab',c1l fs c S tab x S' tab'∧PutOk fs S tab t x S' tab':=by
 have hz:=b0c t
 have hal:=l0f t
 refine c0e (h.deref) λq d ed hd=>?_
 cases hd with
 |con=>exact⟨_,S,tab,.inl ⟨q,ed,rfl,rfl,rfl,rfl⟩,h0g (λm hm=>hm.elim) λE hE=>.con⟩
 |int=>exact⟨_,S,tab,.inl ⟨q,ed,rfl,rfl,rfl,rfl⟩,h0g (λm hm=>hm.elim) λE hE=>.int⟩
 | @var p h0 hh=>
  cases h:a0o tab p with
  |some x=>exact⟨x,S,tab,.inr (.inl ⟨q,p,ed,h,rfl,rfl⟩),h0g (λm hm=>by simp only[n0x,n0w]at hm;subst hm;exact⟨x,h⟩) λE hE=>hE _ x h⟩
  |none=>
   refine h0o (y0x (fs:=fs) (S:=S) (tab:=tab) (t:=.v p) trivial b1 b2) λc' S' tab' h1 h2=>?_
   rcases h1 with⟨h1,_⟩|⟨h1,h3,h4,rfl,rfl,rfl⟩
   ·rw[h]at h1;(exact b0n h1)
   ·exact⟨_,_,_,.inr (.inr (.inl ⟨q,p,ed,h,h3,h4,rfl,rfl,rfl⟩)),h2⟩
 | @blk _ f args us hBk hl=>
  have hlen:=hl.length
  have hf:f=0→us.length=2:=λe=>by rcases hBk.k with⟨_,_,h⟩|⟨_,_,h,_⟩<;>omega
  have bl:=l0h (a:=S.heap.length) hf
  have hls:=b0i us
  simp only[e0g,e0d,e0e,e0f,a1i,a1f,a1g,a1h]at b1 b2 hal
  have hrows:b0f (S.heap++blk f S.heap.length us.length) S.heap.length [(bs (a0f f S.heap.length),us)]:=b0f.app (r:=[]) hf (Nat.le_refl S.heap.length)
  have h6:f≠0→(S.heap++blk f S.heap.length us.length)[S.heap.length]?=some (6,f):=λhf0=>by
   simp only[blk,if_neg hf0]
   rw[List.getElem?_append_right (Nat.le_refl _),Nat.sub_self];rfl
  rw[←hlen]at hrows h6 bl
  refine i1y (i1r (S:=S) (fs:=fs) (lo:=S.heap.length) (B1:=S.heap.length+(us.length+1)+Tm.alL us) (B2:=tab.length+Tm.sizeL us) (B3:=1+Tm.sizeL us) (tab0:=tab) (by exact LA [_,_,_,_,_] [] 341758013418223092404370614677292779068237709437547321228062953647326146517242325309443413347676200 rfl b1 b2 hal) (Nat.le_refl _) (q0x [(bs (a0f f S.heap.length),us)]) 0 S.heap.length ⟨S.heap++blk f S.heap.length args.length,tab,[(d.2,a0f f S.heap.length)],[(d,a0f f S.heap.length)]⟩ [(bs (a0f f S.heap.length),us)] (Nat.le_refl _) (Nat.zero_le _) (Nat.le_refl _) hrows
   ⟨λ_ _ h=>h,λ_ _ h=>.inl h,λn m x a b c d=>by(rw[a]at c;(exact b0n c))⟩
   ⟨λp x hx=>by simp only;rw[List.getElem?_append_left (List.getElem?_eq_some_iff.mp hx).1];exact hx,rfl,by exact Nat.le_refl _,λj o w hj=>by
    have e0:j=0:=by have:=(List.getElem?_eq_some_iff.mp hj).1;simp at this;omega
    subst e0
    simp at hj;refine a0m (hj) λz0 z1=>?_;subst z0;subst z1
    exact⟨f,args,us,S.heap.length,hBk,hl,rfl,h6,rfl⟩,λa b hab=>by
    simp only[a0o,List.find?_cons,List.find?_nil]at hab
    split at hab
    ·rename_i e;simp at hab e;subst hab;exact⟨d,by exact .head _,e⟩
    ·exact b0n hab⟩ (by simp[o0v];exact LA [_,_,_] [] 8718848642719302379559223368 rfl hlen bl) (by exact Nat.le_refl _) (by exact Nat.le_refl _) (λj p hj=>by omega)) λj s' G' r1 r2 r3 r4 r5 r6 r7=>?_
  have hap:=m0m (B:=blk f S.heap.length args.length) r2.low
  have hwt:(d,a0f f S.heap.length)∈s'.wt:=r2.wt.subset (by exact .head _)
  obtain⟨pl,e,hq⟩:=r5 _ hwt
  simp only at e hq
  refine⟨_,_,_,.inr (.inr (.inr ⟨q,j,d,f,args,s',ed,hBk,by exact LA [_,_,_,_,_] [] 276069924846978235675309447145840009319633854235950240543721449100161064 rfl b1 hal hlen,r1,rfl,rfl,rfl⟩)),rfl,rfl,rfl,hap,?_,?_,r2.tab,?_,λn m x=>r3.apart n m x,λn hn=>(i1h r4 r5).2 us args pl hl (λi t ht=>(hq _ _ hBk i t ht).2) n hn,λE hE=>?_⟩
  ·simp only[a1i,a1f,a1g,a1h];exact LA [_,_,_,_] [] 9001154358990621695967821692936 rfl r6
  ·simp only[e0g,e0d,e0e,e0f];exact LA [_,_,_] [] 8156067303748141064 rfl r7
  ·exactλn x hx=>(r3.new n x hx).imp id λz=>⟨z.1,g0k z.2 λp h1 _ h3 h4=>⟨p,h1,h3,h4⟩⟩
  ·refine a0q ((l1u (S':={S with heap:=s'.H}) rfl r4 r5 hE).2 us args pl hl λi t ht=>(hq _ _ hBk i t ht).2) λas e1 e2 e3=>?_
   exact .blk (o1f hBk (λhf0=>r2.firm _ _ (h6 hf0) (by exact nofun)) e1 λi x hx=>by simp only[e,Int.toNat_natCast];exact e2 i x hx) e3
theorem Inj.sub{P Q:Int→Prop}{f:Int→Int}(h:Inj P f)(k: ∀a,Q a→P a):Inj Q f:=λa b ha hb e=>h a b (k a ha) (k b hb) e
theorem r0x{P:Int→Prop}{f:Int→Int}(hf:Inj P f){L:List Int}(hL: ∀a∈L,P a){p:Int}(hp:P p):f p∈L.map f↔p∈L:=by
 constructor
 ·intro h
  refine a0a (List.mem_map.mp h) λq hq e=>?_
  rw[←hf q p (hL q hq) hp e];exact hq
 ·exactλh=>List.mem_map_of_mem h
theorem t0h(a p:Int)(L:List Int):idx (a::L) p=if a=p then 0 else idx L p+1:=by
 simp only[idx,List.idxOf_cons]
 by_cases h:a=p
 ·subst h;simp
 ·have:(a==p)=false:=by exact decide_eq_false ‹_›
  rw[this,if_neg h];simp
theorem r0r{P:Int→Prop}{f:Int→Int}(hf:Inj P f): ∀{L:List Int},(∀a∈L,P a)→∀{p:Int},P p→idx (L.map f) (f p)=idx L p
 |[],_,p,_=>rfl
 |a::L,hL,p,hp=>by
  rw[List.map_cons,t0h,t0h,r0r hf (λx hx=>hL x (List.mem_cons_of_mem _ hx)) hp]
  by_cases e:a=p
  ·subst e;simp
  ·rw[if_neg e,if_neg λq=>e (hf a p (hL a (by exact .head _)) hp q)]
mutual
theorem p0m{P:Int→Prop}{f:Int→Int}(hf:Inj P f): ∀(t:Tm) (L:List Int),(∀a∈L,P a)→(∀p,b0u p t→P p)→a0r (L.map f) (t.ren f)=(a0r L t).map f
 | .v k,L,hL,hv=>by
  have hk:=hv k rfl
  have:=r0x hf hL hk
  simp only[Tm.ren,k0i,k0f,k0g,k0h,k0e,k0d,k0b,k0c]
  by_cases h:k∈L
  ·rw[if_pos (by simpa using this.mpr h),if_pos (by simpa using h)]
  ·rw[if_neg (by simpa usingλq=>h (this.mp q)),if_neg (by simpa using h)];simp
 | .a k,L,hL,hv=>rfl
 | .i k,L,hL,hv=>rfl
 | .s g ts,L,hL,hv=>by simp only[Tm.ren,k0i,k0f,k0g,k0h,k0e,k0d,k0b,k0c];exact d0v hf ts L hL hv
theorem d0v{P:Int→Prop}{f:Int→Int}(hf:Inj P f): ∀(ts:List Tm) (L:List Int),(∀a∈L,P a)→(∀p,a0z p ts→P p)→a0g (L.map f) (Tm.renL f ts)=(a0g L ts).map f
 |[],L,hL,hv=>rfl
 |t::ts,L,hL,hv=>by
  have h1:=p0m hf t L hL λp hp=>hv p (.inl hp)
  simp only[Tm.renL,p0h,p0g,r0l,r0k]at h1⊢
  simp only[Tm.ren]at h1
  rw[h1]
  exact d0v hf ts (a0r L t) (λa ha=>(i0h t ha).elim (hL a) λq=>hv a (.inl q)) λp hp=>hv p (.inr hp)
end
mutual
theorem r0o: ∀(t:Tm) {L:List Int},L.Nodup→(a0r L t).Nodup
 | .v k,L,h=>by
  simp only[k0e,k0d,k0b,k0c]
  split
  ·exact h
  ·rename_i hk
   exact List.nodup_append.mpr ⟨h,by simp,λx hx y hy=>by simp at hy;subst hy;rintro rfl;exact hk (by simpa using hx)⟩
 | .a k,L,h=>h
 | .i k,L,h=>h
 | .s g ts,L,h=>by simp only[k0e,k0d,k0b,k0c];exact c0s ts h
theorem c0s: ∀(ts:List Tm) {L:List Int},L.Nodup→(a0g L ts).Nodup
 |[],L,h=>h
 |t::ts,L,h=>by simp only[r0l,r0k];exact c0s ts (r0o t h)
end
theorem e1q{L:List Int}:Inj (λp=>p∈L) (idx L):=λa b ha hb e=>by
 simp only[idx,Int.natCast_inj]at e
 have h1:=List.getElem_idxOf (List.idxOf_lt_length_of_mem ha)
 have h2:=List.getElem_idxOf (List.idxOf_lt_length_of_mem hb)
 rw[←h1,←h2]
 congr 1
theorem p0r: ∀{L:List Int},L.Nodup→L.map (idx L)=(List.range L.length).map λ(i:Nat)=>(i:Int):=by
 intro L
 induction L using l0a with
 |h0=>intro _;rfl
 |h1 L q ih=>
  intro h
  have h':=List.nodup_append.mp h
  have hq:q∉L:=λhx=>h'.2.2 q hx q (by exact .head _) rfl
  rw[List.map_append,List.length_append,List.length_singleton,List.range_succ,List.map_append]
  congr 1
  ·rw[←ih h'.1]
   exact List.map_congr_left λp hp=>r0q hp
  ·simp[r0s hq]
noncomputable def a0l(ts:List Tm):List Tm:=Tm.renL (idx (a0g [] ts)) ts
theorem d0t{P:Int→Prop}{f:Int→Int}(hf:Inj P f){ts:List Tm}(hv: ∀p,a0z p ts→P p):a0l (Tm.renL f ts)=a0l ts:=by
 unfold a0l
 have h1:=d0v hf ts [] (λa h=>by simp at h) hv
 simp only[List.map_nil]at h1
 rw[h1,y0y]
 refine n0d ts λp hp=>?_
 exact r0r hf (λa ha=>(i0e ts ha).elim (λq=>by simp at q) (hv a)) (hv p hp)
theorem d0e{ts:List Tm}{p:Int}:p∈a0g [] ts↔a0z p ts:=⟨λh=>(i0e ts h).elim (λq=>by simp at q) id,l0j ts p⟩
theorem l0k{t:Tm}{p:Int}:p∈a0r [] t↔b0u p t:=⟨λh=>(i0h t h).elim (λq=>by simp at q) id,f0e t p⟩
theorem k0u(ts:List Tm):Inj (λp=>a0z p ts) (idx (a0g [] ts)):=e1q.sub λa h=>d0e.mpr h
theorem r0e(ts:List Tm):a0l (a0l ts)=a0l ts:=d0t (k0u ts) λp hp=>hp
theorem v0b(ts:List Tm):a0g [] (a0l ts)=(List.range (a0g [] ts).length).map λ(i:Nat)=>(i:Int):=by
 have h1:=d0v (k0u ts) ts [] (λa h=>by simp at h) λp hp=>hp
 simp only[List.map_nil]at h1
 unfold a0l
 rw[h1]
 exact p0r (c0s ts List.nodup_nil)
theorem r0w(ts:List Tm):b0p [] [] ts (a0l ts)=(true,gF (idx (a0g [] ts)) (a0g [] ts),gB (idx (a0g [] ts)) (a0g [] ts)):=by
 have:=j0r (k0u ts) ts [] (λa h=>by simp at h) λp hp=>hp
 simp only[gF,gB,List.map_nil]at this
 exact this
theorem g0x{n:Nat}{ks:List Int}(hp:ks.Perm ((List.range n).map λ(i:Nat)=>(i:Int)))(hs:ks.Pairwise (· ≤ ·)):ks=(List.range n).map λ(i:Nat)=>(i:Int):=by
 refine hp.eq_of_pairwise (le:=(· ≤ ·)) (λa b _ _ h1 h2=>Int.le_antisymm h1 h2) hs ?_
 rw[List.pairwise_map]
 exact List.Pairwise.imp (λh=>by exact LA [_,_] [] 1718594076712 rfl h) List.pairwise_lt_range
theorem u0s(ts:List Tm):(gB (idx (a0g [] ts)) (a0g [] ts)).map (·.1)=(List.range (a0g [] ts).length).map λ(i:Nat)=>(i:Int):=by
 rw[←p0r (c0s ts List.nodup_nil)];exact List.map_map
mutual
theorem x0v{f:Int→Int}: ∀t:Tm,grT (t.ren f)=grT t
 | .v k=>rfl
 | .a k=>rfl
 | .i k=>rfl
 | .s g ts=>by have:=x0w (f:=f) ts;unfold Tm.renL at this;assumption
theorem x0w{f:Int→Int}: ∀ts:List Tm,grL (Tm.renL f ts)=grL ts
 |[]=>rfl
 |t::ts=>by have:=x0w (f:=f) ts;have h:=x0v (f:=f) t;unfold Tm.renL at*;unfold Tm.ren at h;simp only[p0h,p0g,i1v,i1u,this,h]
end
mutual
theorem c1q: ∀t:Tm,grT t=true↔∀p,¬b0u p t
 | .v k=>⟨λh=>by simp[e1f,e1c,e1d,e1e]at h,λh=>absurd rfl (h k)⟩
 | .a k=>⟨λ_ p h=>h,λ_=>rfl⟩
 | .i k=>⟨λ_ p h=>h,λ_=>rfl⟩
 | .s g ts=>by simp only[e1f,e1c,e1d,e1e,n0x,n0w];exact x0u ts
theorem x0u: ∀ts:List Tm,grL ts=true↔∀p,¬a0z p ts
 |[]=>⟨λ_ p h=>h,λ_=>rfl⟩
 |t::ts=>by
  simp only[i1v,i1u,Bool.and_eq_true,c1q t,x0u ts,g1f,g1e,not_or]
  exact⟨λh p=>⟨h.1 p,h.2 p⟩,λh=>⟨λp=>(h p).1,λp=>(h p).2⟩⟩
end
theorem e1p(t:Tm):grT t=decide (a0r [] t=[]):=by
 rw[Bool.eq_iff_iff,c1q,decide_eq_true_iff]
 constructor
 ·intro h
  cases e:a0r [] t with
  |nil=>rfl
  |cons a L=>exact absurd (l0k.mp (by rw[e];exact .head _:a∈a0r [] t)) (h a)
 ·intro h p hp
  have:=l0k.mpr hp
  rw[h]at this;simp at this
theorem x0h(A:List Int)(ts:List Tm)(t:Tm):a0g A (ts++[t])=a0r (a0g A ts) t:=by rw[e0i];rfl
theorem d0o(f:Int→Int)(ts:List Tm):Tm.renL f ts=ts.map (Tm.ren f):=d0r _ ts
theorem v0a(A:List Int)(ts:List Tm)(i:Nat):a0g A (ts.take i)<+:a0g A ts:=by
 conv=>rhs;rw[←List.take_append_drop i ts]
 rw[e0i];exact g0m _ _
theorem b0a{α:Type}{l:List α}{i:Nat}{x:α}(h:l[i]?=some x):l.take (i+1)=l.take i++[x]:=by rw[List.take_add_one,h];rfl
theorem f0k{X:List Tm}{i:Nat}{t:Tm}(h:X[i]?=some t):a0g [] (X.take (i+1))=a0r (a0g [] (X.take i)) t∧t.ren (idx (a0r (a0g [] (X.take i)) t))=t.ren (idx (a0g [] X))∧(Tm.renL (idx (a0g [] X)) X)[i]?=some (t.ren (idx (a0g [] X))):=by
 have e:a0g [] (X.take (i+1))=a0r (a0g [] (X.take i)) t:=by rw[b0a h,x0h]
 refine⟨e,?_,by rw[d0o,List.getElem?_map,h];rfl⟩
 have hp:a0r (a0g [] (X.take i)) t<+:a0g [] X:=by rw[←e];exact v0a _ _ _
 exact(s0c hp (f0e t)).symm
theorem c0n{ts:List Tm}{i:Nat}{t:Tm}{p:Int}(h:ts[i]?=some t)(hp:b0u p t):a0z p ts:=c0f.mpr ⟨t,List.mem_of_getElem? h,hp⟩
theorem x0i{P:Int→Prop}{f:Int→Int}(hf:Inj P f){t:Tm}(hv: ∀p,b0u p t→P p):a0r [] (t.ren f)=(a0r [] t).map f:=by
 have:=p0m hf t [] (λa h=>by simp at h) hv
 assumption
structure BdT (fs:List Cel) (k:Int) (u:Tm):Prop where
 dep:u.dep≤1
 size:u.size≤3
 vars: ∀p,b0u p u→0≤p∧p<k
 wf:wfT fs u
 grow: ∀(g:Int→Tm) (B:Nat),1≤B→(∀p,b0u p u→(g p).size≤B)→(u.sub g).size≤B+2
mutual
theorem o0j{g:Int→Tm}{B:Nat}(hB:1≤B): ∀t:Tm,(∀p,b0u p t→(g p).size≤B)→(t.sub g).size≤t.size*B
 | .v k,h=>by have:=h k rfl;simp only[k0i,k0f,k0g,k0h,e0g,e0d,e0e,e0f];exact LA [_,_] [] 1148903784456 rfl this
 | .a k,h=>by simp only[k0i,k0f,k0g,k0h,e0g,e0d,e0e,e0f];exact LA [_] [] 49627012104 rfl hB
 | .i k,h=>by simp only[k0i,k0f,k0g,k0h,e0g,e0d,e0e,e0f];exact LA [_] [] 49627012104 rfl hB
 | .s f ts,h=>by
  have:=i0w hB ts h
  simp only[k0i,k0f,k0g,k0h,e0g,e0d,e0e,e0f]
  rw[Nat.add_mul];exact LA [_,_,_] [] 54395090337112346598408 rfl hB this
theorem i0w{g:Int→Tm}{B:Nat}(hB:1≤B): ∀ts:List Tm,(∀p,a0z p ts→(g p).size≤B)→Tm.sizeL (Tm.subL g ts)≤Tm.sizeL ts*B
 |[],h=>by exact Nat.zero_le _
 |t::ts,h=>by
  have h1:=o0j hB t λp hp=>h p (.inl hp)
  have h2:=i0w hB ts λp hp=>h p (.inr hp)
  simp only[p0h,p0g,f0z,f0y]
  rw[Nat.add_mul];exact LA [_,_,_,_] [] 3592575888266673291272 rfl h1 h2
end
mutual
theorem w0w{g:Int→Tm}{D:Nat}: ∀t:Tm,(∀p,b0u p t→(g p).dep≤D)→(t.sub g).dep≤t.dep+D
 | .v k,h=>by have:=h k rfl;simp only[k0i,k0f,k0g,k0h,q0w,q0t,q0u,q0v];exact LA [_,_] [] 1318554992648 rfl this
 | .a k,h=>by exact Nat.zero_le _
 | .i k,h=>by exact Nat.zero_le _
 | .s f ts,h=>by
  have:=k0q ts h
  simp only[k0i,k0f,k0g,k0h,q0w,q0t,q0u,q0v];exact LA [_,_,_] [] 2621036683037462888456 rfl this
theorem k0q{g:Int→Tm}{D:Nat}: ∀ts:List Tm,(∀p,a0z p ts→(g p).dep≤D)→Tm.depL (Tm.subL g ts)≤Tm.depL ts+D
 |[],h=>by exact Nat.zero_le _
 |t::ts,h=>by
  have h1:=w0w t λp hp=>h p (.inl hp)
  have h2:=k0q ts λp hp=>h p (.inr hp)
  simp only[p0h,p0g,w0z,w0y];exact LA [_,_,_,_,_] [] 2768608799893522827305880353374216 rfl h1 h2
end
mutual
theorem d1d{fs:List Cel}{g:Int→Tm}: ∀t:Tm,wfT fs t→(∀p,b0u p t→wfT fs (g p))→wfT fs (t.sub g)
 | .v k,_,h=>h k rfl
 | .a k,_,h=>trivial
 | .i k,_,h=>trivial
 | .s f ts,w,h=>by
  have:=s0j ts w.2 h
  simp only[k0i,k0f,k0g,k0h,n1w,a0v];exact⟨w.1,this⟩
theorem s0j{fs:List Cel}{g:Int→Tm}: ∀ts:List Tm,wfL fs ts→(∀p,a0z p ts→wfT fs (g p))→wfL fs (Tm.subL g ts)
 |[],_,h=>trivial
 |t::ts,w,h=>⟨d1d t w.1 λp hp=>h p (.inl hp),s0j ts w.2 λp hp=>h p (.inr hp)⟩
end
theorem t0p{f:Tm→Option Tm}{h:Tm→Tm}: ∀{ts:List Tm},(∀t∈ts,f t=some (h t))→g1j f ts=some (ts.map h)
 |[],_=>rfl
 |t::ts,e=>by
  show((f t).bind λu=>(g1j f ts).map λus=>u::us)=_
  rw[e t (by exact .head _),t0p λu hu=>e u (List.mem_cons_of_mem _ hu)];rfl
theorem u0e{ts:List Tm}{t:Tm}(h:t∈ts):t.size≤Tm.sizeL ts:=by
 induction ts with
 |nil=>(exact absurd h nofun)
 |cons u ts ih=>
  simp only[f0z,f0y]
  rcases List.mem_cons.mp h with rfl|h
  ·exact LA [_,_] [] 1060864 rfl
  ·have:=ih h;omega
theorem g0n{bd:e0u}{g:Int→Tm}{N0:Nat}: ∀(D:Nat) (t:Tm),t.dep≤D→t.size≤1000→(∀p,b0u p t→∀n,N0≤n→g0c bd n (.v p)=some (g p))→∀n,N0+D+1≤n→g0c bd n t=some (t.sub g)
 |D,.v k,hd,hs,h,n,hn=>h k rfl n (by exact LA [_,_,_] [] 2251876083314696 rfl hn)
 |D,.a k,hd,hs,h,n,hn=>by obtain _|n:=n;omega;rfl
 |D,.i k,hd,hs,h,n,hn=>by obtain _|n:=n;omega;rfl
 |0,.s f ts,hd,hs,h,n,hn=>by simp[q0w,q0t,q0u,q0v]at hd
 |D+1,.s f ts,hd,hs,h,n,hn=>by
  obtain _|n:=n
  ·omega
  simp only[q0w,q0t,q0u,q0v,e0g,e0d,e0e,e0f]at hd hs
  have:=b0i ts
  simp only[a1m,a1l,a1j,a1k]
  rw[if_pos (by exact LA [_,_] [] 3894224308592011515838470558855176 rfl hs this),t0p (h:=Tm.sub g) λt ht=>g0n D t (by have:=Tm.dep_mem ht;exact LA [_,_,_] [] 1254380857850158133256 rfl hd this) (by have:=u0e ht;exact LA [_,_] [] 3894224308592011515838470558855176 rfl hs this) (λp hp=>h p (c0f.mpr ⟨t,ht,hp⟩)) n (by exact LA [_,_,_] [] 2747902998060242022059880456 rfl hn)]
  simp only[Option.map_some,k0i,k0f,k0g,k0h,d0r]
noncomputable def z0t(fs:List Cel)(bd:e0u):Prop:=∀k u,g0r bd k=some u→0≤k∧k<4∧BdT fs k u
noncomputable def b0x(bd:e0u)(k:Int):Tm:=(g0c bd 20 (.v k)).getD (.v k)
structure FullOk (fs:List Cel) (bd:e0u) (k:Int):Prop where
 run: ∀n,3*k.toNat+3≤n→g0c bd n (.v k)=some (b0x bd k)
 vars: ∀p,b0u p (b0x bd k)→0≤p∧p≤k∧g0r bd p=none
 size:(b0x bd k).size≤2*k.toNat+3
 dep:(b0x bd k).dep≤k.toNat+1
 wf:wfT fs (b0x bd k)
theorem x0k{bd:e0u}{k:Int}(h:g0r bd k=none): ∀n,1≤n→g0c bd n (.v k)=some (.v k):=λn hn=>by
 obtain _|n:=n
 ·omega
 ·simp only[a1m,a1l,a1j,a1k,h]
theorem t0c{bd:e0u}{k:Int}(h:g0r bd k=none):b0x bd k=.v k:=by unfold b0x;rw[x0k h 20 (by exact LA [] [] 665824 rfl)];rfl
theorem a1q{fs:List Cel}{bd:e0u}(hb:z0t fs bd): ∀k:Nat,k<4→FullOk fs bd k:=by
 intro k
 induction k using Nat.strongRecOn with
 |_ k ih=>
 intro hk
 cases e:g0r bd (k:Int)with
 |none=>
  have hV:=t0c e
  refine⟨λn hn=>by rw[hV];exact x0k e n (by exact LA [_,_] [] 44965181147774922760 rfl hn),λp hp=>?_,?_,?_,?_⟩
  ·rw[hV]at hp;simp only[n0x,n0w]at hp;subst hp;exact⟨by exact LA [_] [] 18627 rfl,by exact LA [_] [] 590403 rfl,e⟩
  ·rw[hV];simp only[e0g,e0d,e0e,e0f,Int.toNat_natCast];exact LA [_] [] 113819201760 rfl
  ·rw[hV];exact Nat.zero_le _
  ·rw[hV];trivial
 |some u=>
  refine b0l (hb _ _ e) λh0 h4 hu=>?_
  have hv: ∀p,b0u p u→FullOk fs bd p∧p.toNat<k∧0≤p:=λp hp=>by
   have:=hu.vars p hp
   have e2:((p.toNat:Nat):Int)=p:=by exact LA [_] [_] 152890628494556597448 rfl this
   have:=ih p.toNat (by exact LA [_] [_] 165543093586824392 rfl this) (by exact LA [_] [_] 5344171123895031170664300584 rfl hk this)
   rw[e2]at this
   exact⟨this,by exact LA [_] [_] 165543093586824392 rfl (by assumption),by exact LA [_] [_] 150976763542047944 rfl (by assumption)⟩
  have run: ∀n,3*k+3≤n→g0c bd n (.v k)=some (u.sub (b0x bd)):=λn hn=>by
   obtain _|n:=n
   ·omega
   simp only[a1m,a1l,a1j,a1k,e]
   exact g0n (N0:=3*k) 1 u hu.dep (by have:=hu.size;exact LA [_] [] 3458765991292764168 rfl this) (λp hp m hm=>(hv p hp).1.run m (by have:=(hv p hp).2;exact LA [_,_] [_] 45844073244128515657153843420051464 rfl hm this)) n (by exact LA [_,_] [] 48550591237366632187434577928 rfl hn)
  have hV:b0x bd k=u.sub (b0x bd):=by
   have:=run 20 (by exact LA [_] [] 749518327177036496936 rfl hk)
   conv=>lhs;unfold b0x
   rw[this];rfl
  refine⟨λn hn=>by rw[hV];exact run n (by simpa using hn),λp hp=>?_,?_,?_,?_⟩
  ·rw[hV,h0b]at hp
   refine a0a (hp) λq hq hp=>?_
   have:=(hv q hq).1.vars p hp
   have h2:=hu.vars q hq
   exact⟨this.1,by exact LA [_] [_,_] 684854474774831324893288 rfl this.2.1 h2,this.2.2⟩
  ·rw[hV,Int.toNat_natCast]
   refine hu.grow _ (2*k+1) (by exact LA [_] [] 7518761184 rfl) λp hp=>Nat.le_trans (hv p hp).1.size ?_
   have:=(hv p hp).2;exact LA [_] [_] 284050762011695321607010278540488 rfl this
  ·rw[hV,Int.toNat_natCast]
   refine Nat.le_trans (w0w (D:=k) u λp hp=>?_) (by have:=hu.dep;exact LA [_,_] [] 7929712622141448 rfl this)
   refine Nat.le_trans (hv p hp).1.dep ?_
   have:=(hv p hp).2;exact LA [_] [_] 263564165600034522312 rfl this
  ·rw[hV];exact d1d u hu.wf λp hp=>(hv p hp).1.wf
theorem g0o{fs:List Cel}{bd:e0u}(hb:z0t fs bd){k:Int}(h0:0≤k)(h4:k<4):FullOk fs bd k:=by
 have e2:((k.toNat:Nat):Int)=k:=by exact LA [] [_] 4556495919208 rfl h0
 have:=a1q hb k.toNat (by exact LA [] [_] 151890482761864 rfl h4)
 rwa [e2]at this
theorem x0j{fs:List Cel}{bd:e0u}(hb:z0t fs bd){k:Int}{u:Tm}(e:g0r bd k=some u):b0x bd k=u.sub (b0x bd):=by
 refine b0l (hb _ _ e) λh0 h4 hu=>?_
 have hv: ∀p,b0u p u→FullOk fs bd p:=λp hp=>g0o hb (hu.vars p hp).1 (by have:=(hu.vars p hp).2;exact LA [] [_,_] 4977748800052727944 rfl h4 this)
 conv=>lhs;unfold b0x
 simp only[a1m,a1l,a1j,a1k,e]
 rw[g0n (N0:=12) 1 u hu.dep (by have:=hu.size;exact LA [_] [] 3458765991292764168 rfl this) (λp hp m hm=>(hv p hp).run m (by have:=(hu.vars p hp).2;exact LA [_] [_,_] 134592688326565231288590692323464 rfl h4 hm this)) 19 (by exact LA [] [] 21242082308480 rfl)]
 rfl
theorem a1p{fs:List Cel}{bd:e0u}(hb:z0t fs bd){t:Tm}(ht: ∀p,b0u p t→0≤p∧p<4)(hd:t.dep≤5)(hs:t.size≤1000):g0c bd 20 t=some (t.sub (b0x bd)):=
 g0n (N0:=12) 5 t hd hs (λp hp m hm=>(g0o hb (ht p hp).1 (ht p hp).2).run m (by have:=(ht p hp).2;exact LA [_] [_] 128319811101259097568585736 rfl hm this)) 20 (by exact LA [] [] 714928793399680 rfl)
structure BInv (fs:List Cel) (S:Sto) (tab:b0b) (bd:e0u) (E:Int→Tm):Prop where
 dec: ∀n x,a0o tab n=some x→Dec S fs x (E n)
 ok:z0t fs bd
 bnd: ∀k u,g0r bd k=some u→a0o tab k≠none∧E k=u.sub E∧∀q,b0u q u→a0o tab q≠none
 fre: ∀k,a0o tab k≠none→g0r bd k=none→∃a,E k=.v a
 inj: ∀j k,a0o tab j≠none→a0o tab k≠none→g0r bd j=none→g0r bd k=none→E j=E k→j=k
structure FInv (fs:List Cel) (S:Sto) (tab:b0b) (E:Int→Tm) (first:List Cel) (ts:List Tm):Prop where
 dec:DecL S fs first (Tm.subL E ts)
 vars: ∀p,a0z p ts→a0o tab p≠none
theorem FInv.nil{fs:List Cel}{S:Sto}{tab:b0b}{E:Int→Tm}:FInv fs S tab E [] []:=⟨.nil,λp h=>h.elim⟩
theorem DecL.mono{S S':Sto}{fs:List Cel}{g:Int→Tm}(k: ∀c t,Dec S fs c t→Dec S' fs c (t.sub g)): ∀{cs:List Cel} {ts:List Tm},DecL S fs cs ts→DecL S' fs cs (Tm.subL g ts)
 |[],[],_=>.nil
 |[],_::_,h=>by(exact absurd h nofun)
 |_::_,[],h=>by(exact absurd h nofun)
 |c::cs,t::ts,h=>by
  cases h with
  |cons a b=>exact .cons (k c t a) (DecL.mono k b)
theorem DecL.ext{S S':Sto}{fs:List Cel}(k: ∀c t,Dec S fs c t→Dec S' fs c t){cs:List Cel}{ts:List Tm}(h:DecL S fs cs ts):DecL S' fs cs ts:=by
 have:=DecL.mono (g:=.v) (S':=S') (λc t h=>by rw[v0r];exact k c t h) h
 rwa [u0g]at this
theorem DecL.snoc{S:Sto}{fs:List Cel}{c:Cel}{t:Tm}: ∀{cs:List Cel} {ts:List Tm},DecL S fs cs ts→Dec S fs c t→DecL S fs (cs++[c]) (ts++[t])
 |[],[],_,h=>.cons h .nil
 |[],_::_,h,_=>by(exact absurd h nofun)
 |_::_,[],h,_=>by(exact absurd h nofun)
 |c'::cs,t'::ts,h,hc=>by
  cases h with
  |cons a b=>exact .cons a (DecL.snoc b hc)
theorem FInv.snoc{fs:List Cel}{S:Sto}{tab:b0b}{E:Int→Tm}{first:List Cel}{ts:List Tm}{c:Cel}{t:Tm}(h:FInv fs S tab E first ts)(hc:Dec S fs c (t.sub E))(hv: ∀p,b0u p t→a0o tab p≠none):FInv fs S tab E (first++[c]) (ts++[t]):=
 ⟨by have:=h.dec.snoc hc;rw[d0r]at this⊢;simpa using this,λp hp=>by
  refine a0a (c0f.mp hp) λu hu hp'=>?_
  rcases List.mem_append.mp hu with hu|hu
  ·exact h.vars p (c0f.mpr ⟨u,hu,hp'⟩)
  ·simp only[List.mem_singleton]at hu;rw[hu]at hp';exact hv p hp'⟩
theorem g0l{E:Int→Tm}{tab tab':b0b}{n:Int}(h:a0o tab n≠none):Internal.ext E tab tab' n=E n:=by
 refine a0k (Option.ne_none_iff_exists'.mp h) λx hx=>?_
 simp only[Internal.ext,hx]
theorem PutOk.binv{fs:List Cel}{S S':Sto}{tab tab':b0b}{t:Tm}{c:Cel}{bd:e0u}{E:Int→Tm}(h:PutOk fs S tab t c S' tab')(I:BInv fs S tab bd E):BInv fs S' tab' bd (Internal.ext E tab tab'):=by
 have keep: ∀n,a0o tab n≠none→a0o tab' n≠none:=λn hn=>by
  refine a0k (Option.ne_none_iff_exists'.mp hn) λx hx=>?_
  rw[h.old n x hx];exact Option.some_ne_none _
 have new: ∀k,a0o tab' k≠none→a0o tab k=none→∃p:Nat,S.heap.length≤p∧a0o tab' k=some (0,(p:Int))∧Internal.ext E tab tab' k=.v p:=λk hk h0=>by
  refine a0k (Option.ne_none_iff_exists'.mp hk) λx hx=>?_
  rcases h.new k x hx with q|⟨_,p,h1,rfl,h3⟩
  ·rw[h0]at q;(exact b0n q)
  ·exact⟨p,h1,hx,by simp only[Internal.ext,h0,hx,Option.getD_some]⟩
 have low: ∀k a,a0o tab k≠none→E k=.v a→0≤a∧a<S.heap.length:=λk a hk e=>by
  refine a0k (Option.ne_none_iff_exists'.mp hk) λx hx=>?_
  have:=(I.dec k x hx).fv a (by rw[e];rfl)
  have h2:=(List.getElem?_eq_some_iff.mp this.2).1
  exact⟨this.1,by exact LA [_] [_] 622904626216 rfl h2⟩
 refine⟨h.ext I.dec,I.ok,λk u e=>?_,λk hk hb=>?_,λj k hj hk bj bk e=>?_⟩
 ·refine b0l (I.bnd k u e) λh1 h2 h3=>?_
  refine⟨keep k h1,?_,λq hq=>keep q (h3 q hq)⟩
  rw[g0l h1,h2]
  exact f0j u λp hp=>(g0l (h3 p hp)).symm
 ·by_cases h0:a0o tab k=none
  ·refine a0q (new k hk h0) λp _ _ e=>?_
   exact⟨_,e⟩
  ·rw[g0l h0];exact I.fre k h0 hb
 ·by_cases h0:a0o tab j=none<;>by_cases h1:a0o tab k=none
  ·refine a0q (new j hj h0) λp _ e1 e2=>?_
   refine a0q (new k hk h1) λq _ e3 e4=>?_
   rw[e2,e4]at e
   replace e:=Tm.vinj e
   rw[e]at e1
   exact h.apart j k _ h0 h1 e1 e3
  ·refine a0q (new j hj h0) λp hp e1 e2=>?_
   refine a0k (I.fre k h1 bk) λa ha=>?_
   have:=low k a h1 ha
   rw[e2,g0l h1,ha]at e
   replace e:=Tm.vinj e;exact LA [_,_] [_,_,_] 92742910560793097051067639693320 rfl hp this e
  ·refine a0q (new k hk h1) λp hp e1 e2=>?_
   refine a0k (I.fre j h0 bj) λa ha=>?_
   have:=low j a h0 ha
   rw[e2,g0l h0,ha]at e
   replace e:=Tm.vinj e;exact LA [_,_] [_,_,_] 92742814526748301413962573971464 rfl hp this e
  ·rw[g0l h0,g0l h1]at e
   exact I.inj j k h0 h1 bj bk e
theorem PutOk.finv{fs:List Cel}{S S':Sto}{tab tab':b0b}{t:Tm}{c:Cel}{E:Int→Tm}{first:List Cel}{ts:List Tm}(h:PutOk fs S tab t c S' tab')(I:FInv fs S tab E first ts):FInv fs S' tab' (Internal.ext E tab tab') first ts:=by
 refine a0k (h.app) λX hX=>?_
 refine⟨?_,λp hp=>?_⟩
 ·rw[c0b (h:=E) ts λp hp=>g0l (I.vars p hp)]
  exact I.dec.ext λc t q=>q.app hX
 ·refine a0k (Option.ne_none_iff_exists'.mp (I.vars p hp)) λx hx=>?_
  rw[h.old p x hx];exact Option.some_ne_none _
theorem BInv.full{fs:List Cel}{S:Sto}{tab:b0b}{bd:e0u}{E:Int→Tm}(I:BInv fs S tab bd E): ∀k:Nat,k<4→a0o tab k≠none→E k=(b0x bd k).sub E∧∀q,b0u q (b0x bd k)→a0o tab q≠none:=by
 intro k
 induction k using Nat.strongRecOn with
 |_ k ih=>
 intro hk ht
 cases e:g0r bd (k:Int)with
 |none=>
  rw[t0c e]
  exact⟨rfl,λq hq=>by simp only[n0x,n0w]at hq;subst hq;exact ht⟩
 |some u=>
  refine b0l (I.bnd _ u e) λh1 h2 h3=>?_
  have hu:=(I.ok _ u e).2.2
  have hr: ∀p,b0u p u→E p=(b0x bd p).sub E∧∀q,b0u q (b0x bd p)→a0o tab q≠none:=λp hp=>by
   have:=hu.vars p hp
   have e2:((p.toNat:Nat):Int)=p:=by exact LA [_] [_] 152890628494556597448 rfl this
   have:=ih p.toNat (by exact LA [_] [_] 165543093586824392 rfl this) (by exact LA [_] [_] 5344171123895031170664300584 rfl hk this)
   rw[e2]at this
   exact this (h3 p hp)
  rw[x0j I.ok e,o0m]
  refine⟨by rw[h2];exact f0j u λp hp=>(hr p hp).1,λq hq=>?_⟩
  refine a0a ((h0b u).mp hq) λp hp hq=>?_
  exact(hr p hp).2 q hq
theorem BInv.full'{fs:List Cel}{S:Sto}{tab:b0b}{bd:e0u}{E:Int→Tm}(I:BInv fs S tab bd E){k:Int}(h0:0≤k)(h4:k<4)(ht:a0o tab k≠none):E k=(b0x bd k).sub E∧∀q,b0u q (b0x bd k)→a0o tab q≠none:=by
 have e2:((k.toNat:Nat):Int)=k:=by exact LA [] [_] 4556495919208 rfl h0
 have:=I.full k.toNat (by exact LA [] [_] 151890482761864 rfl h4)
 rw[e2]at this
 exact this ht
theorem Dec.avoid{S S':Sto}{fs:List Cel}{a:Nat}(ha:S.heap[a]?=some (0,(a:Int)))(H: ∀(p:Nat) (x:Cel),p≠a→S.heap[p]?=some x→S'.heap[p]?=some x){c:Cel}{t:Tm}(h:Dec S fs c t): ¬b0u a t→Dec S' fs c t:=by
 refine Dec.rec (motive_1:=λc t _=>¬b0u a t→Dec S' fs c t) (motive_2:=λargs ts _=>¬a0z a ts→DecL S' fs args ts∧∀x∈args,x≠(0,(a:Int))) ?_ ?_ ?_ ?_ ?_ ?_ ?_ h
 ·exactλ_=>.con
 ·exactλ_=>.int
 ·intro p h0 h hn
  refine .var h0 (H _ _ ?_ h)
  rintro e
  exact hn (by simp only[n0x,n0w];omega)
 ·intro p c t h0 h hne _ ih hn
  refine .ref h0 (H _ _ ?_ h) hne (ih hn)
  intro e
  rw[e,ha]at h
  cases h
  exact hne (by congr 1;exact LA [_] [_] 4632128296526682216 rfl h0 e)
 ·intro c f args ts hB hl ih hn
  refine a0m (ih hn) λh1 h2=>?_
  refine .blk ⟨hB.p0,?_,λi x hx=>?_⟩ h1
  ·rcases hB.k with h|⟨k1,k2,k3⟩
   ·exact .inl h
   ·refine .inr ⟨k1,H _ _ ?_ k2,k3⟩
    intro e
    rw[e,ha]at k2;(exact absurd k2 nofun)
  ·refine H _ _ ?_ (hB.args i x hx)
   intro e
   have:=hB.args i x hx
   rw[e,ha]at this
   exact h2 x (List.mem_of_getElem? hx) (Option.some.inj this).symm
 ·exactλ_=>⟨.nil,λx hx=>by(exact absurd hx nofun)⟩
 ·intro c cs t ts hc hcs ih1 ih2 hn
  simp only[g1f,g1e,not_or]at hn
  refine a0m (ih2 hn.2) λh1 h2=>?_
  refine⟨.cons (ih1 hn.1) h1,λx hx=>?_⟩
  rcases List.mem_cons.mp hx with rfl|hx
  ·rintro rfl
   cases hc with
   |var _ _=>exact hn.1 rfl
   |ref _ h hne _=>rw[Int.toNat_natCast,ha]at h;cases h;exact hne rfl
   |blk hB _=>have:=hB.tag;simp at this
  ·exact h2 x hx
noncomputable def upd(a:Int)(w:Tm):Int→Tm:=λx=>if x=a then w else .v x
theorem v0q{a:Int}{w t:Tm}(h: ¬b0u a t):t.sub (upd a w)=t:=by
 conv=>rhs;rw[←v0r t]
 refine f0j t λp hp=>?_
 unfold upd
 rw[if_neg]
 rintro rfl;exact h hp
theorem s0v{S S':Sto}{fs:List Cel}{a:Nat}{v:Cel}{w:Tm}(ha:S.heap[a]?=some (0,(a:Int)))(hS:S'.heap=S.heap.set a v)(hv:v≠(0,(a:Int)))(hw:Dec S fs v w)(hn: ¬b0u a w){c:Cel}{t:Tm}(h:Dec S fs c t):Dec S' fs c (t.sub (upd a w)):=by
 have hl:=(List.getElem?_eq_some_iff.mp ha).1
 have H: ∀(p:Nat) (x:Cel),p≠a→S.heap[p]?=some x→S'.heap[p]?=some x:=λp x hp hx=>by rw[hS,List.getElem?_set_ne (λq=>hp q.symm)];exact hx
 refine h.sub λp x hx=>?_
 by_cases e:p=a
 ·subst e
  rw[ha]at hx
  refine .inr ⟨(Option.some.inj hx).symm,v,by rw[hS,List.getElem?_set_self hl],hv,?_⟩
  unfold upd;rw[if_pos rfl]
  exact hw.avoid ha H hn
 ·refine .inl ⟨H p x e hx,λ_=>?_⟩
  unfold upd;rw[if_neg (by exact LA [_,_] [] 1759842751482152 rfl e)]
theorem i0i(F:e0u)(k x:Int)(v:Tm):g0r (F++[(k,v)]) x=(g0r F x).or (if k=x then some v else none):=by
 simp only[g0r,List.find?_append]
 cases e:F.find? (λp=>decide (p.1=x))with
 |some y=>rfl
 |none=>
  simp only[Option.none_or,Option.map_none,Option.none_or,List.find?_cons,List.find?_nil]
  by_cases h:k=x<;>simp[h]
theorem t0d{F:e0u}{k x:Int}{v t:Tm}(h:g0r (F++[(k,v)]) x=some t):(k=x∧v=t)∨g0r F x=some t:=by
 rw[i0i]at h
 cases e:g0r F x with
 |some y=>rw[e]at h;exact .inr h
 |none=>
  rw[e]at h
  by_cases q:k=x
  ·rw[if_pos q]at h;exact .inl ⟨q,Option.some.inj h⟩
  ·rw[if_neg q]at h;exact b0n h
theorem l0r{F:e0u}{k x:Int}{v:Tm}(h:g0r (F++[(k,v)]) x=none):k≠x∧g0r F x=none:=by
 rw[i0i]at h
 cases e:g0r F x with
 |some y=>rw[e]at h;exact b0n h.symm
 |none=>
  rw[e]at h
  exact⟨λq=>by rw[if_pos q]at h;exact b0n h.symm,rfl⟩
theorem BInv.bind{fs:List Cel}{S S':Sto}{tab:b0b}{bd:e0u}{E:Int→Tm}(I:BInv fs S tab bd E){n:Int}{u:Tm}(h0:0≤n)(h4:n<4)(hn:g0r bd n=none)(ht:a0o tab n≠none)(hu:BdT fs n u)(hv: ∀q,b0u q u→a0o tab q≠none){p:Nat}(hp:E n=.v p)
  {a:Nat} {v:Cel} {w:Tm} (ha:S.heap[a]?=some (0,(a:Int))) (hS:S'.heap=S.heap.set a v) (hvn:v≠(0,(a:Int))) (hw:Dec S fs v w)
  (hcase:(a=p∧w=u.sub E∧¬b0u p (u.sub E))∨(u.sub E=.v a∧a≠p∧w=.v p)):BInv fs S' tab (bd++[(n,u)]) (λk=>(E k).sub (upd a w)):=by
 have hnw: ¬b0u a w:=hcase.elim (λq=>q.2.1▸q.1▸q.2.2) λq=>q.2.2▸ λh=>q.2.1 (Int.ofNat.inj (show(p:Int)=a from h)).symm
 have eqn: ∀t:Tm,(t.sub E).sub (upd a w)=t.sub λk=>(E k).sub (upd a w):=λt=>o0m E _ t
 have val: ∀{k x},E k=.v x→(E k).sub (upd a w)=if x=(a:Int)then w else .v x:=λhx=>congrArg (Tm.sub (upd a w)) hx
 have key:(E n).sub (upd a w)=u.sub λk=>(E k).sub (upd a w):=(val hp).trans (Eq.trans (hcase.elim
  (λq=>(if_pos (congrArg Int.ofNat q.1.symm)).trans (q.2.1.trans (v0q (q.1▸q.2.2)).symm))
  λq=>(if_neg λe=>q.2.1 (Int.ofNat.inj e).symm).trans (((congrArg (Tm.sub (upd a w)) q.1).trans ((if_pos rfl).trans q.2.2)).symm)) (eqn u))
 have far: ∀{k x},a0o tab k≠none→g0r bd k=none→n≠k→E k=.v x→x≠p:=λhk hb ne hx q=>ne (I.inj n _ ht hk hn hb (hp.trans ((congrArg Tm.v q.symm).trans hx.symm)))
 refine⟨λm x hx=>s0v ha hS hvn hw hnw (I.dec m x hx),λk t hk=>(t0d hk).elim (λe=>e.1▸e.2▸⟨h0,h4,hu⟩) (I.ok k t),
  λk t hk=>(t0d hk).elim (λe=>e.1▸e.2▸⟨ht,key,hv⟩) λhk=>b0l (I.bnd k t hk) λh1 h2 h3=>⟨h1,(congrArg (Tm.sub (upd a w)) h2).trans (eqn t),h3⟩,
  λk hk hb=>a0m (l0r hb) λne hb=>(I.fre k hk hb).elim λx hx=>?_,λj k hj hk bj bk e=>a0m (l0r bj) λej bj=>a0m (l0r bk) λek bk=>(I.fre j hj bj).elim λx hx=>(I.fre k hk bk).elim λy hy=>?_⟩
 ·by_cases ex:x=(a:Int)
  ·exact hcase.elim (λq=>absurd (ex.trans (congrArg Int.ofNat q.1)) (far hk hb ne hx)) λq=>⟨p,(val hx).trans ((if_pos ex).trans q.2.2)⟩
  ·exact⟨x,(val hx).trans (if_neg ex)⟩
 ·have nx:=far hj bj ej hx
  have ny:=far hk bk ek hy
  have e:=((val hx).symm.trans e).trans (val hy)
  refine I.inj j k hj hk bj bk (hx.trans (Eq.trans (congrArg Tm.v ?_) hy.symm))
  clear key eqn val far
  rcases hcase with q|q
  ·have hp:(a:Int)=p:=congrArg Int.ofNat q.1
   rw[if_neg (hp▸nx),if_neg (hp▸ny)]at e;exact Tm.vinj e
  ·rw[q.2.2]at e
   by_cases a1:x=(a:Int)
   ·by_cases a2:y=(a:Int)
    ·exact a1.trans a2.symm
    ·rw[if_pos a1,if_neg a2]at e;exact absurd (Tm.vinj e).symm ny
   ·by_cases a2:y=(a:Int)
    ·rw[if_neg a1,if_pos a2]at e;exact absurd (Tm.vinj e) nx
    ·rw[if_neg a1,if_neg a2]at e;exact Tm.vinj e
theorem BInv.size{fs:List Cel}{S:Sto}{tab:b0b}{bd:e0u}{E:Int→Tm}(I:BInv fs S tab bd E){t:Tm}(hv: ∀p,b0u p t→0≤p∧p<4∧a0o tab p≠none):(t.sub E).size≤t.size*9:=by
 refine o0j (by exact LA [] [] 305376 rfl) t λp hp=>?_
 refine b0l (hv p hp) λh0 h4 ht=>?_
 refine a0m (I.full' h0 h4 ht) λh1 h2=>?_
 have hf:=g0o I.ok h0 h4
 rw[h1]
 refine Nat.le_trans (o0j (B:=1) (Nat.le_refl _) _ λq hq=>?_) ?_
 ·refine a0k (I.fre q (h2 q hq) (hf.vars q hq).2.2) λa ha=>?_
  rw[ha];exact Nat.le_refl _
 ·rw[Nat.mul_one]
  have:=hf.size;exact LA [_] [_] 11528320531853838173646164104 rfl h4 this
structure UniOk (fs:List Cel) (S:Sto) (c1 c2:Cel) (p:Int) (e:Cel):Prop where
 d1: ∃q,a0i S q c1=some (0,p)
 d2: ∃q,a0i S q c2=some e
 de: ∃q,a0i S q e=some e
 ne:e≠(0,p)
 e1:e.1≠1
 occ:(e.1==2||e.1==3)=false∨(e.1==2||e.1==3)=true∧∃j,b0t S fs (0,p) j [e] (λ_=>false) 0
 p0:0≤p
 pl:p<S.heap.length
 el:e.1=0→0≤e.2∧e.2<S.heap.length
inductive BndO(fs:List Cel)(tab:b0b)(bd:e0u)(first:List Cel)(ts:List Tm)(S S':Sto):Prop
 |mk (E':Int→Tm) (h1:BInv fs S' tab bd E') (h2:FInv fs S' tab E' first ts) (h3:S'.stack=S.stack) (h4:S'.trail=S.trail) (h5:S'.hb=0) (h6:S'.heap.length=S.heap.length)
inductive UbO(fs:List Cel)(tab:b0b)(bd:e0u)(first:List Cel)(ts:List Tm)(S:Sto)(c1 c2:Cel):Prop
 |mk (p:Int) (e:Cel) (u:UniOk fs S c1 c2 p e) (h:BndO fs tab bd first ts S (uni S p e))
theorem Head.ofVar{S:Sto}{fs:List Cel}{d:Cel}{p:Int}(h:Head S fs d (.v p)):d=(0,p):=by cases h;rfl
theorem Head.zero{S:Sto}{fs:List Cel}{d:Cel}{t:Tm}(h:Head S fs d t)(e:d.1=0):t=.v d.2∧0≤d.2∧S.heap[d.2.toNat]?=some (0,d.2):=by
 cases h with
 |con=>exact absurd e nofun
 |int=>exact absurd e nofun
 |var h0 h=>exact⟨rfl,h0,h⟩
 |blk hB _=>exact absurd e (by have:=hB.tag;omega)
theorem v0u{fs:List Cel}{S:Sto}{tab:b0b}{bd:e0u}{E:Int→Tm}(I:BInv fs S tab bd E){first:List Cel}{ts:List Tm}(FI:FInv fs S tab E first ts){n:Int}{u:Tm}(h0:0≤n)(h4:n<4)(hn:g0r bd n=none)(ht:a0o tab n≠none)(hu:BdT fs n u)(hv: ∀q,b0u q u→a0o tab q≠none)
  {c1 c2:Cel} (hc1:Dec S fs c1 (E n)) (hc2:Dec S fs c2 (u.sub E)) (hhb:S.hb=0):UbO fs tab (bd++[(n,u)]) first ts S c1 c2:=by
 refine a0k (I.fre n ht hn) λpi hp=>?_
 refine a0k (Option.ne_none_iff_exists'.mp ht) λx1 hx1=>?_
 refine a0m ((I.dec n x1 hx1).fv pi (by rw[hp];rfl)) λhp0 hpa=>?_
 obtain⟨p,rfl⟩: ∃p:Nat,pi=(p:Int):=⟨pi.toNat,by exact LA [] [_] 5070348490856 rfl hp0⟩
 rw[Int.toNat_natCast]at hpa
 have hpl:=(List.getElem?_eq_some_iff.mp hpa).1
 rw[hp]at hc1
 refine c0e (hc1.deref) λq1 d1 e1 hd1=>?_
 refine c0e (hc2.deref) λq2 d2 e2 hd2=>?_
 have hd1':=hd1.ofVar
 clear hd1 hc1 hc2 hx1
 subst hd1'
 have hno: ¬b0u (p:Int) (u.sub E):=by
  have hg: ∀r,b0u r u→E r=(b0x bd r).sub E∧∀q,b0u q (b0x bd r)→a0o tab q≠none:=λr hr=>by
   have:=hu.vars r hr
   exact I.full' this.1 (by exact LA [] [_,_] 5219547925660496923267208 rfl h4 this) (hv r hr)
  intro hh
  refine a0a ((h0b u).mp hh) λr hr hh=>?_
  rw[(hg r hr).1]at hh
  refine a0a ((h0b _).mp hh) λs hs hh=>?_
  have h1:=hu.vars r hr
  have h2:=(g0o I.ok h1.1 (by exact LA [] [_,_] 5219547925660496923267208 rfl h4 h1)).vars s hs
  have h3:=(hg r hr).2 s hs
  refine a0k (I.fre s h3 h2.2.2) λy hy=>?_
  rw[hy]at hh
  simp only[n0x,n0w]at hh
  have:=I.inj s n h3 ht h2.2.2 hn (by rw[hy,hp,hh])
  exact LA [] [_,_,_] 12575592588818139293226831048 rfl h1 h2.2.1 this
 have hne:d2≠(0,(p:Int)):=λe=>hno ((hd2.zero (congrArg Prod.fst e)).1▸congrArg Prod.snd e)
 have hsz:(u.sub E).size≤27:=by
  refine Nat.le_trans (I.size λq hq=>?_) (by have:=hu.size;exact LA [_] [] 30751466552885256 rfl this)
  have:=hu.vars q hq
  exact⟨this.1,by exact LA [] [_,_] 5219547925660496923267208 rfl h4 this,hv q hq⟩
 have uok:UniOk fs S c1 c2 p d2:=by
  refine⟨⟨q1,e1⟩,⟨q2,e2⟩,⟨1,hd2.deref⟩,hne,hd2.tag,?_,by omega,by exact LA [_,_] [] 1718595125288 rfl hpl,λh=>b0l (hd2.zero h) λ_ h1 h2=>⟨h1,by have:=(List.getElem?_eq_some_iff.mp h2).1;exact LA [_] [_] 622904626216 rfl this⟩⟩
  cases h:(d2.1==2||d2.1==3)with
  |false=>exact .inl rfl
  |true=>
   refine .inr ⟨rfl,y0j (u.sub E) (wk:=[]) hd2.dec hno (N:=0) ?_ ?_ λT' k' _=>⟨0,.nil⟩⟩
   ·exact LA [_] [] 4722769562058628595720 rfl hsz
   ·simp;exact LA [_] [] 5764609000565178376 rfl hsz
 have fin: ∀(a:Nat) (v:Cel) (w:Tm),S.heap[a]?=some (0,(a:Int))→v≠(0,(a:Int))→Dec S fs v w→((a=p∧w=u.sub E∧¬b0u (p:Int) (u.sub E))∨(u.sub E=.v a∧a≠p∧w=.v p))→
   BndO fs tab (bd++[(n,u)]) first ts S (g0h S a v):=λa v w ha hvn hw hcase=>by
  have hS:(g0h S a v).heap=S.heap.set a v:=by simp[g0h]
  have hnw: ¬b0u a w:=by
   rcases hcase with⟨rfl,rfl,h⟩|⟨_,h,rfl⟩
   ·exact h
   ·simp only[n0x,n0w];exact LA [_,_] [] 635042356267304 rfl h
  refine⟨_,I.bind h0 h4 hn ht hu hv hp ha hS hvn hw hcase,⟨?_,FI.vars⟩,rfl,?_,hhb,by rw[hS,List.length_set]⟩
  ·rw[←e0c]
   exact FI.dec.mono λc t h=>s0v ha hS hvn hw hnw h
  ·simp only[g0h,hhb];rw[if_neg (by exact LA [_] [] 6310025 rfl)]
 by_cases h:d2.1=0
 ·refine b0l (hd2.zero h) λa3 a1 a4=>?_
  have hq:((d2.2.toNat:Nat):Int)=d2.2:=Int.toNat_of_nonneg a1
  have hd2':d2=(0,((d2.2.toNat:Nat):Int)):=Prod.ext h hq.symm
  have a4:S.heap[d2.2.toNat]?=some (0,((d2.2.toNat:Nat):Int)):=hq.symm▸a4
  have hqp:d2.2.toNat≠p:=λe=>hne (e▸hd2')
  by_cases hlt:p<d2.2.toNat
  ·refine⟨p,_,uok,?_⟩
   unfold uni
   rw[if_pos h,if_pos (by rw[←hq];exact Int.ofNat_lt.mpr hlt)]
   exact hq▸fin d2.2.toNat (0,(p:Int)) (.v p) a4 (λe=>hqp (Int.ofNat.inj (congrArg Prod.snd e)).symm) (.var (Int.natCast_nonneg _) (by simpa using hpa)) (.inr ⟨hq.symm▸a3,hqp,rfl⟩)
  ·refine⟨p,_,uok,?_⟩
   unfold uni
   rw[if_pos h,if_neg (by rw[←hq];exactλh=>hlt (Int.ofNat_lt.mp h))]
   exact fin p d2 _ hpa hne hd2.dec (.inl ⟨rfl,rfl,hno⟩)
 ·refine⟨p,d2,uok,?_⟩
  unfold uni
  rw[if_neg h]
  exact fin p d2 _ hpa hne hd2.dec (.inl ⟨rfl,rfl,hno⟩)
theorem x0t{S:Sto}{tab:b0b}: ∀(ks:List Int),(∀k∈ks,∃c,a0o tab k=some c∧c.1≠1)→g0a ks S tab S tab
 |[],_=>.nil
 |k::ks,h=>by
  refine a0a (h k (by exact .head _)) λc h1 h2=>?_
  exact .skip h1 (by exact decide_eq_false ‹_›) (x0t ks λx hx=>h x (List.mem_cons_of_mem _ hx))
theorem a1r{tab:b0b}{k:Int}(h:k∈h0x tab): ∃c,a0o tab k=some c:=by
 induction tab with
 |nil=>simp[h0x]at h
 |cons p tab ih=>
  simp only[h0x,List.map_cons,List.mem_cons]at h
  simp only[a0o,List.find?_cons]
  by_cases e:p.1=k
  ·exact⟨p.2,by simp[e]⟩
  ·rcases h with h|h
   ·exact absurd h.symm e
   ·refine a0k (ih h) λc hc=>?_
    exact⟨c,by simp only[e,decide_false];exact hc⟩
theorem Dec.tag{S:Sto}{fs:List Cel}{c:Cel}{t:Tm}(h:Dec S fs c t):c.1≠1:=by
 cases h with
 |con=>exact nofun
 |int=>exact nofun
 |var _ _=>exact nofun
 |ref _ _ _ _=>exact nofun
 |blk hB _=>have:=hB.tag;exact LA [] [_] 263056496825735451880 rfl this
theorem j1a{S:Sto}{fs:List Cel}{tab:b0b}{E:Int→Tm}(h: ∀n x,a0o tab n=some x→Dec S fs x (E n)):g0a (h0x tab) S tab S tab:=x0t _ λk hk=>by
 refine a0k (a1r hk) λc hc=>?_
 exact⟨c,hc,(h k c hc).tag⟩
noncomputable def o0r(fs:List Cel)(S:Sto)(tab:b0b)(bd:e0u)(E:Int→Tm)(first:List Cel)(ts:List Tm):Prop:=
 (BInv fs S tab bd E∧FInv fs S tab E first ts)∨(∃k,S=⟨[],[(1,0)],[],0⟩∧tab=[(k,(1,0))]∧bd=[]∧first=[]∧ts=[])
theorem z0t.nil{fs:List Cel}:z0t fs []:=λk u h=>by trivial
theorem o0r.start{fs:List Cel}{E:Int→Tm}:o0r fs ⟨[],[],[],0⟩ [] [] E [] []:=
 .inl ⟨⟨λn x h=>by trivial,z0t.nil,λk u h=>by trivial,λk h=>by trivial,λj k h=>by trivial⟩,FInv.nil⟩
structure PutStep (fs:List Cel) (S:Sto) (tab:b0b) (bd:e0u) (first:List Cel) (ts:List Tm) (t:Tm) (c:Cel) (S':Sto) (tab':b0b) (E':Int→Tm):Prop where
 binv:BInv fs S' tab' bd E'
 finv:FInv fs S' tab' E' (first++[c]) (ts++[t])
 stack:S'.stack.length=S.stack.length
 trail:S'.trail=S.trail
 hb:S'.hb=S.hb
 len:S'.heap.length≤S.heap.length+2*t.size+1
 tlen:tab'.length≤tab.length+t.size
 keys: ∀k,a0o tab k≠none→a0o tab' k≠none
theorem i0u{fs:List Cel}{S:Sto}{tab:b0b}{bd:e0u}{E:Int→Tm}{first:List Cel}{ts:List Tm}(I:o0r fs S tab bd E first ts){t:Tm}(hw:wfT fs t)(b1:S.heap.length+2*t.size<20000)(b2:tab.length+t.size<20000):
  ∃S1 tab1 c S' tab' E',g0a (h0x tab) S tab S1 tab1∧q0e fs t S1 tab1 c S' tab'∧PutStep fs S tab bd first ts t c S' tab' E':=by
 have core: ∀S1 tab1 E1,g0a (h0x tab) S tab S1 tab1→BInv fs S1 tab1 bd E1→FInv fs S1 tab1 E1 first ts→S1.stack.length=S.stack.length→S1.trail=S.trail→S1.hb=S.hb→S1.heap.length≤S.heap.length+1→tab1.length=tab.length→(∀k,a0o tab k≠none→a0o tab1 k≠none)→
   ∃S1 tab1 c S' tab' E',g0a (h0x tab) S tab S1 tab1∧q0e fs t S1 tab1 c S' tab'∧PutStep fs S tab bd first ts t c S' tab' E':=λS1 tab1 E1 hg hB hF h1 h2 h3 h4 h5 h6=>by
  refine h0o (y0x (fs:=fs) (S:=S1) (tab:=tab1) hw (by exact LA [_,_,_] [] 5708995323531071266051299557116546394976432168 rfl b1 h4) (by exact LA [_,_,_] [] 5316916223176214261650797827409850408 rfl b2 h5)) λc S' tab' p1 p2=>?_
  have hal:=l0f t
  have hl:=p2.len
  have htl:=p2.tlen
  refine⟨S1,tab1,c,S',tab',Internal.ext E1 tab1 tab',hg,p1,p2.binv hB,(p2.finv hF).snoc (p2.dec _ (p2.ext hB.dec)) (λp hp=>by refine a0k (p2.vars p hp) λx hx=>?_;rw[hx];exact Option.some_ne_none _),by rw[p2.stack];exact h1,by rw[p2.trail];exact h2,by rw[p2.hb];exact h3,by exact LA [_,_,_,_,_] [] 10371008089051691639714219414396095231526251659272 rfl h4 hal hl,by exact LA [_,_,_,_] [] 3592575571916562137160 rfl h5 htl,λk hk=>?_⟩
  refine a0k (Option.ne_none_iff_exists'.mp (h6 k hk)) λx hx=>?_
  rw[p2.old k x hx];exact Option.some_ne_none _
 rcases I with⟨hB,hF⟩|⟨k,rfl,rfl,rfl,rfl,rfl⟩
 ·exact core S tab E (j1a hB.dec) hB hF rfl rfl rfl (by exact LA [_] [] 7352320 rfl) rfl λk hk=>hk
 ·have hk:a0o [(k,((1:Int),(0:Int)))] k=some (1,0):=by simp[a0o]
  have e1:c1v [(k,((1:Int),(0:Int)))] k (0,((([]:List Cel).length:Nat):Int))=[(k,(0,0))]:=by simp[c1v]
  refine core ⟨[(0,0)],[(0,0)],[],0⟩ [(k,(0,0))] (λn=>.v 0) ?_ ⟨λn x hx=>?_,z0t.nil,λk u h=>by trivial,λk h _=>⟨0,rfl⟩,λa b ha hb _ _ _=>?_⟩ FInv.nil rfl rfl rfl (by exact Nat.le_refl _) rfl λm hm=>?_
  ·exact .glob (q:=1) (p:=0) hk rfl rfl (by exact LA [] [] 6339 rfl) (by trivial) (by exact Nat.le_add_left _ _) (by rw[e1];exact .nil)
  ·simp only[a0o,List.find?_cons,List.find?_nil]at hx
   split at hx
   ·cases hx;exact .var (by exact LA [] [] 6339 rfl) rfl
   ·exact b0n hx
  ·have key: ∀a,a0o [(k,((0:Int),(0:Int)))] a≠none→a=k:=λa ha=>by
    simp only[a0o,List.find?_cons,List.find?_nil]at ha
    split at ha
    ·rename_i e;exact(of_decide_eq_true e).symm
    ·trivial
   rw[key a ha,key b hb]
  ·simp only[a0o,List.find?_cons,List.find?_nil]at hm⊢
   split at hm
   ·rename_i e;rw[e];exact Option.some_ne_none _
   ·trivial
theorem y0e: ∀{L M:List Int},L.Nodup→(∀a∈L,a∈M)→L.length≤M.length
 |[],M,_,_=>by exact Nat.zero_le _
 |a::L,M,h,k=>by
  have ha:a∈M:=k a (by exact .head _)
  have h':=List.nodup_cons.mp h
  have:=y0e (L:=L) (M:=M.erase a) h'.2 λb hb=>(List.mem_erase_of_ne (λ(e:b=a)=>h'.1 (e▸hb))).mpr (k b (List.mem_cons_of_mem _ hb))
  rw[List.length_erase_of_mem ha]at this
  have:=List.length_pos_of_mem ha
  simp only[List.length_cons];exact LA [_,_] [] 1439278425138200477704 rfl (by assumption) this
structure Mid (fs:List Cel) (S:Sto) (first:List Cel) (due:List Tm) (φ:Int→Int):Prop where
 dec:DecL S fs first (Tm.renL φ due)
 inj:Inj (λp=>a0z p due) φ
 vars: ∀p,a0z p due→0≤p∧p<4
 size:Tm.sizeL due≤300
 dep:Tm.depL due≤8
 wf:wfL fs due
theorem m0s{g:Int→Tm}{ts:List Tm}{q:Int}:a0z q (Tm.subL g ts)↔∃p,a0z p ts∧b0u q (g p):=i0l ts
theorem BInv.mid{fs:List Cel}{S:Sto}{tab:b0b}{bd:e0u}{E:Int→Tm}{first:List Cel}{trees:List Tm}(I:BInv fs S tab bd E)(FI:FInv fs S tab E first trees)(hv: ∀p,a0z p trees→0≤p∧p<4)(hs:Tm.sizeL trees≤30)(hd:Tm.depL trees≤4)(hw:wfL fs trees):
  ∃φ,Mid fs S first (Tm.subL (b0x bd) trees) φ:=by
 have hf: ∀p,a0z p trees→FullOk fs bd p∧E p=(b0x bd p).sub E∧∀q,b0u q (b0x bd p)→a0o tab q≠none:=λp hp=>by
  have:=hv p hp
  have h2:=I.full' this.1 this.2 (FI.vars p hp)
  exact⟨g0o I.ok this.1 this.2,h2.1,h2.2⟩
 have hfree: ∀q,a0z q (Tm.subL (b0x bd) trees)→a0o tab q≠none∧g0r bd q=none∧0≤q∧q<4:=λq hq=>by
  refine a0a (m0s.mp hq) λp hp hq=>?_
  refine b0l (hf p hp) λh1 h2 h3=>?_
  have h4:=h1.vars q hq
  have:=hv p hp
  exact⟨h3 q hq,h4.2.2,h4.1,by exact LA [] [_,_] 5218367515273480424820840 rfl h4.2.1 this⟩
 refine⟨λq=>match E q with| .v a=>a|_=>0,?_,λa b ha hb e=>?_,λp hp=>(hfree p hp).2.2,?_,?_,?_⟩
 ·have e1:Tm.subL E trees=Tm.subL E (Tm.subL (b0x bd) trees):=by
   rw[e0c];exact c0b trees λp hp=>(hf p hp).2.1
  have e2:Tm.renL (λq=>match E q with| .v a=>a|_=>0) (Tm.subL (b0x bd) trees)=Tm.subL E (Tm.subL (b0x bd) trees):=by
   refine c0b _ λq hq=>?_
   refine a0k (I.fre q (hfree q hq).1 (hfree q hq).2.1) λa ha=>?_
   simp only[ha]
  rw[e2,←e1];exact FI.dec
 ·refine a0k (I.fre a (hfree a ha).1 (hfree a ha).2.1) λx hx=>?_
  refine a0k (I.fre b (hfree b hb).1 (hfree b hb).2.1) λy hy=>?_
  simp only[hx,hy]at e
  exact I.inj a b (hfree a ha).1 (hfree b hb).1 (hfree a ha).2.1 (hfree b hb).2.1 (by rw[hx,hy,e])
 ·refine Nat.le_trans (i0w (B:=9) (by exact LA [] [] 305376 rfl) trees λp hp=>?_) (by exact LA [_] [] 2361187006488011669512 rfl hs)
  have:=hv p hp
  have:=(hf p hp).1.size;exact LA [_] [_] 12088320230009170216769200167521480 rfl (by assumption) this
 ·refine Nat.le_trans (k0q (D:=4) trees λp hp=>?_) (by exact LA [_] [] 299641120714194952 rfl hd)
  have:=hv p hp
  have:=(hf p hp).1.dep;exact LA [_] [_] 170835995311083620583155633352 rfl (by assumption) this
 ·exact s0j trees hw λp hp=>(hf p hp).1.wf
theorem Mid.few{fs:List Cel}{S:Sto}{first:List Cel}{due:List Tm}{φ:Int→Int}(h:Mid fs S first due φ):(a0g [] due).length≤4:=by
 refine y0e (M:=[0,1,2,3]) (c0s due List.nodup_nil) λa ha=>?_
 have:=h.vars a (d0e.mp ha)
 simp only[List.mem_cons,List.not_mem_nil,or_false]
 exact LA [] [_] 141070905394817226808721951249211264200 rfl this
structure Bnd (S S':Sto) (ks:List Int) (val:Int→Int):Prop where
 heap: ∀p:Nat,S'.heap[p]?=if(p:Int)∈ks then some (5,val p)else S.heap[p]?
 trail:S'.trail=S.trail++ks
 stack:S'.stack=S.stack
 hb:S'.hb=S.hb
theorem Bnd.nil{S:Sto}{val:Int→Int}:Bnd S S [] val:=⟨λp=>by rfl,by exact .symm (List.append_nil _),rfl,rfl⟩
theorem Bnd.snoc{S S':Sto}{ks:List Int}{val:Int→Int}{a:Int}(h:Bnd S S' ks val)(h0:0≤a)(ha:S.heap[a.toNat]?=some (0,a))(hn:a∉ks)(hb:a<S.hb):Bnd S (uni S' a (5,val a)) (ks++[a]) val:=by
 have e:((a.toNat:Nat):Int)=a:=by exact LA [] [_] 4556495919208 rfl h0
 have hl:S'.heap[a.toNat]?=some (0,a):=by rw[h.heap,e,if_neg hn];exact ha
 have hlt:=(List.getElem?_eq_some_iff.mp hl).1
 refine⟨λp=>?_,?_,h.stack,h.hb⟩
 ·simp only[uni,g0h]
  rw[if_neg (by decide),List.getElem?_set]
  by_cases q:a.toNat=p
  ·rw[if_pos q,←q,if_pos hlt,e,if_pos (by exact List.mem_append_right _ (.head _))]
  ·rw[if_neg q,h.heap]
   have:(p:Int)≠a:=by exact LA [_] [_] 4523572303857960 rfl q
   simp[this]
 ·simp only[uni,g0h]
  rw[if_neg (by decide),if_pos (by rw[h.hb];exact hb),h.trail,List.append_assoc]
theorem Bnd.uok{S S':Sto}{fs:List Cel}{ks:List Int}{val:Int→Int}{a:Int}(h:Bnd S S' ks val)(h0:0≤a)(ha:S.heap[a.toNat]?=some (0,a))(hn:a∉ks):UniOk fs S' (0,a) (5,val a) a (5,val a):=by
 have e:((a.toNat:Nat):Int)=a:=by exact LA [] [_] 4556495919208 rfl h0
 have hl:S'.heap[a.toNat]?=some (0,a):=by rw[h.heap,e,if_neg hn];exact ha
 have hlt:=(List.getElem?_eq_some_iff.mp hl).1
 exact⟨⟨1,Head.deref (fs:=fs) (.var h0 hl)⟩,⟨1,Head.deref (fs:=fs) .int⟩,⟨1,Head.deref (fs:=fs) .int⟩,by exact nofun,by exact nofun,.inl rfl,h0,by exact LA [_] [_] 622904626216 rfl hlt,λh=>by simp at h⟩
noncomputable def c1j(ks:List Int)(val:Int→Int):Int→Tm:=λp=>if p∈ks then .i (val p)else .v p
theorem Bnd.dec{S S':Sto}{fs:List Cel}{ks:List Int}{val:Int→Int}(h:Bnd S S' ks val)(hk: ∀a∈ks,0≤a∧S.heap[a.toNat]?=some (0,a)){c:Cel}{t:Tm}(hd:Dec S fs c t):Dec S' fs c (t.sub (c1j ks val)):=by
 refine hd.sub λp x hx=>?_
 by_cases hp:(p:Int)∈ks
 ·refine a0m (hk _ hp) λ_ h2=>?_
  rw[Int.toNat_natCast,hx]at h2
  refine .inr ⟨Option.some.inj h2,(5,val p),by rw[h.heap,if_pos hp],by exact nofun,?_⟩
  unfold c1j;rw[if_pos hp];exact .int
 ·refine .inl ⟨by rw[h.heap,if_neg hp];exact hx,λ_=>?_⟩
  unfold c1j;rw[if_neg hp]
theorem q0q(H:List Cel): ∀(es:List Int) (p:Nat),(∀e∈es,0≤e∧e<H.length)→(o0n H es)[p]?=if(p:Int)∈es then some (0,(p:Int))else H[p]?
 |[],p,_=>by rfl
 |e::es,p,h=>by
  have ih:=q0q H es p λx hx=>h x (List.mem_cons_of_mem _ hx)
  have he:=h e (by exact .head _)
  show((o0n H es).set e.toNat (0,e))[p]?=_
  rw[List.getElem?_set,g0t]
  by_cases q:e.toNat=p
  ·rw[if_pos q,if_pos (by exact LA [_] [_] 165543093586824392 rfl he),if_pos (by simp;omega)];congr 2;exact LA [_,_] [_] 60603351858542081344736456 rfl he q
  ·rw[if_neg q,ih]
   have:(p:Int)≠e:=by exact LA [_] [_] 4523572303857960 rfl q
   simp[this]
theorem Bnd.undo{S S':Sto}{ks:List Int}{val:Int→Int}(h:Bnd S S' ks val)(hk: ∀a∈ks,0≤a∧S.heap[a.toNat]?=some (0,a)):o0n S'.heap ks=S.heap:=by
 have hl:S'.heap.length=S.heap.length:=by
  apply Nat.le_antisymm
  ·rcases Nat.lt_or_ge S.heap.length S'.heap.length with q|q
   ·exfalso
    have:=h.heap S.heap.length
    rw[List.getElem?_eq_getElem q]at this
    split at this
    ·rename_i e
     have:=(List.getElem?_eq_some_iff.mp (hk _ e).2).1
     exact LA [_] [] 10738027560 rfl this
    ·simp at this
   ·exact q
  ·rcases Nat.lt_or_ge S'.heap.length S.heap.length with q|q
   ·exfalso
    have:=h.heap S'.heap.length
    rw[List.getElem?_eq_none (Nat.le_refl _)]at this
    split at this
    ·exact b0n this
    ·rw[List.getElem?_eq_getElem q]at this;(exact b0n this)
   ·exact q
 apply List.ext_getElem?;intro p
 rw[q0q S'.heap ks p λe he=>⟨(hk e he).1,by rw[hl];have:=(List.getElem?_eq_some_iff.mp (hk e he).2).1;have:=(hk e he).1;exact LA [_] [_] 622904626216 rfl (by assumption)⟩]
 split
 ·rename_i e
  have:=(hk _ e).2
  rw[Int.toNat_natCast]at this;exact this.symm
 ·rename_i e
  rw[h.heap,if_neg e]
noncomputable def l0c(N:Nat):e0u:=(List.range N).map λ(i:Nat)=>((i:Int),Tm.i (100+i))
theorem q0r(N:Nat):l0c (N+1)=l0c N++[((N:Int),Tm.i (100+N))]:=by simp[l0c,List.range_succ]
theorem l0s: ∀(N:Nat) (k:Int),g0r (l0c N) k=if 0≤k∧k<N then some (.i (100+k))else none
 |0,k=>by rw[if_neg (by exact LA [] [_] 7219978636489 rfl)];rfl
 |N+1,k=>by
  rw[q0r,i0i,l0s N k]
  by_cases h:0≤k∧k<N
  ·rw[if_pos h,if_pos (show 0≤k∧k<((N+1:Nat):Int)by exact LA [_] [_] 8680772280378454392025844936 rfl h)];rfl
  ·rw[if_neg h]
   by_cases e:(N:Int)=k
   ·subst e;rw[if_pos rfl,if_pos (by exact LA [_] [] 252643602269280358 rfl)];rfl
   ·rw[if_neg e,if_neg (by exact LA [_] [_] 9544610060351704201118052438725613426984 rfl h e)];rfl
theorem x0m{N:Nat}{t:Tm}(hv: ∀p,b0u p t→0≤p∧p<N)(hd:t.dep≤10)(hs:t.size≤1000):g0c (l0c N) 20 t=some (t.sub λk=>.i (100+k)):=
 g0n (N0:=2) 10 t hd hs (λp hp n hn=>by
  obtain _|_|n:=n
  ·omega
  ·omega
  ·simp only[a1m,a1l,a1j,a1k,l0s,if_pos (hv p hp)]) 20 (by exact LA [] [] 714934151623040 rfl)
structure FmOk (fs:List Cel) (f1 f2 f3:Int):Prop where
 f1:0<f1∧∃a,fs[f1.toNat]?=some (a,1)
 f2:f2=0∨0<f2∧∃a,fs[f2.toNat]?=some (a,2)
 f3:0<f3∧∃a,fs[f3.toNat]?=some (a,3)
mutual
theorem k1a{fs:List Cel}{f1 f2 f3:Int}(F:FmOk fs f1 f2 f3): ∀t:Tm,j1z (x0g f1 f2 f3) t→wfT fs t∧(∀p,b0u p t→0≤p∧p<4)∧t.size≤1+3*a1d t
 | .v k,h=>⟨trivial,λp hp=>by simp only[n0x,n0w]at hp;subst hp;exact h,by simp[e0g,e0d,e0e,e0f]⟩
 | .a k,h=>⟨trivial,λp hp=>hp.elim,by simp[e0g,e0d,e0e,e0f]⟩
 | .i k,h=>⟨trivial,λp hp=>hp.elim,by simp[e0g,e0d,e0e,e0f]⟩
 | .s f ts,h=>by
  refine r0m h λh1 h3 hf hl=>?_
  refine b0l (o0l F ts hl) λw v z=>?_
  refine⟨⟨?_,w⟩,v,by simp only[e0g,e0d,e0e,e0f,n1v,n1s,n1t,n1u];exact LA [_,_,_] [] 293855917024965904568714146987966472 rfl h3 z⟩
  have:ts.length=1∨ts.length=2∨ts.length=3:=by exact LA [_] [] 134373528967409049412490829503496 rfl h1 h3
  subst hf
  rcases this with e|e|e
  ·rw[e];exact .inr F.f1
  ·rw[e]
   rcases F.f2 with h|h
   ·exact .inl ⟨by assumption,rfl⟩
   ·exact .inr h
  ·rw[e];exact .inr F.f3
theorem o0l{fs:List Cel}{f1 f2 f3:Int}(F:FmOk fs f1 f2 f3): ∀ts:List Tm,z0q (x0g f1 f2 f3) ts→wfL fs ts∧(∀p,a0z p ts→0≤p∧p<4)∧Tm.sizeL ts≤ts.length+3*u0x ts
 |[],h=>⟨trivial,λp hp=>hp.elim,by exact Nat.le_refl _⟩
 |t::ts,h=>by
  refine b0l (k1a F t h.1) λw v z=>?_
  refine b0l (o0l F ts h.2) λw' v' z'=>?_
  exact⟨⟨w,w'⟩,λp hp=>hp.elim (v p) (v' p),by simp only[f0z,f0y,g1d,g1c,List.length_cons];exact LA [_,_,_,_,_] [] 6067723852618650696494775738531205186191753224 rfl z z'⟩
end
theorem v0g{fs:List Cel}{low:Int}{t:Tm}(h:b1a low t):t.dep=0∧t.size=1∧(∀p,b0u p t→0≤p∧p<low)∧wfT fs t∧∀(g:Int→Tm) (B:Nat),1≤B→(∀p,b0u p t→(g p).size≤B)→(t.sub g).size≤B:=by
 cases t with
 |v k=>exact⟨rfl,rfl,λp hp=>by simp only[n0x,n0w]at hp;subst hp;exact h,trivial,λg B hB hg=>hg k rfl⟩
 |a k=>exact⟨rfl,rfl,λp hp=>hp.elim,trivial,λg B hB hg=>by assumption⟩
 |i k=>exact⟨rfl,rfl,λp hp=>hp.elim,trivial,λg B hB hg=>by assumption⟩
 |s f ts=>exact h.elim
theorem z0z{fs:List Cel}{f1 f2 f3 low a1:Int}(F:FmOk fs f1 f2 f3){u:Tm}(h:c1i low f1 f2 a1 (some u)):BdT fs low u:=by
 rcases h with h|⟨t,ht,h⟩
 ·exact b0n h.symm
 ·obtain⟨d,z,v,w,g⟩:=v0g (fs:=fs) ht
  rcases h with h|h|h|h
  ·cases h
   exact⟨by exact LA [_] [] 7516389448 rfl d,by exact LA [_] [] 113816862792 rfl z,v,w,λg' B hB hg=>by have:=g g' B hB hg;exact LA [_,_] [] 81411105128456 rfl this⟩
  ·cases h
   refine⟨by simp[q0w,q0t,q0u,q0v,w0z,w0y,d],by simp[e0g,e0d,e0e,e0f,f0z,f0y,z],λp hp=>hp.elim (v p) λq=>q.elim,⟨.inr F.f1,w,trivial⟩,λg' B hB hg=>?_⟩
   have:=g g' B hB λp hp=>hg p (.inl hp)
   simp only[k0i,k0f,k0g,k0h,p0h,p0g,e0g,e0d,e0e,e0f,f0z,f0y];exact LA [_,_] [] 85365983837769728008 rfl this
  ·cases h
   refine⟨by simp[q0w,q0t,q0u,q0v,w0z,w0y,d],by simp[e0g,e0d,e0e,e0f,f0z,f0y,z],λp hp=>hp.elim (v p) λq=>q.elim (λq=>q.elim) λq=>q.elim,⟨?_,w,trivial,trivial⟩,λg' B hB hg=>?_⟩
   ·rcases F.f2 with h|h
    ·exact .inl ⟨h,rfl⟩
    ·exact .inr h
   ·have:=g g' B hB λp hp=>hg p (.inl hp)
    simp only[k0i,k0f,k0g,k0h,p0h,p0g,e0g,e0d,e0e,e0f,f0z,f0y];exact LA [_,_] [] 87414767695767743266824 rfl this
  ·cases h
   refine⟨by simp[q0w,q0t,q0u,q0v,w0z,w0y,d],by simp[e0g,e0d,e0e,e0f,f0z,f0y,z],λp hp=>hp.elim (λq=>q.elim) λq=>q.elim (v p) λq=>q.elim,⟨?_,trivial,w,trivial⟩,λg' B hB hg=>?_⟩
   ·rcases F.f2 with h|h
    ·exact .inl ⟨h,rfl⟩
    ·exact .inr h
   ·have:=g g' B hB λp hp=>hg p (.inr (.inl hp))
    simp only[k0i,k0f,k0g,k0h,p0h,p0g,e0g,e0d,e0e,e0f,f0z,f0y];exact LA [_,_] [] 87414767449717656813576 rfl this
theorem j0g(ts:List Tm):Tm.sizeL (a0l ts)=Tm.sizeL ts:=c0o ts
theorem g0i(ts:List Tm):Tm.depL (a0l ts)=Tm.depL ts:=n0u ts
theorem a1c{fs:List Cel}{ts:List Tm}(h:wfL fs ts):wfL fs (a0l ts):=s0i ts h
theorem u0t{ts:List Tm}{p:Int}(h:a0z p (a0l ts)):0≤p∧p<(a0g [] ts).length:=by
 have:=d0e.mpr h
 rw[v0b]at this
 simp only[List.mem_map,List.mem_range]at this
 refine a0a (this) λi hi z0=>?_;subst z0
 exact LA [_,_] [] 57666482791178600488 rfl hi
theorem c0m(ts:List Tm):(a0l ts).length=ts.length:=a0v _ _
theorem DecL.get{S:Sto}{fs:List Cel}{cs:List Cel}{ts:List Tm}(h:DecL S fs cs ts){i:Nat}{c:Cel}(e:cs[i]?=some c): ∃t,ts[i]?=some t∧Dec S fs c t:=by
 refine a0m (DecL.iff.mp h) λh1 h2=>?_
 have hi:i<ts.length:=by have:=(List.getElem?_eq_some_iff.mp e).1;exact LA [_,_,_] [] 1197370352107592 rfl h1 this
 exact⟨ts[i],List.getElem?_eq_getElem hi,h2 i c _ e (List.getElem?_eq_getElem hi)⟩
theorem d0a{ts:List Tm}{i:Nat}{t:Tm}(h:ts[i]?=some t):t.size≤Tm.sizeL ts:=u0e (List.mem_of_getElem? h)
theorem g0w(ts:List Tm)(i:Nat):Tm.sizeL (ts.take i)≤Tm.sizeL ts:=by
 induction ts generalizing i with
 |nil=>simp
 |cons t ts ih=>
  cases i with
  |zero=>exact Nat.zero_le _
  |succ i=>have:=ih i;simp only[List.take_succ_cons,f0z,f0y];exact LA [_,_,_] [] 1209465340723208 rfl this
theorem b1v{S:Sto}{fs:List Cel}{X:List Tm}{i:Nat}{t:Tm}{d:Cel}(hd:Dec S fs d t)(hX:X[i]?=some t)(hz:Tm.sizeL X≤900):
  ∃j,d0i S fs (t.ren (idx (a0g [] X))) (num (a0g [] (X.take (i+1)))) j [(false,d)] [] [] (num (a0g [] (X.take i))):=by
 refine b0l (f0k hX) λe1 e2 e3=>?_
 have h1:=d0a hX
 have h2:=i0d [] (X.take i)
 have h3:=g0w X i
 have:=b1w (L:=a0g [] (X.take i)) hd (by exact LA [_,_] [] 3802953426396279732983922262024 rfl hz h1) (by simp at h2;exact LA [_,_,_] [] 3987685693276092159060666319304491016 rfl hz h3 h2)
 rw[e2]at this
 rw[e1]
 exact this
structure Geo where
 y:Nat
 n:Nat
 hi:Nat
 ci:Nat
 ks:List Int
 ts:List PySem.Str
 fs:List Cel
structure Far (g:Geo) (i:Nat):Prop where
 n:i<g.n∨g.n+4<i
 y:i<g.y∨g.y+5<i
 hi:i≠g.hi
 ci:i≠g.ci
structure GeoOk (g:Geo):Prop where
 ap:g.y+5<g.n
 hn:g.hi<g.n∨g.n+4<g.hi
 hy:g.hi<g.y∨g.y+5<g.hi
 cn:g.ci<g.n∨g.n+4<g.ci
 cy:g.ci<g.y∨g.y+5<g.ci
 hc:g.hi≠g.ci
structure Wd (g:Geo) (bud:Int) (σ:Sig) (S:Sto) (L:List (Nat×AObj)):Prop where
 geo:GeoOk g
 sy:IsSy σ g.y g.ts g.fs
 st:IsSt σ g.n (g.y+1) S
 hand:IsHand σ g.hi g.ci g.ks bud
 ob: ∀p∈L,σ[p.1]?=some p.2
 nd:(L.map (·.1)).Nodup
 out: ∀p∈L,Far g p.1
section
variable {g:Geo} {bud:Int} {σ:Sig} {S S':Sto} {L:List (Nat×AObj)}
theorem Wd.at(h:Wd g bud σ S L){i:Nat}{o:AObj}(hm:(i,o)∈L):σ[i]?=some o:=h.ob _ hm
theorem Wd.same(h:Wd g bud σ S L){σ':Sig}(s:Same [] σ σ'):Wd g bud σ' S L:=
 ⟨h.geo,h.sy.same s (by exact nofun),h.st.same s (by exact nofun),h.hand.same s (by exact nofun) (by exact nofun),λp hp=>s.get (h.ob p hp) (by exact nofun),h.nd,h.out⟩
theorem Wd.app(h:Wd g bud σ S L){r:Sig}:Wd g bud (σ++r) S L:=h.same (Same.refl _ _).app
theorem Wd.grow(h:Wd g bud σ S L){o:AObj}:Wd g bud (σ++[o]) S ((σ.length,o)::L):=by
 have h':=h.app (r:=[o])
 have lt: ∀p∈L,p.1<σ.length:=λp hp=>b0m (h.ob p hp)
 have l1:=b0m h.st.trail
 have l2:=b0m h.sy.keys
 have l3:=h.hand.lt
 refine⟨h'.geo,h'.sy,h'.st,h'.hand,λp hp=>?_,?_,λp hp=>?_⟩
 ·rcases List.mem_cons.mp hp with rfl|hp
  ·exact gn0
  ·exact h'.ob p hp
 ·simp only[List.map_cons,List.nodup_cons]
  refine⟨λq=>?_,h.nd⟩
  refine a0a (List.mem_map.mp q) λp hp e=>?_
  have:=lt p hp;exact LA [_,_] [] 11029517992008 rfl e this
 ·rcases List.mem_cons.mp hp with rfl|hp
  ·exact⟨by simp only;exact LA [_,_] [] 1371861334397009856049192 rfl l1,by simp only;exact LA [_,_] [] 1409640266259967051313192 rfl l2,by simp only;exact LA [_,_,_] [] 1206200797496520 rfl l3,by simp only;exact LA [_,_,_] [] 73263794835424456 rfl l3⟩
  ·exact h.out p hp
theorem Wd.sub(h:Wd g bud σ S L){L':List (Nat×AObj)}(k: ∀p∈L',p∈L)(nd:(L'.map (·.1)).Nodup):Wd g bud σ S L':=⟨h.geo,h.sy,h.st,h.hand,λp hp=>h.ob p (k p hp),nd,λp hp=>h.out p (k p hp)⟩
theorem Wd.tail(h:Wd g bud σ S L){p:Nat×AObj}{L':List (Nat×AObj)}(e:L=p::L'):Wd g bud σ S L':=by
 subst e
 exact h.sub (λq hq=>List.mem_cons_of_mem _ hq) (List.nodup_cons.mp h.nd).2
theorem Wd.heap(h:Wd g bud σ S L)(e:S'.hb=S.hb):Wd g bud (putSt σ g.n S') S' L:=by
 have ap:=h.geo.ap
 refine⟨h.geo,h.sy.put (by exact LA [_,_] [] 5340279916030600462418849832 rfl ap),h.st.put e,?_,λp hp=>c0c (h.ob p hp) (by have:=(h.out p hp).n;exact LA [_,_] [] 5599689397635672225885762870052072 rfl this),h.nd,h.out⟩
 have s:Same [g.n+2,g.n+3,g.n+4] σ (putSt σ g.n S'):=(Same.refl _ _).put (by exact .head _) (by exact .tail _ (.head _)) (by exact .tail _ (.tail _ (.head _)))
 have h1:=h.geo.hn
 have h2:=h.geo.cn
 exact h.hand.same s (by simp;exact LA [_,_] [] 201750028034252670599099755702391890952579596682472 rfl h1) (by simp;exact LA [_,_] [] 201750028034252670599099755702391890952579596682472 rfl h2)
theorem Wd.set(h:Wd g bud σ S L){i:Nat}{o o':AObj}{L':List (Nat×AObj)}(e:L=(i,o)::L'):Wd g bud (σ.set i o') S ((i,o')::L'):=by
 subst e
 have hf:=h.out (i,o) (by exact .head _)
 have hnd:=List.nodup_cons.mp (by simpa using h.nd:(i::L'.map (·.1)).Nodup)
 have s:Same [i] σ (σ.set i o'):=(Same.refl _ _).set (by exact .inl (.head _))
 refine⟨h.geo,h.sy.set (by have:=hf.y;omega),h.st.set (by have:=hf.n;omega),h.hand.same s (by simpa using hf.hi.symm) (by simpa using hf.ci.symm),λp hp=>?_,by simpa using h.nd,λp hp=>?_⟩
 ·rcases List.mem_cons.mp hp with rfl|hp
  ·exact a0d (h.ob (i,o) (by exact .head _))
  ·refine a0c (h.ob p (List.mem_cons_of_mem _ hp)) λq=>hnd.1 ?_
   rw[q];exact List.mem_map_of_mem hp
 ·rcases List.mem_cons.mp hp with rfl|hp
  ·exact hf
  ·exact h.out p (List.mem_cons_of_mem _ hp)
theorem Wd.handS(h:Wd g bud σ S L){σ':Sig}{bud':Int}(s:Same [g.hi] σ σ')(h':IsHand σ' g.hi g.ci g.ks bud'):Wd g bud' σ' S L:=
 ⟨h.geo,h.sy.same s (by have:=h.geo.hy;simp;omega),h.st.same s (by have:=h.geo.hn;simp;omega),h',λp hp=>s.get (h.ob p hp) (by simpa using(h.out p hp).hi),h.nd,h.out⟩
theorem Wd.hb(h:Wd g bud σ S L){v:Int}:Wd g bud (σ.set g.n (.ns (q0k g.n (g.y+1) v))) {S with hb:=v} L:=by
 have ap:=h.geo.ap
 have s:Same [g.n] σ (σ.set g.n (.ns (q0k g.n (g.y+1) v))):=(Same.refl _ _).set (by exact .inl (.head _))
 have h1:=h.geo.hn
 have h2:=h.geo.cn
 refine⟨h.geo,h.sy.set (by exact LA [_,_] [] 1409640266259967051313192 rfl ap),⟨a0d h.st.ns,a0c h.st.inst (by exact LA [_] [] 235274313 rfl),a0c h.st.heap (by exact LA [_] [] 2483421257 rfl),a0c h.st.stack (by exact LA [_] [] 3557163081 rfl),a0c h.st.trail (by exact LA [_] [] 4630904905 rfl)⟩,h.hand.same s (by simp;exact LA [_,_] [] 1183221874679679550696 rfl h1) (by simp;exact LA [_,_] [] 1183221874679679550696 rfl h2),λp hp=>a0c (h.ob p hp) (by have:=(h.out p hp).n;exact LA [_,_] [] 39523742109687350504 rfl this),h.nd,h.out⟩
theorem Wd.swap(h:Wd g bud σ S L){p q:Nat×AObj}{L':List (Nat×AObj)}(e:L=p::q::L'):Wd g bud σ S (q::p::L'):=by
 subst e
 refine h.sub (λx hx=>?_) ?_
 ·simp only[List.mem_cons]at hx⊢
  rcases hx with h|h|h
  ·exact .inr (.inl h)
  ·exact .inl h
  ·exact .inr (.inr h)
 ·exact(List.Perm.swap p q L').map (·.1)|>.nodup_iff.mpr h.nd|> λx=>by assumption
end
theorem u0c(n sy:Nat)(hb v:Int):c0r (q0k n sy hb) (PySem.Str.ofString "hb") (.int v)=q0k n sy v:=rfl
section
variable {G:Gx} {m:Nat} {cenv:Env} {loc:Loc} {σ:Sig} {g:Geo} {bud:Int} {S:Sto} {L:List (Nat×AObj)}
theorem f0m{pos:Pos}{o:AObj}{Q:AV→Sig→Prop}(hw:Wd g bud σ S L)(ho:o=.dictI []∨o=.dictS []∨o=.dictT [])(h: ∀N τ,Wd g bud τ S ((N,o)::L)→Q (.ref N) τ):OkE G m cenv loc σ (.Dict [] [] pos) Q:=s0k ho (h _ _ hw.grow)
theorem k1m{pos:Pos}{Q:AV→Sig→Prop}(hw:Wd g bud σ S L)(h: ∀N τ,Wd g bud τ S ((N,.list [])::L)→Q (.ref N) τ):OkE G m cenv loc σ (.List [] pos) Q:=c1a (v0y ⟨by exact Nat.zero_le _,h _ _ hw.grow⟩)
theorem c1s{i:Nat}{l:List AV}{Q:AV→Sig→Prop}(hw:Wd g bud σ S L)(hi:σ[i]?=some (.list l))(h: ∀N τ,Wd g bud τ S ((N,.list l)::L)→Q (.ref N) τ):a0b G m (.type "list") [.ref i] σ Q:=j1o hi (h _ _ hw.grow)
theorem o1k{value upper:Expr}{p pos:Pos}{Q:AV→Sig→Prop}
  (h:OkE G m cenv loc σ value λx σ₁=>OkE G m cenv loc σ₁ upper λk σ₂=>∃i l,∃b:Nat,x=.ref i∧k=.int b∧σ₂[i]?=some (.list l)∧∃S L,Wd g bud σ₂ S L∧∀N τ,Wd g bud τ S ((N,.list (l.take b))::L)→Q (.ref N) τ)
  (ht:autoParam (∀o r,letTemporaryGo value o r=pure ()) aI):OkE G m cenv loc σ (.Subscript value (.Slice none (some upper) none p) pos) Q:=
 c1b (OkT.mono h λx σ₁ q=>OkT.mono q λk σ₂ ⟨i,l,b,e1,e2,e3,S,L,hw,q⟩=>⟨i,l,b,e1,e2,e3,q _ _ hw.grow⟩) ht
theorem p0a{scope:Scope}{x:PySem.Str}{elt:Expr}{si ti:Nat}{xs:List AV}{o:AObj}{Q:List AV→Sig→Prop}(P:Nat→List AV→Sto→AObj→Prop)(hw:Wd g bud σ S ((ti,o)::L))(hs:(si,.list xs)∈L)(hl:xs.length≤1000000)(h0:P 0 [] S o)
  (turn: ∀i y ys S o τ,xs[i]?=some y→P i ys S o→Wd g bud τ S ((ti,o)::L)→∀L',OkE G m (g0e scope cenv L') ((x,y)::loc) τ elt λz σ₃=>∃S' o',Wd g bud σ₃ S' ((ti,o')::L)∧P (i+1) (ys++[z]) S' o')
  (fin: ∀ys S o τ,P xs.length ys S o→Wd g bud τ S ((ti,o)::L)→Q ys τ):m0l G m cenv loc scope x [] elt (.ref si) σ Q:=
 ⟨xs,_,i0n (hw.at (List.mem_cons_of_mem _ hs)),hl,λi ys τ=>∃S o,Wd g bud τ S ((ti,o)::L)∧P i ys S o,⟨S,o,hw,h0⟩,λi ys τ _ ⟨S,o,hw,_⟩=>hw.at (List.mem_cons_of_mem _ hs),
  λi y ys τ hy ⟨S,o,hw,hP⟩ L'=>i0x (by rw[if_pos rfl];exact turn i y ys S o τ hy hP hw L'),λys τ ⟨S,o,hw,hP⟩=>fin ys S o τ hP hw⟩
theorem j0z{scope:Scope}{x:PySem.Str}{elt:Expr}{si ti:Nat}{xs:List AV}{Q:List AV→Sig→Prop}(ob:Nat→AObj)(out:Nat→List AV)(hw:Wd g bud σ S ((ti,ob 0)::L))(hs:(si,.list xs)∈L)(hl:xs.length≤1000000)(h0:out 0=[])
  (turn: ∀i y τ,xs[i]?=some y→Wd g bud τ S ((ti,ob i)::L)→∀L',OkE G m (g0e scope cenv L') ((x,y)::loc) τ elt λz σ₃=>Wd g bud σ₃ S ((ti,ob (i+1))::L)∧out i++[z]=out (i+1))
  (fin: ∀τ,Wd g bud τ S ((ti,ob xs.length)::L)→Q (out xs.length) τ):m0l G m cenv loc scope x [] elt (.ref si) σ Q:=
 p0a (λi ys S' o=>S'=S∧o=ob i∧ys=out i) hw hs hl ⟨rfl,rfl,h0.symm⟩ (λi y ys S' o τ hy ⟨e1,e2,e3⟩ hw L'=>by
  subst e1 e2 e3
  exact OkT.mono (turn i y τ hy hw L') λz σ₃ ⟨h1,h2⟩=>⟨_,_,h1,rfl,rfl,h2⟩) λys S' o τ ⟨e1,e2,e3⟩ hw=>by subst e1 e2 e3;exact fin τ hw
end
mutual
theorem t0a: ∀(n:Nat) (x:AV),AV.dat n x→PyData.eqv x.py x.py=true
 |n,.none,_=>by rfl
 |n,.bool b,_=>by exact decide_eq_true rfl
 |n,.int i,_=>by exact decide_eq_true rfl
 |n,.str i,_=>by exact decide_eq_true rfl
 |0,.tup l,d=>d.elim
 |n+1,.tup l,d=>by
  simp only[l1w,l1x,l1y,PyData.eqv]
  exact i0c n l d
 |n,.ref _,d=>by cases n<;>exact d.elim
 |n,.glob _,d=>by cases n<;>exact d.elim
 |n,.rng _ _ _,d=>by cases n<;>exact d.elim
 |n,.vview _,d=>by cases n<;>exact d.elim
theorem i0c: ∀(n:Nat) (l:List AV),AV.datL n l→PyData.eqvAll (AV.pyL l) (AV.pyL l)=true
 |n,[],_=>by rfl
 |n,x::l,d=>by
  simp only[k1q]at d
  simp only[g1h,g1g,PyData.eqvAll,t0a n x d.1,i0c n l d.2,Bool.and_self]
end
mutual
theorem AV.dat_mono{n n':Nat}(h:n≤n'): ∀x:AV,AV.dat n x→AV.dat n' x
 | .none,_=>by cases n'<;>trivial
 | .bool b,_=>by cases n'<;>trivial
 | .int i,_=>by cases n'<;>trivial
 | .str i,d=>by cases n<;>cases n'<;>exact d
 | .tup l,d=>by
  obtain _|n:=n
  ·exact d.elim
  ·obtain _|n':=n'
   ·omega
   ·exact AV.datL_mono (by exact LA [_,_] [] 1126141908758536 rfl h) l d
 | .ref _,d=>by cases n<;>exact d.elim
 | .glob _,d=>by cases n<;>exact d.elim
 | .rng _ _ _,d=>by cases n<;>exact d.elim
 | .vview _,d=>by cases n<;>exact d.elim
theorem AV.datL_mono{n n':Nat}(h:n≤n'): ∀l:List AV,AV.datL n l→AV.datL n' l
 |[],_=>trivial
 |x::l,d=>by simp only[k1q]at d⊢;exact⟨AV.dat_mono h x d.1,AV.datL_mono h l d.2⟩
end
mutual
theorem Tm.dat: ∀t:Tm,AV.dat (2*t.dep+1) t.av
 | .v n=>⟨show PyData.strOk _=true by decide+kernel,trivial,trivial⟩
 | .a n=>⟨show PyData.strOk _=true by decide+kernel,trivial,trivial⟩
 | .i n=>⟨show PyData.strOk _=true by decide+kernel,trivial,trivial⟩
 | .s f ts=>by
  have:=Tm.datL ts
  simp only[f0d,f0a,f0b,f0c,q0w,q0t,q0u,q0v]
  rw[show 2*(Tm.depL ts+1)+1=(2*Tm.depL ts+1)+1+1 by exact LA [_] [] 8735200225880747246958978 rfl]
  exact⟨show PyData.strOk _=true by decide+kernel,trivial,this,trivial⟩
theorem Tm.datL: ∀ts:List Tm,AV.datL (2*Tm.depL ts+1) (Tm.avL ts)
 |[]=>trivial
 |t::ts=>by
  simp only[o1w,k1q,w0z,w0y]
  exact⟨AV.dat_mono (by exact LA [_,_] [] 8107044972399769984 rfl) _ (Tm.dat t),AV.datL_mono (by exact LA [_,_] [] 8072142075287648640 rfl) _ (Tm.datL ts)⟩
end
theorem Tm.datL'{ts:List Tm}{k:Nat}(h:2*Tm.depL ts+1≤k):AV.datL k (ts.map Tm.av):=by rw[←Tm.avL_map];exact AV.datL_mono h _ (Tm.datL ts)
theorem g0z: ∀H:List Cel,AV.datL 1 (H.map Cel.av)
 |[]=>trivial
 |c::H=>⟨Cel.dat c,g0z H⟩
section
variable {G:Gx} {m:Nat} {σ:Sig}
theorem e0r{i j:Nat}{l:List AV}{Q:AV→Sig→Prop}(k:Nat)(hk:k≤80)(ei:σ[i]?=some (.list l))(ej:σ[j]?=some (.list l))(d:AV.datL k l)(h:Q (.bool false) σ):b0e G m .NotEq (.ref i) (.ref j) σ Q:=
 w0r k hk k ei ej d d (by unfold AV.eqbL;rw[i0c k l d];exact h)
end
section
variable {G:Gx} {m:Nat} {cenv:Env} {loc:Loc} {σ:Sig} {g:Geo} {bud:Int} {S:Sto} {L:List (Nat×AObj)}
theorem q0o(W:WOk G (hd.heap_1 G.w.params))(hm: ∃o,G.base.get? sysModules=some o){ti:Nat}{X:List Tm}{i:Nat}{t:Tm}{c:Cel}{Q:AV→Sig→Prop}(hw:Wd g bud σ S ((ti,.dictI (a0u (num (a0g [] (X.take i)))))::L))(hc:Dec S g.fs c t)(hX:X[i]?=some t)(hz:Tm.sizeL X≤900)
  (h: ∀τ,Wd g bud τ S ((ti,.dictI (a0u (num (a0g [] (X.take (i+1))))))::L)→Q (t.ren (idx (a0g [] X))).av τ):a0b G (m+4) (.ref 371) [.ref (g.n+1),c.av,.ref ti] σ Q:=by
 refine c0e (hc.deref) λq d e hd=>?_
 refine a0k (b1v hd.dec hX hz) λj hj=>?_
 have hf:=hw.out _ (List.mem_cons_self ..)
 exact q0p W hm hw.st hw.sy (hw.at (List.mem_cons_self ..)) ⟨hf.n,hf.y⟩ e hd.tag hj (h _ (hw.set rfl))
theorem y0w(W:WOk G (hd.heap_1 G.w.params))(hm: ∃o,G.base.get? sysModules=some o){ti:Nat}{tab tab1 tab':b0b}{S1 S':Sto}{t:Tm}{c:Cel}{Q:AV→Sig→Prop}(hw:Wd g bud σ S ((ti,.dictI (b0v tab))::L))(hg:g0a (h0x tab) S tab S1 tab1)(hp:q0e g.fs t S1 tab1 c S' tab')(hz:tab.length≤100000)(hb:S'.hb=S.hb)
  (h: ∀τ,Wd g bud τ S' ((ti,.dictI (b0v tab'))::L)→Q c.av τ):a0b G (m+4) (.ref 364) [.ref (g.n+1),t.av,.ref ti] σ Q:=by
 have hf:=hw.out _ (List.mem_cons_self ..)
 exact s0a W hm hw.st hw.sy hw.geo.ap (hw.at (List.mem_cons_self ..)) ⟨hf.n,hf.y⟩ hg hz hp (h _ ((hw.heap hb).set rfl))
theorem z0i(W:WOk G (hd.heap_1 G.w.params)){c1 c2 e:Cel}{p:Int}{Q:AV→Sig→Prop}(hw:Wd g bud σ S L)(hu:UniOk g.fs S c1 c2 p e)(ht:S.trail.length<1000)
  (h: ∀τ,Wd g bud τ (uni S p e) L→Q (.bool true) τ):a0b G (m+6) (.ref 439) [.ref (g.n+1),c1.av,c2.av,.bool true] σ Q:=by
 refine a0k (hu.d1) λq1 h1=>?_
 refine a0k (hu.d2) λq2 h2=>?_
 refine a0k (hu.de) λq3 h3=>?_
 exact b1x W hw.st hw.sy hw.geo.ap h1 h2 h3 hu.ne hu.e1 hu.occ hu.p0 hu.pl hu.el ht (h _ (hw.heap d1a))
theorem n1l{ti:Nat}{o:AObj}(hw:Wd g bud σ S ((ti,o)::L)):(putSt σ g.n S).set ti o=σ:=by
 rw[v0o hw.st,c0z (hw.at (List.mem_cons_self ..))]
theorem i1p(W:WOk G (hd.heap_1 G.w.params))(hm: ∃o,G.base.get? sysModules=some o){ti:Nat}{tab tab':b0b}{S':Sto}{c x:Cel}{Q:AV→Sig→Prop}(hw:Wd g bud σ S ((ti,.dictI (b0v tab))::L))(hp:c1l g.fs c S tab x S' tab')(hb:S'.hb=S.hb)
  (h: ∀τ,Wd g bud τ S' ((ti,.dictI (b0v tab'))::L)→Q x.av τ):a0b G (m+4) (.ref 460) [.ref (g.n+1),c.av,.ref ti] σ Q:=by
 have hf:=hw.out _ (List.mem_cons_self ..)
 rcases hp with⟨q,h1,h2,h3,rfl,rfl⟩|⟨q,p,h1,h2,rfl,rfl⟩|⟨q,p,h1,h2,h3,h4,rfl,rfl,rfl⟩|⟨q,j,d,f,args,s',h1,h2,h3,h4,rfl,rfl,rfl⟩
 ·exact p0d W hw.st h1 h2 h3 (h _ hw)
 ·exact r0h W hm hw.st (hw.at (List.mem_cons_self ..)) h1 h2 (h _ hw)
 ·exact r0g W hm hw.st (hw.at (List.mem_cons_self ..)) hf.n h1 h2 h3 h4 (h _ ((hw.heap hb).set rfl))
 ·exact p0c W hm hw.st hw.sy hw.geo.ap (hw.at (List.mem_cons_self ..)) ⟨hf.n,hf.y⟩ h1 h2 h3 h4 (h _ ((hw.heap hb).set rfl))
theorem a1t(W:WOk G (hd.heap_1 G.w.params)){c:Cel}{t:Tm}{Q:AV→Sig→Prop}(hw:Wd g bud σ S L)(hc:Dec S g.fs c t)(hz:t.size≤900)(h:Q (.bool (grT t)) σ):a0b G (m+4) (.ref 474) [.ref (g.n+1),c.av] σ Q:=by
 refine a0k (j1b hc (by exact LA [_] [] 3626782466884056565252104 rfl hz)) λj hj=>?_
 exact p0q W hw.st hw.sy hj h
theorem q0s(W:WOk G (hd.heap_1 G.w.params))(hm: ∃o,G.base.get? sysModules=some o){c c':Cel}{t u:Tm}{Q:AV→Sig→Prop}(hw:Wd g bud σ S L)(hc:Dec S g.fs c t)(hc':Dec S g.fs c' u)(hz:t.size≤900)(hH:S.heap.length≤100000)(h:Q (.bool (a0n [] [] t u).1) σ):a0b G (m+4) (.ref 488) [.ref (g.n+1),c.av,c'.av] σ Q:=by
 refine a0k (s0h hc hc' hH (by exact LA [_] [] 3626779008119542744711176 rfl hz)) λj hj=>?_
 exact n0j W hm hw.st hw.sy hj h
theorem s0g(W:WOk G (hd.heap_1 G.w.params)){c:Cel}{t:Tm}{Q:AV→Sig→Prop}(hw:Wd g bud σ S L)(hc:Dec S g.fs c t)(hz:t.size≤900)(h: ∀N τ,Wd g bud τ S ((N,.list (vars (a0r [] t)))::L)→Q (.ref N) τ):a0b G (m+4) (.ref 467) [.ref (g.n+1),c.av] σ Q:=by
 refine c0e (hc.deref) λq d e hd=>?_
 refine a0k (o0o hd.dec (by exact LA [_] [] 3626782466884056565252104 rfl hz)) λj hj=>?_
 exact k0m W hw.st hw.sy e hd.tag hj (h _ _ hw.grow)
theorem c1p(W:WOk G (hd.heap_1 G.w.params)){fi:Nat}{t:Tm}{d:Nat}{Q:AV→Sig→Prop}(hw:Wd g bud σ S ((fi,.list [])::L))(hd:t.dep≤d)(hz:t.size≤900)(h: ∀τ,Wd g bud τ S ((fi,.list ((a0r [] t).map .int))::L)→Q (.ref fi) τ):a0b G (m+d+1) (.ref 526) [t.av,.ref fi] σ Q:=
 e1j W d t σ [] Q hd (hw.at (List.mem_cons_self ..)) (by simp;exact LA [_] [] 6044630647313616722034696 rfl hz) (h _ (hw.set rfl))
theorem b1e(W:WOk G (hd.heap_1 G.w.params))(hm: ∃o,G.base.get? sysModules=some o){ti bi:Nat}{t u:Tm}{d:Nat}{Q:AV→Sig→Prop}(hw:Wd g bud σ S ((bi,.dictI (a0u []))::(ti,.dictI (a0u []))::L))(hd:t.dep≤d)(hz:t.size≤900)(h: ∀τ,Wd g bud τ S L→Q (.bool (a0n [] [] t u).1) τ):a0b G (m+d+1) (.ref 533) [t.av,u.av,.ref ti,.ref bi] σ Q:=by
 have hne:ti≠bi:=by
  have:=hw.nd
  simp only[List.map_cons,List.nodup_cons,List.mem_cons,not_or]at this
  exactλe=>this.1.1 e.symm
 refine t0q W hm hne d t u σ [] [] Q hd (hw.at (by exact .tail _ (.head _))) (hw.at (by exact .head _)) ⟨by simp;exact LA [_] [] 6044630647313616722034696 rfl hz,by simp;exact LA [_] [] 6044630647313616722034696 rfl hz⟩ (by exact LA [_] [] 6044630647313616722034696 rfl hz) (h _ ?_)
 exact(((hw.swap rfl).set rfl).swap rfl|>.set rfl).tail rfl|>.tail rfl
end
noncomputable def a1z:List Nat:=[569,573,574,577,578,585,590,594,595,597,600,602,618,624,627,632]
noncomputable def g0b(G:Gx)(body:List Stmt)(scope:Scope):Prop:=∃oc od osl name qual params dV kV doc pm an cdv ct,(hd.heap_1 G.w.params).lookup 545=some ⟨oc,od,.func (fnOf name qual params body scope dV kV doc pm an cdv ct),osl⟩
theorem d0y{G:Gx}{b b':List Stmt}{s s':Scope}(h:g0b G b s)(h':g0b G b' s'):b=b'∧s=s':=by
 obtain⟨_,_,_,_,_,_,_,_,_,_,_,_,_,h⟩:=h
 obtain⟨_,_,_,_,_,_,_,_,_,_,_,_,_,h'⟩:=h'
 rw[h]at h'
 simp only[Option.some.injEq,Obj.mk.injEq,Data.func.injEq,fnOf,FuncData.mk.injEq,FuncBody.stmts.injEq]at h'
 exact⟨h'.2.2.1.2.2.2.1,h'.2.2.1.2.2.2.2.1⟩
section
variable {G:Gx} {n:Nat} {cenv:Env} {loc:Loc} {σ:Sig} {Ks:List (List Stmt)} {rest:List Stmt} {Q:AFlow→Loc→Sig→Prop}
noncomputable def JJ(Q:AFlow→Loc→Sig→Prop)(P:Loc→Sig→Prop)(fl:AFlow)(l:Loc)(σ':Sig):Prop:=match fl with
 | .next=>P l σ'
 |fl=>Q fl l σ'
theorem c1c{b:List Stmt}(P:Loc→Sig→Prop)(h:OkK G n cenv (JJ Q P) [b] loc σ)(k: ∀l σ',P l σ'→OkK G n cenv Q Ks l σ'):OkK G n cenv Q (b::Ks) loc σ:=
 OkF.mono h λfl l σ' q=>by cases fl<;>first|exact k _ _ q|exact q
theorem h1i{t:Expr}{b e:List Stmt}{pos:Pos}(P:Loc→Sig→Prop)(h:OkB G n cenv loc σ t λc σ₁=>if c then OkK G n cenv (JJ Q P) [b] loc σ₁ else OkK G n cenv (JJ Q P) [e] loc σ₁)(k: ∀l σ',P l σ'→OkK G n cenv Q (rest::Ks) l σ'):OkK G n cenv Q ((.If t b e pos::rest)::Ks) loc σ:=
 n1n (OkT.mono h λc σ' q=>by
  cases c with
  |true=>exact c1c P q k
  |false=>exact c1c P q k)
theorem j0w{b:List Stmt}{loc':Loc}(hs:Sub loc' loc)(h:OkK G n cenv Q (b::Ks) loc' σ):OkK G n cenv Q (b::Ks) loc σ:=λA ρ s r S F=>h A ρ s r S (F.weak hs)
theorem n0l{P:Loc→Sig→Prop}(h:P loc σ):JJ Q P .next loc σ:=h
end
structure AOk (g:Geo) (f1 f2 f3:Int) (trees:List Tm) (S:Sto) (tab:b0b):Prop where
 fm:FmOk g.fs f1 f2 f3
 src:z0q (x0g f1 f2 f3) trees
 cnt:u0x trees≤7
 dep:Tm.depL trees≤3
 len:1≤trees.length∧trees.length≤3
 put:o0r g.fs S tab [] (λ_=>.v 0) [] []
 stack:S.stack.length≤1
 trail:S.trail=[]
 hb:S.hb=0
 heap:S.heap=[]
 tlen:tab.length≤1
noncomputable def m1z(g:Geo)(pi ti fi ai:Nat)(early:Bool):Loc:=[("hand",.ref g.hi),("names",.ref (g.y+1)),("atoms",.ref ai),("forms",.ref fi),("trees",.ref ti),("early",.bool early),("heaped",.ref (g.n+1)),("places",.ref pi)]
noncomputable abbrev e0m (scope:Scope) (L:Addr) (qq:PySem.Str) (fu:Option Addr) (co:Value):Env:=⟨scope,L,mainGlobals,cellsFrom (L+1) scope.names [],qq,fu,co,some L,builtinsNs⟩
abbrev t0n:AFlow→Loc→Sig→Prop:=λfl _ σ'=>Fin [] (λx _=>x=.bool true) fl σ'
noncomputable def o1g(pi:Nat)(early:Bool):Loc:=[("hand",.ref 1),("names",.ref 3),("atoms",.ref 8),("forms",.ref 9),("trees",.ref 10),("early",.bool early),("heaped",.ref 12),("places",.ref pi)]
structure PhA (ks:List Int) (σ:Sig) (len b:Nat) (ts:List PySem.Str) (fs:List Cel):Prop where
 len:σ.length=len
 sy:IsSy σ 2 ts fs
 hand:IsHand σ 1 0 ks 7
 nt:ts.Nodup
 dot:ts[1]?=some (PySem.Str.ofString ".")
 f0:fs[0]?=some (1,2)
 lt:ts.length≤b
 lf:fs.length≤b
theorem n0b{α:Type}{l l':List α}{i:Nat}{x:α}(h:l<+:l')(e:l[i]?=some x):l'[i]?=some x:=by
 obtain⟨r,rfl⟩:=h
 rw[List.getElem?_append_left (List.getElem?_eq_some_iff.mp e).1];exact e
section
variable {G:Gx} {m:Nat} {σ:Sig} {ks:List Int} {len b:Nat} {ts:List PySem.Str} {fs:List Cel}
theorem PhA.same(h:PhA ks σ len b ts fs){σ':Sig}{W:List Nat}(s:Same W σ σ')(hW: ∀i∈W,7<i){len':Nat}(hl:σ'.length=len'):PhA ks σ' len' b ts fs:=
 ⟨hl,h.sy.same s λi hi=>by have:=hW i hi;exact LA [_] [] 200786325266130131986472 rfl this,h.hand.same s (λq=>by have:=hW _ q;exact LA [] [] 343124008 rfl this) (λq=>by have:=hW _ q;exact LA [] [] 342075432 rfl this),h.nt,h.dot,h.f0,h.lt,h.lf⟩
theorem c1e(W:WOk G (hd.heap_1 G.w.params))(hm: ∃o,G.base.get? sysModules=some o){t:PySem.Str}{Q:AV→Sig→Prop}(hA:PhA ks σ len b ts fs)(hb:b≤900)(h: ∀(a:Nat) ts' τ,PhA ks τ len (b+1) ts' fs→ts<+:ts'→ts'[a]?=some t→Same [2,3,4,5,6,7] σ τ→Q (.int a) τ):a0b G (m+1) (.ref 88) [.ref 3,.str t] σ Q:=by
 have hl:=hA.len
 have h5:=b0m hA.sy.keys
 have lt:=hA.lt
 have lf:=hA.lf
 walk_at"*"
 refine q0z (y:=2) W hm hA.sy (by exact LA [_,_] [] 3802953426359386244836503158792 rfl hb lt) (λi hi=>?_) (λhn=>?_)
 ·exact h i ts σ ⟨hl,hA.sy,hA.hand,hA.nt,hA.dot,hA.f0,by exact LA [_,_] [] 7743826067464 rfl lt,by exact LA [_,_] [] 7743826067464 rfl lf⟩ List.prefix_rfl hi (Same.refl _ _)
 ·have s:Same [2,3,4,5,6,7] σ ((σ.set (2+2) (.list ((ts++[t]).map .str))).set (2+3) (.dictS (u0j (ts++[t])))):=((Same.refl _ _).set (by exact .inl (.tail _ (.tail _ (.head _))))).set (by exact .inl (.tail _ (.tail _ (.tail _ (.head _)))))
  exact h ts.length (ts++[t]) _ ⟨by simp[hl],hA.sy.setA t,hA.hand.same s (by trivial) (by trivial),j0t hA.nt hn,n0b (List.prefix_append _ _) hA.dot,hA.f0,by simp;omega,by exact LA [_,_] [] 7743826067464 rfl lf⟩ (List.prefix_append _ _) (by exact gn0) s
theorem x0n(W:WOk G (hd.heap_1 G.w.params))(hm: ∃o,G.base.get? sysModules=some o){t:PySem.Str}{k:Int}{Q:AV→Sig→Prop}(hA:PhA ks σ len b ts fs)(hb:b≤900)(h: ∀(i a:Nat) ts' fs' τ,PhA ks τ len (b+1) ts' fs'→fs<+:fs'→fs'[i]?=some ((a:Int),k)→ts'[a]?=some t→Same [2,3,4,5,6,7] σ τ→Q (.int i) τ):a0b G (m+2) (.ref 109) [.ref 3,.str t,.int k] σ Q:=by
 have hl:=hA.len
 have lt:=hA.lt
 have lf:=hA.lf
 walk_at"*"
 refine x0o (y:=2) W hm hA.sy ⟨by exact LA [_,_] [] 3802953426359386244836503158792 rfl hb lt,by exact LA [_,_] [] 3802953426359386244836503158792 rfl hb lf⟩ λi a ts' fs' σ' e1 e2 e3 e4 s hl' hY=>?_
 have s':Same [2,3,4,5,6,7] σ σ':=s.mono (by trivial)
 have p1:ts<+:ts'∧ts'.Nodup∧ts'.length≤b+1:=by
  rcases e1 with rfl|⟨rfl,hn⟩
  ·exact⟨List.prefix_rfl,hA.nt,by exact LA [_,_] [] 7743826067464 rfl lt⟩
  ·exact⟨List.prefix_append _ _,j0t hA.nt hn,by simp;omega⟩
 have p2:fs<+:fs'∧fs'.length≤b+1:=by
  rcases e3 with rfl|⟨rfl,hn⟩
  ·exact⟨List.prefix_rfl,by exact LA [_,_] [] 7743826067464 rfl lf⟩
  ·exact⟨List.prefix_append _ _,by simp;omega⟩
 exact h i a ts' fs' σ' ⟨by exact LA [_,_,_] [] 1198469897289800 rfl hl hl',hY,hA.hand.same s' (by trivial) (by trivial),p1.2.1,n0b p1.1 hA.dot,n0b p2.1 hA.f0,p1.2.2,p2.2⟩ p2.1 e4 e2 s'
theorem c1t(W:WOk G (hd.heap_1 G.w.params)){limit:Int}{Q:AV→Sig→Prop}(hA:PhA ks σ len b ts fs)(hl0:0<limit)(hl1:limit<2^200)(h: ∀d τ,0≤d→d<limit→PhA ks τ len b ts fs→Same [1] σ τ→Q (.int d) τ):a0b G (m+1) (.ref 495) [.ref 1,.int limit] σ Q:=
 c0v W hA.hand hl0 hl1 λd τ h0 h1 s hl hH=>h d τ h0 h1 ⟨hl.trans hA.len,hA.sy.same s (by trivial),hH,hA.nt,hA.dot,hA.f0,hA.lt,hA.lf⟩ s
end
section
variable {G:Gx} {m:Nat} {cenv:Env} {loc:Loc} {σ:Sig}
theorem i1d{fd:FuncData}{p:PySem.Str}{x:AV}(hb: ∀v,bindArgs fd ⟨[v],[]⟩=pure [(p,v)]): ∀(h:Heap) (ρ:List Addr) (vs:List Value),VL ρ h [x] vs→∃ws,VL ρ h [x] ws∧ws.length=[p].length∧bindArgs fd ⟨vs,[]⟩=pure ([p].zip ws):=λh ρ vs hv=>by
 obtain⟨v,r,rfl,hv,hr⟩:=hv;cases hr
 exact⟨[v],⟨v,[],rfl,hv,rfl⟩,rfl,hb v⟩
theorem m1q(W:WOk G (hd.heap_1 G.w.params))(hm: ∃o,G.base.get? sysModules=some o){ad:Addr}{items:Array Value}{ks:List Int}(hb:G.base.IsList ad items)(hI:IntsAre items.toList ks)(hz:ks.length≤63)
  (next: ∀(body:List Stmt) (scope:Scope) (L:Addr) (qq:PySem.Str) (fu:Option Addr) (co:Value) (g:Geo) (bud a1 a2 f1 f2 f3:Int) (pi ti fi ai:Nat) (early:Bool) (trees:List Tm) (S:Sto) (tab:b0b) (σ:Sig),g0b G body scope→Wd g bud σ S [(pi,.dictI (b0v tab)),(ti,.list (trees.map Tm.av)),(fi,d0d f1 f2 f3),(ai,c0i a1 a2)]→AOk g f1 f2 f3 trees S tab→
   OkK G (m+59) (e0m scope L qq fu co) t0n [body.drop 10] (m1z g pi ti fi ai early) σ):a0b G (m+60) (.ref 545) [.glob (.ref ad)] [] (λx _=>x=.bool true):=by
 refine s0w W (by k_is) (by k_is) (i1d (p:="script") λv=>rfl) rfl rfl (by decide) (by decide) rfl rfl rfl (λL qq fu co hcl=>?_)
 refine z0u (by rfl) ?_
 refine d1i hb hI (by exact LA [_] [] 3626779008082159405989896 rfl hz) ?_
 walk_at"*"
 refine⟨63,rfl,rfl,?_⟩
 walk_at"*"
 refine p1k (ks:=ks.take 63) (by rfl) ?_
 walk_at"*"
 refine j0e (by decide) ?_
 walk_at"*"
 have hr0:0≤(ks.take 63).sum%100003:=Int.emod_nonneg _ (by decide)
 have hr1:(ks.take 63).sum%100003<100003:=Int.emod_lt_of_pos _ (by decide)
 generalize (ks.take 63).sum%100003=r at hr0 hr1
 walk_at"*"
 refine r0d (f1h (by omega)) ?_
 walk_at"*"
 refine v0s (m:=m+54) W hm λσ1 ts fs hs1 hl1 hY hSy=>?_
 have hA1:PhA (ks.take 63) σ1 8 300 ts fs:=⟨hl1,hY,⟨hs1.get (by rfl) (by exact nofun),0,0,r*7,by exact LA [] [] 6339 rfl,by exact LA [_] [] 18627 rfl,by exact LA [] [] 6339 rfl,by exact LA [] [_] 4654875416680 rfl hr0,by omega,hs1.get (by rfl) (by exact nofun)⟩,hSy.nt,hSy.dot,hSy.f0,hSy.lt,hSy.lf⟩
 clear hs1 hl1 hY hSy hr0 hr1
 show m1h _ _ _ _ (AV.ref 3) _
 have hYA:=hA1.sy
 walk_at"*"
 clear hYA
 refine c1e (m:=m+58) W hm hA1 (by exact LA [] [] 2305853284922953056 rfl) λa1 ts2 σ2 hA2 _ _ s2=>?_
 clear hA1 s2
 have hYA:=hA2.sy
 walk_at"*"
 clear hYA
 refine c1e (m:=m+58) W hm hA2 (by exact LA [] [] 2361193769327378148736 rfl) λa2 ts3 σ3 hA3 _ _ s3=>?_
 clear hA2 s3
 walk_at"*"
 have hl3:=hA3.len
 rw[hl3]
 have hA4:PhA (ks.take 63) (σ3++[AObj.list [AV.int 0,AV.int a1,AV.int a2]]) 9 302 ts3 fs:=hA3.same (W:=[]) (Same.refl _ _).app (by trivial) (by simp[hl3])
 have ha4:(σ3++[AObj.list [AV.int 0,AV.int a1,AV.int a2]])[8]?=some (c0i a1 a2):=by rw[←hl3];exact d0f
 clear hA3 hl3
 generalize σ3++[AObj.list [AV.int 0,AV.int a1,AV.int a2]]=σ4 at hA4 ha4⊢
 walk_at"*"
 refine here ?_
 refine f0w (by rfl) (by rfl) ?_
 refine n1y [569] W ⟨?_⟩
 have hYA:=hA4.sy
 walk_at"*"
 clear hYA
 refine x0n (m:=m+57) W hm hA4 (by exact LA [] [] 2305853282775775584 rfl) λi1 b1 ts5 fs5 σ5 hA5 p5 e5 t5 s5=>?_
 have ha5:=s5.get ha4 (by trivial)
 have hf1:0<(i1:Int)∧∃a,fs5[(i1:Int).toNat]?=some (a,1):=by
  refine⟨?_,b1,by simpa using e5⟩
  rcases Nat.eq_zero_or_pos i1 with rfl|h
  ·rw[hA5.f0]at e5;cases e5
  ·exact LA [_] [] 19532879912 rfl h
 clear hA4 ha4 s5 p5 e5 t5 σ4
 walk_at"*"
 refine here ?_
 refine OkT.mono (Q:=λx τ=>∃f2:Int,∃ts' fs',x=.int f2∧PhA (ks.take 63) τ 9 304 ts' fs'∧fs5<+:fs'∧(f2=0∨0<f2∧∃a,fs'[f2.toNat]?=some (a,2))∧τ[8]?=some (c0i a1 a2)) ?_ ?_
 ·walk_at"*"
  refine c1t (m:=m+58) W hA5 (by decide) (by decide) λd6 σ6 _ _ hA6 s6=>?_
  have ha6:=s6.get ha5 (by trivial)
  walk_at"*"
  refine a0h (λ_=>?_) (λ_=>?_)
  ·walk_at"*"
   exact⟨0,ts5,fs5,rfl,⟨hA6.len,hA6.sy,hA6.hand,hA6.nt,hA6.dot,hA6.f0,by have:=hA6.lt;exact LA [_] [] 359305688949024139640840 rfl this,by have:=hA6.lf;exact LA [_] [] 359305688949024139640840 rfl this⟩,List.prefix_rfl,.inl rfl,ha6⟩
  ·have hYA:=hA6.sy
   walk_at"*"
   clear hYA
   refine x0n (m:=m+57) W hm hA6 (by exact LA [] [] 2361193769258668469632 rfl) λi2 b2 ts7 fs7 σ7 hA7 p7 e7 t7 s7=>?_
   refine⟨(i2:Int),ts7,fs7,rfl,hA7,p7,.inr ⟨?_,b2,by simpa using e7⟩,s7.get ha6 (by trivial)⟩
   rcases Nat.eq_zero_or_pos i2 with rfl|h
   ·rw[hA7.f0]at e7
    simp only[Option.some.injEq,Prod.mk.injEq,and_true]at e7
    have:b2=1:=by exact LA [_] [] 240585874600 rfl e7
    subst this
    rw[hA7.dot]at t7
    simp only[Option.some.injEq]at t7
    exact absurd t7 (by decide)
   ·exact LA [_] [] 19532879912 rfl h
 intro x σ7 z0;refine a1o z0 λf2 ts7 fs7 z2 hA7 p7 hf2 ha7=>?_;clear z0;subst z2
 have hf1':0<(i1:Int)∧∃a,fs7[(i1:Int).toNat]?=some (a,1):=⟨hf1.1,by refine a0k (hf1.2) λa h=>?_;exact⟨a,n0b p7 h⟩⟩
 clear hA5 ha5 hf1 p7 σ5
 have hYA:=hA7.sy
 walk_at"*"
 clear hYA
 refine x0n (m:=m+57) W hm hA7 (by exact LA [] [] 2305853282775777632 rfl) λi3 b3 ts8 fs8 σ8 hA8 p8 e8 t8 s8=>?_
 have ha8:=s8.get ha7 (by trivial)
 have F:FmOk fs8 i1 f2 i3:=by
  refine⟨⟨hf1'.1,by refine a0k (hf1'.2) λa h=>?_;exact⟨a,n0b p8 h⟩⟩,?_,?_,b3,by simpa using e8⟩
  ·rcases hf2 with h|⟨h,a,h'⟩
   ·exact .inl h
   ·exact .inr ⟨h,a,n0b p8 h'⟩
  ·rcases Nat.eq_zero_or_pos i3 with rfl|h
   ·rw[hA8.f0]at e8;cases e8
   ·exact LA [_] [] 19532879912 rfl h
 clear hA7 ha7 s8 p8 e8 t8 σ7 hf1' hf2
 walk_at"*"
 have hl8:=hA8.len
 rw[hl8]
 have hA9:PhA (ks.take 63) (σ8++[AObj.list [AV.int 0,AV.int i1,AV.int f2,AV.int i3]]) 10 305 ts8 fs8:=hA8.same (W:=[]) (Same.refl _ _).app (by trivial) (by simp[hl8])
 have hf9:(σ8++[AObj.list [AV.int 0,AV.int i1,AV.int f2,AV.int i3]])[9]?=some (d0d i1 f2 i3):=by rw[←hl8];exact d0f
 have ha9:=a0j (r:=[AObj.list [AV.int 0,AV.int i1,AV.int f2,AV.int i3]]) ha8
 clear hA8 hl8 ha8
 generalize σ8++[AObj.list [AV.int 0,AV.int i1,AV.int f2,AV.int i3]]=σ9 at hA9 hf9 ha9⊢
 walk_at"*"
 refine c1t (m:=m+58) W hA9 (by decide) (by decide) λd10 σ10 h10 h10' hA10 s10=>?_
 have ha10:=s10.get ha9 (by trivial)
 have hf10:=s10.get hf9 (by trivial)
 clear hA9 ha9 hf9 s10 σ9
 obtain⟨k,hk1,hk3,hk⟩: ∃k:Nat,1≤k∧k≤3∧1+d10=(k:Int):=⟨(1+d10).toNat,by exact LA [] [_] 148867022723176 rfl h10,by exact LA [] [_] 119494256916500616 rfl h10',by exact LA [] [_] 4878086836084414568 rfl h10⟩
 walk_at"*"
 rw[hk]
 walk_at"*"
 refine e0s ?_
 refine⟨_,_,f0u (k:=k) (by exact LA [_] [_] 237684538308253118679668297864 rfl h10' hk),by simp;exact LA [_] [_] 237684538308253118679668297864 rfl h10' hk,λi ys τ=>∃us b',ys=us.map Tm.av∧us.length=i∧z0q (x0g i1 f2 i3) us∧u0x us+b'=7∧Tm.depL us≤3∧Same [1] σ10 τ∧τ.length=10∧IsHand τ 1 0 (ks.take 63) (b':Nat),⟨[],7,rfl,rfl,trivial,by rfl,by exact Nat.zero_le _,Same.refl _ _,hA10.len,hA10.hand⟩,λ_ _ _ _ _=>trivial,?_,?_⟩
 ·intro i z ys τ hz' z0;refine a1n z0 λus b' ey hul hsu hcu hdu hs hl hH=>?_;clear z0;intro L'
  subst ey
  refine i0x ?_
  rw[if_pos rfl]
  walk_at"*"
  refine f1v (m:=m+53) W (hi:=1) (ci:=0) (ai:=8) (fi:=9) (by decide) (by decide) 3 τ b' _ hH (hs.get ha10 (by trivial)) (hs.get hf10 (by trivial)) λt b'' τ2 ht hc hdp hs2 hl2 hH2=>?_
  refine⟨us++[t],b'',by simp,by simp[hul],o0k hsu ⟨ht,trivial⟩,?_,?_,hs.trans hs2,by exact LA [_,_] [] 11890699321695600712 rfl hl hl2,hH2⟩
  ·rw[n0r];simp only[g1d,g1c];exact LA [_,_,_,_] [] 9496211271372391874867516639555656 rfl hcu hc
  ·rw[n0t];simp only[w0z,w0y];exact LA [_,_] [] 128374581934336846773682184 rfl hdu hdp
 intro ys σ11 z0;refine a1n z0 λtrees b11 ey hul hsu hcu hdu hs hl hH=>?_;clear z0
 subst ey
 rw[List.length_map,List.length_range]at hul
 have hY11:IsSy (σ11++[AObj.list (trees.map Tm.av)]) 2 ts8 fs8:=(hA10.sy.same hs (by trivial)).app
 have hH11:IsHand (σ11++[AObj.list (trees.map Tm.av)]) 1 0 (ks.take 63) (b11:Nat):=hH.same (W:=[]) (Same.refl _ _).app (by exact nofun) (by exact nofun)
 have ha11:=a0j (r:=[AObj.list (trees.map Tm.av)]) (hs.get ha10 (by trivial))
 have hf11:=a0j (r:=[AObj.list (trees.map Tm.av)]) (hs.get hf10 (by trivial))
 have ht11:(σ11++[AObj.list (trees.map Tm.av)])[10]?=some (.list (trees.map Tm.av)):=by rw[←hl];exact d0f
 have hl11:(σ11++[AObj.list (trees.map Tm.av)]).length=11:=by simp[hl]
 have hnt:=hA10.nt
 rw[hl]
 clear hA10 ha10 hf10 hs hH hl σ10
 generalize σ11++[AObj.list (trees.map Tm.av)]=σ12 at hY11 hH11 ha11 hf11 ht11 hl11⊢
 walk_at"*"
 refine c0v (m:=m+58) W hH11 (by decide) (by decide) λd13 σ13 _ _ s13 hl13 hH13=>?_
 have hY13:=hY11.same s13 (by trivial)
 have ha13:=s13.get ha11 (by trivial)
 have hf13:=s13.get hf11 (by trivial)
 have ht13:=s13.get ht11 (by trivial)
 rw[hl11]at hl13
 clear hY11 hH11 ha11 hf11 ht11 hl11 s13
 walk_at"*"
 generalize hearly:(d13==0)=early
 walk_at"*"
 refine u0f (m:=m+57) W (sy:=3) (by exact LA [_] [] 113862049864 rfl hl13) λσ14 s14 hl14 hS14=>?_
 rw[hl13]at hl14 hS14⊢
 have hY14:=hY13.same s14 (by trivial)
 have hH14:=hH13.same s14 (by exact nofun) (by exact nofun)
 have ha14:=s14.get ha13 (by exact nofun)
 have hf14:=s14.get hf13 (by exact nofun)
 have ht14:=s14.get ht13 (by exact nofun)
 clear hY13 hH13 ha13 hf13 ht13 hl13 s14 σ13 σ12
 have hw14:Wd ⟨2,11,1,0,ks.take 63,ts8,fs8⟩ b11 σ14 ⟨[],[],[],0⟩ [(10,.list (trees.map Tm.av)),(9,d0d i1 f2 i3),(8,c0i a1 a2)]:=by
  refine⟨⟨by exact Nat.le_add_left _ _,by simp,by simp,by simp,by simp,by exact Nat.succ_ne_self _⟩,hY14,hS14,hH14,λp hp=>?_,by simp,λp hp=>?_⟩
  ·simp only[List.mem_cons,List.not_mem_nil,or_false]at hp
   rcases hp with rfl|rfl|rfl
   ·exact ht14
   ·exact hf14
   ·exact ha14
  ·simp only[List.mem_cons,List.not_mem_nil,or_false]at hp
   rcases hp with rfl|rfl|rfl
   ·exact⟨by simp,by simp,by exact nofun,by exact nofun⟩
   ·exact⟨by simp,by exact .inr (Nat.le_succ _),by exact nofun,by exact nofun⟩
   ·exact⟨by simp,by exact .inr (Nat.le_refl _),by exact nofun,by exact nofun⟩
 clear hY14 hS14 hH14 ha14 hf14 ht14
 walk_at"*"
 refine here ?_
 refine f0w (by rfl) (by rfl) (f0m hw14 (.inl rfl) λN15 σ15 hw15=>?_)
 clear hw14 hl14 σ14
 refine j0w (loc':=o1g N15 early) (Sub.cons rfl (Sub.cons rfl (Sub.cons rfl (Sub.cons rfl (Sub.cons rfl (Sub.cons rfl (Sub.cons rfl (Sub.cons rfl (Sub.nil _))))))))) ?_
 refine h1i (λl τ=>l=o1g N15 early∧∃S tab,Wd ⟨2,11,1,0,ks.take 63,ts8,fs8⟩ b11 τ S [(N15,.dictI (b0v tab)),(10,.list (trees.map Tm.av)),(9,d0d i1 f2 i3),(8,c0i a1 a2)]∧o0r fs8 S tab [] (λ_=>.v 0) [] []∧S.stack.length≤1∧S.trail=[]∧S.hb=0∧S.heap=[]∧tab.length≤1) ?_ ?_
 ·walk_at"*"
  refine c0v (m:=m+58) W hw15.hand (by decide) (by decide) λd16 σ16 _ _ s16 hl16 hH16=>?_
  have hw16:=hw15.handS s16 hH16
  clear hw15 s16 hH16 hl16 σ15
  have hS16:IsSt σ16 11 3 ⟨[],[],[],0⟩:=hw16.st
  walk_at"*"
  refine a0h (λ_=>?_) (λ_=>?_)
  ·walk_at"*"
   refine k0l (m:=m+58) (n:=11) (i:=0) (c:=(1,0)) W hS16 (.inl rfl) (by simp) λst hst=>?_
   obtain rfl:st=[(1,0)]:=by
    rcases hst with⟨h,_⟩|⟨h,_⟩
    ·exact h
    ·omega
   have hw18:=hw16.heap (S':=⟨[],[(1,0)],[],0⟩) rfl
   clear hw16 hS16 hst
   generalize putSt σ16 11 ⟨[],[(1,0)],[],0⟩=σ18 at hw18
   walk_at"*"
   refine c0v (m:=m+58) W hw18.hand (by decide) (by decide) λd19 σ19 _ _ s19 hl19 hH19=>?_
   have hw19:=hw18.handS s19 hH19
   clear hw18 s19 hH19 hl19 σ18
   walk_at"*"
   refine c1u (v:=(1,0)) (F:=[]) (hw19.at (List.mem_cons_self ..)) rfl (by simp) ?_
   have hw20:=hw19.set (o':=.dictI (b0v [(d19,(1,0))])) rfl
   walk_at"*"
   exact n0l ⟨rfl,_,_,hw20,.inr ⟨d19,rfl,rfl,rfl,rfl,rfl⟩,by exact Nat.le_refl _,rfl,rfl,rfl,by exact Nat.le_refl _⟩
  ·walk_at"*"
   exact n0l ⟨rfl,_,_,hw16,o0r.start,by simp,rfl,rfl,rfl,by simp⟩
 intro l σ17 z0;refine a0m z0 λz2 z1=>?_;clear z0;subst z2;refine e1h z1 λS17 tab17 hw17 hP17 hs17 ht17 hb17 hh17 hz17=>?_;clear z1
 have hla:g0b G _ _:=⟨_,_,_,_,_,_,_,_,_,_,_,_,_,by k_is⟩
 walk_at"*"
 exact next _ _ L qq fu co _ _ _ _ _ _ _ N15 10 9 8 early trees S17 tab17 σ17 hla hw17 ⟨F,hsu,by exact LA [_,_] [] 8233150921584712 rfl hcu,hdu,by exact LA [_,_] [_] 144322309502844625136447539428114236053608 rfl h10 h10' hk hul,hP17,hs17,ht17,hb17,hh17,hz17⟩
end
theorem q0f{F:e0u}{k:Int}{v:Tm}(h:g0r F k=none):n0c (h0c F) k v.av=h0c (F++[(k,v)]):=by
 have hn:g0d (h0c F) k=none:=by rw[l0o,h];rfl
 rw[t0y hn];simp[h0c]
theorem FInv.unsnoc{fs:List Cel}{S:Sto}{tab:b0b}{E:Int→Tm}{first:List Cel}{ts:List Tm}{c:Cel}{t:Tm}(h:FInv fs S tab E (first++[c]) (ts++[t])):FInv fs S tab E first ts∧Dec S fs c (t.sub E)∧∀p,b0u p t→a0o tab p≠none:=by
 have hl:=h.dec.length
 simp only[a0v,List.length_append,List.length_cons,List.length_nil]at hl
 refine a0m (DecL.iff.mp h.dec) λ_ h2=>?_
 refine⟨⟨DecL.iff.mpr ⟨by rw[a0v];exact LA [_,_] [] 1183156844437222469704 rfl hl,λi x u hx hu=>?_⟩,λp hp=>h.vars p (c0f.mpr ?_)⟩,?_,λp hp=>h.vars p (c0f.mpr ⟨t,by exact List.mem_append_right _ (.head _),hp⟩)⟩
 ·refine h2 i x u (by rw[List.getElem?_append_left (List.getElem?_eq_some_iff.mp hx).1];exact hx) ?_
  rw[d0r]at hu⊢
  rw[List.map_append,List.getElem?_append_left (List.getElem?_eq_some_iff.mp hu).1];exact hu
 ·refine a0a (c0f.mp hp) λu hu hp=>?_
  exact⟨u,List.mem_append_left _ hu,hp⟩
 ·refine h2 first.length c _ (by exact gn0) ?_
  rw[d0r,List.map_append,List.getElem?_append_right (by simp;exact LA [_,_] [] 37152868858016575560 rfl hl)]
  simp[show first.length - ts.length=0 by exact LA [_,_] [] 7291816030120368469454920 rfl hl]
theorem c0a(t:Tm): ∀ts:List Tm,Tm.sizeL (ts++[t])=Tm.sizeL ts+t.size
 |[]=>by simp[f0z,f0y]
 |u::ts=>by simp only[List.cons_append,f0z,f0y,c0a t ts];exact LA [_,_,_] [] 2287409456087426 rfl
theorem Wd.front{g:Geo}{bud:Int}{σ:Sig}{S:Sto}{L:List (Nat×AObj)}(h:Wd g bud σ S L)(A:List (Nat×AObj)){p:Nat×AObj}{B:List (Nat×AObj)}(e:L=A++p::B):Wd g bud σ S (p::(A++B)):=by
 subst e
 have hp:(A++p::B).Perm (p::(A++B)):=List.perm_middle
 exact h.sub (λx hx=>hp.mem_iff.mpr hx) ((hp.map (·.1)).nodup_iff.mp h.nd)
theorem Wd.back{g:Geo}{bud:Int}{σ:Sig}{S:Sto}{L:List (Nat×AObj)}{p:Nat×AObj}(h:Wd g bud σ S (p::L)):Wd g bud σ S (L++[p]):=by
 have hp:(L++[p]).Perm (p::L):=List.perm_append_comm (l₁:=L) (l₂:=[p])
 exact h.sub (λx hx=>hp.mem_iff.mp hx) ((hp.map (·.1)).nodup_iff.mpr h.nd)
theorem Wd.left{g:Geo}{bud:Int}{σ:Sig}{S:Sto}{A B:List (Nat×AObj)}(h:Wd g bud σ S (A++B)):Wd g bud σ S A:=
 h.sub (λx hx=>List.mem_append_left _ hx) (h.nd.sublist ((List.sublist_append_left A B).map _))
theorem o0r.none{fs:List Cel}{S:Sto}{tab:b0b}{bd:e0u}{E:Int→Tm}{first:List Cel}(h:o0r fs S tab bd E first []):o0r fs S tab bd E [] []:=by
 rcases h with⟨h1,h2⟩|⟨k,a,b,c,d,e⟩
 ·exact .inl ⟨h1,FInv.nil⟩
 ·exact .inr ⟨k,a,b,c,rfl,rfl⟩
theorem Sub.skip{x:PySem.Str}{v:AV}{l l':Loc}(h:Sub l l')(hx:l.lookup x=none):Sub l ((x,v)::l'):=λy w hy=>by
 rw[List.lookup_cons]
 by_cases e:y=x
 ·subst e;rw[hx]at hy;cases hy
 ·have:(y==x)=false:=by exact decide_eq_false ‹_›
  rw[this];exact h y w hy
theorem Tm.notGlob(t:Tm): ∀u,t.av≠ .glob u:=λu=>by cases t<;>exact AV.noConfusion
theorem Tm.notNone(t:Tm):t.av.isNone=false:=by cases t<;>rfl
theorem o0r.left{fs:List Cel}{S:Sto}{tab:b0b}{bd:e0u}{E:Int→Tm}{first:List Cel}{ts:List Tm}(h:o0r fs S tab bd E first ts)(hts:ts≠[]):BInv fs S tab bd E∧FInv fs S tab E first ts:=by
 rcases h with h|⟨_,_,_,_,_,h⟩
 ·exact h
 ·exact absurd h hts
section
variable {G:Gx} {m:Nat} {cenv:Env} {loc:Loc} {σ:Sig}
noncomputable def n1a(g:Geo)(ti fst bi:Nat):Loc:=[("names",.ref (g.y+1)),("trees",.ref ti),("heaped",.ref (g.n+1)),("first",.ref fst),("bindings",.ref bi)]
structure Quiet (S:Sto) (tab:b0b) (B:Nat):Prop where
 stack:S.stack.length≤1
 trail:S.trail=[]
 hb:S.hb=0
 heap:S.heap.length≤B
 tlen:tab.length≤B
theorem m1r(W:WOk G (hd.heap_1 G.w.params))(hm: ∃o,G.base.get? sysModules=some o){body:List Stmt}{scope:Scope}{L:Addr}{qq:PySem.Str}{fu:Option Addr}{co:Value}{g:Geo}{bud a1 a2 f1 f2 f3:Int}{pi ti fi ai:Nat}{early:Bool}{trees:List Tm}{S:Sto}{tab:b0b}{σ:Sig}(hl:g0b G body scope)
  (hw:Wd g bud σ S [(pi,.dictI (b0v tab)),(ti,.list (trees.map Tm.av)),(fi,d0d f1 f2 f3),(ai,c0i a1 a2)]) (ha:AOk g f1 f2 f3 trees S tab)
  (next: ∀(fst bi:Nat) (first:List Cel) (S:Sto) (tab:b0b) (bd:e0u) (E:Int→Tm) (σ:Sig),Wd g bud σ S [(fst,.list (first.map Cel.av)),(bi,.dictI (h0c bd)),(ti,.list (trees.map Tm.av))]→BInv g.fs S tab bd E→FInv g.fs S tab E first trees→Quiet S tab 1000→
   OkK G (m+59) (e0m scope L qq fu co) t0n [body.drop 14] (n1a g ti fst bi) σ):OkK G (m+59) (e0m scope L qq fu co) t0n [body.drop 10] (m1z g pi ti fi ai early) σ:=by
 have hla:g0b G _ _:=⟨_,_,_,_,_,_,_,_,_,_,_,_,_,by k_is⟩
 refine a0m (d0y hl hla) λe1 e2=>?_
 subst e1 e2
 clear hla
 simp only[List.drop_succ_cons,List.drop_zero]at next⊢
 refine b0l (o0l ha.fm trees ha.src) λw1 w2 w3=>?_
 have hlen:=ha.len
 have hcnt:=ha.cnt
 have hP0:=ha.put
 have hw0:=hw
 refine z0u (by rfl) ?_
 refine OkT.mono (Q:=λx τ=>∃N S tab E first,x=.ref N∧Wd g bud τ S [(N,.list (first.map Cel.av)),(pi,.dictI (b0v tab)),(ti,.list (trees.map Tm.av)),(fi,d0d f1 f2 f3),(ai,c0i a1 a2)]∧o0r g.fs S tab [] E first (if early then[]else trees)∧Quiet S tab 100) ?_ ?_
 ·walk_at"*"
  refine a0h (λhe=>?_) (λhe=>?_)
  ·have he:early=false:=by simpa using he
   subst he
   walk_at"*"
   refine p0a (P:=λi ys S o=>∃tab E first,o=.dictI (b0v tab)∧ys=first.map Cel.av∧o0r g.fs S tab [] E first (trees.take i)∧S.stack.length≤1∧S.trail=[]∧S.hb=0∧S.heap.length≤2*Tm.sizeL (trees.take i)+i∧tab.length≤1+Tm.sizeL (trees.take i)) hw (List.mem_cons_self ..) (by rw[List.length_map];exact LA [_] [] 7253556466929688996184264 rfl hlen) ⟨tab,_,[],rfl,rfl,ha.put,ha.stack,ha.trail,ha.hb,by rw[ha.heap];exact Nat.le_refl _,by have:=ha.tlen;omega⟩ ?_ ?_
   ·intro i y ys S2 o τ hy z0;refine u0y z0 λtab2 E2 first2 z2 z3 hP q1 q2 q3 q4 q5=>?_;clear z0;subst z2 z3;intro hw2 L'
    rw[List.getElem?_map]at hy
    refine a0a (Option.map_eq_some_iff.mp hy) λt ht z0=>?_;subst z0
    have hts:=b0a ht
    have hz:=g0w trees i
    have hz2:=d0a ht
    have hil:=(List.getElem?_eq_some_iff.mp ht).1
    refine x0c (i0u hP (o0p w1 ht) (by exact LA [_,_,_,_,_,_,_] [] 254629639697806013642572000700559154080491515672035395306779733455881853820264050234621960 rfl w3 hlen hcnt q4 hz hz2 hil) (by exact LA [_,_,_,_,_,_] [] 226156550943001561868313816420593302910553504172334291189348658325264662536 rfl w3 hlen hcnt q5 hz hz2)) λS3 tab3 c S4 tab4 E4 g1 g2 g3=>?_
    have hS:=hw2.st
    walk_at"*"
    refine y0w (m:=m+55) W hm hw2 g1 g2 (by exact LA [_,_,_,_,_] [] 257110153122424370020816181940044708897865944366136979591921672 rfl w3 hlen hcnt q5 hz) g3.hb λτ3 hw3=>?_
    refine⟨_,_,hw3,tab4,E4,first2++[c],rfl,by simp,?_,by rw[g3.stack];exact q1,by rw[g3.trail];exact q2,by rw[g3.hb];exact q3,?_,?_⟩
    ·rw[hts];exact .inl ⟨g3.binv,g3.finv⟩
    ·have:=g3.len;rw[hts,c0a];exact LA [_,_,_,_,_] [] 10096847560830116810744522681912680743969357832 rfl q4 this
    ·have:=g3.tlen;rw[hts,c0a];exact LA [_,_,_,_] [] 3767291547437160923466694664 rfl q5 this
   ·intro ys S2 o τ z0;refine u0y z0 λtab2 E2 first2 z2 z3 hP q1 q2 q3 q4 q5=>?_;clear z0;subst z2 z3;intro hw2
    rw[List.length_map,List.take_length]at hP q4 q5
    exact⟨_,S2,tab2,E2,first2,rfl,hw2.grow,by assumption,q1,q2,q3,by exact LA [_,_,_,_] [] 98079777597047778836449297329008338775913960999287652360 rfl w3 hlen hcnt q4,by exact LA [_,_,_,_] [] 95781032809583353523044772091001441999823765140537352 rfl w3 hlen hcnt q5⟩
  ·have he:early=true:=by simpa using he
   subst he
   have hw':=hw.grow (o:=.list [])
   walk_at"*"
   exact⟨_,S,tab,_,[],rfl,hw',ha.put,ha.stack,ha.trail,ha.hb,by rw[ha.heap];simp,by have:=ha.tlen;exact LA [_] [] 72057640209055752 rfl this⟩
 intro x σ1 z0;refine l1z z0 λN1 S1 tab1 E1 first1 z2 hw1 hP1 hq1=>?_;clear z0;subst z2
 refine f0w (by rfl) (by rfl) (f0m hw1 (.inl rfl) λN2 σ2 hw2=>?_)
 have hw3:Wd g bud σ2 S1 [(pi,.dictI (b0v tab1)),(N2,.dictI (h0c [])),(N1,.list (first1.map Cel.av)),(ti,.list (trees.map Tm.av)),(fi,d0d f1 f2 f3),(ai,c0i a1 a2)]:=hw2.front [_,_] rfl
 clear hw1 hw2 hw hw0 σ1
 walk_at"*"
 refine h0h ?_
 refine OkT.mono (Q:=λx τ=>∃order:List Int,∃C:Sig→Prop,∃ex,h0j G (m+59) τ x (order.map .int) C∧(∀τ':Sig,(∀p∈ex,τ'[p.1]?=some p.2)→C τ')∧(order=[0,1,2,3]∨order=[3,2,1,0])∧Wd g bud τ S1 ([(pi,.dictI (b0v tab1)),(N2,.dictI (h0c [])),(N1,.list (first1.map Cel.av)),(ti,.list (trees.map Tm.av)),(fi,d0d f1 f2 f3),(ai,c0i a1 a2)]++ex)) ?_ ?_
 ·walk_at"*"
  refine c0v (m:=m+58) W hw3.hand (by decide) (by decide) λd4 σ4 _ _ s4 hl4 hH4=>?_
  have hw4:=hw3.handS s4 hH4
  clear hw3 s4 hH4 hl4 σ2
  walk_at"*"
  refine a0h (λ_=>?_) (λ_=>?_)
  ·walk_at"*"
   refine e0s ?_
   exact⟨[0,1,2,3],_,[],f0u (k:=4) (by exact LA [] [] 6597071180096 rfl),λ_ _=>trivial,.inl rfl,by assumption⟩
  ·walk_at"*"
   have hw5:=(hw4.grow (o:=.list [AV.int 3,AV.int 2,AV.int 1,AV.int 0])).back
   exact⟨[3,2,1,0],_,[(σ4.length,.list [AV.int 3,AV.int 2,AV.int 1,AV.int 0])],i0n d0f,λτ h=>h _ (List.mem_cons_self ..),.inr rfl,hw5⟩
 intro x σ5 z0;refine d0l z0 λorder C ex hit hC hor hw5=>?_;clear z0
 have hon:order.Nodup∧(∀k∈order,0≤k∧k<4)∧order.length=4:=by
  rcases hor with rfl|rfl
  ·exact⟨by decide,by decide,rfl⟩
  ·exact⟨by decide,by decide,rfl⟩
 refine⟨_,C,hit,λi l τ=>l=(PySem.Str.ofString "bindings",AV.ref N2)::(PySem.Str.ofString "first",AV.ref N1)::m1z g pi ti fi ai early∧∃S tab bd E,Wd g bud τ S ([(pi,.dictI (b0v tab)),(N2,.dictI (h0c bd)),(N1,.list (first1.map Cel.av)),(ti,.list (trees.map Tm.av)),(fi,d0d f1 f2 f3),(ai,c0i a1 a2)]++ex)∧o0r g.fs S tab bd E first1 (if early then[]else trees)∧Quiet S tab (100+20*i)∧bd.length≤i∧∀k u,g0r bd k=some u→k∈order.take i,
  ⟨_,λ_ _ h=>h,rfl,S1,tab1,[],E1,hw5,hP1,hq1,by exact Nat.le_refl _,λk u h=>by trivial⟩,λi l τ _ ⟨_,S,tab,bd,E,hw,_⟩=>hC τ λp hp=>hw.ob p (List.mem_append_right _ hp),?_,?_⟩
 ·intro i y l τ hy z0;refine a0m z0 λz2 z1=>?_;clear z0;subst z2;refine u0z z1 λS6 tab6 bd6 E6 hw6 hP6 hq6 hz6 hk6=>?_;clear z1
  clear hw5 hit hP1 hq1 σ5
  rw[List.getElem?_map]at hy
  refine a0a (Option.map_eq_some_iff.mp hy) λn hn z0=>?_;subst z0
  have hn4:=hon.2.1 n (List.mem_of_getElem? hn)
  have hfree:g0r bd6 n=none:=by
   cases q:g0r bd6 n with
   |none=>rfl
   |some u=>
    exfalso
    have:=hk6 n u q
    obtain⟨j,hj,ej⟩:=List.mem_iff_getElem.mp this
    simp only[List.length_take]at hj
    rw[List.getElem_take]at ej
    obtain⟨h1,h2⟩:=List.getElem?_eq_some_iff.mp hn
    have:=(List.getElem_inj hon.1).mp (ej.trans h2.symm)
    exact LA [_,_,_] [] 11294260818640936 rfl hj this
  intro P hP
  refine e0q (by rfl) ?_
  walk_at"*"
  refine a1a (m:=m+56) W hw6.hand (hw6.at (o:=c0i a1 a2) (List.mem_append_left _ (by exact .tail _ (.tail _ (.tail _ (.tail _ (.tail _ (.head _)))))))) (hw6.out _ (List.mem_append_left ex (show(ai,c0i a1 a2)∈_ by exact .tail _ (.tail _ (.tail _ (.tail _ (.tail _ (.head _)))))))).hi (hw6.at (o:=d0d f1 f2 f3) (List.mem_append_left _ (by exact .tail _ (.tail _ (.tail _ (.tail _ (.head _))))))) (hw6.out _ (List.mem_append_left ex (show(fi,d0d f1 f2 f3)∈_ by exact .tail _ (.tail _ (.tail _ (.tail _ (.head _))))))).hi hn4.1 (Int.lt_trans hn4.2 (by decide)) λo τ7 hbd s7 hl7 hH7=>?_
  have hw7:=hw6.handS s7 hH7
  clear hw6 s7 hH7 hl7 τ
  have hnx:n∈order.take (i+1):=by rw[b0a hn];exact List.mem_append_right _ (.head _)
  have hsub: ∀k,k∈order.take i→k∈order.take (i+1):=λk hk=>by rw[b0a hn];exact List.mem_append_left _ hk
  have hqu:=hq6
  cases o with
  |none=>
   simp only[kAv]
   walk_at"*"
   refine i0b (λu=>by exact AV.noConfusion) ?_
   walk_at"*"
   refine⟨_,Sub.skip (Sub.skip (λ_ _ h=>h) rfl) rfl,rfl,S6,tab6,bd6,E6,hw7,hP6,⟨hq6.stack,hq6.trail,hq6.hb,by have:=hq6.heap;exact LA [_,_] [] 9587241327266874571465518065633602174984 rfl this,by have:=hq6.tlen;exact LA [_,_] [] 9587241327266874571465518065633602174984 rfl this⟩,by exact LA [_,_] [] 7743826067464 rfl hz6,λk u h=>hsub k (hk6 k u h)⟩
  |some u=>
   have hbu:=z0z ha.fm hbd
   simp only[kAv]
   walk_at"*"
   refine i0b (Tm.notGlob u) ?_
   rw[Tm.notNone]
   walk_at"*"
   have hi4:=(List.getElem?_eq_some_iff.mp hn).1
   have ho4:=hon.2.2
   walk_at"*"
   refine f0h (hw7.at (o:=.dictI (h0c bd6)) (List.mem_append_left _ (by exact .tail _ (.head _)))) (by simp[h0c];exact LA [_,_,_] [] 7605905227044111604058161479752 rfl hon.2.2 hz6 hi4) ?_
   rw[q0f hfree]
   have hw8:=((hw7.swap rfl).set (o':=.dictI (h0c (bd6++[(n,u)]))) rfl).swap rfl
   clear hw7
   generalize τ7.set N2 (.dictI (h0c (bd6++[(n,u)])))=τ8 at hw8⊢
   have h1:=hq6.heap
   have h2:=hq6.tlen
   have h3:=hbu.size
   refine x0c (i0u (t:=.v n) hP6 trivial (by simp only[e0g,e0d,e0e,e0f];exact LA [_,_,_] [] 187072314421312603762046755858366911299902427693128 rfl hon.2.2 hi4 h1) (by simp only[e0g,e0d,e0e,e0f];exact LA [_,_,_] [] 182687807051978293151928838684101451914697572424 rfl hon.2.2 hi4 h2)) λS8 tab8 c1 S9 tab9 E9 g1 g2 g3=>?_
   have h4:=g3.len
   have h5:=g3.tlen
   simp only[e0g,e0d,e0e,e0f]at h4 h5
   refine x0c (i0u (.inl ⟨g3.binv,g3.finv⟩) hbu.wf (by exact LA [_,_,_,_,_] [] 7237009626507820790230139364155958371831174418808656406012121831300382654536 rfl hon.2.2 hi4 h1 h3 h4) (by exact LA [_,_,_,_,_] [] 6739990437965523389031984172447643138468826692839680416255979094088 rfl hon.2.2 hi4 h2 h3 h5)) λS10 tab10 c2 S11 tab11 E11 g4 g5 g6=>?_
   have h6:=g6.len
   have h7:=g6.tlen
   refine b0l (g6.finv.unsnoc) λfa dc2 vu=>?_
   refine b0l (fa.unsnoc) λfb dc1 vn=>?_
   have hhb:S11.hb=0:=by rw[g6.hb,g3.hb,hq6.hb]
   have htr:S11.trail=[]:=by rw[g6.trail,g3.trail,hq6.trail]
   obtain⟨p,e,u1,E12,u2,u3,u4,u5,u6,u7⟩:=v0u g6.binv fb hn4.1 hn4.2 hfree (vn n rfl) hbu vu dc1 dc2 hhb
   have hS8:=hw8.st
   walk_at"*"
   refine y0w (m:=m+55) (t:=.v n) W hm hw8 g1 g2 (by exact LA [_,_,_] [] 223007509225253274807528106324064180579401800 rfl hon.2.2 hi4 h2) g3.hb λτ9 hw9=>?_
   clear hw8 hS8 τ7 τ8
   have hS9:=hw9.st
   walk_at"*"
   refine y0w (m:=m+55) (t:=u) W hm hw9 g4 g5 (by exact LA [_,_,_,_] [] 239452489766058521347332313102461312257509693147381832 rfl hon.2.2 hi4 h2 h5) g6.hb λτ11 hw11=>?_
   clear hw9 hS9 τ9
   walk_at"*"
   refine z0i (m:=m+53) W hw11 u1 (by rw[htr];exact Nat.le_add_left _ _) λτ12 hw12=>?_
   clear hw11 τ11
   walk_at"*"
   refine⟨_,Sub.skip (Sub.skip (λ_ _ h=>h) rfl) rfl,rfl,_,tab11,bd6++[(n,u)],E12,hw12,.inl ⟨u2,u3⟩,⟨by rw[u4,g6.stack,g3.stack];exact hq6.stack,by rw[u5,htr],u6,by rw[u7];exact LA [_,_,_,_,_] [] 417583253898830296460295372959506438338602484450357354577206337646818465164951560 rfl h1 h3 h4 h6,by exact LA [_,_,_,_,_] [] 379789756970085633347741887041739588956244615988179988430583108075528 rfl h2 h3 h5 h7⟩,by simp;omega,λk v h=>?_⟩
   rw[i0i]at h
   cases q:g0r bd6 k with
   |some v'=>exact hsub k (hk6 k v' q)
   |none=>
    rw[q]at h
    by_cases e':n=k
    ·subst e';exact hnx
    ·rw[if_neg e']at h;cases h
 ·intro l σ7 z0;refine a0m z0 λz2 z1=>?_;clear z0;subst z2;refine u0z z1 λS7 tab7 bd7 E7 hw7 hP7 hq7 _ _=>?_;clear z1
  have hne:trees≠[]:=by rintro rfl;trivial
  have hw8:=hw7.left
  have hz4:=hon.2.2
  rw[List.length_map,hz4]at hq7
  clear hw7 hw5 hit hP1 hq1 σ5
  walk_at"*"
  refine here ?_
  refine h1i (λl τ=>∃N S tab E first,Sub (n1a g ti N N2) l∧Wd g bud τ S [(N,.list (first.map Cel.av)),(pi,.dictI (b0v tab)),(N2,.dictI (h0c bd7)),(ti,.list (trees.map Tm.av))]∧BInv g.fs S tab bd7 E∧FInv g.fs S tab E first trees∧Quiet S tab 1000) ?_ ?_
  ·walk_at"*"
   cases early with
   |false=>
    walk_at"*"
    refine a0m (hP7.left (by assumption)) λi1 i2=>?_
    have hw9:Wd g bud σ7 S7 ([(N1,.list (first1.map Cel.av)),(pi,.dictI (b0v tab7)),(N2,.dictI (h0c bd7)),(ti,.list (trees.map Tm.av))]++[(fi,d0d f1 f2 f3),(ai,c0i a1 a2)]):=hw8.front [_,_] rfl
    exact n0l ⟨N1,S7,tab7,E7,first1,Sub.cons rfl (Sub.cons rfl (Sub.cons rfl (Sub.cons rfl (Sub.cons rfl (Sub.nil _))))),hw9.left,i1,by assumption,⟨hq7.stack,hq7.trail,hq7.hb,by have:=hq7.heap;exact LA [_] [] 121694509605880105549281629700104 rfl this,by have:=hq7.tlen;exact LA [_] [] 121694509605880105549281629700104 rfl this⟩⟩
   |true=>
    walk_at"*"
    have hq8:=hq7.heap
    have hq9:=hq7.tlen
    have hPn:=o0r.none (by assumption)
    walk_at"*"
    refine p0a (P:=λi ys S o=>∃tab E first,o=.dictI (b0v tab)∧ys=first.map Cel.av∧o0r g.fs S tab bd7 E first (trees.take i)∧S.stack.length≤1∧S.trail=[]∧S.hb=0∧S.heap.length≤180+2*Tm.sizeL (trees.take i)+i∧tab.length≤180+Tm.sizeL (trees.take i)) hw8 (si:=ti) (xs:=trees.map Tm.av) (by exact .tail _ (.tail _ (.head _))) (by rw[List.length_map];exact LA [_] [] 7253556466929688996184264 rfl hlen) ⟨tab7,_,[],rfl,rfl,hPn,hq7.stack,hq7.trail,hq7.hb,by omega,by omega⟩ ?_ ?_
    ·intro i y ys S2 o τ hy z0;refine u0y z0 λtab2 E2 first2 z2 z3 hP q1 q2 q3 q4 q5=>?_;clear z0;subst z2 z3;intro hw2 L'
     rw[List.getElem?_map]at hy
     refine a0a (Option.map_eq_some_iff.mp hy) λt ht z0=>?_;subst z0
     have hts:=b0a ht
     have hz:=g0w trees i
     have hz2:=d0a ht
     have hil:=(List.getElem?_eq_some_iff.mp ht).1
     refine x0c (i0u hP (o0p w1 ht) (by exact LA [_,_,_,_,_,_,_] [] 8749007800754721212375812610673525245513088091334891662901195108680225922786269399643522706252890120 rfl w3 hlen hcnt q4 hz hz2 hil) (by exact LA [_,_,_,_,_,_] [] 7588554609971481783604128907745281090875676947252819341667072615971121778931400712 rfl w3 hlen hcnt q5 hz hz2)) λS3 tab3 c S4 tab4 E4 g1 g2 g3=>?_
     have hS:=hw2.st
     walk_at"*"
     refine y0w (m:=m+55) W hm hw2 g1 g2 (by exact LA [_,_,_,_,_] [] 8627185149455976199006023869514167402185324461223262289197301356691464 rfl w3 hlen hcnt q5 hz) g3.hb λτ3 hw3=>?_
     refine⟨_,_,hw3,tab4,E4,first2++[c],rfl,by simp,?_,by rw[g3.stack];exact q1,by rw[g3.trail];exact q2,by rw[g3.hb];exact q3,?_,?_⟩
     ·rw[hts];exact .inl ⟨g3.binv,g3.finv⟩
     ·have:=g3.len;rw[hts,c0a];exact LA [_,_,_,_,_] [] 11920253625976537424813096727496354313284017448615834257825777188872 rfl q4 this
     ·have:=g3.tlen;rw[hts,c0a];exact LA [_,_,_,_] [] 4241321957343030876745587478980416146636808 rfl q5 this
    ·intro ys S2 o τ z0;refine u0y z0 λtab2 E2 first2 z2 z3 hP q1 q2 q3 q4 q5=>?_;clear z0;subst z2 z3;intro hw2
     rw[List.length_map,List.take_length]at hP q4 q5
     refine a0m (hP.left hne) λi1 i2=>?_
     have hw3:=hw2.grow (o:=.list (first2.map Cel.av))
     have hw4:Wd g bud (τ++[AObj.list (first2.map Cel.av)]) S2 ([(τ.length,.list (first2.map Cel.av)),(pi,.dictI (b0v tab2)),(N2,.dictI (h0c bd7)),(N1,.list (first1.map Cel.av)),(ti,.list (trees.map Tm.av)),(fi,d0d f1 f2 f3),(ai,c0i a1 a2)]):=hw3
     have hw5:Wd g bud (τ++[AObj.list (first2.map Cel.av)]) S2 ((N1,.list (first1.map Cel.av))::([(τ.length,.list (first2.map Cel.av)),(pi,.dictI (b0v tab2)),(N2,.dictI (h0c bd7)),(ti,.list (trees.map Tm.av))]++[(fi,d0d f1 f2 f3),(ai,c0i a1 a2)])):=hw4.front [_,_,_] rfl
     walk_at"*"
     exact n0l ⟨τ.length,S2,tab2,E2,first2,Sub.cons rfl (Sub.cons rfl (Sub.cons rfl (Sub.cons rfl (Sub.cons rfl (Sub.nil _))))),(hw5.tail rfl).left,i1,i2,⟨q1,q2,q3,by exact LA [_,_,_,_] [] 5054992164123104380968738549631426003287837781759771252676778917896 rfl w3 hlen hcnt q4,by exact LA [_,_,_,_] [] 4820816196557632567770237470936254985881169437969701720686600 rfl w3 hlen hcnt q5⟩⟩
  intro l τ z0;refine m1a z0 λN S9 tab9 E9 first9 hsub hw9 i1 i2 hq9=>?_;clear z0
  refine j0w hsub ?_
  have hw10:Wd g bud τ S9 [(N,.list (first9.map Cel.av)),(N2,.dictI (h0c bd7)),(ti,.list (trees.map Tm.av))]:=(hw9.swap rfl).tail rfl
  exact next N N2 first9 S9 tab9 bd7 E9 τ hw10 i1 i2 hq9
end
section
variable {G:Gx} {m:Nat} {cenv:Env} {loc:Loc} {σ:Sig}
noncomputable def n1b(g:Geo)(fst due bel seen told:Nat):Loc:=[("names",.ref (g.y+1)),("heaped",.ref (g.n+1)),("first",.ref fst),("due",.ref due),("below",.ref bel),("seen",.ref seen),("told",.ref told)]
structure Tl (g:Geo) (S:Sto) (first:List Cel) (due:List Tm) (φ:Int→Int):Prop where
 mid:Mid g.fs S first due φ
 stack:S.stack.length≤1
 trail:S.trail=[]
 hb:S.hb=S.heap.length
 heap:S.heap.length≤1000
 len:1≤due.length∧due.length≤3
theorem Mid.of_heap{fs:List Cel}{S S':Sto}{first:List Cel}{due:List Tm}{φ:Int→Int}(h:Mid fs S first due φ)(e:S'.heap=S.heap):Mid fs S' first due φ:=
 ⟨h.dec.ext λc t q=>q.ext λp x hx=>by rw[e];exact hx,h.inj,h.vars,h.size,h.dep,h.wf⟩
theorem m1s(W:WOk G (hd.heap_1 G.w.params))(hm: ∃o,G.base.get? sysModules=some o){body:List Stmt}{scope:Scope}{L:Addr}{qq:PySem.Str}{fu:Option Addr}{co:Value}{g:Geo}{bud f1 f2 f3:Int}{ti fst bi:Nat}{trees:List Tm}{first:List Cel}{S0 S:Sto}{tab0 tab:b0b}{bd:e0u}{E:Int→Tm}{σ:Sig}(hl:g0b G body scope)
  (hw:Wd g bud σ S [(fst,.list (first.map Cel.av)),(bi,.dictI (h0c bd)),(ti,.list (trees.map Tm.av))]) (ha:AOk g f1 f2 f3 trees S0 tab0) (hB:BInv g.fs S tab bd E) (hF:FInv g.fs S tab E first trees) (hq:Quiet S tab 1000)
  (next: ∀(di be se to:Nat) (due:List Tm) (φ:Int→Int) (S:Sto) (σ:Sig),Tl g S first due φ→Wd g bud σ S [(to,.list ((a0l due).map Tm.av)),(se,.dictI (a0u (num (a0g [] (Tm.renL φ due))))),(be,.list (S.heap.map Cel.av)),(di,.list (due.map Tm.av)),(fst,.list (first.map Cel.av))]→
   OkK G (m+59) (e0m scope L qq fu co) t0n [body.drop 20] (n1b g fst di be se to) σ):OkK G (m+59) (e0m scope L qq fu co) t0n [body.drop 14] (n1a g ti fst bi) σ:=by
 have hla:g0b G _ _:=⟨_,_,_,_,_,_,_,_,_,_,_,_,_,by k_is⟩
 refine a0m (d0y hl hla) λe1 e2=>?_
 subst e1 e2
 clear hla
 simp only[List.drop_succ_cons,List.drop_zero]at next⊢
 refine b0l (o0l ha.fm trees ha.src) λw1 w2 w3=>?_
 have hlen:=ha.len
 have hcnt:=ha.cnt
 have hdep:=ha.dep
 refine a0k (hB.mid hF w2 (by exact LA [_,_,_] [] 1289351452621150503395232918597782601736 rfl w3 hlen hcnt) (by exact LA [_] [] 4741647368200 rfl hdep) w1) λφ hM=>?_
 have hdl:(Tm.subL (b0x bd) trees).length=trees.length:=a0v _ _
 have hfull: ∀(i:Nat) (t:Tm),trees[i]?=some t→g0c bd 20 t=some (t.sub (b0x bd)):=λi t ht=>
  a1p hB.ok (λp hp=>w2 p (c0n ht hp)) (by have:=Tm.dep_mem (List.mem_of_getElem? ht);exact LA [_,_] [] 6126021427762364424 rfl hdep this) (by have:=d0a ht;exact LA [_,_,_,_] [] 140304217247691828461534660711894385435539412484104 rfl w3 hlen hcnt this)
 have hget: ∀(i:Nat) (t:Tm),trees[i]?=some t→(Tm.subL (b0x bd) trees)[i]?=some (t.sub (b0x bd)):=λi t ht=>by rw[d0r,List.getElem?_map,ht];rfl
 generalize Tm.subL (b0x bd) trees=due at hM hdl hget
 have hw1:Wd g bud σ S [(bi,.dictI (h0c bd)),(fst,.list (first.map Cel.av)),(ti,.list (trees.map Tm.av))]:=hw.swap rfl
 clear hw
 walk_at"*"
 refine j0z (λi=>.dictI (h0c bd)) (λi=>(due.take i).map Tm.av) hw1 (si:=ti) (xs:=trees.map Tm.av) (by exact .tail _ (.head _)) (by rw[List.length_map];exact LA [_] [] 7253556466929688996184264 rfl hlen) rfl ?_ ?_
 ·rintro i y τ hy hw2 L'
  rw[List.getElem?_map]at hy
  refine a0a (Option.map_eq_some_iff.mp hy) λt ht z0=>?_;subst z0
  walk_at"*"
  refine x0l (m:=m+39) W hm 20 t _ τ _ (hfull i t ht) (hw2.at (List.mem_cons_self ..)) ?_
  exact⟨hw2,by rw[b0a (hget i t ht)];simp⟩
 rintro τ hw2
 rw[List.length_map,←hdl,List.take_length]
 have hw3:Wd g bud (τ++[AObj.list (due.map Tm.av)]) S [(τ.length,.list (due.map Tm.av)),(bi,.dictI (h0c bd)),(fst,.list (first.map Cel.av)),(ti,.list (trees.map Tm.av))]:=hw2.grow
 clear hw1 hw2
 generalize τ++[AObj.list (due.map Tm.av)]=σ3 at hw3⊢
 generalize τ.length=di at hw3⊢
 have hS3:=hw3.st
 walk_at"*"
 refine c1s hw3 hS3.heap λbe σ4 hw4=>?_
 clear hw3 hS3 σ3 τ
 have hS4:=hw4.st
 walk_at"*"
 refine g0s (H:=S.heap) (hw4.at (List.mem_cons_self ..)) ?_
 walk_at"*"
 refine b0q W hS4.inst hS4.ns (by k_is) (by k_is) (by k_is) (by k_is) ?_ (Nat.le_of_ble_eq_true rfl)
 rw[u0c]
 have hw5:=hw4.hb (v:=S.heap.length)
 generalize σ4.set g.n (.ns (q0k g.n (g.y+1) S.heap.length))=σ5 at hw5⊢
 have hT:Tl g {S with hb:=S.heap.length} first due φ:=⟨hM.of_heap rfl,hq.stack,hq.trail,rfl,hq.heap,by exact LA [_,_] [] 4200332026895037422660491641032 rfl hlen hdl⟩
 have hheap:S.heap={S with hb:=(S.heap.length:Int)}.heap:=rfl
 rw[hheap]at hw5
 clear hw4 hS4 hq hM hB hF
 generalize {S with hb:=(S.heap.length:Int)}=S5 at hw5 hT
 walk_at"*"
 refine here ?_
 refine f0w (by rfl) (by rfl) (f0m hw5 (.inl rfl) λse σ6 hw6=>?_)
 clear hw5 σ4 σ5 hheap
 walk_at"*"
 have hX:Tm.sizeL (Tm.renL φ due)≤300:=by rw[c0o];exact hT.mid.size
 have hcan:a0l (Tm.renL φ due)=a0l due:=d0t hT.mid.inj λp hp=>hp
 have hfl:first.length=due.length:=by rw[hT.mid.dec.length];exact a0v _ _
 have hdl2:=hT.len
 walk_at"*"
 refine j0z (λi=>.dictI (a0u (num (a0g [] ((Tm.renL φ due).take i))))) (λi=>((a0l due).take i).map Tm.av) hw6 (si:=fst) (xs:=first.map Cel.av) (by exact .tail _ (.tail _ (.tail _ (.head _)))) (by rw[List.length_map];exact LA [_,_,_] [] 7975369680592156512729914044290662600 rfl hlen hdl hfl) rfl ?_ ?_
 ·rintro i y τ7 hy hw7 L'
  rw[List.getElem?_map]at hy
  refine a0a (Option.map_eq_some_iff.mp hy) λc hc z0=>?_;subst z0
  refine a0a (hT.mid.dec.get hc) λt ht hd=>?_
  have hS7:=hw7.st
  walk_at"*"
  refine q0o (m:=m+55) W hm hw7 hd ht (by exact LA [_] [] 2417862411841766046400520 rfl hX) λτ8 hw8=>?_
  refine⟨hw8,?_⟩
  have:=(f0k ht).2.2
  change (a0l (Tm.renL φ due))[i]?=_ at this
  rw[hcan]at this
  rw[b0a this];simp
 rintro σ8 hw8
 have htk:(a0l due).take (first.map Cel.av).length=a0l due:=List.take_of_length_le (by rw[c0m,List.length_map];exact LA [_,_] [] 33587272 rfl hfl)
 have hxk:(Tm.renL φ due).take (first.map Cel.av).length=Tm.renL φ due:=List.take_of_length_le (by rw[List.length_map,hfl];exact Nat.le_of_eq (a0v _ _))
 rw[htk]
 rw[hxk]at hw8
 have hw9:=hw8.grow (o:=.list ((a0l due).map Tm.av))
 clear hw6 hw8 htk hxk σ6
 generalize σ8++[AObj.list ((a0l due).map Tm.av)]=σ9 at hw9⊢
 generalize σ8.length=to at hw9⊢
 clear σ8
 have hS9:=hw9.st
 walk_at"*"
 have hfew:=hT.mid.few
 have hAl:(a0g [] (Tm.renL φ due)).length=(a0g [] due).length:=by
  have:=d0v hT.mid.inj due [] (λa h=>by simp at h) λp hp=>hp
  simp only[List.map_nil]at this
  rw[this,List.length_map]
 have hml:(a0u (num (a0g [] (Tm.renL φ due)))).length=(a0g [] due).length:=by simp[a0u,h0t,hAl]
 walk_at"*"
 refine l0x hm (hw9.at (o:=.dictI (a0u (num (a0g [] (Tm.renL φ due))))) (by exact .tail _ (.head _))) (by rw[hml];exact LA [_] [] 6917530505114353672 rfl hfew) ?_
 rw[hml]
 walk_at"*"
 refine q0a (m:=m+49) (d:=8) W hm (hw9.at (o:=.list (due.map Tm.av)) (by exact .tail _ (.tail _ (.tail _ (.head _))))) (hw9.at (o:=.list ((a0l due).map Tm.av)) (by exact .head _)) (c0m due).symm (by have:=hT.mid.size;exact LA [_] [] 6044630647313616715743240 rfl this) hT.mid.dep (r0w due) (by simp[gB];exact LA [_] [] 70746739376136 rfl hfew) (by exact LA [_] [] 5764609000507506696 rfl hfew) (λks hp hs=>g0x (by rw[u0s]at hp;exact hp) hs) ?_
 walk_at"*"
 refine e0r 1 (by exact LA [] [] 34360012000 rfl) hS9.heap (hw9.at (o:=.list (S5.heap.map Cel.av)) (by exact .tail _ (.tail _ (.head _)))) (g0z _) ?_
 walk_at"*"
 refine here ?_
 refine j0w (loc':=n1b g fst di be se to) (Sub.cons rfl (Sub.cons rfl (Sub.cons rfl (Sub.cons rfl (Sub.cons rfl (Sub.cons rfl (Sub.cons rfl (Sub.nil _)))))))) ?_
 have hw10:Wd g bud σ9 S5 ([(to,.list ((a0l due).map Tm.av)),(se,.dictI (a0u (num (a0g [] (Tm.renL φ due))))),(be,.list (S5.heap.map Cel.av)),(di,.list (due.map Tm.av))]++(bi,.dictI (h0c bd))::[(fst,.list (first.map Cel.av)),(ti,.list (trees.map Tm.av))]):=hw9
 have hw11:=(hw10.front _ rfl).tail rfl
 have hw12:Wd g bud σ9 S5 ([(to,.list ((a0l due).map Tm.av)),(se,.dictI (a0u (num (a0g [] (Tm.renL φ due))))),(be,.list (S5.heap.map Cel.av)),(di,.list (due.map Tm.av)),(fst,.list (first.map Cel.av))]++[(ti,.list (trees.map Tm.av))]):=hw11
 exact next di be se to due φ S5 σ9 hT hw12.left
end
noncomputable def st5(n sy:Nat)(S:Sto):List (Nat×AObj):=[(n,.ns (q0k n sy S.hb)),(n+1,.inst 374 n),(n+2,.list (S.heap.map Cel.av)),(n+3,.list (S.stack.map Cel.av)),(n+4,.list (S.trail.map .int))]
theorem Wd.other{g:Geo}{bud:Int}{σ σ':Sig}{S S':Sto}{L:List (Nat×AObj)}(h:Wd g bud σ S L)(s:Same [] σ σ')(hS:IsSt σ' σ.length (g.y+1) S'):Wd {g with n:=σ.length} bud σ' S' (st5 g.n (g.y+1) S++L):=by
 have h':=h.same s
 have lt: ∀p∈L,p.1<σ.length:=λp hp=>b0m (h.ob p hp)
 have l1:=b0m h.st.trail
 have l2:=b0m h.sy.keys
 have l3:=h.hand.lt
 have ge:=h.geo
 have e1:=ge.ap
 have e2:=ge.hn
 have e3:=ge.cn
 refine⟨⟨by simp only;omega,by simp only;exact LA [_,_,_] [] 5215117099559793877583048 rfl l3,ge.hy,by simp only;exact LA [_,_,_] [] 82586369557147860872463560 rfl l3,ge.cy,ge.hc⟩,h'.sy,hS,h'.hand,λp hp=>?_,?_,λp hp=>?_⟩
 ·rcases List.mem_append.mp hp with hp|hp
  ·simp only[st5,List.mem_cons,List.not_mem_nil,or_false]at hp
   rcases hp with rfl|rfl|rfl|rfl|rfl
   ·exact h'.st.ns
   ·exact h'.st.inst
   ·exact h'.st.heap
   ·exact h'.st.stack
   ·exact h'.st.trail
  ·exact h'.ob p hp
 ·rw[List.map_append]
  refine List.nodup_append.mpr ⟨?_,h.nd,λa ha b hb=>?_⟩
  ·simp[st5]
  ·refine a0a (List.mem_map.mp hb) λp hp z0=>?_;subst z0
   have:=(h.out p hp).n
   simp only[st5,List.map_cons,List.map_nil,List.mem_cons,List.not_mem_nil,or_false]at ha
   exact LA [_,_,_] [] 3490336992677808252653659765084556141340637267587015381136912155880 rfl this ha
 ·rcases List.mem_append.mp hp with hp|hp
  ·simp only[st5,List.mem_cons,List.not_mem_nil,or_false]at hp
   rcases hp with rfl|rfl|rfl|rfl|rfl<;>exact⟨by simp only;omega,by simp only;omega,by simp only;omega,by simp only;omega⟩
  ·have f:=h.out p hp
   exact⟨by have:=lt p hp;simp only;exact LA [_,_] [] 4973523234901229608 rfl this,f.y,f.hi,f.ci⟩
theorem Wd.back2{g:Geo}{n2:Nat}{bud:Int}{σ τ:Sig}{S S2:Sto}{L X:List (Nat×AObj)}(h0:Wd g bud σ S L)(h:Wd {g with n:=n2} bud τ S2 (X++(st5 g.n (g.y+1) S++L))):Wd g bud τ S L:=
 ⟨h0.geo,h.sy,⟨h.at (List.mem_append_right _ (by exact .head _)),h.at (List.mem_append_right _ (by exact .tail _ (.head _))),h.at (List.mem_append_right _ (by exact .tail _ (.tail _ (.head _)))),h.at (List.mem_append_right _ (by exact .tail _ (.tail _ (.tail _ (.head _))))),h.at (List.mem_append_right _ (by exact .tail _ (.tail _ (.tail _ (.tail _ (.head _))))))⟩,h.hand,λp hp=>h.ob p (List.mem_append_right _ (List.mem_append_right _ hp)),h0.nd,h0.out⟩
theorem BInv.ren{fs:List Cel}{S:Sto}{tab:b0b}{E:Int→Tm}{first:List Cel}{ts:List Tm}(I:BInv fs S tab [] E)(FI:FInv fs S tab E first ts): ∃φ,DecL S fs first (Tm.renL φ ts)∧Inj (λp=>a0z p ts) φ:=by
 have hfree: ∀q,a0z q ts→∃a,E q=.v a:=λq hq=>I.fre q (FI.vars q hq) rfl
 refine⟨λq=>match E q with| .v a=>a|_=>0,?_,λa b ha hb e=>?_⟩
 ·have e2:Tm.renL (λq=>match E q with| .v a=>a|_=>0) ts=Tm.subL E ts:=by
   refine c0b _ λq hq=>?_
   refine a0k (hfree q hq) λa ha=>?_
   simp only[ha]
  rw[e2];exact FI.dec
 ·refine a0k (hfree a ha) λx hx=>?_
  refine a0k (hfree b hb) λy hy=>?_
  simp only[hx,hy]at e
  exact I.inj a b (FI.vars a ha) (FI.vars b hb) rfl rfl (by rw[hx,hy,e])
section
variable {G:Gx} {m:Nat} {cenv:Env} {loc:Loc} {σ:Sig}
noncomputable def n1c(g:Geo)(fst due bel seen told:Nat):Loc:=[("heaped",.ref (g.n+1)),("first",.ref fst),("due",.ref due),("below",.ref bel),("seen",.ref seen),("told",.ref told)]
theorem m1t(W:WOk G (hd.heap_1 G.w.params))(hm: ∃o,G.base.get? sysModules=some o){body:List Stmt}{scope:Scope}{L:Addr}{qq:PySem.Str}{fu:Option Addr}{co:Value}{g:Geo}{bud:Int}{fst di be se to:Nat}{first:List Cel}{due:List Tm}{φ:Int→Int}{S:Sto}{σ:Sig}{ll:List (Nat×AObj)}(hl:g0b G body scope)
  (hT:Tl g S first due φ) (hw:Wd g bud σ S ((to,.list ((a0l due).map Tm.av))::ll))
  (next: ∀(σ:Sig),Wd g bud σ S ((to,.list ((a0l due).map Tm.av))::ll)→
   OkK G (m+59) (e0m scope L qq fu co) t0n [body.drop 25] (n1c g fst di be se to) σ):OkK G (m+59) (e0m scope L qq fu co) t0n [body.drop 20] (n1b g fst di be se to) σ:=by
 have hla:g0b G _ _:=⟨_,_,_,_,_,_,_,_,_,_,_,_,_,by k_is⟩
 refine a0m (d0y hl hla) λe1 e2=>?_
 subst e1 e2
 clear hla
 simp only[List.drop_succ_cons,List.drop_zero]at next⊢
 have hsz:=hT.mid.size
 have hdl:=hT.len
 have hcl:=c0m due
 have hcs:=j0g due
 have hwf:wfL g.fs (a0l due):=a1c hT.mid.wf
 have hne:a0l due≠[]:=by intro e;rw[e]at hcl;simp at hcl;exact LA [_] [] 369153591173227708616 rfl hdl hcl
 refine e1o [595] W ⟨?_⟩
 walk_at"*"
 refine u0f (m:=m+57) W (sy:=g.y+1) (by have:=b0m hw.sy.keys;exact LA [_,_] [] 43923326118146088 rfl this) λσ1 s1 hl1 hS1=>?_
 have hw1:=hw.other s1 hS1
 generalize σ.length=n2 at hw1⊢
 clear s1 hl1 hS1
 walk_at"*"
 refine here ?_
 refine f0w (by rfl) (by rfl) (f0m hw1 (.inl rfl) λag σ2 hw2=>?_)
 clear hw1 σ1
 walk_at"*"
 refine p0a (P:=λi ys S o=>∃tab E first,o=.dictI (b0v tab)∧ys=first.map Cel.av∧o0r g.fs S tab [] E first ((a0l due).take i)∧S.stack.length≤1∧S.trail=[]∧S.hb=0∧S.heap.length≤2*Tm.sizeL ((a0l due).take i)+i∧tab.length≤Tm.sizeL ((a0l due).take i)) hw2 (si:=to) (xs:=(a0l due).map Tm.av) (List.mem_append_right _ (List.mem_cons_self ..)) (by rw[List.length_map];exact LA [_,_] [] 7605905227044076702569525903560 rfl hdl hcl) ⟨[],λ_=>.v 0,[],rfl,rfl,o0r.start,by simp,rfl,rfl,by exact Nat.le_refl _,by simp⟩ ?_ ?_
 ·intro i y ys S3 o τ hy z0;refine u0y z0 λtab3 E3 first3 z2 z3 hP q1 q2 q3 q4 q5=>?_;clear z0;subst z2 z3;intro hw3 L'
  rw[List.getElem?_map]at hy
  refine a0a (Option.map_eq_some_iff.mp hy) λt ht z0=>?_;subst z0
  have hts:=b0a ht
  have hz:=g0w (a0l due) i
  have hz2:=d0a ht
  have hil:=(List.getElem?_eq_some_iff.mp ht).1
  refine x0c (i0u hP (o0p hwf ht) (by exact LA [_,_,_,_,_,_,_,_] [] 273406493837242465919013479866943712123341260103266160369900248456818279386146265594986082948448264 rfl hsz hdl hcl hcs q4 hz hz2 hil) (by exact LA [_,_,_,_,_] [] 6129985594927132297917147468674594804549245404150333448 rfl hsz hcs q5 hz hz2)) λS4 tab4 c S5 tab5 E5 g1 g2 g3=>?_
  have hS:=hw3.st
  walk_at"*"
  refine y0w (m:=m+55) W hm hw3 g1 g2 (by exact LA [_,_,_,_] [] 6968984663288474303009669945250806167339016 rfl hsz hcs q5 hz) g3.hb λτ3 hw4=>?_
  refine⟨_,_,hw4,tab5,E5,first3++[c],rfl,by simp,?_,by rw[g3.stack];exact q1,by rw[g3.trail];exact q2,by rw[g3.hb];exact q3,?_,?_⟩
  ·rw[hts];exact .inl ⟨g3.binv,g3.finv⟩
  ·have:=g3.len;rw[hts,c0a];exact LA [_,_,_,_,_] [] 10096847560830116810744522681912680743969357832 rfl q4 this
  ·have:=g3.tlen;rw[hts,c0a];exact LA [_,_,_,_] [] 3592575571916562137096 rfl q5 this
 intro ys S3 o τ z0;refine u0y z0 λtab3 E3 second z2 z3 hP q1 q2 q3 q4 q5=>?_;clear z0;subst z2 z3;intro hw3
 rw[List.length_map,List.take_length]at hP
 refine a0m (hP.left hne) λi1 i2=>?_
 refine a0a (i1.ren i2) λψ hdec hinj=>?_
 have hw4:=hw3.grow (o:=.list (second.map Cel.av))
 clear hw2 hw3 hP q1 q2 q3 q4 q5 i1 i2 σ2
 generalize τ++[AObj.list (second.map Cel.av)]=σ4 at hw4⊢
 generalize τ.length=sec at hw4⊢
 clear τ
 walk_at"*"
 refine here ?_
 refine f0w (by rfl) (by rfl) (f0m hw4 (.inl rfl) λag2 σ5 hw5=>?_)
 clear hw4 σ4
 walk_at"*"
 have hX:Tm.sizeL (Tm.renL ψ (a0l due))≤300:=by rw[c0o,hcs];exact hsz
 have hcan:a0l (Tm.renL ψ (a0l due))=a0l due:=by rw[d0t hinj λp hp=>hp,r0e]
 have hfl:second.length=due.length:=by rw[hdec.length,←hcl];exact a0v _ _
 walk_at"*"
 refine j0z (λi=>.dictI (a0u (num (a0g [] ((Tm.renL ψ (a0l due)).take i))))) (λi=>((a0l due).take i).map Tm.av) hw5 (si:=sec) (xs:=second.map Cel.av) (List.mem_cons_self ..) (by rw[List.length_map];exact LA [_,_] [] 7605905227044076702569525903560 rfl hdl hfl) rfl ?_ ?_
 ·rintro i y τ7 hy hw7 L'
  rw[List.getElem?_map]at hy
  refine a0a (Option.map_eq_some_iff.mp hy) λc hc z0=>?_;subst z0
  refine a0a (hdec.get hc) λt ht hd=>?_
  have hS7:=hw7.st
  walk_at"*"
  refine q0o (m:=m+55) W hm hw7 hd ht (by exact LA [_] [] 2417862411841766046400520 rfl hX) λτ8 hw8=>?_
  refine⟨hw8,?_⟩
  have:=(f0k ht).2.2
  change (a0l (Tm.renL ψ (a0l due)))[i]?=_ at this
  rw[hcan]at this
  rw[b0a this];simp
 rintro σ8 hw8
 have htk:(a0l due).take (second.map Cel.av).length=a0l due:=List.take_of_length_le (by rw[c0m,List.length_map];exact LA [_,_] [] 33587272 rfl hfl)
 rw[htk]
 have hw9:=hw8.grow (o:=.list ((a0l due).map Tm.av))
 clear hw5 hw8 htk σ5
 generalize σ8++[AObj.list ((a0l due).map Tm.av)]=σ9 at hw9⊢
 generalize σ8.length=t2 at hw9⊢
 clear σ8
 walk_at"*"
 refine e0r 17 (by exact LA [] [] 1099520394560 rfl) (hw9.at (List.mem_cons_self ..)) (hw9.at (List.mem_cons_of_mem _ (List.mem_cons_of_mem _ (List.mem_cons_of_mem _ (List.mem_cons_of_mem _ (List.mem_append_right _ (List.mem_cons_self ..))))))) (Tm.datL' (by rw[g0i];have:=hT.mid.dep;exact LA [_] [] 19967837540807147528 rfl this)) ?_
 walk_at"*"
 refine here ?_
 refine j0w (loc':=n1c g fst di be se to) (Sub.cons rfl (Sub.cons rfl (Sub.cons rfl (Sub.cons rfl (Sub.cons rfl (Sub.cons rfl (Sub.nil _))))))) ?_
 exact next σ9 (hw.back2 (X:=[_,_,_,_]) hw9)
end
noncomputable def tau(tab:b0b)(p:Int):Int:=((a0o tab p).getD (0,0)).2
structure CopyInv (fs:List Cel) (S S':Sto) (tab:b0b) (twins:List Cel) (X:List Tm):Prop where
 app: ∃Y,S'.heap=S.heap++Y
 stack:S'.stack=S.stack
 trail:S'.trail=S.trail
 hb:S'.hb=S.hb
 len:S'.heap.length≤S.heap.length+2*Tm.sizeL X+X.length
 tlen:tab.length≤Tm.sizeL X
 ent: ∀n x,a0o tab n=some x→∃p:Nat,S.heap.length≤p∧x=(0,(p:Int))∧S'.heap[p]?=some (0,(p:Int))
 inj: ∀n m x,a0o tab n=some x→a0o tab m=some x→n=m
 vars: ∀p,a0z p X→∃x,a0o tab p=some x
 dec:DecL S' fs twins (Tm.renL (tau tab) X)
theorem CopyInv.start{fs:List Cel}{S:Sto}:CopyInv fs S S [] [] []:=
 ⟨⟨[],by exact .symm (List.append_nil _)⟩,rfl,rfl,rfl,by simp,by exact Nat.le_refl _,λn x h=>by trivial,λn m x h=>by trivial,λp h=>h.elim,.nil⟩
theorem CopyInv.step{fs:List Cel}{S S' S'':Sto}{tab tab':b0b}{twins:List Cel}{X:List Tm}{t:Tm}{x:Cel}(I:CopyInv fs S S' tab twins X)(h:PutOk fs S' tab t x S'' tab'):CopyInv fs S S'' tab' (twins++[x]) (X++[t]):=by
 refine a0k (I.app) λY hY=>?_
 refine a0k (h.app) λZ hZ=>?_
 have hz:=l0f t
 have htab: ∀n x,a0o tab' n=some x→∃p:Nat,S.heap.length≤p∧x=(0,(p:Int))∧S''.heap[p]?=some (0,(p:Int)):=λn x hx=>by
  rcases h.new n x hx with q|⟨_,p,h1,rfl,h3⟩
  ·refine a0q (I.ent n x q) λp h1 z0 h3=>?_;subst z0
   exact⟨p,h1,rfl,by rw[hZ,List.getElem?_append_left (List.getElem?_eq_some_iff.mp h3).1];exact h3⟩
  ·exact⟨p,by rw[hY]at h1;simp at h1;exact LA [_,_,_] [] 2199091425288 rfl h1,rfl,h3⟩
 have htau: ∀n x,a0o tab n=some x→tau tab' n=tau tab n:=λn x hx=>by simp only[tau,hx,h.old n x hx]
 refine⟨⟨Y++Z,by rw[hZ,hY,List.append_assoc]⟩,h.stack.trans I.stack,h.trail.trans I.trail,h.hb.trans I.hb,?_,?_,htab,λn k y h1 h2=>?_,λp hp=>?_,?_⟩
 ·have:=h.len;have:=I.len
  rw[c0a];simp only[List.length_append,List.length_cons,List.length_nil];exact LA [_,_,_,_,_,_,_] [] 12422125146736499059322872304482839467793018716601099891508021084303368 rfl hz (by assumption) this
 ·have:=h.tlen;have:=I.tlen
  rw[c0a];exact LA [_,_,_,_] [] 2485698870593648459784 rfl (by assumption) this
 ·have low: ∀n y,a0o tab n=some y→y.2<S'.heap.length:=λn y hy=>by
   refine a0q (I.ent n y hy) λp _ z0 h3=>?_;subst z0
   have:=(List.getElem?_eq_some_iff.mp h3).1
   simp only;exact LA [_,_] [] 1718595125288 rfl this
  rcases h.new n y h1 with q1|⟨q1,p,p1,e1,_⟩<;>rcases h.new k y h2 with q2|⟨q2,p',p1',e2,_⟩
  ·exact I.inj n k y q1 q2
  ·have:=low n y q1;rw[e2]at this;simp only at this;exact LA [_,_] [_,_] 5914372055683334152 rfl p1' this
  ·have:=low k y q2;rw[e1]at this;simp only at this;exact LA [_,_] [_,_] 5914372055683334152 rfl p1 this
  ·exact h.apart n k y q1 q2 h1 h2
 ·refine a0a (c0f.mp hp) λu hu hp'=>?_
  rcases List.mem_append.mp hu with hu|hu
  ·refine a0k (I.vars p (c0f.mpr ⟨u,hu,hp'⟩)) λx hx=>?_
   exact⟨x,h.old p x hx⟩
  ·simp only[List.mem_singleton]at hu;rw[hu]at hp';exact h.vars p hp'
 ·have e1:Tm.renL (tau tab') (X++[t])=Tm.renL (tau tab) X++[t.ren (tau tab')]:=by
   rw[d0o,d0o,List.map_append,←d0o,←d0o,n0d X λp hp=>by refine a0k (I.vars p hp) λx hx=>?_;exact htau p x hx]
   simp[d0o]
  rw[e1]
  refine(I.dec.ext λc u q=>q.app hZ).snoc (h.dec (λk=>.v (tau tab' k)) λn y hy=>?_)
  refine a0q (htab n y hy) λp h1 z0 h3=>?_;subst z0
  simp only[tau,hy,Option.getD_some]
  exact .var (by exact LA [_] [] 18627 rfl) (by simpa using h3)
structure Tw (fs:List Cel) (S S':Sto) (twins:List Cel) (X:List Tm) (τ:Int→Int):Prop where
 app: ∃Y,S'.heap=S.heap++Y
 stack:S'.stack=S.stack
 trail:S'.trail=S.trail
 hb:S'.hb=S.hb
 len:S'.heap.length≤S.heap.length+2*Tm.sizeL X+X.length
 dec:DecL S' fs twins (Tm.renL τ X)
 inj:Inj (λp=>a0z p X) τ
 high: ∀p,a0z p X→(S.heap.length:Int)≤τ p∧S'.heap[(τ p).toNat]?=some (0,τ p)
theorem CopyInv.fin{fs:List Cel}{S S':Sto}{tab:b0b}{twins:List Cel}{X:List Tm}(I:CopyInv fs S S' tab twins X):Tw fs S S' twins X (tau tab):=by
 have key: ∀p,a0z p X→∃q:Nat,S.heap.length≤q∧a0o tab p=some (0,(q:Int))∧tau tab p=q∧S'.heap[q]?=some (0,(q:Int)):=λp hp=>by
  refine a0k (I.vars p hp) λx hx=>?_
  refine a0q (I.ent p x hx) λq h1 z0 h3=>?_;subst z0
  exact⟨q,h1,hx,by simp only[tau,hx,Option.getD_some],h3⟩
 refine⟨I.app,I.stack,I.trail,I.hb,I.len,I.dec,λa b ha hb e=>?_,λp hp=>?_⟩
 ·refine g0k (key a ha) λq1 _ e1 e2 _=>?_
  refine g0k (key b hb) λq2 _ e3 e4 _=>?_
  rw[e2,e4]at e
  rw[e]at e1
  exact I.inj a b _ e1 e3
 ·refine g0k (key p hp) λq h1 _ h3 h4=>?_
  rw[h3,Int.toNat_natCast]
  exact⟨by exact LA [_,_] [] 1718594076680 rfl h1,h4⟩
theorem Wd.subl{g:Geo}{bud:Int}{σ:Sig}{S:Sto}{L L':List (Nat×AObj)}(h:Wd g bud σ S L)(hs:L'.Sublist L):Wd g bud σ S L':=h.sub (λx hx=>hs.subset hx) (h.nd.sublist (hs.map _))
theorem t0u(L:List Int):(num L).map (·.2)=(List.range L.length).map λ(i:Nat)=>(i:Int):=by
 induction L using l0a with
 |h0=>rfl
 |h1 L q ih=>rw[k0w,List.map_append,ih,List.length_append,List.length_singleton,List.range_succ,List.map_append];rfl
theorem t0t(L:List Int):(num L).map (·.1)=L:=by
 induction L using l0a with
 |h0=>rfl
 |h1 L q ih=>rw[k0w,List.map_append,ih];rfl
theorem p0z(F:b0k):(a0u F).map (·.2)=(F.map (·.2)).map AV.int:=by simp[a0u]
theorem p0y(F:b0k):(a0u F).map (·.1)=F.map (·.1):=by exact List.map_map
theorem e0k{f:Int→Int}{ts:List Tm}(hf:Inj (λp=>a0z p ts) f):(a0g [] (Tm.renL f ts)).length=(a0g [] ts).length:=by
 have:=d0v hf ts [] (λa h=>by simp at h) λp hp=>hp
 simp only[List.map_nil]at this
 rw[this,List.length_map]
section
variable {G:Gx} {m:Nat} {cenv:Env} {loc:Loc} {σ:Sig}
noncomputable def g1i(g:Geo)(fst due bel seen told twi made:Nat):Loc:=[("heaped",.ref (g.n+1)),("first",.ref fst),("due",.ref due),("below",.ref bel),("seen",.ref seen),("told",.ref told),("twins",.ref twi),("made",.ref made)]
theorem m1u(W:WOk G (hd.heap_1 G.w.params))(hm: ∃o,G.base.get? sysModules=some o){body:List Stmt}{scope:Scope}{L:Addr}{qq:PySem.Str}{fu:Option Addr}{co:Value}{g:Geo}{bud:Int}{fst di be se to:Nat}{first:List Cel}{due:List Tm}{φ:Int→Int}{S:Sto}{σ:Sig}(hl:g0b G body scope)
  (hT:Tl g S first due φ) (hw:Wd g bud σ S [(to,.list ((a0l due).map Tm.av)),(se,.dictI (a0u (num (a0g [] (Tm.renL φ due))))),(be,.list (S.heap.map Cel.av)),(di,.list (due.map Tm.av)),(fst,.list (first.map Cel.av))])
  (next: ∀(tw mk:Nat) (twins:List Cel) (τ:Int→Int) (S':Sto) (σ:Sig),Tw g.fs S S' twins (Tm.renL φ due) τ→Wd g bud σ S' [(mk,.dictI (a0u (num (a0g [] (Tm.renL τ (Tm.renL φ due)))))),(tw,.list (twins.map Cel.av)),(to,.list ((a0l due).map Tm.av)),(se,.dictI (a0u (num (a0g [] (Tm.renL φ due))))),(di,.list (due.map Tm.av)),(fst,.list (first.map Cel.av))]→
   OkK G (m+59) (e0m scope L qq fu co) t0n [body.drop 31] (g1i g fst di be se to tw mk) σ):OkK G (m+59) (e0m scope L qq fu co) t0n [body.drop 25] (n1c g fst di be se to) σ:=by
 have hla:g0b G _ _:=⟨_,_,_,_,_,_,_,_,_,_,_,_,_,by k_is⟩
 refine a0m (d0y hl hla) λe1 e2=>?_
 subst e1 e2
 clear hla
 simp only[List.drop_succ_cons,List.drop_zero]at next⊢
 have hsz:=hT.mid.size
 have hdl:=hT.len
 have hcl:=c0m due
 have hX:Tm.sizeL (Tm.renL φ due)≤300:=by rw[c0o];exact hT.mid.size
 have hXl:(Tm.renL φ due).length=due.length:=a0v _ _
 have hfl:first.length=due.length:=by rw[hT.mid.dec.length];exact hXl
 have hhp:=hT.heap
 walk_at"*"
 refine here ?_
 refine f0w (by rfl) (by rfl) (f0m hw (.inl rfl) λfr σ1 hw1=>?_)
 clear hw
 walk_at"*"
 refine p0a (P:=λi ys S' o=>∃tab twins,o=.dictI (b0v tab)∧ys=twins.map Cel.av∧CopyInv g.fs S S' tab twins ((Tm.renL φ due).take i)) hw1 (si:=fst) (xs:=first.map Cel.av) (by exact .tail _ (.tail _ (.tail _ (.tail _ (.head _))))) (by rw[List.length_map];exact LA [_,_] [] 7605905227044076702569525903560 rfl hdl hfl) ⟨[],[],rfl,rfl,CopyInv.start⟩ ?_ ?_
 ·intro i y ys S2 o τ hy z0;refine b0j z0 λtab2 twins2 z2 z3 hI=>?_;clear z0;subst z2 z3;intro hw2 L'
  rw[List.getElem?_map]at hy
  refine a0a (Option.map_eq_some_iff.mp hy) λc hc z0=>?_;subst z0
  refine a0a (hT.mid.dec.get hc) λt ht hd=>?_
  refine a0k (hI.app) λY hY=>?_
  have hz:=g0w (Tm.renL φ due) i
  have hz2:=d0a ht
  have h1:=hI.len
  have h2:=hI.tlen
  rw[List.length_take]at h1
  refine h0o (a1e (fs:=g.fs) (S:=S2) (tab:=tab2) (hd.app hY) (by exact LA [_,_,_,_,_,_,_,_] [] 286687555899966442982311682618901568472542483077298918055466044128332902593828111361912487969459338969288 rfl hdl hX hXl hhp hz hz2 h1) (by exact LA [_,_,_,_] [] 5708995324899187050156976958047336881825611784 rfl hX hz hz2 h2)) λx S3 tab3 c1 c2=>?_
  have hS:=hw2.st
  walk_at"*"
  refine i1p (m:=m+55) W hm hw2 c1 c2.hb λτ3 hw3=>?_
  exact⟨_,_,hw3,tab3,twins2++[x],rfl,by simp,by rw[b0a ht];exact hI.step c2⟩
 intro ys S2 o τ z0;refine b0j z0 λtab2 twins z2 z3 hI=>?_;clear z0;subst z2 z3;intro hw2
 rw[List.length_map,hfl,←hXl,List.take_length]at hI
 have hTw:=hI.fin
 generalize tau tab2=ta at hTw
 have hw3:=hw2.grow (o:=.list (twins.map Cel.av))
 clear hw1 hw2 hI σ1
 generalize τ++[AObj.list (twins.map Cel.av)]=σ3 at hw3⊢
 generalize τ.length=tw at hw3⊢
 clear τ
 walk_at"*"
 refine here ?_
 refine f0w (by rfl) (by rfl) (f0m hw3 (.inl rfl) λmk σ4 hw4=>?_)
 clear hw3 σ3
 walk_at"*"
 have hcX:a0l (Tm.renL φ due)=a0l due:=d0t hT.mid.inj λp hp=>hp
 have hcY:a0l (Tm.renL ta (Tm.renL φ due))=a0l due:=by rw[d0t hTw.inj λp hp=>hp];exact hcX
 have hY:Tm.sizeL (Tm.renL ta (Tm.renL φ due))≤300:=by rw[c0o];exact hX
 have htl:twins.length=due.length:=by rw[hTw.dec.length,←hXl];exact a0v _ _
 walk_at"*"
 refine j0z (λi=>.dictI (a0u (num (a0g [] ((Tm.renL ta (Tm.renL φ due)).take i))))) (λi=>((a0l due).take i).map Tm.av) hw4 (si:=tw) (xs:=twins.map Cel.av) (List.mem_cons_self ..) (by rw[List.length_map];exact LA [_,_] [] 7605905227044076702569525903560 rfl hdl htl) rfl ?_ ?_
 ·rintro i y τ7 hy hw7 L'
  rw[List.getElem?_map]at hy
  refine a0a (Option.map_eq_some_iff.mp hy) λc hc z0=>?_;subst z0
  refine a0a (hTw.dec.get hc) λt ht hd=>?_
  have hS7:=hw7.st
  walk_at"*"
  refine q0o (m:=m+55) W hm hw7 hd ht (by exact LA [_] [] 2417862411841766046400520 rfl hY) λτ8 hw8=>?_
  refine⟨hw8,?_⟩
  have:=(f0k ht).2.2
  change (a0l (Tm.renL ta (Tm.renL φ due)))[i]?=_ at this
  rw[hcY]at this
  rw[b0a this];simp
 rintro σ8 hw8
 have htk:(a0l due).take (twins.map Cel.av).length=a0l due:=List.take_of_length_le (by rw[c0m,List.length_map];exact LA [_,_] [] 33587272 rfl htl)
 have hxk:(Tm.renL ta (Tm.renL φ due)).take (twins.map Cel.av).length=Tm.renL ta (Tm.renL φ due):=List.take_of_length_le (by rw[List.length_map,htl,←hXl];exact Nat.le_of_eq (a0v _ _))
 rw[htk]
 rw[hxk]at hw8
 have hw9:=hw8.grow (o:=.list ((a0l due).map Tm.av))
 clear hw4 hw8 htk hxk σ4
 generalize σ8++[AObj.list ((a0l due).map Tm.av)]=σ9 at hw9⊢
 generalize σ8.length=tt at hw9⊢
 clear σ8
 walk_at"*"
 refine e0r 17 (by exact LA [] [] 1099520394560 rfl) (hw9.at (List.mem_cons_self ..)) (hw9.at (o:=.list ((a0l due).map Tm.av)) (by exact .tail _ (.tail _ (.tail _ (.tail _ (.head _)))))) (Tm.datL' (by rw[g0i];have:=hT.mid.dep;exact LA [_] [] 19967837540807147528 rfl this)) ?_
 walk_at"*"
 have hN1:(a0g [] (Tm.renL φ due)).length=(a0g [] due).length:=e0k hT.mid.inj
 have hN2:(a0g [] (Tm.renL ta (Tm.renL φ due))).length=(a0g [] due).length:=(e0k hTw.inj).trans hN1
 have hfew:=hT.mid.few
 refine .mk _ (h0e (hw9.at (o:=.dictI (a0u (num (a0g [] (Tm.renL ta (Tm.renL φ due)))))) (by exact .tail _ (.head _))) F.slot_dict_values F.type_dict_values) (j0n) ?_
 walk_at"*"
 refine z0j hm (hw9.at (o:=.dictI (a0u (num (a0g [] (Tm.renL ta (Tm.renL φ due)))))) (by exact .tail _ (.head _))) ?_
 walk_at"*"
 refine m0e (hw9.at (o:=.dictI (a0u (num (a0g [] (Tm.renL ta (Tm.renL φ due)))))) (by exact .tail _ (.head _))) (p0z _) (by simp only[a0u,List.length_map,h0t];exact LA [_,_] [] 74183332989144957000 rfl hN2 hfew) λks hp hs=>?_
 rw[t0u,hN2]at hp
 obtain rfl:=g0x hp hs
 clear hp hs
 have hw10:=hw9.grow (o:=.list (((List.range (a0g [] due).length).map λ(i:Nat)=>(i:Int)).map AV.int))
 clear hw9
 generalize σ9++[AObj.list (((List.range (a0g [] due).length).map λ(i:Nat)=>(i:Int)).map AV.int)]=σ10 at hw10⊢
 generalize σ9.length=v1 at hw10⊢
 clear σ9
 walk_at"*"
 refine .mk _ (h0e (hw10.at (o:=.dictI (a0u (num (a0g [] (Tm.renL φ due))))) (by exact .tail _ (.tail _ (.tail _ (.tail _ (.tail _ (.tail _ (.head _)))))))) F.slot_dict_values F.type_dict_values) (j0n) ?_
 walk_at"*"
 refine z0j hm (hw10.at (o:=.dictI (a0u (num (a0g [] (Tm.renL φ due))))) (by exact .tail _ (.tail _ (.tail _ (.tail _ (.tail _ (.tail _ (.head _)))))))) ?_
 walk_at"*"
 refine m0e (hw10.at (o:=.dictI (a0u (num (a0g [] (Tm.renL φ due))))) (by exact .tail _ (.tail _ (.tail _ (.tail _ (.tail _ (.tail _ (.head _)))))))) (p0z _) (by simp only[a0u,List.length_map,h0t];exact LA [_,_] [] 74183332989144957000 rfl hN1 hfew) λks hp hs=>?_
 rw[t0u,hN1]at hp
 obtain rfl:=g0x hp hs
 clear hp hs
 have hw11:=hw10.grow (o:=.list (((List.range (a0g [] due).length).map λ(i:Nat)=>(i:Int)).map AV.int))
 clear hw10
 generalize σ10++[AObj.list (((List.range (a0g [] due).length).map λ(i:Nat)=>(i:Int)).map AV.int)]=σ11 at hw11⊢
 generalize σ10.length=v2 at hw11⊢
 clear σ10
 walk_at"*"
 refine e0r 1 (by exact LA [] [] 34360012000 rfl) (hw11.at (List.mem_cons_of_mem _ (List.mem_cons_self ..))) (hw11.at (List.mem_cons_self ..)) (e0z _) ?_
 walk_at"*"
 have hS11:=hw11.st
 walk_at"*"
 refine g0s (H:=S.heap) (hw11.at (by exact .tail _ (.tail _ (.tail _ (.tail _ (.tail _ (.tail _ (.tail _ (.tail _ (.head _)))))))))) ?_
 refine⟨_,_,S.heap.length,rfl,rfl,hS11.heap,?_⟩
 refine a0k (hTw.app) λY hYe=>?_
 have htake:(S2.heap.map Cel.av).take S.heap.length=S.heap.map Cel.av:=by rw[hYe,List.map_append,List.take_left' (by exact List.length_map ..)]
 rw[htake]
 have hw12:=hw11.grow (o:=.list (S.heap.map Cel.av))
 clear hw11 hS11
 generalize σ11++[AObj.list (S.heap.map Cel.av)]=σ12 at hw12⊢
 generalize σ11.length=n12 at hw12⊢
 clear σ11
 walk_at"*"
 refine e0r 1 (by exact LA [] [] 34360012000 rfl) (hw12.at (List.mem_cons_self ..)) (hw12.at (o:=.list (S.heap.map Cel.av)) (by exact .tail _ (.tail _ (.tail _ (.tail _ (.tail _ (.tail _ (.tail _ (.tail _ (.tail _ (.head _))))))))))) (g0z _) ?_
 refine⟨?_⟩
 refine⟨?_⟩
 have hmk:σ12[mk]?=some (.dictI (a0u (num (a0g [] (Tm.renL ta (Tm.renL φ due)))))):=hw12.at (by exact .tail _ (.tail _ (.tail _ (.tail _ (.head _)))))
 have hbe:σ12[be]?=some (.list (S.heap.map Cel.av)):=hw12.at (by exact .tail _ (.tail _ (.tail _ (.tail _ (.tail _ (.tail _ (.tail _ (.tail _ (.tail _ (.head _))))))))))
 have hne:mk≠be:=by
  intro e;rw[e,hbe]at hmk;cases hmk
 refine h1a hmk (λp hp=>by
  refine a0a (List.mem_map.mp hp) λq _ z0=>?_;subst z0
  exact⟨_,rfl⟩) λo ho=>?_
 walk_at"*"
 refine⟨_,_,y0a hm (a0d hmk) ho,by simp[a0u,h0t];exact LA [_,_] [] 7253556466930789589745736 rfl hN2 hfew,λi ys τ=>τ=σ12.set mk (.raw o)∧ys=[],⟨rfl,rfl⟩,λi ys τ _ ⟨e,_⟩=>by rw[e];exact a0d hmk,?_,?_⟩
 ·rintro i y ys τ hy ⟨rfl,rfl⟩ L'
  rw[List.getElem?_map]at hy
  refine a0a (Option.map_eq_some_iff.mp hy) λp hp z0=>?_;subst z0
  have hpk:p.1∈a0g [] (Tm.renL ta (Tm.renL φ due)):=by
   have:p.1∈(a0u (num (a0g [] (Tm.renL ta (Tm.renL φ due))))).map (·.1):=List.mem_map_of_mem (List.mem_of_getElem? hp)
   rw[p0y,t0t]at this;exact this
  have hhigh:(S.heap.length:Int)≤p.1:=by
   refine a0a ((i0k _).mp (d0e.mp hpk)) λq hq e=>?_
   rw[e];exact(hTw.high q hq).1
  refine z0f ?_
  walk_at"*"
  rw[decide_eq_false (show¬p.1<(S.heap.length:Int)by exact LA [_] [_] 19933249423464 rfl hhigh)]
  exact⟨rfl,rfl⟩
 rintro ys τ ⟨rfl,rfl⟩
 have hback:(σ12.set mk (.raw o)++[AObj.list []]).set mk (.dictI (a0u (num (a0g [] (Tm.renL ta (Tm.renL φ due))))))=σ12++[AObj.list []]:=by
  rw[List.set_append_left _ _ (by rw[List.length_set];exact b0m hmk),List.set_set]
  congr 1
  exact c0z hmk
 refine⟨a0j (a0d hmk),?_⟩
 rw[hback,List.length_set]
 have hw13:=hw12.grow (o:=.list [])
 clear hw12 hback hmk hbe
 generalize σ12++[AObj.list []]=σ13 at hw13⊢
 generalize σ12.length=n13 at hw13⊢
 clear σ12
 walk_at"*"
 have hw14:=hw13.grow (o:=.list [])
 clear hw13
 generalize σ13++[AObj.list []]=σ14 at hw14⊢
 generalize σ13.length=n14 at hw14⊢
 clear σ13
 refine e0r (l:=[]) 1 (by exact LA [] [] 34360012000 rfl) (hw14.at (List.mem_cons_of_mem _ (List.mem_cons_self ..))) (hw14.at (List.mem_cons_self ..)) trivial ?_
 walk_at"*"
 refine here ?_
 refine j0w (loc':=g1i g fst di be se to tw mk) (Sub.cons rfl (Sub.cons rfl (Sub.cons rfl (Sub.cons rfl (Sub.cons rfl (Sub.cons rfl (Sub.cons rfl (Sub.cons rfl (Sub.nil _))))))))) ?_
 exact next tw mk twins ta S2 σ14 hTw (hw14.subl (.cons _ (.cons _ (.cons _ (.cons _ (.cons _ (.cons _ (.cons₂ _ (.cons₂ _ (.cons _ (.cons₂ _ (.cons₂ _ (.cons _ (.cons₂ _ (.cons₂ _ .slnil)))))))))))))))
end
section
variable {G:Gx} {m:Nat} {cenv:Env} {loc:Loc} {σ:Sig}
theorem w0p{a b:Bool}(e:a=b){Q:AV→Sig→Prop}(h:Q (.bool false) σ):b0e G m .NotEq (.bool a) (.bool b) σ Q:=by
 subst e
 walk_at"*"
 exact w0q 1 (by decide) trivial 1 trivial (by unfold AV.eqb;rw[t0a 1 (.bool a) trivial];exact h)
theorem Wd.mid{g:Geo}{bud:Int}{σ:Sig}{S:Sto}{p:Nat×AObj}{A B:List (Nat×AObj)}(h:Wd g bud σ S (p::(A++B))):Wd g bud σ S (p::B):=by
 have hs:(p::B).Sublist (p::(A++B)):=(List.sublist_append_right A B).cons₂ p
 exact h.sub (λx hx=>hs.subset hx) (h.nd.sublist (hs.map _))
theorem m1v(W:WOk G (hd.heap_1 G.w.params))(hm: ∃o,G.base.get? sysModules=some o){body:List Stmt}{scope:Scope}{L:Addr}{qq:PySem.Str}{fu:Option Addr}{co:Value}{g:Geo}{bud:Int}{fst di be se to tw mk:Nat}{first twins:List Cel}{due:List Tm}{φ ta:Int→Int}{S S':Sto}{σ:Sig}(hl:g0b G body scope)
  (hT:Tl g S first due φ) (hTw:Tw g.fs S S' twins (Tm.renL φ due) ta) (hw:Wd g bud σ S' [(mk,.dictI (a0u (num (a0g [] (Tm.renL ta (Tm.renL φ due)))))),(tw,.list (twins.map Cel.av)),(to,.list ((a0l due).map Tm.av)),(se,.dictI (a0u (num (a0g [] (Tm.renL φ due))))),(di,.list (due.map Tm.av)),(fst,.list (first.map Cel.av))])
  (next: ∀(σ:Sig),Wd g bud σ S' [(mk,.dictI (a0u (num (a0g [] (Tm.renL ta (Tm.renL φ due)))))),(tw,.list (twins.map Cel.av)),(to,.list ((a0l due).map Tm.av)),(se,.dictI (a0u (num (a0g [] (Tm.renL φ due))))),(di,.list (due.map Tm.av)),(fst,.list (first.map Cel.av))]→
   OkK G (m+59) (e0m scope L qq fu co) t0n [body.drop 32] (g1i g fst di be se to tw mk) σ):OkK G (m+59) (e0m scope L qq fu co) t0n [body.drop 31] (g1i g fst di be se to tw mk) σ:=by
 have hla:g0b G _ _:=⟨_,_,_,_,_,_,_,_,_,_,_,_,_,by k_is⟩
 refine a0m (d0y hl hla) λe1 e2=>?_
 subst e1 e2
 clear hla
 simp only[List.drop_succ_cons,List.drop_zero]at next⊢
 have hsz:=hT.mid.size
 have hdl:=hT.len
 have hcl:=c0m due
 have hX:Tm.sizeL (Tm.renL φ due)≤300:=by rw[c0o];exact hT.mid.size
 have hXl:(Tm.renL φ due).length=due.length:=a0v _ _
 have hfl:first.length=due.length:=by rw[hT.mid.dec.length];exact hXl
 have htl:twins.length=due.length:=by rw[hTw.dec.length,←hXl];exact a0v _ _
 have hcX:a0l (Tm.renL φ due)=a0l due:=d0t hT.mid.inj λp hp=>hp
 have hhp:=hT.heap
 have hlen:=hTw.len
 refine a0k (hTw.app) λY hY=>?_
 walk_at"*"
 refine h0h ?_
 walk_at"*"
 refine g0s (H:=first) (hw.at (by exact .tail _ (.tail _ (.tail _ (.tail _ (.tail _ (.head _))))))) ?_
 walk_at"*"
 refine e0s ?_
 refine⟨_,_,f0u (k:=first.length) (by exact LA [_,_] [] 7605905227044076702569525903560 rfl hdl hfl),λi l τ=>l=g1i g fst di be se to tw mk∧Wd g bud τ S' [(mk,.dictI (a0u (num (a0g [] (Tm.renL ta (Tm.renL φ due)))))),(tw,.list (twins.map Cel.av)),(to,.list ((a0l due).map Tm.av)),(se,.dictI (a0u (num (a0g [] (Tm.renL φ due))))),(di,.list (due.map Tm.av)),(fst,.list (first.map Cel.av))],⟨_,λ_ _ h=>h,rfl,hw⟩,λ_ _ _ _ _=>trivial,?_,?_⟩
 ·rintro i y l τ hy ⟨rfl,hw1⟩
  refine a0m (c0k hy) λhi z0=>?_;subst z0
  intro P hP
  refine e0q (by rfl) ?_
  have hi':i<due.length:=by exact LA [_,_,_] [] 1197370352107592 rfl hfl hi
  obtain⟨t,ht⟩: ∃t,due[i]?=some t:=⟨due[i],List.getElem?_eq_getElem hi'⟩
  obtain⟨t0,ht0⟩: ∃t,due[0]?=some t:=⟨due[0],List.getElem?_eq_getElem (by exact LA [_] [] 6794225945641160 rfl hdl)⟩
  obtain⟨c,hc⟩: ∃c,first[i]?=some c:=⟨first[i],List.getElem?_eq_getElem (by omega)⟩
  obtain⟨c0,hc0⟩: ∃c,first[0]?=some c:=⟨first[0],List.getElem?_eq_getElem (by exact LA [_,_] [] 44899413641122990489800 rfl hdl hfl)⟩
  obtain⟨d,hd⟩: ∃c,twins[i]?=some c:=⟨twins[i],List.getElem?_eq_getElem (by exact LA [_,_,_,_] [] 2473020049098455154760 rfl hfl htl hi)⟩
  have hXi:(Tm.renL φ due)[i]?=some (t.ren φ):=by rw[d0o,List.getElem?_map,ht];rfl
  have hX0:(Tm.renL φ due)[0]?=some (t0.ren φ):=by rw[d0o,List.getElem?_map,ht0];rfl
  have hYi:(Tm.renL ta (Tm.renL φ due))[i]?=some ((t.ren φ).ren ta):=by rw[d0o ta,List.getElem?_map,hXi];rfl
  have dc:Dec S' g.fs c (t.ren φ):=by
   refine a0a (hT.mid.dec.get hc) λu hu h=>?_
   rw[hXi]at hu;cases hu;exact h.app hY
  have dc0:Dec S' g.fs c0 (t0.ren φ):=by
   refine a0a (hT.mid.dec.get hc0) λu hu h=>?_
   rw[hX0]at hu;cases hu;exact h.app hY
  have dd:Dec S' g.fs d ((t.ren φ).ren ta):=by
   refine a0a (hTw.dec.get hd) λu hu h=>?_
   rw[hYi]at hu;cases hu;exact h
  have hz:=d0a ht
  have hz0:=d0a ht0
  have hdp:=Tm.dep_mem (List.mem_of_getElem? ht)
  have hdp0:=Tm.dep_mem (List.mem_of_getElem? ht0)
  have hmd:=hT.mid.dep
  walk_at"*"
  refine a0s (H:=first) (hw1.at (by exact .tail _ (.tail _ (.tail _ (.tail _ (.tail _ (.head _))))))) (by exact LA [_] [] 18627 rfl) (by simpa using hc) ?_
  walk_at"*"
  refine a0s (H:=twins) (hw1.at (by exact .tail _ (.head _))) (by exact LA [_] [] 18627 rfl) (by simpa using hd) ?_
  walk_at"*"
  refine q0s (m:=m+55) W hm hw1 dc dd (by rw[d0q];exact LA [_,_] [] 2535312497537713760373191311368 rfl hsz hz) (by exact LA [_,_,_,_,_] [] 9046259297382081549425845480099774812906386094704644066675992805792654000328 rfl hdl hX hXl hhp hlen) ?_
  rw[(l0z _ _).mpr (Vrt.of_ren (hTw.inj.sub λp hp=>c0n hXi hp))]
  walk_at"*"
  refine a0s (H:=twins) (hw1.at (by exact .tail _ (.head _))) (by exact LA [_] [] 18627 rfl) (by simpa using hd) ?_
  walk_at"*"
  refine a1t (m:=m+55) W hw1 dd (by rw[d0q,d0q];exact LA [_,_] [] 2535312497537713760373191311368 rfl hsz hz) ?_
  rw[x0v,x0v,e1p]
  walk_at"*"
  have subdue: ∀(k:Nat) (u:Tm),due[k]?=some u→(due.map Tm.av)[((k:Nat):Int).toNat]?=some u.av:=λk u hu=>by rw[Int.toNat_natCast,List.getElem?_map,hu];rfl
  walk_at"*"
  refine b0r (hw1.at (o:=.list (due.map Tm.av)) (by exact .tail _ (.tail _ (.tail _ (.tail _ (.head _)))))) (by exact LA [_] [] 18627 rfl) (subdue i t ht) ?_
  walk_at"*"
  have hw2:=hw1.grow (o:=.list [])
  generalize τ++[AObj.list []]=τ2 at hw2⊢
  generalize τ.length=n2 at hw2⊢
  clear hw1
  walk_at"*"
  refine c1p (m:=m+50) (d:=8) W hw2 (by exact LA [_,_] [] 9583669147816984584 rfl hdp hmd) (by exact LA [_,_] [] 2535312497537713760373191311368 rfl hsz hz) λτ3 hw3=>?_
  clear hw2 τ2
  walk_at"*"
  have hw4:=hw3.grow (o:=.list [])
  clear hw3
  generalize τ3++[AObj.list []]=τ4 at hw4⊢
  generalize τ3.length=n3 at hw4⊢
  clear τ3
  walk_at"*"
  refine r0f 1 (by exact LA [] [] 34360012000 rfl) 1 (hw4.at (List.mem_cons_of_mem _ (List.mem_cons_self ..))) (hw4.at (List.mem_cons_self ..)) (e0z _) (show AV.datL 1 []from trivial) ?_
  rw[show AV.eqbL ((a0r [] t).map AV.int) []=decide (a0r [] t=[])from l0i _ []]
  walk_at"*"
  refine w0p rfl ?_
  walk_at"*"
  refine a0s (H:=first) (hw4.at (by exact .tail _ (.tail _ (.tail _ (.tail _ (.tail _ (.tail _ (.tail _ (.head _))))))))) (by exact LA [_] [] 18627 rfl) (by simpa using hc) ?_
  walk_at"*"
  refine s0g (m:=m+55) W hw4 dc (by rw[d0q];exact LA [_,_] [] 2535312497537713760373191311368 rfl hsz hz) λvn τ5 hw5=>?_
  clear hw4 τ4
  walk_at"*"
  have hw6:=hw5.front [_,_,_] rfl
  have hinjX:Inj (λp=>a0z p (Tm.renL φ due)) (idx (a0g [] (Tm.renL φ due))):=k0u _
  walk_at"*"
  refine j0z (λj=>.dictI (a0u (num (a0g [] (Tm.renL ta (Tm.renL φ due)))))) (λj=>(((a0r [] (t.ren φ)).take j).map (idx (a0g [] (Tm.renL φ due)))).map AV.int) hw6 (si:=vn) (xs:=vars (a0r [] (t.ren φ))) (by exact .head _) (by have:=i0g [] (t.ren φ);rw[d0q]at this;simp[vars]at this⊢;exact LA [_,_,_] [] 7975369680592154151544419366548635656 rfl hsz hz this) rfl ?_ ?_
  ·rintro j y τ7 hy hw7 L'
   simp only[vars,List.getElem?_map]at hy
   refine a0a (Option.map_eq_some_iff.mp hy) λp hp z0=>?_;subst z0
   have hpm:p∈a0g [] (Tm.renL φ due):=d0e.mpr (c0n hXi (l0k.mp (List.mem_of_getElem? hp)))
   walk_at"*"
   refine d0h (x:=.int (idx (a0g [] (Tm.renL φ due)) p)) (hw7.at (o:=.dictI (a0u (num (a0g [] (Tm.renL φ due))))) (by exact .tail _ (.tail _ (.tail _ (.tail _ (.tail _ (.tail _ (.head _)))))))) (by rw[d0w,k0s,if_pos hpm];rfl) ?_
   exact⟨hw7,by rw[b0a hp];simp⟩
  rintro τ8 hw8
  have htk:(a0r [] (t.ren φ)).take (vars (a0r [] (t.ren φ))).length=a0r [] (t.ren φ):=List.take_of_length_le (by simp[vars])
  rw[htk]
  have hw9:=hw8.grow (o:=.list (((a0r [] (t.ren φ)).map (idx (a0g [] (Tm.renL φ due)))).map AV.int))
  clear hw5 hw6 hw8 htk τ5
  generalize τ8++[AObj.list (((a0r [] (t.ren φ)).map (idx (a0g [] (Tm.renL φ due)))).map AV.int)]=τ9 at hw9⊢
  generalize τ8.length=n9 at hw9⊢
  clear τ8
  have htold:(a0l due)[i]?=some ((t.ren φ).ren (idx (a0g [] (Tm.renL φ due)))):=by
   have:=(f0k hXi).2.2
   change (a0l (Tm.renL φ due))[i]?=_ at this
   rw[hcX]at this;exact this
  have hfree:a0r [] ((t.ren φ).ren (idx (a0g [] (Tm.renL φ due))))=(a0r [] (t.ren φ)).map (idx (a0g [] (Tm.renL φ due))):=x0i hinjX λp hp=>c0n hXi hp
  walk_at"*"
  refine b0r (hw9.at (o:=.list ((a0l due).map Tm.av)) (by exact .tail _ (.tail _ (.tail _ (.tail _ (.tail _ (.tail _ (.head _)))))))) (by exact LA [_] [] 18627 rfl) (x:=((t.ren φ).ren (idx (a0g [] (Tm.renL φ due)))).av) (by rw[Int.toNat_natCast,List.getElem?_map,htold];rfl) ?_
  walk_at"*"
  have hw10:=hw9.grow (o:=.list [])
  clear hw9
  generalize τ9++[AObj.list []]=τ10 at hw10⊢
  generalize τ9.length=n10 at hw10⊢
  clear τ9
  walk_at"*"
  refine c1p (m:=m+50) (d:=8) W hw10 (by rw[r0j,r0j];exact LA [_,_] [] 9583669147816984584 rfl hdp hmd) (by rw[d0q,d0q];exact LA [_,_] [] 2535312497537713760373191311368 rfl hsz hz) λτ11 hw11=>?_
  clear hw10 τ10
  rw[hfree]at hw11
  walk_at"*"
  refine e0r 1 (by exact LA [] [] 34360012000 rfl) (hw11.at (List.mem_cons_of_mem _ (List.mem_cons_self ..))) (hw11.at (List.mem_cons_self ..)) (e0z _) ?_
  walk_at"*"
  refine a0s (H:=first) (hw11.at (by exact .tail _ (.tail _ (.tail _ (.tail _ (.tail _ (.tail _ (.tail _ (.tail _ (.tail _ (.tail _ (.head _)))))))))))) (by exact LA [] [] 6339 rfl) (by simpa using hc0) ?_
  walk_at"*"
  refine a0s (H:=twins) (hw11.at (by exact .tail _ (.tail _ (.tail _ (.tail _ (.tail _ (.tail _ (.head _)))))))) (by exact LA [_] [] 18627 rfl) (by simpa using hd) ?_
  walk_at"*"
  refine q0s (m:=m+55) W hm hw11 dc0 dd (by rw[d0q];exact LA [_,_] [] 2535312497537713760373191311368 rfl hsz hz0) (by exact LA [_,_,_,_,_] [] 9046259297382081549425845480099774812906386094704644066675992805792654000328 rfl hdl hX hXl hhp hlen) ?_
  have hsame:(a0n [] [] (t0.ren φ) ((t.ren φ).ren ta)).1=(a0n [] [] t0 t).1:=by
   rw[s0d]
   refine v0k (hT.mid.inj.sub λp hp=>c0n ht0 hp) λa b ha hb e=>?_
   have ha':=c0n ht ha
   have hb':=c0n ht hb
   exact hT.mid.inj a b ha' hb' (hTw.inj _ _ ((i0k due).mpr ⟨a,ha',rfl⟩) ((i0k due).mpr ⟨b,hb',rfl⟩) e)
  rw[hsame]
  walk_at"*"
  refine b0r (hw11.at (o:=.list (due.map Tm.av)) (by exact .tail _ (.tail _ (.tail _ (.tail _ (.tail _ (.tail _ (.tail _ (.tail _ (.tail _ (.head _))))))))))) (by exact LA [] [] 6339 rfl) (subdue 0 t0 ht0) ?_
  walk_at"*"
  refine b0r (hw11.at (o:=.list (due.map Tm.av)) (by exact .tail _ (.tail _ (.tail _ (.tail _ (.tail _ (.tail _ (.tail _ (.tail _ (.tail _ (.head _))))))))))) (by exact LA [_] [] 18627 rfl) (subdue i t ht) ?_
  walk_at"*"
  have hw12:=(hw11.grow (o:=.dictI (a0u []))).grow (o:=.dictI (a0u []))
  clear hw11
  walk_at"*"
  refine b1e (m:=m+50) (d:=8) W hm hw12 (by exact LA [_,_] [] 9583669147816984584 rfl hdp0 hmd) (by exact LA [_,_] [] 2535312497537713760373191311368 rfl hsz hz0) λτ12 hw13=>?_
  clear hw12 τ11
  walk_at"*"
  refine w0p rfl ?_
  walk_at"*"
  exact⟨_,Sub.skip (Sub.skip (λ_ _ h=>h) rfl) rfl,rfl,((hw13.tail rfl).tail rfl).mid (A:=[_,_,_])⟩
 ·rintro l τ ⟨rfl,hw1⟩
  exact h1k (next τ hw1)
end
section
variable {G:Gx} {m:Nat} {cenv:Env} {loc:Loc} {σ:Sig}
noncomputable def k1s(g:Geo)(fst told twi made bf:Nat):Loc:=[("heaped",.ref (g.n+1)),("first",.ref fst),("told",.ref told),("twins",.ref twi),("made",.ref made),("before",.ref bf),("mark",.int 0)]
noncomputable def n1d(g:Geo)(bf:Nat):Loc:=[("heaped",.ref (g.n+1)),("before",.ref bf),("mark",.int 0)]
theorem m1w(W:WOk G (hd.heap_1 G.w.params))(hm: ∃o,G.base.get? sysModules=some o){body:List Stmt}{scope:Scope}{L:Addr}{qq:PySem.Str}{fu:Option Addr}{co:Value}{g:Geo}{bud:Int}{fst di be se to tw mk:Nat}{first twins:List Cel}{due:List Tm}{φ ta:Int→Int}{S S':Sto}{σ:Sig}(hl:g0b G body scope)
  (hT:Tl g S first due φ) (hTw:Tw g.fs S S' twins (Tm.renL φ due) ta) (hw:Wd g bud σ S' [(mk,.dictI (a0u (num (a0g [] (Tm.renL ta (Tm.renL φ due)))))),(tw,.list (twins.map Cel.av)),(to,.list ((a0l due).map Tm.av)),(se,.dictI (a0u (num (a0g [] (Tm.renL φ due))))),(di,.list (due.map Tm.av)),(fst,.list (first.map Cel.av))])
  (next: ∀(bf:Nat) (ks:List Int) (val:Int→Int) (S1 S3:Sto) (σ:Sig),Wd g bud σ S3 [(bf,.list (S1.heap.map Cel.av))]→Bnd S1 S3 ks val→(∀a∈ks,0≤a∧S1.heap[a.toNat]?=some (0,a))→S1.trail=[]→S1.stack.length≤1→S1.heap.length≤5000→
   OkK G (m+59) (e0m scope L qq fu co) t0n [body.drop 41] (n1d g bf) σ):OkK G (m+59) (e0m scope L qq fu co) t0n [body.drop 32] (g1i g fst di be se to tw mk) σ:=by
 have hla:g0b G _ _:=⟨_,_,_,_,_,_,_,_,_,_,_,_,_,by k_is⟩
 refine a0m (d0y hl hla) λe1 e2=>?_
 subst e1 e2
 clear hla
 simp only[List.drop_succ_cons,List.drop_zero]at next⊢
 have hsz:=hT.mid.size
 have hdl:=hT.len
 have hcl:=c0m due
 have hcX:a0l (Tm.renL φ due)=a0l due:=d0t hT.mid.inj λp hp=>hp
 have hX:Tm.sizeL (Tm.renL φ due)≤300:=by rw[c0o];exact hT.mid.size
 have hXl:(Tm.renL φ due).length=due.length:=a0v _ _
 have hfl:first.length=due.length:=by rw[hT.mid.dec.length];exact hXl
 have htl:twins.length=due.length:=by rw[hTw.dec.length,←hXl];exact a0v _ _
 have hhp:=hT.heap
 have hlen:=hTw.len
 refine a0k (hTw.app) λY hY=>?_
 have hS:=hw.st
 refine e1o [624] W ⟨?_⟩
 walk_at"*"
 refine c1s hw hS.heap λbf σ1 hw1=>?_
 clear hw hS σ
 have hS1:=hw1.st
 walk_at"*"
 refine g0s (H:=S'.heap) (hw1.at (List.mem_cons_self ..)) ?_
 walk_at"*"
 refine b0q W hS1.inst hS1.ns (by k_is) (by k_is) (by k_is) (by k_is) ?_ (Nat.le_of_ble_eq_true rfl)
 rw[u0c]
 have hw2:=hw1.hb (v:=S'.heap.length)
 generalize σ1.set g.n (.ns (q0k g.n (g.y+1) S'.heap.length))=σ2 at hw2⊢
 obtain⟨S1,hS1e⟩: ∃S1:Sto,S1={S' with hb:=(S'.heap.length:Int)}:=⟨_,rfl⟩
 rw[←hS1e]at hw2
 have hh1:S1.heap=S'.heap:=by rw[hS1e]
 have hh2:S1.trail=S'.trail:=by rw[hS1e]
 have hh3:S1.stack=S'.stack:=by rw[hS1e]
 have hh4:S1.hb=(S'.heap.length:Int):=by rw[hS1e]
 clear hw1 hS1 hS1e σ1
 have hS2:=hw2.st
 have htr:S1.trail=[]:=by rw[hh2,hTw.trail,hT.trail]
 walk_at"*"
 refine y0i (m:=m+58) W hS2 ?_
 rw[htr]
 have hN1:(a0g [] (Tm.renL φ due)).length=(a0g [] due).length:=e0k hT.mid.inj
 have hN2:(a0g [] (Tm.renL ta (Tm.renL φ due))).length=(a0g [] due).length:=(e0k hTw.inj).trans hN1
 have hfew:=hT.mid.few
 walk_at"*"
 refine here ?_
 refine j0w (loc':=k1s g fst to tw mk bf) (Sub.cons rfl (Sub.cons rfl (Sub.cons rfl (Sub.cons rfl (Sub.cons rfl (Sub.cons rfl (Sub.cons rfl (Sub.nil _)))))))) ?_
 have hfv: ∀a,a∈a0g [] (Tm.renL ta (Tm.renL φ due))→0≤a∧S1.heap[a.toNat]?=some (0,a)∧(S.heap.length:Int)≤a∧a<S1.hb:=λa ha=>by
  have h1:=d0e.mp ha
  refine a0m (hTw.dec.fv a h1) λh2 h3=>?_
  refine a0a ((i0k _).mp h1) λp hp z0=>?_;subst z0
  have h4:=(List.getElem?_eq_some_iff.mp h3).1
  exact⟨h2,by rw[hh1];exact h3,(hTw.high p hp).1,by rw[hh4];exact LA [_] [_] 622904626216 rfl h4⟩
 walk_at"*"
 refine h0h ?_
 walk_at"*"
 have hBn:=c0s (Tm.renL ta (Tm.renL φ due)) List.nodup_nil
 generalize hB:a0g [] (Tm.renL ta (Tm.renL φ due))=B at hw2 hN2 hfv hBn
 refine m0d hm (hw2.at (o:=.dictI (a0u (num B))) (by exact .tail _ (.head _))) (by simp only[a0u,List.length_map,h0t];exact LA [_,_] [] 74184454183105921032 rfl hfew hN2) λks hp hs=>?_
 rw[p0y,t0t]at hp
 have hknd:ks.Nodup:=hp.nodup_iff.mpr hBn
 have hkl:ks.length≤4:=by rw[hp.length_eq];exact LA [_,_] [] 4973099925304049672 rfl hfew hN2
 have hkv: ∀a∈ks,0≤a∧S1.heap[a.toNat]?=some (0,a)∧(S.heap.length:Int)≤a∧a<S1.hb:=λa ha=>hfv a (hp.mem_iff.mp ha)
 have hw3:=hw2.grow (o:=.list (ks.map AV.int))
 clear hw2 hS2
 generalize σ2++[AObj.list (ks.map AV.int)]=σ3 at hw3⊢
 generalize σ2.length=kn at hw3⊢
 clear σ2
 refine⟨_,_,i0n (hw3.at (List.mem_cons_self ..)),λi l τ=>l=k1s g fst to tw mk bf∧∃S2,Wd g bud τ S2 ((kn,.list (ks.map AV.int))::(bf,.list (S'.heap.map Cel.av))::[(mk,.dictI (a0u (num B))),(tw,.list (twins.map Cel.av)),(to,.list ((a0l due).map Tm.av)),(se,.dictI (a0u (num (a0g [] (Tm.renL φ due))))),(di,.list (due.map Tm.av)),(fst,.list (first.map Cel.av))])∧Bnd S1 S2 (ks.take i) (λa=>100+idx B a),⟨_,λ_ _ h=>h,rfl,S1,hw3,Bnd.nil⟩,λi l τ _ ⟨_,S2,hw,_⟩=>hw.at (List.mem_cons_self ..),?_,?_⟩
 ·intro i y l τ hy z0;refine a0m z0 λz2 z1=>?_;clear z0;subst z2;refine a0a z1 λS2 hw4 hbn=>?_;clear z1
  clear hw3 σ3
  rw[List.getElem?_map]at hy
  refine a0a (Option.map_eq_some_iff.mp hy) λa ha z0=>?_;subst z0
  have ham:=List.mem_of_getElem? ha
  refine r0m (hkv a ham) λv1 v2 v3 v4=>?_
  have hil:=(List.getElem?_eq_some_iff.mp ha).1
  have hna:a∉ks.take i:=λq=>by
   obtain⟨j,hj,ej⟩:=List.mem_iff_getElem.mp q
   simp only[List.length_take]at hj
   rw[List.getElem_take]at ej
   obtain⟨h1,h2⟩:=List.getElem?_eq_some_iff.mp ha
   have:=(List.getElem_inj hknd).mp (ej.trans h2.symm)
   exact LA [_,_,_] [] 11294260818640936 rfl hj this
  intro P hP
  refine e0q (by rfl) ?_
  walk_at"*"
  refine d0h (x:=.int (idx B a)) (hw4.at (o:=.dictI (a0u (num B))) (by exact .tail _ (.tail _ (.head _)))) (by rw[d0w,k0s,if_pos (hp.mem_iff.mp ham)];rfl) ?_
  walk_at"*"
  refine z0i (m:=m+53) W hw4 (hbn.uok (fs:=g.fs) v1 v2 hna) (by rw[hbn.trail,htr];simp;exact LA [_,_] [] 3541776375132885155848 rfl hkl) λτ5 hw5=>?_
  clear hw4
  walk_at"*"
  exact⟨_,Sub.skip (λ_ _ h=>h) rfl,rfl,_,hw5,by rw[b0a ha];exact hbn.snoc v1 v2 hna v4⟩
 intro l σ6 z0;refine a0m z0 λz2 z1=>?_;clear z0;subst z2;refine a0a z1 λS3 hw6 hbn=>?_;clear z1
 rw[List.length_map,List.take_length]at hbn
 clear hw3 σ3
 walk_at"*"
 have hkv': ∀a∈ks,0≤a∧S1.heap[a.toNat]?=some (0,a):=λa ha=>⟨(hkv a ha).1,(hkv a ha).2.1⟩
 have d1:DecL S1 g.fs first (Tm.renL φ due):=hT.mid.dec.ext λc t h=>h.app (X:=Y) (by rw[hh1];exact hY)
 have d2:DecL S3 g.fs first (Tm.renL φ due):=by
  have h:=d1.mono (g:=c1j ks λa=>100+idx B a) (S':=S3) λc t h=>hbn.dec hkv' h
  rw[c0b (h:=.v) _ λp hp=>?_,u0g]at h
  ·exact h
  ·have h2:=hT.mid.dec.fv p hp
   have h3:=(List.getElem?_eq_some_iff.mp h2.2).1
   unfold c1j
   rw[if_neg λq=>by have:=(hkv p q).2.2.1;exact LA [_] [_] 11400358521883688 rfl h3 this]
 have d3:DecL S3 g.fs twins (Tm.subL (λk=>.i (100+k)) (a0l due)):=by
  have h:=(hTw.dec.ext (S':=S1) λc t h=>h.ext λp x hx=>by rw[hh1];exact hx).mono (g:=c1j ks λa=>100+idx B a) (S':=S3) λc t h=>hbn.dec hkv' h
  have e1:Tm.subL (c1j ks λa=>100+idx B a) (Tm.renL ta (Tm.renL φ due))=Tm.subL (λk=>.i (100+k)) (a0l due):=by
   rw[←hcX]
   show Tm.subL _ (Tm.subL _ (Tm.renL φ due))=Tm.subL _ (Tm.subL _ (Tm.renL φ due))
   rw[e0c,e0c]
   refine c0b _ λq hq=>?_
   have hBq:B=(a0g [] (Tm.renL φ due)).map ta:=by
    rw[←hB]
    have:=d0v hTw.inj (Tm.renL φ due) [] (λa h=>by simp at h) λp hp=>hp
    assumption
   have hin:ta q∈ks:=hp.mem_iff.mpr (by rw[hBq];exact List.mem_map_of_mem (d0e.mpr hq))
   simp only[k0i,k0f,k0g,k0h,c1j]
   rw[if_pos hin,hBq,r0r hTw.inj (λa ha=>d0e.mp ha) hq]
  rw[e1]at h;exact h
 walk_at"*"
 refine here ?_
 refine f0w (by rfl) (by rfl) (f0m hw6 (.inl rfl) λse2 σ7 hw7=>?_)
 clear hw6 σ6
 walk_at"*"
 refine j0z (λi=>.dictI (a0u (num (a0g [] ((Tm.renL φ due).take i))))) (λi=>((a0l due).take i).map Tm.av) hw7 (si:=fst) (xs:=first.map Cel.av) (by exact .tail _ (.tail _ (.tail _ (.tail _ (.tail _ (.tail _ (.tail _ (.head _)))))))) (by rw[List.length_map];exact LA [_,_] [] 7605905227044076702569525903560 rfl hdl hfl) rfl ?_ ?_
 ·rintro i y τ7 hy hw8 L'
  rw[List.getElem?_map]at hy
  refine a0a (Option.map_eq_some_iff.mp hy) λc hc z0=>?_;subst z0
  refine a0a (d2.get hc) λt ht hd=>?_
  have hS8:=hw8.st
  walk_at"*"
  refine q0o (m:=m+55) W hm hw8 hd ht (by exact LA [_] [] 2417862411841766046400520 rfl hX) λτ8 hw9=>?_
  refine⟨hw9,?_⟩
  have:=(f0k ht).2.2
  change (a0l (Tm.renL φ due))[i]?=_ at this
  rw[hcX]at this
  rw[b0a this];simp
 rintro σ8 hw8
 have htk:(a0l due).take (first.map Cel.av).length=a0l due:=List.take_of_length_le (by rw[c0m,List.length_map];exact LA [_,_] [] 33587272 rfl hfl)
 rw[htk]
 have hw9:=hw8.grow (o:=.list ((a0l due).map Tm.av))
 clear hw7 hw8 htk σ7
 generalize σ8++[AObj.list ((a0l due).map Tm.av)]=σ9 at hw9⊢
 generalize σ8.length=n9 at hw9⊢
 clear σ8
 walk_at"*"
 refine e0r 17 (by exact LA [] [] 1099520394560 rfl) (hw9.at (List.mem_cons_self ..)) (hw9.at (o:=.list ((a0l due).map Tm.av)) (by exact .tail _ (.tail _ (.tail _ (.tail _ (.tail _ (.tail _ (.head _)))))))) (Tm.datL' (by rw[g0i];have:=hT.mid.dep;exact LA [_] [] 19967837540807147528 rfl this)) ?_
 walk_at"*"
 refine here ?_
 refine f0w (by rfl) (by rfl) (f0m hw9 (.inl rfl) λvd σ10 hw10=>?_)
 clear hw9 σ9
 walk_at"*"
 refine here ?_
 refine j0w (loc':=(PySem.Str.ofString "values",AV.ref vd)::k1s g fst to tw mk bf) (Sub.cons rfl (Sub.cons rfl (Sub.cons rfl (Sub.cons rfl (Sub.cons rfl (Sub.cons rfl (Sub.cons rfl (Sub.cons rfl (Sub.nil _))))))))) ?_
 walk_at"*"
 refine h0h ?_
 walk_at"*"
 have hml:(a0u (num B)).length=(a0g [] due).length:=by simp only[a0u,List.length_map,h0t];exact hN2
 walk_at"*"
 refine l0x hm (hw10.at (o:=.dictI (a0u (num B))) (by exact .tail _ (.tail _ (.tail _ (.tail _ (.tail _ (.head _))))))) (by rw[hml];exact LA [_] [] 6917530505114353672 rfl hfew) ?_
 rw[hml]
 walk_at"*"
 refine e0s ?_
 have hw11:=hw10.subl (L':=[(vd,.dictI (h0c (l0c 0))),(bf,.list (S'.heap.map Cel.av)),(tw,.list (twins.map Cel.av)),(to,.list ((a0l due).map Tm.av))]) (.cons₂ _ (.cons _ (.cons _ (.cons _ (.cons₂ _ (.cons _ (.cons₂ _ (.cons₂ _ (.cons _ (.cons _ (.cons _ .slnil)))))))))))
 clear hw10
 refine⟨_,_,f0u (k:=(a0g [] due).length) (by exact LA [_] [] 6917530505114353672 rfl hfew),λi l τ=>l=(PySem.Str.ofString "values",AV.ref vd)::k1s g fst to tw mk bf∧Wd g bud τ S3 [(vd,.dictI (h0c (l0c i))),(bf,.list (S'.heap.map Cel.av)),(tw,.list (twins.map Cel.av)),(to,.list ((a0l due).map Tm.av))],⟨_,λ_ _ h=>h,rfl,hw11⟩,λ_ _ _ _ _=>trivial,?_,?_⟩
 ·rintro i y l τ hy ⟨rfl,hw12⟩
  refine a0m (c0k hy) λhi z0=>?_;subst z0
  intro P hP
  refine e0q (by rfl) ?_
  walk_at"*"
  refine f0h (hw12.at (o:=.dictI (h0c (l0c i))) (by exact .head _)) (by simp[h0c,l0c];exact LA [_,_] [] 7253556468051982476967944 rfl hfew hi) ?_
  have hput:n0c (h0c (l0c i)) (i:Int) (.tup [.str "i",.int (100+i)])=h0c (l0c (i+1)):=by
   rw[q0r]
   exact q0f (v:=.i (100+i)) (by rw[l0s,if_neg (by exact LA [_] [] 633941486931145 rfl)])
  have hw13:=hw12.set (o':=.dictI (h0c (l0c (i+1)))) rfl
  rw[←hput]at hw13
  walk_at"*"
  exact⟨_,Sub.skip (λ_ _ h=>h) rfl,rfl,by rw[←hput];exact hw13⟩
 rintro l σ12 ⟨rfl,hw12⟩
 rw[List.length_map,List.length_range]at hw12
 clear hw11 σ10
 walk_at"*"
 have hZl:(Tm.subL (λk=>.i (100+k)) (a0l due)).length=due.length:=by rw[a0v,hcl]
 have hZs:Tm.sizeL (Tm.subL (λk=>.i (100+k)) (a0l due))≤300:=by
  refine Nat.le_trans (i0w (B:=1) (Nat.le_refl _) _ λp hp=>by exact Nat.le_refl _) ?_
  rw[j0g];exact LA [_] [] 2475884026226911818290659336 rfl hsz
 have hZd:Tm.depL (Tm.subL (λk=>.i (100+k)) (a0l due))≤8:=by
  refine Nat.le_trans (k0q (D:=0) _ λp hp=>by exact Nat.le_refl _) ?_
  rw[g0i];have:=hT.mid.dep;omega
 have hZg: ∀(i:Nat) (t:Tm),(Tm.subL (λk=>.i (100+k)) (a0l due))[i]?=some t→∀p,¬b0u p t:=λi t ht p hp=>by
  refine a0a (m0s.mp (c0n ht hp)) λq _ h=>?_
  exact h
 have hZi: ∀(i:Nat) (t:Tm),(a0l due)[i]?=some t→(Tm.subL (λk=>.i (100+k)) (a0l due))[i]?=some (t.sub λk=>.i (100+k)):=λi t ht=>by rw[d0r,List.getElem?_map,ht];rfl
 generalize Tm.subL (λk=>.i (100+k)) (a0l due)=Z at d3 hZl hZs hZd hZg hZi
 walk_at"*"
 refine j0z (λi=>.dictI (h0c (l0c (a0g [] due).length))) (λi=>(Z.take i).map Tm.av) hw12 (si:=tw) (xs:=twins.map Cel.av) (by exact .tail _ (.head _)) (by rw[List.length_map];exact LA [_,_] [] 7605905227044076702569525903560 rfl hdl htl) rfl ?_ ?_
 ·rintro i y τ7 hy hw13 L'
  rw[List.getElem?_map]at hy
  refine a0a (Option.map_eq_some_iff.mp hy) λc hc z0=>?_;subst z0
  refine a0a (d3.get hc) λt ht hd=>?_
  have hz:=d0a ht
  have hS13:=hw13.st
  walk_at"*"
  have hw14:=hw13.grow (o:=.dictI (a0u (num (a0g [] ([t].take 0)))))
  walk_at"*"
  refine q0o (m:=m+55) (X:=[t]) (i:=0) W hm hw14 hd rfl (by simp only[f0z,f0y];exact LA [_,_] [] 2596160003575156872349003921326088 rfl hZs hz) λτ8 hw15=>?_
  have hr:t.ren (idx (a0g [] [t]))=t:=(f0j t λp hp=>absurd hp (hZg i t ht p)).trans (v0r t)
  rw[hr]
  exact⟨hw15.tail rfl,by rw[b0a ht];simp⟩
 rintro σ13 hw13
 have htk2:Z.take (twins.map Cel.av).length=Z:=List.take_of_length_le (by rw[List.length_map];exact LA [_,_,_] [] 70405326929992 rfl htl hZl)
 rw[htk2]
 have hw14:=hw13.grow (o:=.list (Z.map Tm.av))
 clear hw12 hw13 htk2 σ12
 generalize σ13++[AObj.list (Z.map Tm.av)]=σ14 at hw14⊢
 generalize σ13.length=n14 at hw14⊢
 clear σ13
 have hw15:=hw14.swap rfl
 clear hw14
 walk_at"*"
 refine j0z (λi=>.dictI (h0c (l0c (a0g [] due).length))) (λi=>(Z.take i).map Tm.av) hw15 (si:=to) (xs:=(a0l due).map Tm.av) (by exact .tail _ (.tail _ (.tail _ (.head _)))) (by rw[List.length_map];exact LA [_,_] [] 7605905227044076702569525903560 rfl hdl hcl) rfl ?_ ?_
 ·rintro i y τ7 hy hw16 L'
  rw[List.getElem?_map]at hy
  refine a0a (Option.map_eq_some_iff.mp hy) λt ht z0=>?_;subst z0
  have hz:=d0a ht
  rw[j0g]at hz
  have hdp:=Tm.dep_mem (List.mem_of_getElem? ht)
  rw[g0i]at hdp
  have hmd:=hT.mid.dep
  walk_at"*"
  refine x0l (m:=m+39) W hm 20 t _ τ7 _ (x0m (λp hp=>u0t (c0n ht hp)) (by exact LA [_,_] [] 11889512157030678536 rfl hdp hmd) (by exact LA [_,_] [] 3802953426359386244836496867336 rfl hsz hz)) (hw16.at (List.mem_cons_self ..)) ?_
  exact⟨hw16,by rw[b0a (hZi i t ht)];simp⟩
 rintro σ15 hw16
 have htk3:Z.take ((a0l due).map Tm.av).length=Z:=List.take_of_length_le (by rw[List.length_map,hcl];exact LA [_,_] [] 1073774664 rfl hZl)
 rw[htk3]
 have hw17:=hw16.grow (o:=.list (Z.map Tm.av))
 clear hw15 hw16 htk3 σ14
 generalize σ15++[AObj.list (Z.map Tm.av)]=σ16 at hw17⊢
 generalize σ15.length=n16 at hw17⊢
 clear σ15
 walk_at"*"
 refine e0r 17 (by exact LA [] [] 1099520394560 rfl) (hw17.at (o:=.list (Z.map Tm.av)) (List.mem_cons_of_mem _ (List.mem_cons_of_mem _ (List.mem_cons_self ..)))) (hw17.at (List.mem_cons_self ..)) (Tm.datL' (by exact LA [_] [] 19967837540807147528 rfl hZd)) ?_
 walk_at"*"
 refine here ?_
 refine j0w (loc':=n1d g bf) (Sub.cons rfl (Sub.cons rfl (Sub.cons rfl (Sub.nil _)))) ?_
 rw[←hh1]at hw17
 exact next bf ks _ S1 S3 σ16 (hw17.subl (.cons _ (.cons _ (.cons _ (.cons₂ _ (.cons _ (.cons _ .slnil))))))) hbn hkv' htr (by rw[hh3,hTw.stack];exact hT.stack) (by rw[hh1];exact LA [_,_,_,_,_] [] 5427763410462297233003039633334139969517151525012348610829498468069592498376 rfl hdl hX hXl hhp hlen)
end
section
variable {G:Gx} {m:Nat} {cenv:Env} {loc:Loc} {σ:Sig}
theorem m1x(W:WOk G (hd.heap_1 G.w.params))(hm: ∃o,G.base.get? sysModules=some o){body:List Stmt}{scope:Scope}{L:Addr}{qq:PySem.Str}{fu:Option Addr}{co:Value}{g:Geo}{bud:Int}{bf:Nat}{ks:List Int}{val:Int→Int}{S1 S3:Sto}{σ:Sig}(hl:g0b G body scope)
  (hw:Wd g bud σ S3 [(bf,.list (S1.heap.map Cel.av))]) (hbn:Bnd S1 S3 ks val) (hkv: ∀a∈ks,0≤a∧S1.heap[a.toNat]?=some (0,a)) (htr:S1.trail=[]) (hst:S1.stack.length≤1) (hhp:S1.heap.length≤5000):
   OkK G (m+59) (e0m scope L qq fu co) t0n [body.drop 41] (n1d g bf) σ:=by
 have hla:g0b G _ _:=⟨_,_,_,_,_,_,_,_,_,_,_,_,_,by k_is⟩
 refine a0m (d0y hl hla) λe1 e2=>?_
 subst e1 e2
 clear hla
 simp only[List.drop_succ_cons,List.drop_zero]
 have hundo:=hbn.undo hkv
 have hS:=hw.st
 have ht3:S3.trail=[]++ks:=by rw[hbn.trail,htr]
 have hes: ∀e∈ks,0≤e∧e<S3.heap.length:=λe he=>by
  refine a0m (hkv e he) λh0 h1=>?_
  have e2:((e.toNat:Nat):Int)=e:=by exact LA [] [_] 4556495919208 rfl h0
  have h3:=hbn.heap e.toNat
  rw[e2,if_pos he]at h3
  have:=(List.getElem?_eq_some_iff.mp h3).1
  exact⟨h0,by exact LA [_] [_] 622904626216 rfl this⟩
 refine e1o [] W ⟨?_⟩
 walk_at"*"
 refine v0t (m:=m+58) (t:=[]) W hS ht3 hes ?_
 rw[hundo]
 have hw2:=hw.heap (S':={S3 with heap:=S1.heap,trail:=[]}) rfl
 generalize putSt σ g.n {S3 with heap:=S1.heap,trail:=[]}=σ2 at hw2⊢
 obtain⟨S4,hS4⟩: ∃S4:Sto,S4={S3 with heap:=S1.heap,trail:=[]}:=⟨_,rfl⟩
 rw[←hS4]at hw2
 have hh1:S4.heap=S1.heap:=by rw[hS4]
 have hh2:S4.trail=[]:=by rw[hS4]
 have hh3:S4.stack=S1.stack:=by rw[hS4];exact hbn.stack
 clear hw hS hS4 σ
 have hS2:=hw2.st
 rw[←hh1]at hw2
 walk_at"*"
 refine e0r 1 (by exact LA [] [] 34360012000 rfl) hS2.heap (hw2.at (List.mem_cons_self ..)) (g0z _) ?_
 walk_at"1"
 walk_at"*"
 refine y0i (m:=m+58) W hS2 ?_
 rw[hh2]
 walk_at"*"
 walk_at"*"
 have hst4:S4.stack.length≤1:=by rw[hh3];exact hst
 have hsi:1=S4.stack.length∨(1=1∧S4.stack=[]):=by
  rcases Nat.lt_or_ge 0 S4.stack.length with h|h
  ·left;omega
  ·right;exact⟨rfl,List.length_eq_zero_iff.mp (by exact LA [_] [] 6444744712 rfl h)⟩
 walk_at"*"
 refine k0l (m:=m+58) (n:=g.n) (i:=1) (c:=(1,1)) W hS2 hsi (by omega) λst hst'=>?_
 have hs1:st[1]?=some (1,1)∧st.length=2:=by
  rcases hst' with⟨rfl,h⟩|⟨_,h,rfl⟩
  ·refine⟨?_,by simp;exact LA [_] [] 7518297160 rfl h⟩
   rw[List.getElem?_append_right (by omega),show 1 - S4.stack.length=0 by exact LA [_] [] 6605024271432 rfl h];rfl
  ·exact⟨rfl,rfl⟩
 have hw3:=hw2.heap (S':={S4 with stack:=st}) rfl
 generalize putSt σ2 g.n {S4 with stack:=st}=σ3 at hw3⊢
 clear hw2 hS2 σ2
 have hlen:S4.heap.length≤5000:=by rw[hh1];exact hhp
 clear hh1 hh3 hst hsi hst' hundo hbn hkv htr ht3 hes hst4 hhp
 have hS3:=hw3.st
 have hdS:a0i {S4 with stack:=st} 1 (1,1)=some (1,1):=by simp[eDr,hs1.1]
 walk_at"*"
 refine p0q (m:=m+55) (j:=1) (c:=(1,1)) W hS3 hw3.sy (.var hdS rfl) ?_
 walk_at"1"
 walk_at"*"
 refine f0f (m:=m+57) W hS3 (by simp only;exact LA [_] [] 6044630647349900601557000 rfl hlen) ?_
 have hw4:=hw3.heap (S':={S4 with stack:=st,heap:=S4.heap++[(0,(S4.heap.length:Int))]}) rfl
 obtain⟨S5,hS5⟩: ∃S5:Sto,S5={S4 with stack:=st,heap:=S4.heap++[(0,(S4.heap.length:Int))]}:=⟨_,rfl⟩
 rw[←hS5]at hw4
 show kEs _ _ _ _ _ (putSt σ3 g.n {S4 with stack:=st,heap:=S4.heap++[(0,(S4.heap.length:Int))]})
 rw[←hS5]
 generalize putSt σ3 g.n S5=σ5 at hw4⊢
 clear hw3 hS3 hdS σ3
 have h5s:S5.stack=st:=by rw[hS5]
 have h5h:S5.heap=S4.heap++[(0,(S4.heap.length:Int))]:=by rw[hS5]
 have hd1:a0i S5 1 (1,1)=some (1,1):=by simp[eDr,h5s,hs1.1]
 have hd2:a0i S5 1 (0,(S4.heap.length:Int))=some (0,(S4.heap.length:Int)):=by simp[eDr,h5h]
 have hS5':=hw4.st
 walk_at"*"
 refine n0j (m:=m+55) (j:=1) (c:=(1,1)) (c':=(0,(S4.heap.length:Int))) W hm hS5' hw4.sy (.go hd1 hd2 (.new rfl rfl rfl rfl (by simp) (by simp) .nil)) ?_
 walk_at"*"
 have hw6:=hw4.grow (o:=.dictI (b0v []))
 have hlen5:S5.heap.length=S4.heap.length+1:=by rw[h5h];exact ln1
 have hst5:S5.stack.length=2:=by rw[h5s];exact hs1.2
 walk_at"*"
 refine r0i (m:=m+55) (q:=1) (c:=(1,1)) (p:=1) W hm hw6.st (hw6.at (List.mem_cons_self ..)) (hw6.out _ (List.mem_cons_self ..)).n hd1 (by exact LA [] [] 7363 rfl) (by rw[hst5];exact LA [] [] 2443492 rfl) (by exact LA [_,_] [] 6646141691048892489209830575250440200 rfl hlen hlen5) ?_
 have hw7:=((hw6.heap (S':={S5 with heap:=S5.heap++[(0,(S5.heap.length:Int)),(0,(S5.heap.length:Int)+1)],stack:=S5.stack.set (1:Int).toNat (0,(S5.heap.length:Int))}) rfl).set (o':=.dictI (b0v [((S5.heap.length:Int),(0,(S5.heap.length:Int)+1))])) rfl).tail rfl
 obtain⟨S7,hS7⟩: ∃S7:Sto,S7={S5 with heap:=S5.heap++[(0,(S5.heap.length:Int)),(0,(S5.heap.length:Int)+1)],stack:=S5.stack.set (1:Int).toNat (0,(S5.heap.length:Int))}:=⟨_,rfl⟩
 rw[←hS7]at hw7⊢
 generalize (putSt (σ5++[AObj.dictI (b0v [])]) g.n S7).set σ5.length (AObj.dictI (b0v [((S5.heap.length:Int),(0,(S5.heap.length:Int)+1))]))=σ7 at hw7⊢
 have h7s:S7.stack[1]?=some (0,(S5.heap.length:Int)):=by
  rw[hS7];simp only
  rw[show(1:Int).toNat=1 by rfl,List.getElem?_set_self (by exact LA [_] [] 7552172104 rfl hst5)]
 have h7h:S7.heap=S5.heap++[(0,(S5.heap.length:Int)),(0,(S5.heap.length:Int)+1)]:=by rw[hS7]
 have h7a:S7.heap[S5.heap.length]?=some (0,(S5.heap.length:Int)):=by rw[h7h];exact gp0
 have h7b:S7.heap[S5.heap.length+1]?=some (0,(S5.heap.length:Int)+1):=by rw[h7h];exact gp1
 clear hw4 hw6 hS5' hd1 hd2 hS5 hS7 σ5
 generalize S5.heap.length=k at*
 have hd3:a0i S7 1 (0,(k:Int))=some (0,(k:Int)):=by simp[eDr,h7a]
 have hd4:a0i S7 2 (1,1)=some (0,(k:Int)):=by simp[eDr,h7s,h7a]
 have hS7:=hw7.st
 walk_at"*"
 refine k0m (m:=m+55) (j:=1) (R:=[(k:Int)]) (c:=(1,1)) (d:=(0,(k:Int))) W hS7 hw7.sy hd4 (by exact nofun) (.new hd3 rfl (by exact Nat.le_add_left _ _) .nil) ?_
 have hw8:=hw7.grow (o:=.list (vars [(k:Int)]))
 clear hw7 hS7
 generalize σ7++[AObj.list (vars [(k:Int)])]=σ8 at hw8⊢
 generalize σ7.length=ow at hw8⊢
 clear σ7
 have hS8:=hw8.st
 walk_at"*"
 have e1:((k:Int)+1).toNat=k+1:=by exact LA [_] [] 7709701780066 rfl
 walk_at"*"
 refine o0b (m:=m+58) (a:=(k:Int)+1) (d:=(0,(k:Int)+1)) W hS8 (by exact LA [_] [] 235483331 rfl) (by rw[e1];exact h7b) ?_
 walk_at"*"
 refine a0h (λ_=>?_) (λh=>by simp at h)
 walk_at"*"
 refine b0g (m:=m+58) (c:=(1,1)) (d:=(0,(k:Int))) W hS8 hd4 ?_
 walk_at"*"
 have hw9:=hw8.grow (o:=.list (vars [(k:Int)]))
 clear hw8 hS8
 show b0e _ _ _ _ _ (σ8++[AObj.list (vars [(k:Int)])]) _
 generalize σ8++[AObj.list (vars [(k:Int)])]=σ9 at hw9⊢
 generalize σ8.length=n9 at hw9⊢
 clear σ8
 have hdv:AV.datL 1 (vars [(k:Int)]):=⟨Cel.dat _,trivial⟩
 walk_at"*"
 refine r0f 1 (by exact LA [] [] 34360012000 rfl) 1 (hw9.at (List.mem_cons_of_mem _ (List.mem_cons_self ..))) (hw9.at (List.mem_cons_self ..)) hdv hdv ?_
 walk_at"*"
 refine a0h (λ_=>?_) (λh=>by unfold AV.eqbL at h;rw[i0c 1 _ hdv]at h;cases h)
 walk_at"*"
 have hw10:=hw9.grow (o:=.list [Cel.av (0,(k:Int)+1)])
 clear hw9
 show b0e _ _ _ _ _ (σ9++[AObj.list [Cel.av (0,(k:Int)+1)]]) _
 generalize σ9++[AObj.list [Cel.av (0,(k:Int)+1)]]=σ10 at hw10⊢
 generalize σ9.length=n10 at hw10⊢
 clear σ9
 walk_at"*"
 refine w0r 1 (by exact LA [] [] 34360012000 rfl) 1 (hw10.at (List.mem_cons_of_mem _ (List.mem_cons_of_mem _ (List.mem_cons_self ..)))) (hw10.at (List.mem_cons_self ..)) hdv ⟨Cel.dat _,trivial⟩ ?_
 have hnb:AV.eqbL (vars [(k:Int)]) [Cel.av (0,(k:Int)+1)]=false:=by
  have h:=Cel.eqb (0,(k:Int)) (0,(k:Int)+1)
  unfold AV.eqb at h
  unfold AV.eqbL
  simp only[vars,List.map_cons,List.map_nil,g1h,g1g,PyData.eqvAll,h,Bool.and_true]
  simp
  exact LA [_] [] 241134749865 rfl
 walk_at"*"
 refine a0h (λ_=>?_) (λh=>by rw[hnb]at h;cases h)
 walk_at"*"
 refine b0r (x:=Cel.av (0,(k:Int))) (hw10.at (o:=.list (vars [(k:Int)])) (by exact .tail _ (.tail _ (.head _)))) (by decide) rfl ?_
 walk_at"*"
 exact⟨0,.bool true,rfl,Nat.zero_le _,trivial,λo ho=>by simp at ho,rfl⟩
end
theorem j1n{G:Gx}{m:Nat}(W:WOk G (hd.heap_1 G.w.params))(hm: ∃o,G.base.get? sysModules=some o){ad:Addr}{items:Array Value}{ks:List Int}(hb:G.base.IsList ad items)(hI:IntsAre items.toList ks)(hz:ks.length≤63):a0b G (m+60) (.ref 545) [.glob (.ref ad)] [] (λx _=>x=.bool true):=
 m1q W hm hb hI hz λbody scope L qq fu co g bud a1 a2 f1 f2 f3 pi ti fi ai early trees S tab σ hl hw ha=>
  m1r W hm hl hw ha λfst bi first S tab' bd E σ hw hB hF hq=>
   m1s W hm hl hw ha hB hF hq λdi be se to due φ S σ hT hw=>
    m1t W hm hl hT hw λσ hw=>
     m1u W hm hl hT hw λtw mk twins τ S' σ hTw hw=>
      m1v W hm hl hT hTw hw λσ hw=>
       m1w W hm hl hT hTw hw λbf ks val S1 S3 σ hw hbn hkv htr hst hhp=>
        m1x W hm hl hw hbn hkv htr hst hhp
set_option tactic.hygienic true in
theorem top:PySem.Challenge.rw_no0184_01.Holds:=by
 refine Mine.hd ?_
 w_on
 k_fill
 intro w s₀ s₁ mg mb G Y fa o pm cd doc dV kV ho hd hcd hD hmg hg args l0c as hpre hlay hrd hwl hlo
 have KX:=kIn_of Y
 have X:=(Ground.X G).1
 refine Ground.open G ?_
 intro T B D TE TW
 have hfa:mg (PySem.Str.ofString "law")=some (.ref 545):=mg_of KX T.g (by k_is)
 have hfa2:fa=545:=by
  have:mg (PySem.Str.ofString "law")=some (.ref fa):=hmg
  rw[hfa]at this;cases this;rfl
 clear hmg
 wrow_args hpre hlay hrd hwl hlo
 clear hD hcd hd ho
 subst hfa2
 rename_i ks hsh _ _ _ _ _ _ la items _ hL _ _ _ hI _ hlen _
 have hks:ks.length≤63:=by exact LA [_] [] 2393059235460393161265448 rfl hlen
 have W:WOk ⟨PySem.Challenge.rw_no0184_01.row.prog,w,s₁.heap,s₁.os⟩ (hd.heap_1 w.params):=⟨KX,⟨_,T.g⟩,⟨_,T.b,T.builtins⟩,T.nolimit⟩
 have hm: ∃o,s₁.heap.get? sysModules=some o:=by
  refine a0a ((T.seer (by decide+kernel)).mods) λmm z0 _=>?_;obtain⟨o,es,ep,ho,_⟩:=z0
  exact⟨o,ho⟩
 have hI':IntsAre items.toArray.toList ks:=hI
 have S:Gx.St ⟨PySem.Challenge.rw_no0184_01.row.prog,w,s₁.heap,s₁.os⟩ [] [] s₁:=⟨rfl,List.nodup_nil,λa h=>by simp at h,λi a o h=>by trivial,λb o e=>e,hg,rfl⟩
 have rm:e0t (0+60) callerA:=⟨by show 1+claimMargin+(0+60)<1000;decide,by show 4+10*(0+60)+100<9900;decide,rfl⟩
 have main:=j1n (m:=0) W hm hL hI' hks callerA [] s₁ [.ref la] rm S ⟨_,_,rfl,rfl,rfl⟩
 refine wpAny_mono main (λv s' hp=>?_) (λ_ _ e=>e.elim)
 obtain⟨x,ρ',σ',S',N',hV,rfl⟩:=hp
 cases hV
 refine GoodW.toG ⟨.inl ⟨.bool true,.bool true,[],rfl,raisesW_false allW_false_nil,.bool true,?_,λ_=>⟨List.nodup_nil,λa h=>by simp at h⟩⟩,S'.base,S'.os,S'.gens⟩
 wrow_post
end Mine.Internal
theorem PySem.Challenge.cw_no0184_01_holds : PySem.Challenge.rw_no0184_01.Holds := by
 exact Mine.Internal.top
