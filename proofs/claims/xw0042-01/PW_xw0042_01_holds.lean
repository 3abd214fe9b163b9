import PyProof.Rows.All
import Wide.All
import OpenK.AllK
import Wide.FinOn
import KE.KLam
import KE.KRevSl
import Lean
import PySem.Challenge.RW_xw0042_01
set_option maxRecDepth 100000
set_option maxHeartbeats 8000000
set_option Elab.async false
set_option linter.all false
set_option compiler.extract_closed false
set_option bootstrap.genMatcherCode false
set_option genSizeOf false
set_option genCtorIdx false
set_option backward.match.sparseCases false
set_option genInjectivity false
set_option tactic.hygienic false
namespace Mine.Internal
-- The words of the walk are local rules. Their bodies stand as strings, which DK reads, one word after another, in reverse Polish:
-- 'x a token, :x a name, ?x a fresh name, $ the rule's argument, K/n a tree of kind K with n parts, ( .. ; steps one after another,
-- ( .. | the first that works, W R Y U F Q: with_reducible, repeat, try, with_unfolding_all, focus, a block; %x or one letter: row x of DB; else x: apply x.
-- Plain quotations would say the same; their code is 2.4 MB of the compiled file (the lid is 32 MiB). The steps are all of these: refine, exact, apply, intro, case, have, clear, rw, simp, rcases, assumption, omega, rfl, k_go, rotate_left, done, skip, fail.
def DN(k:String)(s:String)(a:List Lean.Syntax):Lean.Syntax:=.node .none k.toName (Lean.Syntax.atom .none s::a).toArray
def DL(k:String)(a:List Lean.Syntax):Lean.Syntax:=.node .none k.toName a.toArray
def DT(k:String)(s:String)(a:List Lean.Syntax):Lean.Syntax:=DN ("Lean.Parser.Tactic."++k) s a
def DQ(a:List Lean.Syntax):Lean.Syntax:=DL "Lean.Parser.Tactic.tacticSeq" [DL "Lean.Parser.Tactic.tacticSeq1Indented" [DL "null" a]]
def DW(t:String):Lean.Syntax:=if t.length==1 then DN "PySem.W.tacticK_lt2_" "k_lt2" [Lean.mkIdent ("z"++t).toName] else DT "apply" "apply" [Lean.mkIdent t.toName]
def D1(t:String)(l m:List Lean.Syntax):List Lean.Syntax:=if t=="|" then DT "first" "first" [DL "null" (l.reverse.map λx=>DN "group" "|" [DQ [x]])]::m else DT "paren" "(" [DQ (l.reverse.intersperse (.atom .none ";")),.atom .none ")"]::m
def DZ(t:String):String×String:=(([("W","withReducible","with_reducible"),("R","tacticRepeat_","repeat"),("Y","tacticTry_","try"),("U","withUnfoldingAll","with_unfolding_all"),("F","focus","focus")]:List (String×String×String)).lookup t).getD ("","")
def D2(t:String)(l:List Lean.Syntax):List Lean.Syntax:=let p:=DZ t;if t=="Q" then DQ (l.take 1)::l.tail else if p.1=="" then DW t::l else DT p.1 p.2 [DQ (l.take 1)]::l.tail
def DS(c t:String):Option String:=let p:=t.splitOn c;if p.length==2 then some p.getLast! else none
def D4(a:Lean.Syntax)(l:List Lean.Syntax)(t:String):Lean.MacroM (List Lean.Syntax):=do
 if let some x:=DS "'" t then return .atom .none x::l
 if let some x:=DS "?" t then return (Lean.mkIdent (<-Lean.Macro.addMacroScope x.toName)).raw::l
 if let some x:=DS ":" t then return (Lean.mkIdent x.toName).raw::l
 if let some x:=DS "/" t then return DL (let k:=(t.splitOn "/").head!;if k.startsWith "T" then "Lean.Parser."++k else k) (l.take x.toNat!).reverse::l.drop x.toNat!
 if let some x:=DS "%" t then return DN "PySem.W.tacticK_lt2_" "k_lt2" [Lean.mkIdent ("z"++x).toName]::l
 if t=="$" then return a::l
 return D2 t l
def D3(a:Lean.Syntax)(st:List (List Lean.Syntax))(t:String):Lean.MacroM (List (List Lean.Syntax)):=do if t=="(" then return []::st else if t=="|"||t==";" then return D1 t st.head! st.tail.head!::st.tail.tail else return (<-D4 a st.head! (if t=="H" then "Term.syntheticHole/2" else t))::st.tail
def DK(s:String)(a:Lean.Syntax:=.missing):Lean.MacroM Lean.Syntax:=do return (<-(s.splitOn " ").foldlM (D3 a) [[]]).head!.head!
def DB:String:= "@zK='kernel_rfl tacticKernel_rfl/1 F@zL='kernel_rfl! PyProof.Rows.tacticKernel_rfl!/1 F@z1=6 F@z2='rotate_left null/0 Tactic.rotateLeft/2@z3='assumption Tactic.assumption/1@z4=( 'done Tactic.done/1 'fail null/0 Tactic.fail/2 |@z5='omega null/0 Tactic.optConfig/1 Tactic.omega/2 F@z6='rfl Tactic.tacticRfl/1@z7=( Nat.le_of_ble_eq_true K ; F@zu=( ( aer lk_z 3 %z0 | R W 4 ;@zn=( %z1 %z2 ( nmL K 6 ; |@zp=( aca ab8 ab7 alu apr cq 6 3 |@zE=( %z4 %z5 %z6 %z7 |@zS=( ( gdE W E ; %z21 %z22 %z23 %z24 %z25 %z26 %z27 %z28 wCh2 W %z29 %z30 %z31 ( as2 W L ; ( ab4 W L ; ( ao9 W 1 ; |@za=( Ag.exc ( Ag.upd W K ; ( Ag.sub W K ; | R@zr=( ( LR.code LR.here_ LR.sites_ LR.held_ LR.boxed_ LR.world_ LR.tfn_ LR.known_ LR.regs_ LR.blocks_ LR.key_ LR.locals_ LR.mtw | 3 ; W@zc=( 'rw null/0 Tactic.optConfig/1 '[ null/0 :PySem.W.Fast.te10110043849684766642 Tactic.rwRule/2 ', null/0 :PySem.W.Fast.te14364793385576792824 Tactic.rwRule/2 null/3 '] Tactic.rwRuleSeq/3 null/0 Tactic.rwSeq/4 'kernel_rfl tacticKernel_rfl/1 ;@zg=( 'simp null/0 Tactic.optConfig/1 null/0 null/0 null/0 null/0 Tactic.simp/6 6 Y 4 ;@zm=( ( 'refine :LR.mt '? ?d H 'by 3 Q Term.byTactic/2 '? '_ H '( : hygieneInfo/1 Term.hygienicLParen/2 '? ?f H ': :Fd '_ Term.hole/1 null/1 Term.app/2 null/1 ') Term.typeAscription/5 '? ?w H null/1 Term.app/2 '? '_ H null/5 Term.app/2 Tactic.refine/2 W 'refine :LR.mtc '? ?d H 'by 3 Q Term.byTactic/2 '? '_ H '( : hygieneInfo/1 Term.hygienicLParen/2 '? ?f H ': :Fd '_ Term.hole/1 null/1 Term.app/2 null/1 ') Term.typeAscription/5 '? ?w H null/1 Term.app/2 '? '_ H null/5 Term.app/2 Tactic.refine/2 W | 'case ?w Lean.binderIdent/1 null/0 Tactic.caseArg/2 null/1 '=> g Q Tactic.case/4 'case ?f Lean.binderIdent/1 null/0 Tactic.caseArg/2 null/1 '=> ( 'intro '_ Term.hole/1 null/1 Tactic.intro/2 'kernel_rfl tacticKernel_rfl/1 ; Q Tactic.case/4 1 ;@zz0=( ( as4 lk_n as5 as6 | K ;@zz1=( nmL K u F ;@zz2=( nmG K g F ;@zz3=( ( wTup wLst wDic | 2 K ;@zz4=( wNm W ( nmP K n F ; F ;@zz5=( wAt wKs wKi wCmp wBin wKb wKn ( wCM K ; %z3 wSl ( wCS K ; wUn wBo wIfE ( wCp K ; | W@zz6=( wCN W K L n F ;@zz7=( wSub W 2 1 ;@zz8=( ( bdN bd1 | K ;@zz9=( sdT bdT bd0 %z8 | W@zz10=( ( cK tK siK dK | W 1 ;@zz11=( wAA wAI wATs | W@zz12=( nAdd nSub nNeg | W@zz13=( ( asv nTTT | W L ;@zz14=( ( nNot apf bIsi | W 1 ;@zz15=( slTT W L 1 ;@zz16=( wTj1 W 1 1 ;@zz17=( wTj0 W 1 1 ;@zz18=( wSrF W n F ;@zz19=( wSrR W n F ;@zz20=( wSrE W n F ;@zz21=( asn wNil wTC wTN wTB wTI | W@zz22=( ( wTV wCh1 | W 1 ;@zz23=( wChI W 2 K ;@zz24=( gdW W ( %z9 %z10 | ;@zz25=( wSI wSR wFor wB1 wB0 | W@zz26=( ( wSA wSE | W 1 ;@zz27=( gdA W ( %z11 ( wAN W 1 ; | ;@zz28=( gdR W ( %z12 %z13 %z14 %z15 | ;@zz29=( ( gdT1 gdT0 gdTa | W ( %z16 %z17 | ;@zz30=( gdO W ( ( wSr W 1 ; %z18 %z19 %z20 | ;@zz31=( wO0 wO1 asq wBo1 wBo2 wAl0 wAl1 wIf0 wIf1 kiN | W@zT=( S S R gdC W Y ; U Y@"
local macro_rules | `(tactic| k_lt2 $s)=>let p:=DB.splitOn ("@"++s.getId.toString++"=");if p.length==2 then DK (p.getLast!.splitOn "@").head! else Lean.Macro.throwUnsupported
local macro_rules | `(tactic| k_go)=>DK "'kernel_rfl tacticKernel_rfl/1"
local macro_rules | `(tactic| k_lt $h)=>DK "'exact $ Tactic.exact/2 U" h
local macro_rules | `(tactic| w_pre $h)=>DK "( 'exact :nS $ :rfl null/2 Term.app/2 Tactic.exact/2 'skip Tactic.skip/1 |" h
local macro_rules | `(tactic| cases $e:term)=>DK "( 'rcases null/0 $ Tactic.elimTarget/2 null/1 'with '⟨ null/0 '⟩ Tactic.rcasesPat.tuple/3 null/1 Tactic.rcasesPatMed/1 null/0 Tactic.rcasesPatLo/2 null/2 Tactic.rcases/3 'fail null/0 Tactic.fail/2 |" e
local macro_rules | `(tactic| cases $e:ident)=>DK "( ( 'have null/0 Term.letConfig/1 :h9 Term.letId/1 null/0 null/0 ':= :Option.some.inj $ null/1 Term.app/2 Term.letIdDecl/5 Term.letDecl/1 Tactic.tacticHave__/3 'clear $ null/1 Tactic.clear/2 'rcases null/0 :h9 Tactic.elimTarget/2 null/1 'with '⟨ null/0 '⟩ Tactic.rcasesPat.tuple/3 null/1 Tactic.rcasesPatMed/1 null/0 Tactic.rcasesPatLo/2 null/2 Tactic.rcases/3 ; 'fail null/0 Tactic.fail/2 |" e
noncomputable def zAA:Nat:=0x111511054040113
noncomputable def zAB:Nat:=0x111324424010684254002
noncomputable def zAC:Nat:=0x1111601165054040114
noncomputable def zAD:Nat:=0x111501154040113
noncomputable def zAE:Nat:=0x113150614043004150611140043002
noncomputable def zAF:Nat:=0x111010135445413
noncomputable def zAG:Nat:=0x1111150023621004625023403
noncomputable def zAH:Nat:=0x14210411001
noncomputable def zAI:Nat:=0x1111611165051140240114
noncomputable def zAJ:Nat:=0x11138842406422402
noncomputable def zAK:Nat:=0x1151105414110023002
noncomputable def zAL:Nat:=0x115415412
noncomputable def zAM:Nat:=0x111010134115025413
noncomputable def zAN:Nat:=0x1213150416023004604150414110023003
noncomputable def zAO:Nat:=0x1113884240132442402
noncomputable def zAP:Nat:=0x11101013014240113
noncomputable def zAQ:Nat:=0x1116210411006505110423
noncomputable def zAR:Nat:=0x1116210411006505423
noncomputable def zAS:Nat:=0x1215416023004601150414110023003
noncomputable def zAT:Nat:=0x111010134525413
noncomputable def zAU:Nat:=0x1115614615403
noncomputable def zAV:Nat:=0x115405402
noncomputable def zAW:Nat:=0x14210411011001
noncomputable def zAX:Nat:=0x111150023421005023402
noncomputable def zAY:Nat:=0x14f2240462201
noncomputable def zAZ:Nat:=0x111010131150445413
noncomputable def zA0:Nat:=0x11010134114022
noncomputable def zA1:Nat:=0x1116406505403
noncomputable def zA2:Nat:=0x1111010136524615404
noncomputable def zA3:Nat:=0x1155105814110083002
noncomputable def zA4:Nat:=0x1156105814110083002
noncomputable def zA5:Nat:=0x111150614043002150814043002
noncomputable def zA6:Nat:=0x1111111010139622190841180742170546402150447
noncomputable def zA7:Nat:=0x1111601140116505404
noncomputable def zA8:Nat:=0x111501140115403
noncomputable def zA9:Nat:=0x110101301412
noncomputable def zBA:Nat:=0x111388424010004254002
noncomputable def zBB:Nat:=0x111100042640056010004254003
noncomputable def zBC:Nat:=0x11115604707605404
noncomputable def zBD:Nat:=0x11111701176065054040115
noncomputable def zBE:Nat:=0x1813150916083004606150814110083003
noncomputable def zBF:Nat:=0x1151105114022
noncomputable def zBG:Nat:=0x11411044101023002
noncomputable def zBH:Nat:=0x115414023001150414110023002
noncomputable def zBI:Nat:=0x1154105414210023002
noncomputable def zBJ:Nat:=0x14210421001
noncomputable def zBK:Nat:=0x1116114006505114023
noncomputable def zBL:Nat:=0x14110023014023001
noncomputable def zBM:Nat:=0x14110014001
noncomputable def zBN:Nat:=0x115401150412
noncomputable def zBO:Nat:=0x1110101301421150443
noncomputable def zBP:Nat:=0x1116415645413
noncomputable def zBQ:Nat:=0x111115706808704605405
noncomputable def zBR:Nat:=0x113150914083005150814110083002
noncomputable def zBS:Nat:=0x1158105814110083002
noncomputable def zBT:Nat:=0x11111711176065051140240115
noncomputable def zBU:Nat:=0x111111811054087076265040116
noncomputable def zBV:Nat:=0x11111150023621004727625023404
noncomputable def zBW:Nat:=0x111111150023621004828727625023405
noncomputable def zBX:Nat:=0x1154105414110023002
noncomputable def zBY:Nat:=0x12215417023006704601150414110023004
noncomputable def zBZ:Nat:=0x11113884250451138842403
noncomputable def zB0:Nat:=0x11113884250451132442403
noncomputable def zB1:Nat:=0x11111701140117606505405
noncomputable def zB2:Nat:=0x111111500415412
noncomputable def zB3:Nat:=0x111115023807806704601150023421005
noncomputable def zB4:Nat:=0x141a32100101
noncomputable def zB5:Nat:=0x111138842504513f22403
noncomputable def zB6:Nat:=0x1126422504023110501f22403
noncomputable def zB7:Nat:=0x11111615110047276261105211023405
noncomputable def zB8:Nat:=0x14f22406131043001
noncomputable def zB9:Nat:=0x1111010136506445414
noncomputable def zCA:Nat:=0x111100042611400051160210004254003
noncomputable def zCB:Nat:=0x111501111504041113
noncomputable def zCC:Nat:=0x110101341111111114000012
noncomputable def zCD:Nat:=0x1111010134626505414
noncomputable def zCE:Nat:=0x1111010134116026505414
noncomputable def zCF:Nat:=0x11111010137114022170641160542150445
noncomputable def zCG:Nat:=0x1111010131150626402150444
noncomputable def zCH:Nat:=0x1116115016402150443
noncomputable def zCI:Nat:=0x111161150402651140022
noncomputable def zCJ:Nat:=0x111106842460010684256005114003
noncomputable def zCK:Nat:=0x1111132442406115004022605404
noncomputable def zCL:Nat:=0x111111801140118707606505406
noncomputable def zCM:Nat:=0x115114015111140002
noncomputable def zCN:Nat:=0x110101301023421002
noncomputable def zCO:Nat:=0x1115023604601150023421003
noncomputable def zCP:Nat:=0x154110002301502304023001
noncomputable def zCQ:Nat:=0x141101a32102141a3210001
noncomputable def zCR:Nat:=0x111010134511150413
noncomputable def zCS:Nat:=0x1123f22504023110501f22403
noncomputable def zCT:Nat:=0x11111010134726507605415
noncomputable def zCU:Nat:=0x111615110045211023403
noncomputable def zCV:Nat:=0x1110110010562117060808740401621150425
noncomputable def zCW:Nat:=0x1815150916083004608150814110083003
noncomputable def zCX:Nat:=0x1813150b16083004606150814110083003
noncomputable def zCY:Nat:=0x1212150416023004604150414210023003
noncomputable def zCZ:Nat:=0x1213150416110023004604150414210023003
noncomputable def zC0:Nat:=0x1213150416023004604150414210023003
noncomputable def zC1:Nat:=0x1111106842470011607010684256005114004
noncomputable abbrev so(s:String):PySem.Str:=PySem.Str.ofString s
section
open PySem
theorem yA{α β:Type}{x:Option α}{f:α->β}{b:β}(h:Option.map f x=some b):∃a,x=some a/\f a=b:=Option.map_eq_some_iff.mp h
theorem yB{α:Type}{l:List α}{i j:Nat}(h:i≠j){a:α}:(l.set i a)[j]?=l[j]?:=List.getElem?_set_ne h
theorem yC{α:Type}{l:List α}{i:Nat}(h:i<l.length):l[i]?=some l[i]:=List.getElem?_eq_getElem h
theorem yD{α:Type}{a b:α}(h:some a=some b):a=b:=Option.some.inj h
theorem yE(n:Nat):n<=n:=Nat.le_refl n
theorem yF{α:Type}{xs:Array α}:xs.toList.length=xs.size:=Array.length_toList
theorem yG{α:Type}{a b:α}(h:a∈ [b]):a=b:=List.mem_singleton.mp h
theorem yH{M:Model}{A:Around}{E:Value->Shared->Prop}{s:Shared}{α β:Type}{m:Sem α}{f:α->Sem β}{Q:β->Shared->Prop}(h:wpAny M A m (λa s1=>wpAny M A (f a) Q E s1) E s):wpAny M A (m>>=f) Q E s:=wpAny_bind h
theorem yJ{a b c:Nat}(h:a<b)(g:b<=c):a<c:=Nat.lt_of_lt_of_le h g
theorem yK{a b c:Nat}(h:a<=b)(g:b<=c):a<=c:=Nat.le_trans h g
theorem yL{a b:Nat}(h:Nat.ble a b=true):a<=b:=Nat.le_of_ble_eq_true h
theorem yM{α:Type}{a b:α}{l:List α}(h:a∈b::l):a=b\/a∈l:=List.mem_cons.mp h
theorem yN{a b:Nat}(h:b<a):a≠b:=Nat.ne_of_gt h
theorem yO{a b:Nat}(h:a<b):a≠b:=Nat.ne_of_lt h
theorem yP{α:Type}{a:α}{l:List α}:a∈a::l:=List.mem_cons_self
theorem yQ{a b:Bool}(h:(a&&b)=true):a=true/\b=true:=Bool.and_eq_true_iff.mp h
theorem yR{α β:Type}{x:Option α}{f:α->Option β}{b:β}(h:x.bind f=some b):∃a,x=some a/\f a=some b:=Option.bind_eq_some_iff.mp h
theorem yS{α:Type}{l:List α}{i:Nat}{a:α}(h:l[i]?=some a):∃g:i<l.length,l[i]=a:=List.getElem?_eq_some_iff.mp h
theorem yT{h:Heap}{a:Addr}{p:Obj}(o:Obj)(e:h.get? a=some p):(h.push o).get? a=some p:=Heap.get?_push_of_some o e
theorem yU(n:Nat):n<n+1:=Nat.lt_succ_self n
theorem yV{a b c:Nat}(h:a<=b)(g:b<c):a<c:=Nat.lt_of_le_of_lt h g
theorem yW{a b c:Int}(h:a<=b)(g:b<=c):a<=c:=Int.le_trans h g
theorem yX{P:Prop}(h:False):P:=False.elim h
theorem yI{M:Model}{A:Around}{E:Value->Shared->Prop}{s:Shared}{α:Type}{a:α}{Q:α->Shared->Prop}(h:Q a s):wpAny M A (pure a) Q E s:=wpAny_pure h
end
section
open PySem
inductive Tl where
 | c (n:Nat) | v (i:Nat) | a (x y:Tl) | m (k:Nat) (x:Tl)
noncomputable def Tl.ev(r:List Nat):Tl->Nat
 | c n=>n
 | v i=>r.getD i 0
 | a x y=>x.ev r+y.ev r
 | m k x=>k*x.ev r
set_option genCtorIdx true in
inductive Tk where
 | le | lt | eq | qe | ff
noncomputable def Tk.of:Nat->Tk
 | 0=>le | 1=>lt | 2=>eq | 4=>qe | _=>ff
noncomputable def Tk.p:Tk->Nat->Nat->Prop
 | le,x,y=>x<=y
 | lt,x,y=>x<y
 | ff,Y,Z=>False
 | Y,x,y=>x=y
structure Tf where
 k:Tk
 x:Tl
 y:Tl
noncomputable def aE{α:Type}:Nat->Nat->(Tl->Nat->α)->α
 | 0,n,K=>K (.c 0) n
 | f+1,n,K=>match n%16 with
  | 0=>aE f (n/16) λx n=>aE f n λy n=>K (.a x y) n
  | 1=>K (.c (n/16%16)) (n/256)
  | 2=>K (.c (n/256%16^(n/16%16))) (n/256/16^(n/16%16))
  | 3=>aE f (n/4096) λx r=>K (.m (n/16%256) x) r
  | k+4=>K (.v k) (n/16)
noncomputable def aLs:Nat->Nat->(List Tf->Nat->List Tf×Nat)->List Tf×Nat
 | 0,n,K=>K [] n
 | f+1,n,K=>aE 20 (n/16) λx m=>aE 20 m λy m=>aLs f m λl m=>K (⟨.of (n%16),x,y⟩::l) m
noncomputable def aRd(c:Nat):List Tf×Nat:=aLs (c%16) (c/16) Prod.mk
noncomputable def Tf.p(r:List Nat)(g:Tf):Prop:=g.k.p (g.x.ev r) (g.y.ev r)
noncomputable def an4(r:List Nat):List Tf->Prop
 | []=>True
 | h::t=>match t with
  | []=>h.p r
  | t=>h.p r->an4 r t
noncomputable def aAd:List Nat->List Nat->List Nat
 | [],y=>y
 | a::x,y=>match y with
  | []=>a::x
  | b::y=>(a+b)::aAd x y
noncomputable def aSc(k:Nat):List Nat->List Nat
 | []=> []
 | a::x=>k*a::aSc k x
noncomputable def fe:List Nat->List Nat->Nat
 | [],Y=>0
 | a::x,y=>match y with
  | []=>0
  | b::y=>a*b+fe x y
theorem aDa:∀(r x y:List Nat),fe (aAd x y) r=fe x r+fe y r
 | r,[],y=>(Nat.zero_add _).symm
 | r,a::x,[]=>rfl
 | [],a::x,b::y=>rfl
 | d::r,a::x,b::y=>by
  show(a+b)*d+fe (aAd x y) r=a*d+fe x r+(b*d+fe y r);rw[aDa r x y,Nat.add_mul,Nat.add_add_add_comm]
theorem aDs(k:Nat):∀(r x:List Nat),fe (aSc k x) r=k*fe x r
 | r,[]=>rfl
 | [],a::x=>rfl
 | d::r,a::x=>by show k*a*d+fe (aSc k x) r=k*(a*d+fe x r);rw[aDs k r x,Nat.mul_add,Nat.mul_assoc]
noncomputable def akd:List Nat->List Nat->Bool
 | [],Y=>true
 | a::x,y=>match y with
  | []=>and (Nat.ble a 0) (akd x [])
  | b::y=>and (Nat.ble a b) (akd x y)
theorem aam{a b:Bool}(h:and a b=true):a=true/\b=true:=yQ h
theorem aCl:∀(r x y:List Nat),akd x y=true->fe x r<=fe y r
 | r,[],y,Y=>Nat.zero_le _
 | [],a::x,y,Y=>Nat.zero_le _
 | d::r,a::x,[],h=>by
  have e:fe x r<=0:=aCl r x [] (aam h).2;show a*d+fe x r<=0;rw[Nat.le_zero.mp (yL (aam h).1),Nat.zero_mul,Nat.zero_add];exact e
 | d::r,a::x,b::y,h=>Nat.add_le_add (Nat.mul_le_mul_right _ (yL (aam h).1)) (aCl r x y (aam h).2)
noncomputable def aVz:Nat->List Nat
 | 0=> [1]
 | i+1=>0::aVz i
noncomputable def Tl.lf:Tl->List Nat
 | c n=> [n]
 | v i=>0::aVz i
 | a x y=>aAd x.lf y.lf
 | m k x=>aSc k x.lf
theorem aDv:∀(i:Nat) (r:List Nat),fe (aVz i) r=r.getD i 0
 | 0,[]=>rfl
 | 0,d::r=>(Nat.one_mul d:1*d=d)
 | i+1,[]=>rfl
 | i+1,d::r=>by show 0*d+fe (aVz i) r=r.getD i 0;rw[aDv i r,Nat.zero_mul,Nat.zero_add]
theorem aEv(r:List Nat):∀x:Tl,fe x.lf (1::r)=x.ev r
 | .c n=>Nat.mul_one n
 | .v i=>(Nat.zero_add _).trans (aDv i r)
 | .a x y=>by show fe (aAd x.lf y.lf) _=x.ev r+y.ev r;rw[aDa,aEv r x,aEv r y]
 | .m k x=>by show fe (aSc k x.lf) _=k*x.ev r;rw[aDs,aEv r x]
noncomputable def Tf.l(b:Bool)(g:Tf):Tl:=match g.k with
 | .le=>g.x
 | .lt=> .a g.x (.c 1)
 | .eq=>cond b g.y g.x
 | .qe=>cond b g.x g.y
 | .ff=> .c 1
noncomputable def Tf.r(b:Bool)(g:Tf):Tl:=match g.k with
 | .le=>g.y
 | .lt=>g.y
 | .eq=>cond b g.x g.y
 | .qe=>cond b g.y g.x
 | .ff=> .c 0
noncomputable def aGk(b:Bool):List Tf->Nat->List Nat->List Nat->Bool
 | [],Y,Z,U=>true
 | h::t,n,L,R=>match t with
  | []=>and (Nat.ble 1 (n%16)) (akd (aAd L (aSc (n%16) (h.l b).lf)) (aAd R (aAd (aSc (n%16) (h.r b).lf) [n%16 - 1])))
  | t=>aGk b t (n/16) (aAd L (aSc (n%16) (h.r b).lf)) (aAd R (aSc (n%16) (h.l b).lf))
theorem aLo{r:List Nat}{b:Bool}{g:Tf}(h:g.p r):(g.l b).ev r<=(g.r b).ev r:=by
 obtain⟨k,x,y⟩:=g;cases k
 ·exact h
 ·exact h
 ·cases b
  ·exact Nat.le_of_eq h
  ·exact Nat.le_of_eq (Eq.symm h)
 ·cases b
  ·exact Nat.le_of_eq (Eq.symm h)
  ·exact Nat.le_of_eq h
 ·exact h.elim
noncomputable def Tk.q:Tk->Bool
 | .eq=>true
 | .qe=>true
 | Y=>false
theorem aOl{r:List Nat}{g:Tf}(h:(g.l false).ev r<=(g.r false).ev r)(h':(g.l g.k.q).ev r<=(g.r g.k.q).ev r):g.p r:=by
 obtain⟨k,x,y⟩:=g;cases k
 ·exact h
 ·exact h
 ·exact Nat.le_antisymm h h'
 ·exact Nat.le_antisymm h' h
 ·exact Nat.not_succ_le_zero _ h
noncomputable def aEw:List Tf->Bool
 | []=>false
 | h::t=>match t with
  | []=>h.k.q
  | t=>aEw t
theorem aFin{A B l r k:Nat}(q:B<=A)(h1:1<=k)(h2:A+k*l<=B+(k*r+(k - 1))):l<=r:=by
 refine Nat.le_of_not_lt λh4=> ?_;have h5:k*r+k<=k*l:=Nat.mul_le_mul_left k (Nat.succ_le_of_lt h4);have h6:=Nat.le_of_add_le_add_left (yK h2 (Nat.add_le_add_right q _));have h7:=Nat.le_of_add_le_add_left (yK h5 h6);exact absurd (yJ (Nat.sub_lt h1 Nat.one_pos) h7) (Nat.lt_irrefl _)
theorem aq9{r:List Nat}{h:Tf}(b:Bool)(n:Nat)(L R:List Nat)(q:fe R (1::r)<=fe L (1::r))(g:aGk b [h] n L R=true):(h.l b).ev r<=(h.r b).ev r:=by
 have h2:=aCl (1::r) _ _ (aam g).2;rw[aDa,aDa,aDa,aDs,aDs,aEv,aEv,show fe [n%16 - 1] (1::r)=n%16 - 1 from Nat.mul_one _] at h2;exact aFin q (yL (aam g).1) h2
theorem am1{r:List Nat}{h:Tf}(hh:h.p r)(b:Bool)(k:Nat)(L R:List Nat)(q:fe R (1::r)<=fe L (1::r)):fe (aAd R (aSc k (h.l b).lf)) (1::r)<=fe (aAd L (aSc k (h.r b).lf)) (1::r):=by
 rw[aDa,aDa,aDs,aDs,aEv,aEv];exact Nat.add_le_add q (Nat.mul_le_mul_left _ (aLo hh))
theorem aGo(r:List Nat):∀(t:List Tf) (n0 n1:Nat) (L0 R0 L1 R1:List Nat),fe R0 (1::r)<=fe L0 (1::r)->fe R1 (1::r)<=fe L1 (1::r)->aGk false t n0 L0 R0=true->aGk (aEw t) t n1 L1 R1=true->an4 r t
 | [],Y,Z,U,V,N,O,H,G,I,R=>trivial
 | [Y],Z,U,V,N,O,H,q0,q1,h0,h1=>aOl (aq9 _ _ _ _ q0 h0) (aq9 _ _ _ _ q1 h1)
 | Y::g::t,Z,U,V,N,O,H,q0,q1,h0,h1=>λhh=>aGo r (g::t) _ _ _ _ _ _ (am1 hh _ _ _ _ q0) (am1 hh _ _ _ _ q1) h0 h1
noncomputable def aCk(c:Nat):Bool:=and (aGk false (aRd c).1 (aRd c).2 [] []) (aGk (aEw (aRd c).1) (aRd c).1 ((aRd c).2/16^(cond (aEw (aRd c).1) (c%16) 0)) [] [])
noncomputable def aDe(c:Nat)(r:List Nat):Prop:=an4 r (aRd c).1
theorem ar(r:List Nat)(c:Nat)(h:aCk c=true):aDe c r:=aGo r _ _ _ _ _ _ _ (yE _) (yE _) (aam h).1 (aam h).2
section
variable(c:Nat){x y z u v w p q s t a b:Nat}(h:aCk c=true:=by k_go)
include h
theorem ar1:aDe c [x]:=ar _ c h
theorem ar2:aDe c [x,y]:=ar _ c h
theorem ar3:aDe c [x,y,z]:=ar _ c h
theorem ar4:aDe c [x,y,z,u]:=ar _ c h
theorem ar5:aDe c [x,y,z,u,v]:=ar _ c h
theorem ar6:aDe c [x,y,z,u,v,w]:=ar _ c h
theorem ar7:aDe c [x,y,z,u,v,w,p]:=ar _ c h
theorem ar8:aDe c [x,y,z,u,v,w,p,q]:=ar _ c h
theorem ar9:aDe c [x,y,z,u,v,w,p,q,s]:=ar _ c h
theorem an5:aDe c [x,y,z,u,v,w,p,q,s,t]:=ar _ c h
theorem ar11:aDe c [x,y,z,u,v,w,p,q,s,t,a]:=ar _ c h
end
section
variable{x y:Nat}{P:Prop}
theorem aS:x - y<=x:=Nat.sub_le x y
theorem aT:x<=x - y+y:=Nat.le_add_of_sub_le (yE _)
theorem aC(h:y<=x):x - y+y=x:=Nat.sub_add_cancel h
theorem aL:x<=max x y:=Nat.le_max_left x y
theorem aR:y<=max x y:=Nat.le_max_right x y
theorem aN:min x y<=x:=Nat.min_le_left x y
theorem aM:min x y<=y:=Nat.min_le_right x y
theorem mC(a:max x y=x->P)(b:max x y=y->P):P:=(Nat.le_total y x).elim (λh=>a (Nat.max_eq_left h)) λh=>b (Nat.max_eq_right h)
theorem mI(a:min x y=x->P)(b:min x y=y->P):P:=(Nat.le_total x y).elim (λh=>a (Nat.min_eq_left h)) λh=>b (Nat.min_eq_right h)
theorem mS(a:x - y=0->P)(b:x - y+y=x->P):P:=(Nat.le_total x y).elim (λh=>a (Nat.sub_eq_zero_of_le h)) λh=>b (Nat.sub_add_cancel h)
end
section
theorem ags{x:Int}{n:Nat}(h:x.natAbs<=n): -(n:Int)<=x/\x<=n:=
 ⟨Int.neg_le_of_neg_le (yW (Int.natAbs_neg x▸Int.le_natAbs) (Int.ofNat_le.mpr h)),yW Int.le_natAbs (Int.ofNat_le.mpr h)⟩
theorem ara{x:Int}{n:Nat}(h: -(n:Int)<=x)(h':x<=n):x.natAbs<=n:=
 (Int.natAbs_eq x).elim (λe=>Int.ofNat_le.mp (yW (Int.le_of_eq e.symm) h')) λe=>Int.ofNat_le.mp (Int.le_of_neg_le_neg (yW h (Int.le_of_eq e)))
theorem lt2{d:Int}(h:0<=d)(h':d<2):d=0\/d=1:=
 (Int.lt_or_eq_of_le h).elim (λq=> .inr (Int.le_antisymm (Int.le_of_lt_add_one h') (Int.add_one_le_of_lt q))) λq=> .inl q.symm
theorem lt3{d:Int}(h:0<=d)(h':d<3):d=0\/d=1\/d=2:=
 (Int.lt_or_eq_of_le (Int.le_of_lt_add_one h':d<=2)).elim (λq=>(lt2 h q).imp id .inl) λq=> .inr (.inr q)
theorem cne{a b:Nat}(h:a≠b):(a:Int)≠b:=λe=>h (Int.ofNat.inj e)
theorem nadd{i n:Int}(h: -n<=i):0<=i+n:=by
 have z:=Int.add_le_add_right h n
 rwa [Int.add_left_neg] at z
theorem an6{n m:Nat}(h:n*5<m*3):n<m:=
 Nat.lt_of_not_le λz=>absurd (yJ h (yK (Nat.mul_le_mul_right 3 z) (Nat.mul_le_mul_left n (by decide)))) (Nat.lt_irrefl _)
theorem eq5{n k a:Nat}(h1:n*5<a)(h2:¬(n+1)*5<a)(ha:a<=(k+1)*5)(hb:k*5<a):n=k:=
 Nat.le_antisymm (Nat.le_of_lt_succ (Nat.lt_of_mul_lt_mul_right (yJ h1 ha))) (Nat.le_of_lt_succ (Nat.lt_of_mul_lt_mul_right (yJ hb (Nat.not_lt.mp h2))))
theorem lg4(x:Nat):x - 1 - 1 - 1 - 1+4<=x\/x - 1 - 1 - 1 - 1=0:=by
 show x - 4+4<=x\/x - 4=0;exact(Nat.lt_or_ge x 4).elim (λh=> .inr (Nat.sub_eq_zero_of_le (Nat.le_of_lt h))) λh=> .inl (Nat.le_of_eq (Nat.sub_add_cancel h))
theorem nge{n k:Nat}(h:k<=n):∃m,n=m+k:=⟨n - k,(Nat.sub_add_cancel h).symm⟩
end
set_option genInjectivity true in
inductive D where
 | none | bool (b:Bool) | int (i:Int) | str (s:Str)
 | tup (l:List D) | loc (n:Nat) | val (v:Value) | lam (n:Nat)
set_option genInjectivity true in
inductive Cell where
 | list (l:List D)
 | dictI (es:List (Int×D))
 | dictS (es:List (Str×D))
 | inst (C:Addr) (d:Nat)
 | fset (l:List Int)
 | set (n:Nat)
 | fix (vs:Array Value) (n:Nat) (l:List D)
noncomputable abbrev ac:=List Cell
noncomputable abbrev af:=Str->Option D
noncomputable abbrev Res(α:Type):=Option (α×ac)
noncomputable abbrev aq:=List (Str×NameKind)
noncomputable def ah:Nat:=2^22
noncomputable def upd(ρ:af)(x:Str)(d:D):af:=λy=>if y=x then some d else ρ y
noncomputable def jt:D->Option Bool
 | .none=>some false
 | .bool b=>some b
 | .int i=>some (i !=0)
 | Y=>none
noncomputable def eqS(J:ac)(F:List D->List D->Option Bool)(a b:D):Option Bool:=match a with
 | .none=>match b with
  | .none=>some true
  | Y=>none
 | .bool x=>match b with
  | .bool y=>some (x==y)
  | .str Y=>some false
  | Y=>none
 | .int x=>match b with
  | .int y=>some (x==y)
  | .bool y=>some (x==(if y then 1 else 0:Int))
  | .str Y=>some false
  | Y=>none
 | .str x=>match b with
  | .str y=>some (x==y)
  | Y=>none
 | .tup x=>match b with
  | .tup y=>(F x y).map λe=>e&&x.length==y.length
  | .str Y=>some false
  | Y=>none
 | .loc i=>match b with
  | .loc j=>if i=j then none else match J[i]?,J[j]? with
   | some (.list x),some (.list y)=>if x.length==y.length then F x y else some false
   | Y,Z=>none
  | Y=>none
 | Y=>none
mutual
noncomputable def eqD(J:ac):Nat->D->D->Option Bool
 | 0,Y,Z=>none
 | n+1,a,b=>eqS J (eqL J n) a b
noncomputable def eqL(J:ac):Nat->List D->List D->Option Bool
 | 0,Y,Z=>none
 | n+1,x,y=>match x with
  | []=>some true
  | x::xs=>match y with
   | []=>some true
   | y::ys=>match eqD J n x y with
    | some a=>(eqL J n xs ys).map (a&& ·)
    | none=>none
end
noncomputable def gc:Nat:=64
noncomputable def atK{κ:Type}[DecidableEq κ](es:List (κ×D))(k:κ):Option D:=(es.find? λkv=>kv.1=k).map (·.2)
noncomputable def putK{κ:Type}[DecidableEq κ](es:List (κ×D))(k:κ)(v:D):List (κ×D):=
 if es.any (λkv=>kv.1=k) then es.map (λkv=>if kv.1=k then(kv.1,v) else kv) else es++ [(k,v)]
noncomputable def tx(s:Str):D->Option Bool
 | .str z=>some (s==z)
 | .none | .bool Y | .int Z | .tup U=>some false
 | Y=>none
noncomputable def iv(x:D):List D->Option Bool
 | []=>some false
 | z::r=>match z with
  | .str s=>(tx s x).bind λa=>(iv x r).map (a || ·)
  | Y=>none
noncomputable def inD(J:ac)(x:D):D->Option Bool
 | .tup l=>iv x l
 | .loc n=>match J[n]? with
  | some (.list l)=>iv x l
  | some (.dictI es)=>match x with
   | .int i=>some (atK es i).isSome
   | Y=>none
  | Y=>none
 | Y=>none
noncomputable def gz(J:ac)(x c:D):Option Bool:=match x,c with
 | .int i,.loc n=>match J[n]? with
  | some (.fset l)=>some (l.contains i)
  | Y=>none
 | Y,Z=>none
noncomputable def sy:D->Option Bool
 | .none=>some true
 | .bool Y | .int Z | .str U | .tup V | .loc N=>some false
 | Y=>none
noncomputable def kh(J:ac)(op:CmpOp)(a b:D):Option Bool:=match op with
 | .Eq=>eqD J gc a b
 | .NotEq=>(eqD J gc a b).map (!·)
 | .Lt=>match a,b with | .int x,.int y=>some (decide (x<y)) | _,_=>none
 | .LtE=>match a,b with | .int x,.int y=>some (decide (x<=y)) | _,_=>none
 | .Gt=>match a,b with | .int x,.int y=>some (decide (x>y)) | _,_=>none
 | .GtE=>match a,b with | .int x,.int y=>some (decide (x≥y)) | _,_=>none
 | .In=>match gz J a b with
  | some r=>some r
  | none=>inD J a b
 | .NotIn=>(inD J a b).map (!·)
 | .Is=>match b with | .none=>sy a | _=>none
 | .IsNot=>match b with | .none=>(sy a).map (!·) | _=>none
noncomputable def small(i:Int):Bool:=i.natAbs<2^63
noncomputable def rep{α:Type}(l:List α)(n:Nat):List α:=(List.replicate n l).flatten
noncomputable def binI(op:Operator)(x y:Int):Option Int:=match op with
 | .Add=>some (x+y)
 | .Sub=>some (x - y)
 | .Mult=>if small x || small y then some (x*y) else none
 | .FloorDiv=>if y≠0/\small y=true then some (x.fdiv y) else none
 | .Mod=>if y≠0/\small y=true then some (x.fmod y) else none
 | .Pow=>if x=10/\y=18 then some (10^18) else none
 | Y=>none
noncomputable def xd(J:ac)(op:Operator)(i j:Nat):Res D:=match op,J[i]?,J[j]? with
 | .Add,some (.list x),some (.list y)=>if x.length+y.length<=ah then some (.loc J.length,J++ [.list (x++y)]) else none
 | Y,Z,U=>none
noncomputable def xe(J:ac)(op:Operator)(i:Nat)(y:Int):Res D:=match op,J[i]? with
 | .Mult,some (.list x)=>if 0<=y/\y<=8/\x.length<=8 then some (.loc J.length,J++ [.list (rep x y.toNat)]) else none
 | Y,Z=>none
noncomputable def agt(op:Operator)(x y:List D):Option D:=match op with
 | .Add=>if x.length+y.length<=ah then some (.tup (x++y)) else none
 | Y=>none
noncomputable def agu(op:Operator)(x:List D)(y:Int):Option D:=match op with
 | .Mult=>if 1<y/\y<=8/\0<x.length/\x.length<=8 then some (.tup (rep x y.toNat)) else none
 | Y=>none
noncomputable def oq(J:ac)(op:Operator)(a b:D):Res D:=match a,b with
 | .int x,.int y=>(binI op x y).map λz=>(.int z,J)
 | .tup x,.tup y=>(agt op x y).map (·,J)
 | .tup x,.int y=>(agu op x y).map (·,J)
 | .loc i,.loc j=>xd J op i j
 | .loc i,.int y=>xe J op i y
 | Y,Z=>none
noncomputable def unD(op:UnaryOp)(J:ac)(a:D):Res D:=match op,a with
 | .USub,.int x=>some (.int (-x),J)
 | .Not,x=>(jt x).map λb=>(.bool (!b),J)
 | Y,Z=>none
noncomputable def idx{α:Type}(l:List α)(i:Int):Option α:=
 if small i=true then if 0<=i then l[i.toNat]? else if -(l.length:Int)<=i then l[(l.length+i).toNat]? else none else none
noncomputable def ki(J:ac)(o i:D):Res D:=match o,i with
 | .tup l,.int k=>(idx l k).map (·,J)
 | .loc n,i=>match J[n]?,i with
  | some (.list l),.int k=>(idx l k).map (·,J)
  | some (.fix Y Z l),.int k=>(idx l k).map (·,J)
  | some (.dictI es),.int k=>(atK es k).map (·,J)
  | some (.dictS es),.str k=>(atK es k).map (·,J)
  | Y,Z=>none
 | Y,Z=>none
noncomputable def agv(l:List D)(lo hi st:D):Option (List D):=match lo with
 | .none=>match hi with
  | .int b=>match st with
   | .none=>if 0<=b then some (l.take b.toNat) else none
   | Y=>none
  | .none=>match st with
   | .int k=>if k= -1 then some l.reverse else none
   | Y=>none
  | Y=>none
 | Y=>none
noncomputable def wi(l:List D)(lo hi st:D):Option (List D):=match st with
 | .none=>match lo with
  | .int a=>match hi with
   | .none=>if 1<=a/\a.toNat<=l.length then some (l.drop a.toNat) else none
   | .int b=>if 1<=a/\a<=b/\b.toNat<=l.length then some ((l.drop a.toNat).take (b.toNat - a.toNat)) else none
   | Y=>none
  | .none=>match hi with
   | .int b=>if 0<=b/\b.toNat<l.length then some (l.take b.toNat) else none
   | Y=>none
  | Y=>none
 | Y=>none
noncomputable def km(J:ac)(o lo hi st:D):Res D:=match o with
 | .tup l=>if l.length<=ah then(wi l lo hi st).map λr=>(.tup r,J) else none
 | .loc n=>match J[n]? with
  | some (.list l)=>if l.length<=ah then(agv l lo hi st).map λr=>(.loc J.length,J++ [.list r]) else none
  | Y=>none
 | Y=>none
noncomputable def dw(J:ac)(o i v:D):Option ac:=match o with
 | .loc n=>match J[n]? with
  | some (.list l)=>match i with
   | .int k=>if 0<=k/\small k=true/\k.toNat<l.length/\l.length<=ah then some (J.set n (.list (l.set k.toNat v))) else none
   | Y=>none
  | some (.dictI es)=>match i with
   | .int k=>if es.length<=ah then some (J.set n (.dictI (putK es k v))) else none
   | Y=>none
  | some (.dictS es)=>match i with
   | .str k=>if es.length<=ah then some (J.set n (.dictS (putK es k v))) else none
   | Y=>none
  | Y=>none
 | Y=>none
noncomputable abbrev KD:=D->ac->Prop
noncomputable abbrev KL:=List D->ac->Prop
noncomputable abbrev KT:=Bool->ac->Prop
noncomputable abbrev KS:=Option D->af->ac->Prop
structure Cx where
 glob:Str->Option D
 meth:Addr->Str->Option D
 attr:Addr->Str->Bool
 lamV:Str
 lamP:Str
 qT:Pos
 F:D->List D->ac->KD->Prop
 FL:D->List D->ac->KD->Prop
noncomputable def Wv{α:Type}(r:Option α)(K:α->Prop):Prop:=match r with
 | some a=>K a
 | none=>False
noncomputable def Wr{α:Type}(r:Option (α×ac))(Q:α->ac->Prop):Prop:=match r with
 | some p=>Q p.1 p.2
 | none=>False
structure Wk(W:KD->Prop)(Q:KD):Prop where
 p:W Q
noncomputable def Ki(A B:Prop):Bool->Prop
 | true=>A
 | false=>B
noncomputable def ao:D->Bool
 | .lam Y=>false
 | Y=>true
noncomputable def tz:D->Bool
 | .val Y | .lam Z=>false
 | Y=>true
noncomputable def fz(c:Cx)(J:ac)(o:D)(x:Str):Option D:=match o with
 | .loc n=>match J[n]? with
  | some (.inst C d)=>if c.attr C x then match J[d]? with
   | some (.dictS es)=>match atK es x with
    | some v=>if tz v then some v else none
    | none=>none
   | Y=>none
   else none
  | Y=>none
 | Y=>none
noncomputable def gg(c:Cx)(J:ac)(o:D)(x:Str)(v:D):Option ac:=match o with
 | .loc n=>match J[n]? with
  | some (.inst C d)=>if c.attr C x then match J[d]? with
   | some (.dictS es)=>if es.length<=64 then some (J.set d (.dictS (putK es x v))) else none
   | Y=>none
   else none
  | Y=>none
 | Y=>none
noncomputable def iw(x:Int):List Int->List Int
 | []=> [x]
 | y::r=>if x<=y then x::y::r else y::iw x r
noncomputable def sortI:List Int->List Int
 | []=> []
 | x::r=>iw x (sortI r)
noncomputable def intsOf:List D->Option (List Int)
 | []=>some []
 | .int i::r=>(intsOf r).map (i:: ·)
 | Y::Z=>none
noncomputable def am3:D->Option (Int×D)
 | .tup [.int k,v]=>some (k,v)
 | Y=>none
noncomputable def t6:List D->List (Int×D)->Option (List (Int×D))
 | [],acc=>some acc
 | d::r,acc=>(am3 d).bind λp=>t6 r (putK acc p.1 p.2)
noncomputable def t7:List (D×D)->List (Str×D)->Option (List (Str×D))
 | [],acc=>some acc
 | (.str k,v)::r,acc=>t7 r (putK acc k v)
 | Y::Z,U=>none
noncomputable def ko:List (D×D)->Option Cell
 | []=>some (.dictI [])
 | [(.int k,v)]=>some (.dictI [(k,v)])
 | ps=>(t7 ps []).map .dictS
noncomputable def am4:D->Option (Str×Int)
 | .tup [.str s,.int i]=>some (s,i)
 | Y=>none
noncomputable def mn:List D->Option (List (Str×Int))
 | []=>some []
 | d::r=>(am4 d).bind λp=>(mn r).map (p:: ·)
noncomputable def lenD(J:ac):D->Option Nat
 | .tup l=>if l.length<=ah then some l.length else none
 | .loc n=>match J[n]? with
  | some (.list l)=>if l.length<=ah then some l.length else none
  | some (.fix Y Z l)=>if l.length<=ah then some l.length else none
  | some (.dictI es)=>if es.length<=ah then some es.length else none
  | some (.set n)=>some n
  | Y=>none
 | Y=>none
noncomputable def yg:D->Option Bool
 | .tup Y=>some true
 | .none | .bool Y | .int Z | .str U=>some false
 | Y=>none
noncomputable def intD:D->Option Int
 | .int i=>some i
 | .bool b=>some (if b then 1 else 0)
 | Y=>none
noncomputable def nt(J:ac):D->Option (List D)
 | .tup l=>some l
 | .loc n=>match J[n]? with
  | some (.list l)=>if l.length<=ah then some l else none
  | Y=>none
 | Y=>none
noncomputable def aan(J:ac):D->Option (List D)
 | .tup l=>if l.length<=ah then some l else none
 | .loc n=>match J[n]? with
  | some (.list l)=>if l.length<=ah then some l else none
  | Y=>none
 | Y=>none
noncomputable def mo(J:ac):D->Option (List D)
 | .loc n=>match J[n]? with
  | some (.list l)=>(intsOf l).bind λis=>if l.length<64 then some ((sortI is).map .int) else none
  | Y=>none
 | Y=>none
noncomputable def xf(J:ac):D->Option (List (Int×D))
 | .loc n=>match J[n]? with
  | some (.list l)=>if l.length<=8 then t6 l [] else none
  | Y=>none
 | Y=>none
noncomputable def xg(J:ac):D->Option Int
 | .loc n=>match J[n]? with
  | some (.dictI [(i,Y)])=>some i
  | Y=>none
 | Y=>none
noncomputable def aff(J:ac):D->Option Nat
 | .loc n=>match J[n]? with
  | some (.list l)=>match mn l with
   | some ks=>if ks.Nodup/\l.length<=64 then some l.length else none
   | none=>none
  | Y=>none
 | Y=>none
noncomputable def arb:D->D->Option Int
 | .int a,.int b=>some (if b>a then b else a)
 | Y,Z=>none
noncomputable def arc:D->Option Int
 | .int i=>some i.natAbs
 | Y=>none
noncomputable def mk(J:ac)(c:Option Cell):Res D:=c.map λc=>(.loc J.length,J++ [c])
noncomputable def ot(id:String)(x:D)(J:ac):Res D:=
 if id="len" then(lenD J x).map λ(n:Nat)=>(D.int (n:Int),J)
 else if id="abs" then(arc x).map λi=>(.int i,J)
 else if id="sorted" then mk J ((mo J x).map .list)
 else none
noncomputable def t8(id:String)(x y:D)(J:ac):Res D:=
 if id="max" then(arb x y).map λi=>(.int i,J)
 else if id="isinstance" then match y with
  | .val (.type t)=>if t="tuple" then(yg x).map λb=>(.bool b,J) else none
  | Y=>none
 else none
noncomputable def iy(t:String)(x:D)(J:ac):Res D:=
 if t="int" then(intD x).map λi=>(.int i,J)
 else if t="tuple" then(nt J x).map λl=>(.tup l,J)
 else if t="list" then mk J ((aan J x).map .list)
 else if t="dict" then mk J ((xf J x).map .dictI)
 else if t="frozenset" then mk J ((xg J x).map λi=> .fset [i])
 else if t="set" then mk J ((aff J x).map .set)
 else none
noncomputable def cm(f:Value)(args:List D)(J:ac):Res D:=match f with
 | .builtin id=>match args with
  | [x]=>ot id x J
  | [x,y]=>t8 id x y J
  | Y=>none
 | .type t=>match args with
  | [x]=>iy t x J
  | Y=>none
 | Y=>none
@[reducible] noncomputable def yh(c:Cx)(f:D)(args:List D)(J:ac)(Q:KD):Prop:=match f with
 | .val v=>match v with
  | .ref a=>Wk (c.F (.val (.ref a)) args J) Q
  | f=>Wr (cm f args J) Q
 | .lam n=>Wk (c.F (.lam n) args J) Q
 | Y=>False
inductive nu where
 | fn (f:D)
 | blt (n:Nat)
noncomputable def fg(c:Cx)(J:ac)(o:D)(m:Str):Option nu:=match o with
 | .loc n=>match J[n]? with
  | some (.inst C d)=>match J[d]? with
   | some (.dictS es)=>match atK es m,c.meth C m with
    | none,some f=>some (.fn f)
    | Y,Z=>none
   | Y=>none
  | some (.list Y)=>if m="append"\/m="extend"\/m="pop" then some (.blt n) else none
  | some (.dictI Y)=>if m="get" then some (.blt n) else none
  | Y=>none
 | Y=>none
noncomputable def ji(m:Str)(n:Nat)(l:List D)(args:List D)(J:ac):Res D:=
 if m="append" then match args with
  | [x]=>if l.length<=ah/\ao x=true then some (.none,J.set n (.list (l++ [x]))) else none
  | Y=>none
 else if m="extend" then match args with
  | [.loc k]=>match J[k]? with
   | some (.list r)=>if k≠n/\l.length+r.length<=ah then some (.none,J.set n (.list (l++r))) else none
   | Y=>none
  | Y=>none
 else if m="pop" then match args with
  | []=>match l.getLast? with
   | some x=>if l.length<=ah then some (x,J.set n (.list l.dropLast)) else none
   | none=>none
  | Y=>none
 else none
noncomputable def t9(n:Nat)(m:Str)(args:List D)(J:ac):Res D:=match J[n]? with
  | some (.list l)=>ji m n l args J
  | some (.dictI es)=>if m="get" then match args with
    | [.int k,d]=>if ao d=true then some ((atK es k).getD d,J) else none
    | Y=>none
   else none
  | Y=>none
noncomputable def b9(x:Str):Bool:=x !="__debug__"&&x !="__classdict__"&&x !="super"
noncomputable def ce(c:Cx)(sc:aq)(ρ:af)(x:Str):Option D:=if b9 x then match sc.lookup x with
 | some .local | some .cell | some .free=>ρ x
 | some .globalImplicit=>c.glob x
 | Y=>none else none
noncomputable def nameP(c:Cx)(sc:aq)(ρ:af)(x:Str):Option D:=if x==c.lamP then none else ce c sc ρ x
noncomputable def cf(sc:aq)(x:Str):Bool:=match sc.lookup x with
 | some .local | some .cell=>true
 | Y=>false
noncomputable def asName(e:Expr):Option Str:=if h:e.ctorIdx=23 then Expr.Name.elim (motive_1:=λY=>_) e h λx Y=>some x else none
noncomputable def ad5(e:Expr):Option (List Expr):=if h:e.ctorIdx=25 then Expr.Tuple.elim (motive_1:=λY=>_) e h λes Y Z=>some es else none
noncomputable def am5(e:Expr):Option (Expr×Expr):=if h:e.ctorIdx=21 then Expr.Subscript.elim (motive_1:=λY=>_) e h λo i Y=>some (o,i) else none
noncomputable def kq(J:ac):D->Option (List D)
 | .tup ds=>some ds
 | .loc n=>match J[n]? with
  | some (.list ds)=>some ds
  | Y=>none
 | Y=>none
noncomputable def d7(sc:aq):List Expr->List D->af->Option af
 | [],ds,ρ=>match ds with
  | []=>some ρ
  | Y=>none
 | e::es,ds,ρ=>match ds with
  | []=>none
  | d::ds=>(asName e).bind λx=>if cf sc x then d7 sc es ds (upd ρ x d) else none
noncomputable def j7(sc:aq)(J:ac)(t:Expr)(d:D)(ρ:af):Option af:=match asName t with
 | some x=>if cf sc x then some (upd ρ x d) else none
 | none=>(ad5 t).bind λes=>(kq J d).bind λds=>d7 sc es ds ρ
inductive Src where
 | items (l:List D)
 | live (n:Nat)
 | enum (n:Nat)
noncomputable def aao(J:ac):D->Option Src
 | .tup l=>some (.items l)
 | .loc n=>match J[n]? with
  | some (.list Y)=>some (.live n)
  | Y=>none
 | Y=>none
noncomputable def ib(J:ac):Src->Nat
 | .items l=>l.length
 | .live n | .enum n=>match J[n]? with
  | some (.list l)=>l.length
  | Y=>0
noncomputable def ic(J:ac)(i:Nat):Src->Option (Option D)
 | .items l=>some l[i]?
 | .live n=>match J[n]? with
  | some (.list l)=>some l[i]?
  | Y=>none
 | .enum n=>match J[n]? with
  | some (.list l)=>some (l[i]?.map λd=> .tup [.int i,d])
  | Y=>none
noncomputable def gh(s:Src)(e:Expr):Bool:=match s with
 | .enum Y=>(ad5 e).isSome
 | Y=>true
noncomputable def ie(names:aq)(ρ:af):af:=λy=>match names.lookup y with
 | some .free=>ρ y
 | Y=>none
noncomputable def ju(sc:aq)(scope:Scope):Bool:=scope.kind==.function&&scope.names.all λx=>x.2 !=.cell&&(x.2 !=.local || scope.names.lookup x.1==some .local)&&
 (x.2 !=.free || (scope.names.lookup x.1==some .free&&(sc.lookup x.1==some .cell || sc.lookup x.1==some .free)))
noncomputable def kr(J:ac)(n:Nat)(x:D):Option ac:=match J[n]? with
 | some (.list l)=>if l.length<=ah then some (J.set n (.list (l++ [x]))) else none
 | Y=>none
noncomputable def am6(a b:Pos):Bool:=a.line==b.line&&a.col==b.col&&a.endLine==b.endLine&&a.endCol==b.endCol
noncomputable def aap(c:Cx)(sc:aq)(scope:Scope)(pos:Pos)(x p x':Str):Bool:=
 x'==x&&p !=x&&p==c.lamV&&am6 pos c.qT&&b9 p&&b9 x&&sc.lookup p==some .cell&&scope.kind==.function&& !scope.isGenerator&& !scope.isCoroutine&&
 scope.names.lookup x==some .local&&scope.names.lookup p==some .free&&(scope.names.all λy=>y.2 !=.cell)&&scope.names.filter (λy=>y.2==.free)==[(p,.free)]
noncomputable def argName:Arguments->Option (Str×Pos)
 | ⟨[],[⟨x,none,p⟩],none,[],[],none,[]⟩=>some (x,p)
 | Y=>none
noncomputable def aaq(b:Expr):Option (Str×Str):=(am5 b).bind λo=>(asName o.1).bind λx=>(asName o.2).map λy=>(x,y)
noncomputable def mq(c:Cx)(sc:aq)(ρ:af)(a:Arguments)(body:Expr)(scope:Scope)(pos:Pos):Option D:=(argName a).bind λx=>(aaq body).bind λpx=>
 if aap c sc scope pos x.1 px.1 px.2 then match ρ px.1 with
  | some (.loc n)=>some (.lam n)
  | Y=>none
 else none
noncomputable def sf(c:Cx)(sc:aq)(ρ:af)(e:Expr):Option D:=if h:e.ctorIdx=4 then Expr.Lambda.elim (motive_1:=λY=>_) e h (mq c sc ρ) else none
noncomputable def nv:Const->Option D
 | .none=>some .none
 | .bool b=>some (.bool b)
 | .int i=>some (.int i)
 | .str s=>some (.str s)
 | Y=>none
noncomputable def agw(e:Expr):Option D:=if h:e.ctorIdx=19 then Expr.Constant.elim (motive_1:=λY=>_) e h λk Y Z=>nv k else none
noncomputable def ig(e:Option Expr):Option D:=e.bind agw
@[reducible] noncomputable def kB2(op:Operator)(a:D)(Q:KD):KD:=λb s=>Wr (oq s op a b) Q
@[reducible] noncomputable def kB1(f:af->ac->KD->Prop)(op:Operator)(ρ:af)(Q:KD):KD:=λa s=>f ρ s (kB2 op a Q)
@[reducible] noncomputable def kUn(op:UnaryOp)(Q:KD):KD:=λa s=>Wr (unD op s a) Q
@[reducible] noncomputable def kBl(Q:KD):KT:=λb s=>Q (.bool b) s
@[reducible] noncomputable def kC1(f:D->af->ac->KT->Prop)(ρ:af)(Q:KT):KD:=λa s=>f a ρ s Q
@[reducible] noncomputable def kIE(f g:af->ac->KD->Prop)(ρ:af)(Q:KD):KT:=λb s=>Ki (f ρ s Q) (g ρ s Q) b
@[reducible] noncomputable def kTu(Q:KD):KL:=λds s=>Q (.tup ds) s
@[reducible] noncomputable def kLi(Q:KD):KL:=λds s=>Q (.loc s.length) (s++ [.list ds])
@[reducible] noncomputable def kNw(s:ac)(Q:KD):Cell->Prop:=λc=>Q (.loc s.length) (s++ [c])
@[reducible] noncomputable def kDi(Q:KD):List (D×D)->ac->Prop:=λps s=>Wv (ko ps) (kNw s Q)
@[reducible] noncomputable def kV{α:Type}(Q:α->ac->Prop)(s:ac):α->Prop:=λv=>Q v s
@[reducible] noncomputable def kAt(c:Cx)(x:Str)(Q:KD):KD:=λo s=>Wv (fz c s o x) (kV Q s)
@[reducible] noncomputable def kS4(o a b:D)(Q:KD):KD:=λk s=>Wr (km s o a b k) Q
@[reducible] noncomputable def kS3(o a:D)(h:af->ac->KD->Prop)(ρ:af)(Q:KD):KD:=λb s=>h ρ s (kS4 o a b Q)
@[reducible] noncomputable def kS2(o:D)(g h:af->ac->KD->Prop)(ρ:af)(Q:KD):KD:=λa s=>g ρ s (kS3 o a h ρ Q)
@[reducible] noncomputable def kS1(f g h:af->ac->KD->Prop)(ρ:af)(Q:KD):KD:=λo s=>f ρ s (kS2 o g h ρ Q)
@[reducible] noncomputable def kI2(o:D)(Q:KD):KD:=λi s=>Wr (ki s o i) Q
@[reducible] noncomputable def kI1(f:af->ac->KD->Prop)(ρ:af)(Q:KD):KD:=λo s=>f ρ s (kI2 o Q)
@[reducible] noncomputable def mtW(c:Cx)(k:nu)(o:D)(m:Str)(args:List D)(J:ac)(Q:KD):Prop:=match k with
 | .fn f=>Wk (c.F f (o::args) J) Q
 | .blt n=>Wr (t9 n m args J) Q
@[reducible] noncomputable def kM3(c:Cx)(k:nu)(o:D)(m:Str)(Q:KD):KL:=λas s=>mtW c k o m as s Q
@[reducible] noncomputable def kM2(c:Cx)(f:af->ac->KL->Prop)(o:D)(m:Str)(s:ac)(ρ:af)(Q:KD):nu->Prop:=λk=>f ρ s (kM3 c k o m Q)
@[reducible] noncomputable def kM1(c:Cx)(f:af->ac->KL->Prop)(m:Str)(ρ:af)(Q:KD):KD:=λo s=>Wv (fg c s o m) (kM2 c f o m s ρ Q)
@[reducible] noncomputable def kF2(c:Cx)(fv:D)(Q:KD):KL:=λas s=>yh c fv as s Q
@[reducible] noncomputable def kF1(c:Cx)(f:af->ac->KL->Prop)(ρ:af)(J:ac)(Q:KD):D->Prop:=λfv=>f ρ J (kF2 c fv Q)
@[reducible] noncomputable def kL2(c:Cx)(fv:D)(Q:KD):KL:=λas s=>match fv with
 | .val (.ref a)=>Wk (c.FL (.val (.ref a)) as s) Q
 | Y=>False
@[reducible] noncomputable def kL1(c:Cx)(f:af->ac->KL->Prop)(ρ:af)(J:ac)(Q:KD):D->Prop:=λfv=>f ρ J (kL2 c fv Q)
noncomputable def uT:UnaryOp->Bool
 | .Not=>false
 | Y=>true
noncomputable def aar(e:Expr):Bool:=Nat.beq e.ctorIdx 4
noncomputable def noStar(e:Expr):Bool:=!Nat.beq e.ctorIdx 22
noncomputable def ua(e:Expr):Bool:=Nat.beq e.ctorIdx 8
noncomputable def ku(e:Expr):Bool:=!Nat.beq e.ctorIdx 26
noncomputable def afg(e:Expr):Bool:=if h:e.ctorIdx=3 then Expr.UnaryOp.elim (motive_1:=λY=>_) e h λop Y Z=>uT op else !(Nat.beq e.ctorIdx 0 || (Nat.beq e.ctorIdx 5 || Nat.beq e.ctorIdx 15))
@[reducible] noncomputable def kG1(c:Cx)(f:af->ac->KL->Prop)(ρ:af)(Q:KD):KD:=λfv s=>f ρ s (kF2 c fv Q)
@[reducible] noncomputable def kE2(d:D)(Q:KL):KL:=λds s=>Q (d::ds) s
@[reducible] noncomputable def kE1(f:af->ac->KL->Prop)(ρ:af)(Q:KL):KD:=λd s=>f ρ s (kE2 d Q)
@[reducible] noncomputable def kP2(a b:D)(Q:List (D×D)->ac->Prop):List (D×D)->ac->Prop:=λps s=>Q ((a,b)::ps) s
@[reducible] noncomputable def kP1(a:D)(f:af->ac->(List (D×D)->ac->Prop)->Prop)(ρ:af)(Q:List (D×D)->ac->Prop):KD:=λb s=>f ρ s (kP2 a b Q)
@[reducible] noncomputable def kO2(op:BoolOp)(d:D)(s:ac)(p:Prop)(Q:KD):Bool->Prop:=λt=>match op with
 | .And=>Ki p (Q d s) t
 | .Or=>Ki (Q d s) p t
@[reducible] noncomputable def kO1(op:BoolOp)(f:af->ac->KD->Prop)(ρ:af)(Q:KD):KD:=λd s=>Wv (jt d) (kO2 op d s (f ρ s Q) Q)
@[reducible] noncomputable def kH1(op:CmpOp)(a:D)(Q:KT):KD:=λb s=>Wv (kh s op a b) (kV Q s)
@[reducible] noncomputable def kIn(a:D)(Q:KT):KL:=λds s=>Wv (iv a ds) (kV Q (s++ [.list ds]))
@[reducible] noncomputable def kH3(f:D->af->ac->KT->Prop)(b:D)(s:ac)(ρ:af)(Q:KT):Bool->Prop:=λt=>Ki (f b ρ s Q) (Q false s) t
@[reducible] noncomputable def kH2(op:CmpOp)(a:D)(f:D->af->ac->KT->Prop)(ρ:af)(Q:KT):KD:=λb s=>Wv (kh s op a b) (kH3 f b s ρ Q)
@[reducible] noncomputable def kNo(Q:KT):KT:=λb s=>Q (!b) s
@[reducible] noncomputable def kTI(f g:af->ac->KT->Prop)(ρ:af)(Q:KT):KT:=λb s=>Ki (f ρ s Q) (g ρ s Q) b
@[reducible] noncomputable def kTr(Q:KT):KD:=λd s=>Wv (jt d) (kV Q s)
@[reducible] noncomputable def kAl(op:BoolOp)(f:af->ac->KT->Prop)(ρ:af)(Q:KT):KT:=λb s=>match op with
 | .And=>Ki (f ρ s Q) (Q false s) b
 | .Or=>Ki (Q true s) (f ρ s Q) b
@[reducible] noncomputable def an7(f:af->ac->KT->Prop)(ρ:af)(Q:KT):KT:=λb s=>Ki (f ρ s Q) (Q false s) b
@[reducible] noncomputable def kSr(Q:Src->ac->Prop):KD:=λd s=>Wv (aao s d) (kV Q s)
@[reducible] noncomputable def kRg(Q:Src->ac->Prop):KD:=λd s=>match d with
 | .int n=>Ki (Q (.items ((List.range n.toNat).map λi:Nat=>D.int (i:Int))) s) False (decide (-4096<=n)&&decide (n<=4096))
 | Y=>False
@[reducible] noncomputable def kEn(Q:Src->ac->Prop):KD:=λd s=>match d with
 | .loc n=>Wv (match s[n]? with
  | some (.list Y)=>some ()
  | Y=>none) λY=>Q (.enum n) s
 | Y=>False
@[reducible] noncomputable def Kt(again:af->ac->KS->Prop)(Q:KS):KS:=λo ρ s=>match o with
 | none=>again ρ s Q
 | some d=>Q (some d) ρ s
@[reducible] noncomputable def tuN(step:D->af->ac->KS->Prop)(again:af->ac->KS->Prop)(ρ:af)(J:ac)(Q:KS):Option D->Prop:=λx=>match x with
 | none=>Q none ρ J
 | some x=>step x ρ J (Kt again Q)
@[irreducible] noncomputable def turns(src:Src)(step:D->af->ac->KS->Prop):Nat->Nat->af->ac->KS->Prop
 | 0,Y,Z,U,V=>False
 | fuel+1,i,ρ,J,Q=>Wv (ic J i src) (tuN step (turns src step fuel (i+1)) ρ J Q)
@[reducible] noncomputable def kWh(body again:af->ac->KS->Prop)(ρ:af)(Q:KS):KT:=λb s=>Ki (body ρ s (Kt again Q)) (Q none ρ s) b
@[irreducible] noncomputable def ii(test:af->ac->KT->Prop)(body:af->ac->KS->Prop):Nat->af->ac->KS->Prop
 | 0,Y,Z,U=>False
 | fuel+1,ρ,J,Q=>test ρ J (kWh body (ii test body fuel) ρ Q)
@[reducible] noncomputable def kC4(ρ:af)(Q:KS):ac->Prop:=λs=>Q none ρ s
@[reducible] noncomputable def kC3(na:Nat)(ρ:af)(Q:KS):KD:=λy s=>Wv (kr s na y) (kC4 ρ Q)
@[reducible] noncomputable def kC2(elt:af->ac->KD->Prop)(na:Nat)(ρ:af)(Q:KS):KT:=λb s=>Ki (elt ρ s (kC3 na ρ Q)) (Q none ρ s) b
@[reducible] noncomputable def cpN(ifs:af->ac->KT->Prop)(elt:af->ac->KD->Prop)(na:Nat)(J:ac)(Q:KS):af->Prop:=λρ=>ifs ρ J (kC2 elt na ρ Q)
@[reducible] noncomputable def jj(sc':aq)(t:Expr)(ifs:af->ac->KT->Prop)(elt:af->ac->KD->Prop)(na:Nat)(x:D)(ρ:af)(J:ac)(Q:KS):Prop:=Wv (j7 sc' J t x ρ) (cpN ifs elt na J Q)
@[reducible] noncomputable def kCE(l:Nat)(Q:KD):KS:=λo Y s=>match o with
 | none=>Q (.loc l) s
 | some Y=>False
@[reducible] noncomputable def kCp(sc':aq)(t:Expr)(ifs:af->ac->KT->Prop)(elt:af->ac->KD->Prop)(ρ:af)(Q:KD):Src->ac->Prop:=λsrc s=>Ki (turns src (jj sc' t ifs elt s.length) (ib s src+1) 0 (ie sc' ρ) (s++ [.list []]) (kCE s.length Q)) False (gh src t)
noncomputable def yi(ks:List (Option Expr))(vs:List Expr):Bool:=Nat.ble ks.length 15&&(ks.all Option.isSome&&Nat.beq ks.length vs.length)
mutual
@[irreducible] noncomputable def vE(c:Cx)(sc:aq):Expr->af->ac->KD->Prop
 | .Constant k Y Z,U,J,Q=>Wv (nv k) (kV Q J)
 | .Name x Y,ρ,J,Q=>Wv (nameP c sc ρ x) (kV Q J)
 | .BinOp l op r Y,ρ,J,Q=>vE c sc l ρ J (kB1 (vE c sc r) op ρ Q)
 | .UnaryOp op x Y,ρ,J,Q=>vE c sc x ρ J (kUn op Q)
 | .BoolOp op es Y,ρ,J,Q=>vBool c sc op es ρ J Q
 | .Compare l ops rs Y,ρ,J,Q=>vE c sc l ρ J (kC1 (cp c sc ops rs) ρ (kBl Q))
 | .IfExp t b o Y,ρ,J,Q=>vT c sc t (vE c sc t) ρ J (kIE (vE c sc b) (vE c sc o) ρ Q)
 | .Tuple es Y Z,ρ,J,Q=>Ki (vEs c sc es ρ J (kTu Q)) False (Nat.ble es.length 64)
 | .List es Y,ρ,J,Q=>Ki (vEs c sc es ρ J (kLi Q)) False (Nat.ble es.length 64)
 | .Dict ks vs Y,ρ,J,Q=>Ki (jb c sc ks vs ρ J (kDi Q)) False (yi ks vs)
 | .Attribute e x Y,ρ,J,Q=>vE c sc e ρ J (kAt c x Q)
 | .Subscript e (.Slice lo hi st Y) Z,ρ,J,Q=>vE c sc e ρ J (kS1 (vO c sc lo) (vO c sc hi) (vO c sc st) ρ Q)
 | .Subscript e i Y,ρ,J,Q=>vE c sc e ρ J (kI1 (vE c sc i) ρ Q)
 | .Call (.Attribute o m ap) args [] p,ρ,J,Q=>Ki (vE c sc o ρ J (kM1 c (vEs c sc args) m ρ Q)) False (Nat.beq ap.endLine p.line&&(Nat.blt args.length 20&&args.all noStar))
 | .Call (.Name x Y) args [] Z,ρ,J,Q=>Ki (Ki (Wv (ce c sc ρ x) (kL1 c (iz c sc args) ρ J Q)) (Wv (ce c sc ρ x) (kF1 c (vEs c sc args) ρ J Q)) (args.any aar)) False (args.all noStar)
 | .Call (.Subscript e i Y) args [] Z,ρ,J,Q=>Ki (vE c sc e ρ J (kI1 (vE c sc i) ρ (kG1 c (vEs c sc args) ρ Q))) False (args.all noStar)
 | .ListComp elt gs scope Y,ρ,J,Q=>Ki (ad6 c sc scope.names gs (vE c scope.names elt) ρ J Q) False (ju sc scope)
 | Y,Z,U,V=>False
termination_by structural x=>x
@[irreducible] noncomputable def vO(c:Cx)(sc:aq):Option Expr->af->ac->KD->Prop
 | none,Y,J,Q=>Q .none J
 | some e,ρ,J,Q=>vE c sc e ρ J Q
termination_by structural x=>x
@[irreducible] noncomputable def vEs(c:Cx)(sc:aq):List Expr->af->ac->KL->Prop
 | [],Y,J,Q=>Q [] J
 | e::es,ρ,J,Q=>vE c sc e ρ J (kE1 (vEs c sc es) ρ Q)
termination_by structural x=>x
@[irreducible] noncomputable def iz(c:Cx)(sc:aq):List Expr->af->ac->KL->Prop
 | [],Y,J,Q=>Q [] J
 | e::es,ρ,J,Q=>match sf c sc ρ e with
  | some l=>iz c sc es ρ J (kE2 l Q)
  | none=>vE c sc e ρ J (kE1 (iz c sc es) ρ Q)
termination_by structural x=>x
@[irreducible] noncomputable def jb(c:Cx)(sc:aq):List (Option Expr)->List Expr->af->ac->(List (D×D)->ac->Prop)->Prop
 | [],[],Y,J,Q=>Q [] J
 | k::ks,v::vs,ρ,J,Q=>Wv (ig k) λa=>vE c sc v ρ J (kP1 a (jb c sc ks vs) ρ Q)
 | Y,Z,U,V,N=>False
termination_by structural _ vs=>vs
@[irreducible] noncomputable def vBool(c:Cx)(sc:aq)(op:BoolOp):List Expr->af->ac->KD->Prop
 | [],Y,Z,U=>False
 | [e],ρ,J,Q=>vE c sc e ρ J Q
 | e::es,ρ,J,Q=>vE c sc e ρ J (kO1 op (vBool c sc op es) ρ Q)
termination_by structural x=>x
@[irreducible] noncomputable def cp(c:Cx)(sc:aq):List CmpOp->List Expr->D->af->ac->KT->Prop
 | [.In],[.List es Y],a,ρ,J,Q=>Ki (vEs c sc es ρ J (kIn a Q)) False (Nat.ble es.length 64)
 | [op],[r],a,ρ,J,Q=>vE c sc r ρ J (kH1 op a Q)
 | op::ops,r::rs,a,ρ,J,Q=>vE c sc r ρ J (kH2 op a (cp c sc ops rs) ρ Q)
 | Y,Z,U,V,N,O=>False
termination_by structural _ x=>x
@[irreducible] noncomputable def vT(c:Cx)(sc:aq):Expr->(af->ac->KD->Prop)->af->ac->KT->Prop
 | .UnaryOp .Not x Y,Z,ρ,J,Q=>vT c sc x (vE c sc x) ρ J (kNo Q)
 | .BoolOp op es Y,Z,ρ,J,Q=>yj c sc op es ρ J Q
 | .IfExp t b o Y,Z,ρ,J,Q=>vT c sc t (vE c sc t) ρ J (kTI (vT c sc b (vE c sc b)) (vT c sc o (vE c sc o)) ρ Q)
 | .Compare l ops rs Y,Z,ρ,J,Q=>vE c sc l ρ J (kC1 (cp c sc ops rs) ρ Q)
 | Y,whole,ρ,J,Q=>whole ρ J (kTr Q)
termination_by structural x=>x
@[irreducible] noncomputable def yj(c:Cx)(sc:aq)(op:BoolOp):List Expr->af->ac->KT->Prop
 | [],Y,J,Q=>Q (match op with | .And=>true | .Or=>false) J
 | e::es,ρ,J,Q=>vT c sc e (vE c sc e) ρ J (kAl op (yj c sc op es) ρ Q)
termination_by structural x=>x
@[irreducible] noncomputable def qu(c:Cx)(sc:aq):List Expr->af->ac->KT->Prop
 | [],Y,J,Q=>Q true J
 | e::es,ρ,J,Q=>vT c sc e (vE c sc e) ρ J (an7 (qu c sc es) ρ Q)
termination_by structural x=>x
@[irreducible] noncomputable def ny(c:Cx)(sc:aq):Expr->(af->ac->KD->Prop)->af->ac->(Src->ac->Prop)->Prop
 | .Call (.Name f Y) [e] [] Z,whole,ρ,J,Q=>match ce c sc ρ f with
  | some (.val (.type t))=>Ki (vE c sc e ρ J (kRg Q)) (Ki (vE c sc e ρ J (kEn Q)) False (t=="enumerate")) (t=="range")
  | Y=>whole ρ J (kSr Q)
 | Y,whole,ρ,J,Q=>whole ρ J (kSr Q)
termination_by structural x=>x
@[irreducible] noncomputable def ad6(c:Cx)(sc sc':aq):List Comprehension->(af->ac->KD->Prop)->af->ac->KD->Prop
 | [⟨t,iter,ifs,0⟩],elt,ρ,J,Q=>ny c sc iter (vE c sc iter) ρ J (kCp sc' t (qu c sc' ifs) elt ρ Q)
 | Y,Z,U,V,N=>False
termination_by structural x=>x
end
noncomputable def qw:Nat:=4096
@[reducible] noncomputable def kAA(c:Cx)(x:Str)(v:D)(ρ:af)(Q:KS):KD:=λo s=>Wv (gg c s o x v) (kC4 ρ Q)
@[reducible] noncomputable def kAI2(o v:D)(ρ:af)(Q:KS):KD:=λi s=>Wv (dw s o i v) (kC4 ρ Q)
@[reducible] noncomputable def an8(f:af->ac->KD->Prop)(v:D)(ρ:af)(Q:KS):KD:=λo s=>f ρ s (kAI2 o v ρ Q)
@[reducible] noncomputable def kAT(J:ac)(Q:KS):af->Prop:=λρ=>Q none ρ J
@[reducible] noncomputable def fk(c:Cx)(sc:aq)(t:Expr)(v:D)(ρ:af)(J:ac)(Q:KS):Prop:=if h:t.ctorIdx=23 then Expr.Name.elim (motive_1:=λY=>_) t h λx Y=>Ki (Q none (upd ρ x v) J) False (cf sc x)
 else if t.ctorIdx=25 then Wv (j7 sc J t v ρ) (kAT J Q)
 else if h:t.ctorIdx=20 then Expr.Attribute.elim (motive_1:=λY=>_) t h λo x Y=>vE c sc o ρ J (kAA c x v ρ Q)
 else if h:t.ctorIdx=21 then Expr.Subscript.elim (motive_1:=λY=>_) t h λo i Y=>vE c sc o ρ J (an8 (vE c sc i) v ρ Q) else False
@[reducible] noncomputable def kAs(f:D->af->ac->KS->Prop)(ρ:af)(Q:KS):KD:=λd s=>f d ρ s Q
noncomputable def ou(t e:Expr):Bool:=match t,e with
 | .Tuple ..,.Tuple vs Y Z=>vs.all (foldedForSure 8) || !vs.all (constantsAlone 8)
 | Y,Z=>true
@[reducible] noncomputable def kRt(ρ:af)(Q:KS):KD:=λd s=>Q (some d) ρ s
@[reducible] noncomputable def kEx(ρ:af)(Q:KS):KD:=λY s=>Q none ρ s
@[reducible] noncomputable def kSI(f g:af->ac->KS->Prop)(ρ:af)(Q:KS):KT:=λb s=>Ki (f ρ s Q) (g ρ s Q) b
@[reducible] noncomputable def Kb(f:af->ac->KS->Prop)(Q:KS):KS:=λo ρ s=>match o with
 | none=>f ρ s Q
 | some d=>Q (some d) ρ s
@[reducible] noncomputable def fsN(b:af->ac->KS->Prop)(J:ac)(Q:KS):af->Prop:=λρ=>b ρ J Q
@[reducible] noncomputable def i3(sc:aq)(t:Expr)(b:af->ac->KS->Prop)(x:D)(ρ:af)(J:ac)(Q:KS):Prop:=Wv (j7 sc J t x ρ) (fsN b J Q)
@[reducible] noncomputable def kFo(sc:aq)(t:Expr)(b:af->ac->KS->Prop)(ρ:af)(Q:KS):Src->ac->Prop:=λsrc s=>Ki (turns src (i3 sc t b) (ib s src+1) 0 ρ s Q) False (gh src t)
mutual
@[irreducible] noncomputable def vS(c:Cx)(sc:aq):Stmt->af->ac->KS->Prop
 | .Pass Y,ρ,J,Q=>Q none ρ J
 | .Return none Y,ρ,J,Q=>Q (some .none) ρ J
 | .Return (some e) Y,ρ,J,Q=>vE c sc e ρ J (kRt ρ Q)
 | .Expr e Y,ρ,J,Q=>Ki False (vE c sc e ρ J (kEx ρ Q)) (ua e)
 | .Assign [t] e Y,ρ,J,Q=>Ki (vE c sc e ρ J (kAs (fk c sc t) ρ Q)) False (ou t e)
 | .If t b o Y,ρ,J,Q=>vT c sc t (vE c sc t) ρ J (kSI (vB c sc b) (vB c sc o) ρ Q)
 | .For t it b [] Y,ρ,J,Q=>ny c sc it (vE c sc it) ρ J (kFo sc t (vB c sc b) ρ Q)
 | .While t b [] Y,ρ,J,Q=>ii (vT c sc t (vE c sc t)) (vB c sc b) qw ρ J Q
 | Y,Z,U,V=>False
termination_by structural x=>x
@[irreducible] noncomputable def vB(c:Cx)(sc:aq):List Stmt->af->ac->KS->Prop
 | [],ρ,J,Q=>Q none ρ J
 | s::r,ρ,J,Q=>vS c sc s ρ J (Kb (vB c sc r) Q)
termination_by structural x=>x
end
structure Fn where
 params:List Str
 defaults:List D
 body:List Stmt
 names:aq
inductive Callee where
 | fn (f:Fn)
 | cls (init:Addr)
structure Tab where
 glob:Str->Option D
 meth:Addr->Str->Option D
 attr:Addr->Str->Bool
 lamV:Str
 lamP:Str
 qT:Pos
 callee:Addr->Option Callee
noncomputable def jk(f:Fn)(args:List D):Option (List (Str×D)):=
 if args.length<=f.params.length/\f.params.length - f.defaults.length<=args.length then
  some (f.params.zip (args++f.defaults.drop (args.length+f.defaults.length - f.params.length)))
 else none
noncomputable def i4(bs:List (Str×D)):af:=λx=>bs.lookup x
@[reducible] noncomputable def Kr(Q:KD):KS:=λo Y s=>match o with
 | none=>Q .none s
 | some d=>Q d s
@[reducible] noncomputable def rnN(f:af->ac->KS->Prop)(J:ac)(Q:KD):List (Str×D)->Prop:=λbs=>f (i4 bs) J (Kr Q)
@[reducible] noncomputable def agx(c:Cx)(f:Fn)(args:List D)(J:ac)(Q:KD):Prop:=Wv (jk f args) (rnN (vB c f.names f.body) J Q)
@[reducible] noncomputable def kCl(l:Nat)(Q:KD):KD:=λd s=>d=.none/\Q (.loc l) s
@[reducible] noncomputable def cxF(T:Tab)(F:Bool->D->List D->ac->KD->Prop):Cx:=⟨T.glob,T.meth,T.attr,T.lamV,T.lamP,T.qT,F false,F true⟩
noncomputable def jv(p:Str):List Str->List D->Bool
 | x::xs,d::ds=>(match d with
  | .lam Y=>x==p
  | Y=>true)&&jv p xs ds
 | Y,Z=>true
@[reducible] noncomputable def clW(T:Tab)(F:Bool->D->List D->ac->KD->Prop)(b:Bool)(a:Addr)(args:List D)(J:ac)(Q:KD):Callee->Prop
 | .fn f=>match b with
  | true=>Ki (agx (cxF T F) f args J Q) False (jv T.lamP f.params args)
  | false=>agx (cxF T F) f args J Q
 | .cls i=>match b with
  | true=>False
  | false=>Wk (F false (.val (.ref i)) (.loc (J.length+1)::args) (J++ [.dictS [],.inst a J.length])) (kCl (J.length+1) Q)
@[irreducible] noncomputable def jl(T:Tab):Nat->Bool->D->List D->ac->KD->Prop
 | 0,Y,Z,U,V,N=>False
 | n+1,b,.val (.ref a),args,J,Q=>Wv (T.callee a) (clW T (jl T n) b a args J Q)
 | Y+1,Z,.lam l,[k],J,Q=>Wr (ki J (.loc l) k) Q
 | Y+1,Z,U,V,N,O=>False
noncomputable abbrev ak(T:Tab)(n:Nat):D->List D->ac->KD->Prop:=jl T n false
noncomputable abbrev d8(T:Tab)(n:Nat):Cx:=cxF T (jl T n)
end
section
open PySem PySem.W PyProof.Rows
noncomputable def isTup(o:Obj):Prop:=o.cls=.type "tuple"/\∃vs n,o.data=.seq vs n
mutual
noncomputable def Rep(h:Heap)(mu:List Addr):Value->D->Prop
 | v,.none=>v=.none
 | v,.bool b=>v=.bool b
 | v,.int i=> ∃t,v=.int i t
 | v,.str s=> ∃t,v=.str s t
 | v,.tup ds=> ∃a vs,v=.ref a/\h.IsTuple a vs/\av h mu vs.toList ds
 | v,.loc l=> ∃a,v=.ref a/\mu[l]?=some a
 | v,.val u=>v=u
 | Y,.lam Z=>False
termination_by structural _ d=>d
noncomputable def av(h:Heap)(mu:List Addr):List Value->List D->Prop
 | vs,[]=>vs=[]
 | vs,d::ds=> ∃v ws,vs=v::ws/\Rep h mu v d/\av h mu ws ds
termination_by structural _ ds=>ds
end
section
variable{h:Heap}{mu:List Addr}{v:Value}{d:D}{vs:List Value}{ds:List D}
theorem Rep.none:Rep h mu .none .none:=rfl
theorem Rep.bool(b:Bool):Rep h mu (.bool b) (.bool b):=rfl
theorem Rep.int(i:Int)(t:Tok):Rep h mu (.int i t) (.int i):=⟨t,rfl⟩
theorem Rep.str(s:Str)(t:Tok):Rep h mu (.str s t) (.str s):=⟨t,rfl⟩
theorem Rep.tup{a:Addr}{vs:Array Value}(x:h.IsTuple a vs)(r:av h mu vs.toList ds):Rep h mu (.ref a) (.tup ds):=⟨a,vs,rfl,x,r⟩
theorem Rep.loc{a:Addr}{l:Nat}(e:mu[l]?=some a):Rep h mu (.ref a) (.loc l):=⟨a,rfl,e⟩
theorem Rep.val(v:Value):Rep h mu v (.val v):=rfl
theorem av.nil:av h mu [] []:=rfl
theorem av.cons(r:Rep h mu v d)(q:av h mu vs ds):av h mu (v::vs) (d::ds):=⟨v,vs,rfl,r,q⟩
theorem Rep.qM{i:Int}(r:Rep h mu v (.int i)):∃t,v=.int i t:=r
theorem Rep.qD{i:Bool}(r:Rep h mu v (.bool i)):v=.bool i:=r
theorem Rep.wA{i:Str}(r:Rep h mu v (.str i)):∃t,v=.str i t:=r
theorem Rep.qG(r:Rep h mu v .none):v=.none:=r
theorem Rep.qZ{u:Value}(r:Rep h mu v (.val u)):v=u:=r
theorem Rep.qL(r:Rep h mu v (.tup ds)):∃a vs,v=.ref a/\h.IsTuple a vs/\av h mu vs.toList ds:=r
theorem Rep.qU{l:Nat}(r:Rep h mu v (.loc l)):∃a,v=.ref a/\mu[l]?=some a:=r
theorem av.inv(r:av h mu vs (d::ds)):∃v ws,vs=v::ws/\Rep h mu v d/\av h mu ws ds:=r
theorem av.inv0(r:av h mu vs []):vs=[]:=r
end
theorem Heap.IsTuple.obj{h:Heap}{a:Addr}{vs:Array Value}(x:h.IsTuple a vs):∃o,h.get? a=some o/\isTup o:=
 let⟨o,e,c,n,d⟩:=x;⟨o,e,c,vs,n,d⟩
noncomputable def bv(h h':Heap):Prop:=∀b o,h.get? b=some o->isTup o->h'.get? b=some o
theorem bv.tup{h h':Heap}{a:Addr}{vs:Array Value}(x:bv h h')(t:h.IsTuple a vs):h'.IsTuple a vs:=
 let⟨o,e,c,n,d⟩:=t;⟨o,x a o e ⟨c,vs,n,d⟩,c,n,d⟩
theorem kx{α:Type}{l t:List α}{i:Nat}{a:α}(e:l[i]?=some a):(l++t)[i]?=some a:=(List.getElem?_append_left (yS e).1).trans e
mutual
theorem Rep.mono{h h':Heap}{mu t:List Addr}(k:bv h h'){v:Value}:∀{d:D},Rep h mu v d->Rep h' (mu++t) v d
 | .none,r | .bool Y,r | .int Z,r | .str U,r | .val V,r | .lam N,r=>r
 | .tup Y,r=>by obtain⟨a,vs,e,x,q⟩:=r;exact⟨a,vs,e,k.tup x,av.mono k q⟩
 | .loc Y,r=>by obtain⟨a,e,q⟩:=r;exact⟨a,e,kx q⟩
theorem av.mono{h h':Heap}{mu t:List Addr}(k:bv h h'):∀{vs:List Value} {ds:List D},av h mu vs ds->av h' (mu++t) vs ds
 | Y,[],r=>r
 | Y,Z::U,r=>by obtain⟨v,ws,e,a,q⟩:=r;exact⟨v,ws,e,Rep.mono k a,av.mono k q⟩
end
section
variable{h h':Heap}{mu:List Addr}
theorem Rep.keep(k:bv h h'){v:Value}{d:D}(r:Rep h mu v d):Rep h' mu v d:=List.append_nil mu▸r.mono (t:=[]) k
theorem av.keep(k:bv h h'){vs:List Value}{ds:List D}(r:av h mu vs ds):av h' mu vs ds:=List.append_nil mu▸r.mono (t:=[]) k
theorem av.length:∀{ds:List D} {vs:List Value},av h mu vs ds->vs.length=ds.length
 | [],Y,r=>congrArg List.length r
 | Y::Z,U,r=>by obtain⟨_,_,e,_,q⟩:=r;exact(congrArg List.length e).trans (congrArg Nat.succ q.length)
theorem av.size{ds:List D}{vs:Array Value}(r:av h mu vs.toList ds):vs.size=ds.length:=(yF).symm.trans r.length
theorem av.get:∀{ds:List D} {vs:List Value},av h mu vs ds->∀(i:Nat) (d:D),ds[i]?=some d->∃v,vs[i]?=some v/\Rep h mu v d
 | Y::Z,U,r,0,d,e=>by obtain⟨v,_,e',a,_⟩:=r;exact⟨v,by rw[e'];rfl,yD e▸a⟩
 | Y::Z,U,r,i+1,d,e=>by obtain⟨_,_,e',_,q⟩:=r;exact let⟨v,e2,b⟩:=q.get i d e;⟨v,by rw[e'];exact e2,b⟩
theorem av.none_of{vs:List Value}{ds:List D}(r:av h mu vs ds)(i:Nat)(e:ds[i]?=none):vs[i]?=none:=by
 rw[List.getElem?_eq_none_iff] at e⊢;rw[r.length];exact e
theorem av.append{vs':List Value}{ds':List D}(y:av h mu vs' ds'):∀{ds:List D} {vs:List Value},av h mu vs ds->av h mu (vs++vs') (ds++ds')
 | [],Y,r=>(show _=_ from r)▸y
 | Y::Z,U,r=>by obtain⟨v,ws,e,a,q⟩:=r;exact⟨v,ws++vs',by rw[e];rfl,a,av.append y q⟩
theorem av.snoc{vs:List Value}{ds:List D}{v:Value}{d:D}(r:av h mu vs ds)(a:Rep h mu v d):av h mu (vs++ [v]) (ds++ [d]):=av.append (.cons a .nil) r
theorem av.drop:∀(n:Nat) {ds:List D} {vs:List Value},av h mu vs ds->av h mu (vs.drop n) (ds.drop n)
 | 0,Y,Z,r=>r
 | Y+1,[],Z,r=>(show _=_ from r)▸av.nil
 | n+1,Y::Z,U,r=>by obtain⟨_,_,e,_,q⟩:=r;exact e▸q.drop n
theorem av.take:∀(n:Nat) {ds:List D} {vs:List Value},av h mu vs ds->av h mu (vs.take n) (ds.take n)
 | 0,Y,Z,r=>av.nil
 | Y+1,[],Z,r=>(show _=_ from r)▸av.nil
 | n+1,Y::Z,U,r=>by obtain⟨_,_,e,a,q⟩:=r;exact e▸av.cons a (q.take n)
theorem av.reverse:∀{ds:List D} {vs:List Value},av h mu vs ds->av h mu vs.reverse ds.reverse
 | [],Y,r=>(show _=_ from r)▸av.nil
 | Y::Z,U,r=>let⟨_,_,e,a,q⟩:=r;by rw[e,List.reverse_cons,List.reverse_cons];exact q.reverse.snoc a
theorem av.set{v:Value}{d:D}(b:Rep h mu v d):∀(i:Nat) {ds:List D} {vs:List Value},av h mu vs ds->av h mu (vs.set i v) (ds.set i d)
 | Y,[],Z,r=>(show _=_ from r)▸av.nil
 | 0,Y::Z,U,r=>by obtain⟨_,_,e,_,q⟩:=r;exact e▸av.cons b q
 | i+1,Y::Z,U,r=>by obtain⟨_,_,e,a,q⟩:=r;exact e▸av.cons a (av.set b i q)
theorem av.dropLast{vs:List Value}{ds:List D}(r:av h mu vs ds):av h mu vs.dropLast ds.dropLast:=by
 rw[List.dropLast_eq_take,List.dropLast_eq_take,r.length];exact r.take _
theorem av.getv{vs:List Value}{ds:List D}(r:av h mu vs ds){i:Nat}{v:Value}(e:vs[i]?=some v):∃d,ds[i]?=some d/\Rep h mu v d:=by
 cases e2:ds[i]? with
 | none=>rw[r.none_of i e2] at e;cases e
 | some d=>obtain⟨u,e3,q⟩:=r.get i d e2;rw[e] at e3;cases e3;exact⟨d,rfl,q⟩
end
structure Gl where
 prog:Program
 w:World
 K:Frag
 h₀:Heap
 P:Addr
 lamC:Addr
 lamQ:Str
 mg:Str->Option Value
 mb:Str->Option Value
 T:Tab
noncomputable def KV(h:Heap)(mu:List Addr){κ:Type}:List (κ×Value)->List (κ×D)->Prop
 | vs,[]=>vs=[]
 | vs,kd::ds=> ∃v ws,vs=(kd.1,v)::ws/\Rep h mu v kd.2/\KV h mu ws ds
termination_by structural _ ds=>ds
section
variable{h h':Heap}{mu t:List Addr}{κ:Type}
theorem KV.nil:KV h mu (κ:=κ) [] []:=rfl
theorem KV.cons{k:κ}{v:Value}{d:D}{vs:List (κ×Value)}{ds:List (κ×D)}(r:Rep h mu v d)(q:KV h mu vs ds):KV h mu ((k,v)::vs) ((k,d)::ds):=⟨v,vs,rfl,r,q⟩
theorem KV.mono(k:bv h h'):∀{ds:List (κ×D)} {vs:List (κ×Value)},KV h mu vs ds->KV h' (mu++t) vs ds
 | [],Y,r=>r
 | Y::Z,U,r=>by obtain⟨v,ws,e,a,q⟩:=r;exact⟨v,ws,e,a.mono k,q.mono k⟩
theorem KV.keep(k:bv h h'){ds:List (κ×D)}{vs:List (κ×Value)}(r:KV h mu vs ds):KV h' mu vs ds:=List.append_nil mu▸r.mono (t:=[]) k
theorem KV.length:∀{ds:List (κ×D)} {vs:List (κ×Value)},KV h mu vs ds->vs.length=ds.length
 | [],Y,r=>congrArg List.length r
 | Y::Z,U,r=>by obtain⟨_,_,e,_,q⟩:=r;exact(congrArg List.length e).trans (congrArg Nat.succ q.length)
theorem KV.append{vs':List (κ×Value)}{ds':List (κ×D)}(y:KV h mu vs' ds'):∀{ds:List (κ×D)} {vs:List (κ×Value)},KV h mu vs ds->KV h mu (vs++vs') (ds++ds')
 | [],Y,r=>(show _=_ from r)▸y
 | Y::Z,U,r=>by obtain⟨v,ws,e,a,q⟩:=r;exact⟨v,ws++vs',by rw[e];rfl,a,KV.append y q⟩
variable[DecidableEq κ]
noncomputable def AtR(h:Heap)(mu:List Addr)(x:Option Value)(y:Option D):Prop:=(∃v d,x=some v/\y=some d/\Rep h mu v d)\/(x=none/\y=none)
theorem KV.at(k:κ):∀{ds:List (κ×D)} {vs:List (κ×Value)},KV h mu vs ds->AtR h mu (valueAt vs k) (atK ds k)
 | [],Y,r=> .inr ⟨(show _=_ from r)▸rfl,rfl⟩
 | (k',d)::ds,Y,r=>by
  obtain⟨v,ws,rfl,a,q⟩:=r;unfold valueAt atK;rw[List.find?_cons,List.find?_cons];cases e:decide (k'=k)
  ·exact KV.at k q
  ·exact .inl ⟨v,d,rfl,rfl,a⟩
theorem KV.any(k:κ):∀{ds:List (κ×D)} {vs:List (κ×Value)},KV h mu vs ds->(vs.any λkv=>decide (kv.1=k))=ds.any λkv=>decide (kv.1=k)
 | [],Y,r=>(show _=_ from r)▸rfl
 | Y::Z,U,r=>by obtain⟨_,_,rfl,_,q⟩:=r;rw[List.any_cons,List.any_cons,q.any]
theorem KV.qY(k:κ){v:Value}{d:D}(a:Rep h mu v d):∀{ds:List (κ×D)} {vs:List (κ×Value)},KV h mu vs ds->KV h mu (vs.map λkv=>if kv.1=k then(kv.1,v) else kv) (ds.map λkv=>if kv.1=k then(kv.1,d) else kv)
 | [],Y,r=>(show _=_ from r)▸KV.nil
 | (k',Y)::Z,U,r=>by
  obtain⟨_,_,rfl,b,q⟩:=r;rw[List.map_cons,List.map_cons];by_cases e:k'=k
  ·rw[if_pos e,if_pos e];exact .cons a (KV.qY k a q)
  ·rw[if_neg e,if_neg e];exact .cons b (KV.qY k a q)
theorem KV.put{vs:List (κ×Value)}{ds:List (κ×D)}(k:κ){v:Value}{d:D}(r:KV h mu vs ds)(a:Rep h mu v d):KV h mu (stored vs k v) (putK ds k d):=by
 unfold stored putK;rw[r.any k];cases ds.any λkv=>decide (kv.1=k)
 ·exact KV.append (.cons a .nil) r
 ·exact r.qY k a
end
noncomputable def i5(g:Gl)(h:Heap)(mu:List Addr)(a:Addr):Cell->Prop
 | .list l=> ∃vs n,h.get? a=some (listOf vs n)/\av h mu vs.toList l
 | .dictI es=> ∃kvs,h.DictOf (intKind g.prog g.w) a kvs/\KV h mu kvs es
 | .dictS es=> ∃kvs,h.DictOf (strKind g.prog g.w) a kvs/\KV h mu kvs es
 | .inst C d=> ∃dx,mu[d]?=some dx/\h.get? a=some (instObj C dx)
 | .fset l=> ∃es ep t,h.get? a=some {cls:=.type "frozenset",data:=.set es ep t}/\ElemsOf (intKind g.prog g.w) es.toList/\(∀k,l.contains k=true↔∃e∈es.toList,(intKind g.prog g.w).is k e.2=true)/\es.size=l.length/\t.fits es.size=true/\l.length<64
 | .set n=> ∃es ep t,h.get? a=some {cls:=.type "set",data:=.set es ep t}/\es.size=n/\t.fits es.size=true/\n<=4096
 | .fix vs n l=>h.get? a=some (listOf vs n)/\av h mu vs.toList l
noncomputable def agy(o:Obj):Prop:=(o.cls=.type "code"\/o.cls=.none)/\∃vs,o.data=.fields vs
noncomputable def Pl(o:Obj):Prop:=¬isTup o/\¬agy o
noncomputable def plB:Data->Bool
 | .seq Y Z=>false
 | .fields Y=>false
 | Y=>true
theorem Pl.of{o:Obj}(h:plB o.data=true):Pl o:=⟨(λ⟨Y,Z,U,e⟩=>by rw[e] at h;cases h),(λ⟨Y,Z,e⟩=>by rw[e] at h;cases h)⟩
theorem Pl.list(vs:Array Value)(n:Nat):Pl (listOf vs n):=⟨(λt=>absurd (Value.type.inj t.1) (by decide)),(λ⟨Y,Z,e⟩=>by cases e)⟩
noncomputable def Gl.lamOk(g:Gl)(h:Heap):Prop:=∃ps,h.get? g.P=some (tabObj ps)/\TriplesOk ps.toList/\
 (codeAmong g.T.qT ps.toList=none\/∃c,codeAmong g.T.qT ps.toList=some (.ref c)/\∃o vs t,h.get? c=some o/\o.cls=.type "code"/\o.data=.fields vs/\vs[1]?=some (.str g.lamQ t))
theorem Gl.qX{g:Gl}{h h':Heap}(k:∀b o,h.get? b=some o->agy o->h'.get? b=some o):g.lamOk h->g.lamOk h':=
 Exists.imp λY x=>⟨k _ _ x.1 ⟨.inr rfl,_,rfl⟩,x.2.1,x.2.2.imp id (Exists.imp λY y=>⟨y.1,y.2.imp λY y=>y.imp λY y=>y.imp λY y=>⟨k _ _ y.1 ⟨.inl y.2.1,_,y.2.2.1⟩,y.2⟩⟩)⟩
theorem i5.obj{g:Gl}{h:Heap}{mu:List Addr}{a:Addr}:∀{c:Cell},i5 g h mu a c->∃o,h.get? a=some o/\Pl o
 | .list Y,x=>by obtain⟨_,_,e,_⟩:=x;exact⟨_,e,.list ..⟩
 | .dictI Y,x=>by obtain⟨_,⟨_,_,_,e,_,d,_⟩,_⟩:=x;exact⟨_,e,.of (by rw[d];rfl)⟩
 | .dictS Y,x=>by obtain⟨_,⟨_,_,_,e,_,d,_⟩,_⟩:=x;exact⟨_,e,.of (by rw[d];rfl)⟩
 | .inst ..,x=>by obtain⟨_,_,e⟩:=x;exact⟨_,e,.of rfl⟩
 | .fset Y,x=>by obtain⟨_,_,_,e,_⟩:=x;exact⟨_,e,.of rfl⟩
 | .set Y,x=>by obtain⟨_,_,_,e,_⟩:=x;exact⟨_,e,.of rfl⟩
 | .fix ..,x=>⟨_,x.1,.list ..⟩
theorem i5.mono{g:Gl}{h h':Heap}{mu t:List Addr}{a:Addr}(k:bv h h')(s:∀o,h.get? a=some o->h'.get? a=some o):∀{c:Cell},i5 g h mu a c->i5 g h' (mu++t) a c
 | .list Y,x=>x.imp λY x=>x.imp λY x=>⟨s _ x.1,x.2.mono k⟩
 | .dictI Y,x=>x.imp λY x=>⟨x.1.imp λY y=>y.imp λY y=>y.imp λY y=>⟨s _ y.1,y.2⟩,x.2.mono k⟩
 | .dictS Y,x=>x.imp λY x=>⟨x.1.imp λY y=>y.imp λY y=>y.imp λY y=>⟨s _ y.1,y.2⟩,x.2.mono k⟩
 | .inst ..,x=>x.imp λY x=>⟨kx x.1,s _ x.2⟩
 | .fset Y,x=>x.imp λY x=>x.imp λY x=>x.imp λY x=>⟨s _ x.1,x.2⟩
 | .set Y,x=>x.imp λY x=>x.imp λY x=>x.imp λY x=>⟨s _ x.1,x.2⟩
 | .fix ..,x=>⟨s _ x.1,x.2.mono k⟩
noncomputable def Old(g:Gl)(h:Heap):Prop:=∀b o,g.h₀.get? b=some o->b≠g.P->h.get? b=some o
structure St(g:Gl)(h:Heap)(mu:List Addr)(J:ac):Prop where
 old:Old g h
 lam:g.lamOk h
 len:mu.length=J.length
 nd:mu.Nodup
 new:∀a∈mu,g.h₀.get? a=none/\a≠g.P
 cell:∀(i:Nat) (c:Cell) (a:Addr),J[i]?=some c->mu[i]?=some a->i5 g h mu a c
theorem St.live{g:Gl}{h:Heap}{mu:List Addr}{J:ac}(S:St g h mu J){a:Addr}(m:a∈mu):∃o,h.get? a=some o/\Pl o:=by
 obtain⟨i,hi,rfl⟩:=List.getElem_of_mem m;have h2:i<J.length:=S.len▸hi;exact(S.cell i J[i] mu[i] (yC h2) (yC hi)).obj
structure bc(g:Gl)(own mu:List Addr)(h:Heap)(mu':List Addr)(h':Heap):Prop where
 ext:∃t,mu'=mu++t/\∀a∈t,h.get? a=none
 there:∀b o,h.get? b=some o->∃o',h'.get? b=some o'
 keep:∀b o,h.get? b=some o->(b∉own/\b≠g.P/\b∉mu)\/isTup o->h'.get? b=some o
section
variable{g:Gl}{own mu mu' mu'':List Addr}{h h' h'':Heap}
theorem bc.refl(g:Gl)(own mu:List Addr)(h:Heap):bc g own mu h mu h:=⟨⟨[],(List.append_nil mu).symm,λY m=>nomatch m⟩,λY o e=>⟨o,e⟩,λY Z e U=>e⟩
theorem bc.tup(p:bc g own mu h mu' h'):bv h h':=λb o e t=>p.keep b o e (.inr t)
theorem bc.isNone(p:bc g own mu h mu' h'){a:Addr}(e:h'.get? a=none):h.get? a=none:=by
 cases q:h.get? a with
 | none=>rfl
 | some o=>obtain⟨o',z⟩:=p.there a o q;rw[z] at e;cases e
theorem bc.out(p:bc g own mu h mu' h'){a:Addr}(hm:a∉mu){o:Obj}(e:h.get? a=some o):a∉mu':=λm=>by
 obtain⟨t,rfl,ft⟩:=p.ext;rcases List.mem_append.mp m with m | m
 ·exact hm m
 ·rw[ft a m] at e;cases e
theorem bc.at(p:bc g own mu h mu' h'){i:Nat}{a:Addr}(e:mu[i]?=some a):mu'[i]?=some a:=by
 obtain⟨t,rfl,_⟩:=p.ext;exact kx e
theorem bc.trans(p:bc g own mu h mu' h')(q:bc g own mu' h' mu'' h''):bc g own mu h mu'' h'':=by
 refine⟨?_,λb o e=>by obtain⟨o',e'⟩:=p.there b o e;exact q.there b o' e',λb o e c=>c.elim (λc=>q.keep b o (p.keep b o e (.inl c)) (.inl ⟨c.1,c.2.1,p.out c.2.2 e⟩)) λc=>q.keep b o (p.keep b o e (.inr c)) (.inr c)⟩;obtain⟨t,e1,ft⟩:=p.ext;obtain⟨u,e2,fu⟩:=q.ext;exact⟨t++u,by rw[e2,e1,List.append_assoc],λa ha=>(List.mem_append.mp ha).elim (ft a) λm=>p.isNone (fu a m)⟩
theorem bc.rep(p:bc g own mu h mu' h'){v:Value}{d:D}(r:Rep h mu v d):Rep h' mu' v d:=by
 have:=p.tup;obtain⟨t,rfl,_⟩:=p.ext;exact r.mono this
theorem bc.repL(p:bc g own mu h mu' h'){v:List Value}{d:List D}(r:av h mu v d):av h' mu' v d:=by
 have:=p.tup;obtain⟨t,rfl,_⟩:=p.ext;exact r.mono this
theorem bc.weaken{own':List Addr}(p:bc g own mu h mu' h')(hs:∀a∈own,a∈own'):bc g own' mu h mu' h':=
 ⟨p.ext,p.there,λb o e c=>p.keep b o e (c.imp (λc=>⟨λm=>c.1 (hs b m),c.2⟩) id)⟩
theorem bc.grow(own:List Addr)(k:∀b o,h.get? b=some o->h'.get? b=some o):bc g own mu h mu h':=
 ⟨⟨[],(List.append_nil mu).symm,λY m=>nomatch m⟩,λb o e=>⟨o,k b o e⟩,λb o e Y=>k b o e⟩
end
section
variable{g:Gl}{h h':Heap}{mu:List Addr}{J:ac}
theorem cu{h:Heap}{a:Addr}(ha:h.objs.size<=a):h.get? a=none:=by
 cases q:h.get? a with
 | none=>rfl
 | some o=>exact absurd (Heap.lt_size q) (Nat.not_lt.mpr ha)
theorem cv(h:Heap):h.get? h.objs.size=none:=cu (yE _)
theorem Old.get{h:Heap}(O:Old g h){a:Addr}(e:h.get? a=none)(hp:a≠g.P):g.h₀.get? a=none:=by
 cases q:g.h₀.get? a with
 | none=>rfl
 | some o=>rw[O a o q hp] at e;cases e
theorem St.hP(S:St g h mu J):g.P<h.objs.size:=by obtain⟨_,e,_⟩:=S.lam;exact Heap.lt_size e
theorem St.step(S:St g h mu J)(X:Addr->Prop)(hx:∀a,X a->a∉mu/\g.h₀.get? a=none/\∀o,h.get? a=some o->Pl o)(k:∀b o,¬X b->h.get? b=some o->h'.get? b=some o):St g h' mu J:=
 ⟨λb o e hp=>k b o (λx=>by rw[(hx b x).2.1] at e;cases e) (S.old b o e hp),Gl.qX (λb o e t=>k b o (λx=>((hx b x).2.2 o e).2 t) e) S.lam,S.len,S.nd,S.new,λi c a e1 e2=>
  List.append_nil mu▸(S.cell i c a e1 e2).mono (t:=[]) (λb o e t=>k b o (λx=>((hx b x).2.2 o e).1 t) e) λo=>k a o λx=>(hx a x).1 (List.mem_of_getElem? e2)⟩
theorem St.grow(S:St g h mu J)(k:∀b o,h.get? b=some o->h'.get? b=some o):St g h' mu J:=S.step (λY=>False) (λY=>yX) λb o Y=>k b o
theorem St.priv(S:St g h mu J){x:Addr}(hm:x∉mu)(hx:g.h₀.get? x=none)(ho:∀o,h.get? x=some o->Pl o)(k:Heap.ExtBut x h h'):St g h' mu J:=
 S.step (·=x) (λa z=>z▸⟨hm,hx,ho⟩) k
theorem bc.priv{x:Addr}(hm:∀o,h.get? x=some o->¬isTup o)(hx:∀o,h.get? x=some o->∃o',h'.get? x=some o')(k:Heap.ExtBut x h h'):bc g [x] mu h mu h':=
 ⟨⟨[],(List.append_nil mu).symm,λY m=>nomatch m⟩,λb o e=>(Classical.em (b=x)).elim (λz=>z▸hx o (z▸e)) λz=>⟨o,k b o z e⟩,
  λb o e c=>k b o (λz=>c.elim (λc=>c.1 (z▸List.mem_singleton_self b)) λc=>hm o (z▸e) c) e⟩
theorem acr{α:Type}{l:List α}{a:α}(h:l.Nodup)(n:a∉l):(l++ [a]).Nodup:=
 List.nodup_append.mpr ⟨h,List.nodup_cons.mpr ⟨List.not_mem_nil,List.nodup_nil⟩,λx hx y hy e=>n (yG hy▸e▸hx)⟩
theorem ad7{α:Type}{l:List α}{a b:α}{i:Nat}(e:(l++ [a])[i]?=some b):l[i]?=some b\/i=l.length/\b=a:=by
 rw[List.getElem?_append] at e;by_cases hi:i<l.length
 ·rw[if_pos hi] at e;exact .inl e
 ·rw[if_neg hi] at e;have h2:=(yS e).1;have h3:i=l.length:=Nat.le_antisymm (Nat.le_of_sub_eq_zero (Nat.lt_one_iff.mp h2)) (Nat.not_lt.mp hi);subst h3;rw[Nat.sub_self] at e;exact .inr ⟨rfl,(yD e).symm⟩
theorem St.adopt(S:St g h mu J){a:Addr}(hm:a∉mu)(hz:g.h₀.get? a=none)(hp:a≠g.P){c:Cell}(hc:i5 g h (mu++ [a]) a c):St g h (mu++ [a]) (J++ [c]):=by
 refine⟨S.old,S.lam,by rw[List.length_append,List.length_append,S.len];rfl,acr S.nd hm,λx hx=>(List.mem_append.mp hx).elim (S.new x) λm=>yG m▸⟨hz,hp⟩,λi d b e1 e2=> ?_⟩;rcases ad7 e2 with f2 | ⟨f2,rfl⟩
 ·rcases ad7 e1 with f1 | ⟨rfl,_⟩
  ·exact(S.cell i d b f1 f2).mono (λb o e Y=>e) (λo e=>e)
  ·exact absurd (yS f2).1 (S.len▸Nat.lt_irrefl _)
 ·rw[f2,S.len,List.getElem?_append_right (yE _),Nat.sub_self] at e1;exact yD e1▸hc
theorem St.notMem(S:St g h mu J){a:Addr}(ha:h.get? a=none):a∉mu:=λm=>by
 obtain⟨o,e,_⟩:=S.live m;rw[ha] at e;cases e
theorem St.add'(S:St g h mu J)(hk:∀b o,h.get? b=some o->h'.get? b=some o){a:Addr}(ha:h.get? a=none)(hp:a≠g.P){c:Cell}(hc:i5 g h' (mu++ [a]) a c):
  St g h' (mu++ [a]) (J++ [c])/\∀own,bc g own mu h (mu++ [a]) h':=
 ⟨(S.grow hk).adopt (S.notMem ha) (S.old.get ha hp) hp hc,λown=>⟨⟨_,rfl,λx hx=>yG hx▸ha⟩,λb o e=>⟨o,hk b o e⟩,λb o e Y=>hk b o e⟩⟩
theorem St.qK(S:St g h mu J){o:Obj}{c:Cell}(hc:i5 g (h.push o) (mu++ [h.objs.size]) h.objs.size c):
  St g (h.push o) (mu++ [h.objs.size]) (J++ [c])/\∀own,bc g own mu h (mu++ [h.objs.size]) (h.push o):=
 S.add' (λY Z e=>yT _ e) (cv h) (yN S.hP) hc
theorem acs{mu:List Addr}(nd:mu.Nodup){i j:Nat}{a:Addr}(hi:mu[i]?=some a)(hj:mu[j]?=some a):i=j:=by
 obtain⟨li,ei⟩:=yS hi;obtain⟨lj,ej⟩:=yS hj;exact(List.getElem_inj nd).mp (ei.trans ej.symm)
theorem St.update(S:St g h mu J){i:Nat}{a:Addr}{c:Cell}(hi:mu[i]?=some a)(hs:Heap.SameBut a h h')(hc:i5 g h' mu a c):
  St g h' mu (J.set i c)/\∀own,bc g own mu h mu h':=by
 have hm:=List.mem_of_getElem? hi;obtain⟨oa,ea,na⟩:=S.live hm;have kp:∀b o,h.get? b=some o->¬Pl o->h'.get? b=some o:=λb o e n=>(hs.2 b (λz=>by subst z;rw[ea] at e;cases e;exact n na)).trans e;have kt:bv h h':=λb o e t=>kp b o e λn=>n.1 t;refine⟨⟨λb o e hp=>(hs.2 b (λz=>by subst z;rw[(S.new b hm).1] at e;cases e)).trans (S.old b o e hp),Gl.qX (λb o e t=>kp b o e λn=>n.2 t) S.lam,by rw[List.length_set,S.len],S.nd,S.new,λj c' b e1 e2=> ?_⟩,
  λown=>⟨⟨[],(List.append_nil mu).symm,λY m=>nomatch m⟩,λb o e=>(Classical.em (b=a)).elim (λz=>by obtain⟨o',e',_⟩:=hc.obj;exact⟨o',z▸e'⟩) λz=>⟨o,(hs.2 b z).trans e⟩,
   λb o e q=>q.elim (λq=>(hs.2 b λz=>q.2.2 (z▸hm)).trans e) λq=>kt b o e q⟩⟩
 by_cases hj:i=j
 ·subst hj;rw[hi] at e2;cases e2;rw[List.getElem?_set_self (S.len▸(yS hi).1)] at e1;exact yD e1▸hc
 ·rw[yB hj] at e1;have hne:b≠a:=λz=>hj (acs S.nd hi (z▸e2));exact List.append_nil mu▸(S.cell j c' b e1 e2).mono (t:=[]) kt (λo e=>(hs.2 b hne).trans e)
end
theorem bc.drop{g:Gl}{own x mu mu':List Addr}{h h1 h2:Heap}(k:∀b o,h.get? b=some o->h1.get? b=some o)(hx:∀a∈x,h.get? a=none)(p:bc g (x++own) mu h1 mu' h2):bc g own mu h mu' h2:=by
 refine⟨p.ext.imp λt q=>⟨q.1,λa ha=> ?_⟩,λb o e=>p.there b o (k b o e),λb o e c=>p.keep b o (k b o e) (c.imp (λc=>⟨λm=> ?_,c.2⟩) id)⟩
 ·cases e:h.get? a with
  | none=>rfl
  | some o=>have:=k a o e;rw[q.2 a ha] at this;cases this
 ·rcases List.mem_append.mp m with m | m
  ·rw[hx b m] at e;cases e
  ·exact c.1 m
theorem bc.adopt{g:Gl}{own mu mu':List Addr}{h h':Heap}(p:bc g own mu h mu' h'){a:Addr}(ha:h.get? a=none):bc g own mu h (mu'++ [a]) h':=
 ⟨let⟨t,e,ft⟩:=p.ext;⟨t++ [a],by rw[e,List.append_assoc],λb hb=>(List.mem_append.mp hb).elim (ft b) λm=>yG m▸ha⟩,p.there,p.keep⟩
noncomputable def EF:Value->Shared->Prop:=λY Z=>False
theorem ij{α:Type}{M:Model}{A:Around}{t:Sem α}{Q:α->Shared->Prop}{E:Value->Shared->Prop}{s:Shared}(h:wpAny M A t Q EF s):wpAny M A t Q E s:=
 wpAny_mono h (λY Z x=>x) λY Z x=>x.elim
structure Ptx(g:Gl) where
 s:Shared
 mu:List Addr
 J:ac
 st:St g s.heap mu J
section
variable{g:Gl}
noncomputable def Ptx.R(p:Ptx g)(v:Value)(d:D):Prop:=Rep p.s.heap p.mu v d
noncomputable def Ptx.L(p:Ptx g)(v:List Value)(d:List D):Prop:=av p.s.heap p.mu v d
structure Ptx.to(own:List Addr)(p q:Ptx g):Prop where
 post:bc g own p.mu p.s.heap q.mu q.s.heap
 same:q.s={p.s with heap:=q.s.heap,toks:=q.s.toks}
theorem Ptx.to.refl(own:List Addr)(p:Ptx g):p.to own p:=⟨.refl ..,rfl⟩
theorem Ptx.to.trans{own:List Addr}{p q r:Ptx g}(a:p.to own q)(b:q.to own r):p.to own r:=⟨a.post.trans b.post,b.same.trans (a.same▸rfl)⟩
theorem Ptx.to.sm{own:List Addr}{p q:Ptx g}(a:p.to own q)(h:Heap)(tk:Nat):({q.s with heap:=h,toks:=tk}:Shared)={p.s with heap:=h,toks:=tk}:=by rw[a.same]
theorem Ptx.to.w{own:List Addr}{p q:Ptx g}(a:p.to [] q):p.to own q:=⟨a.post.weaken (λY m=>nomatch m),a.same⟩
theorem Ptx.R.to{own:List Addr}{p q:Ptx g}{v:Value}{d:D}(r:p.R v d)(t:p.to own q):q.R v d:=t.post.rep r
theorem Ptx.L.to{own:List Addr}{p q:Ptx g}{v:List Value}{d:List D}(r:p.L v d)(t:p.to own q):q.L v d:=t.post.repL r
noncomputable def Ptx.nx(p:Ptx g)(h:Heap)(tk:Nat){mu:List Addr}{J:ac}(S:St g h mu J):Ptx g:=⟨{p.s with heap:=h,toks:=tk},mu,J,S⟩
theorem Ptx.qC{own:List Addr}{p:Ptx g}{h:Heap}{tk:Nat}{mu:List Addr}{J:ac}{S:St g h mu J}(P:bc g own p.mu p.s.heap mu h):p.to own (p.nx h tk S):=⟨P,rfl⟩
noncomputable def Exx{α β:Type}(A:Around)(p:Ptx g)(t:Sem α)(R:Ptx g->α->β->Prop)(K:β->ac->Prop):Prop:=
 ∀Q:α->Shared->Prop,(∀v q d,p.to [] q->R q v d->K d q.J->Q v q.s)->wpAny (model g.prog g.w) A t Q EF p.s
noncomputable abbrev ExD(A:Around)(p:Ptx g)(t:Sem Value)(K:KD):Prop:=Exx A p t Ptx.R K
noncomputable def RBx(_:Ptx g)(a b:Bool):Prop:=a=b
noncomputable def RVB(_:Ptx g)(v:Value)(b:Bool):Prop:=v=.bool b
noncomputable abbrev ExT(A:Around)(p:Ptx g)(t:Sem Bool)(K:KT):Prop:=Exx A p t RBx K
variable{α β:Type}{A:Around}{p:Ptx g}{t:Sem α}{R:Ptx g->α->β->Prop}{K:β->ac->Prop}
theorem Exx.tk{d:β}(k:K d p.J)(h:∀Q:α->Shared->Prop,(∀v tk,R (p.nx p.s.heap tk p.st) v d->Q v {p.s with toks:=tk})->wpAny (model g.prog g.w) A t Q EF p.s):Exx A p t R K:=λQ hQ=>
 h Q λv tk r=>hQ v (p.nx p.s.heap tk p.st) d (Ptx.qC (.refl ..)) r k
theorem Exx.at{v:α}{d:β}(r:R p v d)(k:K d p.J)(h:∀Q:α->Shared->Prop,Q v p.s->wpAny (model g.prog g.w) A t Q EF p.s):Exx A p t R K:=λQ hQ=>h Q (hQ v p d (.refl ..) r k)
end
section
variable{g:Gl}{p:Ptx g}{v:Value}{C:Value->Prop}{D':Prop}
@[elab_as_elim] theorem Ptx.R.i{i:Int}(r:p.R v (.int i))(h:∀t,C (.int i t)):C v:=by obtain⟨t,e⟩:=r;exact e▸h t
@[elab_as_elim] theorem Ptx.R.s{i:Str}(r:p.R v (.str i))(h:∀t,C (.str i t)):C v:=by obtain⟨t,e⟩:=r;exact e▸h t
@[elab_as_elim] theorem Ptx.R.b{b:Bool}(r:p.R v (.bool b))(h:C (.bool b)):C v:=(show v=.bool b from r)▸h
@[elab_as_elim] theorem Ptx.R.n(r:p.R v .none)(h:C .none):C v:=(show v=.none from r)▸h
@[elab_as_elim] theorem Ptx.R.u{u:Value}(r:p.R v (.val u))(h:C u):C v:=(show v=u from r)▸h
@[elab_as_elim] theorem Ptx.R.l{l:Nat}(r:p.R v (.loc l))(h:∀a,p.mu[l]?=some a->C (.ref a)):C v:=by obtain⟨a,e,m⟩:=r;exact e▸h a m
@[elab_as_elim] theorem Ptx.R.t{ds:List D}(r:p.R v (.tup ds))(h:∀a vs,p.s.heap.IsTuple a vs->p.L vs.toList ds->C (.ref a)):C v:=by obtain⟨a,vs,e,t,l⟩:=r;exact e▸h a vs t l
@[elab_as_elim] theorem Ptx.L.c{vs:List Value}{C:List Value->Prop}{d:D}{ds:List D}(r:p.L vs (d::ds))(h:∀v ws,p.R v d->p.L ws ds->C (v::ws)):C vs:=by obtain⟨v,ws,e,a,l⟩:=r;exact e▸h v ws a l
@[elab_as_elim] theorem Ptx.L.n{vs:List Value}{C:List Value->Prop}(r:p.L vs [])(h:C []):C vs:=(show vs=[] from r)▸h
theorem Ptx.ls(p:Ptx g){i:Nat}{l:List D}{a:Addr}(e:p.J[i]?=some (.list l))(ea:p.mu[i]?=some a)(h:∀vs n,p.s.heap.get? a=some (listOf vs n)->p.L vs.toList l->D'):D':=by obtain⟨vs,n,e,r⟩:=p.st.cell i _ a e ea;exact h vs n e r
theorem Ptx.di(p:Ptx g){i:Nat}{l:List (Int×D)}{a:Addr}(e:p.J[i]?=some (.dictI l))(ea:p.mu[i]?=some a)(h:∀kvs,p.s.heap.DictOf (intKind g.prog g.w) a kvs->KV p.s.heap p.mu kvs l->D'):D':=by obtain⟨k,e,r⟩:=p.st.cell i _ a e ea;exact h k e r
theorem Ptx.ds(p:Ptx g){i:Nat}{l:List (Str×D)}{a:Addr}(e:p.J[i]?=some (.dictS l))(ea:p.mu[i]?=some a)(h:∀kvs,p.s.heap.DictOf (strKind g.prog g.w) a kvs->KV p.s.heap p.mu kvs l->D'):D':=by obtain⟨k,e,r⟩:=p.st.cell i _ a e ea;exact h k e r
end
theorem Wv.inv{α:Type}{r:Option α}{K:α->Prop}(h:Wv r K):∃a,r=some a/\K a:=by
 induction r with
 | none=>exact h.elim
 | some a=>exact⟨a,rfl,h⟩
theorem Wr.map{α:Type}{r:Option α}{f:α->D×ac}{K:KD}(h:Wr (r.map f) K):∃a,r=some a/\K (f a).1 (f a).2:=by
 induction r with
 | none=>exact h.elim
 | some a=>exact⟨a,rfl,h⟩
theorem Wr.ite{c:Prop}[Decidable c]{a:D×ac}{K:KD}(h:Wr (if c then some a else none) K):c/\K a.1 a.2:=
 (Classical.em c).elim (λz=>⟨z,by rw[if_pos z] at h;exact h⟩) λz=>by rw[if_neg z] at h;exact h.elim
theorem iS{α:Type}{c:Prop}[Decidable c]{a b:α}(h:(if c then some a else none)=some b):c/\a=b:=
 (Classical.em c).elim (λz=>⟨z,yD ((if_pos z).symm.trans h)⟩) λz=>nomatch (if_neg z).symm.trans h
theorem nS{α:Type}{P:Prop}{a:Option α}{b:α}(e:a=some b)(h:a=none):P:=by rw[h] at e;cases e
noncomputable def Opt{α:Type}(o:Option α)(P:α->Prop):Prop:=match o with
 | some x=>P x
 | none=>True
theorem Opt.ite{α:Type}{c:Prop}[Decidable c]{x:α}{P:α->Prop}(h:c->P x):Opt (if c then some x else none) P:=by
 by_cases z:c
 ·rw[if_pos z];exact h z
 ·rw[if_neg z];trivial
theorem Opt.sel{α:Type}{c:Prop}[Decidable c]{a:Option α}{P:α->Prop}(h:c->Opt a P):Opt (if c then a else none) P:=by
 by_cases z:c
 ·rw[if_pos z];exact h z
 ·rw[if_neg z];trivial
theorem Opt.map{α β:Type}{f:α->β}{P:β->Prop}:∀{o:Option α},(∀a,o=some a->P (f a))->Opt (o.map f) P
 | some Y,h=>h _ rfl
 | none,Y=>trivial
@[elab_as_elim] theorem Opt.el{α:Type}{o:Option α}{x:α}{P:α->Prop}(e:o=some x)(h:Opt o P):P x:=by rw[e] at h;exact h
theorem Opt.wr{α:Type}{o:Option (α×ac)}{K:α->ac->Prop}{C:Prop}(h:Opt o λp=>K p.1 p.2->C)(e:Wr o K):C:=by
 cases o with
 | none=>exact e.elim
 | some p=>exact h e
theorem Opt.ow{α:Type}{K:α->ac->Prop}{C:Prop}:∀{o:Option (α×ac)},(Wr o K->C)->Opt o λp=>K p.1 p.2->C
 | none,Y=>trivial
 | some Y,h=>h
theorem Opt.of{α:Type}{o:Option α}{P:α->Prop}{x:α}(h:Opt o P)(e:o=some x):P x:=by rw[e] at h;exact h
theorem dI{α:Type}{p:Prop}[Decidable p]{A:p->Option α}{x:α}(h:(if q:p then A q else none)=some x):∃q,A q=some x:=by
 by_cases q:p
 ·exact⟨q,(dif_pos q).symm.trans h⟩
 ·exact nS h (dif_neg q)
theorem ard{n m:Nat}(h:n≠m):(!Nat.beq n m)=true:=by
 cases e:Nat.beq n m
 ·rfl
 ·exact absurd (Nat.eq_of_beq_eq_true e) h
theorem tF{P:Prop}{b:Bool}(e:b=true)(h:b=false):P:=by rw[h] at e;cases e
theorem Ki.inv{P:Prop}{b:Bool}(h:Ki P False b):b=true/\P:=by
 cases b
 ·exact h.elim
 ·exact⟨rfl,h⟩
theorem j8:ah<=sizeLine:=by decide
theorem yk{i:Int}(h:small i=true):i.natAbs<2^63:=of_decide_eq_true h
theorem ub{i:Int}(h:small i=true):Builtin.Int.intBits i<=64:=by
 have z:=ags (Nat.le_of_lt (yk h));exact intBits_le_64 (Int.lt_of_lt_of_le (by decide) z.1) (Int.lt_of_le_of_lt z.2 (by decide))
theorem ox{a b:Int}(h:small b=true):Builtin.divisionGoesByPylong a b=false:=by
 refine PyProof.noPylong_of_log2 ?_;by_cases h0:b.natAbs=0
 ·rw[h0];decide+kernel
 ·exact Nat.lt_trans ((Nat.log2_lt h0).mpr (yk h)) (by decide)
theorem ai{h:Heap}{a:Addr}{vs:Array Value}{n:Nat}(e:h.get? a=some (listOf vs n)):h.IsList a vs:=⟨_,e,rfl,n,rfl⟩
section
variable{g:Gl}{A:Around}{p:Ptx g}{K:KD}
theorem uc{h:Heap}{mu:List Addr}{J:ac}(S:St g h mu J){arr:Array Value}{ds:List D}(R:av h mu arr.toList ds):
  St g (h.push {cls:=.type "list",data:=.seq arr}) (mu++ [h.objs.size]) (J++ [.list ds])/\bc g [] mu h (mu++ [h.objs.size]) (h.push {cls:=.type "list",data:=.seq arr}):=
 have⟨a,b⟩:=S.qK (o:={cls:=.type "list",data:=.seq arr}) (c:=.list ds) ⟨arr,0,Heap.get?_push_size _ rfl,R.mono λY Z e U=>yT _ e⟩
 ⟨a,b []⟩
theorem yl{h:Heap}{mu:List Addr}{J:ac}(S:St g h mu J){arr:Array Value}{ds:List D}(R:av h mu arr.toList ds):
  St g (h.push {cls:=.type "tuple",data:=.seq arr}) mu J/\bc g [] mu h mu (h.push {cls:=.type "tuple",data:=.seq arr})/\Rep (h.push {cls:=.type "tuple",data:=.seq arr}) mu (.ref h.objs.size) (.tup ds):=
 have k:∀b o,h.get? b=some o->(h.push {cls:=.type "tuple",data:=.seq arr}).get? b=some o:=λY Z e=>yT _ e
 ⟨S.grow k,bc.grow _ k,.tup ⟨_,Heap.get?_push_size _ rfl,rfl,0,rfl⟩ (R.keep λb o e Y=>k b o e)⟩
theorem mw{mu:List Addr}{h:Heap}{a:Addr}{J:ac}(hl:mu.length=J.length):Rep h (mu++ [a]) (.ref a) (.loc J.length):=.loc (by rw[<-hl,List.getElem?_append_right (yE _),Nat.sub_self];rfl)
theorem Exx.list{t:Sem Value}{arr:Array Value}{ds:List D}(R:p.L arr.toList ds)(k:K (.loc p.J.length) (p.J++ [.list ds]))(h:∀Q:Value->Shared->Prop,Q (.ref p.s.heap.objs.size) {p.s with heap:=p.s.heap.push {cls:=.type "list",data:=.seq arr}}->wpAny (model g.prog g.w) A t Q EF p.s):ExD A p t K:=λQ hQ=>
 have⟨S',P'⟩:=uc p.st R
 h Q (hQ _ (p.nx _ p.s.toks S') _ (Ptx.qC P') (mw p.st.len) k)
theorem Exx.tup{t:Sem Value}{arr:Array Value}{ds:List D}(R:p.L arr.toList ds)(k:K (.tup ds) p.J)(h:∀Q:Value->Shared->Prop,Q (.ref p.s.heap.objs.size) {p.s with heap:=p.s.heap.push {cls:=.type "tuple",data:=.seq arr}}->wpAny (model g.prog g.w) A t Q EF p.s):ExD A p t K:=λQ hQ=>
 have⟨S',P',R'⟩:=yl p.st R
 h Q (hQ _ (p.nx _ p.s.toks S') _ (Ptx.qC P') R' k)
theorem Ptx.list(p:Ptx g){i:Nat}{l:List D}{a:Addr}(e:p.J[i]?=some (.list l))(ea:p.mu[i]?=some a):∃vs n,p.s.heap.get? a=some (listOf vs n)/\p.L vs.toList l:=p.st.cell i _ a e ea
theorem aas{op:Operator}{x y:Int}{t u:Tok}(e:Wr ((binI op x y).map λz=>(D.int z,p.J)) K):ExD A p (binaryOp op (.int x t) (.int y u)) K:=by
 obtain⟨z,e,k⟩:=e.map;refine Exx.tk k λQ q=> ?_;cases op<;>w_pre e
 ·cases e;exact P.add_int (q _ _ (.int _ _))
 ·cases e;exact P.sub_int (q _ _ (.int _ _))
 ·obtain⟨h,rfl⟩:=iS e;exact P.mul_int (q _ _ (.int _ _)) (((Bool.or_eq_true _ _).mp h).elim (λh=>IntMulOk.of_left (ub h)) λh=>IntMulOk.of_right (ub h))
 ·obtain⟨h,rfl⟩:=iS e;exact mod_int' h.1 (q _ _ (.int _ _))
 ·obtain⟨⟨rfl,rfl⟩,rfl⟩:=iS e;exact pow_int_small (by decide) (by decide) (by decide) (q _ _ (.int _ _))
 ·obtain⟨h,rfl⟩:=iS e;exact floordiv_int h.1 (q _ _ (.int _ _)) (Or.inl (ox h.2))
theorem nil_of{vs:Array Value}{x:List D}(l:vs.size=x.length)(h:vs.isEmpty=true):x=[]:=by
 cases Array.isEmpty_iff.mp h;exact List.length_eq_zero_iff.mp l.symm
theorem aat{va vb:Value}{x y:List D}(ra:p.R va (.tup x))(rb:p.R vb (.tup y))(hz:x.length+y.length<=ah)(k:K (.tup (x++y)) p.J):ExD A p (binaryOp .Add va vb) K:=by
 obtain⟨a,vs,rfl,⟨⟨cls,dd,data,sl⟩,ho,hc,n,hd⟩,ra'⟩:=id ra;obtain⟨b,ws,rfl,⟨⟨cls2,dd2,data2,sl2⟩,ho2,hc2,n2,hd2⟩,rb'⟩:=id rb;cases hc;cases hd;cases hc2;cases hd2;have l1:=ra'.size;have l2:=rb'.size;by_cases hv:vs.isEmpty=true
 ·refine Exx.at (R:=Ptx.R) (d:=.tup (x++y)) (v:=.ref b) ?_ k λQ q=>concat_meets ⟨_,ho,rfl⟩ ⟨_,ho2,rfl⟩ noFill_tuple_add seq_tuple_add PySem.F.slot_tuple_add PySem.F.entry_tuple_add (PySem.F.args_tuple_add_2 _ _) (tuple_addW0 a b vs ws n n2 dd dd2 sl sl2 hv) ⟨ho,ho2,q⟩;cases nil_of l1 hv;exact rb
 ·by_cases hw:ws.isEmpty=true
  ·refine Exx.at (R:=Ptx.R) (d:=.tup (x++y)) (v:=.ref a) ?_ k λQ q=>concat_meets ⟨_,ho,rfl⟩ ⟨_,ho2,rfl⟩ noFill_tuple_add seq_tuple_add PySem.F.slot_tuple_add PySem.F.entry_tuple_add (PySem.F.args_tuple_add_2 _ _) (tuple_addW1 a b vs ws n n2 dd dd2 sl sl2 hv hw) ⟨ho,ho2,q⟩;cases nil_of l2 hw;rw[List.append_nil];exact ra
  ·exact Exx.tup (arr:=vs++ws) (by rw[Array.toList_append];exact av.append rb' ra') k λQ q=>concat_meets ⟨_,ho,rfl⟩ ⟨_,ho2,rfl⟩ noFill_tuple_add seq_tuple_add PySem.F.slot_tuple_add PySem.F.entry_tuple_add (PySem.F.args_tuple_add_2 _ _)
    (tuple_addW2 a b vs ws n n2 dd dd2 sl sl2 hv hw (yK (by rw[l1,l2];exact hz) j8)) ⟨ho,ho2,q⟩
theorem foldl_rep(a:Array Value):∀(n:Nat) (acc:Array Value),(List.foldl (λx1 x2=>x1++x2) acc (List.replicate n a)).toList=acc.toList++rep a.toList n
 | 0,acc=>(List.append_nil _).symm
 | n+1,acc=>by rw[List.replicate_succ,List.foldl_cons,foldl_rep a n,Array.toList_append,List.append_assoc];rfl
theorem av.rep{h:Heap}{mu:List Addr}{vs:List Value}{ds:List D}(r:av h mu vs ds):∀n:Nat,av h mu (Internal.rep vs n) (Internal.rep ds n)
 | 0=> .nil
 | n+1=>av.append (r.rep n) r
theorem ym{va:Value}{i:Nat}{x:List D}{y:Int}{u:Tok}(ra:p.R va (.loc i))(ex:p.J[i]?=some (.list x))(hy:0<=y/\y<=8/\x.length<=8)(k:K (.loc p.J.length) (p.J++ [.list (rep x y.toNat)])):ExD A p (binaryOp .Mult va (.int y u)) K:=by
 obtain⟨a,rfl,ma⟩:=ra;obtain⟨vs,n,ho,ra'⟩:=p.list ex ma;have l1:=ra'.size;have hm:vs.size*y.toNat<=64:=Nat.mul_le_mul (n₁:=vs.size) (n₂:=8) (m₂:=8) (l1▸hy.2.2) (Int.toNat_le.mpr hy.2.1);refine Exx.list (arr:=List.foldl (λx1 x2=>x1++x2) #[] (List.replicate (if vs.isEmpty=true then 0 else y.toNat) vs)) ?_ k λQ q=> ?_
 ·rw[foldl_rep];by_cases hv:vs.isEmpty=true
  ·cases nil_of l1 hv;rw[if_pos hv];have:∀n,Internal.rep ([]:List D) n=[]:=λn=>by induction n with | zero=>rfl | succ n ih=>exact ih
   rw[this];exact .nil
  ·rw[if_neg hv];exact ra'.rep _
 ·exact wpAny_binaryOp_repeat_ref (T:="list") (U:="int") (by decide) ⟨_,ho,rfl⟩ (λs'=>typeIs_int s' y u) noFill_list_mul PySem.F.fills_int_mul PySem.F.slot_int_rmul repeat_list PySem.F.slot_int_index.lookup
   (call_meets PySem.F.slot_int_rmul (typeIs_int p.s y u) PySem.F.entry_int_rmul (PySem.F.args_int_rmul_2 _ _) (int___rmul___int_list y u a vs n)
    ⟨ho,rfl,⟨_,ho,rfl⟩,call_meets PySem.F.slot_list_mul ⟨_,ho,rfl⟩ PySem.F.entry_list_mul (PySem.F.args_list_mul_2 _ _)
     (AutoListH.list___mul___list_int_3 a vs n y u (by simp[Builtin.List.listFitsIndex];exact⟨yW (by decide) hy.1,Int.lt_of_le_of_lt hy.2.1 (by decide)⟩) (Nat.not_lt.mpr (yK hm (by decide))) (by simp[Builtin.List.listTooLong,sizeLine];exact(ar1 0x11100000072404022402) hm))
     ⟨ho,q⟩⟩)
theorem sr(l:Addr)(items:Array Value)(n:Nat)(dd:Option Addr)(sl:Array (Option Value))(x:Int)(u:Tok)(hx:1<x)(hx8:x<=8)(h0:¬items.isEmpty=true)(h8:items.size<=8):
  Meets (Builtin.«tuple.__mul__» ⟨[.ref l,.int x u],[]⟩) (λY R s=>s.heap.get? l=some {cls:=.type "tuple",dict:=dd,data:=.seq items n,slots:=sl}/\
   R (.ok (.ret (Value.ref s.heap.objs.size))) {s with heap:=s.heap.push {cls:=Value.type "tuple",data:=Data.seq (List.foldl (λx1 x2=>x1++x2) #[] (List.replicate x.toNat items))},toks:=s.toks}):=
 .of_wp λprog w A R s h=>by
  obtain⟨hp,g,d,tk,os⟩:=s;obtain⟨hl,h⟩:=h;have f1:=AutoSeq1.idx_int
  wp_walk using AutoSeq1.wpAny_loadPart' hl
  have n1:(decide (x< -2^63) || decide (x≥2^63))=false:=by rw[Bool.or_eq_false_iff];exact⟨decide_eq_false (Int.not_lt.mpr (yW (by decide) (Int.le_of_lt hx))),decide_eq_false (Int.not_le.mpr (Int.lt_of_le_of_lt hx8 (by decide)))⟩
  have n2:(items.isEmpty || x==1)=false:=by rw[Bool.or_eq_false_iff];exact⟨by simpa using h0,beq_false_of_ne (Int.ne_of_gt hx)⟩
  have n3:(decide (x<=0) || items.isEmpty)=false:=by rw[Bool.or_eq_false_iff];exact⟨decide_eq_false (Int.not_le.mpr (Int.lt_trans (by decide) hx)),by simpa using h0⟩
  have hm:(items.size:Int)*x<=64:=yW (Int.mul_le_mul (c:=8) (Int.ofNat_le.mpr h8) hx8 (Int.le_of_lt (Int.lt_trans (by decide) hx)) (by decide)) (by decide);refine wpAny_ite_false (decide_eq_false (by rw[n1];exact Bool.false_ne_true)) ?_
  wp_walk using AutoSeq1.wpAny_loadPart' hl
  refine wpAny_ite_false (decide_eq_false (by rw[n2];exact Bool.false_ne_true)) ?_
  wp_walk using AutoSeq1.wpAny_loadPart' hl
  refine wpAny_ite_false (decide_eq_false (by rw[n3];exact Bool.false_ne_true)) ?_
  wp_walk using AutoSeq1.wpAny_loadPart' hl
  refine wpAny_ite_false (decide_eq_false (Int.not_lt.mpr (yW hm (by decide)))) ?_
  wp_walk using AutoSeq1.wpAny_loadPart' hl
  refine wpAny_ite_false (decide_eq_false (by unfold Builtin.Tuple.tupleTooMany;rw[decide_eq_true_eq];exact Int.not_lt.mpr (yW hm (by decide)))) ?_
  wp_walk using AutoSeq1.wpAny_loadPart' hl
  have hz:(List.foldl (λx1 x2=>x1++x2) #[] (List.replicate x.toNat items)).size<=sizeLine:=by
   rw[<-yF,foldl_rep];simp only[List.nil_append,Internal.rep,List.length_flatten,List.map_replicate,List.sum_replicate_nat,yF];exact yK (Nat.mul_le_mul (n₁:=x.toNat) (n₂:=8) (m₂:=8) (Int.toNat_le.mpr hx8) h8) (by decide)
  refine wpAny_ite_false (decide_eq_false (Nat.not_lt.mpr hz)) ?_;exact wpAny_newObjAsIs_type (yI ⟨_,rfl,h⟩)
theorem qx:fillsNumberSlot (.type "tuple") "mul"=pure false:=
 PySem.fillsNumberSlot_seq (id:="tuple.__mul__") (r:=some (.builtin "tuple.__rmul__")) PySem.F.slot_tuple_mul.lookup (by decide+kernel) PySem.F.slot_tuple_rmul.lookup (by decide+kernel)
theorem yn:seqRepeat? (.type "tuple")=pure (some (.builtin "tuple.__mul__")):=by
 unfold seqRepeat?;rw[PySem.seqSlot_of (T:="tuple") (name:="__mul__") (id:="tuple.__mul__") PySem.F.slot_tuple_mul.lookup (by decide+kernel),PySem.seqSlot_of (T:="tuple") (name:="__rmul__") (id:="tuple.__rmul__") PySem.F.slot_tuple_rmul.lookup (by decide+kernel)];rfl
theorem jw(a:Int)(t:Tok)(l:Addr)(items:Array Value)(n:Nat)(dd:Option Addr)(sl:Array (Option Value)):
  Meets (Builtin.«int.__rmul__» ⟨[.int a t,.ref l],[]⟩) (λY R s=>s.heap.get? l=some {cls:=.type "tuple",dict:=dd,data:=.seq items n,slots:=sl}/\R (.ok (.ret Value.notImplemented)) s):=
 .of_wp λprog w A R s h=>by obtain⟨hp,g,d,tk,os⟩:=s;obtain⟨hl,h⟩:=h;wp_walk;exact⟨_,rfl,h⟩
theorem aau{va:Value}{x:List D}{y:Int}{u:Tok}(ra:p.R va (.tup x))(hy:1<y/\y<=8/\0<x.length/\x.length<=8)(k:K (.tup (rep x y.toNat)) p.J):ExD A p (binaryOp .Mult va (.int y u)) K:=by
 obtain⟨a,vs,rfl,⟨⟨cls,dd,data,sl⟩,ho,hc,n,hd⟩,ra'⟩:=ra;cases hc;cases hd;have l1:=ra'.size;exact Exx.tup (arr:=List.foldl (λx1 x2=>x1++x2) #[] (List.replicate y.toNat vs)) (by rw[foldl_rep];exact ra'.rep _) k λQ q=>
  wpAny_binaryOp_repeat_ref (T:="tuple") (U:="int") (by decide) ⟨_,ho,rfl⟩ (λs'=>typeIs_int s' y u) qx PySem.F.fills_int_mul PySem.F.slot_int_rmul yn PySem.F.slot_int_index.lookup
   (call_meets PySem.F.slot_int_rmul (typeIs_int p.s y u) PySem.F.entry_int_rmul (PySem.F.args_int_rmul_2 _ _) (jw y u a vs n dd sl)
    ⟨ho,rfl,⟨_,ho,rfl⟩,call_meets PySem.F.slot_tuple_mul ⟨_,ho,rfl⟩ PySem.F.entry_tuple_mul (PySem.F.args_tuple_mul_2 _ _)
     (sr a vs n dd sl y u hy.1 hy.2.1 (λz=>by rw[nil_of l1 z] at hy;exact absurd hy.2.2.1 (Nat.lt_irrefl _)) (l1▸hy.2.2.2)) ⟨ho,q⟩⟩)
theorem yo{va vb:Value}{i j:Nat}{x y:List D}(ra:p.R va (.loc i))(rb:p.R vb (.loc j))(ex:p.J[i]?=some (.list x))(ey:p.J[j]?=some (.list y))(hz:x.length+y.length<=ah)(k:K (.loc p.J.length) (p.J++ [.list (x++y)])):ExD A p (binaryOp .Add va vb) K:=by
 obtain⟨a,rfl,ma⟩:=ra;obtain⟨b,rfl,mb⟩:=rb;obtain⟨vs,n,ho,ra'⟩:=p.list ex ma;obtain⟨ws,n2,ho2,rb'⟩:=p.list ey mb;exact Exx.list (arr:=vs++ws) (by rw[Array.toList_append];exact av.append rb' ra') k λQ q=>concat_meets ⟨_,ho,rfl⟩ ⟨_,ho2,rfl⟩ noFill_list_add seq_list_add PySem.F.slot_list_add PySem.F.entry_list_add (PySem.F.args_list_add_2 _ _)
  (list_addW a b vs ws n n2 none none #[] #[] (yK (by rw[ra'.size,rb'.size];exact hz) j8)) ⟨ho,ho2,q⟩
theorem Wr.inv{r:Option (D×ac)}(h:Wr r K):∃d s,r=some (d,s)/\K d s:=by
 induction r with
 | none=>exact h.elim
 | some x=>exact⟨x.1,x.2,rfl,h⟩
theorem afh{J:ac}{op:Operator}{i j:Nat}{C:Prop}(e:Wr (xd J op i j) K)(h:∀x y,op=.Add->J[i]?=some (.list x)->J[j]?=some (.list y)->x.length+y.length<=ah->K (.loc J.length) (J++ [.list (x++y)])->C):C:=by
 refine Opt.wr ?_ e;clear e
 delta xd
 generalize ha:J[i]?=a,hb:J[j]?=b;rcases op with⟨⟩<;>first | exact trivial | skip
 rcases a with _ | ⟨⟨⟩⟩<;>first | exact trivial | skip
 rcases b with _ | ⟨⟨⟩⟩<;>first | exact trivial | skip
 exact Opt.ite λq=>h _ _ rfl ha hb q
theorem afi{J:ac}{op:Operator}{i:Nat}{y:Int}{C:Prop}(e:Wr (xe J op i y) K)(h:∀x,op=.Mult->J[i]?=some (.list x)->(0<=y/\y<=8/\x.length<=8)->K (.loc J.length) (J++ [.list (rep x y.toNat)])->C):C:=by
 refine Opt.wr ?_ e;clear e
 delta xe
 generalize ha:J[i]?=a;rcases op with⟨⟩<;>first | exact trivial | skip
 rcases a with _ | ⟨⟨⟩⟩<;>first | exact trivial | skip
 exact Opt.ite λq=>h _ rfl ha q
theorem afj{op:Operator}{x y:List D}{C:Prop}{f:D->D×ac}(e:Wr ((agt op x y).map f) K)(h:op=.Add->x.length+y.length<=ah->K (f (.tup (x++y))).1 (f (.tup (x++y))).2->C):C:=by
 cases op<;>first | exact e.elim | skip
 exact e.map.elim λY q=>h rfl (iS q.1).1 ((iS q.1).2▸q.2)
theorem afk{op:Operator}{x:List D}{y:Int}{C:Prop}{f:D->D×ac}(e:Wr ((agu op x y).map f) K)(h:op=.Mult->(1<y/\y<=8/\0<x.length/\x.length<=8)->K (f (.tup (rep x y.toNat))).1 (f (.tup (rep x y.toNat))).2->C):C:=by
 cases op<;>first | exact e.elim | skip
 exact e.map.elim λY q=>h rfl (iS q.1).1 ((iS q.1).2▸q.2)
theorem agz{J:ac}{op:Operator}{C:D->D->Prop}(h1:∀x y,Wr ((binI op x y).map λz=>(D.int z,J)) K->C (.int x) (.int y))(h2:∀x y,Wr ((agu op x y).map (·,J)) K->C (.tup x) (.int y))(h3:∀x y,Wr ((agt op x y).map (·,J)) K->C (.tup x) (.tup y))
  (h4:∀i y,Wr (xe J op i y) K->C (.loc i) (.int y)) (h5:∀i j,Wr (xd J op i j) K->C (.loc i) (.loc j)):∀{a b:D},Wr (oq J op a b) K->C a b:=by
 intro a b e;cases a<;>first | exact e.elim | (cases b<;>first | exact e.elim | skip)
 ·exact h1 _ _ e
 ·exact h2 _ _ e
 ·exact h3 _ _ e
 ·exact h4 _ _ e
 ·exact h5 _ _ e
theorem ake{op:Operator}{va vb:Value}{a b:D}(ra:p.R va a)(rb:p.R vb b)(e:Wr (oq p.J op a b) K):ExD A p (binaryOp op va vb) K:=by
 refine agz (J:=p.J) (op:=op) (K:=K) (C:=λa b=>p.R va a->p.R vb b->ExD A p (binaryOp op va vb) K) ?_ ?_ ?_ ?_ ?_ e ra rb
 ·exact λx y e ra rb=>ra.i λt=>rb.i λu=>aas e
 ·exact λx y e ra rb=>rb.i λu=>afk e λh1 h2 k=>h1▸aau ra h2 k
 ·exact λx y e ra rb=>afj e λh1 h2 k=>h1▸aat ra rb h2 k
 ·exact λi y e ra rb=>rb.i λu=>afi e λx h1 h2 h3 k=>h1▸ym ra h2 h3 k
 ·exact λi j e ra rb=>afh e λx y h1 h2 h3 h4 k=>h1▸yo ra rb h2 h3 h4 k
end
end
section
open PySem PySem.W PyProof.Rows PySem.SeqAt
section
variable{g:Gl}{A:Around}{p:Ptx g}{J:ac}
theorem n6{v:Value}{d:D}{K:Bool->Prop}{Q:Bool->Shared->Prop}(r:p.R v d)(e:Wv (jt d) K)(hQ:∀b,K b->Q b p.s):wpAny (model g.prog g.w) A (truthy v) Q EF p.s:=by
 cases d<;>first | exact e.elim | skip
 ·cases r.qG;exact yI (hQ _ e)
 ·cases r.qD;exact wpAny_truthy_bool (hQ _ e)
 ·obtain⟨t,rfl⟩:=r;exact P.truthy_int (hQ _ e)
theorem ud:∀(n:Nat) (x y:List D) (c:Bool),eqL J n x y=some c->∃e:Nat->Bool,(∀(j:Nat) (a b:D),x[j]?=some a->y[j]?=some b->∃k,k<n/\eqD J k a b=some (e j))/\(List.range (min x.length y.length)).all e=c
 | 0,Y,Z,c,h=>nS h rfl
 | n+1,[],y,c,h=>⟨λY=>true,(λj a b h=>nomatch h),by cases h;rw[show min ([]:List D).length y.length=0 from Nat.zero_min _];rfl⟩
 | n+1,x::xs,[],c,h=>⟨λY=>true,(λj a b Y h=>nomatch h),by cases h;rfl⟩
 | n+1,x::xs,y::ys,c,h=>by
  have h:(match eqD J n x y with
    | some a=>(eqL J n xs ys).map (a&& ·)
    | none=>none)=some c:=h
  cases ha:eqD J n x y with
  | none=>rw[ha] at h;exact nS h rfl
  | some a=>
   rw[ha] at h;obtain⟨b,hb,hc⟩:=yA h;obtain⟨e,h1,h2⟩:=ud n xs ys b hb;refine⟨λj=>match j with | 0=>a | j+1=>e j,λj u v hu hv=> ?_,?_⟩
   ·induction j with
    | zero=>cases hu;cases hv;exact⟨n,yU _,ha⟩
    | succ j=>obtain⟨k,hk,q⟩:=h1 j u v hu hv;exact⟨k,Nat.lt_succ_of_lt hk,q⟩
   ·rw[List.length_cons,List.length_cons,Nat.succ_min_succ,List.range_succ_eq_map,List.all_cons,List.all_map,<-hc,<-h2];rfl
theorem IsTuple.uniq{h:Heap}{a:Addr}{vs ws:Array Value}(x:h.IsTuple a vs)(y:h.IsTuple a ws):vs=ws:=by
 obtain⟨o,e1,_,k,d1⟩:=x;obtain⟨o',e2,_,k',d2⟩:=y;rw[e1] at e2;cases e2;rw[d1] at d2;cases d2;rfl
theorem aav{F:List D->List D->Option Bool}{C:D->D->Bool->Prop}(h1:C .none .none true)(h2:∀x y,C (.bool x) (.bool y) (x==y))(h3:∀x y,C (.bool x) (.str y) false)(h4:∀x y,C (.int x) (.int y) (x==y))(h5:∀x y,C (.int x) (.bool y) (x==(if y then 1 else 0:Int)))(h5':∀x y,C (.int x) (.str y) false)
  (h6:∀x y,C (.str x) (.str y) (x==y)) (h7:∀x y,C (.tup x) (.str y) false) (h8:∀x y c,F x y=some c->C (.tup x) (.tup y) (c&&x.length==y.length))
  (h9:∀i j x y b,i≠j->J[i]?=some (.list x)->J[j]?=some (.list y)->(if x.length==y.length then F x y else some false)=some b->C (.loc i) (.loc j) b):∀{a b:D} {r:Bool},eqS J F a b=some r->C a b r:=by
 intro a b r e;refine Opt.el e ?_;clear e;rcases a with⟨⟩<;>first | exact trivial | (rcases b with⟨⟩<;>first | exact trivial | skip)
 ·exact h1
 ·exact h2 ..
 ·exact h3 ..
 ·exact h5 ..
 ·exact h4 ..
 ·exact h5' ..
 ·exact h6 ..
 ·exact h7 ..
 ·exact Opt.map λY e9=>h8 _ _ _ e9
 ·delta eqS
  dsimp only;by_cases hij:n=n_1
  ·rw[if_pos hij];trivial
  rw[if_neg hij];have h9:=h9 n n_1;generalize J[n]?=cx,J[n_1]?=cy at h9⊢;rcases cx with _ | ⟨⟨⟩⟩<;>first | exact trivial | skip
  rcases cy with _ | ⟨⟨⟩⟩<;>first | exact trivial | skip
  show Opt (if l.length==l_1.length then F l l_1 else some false) _;generalize hz:(if l.length==l_1.length then F l l_1 else some false)=z;cases z with
  | none=>trivial
  | some b=>exact h9 _ _ _ hij rfl rfl hz
theorem akf(p:Ptx g)(n:Nat):∀(v:Value) (x y:D) (b:Bool),eqD J n x y=some b->p.R v x->p.R v y->b=true:=by
 induction n using Nat.strongRecOn with
 | ind n ih=>
  induction n with
  | zero=>exact λv x y b e=>nS e rfl
  | succ n=>
   refine λv x y b=>aav (C:=λx y b=>p.R v x->p.R v y->b=true) (λY Z=>rfl) ?_ ?_ ?_ ?_ ?_ ?_ ?_ ?_ ?_
   ·intro x y rx ry;cases rx.qD;cases ry.qD;exact beq_self_eq_true _
   ·rintro x y rx ⟨_,h⟩;cases rx.qD;cases h
   ·rintro x y ⟨_,rx⟩ ⟨_,h⟩;cases rx;cases h;exact beq_self_eq_true _
   ·rintro x y ⟨_,rx⟩ h;cases rx;cases h.qD
   ·rintro x y ⟨_,rx⟩ ⟨_,h⟩;cases rx;cases h
   ·rintro x y ⟨_,rx⟩ ⟨_,h⟩;cases rx;cases h;exact beq_self_eq_true _
   ·rintro x y ⟨_,_,rx,_⟩ ⟨_,h⟩;cases rx;cases h
   ·rintro ds es c e ⟨a,vs,rx,ta,ra⟩ ⟨_,ws,h,tb,rb⟩;cases rx;cases h;cases IsTuple.uniq ta tb;obtain⟨f,h1,h2⟩:=ud n ds es c e;have hl:ds.length=es.length:=ra.length.symm.trans rb.length;rw[<-h2,Bool.and_eq_true,List.all_eq_true,beq_iff_eq];refine⟨λj hj=> ?_,hl⟩;rw[List.mem_range,hl,Nat.min_self] at hj;obtain⟨v1,e1,r1⟩:=ra.get j ds[j] (yC (hl▸hj));obtain⟨v2,e2,r2⟩:=rb.get j es[j] (yC hj);rw[e1] at e2;cases e2;obtain⟨k,hk,q⟩:=h1 j _ _ (yC (hl▸hj)) (yC hj);exact ih k (Nat.lt_succ_of_lt hk) v1 _ _ _ q r1 r2
   ·rintro i j x y b hij _ _ _ ⟨a,rx,ma⟩ ⟨_,h,mb⟩;cases rx;cases h;exact absurd (acs p.st.nd ma mb) hij
noncomputable def Eq3(A:Around)(s:Shared)(va vb:Value)(b:Bool):Prop:=EqAt A s va vb b/\RcAt A s va vb b/\RcNeAt A s va vb (!b)
theorem ad8{n:Nat}{x y:List D}{c:Bool}{vs ws:Array Value}(rec1:∀k,k<n->∀(u w:Value) (d d':D) (b:Bool),eqD p.J k d d'=some b->p.R u d->p.R w d'->EqAt A.in1 p.s u w b)
  (e:eqL p.J n x y=some c) (ra:p.L vs.toList x) (rb:p.L ws.toList y):∃f:Nat->Bool,(∀(j:Nat) (h3:j<vs.size) (h4:j<ws.size),EqAt A.in1 p.s vs[j] ws[j] (f j))/\(List.range (min x.length y.length)).all f=c:=by
 obtain⟨f,h1,h2⟩:=ud n x y c e;refine⟨f,λj h3 h4=> ?_,h2⟩;obtain⟨d1,q1,r1⟩:=ra.getv (i:=j) (v:=vs[j]) (by rw[Array.getElem?_toList,Array.getElem?_eq_getElem h3]);obtain⟨d2,q2,r2⟩:=rb.getv (i:=j) (v:=ws[j]) (by rw[Array.getElem?_toList,Array.getElem?_eq_getElem h4]);obtain⟨k,hk,q⟩:=h1 j d1 d2 q1 q2;exact rec1 k hk _ _ _ _ _ q r1 r2
theorem am7(p:Ptx g)(n:Nat):∀(A:Around) (va vb:Value) (x y:D) (b:Bool),A.units+n<cLine->eqD p.J n x y=some b->p.R va x->p.R vb y->Eq3 A p.s va vb b:=by
 induction n using Nat.strongRecOn with
 | ind n ih=>
  induction n with
  | zero=>exact λA va vb x y b Y e=>nS e rfl
  | succ n=>
   intro A va vb x y b hu e;have hu':A.units<cLine:=yV (Nat.le_add_right _ _) hu;have rec1:∀k,k<n->∀(u w:Value) (d d':D) (b:Bool),eqD p.J k d d'=some b->p.R u d->p.R w d'->EqAt A.in1 p.s u w b:=λk hk u w d d' b q r1 r2=>
    (ih k (Nat.lt_succ_of_lt hk) A.in1 _ _ _ _ _ (by rw[Around.in1_units];exact(ar4 0x11167114001571611504013) hu hk) q r1 r2).1
   have same:=λv=>akf p (n+1) v x y b e;refine aav (C:=λx y b=>(∀v,p.R v x->p.R v y->b=true)->p.R va x->p.R vb y->Eq3 A p.s va vb b) ?_ ?_ ?_ ?_ ?_ ?_ ?_ ?_ ?_ ?_ e same
   ·intro _ ra rb;cases ra.qG;cases rb.qG;exact⟨EqAt.same _,RcAt.none_none,RcNeAt.none_none⟩
   ·intro x y _ ra rb;cases ra.qD;cases rb.qD;exact⟨EqAt.bool_bool _ _,RcAt.bool_bool _ _,RcNeAt.bool_bool _ _⟩
   ·rintro x y _ ra ⟨u,h⟩;cases ra.qD;cases h;exact⟨EqAt.bool_str _ _ _,RcAt.bool_str _ _ _,RcNeAt.bool_str _ _ _⟩
   ·rintro x y _ ⟨t,h⟩ ⟨u,h'⟩;cases h;cases h';exact⟨EqAt.int_int _ _ _ _,RcAt.int_int _ _ _ _,RcNeAt.int_int _ _ _ _⟩
   ·rintro x y _ ⟨t,h⟩ h';cases h;cases h'.qD;exact⟨EqAt.int_bool _ _ _,RcAt.int_bool _ _ _,RcNeAt.int_bool _ _ _⟩
   ·rintro x y _ ⟨t,h⟩ ⟨u,h'⟩;cases h;cases h';exact⟨EqAt.int_str _ _ _ _,RcAt.int_str _ _ _ _,RcNeAt.int_str _ _ _ _⟩
   ·rintro x y _ ⟨t,h⟩ ⟨u,h'⟩;cases h;cases h';exact⟨EqAt.str_str _ _ _ _,RcAt.str_str _ _ _ _,RcNeAt.str_str _ _ _ _⟩
   ·rintro x y _ ⟨a,vs,h,u,_⟩ ⟨t,h'⟩;cases h;cases h';exact⟨EqAt.tuple_str _ _ u hu',RcAt.tuple_str _ _ u hu',RcNeAt.tuple_str _ _ u hu'⟩
   ·intro x y c e9 same ra rb;obtain⟨a,vs,rfl,ta,ra'⟩:=id ra;obtain⟨a',ws,rfl,tb,rb'⟩:=id rb;obtain⟨f,each,h2⟩:=ad8 rec1 e9 ra' rb';have key:=RcAt.tuples (A:=A) (e:=f) ta tb hu' each;have key2:=RcNeAt.tuples (A:=A) (e:=f) ta tb hu' each;rw[ra'.size,rb'.size,h2] at key key2;exact⟨(Classical.em (a=a')).elim (λhaa=>by subst haa;rw[same _ ra rb];exact EqAt.same _) λhaa=>EqAt.of_refs haa key,key,key2⟩
   ·rintro i j x y b hij ex ey e _ ⟨a,h,ma⟩ ⟨a',h',mb⟩;cases h;cases h';have hne:a≠a':=λz=>hij (acs p.st.nd ma (z▸mb));obtain⟨vs,k1,ho,ra'⟩:=p.list ex ma;obtain⟨ws,k2,ho2,rb'⟩:=p.list ey mb;by_cases hl:(x.length==y.length)=true
    ·rw[if_pos hl] at e;have hsz:vs.size=ws.size:=by rw[ra'.size,rb'.size];exact beq_iff_eq.mp hl
     obtain⟨f,each,h2⟩:=ad8 rec1 e ra' rb';have key:=RcAt.lists (A:=A) (e:=f) (ai ho) (ai ho2) hsz hu' each;have key2:=RcNeAt.lists (A:=A) (e:=f) (ai ho) (ai ho2) hsz hu' each;rw[<-beq_iff_eq.mp hl,Nat.min_self] at h2;rw[ra'.size,h2] at key key2;exact⟨EqAt.of_refs hne key,key,key2⟩
    ·rw[if_neg hl] at e;cases e;have h3:(vs.size !=ws.size)=true:=by rw[ra'.size,rb'.size,bne_iff_ne];exact λz=>hl (by rw[z];exact beq_self_eq_true _)
     have key:=RcAt.lists_lengths (A:=A) (ai ho) (ai ho2) h3 hu';exact⟨EqAt.of_refs hne key,key,RcNeAt.lists_lengths (ai ho) (ai ho2) h3 hu'⟩
end
section
variable{g:Gl}{A:Around}{p:Ptx g}{J:ac}
theorem ag0{v:Value}{x:D}{b:Bool}{z:Str}{t:Tok}(hu:A.units<cLine)(r:p.R v x)(e:tx z x=some b):EqAt A p.s (.str z t) v b:=by
 cases x<;>w_pre e
 ·cases e;cases r.qG;exact EqAt.str_none _ _
 ·cases e;cases r.qD;exact EqAt.str_bool _ _ _
 ·cases e;obtain⟨u,rfl⟩:=r;exact EqAt.str_int _ _ _ _
 ·cases e;obtain⟨u,rfl⟩:=r;exact EqAt.str_str _ _ _ _
 ·cases e;obtain⟨a,vs,rfl,u,_⟩:=r;exact EqAt.str_tuple _ _ u hu
noncomputable def afl(x:D):Value->Bool
 | .str z Y=>(tx z x).getD false
 | Y=>false
theorem qy{x:D}:∀{ds:List D} {vs:List Value} {b:Bool},p.L vs ds->iv x ds=some b->vs.any (afl x)=b/\∀y∈vs,∃z t c,y=.str z t/\tx z x=some c
 | [],vs,b,r,e=>by cases av.inv0 r;cases e;exact⟨rfl,λY h=>nomatch h⟩
 | d::ds,vs,b,r,e=>by
  obtain⟨v,ws,rfl,a,r1⟩:=r;cases d<;>w_pre e;obtain⟨t,rfl⟩:=a;obtain⟨c,h1,e⟩:=yR e;obtain⟨d',h2,rfl⟩:=yA e;obtain⟨q1,q2⟩:=qy r1 h2;refine⟨?_,λy hy=>(yM hy).elim (λz=>⟨_,t,c,z,h1⟩) (q2 y)⟩;rw[List.any_cons,q1];show((tx _ x).getD false || d')=_;rw[h1];rfl
theorem s6{v:Value}{x:D}{arr:Array Value}(hu:A.units+1<cLine)(r:p.R v x)(h:∀y∈arr.toList,∃z t c,y=.str z t/\tx z x=some c):∀y,y∈arr->EqAt A.in1 p.s y v (afl x y):=λy hy=>by
 obtain⟨z,t,c,rfl,e⟩:=h y (Array.mem_toList_iff.mpr hy);have:=ag0 (A:=A.in1) (t:=t) (by rw[Around.in1_units];exact hu) r e;show EqAt _ _ _ _ ((tx z x).getD false);rw[e];exact this
theorem yp(p:Ptx g){i:Nat}{a:Addr}(hi:p.mu[i]?=some a)(hsys:∃o,g.h₀.get? sysModules=some o):(a==sysModules)=false:=by
 rw[beq_eq_false_iff_ne];rintro rfl;obtain⟨o,e⟩:=hsys;rw[(p.st.new _ (List.mem_of_getElem? hi)).1] at e;cases e
theorem KV.isSome{h:Heap}{mu:List Addr}{κ:Type}[DecidableEq κ]{kvs:List (κ×Value)}{es:List (κ×D)}(r:KV h mu kvs es)(k:κ):(valueAt kvs k).isSome=(atK es k).isSome:=by
 rcases r.at k with⟨v,d,e1,e2,_⟩ | ⟨e1,e2⟩<;>rw[e1,e2] <;>rfl
theorem int_is{P:Program}{w:World}(i:Int)(t:Tok):(intKind P w).is i (.int i t)=true:=decide_eq_true rfl
theorem str_is{P:Program}{w:World}(i:Str)(t:Tok):(PySem.strKind P w).is i (.str i t)=true:=beq_self_eq_true i
theorem akg{x:D}{n:Nat}{b:Bool}(e:inD J x (.loc n)=some b):(∃l,J[n]?=some (.list l)/\iv x l=some b)\/∃es i,J[n]?=some (.dictI es)/\x=.int i/\(atK es i).isSome=b:=by
 delta inD at e
 dsimp only at e;generalize J[n]?=c at e⊢;rcases c with _ | c
 ·exact nS e rfl
 cases c<;>w_pre e
 ·exact .inl ⟨_,rfl,e⟩
 ·cases x<;>w_pre e;exact .inr ⟨_,_,rfl,rfl,yD e⟩
theorem ag1{neg:Bool}{va vb:Value}{x c:D}{b:Bool}{Q:Value->Shared->Prop}(hsys:∃o,g.h₀.get? sysModules=some o)(hu:A.units+1<cLine)(e:inD p.J x c=some b)(ra:p.R va x)(rb:p.R vb c)
  (hQ:∀tk,Q (.bool (if neg then !b else b)) {p.s with toks:=tk}):wpAny (model g.prog g.w) A (compareOp (if neg then .NotIn else .In) va vb) Q EF p.s:=by
 cases c<;>w_pre e
 ·obtain⟨a,vs,rfl,t,r⟩:=rb;obtain⟨q1,q2⟩:=qy r e;rw[Array.any_toList] at q1;cases neg
  ·exact in_tupleAt (afl x) t (s6 hu ra q2) (by rw[q1];exact hQ p.s.toks)
  ·exact notIn_tupleAt (afl x) t (s6 hu ra q2) (by rw[q1];exact hQ p.s.toks)
 ·obtain⟨a,rfl,ma⟩:=rb;rcases akg e with⟨l,el,e⟩ | ⟨es,k,el,rfl,rfl⟩
  ·obtain⟨vs,n,ho,r⟩:=p.list el ma;obtain⟨q1,q2⟩:=qy r e;rw[Array.any_toList] at q1;cases neg
   ·exact in_listAt (afl x) (ai ho) (s6 hu ra q2) (by rw[q1];exact hQ p.s.toks)
   ·exact notIn_listAt (afl x) (ai ho) (s6 hu ra q2) (by rw[q1];exact hQ p.s.toks)
  ·obtain⟨t,rfl⟩:=ra;obtain⟨kvs,hd,hk⟩:=p.st.cell _ _ _ el ma;cases neg
   ·exact wpAny_in_of (int_is k t) (yp p ma hsys) hd.mapOf (by rw[hk.isSome];exact hQ _)
   ·exact wpAny_notIn_of (int_is k t) (yp p ma hsys) hd.mapOf (by rw[hk.isSome];exact hQ _)
theorem acu{x c:D}{b:Bool}(e:gz J x c=some b):∃i n l,x=.int i/\c=.loc n/\J[n]?=some (.fset l)/\l.contains i=b:=by
 refine Opt.el e ?_;clear e;rcases x with⟨⟩<;>first | exact trivial | skip
 rcases c with⟨⟩<;>first | exact trivial | skip
 delta gz
 dsimp only;generalize hc:J[n]?=c;rcases c with _ | ⟨⟨⟩⟩<;>first | exact trivial | skip
 exact⟨_,_,_,rfl,rfl,hc,rfl⟩
theorem akh{va vb:Value}{x c:D}{b:Bool}{Q:Value->Shared->Prop}(e:gz p.J x c=some b)(ra:p.R va x)(rb:p.R vb c)
  (hQ:∀tk,Q (.bool b) {p.s with toks:=tk}):wpAny (model g.prog g.w) A (compareOp .In va vb) Q EF p.s:=by
 obtain⟨k,n,l,rfl,rfl,el,rfl⟩:=acu e;obtain⟨a,rfl,ma⟩:=rb;obtain⟨t,rfl⟩:=ra;obtain⟨es,ep,tb,ho,h1,h2,h3,h4,h5⟩:=p.st.cell _ _ _ el ma;have hT:p.s.TypeIs (.ref a) "frozenset":=⟨_,ho,rfl⟩
 show wpAny _ _ (do return .bool (<-contains (.ref a) (.int k t))) Q _ p.s;refine yH ?_;unfold contains;try with_reducible refine wpAny_holding ?_
 refine yH (wpAny_specialOf hT FB.slot_frozenset_contains.lookup ?_);show wpAny _ _ (if(some (Value.builtin "frozenset.__contains__")==some Value.none)=true then _ else _) _ _ p.s;rw[if_neg (by rw[beq_builtin_none];exact Bool.false_ne_true)];refine yH (wpAny_callSpecialUnlessNone?_slot (name:=so "__contains__") hT FB.slot_frozenset_contains
  (wpAny_call_entry FB.slot_frozenset_contains hT FB.entry_frozenset_contains ?_ (FB.args_frozenset_contains_2 _ _)))
 unfold Builtin.«frozenset.__contains__» Builtin.Frozenset.oneOther;simp only[List.isEmpty_nil,bind_assoc];unfold Builtin.Frozenset.addrOf Builtin.Frozenset.withSetAsKey setContains;refine yH (yI ?_);try dsimp only
 refine yH (yI ?_);try dsimp only
 refine yH (wpAny_tryCatch ?_);refine wpAny_holding ?_;refine yH ((intKind g.prog g.w).pyHash (int_is k t) ?_);have hb:es.size<scanBound:=by rw[h3];exact yJ h5 (by decide)
 refine yH (setFind_any (s:={p.s with toks:=p.s.toks+1}) (S:=λk=>l.contains k) (int_is k t) rfl ho rfl h1 h2 hb h4 λr hr=> ?_);refine yI ?_;show wpAny _ _ (ret (Value.bool r.isSome)) _ _ _;rw[hr];exact yI ⟨_,rfl,wpAny_truthy_bool (yI (hQ _))⟩
theorem xh{v:Value}{d:D}{b:Bool}(r:p.R v d)(e:sy d=some b):(v==.none)=b:=by
 cases d<;>w_pre e
 ·cases e;cases r.qG;rfl
 ·cases e;cases r.qD;rfl
 ·cases e;obtain⟨_,rfl⟩:=r;rfl
 ·cases e;obtain⟨_,rfl⟩:=r;rfl
 ·cases e;obtain⟨_,_,rfl,_⟩:=r;rfl
 ·cases e;obtain⟨_,rfl,_⟩:=r;rfl
theorem ints2{f:Int->Int->Bool}{x y:D}{b:Bool}(e:(match x,y with | .int x,.int y=>some (f x y) | _,_=>none)=some b):∃i j,x=.int i/\y=.int j/\f i j=b:=by
 cases x<;>w_pre e;cases y<;>w_pre e;exact⟨_,_,rfl,rfl,yD e⟩
theorem ag2{y:D}{o:Option Bool}{b:Bool}(e:(match y with | .none=>o | _=>none)=some b):y=.none/\o=some b:=by
 cases y<;>first | exact nS e rfl | exact⟨rfl,e⟩
theorem ad9{op:CmpOp}{va vb:Value}{x y:D}{K:KT}(hsys:∃o,g.h₀.get? sysModules=some o)(hu:A.units+gc<cLine)(ra:p.R va x)(rb:p.R vb y)(e:Wv (kh p.J op x y) (kV K p.J)):Exx A p (compareOp op va vb) RVB K:=by
 obtain⟨b,e,k⟩:=e.inv;have hu1:A.units+1<cLine:=yV (Nat.add_le_add_left (by decide) _) hu;refine Exx.tk k λQ q=> ?_;have q:=λtk=>q (.bool b) tk rfl;cases op
 ·exact(am7 p gc A va vb x y b hu e ra rb).2.1 _ _ EF Q (q p.s.toks)
 ·obtain⟨c,e2,rfl⟩:=yA e;exact(am7 p gc A va vb x y c hu e2 ra rb).2.2 _ _ EF Q (q p.s.toks)
 ·obtain⟨i,j,rfl,rfl,rfl⟩:=ints2 e;obtain⟨t,rfl⟩:=ra;obtain⟨u,rfl⟩:=rb;exact P.lt_int (q p.s.toks)
 ·obtain⟨i,j,rfl,rfl,rfl⟩:=ints2 e;obtain⟨t,rfl⟩:=ra;obtain⟨u,rfl⟩:=rb;exact P.le_int (q p.s.toks)
 ·obtain⟨i,j,rfl,rfl,rfl⟩:=ints2 e;obtain⟨t,rfl⟩:=ra;obtain⟨u,rfl⟩:=rb;exact P.gt_int (q p.s.toks)
 ·obtain⟨i,j,rfl,rfl,rfl⟩:=ints2 e;obtain⟨t,rfl⟩:=ra;obtain⟨u,rfl⟩:=rb;exact P.ge_int (q p.s.toks)
 ·obtain⟨rfl,e⟩:=ag2 e;cases rb.qG;exact PySem.is_none (by rw[xh ra e];exact q p.s.toks)
 ·obtain⟨rfl,e⟩:=ag2 e;obtain⟨c,e2,rfl⟩:=yA e;cases rb.qG;exact PySem.isNot_none (by show Q (.bool (!(va==.none))) p.s;rw[xh ra e2];exact q p.s.toks)
 ·cases hf:gz p.J x y with
  | some r=>exact akh ((hf.trans (by delta kh at e;dsimp only at e;rw[hf] at e;exact e))) ra rb q
  | none=>exact ag1 (neg:=false) hsys hu1 (by delta kh at e;dsimp only at e;rw[hf] at e;exact e) ra rb q
 ·obtain⟨c,e2,rfl⟩:=yA e;exact ag1 (neg:=true) hsys hu1 e2 ra rb q
end
section
variable{g:Gl}{A:Around}{p:Ptx g}{J:ac}{K:KD}
theorem an9{op:UnaryOp}{v:Value}{x:D}(r:p.R v x)(e:Wr (unD op p.J x) K):ExD A p (unaryOp op v) K:=by
 cases op<;>first | exact e.elim | skip
 ·obtain⟨b,e,k⟩:=e.map;exact Exx.at (R:=Ptx.R) (d:=.bool (!b)) (v:=.bool (!b)) rfl k λQ q=>not_of (n6 (K:=λc=>c=b) r (by rw[e];rfl) λc hc=>hc▸q)
 ·cases x<;>first | exact e.elim | skip
  obtain⟨t,rfl⟩:=r;exact Exx.tk (R:=Ptx.R) (d:=.int _) e λQ q=>P.neg_int (q _ _ (.int _ _))
theorem oy{i:Int}(h:small i=true): -(2^63:Int)<=i/\i<2^63:=by
 have z:=ags (n:=9223372036854775807) (Nat.le_of_lt_succ (yk h));exact⟨yW (by decide) z.1,Int.lt_of_le_of_lt z.2 (by decide)⟩
theorem ue{α:Type}{l:List α}{i:Int}{x:α}(e:idx l i=some x):small i=true/\((0<=i/\l[i.toNat]?=some x)\/(i<0/\ -(l.length:Int)<=i/\l[(l.length+i).toNat]?=some x)):=by
 unfold idx at e;by_cases h:small i=true
 ·rw[if_pos h] at e;by_cases h0:0<=i
  ·rw[if_pos h0] at e;exact⟨h,.inl ⟨h0,e⟩⟩
  ·rw[if_neg h0] at e;by_cases h1: -(l.length:Int)<=i
   ·rw[if_pos h1] at e;exact⟨h,.inr ⟨Int.not_le.mp h0,h1,e⟩⟩
   ·rw[if_neg h1] at e;cases e
 ·rw[if_neg h] at e;cases e
theorem aki{α:Type}{l:List α}{i:Int}{x:α}(e:idx l i=some x):∃j,seqIndex? i l.length=some j/\l[j]?=some x:=by
 obtain⟨_,⟨h,q⟩ | ⟨h,h2,q⟩⟩:=ue e
 ·refine⟨i.toNat,?_,q⟩;have hl:=(yS q).1;unfold seqIndex?;rw[if_neg (Int.not_lt.mpr h),if_pos];simp[h];exact(Int.toNat_lt h).mp hl
 ·refine⟨(l.length+i).toNat,?_,q⟩;rw[MeetsSeq.seqIndex_neg h (nadd h2),Int.add_comm]
theorem afm{h:Heap}{a:Addr}{vs:Array Value}{n:Nat}{l:List D}{k:Int}{t:Tok}{x:D}{s:Shared}{Q:Value->Shared->Prop}{mu:List Addr}(ho:s.heap.get? a=some (listOf vs n))(r:av h mu vs.toList l)(e:idx l k=some x)(q:∀v,Rep h mu v x->Q v s):
  wpAny (model g.prog g.w) A (getItem (.ref a) (.int k t)) Q EF s:=by
 obtain⟨h1,⟨h,q1⟩ | ⟨h,h2,q1⟩⟩:=ue e
 ·obtain⟨y,q3,ry⟩:=r.get _ _ q1;exact wpAny_getItem_list (ai ho) h (oy h1).2 (by rw[<-Array.getElem?_toList];exact q3) (q y ry)
 ·obtain⟨y,q3,ry⟩:=r.get _ _ q1;exact wpAny_getItem_list_neg (ai ho) h (by rw[r.size];exact h2) (oy h1).1 (by rw[<-Array.getElem?_toList,r.size,Int.add_comm];exact q3) (q y ry)
theorem KV.item{h:Heap}{mu:List Addr}{κ:Type}[DecidableEq κ]{kvs:List (κ×Value)}{es:List (κ×D)}(r:KV h mu kvs es){k:κ}{d:D}(e:atK es k=some d):∃v,valueAt kvs k=some v/\Rep h mu v d:=by
 rcases r.at k with⟨v,x,z1,z2,z3⟩ | ⟨z1,z2⟩
 ·rw[e] at z2;cases z2;exact⟨v,z1,z3⟩
 ·rw[e] at z2;cases z2
theorem ag3{n:Nat}{i:D}{K:KD}{C:Prop}(e:Wr (ki J (.loc n) i) K)(h1:∀l k d,(J[n]?=some (.list l)\/∃vs m,J[n]?=some (.fix vs m l))->i=.int k->idx l k=some d->K d J->C)
  (h2:∀l k d,J[n]?=some (.dictI l)->i=.int k->atK l k=some d->K d J->C) (h3:∀l k d,J[n]?=some (.dictS l)->i=.str k->atK l k=some d->K d J->C):C:=by
 refine Opt.wr ?_ e;clear e
 delta ki
 dsimp only;generalize hc:J[n]?=c;rcases c with _ | ⟨⟨⟩⟩<;>first | exact trivial | (rcases i with⟨⟩<;>first | exact trivial | skip)
 ·exact Opt.map λY q=>h1 _ _ _ (.inl hc) rfl q
 ·exact Opt.map λY q=>h2 _ _ _ hc rfl q
 ·exact Opt.map λY q=>h3 _ _ _ hc rfl q
 ·exact Opt.map λY q=>h1 _ _ _ (.inr ⟨_,_,hc⟩) rfl q
theorem aea{value slice:Expr}{vo vi:Value}{o i:D}(ro:p.R vo o)(ri:p.R vi i)(hs:∀a b:Value,subscripted slice false a b=operate [a,b] (getItem a b))(e:Wr (ki p.J o i) K):ExD A p (subscriptTail value slice vo vi) K:=by
 cases o<;>first | exact e.elim | skip
 ·cases i<;>first | exact e.elim | skip
  obtain⟨x,e1,k⟩:=e.map;obtain⟨j,q1,q2⟩:=aki e1;have hb:=oy (ue e1).1;refine ro.t λa vs t r=>ri.i λu=>(av.get r j x q2).elim λy q=> ?_;exact Exx.at (R:=Ptx.R) q.2 k λQ q'=>tail_any (Heap.IsTuple.typeIs t) slot_tuple_getitem.lookup (getItem_tuple t hb.1 hb.2 (by rw[r.size];exact q1) (by rw[<-Array.getElem?_toList];exact q.1) q') (hs _ _)
 ·refine ro.l λa ma=>ag3 e (λl j d el ei e9 k=> ?_) (λl j d el ei e9 k=> ?_) λl j d el ei e9 k=> ?_
  ·subst ei;have:∃vs n,p.s.heap.get? a=some (listOf vs n)/\p.L vs.toList l:=el.elim (λel=>p.list el ma) λ⟨vs,m,el⟩=>⟨vs,m,p.st.cell _ _ _ el ma⟩
   exact this.elim λvs q=>q.elim λn q=>ri.i λu Q hQ=>tail_any (ai q.1).typeIs slot_list_getitem.lookup (afm q.1 q.2 e9 λv rv=>hQ v p _ (.refl ..) rv k) (hs _ _)
  ·subst ei;exact ri.i λu=>p.di el ma λkvs hd hk=>(hk.item e9).elim λv z=>Exx.tk (R:=Ptx.R) k λQ q=>tail_any hd.mapOf.typeIs slot_dict_getitem.lookup (wpAny_getItem_of (int_is j u) hd.mapOf z.1 (q v _ z.2)) (hs _ _)
  ·subst ei;exact ri.s λu=>p.ds el ma λkvs hd hk=>(hk.item e9).elim λv z=>Exx.tk (R:=Ptx.R) k λQ q=>tail_any hd.mapOf.typeIs slot_dict_getitem.lookup (wpAny_getItem_of (str_is j u) hd.mapOf z.1 (q v _ z.2)) (hs _ _)
end
noncomputable def n7(K:Frag)(C:Addr)(x:Str):Bool:=plainGet K C x&&hasDictIn K C&&(findIn K (.ref C) x).any (noGet K)&&
 findIn K (.ref C) "__setattr__"==some (some (.builtin "object.__setattr__"))&&plainOver K C&&takerIn K C x==some none
section
variable{g:Gl}{A:Around}{p:Ptx g}{mu:List Addr}{J:ac}{c:Cx}
theorem aaw(name:Str)(v:Value):v.isStr name=Value.isStrOf name v:=by cases v<;>rfl
theorem yq{h:Heap}{d:Addr}{kvs:List (Str×Value)}(x:h.DictOf (PySem.strKind g.prog g.w) d kvs)(name:Str):
  ∃es ep,h.get? d=some {cls:=.type "dict",data:=.dict es ep}/\KeysOf (PySem.strKind g.prog g.w) es/\Pairs (PySem.strKind g.prog g.w) es.toList kvs/\(kvs.map (·.1)).Nodup/\lookIn name {cls:=.type "dict",data:=.dict es ep}=some (valueAt kvs name):=by
 obtain⟨⟨cls,dd,data,sl⟩,es,ep,ho,hc,hd,hk,hp,hn⟩:=x;obtain⟨h1,h2,h3⟩:=hc;simp only at h1 h2 h3 hd;subst h1 h2 h3 hd;refine⟨es,ep,ho,hk,hp,hn,?_⟩;show(match es.toList.find? (·.key.isStr name) with
   | some e=>some (some e.val)
   | none=>if es.toList.any (·.refKey) then none else some none)=_
 have q:=hp.find name;have q2:(λe:DictEntry=>e.key.isStr name)=λe=>(PySem.strKind g.prog g.w).is name e.key:=funext λe=>aaw name e.key;rw[q2];cases hf:es.toList.find? λe=>(PySem.strKind g.prog g.w).is name e.key with
 | some e=>rw[hf] at q;rw[<-q];rfl
 | none=>
  rw[hf] at q;rw[<-q];have:es.toList.any (·.refKey)=false:=by
   rw[Bool.eq_false_iff];intro ha;obtain⟨e,he,hr⟩:=List.any_eq_true.mp ha;obtain⟨k,hk1,_⟩:=hk e (by simpa using he);obtain⟨t,ht⟩:=Value.isStrOf_shape hk1;simp[DictEntry.refKey,ht] at hr
  rw[this];rfl
theorem ag4{h':Heap}{d:Addr}{kvs:List (Str×Value)}{es:Array DictEntry}{ep:Nat}{name:Str}{tk:Tok}{v:Value}(hk:KeysOf (PySem.strKind g.prog g.w) es)(hp:Pairs (PySem.strKind g.prog g.w) es.toList kvs)
  (hn:(kvs.map (·.1)).Nodup) (e:h'.get? d=some (Obj.putName name (PyData.keyHash g.w.params name) (.str name tk) v {cls:=.type "dict",data:=.dict es ep})):
  h'.DictOf (PySem.strKind g.prog g.w) d (stored kvs name v)/\∃es' ep',h'.get? d=some {cls:=.type "dict",data:=.dict es' ep'}/\es'.size<=es.size+1:=by
 have q2:(λe:DictEntry=>e.key.isStr name)=λe=>(PySem.strKind g.prog g.w).is name e.key:=funext λe=>aaw name e.key;have hkey:(PySem.strKind g.prog g.w).is name (.str name tk)=true:=by simp[PySem.strKind,Value.isStrOf]
 rw[Obj.putName_eq] at e;unfold Obj.putNameByArray at e;have q3:es.findIdx? (λe=>e.key.isStr name)=es.toList.findIdx? λe=>(PySem.strKind g.prog g.w).is name e.key:=by rw[q2];obtain⟨l⟩:=es;simp
 simp only[q3] at e;have q4:=hp.findIdx name;cases hf:es.toList.findIdx? λe=>(PySem.strKind g.prog g.w).is name e.key with
 | some i=>
  rw[hf] at e q4;have ha:(kvs.any λkv=>decide (kv.1=name))=true:=any_of_findIdx_some q4.symm;refine⟨⟨_,es.modify i λe=> {e with val:=v},ep,e,⟨rfl,rfl,rfl⟩,rfl,?_,?_,?_⟩,_,ep,e,by simp⟩
  ·intro x hx;rw[<-Array.mem_toList_iff,Array.toList_modify] at hx;obtain⟨j,hj,rfl⟩:=List.getElem_of_mem hx;rw[List.getElem_modify];rw[List.length_modify] at hj;split
   ·exact hk (es.toList[j]) (by simp)
   ·exact hk (es.toList[j]) (by simp)
  ·rw[Array.toList_modify];unfold stored;rw[if_pos ha];exact hp.modify hn hf v
  ·unfold stored;rw[if_pos ha,keys_map_store];exact hn
 | none=>
  rw[hf] at e q4;have hm:=not_mem_of_findIdx_none q4.symm;have ha:¬(kvs.any λkv=>decide (kv.1=name))=true:=λz=>by
   obtain⟨kv,h1,h2⟩:=List.any_eq_true.mp z;exact hm (List.mem_map.mpr ⟨kv,h1,of_decide_eq_true h2⟩)
  refine⟨⟨_,es.push ⟨PyData.keyHash g.w.params name,.str name tk,v⟩,ep+1,e,⟨rfl,rfl,rfl⟩,rfl,?_,?_,?_⟩,_,ep+1,e,by simp⟩
  ·intro x hx;rcases Array.mem_push.mp hx with hx | rfl
   ·exact hk x hx
   ·exact⟨name,hkey,rfl⟩
  ·rw[Array.toList_push];unfold stored;rw[if_neg ha];exact hp.append hkey _ v
  ·unfold stored;rw[if_neg ha,List.map_append,List.nodup_append];exact⟨hn,by simp,λa hz b hb=>by rw[List.map_cons,List.map_nil,List.mem_singleton] at hb;rw[hb];rintro rfl;exact hm hz⟩
theorem KV.lenD{h:Heap}{kvs:List (Str×Value)}{es:List (Str×D)}{arr:Array DictEntry}(hk:KV h mu kvs es)(hp:Pairs (PySem.strKind g.prog g.w) arr.toList kvs):arr.size=es.length:=by
 rw[<-yF,hp.length,hk.length]
inductive am8(p:Ptx g)(d:Nat)(C a:Addr)(es:List (Str×D))(name:Str):Prop
 | mk (dx:Addr) (kvs:List (Str×Value)) (arr:Array DictEntry) (ep:Nat) (h1:p.mu[d]?=some dx) (h2:p.s.heap.get? a=some (instObj C dx)) (h3:p.s.heap.get? dx=some {cls:=.type "dict",data:=.dict arr ep}) (h4:KeysOf (PySem.strKind g.prog g.w) arr) (h5:Pairs (PySem.strKind g.prog g.w) arr.toList kvs) (h6:(kvs.map (·.1)).Nodup)
  (h7:KV p.s.heap p.mu kvs es) (h8:lookIn name {cls:=.type "dict",data:=.dict arr ep}=some (valueAt kvs name)) (h9:InstAt p.s.heap a (instObj C dx) C (some {cls:=.type "dict",data:=.dict arr ep})):am8 p d C a es name
theorem Ptx.inst(p:Ptx g){n d:Nat}{C a:Addr}{es:List (Str×D)}(e1:p.J[n]?=some (.inst C d))(e2:p.J[d]?=some (.dictS es))(ma:p.mu[n]?=some a)(name:Str):
  am8 p d C a es name:=by
 obtain⟨dx,md,ho⟩:=p.st.cell _ _ _ e1 ma;obtain⟨kvs,hd,hk⟩:=p.st.cell _ _ _ e2 md;obtain⟨arr,ep,ho2,k1,k2,k3,k4⟩:=yq hd name;exact⟨dx,kvs,arr,ep,md,ho,ho2,k1,k2,k3,hk,k4,⟨ho,rfl,rfl,ho2⟩⟩
theorem yr{h:Heap}{v:Value}{d:D}(r:Rep h mu v d)(e:tz d=true):handedIn v=true:=by
 cases d<;>first | exact tF e rfl | skip
 ·cases r.qG;rfl
 ·cases r.qD;rfl
 ·obtain⟨_,rfl⟩:=r;rfl
 ·obtain⟨_,rfl⟩:=r;rfl
 ·obtain⟨_,_,rfl,_⟩:=r;rfl
 ·obtain⟨_,rfl,_⟩:=r;rfl
inductive am9{β:Type}(J:ac)(o:D)(f:Nat->Addr->Nat->List (Str×D)->Option β)(r:β)(b:Addr->Bool):Prop
 | mk (n:Nat) (C:Addr) (d:Nat) (es:List (Str×D)) (h1:o=.loc n) (h2:J[n]?=some (.inst C d)) (h3:b C=true) (h4:J[d]?=some (.dictS es)) (h5:f n C d es=some r):am9 J o f r b
theorem aeb{β:Type}{o:D}{f:Nat->Addr->Nat->List (Str×D)->Option β}{r:β}{b:Addr->Bool} (e:(match o with
  | .loc n=>match J[n]? with
   | some (.inst C d)=>if b C then match J[d]? with
    | some (.dictS es)=>f n C d es
    | Y=>none
    else none
   | Y=>none
  | Y=>none)=some r):am9 J o f r b:=by
 cases o<;>w_pre e;dsimp only at e;generalize h1:J[n]?=x at e;rcases x with _ | x
 ·exact nS e rfl
 cases x<;>w_pre e;dsimp only at e;by_cases hb:b C=true
 ·rw[if_pos hb] at e;generalize h2:J[d]?=y at e;rcases y with _ | y
  ·exact nS e rfl
  cases y<;>w_pre e;exact⟨_,_,_,_,rfl,h1,hb,h2,e⟩
 ·exact nS e (if_neg hb)
theorem ag5(X:g.K.In p.s.heap)(hc:∀C x,c.attr C x=true->n7 g.K C x=true){expr:Bool}{vo:Value}{o:D}{x:Str}{K:KD}(ro:p.R vo o)(e:Wv (fz c p.J o x) (kV K p.J)):ExD A p (getAttr vo x expr) K:=by
 obtain⟨d,e,k⟩:=e.inv;obtain⟨n,C,i,es,rfl,ei,hca,ee,e9⟩:=aeb (f:=λY Z U es=>match atK es x with
     | some v=>if tz v then some v else none
     | none=>none) (b:=λC=>c.attr C x) e
 obtain⟨a,rfl,ma⟩:=ro;cases hv:atK es x with
 | none=>rw[hv] at e9;exact nS e9 rfl
 | some v=>
  rw[hv] at e9;obtain⟨hp,rfl⟩:=iS e9;have hat:=hc _ _ hca;simp only[n7,Bool.and_eq_true] at hat;obtain⟨⟨⟨⟨⟨h1,h2⟩,h3⟩,_⟩,_⟩,_⟩:=hat;obtain⟨at_,h4,h5⟩:=any_some h3;obtain⟨dx,kvs,arr,ep,md,ho,ho2,k1,k2,k3,hk,k4,I⟩:=p.inst ei ee ma x;obtain⟨u,z1,z3⟩:=hk.item hv;exact Exx.tk (R:=Ptx.R) k λQ q=>get_value X I (plainGet_of h1).1 (findObj_own h2 h4 h5 (by rw[k4,z1])) (yr z3 hp) (q _ _ z3)
theorem noRef{arr:Array DictEntry}(k1:KeysOf (PySem.strKind g.prog g.w) arr):arr.any (·.refKey)=false:=by
 rw[Bool.eq_false_iff];intro ha;rw[<-Array.any_toList] at ha;obtain⟨e,he,hr⟩:=List.any_eq_true.mp ha;obtain⟨k,hk1,_⟩:=k1 e (Array.mem_toList_iff.mp he);obtain⟨t,ht⟩:=Value.isStrOf_shape hk1;rw[DictEntry.refKey,ht] at hr;cases hr
theorem aax(X:g.K.In p.s.heap)(hc:∀C x,c.attr C x=true->n7 g.K C x=true){vo vv:Value}{o d:D}{x:Str}{K:ac->Prop}{Q:Unit->Shared->Prop}(ro:p.R vo o)(rv:p.R vv d)(e:Wv (gg c p.J o x d) K)
  (hQ:∀q:Ptx g,p.to [] q->K q.J->Q () q.s):wpAny (model g.prog g.w) A (setAttr vo x vv) Q EF p.s:=by
 obtain⟨J',e,k⟩:=e.inv;obtain⟨n,C,i,es,rfl,ei,hca,ee,e9⟩:=aeb (f:=λY Z i es=>if es.length<=64 then some (p.J.set i (.dictS (putK es x d))) else none) (b:=λC=>c.attr C x) e;obtain⟨hz,rfl⟩:=iS e9;obtain⟨a,rfl,ma⟩:=ro;have hat:=hc _ _ hca;simp only[n7,Bool.and_eq_true] at hat;obtain⟨⟨⟨⟨⟨h1,h2⟩,_⟩,h3⟩,h4⟩,h5⟩:=hat;obtain⟨dx,kvs,arr,ep,md,ho,ho2,k1,k2,k3,hk,k4,I⟩:=p.inst ei ee ma x;have hsz:arr.size<=64:=by rw[hk.lenD k2];exact hz
 refine set_plain X I (beq_iff_eq.mp h3) ?_;refine osa_open (s:={p.s with toks:=p.s.toks+1}) X I h4 (beq_iff_eq.mp h5) λb=> ?_;obtain⟨cd,hcd,hd'⟩:=any_some h2;refine yH (yI (yH (yH (wpAny_loadPart ho (yH (looks_clsIn X hcd _ _ _ _ (λY Z e=>e) ?_))))));rw[hd'];refine yI (a:=some dx) (yH (yI (yH ?_)));unfold nsSet;refine yH (yH (wpAny_askSetting (yI (yH (wpAny_mkText (yH (wpAny_loadPart ho2 ?_)))))));dsimp only;rw[aRefKeyMayBeTheName_at,show(!arr.any (·.key.isStr x)&&arr.any (·.refKey))=false by rw[noRef k1,Bool.and_false]];refine wpAny_updatePart ho2 ?_;have D':(p.s.heap.update dx (Obj.putName x (PyData.keyHash g.w.params x) (.str x (p.s.toks+1)) vv)).get? dx=some (Obj.putName x (PyData.keyHash g.w.params x) (.str x (p.s.toks+1)) vv {cls:=.type "dict",data:=.dict arr ep}):=
  Heap.get?_update_self _ ho2 (by rw[Obj.putName_eq];unfold Obj.putNameByArray;dsimp only;split<;>rfl)
 obtain⟨hd2,es',ep',q1,q2⟩:=ag4 k1 k2 k3 D';refine yH (wpAny_lookBehind q1 (pastItsLine_dict (by rw[sizeLine_eq];exact(ar2 0x111111000000720501140504022403) hsz q2)) ?_);have kt:bv p.s.heap (p.s.heap.update dx (Obj.putName x (PyData.keyHash g.w.params x) (.str x (p.s.toks+1)) vv)):=λb o e t=>by
  refine(Heap.get?_update_ne _ _ _ _ ?_).trans e;rintro rfl;rw[ho2] at e;cases e;exact(Pl.of rfl).1 t
 obtain⟨S',P'⟩:=p.st.update md (h':=p.s.heap.update dx (Obj.putName x (PyData.keyHash g.w.params x) (.str x (p.s.toks+1)) vv)) (c:=.dictS (putK es x d)) (Heap.SameBut.update ..) ⟨_,hd2,(hk.put x rv).keep kt⟩;exact yI (hQ (p.nx _ _ S') (Ptx.qC (P' [])) k)
end
section
variable{g:Gl}{A:Around}{p:Ptx g}{K:KD}{v:Value}{x:D}
theorem akj{n:Nat}(h:n<=ah):(n:Int)<2^63:=Int.ofNat_lt.mpr (yV h (by decide))
theorem ag6{J:ac}{n m:Nat}{C:Prop}(e:lenD J (.loc n)=some m)(h1:∀l,J[n]?=some (.list l)->l.length<=ah->l.length=m->C)(h2:∀l,J[n]?=some (.dictI l)->l.length<=ah->l.length=m->C)
  (h3:∀a b l,J[n]?=some (.fix a b l)->l.length<=ah->l.length=m->C) (h4:J[n]?=some (.set m)->C):C:=by
 unfold lenD at e;dsimp only at e;generalize hc:J[n]?=c at e;rcases c with _ | c
 ·exact nS e rfl
 cases c<;>w_pre e
 ·exact h1 _ hc (iS e).1 (iS e).2
 ·exact h2 _ hc (iS e).1 (iS e).2
 ·exact h4 (hc.trans (congrArg _ (congrArg _ (yD e))))
 ·exact h3 _ _ _ hc (iS e).1 (iS e).2
theorem uf{J:ac}{n:Nat}{m:List D}{C:Prop}(e:nt J (.loc n)=some m)(h1:J[n]?=some (.list m)->m.length<=ah->C):C:=by
 unfold nt at e;dsimp only at e;generalize hc:J[n]?=c at e;rcases c with _ | c
 ·exact nS e rfl
 cases c<;>w_pre e;exact h1 (hc.trans (congrArg _ (congrArg _ (iS e).2))) ((iS e).2▸(iS e).1)
theorem akk(hsys:∃o,g.h₀.get? sysModules=some o){n:Nat}(r:p.R v x)(e:lenD p.J x=some n)(k:K (.int n) p.J):ExD A p (call (.builtin "len") [v]) K:=by
 refine Exx.tk k λQ q=> ?_;have q:=λt tk=>q (.int n t) tk ⟨t,rfl⟩;cases x<;>w_pre e
 ·obtain⟨hz,rfl⟩:=iS e;refine r.t λa vs t r'=>len_tuple t (by rw[r'.size];exact akj hz) (by rw[r'.size];exact q _ _)
 ·refine r.l λa ma=>ag6 e (λl el hz e=> ?_) (λl el hz e=> ?_) (λus m l el hz e=> ?_) (λel=> ?_)
  ·subst e;exact p.ls el ma λvs k ho r'=>PySem.Calls.call_len_list (ai ho) (by rw[r'.size];exact akj hz) (by rw[r'.size];exact q _ _)
  ·subst e;exact p.di el ma λkvs hd hk=>PySem.call_len_dict (yp p ma hsys) hd (by rw[hk.length];exact akj hz) (by rw[hk.length];exact q _ _)
  ·subst e;obtain⟨ho,r'⟩:=p.st.cell _ _ _ el ma;exact PySem.Calls.call_len_list (ai ho) (by rw[r'.size];exact akj hz) (by rw[r'.size];exact q _ _)
  ·obtain⟨es,ep,t,ho,hz,hf,hn⟩:=p.st.cell _ _ _ el ma;exact PySem.call_len_set ho ⟨rfl,rfl,rfl⟩ rfl hf (by rw[hz];exact Int.lt_of_le_of_lt (Int.ofNat_le.mpr hn) (by decide)) (by rw[hz];exact q _ _)
theorem akl{i:Int}(r:p.R v x)(e:arc x=some i)(k:K (.int i) p.J):ExD A p (call (.builtin "abs") [v]) K:=by
 cases x<;>w_pre e;cases e;refine Exx.tk (R:=Ptx.R) k λQ q=>r.i λt=>call_abs_int λu tk=> ?_;rw[show∀j:Int,(if j<0 then -j else j)=(j.natAbs:Int) from λj=>by by_cases h:j<0<;>first | (rw[if_pos h,Int.ofNat_natAbs_of_nonpos (Int.le_of_lt h)];done) | rw[if_neg h,Int.natAbs_of_nonneg (Int.not_lt.mp h)]];exact q _ _ ⟨_,rfl⟩
theorem akm(hh:A.handled=none){w:Value}{y:D}{i:Int}(r:p.R v x)(r':p.R w y)(e:arb x y=some i)(k:K (.int i) p.J):ExD A p (call (.builtin "max") [v,w]) K:=by
 cases x<;>w_pre e;cases y<;>w_pre e;cases e;intro Q hQ;refine r.i λt=>r'.i λu=>max_two_ints hh λh' tk hk=> ?_;refine hQ _ (p.nx h' tk (p.st.grow hk)) _ (Ptx.qC (.grow [] hk)) ?_ k;by_cases h:i_2>i_1
 ·rw[if_pos h,if_pos h];exact⟨_,rfl⟩
 ·rw[if_neg h,if_neg h];exact⟨_,rfl⟩
theorem akn{b:Bool}(r:p.R v x)(e:yg x=some b)(k:K (.bool b) p.J):ExD A p (call (.builtin "isinstance") [v,.type "tuple"]) K:=by
 refine Exx.tk (R:=Ptx.R) k λQ q=> ?_;have q:=λtk=>q _ tk rfl;cases x<;>w_pre e
 ·cases e;exact r.n (IsiPair.NoneType_tuple (q _))
 ·cases e;exact r.b (IsiPair.bool_tuple (q _))
 ·cases e;exact r.i λY=>IsiPair.int_tuple (q _)
 ·cases e;exact r.s λY=>IsiPair.str_tuple (q _)
 ·cases e;exact r.t λa vs t Y=>by obtain⟨o,ho,hc,_⟩:=t;exact IsiPair.tuple_tuple ho hc (q p.s.toks)
theorem ako{i:Int}(r:p.R v x)(e:intD x=some i)(k:K (.int i) p.J):ExD A p (call (.type "int") [v]) K:=by
 refine Exx.tk (R:=Ptx.R) k λQ q=> ?_;have q:=λt tk=>q _ tk ⟨t,rfl⟩;cases x<;>w_pre e
 ·cases e;exact r.b (call_int_bool (q _ _))
 ·cases e;exact r.i λY=>call_int_int (q _ p.s.toks)
theorem afn{l:List D}(r:p.R v x)(e:nt p.J x=some l)(k:K (.tup l) p.J):ExD A p (call (.type "tuple") [v]) K:=by
 intro Q hQ;cases x<;>w_pre e
 ·cases e;obtain⟨a,vs,rfl,t,r'⟩:=id r;exact call_tuple_same t (hQ _ p _ (.refl ..) r k)
 ·refine r.l λa ma=>uf e λel hz=> ?_;refine p.ls el ma λvs k' ho r'=>call_tuple_list (ai ho) (λh' hk=> ?_) (by rw[r'.size];exact yK hz j8);obtain⟨S'',P'',R''⟩:=yl (p.st.grow hk) (r'.keep λb o e Y=>hk b o e) (arr:=vs);exact hQ _ (p.nx _ p.s.toks S'') _ (Ptx.qC ((bc.grow [] hk).trans P'')) R'' k
theorem ag7{l:List D}(r:p.R v x)(e:aan p.J x=some l)(k:K (.loc p.J.length) (p.J++ [.list l])):ExD A p (call (.type "list") [v]) K:=by
 have key:∀(a:Addr) (vs:Array Value) (T:String) (o:Obj) (n:Nat),(T="list"\/T="tuple")->p.s.heap.get? a=some o->o.cls=.type T->o.data=.seq vs n->p.L vs.toList l->l.length<=ah->ExD A p (call (.type "list") [.ref a]) K:=by
  intro a vs T o n hT ho hc hd r' hz Q hQ;refine call_list_seq a hT ho hc hd (λh' c' hk hn=> ?_) (by rw[r'.size];exact yK hz j8);obtain⟨S',P'⟩:=p.st.add' hk (cv p.s.heap) (yN p.st.hP) (c:=.list l) ⟨vs,c',hn,r'.mono λb o e Y=>hk b o e⟩;exact hQ _ (p.nx _ p.s.toks S') _ (Ptx.qC (P' [])) (mw p.st.len) k
 cases x<;>w_pre e
 ·obtain⟨hz,rfl⟩:=iS e;exact r.t λa vs t r'=>by obtain⟨o,ho,hc,n,hd⟩:=t;exact key a vs "tuple" o n (.inr rfl) ho hc hd r' hz
 ·refine r.l λa ma=>uf e λel hz=> ?_;exact p.ls el ma λvs k' ho r'=>key a vs "list" _ k' (.inl rfl) ho rfl rfl r' hz
end
section
variable{g:Gl}{A:Around}{p:Ptx g}{K:KD}{n:Nat}{a:Addr}{l:List D}
theorem Ptx.qN(p:Ptx g){vs ws:Array Value}{k:Nat}{l':List D}(ma:p.mu[n]?=some a)(ho:p.s.heap.get? a=some (listOf vs k))(f:Array Value->Array Value)(hf:f vs=ws)(r:p.L ws.toList l'):
  St g (p.s.heap.update a (Obj.mapSeq f)) p.mu (p.J.set n (.list l'))/\bc g [] p.mu p.s.heap p.mu (p.s.heap.update a (Obj.mapSeq f)):=by
 subst hf;have e0:∃n',Obj.mapSeq f (listOf vs k)=listOf (f vs) n':=⟨_,rfl⟩
 obtain⟨n',e0⟩:=e0;have e1:=Heap.get?_update_self (Obj.mapSeq f) ho (by rw[e0];rfl);rw[e0] at e1;have kt:bv p.s.heap (p.s.heap.update a (Obj.mapSeq f)):=λb o e t=>by
  refine(Heap.get?_update_ne _ _ _ _ ?_).trans e;rintro rfl;rw[ho] at e;cases e;exact(Pl.list ..).1 t
 obtain⟨S',P'⟩:=p.st.update ma (h':=p.s.heap.update a (Obj.mapSeq f)) (c:=.list l') (Heap.SameBut.update ..) ⟨f vs,_,e1,av.keep kt r⟩;exact⟨S',P' []⟩
theorem afo(vs:Array Value):(vs.eraseIdxIfInBounds (vs.size - 1)).toList=vs.toList.dropLast:=by
 obtain⟨l⟩:=vs;rw[Array.eraseIdxIfInBounds];split
 ·rename_i h;simp only[List.size_toArray] at h⊢;rw[<-List.eraseIdx_length_sub_one];simp
 ·rename_i h
  induction l with
  | nil=>rfl
  | cons x l=>exact absurd (yU _) h
theorem ug{v:Value}{x:D}(el:p.J[n]?=some (.list l))(ma:p.mu[n]?=some a)(hz:l.length<=ah)(r:p.R v x)(k:K .none (p.J.set n (.list (l++ [x])))):ExD A p (call (.builtin "list.append") [.ref a,v]) K:=λQ hQ=>
 p.ls el ma λvs m ho r'=>by
 refine wpAny_call_entry PySem.slot_list_append ⟨_,ho,rfl⟩ PySem.entry_list_append ?_ (PySem.args_list_append _ _);show wpAny _ _ (updateSeq a (·.push v)>>=λY=>ret .none) _ _ p.s;obtain⟨S',P'⟩:=p.qN ma ho (·.push v) rfl (l':=l++ [x]) (by rw[Array.toList_push];exact av.snoc r' r);have hz':vs.size<=sizeLine:=by rw[av.size r'];exact yK hz j8
 exact yH (wpAny_updateSeq ho rfl (yI ⟨.none,rfl,hQ _ (p.nx _ p.s.toks S') .none (Ptx.qC P') rfl k⟩))
theorem acv{m:Nat}{b:Addr}{r:List D}(el:p.J[n]?=some (.list l))(ma:p.mu[n]?=some a)(er:p.J[m]?=some (.list r))(mb:p.mu[m]?=some b)(hz:l.length+r.length<=ah)(k:K .none (p.J.set n (.list (l++r)))):
  ExD A p (call (.builtin "list.extend") [.ref a,.ref b]) K:=λQ hQ=>p.ls el ma λvs j ho r1=>p.ls er mb λws j2 ho2 r2=>by
 have hl:=r1.size;have hl2:=r2.size;have:=j8;obtain⟨S',P'⟩:=p.qN ma ho (λx=>x++ws) rfl (l':=l++r) (by rw[Array.toList_append];exact av.append r2 r1);refine call_meets PySem.F.slot_list_extend ⟨_,ho,rfl⟩ PySem.F.entry_list_extend (PySem.F.args_list_extend_2 _ _) (AutoSeq1.list_extend_list_list_0 a vs j b ws j2 ?_ (by rw[hl];exact yK (yK (Nat.le_add_right ..) hz) this) (by rw[hl,hl2];exact Nat.le_succ_of_le (yK hz this))) ⟨ho,ho2,hQ _ (p.nx _ p.s.toks S') .none (Ptx.qC P') rfl k⟩;simp[Builtin.List.listTooLong,sizeLine];exact λY=>by rw[hl,hl2];exact yK hz (by decide)
theorem akp{x:D}(el:p.J[n]?=some (.list l))(ma:p.mu[n]?=some a)(hx:l.getLast?=some x)(hz:l.length<=ah)(k:K x (p.J.set n (.list l.dropLast))):ExD A p (call (.builtin "list.pop") [.ref a]) K:=λQ hQ=>p.ls el ma λvs j ho r1=>by
 have hl:=r1.size;have:=j8;rw[List.getLast?_eq_getElem?] at hx;obtain⟨v,hv,rv⟩:=av.get r1 _ _ hx;obtain⟨S',P'⟩:=p.qN ma ho (λxs=>xs.eraseIdxIfInBounds (vs.size - 1)) rfl (l':=l.dropLast) (by rw[afo];exact av.dropLast r1);exact call_meets PySem.F.slot_list_pop ⟨_,ho,rfl⟩ PySem.F.entry_list_pop (PySem.F.args_list_pop_1 _) (MeetsSeq.list_pop_last a vs j v (by rw[hl,<-Array.getElem?_toList];exact hv) (by rw[hl];exact yK hz j8)) ⟨ho,hQ _ (p.nx _ p.s.toks S') _ (Ptx.qC P') (rv.keep P'.tup) k⟩
theorem ag8(hsys:∃o,g.h₀.get? sysModules=some o){es:List (Int×D)}{i:Int}{t:Tok}{v:Value}{d:D}(el:p.J[n]?=some (.dictI es))(ma:p.mu[n]?=some a)(rd:p.R v d)(k:K ((atK es i).getD d) p.J):
  ExD A p (call (.builtin "dict.get") [.ref a,.int i t,v]) K:=p.di el ma λkvs hd hk=>Exx.tk (R:=Ptx.R) k λQ q=>
 call_meetsIn PySem.F.slot_dict_get hd.mapOf.typeIs PySem.F.entry_dict_get (PySem.F.args_dict_get_3 _ _ _) (meets_dict_get_default (intKind g.prog g.w) a (int_is i t) (yp p ma hsys) v) ⟨_,hd.mapOf,q _ _ (by
  rcases hk.at i with⟨u,w',z1,z2,z3⟩ | ⟨z1,z2⟩
  ·rw[z1,z2];exact z3
  ·rw[z1,z2];exact rd)⟩
theorem yt{J J':ac}{i v:D}{C:Prop}(e:dw J (.loc n) i v=some J')(h1:∀l k,J[n]?=some (.list l)->i=.int k->0<=k/\small k=true/\k.toNat<l.length/\l.length<=ah->J.set n (.list (l.set k.toNat v))=J'->C)
  (h2:∀l k,J[n]?=some (.dictI l)->i=.int k->l.length<=ah->J.set n (.dictI (putK l k v))=J'->C) (h3:∀l k,J[n]?=some (.dictS l)->i=.str k->l.length<=ah->J.set n (.dictS (putK l k v))=J'->C):C:=by
 revert h1 h2 h3;refine Opt.el e ?_;clear e
 delta dw
 dsimp only;generalize hc:J[n]?=c;rcases c with _ | ⟨⟨⟩⟩<;>first | exact trivial | (rcases i with⟨⟩<;>first | exact trivial | skip)
 ·refine Opt.ite λq=> ?_;exact λh1 Y Z=>h1 _ _ rfl rfl q rfl
 ·refine Opt.ite λq=> ?_;exact λY h2 Z=>h2 _ _ rfl rfl q rfl
 ·refine Opt.ite λq=> ?_;exact λY Z h3=>h3 _ _ rfl rfl q rfl
theorem set_dict{κ:Type}[DecidableEq κ]{knd:KeyKind g.prog g.w κ}{k:κ}{key:Value}{kvs:List (κ×Value)}{es:List (κ×D)}(c:List (κ×D)->Cell){vv:Value}{d:D}{Q:Unit->Shared->Prop}(rv:p.R vv d)(hkey:knd.is k key=true)(hd:p.s.heap.DictOf knd a kvs)(hk:KV p.s.heap p.mu kvs es)(hz:es.length<=ah)
  (ma:p.mu[n]?=some a) (hc:∀h' kvs' es',h'.DictOf knd a kvs'->KV h' p.mu kvs' es'->i5 g h' p.mu a (c es')) (hQ:∀q:Ptx g,p.to [] q->q.J=p.J.set n (c (putK es k d))->Q () q.s):wpAny (model g.prog g.w) A (setItem (.ref a) key vv) Q EF p.s:=by
 refine wpAny_setItem_pairs hkey hd (λh' hd' hs'=> ?_) (by rw[hk.length];exact yK hz j8);have kt:bv p.s.heap h':=λb o e t=>by
  refine(hs'.2 b ?_).trans e;rintro rfl;obtain⟨o',_,_,e',_,d',_⟩:=hd;rw[e] at e';cases e';exact(Pl.of (o:=o) (by rw[d'];rfl)).1 t
 obtain⟨S',P'⟩:=p.st.update ma (c:=c (putK es k d)) hs' (hc _ _ _ hd' ((hk.put k rv).keep kt));exact hQ (p.nx _ _ S') (Ptx.qC (P' [])) rfl
theorem aay{vo vi vv:Value}{o i d:D}{K:ac->Prop}{Q:Unit->Shared->Prop}(ro:p.R vo o)(ri:p.R vi i)(rv:p.R vv d)(e:Wv (dw p.J o i d) K)
  (hQ:∀q:Ptx g,p.to [] q->K q.J->Q () q.s):wpAny (model g.prog g.w) A (setItem vo vi vv) Q EF p.s:=by
 obtain⟨J',e,k⟩:=e.inv;cases o<;>w_pre e;refine ro.l λa ma=>yt e (λl j el ei h es=> ?_) (λl j el ei hz es=> ?_) (λl j el ei hz es=> ?_)
 ·subst ei es;refine ri.i λt=>p.ls el ma λvs m ho r1=> ?_;obtain⟨h0,h1,h2,h3⟩:=h;have hfit:=(oy h1).2;unfold setItem;try with_reducible refine wpAny_holding ?_
  first | refine yH (yI ?_) | skip
  refine yH (wpAny_sequenceKey (ai ho).typeIs (by decide) ?_);refine yH (wpAny_callSpecial?_slot (name:=so "__setitem__") (ai ho).typeIs PySem.slot_list_setitem
   (wpAny_call_entry PySem.slot_list_setitem (ai ho).typeIs PySem.entry_list_setitem ?_ (PySem.args_list_setitem _ _ _)))
  show wpAny _ _ (Builtin.List.listSubscript? (.int j t)>>=_) _ _ p.s;refine yH (wpAny_listSubscript_int (fitsIndex_of h0 hfit) ?_);clear hfit;obtain⟨j,rfl⟩:=Int.eq_ofNat_of_zero_le h0;have hj:j<vs.size:=by rw[r1.size];exact h2
  show wpAny _ _ ((seqItemAt a j>>=λr=>pure (r.map (j,·)))>>=_) _ _ p.s;refine yH (yH (wpAny_seqItemAt ho rfl (yI ?_)));rw[Array.getElem?_eq_getElem hj];show wpAny _ _ (setSeqItemAt a j vv>>=_) _ _ p.s;obtain⟨S',P'⟩:=p.qN ma ho (·.setIfInBounds j vv) rfl (l':=l.set j d) (by rw[Array.toList_setIfInBounds];exact av.set rv j r1);refine yH (wpAny_setSeqItemAt ho rfl ?_);first
   | exact yH (yI (yI ⟨.none,rfl,yI (hQ (p.nx _ p.s.toks S') (Ptx.qC P') k)⟩))
   | exact yI ⟨.none,rfl,yI (hQ (p.nx _ p.s.toks S') (Ptx.qC P') k)⟩
 ·subst ei es;exact ri.i λt=>p.di el ma λkvs hd hk=>set_dict .dictI rv (int_is _ t) hd hk hz ma (λh' kvs' es' x y=>⟨kvs',x,y⟩) λq tq e=>hQ q tq (e▸k)
 ·subst ei es;exact ri.s λt=>p.ds el ma λkvs hd hk=>set_dict .dictS rv (str_is _ t) hd hk hz ma (λh' kvs' es' x y=>⟨kvs',x,y⟩) λq tq e=>hQ q tq (e▸k)
end
section
variable{prog:Program}{w:World}{A:Around}{E:Value->Shared->Prop}{s:Shared}
theorem aaz{v:Value}{k:Option Int}{Q:Option Int->Shared->Prop}(hv:IsPart v k)(h:Q k s):wpAny (model prog w) A (Builtin.Slice.slicePartIndex v) Q E s:=by
 induction hv with
 | none=>exact slicePart_none h
 | int i t=>exact slicePart_int h
theorem oz{sl:Addr}{n a b:Nat}{vl vu:Value}{lo hi:Option Int}{Q:Int×Int×Nat->Shared->Prop}(hs:s.heap.IsSliceOf sl vl vu .none)(pl:IsPart vl lo)(pu:IsPart vu hi)
  (ha:Builtin.Slice.sliceAdjust lo hi 1 (n:Int)=((a:Int),(b:Int))) (hab:a<=b) (h:Q ((a:Int),1,b - a) s):
  wpAny (model prog w) A (Builtin.Slice.sliceApplied (.ref sl) (pure (n:Int))) Q E s:=by
 obtain⟨os,hos,hcs,hds⟩:=id hs;unfold Builtin.Slice.sliceApplied Builtin.Slice.sliceFields;refine yH (yH (wpAny_field hos hds (x:=vl) rfl (yH (wpAny_field hos hds (x:=vu) rfl (yH (wpAny_field hos hds (x:=.none) rfl (yI ?_)))))));refine yH (slicePart_none ?_);show wpAny _ _ (if((1:Int)==0)=true then _ else _) _ _ s;rw[if_neg (by decide)];refine yH (aaz pl (yH (aaz pu (yH (yI ?_)))));show wpAny _ _ (match Builtin.Slice.sliceAdjust lo hi 1 (n:Int) with | (lo,hi)=>pure (lo,(1:Int),Builtin.Slice.slicePlaces lo hi 1)) _ _ s;rw[ha];show wpAny _ _ (pure ((a:Int),(1:Int),Builtin.Slice.slicePlaces (a:Int) (b:Int) 1)) _ _ s;rw[places_from a b hab];exact yI h
theorem afp(xs:Array Value)(a k:Nat):((List.range k).filterMap λ(j:Nat)=>xs[((a:Int)+(j:Int)*1).toNat]?).toArray=((xs.toList.drop a).take k).toArray:=by
 have e:(λ(j:Nat)=>xs[((a:Int)+(j:Int)*1).toNat]?)=λj=>xs[a+j]?:=by
  funext j
  have:((a:Int)+(j:Int)*1).toNat=a+j:=by rw[Int.mul_one];rfl
  rw[this]
 rw[e];have:=pick_run xs a k;rw[List.filterMap_map] at this;have e2:((λx=>xs[x]?)∘λx=>a+x)=λk=>xs[a+k]?:=rfl;rw[e2] at this;rw[this]
theorem n8{t sl:Addr}{items:Array Value}{a b:Nat}{vl vu:Value}{lo hi:Option Int}{Q:Value->Shared->Prop}(ht:IsTup s.heap t items)(hs:s.heap.IsSliceOf sl vl vu .none)(pl:IsPart vl lo)(pu:IsPart vu hi)
  (ha:Builtin.Slice.sliceAdjust lo hi 1 (items.size:Int)=((a:Int),(b:Int))) (hab:a<=b) (hb:b<=items.size) (hw:¬(a=0/\b=items.size))
  (h:Q (.ref s.heap.objs.size) {s with heap:=s.heap.push {cls:=.type "tuple",data:=.seq ((items.toList.drop a).take (b - a)).toArray}})
  (hsz:items.size<=sizeLine):wpAny (model prog w) A (getItem (.ref t) (.ref sl)) Q E s:=by
 have hdrop:sizeOk (.seq ((items.toList.drop a).take (b - a)).toArray):=by
  show((items.toList.drop a).take (b - a)).toArray.size<=sizeLine;rw[List.size_toArray,List.length_take,List.length_drop,yF];exact yK (Nat.min_le_right _ _) (yK (Nat.sub_le _ _) hsz)
 obtain⟨os,hos,hcs,hds⟩:=id hs;have hTs:s.TypeIs (.ref sl) "slice":=⟨os,hos,hcs⟩
 unfold getItem;try with_reducible refine wpAny_holding ?_
 first | refine yH (yI ?_) | skip
 refine yH (wpAny_sequenceKey ht.typeIs (by decide) ?_);refine yH (wpAny_callSpecial?_slot (name:=so "__getitem__") ht.typeIs slot_tuple_getitem
  (wpAny_call_entry slot_tuple_getitem ht.typeIs entry_tuple_getitem ?_ (args_tuple_getitem _ _)))
 show wpAny _ _ (Builtin.Tuple.tupleItemsOf (.ref t)>>=_) _ _ s;refine yH (tupleItemsOf_ ht ?_);refine yH (wpAny_typeOf hTs ?_);rw[if_pos (by decide)];refine yH (oz hs pl pu ha hab ?_);have hno:¬(((a:Int)==0&&(1:Int)==1&&(b - a)==items.size)=true):=by
  intro z;simp only[Bool.and_eq_true,beq_iff_eq] at z;have a0:a=0:=Int.ofNat.inj z.1.1;subst a0;exact hw ⟨rfl,z.2⟩
 show wpAny _ _ (if((a:Int)==0&&(1:Int)==1&&(b - a)==items.size)=true then _ else _) _ _ s;rw[if_neg hno,afp items a (b - a)];first
  | exact yH (m:=Builtin.Tuple.tupleExact _) (wpAny_newObj_type (yI ⟨_,rfl,yI h⟩) hdrop)
  | exact yH (m:=Builtin.Tuple.tupleExact _) (wpAny_newObj_type (yH (yI (yI ⟨_,rfl,yI h⟩))) hdrop)
  | exact yH (yH (m:=Builtin.Tuple.tupleExact _) (wpAny_newObj_type (yI (yI ⟨_,rfl,yI h⟩)) hdrop))
  | exact yH (yH (m:=Builtin.Tuple.tupleExact _) (wpAny_newObj_type (yI ⟨_,rfl,yI h⟩) hdrop))
end
theorem yu{a n:Nat}(h:a<=n):(if(a:Int)<0 then max ((a:Int)+n) 0 else min (a:Int) n)=a:=by rw[if_neg (Int.not_lt.mpr (Int.natCast_nonneg a)),Int.min_eq_left (Int.ofNat_le.mpr h)]
noncomputable def PD(d:D)(x:Option Int):Prop:=(d=.none/\x=none)\/∃i,d=.int i/\x=some i
theorem ag9{l r:List D}{lo hi st:D}{C:Prop}(e:wi l lo hi st=some r)(h:∀(x y:Option Int) (a b:Nat),PD lo x->PD hi y->st=.none->Builtin.Slice.sliceAdjust x y 1 (l.length:Int)=((a:Int),(b:Int))->a<=b->b<=l.length->¬(a=0/\b=l.length)->(l.drop a).take (b - a)=r->C):C:=by
 revert h;refine Opt.el e ?_;clear e;rcases st with⟨⟩<;>first | exact trivial | skip
 rcases lo with⟨⟩<;>first | exact trivial | (rcases hi with⟨⟩<;>first | exact trivial | skip)
 ·refine Opt.ite λ⟨h1,h2⟩ h=> ?_;obtain⟨n,rfl⟩:=Int.eq_ofNat_of_zero_le h1;refine h none (some (n:Int)) 0 n (.inl ⟨rfl,rfl⟩) (.inr ⟨_,rfl,rfl⟩) rfl ?_ (Nat.zero_le _) (Nat.le_of_lt h2) (λz=>absurd h2 (z.2▸Nat.lt_irrefl _)) rfl;have h2:n<l.length:=h2;exact congrArg (Prod.mk 0) (yu (Nat.le_of_lt h2))
 ·refine Opt.ite λ⟨h1,h2⟩ h=> ?_;obtain⟨n,rfl⟩:=Int.eq_ofNat_of_zero_le (a:=i) (yW (by decide) h1);exact h (some (n:Int)) none n l.length (.inr ⟨_,rfl,rfl⟩) (.inl ⟨rfl,rfl⟩) rfl (adjust_from n l.length h2) h2 (yE _) (λz=>by rw[z.1] at h1;exact absurd h1 (by decide)) (by rw[<-List.length_drop,List.take_length];rfl)
 ·refine Opt.ite λh1 h=> ?_;obtain⟨n,rfl⟩:=Int.eq_ofNat_of_zero_le (a:=i) (yW (by decide) h1.1);obtain⟨m,rfl⟩:=Int.eq_ofNat_of_zero_le (a:=i_1) (yW (by decide) (yW h1.1 h1.2.1));have hm:m<=l.length:=h1.2.2;refine h (some (n:Int)) (some (m:Int)) n m (.inr ⟨_,rfl,rfl⟩) (.inr ⟨_,rfl,rfl⟩) rfl ?_ (Int.ofNat_le.mp h1.2.1) hm (λz=>by rw[z.1] at h1;exact absurd h1.1 (by decide)) rfl;exact Prod.ext (yu (yK (Int.ofNat_le.mp h1.2.1) hm)) (yu hm)
theorem aha{l r:List D}{lo hi st:D}{C:Prop}(e:agv l lo hi st=some r)(h:∀(x y z:Option Int),PD lo x->PD hi y->PD st z->z≠some 0->(∀vs:Array Value,∀mu h,av h mu vs.toList l->∃ws,slicePick vs x y z=ws.toArray/\av h mu ws r)->C):C:=by
 revert h;refine Opt.el e ?_;clear e;rcases lo with⟨⟩<;>first | exact trivial | (rcases hi with⟨⟩<;>first | exact trivial | (rcases st with⟨⟩<;>first | exact trivial | skip))
 ·refine Opt.ite λz h=> ?_;subst z;exact h none none (some (-1)) (.inl ⟨rfl,rfl⟩) (.inl ⟨rfl,rfl⟩) (.inr ⟨_,rfl,rfl⟩) (by decide) λvs mu h r=>⟨_,krv_pick vs,r.reverse⟩
 ·refine Opt.ite λh1 h=> ?_;obtain⟨n,rfl⟩:=Int.eq_ofNat_of_zero_le h1;exact h none (some (n:Int)) none (.inl ⟨rfl,rfl⟩) (.inr ⟨_,rfl,rfl⟩) (.inl ⟨rfl,rfl⟩) nofun λvs mu h r=>⟨_,slicePick_upto' vs n,r.take n⟩
section
variable{g:Gl}{A:Around}{p:Ptx g}{K:KD}
theorem ahb{i:Expr}{a b:Value}(hns:ku i=true):subscripted i false a b=operate [a,b] (getItem a b):=by
 rcases i with⟨⟩<;>first | rfl | exact tF hns rfl
theorem arf{i:Expr}(h:¬ku i=true):∃lo hi st p,i=.Slice lo hi st p:=by
 by_cases q:i.ctorIdx=26
 ·exact Expr.Slice.elim (motive_1:=λi=> ∃lo hi st p,i=.Slice lo hi st p) i q λY Z U V=>⟨_,_,_,_,rfl⟩
 ·exact absurd (ard q) h
theorem akq(slice:Expr)(a b:Value):∃ops,subscripted slice false a b=operate ops (getItem a b):=by
 by_cases h:ku slice=true
 ·exact⟨_,ahb h⟩
 ·obtain⟨lo,hi,st,p,rfl⟩:=arf h;rcases lo with _ | _<;>rcases hi with _ | _<;>rcases st with _ | _<;>exact⟨_,rfl⟩
theorem Rep.part{h:Heap}{mu:List Addr}{v:Value}{d:D}{x:Option Int}(r:Rep h mu v d)(q:PD d x):IsPart v x:=by
 rcases q with⟨rfl,rfl⟩ | ⟨i,rfl,rfl⟩
 ·cases r.qG;exact .none
 ·obtain⟨t,rfl⟩:=r.qM;exact .int i t
theorem acw{J:ac}{o lo hi st:D}{C:D->Prop}(e:Wr (km J o lo hi st) K)(h1:∀l r,l.length<=ah->wi l lo hi st=some r->K (.tup r) J->C (.tup l))(h2:∀n l r,J[n]?=some (.list l)->l.length<=ah->agv l lo hi st=some r->K (.loc J.length) (J++ [.list r])->C (.loc n)):C o:=by
 cases o<;>first | exact e.elim | skip
 ·by_cases hz:l.length<=ah
  ·have e:Wr ((wi l lo hi st).map λr=>(D.tup r,J)) K:=by rw[<-if_pos (c:=l.length<=ah) hz (t:=(wi l lo hi st).map λr=>(D.tup r,J)) (e:=none)];exact e
   exact e.map.elim λr q=>h1 l r hz q.1 q.2
  ·have e:Wr none K:=by rw[<-if_neg (c:=l.length<=ah) hz (t:=(wi l lo hi st).map λr=>(D.tup r,J)) (e:=none)];exact e
   exact e.elim
 ·unfold km at e;dsimp only at e;generalize hc:J[n]?=c at e;rcases c with _ | c
  ·exact e.elim
  cases c<;>first | exact e.elim | skip
  dsimp only at e;by_cases hz:l.length<=ah
  ·rw[if_pos hz] at e;exact e.map.elim λr q=>h2 n l r hc hz q.1 q.2
  ·rw[if_neg hz] at e;exact e.elim
noncomputable def Ptx.sl(p:Ptx g)(vl vu vs:Value):Ptx g:=p.nx (p.s.heap.push {cls:=.type "slice",data:=.fields #[vl,vu,vs]}) p.s.toks (p.st.grow λY Z e=>yT _ e)
theorem Ptx.sl_to{p:Ptx g}{vl vu vs:Value}:p.to [] (p.sl vl vu vs):=Ptx.qC (.grow [] λY Z e=>yT _ e)
theorem afq{value slice:Expr}{vo vl vu vs:Value}{o lo hi st:D}(ro:p.R vo o)(rl:p.R vl lo)(ru:p.R vu hi)(rs:p.R vs st)(e:Wr (km p.J o lo hi st) K):ExD A (p.sl vl vu vs) (subscriptTail value slice vo (.ref p.s.heap.objs.size)) K:=by
 have hsl:(p.sl vl vu vs).s.heap.IsSliceOf p.s.heap.objs.size vl vu vs:=Heap.IsSliceOf.new p.s.heap vl vu vs;have:=j8;have ro:=ro.to (Ptx.sl_to (vl:=vl) (vu:=vu) (vs:=vs));generalize hq:p.sl vl vu vs=q at hsl ro;have hσ:q.J=p.J:=by rw[<-hq];rfl
 rw[<-hσ] at e;clear hq;obtain⟨ops,hs⟩:=akq slice vo (.ref p.s.heap.objs.size);refine acw (C:=λo=>q.R vo o->ExD A q _ K) e (λl r hz e k ro=> ?_) (λn l r el hz e k ro=> ?_) ro
 ·revert hs;refine ro.t λa ws t r' hs=>ag9 e λx y a' b' px py hst ha hab hb hw he=> ?_;subst hst he;cases rs.qG;have hl:=r'.size;refine Exx.tup (arr:=((ws.toList.drop a').take (b' - a')).toArray) (av.take _ (av.drop _ r')) k λQ h=> ?_;exact tail_any (IsTup.typeIs t) slot_tuple_getitem.lookup (n8 t hsl (rl.part px) (ru.part py) (a:=a') (b:=b') (by rw[hl];exact ha) hab (by rw[hl];exact hb) (by rw[hl];exact hw) h (by rw[hl];exact yK hz j8)) hs
 ·revert hs;refine ro.l λa ma hs=>aha e λx y z px py pz hz0 hp=>q.ls el ma λws m ho r'=>(hp ws _ _ r').elim λus h=> ?_;refine Exx.list (arr:=us.toArray) h.2 k λQ h'=> ?_;exact tail_any (ai ho).typeIs slot_list_getitem.lookup (wpAny_getItem_list_slice (ai ho) hsl (rl.part px) (ru.part py) (rs.part pz) hz0 (by rw[h.1];exact h') (by rw[r'.size];exact yK hz j8)) hs
end
theorem jx{e:Expr}{x:Str}(h:asName e=some x):∃p,e=.Name x p:=
 (dI h).elim λq h=>Expr.Name.elim (motive_1:=λe=> ∀q,Expr.Name.elim (motive_1:=λY=>_) e q (λx Y=>some x)=some x->∃p,e=.Name x p) e q (λy p Y h=>⟨p,congrArg (λz=>Expr.Name z p) (yD h)⟩) q h
theorem afr{e:Expr}{es:List Expr}(h:ad5 e=some es):∃m p,e=.Tuple es m p:=
 (dI h).elim λq h=>Expr.Tuple.elim (motive_1:=λe=> ∀q,Expr.Tuple.elim (motive_1:=λY=>_) e q (λx Y Z=>some x)=some es->∃m p,e=.Tuple es m p) e q (λy m p Y h=>⟨m,p,congrArg (λz=>Expr.Tuple z m p) (yD h)⟩) q h
theorem afs{e:Expr}{o:Expr×Expr}(h:am5 e=some o):∃p,e=.Subscript o.1 o.2 p:=
 (dI h).elim λq h=>Expr.Subscript.elim (motive_1:=λe=> ∀q,Expr.Subscript.elim (motive_1:=λY=>_) e q (λx y Y=>some (x,y))=some o->∃p,e=.Subscript o.1 o.2 p) e q (λy m p Y h=>⟨p,congrArg (λo:Expr×Expr=>Expr.Subscript o.1 o.2 p) (yD h)⟩) q h
structure ik(A:Around)(n:Nat):Prop where
 handled:A.handled=none
 depth:A.depth+3*n<=900
 units:A.units+20*n<=9000
theorem ik.cmp{A:Around}{n:Nat}(R:ik A n):A.units+gc<cLine:=
 yV (Nat.add_le_add_right (yK (Nat.le_add_right _ _) R.units) _) (by decide+kernel)
structure arh(g:Gl)(fd:FuncData)(c cc:Addr)(x p:Str)(p1 p2 p3 ap:Pos):Prop where
 params:fd.params=⟨[],[⟨x,none,ap⟩],none,[],[],none,[]⟩
 body:fd.body=.expr (.Subscript (.Name p p1) (.Name x p2) p3)
 qual:fd.qualname=g.lamQ
 code:fd.code=.ref c
 glob:fd.globals=mainGlobals
 blt:fd.builtins=builtinsNs
 clo:fd.closure=[(p,cc)]
 dv:fd.defaults=.none
 kv:fd.kwdefaults=.none
 kind:fd.scope.kind=.function
 gen:fd.scope.isGenerator=false
 co:fd.scope.isCoroutine=false
 lx:fd.scope.names.lookup x=some .local
 lp:fd.scope.names.lookup p=some .free
 nc:∀y∈fd.scope.names,y.2≠ .cell
 gx:b9 x=true
 gp:b9 p=true
 ne:p≠x
inductive ana(g:Gl)(h:Heap)(a c cc:Addr):Prop
 | mk (o:Obj) (fd:FuncData) (x p:Str) (p1 p2 p3 ap:Pos) (h1:h.get? a=some o) (h2:o.data=.func fd) (F:arh g fd c cc x p p1 p2 p3 ap):ana g h a c cc
structure xi(g:Gl)(h:Heap)(mu:List Addr)(n:Nat)(a c cc:Addr):Prop where
 m:∀x∈ [a,c,cc],x∉mu/\x≠g.P
 fn:ana g h a c cc
 code:h.CodeRec (.ref c) g.lamQ
 cell:∃b,h.IsCell cc (some (.ref b))/\mu[n]?=some b
noncomputable def cw(g:Gl)(own:List Addr)(h:Heap)(mu:List Addr)(v:Value):D->Prop
 | .lam n=> ∃a c cc,v=.ref a/\xi g h mu n a c cc/\∀x∈ [a,c,cc],x∉own
 | d=>Rep h mu v d
theorem cw.of{g:Gl}{own:List Addr}{h:Heap}{mu:List Addr}{v:Value}:∀{d:D},Rep h mu v d->cw g own h mu v d
 | .lam Y,r=>r.elim
 | .none,r | .bool Y,r | .int Z,r | .str U,r | .tup V,r | .loc N,r | .val O,r=>r
theorem cw.rep{g:Gl}{own:List Addr}{h:Heap}{mu:List Addr}{v:Value}:∀{d:D},cw g own h mu v d->ao d=true->Rep h mu v d
 | .lam Y,Z,e=>nomatch e
 | .none,r,Y | .bool Z,r,U | .int V,r,N | .str O,r,H | .tup G,r,I | .loc R,r,S | .val T,r,B=>r
inductive FrK:Data->Prop
 | fn (fd:FuncData):FrK (.func fd)
 | cell (ov:Option Value):FrK (.cell ov)
 | code {vs:Array Value} {s:Str} {t:Tok} (e:vs[1]?=some (.str s t)):FrK (.fields vs)
structure Mv(g:Gl)(X:Addr->Prop)(h:Heap)(mu:List Addr)(h':Heap)(mu':List Addr):Prop where
 ext:∃t,mu'=mu++t/\∀a∈t,h.get? a=none
 keep:∀b o,h.get? b=some o->¬X b->b≠g.P->b∉mu->h'.get? b=some o
 tup:bv h h'
section
variable{g:Gl}{own:List Addr}{h h':Heap}{mu mu':List Addr}{X:Addr->Prop}{v:Value}{d:D}
theorem Mv.out(M:Mv g X h mu h' mu'){a:Addr}(hm:a∉mu){o:Obj}(e:h.get? a=some o):a∉mu':=λm=>by
 obtain⟨t,rfl,ft⟩:=M.ext;rcases List.mem_append.mp m with m | m
 ·exact hm m
 ·rw[ft a m] at e;cases e
theorem Mv.at(M:Mv g X h mu h' mu'){i:Nat}{a:Addr}(e:mu[i]?=some a):mu'[i]?=some a:=by
 obtain⟨t,rfl,_⟩:=M.ext;exact kx e
theorem bc.mv(p:bc g own mu h mu' h'):Mv g (·∈own) h mu h' mu':=⟨p.ext,λb o e n q m=>p.keep b o e (.inl ⟨n,q,m⟩),p.tup⟩
theorem Mv.rep(M:Mv g X h mu h' mu')(r:Rep h mu v d):Rep h' mu' v d:=by
 have:=M.tup;obtain⟨t,rfl,_⟩:=M.ext;exact r.mono this
theorem xi.mv{n:Nat}{a c cc:Addr}(L:xi g h mu n a c cc)(M:Mv g X h mu h' mu')(nx:∀x∈ [a,c,cc],∀o,h.get? x=some o->FrK o.data->¬X x):xi g h' mu' n a c cc:=by
 have kp:∀x∈ [a,c,cc],∀o,h.get? x=some o->FrK o.data->h'.get? x=some o:=λx hx o e k=>M.keep x o e (nx x hx o e k) (L.m x hx).2 (L.m x hx).1;have ma:a∈ [a,c,cc]:=.head _;have mc:c∈ [a,c,cc]:=.tail _ (.head _);have md:cc∈ [a,c,cc]:=.tail _ (.tail _ (.head _));obtain⟨o,fd,x,p,p1,p2,p3,ap,ho,hd,F⟩:=L.fn;obtain⟨_,oc,vs,t,ec,hc,hcd,hv⟩:=L.code;cases ec;obtain⟨b,⟨ob,hb,hbd⟩,hn⟩:=L.cell;have ka:FrK o.data:=by rw[hd];exact .fn _
 have kc:FrK oc.data:=by rw[hcd];exact .code hv
 have kd:FrK ob.data:=by rw[hbd];exact .cell _
 refine⟨λy hy=>⟨?_,(L.m y hy).2⟩,⟨o,fd,x,p,p1,p2,p3,ap,kp a ma o ho ka,hd,F⟩,⟨c,oc,vs,t,rfl,kp c mc oc hc kc,hcd,hv⟩,b,⟨ob,kp cc md ob hb kd,hbd⟩,M.at hn⟩;rcases hy with _ | ⟨_,_ | ⟨_,_ | ⟨_,h⟩⟩⟩
 ·exact M.out (L.m a ma).1 ho
 ·exact M.out (L.m c mc).1 hc
 ·exact M.out (L.m cc md).1 hb
 ·cases h
theorem cw.mv{own':List Addr}(M:Mv g X h mu h' mu')(nx:∀x o,h.get? x=some o->FrK o.data->x∉own'->¬X x):∀{d:D},cw g own' h mu v d->cw g own' h' mu' v d
 | .lam Y,r=>by obtain⟨a,c,cc,e,L,no⟩:=r;exact⟨a,c,cc,e,L.mv M λx hx o e k=>nx x o e k (no x hx),no⟩
 | .none,r | .bool Y,r | .int Z,r | .str U,r | .tup V,r | .loc N,r | .val O,r=>M.rep (d:=_) r
theorem bc.repA{own':List Addr}(p:bc g own mu h mu' h')(hs:∀a∈own,a∈own')(r:cw g own' h mu v d):cw g own' h' mu' v d:=r.mv p.mv λx Y Z U n m=>n (hs x m)
theorem cw.forget:∀{d:D},cw g own h mu v d->cw g [] h mu v d
 | .lam Y,r=>by obtain⟨a,c,cc,e,L,_⟩:=r;exact⟨a,c,cc,e,L,λY Z m=>nomatch m⟩
 | .none,r | .bool Y,r | .int Z,r | .str U,r | .tup V,r | .loc N,r | .val O,r=>r
theorem cw.fresh{own':List Addr}(f:∀a∈own',h.get? a=none):∀{d:D},cw g own h mu v d->cw g own' h mu v d
 | .lam Y,r=>by
  obtain⟨a,c,cc,e,L,_⟩:=r;refine⟨a,c,cc,e,L,λy hy m=> ?_⟩;have hn:=f y m;obtain⟨o,fd,x,p,p1,p2,p3,ap,ho,hd,F⟩:=L.fn;obtain⟨_,oc,vs,t,ec,hc,hcd,hv⟩:=L.code;cases ec;obtain⟨b,⟨ob,hb,hbd⟩,hm⟩:=L.cell;rcases hy with _ | ⟨_,_ | ⟨_,_ | ⟨_,h⟩⟩⟩
  ·rw[hn] at ho;cases ho
  ·rw[hn] at hc;cases hc
  ·rw[hn] at hb;cases hb
  ·cases h
 | .none,r | .bool Y,r | .int Z,r | .str U,r | .tup V,r | .loc N,r | .val O,r=>r
end
noncomputable def ci(g:Gl)(own:List Addr)(h:Heap)(mu:List Addr):List Value->List D->Prop
 | vs,[]=>vs=[]
 | vs,d::ds=> ∃v ws,vs=v::ws/\cw g own h mu v d/\ci g own h mu ws ds
termination_by structural _ ds=>ds
section
variable{g:Gl}{own own':List Addr}{h h':Heap}{mu mu':List Addr}
theorem ci.nil:ci g own h mu [] []:=rfl
theorem ci.cons{v:Value}{d:D}{vs:List Value}{ds:List D}(r:cw g own h mu v d)(q:ci g own h mu vs ds):ci g own h mu (v::vs) (d::ds):=⟨v,vs,rfl,r,q⟩
theorem ci.of:∀{ds:List D} {vs:List Value},av h mu vs ds->ci g own h mu vs ds
 | [],Y,r=>r
 | Y::Z,U,r=>by obtain⟨v,ws,e,a,q⟩:=r;exact⟨v,ws,e,.of a,.of q⟩
theorem ci.length:∀{ds:List D} {vs:List Value},ci g own h mu vs ds->vs.length=ds.length
 | [],Y,r=>congrArg List.length r
 | Y::Z,U,r=>by obtain⟨_,_,e,_,q⟩:=r;exact(congrArg List.length e).trans (congrArg Nat.succ q.length)
theorem ci.mono(k:∀v d,cw g own h mu v d->cw g own' h' mu' v d):∀{ds:List D} {vs:List Value},ci g own h mu vs ds->ci g own' h' mu' vs ds
 | [],Y,r=>r
 | Y::Z,U,r=>by obtain⟨v,ws,e,a,q⟩:=r;exact⟨v,ws,e,k _ _ a,q.mono k⟩
theorem ci.append{vs':List Value}{ds':List D}(y:ci g own h mu vs' ds'):∀{ds:List D} {vs:List Value},ci g own h mu vs ds->ci g own h mu (vs++vs') (ds++ds')
 | [],Y,r=>(show _=_ from r)▸y
 | Y::Z,U,r=>by obtain⟨v,ws,e,a,q⟩:=r;exact⟨v,ws++vs',by rw[e];rfl,a,ci.append y q⟩
theorem ci.rep:∀{ds:List D} {vs:List Value},ci g own h mu vs ds->ds.all ao=true->av h mu vs ds
 | [],Y,r,Z=>r
 | d::ds,Y,r,e=>by
  rw[List.all_cons,Bool.and_eq_true] at e;exact let⟨v,ws,e',a,q⟩:=r;⟨v,ws,e',a.rep e.1,q.rep e.2⟩
end
noncomputable def ownOf(sc:aq)(env:Env):List Addr:=env.locals::sc.filterMap λx=>if x.2=.cell then env.cells.lookup x.1 else none
structure akr(g:Gl)(env:Env)(h:Heap)(mu:List Addr)(a:Addr):Prop where
 m:a∉mu
 p:a≠g.P
 z:g.h₀.get? a=none
 o:∃o,h.get? a=some o/\((a=env.locals/\∃es ep,o.data=.dict es ep)\/∃ov,o.data=.cell ov)
theorem akr.pl{g:Gl}{env:Env}{h:Heap}{mu:List Addr}{a:Addr}(x:akr g env h mu a)(o:Obj)(e:h.get? a=some o):Pl o:=by
 obtain⟨o',e',k⟩:=x.o;rw[e] at e';cases e';rcases k with⟨_,_,_,k⟩ | ⟨_,k⟩<;>exact .of (by rw[k];rfl)
structure aoa(g:Gl)(env:Env)(sc:aq)(ρ:af)(h:Heap)(mu:List Addr)(x:Str)(c:Addr)(ov:Option Value):Prop where
 look:env.cells.lookup x=some c
 cell:h.IsCell c ov
 m:c∉mu
 p:c≠g.P
 l:c≠env.locals
 v:∀d,ρ x=some d->∃v,ov=some v/\cw g (ownOf sc env) h mu v d
structure kz(g:Gl)(env:Env)(sc:aq)(ρ:af)(h:Heap)(mu:List Addr):Prop where
 kind:env.scope.kind=.function
 glob:env.globals=mainGlobals
 blt:env.builtins=builtinsNs
 names:∀x k,sc.lookup x=some k->env.kindOf x=some k\/(k=.free/\env.kindOf x=some .cell)
 priv:∀a∈ownOf sc env,akr g env h mu a
 ns:∃m,h.Ns env.locals m/\∀x d,sc.lookup x=some .local->ρ x=some d->∃v,m x=some v/\cw g (ownOf sc env) h mu v d
 cells:∀x,sc.lookup x=some .cell\/sc.lookup x=some .free->∃c ov,aoa g env sc ρ h mu x c ov
 apart:∀x y c,sc.lookup x=some .cell->(sc.lookup y=some .cell\/sc.lookup y=some .free)->env.cells.lookup x=some c->env.cells.lookup y=some c->x=y
 lam:sc.lookup g.T.lamV=some .cell->env.code=.ref g.lamC/\env.qual++"<lambda>"=g.lamQ
 pl:∀x d,ρ x=some d->(x==g.T.lamP)=false->ao d=true
section
variable{g:Gl}{env:Env}{sc:aq}{ρ:af}{h h':Heap}{mu mu':List Addr}{X:Addr->Prop}
theorem aec{x:Str}{c:Addr}(e:sc.lookup x=some .cell)(ec:env.cells.lookup x=some c):c∈ownOf sc env:=
 List.mem_cons_of_mem _ (List.mem_filterMap.mpr ⟨(x,.cell),mem_of_lookup e,(if_pos rfl).trans ec⟩)
theorem o8:env.locals∈ownOf sc env:=yP
theorem kz.mv(E:kz g env sc ρ h mu)(M:Mv g X h mu h' mu')(nx:∀x o,h.get? x=some o->FrK o.data->¬X x)(nl:¬X env.locals):kz g env sc ρ h' mu':=by
 have ra:∀{v:Value} {d:D},cw g (ownOf sc env) h mu v d->cw g (ownOf sc env) h' mu' v d:=cw.mv M λx o e k Y=>nx x o e k;refine⟨E.kind,E.glob,E.blt,E.names,λa ha=> ?_,?_,λx hx=> ?_,E.apart,E.lam,E.pl⟩
 ·have P:=E.priv a ha;obtain⟨o,e,k⟩:=P.o;exact⟨M.out P.m e,P.p,P.z,o,M.keep _ _ e (k.elim (λk=>k.1▸nl) λk=>nx _ _ e (k.elim λY q=>q▸ .cell _)) P.p P.m,k⟩
 ·obtain⟨m,⟨o,es,ep,e,r⟩,hv⟩:=E.ns;have P:=E.priv _ o8;exact⟨m,⟨o,es,ep,M.keep _ _ e nl P.p P.m,r⟩,λx d e1 e2=>(hv x d e1 e2).imp λY q=>⟨q.1,ra q.2⟩⟩
 ·obtain⟨c,ov,C⟩:=E.cells x hx;obtain⟨o,e2,e3⟩:=C.cell;exact⟨c,ov,C.look,⟨o,M.keep _ _ e2 (nx _ _ e2 (e3▸ .cell _)) C.p C.m,e3⟩,M.out C.m e2,C.p,C.l,λd ed=>(C.v d ed).imp λY q=>⟨q.1,ra q.2⟩⟩
theorem kz.post(E:kz g env sc ρ h mu)(p:bc g [] mu h mu' h'):kz g env sc ρ h' mu':=E.mv p.mv (λY Z U V m=>nomatch m) (λm=>nomatch m)
end
noncomputable def ahc(g:Gl)(x:Str)(d:D):Prop:=∃v,Rep g.h₀ [] v d/\(g.mg x=some v\/(g.mg x=none/\g.mb x=some v))
structure Fit(g:Gl):Prop where
 K:∀a o,g.K.lookup a=some o->g.h₀.get? a=some o/\a≠g.P
 ns:g.h₀.Ns mainGlobals g.mg
 nsP:mainGlobals≠g.P
 nsb:g.h₀.Ns builtinsNs g.mb
 nsbP:builtinsNs≠g.P
 lim:g.h₀.NoLimit
 limP:cStatics≠g.P
 sys:∃o,g.h₀.get? sysModules=some o
 bat:g.h₀.BuiltinsAt g.mg g.P
 hd:∀h,Old g h->CodeHd h g.lamC g.P
 lam0:g.lamOk g.h₀
noncomputable def Ptx.A(g:Gl)(p:Ptx g)(v:Value)(d:D):Prop:=cw g [] p.s.heap p.mu v d
noncomputable def Ptx.AL(g:Gl)(p:Ptx g)(v:List Value)(d:List D):Prop:=ci g [] p.s.heap p.mu v d
structure uh(g:Gl)(c:Cx)(n:Nat):Prop where
 glob:∀x d,c.glob x=some d->ahc g x d
 meth:∀C m f,c.meth C m=some f->∃a,f=.val (.ref a)/\plainGet g.K C m=true/\findIn g.K (.ref C) m=some (some (.ref a))/\isFn g.K (.ref a)=true/\keepIn g.K (.ref a)=true
 attr:∀C x,c.attr C x=true->n7 g.K C x=true
 lamV:c.lamV=g.T.lamV
 lamP:c.lamP=g.T.lamP
 qT:c.qT=g.T.qT
 keep:∀v args J Q,c.F (.val v) args J Q->keepIn g.K v=true
 keepL:∀v args J Q,c.FL (.val v) args J Q->keepIn g.K v=true
 F:∀(A:Around) (p:Ptx g) (v:Value) (f:D) (vs:List Value) (ds:List D) (K:KD),ik A n->p.A g v f->p.L vs ds->c.F f ds p.J K->ExD A p (call v vs) K
 FL:∀(A:Around) (p:Ptx g) (v:Value) (f:D) (vs:List Value) (ds:List D) (K:KD),ik A n->p.A g v f->p.AL g vs ds->c.FL f ds p.J K->ExD A p (call v vs) K
section
variable{g:Gl}{h:Heap}{mu:List Addr}{J:ac}
theorem Ns.old{h':Heap}{a:Addr}{m:Str->Option Value}(n:h.Ns a m)(k:∀o,h.get? a=some o->h'.get? a=some o):h'.Ns a m:=n.imp λo q=>q.imp λes q=>q.imp λep q=>⟨k o q.1,q.2⟩
theorem Fit.kin(F:Fit g)(S:St g h mu J):g.K.In h:=λa o e=>S.old a o (F.K a o e).1 (F.K a o e).2
theorem Fit.gns(F:Fit g)(S:St g h mu J):h.Ns mainGlobals g.mg:=Ns.old F.ns λo e=>S.old _ o e F.nsP
theorem Fit.bns(F:Fit g)(S:St g h mu J):h.Ns builtinsNs g.mb:=Ns.old F.nsb λo e=>S.old _ o e F.nsbP
theorem Fit.nolim(F:Fit g)(S:St g h mu J):h.NoLimit:=F.lim.imp λmc q=>⟨Ns.old q.1 λo e=>S.old _ o e F.limP,q.2⟩
theorem Fit.tup(F:Fit g)(S:St g h mu J):bv g.h₀ h:=λb o e t=>S.old b o e λz=>by
 subst z;obtain⟨ps,e',_⟩:=F.lam0;rw[e] at e';cases e';exact(by obtain⟨_,_,_,q⟩:=t;cases q)
theorem Fit.rep(F:Fit g)(S:St g h mu J){v:Value}{d:D}(r:Rep g.h₀ [] v d):Rep h mu v d:=r.mono (t:=mu) (F.tup S)
end
structure Fc(g:Gl)(c:Cx)(n:Nat) where
 A:Around
 env:Env
 sc:aq
 room:ik A n
section
variable{g:Gl}{c:Cx}{n:Nat}{f:Fc g c n}{p q:Ptx g}{ρ:af}
noncomputable def Fc.own(f:Fc g c n):List Addr:=ownOf f.sc f.env
noncomputable def Frx(f:Fc g c n)(p:Ptx g)(ρ:af):Prop:=kz g f.env f.sc ρ p.s.heap p.mu
theorem Frx.to(E:Frx f p ρ)(t:p.to [] q):Frx f q ρ:=kz.post E t.post
noncomputable def Fc.RN(f:Fc g c n)(p:Ptx g)(v:Value)(d:D):Prop:=cw g f.own p.s.heap p.mu v d
theorem gd{x:Str}(h:b9 x=true):(x==("__debug__":Str))=false/\(x==("__classdict__":Str))=false/\(x==("super":Str))=false:=by
 simp only[b9,Bool.and_eq_true,bne,Bool.not_eq_true'] at h;exact⟨h.1.1,h.1.2,h.2⟩
theorem xj{sc:aq}{x:Str}{d:D}{C:Prop}(e:ce c sc ρ x=some d)(h1:sc.lookup x=some .local->ρ x=some d->C)(h2:(sc.lookup x=some .cell\/sc.lookup x=some .free)->ρ x=some d->C)(h3:sc.lookup x=some .globalImplicit->c.glob x=some d->C):C:=by
 unfold ce at e;by_cases hg:b9 x=true
 ·rw[if_pos hg] at e;generalize hk:sc.lookup x=k at e;rcases k with _ | k
  ·exact nS e rfl
  cases k<;>first | exact nS e rfl | exact h1 hk e | exact h2 (.inl hk) e | exact h2 (.inr hk) e | exact h3 hk e
 ·rw[if_neg hg] at e;exact nS e rfl
theorem n9{sc:aq}{x:Str}{d:D}(e:ce c sc ρ x=some d):b9 x=true:=by
 unfold ce at e;by_cases hg:b9 x=true
 ·exact hg
 ·rw[if_neg hg] at e;exact nS e rfl
theorem kz.k1{env:Env}{sc:aq}{h:Heap}{mu:List Addr}(E:kz g env sc ρ h mu){x:Str}{k:NameKind}(hx:sc.lookup x=some k)(n:k≠ .free):env.kindOf x=some k:=(E.names x _ hx).elim id λq=>absurd q.1 n
theorem ahe(F:Fit g)(C:uh g c n)(E:Frx f p ρ){x:Str}{d:D}{Q:Value->Shared->Prop}(e:ce c f.sc ρ x=some d)(hQ:∀v,f.RN p v d->Q v p.s):wpAny (model g.prog g.w) f.A (loadName f.env x) Q EF p.s:=by
 have hg:=n9 e;refine xj e (λhk e=> ?_) (λhk e=> ?_) (λhk e=> ?_)
 ·exact E.ns.elim λm q=>(q.2 x d hk e).elim λv r=>wpAny_loadName_local E.kind (E.k1 hk nofun) q.1 r.1 (hQ _ r.2)
 ·obtain⟨a,ov,W⟩:=E.cells x hk;obtain⟨v,rfl,r⟩:=W.v d e;have hx:f.env.kindOf x=some .cell\/f.env.kindOf x=some .free:=hk.elim (λhk=> .inl (E.k1 hk nofun)) λhk=>(E.names x _ hk).elim .inr λq=> .inl q.2;exact hx.elim (λhx=>wpAny_loadName_cell E.kind hx W.look W.cell (hQ _ r)) λhx=>wpAny_loadName_free E.kind hx W.look W.cell (hQ _ r) (gd hg).2.1
 ·rw[loadName_read E.kind (E.k1 hk nofun)];obtain⟨v,r,hv⟩:=C.glob x d e;have q:=hQ v (cw.of (F.rep p.st r));exact hv.elim (λhv=>Calls.loadGlobal_global (by rw[E.glob];exact F.gns p.st) hv q) λh=>Calls.loadGlobal_builtin (by rw[E.glob];exact F.gns p.st) h.1 (by rw[E.blt];exact F.bns p.st) h.2 q
theorem o9(F:Fit g)(C:uh g c n)(E:Frx f p ρ){x:Str}{pos:Pos}{d:D}{Q:Value->Shared->Prop}(e:ce c f.sc ρ x=some d)(hQ:∀v,f.RN p v d->Q v p.s):wpAny (model g.prog g.w) f.A (eval (.Name x pos) f.env) Q EF p.s:=
 wpAny_Name (ahe F C E e hQ) (gd (n9 e)).1
theorem aa0(E:Frx f p ρ){x:Addr}(hx:x∈f.own){h':Heap}(k:Heap.SameBut x p.s.heap h')(ho:∃o,h'.get? x=some o/\((x=f.env.locals/\∃es ep,o.data=.dict es ep)\/∃ov,o.data=.cell ov)):
  bc g f.own p.mu p.s.heap p.mu h'/\St g h' p.mu p.J/\∀a∈f.own,akr g f.env h' p.mu a:=by
 have W:=E.priv x hx;refine⟨(bc.priv (λo' e'=>(W.pl o' e').1) (λY Z=>ho.imp λY q=>q.1) k.extBut).weaken λa ha=>yG ha▸hx,p.st.priv W.m W.z W.pl k.extBut,λa ha=> ?_⟩;have V:=E.priv a ha;refine⟨V.m,V.p,V.z,(Classical.em (a=x)).elim (λz=>z▸ho) λz=>V.o.imp λo q=>⟨k.extBut a o z q.1,q.2⟩⟩
theorem ahf(E:Frx f p ρ){x:Str}{v:Value}{d:D}(r:p.R v d)(y:Str)(d':D)(e:upd ρ x d y=some d')(hy:(y==g.T.lamP)=false):ao d'=true:=by
 unfold upd at e;by_cases h:y=x
 ·rw[if_pos h] at e;cases e;cases d<;>first | rfl | exact r.elim
 ·rw[if_neg h] at e;exact E.pl y d' e hy
theorem yv{x y:Str}{d d':D}(h:y≠x)(e:upd ρ x d y=some d'):ρ y=some d':=by unfold upd at e;rwa [if_neg h] at e
theorem ahg{x:Str}{d d':D}(e:upd ρ x d x=some d'):d=d':=by unfold upd at e;rw[if_pos rfl] at e;exact yD e
theorem yw{sc:aq}{x:Str}(h:cf sc x=true):sc.lookup x=some .local\/sc.lookup x=some .cell:=by
 unfold cf at h;generalize sc.lookup x=k at h⊢;rcases k with _ | k
 ·exact tF h rfl
 cases k<;>first | exact tF h rfl | exact .inl rfl | exact .inr rfl
theorem qz(E:Frx f p ρ){x:Str}{v:Value}{d:D}{Q:Unit->Shared->Prop}(hs:cf f.sc x=true)(r:p.R v d)
  (hQ:∀q:Ptx g,p.to f.own q->q.J=p.J->Frx f q (upd ρ x d)->Q () q.s):wpAny (model g.prog g.w) f.A (bindName f.env x v) Q EF p.s:=by
 refine wpAny_bindName ?_;rcases yw hs with hk | hk
 ·obtain⟨m,hn,hm⟩:=E.ns;refine wpAny_storeName_local (E.k1 hk nofun) hn (λh' hn' ks=> ?_) (by rw[E.kind];rfl);obtain⟨P,S',pr⟩:=aa0 E (x:=f.env.locals) o8 ks (let⟨o,es,ep,e,d',_⟩:=hn';⟨o,e,.inl ⟨rfl,es,ep,d'⟩⟩);refine hQ (p.nx h' _ S') (Ptx.qC P) rfl ⟨E.kind,E.glob,E.blt,E.names,pr,⟨_,hn',λy d' e1 e2=> ?_⟩,λy hy=> ?_,E.apart,E.lam,ahf E r⟩
  ·by_cases hyx:y=x
   ·subst hyx;cases ahg e2;exact⟨v,if_pos rfl,cw.of (P.rep r)⟩
   ·exact(hm y d' e1 (yv hyx e2)).imp λu q=>⟨(if_neg hyx).trans q.1,P.repA (λY z=>z) q.2⟩
  ·obtain⟨c,ov,W⟩:=E.cells y hy;have hyx:y≠x:=by rintro rfl;rw[hk] at hy;rcases hy with z | z<;>cases z
   exact⟨c,ov,W.look,W.cell.imp λo q=>⟨ks.extBut _ _ W.l q.1,q.2⟩,W.m,W.p,W.l,λd' ed=>(W.v d' (yv hyx ed)).imp λu q=>⟨q.1,P.repA (λY z=>z) q.2⟩⟩
 ·obtain⟨c,ov,W⟩:=E.cells x (.inl hk);refine wpAny_storeName_cell E.kind (E.k1 hk nofun) W.look W.cell (λh' hc ks=> ?_);obtain⟨P,S',pr⟩:=aa0 E (x:=c) (aec hk W.look) ks (let⟨o,e,d'⟩:=hc;⟨o,e,.inr ⟨_,d'⟩⟩);refine hQ (p.nx h' _ S') (Ptx.qC P) rfl ⟨E.kind,E.glob,E.blt,E.names,pr,?_,λy hy=> ?_,E.apart,E.lam,ahf E r⟩
  ·obtain⟨m,n,hm⟩:=E.ns;refine⟨m,Ns.old n λo e=>ks.extBut _ _ (Ne.symm W.l) e,λy d' f1 f2=> ?_⟩;have hyx:y≠x:=by rintro rfl;rw[hk] at f1;cases f1
   exact(hm y d' f1 (yv hyx f2)).imp λu q=>⟨q.1,P.repA (λY z=>z) q.2⟩
  ·by_cases hyx:y=x
   ·subst hyx;exact⟨c,some v,W.look,hc,W.m,W.p,W.l,λd' ed=>by cases ahg ed;exact⟨v,rfl,cw.of (P.rep r)⟩⟩
   ·obtain⟨c',ov',V⟩:=E.cells y hy;have hcc:c'≠c:=λz=>by subst z;exact hyx (E.apart x y _ hk hy W.look V.look).symm
    exact⟨c',ov',V.look,V.cell.imp λo q=>⟨ks.extBut _ _ hcc q.1,q.2⟩,V.m,V.p,V.l,λd' ed=>(V.v d' (yv hyx ed)).imp λu q=>⟨q.1,P.repA (λY z=>z) q.2⟩⟩
end
noncomputable def LN{g:Gl}(m:Nat)(p:Ptx g)(vs:List Value)(ds:List D):Prop:=p.L vs ds/\ds.length=m
noncomputable def aw(g:Gl)(c:Cx)(n:Nat)(x:Expr):Prop:=∀{{f:Fc g c n}} {{p:Ptx g}} {{ρ:af}} {{K:KD}},Frx f p ρ->vE c f.sc x ρ p.J K->ExD f.A p (eval x f.env) K
noncomputable def jy(g:Gl)(c:Cx)(n:Nat)(es:List Expr):Prop:=∀{{f:Fc g c n}} {{p:Ptx g}} {{ρ:af}} {{K:KL}} (pos:Pos),Frx f p ρ->vEs c f.sc es ρ p.J K->Exx f.A p (spliced (backTo pos (starEach es f.env))) (LN es.length) K
noncomputable def gq(g:Gl)(c:Cx)(n:Nat)(x:Expr):Prop:=∀{{f:Fc g c n}} {{p:Ptx g}} {{ρ:af}} {{K:KT}},Frx f p ρ->vT c f.sc x (vE c f.sc x) ρ p.J K->ExT f.A p (isTrue x f.env (eval x f.env)) K
noncomputable def ui(g:Gl)(c:Cx)(n:Nat)(es:List Expr):Prop:=∀{{f:Fc g c n}} {{p:Ptx g}} {{ρ:af}} {{K:KT}} {{op:BoolOp}},Frx f p ρ->yj c f.sc op es ρ p.J K->ExT f.A p (allTrue op es f.env) K
noncomputable def jm(g:Gl)(c:Cx)(n:Nat)(es:List Expr):Prop:=∀{{f:Fc g c n}} {{p:Ptx g}} {{ρ:af}} {{K:KD}} {{op:BoolOp}} {{pos:Pos}},Frx f p ρ->vBool c f.sc op es ρ p.J K->ExD f.A p (boolOp pos op (evalEach es f.env)) K
noncomputable def pb(g:Gl)(c:Cx)(n:Nat)(o:Option Expr):Prop:=∀{{f:Fc g c n}} {{p:Ptx g}} {{ρ:af}} {{K:KD}},Frx f p ρ->vO c f.sc o ρ p.J K->ExD f.A p (evalPart o f.env) K
section
variable{g:Gl}{c:Cx}{n:Nat}{f:Fc g c n}{p:Ptx g}{ρ:af}{K:KD}{sc:aq}{J:ac}
theorem nj(k:Const)(m:Nat)(pos:Pos):aw g c n (.Constant k m pos):=λf p ρ K E e=>by
 have e:Wv (nv k) (kV K p.J):=by k_lt e
 cases k<;>first | exact e.elim | skip
 ·exact Exx.at (R:=Ptx.R) (v:=.none) (d:=.none) rfl e λQ q=>wpAny_Constant_none q
 ·exact Exx.at (R:=Ptx.R) (v:=.bool _) (d:=.bool _) rfl e λQ q=>wpAny_Constant_bool q
 ·exact Exx.tk (R:=Ptx.R) e λQ q=>wpAny_Constant_int (q _ _ (.int _ _))
 ·exact Exx.tk (R:=Ptx.R) e λQ q=>wpAny_Constant_str (q _ _ (.str _ _))
theorem aft(F:Fit g)(C:uh g c n)(x:Str)(pos:Pos):aw g c n (.Name x pos):=λf p ρ K E e Q hQ=>by
 have e:Wv (nameP c f.sc ρ x) (kV K p.J):=by k_lt e
 obtain⟨d,e,k⟩:=e.inv;unfold nameP at e;by_cases hx:(x==c.lamP)=true
 ·exact nS e (if_pos hx)
 ·rw[if_neg hx] at e;refine o9 F C E e λv r=>hQ v p d (.refl ..) (cw.rep r ?_) k;have hx:=C.lamP▸Bool.eq_false_iff.mpr hx;refine xj e (λY e=>E.pl x d e hx) (λY e=>E.pl x d e hx) λY e=> ?_;obtain⟨v,r,_⟩:=C.glob x d e;cases d<;>first | rfl | exact r.elim
theorem acx{l r:Expr}{op:Operator}{pos:Pos}(hl:aw g c n l)(hr:aw g c n r):aw g c n (.BinOp l op r pos):=λf p ρ K E e Q hQ=>
 have e:vE c f.sc l ρ p.J (kB1 (vE c f.sc r) op ρ K):=by k_lt e
 wpAny_BinOp (hl E e _ λv p1 a t1 r1 e1=>hr (E.to t1) e1 _ λw p2 b t2 r2 e2=>ake (r1.to t2) r2 e2 _ λu p3 d t3 r3 k=>hQ u p3 d ((t1.trans t2).trans t3) r3 k)
theorem pd{x:Expr}{op:UnaryOp}{pos:Pos}(hx:aw g c n x):aw g c n (.UnaryOp op x pos):=λf p ρ K E e Q hQ=>
 have e:vE c f.sc x ρ p.J (kUn op K):=by k_lt e
 PySem.wpAny_UnaryOp (hx E e _ λv p1 a t1 r1 e1=>an9 r1 e1 _ λu p2 d t2 r2 k=>hQ u p2 d (t1.trans t2) r2 k)
theorem acy{t b o:Expr}{pos:Pos}(ht:gq g c n t)(hb:aw g c n b)(ho:aw g c n o):aw g c n (.IfExp t b o pos):=λf p ρ K E e Q hQ=>by
 have e:vT c f.sc t (vE c f.sc t) ρ p.J (kIE (vE c f.sc b) (vE c f.sc o) ρ K):=by k_lt e
 rw[PyProof.Rows.eval_IfExp];refine yH (ht E e _ λv p1 b t1 r1 e1=> ?_);cases r1;cases v
 ·exact ho (E.to t1) e1 _ λu p2 d t2=>hQ u p2 d (t1.trans t2)
 ·exact hb (E.to t1) e1 _ λu p2 d t2=>hQ u p2 d (t1.trans t2)
theorem acz:jy g c n []:=λf p ρ K pos E e Q hQ=>
 have e:K [] p.J:=by k_lt e
 wpAny_items_nil (hQ _ p [] (.refl ..) ⟨rfl,rfl⟩ e)
theorem aks{x:Expr}{p:Pos}(h:vE c sc (.Starred x p) ρ J K):False:=by k_lt h
theorem anb{e:Expr}{es:List Expr}{env:Env}(h:noStar e=true):starEach (e::es) env=(false,eval e env)::starEach es env:=by
 cases e<;>first | rfl | exact tF h rfl
theorem xk{x:Expr}(h:vE c sc x ρ J K):noStar x=true:=by
 by_cases q:x.ctorIdx=22
 ·exact(Expr.Starred.elim (motive_1:=λe=>vE c sc e ρ J K->False) x q (λx p h=>aks h) h).elim
 ·exact ard q
theorem q9{e:Expr}{es:List Expr}{env:Env}(h:vE c sc e ρ J K):starEach (e::es) env=(false,eval e env)::starEach es env:=by
 exact anb (xk h)
theorem aa1{e:Expr}{es:List Expr}(he:aw g c n e)(hs:jy g c n es):jy g c n (e::es):=λf p ρ K pos E e Q hQ=>
 have e:vE c f.sc _ ρ p.J (kE1 (vEs c f.sc es) ρ K):=by k_lt e
 wpAny_items_cons (he E e _ λv p1 a t1 r1 e1=>hs pos (E.to t1) e1 _ λw p2 b t2 r2 k=>hQ _ p2 _ (t1.trans t2) ⟨av.cons (r1.to t2) r2.1,congrArg Nat.succ r2.2⟩ k) (q9 e)
theorem ac0{es:List Expr}{m:Nat}{pos:Pos}(hs:jy g c n es):aw g c n (.Tuple es m pos):=λf p ρ K E e Q hQ=>
 have e:Ki (vEs c f.sc es ρ p.J (kTu K)) False (Nat.ble es.length 64):=by k_lt e
 have⟨hz,e⟩:=e.inv
 wpAny_Tuple (hs pos E e _ λvs p1 ds t1 r1 k=>⟨by rw[av.length r1.1,r1.2];exact yK (yL hz) (by decide),
  have⟨S',P',R'⟩:=yl p1.st (arr:=vs.toArray) r1.1
  hQ _ (p1.nx _ p1.s.toks S') _ (t1.trans (Ptx.qC P')) R' k⟩)
theorem afu{es:List Expr}{pos:Pos}(hs:jy g c n es):aw g c n (.List es pos):=λf p ρ K E e Q hQ=>by
 have e:Ki (vEs c f.sc es ρ p.J (kLi K)) False (Nat.ble es.length 64):=by k_lt e
 obtain⟨hz,e⟩:=e.inv;refine wpAny_List (hs pos E e _ λvs p1 ds t1 r1 k=>⟨by rw[av.length r1.1,r1.2];exact yK (yL hz) (by decide),?_⟩);obtain⟨S',P'⟩:=uc p1.st (arr:=vs.toArray) r1.1;exact hQ _ (p1.nx _ p1.s.toks S') _ (t1.trans (Ptx.qC P')) (mw p1.st.len) k
end
noncomputable def gw(g:Gl)(c:Cx)(n:Nat)(rs:List Expr):Prop:=∀{{f:Fc g c n}} {{p:Ptx g}} {{ρ:af}} {{K:KT}} {{ops:List CmpOp}} {{pos:Pos}} {{a:D}} {{va:Value}},Frx f p ρ->p.R va a->cp c f.sc ops rs a ρ p.J K->
 Exx f.A p (compareChain pos va ops (markedEach ops rs (evalEach rs f.env))) RVB K/\ExT f.A p (testChain pos va ops (markedEach ops rs (evalEach rs f.env))) K
section
variable{g:Gl}{c:Cx}{n:Nat}{f:Fc g c n}{p:Ptx g}{ρ:af}{K:KD}{sc:aq}{J:ac}
theorem afv{x:Str}{p p':Pos}(h:vE c sc (.Call (.Name x p) [] [] p') ρ J K):(x !=("super":Str))=true:=by
 have h:Wv (ce c sc ρ x) (kF1 c (vEs c sc []) ρ J K):=by k_lt h
 have:=(gd (n9 h.inv.choose_spec.1)).2.2;exact congrArg (! ·) this
inductive BsO(attr:Str)(env:Env)(t:Sem Value)(o:Expr):Prop
 | e (h:attributeBase o attr env t=t)
 | c (x:Str) (p p':Pos) (z:o=.Call (.Name x p) [] [] p')
theorem bsO{attr:Str}{env:Env}{t:Sem Value}(o:Expr):BsO attr env t o:=by
 rcases o with⟨⟩<;>first | exact .e rfl | skip
 rcases func with⟨⟩<;>first | exact .e rfl | skip
 rcases args with _ | ⟨_,_⟩<;>rcases keywords with _ | ⟨_,_⟩<;>first | exact .c _ _ _ rfl | exact .e rfl
theorem aed{o:Expr}{attr:Str}{M:Model}{A:Around}{E:Value->Shared->Prop}{env:Env}{s:Shared}{t:Sem Value}{Q:Value->Shared->Prop}(h:vE c sc o ρ J K)(hw:wpAny M A t Q E s):wpAny M A (attributeBase o attr env t) Q E s:=by
 rcases bsO (attr:=attr) (env:=env) (t:=t) o with h2 | ⟨x,p,p',rfl⟩
 ·rw[h2];exact hw
 ·delta attributeBase
  dsimp only;rw[afv h,Bool.true_or,Bool.true_or,Bool.true_or,if_pos rfl];exact hw
theorem uj(F:Fit g)(C:uh g c n){o:Expr}{x:Str}{pos:Pos}(ho:aw g c n o):aw g c n (.Attribute o x pos):=λf p ρ K E e Q hQ=>by
 have e:vE c f.sc o ρ p.J (kAt c x K):=by k_lt e
 rw[arm_eval_Attribute];exact yH (aed e (ho E e _ λv p1 a t1 r1 e1=>yH (wpAny_standAt (yH (wpAny_holding (ag5 (F.kin p1.st) C.attr r1 e1 _ λu p2 d t2 r2 k=>
  yH (wpAny_letTemporaryGo (yI (hQ u p2 d (t1.trans t2) r2 k)))))))))
theorem aob{o i:Expr}{pos:Pos}(hns:ku i=true)(e:vE c sc (.Subscript o i pos) ρ J K):vE c sc o ρ J (kI1 (vE c sc i) ρ K):=by
 rcases i with⟨⟩<;>first | k_lt e | exact tF hns rfl
theorem aa2{o i:Expr}{pos:Pos}(ho:aw g c n o)(hi:aw g c n i)(hns:ku i=true)(E:Frx f p ρ)(e:vE c f.sc o ρ p.J (kI1 (vE c f.sc i) ρ K)):ExD f.A p (eval (.Subscript o i pos) f.env) K:=λQ hQ=>
 Subscript_ (ho E e _ λv p1 a t1 r1 e1=>hi (E.to t1) e1 _ λw p2 b t2 r2 e2=>aea (r1.to t2) r2 (λa b=>ahb hns) e2 _ λu p3 d t3 r3 k=>hQ u p3 d ((t1.trans t2).trans t3) r3 k)
theorem ahh{o i:Expr}{pos:Pos}(ho:aw g c n o)(hi:aw g c n i)(hns:ku i=true):aw g c n (.Subscript o i pos):=λf p ρ K E e=>
 have e:=aob hns e
 aa2 ho hi hns E e
theorem ac1:pb g c n none:=λf p ρ K E e Q hQ=>
 have e:K .none p.J:=by k_lt e
 wpAny_evalPart_none (hQ _ p .none (.refl ..) rfl e)
theorem ac2{x:Expr}(hx:aw g c n x):pb g c n (some x):=λf p ρ K E e Q hQ=>
 have e:vE c f.sc x ρ p.J K:=by k_lt e
 wpAny_evalPart_some (hx E e _ hQ)
theorem ac3{o:Expr}{lo hi st:Option Expr}{q pos:Pos}(ho:aw g c n o)(h1:pb g c n lo)(h2:pb g c n hi)(h3:pb g c n st):aw g c n (.Subscript o (.Slice lo hi st q) pos):=λf p ρ K E e Q hQ=>
 have e:vE c f.sc o ρ p.J (kS1 (vO c f.sc lo) (vO c f.sc hi) (vO c f.sc st) ρ K):=by k_lt e
 Subscript_ (ho E e _ λv p1 a t1 r1 e1=>PySem.wpAny_Slice (h1 (E.to t1) e1 _ λv2 p2 b t2 r2 e2=>h2 ((E.to t1).to t2) e2 _ λv3 p3 d t3 r3 e3=>h3 (((E.to t1).to t2).to t3) e3 _ λv4 p4 e t4 r4 e4=>
  afq (vs:=v4) (vl:=v2) (vu:=v3) (((r1.to t2).to t3).to t4) ((r2.to t3).to t4) (r3.to t4) r4 e4 _ λu p5 d t5 r5 k=>hQ u p5 d ((((t1.trans t2).trans t3).trans t4).trans (Ptx.sl_to.trans t5)) r5 k))
theorem aa3{op:BoolOp}{es:List Expr}{pos:Pos}(hs:jm g c n es):aw g c n (.BoolOp op es pos):=λf p ρ K E e=>
 have e:vBool c f.sc op es ρ p.J K:=by k_lt e
 hs E e
theorem yx:jm g c n []:=λf p ρ K op pos E e=>
 have e:False:=by k_lt e
 e.elim
theorem yy{x:Expr}(hx:aw g c n x):jm g c n [x]:=λf p ρ K op pos E e=>
 have e:vE c f.sc x ρ p.J K:=by k_lt e
 hx E e
set_option backward.match.sparseCases true in
theorem wj{x e2:Expr}{es:List Expr}(hx:aw g c n x)(hs:jm g c n (e2::es)):jm g c n (x::e2::es):=λf p ρ K op pos E e Q hQ=>
 have e:vE c f.sc x ρ p.J (kO1 op (vBool c f.sc op (e2::es)) ρ K):=by k_lt e
 show wpAny _ f.A (do
  let v<-eval _ f.env
  standAt pos
  let t<-holding [v] (truthy v)
  match op,t with
  | .And,false | .Or,true=>pure v
  | Y,Z=>boolOp pos op (evalEach (e2::es) f.env)) Q EF p.s from
 yH (hx E e _ λv p1 a t1 r1 e1=>yH (wpAny_standAt (yH (wpAny_holding (n6 r1 e1 λb e2=>by
  cases op<;>cases b
  ·exact yI (hQ v p1 a t1 r1 e2)
  ·exact hs (E.to t1) e2 _ λu p2 d t2=>hQ u p2 d (t1.trans t2)
  ·exact hs (E.to t1) e2 _ λu p2 d t2=>hQ u p2 d (t1.trans t2)
  ·exact yI (hQ v p1 a t1 r1 e2))))))
theorem aoc{a:D}{K:KT}:kIn a K=kLi (kH1 .In a K):=by
 funext ds s
 have h:(s++ [Cell.list ds])[s.length]?=some (.list ds):=by rw[List.getElem?_append_right (yE _),Nat.sub_self];rfl
 show Wv (iv a ds) (kV K (s++ [.list ds]))=Wv (match gz (s++ [.list ds]) a (.loc s.length) with
  | some r=>some r
  | none=>match (s++ [Cell.list ds])[s.length]? with
   | some (.list l)=>iv a l
   | some (.dictI es)=>match a with
    | .int i=>some (atK es i).isSome
    | Y=>none
   | Y=>none) (kV K (s++ [.list ds]))
 have h2:gz (s++ [.list ds]) a (.loc s.length)=none:=by
  cases a<;>first | rfl | skip
  unfold gz;dsimp only;rw[h]
 rw[h2,h]
theorem afw{op:CmpOp}{r:Expr}{a:D}{K:KT}(e:cp c sc [op] [r] a ρ J K):vE c sc r ρ J (kH1 op a K):=by
 cases op<;>first | k_lt e | skip
 cases r<;>first | k_lt e | skip
 have e:Ki (vEs c sc elts ρ J (kIn a K)) False (Nat.ble elts.length 64):=by k_lt e
 rw[aoc] at e;k_lt e
theorem aod{es:List Expr}{k:Nat}{p:Pos}(h:vE c sc (.Set es k p) ρ J K):False:=by k_lt h
theorem ahi{r:Expr}{op:CmpOp}(h:vE c sc r ρ J K):behindInMarks op r=false:=by
 cases r<;>first | rfl | exact(aod h).elim
theorem wk:gw g c n []:=λf p ρ K ops pos a va E ra e=>
 have e:False:=by
  rcases ops with _ | ⟨op,_ | ⟨_,_⟩⟩
  ·k_lt e
  ·cases op<;>k_lt e
  ·cases op<;>k_lt e
 e.elim
theorem aee(F:Fit g){r:Expr}(hr:aw g c n r){op:CmpOp}{pos:Pos}{a:D}{va:Value}{K:KT}(E:Frx f p ρ)(ra:p.R va a)(e:cp c f.sc [op] [r] a ρ p.J K){α:Type}{k:Value->Sem α}{Q:α->Shared->Prop}(hQ:∀b q,p.to [] q->K b q.J->wpAny (model g.prog g.w) f.A (k (.bool b)) Q EF q.s):
  wpAny (model g.prog g.w) f.A (holding [va] (markedBehindIn op r (eval r f.env))>>=λrv=>standAt pos>>=λY=>operate [va,rv] (compareOp op va rv)>>=k) Q EF p.s:=by
 have e:=afw e;rw[markedBehindIn_of_false (ahi e)];exact yH (wpAny_holding (hr E e _ λv p1 y t1 r1 e1=>yH (wpAny_standAt (yH (PySem.wpAny_operating (ad9 F.sys f.room.cmp (ra.to t1) r1 e1 _ λu p2 b t2 r2 k2=>by
  cases r2;exact hQ b p2 (t1.trans t2) k2))))))
theorem wl(F:Fit g){r:Expr}(hr:aw g c n r){op:CmpOp}{pos:Pos}{a:D}{va:Value}{K:KT}(E:Frx f p ρ)(ra:p.R va a)(e:cp c f.sc [op] [r] a ρ p.J K):
  Exx f.A p (compareChain pos va [op] (markedEach [op] [r] (evalEach [r] f.env))) RVB K/\ExT f.A p (testChain pos va [op] (markedEach [op] [r] (evalEach [r] f.env))) K:=by
 constructor
 ·intro Q hQ;show wpAny _ f.A (do let rv<-holding [va] (markedBehindIn op r (eval r f.env));standAt pos;operate [va,rv] (compareOp op va rv)) Q EF p.s;have:=aee F hr (pos:=pos) (k:=pure) (Q:=Q) E ra e λb q t k=>yI (hQ _ q b t rfl k);simpa using this
 ·intro Q hQ;exact aee F hr (k:=λc=>holding [c] (truthy c)) E ra e λb q t k=>wpAny_holding (wpAny_truthy_bool (hQ b q b t rfl k))
theorem ahj{op:CmpOp}{ops:List CmpOp}{r:Expr}{rs:List Expr}{a:D}{K:KT}(e:cp c sc (op::ops) (r::rs) a ρ J K)(h1:¬(ops=[]/\rs=[])):vE c sc r ρ J (kH2 op a (cp c sc ops rs) ρ K):=by
 rcases ops with _ | ⟨op2,ops⟩
 ·rcases rs with _ | ⟨r2,rs⟩
  ·exact(h1 ⟨rfl,rfl⟩).elim
  ·clear h1;rcases op with⟨⟩<;>first | k_lt e | (rcases r with⟨⟩<;>k_lt e)
 ·clear h1;rcases rs with _ | ⟨r2,rs⟩<;>rcases op with⟨⟩<;>k_lt e
theorem me2{op:CmpOp}{ops:List CmpOp}{r:Expr}{rs:List Expr}{env:Env}(h1:¬(ops=[]/\rs=[])):markedEach (op::ops) (r::rs) (evalEach (r::rs) env)=eval r env::markedEach ops rs (evalEach rs env):=by
 rcases ops with _ | ⟨_,_⟩<;>rcases rs with _ | ⟨_,_⟩<;>first | rfl | exact(h1 ⟨rfl,rfl⟩).elim
theorem cc2{pos:Pos}{va:Value}{op:CmpOp}{ops:List CmpOp}{rs:List Expr}{env:Env}{t:Sem Value}(h1:¬(ops=[]/\rs=[])):compareChain pos va (op::ops) (t::markedEach ops rs (evalEach rs env))=(do
  let rv<-holding [va] t
  standAt pos
  let c<-holding [va,rv] (compareOp op va rv)
  release [va,rv] [c]
  if<-holding [c,rv] (truthy c) then compareChain pos rv ops (markedEach ops rs (evalEach rs env)) else pure c):=by
 rcases ops with _ | ⟨_,_⟩<;>rcases rs with _ | ⟨_,_⟩<;>first | rfl | exact(h1 ⟨rfl,rfl⟩).elim
theorem tc2{pos:Pos}{va:Value}{op:CmpOp}{ops:List CmpOp}{rs:List Expr}{env:Env}{t:Sem Value}(h1:¬(ops=[]/\rs=[])):testChain pos va (op::ops) (t::markedEach ops rs (evalEach rs env))=(do
  let rv<-holding [va] t
  standAt pos
  let c<-holding [va,rv] (compareOp op va rv)
  release [va,rv] [c]
  if<-holding [c,rv] (truthy c) then testChain pos rv ops (markedEach ops rs (evalEach rs env)) else pure false):=by
 rcases ops with _ | ⟨_,_⟩<;>rcases rs with _ | ⟨_,_⟩<;>first | rfl | exact(h1 ⟨rfl,rfl⟩).elim
theorem uk(F:Fit g){r:Expr}{rs:List Expr}(hr:aw g c n r)(hs:gw g c n rs):gw g c n (r::rs):=λf p ρ K ops pos a va E ra e=>by
 rcases ops with _ | ⟨op,ops⟩
 ·have e:False:=by k_lt e
  exact e.elim
 by_cases h1:ops=[]/\rs=[]
 ·obtain⟨rfl,rfl⟩:=h1;exact wl F hr E ra e
 ·have h2:vE c f.sc r ρ p.J (kH2 op a (cp c f.sc ops rs) ρ K)/\markedEach (op::ops) (r::rs) (evalEach (r::rs) f.env)=eval r f.env::markedEach ops rs (evalEach rs f.env)/\
    (∀t,compareChain pos va (op::ops) (t::markedEach ops rs (evalEach rs f.env))=(do
       let rv<-holding [va] t
       standAt pos
       let c<-holding [va,rv] (compareOp op va rv)
       release [va,rv] [c]
       if<-holding [c,rv] (truthy c) then compareChain pos rv ops (markedEach ops rs (evalEach rs f.env)) else pure c))/\
    ∀t,testChain pos va (op::ops) (t::markedEach ops rs (evalEach rs f.env))=(do
       let rv<-holding [va] t
       standAt pos
       let c<-holding [va,rv] (compareOp op va rv)
       release [va,rv] [c]
       if<-holding [c,rv] (truthy c) then testChain pos rv ops (markedEach ops rs (evalEach rs f.env)) else pure false):=by
   exact⟨ahj e h1,me2 h1,λY=>cc2 h1,λY=>tc2 h1⟩
  obtain⟨e,em,ec,et⟩:=h2;rw[em,ec,et];have step:∀{α β:Type} {R:Ptx g->α->β->Prop} {KK:β->ac->Prop} {k1:Value->Value->Sem α} {k2:Value->Sem α},(∀v q y,p.to [] q->q.R v y->cp c f.sc ops rs y ρ q.J K->Exx f.A q (k1 v (.bool true)) R KK)->(∀q,K false q.J->Exx f.A q (k2 (.bool false)) R KK)->
    Exx f.A p (do
       let rv<-holding [va] (eval r f.env)
       standAt pos
       let c<-holding [va,rv] (compareOp op va rv)
       release [va,rv] [c]
       if<-holding [c,rv] (truthy c) then k1 rv c else k2 c) R KK:=λ{α β R KK k1 k2} h1 h2 Q hQ=>
   yH (wpAny_holding (hr E e _ λv p1 y t1 r1 e1=>yH (wpAny_standAt (yH (wpAny_holding (by
    obtain⟨b,e1,e2⟩:=e1.inv;refine ad9 (K:=λb' s=>b'=b/\Ki (cp c f.sc ops rs y ρ s K) (K false s) b) F.sys f.room.cmp (ra.to t1) r1 (by rw[e1];exact⟨rfl,e2⟩) _ λu p2 b' t2 r2 k2=> ?_;obtain⟨rfl,k2⟩:=k2;cases r2;refine yH (wpAny_release (yH (wpAny_holding (wpAny_truthy_bool ?_))));cases b'
    ·exact h2 p2 k2 Q λw q d t=>hQ w q d ((t1.trans t2).trans t)
    ·exact h1 v p2 y (t1.trans t2) (r1.to t2) k2 Q λw q d t=>hQ w q d ((t1.trans t2).trans t)))))))
  constructor
  ·exact step (λv q y t r k=>(hs (E.to t) r k).1) λq k=>Exx.at (R:=RVB) (d:=false) rfl k λQ h=>yI h
  ·exact step (k2:=λY=>pure false) (λv q y t r k=>(hs (E.to t) r k).2) λq k=>Exx.at (R:=RBx) (d:=false) rfl k λQ h=>yI h
theorem yz{l:Expr}{ops:List CmpOp}{rs:List Expr}{pos:Pos}(hl:aw g c n l)(hs:gw g c n rs):aw g c n (.Compare l ops rs pos):=λf p ρ K E e Q hQ=>by
 have e:vE c f.sc l ρ p.J (kC1 (cp c f.sc ops rs) ρ (kBl K)):=by k_lt e
 rw[arm_eval_Compare];exact yH (hl E e _ λv p1 a t1 r1 e1=>(hs (E.to t1) r1 e1).1 _ λu p2 b t2 r2 k=>by cases r2;exact hQ _ p2 (.bool b) (t1.trans t2) rfl k)
theorem wm{l:Expr}{ops:List CmpOp}{rs:List Expr}{pos:Pos}(hl:aw g c n l)(hs:gw g c n rs):gq g c n (.Compare l ops rs pos):=λf p ρ K E e Q hQ=>by
 have e:vE c f.sc l ρ p.J (kC1 (cp c f.sc ops rs) ρ K):=by k_lt e
 rw[arm_isTrue_Compare];exact yH (hl E e _ λv p1 a t1 r1 e1=>(hs (E.to t1) r1 e1).2 _ λu p2 b t2 r2 k=>hQ u p2 b (t1.trans t2) r2 k)
theorem afx{x:Expr}{pos:Pos}(hx:gq g c n x):gq g c n (.UnaryOp .Not x pos):=λf p ρ K E e Q hQ=>
 have e:vT c f.sc x (vE c f.sc x) ρ p.J (kNo K):=by k_lt e
 wpAny_isTrue_Not (hx E e _ λv p1 b t1 r1 k=>by cases r1;exact hQ _ p1 (!v) t1 rfl k)
theorem y0{op:BoolOp}{es:List Expr}{pos:Pos}(hs:ui g c n es):gq g c n (.BoolOp op es pos):=λf p ρ K E e=>
 have e:yj c f.sc op es ρ p.J K:=by k_lt e
 hs E e
theorem aa4{t b o:Expr}{pos:Pos}(ht:gq g c n t)(hb:gq g c n b)(ho:gq g c n o):gq g c n (.IfExp t b o pos):=λf p ρ K E e Q hQ=>
 have e:vT c f.sc t (vE c f.sc t) ρ p.J (kTI (vT c f.sc b (vE c f.sc b)) (vT c f.sc o (vE c f.sc o)) ρ K):=by k_lt e
 show wpAny _ f.A (do if<-isTrue t f.env (eval t f.env) then isTrue b f.env (eval b f.env) else isTrue o f.env (eval o f.env)) Q EF p.s from
 yH (ht E e _ λv p1 d t1 r1 e1=>by
  cases r1;cases v
  ·exact ho (E.to t1) e1 _ λu p2 d t2=>hQ u p2 d (t1.trans t2)
  ·exact hb (E.to t1) e1 _ λu p2 d t2=>hQ u p2 d (t1.trans t2))
theorem aoe{x:Expr}{w:af->ac->KD->Prop}{K:KT}(hp:afg x=true)(e:vT c sc x w ρ J K):w ρ J (kTr K):=by
 rcases x with⟨⟩<;>first | k_lt e | exact tF hp rfl | skip
 rcases op with⟨⟩<;>first | k_lt e | exact tF hp rfl
theorem ac4{x:Expr}{env:Env}{t:Sem Value}(hp:afg x=true):isTrue x env t=(do let v<-t;standAt x.pos;holding [v] (truthy v)):=by
 rcases x with⟨⟩<;>first | rfl | exact tF hp rfl | skip
 rcases op with⟨⟩<;>first | rfl | exact tF hp rfl
theorem k6{x:Expr}(hp:afg x=true)(hx:aw g c n x):gq g c n x:=λf p ρ K E e Q hQ=>by
 exact wpAny_isTrue_value (hx E (aoe hp e) _ λv p1 a t1 r1 e1=>n6 r1 e1 λb k=>hQ b p1 b t1 rfl k) (ac4 hp)
theorem ac5:ui g c n []:=λf p ρ K op E e Q hQ=>by
 cases op
 ·exact yI (hQ _ p true (.refl ..) rfl (by k_lt e))
 ·exact yI (hQ _ p false (.refl ..) rfl (by k_lt e))
theorem aa5{x:Expr}{es:List Expr}(hx:gq g c n x)(hs:ui g c n es):ui g c n (x::es):=λf p ρ K op E e Q hQ=>by
 have e:vT c f.sc x (vE c f.sc x) ρ p.J (kAl op (yj c f.sc op es) ρ K):=by k_lt e
 rw[arm_allTrue_cons];refine yH (hx E e _ λv p1 b t1 r1 e1=> ?_);cases r1;cases op<;>cases v
 ·exact yI (hQ _ p1 _ t1 rfl e1)
 ·exact hs (E.to t1) e1 _ λu p2 d t2=>hQ u p2 d (t1.trans t2)
 ·exact hs (E.to t1) e1 _ λu p2 d t2=>hQ u p2 d (t1.trans t2)
 ·exact yI (hQ _ p1 _ t1 rfl e1)
end
noncomputable def akt(h:Heap)(mu:List Addr):List (Value×Value)->List (D×D)->Prop
 | vs,[]=>vs=[]
 | vs,ab::ds=> ∃k v ws,vs=(k,v)::ws/\Rep h mu k ab.1/\Rep h mu v ab.2/\akt h mu ws ds
termination_by structural _ ds=>ds
noncomputable def PP{g:Gl}(ks:List (Option Expr))(p:Ptx g)(w:List (Value×Value))(ps:List (D×D)):Prop:=akt p.s.heap p.mu w ps/\ps.map (λx=>some x.1)=ks.map ig
noncomputable def gy(g:Gl)(c:Cx)(n:Nat)(vs:List Expr):Prop:=∀{{f:Fc g c n}} {{p:Ptx g}} {{ρ:af}} {{K:List (D×D)->ac->Prop}} {{ks:List (Option Expr)}} {{pos:Pos}},Frx f p ρ->jb c f.sc ks vs ρ p.J K->Exx f.A p (evalPairs (pairTrees ks vs f.env pos)) (PP ks) K
section
variable{g:Gl}{c:Cx}{n:Nat}{f:Fc g c n}{p:Ptx g}{ρ:af}{K:KD}{sc:aq}{J:ac}
theorem wn:gy g c n []:=λf p ρ K ks pos E e Q hQ=>by
 rcases ks with _ | ⟨k,ks⟩
 ·exact pairTrees_nil_walk (hQ _ p [] (.refl ..) ⟨rfl,rfl⟩ (by k_lt e))
 ·have e:False:=by k_lt e
  exact e.elim
theorem y2{k:Option Expr}{a:D}(h:ig k=some a):∃kc m q,k=some (.Constant kc m q)/\nv kc=some a:=by
 rcases k with _ | k
 ·exact nS h rfl
 ·replace h:agw k=some a:=h;exact(dI h).elim λq h=>Expr.Constant.elim (motive_1:=λe=> ∀q,Expr.Constant.elim (motive_1:=λY=>_) e q (λk Y Z=>nv k)=some a->∃kc m q,some e=some (.Constant kc m q)/\nv kc=some a) k q (λkc m q Y h=>⟨kc,m,q,rfl,h⟩) q h
theorem um{v:Expr}{vs:List Expr}(hv:aw g c n v)(hs:gy g c n vs):gy g c n (v::vs):=λf p ρ K ks pos E e Q hQ=>by
 rcases ks with _ | ⟨k,ks⟩
 ·have e:False:=by k_lt e
  exact e.elim
 ·have e:Wv (ig k) λa=>vE c f.sc v ρ p.J (kP1 a (jb c f.sc ks vs) ρ K):=by k_lt e
  obtain⟨a,ek,e⟩:=e.inv;obtain⟨kc,m,q,rfl,ek'⟩:=y2 ek
  ·refine pairTrees_cons_walk (nj kc m q (K:=λd s=>d=a/\s=p.J) E (by with_unfolding_all exact(show Wv (nv kc) _ by rw[ek'];exact⟨rfl,rfl⟩)) _ λkv p0 d t0 r0 k0=> ?_);obtain⟨rfl,k0⟩:=k0;rw[<-k0] at e;exact hv (E.to t0) e _ λv p1 b t1 r1 e1=>hs ((E.to t0).to t1) e1 _ λw p2 ps t2 r2 k=>hQ _ p2 ((_,b)::ps) ((t0.trans t1).trans t2) ⟨⟨_,_,_,rfl,(r0.to t1).to t2,r1.to t2,r2.1⟩,by rw[List.map_cons,List.map_cons,r2.2,ek]⟩ k
theorem uo{h:Heap}{mu:List Addr}:∀{ps:List (D×D)} {vs:List (Value×Value)} {acc es:List (Str×D)} {kacc:List (Str×Value)},akt h mu vs ps->t7 ps acc=some es->KV h mu kacc acc->
  ∃kvs,Carries (PySem.strKind g.prog g.w) vs kvs/\KV h mu (merged kacc kvs) es
 | [],vs,acc,es,kacc,r,e,hk=>by cases(show vs=[] from r);cases e;exact⟨[],trivial,hk⟩
 | (a,b)::ps,vs,acc,es,kacc,r,e,hk=>by
  obtain⟨k,v,ws,rfl,ra,rb,r1⟩:=r;cases a<;>w_pre e;obtain⟨t,rfl⟩:=ra;exact(uo r1 e (hk.put _ rb)).elim λkvs q=>⟨(_,v)::kvs,⟨str_is _ t,rfl,q.1⟩,q.2⟩
theorem y3{ps:List (D×D)}{cl:Cell}{C:Prop}(e:ko ps=some cl)(h0:ps=[]->cl=.dictI []->C)(h1:∀k v,ps=[(.int k,v)]->cl=.dictI [(k,v)]->C)(h2:∀es,t7 ps []=some es->cl=.dictS es->C):C:=by
 rcases ps with _ | ⟨⟨a,b⟩,ps⟩
 ·exact h0 rfl (yD e).symm
 ·have gen:(t7 ((a,b)::ps) []).map .dictS=some cl->C:=λe=>(yA e).elim λes q=>h2 es q.1 q.2.symm;rcases ps with _ | ⟨q,ps⟩
  ·cases a<;>first | exact gen e | exact h1 _ _ rfl (yD e).symm
  ·cases a<;>exact gen e
theorem ahk(h:Heap){prog:Program}{w:World}{κ:Type}[DecidableEq κ]{knd:KeyKind prog w κ}{a:Addr}(e:h.get? a=some {cls:=.type "dict",data:=.dict #[]}):h.DictOf knd a []:=
 ⟨_,#[],0,e,⟨rfl,rfl,rfl⟩,rfl,(λx hx=>absurd hx (Array.not_mem_empty x)),.nil,.nil⟩
theorem xl{κ:Type}[DecidableEq κ](knd:KeyKind g.prog g.w κ)(mk:List (κ×D)->Cell){ks:List (Option Expr)}{vs:List Expr}{pos:Pos}(hs:gy g c n vs)(E:Frx f p ρ)(hne:ks≠ [])(h1:ks.all (·.isSome)=true)(h2:ks.length=vs.length)(hz:ks.length<=15)
  {L:List (D×D)->ac->Prop} (e:jb c f.sc ks vs ρ p.J L) (hL:∀ps s,ps.map (λx=>some x.1)=ks.map ig->L ps s->∃es,K (.loc s.length) (s++ [mk es])/\∀h mu w,akt h mu w ps->∃kvs,Carries knd w kvs/\KV h mu (merged [] kvs) es)
  (hcell:∀h mu a kvs es,h.DictOf knd a kvs->KV h mu kvs es->i5 g h mu a (mk es)):ExD f.A p (eval (.Dict ks vs pos) f.env) K:=λQ hQ=>by
 have k0:∀b o,p.s.heap.get? b=some o->(p.s.heap.push {cls:=.type "dict",data:=.dict #[]}).get? b=some o:=λY Z e=>yT _ e;have hz0:p.s.heap.get? p.s.heap.objs.size=none:=cv _;have hDP:p.s.heap.objs.size≠g.P:=yN p.st.hP;have hD0:=p.st.old.get hz0 hDP;have t0:p.to [] (p.nx _ p.s.toks (p.st.grow k0)):=Ptx.qC (.grow [] k0);refine wpAny_Dict_walk (knd:=knd) h1 h2 hne hz (hs (E.to t0) e _ λw p1 ps t1 r1 k=> ?_);obtain⟨es,k,hrep⟩:=hL _ _ r1.2 k;obtain⟨kvs,hc1,hc2⟩:=hrep _ _ _ r1.1;have hD:(p.s.heap.push {cls:=.type "dict",data:=.dict #[]}).get? p.s.heap.objs.size=some {cls:=.type "dict",data:=.dict #[]}:=Heap.get?_push_size _ rfl;have hm:=p.st.notMem hz0;have hDo:=t1.post.keep _ _ hD (.inl ⟨List.not_mem_nil,hDP,hm⟩);refine⟨kvs,hc1,ahk _ hDo,λh'' hd'' hs''=> ?_⟩;have hm':=t1.post.out hm hD;have nD:∀o,p1.s.heap.get? p.s.heap.objs.size=some o->Pl o:=λo e=>by rw[hDo] at e;cases e;exact .of rfl
 have P2:bc g [p.s.heap.objs.size] p1.mu p1.s.heap p1.mu h'':=.priv (λo e=>(nD o e).1) (λY Z=>by obtain⟨o,_,_,e,_⟩:=hd'';exact⟨o,e⟩) hs''.extBut;have S3:=(p1.st.priv hm' hD0 nD hs''.extBut).adopt hm' hD0 hDP (hcell _ _ _ _ _ hd'' (hc2.mono P2.tup));have P3:bc g [] p.mu p.s.heap p1.mu h'':=bc.drop k0 (λa ha=>yG ha▸hz0) ((t1.post.weaken λY m=>nomatch m).trans P2);exact hQ _ (p1.nx h'' _ S3) _ ⟨P3.adopt hz0,t1.sm _ _⟩ (mw p1.st.len) k
theorem afy{ks:List (Option Expr)}{vs:List Expr}{pos:Pos}(hs:gy g c n vs):aw g c n (.Dict ks vs pos):=λf p ρ K E e=>by
 have e:Ki (jb c f.sc ks vs ρ p.J (kDi K)) False (yi ks vs):=by k_lt e
 obtain⟨hok,e⟩:=e.inv;simp only[yi,Bool.and_eq_true] at hok;obtain⟨hz,h1,h2⟩:=hok;replace hz:=yL hz;replace h2:=Nat.eq_of_beq_eq_true h2;rcases ks with _ | ⟨k,ks⟩
 ·cases List.length_eq_zero_iff.mp h2.symm;have e:K (.loc p.J.length) (p.J++ [.dictI []]):=by k_lt e
  intro Q hQ;refine wpAny_Dict_empty ?_;obtain⟨S',P'⟩:=p.st.qK (o:={cls:=.type "dict",data:=.dict #[]}) (c:=.dictI []) ⟨[],ahk _ (Heap.get?_push_size _ rfl),.nil⟩;exact hQ _ (p.nx _ p.s.toks S') _ (Ptx.qC (P' [])) (mw p.st.len) e
 ·by_cases hi:∃i,(k::ks).map ig=[some (.int i)]
  ·obtain⟨i,hi⟩:=hi;refine xl (intKind g.prog g.w) .dictI hs E nofun h1 h2 hz e (λps s hm k=> ?_) λh mu a kvs es x y=>⟨kvs,x,y⟩
   rw[hi] at hm;rcases ps with _ | ⟨⟨a,b⟩,_ | ⟨_,_⟩⟩
   ·cases hm
   ·cases hm;refine⟨[(i,b)],k,λh mu w r=> ?_⟩;obtain⟨kk,vv,ws,rfl,⟨t,rfl⟩,rb,r1⟩:=r;cases(show ws=[] from r1);exact⟨[(i,vv)],⟨int_is _ t,rfl,trivial⟩,.cons rb .nil⟩
   ·cases hm
  ·refine xl (PySem.strKind g.prog g.w) .dictS hs E nofun h1 h2 hz e (λps s hm k=> ?_) λh mu a kvs es x y=>⟨kvs,x,y⟩
   obtain⟨cl,k1,k2⟩:=(show Wv (ko ps) (kNw s K) from k).inv;refine y3 k1 (λz=>by rw[z] at hm;cases hm) (λj v z Y=>absurd ⟨j,by rw[<-hm,z];rfl⟩ hi) λes z1 z2=>⟨es,z2▸k2,λh mu w r=>uo r z1 .nil⟩
end
noncomputable def jn(env:Env):aq->List (Str×Addr)->List (Str×Addr)
 | [],acc=>acc
 | (x,k)::r,acc=>if k==.free then jn env r ((x,(env.cells.lookup x).getD 0)::acc) else jn env r acc
theorem uq{env:Env}{x:Str}{k:NameKind}{r:aq}{acc:List (Str×Addr)}:jn env ((x,k)::r) acc=if k==.free then jn env r ((x,(env.cells.lookup x).getD 0)::acc) else jn env r acc:=rfl
theorem oe(env:Env)(f:Str×NameKind->List (Str×Addr)->Sem (ForInStep (List (Str×Addr))))(hf:∀x k acc,f (x,k) acc=if(k==NameKind.free)=true then(cellOf env x>>=λc=>pure (.yield ((x,c)::acc))) else pure (.yield acc)):
  ∀(l:aq) (acc:List (Str×Addr)),(∀x∈l,x.2=.free->(env.cells.lookup x.1).isSome=true)->forIn l acc f=pure (jn env l acc)
 | [],acc,Y=>rfl
 | (x,k)::r,acc,h=>by
  rw[List.forIn_cons,hf,uq];have hr:∀y∈r,y.2=.free->(env.cells.lookup y.1).isSome=true:=λy hy=>h y (List.mem_cons_of_mem _ hy);by_cases hk:(k==NameKind.free)=true
  ·rw[if_pos hk,if_pos hk];obtain⟨c,hc⟩:=Option.isSome_iff_exists.mp (h (x,k) yP (by simpa using hk));unfold cellOf;rw[hc];show forIn r ((x,c)::acc) f=_;rw[oe env f hf r _ hr];rfl
  ·rw[if_neg hk,if_neg hk];show forIn r acc f=_;exact oe env f hf r acc hr
theorem nk{scope:Scope}{env:Env}(h:∀x∈scope.names,x.2=.free->(env.cells.lookup x.1).isSome=true):closureFor scope env=pure (jn env scope.names []):=by
 simp only[closureFor];rw[oe env _ (λx k acc=>by
  by_cases hk:(k==NameKind.free)=true
  ·simp only[hk,if_true]
  ·simp only[hk]) scope.names [] h]
 first | done | rfl
theorem gr(env:Env):∀(l:aq) (acc:List (Str×Addr)),jn env l acc=((l.filter λy=>y.2==.free).map λy=>(y.1,(env.cells.lookup y.1).getD 0)).reverse++acc
 | [],acc=>rfl
 | (x,k)::r,acc=>by
  rw[uq];by_cases hk:(k==NameKind.free)=true
  ·rw[if_pos hk,gr env r,List.filter_cons,if_pos hk];simp
  ·rw[if_neg hk,gr env r,List.filter_cons,if_neg hk]
theorem y4(env:Env){l:aq}{x:Str}(hx:(x,NameKind.free)∈l){c:Addr}(hc:env.cells.lookup x=some c):(jn env l []).lookup x=some c:=by
 rw[gr,List.append_nil];have key:∀(m:List (Str×Addr)),(∀y∈m,y.2=(env.cells.lookup y.1).getD 0)->(∃y∈m,y.1=x)->m.lookup x=some c:=by
  intro m
  induction m with
  | nil=>rintro _ ⟨y,hy,_⟩;cases hy
  | cons y m ih=>
   intro h1 h2;rw[List.lookup_cons];by_cases hxy:(x==y.1)=true
   ·rw[hxy];have:x=y.1:=by simpa using hxy
    have:=h1 y yP;subst x;rw[hc] at this;show some y.2=some c;rw[this];rfl
   ·rw[Bool.not_eq_true] at hxy;rw[hxy];refine ih (λz hz=>h1 z (List.mem_cons_of_mem _ hz)) ?_;obtain⟨z,hz,e⟩:=h2;rcases yM hz with rfl | hz
    ·subst e;simp at hxy
    ·exact⟨z,hz,e⟩
 refine key _ (λy hy=> ?_) ⟨(x,c),?_,rfl⟩
 ·obtain⟨z,_,rfl⟩:=List.mem_map.mp (List.mem_reverse.mp hy);rfl
 ·rw[List.mem_reverse];refine List.mem_map.mpr ⟨(x,.free),List.mem_filter.mpr ⟨hx,rfl⟩,?_⟩;rw[hc];rfl
section
variable{g:Gl}{c:Cx}{n:Nat}{f:Fc g c n}{p:Ptx g}{ρ:af}{K:KD}{sc:aq}
theorem aa6{a:Arguments}{x:Str×Pos}(e:argName a=some x):a=⟨[],[⟨x.1,none,x.2⟩],none,[],[],none,[]⟩:=by
 obtain⟨a1,a2,a3,a4,a5,a6,a7⟩:=a;cases a1<;>w_pre e;rcases a2 with _ | ⟨⟨y,an,q⟩,a2⟩<;>w_pre e;cases an<;>w_pre e;cases a2<;>w_pre e;cases a3<;>w_pre e;cases a4<;>w_pre e;cases a5<;>w_pre e;cases a6<;>w_pre e;cases a7<;>w_pre e;cases e;rfl
theorem y5{b:Expr}{x:Str×Str}(e:aaq b=some x):∃p1 p2 p3,b=.Subscript (.Name x.1 p1) (.Name x.2 p2) p3:=by
 obtain⟨⟨o,i⟩,e1,e⟩:=yR e;obtain⟨x1,e2,e⟩:=yR e;obtain⟨x2,e3,rfl⟩:=yA e;obtain⟨p3,rfl⟩:=afs e1;obtain⟨p1,rfl⟩:=jx e2;obtain⟨p2,rfl⟩:=jx e3;exact⟨p1,p2,p3,rfl⟩
structure anc(c:Cx)(sc:aq)(ρ:af)(a:Arguments)(b:Expr)(scope:Scope)(pos:Pos)(d:D)(x p:Str)(ap p1 p2 p3:Pos)(n:Nat):Prop where
 a:a=⟨[],[⟨x,none,ap⟩],none,[],[],none,[]⟩
 b:b=.Subscript (.Name p p1) (.Name x p2) p3
 d:d=.lam n
 v:ρ p=some (.loc n)
 ne:p≠x
 lamV:p=c.lamV
 line:pos.line=c.qT.line
 col:pos.col=c.qT.col
 gp:b9 p=true
 gx:b9 x=true
 cell:sc.lookup p=some .cell
 kind:scope.kind=.function
 gen:scope.isGenerator=false
 co:scope.isCoroutine=false
 lx:scope.names.lookup x=some .local
 lp:scope.names.lookup p=some .free
 nc:∀y∈scope.names,y.2≠ .cell
 fr:scope.names.filter (λy=>y.2==.free)=[(p,.free)]
inductive ari(c:Cx)(sc:aq)(ρ:af)(a:Arguments)(b:Expr)(scope:Scope)(pos:Pos)(d:D):Prop
 | mk (x p:Str) (ap p1 p2 p3:Pos) (n:Nat) (L:anc c sc ρ a b scope pos d x p ap p1 p2 p3 n):ari c sc ρ a b scope pos d
theorem aa7{a:Arguments}{b:Expr}{scope:Scope}{pos:Pos}{d:D}(e:mq c sc ρ a b scope pos=some d):ari c sc ρ a b scope pos d:=by
 obtain⟨x,e1,e⟩:=yR e;obtain⟨⟨p,x'⟩,e2,e⟩:=yR e;obtain⟨p1,p2,p3,hb⟩:=y5 e2;by_cases hs:aap c sc scope pos x.1 p x'=true
 ·replace e:=(if_pos hs).symm.trans e;dsimp only at e;replace hs:(_&&_)=true:=hs;simp only[am6,Bool.and_eq_true,beq_iff_eq,bne_iff_ne,Bool.not_eq_true',List.all_eq_true] at hs;obtain⟨⟨⟨⟨⟨⟨⟨⟨⟨⟨⟨⟨⟨h1,h2⟩,h3⟩,h4⟩,h5⟩,h6⟩,h7⟩,h8⟩,h9⟩,h10⟩,h11⟩,h12⟩,h13⟩,h14⟩:=hs;generalize hv:ρ p=v at e;rcases v with _ | v
  ·exact nS e rfl
  cases v<;>w_pre e;exact⟨x.1,p,x.2,p1,p2,p3,_,aa6 e1,by rw[hb,h1],(yD e).symm,hv,h2,h3,h4.1.1.1,h4.1.1.2,h5,h6,h7,h8,h9,h10,h11,h12,h13,h14⟩
 ·exact nS e (if_neg hs)
theorem aof{h:Heap}{mu:List Addr}{J:ac}(S:St g h mu J){o:Obj}(e:h.get? g.P=some o):¬isTup o:=by
 obtain⟨ps,e',_⟩:=S.lam;rw[e] at e';cases e';rintro⟨_,_,_,q⟩;cases q
theorem arj{p q:Pos}(h1:p.line=q.line)(h2:p.col=q.col)(l:List Value):codeAmong p l=codeAmong q l:=by
 rcases p with⟨a,b,_,_⟩;rcases q with⟨c,d,_,_⟩;cases show a=c from h1;cases show b=d from h2
 k_go
theorem aku{x q:Str}{ap p1 p2 p3 pos:Pos}{scope:Scope}{d:D}{m:Nat}{a:Arguments}{b:Expr}(L:anc c f.sc ρ a b scope pos d x q ap p1 p2 p3 m){cc bA:Addr}(hcc:p.s.heap.IsCell cc (some (.ref bA)))(hm1:cc∉p.mu)(hm2:cc≠g.P)(hb:p.mu[m]?=some bA){pm ctv:Value}{c':Addr}{h':Heap}(tk:Nat)
  (hx:Heap.ExtBut g.P p.s.heap h') (hsz:p.s.heap.objs.size<=h'.objs.size) (hPt:∃o,h'.get? g.P=some o) (hlam:g.lamOk h') (hrec:h'.CodeRec (.ref c') g.lamQ) (n1:c'∉p.mu) (n3:c'≠g.P) {Q:Value->Shared->Prop} (hQ:∀v q d',p.to [] q->q.A g v d'->d'=d->q.J=p.J->Q v q.s):
  Q (.ref h'.objs.size) {p.s with heap:=h'.push {cls:=.type "function",data:=.func (kla_fn "<lambda>" g.lamQ a b scope [(q,cc)] pm (.ref c') ctv)},toks:=tk}:=by
 generalize hO:({cls:=.type "function",data:=.func (kla_fn "<lambda>" g.lamQ a b scope [(q,cc)] pm (.ref c') ctv)}:Obj)=ob;have k:∀b o,b≠g.P->p.s.heap.get? b=some o->(h'.push ob).get? b=some o:=λb o hb e=>yT _ (hx b o hb e);have kt:bv p.s.heap (h'.push ob):=λb o e t=>k b o (λz=>by subst z;exact aof p.st e t) e;have P:bc g [] p.mu p.s.heap p.mu (h'.push ob):=⟨⟨[],(List.append_nil _).symm,λY m=>nomatch m⟩,
  λb o e=>(Classical.em (b=g.P)).elim (λz=>hPt.imp λY q=>z▸yT _ q) λz=>⟨o,k b o z e⟩,λb o e q=>q.elim (λq=>k b o q.2.1 e) λq=>kt b o e q⟩
 have S:St g (h'.push ob) p.mu p.J:=⟨λb o e hb=>k b o hb (p.st.old b o e hb),Gl.qX (λb o e Y=>yT _ e) hlam,p.st.len,p.st.nd,p.st.new,λi cl a f1 f2=>
  List.append_nil p.mu▸(p.st.cell i cl a f1 f2).mono (t:=[]) kt (λo e=>k a o (p.st.new a (List.mem_of_getElem? f2)).2 e)⟩
 refine hQ (.ref h'.objs.size) (p.nx (h'.push ob) tk S) d (Ptx.qC P) ?_ rfl rfl;rw[L.d];refine⟨h'.objs.size,c',cc,rfl,⟨λy hy=> ?_,⟨ob,_,x,q,p1,p2,p3,ap,Heap.get?_push_size _ (by rw[<-hO];rfl),by rw[<-hO],?_⟩,hrec.push _,bA,hcc.imp λo e=>⟨k _ _ hm2 e.1,e.2⟩,hb⟩,λY Z m=>nomatch m⟩
 ·rcases hy with _ | ⟨_,_ | ⟨_,_ | ⟨_,h⟩⟩⟩
  ·refine⟨λm=> ?_,λz=>absurd p.st.hP (by rw[<-z];exact Nat.not_lt.mpr hsz)⟩;obtain⟨o,e,_⟩:=p.st.live m;exact absurd (Heap.lt_size e) (Nat.not_lt.mpr hsz)
  ·exact⟨n1,n3⟩
  ·exact⟨hm1,hm2⟩
  ·cases h
 ·rw[L.a,L.b];exact⟨rfl,rfl,rfl,rfl,rfl,rfl,rfl,rfl,rfl,L.kind,L.gen,L.co,L.lx,L.lp,L.nc,L.gx,L.gp,L.ne⟩
theorem ac6(F:Fit g)(C:uh g c n)(E:Frx f p ρ){a:Arguments}{b:Expr}{scope:Scope}{pos:Pos}{d:D}{Q:Value->Shared->Prop}(e:mq c f.sc ρ a b scope pos=some d)
  (hQ:∀v q d',p.to [] q->q.A g v d'->d'=d->q.J=p.J->Q v q.s):wpAny (model g.prog g.w) f.A (eval (.Lambda a b scope pos) f.env) Q EF p.s:=by
 obtain⟨x,q,ap,p1,p2,p3,m,L⟩:=aa7 e;obtain⟨cc,ov,W⟩:=E.cells q (.inl L.cell);obtain⟨u,rfl,bA,rfl,hb⟩:=W.v _ L.v;obtain⟨hcode,hqual⟩:=E.lam (by rw[<-C.lamV,<-L.lamV];exact L.cell);have hclo:closureFor scope f.env=pure [(q,cc)]:=by
  rw[nk (λy hy hk=> ?_),gr,L.fr]
  ·show pure [(q,(f.env.cells.lookup q).getD 0)]=_;rw[W.look];rfl
  ·have:y∈scope.names.filter (λy=>y.2==.free):=List.mem_filter.mpr ⟨hy,by rw[hk];rfl⟩;rw[L.fr,List.mem_singleton] at this;rw[this,W.look];rfl
 have am:=arj (L.line.trans (congrArg Pos.line C.qT)) (L.col.trans (congrArg Pos.col C.qT));refine kla_eval (by rw[L.a];rfl) ?_;rw[hqual];obtain⟨ps,hP,ht,hl⟩:=p.st.lam;have Chd:CodeHd p.s.heap g.lamC g.P:=F.hd _ p.st.old;obtain⟨bm,ob2,hbm,hne0,hneg,hneP,hbo,hcls,hdict,hdata⟩:=F.bat;have hbo':=p.st.old _ _ hbo hneP;have fin:=λ{pm ctv c' h'} tk hx hsz hPt hlam hrec n1 n3=>aku (pm:=pm) (ctv:=ctv) (c':=c') (h':=h') L W.cell W.m W.p hb tk hx hsz hPt hlam hrec n1 n3 hQ;have eP:∀{z:Addr},p.s.heap.objs.size<=z->z∉p.mu/\z≠g.P:=λh=>⟨p.st.notMem (cu h),λz=>absurd p.st.hP (by rw[<-z];exact Nat.not_lt.mpr h)⟩
 rcases hl with hl | ⟨c',hl,oc,vc,tc,hoc,hcc,hdc,hvc⟩
 ·have hgP:=F.nsP;rw[L.a,makeFunction_eq];simp only[List.zip_nil_right,List.filterMap_nil,List.isEmpty_nil,if_true,pure_bind];unfold makeTail;rw[hclo,E.glob];refine yH (yI ?_);simp only[List.isEmpty_cons,Bool.false_eq_true,if_false];refine yH (wpAny_newTextTuple ?_);have hk1:∀{t:Obj} (b:Addr) (o:Obj),p.s.heap.get? b=some o->(p.s.heap.push t).get? b=some o:=λb o e=>yT _ e;refine yH (wpAny_functionCodeX hcode ((Chd.keeps hk1).code (hk1 _ _ hP) ht) ((Chd.keeps hk1).tab (hk1 _ _ hP)) (by rw[am];exact hl) λc' h' tk hx hge hlt Y hrec htb hcd=> ?_);have hg':=((F.gns p.st).push _).extBut hx hgP;have hx':Heap.ExtBut g.P p.s.heap h':=λb o hb' e=>hx b o hb' (hk1 _ _ e);have hge':p.s.heap.objs.size<=c':=yK (by rw[Heap.size_push];exact Nat.le_succ _) hge;refine yH (PySem.wpAny_builtinsFor hg' hbm hne0 (hx' _ _ hneP hbo') hcls hdict hdata ?_);refine yH (wpAny_nsGet hg' ?_);refine yH (yI (wpAny_newObj_type ?_ (by size_fits)));obtain⟨P',_,_,⟨⟨oc,vc,hoc,hcc,hdc,_⟩,_⟩⟩:=hcd;obtain⟨c₂,oc₂,vc₂,tc,ec,hoc₂,hdc₂,hvc⟩:=id hrec;cases ec;rw[hoc] at hoc₂;cases hoc₂;rw[hdc] at hdc₂;cases hdc₂;have tl:(ps++ #[rawInt pos.line,rawInt pos.col,Value.ref c']).toList=ps.toList++ [rawInt pos.line,rawInt pos.col,.ref c']:=Array.toList_append;rw[<-L.a];refine fin tk hx' (Nat.le_of_lt (yV hge' hlt)) ⟨_,htb.2⟩ ⟨_,htb.2,by rw[tl];exact TriplesOk_snoc _ _ _ _ ht,.inr ⟨c',?_,oc,vc,tc,hoc,hcc,hdc,hvc⟩⟩ hrec (eP hge').1 (eP hge').2;rw[tl,<-am];exact codeAmong_snoc _ ht (by rw[am];exact hl)
 ·rw[L.a];refine kla_makeFunctionHit (mg:=g.mg) hclo E.glob (F.gns p.st) hcode Chd hP ht (by rw[am];exact hl) ⟨bm,ob2,hbm,hne0,hneg,hneP,hbo',hcls,hdict,hdata⟩ λctv h' tk hk hsz=> ?_;rw[<-L.a];refine fin tk (λb o Y e=>hk b o e) hsz ⟨_,hk _ _ hP⟩ ⟨ps,hk _ _ hP,ht,.inr ⟨c',hl,oc,vc,tc,hk _ _ hoc,hcc,hdc,hvc⟩⟩ ⟨c',oc,vc,tc,rfl,hk _ _ hoc,hdc,hvc⟩ (λm=> ?_) ?_
  ·obtain⟨o,e,pl⟩:=p.st.live m;rw[hoc] at e;cases e;exact pl.2 ⟨.inl hcc,_,hdc⟩
  ·rintro rfl;rw[hP] at hoc;cases hoc;cases hcc
end
noncomputable def dm(g:Gl)(A:Around)(p:Ptx g)(t:Sem Value)(c:Cell):Prop:=∀K:KD,K (.loc p.J.length) (p.J++ [c])->ExD A p t K
structure aog(g:Gl):Prop where
 sorted:∀(A:Around) (p:Ptx g) (v:Value) (x:D) (l:List D),A.handled=none->p.R v x->mo p.J x=some l->dm g A p (call (.builtin "sorted") [v]) (.list l)
 dict:∀(A:Around) (p:Ptx g) (v:Value) (x:D) (l:List (Int×D)),A.handled=none->A.units+gc<cLine->p.R v x->xf p.J x=some l->dm g A p (call (.type "dict") [v]) (.dictI l)
 fset:∀(A:Around) (p:Ptx g) (v:Value) (x:D) (i:Int),A.handled=none->A.units+gc<cLine->p.R v x->xg p.J x=some i->dm g A p (call (.type "frozenset") [v]) (.fset [i])
 set:∀(A:Around) (p:Ptx g) (v:Value) (x:D) (n:Nat),A.handled=none->A.units+gc<cLine->p.R v x->aff p.J x=some n->dm g A p (call (.type "set") [v]) (.set n)
structure Wo3(g:Gl)(c:Cx)(n:Nat):Prop where
 F:Fit g
 C:uh g c n
 H:aog g
section
variable{g:Gl}{c:Cx}{n:Nat}{f:Fc g c n}{p:Ptx g}{ρ:af}{K:KD}{sc:aq}{A:Around}
theorem sel{P:Prop}[Decidable P]{a b:Res D}{C:Prop}(e:Wr (if P then a else b) K)(h1:P->Wr a K->C)(h2:Wr b K->C):C:=by
 by_cases h:P
 ·rw[if_pos h] at e;exact h1 h e
 ·rw[if_neg h] at e;exact h2 e
theorem ur{J:ac}{α:Type}{o:Option α}{f:α->Cell}{C:Prop}(e:Wr (mk J (o.map f)) K)(h:∀a,o=some a->K (.loc J.length) (J++ [f a])->C):C:=by
 induction o with
 | none=>exact e.elim
 | some a=>exact h a rfl e
theorem ahl(W:Wo3 g c n)(R:ik A n){id:String}{v:Value}{x:D}(r:p.R v x)(e:Wr (ot id x p.J) K):ExD A p (call (.builtin id) [v]) K:=
 sel e (λh e=>h▸e.map.elim λm q=>akk W.F.sys r q.1 q.2) λe=>sel e (λh e=>h▸e.map.elim λm q=>akl r q.1 q.2) λe=>sel e (λh e=>h▸ur e λl h k=>W.H.sorted A p v x l R.handled r h K k) λe=>e.elim
theorem ahm{v w:Value}{x:D}:∀{y:D},p.R v x->p.R w y->Wr (match y with
  | .val (.type t)=>if t="tuple" then(yg x).map λb=>(D.bool b,p.J) else none
  | Y=>none) K->ExD A p (call (.builtin "isinstance") [v,w]) K
 | .none,Y,Z,e | .bool U,V,N,e | .int O,H,G,e | .str I,S,T,e | .tup B,C,F,e | .loc E,L,z,e | .lam j,Q,M,e=>e.elim
 | .val u,r,q,e=>by
  cases q.qZ;cases w<;>first | exact e.elim | exact sel e (λh e=>h▸e.map.elim λm q=>akn r q.1 q.2) λe=>e.elim
theorem ahn(R:ik A n){id:String}{v w:Value}{x y:D}(r:p.R v x)(r':p.R w y)(e:Wr (t8 id x y p.J) K):ExD A p (call (.builtin id) [v,w]) K:=
 sel e (λh e=>h▸e.map.elim λm q=>akm R.handled r r' q.1 q.2) λe=>sel e (λh e=>h▸ahm r r' e) λe=>e.elim
theorem aho(W:Wo3 g c n)(R:ik A n){t:String}{v:Value}{x:D}(r:p.R v x)(e:Wr (iy t x p.J) K):ExD A p (call (.type t) [v]) K:=
 sel e (λh e=>h▸e.map.elim λm q=>ako r q.1 q.2) λe=>sel e (λh e=>h▸e.map.elim λm q=>afn r q.1 q.2) λe=>sel e (λh e=>h▸ur e λl h k=>ag7 r h k) λe=>
 sel e (λh e=>h▸ur e λl h k=>W.H.dict A p v x l R.handled R.cmp r h K k) λe=>sel e (λh e=>h▸ur e λl h k=>W.H.fset A p v x l R.handled R.cmp r h K k) λe=>
 sel e (λh e=>h▸ur e λl h k=>W.H.set A p v x l R.handled R.cmp r h K k) λe=>e.elim
theorem aa8(W:Wo3 g c n)(R:ik A n){v:Value}{vs:List Value}{ds:List D}(r:p.L vs ds)(e:Wr (cm v ds p.J) K):ExD A p (call v vs) K:=by
 cases v<;>first | exact e.elim | skip
 ·rcases ds with _ | ⟨x,_ | ⟨_,_⟩⟩<;>first | exact e.elim | skip
  exact r.c λv ws a r=>r.n (aho W R a e)
 ·rcases ds with _ | ⟨x,_ | ⟨y,_ | ⟨_,_⟩⟩⟩<;>first | exact e.elim | skip
  ·exact r.c λv ws a r=>r.n (ahl W R a e)
  ·exact r.c λv ws a r=>r.c λw ws b r=>r.n (ahn R a b e)
theorem xm(W:Wo3 g c n)(R:ik A n){fv:D}{v:Value}{vs:List Value}{ds:List D}(rf:p.A g v fv)(r:p.L vs ds)(e:yh c fv ds p.J K):ExD A p (call v vs) K:=by
 cases fv<;>first | exact e.elim | skip
 ·obtain rfl:v=_:=rf;cases v<;>first | exact aa8 W R r e | exact W.C.F A p _ (.val (.ref _)) vs ds K R rfl r e.p
 ·exact W.C.F A p v _ vs ds K R rf r e.p
theorem xi.frame{M:Model}{h:Heap}{mu:List Addr}{l:Nat}{a cd cc:Addr}(x:xi g h mu l a cd cc):Looks M h (keeperOf (.ref a)) .frame:=by
 obtain⟨o,fd,_,_,_,_,_,_,ho,hd,_⟩:=x.fn;refine(Looks.ld (part:=none) ho).andThen ?_;rw[hd];exact .now
theorem xn(W:Wo3 g c n){fv:D}{v:Value}{ds:List D}(rf:p.A g v fv)(e:yh c fv ds p.J K){M:Model}:∃k,(k=Keeper.frame\/k=Keeper.machine\/k=Keeper.boundFrame)/\Looks M p.s.heap (keeperOf v) k:=by
 cases fv<;>first | exact e.elim | skip
 ·obtain rfl:v=_:=rf;cases v<;>first | exact⟨.machine,.inr (.inl rfl),Looks.of_pure rfl⟩ | exact keeps_K (W.C.keep _ _ _ _ e.p) _ (W.F.kin p.st)
 ·obtain⟨a,cd,cc,rfl,x,_⟩:=rf;exact⟨.frame,.inl rfl,x.frame⟩
theorem pe{env:Env}{pos:Pos}:∀{es:List Expr},es.all noStar=true->(backTo pos (starEach es env)).any (·.1)=false/\(starEach es env).length=es.length
 | [],Y=>⟨rfl,rfl⟩
 | e::es,h=>by
  rw[List.all_cons,Bool.and_eq_true] at h;have hst:starEach (e::es) env=(false,eval e env)::starEach es env:=anb h.1;obtain⟨h1,h2⟩:=pe (env:=env) (pos:=pos) h.2;rw[hst];exact⟨(Bool.false_or _).trans h1,congrArg Nat.succ h2⟩
theorem pg{M:Model}{A:Around}{E:Value->Shared->Prop}{s:Shared}{f:Value}{args:List (Bool×Sem Value)}{Q:Args->Shared->Prop}(hp:args.any (·.1)=false)(h:wpAny M A (spliced args) (λvs s'=>Q ⟨vs,[]⟩ s') E s):
  wpAny M A (evalArgs f true args []) Q E s:=by
 rcases args with _ | ⟨⟨b,t⟩,rest⟩
 ·unfold evalArgs;show wpAny M A (spliced [] >>=_) Q E s;exact yH (wpAny_mono h (λvs s' h'=>yH (yI (wpAny_holding (yH (yI (yH (yI (yI h')))))))) λY Z x=>x)
 ·cases b
  ·exact Calls.evalArgs_plain h
  ·exact tF hp.symm rfl
theorem mx{vf:Value}{first:List Value}{pos:Pos}{es:List Expr}{β:Type}{RL:Ptx g->List Value->β->Prop}{K':β->ac->Prop}(hn:es.all noStar=true)(hs:Exx f.A p (spliced (backTo pos (starEach es f.env))) RL K')
  (hk:∀q ds,p.to [] q->K' ds q.J->∃k,(k=Keeper.frame\/k=Keeper.machine\/k=Keeper.boundFrame)/\Looks (model g.prog g.w) q.s.heap (keeperOf vf) k) (ha:∀q vs ds,p.to [] q->RL q vs ds->K' ds q.J->ExD f.A q (call vf (first++vs)) K):ExD f.A p (callWith pos vf first (backTo pos (starEach es f.env)) []) K:=λQ hQ=>by
 have hp:=(pe (env:=f.env) (pos:=pos) hn).1;exact callWith_of (P:=λh=> ∃q ds,p.to [] q/\K' ds q.J/\q.s.heap=h) (by rw[hp];rfl) (λh ⟨q,ds,t,k,e⟩=>e▸hk q ds t k) (pg hp (hs _ λvs q ds t r k=>⟨⟨q,ds,t,k,rfl⟩,ha q vs ds t r k Q λu q2 d t2=>hQ u q2 d (t.trans t2)⟩))
end
noncomputable def k7(g:Gl)(c:Cx)(n:Nat)(es:List Expr):Prop:=∀{{f:Fc g c n}} {{p:Ptx g}} {{ρ:af}} {{K:KL}} (pos:Pos),Frx f p ρ->iz c f.sc es ρ p.J K->Exx f.A p (spliced (backTo pos (starEach es f.env))) (Ptx.AL g) K
section
variable{g:Gl}{c:Cx}{n:Nat}{f:Fc g c n}{p q:Ptx g}{ρ:af}{K:KD}{sc:aq}{A:Around}
theorem A.to{own:List Addr}{v:Value}{d:D}(t:p.to [] q)(r:cw g own p.s.heap p.mu v d):cw g own q.s.heap q.mu v d:=t.post.repA (λY m=>nomatch m) r
theorem y6:k7 g c n []:=λf p ρ K pos E e Q hQ=>
 have e:K [] p.J:=by k_lt e
 wpAny_items_nil (hQ _ p [] (.refl ..) rfl e)
theorem afz{e:Expr}{l:D}(h:sf c sc ρ e=some l):∃a b s p,e=.Lambda a b s p/\mq c sc ρ a b s p=some l:=
 (dI h).elim λq h=>Expr.Lambda.elim (motive_1:=λe=> ∀q,Expr.Lambda.elim (motive_1:=λY=>_) e q (mq c sc ρ)=some l->∃a b s p,e=.Lambda a b s p/\mq c sc ρ a b s p=some l) e q (λa b s p Y h=>⟨a,b,s,p,rfl,h⟩) q h
theorem wq(F:Fit g)(C:uh g c n){x:Expr}{es:List Expr}(he:aw g c n x)(hs:k7 g c n es):k7 g c n (x::es):=λf p ρ K pos E e Q hQ=>by
 have e:(match sf c f.sc ρ x with
  | some l=>iz c f.sc es ρ p.J (kE2 l K)
  | none=>vE c f.sc x ρ p.J (kE1 (iz c f.sc es) ρ K)):=by k_lt e
 generalize hl:sf c f.sc ρ x=l at e
 induction l with
 | none=>exact wpAny_items_cons (he E e _ λv p1 a t1 r1 e1=>hs pos (E.to t1) e1 _ λw p2 b t2 r2 k=>hQ _ p2 (a::b) (t1.trans t2) (ci.cons (cw.of (r1.to t2)) r2) k) (q9 e)
 | some l=>
  obtain⟨a,b,s,q,rfl,hl⟩:=afz hl;exact wpAny_items_cons (ac6 F C E hl λv q d' t r hd hσ=>hs pos (E.to t) (by rw[hσ];exact e) _ λw p2 b t2 r2 k=>hQ _ p2 (l::b) (t.trans t2) (ci.cons (A.to t2 (hd▸r)) r2) k) rfl
theorem aef{fv:D}{ds:List D}{s:ac}{C:Prop}(e:kL2 c fv K ds s)(h:∀a,fv=.val (.ref a)->c.FL (.val (.ref a)) ds s K->C):C:=by
 cases fv<;>first | exact e.elim | skip
 cases v<;>first | exact e.elim | exact h _ rfl e.p
theorem wu(W:Wo3 g c n){x:Str}{p pos:Pos}{es:List Expr}(hs:jy g c n es)(ha:k7 g c n es):aw g c n (.Call (.Name x p) es [] pos):=λf q ρ K E e Q hQ=>by
 have e:Ki (Ki (Wv (ce c f.sc ρ x) (kL1 c (iz c f.sc es) ρ q.J K)) (Wv (ce c f.sc ρ x) (kF1 c (vEs c f.sc es) ρ q.J K)) (es.any aar)) False (es.all noStar):=by k_lt e
 obtain⟨hn,e⟩:=e.inv;show wpAny _ f.A (do callWith pos (<-eval (.Name x p) f.env) [] (backTo pos (starEach es f.env)) []) Q EF q.s;generalize es.any aar=b at e;cases b
 ·obtain⟨fv,en,e⟩:=(show Wv (ce c f.sc ρ x) (kF1 c (vEs c f.sc es) ρ q.J K) from e).inv;exact yH (o9 W.F W.C E en λv r=>mx (first:=[]) hn (hs pos E e) (λq1 ds t k=>xn W (A.to t r.forget) k) (λq1 vs ds t r2 k=>xm W f.room (A.to t r.forget) r2.1 k) Q hQ)
 ·obtain⟨fv,en,e⟩:=(show Wv (ce c f.sc ρ x) (kL1 c (iz c f.sc es) ρ q.J K) from e).inv;exact yH (o9 W.F W.C E en λv r=>mx (first:=[]) hn (ha pos E e) (λq1 ds t k=>aef k λa z k9=>by
   subst z;cases(show v=_ from r);exact keeps_K (W.C.keepL _ _ _ _ k9) _ (W.F.kin q1.st)) (λq1 vs ds t r2 k=>aef k λa z k9=>by
   subst z;exact W.C.FL _ _ _ _ _ _ _ f.room (A.to t r.forget) r2 k9) Q hQ)
theorem y7(W:Wo3 g c n){o i:Expr}{p pos:Pos}{es:List Expr}(ho:aw g c n o)(hi:aw g c n i)(hns:ku i=true)(hs:jy g c n es):aw g c n (.Call (.Subscript o i p) es [] pos):=λf q ρ K E e Q hQ=>by
 have e:Ki (vE c f.sc o ρ q.J (kI1 (vE c f.sc i) ρ (kG1 c (vEs c f.sc es) ρ K))) False (es.all noStar):=by k_lt e
 obtain⟨hn,e⟩:=e.inv;show wpAny _ f.A (do callWith pos (<-eval (.Subscript o i p) f.env) [] (backTo pos (starEach es f.env)) []) Q EF q.s;exact yH (aa2 ho hi hns E e _ λv p1 d t1 r1 e1=>mx (first:=[]) hn (hs pos (E.to t1) e1) (λq1 ds t k=>xn W (cw.of (r1.to t)) k) (λq1 vs ds t r2 k=>xm W f.room (cw.of (r1.to t)) r2.1 k) Q λu q2 d2 t2=>hQ u q2 d2 (t1.trans t2))
noncomputable def kp3(g:Gl)(u:Value)(h:Heap):Prop:=∃k,(k=Keeper.frame\/k=Keeper.machine\/k=Keeper.boundFrame)/\Looks (model g.prog g.w) h (keeperOf u) k
structure MethAt(c:Cx)(A:Around)(p:Ptx g)(v:Value)(a:D)(m:Str)(k:nu)(u:Value):Prop where
 get:∀(b:Sem Bool) Q,Q (u,[v]) p.s->wpAny (model g.prog g.w) A (getMethod v m b) Q EF p.s
 kp:∀q ds K,p.to [] q->mtW c k a m ds q.J K->kp3 g u q.s.heap
 go:∀q vs ds K,p.to [] q->q.L vs ds->mtW c k a m ds q.J K->ExD A q (call u (v::vs)) K
theorem ac7{J:ac}{o:D}{m:Str}{k:nu}{P:Prop}(e:fg c J o m=some k)(h1:∀l C d es u,o=.loc l->J[l]?=some (.inst C d)->J[d]?=some (.dictS es)->atK es m=none->c.meth C m=some u->k=.fn u->P)
  (h2:∀l L,o=.loc l->J[l]?=some (.list L)->m="append"\/m="extend"\/m="pop"->k=.blt l->P) (h3:∀l es,o=.loc l->J[l]?=some (.dictI es)->m="get"->k=.blt l->P):P:=by
 revert h1 h2 h3;refine Opt.el e ?_;clear e;rcases o with⟨⟩<;>first | exact trivial | skip
 delta fg
 dsimp only;generalize hl:J[n]?=x;rcases x with _ | ⟨⟨⟩⟩<;>first | exact trivial | skip
 ·refine Opt.ite λh=> ?_;exact λY h2 Z=>h2 n _ rfl hl h rfl
 ·refine Opt.ite λh=> ?_;exact λY Z h3=>h3 n _ rfl hl h rfl
 ·dsimp only;generalize hd:J[d]?=y;rcases y with _ | ⟨⟨⟩⟩<;>first | exact trivial | skip
  dsimp only;generalize ha:atK _ m=z;generalize hm:c.meth C m=w;rcases z with _ | z<;>rcases w with _ | w<;>first | exact trivial | exact λh1 Y Z=>h1 n C d _ _ rfl hl hd ha hm rfl
theorem ark{id:String}{h:Heap}:kp3 g (.builtin id) h:=⟨.machine,.inr (.inl rfl),Looks.of_pure rfl⟩
theorem Wr.at{α:Type}{x:Option α}{f:α->Res D}{g:Res D}{C:Prop} (e:Wr (match x with
  | some a=>f a
  | none=>g) K) (h1:∀a,x=some a->Wr (f a) K->C) (h2:Wr g K->C):C:=by
 induction x with
 | none=>exact h2 e
 | some a=>exact h1 a rfl e
theorem aa9{n:Nat}{m:Str}{ds:List D}{J:ac}{C:Prop}(e:Wr (t9 n m ds J) K)(h1:∀l,J[n]?=some (.list l)->Wr (ji m n l ds J) K->C)
  (h2:∀es k d,J[n]?=some (.dictI es)->m="get"->ds=[.int k,d]->K ((atK es k).getD d) J->C):C:=by
 refine Opt.wr ?_ e;clear e
 delta t9
 generalize hl:J[n]?=x;rcases x with _ | ⟨⟨⟩⟩<;>first | exact trivial | exact Opt.ow (h1 _ hl) | skip
 refine Opt.sel λhm=> ?_;rcases ds with _ | ⟨a,_ | ⟨b,_ | ⟨_,_⟩⟩⟩<;>first | exact trivial | (rcases a with⟨⟩<;>exact trivial) | skip
 rcases a with⟨⟩<;>first | exact trivial | exact Opt.ite λY=>h2 _ _ _ hl hm rfl
theorem akv{n:Nat}{l ds:List D}{J:ac}{C:Prop}(e:Wr (ji "append" n l ds J) K)(h:∀x,ds=[x]->l.length<=ah->K .none (J.set n (.list (l++ [x])))->C):C:=by
 refine Opt.wr ?_ e;clear e
 delta ji
 rw[if_pos rfl];rcases ds with _ | ⟨a,_ | ⟨_,_⟩⟩<;>first | exact trivial | exact Opt.ite λq=>h a rfl q.1
theorem akw{n:Nat}{l ds:List D}{J:ac}{C:Prop}(e:Wr (ji "extend" n l ds J) K)(h:∀k r,ds=[.loc k]->J[k]?=some (.list r)->l.length+r.length<=ah->K .none (J.set n (.list (l++r)))->C):C:=by
 refine Opt.wr ?_ e;clear e
 delta ji
 rw[if_neg (by decide+kernel),if_pos rfl];rcases ds with _ | ⟨a,_ | ⟨_,_⟩⟩<;>first | exact trivial | (rcases a with⟨⟩<;>exact trivial) | skip
 rcases a with⟨⟩<;>first | exact trivial | skip
 dsimp only;generalize hk:J[n_1]?=x;rcases x with _ | ⟨⟨⟩⟩<;>first | exact trivial | exact Opt.ite λq=>h n_1 _ rfl hk q.2
theorem akx{n:Nat}{l ds:List D}{J:ac}{C:Prop}(e:Wr (ji "pop" n l ds J) K)(h:∀x,ds=[]->l.getLast?=some x->l.length<=ah->K x (J.set n (.list l.dropLast))->C):C:=by
 refine Opt.wr ?_ e;clear e
 delta ji
 rw[if_neg (by decide+kernel),if_neg (by decide+kernel),if_pos rfl];rcases ds with _ | ⟨_,_⟩<;>first | exact trivial | skip
 dsimp only;generalize hx:l.getLast?=x;rcases x with _ | x
 ·trivial
 ·exact Opt.ite λq=>h x rfl hx q
theorem arl{P:Prop}{m:Str}(h1:m="get")(h2:(m=="get")=false):P:=by rw[h1] at h2;exact absurd h2 (by decide+kernel)
theorem ut{l:Nat}{L:List D}{a:Addr}{m:Str}{id:String}(el:p.J[l]?=some (.list L))(ma:p.mu[l]?=some a)(slot:Slot "list" m id)(ty:typeOf (.builtin id)=pure (.type "method_descriptor"))(ng:(m=="get")=false)
  (go:∀(q:Ptx g) L vs ds K,q.J[l]?=some (.list L)->q.mu[l]?=some a->q.L vs ds->Wr (ji m l L ds q.J) K->ExD A q (call (.builtin id) (.ref a::vs)) K):MethAt c A p (.ref a) (.loc l) m (.blt l) (.builtin id):=
 ⟨λb Q hq=>p.ls el ma λws k ho Y=>getMethod_builtin ⟨_,ho,rfl⟩ PySem.F.plainAttrs_list slot ty (λb e=>by cases e;exact⟨_,ho,rfl⟩) hq,λY Z U V N=>ark,
  λq vs ds K t r e=>aa9 e (λL h e=>go q L vs ds K h (t.post.at ma) r e) λY Z U V h=>arl h ng⟩
theorem aky(W:Wo3 g c n)(R:ik A n){v:Value}{a:D}{m:Str}{k:nu}(r:p.R v a)(e:fg c p.J a m=some k):∃u,MethAt c A p v a m k u:=
 ac7 e (λl C d es u e0 ei ee h1 h2 ek=>by
  subst e0;subst ek;obtain⟨ad,rfl,ma⟩:=r;obtain⟨fa,rfl,k1,k2,k3,k4⟩:=W.C.meth _ _ _ h2;obtain⟨dx,kvs,arr,ep,md,hob,hob2,_,_,_,hkv,hlook,I⟩:=p.inst ei ee ma m;refine⟨.ref fa,λb Q hq=>method_fn (W.F.kin p.st) I (plainGet_of k1).1 (plainGet_of k1).2 k2 (beq_iff_eq.mp k3) ?_ hq,λq ds K t Y=>keeps_K k4 _ (W.F.kin q.st),λq vs ds K t r2 e=>W.C.F A q _ (.val (.ref fa)) _ _ K R rfl (av.cons (Rep.loc (t.post.at ma)) r2) e.p⟩;have:valueAt kvs m=none:=by
   rcases hkv.at m with⟨u,w',z1,z2,_⟩ | ⟨z1,_⟩
   ·exact nS z2 h1
   ·exact z1
  show(lookIn m _).map _=_;rw[hlook,this];rfl) (λl L e0 el hm ek=>by
  subst e0;subst ek;obtain⟨ad,rfl,ma⟩:=r;rcases hm with rfl | rfl | rfl
  ·exact⟨_,ut el ma PySem.F.slot_list_append PySem.F.type_list_append (by decide+kernel) λq L vs ds K h ma r e=>akv e λx e hz k=>by subst e;exact r.c λv ws a r=>r.n (ug h ma hz a k)⟩
  ·exact⟨_,ut el ma PySem.F.slot_list_extend PySem.F.type_list_extend (by decide+kernel) λq L vs ds K h ma r e=>akw e λx R e hr hz k=>by subst e;exact r.c λv ws a r=>r.n (a.l λb mb=>acv h ma hr mb hz k)⟩
  ·exact⟨_,ut el ma PySem.F.slot_list_pop PySem.F.type_list_pop (by decide+kernel) λq L vs ds K h ma r e=>akx e λx e hx hz k=>by subst e;exact r.n (akp h ma hx hz k)⟩) λl es e0 el hm ek=>by
  subst e0;subst ek;subst hm;obtain⟨ad,rfl,ma⟩:=r;exact⟨.builtin "dict.get",λb Q hq=>p.di el ma λkvs hd Y=>by
    obtain⟨ob,es',ep,hob,hex,hdat,_⟩:=hd;exact getMethod_builtin ⟨ob,hob,hex.1⟩ PySem.F.plainAttrs_dict PySem.F.slot_dict_get PySem.F.type_dict_get (λb e=>by cases e;exact⟨ob,hob,hex.2.1⟩) hq,λY Z U V N=>ark,
   λq vs ds K t r e=>aa9 e (λL h e=>by
    unfold ji at e;rw[if_neg (by decide+kernel),if_neg (by decide+kernel),if_neg (by decide+kernel)] at e;exact e.elim) λes k d h Y e k=>by
    subst e;exact r.c λv ws b r=>r.c λv ws c r=>r.n (b.i λt2=>ag8 W.F.sys h (t.post.at ma) c k)⟩
theorem ahp{env:Env}{es:List Expr}{pos:Pos}(h1:(backTo pos (starEach es env)).any (·.1)=false)(h3:es.length<20):methodCallForm (es.length+([]:List Keyword).length) (backTo pos (starEach es env)) (backToKw pos (keywordEach [] env))=true:=by
 unfold methodCallForm;rw[show(backTo pos (starEach es env)).all (λx=> !x.1)=true from by rw[<-List.not_any_eq_all_not,h1];rfl];exact decide_eq_true (yJ h3 (by decide:20<=30))
theorem ww(W:Wo3 g c n){o:Expr}{m:Str}{ap pos:Pos}{es:List Expr}(ho:aw g c n o)(hs:jy g c n es):aw g c n (.Call (.Attribute o m ap) es [] pos):=λf p ρ K E e Q hQ=>by
 have e:Ki (vE c f.sc o ρ p.J (kM1 c (vEs c f.sc es) m ρ K)) False (Nat.beq ap.endLine pos.line&&(Nat.blt es.length 20&&es.all noStar)):=by k_lt e
 obtain⟨hc,e⟩:=e.inv;rw[Bool.and_eq_true,Bool.and_eq_true] at hc;rw[arm_eval_Call];refine yH (aed e (ho E e _ λv p1 a t1 r1 e1=>yH (wpAny_standAt ?_)));obtain⟨k,ek,e2⟩:=e1.inv;obtain⟨u,M⟩:=aky (A:=f.A) W f.room r1 ek;unfold methodCall;rw[ahp (pe hc.2.2).1 (yL hc.2.1)];refine yH (wpAny_holding (M.get _ _ ?_));refine yH (wpAny_of_eq (by unfold methodCallPos;rw[Nat.eq_of_beq_eq_true hc.1];simp:methodCallPos true o f.env ap pos=pure pos) ?_);exact mx (first:=[v]) hc.2.2 (hs pos (E.to t1) e2) (λq ds t k=>M.kp q ds K t k) (λq vs ds t r2 k=>M.go q vs ds K t r2.1 k) Q λu q2 d2 t2=>hQ u q2 d2 (t1.trans t2)
end
section
variable{prog:Program}{w:World}{A:Around}{E:Value->Shared->Prop}{s:Shared}
theorem xo{it t:Addr}{items:Array Value}(hne:t≠it):∀(n i:Nat) (s:Shared) (Q:List Value->Shared->Prop),s.heap.IsListIter it t i->s.heap.IsList t items->i+n<=items.size->
  (∀h',h'.IsListIter it t (i+n)->Heap.SameBut it s.heap h'->Q ((items.toList.drop i).take n) {s with heap:=h'})->wpAny (model prog w) A (draw (.ref it) n) Q E s
 | 0,i,s,Q,hit,Y,Z,hQ=>by
  show wpAny _ _ (pure []) Q E s;exact yI (hQ s.heap hit (Heap.SameBut.refl ..))
 | n+1,i,s,Q,hit,ht,hle,hQ=>by
  have hlt:i<items.size:=yJ (Nat.lt_add_of_pos_right (Nat.succ_pos n)) hle;show wpAny _ _ (pyNext (.ref it)>>=_) Q E s;refine yH (PySem.wpAny_pyNext_list_item hit ht (x:=items[i]) (Array.getElem?_eq_getElem hlt) λh₁ hit₁ hs₁=> ?_);refine yH (wpAny_holding (xo hne n (i+1) _ _ hit₁ (ht.extBut hs₁.extBut hne) (by rw[Nat.add_right_comm];exact hle) λh₂ hit₂ hs₂=>yI ?_));have:=hQ h₂ (by rw[show i+(n+1)=i+1+n from by rw[Nat.add_right_comm];rfl];exact hit₂) (hs₁.trans hs₂);rw[List.drop_eq_getElem_cons (by rw[yF];exact hlt),List.take_succ_cons] at this;exact this
theorem rh{t:Addr}{items:Array Value}{Q:List Value->Shared->Prop}(hh:A.handled=none)(ht:s.heap.IsList t items)
  (hQ:∀h',Heap.ExtBut s.heap.objs.size s.heap h'->Q items.toList {s with heap:=h'}):wpAny (model prog w) A (unpackItems (.ref t) items.size none) Q E s:=by
 have hlt:t≠s.heap.objs.size:=by obtain⟨o,ho,_⟩:=ht;exact yO (Heap.lt_size ho)
 unfold unpackItems;refine yH ?_
 ·unfold notIterableAtAll;refine yH (wpAny_specialOf ht.typeIs PySem.slot_list_iter.lookup (yI ?_));refine yH (wpAny_holding (PySem.wpAny_pyIter_list ht ?_));refine yH (wpAny_holding (xo hlt items.size 0 _ _ ⟨_,Heap.get?_push_size _ rfl,rfl,rfl⟩ (ht.push _) (by rw[Nat.zero_add];exact yE _) λh₁ hit₁ hs₁=> ?_));rw[show List.take items.size (List.drop 0 items.toList)=items.toList from List.take_of_length_le (Nat.le_of_eq yF)];rw[if_neg (by rw[yF];exact Nat.lt_irrefl _)];have ht₁:h₁.IsList t items:=(ht.push _).extBut hs₁.extBut hlt;refine yH (wpAny_holding (PySem.wpAny_pyNext_list_end hh hit₁ ht₁ (by rw[Nat.zero_add];exact Array.getElem?_eq_none (yE _)) λh₂ he₂=> ?_));exact yI (hQ h₂ λb o hb e=>he₂ b o hb (hs₁.extBut b o hb (yT _ e)))
end
section
variable{g:Gl}{c:Cx}{n:Nat}{f:Fc g c n}{p:Ptx g}{ρ ρ':af}{K:KD}{sc:aq}{A:Around}{J:ac}
theorem uu(hh:A.handled=none){v:Value}{d:D}{ds:List D}{n:Nat}{Q:List Value->Shared->Prop}(e:kq p.J d=some ds)(hn:n=ds.length)(r:p.R v d)
  (hQ:∀vs q,p.to [] q->q.J=p.J->q.L vs ds->Q vs q.s):wpAny (model g.prog g.w) A (unpackItems v n none) Q EF p.s:=by
 have old:∀{h':Heap},Heap.ExtBut p.s.heap.objs.size p.s.heap h'->∀vs,p.L vs ds->Q vs {p.s with heap:=h'}:=λ{h'} k vs r=>by
  have k':∀b o,p.s.heap.get? b=some o->h'.get? b=some o:=λb o e=>k b o (yO (Heap.lt_size e)) e;exact hQ vs (p.nx h' p.s.toks (p.st.grow k')) (Ptx.qC (.grow [] k')) rfl (r.keep λb o e Y=>k' b o e)
 have sz:∀{vs:Array Value},p.L vs.toList ds->n=vs.size:=λr=>hn.trans r.size.symm;cases d<;>w_pre e
 ·cases e;obtain⟨a,vs,rfl,t,r'⟩:=r.qL;rw[sz r'];exact PySem.wpAny_unpackItems_tuple hh t λh' k=>old k _ r'
 ·obtain⟨a,rfl,ma⟩:=r.qU;unfold kq at e;dsimp only at e;generalize hl:p.J[n_1]?=x at e;rcases x with _ | x
  ·exact nS e rfl
  cases x<;>w_pre e;cases e;refine p.ls hl ma λvs k ho r'=> ?_;rw[sz r'];exact rh hh (ai ho) λh' k=>old k _ r'
theorem xp{t:Expr}{d:D}{C:Prop}(e:j7 sc J t d ρ=some ρ')(h1:∀x p,t=.Name x p->cf sc x=true->upd ρ x d=ρ'->C)(h2:∀es m p ds,t=.Tuple es m p->kq J d=some ds->d7 sc es ds ρ=some ρ'->C):C:=by
 delta j7 at e
 rcases hn:asName t with _ | x
 ·rw[hn] at e;replace e:((ad5 t).bind λes=>(kq J d).bind λds=>d7 sc es ds ρ)=some ρ':=e;obtain⟨es,e1,e⟩:=yR e;obtain⟨ds,e2,e⟩:=yR e;obtain⟨m,p,et⟩:=afr e1;exact h2 _ _ _ _ et e2 e
 ·rw[hn] at e;obtain⟨p,et⟩:=jx hn;exact h1 _ _ et (iS e).1 (iS e).2
theorem iN{α:Type}{c:Prop}[Decidable c]{a:Option α}{b:α}(h:(if c then a else none)=some b):c/\a=some b:=
 (Classical.em c).elim (λz=>⟨z,(if_pos z).symm.trans h⟩) λz=>nomatch (if_neg z).symm.trans h
theorem og{e1:Expr}{es:List Expr}{ds:List D}{C:Prop}(e:d7 sc (e1::es) ds ρ=some ρ')(h:∀x p d ds',e1=.Name x p->ds=d::ds'->cf sc x=true->d7 sc es ds' (upd ρ x d)=some ρ'->C):C:=by
 rcases ds with _ | ⟨d,ds⟩
 ·exact nS e rfl
 obtain⟨x,hx,e⟩:=yR e;obtain⟨p,rfl⟩:=jx hx;exact h _ _ _ _ rfl rfl (iN e).1 (iN e).2
theorem uv{env:Env}:∀{es:List Expr} {ds:List D} {ρ:af},d7 sc es ds ρ=some ρ'->es.length=ds.length/\(assignEach es env).length=es.length/\(assignEach es env).findIdx? (·.1)=none
 | [],[],Y,Z=>⟨rfl,rfl,rfl⟩
 | [],Y::Z,U,e=>nS e rfl
 | e1::es,ds,ρ,e=>og e λx p d ds' z1 z2 Y e2=>by
  subst z1;subst z2;obtain⟨h1,h2,h3⟩:=uv (env:=env) (es:=es) e2;refine⟨congrArg Nat.succ h1,congrArg Nat.succ h2,?_⟩;show List.findIdx? (·.1) ((false,assign (.Name x p) env)::assignEach es env)=none;rw[List.findIdx?_cons,h3];rfl
theorem uw:∀(es:List Expr) {ds:List D} {vs:List Value} {p:Ptx g} {ρ:af} {Q:Unit->Shared->Prop},d7 f.sc es ds ρ=some ρ'->Frx f p ρ->p.L vs ds->
  (∀q:Ptx g,p.to f.own q->q.J=p.J->Frx f q ρ'->Q () q.s)->wpAny (model g.prog g.w) f.A (assignInOrder ((assignEach es f.env).map (·.2)) vs) Q EF p.s
 | [],[],vs,p,ρ,Q,e,E,r,hQ=>by
  cases e;rw[r.inv0];exact yI (hQ p (.refl ..) rfl E)
 | [],Y::Z,U,V,N,O,e,H,G,I=>nS e rfl
 | e1::es,ds,vs,p,ρ,Q,e,E,r,hQ=>og e λx q d ds' z1 z2 hs e2=>by
  subst z1;subst z2;refine r.c λv ws ra r1=> ?_;show wpAny _ f.A (do holding ws (assign (.Name x q) f.env v);assignInOrder ((assignEach es f.env).map (·.2)) ws) Q EF p.s;refine yH (wpAny_holding ?_);rw[PySem.assign_Name];exact yH (wpAny_standAt (qz E hs ra λq1 t1 s1 E1=>uw es e2 E1 (r1.to t1) λq2 t2 s2 E2=>hQ q2 (t1.trans t2) (s2.trans s1) E2))
theorem jz(hh:f.A.handled=none)(E:Frx f p ρ){t:Expr}{v:Value}{d:D}{Q:Unit->Shared->Prop}(e:j7 f.sc p.J t d ρ=some ρ')(r:p.R v d)
  (hQ:∀q:Ptx g,p.to f.own q->q.J=p.J->Frx f q ρ'->Q () q.s):wpAny (model g.prog g.w) f.A (assign t f.env v) Q EF p.s:=
 xp e (λx q z hs eu=>by
  subst z;subst eu;rw[PySem.assign_Name];exact yH (wpAny_standAt (qz E hs r hQ))) λes m q ds z e1 e2=>by
  subst z;obtain⟨h1,h2,h3⟩:=uv (env:=f.env) e2;rw[arm_assign_Tuple];refine yH (wpAny_standAt ?_);unfold unpack;rw[h3];exact yH (wpAny_holding (uu hh e1 (h2.trans h1) r λvs q1 t1 s1 r1=>uw es e2 (E.to t1) r1 λq2 t2 s2 E2=>hQ q2 (t1.w.trans t2) (s2.trans s1) E2))
end
noncomputable def nq(g:Gl)(h:Heap)(mu:List Addr)(it:Value)(i:Nat)(ow:List Addr):Src->Prop
 | .items l=> ∃a,it=.ref a/\ow=[a]/\((∃t vs,h.IsTupleIter a t i/\h.IsTuple t vs/\av h mu vs.toList l)\/∃N:Nat,IsRangeIter h a (i:Int) ((N:Int) - i) 1/\i<=N/\l=(List.range N).map λj:Nat=>D.int (j:Int))
 | .live n=> ∃a ad,it=.ref a/\ow=[a]/\h.IsListIter a ad i/\mu[n]?=some ad
 | .enum n=> ∃e a ad old,it=.ref e/\ow=[e,a]/\e≠a/\IsEnum h e a (i:Int) old/\h.IsListIter a ad i/\mu[n]?=some ad
noncomputable def k8(o:Obj):Prop:=∃n vs,o.cls=.type n/\n≠"code"/\o.data=.fields vs/\∀s t,vs[1]? ≠some (.str s t)
theorem k8.pl{o:Obj}(x:k8 o):Pl o:=by
 obtain⟨n,vs,c,h,d,_⟩:=x;refine⟨λt=> ?_,λt=> ?_⟩
 ·obtain⟨_,_,_,q⟩:=t;rw[d] at q;cases q
 ·rcases t.1 with q | q<;>rw[c] at q<;>cases q;exact h rfl
theorem k8.fr{o:Obj}(x:k8 o)(k:FrK o.data):False:=by
 obtain⟨n,vs,c,h,d,q⟩:=x;rw[d] at k;cases k;exact q _ _ ‹_›
structure ane(g:Gl)(h:Heap)(mu:List Addr)(a:Addr):Prop where
 m:a∉mu
 p:a≠g.P
 z:g.h₀.get? a=none
 o:∃o,h.get? a=some o/\k8 o
noncomputable def il(g:Gl)(h:Heap)(mu:List Addr)(ow:List Addr):Prop:=∀a∈ow,ane g h mu a
noncomputable def akz(ow:List Addr)(h h':Heap):Prop:=∀b o,b∉ow->h.get? b=some o->h'.get? b=some o
section
variable{g:Gl}{c:Cx}{n:Nat}{f:Fc g c n}{p p0 q:Ptx g}{ρ ρ':af}{own ow:List Addr}{h h':Heap}{mu mu':List Addr}{it:Value}{i:Nat}{src:Src}{A:Around}
theorem il.shape(x:il g h mu ow){a:Addr}(ha:a∈ow){o:Obj}(e:h.get? a=some o):k8 o:=by
 obtain⟨o',e',t⟩:=(x a ha).o;rw[e] at e';cases e';exact t
theorem il.post(x:il g h mu ow)(p:bc g own mu h mu' h')(d:∀a∈ow,a∉own):il g h' mu' ow:=λa ha=>
 let⟨m,q,z,o,e,t⟩:=x a ha
 ⟨p.out m e,q,z,o,p.keep _ _ e (.inl ⟨d a ha,q,m⟩),t⟩
theorem nq.post(pr:il g h mu ow)(p:bc g own mu h mu' h')(d:∀a∈ow,a∉own):∀{src:Src},nq g h mu it i ow src->nq g h' mu' it i ow src:=by
 have kp:∀a∈ow,∀o,h.get? a=some o->h'.get? a=some o:=λa ha o e=>p.keep _ _ e (.inl ⟨d a ha,(pr a ha).p,(pr a ha).m⟩);exact λ{src} x=>match src,x with
 | .items l,x=>by
  obtain⟨a,rfl,rfl,y⟩:=x;exact⟨a,rfl,rfl,y.imp (λ⟨t,vs,⟨o,e,r⟩,ht,hr⟩=>⟨t,vs,⟨o,kp a yP _ e,r⟩,p.tup.tup ht,p.repL hr⟩) λ⟨N,e,r⟩=>⟨N,kp a yP _ e,r⟩⟩
 | .live n,x=>by
  obtain⟨a,ad,rfl,rfl,⟨o,e,r⟩,ma⟩:=x;exact⟨a,ad,rfl,rfl,⟨o,kp a yP _ e,r⟩,p.at ma⟩
 | .enum n,x=>by
  obtain⟨e,a,ad,old,rfl,rfl,ne,he,⟨o,eo,r⟩,ma⟩:=x;exact⟨e,a,ad,old,rfl,rfl,ne,kp e yP _ he,⟨o,kp a (List.mem_cons_of_mem _ yP) _ eo,r⟩,p.at ma⟩
theorem kz.no{env:Env}{sc:aq}(E:kz g env sc ρ h mu)(pr:il g h mu ow):∀a∈ow,a∉ownOf sc env:=λa ha m=>by
 obtain⟨o,e,k⟩:=(E.priv a m).o;refine(pr.shape ha e).fr ?_;rcases k with⟨_,_,_,k⟩ | ⟨_,k⟩
 ·exact absurd (pr.shape ha e) λ⟨Y,Z,U,V,q,N⟩=>by rw[k] at q;cases q
 ·rw[k];exact .cell _
theorem Ptx.gone(pr:il g p.s.heap p.mu ow)(k:akz ow p.s.heap h'):St g h' p.mu p.J/\(∀{env:Env} {sc:aq},kz g env sc ρ p.s.heap p.mu->kz g env sc ρ h' p.mu):=by
 have tk:bv p.s.heap h':=λb o e t=>k b o (λm=>(pr.shape m e).pl.1 t) e;refine⟨p.st.step (·∈ow) (λa ha=>⟨(pr a ha).m,(pr a ha).z,λo e=>(pr.shape ha e).pl⟩) k,λ{env sc} E=>E.mv (X:=(·∈ow)) ⟨⟨[],(List.append_nil _).symm,λY m=>nomatch m⟩,λb o e n Y Z=>k b o n e,tk⟩ (λx o e k m=>(pr.shape m e).fr k) λm=> ?_⟩;exact E.no pr _ m o8
theorem Ptx.iter(pr:il g p.s.heap p.mu ow)(k:akz ow p.s.heap h')(pr':∀a∈ow,∃o,h'.get? a=some o/\k8 o):St g h' p.mu p.J/\bc g ow p.mu p.s.heap p.mu h'/\il g h' p.mu ow:=
 ⟨(p.gone (ρ:=λY=>none) pr k).1,⟨⟨[],(List.append_nil _).symm,λY m=>nomatch m⟩,λb o e=>(Classical.em (b∈ow)).elim (λm=>(pr' b m).imp λY q=>q.1) λm=>⟨o,k b o m e⟩,
  λb o e q=>k b o (q.elim (λq=>q.1) λq m=>(pr.shape m e).pl.1 q) e⟩,λa ha=>⟨(pr a ha).m,(pr a ha).p,(pr a ha).z,pr' a ha⟩⟩
end
section
variable{g:Gl}{c:Cx}{n:Nat}{f:Fc g c n}{p p0 q:Ptx g}{ρ ρ':af}{own ow:List Addr}{h h':Heap}{mu mu':List Addr}{it:Value}{i:Nat}{src:Src}{A:Around}{t:Expr}
theorem ahq{s:Shared}{a:Addr}{o:Obj}{T:String}{v:Value}(ho:s.heap.get? a=some o)(hc:o.cls=.type T)(hT:(["enumerate","zip","dict_itemiterator","dict_reverseitemiterator","odict_iterator","itertools.zip_longest","itertools.pairwise"]:List String).contains T=false)
  {β:Type} {kk:Sem β} {Q':β->Shared->Prop} (hk:wpAny (model g.prog g.w) A kk Q' EF s):wpAny (model g.prog g.w) A (letOwnedTupleGo t (.ref a) v>>=λY=>kk) Q' EF s:=by
 obtain⟨cl,dd,da,sl⟩:=o;simp only at hc;subst hc;refine yH ?_;have k:wpAny (model g.prog g.w) A (pure ()) (λY s=>wpAny (model g.prog g.w) A kk Q' EF s) EF s:=yI hk;unfold letOwnedTupleGo;cases t<;>first | exact k | skip
 all_goals
  cases v<;>first | exact k | skip
  refine yH (wpAny_load ho ?_);dsimp only;cases da<;>first | exact k | (dsimp only;rw[hT];exact k)
noncomputable def Goes(A:Around)(p:Ptx g)(it:Value)(i:Nat)(ow:List Addr)(src:Src)(t:Expr)(d:D)(v:Value)(s:Shared):Prop:=∀(β:Type) (kk:Sem β) (Q:β->Shared->Prop),
 (∀q:Ptx g,p.to ow q->q.J=p.J->il g q.s.heap q.mu ow->nq g q.s.heap q.mu it i ow src->q.R v d->wpAny (model g.prog g.w) A kk Q EF q.s)->wpAny (model g.prog g.w) A (letOwnedTupleGo t it v>>=λY=>kk) Q EF s
theorem ahr{a b:Addr}(hb:b∉ [a]):b≠a:=λz=>hb (z▸yP)
theorem ahs{a b e:Addr}(hb:b∉ [e,a]):b≠a:=λz=>hb (z▸List.mem_cons_of_mem _ yP)
noncomputable def nstr:Option Value->Bool
 | some (.str ..)=>false
 | Y=>true
theorem io{n:String}{vs:Array Value}{o:Obj}(hc:o.cls=.type n)(hn:n≠"code")(hd:o.data=.fields vs)(h1:nstr vs[1]?=true):k8 o:=⟨n,vs,hc,hn,hd,λs t e=>by rw[e] at h1;cases h1⟩
noncomputable def Mu(p q:Ptx g):Prop:=∀(i:Nat) (a:Addr),p.mu[i]?=some a->q.mu[i]?=some a
theorem Ptx.goes{a:Addr}{o:Obj}{T:String}{v:Value}{d:D}{tk:Nat}(pr:il g p.s.heap p.mu [a])(ks:Heap.SameBut a p.s.heap h')(ho:h'.get? a=some o)(hc:o.cls=.type T)(hio:k8 o)
  (hT:(["enumerate","zip","dict_itemiterator","dict_reverseitemiterator","odict_iterator","itertools.zip_longest","itertools.pairwise"]:List String).contains T=false) (hI:bc g [a] p.mu p.s.heap p.mu h'->nq g h' p.mu (.ref a) i [a] src/\Rep h' p.mu v d):
  Goes A p (.ref a) i [a] src t d v {p.s with heap:=h',toks:=tk}:=λβ kk Q hk=>by
 obtain⟨S,P,pr'⟩:=Ptx.iter pr (h':=h') (λb o hb e=>ks.extBut b o (ahr hb) e) λb hb=>yG hb▸⟨o,ho,hio⟩;exact ahq ho hc hT (hk (p.nx h' tk S) (Ptx.qC P) rfl pr' (hI P).1 (hI P).2)
theorem aht(hh:A.handled=none)(I:nq g p.s.heap p.mu it i ow src)(pr:il g p.s.heap p.mu ow)(ht:gh src t=true){KK:Option D->Prop}(e:Wv (ic p.J i src) KK){α:Type}{k:Option Value->Sem α}{Q:α->Shared->Prop}
  (hend:KK none->∀h',akz ow p.s.heap h'->wpAny (model g.prog g.w) A (k none) Q EF {p.s with heap:=h'})
  (hitem:∀d v s,KK (some d)->Goes A p it (i+1) ow src t d v s->wpAny (model g.prog g.w) A (k (some v)) Q EF s):wpAny (model g.prog g.w) A (pyNext it) (λr s'=>wpAny (model g.prog g.w) A (k r) Q EF s') EF p.s:=by
 have e1:∀{a:Addr} {h':Heap},Heap.ExtBut a p.s.heap h'->akz [a] p.s.heap h':=λk b o hb e=>k b o (ahr hb) e;have lst:∀{n:Nat} {KL:List D->Option D},Wv (match p.J[n]? with
   | some (.list l)=>some (KL l)
   | Y=>none) KK->∃l,p.J[n]?=some (.list l)/\KK (KL l):=λ{n KL} e=>by
  generalize hl:p.J[n]?=x at e;rcases x with _ | x
  ·exact e.elim
  cases x<;>first | exact e.elim | exact⟨_,rfl,e⟩
 induction src with
 | items l=>
  obtain⟨a,rfl,rfl,y⟩:=id I;have e:KK l[i]?:=e;rcases y with⟨t',vs,hit,htu,hr⟩ | ⟨N,hit,hle,rfl⟩
  ·cases hr':l[i]? with
   | none=>
    exact PySem.wpAny_pyNext_tuple_end hh hit htu ((Array.getElem?_toList ..).symm.trans (hr.none_of i hr')) λh' ke=>hend (hr'▸e) h' (e1 ke)
   | some d=>
    obtain⟨v,hv,rv⟩:=hr.get i d hr';refine PySem.wpAny_pyNext_tuple_item hit htu ((Array.getElem?_toList ..).symm.trans hv) λh' hit' ks=> ?_;obtain⟨o',ho',hc',hd'⟩:=id hit';exact hitem d v _ (hr'▸e) (Ptx.goes (tk:=p.s.toks) pr ks ho' hc' (io hc' (by decide) hd' rfl) (by decide) λP=>⟨⟨a,rfl,rfl,.inl ⟨t',vs,hit',P.tup.tup htu,P.repL hr⟩⟩,P.rep rv⟩)
  ·have hN:((List.range N).map λj:Nat=>D.int (j:Int))[i]?=if i<N then some (.int (i:Int)) else none:=by
    rw[List.getElem?_map];by_cases h:i<N
    ·rw[if_pos h,List.getElem?_range h];rfl
    ·rw[if_neg h,List.getElem?_eq_none (by rw[List.length_range];exact Nat.not_lt.mp h)];rfl
   rw[hN] at e;by_cases hlt:i<N
   ·rw[if_pos hlt] at e;refine PySem.wpAny_pyNext_range_item hit (Int.sub_pos_of_lt (Int.ofNat_lt.mpr hlt)) λh' hit' ks=> ?_;exact hitem _ _ _ e (Ptx.goes pr ks hit' rfl (io rfl (by decide) rfl rfl) (by decide) λP=>⟨⟨a,rfl,rfl,.inr ⟨N,(by
     rw[show(N:Int) - ((i+1:Nat):Int)=(N:Int) - i - 1 from by rw[Int.natCast_add,Int.sub_sub];rfl];exact hit'),hlt,rfl⟩⟩,.int _ _⟩)
   ·rw[if_neg hlt] at e;exact PySem.wpAny_pyNext_range_end hh hit (by rw[Nat.le_antisymm hle (Nat.not_lt.mp hlt),Int.sub_self];exact Int.le_refl _) λh' ke=>hend e h' (e1 ke)
 | live n=>
  obtain⟨a,ad,rfl,rfl,hit,ma⟩:=id I;obtain⟨l,el,e⟩:=lst (KL:=λl=>l[i]?) e;refine p.ls el ma λvs q ho hr=> ?_;cases hr':l[i]? with
  | none=>exact PySem.wpAny_pyNext_list_end hh hit (ai ho) ((Array.getElem?_toList ..).symm.trans (hr.none_of i hr')) λh' ke=>hend (hr'▸e) h' (e1 ke)
  | some d=>
   obtain⟨v,hv,rv⟩:=hr.get i d hr';refine PySem.wpAny_pyNext_list_item hit (ai ho) ((Array.getElem?_toList ..).symm.trans hv) λh' hit' ks=> ?_;obtain⟨o',ho',hc',hd'⟩:=id hit';exact hitem d v _ (hr'▸e) (Ptx.goes (tk:=p.s.toks) pr ks ho' hc' (io hc' (by decide) hd' rfl) (by decide) λP=>⟨⟨a,ad,rfl,rfl,hit',ma⟩,P.rep rv⟩)
 | enum n=>
  obtain⟨en,a,ad,old,rfl,rfl,hne,hen,hit,ma⟩:=id I;obtain⟨l,el,e⟩:=lst (KL:=λl=>l[i]?.map λd=> .tup [.int i,d]) e;refine p.ls el ma λvs q ho hr=> ?_;cases hr':l[i]? with
  | none=>
   rw[hr'] at e;exact PySem.wpAny_pyNext_enum_end hh hen hit (ai ho) ((Array.getElem?_toList ..).symm.trans (hr.none_of i hr')) λh' ke=>hend e h' λb o hb e'=>ke b o (ahs hb) e'
  | some d=>
   rw[hr'] at e;obtain⟨v,hv,rv⟩:=hr.get i d hr';refine PySem.wpAny_pyNext_enum_item hen hit (ai ho) ((Array.getElem?_toList ..).symm.trans hv) hne λh' heo hit' htu hz kk'=> ?_;obtain⟨o',ho',hc',hd'⟩:=id hit';have ia:=io hc' (by decide) hd' rfl;obtain⟨S',P',pr'⟩:=Ptx.iter pr (h':=h') (λb o hb e'=>kk' b o (λz=>hb (z▸yP)) (ahs hb) e') λb hb=>(yM hb).elim (λz=>z▸⟨_,heo,io rfl (by decide) rfl rfl⟩) λhb=>yG hb▸⟨o',ho',ia⟩;have rt:Rep h' p.mu (.ref p.s.heap.objs.size) (.tup [.int i,d]):=.tup ⟨_,htu,rfl,_,rfl⟩ (.cons (.int _ _) (.cons (P'.rep rv) .nil));refine hitem (.tup [.int i,d]) (.ref p.s.heap.objs.size) _ e λβ kk Q' hk=> ?_;cases t<;>first | exact tF ht rfl | skip
   refine yH (PySem.wpAny_letOwnedTupleGo_enum heo λh'' he'' ks=> ?_);obtain⟨S'',P'',pr''⟩:=Ptx.iter (p:=p.nx h' (p.s.toks+1) S') pr' (h':=h'') (λb o hb e'=>ks.extBut b o (λz=>hb (z▸yP)) e') λb hb=>(yM hb).elim (λz=>z▸⟨_,he'',io rfl (by decide) rfl rfl⟩) λhb=>yG hb▸⟨o',ks.extBut a o' (Ne.symm hne) ho',ia⟩;exact hk (p.nx h'' (p.s.toks+1) S'') (Ptx.qC (P'.trans P'')) rfl pr'' ⟨en,a,ad,_,rfl,rfl,hne,he'',hit'.extBut ks.extBut (Ne.symm hne),ma⟩ (P''.rep rt)
theorem bc.iter(p:bc g own mu h mu' h')(fr:∀a∈ow,h.get? a=none){mu2:List Addr}{h2:Heap}(q:bc g ow mu' h' mu2 h2):bc g own mu h mu2 h2:=
 bc.drop (λY Z e=>e) fr ((p.weaken (own':=ow++own) λa ha=>List.mem_append_right _ ha).trans (q.weaken λa ha=>List.mem_append_left _ ha))
structure Lp(f:Fc g c n)(p0:Ptx g)(it:Value)(src:Src)(ow:List Addr)(i:Nat)(p:Ptx g)(ρ:af):Prop where
 fr:Frx f p ρ
 it:nq g p.s.heap p.mu it i ow src
 pr:il g p.s.heap p.mu ow
 to:p0.to f.own p
theorem Lp.owned(L:Lp f p0 it src ow i p ρ)(t:p.to f.own q)(E:Frx f q ρ'):Lp f p0 it src ow i q ρ':=
 have dj:=L.fr.no L.pr
 ⟨E,L.it.post L.pr t.post dj,L.pr.post t.post dj,L.to.trans t⟩
theorem Lp.go(L:Lp f p0 it src ow i p ρ)(t:p.to [] q):Lp f p0 it src ow i q ρ:=L.owned t.w (L.fr.to t)
theorem aba(hh:f.A.handled=none)(fr:∀a∈ow,p0.s.heap.get? a=none)(L:Lp f p0 it src ow i p ρ)(ht:gh src t=true){KK:Option D->Prop}(e:Wv (ic p.J i src) KK){α:Type}{k:Option Value->Sem α}{Q:α->Shared->Prop}
  (hend:KK none->∀q:Ptx g,q.J=p.J->Mu p q->Frx f q ρ->p0.to f.own q->wpAny (model g.prog g.w) f.A (k none) Q EF q.s)
  (hitem:∀d v s,KK (some d)->(∀(β:Type) (kk:Sem β) (Q:β->Shared->Prop) (ρ':af),j7 f.sc p.J t d ρ=some ρ'->(∀q:Ptx g,q.J=p.J->Mu p q->Lp f p0 it src ow (i+1) q ρ'->wpAny (model g.prog g.w) f.A kk Q EF q.s)->
    wpAny (model g.prog g.w) f.A (letOwnedTupleGo t it v>>=λY=>assign t f.env v>>=λY=>kk) Q EF s)->wpAny (model g.prog g.w) f.A (k (some v)) Q EF s):wpAny (model g.prog g.w) f.A (pyNext it) (λr s'=>wpAny (model g.prog g.w) f.A (k r) Q EF s') EF p.s:=by
 refine aht hh L.it L.pr ht e (λhr h' kp=> ?_) (λd v s kd G=>hitem d v s kd λβ kk Q ρ' eb hk=>G β _ Q λq t1 s1 pr1 I1 r1=> ?_)
 ·exact hend hr (p.nx h' p.s.toks (p.gone (ρ:=ρ) L.pr kp).1) rfl (λY Z e=>e) ((p.gone L.pr kp).2 L.fr) ⟨⟨L.to.post.ext,λb o e=>by obtain⟨o',e'⟩:=L.to.post.there b o e;exact⟨o',kp b o' (λm=>by rw[fr b m] at e;cases e) e'⟩,λb o e x=>kp b o (λm=>by rw[fr b m] at e;cases e) (L.to.post.keep b o e x)⟩,L.to.sm _ _⟩
 ·have E1:Frx f q ρ:=L.fr.mv (X:=(·∈ow)) t1.post.mv (λx o e k m=>(L.pr.shape m e).fr k) λm=>L.fr.no L.pr _ m o8;have T1:p0.to f.own q:=⟨L.to.post.iter fr t1.post,t1.same.trans (L.to.sm _ _)⟩
  exact yH (jz hh E1 (s1▸eb) r1 λq2 t2 s2 E2=>hk q2 (s2.trans s1) (λi a e=>t2.post.at (t1.post.at e)) (Lp.owned ⟨E1,I1,pr1,T1⟩ t2 E2))
end
noncomputable def af0{g:Gl}(p:Ptx g)(K:Src->ac->Prop)(Q:Value->Shared->Prop):Prop:=∀it ow (q:Ptx g) src,p.to [] q->K src q.J->nq g q.s.heap q.mu it 0 ow src->il g q.s.heap q.mu ow->(∀a∈ow,p.s.heap.get? a=none)->Q it q.s
noncomputable def my(g:Gl)(c:Cx)(n:Nat)(iter:Expr):Prop:=∀{{f:Fc g c n}} {{p:Ptx g}} {{ρ:af}} {{K:Src->ac->Prop}} {{Q:Value->Shared->Prop}},Frx f p ρ->ny c f.sc iter (vE c f.sc iter) ρ p.J K->af0 p K Q->
 wpAny (model g.prog g.w) f.A (eval iter f.env) (λx s1=>wpAny (model g.prog g.w) f.A (pyIter x) Q EF s1) EF p.s
section
variable{g:Gl}{c:Cx}{n:Nat}{f:Fc g c n}{p q:Ptx g}{ρ:af}{K:Src->ac->Prop}{Q:Value->Shared->Prop}{sc:aq}{J:ac}{A:Around}{src:Src}
theorem af0.to(t:p.to [] q)(h:af0 p K Q):af0 q K Q:=λit ow q2 src t2 k I pr fr=>h it ow q2 src (t.trans t2) k I pr λa m=>t.post.isNone (fr a m)
theorem oh{a:Addr}(ha:p.s.heap.objs.size<=a){h':Heap}{o:Obj}(e:h'.get? a=some o)(t:k8 o):ane g h' p.mu a:=
 have hp:=yN (yJ p.st.hP ha)
 ⟨p.st.notMem (cu ha),hp,p.st.old.get (cu ha) hp,o,e,t⟩
theorem ux{o:Obj}{tk:Nat}(ho:k8 o)(hl:(p.s.heap.push o).get? p.s.heap.objs.size=some o)(k:K src p.J)(hI:nq g (p.s.heap.push o) p.mu (.ref p.s.heap.objs.size) 0 [p.s.heap.objs.size] src)(hQ:af0 p K Q):Q (.ref p.s.heap.objs.size) {p.s with heap:=p.s.heap.push o,toks:=tk}:=
 have kp:∀b o',p.s.heap.get? b=some o'->(p.s.heap.push o).get? b=some o':=λb o' e=>yT _ e
 hQ _ _ (p.nx _ tk (p.st.grow kp)) src (Ptx.qC (.grow [] kp)) k hI (λb hb=>yG hb▸oh (yE _) hl ho) λb hb=>yG hb▸cv _
theorem ahu{v:Value}:∀{d:D},p.R v d->Wv (aao p.J d) (kV K p.J)->af0 p K Q->wpAny (model g.prog g.w) A (pyIter v) Q EF p.s
 | .none,Y,e,Z | .bool U,V,e,N | .int O,H,e,G | .str I,S,e,T | .lam B,C,e,F | .val E,L,e,u=>e.elim
 | .tup l,r,e,hQ=>by
  obtain⟨a,vs,rfl,t,r'⟩:=r.qL;exact PySem.wpAny_pyIter_tuple t (ux (src:=.items l) (tk:=p.s.toks) (io rfl (by decide) rfl rfl) (Heap.get?_push_size _ rfl) e
   ⟨_,rfl,rfl,.inl ⟨a,vs,⟨_,Heap.get?_push_size _ rfl,rfl,rfl⟩,t.push _,r'.keep λb o e Y=>yT _ e⟩⟩ hQ)
 | .loc n,r,e,hQ=>by
  obtain⟨a,rfl,ma⟩:=r.qU;unfold aao at e;dsimp only at e;generalize hl:p.J[n]?=x at e;rcases x with _ | x
  ·exact e.elim
  cases x<;>first | exact e.elim | skip
  exact p.ls hl ma λvs k ho r'=>PySem.wpAny_pyIter_list (ai ho) (ux (src:=.live n) (tk:=p.s.toks) (io rfl (by decide) rfl rfl) (Heap.get?_push_size _ rfl) e ⟨_,a,rfl,rfl,⟨_,Heap.get?_push_size _ rfl,rfl,rfl⟩,ma⟩ hQ)
theorem call_one{t:String}{pos:Pos}{x:Expr}{Kd:KD}{Q:Value->Shared->Prop}(he:aw g c n x)(E:Frx f p ρ)(e:vE c f.sc x ρ p.J Kd)(ha:∀q v d,p.to [] q->q.R v d->Kd d q.J->wpAny (model g.prog g.w) f.A (call (.type t) [v]) Q EF q.s):
  wpAny (model g.prog g.w) f.A (callWith pos (.type t) [] (backTo pos (starEach [x] f.env)) []) Q EF p.s:=by
 have hp:=(pe (env:=f.env) (pos:=pos) (show [x].all noStar=true by rw[List.all_cons,xk e];rfl)).1;exact callWith_of (P:=λY=>True) (by rw[hp];rfl) (λh Y=>⟨.machine,.inr (.inl rfl),Looks.of_pure rfl⟩) (pg hp (wpAny_items_cons (he E e _ λv q d t r k=>wpAny_items_nil ⟨trivial,ha q v d t r k⟩) (q9 e)))
theorem ahv{iter:Expr}{whole:af->ac->KD->Prop}{C:Prop}(e:ny c sc iter whole ρ J K)(h1:whole ρ J (kSr K)->C)
  (h2:∀fn p x q t,iter=.Call (.Name fn p) [x] [] q->ce c sc ρ fn=some (.val (.type t))->Ki (vE c sc x ρ J (kRg K)) (Ki (vE c sc x ρ J (kEn K)) False (t=="enumerate")) (t=="range")->C):C:=by
 cases iter<;>first | exact h1 (by k_lt e) | skip
 rename Pos=>q;rename Expr=>fn
 cases fn<;>first | exact h1 (by k_lt e) | skip
 rcases args with _ | ⟨x,_ | ⟨_,_⟩⟩<;>first | exact h1 (by k_lt e) | skip
 cases keywords<;>first | exact h1 (by k_lt e) | skip
 have e:(match ce c sc ρ id with
  | some (.val (.type t))=>Ki (vE c sc x ρ J (kRg K)) (Ki (vE c sc x ρ J (kEn K)) False (t=="enumerate")) (t=="range")
  | Y=>whole ρ J (kSr K)):=by k_lt e
 generalize hn:ce c sc ρ id=y at e;rcases y with _ | y
 ·exact h1 e
 cases y<;>first | exact h1 e | skip
 cases v<;>first | exact h1 e | exact h2 _ _ _ _ _ rfl hn e
theorem Ki.cs{P R:Prop}{b:Bool}{C:Prop}(e:Ki P R b)(h1:b=true->P->C)(h2:R->C):C:=by
 cases b
 ·exact h2 e
 ·exact h1 rfl e
theorem arm{k:Int}(h:(decide (-4096<=k)&&decide (k<=4096))=true):Builtin.Range.rangeSize 0 k 1=(k.toNat:Int) - ((0:Nat):Int)/\ -4096<=k/\k<=4096:=by
 rw[Bool.and_eq_true,decide_eq_true_eq,decide_eq_true_eq] at h;refine⟨?_,h⟩;rw[rangeSize_one];by_cases q:0<k
 ·rw[if_pos q,Int.toNat_of_nonneg (Int.le_of_lt q)];rfl
 ·rw[if_neg q,Int.toNat_of_nonpos (Int.not_lt.mp q)];rfl
theorem ahw(F:Fit g)(C:uh g c n){iter:Expr}(hi:aw g c n iter)(h1:∀fn p x q,iter=.Call (.Name fn p) [x] [] q->aw g c n x):my g c n iter:=λf p ρ K Q E e hQ=>
 ahv e (λe=>hi E e _ λv q d t r k=>ahu r k (hQ.to t)) λfn p1 x q t z hn e9=>by
  have he:aw g c n x:= @h1 _ _ _ _ z;subst z;show wpAny _ f.A (do callWith q (<-eval (.Name fn p1) f.env) [] (backTo q (starEach [x] f.env)) []) _ EF p.s;refine yH (o9 F C E hn λv r=> ?_);cases(show v=_ from r);refine e9.cs (λz e=> ?_) λe=>e.cs (λz e=> ?_) λe=>e.elim
  ·cases eq_of_beq z;refine call_one he E e λq v d t r k=> ?_;cases d<;>first | exact k.elim | skip
   obtain⟨hk,k⟩:=Ki.inv k;refine r.i λtk=>PySem.call_range_1 ?_;obtain⟨hz,h3,h4⟩:=arm hk;refine PySem.wpAny_pyIter_range (IsRange.new q.s.heap 0 i 1 q.s.toks tk (q.s.toks+1)) (small_one (by decide) (by decide) (yW (by decide) h3) (Int.lt_of_le_of_lt h4 (by decide))) ?_;have kp:∀b o',q.s.heap.get? b=some o'->(q.s.heap.push {cls:=.type "range",data:=.fields #[.int 0 q.s.toks,.int i tk,.int 1 (q.s.toks+1)]}).get? b=some o':=λb o' e=>yT _ e;exact ux (p:=q.nx _ (q.s.toks+2) (q.st.grow kp)) (tk:=q.s.toks+2) (io rfl (by decide) rfl rfl) (Heap.get?_push_size _ rfl) k ⟨_,rfl,rfl,.inr ⟨i.toNat,hz▸Heap.get?_push_size _ rfl,Nat.zero_le _,rfl⟩⟩ ((hQ.to t).to (Ptx.qC (.grow [] kp)))
  ·cases eq_of_beq z;refine call_one he E e λq v d t r k=> ?_;cases d<;>first | exact k.elim | skip
   obtain⟨_,hl,k⟩:=Wv.inv k;refine r.l λa ma=> ?_;generalize hx:q.J[n_1]?=x at hl;rcases x with _ | x
   ·exact nS hl rfl
   cases x<;>w_pre hl;refine q.ls hx ma λvs kk ho r'=>PySem.call_enumerate_list (ai ho) λh2 hen hit hsz kp=>PySem.wpAny_pyIter_enum (s:={q.s with heap:=h2,toks:=_}) hen ?_;obtain⟨o,eo,hc,hd⟩:=id hit;exact(hQ.to t) _ [q.s.heap.objs.size+1,q.s.heap.objs.size] (q.nx h2 _ (q.st.grow kp)) (.enum n_1) (Ptx.qC (.grow [] kp)) k ⟨_,_,a,_,rfl,rfl,Nat.succ_ne_self _,hen,hit,ma⟩
    (λb hb=>(yM hb).elim (λz=>z▸oh (Nat.le_succ _) hen (io rfl (by decide) rfl rfl)) λhb=>yG hb▸oh (yE _) eo (io hc (by decide) hd rfl))
    λb hb=>(yM hb).elim (λz=>z▸cu (Nat.le_succ _)) λhb=>yG hb▸cv _
theorem aeg{iter:Expr}{env:Env}(e:ny c sc iter (vE c sc iter) ρ J K)(x:Value):foldedSetIterable iter env x=pure x:=by
 cases iter<;>first | rfl | exact yX (by k_lt e)
end
noncomputable def ph(ifs:List Expr)(env:Env)(b:Bool):Sem Bool:=forIn ifs b λc r=>if r=true then do let ok<-isTrue c env (eval c env);pure (ForInStep.yield ok) else pure (ForInStep.yield r)
noncomputable def i6(g:Gl)(c:Cx)(n:Nat)(ifs:List Expr):Prop:=∀{{f:Fc g c n}} {{p:Ptx g}} {{ρ:af}} {{K:KT}},Frx f p ρ->qu c f.sc ifs ρ p.J K->ExT f.A p (ph ifs f.env true) K
noncomputable def relabel(env:Env)(names:aq):aq:=names.map λ(n,k)=>if(k==NameKind.free&&env.scope.kind==.function&&env.kindOf n==some .cell) then(n,NameKind.cell) else(n,k)
theorem lg{env:Env}:∀{names:aq} {x:Str} {k:NameKind},names.lookup x=some k->(relabel env names).lookup x=some k\/(k=.free/\(relabel env names).lookup x=some .cell)
 | [],x,k,h=>nS h rfl
 | (n,k')::r,x,k,h=>by
  have ih:= @lg env r x k;show List.lookup x ((if(k'==NameKind.free&&env.scope.kind==.function&&env.kindOf n==some .cell)=true then(n,NameKind.cell) else(n,k'))::relabel env r)=_\/_/\List.lookup x ((if(k'==NameKind.free&&env.scope.kind==.function&&env.kindOf n==some .cell)=true then(n,NameKind.cell) else(n,k'))::relabel env r)=_;rw[List.lookup_cons] at h;by_cases hc:(k'==NameKind.free&&env.scope.kind==.function&&env.kindOf n==some .cell)=true
  ·rw[if_pos hc,List.lookup_cons];cases hx:x==n with
   | true=>
    rw[hx] at h;cases h;rw[Bool.and_eq_true,Bool.and_eq_true] at hc;exact .inr ⟨eq_of_beq hc.1.1,rfl⟩
   | false=>rw[hx] at h;exact ih h
  ·rw[if_neg hc,List.lookup_cons];cases hx:x==n with
   | true=>rw[hx] at h;exact .inl h
   | false=>rw[hx] at h;exact ih h
section
variable{g:Gl}{c:Cx}{n:Nat}{f:Fc g c n}{p p0 q:Ptx g}{ρ:af}{own ow:List Addr}{it:Value}{i:Nat}{src:Src}{sc:aq}{K:KD}
theorem abb:i6 g c n []:=λf p ρ K E e Q hQ=>
 have e:K true p.J:=by k_lt e
 wpAny_tests_nil (hQ _ p _ (.refl ..) rfl e)
theorem sj{env:Env}:∀(l:List Expr),ph l env false=pure false
 | []=>rfl
 | x::r=>by
  unfold ph;rw[List.forIn_cons];exact sj r
theorem y8{t:Expr}{ifs:List Expr}(ht:gq g c n t)(hs:i6 g c n ifs):i6 g c n (t::ifs):=λf p ρ K E e Q hQ=>by
 have e:vT c f.sc t (vE c f.sc t) ρ p.J (an7 (qu c f.sc ifs) ρ K):=by k_lt e
 unfold ph;rw[List.forIn_cons];refine yH (yH (ht E e _ λv q b t1 r1 e1=>yI ?_));cases r1;cases v
 ·show wpAny _ f.A (ph ifs f.env false) Q EF q.s;rw[sj];exact yI (hQ _ q _ t1 rfl e1)
 ·exact hs (E.to t1) e1 _ λu q2 d t2=>hQ u q2 d (t1.trans t2)
theorem Bool.nor{a b:Bool}(h:(a || b)=true)(ha:a=false):b=true:=by rw[ha] at h;exact h
structure arn(sc:aq)(scope:Scope)(x:Str×NameKind):Prop where
 nc:x.2≠ .cell
 lo:x.2=.local->scope.names.lookup x.1=some .local
 fr:x.2=.free->scope.names.lookup x.1=some .free/\(sc.lookup x.1=some .cell\/sc.lookup x.1=some .free)
theorem oi{scope:Scope}(h:ju sc scope=true):scope.kind=.function/\∀x∈scope.names,arn sc scope x:=by
 unfold ju at h;rw[Bool.and_eq_true,List.all_eq_true] at h;refine⟨eq_of_beq h.1,λx hx=> ?_⟩;have h:=h.2 x hx;rw[Bool.and_eq_true,Bool.and_eq_true] at h;refine⟨λz=>(by rw[z] at h;exact tF h.1.1 rfl),λz=>eq_of_beq (Bool.nor h.1.2 (by rw[z];rfl)),λz=> ?_⟩;have:=Bool.nor h.2 (by rw[z];rfl);rw[Bool.and_eq_true,Bool.or_eq_true] at this;exact⟨eq_of_beq this.1,this.2.imp eq_of_beq eq_of_beq⟩
theorem abc{scope:Scope}(hok:ju sc scope=true){cl:List (Str×Addr)}{X:Addr}{env:Env}:ownOf scope.names (compEnvC scope cl X env)=[X]:=by
 have:(scope.names.filterMap λx=>if x.2=.cell then(compEnvC scope cl X env).cells.lookup x.1 else none)=[]:=by
  rw[List.filterMap_eq_nil_iff];intro x hx;rw[if_neg ((oi hok).2 x hx).nc]
 unfold ownOf;rw[this];rfl
structure abd(p q:Ptx g)(C:Addr):Prop where
 m:C∉q.mu
 n:p.s.heap.get? C=none
 p:C≠g.P
 z:g.h₀.get? C=none
 ns:∃m,q.s.heap.Ns C m
theorem ahx(E:Frx f p ρ){scope:Scope}(hok:ju f.sc scope=true){C:Addr}(L:abd p q C)(hm:q.s.heap.Ns C λY=>none)(t:p.to [] q):
  kz g (compEnvC scope (jn f.env scope.names []) C f.env) scope.names (ie scope.names ρ) q.s.heap q.mu:=by
 obtain⟨hk,hall⟩:=oi hok;have nocell:∀x,scope.names.lookup x≠some .cell:=λx e=>(hall _ (mem_of_lookup e)).nc rfl;have ow:=abc (X:=C) (env:=f.env) (cl:=jn f.env scope.names []) hok;have Eq:=E.to t;have fre:∀{x d},ie scope.names ρ x=some d->scope.names.lookup x=some .free/\ρ x=some d:=λ{x d} e=>by
  unfold ie at e;generalize hx:scope.names.lookup x=k at e;rcases k with _ | k
  ·exact nS e rfl
  cases k<;>first | exact nS e rfl | exact⟨rfl,e⟩
 refine⟨hk,E.glob,E.blt,λx k e=>lg e,λa ha=> ?_,⟨_,hm,λx d e1 e2=> ?_⟩,λx hx=> ?_,λx y c e=>absurd e (nocell x),λe=>absurd e (nocell _),λx d e=>E.pl x d (fre e).2⟩
 ·rw[ow] at ha;rw[yG ha];obtain⟨o,es,ep,e,d',_⟩:=hm;exact⟨L.m,L.p,L.z,o,e,.inl ⟨rfl,es,ep,d'⟩⟩
 ·rw[(fre e2).1] at e1;cases e1
 ·rcases hx with hx | hx
  ·exact absurd hx (nocell x)
  ·obtain⟨c,ov,W⟩:=E.cells x ((hall _ (mem_of_lookup hx)).fr rfl).2;obtain⟨o,e2,e3⟩:=W.cell;refine⟨c,ov,y4 f.env (mem_of_lookup hx) W.look,⟨o,t.post.keep _ _ e2 (.inl ⟨(λm=>nomatch m),W.p,W.m⟩),e3⟩,t.post.out W.m e2,W.p,λz=> ?_,λd ed=> ?_⟩
   ·have z':c=C:=z;subst z';rw[L.n] at e2;cases e2
   ·refine(W.v d (fre ed).2).imp λv q=>⟨q.1,by rw[ow];exact A.to t (q.2.fresh λa ha=>by rw[yG ha];exact L.n)⟩
theorem y9{J J':ac}{n:Nat}{x:D}(e:kr J n x=some J'):∃l,J[n]?=some (.list l)/\l.length<=ah/\J.set n (.list (l++ [x]))=J':=by
 unfold kr at e;generalize hl:J[n]?=y at e;rcases y with _ | y
 ·exact nS e rfl
 cases y<;>w_pre e;exact⟨_,rfl,iS e⟩
theorem rj{elt t iter:Expr}{ifs:List Expr}{scope:Scope}{pos:Pos}{a:Addr}{na:Nat}{K':KS}(he:aw g c n elt)(hi:i6 g c n ifs)(ht:gh src t=true)
  (fr:∀a∈ow,p0.s.heap.get? a=none) {RR:Result->Shared->Prop} (hR:∀(q:Ptx g) ρ,q.mu[na]?=some a->Frx f q ρ->p0.to f.own q->K' none ρ q.J->RR (.ok .next) q.s):∀(fuel i:Nat) {ρ:af} {p:Ptx g},Lp f p0 it src ow i p ρ->p.mu[na]?=some a->
  turns src (jj f.sc t (qu c f.sc ifs) (vE c f.sc elt) na) fuel i ρ p.J K'->codeAny (model g.prog g.w) f.A (.compLoop (.ListComp elt [⟨t,iter,ifs,0⟩] scope pos) 0 it (.ref a) f.env) RR p.s
 | 0,i,ρ,p,L,ma,e=>yX (by k_lt e)
 | fuel+1,i,ρ,p,L,ma,e=>by
  have e:Wv (ic p.J i src) (tuN (jj f.sc t (qu c f.sc ifs) (vE c f.sc elt) na) (turns src (jj f.sc t (qu c f.sc ifs) (vE c f.sc elt) na) fuel (i+1)) ρ p.J K'):=by k_lt e
  refine codeAny_of_tree ?_;show wpAny _ f.A ((compTurn (.ListComp elt [⟨t,iter,ifs,0⟩] scope pos) 0 it (.ref a) f.env).onRaise (λx=>do noteFrame x f.env;theTreesLotGoes x)) _ _ p.s;refine wpAny_noted (ij ?_);rw[compTurn_list];refine yH (wpAny_standAt (yH (aba f.room.handled fr L ht e (λk q s m E t=>yI (hR q ρ (m _ _ ma) E t (s▸k))) λd v s k G=> ?_)));obtain⟨ρ',eb,k⟩:=Wv.inv k;refine G _ _ _ ρ' eb λq s1 m1 L2=>yH (hi L2.fr (s1▸k) _ λb q2 b' t2 r2 k2=> ?_);cases r2;have ma2:=t2.post.at (m1 _ _ ma);cases b
  ·exact yI ⟨rfl,rj he hi ht fr hR fuel (i+1) (L2.go t2) ma2 k2⟩
  ·refine yH (yH (he (L2.go t2).fr k2 _ λw q3 d3 t3 r3 k3=> ?_));obtain⟨J4,e4,k4⟩:=Wv.inv k3;obtain⟨l,el,hz,e4⟩:=y9 e4;subst e4;have ma3:=t3.post.at ma2;exact yH (ug (K:=λY s=>turns src (jj f.sc t (qu c f.sc ifs) (vE c f.sc elt) na) fuel (i+1) ρ' s K') el ma3 hz r3 k4 _ λu q4 d4 t4 Y k5=>yI (yI ⟨rfl,rj he hi ht fr hR fuel (i+1) (((L2.go t2).go t3).go t4) (t4.post.at ma3) k5⟩))
theorem pyIter_self{A:Around}{s:Shared}{mu:List Addr}{Q:Value->Shared->Prop}{EE:Value->Shared->Prop}(I:nq g s.heap mu it i ow src)(h:Q it s):wpAny (model g.prog g.w) A (pyIter it) Q EE s:=by
 induction src with
 | items l=>
  obtain⟨a,rfl,rfl,y⟩:=I;rcases y with⟨t,vs,h1,_⟩ | ⟨N,h1,_⟩
  ·exact wpAny_pyIter_tupleiter h1 h
  ·exact wpAny_pyIter_rangeiter h1 h
 | live n=>obtain⟨a,ad,rfl,rfl,h1,_⟩:=I;exact wpAny_pyIter_listiter h1 h
 | enum n=>obtain⟨e,a,ad,old,rfl,rfl,_,h1,_⟩:=I;exact PySem.wpAny_pyIter_enum h1 h
end
section
variable{g:Gl}{c:Cx}{n:Nat}{f:Fc g c n}{p p0 q:Ptx g}{ρ:af}{own ow:List Addr}{it:Value}{i:Nat}{src:Src}{sc:aq}{K:KD}
theorem bc.unit{mu mu':List Addr}{h h':Heap}(P:bc g ow mu h mu' h')(fr:∀a∈ow,h.get? a=none):bc g [] mu h mu' h':=bc.drop (λY Z e=>e) fr ((List.append_nil ow).symm▸P)
theorem abe{elt t iter:Expr}{ifs:List Expr}{scope:Scope}{pos:Pos}{use:Option (Value->Sem Unit)}{Q:Value->Shared->Prop}
  (E:Frx f p ρ) (hs:my g c n iter) (he:aw g c n elt) (hi:i6 g c n ifs) (hok:ju f.sc scope=true) (e:ad6 c f.sc scope.names [⟨t,iter,ifs,0⟩] (vE c scope.names elt) ρ p.J K)
  (hQ:∀q a C d,p.to [] q->q.R (.ref a) d->K d q.J->abd p q C->compPost (model g.prog g.w) f.A EF use Q (.ref a) C (.ok .next) q.s):
  wpAny (model g.prog g.w) f.A (comprehension (.ListComp elt [⟨t,iter,ifs,0⟩] scope pos) scope f.env (firstIterPos [⟨t,iter,ifs,0⟩] pos) (newList []) false (firstIter [⟨t,iter,ifs,0⟩] f.env) use) Q EF p.s:=by
 have e:ny c f.sc iter (vE c f.sc iter) ρ p.J (kCp scope.names t (qu c scope.names ifs) (vE c scope.names elt) ρ K):=by k_lt e
 obtain⟨hk,hall⟩:=oi hok;have hclos:closureFor scope f.env=pure (jn f.env scope.names []):=nk λx hx hf=>by
  obtain⟨c,_,W⟩:=E.cells x.1 ((hall x hx).fr hf).2;rw[W.look];rfl
 refine wpAny_comprehension_free (use:=use) (g:=⟨t,iter,ifs,0⟩) (gs:=[]) rfl (aeg e) hclos hk (λx hx hl=>(hall x hx).lo hl) (hs E e λit ow q src t1 k I1 pr1 fr1=>wpAny_newObj_type ?_);obtain⟨ht,k⟩:=Ki.inv k;obtain⟨S2,P2⟩:=uc q.st (arr:=([]:List Value).toArray) (ds:=[]) .nil;refine wpAny_newFunctionEnv (λx hx=>(hall x hx).nc) (λy hy=>nomatch hy) (λh₁ hns₁ hsb₁=> ?_) hk;dsimp only at hns₁ hsb₁⊢;generalize hH:q.s.heap.push {cls:=.type "list",data:=.seq ([]:List Value).toArray}=H2 at S2 P2 hns₁ hsb₁⊢;have kp:∀b o,H2.get? b=some o->h₁.get? b=some o:=λb o e=>hsb₁.extBut b o (yO (Heap.lt_size e)) (yT _ e);have P3:=P2.trans (bc.grow (g:=g) [] kp);have S3:=S2.grow kp;have hC0:H2.get? H2.objs.size=none:=cv _;have hp:=yN S2.hP
 let q1:=λtk=>q.nx h₁ tk S3
 have t3:∀tk,q.to [] (q1 tk):=λtk=>Ptx.qC P3;have L:∀tk,abd p (q1 tk) H2.objs.size:=λtk=>⟨S2.notMem hC0,(t1.post.trans P2).isNone hC0,hp,S2.old.get hC0 hp,_,hns₁⟩
 let f':Fc g c n:=⟨f.A,compEnvC scope (jn f.env scope.names []) H2.objs.size f.env,scope.names,f.room⟩
 have ho:f'.own=[H2.objs.size]:=abc hok;have na:(q.mu++ [q.s.heap.objs.size])[q.J.length]?=some q.s.heap.objs.size:=by rw[<-q.st.len,List.getElem?_append_right (yE _),Nat.sub_self];rfl
 have loop:∀tk,codeAny (model g.prog g.w) f.A (.compLoop (.ListComp elt [⟨t,iter,ifs,0⟩] scope pos) 0 it (.ref q.s.heap.objs.size) f'.env) (compPost (model g.prog g.w) f.A EF use Q (.ref q.s.heap.objs.size) H2.objs.size) (q1 tk).s:=λtk=>by
  refine rj (f:=f') (p0:=p) (K':=kCE q.J.length K) (na:=q.J.length) he hi ht fr1 (λq2 ρ2 ma2 E2 t2 k2=> ?_) _ 0 (p:=q1 tk) ⟨ahx E hok (L tk) hns₁ (t1.trans (t3 tk)),I1.post pr1 P3 (λY Z m=>nomatch m),pr1.post P3 (λY Z m=>nomatch m),(t1.trans (t3 tk)).w⟩ na k;rw[ho] at t2;have pv:=E2.priv H2.objs.size (by rw[show ownOf f'.sc f'.env=[H2.objs.size] from ho];exact yP);exact hQ q2 _ H2.objs.size _ ⟨t2.post.unit λa ha=>by rw[yG ha];exact(L tk).n,t2.same⟩ (.loc ma2) k2 ⟨pv.m,(L tk).n,pv.p,pv.z,E2.ns.imp λY q=>q.1⟩
 exact codeAny_compStart_list (loop _) (pyIter_self (s:=(q1 _).s) (I1.post pr1 P3 (λY Z m=>nomatch m)) (loop _))
theorem xq{C:Addr}{h2:Heap}(t:p.to own q)(L:abd p q C)(k:Heap.SameBut C q.s.heap h2)(tk:Nat):∃S:St g h2 q.mu q.J,p.to own (q.nx h2 tk S)/\∀v d,q.R v d->(q.nx h2 tk S).R v d:=by
 obtain⟨m,o,es,ep,e,d,_⟩:=L.ns;have nn:∀o',q.s.heap.get? C=some o'->Pl o':=λo' e'=>by
  rw[e] at e';cases e';exact .of (by rw[d];rfl)
 have kp:∀b o,b≠C->q.s.heap.get? b=some o->h2.get? b=some o:=k.extBut;have nc:∀{b o},p.s.heap.get? b=some o->b≠C:=λe z=>by rw[z,L.n] at e;cases e
 exact⟨q.st.priv L.m L.z nn kp,⟨⟨t.post.ext,λb o e=>by obtain⟨o',e'⟩:=t.post.there b o e;exact⟨o',kp b o' (nc e) e'⟩,λb o e x=>kp b o (nc e) (t.post.keep b o e x)⟩,t.sm _ _⟩,
  λv d r=>Rep.keep (λb o2 e2 t2=>kp b o2 (λz=>by subst z;exact(nn _ e2).1 t2) e2) r⟩
theorem pj{elt:Expr}{gs:List Comprehension}{scope:Scope}{pos:Pos}{J:ac}(e:vE c sc (.ListComp elt gs scope pos) ρ J K):ju sc scope=true/\(∃t iter ifs,gs=[⟨t,iter,ifs,0⟩])/\ad6 c sc scope.names gs (vE c scope.names elt) ρ J K:=by
 have e:Ki (ad6 c sc scope.names gs (vE c scope.names elt) ρ J K) False (ju sc scope):=by k_lt e
 obtain⟨hok,e⟩:=e.inv;refine⟨hok,?_,e⟩;rcases gs with _ | ⟨⟨t,iter,ifs,(_ | k) | k⟩,_ | ⟨_,_⟩⟩<;>first | exact⟨_,_,_,rfl⟩ | exact yX (by k_lt e)
noncomputable def GOk(g:Gl)(c:Cx)(n:Nat)(gs:List Comprehension):Prop:=∀t iter ifs,gs=[⟨t,iter,ifs,0⟩]->my g c n iter/\i6 g c n ifs
theorem wy{elt:Expr}{gs:List Comprehension}{scope:Scope}{pos:Pos}(hs:GOk g c n gs)(he:aw g c n elt):aw g c n (.ListComp elt gs scope pos):=λf p ρ K E e Q hQ=>by
 obtain⟨hok,⟨t,iter,ifs,rfl⟩,e⟩:=pj e;obtain⟨h1,h2⟩:=hs _ _ _ rfl;rw[PySem.eval_ListComp];refine abe (use:=none) E @h1 he @h2 hok e λq a C d t1 r k L=> ?_;obtain⟨m,hm⟩:=L.ns;refine⟨m,hm,λh2 ks=> ?_⟩;obtain⟨S,t2,r2⟩:=xq t1 L ks q.s.toks;exact hQ _ (q.nx h2 q.s.toks S) d t2 (r2 _ _ r) k
end
noncomputable def ExS{g:Gl}{c:Cx}{n:Nat}(f:Fc g c n)(p:Ptx g)(t:Sem Flow)(K:KS):Prop:=∀Q:Flow->Shared->Prop,(∀(q:Ptx g) ρ,p.to f.own q->Frx f q ρ->K none ρ q.J->Q .next q.s)->
 (∀(q:Ptx g) ρ v d,p.to f.own q->Frx f q ρ->q.R v d->K (some d) ρ q.J->Q (.ret v) q.s)->wpAny (model g.prog g.w) f.A t Q EF p.s
noncomputable def j9(g:Gl)(c:Cx)(n:Nat)(st:Stmt):Prop:=∀{{f:Fc g c n}} {{p:Ptx g}} {{ρ:af}} {{K:KS}},Frx f p ρ->vS c f.sc st ρ p.J K->ExS f p (exec st f.env) K
noncomputable def lh(g:Gl)(c:Cx)(n:Nat)(b:List Stmt):Prop:=∀{{f:Fc g c n}} {{p:Ptx g}} {{ρ:af}} {{K:KS}},Frx f p ρ->vB c f.sc b ρ p.J K->ExS f p (execs b f.env) K
section
variable{g:Gl}{c:Cx}{n:Nat}{f:Fc g c n}{p p0 q:Ptx g}{ρ:af}{ow:List Addr}{it:Value}{i:Nat}{src:Src}{K:KS}{sc:aq}
theorem xr:lh g c n []:=λf p ρ K E e Q hN hR=>
 have e:K none ρ p.J:=by k_lt e
 yI (hN p ρ (.refl ..) E e)
theorem uy{st:Stmt}{b:List Stmt}(hs:j9 g c n st)(hb:lh g c n b):lh g c n (st::b):=λf p ρ K E e Q hN hR=>by
 have e:vS c f.sc st ρ p.J (Kb (vB c f.sc b) K):=by k_lt e
 rw[arm_execs_cons];exact yH (hs E e _ (λq ρ t E1 k=>hb E1 k Q (λq2 ρ2 t2=>hN q2 ρ2 (t.trans t2)) λq2 ρ2 v d t2=>hR q2 ρ2 v d (t.trans t2)) λq ρ v d t E1 r k=>yI (hR q ρ v d t E1 r k))
theorem af1(pos:Pos):j9 g c n (.Pass pos):=λf p ρ K E e Q hN hR=>
 have e:K none ρ p.J:=by k_lt e
 yH (wpAny_standAt (yI (hN p ρ (.refl ..) E e)))
theorem zb(pos:Pos):j9 g c n (.Return none pos):=λf p ρ K E e Q hN hR=>
 have e:K (some .none) ρ p.J:=by k_lt e
 yH (wpAny_standAt (yI (hR p ρ .none .none (.refl ..) E rfl e)))
theorem abf{x:Expr}{pos:Pos}(hx:aw g c n x):j9 g c n (.Return (some x) pos):=λf p ρ K E e Q hN hR=>by
 have e:vE c f.sc x ρ p.J (kRt ρ K):=by k_lt e
 refine yH (wpAny_standAt ?_);show wpAny _ f.A (eval x f.env>>=λv=>pure (Flow.ret v)) Q EF p.s;exact yH (hx E e _ λv q d t r k=>yI (hR q ρ v d t.w (E.to t) r k))
theorem aoh{x:Expr}{l:Nat}{env:Env}{J:ac}{K:KD}(hc:ua x=false)(e:vE c sc x ρ J K):swapsWith x none l env=pure false:=by
 cases x<;>first | rfl | exact tF hc.symm rfl | exact yX (by k_lt e)
theorem af2{x:Expr}{pos:Pos}(hx:aw g c n x):j9 g c n (.Expr x pos):=λf p ρ K E e Q hN hR=>by
 have e:Ki False (vE c f.sc x ρ p.J (kEx ρ K)) (ua x):=by k_lt e
 cases hc:ua x
 ·rw[hc] at e;have e:vE c f.sc x ρ p.J (kEx ρ K):=e;refine wpAny_Expr_any (hx E e _ λv q d t r k=>hN q ρ t.w (E.to t) k) (by unfold interactive;rw[E.kind];rfl) ?_;exact aoh hc e
 ·rw[hc] at e;exact yX e
theorem ak0{t:Expr}{b o:List Stmt}{pos:Pos}(ht:gq g c n t)(hb:lh g c n b)(ho:lh g c n o):j9 g c n (.If t b o pos):=λf p ρ K E e Q hN hR=>by
 have e:vT c f.sc t (vE c f.sc t) ρ p.J (kSI (vB c f.sc b) (vB c f.sc o) ρ K):=by k_lt e
 rw[arm_exec_If];refine yH (wpAny_standAt (yH (ht E e _ λv q x t1 r1 e1=> ?_)));cases r1;cases v
 ·exact ho (E.to t1) e1 Q (λq2 ρ2 t2=>hN q2 ρ2 (t1.w.trans t2)) λq2 ρ2 v d t2=>hR q2 ρ2 v d (t1.w.trans t2)
 ·exact hb (E.to t1) e1 Q (λq2 ρ2 t2=>hN q2 ρ2 (t1.w.trans t2)) λq2 ρ2 v d t2=>hR q2 ρ2 v d (t1.w.trans t2)
theorem ac8{α:Type}{A:Around}{s:Shared}{m:Sem α}{f:Value->Sem Unit}{Q:α->Shared->Prop}{M:Model}(h:wpAny M A m Q EF s):wpAny M A (m.onRaise f) Q EF s:=
 wpAny_onRaise (wpAny_mono h (λY Z q=>q) λY Z x=>x.elim)
theorem abg{t:Expr}{b:List Stmt}(hbd:lh g c n b)(ht:gh src t=true)(fr:∀a∈ow,p0.s.heap.get? a=none){RR:Result->Shared->Prop}
  (hN:∀(q:Ptx g) ρ,p0.to f.own q->Frx f q ρ->K none ρ q.J->RR (.ok .next) q.s) (hR:∀(q:Ptx g) ρ v d,p0.to f.own q->Frx f q ρ->q.R v d->K (some d) ρ q.J->RR (.ok (.ret v)) q.s):∀(fuel i:Nat) {ρ:af} {p:Ptx g},Lp f p0 it src ow i p ρ->
  turns src (i3 f.sc t (vB c f.sc b)) fuel i ρ p.J K->codeAny (model g.prog g.w) f.A (.forLoop t it b [] f.env) RR p.s
 | 0,i,ρ,p,L,e=>yX (by k_lt e)
 | fuel+1,i,ρ,p,L,e=>by
  have e:Wv (ic p.J i src) (tuN (i3 f.sc t (vB c f.sc b)) (turns src (i3 f.sc t (vB c f.sc b)) fuel (i+1)) ρ p.J K):=by k_lt e
  refine codeAny_of_tree ?_;show wpAny _ f.A ((forTurn t it b [] f.env).onRaise (λx=>do noteFrame x f.env;theTreesLotGoes x)) _ _ p.s;refine wpAny_noted (ij ?_);unfold forTurn;refine yH (wpAny_standAt (yH (ac8 (aba f.room.handled fr L ht e (λk q s m E t=>yI ⟨rfl,codeAny_block (yI (hN q ρ t E (s▸k)))⟩) λd v s k G=> ?_))));obtain⟨ρ',eb,k⟩:=Wv.inv k;exact G _ _ _ ρ' eb λq s1 m1 L2=>yH (hbd (K:=Kt (turns src (i3 f.sc t (vB c f.sc b)) fuel (i+1)) K) L2.fr (s1▸k) _ (λq2 ρ2 t2 E2 k2=>yI ⟨rfl,abg hbd ht fr hN hR fuel (i+1) (L2.owned t2 E2) k2⟩) λq2 ρ2 v d t2 E2 r k2=>yI (hR q2 ρ2 v d (L2.to.trans t2) E2 r k2))
theorem ahy{t iter:Expr}{b:List Stmt}{pos:Pos}(hs:my g c n iter)(hbd:lh g c n b):j9 g c n (.For t iter b [] pos):=λf p ρ K E e Q hN hR=>by
 have e:ny c f.sc iter (vE c f.sc iter) ρ p.J (kFo f.sc t (vB c f.sc b) ρ K):=by k_lt e
 refine wpAny_For (hs E e λit ow q src t1 k I1 pr1 fr1=> ?_) (aeg e);obtain⟨ht,k⟩:=Ki.inv k;exact abg (RR:=λr s'=>match r with | .ok f=>Q f s' | .error e=>cameBackBy (model g.prog g.w) f.A f.env EF e s') hbd ht fr1 hN hR _ 0 ⟨E.to t1,I1,pr1,t1.w⟩ k
theorem uz{t:Expr}{b:List Stmt}(ht:gq g c n t)(hbd:lh g c n b){RR:Result->Shared->Prop}
  (hN:∀(q:Ptx g) ρ,p0.to f.own q->Frx f q ρ->K none ρ q.J->RR (.ok .next) q.s) (hR:∀(q:Ptx g) ρ v d,p0.to f.own q->Frx f q ρ->q.R v d->K (some d) ρ q.J->RR (.ok (.ret v)) q.s):∀(fuel:Nat) {ρ:af} {p:Ptx g},p0.to f.own p->Frx f p ρ->
  ii (vT c f.sc t (vE c f.sc t)) (vB c f.sc b) fuel ρ p.J K->codeAny (model g.prog g.w) f.A (.whileLoop t b [] f.env) RR p.s
 | 0,ρ,p,T,E,e=>yX (by k_lt e)
 | fuel+1,ρ,p,T,E,e=>by
  have e:vT c f.sc t (vE c f.sc t) ρ p.J (kWh (vB c f.sc b) (ii (vT c f.sc t (vE c f.sc t)) (vB c f.sc b) fuel) ρ K):=by k_lt e
  refine codeAny_of_tree ?_;show wpAny _ f.A ((whileTurn t b [] f.env).onRaise (λx=>do noteFrame x f.env;theTreesLotGoes x)) _ _ p.s;refine wpAny_noted (ij ?_);unfold whileTurn;refine yH (ht E e _ λv q x t1 r1 e1=> ?_);cases r1;have T1:=T.trans t1.w;cases v
  ·exact yH (yI (yI (hN q ρ T1 (E.to t1) e1)))
  ·exact yH (hbd (E.to t1) e1 _ (λq2 ρ2 t2 E2 k2=>yI ⟨rfl,uz ht hbd hN hR fuel (T1.trans t2) E2 k2⟩) λq2 ρ2 v d t2 E2 r k2=>yI (hR q2 ρ2 v d (T1.trans t2) E2 r k2))
theorem ac9{t:Expr}{b:List Stmt}{pos:Pos}(ht:gq g c n t)(hbd:lh g c n b):j9 g c n (.While t b [] pos):=λf p ρ K E e Q hN hR=>by
 have e:ii (vT c f.sc t (vE c f.sc t)) (vB c f.sc b) qw ρ p.J K:=by k_lt e
 rw[arm_exec_While];exact yH (wpAny_standAt (wpAny_runOwn (uz (RR:=λr s'=>match r with | .ok f=>Q f s' | .error e=>cameBackBy (model g.prog g.w) f.A f.env EF e s') ht hbd hN hR _ (.refl ..) E e)))
noncomputable def TOk(g:Gl)(c:Cx)(n:Nat)(e:Expr):Prop:=if h:e.ctorIdx=20 then Expr.Attribute.elim (motive_1:=λY=>_) e h λo Y Z=>aw g c n o
 else if h:e.ctorIdx=21 then Expr.Subscript.elim (motive_1:=λY=>_) e h λo i Y=>aw g c n o/\aw g c n i else True
theorem ada(F:Fit g)(C:uh g c n)(E:Frx f p ρ){t:Expr}(ht:TOk g c n t){v:Value}{d:D}{Q:Unit->Shared->Prop}(e:fk c f.sc t d ρ p.J K)(r:p.R v d)
  (hQ:∀(q:Ptx g) ρ,p.to f.own q->Frx f q ρ->K none ρ q.J->Q () q.s):wpAny (model g.prog g.w) f.A (assign t f.env v) Q EF p.s:=by
 cases t<;>first | exact yX e | skip
 ·have e:vE c f.sc value ρ p.J (kAA c attr d ρ K):=e;rw[arm_assign_Attribute];exact yH (wpAny_holding ((show aw g c n value from @ht) E e _ λvo q value t1 r1 e1=>yH (wpAny_standAt (yH (wpAny_holding (aax (F.kin q.st) C.attr r1 (r.to t1) e1 λq2 t2 k=>wpAny_release (hQ q2 ρ (t1.trans t2).w ((E.to t1).to t2) k)))))))
 ·have e:vE c f.sc value ρ p.J (an8 (vE c f.sc slice) d ρ K):=e;obtain⟨h1,h2⟩:=(show aw g c n value/\aw g c n slice from ht)
  rw[arm_assign_Subscript];exact yH (wpAny_holding (h1 E e _ λvo q value t1 r1 e1=>yH (wpAny_holding (h2 (E.to t1) e1 _ λvi q2 slice t2 r2 e2=>yH (wpAny_standAt (yH (wpAny_holding (aay (r1.to t2) r2 ((r.to t1).to t2) e2 λq3 t3 k=>wpAny_release (hQ q3 ρ ((t1.trans t2).trans t3).w (((E.to t1).to t2).to t3) k)))))))))
 ·obtain⟨hs,e⟩:=Ki.inv (show Ki _ False _ from e);exact jz f.room.handled E (if_pos hs) r λq t s E1=>hQ q _ t E1 (s▸e)
 ·obtain⟨ρ',eb,k⟩:=Wv.inv (show Wv _ _ from e);exact jz f.room.handled E eb r λq t s E1=>hQ q _ t E1 (s▸k)
end
noncomputable def adb(ρ:af):List Str->List D->af
 | x::xs,d::ds=>adb (upd ρ x d) xs ds
 | Y,Z=>ρ
theorem pk:∀(xs:List Str) (ds:List D) (ρ:af) (y:Str),y∉xs->adb ρ xs ds y=ρ y
 | [],ds,Y,Z,U=>by cases ds<;>rfl
 | Y::Z,[],U,V,N=>rfl
 | x::xs,d::ds,ρ,y,h=>(pk xs ds (upd ρ x d) y λm=>h (List.mem_cons_of_mem _ m)).trans (if_neg λ(z:y=x)=>h (z▸yP))
theorem zd:∀(xs:List Str) (ds:List D) (ρ:af) (i:Nat) (x:Str) (d:D),xs.Nodup->xs[i]?=some x->ds[i]?=some d->adb ρ xs ds x=some d
 | [],Y,Z,i,U,V,N,h,O=>nomatch h
 | Y::Z,[],U,i,V,N,O,H,h=>nomatch h
 | x::xs,d::ds,ρ,0,y,e,nd,h1,h2=>by
  cases h1;cases h2;exact(pk xs ds _ x (List.nodup_cons.mp nd).1).trans (if_pos rfl)
 | x::xs,d::ds,ρ,i+1,y,e,nd,h1,h2=>zd xs ds _ i y e (List.nodup_cons.mp nd).2 h1 h2
theorem ahz{α:Type}{l:List α}{i:Nat}{x:α}(hi:i<l.length)(e:l[i]?=some x):l.reverse[l.length - 1 - i]?=some x:=by
 rw[List.getElem?_reverse (yV (Nat.sub_le ..) (Nat.sub_lt (yV (Nat.zero_le _) hi) Nat.one_pos)),Nat.sub_sub_self (Nat.le_sub_one_of_lt hi)];exact e
theorem ze{xs:List Str}{ds:List D}(nd:xs.Nodup)(hl:xs.length=ds.length)(ρ:af):adb ρ xs.reverse ds.reverse=adb ρ xs ds:=by
 funext y
 by_cases hy:y∈xs
 ·obtain⟨i,hi,e⟩:=List.getElem_of_mem hy;have e1:xs[i]?=some y:=by rw[yC hi,e]
  have hi2:i<ds.length:=hl▸hi;have e2:ds[i]?=some ds[i]:=yC hi2;exact(zd _ _ ρ _ y _ ((List.reverse_perm xs).nodup_iff.mpr nd) (ahz hi e1) (hl▸ahz hi2 e2)).trans (zd xs ds ρ i y _ nd e1 e2).symm
 ·exact(pk _ _ _ _ λm=>hy (List.mem_reverse.mp m)).trans (pk _ _ _ _ hy).symm
theorem kb:∀(n:Nat) (l:List Str),l.length<=n->l.eraseDups.length<=l.length/\(l.eraseDups.length=l.length->l.Nodup)
 | Y,[],Z=>⟨yE _,λY=> .nil⟩
 | 0,Y::Z,h=>absurd h (Nat.not_succ_le_zero _)
 | n+1,a::as,h=>by
  rw[List.eraseDups_cons];have hf:=List.length_filter_le (λb=> !b==a) as;have hn:=Nat.le_of_succ_le_succ h;obtain⟨h1,h2⟩:=kb n (as.filter λb=> !b==a) (yK hf hn);refine⟨Nat.succ_le_succ (yK h1 hf),λe=> ?_⟩;have e:=Nat.succ.inj e;have e2:=List.length_filter_eq_length_iff.mp (Nat.le_antisymm hf (e▸h1));have e3:(as.filter λb=> !b==a)=as:=List.filter_eq_self.mpr e2;rw[e3] at h2 e;exact List.nodup_cons.mpr ⟨λm=>absurd (e2 a m) (by rw[show(a==a)=true from beq_self_eq_true a];decide),h2 e⟩
section
variable{env:Env}{sc:aq}{ρ ρ':af}
noncomputable def nameAt(env:Env)(line:Nat)(e:Expr):Option Str:=if h:e.ctorIdx=23 then Expr.Name.elim (motive_1:=λY=>_) e h λid pos=>if env.kindOf id==some .local&&pos.line==line then some id else none else none
theorem xt{line:Nat}:∀{ts:List Expr} {ds:List D} {ρ:af},(ts.filterMap (nameAt env line)).length=ts.length->d7 sc ts ds ρ=some ρ'->
  ρ'=adb ρ (ts.filterMap (nameAt env line)) ds/\(ts.filterMap (nameAt env line)).length=ds.length/\∀x∈ts.filterMap (nameAt env line),cf sc x=true
 | [],[],Y,Z,e=>by cases e;exact⟨rfl,rfl,λY m=>nomatch m⟩
 | [],Y::Z,U,V,e=>nS e rfl
 | t::ts,ds,ρ,h,e=>og e λx p d ds' z1 z2 hs e2=>by
  subst z1;subst z2;cases hn:nameAt env line (.Name x p) with
  | none=>
   rw[List.filterMap_cons,hn] at h;exact absurd (List.length_filterMap_le (nameAt env line) ts) (by rw[h];exact Nat.not_succ_le_self _)
  | some y=>
   cases(iS hn).2;rw[List.filterMap_cons,hn] at h⊢;obtain⟨h1,h2,h3⟩:=xt (line:=line) (Nat.succ.inj h) e2;exact⟨h1,congrArg Nat.succ h2,λz hz=>(yM hz).elim (λz=>z▸hs) (h3 z)⟩
inductive Sw1(env:Env)(t e:Expr):Prop
 | n (h:swappedStores [t] e env=pure none)
 | l (ts:List Expr) (p:Pos) (z:t=.List ts p)
 | tt (ts:List Expr) (m:Nat) (p:Pos) (vs:List Expr) (m':Nat) (p':Pos) (z:t=.Tuple ts m p) (z':e=.Tuple vs m' p')
theorem sw1(t e:Expr):Sw1 env t e:=by
 rcases t with⟨⟩<;>first | exact .n rfl | exact .l _ _ rfl | (rcases e with⟨⟩<;>first | exact .n rfl | exact .tt _ _ _ _ _ _ rfl rfl)
inductive SwD(env:Env)(t e:Expr):Prop
 | n (h:swappedStores [t] e env=pure none)
 | y (ts:List Expr) (m:Nat) (p:Pos) (line:Nat) (z:t=.Tuple ts m p) (h:swappedStores [t] e env=pure (some (ts.filterMap (nameAt env line)))) (hl:(ts.filterMap (nameAt env line)).length=ts.length) (hn:(ts.filterMap (nameAt env line)).Nodup)
theorem abh{α:Type}{P:α->Prop}{c:Prop}[Decidable c]{a b:α}(h:c->P a)(k:¬c->P b):P (if c then a else b):=by
 by_cases z:c
 ·rw[if_pos z];exact h z
 ·rw[if_neg z];exact k z
@[reducible] noncomputable def sw5(ts vs:List Expr)(a b:Bool)(N:List Str):Sem (Option (List Str)):=if a=true then pure none else if b=true then pure none else
 if(N.length !=ts.length || N.eraseDups.length !=N.length)=true then pure none else if vs.all (foldedForSure 8)=true then pure none else
 if vs.all (constantsAlone 8)=true then(do unsupported "assign.tuple-of-constant-expressions:order-of-the-stores";pure (some N)) else pure (some N)
theorem aoi{P:Sem (Option (List Str))->Prop}{ts vs:List Expr}{m m':Nat}{p p':Pos}(h:(vs.all (foldedForSure 8) || !vs.all (constantsAlone 8))=true)(h0:P (pure none))
  (h1:∀line,(ts.filterMap (nameAt env line)).length=ts.length->(ts.filterMap (nameAt env line)).Nodup->P (pure (some (ts.filterMap (nameAt env line))))):P (swappedStores [.Tuple ts m p] (.Tuple vs m' p') env):=by
 obtain⟨a,b,f,hf,z⟩:∃a b f,(∀e,f e=nameAt env ((ts.head?.map (·.pos.line)).getD 0) e)/\swappedStores [.Tuple ts m p] (.Tuple vs m' p') env=sw5 ts vs a b (ts.filterMap f):=⟨_,_,_,λe=>by cases e<;>rfl,rfl⟩
 cases(funext hf:f=_);have h1:=h1 ((ts.head?.map (·.pos.line)).getD 0);rw[z];generalize ts.filterMap (nameAt env ((ts.head?.map (·.pos.line)).getD 0))=N at h1⊢;refine abh (λY=>h0) λY=>abh (λY=>h0) λY=>abh (λY=>h0) λhz=>abh (λY=>h0) λhf=>abh (λhc=> ?_) λY=> ?_
 ·rw[Bool.not_eq_true] at hf;rw[hf,hc] at h;cases h
 ·rw[Bool.or_eq_true,not_or,bne_iff_ne,bne_iff_ne,Classical.not_not,Classical.not_not] at hz;exact h1 hz.1 ((kb _ _ (yE _)).2 hz.2)
theorem wz{t e:Expr}(h:ou t e=true)(hl:∀ts p,t≠ .List ts p):SwD env t e:=by
 rcases sw1 (env:=env) t e with h2 | ⟨ts,p,z⟩ | ⟨ts,m,p,vs,m',p',rfl,rfl⟩
 ·exact .n h2
 ·exact(hl _ _ z).elim
 ·exact aoi (P:=λr=>swappedStores [.Tuple ts m p] (.Tuple vs m' p') env=r->SwD env (.Tuple ts m p) (.Tuple vs m' p')) h .n (λline q1 q2 q3=> .y ts m p line rfl q3 q1 q2) rfl
end
section
variable{g:Gl}{c:Cx}{n:Nat}{f:Fc g c n}{p p0 q:Ptx g}{ρ ρ':af}{K:KS}{sc:aq}{own:List Addr}
theorem xu:∀(xs:List Str) (ds:List D) {vs:List Value} {p:Ptx g} {ρ:af} {Q:Unit->Shared->Prop},(∀x∈xs,cf f.sc x=true)->xs.length=ds.length->Frx f p ρ->p.L vs ds->
  (∀q:Ptx g,p.to f.own q->q.J=p.J->Frx f q (adb ρ xs ds)->Q () q.s)->wpAny (model g.prog g.w) f.A (assignInOrder (xs.map λn=>bindName f.env n) vs) Q EF p.s
 | [],[],vs,p,ρ,Q,hs,hl,E,r,hQ=>by
  rw[r.inv0];exact yI (hQ p (.refl ..) rfl E)
 | [],Y::Z,U,V,N,O,H,hl,G,I,R=>nomatch hl
 | Y::Z,[],U,V,N,O,H,hl,G,I,R=>nomatch hl
 | x::xs,d::ds,vs,p,ρ,Q,hs,hl,E,r,hQ=>by
  refine r.c λv ws ra r1=> ?_;show wpAny _ f.A (do holding ws (bindName f.env x v);assignInOrder (xs.map λn=>bindName f.env n) ws) Q EF p.s;exact yH (wpAny_holding (qz E (hs x yP) ra λq1 t1 s1 E1=>xu xs ds (λy hy=>hs y (List.mem_cons_of_mem _ hy)) (Nat.succ.inj hl) E1 (r1.to t1) λq2 t2 s2 E2=>hQ q2 (t1.trans t2) (s2.trans s1) E2))
inductive SwC(c:Cx)(sc:aq)(ρ:af)(t e:Expr)(line:Nat)(env:Env):Prop
 | n (h:swapsWith e (some t) line env=pure false)
 | y (elt:Expr) (gs:List Comprehension) (scope:Scope) (pos:Pos) (x:Str) (p:Pos) (z:e=.ListComp elt gs scope pos) (z':t=.Name x p) (h:swapsWith e (some t) line env=pure true)
 | x (h:∀{J:ac} {K:KD},¬vE c sc e ρ J K)
theorem abi{t e:Expr}{line:Nat}{env:Env}:SwC c sc ρ t e line env:=by
 rcases e with⟨⟩<;>first | exact .n rfl | exact .x (λ{J K} e=>by k_lt e) | skip
 rename Pos=>q
 rcases t with⟨⟩<;>first | exact .n rfl | skip
 have key:swapsWith (.ListComp elt generators scope q) (some (.Name id pos)) line env=pure (env.blockKind==.function&&env.kindOf id==some .local&&pos.line==q.line
   && !(scope.names.any λ(n,k)=>n==id&&(k==.local || k==.cell))):=rfl
 generalize (env.blockKind==.function&&env.kindOf id==some .local&&pos.line==q.line&& !(scope.names.any λ(n,k)=>n==id&&(k==.local || k==.cell)))=b at key;cases b
 ·exact .n key
 ·exact .y _ _ _ _ _ _ rfl rfl key
theorem ah0{t:Expr}{env:Env}{v:Value}{d:D}{J:ac}(e:fk c sc t d ρ J K):assignAll v ((assignEach [t] env).map (·.2))=assign t env v:=by
 rcases t with⟨⟩<;>first | rfl | exact yX e
theorem abd.to{C:Addr}{q2:Ptx g}(L:abd p q C)(t:q.to own q2)(hC:C∉own):abd p q2 C:=
 let⟨m,o,es,ep,e,r⟩:=L.ns
 ⟨t.post.out L.m e,L.n,L.p,L.z,m,o,es,ep,t.post.keep _ _ e (.inl ⟨hC,L.p,L.m⟩),r⟩
theorem Frx.gone{C:Addr}{h:Heap}{tk:Nat}{S:St g h q.mu q.J}(E:Frx f q ρ)(L:abd p q C)(hC:C∉f.own)(k:Heap.SameBut C q.s.heap h):Frx f (q.nx h tk S) ρ:=by
 obtain⟨m,o,es,ep,e,d,_⟩:=L.ns;have kp:∀b o,b≠C->q.s.heap.get? b=some o->h.get? b=some o:=k.extBut;refine kz.mv (X:=(·=C)) E ⟨⟨[],(List.append_nil _).symm,λY m=>nomatch m⟩,λb o e n Y Z=>kp b o n e,λb o e2 t=>kp b o (λz=> ?_) e2⟩ (λx o2 e2 k2 z=> ?_) λz=>hC (z▸o8)
 ·subst z;rw[e] at e2;cases e2;obtain⟨_,_,_,q⟩:=t;rw[d] at q;cases q
 ·subst z;rw[e] at e2;cases e2;rw[d] at k2;cases k2
noncomputable def EOk(g:Gl)(c:Cx)(n:Nat)(e:Expr):Prop:=if h:e.ctorIdx=8 then Expr.ListComp.elim (motive_1:=λY=>_) e h λelt gs Y Z=>aw g c n elt/\GOk g c n gs else True
theorem abj(F:Fit g)(C:uh g c n){t e:Expr}{pos:Pos}(he:aw g c n e)(hc:EOk g c n e)(ht:TOk g c n t):j9 g c n (.Assign [t] e pos):=λf p ρ K E ev Q hN hR=>by
 have ev:Ki (vE c f.sc e ρ p.J (kAs (fk c f.sc t) ρ K)) False (ou t e):=by k_lt ev
 obtain⟨hok,ev⟩:=ev.inv;rw[arm_exec_Assign];refine yH (wpAny_standAt ?_);rw[show swapsWithSole [t] e pos.line f.env=swapsWith e (some t) pos.line f.env from rfl];rcases abi (t:=t) (line:=pos.line) (env:=f.env) (e:=e) (c:=c) (sc:=f.sc) (ρ:=ρ) with h1 | ⟨elt,gs,scope,cpos,x,p1,rfl,rfl,h1⟩ | h1
 ·refine yH (wpAny_of_eq h1 ?_);rw[if_neg (by decide)];refine yH (he E ev _ λv q d t1 r1 e1=> ?_);rcases wz (env:=f.env) hok (λts p z=>by subst z;exact e1) with h2 | ⟨ts,m,p1,line,rfl,h2,h3,h4⟩
  ·refine yH (wpAny_of_eq h2 ?_);show wpAny _ f.A (do assignAll v ((assignEach [t] f.env).map (·.2));pure .next) Q EF _;rw[show assignAll v ((assignEach [t] f.env).map (·.2))=assign t f.env v from ah0 e1];exact yH (ada F C (E.to t1) ht e1 r1 λq2 ρ2 t2 E2 k2=>yI (hN q2 ρ2 (t1.w.trans t2) E2 k2))
  ·refine yH (wpAny_of_eq h2 ?_);obtain⟨ρ',eb,k⟩:=Wv.inv (show Wv (j7 f.sc q.J (.Tuple ts m p1) d ρ) (kAT q.J K) from e1);refine xp eb (λY Z z=>nomatch z) λes m2 p2 ds z e4 e5=> ?_;cases z;obtain⟨h5,h6,h7⟩:=xt (sc:=f.sc) h3 e5;show wpAny _ f.A (do rule "assign.swapped-stores";let items<-unpackItems v (ts.filterMap (nameAt f.env line)).length none;assignInOrder ((ts.filterMap (nameAt f.env line)).reverse.map λn=>bindName f.env n) items.reverse;pure .next) Q EF _;refine yH (wpAny_rule (yH (uu f.room.handled e4 h6 r1 λvs q2 t2 s2 r2=>yH (xu _ ds.reverse (λx hx=>h7 x (List.mem_reverse.mp hx)) (by rw[List.length_reverse,List.length_reverse,h6]) ((E.to t1).to t2) (av.reverse r2) λq3 t3 s3 E3=> ?_))));rw[ze h4 h6,<-h5] at E3;exact yI (hN q3 ρ' ((t1.trans t2).w.trans t3) E3 (by rw[s3,s2];exact k))
 ·refine yH (wpAny_of_eq h1 ?_);rw[if_pos rfl];obtain⟨h2,h3⟩:=(show aw g c n elt/\GOk g c n gs from hc)
  obtain⟨hcok,⟨t',iter,ifs,rfl⟩,ev⟩:=pj ev;obtain⟨h4,h5⟩:=h3 _ _ _ rfl;refine yH ?_;show wpAny _ f.A (do let _<-comprehension (.ListComp elt [⟨t',iter,ifs,0⟩] scope cpos) scope f.env (firstIterPos [⟨t',iter,ifs,0⟩] cpos) (newList []) false (firstIter [⟨t',iter,ifs,0⟩] f.env) (some (assign (.Name x p1) f.env))) _ EF p.s;refine yH (abe (use:=some (assign (.Name x p1) f.env)) E @h4 h2 @h5 hcok ev λq a X d t1 r1 k1 L=> ?_);obtain⟨hs,k1⟩:=Ki.inv (show Ki (K none (upd ρ x d) q.J) False (cf f.sc x) from k1);have hX:X∉f.own:=λm=>by obtain⟨o,e,_⟩:=(E.priv X m).o;rw[L.n] at e;cases e
  show wpAny _ f.A (assign (.Name x p1) f.env (.ref a)) _ EF q.s;refine jz f.room.handled (E.to t1) (if_pos hs) r1 λq2 t2 s2 E2=> ?_;have L2:=L.to t2 hX;obtain⟨m2,hm2⟩:=L2.ns;refine⟨m2,hm2,λh3 k3=> ?_⟩;obtain⟨S3,t3,_⟩:=xq (t1.w.trans t2) L2 k3 q2.s.toks;exact yI (yI (hN (q2.nx h3 q2.s.toks S3) _ t3 (E2.gone L2 hX k3) (s2▸k1)))
 ·exact absurd ev h1
end
noncomputable def Sub(g:Gl)(c:Cx)(n:Nat)(e:Expr):Prop:=if h:e.ctorIdx=20 then Expr.Attribute.elim (motive_1:=λY=>_) e h λo Y Z=>aw g c n o
 else if h:e.ctorIdx=21 then Expr.Subscript.elim (motive_1:=λY=>_) e h λo i Y=>aw g c n o/\aw g c n i/\(ku i=true\/∃lo hi st p,i=.Slice lo hi st p)
 else if h:e.ctorIdx=16 then Expr.Call.elim (motive_1:=λY=>_) e h λY args Z U=> ∀x,args=[x]->aw g c n x
 else if h:e.ctorIdx=26 then Expr.Slice.elim (motive_1:=λY=>_) e h λlo hi st Y=>pb g c n lo/\pb g c n hi/\pb g c n st
 else if h:e.ctorIdx=8 then Expr.ListComp.elim (motive_1:=λY=>_) e h λelt gs Y Z=>aw g c n elt/\GOk g c n gs else True
structure jo(g:Gl)(c:Cx)(n:Nat)(e:Expr):Prop where
 E:aw g c n e
 T:gq g c n e
 s:Sub g c n e
structure GL(g:Gl)(c:Cx)(n:Nat)(es:List Expr):Prop where
 vs:jy g c n es
 bool:jm g c n es
 ts:ui g c n es
 chain:gw g c n es
 pairs:gy g c n es
 args:k7 g c n es
 ifs:i6 g c n es
 one:∀x,es=[x]->jo g c n x
structure GO(g:Gl)(c:Cx)(n:Nat)(z:Option Expr):Prop where
 o:pb g c n z
 e:∀x,z=some x->aw g c n x
noncomputable def GC(g:Gl)(c:Cx)(n:Nat)(x:Comprehension):Prop:=my g c n x.iter/\i6 g c n x.ifs
section
variable{g:Gl}{c:Cx}{n:Nat}(W:Wo3 g c n)
theorem aro{e:Expr}(h:∀{sc ρ J K},¬vE c sc e ρ J K)(hp:afg e=true)(s:Sub g c n e):jo g c n e:=
 have hE:aw g c n e:=λf p ρ K E e=>absurd e h
 ⟨hE,k6 hp hE,s⟩
theorem jo.val{e:Expr}(hE:aw g c n e)(hp:afg e=true)(s:Sub g c n e):jo g c n e:=⟨hE,k6 hp hE,s⟩
theorem GL.nil:GL g c n []:=⟨acz,yx,ac5,wk,wn,y6,abb,λY e=>nomatch e⟩
include W in
theorem GL.cons{e:Expr}{es:List Expr}(h:jo g c n e)(hs:GL g c n es):GL g c n (e::es):=
 ⟨aa1 h.E hs.vs,(match es,hs with
  | [],Y=>yy h.E
  | Y::Z,hs=>wj h.E hs.bool),aa5 h.T hs.ts,uk W.F h.E hs.chain,um h.E hs.pairs,wq W.F W.C h.E hs.args,y8 h.T hs.ifs,λx z=>by cases z;exact h⟩
include W in
theorem jo.src{e:Expr}(h:jo g c n e):my g c n e:=ahw W.F W.C h.E λfn p x q z=>by
 subst z;exact h.s x rfl
theorem Sub.t{e:Expr}(h:Sub g c n e):TOk g c n e:=by
 by_cases q:e.ctorIdx=20
 ·exact(dif_pos q).mpr ((dif_pos q).mp h)
 ·by_cases r:e.ctorIdx=21
  ·exact(dif_neg q).mpr ((dif_pos r).mpr (Expr.Subscript.elim (motive_1:=λe=> ∀q,Expr.Subscript.elim (motive_1:=λY=>Prop) e q (λo i Y=>aw g c n o/\aw g c n i/\(ku i=true\/∃lo hi st p,i=.Slice lo hi st p))->Expr.Subscript.elim (motive_1:=λY=>Prop) e q (λo i Y=>aw g c n o/\aw g c n i)) e r (λo i Y Z h=>⟨h.1,h.2.1⟩) r ((dif_pos r).mp ((dif_neg q).mp h))))
  ·exact(dif_neg q).mpr ((dif_neg r).mpr trivial)
theorem Sub.e{e:Expr}(h:Sub g c n e):EOk g c n e:=by
 by_cases q:e.ctorIdx=8
 ·have z:∀{k},k≠8->e.ctorIdx≠k:=λh r=>h (r.symm.trans q);exact(dif_pos q).mpr ((dif_pos q).mp ((dif_neg (z (by decide))).mp ((dif_neg (z (by decide))).mp ((dif_neg (z (by decide))).mp ((dif_neg (z (by decide))).mp h)))))
 ·exact(dif_neg q).mpr trivial
inductive arp(fn:Expr)(kws:List Keyword):Prop
 | m (o:Expr) (x:Str) (p:Pos) (z:fn=.Attribute o x p) (k:kws=[])
 | s (o i:Expr) (p:Pos) (z:fn=.Subscript o i p) (k:kws=[])
 | n (x:Str) (p:Pos) (z:fn=.Name x p) (k:kws=[])
theorem af3{sc:aq}{ρ:af}{J:ac}{K:KD}{fn:Expr}{args:List Expr}{kws:List Keyword}{pos:Pos}(e:vE c sc (.Call fn args kws pos) ρ J K):arp fn kws:=by
 rcases kws with _ | ⟨k,ks⟩
 ·rcases fn with⟨⟩<;>first | exact .m _ _ _ rfl rfl | exact .s _ _ _ rfl rfl | exact .n _ _ rfl rfl | exact yX (by k_lt e)
 ·exact yX (by rcases fn with⟨⟩<;>k_lt e)
include W in
theorem jo.call{fn:Expr}{args:List Expr}{kws:List Keyword}{pos:Pos}(h:jo g c n fn)(hs:GL g c n args):jo g c n (.Call fn args kws pos):=by
 refine jo.val (λf q ρ K E e=> ?_) rfl λx z=>(hs.one x z).E;rcases af3 e with⟨o,x,p1,rfl,rfl⟩ | ⟨o,i,p1,rfl,rfl⟩ | ⟨x,p1,rfl,rfl⟩
 ·exact ww W h.s hs.vs E e
 ·obtain⟨h1,h2,h3⟩:=h.s;rcases h3 with h3 | ⟨lo,hi,st,p,rfl⟩
  ·exact y7 W h1 h2 h3 hs.vs E e
  ·intro Q hQ;have e:Ki (vE c f.sc o ρ q.J (kI1 (λY Z U=>False) ρ (kG1 c (vEs c f.sc args) ρ K))) False (args.all noStar):=by k_lt e
   obtain⟨_,e⟩:=e.inv;show wpAny _ f.A (do callWith pos (<-eval (.Subscript _ (.Slice lo hi st p) _) f.env) [] (backTo pos (starEach args f.env)) []) Q EF q.s;exact yH (Subscript_ (h1 E e _ λv q a t r k=>yX k))
 ·exact wu W hs.vs hs.args E e
theorem GOk.nil:GOk g c n []:=λY Z U e=>nomatch e
theorem GOk.cons{x:Comprehension}{xs:List Comprehension}(h:GC g c n x):GOk g c n (x::xs):=λt iter ifs z=>by cases z;exact h
theorem GO.none:GO g c n none:=⟨ac1,λY e=>nomatch e⟩
theorem GO.some{x:Expr}(h:jo g c n x):GO g c n (some x):=⟨ac2 h.E,λY e=>by cases e;exact @h.E⟩
theorem jo.sub{o i:Expr}{pos:Pos}(ho:jo g c n o)(hi:jo g c n i):jo g c n (.Subscript o i pos):=by
 by_cases hs:ku i=true
 ·exact .val (ahh ho.E hi.E hs) rfl ⟨ho.E,hi.E,.inl hs⟩
 ·obtain⟨lo,hi',st,p,rfl⟩:=arf hs;obtain⟨h1,h2,h3⟩:=hi.s;exact .val (ac3 ho.E h1 h2 h3) rfl ⟨ho.E,hi.E,.inr ⟨_,_,_,_,rfl⟩⟩
theorem jo.not{op:UnaryOp}{x:Expr}{pos:Pos}(h:jo g c n x):jo g c n (.UnaryOp op x pos):=by
 refine⟨pd h.E,?_,trivial⟩;cases op<;>first | exact afx h.T | exact k6 rfl (pd h.E)
theorem ak1{e:Stmt}(h:∀{sc ρ J K},¬vS c sc e ρ J K):j9 g c n e:=λf p ρ K E e=>absurd e h
include W in
theorem af4(st:Stmt):j9 g c n st:=by
 apply Stmt.rec (motive_1:=jo g c n) (motive_2:=j9 g c n) (motive_3:=GC g c n) (motive_4:=λY=>True) (motive_5:=λY=>True) (motive_6:=λY=>True) (motive_7:=λY=>True) (motive_8:=λY=>True) (motive_9:=λY=>True) (motive_10:=λY=>True) (motive_11:=λY=>True)
  (motive_12:=GL g c n) (motive_13:=λY=>True) (motive_14:=GOk g c n) (motive_15:=GO g c n) (motive_16:=λY=>True) (motive_17:=lh g c n) (motive_18:=λY=>True) (motive_19:=λY=>True) (motive_20:=λY=>True) (motive_21:=λY=>True)
  (motive_22:=λY=>True) (motive_23:=λY=>True) (motive_24:=λY=>True) (motive_25:=λY=>True)
 case BoolOp=>intro op es pos h;exact⟨aa3 h.bool,y0 h.ts,trivial⟩
 case BinOp=>intro l op r pos h1 h2;exact .val (acx h1.E h2.E) rfl trivial
 case UnaryOp=>intro op x pos h;exact h.not
 case IfExp=>intro t b o pos h1 h2 h3;exact⟨acy h1.T h2.E h3.E,aa4 h1.T h2.T h3.T,trivial⟩
 case Dict=>intro ks vs pos _ h;exact .val (afy h.pairs) rfl trivial
 case ListComp=>intro elt gs scope pos h1 h2;exact .val (wy h2 h1.E) rfl ⟨h1.E,h2⟩
 case Compare=>intro l ops rs pos h1 h2;exact⟨yz h1.E h2.chain,wm h1.E h2.chain,trivial⟩
 case Call=>intro fn args kws pos h1 h2 _;exact h1.call W h2
 case Constant=>intro k m pos;exact .val (nj k m pos) rfl trivial
 case Attribute=>intro o x pos h;exact .val (uj W.F W.C h.E) rfl h.E
 case Subscript=>intro o i pos h1 h2;exact h1.sub h2
 case Name=>intro x pos;exact .val (aft W.F W.C x pos) rfl trivial
 case List=>intro es pos h;exact .val (afu h.vs) rfl trivial
 case Tuple=>intro es m pos h;exact .val (ac0 h.vs) rfl trivial
 case Slice=>intro lo hi st pos h1 h2 h3;exact aro (λ{sc ρ J K} e=>by k_lt e) rfl ⟨h1.o,h2.o,h3.o⟩
 case Pass=>exact af1
 case Return=>intro v pos h;cases v<;>first | exact zb pos | exact abf (h.e _ rfl)
 case Expr=>intro x pos h;exact af2 h.E
 case Assign=>
  intro ts e pos h1 h2;rcases ts with _ | ⟨t,_ | ⟨_,_⟩⟩<;>first | exact ak1 λ{sc ρ J K} e=>by k_lt e | exact abj W.F W.C h2.E h2.s.e (h1.one t rfl).s.t
 case If=>intro t b o pos h1 h2 h3;exact ak0 h1.T h2 h3
 case For=>
  intro t it b o pos h1 h2 h3 h4;cases o<;>first | exact ahy (h2.src W) h3 | exact ak1 λ{sc ρ J K} e=>by k_lt e
 case While=>
  intro t b o pos h1 h2 h3;cases o<;>first | exact ac9 h1.T h2 | exact ak1 λ{sc ρ J K} e=>by k_lt e
 all_goals first | (intros;exact trivial) | exact GL.nil | exact xr | exact GO.none | exact GOk.nil | (intro x h;exact GO.some h) | (intro e es h hs;exact GL.cons W h hs) | (intro e es h hs;exact uy h hs) | (intro t it ifs k h1 h2 h3;exact⟨h2.src W,h3.ifs⟩) |
  (intro x xs h hs;exact GOk.cons h) | (intros;exact aro (λ{sc ρ J K} e=>by k_lt e) rfl trivial) | (intros;exact ak1 λ{sc ρ J K} e=>by k_lt e)
theorem u0(W:Wo3 g c n):∀b:List Stmt,lh g c n b
 | []=>xr
 | st::b=>uy (af4 W st) (u0 W b)
end
theorem abk{α β:Type}{f g:α->Option β}:∀{l:List α},(∀x∈l,f x=g x)->l.filterMap f=l.filterMap g
 | [],Y=>rfl
 | a::l,h=>by
  rw[List.filterMap_cons,List.filterMap_cons,h a yP,abk λx hx=>h x (List.mem_cons_of_mem _ hx)]
theorem aoj{a b:Str}(h:a≠b):(a==b)=false:=beq_eq_false_iff_ne.mpr h
theorem abm:∀(qs:List Str) (ws:List Value),ws.length=qs.length->∀n∈qs,((qs.zip ws).lookup n).isNone=false
 | [],Y,Z,U,m=>nomatch m
 | Y::Z,[],h,U,V=>nomatch h
 | q::qs,w::ws,h,n,m=>by
  rw[List.zip_cons_cons,List.lookup_cons];cases hq:n==q with
  | true=>rfl
  | false=>exact abm qs ws (Nat.succ.inj h) n ((yM m).resolve_left λz=>by rw[z,beq_self_eq_true] at hq;cases hq)
theorem ah1:∀(qs:List Str) (ws:List Value),ws.length=qs.length->qs.Nodup->qs.filterMap (λn=>((qs.zip ws).lookup n).map (n,·))=qs.zip ws
 | [],Y,Z,U=>rfl
 | Y::Z,[],h,U=>nomatch h
 | q::qs,w::ws,h,nd=>by
  obtain⟨h1,h2⟩:=List.nodup_cons.mp nd;rw[List.zip_cons_cons,List.filterMap_cons,List.lookup_cons,beq_self_eq_true];refine congrArg ((q,w):: ·) (Eq.trans (abk λn hn=> ?_) (ah1 qs ws (Nat.succ.inj h) h2));rw[List.lookup_cons,aoj λ(z:n=q)=>h1 (z▸hn)]
theorem sp{fd:FuncData}{vs:List Value}{ps:List Str}(hp:fd.params.posonlyargs=[])(ha:fd.params.args.map (·.arg)=ps)(hk:fd.params.kwonlyargs=[])(hv:fd.params.vararg=none)(hw:fd.params.kwarg=none)
  (hd:fd.defaults=.none) (hl:vs.length=ps.length) (nd:ps.Nodup):bindArgs fd ⟨vs,[]⟩=pure (ps.zip vs):=by
 obtain⟨nm,q,⟨a1,a2,a3,a4,a5,a6,a7⟩,f4,f5,f6,f7,df,f9,f10,f11,f12,f13,f14,f15⟩:=fd;dsimp only at hp ha hk hv hw hd;subst hp hk hv hw hd;have e1:∀m,((ps.take m).filter λn=>((ps.zip vs).lookup n).isNone)=[]:=λm=>
  List.filter_eq_nil_iff.mpr λn hn=>by rw[abm ps vs hl n (List.mem_of_mem_take hn)];exact Bool.false_ne_true
 unfold bindArgs;dsimp only;rw[ha];refine Eq.trans (if_neg (c:=(decide (vs.length>ps.length)&&true)=true) ?_) ?_
 ·rw[hl,Bool.and_true,decide_eq_true_eq];exact Nat.lt_irrefl _
 refine Eq.trans (if_neg ?_) ?_
 ·show¬((!((ps.take _).filter λn=>((ps.zip vs).lookup n).isNone).isEmpty)=true);rw[e1];exact Bool.false_ne_true
 have e2:∀i j,(ps.drop i).zip (List.drop j ([]:List Value))=[]:=λi j=>by rw[List.drop_nil,List.zip_nil_right]
 have e3:(([]++ps++ []):List Str).filterMap (λn=>((ps.zip vs).lookup n).map (n,·))=ps.zip vs:=by rw[List.append_nil];exact ah1 ps vs hl nd
 refine Eq.trans (congrArg (λ(l:List (Str×Value))=>(forIn l (ps.zip vs) _:Sem (List (Str×Value)))>>=_) (e2 _ _)) ?_;exact congrArg (λl=>(pure l:Sem (List (Str×Value)))) e3
theorem zf{g:Gl}{own:List Addr}{h:Heap}{mu:List Addr}:∀{ps:List Str} {ws:List Value} {ds:List D} {x:Str} {d:D},ci g own h mu ws ds->(ps.zip ds).lookup x=some d->∃v,(ps.zip ws).lookup x=some v/\cw g own h mu v d
 | [],Y,Z,U,V,N,e=>nomatch e
 | p::ps,Y,[],Z,U,V,e=>nomatch e
 | p::ps,Y,d::ds,x,d',r,e=>by
  obtain⟨v,ws',rfl,ra,r1⟩:=r;rw[List.zip_cons_cons,List.lookup_cons] at e⊢;cases hq:x==p with
  | true=>rw[hq] at e;cases e;exact⟨v,rfl,ra⟩
  | false=>rw[hq] at e;exact zf r1 e
theorem xv{p:Str}:∀{ps:List Str} {ds:List D},jv p ps ds=true->∀x d,(ps.zip ds).lookup x=some d->(x==p)=false->ao d=true
 | [],Y,Z,U,V,e,N=>nomatch e
 | Y::Z,[],U,V,N,e,O=>nomatch e
 | q::ps,d::ds,h,x,d',e,n=>by
  rw[List.zip_cons_cons,List.lookup_cons] at e;have h:=yQ h;cases hq:x==q with
  | true=>
   rw[hq] at e;cases e;rw[eq_of_beq hq] at n;cases d<;>first | rfl | exact absurd (h.1.symm.trans n) Bool.true_eq_false.mp
  | false=>rw[hq] at e;exact xv h.2 x d' e n
theorem oj{p:Str}:∀{ps:List Str} {ds:List D},(∀d∈ds,ao d=true)->jv p ps ds=true
 | [],Y,Z=>rfl
 | Y::Z,[],U=>rfl
 | q::ps,d::ds,h=>Bool.and_eq_true_iff.mpr ⟨(by have:=h d yP;cases d<;>first | rfl | exact tF this rfl),oj λx m=>h x (List.mem_cons_of_mem _ m)⟩
theorem abn{p:Str}{bs:List D}(hb:∀d∈bs,ao d=true):∀{ps:List Str} {ds:List D},jv p ps ds=true->jv p ps (ds++bs)=true
 | [],Y,Z=>rfl
 | Y::Z,[],U=>oj hb
 | q::ps,d::ds,h=>Bool.and_eq_true_iff.mpr ⟨(yQ h).1,abn hb (yQ h).2⟩
theorem av.plain{h:Heap}{mu:List Addr}:∀{ds:List D} {vs:List Value},av h mu vs ds->∀d∈ds,ao d=true
 | [],Y,Z,U,m=>nomatch m
 | d::ds,Y,r,x,m=>by
  obtain⟨v,ws,_,a,q⟩:=r;rcases yM m with rfl | m
  ·cases x<;>first | rfl | exact a.elim
  ·exact q.plain x m
theorem xw{k:Str->Option NameKind}:∀(bs:List (Str×Value)) (m:Str->Option Value) (x:Str),x∉bs.map (·.1)->bindL k bs m x=m x
 | [],Y,Z,U=>rfl
 | (n,v)::r,m,x,h=>by
  unfold bindL;rw[xw r _ x (λz=>h (List.mem_cons_of_mem _ z))];split
  ·exact if_neg (λz=>h (by rw[z];exact yP))
  ·rfl
theorem xx{k:Str->Option NameKind}:∀(bs:List (Str×Value)) (m:Str->Option Value) (x:Str),x∉bs.map (·.1)->bindC k bs m x=m x
 | [],Y,Z,U=>rfl
 | (n,v)::r,m,x,h=>by
  unfold bindC;rw[xx r _ x (λz=>h (List.mem_cons_of_mem _ z))];split
  ·rfl
  ·exact if_neg (λz=>h (by rw[z];exact yP))
theorem abo{k:Str->Option NameKind}:∀(bs:List (Str×Value)) (m:Str->Option Value) (x:Str) (v:Value),(bs.map (·.1)).Nodup->bs.lookup x=some v->k x=some .local->bindL k bs m x=some v
 | [],Y,Z,U,V,e,N=>nomatch e
 | (n,w)::r,m,x,v,nd,e,hk=>by
  rw[List.map_cons,List.nodup_cons] at nd;rw[List.lookup_cons] at e;unfold bindL;cases hq:x==n with
  | true=>
   rw[hq] at e;cases e;cases eq_of_beq hq;rw[xw r _ n nd.1,if_pos hk];exact if_pos rfl
  | false=>rw[hq] at e;exact abo r _ x v nd.2 e hk
theorem abp{k:Str->Option NameKind}:∀(bs:List (Str×Value)) (m:Str->Option Value) (x:Str) (v:Value),(bs.map (·.1)).Nodup->bs.lookup x=some v->k x≠some .local->bindC k bs m x=some v
 | [],Y,Z,U,V,e,N=>nomatch e
 | (n,w)::r,m,x,v,nd,e,hk=>by
  rw[List.map_cons,List.nodup_cons] at nd;rw[List.lookup_cons] at e;unfold bindC;cases hq:x==n with
  | true=>
   rw[hq] at e;cases e;cases eq_of_beq hq;rw[xx r _ n nd.1,if_neg hk];exact if_pos rfl
  | false=>rw[hq] at e;exact abp r _ x v nd.2 e hk
theorem jc:∀(names:aq) (n:Nat) (acc:List (Str×Addr)) (x:Str),(acc.lookup x).isSome=true->((cellsFrom n names acc).lookup x).isSome=true
 | [],Y,Z,U,h=>h
 | (y,k)::r,n,acc,x,h=>by
  unfold cellsFrom;split
  ·refine jc r _ _ x ?_;rw[List.lookup_cons];cases x==y
   ·exact h
   ·rfl
  ·exact jc r _ _ x h
theorem cellsFrom_some:∀(names:aq) (n:Nat) (acc:List (Str×Addr)) (x:Str),(x,NameKind.cell)∈names->((cellsFrom n names acc).lookup x).isSome=true
 | [],Y,Z,U,h=>nomatch h
 | (y,k)::r,n,acc,x,h=>by
  unfold cellsFrom;rcases yM h with e | h
  ·cases e;rw[if_pos (by decide)];exact jc r (n+1) ((y,n)::acc) y (by rw[List.lookup_cons,beq_self_eq_true];rfl)
  ·split<;>exact cellsFrom_some r _ _ x h
noncomputable def af5(g:Gl)(f:Fn)(fd:FuncData):Prop:=∃dv:List Value,av g.h₀ [] dv f.defaults/\∀(s:Shared) (vs:List Value),g.K.In s.heap->vs.length<=f.params.length->f.params.length - f.defaults.length<=vs.length->
  BindsTo s fd ⟨vs,[]⟩ (f.params.zip (vs++dv.drop (vs.length+dv.length - f.params.length)))
structure ak2(g:Gl)(f:Fn)(fd:FuncData):Prop where
 body:fd.body=.stmts f.body
 clo:fd.closure=[]
 names:fd.scope.names=f.names
 kind:fd.scope.kind=.function
 gen:fd.scope.isGenerator=false
 co:fd.scope.isCoroutine=false
 glob:fd.globals=mainGlobals
 blt:fd.builtins=builtinsNs
 code:g.h₀.CodeRec fd.code fd.qualname/\fd.code≠ .ref g.P
 nofree:∀x∈f.names,x.2≠ .free
 nd:f.params.Nodup
 par:∀x∈f.params,f.names.lookup x=some .local\/f.names.lookup x=some .cell
 lam:f.names.lookup g.T.lamV=some .cell->fd.code=.ref g.lamC/\(fd.qualname++".<locals>.")++"<lambda>"=g.lamQ
 dflt:af5 g f fd
theorem af5.none{f:Fn}{fd:FuncData}{g:Gl}(hf:f.defaults=[])(hp:fd.params.posonlyargs=[])(ha:fd.params.args.map (·.arg)=f.params)(hk:fd.params.kwonlyargs=[])(hv:fd.params.vararg=none)(hw:fd.params.kwarg=none)
  (hd:fd.defaults=.none) (nd:f.params.Nodup):af5 g f fd:=by
 refine⟨[],by rw[hf];exact .nil,λs vs Y h1 h2=> ?_⟩;rw[hf] at h2;have:=sp hp ha hk hv hw hd (Nat.le_antisymm h1 h2) nd;rw[List.drop_nil,List.append_nil];exact BindsTo.of_eq this
set_option backward.match.sparseCases true in
noncomputable def RQ(Q:Value->Shared->Prop)(r:Result)(s':Shared):Prop:=match r with
 | .ok (.ret v)=>Q v s'
 | .ok Y=>False
 | .error e=>EF e s'
noncomputable def ExC{g:Gl}(A:Around)(p:Ptx g)(v:Value)(vs:List Value)(K:KD):Prop:=∀Q:Value->Shared->Prop,(∀w q d,p.to [] q->q.R w d->K d q.J->Q w q.s)->codeAny (model g.prog g.w) A (.call v ⟨vs,[]⟩) (RQ Q) p.s
theorem ExC.call{g:Gl}{A:Around}{p:Ptx g}{v:Value}{vs:List Value}{K:KD}(x:ExC A p v vs K):ExD A p (call v vs) K:=λQ hQ=>wpAny_call (x Q hQ)
section
variable{g:Gl}{p:Ptx g}{s₁:Shared}{fn:Fn}{fd:FuncData}{a:Addr}{K:KD}
theorem aok{names:aq}{env:Env}{m:Nat}(hl:env.locals=m)(ab:∀x c,(x,c)∈env.cells->env.locals<c):∀x∈ownOf names env,m<=x:=λx hx=>by
 rcases yM hx with rfl | hx
 ·exact Nat.le_of_eq hl.symm
 ·obtain⟨y,hy,e⟩:=List.mem_filterMap.mp hx;exact Nat.le_of_lt (hl▸ab _ _ (mem_of_lookup (iN e).2))
theorem af6(DD:ak2 g fn fd){W:List Value}{Wd:List D}(hl:W.length=fn.params.length)(r:ci g [] p.s.heap p.mu W Wd)(hpl:jv g.T.lamP fn.params Wd=true)
  (X:InCallC p.s (callEnvC fd p.s.heap.objs.size a).locals (bindL (callEnvC fd p.s.heap.objs.size a).kindOf (fn.params.zip W) λY=>none) (callEnvC fd p.s.heap.objs.size a).cells
    (bindC (callEnvC fd p.s.heap.objs.size a).kindOf (fn.params.zip W) λY=>none) s₁):
  kz g (callEnvC fd p.s.heap.objs.size a) fn.names (i4 (fn.params.zip Wd)) s₁.heap p.mu/\St g s₁.heap p.mu p.J/\∀x∈ownOf fn.names (callEnvC fd p.s.heap.objs.size a),p.s.heap.get? x=none:=by
 generalize hE:callEnvC fd p.s.heap.objs.size a=env at X⊢;have hL:env.locals=p.s.heap.objs.size:=by rw[<-hE];rfl
 have hkind:∀x,env.kindOf x=fn.names.lookup x:=λx=>by
  rw[<-hE];show fd.scope.names.lookup x=_;rw[DD.names]
 have hcells:env.cells=cellsFrom (p.s.heap.objs.size+1) fn.names []:=by
  rw[<-hE];show cellsFrom _ fd.scope.names []=_;rw[DD.names]
 have ge:=aok (names:=fn.names) hL X.above;have fresh:∀x∈ownOf fn.names env,p.s.heap.get? x=none:=λx hx=>cu (ge x hx);have ne:∀x∈ownOf fn.names env,x≠g.P:=λx hx=>yN (yJ p.st.hP (ge x hx));have P:bc g [] p.mu p.s.heap p.mu s₁.heap:=bc.grow [] X.toInCall.keep;have ra:∀{v:Value} {d:D},cw g [] p.s.heap p.mu v d->cw g (ownOf fn.names env) s₁.heap p.mu v d:=λr=>P.repA (λY m=>nomatch m) (r.fresh fresh);have ndz:((fn.params.zip W).map (·.1)).Nodup:=by rw[List.map_fst_zip (Nat.le_of_eq hl.symm)];exact DD.nd
 refine⟨⟨by rw[<-hE];exact DD.kind,by rw[<-hE];exact DD.glob,by rw[<-hE];exact DD.blt,λx k e=> .inl (by rw[hkind,e]),λx hx=>⟨p.st.notMem (fresh x hx),ne x hx,p.st.old.get (fresh x hx) (ne x hx),?_⟩,⟨_,X.toInCall.ns,λx d e1 e2=> ?_⟩,λx hx=> ?_,λx y c h1 h2 e1 e2=> ?_,by rw[<-hE];exact DD.lam,xv hpl⟩,p.st.grow X.toInCall.keep,fresh⟩
 ·rcases yM hx with rfl | hx
  ·obtain⟨o,es,ep,e,d,_⟩:=X.toInCall.ns;exact⟨o,e,.inl ⟨rfl,es,ep,d⟩⟩
  ·obtain⟨y,hy,e⟩:=List.mem_filterMap.mp hx;obtain⟨o,e',d⟩:=X.cell _ _ (iN e).2;exact⟨o,e',.inr ⟨_,d⟩⟩
 ·obtain⟨v,ev,rv⟩:=zf r e2;exact⟨v,abo _ _ x v ndz ev (by rw[hkind];exact e1),ra rv⟩
 ·have hc:fn.names.lookup x=some .cell:=hx.elim id λhx=>absurd rfl (DD.nofree _ (mem_of_lookup hx));obtain⟨c,ec⟩:=Option.isSome_iff_exists.mp (cellsFrom_some fn.names (p.s.heap.objs.size+1) [] x (mem_of_lookup hc));rw[<-hcells] at ec;have ho:=aec hc ec;exact⟨c,_,ec,X.cell x c ec,p.st.notMem (fresh c ho),ne c ho,yN (X.above _ _ (mem_of_lookup ec)),λd ed=>
   (zf r ed).imp λv q=>⟨abp _ _ x v ndz q.1 (by rw[hkind,hc];decide),ra q.2⟩⟩
 ·exact name_of_addr X.apart (mem_of_lookup e1) (mem_of_lookup e2)
theorem ik.depthOk{A:Around}{n:Nat}(R:ik A n):A.depth<recursionLimit:=yV (yK (Nat.le_add_right _ _) R.depth) (by decide)
theorem ik.deeper{A:Around}{n:Nat}{env:Env}(R:ik A (n+1)):ik (A.deeper env) n:=
 ⟨R.handled,by have:=R.depth;show A.depth+1+3*n<=900;omega,by have:=R.units;show A.units+3+20*n<=9000;omega⟩
theorem ik.made{A:Around}{n:Nat}{C:Addr}{vals:List Value}(R:ik A (n+1)):ik (A.under (.builtin "type.__call__" ⟨.ref C::vals,[]⟩)) n:=
 ⟨R.handled,by have:=R.depth;show A.depth+1+3*n<=900;omega,by have:=R.units;show A.units+1+20*n<=9000;omega⟩
theorem ah2{a b c:Nat}(h1:a<=b)(h2:b - c<=a):a+(c - (a+c - b))=b:=by
 rw[<-Nat.add_sub_assoc (Nat.sub_le_iff_le_add.mpr (Nat.add_comm c b▸Nat.add_le_add_right h1 c)),Nat.sub_sub_self (Nat.sub_le_iff_le_add.mp h2)]
theorem ah3{A:Around}{n:Nat}{c:Cx}{ds:List D}{vs:List Value}{o:Obj}(W:Wo3 g c n)(R:ik A (n+1))(hK:g.K.lookup a=some o)(hd:o.data=.func fd)(DD:ak2 g fn fd)(r:p.AL g vs ds)(hpl:jv g.T.lamP fn.params ds=true)
  (e:agx c fn ds p.J K):ExC A p (.ref a) vs K:=λQ hQ=>by
 obtain⟨bs,hb,ev⟩:=Wv.inv e;obtain⟨hlen,hb⟩:=iS hb;subst hb;obtain⟨dv,rd,hbind⟩:=DD.dflt;have hvl:=ci.length r;have hdl:=rd.length;have hB:=hbind p.s vs (W.F.kin p.st) (hvl▸hlen.1) (hvl▸hlen.2);have rdd:av g.h₀ [] (dv.drop (ds.length+fn.defaults.length - fn.params.length)) (fn.defaults.drop (ds.length+fn.defaults.length - fn.params.length)):=rd.drop _;have hpl2:=abn rdd.plain hpl;have hW:ci g [] p.s.heap p.mu (vs++dv.drop (vs.length+dv.length - fn.params.length)) (ds++fn.defaults.drop (ds.length+fn.defaults.length - fn.params.length)):=by
  rw[hvl,hdl];refine ci.append (ci.of ?_) r;exact rdd.mono (t:=p.mu) (W.F.tup p.st)
 have hWl:(vs++dv.drop (vs.length+dv.length - fn.params.length)).length=fn.params.length:=by
  rw[List.length_append,List.length_drop,hvl,hdl];exact ah2 hlen.1 hlen.2
 generalize hWW:(vs++dv.drop (vs.length+dv.length - fn.params.length))=Ws at hB hW hWl;have ho:p.s.heap.get? a=some o:=W.F.kin p.st a o hK;have hcode:p.s.heap.CodeRec fd.code fd.qualname:=by
  obtain⟨⟨cc,oc,vc,t,ec,hoc,hdc,hvc⟩,hne⟩:=DD.code;exact⟨cc,oc,vc,t,ec,p.st.old _ _ hoc (λz=>hne (by rw[ec,z])),hdc,hvc⟩
 refine codeAny_call_function R.depthOk ho hd DD.co DD.gen DD.body hcode (hB _ _ _ _ ?_);rw[DD.clo];have hkd:∀x∈fn.params.zip Ws,fd.scope.names.lookup x.1=some .local\/(fd.scope.names.lookup x.1=some .cell/\((cellsFrom (p.s.heap.objs.size+1) fd.scope.names []).lookup x.1).isSome=true):=λx hx=>by
  rw[DD.names];exact(DD.par _ (List.of_mem_zip hx).1).imp id λq=>⟨q,cellsFrom_some _ _ _ _ (mem_of_lookup q)⟩
 refine wpAny_newFunctionEnv_cells DD.kind hkd λenv he s' x=> ?_;subst he;refine⟨(W.F.nolim p.st).keeps x.toInCall.keep,codeAny_func ?_⟩;obtain⟨h₁,tk,rfl,_⟩:=x.done;obtain⟨E1,S1,fr⟩:=af6 (a:=a) DD hWl hW hpl2 x
 let f:Fc g c n:=⟨A.deeper (callEnvC fd p.s.heap.objs.size a),callEnvC fd p.s.heap.objs.size a,fn.names,R.deeper⟩
 have back:∀q:Ptx g,(p.nx h₁ tk S1).to f.own q->p.to [] q:=λq t=>⟨bc.drop (x:=f.own) x.toInCall.keep fr (t.post.weaken λa m=>List.mem_append_left _ m),t.same⟩
 exact ij (u0 W fn.body (f:=f) (p:=p.nx h₁ tk S1) E1 ev _ (λq ρ t E k=>hQ .none q .none (back q t) rfl k) λq ρ v d t E r k=>hQ v q d (back q t) r k)
structure Ground(g:Gl):Prop where
 fit:Fit g
 glob:∀x d,g.T.glob x=some d->ahc g x d
 meth:∀C m f,g.T.meth C m=some f->∃a,f=.val (.ref a)/\plainGet g.K C m=true/\findIn g.K (.ref C) m=some (some (.ref a))/\isFn g.K (.ref a)=true/\keepIn g.K (.ref a)=true
 attr:∀C x,g.T.attr C x=true->n7 g.K C x=true
 fn:∀a f,g.T.callee a=some (.fn f)->keepIn g.K (.ref a)=true/\∃o fd,g.K.lookup a=some o/\o.data=.func fd/\ak2 g f fd
 cls:∀a i,g.T.callee a=some (.cls i)->keepIn g.K (.ref a)=true/\makesIn g.K a=true/\findIn g.K (.ref a) "__init__"=some (some (.ref i))/\typeIn g.K (.ref i)=some (.type "function")
noncomputable def zg(g:Gl)(n:Nat):Prop:=∀(b:Bool) (A:Around) (p:Ptx g) (v:Value) (f:D) (vs:List Value) (ds:List D) (K:KD),ik A n->p.A g v f->p.AL g vs ds->(b=false->p.L vs ds)->jl g.T n b f ds p.J K->ExC A p v vs K
theorem xy{n:Nat}{b:Bool}{v:Value}{ds:List D}{J:ac}{C:Prop}(e:jl g.T n b (.val v) ds J K)(h:∀m a k,n=m+1->v=.ref a->g.T.callee a=some k->clW g.T (jl g.T m) b a ds J K k->C):C:=by
 cases n with
 | zero=>exact yX (by k_lt e)
 | succ n=>
  cases v<;>first | exact yX (by k_lt e) | skip
  have e:Wv (g.T.callee a) (clW g.T (jl g.T n) b a ds J K):=by k_lt e
  obtain⟨k,h1,h2⟩:=e.inv;exact h n a k rfl rfl h1 h2
theorem u5(Gr:Ground g){n:Nat}{b:Bool}{v:Value}{ds:List D}{J:ac}(e:jl g.T n b (.val v) ds J K):keepIn g.K v=true:=
 xy e λm a k Y z h Z=>by
  subst z
  induction k with
  | fn f=>exact(Gr.fn a f h).1
  | cls i=>exact(Gr.cls a i h).1
theorem anf(Gr:Ground g){n:Nat}(h:zg g n):uh g (d8 g.T n) n:=
 ⟨Gr.glob,Gr.meth,Gr.attr,rfl,rfl,rfl,λv a J Q=>u5 Gr,λv a J Q=>u5 Gr,λA p v f vs ds K R r1 r2 e=>(h false A p v f vs ds K R r1 (ci.of r2) (λY=>r2) e).call,λA p v f vs ds K R r1 r2 e=>(h true A p v f vs ds K R r1 r2 (λz=>nomatch z) e).call⟩
end
section
variable{g:Gl}{p:Ptx g}{K:KD}{a:Addr}{A:Around}{n:Nat}
theorem RQ.mono'{Q:Value->Shared->Prop}{RR:Result->Shared->Prop}(h:∀v s',Q v s'->RR (.ok (.ret v)) s'):∀r s',RQ Q r s'->RR r s':=λr s' x=>by
 rcases r with e | (_ | _ | _ | v)<;>first | exact x.elim | exact h _ _ x
theorem ah4{C i:Addr}{vs:List Value}{ds:List D}(F:Fit g)(R:ik A (n+1))(hm:makesIn g.K C=true)(hi:findIn g.K (.ref C) "__init__"=some (some (.ref i)))(hf:typeIn g.K (.ref i)=some (.type "function"))
  (r:p.L vs ds) (ih:zg g n) (e:jl g.T n false (.val (.ref i)) (.loc (p.J.length+1)::ds) (p.J++ [.dictS [],.inst C p.J.length]) (kCl (p.J.length+1) K)):ExC A p (.ref C) vs K:=λQ hQ=>by
 have X:=F.kin p.st;obtain⟨⟨hh,gs,dr,tk,os⟩,mu,J,S⟩:=p;refine make_core (makes_of X hm) (looks_findIn X hi) (λself=>bind_fn X self hf) (.inl rfl) ?_;obtain⟨S1,P1⟩:=S.qK (o:=emptyDict) (c:=.dictS []) ⟨[],ahk _ (Heap.get?_push_size _ rfl),.nil⟩;have h1:(mu++ [hh.objs.size])[J.length]?=some hh.objs.size:=by rw[<-S.len,List.getElem?_append_right (yE _),Nat.sub_self];rfl
 obtain⟨S2,P2⟩:=S1.qK (o:=instObj C hh.objs.size) (c:=.inst C J.length) ⟨hh.objs.size,kx h1,Heap.get?_push_size _ rfl⟩;have P12:=(P1 []).trans (P2 []);have ll:J++ [Cell.dictS []]++ [.inst C J.length]=J++ [.dictS [],.inst C J.length]:=List.append_assoc ..;rw[ll] at S2;have lself:(mu++ [hh.objs.size]++ [(hh.push emptyDict).objs.size])[J.length+1]?=some (hh.objs.size+1):=by
  have:=S1.len;rw[List.length_append] at this;rw[<-show(mu++ [hh.objs.size]).length=J.length+1 from S1.len.trans List.length_append,List.getElem?_append_right (yE _),Nat.sub_self,Heap.size_push];rfl
 let q:Ptx g:=⟨⟨(hh.push emptyDict).push (instObj C hh.objs.size),gs,dr,tk,os⟩,_,_,S2⟩
 have t:Ptx.to [] ⟨⟨hh,gs,dr,tk,os⟩,mu,J,S⟩ q:=⟨P12,rfl⟩
 have rl:q.L (.ref (hh.objs.size+1)::vs) (.loc (J.length+1)::ds):=av.cons (.loc lself) (r.to t);refine codeAny_mono (ih false (A.under (.builtin "type.__call__" ⟨.ref C::vs,[]⟩)) q (.ref i) (.val (.ref i)) (.ref (hh.objs.size+1)::vs) _ _ R.made rfl (ci.of rl) (λY=>rl) e (λv s'=>v=.none/\Q (.ref (hh.objs.size+1)) s') λw q2 d t2 r2 k2=> ?_) (RQ.mono' λv s' x=>⟨x.1,x.2⟩);obtain⟨rfl,k2⟩:=k2;exact⟨r2,hQ _ q2 _ (t.trans t2) (.loc (t2.post.at lself)) k2⟩
theorem ak3{l:Nat}{k:D}{v u:Value}(F:Fit g)(R:ik A (n+1))(rv:p.A g v (.lam l))(rk:p.R u k)(e:Wr (ki p.J (.loc l) k) K):ExC A p v [u] K:=λQ hQ=>by
 obtain⟨a,c,cc,rfl,L,_⟩:=rv;obtain⟨o,fd,x,q,p1,p2,p3,ap,ho,hd,L1⟩:=L.fn;obtain⟨bA,⟨ob,hb,hbd⟩,hn⟩:=L.cell;have hcode:p.s.heap.CodeRec fd.code fd.qualname:=by rw[L1.code,L1.qual];exact L.code
 have hb0:bindArgs fd ⟨[u],[]⟩=pure ([x].zip [u]):=sp (by rw[L1.params]) (by rw[L1.params];rfl) (by rw[L1.params]) (by rw[L1.params]) (by rw[L1.params]) L1.dv rfl (List.nodup_cons.mpr ⟨List.not_mem_nil,List.nodup_nil⟩);refine kla_callFunE R.depthOk ho hd L1.co L1.gen L1.body hcode (wpAny_of_eq hb0 ?_);refine wpAny_newFunctionEnv (λy hy=>L1.nc y hy) (λy hy=>by cases yG hy;exact L1.lx) (λh₁ hns hsb=> ?_) L1.kind;have kp:∀b o,p.s.heap.get? b=some o->h₁.get? b=some o:=λb o e=>hsb.extBut b o (yO (Heap.lt_size e)) (yT _ e);refine⟨(F.nolim p.st).keeps kp,kla_codeExpr (ij ?_)⟩;have P1:bc g [] p.mu p.s.heap p.mu h₁:=bc.grow [] kp;refine Subscript_ (wpAny_Name (wpAny_loadName_free L1.kind (show fd.scope.names.lookup q=some .free from L1.lp) (show fd.closure.lookup q=some cc by rw[L1.clo,List.lookup_cons,beq_self_eq_true]) ⟨ob,kp _ _ hb,hbd⟩ ?_ (gd L1.gp).2.1) (gd L1.gp).1);refine wpAny_Name (wpAny_loadName_local L1.kind (show fd.scope.names.lookup x=some .local from L1.lx) hns (show([x].zip [u]).reverse.lookup x=some u from(List.lookup_cons ..).trans (by rw[beq_self_eq_true])) ?_) (gd L1.gx).1;exact aea (p:=p.nx h₁ _ (p.st.grow kp)) (.loc hn) (P1.rep rk) (λa b=>rfl) e _ λw q d t r k=>hQ w q d (Ptx.to.trans (Ptx.qC P1) t) r k
theorem abq(Gr:Ground g)(H:aog g):∀n:Nat,zg g n
 | 0=>λb A p v f vs ds K R r1 r2 hb e=>yX (by k_lt e)
 | n+1=>λb A p v f vs ds K R r1 r2 hb e=>by
  have ih:=abq Gr H n;have F:=Gr.fit;cases f<;>first | exact yX (by k_lt e) | skip
  ·cases(show v=v_1 from r1);refine xy e λm a k z1 z2 h1 h2=> ?_;cases z1;subst z2
   induction k with
   | fn fn=>
    obtain⟨_,o,fd,h3,h4,h5⟩:=Gr.fn a fn h1;cases b
    ·exact ah3 ⟨F,anf Gr ih,H⟩ R h3 h4 h5 r2 (oj (hb rfl).plain) h2
    ·obtain⟨hl,h2⟩:=Ki.inv (show Ki _ False _ from h2);exact ah3 ⟨F,anf Gr ih,H⟩ R h3 h4 h5 r2 hl h2
   | cls i=>
    obtain⟨_,h3,h4,h5⟩:=Gr.cls a i h1;cases b
    ·exact ah4 F R h3 h4 h5 (hb rfl) ih (show Wk _ _ from h2).p
    ·exact yX h2
  ·rcases ds with _ | ⟨k,_ | ⟨_,_⟩⟩<;>first | exact yX (by k_lt e) | skip
   have e:Wr (ki p.J (.loc n_1) k) K:=by k_lt e
   obtain⟨u,ws,rfl,ra,rb⟩:=r2;cases(show ws=[] from rb);refine ak3 F R r1 (cw.rep ra ?_) e;cases k<;>first | rfl | skip
   refine yX ?_;unfold ki at e;dsimp only at e;generalize p.J[n_1]?=x at e;rcases x with _ | x
   ·exact e
   ·cases x<;>exact e
end
theorem ah5{P:List Int->Prop}{x y:Int}{r:List Int}(h:x<=y->P (x::y::r))(h':y<x->P (y::iw x r)):P (iw x (y::r)):=by
 show P (if x<=y then _ else _);by_cases q:x<=y
 ·rw[if_pos q];exact h q
 ·rw[if_neg q];exact h' (Int.not_le.mp q)
theorem insI_perm(x:Int):∀l:List Int,(iw x l).Perm (x::l)
 | []=> .refl _
 | y::r=>ah5 (P:=λl=>l.Perm _) (λY=> .refl _) λY=>((insI_perm x r).cons y).trans (.swap x y r)
theorem sortI_perm:∀l:List Int,(sortI l).Perm l
 | []=> .refl _
 | x::r=>(insI_perm x _).trans ((sortI_perm r).cons x)
theorem aeh(x:Int):∀l:List Int,l.Pairwise (·<= ·)->(iw x l).Pairwise (·<= ·)
 | [],Y=>List.pairwise_singleton ..
 | y::r,h=>ah5 (P:=List.Pairwise _) (λq=> .cons (λz hz=>(yM hz).elim (λe=>e▸q) λhz=>yW q ((List.pairwise_cons.mp h).1 z hz)) h)
  λq=> .cons (λz hz=>(yM ((insI_perm x r).mem_iff.mp hz)).elim (λe=>e▸Int.le_of_lt q) ((List.pairwise_cons.mp h).1 z)) (aeh x r (List.pairwise_cons.mp h).2)
theorem abr:∀l:List Int,(sortI l).Pairwise (·<= ·)
 | []=> .nil
 | x::r=>aeh x _ (abr r)
theorem adc{l m:List Int}(h:m.Perm l)(g:m.Pairwise (·<= ·)):m=sortI l:=
 List.Perm.eq_of_pairwise (λa b Y Z h1 h2=>Int.le_antisymm h1 h2) g (abr l) (h.trans (sortI_perm l).symm)
theorem abt{h:Heap}{mu:List Addr}:∀{ds:List D} {vs:List Value} {is:List Int},av h mu vs ds->intsOf ds=some is->IntsAre vs is
 | [],vs,is,r,e=>by rw[r.inv0];cases e;exact .nil
 | d::ds,vs,is,r,e=>by
  obtain⟨v,ws,rfl,a,r1⟩:=r;cases d<;>w_pre e;obtain⟨js,e1,rfl⟩:=yA e;obtain⟨t,rfl⟩:=a.qM;exact .cons _ t (abt r1 e1)
theorem ah6{h:Heap}{mu:List Addr}{vs:List Value}{is:List Int}(i:IntsAre vs is):av h mu vs (is.map .int):=by
 induction i with
 | nil=>exact .nil
 | cons n t _ ih=>exact .cons (.int n t) ih
theorem u6{α:Type}{J:ac}{n:Nat}{F:List D->Option α}{r:α}{C:Prop} (e:(match J[n]? with
  | some (.list l)=>F l
  | Y=>none)=some r) (h:∀l,J[n]?=some (.list l)->F l=some r->C):C:=by
 rcases hl:J[n]? with _ | x<;>rw[hl] at e
 ·exact nS e rfl
 ·cases x<;>first | exact nS e rfl | exact h _ hl e
theorem dm.at{g:Gl}{A:Around}{p:Ptx g}{t:Sem Value}{c:Cell} (h:∀Q:Value->Shared->Prop,(∀(a:Addr) (h':Heap) (tk:Nat),(∀b o,p.s.heap.get? b=some o->h'.get? b=some o)->p.s.heap.get? a=none->a≠g.P->i5 g h' (p.mu++ [a]) a c->Q (.ref a) {p.s with heap:=h',toks:=tk})->
  wpAny (model g.prog g.w) A t Q EF p.s):dm g A p t c:=λK k Q hQ=>h Q λa h' tk kp ha hp hc=>
 have⟨S,P⟩:=p.st.add' kp ha hp hc
 hQ _ (p.nx h' tk S) _ (Ptx.qC (P [])) (mw p.st.len) k
theorem abu(g:Gl)(A:Around)(p:Ptx g)(v:Value)(x:D)(l:List D)(hA:A.handled=none)(r:p.R v x)(e:mo p.J x=some l):dm g A p (call (.builtin "sorted") [v]) (.list l):=dm.at λQ hQ=>by
 cases x<;>w_pre e;obtain⟨a,rfl,ma⟩:=r;refine u6 (J:=p.J) (r:=l) (F:=λl=>(intsOf l).bind λis=>if l.length<64 then some ((sortI is).map D.int) else none) e λl' el e=> ?_;obtain⟨is,e1,e2⟩:=yR e;obtain⟨hz,e2⟩:=iS e2;subst e2;refine p.ls el ma λvs k ho r'=> ?_;refine sorted_ints (vs:=vs.toList) (ns:=is) (ai ho) (abt r' e1) (by rw[r'.length];exact hz) λout ns' a1 a2 a3=> ?_;obtain⟨ep,he⟩:=sortedAll_at p.s.heap vs.toList out;exact hQ _ _ _ (λb o e=>sortedAll_old e) (cu (Nat.le_succ _)) (yN (Nat.lt_succ_of_lt p.st.hP)) ⟨out,ep,he,by rw[<-adc a2 a3];exact ah6 a1⟩
end
section
open PySem PySem.SetTable
noncomputable def itf{α:Type}(f:α->α):Nat->α->α
 | 0,x=>x
 | n+1,x=>itf f n (f x)
theorem gu{α:Type}(f:α->α):∀(a b:Nat) (x:α),itf f (a+b) x=itf f b (itf f a x)
 | 0,b,x=>by rw[Nat.zero_add];rfl
 | a+1,b,x=>by rw[show a+1+b=(a+b)+1 by exact(ar2 0x1111540051140021)];exact gu f a b (f x)
noncomputable def orb(f:Nat->Nat):Nat->Nat->List Nat
 | 0,Y=> []
 | n+1,x=>x::orb f n (f x)
theorem ah7(f:Nat->Nat):∀(n x a:Nat),a<n->(orb f n x)[a]?=some (itf f a x)
 | n+1,x,0,Y=>rfl
 | n+1,x,a+1,h=>ah7 f n (f x) a ((ar2 0x115411150114012) h)
theorem aei(f:Nat->Nat):∀n x,(orb f n x).length=n
 | 0,Y=>rfl
 | n+1,x=>congrArg (·+1) (aei f n (f x))
noncomputable def lcg(m i:Nat):Nat:=(i*5+1)%(m+1)
noncomputable def Mk(m:Nat):Prop:=m=7\/m=31\/m=127
noncomputable def ang(m:Nat):Bool:=((List.range (m+1)).all λj=>(orb (lcg m) (m+1) 0).contains j)&&itf (lcg m) (m+1) 0==0
theorem aol{m:Nat}(h:Mk m):ang m=true:=by
 rcases h with rfl | rfl | rfl<;>decide+kernel
theorem ak4{m:Nat}(h:Mk m){i j:Nat}(hi:i<=m)(hj:j<=m):∃k,k<=m/\itf (lcg m) k i=j:=by
 have ho:=aol h;simp only[ang,Bool.and_eq_true,List.all_eq_true,List.mem_range,beq_iff_eq,List.contains_iff_mem] at ho;obtain⟨h1,h2⟩:=ho;have get:∀x,x<=m->∃a,a<=m/\itf (lcg m) a 0=x:=λx hx=>by
  obtain⟨a,ha⟩:=List.getElem?_of_mem (h1 x ((ar2 0x111150415402) hx));have hl:a<m+1:=by have:=(yS ha).1;rw[aei] at this;exact this
  rw[ah7 _ _ _ _ hl] at ha;exact⟨a,by exact(ar2 zBN) hl,yD ha⟩
 obtain⟨a,ha,ea⟩:=get i hi;obtain⟨b,hb,eb⟩:=get j hj;by_cases hab:a<=b
 ·refine⟨b - a,by exact(ar3 0x1115604605403) hb aS,?_⟩;rw[<-ea,<-gu,show a+(b - a)=b by exact(ar3 0x111164502654022) (aC ((ar2 zAV) hab))];exact eb
 ·refine⟨b+(m+1) - a,by exact(mS (λq1=>((ar2 0x1154001422) q1)) (λq2=>((ar4 0x11176011704056025413) (Nat.lt_of_not_le hab) q2))),?_⟩;rw[<-ea,<-gu,show a+(b+(m+1) - a)=(m+1)+b by exact(ar4 0x1111611700450211706054022) (aC ((ar3 0x11115060405402) ha)),gu,h2];exact eb
noncomputable def lp(m:Nat)(s:Nat×Nat):Nat×Nat:=leap m s.1 s.2
theorem ah8(m:Nat):∀(k:Nat) (s:Nat×Nat),(itf (lp m) k s).2=s.2/32^k
 | 0,s=>(Nat.div_one s.2).symm
 | k+1,s=>by
  show(itf (lp m) k (lp m s)).2=_;rw[ah8 m k];show s.2/32/32^k=_;rw[Nat.div_div_eq_div_mul,Nat.pow_succ,Nat.mul_comm]
theorem ah9(m:Nat):∀(k i:Nat),itf (lp m) k (i,0)=(itf (lcg m) k i,0)
 | 0,i=>rfl
 | k+1,i=>by
  show itf (lp m) k (lp m (i,0))=_;have:lp m (i,0)=(lcg m i,0):=by k_go
  rw[this];exact ah9 m k _
theorem arq(m:Nat)(s:Nat×Nat):(lp m s).1<=m:=by
 have:(lp m s).1<m+1:=Nat.mod_lt _ ((ar1 0x111400111));exact(ar2 zBN) this
theorem aia{m:Nat}(h:Mk m)(i:Nat){p j:Nat}(hp:p<2^64)(hj:j<=m):∃k,k<=m+13/\(itf (lp m) k (i,p)).1=j:=by
 have e:itf (lp m) 13 (i,p)=((itf (lp m) 13 (i,p)).1,0):=by
  have:=ah8 m 13 (i,p);have h0:p/32^13=0:=Nat.div_eq_of_lt (yJ hp (by decide));exact Prod.ext rfl (this.trans h0)
 have hi:(itf (lp m) 13 (i,p)).1<=m:=by
  rw[show(13:Nat)=12+1 by rfl,gu];exact arq m _
 obtain⟨k,hk,ek⟩:=ak4 h hi hj;refine⟨13+k,by exact(ar2 0x11d1504d1005402) hk,?_⟩;rw[gu,e,ah9];exact ek
theorem aej(h:Int):bits h<2^64:=by
 exact(Int.toNat_lt (Int.emod_nonneg h (by decide))).mpr (Int.emod_lt_of_pos h (by decide))
noncomputable def pst(t:SetTable)(s:Nat×Nat):Probe:={j:=s.1,more:=runEnd t.mask s.1 - s.1,i:=s.1,perturb:=s.2,dummy:=none}
theorem af7(t:SetTable)(h:Int):t.probeStart h=pst t (bits h%(t.mask+1),bits h):=rfl
theorem aek(t:SetTable):∀(k:Nat) (p:Probe),k<=p.more->itf t.advance k p={p with j:=p.j+k,more:=p.more - k}
 | 0,p,Y=>rfl
 | k+1,p,h=>by
  show itf t.advance k (t.advance p)=_;have e:t.advance p={p with j:=p.j+1,more:=p.more - 1}:=by unfold advance;rw[if_pos (by exact(ar2 0x1150115114002) h)]
  rw[e,aek t k _ (by simp only;exact(ar3 0x1116401160505114003) h aT)];simp only[Probe.mk.injEq,and_true];exact⟨(ar2 0x1111504051140021),(mS (λq1=>(mS (λq2=>((ar2 0x111111542015401423) q1 q2)) (λq3=>((ar5 0x1111010001542118070640807116050401425) q1 q3 aT aT)))) (λq4=>(mS (λq5=>(mS (λq6=>((ar4 0x1010111174201620174654024) q4 q5 q6)) (λq7=>((ar5 0x1001011101742115070808116020174654025) q4 q5 q7 aT)))) (λq8=>((ar5 0x1111111174281160281150704654024) q4 q8 (aC ((ar3 0x116110611504022) q8)))))))⟩
theorem ars{P:Nat->Prop}{m i:Nat}(h:P (i+9))(h':P i):P (runEnd m i):=by
 delta runEnd
 by_cases q:i+9<=m
 ·rw[if_pos q];exact h
 ·rw[if_neg q];exact h'
theorem aib(t:SetTable)(s:Nat×Nat):∃c,c<=10/\itf t.advance c (pst t s)=pst t (lp t.mask s):=by
 have hm:(pst t s).more<=9:=by
  show runEnd t.mask s.1 - s.1<=9;exact ars (P:=λx=>x - s.1<=9) (Nat.le_of_eq (Nat.add_sub_cancel_left ..)) (by rw[Nat.sub_self];exact Nat.zero_le _)
 refine⟨(pst t s).more+1,by exact(ar1 0x11a11140091402) hm,?_⟩;rw[gu,aek t _ _ (yE _)];show t.advance _=_;unfold advance;rw[if_neg (by simp)];rfl
theorem x4(t:SetTable):∀(k:Nat) (s:Nat×Nat),∃n,n<=10*k/\itf t.advance n (pst t s)=pst t (itf (lp t.mask) k s)
 | 0,s=>⟨0,by decide,rfl⟩
 | k+1,s=>by
  obtain⟨c,hc,ec⟩:=aib t s;obtain⟨n,hn,en⟩:=x4 t k (lp t.mask s);exact⟨c+n,by exact(ar3 0x11111600a3540060a350a1403) hc hn,by rw[gu,ec,en];rfl⟩
theorem road{t:SetTable}(h:Mk t.mask)(hs:Int){j:Nat}(hj:j<=t.mask):∃n,n<10*SetTable.turns t.mask/\(itf t.advance n (t.probeStart hs)).j=j:=by
 obtain⟨k,hk,ek⟩:=aia h (bits hs%(t.mask+1)) (aej hs) hj;obtain⟨n,hn,en⟩:=x4 t k (bits hs%(t.mask+1),bits hs);refine⟨n,by unfold SetTable.turns;exact(ar3 0x11af1500a36140a360d150403) hk hn,?_⟩;rw[af7,en];exact ek
theorem x5(t:SetTable)(p:Probe):(t.advance p).dummy=p.dummy:=by
 unfold advance;split<;>rfl
theorem x6(t:SetTable):∀(n:Nat) (p:Probe),(itf t.advance n p).dummy=p.dummy
 | 0,Y=>rfl
 | n+1,p=>(x6 t n _).trans (x5 t p)
theorem u7(t:SetTable)(hd:t.dummies=#[])(j:Nat):(t.slot j=.empty)\/∃i,t.slot j=.live i/\t.place[i]?=some j:=by
 have hn:has t.dummies j=false:=by rw[hd];unfold has;simp
 by_cases h:(t.place[below t.place j]?==some j)=true
 ·exact .inr ⟨below t.place j,by unfold SetTable.slot;dsimp only;rw[if_pos h],by simpa using h⟩
 ·exact .inl (by unfold SetTable.slot;dsimp only;rw[if_neg h,hn];rfl)
noncomputable def goS(t:SetTable)(g:Nat->Int)(h:Int)(F:Nat)(p:Probe):Slot->Option Met
 | .empty=>some (.empty p.j p.dummy)
 | .dummy=>SetTable.probe.go t g h F (t.advance {p with dummy:=some p.j})
 | .live i=>if g i==h then some (.candidate p.j i (t.advance p)) else SetTable.probe.go t g h F (t.advance p)
theorem go_s{t:SetTable}{g:Nat->Int}{h:Int}{F:Nat}{p:Probe}:SetTable.probe.go t g h (F+1) p=goS t g h F p (t.slot p.j):=rfl
theorem x7(t:SetTable)(hd:t.dummies=#[])(hashAt:Nat->Int)(h:Int):∀(F n:Nat) (p:Probe),n<F->t.slot (itf t.advance n p).j=.empty->
  (∃j,SetTable.probe.go t hashAt h F p=some (.empty j p.dummy))\/∃k j i,k<n/\SetTable.probe.go t hashAt h F p=some (.candidate j i (itf t.advance (k+1) p))/\t.slot j=.live i/\t.place[i]?=some j
 | 0,n,p,hn,Y=>by exact(.inl ((ar1 zA9) hn).elim)
 | F+1,n,p,hn,he=>by
  rw[go_s];rcases u7 t hd p.j with e | ⟨i,e,ep⟩
  ·rw[e];exact .inl ⟨p.j,rfl⟩
  ·rw[e]
   delta goS
   dsimp only
   induction n with
   | zero=>have q:=e.symm.trans he;cases q
   | succ n=>
    by_cases hh:(hashAt i==h)=true
    ·rw[if_pos hh];exact .inr ⟨0,p.j,i,by exact(ar1 0x111400111),rfl,e,ep⟩
    ·rw[if_neg hh];rcases x7 t hd hashAt h F n (t.advance p) ((ar2 0x115411150114012) hn) he with⟨j,q⟩ | ⟨k,j,i',hk,q,q2⟩
     ·exact .inl ⟨j,by rw[q,x5]⟩
     ·exact .inr ⟨k+1,j,i',by exact(ar2 0x111150114015412) hk,q,q2⟩
theorem ade(t:SetTable)(hd:t.dummies=#[])(hs:t.place.size<=t.mask):∃j,j<=t.mask/\t.slot j=.empty:=by
 by_cases h:∃j,j<=t.mask/\j∉t.place.toList
 ·obtain⟨j,hj,hn⟩:=h;refine⟨j,hj,?_⟩;rcases u7 t hd j with e | ⟨i,_,ep⟩
  ·exact e
  ·rw[<-Array.getElem?_toList] at ep;exact(hn (List.mem_of_getElem? ep)).elim
 ·exfalso;have all:∀j,j<t.mask+1->j∈t.place.toList:=λj hj=>by
   apply Classical.byContradiction;intro hn;exact h ⟨j,by exact(ar2 zBN) hj,hn⟩
  have:(List.range (t.mask+1)).length<=t.place.toList.length:=List.Nodup.length_le_of_subset List.nodup_range (λj hj=>all j (List.mem_range.mp hj));simp at this;exact(ar2 0x111010134115005403) hs this
theorem af8{t:SetTable}(h:Mk t.mask)(hd:t.dummies=#[])(hs:t.place.size<=t.mask)(hh:Int):∃n,n<10*SetTable.turns t.mask/\t.slot (itf t.advance n (t.probeStart hh)).j=.empty:=by
 obtain⟨j,hj,e⟩:=ade t hd hs;obtain⟨n,hn,en⟩:=road h hh hj;exact⟨n,hn,by rw[en];exact e⟩
noncomputable def frO(m:Nat)(owner:Array (Option Nat))(F i p:Nat):Option Nat->Option Nat
 | some k=>some (i+k)
 | none=>SetTable.layClean.free m owner F (leap m i p).1 (leap m i p).2
theorem fr_s{m:Nat}{owner:Array (Option Nat)}{F i p:Nat}:SetTable.layClean.free m owner (F+1) i p=frO m owner F i p ((List.range (runEnd m i+1 - i)).find? λk=>(owner.getD (i+k) (some 0)).isNone):=rfl
theorem ael{m:Nat}{owner:Array (Option Nat)}:∀(F k:Nat) (s:Nat×Nat),k<F->(owner.getD (itf (lp m) k s).1 (some 0)).isNone=true->
  ∃j,SetTable.layClean.free m owner F s.1 s.2=some j/\(owner.getD j (some 0)).isNone=true
 | 0,k,s,h,Y=>by exact((ar1 zA9) h).elim
 | F+1,k,s,h,hk=>by
  rw[fr_s];cases hf:(List.range (runEnd m s.1+1 - s.1)).find? λk=>(owner.getD (s.1+k) (some 0)).isNone with
  | some c=>exact⟨s.1+c,rfl,List.find?_some (p:=λk=>(owner.getD (s.1+k) (some 0)).isNone) hf⟩
  | none=>
   induction k with
   | zero=>
    have h0:=List.find?_eq_none.mp hf 0 (List.mem_range.mpr (ars (P:=λx=>0<x+1 - s.1) (Nat.sub_pos_of_lt (Nat.lt_succ_of_le (Nat.le_add_right _ 9))) (Nat.sub_pos_of_lt (yU _))));exact(h0 hk).elim
   | succ k=>exact ael F k (lp m s) ((ar2 0x115411150114012) h) hk
theorem aic:∀(l:List (Option Nat)) (j k:Nat),l[j]?=some none->((l.set j (some k)).filterMap id).Perm (k::l.filterMap id)
 | [],j,k,h=>by simp at h
 | x::l,0,k,h=>by
  simp at h;subst h;exact .refl _
 | x::l,j+1,k,h=>by
  have ih:=aic l j k (by simpa using h)
  induction x with
  | none=>simpa using ih
  | some a=>
   have e1:((some a::l).set (j+1) (some k)).filterMap id=a::(l.set j (some k)).filterMap id:=rfl;have e2:(some a::l).filterMap id=a::l.filterMap id:=rfl;rw[e1,e2];exact(ih.cons a).trans (.swap k a _)
theorem aid:∀(l:List (Option Nat)),(∀x∈l,x≠none)->(l.filterMap id).length=l.length
 | [],Y=>rfl
 | none::l,h=>(h none (by simp) rfl).elim
 | some a::l,h=>by
  have e2:(some a::l).filterMap id=a::l.filterMap id:=rfl;rw[e2,List.length_cons,List.length_cons,aid l λx hx=>h x (by simp[hx])]
structure Own(m k:Nat)(owner:Array (Option Nat)):Prop where
 sz:owner.size=m+1
 pm:(owner.toList.filterMap id).Perm (List.range k)
theorem Own.step{m k:Nat}{owner:Array (Option Nat)}(h:Mk m)(O:Own m k owner)(hk:k<=m)(hh:Int):∃j,SetTable.layClean.free m owner (SetTable.turns m) (bits hh%(m+1)) (bits hh)=some j/\Own m (k+1) (owner.setIfInBounds j (some k)):=by
 have hfree:∃j0,j0<=m/\(owner.getD j0 (some 0)).isNone=true:=by
  apply Classical.byContradiction;intro hn;have hall:∀x∈owner.toList,x≠none:=by
   intro x hx e;subst e;obtain⟨i,hi⟩:=List.getElem?_of_mem hx;have hl:=(yS hi).1;rw[yF,O.sz] at hl;rw[Array.getElem?_toList] at hi;exact hn ⟨i,by exact(ar2 zBN) hl,by rw[Array.getD_eq_getD_getElem?,hi];rfl⟩
  have h1:=aid _ hall;have h2:=O.pm.length_eq;rw[List.length_range] at h2;have hz:owner.toList.length=m+1:=by rw[yF,O.sz]
  exact(ar4 0x11111010131150744627645405) hk h1 h2 hz
 obtain⟨j0,hj0,e0⟩:=hfree;obtain⟨c,hc,ec⟩:=aia h (bits hh%(m+1)) (aej hh) hj0;obtain⟨j,ej,hj⟩:=ael (m:=m) (owner:=owner) (SetTable.turns m) c (bits hh%(m+1),bits hh) (by unfold SetTable.turns;exact(ar2 0x11f15041d150402) hc) (by rw[ec];exact e0);refine⟨j,ej,by simp[O.sz],?_⟩;have hjn:owner.toList[j]?=some none:=by
  rw[Array.getElem?_toList];rw[Array.getD_eq_getD_getElem?] at hj;cases hq:owner[j]? with
  | none=>rw[hq] at hj;simp at hj
  | some x=>rw[hq] at hj;cases x<;>simp_all
 rw[Array.toList_setIfInBounds,List.range_succ];exact(aic _ _ _ hjn).trans ((O.pm.cons k).trans (List.perm_append_comm (l₁:=[k])))
theorem abv{m:Nat}(h:Mk m):∀(l:List Int) (k:Nat) (owner:Array (Option Nat)),Own m k owner->k+l.length<=m+1->
  ∃o',l.foldl (λ(acc:Option (Array (Option Nat)×Nat)) h=>do
   let(owner,k)<-acc
   let j<-SetTable.layClean.free m owner (SetTable.turns m) (bits h%(m+1)) (bits h)
   pure (owner.setIfInBounds j (some k),k+1)) (some (owner,k))=some (o',k+l.length)/\Own m (k+l.length) o'
 | [],k,owner,O,Y=>⟨owner,rfl,O⟩
 | x::l,k,owner,O,hl=>by
  obtain⟨j,ej,O'⟩:=O.step h (by simp at hl;exact(ar3 0x11640116011504002) hl) x;obtain⟨o',e,O2⟩:=abv h l (k+1) _ O' (by simp at hl⊢;exact(ar3 0x1111605114000116011504002) hl);refine⟨o',?_,by rw[List.length_cons,show k+(l.length+1)=k+1+l.length by exact(ar2 0x1151140011504021)];exact O2⟩;rw[List.foldl_cons,List.length_cons,show k+(l.length+1)=k+1+l.length by exact(ar2 0x1151140011504021),<-e];congr 1;simp[ej]
theorem aom{m:Nat}(h:Mk m)(hs:Array Int)(hl:hs.size<=m+1):∃o',SetTable.layClean m hs=some o'/\Own m hs.size o':=by
 have O:Own m 0 (Array.replicate (m+1) none):=⟨by simp,by simp⟩
 obtain⟨o',e,O'⟩:=abv h hs.toList 0 _ O (by simpa using hl);refine⟨o',?_,by simpa using O'⟩;unfold SetTable.layClean;rw[<-Array.foldl_toList];exact congrArg (Option.map (·.1)) e
theorem u9(f:Nat->Option Nat):∀l:List Nat,(l.filterMap λj=>(f j).map λx=>(j,x)).map (·.2)=l.filterMap f
 | []=>rfl
 | j::l=>by
  cases hj:f j with
  | none=>simp[hj,u9 f l]
  | some a=>simp[hj,u9 f l]
theorem range_getD(owner:Array (Option Nat)):(List.range owner.size).filterMap (λj=>owner.getD j none)=owner.toList.filterMap id:=by
 have:owner.toList=(List.range owner.size).map λj=>owner.getD j none:=by
  apply List.ext_getElem?;intro i;rw[Array.getElem?_toList,List.getElem?_map];by_cases hi:i<owner.size
  ·simp[hi,Array.getD_eq_getD_getElem?]
  ·simp[hi]
 rw[this,List.filterMap_map];rfl
theorem aie{α:Type}(es:Array α):∀(l:List Nat),(∀i∈l,i<es.size)->(l.filterMap (es[·]?)).length=l.length/\∀e∈l.filterMap (es[·]?),e∈es.toList
 | [],Y=>by simp
 | i::l,h=>by
  have hi:=h i (by simp);obtain⟨h1,h2⟩:=aie es l λj hj=>h j (by simp[hj]);have e:(i::l).filterMap (es[·]?)=es[i]::l.filterMap (es[·]?):=by simp[hi]
  rw[e];refine⟨by simp[h1],λx hx=> ?_⟩;rcases yM hx with rfl | hx
  ·exact Array.getElem_mem_toList hi
  ·exact h2 x hx
theorem af9{t:SetTable}{es:Array (Int×Value)}{wanted:Nat}(h:Mk (sizeAbove wanted - 1))(hn:es.size<=sizeAbove wanted - 1):
  ∃t' order,t.relaid (es.map (·.1)) wanted=some (t',order)/\t'.mask=sizeAbove wanted - 1/\t'.dummies=#[]/\t'.place.size=es.size/\(order.filterMap (es[·]?)).size=es.size/\∀e∈(order.filterMap (es[·]?)).toList,e∈es.toList:=by
 obtain⟨o',e1,O⟩:=aom h (es.map (·.1)) (by simp;exact(ar2 0x111150405402) hn);rw[Array.size_map] at O;have hp:(((List.range (sizeAbove wanted - 1+1)).filterMap λj=>(o'.getD j none).map λx=>(j,x)).map (·.2)).Perm (List.range es.size):=by
  rw[u9,<-O.sz,range_getD];exact O.pm
 have hlen:=hp.length_eq.trans List.length_range;obtain⟨f1,f2⟩:=aie es _ λi hi=>List.mem_range.mp (hp.mem_iff.mp hi);refine⟨_,_,by unfold SetTable.relaid SetTable.laid;rw[e1];rfl,rfl,rfl,?_,?_,?_⟩
 ·have:=hlen;rw[List.length_map] at this;simpa using this
 ·rw[<-yF,Array.toList_filterMap];exact f1.trans hlen
 ·rw[Array.toList_filterMap];exact f2
end
section
open PySem PyProof.Rows
noncomputable def sk(prog:Program)(w:World):KeyKind prog w (Str⊕Int) where
 is:=λk v=>match k with
  | .inl x=>(strKind prog w).is x v
  | .inr i=>(intKind prog w).is i v
 hash:=λk=>match k with
  | .inl x=>(strKind prog w).hash x
  | .inr i=>(intKind prog w).hash i
 inj:=λv a b ha hb=>by
  induction a with
  | inl x=>
   induction b with
   | inl y=>exact congrArg Sum.inl ((strKind prog w).inj v x y ha hb)
   | inr j=>
    obtain⟨t,e1⟩:=Value.isStrOf_shape (show Value.isStrOf x v=true from ha);obtain⟨u,e2⟩:=Value.isInt_shape (show Value.isInt j v=true from hb);rw[e1] at e2;cases e2
  | inr i=>
   induction b with
   | inl y=>
    obtain⟨t,e1⟩:=Value.isInt_shape (show Value.isInt i v=true from ha);obtain⟨u,e2⟩:=Value.isStrOf_shape (show Value.isStrOf y v=true from hb);rw[e1] at e2;cases e2
   | inr j=>exact congrArg Sum.inr ((intKind prog w).inj v i j ha hb)
 byValue:=λk v h=>by induction k with
  | inl x=>exact(strKind prog w).byValue x v h
  | inr i=>exact(intKind prog w).byValue i v h
 pyHash:=λ{A E s k v Q} h q=>by induction k with
  | inl x=>exact(strKind prog w).pyHash h q
  | inr i=>exact(intKind prog w).pyHash h q
 eqBool:=λ{A E s a b u v Q} hu hv h=>by
  induction a with
  | inl x=>
   induction b with
   | inl y=>exact(strKind prog w).eqBool hu hv (by simpa using h)
   | inr j=>
    obtain⟨t,rfl⟩:=Value.isStrOf_shape hu;obtain⟨t',rfl⟩:=Value.isInt_shape hv;unfold PySem.eqBool;refine wpAny_holding ?_;rw[if_neg (show¬(Value.str x t==Value.int j t')=true from Bool.false_ne_true)];exact yH (EqMixed.eq_str_int (wpAny_truthy_bool (by simpa using h)))
  | inr i=>
   induction b with
   | inl y=>
    obtain⟨t,rfl⟩:=Value.isInt_shape hu;obtain⟨t',rfl⟩:=Value.isStrOf_shape hv;unfold PySem.eqBool;refine wpAny_holding ?_;rw[if_neg (show¬(Value.int i t==Value.str y t')=true from Bool.false_ne_true)];exact yH (EqMixed.eq_int_str (wpAny_truthy_bool (by simpa using h)))
   | inr j=>exact(intKind prog w).eqBool hu hv (by simpa using h)
 «strs»:=λk x t v h=>by induction k with
  | inl y=>exact(strKind prog w).strs y x t v h
  | inr i=>obtain⟨u,hu⟩:=Value.isInt_shape (show Value.isInt i (.str x t)=true from h);cases hu
section
variable{prog:Program}{w:World}{A:Around}{E:Value->Shared->Prop}{s:Shared}
noncomputable abbrev KTu(prog:Program)(w:World):=IsTupleKey (sk prog w)
structure abw(h:Heap)(a:Addr)(S:Value->Prop)(n:Nat):Prop where
 o:∃es ep t,h.get? a=some {cls:=.type "set",data:=.set es ep t}/\Mk t.mask/\t.dummies=#[]/\t.place.size=es.size/\es.size*5<t.mask*3/\es.size=n/\∀e∈es.toList,S e.2
theorem aby{k:List (Str⊕Int)}{vs:List Value}(h:PySem.ItemsAre (sk prog w) k vs):∀v∈vs,(∃x t,v=.str x t)\/∃i t,v=.int i t:=by
 induction h with
 | nil=>simp
 | @cons k v ks vs h1 _ ih=>
  intro u hu;rcases yM hu with rfl | hu
  ·induction k with
   | inl x=>obtain⟨t,e⟩:=Value.isStrOf_shape (show Value.isStrOf x _=true from h1);exact .inl ⟨x,t,e⟩
   | inr i=>obtain⟨t,e⟩:=Value.isInt_shape (show Value.isInt i _=true from h1);exact .inr ⟨i,t,e⟩
  ·exact ih u hu
set_option backward.match.sparseCases true in
noncomputable def ocB(a:Addr)(t:String):Sem Bool:=do
 let underTuple<-if t=="tuple" then pure true else isSubtype (.type t) (.type "tuple")
 if !underTuple then return false
 let some items<-seqItems? (.ref a) | return true
 for y in items do
  if<-ofAClassStatement 7 y then return true
 return false
set_option backward.match.sparseCases true in
noncomputable def ocS(a:Addr):Value->Sem Bool
 | .type t=>ocB a t
 | Y=>pure true
theorem oc_s{a:Addr}:ofAClassStatement 8 (.ref a)=(typeOf (.ref a)>>=ocS a):=by k_go
theorem abz{k:List (Str⊕Int)}{a:Addr}{Q:Bool->Shared->Prop}(hk:KTu prog w s.heap k a)(h:Q false s):wpAny (model prog w) A (ofAClassStatement 8 (.ref a)) Q E s:=by
 have hT:=hk.typeIs;obtain⟨o,items,n,ho,_,hd,hi⟩:=hk;rw[oc_s];refine yH (wpAny_typeOf hT ?_);show wpAny _ _ (ocB a "tuple") _ _ _
 delta ocB;dsimp only
 rw[if_pos (by decide)];refine yH (yI ?_);rw[if_neg (by decide)];refine yH (wpAny_seqItems ho hd ?_);dsimp only;refine yH ?_;show wpAny _ _ (forIn items _ _) _ _ s;rw[<-Array.forIn_toList];refine wpAny_forIn_list _ (λrest r s'=>s'=s/\r.1=none/\∀v∈rest,(∃x t,v=.str x t)\/∃i t,v=.int i t) _ ?_ ?_ _ _ ⟨rfl,rfl,aby hi⟩
 ·rintro v rest r s' ⟨rfl,hr,hall⟩;rcases hall v (by simp) with⟨x,t,rfl⟩ | ⟨i,t,rfl⟩
  ·refine yH (m:=ofAClassStatement 7 (.str x t)) (yI ?_);exact yI ⟨rfl,rfl,λv hv=>hall v (by simp[hv])⟩
  ·refine yH (m:=ofAClassStatement 7 (.int i t)) (yI ?_);exact yI ⟨rfl,rfl,λv hv=>hall v (by simp[hv])⟩
 ·rintro⟨r,u⟩ s' ⟨rfl,hr,_⟩;simp only at hr;subst hr;exact yI h
theorem ak5{k:List (Str⊕Int)}{a:Addr}{Q:Bool->Shared->Prop}(hk:KTu prog w s.heap k a)(h:∀b,Q b s):wpAny (model prog w) A (hashByValue 8 (.ref a)) Q E s:=by
 have hT:=hk.typeIs;obtain⟨o,items,n,ho,_,hd,hi⟩:=hk;unfold hashByValue;refine yH (wpAny_specialOf hT F.slot_tuple_hash.lookup ?_);dsimp only;refine yH (wpAny_seqItems ho hd ?_);refine yH ?_;show wpAny _ _ (forIn items _ _) _ _ s;rw[<-Array.forIn_toList];refine wpAny_forIn_list _ (λrest r s'=>s'=s/\r.1=none/\∀v∈rest,(∃x t,v=.str x t)\/∃i t,v=.int i t) _ ?_ ?_ _ _ ⟨rfl,rfl,aby hi⟩
 ·rintro v rest r s' ⟨rfl,hr,hall⟩;rcases hall v (by simp) with⟨x,t,rfl⟩ | ⟨i,t,rfl⟩
  ·refine yH (m:=hashByValue 7 (.str x t)) (yI ?_);exact yI (yI (h _))
  ·refine yH (m:=hashByValue 7 (.int i t)) (yI ?_);exact yI ⟨rfl,rfl,λv hv=>hall v (by simp[hv])⟩
 ·rintro⟨r,u⟩ s' ⟨rfl,hr,_⟩;simp only at hr;subst hr;exact yI (h _)
end
section
variable{prog:Program}{w:World}{A:Around}{E:Value->Shared->Prop}{s:Shared}
theorem ak6{k:List (Str⊕Int)}{x:Addr}{stored:List Value}{Q:Bool->Shared->Prop}(hk:KTu prog w s.heap k x)(hs:∀y∈stored,∃b k',y=.ref b/\KTu prog w s.heap k' b)(h:Q false s):
  wpAny (model prog w) A (searchCouldBeSeen (.ref x) stored) Q E s:=by
 unfold searchCouldBeSeen;refine yH ?_;refine wpAny_forIn_list _ (λrest r s'=>s'=s/\r.1=none/\∀y∈rest,∃b k',y=.ref b/\KTu prog w s.heap k' b) _ ?_ ?_ _ _ ⟨rfl,rfl,hs⟩
 ·rintro y rest r s' ⟨rfl,hr,hall⟩;obtain⟨b,k',rfl,hb⟩:=hall y (by simp);have fin:∀s'',s''=s'->s''=s'/\(none:Option Bool)=none/\∀y∈rest,∃b k',y=Value.ref b/\KTu prog w s'.heap k' b:=λY e=>⟨e,rfl,λy hy=>hall y (by simp[hy])⟩
  dsimp only;by_cases hxb:(x==b)=true
  ·rw[if_pos (by rw[hxb];rfl)];exact yI (fin _ rfl)
  ·rw[if_neg (by simp[hxb,carriedByValue])];refine yH (wpAny_eqIsQuiet_tuple hk ?_);rw[if_neg (by simp)];refine yH (wpAny_eqIsQuiet_tuple hb ?_);rw[if_neg (by simp)];refine yH (abz hk ?_);rw[if_neg (by simp)];refine yH (abz hb ?_);rw[if_neg (by simp)];exact yI (fin _ rfl)
 ·rintro⟨r,u⟩ s' ⟨rfl,hr,_⟩;simp only at hr;subst hr;exact yI h
theorem art{n m:Nat}(h:n*5<m*3):n<=m:=Nat.le_of_not_lt λk=>absurd h (Nat.not_lt.mpr (yK (Nat.mul_le_mul_right 3 (Nat.le_of_lt k)) (Nat.mul_le_mul_left n (by decide))))
theorem aga{a x:Addr}{k:List (Str⊕Int)}{es:Array (Int×Value)}{ep:Nat}{t:SetTable}{hh:Int}{Q:SetFound->Shared->Prop}(hu:A.units<cLine)(ho:s.heap.get? a=some {cls:=.type "set",data:=.set es ep t})(hm:Mk t.mask)(hd:t.dummies=#[])(hp:t.place.size=es.size)(hf:t.fits es.size=true)
  (hk:KTu prog w s.heap k x) (he:∀e∈es.toList,∃b k',e.2=.ref b/\KTu prog w s.heap k' b/\k'≠k) (q:∀j,Q (.free j false) s):
  ∀(n F:Nat) (st:Option SetTable.Probe),n<F->n<10*SetTable.turns t.mask->(st.getD (t.probeStart hh)).dummy=none->t.slot (itf t.advance n (st.getD (t.probeStart hh))).j=.empty->
   wpAny (model prog w) A (setSearchFrom a (.ref x) hh true F st) Q E s:=by
 intro n
 induction n using Nat.strongRecOn with
 | ind n ih=>
  intro F st hF hn hdm hsl;obtain⟨F,rfl⟩:∃f,F=f+1:=⟨F - 1,by exact(ar2 0x11111140525114042) (aC ((ar2 0x1151105412) hF))⟩
  refine yH (wpAny_setState_of ho rfl hf ?_);dsimp only;rw[if_neg (by unfold SetTable.gaveWay;rcases hm with h | h | h<;>rw[h] <;>decide)];rcases x7 t hd (λi=>(es[i]?.map (·.1)).getD 0) hh (10*SetTable.turns t.mask) n _ hn hsl with⟨j,ej⟩ | ⟨c,j,i,hc,ej,es1,es2⟩
  ·have e1:∀f:Nat->Int,(∀i,f i=(es[i]?.map (·.1)).getD 0)->t.probe f hh (st.getD (t.probeStart hh))=some (.empty j none):=λf hf=>by
    rw[funext hf];unfold SetTable.probe;rw[ej,hdm]
   rw[e1]
   ·exact yI (q j)
   ·exact λi=>rfl
  ·have e1:∀f:Nat->Int,(∀i,f i=(es[i]?.map (·.1)).getD 0)->t.probe f hh (st.getD (t.probeStart hh))=some (.candidate j i (itf t.advance (c+1) (st.getD (t.probeStart hh)))):=λf hf=>by
    rw[funext hf];unfold SetTable.probe;exact ej
   rw[e1]
   rotate_left
   ·exact λi=>rfl
   have hi:i<es.size:=by
    rw[<-hp];rw[Array.getElem?_eq_some_iff] at es2;exact es2.1
   have hei:es[i]?=some es[i]:=Array.getElem?_eq_getElem hi;obtain⟨b,k',eb,hb,hne⟩:=he es[i] (Array.getElem_mem_toList hi);dsimp only;have sm:t.sameMemory t.moves t.mask=some true:=by unfold SetTable.sameMemory;simp
   have nx:wpAny (model prog w) A (setSearchFrom a (.ref x) hh true F (some (itf t.advance (c+1) (st.getD (t.probeStart hh))))) Q E s:=by
    refine ih (n - (c+1)) ((ar3 0x11641611504022) (aC ((ar2 0x115114005412) hc))) F _ ((ar4 0x111561411706021150413) hF (aC ((ar2 0x115114005412) hc))) ((ar3 0x11150a36146050a3413) hn aS) (by rw[Option.getD_some,x6];exact hdm) ?_;rw[Option.getD_some,<-gu,show c+1+(n - (c+1))=n by exact(ar3 0x111164115002611504022) (aC ((ar2 0x115114005412) hc))];exact hsl
   by_cases hl:(!t.led)=true
   ·rw[if_pos hl];refine yH (ak6 hk (λy hy=> ?_) ?_)
    ·obtain⟨e,he1,rfl⟩:=List.mem_map.mp hy;have he2:e∈es:=by simp at he1;exact he1.1
     obtain⟨b',k2,q1,q2,_⟩:=he e (by simpa using he2);exact⟨b',k2,q1,q2⟩
    ·rw[if_neg (by simp)];rw[hei];dsimp only;rw[eb];refine yH (wpAny_holding (wpAny_eqBool_tuple hu hb hk ?_));rw[decide_eq_false hne];refine yH (wpAny_setState_of ho rfl hf ?_);dsimp only;rw[if_neg (by simp),sm];dsimp only;rw[if_pos rfl,es1];dsimp only;rw[hei];dsimp only;rw[eb];refine yH (wpAny_isSame_ref_self ?_);refine yH (yI ?_);rw[if_pos rfl];dsimp only;rw[if_neg (by simp)];exact nx
   ·rw[if_neg hl];rw[hei];dsimp only;rw[eb];refine yH (wpAny_holding (wpAny_eqBool_tuple hu hb hk ?_));rw[decide_eq_false hne];refine yH (wpAny_setState_of ho rfl hf ?_);dsimp only;rw[if_neg (by simp),sm];dsimp only;rw[if_pos rfl,es1];dsimp only;rw[hei];dsimp only;rw[eb];refine yH (wpAny_isSame_ref_self ?_);refine yH (yI ?_);rw[if_pos rfl];dsimp only;rw[if_neg (by simp)];exact nx
theorem fits_of{t:SetTable}{n:Nat}(hd:t.dummies=#[])(hp:t.place.size=n)(hn:n<=t.mask):t.fits n=true:=by
 simp only[SetTable.fits,SetTable.fill,hd,Bool.and_eq_true,beq_iff_eq,decide_eq_true_eq];exact⟨hp,by simp;exact(ar3 0x1116406505423) hp hn⟩
theorem pq{α:Type}(xs:Array α)(p:Nat)(x:α):(SetTable.insertAt xs p x).size=xs.size+1:=by
 have:=(SetTable.insertAt_perm xs p x).length_eq;simpa using this
theorem aif{α:Type}(xs:Array α)(p:Nat)(x:α):∀e∈(SetTable.insertAt xs p x).toList,e∈xs.toList\/e=x:=λe he=>by
 have:=(SetTable.insertAt_perm xs p x).mem_iff.mp he;simpa using this
theorem adf{m n:Nat}(h:Mk m)(h1:n*5<m*3)(h2:¬(n+1)*5<m*3)(hn:n+1<=64):∃w,SetTable.grown (n+1)=w/\Mk (SetTable.sizeAbove w - 1)/\(n+1)*5<(SetTable.sizeAbove w - 1)*3/\SetTable.sizeAbove w<=128:=by
 rcases h with rfl | rfl | rfl
 ·have:n=4:=eq5 h1 h2 (by decide) (by decide);subst this;exact⟨20,by decide,by unfold Mk;decide,by decide,by decide⟩
 ·have:n=18:=eq5 h1 h2 (by decide) (by decide);subst this;exact⟨76,by decide,by unfold Mk;decide,by decide,by decide⟩
 ·exact absurd (yV (Nat.mul_le_mul_right 5 hn) (by decide)) h2
theorem aem{h:Heap}{a:Addr}{es es2:Array (Int×Value)}{ep:Nat}{t t2:SetTable}(ho:h.get? a=some {cls:=.type "set",data:=.set es ep t}):
  (h.update a (Obj.putSet es2 t2)).get? a=some {cls:=.type "set",data:=.set es2 (ep+1) t2}:=by
 have:=Heap.get?_update_self (Obj.putSet es2 t2) ho (by rw[putSet_of es2 t2 rfl];rfl);rw[putSet_of es2 t2 rfl] at this;exact this
theorem vd{a:Addr}{es es2:Array (Int×Value)}{ep:Nat}{t2:SetTable}{t:SetTable}{S:Value->Prop}{Q:Bool->Shared->Prop}(ho:s.heap.get? a=some {cls:=.type "set",data:=.set es ep t})(hm:Mk t2.mask)(hd:t2.dummies=#[])(hp:t2.place.size=es.size+1)(h2:es2.size=es.size+1)(hl:es.size*5<t2.mask*3)(hn:es.size+1<=64)
  (hall:∀e∈es2.toList,S e.2) (q:∀h',Heap.SameBut a s.heap h'->abw h' a S (es.size+1)->Q true {s with heap:=h'}):
  wpAny (model prog w) A (do
   storeSet a es2 t2
   if(!false&&t2.tooFull)=true then do
    setRelay a (SetTable.grown (es.size+1))
    pure true
   else pure true) Q E s:=by
 have hms:es.size+1<=t2.mask:=an6 hl;refine yH (wpAny_storeSet_of ho rfl ?_ (by rw[sizeLine_eq];exact(ar2 0x111100000072404022115001150423) h2 hn));have ho2:(s.heap.update a (Obj.putSet es2 t2)).get? a=some {cls:=.type "set",data:=.set es2 (ep+1) t2}:=aem ho;have sb:Heap.SameBut a s.heap (s.heap.update a (Obj.putSet es2 t2)):=Heap.SameBut.update _ _ _;have hfill:t2.tooFull=decide ((es.size+1)*5≥t2.mask*3):=by unfold SetTable.tooFull SetTable.fill;rw[hd,hp];rfl
 by_cases hfull:(es.size+1)*5<t2.mask*3
 ·rw[if_neg (by rw[hfill];simp;exact(ar2 zAL) hfull)];exact yI (q _ sb ⟨_,_,_,ho2,hm,hd,by rw[hp,h2],by rw[h2];exact hfull,h2,hall⟩)
 ·rw[if_pos (by rw[hfill];simp;exact(ar2 zAV) (Nat.le_of_not_lt hfull))];obtain⟨wt,ew,hmw,hlw,hsw⟩:=adf hm hl hfull hn;rw[ew];refine yH ?_;unfold setRelay;refine yH (wpAny_setState_of ho2 rfl (fits_of hd (by rw[hp,h2]) ((ar3 0x1116406115001150423) h2 hms)) ?_);dsimp only;rw[if_neg (by rw[sizeLine_eq];exact(ar1 0x11101013410000007218022403) hsw)];obtain⟨t3,order,er,r1,r2,r3,r4,r5⟩:=af9 (t:=t2) (es:=es2) hmw (h2▸Nat.le_of_lt (an6 hlw));rw[er];refine yH ?_;show wpAny _ _ (if(_ !=_)=true then _ else _) _ _ _;rw[if_neg (by rw[r4];simp)];refine yI ?_;dsimp only;have hsz:(order.filterMap (es2[·]?)).size<=sizeLine:=by rw[r4,h2,sizeLine_eq];exact yK (Nat.le_of_lt (an6 hlw)) (yK (Nat.sub_le _ _) (yK hsw (by decide)))
  refine wpAny_storeSet_of ho2 rfl ?_ hsz;exact yI (q _ (sb.trans (Heap.SameBut.update _ _ _)) ⟨_,_,_,aem ho2,by rw[r1];exact hmw,r2,by rw[r3,r4],by rw[r4,r1,h2];exact hlw,by rw[r4,h2],λe he=>hall e (r5 e he)⟩)
theorem ak7{a x:Addr}{k:List (Str⊕Int)}{S:Value->Prop}{n:Nat}{hh:Int}{Q:Bool->Shared->Prop}(hu:A.units<cLine)(hS:abw s.heap a S n)(hk:KTu prog w s.heap k x)(hn:n+1<=64)
  (he:∀v,S v->∃b k',v=.ref b/\KTu prog w s.heap k' b/\k'≠k) (q:∀h',Heap.SameBut a s.heap h'->abw h' a (λv=>S v\/v=.ref x) (n+1)->Q true {s with heap:=h'}):
  wpAny (model prog w) A (setAddHashed a (.ref x) hh) Q E s:=by
 obtain⟨es,ep,t,ho,hm,hd,hp,hl,rfl,hall⟩:=hS.o;have hms:es.size<=t.mask:=art hl;have hf:=fits_of hd hp hms;unfold setAddHashed setAddHashedIn;refine wpAny_holding (yH (wpAny_setState_of ho rfl hf ?_));dsimp only;rw[if_neg (show¬byScan (.ref x) _=true from Bool.false_ne_true)];obtain⟨nr,hnr,hsl⟩:=af8 hm hd ((ar3 0x1116406505423) hp hms) hh;unfold setSearch;have hbig:10*SetTable.turns t.mask<100000:=by unfold SetTable.turns;rcases hm with h | h | h<;>rw[h] <;>decide
 refine yH (aga hu ho hm hd hp hf hk (λe h=>he e.2 (hall e h)) (λj=> ?_) nr 100000 none ((ar2 0x111186a05241186a05250a3150a3413) hnr hbig) hnr rfl hsl);dsimp only;refine yH (wpAny_setState_of ho rfl hf ?_);have hput:(t.put j).1.mask=t.mask/\(t.put j).1.dummies=#[]/\(t.put j).1.place.size=es.size+1:=by
  refine⟨rfl,?_,by rw[<-hp];exact pq ..⟩;show(if SetTable.has t.dummies j then _ else t.dummies)=#[];rw[hd,if_neg (by unfold SetTable.has;simp)]
 have hal2:∀p,∀e∈(SetTable.insertAt es p (hh,Value.ref x)).toList,S e.2\/e.2=.ref x:=λp e he2=>by
  rcases aif es p _ e he2 with h | h
  ·exact .inl (hall e h)
  ·exact .inr (by rw[h])
 dsimp only;by_cases hpl:(t.put j).1.plain=true
 ·rw[if_pos hpl];refine yH (ak5 hk λb=> ?_);cases b
  ·rw[if_neg (by simp)];exact vd ho (t2:={(t.put j).1 with plain:=false}) (by rw[show({(t.put j).1 with plain:=false}:SetTable).mask=t.mask from hput.1];exact hm) hput.2.1 hput.2.2 (pq ..) hl hn (hal2 _) q
  ·rw[if_pos rfl];exact vd ho (t2:=(t.put j).1) (by rw[hput.1];exact hm) hput.2.1 hput.2.2 (pq ..) hl hn (hal2 _) q
 ·rw[if_neg hpl];refine yH (yI ?_);rw[if_pos rfl];exact vd ho (t2:=(t.put j).1) (by rw[hput.1];exact hm) hput.2.1 hput.2.2 (pq ..) hl hn (hal2 _) q
end
structure adg(prog:Program)(w:World)(h:Heap)(items:Array Value)(ks:Nat->List (Str⊕Int)):Prop where
 at_:∀i v,items[i]?=some v->∃b,v=.ref b/\KTu prog w h (ks i) b
 ne:∀i j,i<items.size->j<items.size->i≠j->ks i≠ks j
theorem ak8{prog:Program}{w:World}{h h':Heap}{k:List (Str⊕Int)}{b:Addr}(hk:KTu prog w h k b)(k1:∀b o,o.cls=.type "tuple"->h.get? b=some o->h'.get? b=some o):KTu prog w h' k b:=by
 obtain⟨o,items,n,ho,hc,hd,hi⟩:=hk;exact⟨o,items,n,k1 b o hc ho,hc,hd,hi⟩
theorem adg.keep{prog:Program}{w:World}{h h':Heap}{items:Array Value}{ks:Nat->List (Str⊕Int)}(K:adg prog w h items ks)(k:∀b o,o.cls=.type "tuple"->h.get? b=some o->h'.get? b=some o):adg prog w h' items ks:=
 ⟨λi v hv=>by obtain⟨b,e,hb⟩:=K.at_ i v hv;exact⟨b,e,ak8 hb k⟩,K.ne⟩
section
variable{prog:Program}{w:World}{A:Around}{R:Result->Shared->Prop}
theorem aig{I l S:Addr}{items:Array Value}{ks:Nat->List (Str⊕Int)}(W:WalksS prog w A.in1 I [I,l] [I] (λa b=>b=a) items.size (λi v=>items[i]?=some v) (λi s=>s.heap.IsListIter I l i/\s.heap.IsList l items))(hS1:S≠I)(hS2:S≠l)(hn:items.size<=64)(hu:A.units+8<cLine):
  ∀(d i:Nat) (s:Shared),items.size - i=d->i<=items.size->(s.heap.IsListIter I l i/\s.heap.IsList l items)->adg prog w s.heap items ks->abw s.heap S (λv=> ∃j,j<i/\items[j]?=some v) i->
   (∀s',Moved [S,I] (λa b=>b=a) s s'->abw s'.heap S (λv=> ∃j,j<items.size/\items[j]?=some v) items.size->R (.ok (.ret .none)) s')->
   codeAny (model prog w) A (.builtin "set.update.loop" ⟨[.ref S,.ref I],[]⟩) R s:=by
 have hsub:∀b∈ [I],b∈ [S,I]:=λb hb=>by simp at hb;simp[hb]
 have hIt:∀{s:Shared} {i:Nat},s.heap.IsListIter I l i->∀o,s.heap.get? I=some o->o.cls≠ .type "tuple":=λ{s i} h o e=>by
  obtain⟨o',e',hc,_⟩:=h;rw[e] at e';cases e';rw[hc];decide
 intro d
 induction d with
 | zero=>
  intro i s hk hi hst K hS hR;have hin:i=items.size:=by exact(ar3 0x110110106525406065001444) hk hi aT
  subst hin;refine codeAny_builtin PyProof.Rows.F.entry_set_update_loop ?_;rw[Around.under_plainId PyProof.Rows.F.plain_set_update_loop _];show wpAny _ A.in1 (pyNext (.ref I)>>=_) _ _ s;refine yH (W.done s _ _ hst λs' hm=> ?_);show wpAny _ A.in1 (ret Value.none) _ _ s';refine yI (hR s' (hm.mono hsub) ?_);obtain⟨es,ep,t,ho,r⟩:=hS.o;exact⟨es,ep,t,hm.heap S _ (by simpa using hS1) ho,r⟩
 | succ d ih=>
  intro i s hk hi hst K hS hR;have hlt:i<items.size:=by exact(mS (λq1=>(yX ((ar2 zBO) hk q1))) (λq2=>((ar4 0x111761764021150443) hk q2)))
  refine codeAny_builtin PyProof.Rows.F.entry_set_update_loop ?_;rw[Around.under_plainId PyProof.Rows.F.plain_set_update_loop _];show wpAny _ A.in1 (pyNext (.ref I)>>=_) _ _ s;refine yH (W.item i s _ _ hlt hst λv s' hP hst' hm=> ?_);have K1:adg prog w s'.heap items ks:=K.keep λb o hc e=>hm.heap b o (by
   intro hb;simp at hb;subst hb;exact hIt hst.1 o e hc) e
  have hS':abw s'.heap S (λv=> ∃j,j<i/\items[j]?=some v) i:=by
   obtain⟨es,ep,t,ho,r⟩:=hS.o;exact⟨es,ep,t,hm.heap S _ (by simpa using hS1) ho,r⟩
  obtain⟨b,rfl,hb⟩:=K1.at_ i v hP;show wpAny _ A.in1 (holding [Value.ref b] (setAdd S (.ref b))>>=_) _ _ s';refine yH (wpAny_holding ?_);unfold setAdd;refine wpAny_holding ?_;refine yH (wpAny_pyHash_tuple (by rw[Around.in1_units];exact(ar2 0x115114015814012) hu) hb ?_);refine ak7 (s:={s' with toks:=s'.toks+((ks i).length+1)}) (by rw[Around.in1_units];exact(ar2 0x115114015814012) hu) hS' hb ((ar2 0x1114022115004514022403) hn hlt) (λv hv=> ?_) λh' hsb hSt=> ?_
  ·obtain⟨j,hj,ej⟩:=hv;obtain⟨c,ec,hc⟩:=K1.at_ j v ej;exact⟨c,ks j,ec,hc,K1.ne j i ((ar3 0x1115614615413) hlt hj) hlt ((ar2 zAF) hj)⟩
  ·have hSo:∀o,s'.heap.get? S=some o->o.cls≠ .type "tuple":=λo e=>by
    obtain⟨es,ep,t,ho,_⟩:=hS'.o;rw[e] at ho;cases ho;show Value.type "set"≠Value.type "tuple";decide
   refine yI ⟨plainId_quiet PyProof.Rows.F.plain_set_update_loop _,ih (i+1) _ ((mS (λq1=>(mS (λq2=>(yX ((ar2 zBO) hk q2))) (λq3=>((ar5 zCV) hk q1 q3 aT)))) (λq4=>((ar5 0x1111111156287404811706021150424) hk q4 (aC ((ar3 0x11650611504022) q4)))))) hlt (W.frame _ s' _ _ hst' (Nat.le_add_right _ _) λc hc o e=> ?_) (K1.keep λc o hc e=> ?_) ?_ λs'' hm'' hS''=> ?_⟩
   ·rw[hsb.2 c (λh=>by subst h;simp at hc;rcases hc with h | h;exact hS1 h;exact hS2 h)];exact e
   ·rw[hsb.2 c (λh=>hSo o (h▸e) hc)];exact e
   ·obtain⟨es,ep,t,ho,q1,q2,q3,q4,q5,q6⟩:=hSt.o;refine⟨es,ep,t,ho,q1,q2,q3,q4,q5,λe he=> ?_⟩;rcases q6 e he with⟨j,hj,ej⟩ | h
    ·exact⟨j,by exact(ar2 0x111150415412) hj,ej⟩
    ·exact⟨i,by exact(ar1 0x11140411),by rw[h];exact hP⟩
   ·refine hR s'' (Moved.trans (λY Z U h1 h2=>h2.trans h1) ((hm.mono hsub).then_heap (Nat.le_add_right _ _) λc o hc e=> ?_) hm'') hS'';rw[hsb.2 c (λh=>hc (by simp[h]))];exact e
end
section
variable{prog:Program}{w:World}{A:Around}{E:Value->Shared->Prop}{s:Shared}
noncomputable abbrev j3(led:Bool):Obj:={cls:=.type "set",dict:=none,data:=.set #[] 0 (.fresh 0 0 led)}
theorem zh{l:Addr}{items:Array Value}{ks:Nat->List (Str⊕Int)}{Q:Value->Shared->Prop}(hh:A.handled=none)(hu:A.units+40<cLine)(hl:s.heap.IsList l items)(K:adg prog w s.heap items ks)(hb:items.size<=64)
  (h:∀(h':Heap) (tk:Nat),abw h' s.heap.objs.size (λv=> ∃j,j<items.size/\items[j]?=some v) items.size->(∀b o,s.heap.get? b=some o->h'.get? b=some o)->Q (.ref s.heap.objs.size) {s with heap:=h',toks:=tk}):
  wpAny (model prog w) A (call (.type "set") [.ref l]) Q E s:=by
 obtain⟨c,tl,hmro⟩:=PySem.F.called_set.mro;have hmade:=PySem.F.called_set.made;have hsub:=PySem.F.called_set.sub;refine wpAny_call (codeAny_of_tree ?_);show wpAny _ _ (callAny (.type "set") _) _ _ _;refine yI ⟨Code.quiet_builtin _ (by decide+kernel),codeAny_builtin PySem.F.entry_type_call ?_⟩;rw[Around.under_plain (weight_type_call_type "set" [.ref l] []) rfl];have h1:=PySem.F.called_set.notType;have h2:=PySem.F.called_set.canCreate;have hct:=PySem.F.typeCall_set_1 (.ref l);repeat (any_goals (first | assumption | wp_step))
 refine codeAny_mono (code_set_new_1 (.ref l) (E:=E) (Q₁:=λobj s₁=> ∃led:Bool,obj=.ref s.heap.objs.size/\s₁={s with heap:=s.heap.push (j3 led)}) λled=>⟨led,rfl,rfl⟩) λr s₁ hr=> ?_
 induction r with
 | error e=>exact hr
 | ok fl=>
  induction fl with
  | ret obj=>
   obtain⟨led,rfl,rfl⟩:=hr;have hS:(s.heap.push (j3 led)).get? s.heap.objs.size=some (j3 led):=Heap.get?_push_size _ rfl;have hT:Shared.TypeIs {s with heap:=s.heap.push (j3 led)} (.ref s.heap.objs.size) "set":=⟨_,hS,rfl⟩
   have hli:=PySem.F.called_set.init.lookup;have hbi:=PySem.F.called_set.init.bind (.ref s.heap.objs.size);repeat (any_goals (first | assumption | wp_step))
   refine codeAny_mono (codeAny_call_builtin (R:=wants (λr s₂=>r=.none/\∃h' tk,s₂={s with heap:=h',toks:=tk}/\
     abw h' s.heap.objs.size (λv=> ∃j,j<items.size/\items[j]?=some v) items.size/\(∀b o,s.heap.get? b=some o->h'.get? b=some o)) E) PySem.F.called_set.init.plain PySem.F.entry_set_init (check_set_init_1 hT ?_)) λr₂ s₂ hr₂=> ?_
   ·obtain⟨ol,hol,hcl,nl,hdl⟩:=id hl;obtain⟨ocls,odict,odata,oslots⟩:=ol;simp only at hcl hdl;subst hcl;subst hdl;have hol':(s.heap.push (j3 led)).get? l=some {cls:=.type "list",dict:=odict,data:=.seq items nl,slots:=oslots}:=yT _ hol;have hsls:=PySem.F.sub_list_set;have hslf:=PySem.F.sub_list_frozenset;have hne:(Value.type "list"==Value.type "dict")=false:=by decide
    have hl1:(s.heap.push (j3 led)).IsList l items:=hl.push _;unfold Builtin.«set.__init__» noKeywords Builtin.Frozenset.updateFrom;generalize hPI:pyIter=PI
    wp_walk
    subst hPI;refine wpAny_pyIter_list hl1 ?_;refine yH (wpAny_runValue ?_);have hlS:l<s.heap.objs.size:=Heap.lt_size hol;have hh3:A.in1.in1.in1.handled=none:=by simp[hh]
    have hneI:l≠(s.heap.push (j3 led)).objs.size:=by
     rw[Heap.size_push];exact yO (Nat.lt_succ_of_lt hlS)
    have hSI:s.heap.objs.size≠(s.heap.push (j3 led)).objs.size:=by
     rw[Heap.size_push];exact yO (yU _)
    refine aig (ks:=ks) ((Walks.list hh3 _ l hneI items).toS) hSI (yN hlS) hb (by simp only[Around.in1_units];exact(ar2 0x11581111140001528224012) hu) (items.size - 0) 0 _ ((ar1 0x114421)) (Nat.zero_le _) ⟨⟨_,Heap.get?_push_size _ rfl,rfl,rfl⟩,hl1.push _⟩ ?hK ?hS0 ?hR
    case hK=>exact K.keep λb o Y e=>yT _ (yT _ e)
    case hS0=>
     exact⟨#[],0,_,yT _ hS,.inl rfl,rfl,rfl,(show 0<21 by decide),rfl,by simp⟩
    case hR=>
     intro s' hm hS';obtain⟨h',g',d',tk',os'⟩:=s';have eg:g'=s.gens:=hm.gens;have ed:d'=s.drawn:=hm.drawn;have eo:os'=s.os:=hm.os;subst eg;subst ed;subst eo;show wpAny _ _ _ _ _ _;refine yI ?_;show wpAny _ _ (ret Value.none) _ _ _;refine yI ⟨rfl,h',tk',rfl,hS',λb o e=> ?_⟩;have hbs:=Heap.lt_size e;have hb1:b≠s.heap.objs.size:=yO hbs;have hb2:b≠(s.heap.push (j3 led)).objs.size:=by
      rw[Heap.size_push];exact yO (Nat.lt_succ_of_lt hbs)
     exact hm.heap b o (by simp only[List.mem_cons,List.not_mem_nil,or_false,not_or];exact⟨hb1,hb2⟩) (yT _ (yT _ e))
   ·induction r₂ with
    | error e=>exact hr₂
    | ok fl₂=>
     induction fl₂ with
     | ret r=>
      obtain⟨rfl,h',tk,rfl,hS',hk'⟩:=hr₂;repeat (any_goals (first | assumption | wp_step))
      exact h _ _ hS' hk'
     | _=>exact hr₂.elim
  | _=>exact hr.elim
end
end
section
open PySem PySem.W PyProof.Rows
theorem agb{d:D}{p:Str×Int}(e:am4 d=some p):d=.tup [.str p.1,.int p.2]:=by
 rcases d with⟨⟩<;>w_pre e;rcases l with _ | ⟨a,l⟩
 ·exact nS e rfl
 rcases a with⟨⟩<;>w_pre e;rcases l with _ | ⟨b,l⟩
 ·exact nS e rfl
 rcases b with⟨⟩<;>w_pre e;rcases l with _ | ⟨c,l⟩
 ·cases e;rfl
 ·exact nS e rfl
theorem agc{d:D}{p:Int×D}(e:am3 d=some p):d=.tup [.int p.1,p.2]:=by
 rcases d with⟨⟩<;>w_pre e;rcases l with _ | ⟨a,l⟩
 ·exact nS e rfl
 rcases a with⟨⟩<;>w_pre e;rcases l with _ | ⟨b,l⟩
 ·exact nS e rfl
 rcases l with _ | ⟨c,l⟩
 ·cases e;rfl
 ·exact nS e rfl
theorem qb:∀{l:List D} {kss:List (Str×Int)},mn l=some kss->∀i:Nat,l[i]?=(kss[i]?).map λp=>D.tup [.str p.1,.int p.2]
 | [],kss,e,i=>by cases e;rfl
 | d::l,kss,e,i=>by
  obtain⟨p,ep,e⟩:=yR e;obtain⟨js,e1,rfl⟩:=yA e
  induction i with
  | zero=>exact congrArg some (agb ep)
  | succ i=>exact qb e1 i
theorem aih(g:Gl)(A:Around)(p:Ptx g)(v:Value)(x:D)(n:Nat)(hA:A.handled=none)(hu:A.units+gc<cLine)(r:p.R v x)(e:aff p.J x=some n):dm g A p (call (.type "set") [v]) (.set n):=dm.at λQ hQ=>by
 cases x<;>w_pre e;obtain⟨a,rfl,ma⟩:=r;refine u6 (J:=p.J) (r:=n) (F:=λl=>match mn l with
  | some ks=>if ks.Nodup/\l.length<=64 then some l.length else none
  | none=>none) e λl el e=> ?_
 generalize ek:mn l=y at e;rcases y with _ | kss
 ·exact nS e rfl
 obtain⟨hz,e⟩:=iS e;subst e;refine p.ls el ma λvs k ho r'=> ?_;have hlen:=r'.length;have hp:=p.st.hP;have hkl:kss.length=l.length:=by
  apply Nat.le_antisymm
  ·apply Classical.byContradiction;intro hn;have:=qb ek l.length;rw[List.getElem?_eq_none (yE _),yC (by exact(ar2 zAL) (Nat.lt_of_not_le hn))] at this;simp at this
  ·apply Classical.byContradiction;intro hn;have:=qb ek kss.length;rw[List.getElem?_eq_none (l:=kss) (yE _),yC (by exact(ar2 zAL) (Nat.lt_of_not_le hn))] at this;simp at this
 have K:adg g.prog g.w p.s.heap vs (λi=>match kss[i]? with | some p=> [.inl p.1,.inr p.2] | none=> []):=by
  refine⟨λi u hi=> ?_,λi j hi hj hij hk=> ?_⟩
  ·have hil:i<l.length:=by
    rw[<-hlen,yF];exact(Array.getElem?_eq_some_iff.mp hi).1
   have hki:i<kss.length:=by exact(ar3 0x1114615615443) hkl hil
   have hd:=qb ek i;rw[yC hki] at hd;obtain⟨u',hu1,hr⟩:=r'.get i _ hd;rw[Array.getElem?_toList,hi] at hu1;cases hu1;obtain⟨b,ws,rfl,⟨o,hob,hc,m,hdd⟩,rr⟩:=hr.qL;obtain⟨u1,w1,e1,q1,rr1⟩:=rr.inv;obtain⟨u2,w2,e2,q2,rr2⟩:=rr1.inv;have e3:=rr2.inv0;subst e2;subst e3;obtain⟨t1,rfl⟩:=q1.wA;obtain⟨t2,rfl⟩:=q2.qM;refine⟨b,rfl,o,ws,m,hob,hc,hdd,?_⟩;rw[e1,yC hki];refine .cons ?_ (.cons ?_ .nil)
   ·show Value.isStrOf kss[i].1 (.str kss[i].1 t1)=true;simp[Value.isStrOf]
   ·show Value.isInt kss[i].2 (.int kss[i].2 t2)=true;simp[Value.isInt]
  ·have hsz:vs.size=kss.length:=by rw[hkl,<-hlen,yF]
   try dsimp only at hk
   rw[yC (by exact(ar3 0x1116416525413) hi hsz),yC (by exact(ar3 0x1116416525413) hj hsz)] at hk;have h1:kss[i]=kss[j]:=by
    simp at hk;exact Prod.ext hk.1 hk.2
   exact hij ((List.getElem_inj hz.1).mp h1)
 refine zh hA (by unfold gc at hu;exact(ar2 0x1152822401540224012) hu) (ai ho) K (by have:=hz.2;rw[<-yF,hlen];exact this) λh' tk hS hk=> ?_;obtain⟨es,ep,t,hg,hm,hd,hpl,hlt,hsz,_⟩:=hS.o;have hsl:es.size=l.length:=by rw[hsz,<-yF,hlen]
 have h64:=hz.2;exact hQ _ _ tk hk (cv _) (yN hp) ⟨es,ep,t,hg,hsl,fits_of hd hpl (art hlt),by exact(ar1 0x11100042404022402) h64⟩
end
section
open PySem PyProof.Rows
section
variable{prog:Program}{w:World}{A:Around}{E:Value->Shared->Prop}{s:Shared}
theorem agd:typeLookup (.type "list") (so "keys")=pure none:=am_miss_of_fast (by k_go)
theorem age{a:Addr}{xs:Array Value}{k:Nat}{Q:Option Value->Shared->Prop}(hx:s.heap.get? a=some {cls:=.type "list",data:=.seq xs k})(hA:A.handled=none)
  (h:∀h' tk,(∀b o,s.heap.get? b=some o->h'.get? b=some o)->Q none {s with heap:=h',toks:=tk}):wpAny (model prog w) A (getAttr? (.ref a) (so "keys")) Q E s:=by
 obtain⟨hp,g,d,tk,os⟩:=s;have hT:∀tk',(⟨hp,g,d,tk',os⟩:Shared).TypeIs (.ref a) "list":=λY=>⟨_,hx,rfl⟩
 have f1:=sub_AttributeError;have f3:=PySem.F.slot_list_getattribute.lookup;have f4:=PySem.F.slot_list_getattribute.bind (.ref a);have f5:=am_list_getattr_none;unfold getAttr? getAttrBy? getAttrBy;repeat (any_goals (first | assumption | exact hT _ | ((with_reducible show wpAny _ _ (call (Value.builtin "list.__getattribute__") _ _) _ _ _);refine call_meets PySem.F.slot_list_getattribute (hT _) am_entry_list_getattribute (PySem.F.args_list_getattribute_2 _ _) (meets_getattribute_miss_list a xs k #[] (so "keys") _ agd (by decide+kernel) (by rw[sizeLine_eq];decide+kernel)) ⟨hx,hA,λh' tk' e hx'=> ?_⟩) | wp_step))
 obtain⟨t',u',he⟩:=hx'.there;have hTe:∀tk',(⟨h',g,d,tk',os⟩:Shared).TypeIs (.ref e) "AttributeError":=λY=>⟨_,he,rfl⟩
 show wpAny _ _ (getattributeRaised _ _ _ _ _ _ _) _ _ _;unfold getattributeRaised;repeat (any_goals (first | assumption | exact hTe _ | wp_step))
 exact h _ _ hx'.keeps
end
end
section
open PySem PySem.W PyProof.Rows
theorem x8:entryFor table "dict.update.loop"=some Builtin.«dict.update.loop»:=entryFor_of_tree (by k_go)
theorem mz:plainId "dict.update.loop"=true:=by decide+kernel
section
variable{prog:Program}{w:World}{A:Around}{R:Result->Shared->Prop}
theorem pair_items{E:Value->Shared->Prop}{s:Shared}{a:Addr}{vs:Array Value}{Q:List Value->Shared->Prop}(ht:s.heap.IsTuple a vs)(h:Q vs.toList s):wpAny (model prog w) A (Builtin.Dict.pairItems (.ref a)) Q E s:=by
 obtain⟨o,ho,hc,n,hd⟩:=ht;have hT:s.TypeIs (.ref a) "tuple":=⟨o,ho,hc⟩
 unfold Builtin.Dict.pairItems;refine yH (wpAny_typeOf hT ?_);rw[if_pos (by decide)];refine yH (wpAny_seqItems ho hd ?_);exact yI h
theorem agf{I l D:Addr}{items:Array Value}{mu:List Addr}{ds:List Internal.D}{es:List (Int×Internal.D)}(W:WalksS prog w A.in1 I [I,l] [I] (λa b=>b=a) items.size (λi v=>items[i]?=some v) (λi s=>s.heap.IsListIter I l i/\s.heap.IsList l items))(hS1:D≠I)(hS2:D≠l)(hn:items.size<=8):
  ∀(d i:Nat) (s:Shared) (z:Int) (kvs:List (Int×Value)) (es':List (Int×Internal.D)),items.size - i=d->i<=items.size->(s.heap.IsListIter I l i/\s.heap.IsList l items)->av s.heap mu items.toList ds->s.heap.DictOf (intKind prog w) D kvs->KV s.heap mu kvs es'->kvs.length<=i->t6 (ds.drop i) es'=some es->
   (∀s' kvs',Moved [D,I] (λa b=>b=a) s s'->s'.heap.DictOf (intKind prog w) D kvs'->KV s'.heap mu kvs' es->R (.ok (.ret .none)) s')->
   codeAny (model prog w) A (.builtin "dict.update.loop" ⟨[.ref D,.ref I,.int z 0,.none],[]⟩) R s:=by
 have hsub:∀b∈ [I],b∈ [D,I]:=λb hb=>by simp at hb;simp[hb]
 have hIt:∀{s:Shared} {i:Nat},s.heap.IsListIter I l i->∀o,s.heap.get? I=some o->¬isTup o:=λ{s i} h o e t=>by
  obtain⟨o',e',hc,_⟩:=h;rw[e] at e';cases e';have:=t.1;rw[hc] at this;exact absurd this (by decide)
 intro d
 induction d with
 | zero=>
  intro i s z kvs es' hk hi hst rl hD hkv hle hpi hR;have hin:i=items.size:=by exact(ar3 0x110110106525406065001444) hk hi aT
  subst hin;have hdl:ds.length=items.size:=by rw[<-rl.length,yF]
  rw[<-hdl,List.drop_length] at hpi;cases hpi;refine codeAny_builtin x8 ?_;rw[Around.under_plainId mz _];show wpAny _ A.in1 (pyNext (.ref I)>>=_) _ _ s;refine yH (W.done s _ _ hst λs' hm=> ?_);show wpAny _ A.in1 (Builtin.Dict.addKeywords D [] >>=_) _ _ s';refine yH (yI ?_);refine yI (hR s' kvs (hm.mono hsub) ?_ (hkv.keep λb o e t=>hm.heap b o (λhb=>hIt hst.1 o (by simp at hb;rw[<-hb];exact e) t) e));obtain⟨o,es,ep,ho,r⟩:=hD;exact⟨o,es,ep,hm.heap D _ (by simpa using hS1) ho,r⟩
 | succ d ih=>
  intro i s z kvs es' hk hi hst rl hD hkv hle hpi hR;have hlt:i<items.size:=by exact(mS (λq1=>(yX ((ar2 zBO) hk q1))) (λq2=>((ar4 0x111761764021150443) hk q2)))
  refine codeAny_builtin x8 ?_;rw[Around.under_plainId mz _];show wpAny _ A.in1 (pyNext (.ref I)>>=_) _ _ s;refine yH (W.item i s _ _ hlt hst λv s' hP hst' hm=> ?_);have tk:bv s.heap s'.heap:=λb o e t=>hm.heap b o (λhb=>hIt hst.1 o (by simp at hb;rw[<-hb];exact e) t) e;have rl':=rl.keep tk;have hkv':=hkv.keep tk;have hD':s'.heap.DictOf (intKind prog w) D kvs:=by
   obtain⟨o,es,ep,ho,r⟩:=hD;exact⟨o,es,ep,hm.heap D _ (by simpa using hS1) ho,r⟩
  have hdl:ds.length=items.size:=by rw[<-rl.length,yF]
  have hdi:i<ds.length:=by exact(ar3 zBP) hlt hdl
  rw[List.drop_eq_getElem_cons hdi] at hpi;obtain⟨v',hv1,rv⟩:=rl'.get i _ (yC hdi);rw[Array.getElem?_toList,hP] at hv1;cases hv1;generalize ds[i]=x at hpi rv;obtain⟨⟨k0,v0⟩,z1,hpi⟩:=yR hpi
  ·cases agc z1;obtain⟨b,ws,rfl,ht,rr⟩:=rv.qL;obtain⟨u1,w1,e1,q1,rr1⟩:=rr.inv;obtain⟨u2,w2,e2,q2,rr2⟩:=rr1.inv;have e3:=rr2.inv0;subst e2;subst e3;obtain⟨t1,rfl⟩:=q1.qM;show wpAny _ A.in1 (holding [Value.ref b] _>>=_) _ _ s';refine yH (wpAny_holding ?_);refine yH (wpAny_tryCatch (pair_items ht ?_));rw[e1];dsimp only;refine wpAny_holding (wpAny_dictSet_pairs (knd:=intKind prog w) (k:=k0) (show Value.isInt k0 (Value.int k0 t1)=true by simp[Value.isInt]) hD' (λh' hD2 hsb=> ?_) (by rw[sizeLine_eq];exact(ar4 0x111111000000725076147265081405) hn hle hdl hdi));have hDo:∀o,s'.heap.get? D=some o->¬isTup o:=λo e t=>by
    obtain⟨o',es,ep,ho,hc,hdd,_⟩:=hD';rw[e] at ho;cases ho;have:=t.1;rw[hc.1] at this;exact absurd this (by decide)
   have tk2:bv s'.heap h':=λc o e t=>by
    rw[hsb.2 c (λh=>hDo o (h▸e) t)];exact e
   refine yI ⟨plainId_quiet mz _,ih (i+1) _ (z+1) _ _ ((mS (λq1=>(mS (λq2=>(yX ((ar2 zBO) hk q2))) (λq3=>((ar5 zCV) hk q1 q3 aT)))) (λq4=>((ar5 0x1111111156287404811706021150424) hk q4 (aC ((ar3 0x11650611504022) q4)))))) hlt (W.frame _ s' _ _ hst' (Nat.le_succ _) λc hc o e=> ?_) (rl'.keep tk2) hD2 ((hkv'.keep tk2).put k0 (q2.keep tk2)) ?_ hpi λs'' kvs'' hm'' hD'' hK''=> ?_⟩
   ·rw[hsb.2 c (λh=>by subst h;simp at hc;rcases hc with h | h;exact hS1 h;exact hS2 h)];exact e
   ·have:(stored kvs k0 u2).length<=kvs.length+1:=by unfold stored;split<;>simp
    exact(ar3 0x1111150601140605403) hle this
   ·refine hR s'' kvs'' (Moved.trans (λY Z U h1 h2=>h2.trans h1) ((hm.mono hsub).then_heap (Nat.le_succ _) λc o hc e=> ?_) hm'') hD'' hK'';rw[hsb.2 c (λh=>hc (by simp[h]))];exact e
end
theorem agg(g:Gl)(A:Around)(p:Ptx g)(v:Value)(x:Internal.D)(l:List (Int×Internal.D))(hA:A.handled=none)(hu:A.units+gc<cLine)(r:p.R v x)(e:xf p.J x=some l):dm g A p (call (.type "dict") [v]) (.dictI l):=dm.at λQ hQ=>by
 cases x<;>w_pre e;obtain⟨a,rfl,ma⟩:=r;refine u6 (J:=p.J) (r:=l) (F:=λl=>if l.length<=8 then t6 l [] else none) e λl' el e=> ?_;obtain⟨hz,e⟩:=iN e;refine p.ls el ma λvs k ho r'=> ?_;have hlen:=r'.length;rw[yF] at hlen;have hp:=p.st.hP;have hal:=Heap.lt_size ho;refine callType_codes (Q₁:=λobj s₁=>obj=.ref p.s.heap.objs.size/\s₁={p.s with heap:=p.s.heap.push {cls:=.type "dict",data:=.dict #[]}}) PySem.F.kt_called_dict (PySem.F.kt_typeCall_dict_1 _) PySem.F.entry_dict_init (kt_code_dict_new _ ⟨rfl,rfl⟩) ?_;rintro obj s₁ ⟨rfl,rfl⟩;have hnew:(p.s.heap.push {cls:=.type "dict",data:=.dict #[]}).DictOf (intKind g.prog g.w) p.s.heap.objs.size []:=Heap.DictOf.new p.s.heap;have ho':(p.s.heap.push {cls:=.type "dict",data:=.dict #[]}).get? a=some (listOf vs k):=yT _ ho;refine⟨hnew.typeIs,PySem.F.args_dict_init_2 _ _,?_⟩;unfold Builtin.«dict.__init__»;refine yH ?_;unfold Builtin.Dict.selfAndRest;refine yH (wpAny_notOrdered_dict hnew.typeIs ?_);show wpAny _ _ (pure (p.s.heap.objs.size,[Value.ref a])) _ _ _;refine yI ?_;show wpAny _ _ (Builtin.Dict.updateFrom "dict.__init__" p.s.heap.objs.size (.ref a) [] .none) _ _ _;unfold Builtin.Dict.updateFrom;refine yH (wpAny_typeOf (T:="list") ⟨_,ho',rfl⟩ ?_);rw[if_pos (by decide)];refine yH (age ho' (by simp[hA]) λh1 tk1 hk1=> ?_);rw[if_pos (show(none:Option Value).isNone=true from rfl)];refine yH (wpAny_rule ?_);have ho1:=hk1 _ _ ho';have hl1:h1.IsList a vs:=ai ho1;refine yH (wpAny_pyIter_list hl1 ?_);have hal1:a<h1.objs.size:=Heap.lt_size ho1;have hDs:p.s.heap.objs.size<h1.objs.size:=Heap.lt_size (hk1 _ _ (Heap.get?_push_size _ rfl));refine yI ⟨plainId_quiet mz _,?_⟩;have kk:∀b o,p.s.heap.get? b=some o->(h1.push {cls:=.type "list_iterator",data:=.fields #[.ref a,.int 0 0]}).get? b=some o:=λb o e=>yT _ (hk1 b o (yT _ e));refine agf (ds:=l') (es:=l) (mu:=p.mu) ((Walks.list (by simp[hA]) _ a (yO hal1) vs).toS) (yO hDs) (yN hal) ((ar2 0x111815045281403) hz hlen) (vs.size - 0) 0 _ 0 [] [] ((ar1 0x114421)) (Nat.zero_le _) ⟨⟨_,Heap.get?_push_size _ rfl,rfl,rfl⟩,hl1.push _⟩ (r'.keep λb o e Y=>kk b o e) ?_ .nil (by simp) (by simpa using e) λs' kvs' hm hD hK=> ?_
 ·obtain⟨o,es,ep,hg,r2⟩:=hnew;exact⟨o,es,ep,yT _ (hk1 _ _ hg),r2⟩
 ·obtain⟨h',g',d',tk',os'⟩:=s';have eg:g'=p.s.gens:=hm.gens;have ed:d'=p.s.drawn:=hm.drawn;have eo:os'=p.s.os:=hm.os;subst eg;subst ed;subst eo;refine⟨rfl,?_⟩;have kf:∀b o,p.s.heap.get? b=some o->h'.get? b=some o:=λb o e=>by
   have hbs:=Heap.lt_size e;refine hm.heap b o ?_ (kk b o e);simp only[List.mem_cons,List.not_mem_nil,or_false,not_or];exact⟨yO hbs,yO (Nat.lt_trans hbs hDs)⟩
  exact hQ _ _ tk' kf (cv _) (yN hp) ⟨kvs',hD,hK.mono (t:=[_]) (λY Z e U=>e)⟩
theorem aii:mroOf (.type "frozenset")=pure [.type "frozenset",.type "object"]:=by rw[mroOf_type];k_go
theorem aon:typeLookup (.type "frozenset") "__new__"=pure (some (.builtin "frozenset.__new__")):=by rw[typeLookup_type,builtinLookup_eq_fast];k_go
theorem aen:Slot "frozenset" "__init__" "object.__init__":=
 .of (owner:="object") (n:="__init__") (by rw[typeLookup_type,builtinLookup_eq_fast];k_go) (by decide+kernel) (by decide+kernel) (by decide+kernel) (by first | exact .inl (by decide+kernel) | exact .inr (by decide+kernel)) (by rw[isSubtype_type];k_go)
theorem rm:TypeCalled "frozenset" "frozenset.__new__" "object.__init__":=
 ⟨by decide+kernel,by decide+kernel,⟨_,_,aii⟩,madeBy_type aii aon (by decide+kernel),by decide+kernel,by rw[isSubtype_type];k_go,aen⟩
theorem ab0(a:Value):checkTypeCall "frozenset" ⟨[a],[]⟩=pure ():=by k_go
theorem adh(a:Value):checkBuiltinCall "frozenset.__new__" ⟨[.type "frozenset",a],[]⟩=pure ():=by k_go
theorem aij:entryFor table "frozenset.__new__"=some Builtin.«frozenset.__new__»:=entryFor_of_tree (by k_go)
theorem aik:plainId "frozenset.__new__"=true:=by decide+kernel
theorem aoo:isSubtype (.type "frozenset") (.type "frozenset")=pure true:=by rw[isSubtype_type];k_go
theorem ail:isSubtype (.type "dict") (.type "set")=pure false:=by rw[isSubtype_type];k_go
theorem aim:isSubtype (.type "dict") (.type "frozenset")=pure false:=by rw[isSubtype_type];k_go
theorem ak9(led:Bool)(h:Int)(x:Value):∃t1,layNew (SetTable.fresh 0 0 led) #[] h x=(#[(h,x)],t1,false,false)/\t1.fits 1=true/\t1.plain=true/\t1.tooFull=false:=by
 have hs:∀j,(SetTable.fresh 0 0 led).slot j=.empty:=λj=>rfl;have hf:(SetTable.fresh 0 0 led).freeSlot h=some (SetTable.bits h%8,false):=by
  unfold SetTable.freeSlot SetTable.probe;have:∀F p,SetTable.probe.go (SetTable.fresh 0 0 led) (λY=>h+1) h (F+1) p=some (.empty p.j p.dummy):=λF p=>rfl;rw[show 10*SetTable.turns (SetTable.fresh 0 0 led).mask=219+1 by rfl,this];rfl
 refine⟨((SetTable.fresh 0 0 led).put (SetTable.bits h%8)).1,?_,?_,rfl,?_⟩
 ·unfold layNew;rw[hf];rfl
 ·rfl
 ·rfl
section
variable{prog:Program}{w:World}{A:Around}{E:Value->Shared->Prop}{s:Shared}
theorem ala{a:Addr}{o:Obj}{ep:Nat}{led:Bool}{i:Int}{u:Tok}{h:Int}{Q:Bool->Shared->Prop}(ho:s.heap.get? a=some o)(hd:o.data=.set #[] ep (SetTable.fresh 0 0 led))
  (q:∀h' t1,Heap.SameBut a s.heap h'->h'.get? a=some {o with data:=.set #[(h,.int i u)] (ep+1) t1}->t1.fits 1=true->Q true {s with heap:=h'}):wpAny (model prog w) A (setAddHashed a (.int i u) h) Q E s:=by
 obtain⟨t1,e1,f1,f2,f3⟩:=ak9 led h (.int i u);unfold setAddHashed setAddHashedIn;refine wpAny_holding (yH (wpAny_setState_of ho hd rfl ?_));dsimp only;rw[if_pos (show byScan _ #[]=true by k_go)];unfold setAddByScan;refine yH ?_;refine yH (wpAny_rule ?_);refine yH (m:=setScan _ _ _ _ _) (yI ?_);dsimp only;rw[e1];dsimp only;refine yH (yI ?_);rw[if_pos f2];refine yH ?_;rw[hashByValue_scannable 8 rfl];refine yI ?_;rw[show plainKind (Value.int i u)=true from rfl,if_pos rfl];refine yH (wpAny_storeSet_of ho hd ?_ (by rw[sizeLine_eq];simp));rw[if_neg (by rw[f3];decide)];refine yI (yI ?_);have hg:=Heap.get?_update_self (Obj.putSet #[(h,.int i u)] t1) ho (by rw[putSet_of _ _ hd];rfl);rw[putSet_of _ _ hd] at hg;exact q _ t1 (Heap.SameBut.update _ _ _) hg f1
theorem alb{d:Addr}{od:Obj}{e:DictEntry}{ep:Nat}{i:Int}{u:Tok}{Q₁:Value->Shared->Prop}(hd:s.heap.get? d=some od)(hc:od.cls=.type "dict")(hda:od.data=.dict #[e] ep)(hk:e.key=.int i u)(hs:(d==sysModules)=false)
  (q:∀h' t1 ep',(∀b o,s.heap.get? b=some o->h'.get? b=some o)->h'.get? s.heap.objs.size=some {cls:=.type "frozenset",data:=.set #[(e.hash,.int i u)] ep' t1}->t1.fits 1=true->Q₁ (.ref s.heap.objs.size) {s with heap:=h'}):
  codeAny (model prog w) A (.call (.builtin "frozenset.__new__") ⟨[.type "frozenset",.ref d],[]⟩) (wants Q₁ E) s:=by
 refine codeAny_call_builtin aik aij (wpAny_of_eq (adh _) ?_);have hsub:=aoo;have hinit:=aen.lookup;have h1:=ail;have h2:=aim;have hT:s.TypeIs (.ref d) "dict":=⟨_,hd,hc⟩
 unfold Builtin.«frozenset.__new__» Builtin.Frozenset.newClass;obtain⟨hp,g,dr,tk,os⟩:=s;generalize hNF:Builtin.Frozenset.newFrom=NF
 wp_walk
 subst hNF;unfold Builtin.Frozenset.newFrom PySem.newSet setsByText;refine yH (yH (yH (wpAny_askSetting (yI ?_))));dsimp only;simp only[newObj];refine yH (wpAny_alloc (yI ?_));dsimp only;refine yH (m:=Builtin.Frozenset.addrOf _) (yI ?_);refine yH (wpAny_holding ?_);generalize (!(model prog w).w.params.followText "set-order")=led;have hd1:(hp.push {cls:=.type "frozenset",data:=.set #[] 0 (SetTable.fresh 0 0 led)}).get? d=some od:=yT _ hd;have hS1:(hp.push {cls:=.type "frozenset",data:=.set #[] 0 (SetTable.fresh 0 0 led)}).get? hp.objs.size=some {cls:=.type "frozenset",data:=.set #[] 0 (SetTable.fresh 0 0 led)}:=Heap.get?_push_size _ rfl;have hT1:Shared.TypeIs ⟨hp.push {cls:=.type "frozenset",data:=.set #[] 0 (SetTable.fresh 0 0 led)},g,dr,tk,os⟩ (.ref d) "dict":=⟨_,hd1,hc⟩
 have hdl:=Heap.lt_size hd;unfold Builtin.Frozenset.updateFrom Builtin.Frozenset.isAnySet;refine yH (yH (wpAny_isInstance hT1 ail ?_));refine wpAny_isInstance hT1 aim ?_;rw[if_neg (by decide)];refine yH (wpAny_typeOf hT1 ?_);rw[if_pos (by decide)];refine yH (wpAny_rule ?_);refine yH (m:=Builtin.Frozenset.addrOf _) (yI ?_);dsimp only;rw[if_neg (by rw[hs];decide)];refine yH (wpAny_dictEpoch hd1 hda ?_);refine yH (wpAny_dictEntries hd1 hda ?_);refine yH ?_;unfold setRoomFor;refine yH (wpAny_setState_of hS1 rfl rfl ?_);refine yI ?_;refine yH (wpAny_dictEntries hd1 hda ?_);refine yH ?_;rw[Std.Legacy.Range.forIn_eq_forIn_range'];rw[show List.range' (Std.Legacy.Range.start [:(#[e]:Array DictEntry).size]) (Std.Legacy.Range.size [:(#[e]:Array DictEntry).size]) (Std.Legacy.Range.step [:(#[e]:Array DictEntry).size])=[0] by k_go];rw[List.forIn_cons];refine yH (yH (wpAny_dictEntries hd1 hda ?_));rw[show(#[e]:Array DictEntry)[0]?=some e from rfl];dsimp only;rw[hk];refine yH (wpAny_holding (ala hS1 rfl λh' t1 hsb hg hf=> ?_));refine yH (wpAny_dictEpoch (by rw[hsb.2 d (yO hdl)];exact hd1) hda ?_);rw[if_neg (by simp)];refine yI ?_;dsimp only;rw[List.forIn_nil];refine yI (yI (yI (yI (q h' t1 _ (λb o e=> ?_) hg hf))));rw[hsb.2 b (yO (Heap.lt_size e))];exact yT _ e
end
theorem agh(g:Gl)(F:Fit g)(A:Around)(p:Ptx g)(v:Value)(x:Internal.D)(i:Int)(hA:A.handled=none)(hu:A.units+gc<cLine)(r:p.R v x)(e:xg p.J x=some i):dm g A p (call (.type "frozenset") [v]) (.fset [i]):=dm.at λQ hQ=>by
 cases x<;>w_pre e;obtain⟨a,rfl,ma⟩:=r;unfold xg at e;dsimp only at e;rcases el:p.J[n]? with _ | x<;>rw[el] at e
 ·exact nS e rfl
 cases x<;>w_pre e;rcases es with _ | ⟨⟨i',d0⟩,_ | ⟨_,_⟩⟩<;>w_pre e;cases e;obtain⟨kvs,⟨od,es,ep,hg,hx,hda,hke,hpr,_⟩,hkv⟩:=p.st.cell _ _ a el ma;obtain⟨v0,w,rfl,_,r1⟩:=hkv;cases(show w=[] from r1);obtain⟨e0,hes,hik⟩:∃e0,es=#[e0]/\(intKind g.prog g.w).is i e0.key=true:=by
  obtain⟨es⟩:=es;cases hpr with
  | cons h1 _ h3=>cases h3;exact⟨_,rfl,h1⟩
 subst hes;obtain⟨u,hu⟩:=Value.isInt_shape hik;obtain⟨k',hk',hh'⟩:=hke e0 (by simp);have hkk:k'=i:=by
  rw[hu] at hk';obtain⟨t',ht'⟩:=Value.isInt_shape (show Value.isInt k' (.int i u)=true from hk');injection ht' with h;exact h.symm
 subst hkk;have hp:=p.st.hP;have hsys:(a==sysModules)=false:=by
  obtain⟨o,ho⟩:=F.sys;have hn:=(p.st.new a (List.mem_of_getElem? ma)).1;rw[beq_eq_false_iff_ne];rintro rfl;rw[ho] at hn;cases hn
 refine callType_codes (Q₁:=λobj s₁=>s₁.TypeIs obj "frozenset"/\Q obj s₁) rm (ab0 _) PySem.F.entry_object_init (alb hg hx.1 hda hu hsys λh' t1 ep' hk hg' hf=> ?_) λobj s₁ h₁=> ?_
 ·refine⟨⟨_,hg',rfl⟩,?_⟩;have hcell:i5 g h' (p.mu++ [p.s.heap.objs.size]) p.s.heap.objs.size (.fset [k']):=by
   refine⟨_,_,_,hg',λe he=> ?_,λk=>⟨λh=> ?_,λh=> ?_⟩,rfl,hf,by simp⟩
   ·have he':e=(e0.hash,Value.int k' u):=yG he;subst he';exact⟨⟨k',show Value.isInt k' (Value.int k' u)=true by simp[Value.isInt],hh'⟩,rfl⟩
   ·have:k=k':=by simpa using h
    subst this;exact⟨_,List.mem_singleton.mpr rfl,show Value.isInt k (Value.int k u)=true by simp[Value.isInt]⟩
   ·obtain⟨e,he,hk2⟩:=h;have he':e=(e0.hash,Value.int k' u):=yG he;subst he';obtain⟨t',ht'⟩:=Value.isInt_shape (show Value.isInt k (.int k' u)=true from hk2);injection ht' with h;simp[h]
  exact hQ _ _ p.s.toks hk (cv _) (yN hp) hcell
 ·exact⟨h₁.1,PySem.F.args_object_init_2 obj _,object_init_meets rm.init.lookup rm.made (by decide) g.prog g.w A.in1 _ s₁ ⟨h₁.1,rfl,h₁.2⟩⟩
theorem hard(g:Gl)(F:Fit g):aog g where
 sorted:=abu g
 dict:=agg g
 fset:=agh g F
 set:=aih g
section
noncomputable abbrev pw:Program:=PySem.Challenge.pw_xw0042_01
noncomputable def nth:List Stmt->Nat->Stmt
 | [],Y=> .Pass default
 | s::Y,0=>s
 | Y::r,n+1=>nth r n
noncomputable def fB(s:Stmt):List Stmt:=if h:s.ctorIdx=0 then Stmt.FunctionDef.elim (motive_2:=λY=>_) s h λY Z b U V N O H G I=>b
 else if h:s.ctorIdx=2 then Stmt.ClassDef.elim (motive_2:=λY=>_) s h λY Z U b V N O H G I R=>b else []
noncomputable def fA(s:Stmt):Arguments:=if h:s.ctorIdx=0 then Stmt.FunctionDef.elim (motive_2:=λY=>_) s h λY a Z U V N O H G I=>a else default
noncomputable def fS(s:Stmt):Scope:=if h:s.ctorIdx=0 then Stmt.FunctionDef.elim (motive_2:=λY=>_) s h λY Z U V N O s H G I=>s else default
noncomputable abbrev st(i:Nat):Stmt:=nth pw.main.body i
noncomputable abbrev su(i j:Nat):Stmt:=nth (fB (st i)) j
noncomputable abbrev vs(s:String)(t:Nat):Value:=.str (Str.ofString s) t
noncomputable abbrev vr(a:Nat):Value:=.ref a
noncomputable abbrev vi(i:Int)(t:Nat):Value:=.int i t
noncomputable abbrev de(P:Params)(s:String)(t:Nat)(v:Value):DictEntry:=⟨PyData.keyHash P (Str.ofString s),.str (Str.ofString s) t,v⟩
noncomputable abbrev nd:=BT.node
noncomputable abbrev nl:=BT.nil
noncomputable abbrev vb(s:String):Value:=.builtin s
noncomputable abbrev vt(s:String):Value:=.type s
noncomputable def tu(l:List Value):Obj:=⟨.type "tuple",none,.seq l.toArray 0,#[]⟩
noncomputable def E0:Obj:=⟨.type "tuple",none,.seq #[] 0,#[]⟩
noncomputable def F0:Obj:=⟨.none,none,.fields #[],#[]⟩
noncomputable def fl(l:List Value):Obj:=⟨.none,none,.fields l.toArray,#[]⟩
noncomputable def fd(s:String)(l:List Value):Obj:=⟨.type s,none,.fields l.toArray,#[]⟩
noncomputable def tr:List Nat->List Value
 | a::b::c::r=>vi a 0::vi b 0::vr c::tr r
 | Y=> []
noncomputable def tb(l:List Nat):Obj:=fl (tr l)
noncomputable def dd(l:List DictEntry)(n:Nat):Obj:=⟨.type "dict",none,.dict l.toArray n,#[]⟩
noncomputable def dn(l:List DictEntry)(n:Nat):Obj:=⟨.none,none,.dict l.toArray n,#[]⟩
noncomputable def cx(n q:String)(t:Nat)(l b c:Int)(r:Nat)(y:Bool)(u:Nat)(x1 x2 x3:Value):Obj:=fd "code" [vs n t,vs q (t+1),vs "/claim/cut.py" (t+2),vi l 0,vi b 0,vi 0 0,vi 0 0,vi c 0,vr r,.bool y,vi 181 0,vr (r+1),.none,x1,x2,x3,vi u 0,vi l 0,vs "/claim/cut.py" (u+1)]
noncomputable def ca(n q:String)(t:Nat)(l b:Int)(r u:Nat):Obj:=cx n q t l b 3 r true u (vr (r+2)) (vr (r+3)) (vr (r+4))
noncomputable def cA(n:String)(t:Nat)(l b:Int)(r u:Nat):Obj:=ca n n t l b r u
noncomputable def cb(n q:String)(t:Nat)(l b:Int)(r u:Nat):Obj:=cx n q t l b 3 r true u .none .none (vr (r+2))
noncomputable def cB(n:String)(t:Nat)(l b:Int)(r u:Nat):Obj:=cb n n t l b r u
noncomputable def cc(n q:String)(t:Nat)(l:Int)(r u:Nat):Obj:=cx n q t l 0 0 r false u .none .none .none
noncomputable def fx(c:Value)(s:Stmt)(n q:String)(g:Nat)(dv md co:Value):Obj:=⟨c,none,.func (.mk (so n) (so q) (fA s) (.stmts (fB s)) (fS s) g [] dv .none .none md none co .none 0),#[]⟩
noncomputable def ft(i:Nat)(n:String):Obj:=fx .none (st i) n n 0 .none .none .none
noncomputable def fu(i j:Nat)(n q:String):Obj:=fx .none (su i j) n q 0 .none .none .none
noncomputable def fn(i:Nat)(n:String)(md:Value)(c:Nat):Obj:=fx (vt "function") (st i) n n 3 .none md (vr c)
noncomputable def fm(i j:Nat)(n q:String)(dv md:Value)(c:Nat):Obj:=fx (vt "function") (su i j) n q 3 dv md (vr c)
noncomputable def od:List Obj->List Obj
 | x::Y::r=>x::od r
 | l=>l
noncomputable def bt:Nat->List Obj->BT
 | n+1,x::r=> .node x (bt n (od r)) (bt n (od r.tail))
 | Y,Z=> .nil
noncomputable def en:Nat->List Obj->Frag
 | n,x::r=>(n,x)::en (n+1) r
 | Y,[]=> []
noncomputable def dz(P:Params)(l:List (String×Nat×Nat)):List DictEntry:=l.map λx=>de P x.1 x.2.1 (vr x.2.2)
noncomputable def md(P:Params)(u:Value)(v:Nat):List DictEntry:=List.flatten [[de P "__name__" 165 u,de P "__doc__" 166 .none,de P "__package__" 167 .none,de P "__loader__" 168 (vb "__main__.__loader__#opaque"),de P "__spec__" 169 .none,de P "__annotations__" 170 (vr 6),de P "__builtins__" 171 (vr 4),de P "__file__" 173 (vs "/claim/cut.py" 172),de P "__cached__" 174 .none],dz P [("_wall",193,21),("ChanError",227,39),("NameFault",243,52),("TypeFault",259,64),("RUNTIME_ERROR",262,67),("underlying_of",272,74),("zero_value",278,79),("INT_lower_calls",283,80),("BOOL_lower_calls",285,81),("SYNCS",291,82),("result_types",298,89),("called_of",307,96),("call_values",313,101),("builtin_values",319,106),("builtin_with",329,113),("builtin_deed",335,118)],[de P "made_value" 346 (vr v)],dz P [("made_value_lower_calls",347,125),("chosen_value",362,132),("base_kind",372,139),("is_in_memory",381,146),("global_pointer",388,153),("way_to",398,160),("pointer_along",411,167),("address_of",420,174),("ask_pointer",432,181),("new_variable",442,188),("load_place",451,195),("BOOL_lower_exprs",455,196),("INT_lower_exprs",458,197),("READ",463,198),("PAIRS",467,199),("value_of",476,206),("values_of",484,213),("operands_of",490,218),("constant_of",498,225),("function_value",504,230),("worked_value",516,237),("lazy_value",527,244),("asked_values",540,251),("cut_value",546,256),("struct_operands",552,261),("made_value_lower_exprs",565,268),("slice_value",571,273),("table_value",577,278),("TypedFn",620,295),("PAIRED",626,300),("UNWRITTEN",637,301),("Code",702,338),("next_blocks",709,349),("blocks_reached",720,356),("led_elsewhere",728,363),("with_kept_blocks",742,370),("is_operand",749,377),("operands_within",755,382),("operands_read",764,389),("registers_written",770,394),("registers_of",776,399),("LowerState",1001,570),("PLAIN",1005,577),("NamedRow",1040,594),("known_rows",1053,605),("World",1118,637),("_law_i8",1123,642),("_law_int",1126,643),("_law_bool",1128,644),("_law_row",1133,646),("_law_pair",1140,652),("_law_any",1142,654),("_law_pool",1151,661),("_law_take",1160,668),("_law_one",1168,675),("_law_const",1175,682),("_law_number",1181,687),("_law_looked",1187,692),("_law_truth",1196,699),("_law_stop",1204,706),("_law_worked",1215,713),("_law_item",1224,720),("_law_worth",1230,725),("_law_read",1238,732),("_law_object",1246,739),("_law_done",1252,744),("_law_step",1266,751),("_law_walked",1272,756),("_law_is_right",1287,763),("law",1293,768)]]
noncomputable def ml:List Nat:=[1,0,20,5,0,27,11,0,48,13,0,60,17,0,73,19,0,78,36,0,88,38,0,95,43,0,100,49,0,105,51,0,112,67,0,117,81,0,124,92,0,131,103,0,138,105,0,145,114,0,152,116,0,159,131,0,166,136,0,173,143,0,180,150,0,187,155,0,194,169,0,205,190,0,212,200,0,217,202,0,224,208,0,229,217,0,236,232,0,243,244,0,250,259,0,255,264,0,260,271,0,267,284,0,272,292,0,277,299,0,284,312,0,307,332,0,348,338,0,355,347,0,362,353,0,369,363,0,376,367,0,381,379,0,388,384,0,393,392,0,398,396,0,405,500,0,583,507,0,604,516,0,611,561,0,660,565,0,667,572,0,674,574,0,681,576,0,686,599,0,691,603,0,698,614,0,705,618,0,712,628,0,719,630,0,724,675,0,731,677,0,738,680,0,743,703,0,750,723,0,755,737,0,762,749,0,767]
noncomputable def bs(P:Params)(f:String->Value):Nat->List String->List DictEntry
 | Y,[]=> []
 | n,s::r=>de P s n (f s)::bs P f (n+1) r
noncomputable def o0(P:Params):Obj:=dd (List.flatten [[de P "__name__" 1 (vs "builtins" 160),de P "__doc__" 2 (vb "builtins.__doc__:str#opaque"),de P "__package__" 3 (vb "builtins.__package__:str#opaque"),de P "__loader__" 4 (vb "builtins.__loader__:shared#opaque"),de P "__spec__" 5 (vb "builtins.__spec__#opaque")],bs P vb 6 ["__build_class__","__import__","abs","all","any","ascii","bin","breakpoint","callable","chr","compile","delattr","dir","divmod","eval","exec","format","getattr","globals","hasattr","hash","hex","id","input","isinstance","issubclass","iter","aiter","len","locals","max","min","next","anext","oct","ord","pow","print","repr","round","setattr","sorted","sum","vars"],[de P "None" 50 .none,de P "Ellipsis" 51 Value.ellipsis,de P "NotImplemented" 52 Value.notImplemented,de P "False" 53 (.bool false),de P "True" 54 (.bool true)],bs P vt 55 ["bool","memoryview","bytearray","bytes","classmethod","complex","dict","enumerate","filter","float","frozenset","property","int","list","map","object","range","reversed","set","slice","staticmethod","str","super","tuple","type","zip"],[de P "__debug__" 81 (.bool true)],bs P vt 82 ["BaseException","BaseExceptionGroup","Exception","GeneratorExit","KeyboardInterrupt","SystemExit","ArithmeticError","AssertionError","AttributeError","BufferError","EOFError","ImportError","LookupError","MemoryError","NameError","OSError","ReferenceError","RuntimeError","StopAsyncIteration","StopIteration","SyntaxError","SystemError","TypeError","ValueError","Warning","FloatingPointError","OverflowError","ZeroDivisionError","BytesWarning","DeprecationWarning","EncodingWarning","FutureWarning","ImportWarning","PendingDeprecationWarning","ResourceWarning","RuntimeWarning","SyntaxWarning","UnicodeWarning","UserWarning","BlockingIOError","ChildProcessError","ConnectionError","FileExistsError","FileNotFoundError","InterruptedError","IsADirectoryError","NotADirectoryError","PermissionError","ProcessLookupError","TimeoutError","IndentationError","_IncompleteInputError","IndexError","KeyError","ModuleNotFoundError","NotImplementedError","PythonFinalizationError","RecursionError","UnboundLocalError","UnicodeError","BrokenPipeError","ConnectionAbortedError","ConnectionRefusedError","ConnectionResetError","TabError","UnicodeDecodeError","UnicodeEncodeError","UnicodeTranslateError","ExceptionGroup"],[de P "EnvironmentError" 151 (vt "OSError"),de P "IOError" 152 (vt "OSError"),de P "open" 153 (vb "open"),de P "quit" 154 (vb "builtins.quit#opaque"),de P "exit" 155 (vb "builtins.exit#opaque"),de P "copyright" 156 (vb "builtins.copyright#opaque"),de P "credits" 157 (vb "builtins.credits#opaque"),de P "license" 158 (vb "builtins.license#opaque"),de P "help" 159 (vb "builtins.help#opaque")]]) 159
noncomputable def o1(P:Params):Obj:=dd [de P "builtins" 162 (vr 4),de P "__main__" 163 (vr 5)] 2
noncomputable def o4(P:Params):Obj:=Obj.mk (vt "module") (some 0) .plain #[]
noncomputable def aru(P:Params):Obj:=tu [vi 0 650,vi 0 651,.none]
noncomputable def alc(P:Params):Obj:=F0
noncomputable def aop(P:Params):Obj:=cA "with_kept_blocks" 729 353 2 364 740
noncomputable def arv(P:Params):Obj:=tu [.none]
noncomputable def o2(P:Params):Obj:=dn [] 0
noncomputable def qc(P:Params):Obj:=dn [de P "type.__subclasses__.Exception.0" 224 (vi 39 0),de P "type.__subclasses__.Exception.n" 225 (vi 1 0)] 2
noncomputable def o39(P:Params):Obj:=Obj.mk (vt "type") none (.cls (ClassData.mk (so "ChanError") [(vt "Exception")] [(vr 39),(vt "Exception"),(vt "BaseException"),(vt "object")] 38 (so "ChanError") true [] [] false none false)) #[(some (vr 22)),none,(some (vs "ChanError" 196)),(some (vs "ChanError" 204)),(some (vb "Exception.__new__")),(some (.bool true))]
noncomputable def arw(P:Params):Obj:=Obj.mk (vt "type") none (.cls (ClassData.mk (so "ChanError") [(vt "Exception")] [(vr 39),(vt "Exception"),(vt "BaseException"),(vt "object")] 38 (so "ChanError") true [] [(vr 52)] false none false)) #[(some (vr 22)),none,(some (vs "ChanError" 196)),(some (vs "ChanError" 204)),(some (vb "Exception.__new__")),(some (.bool true))]
noncomputable def kg(P:Params):Obj:=Obj.mk (vt "type") none (.cls (ClassData.mk (so "ChanError") [(vt "Exception")] [(vr 39),(vt "Exception"),(vt "BaseException"),(vt "object")] 38 (so "ChanError") true [] [(vr 52),(vr 64)] false none false)) #[(some (vr 22)),none,(some (vs "ChanError" 196)),(some (vs "ChanError" 204)),(some (vb "Exception.__new__")),(some (.bool true))]
noncomputable def o3x(P:Params)(n:Nat)(u:Value)(v:Nat):Obj:=dd ((md P u v).take n) n
noncomputable abbrev anh(P:Params):Obj:=o3x P 96 (vs "law_xw0042_01" 1119) 268
noncomputable abbrev aoq:Value:=vs "__main__" 164
noncomputable abbrev w4:Value:=vs "chancore.errors" 194
noncomputable abbrev ab1:Value:=vs "chancore.lower_calls" 279
noncomputable abbrev zj:Value:=vs "chancore.lower_places" 363
noncomputable abbrev rn:Value:=vs "chancore.lower_exprs" 452
noncomputable abbrev ald:Value:=vs "chancore.check_state" 578
noncomputable abbrev nf:Value:=vs "chancore.code" 621
noncomputable abbrev gi:Value:=vs "chancore.lower_state" 777
noncomputable abbrev lw:Value:=vs "chancore.world" 1002
noncomputable abbrev gb:Value:=vs "law_xw0042_01" 1119
noncomputable def vq:Nat->List String->List Value
 | Y,[]=> []
 | n,s::r=>vs s n::vq (n+1) r
noncomputable def mZ(c i:Nat)(n q:String)(a:List String)(t:Nat)(l b:Int)(r:Nat)(m:Value):List Obj:=[E0,F0,tu (vq (t+3) a),E0,fu c i n q,ca n q t l b r (t+3+a.length),fm c i n q .none m (r+5)]
noncomputable def fZ(i:Nat)(n:String)(a:List String)(t:Nat)(l b:Int)(r:Nat)(m:Value):List Obj:=[E0,F0,tu (vq (t+3) a),E0,ft i n,cA n t l b r (t+3+a.length),fn i n m (r+5)]
noncomputable def gZ(i:Nat)(n:String)(t:Nat)(l b:Int)(r:Nat)(m:Value):List Obj:=[E0,F0,ft i n,cB n t l b r (t+3),fn i n m (r+3)]
noncomputable def ob(P:Params)(a2 a3 a12 a39:Obj):List Obj:=
 List.flatten [[o0 P,o1 P,a2,a3,o4 P,Obj.mk (vt "module") (some 3) .plain #[],dd [] 0,E0,F0,fd "code" [vs "<module>" 176,vs "<module>" 177,vs "/claim/cut.py" 178,vi 1 0,vi 0 0,vi 0 0,vi 0 0,vi 0 0,vr 7,.bool false,vi 175 0,vr 8,.none,.none,.none,.none,vi 179 0,vi 1 0,vs "/claim/cut.py" 180],Obj.mk (vt "frame") none .plain #[(some (vr 9)),(some (vr 3)),(some (vr 3)),none,(some aoq),none,(some (vr 0))],E0,a12,cc "<module>" "<module>" 182 1 11 185,Obj.mk (vt "frame") none .plain #[(some (vr 13)),(some (vr 3)),(some (vr 3)),none,(some aoq),none,(some (vr 0))]],fZ 0 "_wall" ["k"] 187 1 1 15 aoq,[tu [vt "Exception"],fd "builtin_function_or_method" [vb "type.__prepare__",vt "type"],dd [de P "__module__" 203 w4,de P "__qualname__" 205 (vs "ChanError" 204),de P "__firstlineno__" 207 (vi 5 206),de P "__init__" 217 (vr 36),de P "__static_attributes__" 220 (vr 37)] 5,E0,tb [7,4,35],cc "ChanError" "ChanError" 198 5 25 201,Obj.mk (vt "frame") none .plain #[(some (vr 27)),(some (vr 3)),(some (vr 24)),none,(some w4),none,(some (vr 0))],tu [vi 0 208],E0,F0,tu [vs "self" 212,vs "message" 213,vs "spot" 214],E0,fu 2 0 "__init__" "ChanError.__init__",ca "__init__" "ChanError.__init__" 209 7 3 30 215,fm 2 0 "__init__" "ChanError.__init__" (vr 29) w4 35,tu [vs "message" 218,vs "spot" 219],dd [de P "__module__" 203 w4,de P "__firstlineno__" 207 (vi 5 206),de P "__init__" 217 (vr 36),de P "__static_attributes__" 220 (vr 37),de P "__weakref__" 222 (vr 40),de P "__doc__" 223 .none] 3,a39,fd "getset_descriptor" [vs "__weakref__" 221,vr 39,vb "ExceptionGroup.__weakref__",.none],fd "super" [vr 39,vr 39,vr 39],fd "builtin_function_or_method" [vb "object.__init_subclass__",vr 39],tu [vr 39],fd "builtin_function_or_method" [vb "type.__prepare__",vt "type"],dd [de P "__module__" 235 w4,de P "__qualname__" 237 (vs "NameFault" 236),de P "__firstlineno__" 239 (vi 11 238),de P "__static_attributes__" 240 (vr 50)] 4,E0,F0,cc "NameFault" "NameFault" 230 11 46 233,Obj.mk (vt "frame") none .plain #[(some (vr 48)),(some (vr 3)),(some (vr 45)),none,(some w4),none,(some (vr 0))],E0,dd [de P "__module__" 235 w4,de P "__firstlineno__" 239 (vi 11 238),de P "__static_attributes__" 240 (vr 50),de P "__doc__" 241 .none] 2,Obj.mk (vt "type") none (.cls (ClassData.mk (so "NameFault") [(vr 39)] [(vr 52),(vr 39),(vt "Exception"),(vt "BaseException"),(vt "object")] 51 (so "NameFault") true [] [] false none false)) #[(some (vr 43)),none,(some (vs "NameFault" 228)),(some (vs "NameFault" 236)),(some (vb "Exception.__new__")),(some (.bool true))],fd "super" [vr 52,vr 52,vr 52],fd "builtin_function_or_method" [vb "object.__init_subclass__",vr 52],tu [vr 39],fd "builtin_function_or_method" [vb "type.__prepare__",vt "type"],dd [de P "__module__" 251 w4,de P "__qualname__" 253 (vs "TypeFault" 252),de P "__firstlineno__" 255 (vi 13 254),de P "__static_attributes__" 256 (vr 62)] 4,E0,F0,cc "TypeFault" "TypeFault" 246 13 58 249,Obj.mk (vt "frame") none .plain #[(some (vr 60)),(some (vr 3)),(some (vr 57)),none,(some w4),none,(some (vr 0))],E0,dd [de P "__module__" 251 w4,de P "__firstlineno__" 255 (vi 13 254),de P "__static_attributes__" 256 (vr 62),de P "__doc__" 257 .none] 2,Obj.mk (vt "type") none (.cls (ClassData.mk (so "TypeFault") [(vr 39)] [(vr 64),(vr 39),(vt "Exception"),(vt "BaseException"),(vt "object")] 63 (so "TypeFault") true [] [] false none false)) #[(some (vr 55)),none,(some (vs "TypeFault" 244)),(some (vs "TypeFault" 252)),(some (vb "Exception.__new__")),(some (.bool true))],fd "super" [vr 64,vr 64,vr 64],fd "builtin_function_or_method" [vb "object.__init_subclass__",vr 64],tu [vs "named" 260,vs "runtime.Error" 261]],fZ 7 "underlying_of" ["world","T"] 265 17 2 68 (vs "chancore.types" 263),gZ 8 "zero_value" 273 19 2 75 (vs "chancore.types" 263),[tu [vs "int" 281,vs "int" 282],tu [vs "bool" 284],tu [vs "lock" 286,vs "unlock" 287,vs "add" 288,vs "wait" 289,vs "gosched" 290]],fZ 13 "result_types" ["told_type"] 292 36 1 83 ab1,fZ 14 "called_of" ["state","callee","operand"] 299 38 2 90 ab1,gZ 15 "call_values" 308 43 2 97 ab1,gZ 16 "builtin_values" 314 49 2 102 ab1,fZ 17 "builtin_with" ["state","e","operands","name"] 320 51 3 107 ab1,gZ 18 "builtin_deed" 330 67 3 114 ab1,fZ 19 "made_value" ["state","e","operands","kind","room"] 336 81 3 119 ab1,fZ 21 "chosen_value" ["state","told_type","op","operands","found","operand","is_before","other","behind"] 348 92 4 126 ab1,fZ 23 "base_kind" ["state","e"] 365 103 2 133 zj,fZ 24 "is_in_memory" ["state","e","kind"] 373 105 2 140 zj,fZ 25 "global_pointer" ["e"] 382 114 1 147 zj,fZ 26 "way_to" ["state","e","begin","steps"] 389 116 2 154 zj,fZ 27 "pointer_along" ["state","way","pointer","steps","word","told","reached"] 399 131 2 161 zj,fZ 28 "address_of" ["state","e","way"] 412 136 2 168 zj,fZ 29 "ask_pointer" ["state","pointer","told","is_nil","wrong","behind"] 421 143 3 175 zj,fZ 30 "new_variable" ["state","e","operand","pointer"] 433 150 2 182 zj,fZ 31 "load_place" ["state","e","base"] 443 155 2 189 zj,[tu [vs "bool" 454],tu [vs "int" 456,vs "int" 457],tu [vs "global" 459,vs "field" 460,vs "deref" 461,vs "index" 462],tu [vs "assert" 464,vs "key" 465,vs "receive" 466]],fZ 37 "value_of" ["state","e","kind"] 468 169 2 200 rn,fZ 38 "values_of" ["state","e"] 477 190 2 207 rn,gZ 39 "operands_of" 485 200 2 214 rn,fZ 40 "constant_of" ["state","e"] 491 202 2 219 rn,gZ 41 "function_value" 499 208 2 226 rn,fZ 42 "worked_value" ["state","e","kind","one","other","operand"] 505 217 2 231 rn,fZ 43 "lazy_value" ["state","e","found","asked","behind"] 517 232 2 238 rn,fZ 44 "asked_values" ["state","e","told_type","parts","op","found","truth"] 528 244 2 245 rn,gZ 45 "cut_value" 541 259 2 252 rn,gZ 46 "struct_operands" 547 264 2 257 rn,fZ 47 "made_value" ["state","e","row_type","cells","place","one"] 553 271 2 262 rn,gZ 49 "slice_value" 566 284 3 269 rn,gZ 50 "table_value" 572 292 2 274 rn,[E0,fd "builtin_function_or_method" [vb "type.__prepare__",vt "type"],dd [de P "__module__" 587 ald,de P "__qualname__" 589 (vs "TypedFn" 588),de P "__firstlineno__" 591 (vi 299 590),de P "__init__" 605 (vr 292),de P "__static_attributes__" 613 (vr 293)] 5,E0,tb [301,4,291],cc "TypedFn" "TypedFn" 582 299 282 585,Obj.mk (vt "frame") none .plain #[(some (vr 284)),(some (vr 3)),(some (vr 281)),none,(some ald),none,(some (vr 0))]],mZ 52 0 "__init__" "TypedFn.__init__" ["self","key","rows","params","results","captured","body","literals"] 592 301 8 286 ald,[tu [vs "body" 606,vs "captured" 607,vs "key" 608,vs "literals" 609,vs "locals" 610,vs "params" 611,vs "results" 612],dd [de P "__module__" 587 ald,de P "__firstlineno__" 591 (vi 299 590),de P "__init__" 605 (vr 292),de P "__static_attributes__" 613 (vr 293),de P "__dict__" 615 (vr 296),de P "__weakref__" 617 (vr 297),de P "__doc__" 618 .none] 4,Obj.mk (vt "type") none (.cls (ClassData.mk (so "TypedFn") [(vt "object")] [(vr 295),(vt "object")] 294 (so "TypedFn") true [] [] false none false)) #[none,none,(some (vs "TypedFn" 580)),(some (vs "TypedFn" 588)),(some (vb "object.__new__")),(some (.bool true))],fd "getset_descriptor" [vs "__dict__" 614,vr 295,vb "function.__dict__",vb "function.__dict__#set"],fd "getset_descriptor" [vs "__weakref__" 616,vr 295,vb "ExceptionGroup.__weakref__",.none],fd "super" [vr 295,vr 295,vr 295],fd "builtin_function_or_method" [vb "object.__init_subclass__",vr 295],tu [vs "mapget" 623,vs "assert" 624,vs "recv" 625],tu [vs "store" 627,vs "mapset" 628,vs "mapdel" 629,vs "send" 630,vs "close" 631,vs "go" 632,vs "defer" 633,vs "defers" 634,vs "print" 635,vs "sync" 636],E0,fd "builtin_function_or_method" [vb "type.__prepare__",vt "type"],dd [de P "__module__" 645 nf,de P "__qualname__" 647 (vs "Code" 646),de P "__firstlineno__" 649 (vi 312 648),de P "__init__" 665 (vr 316),de P "instructions" 673 (vr 323),de P "terminator" 681 (vr 330),de P "row" 687 (vr 335),de P "__static_attributes__" 695 (vr 336)] 8,E0,tb [314,4,315,323,4,322,326,4,329,329,4,334],cc "Code" "Code" 640 312 305 643,Obj.mk (vt "frame") none .plain #[(some (vr 307)),(some (vr 3)),(some (vr 304)),none,(some nf),none,(some (vr 0))],aru P,E0,F0,tu [vs "self" 655,vs "key" 656,vs "params" 657,vs "registers" 658,vs "blocks" 659,vs "captured" 660,vs "results" 661,vs "recovery" 662],E0,fu 56 0 "__init__" "Code.__init__",ca "__init__" "Code.__init__" 652 314 8 310 663,fm 56 0 "__init__" "Code.__init__" (vr 309) nf 315],mZ 56 1 "instructions" "Code.instructions" ["self","block"] 666 323 2 317 nf,mZ 56 2 "terminator" "Code.terminator" ["self","block"] 674 326 2 324 nf,[E0,F0,fu 56 3 "row" "Code.row",cb "row" "Code.row" 682 329 1 331 685,fm 56 3 "row" "Code.row" .none nf 334,tu [vs "blocks" 688,vs "captured" 689,vs "key" 690,vs "params" 691,vs "recovery" 692,vs "registers" 693,vs "results" 694],dd [de P "__module__" 645 nf,de P "__firstlineno__" 649 (vi 312 648),de P "__init__" 665 (vr 316),de P "instructions" 673 (vr 323),de P "terminator" 681 (vr 330),de P "row" 687 (vr 335),de P "__static_attributes__" 695 (vr 336),de P "__dict__" 697 (vr 339),de P "__weakref__" 699 (vr 340),de P "__doc__" 700 .none] 4,Obj.mk (vt "type") none (.cls (ClassData.mk (so "Code") [(vt "object")] [(vr 338),(vt "object")] 337 (so "Code") true [] [] false none false)) #[none,none,(some (vs "Code" 638)),(some (vs "Code" 646)),(some (vb "object.__new__")),(some (.bool true))],fd "getset_descriptor" [vs "__dict__" 696,vr 338,vb "function.__dict__",vb "function.__dict__#set"],fd "getset_descriptor" [vs "__weakref__" 698,vr 338,vb "ExceptionGroup.__weakref__",.none],fd "super" [vr 338,vr 338,vr 338],fd "builtin_function_or_method" [vb "object.__init_subclass__",vr 338]],fZ 57 "next_blocks" ["terminator"] 703 332 1 343 nf,fZ 58 "blocks_reached" ["code","found","waiting","met","block"] 710 338 1 350 nf,fZ 59 "led_elsewhere" ["terminator","turned"] 721 347 2 357 nf,[E0,alc P,tu [vs "code" 732,vs "kept" 733,vs "block" 734,vs "blocks" 735,vs "some" 736,vs "end" 737,vs "recovery" 738],tu [vs "places" 739],ft 60 "with_kept_blocks",aop P,fn 60 "with_kept_blocks" nf 369],fZ 61 "is_operand" ["thing"] 743 363 1 371 nf,gZ 62 "operands_within" 750 367 1 378 nf,fZ 63 "operands_read" ["instruction","found","part"] 756 379 1 383 nf,gZ 64 "registers_written" 765 384 1 390 nf,gZ 65 "registers_of" 771 392 1 395 nf,[E0,fd "builtin_function_or_method" [vb "type.__prepare__",vt "type"],dd [de P "__module__" 786 gi,de P "__qualname__" 788 (vs "LowerState" 787),de P "__firstlineno__" 790 (vi 396 789),de P "__init__" 801 (vr 413),de P "new_register" 809 (vr 420),de P "new_block" 816 (vr 427),de P "put" 824 (vr 434),de P "fresh" 834 (vr 441),de P "close" 842 (vr 448),de P "end" 850 (vr 455),de P "go" 858 (vr 462),de P "next_site" 865 (vr 469),de P "type_of_local" 873 (vr 476),de P "is_boxed" 881 (vr 483),de P "take_register" 890 (vr 490),de P "begin_local" 900 (vr 497),de P "pointer_of" 908 (vr 504),de P "local_value" 916 (vr 511),de P "set_local" 925 (vr 518),de P "kept" 934 (vr 525),de P "zero_operand" 942 (vr 532),de P "value" 950 (vr 539),de P "values" 958 (vr 546),de P "address" 966 (vr 553),de P "block" 974 (vr 560),de P "finished" 982 (vr 567),de P "__static_attributes__" 994 (vr 568)] 27,E0,tb [398,4,412,411,4,419,415,4,426,419,4,433,422,4,440,427,4,447,430,4,454,434,4,461,438,4,468,442,4,475,445,4,482,448,4,489,453,4,496,461,4,503,464,4,510,469,4,517,475,4,524,478,4,531,481,4,538,484,4,545,487,4,552,490,4,559,493,4,566],cc "LowerState" "LowerState" 781 396 403 784,Obj.mk (vt "frame") none .plain #[(some (vr 405)),(some (vr 3)),(some (vr 402)),none,(some gi),none,(some (vr 0))]],mZ 67 0 "__init__" "LowerState.__init__" ["self","world","typed_fn","boxed","known"] 791 398 5 407 gi,mZ 67 1 "new_register" "LowerState.new_register" ["self","told_type"] 802 411 2 414 gi,mZ 67 2 "new_block" "LowerState.new_block" ["self"] 810 415 1 421 gi,mZ 67 3 "put" "LowerState.put" ["self","instruction"] 817 419 2 428 gi,mZ 67 4 "fresh" "LowerState.fresh" ["self","told_type","row","register"] 825 422 3 435 gi,mZ 67 5 "close" "LowerState.close" ["self","terminator"] 835 427 2 442 gi,mZ 67 6 "end" "LowerState.end" ["self","terminator"] 843 430 2 449 gi,mZ 67 7 "go" "LowerState.go" ["self","block"] 851 434 2 456 gi,mZ 67 8 "next_site" "LowerState.next_site" ["self"] 859 438 1 463 gi,mZ 67 9 "type_of_local" "LowerState.type_of_local" ["self","local"] 866 442 2 470 gi,mZ 67 10 "is_boxed" "LowerState.is_boxed" ["self","local"] 874 445 2 477 gi,mZ 67 11 "take_register" "LowerState.take_register" ["self","local","told_type"] 882 448 2 484 gi,mZ 67 12 "begin_local" "LowerState.begin_local" ["self","local","told_type","register"] 891 453 2 491 gi,mZ 67 13 "pointer_of" "LowerState.pointer_of" ["self","local"] 901 461 2 498 gi,mZ 67 14 "local_value" "LowerState.local_value" ["self","local"] 909 464 2 505 gi,mZ 67 15 "set_local" "LowerState.set_local" ["self","local","operand"] 917 469 3 512 gi,mZ 67 16 "kept" "LowerState.kept" ["self","operand","told_type"] 926 475 3 519 gi,mZ 67 17 "zero_operand" "LowerState.zero_operand" ["self","told_type"] 935 478 2 526 gi,mZ 67 18 "value" "LowerState.value" ["self","e"] 943 481 2 533 gi,mZ 67 19 "values" "LowerState.values" ["self","e"] 951 484 2 540 gi,mZ 67 20 "address" "LowerState.address" ["self","e"] 959 487 2 547 gi,mZ 67 21 "block" "LowerState.block" ["self","statements"] 967 490 2 554 gi,mZ 67 22 "finished" "LowerState.finished" ["self","block"] 975 493 1 561 gi,[tu [vs "boxed" 983,vs "code" 984,vs "has_defers" 985,vs "held" 986,vs "here" 987,vs "known" 988,vs "loops" 989,vs "sites" 990,vs "spot" 991,vs "typed_fn" 992,vs "world" 993],dd [de P "__module__" 786 gi,de P "__firstlineno__" 790 (vi 396 789),de P "__init__" 801 (vr 413),de P "new_register" 809 (vr 420),de P "new_block" 816 (vr 427),de P "put" 824 (vr 434),de P "fresh" 834 (vr 441),de P "close" 842 (vr 448),de P "end" 850 (vr 455),de P "go" 858 (vr 462),de P "next_site" 865 (vr 469),de P "type_of_local" 873 (vr 476),de P "is_boxed" 881 (vr 483),de P "take_register" 890 (vr 490),de P "begin_local" 900 (vr 497),de P "pointer_of" 908 (vr 504),de P "local_value" 916 (vr 511),de P "set_local" 925 (vr 518),de P "kept" 934 (vr 525),de P "zero_operand" 942 (vr 532),de P "value" 950 (vr 539),de P "values" 958 (vr 546),de P "address" 966 (vr 553),de P "block" 974 (vr 560),de P "finished" 982 (vr 567),de P "__static_attributes__" 994 (vr 568),de P "__dict__" 996 (vr 571),de P "__weakref__" 998 (vr 572),de P "__doc__" 999 .none] 4,Obj.mk (vt "type") none (.cls (ClassData.mk (so "LowerState") [(vt "object")] [(vr 570),(vt "object")] 569 (so "LowerState") true [] [] false none false)) #[none,none,(some (vs "LowerState" 779)),(some (vs "LowerState" 787)),(some (vb "object.__new__")),(some (.bool true))],fd "getset_descriptor" [vs "__dict__" 995,vr 570,vb "function.__dict__",vb "function.__dict__#set"],fd "getset_descriptor" [vs "__weakref__" 997,vr 570,vb "ExceptionGroup.__weakref__",.none],fd "super" [vr 570,vr 570,vr 570],fd "builtin_function_or_method" [vb "object.__init_subclass__",vr 570],E0,E0,tu [vs "func" 1004,vr 575,vr 576,.bool false],E0,fd "builtin_function_or_method" [vb "type.__prepare__",vt "type"],dd [de P "__module__" 1013 lw,de P "__qualname__" 1015 (vs "NamedRow" 1014),de P "__firstlineno__" 1017 (vi 500 1016),de P "__init__" 1028 (vr 591),de P "__static_attributes__" 1033 (vr 592)] 5,E0,tb [502,4,590],cc "NamedRow" "NamedRow" 1008 500 581 1011,Obj.mk (vt "frame") none .plain #[(some (vr 583)),(some (vr 3)),(some (vr 580)),none,(some lw),none,(some (vr 0))]],mZ 70 0 "__init__" "NamedRow.__init__" ["self","path","package","underlying","methods"] 1018 502 5 585 lw,[tu [vs "methods" 1029,vs "package" 1030,vs "path" 1031,vs "underlying" 1032],dd [de P "__module__" 1013 lw,de P "__firstlineno__" 1017 (vi 500 1016),de P "__init__" 1028 (vr 591),de P "__static_attributes__" 1033 (vr 592),de P "__dict__" 1035 (vr 595),de P "__weakref__" 1037 (vr 596),de P "__doc__" 1038 .none] 4,Obj.mk (vt "type") none (.cls (ClassData.mk (so "NamedRow") [(vt "object")] [(vr 594),(vt "object")] 593 (so "NamedRow") true [] [] false none false)) #[none,none,(some (vs "NamedRow" 1006)),(some (vs "NamedRow" 1014)),(some (vb "object.__new__")),(some (.bool true))],fd "getset_descriptor" [vs "__dict__" 1034,vr 594,vb "function.__dict__",vb "function.__dict__#set"],fd "getset_descriptor" [vs "__weakref__" 1036,vr 594,vb "ExceptionGroup.__weakref__",.none],fd "super" [vr 594,vr 594,vr 594],fd "builtin_function_or_method" [vb "object.__init_subclass__",vr 594]],fZ 71 "known_rows" ["text","adding","gate","group","told","locks","waits"] 1041 507 0 599 lw,[E0,fd "builtin_function_or_method" [vb "type.__prepare__",vt "type"],dd [de P "__module__" 1061 lw,de P "__qualname__" 1063 (vs "World" 1062),de P "__firstlineno__" 1065 (vi 516 1064),de P "__init__" 1073 (vr 620),de P "base_of" 1082 (vr 627),de P "settled" 1090 (vr 634),de P "__static_attributes__" 1111 (vr 635)] 7,E0,tb [518,4,619,540,4,626,552,4,633],cc "World" "World" 1056 516 609 1059,Obj.mk (vt "frame") none .plain #[(some (vr 611)),(some (vr 3)),(some (vr 608)),none,(some lw),none,(some (vr 0))],arv P,E0,F0,tu [vs "self" 1069,vs "packages" 1070],E0,fu 72 0 "__init__" "World.__init__",ca "__init__" "World.__init__" 1066 518 2 614 1071,fm 72 0 "__init__" "World.__init__" (vr 613) lw 619],mZ 72 1 "base_of" "World.base_of" ["self","told","row"] 1074 540 2 621 lw,mZ 72 2 "settled" "World.settled" ["self","entry"] 1083 552 2 628 lw,[tu [vs "bodies" 1091,vs "consts" 1092,vs "files" 1093,vs "funcs" 1094,vs "globals" 1095,vs "inits" 1096,vs "is_whole" 1097,vs "late_keys" 1098,vs "late_parts" 1099,vs "late_sizes" 1100,vs "measured" 1101,vs "mentions" 1102,vs "named" 1103,vs "order" 1104,vs "packages" 1105,vs "scopes" 1106,vs "settle" 1107,vs "starts" 1108,vs "values" 1109,vs "want" 1110],dd [de P "__module__" 1061 lw,de P "__firstlineno__" 1065 (vi 516 1064),de P "__init__" 1073 (vr 620),de P "base_of" 1082 (vr 627),de P "settled" 1090 (vr 634),de P "__static_attributes__" 1111 (vr 635),de P "__dict__" 1113 (vr 638),de P "__weakref__" 1115 (vr 639),de P "__doc__" 1116 .none] 4,Obj.mk (vt "type") none (.cls (ClassData.mk (so "World") [(vt "object")] [(vr 637),(vt "object")] 636 (so "World") true [] [] false none false)) #[none,none,(some (vs "World" 1054)),(some (vs "World" 1062)),(some (vb "object.__new__")),(some (.bool true))],fd "getset_descriptor" [vs "__dict__" 1112,vr 637,vb "function.__dict__",vb "function.__dict__#set"],fd "getset_descriptor" [vs "__weakref__" 1114,vr 637,vb "ExceptionGroup.__weakref__",.none],fd "super" [vr 637,vr 637,vr 637],fd "builtin_function_or_method" [vb "object.__init_subclass__",vr 637],tu [vs "int" 1121,vs "int8" 1122],tu [vs "int" 1124,vs "int" 1125],tu [vs "bool" 1127],tu [vs "int" 1131,vs "int8" 1132],tu [vs "array" 1129,vi 2 1130,vr 645],tu [vs "int" 1136,vs "int8" 1137],tu [vs "a" 1135,vr 647,.bool false],tu [vs "bool" 1139],tu [vs "b" 1138,vr 649,.bool false],tu [vr 648,vr 650],tu [vs "struct" 1134,vr 651],E0,tu [vs "interface" 1141,vr 653]],fZ 80 "_law_pool" ["script","script_cell","large"] 1143 561 1 655 gb,fZ 81 "_law_take" ["source","top","digit"] 1152 565 2 662 gb,fZ 82 "_law_one" ["source","things"] 1161 572 2 669 gb,fZ 83 "_law_const" ["value"] 1169 574 1 676 gb,gZ 84 "_law_number" 1176 576 2 683 gb,gZ 85 "_law_looked" 1182 599 3 688 gb,fZ 86 "_law_truth" ["source","deep","way"] 1188 603 2 693 gb,fZ 87 "_law_stop" ["run","text"] 1197 614 2 700 gb,fZ 88 "_law_worked" ["run","op","a","b","whole"] 1205 618 4 707 gb,fZ 89 "_law_item" ["run","cells","place"] 1216 628 3 714 gb,gZ 90 "_law_worth" 1225 630 2 721 gb,fZ 91 "_law_read" ["run","operand"] 1231 675 2 726 gb,fZ 92 "_law_object" ["run","content"] 1239 677 2 733 gb,gZ 93 "_law_done" 1247 680 2 740 gb,fZ 94 "_law_step" ["run","row","op","spot","table","key","told","value"] 1253 703 2 745 gb,gZ 95 "_law_walked" 1267 723 1 752 gb,fZ 96 "_law_is_right" ["e","rows","state","begins","local","value","run","worth","due"] 1273 737 1 757 gb,gZ 97 "law" 1288 749 1 764 gb]
noncomputable def aeo(P:Params):BT:=bt 10 ((ob P (o2 P) (o3x P 9 (vs "__main__" 164) 0) (tb (ml.take 0)) (o39 P)).take 15)
noncomputable def ani(P:Params):BT:=bt 10 ((ob P (qc P) (o3x P 11 (vs "chancore.errors" 194) 0) (tb (ml.take 6)) (o39 P)).take 43)
noncomputable def anj(P:Params):BT:=bt 10 ((ob P (qc P) (o3x P 12 (vs "chancore.errors" 194) 0) (tb (ml.take 9)) (arw P)).take 55)
noncomputable def ank(P:Params):BT:=bt 10 ((ob P (qc P) (o3x P 21 (vs "chancore.lower_calls" 279) 0) (tb (ml.take 24)) (kg P)).take 97)
noncomputable def anl(P:Params):BT:=bt 10 ((ob P (qc P) (o3x P 34 (vs "chancore.lower_places" 363) 125) (tb (ml.take 60)) (kg P)).take 175)
noncomputable def anm(P:Params):BT:=bt 10 ((ob P (qc P) (o3x P 48 (vs "chancore.lower_exprs" 452) 125) (tb (ml.take 90)) (kg P)).take 245)
noncomputable def ano(P:Params):BT:=bt 10 ((ob P (qc P) (o3x P 54 (vs "chancore.check_state" 578) 268) (tb (ml.take 108)) (kg P)).take 279)
noncomputable def anp(P:Params):BT:=bt 10 ((ob P (qc P) (o3x P 57 (vs "chancore.code" 621) 268) (tb (ml.take 111)) (kg P)).take 302)
noncomputable def anq(P:Params):BT:=bt 10 ((ob P (qc P) (o3x P 60 (vs "chancore.code" 621) 268) (tb (ml.take 120)) (kg P)).take 357)
noncomputable def anr(P:Params):BT:=bt 10 ((ob P (qc P) (o3x P 67 (vs "chancore.lower_state" 777) 268) (tb (ml.take 141)) (kg P)).take 400)
noncomputable def ain(P:Params):BT:=bt 10 ((ob P (qc P) (o3x P 68 (vs "chancore.lower_state" 777) 268) (tb (ml.take 144)) (kg P)).take 575)
noncomputable def aio(P:Params):BT:=bt 10 ((ob P (qc P) (o3x P 71 (vs "chancore.world" 1002) 268) (tb (ml.take 150)) (kg P)).take 606)
noncomputable def aip(P:Params):BT:=bt 10 ((ob P (qc P) (o3x P 77 (vs "law_xw0042_01" 1119) 268) (tb (ml.take 153)) (kg P)).take 653)
noncomputable def aiq(P:Params):BT:=bt 10 ((ob P (qc P) (o3x P 91 (vs "law_xw0042_01" 1119) 268) (tb (ml.take 192)) (kg P)).take 740)
noncomputable def obF(P:Params):List Obj:=ob P (qc P) (anh P) (tb ml) (kg P)
noncomputable def rp(P:Params):BT:=bt 10 (obF P)
noncomputable def KF(P:Params):Frag:=en 0 (obF P)
noncomputable def KA:List Addr:=List.range 769
noncomputable def adi:List Str:=[(so "_wall"),(so "ChanError"),(so "NameFault"),(so "TypeFault"),(so "RUNTIME_ERROR"),(so "underlying_of"),(so "zero_value"),(so "INT_lower_calls"),(so "BOOL_lower_calls"),(so "SYNCS"),(so "result_types"),(so "called_of"),(so "call_values"),(so "builtin_values"),(so "builtin_with"),(so "builtin_deed"),(so "made_value"),(so "made_value_lower_calls"),(so "chosen_value"),(so "base_kind"),(so "is_in_memory"),(so "global_pointer"),(so "way_to"),(so "pointer_along"),(so "address_of"),(so "ask_pointer"),(so "new_variable"),(so "load_place"),(so "BOOL_lower_exprs"),(so "INT_lower_exprs"),(so "READ"),(so "PAIRS"),(so "value_of"),(so "values_of"),(so "operands_of"),(so "constant_of"),(so "function_value"),(so "worked_value"),(so "lazy_value"),(so "asked_values"),(so "cut_value"),(so "struct_operands"),(so "made_value_lower_exprs"),(so "slice_value"),(so "table_value"),(so "TypedFn"),(so "PAIRED"),(so "UNWRITTEN"),(so "Code"),(so "next_blocks"),(so "blocks_reached"),(so "led_elsewhere"),(so "with_kept_blocks"),(so "is_operand"),(so "operands_within"),(so "operands_read"),(so "registers_written"),(so "registers_of"),(so "LowerState"),(so "PLAIN"),(so "NamedRow"),(so "known_rows"),(so "World"),(so "_law_i8"),(so "_law_int"),(so "_law_bool"),(so "_law_row"),(so "_law_pair"),(so "_law_any"),(so "_law_pool"),(so "_law_take"),(so "_law_one"),(so "_law_const"),(so "_law_number"),(so "_law_looked"),(so "_law_truth"),(so "_law_stop"),(so "_law_worked"),(so "_law_item"),(so "_law_worth"),(so "_law_read"),(so "_law_object"),(so "_law_done"),(so "_law_step"),(so "_law_walked"),(so "_law_is_right")]
end
noncomputable abbrev agi:Env:={scope:=pw.main.scope,locals:=mainNs,globals:=mainNs,cells:=[],code:=.ref 13,frame:=some 14}
noncomputable abbrev cET:Code:=.body (behindTheImports pw) agi
noncomputable abbrev lf:Life:=Life.mk [] [] [] 0 [] [] false (Array.mk []) [] 0 false false false 0 [2000,10,10] false 0 true [] [] 0 false
noncomputable abbrev SS(t:BT)(n k:Nat)(os:OsState):SharedT:=⟨t,n,lf,Array.mk [],⟨0,0,0,0⟩,k,os⟩
noncomputable abbrev thr(l:List Stmt)(p:Pos):Thread:=piecesOf l agi cET p [topFrame ⟨0,0,0,0⟩]
noncomputable abbrev sts(a n:Nat):List Stmt:=((behindTheImports pw).drop a).take n
end
section
open PySem PySem.W PyProof.Rows
theorem p1(w:World):(λos=>segRunT treeTable pw w 11 (some (.ref 6)) 1 271 (SS (aeo w.params) 15 187 os) (thr (sts 0 3) ⟨0,0,0,0⟩))=λos=>some (.next,SS (ani w.params) 43 228 os,cET,⟨5,0,10,24⟩):=by k_lt2 zc
theorem p2(w:World):(λos=>segRunT treeTable pw w 11 (some (.ref 6)) 1 214 (SS (ani w.params) 43 228 os) (thr (sts 3 1) ⟨5,0,10,24⟩))=λos=>some (.next,SS (anj w.params) 55 244 os,cET,⟨11,0,12,8⟩):=by k_lt2 zc
theorem p3(w:World):(λos=>segRunT treeTable pw w 11 (some (.ref 6)) 1 398 (SS (anj w.params) 55 244 os) (thr (sts 4 11) ⟨11,0,12,8⟩))=λos=>some (.next,SS (ank w.params) 97 308 os,cET,⟨38,0,42,87⟩):=by k_lt2 zc
theorem p4(w:World):(λos=>segRunT treeTable pw w 11 (some (.ref 6)) 1 388 (SS (ank w.params) 97 308 os) (thr (sts 15 14) ⟨38,0,42,87⟩))=λos=>some (.next,SS (anl w.params) 175 421 os,cET,⟨136,0,142,36⟩):=by k_lt2 zc
theorem p5(w:World):(λos=>segRunT treeTable pw w 11 (some (.ref 6)) 1 367 (SS (anl w.params) 175 421 os) (thr (sts 29 15) ⟨136,0,142,36⟩))=λos=>some (.next,SS (anm w.params) 245 528 os,cET,⟨232,0,243,25⟩):=by k_lt2 zc
theorem p6(w:World):(λos=>segRunT treeTable pw w 11 (some (.ref 6)) 1 193 (SS (anm w.params) 245 528 os) (thr (sts 44 8) ⟨232,0,243,25⟩))=λos=>some (.next,SS (ano w.params) 279 580 os,cET,⟨298,0,298,8⟩):=by k_lt2 zc
theorem p7(w:World):(λos=>segRunT treeTable pw w 11 (some (.ref 6)) 1 277 (SS (ano w.params) 279 580 os) (thr (sts 52 4) ⟨298,0,298,8⟩))=λos=>some (.next,SS (anp w.params) 302 638 os,cET,⟨311,0,311,9⟩):=by k_lt2 zc
theorem p8(w:World):(λos=>segRunT treeTable pw w 11 (some (.ref 6)) 1 392 (SS (anp w.params) 302 638 os) (thr (sts 56 3) ⟨311,0,311,9⟩))=λos=>some (.next,SS (anq w.params) 357 721 os,cET,⟨338,0,346,16⟩):=by k_lt2 zc
theorem p9(w:World):(λos=>segRunT treeTable pw w 11 (some (.ref 6)) 1 214 (SS (anq w.params) 357 721 os) (thr (sts 59 8) ⟨338,0,346,16⟩))=λos=>some (.next,SS (anr w.params) 400 779 os,cET,⟨395,0,395,8⟩):=by k_lt2 zc
theorem p10(w:World):(λos=>segRunT treeTable pw w 11 (some (.ref 6)) 1 945 (SS (anr w.params) 400 779 os) (thr (sts 67 1) ⟨395,0,395,8⟩))=λos=>some (.next,SS (ain w.params) 575 1002 os,cET,⟨396,0,497,77⟩):=by k_lt2 zc
theorem p11(w:World):(λos=>segRunT treeTable pw w 11 (some (.ref 6)) 1 288 (SS (ain w.params) 575 1002 os) (thr (sts 68 4) ⟨396,0,497,77⟩))=λos=>some (.next,SS (aio w.params) 606 1054 os,cET,⟨507,0,515,283⟩):=by k_lt2 zc
theorem p12(w:World):(λos=>segRunT treeTable pw w 11 (some (.ref 6)) 1 394 (SS (aio w.params) 606 1054 os) (thr (sts 72 7) ⟨507,0,515,283⟩))=λos=>some (.next,SS (aip w.params) 653 1141 os,cET,⟨559,0,559,9⟩):=by k_lt2 zc
theorem p13(w:World):(λos=>segRunT treeTable pw w 11 (some (.ref 6)) 1 398 (SS (aip w.params) 653 1141 os) (thr (sts 79 14) ⟨559,0,559,9⟩))=λos=>some (.next,SS (aiq w.params) 740 1247 os,cET,⟨677,0,679,48⟩):=by k_lt2 zc
theorem p14(w:World):(λos=>segRunT treeTable pw w 11 (some (.ref 6)) 1 152 (SS (aiq w.params) 740 1247 os) (thr (sts 93 5) ⟨677,0,679,48⟩))=λos=>some (.next,SS (rp w.params) 769 1294 os,cET,⟨749,0,757,54⟩):=by k_lt2 zc
noncomputable abbrev agj:Option Value:=some (.ref 6)
theorem pre(w:World)(os:OsState):topGo treeTable pw w 11 agj 12 ⟨boot_heap w.params,Array.mk [],boot_drawn,boot_toks,os⟩ (topStub pw)=
  some ((SS (aeo w.params) 15 187 os).abs,⟨denote treeTable cET,cET,⟨0,0,0,0⟩,[topFrame ⟨0,0,0,0⟩]⟩):=by
 rw[Fast.te15667345088766844465,Fast.te14364793385576792824,Fast.te11892475500146522536];k_go
theorem blk(w:World)(os:OsState):segRun treeTable pw w 11 agj 1 1 (SS (aeo w.params) 15 187 os).abs (blockOf (behindTheImports pw) agi cET ⟨0,0,0,0⟩ [topFrame ⟨0,0,0,0⟩])=
  some (.next,(SS (aeo w.params) 15 187 os).abs,cET,⟨0,0,0,0⟩):=by k_go
theorem fin_(w:World)(os:OsState)(p:Pos):topRun treeTable pw w 11 agj 2 (SS (rp w.params) 769 1294 os).abs ⟨doneF .next,cET,p,[topFrame ⟨0,0,0,0⟩]⟩=some (SS (rp w.params) 769 1294 os).abs:=by k_go
theorem ale:behindTheImports pw=sts 0 3++(sts 3 1++(sts 4 11++(sts 15 14++(sts 29 15++(sts 44 8++(sts 52 4++(sts 56 3++(sts 59 8++(sts 67 1++(sts 68 4++(sts 72 7++(sts 79 14++(sts 93 5++ []))))))))))))):=by k_go
theorem sz(w:World):((boot_heap w.params).isNs mainGlobals&&(Array.mk []:Array GenState).size==0,(boot_heap w.params).objs.size,(boot_heap w.params).nsMap mainGlobals "__annotations__")=(true,11,agj):=by k_go
theorem op_e:opening pw=plainProg pw.main.scope.names:=by k_go
theorem op_f(s:Shared):fenceModules? pw s=some s:=by k_go
theorem run_(w:World)(os:OsState):topRun treeTable pw w 11 agj (12+(1+(271+(214+(398+(388+(367+(193+(277+(392+(214+(945+(288+(394+(398+(152+2)))))))))))))))) ⟨boot_heap w.params,Array.mk [],boot_drawn,boot_toks,os⟩ (topStub pw)=some (SS (rp w.params) 769 1294 os).abs:=
 go_top (pre w os) (piece_block (blk w os) (by
  have e:restOf (behindTheImports pw) agi cET ⟨0,0,0,0⟩ [topFrame ⟨0,0,0,0⟩]=restOf (sts 0 3++(sts 3 1++(sts 4 11++(sts 15 14++(sts 29 15++(sts 44 8++(sts 52 4++(sts 56 3++(sts 59 8++(sts 67 1++(sts 68 4++(sts 72 7++(sts 79 14++(sts 93 5++ [])))))))))))))) agi cET ⟨0,0,0,0⟩ [topFrame ⟨0,0,0,0⟩]:=congrArg (λb=>restOf b agi cET ⟨0,0,0,0⟩ [topFrame ⟨0,0,0,0⟩]) ale;rw[e];exact piece_app (segRun_of (congrFun (p1 w) os)) (piece_app (segRun_of (congrFun (p2 w) os)) (piece_app (segRun_of (congrFun (p3 w) os)) (piece_app (segRun_of (congrFun (p4 w) os)) (piece_app (segRun_of (congrFun (p5 w) os)) (piece_app (segRun_of (congrFun (p6 w) os)) (piece_app (segRun_of (congrFun (p7 w) os)) (piece_app (segRun_of (congrFun (p8 w) os)) (piece_app (segRun_of (congrFun (p9 w) os)) (piece_app (segRun_of (congrFun (p10 w) os)) (piece_app (segRun_of (congrFun (p11 w) os)) (piece_app (segRun_of (congrFun (p12 w) os)) (piece_app (segRun_of (congrFun (p13 w) os)) (piece_app (segRun_of (congrFun (p14 w) os)) (piece_nil (fin_ w os _)))))))))))))))))
noncomputable abbrev qv:Program:={pw with main:={pw.main with body:=[st 97]}}
noncomputable abbrev SF(w:World)(os:OsState):Shared:=(SS (rp w.params) 769 1294 os).abs
theorem imp0:importedModules pw.main.body=[]:=by k_go
theorem as0:∀P,KA=(KF P).map (·.1):=λP=>by k_go
theorem adj:∀(l:List Obj) (i:Nat),(od l)[i]?=l[2*i]?
 | [],i=>rfl
 | [x],i=>by cases i<;>rfl
 | x::y::r,i=>by
  cases i with
  | zero=>rfl
  | succ i=>show(od r)[i]?=_;rw[adj r i];rfl
theorem adk:∀(l:List Obj),(od l).length=(l.length+1)/2
 | []=>rfl
 | [x]=>by show 1=2/2;decide
 | x::y::r=>by show(od r).length+1=_;rw[adk r];exact(Nat.add_div_right (r.length+1) (by decide:0<2)).symm
theorem arx{i:Nat}(h:(i+1)%2=1):2*((i+1)/2)=i:=by
 have:=Nat.div_add_mod (i+1) 2;rw[h] at this;exact Nat.succ.inj this
theorem ary{i:Nat}(h:¬(i+1)%2=1):2*((i+1)/2 - 1)+1=i:=by
 have e:=Nat.div_add_mod (i+1) 2;rw[(Nat.mod_two_eq_zero_or_one (i+1)).resolve_right h] at e;generalize (i+1)/2=q at e⊢;cases q with
 | zero=>cases e
 | succ k=>exact Nat.succ.inj e
theorem adl:∀(n:Nat) (l:List Obj) (i:Nat),l.length<2^n->(bt n l).get i=l[i]?
 | 0,[],i,Y=>rfl
 | 0,x::r,i,h=>by simp at h
 | n+1,[],i,Y=>rfl
 | n+1,x::r,i,h=>by
  show(BT.node x (bt n (od r)) (bt n (od r.tail))).get i=_;have h2:r.length+1<2^n*2:=by rw[<-Nat.pow_succ];exact h
  rw[BT.get_node,adl n _ _ (by rw[adk];exact(Nat.div_lt_iff_lt_mul (by decide)).mpr h2),adl n _ _ (by rw[adk,List.length_tail];exact yV (Nat.div_le_div_right (Nat.succ_le_succ (Nat.sub_le ..))) ((Nat.div_lt_iff_lt_mul (by decide)).mpr h2)),adj,adj];cases i with
  | zero=>rfl
  | succ i=>
   rw[if_neg (by exact(ar1 0x110101301114022))];split
   ·rename_i q;rw[List.getElem?_cons_succ,arx q]
   ·rename_i q;rw[List.getElem?_tail,List.getElem?_cons_succ,ary q]
theorem arz:∀(l:List Obj) (k:Nat),(en k l).map (λp=>some p.2)=l.map some
 | [],k=>rfl
 | x::r,k=>by show some x::(en (k+1) r).map _=_;rw[arz r];rfl
theorem aor(l:List Obj)(n:Nat)(f:Life)(hn:l.length=n)(h2:n<1024)(ha:l.all (λo=>match o.data with | .freed=>false | _=>true)=true)(k:Nat):(List.range n).map (absHeap (bt 10 l) n f).get?=(en k l).map λp=>some p.2:=by
 rw[arz];apply List.ext_getElem?;intro i;rw[List.getElem?_map,List.getElem?_map];by_cases h:i<n
 ·have hi:i<l.length:=by exact(ar3 0x1114615615443) hn h
  rw[List.getElem?_range h,yC hi];show some ((absHeap (bt 10 l) n f).get? i)=_;rw[abs_get h ((adl 10 l i (by rw[hn];exact h2)).trans (yC hi))];have:=List.all_eq_true.mp ha l[i] (List.getElem_mem hi);generalize l[i]=o at this;obtain⟨c,d,dt,sl⟩:=o;cases dt<;>first | rfl | (simp at this)
 ·rw[List.getElem?_eq_none (by rw[List.length_range];exact(ar2 zAV) (Nat.le_of_not_lt h)),List.getElem?_eq_none (by exact(ar3 0x1116406505423) hn (Nat.le_of_not_lt h))];rfl
theorem lk_k(w:World)(os:OsState):KA.map (SF w os).heap.get?=(KF w.params).map λp=>some p.2:=aor (obF w.params) 769 lf (by k_go) (by decide) (by k_go) 0
theorem lk_3(w:World)(os:OsState):gensDone (SF w os)=true:=by k_go
theorem lk_4(w:World)(os:OsState):staticsOk [] (boot_heap w.params) (SF w os).heap=true:=by k_go
theorem lk_5(w:World)(os:OsState):laidKept (boot_heap w.params) (SF w os).heap=true:=by k_go
theorem lk_6(w:World)(os:OsState):namesBound pw (SF w os).heap=true:=by k_go
noncomputable abbrev zk:RowW:=PySem.Challenge.rw_xw0042_01.row.toRowW
noncomputable abbrev XtL:Shared->Bool:=λs=>xlAt qv [] s&&recOk zk.records s
theorem lk_s(w:World)(os:OsState):openSeen qv adi [] XtL true (SF w os)=openGood qv adi:=by
 rw[Fast.te4187177175401517315];k_go
theorem ar0:LeftO pw qv adi XtL (kHook KF KA as0).obs (kHook KF KA as0).val 6000:=
 LeftO.of_pieces (H₀:=boot_heap) (H₁:=λP=>absHeap (rp P) 769 lf) (gs₀:=Array.mk []) (gs₁:=Array.mk []) (d₀:=boot_drawn) (d₁:=⟨0,0,0,0⟩) (k₀:=boot_toks) (k₁:=1294) (m₀:=11) (ann:=agj)
  (boot_open op_e (by decide) op_f) sz (λw os=>run_ w os) (by decide) (λw=>by
   rw[imp0]
   funext os
   refine Prod.ext ?_ (Prod.ext (lk_s w os) (lk_k w os));show(staticsOk [] (boot_heap w.params) (SF w os).heap&&namesBound pw (SF w os).heap&&gensDone (SF w os)&&laidKept (boot_heap w.params) (SF w os).heap)=true;rw[lk_3,lk_4,lk_5,lk_6];rfl)
noncomputable abbrev dL:DefRec:=⟨"law",fA (st 97),fB (st 97),fS (st 97),⟨749,0,757,54⟩⟩
theorem asa:defOf qv "law"=some (dL,[]):=by k_go
theorem hp0:pw.theDef "law"=some (dL.params,dL.body,dL.scope):=by k_go
theorem hk0:kwWritten? dL.params.kwonlyargs dL.params.kw_defaults=some []:=by k_go
theorem ok0:(chainsOk qv&&opensWell pw&&(frees zk&&PySem.Challenge.rw_xw0042_01.row.within.isEmpty))=true:=by k_go
theorem asb:pw.bare:=⟨by k_go,by k_go,by k_go,by k_go,by k_go,by decide+kernel⟩
theorem asc:PySem.Challenge.rw_xw0042_01.row.toRowW.promised:=by w_witness2
noncomputable abbrev RR:OpenRow:=PySem.Challenge.rw_xw0042_01.row
theorem asd(said:RR.wellSaid=true)(call:WalkO qv adi (XL qv []) (kHook KF KA as0).says zk dL [] λf vs=>PySem.call f vs):RR.Holds:=
 holds_open (r:=RR) (q:=qv) (loose:=adi) (Xt:=XtL) (XP:=XL qv []) (Yf:=(kHook KF KA as0).obs) (Ya:=(kHook KF KA as0).val) (YP:=(kHook KF KA as0).says) (d:=dL) (kwd:=[]) (N:=6000)
  ar0 (kHook KF KA as0).of (kHook KF KA as0).keeps (λs e=>xl_of s (yQ e).1) XL.keeps asa hp0 hk0 (λs e=>recFacts_of (yQ e).2) rfl said ok0 asb asc call
theorem ase(ok:PySem.Challenge.rw_xw0042_01.wellSaid=true)(h:RR.wellSaid=true->RR.Holds):PySem.Challenge.rw_xw0042_01.Holds:=holds_law ok h
theorem asf(ok:PySem.Challenge.rw_xw0042_01.wellSaid=true)(call:WalkO qv adi (XL qv []) (kHook KF KA as0).says zk dL [] λf vs=>PySem.call f vs):PySem.Challenge.rw_xw0042_01.Holds:=
 ase ok λsaid=>asd said call
theorem oC:namesResolve PySem.Challenge.rw_xw0042_01.row.prog=true:=by rw[Fast.te8377067652309620493];k_go
theorem oE:noRoadLSs {strict:=!(importedModules PySem.Challenge.rw_xw0042_01.row.prog.main.body).all cThrough.contains,foot:=none,bare:=List.filter (readsOut PySem.Challenge.rw_xw0042_01.row.prog PySem.Challenge.rw_xw0042_01.row.prog.main.body) [so "vars",so "dir",so "locals"]} PySem.Challenge.rw_xw0042_01.row.prog.main.body=true:=by rw[R.allR_eq,Fast.te3471404346716756564,Fast.sDec_eq,Fast.te8326940854005059898,Fast.te5923862056798008813,Fast.te17691160309236699985,R.filterR_eq,Fast.te13343964577679436407];k_go
theorem oF:(namesMeet PySem.Challenge.rw_xw0042_01.row.prog PySem.Challenge.rw_xw0042_01.row.prog.main.body λx n=>attrL n)=true:=by rw[Fast.te17119622794617984870,Fast.te17868728402115742887];k_go
theorem okL:PySem.Challenge.rw_xw0042_01.wellSaid=true:=by
 unfold OpenLaw.wellSaid OpenRow.wellSaid OpenRow.partSaid looksOpen;repeat' with_reducible refine look_both ?_ ?_
 all_goals first | (with_reducible exact oC) | (with_reducible exact oE) | (with_reducible exact oF) | ((try rw[Fast.te11788848310118352699]);(try rw[Fast.te9807087744658564304]);(try rw[Fast.te12862048085361865435]);(try rw[R.allR_eq]);(try rw[Fast.te18344453789297297638]);(try rw[Fast.te3471404346716756564]);(try rw[Fast.sDec_eq]);(try rw[Fast.te14412699480532031325]);(try rw[R.filterR_eq]);(try rw[Fast.te9706382859710513879]);(try rw[S.strDecS_eq]);(try rw[Fast.te2357444279172408678]);(try rw[R.mapR_eq]);(try rw[Fast.te4857012375875476094]);(try rw[Fast.named_eq]);(try rw[Fast.te13582783067957832011]);(try rw[Fast.te5318747976498570220]);(try rw[Fast.te4579403493507170074]);(try rw[R.anyR_eq]);(try rw[Fast.te4274047373036748609]);(try rw[Fast.te12749700546528644094]);(try rw[Fast.te10501279942588096481]);(try rw[Fast.te8179353310426384613]);(try rw[Fast.te797321630700447069]);(try rw[Fast.te9572597257264208301]);(try rw[Fast.te9558739934217749035]);(try rw[Fast.te16286561074155671207]);(try rw[Fast.te6984425678791042302]);(try rw[Fast.te17095254045102204799]);(try rw[Fast.te12879404354523853263]);(try rw[Fast.te482687673346738481]);(try rw[Fast.te10792542408131684335]);(try rw[Fast.te7723801398212525404]);k_go)
end
section
open PySem
section
noncomputable def k(s:String):D:=.str (so s)
structure FE where
 a:Addr
 s:Stmt
 n:String
 q:String
 pm:Value
 c:Addr
 dv:Value:=.none
 ds:List D:=[]
noncomputable def fes:List FE:=[
⟨74,st 7,"underlying_of","underlying_of",vs "chancore.types" 263,73,.none,[]⟩,
⟨79,st 8,"zero_value","zero_value",vs "chancore.types" 263,78,.none,[]⟩,
⟨139,st 23,"base_kind","base_kind",vs "chancore.lower_places" 363,138,.none,[]⟩,
⟨146,st 24,"is_in_memory","is_in_memory",vs "chancore.lower_places" 363,145,.none,[]⟩,
⟨160,st 26,"way_to","way_to",vs "chancore.lower_places" 363,159,.none,[]⟩,
⟨167,st 27,"pointer_along","pointer_along",vs "chancore.lower_places" 363,166,.none,[]⟩,
⟨188,st 30,"new_variable","new_variable",vs "chancore.lower_places" 363,187,.none,[]⟩,
⟨195,st 31,"load_place","load_place",vs "chancore.lower_places" 363,194,.none,[]⟩,
⟨206,st 37,"value_of","value_of",vs "chancore.lower_exprs" 452,205,.none,[]⟩,
⟨213,st 38,"values_of","values_of",vs "chancore.lower_exprs" 452,212,.none,[]⟩,
⟨218,st 39,"operands_of","operands_of",vs "chancore.lower_exprs" 452,217,.none,[]⟩,
⟨225,st 40,"constant_of","constant_of",vs "chancore.lower_exprs" 452,224,.none,[]⟩,
⟨237,st 42,"worked_value","worked_value",vs "chancore.lower_exprs" 452,236,.none,[]⟩,
⟨244,st 43,"lazy_value","lazy_value",vs "chancore.lower_exprs" 452,243,.none,[]⟩,
⟨251,st 44,"asked_values","asked_values",vs "chancore.lower_exprs" 452,250,.none,[]⟩,
⟨261,st 46,"struct_operands","struct_operands",vs "chancore.lower_exprs" 452,260,.none,[]⟩,
⟨268,st 47,"made_value","made_value",vs "chancore.lower_exprs" 452,267,.none,[]⟩,
⟨273,st 49,"slice_value","slice_value",vs "chancore.lower_exprs" 452,272,.none,[]⟩,
⟨278,st 50,"table_value","table_value",vs "chancore.lower_exprs" 452,277,.none,[]⟩,
⟨292,su 52 0,"__init__","TypedFn.__init__",vs "chancore.check_state" 578,291,.none,[]⟩,
⟨316,su 56 0,"__init__","Code.__init__",vs "chancore.code" 621,315,vr 309,[(.int 0),(.int 0),.none]⟩,
⟨323,su 56 1,"instructions","Code.instructions",vs "chancore.code" 621,322,.none,[]⟩,
⟨330,su 56 2,"terminator","Code.terminator",vs "chancore.code" 621,329,.none,[]⟩,
⟨349,st 57,"next_blocks","next_blocks",vs "chancore.code" 621,348,.none,[]⟩,
⟨356,st 58,"blocks_reached","blocks_reached",vs "chancore.code" 621,355,.none,[]⟩,
⟨363,st 59,"led_elsewhere","led_elsewhere",vs "chancore.code" 621,362,.none,[]⟩,
⟨370,st 60,"with_kept_blocks","with_kept_blocks",vs "chancore.code" 621,369,.none,[]⟩,
⟨377,st 61,"is_operand","is_operand",vs "chancore.code" 621,376,.none,[]⟩,
⟨382,st 62,"operands_within","operands_within",vs "chancore.code" 621,381,.none,[]⟩,
⟨389,st 63,"operands_read","operands_read",vs "chancore.code" 621,388,.none,[]⟩,
⟨394,st 64,"registers_written","registers_written",vs "chancore.code" 621,393,.none,[]⟩,
⟨399,st 65,"registers_of","registers_of",vs "chancore.code" 621,398,.none,[]⟩,
⟨413,su 67 0,"__init__","LowerState.__init__",vs "chancore.lower_state" 777,412,.none,[]⟩,
⟨420,su 67 1,"new_register","LowerState.new_register",vs "chancore.lower_state" 777,419,.none,[]⟩,
⟨427,su 67 2,"new_block","LowerState.new_block",vs "chancore.lower_state" 777,426,.none,[]⟩,
⟨434,su 67 3,"put","LowerState.put",vs "chancore.lower_state" 777,433,.none,[]⟩,
⟨441,su 67 4,"fresh","LowerState.fresh",vs "chancore.lower_state" 777,440,.none,[]⟩,
⟨448,su 67 5,"close","LowerState.close",vs "chancore.lower_state" 777,447,.none,[]⟩,
⟨462,su 67 7,"go","LowerState.go",vs "chancore.lower_state" 777,461,.none,[]⟩,
⟨469,su 67 8,"next_site","LowerState.next_site",vs "chancore.lower_state" 777,468,.none,[]⟩,
⟨476,su 67 9,"type_of_local","LowerState.type_of_local",vs "chancore.lower_state" 777,475,.none,[]⟩,
⟨483,su 67 10,"is_boxed","LowerState.is_boxed",vs "chancore.lower_state" 777,482,.none,[]⟩,
⟨490,su 67 11,"take_register","LowerState.take_register",vs "chancore.lower_state" 777,489,.none,[]⟩,
⟨497,su 67 12,"begin_local","LowerState.begin_local",vs "chancore.lower_state" 777,496,.none,[]⟩,
⟨504,su 67 13,"pointer_of","LowerState.pointer_of",vs "chancore.lower_state" 777,503,.none,[]⟩,
⟨511,su 67 14,"local_value","LowerState.local_value",vs "chancore.lower_state" 777,510,.none,[]⟩,
⟨518,su 67 15,"set_local","LowerState.set_local",vs "chancore.lower_state" 777,517,.none,[]⟩,
⟨525,su 67 16,"kept","LowerState.kept",vs "chancore.lower_state" 777,524,.none,[]⟩,
⟨532,su 67 17,"zero_operand","LowerState.zero_operand",vs "chancore.lower_state" 777,531,.none,[]⟩,
⟨539,su 67 18,"value","LowerState.value",vs "chancore.lower_state" 777,538,.none,[]⟩,
⟨567,su 67 22,"finished","LowerState.finished",vs "chancore.lower_state" 777,566,.none,[]⟩,
⟨591,su 70 0,"__init__","NamedRow.__init__",vs "chancore.world" 1002,590,.none,[]⟩,
⟨605,st 71,"known_rows","known_rows",vs "chancore.world" 1002,604,.none,[]⟩,
⟨620,su 72 0,"__init__","World.__init__",vs "chancore.world" 1002,619,vr 613,[.none]⟩,
⟨627,su 72 1,"base_of","World.base_of",vs "chancore.world" 1002,626,.none,[]⟩,
⟨661,st 80,"_law_pool","_law_pool",vs "law_xw0042_01" 1119,660,.none,[]⟩,
⟨668,st 81,"_law_take","_law_take",vs "law_xw0042_01" 1119,667,.none,[]⟩,
⟨675,st 82,"_law_one","_law_one",vs "law_xw0042_01" 1119,674,.none,[]⟩,
⟨682,st 83,"_law_const","_law_const",vs "law_xw0042_01" 1119,681,.none,[]⟩,
⟨687,st 84,"_law_number","_law_number",vs "law_xw0042_01" 1119,686,.none,[]⟩,
⟨692,st 85,"_law_looked","_law_looked",vs "law_xw0042_01" 1119,691,.none,[]⟩,
⟨699,st 86,"_law_truth","_law_truth",vs "law_xw0042_01" 1119,698,.none,[]⟩,
⟨706,st 87,"_law_stop","_law_stop",vs "law_xw0042_01" 1119,705,.none,[]⟩,
⟨713,st 88,"_law_worked","_law_worked",vs "law_xw0042_01" 1119,712,.none,[]⟩,
⟨720,st 89,"_law_item","_law_item",vs "law_xw0042_01" 1119,719,.none,[]⟩,
⟨725,st 90,"_law_worth","_law_worth",vs "law_xw0042_01" 1119,724,.none,[]⟩,
⟨732,st 91,"_law_read","_law_read",vs "law_xw0042_01" 1119,731,.none,[]⟩,
⟨739,st 92,"_law_object","_law_object",vs "law_xw0042_01" 1119,738,.none,[]⟩,
⟨744,st 93,"_law_done","_law_done",vs "law_xw0042_01" 1119,743,.none,[]⟩,
⟨751,st 94,"_law_step","_law_step",vs "law_xw0042_01" 1119,750,.none,[]⟩,
⟨756,st 95,"_law_walked","_law_walked",vs "law_xw0042_01" 1119,755,.none,[]⟩,
⟨763,st 96,"_law_is_right","_law_is_right",vs "law_xw0042_01" 1119,762,.none,[]⟩,
⟨768,st 97,"law","law",vs "law_xw0042_01" 1119,767,.none,[]⟩]
noncomputable def gls:List (String×D):=[("underlying_of",.val (vr 74)),
("zero_value",.val (vr 79)),
("made_value",.val (vr 268)),
("base_kind",.val (vr 139)),
("is_in_memory",.val (vr 146)),
("way_to",.val (vr 160)),
("pointer_along",.val (vr 167)),
("new_variable",.val (vr 188)),
("load_place",.val (vr 195)),
("value_of",.val (vr 206)),
("values_of",.val (vr 213)),
("operands_of",.val (vr 218)),
("constant_of",.val (vr 225)),
("worked_value",.val (vr 237)),
("lazy_value",.val (vr 244)),
("asked_values",.val (vr 251)),
("struct_operands",.val (vr 261)),
("made_value_lower_exprs",.val (vr 268)),
("slice_value",.val (vr 273)),
("table_value",.val (vr 278)),
("TypedFn",.val (vr 295)),
("Code",.val (vr 338)),
("next_blocks",.val (vr 349)),
("blocks_reached",.val (vr 356)),
("led_elsewhere",.val (vr 363)),
("with_kept_blocks",.val (vr 370)),
("is_operand",.val (vr 377)),
("operands_within",.val (vr 382)),
("operands_read",.val (vr 389)),
("registers_written",.val (vr 394)),
("registers_of",.val (vr 399)),
("LowerState",.val (vr 570)),
("NamedRow",.val (vr 594)),
("known_rows",.val (vr 605)),
("World",.val (vr 637)),
("_law_pool",.val (vr 661)),
("_law_take",.val (vr 668)),
("_law_one",.val (vr 675)),
("_law_const",.val (vr 682)),
("_law_number",.val (vr 687)),
("_law_looked",.val (vr 692)),
("_law_truth",.val (vr 699)),
("_law_stop",.val (vr 706)),
("_law_worked",.val (vr 713)),
("_law_item",.val (vr 720)),
("_law_worth",.val (vr 725)),
("_law_read",.val (vr 732)),
("_law_object",.val (vr 739)),
("_law_done",.val (vr 744)),
("_law_step",.val (vr 751)),
("_law_walked",.val (vr 756)),
("_law_is_right",.val (vr 763)),
("law",.val (vr 768)),
("INT_lower_exprs",(.tup [(k "int"),(k "int")])),
("BOOL_lower_exprs",(.tup [(k "bool")])),
("READ",(.tup [(k "global"),(k "field"),(k "deref"),(k "index")])),
("PAIRS",(.tup [(k "assert"),(k "key"),(k "receive")])),
("PAIRED",(.tup [(k "mapget"),(k "assert"),(k "recv")])),
("UNWRITTEN",(.tup [(k "store"),(k "mapset"),(k "mapdel"),(k "send"),(k "close"),(k "go"),(k "defer"),(k "defers"),(k "print"),(k "sync")])),
("PLAIN",(.tup [(k "func"),(.tup []),(.tup []),(.bool false)])),
("_law_i8",(.tup [(k "int"),(k "int8")])),
("_law_int",(.tup [(k "int"),(k "int")])),
("_law_bool",(.tup [(k "bool")])),
("_law_row",(.tup [(k "array"),(.int 2),(.tup [(k "int"),(k "int8")])])),
("_law_pair",(.tup [(k "struct"),(.tup [(.tup [(k "a"),(.tup [(k "int"),(k "int8")]),(.bool false)]),(.tup [(k "b"),(.tup [(k "bool")]),(.bool false)])])])),
("_law_any",(.tup [(k "interface"),(.tup [])])),
("address_of",.val (vr 174))]
noncomputable def bls:List (String×Value):=[("len",.builtin "len"),("abs",.builtin "abs"),("max",.builtin "max"),("isinstance",.builtin "isinstance"),("sorted",.builtin "sorted"),("int",.type "int"),("tuple",.type "tuple"),("list",.type "list"),("dict",.type "dict"),("set",.type "set"),("frozenset",.type "frozenset"),("range",.type "range"),("enumerate",.type "enumerate")]
noncomputable def mts:List (Addr×String×Addr):=[(338,"instructions",323),(338,"terminator",330),(570,"new_register",420),(570,"new_block",427),(570,"put",434),(570,"fresh",441),(570,"close",448),(570,"go",462),(570,"next_site",469),(570,"type_of_local",476),(570,"is_boxed",483),(570,"take_register",490),(570,"begin_local",497),(570,"pointer_of",504),(570,"local_value",511),(570,"set_local",518),(570,"kept",525),(570,"zero_operand",532),(570,"value",539),(570,"finished",567),(637,"base_of",627)]
noncomputable def ats:List (Addr×List String):=[(295,["key","locals","params","results","captured","body","literals"]),(338,["key","params","registers","blocks","captured","results","recovery"]),(570,["world","typed_fn","boxed","known","held","sites","loops","has_defers","spot","code","here"]),(594,["path","package","underlying","methods"]),(637,["packages","named","globals","consts","funcs","bodies","files","scopes","order","starts","settle","want","mentions","measured","values","inits","late_keys","late_parts","late_sizes","is_whole"])]
noncomputable def cls:List (Addr×Addr):=[(295,292),(338,316),(570,413),(594,591),(637,620)]
noncomputable def FE.fd(e:FE):FuncData:=⟨so e.n,so e.q,fA e.s,.stmts (fB e.s),fS e.s,3,[],e.dv,.none,.none,e.pm,none,.ref e.c,.none,0⟩
noncomputable def FE.obj(e:FE):Obj:=⟨.type "function",none,.func e.fd,#[]⟩
noncomputable def FE.fn(e:FE):Fn:=⟨(fA e.s).args.map (·.arg),e.ds,fB e.s,(fS e.s).names⟩
noncomputable def T0:Tab where
 glob x:=match gls.find? (λe=>Str.ofString e.1==x) with
  | some e=>some e.2
  | none=>(bls.find? λe=>Str.ofString e.1==x).map λe=> .val e.2
 meth C m:=(mts.find? λe=>e.1==C&&Str.ofString e.2.1==m).map λe=> .val (.ref e.2.2)
 attr C x:=(ats.find? (·.1==C)).any λe=>e.2.any λy=>Str.ofString y==x
 lamV:=so "places"
 lamP:=so "turned"
 qT:=⟨360,54,360,79⟩
 callee a:=match fes.find? (·.a==a) with
  | some e=>some (.fn e.fn)
  | none=>(cls.find? (·.1==a)).map λe=> .cls e.2
end
end
section
open PySem PySem.W PyProof.Rows
section
noncomputable def KX(P:Params):Frag:=(KF P).filter λe=>e.1 !=365
noncomputable def gl(w:World)(h:Heap)(mg mb:Str->Option Value):Gl:=⟨pw,w,KX w.params,h,365,369,so "with_kept_blocks.<locals>.<lambda>",mg,mb,T0⟩
noncomputable def ash:Data->Option (Array Value)
 | .seq vs Y=>some vs
 | Y=>none
theorem air{d:Data}{vs:Array Value}(e:ash d=some vs):∃n,d=.seq vs n:=by
 rcases d with⟨⟩<;>w_pre e;cases e;exact⟨_,rfl⟩
noncomputable def ais(K:Frag)(a:Addr):Option (Array Value):=(K.lookup a).bind λo=>if o.cls==.type "tuple" then ash o.data else none
noncomputable def aos(K:Frag)(F:List Value->Option (List D))(a:Addr):Option D:=match ais K a with
 | some vs=>(F vs.toList).map .tup
 | none=>some (.val (.ref a))
mutual
noncomputable def aot(K:Frag):Nat->Value->Option D
 | 0,Y=>none
 | Y+1,.none=>some .none
 | Y+1,.bool b=>some (.bool b)
 | Y+1,.int i Z=>some (.int i)
 | Y+1,.str s Z=>some (.str s)
 | n+1,.ref a=>aos K (aep K n) a
 | Y+1,Z=>none
noncomputable def aep(K:Frag):Nat->List Value->Option (List D)
 | Y,[]=>some []
 | 0,Y::Z=>none
 | n+1,v::r=>(aot K n v).bind λd=>(aep K n r).map (d:: ·)
end
end
theorem ait{K:Frag}{h:Heap}(X:K.In h){a:Addr}{vs:Array Value}(e:ais K a=some vs):h.IsTuple a vs:=by
 obtain⟨o,ho,e⟩:=yR e;by_cases hc:(o.cls==.type "tuple")=true
 ·obtain⟨n,hd⟩:=air ((if_pos hc).symm.trans e);exact⟨o,X a o ho,beq_iff_eq.mp hc,n,hd⟩
 ·exact nS e (if_neg hc)
mutual
theorem ab2{K:Frag}{h:Heap}(X:K.In h):∀(n:Nat) (v:Value) (d:D),aot K n v=some d->Rep h [] v d
 | 0,v,d,e=>nS e rfl
 | n+1,v,d,e=>by
  cases v<;>first | exact nS e rfl | (cases e;first | exact .none | exact .bool _ | exact .int _ _ | exact .str _ _) | skip
  replace e:aos K (aep K n) a=some d:=e
  delta aos at e
  rcases hv:ais K a with _ | vs
  ·rw[hv] at e;cases e;exact .val _
  ·rw[hv] at e;obtain⟨ds,h1,rfl⟩:=yA e;exact .tup (ait X hv) (x9 X n _ _ h1)
theorem x9{K:Frag}{h:Heap}(X:K.In h):∀(n:Nat) (vs:List Value) (ds:List D),aep K n vs=some ds->av h [] vs ds
 | 0,[],ds,e=>by cases e;exact .nil
 | Y+1,[],ds,e=>by cases e;exact .nil
 | 0,Y::Z,ds,e=>nS e rfl
 | n+1,v::r,ds,e=>by
  obtain⟨d,h1,e⟩:=yR e;obtain⟨ds',h2,rfl⟩:=yA e;exact .cons (ab2 X n _ _ h1) (x9 X n _ _ h2)
end
section
noncomputable def nsK(K:Frag)(x:Str):Option Value:=match K.lookup 3 with
 | some ⟨Y,Z,.dict es U,V⟩=>nsFind es x
 | Y=>none
theorem aiu(P:Params):gls.map (λe=>(nsK (KF P) (Str.ofString e.1)).bind (aot (KF P) 30))=gls.map λe=>some e.2:=by k_go
theorem aou(P:Params):bls.map (λe=>nsK (KF P) (Str.ofString e.1))=bls.map λY=>none:=by k_go
theorem aov:bls.map (λe=>bootBuiltins (Str.ofString e.1))=bls.map λe=>some e.2:=by k_go
theorem aow:bls.all (λe=>Str.ofString e.1 !="__name__")=true:=by k_go
theorem aox(P:Params):fes.map (λe=>(KX P).lookup e.a)=fes.map λe=>some e.obj:=by k_go
noncomputable def fldD:Data->Option (Array Value)
 | .fields us=>some us
 | Y=>none
noncomputable def strV:Option Value->Option Str
 | some (.str s Y)=>some s
 | Y=>none
noncomputable def codeIn(K:Frag)(c:Addr)(q:Str):Bool:=((K.lookup c).bind λo=>(fldD o.data).bind λus=>strV us[1]?)==some q
theorem ve{K:Frag}{c:Addr}{q:Str}(e:codeIn K c q=true):∃o us t,K.lookup c=some o/\o.data=.fields us/\us[1]?=some (.str q t):=by
 obtain⟨o,h1,e⟩:=yR (beq_iff_eq.mp e);obtain⟨us,h2,e⟩:=yR e;refine⟨o,us,?_⟩;have h3:o.data=.fields us:=by
  generalize o.data=d at h2;rcases d with⟨⟩<;>w_pre h2;cases h2;rfl
 generalize us[1]?=v at e⊢;rcases v with _ | v
 ·exact nS e rfl
 rcases v with⟨⟩<;>w_pre e;cases e;exact⟨_,h1,h3,rfl⟩
noncomputable def FE.ok(P:Params)(e:FE):Bool:=
 (fS e.s).kind==.function&& !(fS e.s).isGenerator&& !(fS e.s).isCoroutine&&codeIn (KX P) e.c (so e.q)&&e.fn.names.all (λx=>x.2 !=.free)&&decide e.fn.params.Nodup&&
 e.fn.params.all (λx=>e.fn.names.lookup x==some .local || e.fn.names.lookup x==some .cell)&&
 (e.fn.names.lookup (so "places") !=some .cell || (e.c==369&&(so e.q++".<locals>.")++"<lambda>"==so "with_kept_blocks.<locals>.<lambda>"))&&
 (fA e.s).posonlyargs.isEmpty&&(fA e.s).kwonlyargs.isEmpty&&(fA e.s).vararg.isNone&&(fA e.s).kwarg.isNone&&keepIn (KX P) (.ref e.a)&&isFn (KX P) (.ref e.a)&&(e.dv==.none)==e.ds.isEmpty
theorem aiv(P:Params):fes.all (FE.ok P)=true:=by k_go
theorem aoy(P:Params):mts.all (λe=>plainGet (KX P) e.1 (Str.ofString e.2.1)&&findIn (KX P) (.ref e.1) (Str.ofString e.2.1)==some (some (.ref e.2.2))&&isFn (KX P) (.ref e.2.2)&&keepIn (KX P) (.ref e.2.2))=true:=by k_go
theorem aoz(P:Params):ats.all (λe=>e.2.all λy=>n7 (KX P) e.1 (Str.ofString y))=true:=by k_go
theorem ao0(P:Params):cls.all (λe=>keepIn (KX P) (.ref e.1)&&makesIn (KX P) e.1&&findIn (KX P) (.ref e.1) "__init__"==some (some (.ref e.2))&&typeIn (KX P) (.ref e.2)==some (.type "function"))=true:=by k_go
end
theorem s7{P:Params}{a:Addr}{o:Obj}(h:(KX P).lookup a=some o):(KF P).lookup a=some o/\a≠365:=by
 unfold KX at h;generalize KF P=l at h⊢
 induction l with
 | nil=>cases h
 | cons e l ih=>
  rw[List.filter_cons] at h;rw[List.lookup_cons];by_cases he:(e.1 !=365)=true
  ·rw[if_pos he,List.lookup_cons] at h;cases hq:a==e.1 with
   | true=>
    rw[hq] at h;exact⟨h,by rw[beq_iff_eq.mp hq];simpa using he⟩
   | false=>rw[hq] at h;exact ih h
  ·rw[if_neg he] at h;obtain⟨h1,h2⟩:=ih h;have:(a==e.1)=false:=by
    rw[beq_eq_false_iff_ne];rintro rfl;exact h2 (by simpa using he)
   rw[this];exact⟨h1,h2⟩
section
variable{w:World}{h:Heap}{mg mb:Str->Option Value}(hK:(KF w.params).In h)
include hK
theorem asi:(KX w.params).In h:=λa o e=>hK a o (s7 e).1
theorem zl(hn:h.Ns mainGlobals mg)(x:Str):mg x=nsK (KF w.params) x:=by
 obtain⟨o,es,ep,e,d,_,r⟩:=hn;have e3:(KF w.params).lookup 3=some (anh w.params):=by k_go
 have:=hK 3 _ e3;rw[show mainGlobals=3 from rfl,this] at e;cases e;cases d;rw[<-r x];unfold nsK;rw[e3];rfl
end
theorem agk:fes.filter (λe=> !e.ds.isEmpty)=[⟨316,su 56 0,"__init__","Code.__init__",Internal.vs "chancore.code" 621,315,vr 309,[.int 0,.int 0,.none]⟩,⟨620,su 72 0,"__init__","World.__init__",Internal.vs "chancore.world" 1002,619,vr 613,[.none]⟩]:=by k_go
theorem bs8{s:Shared}{fd:FuncData}{us:List Value}{T:Addr}{x y z:Value}{n:Nat}{o:Obj}{k:Option (Array Value)->Sem (List (Str×Value))}{r:List (Str×Value)}(hd:fd.defaults=.ref T)(ho:s.heap.get? T=some o)(hs:o.data=.seq #[x,y,z] n)
  (h₁:bindArgs fd ⟨us,[]⟩=seqItems? fd.defaults>>=k) (h₂:k (some #[x,y,z])=pure r):BindsTo s fd ⟨us,[]⟩ r:=BindsTo.of_defaults hd ho hs h₁ h₂
noncomputable abbrev ao1:FE:=⟨316,su 56 0,"__init__","Code.__init__",Internal.vs "chancore.code" 621,315,vr 309,[.int 0,.int 0,.none]⟩
theorem ao2:ao1.fn.params=[so "self",so "key",so "params",so "registers",so "blocks",so "captured",so "results",so "recovery"]:=by k_go
noncomputable abbrev ao3:FE:=⟨620,su 72 0,"__init__","World.__init__",Internal.vs "chancore.world" 1002,619,vr 613,[.none]⟩
theorem ao4:ao3.fn.params=[so "self",so "packages"]:=by k_go
theorem bs2{s:Shared}{fd:FuncData}{us:List Value}{T:Addr}{x:Value}{n:Nat}{o:Obj}{k:Option (Array Value)->Sem (List (Str×Value))}{r:List (Str×Value)}(hd:fd.defaults=.ref T)(ho:s.heap.get? T=some o)(hs:o.data=.seq #[x] n)
  (h₁:bindArgs fd ⟨us,[]⟩=seqItems? fd.defaults>>=k) (h₂:k (some #[x])=pure r):BindsTo s fd ⟨us,[]⟩ r:=BindsTo.of_defaults hd ho hs h₁ h₂
section
variable{w:World}{h:Heap}{mg mb:Str->Option Value}(hK:(KF w.params).In h)
theorem ao5:af5 (gl w h mg mb) ao1.fn ao1.fd:=by
 refine⟨[vi 0 650,vi 0 651,.none],.cons (.int _ _) (.cons (.int _ _) (.cons .none .nil)),λs us X h1 h2=> ?_⟩;have ho:s.heap.get? 309=some (aru w.params):=X 309 _ (by k_go);rw[ao2] at h1 h2⊢;have h2:5<=us.length:=h2;have h1:us.length<=8:=h1;rcases us with _ | ⟨a,_ | ⟨b,_ | ⟨c,_ | ⟨d,_ | ⟨e,us⟩⟩⟩⟩⟩<;>try (simp at h2;done)
 rcases us with _ | ⟨f,_ | ⟨g,_ | ⟨i,_ | ⟨j,us⟩⟩⟩⟩
 ·exact bs8 rfl ho rfl rfl rfl
 ·exact bs8 rfl ho rfl rfl rfl
 ·exact bs8 rfl ho rfl rfl rfl
 ·exact bs8 rfl ho rfl rfl rfl
 ·simp at h1
theorem ao6:af5 (gl w h mg mb) ao3.fn ao3.fd:=by
 refine⟨[.none],.cons .none .nil,λs us X h1 h2=> ?_⟩;have ho:s.heap.get? 613=some (arv w.params):=X 613 _ (by k_go);rw[ao4] at h1 h2⊢;have h2:1<=us.length:=h2;have h1:us.length<=2:=h1;rcases us with _ | ⟨a,_ | ⟨b,_ | ⟨c,us⟩⟩⟩
 ·simp at h2
 ·exact bs2 rfl ho rfl rfl rfl
 ·exact bs2 rfl ho rfl rfl rfl
 ·simp at h1
theorem vg{α:Type}{l:List α}(h:l.isEmpty=true):l=[]:=List.isEmpty_iff.mp h
include hK in
theorem asj(e:FE)(he:e∈fes):ak2 (gl w h mg mb) e.fn e.fd:=by
 have ho:=List.all_eq_true.mp (aiv w.params) e he;simp only[FE.ok,Bool.and_eq_true,Bool.not_eq_true',List.all_eq_true,bne_iff_ne,beq_iff_eq,Bool.or_eq_true,decide_eq_true_eq,ne_eq] at ho;obtain⟨⟨⟨⟨⟨⟨⟨⟨⟨⟨⟨⟨⟨⟨h1,h2⟩,h3⟩,h4⟩,h5⟩,h6⟩,h7⟩,h8⟩,h9⟩,h10⟩,h11⟩,h12⟩,h13⟩,h14⟩,h15⟩:=ho;refine⟨rfl,rfl,rfl,h1,h2,h3,rfl,rfl,⟨?_,?_⟩,λx hx=>h5 x hx,h6,λx hx=>h7 x hx,λhl=> ?_,?_⟩
 ·obtain⟨o,us,t,hc,hd,hq⟩:=ve h4;exact⟨e.c,_,us,t,rfl,asi hK _ _ hc,hd,hq⟩
 ·intro z;obtain⟨o,us,t,hc,hd,hq⟩:=ve h4
  ·have z':e.c=365:=by have:Value.ref e.c=.ref 365:=z;injection this
   exact(s7 hc).2 z'
 ·rcases h8 with q | ⟨q1,q2⟩
  ·exact absurd hl q
  ·exact⟨by show Value.ref e.c=.ref 369;rw[q1],q2⟩
 ·by_cases hds:e.ds=[]
  ·have hdv:e.dv=.none:=by
    rw[hds] at h15;by_cases q:e.dv=.none
    ·exact q
    ·simp[q] at h15
   exact af5.none hds (vg h9) rfl (vg h10) (Option.isNone_iff_eq_none.mp h11) (Option.isNone_iff_eq_none.mp h12) hdv h6
  ·have hm:e∈fes.filter (λe=> !e.ds.isEmpty):=List.mem_filter.mpr ⟨he,by cases q:e.ds<;>simp_all⟩;rw[agk] at hm;rcases yM hm with rfl | hm
   ·exact ao5
   ·rcases yM hm with rfl | hm
    ·exact ao6
    ·cases hm
theorem jp{α β:Type}{f g:α->β}:∀{l:List α},l.map f=l.map g->∀x∈l,f x=g x
 | [],Y,x,hx=>by cases hx
 | a::l,e,x,hx=>by
  rw[List.map_cons,List.map_cons,List.cons.injEq] at e;rcases yM hx with rfl | hx
  ·exact e.1
  ·exact jp e.2 x hx
theorem jq{α:Type}{p:α->Bool}{l:List α}{e:α}(h:l.find? p=some e):e∈l/\p e=true:=⟨List.mem_of_find?_eq_some h,List.find?_some h⟩
include hK in
theorem asl(hg:h.Ns mainGlobals mg)(hb:h.Ns builtinsNs mb)(hl:h.NoLimit)(hbb:∀x:Str,x≠"__name__"->mb x=bootBuiltins x):Internal.Ground (gl w h mg mb) where
 fit:=by
  refine⟨λa o e=>⟨hK a o (s7 e).1,(s7 e).2⟩,hg,show(3:Nat)≠365 by decide,hb,show(0:Nat)≠365 by decide,hl,show(2:Nat)≠365 by decide,⟨_,hK 1 _ (show(KF w.params).lookup 1=some (o1 w.params) by k_go)⟩,?_,?_,?_⟩
  ·refine⟨4,o4 w.params,?_,by decide,by decide,show(4:Nat)≠365 by decide,hK 4 _ (by k_go),rfl,rfl,rfl⟩;show mg "__builtins__"=some (.ref 4);rw[zl hK hg];k_go
  ·exact λh O=>⟨aop w.params,_,_,_,_,_,_,_,_,O 369 _ (hK 369 _ (by k_go)) (show(369:Nat)≠365 by decide),rfl,rfl,rfl,rfl,rfl,rfl,rfl,rfl,show(369:Nat)≠365 by decide⟩
  ·exact⟨#[],hK 365 _ (show(KF w.params).lookup 365=some (alc w.params) by k_go),trivial,.inl rfl⟩
 glob:=λx d e=>by
  simp only[gl,T0] at e;split at e
  ·rename_i a ha;cases e;obtain⟨h1,h2⟩:=jq ha;have hx:=beq_iff_eq.mp h2;have:=jp (aiu w.params) a h1;obtain⟨v,e1,e2⟩:=yR this;exact⟨v,ab2 hK _ _ _ e2,.inl (by show mg x=_;rw[zl hK hg,<-hx];exact e1)⟩
  ·obtain⟨a,ha,rfl⟩:=yA e;obtain⟨h1,h2⟩:=jq ha;have hx:=beq_iff_eq.mp h2;refine⟨_,.val _,.inr ⟨?_,?_⟩⟩
   ·show mg x=none;rw[zl hK hg,<-hx];exact jp (aou w.params) a h1
   ·show mb x=_;have hne:x≠"__name__":=by rw[<-hx];simpa using List.all_eq_true.mp aow a h1
    rw[hbb x hne,<-hx];exact jp aov a h1
 meth:=λC m f e=>by
  simp only[gl,T0] at e;obtain⟨a,ha,rfl⟩:=yA e;obtain⟨h1,h2⟩:=jq ha;simp only[Bool.and_eq_true,beq_iff_eq] at h2;have:=List.all_eq_true.mp (aoy w.params) a h1;simp only[Bool.and_eq_true,beq_iff_eq] at this;rw[h2.1,h2.2] at this;exact⟨_,rfl,this.1.1.1,this.1.1.2,this.1.2,this.2⟩
 attr:=λC x e=>by
  simp only[gl,T0] at e;obtain⟨a,ha,e⟩:=(Option.any_eq_true _ _).mp e;obtain⟨h1,h2⟩:=jq ha;obtain⟨y,hy,hx⟩:=List.any_eq_true.mp e;have:=List.all_eq_true.mp (List.all_eq_true.mp (aoz w.params) a h1) y hy;rw[beq_iff_eq.mp h2,beq_iff_eq.mp hx] at this;exact this
 fn:=λa f e=>by
  simp only[gl,T0] at e;split at e
  ·rename_i x hx;cases e;obtain⟨h1,h2⟩:=jq hx;have h2:=beq_iff_eq.mp h2;have ho:=List.all_eq_true.mp (aiv w.params) x h1;simp only[FE.ok,Bool.and_eq_true] at ho;have hl:=jp (aox w.params) x h1;rw[h2] at hl;refine⟨by rw[<-h2];exact ho.1.1.2,x.obj,x.fd,hl,rfl,asj hK x h1⟩
  ·obtain⟨_,_,z⟩:=yA e;exact Callee.noConfusion z
 cls:=λa i e=>by
  simp only[gl,T0] at e;split at e
  ·exact Callee.noConfusion (yD e)
  ·obtain⟨x,hx,z⟩:=yA e;cases z;obtain⟨h1,h2⟩:=jq hx;have h2:=beq_iff_eq.mp h2;have:=List.all_eq_true.mp (ao0 w.params) x h1;simp only[Bool.and_eq_true,beq_iff_eq] at this;rw[h2] at this;exact⟨this.1.1.1,this.1.1.2,this.1.2,this.2⟩
end
end
section
open PySem
theorem wo{α:Type}{r:Option α}{K:α->Prop}{a:α}(e:r=some a)(q:K a):Wv r K:=by subst e;k_lt q
theorem wr{α:Type}{r:Option (α×ac)}{Q:α->ac->Prop}{a:α}{s:ac}(e:r=some (a,s))(q:Q a s):Wr r Q:=by subst e;k_lt q
theorem kbN{f:af->ac->KS->Prop}{ρ:af}{J:ac}{Q:KS}(h:f ρ J Q):Kb f Q none ρ J:=by k_lt h
theorem kiN{A B:Prop}{b:Bool}(h:Ki B A b):Ki A B (!b):=by cases b<;>k_lt h
theorem fo{A B:Prop}{b:Bool}(h1:b=true->A)(h2:b=false->B):Ki A B b:=by cases b<;>first | exact h1 rfl | exact h2 rfl
section
variable{c:Cx}{sc:aq}{ρ:af}{J:ac}{Q:KD}{QL:KL}{QT:KT}{QS:KS}
theorem wKn{m:Nat}{p:Pos}(q:Q .none J):vE c sc (.Constant .none m p) ρ J Q:=by k_lt q
theorem wKb{b:Bool}{m:Nat}{p:Pos}(q:Q (.bool b) J):vE c sc (.Constant (.bool b) m p) ρ J Q:=by k_lt q
theorem wKi{i:Int}{m:Nat}{p:Pos}(q:Q (.int i) J):vE c sc (.Constant (.int i) m p) ρ J Q:=by k_lt q
theorem wKs{s:Str}{m:Nat}{p:Pos}(q:Q (.str s) J):vE c sc (.Constant (.str s) m p) ρ J Q:=by k_lt q
theorem wNm{x:Str}{p:Pos}{d:D}(h:nameP c sc ρ x=some d)(q:Q d J):vE c sc (.Name x p) ρ J Q:=by with_unfolding_all exact wo h q
theorem wBin{l r:Expr}{op:Operator}{p:Pos}(h:vE c sc l ρ J (kB1 (vE c sc r) op ρ Q)):vE c sc (.BinOp l op r p) ρ J Q:=by k_lt h
theorem wUn{x:Expr}{op:UnaryOp}{p:Pos}(h:vE c sc x ρ J (kUn op Q)):vE c sc (.UnaryOp op x p) ρ J Q:=by k_lt h
theorem wCmp{l:Expr}{ops:List CmpOp}{rs:List Expr}{p:Pos}(h:vE c sc l ρ J (kC1 (cp c sc ops rs) ρ (kBl Q))):vE c sc (.Compare l ops rs p) ρ J Q:=by k_lt h
noncomputable def ao7(op:CmpOp)(e:Expr):Bool:=match op with
 | .In=> !Nat.beq e.ctorIdx 24
 | Y=>true
theorem wCh1{a:D}{op:CmpOp}{r:Expr}(hp:ao7 op r=true)(h:vE c sc r ρ J (kH1 op a QT)):cp c sc [op] [r] a ρ J QT:=by
 cases op<;>first | k_lt h | (cases r<;>first | k_lt h | cases hp)
theorem wChI{a:D}{es:List Expr}{p:Pos}(h:vEs c sc es ρ J (kIn a QT))(hl:Nat.ble es.length 64=true):cp c sc [.In] [.List es p] a ρ J QT:=by with_unfolding_all show Ki _ _ _;rw[hl];k_lt h
theorem wCh2{a:D}{op o2:CmpOp}{ops:List CmpOp}{r r2:Expr}{rs:List Expr}(h:vE c sc r ρ J (kH2 op a (cp c sc (o2::ops) (r2::rs)) ρ QT)):cp c sc (op::o2::ops) (r::r2::rs) a ρ J QT:=by cases op<;>k_lt h
theorem wIfE{t b o:Expr}{p:Pos}(h:vT c sc t (vE c sc t) ρ J (kIE (vE c sc b) (vE c sc o) ρ Q)):vE c sc (.IfExp t b o p) ρ J Q:=by k_lt h
theorem wTup{es:List Expr}{m:Nat}{p:Pos}(h:vEs c sc es ρ J (kTu Q))(hl:Nat.ble es.length 64=true):vE c sc (.Tuple es m p) ρ J Q:=by with_unfolding_all show Ki _ _ _;rw[hl];k_lt h
theorem wLst{es:List Expr}{p:Pos}(h:vEs c sc es ρ J (kLi Q))(hl:Nat.ble es.length 64=true):vE c sc (.List es p) ρ J Q:=by with_unfolding_all show Ki _ _ _;rw[hl];k_lt h
theorem wNil(q:QL [] J):vEs c sc [] ρ J QL:=by k_lt q
theorem asn{e:Expr}{es:List Expr}(h:vE c sc e ρ J (kE1 (vEs c sc es) ρ QL)):vEs c sc (e::es) ρ J QL:=by k_lt h
theorem aso(q:QL [] J):iz c sc [] ρ J QL:=by k_lt q
theorem ao8{e:Expr}{es:List Expr}(hl:sf c sc ρ e=none)(h:vE c sc e ρ J (kE1 (iz c sc es) ρ QL)):iz c sc (e::es) ρ J QL:=by
 with_unfolding_all show(match sf c sc ρ e with | some l=>_ | none=>_);rw[hl];k_lt h
theorem asp{e:Expr}{es:List Expr}{l:D}(hl:sf c sc ρ e=some l)(h:iz c sc es ρ J (kE2 l QL)):iz c sc (e::es) ρ J QL:=by
 with_unfolding_all show(match sf c sc ρ e with | some l=>_ | none=>_);rw[hl];k_lt h
theorem wDic{ks:List (Option Expr)}{vs:List Expr}{p:Pos}(h:jb c sc ks vs ρ J (kDi Q))(hl:yi ks vs=true):vE c sc (.Dict ks vs p) ρ J Q:=by with_unfolding_all show Ki _ _ _;rw[hl];k_lt h
theorem asq{QP:List (D×D)->ac->Prop}(q:QP [] J):jb c sc [] [] ρ J QP:=by k_lt q
theorem ao9{QP:List (D×D)->ac->Prop}{k:Option Expr}{ks:List (Option Expr)}{v:Expr}{vs:List Expr}{a:D}(hk:ig k=some a)(h:vE c sc v ρ J (kP1 a (jb c sc ks vs) ρ QP)):jb c sc (k::ks) (v::vs) ρ J QP:=by with_unfolding_all exact wo hk h
theorem wAt{e:Expr}{x:Str}{p:Pos}(h:vE c sc e ρ J (kAt c x Q)):vE c sc (.Attribute e x p) ρ J Q:=by k_lt h
theorem wSub{e i:Expr}{p:Pos}(h:vE c sc e ρ J (kI1 (vE c sc i) ρ Q))(hs:ku i=true):vE c sc (.Subscript e i p) ρ J Q:=by
 cases i<;>first | k_lt h | (cases hs)
theorem wO0(q:Q .none J):vO c sc none ρ J Q:=by k_lt q
theorem wO1{e:Expr}(h:vE c sc e ρ J Q):vO c sc (some e) ρ J Q:=by k_lt h
theorem wSl{e:Expr}{lo hi st:Option Expr}{p p':Pos}(h:vE c sc e ρ J (kS1 (vO c sc lo) (vO c sc hi) (vO c sc st) ρ Q)):vE c sc (.Subscript e (.Slice lo hi st p) p') ρ J Q:=by k_lt h
theorem wCM{o:Expr}{m:Str}{ap p:Pos}{args:List Expr}(hc:(Nat.beq ap.endLine p.line&&(Nat.blt args.length 20&&args.all noStar))=true)(h:vE c sc o ρ J (kM1 c (vEs c sc args) m ρ Q)):vE c sc (.Call (.Attribute o m ap) args [] p) ρ J Q:=by with_unfolding_all show Ki _ _ _;rw[hc];k_lt h
theorem wCN{x:Str}{p p':Pos}{args:List Expr}{fv:D}(hs:args.all noStar=true)(hl:args.any aar=false)(hn:ce c sc ρ x=some fv)(h:vEs c sc args ρ J (kF2 c fv Q)):vE c sc (.Call (.Name x p) args [] p') ρ J Q:=by
 with_unfolding_all show Ki _ _ _;rw[hs];with_unfolding_all show Ki _ _ _;rw[hl];with_unfolding_all exact wo hn h
theorem wCNL{x:Str}{p p':Pos}{args:List Expr}{fv:D}(hs:args.all noStar=true)(hl:args.any aar=true)(hn:ce c sc ρ x=some fv)(h:iz c sc args ρ J (kL2 c fv Q)):vE c sc (.Call (.Name x p) args [] p') ρ J Q:=by
 with_unfolding_all show Ki _ _ _;rw[hs];with_unfolding_all show Ki _ _ _;rw[hl];with_unfolding_all exact wo hn h
theorem wCS{e i:Expr}{p p':Pos}{args:List Expr}(hs:args.all noStar=true)(h:vE c sc e ρ J (kI1 (vE c sc i) ρ (kG1 c (vEs c sc args) ρ Q))):vE c sc (.Call (.Subscript e i p) args [] p') ρ J Q:=by with_unfolding_all show Ki _ _ _;rw[hs];k_lt h
theorem wBo1{op:BoolOp}{e:Expr}(h:vE c sc e ρ J Q):vBool c sc op [e] ρ J Q:=by k_lt h
theorem wBo2{op:BoolOp}{e e2:Expr}{es:List Expr}(h:vE c sc e ρ J (kO1 op (vBool c sc op (e2::es)) ρ Q)):vBool c sc op (e::e2::es) ρ J Q:=by k_lt h
theorem wBo{op:BoolOp}{es:List Expr}{p:Pos}(h:vBool c sc op es ρ J Q):vE c sc (.BoolOp op es p) ρ J Q:=by k_lt h
theorem wTN{x:Expr}{p:Pos}{w:af->ac->KD->Prop}(h:vT c sc x (vE c sc x) ρ J (kNo QT)):vT c sc (.UnaryOp .Not x p) w ρ J QT:=by k_lt h
theorem wTB{op:BoolOp}{es:List Expr}{p:Pos}{w:af->ac->KD->Prop}(h:yj c sc op es ρ J QT):vT c sc (.BoolOp op es p) w ρ J QT:=by k_lt h
theorem wTC{l:Expr}{ops:List CmpOp}{rs:List Expr}{p:Pos}{w:af->ac->KD->Prop}(h:vE c sc l ρ J (kC1 (cp c sc ops rs) ρ QT)):vT c sc (.Compare l ops rs p) w ρ J QT:=by k_lt h
theorem wTI{t b o:Expr}{p:Pos}{w:af->ac->KD->Prop}(h:vT c sc t (vE c sc t) ρ J (kTI (vT c sc b (vE c sc b)) (vT c sc o (vE c sc o)) ρ QT)):vT c sc (.IfExp t b o p) w ρ J QT:=by k_lt h
theorem wTV{x:Expr}{w:af->ac->KD->Prop}(hp:afg x=true)(h:w ρ J (kTr QT)):vT c sc x w ρ J QT:=by
 cases x<;>first | k_lt h | cases hp | skip
 cases op<;>first | k_lt h | cases hp
theorem wAl0{op:BoolOp}(q:QT (match op with | .And=>true | .Or=>false) J):yj c sc op [] ρ J QT:=by k_lt q
theorem wAl1{op:BoolOp}{e:Expr}{es:List Expr}(h:vT c sc e (vE c sc e) ρ J (kAl op (yj c sc op es) ρ QT)):yj c sc op (e::es) ρ J QT:=by k_lt h
theorem wIf0(q:QT true J):qu c sc [] ρ J QT:=by k_lt q
theorem wIf1{e:Expr}{es:List Expr}(h:vT c sc e (vE c sc e) ρ J (an7 (qu c sc es) ρ QT)):qu c sc (e::es) ρ J QT:=by k_lt h
theorem wB0(q:QS none ρ J):vB c sc [] ρ J QS:=by k_lt q
theorem wB1{s:Stmt}{r:List Stmt}(h:vS c sc s ρ J (Kb (vB c sc r) QS)):vB c sc (s::r) ρ J QS:=by k_lt h
theorem wSR{e:Expr}{p:Pos}(h:vE c sc e ρ J (kRt ρ QS)):vS c sc (.Return (some e) p) ρ J QS:=by k_lt h
theorem wSE{e:Expr}{p:Pos}(hc:ua e=false)(h:vE c sc e ρ J (kEx ρ QS)):vS c sc (.Expr e p) ρ J QS:=by with_unfolding_all show Ki _ _ _;rw[hc];k_lt h
theorem wSA{t e:Expr}{p:Pos}(hok:ou t e=true)(h:vE c sc e ρ J (kAs (fk c sc t) ρ QS)):vS c sc (.Assign [t] e p) ρ J QS:=by with_unfolding_all show Ki _ _ _;rw[hok];k_lt h
theorem wAN{x:Str}{p:Pos}{d:D}(hs:cf sc x=true)(q:QS none (upd ρ x d) J):fk c sc (.Name x p) d ρ J QS:=by with_unfolding_all show Ki _ _ _;rw[hs];k_lt q
theorem wAA{o:Expr}{x:Str}{p:Pos}{d:D}(h:vE c sc o ρ J (kAA c x d ρ QS)):fk c sc (.Attribute o x p) d ρ J QS:=by k_lt h
theorem wAI{o i:Expr}{p:Pos}{d:D}(h:vE c sc o ρ J (an8 (vE c sc i) d ρ QS)):fk c sc (.Subscript o i p) d ρ J QS:=by k_lt h
theorem wSI{t:Expr}{b o:List Stmt}{p:Pos}(h:vT c sc t (vE c sc t) ρ J (kSI (vB c sc b) (vB c sc o) ρ QS)):vS c sc (.If t b o p) ρ J QS:=by k_lt h
end
section
variable{c:Cx}{sc sc':aq}{ρ ρ':af}{J:ac}{Q:KD}{QT:KT}{QS:KS}{QR:Src->ac->Prop}
theorem wWh{t:Expr}{b:List Stmt}{p:Pos}(h:ii (vT c sc t (vE c sc t)) (vB c sc b) qw ρ J QS):vS c sc (.While t b [] p) ρ J QS:=by k_lt h
theorem wWs{t:af->ac->KT->Prop}{b:af->ac->KS->Prop}{f:Nat}(h:t ρ J (kWh b (ii t b f) ρ QS)):ii t b (f+1) ρ J QS:=by k_lt h
theorem wWh0{t:Expr}{b:List Stmt}{p:Pos}(h:vT c sc t (vE c sc t) ρ J (kWh (vB c sc b) (ii (vT c sc t (vE c sc t)) (vB c sc b) 4095) ρ QS)):vS c sc (.While t b [] p) ρ J QS:=by k_lt h
theorem wFor{t it:Expr}{b:List Stmt}{p:Pos}(h:ny c sc it (vE c sc it) ρ J (kFo sc t (vB c sc b) ρ QS)):vS c sc (.For t it b [] p) ρ J QS:=by k_lt h
theorem ktN{again:af->ac->KS->Prop}(h:again ρ J QS):Kt again QS none ρ J:=by k_lt h
theorem ktS{again:af->ac->KS->Prop}{d:D}(h:QS (some d) ρ J):Kt again QS (some d) ρ J:=by k_lt h
theorem wT0{src:Src}{step:D->af->ac->KS->Prop}{f i:Nat}(h:ic J i src=some none)(q:QS none ρ J):turns src step (f+1) i ρ J QS:=by with_unfolding_all exact wo h q
theorem wT1{src:Src}{step:D->af->ac->KS->Prop}{f i:Nat}{x:D}(h:ic J i src=some (some x))(k:step x ρ J (Kt (turns src step f (i+1)) QS)):turns src step (f+1) i ρ J QS:=by with_unfolding_all exact wo h k
theorem wCp{elt t iter:Expr}{ifs:List Expr}{scope:Scope}{p:Pos}(hok:ju sc scope=true)(h:ny c sc iter (vE c sc iter) ρ J (kCp scope.names t (qu c scope.names ifs) (vE c scope.names elt) ρ Q)):vE c sc (.ListComp elt [⟨t,iter,ifs,0⟩] scope p) ρ J Q:=by
 with_unfolding_all show Ki _ _ _;rw[hok];k_lt h
theorem ck{m:Nat}{l:List D}{y:D}{K:ac->Prop}(h:J[m]?=some (.list l))(hl:l.length<=ah)(q:K (J.set m (.list (l++ [y])))):Wv (kr J m y) K:=wo (by simp only[kr,h,hl,if_true]) q
noncomputable def aiw(e:Expr):Bool:=if h:e.ctorIdx=16 then Expr.Call.elim (motive_1:=λY=>_) e h λf Y Z U=> !Nat.beq f.ctorIdx 23 else true
theorem wSr{it:Expr}{whole:af->ac->KD->Prop}(hp:aiw it=true)(h:whole ρ J (kSr QR)):ny c sc it whole ρ J QR:=by
 cases it<;>first | k_lt h | skip
 cases func<;>first | k_lt h | cases hp
theorem wSrF{f:Str}{p p':Pos}{e:Expr}{whole:af->ac->KD->Prop}{a:Addr}(hn:ce c sc ρ f=some (.val (.ref a)))(h:whole ρ J (kSr QR)):ny c sc (.Call (.Name f p) [e] [] p') whole ρ J QR:=by
 with_unfolding_all show(match ce c sc ρ f with | some (.val (.type t))=>_ | _=>_);rw[hn];k_lt h
theorem wSrR{f:Str}{p p':Pos}{e:Expr}{whole:af->ac->KD->Prop}(hn:ce c sc ρ f=some (.val (.type "range")))(h:vE c sc e ρ J (kRg QR)):ny c sc (.Call (.Name f p) [e] [] p') whole ρ J QR:=by
 with_unfolding_all show(match ce c sc ρ f with | some (.val (.type t))=>_ | _=>_);rw[hn];k_lt h
theorem wSrE{f:Str}{p p':Pos}{e:Expr}{whole:af->ac->KD->Prop}(hn:ce c sc ρ f=some (.val (.type "enumerate")))(h:vE c sc e ρ J (kEn QR)):ny c sc (.Call (.Name f p) [e] [] p') whole ρ J QR:=by
 with_unfolding_all show(match ce c sc ρ f with | some (.val (.type t))=>_ | _=>_);rw[hn];k_lt h
theorem sdT{l:List D}{K:Src->Prop}(q:K (.items l)):Wv (aao J (.tup l)) K:=by k_lt q
theorem sdL{m:Nat}{l:List D}{K:Src->Prop}(h:J[m]?=some (.list l))(q:K (.live m)):Wv (aao J (.loc m)) K:=wo (by delta aao;dsimp only;rw[h]) q
theorem sdF{t:Expr}{b:af->ac->KS->Prop}{m:Nat}{l:List D}(h:J[m]?=some (.list l))(q:turns (.live m) (i3 sc t b) (l.length+1) 0 ρ J QS):Wv (aao J (.loc m)) (kV (kFo sc t b ρ QS) J):=by
 refine sdL h ?_
 with_unfolding_all show Ki (turns _ _ (ib J (.live m)+1) _ _ _ _) _ _
 rw[show ib J (.live m)=l.length by delta ib;dsimp only;rw[h]];k_lt q
theorem sdC{t:Expr}{ifs:af->ac->KT->Prop}{elt:af->ac->KD->Prop}{m:Nat}{l:List D}(h:J[m]?=some (.list l))(q:turns (.live m) (jj sc' t ifs elt J.length) (l.length+1) 0 (ie sc' ρ) (J++ [.list []]) (kCE J.length Q)):Wv (aao J (.loc m)) (kV (kCp sc' t ifs elt ρ Q) J):=by
 refine sdL h ?_
 with_unfolding_all show Ki (turns _ _ (ib J (.live m)+1) _ _ _ _) _ _
 rw[show ib J (.live m)=l.length by delta ib;dsimp only;rw[h]];k_lt q
theorem saL{m i:Nat}{l:List D}{x:Option D}(h:J[m]?=some (.list l))(hx:l[i]?=x):ic J i (.live m)=some x:=by delta ic;dsimp only;rw[h,<-hx]
end
section
variable{c:Cx}{sc sc':aq}{ρ ρ':af}{J:ac}{Q:KD}{QT:KT}{QS:KS}{QR:Src->ac->Prop}
theorem apa{l:List D}{step:D->af->ac->KS->Prop}{f i:Nat}{x:D}(h:l[i]?=some x)(k:step x ρ J (Kt (turns (.items l) step f (i+1)) QS)):turns (.items l) step (f+1) i ρ J QS:=by with_unfolding_all exact wo (show ic J i (.items l)=some (some x) by rw[<-h];rfl) k
theorem asr{l:List D}{step:D->af->ac->KS->Prop}{f i:Nat}(h:l[i]?=none)(q:QS none ρ J):turns (.items l) step (f+1) i ρ J QS:=by with_unfolding_all exact wo (show ic J i (.items l)=some none by rw[<-h];rfl) q
theorem wTj1{l:List D}{step:D->af->ac->KS->Prop}{F f i:Nat}{x:D}(hf:F=f+1)(h:l[i]?=some x)(k:step x ρ J (Kt (turns (.items l) step f (i+1)) QS)):turns (.items l) step F i ρ J QS:=by subst hf;exact apa h k
theorem wTj0{l:List D}{step:D->af->ac->KS->Prop}{F f i:Nat}(hf:F=f+1)(h:l[i]?=none)(q:QS none ρ J):turns (.items l) step F i ρ J QS:=by subst hf;exact asr h q
theorem bdN{x:Str}{p:Pos}{d:D}{K:af->Prop}(h:cf sc x=true)(q:K (upd ρ x d)):Wv (j7 sc J (.Name x p) d ρ) K:=by
 with_unfolding_all show Wv (if cf sc x then some (upd ρ x d) else none) K;rw[if_pos h];k_lt q
theorem bdT{es:List Expr}{m:Nat}{p:Pos}{ds:List D}{K:af->Prop}(q:Wv (d7 sc es ds ρ) K):Wv (j7 sc J (.Tuple es m p) (.tup ds) ρ) K:=by k_lt q
theorem bd0{K:af->Prop}(q:K ρ):Wv (d7 sc [] [] ρ) K:=by k_lt q
theorem bd1{x:Str}{p:Pos}{es:List Expr}{d:D}{ds:List D}{K:af->Prop}(h:cf sc x=true)(q:Wv (d7 sc es ds (upd ρ x d)) K):Wv (d7 sc (.Name x p::es) (d::ds) ρ) K:=by
 with_unfolding_all show Wv (if cf sc x then d7 sc es ds (upd ρ x d) else none) K;rw[if_pos h];k_lt q
theorem bdL{es:List Expr}{m l:Nat}{p:Pos}{ds:List D}{K:af->Prop}(h:J[l]?=some (.list ds))(q:Wv (d7 sc es ds ρ) K):Wv (j7 sc J (.Tuple es m p) (.loc l) ρ) K:=by
 show Wv ((kq J (.loc l)).bind λds=>d7 sc es ds ρ) K;rw[show kq J (.loc l)=some ds by delta kq;dsimp only;rw[h]];exact q
theorem wATs{es:List Expr}{m:Nat}{p:Pos}{d:D}(q:Wv (j7 sc J (.Tuple es m p) d ρ) (kAT J QS)):fk c sc (.Tuple es m p) d ρ J QS:=by k_lt q
end
noncomputable def fnA(i:Nat)(ds:List D:=[]):Fn:=⟨(fA (st i)).args.map (·.arg),ds,fB (st i),(fS (st i)).names⟩
noncomputable def fnS(i j:Nat)(ds:List D:=[]):Fn:=⟨(fA (su i j)).args.map (·.arg),ds,fB (su i j),(fS (su i j)).names⟩
section
variable{n:Nat}{a:Addr}{J:ac}{Q:D->ac->Prop}{args:List D}{c:Cx}
noncomputable def nz:List String->List D->List (Str×D)
 | s::r,d::ds=>(so s,d)::nz r ds
 | Y,Z=> []
theorem wC(f:Fn)(ns:List String){s:Stmt}{r:List Stmt}(k:vB (d8 T0 n) f.names (s::r) (i4 (nz ns args)) J (Kr Q))(h:T0.callee a=some (.fn f):=by k_go)(hb:jk f args=some (nz ns args):=by rfl)(hy:f.body=s::r:=by rfl):Wk (ak T0 (n+1) (.val (.ref a)) args J) Q:=
 ⟨by with_unfolding_all exact wo h (wo hb (by show vB _ _ f.body _ _ _;rw[hy];exact k))⟩
theorem wCt(f:Fn)(ns:List String){s:Stmt}{r:List Stmt}(h:T0.callee a=some (.fn f))(hb:jk f args=some (nz ns args))(hy:f.body=s::r)(hl:jv T0.lamP f.params args=true)(k:vB (d8 T0 n) f.names (s::r) (i4 (nz ns args)) J (Kr Q)):Wk (jl T0 (n+1) true (.val (.ref a)) args J) Q:=
 ⟨by with_unfolding_all exact wo h (by show Ki _ _ _;rw[hl];exact wo hb (by show vB _ _ f.body _ _ _;rw[hy];exact k))⟩
theorem ans{f:Fn}{bs:List (Str×D)}{s:Stmt}{r:List Stmt}(h:T0.callee a=some (.fn f))(hb:jk f args=some bs)(hy:f.body=s::r)(k:vB (d8 T0 n) f.names (s::r) (i4 bs) J (Kr Q)):Wk (ak T0 (n+1) (.val (.ref a)) args J) Q:=
 ⟨by with_unfolding_all exact wo h (wo hb (by show vB _ _ f.body _ _ _;rw[hy];exact k))⟩
theorem ab3{C i:Addr}(h:T0.callee C=some (.cls i))(k:Wk (ak T0 n (.val (.ref i)) (.loc (J.length+1)::args) (J++ [.dictS [],.inst C J.length])) (kCl (J.length+1) Q)):Wk (ak T0 (n+1) (.val (.ref C)) args J) Q:=⟨by with_unfolding_all exact wo h k⟩
theorem apb{l:Nat}{k:D}(h:Wr (ki J (.loc l) k) Q):Wk (ak T0 (n+1) (.lam l) [k] J) Q:=⟨by k_lt h⟩
theorem apc{l:Nat}(k:Wk (ak T0 n (.lam l) args J) Q):yh (d8 T0 n) (.lam l) args J Q:=k
theorem qd{x:D}{m:Nat}(h:lenD J x=some m)(q:Q (.int m) J):Wr (cm (.builtin "len") [x] J) Q:=wr (by show ot "len" x J=_;unfold ot;rw[if_pos rfl,h];rfl) q
theorem alf{i:Int}(q:Q (.int i.natAbs) J):Wr (cm (.builtin "abs") [.int i] J) Q:=show Wr (ot "abs" (.int i) J) Q from wr (by show ot "abs" (.int i) J=_;unfold ot;rw[if_neg (by decide),if_pos rfl];rfl) q
theorem alg{x:D}{l:List D}(h:mo J x=some l)(q:Q (.loc J.length) (J++ [.list l])):Wr (cm (.builtin "sorted") [x] J) Q:=wr (by show ot "sorted" x J=_;unfold ot;rw[if_neg (by decide),if_neg (by decide),if_pos rfl,h];rfl) q
theorem bMax{i j:Int}(q:Q (.int (if j>i then j else i)) J):Wr (cm (.builtin "max") [.int i,.int j] J) Q:=show Wr (t8 "max" (.int i) (.int j) J) Q from wr (by show t8 "max" (.int i) (.int j) J=_;unfold t8;rw[if_pos rfl];rfl) q
theorem bIsi{x:D}{b:Bool}(h:yg x=some b)(q:Q (.bool b) J):Wr (cm (.builtin "isinstance") [x,.val (.type "tuple")] J) Q:=wr (by show t8 "isinstance" x (.val (.type "tuple")) J=_;unfold t8;rw[if_neg (by decide),if_pos rfl];rw[h];rfl) q
theorem adm{x:D}{i:Int}(h:intD x=some i)(q:Q (.int i) J):Wr (cm (.type "int") [x] J) Q:=wr (by show iy "int" x J=_;unfold iy;rw[if_pos rfl,h];rfl) q
theorem qf{x:D}{l:List D}(h:nt J x=some l)(q:Q (.tup l) J):Wr (cm (.type "tuple") [x] J) Q:=wr (by show iy "tuple" x J=_;unfold iy;rw[if_neg (by decide),if_pos rfl,h];rfl) q
theorem apd{x:D}{l:List D}(h:aan J x=some l)(q:Q (.loc J.length) (J++ [.list l])):Wr (cm (.type "list") [x] J) Q:=wr (by show iy "list" x J=_;unfold iy;rw[if_neg (by decide),if_neg (by decide),if_pos rfl,h];rfl) q
theorem ape{x:D}{l:List (Int×D)}(h:xf J x=some l)(q:Q (.loc J.length) (J++ [.dictI l])):Wr (cm (.type "dict") [x] J) Q:=wr (by show iy "dict" x J=_;unfold iy;rw[if_neg (by decide),if_neg (by decide),if_neg (by decide),if_pos rfl,h];rfl) q
theorem tFst{x:D}{i:Int}(h:xg J x=some i)(q:Q (.loc J.length) (J++ [.fset [i]])):Wr (cm (.type "frozenset") [x] J) Q:=wr (by show iy "frozenset" x J=_;unfold iy;rw[if_neg (by decide),if_neg (by decide),if_neg (by decide),if_neg (by decide),if_pos rfl,h];rfl) q
theorem tSet{x:D}{m:Nat}(h:aff J x=some m)(q:Q (.loc J.length) (J++ [.set m])):Wr (cm (.type "set") [x] J) Q:=wr (by show iy "set" x J=_;unfold iy;rw[if_neg (by decide),if_neg (by decide),if_neg (by decide),if_neg (by decide),if_neg (by decide),if_pos rfl,h];rfl) q
theorem at_{m d:Nat}{C:Addr}{es:List (Str×D)}{x:Str}{v:D}{K:D->Prop}(h1:J[m]?=some (.inst C d))(h2:J[d]?=some (.dictS es))(hc:T0.attr C x=true)(h3:atK es x=some v)(h4:tz v=true)(q:K v):Wv (fz (d8 T0 n) J (.loc m) x) K:=wo (by delta fz;(try dsimp only);rw[h1];(try dsimp only);refine(if_pos hc).trans ?_;rw[h2];(try dsimp only);rw[h3];exact if_pos h4) q
theorem setAt{m d:Nat}{C:Addr}{es:List (Str×D)}{x:Str}{v:D}{K:ac->Prop}(h1:J[m]?=some (.inst C d))(h2:J[d]?=some (.dictS es))(hc:T0.attr C x=true)(hl:es.length<=64)(q:K (J.set d (.dictS (putK es x v)))):Wv (gg (d8 T0 n) J (.loc m) x v) K:=wo (by delta gg;(try dsimp only);rw[h1];(try dsimp only);refine(if_pos hc).trans ?_;rw[h2];exact if_pos hl) q
theorem mt_{m d:Nat}{C:Addr}{es:List (Str×D)}{x:Str}{f:D}{K:nu->Prop}(h1:J[m]?=some (.inst C d))(h2:J[d]?=some (.dictS es))(h3:atK es x=none)(hm:T0.meth C x=some f)(q:K (.fn f)):Wv (fg (d8 T0 n) J (.loc m) x) K:=wo (by delta fg;(try dsimp only);rw[h1];(try dsimp only);rw[h2];(try dsimp only);rw[h3,hm]) q
theorem mtL{m:Nat}{l:List D}{x:Str}{K:nu->Prop}(h1:J[m]?=some (.list l))(hx:x="append"\/x="extend"\/x="pop")(q:K (.blt m)):Wv (fg c J (.loc m) x) K:=wo (by delta fg;(try dsimp only);rw[h1];exact if_pos hx) q
theorem mtD{m:Nat}{l:List (Int×D)}{K:nu->Prop}(h1:J[m]?=some (.dictI l))(q:K (.blt m)):Wv (fg c J (.loc m) "get") K:=wo (by delta fg;(try dsimp only);rw[h1];exact if_pos rfl) q
theorem w6{m:Nat}{l:List D}{x:D}(h1:J[m]?=some (.list l))(hl:l.length<=ah)(hp:ao x=true)(q:Q .none (J.set m (.list (l++ [x])))):Wr (t9 m "append" [x] J) Q:=wr (by delta t9;(try dsimp only);rw[h1];delta ji;exact(if_pos rfl).trans (if_pos ⟨hl,hp⟩)) q
theorem alh{m m2:Nat}{l r:List D}(h1:J[m]?=some (.list l))(h2:J[m2]?=some (.list r))(hne:m2≠m)(hl:l.length+r.length<=ah)(q:Q .none (J.set m (.list (l++r)))):Wr (t9 m "extend" [.loc m2] J) Q:=wr (by delta t9;(try dsimp only);rw[h1];delta ji;(try dsimp only);refine(if_neg (by decide+kernel)).trans ((if_pos rfl).trans ?_);rw[h2];exact if_pos ⟨hne,hl⟩) q
theorem mPop{m:Nat}{l:List D}{x:D}(h1:J[m]?=some (.list l))(hx:l.getLast?=some x)(hl:l.length<=ah)(q:Q x (J.set m (.list l.dropLast))):Wr (t9 m "pop" [] J) Q:=wr (by delta t9;(try dsimp only);rw[h1];delta ji;(try dsimp only);refine(if_neg (by decide+kernel)).trans ((if_neg (by decide+kernel)).trans ((if_pos rfl).trans ?_));rw[hx];exact if_pos hl) q
theorem ali{m:Nat}{l:List (Int×D)}{i:Int}{d:D}(h1:J[m]?=some (.dictI l))(hp:ao d=true)(q:Q ((atK l i).getD d) J):Wr (t9 m "get" [.int i,d] J) Q:=wr (by delta t9;(try dsimp only);rw[h1];exact(if_pos rfl).trans (if_pos hp)) q
theorem apf{l:List D}{i:Int}{v:D}(h:idx l i=some v)(q:Q v J):Wr (ki J (.tup l) (.int i)) Q:=wr (congrArg (Option.map λz=>(z,J)) h) q
theorem bf{m:Nat}{l:List D}{i:Int}{v:D}(h1:J[m]?=some (.list l))(h:idx l i=some v)(q:Q v J):Wr (ki J (.loc m) (.int i)) Q:=wr (by delta ki;(try dsimp only);rw[h1];exact congrArg (Option.map λz=>(z,J)) h) q
theorem sFix{m k:Nat}{vs:Array Value}{l:List D}{i:Int}{v:D}(h1:J[m]?=some (.fix vs k l))(h:idx l i=some v)(q:Q v J):Wr (ki J (.loc m) (.int i)) Q:=wr (by delta ki;(try dsimp only);rw[h1];exact congrArg (Option.map λz=>(z,J)) h) q
theorem sDI{m:Nat}{l:List (Int×D)}{i:Int}{v:D}(h1:J[m]?=some (.dictI l))(h:atK l i=some v)(q:Q v J):Wr (ki J (.loc m) (.int i)) Q:=wr (by delta ki;(try dsimp only);rw[h1];exact congrArg (Option.map λz=>(z,J)) h) q
theorem sDS{m:Nat}{l:List (Str×D)}{i:Str}{v:D}(h1:J[m]?=some (.dictS l))(h:atK l i=some v)(q:Q v J):Wr (ki J (.loc m) (.str i)) Q:=wr (by delta ki;(try dsimp only);rw[h1];exact congrArg (Option.map λz=>(z,J)) h) q
theorem adn{m:Nat}{l:List D}{i:Int}{v:D}{K:ac->Prop}(h1:J[m]?=some (.list l))(h0:0<=i/\small i=true/\i.toNat<l.length/\l.length<=ah)(q:K (J.set m (.list (l.set i.toNat v)))):Wv (dw J (.loc m) (.int i) v) K:=wo (by delta dw;(try dsimp only);rw[h1];exact if_pos h0) q
theorem iDI{m:Nat}{l:List (Int×D)}{i:Int}{v:D}{K:ac->Prop}(h1:J[m]?=some (.dictI l))(h0:l.length<=ah)(q:K (J.set m (.dictI (putK l i v)))):Wv (dw J (.loc m) (.int i) v) K:=wo (by delta dw;(try dsimp only);rw[h1];exact if_pos h0) q
theorem iDS{m:Nat}{l:List (Str×D)}{i:Str}{v:D}{K:ac->Prop}(h1:J[m]?=some (.dictS l))(h0:l.length<=ah)(q:K (J.set m (.dictS (putK l i v)))):Wv (dw J (.loc m) (.str i) v) K:=wo (by delta dw;(try dsimp only);rw[h1];exact if_pos h0) q
theorem nAdd{x y:Int}(q:Q (.int (x+y)) J):Wr (oq J .Add (.int x) (.int y)) Q:=q
theorem nSub{x y:Int}(q:Q (.int (x - y)) J):Wr (oq J .Sub (.int x) (.int y)) Q:=q
theorem vh{x y:Int}(h:(small x || small y)=true)(q:Q (.int (x*y)) J):Wr (oq J .Mult (.int x) (.int y)) Q:=wr (congrArg (Option.map λz=>(D.int z,J)) (if_pos h)) q
theorem alj{x y:Int}(h:y≠0/\small y=true)(q:Q (.int (x.fdiv y)) J):Wr (oq J .FloorDiv (.int x) (.int y)) Q:=wr (congrArg (Option.map λz=>(D.int z,J)) (if_pos h)) q
theorem vj{x y:Int}(h:y≠0/\small y=true)(q:Q (.int (x.fmod y)) J):Wr (oq J .Mod (.int x) (.int y)) Q:=wr (congrArg (Option.map λz=>(D.int z,J)) (if_pos h)) q
theorem nPow(q:Q (.int (10^18)) J):Wr (oq J .Pow (.int 10) (.int 18)) Q:=q
theorem nTT{x y:List D}(h:x.length+y.length<=ah)(q:Q (.tup (x++y)) J):Wr (oq J .Add (.tup x) (.tup y)) Q:=wr (congrArg (Option.map λz=>(z,J)) (if_pos h)) q
theorem nLL{i j:Nat}{x y:List D}(h1:J[i]?=some (.list x))(h2:J[j]?=some (.list y))(h:x.length+y.length<=ah)(q:Q (.loc J.length) (J++ [.list (x++y)])):Wr (oq J .Add (.loc i) (.loc j)) Q:=wr (by show xd J .Add i j=_;delta xd;(try dsimp only);rw[h1,h2];exact if_pos h) q
theorem nLI{i:Nat}{x:List D}{y:Int}(h1:J[i]?=some (.list x))(h:0<=y/\y<=8/\x.length<=8)(q:Q (.loc J.length) (J++ [.list (rep x y.toNat)])):Wr (oq J .Mult (.loc i) (.int y)) Q:=wr (by show xe J .Mult i y=_;delta xe;(try dsimp only);rw[h1];exact if_pos h) q
theorem nNeg{x:Int}(q:Q (.int (-x)) J):Wr (unD .USub J (.int x)) Q:=q
theorem nNot{d:D}{t:Bool}(h:jt d=some t)(q:Q (.bool (!t)) J):Wr (unD .Not J d) Q:=wr (congrArg (Option.map λb=>(D.bool (!b),J)) h) q
theorem aix{l:List D}{a:Int}(h:1<=a/\a.toNat<=l.length):wi l (.int a) .none .none=some (l.drop a.toNat):=if_pos h
theorem cutR{l:List D}:agv l .none .none (.int (-1))=some l.reverse:=show(if(-1:Int)= -1 then some l.reverse else none)=_ from if_pos rfl
theorem ant{l:List D}{a b:Int}(h:1<=a/\a<=b/\b.toNat<=l.length):wi l (.int a) (.int b) .none=some ((l.drop a.toNat).take (b.toNat - a.toNat)):=if_pos h
theorem qg{m:Nat}{l:List D}(h1:J[m]?=some (.list l))(hl:l.length<=ah):nt J (.loc m)=some l:=by delta nt;dsimp only;rw[h1];exact if_pos hl
theorem ass{m:Nat}{l:List D}(h1:J[m]?=some (.list l))(hl:l.length<=ah):aan J (.loc m)=some l:=by delta aan;dsimp only;rw[h1];exact if_pos hl
theorem len_list{m:Nat}{l:List D}(h1:J[m]?=some (.list l))(hl:l.length<=ah):lenD J (.loc m)=some l.length:=by delta lenD;dsimp only;rw[h1];exact if_pos hl
theorem alk{m k:Nat}{vs:Array Value}{l:List D}(h1:J[m]?=some (.fix vs k l))(hl:l.length<=ah):lenD J (.loc m)=some l.length:=by delta lenD;dsimp only;rw[h1];exact if_pos hl
theorem alm{m:Nat}{l:List (Int×D)}(h1:J[m]?=some (.dictI l))(hl:l.length<=ah):lenD J (.loc m)=some l.length:=by delta lenD;dsimp only;rw[h1];exact if_pos hl
theorem aln{m k:Nat}(h1:J[m]?=some (.set k)):lenD J (.loc m)=some k:=by delta lenD;dsimp only;rw[h1]
theorem apg{m:Nat}{l:List D}(h1:J[m]?=some (.list l))(hl:l.length<=8):xf J (.loc m)=t6 l []:=by delta xf;dsimp only;rw[h1];exact if_pos hl
theorem asu{i:Int}{m:Nat}{es:List (Int×D)}(h1:J[m]?=some (.dictI es)):inD J (.int i) (.loc m)=some (atK es i).isSome:=by delta inD;dsimp only;rw[h1]
theorem inK{i:Int}{m:Nat}{es:List (Int×D)}(h1:J[m]?=some (.dictI es)):kh J .In (.int i) (.loc m)=some (atK es i).isSome:=by
 delta kh;dsimp only
 rw[show gz J (.int i) (.loc m)=none by delta gz;dsimp only;rw[h1]];exact asu h1
theorem inN{i:Int}{m:Nat}{es:List (Int×D)}(h1:J[m]?=some (.dictI es)):kh J .NotIn (.int i) (.loc m)=some (!(atK es i).isSome):=by
 delta kh;dsimp only
 rw[asu h1];rfl
theorem lb{n:Nat}(h:Nat.ble n ah=true):n<=ah:=yL h
theorem inF{i:Int}{m:Nat}{l:List Int}(h1:J[m]?=some (.fset l)):kh J .In (.int i) (.loc m)=some (l.contains i):=by delta kh;dsimp only;delta gz;dsimp only;rw[h1]
theorem cK{op:CmpOp}{a b:D}{t:Bool}{K:Bool->Prop}(h:kh J op a b=some t)(q:K t):Wv (kh J op a b) K:=wo h q
theorem tK{d:D}{t:Bool}{K:Bool->Prop}(h:jt d=some t)(q:K t):Wv (jt d) K:=wo h q
theorem dK{ps:List (D×D)}{es:Cell}{K:Cell->Prop}(h:ko ps=some es)(q:K es):Wv (ko ps) K:=wo h q
theorem anu{sc:aq}{ρ:af}{x:Str}{d:D}(hg:b9 x=true)(hs:sc.lookup x=some .globalImplicit)(h:T0.glob x=some d):ce (d8 T0 n) sc ρ x=some d:=by
 unfold ce;rw[if_pos hg,hs];exact h
theorem loc_{sc:aq}{ρ:af}{x:Str}{d:D}(hg:b9 x=true)(hs:sc.lookup x=some .local\/sc.lookup x=some .cell\/sc.lookup x=some .free)(h:ρ x=some d):ce c sc ρ x=some d:=by
 unfold ce;rw[if_pos hg];rcases hs with hs | hs | hs<;>(rw[hs];exact h)
theorem slT{l r:List D}{a b s:D}(hl:l.length<=ah)(h:wi l a b s=some r)(q:Q (.tup r) J):Wr (km J (.tup l) a b s) Q:=wr ((if_pos hl).trans (congrArg (Option.map λr=>(D.tup r,J)) h)) q
theorem slL{m:Nat}{l r:List D}{a b s:D}(h1:J[m]?=some (.list l))(hl:l.length<=ah)(h:agv l a b s=some r)(q:Q (.loc J.length) (J++ [.list r])):Wr (km J (.loc m) a b s) Q:=wr (by delta km;(try dsimp only);rw[h1];exact(if_pos hl).trans (congrArg (Option.map λr=>(D.loc J.length,J++ [Cell.list r])) h)) q
end
theorem aeq{J:ac}{l:List D}(hl:l.length<=ah):lenD J (.tup l)=some l.length:=if_pos hl
section
variable{J:ac}{Q:KD}
theorem asv{l:List D}(h:Nat.ble l.length ah=true)(q:Q (.int l.length) J):Wr (cm (.builtin "len") [.tup l] J) Q:=qd (aeq (yL h)) q
theorem slTT{l r:List D}{a b s:D}(hl:Nat.ble l.length ah=true)(h:wi l a b s=some r)(q:Q (.tup r) J):Wr (km J (.tup l) a b s) Q:=slT (yL hl) h q
theorem nTTT{x y:List D}(h:Nat.ble (x.length+y.length) ah=true)(q:Q (.tup (x++y)) J):Wr (oq J .Add (.tup x) (.tup y)) Q:=nTT (yL h) q
theorem siK{x:D}{l:List D}{t:Bool}{K:Bool->Prop}(h:iv x l=some t)(q:K t):Wv (iv x l) K:=wo h q
end
theorem gs:[(so "underlying_of"),(so "zero_value"),(so "made_value"),(so "base_kind"),(so "is_in_memory"),(so "way_to"),(so "pointer_along"),(so "new_variable"),(so "load_place"),(so "value_of"),(so "values_of"),(so "operands_of"),(so "constant_of"),(so "worked_value"),(so "lazy_value"),(so "asked_values"),(so "struct_operands"),(so "made_value_lower_exprs"),(so "slice_value"),(so "table_value"),(so "TypedFn"),(so "Code"),(so "next_blocks"),(so "blocks_reached"),(so "led_elsewhere"),(so "with_kept_blocks"),(so "is_operand"),(so "operands_within"),(so "operands_read"),(so "registers_written"),(so "registers_of"),(so "LowerState"),(so "NamedRow"),(so "known_rows"),(so "World"),(so "_law_pool"),(so "_law_take"),(so "_law_one"),(so "_law_const"),(so "_law_number"),(so "_law_looked"),(so "_law_truth"),(so "_law_stop"),(so "_law_worked"),(so "_law_item"),(so "_law_worth"),(so "_law_read"),(so "_law_object"),(so "_law_done"),(so "_law_step"),(so "_law_walked"),(so "_law_is_right"),(so "law"),(so "INT_lower_exprs"),(so "BOOL_lower_exprs"),(so "READ"),(so "PAIRS"),(so "PAIRED"),(so "UNWRITTEN"),(so "PLAIN"),(so "_law_i8"),(so "_law_int"),(so "_law_bool"),(so "_law_row"),(so "_law_pair"),(so "_law_any"),(so "len"),(so "abs"),(so "max"),(so "isinstance"),(so "sorted"),(so "int"),(so "tuple"),(so "list"),(so "dict"),(so "set"),(so "frozenset"),(so "range"),(so "enumerate"),(so "address_of")].map T0.glob=[some (.val (vr 74)),
some (.val (vr 79)),
some (.val (vr 268)),
some (.val (vr 139)),
some (.val (vr 146)),
some (.val (vr 160)),
some (.val (vr 167)),
some (.val (vr 188)),
some (.val (vr 195)),
some (.val (vr 206)),
some (.val (vr 213)),
some (.val (vr 218)),
some (.val (vr 225)),
some (.val (vr 237)),
some (.val (vr 244)),
some (.val (vr 251)),
some (.val (vr 261)),
some (.val (vr 268)),
some (.val (vr 273)),
some (.val (vr 278)),
some (.val (vr 295)),
some (.val (vr 338)),
some (.val (vr 349)),
some (.val (vr 356)),
some (.val (vr 363)),
some (.val (vr 370)),
some (.val (vr 377)),
some (.val (vr 382)),
some (.val (vr 389)),
some (.val (vr 394)),
some (.val (vr 399)),
some (.val (vr 570)),
some (.val (vr 594)),
some (.val (vr 605)),
some (.val (vr 637)),
some (.val (vr 661)),
some (.val (vr 668)),
some (.val (vr 675)),
some (.val (vr 682)),
some (.val (vr 687)),
some (.val (vr 692)),
some (.val (vr 699)),
some (.val (vr 706)),
some (.val (vr 713)),
some (.val (vr 720)),
some (.val (vr 725)),
some (.val (vr 732)),
some (.val (vr 739)),
some (.val (vr 744)),
some (.val (vr 751)),
some (.val (vr 756)),
some (.val (vr 763)),
some (.val (vr 768)),
some (.tup [(k "int"),(k "int")]),
some (.tup [(k "bool")]),
some (.tup [(k "global"),(k "field"),(k "deref"),(k "index")]),
some (.tup [(k "assert"),(k "key"),(k "receive")]),
some (.tup [(k "mapget"),(k "assert"),(k "recv")]),
some (.tup [(k "store"),(k "mapset"),(k "mapdel"),(k "send"),(k "close"),(k "go"),(k "defer"),(k "defers"),(k "print"),(k "sync")]),
some (.tup [(k "func"),(.tup []),(.tup []),(.bool false)]),
some (.tup [(k "int"),(k "int8")]),
some (.tup [(k "int"),(k "int")]),
some (.tup [(k "bool")]),
some (.tup [(k "array"),(.int 2),(.tup [(k "int"),(k "int8")])]),
some (.tup [(k "struct"),(.tup [(.tup [(k "a"),(.tup [(k "int"),(k "int8")]),(.bool false)]),(.tup [(k "b"),(.tup [(k "bool")]),(.bool false)])])]),
some (.tup [(k "interface"),(.tup [])]),
some (.val (.builtin "len")),
some (.val (.builtin "abs")),
some (.val (.builtin "max")),
some (.val (.builtin "isinstance")),
some (.val (.builtin "sorted")),
some (.val (.type "int")),
some (.val (.type "tuple")),
some (.val (.type "list")),
some (.val (.type "dict")),
some (.val (.type "set")),
some (.val (.type "frozenset")),
some (.val (.type "range")),
some (.val (.type "enumerate")),
some (.val (vr 174))]:=by k_go
@[simp] theorem g0:T0.glob (so "underlying_of")=some (.val (vr 74)):=by k_go
@[simp] theorem g1:T0.glob (so "zero_value")=some (.val (vr 79)):=by k_go
@[simp] theorem g2:T0.glob (so "made_value")=some (.val (vr 268)):=by k_go
@[simp] theorem g3:T0.glob (so "base_kind")=some (.val (vr 139)):=by k_go
@[simp] theorem g4:T0.glob (so "is_in_memory")=some (.val (vr 146)):=by k_go
@[simp] theorem g5:T0.glob (so "way_to")=some (.val (vr 160)):=by k_go
@[simp] theorem g6:T0.glob (so "pointer_along")=some (.val (vr 167)):=by k_go
@[simp] theorem g7:T0.glob (so "new_variable")=some (.val (vr 188)):=by k_go
@[simp] theorem g8:T0.glob (so "load_place")=some (.val (vr 195)):=by k_go
@[simp] theorem g9:T0.glob (so "value_of")=some (.val (vr 206)):=by k_go
@[simp] theorem g10:T0.glob (so "values_of")=some (.val (vr 213)):=by k_go
@[simp] theorem g11:T0.glob (so "operands_of")=some (.val (vr 218)):=by k_go
@[simp] theorem g12:T0.glob (so "constant_of")=some (.val (vr 225)):=by k_go
@[simp] theorem g13:T0.glob (so "worked_value")=some (.val (vr 237)):=by k_go
@[simp] theorem g14:T0.glob (so "lazy_value")=some (.val (vr 244)):=by k_go
@[simp] theorem g15:T0.glob (so "asked_values")=some (.val (vr 251)):=by k_go
@[simp] theorem g16:T0.glob (so "struct_operands")=some (.val (vr 261)):=by k_go
@[simp] theorem g17:T0.glob (so "made_value_lower_exprs")=some (.val (vr 268)):=by k_go
@[simp] theorem g18:T0.glob (so "slice_value")=some (.val (vr 273)):=by k_go
@[simp] theorem g19:T0.glob (so "table_value")=some (.val (vr 278)):=by k_go
@[simp] theorem g20:T0.glob (so "TypedFn")=some (.val (vr 295)):=by k_go
@[simp] theorem g21:T0.glob (so "Code")=some (.val (vr 338)):=by k_go
@[simp] theorem g22:T0.glob (so "next_blocks")=some (.val (vr 349)):=by k_go
@[simp] theorem g23:T0.glob (so "blocks_reached")=some (.val (vr 356)):=by k_go
@[simp] theorem g24:T0.glob (so "led_elsewhere")=some (.val (vr 363)):=by k_go
@[simp] theorem g25:T0.glob (so "with_kept_blocks")=some (.val (vr 370)):=by k_go
@[simp] theorem g26:T0.glob (so "is_operand")=some (.val (vr 377)):=by k_go
@[simp] theorem g27:T0.glob (so "operands_within")=some (.val (vr 382)):=by k_go
@[simp] theorem g28:T0.glob (so "operands_read")=some (.val (vr 389)):=by k_go
@[simp] theorem g29:T0.glob (so "registers_written")=some (.val (vr 394)):=by k_go
@[simp] theorem g30:T0.glob (so "registers_of")=some (.val (vr 399)):=by k_go
@[simp] theorem g31:T0.glob (so "LowerState")=some (.val (vr 570)):=by k_go
@[simp] theorem g32:T0.glob (so "NamedRow")=some (.val (vr 594)):=by k_go
@[simp] theorem g33:T0.glob (so "known_rows")=some (.val (vr 605)):=by k_go
@[simp] theorem g34:T0.glob (so "World")=some (.val (vr 637)):=by k_go
@[simp] theorem g35:T0.glob (so "_law_pool")=some (.val (vr 661)):=by k_go
@[simp] theorem g36:T0.glob (so "_law_take")=some (.val (vr 668)):=by k_go
@[simp] theorem g37:T0.glob (so "_law_one")=some (.val (vr 675)):=by k_go
@[simp] theorem g38:T0.glob (so "_law_const")=some (.val (vr 682)):=by k_go
@[simp] theorem g39:T0.glob (so "_law_number")=some (.val (vr 687)):=by k_go
@[simp] theorem g40:T0.glob (so "_law_looked")=some (.val (vr 692)):=by k_go
@[simp] theorem g41:T0.glob (so "_law_truth")=some (.val (vr 699)):=by k_go
@[simp] theorem g42:T0.glob (so "_law_stop")=some (.val (vr 706)):=by k_go
@[simp] theorem g43:T0.glob (so "_law_worked")=some (.val (vr 713)):=by k_go
@[simp] theorem g44:T0.glob (so "_law_item")=some (.val (vr 720)):=by k_go
@[simp] theorem g45:T0.glob (so "_law_worth")=some (.val (vr 725)):=by k_go
@[simp] theorem g46:T0.glob (so "_law_read")=some (.val (vr 732)):=by k_go
@[simp] theorem g47:T0.glob (so "_law_object")=some (.val (vr 739)):=by k_go
@[simp] theorem g48:T0.glob (so "_law_done")=some (.val (vr 744)):=by k_go
@[simp] theorem g49:T0.glob (so "_law_step")=some (.val (vr 751)):=by k_go
@[simp] theorem g50:T0.glob (so "_law_walked")=some (.val (vr 756)):=by k_go
@[simp] theorem g51:T0.glob (so "_law_is_right")=some (.val (vr 763)):=by k_go
@[simp] theorem g52:T0.glob (so "law")=some (.val (vr 768)):=by k_go
@[simp] theorem g53:T0.glob (so "INT_lower_exprs")=some (.tup [(k "int"),(k "int")]):=by k_go
@[simp] theorem g54:T0.glob (so "BOOL_lower_exprs")=some (.tup [(k "bool")]):=by k_go
@[simp] theorem g55:T0.glob (so "READ")=some (.tup [(k "global"),(k "field"),(k "deref"),(k "index")]):=by k_go
@[simp] theorem g56:T0.glob (so "PAIRS")=some (.tup [(k "assert"),(k "key"),(k "receive")]):=by k_go
@[simp] theorem g57:T0.glob (so "PAIRED")=some (.tup [(k "mapget"),(k "assert"),(k "recv")]):=by k_go
@[simp] theorem g58:T0.glob (so "UNWRITTEN")=some (.tup [(k "store"),(k "mapset"),(k "mapdel"),(k "send"),(k "close"),(k "go"),(k "defer"),(k "defers"),(k "print"),(k "sync")]):=by k_go
@[simp] theorem g59:T0.glob (so "PLAIN")=some (.tup [(k "func"),(.tup []),(.tup []),(.bool false)]):=by k_go
@[simp] theorem g60:T0.glob (so "_law_i8")=some (.tup [(k "int"),(k "int8")]):=by k_go
@[simp] theorem g61:T0.glob (so "_law_int")=some (.tup [(k "int"),(k "int")]):=by k_go
@[simp] theorem g62:T0.glob (so "_law_bool")=some (.tup [(k "bool")]):=by k_go
@[simp] theorem g63:T0.glob (so "_law_row")=some (.tup [(k "array"),(.int 2),(.tup [(k "int"),(k "int8")])]):=by k_go
@[simp] theorem g64:T0.glob (so "_law_pair")=some (.tup [(k "struct"),(.tup [(.tup [(k "a"),(.tup [(k "int"),(k "int8")]),(.bool false)]),(.tup [(k "b"),(.tup [(k "bool")]),(.bool false)])])]):=by k_go
@[simp] theorem g65:T0.glob (so "_law_any")=some (.tup [(k "interface"),(.tup [])]):=by k_go
@[simp] theorem gb0:T0.glob (so "len")=some (.val (.builtin "len")):=by k_go
@[simp] theorem gb1:T0.glob (so "abs")=some (.val (.builtin "abs")):=by k_go
@[simp] theorem gb2:T0.glob (so "max")=some (.val (.builtin "max")):=by k_go
@[simp] theorem gb3:T0.glob (so "isinstance")=some (.val (.builtin "isinstance")):=by k_go
@[simp] theorem gb4:T0.glob (so "sorted")=some (.val (.builtin "sorted")):=by k_go
@[simp] theorem gb5:T0.glob (so "int")=some (.val (.type "int")):=by k_go
@[simp] theorem gb6:T0.glob (so "tuple")=some (.val (.type "tuple")):=by k_go
@[simp] theorem gb7:T0.glob (so "list")=some (.val (.type "list")):=by k_go
@[simp] theorem gb8:T0.glob (so "dict")=some (.val (.type "dict")):=by k_go
@[simp] theorem gb9:T0.glob (so "set")=some (.val (.type "set")):=by k_go
@[simp] theorem gb10:T0.glob (so "frozenset")=some (.val (.type "frozenset")):=by k_go
@[simp] theorem gb11:T0.glob (so "range")=some (.val (.type "range")):=by k_go
@[simp] theorem gb12:T0.glob (so "enumerate")=some (.val (.type "enumerate")):=by k_go
@[simp] theorem gb13:T0.glob (so "address_of")=some (.val (vr 174)):=by k_go
end
section
open PySem
noncomputable def asw:Option NameKind->Bool
 | some .local=>true
 | some .cell=>true
 | some .free=>true
 | Y=>false
noncomputable def asx:Option NameKind->Bool
 | some .globalImplicit=>true
 | Y=>false
noncomputable def asy:Option NameKind->Bool
 | some .free=>true
 | Y=>false
theorem okLi{k:Option NameKind}(h:asw k=true):k=some .local\/k=some .cell\/k=some .free:=by
 rcases k with _ | k
 ·cases h
 cases k<;>first | exact .inl rfl | exact .inr (.inl rfl) | exact .inr (.inr rfl) | exact nomatch h
theorem okGi{k:Option NameKind}(h:asx k=true):k=some .globalImplicit:=by
 rcases k with _ | k
 ·cases h
 cases k<;>first | rfl | exact nomatch h
theorem okFi{k:Option NameKind}(h:asy k=true):k=some .free:=by
 rcases k with _ | k
 ·cases h
 cases k<;>first | rfl | exact nomatch h
noncomputable def asz(sc:aq)(x:Str):Bool:=b9 x&&asw (sc.lookup x)
noncomputable def as1(sc:aq)(x:Str):Bool:=b9 x&&asx (sc.lookup x)
theorem nmL{c:Cx}{sc:aq}{ρ:af}{x:Str}{d:D}(hk:asz sc x=true)(h:ρ x=some d):ce c sc ρ x=some d:=
 loc_ (yQ hk).1 (okLi (yQ hk).2) h
theorem nmG{n:Nat}{sc:aq}{ρ:af}{x:Str}{d:D}(hk:as1 sc x=true)(h:T0.glob x=some d):ce (d8 T0 n) sc ρ x=some d:=
 anu (yQ hk).1 (okGi (yQ hk).2) h
theorem as2{A B:Prop}{b:Bool}(h:b=true)(k:A):Ki A B b:=h▸k
theorem ab4{A B:Prop}{b:Bool}(h:b=false)(k:B):Ki A B b:=h▸k
theorem aer{ρ:af}{x:Str}{d:D}:upd ρ x d x=some d:=by unfold upd;rw[if_pos rfl]
theorem as4{ρ:af}{x y:Str}{v:D}{d:D}(h:(decide (x=y))=false)(g:ρ x=some d):upd ρ y v x=some d:=by
 unfold upd;rw[if_neg (of_decide_eq_false h)];exact g
theorem lk_z{s:String}{ns:List String}{d:D}{ds:List D}:i4 (nz (s::ns) (d::ds)) (so s)=some d:=by
 show((so s,d)::nz ns ds).lookup (so s)=_;rw[List.lookup_cons,beq_self_eq_true]
theorem lk_n{s:String}{ns:List String}{d e:D}{ds:List D}{x:Str}(h:decide (x=so s)=false)(g:i4 (nz ns ds) x=some e):i4 (nz (s::ns) (d::ds)) x=some e:=by
 have h:(x==so s)=false:=beq_eq_false_iff_ne.mpr (of_decide_eq_false h);show((so s,d)::nz ns ds).lookup x=_;rw[List.lookup_cons,h];exact g
noncomputable def isFr(names:aq)(x:Str):Bool:=asy (names.lookup x)
theorem as5{names:aq}{ρ:af}{x:Str}{d:D}(h:isFr names x=true)(g:ρ x=some d):ie names ρ x=some d:=by
 delta ie;rw[okFi h];exact g
noncomputable def exc(xs:List Str)(ρ τ:af):af:=λy=>if xs.contains y then τ y else ρ y
noncomputable def Ag(xs:List Str)(ρ ρ':af):Prop:=∀y,xs.contains y=false->ρ' y=ρ y
theorem Ag.eq{xs:List Str}{ρ ρ':af}(h:Ag xs ρ ρ'):ρ'=exc xs ρ ρ':=funext λy=>by
 unfold exc;split
 ·rfl
 ·rename_i q;exact h y (Bool.eq_false_iff.mpr q)
theorem Ag.exc{xs:List Str}{ρ τ:af}:Ag xs ρ (exc xs ρ τ):=λy q=>by unfold Internal.exc;rw[if_neg (Bool.eq_false_iff.mp q)]
theorem Ag.upd{xs:List Str}{ρ ρ':af}{x:Str}{d:D}(h:xs.contains x=true)(k:Ag xs ρ ρ'):Ag xs ρ (upd ρ' x d):=λy q=>by
 unfold Internal.upd;rw[if_neg (λz=>by subst z;rw[h] at q;cases q)];exact k y q
theorem Ag.sub{xs ys:List Str}{ρ ρ' τ:af}(h:ys.all xs.contains=true)(k:Ag xs ρ ρ'):Ag xs ρ (Internal.exc ys ρ' τ):=λy q=>by
 unfold Internal.exc;split
 ·rename_i z;have:=List.all_eq_true.mp h y (by simpa using z);rw[this] at q;cases q
 ·exact k y q
theorem aiy{ρ:af}{x:Str}{d:D}(h:ρ x=some d):ρ=upd ρ x d:=funext λy=>by
 unfold upd;split
 ·rename_i z;rw[z,h]
 ·rfl
theorem as6{xs:List Str}{ρ τ:af}{x:Str}{d:D}(h:xs.contains x=false)(g:ρ x=some d):exc xs ρ τ x=some d:=(Ag.exc x h).trans g
end
section
open PySem
theorem nmP{c:Cx}{sc:aq}{ρ:af}{x:Str}{d:D}(h:(x==c.lamP)=false)(k:ce c sc ρ x=some d):nameP c sc ρ x=some d:=by unfold nameP;rw[h];exact k
end
section
open PySem
theorem gdE{c:Cx}{sc:aq}{e:Expr}{ρ:af}{J:ac}{Q:KD}(h:vE c sc e ρ J Q):vE c sc e ρ J Q:=h
theorem gdA{c:Cx}{sc:aq}{t:Expr}{v:D}{ρ:af}{J:ac}{Q:KS}(h:fk c sc t v ρ J Q):fk c sc t v ρ J Q:=h
theorem gdW{α:Type}{r:Option α}{K:α->Prop}(h:Wv r K):Wv r K:=h
theorem gdR{α:Type}{r:Option (α×ac)}{K:α->ac->Prop}(h:Wr r K):Wr r K:=h
theorem gdT1{x l a b c d e f}(h:turns (.items (x::l)) a b c d e f):turns (.items (x::l)) a b c d e f:=h
theorem gdT0{a b c d e f}(h:turns (.items []) a b c d e f):turns (.items []) a b c d e f:=h
theorem gdTa{x l a b c d e f}(h:turns (.items (x++l)) a b c d e f):turns (.items (x++l)) a b c d e f:=h
theorem gdO{a b c d e f g}(h:ny a b c d e f g):ny a b c d e f g:=h
theorem gdC{a b c d e f g}(h:Wk (jl a b c d e f) g):Wk (jl a b c d e f) g:=h
end
section
open PySem
theorem seg{A B:Prop}(e:A=B)(h:B):A:=e▸h
structure PB(B:Prop):Prop where
 p:B
@[reducible] noncomputable def Dr(A B:Prop):Prop:=(PB B->A)->A=B
end
local macro_rules | `(tactic| with_unfolding_all $t)=>DK "( 'refine :seg '( : hygieneInfo/1 Term.hygienicLParen/2 '? ?f H ': :Dr '_ Term.hole/1 '? ?b H null/2 Term.app/2 null/1 ') Term.typeAscription/5 '? ?w H null/1 Term.app/2 '? ?r H null/2 Term.app/2 Tactic.refine/2 W 'case ?w Lean.binderIdent/1 null/0 Tactic.caseArg/2 null/1 '=> ( 'intro ?h null/1 Tactic.intro/2 '( $ ') Tactic.paren/3 PB.p 'exact ?h Tactic.exact/2 ; Q Tactic.case/4 'case ?f Lean.binderIdent/1 null/0 Tactic.caseArg/2 null/1 '=> ( 'intro '_ Term.hole/1 null/1 Tactic.intro/2 'kernel_rfl tacticKernel_rfl/1 ; Q Tactic.case/4 ;" t
local macro_rules | `(tactic| walk)=>DK "T"
section
open PySem
set_option genCtorIdx true in
set_option genInjectivity true in
inductive Ro where
 | st | dst | cd | dcd | rg | bl | hd | kn | bx | tf | dtf | lo | wd | dwd
 | bk (i:Nat) | it (i:Nat)
 deriving DecidableEq
structure LS where
 qO:List D
 held:List (Int×D)
 qP:Nat
 here:Nat
 nb:Nat
 ins:Nat->List D
 tm:Nat->D
 wes:List (Str×D)
 lp:D
 li:D
 qQ:Nat
noncomputable def LS.valid(X:LS):Ro->Prop
 | .bk i | .it i=>i<X.nb
 | Y=>True
noncomputable def i8:D:=.tup [k "int",k "int8"]
noncomputable def bo:D:=.tup [k "bool"]
noncomputable def je:D:=.tup [k "array",.int 2,i8]
noncomputable def upn{α:Type}(f:Nat->α)(i:Nat)(x:α):Nat->α:=λj=>if j=i then x else f j
theorem dh{α:Type}(f:Nat->α)(i:Nat)(x:α):upn f i x i=x:=if_pos rfl
theorem bh{α:Type}(f:Nat->α){i j:Nat}(x:α)(h:j≠i):upn f i x j=f j:=if_neg h
noncomputable def stL(loc:Ro->Nat)(X:LS):List (Str×D):=[(so "world",.loc (loc .wd)),(so "typed_fn",.loc (loc .tf)),(so "boxed",.loc (loc .bx)),(so "known",.loc (loc .kn)),(so "held",.loc (loc .hd)),(so "sites",.int X.qP),(so "loops",X.lp),
   (so "has_defers",.bool false),(so "spot",.int 0),(so "code",.loc (loc .cd)),(so "here",.int X.here)]
noncomputable def cdL(loc:Ro->Nat):List (Str×D):=[(so "key",k "f"),(so "params",.int 0),(so "registers",.loc (loc .rg)),(so "blocks",.loc (loc .bl)),(so "captured",.int 0),(so "results",.int 0),(so "recovery",.none)]
noncomputable def cellOf(loc:Ro->Nat)(X:LS):Ro->Cell
 | .st=> .inst 570 (loc .dst)
 | .dst=> .dictS (stL loc X)
 | .cd=> .inst 338 (loc .dcd)
 | .dcd=> .dictS (cdL loc)
 | .rg=> .list X.qO
 | .bl=> .list ((List.range X.nb).map λi=> .loc (loc (.bk i)))
 | .hd=> .dictI X.held
 | .kn=> .dictS [(so "value",.val (.ref 206)),(so "values",.val (.ref 213)),(so "address",.val (.ref 174))]
 | .bx=> .fset [1]
 | .tf=> .inst 295 (loc .dtf)
 | .dtf=> .dictS [(so "key",k "f"),(so "locals",.loc (loc .lo)),(so "params",.tup []),(so "results",.tup []),(so "captured",.tup []),(so "body",.tup []),(so "literals",X.li)]
 | .lo=> .list [.tup [k "n",i8],.tup [k "v",i8],.tup [k "t",bo],.tup [k "r",je]]
 | .wd=> .inst 637 (loc .dwd)
 | .dwd=> .dictS X.wes
 | .bk i=> .list [.loc (loc (.it i)),X.tm i]
 | .it i=> .list (X.ins i)
structure LR(J:ac)(loc:Ro->Nat)(X:LS):Prop where
 has:∀r,X.valid r->J[loc r]?=some (cellOf loc X r)
 inj:∀r r',X.valid r->X.valid r'->loc r=loc r'->r=r'
 base:atK X.wes (so "base_of")=none
 here:X.here<X.nb
 b1:X.qO.length+X.qQ<=4096
 b2:X.nb+X.qQ<=4096
 b4:∀i,(X.ins i).length+X.qQ<=4096
structure Up(J:ac)(loc:Ro->Nat)(X:LS)(J':ac)(loc':Ro->Nat)(X':LS):Prop where
 len:J.length<=J'.length
 old:∀l,l<J.length->(∀r,X.valid r->l≠loc r)->J'[l]?=J[l]?
 loc:∀r,X.valid r->X'.valid r/\loc' r=loc r
 new:∀r,X'.valid r->X.valid r\/J.length<=loc' r
section
variable{J J' J'':ac}{loc loc' loc'':Ro->Nat}{X X' X'':LS}{l:Nat}{cl:Cell}
theorem ae{α:Type}{l:List α}{i:Nat}{a:α}(h:l[i]?=some a):i<l.length:=(yS h).1
theorem ag{J t:ac}{l:Nat}{c:Cell}(h:J[l]?=some c):(J++t)[l]?=some c:=by rw[List.getElem?_append_left (ae h)];exact h
theorem Up.refl(J:ac)(loc:Ro->Nat)(X:LS):Up J loc X J loc X:=⟨yE _,λY Z U=>rfl,λY h=>⟨h,rfl⟩,λY h=> .inl h⟩
theorem Up.trans(a:Up J loc X J' loc' X')(b:Up J' loc' X' J'' loc'' X''):Up J loc X J'' loc'' X'':=by
 refine⟨yK a.len b.len,λl h1 h2=> ?_,λr h=> ?_,λr h=> ?_⟩
 ·rw[b.old l (yJ h1 a.len) λr hr e=> ?_,a.old l h1 h2];rcases a.new r hr with q | q
  ·exact h2 r q (by rw[e,(a.loc r q).2])
  ·exact(ar3 zB9) h1 e q
 ·obtain⟨h1,e1⟩:=a.loc r h;obtain⟨h2,e2⟩:=b.loc r h1;exact⟨h2,e2.trans e1⟩
 ·rcases b.new r h with q | q
  ·rcases a.new r q with q2 | q2
   ·exact .inl q2
   ·right;rw[(b.loc r q).2];exact q2
  ·exact .inr (yK a.len q)
noncomputable def Out(J:ac)(loc:Ro->Nat)(X:LS)(l:Nat)(c:Cell):Prop:=J[l]?=some c/\∀r,X.valid r->l≠loc r
theorem Up.out(a:Up J loc X J' loc' X')(o:Out J loc X l cl):Out J' loc' X' l cl:=by
 have hl:=ae o.1;refine⟨(a.old l hl o.2).trans o.1,λr hr e=> ?_⟩;rcases a.new r hr with q | q
 ·exact o.2 r q (by rw[e,(a.loc r q).2])
 ·exact(ar3 zB9) hl e q
theorem LR.lt(L:LR J loc X){r:Ro}(h:X.valid r):loc r<J.length:=ae (L.has r h)
theorem LR.qR(L:LR J loc X)(t:ac):LR (J++t) loc X:=⟨λr h=>ag (L.has r h),L.inj,L.base,L.here,L.b1,L.b2,L.b4⟩
theorem Up.qR(J:ac)(loc:Ro->Nat)(X:LS)(t:ac):Up J loc X (J++t) loc X:=
 ⟨by simp,λl h Y=>List.getElem?_append_left h,λY h=>⟨h,rfl⟩,λY h=> .inl h⟩
theorem LR.qF(L:LR J loc X)(c:Cell)(t:ac):Out (J++c::t) loc X J.length c:=
 ⟨by simp,λr h=>yN (L.lt h)⟩
theorem Out.qR(o:Out J loc X l cl)(t:ac):Out (J++t) loc X l cl:=⟨ag o.1,o.2⟩
theorem Out.set(o:Out J loc X l cl)(L:LR J loc X)(c':Cell):LR (J.set l c') loc X/\Out (J.set l c') loc X l c':=
 ⟨⟨λr h=>by rw[yB (o.2 r h)];exact L.has r h,L.inj,L.base,L.here,L.b1,L.b2,L.b4⟩,by rw[List.getElem?_set_self (ae o.1)],o.2⟩
theorem LR.upd(L:LR J loc X){r:Ro}(hv:X.valid r)(hn:X'.nb=X.nb)(hc:∀r',X.valid r'->r'≠r->cellOf loc X' r'=cellOf loc X r')(hb:X'.wes=X.wes)(hh:X'.here<X'.nb)(h1:X'.qO.length+X'.qQ<=4096)(h2:X'.qQ<=X.qQ)(h4:∀i,(X'.ins i).length+X'.qQ<=4096):
  LR (J.set (loc r) (cellOf loc X' r)) loc X'/\Up J loc X (J.set (loc r) (cellOf loc X' r)) loc X':=by
 have vv:∀r,X'.valid r↔X.valid r:=λr=>by rcases r with⟨⟩<;>first | exact Iff.rfl | exact iff_of_eq (congrArg (_< ·) hn)
 refine⟨⟨λr' h=> ?_,λa b ha hb=>L.inj a b ((vv a).mp ha) ((vv b).mp hb),by rw[hb];exact L.base,hh,h1,by have:=L.b2;rw[hn];exact(ar3 0x111100042460010004256005403) h2 this,h4⟩,⟨by simp,λl hl ho=> ?_,λr h=>⟨(vv r).mpr h,rfl⟩,λr h=> .inl ((vv r).mp h)⟩⟩
 ·by_cases e:r'=r
  ·subst e;rw[List.getElem?_set_self (L.lt hv)]
  ·rw[yB (λz=>e (L.inj r r' hv ((vv r').mp h) z).symm),hc r' ((vv r').mp h) e];exact L.has r' ((vv r').mp h)
 ·rw[yB (λz=>ho r hv z.symm)]
end
noncomputable def LS.qA(X:LS)(ty:D):LS:={X with qO:=X.qO++ [ty],qQ:=X.qQ - 1}
noncomputable def LS.put(X:LS)(i:D):LS:={X with ins:=upn X.ins X.here (X.ins X.here++ [i]),qQ:=X.qQ - 1}
noncomputable def LS.close(X:LS)(t:D):LS:={X with tm:=upn X.tm X.here t}
noncomputable def LS.at_(X:LS)(b:Nat):LS:={X with here:=b}
noncomputable def LS.qB(X:LS):LS:={X with nb:=X.nb+1,ins:=upn X.ins X.nb [],tm:=upn X.tm X.nb .none,qQ:=X.qQ - 1}
noncomputable def LS.site(X:LS):LS:={X with qP:=X.qP+1}
noncomputable def rgD(n:Nat):D:=.tup [k "reg",.int n]
noncomputable def az(n:Nat):D:=.tup [k "f",.int n]
noncomputable def LS.reg(X:LS):D:=rgD X.qO.length
noncomputable def LS.fresh(X:LS)(ty op:D)(rest:List D):LS:=(X.qA ty).put (.tup (op::.int X.qO.length::rest))
section
variable{J:ac}{loc:Ro->Nat}{X:LS}{n:Nat}{Q:KD}{K:D->Prop}
theorem LR.code(L:LR J loc X)(q:K (.loc (loc .cd))):Wv (fz (d8 T0 n) J (.loc (loc .st)) (so "code")) K:=at_ (L.has .st trivial) (L.has .dst trivial) (by k_go) (by rfl) rfl q
theorem LR.here_(L:LR J loc X)(q:K (.int X.here)):Wv (fz (d8 T0 n) J (.loc (loc .st)) (so "here")) K:=at_ (L.has .st trivial) (L.has .dst trivial) (by k_go) (by rfl) rfl q
theorem LR.sites_(L:LR J loc X)(q:K (.int X.qP)):Wv (fz (d8 T0 n) J (.loc (loc .st)) (so "sites")) K:=at_ (L.has .st trivial) (L.has .dst trivial) (by k_go) (by rfl) rfl q
theorem LR.held_(L:LR J loc X)(q:K (.loc (loc .hd))):Wv (fz (d8 T0 n) J (.loc (loc .st)) (so "held")) K:=at_ (L.has .st trivial) (L.has .dst trivial) (by k_go) (by rfl) rfl q
theorem LR.boxed_(L:LR J loc X)(q:K (.loc (loc .bx))):Wv (fz (d8 T0 n) J (.loc (loc .st)) (so "boxed")) K:=at_ (L.has .st trivial) (L.has .dst trivial) (by k_go) (by rfl) rfl q
theorem LR.world_(L:LR J loc X)(q:K (.loc (loc .wd))):Wv (fz (d8 T0 n) J (.loc (loc .st)) (so "world")) K:=at_ (L.has .st trivial) (L.has .dst trivial) (by k_go) (by rfl) rfl q
theorem LR.tfn_(L:LR J loc X)(q:K (.loc (loc .tf))):Wv (fz (d8 T0 n) J (.loc (loc .st)) (so "typed_fn")) K:=at_ (L.has .st trivial) (L.has .dst trivial) (by k_go) (by rfl) rfl q
theorem LR.known_(L:LR J loc X)(q:K (.loc (loc .kn))):Wv (fz (d8 T0 n) J (.loc (loc .st)) (so "known")) K:=at_ (L.has .st trivial) (L.has .dst trivial) (by k_go) (by rfl) rfl q
theorem LR.regs_(L:LR J loc X)(q:K (.loc (loc .rg))):Wv (fz (d8 T0 n) J (.loc (loc .cd)) (so "registers")) K:=at_ (L.has .cd trivial) (L.has .dcd trivial) (by k_go) (by rfl) rfl q
theorem LR.blocks_(L:LR J loc X)(q:K (.loc (loc .bl))):Wv (fz (d8 T0 n) J (.loc (loc .cd)) (so "blocks")) K:=at_ (L.has .cd trivial) (L.has .dcd trivial) (by k_go) (by rfl) rfl q
theorem LR.key_(L:LR J loc X)(q:K (k "f")):Wv (fz (d8 T0 n) J (.loc (loc .cd)) (so "key")) K:=at_ (L.has .cd trivial) (L.has .dcd trivial) (by k_go) (by rfl) rfl q
theorem LR.locals_(L:LR J loc X)(q:K (.loc (loc .lo))):Wv (fz (d8 T0 n) J (.loc (loc .tf)) (so "locals")) K:=at_ (L.has .tf trivial) (L.has .dtf trivial) (by k_go) (by rfl) rfl q
theorem LR.mt{m:Str}(f:D){KM:nu->Prop}(L:LR J loc X)(h3:atK (stL loc X) m=none)(hm:T0.meth 570 m=some f)(q:KM (.fn f)):Wv (fg (d8 T0 n) J (.loc (loc .st)) m) KM:=
 mt_ (L.has .st trivial) (L.has .dst trivial) h3 hm q
theorem LR.mtc{m:Str}(f:D){KM:nu->Prop}(L:LR J loc X)(h3:atK (cdL loc) m=none)(hm:T0.meth 338 m=some f)(q:KM (.fn f)):Wv (fg (d8 T0 n) J (.loc (loc .cd)) m) KM:=
 mt_ (L.has .cd trivial) (L.has .dcd trivial) h3 hm q
theorem LR.mtw{KM:nu->Prop}(L:LR J loc X)(q:KM (.fn (.val (.ref 627)))):Wv (fg (d8 T0 n) J (.loc (loc .wd)) (so "base_of")) KM:=
 mt_ (L.has .wd trivial) (L.has .dwd trivial) L.base (by k_go) q
@[simp] theorem m420:T0.meth 570 (so "new_register")=some (.val (.ref 420)):=by k_go
@[simp] theorem m427:T0.meth 570 (so "new_block")=some (.val (.ref 427)):=by k_go
@[simp] theorem m434:T0.meth 570 (so "put")=some (.val (.ref 434)):=by k_go
@[simp] theorem m441:T0.meth 570 (so "fresh")=some (.val (.ref 441)):=by k_go
@[simp] theorem m448:T0.meth 570 (so "close")=some (.val (.ref 448)):=by k_go
@[simp] theorem m462:T0.meth 570 (so "go")=some (.val (.ref 462)):=by k_go
@[simp] theorem m469:T0.meth 570 (so "next_site")=some (.val (.ref 469)):=by k_go
@[simp] theorem m476:T0.meth 570 (so "type_of_local")=some (.val (.ref 476)):=by k_go
@[simp] theorem m483:T0.meth 570 (so "is_boxed")=some (.val (.ref 483)):=by k_go
@[simp] theorem m490:T0.meth 570 (so "take_register")=some (.val (.ref 490)):=by k_go
@[simp] theorem m504:T0.meth 570 (so "pointer_of")=some (.val (.ref 504)):=by k_go
@[simp] theorem m511:T0.meth 570 (so "local_value")=some (.val (.ref 511)):=by k_go
@[simp] theorem m525:T0.meth 570 (so "kept")=some (.val (.ref 525)):=by k_go
@[simp] theorem m532:T0.meth 570 (so "zero_operand")=some (.val (.ref 532)):=by k_go
@[simp] theorem m539:T0.meth 570 (so "value")=some (.val (.ref 539)):=by k_go
@[simp] theorem m323:T0.meth 338 (so "instructions")=some (.val (.ref 323)):=by k_go
@[simp] theorem m330:T0.meth 338 (so "terminator")=some (.val (.ref 330)):=by k_go
end
end
section
open PySem
@[reducible] noncomputable def Fd(A:Prop):Prop:=A->A
end
local macro_rules | `(tactic| lk)=>DK "( T ( ( r m | T ; R ;"
section
open PySem
theorem as7{n:Nat}(h:n<=5000):small (n:Int)=true:=decide_eq_true (yV h (by decide))
theorem cj{α:Type}{l:List α}{i:Nat}{x:α}(h:l[i]?=some x)(hs:i<=5000):idx l (i:Int)=some x:=by
 unfold idx;rw[if_pos (as7 hs),if_pos (Int.natCast_nonneg _)];simpa using h
theorem aj{n:Nat}(h:n<=5000):n<=ah:=yK h (by decide)
theorem vk{α:Type}{f:Nat->α}{n i:Nat}(h:i<n):((List.range n).map f)[i]?=some (f i):=by simp[h]
section
variable{J:ac}{loc:Ro->Nat}{X:LS}{n:Nat}{Q:KD}
theorem LR.set{r:Ro}{X':LS}{cl:Cell}(L:LR J loc X)(hv:X.valid r)(e:cellOf loc X' r=cl)(hn:X'.nb=X.nb)(hc:∀r',X.valid r'->r'≠r->cellOf loc X' r'=cellOf loc X r')(hb:X'.wes=X.wes)(hh:X'.here<X'.nb)(h1:X'.qO.length+X'.qQ<=4096)(h2:X'.qQ<=X.qQ)(h4:∀i,(X'.ins i).length+X'.qQ<=4096):
  LR (J.set (loc r) cl) loc X'/\Up J loc X (J.set (loc r) cl) loc X':=by subst e;exact L.upd hv hn hc hb hh h1 h2 h4
theorem fc(L:LR J loc X){ty:D}(hp:ao ty=true)(hb:0<X.qQ)(q:∀J',LR J' loc (X.qA ty)->Up J loc X J' loc (X.qA ty)->Q (.int X.qO.length) J'):Wk (ak T0 (n+1) (.val (.ref 420)) [.loc (loc .st),ty] J) Q:=by
 have hb1:=L.b1;refine wC (fnS 67 1) ["self","told_type"] ?_;lk;refine mtL (L.has .rg trivial) (.inl rfl) ?_;lk;refine w6 (L.has .rg trivial) (aj ((ar2 zBA) hb1)) hp ?_;obtain⟨L',U⟩:=L.set (r:=.rg) (X':=X.qA ty) (cl:=.list (X.qO++ [ty])) trivial rfl rfl (λr' Y h=>by cases r'<;>first | rfl | exact(h rfl).elim) rfl L.here (by simp[LS.qA];exact(ar3 zCA) hb1 (aC ((ar1 0x11411040112) hb))) (by simp[LS.qA]) (λi=>by have:=L.b4 i;simp[LS.qA];exact(ar3 zBB) this aS);generalize List.set J (loc .rg) (Cell.list (X.qO++ [ty]))=J1 at L' U⊢;lk;refine qd (len_list (L'.has .rg trivial) (aj (by simp[LS.qA];exact(ar2 0x111387424010004254002) hb1))) ?_;lk;have:((X.qA ty).qO.length:Int) - 1=X.qO.length:=by simp[LS.qA]
 rw[this];exact q _ L' U
theorem alo(L:LR J loc X){b:Nat}(hb:b<X.nb)(q:Q (.loc (loc (.it b))) J):Wk (ak T0 (n+1) (.val (.ref 323)) [.loc (loc .cd),.int b] J) Q:=by
 have:=L.b2;refine wC (fnS 56 1) ["self","block"] ?_;lk;refine bf (L.has .bl trivial) (cj (vk hb) ((ar3 0x1111388424010004265005413) hb this)) ?_;lk;refine bf (L.has (.bk b) hb) rfl ?_;lk;exact q
theorem aph(X:LS)(i:D)(j:Nat)(h4:∀i,(X.ins i).length+X.qQ<=4096)(hb:0<X.qQ):((X.put i).ins j).length+(X.put i).qQ<=4096:=by
 show(upn X.ins X.here (X.ins X.here++ [i]) j).length+(X.qQ - 1)<=4096;have z1:=h4 X.here;have z2:=h4 j;unfold upn;split
 ·simp;exact(ar3 zCA) z1 (aC ((ar1 0x11411040112) hb))
 ·exact(ar3 zBB) z2 aS
theorem fh(L:LR J loc X){i:D}(hp:ao i=true)(hb:0<X.qQ)(q:∀J',LR J' loc (X.put i)->Up J loc X J' loc (X.put i)->Q .none J'):Wk (ak T0 (n+2) (.val (.ref 434)) [.loc (loc .st),i] J) Q:=by
 have hb4:=L.b4 X.here;have hb1:=L.b1;refine wC (fnS 67 3) ["self","instruction"] ?_;lk;refine alo L L.here ?_;refine mtL (L.has (.it X.here) L.here) (.inl rfl) ?_;lk;refine w6 (L.has (.it X.here) L.here) (aj ((ar2 zBA) hb4)) hp ?_;obtain⟨L',U⟩:=L.set (r:=.it X.here) (X':=X.put i) (cl:=.list (X.ins X.here++ [i])) L.here (congrArg Cell.list (dh ..)) rfl (λr' Y h=>by
  cases r'<;>first | rfl | skip
  exact congrArg Cell.list (bh _ _ λe=>h (by rw[e]))) rfl L.here (by show X.qO.length+(X.qQ - 1)<=4096;exact(ar3 zBB) hb1 aS) (Nat.sub_le _ _) (λx=>aph X i x L.b4 hb)
 lk;exact q _ L' U
noncomputable def qh(loc:Ro->Nat)(nb m:Nat):Ro->Nat:=λr=>if r=.it nb then m else if r=.bk nb then m+1 else loc r
theorem j4(loc:Ro->Nat)(nb m:Nat):qh loc nb m (.it nb)=m:=by simp[qh]
theorem j5(loc:Ro->Nat)(nb m:Nat):qh loc nb m (.bk nb)=m+1:=by simp[qh]
theorem zm(loc:Ro->Nat)(nb m:Nat){r:Ro}(h1:r≠ .it nb)(h2:r≠ .bk nb):qh loc nb m r=loc r:=by simp[qh,h1,h2]
noncomputable def nbS(J:ac)(loc:Ro->Nat)(X:LS):ac:=(J++ [Cell.list []]++ [Cell.list [D.loc J.length,D.none]]).set (loc .bl) (Cell.list ((List.range X.nb).map (λi=>D.loc (loc (.bk i)))++ [D.loc (J.length+1)]))
theorem LR.newB(L:LR J loc X)(hb:0<X.qQ):
  LR (nbS J loc X) (qh loc X.nb J.length) X.qB/\Up J loc X (nbS J loc X) (qh loc X.nb J.length) X.qB:=by
 unfold nbS;have vold:∀r,X.valid r->r≠ .it X.nb/\r≠ .bk X.nb:=λr h=>by
  constructor<;>(rintro rfl;exact absurd h (Nat.lt_irrefl _))
 have vcase:∀r,X.qB.valid r->X.valid r\/r=.it X.nb\/r=.bk X.nb:=λr h=>by
  cases r<;>first | exact .inl trivial | skip
  all_goals
   have h:i<X.nb+1:=h;rcases Nat.lt_or_ge i X.nb with q | q
   ·exact .inl q
   ·have e:=Nat.le_antisymm (Nat.le_of_lt_succ h) q;first | exact .inr (.inl (congrArg Ro.it e)) | exact .inr (.inr (congrArg Ro.bk e))
 have lold:∀r,X.valid r->qh loc X.nb J.length r=loc r:=λr h=>zm loc _ _ (vold r h).1 (vold r h).2;have lbl:=L.lt (r:=.bl) trivial;have vnew:∀r,X.valid r->X.qB.valid r:=λr h=>by
  cases r<;>first | trivial | exact Nat.lt_succ_of_lt h
 refine⟨⟨λr h=> ?_,λr r' h h' e=> ?_,L.base,Nat.lt_succ_of_lt L.here,by have:=L.b1;show X.qO.length+(X.qQ - 1)<=4096;exact(ar3 zBB) this aS,by have:=L.b2;show X.nb+1+(X.qQ - 1)<=4096;exact(ar3 zCA) this (aC ((ar1 0x11411040112) hb)),λi=> ?_⟩,⟨by simp,λl hl ho=> ?_,λr h=>⟨vnew r h,lold r h⟩,λr h=> ?_⟩⟩
 ·rcases vcase r h with q | rfl | rfl
  ·rw[lold r q];by_cases e:r=.bl
   ·subst e;rw[List.getElem?_set_self (by simp;exact(ar2 0x112150415412) lbl)];congr 2;show _=(List.range (X.nb+1)).map _;rw[List.range_succ,List.map_append];congr 1
    ·refine List.map_congr_left λi hi=> ?_;rw[zm loc _ _ (by simp) (by simp;exact yO (List.mem_range.mp hi))]
    ·simp[j5]
   ·rw[yB (λz=>e (L.inj _ _ q trivial z.symm)),ag (ag (L.has r q))];congr 1;cases r<;>first | rfl | skip
    ·exact(e rfl).elim
    ·have hi:i<X.nb:=q;show Cell.list [.loc (loc (.it i)),X.tm i]=Cell.list [.loc (qh loc X.nb J.length (.it i)),upn X.tm X.nb .none i];rw[bh _ _ (yO hi),lold (.it i) hi]
    ·have hi:i<X.nb:=q;show Cell.list (X.ins i)=Cell.list (upn X.ins X.nb [] i);rw[bh _ _ (yO hi)]
  ·rw[j4,yB (by exact(ar2 zAF) lbl),ag (c:=Cell.list []) (by simp)];show some (Cell.list [])=some (Cell.list (upn X.ins X.nb [] X.nb));rw[dh]
  ·rw[j5,yB (by exact(ar2 zAZ) lbl)];have:(J++ [Cell.list []]++ [Cell.list [.loc J.length,.none]])[J.length+1]?=some (Cell.list [.loc J.length,.none]):=by
    rw[List.getElem?_append_right (by simp)];simp
   rw[this];show some (Cell.list [.loc J.length,.none])=some (Cell.list [.loc (qh loc X.nb J.length (.it X.nb)),upn X.tm X.nb .none X.nb]);rw[dh,j4]
 ·rcases vcase r h with q | rfl | rfl<;>rcases vcase r' h' with q' | rfl | rfl
  ·rw[lold r q,lold r' q'] at e;exact L.inj r r' q q' e
  ·rw[lold r q,j4] at e;have:=L.lt q;exact((ar2 0x111010135415443) e this).elim
  ·rw[lold r q,j5] at e;have:=L.lt q;exact((ar2 0x111010135411150443) e this).elim
  ·rw[lold r' q',j4] at e;have:=L.lt q';exact((ar2 0x111010134515423) e this).elim
  ·rfl
  ·rw[j4,j5] at e;exact((ar1 0x11010131140442) e).elim
  ·rw[lold r' q',j5] at e;have:=L.lt q';exact((ar2 0x111010134515114023) e this).elim
  ·rw[j4,j5] at e;exact((ar1 zA0) e).elim
  ·rfl
 ·show(upn X.ins X.nb [] i).length+(X.qQ - 1)<=4096;have:=L.b4 i;unfold upn;split
  ·simp;exact(ar2 0x111001425010004254002) this
  ·exact(ar3 zBB) this aS
 ·rw[yB (λz=>ho .bl trivial z.symm),List.getElem?_append_left (by simp;exact(ar2 0x111150415412) hl),List.getElem?_append_left hl]
 ·rcases vcase r h with q | rfl | rfl
  ·exact .inl q
  ·right;rw[j4];exact yE _
  ·right;rw[j5];exact Nat.le_succ _
theorem ab5(L:LR J loc X)(hb:0<X.qQ)(q:∀J' loc',LR J' loc' X.qB->Up J loc X J' loc' X.qB->Q (.int X.nb) J'):Wk (ak T0 (n+1) (.val (.ref 427)) [.loc (loc .st)] J) Q:=by
 have hb2:=L.b2;refine wC (fnS 67 2) ["self"] ?_;lk;refine mtL (L.has .bl trivial) (.inl rfl) ?_;lk;refine w6 (ag (ag (L.has .bl trivial))) (aj (by simp;exact(ar2 zBA) hb2)) rfl ?_;obtain⟨L',U⟩:=L.newB hb;have e:(J++ [Cell.list []]).length=J.length+1:=by simp
 rw[e];change LR (List.set (J++ [Cell.list []]++ [Cell.list [D.loc J.length,D.none]]) (loc .bl) (Cell.list ((List.range X.nb).map (λi=>D.loc (loc (.bk i)))++ [D.loc (J.length+1)]))) _ _ at L';change Up _ _ _ (List.set (J++ [Cell.list []]++ [Cell.list [D.loc J.length,D.none]]) (loc .bl) (Cell.list ((List.range X.nb).map (λi=>D.loc (loc (.bk i)))++ [D.loc (J.length+1)]))) _ _ at U;generalize List.set (J++ [Cell.list []]++ [Cell.list [D.loc J.length,D.none]]) (loc .bl) (Cell.list ((List.range X.nb).map (λi=>D.loc (loc (.bk i)))++ [D.loc (J.length+1)]))=J1 at L' U⊢;have L2:LR J1 (qh loc X.nb J.length) X.qB:=L';have ls:qh loc X.nb J.length .st=loc .st:=zm _ _ _ (by simp) (by simp);rw[<-ls];lk;refine qd (len_list (L'.has .bl trivial) (aj (by simp[LS.qB];exact(ar2 0x111387424010004254002) hb2))) ?_;lk;have:(((List.range X.qB.nb).map λi=>D.loc (qh loc X.nb J.length (.bk i))).length:Int) - 1=X.nb:=by simp[LS.qB]
 rw[this];exact q _ _ L' U
theorem s_fresh(L:LR J loc X){ty op:D}{rest:List D}(hp:ao ty=true)(hl:rest.length<=100/\rest≠ [])(hb:1<X.qQ)(q:∀J',LR J' loc (X.fresh ty op rest)->Up J loc X J' loc (X.fresh ty op rest)->Q X.reg J'):Wk (ak T0 (n+3) (.val (.ref 441)) [.loc (loc .st),ty,.tup (op::rest)] J) Q:=by
 refine wC (fnS 67 4) ["self","told_type","row"] ?_;lk;refine fc L hp ((ar1 0x11401141112) hb) λJ1 L1 U1=> ?_;lk;refine slT (r:=[op]) (aj (by simp;exact(ar1 0x11138742406422402) hl.1)) (if_pos ⟨by decide,Nat.succ_lt_succ (List.length_pos_iff.mpr hl.2)⟩) ?_;lk;refine slT (r:=rest) (aj (by simp;exact(ar1 0x11138742406422402) hl.1)) (aix ⟨by decide,Nat.le_add_left _ _⟩) ?_;refine nTT (aj (by simp;exact(ar1 0x11138842421006422402) hl.1)) ?_;lk;refine fh L1 rfl (by show 0<X.qQ - 1;exact(ar2 zCB) hb aT) λJ2 L2 U2=> ?_;lk;exact q _ L2 (U1.trans U2)
end
section
variable{J:ac}{loc:Ro->Nat}{X:LS}{n:Nat}{Q:KD}{K:ac->Prop}
theorem LR.qW{x:Str}{v:D}(X':LS)(L:LR J loc X)(e:cellOf loc X' .dst=.dictS (putK (stL loc X) x v))(ha:T0.attr 570 x=true)(hn:X'.nb=X.nb)(hc:∀r',r'≠ .dst->cellOf loc X' r'=cellOf loc X r')(hb:X'.wes=X.wes)(hh:X'.here<X'.nb)(h1:X'.qO=X.qO)(h2:X'.qQ=X.qQ)(h4:X'.ins=X.ins)
  (q:∀J',LR J' loc X'->Up J loc X J' loc X'->K J'):Wv (gg (d8 T0 n) J (.loc (loc .st)) x v) K:=by
 refine setAt (L.has .st trivial) (L.has .dst trivial) ha (by show(11:Nat)<=64;decide) ?_;obtain⟨L',U⟩:=L.set (r:=.dst) (X':=X') (cl:=.dictS (putK (stL loc X) x v)) trivial e hn (λr' Y h=>hc r' h) hb hh (by rw[h1,h2];exact L.b1) (by rw[h2];exact yE _) (by rw[h4,h2];exact L.b4);exact q _ L' U
theorem s8(L:LR J loc X){t:D}(hp:ao t=true)(q:∀J',LR J' loc (X.close t)->Up J loc X J' loc (X.close t)->Q .none J'):Wk (ak T0 (n+1) (.val (.ref 448)) [.loc (loc .st),t] J) Q:=by
 have z1:=L.b2;have z2:=L.here;refine wC (fnS 67 5) ["self","terminator"] ?_;lk;refine bf (L.has .bl trivial) (cj (vk L.here) ((ar3 0x1111388426046110004254003) z1 z2)) ?_;lk;refine adn (L.has (.bk X.here) L.here) ⟨by decide,by simp[small],by show(1:Nat)<2;decide,aj (by simp)⟩ ?_;obtain⟨L',U⟩:=L.set (r:=.bk X.here) (X':=X.close t) (cl:=.list [.loc (loc (.it X.here)),t]) L.here (congrArg (λz=>Cell.list [D.loc (loc (.it X.here)),z]) (dh ..)) rfl (λr' Y h=>by
  cases r'<;>first | rfl | exact congrArg (λz=>Cell.list [D.loc _,z]) (bh _ _ λe=>h (by rw[e]))) rfl L.here L.b1 (yE _) L.b4
 change LR (List.set J (loc (.bk X.here)) (Cell.list (List.set [D.loc (loc (.it X.here)),X.tm X.here] (Int.toNat 1) t))) _ _ at L';lk;exact q _ L' U
theorem as8(L:LR J loc X){b:Nat}(hb:b<X.nb)(q:∀J',LR J' loc ((X.close (.tup [k "jump",.int b])).at_ b)->Up J loc X J' loc ((X.close (.tup [k "jump",.int b])).at_ b)->Q .none J'):Wk (ak T0 (n+2) (.val (.ref 462)) [.loc (loc .st),.int b] J) Q:=by
 refine wC (fnS 67 7) ["self","block"] ?_;lk;refine s8 L rfl λJ1 L1 U1=> ?_;lk;refine L1.qW ((X.close (.tup [k "jump",.int b])).at_ b) (by k_go) (by k_go) rfl (λr' h=>by cases r'<;>first | rfl | exact(h rfl).elim) rfl hb rfl rfl rfl λJ2 L2 U2=> ?_;lk;exact q _ L2 (U1.trans U2)
theorem om(L:LR J loc X)(q:∀J',LR J' loc X.site->Up J loc X J' loc X.site->Q (az (X.qP+1)) J'):Wk (ak T0 (n+1) (.val (.ref 469)) [.loc (loc .st)] J) Q:=by
 refine wC (fnS 67 8) ["self"] ?_;lk;refine L.qW X.site (by k_go) (by k_go) rfl (λr' h=>by cases r'<;>first | rfl | exact(h rfl).elim) rfl L.here rfl rfl rfl λJ2 L2 U2=> ?_;lk;exact q _ L2 U2
theorem ado(L:LR J loc X){r:Int}{ty:D}(hp:ao ty=true)(hb:1<X.qQ)(q:∀J',LR J' loc (X.fresh ty (k "move") [.tup [k "reg",.int r]])->Up J loc X J' loc (X.fresh ty (k "move") [.tup [k "reg",.int r]])->Q X.reg J'):Wk (ak T0 (n+4) (.val (.ref 525)) [.loc (loc .st),.tup [k "reg",.int r],ty] J) Q:=by
 refine wC (fnS 67 16) ["self","operand","told_type"] ?_;lk;refine s_fresh L hp (by simp) hb λJ1 L1 U1=> ?_;lk;exact q _ L1 U1
theorem zo{st ty ty' v:D}(hs:ao st=true)(q:Q (.tup [k "const",ty,v]) J):Wk (ak T0 (n+1) (.val (.ref 525)) [st,.tup [k "const",ty,v],ty'] J) Q:=by
 refine wC (fnS 67 16) ["self","operand","told_type"] ?_;lk;exact q
theorem api{w:D}{s:Str}{r:List D}(hs:(s==so "named")=false)(q:Q (.tup (.str s::r)) J):Wk (ak T0 (n+1) (.val (.ref 627)) [w,.tup (.str s::r)] J) Q:=by
 refine wC (fnS 72 1) ["self","told"] ?_;k_lt2 zS;refine wWh0 ?_;lk;refine ab4 hs ?_;lk;exact q
theorem gv(L:LR J loc X){s:Str}{r:List D}(hs:(s==so "named")=false)(q:Q (.tup (.str s::r)) J):Wk (ak T0 (n+2) (.val (.ref 74)) [.loc (loc .wd),.tup (.str s::r)] J) Q:=by
 refine wC (fnA 7) ["world","T"] ?_;lk;refine api hs ?_;lk;exact q
end
section
set_option genCtorIdx true in
inductive Bop | add | sub | mul | div | mod
set_option genCtorIdx true in
inductive Cop | lt | eq | ge
noncomputable def Bop.d:Bop->D
 | .add=>k "+" | .sub=>k "-" | .mul=>k "*" | .div=>k "/" | .mod=>k "%"
noncomputable def Cop.d:Cop->D
 | .lt=>k "<" | .eq=>k "==" | .ge=>k ">="
noncomputable def alp:Bool->D
 | true=>k "&&" | false=>k "||"
mutual
inductive N
 | k (v:Int) | v0 | v1 | bin (op:Bop) (a b:N) | neg (a:N) | ix (a:N) | fld (a:N) (t:T)
 | sl1 (a i:N) | sl2 (a b i:N) | der (a:N) | lk0 (x:N) | lk1 (a b x:N) | lk2 (a b c d x:N) | asN (a:N) | asT (t:T)
inductive T
 | k (b:Bool) | v | lz (a:Bool) (x y:T) | no (x:T) | cmp (op:Cop) (a b:N)
end
noncomputable def ab6:D:=.tup [k "int",k "int"]
noncomputable def i7:D:=.tup [k "struct",.tup [.tup [k "a",i8,.bool false],.tup [k "b",bo,.bool false]]]
noncomputable def bw:D:=.tup [k "interface",.tup []]
noncomputable def bp:D:=.tup [k "slice",i8]
noncomputable def du:D:=.tup [k "ptr",i8]
noncomputable def gj:D:=.tup [k "map",i8,i8]
noncomputable abbrev ndD(w:String)(ty:D)(r:List D):D:=.tup (k w::ty::.int 0::r)
noncomputable abbrev alq(rows:List D):D:=ndD "table" gj [.tup rows]
mutual
noncomputable def N.d:N->D
 | .k v=>ndD "const" i8 [.int v]
 | .v0=>ndD "local" i8 [.int 0]
 | .v1=>ndD "local" i8 [.int 1]
 | .bin op a b=>ndD "binary" i8 [op.d,a.d,b.d]
 | .neg a=>ndD "unary" i8 [k "-",a.d]
 | .ix a=>ndD "index" i8 [ndD "local" je [.int 3],a.d]
 | .fld a t=>ndD "field" i8 [ndD "struct" i7 [.tup [a.d,t.d]],.int 0]
 | .sl1 a i=>ndD "index" i8 [ndD "row" bp [.int 3,.tup [.tup [.int 0,a.d]]],i.d]
 | .sl2 a b i=>ndD "index" i8 [ndD "row" bp [.int 3,.tup [.tup [.int 0,a.d],.tup [.int 2,b.d]]],i.d]
 | .der a=>ndD "deref" i8 [ndD "fresh" du [a.d]]
 | .lk0 x=>ndD "key" i8 [alq [],x.d,.bool false]
 | .lk1 a b x=>ndD "key" i8 [alq [.tup [a.d,b.d]],x.d,.bool false]
 | .lk2 a b c d x=>ndD "key" i8 [alq [.tup [a.d,b.d],.tup [c.d,d.d]],x.d,.bool false]
 | .asN a=>ndD "assert" i8 [ndD "face" bw [a.d],i8,.bool false]
 | .asT t=>ndD "assert" i8 [ndD "face" bw [t.d],i8,.bool false]
noncomputable def T.d:T->D
 | .k b=>ndD "const" bo [.bool b]
 | .v=>ndD "local" bo [.int 2]
 | .lz a x y=>ndD "lazy" bo [alp a,x.d,y.d]
 | .no x=>ndD "unary" bo [k "!",x.d]
 | .cmp op a b=>ndD "binary" bo [op.d,a.d,b.d]
end
inductive Opd | c (ty v:D) | r (n:Nat)
noncomputable def Opd.d:Opd->D
 | .c ty v=> .tup [k "const",ty,v]
 | .r n=>rgD n
noncomputable def cI(i:Int):D:=.tup [k "const",ab6,.int i]
noncomputable def kept(o:Opd)(ty:D)(X:LS):Opd×LS:=match o with
 | .c ty v=>(.c ty v,X)
 | .r n=>(.r X.qO.length,X.fresh ty (k "move") [rgD n])
noncomputable def fr(X:LS)(ty:D)(op:String)(rest:List D):Opd×LS:=(.r X.qO.length,X.fresh ty (k op) rest)
noncomputable def zp(p:Opd×LS)(ty:D):Opd×LS:=
 let q:=fr p.2 bw "face" [p.1.d,ty]
 (.r q.2.qO.length,(q.2.qA i8).put (.tup [k "assert",.int q.2.qO.length,.none,q.1.d,i8,bw]))
noncomputable def iq(X:LS)(kvs:List (Opd×Opd)):Opd×LS:=
 let q:=fr X.site gj "makemap" [gj,az (X.qP+1)]
 (q.1,kvs.foldl (λY e=>Y.put (.tup [k "mapset",q.1.d,e.1.d,e.2.d])) q.2)
noncomputable def look(t:Opd×LS)(x:Opd×LS)(pair:Bool):Opd×LS:=
 let X1:=x.2.qA i8
 let X2:=if pair then X1.qA bo else X1
 (.r x.2.qO.length,X2.put (.tup [k "mapget",.int x.2.qO.length,if pair then .int X1.qO.length else .none,t.1.d,x.1.d,i8]))
noncomputable def w7(X:LS)(rows:List (Nat×Opd)):Opd×LS:=
 let q:=fr X.site bp "makeslice" [bp,cI 3,cI 3,az (X.qP+1)]
 (q.1,rows.foldl (λY e=>let s:=fr Y du "elemptr" [q.1.d,cI e.1];s.2.put (.tup [k "store",s.1.d,e.2.d])) q.2)
noncomputable def ly(p:Opd×LS)(i:LS->Opd×LS):Opd×LS:=
 let b:=kept p.1 bp p.2
 let j:=i b.2
 let j2:=kept j.1 i8 j.2
 let e:=fr j2.2 du "elemptr" [b.1.d,j2.1.d]
 fr e.2 i8 "load" [e.1.d]
mutual
noncomputable def bq:N->LS->Opd×LS
 | .k v,X=>(.c i8 (.int v),X)
 | .v0,X=>(.r 0,X)
 | .v1,X=>fr X i8 "load" [rgD 1]
 | .bin op a b,X=>fr (bq b (bq a X).2).2 i8 "binary" [op.d,(bq a X).1.d,(bq b (bq a X).2).1.d,i8]
 | .neg a,X=>fr (bq a X).2 i8 "unary" [k "-",(bq a X).1.d,i8]
 | .ix a,X=>fr (bq a X).2 i8 "elem" [rgD 3,(bq a X).1.d]
 | .fld a t,X=>
  let q:=fr (rq t (bq a X).2).2 i7 "struct" [.tup [(bq a X).1.d,(rq t (bq a X).2).1.d]]
  fr q.2 i8 "part" [q.1.d,.int 0]
 | .sl1 a i,X=>ly (w7 (bq a X).2 [(0,(bq a X).1)]) (bq i)
 | .sl2 a b i,X=>ly (w7 (bq b (bq a X).2).2 [(0,(bq a X).1),(2,(bq b (bq a X).2).1)]) (bq i)
 | .der a,X=>
  let q:=fr (bq a X).2.site du "new" [i8,az ((bq a X).2.qP+1)]
  let b:=kept q.1 du (q.2.put (.tup [k "store",q.1.d,(bq a X).1.d]))
  fr b.2 i8 "load" [b.1.d]
 | .lk0 x,X=>look (iq X []) (bq x (iq X []).2) false
 | .lk1 a b x,X=>
  let t:=iq (bq b (bq a X).2).2 [((bq a X).1,(bq b (bq a X).2).1)]
  look t (bq x t.2) false
 | .lk2 a b c d x,X=>
  let p:=bq b (bq a X).2
  let r:=bq d (bq c p.2).2
  let t:=iq r.2 [((bq a X).1,p.1),((bq c p.2).1,r.1)]
  look t (bq x t.2) false
 | .asN a,X=>zp (bq a X) i8
 | .asT t,X=>zp (rq t X) bo
noncomputable def rq:T->LS->Opd×LS
 | .k b,X=>(.c bo (.bool b),X)
 | .v,X=>(.r 2,X)
 | .lz a x y,X=>
  let p:=rq x (X.qA bo)
  let P:=p.2.put (.tup [k "move",.int X.qO.length,p.1.d])
  let Z:=(P.qB.qB.close (.tup [k "branch",rgD X.qO.length,.int (if a then P.nb else P.nb+1:Nat),.int (if a then P.nb+1 else P.nb:Nat)])).at_ P.nb
  let q:=rq y Z
  let W:=q.2.put (.tup [k "move",.int X.qO.length,q.1.d])
  (.r X.qO.length,(W.close (.tup [k "jump",.int (P.nb+1:Nat)])).at_ (P.nb+1))
 | .no x,X=>fr (rq x X).2 bo "unary" [k "!",(rq x X).1.d,bo]
 | .cmp op a b,X=>fr (bq b (bq a X).2).2 bo "binary" [op.d,(bq a X).1.d,(bq b (bq a X).2).1.d,i8]
end
end
section
noncomputable def H4:List (Int×D):=[(0,.int 0),(1,.int 1),(2,.int 2),(3,.int 3)]
mutual
noncomputable def N.dp:N->Nat
 | .k Y | .v0 | .v1=>0
 | .bin Y a b | .sl1 a b=>2+max a.dp b.dp
 | .neg a | .ix a | .der a | .lk0 a | .asN a=>2+a.dp
 | .fld a t=>2+max a.dp t.dp
 | .sl2 a b c | .lk1 a b c=>2+max (max a.dp b.dp) c.dp
 | .lk2 a b c d x=>2+max (max (max a.dp b.dp) (max c.dp d.dp)) x.dp
 | .asT t=>2+t.dp
noncomputable def T.dp:T->Nat
 | .k Y | .v=>0
 | .lz Y x y=>2+max x.dp y.dp
 | .no x=>2+x.dp
 | .cmp Y a b=>2+max a.dp b.dp
end
end
theorem cq(o:Opd):ao o.d=true:=by cases o<;>rfl
noncomputable def Lows(e:D)(low:LS->Opd×LS)(dp:Nat):Prop:=∀(n:Nat) (J:ac) (loc:Ro->Nat) (X:LS) (Q:D->ac->Prop),8*dp+8<=n->LR J loc X->X.held=H4->0<(low X).2.qQ->
 (∀J' loc',LR J' loc' (low X).2->Up J loc X J' loc' (low X).2->Q (low X).1.d J')->Wk (ak T0 n (.val (.ref 206)) [.loc (loc .st),e] J) Q
section
variable{J:ac}{loc:Ro->Nat}{X:LS}{n:Nat}{Q:KD}
theorem as9{e:D}(L:LR J loc X)(hp:ao e=true)(h:∀Q',(∀d s,Q d s->Q' d s)->Wk (ak T0 n (.val (.ref 206)) [.loc (loc .st),e] J) Q'):Wk (ak T0 (n+1) (.val (.ref 539)) [.loc (loc .st),e] J) Q:=by
 refine wC (fnS 67 18) ["self","e"] ?_;lk;refine sDS (L.has .kn trivial) (by rfl) ?_;lk;refine h _ λd s q=> ?_;lk;exact q
end
structure Lo(e:D)(low:LS->Opd×LS)(ty:D)(dp:Nat):Prop where
 run:Lows e low dp
 sh:∃w r,e=.tup (.str w::ty::r)
 ty:∃w r,ty=.tup (.str w::r)/\(w==so "named")=false
 held:∀X,(low X).2.held=X.held
 qQ:∀X,(low X).2.qQ<=X.qQ
theorem Lo.plain{e:D}{low:LS->Opd×LS}{ty:D}{dp:Nat}(h:Lo e low ty dp):ao e=true:=by obtain⟨w,r,rfl⟩:=h.sh;rfl
theorem Lo.val{e:D}{low:LS->Opd×LS}{ty:D}{dp:Nat}(h:Lo e low ty dp){n:Nat}{J:ac}{loc:Ro->Nat}{X:LS}{Q:KD}(hn:8*dp+9<=n)(L:LR J loc X)(hH:X.held=H4)(hb:0<(low X).2.qQ)
  (q:∀J' loc',LR J' loc' (low X).2->Up J loc X J' loc' (low X).2->Q (low X).1.d J'):Wk (ak T0 n (.val (.ref 539)) [.loc (loc .st),e] J) Q:=by
 obtain⟨n,rfl⟩:=nge (k:=1) ((ar2 0x1151105914083002) hn);exact as9 L h.plain λQ' k=>h.run n J loc X Q' ((ar2 0x115814083001150914083002) hn) L hH hb λJ' loc' a b=>k _ _ (q J' loc' a b)
section
variable{J:ac}{loc:Ro->Nat}{X:LS}{n:Nat}{Q:KD}
theorem anv(v:D)(ty:D)(hv:ao v=true)(hp:∃w r,ty=.tup (.str w::r)/\(w==so "named")=false):Lo (ndD "const" ty [v]) (λX=>(.c ty v,X)) ty 0:=by
 refine⟨?_,⟨_,_,rfl⟩,hp,λY=>rfl,λY=>yE _⟩;intro n J loc X Q hn L hH hb q;obtain⟨n,rfl⟩:=nge (k:=2) ((ar1 0x11421048101083002) hn);refine wC (fnA 37) ["state","e"] ?_;lk;refine wC (fnA 40) ["state","e"] ?_;lk;exact q J loc L (Up.refl ..)
theorem i9(L:LR J loc X){i:Int}(q:Q (.bool ([(1:Int)].contains i)) J):Wk (ak T0 (n+1) (.val (.ref 483)) [.loc (loc .st),.int i] J) Q:=by
 refine wC (fnS 67 10) ["self","local"] ?_;lk;refine cK (t:=[(1:Int)].contains i) (inF (L.has .bx trivial)) ?_;lk;exact q
theorem qi(L:LR J loc X){i:Nat}{ty:D}{x:D}(hi:[D.tup [k "n",i8],.tup [k "v",i8],.tup [k "t",bo],.tup [k "r",je]][i]?=some (.tup [x,ty]))(q:Q ty J):Wk (ak T0 (n+1) (.val (.ref 476)) [.loc (loc .st),.int i] J) Q:=by
 refine wC (fnS 67 9) ["self","local"] ?_;lk;have h4:i<4:=ae hi;refine bf (L.has .lo trivial) (cj hi ((ar1 0x111388424041412) h4)) ?_;lk;exact q
theorem ata(L:LR J loc X)(hH:X.held=H4){i:Nat}(hi:i<4)(q:Q (rgD i) J):Wk (ak T0 (n+1) (.val (.ref 504)) [.loc (loc .st),.int i] J) Q:=by
 refine wC (fnS 67 13) ["self","local"] ?_;lk;refine sDI (v:=.int i) (L.has .hd trivial) (by rw[hH];rcases i with _ | _ | _ | _ | i<;>first | rfl | exact((ar1 zCC) hi).elim) ?_;lk;exact q
theorem aiz(L:LR J loc X)(hH:X.held=H4){i:Nat}(hi:i<4)(hb:i≠1)(q:Q (rgD i) J):Wk (ak T0 (n+2) (.val (.ref 511)) [.loc (loc .st),.int i] J) Q:=by
 refine wC (fnS 67 14) ["self","local"] ?_;lk;refine i9 L ?_;rw[show [(1:Int)].contains (i:Int)=false by simp;exact λe=>hb (Int.ofNat.inj e)];lk;refine sDI (v:=.int i) (L.has .hd trivial) (by rw[hH];rcases i with _ | _ | _ | _ | i<;>first | rfl | exact((ar1 zCC) hi).elim) ?_;lk;exact q
theorem ai0(L:LR J loc X)(hH:X.held=H4)(hb:1<X.qQ)(q:∀J',LR J' loc (X.fresh i8 (k "load") [rgD 1])->Up J loc X J' loc (X.fresh i8 (k "load") [rgD 1])->Q X.reg J'):Wk (ak T0 (n+4) (.val (.ref 511)) [.loc (loc .st),.int 1] J) Q:=by
 refine wC (fnS 67 14) ["self","local"] ?_;lk;refine i9 L ?_;lk;refine qi (i:=1) L rfl ?_;lk;refine ata (i:=1) L hH (by decide) ?_;lk;refine s_fresh L rfl (by simp) hb λJ1 L1 U1=> ?_;lk;exact q _ L1 U1
theorem zq{i:Nat}{ty:D}(hi:i<4)(hb:i≠1)(hp:∃w r,ty=.tup (.str w::r)/\(w==so "named")=false):Lo (ndD "local" ty [.int i]) (λX=>(.r i,X)) ty 0:=by
 refine⟨?_,⟨_,_,rfl⟩,hp,λY=>rfl,λY=>yE _⟩;intro n J loc X Q hn L hH _ q;obtain⟨n,rfl⟩:=nge (k:=3) ((ar1 0x11431048101083002) hn);refine wC (fnA 37) ["state","e"] ?_;lk;refine aiz L hH hi hb ?_;lk;exact q J loc L (Up.refl ..)
theorem tyI:∃w r,i8=.tup (.str w::r)/\(w==so "named")=false:=⟨_,_,rfl,by decide+kernel⟩
theorem tyB:∃w r,bo=.tup (.str w::r)/\(w==so "named")=false:=⟨_,_,rfl,by decide+kernel⟩
theorem d9(X:LS)(ty:D)(op:String)(r:List D):(fr X ty op r).2.qQ=X.qQ - 1 - 1:=rfl
theorem apj:Lo (ndD "local" i8 [.int 1]) (λX=>fr X i8 "load" [rgD 1]) i8 0:=by
 refine⟨?_,⟨_,_,rfl⟩,tyI,λY=>rfl,λY=>by simp only[d9];exact(ar3 zA1) aS aS⟩;intro n J loc X Q hn L hH hb q;simp only[d9] at hb;obtain⟨n,rfl⟩:=nge (k:=5) ((ar1 0x11451048101083002) hn);refine wC (fnA 37) ["state","e"] ?_;lk;refine ai0 L hH ((ar3 zAI) hb (aC ((ar2 zAA) hb aS)) aS) λJ1 L1 U1=> ?_;lk;exact q J1 loc L1 U1
theorem Up.qI{J':ac}{loc':Ro->Nat}{X':LS}{l:Nat}(U:Up J loc X J' loc' X')(hl:J.length<=l)(c:Cell):Up J loc X (J'.set l c) loc' X':=
 ⟨by simpa using U.len,λl' h1 h2=>by rw[yB (by exact(ar3 zA2) hl h1)];exact U.old l' h1 h2,U.loc,U.new⟩
theorem me{ea eb ta tb:D}{la lb:LS->Opd×LS}{da db:Nat}(A:Lo ea la ta da)(B:Lo eb lb tb db)(hn:8*max da db+11<=n)(L:LR J loc X)(hH:X.held=H4)(hb:0<(lb (la X).2).2.qQ)
  (q:∀J' loc' l,LR J' loc' (lb (la X).2).2->Up J loc X J' loc' (lb (la X).2).2->Out J' loc' (lb (la X).2).2 l (.list [(la X).1.d,(lb (la X).2).1.d])->Q (.loc l) J'):Wk (ak T0 n (.val (.ref 218)) [.loc (loc .st),.tup [ea,eb]] J) Q:=by
 obtain⟨n,rfl⟩:=nge (k:=1) ((ar2 0x1151105b14083002) hn);have hba:=B.qQ (la X).2;refine wC (fnA 39) ["state","es"] ?_;lk;have L0:=L.qR [Cell.list []];have U0:=Up.qR J loc X [Cell.list []];have O0:Out (J++ [Cell.list []]) loc X J.length (.list []):=L.qF _ _;have hpa:=A.plain;have hpb:=B.plain;lk;refine A.val ((ar3 0x1815916083004601150b14083003) hn aL) L0 hH ((ar2 zAD) hb hba) λJ1 loc1 L1 U1=> ?_;have O1:=U1.out O0;lk;refine ck O1.1 (aj (by simp)) ?_;obtain⟨L2,O2⟩:=O1.set L1 (.list ([]++ [(la X).1.d]));have U2:=(U0.trans U1).qI (yE _) (.list ([]++ [(la X).1.d]));rw[<-(U2.loc .st trivial).2];lk;refine B.val ((ar3 0x1815916083004601150b14083003) hn aR) L2 ((A.held X).trans hH) hb λJ3 loc3 L3 U3=> ?_;have O3:=U3.out O2;lk;refine ck O3.1 (aj (by simp)) ?_;obtain⟨L4,O4⟩:=O3.set L3 (.list ([]++ [(la X).1.d]++ [(lb (la X).2).1.d]));have U4:=(U2.trans U3).qI (yE _) (.list ([]++ [(la X).1.d]++ [(lb (la X).2).1.d]));lk;exact q _ _ _ L4 U4 O4
end
section
variable{J:ac}{loc:Ro->Nat}{X:LS}{n:Nat}{Q:KD}{ea eb ta tb ty:D}{la lb:LS->Opd×LS}{da db:Nat}
theorem zr(h:∃w r,ty=.tup (.str w::r)/\(w==so "named")=false):ao ty=true:=by obtain⟨_,_,rfl,_⟩:=h;rfl
theorem aes{op:D}(A:Lo ea la ta da)(B:Lo eb lb tb db)(ho:ao op=true)(hp:∃w r,ty=.tup (.str w::r)/\(w==so "named")=false):
  Lo (ndD "binary" ty [op,ea,eb]) (λX=>fr (lb (la X).2).2 ty "binary" [op,(la X).1.d,(lb (la X).2).1.d,ta]) ty (1+max da db):=by
 refine⟨?_,⟨_,_,rfl⟩,hp,λX=>(B.held _).trans (A.held _),λX=>by have z1:=A.qQ X;have z2:=B.qQ (la X).2;simp only[d9];exact(ar5 zBQ) z1 z2 aS aS⟩;intro n J loc X Q hn L hH hb q;dsimp only at hb q;simp only[d9] at hb;obtain⟨n,rfl⟩:=nge (k:=5) ((ar2 zA3) hn);have hpt:=zr hp;have hpa:=zr A.ty;obtain⟨w,r,rfl⟩:=A.sh;refine wC (fnA 37) ["state","e"] ?_;lk;refine wC (fnA 42) ["state","e"] ?_;lk;refine me A B ((ar2 0x113150b14083005150814110083002) hn) L hH ((ar3 zAC) hb aS aS) λJ1 loc1 l L1 U1 O1=> ?_;refine bdL O1.1 ?_;rw[<-(U1.loc .st trivial).2];lk;refine s_fresh L1 hpt (by simp) ((ar3 zAI) hb (aC ((ar2 zAA) hb aS)) aS) λJ2 L2 U2=> ?_;lk;exact q J2 loc1 L2 (U1.trans U2)
theorem ai1{op:D}(A:Lo ea la ta da)(hp:∃w r,ty=.tup (.str w::r)/\(w==so "named")=false):
  Lo (ndD "unary" ty [op,ea]) (λX=>fr (la X).2 ty "unary" [op,(la X).1.d,ty]) ty (1+da):=by
 refine⟨?_,⟨_,_,rfl⟩,hp,λX=>A.held _,λX=>by have:=A.qQ X;simp only[d9];exact(ar4 zBC) this aS aS⟩;intro n J loc X Q hn L hH hb q;dsimp only at hb q;simp only[d9] at hb;obtain⟨n,rfl⟩:=nge (k:=5) ((ar2 zA3) hn);have hpt:=zr hp;have hpa:=A.plain;refine wC (fnA 37) ["state","e"] ?_;lk;refine wC (fnA 42) ["state","e"] ?_;lk;refine A.val ((ar2 zBR) hn) L hH ((ar3 zAC) hb aS aS) λJ1 loc1 L1 U1=> ?_;rw[<-(U1.loc .st trivial).2];lk;refine s_fresh L1 hpt (by simp) ((ar3 zAI) hb (aC ((ar2 zAA) hb aS)) aS) λJ2 L2 U2=> ?_;lk;exact q J2 loc1 L2 (U1.trans U2)
theorem adp(L:LR J loc X){w:Str}{t:Str}{r r':List D}(ht:(t==so "named")=false)(q:Q (.str t) J):Wk (ak T0 (n+3) (.val (.ref 139)) [.loc (loc .st),.tup (.str w::.tup (.str t::r')::r)] J) Q:=by
 refine wC (fnA 23) ["state","e"] ?_;lk;refine gv L ht ?_;lk;exact q
theorem apk(A:Lo ea la i8 da):Lo (ndD "index" i8 [ndD "local" je [.int 3],ea]) (λX=>fr (la X).2 i8 "elem" [rgD 3,(la X).1.d]) i8 (1+da):=by
 refine⟨?_,⟨_,_,rfl⟩,tyI,λX=>A.held _,λX=>by have:=A.qQ X;simp only[d9];exact(ar4 zBC) this aS aS⟩;intro n J loc X Q hn L hH hb q;dsimp only at hb q;simp only[d9] at hb;obtain⟨n,rfl⟩:=nge (k:=8) ((ar2 zBS) hn);have hpa:=A.plain;have hba:=A.qQ X;have B:Lo (ndD "local" je [.int 3]) (λX=>(.r 3,X)) je 0:=zq (i:=3) (by decide) (by decide) ⟨_,_,rfl,by decide+kernel⟩;refine wC (fnA 37) ["state","e"] ?_;lk;refine wC (fnA 31) ["state","e"] ?_;lk;refine wC (fnA 24) ["state","e"] ?_;lk;refine adp L (by decide+kernel) ?_;lk;refine wC (fnA 24) ["state","e"] ?_;lk;refine i9 L ?_;lk;refine B.val ((ar2 0x1161509101083008150814110083002) hn) L hH (by show 0<X.qQ;exact(ar4 0x11111601157074065040115) hb hba aS aS) λJ1 loc1 (L1:LR J1 loc1 X) (U1:Up J loc X J1 loc1 X)=> ?_;rw[<-(U1.loc .st trivial).2];lk;refine A.val ((ar2 0x116150914083008150814110083002) hn) L1 hH ((ar3 zAC) hb aS aS) λJ2 loc2 L2 U2=> ?_;rw[<-(U2.loc .st trivial).2];lk;refine s_fresh L2 rfl (by simp) ((ar3 zAI) hb (aC ((ar2 zAA) hb aS)) aS) λJ3 L3 U3=> ?_;lk;exact q J3 loc2 L3 ((U1.trans U2).trans U3)
theorem adq(A:Lo ea la ta da)(B:Lo eb lb tb db):Lo (ndD "struct" i7 [.tup [ea,eb]]) (λX=>fr (lb (la X).2).2 i7 "struct" [.tup [(la X).1.d,(lb (la X).2).1.d]]) i7 (1+max da db):=by
 refine⟨?_,⟨_,_,rfl⟩,⟨_,_,rfl,by decide+kernel⟩,λX=>(B.held _).trans (A.held _),λX=>by have z1:=A.qQ X;have z2:=B.qQ (la X).2;simp only[d9];exact(ar5 zBQ) z1 z2 aS aS⟩;intro n J loc X Q hn L hH hb q;dsimp only at hb q;simp only[d9] at hb;obtain⟨n,rfl⟩:=nge (k:=5) ((ar2 zA3) hn);refine wC (fnA 37) ["state","e"] ?_;lk;refine wC (fnA 47) ["state","e"] ?_;lk;refine wC (fnA 46) ["state","e"] ?_;lk;refine me A B ((ar2 0x112150b14083005150814110083002) hn) L hH ((ar3 zAC) hb aS aS) λJ1 loc1 l L1 U1 O1=> ?_;lk;refine qf (l:=[(la X).1.d,(lb (la X).2).1.d]) (qg O1.1 (aj (by simp))) ?_;rw[<-(U1.loc .st trivial).2];lk;refine s_fresh L1 rfl (by simp) ((ar3 zAI) hb (aC ((ar2 zAA) hb aS)) aS) λJ2 L2 U2=> ?_;lk;exact q J2 loc1 L2 (U1.trans U2)
end
section
variable{J:ac}{loc:Ro->Nat}{X:LS}{n:Nat}{Q:KD}{ea eb ta tb ty:D}{la lb:LS->Opd×LS}{da db:Nat}
theorem alr{ps:D}(P:Lo (ndD "struct" i7 [ps]) la i7 da):Lo (ndD "field" i8 [ndD "struct" i7 [ps],.int 0]) (λX=>fr (la X).2 i8 "part" [(la X).1.d,.int 0]) i8 (1+da):=by
 refine⟨?_,⟨_,_,rfl⟩,tyI,λX=>P.held _,λX=>by have:=P.qQ X;simp only[d9];exact(ar4 zBC) this aS aS⟩;intro n J loc X Q hn L hH hb q;dsimp only at hb q;simp only[d9] at hb;obtain⟨n,rfl⟩:=nge (k:=8) ((ar2 zBS) hn);refine wC (fnA 37) ["state","e"] ?_;lk;refine wC (fnA 31) ["state","e"] ?_;lk;refine wC (fnA 24) ["state","e"] ?_;lk;refine wC (fnA 24) ["state","e"] ?_;lk;refine P.val ((ar2 0x116150914083008150814110083002) hn) L hH ((ar3 zAC) hb aS aS) λJ1 loc1 L1 U1=> ?_;rw[<-(U1.loc .st trivial).2];lk;refine s_fresh L1 rfl (by simp) ((ar3 zAI) hb (aC ((ar2 zAA) hb aS)) aS) λJ2 L2 U2=> ?_;lk;exact q J2 loc1 L2 (U1.trans U2)
theorem qj(A:Lo ea la ta da)(hi:∀w r,ta=.tup (.str w::r)->(w==so "interface")=false):Lo (ndD "face" bw [ea]) (λX=>fr (la X).2 bw "face" [(la X).1.d,ta]) bw (1+da):=by
 refine⟨?_,⟨_,_,rfl⟩,⟨_,_,rfl,by decide+kernel⟩,λX=>A.held _,λX=>by have:=A.qQ X;simp only[d9];exact(ar4 zBC) this aS aS⟩;intro n J loc X Q hn L hH hb q;dsimp only at hb q;simp only[d9] at hb;obtain⟨n,rfl⟩:=nge (k:=5) ((ar2 zA3) hn);obtain⟨wt,rt,rfl,hnm⟩:=A.ty;have hni:=hi _ _ rfl;obtain⟨w,r,rfl⟩:=A.sh;refine wC (fnA 37) ["state","e"] ?_;lk;refine wC (fnA 42) ["state","e"] ?_;lk;refine A.val ((ar2 zBR) hn) L hH ((ar3 zAC) hb aS aS) λJ1 loc1 L1 U1=> ?_;rw[<-(U1.loc .st trivial).2];lk;refine gv L1 hnm ?_;lk;rw[hni];lk;refine s_fresh L1 rfl (by simp) ((ar3 zAI) hb (aC ((ar2 zAA) hb aS)) aS) λJ2 L2 U2=> ?_;lk;exact q J2 loc1 L2 (U1.trans U2)
theorem ai2(A:Lo ea la bw da):Lo (ndD "assert" i8 [ea,i8,.bool false]) (λX=>(.r (la X).2.qO.length,((la X).2.qA i8).put (.tup [k "assert",.int (la X).2.qO.length,.none,(la X).1.d,i8,bw]))) i8 (1+da):=by
 refine⟨?_,⟨_,_,rfl⟩,tyI,λX=>A.held _,λX=>by have:=A.qQ X;show(la X).2.qQ - 1 - 1<=X.qQ;exact(ar4 zBC) this aS aS⟩;intro n J loc X Q hn L hH hb q;dsimp only at hb q;have hb:0<(la X).2.qQ - 1 - 1:=hb;obtain⟨n,rfl⟩:=nge (k:=5) ((ar2 zA3) hn);have hpa:=A.plain;obtain⟨w,r,rfl⟩:=A.sh;refine wC (fnA 37) ["state","e"] ?_;lk;refine wC (fnA 44) ["state","e"] ?_;lk;refine A.val ((ar2 zBR) hn) L hH ((ar3 zAC) hb aS aS) λJ1 loc1 L1 U1=> ?_;rw[<-(U1.loc .st trivial).2];lk;have L2:=L1.qR [Cell.list [(la X).1.d,i8,bw]];have U2:=Up.qR J1 loc1 (la X).2 [Cell.list [(la X).1.d,i8,bw]];have O2:Out (J1++ [Cell.list [(la X).1.d,i8,bw]]) loc1 (la X).2 J1.length (.list [(la X).1.d,i8,bw]):=L1.qF _ _;lk;refine fc L2 rfl ((ar3 zAC) hb aS aS) λJ3 L3 U3=> ?_;lk;refine qf (l:=[(la X).1.d,i8,bw]) (qg (U3.out O2).1 (lb rfl)) ?_;refine nTT (lb rfl) ?_;lk;refine fh L3 rfl (by show 0<(la X).2.qQ - 1;exact(ar2 zAD) hb aS) λJ4 L4 U4=> ?_;lk;have h1:(J4++ [Cell.list [rgD (la X).2.qO.length]])[J4.length]?=some (.list [rgD (la X).2.qO.length]):=by simp
 have h2:(J4++ [Cell.list [rgD (la X).2.qO.length]]++ [Cell.list []])[(J4++ [Cell.list [rgD (la X).2.qO.length]]).length]?=some (.list []):=by simp
 refine nLL (ag h1) h2 (lb rfl) ?_;lk;refine bf (l:=[rgD (la X).2.qO.length]) (v:=rgD (la X).2.qO.length) (by simp) rfl ?_;lk;exact q _ loc1 (((L4.qR _).qR _).qR _) ((((((U1.trans U2).trans U3).trans U4).trans (Up.qR ..)).trans (Up.qR ..)).trans (Up.qR ..))
end
section
variable{J:ac}{loc:Ro->Nat}{X:LS}{n:Nat}{Q:KD}{ea eb ta tb ty:D}{la lb:LS->Opd×LS}{da db:Nat}
theorem s9(o:Opd)(ty:D)(X:LS):(kept o ty X).2.qQ<=X.qQ:=by
 induction o with
 | c=>exact yE _
 | r n=>show X.qQ - 1 - 1<=X.qQ;exact(ar3 zA1) aS aS
theorem m6(o:Opd)(ty:D)(X:LS):(kept o ty X).2.held=X.held:=by cases o<;>rfl
theorem ads{o:Opd}(L:LR J loc X)(hp:ao ty=true)(hb:0<(kept o ty X).2.qQ)(q:∀J',LR J' loc (kept o ty X).2->Up J loc X J' loc (kept o ty X).2->Q (kept o ty X).1.d J'):Wk (ak T0 (n+4) (.val (.ref 525)) [.loc (loc .st),o.d,ty] J) Q:=by
 induction o with
 | c t v=>exact zo (n:=n+3) rfl (q J L (Up.refl ..))
 | r m=>exact ado L hp (by have:0<X.qQ - 1 - 1:=hb;exact(ar3 zAI) this (aC ((ar2 zAA) this aS)) aS) q
theorem agl(A:Lo ea la i8 da):Lo (ndD "fresh" du [ea]) (λX=>((fr (la X).2.site du "new" [i8,az ((la X).2.qP+1)]).1,(fr (la X).2.site du "new" [i8,az ((la X).2.qP+1)]).2.put (.tup [k "store",(fr (la X).2.site du "new" [i8,az ((la X).2.qP+1)]).1.d,(la X).1.d]))) du (1+da):=by
 refine⟨?_,⟨_,_,rfl⟩,⟨_,_,rfl,by decide+kernel⟩,λX=>A.held _,λX=>by have:=A.qQ X;show(la X).2.qQ - 1 - 1 - 1<=X.qQ;exact(ar5 0x111115604808707605405) this aS aS aS⟩;intro n J loc X Q hn L hH hb q;dsimp only at hb q;have hb:0<(la X).2.qQ - 1 - 1 - 1:=hb;obtain⟨n,rfl⟩:=nge (k:=5) ((ar2 zA3) hn);have hpa:=A.plain;obtain⟨w,r,rfl⟩:=A.sh;refine wC (fnA 37) ["state","e"] ?_;lk;refine wC (fnA 30) ["state","e"] ?_;lk;refine A.val ((ar2 zBR) hn) L hH ((ar4 zBD) hb aS aS aS) λJ1 loc1 L1 U1=> ?_;rw[<-(U1.loc .st trivial).2];lk;refine om L1 λJ2 L2 U2=> ?_;lk;refine s_fresh L2 rfl (by simp) (by show 1<(la X).2.qQ;exact(ar4 zBT) hb (aC ((ar2 zAA) hb aS)) aS aS) λJ3 L3 U3=> ?_;lk;refine fh L3 rfl (by show 0<(la X).2.qQ - 1 - 1;exact(ar2 zAD) hb aS) λJ4 L4 U4=> ?_;lk;exact q _ loc1 L4 (((U1.trans U2).trans U3).trans U4)
theorem als{r:List D}{lp:LS->Opd×LS}(P:Lo (ndD "fresh" du r) lp du da):Lo (ndD "deref" i8 [ndD "fresh" du r]) (λX=>fr (kept (lp X).1 du (lp X).2).2 i8 "load" [(kept (lp X).1 du (lp X).2).1.d]) i8 (1+da):=by
 refine⟨?_,⟨_,_,rfl⟩,tyI,λX=>(m6 ..).trans (P.held _),λX=>by have z1:=P.qQ X;have z2:=s9 (lp X).1 du (lp X).2;simp only[d9];exact(ar5 zBQ) z1 z2 aS aS⟩;intro n J loc X Q hn L hH hb q;dsimp only at hb q;simp only[d9] at hb;have hk:=s9 (lp X).1 du (lp X).2;obtain⟨n,rfl⟩:=nge (k:=8) ((ar2 zBS) hn);refine wC (fnA 37) ["state","e"] ?_;lk;refine wC (fnA 31) ["state","e"] ?_;lk;refine wC (fnA 24) ["state","e"] ?_;lk;refine wC (fnA 26) ["state","e"] ?_;lk;refine P.val ((ar2 0x115150914083008150814110083002) hn) L hH ((ar4 0x11111601157074065040115) hb hk aS aS) λJ1 loc1 L1 U1=> ?_;rw[<-(U1.loc .st trivial).2];lk;refine ads L1 rfl ((ar3 zAC) hb aS aS) λJ2 L2 U2=> ?_;lk;refine wC (fnA 27) ["state","way"] ?_;lk;refine s_fresh L2 rfl (by simp) ((ar3 zAI) hb (aC ((ar2 zAA) hb aS)) aS) λJ3 L3 U3=> ?_;lk;exact q _ loc1 L3 ((U1.trans U2).trans U3)
end
section
variable{J:ac}{loc:Ro->Nat}{X:LS}{n:Nat}{Q:KD}{ea eb ta tb ty:D}{la lb:LS->Opd×LS}{da db:Nat}
theorem ya(X:LS)(a:Nat)(o:Opd):(w7 X [(a,o)]).2.qQ=X.qQ - 1 - 1 - 1 - 1 - 1:=rfl
theorem yb(X:LS)(a b:Nat)(o p:Opd):(w7 X [(a,o),(b,p)]).2.qQ=X.qQ - 1 - 1 - 1 - 1 - 1 - 1 - 1 - 1:=rfl
theorem ai3(A:Lo ea la i8 da):Lo (ndD "row" bp [.int 3,.tup [.tup [.int 0,ea]]]) (λX=>w7 (la X).2 [(0,(la X).1)]) bp (1+da):=by
 refine⟨?_,⟨_,_,rfl⟩,⟨_,_,rfl,by decide+kernel⟩,λX=>A.held _,λX=>by have:=A.qQ X;rw[ya];exact(ar7 0x11111115604a0a909808707605407) this aS aS aS aS aS⟩;intro n J loc X Q hn L hH hb q;dsimp only at hb q;rw[ya] at hb;obtain⟨n,rfl⟩:=nge (k:=6) ((ar2 zA4) hn);have hpa:=A.plain;refine wC (fnA 37) ["state","e"] ?_;lk;refine wC (fnA 47) ["state","e"] ?_;lk;refine gv L (by decide+kernel) ?_;lk;refine wC (fnA 49) ["state","e","cell_type"] ?_;lk;have L0:=L.qR [Cell.list []];have U0:=Up.qR J loc X [Cell.list []];have O0:Out (J++ [Cell.list []]) loc X J.length (.list []):=L.qF _ _;lk;refine A.val ((ar2 0x113150914083006150814110083002) hn) L0 hH ((ar6 0x1111111901198087076065054040117) hb aS aS aS aS aS) λJ1 loc1 L1 U1=> ?_;have O1:=U1.out O0;lk;refine ck O1.1 (aj (by simp)) ?_;obtain⟨L2,O2⟩:=O1.set L1 (.list ([]++ [D.tup [.int 0,(la X).1.d]]));have U2:=(U0.trans U1).qI (yE _) (.list ([]++ [D.tup [.int 0,(la X).1.d]]));rw[<-(U2.loc .st trivial).2];lk;refine om L2 λJ3 L3 U3=> ?_;lk;refine s_fresh L3 rfl (by simp) (by show 1<(la X).2.qQ;exact(ar6 0x1111111911198087076065051140240117) hb (aC ((ar2 zAA) hb aS)) aS aS aS aS) λJ4 L4 U4=> ?_;have O4:=U4.out (U3.out O2);lk;refine sdF O4.1 ?_;refine wT1 (saL O4.1 rfl) ?_;lk;refine s_fresh L4 rfl (by simp) (by show 1<(la X).2.qQ - 1 - 1;exact(ar4 zBT) hb (aC ((ar2 zAA) hb aS)) aS aS) λJ5 L5 U5=> ?_;lk;refine fh L5 rfl (by show 0<(la X).2.qQ - 1 - 1 - 1 - 1;exact(ar2 zAD) hb aS) λJ6 L6 U6=> ?_;have O6:=U6.out (U5.out O4);lk;refine wT0 (saL O6.1 rfl) ?_;lk;exact q _ loc1 L6 ((((U2.trans U3).trans U4).trans U5).trans U6)
theorem ai4(A:Lo ea la i8 da)(B:Lo eb lb i8 db):Lo (ndD "row" bp [.int 3,.tup [.tup [.int 0,ea],.tup [.int 2,eb]]]) (λX=>w7 (lb (la X).2).2 [(0,(la X).1),(2,(lb (la X).2).1)]) bp (1+max da db):=by
 refine⟨?_,⟨_,_,rfl⟩,⟨_,_,rfl,by decide+kernel⟩,λX=>(B.held _).trans (A.held _),λX=>by have z1:=A.qQ X;have z2:=B.qQ (la X).2;rw[yb];exact(ar11 0x111111111115706e0ed0dc0cb0ba0a90980870460540b) z1 z2 aS aS aS aS aS aS aS aS⟩;intro n J loc X Q hn L hH hb q;dsimp only at hb q;rw[yb] at hb;have hbb:=B.qQ (la X).2;obtain⟨n,rfl⟩:=nge (k:=6) ((ar2 zA4) hn);have hpa:=A.plain;have hpb:=B.plain;refine wC (fnA 37) ["state","e"] ?_;lk;refine wC (fnA 47) ["state","e"] ?_;lk;refine gv L (by decide+kernel) ?_;lk;refine wC (fnA 49) ["state","e","cell_type"] ?_;lk;have L0:=L.qR [Cell.list []];have U0:=Up.qR J loc X [Cell.list []];have O0:Out (J++ [Cell.list []]) loc X J.length (.list []):=L.qF _ _;lk;refine A.val ((ar3 zBE) hn aL) L0 hH ((an5 0x1111111111160115d0dc0cb0ba0a909808707406504011b) hb hbb aS aS aS aS aS aS aS aS) λJ1 loc1 L1 U1=> ?_;have O1:=U1.out O0;lk;refine ck O1.1 (aj (by simp)) ?_;obtain⟨L2,O2⟩:=O1.set L1 (.list ([]++ [D.tup [.int 0,(la X).1.d]]));have U2:=(U0.trans U1).qI (yE _) (.list ([]++ [D.tup [.int 0,(la X).1.d]]));rw[<-(U2.loc .st trivial).2];lk;refine B.val ((ar3 zBE) hn aR) L2 ((A.held X).trans hH) ((ar9 0x1111111111c011cb0ba0a909808707606505404011a) hb aS aS aS aS aS aS aS aS) λJ3 loc3 L3 U3=> ?_;have O3:=U3.out O2;lk;refine ck O3.1 (aj (by simp)) ?_;obtain⟨L4,O4⟩:=O3.set L3 (.list ([]++ [D.tup [.int 0,(la X).1.d]]++ [D.tup [.int 2,(lb (la X).2).1.d]]));have U4:=(U2.trans U3).qI (yE _) (.list ([]++ [D.tup [.int 0,(la X).1.d]]++ [D.tup [.int 2,(lb (la X).2).1.d]]));rw[show loc1 .st=loc .st from(U2.loc .st trivial).2,<-(U4.loc .st trivial).2];lk;refine om L4 λJ5 L5 U5=> ?_;lk;refine s_fresh L5 rfl (by simp) (by show 1<(lb (la X).2).2.qQ;exact(ar9 0x1111111111c111cb0ba0a909808707606505114024011a) hb (aC ((ar2 zAA) hb aS)) aS aS aS aS aS aS aS) λJ6 L6 U6=> ?_;have O6:=U6.out (U5.out O4);lk;refine sdF O6.1 ?_;refine wT1 (saL O6.1 rfl) ?_;lk;refine s_fresh L6 rfl (by simp) (by show 1<(lb (la X).2).2.qQ - 1 - 1;exact(ar7 0x11111111a111a9098087076065051140240118) hb (aC ((ar2 zAA) hb aS)) aS aS aS aS aS) λJ7 L7 U7=> ?_;lk;refine fh L7 rfl (by show 0<(lb (la X).2).2.qQ - 1 - 1 - 1 - 1;exact(ar5 0x111111801187076065054040116) hb aS aS aS aS) λJ8 L8 U8=> ?_;have O8:=U8.out (U7.out O6);lk;refine wT1 (saL O8.1 rfl) ?_;lk;refine s_fresh L8 rfl (by simp) (by show 1<(lb (la X).2).2.qQ - 1 - 1 - 1 - 1 - 1;exact(ar4 zBT) hb (aC ((ar2 zAA) hb aS)) aS aS) λJ9 L9 U9=> ?_;lk;refine fh L9 rfl (by show 0<(lb (la X).2).2.qQ - 1 - 1 - 1 - 1 - 1 - 1 - 1;exact(ar2 zAD) hb aS) λJa La Ua=> ?_;have Oa:=Ua.out (U9.out O8);lk;refine wT0 (saL Oa.1 rfl) ?_;lk;exact q _ _ La ((((((U4.trans U5).trans U6).trans U7).trans U8).trans U9).trans Ua)
theorem ai5{r:List D}{lr li:LS->Opd×LS}{dr di:Nat}{ei:D}(R:Lo (ndD "row" bp r) lr bp dr)(I:Lo ei li i8 di):Lo (ndD "index" i8 [ndD "row" bp r,ei]) (λX=>ly (lr X) li) i8 (1+max dr di):=by
 have qQ:∀X,(ly (lr X) li).2.qQ+4<=(kept (li (kept (lr X).1 bp (lr X).2).2).1 i8 (li (kept (lr X).1 bp (lr X).2).2).2).2.qQ\/(ly (lr X) li).2.qQ=0:=λX=>by
  show(kept (li (kept (lr X).1 bp (lr X).2).2).1 i8 (li (kept (lr X).1 bp (lr X).2).2).2).2.qQ - 1 - 1 - 1 - 1+4<=_\/(kept (li (kept (lr X).1 bp (lr X).2).2).1 i8 (li (kept (lr X).1 bp (lr X).2).2).2).2.qQ - 1 - 1 - 1 - 1=0;exact lg4 _
 have chain:∀X,(kept (li (kept (lr X).1 bp (lr X).2).2).1 i8 (li (kept (lr X).1 bp (lr X).2).2).2).2.qQ<=(li (kept (lr X).1 bp (lr X).2).2).2.qQ/\(li (kept (lr X).1 bp (lr X).2).2).2.qQ<=(kept (lr X).1 bp (lr X).2).2.qQ/\(kept (lr X).1 bp (lr X).2).2.qQ<=(lr X).2.qQ/\(lr X).2.qQ<=X.qQ:=λX=>
  ⟨s9 ..,I.qQ _,s9 ..,R.qQ _⟩
 refine⟨?_,⟨_,_,rfl⟩,tyI,λX=>(m6 ..).trans ((I.held _).trans ((m6 ..).trans (R.held _))),λX=>by have z1:=qQ X;have z2:=chain X;exact(z1.elim (λq1=>((ar6 0x1111118904419008707606505406) z2.1 z2.2.1 z2.2.2.1 z2.2.2.2 q1)) (λq2=>((ar2 0x1154001422) q2)))⟩;intro n J loc X Q hn L hH hb q;dsimp only at hb q;have hb2:=qQ X;have hch:=chain X;obtain⟨n,rfl⟩:=nge (k:=8) ((ar2 zBS) hn);have hpi:=I.plain;obtain⟨w,rr,hei⟩:=I.sh;refine wC (fnA 37) ["state","e"] ?_;lk;refine wC (fnA 31) ["state","e"] ?_;lk;refine wC (fnA 24) ["state","e"] ?_;lk;refine adp L (by decide+kernel) ?_;lk;refine wC (fnA 26) ["state","e"] ?_;lk;refine adp L (by decide+kernel) ?_;lk;refine R.val ((ar3 zCW) hn aL) L hH ((hb2.elim (λq1=>((ar5 0x1111170114418007606505405) hch.1 hch.2.1 hch.2.2.1 q1)) (λq2=>(yX ((ar1 zAP) hb q2))))) λJ1 loc1 L1 U1=> ?_;rw[<-(U1.loc .st trivial).2];lk;refine ads L1 rfl ((hb2.elim (λq1=>((ar4 0x111160114417006505404) hch.1 hch.2.1 q1)) (λq2=>(yX ((ar1 zAP) hb q2))))) λJ2 L2 U2=> ?_;lk;refine I.val ((ar3 zCW) hn aR) L2 ((m6 ..).trans ((R.held _).trans hH)) ((hb2.elim (λq1=>((ar3 0x11150114416005403) hch.1 q1)) (λq2=>(yX ((ar1 zAP) hb q2))))) λJ3 loc3 L3 U3=> ?_;rw[<-(U3.loc .st trivial).2];subst hei;lk;refine ads L3 rfl ((hb2.elim (λq1=>((ar2 0x1150115414002) q1)) (λq2=>(yX ((ar1 zAP) hb q2))))) λJ4 L4 U4=> ?_;lk;refine wC (fnA 27) ["state","way"] ?_;lk;refine s_fresh L4 rfl (by simp) ((hb2.elim (λq1=>((ar2 0x1151115414002) q1)) (λq2=>(yX ((ar1 zAP) hb q2))))) λJ5 L5 U5=> ?_;lk;refine s_fresh L5 rfl (by simp) (by
  show 1<(kept (li (kept (lr X).1 bp (lr X).2).2).1 i8 (li (kept (lr X).1 bp (lr X).2).2).2).2.qQ - 1 - 1;exact(hb2.elim (λq1=>((ar4 0x111171111160501170605414004) q1 aT aT)) (λq2=>(yX ((ar1 zAP) hb q2))))) λJ6 L6 U6=> ?_
 lk;exact q _ _ L6 (((((U1.trans U2).trans U3).trans U4).trans U5).trans U6)
end
section
variable{J:ac}{loc:Ro->Nat}{X:LS}{n:Nat}{Q:KD}{ea eb ec ed ta tb ty:D}{la lb lc ld:LS->Opd×LS}{da db dc dd:Nat}
theorem tyM:∃w r,gj=.tup (.str w::r)/\(w==so "named")=false:=⟨_,_,rfl,by decide+kernel⟩
theorem vm:Lo (ndD "table" gj [.tup []]) (λX=>iq X []) gj 1:=by
 refine⟨?_,⟨_,_,rfl⟩,tyM,λX=>rfl,λX=>by show X.qQ - 1 - 1<=X.qQ;exact(ar3 zA1) aS aS⟩;intro n J loc X Q hn L hH hb q;dsimp only at hb q;have hb:0<X.qQ - 1 - 1:=hb;obtain⟨n,rfl⟩:=nge (k:=6) ((ar1 0x11461048111083002) hn);refine wC (fnA 37) ["state","e"] ?_;lk;refine wC (fnA 47) ["state","e"] ?_;lk;refine wC (fnA 50) ["state","e"] ?_;lk;have L0:=L.qR [Cell.list []];have U0:=Up.qR J loc X [Cell.list []];have O0:Out (J++ [Cell.list []]) loc X J.length (.list []):=L.qF _ _;lk;refine om L0 λJ3 L3 U3=> ?_;lk;refine s_fresh L3 rfl (by simp) (by show 1<X.qQ;exact(ar3 zAI) hb (aC ((ar2 zAA) hb aS)) aS) λJ4 L4 U4=> ?_;have O4:=U4.out (U3.out O0);lk;refine sdL O4.1 ?_;refine wT0 (saL O4.1 rfl) ?_;lk;exact q _ loc L4 ((U0.trans U3).trans U4)
theorem vn(A:Lo ea la i8 da)(B:Lo eb lb i8 db):Lo (ndD "table" gj [.tup [.tup [ea,eb]]]) (λX=>iq (lb (la X).2).2 [((la X).1,(lb (la X).2).1)]) gj (1+max da db):=by
 have qQ:∀X,(iq (lb (la X).2).2 [((la X).1,(lb (la X).2).1)]).2.qQ=(lb (la X).2).2.qQ - 1 - 1 - 1:=λY=>rfl;refine⟨?_,⟨_,_,rfl⟩,tyM,λX=>(B.held _).trans (A.held _),λX=>by have z1:=A.qQ X;have z2:=B.qQ (la X).2;rw[qQ];exact(ar6 0x1111115706909808704605406) z1 z2 aS aS aS⟩;intro n J loc X Q hn L hH hb q;dsimp only at hb q;rw[qQ] at hb;obtain⟨n,rfl⟩:=nge (k:=6) ((ar2 zA4) hn);refine wC (fnA 37) ["state","e"] ?_;lk;refine wC (fnA 47) ["state","e"] ?_;lk;refine wC (fnA 50) ["state","e"] ?_;lk;have L0:=L.qR [Cell.list []];have U0:=Up.qR J loc X [Cell.list []];have O0:Out (J++ [Cell.list []]) loc X J.length (.list []):=L.qF _ _;lk;refine me A B ((ar2 0x113150b14083006150814110083002) hn) L0 hH ((ar4 zBD) hb aS aS aS) λJ1 loc1 l L1 U1 P1=> ?_;have O1:=U1.out O0;lk;refine ck O1.1 (aj (by simp)) ?_;have hne:l≠J.length:=λz=>by have z3:=P1.1;rw[z,O1.1] at z3;cases z3
 obtain⟨L2,O2⟩:=O1.set L1 (.list ([]++ [D.loc l]));have P2:Out (J1.set J.length (.list ([]++ [D.loc l]))) loc1 _ l _:=⟨by rw[yB (Ne.symm hne)];exact P1.1,P1.2⟩
 have U2:=(U0.trans U1).qI (yE _) (.list ([]++ [D.loc l]));rw[<-(U2.loc .st trivial).2];lk;refine om L2 λJ3 L3 U3=> ?_;lk;refine s_fresh L3 rfl (by simp) (by show 1<(lb (la X).2).2.qQ;exact(ar4 zBT) hb (aC ((ar2 zAA) hb aS)) aS aS) λJ4 L4 U4=> ?_;have O4:=U4.out (U3.out O2);have P4:=U4.out (U3.out P2);lk;refine sdF O4.1 ?_;refine wT1 (saL O4.1 rfl) (bdL P4.1 ?_);lk;refine fh L4 rfl (by show 0<(lb (la X).2).2.qQ - 1 - 1;exact(ar2 zAD) hb aS) λJ5 L5 U5=> ?_;have O5:=U5.out O4;lk;refine wT0 (saL O5.1 rfl) ?_;lk;exact q _ loc1 L5 (((U2.trans U3).trans U4).trans U5)
theorem vp(A:Lo ea la i8 da)(B:Lo eb lb i8 db)(C:Lo ec lc i8 dc)(E:Lo ed ld i8 dd):Lo (ndD "table" gj [.tup [.tup [ea,eb],.tup [ec,ed]]]) (λX=>iq (ld (lc (lb (la X).2).2).2).2 [((la X).1,(lb (la X).2).1),((lc (lb (la X).2).2).1,(ld (lc (lb (la X).2).2).2).1)]) gj (1+max (max da db) (max dc dd)):=by
 have qQ:∀X,(iq (ld (lc (lb (la X).2).2).2).2 [((la X).1,(lb (la X).2).1),((lc (lb (la X).2).2).1,(ld (lc (lb (la X).2).2).2).1)]).2.qQ=(ld (lc (lb (la X).2).2).2).2.qQ - 1 - 1 - 1 - 1:=λY=>rfl;refine⟨?_,⟨_,_,rfl⟩,tyM,λX=>(E.held _).trans ((C.held _).trans ((B.held _).trans (A.held _))),λX=>by have z1:=A.qQ X;have z2:=B.qQ (la X).2;have z3:=C.qQ (lb (la X).2).2;have z4:=E.qQ (lc (lb (la X).2).2).2;rw[qQ];exact(ar9 0x1111111115908c0cb0ba0a907806704605409) z1 z2 z3 z4 aS aS aS aS⟩;intro n J loc X Q hn L hH hb q;dsimp only at hb q;rw[qQ] at hb;have h1:=C.qQ (lb (la X).2).2;have h2:=E.qQ (lc (lb (la X).2).2).2;obtain⟨n,rfl⟩:=nge (k:=6) ((ar2 zA4) hn);refine wC (fnA 37) ["state","e"] ?_;lk;refine wC (fnA 47) ["state","e"] ?_;lk;refine wC (fnA 50) ["state","e"] ?_;lk;have L0:=L.qR [Cell.list []];have U0:=Up.qR J loc X [Cell.list []];have O0:Out (J++ [Cell.list []]) loc X J.length (.list []):=L.qF _ _;lk;refine me A B ((ar3 zCX) hn aL) L0 hH ((ar7 0x1111111160117a0a9098084057065040118) hb h1 h2 aS aS aS aS) λJ1 loc1 l L1 U1 P1=> ?_;have O1:=U1.out O0;lk;refine ck O1.1 (aj (by simp)) ?_;have hne:l≠J.length:=λz=>by have z5:=P1.1;rw[z,O1.1] at z5;cases z5
 obtain⟨L2,O2⟩:=O1.set L1 (.list ([]++ [D.loc l]));have P2:Out (J1.set J.length (.list ([]++ [D.loc l]))) loc1 _ l _:=⟨by rw[yB (Ne.symm hne)];exact P1.1,P1.2⟩
 have U2:=(U0.trans U1).qI (yE _) (.list ([]++ [D.loc l]));rw[<-(U2.loc .st trivial).2];lk;refine me C E ((ar3 zCX) hn aR) L2 ((B.held _).trans ((A.held _).trans hH)) ((ar5 0x111111801187076065054040116) hb aS aS aS aS) λJ3 loc3 l2 L3 U3 R3=> ?_;have O3:=U3.out O2;have P3:=U3.out P2;lk;refine ck O3.1 (aj (by simp)) ?_;have hne2:l2≠J.length:=λz=>by have z6:=R3.1;rw[z,O3.1] at z6;simp at z6
 obtain⟨L4,O4⟩:=O3.set L3 (.list ([]++ [D.loc l]++ [D.loc l2]));have P4:Out (J3.set J.length (.list ([]++ [D.loc l]++ [D.loc l2]))) loc3 _ l _:=⟨by rw[yB (Ne.symm hne)];exact P3.1,P3.2⟩
 have R4:Out (J3.set J.length (.list ([]++ [D.loc l]++ [D.loc l2]))) loc3 _ l2 _:=⟨by rw[yB (Ne.symm hne2)];exact R3.1,R3.2⟩
 have U4:=(U2.trans U3).qI (yE _) (.list ([]++ [D.loc l]++ [D.loc l2]));rw[show loc1 .st=loc .st from(U2.loc .st trivial).2,<-(U4.loc .st trivial).2];lk;refine om L4 λJ5 L5 U5=> ?_;lk;refine s_fresh L5 rfl (by simp) (by show 1<(ld (lc (lb (la X).2).2).2).2.qQ;exact(ar5 0x111111811187076065051140240116) hb (aC ((ar2 zAA) hb aS)) aS aS aS) λJ6 L6 U6=> ?_;have O6:=U6.out (U5.out O4);have P6:=U6.out (U5.out P4);have R6:=U6.out (U5.out R4);lk;refine sdF O6.1 ?_;refine wT1 (saL O6.1 rfl) (bdL P6.1 ?_);lk;refine fh L6 rfl (by show 0<(ld (lc (lb (la X).2).2).2).2.qQ - 1 - 1;exact(ar3 zAC) hb aS aS) λJ7 L7 U7=> ?_;have O7:=U7.out O6;have R7:=U7.out R6;lk;refine wT1 (saL O7.1 rfl) (bdL R7.1 ?_);lk;refine fh L7 rfl (by show 0<(ld (lc (lb (la X).2).2).2).2.qQ - 1 - 1 - 1;exact(ar2 zAD) hb aS) λJ8 L8 U8=> ?_;have O8:=U8.out O7;lk;refine wT0 (saL O8.1 rfl) ?_;lk;exact q _ loc3 L8 ((((U4.trans U5).trans U6).trans U7).trans U8)
theorem vw(A:Lo ea la gj da)(B:Lo eb lb i8 db):Lo (ndD "key" i8 [ea,eb,.bool false]) (λX=>look (la X) (lb (la X).2) false) i8 (1+max da db):=by
 have qQ:∀X,(look (la X) (lb (la X).2) false).2.qQ=(lb (la X).2).2.qQ - 1 - 1:=λY=>rfl;refine⟨?_,⟨_,_,rfl⟩,tyI,λX=>(B.held _).trans (A.held _),λX=>by have z1:=A.qQ X;have z2:=B.qQ (la X).2;rw[qQ];exact(ar5 zBQ) z1 z2 aS aS⟩;intro n J loc X Q hn L hH hb q;dsimp only at hb q;rw[qQ] at hb;obtain⟨n,rfl⟩:=nge (k:=6) ((ar2 zA4) hn);have hpa:=A.plain;have hpb:=B.plain;refine wC (fnA 37) ["state","e"] ?_;lk;refine wC (fnA 44) ["state","e"] ?_;lk;refine me A B ((ar2 0x114150b14083006150814110083002) hn) L hH ((ar3 zAC) hb aS aS) λJ1 loc1 l L1 U1 O1=> ?_;rw[<-(U1.loc .st trivial).2];lk;have h1:(J1++ [Cell.list [i8]])[J1.length]?=some (.list [i8]):=by simp
 refine nLL (ag O1.1) h1 (aj (by simp)) ?_;have L2:=(L1.qR [Cell.list [i8]]).qR [Cell.list ([(la X).1.d,(lb (la X).2).1.d]++ [i8])];have U2:=(Up.qR J1 loc1 (lb (la X).2).2 [Cell.list [i8]]).trans (Up.qR _ loc1 (lb (la X).2).2 [Cell.list ([(la X).1.d,(lb (la X).2).1.d]++ [i8])]);have O2:Out (J1++ [Cell.list [i8]]++ [Cell.list ([(la X).1.d,(lb (la X).2).1.d]++ [i8])]) loc1 (lb (la X).2).2 (J1++ [Cell.list [i8]]).length _:=(L1.qR [Cell.list [i8]]).qF _ _;lk;refine fc L2 rfl ((ar3 zAC) hb aS aS) λJ3 L3 U3=> ?_;have O3:=U3.out O2;lk;refine qf (l:=[(la X).1.d,(lb (la X).2).1.d]++ [i8]) (qg O3.1 (aj (by simp))) ?_;lk;refine fh L3 rfl (by show 0<(lb (la X).2).2.qQ - 1;exact(ar2 zAD) hb aS) λJ4 L4 U4=> ?_;lk;have h1:(J4++ [Cell.list [rgD (lb (la X).2).2.qO.length]])[J4.length]?=some (.list [rgD (lb (la X).2).2.qO.length]):=by simp
 have h2:(J4++ [Cell.list [rgD (lb (la X).2).2.qO.length]]++ [Cell.list []])[(J4++ [Cell.list [rgD (lb (la X).2).2.qO.length]]).length]?=some (.list []):=by simp
 refine nLL (ag h1) h2 (aj (by simp)) ?_;lk;refine bf (l:=[rgD (lb (la X).2).2.qO.length]) (v:=rgD (lb (la X).2).2.qO.length) (by simp) rfl ?_;lk;exact q _ loc1 (((L4.qR _).qR _).qR _) ((((((U1.trans U2).trans U3).trans U4).trans (Up.qR ..)).trans (Up.qR ..)).trans (Up.qR ..))
end
section
variable{J:ac}{loc:Ro->Nat}{X:LS}{n:Nat}{Q:KD}{ea eb:D}{la lb:LS->Opd×LS}{da db:Nat}
section
noncomputable def lzP(la:LS->Opd×LS)(X:LS):LS:=(la (X.qA bo)).2.put (.tup [k "move",.int X.qO.length,(la (X.qA bo)).1.d])
noncomputable def lzZ(a:Bool)(la:LS->Opd×LS)(X:LS):LS:=((lzP la X).qB.qB.close (.tup [k "branch",rgD X.qO.length,.int (if a then(lzP la X).nb else(lzP la X).nb+1:Nat),.int (if a then(lzP la X).nb+1 else(lzP la X).nb:Nat)])).at_ (lzP la X).nb
noncomputable def lzL(a:Bool)(la lb:LS->Opd×LS)(X:LS):Opd×LS:=(.r X.qO.length,(((lb (lzZ a la X)).2.put (.tup [k "move",.int X.qO.length,(lb (lzZ a la X)).1.d])).close (.tup [k "jump",.int ((lzP la X).nb+1:Nat)])).at_ ((lzP la X).nb+1))
end
theorem apl{a:Bool}(A:Lo ea la bo da)(B:Lo eb lb bo db):Lo (ndD "lazy" bo [alp a,ea,eb]) (lzL a la lb) bo (1+max da db):=by
 have qQ:∀X,(lzL a la lb X).2.qQ=(lb (lzZ a la X)).2.qQ - 1:=λY=>rfl;have budZ:∀X,(lzZ a la X).qQ=(la (X.qA bo)).2.qQ - 1 - 1 - 1:=λY=>rfl;have budR:∀X:LS,(X.qA bo).qQ=X.qQ - 1:=λY=>rfl;refine⟨?_,⟨_,_,rfl⟩,tyB,λX=>(B.held _).trans (A.held _),λX=>by have z1:=A.qQ (X.qA bo);have z2:=B.qQ (lzZ a la X);have z3:=budZ X;have z4:=budR X;rw[qQ];exact(an5 0x1111111111ad06d04c0cb0b80a90952872760540a) z1 z2 z3 z4 aS aS aS aS aS⟩;intro n J loc X Q hn L hH hb q;rw[qQ] at hb;have h1:=A.qQ (X.qA bo);have h2:=B.qQ (lzZ a la X);have h3:=budZ X;have h4:=budR X;obtain⟨n,rfl⟩:=nge (k:=6) ((ar2 zA4) hn);have hpa:=A.plain;have hpb:=B.plain;refine wC (fnA 37) ["state","e"] ?_;lk;refine wC (fnA 42) ["state","e"] ?_;lk;refine wC (fnA 43) ["state","e"] ?_;lk;refine fc L rfl ((ar2 0x1150115114022) (aC ((ar2 zBF) (aC ((an5 0x11111111111b1107405d0dc0c90ba0a629828706504011b) hb h1 h2 h3 h4 aS aS aS aS aS))))) λJ1 L1 U1=> ?_;lk;refine A.val ((ar3 zBE) hn aL) L1 hH ((ar4 0x111170117606505114024) (aC ((ar2 zBF) (aC ((ar5 zBU) hb h2 h3 aS aS)))) aS aS) λJ2 loc2 L2 U2=> ?_;rw[<-(U2.loc .st trivial).2];lk;refine fh L2 rfl ((ar4 0x111170117606505114024) (aC ((ar2 zBF) (aC ((ar5 zBU) hb h2 h3 aS aS)))) aS aS) λJ3 L3 U3=> ?_;have L3:LR J3 loc2 (lzP la X):=L3;have U3:Up J2 loc2 _ J3 loc2 (lzP la X):=U3;lk;refine ab5 L3 (by show 0<(la (X.qA bo)).2.qQ - 1;exact(ar3 0x11160116505114023) (aC ((ar2 zBF) (aC ((ar5 zBU) hb h2 h3 aS aS)))) aS) λJ4 loc4 L4 U4=> ?_;rw[<-(U4.loc .st trivial).2];lk;refine ab5 L4 (by show 0<(la (X.qA bo)).2.qQ - 1 - 1;exact(ar2 0x1150115114022) (aC ((ar2 zBF) (aC ((ar5 zBU) hb h2 h3 aS aS))))) λJ5 loc5 L5 U5=> ?_;rw[<-(U5.loc .st trivial).2];lk;cases a
 ·lk;refine s8 L5 rfl λJ6 L6 U6=> ?_;lk;refine L6.qW (lzZ false la X) (by k_go) (by k_go) rfl (λr' h=>by cases r'<;>first | rfl | exact(h rfl).elim) rfl (by show(lzP la X).nb<(lzP la X).nb+1+1;exact(ar1 0x11111400411)) rfl rfl rfl λJ7 L7 U7=> ?_;lk;refine B.val ((ar3 zBE) hn aR) L7 ((A.held _).trans hH) ((ar2 zAD) hb aS) λJ8 loc8 L8 U8=> ?_;rw[<-(U8.loc .st trivial).2];lk;refine fh L8 rfl ((ar2 zAD) hb aS) λJ9 L9 U9=> ?_;lk;have hv:(lzP la X).nb+1<(lb (lzZ false la X)).2.nb:=(U8.loc (.bk ((lzP la X).nb+1)) (yU _)).1;refine as8 (b:=(lzP la X).nb+1) L9 hv λJa La Ua=> ?_;lk;exact q Ja loc8 La (((((((((U1.trans U2).trans U3).trans U4).trans U5).trans U6).trans U7).trans U8).trans U9).trans Ua)
 ·lk;refine s8 L5 rfl λJ6 L6 U6=> ?_;lk;refine L6.qW (lzZ true la X) (by k_go) (by k_go) rfl (λr' h=>by cases r'<;>first | rfl | exact(h rfl).elim) rfl (by show(lzP la X).nb<(lzP la X).nb+1+1;exact(ar1 0x11111400411)) rfl rfl rfl λJ7 L7 U7=> ?_;lk;refine B.val ((ar3 zBE) hn aR) L7 ((A.held _).trans hH) ((ar2 zAD) hb aS) λJ8 loc8 L8 U8=> ?_;rw[<-(U8.loc .st trivial).2];lk;refine fh L8 rfl ((ar2 zAD) hb aS) λJ9 L9 U9=> ?_;lk;have hv:(lzP la X).nb+1<(lb (lzZ true la X)).2.nb:=(U8.loc (.bk ((lzP la X).nb+1)) (yU _)).1;refine as8 (b:=(lzP la X).nb+1) L9 hv λJa La Ua=> ?_;lk;exact q Ja loc8 La (((((((((U1.trans U2).trans U3).trans U4).trans U5).trans U6).trans U7).trans U8).trans U9).trans Ua)
end
theorem Lo.mono{e:D}{low:LS->Opd×LS}{ty:D}{d d':Nat}(h:Lo e low ty d)(hd:d<=d'):Lo e low ty d':=
 ⟨λn J loc X Q hn=>h.run n J loc X Q ((ar3 0x1186814083006815083005403) hd hn),h.sh,h.ty,h.held,h.qQ⟩
theorem noI:∀w r,i8=.tup (.str w::r)->(w==so "interface")=false:=λw r e=>by cases e;decide+kernel
theorem noB:∀w r,bo=.tup (.str w::r)->(w==so "interface")=false:=λw r e=>by cases e;decide+kernel
theorem ab7(o:Bop):ao o.d=true:=by cases o<;>rfl
theorem ab8(o:Cop):ao o.d=true:=by cases o<;>rfl
mutual
theorem ax:∀e:N,Lo e.d (bq e) i8 e.dp
 | .k v=>anv (.int v) i8 rfl tyI
 | .v0=>zq (i:=0) (by decide) (by decide) tyI
 | .v1=>apj
 | .bin op a b=>(aes (ax a) (ax b) (ab7 op) tyI).mono ((ar1 zAH))
 | .neg a=>(ai1 (ax a) tyI).mono ((ar1 zAH))
 | .ix a=>(apk (ax a)).mono ((ar1 zAH))
 | .fld a t=>(alr (adq (ax a) (gf t))).mono ((ar1 zAW))
 | .sl1 a i=>(ai5 (ai3 (ax a)) (ax i)).mono ((mC (λq1=>((ar3 zAQ) q1 aL)) (λq2=>((ar3 zAR) q2 aR))))
 | .sl2 a b i=>(ai5 (ai4 (ax a) (ax b)) (ax i)).mono ((mC (λq1=>((ar3 zAQ) q1 aL)) (λq2=>((ar3 zAR) q2 aR))))
 | .der a=>(als (agl (ax a))).mono ((ar1 zAW))
 | .lk0 x=>(vw vm (ax x)).mono ((mC (λq1=>((ar2 0x1152104110011422) q1)) (λq2=>((ar2 0x115210411005422) q2))))
 | .lk1 a b x=>(vw (vn (ax a) (ax b)) (ax x)).mono ((mC (λq1=>((ar3 zAQ) q1 aL)) (λq2=>((ar3 zAR) q2 aR))))
 | .lk2 a b c d x=>(vw (vp (ax a) (ax b) (ax c) (ax d)) (ax x)).mono ((mC (λq1=>((ar3 zAQ) q1 aL)) (λq2=>((ar3 zAR) q2 aR))))
 | .asN a=>(ai2 (qj (ax a) noI)).mono ((ar1 zAW))
 | .asT t=>(ai2 (qj (gf t) noB)).mono ((ar1 zAW))
theorem gf:∀e:T,Lo e.d (rq e) bo e.dp
 | .k b=>anv (.bool b) bo rfl tyB
 | .v=>zq (i:=2) (by decide) (by decide) tyB
 | .lz a x y=>(apl (gf x) (gf y)).mono ((ar1 zAH))
 | .no x=>(ai1 (gf x) tyB).mono ((ar1 zAH))
 | .cmp op a b=>(aes (ax a) (ax b) (ab8 op) tyB).mono ((ar1 zAH))
end
noncomputable def Gs(J:ac)(s:Nat):Prop:=∃a b:Int,J[s]?=some (.list [.int a,.int b])/\0<=b/\b<2147483648
noncomputable def FrS(J:ac)(s:Nat)(J':ac):Prop:=J.length<=J'.length/\∀l,l<J.length->l≠s->J'[l]?=J[l]?
theorem FrS.refl(J:ac)(s:Nat):FrS J s J:=⟨yE _,λY Z U=>rfl⟩
theorem FrS.trans{J J' J'':ac}{s:Nat}(a:FrS J s J')(b:FrS J' s J''):FrS J s J'':=
 ⟨yK a.1 b.1,λl h1 h2=>(b.2 l (yJ h1 a.1) h2).trans (a.2 l h1 h2)⟩
theorem FrS.qR(J:ac)(s:Nat)(t:ac):FrS J s (J++t):=⟨by simp,λl h Y=>List.getElem?_append_left h⟩
theorem FrS.set(J:ac)(s:Nat)(c:Cell):FrS J s (J.set s c):=⟨by simp,λl h h2=>yB (Ne.symm h2)⟩
theorem FrS.at{J J':ac}{s l:Nat}{c:Cell}(a:FrS J s J')(h:J[l]?=some c)(hl:l≠s):J'[l]?=some c:=(a.2 l (ae h) hl).trans h
theorem Gs.qR{J:ac}{s:Nat}(g:Gs J s)(t:ac):Gs (J++t) s:=by obtain⟨a,b,h,r⟩:=g;exact⟨a,b,ag h,r⟩
theorem Gs.lt{J:ac}{s:Nat}(g:Gs J s):s<J.length:=by obtain⟨a,b,h,r⟩:=g;exact ae h
theorem vx{i:Int}(h1: -9223372036854775808<i)(h2:i<9223372036854775808):small i=true:=decide_eq_true (Nat.lt_succ_of_le (ara (n:=9223372036854775807) (Int.add_one_le_of_lt h1) (Int.le_of_lt_add_one h2)))
theorem m7{i:Int}(h1: -128<=i)(h2:i<=128):small i=true:=vx (Int.lt_of_lt_of_le (by decide) h1) (Int.lt_of_le_of_lt h2 (by decide))
theorem zu{t:Int}(ht:0<t/\t<1000):t≠0/\small t=true:=⟨Int.ne_of_gt ht.1,vx (Int.lt_trans (by decide) ht.1) (Int.lt_trans ht.2 (by decide))⟩
theorem ir{a t:Int}(ht:0<t):0<=a.fmod t/\a.fmod t<t:=⟨Int.fmod_nonneg_of_pos a ht,Int.fmod_lt_of_pos a ht⟩
section
variable{J:ac}{s n:Nat}{Q:KD}
theorem jf{t:Int}(g:Gs J s)(ht:0<t/\t<1000)(q:∀(d:Int) J',0<=d->d<t->Gs J' s->FrS J s J'->Q (.int d) J'):Wk (ak T0 (n+1) (.val (.ref 668)) [.loc s,.int t] J) Q:=by
 obtain⟨a,b,h,hb0,hb1⟩:=g;have hs:=ae h;refine wC (fnA 81) ["source","top"] ?_;lk;refine bf h rfl ?_;lk;refine fo (λha=> ?_) (λha=> ?_)
 ·lk;refine bf h rfl ?_;lk;refine adm rfl ?_;lk;refine vj (zu ht) ?_;lk;refine bf h rfl ?_;lk;refine alj (zu ht) ?_;lk;refine adn h ⟨by decide,by simp[small],by simp,aj (by simp)⟩ ?_;lk;exact q _ _ (ir ht.1).1 (ir ht.1).2 ⟨a.fdiv t,b,by rw[List.getElem?_set_self hs];rfl,hb0,hb1⟩ (FrS.set ..)
 ·lk;refine bf h rfl ?_;lk;refine vh (by simp[small]) ?_;lk;refine adm rfl ?_;lk;refine vj ⟨by decide,by simp[small]⟩ ?_;lk;refine adn h ⟨by decide,by simp[small],by simp,aj (by simp)⟩ ?_;have hm:=ir (a:=b*39373+7) (t:=2147483647) (by decide);generalize Int.fmod (b*39373+7) 2147483647=b' at hm;have h':(J.set s (.list (List.set [D.int a,D.int b] (Int.toNat 1) (.int b'))))[s]?=some (.list [.int a,.int b']):=by rw[List.getElem?_set_self hs];rfl
  lk;refine bf h' rfl ?_;lk;refine bf h' rfl ?_;refine vh (by rw[vx (Int.lt_of_lt_of_le (by decide) hm.1) (Int.lt_trans hm.2 (by decide))];rfl) ?_;lk;refine adm rfl ?_;lk;refine vj ⟨by decide,by simp[small]⟩ ?_;lk;refine alj ⟨by decide,by simp[small]⟩ ?_;lk;refine vj (zu ht) ?_;lk;exact q _ _ (ir ht.1).1 (ir ht.1).2 ⟨a,b',h',hm.1,Int.lt_trans hm.2 (by decide)⟩ (FrS.set ..)
theorem ab9{m:Nat}{l:List D}(g:Gs J s)(h:J[m]?=some (.list l))(hm:m≠s)(hl:0<l.length/\l.length<1000)(q:∀(i:Nat) v J',l[i]?=some v->Gs J' s->FrS J s J'->Q v J'):Wk (ak T0 (n+2) (.val (.ref 675)) [.loc s,.loc m] J) Q:=by
 refine wC (fnA 82) ["source","things"] ?_;lk;refine qd (len_list h (aj ((ar1 0x11138842403e832412) hl.2))) ?_;lk;refine jf g ⟨Int.ofNat_lt.mpr hl.1,Int.ofNat_lt.mpr hl.2⟩ λd J' h0 h1 g' f=> ?_;obtain⟨i,rfl⟩:=Int.eq_ofNat_of_zero_le h0;have hi:i<l.length:=Int.ofNat_lt.mp h1;refine bf (f.at h hm) (cj (yC hi) ((ar2 0x111138842504513e832413) hl.2 hi)) ?_;lk;exact q i _ J' (yC hi) g' f
end
theorem apm{A B p:Prop}[Decidable p](h:p)(q:A):Ki A B (decide p):=by rw[decide_eq_true h];exact q
theorem apn{A B p:Prop}[Decidable p](h:¬p)(q:B):Ki A B (decide p):=by rw[decide_eq_false h];exact q
theorem apo{A B:Prop}{x y:Int}(h:x=y)(q:A):Ki A B (x==y):=by rw[beq_iff_eq.mpr h];exact q
theorem apq{A B:Prop}{x y:Int}(h:x≠y)(q:B):Ki A B (x==y):=by rw[beq_eq_false_iff_ne.mpr h];exact q
end
local macro_rules | `(tactic| room)=>DK "( T ( ( ( apm 5 ; W ( apn 5 ; W ( apo 5 ; W ( apq 5 ; W | T ; R ;"
section
open PySem
section
mutual
noncomputable def N.ok:N->Prop
 | .k v=> -128<=v/\v<=127
 | .v0 | .v1=>True
 | .bin Y a b | .sl1 a b=>a.ok/\b.ok
 | .neg a | .ix a | .der a | .lk0 a | .asN a=>a.ok
 | .fld a t=>a.ok/\t.ok
 | .sl2 a b c | .lk1 a b c=>a.ok/\b.ok/\c.ok
 | .lk2 a b c d x=>a.ok/\b.ok/\c.ok/\d.ok/\x.ok
 | .asT t=>t.ok
noncomputable def T.ok:T->Prop
 | .k Y | .v=>True
 | .lz Y x y=>x.ok/\y.ok
 | .no x=>x.ok
 | .cmp Y a b=>a.ok/\b.ok
end
noncomputable def lkD(rows:List (N×N))(x:N)(pair:Bool):D:=ndD "key" (if pair then .tup [k "tuple",.tup [i8,bo]] else i8) [alq (rows.map λr=> .tup [r.1.d,r.2.d]),x.d,.bool pair]
end
noncomputable def GN(m:Nat):Prop:=∀(n:Nat) (J:ac) (s:Nat) (Q:D->ac->Prop),4*m+6<=n->Gs J s->(∀(t:N) J',t.dp<=2*m->t.ok->Gs J' s->FrS J s J'->Q t.d J')->Wk (ak T0 n (.val (.ref 687)) [.loc s,.int m] J) Q
noncomputable def GT(m:Nat):Prop:=∀(n:Nat) (J:ac) (s:Nat) (Q:D->ac->Prop),4*m+6<=n->Gs J s->(∀(t:T) J',t.dp<=2*m->t.ok->Gs J' s->FrS J s J'->Q t.d J')->Wk (ak T0 n (.val (.ref 699)) [.loc s,.int m] J) Q
section
variable{J:ac}{s n:Nat}{Q:KD}
theorem aet{v:Int}(q:Q (ndD "const" i8 [.int v]) J):Wk (ak T0 (n+1) (.val (.ref 682)) [.int v] J) Q:=by
 refine wC (fnA 83) ["value"] ?_;lk;exact q
theorem menu{i:Nat}{v:D}(h:[D.int 0,.int 1,.int 2,.int 5,.int 100,.int (-128)][i]?=some v):∃j:Int,v=.int j/\ -128<=j/\j<=127:=by
 rcases i with _ | _ | _ | _ | _ | _ | i<;>simp at h<;>subst h<;>exact⟨_,rfl,by decide,by decide⟩
theorem apr(t:N):ao t.d=true:=(ax t).plain
theorem alu(t:T):ao t.d=true:=(gf t).plain
theorem aps:GN 0:=by
 intro n J s Q hn g q;obtain⟨n,rfl⟩:=nge (k:=6) ((ar1 0x11461046101043002) hn);refine wC (fnA 84) ["source","deep"] ?_;room;refine jf g (by decide) λd J1 h0 h1 g1 f1=> ?_;rcases lt3 h0 h1 with rfl | rfl | rfl
 ·room;have g2:=g1.qR [Cell.list [.int 0,.int 1,.int 2,.int 5,.int 100,.int (-128)]];refine ab9 (l:=[.int 0,.int 1,.int 2,.int 5,.int 100,.int (-128)]) g2 (by simp) (yN g1.lt) (by decide) λi v J3 hi g3 f3=> ?_;obtain⟨j,rfl,hj⟩:=menu hi;room;refine aet ?_;room;exact q (.k j) J3 (Nat.zero_le _) hj g3 ((f1.trans (FrS.qR ..)).trans f3)
 ·room;exact q .v0 J1 (Nat.zero_le _) trivial g1 f1
 ·room;exact q .v1 J1 (Nat.zero_le _) trivial g1 f1
theorem apt:GT 0:=by
 intro n J s Q hn g q;obtain⟨n,rfl⟩:=nge (k:=6) ((ar1 0x11461046101043002) hn);refine wC (fnA 86) ["source","deep"] ?_;room;refine jf g (by decide) λd J1 h0 h1 g1 f1=> ?_;rcases lt2 h0 h1 with rfl | rfl
 ·room;refine jf g1 (by decide) λe J2 h0 h1 g2 f2=> ?_;room;exact q (.k (e==0)) J2 (Nat.zero_le _) trivial g2 (f1.trans f2)
 ·room;exact q .v J1 (Nat.zero_le _) trivial g1 f1
end
section
variable{J:ac}{s n:Nat}{Q:KD}{m:Nat}
theorem ai6(H:GN m){pair:Bool}(hn:4*m+8<=n)(g:Gs J s)(q:∀(rows:List (N×N)) (x:N) J',rows.length<=2->(∀r∈rows,(r.1.dp<=2*m/\r.1.ok)/\r.2.dp<=2*m/\r.2.ok)->x.dp<=2*m->x.ok->Gs J' s->FrS J s J'->Q (lkD rows x pair) J'):
  Wk (ak T0 n (.val (.ref 692)) [.loc s,.int (m+1:Nat),.bool pair] J) Q:=by
 obtain⟨n,rfl⟩:=nge (k:=2) ((ar2 0x1152105814043002) hn);have hm:((m+1:Nat):Int) - 1=(m:Int):=Int.add_sub_cancel (m:Int) 1;refine wC (fnA 85) ["source","deep","is_pair"] ?_;room;refine jf g (by decide) λd J1 h0 h1 g1 f1=> ?_;refine as2 (by simp;exact⟨yW (by decide) h0,yW (Int.le_of_lt h1) (by decide)⟩) ?_;have g2:=g1.qR [Cell.list []];have f2:=f1.trans (FrS.qR J1 s [Cell.list []]);have a2:(J1++ [Cell.list []])[J1.length]?=some (.list []):=by simp
 have hs1:J1.length≠s:=yN g1.lt;rcases lt3 h0 h1 with rfl | rfl | rfl
 ·show kCp _ _ _ _ _ _ (.items []) _;room;refine qf (l:=[]) (qg a2 (lb rfl)) ?_;room;cases pair<;>(
   room;rw[hm];refine H _ _ s _ (by exact Nat.le_of_succ_le_succ (Nat.le_of_succ_le hn)) g2 λx J4 x1 x2 g4 f4=> ?_;room;exact q [] x J4 (by simp) (by simp) x1 x2 g4 ((f2).trans f4))
 ·show kCp _ _ _ _ _ _ (.items [.int 0]) _;room;rw[hm];refine H _ _ s _ ((ar2 zA5) hn) g2 λt0 J2a p01 p02 g2a f2a=> ?_;room;rw[hm];refine H _ _ s _ ((ar2 zA5) hn) g2a λt1 J2b p11 p12 g2b f2b=> ?_;room;have a2b:=f2b.at (f2a.at a2 hs1) hs1;refine ck a2b (lb rfl) ?_;have g2c:Gs (J2b.set J1.length (.list ([]++ [D.tup [t0.d,t1.d]]))) s:=by obtain⟨a,b,h,r⟩:=g2b;exact⟨a,b,by rw[yB hs1];exact h,r⟩
  have f2c:FrS J s (J2b.set J1.length (.list ([]++ [D.tup [t0.d,t1.d]]))):=⟨by simpa using((f2.trans f2a).trans f2b).1,λl h1 h2=>by rw[yB (by have:=f1.1;exact(ar3 zCD) h1 this)];exact((f2.trans f2a).trans f2b).2 l h1 h2⟩
  have a2c:(J2b.set J1.length (.list ([]++ [D.tup [t0.d,t1.d]])))[J1.length]?=some (.list ([]++ [D.tup [t0.d,t1.d]])):=List.getElem?_set_self (ae a2b);room;refine qf (l:=[D.tup [t0.d,t1.d]]) (qg a2c (lb rfl)) ?_;room;cases pair<;>(
   room;rw[hm];refine H _ _ s _ (by exact Nat.le_of_succ_le_succ (Nat.le_of_succ_le hn)) g2c λx J4 x1 x2 g4 f4=> ?_;room;exact q [(t0,t1)] x J4 (by simp) (by simp[p01,p02,p11,p12]) x1 x2 g4 ((f2c).trans f4))
 ·show kCp _ _ _ _ _ _ (.items [.int 0,.int 1]) _;room;rw[hm];refine H _ _ s _ ((ar2 zA5) hn) g2 λt0 J2a p01 p02 g2a f2a=> ?_;room;rw[hm];refine H _ _ s _ ((ar2 zA5) hn) g2a λt1 J2b p11 p12 g2b f2b=> ?_;room;have a2b:=f2b.at (f2a.at a2 hs1) hs1;refine ck a2b (lb rfl) ?_;have g2c:Gs (J2b.set J1.length (.list ([]++ [D.tup [t0.d,t1.d]]))) s:=by obtain⟨a,b,h,r⟩:=g2b;exact⟨a,b,by rw[yB hs1];exact h,r⟩
  have f2c:FrS J s (J2b.set J1.length (.list ([]++ [D.tup [t0.d,t1.d]]))):=⟨by simpa using((f2.trans f2a).trans f2b).1,λl h1 h2=>by rw[yB (by have:=f1.1;exact(ar3 zCD) h1 this)];exact((f2.trans f2a).trans f2b).2 l h1 h2⟩
  have a2c:(J2b.set J1.length (.list ([]++ [D.tup [t0.d,t1.d]])))[J1.length]?=some (.list ([]++ [D.tup [t0.d,t1.d]])):=List.getElem?_set_self (ae a2b);room;rw[hm];refine H _ _ s _ ((ar2 zA5) hn) g2c λt2 J3a p21 p22 g3a f3a=> ?_;room;rw[hm];refine H _ _ s _ ((ar2 zA5) hn) g3a λt3 J3b p31 p32 g3b f3b=> ?_;room;have a3b:=f3b.at (f3a.at a2c hs1) hs1;refine ck a3b (lb rfl) ?_;have g3c:Gs (J3b.set J1.length (.list ([]++ [D.tup [t0.d,t1.d]]++ [D.tup [t2.d,t3.d]]))) s:=by obtain⟨a,b,h,r⟩:=g3b;exact⟨a,b,by rw[yB hs1];exact h,r⟩
  have f3c:FrS J s (J3b.set J1.length (.list ([]++ [D.tup [t0.d,t1.d]]++ [D.tup [t2.d,t3.d]]))):=⟨by simpa using((f2c.trans f3a).trans f3b).1,λl h1 h2=>by rw[yB (by have:=f1.1;exact(ar3 zCD) h1 this)];exact((f2c.trans f3a).trans f3b).2 l h1 h2⟩
  have a3c:(J3b.set J1.length (.list ([]++ [D.tup [t0.d,t1.d]]++ [D.tup [t2.d,t3.d]])))[J1.length]?=some (.list ([]++ [D.tup [t0.d,t1.d]]++ [D.tup [t2.d,t3.d]])):=List.getElem?_set_self (ae a3b);room;refine qf (l:=[D.tup [t0.d,t1.d],.tup [t2.d,t3.d]]) (qg a3c (lb rfl)) ?_;room;cases pair<;>(
   room;rw[hm];refine H _ _ s _ (by exact Nat.le_of_succ_le_succ (Nat.le_of_succ_le hn)) g3c λx J4 x1 x2 g4 f4=> ?_;room;exact q [(t0,t1),(t2,t3)] x J4 (by simp) (by simp[p01,p02,p11,p12,p21,p22,p31,p32]) x1 x2 g4 ((f3c).trans f4))
end
section
variable{J:ac}{s n:Nat}{Q:KD}{m:Nat}
theorem atb{i:Nat}{v:D}(h:[k "+",k "-",k "*",k "/",k "%"][i]?=some v):∃o:Bop,v=o.d:=by
 rcases i with _ | _ | _ | _ | _ | i<;>simp at h<;>subst h
 ·exact⟨.add,rfl⟩
 ·exact⟨.sub,rfl⟩
 ·exact⟨.mul,rfl⟩
 ·exact⟨.div,rfl⟩
 ·exact⟨.mod,rfl⟩
theorem atc{i:Nat}{v:D}(h:[k "<",k "==",k ">="][i]?=some v):∃o:Cop,v=o.d:=by
 rcases i with _ | _ | _ | i<;>simp at h<;>subst h
 ·exact⟨.lt,rfl⟩
 ·exact⟨.eq,rfl⟩
 ·exact⟨.ge,rfl⟩
theorem atd{i:Nat}{v:D}(h:[k "&&",k "||"][i]?=some v):∃a:Bool,v=alp a:=by
 rcases i with _ | _ | i<;>simp at h<;>subst h
 ·exact⟨true,rfl⟩
 ·exact⟨false,rfl⟩
theorem ofB{n:Nat}{P:Int->Prop}(h:∀d,d<n->P (d:Int)){d:Int}(h0:0<=d)(h1:d<(n:Int)):P d:=by
 obtain⟨m,rfl⟩:=Int.eq_ofNat_of_zero_le h0;exact h m (Int.ofNat_lt.mp h1)
theorem b13:∀d:Nat,d<13->((d:Int)=0\/(d:Int)=1\/(d:Int)=2\/(3<=(d:Int)/\(d:Int)<6)\/(d:Int)=6\/(d:Int)=7\/(d:Int)=8\/(d:Int)=9\/(d:Int)=10\/(d:Int)=11\/(d:Int)=12):=by decide+kernel
theorem b8:∀d:Nat,d<8->((d:Int)=0\/(d:Int)=1\/(2<=(d:Int)/\(d:Int)<5)\/(d:Int)=5\/(6<=(d:Int)/\(d:Int)<8)):=by decide+kernel
theorem anw(m:Nat):((m+1:Nat):Int) - 1=(m:Int):=Int.add_sub_cancel (m:Int) 1
theorem apu(HN:GN m)(HT:GT m):GN (m+1):=by
 intro n J s Q hn g q;obtain⟨n,rfl⟩:=nge (k:=4) ((ar2 0x1154105611140043002) hn);have hm:=anw m;refine wC (fnA 84) ["source","deep"] ?_;room;refine jf g (by decide) λd J1 h0 h1 g1 f1=> ?_;have hd:d=0\/d=1\/d=2\/(3<=d/\d<6)\/d=6\/d=7\/d=8\/d=9\/d=10\/d=11\/d=12:=ofB (P:=λd=>d=0\/d=1\/d=2\/(3<=d/\d<6)\/d=6\/d=7\/d=8\/d=9\/d=10\/d=11\/d=12) b13 h0 h1;rcases hd with rfl | rfl | rfl | hd | rfl | rfl | rfl | rfl | rfl | rfl | rfl
 ·room;have g2:=g1.qR [Cell.list [.int 0,.int 1,.int 2,.int 5,.int 100,.int (-128)]];refine ab9 (l:=[.int 0,.int 1,.int 2,.int 5,.int 100,.int (-128)]) g2 (by simp) (yN g1.lt) (by decide) λi v J3 hi g3 f3=> ?_;obtain⟨j,rfl,hj⟩:=menu hi;room;refine aet ?_;room;exact q (.k j) J3 (Nat.zero_le _) hj g3 ((f1.trans (FrS.qR ..)).trans f3)
 ·room;exact q .v0 J1 (Nat.zero_le _) trivial g1 f1
 ·room;exact q .v1 J1 (Nat.zero_le _) trivial g1 f1
 ·room;have g2:=g1.qR [Cell.list [k "+",k "-",k "*",k "/",k "%"]];refine ab9 (l:=[k "+",k "-",k "*",k "/",k "%"]) g2 (by simp[k]) (yN g1.lt) (by decide) λi v J3 hi g3 f3=> ?_;obtain⟨o,rfl⟩:=atb hi;room;rw[hm];refine HN _ _ s _ ((ar2 zAE) hn) g3 λa J4 a1 a2 g4 f4=> ?_;room;rw[hm];refine HN _ _ s _ ((ar2 zAE) hn) g4 λb J5 b1 b2 g5 f5=> ?_;room;exact q (.bin o a b) J5 ((mC (λq1=>((ar3 zAG) a1 q1)) (λq2=>((ar3 zAG) b1 q2)))) ⟨a2,b2⟩ g5 ((((f1.trans (FrS.qR ..)).trans f3).trans f4).trans f5)
 ·room;rw[hm];refine HN _ _ s _ ((ar2 zAE) hn) g1 λa J4 a1 a2 g4 f4=> ?_;room;exact q (.neg a) J4 ((ar2 zAX) a1) a2 g4 (f1.trans f4)
 ·room;rw[hm];refine HN _ _ s _ ((ar2 zAE) hn) g1 λa J4 a1 a2 g4 f4=> ?_;room;exact q (.ix a) J4 ((ar2 zAX) a1) a2 g4 (f1.trans f4)
 ·room;rw[hm];refine HN _ _ s _ ((ar2 zAE) hn) g1 λa J4 a1 a2 g4 f4=> ?_;room;rw[hm];refine HT _ _ s _ ((ar2 zAE) hn) g4 λt J5 b1 b2 g5 f5=> ?_;room;exact q (.fld a t) J5 ((mC (λq1=>((ar3 zAG) a1 q1)) (λq2=>((ar3 zAG) b1 q2)))) ⟨a2,b2⟩ g5 ((f1.trans f4).trans f5)
 ·room;room;refine jf (g1.qR _) (by decide) λe J2 e0 e1 g2 f2=> ?_;have b2:J2[J1.length]?=some (.list [.int 0,.int 2]):=f2.at (l:=J1.length) (by simp) (yN g1.lt);have f2':=(f1.trans (FrS.qR ..)).trans f2;room;have g3:=(g2.qR [Cell.list ([D.int 0,.int 2].take (1+e).toNat)]).qR [Cell.list []];have f3:=(f2'.trans (FrS.qR ..)).trans (FrS.qR (J2++ [Cell.list ([D.int 0,.int 2].take (1+e).toNat)]) s [Cell.list []]);have hs2:J2.length≠s:=yN g2.lt;have hs3:J2.length+1≠s:=by have z1:=g2.lt;exact(ar2 zAM) z1
  have hln:(J2++ [Cell.list ([D.int 0,.int 2].take (1+e).toNat)]).length=J2.length+1:=by simp
  have a3:(J2++ [Cell.list ([D.int 0,.int 2].take (1+e).toNat)]++ [Cell.list []])[J2.length+1]?=some (.list []):=by rw[List.getElem?_append_right (by simp)];simp
  have c3:(J2++ [Cell.list ([D.int 0,.int 2].take (1+e).toNat)]++ [Cell.list []])[J2.length]?=some (.list ([D.int 0,.int 2].take (1+e).toNat)):=ag (by simp);refine slL (r:=[D.int 0,.int 2].take (1+e).toNat) b2 (lb rfl) (if_pos (Int.add_nonneg (by decide) e0)) ?_;refine sdC (l:=[D.int 0,.int 2].take (1+e).toNat) (by simp) ?_;have he:=lt2 e0 e1;rw[hln];rcases he with rfl | rfl
  ·refine wT1 (saL c3 rfl) ?_;room;rw[hm];refine HN _ _ s _ ((ar2 zAE) hn) g3 λa J4 a1 a2 g4 f4=> ?_;have a4:=f4.at a3 hs3;have c4:=f4.at c3 hs2;room;refine ck a4 (lb rfl) ?_;have g5:Gs (J4.set (J2.length+1) (.list ([]++ [D.tup [.int 0,a.d]]))) s:=by obtain⟨x,y,h,r⟩:=g4;exact⟨x,y,by rw[yB hs3];exact h,r⟩
   have f5:FrS J s (J4.set (J2.length+1) (.list ([]++ [D.tup [.int 0,a.d]]))):=⟨by simpa using(f3.trans f4).1,λl h1 h2=>by rw[yB (by have z2:=f2'.1;exact(ar3 zCE) h1 z2)];exact(f3.trans f4).2 l h1 h2⟩
   have a5:(J4.set (J2.length+1) (.list ([]++ [D.tup [.int 0,a.d]])))[J2.length+1]?=some (.list ([]++ [D.tup [.int 0,a.d]])):=List.getElem?_set_self (ae a4);have c5:(J4.set (J2.length+1) (.list ([]++ [D.tup [.int 0,a.d]])))[J2.length]?=some (.list ([D.int 0,.int 2].take (1+(0:Int)).toNat)):=by rw[yB (by exact(ar1 zA0))];exact c4
   refine wT0 (saL c5 rfl) ?_;room;refine qf (l:=[D.tup [.int 0,a.d]]) (qg a5 (lb rfl)) ?_;room;rw[hm];refine HN _ _ s _ ((ar2 zAE) hn) g5 λb J6 b1 b2 g6 f6=> ?_;room;exact q (.sl1 a b) J6 ((mC (λq1=>((ar3 zAG) a1 q1)) (λq2=>((ar3 zAG) b1 q2)))) ⟨a2,b2⟩ g6 (f5.trans f6)
  ·refine wT1 (saL c3 rfl) ?_;room;rw[hm];refine HN _ _ s _ ((ar2 zAE) hn) g3 λa J4 a1 a2 g4 f4=> ?_;have a4:=f4.at a3 hs3;have c4:=f4.at c3 hs2;room;refine ck a4 (lb rfl) ?_;have g5:Gs (J4.set (J2.length+1) (.list ([]++ [D.tup [.int 0,a.d]]))) s:=by obtain⟨x,y,h,r⟩:=g4;exact⟨x,y,by rw[yB hs3];exact h,r⟩
   have f5:FrS J s (J4.set (J2.length+1) (.list ([]++ [D.tup [.int 0,a.d]]))):=⟨by simpa using(f3.trans f4).1,λl h1 h2=>by rw[yB (by have z3:=f2'.1;exact(ar3 zCE) h1 z3)];exact(f3.trans f4).2 l h1 h2⟩
   have a5:(J4.set (J2.length+1) (.list ([]++ [D.tup [.int 0,a.d]])))[J2.length+1]?=some (.list ([]++ [D.tup [.int 0,a.d]])):=List.getElem?_set_self (ae a4);have c5:(J4.set (J2.length+1) (.list ([]++ [D.tup [.int 0,a.d]])))[J2.length]?=some (.list ([D.int 0,.int 2].take (1+(1:Int)).toNat)):=by rw[yB (by exact(ar1 zA0))];exact c4
   refine wT1 (saL c5 rfl) ?_;room;rw[hm];refine HN _ _ s _ ((ar2 zAE) hn) g5 λb J6 b1 b2 g6 f6=> ?_;have a6:=f6.at a5 hs3;have c6:=f6.at c5 hs2;room;refine ck a6 (lb rfl) ?_;have g7:Gs (J6.set (J2.length+1) (.list ([]++ [D.tup [.int 0,a.d]]++ [D.tup [.int 2,b.d]]))) s:=by obtain⟨x,y,h,r⟩:=g6;exact⟨x,y,by rw[yB hs3];exact h,r⟩
   have f7:FrS J s (J6.set (J2.length+1) (.list ([]++ [D.tup [.int 0,a.d]]++ [D.tup [.int 2,b.d]]))):=⟨by simpa using(f5.trans f6).1,λl h1 h2=>by rw[yB (by have z4:=f2'.1;exact(ar3 zCE) h1 z4)];exact(f5.trans f6).2 l h1 h2⟩
   have a7:(J6.set (J2.length+1) (.list ([]++ [D.tup [.int 0,a.d]]++ [D.tup [.int 2,b.d]])))[J2.length+1]?=some (.list ([]++ [D.tup [.int 0,a.d]]++ [D.tup [.int 2,b.d]])):=List.getElem?_set_self (ae a6);have c7:(J6.set (J2.length+1) (.list ([]++ [D.tup [.int 0,a.d]]++ [D.tup [.int 2,b.d]])))[J2.length]?=some (.list ([D.int 0,.int 2].take (1+(1:Int)).toNat)):=by rw[yB (by exact(ar1 zA0))];exact c6
   refine wT0 (saL c7 rfl) ?_;room;refine qf (l:=[D.tup [.int 0,a.d],D.tup [.int 2,b.d]]) (qg a7 (lb rfl)) ?_;room;rw[hm];refine HN _ _ s _ ((ar2 zAE) hn) g7 λc J8 c1 c2 g8 f8=> ?_;room;exact q (.sl2 a b c) J8 ((mC (λq1=>(mC (λq2=>((ar4 zBV) a1 q1 q2)) (λq3=>((ar4 zBV) b1 q1 q3)))) (λq4=>((ar3 zAG) c1 q4)))) ⟨a2,b2,c2⟩ g8 (f7.trans f8)
 ·room;rw[hm];refine HN _ _ s _ ((ar2 zAE) hn) g1 λa J4 a1 a2 g4 f4=> ?_;room;exact q (.der a) J4 ((ar2 zAX) a1) a2 g4 (f1.trans f4)
 ·room;refine ai6 HN ((ar2 0x113150814043004150611140043002) hn) g1 λrows x J4 hl hr x1 x2 g4 f4=> ?_;room;rcases rows with _ | ⟨⟨a,b⟩,_ | ⟨⟨c,d⟩,_ | ⟨_,_⟩⟩⟩
  ·exact q (.lk0 x) J4 ((ar2 zAX) x1) x2 g4 (f1.trans f4)
  ·have h:=hr (a,b) (by simp);dsimp only at h;exact q (.lk1 a b x) J4 (by have z5:=h.1.1;have z6:=h.2.1;exact(mC (λq1=>(mC (λq2=>((ar4 zBV) z5 q1 q2)) (λq3=>((ar4 zBV) z6 q1 q3)))) (λq4=>((ar3 zAG) x1 q4)))) ⟨h.1.2,h.2.2,x2⟩ g4 (f1.trans f4)
  ·have h:=hr (a,b) (by simp);dsimp only at h;have h2:=hr (c,d) (by simp);dsimp only at h2;exact q (.lk2 a b c d x) J4 (by have z7:=h.1.1;have z8:=h.2.1;have z9:=h2.1.1;have z10:=h2.2.1;exact(mC (λq1=>(mC (λq2=>(mC (λq3=>((ar5 zBW) z7 q1 q2 q3)) (λq4=>((ar5 zBW) z8 q1 q2 q4)))) (λq5=>(mC (λq6=>((ar5 zBW) z9 q1 q5 q6)) (λq7=>((ar5 zBW) z10 q1 q5 q7)))))) (λq8=>((ar3 zAG) x1 q8)))) ⟨h.1.2,h.2.2,h2.1.2,h2.2.2,x2⟩ g4 (f1.trans f4)
  ·simp at hl
 ·room;refine jf g1 (by decide) λe J2 h0 h1 g2 f2=> ?_;room;refine fo (λY=> ?_) (λY=> ?_)
  ·room;rw[hm];refine HN _ _ s _ ((ar2 zAE) hn) g2 λa J4 a1 a2 g4 f4=> ?_;room;exact q (.asN a) J4 ((ar2 zAX) a1) a2 g4 ((f1.trans f2).trans f4)
  ·room;rw[hm];refine HT _ _ s _ ((ar2 zAE) hn) g2 λa J4 a1 a2 g4 f4=> ?_;room;exact q (.asT a) J4 ((ar2 zAX) a1) a2 g4 ((f1.trans f2).trans f4)
theorem apv(HN:GN m)(HT:GT m):GT (m+1):=by
 intro n J s Q hn g q;obtain⟨n,rfl⟩:=nge (k:=4) ((ar2 0x1154105611140043002) hn);have hm:=anw m;refine wC (fnA 86) ["source","deep"] ?_;room;refine jf g (by decide) λd J1 h0 h1 g1 f1=> ?_;have hd:d=0\/d=1\/(2<=d/\d<5)\/d=5\/(6<=d/\d<8):=ofB (P:=λd=>d=0\/d=1\/(2<=d/\d<5)\/d=5\/(6<=d/\d<8)) b8 h0 h1;rcases hd with rfl | rfl | hd | rfl | hd
 ·room;refine jf g1 (by decide) λe J2 h0 h1 g2 f2=> ?_;room;exact q (.k (e==0)) J2 (Nat.zero_le _) trivial g2 (f1.trans f2)
 ·room;exact q .v J1 (Nat.zero_le _) trivial g1 f1
 ·room;have g2:=g1.qR [Cell.list [k "&&",k "||"]];refine ab9 (l:=[k "&&",k "||"]) g2 (by simp[k]) (yN g1.lt) (by decide) λi v J3 hi g3 f3=> ?_;obtain⟨o,rfl⟩:=atd hi;room;rw[hm];refine HT _ _ s _ ((ar2 zAE) hn) g3 λa J4 a1 a2 g4 f4=> ?_;room;rw[hm];refine HT _ _ s _ ((ar2 zAE) hn) g4 λb J5 b1 b2 g5 f5=> ?_;room;exact q (.lz o a b) J5 ((mC (λq1=>((ar3 zAG) a1 q1)) (λq2=>((ar3 zAG) b1 q2)))) ⟨a2,b2⟩ g5 ((((f1.trans (FrS.qR ..)).trans f3).trans f4).trans f5)
 ·room;rw[hm];refine HT _ _ s _ ((ar2 zAE) hn) g1 λa J4 a1 a2 g4 f4=> ?_;room;exact q (.no a) J4 ((ar2 zAX) a1) a2 g4 (f1.trans f4)
 ·room;have g2:=g1.qR [Cell.list [k "<",k "==",k ">="]];refine ab9 (l:=[k "<",k "==",k ">="]) g2 (by simp[k]) (yN g1.lt) (by decide) λi v J3 hi g3 f3=> ?_;obtain⟨o,rfl⟩:=atc hi;room;rw[hm];refine HN _ _ s _ ((ar2 zAE) hn) g3 λa J4 a1 a2 g4 f4=> ?_;room;rw[hm];refine HN _ _ s _ ((ar2 zAE) hn) g4 λb J5 b1 b2 g5 f5=> ?_;room;exact q (.cmp o a b) J5 ((mC (λq1=>((ar3 zAG) a1 q1)) (λq2=>((ar3 zAG) b1 q2)))) ⟨a2,b2⟩ g5 ((((f1.trans (FrS.qR ..)).trans f3).trans f4).trans f5)
theorem yc:∀m:Nat,GN m/\GT m
 | 0=>⟨aps,apt⟩
 | m+1=>by obtain⟨a,b⟩:=yc m;exact⟨apu a b,apv a b⟩
end
section
inductive Rs(α:Type) | ok (a:α) | er (t:Str)
noncomputable def Rs.bind{α β:Type}:Rs α->(α->Rs β)->Rs β
 | .ok a,f=>f a
 | .er t,Y=> .er t
noncomputable def ate:Str:=so "integer divide by zero"
noncomputable def apw:Str:=so "index out of range"
noncomputable def vy:Str:=so "interface conversion"
noncomputable def wrap(x:Int):Int:=(x+128).fmod 256 - 128
noncomputable def quo(a b:Int):Int:=(a.natAbs:Int).fdiv b.natAbs*(if decide (a<0)==decide (b<0) then 1 else -1)
noncomputable def opW:Bop->Int->Int->Rs Int
 | .add,a,b=> .ok (wrap (a+b))
 | .sub,a,b=> .ok (wrap (a - b))
 | .mul,a,b=> .ok (wrap (a*b))
 | .div,a,b=>if b=0 then .er ate else .ok (if quo a b<128 then quo a b else -128)
 | .mod,a,b=>if b=0 then .er ate else .ok (a - quo a b*b)
noncomputable def ai7:Cop->Int->Int->Bool
 | .lt,a,b=>decide (a<b)
 | .eq,a,b=>a==b
 | .ge,a,b=>decide (a≥b)
noncomputable def gk(l:List Int)(i:Int):Rs Int:=if 0<=i/\i<l.length then .ok (l.getD i.toNat 0) else .er apw
mutual
noncomputable def fi:N->Rs Int
 | .k v=> .ok v
 | .v0=> .ok 3
 | .v1=> .ok (-128)
 | .bin op a b=>(fi a).bind λx=>(fi b).bind λy=>opW op x y
 | .neg a=>(fi a).bind λx=> .ok ((128 - x).fmod 256 - 128)
 | .ix a=>(fi a).bind λx=>gk [7,100] x
 | .fld a t=>(fi a).bind λx=>(zv t).bind λY=> .ok x
 | .sl1 a i=>(fi a).bind λx=>(fi i).bind λj=>gk [x,0,0] j
 | .sl2 a b i=>(fi a).bind λx=>(fi b).bind λy=>(fi i).bind λj=>gk [x,0,y] j
 | .der a=>fi a
 | .lk0 x=>(fi x).bind λY=> .ok 0
 | .lk1 a b x=>(fi a).bind λp=>(fi b).bind λq=>(fi x).bind λj=> .ok (if p=j then q else 0)
 | .lk2 a b c d x=>(fi a).bind λp=>(fi b).bind λq=>(fi c).bind λr=>(fi d).bind λs=>(fi x).bind λj=> .ok (if r=j then s else if p=j then q else 0)
 | .asN a=>fi a
 | .asT t=>(zv t).bind λY=> .er vy
noncomputable def zv:T->Rs Bool
 | .k b=> .ok b
 | .v=> .ok true
 | .lz a x y=>(zv x).bind λb=>if b=a then zv y else .ok b
 | .no x=>(zv x).bind λb=> .ok (!b)
 | .cmp op a b=>(fi a).bind λx=>(fi b).bind λy=> .ok (ai7 op x y)
end
end
noncomputable def InR(x:Int):Prop:= -128<=x/\x<=127
theorem aeu(x:Int):InR (x.fmod 256 - 128):=by
 have:=ir (a:=x) (t:=256) (by decide);exact⟨(Int.sub_le_sub_right this.1 128:(0:Int) - 128<=_),(Int.sub_le_sub_right (Int.le_of_lt_add_one (show x.fmod 256<255+1 from this.2)) 128:_<=(255:Int) - 128)⟩
theorem zw(x:Int):InR (wrap x):=aeu _
theorem alv{x:Int}(h:InR x):x.natAbs<=128:=ara h.1 (yW h.2 (by decide))
theorem abs1{x:Int}(h:x.natAbs<=127):InR x:=⟨yW (by decide) (ags h).1,(ags h).2⟩
theorem abs2{x:Int}(h:x.natAbs<=128): -128<=x/\x<=128:=ags h
theorem apx(a b:Int):quo a b=a.tdiv b:=by
 delta quo
 rw[<-Int.ofNat_fdiv];rcases a with m | m<;>rcases b with n | n
 ·rw[show decide (Int.ofNat m<0)=false from rfl,show decide (Int.ofNat n<0)=false from rfl];exact Int.mul_one _
 ·rw[show decide (Int.ofNat m<0)=false from rfl,decide_eq_true (Int.negSucc_lt_zero n)];exact(Int.mul_neg_one _)
 ·rw[show decide (Int.ofNat n<0)=false from rfl,decide_eq_true (Int.negSucc_lt_zero m)];exact(Int.mul_neg_one _)
 ·rw[decide_eq_true (Int.negSucc_lt_zero n),decide_eq_true (Int.negSucc_lt_zero m)];exact Int.mul_one _
theorem zy{a b:Int}(ha:InR a)(hb:InR b)(h0:b≠0): -128<=quo a b/\quo a b<=128/\InR (a - quo a b*b):=by
 rw[apx,Int.mul_comm,<-Int.tmod_def];have h1:=abs2 (x:=a.tdiv b) (by rw[Int.natAbs_tdiv];exact yK (Nat.div_le_self ..) (alv ha));exact⟨h1.1,h1.2,abs1 (by rw[Int.natAbs_tmod];exact Nat.le_of_lt_succ (yJ (Nat.mod_lt _ (Int.natAbs_pos.mpr h0)) (alv hb)))⟩
noncomputable def Rs.all{α:Type}(P:α->Prop):Rs α->Prop
 | .ok a=>P a
 | .er Y=>True
theorem Rs.bI{α β:Type}{P:α->Prop}{R:β->Prop}{f:α->Rs β}:∀{r:Rs α},r.all P->(∀a,P a->(f a).all R)->(r.bind f).all R
 | .ok Y,h,k=>k _ h
 | .er Y,Z,U=>trivial
theorem Rs.bT{α β:Type}{R:β->Prop}{f:α->Rs β}:∀{r:Rs α},(∀a,(f a).all R)->(r.bind f).all R
 | .ok Y,k=>k _
 | .er Y,Z=>trivial
theorem Rs.al{α:Type}{P:α->Prop}{r:Rs α}{x:α}(h:r.all P)(e:r=.ok x):P x:=by rw[e] at h;exact h
theorem Rs.b1{α β γ:Type}{f:α->Rs β}{g:β->Rs γ}{h:α->Rs γ}:∀{r:Rs α},(∀x,(f x).bind g=h x)->(r.bind f).bind g=r.bind h
 | .ok Y,k=>k _
 | .er Y,Z=>rfl
theorem Rs.bx{α β:Type}{f g:α->Rs β}{r:Rs α}(k:∀x,f x=g x):r.bind f=r.bind g:=congrArg r.bind (funext k)
theorem ai8{c:Prop}[Decidable c]{q:Int}:(if c then some q else none).getD 0=if c then q else 0:=by
 by_cases z:c
 ·rw[if_pos z,if_pos z];rfl
 ·rw[if_neg z,if_neg z];rfl
theorem ai9{c:Prop}[Decidable c]{q:Int}{o:Option Int}:(if c then some q else o).getD 0=if c then q else o.getD 0:=by
 by_cases z:c
 ·rw[if_pos z,if_pos z];rfl
 ·rw[if_neg z,if_neg z]
theorem aja{c d:Prop}[Decidable c][Decidable d]{q s:Int}:(if c then some s else if d then some q else none).getD 0=if c then s else if d then q else 0:=by rw[ai9,ai8]
theorem adt{c:Prop}[Decidable c]{x y:Int}(h:InR x)(g:InR y):InR (if c then x else y):=by
 by_cases z:c
 ·rw[if_pos z];exact h
 ·rw[if_neg z];exact g
theorem aev{c:Prop}[Decidable c]{t:Str}{x:Int}(g:¬c->InR x):(if c then(Rs.er t:Rs Int) else .ok x).all InR:=by
 by_cases z:c
 ·rw[if_pos z];trivial
 ·rw[if_neg z];exact g z
theorem aew{op:Bop}{a b:Int}(ha:InR a)(hb:InR b):(opW op a b).all InR:=by
 cases op
 ·exact zw _
 ·exact zw _
 ·exact zw _
 ·refine aev λh=> ?_;have:=zy ha hb h;by_cases z:quo a b<128
  ·rw[if_pos z];exact⟨this.1,Int.le_of_lt_add_one z⟩
  ·rw[if_neg z];exact⟨by decide,by decide⟩
 ·exact aev λh=>(zy ha hb h).2.2
theorem ajb{op:Bop}{a b x:Int}(ha:InR a)(hb:InR b)(e:opW op a b=.ok x):InR x:=Rs.al (aew ha hb) e
theorem Rs.qJ{α β:Type}{r:Rs α}{f:α->Rs β}{y:β}(e:r.bind f=.ok y):∃a,r=.ok a/\f a=.ok y:=by
 induction r with
 | ok a=>exact⟨a,rfl,e⟩
 | er t=>exact Rs.noConfusion rfl (heq_of_eq e)
theorem j6{l:List Int}{i:Int}(hl:∀n,InR (l.getD n 0)):(gk l i).all InR:=by
 delta gk
 by_cases h:0<=i/\i<l.length
 ·rw[if_pos h];exact hl _
 ·rw[if_neg h];trivial
theorem in0:InR 0:=⟨by decide,by decide⟩
theorem aex{a b c:Int}(ha:InR a)(hb:InR b)(hc:InR c):∀n,InR ([a,b,c].getD n 0)
 | 0=>ha
 | 1=>hb
 | 2=>hc
 | Y+3=>in0
theorem ajc:∀n,InR ([7,100].getD n 0)
 | 0=>⟨by decide,by decide⟩
 | 1=>⟨by decide,by decide⟩
 | Y+2=>in0
theorem dy:∀(e:N),e.ok->(fi e).all InR
 | .k v,h=>h
 | .v0,Y=>⟨by decide,by decide⟩
 | .v1,Y=>⟨by decide,by decide⟩
 | .bin op a b,h=>Rs.bI (dy a h.1) λY ha=>Rs.bI (dy b h.2) λY hb=>aew ha hb
 | .neg a,h=>Rs.bT λY=>aeu _
 | .ix a,h=>Rs.bT λY=>j6 ajc
 | .fld a t,h=>Rs.bI (dy a h.1) λY ha=>Rs.bT λY=>ha
 | .sl1 a i,h=>Rs.bI (dy a h.1) λY ha=>Rs.bT λY=>j6 (aex ha in0 in0)
 | .sl2 a b i,h=>Rs.bI (dy a h.1) λY ha=>Rs.bI (dy b h.2.1) λY hb=>Rs.bT λY=>j6 (aex ha in0 hb)
 | .der a,h=>dy a h
 | .lk0 a,h=>Rs.bT λY=>in0
 | .lk1 a b c,h=>Rs.bT λY=>Rs.bI (dy b h.2.1) λY hb=>Rs.bT λY=>adt hb in0
 | .lk2 a b c d i,h=>Rs.bT λY=>Rs.bI (dy b h.2.1) λY hb=>Rs.bT λY=>Rs.bI (dy d h.2.2.2.1) λY hd=>Rs.bT λY=>adt hd (adt hb in0)
 | .asN a,h=>dy a h
 | .asT t,h=>Rs.bT λY=>trivial
noncomputable def pD:Option Str->D
 | none=> .none
 | some t=> .str t
structure Pn(J:ac)(r:Nat)(es:List (Str×D))(p:Option Str):Prop where
 at_:J[r]?=some (.dictS es)
 pn:atK es (so "panic")=some (pD p)
 len:es.length<=100
noncomputable def Ends{α:Type}(J:ac)(r:Nat)(es:List (Str×D))(d:α->D)(Q:D->ac->Prop):Rs α->Prop
 | .ok x=> ∀J',FrS J r J'->J'[r]?=some (.dictS es)->Q (d x) J'
 | .er t=> ∀J',FrS J r J'->J'[r]?=some (.dictS (putK es (so "panic") (.str t)))->Q (.int 0) J'
theorem Pn.qR{J:ac}{r:Nat}{es:List (Str×D)}{p:Option Str}(P:Pn J r es p)(t:ac):Pn (J++t) r es p:=⟨ag P.at_,P.pn,P.len⟩
section
variable{J:ac}{r n:Nat}{es:List (Str×D)}{Q:KD}{p:Option Str}
theorem jg{t:Str}(P:Pn J r es none)(q:∀J',FrS J r J'->J'[r]?=some (.dictS (putK es (so "panic") (.str t)))->Q (.int 0) J'):Wk (ak T0 (n+1) (.val (.ref 706)) [.loc r,.str t] J) Q:=by
 refine wC (fnA 87) ["run","text"] ?_;lk;refine sDS P.at_ P.pn ?_;lk;refine iDS P.at_ (aj (by have:=P.len;exact(ar1 zAJ) this)) ?_;lk;exact q _ (FrS.set ..) (List.getElem?_set_self (ae P.at_))
theorem ajd:(256:Int)≠0/\small 256=true:=⟨by decide,by simp[small]⟩
theorem vz(P:Pn J r es none){op:Bop}{a b:Int}(ha:InR a)(hb:InR b)(q:Ends J r es .int Q (opW op a b)):Wk (ak T0 (n+2) (.val (.ref 713)) [.loc r,op.d,.int a,.int b] J) Q:=by
 unfold InR at ha hb;have sa:small a=true:=m7 ha.1 (yW ha.2 (by decide));have sb:small b=true:=m7 hb.1 (yW hb.2 (by decide));cases op<;>refine wC (fnA 88) ["run","op","a","b"] ?_
 ·walk;refine vj ajd ?_;walk;exact q _ ((FrS.qR ..).trans (FrS.qR ..)) (ag (ag P.at_))
 ·walk;refine vj ajd ?_;walk;exact q _ ((FrS.qR ..).trans (FrS.qR ..)) (ag (ag P.at_))
 ·walk;refine vh (by rw[sa];rfl) ?_;walk;refine vj ajd ?_;walk;exact q _ ((FrS.qR ..).trans (FrS.qR ..)) (ag (ag P.at_))
 ·walk;by_cases h:b=0
  ·subst h;refine apo rfl ?_;walk;refine jg ((P.qR _).qR _) λJ' f e=> ?_;walk;exact q _ (((FrS.qR ..).trans (FrS.qR ..)).trans f) e
  ·refine apq h ?_;have hbn:(b.natAbs:Int)≠0/\small (b.natAbs:Int)=true:=⟨λe=>h (Int.natAbs_eq_zero.mp (Int.ofNat.inj e)),m7 (yW (by decide) (Int.natCast_nonneg _)) (Int.ofNat_le.mpr (alv hb))⟩
   have hq:=zy (a:=a) (b:=b) ha hb h;have sq:small (quo a b)=true:=m7 hq.1 hq.2.1;simp only[opW,if_neg h,Ends] at q;walk;refine alf ?_;walk;refine alf ?_;refine alj hbn ?_;walk;refine fo (λh1=> ?_) (λh1=> ?_)
   ·have e1:(a.natAbs:Int).fdiv b.natAbs*1=quo a b:=by unfold quo;rw[if_pos h1]
    walk;refine vh (by simp[small]) ?_;rw[e1];walk;by_cases h2:quo a b<128
    ·refine apm h2 ?_;walk;rw[if_pos h2] at q;exact q _ ((FrS.qR ..).trans (FrS.qR ..)) (ag (ag P.at_))
    ·refine apn h2 ?_;walk;rw[if_neg h2] at q;exact q _ ((FrS.qR ..).trans (FrS.qR ..)) (ag (ag P.at_))
   ·have e1:(a.natAbs:Int).fdiv b.natAbs* -1=quo a b:=by unfold quo;rw[if_neg (by rw[h1];decide)]
    walk;refine vh (by simp[small]) ?_;rw[e1];walk;by_cases h2:quo a b<128
    ·refine apm h2 ?_;walk;rw[if_pos h2] at q;exact q _ ((FrS.qR ..).trans (FrS.qR ..)) (ag (ag P.at_))
    ·refine apn h2 ?_;walk;rw[if_neg h2] at q;exact q _ ((FrS.qR ..).trans (FrS.qR ..)) (ag (ag P.at_))
 ·walk;by_cases h:b=0
  ·subst h;refine apo rfl ?_;walk;refine jg ((P.qR _).qR _) λJ' f e=> ?_;walk;exact q _ (((FrS.qR ..).trans (FrS.qR ..)).trans f) e
  ·refine apq h ?_;have hbn:(b.natAbs:Int)≠0/\small (b.natAbs:Int)=true:=⟨λe=>h (Int.natAbs_eq_zero.mp (Int.ofNat.inj e)),m7 (yW (by decide) (Int.natCast_nonneg _)) (Int.ofNat_le.mpr (alv hb))⟩
   have hq:=zy (a:=a) (b:=b) ha hb h;have sq:small (quo a b)=true:=m7 hq.1 hq.2.1;simp only[opW,if_neg h,Ends] at q;walk;refine alf ?_;walk;refine alf ?_;refine alj hbn ?_;walk;refine fo (λh1=> ?_) (λh1=> ?_)
   ·have e1:(a.natAbs:Int).fdiv b.natAbs*1=quo a b:=by unfold quo;rw[if_pos h1]
    walk;refine vh (by simp[small]) ?_;rw[e1];walk;refine vh (by rw[sq];rfl) ?_;walk;exact q _ ((FrS.qR ..).trans (FrS.qR ..)) (ag (ag P.at_))
   ·have e1:(a.natAbs:Int).fdiv b.natAbs* -1=quo a b:=by unfold quo;rw[if_neg (by rw[h1];decide)]
    walk;refine vh (by simp[small]) ?_;rw[e1];walk;refine vh (by rw[sq];rfl) ?_;walk;exact q _ ((FrS.qR ..).trans (FrS.qR ..)) (ag (ag P.at_))
theorem anx{op:Cop}{a b:Int}(q:∀t,Q (.bool (ai7 op a b)) (J++t)):Wk (ak T0 (n+2) (.val (.ref 713)) [.loc r,op.d,.int a,.int b] J) Q:=by
 cases op<;>refine wC (fnA 88) ["run","op","a","b"] ?_
 ·walk;exact q _
 ·walk;exact q _
 ·walk;exact q _
end
section
variable{J:ac}{r n:Nat}{es:List (Str×D)}{Q:KD}{p:Option Str}
theorem aje{l:List Int}{i:Int}(h:0<=i/\i<l.length)(hi:InR i):idx (l.map D.int) i=some (.int (l.getD i.toNat 0)):=by
 obtain⟨j,rfl⟩:=Int.eq_ofNat_of_zero_le h.1;have hj:j<l.length:=Int.ofNat_lt.mp h.2;refine cj ?_ (yK ((Int.ofNat_le (n:=127)).mp hi.2) (by decide));simp[hj]
theorem zz(P:Pn J r es none){l:List Int}(hl:l.length<=100){i:Int}(hi:InR i)(q:Ends J r es .int Q (gk l i)):Wk (ak T0 (n+2) (.val (.ref 720)) [.loc r,.tup (l.map .int),.int i] J) Q:=by
 refine wC (fnA 89) ["run","cells","place"] ?_;room;refine fo (λh=> ?_) (λh=> ?_)
 ·have h:=of_decide_eq_true h;room;refine qd (aeq (aj (by simp;exact(ar1 zAJ) hl))) ?_;lk;refine fo (λh2=> ?_) (λh2=> ?_)
  ·have h2:=of_decide_eq_true h2;simp at h2;room;refine apf (aje ⟨h,h2⟩ hi) ?_;room;unfold gk at q;rw[if_pos ⟨h,h2⟩] at q;exact q _ (FrS.refl ..) P.at_
  ·have h2:=of_decide_eq_false h2;simp at h2;room;unfold gk at q;rw[if_neg (λz=>Int.not_le.mpr z.2 h2)] at q;refine jg P λJ' f e=> ?_;room;exact q _ f e
 ·have h:=of_decide_eq_false h;room;unfold gk at q;rw[if_neg (λz=>h z.1)] at q;refine jg P λJ' f e=> ?_;room;exact q _ f e
theorem aey(P:Pn J r es none){l:List Int}{m:Nat}(hm:J[m]?=some (.list (l.map .int)))(hl:l.length<=100){i:Int}(hi:InR i)(q:Ends J r es .int Q (gk l i)):Wk (ak T0 (n+2) (.val (.ref 720)) [.loc r,.loc m,.int i] J) Q:=by
 refine wC (fnA 89) ["run","cells","place"] ?_;room;refine fo (λh=> ?_) (λh=> ?_)
 ·have h:=of_decide_eq_true h;room;refine qd (len_list hm (aj (by simp;exact(ar1 zAJ) hl))) ?_;lk;refine fo (λh2=> ?_) (λh2=> ?_)
  ·have h2:=of_decide_eq_true h2;simp at h2;room;refine bf hm (aje ⟨h,h2⟩ hi) ?_;room;unfold gk at q;rw[if_pos ⟨h,h2⟩] at q;exact q _ (FrS.refl ..) P.at_
  ·have h2:=of_decide_eq_false h2;simp at h2;room;unfold gk at q;rw[if_neg (λz=>Int.not_le.mpr z.2 h2)] at q;refine jg P λJ' f e=> ?_;room;exact q _ f e
 ·have h:=of_decide_eq_false h;room;unfold gk at q;rw[if_neg (λz=>h z.1)] at q;refine jg P λJ' f e=> ?_;room;exact q _ f e
end
structure Wo(J:ac)(r c:Nat)(p:Option Str):Prop where
 run:J[r]?=some (.dictS [(so "cells",.loc c),(so "panic",pD p)])
 cells:J[c]?=some (.list [.int 3,.int (-128),.bool true,.tup [.int 7,.int 100]])
 ne:c≠r
theorem Wo.pn{J:ac}{r c:Nat}{p:Option Str}(w:Wo J r c p):Pn J r [(so "cells",.loc c),(so "panic",pD p)] p:=⟨w.run,by k_go,by simp⟩
theorem apy(c:Nat)(p:D)(t:D):putK [(so "cells",D.loc c),(so "panic",p)] (so "panic") t=[(so "cells",.loc c),(so "panic",t)]:=by k_go
theorem Wo.qR{J:ac}{r c:Nat}{p:Option Str}(w:Wo J r c p)(t:ac):Wo (J++t) r c p:=⟨ag w.run,ag w.cells,w.ne⟩
theorem Wo.same{J J':ac}{r c:Nat}{p:Option Str}(w:Wo J r c p)(f:FrS J r J')(h:J'[r]?=some (.dictS [(so "cells",.loc c),(so "panic",pD p)])):Wo J' r c p:=⟨h,f.at w.cells w.ne,w.ne⟩
theorem Wo.pan{J J':ac}{r c:Nat}{p:Option Str}{t:Str}(w:Wo J r c p)(f:FrS J r J')(h:J'[r]?=some (.dictS (putK [(so "cells",.loc c),(so "panic",pD p)] (so "panic") (.str t)))):Wo J' r c (some t):=⟨by rw[h,apy];rfl,f.at w.cells w.ne,w.ne⟩
inductive eh{α:Type}(p:Option Str)(s:Rs α)(ok:α->Prop)(p':Option Str):Prop
 | o (z:p=none) (y:α) (e:s=.ok y) (h:ok y) (z':p'=none)
 | r (z:p=none) (t:Str) (e:s=.er t) (z':p'=some t)
 | n (t:Str) (z:p=some t) (z':p'=some t)
structure Wn(e:D)(sem:Rs Int)(dp:Nat):Prop where
 sh:∃w r,e=.tup (.str w::r)
 run:∀(n:Nat) (J:ac) (r c:Nat) (p:Option Str) (Q:D->ac->Prop),2*dp+4<=n->Wo J r c p->(∀x J' p',InR x->Wo J' r c p'->FrS J r J'->eh p sem (x=·) p'->Q (.int x) J')->Wk (ak T0 n (.val (.ref 725)) [.loc r,e] J) Q
noncomputable def tD:Option Bool->D
 | some b=> .bool b
 | none=> .int 0
structure Wt(e:D)(sem:Rs Bool)(dp:Nat):Prop where
 sh:∃w r,e=.tup (.str w::r)
 run:∀(n:Nat) (J:ac) (r c:Nat) (p:Option Str) (Q:D->ac->Prop),2*dp+4<=n->Wo J r c p->(∀x J' p',Wo J' r c p'->FrS J r J'->eh p sem (x=some ·) p'->Q (tD x) J')->Wk (ak T0 n (.val (.ref 725)) [.loc r,e] J) Q
theorem Wn.plain{e:D}{s:Rs Int}{d:Nat}(h:Wn e s d):ao e=true:=by obtain⟨_,_,rfl⟩:=h.sh;rfl
theorem Wt.plain{e:D}{s:Rs Bool}{d:Nat}(h:Wt e s d):ao e=true:=by obtain⟨_,_,rfl⟩:=h.sh;rfl
theorem aca(x:Option Bool):ao (tD x)=true:=by cases x<;>rfl
section
variable{J:ac}{r n c:Nat}{Q:KD}{p:Option Str}
theorem fp{t w:Str}{l:List D}(W:Wo J r c (some t))(q:Q (.int 0) J):Wk (ak T0 (n+1) (.val (.ref 725)) [.loc r,.tup (.str w::l)] J) Q:=by
 refine wC (fnA 90) ["run","e"] ?_;lk;refine sDS W.run rfl ?_;lk;exact q
theorem eh.ok_{α:Type}{s:Rs α}{y:α}{ok:α->Prop}(e:s=.ok y)(h:ok y):eh none s ok none:=.o rfl y e h rfl
theorem eh.er_{α:Type}{s:Rs α}{t:Str}{ok:α->Prop}(e:s=.er t):eh none s ok (some t):=.r rfl t e rfl
theorem eh.qS{α:Type}{s:Rs α}{t:Str}{ok:α->Prop}:eh (some t) s ok (some t):=.n t rfl rfl
theorem w_k{v:Int}(h:InR v):Wn (ndD "const" i8 [.int v]) (.ok v) 0:=by
 refine⟨⟨_,_,rfl⟩,λn J r c p Q hn W q=> ?_⟩;obtain⟨n,rfl⟩:=nge (k:=1) ((ar1 zBG) hn)
 induction p with
 | some t=>exact fp W (q 0 J _ ⟨by decide,by decide⟩ W (FrS.refl ..) .qS)
 | none=>
  refine wC (fnA 90) ["run","e"] ?_;room;refine sDS W.run rfl ?_;room;exact q v J _ h W (FrS.refl ..) (.ok_ rfl rfl)
theorem atf{op:Bop}{ea eb:D}{sa sb:Rs Int}{da db:Nat}(A:Wn ea sa da)(B:Wn eb sb db)(h:∀x y z,sa=.ok x->sb=.ok y->InR x->InR y->opW op x y=.ok z->InR z):Wn (ndD "binary" i8 [op.d,ea,eb]) (sa.bind λx=>sb.bind λy=>opW op x y) (1+max da db):=by
 refine⟨⟨_,_,rfl⟩,λn J r c p Q hn W q=> ?_⟩;obtain⟨n,rfl⟩:=nge (k:=4) ((ar2 zBX) hn);have hpa:=A.plain;have hpb:=B.plain
 induction p with
 | some t=>exact fp W (q 0 J _ ⟨by decide,by decide⟩ W (FrS.refl ..) .qS)
 | none=>
  refine wC (fnA 90) ["run","e"] ?_;room;refine sDS W.run rfl ?_;room;refine A.run _ _ r c _ _ ((ar3 zAN) hn aL) (W.qR _) λx J1 p1 x1 W1 f1 R1=> ?_;room;refine B.run _ _ r c _ _ ((ar3 zAN) hn aR) W1 λy J2 p2 y1 W2 f2 R2=> ?_;room;refine sDS W2.run rfl ?_;rcases R1 with⟨_,x',ex,rfl,rfl⟩ | ⟨_,t,ex,rfl⟩ | ⟨t,z,_⟩
  ·rcases R2 with⟨_,y',ey,rfl,rfl⟩ | ⟨_,t,ey,rfl⟩ | ⟨t,z,_⟩
   ·room;refine vz W2.pn x1 y1 ?_;cases ho:opW op x y with
    | ok z=>
     intro J' f e;room;exact q z J' none (h x y z ex ey x1 y1 ho) (W2.same f e) ((((FrS.qR ..).trans f1).trans f2).trans f) (.ok_ (by rw[ex,ey];exact ho) rfl)
    | er t=>
     intro J' f e;room;exact q 0 J' (some t) ⟨by decide,by decide⟩ (W2.pan f e) ((((FrS.qR ..).trans f1).trans f2).trans f) (.er_ (by rw[ex,ey];exact ho))
   ·room;exact q 0 J2 (some t) ⟨by decide,by decide⟩ W2 (((FrS.qR ..).trans f1).trans f2) (.er_ (by rw[ex,ey];rfl))
   ·cases z
  ·rcases R2 with⟨z,_⟩ | ⟨z,_⟩ | ⟨t',z,rfl⟩
   ·cases z
   ·cases z
   ·cases z;room;exact q 0 J2 (some t) ⟨by decide,by decide⟩ W2 (((FrS.qR ..).trans f1).trans f2) (.er_ (by rw[ex];rfl))
  ·cases z
end
inductive RO{α:Type}(γ:Type)(sa:Rs α)(okA:α->Prop)(p:Option Str):Prop
 | ok (x:α) (e:sa=.ok x) (h:okA x) (z:p=none)
 | er (t:Str) (z:p=some t) (h:∀(f:α->Rs γ),sa.bind f=.er t)
inductive RT2{α β:Type}(γ:Type)(sa:Rs α)(sb:Rs β)(okA:α->Prop)(okB:β->Prop)(p q:Option Str):Prop
 | ok (x:α) (y:β) (e:sa=.ok x) (h:okA x) (e':sb=.ok y) (h':okB y) (z:p=none) (z':q=none)
 | er (t:Str) (z:q=some t) (h:∀(f:α->β->Rs γ),(sa.bind λx=>sb.bind (f x))=.er t)
theorem eh.one{α γ:Type}{sa:Rs α}{okA:α->Prop}{p:Option Str}(R:eh none sa okA p):RO γ sa okA p:=by
 rcases R with⟨_,x,e,h,rfl⟩ | ⟨_,t,e,rfl⟩ | ⟨t,z,_⟩
 ·exact .ok x e h rfl
 ·exact .er t rfl λf=>by rw[e];rfl
 ·cases z
theorem eh.two{α β γ:Type}{sa:Rs α}{sb:Rs β}{okA:α->Prop}{okB:β->Prop}{p q:Option Str}(R:eh none sa okA p)(S:eh p sb okB q):
  RT2 γ sa sb okA okB p q:=by
 rcases R.one (γ:=γ) with⟨x,e,h,rfl⟩ | ⟨t,rfl,h⟩
 ·rcases S.one (γ:=γ) with⟨y,e',h',rfl⟩ | ⟨t,rfl,h'⟩
  ·exact .ok x y e h e' h' rfl rfl
  ·exact .er t rfl λf=>by rw[e];exact h' _
 ·rcases S with⟨z,_⟩ | ⟨z,_⟩ | ⟨t',z,rfl⟩
  ·cases z
  ·cases z
  ·cases z;exact .er t rfl λf=>h _
section
variable{J:ac}{r n c:Nat}{Q:KD}{p:Option Str}{ea eb:D}{sa sb:Rs Int}{ta tb:Rs Bool}{da db:Nat}
theorem w_v0:Wn (ndD "local" i8 [.int 0]) (.ok 3) 0:=by
 refine⟨⟨_,_,rfl⟩,λn J r c p Q hn W q=> ?_⟩;obtain⟨n,rfl⟩:=nge (k:=1) ((ar1 zBG) hn)
 induction p with
 | some t=>exact fp W (q 0 J _ in0 W (FrS.refl ..) .qS)
 | none=>
  refine wC (fnA 90) ["run","e"] ?_;room;refine sDS W.run rfl ?_;room;refine sDS W.run rfl ?_;room;refine bf W.cells rfl ?_;room;exact q 3 J _ ⟨by decide,by decide⟩ W (FrS.refl ..) (.ok_ rfl rfl)
theorem w_v1:Wn (ndD "local" i8 [.int 1]) (.ok (-128)) 0:=by
 refine⟨⟨_,_,rfl⟩,λn J r c p Q hn W q=> ?_⟩;obtain⟨n,rfl⟩:=nge (k:=1) ((ar1 zBG) hn)
 induction p with
 | some t=>exact fp W (q 0 J _ in0 W (FrS.refl ..) .qS)
 | none=>
  refine wC (fnA 90) ["run","e"] ?_;room;refine sDS W.run rfl ?_;room;refine sDS W.run rfl ?_;room;refine bf W.cells rfl ?_;room;exact q (-128) J _ ⟨by decide,by decide⟩ W (FrS.refl ..) (.ok_ rfl rfl)
theorem w_tv:Wt (ndD "local" bo [.int 2]) (.ok true) 0:=by
 refine⟨⟨_,_,rfl⟩,λn J r c p Q hn W q=> ?_⟩;obtain⟨n,rfl⟩:=nge (k:=1) ((ar1 zBG) hn)
 induction p with
 | some t=>exact fp W (q none J _ W (FrS.refl ..) .qS)
 | none=>
  refine wC (fnA 90) ["run","e"] ?_;room;refine sDS W.run rfl ?_;room;refine sDS W.run rfl ?_;room;refine bf W.cells rfl ?_;room;exact q (some true) J _ W (FrS.refl ..) (.ok_ rfl rfl)
theorem w_tk{b:Bool}:Wt (ndD "const" bo [.bool b]) (.ok b) 0:=by
 refine⟨⟨_,_,rfl⟩,λn J r c p Q hn W q=> ?_⟩;obtain⟨n,rfl⟩:=nge (k:=1) ((ar1 zBG) hn)
 induction p with
 | some t=>exact fp W (q none J _ W (FrS.refl ..) .qS)
 | none=>
  refine wC (fnA 90) ["run","e"] ?_;room;refine sDS W.run rfl ?_;room;exact q (some b) J _ W (FrS.refl ..) (.ok_ rfl rfl)
theorem apz(x:Int):InR ((128 - x).fmod 256 - 128):=aeu _
theorem atg(A:Wn ea sa da):Wn (ndD "unary" i8 [k "-",ea]) (sa.bind λx=> .ok ((128 - x).fmod 256 - 128)) (1+da):=by
 refine⟨⟨_,_,rfl⟩,λn J r c p Q hn W q=> ?_⟩;obtain⟨n,rfl⟩:=nge (k:=1) ((ar2 zAK) hn);have hpa:=A.plain
 induction p with
 | some t=>exact fp W (q 0 J _ in0 W (FrS.refl ..) .qS)
 | none=>
  refine wC (fnA 90) ["run","e"] ?_;room;refine sDS W.run rfl ?_;room;refine A.run _ _ r c _ _ ((ar2 zBH) hn) W λx J1 p1 x1 W1 f1 R1=> ?_;room;refine vj ajd ?_;room;refine q _ J1 p1 (apz x) W1 f1 ?_;rcases R1.one (γ:=Int) with⟨y,e,rfl,rfl⟩ | ⟨t,rfl,h⟩
  ·exact .ok_ (by rw[e];rfl) rfl
  ·exact .er_ (h _)
theorem w_not(A:Wt ea ta da):Wt (ndD "unary" bo [k "!",ea]) (ta.bind λx=> .ok (!x)) (1+da):=by
 refine⟨⟨_,_,rfl⟩,λn J r c p Q hn W q=> ?_⟩;obtain⟨n,rfl⟩:=nge (k:=1) ((ar2 zAK) hn);have hpa:=A.plain
 induction p with
 | some t=>exact fp W (q none J _ W (FrS.refl ..) .qS)
 | none=>
  refine wC (fnA 90) ["run","e"] ?_;room;refine sDS W.run rfl ?_;room;refine A.run _ _ r c _ _ ((ar2 zBH) hn) W λx J1 p1 W1 f1 R1=> ?_;room
  induction x with
  | some b=>
   room;refine q (some (!b)) J1 p1 W1 f1 ?_;rcases R1.one (γ:=Bool) with⟨y,e,h,rfl⟩ | ⟨t,rfl,h⟩
   ·cases h;exact .ok_ (by rw[e];rfl) rfl
   ·exact .er_ (h _)
  | none=>
   room;refine q (some true) J1 p1 W1 f1 ?_;rcases R1.one (γ:=Bool) with⟨y,e,h,rfl⟩ | ⟨t,rfl,h⟩
   ·cases h
   ·exact .er_ (h _)
theorem ath{op:Cop}(A:Wn ea sa da)(B:Wn eb sb db):Wt (ndD "binary" bo [op.d,ea,eb]) (sa.bind λx=>sb.bind λy=> .ok (ai7 op x y)) (1+max da db):=by
 refine⟨⟨_,_,rfl⟩,λn J r c p Q hn W q=> ?_⟩;obtain⟨n,rfl⟩:=nge (k:=4) ((ar2 zBX) hn);have hpa:=A.plain;have hpb:=B.plain
 induction p with
 | some t=>exact fp W (q none J _ W (FrS.refl ..) .qS)
 | none=>
  refine wC (fnA 90) ["run","e"] ?_;room;refine sDS W.run rfl ?_;room;refine A.run _ _ r c _ _ ((ar3 zAN) hn aL) (W.qR _) λx J1 p1 x1 W1 f1 R1=> ?_;room;refine B.run _ _ r c _ _ ((ar3 zAN) hn aR) W1 λy J2 p2 y1 W2 f2 R2=> ?_;room;refine sDS W2.run rfl ?_;rcases R1.two R2 (γ:=Bool) with⟨x',y',e1,rfl,e2,rfl,rfl,rfl⟩ | ⟨t,rfl,h⟩
  ·room;refine anx λg=> ?_;room;exact q (some _) _ none (W2.qR _) ((((FrS.qR ..).trans f1).trans f2).trans (FrS.qR ..)) (.ok_ (by rw[e1,e2];rfl) rfl)
  ·room;exact q none J2 (some t) W2 (((FrS.qR ..).trans f1).trans f2) (.er_ (h _))
theorem lzB{x:Option Bool}{f:Bool->Rs Bool}{p1 p2:Option Str}{ok:Bool->Prop}(R1:eh none ta (x=some ·) p1)(h:∀y,x=some y->f y=tb)(R2:eh p1 tb ok p2):eh none (ta.bind f) ok p2:=by
 rcases R1.one (γ:=Bool) with⟨y,e,hx,rfl⟩ | ⟨t,rfl,h'⟩
 ·rw[e];show eh none (f y) ok p2;rw[h y hx];exact R2
 ·rcases R2 with⟨z,_⟩ | ⟨z,_⟩ | ⟨t',z,rfl⟩
  ·cases z
  ·cases z
  ·cases z;exact .er_ (h' _)
theorem lzS{x:Option Bool}{f:Bool->Rs Bool}{p1:Option Str}(R1:eh none ta (x=some ·) p1)(h:∀y,x=some y->f y=.ok y):eh none (ta.bind f) (x=some ·) p1:=by
 rcases R1.one (γ:=Bool) with⟨y,e,hx,rfl⟩ | ⟨t,rfl,h'⟩
 ·exact .ok_ (by rw[e];exact h y hx) hx
 ·exact .er_ (h' _)
theorem w_lz{a:Bool}(A:Wt ea ta da)(B:Wt eb tb db):Wt (ndD "lazy" bo [alp a,ea,eb]) (ta.bind λb=>if b=a then tb else .ok b) (1+max da db):=by
 refine⟨⟨_,_,rfl⟩,λn J r c p Q hn W q=> ?_⟩;obtain⟨n,rfl⟩:=nge (k:=4) ((ar2 zBX) hn);have hpa:=A.plain;have hpb:=B.plain
 induction p with
 | some t=>exact fp W (q none J _ W (FrS.refl ..) .qS)
 | none=>
  cases a<;>refine wC (fnA 90) ["run","e"] ?_
  ·room;refine sDS W.run rfl ?_;room;refine A.run _ _ r c _ _ ((ar3 zAN) hn aL) W λx J1 p1 W1 f1 R1=> ?_;rcases x with _ | (_ | _)
   ·room;refine B.run _ _ r c _ _ ((ar3 zAN) hn aR) W1 λw J2 p2 W2 f2 R2=> ?_;room;exact q w J2 p2 W2 (f1.trans f2) (lzB R1 (λy h=>by cases h) R2)
   ·room;refine B.run _ _ r c _ _ ((ar3 zAN) hn aR) W1 λw J2 p2 W2 f2 R2=> ?_;room;exact q w J2 p2 W2 (f1.trans f2) (lzB R1 (λy h=>by cases h;rfl) R2)
   ·room;exact q (some true) J1 p1 W1 f1 (lzS R1 (λy h=>by cases h;rfl))
  ·room;refine sDS W.run rfl ?_;room;refine A.run _ _ r c _ _ ((ar3 zAN) hn aL) W λx J1 p1 W1 f1 R1=> ?_;rcases x with _ | (_ | _)
   ·room;exact q none J1 p1 W1 f1 (lzS R1 (λy h=>by cases h))
   ·room;exact q (some false) J1 p1 W1 f1 (lzS R1 (λy h=>by cases h;rfl))
   ·room;refine B.run _ _ r c _ _ ((ar3 zAN) hn aR) W1 λw J2 p2 W2 f2 R2=> ?_;room;exact q w J2 p2 W2 (f1.trans f2) (lzB R1 (λy h=>by cases h;rfl) R2)
theorem ati(W:Wo J r c none)(q:Q (.tup [.int 7,.int 100]) J):Wk (ak T0 (n+1) (.val (.ref 725)) [.loc r,ndD "local" je [.int 3]] J) Q:=by
 refine wC (fnA 90) ["run","e"] ?_;room;refine sDS W.run rfl ?_;room;refine sDS W.run rfl ?_;room;refine bf W.cells rfl ?_;room;exact q
theorem w_ix(A:Wn ea sa da):Wn (ndD "index" i8 [ndD "local" je [.int 3],ea]) (sa.bind λx=>gk [7,100] x) (1+da):=by
 refine⟨⟨_,_,rfl⟩,λn J r c p Q hn W q=> ?_⟩;obtain⟨n,rfl⟩:=nge (k:=4) ((ar2 zBX) hn);have hpa:=A.plain
 induction p with
 | some t=>exact fp W (q 0 J _ in0 W (FrS.refl ..) .qS)
 | none=>
  refine wC (fnA 90) ["run","e"] ?_;room;refine sDS W.run rfl ?_;room;refine ati (W.qR _) ?_;room;refine A.run _ _ r c _ _ ((ar2 0x113150414023004150414110023002) hn) (W.qR _) λx J1 p1 x1 W1 f1 R1=> ?_;have f1':=(FrS.qR J r _).trans f1;room;refine sDS W1.run rfl ?_;rcases R1.one (γ:=Int) with⟨y,e,rfl,rfl⟩ | ⟨t,rfl,h⟩
  ·room;refine zz (l:=[7,100]) W1.pn (by decide) x1 ?_;cases ho:gk [7,100] x with
   | ok z=>
    intro J' f e';room;exact q z J' none (Rs.al (j6 ajc) ho) (W1.same f e') (f1'.trans f) (.ok_ (by rw[e];exact ho) rfl)
   | er t=>
    intro J' f e';room;exact q 0 J' (some t) in0 (W1.pan f e') (f1'.trans f) (.er_ (by rw[e];exact ho))
  ·room;exact q 0 J1 (some t) in0 W1 f1' (.er_ (h _))
theorem alw(A:Wn ea sa da):Wn (ndD "fresh" du [ea]) sa (1+da):=by
 refine⟨⟨_,_,rfl⟩,λn J r c p Q hn W q=> ?_⟩;obtain⟨n,rfl⟩:=nge (k:=1) ((ar2 zAK) hn);have hpa:=A.plain
 induction p with
 | some t=>exact fp W (q 0 J _ in0 W (FrS.refl ..) .qS)
 | none=>
  refine wC (fnA 90) ["run","e"] ?_;room;refine sDS W.run rfl ?_;room;refine A.run _ _ r c _ _ ((ar2 zBH) hn) (W.qR _) λx J1 p1 x1 W1 f1 R1=> ?_;room;exact q x J1 p1 x1 W1 ((FrS.qR ..).trans f1) R1
theorem atj(A:Wn ea sa da):Wn (ndD "deref" i8 [ea]) sa (1+da):=by
 refine⟨⟨_,_,rfl⟩,λn J r c p Q hn W q=> ?_⟩;obtain⟨n,rfl⟩:=nge (k:=1) ((ar2 zAK) hn);have hpa:=A.plain
 induction p with
 | some t=>exact fp W (q 0 J _ in0 W (FrS.refl ..) .qS)
 | none=>
  refine wC (fnA 90) ["run","e"] ?_;room;refine sDS W.run rfl ?_;room;refine A.run _ _ r c _ _ ((ar2 zBH) hn) (W.qR _) λx J1 p1 x1 W1 f1 R1=> ?_;room;exact q x J1 p1 x1 W1 ((FrS.qR ..).trans f1) R1
end
theorem Wo.set{J:ac}{r c m:Nat}{p:Option Str}{x:Cell}{L:List D}(W:Wo J r c p)(hm:m≠r)(a:J[m]?=some (.list L))(hl:L.length≠4):Wo (J.set m x) r c p:=
 ⟨(yB hm).trans W.run,(yB λz=>hl (congrArg List.length (Cell.list.inj (yD (a.symm.trans ((congrArg (J[·]?) z).trans W.cells)))))).trans W.cells,W.ne⟩
theorem FrS.qE{J J1:ac}{r m:Nat}(f:FrS J r J1)(hm:J.length<=m)(x:Cell):FrS J r (J1.set m x):=
 ⟨by rw[List.length_set];exact f.1,λl h1 h2=>(yB (yN (yJ h1 hm))).trans (f.2 l h1 h2)⟩
section
variable{J:ac}{r n c:Nat}{Q:KD}{p:Option Str}{ea eb ec ed ei:D}{sa sb sc' sd si:Rs Int}{ta tb:Rs Bool}{da db dc dd di:Nat}
theorem w_fld(A:Wn ea sa da)(B:Wt eb tb db):Wn (ndD "field" i8 [ndD "struct" i7 [.tup [ea,eb]],.int 0]) (sa.bind λx=>tb.bind λY=> .ok x) (2+max da db):=by
 refine⟨⟨_,_,rfl⟩,λn J r c p Q hn W q=> ?_⟩;obtain⟨n,rfl⟩:=nge (k:=4) ((ar2 zBI) hn);have hpa:=A.plain;have hpb:=B.plain
 induction p with
 | some t=>exact fp W (q 0 J _ in0 W (FrS.refl ..) .qS)
 | none=>
  refine wC (fnA 90) ["run","e"] ?_;room;refine sDS W.run rfl ?_;room;have W0:=W.qR [Cell.list [D.str (so "deref"),D.str (so "fresh")]];refine wC (fnA 90) ["run","e"] ?_;room;refine sDS W0.run rfl ?_;room;generalize hm:(J++ [Cell.list [D.str (so "deref"),D.str (so "fresh")]]).length=m;have a0:(J++ [Cell.list [D.str (so "deref"),D.str (so "fresh")]]++ [Cell.list []])[m]?=some (.list []):=by rw[<-hm];exact List.getElem?_concat_length ..
  have hms:J.length<=m:=by rw[<-hm,List.length_append];exact Nat.le_add_right ..
  have hmr:m≠r:=by have:=ae W0.run;exact(ar3 0x1111010136524615424) hm this
  refine A.run _ _ r c _ _ ((ar3 zCY) hn aL) (W0.qR _) λx J1 p1 x1 W1 f1 R1=> ?_;have a1:=f1.at a0 hmr;room;refine ck a1 (lb rfl) ?_;have W2:Wo (J1.set m (.list ([]++ [.int x]))) r c p1:=W1.set hmr a1 (by decide);have a2:(J1.set m (.list ([]++ [D.int x])))[m]?=some (.list ([]++ [D.int x])):=List.getElem?_set_self (ae a1);have f2:FrS J r (J1.set m (.list ([]++ [D.int x]))):=(((FrS.qR ..).trans (FrS.qR ..)).trans f1).qE hms _;room;refine B.run _ _ r c _ _ ((ar3 zCY) hn aR) W2 λy J3 p3 W3 f3 R3=> ?_;have a3:=f3.at a2 hmr;room;refine ck a3 (lb rfl) ?_;have W4:Wo (J3.set m (.list ([]++ [.int x]++ [tD y]))) r c p3:=W3.set hmr a3 (by show 1≠4;decide);have a4:(J3.set m (.list ([]++ [D.int x]++ [tD y])))[m]?=some (.list ([]++ [D.int x]++ [tD y])):=List.getElem?_set_self (ae a3);have f4:FrS J r (J3.set m (.list ([]++ [D.int x]++ [tD y]))):=(f2.trans f3).qE hms _;room;refine qf (l:=[.int x,tD y]) (qg a4 (lb rfl)) ?_;room;refine sDS W4.run rfl ?_;rcases R1.two R3 (γ:=Int) with⟨x',y',e1,rfl,e2,rfl,rfl,rfl⟩ | ⟨t,rfl,h⟩
  ·room;exact q x _ none x1 W4 f4 (.ok_ (by rw[e1,e2];rfl) rfl)
  ·room;exact q 0 _ (some t) in0 W4 f4 (.er_ (h _))
end
section
variable{J J':ac}{r n c m:Nat}{Q:KD}{p:Option Str}{ea eb ec ed ei:D}{sa sb sc' sd si:Rs Int}{ta tb:Rs Bool}{da db dc dd di:Nat}
theorem Wo.qE(w:Wo J r c p)(h1:m≠r)(h2:m≠c)(x:Cell):Wo (J.set m x) r c p:=⟨by rw[yB h1];exact w.run,by rw[yB h2];exact w.cells,w.ne⟩
theorem bj{c c':Cell}(h:J[m]?=some c):(J.set m c')[m]?=some c':=List.getElem?_set_self (ae h)
theorem au(c:Cell):(J++ [c])[J.length]?=some c:=by simp
theorem ap0(A:Wn ea sa da)(hn:2*(1+da)+4<=n)(W:Wo J r c none)(q:∀x J' p' m,InR x->Wo J' r c p'->FrS J r J'->eh none sa (x=·) p'->m≠r->J'[m]?=some (.list ([x,0,0].map .int))->Q (.loc m) J'):Wk (ak T0 n (.val (.ref 725)) [.loc r,ndD "row" bp [.int 3,.tup [.tup [.int 0,ea]]]] J) Q:=by
 obtain⟨n,rfl⟩:=nge (k:=1) ((ar2 zAK) hn);have hpa:=A.plain;refine wC (fnA 90) ["run","e"] ?_;room;refine sDS W.run rfl ?_;room;refine nLI (x:=[.int 0]) (by simp) (by simp) ?_;room;have hm:((J++ [Cell.list [D.int 0]])++ [Cell.list (rep [D.int 0] (Int.toNat 3))])[(J++ [Cell.list [D.int 0]]).length]?=some (.list [.int 0,.int 0,.int 0]):=au _;have hr:(J++ [Cell.list [D.int 0]]).length≠r:=by have:=ae W.run;simp;exact(ar2 zAM) this
 have hc:(J++ [Cell.list [D.int 0]]).length≠c:=by have:=ae W.cells;simp;exact(ar2 zAM) this
 have hs:J.length<=(J++ [Cell.list [D.int 0]]).length:=by simp
 generalize (J++ [Cell.list [D.int 0]]).length=m at hm hr hc hs⊢;room;refine A.run _ _ r c _ _ ((ar2 zBH) hn) ((W.qR _).qR _) λx J1 p1 x1 W1 f1 R1=> ?_;have a1:=f1.at hm hr;room;refine adn a1 ⟨by decide,by simp[small],by simp,aj (by simp)⟩ ?_;refine kbN (wB0 (wT0 rfl ?_));room;exact q x _ p1 m x1 (W1.qE hr hc _) ((((FrS.qR ..).trans (FrS.qR ..)).trans f1).qE hs _) R1 hr (bj a1)
theorem ap1(A:Wn ea sa da)(B:Wn eb sb db)(hn:2*(1+max da db)+4<=n)(W:Wo J r c none)(q:∀x y J' p1 p' m,InR x->InR y->Wo J' r c p'->FrS J r J'->eh none sa (x=·) p1->eh p1 sb (y=·) p'->m≠r->J'[m]?=some (.list ([x,0,y].map .int))->Q (.loc m) J'):Wk (ak T0 n (.val (.ref 725)) [.loc r,ndD "row" bp [.int 3,.tup [.tup [.int 0,ea],.tup [.int 2,eb]]]] J) Q:=by
 obtain⟨n,rfl⟩:=nge (k:=1) ((ar2 zAK) hn);have hpa:=A.plain;have hpb:=B.plain;refine wC (fnA 90) ["run","e"] ?_;room;refine sDS W.run rfl ?_;room;refine nLI (x:=[.int 0]) (by simp) (by simp) ?_;room;have hm:((J++ [Cell.list [D.int 0]])++ [Cell.list (rep [D.int 0] (Int.toNat 3))])[(J++ [Cell.list [D.int 0]]).length]?=some (.list [.int 0,.int 0,.int 0]):=au _;have hr:(J++ [Cell.list [D.int 0]]).length≠r:=by have:=ae W.run;simp;exact(ar2 zAM) this
 have hc:(J++ [Cell.list [D.int 0]]).length≠c:=by have:=ae W.cells;simp;exact(ar2 zAM) this
 have hs:J.length<=(J++ [Cell.list [D.int 0]]).length:=by simp
 generalize (J++ [Cell.list [D.int 0]]).length=m at hm hr hc hs⊢;room;refine A.run _ _ r c _ _ ((ar3 zAS) hn aL) ((W.qR _).qR _) λx J1 p1 x1 W1 f1 R1=> ?_;have a1:=f1.at hm hr;room;refine adn a1 ⟨by decide,by simp[small],by simp,aj (by simp)⟩ ?_;have W2:=W1.qE hr hc (Cell.list (List.set [D.int 0,.int 0,.int 0] (Int.toNat 0) (.int x)));have f2:=(((FrS.qR J r _).trans (FrS.qR ..)).trans f1).qE hs (Cell.list (List.set [D.int 0,.int 0,.int 0] (Int.toNat 0) (.int x)));have a2:=bj (c':=Cell.list (List.set [D.int 0,.int 0,.int 0] (Int.toNat 0) (.int x))) a1;refine kbN (wB0 (wT1 rfl ?_));room;refine B.run _ _ r c _ _ ((ar3 zAS) hn aR) W2 λy J3 p3 y1 W3 f3 R3=> ?_;have a3:=f3.at a2 hr;room;refine adn a3 ⟨by decide,by simp[small],by simp,aj (by simp)⟩ ?_;refine kbN (wB0 (wT0 rfl ?_));room;exact q x y _ p1 p3 m x1 y1 (W3.qE hr hc _) ((f2.trans f3).qE hs _) R1 R3 hr (bj a3)
theorem atk(A:Wn ea sa da)(I:Wn ei si di):Wn (ndD "index" i8 [ndD "row" bp [.int 3,.tup [.tup [.int 0,ea]]],ei]) (sa.bind λx=>si.bind λj=>gk [x,0,0] j) (2+max da di):=by
 refine⟨⟨_,_,rfl⟩,λn J r c p Q hn W q=> ?_⟩;obtain⟨n,rfl⟩:=nge (k:=4) ((ar2 zBI) hn);have hpi:=I.plain
 induction p with
 | some t=>exact fp W (q 0 J _ in0 W (FrS.refl ..) .qS)
 | none=>
  refine wC (fnA 90) ["run","e"] ?_;room;refine sDS W.run rfl ?_;room;refine ap0 A ((ar3 zCZ) hn aL) (W.qR _) λx J1 p1 m x1 W1 f1 R1 hm am=> ?_;room;refine I.run _ _ r c _ _ ((ar3 zC0) hn aR) W1 λj J2 p2 j1 W2 f2 R2=> ?_;have f2':=((FrS.qR J r _).trans f1).trans f2;have am2:=f2.at am hm;room;refine sDS W2.run rfl ?_;rcases R1.two R2 (γ:=Int) with⟨x',y',e1,rfl,e2,rfl,rfl,rfl⟩ | ⟨t,rfl,h⟩
  ·room;refine aey (l:=[x,0,0]) W2.pn am2 (by simp) j1 ?_;cases ho:gk [x,0,0] j with
   | ok z=>
    intro J' f e';room;exact q z J' none (Rs.al (j6 (aex x1 in0 in0)) ho) (W2.same f e') (f2'.trans f) (.ok_ (by rw[e1,e2];exact ho) rfl)
   | er t=>
    intro J' f e';room;exact q 0 J' (some t) in0 (W2.pan f e') (f2'.trans f) (.er_ (by rw[e1,e2];exact ho))
  ·room;exact q 0 J2 (some t) in0 W2 f2' (.er_ (h _))
inductive RT3{α β γ:Type}(δ:Type)(sa:Rs α)(sb:Rs β)(sg:Rs γ)(okA:α->Prop)(okB:β->Prop)(okC:γ->Prop)(p1 p2 p3:Option Str):Prop
 | ok (x:α) (y:β) (z:γ) (e1:sa=.ok x) (h1:okA x) (e2:sb=.ok y) (h2:okB y) (e3:sg=.ok z) (h3:okC z) (z1:p1=none) (z2:p2=none) (z3:p3=none)
 | er (t:Str) (z:p3=some t) (h:∀(f:α->β->γ->Rs δ),(sa.bind λx=>sb.bind λy=>sg.bind (f x y))=.er t)
theorem eh.three{α β γ δ:Type}{sa:Rs α}{sb:Rs β}{sg:Rs γ}{okA:α->Prop}{okB:β->Prop}{okC:γ->Prop}{p1 p2 p3:Option Str}(R:eh none sa okA p1)(S:eh p1 sb okB p2)(T:eh p2 sg okC p3):
  RT3 δ sa sb sg okA okB okC p1 p2 p3:=by
 rcases R.two S (γ:=δ) with⟨x,y,e1,h1,e2,h2,rfl,rfl⟩ | ⟨t,rfl,h⟩
 ·rcases T.one (γ:=δ) with⟨z,e3,h3,rfl⟩ | ⟨t,rfl,h⟩
  ·exact .ok x y z e1 h1 e2 h2 e3 h3 rfl rfl rfl
  ·exact .er t rfl λf=>by rw[e1,e2];exact h _
 ·rcases T with⟨z,_⟩ | ⟨z,_⟩ | ⟨t',z,rfl⟩
  ·cases z
  ·cases z
  ·cases z;exact .er t rfl λf=>h _
theorem atl(A:Wn ea sa da)(B:Wn eb sb db)(I:Wn ei si di):Wn (ndD "index" i8 [ndD "row" bp [.int 3,.tup [.tup [.int 0,ea],.tup [.int 2,eb]]],ei]) (sa.bind λx=>sb.bind λy=>si.bind λj=>gk [x,0,y] j) (2+max (max da db) di):=by
 refine⟨⟨_,_,rfl⟩,λn J r c p Q hn W q=> ?_⟩;obtain⟨n,rfl⟩:=nge (k:=4) ((ar2 zBI) hn);have hpi:=I.plain
 induction p with
 | some t=>exact fp W (q 0 J _ in0 W (FrS.refl ..) .qS)
 | none=>
  refine wC (fnA 90) ["run","e"] ?_;room;refine sDS W.run rfl ?_;room;refine ap1 A B ((ar3 zCZ) hn aL) (W.qR _) λx y J1 p0 p1 m x1 y1 W1 f1 R0 R1 hm am=> ?_;room;refine I.run _ _ r c _ _ ((ar3 zC0) hn aR) W1 λj J2 p2 j1 W2 f2 R2=> ?_;have f2':=((FrS.qR J r _).trans f1).trans f2;have am2:=f2.at am hm;room;refine sDS W2.run rfl ?_;rcases R0.three R1 R2 (δ:=Int) with⟨x',y',z',e1,rfl,e2,rfl,e3,rfl,rfl,rfl,rfl⟩ | ⟨t,rfl,h⟩
  ·room;refine aey (l:=[x,0,y]) W2.pn am2 (by simp) j1 ?_;cases ho:gk [x,0,y] j with
   | ok z=>
    intro J' f e';room;exact q z J' none (Rs.al (j6 (aex x1 in0 y1)) ho) (W2.same f e') (f2'.trans f) (.ok_ (by rw[e1,e2,e3];exact ho) rfl)
   | er t=>
    intro J' f e';room;exact q 0 J' (some t) in0 (W2.pan f e') (f2'.trans f) (.er_ (by rw[e1,e2,e3];exact ho))
  ·room;exact q 0 J2 (some t) in0 W2 f2' (.er_ (h _))
end
section
variable{J J':ac}{r n c m:Nat}{Q:KD}{p:Option Str}{ea eb ec ed ei et:D}{sa sb sc' sd si:Rs Int}{ta tb:Rs Bool}{da db dc dd di dt:Nat}{st:Rs (List (Int×Int))}
noncomputable def iD(l:List (Int×Int)):List (Int×D):=l.map λe=>(e.1,.int e.2)
structure Wd(e:D)(sem:Rs (List (Int×Int)))(dp:Nat):Prop where
 sh:∃w r,e=.tup (.str w::r)
 run:∀(n:Nat) (J:ac) (r c:Nat) (Q:D->ac->Prop),2*dp+4<=n->Wo J r c none->(∀l J' p' m,l.length<=2->(∀e∈l,InR e.2)->Wo J' r c p'->FrS J r J'->eh none sem (l=·) p'->m≠r->J'[m]?=some (.dictI (iD l))->Q (.loc m) J')->Wk (ak T0 n (.val (.ref 725)) [.loc r,e] J) Q
noncomputable def t2(a b c d:Int):List (Int×Int):=if a=c then [(a,d)] else [(a,b),(c,d)]
noncomputable def lkI(l:List (Int×Int))(j:Int):Option Int:=(l.find? λe=>e.1=j).map (·.2)
theorem adu(l:List (Int×Int))(j:Int):atK (iD l) j=(lkI l j).map .int:=by
 unfold atK iD lkI
 induction l with
 | nil=>rfl
 | cons e l ih=>
  rw[List.map_cons,List.find?_cons,List.find?_cons];by_cases h:e.1=j
  ·simp[h]
  ·simp only[h,decide_false];exact ih
theorem ap2{l:List (Int×Int)}(h:∀e∈l,InR e.2)(j:Int):InR ((lkI l j).getD 0):=by
 unfold lkI;cases hf:l.find? λe=>e.1=j with
 | none=>exact in0
 | some e=>exact h e (List.mem_of_find?_eq_some hf)
theorem ajf:Wd (ndD "table" gj [.tup []]) (.ok []) 1:=by
 refine⟨⟨_,_,rfl⟩,λn J r c Q hn W q=> ?_⟩;obtain⟨n,rfl⟩:=nge (k:=1) ((ar1 0x11411044111023002) hn);refine wC (fnA 90) ["run","e"] ?_;room;refine sDS W.run rfl ?_;room;refine ape (l:=[]) (apg (au _) (by decide)) ?_;room;exact q [] _ none _ (by simp) (by simp) ((W.qR _).qR _) ((FrS.qR ..).trans (FrS.qR ..)) (.ok_ rfl rfl) (by have:=ae W.run;simp;exact(ar2 zAM) this) (au _)
theorem ajg(A:Wn ea sa da)(B:Wn eb sb db):Wd (ndD "table" gj [.tup [.tup [ea,eb]]]) (sa.bind λa=>sb.bind λb=> .ok [(a,b)]) (1+max da db):=by
 refine⟨⟨_,_,rfl⟩,λn J r c Q hn W q=> ?_⟩;obtain⟨n,rfl⟩:=nge (k:=1) ((ar2 zAK) hn);have hpa:=A.plain;have hpb:=B.plain;refine wC (fnA 90) ["run","e"] ?_;room;refine sDS W.run rfl ?_;room;have hm:(J++ [Cell.list []])[J.length]?=some (.list []):=au _;have hr:J.length≠r:=by have:=ae W.run;exact(ar2 zAT) this
 have hc:J.length≠c:=by have:=ae W.cells;exact(ar2 zAT) this
 room;refine A.run _ _ r c _ _ ((ar3 zAS) hn aL) (W.qR _) λx J1 p1 x1 W1 f1 R1=> ?_;room;refine B.run _ _ r c _ _ ((ar3 zAS) hn aR) W1 λy J2 p2 y1 W2 f2 R2=> ?_;have a2:=f2.at (f1.at hm hr) hr;room;refine ck a2 (lb rfl) ?_;have W3:=W2.qE hr hc (Cell.list ([]++ [D.tup [.int x,.int y]]));have f3:=(((FrS.qR J r [Cell.list []]).trans f1).trans f2).qE (yE _) (Cell.list ([]++ [D.tup [.int x,.int y]]));have a3:=bj (c':=Cell.list ([]++ [D.tup [.int x,.int y]])) a2;room;refine ape (l:=iD [(x,y)]) (apg a3 (show 1<=8 by decide)) ?_;room;refine q [(x,y)] _ p2 _ (by simp) (by simp;exact y1) (W3.qR _) (f3.trans (FrS.qR ..)) ?_ (by have:=ae W3.run;exact(ar2 zAT) this) (au _);rcases R1.two R2 (γ:=List (Int×Int)) with⟨x',y',e1,rfl,e2,rfl,rfl,rfl⟩ | ⟨t,rfl,h⟩
 ·exact .ok_ (by rw[e1,e2];rfl) rfl
 ·exact .er_ (h _)
inductive RT4{α β γ δ:Type}(ε:Type)(sa:Rs α)(sb:Rs β)(sg:Rs γ)(sh:Rs δ)(okA:α->Prop)(okB:β->Prop)(okC:γ->Prop)(okD:δ->Prop)(p4:Option Str):Prop
 | ok (x:α) (y:β) (z:γ) (w:δ) (e1:sa=.ok x) (h1:okA x) (e2:sb=.ok y) (h2:okB y) (e3:sg=.ok z) (h3:okC z) (e4:sh=.ok w) (h4:okD w) (z4:p4=none)
 | er (t:Str) (z:p4=some t) (h:∀(f:α->β->γ->δ->Rs ε),(sa.bind λx=>sb.bind λy=>sg.bind λz=>sh.bind (f x y z))=.er t)
theorem eh.four{α β γ δ ε:Type}{sa:Rs α}{sb:Rs β}{sg:Rs γ}{sh:Rs δ}{okA:α->Prop}{okB:β->Prop}{okC:γ->Prop}{okD:δ->Prop}{p1 p2 p3 p4:Option Str}(R:eh none sa okA p1)(S:eh p1 sb okB p2)(T:eh p2 sg okC p3)(U:eh p3 sh okD p4):
  RT4 ε sa sb sg sh okA okB okC okD p4:=by
 rcases R.three S T (δ:=ε) with⟨x,y,z,e1,h1,e2,h2,e3,h3,rfl,rfl,rfl⟩ | ⟨t,rfl,h⟩
 ·rcases U.one (γ:=ε) with⟨w,e4,h4,rfl⟩ | ⟨t,rfl,h⟩
  ·exact .ok x y z w e1 h1 e2 h2 e3 h3 e4 h4 rfl
  ·exact .er t rfl λf=>by rw[e1,e2,e3];exact h _
 ·rcases U with⟨z,_⟩ | ⟨z,_⟩ | ⟨t',z,rfl⟩
  ·cases z
  ·cases z
  ·cases z;exact .er t rfl λf=>h _
theorem ajh(A:Wn ea sa da)(B:Wn eb sb db)(C:Wn ec sc' dc)(E:Wn ed sd dd):Wd (ndD "table" gj [.tup [.tup [ea,eb],.tup [ec,ed]]]) (sa.bind λa=>sb.bind λb=>sc'.bind λc=>sd.bind λd=> .ok (t2 a b c d)) (1+max (max da db) (max dc dd)):=by
 refine⟨⟨_,_,rfl⟩,λn J r c Q hn W q=> ?_⟩;obtain⟨n,rfl⟩:=nge (k:=1) ((ar2 zAK) hn);have hpa:=A.plain;have hpb:=B.plain;have hpc:=C.plain;have hpd:=E.plain;refine wC (fnA 90) ["run","e"] ?_;room;refine sDS W.run rfl ?_;room;have hm:(J++ [Cell.list []])[J.length]?=some (.list []):=au _;have hr:J.length≠r:=by have:=ae W.run;exact(ar2 zAT) this
 have hc:J.length≠c:=by have:=ae W.cells;exact(ar2 zAT) this
 room;refine A.run _ _ r c _ _ ((ar4 zBY) hn aL aL) (W.qR _) λx J1 p1 x1 W1 f1 R1=> ?_;room;refine B.run _ _ r c _ _ ((ar4 zBY) hn aL aR) W1 λy J2 p2 y1 W2 f2 R2=> ?_;have a2:=f2.at (f1.at hm hr) hr;room;refine ck a2 (lb rfl) ?_;have W3:=W2.qE hr hc (Cell.list ([]++ [D.tup [.int x,.int y]]));have f3:=(((FrS.qR J r [Cell.list []]).trans f1).trans f2).qE (yE _) (Cell.list ([]++ [D.tup [.int x,.int y]]));have a3:=bj (c':=Cell.list ([]++ [D.tup [.int x,.int y]])) a2;room;refine C.run _ _ r c _ _ ((ar4 zBY) hn aR aL) W3 λz J4 p4 z1 W4 f4 R4=> ?_;room;refine E.run _ _ r c _ _ ((ar4 zBY) hn aR aR) W4 λw J5 p5 w1 W5 f5 R5=> ?_;have a5:=f5.at (f4.at a3 hr) hr;room;refine ck a5 (lb rfl) ?_;have W6:=W5.qE hr hc (Cell.list ([]++ [D.tup [.int x,.int y]]++ [D.tup [.int z,.int w]]));have f6:=((f3.trans f4).trans f5).qE (yE _) (Cell.list ([]++ [D.tup [.int x,.int y]]++ [D.tup [.int z,.int w]]));have a6:=bj (c':=Cell.list ([]++ [D.tup [.int x,.int y]]++ [D.tup [.int z,.int w]])) a5;room;refine ape (l:=iD (t2 x y z w)) (by
  rw[apg a6 (show 2<=8 by decide)];show some (putK (putK [] x (.int y)) z (.int w))=_;congr 1;unfold t2 iD putK;by_cases h:x=z
  ·subst h;simp
  ·simp[h]) ?_
 room;refine q (t2 x y z w) _ p5 _ (by unfold t2;split<;>simp) (by unfold t2;split<;>simp<;>first | exact w1 | exact⟨y1,w1⟩) (W6.qR _) (f6.trans (FrS.qR ..)) ?_ (by have:=ae W6.run;exact(ar2 zAT) this) (au _);rcases R1.four R2 R4 R5 (ε:=List (Int×Int)) with⟨x',y',z',w',e1,rfl,e2,rfl,e3,rfl,e4,rfl,rfl⟩ | ⟨t,rfl,h⟩
 ·exact .ok_ (by rw[e1,e2,e3,e4];rfl) rfl
 ·exact .er_ (h _)
theorem aji(T:Wd et st dt)(I:Wn ei si di):Wn (ndD "key" i8 [et,ei,.bool false]) (st.bind λl=>si.bind λj=> .ok ((lkI l j).getD 0)) (1+max dt di):=by
 refine⟨⟨_,_,rfl⟩,λn J r c p Q hn W q=> ?_⟩;obtain⟨n,rfl⟩:=nge (k:=1) ((ar2 zAK) hn);have hpt:ao et=true:=by obtain⟨_,_,rfl⟩:=T.sh;rfl
 have hpi:=I.plain
 induction p with
 | some t=>exact fp W (q 0 J _ in0 W (FrS.refl ..) .qS)
 | none=>
  refine wC (fnA 90) ["run","e"] ?_;room;refine sDS W.run rfl ?_;room;refine T.run _ _ r c _ ((ar3 zAS) hn aL) (W.qR _) λl J1 p1 m hl x1 W1 f1 R1 hm am=> ?_;room;refine I.run _ _ r c _ _ ((ar3 zAS) hn aR) W1 λj J2 p2 j1 W2 f2 R2=> ?_;have f2':=((FrS.qR J r _).trans f1).trans f2;have am2:=f2.at am hm;room;refine sDS W2.run rfl ?_;rcases R1.two R2 (γ:=Int) with⟨x',y',e1,rfl,e2,rfl,rfl,rfl⟩ | ⟨t,rfl,h⟩
  ·room;refine mtD am2 ?_;room;refine ali am2 rfl ?_;rw[adu];have:((lkI l j).map D.int).getD (.int 0)=.int ((lkI l j).getD 0):=by cases lkI l j<;>rfl
   rw[this];room;exact q _ J2 none (ap2 x1 j) W2 f2' (.ok_ (by rw[e1,e2];rfl) rfl)
  ·room;exact q 0 J2 (some t) in0 W2 f2' (.er_ (h _))
end
section
variable{J J':ac}{r n c m:Nat}{Q:KD}{p:Option Str}{ei et:D}{sa si:Rs Int}{ta:Rs Bool}{da di dt:Nat}{st:Rs (List (Int×Int))}{w:Str}{l:List D}
theorem atm(A:Wn (.tup (.str w::i8::l)) sa da):Wn (ndD "assert" i8 [ndD "face" bw [.tup (.str w::i8::l)],i8,.bool false]) sa (2+da):=by
 refine⟨⟨_,_,rfl⟩,λn J r c p Q hn W q=> ?_⟩;obtain⟨n,rfl⟩:=nge (k:=4) ((ar2 zBI) hn);have hpa:=A.plain
 induction p with
 | some t=>exact fp W (q 0 J _ in0 W (FrS.refl ..) .qS)
 | none=>
  refine wC (fnA 90) ["run","e"] ?_;room;refine sDS W.run rfl ?_;room;have W0:=W.qR [Cell.list [D.str (so "deref"),D.str (so "fresh")]];refine wC (fnA 90) ["run","e"] ?_;room;refine sDS W0.run rfl ?_;room;refine A.run _ _ r c _ _ ((ar2 0x112150414023004150414210023002) hn) (W0.qR _) λx J1 p1 x1 W1 f1 R1=> ?_;room;refine sDS W1.run rfl ?_;have f:=(((FrS.qR J r _).trans (FrS.qR ..)).trans f1)
  rcases R1.one (γ:=Int) with⟨y,e1,rfl,rfl⟩ | ⟨t,rfl,h⟩
  ·room;exact q x _ none x1 W1 f (.ok_ e1 rfl)
  ·room;have h:=h Rs.ok;refine q 0 _ (some t) in0 W1 f (.er_ ?_)
   induction sa with
   | ok a=>exact Rs.noConfusion rfl (heq_of_eq h)
   | er u=>exact h
theorem atn(A:Wt (.tup (.str w::bo::l)) ta da):Wn (ndD "assert" i8 [ndD "face" bw [.tup (.str w::bo::l)],i8,.bool false]) (ta.bind λY=> .er vy) (2+da):=by
 refine⟨⟨_,_,rfl⟩,λn J r c p Q hn W q=> ?_⟩;obtain⟨n,rfl⟩:=nge (k:=4) ((ar2 zBI) hn);have hpa:=A.plain
 induction p with
 | some t=>exact fp W (q 0 J _ in0 W (FrS.refl ..) .qS)
 | none=>
  refine wC (fnA 90) ["run","e"] ?_;room;refine sDS W.run rfl ?_;room;have W0:=W.qR [Cell.list [D.str (so "deref"),D.str (so "fresh")]];refine wC (fnA 90) ["run","e"] ?_;room;refine sDS W0.run rfl ?_;room;refine A.run _ _ r c _ _ ((ar2 0x112150414023004150414210023002) hn) (W0.qR _) λx J1 p1 W1 f1 R1=> ?_;room;refine sDS W1.run rfl ?_;have f:=(((FrS.qR J r _).trans (FrS.qR ..)).trans f1)
  rcases R1.one (γ:=Int) with⟨y,e1,rfl,rfl⟩ | ⟨t,rfl,h⟩
  ·room;refine jg W1.pn λJ' f2 e=> ?_;room;exact q 0 _ (some _) in0 (W1.pan f2 e) (f.trans f2) (.er_ (by rw[e1];rfl))
  ·room;exact q 0 _ (some t) in0 W1 f (.er_ (h _))
theorem ap3{Q:KD}(T:Wd et st dt)(I:Wn ei si di)(hn:2*(1+max dt di)+4<=n)(W:Wo J r c none)(q:∀l j J' p',Wo J' r c p'->FrS J r J'->eh none (st.bind λl=>si.bind λj=> .ok (l,j)) ((l,j)=·) p'->Q (if p'=none then .tup [.int ((lkI l j).getD 0),.bool (lkI l j).isSome] else .int 0) J')(ty:D):Wk (ak T0 n (.val (.ref 725)) [.loc r,ndD "key" ty [et,ei,.bool true]] J) Q:=by
 obtain⟨n,rfl⟩:=nge (k:=1) ((ar2 zAK) hn);have hpt:ao et=true:=by obtain⟨_,_,rfl⟩:=T.sh;rfl
 have hpi:=I.plain;refine wC (fnA 90) ["run","e"] ?_;room;refine sDS W.run rfl ?_;room;refine T.run _ _ r c _ ((ar3 zAS) hn aL) (W.qR _) λl J1 p1 m hl x1 W1 f1 R1 hm am=> ?_;room;refine I.run _ _ r c _ _ ((ar3 zAS) hn aR) W1 λj J2 p2 j1 W2 f2 R2=> ?_;have f2':=((FrS.qR J r _).trans f1).trans f2;have am2:=f2.at am hm;room;refine sDS W2.run rfl ?_;rcases R1.two R2 (γ:=List (Int×Int)×Int) with⟨x',y',e1,rfl,e2,rfl,rfl,rfl⟩ | ⟨t,rfl,h⟩
 ·room;refine mtD am2 ?_;room;refine ali am2 rfl ?_;rw[adu];have:((lkI l j).map D.int).getD (.int 0)=.int ((lkI l j).getD 0):=by cases lkI l j<;>rfl
  rw[this];room;refine cK (t:=(lkI l j).isSome) ((inK am2).trans (by rw[adu];cases lkI l j<;>rfl)) ?_;room;exact q l j _ none W2 f2' (.ok_ (by rw[e1,e2];rfl) rfl)
 ·room;exact q l j _ (some t) W2 f2' (.er_ (h _))
end
theorem Wn.to{e:D}{s s':Rs Int}{d d':Nat}(h:Wn e s d)(hd:d<=d')(hs:s'=s:=by rfl):Wn e s' d':=by subst hs;exact⟨h.sh,λn J r c p Q hn=>h.run n J r c p Q ((ar3 0x1126414023006415023005403) hd hn)⟩
theorem Wt.to{e:D}{s s':Rs Bool}{d d':Nat}(h:Wt e s d)(hd:d<=d')(hs:s'=s:=by rfl):Wt e s' d':=by subst hs;exact⟨h.sh,λn J r c p Q hn=>h.run n J r c p Q ((ar3 0x1126414023006415023005403) hd hn)⟩
theorem Wn.to2{e:D}{s s':Rs Int}{d d':Nat}(h:Wn e s d)(hd:d<=d')(hs:s=s'):Wn e s' d':=h.to hd hs.symm
theorem N.shp(e:N):∃w l,e.d=.tup (.str w::i8::l):=(ax e).sh
theorem T.shp(e:T):∃w l,e.d=.tup (.str w::bo::l):=(gf e).sh
theorem ap4{e:D}{s:Rs Int}{d:Nat}(h:∃w l,e=.tup (.str w::i8::l))(A:Wn e s d):Wn (ndD "assert" i8 [ndD "face" bw [e],i8,.bool false]) s (2+d):=by obtain⟨w,l,rfl⟩:=h;exact atm A
theorem ap5{e:D}{s:Rs Bool}{d:Nat}(h:∃w l,e=.tup (.str w::bo::l))(A:Wt e s d):Wn (ndD "assert" i8 [ndD "face" bw [e],i8,.bool false]) (s.bind λY=> .er vy) (2+d):=by obtain⟨w,l,rfl⟩:=h;exact atn A
theorem acb{p q j:Int}{l:List (Int×Int)}:lkI ((p,q)::l) j=if p=j then some q else lkI l j:=by
 by_cases z:p=j
 ·rw[if_pos z];exact congrArg (Option.map _) (List.find?_cons_of_pos (p:=λe:Int×Int=>decide (e.1=j)) (decide_eq_true z))
 ·rw[if_neg z];exact congrArg (Option.map _) (List.find?_cons_of_neg (p:=λe:Int×Int=>decide (e.1=j)) (λh=>z (of_decide_eq_true h)))
theorem lk1I{p q j:Int}:(lkI [(p,q)] j).getD 0=if p=j then q else 0:=by rw[acb,ai9];rfl
theorem ato{p q r s j:Int}:lkI (t2 p q r s) j=if r=j then some s else if p=j then some q else none:=by
 delta t2
 by_cases y:p=r
 ·rw[if_pos y,acb,<-y];by_cases z:p=j
  ·rw[if_pos z,if_pos z]
  ·rw[if_neg z,if_neg z,if_neg z];rfl
 ·rw[if_neg y,acb,acb];by_cases z:p=j
  ·rw[if_pos z,if_neg (λh=>y (z.trans h.symm)),if_pos z]
  ·rw[if_neg z,if_neg z];rfl
theorem lk2I{p q r s j:Int}:(lkI (t2 p q r s) j).getD 0=if r=j then s else if p=j then q else 0:=by rw[ato,aja]
mutual
theorem bi:∀e:N,e.ok->Wn e.d (fi e) e.dp
 | .k v,h=>w_k h
 | .v0,Y=>w_v0
 | .v1,Y=>w_v1
 | .bin op a b,h=>(atf (bi a h.1) (bi b h.2) λx y z Y Z hx hy e=>ajb hx hy e).to ((ar1 zAH))
 | .neg a,h=>(atg (bi a h)).to ((ar1 zAH))
 | .ix a,h=>(w_ix (bi a h)).to ((ar1 zAH))
 | .fld a t,h=>(w_fld (bi a h.1) (rz t h.2)).to ((ar1 zBJ))
 | .sl1 a i,h=>(atk (bi a h.1) (bi i h.2)).to ((ar1 zBJ))
 | .sl2 a b i,h=>(atl (bi a h.1) (bi b h.2.1) (bi i h.2.2)).to ((ar1 zBJ))
 | .der a,h=>(atj (alw (bi a h))).to ((ar1 zAW))
 | .lk0 x,h=>(aji ajf (bi x h)).to ((mC (λq1=>((ar2 0x1152104110011422) q1)) (λq2=>((ar2 0x115210411005422) q2))))
 | .lk1 a b x,h=>(aji (ajg (bi a h.1) (bi b h.2.1)) (bi x h.2.2)).to2 ((mC (λq1=>((ar3 zAQ) q1 aL)) (λq2=>((ar3 zAR) q2 aR)))) (Rs.b1 λY=>Rs.b1 λY=>Rs.bx λY=>congrArg Rs.ok lk1I)
 | .lk2 a b c d x,h=>(aji (ajh (bi a h.1) (bi b h.2.1) (bi c h.2.2.1) (bi d h.2.2.2.1)) (bi x h.2.2.2.2)).to2 ((mC (λq1=>((ar3 zAQ) q1 aL)) (λq2=>((ar3 zAR) q2 aR)))) (Rs.b1 λY=>Rs.b1 λY=>Rs.b1 λY=>Rs.b1 λY=>Rs.bx λY=>congrArg Rs.ok lk2I)
 | .asN a,h=>(ap4 a.shp (bi a h)).to ((ar1 zBJ))
 | .asT t,h=>(ap5 t.shp (rz t h)).to ((ar1 zBJ))
theorem rz:∀e:T,e.ok->Wt e.d (zv e) e.dp
 | .k b,Y=>w_tk
 | .v,Y=>w_tv
 | .lz a x y,h=>(w_lz (rz x h.1) (rz y h.2)).to ((ar1 zAH))
 | .no x,h=>(w_not (rz x h)).to ((ar1 zAH))
 | .cmp op a b,h=>(ath (bi a h.1) (bi b h.2)).to ((ar1 zAH))
end
noncomputable def sv(e:D)(low:LS->List Opd×LS)(dp:Nat):Prop:=∀(n:Nat) (J:ac) (loc:Ro->Nat) (X:LS) (Q:D->ac->Prop),8*dp+9<=n->LR J loc X->X.held=H4->0<(low X).2.qQ->
 (∀J' loc' l,LR J' loc' (low X).2->Up J loc X J' loc' (low X).2->Out J' loc' (low X).2 l (.list ((low X).1.map Opd.d))->Q (.loc l) J')->Wk (ak T0 n (.val (.ref 213)) [.loc (loc .st),e] J) Q
section
variable{J:ac}{loc:Ro->Nat}{X:LS}{n:Nat}{Q:KD}{ea eb:D}{la lb:LS->Opd×LS}{da db:Nat}
theorem atp(A:Lo ea la bw da):sv (ndD "assert" i8 [ea,i8,.bool false]) (λX=>([.r (la X).2.qO.length],((la X).2.qA i8).put (.tup [k "assert",.int (la X).2.qO.length,.none,(la X).1.d,i8,bw]))) (1+da):=by
 intro n J loc X Q hn L hH hb q;dsimp only at hb q;have hb:0<(la X).2.qQ - 1 - 1:=hb;obtain⟨n,rfl⟩:=nge (k:=5) ((ar2 0x1155105914110083002) hn);have hpa:=A.plain;obtain⟨w,r,rfl⟩:=A.sh;refine wC (fnA 38) ["state","e"] ?_;lk;refine wC (fnA 44) ["state","e"] ?_;lk;refine A.val ((ar2 0x113150914083005150914110083002) hn) L hH ((ar3 zAC) hb aS aS) λJ1 loc1 L1 U1=> ?_;rw[<-(U1.loc .st trivial).2];lk;have L2:=L1.qR [Cell.list [(la X).1.d,i8,bw]];have U2:=Up.qR J1 loc1 (la X).2 [Cell.list [(la X).1.d,i8,bw]];have O2:Out (J1++ [Cell.list [(la X).1.d,i8,bw]]) loc1 (la X).2 J1.length (.list [(la X).1.d,i8,bw]):=L1.qF _ _;lk;refine fc L2 rfl ((ar3 zAC) hb aS aS) λJ3 L3 U3=> ?_;lk;refine qf (l:=[(la X).1.d,i8,bw]) (qg (U3.out O2).1 (lb rfl)) ?_;lk;refine fh L3 rfl (by show 0<(la X).2.qQ - 1;exact(ar2 zAD) hb aS) λJ4 L4 U4=> ?_;lk;have h1:(J4++ [Cell.list [rgD (la X).2.qO.length]])[J4.length]?=some (.list [rgD (la X).2.qO.length]):=by simp
 have h2:(J4++ [Cell.list [rgD (la X).2.qO.length]]++ [Cell.list []])[(J4++ [Cell.list [rgD (la X).2.qO.length]]).length]?=some (.list []):=by simp
 refine nLL (ag h1) h2 (lb rfl) ?_;lk;exact q _ loc1 _ (((L4.qR _).qR _).qR _) ((((((U1.trans U2).trans U3).trans U4).trans (Up.qR ..)).trans (Up.qR ..)).trans (Up.qR ..)) (((L4.qR _).qR _).qF _ _)
theorem ajj(A:Lo ea la gj da)(B:Lo eb lb i8 db):sv (ndD "key" i8 [ea,eb,.bool false]) (λX=>([(look (la X) (lb (la X).2) false).1],(look (la X) (lb (la X).2) false).2)) (1+max da db):=by
 have qQ:∀X,(look (la X) (lb (la X).2) false).2.qQ=(lb (la X).2).2.qQ - 1 - 1:=λY=>rfl;intro n J loc X Q hn L hH hb q;dsimp only at hb q;rw[qQ] at hb;obtain⟨n,rfl⟩:=nge (k:=6) ((ar2 0x1156105914110083002) hn);have hpa:=A.plain;have hpb:=B.plain;refine wC (fnA 38) ["state","e"] ?_;lk;refine wC (fnA 44) ["state","e"] ?_;lk;refine me A B ((ar2 0x114150b14083006150914110083002) hn) L hH ((ar3 zAC) hb aS aS) λJ1 loc1 l L1 U1 O1=> ?_;rw[<-(U1.loc .st trivial).2];lk;have h1:(J1++ [Cell.list [i8]])[J1.length]?=some (.list [i8]):=by simp
 refine nLL (ag O1.1) h1 (aj (by simp)) ?_;have L2:=(L1.qR [Cell.list [i8]]).qR [Cell.list ([(la X).1.d,(lb (la X).2).1.d]++ [i8])];have U2:=(Up.qR J1 loc1 (lb (la X).2).2 [Cell.list [i8]]).trans (Up.qR _ loc1 (lb (la X).2).2 [Cell.list ([(la X).1.d,(lb (la X).2).1.d]++ [i8])]);have O2:Out (J1++ [Cell.list [i8]]++ [Cell.list ([(la X).1.d,(lb (la X).2).1.d]++ [i8])]) loc1 (lb (la X).2).2 (J1++ [Cell.list [i8]]).length _:=(L1.qR [Cell.list [i8]]).qF _ _;lk;refine fc L2 rfl ((ar3 zAC) hb aS aS) λJ3 L3 U3=> ?_;have O3:=U3.out O2;lk;refine qf (l:=[(la X).1.d,(lb (la X).2).1.d]++ [i8]) (qg O3.1 (aj (by simp))) ?_;lk;refine fh L3 rfl (by show 0<(lb (la X).2).2.qQ - 1;exact(ar2 zAD) hb aS) λJ4 L4 U4=> ?_;lk;have h1:(J4++ [Cell.list [rgD (lb (la X).2).2.qO.length]])[J4.length]?=some (.list [rgD (lb (la X).2).2.qO.length]):=by simp
 have h2:(J4++ [Cell.list [rgD (lb (la X).2).2.qO.length]]++ [Cell.list []])[(J4++ [Cell.list [rgD (lb (la X).2).2.qO.length]]).length]?=some (.list []):=by simp
 refine nLL (ag h1) h2 (aj (by simp)) ?_;lk;exact q _ loc1 _ (((L4.qR _).qR _).qR _) ((((((U1.trans U2).trans U3).trans U4).trans (Up.qR ..)).trans (Up.qR ..)).trans (Up.qR ..)) (((L4.qR _).qR _).qF _ _)
theorem v_pair(A:Lo ea la gj da)(B:Lo eb lb i8 db):sv (ndD "key" (.tup [k "tuple",.tup [i8,bo]]) [ea,eb,.bool true]) (λX=>([.r (lb (la X).2).2.qO.length,.r ((lb (la X).2).2.qO.length+1)],(look (la X) (lb (la X).2) true).2)) (1+max da db):=by
 have qQ:∀X,(look (la X) (lb (la X).2) true).2.qQ=(lb (la X).2).2.qQ - 1 - 1 - 1:=λY=>rfl;intro n J loc X Q hn L hH hb q;dsimp only at hb q;rw[qQ] at hb;obtain⟨n,rfl⟩:=nge (k:=6) ((ar2 0x1156105914110083002) hn);have hpa:=A.plain;have hpb:=B.plain;refine wC (fnA 38) ["state","e"] ?_;lk;refine wC (fnA 44) ["state","e"] ?_;lk;refine me A B ((ar2 0x114150b14083006150914110083002) hn) L hH ((ar4 zBD) hb aS aS aS) λJ1 loc1 l L1 U1 O1=> ?_;rw[<-(U1.loc .st trivial).2];lk;have h1:(J1++ [Cell.list [i8]])[J1.length]?=some (.list [i8]):=by simp
 refine nLL (ag O1.1) h1 (aj (by simp)) ?_;have L2:=(L1.qR [Cell.list [i8]]).qR [Cell.list ([(la X).1.d,(lb (la X).2).1.d]++ [i8])];have U2:=(Up.qR J1 loc1 (lb (la X).2).2 [Cell.list [i8]]).trans (Up.qR _ loc1 (lb (la X).2).2 [Cell.list ([(la X).1.d,(lb (la X).2).1.d]++ [i8])]);have O2:Out (J1++ [Cell.list [i8]]++ [Cell.list ([(la X).1.d,(lb (la X).2).1.d]++ [i8])]) loc1 (lb (la X).2).2 (J1++ [Cell.list [i8]]).length _:=(L1.qR [Cell.list [i8]]).qF _ _;lk;refine fc L2 rfl ((ar4 zBD) hb aS aS aS) λJ3 L3 U3=> ?_;have O3:=U3.out O2;lk;refine fc L3 rfl (by show 0<(lb (la X).2).2.qQ - 1;exact(ar3 zAC) hb aS aS) λJ5 L5 U5=> ?_;have O5:=U5.out O3;have hr:((lb (la X).2).2.qA i8).qO.length=(lb (la X).2).2.qO.length+1:=by simp[LS.qA]
 lk;refine qf (l:=[(la X).1.d,(lb (la X).2).1.d]++ [i8]) (qg O5.1 (aj (by simp))) ?_;lk;refine fh L5 rfl (by show 0<(lb (la X).2).2.qQ - 1 - 1;exact(ar2 zAD) hb aS) λJ4 L4 U4=> ?_;lk;rw[hr];have h1:(J4++ [Cell.list [rgD (lb (la X).2).2.qO.length]])[J4.length]?=some (.list [rgD (lb (la X).2).2.qO.length]):=by simp
 have h2:(J4++ [Cell.list [rgD (lb (la X).2).2.qO.length]]++ [Cell.list [rgD ((lb (la X).2).2.qO.length+1)]])[(J4++ [Cell.list [rgD (lb (la X).2).2.qO.length]]).length]?=some (.list [rgD ((lb (la X).2).2.qO.length+1)]):=by simp
 refine nLL (ag h1) h2 (aj (by simp)) ?_;lk;exact q _ loc1 _ (((L4.qR _).qR _).qR _) (((((((U1.trans U2).trans U3).trans U5).trans U4).trans (Up.qR ..)).trans (Up.qR ..)).trans (Up.qR ..)) (((L4.qR _).qR _).qF _ _)
end
noncomputable abbrev w8(low:LS->Opd×LS):LS->List Opd×LS:=λX=>([(low X).1],(low X).2)
theorem sv.mono{e:D}{low:LS->List Opd×LS}{d d':Nat}(h:sv e low d)(hd:d<=d'):sv e low d':=λn J loc X Q hn=>h n J loc X Q ((ar3 0x1186914083006915083005403) hd hn)
theorem ap6{d n:Nat}(h:8*d+9<=n+1):8*d+8<=n:=Nat.le_of_succ_le_succ h
theorem ajk{d n:Nat}(h:8*d+9<=n):∃m,n=m+1/\8*d+8<=m:=by
 induction n with
 | zero=>exact absurd h (Nat.not_succ_le_zero _)
 | succ m=>exact⟨m,rfl,ap6 h⟩
noncomputable def vOk(w w2:String):Bool:=!(Str.ofString w==so "call")&&(!(Str.ofString w==so "builtin")&&(!(Str.ofString w2==so "tuple")&&iv (k w) [k "assert",k "key",k "receive"]==some false))
theorem ap7{b:Bool}(h:(!b)=true):b=false:=by cases b<;>first | rfl | exact nomatch h
theorem ajl{e:D}{low:LS->Opd×LS}{ty:D}{dp:Nat}{w w2:String}{r r2:List D}(A:Lo e low ty dp)(he:e=.tup (k w::.tup (k w2::r2)::r))(hv:vOk w w2=true):sv e (w8 low) dp:=by
 obtain⟨h1,h2,h3,h4⟩:_/\_/\_/\_:=⟨ap7 (yQ hv).1,ap7 (yQ (yQ hv).2).1,ap7 (yQ (yQ (yQ hv).2).2).1,beq_iff_eq.mp (yQ (yQ (yQ hv).2).2).2⟩
 clear hv;subst he;intro n J loc X Q hn L hH hb q;obtain⟨n,rfl,hA⟩:=ajk hn;clear hn;refine wC (fnA 38) ["state","e"] ?_;lk;refine ab4 h1 ?_;lk;refine ab4 h2 ?_;lk;refine ab4 (yD h4) ?_;lk;refine ab4 h3 ?_;lk;refine A.run n J loc X _ hA L hH hb λJ1 loc1 L1 U1=> ?_;lk;exact q _ loc1 _ (L1.qR _) (U1.trans (Up.qR ..)) (L1.qF _ _)
theorem atq(e:T):sv e.d (w8 (rq e)) e.dp:=by
 induction e using T.casesOn<;>exact ajl (gf _) rfl (by k_go)
theorem atr(e:N):sv e.d (w8 (bq e)) e.dp:=by
 have A:=ax e;have K:∀low:LS->List Opd×LS,low=w8 (bq e)->sv e.d low e.dp->sv e.d (w8 (bq e)) e.dp:=λY h v=>h▸v;cases e with
 | lk0 x=>exact K _ rfl ((ajj vm (ax x)).mono ((mC (λq1=>((ar2 0x1152104110011422) q1)) (λq2=>((ar2 0x115210411005422) q2)))))
 | lk1 a b x=>exact K _ rfl ((ajj (vn (ax a) (ax b)) (ax x)).mono ((mC (λq1=>((ar3 zAQ) q1 aL)) (λq2=>((ar3 zAR) q2 aR)))))
 | lk2 a b c d x=>exact K _ rfl ((ajj (vp (ax a) (ax b) (ax c) (ax d)) (ax x)).mono ((mC (λq1=>((ar3 zAQ) q1 aL)) (λq2=>((ar3 zAR) q2 aR)))))
 | asN a=>exact K _ rfl ((atp (qj (ax a) noI)).mono ((ar1 zAW)))
 | asT t=>exact K _ rfl ((atp (qj (gf t) noB)).mono ((ar1 zAW)))
 | _=>exact ajl A rfl (by k_go)
noncomputable def Fr(J J':ac):Prop:=J.length<=J'.length/\∀l,l<J.length->J'[l]?=J[l]?
theorem Fr.refl(J:ac):Fr J J:=⟨yE _,λY Z=>rfl⟩
theorem Fr.trans{a b c:ac}(h:Fr a b)(g:Fr b c):Fr a c:=⟨yK h.1 g.1,λl hl=>(g.2 l (yJ hl h.1)).trans (h.2 l hl)⟩
theorem Fr.qR(J t:ac):Fr J (J++t):=⟨by simp,λY h=>List.getElem?_append_left h⟩
theorem Fr.at{a b:ac}(h:Fr a b){l:Nat}{c:Cell}(g:a[l]?=some c):b[l]?=some c:=(h.2 l (ae g)).trans g
theorem Fr.qE{a b:ac}(h:Fr a b){m:Nat}(hm:a.length<=m)(c:Cell):Fr a (b.set m c):=⟨by simpa using h.1,λl hl=>by rw[yB (by exact(ar3 zA2) hm hl)];exact h.2 l hl⟩
structure fq(J0 J:ac)(m d:Nat)(C:Addr)(es:List (Str×D)):Prop where
 inst:J[m]?=some (.inst C d)
 at_:J[d]?=some (.dictS es)
 f:Fr J0 J
 hm:J0.length<=m
 hd:J0.length<=d
 ne:m≠d
theorem fq.new(J:ac)(C:Addr):fq J (J++ [.dictS [],.inst C J.length]) (J.length+1) J.length C []:=⟨by simp,by simp,Fr.qR ..,by exact(ar1 0x11140401),by exact(ar1 0x14401),by exact(ar1 zA0)⟩
theorem fq.fr{J0 J J':ac}{m d:Nat}{C:Addr}{es:List (Str×D)}(I:fq J0 J m d C es)(f:Fr J J'):fq J0 J' m d C es:=⟨f.at I.inst,f.at I.at_,I.f.trans f,I.hm,I.hd,I.ne⟩
theorem fq.qR{J0 J:ac}{m d:Nat}{C:Addr}{es:List (Str×D)}(I:fq J0 J m d C es)(t:ac):fq J0 (J++t) m d C es:=I.fr (Fr.qR ..)
theorem fq.set{J0 J:ac}{n m d:Nat}{C:Addr}{es:List (Str×D)}{x:Str}{v:D}{K:ac->Prop}(I:fq J0 J m d C es)(hc:T0.attr C x=true)(hl:es.length<=64)(q:∀J',J'.length=J.length->(∀l,l≠d->J'[l]?=J[l]?)->fq J0 J' m d C (putK es x v)->K J'):Wv (gg (d8 T0 n) J (.loc m) x v) K:=
 setAt I.inst I.at_ hc hl (q _ (by simp) (λl h=>yB (Ne.symm h)) ⟨by rw[yB (Ne.symm I.ne)];exact I.inst,bj I.at_,I.f.qE I.hd _,I.hm,I.hd,I.ne⟩)
theorem fq.nx{J0 J J':ac}{m d:Nat}{C:Addr}{es:List (Str×D)}(I:fq J0 J m d C es)(h:J'=J:=by rfl):fq J0 J' m d C es:=by subst h;exact I
theorem fq.set1{J0 J t:ac}{n m d:Nat}{C:Addr}{es:List (Str×D)}{x:Str}{v:D}{K:ac->Prop}(I:fq J0 J m d C es)(hc:T0.attr C x=true)(hl:es.length<=64)(q:∀J',J'.length=(J++t).length->(∀l,l≠d->J'[l]?=(J++t)[l]?)->fq J0 J' m d C (putK es x v)->K J'):Wv (gg (d8 T0 n) (J++t) (.loc m) x v) K:=(I.qR t).set hc hl q
theorem fq.set2{J0 J t u:ac}{n m d:Nat}{C:Addr}{es:List (Str×D)}{x:Str}{v:D}{K:ac->Prop}(I:fq J0 J m d C es)(hc:T0.attr C x=true)(hl:es.length<=64)(q:∀J',J'.length=(J++t++u).length->(∀l,l≠d->J'[l]?=(J++t++u)[l]?)->fq J0 J' m d C (putK es x v)->K J'):Wv (gg (d8 T0 n) (J++t++u) (.loc m) x v) K:=(I.qR t).set1 hc hl q
end
local macro_rules | `(tactic| w_cond $h)=>DK "( ( 'refine :fq.set $ '? '_ H '? '_ H '? '_ H null/4 Term.app/2 Tactic.refine/2 'refine :fq.set1 $ '? '_ H '? '_ H '? '_ H null/4 Term.app/2 Tactic.refine/2 'refine :fq.set2 $ '? '_ H '? '_ H '? '_ H null/4 Term.app/2 Tactic.refine/2 | K 7 ;" h
section
open PySem
section
variable{J:ac}{n:Nat}{Q:KD}
theorem td{a b c d:D}(ha:ao a=true)(hb:ao b=true)(hc:ao c=true)(hd:ao d=true)(q:∀m J',Fr J J'->Q (.loc m) J'):Wk (ak T0 (n+2) (.val (.ref 594)) [a,b,c,d] J) Q:=by
 refine ab3 (i:=591) (by k_go) ?_;have I:=fq.new J 594;refine wC (fnS 70 0) ["self","path","package","underlying","methods"] ?_;lk;w_cond I;intro J1 _ _ I1;lk;w_cond I1;intro J2 _ _ I2;lk;w_cond I2;intro J3 _ _ I3;lk;w_cond I3;intro J4 _ _ I4;lk;exact⟨rfl,q _ _ I4.f⟩
theorem ap8(q:∀m J',Fr J J'->Q (.loc m) J'):Wk (ak T0 (n+3) (.val (.ref 605)) [] J) Q:=by
 refine wC (fnA 71) [] ?_;lk;refine td (by rfl) (by rfl) (by rfl) (by rfl) λm1 J1 f1=> ?_;lk;refine td (by rfl) (by rfl) (by rfl) (by rfl) λm2 J2 f2=> ?_;lk;refine td (by rfl) (by rfl) (by rfl) (by rfl) λm3 J3 f3=> ?_;lk;refine td (by rfl) (by rfl) (by rfl) (by rfl) λm4 J4 f4=> ?_;lk;exact q _ _ ((((((((Fr.qR ..).trans (Fr.qR ..)).trans (Fr.qR ..)).trans (Fr.qR ..)).trans f1).trans f2).trans (f3.trans f4)).trans (Fr.qR ..))
theorem alx(q:∀m d es J',fq J J' m d 637 es->atK es (so "base_of")=none->Q (.loc m) J'):Wk (ak T0 (n+5) (.val (.ref 637)) [] J) Q:=by
 refine ab3 (i:=620) (by k_go) ?_;have I:=fq.new J 637;refine ans (f:=fnS 72 0 [.none]) (bs:=nz ["self","packages"] [.loc (J.length+1),.none]) (by k_go) (by rfl) (by rfl) ?_;lk;w_cond I;intro J1 _ _ I1;lk;refine ap8 λmr Jr fr=> ?_;replace I1:=I1.fr fr;lk;w_cond I1;intro J2 _ _ I2;lk;w_cond I2;intro J3 _ _ I3;lk;w_cond I3;intro J4 _ _ I4;lk;w_cond I4;intro J5 _ _ I5;lk;w_cond I5;intro J6 _ _ I6;lk;w_cond I6;intro J7 _ _ I7;lk;w_cond I7;intro J8 _ _ I8;lk;w_cond I8;intro J9 _ _ I9;lk;w_cond I9;intro J10 _ _ I10;lk;w_cond I10;intro J11 _ _ I11;lk;w_cond I11;intro J12 _ _ I12;lk;w_cond I12;intro J13 _ _ I13;lk;w_cond I13;intro J14 _ _ I14;lk;w_cond I14;intro J15 _ _ I15;lk;w_cond I15;intro J16 _ _ I16;lk;w_cond I16;intro J17 _ _ I17;lk;w_cond I17;intro J18 _ _ I18;lk;w_cond I18;intro J19 _ _ I19;lk;w_cond I19;intro J20 _ _ I20;lk;exact⟨rfl,q _ _ _ _ I20 (by k_go)⟩
end
section
noncomputable def tfL(lo li:Nat):List (Str×D):=[(so "key",k "f"),(so "locals",.loc lo),(so "params",.tup []),(so "results",.tup []),(so "captured",.tup []),(so "body",.tup []),(so "literals",.loc li)]
noncomputable def coL(ky pa ca re rc:D)(rg bl:Nat):List (Str×D):=[(so "key",ky),(so "params",pa),(so "registers",.loc rg),(so "blocks",.loc bl),(so "captured",ca),(so "results",re),(so "recovery",rc)]
end
section
variable{J:ac}{n:Nat}{Q:KD}
theorem aly{lo li:Nat}(q:∀m d J',fq J J' m d 295 (tfL lo li)->Q (.loc m) J'):Wk (ak T0 (n+2) (.val (.ref 295)) [k "f",.loc lo,.tup [],.tup [],.tup [],.tup [],.loc li] J) Q:=by
 refine ab3 (i:=292) (by k_go) ?_;have I:=fq.new J 295;refine wC (fnS 52 0) ["self","key","rows","params","results","captured","body","literals"] ?_;lk;w_cond I;intro J1 _ _ I1;lk;w_cond I1;intro J2 _ _ I2;lk;w_cond I2;intro J3 _ _ I3;lk;w_cond I3;intro J4 _ _ I4;lk;w_cond I4;intro J5 _ _ I5;lk;w_cond I5;intro J6 _ _ I6;lk;w_cond I6;intro J7 _ _ I7;lk;exact⟨rfl,q _ _ _ (cast (by congr 1) I7)⟩
theorem aez{ky pa ca re rc:D}{lr bl:Nat}{qO args:List D}(hb:jk (fnS 56 0 [.int 0,.int 0,.none]) (.loc (J.length+1)::args)=some (nz ["self","key","params","registers","blocks","captured","results","recovery"] [.loc (J.length+1),ky,pa,.loc lr,.loc bl,ca,re,rc]))
  (hr:J[lr]?=some (.list qO)) (hl:qO.length<=ah) (h1:ao ky=true) (h2:ao pa=true) (h3:ao ca=true) (h4:ao re=true) (h5:ao rc=true)
  (q:∀m d rg J',fq J J' m d 338 (coL ky pa ca re rc rg bl)->J'[rg]?=some (.list qO)->J.length<=rg->rg≠d->Q (.loc m) J'):Wk (ak T0 (n+2) (.val (.ref 338)) args J) Q:=by
 refine ab3 (i:=316) (by k_go) ?_;have I:=fq.new J 338;refine ans (f:=fnS 56 0 [.int 0,.int 0,.none]) (by k_go) hb (by rfl) ?_;lk;w_cond I;intro J1 e1 _ I1;lk;w_cond I1;intro J2 e2 _ I2;lk;refine apd (l:=qO) (ass (I2.f.at hr) hl) ?_;lk;have hd2:=ae I2.at_;have a2:(J2++ [Cell.list qO])[J2.length]?=some (.list qO):=au _;w_cond I2;intro J3 e3 o3 I3;have a3:=(o3 _ (yN hd2)).trans a2;lk;w_cond I3;intro J4 e4 o4 I4;have a4:=(o4 _ (yN hd2)).trans a3;lk;w_cond I4;intro J5 e5 o5 I5;have a5:=(o5 _ (yN hd2)).trans a4;lk;w_cond I5;intro J6 e6 o6 I6;have a6:=(o6 _ (yN hd2)).trans a5;lk;w_cond I6;intro J7 e7 o7 I7;have a7:=(o7 _ (yN hd2)).trans a6;lk;exact⟨rfl,q _ _ _ _ (cast (by congr 1) I7) a7 I2.f.1 (yN hd2)⟩
end
section
noncomputable def X00(wes:List (Str×D))(lp li:Nat):LS:=⟨[],[],0,0,1,λY=> [],λY=> .none,wes,.loc lp,.loc li,4090⟩
noncomputable def knL:List (Str×D):=[(so "value",.val (.ref 206)),(so "values",.val (.ref 213)),(so "address",.val (.ref 174))]
noncomputable def loL:List D:=[.tup [k "n",i8],.tup [k "v",i8],.tup [k "t",bo],.tup [k "r",je]]
noncomputable def alz(st dst cd dcd rg bl hd kn bx tf dtf lo wd dwd bk it:Nat):Ro->Nat
 | .st=>st | .dst=>dst | .cd=>cd | .dcd=>dcd | .rg=>rg | .bl=>bl | .hd=>hd | .kn=>kn | .bx=>bx | .tf=>tf | .dtf=>dtf | .lo=>lo | .wd=>wd | .dwd=>dwd | .bk _=>bk | .it _=>it
end
noncomputable def Ro.rk:Ro->Nat
 | .lo=>0 | .wd=>1 | .dwd=>2 | .tf=>3 | .dtf=>4 | .kn=>5 | .dst=>6 | .st=>7 | .bx=>8 | .hd=>9 | .bl=>10 | .cd=>11 | .dcd=>12 | .rg=>13 | .it _=>14 | .bk _=>15
noncomputable def Ro.un(n:Nat):Option Ro:=[Ro.lo,.wd,.dwd,.tf,.dtf,.kn,.dst,.st,.bx,.hd,.bl,.cd,.dcd,.rg,.it 0,.bk 0][n]?
theorem Ro.un_rk{r:Ro}(c1:∀i,r=.bk i->i=0)(c2:∀i,r=.it i->i=0):Ro.un r.rk=some r:=by
 cases r<;>first | rfl | (rw[c1 _ rfl];rfl) | (rw[c2 _ rfl];rfl)
noncomputable def Gq(b:Nat)(l:List Nat):Prop:=∀y∈l,b<=y
theorem Gq.cons{b a:Nat}{l:List Nat}(h:b<=a)(g:Gq b l):Gq b (a::l):=λy m=>(yM m).elim (λe=>e▸h) (g y)
theorem Gq.w{b c:Nat}{l:List Nat}(g:Gq c l)(h:b<=c):Gq b l:=λy m=>yK h (g y m)
theorem Gq.no{b x:Nat}{l:List Nat}(g:Gq b l)(h:x<b):x∉l:=λm=>Nat.lt_irrefl _ (yJ h (g x m))
theorem dq{x a:Nat}{l:List Nat}(h:x≠a)(n:x∉l):x∉a::l:=λm=>(yM m).elim h n
theorem att{l:List Nat}(nd:l.Nodup){i j a:Nat}(hi:l[i]?=some a)(hj:l[j]?=some a):i=j:=by
 obtain⟨li,ei⟩:=yS hi;obtain⟨lj,ej⟩:=yS hj;exact(List.getElem_inj nd).mp (ei.trans ej.symm)
section
variable{st dst cd dcd rg bl hd kn bx tf dtf lo wd dwd bk it:Nat}
theorem ae0(r:Ro):[lo,wd,dwd,tf,dtf,kn,dst,st,bx,hd,bl,cd,dcd,rg,it,bk][r.rk]?=some (alz st dst cd dcd rg bl hd kn bx tf dtf lo wd dwd bk it r):=by cases r<;>rfl
theorem al0(o1:lo<wd/\lo<dwd)(o2:wd<tf/\wd<dtf/\dwd<tf/\dwd<dtf)(o3:tf<kn/\dtf<kn)(n1:wd≠dwd)(n2:tf≠dtf)(a1:kn<dst)(a2:st=dst+1)(a3:bx=dst+2)(a4:hd=bx+1)(a5:hd<bl)(a6:bl<cd)(a7:bl<dcd)(a8:bl<rg)(a9:cd<it)(b1:dcd<it)(b2:rg<it)(b3:cd≠dcd)(b4:rg≠cd)(b5:rg≠dcd)(b6:bk=it+1):[lo,wd,dwd,tf,dtf,kn,dst,st,bx,hd,bl,cd,dcd,rg,it,bk].Nodup:=by
 subst a2 a3 a4 b6;have g0:Gq it [it,it+1]:=.cons (yE _) (.cons (Nat.le_succ _) λY m=>nomatch m);have g1:Gq (bl+1) [cd,dcd,rg,it,it+1]:=.cons a6 (.cons a7 (.cons a8 (g0.w (Nat.lt_trans a6 a9))));have g2:Gq (dst+2+1+1) [bl,cd,dcd,rg,it,it+1]:=.cons a5 (g1.w (Nat.le_succ_of_le a5));have g3:Gq (dst+2+1) [dst+2+1,bl,cd,dcd,rg,it,it+1]:=.cons (yE _) (g2.w (Nat.le_succ _));have g4:Gq (dst+2) [dst+2,dst+2+1,bl,cd,dcd,rg,it,it+1]:=.cons (yE _) (g3.w (Nat.le_succ _));have g5:Gq (dst+1) [dst+1,dst+2,dst+2+1,bl,cd,dcd,rg,it,it+1]:=.cons (yE _) (g4.w (Nat.le_succ _));have g6:Gq (kn+1) [dst,dst+1,dst+2,dst+2+1,bl,cd,dcd,rg,it,it+1]:=.cons a1 (g5.w (Nat.le_succ_of_le a1));have g7:Gq kn [kn,dst,dst+1,dst+2,dst+2+1,bl,cd,dcd,rg,it,it+1]:=.cons (yE _) (g6.w (Nat.le_succ _));have nd:=λ{x l} (h:x∉l) (n:List.Nodup l)=>(List.nodup_cons.mpr ⟨h,n⟩:List.Nodup ((x:Nat)::l))
 exact nd (dq (yO o1.1) (dq (yO o1.2) (dq (yO (Nat.lt_trans o1.1 o2.1)) (dq (yO (Nat.lt_trans o1.1 o2.2.1)) (g7.no (Nat.lt_trans (Nat.lt_trans o1.1 o2.1) o3.1))))))
  (nd (dq n1 (dq (yO o2.1) (dq (yO o2.2.1) (g7.no (Nat.lt_trans o2.1 o3.1)))))
  (nd (dq (yO o2.2.2.1) (dq (yO o2.2.2.2) (g7.no (Nat.lt_trans o2.2.2.1 o3.1))))
  (nd (dq n2 (g7.no o3.1)) (nd (g7.no o3.2) (nd (g6.no (yU _)) (nd (g5.no (yU _)) (nd (g4.no (yU _)) (nd (g3.no (yU _)) (nd (g2.no (yU _)) (nd (g1.no (yU _))
  (nd (dq b3 (dq (Ne.symm b4) (g0.no a9))) (nd (dq (Ne.symm b5) (g0.no b1)) (nd (g0.no b2) (nd (dq (yO (yU _)) List.not_mem_nil) (nd List.not_mem_nil .nil)))))))))))))))
theorem ajm(nd:[lo,wd,dwd,tf,dtf,kn,dst,st,bx,hd,bl,cd,dcd,rg,it,bk].Nodup){r r':Ro}(c1:∀i,r=.bk i->i=0)(c2:∀i,r=.it i->i=0)(c3:∀i,r'=.bk i->i=0)(c4:∀i,r'=.it i->i=0)
  (he:alz st dst cd dcd rg bl hd kn bx tf dtf lo wd dwd bk it r=alz st dst cd dcd rg bl hd kn bx tf dtf lo wd dwd bk it r'):r=r':=
 yD ((Ro.un_rk c1 c2).symm.trans ((congrArg Ro.un (att nd (ae0 r) (he▸ae0 r'))).trans (Ro.un_rk c3 c4)))
end
section
variable{J:ac}{n:Nat}{Q:KD}
theorem al1{wd dwd tf dtf lo li bd kn:Nat}{wes:List (Str×D)}(h1:J[wd]?=some (.inst 637 dwd))(h2:J[dwd]?=some (.dictS wes))(h3:J[tf]?=some (.inst 295 dtf))(h4:J[dtf]?=some (.dictS (tfL lo li)))(h5:J[lo]?=some (.list loL))(h6:J[bd]?=some (.dictI [(1,.bool true)]))(h7:J[kn]?=some (.dictS knL))
  (hb:atK wes (so "base_of")=none) (o1:lo<wd/\lo<dwd) (o2:wd<tf/\wd<dtf/\dwd<tf/\dwd<dtf) (o3:tf<kn/\dtf<kn) (n1:wd≠dwd) (n2:tf≠dtf)
  (q:∀loc lp J',LR J' loc (X00 wes lp li)->Fr J J'->(∀r,(X00 wes lp li).valid r->loc r<J.length->loc r=lo\/loc r=wd\/loc r=dwd\/loc r=tf\/loc r=dtf\/loc r=kn)->loc .lo=lo->Q (.loc (loc .st)) J'):Wk (ak T0 (n+4) (.val (.ref 570)) [.loc wd,.loc tf,.loc bd,.loc kn] J) Q:=by
 have b7:=ae h7;refine ab3 (i:=413) (by k_go) ?_;have I:=fq.new J 570;refine wC (fnS 67 0) ["self","world","typed_fn","boxed","known"] ?_;lk;w_cond I;intro J1 e1 _ I1;lk;w_cond I1;intro J2 e2 _ I2;lk;refine tFst (i:=1) (by delta xg;dsimp only;rw[I2.f.at h6]) ?_;have a2:(J2++ [Cell.fset [1]])[J2.length]?=some (.fset [1]):=au _;have l2:=ae I2.at_;have l2':=ae I2.inst;lk;w_cond I2;intro J3 e3 p3 I3;have a3:=(p3 _ (yN l2)).trans a2;lk;w_cond I3;intro J4 e4 p4 I4;have a4:=(p4 _ (yN l2)).trans a3;lk;have l4:=ae I4.at_;have c4:(J4++ [Cell.dictI []])[J4.length]?=some (.dictI []):=au _;have d4:=ag (t:=[Cell.dictI []]) a4;w_cond I4;intro J5 e5 p5 I5;have a5:=(p5 _ (yN l2)).trans d4;have c5:=(p5 _ (yN l4)).trans c4;lk;w_cond I5;intro J6 e6 p6 I6;have a6:=(p6 _ (yN l2)).trans a5;have c6:=(p6 _ (yN l4)).trans c5;lk;w_cond I6;intro J7 e7 p7 I7;have a7:=(p7 _ (yN l2)).trans (ag a6);have c7:=(p7 _ (yN l4)).trans (ag c6);lk;w_cond I7;intro J8 e8 p8 I8;have a8:=(p8 _ (yN l2)).trans a7;have c8:=(p8 _ (yN l4)).trans c7;lk;w_cond I8;intro J9 e9 p9 I9;have a9:=(p9 _ (yN l2)).trans a8;have c9:=(p9 _ (yN l4)).trans c8;lk;refine at_ (v:=k "f") (I9.f.at h3) (I9.f.at h4) (by k_go) (by rfl) rfl ?_;lk;refine at_ (v:=.tup []) (I9.f.at h3) (I9.f.at h4) (by k_go) (by rfl) rfl ?_;lk;lk;have Ia:=(I9.qR [Cell.list []]).qR [Cell.list []];refine at_ (v:=.tup []) (Ia.f.at h3) (Ia.f.at h4) (by k_go) (by rfl) rfl ?_;lk;lk;refine at_ (v:=.tup []) (Ia.f.at h3) (Ia.f.at h4) (by k_go) (by rfl) rfl ?_;lk;lk;have ar:(J9++ [Cell.list []]++ [Cell.list []])[J9.length]?=some (.list []):=by simp
 have ab:(J9++ [Cell.list []]++ [Cell.list []])[(J9++ [Cell.list []]).length]?=some (.list []):=au _;have aa:=ag (t:=[Cell.list []]) (ag (t:=[Cell.list []]) a9);have ca:=ag (t:=[Cell.list []]) (ag (t:=[Cell.list []]) c9);have hbl:(J9++ [Cell.list []]).length=J9.length+1:=by simp
 rw[hbl] at ab⊢;generalize hba:J9++ [Cell.list []]++ [Cell.list []]=Ja at Ia ar ab aa ca⊢;have la:Ja.length=J9.length+2:=by rw[<-hba];simp
 refine aez (ky:=k "f") (pa:=.int 0) (ca:=.int 0) (re:=.int 0) (rc:=.none) (qO:=[]) (by rfl) ar (lb rfl) rfl rfl rfl rfl rfl λcd dcd rg Jb Ic arg hrg nrg=> ?_;have Ib:=Ia.fr Ic.f;have ab:=Ic.f.at ab;have abx:=Ic.f.at aa;have ahd:=Ic.f.at ca;have lcd:=ae Ic.inst;have ldcd:=ae Ic.at_;have lrg:=ae arg;have hcd:=Ic.hm;have hdcd:=Ic.hd;have necd:=Ic.ne;have fb:=Ic.f.1;lk;w_cond Ib;intro Jc ec pc Id;have l9:J9.length=J4.length+2:=by simp only[List.length_append,List.length_cons,List.length_nil] at*;exact(ar6 0x1111111111112190821101040721101090526827625426) e6 e8 e9 e5 e7
 have l4s:J4.length=J2.length+1:=by simp only[List.length_append,List.length_cons,List.length_nil] at*;exact(ar3 0x1111111160421101060525423) e4 e3
 have l2s:J2.length=J.length+2:=by simp only[List.length_append,List.length_cons,List.length_nil] at*;exact(ar3 0x1111112160421111010060525423) e2 e1
 have nrc:rg≠cd:=λz=>by rw[z,Ic.inst] at arg;exact Cell.noConfusion (yD arg)
 have acd:=(pc _ (by exact(ar6 zA6) la hcd l9 l4s l2s)).trans Ic.inst;have adcd:=(pc _ (by exact(ar6 zA6) la hdcd l9 l4s l2s)).trans Ic.at_;replace ab:=(pc _ (by exact(ar4 zCF) l9 l4s l2s)).trans ab;replace abx:=(pc _ (by exact(ar2 0x111010135422150443) l2s)).trans abx;replace ahd:=(pc _ (by exact(ar3 0x1111010136422160541150444) l4s l2s)).trans ahd;replace arg:=(pc _ (by exact(ar6 zA6) la hrg l9 l4s l2s)).trans arg;clear I I1 I2 I3 I4 I5 I6 I7 I8 I9 Ia Ib Ic a2 a3 a4 a5 a6 a7 a8 a9 c4 c5 c6 c7 c8 c9 d4 ar aa ca p3 p4 p5 p6 p7 p8 p9 pc hba hbl;lk;refine mt_ Id.inst Id.at_ (by k_go) m427 ?_;lk;refine wC (fnS 67 2) ["self"] ?_;lk;refine at_ (v:=.loc cd) Id.inst Id.at_ (by k_go) (by k_go) rfl ?_;lk;refine at_ (v:=.loc (J9.length+1)) acd adcd (by k_go) (by rfl) rfl ?_;lk;refine mtL ab (.inl rfl) ?_;lk;refine w6 (ag (ag ab)) (lb rfl) rfl ?_;have e1:(Jc++ [Cell.list []]).length=Jc.length+1:=by simp
 rw[e1];have hit:(Jc++ [Cell.list []]++ [Cell.list [D.loc Jc.length,D.none]])[Jc.length]?=some (.list []):=by simp
 have hbk:(Jc++ [Cell.list []]++ [Cell.list [D.loc Jc.length,D.none]])[Jc.length+1]?=some (.list [D.loc Jc.length,D.none]):=by rw[<-e1];exact au _
 have Ie:=(Id.qR [Cell.list []]).qR [Cell.list [D.loc Jc.length,D.none]];replace acd:=ag (t:=[Cell.list [D.loc Jc.length,D.none]]) (ag (t:=[Cell.list []]) acd);replace adcd:=ag (t:=[Cell.list [D.loc Jc.length,D.none]]) (ag (t:=[Cell.list []]) adcd);replace ab:=ag (t:=[Cell.list [D.loc Jc.length,D.none]]) (ag (t:=[Cell.list []]) ab);replace abx:=ag (t:=[Cell.list [D.loc Jc.length,D.none]]) (ag (t:=[Cell.list []]) abx);replace ahd:=ag (t:=[Cell.list [D.loc Jc.length,D.none]]) (ag (t:=[Cell.list []]) ahd);replace arg:=ag (t:=[Cell.list [D.loc Jc.length,D.none]]) (ag (t:=[Cell.list []]) arg);have lz:(Jc++ [Cell.list []]++ [Cell.list [D.loc Jc.length,D.none]]).length=Jc.length+2:=by simp
 generalize Jc++ [Cell.list []]++ [Cell.list [D.loc Jc.length,D.none]]=Jd at*;have If:fq J (Jd.set (J9.length+1) (.list ([]++ [D.loc (Jc.length+1)]))) (J.length+1) J.length 570 _:=⟨by rw[yB (by exact(ar4 0x11111010131170114022170641160542150445) l9 l4s l2s)];exact Ie.inst,by rw[yB (by exact(ar4 zCF) l9 l4s l2s)];exact Ie.at_,Ie.f.qE (by exact(ar4 0x11111140702170641160542150444) l9 l4s l2s) _,Ie.hm,Ie.hd,Ie.ne⟩
 have abl:=bj (c':=.list ([]++ [D.loc (Jc.length+1)])) ab;have sn:∀{l:Nat} {c:Cell},l≠J9.length+1->Jd[l]?=some c->(Jd.set (J9.length+1) (.list ([]++ [D.loc (Jc.length+1)])))[l]?=some c:=λh g=>by rw[yB (Ne.symm h)];exact g
 replace hit:=sn (by exact(ar4 0x11111010131150726746402150445) la fb ec) hit;replace hbk:=sn (by exact(ar4 0x11111010131150117026746402150445) la fb ec) hbk;replace acd:=sn (by exact(ar3 zCG) la hcd) acd;replace adcd:=sn (by exact(ar3 zCG) la hdcd) adcd;replace abx:=sn (by exact(ar3 0x1111010131140641160542150444) l9 l4s) abx;replace ahd:=sn (by exact(ar2 0x111010131140542150443) l9) ahd;replace arg:=sn (by exact(ar3 zCG) la hrg) arg;have lf:(Jd.set (J9.length+1) (.list ([]++ [D.loc (Jc.length+1)]))).length=Jc.length+2:=by rw[List.length_set];exact lz
 clear sn;generalize Jd.set (J9.length+1) (.list ([]++ [D.loc (Jc.length+1)]))=Je at*;lk;refine at_ (v:=.loc cd) If.inst If.at_ (by k_go) (by k_go) rfl ?_;lk;refine at_ (v:=.loc (J9.length+1)) acd adcd (by k_go) (by rfl) rfl ?_;lk;refine qd (m:=1) (len_list abl (lb rfl)) ?_;lk;w_cond If;intro Jf ef pf Ig;lk;have sn:∀{l:Nat} {c:Cell},l≠J.length->Je[l]?=some c->Jf[l]?=some c:=λh g=>(pf _ h).trans g;refine⟨rfl,q (alz (J.length+1) J.length cd dcd rg (J9.length+1) J4.length kn J2.length tf dtf lo wd dwd (Jc.length+1) Jc.length) J6.length Jf ⟨?_,?_,hb,by show 0<1;decide,by show 0+4090<=4096;decide,by show 1+4090<=4096;decide,λi=>by show 0+4090<=4096;decide⟩ Ig.f ?_ rfl⟩
 ·intro r hv
  induction r with
  | st=>exact Ig.inst
  | dst=>exact(Eq.trans Ig.at_ (congrArg (λes=>some (Cell.dictS es)) (by k_go)))
  | cd=>exact sn (l:=cd) (by exact(ar6 zA6) la hcd l9 l4s l2s) acd
  | dcd=>exact sn (l:=dcd) (by exact(ar6 zA6) la hdcd l9 l4s l2s) adcd
  | rg=>exact sn (l:=rg) (by exact(ar6 zA6) la hrg l9 l4s l2s) arg
  | bl=>exact sn (l:=J9.length+1) (by exact(ar4 zCF) l9 l4s l2s) abl
  | hd=>exact sn (l:=J4.length) (by exact(ar3 0x1111010136422160541150444) l4s l2s) ahd
  | kn=>exact Ig.f.at h7
  | bx=>exact sn (l:=J2.length) (by exact(ar2 0x111010135422150443) l2s) abx
  | tf=>exact Ig.f.at h3
  | dtf=>exact Ig.f.at h4
  | lo=>exact Ig.f.at h5
  | wd=>exact Ig.f.at h1
  | dwd=>exact Ig.f.at h2
  | bk i=>exact sn (l:=Jc.length+1) (by exact(ar7 0x1111111101013a1170221a0941190842180546746402150448) la fb ec l9 l4s l2s) hbk
  | it i=>exact sn (l:=Jc.length) (by exact(ar7 0x1111111101013a7221a0941190842180546746402150448) la fb ec l9 l4s l2s) hit
 ·exact λr r' hv hv' he=>ajm (al0 o1 o2 o3 n1 n2 b7 rfl l2s l4s (by exact(ar2 0x111140512150442) l9) (by exact(ar3 zCH) la hcd) (by exact(ar3 zCH) la hdcd) (by exact(ar3 zCH) la hrg) (by exact(ar3 zBP) lcd ec) (by exact(ar3 zBP) ldcd ec) (by exact(ar3 zBP) lrg ec) necd nrc nrg rfl) (λi h=>Nat.lt_one_iff.mp (by subst h;exact hv)) (λi h=>Nat.lt_one_iff.mp (by subst h;exact hv)) (λi h=>Nat.lt_one_iff.mp (by subst h;exact hv')) (λi h=>Nat.lt_one_iff.mp (by subst h;exact hv')) he
 ·intro r hv hl;have z2:=Nat.le_of_lt l2;have z4:=Nat.le_of_lt l4;have z9:J.length<=J9.length:=l9▸yK z4 (Nat.le_add_right _ _);have za:J.length<=Ja.length:=la▸yK z9 (Nat.le_add_right _ _);have zc:J.length<=Jc.length:=by exact ec▸yK za fb
  have no:∀{x:Nat} {P:Prop},J.length<=x->x<J.length->P:=λa b=>absurd b (Nat.not_lt.mpr a)
  induction r with
  | st=>exact no (Nat.le_succ _) hl
  | dst=>exact no (yE _) hl
  | cd=>exact no (yK za hcd) hl
  | dcd=>exact no (yK za hdcd) hl
  | rg=>exact no (yK za hrg) hl
  | bl=>exact no (Nat.le_succ_of_le z9) hl
  | hd=>exact no z4 hl
  | bx=>exact no z2 hl
  | bk i=>exact no (Nat.le_succ_of_le zc) hl
  | it i=>exact no zc hl
  | lo=>exact .inl rfl
  | wd=>exact .inr (.inl rfl)
  | dwd=>exact .inr (.inr (.inl rfl))
  | tf=>exact .inr (.inr (.inr (.inl rfl)))
  | dtf=>exact .inr (.inr (.inr (.inr (.inl rfl))))
  | kn=>exact .inr (.inr (.inr (.inr (.inr rfl))))
end
section
noncomputable def LS.take(X:LS)(i:Nat)(ty:D):LS:={X.qA ty with held:=putK X.held i (.int X.qO.length)}
noncomputable def zeroOf:Nat->D
 | 2=> .bool false
 | 3=> .tup [k "array",.tup [.int 0,.int 0]]
 | Y=> .int 0
end
theorem dg{α:Type}[DecidableEq α](l:List (α×D))(x:α)(v:D):atK (putK l x v) x=some v:=by
 unfold putK;split
 ·rename_i h;unfold atK
  induction l with
  | nil=>simp at h
  | cons e l ih=>
   by_cases he:e.1=x
   ·simp[he]
   ·simp only[List.any_cons,he,decide_false,Bool.false_or] at h;simp only[List.map_cons,he,if_false,List.find?_cons,decide_false];exact ih h
 ·rename_i h;unfold atK;have:l.find? (λe=>decide (e.1=x))=none:=by
   rw[List.find?_eq_none];intro e he hx;exact h (List.any_eq_true.mpr ⟨e,he,hx⟩)
  rw[List.find?_append,this];simp
section
variable{J:ac}{loc:Ro->Nat}{X:LS}{n:Nat}{Q:KD}
theorem nTI{x:List D}{y:Int}(h:1<y/\y<=8/\0<x.length/\x.length<=8)(q:Q (.tup (rep x y.toNat)) J):Wr (oq J .Mult (.tup x) (.int y)) Q:=wr (congrArg (Option.map λz=>(z,J)) (if_pos h)) q
theorem ajn{ty:D}{i:Nat}{K:ac->Prop}(L:LR J loc (X.qA ty))(q:∀J',LR J' loc (X.take i ty)->Up J loc (X.qA ty) J' loc (X.take i ty)->K J'):K (J.set (loc .hd) (.dictI (putK X.held i (.int X.qO.length)))):=by
 obtain⟨L',U⟩:=L.set (r:=.hd) (X':=X.take i ty) trivial rfl rfl (λr' Y h=>by cases r'<;>first | rfl | exact(h rfl).elim) rfl L.here L.b1 (yE _) L.b4;exact q _ L' U
theorem ajo(L:LR J loc X){i:Nat}{ty x:D}(hi:loL[i]?=some (.tup [x,ty]))(hp:ao ty=true)(hb:0<X.qQ)(hh:X.held.length<=100)(q:∀J',LR J' loc (X.take i (if i=1 then .tup [k "ptr",ty] else ty))->Up J loc X J' loc (X.take i (if i=1 then .tup [k "ptr",ty] else ty))->Q (.int X.qO.length) J'):Wk (ak T0 (n+3) (.val (.ref 490)) [.loc (loc .st),.int i] J) Q:=by
 have h4:i<4:=ae hi;refine wC (fnS 67 11) ["self","local"] ?_;lk;refine qi (i:=i) L hi ?_;lk;refine i9 L ?_;by_cases h1:i=1
 ·subst h1;rw[if_pos rfl] at q;lk;refine fc L (ty:=.tup [k "ptr",ty]) (by rfl) hb λJ1 L1 U1=> ?_;lk;refine iDI (L1.has .hd trivial) (aj (by show X.held.length<=5000;exact(ar1 zAJ) hh)) ?_;refine ajn (i:=1) L1 λJ2 L2 U2=> ?_;lk;refine sDI (L2.has .hd trivial) (dg ..) ?_;lk;exact q _ L2 (U1.trans U2)
 ·rw[if_neg h1] at q;rw[show [(1:Int)].contains (i:Int)=false by simp;exact λe=>h1 (Int.ofNat.inj e)];lk;refine fc L hp hb λJ1 L1 U1=> ?_;lk;refine iDI (L1.has .hd trivial) (aj (by show X.held.length<=5000;exact(ar1 zAJ) hh)) ?_;refine ajn (i:=i) L1 λJ2 L2 U2=> ?_;lk;refine sDI (L2.has .hd trivial) (dg ..) ?_;lk;exact q _ L2 (U1.trans U2)
theorem ap9(L:LR J loc X){i:Nat}{ty x:D}(hi:loL[i]?=some (.tup [x,ty]))(q:Q (.tup [k "const",ty,zeroOf i]) J):Wk (ak T0 (n+6) (.val (.ref 532)) [.loc (loc .st),ty] J) Q:=by
 have h4:i<4:=ae hi;refine wC (fnS 67 17) ["self","told_type"] ?_;rcases i with _ | _ | _ | _ | i
 ·cases hi;lk;refine wC (fnA 8) ["world","T"] ?_;lk;refine gv L (by rfl) ?_;lk;exact q
 ·cases hi;lk;refine wC (fnA 8) ["world","T"] ?_;lk;refine gv L (by rfl) ?_;lk;exact q
 ·cases hi;lk;refine wC (fnA 8) ["world","T"] ?_;lk;refine gv L (by rfl) ?_;lk;exact q
 ·cases hi;lk;refine wC (fnA 8) ["world","T"] ?_;lk;refine gv L (by rfl) ?_;lk;refine wC (fnA 8) ["world","T"] ?_;lk;refine gv L (by rfl) ?_;lk;refine nTI (by simp) ?_;lk;exact q
 ·exact((ar1 zCC) h4).elim
@[simp] theorem m497:T0.meth 570 (so "begin_local")=some (.val (.ref 497)):=by k_go
@[simp] theorem m518:T0.meth 570 (so "set_local")=some (.val (.ref 518)):=by k_go
section
noncomputable def LS.beg(X:LS)(i:Nat)(ty:D):LS:=(X.take i ty).put (.tup [k "move",.int X.qO.length,.tup [k "const",ty,zeroOf i]])
noncomputable def LS.beg1(X:LS)(ty:D):LS:=((X.take 1 (.tup [k "ptr",ty])).site).put (.tup [k "new",.int X.qO.length,ty,az (X.qP+1)])
end
theorem z0(L:LR J loc X){i:Nat}{ty x:D}(hi:loL[i]?=some (.tup [x,ty]))(hp:ao ty=true)(hb:1<X.qQ)(hh:X.held.length<=100)(hn:atK X.held (i:Int)=none)(h1:i≠1)(q:∀J',LR J' loc (X.beg i ty)->Up J loc X J' loc (X.beg i ty)->Q .none J'):Wk (ak T0 (n+7) (.val (.ref 497)) [.loc (loc .st),.int i] J) Q:=by
 have h4:i<4:=ae hi;refine wC (fnS 67 12) ["self","local"] ?_;lk;refine qi (i:=i) L hi ?_;lk;refine cK (t:=false) ((inK (L.has .hd trivial)).trans (by rw[hn];rfl)) ?_;lk;refine ajo L hi hp ((ar1 0x11401141112) hb) hh λJ1 L1 U1=> ?_;rw[if_neg h1] at L1 U1;lk;refine i9 L1 ?_;rw[show [(1:Int)].contains (i:Int)=false by simp;exact λe=>h1 (Int.ofNat.inj e)];lk;refine ap9 L1 hi ?_;lk;refine fh L1 rfl (by show 0<X.qQ - 1;exact(ar2 zCB) hb aT) λJ2 L2 U2=> ?_;lk;exact q _ L2 (U1.trans U2)
theorem ajp(L:LR J loc X){ty x:D}(hi:loL[1]?=some (.tup [x,ty]))(hp:ao ty=true)(hb:1<X.qQ)(hh:X.held.length<=100)(hn:atK X.held 1=none)(q:∀J',LR J' loc (X.beg1 ty)->Up J loc X J' loc (X.beg1 ty)->Q .none J'):Wk (ak T0 (n+7) (.val (.ref 497)) [.loc (loc .st),.int 1] J) Q:=by
 refine wC (fnS 67 12) ["self","local"] ?_;lk;refine qi (i:=1) L hi ?_;lk;refine cK (t:=false) ((inK (L.has .hd trivial)).trans (by rw[hn];rfl)) ?_;lk;refine ajo (i:=1) L hi hp ((ar1 0x11401141112) hb) hh λJ1 L1 U1=> ?_;rw[if_pos rfl] at L1 U1;lk;refine i9 L1 ?_;lk;refine om L1 λJ2 L2 U2=> ?_;lk;refine fh L2 rfl (by show 0<X.qQ - 1;exact(ar2 zCB) hb aT) λJ3 L3 U3=> ?_;lk;exact q _ L3 ((U1.trans U2).trans U3)
theorem ajq(L:LR J loc X){i:Nat}{v:D}{r:Int}(hp:ao v=true)(hi:i≠1)(hb:0<X.qQ)(hn:atK X.held (i:Int)=some (.int r))(q:∀J',LR J' loc (X.put (.tup [k "move",.int r,v]))->Up J loc X J' loc (X.put (.tup [k "move",.int r,v]))->Q .none J'):Wk (ak T0 (n+3) (.val (.ref 518)) [.loc (loc .st),.int i,v] J) Q:=by
 refine wC (fnS 67 15) ["self","local","operand"] ?_;lk;refine i9 L ?_;rw[show [(1:Int)].contains (i:Int)=false by simp;exact λe=>hi (Int.ofNat.inj e)];lk;refine sDI (L.has .hd trivial) hn ?_;lk;refine fh L rfl hb λJ2 L2 U2=> ?_;lk;exact q _ L2 U2
theorem aqa(L:LR J loc X){v:D}{r:Int}(hp:ao v=true)(hb:0<X.qQ)(hn:atK X.held 1=some (.int r))(q:∀J',LR J' loc (X.put (.tup [k "store",.tup [k "reg",.int r],v]))->Up J loc X J' loc (X.put (.tup [k "store",.tup [k "reg",.int r],v]))->Q .none J'):Wk (ak T0 (n+3) (.val (.ref 518)) [.loc (loc .st),.int 1,v] J) Q:=by
 refine wC (fnS 67 15) ["self","local","operand"] ?_;lk;refine i9 L ?_;lk;refine wC (fnS 67 13) ["self","local"] ?_;lk;refine sDI (L.has .hd trivial) hn ?_;lk;refine fh L rfl hb λJ2 L2 U2=> ?_;lk;exact q _ L2 U2
end
inductive Pt | p (o:Opd) | pp (a b:Opd) | x (d:D)
noncomputable def Pt.d:Pt->D
 | .p o=>o.d
 | .pp a b=> .tup [a.d,b.d]
 | .x d=>d
noncomputable def Pt.ops:Pt->List Opd
 | .p o=> [o]
 | .pp a b=> [a,b]
 | .x Y=> []
section
variable{J:ac}{n:Nat}{Q:KD}
theorem adv(o:Opd)(q:Q (.bool true) J):Wk (ak T0 (n+1) (.val (.ref 377)) [o.d] J) Q:=by
 refine wC (fnA 61) ["thing"] ?_
 induction o with
 | c ty v=>
  simp only[Opd.d];walk;exact q
 | r i=>
  simp only[Opd.d,rgD];walk;exact q
noncomputable def Wi(p:D)(l:List D):Prop:=∀(n:Nat) (J:ac) (Q:D->ac->Prop),(∀J' m,Fr J J'->J'[m]?=some (.list l)->J.length<=m->Q (.loc m) J')->Wk (ak T0 (n+3) (.val (.ref 382)) [p] J) Q
theorem aaa(o:Opd)(q:∀J' m,Fr J J'->J'[m]?=some (.list [o.d])->J.length<=m->Q (.loc m) J'):Wk (ak T0 (n+2) (.val (.ref 382)) [o.d] J) Q:=by
 have hp:=cq o;refine wC (fnA 62) ["thing"] ?_;walk;refine adv o ?_;walk;exact q _ _ (Fr.qR ..) (au _) (yE _)
theorem aqb(o:Opd):Wi o.d [o.d]:=λY Z U q=>aaa o q
theorem aqc(i:Int):Wi (.int i) []:=by
 intro n J Q q;refine wC (fnA 62) ["thing"] ?_;walk;refine wC (fnA 61) ["thing"] ?_;walk;exact q _ _ (Fr.qR ..) (au _) (yE _)
theorem al2:Wi .none []:=by
 intro n J Q q;refine wC (fnA 62) ["thing"] ?_;walk;refine wC (fnA 61) ["thing"] ?_;walk;exact q _ _ (Fr.qR ..) (au _) (yE _)
theorem aqd(s:Str):Wi (.str s) []:=by
 intro n J Q q;refine wC (fnA 62) ["thing"] ?_;walk;refine wC (fnA 61) ["thing"] ?_;walk;exact q _ _ (Fr.qR ..) (au _) (yE _)
theorem atu:Wi i8 []:=by
 intro n J Q q;refine wC (fnA 62) ["thing"] ?_;simp only[i8];walk;refine wC (fnA 61) ["thing"] ?_;walk;refine wC (fnA 61) ["thing"] ?_;walk;refine wC (fnA 61) ["thing"] ?_;walk;exact q _ _ (Fr.qR ..) (au _) (yE _)
theorem atv:Wi bo []:=by
 intro n J Q q;refine wC (fnA 62) ["thing"] ?_;simp only[bo];walk;refine wC (fnA 61) ["thing"] ?_;walk;refine wC (fnA 61) ["thing"] ?_;walk;exact q _ _ (Fr.qR ..) (au _) (yE _)
theorem aqe:Wi bp []:=by
 intro n J Q q;refine wC (fnA 62) ["thing"] ?_;simp only[bp,i8];walk;refine wC (fnA 61) ["thing"] ?_;walk;refine wC (fnA 61) ["thing"] ?_;walk;refine wC (fnA 61) ["thing"] ?_;walk;exact q _ _ (Fr.qR ..) (au _) (yE _)
theorem aqf:Wi gj []:=by
 intro n J Q q;refine wC (fnA 62) ["thing"] ?_;simp only[gj,i8];walk;refine wC (fnA 61) ["thing"] ?_;walk;refine wC (fnA 61) ["thing"] ?_;walk;refine wC (fnA 61) ["thing"] ?_;walk;refine wC (fnA 61) ["thing"] ?_;walk;exact q _ _ (Fr.qR ..) (au _) (yE _)
theorem aqg:Wi bw []:=by
 intro n J Q q;refine wC (fnA 62) ["thing"] ?_;simp only[bw];walk;refine wC (fnA 61) ["thing"] ?_;walk;refine wC (fnA 61) ["thing"] ?_;walk;refine wC (fnA 61) ["thing"] ?_;walk;exact q _ _ (Fr.qR ..) (au _) (yE _)
theorem al3{s:Nat}:Wi (az s) []:=by
 intro n J Q q;refine wC (fnA 62) ["thing"] ?_;simp only[az];walk;refine wC (fnA 61) ["thing"] ?_;walk;refine wC (fnA 61) ["thing"] ?_;walk;refine wC (fnA 61) ["thing"] ?_;walk;exact q _ _ (Fr.qR ..) (au _) (yE _)
end
section
variable{ρ:af}{J:ac}{QS:KS}
theorem aab{step:D->af->ac->KS->Prop}{L:List D}(xs:List Str)(Inv:Nat->af->ac->Prop)(hs:∀i x τ J Q',L[i]?=some x->Inv i τ J->(∀ρ' J',Ag xs ρ ρ'->Inv (i+1) ρ' J'->Q' none ρ' J')->step x (exc xs ρ τ) J Q')
  (h0:Inv 0 ρ J) (q:∀τ J',Inv L.length τ J'->QS none (exc xs ρ τ) J'):turns (.items L) step (L.length+1) 0 ρ J QS:=by
 have key:∀f i ρ' J,f+i=L.length->Ag xs ρ ρ'->Inv i ρ' J->turns (.items L) step (f+1) i ρ' J QS:=by
  intro f
  induction f with
  | zero=>
   intro i ρ' J h a h1;refine asr (List.getElem?_eq_none ((ar2 0x114505401042) h)) ?_;have:i=L.length:=by exact(ar2 0x11115425401022) h
   subst this;rw[a.eq];exact q _ _ h1
  | succ f ih=>
   intro i ρ' J h a h1;have hi:i<L.length:=by exact(ar3 0x11651651140022) h
   refine apa (yC hi) ?_;rw[a.eq];exact hs i _ ρ' J _ (yC hi) h1 λρ' J' a h2=>ktN (ih (i+1) ρ' J' ((ar3 zCI) h) a h2)
 exact key L.length 0 ρ J ((ar1 0x114014021)) (λY Z=>rfl) h0
end
section
variable{J:ac}{n:Nat}{Q:KD}
theorem atw(a b:Opd):Wi (.tup [a.d,b.d]) [a.d,b.d]:=by
 intro n J Q q;have hpa:=cq a;have hpb:=cq b;have:∃x l,a.d=.tup (k x::l):=by cases a<;>exact⟨_,_,rfl⟩
 obtain⟨x,l,ha⟩:=this;refine wC (fnA 62) ["thing"] ?_;rw[ha];walk;refine wC (fnA 61) ["thing"] ?_;walk;rw[<-ha];have hm:(J++ [Cell.list []])[J.length]?=some (.list []):=au _;walk;refine adv a ?_;walk;refine mtL hm (.inr (.inl rfl)) ?_;walk;refine aaa a λJ1 m1 f1 g1 l1=> ?_;have hm1:=f1.at hm;have lm:J.length<(J++ [Cell.list []]).length:=by simp
 walk;refine alh hm1 g1 ((ar3 zA2) l1 lm) (lb rfl) ?_;have hm2:=bj (c':=.list ([]++ [a.d])) hm1;have f2:=((Fr.qR J [Cell.list []]).trans f1).qE (yE _) (.list ([]++ [a.d]));refine kbN (wB0 (kbN (wB0 (wT1 rfl ?_))));walk;refine adv b ?_;walk;refine mtL hm2 (.inr (.inl rfl)) ?_;walk;refine aaa b λJ3 m3 f3 g3 l3=> ?_;have hm3:=f3.at hm2;have lm3:=ae hm2;walk;refine alh hm3 g3 ((ar3 zA2) l3 lm3) (lb rfl) ?_;have hm4:=bj (c':=.list ([]++ [a.d]++ [b.d])) hm3;have f4:=(f2.trans f3).qE (yE _) (.list ([]++ [a.d]++ [b.d]));refine kbN (wB0 (kbN (wB0 (wT0 rfl ?_))));walk;exact q _ _ f4 hm4 (yE _)
structure jh(p:Pt):Prop where
 w:Wi p.d (p.ops.map Opd.d)
 pl:ao p.d=true
noncomputable def r6(ps:List Pt):List D:=(ps.flatMap Pt.ops).map Opd.d
theorem aqh{op:D}{ps:List Pt}(h:∀p∈ps,jh p)(hl:ps.length<=100)(q:∀J' m,Fr J J'->J'[m]?=some (.list (r6 ps))->J.length<=m->Q (.loc m) J'):Wk (ak T0 (n+4) (.val (.ref 389)) [.tup (op::ps.map Pt.d)] J) Q:=by
 refine wC (fnA 63) ["instruction"] ?_;walk;refine slT (r:=ps.map Pt.d) (aj (by simp;exact(ar1 0x11138742406422402) hl)) (aix ⟨by decide,Nat.le_add_left _ _⟩) ?_;have hm:(J++ [Cell.list []])[J.length]?=some (.list []):=au _;refine aab [so "part"] (λi Y J1=>Fr J J1/\J1[J.length]?=some (.list (r6 (ps.take i)))) ?_ ⟨Fr.qR ..,hm⟩ ?_
 ·rintro i x τ J1 Q' hx ⟨h2,h3⟩ q';rw[List.getElem?_map] at hx;obtain⟨p,hp,rfl⟩:=yA hx;have hpp:=(h p (List.mem_of_getElem? hp)).pl;walk;walk;refine mtL h3 (.inr (.inl rfl)) ?_;walk;refine(h p (List.mem_of_getElem? hp)).w _ _ _ λJ2 m f2 g2 l2=> ?_;walk;have h3':=f2.at h3;have l3:=ae h3;have hlen:(r6 (ps.take i)).length+(p.ops.map Opd.d).length<=5000:=by
   have e1:∀l:List Pt,(r6 l).length<=2*l.length:=by
    intro l
    induction l with
    | nil=>simp[r6]
    | cons a l ih=>
             simp only[r6,List.flatMap_cons,List.map_append,List.length_append,List.length_map,List.length_cons] at ih⊢;have z1:a.ops.length<=2:=by cases a<;>simp[Pt.ops]
             exact(ar3 0x1111150023460021605023403) ih z1
   have z2:=e1 (ps.take i);have e2:(ps.take i).length<=ps.length:=by simp;exact(ar2 zAV) aM
   have z3:p.ops.length<=2:=by cases p<;>simp[Pt.ops]
   simp only[List.length_map];exact(ar4 0x11212138842750021704606023506422405) hl z2 e2 z3
  refine alh h3' g2 ((ar3 zA2) l2 l3) (aj hlen) ?_;have e:r6 (ps.take i)++p.ops.map Opd.d=r6 (ps.take (i+1)):=by
   rw[List.take_add_one,hp];simp[r6]
  rw[e];walk;exact q' _ _ (Ag.upd (by k_go) Ag.exc) ⟨(h2.trans f2).qE (yE _) _,bj h3'⟩
 ·rintro τ J1 ⟨h2,h3⟩;rw[List.length_map,List.take_length] at h3;walk;exact q _ _ h2 h3 (yE _)
end
section
variable{ρ:af}{J:ac}{QS:Option D->af->ac->Prop}
theorem qk{step:D->af->ac->KS->Prop}{m:Nat}{L:List D}(xs:List Str)(Inv:Nat->af->ac->Prop)(hl:∀i ρ J,Inv i ρ J->J[m]?=some (.list L))(hs:∀i x τ J Q',L[i]?=some x->Inv i τ J->(∀ρ' J',Ag xs ρ ρ'->Inv (i+1) ρ' J'->Q' none ρ' J')->step x (exc xs ρ τ) J Q')
  (h0:Inv 0 ρ J) (q:∀τ J',Inv L.length τ J'->QS none (exc xs ρ τ) J') {f:Nat} (hf:f=L.length+1):turns (.live m) step f 0 ρ J QS:=by
 subst hf;have key:∀f i ρ' J,f+i=L.length->Ag xs ρ ρ'->Inv i ρ' J->turns (.live m) step (f+1) i ρ' J QS:=by
  intro f
  induction f with
  | zero=>
   intro i ρ' J h a h1;refine wT0 (saL (hl i ρ' J h1) (List.getElem?_eq_none ((ar2 0x114505401042) h))) ?_;have:i=L.length:=by exact(ar2 0x11115425401022) h
   subst this;rw[a.eq];exact q _ _ h1
  | succ f ih=>
   intro i ρ' J h a h1;have hi:i<L.length:=by exact(ar3 0x11651651140022) h
   refine wT1 (saL (hl i ρ' J h1) (yC hi)) ?_;rw[a.eq];exact hs i _ ρ' J _ (yC hi) h1 λρ' J' a h2=>ktN (ih (i+1) ρ' J' ((ar3 zCI) h) a h2)
 exact key L.length 0 ρ J ((ar1 0x114014021)) (λY Z=>rfl) h0
end
theorem nh{A B:Prop}{b:Bool}(h:b=false)(q:B):Ki A B b:=by subst h;exact q
theorem adw{A B:Prop}{b:Bool}(h:b=true)(q:A):Ki A B b:=by subst h;exact q
noncomputable def ql:List Opd->List D
 | []=> []
 | .r n::l=> .int n::ql l
 | .c Y Z::l=>ql l
theorem ace(a b:List Opd):ql (a++b)=ql a++ql b:=by
 induction a with
 | nil=>rfl
 | cons x a ih=>cases x<;>first | exact ih | exact congrArg (List.cons _) ih
theorem ajr(a:List Opd):(ql a).length<=a.length:=by
 induction a with
 | nil=>exact yE _
 | cons x a ih=>cases x<;>first | exact Nat.succ_le_succ ih | exact Nat.le_succ_of_le ih
inductive Wd1:String->Prop
 | move:Wd1 "move" | new:Wd1 "new" | load:Wd1 "load" | binary:Wd1 "binary" | unary:Wd1 "unary" | elem:Wd1 "elem" | struct:Wd1 "struct" | part:Wd1 "part"
 | makeslice:Wd1 "makeslice" | elemptr:Wd1 "elemptr" | makemap:Wd1 "makemap" | face:Wd1 "face"
section
variable{J:ac}{n:Nat}{Q:KD}
theorem w_un{w:String}(hw:w="store"\/w="mapset"){l:List D}(q:∀J' m,Fr J J'->Q (.loc m) J'):Wk (ak T0 (n+1) (.val (.ref 394)) [.tup (k w::l)] J) Q:=by
 refine wC (fnA 64) ["instruction"] ?_;rcases hw with rfl | rfl
 ·walk;exact q _ _ (Fr.qR ..)
 ·walk;exact q _ _ (Fr.qR ..)
theorem atx{w:String}(hw:Wd1 w){r:Int}{l:List D}(hl:l.length<=100)(q:∀J' m,Fr J J'->Q (.loc m) J'):Wk (ak T0 (n+1) (.val (.ref 394)) [.tup (k w::.int r::l)] J) Q:=by
 refine wC (fnA 64) ["instruction"] ?_;walk;refine nh (by induction hw<;>rfl) ?_;walk;refine nh (by induction hw<;>rfl) ?_;walk;refine nh (by induction hw<;>rfl) ?_;walk;refine nh (by induction hw<;>rfl) ?_;walk;refine slT (r:=[.int r]) (aj (by simp;exact(ar1 0x11138642406422402) hl)) (ant (a:=1) (b:=1+1) ⟨by decide,by decide,Nat.le_add_left _ _⟩) ?_;walk;refine ck (au _) (lb rfl) ?_;walk;exact q _ _ ((Fr.qR ..).qE (yE _) _)
theorem aty{w:String}(hw:w="mapget"\/w="assert"){r:Int}{t:D}(ht:t=.none\/∃i,t=.int i){l:List D}(hl:l.length<=100)(q:∀J' m,Fr J J'->Q (.loc m) J'):Wk (ak T0 (n+1) (.val (.ref 394)) [.tup (k w::.int r::t::l)] J) Q:=by
 refine wC (fnA 64) ["instruction"] ?_;walk;refine nh (by rcases hw with rfl | rfl<;>rfl) ?_;walk;refine nh (by rcases hw with rfl | rfl<;>rfl) ?_;walk;refine nh (by rcases hw with rfl | rfl<;>rfl) ?_;walk;refine adw (by rcases hw with rfl | rfl<;>rfl) ?_;walk;refine slT (r:=[.int r,t]) (aj (by simp;exact(ar1 0x11138542406422402) hl)) (ant (a:=1) (b:=1+2) ⟨by decide,by decide,Nat.le_add_left _ _⟩) ?_;walk;refine ck (au _) (lb rfl) ?_;have h2:=bj (c':=.list ([]++ [D.int r])) (au (J:=J) (Cell.list []));rcases ht with rfl | ⟨i,rfl⟩
 ·refine wT1 rfl ?_;walk;exact q _ _ ((Fr.qR ..).qE (yE _) _)
 ·refine wT1 rfl ?_;walk;refine ck h2 (lb rfl) ?_;walk;exact q _ _ (((Fr.qR ..).qE (yE _) _).qE (yE _) _)
structure Rw(w:String)(ps:List Pt):Prop where
 ok:∀p∈ps,jh p
 len:ps.length<=90
 wr:∀(n:Nat) (J:ac) (Q:D->ac->Prop),(∀J' m,Fr J J'->Q (.loc m) J')->Wk (ak T0 (n+1) (.val (.ref 394)) [.tup (k w::ps.map Pt.d)] J) Q
theorem aqi{w:String}{ps:List Pt}(R:Rw w ps)(q:∀J' m m2,Fr J J'->J'[m]?=some (.list (ql (ps.flatMap Pt.ops)))->J.length<=m->Q (.tup [.loc m,.loc m2]) J'):Wk (ak T0 (n+5) (.val (.ref 399)) [.tup (k w::ps.map Pt.d)] J) Q:=by
 have hL:=R.len;have e1:∀l:List Pt,(l.flatMap Pt.ops).length<=2*l.length:=by
  intro l
  induction l with
  | nil=>simp
  | cons a l ih=>
           simp only[List.flatMap_cons,List.length_append,List.length_cons];have z1:a.ops.length<=2:=by cases a<;>simp[Pt.ops]
           exact(ar3 0x1111150023460021605023403) ih z1
 have hlen:=e1 ps;refine wC (fnA 65) ["instruction"] ?_;walk;refine aqh R.ok ((ar1 0x116422405a22402) hL) λJ1 m f1 g1 l1=> ?_;walk;refine sdC g1 ?_;refine qk (L:=r6 ps) [so "one"] (λi Y J2=>Fr J1 J2/\J2[J1.length]?=some (.list (ql ((ps.flatMap Pt.ops).take i)))) (λi ρ J2 h=>h.1.at g1) ?_ ⟨Fr.qR ..,au _⟩ ?_ rfl
 ·rintro i x τ J2 Q' hx ⟨h1,h2⟩ q';unfold r6 at hx;rw[List.getElem?_map] at hx;obtain⟨o,ho,rfl⟩:=yA hx;have hpo:=cq o;have et:(ps.flatMap Pt.ops).take (i+1)=(ps.flatMap Pt.ops).take i++ [o]:=by rw[List.take_add_one,ho];rfl
  induction o with
  | c ty v=>
   simp only[Opd.d];walk;exact q' _ _ (Ag.upd (by k_go) Ag.exc) ⟨h1,by rw[et,ace];exact h2.trans (congrArg (λl=>some (Cell.list l)) (List.append_nil _).symm)⟩
  | r j=>
   simp only[Opd.d,rgD];walk;refine ck h2 (aj (by have z2:=ajr ((ps.flatMap Pt.ops).take i);have z3:=List.length_take_le' i (ps.flatMap Pt.ops);exact(ar4 0x11112138842605707604023505a22405) hL hlen z2 z3)) ?_;exact q' _ _ (Ag.upd (by k_go) Ag.exc) ⟨h1.qE (yE _) _,by rw[et,ace];exact bj h2⟩
 ·rintro τ J2 ⟨h1,h2⟩;have e:(r6 ps).length=(ps.flatMap Pt.ops).length:=by simp[r6]
  rw[e,List.take_length] at h2;walk;refine R.wr _ _ _ λJ3 m3 f3=> ?_;walk;exact q _ _ _ ((f1.trans h1).trans f3) (f3.at h2) f1.1
end
inductive Ct | l (xs:List D) | d (es:List (Int×D))
noncomputable def Ct.cell:Ct->Cell
 | .l xs=> .list xs
 | .d es=> .dictI es
structure Ms where
 cells:List (Int×D)
 objs:List Ct
 qP:List D
 pan:Option Str
noncomputable def v5(c o s:Nat)(p:Option Str):List (Str×D):=[(so "cells",.loc c),(so "objects",.loc o),(so "panic",pD p),(so "sites",.loc s)]
structure WR(J0 J:ac)(r c o s:Nat)(ol:List Nat)(M:Ms):Prop where
 run:J[r]?=some (.dictS (v5 c o s M.pan))
 cells:J[c]?=some (.dictI M.cells)
 objs:J[o]?=some (.list (ol.map D.loc))
 qP:J[s]?=some (.list M.qP)
 len:ol.length=M.objs.length
 ob:∀(i x:Nat) (ct:Ct),ol[i]?=some x->M.objs[i]?=some ct->J[x]?=some ct.cell
 nd:(r::c::o::s::ol).Nodup
 f:Fr J0 J
 ge:∀x∈r::c::o::s::ol,J0.length<=x
section
variable{J0 J:ac}{r c o s n:Nat}{ol:List Nat}{M:Ms}{Q:KD}
theorem WR.qR(W:WR J0 J r c o s ol M)(t:ac):WR J0 (J++t) r c o s ol M:=
 ⟨ag W.run,ag W.cells,ag W.objs,ag W.qP,W.len,λi x ct h g=>ag (W.ob i x ct h g),W.nd,W.f.trans (Fr.qR ..),W.ge⟩
theorem WR.ls(W:WR J0 J r c o s ol M):r≠c/\r≠o/\r≠s/\c≠o/\c≠s/\o≠s/\∀x∈ol,x≠r/\x≠c/\x≠o/\x≠s:=by
 have h:=W.nd;simp only[List.nodup_cons,List.mem_cons,not_or] at h;obtain⟨⟨h1,h2,h3,h4⟩,⟨h5,h6,h7⟩,⟨h8,h9⟩,h10,h11⟩:=h;exact⟨h1,h2,h3,h5,h6,h8,λx hx=>⟨λe=>h4 (e▸hx),λe=>h7 (e▸hx),λe=>h9 (e▸hx),λe=>h10 (e▸hx)⟩⟩
theorem WR.put(W:WR J0 J r c o s ol M)(cs:List (Int×D)):WR J0 (J.set c (.dictI cs)) r c o s ol {M with cells:=cs}:=by
 obtain⟨h1,h2,h3,h4,h5,h6,h7⟩:=W.ls;have ge:=W.ge;exact⟨by rw[yB (Ne.symm h1)];exact W.run,bj W.cells,by rw[yB h4];exact W.objs,by rw[yB h5];exact W.qP,W.len,
  λi x ct h g=>by rw[yB (Ne.symm (h7 x (List.mem_of_getElem? h)).2.1)];exact W.ob i x ct h g,W.nd,W.f.qE (ge c (.tail _ (.head _))) _,ge⟩
theorem WR.panic(W:WR J0 J r c o s ol M)(t:Str):WR J0 (J.set r (.dictS (putK (v5 c o s M.pan) (so "panic") (.str t)))) r c o s ol {M with pan:=some t}:=by
 obtain⟨h1,h2,h3,h4,h5,h6,h7⟩:=W.ls;have ge:=W.ge;have e:putK (v5 c o s M.pan) (so "panic") (.str t)=v5 c o s (some t):=by k_go
 rw[e];exact⟨bj W.run,by rw[yB h1];exact W.cells,by rw[yB h2];exact W.objs,by rw[yB h3];exact W.qP,W.len,
  λi x ct h g=>by rw[yB (Ne.symm (h7 x (List.mem_of_getElem? h)).1)];exact W.ob i x ct h g,W.nd,W.f.qE (ge r (.head _)) _,ge⟩
theorem WR.site(W:WR J0 J r c o s ol M)(l:List D):WR J0 (J.set s (.list l)) r c o s ol {M with qP:=l}:=by
 obtain⟨h1,h2,h3,h4,h5,h6,h7⟩:=W.ls;have ge:=W.ge;exact⟨by rw[yB (Ne.symm h3)];exact W.run,by rw[yB (Ne.symm h5)];exact W.cells,by rw[yB (Ne.symm h6)];exact W.objs,bj W.qP,W.len,
  λi x ct h g=>by rw[yB (Ne.symm (h7 x (List.mem_of_getElem? h)).2.2.2)];exact W.ob i x ct h g,W.nd,W.f.qE (ge s (.tail _ (.tail _ (.tail _ (.head _))))) _,ge⟩
theorem WR.setOb(W:WR J0 J r c o s ol M){i x:Nat}(hx:ol[i]?=some x)(ct:Ct):WR J0 (J.set x ct.cell) r c o s ol {M with objs:=M.objs.set i ct}:=by
 obtain⟨h1,h2,h3,h4,h5,h6,h7⟩:=W.ls;obtain⟨a1,a2,a3,a4⟩:=h7 x (List.mem_of_getElem? hx);have ge:=W.ge;have hi:=ae hx;have hi2:i<M.objs.length:=W.len▸hi;have nd:ol.Nodup:=by have h:=W.nd;simp only[List.nodup_cons] at h;exact h.2.2.2.2
 refine⟨by rw[yB a1];exact W.run,by rw[yB a2];exact W.cells,by rw[yB a3];exact W.objs,by rw[yB a4];exact W.qP,by simpa using W.len,
  λj y ct' h g=> ?_,W.nd,W.f.qE (ge x (by simp[List.mem_of_getElem? hx])) _,ge⟩
 by_cases e:i=j
 ·subst e;rw[hx] at h;cases h;rw[List.getElem?_set_self hi2] at g;cases g;exact bj (W.ob i x _ hx (yC hi2))
 ·rw[yB e] at g;have hne:x≠y:=λz=>by
   subst z;have h1:=(yS hx).2;have h2:=(yS h).2;exact e ((List.getElem_inj nd).mp (h1.trans h2.symm))
  rw[yB hne];exact W.ob j y ct' h g
theorem WR.lt(W:WR J0 J r c o s ol M):∀x∈r::c::o::s::ol,x<J.length:=by
 intro x hx;simp only[List.mem_cons] at hx;rcases hx with h | h | h | h | h
 ·exact h▸ae W.run
 ·exact h▸ae W.cells
 ·exact h▸ae W.objs
 ·exact h▸ae W.qP
 ·obtain⟨i,hi⟩:=List.getElem?_of_mem h;have:i<M.objs.length:=W.len▸ae hi;exact ae (W.ob i x _ hi (yC this))
theorem ajs{l:List Nat}{x:Nat}(h:l.Nodup)(k:∀y∈l,y<x):(l++ [x]).Nodup:=
 List.nodup_append.mpr ⟨h,List.nodup_cons.mpr ⟨List.not_mem_nil,List.nodup_nil⟩,λa ha b hb=>by cases yG hb;exact yO (k a ha)⟩
theorem WR.newOb(W:WR J0 J r c o s ol M)(ct:Ct):WR J0 ((J++ [ct.cell]).set o (.list (ol.map D.loc++ [.loc J.length]))) r c o s (ol++ [J.length]) {M with objs:=M.objs++ [ct]}:=by
 obtain⟨h1,h2,h3,h4,h5,h6,h7⟩:=W.ls;have ge:=W.ge;have lr:=ae W.run;have lc:=ae W.cells;have lo:=ae W.objs;have ls:=ae W.qP;have lx:∀x∈ol,x<J.length:=λx hx=>by
  obtain⟨i,hi⟩:=List.getElem?_of_mem hx;have:i<M.objs.length:=W.len▸ae hi;exact ae (W.ob i x _ hi (yC this))
 refine⟨by rw[yB (Ne.symm h2)];exact ag W.run,by rw[yB (Ne.symm h4)];exact ag W.cells,by rw[bj (ag W.objs)];simp,by rw[yB h6];exact ag W.qP,by simp[W.len],
  λj y ct' h g=> ?_,?_,(W.f.trans (Fr.qR ..)).qE (ge o (.tail _ (.tail _ (.head _)))) _,?_⟩
 ·by_cases hj:j<ol.length
  ·rw[List.getElem?_append_left hj] at h;rw[List.getElem?_append_left (by rw[<-W.len];exact hj)] at g;rw[yB (Ne.symm (h7 y (List.mem_of_getElem? h)).2.2.1)];exact ag (W.ob j y ct' h g)
  ·rw[List.getElem?_append_right (by exact(ar2 zAV) (Nat.le_of_not_lt hj))] at h;rw[List.getElem?_append_right (by have:=W.len;exact(ar3 0x1115606445403) (Nat.le_of_not_lt hj) this)] at g;have e1:j - ol.length=0:=by have:=ae h;simp at this;exact(ar1 0x1111014201422) this
   rw[e1] at h;rw[show j - M.objs.length=0 by have:=W.len;exact(mS (λq1=>((ar1 0x1111014201422) q1)) (λq2=>((ar5 0x10000111110172540808670265201425) e1 this q2 aT)))] at g;cases h;cases g;rw[yB (yO lo)];exact au _
 ·exact ajs W.nd W.lt
 ·intro x hx;rcases List.mem_append.mp (show x∈(r::c::o::s::ol)++ [J.length] from hx) with h | h
  ·exact ge x h
  ·cases yG h;exact W.f.1
noncomputable def vl(M:Ms):Opd->Option D
 | .c Y v=>some v
 | .r i=>atK M.cells (i:Int)
theorem kj(W:WR J0 J r c o s ol M){a:Opd}{v:D}(h:vl M a=some v)(q:Q v J):Wk (ak T0 (n+1) (.val (.ref 732)) [.loc r,a.d] J) Q:=by
 refine wC (fnA 91) ["run","operand"] ?_
 induction a with
 | c ty w=>
  cases h;simp only[Opd.d];walk;exact q
 | r i=>
  simp only[Opd.d,rgD];walk;refine sDS W.run rfl ?_;walk;refine sDI W.cells h ?_;walk;exact q
end
inductive Xp:D->Prop
 | s (x:Str):Xp (.str x)
 | i (x:Int):Xp (.int x)
 | t (w:String) (l:List D) (h:iv (k w) [.str (so "reg"),.str (so "const")]=some false):Xp (.tup (k w::l))
 | p (a:List D) (l:List D):Xp (.tup (.tup a::l))
noncomputable def Vs(M:Ms)(l:List Pt):List D->Prop:=l.rec (motive:=λY=>List D->Prop) (λvs=>vs=[]) λp Y R vs=>Pt.casesOn (motive:=λY=>Prop) p (λa=> ∃v ws,vs=v::ws/\vl M a=some v/\ao v=true/\R ws) (λY Z=>R vs) λd=>Xp d/\R vs
section
variable{M:Ms}{a b:Opd}{v d:D}{vs:List D}{ps:List Pt}
theorem Vs.nil:Vs M [] []:=rfl
theorem Vs.p(h:vl M a=some v)(k:ao v=true)(q:Vs M ps vs):Vs M (.p a::ps) (v::vs):=⟨v,vs,rfl,h,k,q⟩
theorem Vs.x(h:Xp d)(q:Vs M ps vs):Vs M (.x d::ps) vs:=⟨h,q⟩
theorem Vs.pp(q:Vs M ps vs):Vs M (.pp a b::ps) vs:=(q:)
theorem Vs.ind{C:List Pt->List D->Prop}(n:C [] [])(p:∀{a v ps vs},vl M a=some v->ao v=true->C ps vs->C (.p a::ps) (v::vs))(x:∀{d ps vs},Xp d->C ps vs->C (.x d::ps) vs)
  (y:∀{a b ps vs},C ps vs->C (.pp a b::ps) vs) {ps vs} (V:Vs M ps vs):C ps vs:=by
 induction ps generalizing vs with
 | nil=>cases(V:vs=[]);exact n
 | cons a ps ih=>
  induction a with
  | p a=>obtain⟨v,ws,rfl,g1,g2,g⟩:=V;exact p g1 g2 (ih g)
  | x d=>exact x V.1 (ih V.2)
  | pp a b=>exact y (ih V)
end
section
variable{J0 J:ac}{r c o s n m:Nat}{ol:List Nat}{M:Ms}{Q:KD}
theorem WR.out(W:WR J0 J r c o s ol M)(h:∀x∈r::c::o::s::ol,x≠m)(hm:J0.length<=m)(x:Cell):WR J0 (J.set m x) r c o s ol M:=
 ⟨by rw[yB (Ne.symm (h r (.head _)))];exact W.run,by rw[yB (Ne.symm (h c (.tail _ (.head _))))];exact W.cells,by rw[yB (Ne.symm (h o (.tail _ (.tail _ (.head _)))))];exact W.objs,by rw[yB (Ne.symm (h s (.tail _ (.tail _ (.tail _ (.head _))))))];exact W.qP,W.len,
  λi y ct g g'=>by rw[yB (Ne.symm (h y (.tail _ (.tail _ (.tail _ (.tail _ (List.mem_of_getElem? g)))))))];exact W.ob i y ct g g',W.nd,W.f.qE hm _,W.ge⟩
theorem WR.qV(W:WR J0 J r c o s ol M){J':ac}{p:Option Str}(f:FrS J r J')(h:J'[r]?=some (.dictS (v5 c o s p))):WR J0 J' r c o s ol {M with pan:=p}:=by
 obtain⟨h1,h2,h3,h4,h5,h6,h7⟩:=W.ls;have ge:=W.ge r (.head _);exact⟨h,f.at W.cells (Ne.symm h1),f.at W.objs (Ne.symm h2),f.at W.qP (Ne.symm h3),W.len,λi y ct g g'=>f.at (W.ob i y ct g g') (h7 y (List.mem_of_getElem? g)).1,W.nd,
  ⟨yK W.f.1 f.1,λl hl=>(f.2 l (yJ hl W.f.1) ((ar3 0x1111010135644615404) ge hl)).trans (W.f.2 l hl)⟩,W.ge⟩
theorem WR.frS_(W:WR J0 J r c o s ol M){J':ac}{p:Option Str}(f:FrS J r J')(h:J'[r]?=some (.dictS (v5 c o s p)))(e:p=M.pan):WR J0 J' r c o s ol M:=by subst e;exact W.qV f h
theorem qm(c o s:Nat)(p:Option Str)(t:Str):putK (v5 c o s p) (so "panic") (.str t)=v5 c o s (some t):=by k_go
theorem WR.pn(W:WR J0 J r c o s ol M)(h:M.pan=none):Pn J r (v5 c o s none) none:=⟨by have:=W.run;rw[h] at this;exact this,by k_go,by simp[v5]⟩
theorem aqj(a:Opd):∃w l,a.d=.tup (k w::l)/\iv (k w) [.str (so "reg"),.str (so "const")]=some true:=by cases a<;>exact⟨_,_,rfl,rfl⟩
theorem Vs.len{ps:List Pt}{vs:List D}(h:Vs M ps vs):vs.length<=ps.length:=h.ind (C:=λps vs=>vs.length<=ps.length) (yE _) (λY Z i=>Nat.succ_le_succ i) (λY i=>Nat.le_succ_of_le i) λi=>Nat.le_succ_of_le i
end
section
noncomputable abbrev ptD(i:Nat)(j:D):D:=.tup [k "at",.int i,j]
end
theorem Vs.qR{M:Ms}{a b:List Pt}{us ws:List D}(h:Vs M a us)(g:Vs M b ws):Vs M (a++b) (us++ws):=h.ind (C:=λa us=>Vs M (a++b) (us++ws)) g (λh1 h2 ih=> .p h1 h2 ih) (λh1 ih=> .x h1 ih) λ{Y Z U V} ih=> .pp ih
theorem Vs.at{M:Ms}{ps:List Pt}{vs:List D}(h:Vs M ps vs){i:Nat}{p:Pt}(g:ps[i]?=some p):(∃a v,p=.p a/\vl M a=some v/\ao v=true)\/(∃d,p=.x d/\Xp d)\/∃a b,p=.pp a b:=by
 refine h.ind (C:=λps vs=> ∀p∈ps,(∃a v,p=.p a/\vl M a=some v/\ao v=true)\/(∃d,p=.x d/\Xp d)\/∃a b,p=.pp a b) (λY m=>nomatch m) (λh1 h2 ih p m=> ?_) (λh1 ih p m=> ?_) (λih p m=> ?_) p (List.mem_of_getElem? g)<;>
  refine(yM m).elim (λm=> ?_) (ih p)
 ·exact .inl ⟨_,_,m,h1,h2⟩
 ·exact .inr (.inl ⟨_,m,h1⟩)
 ·exact .inr (.inr ⟨_,_,m⟩)
section
variable{M:Ms}{a b:Opd}{v w d d2:D}{us:List D}{ps:List Pt}
theorem Vs.ip(V:Vs M (.p a::ps) us)(h:vl M a=some v):∃ws,us=v::ws/\Vs M ps ws:=by
 obtain⟨w,ws,e,h1,_,V⟩:=V;rw[h] at h1;cases h1;exact⟨ws,e,V⟩
theorem Vs.ix(V:Vs M (.x d::ps) us):Vs M ps us:=V.2
theorem Vs.i0(V:Vs M [] us):us=[]:=V
theorem Vs.e1(V:Vs M [.p a] us)(h:vl M a=some v):us=[v]:=by obtain⟨_,rfl,V'⟩:=V.ip h;cases V'.i0;rfl
theorem Vs.e1x(V:Vs M [.p a,.x d] us)(h:vl M a=some v):us=[v]:=by obtain⟨_,rfl,V'⟩:=V.ip h;cases V'.ix.i0;rfl
theorem Vs.e2(V:Vs M [.p a,.p b] us)(h:vl M a=some v)(g:vl M b=some w):us=[v,w]:=by obtain⟨_,rfl,V'⟩:=V.ip h;cases V'.e1 g;rfl
theorem Vs.ex(V:Vs M [.x d,.p a,.x d2] us)(h:vl M a=some v):us=[v]:=V.ix.e1x h
theorem Vs.exx(V:Vs M [.x d,.p a,.p b,.x d2] us)(h:vl M a=some v)(g:vl M b=some w):us=[v,w]:=by obtain⟨_,rfl,V'⟩:=V.ix.ip h;cases V'.e1x g;rfl
end
inductive Eff(M:Ms):String->List Pt->D->Ms->Prop
 | move {a v} (h:vl M a=some v):Eff M "move" [.p a] v M
 | bin {op:Bop} {a b x y z} (h1:vl M a=some (.int x)) (h2:vl M b=some (.int y)) (i1:InR x) (i2:InR y) (h:opW op x y=.ok z):Eff M "binary" [.x op.d,.p a,.p b,.x i8] (.int z) M
 | binE {op:Bop} {a b x y t} (h1:vl M a=some (.int x)) (h2:vl M b=some (.int y)) (i1:InR x) (i2:InR y) (h:opW op x y=.er t):Eff M "binary" [.x op.d,.p a,.p b,.x i8] (.int 0) {M with pan:=some t}
 | cmp {op:Cop} {a b x y} (h1:vl M a=some (.int x)) (h2:vl M b=some (.int y)):Eff M "binary" [.x op.d,.p a,.p b,.x i8] (.bool (ai7 op x y)) M
 | neg {a x} (h:vl M a=some (.int x)):Eff M "unary" [.x (k "-"),.p a,.x i8] (.int ((128 - x).fmod 256 - 128)) M
 | no {a x} (h:vl M a=some (.bool x)):Eff M "unary" [.x (k "!"),.p a,.x bo] (.bool (!x)) M
 | load {a i xs v} (h:vl M a=some (ptD i .none)) (h2:M.objs[i]?=some (.l (v::xs))):Eff M "load" [.p a] v M
 | loadj {a i j xs v} (h:vl M a=some (ptD i (.int (j:Nat)))) (h2:M.objs[i]?=some (.l xs)) (h3:xs[j]?=some v) (hj:j<100):Eff M "load" [.p a] v M
 | eptr {a b i j xs} (h:vl M a=some (ptD i .none)) (h1:vl M b=some (.int (j:Nat))) (h2:M.objs[i]?=some (.l xs)) (h3:j<xs.length) (hx:xs.length<=100):Eff M "elemptr" [.p a,.p b] (ptD i (.int j)) M
 | eptrE {a b i j xs} (h:vl M a=some (ptD i .none)) (h1:vl M b=some (.int j)) (h2:M.objs[i]?=some (.l xs)) (h3:¬(0<=j/\j<xs.length)) (hx:xs.length<=100):Eff M "elemptr" [.p a,.p b] (.int 0) {M with pan:=some apw}
 | elem {a b j z} {xs:List Int} (h:vl M a=some (.tup (xs.map .int))) (h1:vl M b=some (.int j)) (hx:xs.length<=100) (hj:InR j) (h3:gk xs j=.ok z):Eff M "elem" [.p a,.p b] (.int z) M
 | elemE {a b j t} {xs:List Int} (h:vl M a=some (.tup (xs.map .int))) (h1:vl M b=some (.int j)) (hx:xs.length<=100) (hj:InR j) (h3:gk xs j=.er t):Eff M "elem" [.p a,.p b] (.int 0) {M with pan:=some t}
 | struct {a b v w} (h:vl M a=some v) (h1:vl M b=some w) (p1:ao v=true) (p2:ao w=true):Eff M "struct" [.pp a b] (.tup [v,w]) M
 | part {a v vs} (h:vl M a=some (.tup (v::vs))) (p:ao v=true):Eff M "part" [.p a,.x (.int 0)] v M
 | face {a v ty w l} (h:vl M a=some v) (ht:ty=.tup (k w::l)) (p:ao v=true):Eff M "face" [.p a,.x ty] (.tup [ty,v]) M
section
variable{J0 J:ac}{r c o s n m:Nat}{ol:List Nat}{M M':Ms}{Q:KD}
theorem Eff.hw{w:String}{ps:List Pt}{v:D}(E:Eff M w ps v M'):iv (k w) [k "new",k "makeslice",k "makemap"]=some false:=by induction E<;>rfl
theorem aqk{w:String}{ps:List Pt}{vs:List D}{v:D}{z:Int}(W:WR J0 J r c o s ol M)(E:Eff M w ps v M')(V:Vs M ps vs)(hl:ps.length<=80)(hp:M.pan=none)(hO:M.objs.length<=5000)
  (q:∀J',WR J0 J' r c o s ol M'->Q v J'):Wk (ak T0 (n+3) (.val (.ref 744)) [.loc r,.tup (k w::.int z::ps.map Pt.d)] J) Q:=by
 have hw:=E.hw;refine wC (fnA 93) ["run","row"] ?_;walk;refine ab4 (yD hw) ?_;walk;refine slT (r:=ps.map Pt.d) (aj (by simp;exact(ar1 0x11138642405022402) hl)) (aix ⟨by decide,Nat.le_add_left _ _⟩) ?_;walk;have W1:=(W.qR [Cell.list [D.str (so "new"),D.str (so "makeslice"),D.str (so "makemap")]])
 have lt1:=W1.lt;have g1:J0.length<=(J++ [Cell.list [D.str (so "new"),D.str (so "makeslice"),D.str (so "makemap")]]).length:=W1.f.1;have W2:=W1.qR [Cell.list []];have a2:((J++ [Cell.list [D.str (so "new"),D.str (so "makeslice"),D.str (so "makemap")]])++ [Cell.list []])[(J++ [Cell.list [D.str (so "new"),D.str (so "makeslice"),D.str (so "makemap")]]).length]?=some (.list []):=au _;generalize (J++ [Cell.list [D.str (so "new"),D.str (so "makeslice"),D.str (so "makemap")]]).length=m at lt1 g1 a2⊢;generalize (J++ [Cell.list [D.str (so "new"),D.str (so "makeslice"),D.str (so "makemap")]])++ [Cell.list []]=J2 at W2 a2⊢;refine aab [so "part"] (λi Y J3=>WR J0 J3 r c o s ol M/\∃us,Vs M (ps.take i) us/\J3[m]?=some (.list us)) ?_ ⟨W2,[],.nil,a2⟩ ?_
 ·rintro i x τ J3 Q' hx ⟨W3,us,V3,h3⟩ q';rw[List.getElem?_map] at hx;obtain⟨p,hp,rfl⟩:=yA hx;have et:ps.take (i+1)=ps.take i++ [p]:=by rw[List.take_add_one,hp];rfl
  have ul:=V3.len;have tl:=List.length_take_le' i ps;rcases V.at hp with⟨a,v',rfl,hv,hpv⟩ | ⟨d,rfl,hd⟩ | ⟨a,b,rfl⟩
  ·have V4:Vs M (ps.take (i+1)) (us++ [v']):=by rw[et];exact V3.qR (.p hv hpv .nil)
   induction a with
   | c ty u=>
    simp only[Pt.d,Opd.d];walk;refine kj (a:=.c ty u) (W3.qR _) hv ?_;walk;refine ck (ag h3) (aj ((ar3 0x1111138842504606505022404) hl ul tl)) ?_;exact q' _ _ (Ag.upd (by k_go) Ag.exc) ⟨(W3.qR _).out (λy hy=>yO (lt1 y hy)) g1 _,_,V4,bj (ag h3)⟩
   | r j=>
    simp only[Pt.d,Opd.d,rgD];walk;refine kj (a:=.r j) (W3.qR _) hv ?_;walk;refine ck (ag h3) (aj ((ar3 0x1111138842504606505022404) hl ul tl)) ?_;exact q' _ _ (Ag.upd (by k_go) Ag.exc) ⟨(W3.qR _).out (λy hy=>yO (lt1 y hy)) g1 _,_,V4,bj (ag h3)⟩
  ·have V4:Vs M (ps.take (i+1)) us:=by rw[et];simpa using V3.qR (.x hd .nil)
   induction hd with
   | s y=>
    simp only[Pt.d];walk;exact q' _ _ (Ag.upd (by k_go) Ag.exc) ⟨W3,_,V4,h3⟩
   | i y=>
    simp only[Pt.d];walk;exact q' _ _ (Ag.upd (by k_go) Ag.exc) ⟨W3,_,V4,h3⟩
   | t u l hu=>
    simp only[Pt.d];walk;refine ab4 (yD hu) ?_;walk;exact q' _ _ (Ag.upd (by k_go) Ag.exc) ⟨W3.qR _,_,V4,ag h3⟩
   | p a l=>
    simp only[Pt.d];walk;exact q' _ _ (Ag.upd (by k_go) Ag.exc) ⟨W3.qR _,_,V4,ag h3⟩
  ·have V4:Vs M (ps.take (i+1)) us:=by rw[et];simpa using V3.qR (.pp (a:=a) (b:=b) .nil)
   obtain⟨u,l,ha,_⟩:=aqj a;simp only[Pt.d,ha];walk;exact q' _ _ (Ag.upd (by k_go) Ag.exc) ⟨W3.qR _,_,V4,ag h3⟩
 ·rintro τ J3 ⟨W3,us,V3,h3⟩;rw[List.length_map,List.take_length] at V3;clear W1 W2 lt1 a2
  induction E with
  | move h=>
   rw[V3.e1 h] at h3;walk;refine bf (ag h3) rfl ?_;walk;exact q _ (W3.qR _)
  | @bin op a b x y z g1 g2 i1 i2 h=>
   rw[V3.exx g1 g2] at h3;walk;refine bf h3 rfl ?_;walk;refine bf h3 rfl ?_;walk;refine vz (W3.pn hp) i1 i2 ?_;rw[h];intro J' f e;walk;exact q _ (W3.frS_ f e hp.symm)
  | @binE op a b x y t g1 g2 i1 i2 h=>
   rw[V3.exx g1 g2] at h3;walk;refine bf h3 rfl ?_;walk;refine bf h3 rfl ?_;walk;refine vz (W3.pn hp) i1 i2 ?_;rw[h];intro J' f e;rw[qm] at e;walk;exact q _ (W3.qV f e)
  | @cmp op a b x y g1 g2=>
   rw[V3.exx g1 g2] at h3;walk;refine bf h3 rfl ?_;walk;refine bf h3 rfl ?_;walk;refine anx λt=> ?_;walk;exact q _ (W3.qR t)
  | neg h=>
   rw[V3.ex h] at h3;walk;refine bf h3 rfl ?_;walk;refine vj ajd ?_;walk;exact q _ W3
  | no h=>
   rw[V3.ex h] at h3;walk;refine bf h3 rfl ?_;walk;exact q _ W3
  | @load a i xs v h h2=>
   rw[V3.e1 h] at h3;walk;refine sDS (v:=.loc o) W3.run rfl ?_;walk;refine bf h3 rfl ?_;walk;have hi:=ae h2;have hi2:i<ol.length:=W3.len▸hi;refine bf W3.objs (v:=.loc ol[i]) (cj (by rw[List.getElem?_map,yC hi2];rfl) ((ar2 zBZ) hO hi)) ?_;walk;refine bf h3 rfl ?_;walk;refine bf (W3.ob i _ _ (yC hi2) h2) (v:=v) rfl ?_;walk;exact q _ W3
  | @loadj a i j xs v h h2 h4 hj=>
   rw[V3.e1 h] at h3;have hi:=ae h2;have hi2:i<ol.length:=W3.len▸hi;have ho:(ol.map D.loc)[i]?=some (.loc ol[i]):=by rw[List.getElem?_map,yC hi2];rfl
   have hob:=W3.ob i _ _ (yC hi2) h2;walk;refine sDS (v:=.loc o) W3.run rfl ?_;walk;refine bf h3 rfl ?_;walk;refine bf W3.objs (cj ho ((ar2 zBZ) hO hi)) ?_;walk;refine bf h3 rfl ?_;walk;rcases Nat.eq_zero_or_pos j with rfl | hj0
   ·refine nh rfl ?_;walk;refine bf hob (cj (i:=0) h4 (by decide)) ?_;walk;exact q _ W3
   ·refine adw (by simp;exact(ar1 zAP) hj0) ?_;refine bf hob (cj h4 ((ar1 0x11138842406422412) hj)) ?_;walk;exact q _ W3
  | @eptr a b i j xs h g1 h2 h4 hx=>
   rw[V3.e2 h g1] at h3;have hi:=ae h2;have hi2:i<ol.length:=W3.len▸hi;have ho:(ol.map D.loc)[i]?=some (.loc ol[i]):=by rw[List.getElem?_map,yC hi2];rfl
   have hob:=W3.ob i _ _ (yC hi2) h2;walk;refine bf h3 rfl ?_;walk;refine sDS (v:=.loc o) W3.run rfl ?_;walk;refine bf h3 rfl ?_;walk;refine bf W3.objs (cj ho ((ar2 zBZ) hO hi)) ?_;walk;refine qd (len_list hob (aj ((ar1 zAJ) hx))) ?_;walk;refine adw (by simp;exact(ar2 zAL) h4) ?_;walk;refine bf h3 rfl ?_;walk;refine bf h3 rfl ?_;walk;exact q _ W3
  | @eptrE a b i j xs h g1 h2 h4 hx=>
   rw[V3.e2 h g1] at h3;have hi:=ae h2;have hi2:i<ol.length:=W3.len▸hi;have ho:(ol.map D.loc)[i]?=some (.loc ol[i]):=by rw[List.getElem?_map,yC hi2];rfl
   have hob:=W3.ob i _ _ (yC hi2) h2;walk;refine bf h3 rfl ?_;walk;refine fo (λh5=> ?_) (λh5=> ?_)
   ·have h5:=of_decide_eq_true h5;walk;refine sDS (v:=.loc o) W3.run rfl ?_;walk;refine bf h3 rfl ?_;walk;refine bf W3.objs (cj ho ((ar2 zBZ) hO hi)) ?_;walk;refine qd (len_list hob (aj ((ar1 zAJ) hx))) ?_;walk;refine nh (by simp;exact Int.not_lt.mp λz=>h4 ⟨h5,z⟩) ?_;walk;refine jg (W3.pn hp) λJ' f e=> ?_;rw[qm] at e;walk;exact q _ (W3.qV f e)
   ·walk;refine jg (W3.pn hp) λJ' f e=> ?_;rw[qm] at e;walk;exact q _ (W3.qV f e)
  | @elem a b j z xs h g1 hx hj h4=>
   rw[V3.e2 h g1] at h3;walk;refine bf h3 rfl ?_;walk;refine bf h3 rfl ?_;walk;refine zz (W3.pn hp) hx hj ?_;rw[h4];intro J' f e;walk;exact q _ (W3.frS_ f e hp.symm)
  | @elemE a b j t xs h g1 hx hj h4=>
   rw[V3.e2 h g1] at h3;walk;refine bf h3 rfl ?_;walk;refine bf h3 rfl ?_;walk;refine zz (W3.pn hp) hx hj ?_;rw[h4];intro J' f e;rw[qm] at e;walk;exact q _ (W3.qV f e)
  | @part a v vs h hpv=>
   rw[V3.e1x h] at h3;walk;refine bf (ag h3) rfl ?_;walk;refine apf rfl ?_;walk;exact q _ (W3.qR _)
  | @face a v ty w l h ht hpv=>
   rw[V3.e1x h] at h3;walk;refine bf (ag h3) rfl ?_;walk;exact q _ (W3.qR _)
  | @struct a b v w h g1 p1 p2=>
   walk;have W4:=W3.qR [Cell.list [D.str (so "struct"),D.str (so "array")]];generalize J3++ [Cell.list [D.str (so "struct"),D.str (so "array")]]=J4 at W4⊢;have W5:=W4.qR [Cell.list []];have a5:(J4++ [Cell.list []])[J4.length]?=some (.list []):=au _;have lt5:=W4.lt;have g5:=W4.f.1;have hpa:=cq a;have hpb:=cq b;walk;refine sdT (l:=[a.d,b.d]) ?_;walk;refine kj W5 h ?_;walk;refine ck a5 (lb rfl) ?_;have W6:=W5.out (λy hy=>yO (lt5 y hy)) g5 (.list ([]++ [v]));have a6:=bj (c':=.list ([]++ [v])) a5;walk;refine kj W6 g1 ?_;walk;refine ck a6 (lb rfl) ?_;have W7:=W6.out (λy hy=>yO (lt5 y hy)) g5 (.list ([]++ [v]++ [w]));have a7:=bj (c':=.list ([]++ [v]++ [w])) a6;walk;refine qf (l:=[v,w]) (qg a7 (lb rfl)) ?_;walk;exact q _ W7
end
section
variable{J0 J:ac}{r c o s n m:Nat}{ol:List Nat}{M M':Ms}{Q:KD}
theorem ajt(W:WR J0 J r c o s ol M){x:Nat}(hx:x+1=J.length){ct:Ct}{J1:ac}(e:J=J1++ [ct.cell])(W1:WR J0 J1 r c o s ol M)(hO:M.objs.length<=4900)(q:∀J' ol',WR J0 J' r c o s ol' {M with objs:=M.objs++ [ct]}->Q (ptD M.objs.length .none) J'):Wk (ak T0 (n+1) (.val (.ref 739)) [.loc r,.loc x] J) Q:=by
 subst e;have hx':x=J1.length:=by simp at hx;exact(ar2 0x11115425422) hx
 subst hx';have W2:=W1.newOb ct;have hol:=W.len;refine wC (fnA 92) ["run","content"] ?_;walk;refine sDS (v:=.loc o) W.run rfl ?_;walk;refine mtL W.objs (.inl rfl) ?_;walk;refine w6 W.objs (aj (by simp;exact(ar2 0x11113884250452132442403) hO hol)) rfl ?_;walk;refine sDS (v:=.loc o) W2.run rfl ?_;walk;refine qd (len_list W2.objs (aj (by simp;exact(ar2 0x11113874250452132442403) hO hol))) ?_;walk;have e2:(((ol++ [J1.length]).map D.loc).length:Int) - 1=(M.objs.length:Nat):=by simp;exact congrArg (λn:Nat=>(n:Int)) hol
 rw[e2];exact q _ _ W2
theorem atz(W:WR J0 J r c o s ol M){z:Int}{st:Nat}(hO:M.objs.length<=4900)(hS:M.qP.length<=4900)(q:∀J' ol',WR J0 J' r c o s ol' {M with qP:=M.qP++ [az st],objs:=M.objs++ [.l [.int 0]]}->Q (ptD M.objs.length .none) J'):Wk (ak T0 (n+3) (.val (.ref 744)) [.loc r,.tup [k "new",.int z,i8,az st]] J) Q:=by
 refine wC (fnA 93) ["run","row"] ?_;walk;have W1:=(W.qR [Cell.list [D.str (so "new"),D.str (so "makeslice"),D.str (so "makemap")]])
 generalize (J++ [Cell.list [D.str (so "new"),D.str (so "makeslice"),D.str (so "makemap")]])=J1 at W1⊢;refine sDS (v:=.loc s) W1.run rfl ?_;walk;refine mtL W1.qP (.inl rfl) ?_;walk;refine w6 W1.qP (aj ((ar1 zAO) hS)) rfl ?_;have W2:=W1.site (M.qP++ [az st]);generalize J1.set s (.list (M.qP++ [az st]))=J2 at W2⊢;walk;have W3:=W2.qR [Cell.list [.int 0]];refine nLI (x:=[.int 0]) (by simp) (by simp) ?_;walk;refine ajt (W3.qR [Cell.list (rep [D.int 0] (Int.toNat 1))]) (ct:=.l [.int 0]) (by simp) (by rfl) W3 hO λJ' ol' W'=> ?_;walk;exact q _ _ W'
theorem at0(W:WR J0 J r c o s ol M){z:Int}{st:Nat}(hO:M.objs.length<=4900)(hS:M.qP.length<=4900)(q:∀J' ol',WR J0 J' r c o s ol' {M with qP:=M.qP++ [az st],objs:=M.objs++ [.l [.int 0,.int 0,.int 0]]}->Q (ptD M.objs.length .none) J'):Wk (ak T0 (n+3) (.val (.ref 744)) [.loc r,.tup [k "makeslice",.int z,bp,cI 3,cI 3,az st]] J) Q:=by
 refine wC (fnA 93) ["run","row"] ?_;walk;have W1:=(W.qR [Cell.list [D.str (so "new"),D.str (so "makeslice"),D.str (so "makemap")]])
 generalize (J++ [Cell.list [D.str (so "new"),D.str (so "makeslice"),D.str (so "makemap")]])=J1 at W1⊢;refine sDS (v:=.loc s) W1.run rfl ?_;walk;refine mtL W1.qP (.inl rfl) ?_;walk;refine w6 W1.qP (aj ((ar1 zAO) hS)) rfl ?_;have W2:=W1.site (M.qP++ [az st]);generalize J1.set s (.list (M.qP++ [az st]))=J2 at W2⊢;walk;have W3:=W2.qR [Cell.list [.int 0]];refine kj (a:=.c ab6 (.int 3)) W3 rfl ?_;walk;refine nLI (x:=[.int 0]) (by simp) (by simp) ?_;walk;refine ajt (W3.qR [Cell.list (rep [D.int 0] (Int.toNat 3))]) (ct:=.l [.int 0,.int 0,.int 0]) (by simp) (by rfl) W3 hO λJ' ol' W'=> ?_;walk;exact q _ _ W'
theorem at1(W:WR J0 J r c o s ol M){z:Int}{st:Nat}(hO:M.objs.length<=4900)(hS:M.qP.length<=4900)(q:∀J' ol',WR J0 J' r c o s ol' {M with qP:=M.qP++ [az st],objs:=M.objs++ [.d []]}->Q (ptD M.objs.length .none) J'):Wk (ak T0 (n+3) (.val (.ref 744)) [.loc r,.tup [k "makemap",.int z,gj,az st]] J) Q:=by
 refine wC (fnA 93) ["run","row"] ?_;walk;have W1:=(W.qR [Cell.list [D.str (so "new"),D.str (so "makeslice"),D.str (so "makemap")]])
 generalize (J++ [Cell.list [D.str (so "new"),D.str (so "makeslice"),D.str (so "makemap")]])=J1 at W1⊢;refine sDS (v:=.loc s) W1.run rfl ?_;walk;refine mtL W1.qP (.inl rfl) ?_;walk;refine w6 W1.qP (aj ((ar1 zAO) hS)) rfl ?_;have W2:=W1.site (M.qP++ [az st]);generalize J1.set s (.list (M.qP++ [az st]))=J2 at W2⊢;walk;refine ajt (W2.qR [Cell.dictI []]) (ct:=.d []) (by simp) (by rfl) W2 hO λJ' ol' W'=> ?_;walk;exact q _ _ W'
end
section
variable{J0 J:ac}{r c o s n m:Nat}{ol:List Nat}{M M':Ms}{Q:KD}
theorem te{w:String}(hw:Wd1 w){z:Int}{l:List D}{v:D}
  (hd:∀Q':D->ac->Prop,(∀J' ol',WR J0 J' r c o s ol' M'->Q' v J')->Wk (ak T0 (n+3) (.val (.ref 744)) [.loc r,.tup (k w::.int z::l)] J) Q')
  (hv:∀J:ac,kh J .NotEq v (.str (so "ill"))=some true) (hp:ao v=true) (hC:M'.cells.length<=4900)
  (q:∀J' ol',WR J0 J' r c o s ol' {M' with cells:=putK M'.cells z v}->Q (.bool true) J'):Wk (ak T0 (n+4) (.val (.ref 751)) [.loc r,.tup (k w::.int z::l)] J) Q:=by
 refine wC (fnA 94) ["run","row"] ?_;walk;refine nh (by induction hw<;>rfl) ?_;walk;refine nh (by induction hw<;>rfl) ?_;walk;refine nh (by induction hw<;>rfl) ?_;walk;refine nh (by induction hw<;>rfl) ?_;walk;refine hd _ λJ' ol' W'=> ?_;walk;refine sDS (v:=.loc c) W'.run rfl ?_;walk;refine iDI W'.cells (aj ((ar1 zAO) hC)) ?_;walk;refine cK (hv _) ?_;walk;exact q _ _ (W'.put _)
theorem al4{p a:Opd}{i j:Nat}{jd v:D}{xs:List D}(W:WR J0 J r c o s ol M)(hp:vl M p=some (ptD i jd))(hj:(jd=.none/\j=0)\/jd=.int j)(ha:vl M a=some v)(hv:ao v=true)(ho:M.objs[i]?=some (.l xs))(hjl:j<xs.length)(hx:xs.length<=100)(hO:M.objs.length<=4900)
  (q:∀J',WR J0 J' r c o s ol {M with objs:=M.objs.set i (.l (xs.set j v))}->Q (.bool true) J'):Wk (ak T0 (n+4) (.val (.ref 751)) [.loc r,.tup [k "store",p.d,a.d]] J) Q:=by
 have hi:=ae ho;have hi2:i<ol.length:=W.len▸hi;have hoi:(ol.map D.loc)[i]?=some (.loc ol[i]):=by rw[List.getElem?_map,yC hi2];rfl
 have hob:=W.ob i _ _ (yC hi2) ho;have hpp:=cq p;have hpa:=cq a;have W':=W.setOb (yC hi2) (.l (xs.set j v));refine wC (fnA 94) ["run","row"] ?_;walk;refine kj W hp ?_;walk;refine kj W ha ?_;walk;refine sDS (v:=.loc o) W.run rfl ?_;walk;refine bf W.objs (cj hoi ((ar2 zB0) hO hi)) ?_;walk;have fin:∀K:ac->Prop,(∀J',WR J0 J' r c o s ol {M with objs:=M.objs.set i (.l (xs.set j v))}->K J')->Wv (dw J (.loc ol[i]) (.int j) v) K:=λK hK=>adn hob ⟨Int.natCast_nonneg _,as7 (yK (Nat.le_of_lt hjl) (yK hx (by decide))),by simpa using hjl,aj ((ar1 zAJ) hx)⟩ (hK _ W');rcases hj with⟨rfl,rfl⟩ | rfl
 ·walk;refine fin _ λJ' W'=> ?_;walk;exact q _ W'
 ·rcases Nat.eq_zero_or_pos j with rfl | hj0
  ·walk;refine fin _ λJ' W'=> ?_;walk;exact q _ W'
  ·walk;refine adw (by simp;exact(ar1 zAP) hj0) ?_;walk;refine fin _ λJ' W'=> ?_;walk;exact q _ W'
end
section
variable{J0 J:ac}{r c o s n m:Nat}{ol:List Nat}{M M':Ms}{Q:KD}
theorem aql{p a b:Opd}{i:Nat}{jd v:D}{x:Int}{es:List (Int×D)}(W:WR J0 J r c o s ol M)(hp:vl M p=some (ptD i jd))(ha:vl M a=some (.int x))(hb:vl M b=some v)(ho:M.objs[i]?=some (.d es))(hx:es.length<=100)(hO:M.objs.length<=4900)
  (q:∀J',WR J0 J' r c o s ol {M with objs:=M.objs.set i (.d (putK es x v))}->Q (.bool true) J'):Wk (ak T0 (n+4) (.val (.ref 751)) [.loc r,.tup [k "mapset",p.d,a.d,b.d]] J) Q:=by
 have hi:=ae ho;have hi2:i<ol.length:=W.len▸hi;have hoi:(ol.map D.loc)[i]?=some (.loc ol[i]):=by rw[List.getElem?_map,yC hi2];rfl
 have hob:=W.ob i _ _ (yC hi2) ho;have hpp:=cq p;have hpa:=cq a;have hpb:=cq b;have W':=W.setOb (yC hi2) (.d (putK es x v));refine wC (fnA 94) ["run","row"] ?_;walk;refine kj W hb ?_;walk;refine sDS (v:=.loc o) W.run rfl ?_;walk;refine kj W hp ?_;walk;refine bf W.objs (cj hoi ((ar2 zB0) hO hi)) ?_;walk;refine kj W ha ?_;walk;refine iDI hob (aj ((ar1 zAJ) hx)) ?_;walk;exact q _ W'
theorem aqm{p a:Opd}{i:Nat}{jd:D}{x z:Int}{es:List (Int×D)}(W:WR J0 J r c o s ol M)(hp:vl M p=some (ptD i jd))(ha:vl M a=some (.int x))(ho:M.objs[i]?=some (.d es))(hx:es.length<=100)(hO:M.objs.length<=4900)(hC:M.cells.length<=4900)
  (q:∀J',WR J0 J' r c o s ol {M with cells:=putK M.cells z ((atK es x).getD (.int 0))}->Q (.bool true) J'):Wk (ak T0 (n+4) (.val (.ref 751)) [.loc r,.tup [k "mapget",.int z,.none,p.d,a.d,i8]] J) Q:=by
 have hi:=ae ho;have hi2:i<ol.length:=W.len▸hi;have hoi:(ol.map D.loc)[i]?=some (.loc ol[i]):=by rw[List.getElem?_map,yC hi2];rfl
 have hob:=W.ob i _ _ (yC hi2) ho;have hpp:=cq p;have hpa:=cq a;refine wC (fnA 94) ["run","row"] ?_;walk;refine sDS (v:=.loc o) W.run rfl ?_;walk;refine kj W hp ?_;walk;refine bf W.objs (cj hoi ((ar2 zB0) hO hi)) ?_;walk;refine kj W ha ?_;walk;refine mtD hob ?_;walk;refine ali hob rfl ?_;walk;refine sDS (v:=.loc c) W.run rfl ?_;walk;refine iDI W.cells (aj ((ar1 zAO) hC)) ?_;walk;exact q _ (W.put _)
theorem ja{α:Type}[DecidableEq α](l:List (α×D))(x:α)(v:D):(putK l x v).length<=l.length+1:=by
 unfold putK;split<;>simp
theorem al5{p a:Opd}{i:Nat}{jd:D}{x z z2:Int}{es:List (Int×D)}(W:WR J0 J r c o s ol M)(hp:vl M p=some (ptD i jd))(ha:vl M a=some (.int x))(ho:M.objs[i]?=some (.d es))(hx:es.length<=100)(hO:M.objs.length<=4900)(hC:M.cells.length<=4900)
  (q:∀J',WR J0 J' r c o s ol {M with cells:=putK (putK M.cells z ((atK es x).getD (.int 0))) z2 (.bool (atK es x).isSome)}->Q (.bool true) J'):Wk (ak T0 (n+4) (.val (.ref 751)) [.loc r,.tup [k "mapget",.int z,.int z2,p.d,a.d,i8]] J) Q:=by
 have hi:=ae ho;have hi2:i<ol.length:=W.len▸hi;have hoi:(ol.map D.loc)[i]?=some (.loc ol[i]):=by rw[List.getElem?_map,yC hi2];rfl
 have hob:=W.ob i _ _ (yC hi2) ho;have hpp:=cq p;have hpa:=cq a;have W1:=W.put (putK M.cells z ((atK es x).getD (.int 0)));have hob1:=W1.ob i _ _ (yC hi2) ho;have hl:=ja M.cells z ((atK es x).getD (.int 0));refine wC (fnA 94) ["run","row"] ?_;walk;refine sDS (v:=.loc o) W.run rfl ?_;walk;refine kj W hp ?_;walk;refine bf W.objs (cj hoi ((ar2 zB0) hO hi)) ?_;walk;refine kj W ha ?_;walk;refine mtD hob ?_;walk;refine ali hob rfl ?_;walk;refine sDS (v:=.loc c) W.run rfl ?_;walk;refine iDI W.cells (aj ((ar1 zAO) hC)) ?_;walk;refine cK (t:=(atK es x).isSome) (inK hob1) ?_;walk;refine sDS (v:=.loc c) W1.run rfl ?_;walk;refine iDI W1.cells (aj (by simp only;exact(ar2 0x11113884250114050132442403) hC hl)) ?_;walk;exact q _ (W1.put _)
end
section
variable{J0 J:ac}{r c o s n m:Nat}{ol:List Nat}{M M':Ms}{Q:KD}
theorem s_as{p:Opd}{v:D}{z:Int}(W:WR J0 J r c o s ol M)(hp:vl M p=some (.tup [i8,v]))(hv:ao v=true)(hC:M.cells.length<=4900)
  (q:∀J',WR J0 J' r c o s ol {M with cells:=putK M.cells z v}->Q (.bool true) J'):Wk (ak T0 (n+4) (.val (.ref 751)) [.loc r,.tup [k "assert",.int z,.none,p.d,i8,bw]] J) Q:=by
 have hpp:=cq p;refine wC (fnA 94) ["run","row"] ?_;walk;refine kj W hp ?_;walk;refine sDS (v:=.loc c) W.run rfl ?_;walk;refine iDI W.cells (aj ((ar1 zAO) hC)) ?_;walk;exact q _ (W.put _)
theorem at3{p:Opd}{v:D}{z:Int}(W:WR J0 J r c o s ol M)(hp:vl M p=some (.tup [bo,v]))(hP:M.pan=none)(hC:M.cells.length<=4900)
  (q:∀J',WR J0 J' r c o s ol {M with pan:=some vy,cells:=putK M.cells z (.int 0)}->Q (.bool true) J'):Wk (ak T0 (n+4) (.val (.ref 751)) [.loc r,.tup [k "assert",.int z,.none,p.d,i8,bw]] J) Q:=by
 have hpp:=cq p;refine wC (fnA 94) ["run","row"] ?_;walk;refine kj W hp ?_;walk;refine jg (W.pn hP) λJ' f e=> ?_;rw[qm] at e;have W1:=W.qV f e;walk;refine sDS (v:=.loc c) W1.run rfl ?_;walk;refine iDI W1.cells (aj (by simp only;exact(ar1 zAO) hC)) ?_;walk;exact q _ (W1.put _)
end
theorem ptO(o:Opd):jh (.p o):=⟨aqb o,cq o⟩
theorem ptP(a b:Opd):jh (.pp a b):=⟨atw a b,rfl⟩
theorem ptI(i:Int):jh (.x (.int i)):=⟨aqc i,rfl⟩
theorem ptN:jh (.x .none):=⟨al2,rfl⟩
theorem ptS(s:Str):jh (.x (.str s)):=⟨aqd s,rfl⟩
theorem w9:jh (.x i8):=⟨atu,rfl⟩
theorem at5:jh (.x bo):=⟨atv,rfl⟩
theorem ptSl:jh (.x bp):=⟨aqe,rfl⟩
theorem ptMp:jh (.x gj):=⟨aqf,rfl⟩
theorem at6:jh (.x bw):=⟨aqg,rfl⟩
theorem aqn(s:Nat):jh (.x (az s)):=⟨al3,rfl⟩
theorem rw1{w:String}(hw:Wd1 w){z:Int}{ps:List Pt}(h:∀p∈ps,jh p)(hl:ps.length<=80):Rw w (.x (.int z)::ps):=
 ⟨λp hp=>by
         rcases yM hp with rfl | hp
         ·exact ptI z
         ·exact h p hp,by simp;exact(ar1 0x115922405022402) hl,λn J Q q=>atx hw (by simp;exact(ar1 0x116422405022402) hl) q⟩
theorem rw2{w:String}(hw:w="mapget"\/w="assert"){z:Int}{t:D}(ht:t=.none\/∃i,t=.int i){ps:List Pt}(h:∀p∈ps,jh p)(hl:ps.length<=80):Rw w (.x (.int z)::.x t::ps):=
 ⟨λp hp=>by
         rcases yM hp with rfl | hp
         ·exact ptI z
         ·rcases yM hp with rfl | hp
          ·rcases ht with rfl | ⟨i,rfl⟩
           ·exact ptN
           ·exact ptI i
          ·exact h p hp,by simp;exact(ar1 0x115822405022402) hl,λn J Q q=>aty hw ht (by simp;exact(ar1 0x116422405022402) hl) q⟩
theorem rw0{w:String}(hw:w="store"\/w="mapset"){ps:List Pt}(h:∀p∈ps,jh p)(hl:ps.length<=80):Rw w ps:=⟨h,by exact(ar1 0x115a22405022402) hl,λn J Q q=>w_un hw q⟩
structure Stp(row:D)(M M1:Ms):Prop where
 sh:∃w ps,row=.tup (k w::ps.map Pt.d)/\Rw w ps/\∀o∈ps.flatMap Pt.ops,(vl M o).isSome=true
 run:∀(n:Nat) (J0 J:ac) (r c o s:Nat) (ol:List Nat) (Q:D->ac->Prop),WR J0 J r c o s ol M->(∀J' ol',WR J0 J' r c o s ol' M1->Q (.bool true) J')->Wk (ak T0 (n+4) (.val (.ref 751)) [.loc r,row] J) Q
class inductive Ex:List D->Ms->Ms->Prop
 | nil {M}:Ex [] M M
 | ok {row rows M M1 M2} (h:Stp row M M1) (hp:M1.pan=none) (e:Ex rows M1 M2):Ex (row::rows) M M2
 | pan {row rows M M1 t} (h:Stp row M M1) (hp:M1.pan=some t):Ex (row::rows) M M1
theorem Ex.qR{a b:List D}{M M1 M2:Ms}(h:Ex a M M1)(hp:M1.pan=none)(g:Ex b M1 M2):Ex (a++b) M M2:=by
 induction h with
 | nil=>exact g
 | ok h hq _ ih=>exact .ok h hq (ih hp g)
 | pan h hq=>rw[hq] at hp;cases hp
section
variable{ρ:af}{J:ac}{QS:KS}
theorem al6{step:D->af->ac->KS->Prop}{m:Nat}{L:List D}(xs:List Str)(P:Ms->ac->Prop)(R:Ms->D->ac->Prop)(hl:∀M J,P M J->J[m]?=some (.list L))
  (hs:∀x M M1 τ J Q',Stp x M M1->P M J->(∀ρ' J',M1.pan=none->Ag xs ρ ρ'->P M1 J'->Q' none ρ' J')->(∀d t ρ' J',M1.pan=some t->R M1 d J'->Q' (some d) ρ' J')->step x (exc xs ρ τ) J Q')
  {M M1:Ms} (e:Ex L M M1) (hp:M.pan=none) (h0:P M J) (q:∀τ J',M1.pan=none->P M1 J'->QS none (exc xs ρ τ) J') (qe:∀d ρ' J',M1.pan≠none->R M1 d J'->QS (some d) ρ' J') {f:Nat} (hf:f=L.length+1):turns (.live m) step f 0 ρ J QS:=by
 subst hf;have key:∀(l:List D) (i:Nat) (M:Ms) (ρ':af) (J:ac),L.drop i=l->Ex l M M1->M.pan=none->Ag xs ρ ρ'->P M J->turns (.live m) step (l.length+1) i ρ' J QS:=by
  intro l
  induction l with
  | nil=>
   intro i M ρ' J h e hp a h1;cases e;refine wT0 (saL (hl _ J h1) (List.getElem?_eq_none (by have:=congrArg List.length h;simp at this;exact(ar3 0x1116506405001423) this aT))) ?_;rw[a.eq];exact q _ _ hp h1
  | cons x l ih=>
   intro i M ρ' J h e hp a h1;have hi:L[i]?=some x:=by
    have:=congrArg (λz=>z[0]?) h;simpa using this
   have hd:L.drop (i+1)=l:=by
    have:=congrArg List.tail h;simpa using this
   refine wT1 (x:=x) (saL (hl _ J h1) hi) ?_;rw[a.eq];cases e with
   | ok hst hq e=>exact hs x M _ ρ' J _ hst h1 (λρ' J' Y a h2=>ktN (ih (i+1) _ ρ' J' hd e hq a h2)) (λd t ρ' J' h2 Y=>by rw[hq] at h2;cases h2)
   | pan hst hq=>exact hs x M _ ρ' J _ hst h1 (λρ' J' h2 Y Z=>by rw[hq] at h2;cases h2) (λd t ρ' J' h2 h3=>ktS (qe d _ _ (by rw[hq];simp) h3))
 exact key L 0 M ρ J rfl e hp (λY Z=>rfl) h0
end
section
variable{J0 J:ac}{n cd:Nat}{Q:KD}
inductive CO(J:ac)(cd nb:Nat)(ins:Nat->List D)(tm:Nat->D):Prop
 | mk (dcd bl:Nat) (es:List (Str×D)) (bk it:Nat->Nat) (h1:J[cd]?=some (.inst 338 dcd)) (h2:J[dcd]?=some (.dictS es)) (h3:atK es (so "blocks")=some (.loc bl)) (h4:atK es (so "instructions")=none) (h5:atK es (so "terminator")=none) (h6:J[bl]?=some (Cell.list ((List.range nb).map λi=>D.loc (bk i)))) (h7:∀i,i<nb->J[bk i]?=some (Cell.list [.loc (it i),tm i])/\J[it i]?=some (.list (ins i))):CO J cd nb ins tm
theorem aju{nb b:Nat}{ins:Nat->List D}{tm:Nat->D}(C:CO J cd nb ins tm)(hb:b<nb)(hn:nb<=100)(q:Q (tm b) J):Wk (ak T0 (n+1) (.val (.ref 330)) [.loc cd,.int b] J) Q:=by
 obtain⟨dcd,bl,es,bk,it,h1,h2,h3,h4,h5,h6,h7⟩:=C;refine wC (fnS 56 2) ["self","block"] ?_;walk;refine at_ (v:=.loc bl) h1 h2 (by k_go) h3 rfl ?_;walk;refine bf h6 (cj (i:=b) (x:=.loc (bk b)) (by simp[hb]) ((ar2 0x111138842406422505413) hb hn)) ?_;walk;refine bf (h7 b hb).1 rfl ?_;walk;exact q
theorem CO.fr{J J':ac}{nb:Nat}{ins:Nat->List D}{tm:Nat->D}(C:CO J cd nb ins tm)(f:Fr J J'):CO J' cd nb ins tm:=by
 obtain⟨dcd,bl,es,bk,it,h1,h2,h3,h4,h5,h6,h7⟩:=C;exact⟨dcd,bl,es,bk,it,f.at h1,f.at h2,h3,h4,h5,f.at h6,λi hi=>⟨f.at (h7 i hi).1,f.at (h7 i hi).2⟩⟩
end
section
noncomputable abbrev acf(b:Nat):D:=.tup [k "jump",.int b]
noncomputable abbrev brD(r a b:Nat):D:=.tup [k "branch",rgD r,.int a,.int b]
noncomputable abbrev kl(l:List Opd):D:=.tup [k "return",.tup (l.map Opd.d)]
end
class inductive To(nb:Nat)(ins:Nat->List D)(tm:Nat->D):Nat->Nat->List D->Ms->Rs (List D)->Prop
 | ok {t b row rows M M1 o} (h:Stp row M M1) (hp:M1.pan=none) (e:To nb ins tm t b rows M1 o):To nb ins tm t b (row::rows) M o
 | pan {t b row rows M M1 x} (h:Stp row M M1) (hp:M1.pan=some x) (ht:t<=100):To nb ins tm t b (row::rows) M (.er x)
 | jmp {t b b' M o} (h:tm b=acf b') (hb:b'<nb) (e:To nb ins tm (t+1) b' (ins b') M o):To nb ins tm t b [] M o
 | br {t b r x y v M o} (h:tm b=brD r x y) (hv:atK M.cells (r:Int)=some (.bool v)) (hx:x<nb) (hy:y<nb) (e:To nb ins tm (t+1) (if v then x else y) (ins (if v then x else y)) M o):To nb ins tm t b [] M o
 | ret {t b l vs M} (h:tm b=kl l) (hv:l.map (vl M)=vs.map some) (hs:∃ss:List Nat,M.qP=ss.map az/\ss.Nodup/\ss.length<=64) (hl:l.length<=100) (ht:t<=100):To nb ins tm t b [] M (.ok vs)
section
variable{nb:Nat}{ins:Nat->List D}{tm:Nat->D}
theorem To.le{t b rows M o}(h:To nb ins tm t b rows M o):t<=100:=by
 induction h with
 | ok _ _ _ ih=>exact ih
 | pan _ _ ht=>exact ht
 | jmp _ _ _ ih=>exact(ar1 0x116422406422114002) ih
 | br _ _ _ _ _ ih=>exact(ar1 0x116422406422114002) ih
 | ret _ _ _ _ ht=>exact ht
theorem To.blk{t b rows M o}(h:To nb ins tm t b rows M o):∃M1,Ex rows M M1/\((∃x,M1.pan=some x/\o=.er x)\/((M.pan=none->M1.pan=none)/\To nb ins tm t b [] M1 o)):=by
 induction h with
 | ok h hp _ ih=>
  obtain⟨M1,e,q⟩:=ih;refine⟨M1,.ok h hp e,?_⟩;rcases q with q | ⟨q1,q2⟩
  ·exact .inl q
  ·exact .inr ⟨λY=>q1 hp,q2⟩
 | pan h hp ht=>exact⟨_,.pan h hp,.inl ⟨_,hp,rfl⟩⟩
 | jmp h hb e _=>exact⟨_,.nil,.inr ⟨id,.jmp h hb e⟩⟩
 | br h hv hx hy e _=>exact⟨_,.nil,.inr ⟨id,.br h hv hx hy e⟩⟩
 | ret h hv hs hl ht=>exact⟨_,.nil,.inr ⟨id,.ret h hv hs hl ht⟩⟩
end
section
variable{nb:Nat}{ins:Nat->List D}{tm:Nat->D}{ρ:af}{J:ac}{QS:Option D->af->ac->Prop}
theorem ajv{step:D->af->ac->KS->Prop}{L:List D}{o:Rs (List D)}(xs:List Str)(P:Nat->Ms->af->ac->Prop)(hL:L.length=200)
  (hs:∀x t b M τ J Q',b<nb->To nb ins tm t b (ins b) M o->P b M (exc xs ρ τ) J->(∀b' M' ρ' J',Ag xs ρ ρ'->b'<nb->To nb ins tm (t+1) b' (ins b') M' o->P b' M' ρ' J'->Q' none ρ' J')->(∀d ρ' J',QS (some d) ρ' J'->Q' (some d) ρ' J')->step x (exc xs ρ τ) J Q')
  {b:Nat} {M:Ms} (hb:b<nb) (e:To nb ins tm 0 b (ins b) M o) (h0:P b M ρ J) {f:Nat} (hf:f=L.length+1):turns (.items L) step f 0 ρ J QS:=by
 subst hf;have key:∀(f t b:Nat) (M:Ms) (ρ':af) (J:ac),f+t=L.length->b<nb->To nb ins tm t b (ins b) M o->Ag xs ρ ρ'->P b M ρ' J->turns (.items L) step (f+1) t ρ' J QS:=by
  intro f
  induction f with
  | zero=>intro t b M ρ' J h _ e _;have:=e.le;exact(λq1=>((ar2 0x111101013642250450104c822444) hL h this).elim)
  | succ f ih=>
   intro t b M ρ' J h hb e a h1;have hi:t<L.length:=by exact(ar3 0x11651651140022) h
   refine apa (yC hi) ?_;rw[a.eq] at h1⊢;exact hs _ t b M ρ' J _ hb e h1 (λb' M' ρ' J' a hb' e' h2=>ktN (ih (t+1) b' M' ρ' J' ((ar3 zCI) h) hb' e' a h2)) (λd ρ' J' q=>ktS q)
 exact key L.length 0 b M ρ J ((ar1 0x114014021)) hb e (λY Z=>rfl) h0
end
theorem al7{M:Ms}{l:List Opd}(h:∀o∈l,(vl M o).isSome=true):∀{i:Nat} {d:D},(ql l)[i]?=some d->∃z:Int,d=.int z/\(atK M.cells z).isSome=true:=by
 induction l with
 | nil=>intro i d e;simp[ql] at e
 | cons x l ih=>
  intro i d e
  induction x with
  | c ty v=>exact ih (λo ho=>h o (by simp[ho])) (by simpa [ql] using e)
  | r n=>
   induction i with
   | zero=>simp[ql] at e;exact⟨n,e.symm,h (.r n) (by simp)⟩
   | succ i=>exact ih (λo ho=>h o (by simp[ho])) (by simpa [ql] using e)
theorem aqo{J:ac}{i j:Nat}(h:i≠j)(h1:J[i]?=some (.list []))(h2:J[j]?=some (.list [])):kh J .NotEq (.loc i) (.loc j)=some false:=by
 show Option.map _ (ite (i=j) none _)=_;rw[if_neg h,h1,h2];rfl
theorem ajw(ss:List Nat):mn (ss.map az)=some (ss.map λi:Nat=>(so "f",(i:Int))):=by
 induction ss with
 | nil=>rfl
 | cons a l ih=>exact congrArg (Option.map ((so "f",(a:Int)):: ·)) ih
theorem agm{J:ac}{m:Nat}{ss:List Nat}(h:J[m]?=some (.list (ss.map az)))(hn:ss.Nodup)(hl:ss.length<=64):aff J (.loc m)=some ss.length:=by
 have hnd:(ss.map λi:Nat=>(so "f",(i:Int))).Nodup:=by
  clear h hl
  induction ss with
  | nil=>simp
  | cons a l ih=>
   rw[List.nodup_cons] at hn;rw[List.map_cons,List.nodup_cons];refine⟨λhm=>hn.1 ?_,ih hn.2⟩;obtain⟨b,hb,e⟩:=List.mem_map.mp hm;have:(b:Int)=a:=congrArg Prod.snd e;exact Int.ofNat.inj this▸hb
 delta aff;dsimp only;rw[h];dsimp only;rw[ajw];dsimp only
 rw[if_pos ⟨hnd,by rw[List.length_map];exact hl⟩,List.length_map]
section
variable{J0 J:ac}{r c o s n cd:Nat}{ol:List Nat}{M M1:Ms}{Q:KD}
theorem WR.fr(W:WR J0 J r c o s ol M){J':ac}(f:Fr J J'):WR J0 J' r c o s ol M:=
 ⟨f.at W.run,f.at W.cells,f.at W.objs,f.at W.qP,W.len,λi x ct h g=>f.at (W.ob i x ct h g),W.nd,W.f.trans f,W.ge⟩
theorem aqp{nb b:Nat}{ins:Nat->List D}{tm:Nat->D}(C:CO J0 cd nb ins tm)(f:Fr J0 J)(hb:b<nb)(hn:nb<=100)(q:∀m,J0[m]?=some (.list (ins b))->Q (.loc m) J):Wk (ak T0 (n+1) (.val (.ref 323)) [.loc cd,.int b] J) Q:=by
 obtain⟨dcd,bl,es,bk,it,h1,h2,h3,h4,h5,h6,h7⟩:=C;refine wC (fnS 56 1) ["self","block"] ?_;walk;refine at_ (v:=.loc bl) (f.at h1) (f.at h2) (by k_go) h3 rfl ?_;walk;refine bf (f.at h6) (cj (i:=b) (x:=.loc (bk b)) (by simp[hb]) ((ar2 0x111138842406422505413) hb hn)) ?_;walk;refine bf (f.at (h7 b hb).1) rfl ?_;walk;exact q _ (h7 b hb).2
theorem CO.mi{nb:Nat}{ins:Nat->List D}{tm:Nat->D}{KM:nu->Prop}(C:CO J cd nb ins tm)(q:KM (.fn (.val (.ref 323)))):Wv (fg (d8 T0 n) J (.loc cd) (so "instructions")) KM:=by
 obtain⟨dcd,bl,es,bk,it,h1,h2,h3,h4,h5,h6,h7⟩:=C;exact mt_ h1 h2 h4 (by k_go) q
theorem CO.mt{nb:Nat}{ins:Nat->List D}{tm:Nat->D}{KM:nu->Prop}(C:CO J cd nb ins tm)(q:KM (.fn (.val (.ref 330)))):Wv (fg (d8 T0 n) J (.loc cd) (so "terminator")) KM:=by
 obtain⟨dcd,bl,es,bk,it,h1,h2,h3,h4,h5,h6,h7⟩:=C;exact mt_ h1 h2 h5 (by k_go) q
theorem ajx{J:ac}{a:Cell}:(J++ [a]).length=J.length+1:=List.length_append
theorem aqq{J:ac}{a b:Cell}:(J++ [a]++ [b]).length=J.length+2:=ajx.trans (congrArg (·+1) ajx)
theorem at7{J:ac}{a b c:Cell}:(J++ [a]++ [b]++ [c]).length=J.length+3:=ajx.trans (congrArg (·+1) aqq)
theorem adx{nb:Nat}{ins:Nat->List D}{tm:Nat->D}{res:Rs (List D)}(C:CO J cd nb ins tm)(hn:nb<=100)(h0:0<nb)(T:To nb ins tm 0 0 (ins 0) ⟨[],[],[],none⟩ res)
  (q:∀J' m,Fr J J'->J.length<=m->(match res with
   | .ok vs=>J'[m]?=some (.list vs)->Q (.tup [.none,.loc m]) J'
   | .er t=>J'[m]?=some (.list [])->Q (.tup [.str t,.loc m]) J')):Wk (ak T0 (n+7) (.val (.ref 756)) [.loc cd] J) Q:=by
 refine wC (fnA 95) ["code"] ?_;walk;have W0:WR J (J++ [Cell.dictI []]++ [Cell.list []]++ [Cell.list []]++ [Cell.dictS (v5 J.length (J.length+1) (J.length+2) none)]) (J.length+3) J.length (J.length+1) (J.length+2) [] ⟨[],[],[],none⟩:=by
  refine⟨at7▸au _,ag (ag (ag (au _))),ag (ag (ajx▸au _)),ag (aqq▸au _),rfl,(λi x ct h=>nomatch h),by simp,?_,by intro x hx;simp at hx;exact(hx.elim (λq1=>((ar2 0x114503150442) q1)) (λq2=>(q2.elim (λq3=>((ar2 0x114505442) q3)) (λq4=>(q4.elim (λq5=>((ar2 0x114501150442) q5)) (λq6=>((ar2 0x114502150442) q6)))))))⟩;exact(((Fr.qR ..).trans (Fr.qR ..)).trans (Fr.qR ..)).trans (Fr.qR ..)
 have e1:(J++ [Cell.dictI []]).length=J.length+1:=ajx;have e2:(J++ [Cell.dictI []]++ [Cell.list []]).length=J.length+2:=aqq;have e3:(J++ [Cell.dictI []]++ [Cell.list []]++ [Cell.list []]).length=J.length+3:=at7;rw[e1,e2,e3];change WR J (J++ [Cell.dictI []]++ [Cell.list []]++ [Cell.list []]++ [Cell.dictS (putK (putK (putK (putK [] (so "cells") (D.loc J.length)) (so "objects") (D.loc (J.length+1))) (so "panic") D.none) (so "sites") (D.loc (J.length+2)))]) _ _ _ _ _ _ at W0;generalize (J++ [Cell.dictI []]++ [Cell.list []]++ [Cell.list []]++ [Cell.dictS (putK (putK (putK (putK [] (so "cells") (D.loc J.length)) (so "objects") (D.loc (J.length+1))) (so "panic") D.none) (so "sites") (D.loc (J.length+2)))])=J1 at W0⊢;clear e1 e2 e3;generalize J.length+3=r at W0⊢;generalize J.length+1=o at W0⊢;generalize J.length+2=s at W0⊢;generalize J.length=c at W0⊢;refine ajv [so "turn",so "row",so "end",so "is_once",so "here"] (nb:=nb) (ins:=ins) (tm:=tm) (o:=res) (λb M ρ J'=>ρ (so "here")=some (.int (b:Nat))/\M.pan=none/\∃ol,WR J J' r c o s ol M) (by simp) ?_ h0 T ⟨rfl,rfl,_,W0⟩ (by simp[ib]);rintro x t b M τ J2 Q' hb TT ⟨p3,p4,ol,W2⟩ qn qr;rw[aiy p3];walk;refine(C.fr W2.f).mi ?_;walk;refine aqp C W2.f hb hn λm hm=> ?_;refine sdF (W2.f.at hm) ?_;obtain⟨M1,ex,hr⟩:=TT.blk;refine al6 [so "row"] (λM J'=> ∃ol,WR J J' r c o s ol M) (λM d J'=> ∃t m,M.pan=some t/\d=.tup [.str t,.loc m]/\J'[m]?=some (.list [])/\Fr J J'/\J.length<=m) (λM J' h=>by obtain⟨ol,W⟩:=h;exact W.f.at hm) ?_ ex p4 ⟨ol,W2⟩ ?_ ?_ rfl
 ·rintro row M M1 τ3 J3 Q3 hst ⟨ol,W3⟩ qn3 qp3;obtain⟨w,ps,rfl,hrw,hops⟩:=hst.sh;walk;refine aqi hrw λJ4 m4 m5 f4 g4 l4=> ?_;walk;refine sdC g4 ?_;refine qk (L:=ql (ps.flatMap Pt.ops)) [so "one"] (λi Y J5=>Fr J4 J5/\J5[J4.length]?=some (.list [])) (λi ρ J5 h=>h.1.at g4) ?_ ⟨Fr.qR ..,au _⟩ ?_ rfl
  ·rintro i x τ5 J5 Q5 hx ⟨h2,h3⟩ q5;have W5:=(W3.fr f4).fr h2;obtain⟨z,rfl,hz⟩:=al7 hops hx;walk;refine sDS (v:=.loc c) W5.run rfl ?_;refine cK (t:=false) ((inN W5.cells).trans (by rw[hz];rfl)) ?_;walk;exact q5 _ _ (by k_lt2 za) ⟨h2,h3⟩
  ·rintro τ5 J5 ⟨h2,h3⟩;have W5:=(W3.fr f4).fr h2;have hlt:=ae h3;walk;refine cK (aqo ((ar2 zAF) hlt) (ag h3) (au _)) ?_;walk;refine hst.run _ _ _ _ _ _ _ _ _ (W5.qR _) λJ6 ol6 W6=> ?_;walk;refine sDS W6.run (v:=pD M1.pan) rfl ?_;walk;cases hpn:M1.pan with
   | none=>
    walk;exact qn3 _ _ hpn (by k_lt2 za) ⟨ol6,W6⟩
   | some t=>
    walk;refine sDS W6.run (v:=.str t) (by rw[hpn];rfl) ?_;walk;exact qp3 _ t _ _ hpn ⟨t,_,hpn,rfl,au _,W6.f.trans (Fr.qR ..),W6.f.1⟩
 ·rintro τ3 J3 hp3 ⟨ol,W3⟩;rcases hr with⟨x,hx,_⟩ | ⟨_,hT⟩
  ·rw[hx] at hp3;cases hp3
  have C3:=C.fr W3.f;walk;refine C3.mt ?_;walk;refine aju C3 hb hn ?_;cases hT with
  | @jmp _ _ b' _ _ h hb' e=>
   rw[h];walk;exact qn b' M1 _ _ (by k_lt2 za) hb' e ⟨aer,hp3,ol,W3⟩
  | @br _ _ r' x y v _ _ h hv hx hy e=>
   rw[h];walk;refine kj (a:=.r r') W3 hv ?_;walk
   induction v with
   | false=>
    walk;exact qn y M1 _ _ (by k_lt2 za) hy e ⟨aer,hp3,ol,W3⟩
   | true=>
    walk;exact qn x M1 _ _ (by k_lt2 za) hx e ⟨aer,hp3,ol,W3⟩
  | @ret _ _ l vs _ h hv hs hl ht=>
   obtain⟨ss,hss,hnd,hsl⟩:=hs;have as3:=W3.qP;rw[hss] at as3;rw[h];walk;refine sDS (v:=.loc s) W3.run rfl ?_;walk;refine qd (len_list as3 (aj (by simp;exact(ar1 0x11138842404022402) hsl))) ?_;walk;refine sDS (v:=.loc s) W3.run rfl ?_;walk;refine tSet (agm as3 hnd hsl) ?_;walk;refine qd (m:=ss.length) (aln (au _)) ?_;refine cK (t:=true) (congrArg some (beq_iff_eq.mpr (by simp))) ?_;have W4:=W3.qR [Cell.set ss.length];generalize J3++ [Cell.set ss.length]=J4 at W4⊢;walk;have hvl:vs.length=l.length:=by have:=congrArg List.length hv;simpa using this.symm
   refine aab [so "one"] (λi Y J5=>WR J J5 r c o s ol M1/\Fr J4 J5/\J5[J4.length]?=some (.list (vs.take i))) ?_ ⟨W4.qR _,Fr.qR ..,au _⟩ ?_
   ·rintro i x τ5 J5 Q5 hx ⟨h2,h3,h4⟩ q5;rw[List.getElem?_map] at hx;obtain⟨a,ha,rfl⟩:=yA hx;have hi:=ae ha;have hva:vl M1 a=some vs[i]:=by
     have:=congrArg (λz=>z[i]?) hv;simp only[List.getElem?_map,ha,Option.map_some] at this;rw[yC (Nat.lt_of_lt_of_eq hi hvl.symm)] at this;simpa using this
    have hpa:=cq a;walk;refine kj h2 hva ?_;walk;have et:vs.take i++ [vs[i]]=vs.take (i+1):=by rw[List.take_add_one,yC (Nat.lt_of_lt_of_eq hi hvl.symm)];rfl
    have hlt:=W4.lt;refine ck h4 (aj (by simp;exact yK (Nat.min_le_right _ _) (yK (Nat.le_of_eq hvl) (yK hl (by decide))))) ?_;rw[et];exact q5 _ _ (by k_lt2 za) ⟨h2.out (λy hy=>yO (hlt y hy)) W4.f.1 _,h3.qE (yE _) _,bj h4⟩
   ·rintro τ5 J5 ⟨h2,h3,h4⟩;rw[List.length_map,<-hvl,List.take_length] at h4;walk;exact qr _ _ _ (q _ _ h2.f W4.f.1 h4)
 ·intro d ρ3 J3 hne hh3;obtain⟨t3,m3,q1,rfl,q3,q4,q5⟩:=hh3;rcases hr with⟨x,hx,rfl⟩ | ⟨hh,_⟩
  ·rw[hx] at q1;cases q1;exact qr _ _ _ (q _ _ q4 q5 q3)
  ·exact(hne (hh p4)).elim
end
theorem d5{α:Type}{P:α->Prop}:∀p∈([]:List α),P p:=λY m=>nomatch m
theorem be{α:Type}{P:α->Prop}{a:α}{l:List α}(h:P a)(k:∀p∈l,P p):∀p∈a::l,P p:=λY m=>(yM m).elim (λe=>e▸h) (k _)
theorem v6{M:Ms}{p:Opd}{v:D}(h:vl M p=some v):(vl M p).isSome=true:=by rw[h];rfl
noncomputable def NI:D->Prop
 | .int Y | .bool Z | .tup U=>True
 | Y=>False
theorem aac{v:D}(h:NI v)(J:ac):kh J .NotEq v (.str (so "ill"))=some true:=by
 cases v<;>first | rfl | exact h.elim
theorem acg{v:D}(h:NI v):ao v=true:=by cases v<;>first | rfl | exact h.elim
section
variable{M M':Ms}{w:String}{ps:List Pt}{vs:List D}{v:D}{z:Nat}
theorem tg(hw:Wd1 w)(E:Eff M w ps v M')(V:Vs M ps vs)(ok:∀p∈ps,jh p)(hr:∀o∈ps.flatMap Pt.ops,(vl M o).isSome=true)(hl:ps.length<=80)(hp:M.pan=none)(hO:M.objs.length<=4900)(hC:M'.cells.length<=4900)(hv:NI v):
  Stp (.tup (k w::.int z::ps.map Pt.d)) M {M' with cells:=putK M'.cells z v}:=
 ⟨⟨w,.x (.int z)::ps,rfl,rw1 hw ok hl,by simpa [Pt.ops] using hr⟩,λn J0 J r c o s ol Q W q=>te hw (λQ' q'=>aqk W E V hl hp ((ar1 zAO) hO) λJ' W'=>q' J' ol W') (aac hv) (acg hv) hC q⟩
theorem ae1{st:Nat}(hO:M.objs.length<=4900)(hS:M.qP.length<=4900)(hC:M.cells.length<=4900):
  Stp (.tup [k "new",.int z,i8,az st]) M {M with qP:=M.qP++ [az st],objs:=M.objs++ [.l [.int 0]],cells:=putK M.cells z (ptD M.objs.length .none)}:=
 ⟨⟨"new",[.x (.int z),.x i8,.x (az st)],rfl,rw1 (ps:=[.x i8,.x (az st)]) .new (be w9 (be (aqn _) d5)) (yL rfl),d5⟩,λn J0 J r c o s ol Q W q=>te .new (λQ' q'=>atz W hO hS q') (aac trivial) rfl hC q⟩
theorem al8{st:Nat}(hO:M.objs.length<=4900)(hS:M.qP.length<=4900)(hC:M.cells.length<=4900):
  Stp (.tup [k "makeslice",.int z,bp,cI 3,cI 3,az st]) M {M with qP:=M.qP++ [az st],objs:=M.objs++ [.l [.int 0,.int 0,.int 0]],cells:=putK M.cells z (ptD M.objs.length .none)}:=
 ⟨⟨"makeslice",[.x (.int z),.x bp,.p (.c ab6 (.int 3)),.p (.c ab6 (.int 3)),.x (az st)],rfl,rw1 (ps:=[.x bp,.p (.c ab6 (.int 3)),.p (.c ab6 (.int 3)),.x (az st)]) .makeslice (by simp[ptSl,aqn,ptO]) (by simp),by simp[Pt.ops,vl]⟩,λn J0 J r c o s ol Q W q=>te .makeslice (λQ' q'=>at0 W hO hS q') (aac trivial) rfl hC q⟩
theorem al9{st:Nat}(hO:M.objs.length<=4900)(hS:M.qP.length<=4900)(hC:M.cells.length<=4900):
  Stp (.tup [k "makemap",.int z,gj,az st]) M {M with qP:=M.qP++ [az st],objs:=M.objs++ [.d []],cells:=putK M.cells z (ptD M.objs.length .none)}:=
 ⟨⟨"makemap",[.x (.int z),.x gj,.x (az st)],rfl,rw1 (ps:=[.x gj,.x (az st)]) .makemap (be ptMp (be (aqn _) d5)) (yL rfl),d5⟩,λn J0 J r c o s ol Q W q=>te .makemap (λQ' q'=>at1 W hO hS q') (aac trivial) rfl hC q⟩
variable{p a b:Opd}{i j:Nat}{jd:D}{xs:List D}{es:List (Int×D)}{x:Int}
theorem r7(hp:vl M p=some (ptD i jd))(hj:(jd=.none/\j=0)\/jd=.int j)(ha:vl M a=some v)(hv:ao v=true)(ho:M.objs[i]?=some (.l xs))(hjl:j<xs.length)(hx:xs.length<=100)(hO:M.objs.length<=4900):
  Stp (.tup [k "store",p.d,a.d]) M {M with objs:=M.objs.set i (.l (xs.set j v))}:=
 ⟨⟨"store",[.p p,.p a],rfl,rw0 (.inl rfl) (be (ptO _) (be (ptO _) d5)) (yL rfl),be (v6 hp) (be (v6 ha) d5)⟩,λn J0 J r c o s ol Q W q=>al4 W hp hj ha hv ho hjl hx hO λJ' W'=>q J' ol W'⟩
theorem v7(hp:vl M p=some (ptD i jd))(ha:vl M a=some (.int x))(hb:vl M b=some v)(ho:M.objs[i]?=some (.d es))(hx:es.length<=100)(hO:M.objs.length<=4900):
  Stp (.tup [k "mapset",p.d,a.d,b.d]) M {M with objs:=M.objs.set i (.d (putK es x v))}:=
 ⟨⟨"mapset",[.p p,.p a,.p b],rfl,rw0 (.inr rfl) (be (ptO _) (be (ptO _) (be (ptO _) d5))) (yL rfl),be (v6 hp) (be (v6 ha) (be (v6 hb) d5))⟩,λn J0 J r c o s ol Q W q=>aql W hp ha hb ho hx hO λJ' W'=>q J' ol W'⟩
theorem ajy(hp:vl M p=some (ptD i jd))(ha:vl M a=some (.int x))(ho:M.objs[i]?=some (.d es))(hx:es.length<=100)(hO:M.objs.length<=4900)(hC:M.cells.length<=4900):
  Stp (.tup [k "mapget",.int z,.none,p.d,a.d,i8]) M {M with cells:=putK M.cells z ((atK es x).getD (.int 0))}:=
 ⟨⟨"mapget",[.x (.int z),.x .none,.p p,.p a,.x i8],rfl,rw2 (ps:=[.p p,.p a,.x i8]) (.inl rfl) (.inl rfl) (be (ptO _) (be (ptO _) (be w9 d5))) (yL rfl),be (v6 hp) (be (v6 ha) d5)⟩,λn J0 J r c o s ol Q W q=>aqm W hp ha ho hx hO hC λJ' W'=>q J' ol W'⟩
theorem agn{z2:Nat}(hp:vl M p=some (ptD i jd))(ha:vl M a=some (.int x))(ho:M.objs[i]?=some (.d es))(hx:es.length<=100)(hO:M.objs.length<=4900)(hC:M.cells.length<=4900):
  Stp (.tup [k "mapget",.int z,.int z2,p.d,a.d,i8]) M {M with cells:=putK (putK M.cells z ((atK es x).getD (.int 0))) z2 (.bool (atK es x).isSome)}:=
 ⟨⟨"mapget",[.x (.int z),.x (.int z2),.p p,.p a,.x i8],rfl,rw2 (ps:=[.p p,.p a,.x i8]) (.inl rfl) (.inr ⟨_,rfl⟩) (be (ptO _) (be (ptO _) (be w9 d5))) (yL rfl),be (v6 hp) (be (v6 ha) d5)⟩,λn J0 J r c o s ol Q W q=>al5 W hp ha ho hx hO hC λJ' W'=>q J' ol W'⟩
theorem aqr(hp:vl M p=some (.tup [i8,v]))(hv:ao v=true)(hC:M.cells.length<=4900):
  Stp (.tup [k "assert",.int z,.none,p.d,i8,bw]) M {M with cells:=putK M.cells z v}:=
 ⟨⟨"assert",[.x (.int z),.x .none,.p p,.x i8,.x bw],rfl,rw2 (ps:=[.p p,.x i8,.x bw]) (.inr rfl) (.inl rfl) (be (ptO _) (be w9 (be at6 d5))) (yL rfl),be (v6 hp) d5⟩,λn J0 J r c o s ol Q W q=>s_as W hp hv hC λJ' W'=>q J' ol W'⟩
theorem ama(hp:vl M p=some (.tup [bo,v]))(hP:M.pan=none)(hC:M.cells.length<=4900):
  Stp (.tup [k "assert",.int z,.none,p.d,i8,bw]) M {M with pan:=some vy,cells:=putK M.cells z (.int 0)}:=
 ⟨⟨"assert",[.x (.int z),.x .none,.p p,.x i8,.x bw],rfl,rw2 (ps:=[.p p,.x i8,.x bw]) (.inr rfl) (.inl rfl) (be (ptO _) (be w9 (be at6 d5))) (yL rfl),be (v6 hp) d5⟩,λn J0 J r c o s ol Q W q=>at3 W hp hP hC λJ' W'=>q J' ol W'⟩
end
theorem rN{k n:Nat}(h:k<n):(k:Int)≠(n:Int):=λe=>yO h (Int.ofNat.inj e)
structure WF(X:LS):Prop where
 here:X.here<X.nb
 tm:X.tm X.here=.none
structure Ext(X F:LS):Prop where
 nb:X.nb<=F.nb
 done:∀i,i<X.nb->X.tm i≠ .none->F.ins i=X.ins i/\F.tm i=X.tm i
 pre:∀i,i<X.nb->∃r,F.ins i=X.ins i++r
 st:X.qP<=F.qP
 f1:F.nb<=100
 f2:F.qP<=64
noncomputable def Cl(Y:LS)(i:Nat):Prop:=(∃b,Y.tm i=acf b/\b<Y.nb)\/∃r a b,Y.tm i=brD r a b/\a<Y.nb/\b<Y.nb/\a≠b
noncomputable def Su(Y:LS)(p i:Nat):Prop:=Y.tm p=acf i\/∃r a b,Y.tm p=brD r a b/\(a=i\/b=i)
structure Le0(X Y:LS):Prop where
 wf:WF Y
 nb:X.nb<=Y.nb
 oth:∀i,i<X.nb->i≠X.here->Y.ins i=X.ins i/\Y.tm i=X.tm i
 pre:∃r,Y.ins X.here=X.ins X.here++r
 hr:Y.here=X.here\/X.nb<=Y.here
 rg:X.qO.length<=Y.qO.length
 st:X.qP<=Y.qP
 qQ:Y.qQ<=X.qQ
structure Le(X Y:LS):Prop extends Le0 X Y where
 clo:∀i,i<Y.nb->i=Y.here\/(i<X.nb/\i≠X.here)\/Cl Y i
 suc:∀i,X.nb<=i->i<Y.nb->∃p,p<i/\(p=X.here\/X.nb<=p)/\Su Y p i
section
variable{X Y Z F:LS}
theorem Le0.triv(a:Le0 X Y)(hn:Y.nb=X.nb)(hh:Y.here=X.here):Le X Y:=⟨a,λi hi=>by
 by_cases h:i=Y.here
 ·exact .inl h
 ·exact .inr (.inl ⟨by exact(ar3 0x1115614615423) hn hi,by exact(λq1=>((Nat.lt_or_gt_of_ne h).elim (λq2=>((ar3 0x1111010134615645424) hh q1 q2)) (λq3=>((ar3 0x1111010136415625444) hh q1 q3))))⟩),λi h1 h2=>by exact((ar3 0x1111010134616505424) hn h1 h2).elim⟩
theorem Le.refl(W:WF X):Le X X:=Le0.triv ⟨W,yE _,λY Z U=>⟨rfl,rfl⟩,⟨[],by simp⟩,.inl rfl,yE _,yE _,yE _⟩ rfl rfl
theorem Le0.trans(W:WF X)(a:Le0 X Y)(b:Le0 Y Z):Le0 X Z:=by
 have h1:=W.here;refine⟨b.wf,yK a.nb b.nb,λi hi hn=> ?_,?_,?_,yK a.rg b.rg,yK a.st b.st,yK b.qQ a.qQ⟩
 ·have hy:i≠Y.here:=a.hr.elim (λh e=>hn (e.trans h)) λh e=>Nat.not_le.mpr hi (e▸h);obtain⟨c1,c2⟩:=a.oth i hi hn;obtain⟨d1,d2⟩:=b.oth i (yJ hi a.nb) hy;exact⟨d1.trans c1,d2.trans c2⟩
 ·obtain⟨r,hr⟩:=a.pre;rcases a.hr with h | h
  ·obtain⟨r',hr'⟩:=b.pre;rw[h] at hr';exact⟨r++r',by rw[hr',hr,List.append_assoc]⟩
  ·exact⟨r,by rw[(b.oth X.here (yJ h1 a.nb) ((ar3 0x1111010136446505414) h1 h)).1,hr]⟩
 ·have:=a.nb;rcases a.hr with h | h<;>rcases b.hr with g | g
  ·left;exact(ar3 0x1111115624625423) h g
  ·right;exact(ar3 zA1) this g
  ·right;exact(ar3 0x1116405645403) h g
  ·right;exact(ar3 zA1) this g
theorem Su.ne{p i:Nat}(W:WF Y)(h:Su Y p i):p≠Y.here:=by
 rintro rfl;rcases h with h | ⟨_,_,_,h,_⟩<;>exact D.noConfusion (W.tm.symm.trans h)
theorem Su.eq{p i:Nat}(h:Su Y p i)(e:Z.tm p=Y.tm p):Su Z p i:=by unfold Su;rw[e];exact h
theorem Cl.eq{i:Nat}(h:Cl Y i)(e:Z.tm i=Y.tm i)(hn:Y.nb<=Z.nb):Cl Z i:=by
 unfold Cl;rw[e];rcases h with⟨b,h,g⟩ | ⟨r,a,b,h,g1,g2,g3⟩
 ·exact .inl ⟨b,h,by exact(ar3 zAU) hn g⟩
 ·exact .inr ⟨r,a,b,h,by exact(ar3 zAU) hn g1,by exact(ar3 zAU) hn g2,g3⟩
theorem Le.trans(W:WF X)(a:Le X Y)(b:Le Y Z):Le X Z:=by
 refine⟨a.toLe0.trans W b.toLe0,λi hi=> ?_,λi h1 h2=> ?_⟩
 ·rcases b.clo i hi with h | ⟨h1,h2⟩ | h
  ·exact .inl h
  ·rcases a.clo i h1 with h | h | h
   ·exact(h2 h).elim
   ·exact .inr (.inl h)
   ·exact .inr (.inr (h.eq (b.oth i h1 h2).2 b.nb))
  ·exact .inr (.inr h)
 ·by_cases h3:i<Y.nb
  ·obtain⟨p,p1,p2,p3⟩:=a.suc i h1 h3;exact⟨p,p1,p2,p3.eq (b.oth p ((ar3 0x1115614615413) h3 p1) (p3.ne a.wf)).2⟩
  ·obtain⟨p,p1,p2,p3⟩:=b.suc i ((ar2 zAV) (Nat.le_of_not_lt h3)) h2;have:=a.nb;exact⟨p,p1,p2.elim (λh=>a.hr.imp h.trans λg=>h▸g) λh=> .inr (yK a.nb h),p3⟩
theorem Ext.of(W:WF X)(a:Le0 X Y)(E:Ext Y F):Ext X F:=by
 refine⟨yK a.nb E.nb,λi hi ht=> ?_,λi hi=> ?_,yK a.st E.st,E.f1,E.f2⟩
 ·have hn:i≠X.here:=λh=>ht (h▸W.tm);obtain⟨c1,c2⟩:=a.oth i hi hn;obtain⟨d1,d2⟩:=E.done i (yJ hi a.nb) (by rw[c2];exact ht);exact⟨d1.trans c1,d2.trans c2⟩
 ·obtain⟨r,hr⟩:=E.pre i (yJ hi a.nb);by_cases hn:i=X.here
  ·subst hn;obtain⟨r',hr'⟩:=a.pre;exact⟨r'++r,by rw[hr,hr',List.append_assoc]⟩
  ·exact⟨r,by rw[hr,(a.oth i hi hn).1]⟩
theorem WF.nr(W:WF X)(ty:D):WF (X.qA ty):=⟨W.here,W.tm⟩
theorem WF.pt(W:WF X)(d:D):WF (X.put d):=⟨W.here,W.tm⟩
theorem WF.si(W:WF X):WF X.site:=⟨W.here,W.tm⟩
theorem mf(W:WF X)(ty:D):Le X (X.qA ty):=Le0.triv ⟨W.nr ty,yE _,λY Z U=>⟨rfl,rfl⟩,⟨[],(List.append_nil _).symm⟩,.inl rfl,by simp[LS.qA],yE _,Nat.sub_le _ _⟩ rfl rfl
theorem bu(W:WF X)(d:D):Le X (X.put d):=Le0.triv ⟨W.pt d,yE _,λi Y h=>⟨bh _ _ h,rfl⟩,⟨[d],dh _ _ _⟩,.inl rfl,yE _,yE _,Nat.sub_le _ _⟩ rfl rfl
theorem ti(W:WF X):Le X X.site:=Le0.triv ⟨W.si,yE _,λY Z U=>⟨rfl,rfl⟩,⟨[],(List.append_nil _).symm⟩,.inl rfl,yE _,Nat.le_succ _,yE _⟩ rfl rfl
theorem cg(W:WF X)(ty:D)(w:String)(r:List D):Le X (fr X ty w r).2:=(mf W ty).trans W (bu (W.nr ty) _)
theorem ach(X:LS)(ty:D)(w:String)(r:List D):(fr X ty w r).2.qO.length=X.qO.length+1:=by simp[fr,LS.fresh,LS.qA,LS.put]
end
noncomputable def rest(F X:LS):List D:=(F.ins X.here).drop (X.ins X.here).length
noncomputable abbrev Tof(F:LS)(t:Nat)(X:LS)(M:Ms)(o:Rs (List D)):Prop:=To F.nb F.ins F.tm t X.here (rest F X) M o
section
variable{X F:LS}{M M1:Ms}{row:D}{t:Nat}{o:Rs (List D)}
theorem aci(W:WF X)(E:Ext (X.put row) F):rest F X=row::rest F (X.put row):=by
 obtain⟨r,hr⟩:=E.pre X.here W.here;have e:(X.put row).ins X.here=X.ins X.here++ [row]:=dh _ _ _;unfold rest;show(F.ins X.here).drop (X.ins X.here).length=row::(F.ins X.here).drop ((X.put row).ins X.here).length;rw[hr,e];simp
theorem cz(W:WF X)(E:Ext (X.put row) F)(S:Stp row M M1)(hp:M1.pan=none)(h:Tof F t (X.put row) M1 o):Tof F t X M o:=by
 show To _ _ _ _ _ _ _ _;rw[aci W E];exact .ok S hp h
theorem ae2{e:Str}(W:WF X)(E:Ext (X.put row) F)(S:Stp row M M1)(hp:M1.pan=some e)(ht:t<=100):Tof F t X M (.er e):=by
 show To _ _ _ _ _ _ _ _;rw[aci W E];exact .pan S hp ht
end
structure Inv(X:LS)(M:Ms)(t:Nat):Prop where
 pan:M.pan=none
 c:M.cells.length+X.qQ<=4200
 o:M.objs.length+X.qQ<=4200
 r4:4<=X.qO.length
 c0:atK M.cells 0=some (.int 3)
 c1:atK M.cells 1=some (ptD 0 .none)
 c2:atK M.cells 2=some (.bool true)
 c3:atK M.cells 3=some (.tup [.int 7,.int 100])
 o0:M.objs[0]?=some (.l [.int (-128)])
 s:∃ss:List Nat,M.qP=ss.map az/\ss.Nodup/\ss.length<=X.qP/\∀x∈ss,x<=X.qP
 t:t<=X.nb
structure fj(X:LS)(M:Ms)(t:Nat)(X':LS)(M':Ms)(t':Nat):Prop where
 c:∀i:Nat,i<X.qO.length->∀v,atK M.cells (i:Int)=some v->atK M'.cells (i:Int)=some v
 o:∀(i:Nat) ct,M.objs[i]?=some ct->M'.objs[i]?=some ct
 t:t'+X.nb<=t+X'.nb
noncomputable def OkO(o:Opd)(X:LS):Prop:=match o with
 | .c Y Z=>True
 | .r n=>n<X.qO.length
section
variable{X Y Z F:LS}{M M1 M2:Ms}{t t1 t2:Nat}{o:Opd}{v:D}
theorem fj.refl:fj X M t X M t:=⟨λY Z U h=>h,λY Z h=>h,by exact(ar2 0x154054001)⟩
theorem fj.trans(a:fj X M t Y M1 t1)(hr:X.qO.length<=Y.qO.length)(b:fj Y M1 t1 Z M2 t2):fj X M t Z M2 t2:=
 ⟨λi hi v h=>b.c i ((ar3 zAU) hr hi) v (a.c i hi v h),λi c h=>b.o i c (a.o i c h),by have z1:=a.t;have z2:=b.t;exact(ar6 0x1119605800940780076054003) z1 z2⟩
theorem fj.vl(a:fj X M t Y M1 t1)(ok:OkO o X)(h:vl M o=some v):vl M1 o=some v:=by
 induction o with
 | c ty w=>exact h
 | r n=>exact a.c n ok v h
theorem OkO.mono(ok:OkO o X)(h:X.qO.length<=Y.qO.length):OkO o Y:=by
 induction o with
 | c ty w=>trivial
 | r n=>exact yJ ok h
theorem ba{α:Type}[DecidableEq α](l:List (α×D)){x y:α}(v:D)(h:y≠x):atK (putK l x v) y=atK l y:=by
 unfold putK atK;split
 ·rename_i hh;clear hh
  induction l with
  | nil=>rfl
  | cons e l ih=>
   simp only[List.map_cons,List.find?_cons];by_cases he:e.1=x
   ·have hy:decide (e.1=y)=false:=decide_eq_false (by rw[he];exact Ne.symm h);simp only[he,if_true] at ih⊢;have hy2:decide (x=y)=false:=decide_eq_false (Ne.symm h);simp only[hy2];exact ih
   ·simp only[he,if_false];by_cases hy:e.1=y
    ·simp[hy]
    ·simp only[hy,decide_false];exact ih
 ·rw[List.find?_append];have:List.find? (λkv=>decide (kv.1=y)) [(x,v)]=none:=by simp[Ne.symm h]
  rw[this];simp
theorem qo(I:Inv X M t)(hr:X.qO.length<Y.qO.length)(hb:Y.qQ+1<=X.qQ)(hn:Y.nb=X.nb)(hs:Y.qP=X.qP)(v:D):
  Inv Y {M with cells:=putK M.cells (X.qO.length:Nat) v} t/\fj X M t Y {M with cells:=putK M.cells (X.qO.length:Nat) v} t:=by
 have r4:=I.r4;have hc:=I.c;have ho:=I.o;have hl:=ja M.cells (X.qO.length:Int) v;refine⟨⟨I.pan,by simp only;exact(ar4 zC1) hb hc hl,by simp only;exact(ar3 zCJ) hb ho,by exact(ar2 0x111541044105413) hr r4,?_,?_,?_,?_,I.o0,by rw[hs];exact I.s,by rw[hn];exact I.t⟩,⟨λi hi v' h=> ?_,λi ct h=>h,by exact(ar3 0x1146056005442) hn⟩⟩
 ·simp only;rw[ba _ _ (by first | exact rN (k:=0) (yJ (by decide) r4) | exact(rN (k:=0) (yJ (by decide) r4)).symm)];exact I.c0
 ·simp only;rw[ba _ _ (by first | exact rN (k:=1) (yJ (by decide) r4) | exact(rN (k:=1) (yJ (by decide) r4)).symm)];exact I.c1
 ·simp only;rw[ba _ _ (by first | exact rN (k:=2) (yJ (by decide) r4) | exact(rN (k:=2) (yJ (by decide) r4)).symm)];exact I.c2
 ·simp only;rw[ba _ _ (by first | exact rN (k:=3) (yJ (by decide) r4) | exact(rN (k:=3) (yJ (by decide) r4)).symm)];exact I.c3
 ·simp only;rw[ba _ _ (cne (yO hi))];exact h
theorem amb(I:Inv X M t)(hr:X.qO.length<Y.qO.length)(hb:Y.qQ+1<=X.qQ)(hn:Y.nb=X.nb)(hs:Y.qP=X.qP+1)(ct:Ct)(v:D):
  Inv Y {M with qP:=M.qP++ [az (X.qP+1)],objs:=M.objs++ [ct],cells:=putK M.cells (X.qO.length:Nat) v} t/\fj X M t Y {M with qP:=M.qP++ [az (X.qP+1)],objs:=M.objs++ [ct],cells:=putK M.cells (X.qO.length:Nat) v} t:=by
 have r4:=I.r4;have hc:=I.c;have ho:=I.o;have hl:=ja M.cells (X.qO.length:Int) v;refine⟨⟨I.pan,by simp only;exact(ar4 zC1) hb hc hl,by simp only[List.length_append,List.length_cons,List.length_nil];exact(ar3 0x111106842411010600010684256005114003) hb ho,by exact(ar2 0x111541044105413) hr r4,?_,?_,?_,?_,?_,?_,by rw[hn];exact I.t⟩,⟨λi hi v' h=> ?_,λi ct h=> ?_,by exact(ar3 0x1146056005442) hn⟩⟩
 ·simp only;rw[ba _ _ (by first | exact rN (k:=0) (yJ (by decide) r4) | exact(rN (k:=0) (yJ (by decide) r4)).symm)];exact I.c0
 ·simp only;rw[ba _ _ (by first | exact rN (k:=1) (yJ (by decide) r4) | exact(rN (k:=1) (yJ (by decide) r4)).symm)];exact I.c1
 ·simp only;rw[ba _ _ (by first | exact rN (k:=2) (yJ (by decide) r4) | exact(rN (k:=2) (yJ (by decide) r4)).symm)];exact I.c2
 ·simp only;rw[ba _ _ (by first | exact rN (k:=3) (yJ (by decide) r4) | exact(rN (k:=3) (yJ (by decide) r4)).symm)];exact I.c3
 ·simp only;rw[List.getElem?_append_left (ae I.o0)];exact I.o0
 ·obtain⟨ss,e1,e2,e3,e4⟩:=I.s;refine⟨ss++ [X.qP+1],by simp[e1],?_,by simp[hs,e3],λx hx=> ?_⟩
  ·rw[List.nodup_append];refine⟨e2,by simp,λa ha b hb=> ?_⟩;have:=e4 a ha;simp at hb;exact(ar3 0x1111010136441150645404) this hb
  ·rcases List.mem_append.mp hx with h | h
   ·have:=e4 x h;exact(ar3 0x1114605601150443) hs this
   ·simp at h;exact(ar3 0x1114601150621150443) hs h
 ·simp only;rw[ba _ _ (cne (yO hi))];exact h
 ·simp only;rw[List.getElem?_append_left (ae h)];exact h
theorem amc{M0:Ms}(I:Inv X M t)(hb:Y.qQ+1<=X.qQ)(hr:Y.qO.length=X.qO.length)(hn:Y.nb=X.nb)(hs:Y.qP=X.qP){i:Nat}(hi:M0.objs.length<=i)(h0:M0.objs[0]? ≠none)(ct:Ct)(K:fj Z M0 t1 X M t):
  Inv Y {M with objs:=M.objs.set i ct} t/\fj Z M0 t1 Y {M with objs:=M.objs.set i ct} t:=by
 have hc:=I.c;have ho:=I.o;have h1:0<M0.objs.length:=by
  rcases Nat.eq_zero_or_pos M0.objs.length with h | h
  ·exact(h0 (List.getElem?_eq_none ((ar1 0x11014001422) h))).elim
  ·exact h
 refine⟨⟨I.pan,by simp only;exact(ar3 zCJ) hb hc,by simp only[List.length_set];exact(ar3 zCJ) hb ho,by rw[hr];exact I.r4,I.c0,I.c1,I.c2,I.c3,?_,by rw[hs];exact I.s,by rw[hn];exact I.t⟩,⟨K.c,λj ct' h=> ?_,by rw[hn];exact K.t⟩⟩
 ·simp only;rw[yB (by exact(ar2 0x111101013015240115404) hi h1)];exact I.o0
 ·have:=ae h;simp only;rw[yB (by exact(ar3 zA2) hi this)];exact K.o j ct' h
end
noncomputable def KP{α:Type}(R:α->Ms->Opd->Prop):Prop:=∀{{x X M t Y M' t' p}},fj X M t Y M' t'->OkO p X->R x M p->R x M' p
structure Cor{α:Type}(low:LS->Opd×LS)(sem:Rs α)(R:α->Ms->Opd->Prop):Prop where
 le:∀X,WF X->4<=X.qO.length->Le X (low X).2/\OkO (low X).1 (low X).2
 kp:KP R
 run:∀F X M t o,WF X->Ext (low X).2 F->0<(low X).2.qQ->Inv X M t->
  (∀x,sem=.ok x->∀M' t',Inv (low X).2 M' t'->fj X M t (low X).2 M' t'->R x M' (low X).1->Tof F t' (low X).2 M' o)->(∀s,sem=.er s->o=.er s)->Tof F t X M o
noncomputable def at8:Pt->Bool
 | .pp Y Z=>false
 | Y=>true
theorem Vs.hr{M:Ms}{ps:List Pt}{vs:List D}(V:Vs M ps vs)(h:ps.all at8=true):∀o∈ps.flatMap Pt.ops,(vl M o).isSome=true:=by
 refine V.ind (C:=λps Y=>ps.all at8=true->∀o∈ps.flatMap Pt.ops,(vl M o).isSome=true) (λY Z m=>nomatch m) (λh1 Y ih h o m=> ?_) (λY ih h=>ih (yQ h).2) (λY h=> ?_) h
 ·rcases yM m with rfl | m
  ·rw[h1];rfl
  ·exact ih (yQ h).2 o m
 ·cases h
section
variable{X F:LS}{M M':Ms}{t:Nat}{o:Rs (List D)}{ty v:D}{w:String}{rs:List D}{ps:List Pt}{vs:List D}
theorem aqs(W:WF X)(E:Ext (fr X ty w rs).2 F)(hb:0<(fr X ty w rs).2.qQ)(I:Inv X M t)(S:Stp (.tup (k w::.int X.qO.length::rs)) M {M with cells:=putK M.cells (X.qO.length:Nat) v})
  (q:∀M',Inv (fr X ty w rs).2 M' t->fj X M t (fr X ty w rs).2 M' t->vl M' (.r X.qO.length)=some v->M'.objs=M.objs->Tof F t (fr X ty w rs).2 M' o):Tof F t X M o:=by
 have hb:0<X.qQ - 1 - 1:=hb;obtain⟨I',K'⟩:=qo (Y:=(fr X ty w rs).2) I (by rw[ach];exact(ar1 0x11140411)) (by show X.qQ - 1 - 1+1<=X.qQ;exact(ar3 zBK) (aC ((ar2 zAA) hb aS)) aS) rfl rfl v;exact cz (X:=X.qA ty) (W.nr ty) E S I'.pan (q _ I' K' (dg ..) rfl)
theorem cn(W:WF X)(E:Ext (fr X ty w rs).2 F)(hb:0<(fr X ty w rs).2.qQ)(I:Inv X M t)(hw:Wd1 w)(Ef:Eff M w ps v M)(V:Vs M ps vs)(he:rs=ps.map Pt.d)(ok:∀p∈ps,jh p)(hr:∀o∈ps.flatMap Pt.ops,(vl M o).isSome=true)(hl:ps.length<=80)(hv:NI v)
  (q:∀M',Inv (fr X ty w rs).2 M' t->fj X M t (fr X ty w rs).2 M' t->vl M' (.r X.qO.length)=some v->M'.objs=M.objs->Tof F t (fr X ty w rs).2 M' o):Tof F t X M o:=by
 subst he;have z1:=I.c;have z2:=I.o;exact aqs W E hb I (tg hw Ef V ok hr hl I.pan ((ar2 zAB) z2) ((ar2 zAB) z1) hv) q
theorem aad{e:Str}(W:WF X)(E:Ext (fr X ty w rs).2 F)(I:Inv X M t)(hw:Wd1 w)(Ef:Eff M w ps v {M with pan:=some e})(V:Vs M ps vs)(he:rs=ps.map Pt.d)(ok:∀p∈ps,jh p)(hr:∀o∈ps.flatMap Pt.ops,(vl M o).isSome=true)(hl:ps.length<=80)(hv:NI v):Tof F t X M (.er e):=by
 subst he;have z1:=I.c;have z2:=I.o;have z3:=I.t;have h2:X.nb<=F.nb:=E.nb;have z4:=E.f1;exact ae2 (X:=X.qA ty) (W.nr ty) E (tg hw Ef V ok hr hl I.pan ((ar2 zAB) z2) (by simp only;exact(ar2 zAB) z1) hv) rfl ((ar3 0x11116422406422606505404) z3 h2 z4)
end
noncomputable def RI(x:Int)(M:Ms)(p:Opd):Prop:=vl M p=some (.int x)/\InR x
noncomputable def RB(x:Bool)(M:Ms)(p:Opd):Prop:=vl M p=some (.bool x)
section
variable{α β:Type}{la lb:LS->Opd×LS}{sa:Rs α}{sb:Rs β}{Ra:α->Ms->Opd->Prop}{Rb:β->Ms->Opd->Prop}
theorem kpI:KP RI:=λx X M t Y M' t' p K ok h=>⟨K.vl ok h.1,h.2⟩
theorem kpB:KP RB:=λx X M t Y M' t' p K ok h=>K.vl ok h
theorem dk(A:Cor la sa Ra)(B:Cor lb sb Rb){X:LS}(W:WF X)(h4:4<=X.qO.length):Le X (la X).2/\OkO (la X).1 (lb (la X).2).2/\Le (la X).2 (lb (la X).2).2/\OkO (lb (la X).2).1 (lb (la X).2).2/\Le X (lb (la X).2).2:=by
 obtain⟨l1,o1⟩:=A.le X W h4;obtain⟨l2,o2⟩:=B.le _ l1.wf (yK h4 l1.rg);exact⟨l1,o1.mono l2.rg,l2,o2,l1.trans W l2⟩
theorem two(A:Cor la sa Ra)(B:Cor lb sb Rb){F X:LS}{M:Ms}{t:Nat}{o:Rs (List D)}(W:WF X)(E:Ext (lb (la X).2).2 F)(hb:0<(lb (la X).2).2.qQ)(I:Inv X M t)
  (q:∀x y,sa=.ok x->sb=.ok y->∀M' t',Inv (lb (la X).2).2 M' t'->fj X M t (lb (la X).2).2 M' t'->Ra x M' (la X).1->Rb y M' (lb (la X).2).1->Tof F t' (lb (la X).2).2 M' o)
  (e1:∀s,sa=.er s->o=.er s) (e2:∀x s,sa=.ok x->sb=.er s->o=.er s):Tof F t X M o:=by
 obtain⟨l1,o1⟩:=A.le X W I.r4;obtain⟨l2,o2⟩:=B.le _ l1.wf (yK I.r4 l1.rg);have:=l2.qQ;refine A.run F X M t o W (E.of l1.wf l2.toLe0) ((ar2 zAD) hb this) I (λx ex M1 t1 I1 K1 v1=> ?_) e1;refine B.run F _ M1 t1 o l1.wf E hb I1 (λy ey M2 t2 I2 K2 v2=> ?_) (λs es=>e2 x s ex es);exact q x y ex ey M2 t2 I2 (K1.trans l1.rg K2) (A.kp K2 o1 v1) v2
theorem anz{ty:D}{x:α}{R:α->Ms->Opd->Prop}{d:D}(h:∀M,R x M (.c ty d))(kp:KP R):Cor (λX=>(.c ty d,X)) (.ok x) R:=
 ⟨λX W Y=>⟨.refl W,trivial⟩,kp,λF X M t o W E hb I q e=>q x rfl M t I .refl (h M)⟩
theorem aqt:Cor (λX=>(.r 0,X)) (.ok 3) RI:=
 ⟨λX W h=>⟨.refl W,by show 0<X.qO.length;exact(ar1 0x11401144102) h⟩,kpI,λF X M t o W E hb I q e=>q 3 rfl M t I .refl ⟨I.c0,by decide,by decide⟩⟩
theorem aqu:Cor (λX=>(.r 2,X)) (.ok true) RB:=
 ⟨λX W h=>⟨.refl W,by show 2<X.qO.length;exact(ar1 0x11421144102) h⟩,kpB,λF X M t o W E hb I q e=>q true rfl M t I .refl I.c2⟩
theorem mh(X:LS)(ty:D)(w:String)(r:List D):OkO (fr X ty w r).1 (fr X ty w r).2:=by show X.qO.length<_;rw[ach];exact(ar1 0x11140411)
theorem ajz:Xp i8:=.t "int" _ rfl
theorem aqv:Xp bo:=.t "bool" _ rfl
theorem xpK(w:String):Xp (k w):=.s _
theorem aqw:Cor (λX=>fr X i8 "load" [rgD 1]) (.ok (-128)) RI:=by
 refine⟨λX W h=>⟨cg W ..,mh ..⟩,kpI,λF X M t o W E hb I q e=> ?_⟩;refine cn (ps:=[.p (.r 1)]) W E hb I .load (.load I.c1 I.o0) (.p I.c1 rfl .nil) rfl (be (ptO _) d5) (Vs.hr (.p I.c1 rfl .nil) rfl) (yL rfl) trivial λM' I' K' v' Y=> ?_;exact q _ rfl M' t I' K' ⟨v',by decide,by decide⟩
theorem at9(op:Bop):Xp op.d:=by cases op<;>exact .s _
theorem aua(op:Cop):Xp op.d:=by cases op<;>exact .s _
theorem an0(op:Bop):jh (.x op.d):=by cases op<;>exact ptS _
theorem aub(op:Cop):jh (.x op.d):=by cases op<;>exact ptS _
end
section
variable{la lb:LS->Opd×LS}{sa sb:Rs Int}
theorem amd{op:Bop}(A:Cor la sa RI)(B:Cor lb sb RI):Cor (λX=>fr (lb (la X).2).2 i8 "binary" [op.d,(la X).1.d,(lb (la X).2).1.d,i8]) (sa.bind λx=>sb.bind λy=>opW op x y) RI:=by
 refine⟨λX W h=> ?_,kpI,λF X M t o W E hb I q e=> ?_⟩
 ·obtain⟨_,_,_,_,l⟩:=dk A B W h;exact⟨l.trans W (cg l.wf ..),mh ..⟩
 ·obtain⟨_,_,_,_,l⟩:=dk A B W I.r4;have lf:=cg l.wf i8 "binary" [op.d,(la X).1.d,(lb (la X).2).1.d,i8];refine two A B W (E.of l.wf lf.toLe0) (by have:=lf.qQ;exact yJ hb this) I (λx y ex ey M1 t1 I1 K1 v1 v2=> ?_) (λs es=>e s (by rw[es];rfl)) (λx s ex es=>e s (by rw[ex,es];rfl));have V:Vs M1 [.x op.d,.p (la X).1,.p (lb (la X).2).1,.x i8] [.int x,.int y]:=.x (at9 op) (.p v1.1 rfl (.p v2.1 rfl (.x ajz .nil)));cases ez:opW op x y with
  | ok z=>
   refine cn l.wf E hb I1 .binary (.bin v1.1 v2.1 v1.2 v2.2 ez) V rfl (be (an0 _) (be (ptO _) (be (ptO _) (be w9 d5)))) (Vs.hr V rfl) (yL rfl) trivial λM' I' K' v' Y=> ?_;exact q z (by rw[ex,ey];exact ez) M' t1 I' (K1.trans l.rg K') ⟨v',ajb v1.2 v2.2 ez⟩
  | er s=>
   rw[e s (by rw[ex,ey];exact ez)];exact aad l.wf E I1 .binary (.binE v1.1 v2.1 v1.2 v2.2 ez) V rfl (be (an0 _) (be (ptO _) (be (ptO _) (be w9 d5)))) (Vs.hr V rfl) (yL rfl) trivial
theorem ame{op:Cop}(A:Cor la sa RI)(B:Cor lb sb RI):Cor (λX=>fr (lb (la X).2).2 bo "binary" [op.d,(la X).1.d,(lb (la X).2).1.d,i8]) (sa.bind λx=>sb.bind λy=> .ok (ai7 op x y)) RB:=by
 refine⟨λX W h=> ?_,kpB,λF X M t o W E hb I q e=> ?_⟩
 ·obtain⟨_,_,_,_,l⟩:=dk A B W h;exact⟨l.trans W (cg l.wf ..),mh ..⟩
 ·obtain⟨_,_,_,_,l⟩:=dk A B W I.r4;have lf:=cg l.wf bo "binary" [op.d,(la X).1.d,(lb (la X).2).1.d,i8];refine two A B W (E.of l.wf lf.toLe0) (by have:=lf.qQ;exact yJ hb this) I (λx y ex ey M1 t1 I1 K1 v1 v2=> ?_) (λs es=>e s (by rw[es];rfl)) (λx s ex es=>e s (by rw[ex,es];rfl));have V:Vs M1 [.x op.d,.p (la X).1,.p (lb (la X).2).1,.x i8] [.int x,.int y]:=.x (aua op) (.p v1.1 rfl (.p v2.1 rfl (.x ajz .nil)));refine cn l.wf E hb I1 .binary (.cmp v1.1 v2.1) V rfl (be (aub _) (be (ptO _) (be (ptO _) (be w9 d5)))) (Vs.hr V rfl) (yL rfl) trivial λM' I' K' v' Y=> ?_;exact q _ (by rw[ex,ey];rfl) M' t1 I' (K1.trans l.rg K') v'
theorem amf(A:Cor la sa RI):Cor (λX=>fr (la X).2 i8 "unary" [k "-",(la X).1.d,i8]) (sa.bind λx=> .ok ((128 - x).fmod 256 - 128)) RI:=by
 refine⟨λX W h=> ?_,kpI,λF X M t o W E hb I q e=> ?_⟩
 ·obtain⟨l,_⟩:=A.le X W h;exact⟨l.trans W (cg l.wf ..),mh ..⟩
 ·obtain⟨l,_⟩:=A.le X W I.r4;have lf:=cg l.wf i8 "unary" [k "-",(la X).1.d,i8];refine A.run F X M t o W (E.of l.wf lf.toLe0) (by have:=lf.qQ;exact yJ hb this) I (λx ex M1 t1 I1 K1 v1=> ?_) (λs es=>e s (by rw[es];rfl));have V:Vs M1 [.x (k "-"),.p (la X).1,.x i8] [.int x]:=.x (xpK _) (.p v1.1 rfl (.x ajz .nil));refine cn l.wf E hb I1 .unary (.neg v1.1) V rfl (be (ptS _) (be (ptO _) (be w9 d5))) (Vs.hr V rfl) (yL rfl) trivial λM' I' K' v' Y=> ?_;exact q _ (by rw[ex];rfl) M' t1 I' (K1.trans l.rg K') ⟨v',aeu _⟩
theorem aqx{sa:Rs Bool}(A:Cor la sa RB):Cor (λX=>fr (la X).2 bo "unary" [k "!",(la X).1.d,bo]) (sa.bind λx=> .ok (!x)) RB:=by
 refine⟨λX W h=> ?_,kpB,λF X M t o W E hb I q e=> ?_⟩
 ·obtain⟨l,_⟩:=A.le X W h;exact⟨l.trans W (cg l.wf ..),mh ..⟩
 ·obtain⟨l,_⟩:=A.le X W I.r4;have lf:=cg l.wf bo "unary" [k "!",(la X).1.d,bo];refine A.run F X M t o W (E.of l.wf lf.toLe0) (by have:=lf.qQ;exact yJ hb this) I (λx ex M1 t1 I1 K1 v1=> ?_) (λs es=>e s (by rw[es];rfl));have v1:vl M1 (la X).1=some (.bool x):=v1;have V:Vs M1 [.x (k "!"),.p (la X).1,.x bo] [.bool x]:=.x (xpK _) (.p v1 rfl (.x aqv .nil));refine cn l.wf E hb I1 .unary (.no v1) V rfl (be (ptS _) (be (ptO _) (be at5 d5))) (Vs.hr V rfl) (yL rfl) trivial λM' I' K' v' Y=> ?_;exact q _ (by rw[ex];rfl) M' t1 I' (K1.trans l.rg K') v'
theorem aqy(A:Cor la sa RI):Cor (λX=>fr (la X).2 i8 "elem" [rgD 3,(la X).1.d]) (sa.bind λx=>gk [7,100] x) RI:=by
 refine⟨λX W h=> ?_,kpI,λF X M t o W E hb I q e=> ?_⟩
 ·obtain⟨l,_⟩:=A.le X W h;exact⟨l.trans W (cg l.wf ..),mh ..⟩
 ·obtain⟨l,_⟩:=A.le X W I.r4;have lf:=cg l.wf i8 "elem" [rgD 3,(la X).1.d];refine A.run F X M t o W (E.of l.wf lf.toLe0) (by have:=lf.qQ;exact yJ hb this) I (λx ex M1 t1 I1 K1 v1=> ?_) (λs es=>e s (by rw[es];rfl));have h3:vl M1 (.r 3)=some (.tup (([7,100]:List Int).map .int)):=I1.c3;have V:Vs M1 [.p (.r 3),.p (la X).1] [.tup (([7,100]:List Int).map .int),.int x]:=.p h3 rfl (.p v1.1 rfl .nil);cases ez:gk [7,100] x with
  | ok z=>
   refine cn l.wf E hb I1 .elem (.elem h3 v1.1 (by decide) v1.2 ez) V rfl (be (ptO _) (be (ptO _) d5)) (Vs.hr V rfl) (yL rfl) trivial λM' I' K' v' Y=> ?_;exact q z (by rw[ex];exact ez) M' t1 I' (K1.trans l.rg K') ⟨v',Rs.al (j6 ajc) ez⟩
  | er s=>
   rw[e s (by rw[ex];exact ez)];exact aad l.wf E I1 .elem (.elemE h3 v1.1 (by decide) v1.2 ez) V rfl (be (ptO _) (be (ptO _) d5)) (Vs.hr V rfl) (yL rfl) trivial
theorem amg{sb:Rs Bool}(A:Cor la sa RI)(B:Cor lb sb RB):Cor (λX=>
  let q:=fr (lb (la X).2).2 i7 "struct" [.tup [(la X).1.d,(lb (la X).2).1.d]]
  fr q.2 i8 "part" [q.1.d,.int 0]) (sa.bind λx=>sb.bind λY=> .ok x) RI:=by
 refine⟨λX W h=> ?_,kpI,λF X M t o W E hb I q e=> ?_⟩
 ·obtain⟨_,_,_,_,l⟩:=dk A B W h;have l2:=cg l.wf i7 "struct" [.tup [(la X).1.d,(lb (la X).2).1.d]];exact⟨(l.trans W l2).trans W (cg l2.wf ..),mh ..⟩
 ·obtain⟨_,_,_,_,l⟩:=dk A B W I.r4;have l2:=cg l.wf i7 "struct" [.tup [(la X).1.d,(lb (la X).2).1.d]];have l3:=cg l2.wf i8 "part" [rgD (lb (la X).2).2.qO.length,.int 0];have E2:=E.of l2.wf l3.toLe0;have b2:0<(fr (lb (la X).2).2 i7 "struct" [.tup [(la X).1.d,(lb (la X).2).1.d]]).2.qQ:=by have:=l3.qQ;dsimp only[fr,Opd.d] at hb this⊢;exact(ar2 zAD) hb this
  refine two A B W (E2.of l.wf l2.toLe0) (by have:=l2.qQ;exact(ar2 zAD) b2 this) I (λx y ex ey M1 t1 I1 K1 v1 v2=> ?_) (λs es=>e s (by rw[es];rfl)) (λx s ex es=>e s (by rw[ex,es];rfl));have v2:vl M1 (lb (la X).2).1=some (.bool y):=v2;refine cn (ps:=[.pp (la X).1 (lb (la X).2).1]) l.wf E2 b2 I1 .struct (.struct v1.1 v2 rfl rfl) (.pp .nil) rfl (by simp[ptP]) (by simp[Pt.ops,v1.1,v2]) (by simp) trivial λM2 I2 K2 v2 Y=> ?_;refine cn (ps:=[.p (.r (lb (la X).2).2.qO.length),.x (.int 0)]) l2.wf E hb I2 .part (.part v2 rfl) (.p v2 rfl (.x (.i _) .nil)) rfl (be (ptO _) (be (ptI _) d5)) (Vs.hr (.p v2 rfl (.x (.i _) .nil)) rfl) (yL rfl) trivial λM3 I3 K3 v3 Y=> ?_;exact q x (by rw[ex,ey];rfl) M3 t1 I3 ((K1.trans l.rg K2).trans (l.trans W l2).rg K3) ⟨v3,v1.2⟩
end
section
variable{X Z F:LS}{M M0:Ms}{t t1:Nat}{o:Rs (List D)}{ty v:D}{w:String}{rs:List D}
theorem aae{ct:Ct}(W:WF X)(E:Ext (fr X.site ty w rs).2 F)(hb:0<(fr X.site ty w rs).2.qQ)(I:Inv X M t)
  (S:Stp (.tup (k w::.int X.qO.length::rs)) M {M with qP:=M.qP++ [az (X.qP+1)],objs:=M.objs++ [ct],cells:=putK M.cells (X.qO.length:Nat) (ptD M.objs.length .none)})
  (q:∀M',Inv (fr X.site ty w rs).2 M' t->fj X M t (fr X.site ty w rs).2 M' t->vl M' (.r X.qO.length)=some (ptD M.objs.length .none)->M'.objs=M.objs++ [ct]->Tof F t (fr X.site ty w rs).2 M' o):Tof F t X M o:=by
 have hb:0<X.qQ - 1 - 1:=hb;obtain⟨I',K'⟩:=amb (Y:=(fr X.site ty w rs).2) I (by rw[ach];exact yU _) (by show X.qQ - 1 - 1+1<=X.qQ;exact(ar3 zBK) (aC ((ar2 zAA) hb aS)) aS) rfl rfl ct (ptD M.objs.length .none);exact cz (X:=X.site.qA ty) (W.si.nr ty) E S I'.pan (q _ I' K' (dg ..) rfl)
theorem qp{row:D}{i:Nat}{ct:Ct}(W:WF X)(E:Ext (X.put row) F)(hb:0<(X.put row).qQ)(I:Inv X M t)(K:fj Z M0 t1 X M t)(h0:M0.objs[0]? ≠none)(hi:M0.objs.length<=i)(hi2:i<M.objs.length)(S:Stp row M {M with objs:=M.objs.set i ct})
  (q:∀M',Inv (X.put row) M' t->fj Z M0 t1 (X.put row) M' t->M'.cells=M.cells->M'.objs=M.objs.set i ct->M'.objs[i]?=some ct->Tof F t (X.put row) M' o):Tof F t X M o:=by
 have hb:0<X.qQ - 1:=hb;obtain⟨I',K'⟩:=amc (Y:=X.put row) I (by show X.qQ - 1+1<=X.qQ;exact(ar2 0x115114005114022) (aC ((ar2 zAA) hb aS))) rfl rfl rfl hi h0 ct K;exact cz W E S I'.pan (q _ I' K' rfl rfl (List.getElem?_set_self hi2))
theorem fw{M M':Ms}(h:M'.cells=M.cells)(p:Opd):vl M' p=vl M p:=by cases p<;>simp[vl,h]
theorem ady(W:WF X)(p:Opd)(ok:OkO p X)(ty:D):Le X (kept p ty X).2/\OkO (kept p ty X).1 (kept p ty X).2:=by
 induction p with
 | c _ _=>exact⟨.refl W,trivial⟩
 | r n=>exact⟨cg W ty "move" [rgD n],mh ..⟩
theorem acj{p:Opd}(W:WF X)(E:Ext (kept p ty X).2 F)(hb:0<(kept p ty X).2.qQ)(I:Inv X M t)(h:vl M p=some v)(hv:NI v)
  (q:∀M',Inv (kept p ty X).2 M' t->fj X M t (kept p ty X).2 M' t->vl M' (kept p ty X).1=some v->M'.objs=M.objs->Tof F t (kept p ty X).2 M' o):Tof F t X M o:=by
 induction p with
 | c _ _=>exact q M I .refl h rfl
 | r n=>exact cn (X:=X) (ty:=ty) (w:="move") (rs:=[rgD n]) (ps:=[.p (.r n)]) W E hb I .move (.move h) (.p h (acg hv) .nil) rfl (be (ptO _) d5) (Vs.hr (.p h (acg hv) .nil) rfl) (yL rfl) hv q
end
noncomputable def RT(f:Int->Option Int)(M:Ms)(p:Opd):Prop:=∃i es,vl M p=some (ptD i .none)/\M.objs[i]?=some (.d es)/\es.length<=100/\∀j,atK es j=(f j).map .int/\∀v,f j=some v->InR v
noncomputable def RL(xs:List Int)(M:Ms)(p:Opd):Prop:=∃i,vl M p=some (ptD i .none)/\M.objs[i]?=some (.l (xs.map .int))/\xs.length<=100/\∀y∈xs,InR y
theorem kpT:KP RT:=λf X M t Y M' t' p K ok h=>by
 obtain⟨i,es,h1,h2,h3⟩:=h;exact⟨i,es,K.vl ok h1,K.o _ _ h2,h3⟩
theorem kpL:KP RL:=λf X M t Y M' t' p K ok h=>by
 obtain⟨i,h1,h2,h3⟩:=h;exact⟨i,K.vl ok h1,K.o _ _ h2,h3⟩
section
noncomputable abbrev xa(X:LS):LS:=(fr X.site gj "makemap" [gj,az (X.qP+1)]).2
noncomputable abbrev xb(X:LS):LS:=(fr X.site bp "makeslice" [bp,cI 3,cI 3,az (X.qP+1)]).2
end
theorem qq{X:LS}(W:WF X):Le X (xa X):=(ti W).trans W (cg (X:=X.site) W.si ..)
theorem tj{X:LS}(W:WF X):Le X (xb X):=(ti W).trans W (cg (X:=X.site) W.si ..)
theorem amh(X:LS):(xa X).qO.length=X.qO.length+1:=ach ..
theorem tv(X:LS):(xb X).qO.length=X.qO.length+1:=ach ..
section
variable{X F:LS}{M:Ms}{t:Nat}{o:Rs (List D)}
theorem aaf(W:WF X)(E:Ext (xa X) F)(hb:0<(xa X).qQ)(I:Inv X M t)
  (q:∀M',Inv (xa X) M' t->fj X M t (xa X) M' t->vl M' (.r X.qO.length)=some (ptD M.objs.length .none)->M'.objs=M.objs++ [.d []]->Tof F t (xa X) M' o):Tof F t X M o:=by
 have z1:=I.c;have z2:=I.o;obtain⟨ss,e1,_,e3,_⟩:=I.s;have z3:=E.f2;have hs:X.qP+1<=F.qP:=E.st;exact aae W E hb I (al9 ((ar2 zAB) z2) (by rw[e1,List.length_map];exact(ar3 zCK) e3 z3 hs) ((ar2 zAB) z1)) q
theorem ae3(W:WF X)(E:Ext (xb X) F)(hb:0<(xb X).qQ)(I:Inv X M t)
  (q:∀M',Inv (xb X) M' t->fj X M t (xb X) M' t->vl M' (.r X.qO.length)=some (ptD M.objs.length .none)->M'.objs=M.objs++ [.l [.int 0,.int 0,.int 0]]->Tof F t (xb X) M' o):Tof F t X M o:=by
 have z1:=I.c;have z2:=I.o;obtain⟨ss,e1,_,e3,_⟩:=I.s;have z3:=E.f2;have hs:X.qP+1<=F.qP:=E.st;exact aae W E hb I (al8 ((ar2 zAB) z2) (by rw[e1,List.length_map];exact(ar3 zCK) e3 z3 hs) ((ar2 zAB) z1)) q
end
theorem adz{X:LS}{M:Ms}{t:Nat}(I:Inv X M t):M.objs[0]? ≠none:=by rw[I.o0];simp
theorem aj0(X:LS):X.qO.length<(xa X).qO.length:=by rw[amh];exact yU _
theorem r8{α:Type}(l:List α)(x:α):(l++ [x])[l.length]?=some x:=by simp
theorem ack:Cor (λX=>iq X []) (.ok λY=>none) RT:=by
 refine⟨λX W h=>⟨qq W,mh ..⟩,kpT,λF X M t o W E hb I q e=> ?_⟩;refine aaf W E hb I λM' I' K' v' g'=> ?_;exact q _ rfl M' t I' K' ⟨_,[],v',by rw[g'];exact r8 ..,by simp,λj=>⟨rfl,λv h=>by cases h⟩⟩
theorem aj1{es:List (Int×D)}{f:Int->Option Int}{p q:Int}(h:∀j,atK es j=(f j).map .int/\∀v,f j=some v->InR v)(hq:InR q):∀j,atK (putK es p (.int q)) j=(if p=j then some q else f j).map .int/\∀v,(if p=j then some q else f j)=some v->InR v:=by
 intro j;by_cases e:p=j
 ·subst e;rw[dg,if_pos rfl];exact⟨rfl,λv hv=>by cases hv;exact hq⟩
 ·rw[ba _ _ (Ne.symm e),if_neg e];exact h j
section
variable{la lb lc ld lt lx:LS->Opd×LS}{sa sb sc sd sx:Rs Int}
theorem acl(A:Cor la sa RI)(B:Cor lb sb RI):Cor (λX=>iq (lb (la X).2).2 [((la X).1,(lb (la X).2).1)]) (sa.bind λp=>sb.bind λq=> .ok λj=>if p=j then some q else none) RT:=by
 refine⟨λX W h=> ?_,kpT,λF X M t o W E hb I q e=> ?_⟩
 ·obtain⟨_,_,_,_,l⟩:=dk A B W h;have lt:=qq l.wf;exact⟨(l.trans W lt).trans W (bu lt.wf _),aj0 (lb (la X).2).2⟩
 ·obtain⟨_,oa,_,ob,l⟩:=dk A B W I.r4;have lt:=qq l.wf;have lp:=bu lt.wf (.tup [k "mapset",rgD (lb (la X).2).2.qO.length,(la X).1.d,(lb (la X).2).1.d]);have E1:=E.of lt.wf lp.toLe0;have b1:=lp.qQ;have b2:=lt.qQ;have hb:0<((xa (lb (la X).2).2).put (.tup [k "mapset",rgD (lb (la X).2).2.qO.length,(la X).1.d,(lb (la X).2).1.d])).qQ:=hb;refine two A B W (E1.of l.wf lt.toLe0) ((ar3 zA7) b1 b2 hb) I (λx y ex ey M1 t1 I1 K1 v1 v2=> ?_) (λs es=>e s (by rw[es];rfl)) (λx s ex es=>e s (by rw[ex,es];rfl));refine aaf l.wf E1 ((ar2 zA8) b1 hb) I1 λM2 I2 K2 p2 g2=> ?_;have h2:M2.objs[M1.objs.length]?=some (.d []):=by rw[g2];exact r8 ..
  have u1:=K2.vl oa v1.1;have u2:=K2.vl ob v2.1;have:=I2.o;refine qp lt.wf E hb I2 K2 (adz I1) (yE _) (ae h2) (v7 p2 u1 u2 h2 (by simp) ((ar2 zAB) this)) λM3 I3 K3 c3 g3 a3=> ?_;exact q _ (by rw[ex,ey];rfl) M3 t1 I3 (K1.trans l.rg K3) ⟨_,_,(fw c3 _).trans p2,a3,by have:=ja ([]:List (Int×D)) x (.int y);simp at this;exact(ar1 0x1164224011402) this,aj1 (λj=>⟨rfl,λv h=>by cases h⟩) v2.2⟩
theorem acm(A:Cor la sa RI)(B:Cor lb sb RI)(C:Cor lc sc RI)(D':Cor ld sd RI):Cor (λX=>
  let p:=lb (la X).2
  let r:=ld (lc p.2).2
  iq r.2 [((la X).1,p.1),((lc p.2).1,r.1)]) (sa.bind λp=>sb.bind λq=>sc.bind λr=>sd.bind λs=> .ok λj=>if r=j then some s else if p=j then some q else none) RT:=by
 refine⟨λX W h=> ?_,kpT,λF X M t o W E hb I q e=> ?_⟩
 ·obtain⟨_,_,_,_,l⟩:=dk A B W h;obtain⟨_,_,_,_,m⟩:=dk C D' l.wf (yK h l.rg);have lt:=qq m.wf;exact⟨(((l.trans W m).trans W lt).trans W (bu lt.wf _)).trans W (bu (bu lt.wf _).wf _),aj0 (ld (lc (lb (la X).2).2).2).2⟩
 ·obtain⟨_,oa,_,ob,l⟩:=dk A B W I.r4;obtain⟨_,oc,_,od,m⟩:=dk C D' l.wf (yK I.r4 l.rg);have lt:=qq m.wf;dsimp only at E hb q;generalize hP:lb (la X).2=P at*;generalize hR:ld (lc P.2).2=R at*;have lp:=bu lt.wf (.tup [k "mapset",rgD R.2.qO.length,(la X).1.d,P.1.d]);have lq:=bu lp.wf (.tup [k "mapset",rgD R.2.qO.length,(lc P.2).1.d,R.1.d]);have E0:=E.of lp.wf lq.toLe0;have E1:=E0.of lt.wf lp.toLe0;have E2:=E1.of m.wf lt.toLe0;have b0:=lq.qQ;have b1:=lp.qQ;have b2:=lt.qQ;have b3:=m.qQ;have hb:0<(((xa R.2).put (.tup [k "mapset",rgD R.2.qO.length,(la X).1.d,P.1.d])).put (.tup [k "mapset",rgD R.2.qO.length,(lc P.2).1.d,R.1.d])).qQ:=hb;refine two A B W (by rw[hP];exact E2.of l.wf m.toLe0) (by rw[hP];exact(ar5 zCL) b0 b1 b2 b3 hb) I (λx y ex ey M1 t1 I1 K1 v1 v2=> ?_) (λs es=>e s (by rw[es];rfl)) (λx s ex es=>e s (by rw[ex,es];rfl));rw[hP] at I1 K1 v2⊢;refine two C D' l.wf (by rw[hR];exact E2) (by rw[hR];exact(ar4 zB1) b0 b1 b2 hb) I1 (λz w ez ew M2 t2 I2 K2 v3 v4=> ?_) (λs es=>e s (by rw[ex,ey,es];rfl)) (λz s ez es=>e s (by rw[ex,ey,ez,es];rfl));rw[hR] at I2 K2 v4⊢;have w1:=K2.vl oa v1.1;have w2:=K2.vl ob v2.1;refine aaf m.wf E1 ((ar3 zA7) b0 b1 hb) I2 λM3 I3 K3 p3 g3=> ?_;have h3:M3.objs[M2.objs.length]?=some (.d []):=by rw[g3];exact r8 ..
  have u1:=K3.vl (oa.mono m.rg) w1;have u2:=K3.vl (ob.mono m.rg) w2;have u3:=K3.vl oc v3.1;have u4:=K3.vl od v4.1;have:=I3.o;refine qp lt.wf E0 ((ar2 zA8) b0 hb) I3 K3 (adz I2) (yE _) (ae h3) (v7 p3 u1 u2 h3 (by simp) ((ar2 zAB) this)) λM4 I4 K4 c4 g4 a4=> ?_;have l1:=ja ([]:List (Int×D)) x (.int y);have:=I4.o;refine qp lp.wf E hb I4 K4 (adz I2) (yE _) (ae a4) (v7 ((fw c4 _).trans p3) ((fw c4 _).trans u3) ((fw c4 _).trans u4) a4 (by simp at l1;exact(ar1 0x1164224011402) l1) ((ar2 zAB) this)) λM5 I5 K5 c5 g5 a5=> ?_;have l2:=ja (putK ([]:List (Int×D)) x (.int y)) z (.int w);exact q _ (by rw[ex,ey,ez,ew];rfl) M5 t2 I5 ((K1.trans l.rg K2).trans (l.trans W m).rg K5) ⟨_,_,(fw c5 _).trans ((fw c4 _).trans p3),a5,by simp at l1;exact(ar2 0x11164224011501150403) l2 l1,aj1 (aj1 (λj=>⟨rfl,λv h=>by cases h⟩) v2.2) v4.2⟩
theorem r9{X Y:LS}{ty r:D}(l:Le X Y):Le Y ((Y.qA ty).put r):=(mf l.wf ty).trans l.wf (bu (X:=Y.qA ty) (l.wf.nr ty) _)
theorem v8{st:Rs (Int->Option Int)}(T:Cor lt st RT)(B:Cor lx sx RI):Cor (λX=>look (lt X) (lx (lt X).2) false) (st.bind λf=>sx.bind λj=> .ok ((f j).getD 0)) RI:=by
 refine⟨λX W h=> ?_,kpI,λF X M t o W E hb I q e=> ?_⟩
 ·obtain⟨_,_,_,_,l⟩:=dk T B W h;exact⟨l.trans W (r9 l),by show _<(_++ [_]).length;simp⟩
 ·obtain⟨_,_,_,_,l⟩:=dk T B W I.r4;refine two T B W (E.of l.wf (r9 l).toLe0) (by have z1:=(r9 l (ty:=i8) (r:=.tup [k "mapget",.int (lx (lt X).2).2.qO.length,.none,(lt X).1.d,(lx (lt X).2).1.d,i8])).qQ;exact yJ hb z1) I (λf j ex ey M1 t1 I1 K1 v1 v2=> ?_) (λs es=>e s (by rw[es];rfl)) (λx s ex es=>e s (by rw[ex,es];rfl));obtain⟨i,es,p1,g1,hl,hf⟩:=v1;have z2:=I1.c;have z3:=I1.o;have hbb:0<(lx (lt X).2).2.qQ - 1 - 1:=hb;obtain⟨I2,K2⟩:=qo (Y:=((lx (lt X).2).2.qA i8).put (.tup [k "mapget",.int (lx (lt X).2).2.qO.length,.none,(lt X).1.d,(lx (lt X).2).1.d,i8])) I1 (by show _<(_++ [_]).length;simp) (by show(lx (lt X).2).2.qQ - 1 - 1+1<=(lx (lt X).2).2.qQ;exact(ar3 zBK) (aC ((ar2 zAA) hbb aS)) aS) rfl rfl ((atK es j).getD (.int 0));refine cz (X:=(lx (lt X).2).2.qA i8) (l.wf.nr i8) E (ajy p1 v2.1 g1 hl ((ar2 zAB) z3) ((ar2 zAB) z2)) I2.pan ?_;have hj:=hf j;refine q _ (by rw[ex,ey];rfl) _ t1 I2 (K1.trans l.rg K2) ⟨(dg ..).trans ?_,?_⟩
  ·rw[hj.1];cases f j<;>rfl
  ·cases h:f j with
   | none=>exact⟨by decide,by decide⟩
   | some v=>exact hj.2 v h
end
theorem sm_{α:Type}{o:Option α}{v:α}(h:o=some v):o.isSome=true:=by rw[h];rfl
section
noncomputable abbrev eptX(X:LS)(s:Nat)(i:Nat):LS:=(fr X du "elemptr" [rgD s,cI i]).2
noncomputable abbrev aag(X:LS)(s:Nat)(i:Nat)(p:Opd):LS:=(eptX X s i).put (.tup [k "store",rgD X.qO.length,p.d])
end
theorem oo{X:LS}(W:WF X)(s i:Nat)(p:Opd):Le X (aag X s i p):=(cg W ..).trans W (bu (cg W ..).wf _)
section
variable{X Z F:LS}{M M0:Ms}{t t1:Nat}{o:Rs (List D)}
theorem aah{s i j:Nat}{p:Opd}{xs:List D}{v:D}(W:WF X)(E:Ext (aag X s i p) F)(hb:0<(aag X s i p).qQ)(I:Inv X M t)(K:fj Z M0 t1 X M t)(hz:Z.qO.length<=X.qO.length)(h0:M0.objs[0]? ≠none)(hs:vl M (.r s)=some (ptD j .none))(ho:M.objs[j]?=some (.l xs))(hj:M0.objs.length<=j)(hi:i<xs.length)(hx:xs.length<=100)(hp:vl M p=some v)(hv:ao v=true)(op:OkO p X)(os:OkO (.r s) X)
  (q:∀M',Inv (aag X s i p) M' t->fj Z M0 t1 (aag X s i p) M' t->vl M' (.r s)=some (ptD j .none)->(∀r,OkO r X->∀u,vl M r=some u->vl M' r=some u)->M'.objs[j]?=some (.l (xs.set i v))->M'.objs.length=M.objs.length->Tof F t (aag X s i p) M' o):Tof F t X M o:=by
 have l1:=cg W du "elemptr" [rgD s,cI i];have l2:=bu l1.wf (.tup [k "store",rgD X.qO.length,p.d]);have hc:vl M (.c ab6 (.int i))=some (.int (i:Nat)):=rfl;have:=l2.qQ;refine cn (ps:=[.p (.r s),.p (.c ab6 (.int i))]) W (E.of l1.wf l2.toLe0) (yJ hb l2.qQ) I .elemptr (.eptr hs hc ho hi hx) (.p hs rfl (.p hc rfl .nil)) rfl (be (ptO _) (be (ptO _) d5)) (Vs.hr (.p hs rfl (.p hc rfl .nil)) rfl) (yL rfl) trivial λM1 I1 K1 p1 g1=> ?_;have:=I1.o;have ho1:M1.objs[j]?=some (.l xs):=by rw[g1];exact ho
 refine qp l1.wf E hb I1 (K.trans hz K1) h0 hj (ae ho1) (r7 p1 (.inr rfl) (K1.vl op hp) hv ho1 hi hx ((ar2 zAB) this)) λM2 I2 K2 c2 g2 a2=> ?_;exact q M2 I2 K2 ((fw c2 _).trans (K1.vl os hs)) (λr hr u hu=>(fw c2 _).trans (K1.vl hr hu)) a2 (by rw[g2,g1,List.length_set])
end
section
variable{la lb lc ld lt lx:LS->Opd×LS}{sa sb sc sd sx:Rs Int}
theorem ami(A:Cor la sa RI):Cor (λX=>w7 (la X).2 [(0,(la X).1)]) (sa.bind λx=> .ok [x,0,0]) RL:=by
 refine⟨λX W h=> ?_,kpL,λF X M t o W E hb I q e=> ?_⟩
 ·obtain⟨l,_⟩:=A.le X W h;have lt:=tj l.wf;exact⟨(l.trans W lt).trans W (oo lt.wf ..),yJ (by rw[tv];exact yU _) (oo lt.wf (la X).2.qO.length 0 (la X).1).rg⟩
 ·obtain⟨l,oa⟩:=A.le X W I.r4;have lt:=tj l.wf;have ls:=oo lt.wf (la X).2.qO.length 0 (la X).1;have E1:=E.of lt.wf ls.toLe0;have b1:=ls.qQ;have b2:=lt.qQ;have hb:0<(aag (xb (la X).2) (la X).2.qO.length 0 (la X).1).qQ:=hb;refine A.run F X M t o W (E1.of l.wf lt.toLe0) ((ar3 zA7) b1 b2 hb) I (λx ex M1 t1 I1 K1 v1=> ?_) (λs es=>e s (by rw[es];rfl));refine ae3 l.wf E1 ((ar2 zA8) b1 hb) I1 λM2 I2 K2 p2 g2=> ?_;have h2:M2.objs[M1.objs.length]?=some (.l [.int 0,.int 0,.int 0]):=by rw[g2];exact r8 ..
  refine aah lt.wf E hb I2 K2 lt.rg (adz I1) p2 h2 (yE _) (by simp) (by simp) (K2.vl oa v1.1) rfl (oa.mono lt.rg) (by rw[OkO,tv];exact yU _) λM3 I3 K3 p3 Y g3 Z=> ?_;exact q _ (by rw[ex];rfl) M3 t1 I3 (K1.trans l.rg K3) ⟨_,p3,show M3.objs[M1.objs.length]?=some (.l (List.map D.int [x,0,0])) from g3,by simp,by intro y hy;simp at hy;rcases hy with rfl | rfl<;>first | exact v1.2 | exact⟨by decide,by decide⟩⟩
theorem amj(A:Cor la sa RI)(B:Cor lb sb RI):Cor (λX=>w7 (lb (la X).2).2 [(0,(la X).1),(2,(lb (la X).2).1)]) (sa.bind λx=>sb.bind λy=> .ok [x,0,y]) RL:=by
 refine⟨λX W h=> ?_,kpL,λF X M t o W E hb I q e=> ?_⟩
 ·obtain⟨_,_,_,_,l⟩:=dk A B W h;have lt:=tj l.wf;have ls:=oo lt.wf (lb (la X).2).2.qO.length 0 (la X).1;have lu:=oo ls.wf (lb (la X).2).2.qO.length 2 (lb (la X).2).1;exact⟨((l.trans W lt).trans W ls).trans W lu,yJ (by rw[tv];exact yU _) (yK ls.rg lu.rg)⟩
 ·obtain⟨_,oa,_,ob,l⟩:=dk A B W I.r4;have lt:=tj l.wf;have ls:=oo lt.wf (lb (la X).2).2.qO.length 0 (la X).1;have lu:=oo ls.wf (lb (la X).2).2.qO.length 2 (lb (la X).2).1;have E0:=E.of ls.wf lu.toLe0;have E1:=E0.of lt.wf ls.toLe0;have b0:=lu.qQ;have b1:=ls.qQ;have b2:=lt.qQ;have hb:0<(aag (aag (xb (lb (la X).2).2) (lb (la X).2).2.qO.length 0 (la X).1) (lb (la X).2).2.qO.length 2 (lb (la X).2).1).qQ:=hb;refine two A B W (E1.of l.wf lt.toLe0) ((ar4 zB1) b0 b1 b2 hb) I (λx y ex ey M1 t1 I1 K1 v1 v2=> ?_) (λs es=>e s (by rw[es];rfl)) (λx s ex es=>e s (by rw[ex,es];rfl));refine ae3 l.wf E1 ((ar3 zA7) b0 b1 hb) I1 λM2 I2 K2 p2 g2=> ?_;have h2:M2.objs[M1.objs.length]?=some (.l [.int 0,.int 0,.int 0]):=by rw[g2];exact r8 ..
  have os:OkO (.r (lb (la X).2).2.qO.length) (xb (lb (la X).2).2):=by rw[OkO,tv];exact yU _
  refine aah lt.wf E0 ((ar2 zA8) b0 hb) I2 K2 lt.rg (adz I1) p2 h2 (yE _) (by simp) (by simp) (K2.vl oa v1.1) rfl (oa.mono lt.rg) os λM3 I3 K3 p3 u3 g3 Y=> ?_;refine aah ls.wf E hb I3 K3 (yK lt.rg ls.rg) (adz I1) p3 g3 (yE _) (by simp) (by simp) (u3 _ (ob.mono lt.rg) _ (K2.vl ob v2.1)) rfl (ob.mono (yK lt.rg ls.rg)) (os.mono ls.rg) λM4 I4 K4 p4 Y g4 Z=> ?_;exact q _ (by rw[ex,ey];rfl) M4 t1 I4 (K1.trans l.rg K4) ⟨_,p4,show M4.objs[M1.objs.length]?=some (.l (List.map D.int [x,0,y])) from g4,by simp,by intro y hy;simp at hy;rcases hy with rfl | rfl | rfl<;>first | exact v1.2 | exact v2.2 | exact⟨by decide,by decide⟩⟩
theorem acn{ls:LS->Opd×LS}{ss:Rs (List Int)}(S:Cor ls ss RL)(B:Cor lx sx RI):Cor (λX=>ly (ls X) lx) (ss.bind λxs=>sx.bind λj=>gk xs j) RI:=by
 have le:∀X,WF X->4<=X.qO.length->Le X (ls X).2/\OkO (ls X).1 (ls X).2/\Le (ls X).2 (kept (ls X).1 bp (ls X).2).2/\OkO (kept (ls X).1 bp (ls X).2).1 (kept (ls X).1 bp (ls X).2).2/\Le (kept (ls X).1 bp (ls X).2).2 (lx (kept (ls X).1 bp (ls X).2).2).2/\OkO (lx (kept (ls X).1 bp (ls X).2).2).1 (lx (kept (ls X).1 bp (ls X).2).2).2/\4<=(kept (ls X).1 bp (ls X).2).2.qO.length:=λX W h=>by
  obtain⟨l1,o1⟩:=S.le X W h;obtain⟨l2,o2⟩:=ady l1.wf (ls X).1 o1 bp;have h4:=yK h (yK l1.rg l2.rg);obtain⟨l3,o3⟩:=B.le _ l2.wf h4;exact⟨l1,o1,l2,o2,l3,o3,h4⟩
 refine⟨λX W h=> ?_,kpI,λF X M t o W E hb I q e=> ?_⟩
 ·obtain⟨l1,o1,l2,o2,l3,o3,h4⟩:=le X W h;obtain⟨l4,o4⟩:=ady l3.wf (lx (kept (ls X).1 bp (ls X).2).2).1 o3 i8;have l5:=cg l4.wf du "elemptr" [(kept (ls X).1 bp (ls X).2).1.d,(kept (lx (kept (ls X).1 bp (ls X).2).2).1 i8 (lx (kept (ls X).1 bp (ls X).2).2).2).1.d];exact⟨((((l1.trans W l2).trans W l3).trans W l4).trans W l5).trans W (cg l5.wf ..),mh ..⟩
 ·obtain⟨l1,o1,l2,o2,l3,o3,h4⟩:=le X W I.r4;obtain⟨l4,o4⟩:=ady l3.wf (lx (kept (ls X).1 bp (ls X).2).2).1 o3 i8;have l5:=cg l4.wf du "elemptr" [(kept (ls X).1 bp (ls X).2).1.d,(kept (lx (kept (ls X).1 bp (ls X).2).2).1 i8 (lx (kept (ls X).1 bp (ls X).2).2).2).1.d];unfold ly at E hb q;dsimp only at E hb q;generalize hP:ls X=P at*;generalize hU:kept P.1 bp P.2=U at*;generalize hV:lx U.2=V at*;generalize hY:kept V.1 i8 V.2=Y at*;have l6:=cg l5.wf i8 "load" [rgD Y.2.qO.length];have E5:=E.of l5.wf l6.toLe0;have E4:=E5.of l4.wf l5.toLe0;have E3:Ext V.2 F:=E4.of l3.wf l4.toLe0;have E2:=E3.of l2.wf l3.toLe0;have b6:=l6.qQ;have b5:=l5.qQ;have b4:=l4.qQ;have b3:=l3.qQ;have b2:=l2.qQ;have hb:0<(fr (fr Y.2 du "elemptr" [U.1.d,Y.1.d]).2 i8 "load" [rgD Y.2.qO.length]).2.qQ:=hb;refine S.run F X M t o W (by rw[hP];exact E2.of l1.wf l2.toLe0) (by rw[hP];exact(ar6 0x1111111901140119808707606505407) b6 b5 b4 b3 b2 hb) I (λxs ex M1 t1 I1 K1 v1=> ?_) (λs es=>e s (by rw[es];rfl));rw[hP] at I1 K1 v1⊢;obtain⟨i,p1,g1,hl,hx⟩:=v1;refine acj l1.wf (by rw[hU];exact E2) (by rw[hU];exact(ar5 zCL) b6 b5 b4 b3 hb) I1 p1 trivial λM2 I2 K2 p2 g2=> ?_;rw[hU] at I2 K2 p2⊢;refine B.run F U.2 M2 t1 o l2.wf (by rw[hV];exact E3) (by rw[hV];exact(ar4 zB1) b6 b5 b4 hb) I2 (λj ej M3 t3 I3 K3 v3=> ?_) (λs es=>e s (by rw[ex,es];rfl));rw[hV] at I3 K3 v3⊢;have p3:=K3.vl o2 p2;have g3:=K3.o i _ (by rw[g2];exact g1);refine acj l3.wf (by rw[hY];exact E4) (by rw[hY];exact(ar3 zA7) b6 b5 hb) I3 v3.1 trivial λM4 I4 K4 v4 g4=> ?_;rw[hY] at I4 K4 v4⊢;have p4:=K4.vl (o2.mono l3.rg) p3;have a4:M4.objs[i]?=some (.l (xs.map .int)):=by rw[g4];exact g3
  have hlen:(xs.map D.int).length<=100:=by simpa using hl
  have V':Vs M4 [.p U.1,.p Y.1] [ptD i .none,.int j]:=.p p4 rfl (.p v4 rfl .nil);by_cases hj:0<=j/\j<xs.length
  ·obtain⟨m,rfl⟩:=Int.eq_ofNat_of_zero_le hj.1;have hm:m<xs.length:=Int.ofNat_lt.mp hj.2;refine cn l4.wf E5 ((ar2 zA8) b6 hb) I4 .elemptr (.eptr p4 v4 a4 (by simpa using hm) hlen) V' rfl (be (ptO _) (be (ptO _) d5)) (Vs.hr V' rfl) (yL rfl) trivial λM5 I5 K5 p5 g5=> ?_;have a5:M5.objs[i]?=some (.l (xs.map .int)):=by rw[g5];exact a4
   have hz:(xs.map D.int)[m]?=some (.int xs[m]):=by simp[hm]
   refine cn (ps:=[.p (.r Y.2.qO.length)]) l5.wf E hb I5 .load (.loadj p5 a5 hz (yJ hm hl)) (.p p5 rfl .nil) rfl (be (ptO _) d5) (Vs.hr (.p p5 rfl .nil) rfl) (yL rfl) trivial λM6 I6 K6 p6 g6=> ?_;refine q xs[m] (by rw[ex,ej];simp[Rs.bind,gk,hm]) M6 t3 I6 (((((K1.trans l1.rg K2).trans (l1.trans W l2).rg K3).trans ((l1.trans W l2).trans W l3).rg K4).trans (((l1.trans W l2).trans W l3).trans W l4).rg K5).trans ((((l1.trans W l2).trans W l3).trans W l4).trans W l5).rg K6) ⟨p6,hx _ (List.getElem_mem hm)⟩
  ·rw[e apw (by rw[ex,ej];simp only[Rs.bind,gk];rw[if_neg hj])];exact aad l4.wf E5 I4 .elemptr (.eptrE p4 v4 a4 (by simpa using hj) hlen) V' rfl (be (ptO _) (be (ptO _) d5)) (Vs.hr V' rfl) (yL rfl) trivial
theorem amk(A:Cor la sa RI):Cor (λX=>
  let q:=fr (la X).2.site du "new" [i8,az ((la X).2.qP+1)]
  let b:=kept q.1 du (q.2.put (.tup [k "store",q.1.d,(la X).1.d]))
  fr b.2 i8 "load" [b.1.d]) sa RI:=by
 have hmv:∀Y:LS,WF Y->Le Y (fr Y.site du "new" [i8,az (Y.qP+1)]).2:=λY W=>(ti W).trans W (cg (X:=Y.site) W.si ..);refine⟨λX W h=> ?_,kpI,λF X M t o W E hb I q e=> ?_⟩
 ·obtain⟨l,_⟩:=A.le X W h;have l1:=hmv _ l.wf;have l2:=bu l1.wf (.tup [k "store",rgD (la X).2.qO.length,(la X).1.d]);have l3:=cg l2.wf du "move" [rgD (la X).2.qO.length];exact⟨(((l.trans W l1).trans W l2).trans W l3).trans W (cg l3.wf ..),mh ..⟩
 ·obtain⟨l,oa⟩:=A.le X W I.r4;have l1:=hmv _ l.wf;have l2:=bu l1.wf (.tup [k "store",rgD (la X).2.qO.length,(la X).1.d]);have l3:=cg l2.wf du "move" [rgD (la X).2.qO.length];generalize hP:la X=P at*;have l4:=cg l3.wf i8 "load" [rgD (fr P.2.site du "new" [i8,az (P.2.qP+1)]).2.qO.length];have E3:=E.of l3.wf l4.toLe0;have E2:=E3.of l2.wf l3.toLe0;have E1:=E2.of l1.wf l2.toLe0;have b4:=l4.qQ;have b3:=l3.qQ;have b2:=l2.qQ;have b1:=l1.qQ;have hb:0<(fr (fr ((fr P.2.site du "new" [i8,az (P.2.qP+1)]).2.put (.tup [k "store",rgD P.2.qO.length,P.1.d])) du "move" [rgD P.2.qO.length]).2 i8 "load" [rgD (fr P.2.site du "new" [i8,az (P.2.qP+1)]).2.qO.length]).2.qQ:=hb;refine A.run F X M t o W (by rw[hP];exact E1.of l.wf l1.toLe0) (by rw[hP];exact(ar5 zCL) b4 b3 b2 b1 hb) I (λx ex M1 t1 I1 K1 v1=> ?_) (λs es=>e s es);rw[hP] at I1 K1 v1⊢;have z1:=I1.c;have z2:=I1.o;obtain⟨ss,q1,_,q3,_⟩:=I1.s;have z3:=E1.f2;have hs:P.2.qP+1<=F.qP:=E1.st;refine aae l.wf E1 ((ar4 zB1) b4 b3 b2 hb) I1 (ae1 ((ar2 zAB) z2) (by rw[q1,List.length_map];exact(ar3 zCK) q3 z3 hs) ((ar2 zAB) z1)) λM2 I2 K2 p2 g2=> ?_;have h2:M2.objs[M1.objs.length]?=some (.l [.int 0]):=by rw[g2];exact r8 ..
  have z4:=I2.o;refine qp l1.wf E2 ((ar3 zA7) b4 b3 hb) I2 K2 (adz I1) (yE _) (ae h2) (r7 (j:=0) p2 (.inl ⟨rfl,rfl⟩) (K2.vl oa v1.1) rfl h2 (by simp) (by simp) ((ar2 zAB) z4)) λM3 I3 K3 c3 g3 a3=> ?_;have p3:=(fw c3 _).trans p2;refine cn (ps:=[.p (.r P.2.qO.length)]) l2.wf E3 ((ar2 zA8) b4 hb) I3 .move (.move p3) (.p p3 rfl .nil) rfl (be (ptO _) d5) (Vs.hr (.p p3 rfl .nil) rfl) (yL rfl) trivial λM4 I4 K4 p4 g4=> ?_;have a4:M4.objs[M1.objs.length]?=some (.l [.int x]):=by rw[g4];exact a3
  refine cn (ps:=[.p (.r (fr P.2.site du "new" [i8,az (P.2.qP+1)]).2.qO.length)]) l3.wf E hb I4 .load (.load p4 a4) (.p p4 rfl .nil) rfl (be (ptO _) d5) (λo ho=>by simp[Pt.ops] at ho;subst ho;exact sm_ p4) (by simp) trivial λM5 I5 K5 p5 g5=> ?_;exact q x ex M5 t1 I5 (((K1.trans l.rg K3).trans ((l.trans W l1).trans W l2).rg K4).trans (((l.trans W l1).trans W l2).trans W l3).rg K5) ⟨p5,v1.2⟩
end
section
noncomputable abbrev lyP(p:Opd×LS)(r:Nat):LS:=p.2.put (.tup [k "move",.int r,p.1.d])
noncomputable abbrev lyZ(a:Bool)(P:LS)(r:Nat):LS:=(P.qB.qB.close (.tup [k "branch",rgD r,.int (if a then P.nb else P.nb+1:Nat),.int (if a then P.nb+1 else P.nb:Nat)])).at_ P.nb
noncomputable abbrev lyR(W:LS)(b:Nat):LS:=(W.close (acf b)).at_ b
end
theorem mj{c:Prop}[Decidable c]{x y n:Nat}(hx:x<n)(hy:y<n):(if c then x else y)<n:=by
 by_cases h:c
 ·rw[if_pos h];exact hx
 ·rw[if_neg h];exact hy
section
variable{X Y Z P W F:LS}{M M0:Ms}{t t1 r:Nat}{a:Bool}{o:Rs (List D)}
theorem Inv.mono(I:Inv X M t)(h1:X.qO.length<=Y.qO.length)(h2:Y.qQ<=X.qQ)(h3:X.qP<=Y.qP)(h4:t1<=Y.nb):Inv Y M t1:=by
 obtain⟨ss,e1,e2,e3,e4⟩:=I.s;exact⟨I.pan,by have:=I.c;exact(ar3 0x111106842460010684256005403) h2 this,by have:=I.o;exact(ar3 0x111106842460010684256005403) h2 this,yK I.r4 h1,I.c0,I.c1,I.c2,I.c3,I.o0,⟨ss,e1,e2,by exact(ar3 0x1115604605403) h3 e3,λx hx=>yK (e4 x hx) h3⟩,h4⟩
theorem aj2{p:Opd}{v:D}(hW:WF X)(E:Ext (lyP (p,X) r) F)(hb:0<(lyP (p,X) r).qQ)(I:Inv X M t)(K:fj Z M0 t1 X M t)(hr:Z.qO.length<=r)(h4:4<=r)(h:vl M p=some v)(hv:NI v)
  (q:∀M',Inv (lyP (p,X) r) M' t->fj Z M0 t1 (lyP (p,X) r) M' t->vl M' (.r r)=some v->Tof F t (lyP (p,X) r) M' o):Tof F t X M o:=by
 have hb:0<X.qQ - 1:=hb;have hc:=I.c;have ho:=I.o;have hl:=ja M.cells (r:Int) v;refine cz hW E (tg (ps:=[.p p]) .move (.move h) (.p h (acg hv) .nil) (by simp[ptO]) (by simp[Pt.ops,h]) (by simp) I.pan ((ar2 zAB) ho) ((ar2 zAB) hc) hv) I.pan (q _ ⟨I.pan,?_,?_,I.r4,?_,?_,?_,?_,I.o0,I.s,I.t⟩ ⟨λi hi v' h=> ?_,K.o,K.t⟩ (dg ..))
 ·show(putK M.cells (r:Int) v).length+(X.qQ - 1)<=4200;exact(ar4 0x1111106842760051170211406010684254004) hc hl (aC ((ar2 zAA) hb aS))
 ·show M.objs.length+(X.qQ - 1)<=_;exact(ar3 0x111106842640056010684254003) ho aS
 ·simp only;rw[ba _ _ (by first | exact rN (k:=0) (yJ (by decide) h4) | exact(rN (k:=0) (yJ (by decide) h4)).symm)];exact I.c0
 ·simp only;rw[ba _ _ (by first | exact rN (k:=1) (yJ (by decide) h4) | exact(rN (k:=1) (yJ (by decide) h4)).symm)];exact I.c1
 ·simp only;rw[ba _ _ (by first | exact rN (k:=2) (yJ (by decide) h4) | exact(rN (k:=2) (yJ (by decide) h4)).symm)];exact I.c2
 ·simp only;rw[ba _ _ (by first | exact rN (k:=3) (yJ (by decide) h4) | exact(rN (k:=3) (yJ (by decide) h4)).symm)];exact I.c3
 ·simp only;rw[ba _ _ (cne (yO (yJ hi hr)))];exact K.c i hi v' h
theorem qt(hP:WF P):((lyZ a P r).ins P.nb=[]/\(lyZ a P r).ins (P.nb+1)=[])/\(lyZ a P r).tm (P.nb+1)=.none/\(lyZ a P r).tm P.here=brD r (if a then P.nb else P.nb+1) (if a then P.nb+1 else P.nb):=by
 have h:=hP.here;refine⟨⟨?_,dh _ _ _⟩,?_,dh _ _ _⟩
 ·show upn (upn P.ins P.nb []) (P.nb+1) [] P.nb=[]
  rw[bh _ _ (by exact(ar1 0x11010131140442)),dh]
 ·show upn (upn (upn P.tm P.nb .none) (P.nb+1) .none) P.here _ (P.nb+1)=.none;rw[bh _ _ (by exact(ar2 zAM) h),dh]
theorem ad0(hP:WF P):Le0 P (lyZ a P r):=by
 have h:=hP.here;refine⟨⟨by show P.nb<P.nb+1+1;exact(ar1 0x11111400411),?_⟩,by show P.nb<=P.nb+1+1;exact(ar1 0x11111400401),λi hi hn=>⟨?_,?_⟩,⟨[],?_⟩,.inr (yE _),yE _,yE _,by show P.qQ - 1 - 1<=P.qQ;exact(ar3 zA1) aS aS⟩
 ·show upn (upn (upn P.tm P.nb .none) (P.nb+1) .none) P.here _ P.nb=.none;rw[bh _ _ (by exact(ar2 zAT) h),bh _ _ (by exact(ar1 0x11010131140442)),dh]
 ·show upn (upn P.ins P.nb []) (P.nb+1) [] i=P.ins i;rw[bh _ _ (by exact(ar2 zAZ) hi),bh _ _ (by exact(ar2 zAF) hi)]
 ·show upn (upn (upn P.tm P.nb .none) (P.nb+1) .none) P.here _ i=P.tm i;rw[bh _ _ hn,bh _ _ (by exact(ar2 zAZ) hi),bh _ _ (by exact(ar2 zAF) hi)]
 ·show upn (upn P.ins P.nb []) (P.nb+1) [] P.here=P.ins P.here++ [];rw[bh _ _ (by exact(ar2 zAZ) h),bh _ _ (by exact(ar2 zAF) h),List.append_nil]
theorem aj3(hP:WF P)(hW:Le (lyZ a P r) W):Le P (lyR W (P.nb+1)):=by
 have h:=hP.here;have l:=ad0 (a:=a) (r:=r) hP;have n1:P.nb+1+1<=W.nb:=hW.nb;have hh:W.here=P.nb\/P.nb+1+1<=W.here:=hW.hr;have o1:=hW.oth (P.nb+1) (by show P.nb+1<P.nb+1+1;exact(ar1 0x11111400114011)) (by show P.nb+1≠P.nb;exact(ar1 zA0));have zt:=(qt (a:=a) (r:=r) hP).2.2;have wt:(lyR W (P.nb+1)).tm P.here=brD r (if a then P.nb else P.nb+1) (if a then P.nb+1 else P.nb):=by
  show upn W.tm W.here _ P.here=_;rw[bh _ _ (by exact(λq1=>(hh.elim (λq2=>((ar3 0x1111010135646445414) h q1 q2)) (λq3=>((ar3 0x1111010136111150006445414) h q1 q3))))),(hW.oth P.here (by show P.here<P.nb+1+1;exact(ar2 zB2) h) (by show P.here≠P.nb;exact(ar2 zAF) h)).2];exact zt
 refine⟨⟨⟨by show P.nb+1<W.nb;exact(ar2 zCM) n1,?_⟩,by show P.nb<=W.nb;exact(ar2 0x115405111140002) n1,λi hi hn=> ?_,⟨[],?_⟩,.inr (by show P.nb<=P.nb+1;exact(ar1 0x11140401)),yK l.rg hW.rg,yK l.st hW.st,yK hW.qQ l.qQ⟩,λi hi=> ?_,λi h1 h2=> ?_⟩
 ·show upn W.tm W.here _ (P.nb+1)=.none;rw[bh _ _ (by exact(λq1=>(hh.elim (λq2=>((ar2 0x111010134525114023) q1 q2)) (λq3=>((ar2 0x111010135111140005114043) q1 q3))))),o1.2];exact(qt hP).2.1
 ·obtain⟨c1,c2⟩:=l.oth i hi hn;obtain⟨d1,d2⟩:=hW.oth i (by show i<P.nb+1+1;exact(ar2 zB2) hi) (by show i≠P.nb;exact(ar2 zAF) hi);refine⟨d1.trans c1,?_⟩;show upn W.tm W.here _ i=_;rw[bh _ _ (by exact(λq1=>(hh.elim (λq2=>((ar3 0x1111010135646445414) hi q1 q2)) (λq3=>((ar3 0x1111010136111150006445414) hi q1 q3)))))];exact d2.trans c2
 ·have d:=(hW.oth P.here (by show P.here<P.nb+1+1;exact(ar2 zB2) h) (by show P.here≠P.nb;exact(ar2 zAF) h)).1;show W.ins P.here=_;rw[d,List.append_nil];show upn (upn P.ins P.nb []) (P.nb+1) [] P.here=P.ins P.here;rw[bh _ _ (by exact(ar2 zAZ) h),bh _ _ (by exact(ar2 zAF) h)]
 ·have hi:i<W.nb:=hi;have tn:∀j,j≠W.here->(lyR W (P.nb+1)).tm j=W.tm j:=λj hj=>bh _ _ hj;rcases hW.clo i hi with g | ⟨g1,g2⟩ | g
  ·subst g;exact .inr (.inr (.inl ⟨P.nb+1,dh _ _ _,by show P.nb+1<W.nb;exact(ar2 zCM) n1⟩))
  ·have g1:i<P.nb+1+1:=g1;have g2:i≠P.nb:=g2;by_cases e1:i=P.nb+1
   ·exact .inl e1
   ·by_cases e2:i=P.here
    ·subst e2;exact .inr (.inr (.inr ⟨r,_,_,wt,by show _<W.nb;first | exact mj n1 (Nat.lt_of_succ_lt n1) | exact mj (Nat.lt_of_succ_lt n1) n1,by show _<W.nb;first | exact mj n1 (Nat.lt_of_succ_lt n1) | exact mj (Nat.lt_of_succ_lt n1) n1,by cases a<;>first | exact Nat.succ_ne_self _ | exact(Nat.succ_ne_self _).symm⟩))
    ·exact .inr (.inl ⟨by exact(Nat.lt_or_gt_of_ne g2).elim (λq1=>((ar2 zAL) q1)) (λq2=>((Nat.lt_or_gt_of_ne e1).elim (λq3=>(yX ((ar2 0x111010131140515413) q2 q3))) (λq4=>(yX ((ar2 0x111010134115011111500413) g1 q4))))),e2⟩)
  ·have hne:i≠W.here:=by
    rintro rfl;rcases g with⟨_,g,_⟩ | ⟨_,_,_,g,_⟩<;>exact D.noConfusion (hW.wf.tm.symm.trans g)
   exact .inr (.inr (g.eq (tn i hne) (yE _)))
 ·have h2:i<W.nb:=h2;have hc:i=P.nb\/i=P.nb+1\/P.nb+1+1<=i:=(Nat.eq_or_lt_of_le h1).imp Eq.symm λh=>(Nat.eq_or_lt_of_le h).imp Eq.symm id;rcases hc with rfl | rfl | hc
  ·refine⟨P.here,h,.inl rfl,.inr ⟨r,_,_,wt,?_⟩⟩;cases a<;>simp
  ·refine⟨P.here,by exact(ar2 0x111150415412) h,.inl rfl,.inr ⟨r,_,_,wt,?_⟩⟩;cases a<;>simp
  ·obtain⟨p,p1,p2,p3⟩:=hW.suc i hc h2;have p2:p=P.nb\/P.nb+1+1<=p:=p2;exact⟨p,p1,.inr ((p2.elim (λq1=>((ar2 0x114505442) q1)) (λq2=>((ar2 0x115405111140002) q2)))),p3.eq (bh _ _ (p3.ne hW.wf))⟩
theorem aml{b:Nat}(hW:WF W)(E:Ext (lyR W b) F):Ext W F/\F.ins W.here=W.ins W.here/\F.tm W.here=acf b:=by
 have e:(lyR W b).tm W.here=acf b:=dh _ _ _;obtain⟨d1,d2⟩:=E.done W.here hW.here (by rw[e];exact λh=>D.noConfusion h);refine⟨⟨E.nb,λi hi ht=> ?_,E.pre,E.st,E.f1,E.f2⟩,d1,d2.trans e⟩;have hn:i≠W.here:=λh=>ht (h▸hW.tm);have e2:(lyR W b).tm i=W.tm i:=bh _ _ hn;obtain⟨c1,c2⟩:=E.done i hi (by rw[e2];exact ht);exact⟨c1,c2.trans e2⟩
end
theorem v9{X F:LS}(h:F.ins X.here=X.ins X.here):rest F X=[]:=by unfold rest;rw[h];simp
section
variable{la lb:LS->Opd×LS}{sa sb:Rs Bool}
theorem aqz{a:Bool}(A:Cor la sa RB)(B:Cor lb sb RB):Cor (λX=>
  let p:=la (X.qA bo)
  let P:=p.2.put (.tup [k "move",.int X.qO.length,p.1.d])
  let Z:=(P.qB.qB.close (.tup [k "branch",rgD X.qO.length,.int (if a then P.nb else P.nb+1:Nat),.int (if a then P.nb+1 else P.nb:Nat)])).at_ P.nb
  let q:=lb Z
  let W:=q.2.put (.tup [k "move",.int X.qO.length,q.1.d])
  (.r X.qO.length,(W.close (.tup [k "jump",.int (P.nb+1:Nat)])).at_ (P.nb+1))) (sa.bind λb=>if b=a then sb else .ok b) RB:=by
 have all:∀X,WF X->4<=X.qO.length->Le (X.qA bo) (la (X.qA bo)).2/\Le (X.qA bo) (lyP (la (X.qA bo)) X.qO.length)/\(let Z:=lyZ a (lyP (la (X.qA bo)) X.qO.length) X.qO.length
   Le Z (lb Z).2/\Le Z (lyP (lb Z) X.qO.length)):=λX W h=>by
  obtain⟨l1,o1⟩:=A.le (X.qA bo) (W.nr bo) (by simp[LS.qA];exact(ar1 0x11431044102) h);have l2:=l1.trans (W.nr bo) (bu l1.wf (.tup [k "move",.int X.qO.length,(la (X.qA bo)).1.d]));have l3:=ad0 (a:=a) (r:=X.qO.length) l2.wf;have h4:=yK (show 4<=(X.qA bo).qO.length by simp[LS.qA];exact(ar1 0x11431044102) h) (yK l2.rg l3.rg);obtain⟨l4,o4⟩:=B.le _ l3.wf h4;exact⟨l1,l2,l4,l4.trans l3.wf (bu l4.wf _)⟩
 refine⟨λX W h=> ?_,kpB,λF X M t o W E hb I q e=> ?_⟩
 ·obtain⟨l1,l2,l3,l4⟩:=all X W h;have l5:=aj3 l2.wf l4;have lr:=mf W bo;refine⟨(lr.trans W l2).trans W l5,yJ ?_ (yK l2.rg l5.rg)⟩;simp[LS.qA]
 ·obtain⟨l1,l2,l3,l4⟩:=all X W I.r4;have l5:=aj3 l2.wf l4;have lr:=mf W bo;have lz:=ad0 (a:=a) (r:=X.qO.length) l2.wf;have zi:=qt (a:=a) (r:=X.qO.length) l2.wf;have hr:X.qO.length<(X.qA bo).qO.length:=by simp[LS.qA]
  have r4:=I.r4;replace E:Ext (lyR (lyP (lb (lyZ a (lyP (la (X.qA bo)) X.qO.length) X.qO.length)) X.qO.length) ((lyP (la (X.qA bo)) X.qO.length).nb+1)) F:=E;replace q:∀x,(sa.bind λb=>if b=a then sb else .ok b)=.ok x->∀M' t',Inv (lyR (lyP (lb (lyZ a (lyP (la (X.qA bo)) X.qO.length) X.qO.length)) X.qO.length) ((lyP (la (X.qA bo)) X.qO.length).nb+1)) M' t'->fj X M t (lyR (lyP (lb (lyZ a (lyP (la (X.qA bo)) X.qO.length) X.qO.length)) X.qO.length) ((lyP (la (X.qA bo)) X.qO.length).nb+1)) M' t'->RB x M' (.r X.qO.length)->Tof F t' (lyR (lyP (lb (lyZ a (lyP (la (X.qA bo)) X.qO.length) X.qO.length)) X.qO.length) ((lyP (la (X.qA bo)) X.qO.length).nb+1)) M' o:=q;replace hb:0<(lyP (lb (lyZ a (lyP (la (X.qA bo)) X.qO.length) X.qO.length)) X.qO.length).qQ:=hb;generalize hp:la (X.qA bo)=p at*;try dsimp only at l3 l4
  have EP:Ext (lyP p X.qO.length) F:=E.of l2.wf l5.toLe0;have l6:=bu l1.wf (.tup [k "move",.int X.qO.length,p.1.d]);generalize hP:lyP p X.qO.length=P at*;have lzn:(lyZ a P X.qO.length).nb=P.nb+1+1:=rfl;have lzh:(lyZ a P X.qO.length).here=P.nb:=rfl;have lzs:(lyZ a P X.qO.length).qP=P.qP:=rfl;have lzr:(lyZ a P X.qO.length).qO=P.qO:=rfl;have lzb:(lyZ a P X.qO.length).qQ=P.qQ - 1 - 1:=rfl;generalize hZ:lyZ a P X.qO.length=Z at*;generalize hq:lb Z=q' at*;have l7:=bu l3.wf (.tup [k "move",.int X.qO.length,q'.1.d]);obtain⟨EW,iW,tW⟩:=aml l4.wf E;have b5:=l5.qQ;have b4:=l4.qQ;have b6:(lyP p X.qO.length).qQ<=p.2.qQ:=l6.qQ;have b7:(lyP q' X.qO.length).qQ<=q'.2.qQ:=l7.qQ;have b2:=l2.qQ;have bz:=lz.qQ;have EZ:Ext Z F:=EW.of lz.wf l4.toLe0;obtain⟨iP,tP⟩:=EZ.done P.here (by rw[lzn];have:=l2.wf.here;exact(ar2 zB2) this) (by rw[zi.2.2];exact λh=>D.noConfusion h);rw[zi.2.2] at tP;have iP:F.ins P.here=P.ins P.here:=by
   rw[iP,<-hZ];have:=l2.wf.here;show upn (upn P.ins P.nb []) (P.nb+1) [] P.here=P.ins P.here;rw[bh _ _ (by exact(ar2 zAZ) this),bh _ _ (by exact(ar2 zAF) this)]
  have I0:Inv (X.qA bo) M t:=I.mono (Nat.le_of_lt hr) (Nat.sub_le _ _) (yE _) I.t;have K0:fj X M t (X.qA bo) M t:=⟨λY U V h=>h,λY U h=>h,yE _⟩
  subst hP;refine A.run F (X.qA bo) M t o (W.nr bo) (by rw[hp];exact EP.of l1.wf l6.toLe0) (by rw[hp];exact(ar4 0x11111701165076054040115) hb b4 b6 bz) I0 (λb eb M1 t1 I1 K1 v1=> ?_) (λs es=>e s (by rw[es];rfl));rw[hp] at I1 K1 v1⊢;have K1':=K0.trans (Nat.le_of_lt hr) K1;have hrp:=l1.rg;refine aj2 (p:=p.1) l1.wf EP (show 0<(lyP p X.qO.length).qQ by exact(ar3 zAC) hb b4 bz) I1 K1' (yE _) r4 v1 trivial λM2 I2 K2 v2=> ?_;have hPh:=l2.wf.here;generalize lyP p X.qO.length=P at*;have ht2:=I2.t;have kt2:=K2.t;have nbF:P.nb+1+1<=F.nb:=by have:=EZ.nb;exact(ar3 0x1116111150006401111500443) lzn this
  have hbr:∀v:Bool,vl M2 (.r X.qO.length)=some (.bool v)->To F.nb F.ins F.tm (t1+1) (if v=a then P.nb else P.nb+1) (F.ins (if v=a then P.nb else P.nb+1)) M2 o->Tof F t1 P M2 o:=λv hv h=>by
   show To _ _ _ _ _ _ _ _;rw[v9 iP];have n2:P.nb+1<F.nb:=nbF;refine .br tP hv (by first | exact mj n2 (Nat.lt_of_succ_lt n2) | exact mj (Nat.lt_of_succ_lt n2) n2) (by first | exact mj n2 (Nat.lt_of_succ_lt n2) | exact mj (Nat.lt_of_succ_lt n2) n2) ?_;have ee:(if v=true then(if a=true then P.nb else P.nb+1) else if a=true then P.nb+1 else P.nb)=if v=a then P.nb else P.nb+1:=by cases v<;>cases a<;>rfl
   rw[ee];exact h
  refine hbr b v2 ?_;by_cases hba:b=a
  ·rw[if_pos hba];have IZ:Inv Z M2 (t1+1):=I2.mono (by rw[lzr];exact yE _) ((ar2 zAV) bz) ((ar2 0x114505442) lzs) ((ar3 0x1114116005601111500443) lzn ht2);have KZ:fj X M t Z M2 (t1+1):=⟨K2.c,K2.o,by exact(ar5 0x111480711600058076001111500443) lzn kt2⟩
   have start:rest F Z=F.ins P.nb:=by unfold rest;rw[lzh,zi.1.1];rfl
   have go:Tof F (t1+1) Z M2 o:=by
    refine B.run F Z M2 (t1+1) o lz.wf (by rw[hq];exact EW.of l3.wf l7.toLe0) (by rw[hq];exact(ar2 zAD) hb b7) IZ (λc ec M3 t3 I3 K3 v3=> ?_) (λs es=>e s (by rw[eb];simp only[Rs.bind];rw[if_pos hba];exact es));rw[hq] at I3 K3 v3⊢;have zx:X.qO.length<=Z.qO.length:=by rw[lzr];have:=l2.rg;exact(ar3 0x1116406505413) hr this
    refine aj2 (p:=q'.1) l3.wf EW hb I3 (KZ.trans zx K3) (yE _) r4 v3 trivial λM4 I4 K4 v4=> ?_;have kt3:=K3.t;have kt4:t3+X.nb<=t+(lyP q' X.qO.length).nb:=K4.t;have ht4:t3<=(lyP q' X.qO.length).nb:=I4.t;have nW:q'.2.nb=(lyP q' X.qO.length).nb:=rfl;have nR:(lyR (lyP q' X.qO.length) (P.nb+1)).nb=(lyP q' X.qO.length).nb:=rfl;show To _ _ _ _ _ _ _ _;rw[v9 iW];refine .jmp tW ((ar2 zCM) nbF) ?_;have hin:(lyR (lyP q' X.qO.length) (P.nb+1)).ins (P.nb+1)=[]:=by
     have:=(l4.oth (P.nb+1) ((ar2 0x114115011111500442) lzn) ((ar2 0x111010134115025423) lzh)).1;show(lyP q' X.qO.length).ins (P.nb+1)=[]
     rw[this,<-hZ];exact(qt l2.wf).1.2
    have fin:=q c (by rw[eb];simp only[Rs.bind];rw[if_pos hba];exact ec) M4 (t3+1) (I4.mono (yE _) (yE _) (yE _) (show t3+1<=(lyP q' X.qO.length).nb by exact(ar6 0x1111191170098281160047005601111500445) lzn ht2 kt3 nW)) ⟨K4.c,K4.o,show t3+1+X.nb<=t+(lyP q' X.qO.length).nb by exact(ar8 0x11111b807119000ba2a11600490058076001111500445) lzn kt2 kt3 nW⟩ v4;have hd:rest F (lyR (lyP q' X.qO.length) (P.nb+1))=F.ins (P.nb+1):=by
     unfold rest;show(F.ins (P.nb+1)).drop ((lyR (lyP q' X.qO.length) (P.nb+1)).ins (P.nb+1)).length=_;rw[hin];rfl
    have fin':To F.nb F.ins F.tm (t3+1) (P.nb+1) (rest F (lyR (lyP q' X.qO.length) (P.nb+1))) M4 o:=fin;rw[hd] at fin';exact fin'
   have go':To F.nb F.ins F.tm (t1+1) Z.here (rest F Z) M2 o:=go;rw[start,lzh] at go';exact go'
  ·rw[if_neg hba];have hin:(lyR (lyP q' X.qO.length) (P.nb+1)).ins (P.nb+1)=[]:=by
    have:=(l4.oth (P.nb+1) ((ar2 0x114115011111500442) lzn) ((ar2 0x111010134115025423) lzh)).1;show(lyP q' X.qO.length).ins (P.nb+1)=[]
    rw[this,<-hZ];exact(qt l2.wf).1.2
   have n5:=l5.nb;have n4:=l4.nb;have nR:(lyR (lyP q' X.qO.length) (P.nb+1)).nb=(lyP q' X.qO.length).nb:=rfl;have fin:=q b (by rw[eb];simp only[Rs.bind];rw[if_neg hba]) M2 (t1+1) (I2.mono l5.rg l5.qQ l5.st (show t1+1<=(lyP q' X.qO.length).nb by exact(ar4 0x11117116007405601111500444) lzn ht2 n4)) ⟨K2.c,K2.o,show t1+1+X.nb<=t+(lyP q' X.qO.length).nb by exact(ar6 0x1111980711600094058076001111500444) lzn kt2 n4⟩ v2;have hd:rest F (lyR (lyP q' X.qO.length) (P.nb+1))=F.ins (P.nb+1):=by
    unfold rest;show(F.ins (P.nb+1)).drop ((lyR (lyP q' X.qO.length) (P.nb+1)).ins (P.nb+1)).length=_;rw[hin];rfl
   have fin':To F.nb F.ins F.tm (t1+1) (P.nb+1) (rest F (lyR (lyP q' X.qO.length) (P.nb+1))) M2 o:=fin;rw[hd] at fin';exact fin'
end
section
variable{la lb:LS->Opd×LS}{sa:Rs Int}{sb:Rs Bool}
theorem ae4{X Y:LS}(l:Le X Y)(W:WF X)(p:Opd)(ty:D):Le X (zp (p,Y) ty).2/\OkO (zp (p,Y) ty).1 (zp (p,Y) ty).2:=by
 have l2:=cg l.wf bw "face" [p.d,ty];refine⟨(l.trans W l2).trans W (r9 l2),?_⟩;show(fr Y bw "face" [p.d,ty]).2.qO.length<(_++ [_]).length;simp
theorem amm(A:Cor la sa RI):Cor (λX=>zp (la X) i8) sa RI:=by
 refine⟨λX W h=>ae4 (A.le X W h).1 W ..,kpI,λF X M t o W E hb I q e=> ?_⟩;obtain⟨l,oa⟩:=A.le X W I.r4;have l2:=cg l.wf bw "face" [(la X).1.d,i8];have l3:=r9 l2 (ty:=i8) (r:=.tup [k "assert",.int (fr (la X).2 bw "face" [(la X).1.d,i8]).2.qO.length,.none,rgD (la X).2.qO.length,i8,bw]);have E2:=E.of l2.wf l3.toLe0;have b3:=l3.qQ;have b2:=l2.qQ;have hb:0<(fr (la X).2 bw "face" [(la X).1.d,i8]).2.qQ - 1 - 1:=hb;refine A.run F X M t o W (E2.of l.wf l2.toLe0) ((ar4 0x11111501147076060115405) b2 hb aS aS) I (λx ex M1 t1 I1 K1 v1=> ?_) e;refine cn (ps:=[.p (la X).1,.x i8]) l.wf E2 ((ar3 zAC) hb aS aS) I1 .face (.face v1.1 rfl rfl) (.p v1.1 rfl (.x ajz .nil)) rfl (be (ptO _) (be w9 d5)) (Vs.hr (.p v1.1 rfl (.x ajz .nil)) rfl) (yL rfl) trivial λM2 I2 K2 p2 g2=> ?_;have:=I2.c;obtain⟨I3,K3⟩:=qo (Y:=(zp (la X) i8).2) I2 (by show _<(_++ [_]).length;simp) (by show(fr (la X).2 bw "face" [(la X).1.d,i8]).2.qQ - 1 - 1+1<=_;exact(ar3 zBK) (aC ((ar2 zAA) hb aS)) aS) rfl rfl (.int x);refine cz (X:=(fr (la X).2 bw "face" [(la X).1.d,i8]).2.qA i8) (l2.wf.nr i8) E (aqr (p:=.r (la X).2.qO.length) p2 rfl ((ar2 zAB) this)) I3.pan ?_;exact q x ex _ t1 I3 ((K1.trans l.rg K2).trans (l.trans W l2).rg K3) ⟨dg ..,v1.2⟩
theorem amn(A:Cor la sb RB):Cor (λX=>zp (la X) bo) (sb.bind λY=> .er vy) RI:=by
 refine⟨λX W h=>ae4 (A.le X W h).1 W ..,kpI,λF X M t o W E hb I q e=> ?_⟩;obtain⟨l,oa⟩:=A.le X W I.r4;have l2:=cg l.wf bw "face" [(la X).1.d,bo];have l3:=r9 l2 (ty:=i8) (r:=.tup [k "assert",.int (fr (la X).2 bw "face" [(la X).1.d,bo]).2.qO.length,.none,rgD (la X).2.qO.length,i8,bw]);have E2:=E.of l2.wf l3.toLe0;have b3:=l3.qQ;have b2:=l2.qQ;have hb:0<(fr (la X).2 bw "face" [(la X).1.d,bo]).2.qQ - 1 - 1:=hb;refine A.run F X M t o W (E2.of l.wf l2.toLe0) ((ar4 0x11111501147076060115405) b2 hb aS aS) I (λx ex M1 t1 I1 K1 v1=> ?_) (λs es=>e s (by rw[es];rfl));have v1:vl M1 (la X).1=some (.bool x):=v1;refine cn (ps:=[.p (la X).1,.x bo]) l.wf E2 ((ar3 zAC) hb aS aS) I1 .face (.face v1 rfl rfl) (.p v1 rfl (.x aqv .nil)) rfl (be (ptO _) (be at5 d5)) (Vs.hr (.p v1 rfl (.x aqv .nil)) rfl) (yL rfl) trivial λM2 I2 K2 p2 g2=> ?_;have z1:=I2.c;have h5:=I2.t;have h6:(fr (la X).2 bw "face" [(la X).1.d,bo]).2.nb<=F.nb:=E.nb;have z2:=E.f1;rw[e vy (by rw[ex];rfl)];exact ae2 (X:=(fr (la X).2 bw "face" [(la X).1.d,bo]).2.qA i8) (l2.wf.nr i8) E (ama (p:=.r (la X).2.qO.length) p2 I2.pan ((ar2 zAB) z1)) rfl ((ar3 0x11116422406422606505404) h5 h6 z2)
end
theorem Cor.sem{α:Type}{low:LS->Opd×LS}{s s':Rs α}{R:α->Ms->Opd->Prop}(h:Cor low s R)(e:s=s'):Cor low s' R:=e▸h
theorem auc{v:Int}(h:InR v):Cor (λX=>(.c i8 (.int v),X)) (.ok v) RI:=anz (λM=>⟨rfl,h⟩) kpI
theorem aud{b:Bool}:Cor (λX=>(.c bo (.bool b),X)) (.ok b) RB:=anz (λM=>rfl) kpB
mutual
theorem ay:∀e:N,e.ok->Cor (bq e) (fi e) RI
 | .k v,h=>auc h
 | .v0,Y=>aqt
 | .v1,Y=>aqw
 | .bin op a b,h=>amd (ay a h.1) (ay b h.2)
 | .neg a,h=>amf (ay a h)
 | .ix a,h=>aqy (ay a h)
 | .fld a t,h=>amg (ay a h.1) (jr t h.2)
 | .sl1 a i,h=>(acn (ami (ay a h.1)) (ay i h.2)).sem (Rs.b1 λY=>rfl)
 | .sl2 a b i,h=>(acn (amj (ay a h.1) (ay b h.2.1)) (ay i h.2.2)).sem (Rs.b1 λY=>Rs.b1 λY=>rfl)
 | .der a,h=>amk (ay a h)
 | .lk0 x,h=>(v8 ack (ay x h)).sem rfl
 | .lk1 a b x,h=>(v8 (acl (ay a h.1) (ay b h.2.1)) (ay x h.2.2)).sem (Rs.b1 λY=>Rs.b1 λY=>Rs.bx λY=>congrArg Rs.ok ai8)
 | .lk2 a b c d x,h=>(v8 (acm (ay a h.1) (ay b h.2.1) (ay c h.2.2.1) (ay d h.2.2.2.1)) (ay x h.2.2.2.2)).sem (Rs.b1 λY=>Rs.b1 λY=>Rs.b1 λY=>Rs.b1 λY=>Rs.bx λY=>congrArg Rs.ok aja)
 | .asN a,h=>amm (ay a h)
 | .asT t,h=>amn (jr t h)
theorem jr:∀e:T,e.ok->Cor (rq e) (zv e) RB
 | .k b,Y=>aud
 | .v,Y=>aqu
 | .lz a x y,h=>aqz (jr x h.1) (jr y h.2)
 | .no x,h=>aqx (jr x h)
 | .cmp op a b,h=>ame (ay a h.1) (ay b h.2)
end
structure Bd(X Y:LS)(n s b:Nat):Prop where
 nb:Y.nb<=X.nb+n
 st:Y.qP<=X.qP+s
 qQ:X.qQ<=Y.qQ+b
section
variable{X Y Z:LS}{n s b n' s' b':Nat}
theorem Bd.trans(h:Bd X Y n s b)(g:Bd Y Z n' s' b'):Bd X Z (n+n') (s+s') (b+b'):=⟨by have z1:=h.nb;have z2:=g.nb;exact(ar5 0x111860507084070650403) z1 z2,by have z3:=h.st;have z4:=g.st;exact(ar5 0x111860507084070650403) z3 z4,by have z5:=h.qQ;have z6:=g.qQ;exact(ar5 0x111860704087050650403) z5 z6⟩
theorem Bd.mono(h:Bd X Y n s b)(hn:n<=n'/\s<=s'/\b<=b'):Bd X Y n' s' b':=⟨by have:=h.nb;exact(ar4 0x11157060470605403) hn.1 this,by have:=h.st;exact(ar4 0x11157060470605403) hn.2.1 this,by have:=h.qQ;exact(ar4 0x11157060470605403) hn.2.2 this⟩
theorem d6(X:LS)(ty:D)(w:String)(r:List D):Bd X (fr X ty w r).2 0 0 2:=⟨yE _,yE _,by show X.qQ<=X.qQ - 1 - 1+2;exact(ar3 0x1112150601140601150403) aT aT⟩
theorem gn(X:LS)(r:D):Bd X (X.put r) 0 0 1:=⟨yE _,yE _,by show X.qQ<=X.qQ - 1+1;exact(ar2 0x111150401150402) aT⟩
theorem we(X:LS)(r:D):Bd X (X.qA r) 0 0 1:=⟨yE _,yE _,by show X.qQ<=X.qQ - 1+1;exact(ar2 0x111150401150402) aT⟩
theorem m8(X:LS):Bd X X.site 0 1 0:=⟨yE _,yE _,yE _⟩
theorem aj4(X:LS):Bd X X.qB 1 0 1:=⟨yE _,yE _,by show X.qQ<=X.qQ - 1+1;exact(ar2 0x111150401150402) aT⟩
theorem aj5(X:LS)(t:D)(b:Nat):Bd X ((X.close t).at_ b) 0 0 0:=⟨yE _,yE _,yE _⟩
theorem aai(X:LS)(p:Opd)(ty:D):Bd X (kept p ty X).2 0 0 2:=by
 induction p with
 | c _ _=>exact⟨yE _,yE _,Nat.le_add_right _ _⟩
 | r n=>exact d6 X ty "move" [rgD n]
end
mutual
noncomputable def N.w:N->Nat
 | .k Y | .v0 | .v1=>0
 | .bin Y a b | .sl1 a b=>1+a.w+b.w
 | .neg a | .ix a | .der a | .lk0 a | .asN a=>1+a.w
 | .fld a t=>1+a.w+t.w
 | .sl2 a b c | .lk1 a b c=>1+a.w+b.w+c.w
 | .lk2 a b c d x=>1+a.w+b.w+c.w+d.w+x.w
 | .asT t=>1+t.w
noncomputable def T.w:T->Nat
 | .k Y | .v=>0
 | .lz Y x y=>1+x.w+y.w
 | .no x=>1+x.w
 | .cmp Y a b=>1+a.w+b.w
end
noncomputable def wB:Nat->Nat
 | 0=>0
 | m+1=>5*wB m+1
theorem w1{x v:Nat}:∀{m:Nat},2+x<=2*m->(∀m,x<=2*m->v<=wB m)->1+v<=wB m
 | 0,h,Y=>yX ((ar1 zCN) h)
 | m+1,h,f=>(ar2 0x111150530411005402) (f m ((ar2 0x115023401150023421002) h))
theorem w2{x y v w:Nat}:∀{m:Nat},2+max x y<=2*m->(∀m,x<=2*m->v<=wB m)->(∀m,y<=2*m->w<=wB m)->1+v+w<=wB m
 | 0,h,Y,Z=>yX ((ar1 zCN) h)
 | m+1,h,f,g=>(ar3 0x141115053064110005605403) (f m ((ar3 zCO) h aL)) (g m ((ar3 zCO) h aR))
theorem w5{a b c d x a' b' c' d' x':Nat}:∀{m:Nat},2+max (max (max a b) (max c d)) x<=2*m->(∀m,a<=2*m->a'<=wB m)->(∀m,b<=2*m->b'<=wB m)->(∀m,c<=2*m->c'<=wB m)->(∀m,d<=2*m->d'<=wB m)->(∀m,x<=2*m->x'<=wB m)->1+a'+b'+c'+d'+x'<=wB m
 | 0,h,Y,Z,U,V,N=>yX ((ar1 zCN) h)
 | m+1,h,f1,f2,f3,f4,f5=>(ar6 0x111111115053098764110000005905805705605406) (f1 m ((ar5 zB3) h aL aL aL)) (f2 m ((ar5 zB3) h aL aL aR)) (f3 m ((ar5 zB3) h aL aR aL)) (f4 m ((ar5 zB3) h aL aR aR)) (f5 m ((ar3 zCO) h aR))
theorem w3{a b x a' b' x':Nat}{m:Nat}(h:2+max (max a b) x<=2*m)(f1:∀m,a<=2*m->a'<=wB m)(f2:∀m,b<=2*m->b'<=wB m)(f3:∀m,x<=2*m->x'<=wB m):1+a'+b'+x'<=wB m:=
 w5 (c:=0) (d:=0) (c':=0) (d':=0) (by rw[show max (max a b) (max 0 0)=max a b from Nat.max_zero _];exact h) f1 f2 (λY Z=>Nat.zero_le _) (λY Z=>Nat.zero_le _) f3
mutual
theorem N.qH:∀(e:N) (m:Nat),e.dp<=2*m->e.w<=wB m
 | .k Y,m,h | .v0,m,h | .v1,m,h=>Nat.zero_le _
 | .bin Y a b,m,h | .sl1 a b,m,h=>w2 h (N.qH a) (N.qH b)
 | .neg a,m,h | .ix a,m,h | .der a,m,h | .lk0 a,m,h | .asN a,m,h=>w1 h (N.qH a)
 | .fld a t,m,h=>w2 h (N.qH a) (T.qH t)
 | .sl2 a b c,m,h | .lk1 a b c,m,h=>w3 h (N.qH a) (N.qH b) (N.qH c)
 | .lk2 a b c d x,m,h=>w5 h (N.qH a) (N.qH b) (N.qH c) (N.qH d) (N.qH x)
 | .asT t,m,h=>w1 h (T.qH t)
theorem T.qH:∀(e:T) (m:Nat),e.dp<=2*m->e.w<=wB m
 | .k Y,m,h | .v,m,h=>Nat.zero_le _
 | .lz Y x y,m,h=>w2 h (T.qH x) (T.qH y)
 | .no x,m,h=>w1 h (T.qH x)
 | .cmp Y a b,m,h=>w2 h (N.qH a) (N.qH b)
end
noncomputable abbrev Bw(low:LS->Opd×LS)(w:Nat):Prop:=∀X,Bd X (low X).2 (2*w) w (2+26*w)
section
variable{la lb lc ld lx:LS->Opd×LS}{a b c d x:Nat}
theorem tw{p:Opd×LS}{q:Opd×LS}{b:Bool}:Bd q.2 (look p q b).2 0 0 3:=by
 cases b
 ·exact((we ..).trans (gn ..)).mono ⟨by decide,by decide,by decide⟩
 ·exact((we ..).trans ((we ..).trans (gn ..))).mono ⟨by decide,by decide,by decide⟩
theorem ae5{p:Opd×LS}(hx:Bw lx x):Bd p.2 (ly p lx).2 (2*x) x (10+26*x):=
 ((aai p.2 p.1 bp).trans ((hx _).trans ((aai _ _ i8).trans ((d6 _ du ..).trans (d6 _ i8 ..))))).mono ⟨by exact(ar1 0x14023010100104023001001),by exact(ar1 0x14010100104001001),by exact(ar1 0x141a3a102121021041a3210021001)⟩
theorem ae6(X:LS):Bd X (iq X []).2 0 1 2:=((m8 X).trans (d6 ..)).mono ⟨by decide,by decide,by decide⟩
theorem ae7(X:LS)(p q:Opd):Bd X (iq X [(p,q)]).2 0 1 3:=((m8 X).trans ((d6 ..).trans (gn ..))).mono ⟨by decide,by decide,by decide⟩
theorem ae8(X:LS)(p q r s:Opd):Bd X (iq X [(p,q),(r,s)]).2 0 1 4:=((m8 X).trans ((d6 ..).trans ((gn ..).trans (gn ..)))).mono ⟨by decide,by decide,by decide⟩
theorem aq0(X:LS)(i:Nat)(p:Opd):Bd X (w7 X [(i,p)]).2 0 1 5:=((m8 X).trans ((d6 ..).trans ((d6 ..).trans (gn ..)))).mono ⟨by decide,by decide,by decide⟩
theorem aq1(X:LS)(i j:Nat)(p q:Opd):Bd X (w7 X [(i,p),(j,q)]).2 0 1 8:=((m8 X).trans ((d6 ..).trans ((d6 ..).trans ((gn ..).trans ((d6 ..).trans (gn ..)))))).mono ⟨by decide,by decide,by decide⟩
theorem ae9(p:Opd×LS)(ty:D):Bd p.2 (zp p ty).2 0 0 4:=((d6 p.2 bw ..).trans ((we ..).trans (gn ..))).mono ⟨by decide,by decide,by decide⟩
end
theorem afa(X:LS):Bd X X 0 0 0:=⟨yE _,yE _,yE _⟩
mutual
theorem bb:∀e:N,Bw (bq e) e.w
 | .k v,X=>(afa X).mono (by exact⟨(ar1 0x140230101),⟨(ar1 0x140101),(ar1 zB4)⟩⟩)
 | .v0,X=>(afa X).mono (by exact⟨(ar1 0x140230101),⟨(ar1 0x140101),(ar1 zB4)⟩⟩)
 | .v1,X=>(d6 X i8 "load" [rgD 1]).mono (by exact⟨(ar1 0x140230101),⟨(ar1 0x140101),(ar1 0x141a32102101)⟩⟩)
 | .bin op a b,X=>((bb a X).trans ((bb b _).trans (d6 _ i8 ..))).mono (by exact⟨(ar2 zCP),⟨(ar2 0x154110001504001),(ar2 0x15411001a32102151a3210041a3210001)⟩⟩)
 | .neg a,X=>((bb a X).trans (d6 _ i8 ..)).mono (by exact⟨(ar1 zBL),⟨(ar1 zBM),(ar1 zCQ)⟩⟩)
 | .ix a,X=>((bb a X).trans (d6 _ i8 ..)).mono (by exact⟨(ar1 zBL),⟨(ar1 zBM),(ar1 zCQ)⟩⟩)
 | .fld a t,X=>((bb a X).trans ((m9 t _).trans ((d6 _ i7 ..).trans (d6 _ i8 ..)))).mono (by exact⟨(ar2 0x154110002301010502304023001),⟨(ar2 0x154110001010504001),(ar2 0x15411001a32102121051a3210041a3210001)⟩⟩)
 | .sl1 a i,X=>((bb a X).trans ((aq0 _ 0 _).trans (ae5 (bb i)))).mono (by exact⟨(ar2 0x154110002350230104023001),⟨(ar2 0x154110051104001),(ar2 0x15411001a321051a3a1051041a3210001)⟩⟩)
 | .sl2 a b i,X=>((bb a X).trans ((bb b _).trans ((aq1 _ 0 2 _ _).trans (ae5 (bb i))))).mono (by exact⟨(ar3 0x1654110000236023010502304023001),⟨(ar3 0x1654110006110504001),(ar3 0x1654110001a321061a3a1081051a3210041a3210001)⟩⟩)
 | .der a,X=>((bb a X).trans ((m8 _).trans ((d6 _ du ..).trans ((gn ..).trans ((aai _ _ du).trans (d6 _ i8 ..)))))).mono (by exact⟨(ar1 0x14110023010100100100104023001),⟨(ar1 0x14110010100100101104001),(ar1 0x141101a32102121011021001041a3210001)⟩⟩)
 | .lk0 x,X=>((ae6 X).trans ((bb x _).trans tw)).mono (by exact⟨(ar1 0x14110023014023001001),⟨(ar1 0x14110014011001),(ar1 0x141101a32103141a3210021001)⟩⟩)
 | .lk1 a b x,X=>((bb a X).trans ((bb b _).trans ((ae7 _ _ _).trans ((bb x _).trans tw)))).mono (by exact⟨(ar3 0x1654110000230160230010502304023001),⟨(ar3 0x1654110000160110504001),(ar3 0x1654110001a32103161a3210031051a3210041a3210001)⟩⟩)
 | .lk2 a b c d x,X=>((bb a X).trans ((bb b _).trans ((bb c _).trans ((bb d _).trans ((ae8 _ _ _ _ _).trans ((bb x _).trans tw)))))).mono (by exact⟨(ar5 0x187654110000002301802300107023060230502304023001),⟨(ar5 0x187654110000001801107060504001),(ar5 0x18765411000001a32103181a3210041071a3210061a3210051a3210041a3210001)⟩⟩)
 | .asN a,X=>((bb a X).trans (ae9 _ i8)).mono (by exact⟨(ar1 zBL),⟨(ar1 zBM),(ar1 0x141101a32104141a3210001)⟩⟩)
 | .asT t,X=>((m9 t X).trans (ae9 _ bo)).mono (by exact⟨(ar1 zBL),⟨(ar1 zBM),(ar1 0x141101a32104141a3210001)⟩⟩)
theorem m9:∀e:T,Bw (rq e) e.w
 | .k b,X=>(afa X).mono (by exact⟨(ar1 0x140230101),⟨(ar1 0x140101),(ar1 zB4)⟩⟩)
 | .v,X=>(afa X).mono (by exact⟨(ar1 0x140230101),⟨(ar1 0x140101),(ar1 zB4)⟩⟩)
 | .lz a x y,X=>((we X bo).trans ((m9 x _).trans ((gn ..).trans ((aj4 _).trans ((aj4 _).trans ((aj5 ..).trans ((m9 y _).trans ((gn ..).trans (aj5 ..))))))))).mono (by exact⟨(ar2 0x154110002301010502300101101100104023001001),⟨(ar2 0x154110001010500100100100104001001),(ar2 0x15411001a32100111051a3210001011011011041a3210011001)⟩⟩)
 | .no x,X=>((m9 x X).trans (d6 _ bo ..)).mono (by exact⟨(ar1 zBL),⟨(ar1 zBM),(ar1 zCQ)⟩⟩)
 | .cmp op a b,X=>((bb a X).trans ((bb b _).trans (d6 _ bo ..))).mono (by exact⟨(ar2 zCP),⟨(ar2 0x154110001504001),(ar2 0x15411001a32102151a3210041a3210001)⟩⟩)
end
structure ago(low:LS->List Opd×LS)(sem:Rs (List D))(w:Nat):Prop where
 le:∀X,WF X->4<=X.qO.length->Le X (low X).2
 bd:∀X,Bd X (low X).2 (2*w) w (3+26*w)
 run:∀F X M t o,WF X->Ext (low X).2 F->0<(low X).2.qQ->Inv X M t->
  (∀vs,sem=.ok vs->∀M' t',Inv (low X).2 M' t'->(low X).1.map (vl M')=vs.map some->Tof F t' (low X).2 M' o)->(∀s,sem=.er s->o=.er s)->Tof F t X M o
theorem Cor.list{α:Type}{low:LS->Opd×LS}{sem:Rs α}{R:α->Ms->Opd->Prop}{d:α->D}{w:Nat}(h:Cor low sem R)(hd:∀x M p,R x M p->vl M p=some (d x))(b:Bw low w):ago (w8 low) (sem.bind λx=> .ok [d x]) w:=
 ⟨λX W h4=>(h.le X W h4).1,λX=>(b X).mono (by exact⟨(ar1 0x14023402301),⟨(ar1 0x14401),(ar1 0x141a331041a321001)⟩⟩),λF X M t o W E hb I q e=>h.run F X M t o W E hb I (λx ex M' t' I' K' r=>q [d x] (by rw[ex];rfl) M' t' I' (by simp[hd _ _ _ r])) (λs es=>e s (by rw[es];rfl))⟩
theorem corN(e:N)(h:e.ok):ago (w8 (bq e)) ((fi e).bind λx=> .ok [.int x]) e.w:=(ay e h).list (λY Z U r=>r.1) (bb e)
theorem corT(e:T)(h:e.ok):ago (w8 (rq e)) ((zv e).bind λx=> .ok [.bool x]) e.w:=(jr e h).list (λY Z U r=>r) (m9 e)
noncomputable def aj6(lt lx:LS->Opd×LS):LS->List Opd×LS:=λX=>([.r (lx (lt X).2).2.qO.length,.r ((lx (lt X).2).2.qO.length+1)],(look (lt X) (lx (lt X).2) true).2)
section
variable{lt lx:LS->Opd×LS}{sx:Rs Int}
theorem aj7{st:Rs (Int->Option Int)}{w v:Nat}(T:Cor lt st RT)(B:Cor lx sx RI)(bt:∀X,Bd X (lt X).2 (2*w) (w+1) (12+26*w))(bx:Bw lx v):ago (aj6 lt lx) (st.bind λf=>sx.bind λj=> .ok [.int ((f j).getD 0),.bool (f j).isSome]) (1+w+v):=by
 refine⟨λX W h=> ?_,λX=>((bt X).trans ((bx _).trans tw)).mono (by exact⟨(ar2 zCP),⟨(ar2 0x154110001501140001),(ar2 0x15411001a33103151a3210041a3c10001)⟩⟩),λF X M t o W E hb I q e=> ?_⟩
 ·obtain⟨_,_,_,_,l⟩:=dk T B W h;have l2:=mf l.wf i8;have l3:=mf l2.wf bo;exact l.trans W (l2.trans l.wf (l3.trans l2.wf (bu l3.wf _)))
 ·obtain⟨_,_,_,_,l⟩:=dk T B W I.r4;have l2:=mf l.wf i8;have l3:=mf l2.wf bo;have hr:((lx (lt X).2).2.qA i8).qO.length=(lx (lt X).2).2.qO.length+1:=by simp[LS.qA]
  have l4:=bu l3.wf (.tup [k "mapget",.int (lx (lt X).2).2.qO.length,.int ((lx (lt X).2).2.qA i8).qO.length,(lt X).1.d,(lx (lt X).2).1.d,i8]);have hbb:0<(lx (lt X).2).2.qQ - 1 - 1 - 1:=hb;refine two T B W (E.of l.wf (l2.trans l.wf (l3.trans l2.wf l4)).toLe0) ((ar4 zBD) hbb aS aS aS) I (λf j ex ey M1 t1 I1 K1 v1 v2=> ?_) (λs es=>e s (by rw[es];rfl)) (λx s ex es=>e s (by rw[ex,es];rfl));obtain⟨i,es,p1,g1,hl,hf⟩:=v1;have z1:=I1.c;have z2:=I1.o;have ll:=lx (lt X).2;obtain⟨I2,K2⟩:=qo (Y:=(lx (lt X).2).2.qA i8) I1 (by rw[hr];exact yU _) (by show(lx (lt X).2).2.qQ - 1+1<=_;exact(ar2 0x115114005114022) (aC ((ar4 0x11111711076065054040115) hbb aS aS aS))) rfl rfl ((atK es j).getD (.int 0));obtain⟨I3,K3⟩:=qo (Y:=(look (lt X) (lx (lt X).2) true).2) I2 (by show((lx (lt X).2).2.qA i8).qO.length<(_++ [_]).length;simp) (by show(lx (lt X).2).2.qQ - 1 - 1 - 1+1<=(lx (lt X).2).2.qQ - 1;exact(ar3 zBK) (aC ((ar2 zAA) hbb aS)) aS) rfl rfl (.bool (atK es j).isSome);refine cz (X:=((lx (lt X).2).2.qA i8).qA bo) l3.wf E (agn p1 v2.1 g1 hl ((ar2 zAB) z2) ((ar2 zAB) z1)) I3.pan ?_;have hj:=hf j;refine q _ (by rw[ex,ey];rfl) _ t1 I3 ?_;have a1:vl _ (.r (lx (lt X).2).2.qO.length)=_:=K3.c _ (by rw[hr];exact yU _) _ (dg ..);have a2:atK (putK (putK M1.cells ((lx (lt X).2).2.qO.length:Nat) ((atK es j).getD (.int 0))) (((lx (lt X).2).2.qA i8).qO.length:Nat) (.bool (atK es j).isSome)) (((lx (lt X).2).2.qA i8).qO.length:Nat)=_:=dg ..;rw[hr] at a2;show [vl _ (.r (lx (lt X).2).2.qO.length),vl _ (.r ((lx (lt X).2).2.qO.length+1))]=_;rw[a1];show [_,atK (putK (putK M1.cells ((lx (lt X).2).2.qO.length:Nat) ((atK es j).getD (.int 0))) (((lx (lt X).2).2.qA i8).qO.length:Nat) (.bool (atK es j).isSome)) ((lx (lt X).2).2.qO.length+1:Nat)]=_;rw[hr,a2,hj.1];cases f j<;>rfl
end
theorem aq2{low:LS->List Opd×LS}{sem:Rs (List D)}{w:Nat}(C:ago low sem w){X:LS}{M:Ms}{t:Nat}(W:WF X)(I:Inv X M t)(hb:3+26*w<X.qQ)(hn:X.nb+2*w<=100)(hs:X.qP+w<=64)(hl:(low X).1.length<=100):Tof ((low X).2.close (kl (low X).1)) t X M sem:=by
 have l:=C.le X W I.r4;have b:=C.bd X;have b1:=b.nb;have b2:=b.st;have b3:=b.qQ;have E:Ext (low X).2 ((low X).2.close (kl (low X).1)):=by
  refine⟨yE _,λi hi ht=>⟨rfl,bh _ _ λh=>ht (h▸l.wf.tm)⟩,λi hi=>⟨[],(List.append_nil _).symm⟩,yE _,?_,?_⟩
  ·show(low X).2.nb<=100;exact(ar3 0x11164226050234060642250234003) hn b1
  ·show(low X).2.qP<=64;exact(ar3 0x11140226054060402254003) hs b2
 refine C.run _ X M t sem W E ((ar3 0x111601141a33106050541a331013) hb b3) I (λvs ev M' t' I' hv=> ?_) λs h=>h;show To _ _ _ _ _ _ _ _;rw[v9 (X:=(low X).2) (F:=(low X).2.close (kl (low X).1)) rfl,ev];obtain⟨ss,s1,s2,s3,_⟩:=I'.s;have:=I'.t;exact .ret (dh _ _ _) hv ⟨ss,s1,s2,by exact(ar4 0x111140227067054060402254004) hs b2 s3⟩ hl ((ar4 0x111164227067050234060642250234004) hn b1 this)
section
noncomputable abbrev cst(ty v:D):D:=(Opd.c ty v).d
noncomputable def pr0(X:LS):LS:=(X.beg 0 i8).put (.tup [k "move",.int 0,cst i8 (.int 3)])
noncomputable def pr1(X:LS):LS:=(X.beg1 i8).put (.tup [k "store",rgD 1,cst i8 (.int (-128))])
noncomputable def pr2(X:LS):LS:=(X.beg 2 bo).put (.tup [k "move",.int 2,cst bo (.bool true)])
noncomputable def pr3(X:LS):LS:=(X.beg 3 je).put (.tup [k "move",.int 3,cst je (.tup [.int 7,.int 100])])
noncomputable def fy(wes:List (Str×D))(lp li:Nat):LS:=pr3 (pr2 (pr1 (pr0 (X00 wes lp li))))
end
section
variable{X F:LS}{wes:List (Str×D)}{lp li:Nat}{o:Rs (List D)}
theorem aaj(W:WF X)(i:Nat)(ty:D):Le X (X.take i ty):=Le0.triv ⟨⟨W.here,W.tm⟩,yE _,λY Z U=>⟨rfl,rfl⟩,⟨[],(List.append_nil _).symm⟩,.inl rfl,by simp[LS.take,LS.qA],yE _,Nat.sub_le _ _⟩ rfl rfl
theorem aj8:(fy wes lp li).held=H4:=by rfl
theorem aj9:(fy wes lp li).nb=1/\(fy wes lp li).here=0/\(fy wes lp li).qP=1/\(fy wes lp li).qQ=4078/\(fy wes lp li).wes=wes:=⟨rfl,rfl,rfl,rfl,rfl⟩
theorem se{M:Ms}{ty v:D}{z:Nat}(hp:M.pan=none)(hO:M.objs.length<=4900)(hC:M.cells.length<=4900)(hv:NI v):Stp (.tup [k "move",.int z,cst ty v]) M {M with cells:=putK M.cells z v}:=
 tg (ps:=[.p (.c ty v)]) .move (.move rfl) (.p rfl (acg hv) .nil) (by simp[ptO]) (by simp[Pt.ops,vl]) (by simp) hp hO hC hv
theorem amo(E:Ext (fy wes lp li) F)(q:∀M,Inv (fy wes lp li) M 0->Tof F 0 (fy wes lp li) M o):Tof F 0 (X00 wes lp li) ⟨[],[],[],none⟩ o:=by
 have S1:Stp (.tup [k "move",.int (0:Nat),cst i8 (.int 0)]) ⟨[],[],[],none⟩ ⟨[(0,.int 0)],[],[],none⟩:=se rfl (by simp) (by simp) trivial;have S2:Stp (.tup [k "move",.int (0:Nat),cst i8 (.int 3)]) ⟨[(0,.int 0)],[],[],none⟩ ⟨[(0,.int 3)],[],[],none⟩:=se rfl (by simp) (by simp) trivial;have S3:Stp (.tup [k "new",.int (1:Nat),i8,az 1]) ⟨[(0,.int 3)],[],[],none⟩ ⟨[(0,.int 3),(1,ptD 0 .none)],[.l [.int 0]],[az 1],none⟩:=ae1 (by simp) (by simp) (by simp);have S4:Stp (.tup [k "store",rgD 1,cst i8 (.int (-128))]) ⟨[(0,.int 3),(1,ptD 0 .none)],[.l [.int 0]],[az 1],none⟩ ⟨[(0,.int 3),(1,ptD 0 .none)],[.l [.int (-128)]],[az 1],none⟩:=r7 (p:=.r 1) (a:=.c i8 (.int (-128))) (i:=0) (j:=0) (jd:=.none) (xs:=[.int 0]) rfl (.inl ⟨rfl,rfl⟩) rfl rfl rfl (by simp) (by simp) (by simp);have S5:Stp (.tup [k "move",.int (2:Nat),cst bo (.bool false)]) ⟨[(0,.int 3),(1,ptD 0 .none)],[.l [.int (-128)]],[az 1],none⟩ ⟨[(0,.int 3),(1,ptD 0 .none),(2,.bool false)],[.l [.int (-128)]],[az 1],none⟩:=se rfl (by simp) (by simp) trivial;have S6:Stp (.tup [k "move",.int (2:Nat),cst bo (.bool true)]) ⟨[(0,.int 3),(1,ptD 0 .none),(2,.bool false)],[.l [.int (-128)]],[az 1],none⟩ ⟨[(0,.int 3),(1,ptD 0 .none),(2,.bool true)],[.l [.int (-128)]],[az 1],none⟩:=se rfl (by simp) (by simp) trivial;have S7:Stp (.tup [k "move",.int (3:Nat),cst je (zeroOf 3)]) ⟨[(0,.int 3),(1,ptD 0 .none),(2,.bool true)],[.l [.int (-128)]],[az 1],none⟩ ⟨[(0,.int 3),(1,ptD 0 .none),(2,.bool true),(3,zeroOf 3)],[.l [.int (-128)]],[az 1],none⟩:=se rfl (by simp) (by simp) trivial;have S8:Stp (.tup [k "move",.int (3:Nat),cst je (.tup [.int 7,.int 100])]) ⟨[(0,.int 3),(1,ptD 0 .none),(2,.bool true),(3,zeroOf 3)],[.l [.int (-128)]],[az 1],none⟩ ⟨[(0,.int 3),(1,ptD 0 .none),(2,.bool true),(3,.tup [.int 7,.int 100])],[.l [.int (-128)]],[az 1],none⟩:=se rfl (by simp) (by simp) trivial;have W:∀Y:LS,Y.here=0->Y.nb=1->Y.tm 0=.none->WF Y:=λY h1 h2 h3=>⟨by exact(ar2 0x111541115401423) h1 h2,by rw[h1];exact h3⟩
 unfold fy at E;have l8:=bu (X:=(pr2 (pr1 (pr0 (X00 wes lp li)))).beg 3 je) (W _ rfl rfl rfl) (.tup [k "move",.int 3,cst je (.tup [.int 7,.int 100])]);have E7:=E.of (W ((pr2 (pr1 (pr0 (X00 wes lp li)))).beg 3 je) rfl rfl rfl) l8.toLe0;have l7:Le (pr2 (pr1 (pr0 (X00 wes lp li)))) ((pr2 (pr1 (pr0 (X00 wes lp li)))).beg 3 je):=(aaj (W _ rfl rfl rfl) 3 je).trans (W _ rfl rfl rfl) (bu (W _ rfl rfl rfl) _);have E6:=E7.of (W _ rfl rfl rfl) l7.toLe0;have l6:=bu (X:=(pr1 (pr0 (X00 wes lp li))).beg 2 bo) (W _ rfl rfl rfl) (.tup [k "move",.int 2,cst bo (.bool true)]);have E5:=E6.of (W ((pr1 (pr0 (X00 wes lp li))).beg 2 bo) rfl rfl rfl) l6.toLe0;have l5:Le (pr1 (pr0 (X00 wes lp li))) ((pr1 (pr0 (X00 wes lp li))).beg 2 bo):=(aaj (W _ rfl rfl rfl) 2 bo).trans (W _ rfl rfl rfl) (bu (W _ rfl rfl rfl) _);have E4:=E5.of (W _ rfl rfl rfl) l5.toLe0;have l4:=bu (X:=(pr0 (X00 wes lp li)).beg1 i8) (W _ rfl rfl rfl) (.tup [k "store",rgD 1,cst i8 (.int (-128))]);have E3:=E4.of (W ((pr0 (X00 wes lp li)).beg1 i8) rfl rfl rfl) l4.toLe0;have l3:Le (pr0 (X00 wes lp li)) ((pr0 (X00 wes lp li)).beg1 i8):=(aaj (W _ rfl rfl rfl) 1 (.tup [k "ptr",i8])).trans (W _ rfl rfl rfl) ((ti (W _ rfl rfl rfl)).trans (W _ rfl rfl rfl) (bu (W _ rfl rfl rfl) _));have E2:=E3.of (W _ rfl rfl rfl) l3.toLe0;have l2:=bu (X:=(X00 wes lp li).beg 0 i8) (W _ rfl rfl rfl) (.tup [k "move",.int 0,cst i8 (.int 3)]);have E1:=E2.of (W ((X00 wes lp li).beg 0 i8) rfl rfl rfl) l2.toLe0;refine cz (X:=(X00 wes lp li).take 0 i8) (W _ rfl rfl rfl) E1 S1 rfl ?_;refine cz (X:=(X00 wes lp li).beg 0 i8) (W _ rfl rfl rfl) E2 S2 rfl ?_;refine cz (X:=((pr0 (X00 wes lp li)).take 1 (.tup [k "ptr",i8])).site) (W _ rfl rfl rfl) E3 S3 rfl ?_;refine cz (X:=(pr0 (X00 wes lp li)).beg1 i8) (W _ rfl rfl rfl) E4 S4 rfl ?_;refine cz (X:=(pr1 (pr0 (X00 wes lp li))).take 2 bo) (W _ rfl rfl rfl) E5 S5 rfl ?_;refine cz (X:=(pr1 (pr0 (X00 wes lp li))).beg 2 bo) (W _ rfl rfl rfl) E6 S6 rfl ?_;refine cz (X:=(pr2 (pr1 (pr0 (X00 wes lp li)))).take 3 je) (W _ rfl rfl rfl) E7 S7 rfl ?_;refine cz (X:=(pr2 (pr1 (pr0 (X00 wes lp li)))).beg 3 je) (W _ rfl rfl rfl) E S8 rfl ?_;refine q _ ⟨rfl,by show 4+4078<=4200;decide,by show 1+4078<=4200;decide,by show 4<=4;decide,rfl,rfl,rfl,rfl,rfl,⟨[1],rfl,by simp,by show 1<=1;decide,λx hx=>by simp at hx;subst hx;show 1<=1;decide⟩,by show 0<=1;decide⟩
end
inductive Nx:D->List Nat->Prop
 | j {b}:Nx (acf b) [b]
 | b {r x y} (h:x≠y):Nx (brD r x y) [x,y]
 | r {l:List D}:Nx (.tup [k "return",.tup l]) []
noncomputable abbrev nI(l:List Nat):List D:=l.map λi:Nat=>D.int (i:Int)
section
variable{J:ac}{n:Nat}{Q:KD}
theorem aq3{t:D}{l:List Nat}(h:Nx t l)(q:∀J' m,Fr J J'->J'[m]?=some (.list (nI l))->J.length<=m->Q (.loc m) J'):Wk (ak T0 (n+1) (.val (.ref 349)) [t] J) Q:=by
 refine wC (fnA 57) ["terminator"] ?_
 induction h with
 | j=>
  walk;exact q _ _ (Fr.qR ..) (au _) (yE _)
 | @b r x y h=>
  walk;refine nh (by simp;exact λe=>h (Int.ofNat.inj e)) ?_;walk;exact q _ _ (Fr.qR ..) (au _) (yE _)
 | r=>
  walk;exact q _ _ (Fr.qR ..) (au _) (yE _)
end
section
variable{ρ:af}{J:ac}{QS:KS}
theorem amq{test:af->ac->KT->Prop}{body:af->ac->KS->Prop}(xs:List Str)(P:Nat->ac->Prop)
  (hs:∀μ τ J again,P μ J->(∀μ' ρ' J',μ'<μ->Ag xs ρ ρ'->P μ' J'->again ρ' J' QS)->test (exc xs ρ τ) J (kWh body again (exc xs ρ τ) QS))
  {f μ:Nat} (h:P μ J) (hf:μ<f):ii test body f ρ J QS:=by
 have key:∀(f μ:Nat) (ρ':af) (J:ac),Ag xs ρ ρ'->P μ J->μ<f->ii test body f ρ' J QS:=by
  intro f
  induction f with
  | zero=>intro μ ρ' J _ _ h;exact((ar1 zA9) h).elim
  | succ f ih=>
   intro μ ρ' J a h hf;refine wWs ?_;rw[a.eq];exact hs μ ρ' J _ h λμ' ρ' J' hm a hP=>ih μ' ρ' J' a hP ((ar3 0x1115614611150413) hf hm)
 exact key f μ ρ J (λY Z=>rfl) h hf
end
theorem LR.fr{J J':ac}{loc:Ro->Nat}{X:LS}(L:LR J loc X)(f:Fr J J'):LR J' loc X:=⟨λr h=>f.at (L.has r h),L.inj,L.base,L.here,L.b1,L.b2,L.b4⟩
theorem LR.co{J:ac}{loc:Ro->Nat}{X:LS}(L:LR J loc X):CO J (loc .cd) X.nb X.ins X.tm:=
 ⟨loc .dcd,loc .bl,cdL loc,λi=>loc (.bk i),λi=>loc (.it i),L.has .cd trivial,L.has .dcd trivial,by rfl,by rfl,by rfl,L.has .bl trivial,λi hi=>⟨L.has (.bk i) hi,L.has (.it i) hi⟩⟩
theorem LR.rec_{J:ac}{loc:Ro->Nat}{X:LS}{n:Nat}{K:D->Prop}(L:LR J loc X)(q:K .none):Wv (fz (d8 T0 n) J (.loc (loc .cd)) (so "recovery")) K:=at_ (L.has .cd trivial) (L.has .dcd trivial) (by k_go) (by rfl) rfl q
theorem ad1:∀(n:Nat) (l:List Nat),l.Nodup->(∀i∈l,i<n)->l.length<=n
 | 0,l,Y,h=>by induction l with
  | nil=>simp
  | cons a l=>exact absurd (h a (by simp)) ((ar1 zA9))
 | n+1,l,hd,h=>by
  have:=ad1 n (l.erase n) (hd.erase n) λi hi=>by
   have h1:=h i (List.mem_of_mem_erase hi);have h2:i≠n:=λe=>by subst e;exact(hd.not_mem_erase hi).elim
   exact(Nat.lt_or_gt_of_ne h2).elim (λq1=>((ar2 zAL) q1)) (λq2=>(yX ((ar2 zCR) h1 q2)))
  by_cases hm:n∈l
  ·rw[List.length_erase_of_mem hm] at this;exact(ar3 0x1111150601140605403) this aT
  ·rw[List.erase_of_not_mem hm] at this;exact(ar2 0x111150405402) this
theorem gm{J:ac}{i j:Nat}{c c':Cell}(h:j≠i)(g:J[i]?=some c):(J.set j c')[i]?=some c:=by rw[yB h];exact g
theorem aue{J:ac}{i j:Nat}{ws:List Nat}(h:i≠j)(h1:J[i]?=some (.list (nI ws)))(h2:J[j]?=some (.list [])):kh J .NotEq (.loc i) (.loc j)=some (!ws.isEmpty):=by
 induction ws with
 | nil=>show Option.map _ (ite (i=j) none _)=_;rw[if_neg h,h1,h2];rfl
 | cons a l=>show Option.map _ (ite (i=j) none _)=_;rw[if_neg h,h1,h2];rfl
structure Rch(X:LS)(fs ws:List Nat)(ms:List (Int×D))(μ:Nat):Prop where
 ml:ms.length<=fs.length
 mm:∀j:Nat,(atK ms (j:Int)).isSome=decide (j∈fs)
 nd:fs.Nodup
 fb:∀i∈fs,i<X.nb
 wb:∀i∈ws,i<X.nb
 h0:0∈fs\/0∈ws
 cl:∀p∈fs,∀l,Nx (X.tm p) l->∀i∈l,i∈fs\/i∈ws
 m1:ws.length+3*(X.nb - fs.length)<=μ
 m2:μ<=400
theorem Nx.len{t:D}{l:List Nat}(h:Nx t l):l.length<=2:=by induction h<;>simp
theorem Nx.uniq{t:D}{l l':List Nat}(h:Nx t l)(h':Nx t l'):l'=l:=by
 induction h<;>(cases h'<;>first | rfl | simp_all)
section
variable{X:LS}{fs ws:List Nat}{ms:List (Int×D)}{μ b:Nat}
theorem Rch.init(hn:X.nb<=100)(hb:0<X.nb):Rch X [] [0] [] 400:=
 ⟨yE _,λY=>rfl,List.nodup_nil,(λY m=>nomatch m),λi m=>by cases yG m;exact hb,.inr yP,(λY m=>nomatch m),(by show 1+3*(X.nb - 0)<=400;exact(ar2 0x13319032503311004506422403) hn aS),yE _⟩
theorem Rch.all(R:Rch X fs [] ms μ)(hr:∀i,0<i->i<X.nb->∃p l,p<i/\Nx (X.tm p) l/\i∈l)(i:Nat):i∈fs↔i<X.nb:=by
 refine⟨R.fb i,λhi=> ?_⟩;have all:∀n i,i<n->i<X.nb->i∈fs:=by
  intro n
  induction n with
  | zero=>intro i h;exact absurd h (Nat.not_lt_zero _)
  | succ n ih=>
   intro i h hi;rcases Nat.eq_zero_or_pos i with rfl | hp
   ·exact R.h0.elim id λm=>nomatch m
   ·obtain⟨p,l,hpi,hN,hm⟩:=hr i hp hi;exact(R.cl p (ih p (yJ hpi (Nat.le_of_lt_succ h)) (Nat.lt_trans hpi hi)) l hN i hm).elim id λm=>nomatch m
 exact all X.nb i hi hi
theorem afb{i:Nat}(h:i∈fs\/i∈ws++ [b]):i∈fs\/i∈ws\/i=b:=h.imp id λh=>(List.mem_append.mp h).imp id yG
theorem Rch.skip(R:Rch X fs (ws++ [b]) ms μ)(hb:b∈fs):Rch X fs ws ms (μ - 1)/\μ - 1<μ:=by
 have to:∀{i},i∈fs\/i∈ws++ [b]->i∈fs\/i∈ws:=λh=>(afb h).elim .inl λh=>h.elim .inr λh=> .inl (h▸hb);have m1:=R.m1;have m2:=R.m2;rw[List.length_append,List.length_singleton] at m1;exact⟨⟨R.ml,R.mm,R.nd,R.fb,λi hi=>R.wb i (List.mem_append_left _ hi),to R.h0,λp hp l hN i hi=>to (R.cl p hp l hN i hi),by exact(ar4 0x11175033400117060650331140003) m1 aT,by exact(ar2 0x111190325045019032403) m2 aS⟩,by exact(ar2 0x115415114022) (aC ((ar3 0x116110650331140002) m1))⟩
theorem Rch.room(R:Rch X fs (ws++ [b]) ms μ)(hb:b∉fs):fs.length+1<=X.nb:=
 ad1 X.nb (b::fs) (List.nodup_cons.mpr ⟨hb,R.nd⟩) λi hi=>(yM hi).elim (λe=>e▸R.wb b (List.mem_append_right _ yP)) (R.fb i)
theorem Rch.wlen(R:Rch X fs (ws++ [b]) ms μ):ws.length<=4000:=by
 have m1:=R.m1;have m2:=R.m2;rw[List.length_append] at m1;exact(ar4 0x111fa03240190327076033540003) m1 m2
theorem Rch.step{l:List Nat}(R:Rch X fs (ws++ [b]) ms μ)(hb:b∉fs)(hN:Nx (X.tm b) l)(hlt:∀x∈l,x<X.nb):Rch X (fs++ [b]) (ws++l.reverse) (putK ms (b:Int) (.bool true)) (μ - 1)/\μ - 1<μ:=by
 have to:∀{i},i∈fs\/i∈ws++ [b]->i∈fs++ [b]\/i∈ws++l.reverse:=λh=>(afb h).elim (λh=> .inl (List.mem_append_left _ h)) λh=>h.elim (λh=> .inr (List.mem_append_left _ h)) λh=> .inl (List.mem_append_right _ (List.mem_singleton.mpr h));have m1:=R.m1;have m2:=R.m2;have h3:=R.room hb;have h4:=hN.len;have h5:=ja ms (b:Int) (.bool true);have h6:=R.ml;rw[List.length_append,List.length_singleton] at m1;refine⟨⟨?_,λj=> ?_,?_,λi hi=>(List.mem_append.mp hi).elim (R.fb i) λh=>yG h▸R.wb b (List.mem_append_right _ yP),λi hi=>(List.mem_append.mp hi).elim (λh=>R.wb i (List.mem_append_left _ h)) λh=>hlt i (List.mem_reverse.mp h),to R.h0,λp hp l' hN' i hi=> ?_,?_,by exact(ar2 0x111190325045019032403) m2 aS⟩,by exact(ar2 0x115415114022) (aC ((ar3 0x116110650331140002) m1))⟩
 ·rw[List.length_append,List.length_singleton];exact(ar3 0x1111160406501150403) h5 h6
 ·by_cases e:j=b
  ·subst e;rw[dg];exact(decide_eq_true (List.mem_append_right _ yP)).symm
  ·rw[ba _ _ (λ(z:(j:Int)=(b:Int))=>e (Int.ofNat.inj z)),R.mm j];exact decide_eq_decide.mpr ⟨List.mem_append_left _,λh=>(List.mem_append.mp h).elim id λh=>absurd (yG h) e⟩
 ·exact List.nodup_append.mpr ⟨R.nd,List.nodup_cons.mpr ⟨List.not_mem_nil,List.nodup_nil⟩,λx hx y hy e=>hb (yG hy▸e▸hx)⟩
 ·rcases List.mem_append.mp hp with h | h
  ·exact to (R.cl p h l' hN' i hi)
  ·cases yG h;cases hN.uniq hN';exact .inr (List.mem_append_right _ (List.mem_reverse.mpr hi))
 ·rw[List.length_append,List.length_reverse,List.length_append,List.length_singleton];exact(ar8 0x131311ab0337400081190b0211a060950802170650331140006) m1 h4 aT aT (aC ((ar2 0x115114005114002) h3))
end
structure ni(J J':ac)(fs ws:List Nat)(ms:List (Int×D)):Prop where
 f:Fr J J'
 a:J'[J.length]?=some (.list (nI fs))
 b:J'[J.length+1]?=some (.list (nI ws))
 c:J'[J.length+2]?=some (.dictI ms)
section
variable{J J':ac}{fs ws:List Nat}{ms:List (Int×D)}
theorem ni.fr{J2:ac}(R:ni J J' fs ws ms)(f:Fr J' J2):ni J J2 fs ws ms:=⟨R.f.trans f,f.at R.a,f.at R.b,f.at R.c⟩
theorem ni.setA(R:ni J J' fs ws ms)(fs':List Nat):ni J (J'.set J.length (.list (nI fs'))) fs' ws ms:=
 ⟨R.f.qE (yE _) _,bj R.a,gm (yO (yU _)) R.b,gm (yO (Nat.lt_add_of_pos_right (by decide))) R.c⟩
theorem ni.setB(R:ni J J' fs ws ms)(ws':List Nat):ni J (J'.set (J.length+1) (.list (nI ws'))) fs ws' ms:=
 ⟨R.f.qE (Nat.le_add_right _ _) _,gm (yN (yU _)) R.a,bj R.b,gm (yO (yU _)) R.c⟩
theorem ni.setC(R:ni J J' fs ws ms)(ms':List (Int×D)):ni J (J'.set (J.length+2) (.dictI ms')) fs ws ms':=
 ⟨R.f.qE (Nat.le_add_right _ _) _,gm (yN (Nat.lt_add_of_pos_right (by decide))) R.a,gm (yN (yU _)) R.b,bj R.c⟩
theorem ni.init(J:ac):ni J (J++ [Cell.list []]++ [Cell.list [D.int 0]]++ [Cell.dictI []]) [] [0] []:=
 ⟨((Fr.qR ..).trans (Fr.qR ..)).trans (Fr.qR ..),by simp,by simp,by simp⟩
end
section
variable{J:ac}{n:Nat}{Q:KD}{loc:Ro->Nat}{X:LS}
theorem amr(L:LR J loc X)(hn:X.nb<=100)(hb:0<X.nb)(nx:∀i,i<X.nb->∃l,Nx (X.tm i) l/\∀x∈l,x<X.nb)(hr:∀i,0<i->i<X.nb->∃p l,p<i/\Nx (X.tm p) l/\i∈l)
  (q:∀J' m fs,Fr J J'->J'[m]?=some (.list (nI fs))->fs.Nodup->(∀i,i∈fs↔i<X.nb)->Q (.loc m) J'):Wk (ak T0 (n+3) (.val (.ref 356)) [.loc (loc .cd)] J) Q:=by
 refine wC (fnA 58) ["code"] ?_;walk;refine(L.fr (Fr.qR ..)).rec_ ?_;walk;refine wWh ?_;have S0:=ni.init J;rw[show(J++ [Cell.list []]).length=J.length+1 from List.length_append,show(J++ [Cell.list []]++ [Cell.list [D.int 0]]).length=J.length+2 from List.length_append.trans (congrArg (·+1) List.length_append)];generalize (J++ [Cell.list []]++ [Cell.list [D.int 0]]++ [Cell.dictI []])=J1 at S0⊢;refine amq [so "block",so "end"] (λμ J'=> ∃fs ws ms,ni J J' fs ws ms/\Rch X fs ws ms μ) ?_ (μ:=400) ⟨[],[0],[],S0,.init hn hb⟩ (by decide);rintro μ τ J2 again ⟨fs,ws,ms,S2,R⟩ qa;walk;refine cK (aue (yO (ae S2.b)) (ag S2.b) (au _)) ?_;replace S2:=S2.fr (Fr.qR J2 [Cell.list []]);generalize J2++ [Cell.list []]=J3 at S2⊢;rcases List.eq_nil_or_concat ws with rfl | ⟨ws',b,rfl⟩
 ·walk;exact q _ _ fs S2.f S2.a R.nd (R.all hr)
 rw[List.concat_eq_append] at*;refine adw (by simp) ?_;have hbn:b<X.nb:=R.wb b (List.mem_append_right _ yP);walk;refine mtL S2.b (.inr (.inr rfl)) ?_;walk;refine mPop (x:=.int (b:Nat)) S2.b (by simp) (aj (by simp;have:=R.wlen;exact(ar1 0x1113874240fa032402) this)) ?_;rw[show(nI (ws'++ [b])).dropLast=nI ws' from by simp];replace S2:=S2.setB ws';generalize J3.set (J.length+1) (.list (nI ws'))=J4 at S2⊢;walk;refine cK (t:=!(decide (b∈fs))) ((inN S2.c).trans (by have hin:=R.mm b;rw[hin])) ?_;by_cases hbf:b∈fs
 ·refine nh (by simp[hbf]) ?_;walk;exact qa (μ - 1) _ _ (R.skip hbf).2 (by k_lt2 za) ⟨fs,ws',ms,S2,(R.skip hbf).1⟩
 obtain⟨l,hN,hlt⟩:=nx b hbn;have R2:=R.step hbf hN hlt;have hfl:=R.room hbf;have hwl:=R.wlen;have hml:=R.ml;clear R;refine adw (by simp[hbf]) ?_;walk;refine iDI S2.c (aj ((ar3 0x1111138842605604115006422404) hn hfl hml)) ?_;replace S2:=S2.setC (putK ms (b:Int) (.bool true));generalize J4.set (J.length+2) (.dictI (putK ms (b:Int) (.bool true)))=J5 at S2⊢;walk;refine mtL S2.a (.inl rfl) ?_;walk;refine w6 S2.a (aj (by simp;exact(ar2 0x111138842504115006422403) hn hfl)) rfl ?_;rw[show nI fs++ [D.int (b:Nat)]=nI (fs++ [b]) from by simp];replace S2:=S2.setA (fs++ [b]);generalize J5.set J.length (.list (nI (fs++ [b])))=J6 at S2⊢;have C6:=(L.fr S2.f).co;walk;refine mtL S2.b (.inr (.inl rfl)) ?_;walk;refine C6.mt ?_;walk;refine aju C6 hbn hn ?_;walk;refine aq3 hN λJ7 m f7 g7 Y=> ?_;walk;have hll:=hN.len;refine slL (r:=(nI l).reverse) g7 (aj (by simp;exact(ar1 0x111388424021402) hll)) cutR ?_;walk;have hb1:=ae (f7.at S2.b);replace S2:=S2.fr (f7.trans (Fr.qR J7 [Cell.list (nI l).reverse]));refine alh S2.b (au _) (yN hb1) (aj (by simp;exact(ar2 0x11113884254002150fa032403) hwl hll)) ?_;rw[show nI ws'++(nI l).reverse=nI (ws'++l.reverse) from by simp];walk;exact qa (μ - 1) _ _ R2.2 (by k_lt2 za) ⟨fs++ [b],ws'++l.reverse,putK ms (b:Int) (.bool true),S2.setB _,R2.1⟩
end
theorem ams(x:Int)(l:List Int)(y:Int):y∈iw x l↔y=x\/y∈l:=(insI_perm x l).mem_iff.trans List.mem_cons
theorem aco(l:List Int)(y:Int):y∈sortI l↔y∈l:=(sortI_perm l).mem_iff
theorem aka(x:Int):∀(l:List Int),l.Pairwise (·< ·)->x∉l->(iw x l).Pairwise (·< ·)
 | [],Y,Z=>List.pairwise_singleton ..
 | z::r,h,hx=>ah5 (P:=List.Pairwise _) (λq=> .cons (λy hy=>Int.lt_iff_le_and_ne.mpr ⟨yW q ((yM hy).elim (λe=>Int.le_of_eq e.symm) λhy=>Int.le_of_lt ((List.pairwise_cons.mp h).1 y hy)),λe=>hx (e▸hy)⟩) h)
  λq=> .cons (λy hy=>((ams x r y).mp hy).elim (λe=>e▸q) ((List.pairwise_cons.mp h).1 y)) (aka x r (List.pairwise_cons.mp h).2 λm=>hx (List.mem_cons_of_mem _ m))
theorem afc:∀(l:List Int),l.Nodup->(sortI l).Pairwise (·< ·)
 | [],Y=> .nil
 | x::r,h=>by
  rw[List.nodup_cons] at h;exact aka x _ (afc r h.2) λhm=>h.1 ((aco r x).mp hm)
theorem afd:∀(a b:List Int),a.Pairwise (·< ·)->b.Pairwise (·< ·)->(∀y,y∈a↔y∈b)->a=b
 | [],[],Y,Z,U=>rfl
 | [],y::b,Y,Z,h=>nomatch (h y).mpr yP
 | x::a,[],Y,Z,h=>nomatch (h x).mp yP
 | x::a,y::b,ha,hb,h=>by
  rw[List.pairwise_cons] at ha hb;have e:x=y:=by
   have h1:=(h x).mp yP;have h2:=(h y).mpr yP;rcases yM h1 with h1 | h1
   ·exact h1
   ·rcases yM h2 with h2 | h2
    ·exact h2.symm
    ·exact(Int.lt_asymm (ha.1 y h2) (hb.1 x h1)).elim
  subst e;rw[afd a b ha.2 hb.2 λy=> ?_];constructor
  ·intro hy;have z3:=ha.1 y hy;rcases yM ((h y).mp (List.mem_cons_of_mem _ hy)) with g | g
   ·exact(Int.ne_of_gt z3 g).elim
   ·exact g
  ·intro hy;have z4:=hb.1 y hy;rcases yM ((h y).mpr (List.mem_cons_of_mem _ hy)) with g | g
   ·exact(Int.ne_of_gt z4 g).elim
   ·exact g
theorem yd:∀l:List Nat,intsOf (nI l)=some (l.map λi:Nat=>(i:Int))
 | []=>rfl
 | a::l=>congrArg (Option.map ((a:Int):: ·)) (yd l)
theorem ad2{fs:List Nat}{n:Nat}(hd:fs.Nodup)(h:∀i,i∈fs↔i<n):sortI (fs.map λi:Nat=>(i:Int))=(List.range n).map λi:Nat=>(i:Int):=by
 refine afd _ _ (afc _ ?_) ?_ λy=> ?_
 ·exact List.Pairwise.map _ (λa b hab e=>hab (Int.ofNat.inj e)) hd
 ·exact List.Pairwise.map _ (λa b hab=>Int.ofNat_lt.mpr hab) List.pairwise_lt_range
 ·rw[aco,List.mem_map,List.mem_map];constructor
  ·rintro⟨i,hi,rfl⟩;exact⟨i,List.mem_range.mpr ((h i).mp hi),rfl⟩
  ·rintro⟨i,hi,rfl⟩;exact⟨i,(h i).mpr (List.mem_range.mp hi),rfl⟩
theorem agp{J:ac}{m n:Nat}{fs:List Nat}(g:J[m]?=some (.list (nI fs)))(hd:fs.Nodup)(h:∀i,i∈fs↔i<n)(hn:n<=63):mo J (.loc m)=some (nI (List.range n)):=by
 have hl:=ad1 n fs hd λi hi=>(h i).mp hi
 delta mo;dsimp only;rw[g];dsimp only
 rw[yd,Option.bind_some,if_pos (by show(fs.map _).length<64;rw[List.length_map];exact(ar2 0x1114022514503f22403) hn hl),ad2 hd h,List.map_map];rfl
inductive Tmd(nb:Nat):D->Prop
 | j {b} (h:b<nb):Tmd nb (acf b)
 | b {r x y} (h1:x<nb) (h2:y<nb):Tmd nb (brD r x y)
 | r {l:List D}:Tmd nb (.tup [k "return",.tup l])
section
variable{J:ac}{n nb m:Nat}{Q:KD}{loc:Ro->Nat}{X:LS}{t:D}
theorem Tmd.pl(h:Tmd nb t):ao t=true:=by induction h<;>rfl
theorem Tmd.nn(h:Tmd nb t):sy t=some false:=by induction h<;>rfl
theorem auf{ps:List (Int×D)}(h:Tmd nb t)(hm:J[m]?=some (.dictI ps))(hp:∀i:Nat,i<nb->atK ps (i:Int)=some (.int (i:Nat)))(q:Q t J):Wk (jl T0 (n+2) true (.val (.ref 363)) [t,.lam m] J) Q:=by
 refine wCt (fnA 59) ["terminator","turned"] (by k_go) (by rfl) (by rfl) (by induction h<;>k_go) ?_
 induction h with
 | @j b h=>
  walk;refine apc (apb (sDI hm (hp b h) ?_));walk;exact q
 | @b r x y h1 h2=>
  walk;refine apc (apb (sDI hm (hp x h1) ?_));walk;refine apc (apb (sDI hm (hp y h2) ?_));walk;exact q
 | r=>
  walk;exact q
theorem ye(i:Nat):putK ((List.range i).map λj:Nat=>((j:Int),D.int (j:Nat))) (i:Int) (.int (i:Nat))=(List.range (i+1)).map λj:Nat=>((j:Int),D.int (j:Nat)):=by
 rw[putK,if_neg (by simp;exact λj hj e=>yO hj (Int.ofNat.inj e)),List.range_succ,List.map_append];rfl
theorem acp:∀(n i:Nat),i<n->atK ((List.range n).map λj:Nat=>((j:Int),D.int (j:Nat))) (i:Int)=some (.int (i:Nat))
 | 0,i,h=>by exact((ar1 zA9) h).elim
 | n+1,i,h=>by
  rw[<-ye];by_cases e:i=n
  ·subst e;exact dg ..
  ·rw[ba _ _ (cne e)];exact acp n i ((Nat.lt_or_gt_of_ne e).elim (λq1=>((ar2 zAL) q1)) (λq2=>(yX ((ar2 zCR) h q2))))
noncomputable abbrev akb(n:Nat):List (Int×D):=(List.range n).map λj:Nat=>((j:Int),D.int (j:Nat))
theorem wg(n:Nat):(akb n).length=n:=by rw[akb,List.length_map,List.length_range]
inductive K3(X:LS)(m:Nat)(J':ac)(j b t:Nat):Prop
 | mk (d1:m<b) (d2:m<t) (d3:J'[b]?=some (.list [.loc t,X.tm j])) (d4:J'[t]?=some (.list (X.ins j))):K3 X m J' j b t
inductive K2(X:LS)(J:ac)(m i:Nat)(J':ac):Prop
 | mk (bk it:Nat->Nat) (f:Fr J J') (a:J'[J.length]?=some (.dictI (akb X.nb))) (b:J'[m]?=some (.list ((List.range i).map λj=> .loc (bk j)))) (c:∀j,j<i->K3 X m J' j (bk j) (it j)):K2 X J m i J'
theorem K2.fr{J':ac}{i:Nat}(h:K2 X J m i J'):Fr J J':=by
 obtain⟨_,_,f,_,_,_⟩:=h;exact f
theorem K2.step{J4 J5:ac}{i:Nat}{bk it:Nat->Nat}(f4:Fr J J4)(a4:J4[J.length]?=some (.dictI (akb X.nb)))(b4:J4[m]?=some (.list ((List.range i).map λj=> .loc (bk j))))(c4:∀j,j<i->K3 X m J4 j (bk j) (it j))
  (hm:J.length<m) (l5:J5.length=J4.length+1) (f5:Fr J4 J5) (n5:J5[J4.length]?=some (.list (X.ins i))):
  K2 X J m (i+1) ((J5++ [Cell.list [.loc J4.length,X.tm i]]).set m (.list ((List.range i).map (λj=>D.loc (bk j))++ [D.loc J5.length]))):=by
 have f6:=f5.trans (Fr.qR J5 [Cell.list [.loc J4.length,X.tm i]]);have hl4:=ae b4;have er:(List.range i).map (λj=>D.loc (bk j))++ [D.loc J5.length]=(List.range (i+1)).map λj=>D.loc (upn bk i J5.length j):=by
  rw[List.range_succ,List.map_append];congr 1
  ·exact List.map_congr_left λj hj=>by rw[bh _ _ (yO (List.mem_range.mp hj))]
  ·simp[dh]
 rw[er];refine⟨upn bk i J5.length,upn it i J4.length,(f4.trans f6).qE (Nat.le_of_lt hm) _,gm ((ar2 zAT) hm) (f6.at a4),bj (f6.at b4),λj hj=> ?_⟩;by_cases e:j=i
 ·subst e;rw[dh,dh];exact⟨by exact(ar3 0x1116411150645413) hl4 l5,by exact(ar2 zAL) hl4,gm ((ar3 0x1111010136441150645414) hl4 l5) (au _),gm ((ar2 zAF) hl4) (ag n5)⟩
 ·rw[bh _ _ e,bh _ _ e];obtain⟨d1,d2,d3,d4⟩:=c4 j ((Nat.lt_or_gt_of_ne e).elim (λq1=>((ar2 zAL) q1)) (λq2=>(yX ((ar2 zCR) hj q2))));exact⟨d1,d2,gm ((ar2 zAF) d1) (f6.at d3),gm ((ar2 zAF) d2) (f6.at d4)⟩
theorem xc(L:LR J loc X)(hn:X.nb<=63)(ht:∀i,i<X.nb->Tmd X.nb (X.tm i)){kp:Nat}(hk:J[kp]?=some (.list (nI (List.range X.nb))))(q:∀J' m,Fr J J'->CO J' m X.nb X.ins X.tm->Q (.loc m) J'):Wk (ak T0 (n+4) (.val (.ref 370)) [.loc (loc .cd),.loc kp] J) Q:=by
 refine wC (fnA 60) ["code","kept"] ?_;walk;have k0:=ag (t:=[Cell.dictI []]) hk;have f0:=Fr.qR J [Cell.dictI []];have a0:(J++ [Cell.dictI []])[J.length]?=some (.dictI []):=au _;generalize J++ [Cell.dictI []]=J1 at k0 f0 a0⊢;walk;refine sdF k0 ?_;refine qk [so "block"] (L:=nI (List.range X.nb)) (λi Y J'=>Fr J J'/\J'[J.length]?=some (.dictI (akb i))) (λi ρ J' h=>h.1.at hk) ?_ ⟨f0,a0⟩ ?_ rfl
 ·rintro i x τ J2 Q' hx ⟨f2,a2⟩ q';have hi:i<X.nb:=by have:=ae hx;simpa using this
  have hx:x=.int (i:Nat):=by simp[hi] at hx;exact hx.symm
  subst hx;walk;refine qd (m:=i) (by rw[alm a2 (by rw[wg];exact aj ((ar2 zB5) hn hi)),wg]) ?_;walk;refine iDI a2 (by rw[wg];exact aj ((ar2 zB5) hn hi)) ?_;walk;rw[ye];exact q' _ _ (by k_lt2 za) ⟨f2.qE (yE _) _,bj a2⟩
 rintro τ J2 ⟨f2,a2⟩;rw[show(nI (List.range X.nb)).length=X.nb by simp] at a2;have hp:=λi (h:i<X.nb)=>acp X.nb i h;have hsl:=ae a2;walk;have b3:(J2++ [Cell.list []])[J2.length]?=some (.list []):=au _;have f3:=f2.trans (Fr.qR J2 [Cell.list []]);replace a2:=ag (t:=[Cell.list []]) a2;have b4:(J2++ [Cell.list []]).length=J2.length+1:=by simp
 generalize J2++ [Cell.list []]=J3 at f3 b3 a2 b4⊢;walk;refine sdF (f3.at hk) ?_;refine qk [so "block",so "some",so "end"] (L:=nI (List.range X.nb)) (λi Y J'=>K2 X J J2.length i J') (λi ρ J' h=>h.fr.at hk) ?_ ⟨λY=>0,λY=>0,f3,a2,b3,λj h=>(Nat.not_lt_zero _ h).elim⟩ ?_ rfl
 ·rintro i x τ4 J4 Q' hx ⟨bk,it,f4,a4,b4,c4⟩ q';have hi:i<X.nb:=by have:=ae hx;simpa using this
  have hx:x=.int (i:Nat):=by simp[hi] at hx;exact hx.symm
  subst hx;have L4:=L.fr f4;have htp:=(ht i hi).pl;have hil:=L.b4 i;walk;refine L4.blocks_ ?_;walk;refine bf (L4.has .bl trivial) (cj (vk hi) ((ar2 zB5) hn hi)) ?_;walk;refine bdL (L4.has (.bk i) hi) ?_;walk;refine mtL b4 (.inl rfl) ?_;walk;refine apd (l:=X.ins i) (ass (L4.has (.it i) hi) (aj ((ar2 zBA) hil))) ?_;have f5:=Fr.qR J4 [Cell.list (X.ins i)];have n5:(J4++ [Cell.list (X.ins i)])[J4.length]?=some (.list (X.ins i)):=au _;have hl4:=ae b4;generalize hσ5:J4++ [Cell.list (X.ins i)]=J5 at f5 n5⊢;have l5:J5.length=J4.length+1:=by rw[<-hσ5];simp
  clear hσ5;walk;refine wCNL (by k_go) (by k_go) (by exact anu rfl rfl g24) ?_;refine ao8 (by k_go) ?_;walk;refine asp (l:=.lam J.length) (by k_go) ?_;refine aso ?_;walk;refine auf (ht i hi) (f5.at a4) (λj hj=>hp j hj) ?_;walk;have f6:=f5.trans (Fr.qR J5 [Cell.list [.loc J4.length,X.tm i]]);refine w6 (f6.at b4) (aj (by simp;exact(ar2 zB5) hn hi)) rfl ?_;walk;exact q' _ _ (by k_lt2 za) (K2.step f4 a4 b4 c4 hsl l5 f5 n5)
 rintro τ4 J4 ⟨bk,it,f4,a4,b4,c4⟩;rw[show(nI (List.range X.nb)).length=X.nb by simp] at b4 c4;have L4:=L.fr f4;walk;refine L4.rec_ ?_;walk;have at4:∀{x:Str} {v:D} {n:Nat} {K:D->Prop},atK (cdL loc) x=some v->T0.attr 338 x=true->tz v=true->K v->Wv (fz (d8 T0 n) J4 (.loc (loc .cd)) x) K:=λh1 h2 h3 q=>at_ (L4.has .cd trivial) (L4.has .dcd trivial) h2 h1 h3 q;refine at4 (v:=k "f") (by rfl) (by k_go) rfl ?_;walk;refine at4 (v:=.int 0) (by rfl) (by k_go) rfl ?_;walk;refine at4 (v:=.loc (loc .rg)) (by rfl) (by k_go) rfl ?_;walk;refine at4 (v:=.int 0) (by rfl) (by k_go) rfl ?_;walk;refine at4 (v:=.int 0) (by rfl) (by k_go) rfl ?_;walk;have hrg:=L4.b1;refine aez (ky:=k "f") (pa:=.int 0) (ca:=.int 0) (re:=.int 0) (rc:=.none) (by rfl) (L4.has .rg trivial) (aj ((ar2 zBA) hrg)) rfl rfl rfl rfl rfl λm d rg J5 I5 Y Z U=> ?_;walk;have f5:=I5.f;exact q _ _ (f4.trans f5) ⟨d,J2.length,_,bk,it,I5.inst,I5.at_,by rfl,by rfl,by rfl,f5.at b4,λj hj=>by
  obtain⟨_,_,d3,d4⟩:=c4 j hj;exact⟨f5.at d3,f5.at d4⟩⟩
@[simp] theorem aq4:T0.meth 570 (so "finished")=some (.val (.ref 567)):=by k_go
theorem akc(L:LR J loc X)(hn:X.nb<=63)(hb:0<X.nb)(ht:∀i,i<X.nb->Tmd X.nb (X.tm i))(nx:∀i,i<X.nb->∃l,Nx (X.tm i) l/\∀x∈l,x<X.nb)(hr:∀i,0<i->i<X.nb->∃p l,p<i/\Nx (X.tm p) l/\i∈l)
  (q:∀J' m,Fr J J'->CO J' m X.nb X.ins X.tm->Q (.loc m) J'):Wk (ak T0 (n+5) (.val (.ref 567)) [.loc (loc .st)] J) Q:=by
 have hrg:=L.b2;refine wC (fnS 67 22) ["self"] ?_;walk;refine L.code ?_;walk;refine L.blocks_ ?_;walk;refine sdF (L.has .bl trivial) ?_;refine qk [so "block"] (L:=(List.range X.nb).map λi=> .loc (loc (.bk i))) (λi Y J'=>J'=J) (λi ρ J' h=>by rw[h];exact L.has .bl trivial) ?_ rfl ?_ rfl
 ·rintro i x τ J2 Q' hx rfl q';have hi:i<X.nb:=by have:=ae hx;simpa using this
  have hx:x=.loc (loc (.bk i)):=by simp[hi] at hx;exact hx.symm
  subst hx;walk;refine bf (v:=X.tm i) (L.has (.bk i) hi) rfl ?_;walk;refine cK (t:=false) (ht i hi).nn ?_;walk;exact q' _ _ (by k_lt2 za) rfl
 ·rintro τ J2 rfl;walk;refine L.code ?_;walk;refine L.code ?_;walk;refine amr L ((ar1 0x116422403f22402) hn) hb nx hr λJ3 m fs f3 g3 hd hm=> ?_;walk;refine alg (agp g3 hd hm hn) ?_;walk;have f4:=f3.trans (Fr.qR J3 [Cell.list (nI (List.range X.nb))]);refine xc (L.fr f4) hn ht (au _) λJ5 m5 f5 C5=> ?_;walk;exact q _ _ (f4.trans f5) C5
end
noncomputable def WW(sem:Rs (List D))(tp:Bool)(v:D)(p:Option Str):Prop:=(p=none/\∃vs,sem=.ok vs/\if tp then v=.tup vs else vs=[v])\/∃t,p=some t/\sem=.er t
structure Rt(e:D)(low:LS->List Opd×LS)(sem:Rs (List D))(dp w:Nat)(tp:Bool):Prop where
 sh:∃w x r l,e=.tup (.str w::.tup (.str x::r)::l)/\(x==so "tuple")=tp
 vals:sv e low dp
 cor:ago low sem w
 len:∀X,(low X).1.length<=2
 worth:∀(n:Nat) (J:ac) (r c:Nat) (Q:D->ac->Prop),2*dp+4<=n->Wo J r c none->(∀v J' p',ao v=true->Wo J' r c p'->FrS J r J'->WW sem tp v p'->Q v J')->Wk (ak T0 n (.val (.ref 725)) [.loc r,e] J) Q
 eq:∀vs,sem=.ok vs->vs.length<=2/\∀(J:ac) (m:Nat),eqL J (m+4) vs vs=some true
structure Fb(J0 J:ac)(loc:Ro->Nat)(X:LS):Prop where
 f:Fr J0 J
 ge:∀r,X.valid r->J0.length<=loc r
section
variable{J0 J J':ac}{loc loc':Ro->Nat}{X X':LS}{t:ac}
theorem Fb.up(h:Fb J0 J loc X)(U:Up J loc X J' loc' X'):Fb J0 J' loc' X':=by
 refine⟨⟨yK h.f.1 U.len,λl hl=> ?_⟩,λr hr=> ?_⟩
 ·rw[U.old l (yJ hl h.f.1) λr hr e=>by have:=h.ge r hr;exact(ar3 zB9) hl e this];exact h.f.2 l hl
 ·rcases U.new r hr with g | g
  ·rw[(U.loc r g).2];exact h.ge r g
  ·exact yK h.f.1 g
theorem Fb.fr(h:Fb J0 J loc X)(f:Fr J J'):Fb J0 J' loc X:=⟨h.f.trans f,h.ge⟩
theorem LR.qV{r:Nat}(L:LR J loc X)(f:FrS J r J')(h:∀x,X.valid x->loc x≠r):LR J' loc X:=⟨λx hx=>f.at (L.has x hx) (h x hx),L.inj,L.base,L.here,L.b1,L.b2,L.b4⟩
theorem saE{m i:Nat}{l:List D}{x:D}(h:J[m]?=some (.list l))(hx:l[i]?=some x):ic J i (.enum m)=some (some (.tup [.int (i:Nat),x])):=by simp only[ic,h,hx,Option.map_some]
theorem saE0{m i:Nat}{l:List D}(h:J[m]?=some (.list l))(hx:l[i]?=none):ic J i (.enum m)=some none:=by simp only[ic,h,hx,Option.map_none]
end
theorem amt{J:ac}{m:Nat}{d:D}{l:List D}(h:eqD J m d d=some true)(k:eqL J m l l=some true):eqL J (m+1) (d::l) (d::l)=some true:=by
 show(match eqD J m d d with
  | some a=>(eqL J m l l).map (a&& ·)
  | none=>none)=_
 rw[h,k];rfl
theorem an1{J:ac}{m:Nat}{x:Int}:eqD J (m+1) (.int x) (.int x)=some true:=congrArg some (beq_self_eq_true x)
theorem an2{J:ac}{m:Nat}{x:Bool}:eqD J (m+1) (.bool x) (.bool x)=some true:=congrArg some (beq_self_eq_true x)
theorem ad3{J:ac}{m m':Nat}{x:D}{vs:List D}(hne:m≠m')(h1:J[m]?=some (.list vs))(h2:J[m']?=some (.list vs))(hx:∀n,eqD J (n+1) x x=some true)(hv:∀n,eqL J (n+4) vs vs=some true):kh J .Eq (.tup [x,.loc m]) (.tup [x,.loc m'])=some true:=by
 have e1:eqD J 61 (.loc m) (.loc m')=some true:=by
  show(if m=m' then none else match J[m]?,J[m']? with
   | some (.list x),some (.list y)=>if x.length==y.length then eqL J 60 x y else some false
   | Y,Z=>none)=_
  rw[if_neg hne,h1,h2];exact(if_pos (beq_self_eq_true _)).trans (hv 56)
 have e2:eqL J 62 [.loc m] [.loc m']=some true:=by
  show(match eqD J 61 (.loc m) (.loc m') with
   | some a=>(eqL J 61 [] []).map (a&& ·)
   | none=>none)=_
  rw[e1];rfl
 have e3:eqL J 63 [x,.loc m] [x,.loc m']=some true:=by
  show(match eqD J 62 x x with
   | some a=>(eqL J 62 [.loc m] [.loc m']).map (a&& ·)
   | none=>none)=_
  rw[hx 61,e2];rfl
 show(eqL J 63 [x,.loc m] [x,.loc m']).map _=_;rw[e3];rfl
theorem amu{Y:LS}{ops:List Opd}(W:WF Y)(h1:Y.nb<=100)(h2:Y.qP<=64):Ext Y (Y.close (kl ops)):=
 ⟨yE _,λi hi ht=>⟨rfl,bh _ _ λh=>ht (h▸W.tm)⟩,λi hi=>⟨[],(List.append_nil _).symm⟩,yE _,h1,h2⟩
theorem agq{X Y:LS}(hX:X.nb=1)(hh:X.here=0)(l:Le X Y)(ops:List Opd):(∀i,i<Y.nb->Tmd Y.nb ((Y.close (kl ops)).tm i))/\(∀i,i<Y.nb->∃l,Nx ((Y.close (kl ops)).tm i) l/\∀x∈l,x<Y.nb)/\∀i,0<i->i<Y.nb->∃p l,p<i/\Nx ((Y.close (kl ops)).tm p) l/\i∈l:=by
 have th:(Y.close (kl ops)).tm Y.here=kl ops:=dh _ _ _;have tn:∀i,i≠Y.here->(Y.close (kl ops)).tm i=Y.tm i:=λi h=>bh _ _ h;have cl:∀i,i<Y.nb->i≠Y.here->Cl Y i:=λi hi hn=>by
  rcases l.clo i hi with h | ⟨h1,h2⟩ | h
  ·exact(hn h).elim
  ·exact((Nat.lt_or_gt_of_ne h2).elim (λq1=>((ar2 0x1110101345101423) hh q1)) (λq2=>((ar3 0x11110101356145111424) hX h1 q2))).elim
  ·exact h
 refine⟨λi hi=> ?_,λi hi=> ?_,λi h0 hi=> ?_⟩
 ·by_cases h:i=Y.here
  ·subst h;rw[th];exact .r
  ·rw[tn i h];rcases cl i hi h with⟨b,e,hb⟩ | ⟨r,a,b,e,ha,hb,_⟩<;>rw[e]
   ·exact .j hb
   ·exact .b ha hb
 ·by_cases h:i=Y.here
  ·subst h;rw[th];exact⟨[],.r,by simp⟩
  ·rw[tn i h];rcases cl i hi h with⟨b,e,hb⟩ | ⟨r,a,b,e,ha,hb,hab⟩<;>rw[e]
   ·exact⟨_,.j,by simpa using hb⟩
   ·exact⟨_,.b hab,by simp[ha,hb]⟩
 ·obtain⟨p,p1,p2,p3⟩:=l.suc i ((ar2 0x111540501111423) hX h0) hi;have hne:=p3.ne l.wf;have hc:=cl p ((ar3 0x1115614615413) hi p1) hne;rcases p3 with e | ⟨r,a,b,e,h⟩
  ·exact⟨p,[i],p1,by rw[tn p hne,e];exact .j,by simp⟩
  ·refine⟨p,[a,b],p1,by
    rw[tn p hne,e];refine .b ?_;rcases hc with⟨b',e',_⟩ | ⟨r',a',b',e',_,_,hab⟩
    ·rw[e] at e';simp at e'
    ·rw[e] at e';simp at e';exact λz=>hab (Int.ofNat.inj (e'.2.1.symm.trans ((congrArg Int.ofNat z).trans e'.2.2))),by rcases h with h | h<;>simp[h]⟩
theorem w31{w:Nat}(hw:w<=31):3+26*w<4078:=yV (Nat.add_le_add_left (Nat.mul_le_mul_left 26 hw) 3) (by decide)
theorem sdE{sc:aq}{t:Expr}{b:af->ac->KS->Prop}{m k:Nat}{l:List D}{ρ:af}{J:ac}{QS:KS}(ht:gh (.enum m) t=true)(h:J[m]?=some (.list l))(hk:l.length=k)(q:turns (.enum m) (i3 sc t b) (k+1) 0 ρ J QS):kEn (kFo sc t b ρ QS) (.loc m) J:=by
 subst hk;show Wv (match J[m]? with | some (.list _)=>some () | _=>none) _;rw[h];show Ki (turns (.enum m) (i3 sc t b) (ib J (.enum m)+1) 0 ρ J QS) False (gh (.enum m) t);rw[ht,ib,h];exact q
section
variable{J:ac}{n:Nat}{Q:KD}
theorem amv{e:D}{low:LS->List Opd×LS}{sem:Rs (List D)}{dp w:Nat}{tp:Bool}(R:Rt e low sem dp w tp)(hd:dp<=6)(hw:w<=31)(hn:70<=n)(q:∀J',Fr J J'->Q (.bool true) J'):Wk (ak T0 n (.val (.ref 763)) [e] J) Q:=by
 obtain⟨n,rfl⟩:=nge (k:=70) ((ar1 0x114462204462202) hn);have he:ao e=true:=by obtain⟨_,_,_,_,rfl,_⟩:=R.sh;rfl
 refine wC (fnA 96) ["e"] ?_;walk;have e0:(J++ [Cell.list loL])[J.length]?=some (.list loL):=au _;have f0:Fr J (J++ [Cell.list loL]):=Fr.qR ..;have g0:=ae e0;change Wk (ak T0 (n+69) (D.val (Value.ref 637)) [] (J++ [Cell.list loL])) _;generalize J++ [Cell.list loL]=J0 at e0 f0 g0⊢;refine alx λwd dwd wes J1 Iw hwb=> ?_;walk;have g1:=Iw.f.1;have hw1:=Iw.hm;have hw2:=Iw.hd;have Iw2:=Iw.qR [Cell.dictI []];refine aly λtf dtf J2 It=> ?_;walk;have ht1:=It.hm;have ht2:=It.hd;have wl1:=ae Iw2.inst;have wl2:=ae Iw2.at_;have tl1:=ae It.inst;have tl2:=ae It.at_;have Iw3:=Iw2.fr It.f;have It3:=(It.qR [Cell.dictI [(1,.bool true)]]).qR [Cell.dictS knL];have Iw4:=(Iw3.qR [Cell.dictI [(1,.bool true)]]).qR [Cell.dictS knL];have e4:=Iw4.f.at e0;have b4:(J2++ [Cell.dictI [(1,.bool true)]]++ [Cell.dictS knL])[J2.length]?=some (.dictI [(1,.bool true)]):=by simp
 have k4:(J2++ [Cell.dictI [(1,.bool true)]]++ [Cell.dictS knL])[(J2++ [Cell.dictI [(1,.bool true)]]).length]?=some (.dictS knL):=au _;have l4:(J2++ [Cell.dictI [(1,.bool true)]]).length=J2.length+1:=by simp
 have f4:=f0.trans Iw4.f;refine al1 (n:=n+65) (wes:=wes) (lo:=J.length) (li:=J1.length) (tf:=tf) (dtf:=dtf) (wd:=wd) (dwd:=dwd) Iw4.inst Iw4.at_ It3.inst It3.at_ e4 b4 k4 hwb (by exact⟨(ar3 0x1116416505413) g0 hw1,(ar3 0x1116416505413) g0 hw2⟩) (by exact⟨(ar3 zAU) ht1 wl1,⟨(ar3 zAU) ht2 wl1,⟨(ar3 zAU) ht1 wl2,(ar3 zAU) ht2 wl2⟩⟩⟩) (by exact⟨(ar3 0x1116411150645413) tl1 l4,(ar3 0x1116411150645413) tl2 l4⟩) Iw4.ne It3.ne λloc lp J5 L5 f5 hloc hlo=> ?_;have B5:Fb J J5 loc (X00 wes lp J1.length):=⟨f4.trans f5,λr hr=>by
  by_cases h:loc r<(J2++ [Cell.dictI [(1,.bool true)]]++ [Cell.dictS knL]).length
  ·have le0:=Nat.le_of_lt g0;have le1:=yK le0 Iw2.f.1;rcases hloc r hr h with h | h | h | h | h | h
   ·exact Nat.le_of_eq h.symm
   ·exact h▸yK le0 hw1
   ·exact h▸yK le0 hw2
   ·exact h▸yK le1 ht1
   ·exact h▸yK le1 ht2
   ·rw[h,l4];exact yK (yK le1 ht1) (Nat.le_succ_of_le (Nat.le_of_lt tl1))
  ·have:=f4.1;exact(ar3 0x1115604605403) (Nat.le_of_not_lt h) this⟩
 clear Iw Iw2 Iw3 Iw4 It It3 e4 b4 k4 f4 f5 hloc;generalize J1.length=li at L5 B5⊢;walk;have L6:=L5.qR [Cell.list [D.int 3,D.int (-128),D.bool true,D.tup [D.int 7,D.int 100]]];have B6:=B5.fr (Fr.qR J5 [Cell.list [D.int 3,D.int (-128),D.bool true,D.tup [D.int 7,D.int 100]]]);have O6:=L5.qF (Cell.list [D.int 3,D.int (-128),D.bool true,D.tup [D.int 7,D.int 100]]) [];change LR (J5++ [Cell.list [D.int 3,D.int (-128),D.bool true,D.tup [D.int 7,D.int 100]]]) _ _ at L6;generalize J5++ [Cell.list [D.int 3,D.int (-128),D.bool true,D.tup [D.int 7,D.int 100]]]=J6 at L6 B6 O6⊢;generalize J5.length=bg at O6⊢;clear L5 B5;refine sdE rfl O6.1 (k:=4) rfl ?_;refine wT1 (saE O6.1 (i:=0) rfl) ?_;lk;refine z0 (i:=0) L6 rfl rfl (show 1<4090 by decide) (show 0<=100 by decide) rfl (by decide) λJ7 L7 U7=> ?_;lk;refine bf (v:=.tup [k "n",i8]) (hlo▸L7.has .lo trivial) rfl ?_;lk;refine ajq (i:=0) (r:=0) L7 rfl (by decide) (show 0<4088 by decide) (by rfl) λJ8 L8 U8=> ?_;have O8:=U8.out (U7.out O6);have B8:=(B6.up U7).up U8;change LR J8 loc (pr0 (X00 wes lp li)) at L8;change Out J8 loc (pr0 (X00 wes lp li)) _ _ at O8;change Fb J J8 loc (pr0 (X00 wes lp li)) at B8;clear L6 B6 O6 L7 U7 U8;lk;refine wT1 (saE O8.1 (i:=1) rfl) ?_;lk;refine ajp L8 rfl rfl (show 1<4087 by decide) (show 1<=100 by decide) rfl λJ9 L9 U9=> ?_;lk;refine bf (v:=.tup [k "v",i8]) (hlo▸L9.has .lo trivial) rfl ?_;lk;refine aqa (r:=1) L9 rfl (show 0<4085 by decide) (by rfl) λJ10 L10 U10=> ?_;have O10:=U10.out (U9.out O8);have B10:=(B8.up U9).up U10;change LR J10 loc (pr1 (pr0 (X00 wes lp li))) at L10;change Out J10 loc (pr1 (pr0 (X00 wes lp li))) _ _ at O10;change Fb J J10 loc (pr1 (pr0 (X00 wes lp li))) at B10;clear L8 B8 O8 L9 U9 U10;lk;refine wT1 (saE O10.1 (i:=2) rfl) ?_;lk;refine z0 (i:=2) L10 rfl rfl (show 1<4084 by decide) (show 2<=100 by decide) rfl (by decide) λJ11 L11 U11=> ?_;lk;refine bf (v:=.tup [k "t",bo]) (hlo▸L11.has .lo trivial) rfl ?_;lk;refine ajq (i:=2) (r:=2) L11 rfl (by decide) (show 0<4082 by decide) (by rfl) λJ12 L12 U12=> ?_;have O12:=U12.out (U11.out O10);have B12:=(B10.up U11).up U12;change LR J12 loc (pr2 (pr1 (pr0 (X00 wes lp li)))) at L12;change Out J12 loc (pr2 (pr1 (pr0 (X00 wes lp li)))) _ _ at O12;change Fb J J12 loc (pr2 (pr1 (pr0 (X00 wes lp li)))) at B12;clear L10 B10 O10 L11 U11 U12;lk;refine wT1 (saE O12.1 (i:=3) rfl) ?_;lk;refine z0 (i:=3) L12 rfl rfl (show 1<4081 by decide) (show 3<=100 by decide) rfl (by decide) λJ13 L13 U13=> ?_;lk;refine bf (v:=.tup [k "r",je]) (hlo▸L13.has .lo trivial) rfl ?_;lk;refine ajq (i:=3) (r:=3) L13 rfl (by decide) (show 0<4079 by decide) (by rfl) λJ14 L14 U14=> ?_;have O14:=U14.out (U13.out O12);have B14:=(B12.up U13).up U14;change LR J14 loc (fy wes lp li) at L14;change Out J14 loc (fy wes lp li) _ _ at O14;change Fb J J14 loc (fy wes lp li) at B14;clear L12 B12 O12 L13 U13 U14;lk;refine wT0 (saE0 O14.1 (i:=4) rfl) ?_;lk;have hbd:=R.cor.bd (fy wes lp li);have hpv:=aj9 (wes:=wes) (lp:=lp) (li:=li);have hb1:=hbd.qQ;have hb2:=hbd.nb;have hb3:=hbd.st;have hll:=R.len (fy wes lp li);have hpl:4<=(fy wes lp li).qO.length:=yE 4;have hpw:WF (fy wes lp li):=⟨by show 0<1;decide,rfl⟩
 have lY:=R.cor.le (fy wes lp li) hpw hpl;rw[hpv.2.2.2.1] at hb1;rw[hpv.1] at hb2;rw[hpv.2.2.1] at hb3;have T:To ((low (fy wes lp li)).2.close (kl (low (fy wes lp li)).1)).nb ((low (fy wes lp li)).2.close (kl (low (fy wes lp li)).1)).ins ((low (fy wes lp li)).2.close (kl (low (fy wes lp li)).1)).tm 0 0 (((low (fy wes lp li)).2.close (kl (low (fy wes lp li)).1)).ins 0) ⟨[],[],[],none⟩ sem:=
  amo (wes:=wes) (lp:=lp) (li:=li) ((amu lY.wf ((ar2 zB6) hw hb2) ((ar2 0x1114022504110501f22403) hw hb3)).of hpw lY.toLe0) λM I=>aq2 R.cor hpw I (by rw[hpv.2.2.2.1];exact w31 hw) (by rw[hpv.1];exact(ar1 0x126422402311001f22402) hw) (by rw[hpv.2.2.1];exact(ar1 0x114022411001f22402) hw) ((ar1 0x1164224021402) hll)
 have ff:=agq hpv.1 hpv.2.1 lY (low (fy wes lp li)).1;refine R.vals _ _ _ _ _ ((ar2 0x184522509140830061402) hd) L14 aj8 (Nat.lt_of_add_lt_add_right (n:=3+26*w) (by rw[Nat.zero_add];exact yJ (w31 hw) hb1)) λJ15 loc' l L15 U15 O15=> ?_;have O16:=U15.out O14;have B15:=B14.up U15;have hst:=(U15.loc .st trivial).2;rw[<-hst];clear L14 B14 O14 U15;generalize hY:low (fy wes lp li)=Y at*;lk;refine qf (l:=Y.1.map Opd.d) (qg O15.1 (aj (by simp;exact(ar1 0x111388424021402) hll))) ?_;lk;refine s8 L15 rfl λJ17 L17 U17=> ?_;have O17:=U17.out O16;have B17:=B15.up U17;change LR J17 loc' (Y.2.close (kl Y.1)) at L17;clear L15 B15 O15 O16 U17;lk;have W18:Wo (J17++ [Cell.dictS (putK (putK [] (so "cells") (D.loc bg)) (so "panic") D.none)]) J17.length bg none:=⟨au _,ag O17.1,yO (ae O17.1)⟩
 have L18:=L17.qR [Cell.dictS (putK (putK [] (so "cells") (D.loc bg)) (so "panic") D.none)];have B18:=B17.fr (Fr.qR J17 [Cell.dictS (putK (putK [] (so "cells") (D.loc bg)) (so "panic") D.none)]);have hrl:∀x,(Y.2.close (kl Y.1)).valid x->loc' x≠J17.length:=λx hx=>yO (L17.lt hx);have hrs:=B17.f.1;refine R.worth _ _ _ _ _ ((ar2 0x124522504140230061402) hd) W18 λv J19 p' hpv W19 f19 hWW=> ?_;have L19:=L18.qV f19 hrl;have B19:Fb J J19 loc' (Y.2.close (kl Y.1)):=⟨⟨yK B18.f.1 f19.1,λl hl=>(f19.2 l (yJ hl B18.f.1) ((ar3 0x1111010135644615404) hrs hl)).trans (B18.f.2 l hl)⟩,B18.ge⟩
 clear L17 B17 O17 L18 B18 W18 f19 hrl hrs;lk;refine sDS W19.run (v:=pD p') rfl ?_;obtain⟨w0,x0,r0,l0,rfl,htx⟩:=R.sh;rcases hWW with⟨rfl,vs,rfl,htp⟩ | ⟨t,rfl,rfl⟩
 ·have hvq:=R.eq vs rfl;lk
  induction tp with
  | false=>
   refine nh htx ?_;have htp:vs=[v]:=htp;subst htp;lk;have L20:=L19.qR [Cell.list [v]];have f20:=B19.f.trans (Fr.qR J19 [Cell.list [v]]);have a20:(J19++ [Cell.list [v]])[J19.length]?=some (.list [v]):=au _;generalize J19++ [Cell.list [v]]=J20 at L20 f20 a20⊢;have h20:=ae a20;refine LR.mt _ L20 (by rfl) aq4 ?_;lk;refine akc L20 (show Y.2.nb<=63 by exact(ar2 zCS) hw hb2) (show 0<Y.2.nb from yV (Nat.zero_le _) lY.wf.here) ff.1 ff.2.1 ff.2.2 λJ21 m21 f21 C21=> ?_;lk;refine adx C21 (show Y.2.nb<=100 by exact(ar2 zB6) hw hb2) (show 0<Y.2.nb from yV (Nat.zero_le _) lY.wf.here) T λJ22 m22 f22 g22 h22=> ?_;lk;refine cK (t:=true) (ad3 (by have:=f21.1;exact(ar4 zCT) h20 g22 this) h22 ((f21.trans f22).at a20) (λn=>congrArg some (by first | rfl | exact beq_self_eq_true _)) (λn=>hvq.2 _ n)) ?_;lk;exact q _ ((f20.trans f21).trans f22)
  | true=>
   refine adw htx ?_;have htp:v=.tup vs:=htp;subst htp;lk;refine apd (l:=vs) (if_pos (aj (by have:=hvq.1;exact(ar1 0x111388424021402) this))) ?_;lk;have L20:=L19.qR [Cell.list vs];have f20:=B19.f.trans (Fr.qR J19 [Cell.list vs]);have a20:(J19++ [Cell.list vs])[J19.length]?=some (.list vs):=au _;generalize J19++ [Cell.list vs]=J20 at L20 f20 a20⊢;have h20:=ae a20;refine LR.mt _ L20 (by rfl) aq4 ?_;lk;refine akc L20 (show Y.2.nb<=63 by exact(ar2 zCS) hw hb2) (show 0<Y.2.nb from yV (Nat.zero_le _) lY.wf.here) ff.1 ff.2.1 ff.2.2 λJ21 m21 f21 C21=> ?_;lk;refine adx C21 (show Y.2.nb<=100 by exact(ar2 zB6) hw hb2) (show 0<Y.2.nb from yV (Nat.zero_le _) lY.wf.here) T λJ22 m22 f22 g22 h22=> ?_;lk;refine cK (t:=true) (ad3 (by have:=f21.1;exact(ar4 zCT) h20 g22 this) h22 ((f21.trans f22).at a20) (λn=>congrArg some (by first | rfl | exact beq_self_eq_true _)) (λn=>hvq.2 _ n)) ?_;lk;exact q _ ((f20.trans f21).trans f22)
 ·lk;refine sDS W19.run (v:=.str t) rfl ?_;lk;have L20:=L19.qR [Cell.list []];have f20:=B19.f.trans (Fr.qR J19 [Cell.list []]);have a20:(J19++ [Cell.list []])[J19.length]?=some (.list []):=au _;generalize J19++ [Cell.list []]=J20 at L20 f20 a20⊢;have h20:=ae a20;refine LR.mt _ L20 (by rfl) aq4 ?_;lk;refine akc L20 (show Y.2.nb<=63 by exact(ar2 zCS) hw hb2) (show 0<Y.2.nb from yV (Nat.zero_le _) lY.wf.here) ff.1 ff.2.1 ff.2.2 λJ21 m21 f21 C21=> ?_;lk;refine adx C21 (show Y.2.nb<=100 by exact(ar2 zB6) hw hb2) (show 0<Y.2.nb from yV (Nat.zero_le _) lY.wf.here) T λJ22 m22 f22 g22 h22=> ?_;lk;refine cK (t:=true) (ad3 (by have:=f21.1;exact(ar4 zCT) h20 g22 this) h22 ((f21.trans f22).at a20) (λn=>congrArg some (by first | rfl | exact beq_self_eq_true _)) (λn=>rfl)) ?_;lk;exact q _ ((f20.trans f21).trans f22)
end
theorem rtN(e:N)(h:e.ok):Rt e.d (w8 (bq e)) ((fi e).bind λx=> .ok [.int x]) e.dp e.w false:=by
 refine⟨?_,atr e,corN e h,λX=>by simp,λn J r c Q hn W q=>(bi e h).run n J r c none Q hn W λx J' p' Y W' f' hr=>q _ J' p' rfl W' f' ?_,λvs hv=> ?_⟩
 ·obtain⟨w,r,he⟩:=(ax e).sh;exact⟨w,_,_,r,he,by decide+kernel⟩
 ·rcases hr with⟨_,y,e1,rfl,rfl⟩ | ⟨_,t,e1,rfl⟩ | ⟨t,e1,_⟩
  ·exact .inl ⟨rfl,_,by rw[e1];rfl,rfl⟩
  ·exact .inr ⟨t,rfl,by rw[e1];rfl⟩
  ·cases e1
 ·obtain⟨x,_,e2⟩:=Rs.qJ hv;cases e2;exact⟨by simp,λJ m=>amt an1 rfl⟩
theorem rtT(e:T)(h:e.ok):Rt e.d (w8 (rq e)) ((zv e).bind λx=> .ok [.bool x]) e.dp e.w false:=by
 refine⟨?_,atq e,corT e h,λX=>by simp,λn J r c Q hn W q=>(rz e h).run n J r c none Q hn W λx J' p' W' f' hr=>q _ J' p' (aca x) W' f' ?_,λvs hv=> ?_⟩
 ·obtain⟨w,r,he⟩:=(gf e).sh;exact⟨w,_,_,r,he,by decide+kernel⟩
 ·rcases hr with⟨_,y,e1,rfl,rfl⟩ | ⟨_,t,e1,rfl⟩ | ⟨t,e1,_⟩
  ·exact .inl ⟨rfl,_,by rw[e1];rfl,rfl⟩
  ·exact .inr ⟨t,rfl,by rw[e1];rfl⟩
  ·cases e1
 ·obtain⟨x,_,e2⟩:=Rs.qJ hv;cases e2;exact⟨by simp,λJ m=>amt an2 rfl⟩
theorem aak{et:D}{lt:LS->Opd×LS}{stl:Rs (List (Int×Int))}{stf:Rs (Int->Option Int)}{dt w:Nat}(A:Lo et lt gj dt)(T:Wd et stl dt)(C:Cor lt stf RT)(hst:stf=stl.bind λl=> .ok (lkI l))(bt:∀X,Bd X (lt X).2 (2*w) (w+1) (12+26*w))(x:N)(hx:x.ok):
  Rt (ndD "key" (.tup [k "tuple",.tup [i8,bo]]) [et,x.d,.bool true]) (aj6 lt (bq x)) (stf.bind λf=>(fi x).bind λj=> .ok [.int ((f j).getD 0),.bool (f j).isSome]) (1+max dt x.dp) (1+w+x.w) true:=by
 refine⟨⟨_,_,_,_,rfl,by decide+kernel⟩,v_pair A (ax x),aj7 C (ay x hx) bt (bb x),λX=>by simp[aj6],λn J r c Q hn W q=>ap3 T (bi x hx) hn W (λl j J' p' W' f' hr=>q _ J' p' (by split<;>rfl) W' f' ?_) _,λvs hv=> ?_⟩
 ·subst hst;rcases hr with⟨_,⟨l',j'⟩,e1,e2,rfl⟩ | ⟨_,t,e1,rfl⟩ | ⟨t,e1,_⟩
  ·cases e2;obtain⟨l2,e3,e4⟩:=Rs.qJ e1;obtain⟨j2,e5,e6⟩:=Rs.qJ e4;cases e6;refine .inl ⟨rfl,_,by rw[e3,e5];rfl,rfl⟩
  ·refine .inr ⟨t,rfl,?_⟩;cases h1:stl with
   | er s=>rw[h1] at e1;simp only[Rs.bind] at e1⊢;cases e1;rfl
   | ok l2=>
    cases h2:fi x with
    | er s=>rw[h1,h2] at e1;simp only[Rs.bind] at e1⊢;cases e1;rfl
    | ok j2=>rw[h1,h2] at e1;exact Rs.noConfusion rfl (heq_of_eq e1)
  ·cases e1
 ·obtain⟨f,_,e2⟩:=Rs.qJ hv;obtain⟨j,_,e4⟩:=Rs.qJ e2;cases e4;exact⟨by simp,λJ m=>amt an1 (amt an2 rfl)⟩
noncomputable def RtE(e:D):Prop:=∃low sem dp w tp,Rt e low sem dp w tp/\dp<=6/\w<=31
theorem auh(e:N)(h:e.ok)(hd:e.dp<=6):RtE e.d:=⟨_,_,_,_,_,rtN e h,hd,e.qH 3 hd⟩
theorem amw(e:T)(h:e.ok)(hd:e.dp<=6):RtE e.d:=⟨_,_,_,_,_,rtT e h,hd,e.qH 3 hd⟩
theorem rteP{rows:List (N×N)}{x:N}(hl:rows.length<=2)(hr:∀r∈rows,(r.1.dp<=2*1/\r.1.ok)/\r.2.dp<=2*1/\r.2.ok)(hd:x.dp<=2*1)(hx:x.ok):RtE (lkD rows x true):=by
 have wx:=x.qH 1 hd;have w1:wB 1=1:=rfl;rcases rows with _ | ⟨⟨a,b⟩,_ | ⟨⟨c,d⟩,_ | ⟨_,_⟩⟩⟩
 ·exact⟨_,_,_,_,_,aak vm ajf ack rfl (w:=0) (λX=>(ae6 X).mono (by exact⟨(by decide),⟨(by decide),(by decide)⟩⟩)) x hx,by exact(mC (λq1=>((ar1 0x11614110011422) q1)) (λq2=>((ar2 zCU) hd q2))),by exact(ar2 0x1111f224011100011525403) wx w1⟩
 ·have h:=hr (a,b) (by simp);dsimp only at h;have wa:=a.qH 1 h.1.1;have wb:=b.qH 1 h.2.1;refine⟨_,_,_,_,_,aak (vn (ax a) (ax b)) (ajg (bi a h.1.2) (bi b h.2.2)) (acl (ay a h.1.2) (ay b h.2.2)) ?_ (w:=a.w+b.w) (λX=>((bb a X).trans ((bb b _).trans (ae7 _ _ _))).mono (by exact⟨(ar2 0x154002301502304023001),⟨(ar2 0x111540011504001),(ar2 0x15401a3c103151a3210041a3210001)⟩⟩)) x hx,by have z1:=h.1.1;have z2:=h.2.1;exact(mC (λq1=>(mC (λq2=>((ar3 0x1111615110046261105211023404) z1 q1 q2)) (λq3=>((ar3 0x1111615110046261105211023404) z2 q1 q3)))) (λq4=>((ar2 zCU) hd q4))),by exact(ar4 0x111311f2247601100057056011525405) wx w1 wa wb⟩;refine Eq.symm (Rs.b1 λp=>Rs.b1 λq=> ?_);exact congrArg Rs.ok (funext λj=>acb (p:=p) (q:=q) (j:=j) (l:=[]))
 ·have h:=hr (a,b) (by simp);have g:=hr (c,d) (by simp);dsimp only at h g;have wa:=a.qH 1 h.1.1;have wb:=b.qH 1 h.2.1;have wc:=c.qH 1 g.1.1;have wd:=d.qH 1 g.2.1;refine⟨_,_,_,_,_,aak (vp (ax a) (ax b) (ax c) (ax d)) (ajh (bi a h.1.2) (bi b h.2.2) (bi c g.1.2) (bi d g.2.2)) (acm (ay a h.1.2) (ay b h.2.2) (ay c g.1.2) (ay d g.2.2)) ?_ (w:=a.w+b.w+c.w+d.w) (λX=>((bb a X).trans ((bb b _).trans ((bb c _).trans ((bb d _).trans (ae8 _ _ _ _ _))))).mono (by exact⟨(ar4 0x17654000023017023060230502304023001),⟨(ar4 0x11176540000117060504001),(ar4 0x176540001a3c104171a3210061a3210051a3210041a3210001)⟩⟩)) x hx,by have z3:=h.1.1;have z4:=h.2.1;have z5:=g.1.1;have z6:=g.2.1;exact(mC (λq1=>(mC (λq2=>(mC (λq3=>((ar4 zB7) z3 q1 q2 q3)) (λq4=>((ar4 zB7) z4 q1 q2 q4)))) (λq5=>(mC (λq6=>((ar4 zB7) z5 q1 q5 q6)) (λq7=>((ar4 zB7) z6 q1 q5 q7)))))) (λq8=>((ar2 zCU) hd q8))),by exact(ar6 0x11111511f22498760001100059058057056011525407) wx w1 wa wb wc wd⟩;refine Eq.symm (Rs.b1 λp=>Rs.b1 λq=>Rs.b1 λr=>Rs.b1 λs=> ?_);exact congrArg Rs.ok (funext λj=>ato (p:=p) (q:=q) (r:=r) (s:=s) (j:=j))
 ·simp at hl
theorem iu{J:ac}{n:Nat}{Q:KD}{e:D}(h:RtE e)(hn:70<=n)(q:∀J',Fr J J'->Q (.bool true) J'):Wk (ak T0 n (.val (.ref 763)) [e] J) Q:=by
 obtain⟨low,sem,dp,w,tp,R,h1,h2⟩:=h;exact amv R h1 h2 hn q
section
variable{J:ac}{n:Nat}{Q:KD}
theorem ifI{c:Cx}{sc:aq}{a b:Expr}{ρ:af}{Q':KD}{t:Bool}(h1:t=true->∀Q:KD,(∀i:Int,Q (.int i) J)->vE c sc a ρ J Q)(h2:∀Q:KD,(∀i:Int,Q (.int i) J)->vE c sc b ρ J Q)(k:∀i:Int,Q' (.int i) J):Ki (vE c sc a ρ J Q') (vE c sc b ρ J Q') t:=by
 cases t
 ·exact h2 _ k
 ·exact h1 rfl _ k
theorem aq5{m kk:Nat}{vs:Array Value}{l:List Int}(h:J[m]?=some (.fix vs kk (l.map .int)))(hl:l.length<=100)(q:∀J' s,Gs J' s->Fr J J'->Q (.loc s) J'):Wk (ak T0 (n+1) (.val (.ref 661)) [.loc m] J) Q:=by
 refine wC (fnA 80) ["script"] ?_;lk;refine qd (m:=l.length) (by rw[alk h (by rw[List.length_map];exact(aj ((ar1 zAJ) hl))),List.length_map]) ?_;lk;refine ifI ?_ ?_ ?_
 ·intro hl Q q
  induction l with
  | nil=>simp at hl
  | cons i l=>
   lk;refine sFix h (v:=.int i) (by rfl) ?_;lk;exact q i
 ·intro Q q;lk;exact q 0
 ·intro i;lk;refine adm (i:=i) rfl ?_;lk;refine adm (i:= -1 - i) rfl ?_;lk;refine bMax ?_;lk;generalize (if -1 - i>i then -1 - i else i)=a;refine nPow ?_;lk;refine adm (i:=if decide (a≥10^18) then 1 else 0) rfl ?_;lk;refine vh (by rw[Bool.or_eq_true];right;split<;>simp[small]) ?_;lk;refine vj ⟨by decide,by simp[small]⟩ ?_;lk;refine vh (by rw[Bool.or_eq_true];right;simp[small]) ?_;lk;refine adm rfl ?_;lk;refine vj ⟨by decide,by simp[small]⟩ ?_;lk;have hm:=ir (a:=(a.fmod 2147483629+17)*48271) (t:=2147483647) (by decide);exact q _ _ ⟨_,_,au _,hm.1,Int.lt_trans hm.2 (by decide)⟩ (Fr.qR ..)
theorem Gs.fr{J J':ac}{s:Nat}(g:Gs J s)(f:Fr J J'):Gs J' s:=by obtain⟨a,b,h,r⟩:=g;exact⟨a,b,f.at h,r⟩
theorem aui{m kk:Nat}{vs:Array Value}{l:List Int}(h:J[m]?=some (.fix vs kk (l.map .int)))(hl:l.length<=100)(hn:80<=n)(q:∀J',J'[m]?=some (.fix vs kk (l.map .int))->Q (.bool true) J'):Wk (ak T0 n (.val (.ref 768)) [.loc m] J) Q:=by
 obtain⟨n,rfl⟩:=nge (k:=80) ((ar1 0x114502204502202) hn);refine wC (fnA 97) ["script"] ?_;lk;refine aq5 h hl λJ1 s g1 f1=> ?_;lk;have m1:=f1.at h;have hms:m≠s:=by rintro rfl;obtain⟨_,_,z,_⟩:=g1;rw[m1] at z;exact Cell.noConfusion (yD z)
 lk;have m2:=ag (t:=[Cell.list []]) (ag (t:=[Cell.list [.bool false,.bool true]]) m1);have hmt:(J1++ [Cell.list [D.bool false,.bool true]]).length≠m:=by have:=ae m1;simp;exact(ar2 zAM) this
 have g2:=(g1.qR [Cell.list [.bool false,.bool true]]).qR [Cell.list []];have b2:(J1++ [Cell.list [.bool false,.bool true]]++ [Cell.list []])[J1.length]?=some (.list [.bool false,.bool true]):=ag (au _);have a2:(J1++ [Cell.list [.bool false,.bool true]]++ [Cell.list []])[(J1++ [Cell.list [.bool false,.bool true]]).length]?=some (.list []):=au _;have hne:(J1++ [Cell.list [D.bool false,.bool true]]).length≠J1.length:=by simp
 have hs:s<J1.length:=g1.lt;have hs2:(J1++ [Cell.list [D.bool false,.bool true]]).length≠s:=by simp;exact(ar2 zAM) hs
 refine sdC (l:=[.bool false,.bool true]) (au _) ?_;change turns _ _ (2+1) _ _ _ _;generalize (J1++ [Cell.list [D.bool false,.bool true]]).length=tr at a2 hne hs2 hmt⊢;generalize J1++ [Cell.list [.bool false,.bool true]]++ [Cell.list []]=J2 at g2 b2 a2 m2⊢;refine wT1 (saL b2 rfl) ?_;lk;refine ck a2 (lb rfl) ?_;have g3:Gs (J2.set tr (.list ([]++ [(T.k false).d]))) s:=by obtain⟨a,b,h,r⟩:=g2;exact⟨a,b,gm hs2 h,r⟩
 have b3:=gm (c':=.list ([]++ [(T.k false).d])) hne b2;have m3:=gm (c':=.list ([]++ [(T.k false).d])) hmt m2;have a3:=bj (c':=.list ([]++ [(T.k false).d])) a2;change Kt _ _ _ _ (J2.set tr (.list ([]++ [(T.k false).d])));generalize J2.set tr (.list ([]++ [(T.k false).d]))=J3 at g3 b3 a3 m3⊢;refine wT1 (saL b3 rfl) ?_;lk;refine ck a3 (lb rfl) ?_;have g4:Gs (J3.set tr (.list ([]++ [(T.k false).d]++ [(T.k true).d]))) s:=by obtain⟨a,b,h,r⟩:=g3;exact⟨a,b,gm hs2 h,r⟩
 have m4:=gm (c':=.list ([]++ [(T.k false).d]++ [(T.k true).d])) hmt m3;have b4:=gm (c':=.list ([]++ [(T.k false).d]++ [(T.k true).d])) hne b3;have a4:(J3.set tr (.list ([]++ [(T.k false).d]++ [(T.k true).d])))[tr]?=some (.list [(T.k false).d,(T.k true).d]):=bj a3;change Kt _ _ _ _ (J3.set tr (.list ([]++ [(T.k false).d]++ [(T.k true).d])));generalize J3.set tr (.list ([]++ [(T.k false).d]++ [(T.k true).d]))=J4 at g4 b4 a4 m4⊢;refine wT0 (saL b4 rfl) ?_;lk;refine bf a4 (v:=(T.k false).d) rfl ?_;lk;refine bf a4 (v:=(T.k true).d) rfl ?_;lk;refine iu (e:=(T.lz false (.k false) (.k true)).d) (amw _ ⟨trivial,trivial⟩ (by decide)) ((ar1 zAY)) λJ5 f5=> ?_;lk;refine bf (f5.at a4) (v:=(T.k true).d) rfl ?_;lk;refine bf (f5.at a4) (v:=(T.k false).d) rfl ?_;lk;refine iu (e:=(T.lz false (.k true) (.k false)).d) (amw _ ⟨trivial,trivial⟩ (by decide)) ((ar1 zAY)) λJ6 f6=> ?_;have g6:=(g4.fr f5).fr f6;lk;change turns (.items [.int 0,.int 1]) _ 3 _ _ _ _;lk;refine(yc 3).1 _ _ s _ ((ar1 zB8)) g6 λt1 J7 d1 k1 g7 f7=> ?_;lk;refine iu (auh t1 k1 d1) ((ar1 zAY)) λJ8 f8=> ?_;lk;refine(yc 3).2 _ _ s _ ((ar1 zB8)) (g7.fr f8) λt2 J9 d2 k2 g9 f9=> ?_;lk;refine iu (amw t2 k2 d2) ((ar1 zAY)) λJ10 f10=> ?_;lk;refine(yc 3).1 _ _ s _ ((ar1 zB8)) (g9.fr f10) λt3 J11 d3 k3 g11 f11=> ?_;lk;refine iu (auh t3 k3 d3) ((ar1 zAY)) λJ12 f12=> ?_;lk;refine(yc 3).2 _ _ s _ ((ar1 zB8)) (g11.fr f12) λt4 J13 d4 k4 g13 f13=> ?_;lk;refine iu (amw t4 k4 d4) ((ar1 zAY)) λJ14 f14=> ?_;lk;refine ai6 (yc 1).1 ((ar1 0x14f22408111043001)) (g13.fr f14) λrows x J15 hrl hrr hx1 hx2 g15 f15=> ?_;lk;refine iu (rteP hrl hrr hx1 hx2) ((ar1 zAY)) λJ16 f16=> ?_;lk;exact q _ (f16.at (f15.at (f14.at (f13.at (f12.at (f11.at (f10.at (f9.at (f8.at (f7.at (f6.at (f5.at m4)) hms)) hms)) hms)) hms)) hms))
end
end
section
open PySem PySem.W PyProof.Rows
theorem wh{a:Addr}{o:Obj}:∀{l:Frag},l.lookup a=some o->(a,o)∈l
 | [],e=>by cases e
 | (b,p)::l,e=>by
  rw[List.lookup_cons] at e;cases q:a==b with
  | true=>rw[q] at e;cases e;rw[beq_iff_eq.mp q];exact yP
  | false=>rw[q] at e;exact List.mem_cons_of_mem _ (wh e)
theorem yf{a:Addr}:∀{l:Frag},a∈l.map (·.1)->∃o,l.lookup a=some o
 | [],e=>by cases e
 | (b,p)::l,e=>by
  rw[List.lookup_cons];cases q:a==b with
  | true=>exact⟨_,rfl⟩
  | false=>
   rcases yM e with e | e
   ·exact absurd e (beq_eq_false_iff_ne.mp q)
   ·exact yf e
theorem agr{P:Params}{h:Heap}(hK:(KF P).In h){a:Addr}{o:Obj}(e:h.get? a=some o)(hc:o.cls=.type "list"):¬a<769:=by
 intro ha;have hall:(KF P).all (λe=>e.2.cls !=.type "list")=true:=by k_go
 have hm:a∈KA:=List.mem_range.mpr ha;rw[as0 P] at hm;obtain⟨p,hp⟩:=yf hm;have q:=hK a p hp;rw[e] at q;cases q;have:=List.all_eq_true.mp hall _ (wh hp);rw[hc] at this;exact absurd this (by decide)
noncomputable def cut(h:Heap):Heap:={h with objs:=h.objs.extract 0 769}
theorem aq6(o:Array Obj)(a:Nat)(h:a<769):(o.extract 0 769)[a]?=o[a]?:=by
 rw[Array.getElem?_extract];split
 ·simp
 ·rename_i q;rw[Array.getElem?_eq_none (by exact(mI (λq2=>(yX ((ar3 0x1111101013015060301326445030132415) h (Nat.le_of_not_lt q) q2 aT))) (λq3=>((ar4 0x11115700140607645404) (Nat.le_of_not_lt q) q3 aT))))]
theorem amx(o:Array Obj)(a:Nat)(h:¬a<769):(o.extract 0 769)[a]?=none:=by
 rw[Array.getElem?_extract,if_neg (by exact(ar3 0x1111101013541301326065043013205) (Nat.le_of_not_lt h) aS aN)]
theorem aal{h:Heap}{a:Addr}(ha:a<769):(cut h).get? a=h.get? a:=by unfold cut Heap.get?;rw[aq6 _ _ ha]
theorem acq{h:Heap}{a:Addr}(ha:¬a<769):(cut h).get? a=none:=by unfold cut Heap.get?;rw[amx _ _ ha]
theorem amy{h:Heap}{a:Addr}{o:Obj}(e:(cut h).get? a=some o):h.get? a=some o:=by
 by_cases ha:a<769
 ·rwa [aal ha] at e
 ·rw[acq ha] at e;cases e
theorem ad4{h:Heap}{a:Addr}{m:Str->Option Value}(n:h.Ns a m)(ha:a<769):(cut h).Ns a m:=
 let⟨o,es,ep,e,r⟩:=n;⟨o,es,ep,(aal ha).trans e,r⟩
theorem aq7{P:Params}{h:Heap}(hK:(KF P).In h):(KF P).In (cut h):=λa o e=>by
 refine(aal ?_).trans (hK a o e);have:(KF P).all (λe=>decide (e.1<769))=true:=by k_go
 exact of_decide_eq_true (List.all_eq_true.mp this _ (wh e))
theorem afe{P:Params}{h h':Heap}{mu:List Addr}:∀{xs:List WData} {vs:List Value},WShape.hasItems [] xs .int=true->WellAll P h vs xs->∃l:List Int,l.length=xs.length/\av h' mu vs (l.map .int)
 | [],vs,Y,w=>by cases w;exact⟨[],rfl,.nil⟩
 | x::xs,vs,hx,w=>by
  cases w with
  | cons w1 w2=>
   simp only[WShape.hasItems,Bool.and_eq_true] at hx;obtain⟨l,e,r⟩:=afe hx.2 w2;obtain⟨i,rfl⟩:=hasW_int hx.1;cases w1;exact⟨i::l,by simp[e],.cons (.int _ _) r⟩
theorem amz{xs:List WData}(h:zk.pre.holds zk.records {args:=[.list xs]}=true):xs.length<=100:=by
 have h:WTm.holds zk.records (.and (.not (.lit (.bool (decide ((63:Int)<xs.length))))) (.lit (.bool true))) {args:=[.list xs]}=true:=h;by_cases q:(63:Int)<(xs.length:Int)
 ·rw[decide_eq_true q] at h;exact(Bool.false_ne_true h).elim
 ·exact Int.ofNat_le.mp (yW (Int.not_lt.mp q) (by decide))
theorem am0{xs:List WData}:zk.claim.post [.list xs] (.bool true) [.list xs]=true:=by k_go
inductive an3(P:Params)(h:Heap)(vs:List Value)(xs:List WData):Prop
 | mk (b:Addr) (us:List Value) (z:vs=[.ref b]) (hget:h.get? b=some {cls:=.type "list",data:=.seq us.toArray}) (hw:WellAll P h us xs):an3 P h vs xs
theorem aq8{P:Params}{h:Heap}{vs:List Value}{xs:List WData}(W:WellAll P h vs [.list xs]):an3 P h vs xs:=by
 cases W with
 | cons w1 w2=>
  cases w2;cases w1 with
  | list hget hw=>exact⟨_,_,rfl,hget,hw⟩
theorem auj{w:World}{mg mb:Str->Option Value}{h:Heap}{b:Addr}{us:List Value}{l:List Int}(hK:(KF w.params).In h)(hb:¬b<769)(hget:h.get? b=some {cls:=.type "list",data:=.seq us.toArray})
  (r:av h [b] us (l.map .int)):St (gl w (cut h) mg mb) h [b] [.fix us.toArray 0 (l.map .int)]:=by
 refine⟨λb o e Y=>amy e,?_,rfl,by simp,λa m=> ?_,λi c a e1 e2=> ?_⟩
 ·exact⟨#[],hK 365 _ (show(KF w.params).lookup 365=some (alc w.params) by k_go),trivial,.inl rfl⟩
 ·cases yG m;exact⟨acq hb,λz=>hb (by rw[z];exact(by decide:(365:Nat)<769))⟩
 ·induction i with
  | zero=>cases e1;cases e2;exact⟨hget,r⟩
  | succ i=>cases e1
theorem auk:WalkO qv adi (XL qv []) (kHook KF KA as0).says zk dL [] λf vs=>PySem.call f vs:=by
 intro w s₀ s₁ mg mb G Y a o pm cd doc dV kV h2 h3 h4 h5 hg0 hge args vs as hpre hlay hrd hwl hlo;have hK:(KF w.params).In s₁.heap:=kIn_of Y;have ha:a=768:=by
  have e:=zl hK G.T.g dL.name;rw[hg0,show nsK (KF w.params) dL.name=some (.ref 768) by k_go] at e;cases e;rfl
 subst ha;have Gr:Internal.Ground (gl w (cut s₁.heap) mg mb):=asl (aq7 hK) (ad4 G.T.g (by decide)) (ad4 G.T.b (by decide)) (let⟨mc,n,z⟩:=G.T.nolimit;⟨mc,ad4 n (by decide),z⟩) G.T.builtins;have H:=hard _ Gr.fit;obtain⟨hp1,hp2⟩:=pre_splitW hpre;obtain⟨d,r,rfl,q1,q2⟩:=hasAllW_cons hp1;cases hasAllW_nil q2;obtain⟨xs,rfl,q3⟩:=hasW_list q1;have hlen:=amz hp2;obtain⟨b,us,rfl,hget,hw⟩:=aq8 hwl;have hb:¬b<769:=agr hK hget rfl;obtain⟨l,hl,r⟩:=afe (h':=s₁.heap) (mu:=[b]) q3 hw;have S:=auj (w:=w) (mg:=mg) (mb:=mb) hK hb hget r
 let p:Ptx (gl w (cut s₁.heap) mg mb):=⟨s₁,[b],[.fix us.toArray 0 (l.map .int)],S⟩
 have ev:=(aui (J:=p.J) (m:=0) (n:=80) (Q:=λd J'=>d=.bool true/\J'[0]?=some (.fix us.toArray 0 (l.map .int))) rfl (yK (Nat.le_of_eq hl) hlen) (yE _) λJ' m=>⟨rfl,m⟩).p;have rl:p.L [.ref b] [.loc 0]:=av.cons (.loc rfl) .nil;have C:=(abq Gr H 80 false callerA p (.ref 768) (.val (.ref 768)) [.ref b] [.loc 0] _ ⟨rfl,by decide,by decide⟩ rfl (ci.of rl) (λZ=>rl) ev).call;refine wpAny_mono (C (λv s'=>v=.bool true/\s'.os=s₁.os/\s'.gens=s₁.gens/\OldK s₁.heap s'.heap) λv q d t r k=> ?_) ?_ λZ U z=>z.elim
 ·obtain⟨rfl,hm⟩:=k;refine⟨Rep.qD r,by rw[t.same],by rw[t.same],λc o e=> ?_,t.post.there⟩;by_cases hc:c=365
  ·subst hc;have:=hK 365 _ (show(KF w.params).lookup 365=some (alc w.params) by k_go);rw[e] at this;cases this;obtain⟨ps,hps,_⟩:=q.st.lam;refine .inr (.inl ⟨⟨369,_,_,hK 369 _ (show(KF w.params).lookup 369=some (aop w.params) by k_go),rfl,rfl,rfl⟩,rfl,#[],ps,rfl,?_⟩);rw[Array.empty_append];exact hps
  ·by_cases hd:c=b
   ·subst hd;have:=q.st.cell 0 _ c hm (t.post.at rfl);rw[hget] at e;cases e;exact .inl this.1
   ·exact .inl (t.post.keep c o e (.inl ⟨List.not_mem_nil,hc,λm=>hd (yG m)⟩))
 ·rintro v s' ⟨rfl,ho,hg,k⟩;exact⟨.inl ⟨_,.bool true,[],rfl,λZ=>rfl,.bool true,am0,λZ=>⟨List.nodup_nil,λZ m=>by cases m⟩⟩,k,ho,.of_eq (hg.trans hge)⟩
theorem done:PySem.Challenge.rw_xw0042_01.Holds:=asf okL auk
end
end Mine.Internal
theorem PySem.Challenge.cw_xw0042_01_holds : PySem.Challenge.rw_xw0042_01.Holds :=
  Mine.Internal.done
