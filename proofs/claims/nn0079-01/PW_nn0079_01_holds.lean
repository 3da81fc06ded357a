import PyProof.Rows.All
import Wide.All
import OpenK.AllK
import Wide.FinOn
import PyProof.NoPylong
import PyProof.EnumFor
import PyProof.EnumStmt
import PyProof.EnumMake
import PyProof.EqAt
import PyProof.NeKinds
import PyProof.ExcBaseAll.Exception
import PyProof.ExcClass3
import PyProof.ExcInit
import PyProof.InstStoreFacts
import PyProof.WalksPairs
import Wide.BytesRules
import KE.BytesMake
import KE.KBits
import KE.KNest
import KE.KLam
import KE.KNestM
import Lean
import PySem.Challenge.RW_nn0079_01
set_option Elab.async false
set_option linter.unusedVariables false
set_option maxRecDepth 1000000
section
open PySem PySem.W PyProof.Rows
namespace Mine
section
local macro_rules | `(tactic| o_head $H)=>`(tactic| assumption)
theorem mkK (h:PySem.Challenge.rw_nn0079_01.row.Holds):PySem.Challenge.rw_nn0079_01.row.Holds:=by k_head
noncomputable def un (k:Nat)(K:Frag):Option (Addr×Obj):=match K,k with
 | [],_=>none
 | q::_,0=>some q
 | _::r,k+1=>un k r
theorem wB {q:Addr×Obj}{K:Frag}:∀ {k:Nat},un k K=some q→q∈K:=by
 induction K with
 | nil=>intro k h; cases k<;>cases h
 | cons x r ih=>
  intro k h
  cases k with
  | zero=>cases h; exact .head _
  | succ k=>exact .tail _ (ih (k:=k) h)
noncomputable def objK (k:Nat)(K:Frag):Obj:=match un k K with
 | some q=>q.2
 | none=>default
noncomputable def Bi (K:Frag)(l:List (Nat×Addr)):Frag:=l.map fun x=>(x.2,objK x.1 K)
theorem uh {K:Frag}{l:List (Nat×Addr)}(h:(l.all fun x=>((un x.1 K).elim false fun q=>Nat.beq q.1 x.2))=true){x:Addr×Obj}(hx:x∈Bi K l):x∈K:=by
 obtain ⟨y,hy,rfl⟩:=List.mem_map.mp hx
 have:=List.all_eq_true.mp h y hy
 unfold objK
 cases q:un y.1 K with
 | none=>rw [q] at this; exact Bool.noConfusion this
 | some z=>
  rw [q] at this
  have e:z.1=y.2:=Nat.eq_of_beq_eq_true this
  rw [←e]; exact wB q
noncomputable def GB:List (Nat×Addr):=[(1,3),(244,394),(322,511),(168,279),(413,658),(491,786),(433,692),(523,839),(458,733),(392,623),(367,581),(30,71),(21,46),(26,59),(108,188),(20,45),(25,58),(29,70),(107,187),(167,278),(243,393),(321,510),(366,580),(391,622),(412,657),(432,691),(457,732),(490,785),(522,838),(666,1042),(665,1041),(671,1049),(670,1048),(676,1056),(675,1055),(681,1063),(680,1062),(686,1070),(685,1069),(689,1075),(688,1074),(694,1082),(693,1081),(699,1089),(698,1088),(704,1096),(703,1095),(707,1101),(706,1100),(712,1108),(711,1107),(717,1115),(716,1114),(722,1122),(721,1121),(725,1127),(724,1126),(13,36),(12,35),(35,80),(34,79),(40,87),(39,86),(45,94),(44,93),(65,129),(64,128),(75,143),(74,142),(80,150),(79,149),(90,164),(89,163),(140,241),(139,240),(175,290),(174,289),(180,297),(179,296),(185,304),(184,303),(190,318),(189,317),(195,325),(194,324),(200,332),(199,331),(205,339),(204,338),(210,346),(209,345),(218,358),(217,357),(236,384),(235,383),(251,405),(250,404),(256,419),(255,418),(261,426),(260,425),(266,433),(265,432),(271,440),(270,439),(279,452),(278,451),(284,459),(283,458),(289,466),(288,465),(294,473),(293,472),(299,480),(298,479),(304,487),(303,486),(309,494),(308,493),(319,508),(318,507),(329,522),(328,521),(334,529),(333,528),(339,536),(338,535),(344,543),(343,542),(349,550),(348,549),(354,557),(353,556),(359,571),(358,570),(374,599),(373,598),(400,641),(399,640),(420,675),(419,674),(440,709),(439,708),(465,750),(464,749),(497,803),(496,802),(540,864),(539,863),(545,871),(544,870),(550,878),(549,877),(555,885),(554,884),(560,892),(559,891),(565,899),(564,898),(570,906),(569,905),(575,913),(574,912),(661,1035),(660,1034)]
noncomputable def hot (p:Params):Frag:=Bi (mkK.heap_1 p) GB
noncomputable def an (p:Params):Frag:=hot p++mkK.heap_1 p
theorem DJ (p:Params):(GB.all fun x=>((un x.1 (mkK.heap_1 p)).elim false fun q=>Nat.beq q.1 x.2))=true:=by kernel_rfl
theorem w8 (p:Params):∀ x∈an p,x∈mkK.heap_1 p:=fun x hx=>(List.mem_append.mp hx).elim (uh (DJ p)) id
end
section
noncomputable abbrev LW:OpenLaw:=PySem.Challenge.rw_nn0079_01
noncomputable abbrev prg:Program:=LW.row.prog
noncomputable abbrev AG:Env:={ scope:=prg.main.scope,locals:=mainNs,globals:=mainNs,cells:=[],code:=.ref 13,frame:=some 14 }
noncomputable abbrev bd:List Stmt:=behindTheImports prg
noncomputable abbrev cd0:Code:=.body bd AG
noncomputable abbrev ps0:Pos:=⟨0,0,0,0⟩
noncomputable abbrev fr0:List Frame:=[topFrame ps0]
noncomputable abbrev ym:Option Value:=some (.ref 6)
noncomputable abbrev T0:Thread:=⟨denote treeTable cd0,cd0,ps0,fr0⟩
noncomputable def s0 (w:World)(os:OsState):Shared:=⟨boot_heap w.params,#[],boot_drawn,boot_toks,os⟩
noncomputable def rA (w:World)(os:OsState):=topGo treeTable prg w 11 ym 12 (s0 w os) (topStub prg)
noncomputable def sA (w:World)(os:OsState):Shared:=match rA w os with | some (s,_)=>s | none=>s0 w os
theorem eqA (w:World)(os:OsState):rA w os=some (sA w os,T0):=by
 unfold sA T0
 unfold rA
 rw [PySem.W.Fast.te15667345088766844465,PySem.W.Fast.te14364793385576792824,PySem.W.Fast.te11892475500146522536]
 kernel_rfl
noncomputable def bt (l:List Obj):Nat→Nat→Nat→BT
 | 0,_,_=>.nil
 | k+1,a,b=>match l[b]? with
  | some o=>.node o (bt l k (2*a) (a+b)) (bt l k (2*a) (2*a+b))
  | none=>.nil
noncomputable def sB (w:World)(os:OsState):SharedT:=⟨bt (sA w os).heap.objs.toList 5 1 0,(sA w os).heap.objs.size,(sA w os).heap.life,(sA w os).gens,(sA w os).drawn,(sA w os).toks,os⟩
theorem eqB (w:World)(os:OsState):segRun treeTable prg w 11 ym 1 1 (sA w os) (blockOf bd AG cd0 ps0 fr0)=some (.next,(sB w os).abs,cd0,ps0):=by
 unfold sB sA
 unfold rA
 rw [PySem.W.Fast.te15667345088766844465,PySem.W.Fast.te14364793385576792824,PySem.W.Fast.te14374325043358763698]
 kernel_rfl
noncomputable def tC (tb:String→Option Builtin)(w:World)(S:SharedT):=segRunT tb prg w 11 ym 1 9000 S (piecesOf bd AG cd0 ps0 fr0)
noncomputable def vw:Program:=view prg [116]
noncomputable def lse:List Str:=prg.boundNames
noncomputable def Xt0 (s:Shared):Bool:=xlAt vw [] s&&recOk (RowW.records LW.row.toRowW) s
noncomputable def D6 (cd:Code)(af:Pos→SharedT→Prop):Option (Flow×SharedT×Code×Pos)→Prop
 | some (.next,s,c,q)=>c=cd∧af q s
 | _=>False
noncomputable def Br (P:Params)(s:Shared):Bool:=staticsOk (importedModules prg.main.body) (boot_heap P) s.heap&&namesBound prg s.heap&&gensDone s&&laidKept (boot_heap P) s.heap
noncomputable def pL (s:SharedT):Frag→Prop
 | []=>True
 | p::r=>(Nat.blt p.1 s.n=true∧s.tree.get p.1=some p.2∧alive p.2=some p.2)∧pL s r
noncomputable def sY:Frag→Prop
 | []=>True
 | p::r=>(true=true∧some p.2=some p.2∧some p.2=some p.2)∧sY r
theorem kL:∀ K:Frag,sY K
 | []=>trivial
 | _::r=>⟨⟨rfl,rfl,rfl⟩,kL r⟩
theorem pK {s:SharedT}{K:Frag}(h:pL s K){p:Addr×Obj}(hp:p∈K):s.abs.heap.get? p.1=some p.2:=by
 induction K with
 | nil=>cases hp
 | cons q r ih=>
  have h1:(Nat.blt q.1 s.n=true∧s.tree.get q.1=some q.2∧alive q.2=some q.2)∧pL s r:=h
  obtain ⟨⟨h1,h2,h3⟩,h4⟩:=h1
  cases hp with
  | head=>exact (abs_get (life:=s.life) (Nat.le_of_ble_eq_true h1) h2).trans h3
  | tail _ hp=>exact ih h4 hp
noncomputable def lT:Hook where
 α:=(Params→List (Option Obj))×Option Obj
 obs:=fun s=>(fun P=>(mkK.heap_1 P).map fun p=>s.heap.get? p.1,s.heap.get? 1117)
 val:=fun w=>(fun _=>(mkK.heap_1 w.params).map fun p=>some p.2,some (tabObj #[]))
 says:=fun w h=>(an w.params).In h∧h.get? 1117=some (tabObj #[])
 of:=fun w s x=>⟨fun a o e=>List.map_inj_left.mp (congrFun (Prod.mk.inj x).1 w.params) _ (w8 _ _ (mem_of_lookupK e)),(Prod.mk.inj x).2⟩
 keeps:=fun w h h' x k=>⟨Frag.In.keeps x.1 k,k _ _ x.2⟩
theorem Ad {w:World}{s:Shared}(h:∀ p∈mkK.heap_1 w.params,s.heap.get? p.1=some p.2)(h2:s.heap.get? 1117=some (tabObj #[])):lT.obs s=lT.val w:=by
 refine Prod.ext (funext fun P=>?_) h2
 have e:(mkK.heap_1 P).map (fun p=>p.1)=(mkK.heap_1 w.params).map (fun p=>p.1):=by kernel_rfl
 have e2:∀ K:Frag,K.map (fun p=>s.heap.get? p.1)=(K.map (fun p=>p.1)).map s.heap.get?:=fun K=>by rw [List.map_map]; rfl
 show (mkK.heap_1 P).map (fun p=>s.heap.get? p.1)=(mkK.heap_1 w.params).map fun p=>some p.2
 rw [e2,e,←e2]
 exact List.map_congr_left fun p hp=>h p hp
noncomputable def yt (w:World)(s:SharedT):Prop:=Br w.params s.abs=true∧openSeen vw lse (importedModules prg.main.body) Xt0 true s.abs=openGood vw lse∧pL s (mkK.heap_1 w.params)∧pL s [(1117,tabObj #[])]
theorem eqD (w:World)(q:Pos)(s:Shared):topRun treeTable prg w 11 ym 2 s ⟨doneF .next,cd0,q,fr0⟩=some s:=by kernel_rfl
theorem eqC (w:World)(os:OsState):D6 cd0 (fun _ s=>yt w s) (tC treeTable w (sB w os)) =
  (cd0=cd0∧true=true∧openGood vw lse=openGood vw lse∧sY (mkK.heap_1 w.params)∧sY [(1117,tabObj #[])]):=by
 unfold yt tC sB sA Br
 unfold rA
 rw [PySem.W.Fast.te10110043849684766642,PySem.W.Fast.te15667345088766844465,PySem.W.Fast.te14364793385576792824,PySem.W.Fast.te4187177175401517315,PySem.W.Fast.te5923862056798008813]
 kernel_rfl
noncomputable def nY:DefRec:=match recsOf vw with
 | d::_=>d
 | []=>⟨"",⟨[],[],none,[],[],none,[]⟩,[],AG.scope,ps0⟩
theorem op1:opening prg=plainProg prg.main.scope.names:=by kernel_rfl
theorem op2 (s:Shared):fenceModules? prg s=some s:=by kernel_rfl
theorem opn (w:World):(fencedOpening treeTable prg w 15110).map (fun s=>(s.heap,s.gens,s.drawn,s.toks))=some (boot_heap w.params,#[],boot_drawn,boot_toks):=
 boot_open op1 (by decide) op2 w
theorem siz (w:World):((boot_heap w.params).isNs mainGlobals&&(#[]:Array GenState).size == 0,(boot_heap w.params).objs.size,(boot_heap w.params).nsMap mainGlobals "__annotations__")=(true,11,ym):=by kernel_rfl
theorem Gs {p q:Program}{loose:List Str}{Xt:Shared→Bool}{α:Type}{Yf:Shared→α}{Ya:World→α}{N M:Nat}{m₀:Nat}{ann:Option Value}{H₀:Params→Heap}{d₀:Drawn}{k₀:Nat}
  (opn:∀ w,(fencedOpening treeTable p w N).map (fun s=>(s.heap,s.gens,s.drawn,s.toks))=some (H₀ w.params,#[],d₀,k₀))
  (siz:∀ w:World,((H₀ w.params).isNs mainGlobals&&(#[]:Array GenState).size == 0,(H₀ w.params).objs.size,(H₀ w.params).nsMap mainGlobals "__annotations__")=(true,m₀,ann)) (le:M≤N)
  (run:∀ (w:World) (os:OsState),∃ s1,topRun treeTable p w m₀ ann M ⟨H₀ w.params,#[],d₀,k₀,os⟩ (topStub p)=some s1∧(staticsOk (importedModules p.main.body) (H₀ w.params) s1.heap&&namesBound p s1.heap&&gensDone s1&&laidKept (H₀ w.params) s1.heap)=true∧
   openSeen q loose (importedModules p.main.body) Xt true s1=openGood q loose∧Yf s1=Ya w):LeftO p q loose Xt Yf Ya N:=fun w=>by
 obtain ⟨⟨h,gs,d,k,os⟩,e,e'⟩:=Option.map_eq_some_iff.mp (opn w)
 obtain ⟨rfl,rfl,rfl,rfl⟩:h=H₀ w.params∧gs=#[]∧d=d₀∧k=k₀:=by simpa using e'
 obtain ⟨z1,z2,z3⟩:_∧_∧_:=by simpa only [Prod.mk.injEq] using siz w
 obtain ⟨s1,r,l1,l2,l3⟩:=run w os
 have r3:=topRun_mono (N - M) _ _ _ _ r
 rw [Nat.add_sub_cancel' (by assumption)] at r3
 have t:topFrom treeTable p w N ⟨H₀ w.params,#[],d,k,os⟩=some s1:=by
  unfold topFrom
  dsimp only
  rw [z1,z2,z3,r3]
  dsimp only [Option.bind_some]
  rw [l1]
 unfold openEnds
 rw [e,Option.bind_some,t,Option.map_some,l2,l3]
theorem Ir {p:Program}{w:World}{m₀:Nat}{ann:Option Value}{env:Env}{qf q1:Pos}{b:List Stmt}{n1 n2 n3 n4:Nat}{sa sA:Shared}{sB:SharedT}{af:SharedT→Prop}
  (eA:topGo treeTable p w m₀ ann n1 sa (topStub p)=some (sA,⟨denote treeTable (.body b env),.body b env,q1,[topFrame qf]⟩))
  (eB:segRun treeTable p w m₀ ann 1 n2 sA (blockOf b env (.body b env) q1 [topFrame qf])=some (.next,sB.abs,.body b env,q1))
  (eD:∀ q s,topRun treeTable p w m₀ ann n4 s ⟨doneF .next,.body b env,q,[topFrame qf]⟩=some s) (eC:D6 (.body b env) (fun _ s=>af s) (segRunT treeTable p w m₀ ann 1 n3 sB (piecesOf b env (.body b env) q1 [topFrame qf]))) :
  ∃ s:SharedT,topRun treeTable p w m₀ ann (n1+(n2+(n3+n4))) sa (topStub p)=some s.abs∧af s:=by
 cases hC:segRunT treeTable p w m₀ ann 1 n3 sB (piecesOf b env (.body b env) q1 [topFrame qf]) with
 | none=>rw [hC] at eC; exact eC.elim
 | some r=>
  obtain ⟨f,s,c,q⟩:=r
  rw [hC] at eC
  cases f<;>try exact eC.elim
  obtain ⟨hc,L⟩:c=.body b env∧af s:=eC
  subst hc
  have r1:=piece_app (rest:=[]) (segRun_of hC) (piece_nil (eD q s.abs))
  rw [List.append_nil] at r1
  exact ⟨s,go_top eA (piece_block eB r1),L⟩
theorem CI:LeftO LW.row.prog vw lse Xt0 lT.obs lT.val 15110:=
 Gs (M:=12+(1+(9000+2))) opn siz (by decide) fun w os=>by
  have e:D6 cd0 (fun _ s=>yt w s) (tC treeTable w (sB w os)):=by
   rw [eqC]; exact ⟨rfl,rfl,rfl,kL _,kL _⟩
  obtain ⟨s,h1,l1,l2,l3,l4⟩:=Ir (eqA w os) (eqB w os) (eqD w) e
  exact ⟨s.abs,h1,l1,l2,Ad (fun _ hp=>pK l3 hp) (pK l4 (.head _))⟩
theorem ok1:chainsOk vw=true:=by
 unfold chainsOk
 rw [PySem.W.Fast.te5991557255702980513]; kernel_rfl
theorem ok2:opensWell prg=true:=by kernel_rfl
theorem ok3:(frees LW.row.toRowW&&LW.row.within.isEmpty)=true:=by kernel_rfl
theorem ok4:defOf vw LW.row.name=some (nY,[]):=by kernel_rfl
theorem ok5:LW.row.prog.theDef LW.row.name=some (nY.params,nY.body,nY.scope):=by kernel_rfl
theorem ok6:kwWritten? nY.params.kwonlyargs nY.params.kw_defaults=some []:=by kernel_rfl
theorem ok7:(!LW.row.writes||LW.row.records.isEmpty)=true:=by kernel_rfl
theorem ok8:LW.row.prog.bare:=⟨rfl,rfl,rfl,rfl,rfl,by decide +kernel⟩
theorem Ip:PySem.Challenge.rw_nn0079_01.wellSaid=true:=by
 rw [PySem.W.Fast.te9446332074065402090]; kernel_rfl
theorem wit:PySem.Challenge.rw_nn0079_01.row.toRowW.promised:=by w_witness2
theorem hd (hc:WalkO vw lse (XL vw []) lT.says LW.row.toRowW nY [] fun f vs=>PySem.call f vs):PySem.Challenge.rw_nn0079_01.Holds:=
 holds_law Ip fun sd=>holds_open (q:=vw) (loose:=lse) (Xt:=Xt0) (XP:=XL vw []) (Yf:=lT.obs) (Ya:=lT.val) (YP:=lT.says) (d:=nY) (kwd:=[]) (N:=15110) CI lT.of lT.keeps (fun s e=>xl_of s (Bool.and_eq_true_iff.mp e).1) XL.keeps
  ok4 ok5 ok6 (fun s e=>recFacts_of (Bool.and_eq_true_iff.mp e).2) ok7 sd (by rw [ok1,ok2,ok3]; rfl) ok8 wit hc
end
end Mine
end
section
namespace Mine
section
theorem nos {α:Type}{a:α}{G:Prop}(h:none=some a):G:=(Option.some_ne_none a h.symm).elim
theorem eqT {G:Prop}(h:false=true):G:=(Bool.false_ne_true h).elim
theorem aE {a b c:Prop}(h:a∧b)(f:a→b→c):c:=f h.1 h.2
theorem xEE {α:Sort u}{β:Sort v}{r:α→β→Prop}{C:Prop}(h:∃ a:α,∃ b:β,r a b)(k:∀ a:α,∀ b:β,r a b→C):C:=h.elim fun a h1=>h1.elim fun b h2=>k a b h2
theorem xEA {α:Sort u}{q:α→Prop}{r:α→Prop}{C:Prop}(h:∃ a:α,q a∧r a)(k:∀ a:α,q a→r a→C):C:=h.elim fun a h1=>k a h1.1 h1.2
theorem xAA {p:Prop}{q:Prop}{r:Prop}{C:Prop}(h:p∧q∧r)(k:p→q→r→C):C:=k h.1 h.2.1 h.2.2
theorem xEEE {α:Sort u}{β:Sort v}{γ:Sort w}{r:α→β→γ→Prop}{C:Prop}(h:∃ a:α,∃ b:β,∃ c:γ,r a b c)(k:∀ a:α,∀ b:β,∀ c:γ,r a b c→C):C:=h.elim fun a h1=>h1.elim fun b h2=>h2.elim fun c h3=>k a b c h3
theorem xEEA {α:Sort u}{β:Sort v}{s:α→β→Prop}{r:α→β→Prop}{C:Prop}(h:∃ a:α,∃ b:β,s a b∧r a b)(k:∀ a:α,∀ b:β,s a b→r a b→C):C:=h.elim fun a h1=>h1.elim fun b h2=>k a b h2.1 h2.2
theorem xEAA {α:Sort u}{q:α→Prop}{s:α→Prop}{r:α→Prop}{C:Prop}(h:∃ a:α,q a∧s a∧r a)(k:∀ a:α,q a→s a→r a→C):C:=h.elim fun a h1=>k a h1.1 h1.2.1 h1.2.2
theorem xAAA {p:Prop}{q:Prop}{s:Prop}{r:Prop}{C:Prop}(h:p∧q∧s∧r)(k:p→q→s→r→C):C:=k h.1 h.2.1 h.2.2.1 h.2.2.2
theorem xEEEE {α:Sort u}{β:Sort v}{γ:Sort w}{δ:Sort z}{r:α→β→γ→δ→Prop}{C:Prop}(h:∃ a:α,∃ b:β,∃ c:γ,∃ d:δ,r a b c d)(k:∀ a:α,∀ b:β,∀ c:γ,∀ d:δ,r a b c d→C):C:=h.elim fun a h1=>h1.elim fun b h2=>h2.elim fun c h3=>h3.elim fun d h4=>k a b c d h4
theorem xEEEA {α:Sort u}{β:Sort v}{γ:Sort w}{t:α→β→γ→Prop}{r:α→β→γ→Prop}{C:Prop}(h:∃ a:α,∃ b:β,∃ c:γ,t a b c∧r a b c)(k:∀ a:α,∀ b:β,∀ c:γ,t a b c→r a b c→C):C:=h.elim fun a h1=>h1.elim fun b h2=>h2.elim fun c h3=>k a b c h3.1 h3.2
theorem xEEAA {α:Sort u}{β:Sort v}{s:α→β→Prop}{t:α→β→Prop}{r:α→β→Prop}{C:Prop}(h:∃ a:α,∃ b:β,s a b∧t a b∧r a b)(k:∀ a:α,∀ b:β,s a b→t a b→r a b→C):C:=h.elim fun a h1=>h1.elim fun b h2=>k a b h2.1 h2.2.1 h2.2.2
theorem xEAAA {α:Sort u}{q:α→Prop}{s:α→Prop}{t:α→Prop}{r:α→Prop}{C:Prop}(h:∃ a:α,q a∧s a∧t a∧r a)(k:∀ a:α,q a→s a→t a→r a→C):C:=h.elim fun a h1=>k a h1.1 h1.2.1 h1.2.2.1 h1.2.2.2
theorem xAAAA {p:Prop}{q:Prop}{s:Prop}{t:Prop}{r:Prop}{C:Prop}(h:p∧q∧s∧t∧r)(k:p→q→s→t→r→C):C:=k h.1 h.2.1 h.2.2.1 h.2.2.2.1 h.2.2.2.2
theorem z9 {j:Int}{n:Nat}(h:0≤j)(g:j<n):j.toNat<n:=(Int.toNat_lt h).mpr g
theorem sj {α:Type}{a b:α}{G:Prop}(h:some a=some b)(k:a=b→G):G:=k (Option.some.inj h)
theorem n2 {a b c:Nat}(h:a<b)(g:b≤c):a≤c:=Nat.le_of_lt (Nat.lt_of_lt_of_le h g)
theorem n3 {a b c:Nat}(h:a≤b)(g:b<c):a<c:=Nat.lt_of_le_of_lt h g
theorem e1 {a b c:Nat}(h:a=b)(g:b≤c):a≤c:=h▸g
theorem e2 {a b c:Nat}(h:a=b)(g:b<c):a<c:=h▸g
theorem e3 {a b c:Nat}(h:a=b)(g:c<b):c<a:=h▸g
theorem e4 {a b c d:Nat}(h:a=b)(g:b≤c)(k:c≤d):a≤d:=h▸Nat.le_trans g k
theorem z1 {c:Int}(h:0≤c):0≤c+1:=Int.le_add_one h
theorem z6 {c:Int}(h:0≤c):0≤c+1+1:=z1 (z1 h)
theorem z7 {c:Int}(h:0≤c):0≤c+1+1+1:=z1 (z6 h)
theorem z8 {c:Int}(h:0≤c):c=c.toNat:=(Int.toNat_of_nonneg h).symm
theorem m2 {a b c:Nat}(h:a<min b c):a<b:=Nat.lt_of_lt_of_le h (Nat.min_le_left ..)
theorem m3 {a b c:Nat}(h:a<min b c):a<c:=Nat.lt_of_lt_of_le h (Nat.min_le_right ..)
theorem z2 {n k:Nat}{c:Int}(h:n≤k)(g:(k:Int)<c):(n:Int)<c:=Int.lt_of_le_of_lt (Int.ofNat_le.mpr h) g
theorem z3 {n k:Nat}{c:Int}(h:n<k)(g:(k:Int)≤c):(n:Int)<c:=Int.lt_of_lt_of_le (Int.ofNat_lt.mpr h) g
theorem z4 {n:Nat}{c:Int}(g:c≤0):c≤n:=Int.le_trans g (Int.natCast_nonneg n)
theorem z5 {n:Nat}{c:Int}(g:c<0):c<n:=Int.lt_of_lt_of_le g (Int.natCast_nonneg n)
theorem m1 {a b c d:Nat}(h:b≤c)(g:c≤d):min a b≤d:=Nat.le_trans (Nat.min_le_right ..) (Nat.le_trans h g)
theorem p1 {a b c d:Nat}(h:a+c≤d)(g:b≤c):a+b≤d:=Nat.le_trans (Nat.add_le_add_left g a) h
theorem nat64 {x:Int}(h:0≤x∧x<256):x.natAbs<2 ^ 64:=Int.ofNat_lt.mp (by rw [Int.natAbs_of_nonneg h.1]; exact Int.lt_trans h.2 (by decide))
@[elab_as_elim] theorem rwm {α:Sort u}{a b:α}{P:α→Prop}(h:a=b)(x:P b):P a:=h▸x
@[elab_as_elim] theorem rwl {α:Sort u}{a b:α}{P:α→Prop}(h:b=a)(x:P b):P a:=h▸x
end
end Mine
end
section
local macro_rules
 | `(tactic| omega)=>do
  let ts←#["Nat.le_trans","Mine.n2","Mine.n3","Nat.lt_of_lt_of_le","Mine.e1","Mine.e2","Mine.e3","Mine.z2","Mine.z3","Mine.m1","Mine.p1","Mine.z1","Mine.z6","Mine.z7","Mine.z8","Mine.m2","Mine.m3","Int.ofNat_lt.mp","Int.ofNat_lt.mpr","Nat.succ_lt_succ","Mine.nat64","Mine.z4","Mine.z5","Mine.e4","Mine.z9"].mapM fun f=>`(tactic| (apply $(Lean.mkIdent f.toName)<;>first | assumption | decide))
  `(tactic| first | with_reducible (first | assumption $[| $ts:tactic]*) | lia | omega (splitDisjunctions:=true))
local macro_rules
 | `(tactic| cases $h:ident)=>`(tactic| first | subst $h:ident | exact Mine.nos $h:ident | exact Mine.eqT $h:ident | (apply Mine.sj $h:ident; clear $h:ident; intro hh; subst hh) | rcases $h:ident with ⟨⟩)
local macro_rules
 | `(tactic| cases $x:elimTarget with $alts:inductionAlt*)=>do
  let ts←#["Option","Bool","List","Nat"].mapM fun t=>`(tactic| induction $x:elimTarget using $(Lean.mkIdent (t++".casesOn").toName) with $alts:inductionAlt*)
  `(tactic| first $[| $ts:tactic]*)
local macro_rules
 | `(tactic| rw [$rs,*])=>do
  let ts←rs.getElems.mapM fun r=>`(tactic| first | refine $(Lean.mkIdent (if r.raw[0].getNumArgs == 0 then `Mine.rwm else `Mine.rwl)) $(⟨r.raw[1]⟩) ?_ | rewrite [$r:rwRule])
  `(tactic| ($[$ts:tactic];*; try (with_reducible rfl)))
local macro_rules
 | `(tactic| obtain ⟨$ps,*⟩:=$e:term)=>do
  let p:=ps.getElems
  let xs:=p.map fun q=>q.raw.getHead?.getD .missing
  if p.size<3||!xs.all (·.isIdent) then Lean.Macro.throwUnsupported
  let l:=min 4 (p.size - 1)
  let z:=if l+1 == p.size then xs[l]! else Lean.mkIdent (.mkSimple s!"z{l}{p.size}")
  let ts←#["EE","EEE","E","","EEEE"].mapM fun s=>`(tactic| refine $(Lean.mkIdent ("Mine.x"++s++"AAAA".take (l - s.length)).toName) $e fun $(((xs.extract 0 l).push z).map fun x=>⟨x⟩)*=>?_)
  let r←if l+1 == p.size then `(tactic| skip) else `(tactic| obtain ⟨$(p.extract l p.size),*⟩:=$(⟨z⟩))
  let c:=if e.raw.isIdent then e.raw else Lean.mkIdent `zc
  `(tactic| first | ((first $[| $ts:tactic]*); (try clear $(⟨c⟩):ident); $r; repeat subst $(Lean.mkIdent `rfl):ident) | rcases $e:term with ⟨$ps,*⟩)
local macro_rules
 | `(tactic| rfl')=>`(tactic| kernel_rfl)
section
open PySem PySem.W PySem.Calls PyProof.Rows
namespace Mine
section
theorem wk {α:Type}(n:Nonempty α)(P:α→Prop)(h:P (@Classical.epsilon α n fun a=>¬ P a))(a:α):P a:=by
 by_cases q:P a
 ·exact q
 ·exact absurd h (@Classical.epsilon_spec α (fun a=>¬ P a) ⟨a,q⟩)
noncomputable def pick {α:Type}(n:Nonempty α)(P:α→Prop):α:=@Classical.epsilon α n fun a=>¬ P a
theorem J4 {α:Type}(n:Nonempty α)(P:α→Prop){X:Prop}(h:X)(e:X=P (pick n P))(a:α):P a:=wk n P (e▸h) a
noncomputable def dP:Params:={ strHash:=fun _=>0,shareClass:=fun _=>0,mergeTok:=fun t=>t,idOf:=fun _=>0,idOfShared:=fun _ _=>0,followText:=fun _=>true,idOfImm:=fun _=>0 }
noncomputable def dW:World:=⟨fun _ _=>0,dP⟩
theorem neW:Nonempty World:=⟨⟨fun _ _=>0,{ strHash:=fun _=>0,shareClass:=fun _=>0,mergeTok:=fun t=>t,idOf:=fun _=>0,idOfShared:=fun _ _=>0,followText:=fun _=>true,idOfImm:=fun _=>0 }⟩⟩
noncomputable def wOf {P:World→Prop}{C:Prop}(_:(∀ w,P w)→C):World:=@Classical.epsilon World neW fun w=>¬ P w
theorem Cw {P:World→Prop}{C:Prop}(hd:(∀ w,P w)→C)(h:P (wOf hd)):C:=hd fun a=>by
 by_cases q:P a
 ·exact q
 ·exact absurd h (@Classical.epsilon_spec World (fun w=>¬ P w) ⟨a,q⟩)
@[irreducible] noncomputable def w:World:=wOf hd
theorem H7:wOf hd=w:=by unfold w; rfl
@[irreducible] noncomputable def prog:Program:=prg
noncomputable def J2 (A:Around)(rest:List Stmt)(env:Env)(Q:Flow→Shared→Prop)(E:Value→Shared→Prop):Flow→Shared→Prop:=fun f s'=>match f with
 | .next=>wpAny (model prog w) A (execs rest env) Q E s'
 | f=>Q f s'
theorem wpAny_execs_cons {A:Around}{st:Stmt}{rest:List Stmt}{env:Env}{Q:Flow→Shared→Prop}{E:Value→Shared→Prop}{s:Shared}(h:wpAny (model prog w) A (exec st env) (J2 A rest env Q E) E s):wpAny (model prog w) A (execs (st::rest) env) Q E s:=PySem.wpAny_execs_cons h
theorem y8:prg=prog:=by unfold prog; rfl
@[irreducible] noncomputable def p:Params:=w.params
theorem IL:w.params=p:=by unfold p; rfl
noncomputable abbrev K:Frag:=an p
inductive SV where
 | none
 | bool (b:Bool)
 | ubool (b:Bool)
 | int (i:Int)
 | uint (i:Int)
 | str (s:Str)
 | bytes (b:Array UInt8)
 | ref (k:Nat)
 | sta (a:Addr)
 | bi (id:String)
 | ty (n:String)
noncomputable abbrev Rho:=List (Addr×Addr)
noncomputable def SV.Is (ρ:Rho):SV→Value→Prop
 | .none,v=>v=.none
 | .bool b,v=>v=.bool b
 | .ubool b,v=>v=.bool b
 | .int i,v=>∃ t,v=.int i t
 | .uint i,v=>∃ t,v=.int i t
 | .str x,v=>∃ t,v=.str x t
 | .bytes x,v=>∃ t,v=.bytes x t
 | .ref k,v=>∃ p,ρ[k]?=some p∧v=.ref p.1
 | .sta a,v=>v=.ref a
 | .bi id,v=>v=.builtin id
 | .ty n,v=>v=.type n
theorem bx {ρ τ:Rho}{k:Nat}{p:Addr×Addr}(h:ρ[k]?=some p):(ρ++τ)[k]?=some p:=by
 have:=(List.getElem?_eq_some_iff.mp h).1
 rw [List.getElem?_append_left this]; exact h
theorem SV.Is.mono {ρ τ:Rho}{sv:SV}{v:Value}(h:sv.Is ρ v):sv.Is (ρ++τ) v:=by
 cases sv<;>try exact h
 obtain ⟨p,hp,e⟩:=h
 exact ⟨p,bx hp,e⟩
inductive ag {α β:Type} (R:α→β→Prop):List α→List β→Prop
 | nil:ag R [] []
 | cons {a b as bs}:R a b→ag R as bs→ag R (a::as) (b::bs)
theorem ag.imp {α β:Type}{R S:α→β→Prop}{as:List α}{bs:List β}(h:ag R as bs)(f:∀ a b,R a b→S a b):ag S as bs:=by
 induction h with
 | nil=>exact .nil
 | cons r _ ih=>exact .cons (f _ _ r) ih
theorem ag.length {α β:Type}{R:α→β→Prop}{as:List α}{bs:List β}(h:ag R as bs):as.length=bs.length:=by
 induction h with
 | nil=>rfl
 | cons _ _ ih=>simp [ih]
theorem ag.get {α β:Type}{R:α→β→Prop}{as:List α}{bs:List β}(h:ag R as bs){i:Nat}{a:α}(e:as[i]?=some a):∃ b,bs[i]?=some b∧R a b:=by
 induction h generalizing i with
 | nil=>simp at e
 | cons r _ ih=>
  cases i with
  | zero=>simp at e; subst e; exact ⟨_,rfl,r⟩
  | succ i=>simpa using ih (by simpa using e)
theorem ag.inv0 {α β:Type}{R:α→β→Prop}{vs:List β}(h:ag R [] vs):vs=[]:=by cases h; rfl
theorem ag.inv {α β:Type}{R:α→β→Prop}{a:α}{l:List α}{vs:List β}(h:ag R (a::l) vs):∃ x xs,vs=x::xs∧R a x∧ag R l xs:=by cases h with | cons r t=>exact ⟨_,_,rfl,r,t⟩
theorem ag.inv1 {α β:Type}{R:α→β→Prop}{a:α}{vs:List β}(h:ag R [a] vs):∃ x,vs=[x]∧R a x:=by
 obtain ⟨x,xs,rfl,r,t⟩:=h.inv
 exact ⟨x,by rw [t.inv0],r⟩
theorem ag.inv2 {α β:Type}{R:α→β→Prop}{a b:α}{vs:List β}(h:ag R [a,b] vs):∃ x y,vs=[x,y]∧R a x∧R b y:=by
 obtain ⟨x,xs,rfl,r,t⟩:=h.inv
 obtain ⟨y,rfl,r2⟩:=t.inv1
 exact ⟨x,y,rfl,r,r2⟩
theorem ag.inv3 {α β:Type}{R:α→β→Prop}{a b c:α}{vs:List β}(h:ag R [a,b,c] vs):∃ x y z,vs=[x,y,z]∧R a x∧R b y∧R c z:=by
 obtain ⟨x,xs,rfl,r,t⟩:=h.inv
 obtain ⟨y,z,rfl,r2⟩:=t.inv2
 exact ⟨x,y,z,rfl,r,r2⟩
theorem ag.inv4 {α β:Type}{R:α→β→Prop}{a b c d:α}{vs:List β}(h:ag R [a,b,c,d] vs):∃ x y z u,vs=[x,y,z,u]∧R a x∧R b y∧R c z∧R d u:=by
 obtain ⟨x,xs,rfl,r,t⟩:=h.inv
 obtain ⟨y,z,u,rfl,r2⟩:=t.inv3
 exact ⟨x,y,z,u,rfl,r,r2⟩
theorem ag.inv5 {α β:Type}{R:α→β→Prop}{a b c d e:α}{vs:List β}(h:ag R [a,b,c,d,e] vs):∃ x y z u v,vs=[x,y,z,u,v]∧R a x∧R b y∧R c z∧R d u∧R e v:=by
 obtain ⟨x,xs,rfl,r,t⟩:=h.inv
 obtain ⟨y,z,u,v,rfl,r2⟩:=t.inv4
 exact ⟨x,y,z,u,v,rfl,r,r2⟩
theorem ag.append {α β:Type}{R:α→β→Prop}{as as':List α}{bs bs':List β}(h:ag R as bs)(h':ag R as' bs'):ag R (as++as') (bs++bs'):=by
 induction h with
 | nil=>exact h'
 | cons r _ ih=>exact .cons r ih
theorem ag.set {α β:Type}{R:α→β→Prop}{as:List α}{bs:List β}(h:ag R as bs){i:Nat}{a:α}{b:β}(r:R a b):ag R (as.set i a) (bs.set i b):=by
 induction h generalizing i with
 | nil=>exact .nil
 | cons r' t ih=>
  cases i with
  | zero=>exact .cons r t
  | succ i=>exact .cons r' ih
theorem bC {P x:Prop}{l:List Prop}(hx:x∈P::l)(h:P)(t:x∈l→x):x:=by
 rcases List.mem_cons.mp hx with rfl | hx
 ·exact h
 ·exact t hx
theorem fb {α:Type}{a x0 x1:α}(h:a∈[x0,x1]):a=x0∨a=x1:=(List.mem_cons.mp h).imp id List.mem_singleton.mp
theorem gx {α:Type}{a x0 x1 x2:α}(h:a∈[x0,x1,x2]):a=x0∨a=x1∨a=x2:=(List.mem_cons.mp h).imp id fb
theorem pv {α:Type}{a x0 x1 x2 x3:α}(h:a∈[x0,x1,x2,x3]):a=x0∨a=x1∨a=x2∨a=x3:=(List.mem_cons.mp h).imp id gx
theorem CM {α:Type}{a x0 x1 x2 x3 x4:α}(h:a∈[x0,x1,x2,x3,x4]):a=x0∨a=x1∨a=x2∨a=x3∨a=x4:=(List.mem_cons.mp h).imp id pv
theorem zC {α:Type}{a x0 x1 x2 x3 x4 x5:α}(h:a∈[x0,x1,x2,x3,x4,x5]):a=x0∨a=x1∨a=x2∨a=x3∨a=x4∨a=x5:=(List.mem_cons.mp h).imp id CM
theorem IT {α:Type}{a x0 x1 x2 x3 x4 x5 x6:α}(h:a∈[x0,x1,x2,x3,x4,x5,x6]):a=x0∨a=x1∨a=x2∨a=x3∨a=x4∨a=x5∨a=x6:=(List.mem_cons.mp h).imp id zC
theorem FC {α:Type}{a x0 x1 x2 x3 x4 x5 x6 x7:α}(h:a∈[x0,x1,x2,x3,x4,x5,x6,x7]):a=x0∨a=x1∨a=x2∨a=x3∨a=x4∨a=x5∨a=x6∨a=x7:=(List.mem_cons.mp h).imp id IT
theorem IS {α:Type}{a x0 x1 x2 x3 x4 x5 x6 x7 x8:α}(h:a∈[x0,x1,x2,x3,x4,x5,x6,x7,x8]):a=x0∨a=x1∨a=x2∨a=x3∨a=x4∨a=x5∨a=x6∨a=x7∨a=x8:=(List.mem_cons.mp h).imp id FC
noncomputable def nB:List Nat→List Nat→Bool
 | [],b=>b.isEmpty
 | x::a,b=>b.casesOn false fun y b=>cond (Nat.beq x y) (nB a b) false
theorem ry {a b:List Nat}:nB a b=true↔a=b:=by
 induction a generalizing b with
 | nil=>cases b with
  | nil=>exact ⟨fun _=>rfl,fun _=>rfl⟩
  | cons y b=>exact ⟨fun h=>(eqT h),fun h=>(List.cons_ne_nil y b h.symm).elim⟩
 | cons x a ih=>cases b with
  | nil=>exact ⟨fun h=>(eqT h),fun h=>(List.cons_ne_nil x a h).elim⟩
  | cons y b=>
   show cond (Nat.beq x y) (nB a b) false=true↔_
   cases h:Nat.beq x y with
   | true=>rw [Nat.eq_of_beq_eq_true h,List.cons.injEq,and_iff_right rfl]; exact ih
   | false=>exact ⟨fun h=>(eqT h),fun e=>(Nat.ne_of_beq_eq_false h (List.cons.inj e).1).elim⟩
noncomputable def sEq (a b:Str):Bool:=nB a.cps.toList b.cps.toList
theorem aQ {a b:Str}:sEq a b=true↔a=b:=by
 unfold sEq
 rw [ry]
 obtain ⟨⟨a⟩⟩:=a; obtain ⟨⟨b⟩⟩:=b
 simp
theorem vT (a:Str):sEq a a=true:=aQ.mpr rfl
theorem cn {a b:Str}:sEq a b=false↔a≠b:=by
 rw [Ne,←aQ]; simp
noncomputable def af {α:Type}(x:Str):List (Str×α)→Option α
 | []=>none
 | p::r=>match sEq p.1 x with
  | true=>some p.2
  | false=>af x r
noncomputable def dD {α:Type}(x:Str)(v:α):List (Str×α)→List (Str×α)
 | []=>[(x,v)]
 | p::r=>match sEq p.1 x with
  | true=>(x,v)::r
  | false=>p::dD x v r
theorem dH {α:Type}{y:Str}{p:Str×α}{r:List (Str×α)}:af y (p::r)=if p.1=y then some p.2 else af y r:=by
 show (match sEq p.1 y with | true=>some p.2 | false=>af y r)=_
 by_cases h:p.1=y
 ·rw [if_pos h,aQ.mpr h]
 ·rw [if_neg h,cn.mpr h]
theorem mB {α:Type}(x y:Str)(v:α)(l:List (Str×α)):af y (dD x v l)=if y=x then some v else af y l:=by
 have one:∀ r:List (Str×α),af y ((x,v)::r)=if y=x then some v else af y r:=fun r=>by
  rw [dH]
  by_cases h:y=x
  ·rw [if_pos h,if_pos h.symm]
  ·rw [if_neg h,if_neg (Ne.symm h)]
 induction l with
 | nil=>exact one []
 | cons p r ih=>
  unfold dD
  by_cases hp:p.1=x
  ·rw [aQ.mpr hp]
   show af y ((x,v)::r)=_
   rw [one,dH,hp]
   by_cases h:y=x
   ·rw [if_pos h,if_pos h]
   ·rw [if_neg h,if_neg h,if_neg (Ne.symm h)]
  ·rw [cn.mpr hp]
   show af y (p::dD x v r)=_
   rw [dH,ih,dH]
   by_cases h:p.1=y
   ·rw [if_pos h,if_pos h,if_neg fun e=>hp (h.trans e)]
   ·rw [if_neg h,if_neg h]
theorem oV {α:Type}(x:Str)(v:α)(l:List (Str×α)):(dD x v l).length=if (af x l).isSome then l.length else l.length+1:=by
 induction l with
 | nil=>rfl
 | cons p r ih=>
  unfold dD af
  cases h:sEq p.1 x with
  | true=>rfl
  | false=>
   show (dD x v r).length+1=if (af x r).isSome then r.length+1 else r.length+1+1
   rw [ih]
   cases (af x r).isSome with
   | true=>rfl
   | false=>rfl
noncomputable def az (ρ:Rho):Option SV→Option Value→Prop
 | some sv,some v=>sv.Is ρ v
 | none,none=>True
 | _,_=>False
theorem az.imp {ρ ρ':Rho}{P:SV→Bool}{a:Option SV}{b:Option Value}(H:∀ sv v,P sv=true→sv.Is ρ v→sv.Is ρ' v)(ha:∀ sv,a=some sv→P sv=true)(h:az ρ a b):az ρ' a b:=by
 cases a<;>cases b<;>first | exact h | exact H _ _ (ha _ rfl) h
theorem az.mono {ρ τ:Rho}{a:Option SV}{b:Option Value}(h:az ρ a b):az (ρ++τ) a b:=h.imp (P:=fun _=>true) (fun _ _ _=>SV.Is.mono) fun _ _=>rfl
theorem gH {α:Type}{x:Str}{v:α}{l:List (Str×α)}(h:af x l=some v):∃ y,(y,v)∈l:=by
 induction l with
 | nil=>exact nomatch h
 | cons p r ih=>
  unfold af at h
  cases q:sEq p.1 x with
  | true=>rw [q] at h; exact ⟨p.1,Option.some.inj h▸.head _⟩
  | false=>rw [q] at h; exact (ih h).imp fun _=>.tail _
theorem pJ {P:SV→Bool}{x:Str}{fs:List (Str×SV)}(a:(∀ sv,P sv=true)∨(fs.all fun p=>P p.2)=true)(sv:SV)(e:af x fs=some sv):P sv=true:=
 a.elim (fun A=>A sv) fun l=>(gH e).elim fun _ hy=>List.all_eq_true.mp l _ hy
theorem ag.impP {ρ ρ':Rho}{P:SV→Bool}{xs:List SV}{vs:List Value}(H:∀ sv v,P sv=true→sv.Is ρ v→sv.Is ρ' v)(a:(∀ sv,P sv=true)∨xs.all P=true)(h:ag (SV.Is ρ) xs vs):ag (SV.Is ρ') xs vs:=by
 replace a:∀ x∈xs,P x=true:=fun x hx=>a.elim (fun A=>A x) fun l=>List.all_eq_true.mp l x hx
 induction h with
 | nil=>exact .nil
 | cons r _ ih=>exact .cons (H _ _ (a _ (.head _)) r) (ih fun x hx=>a x (.tail _ hx))
noncomputable def Eh (f:Int→Int)(g:Int→Option Value):Prop:=∀ i,match g i with
 | none=>f i=0
 | some v=>∃ t,v=.int (f i) t
inductive SO where
 | inst (C:Addr) (fs:List (Str×SV))
 | list (xs:List SV)
 | tup (xs:List SV)
 | slist (xs:List SV)
 | ilist (xs:List Int)
 | sdict (es:List (Str×SV))
 | idict (g:Int→Option SV) (n:Nat)
 | mem (f:Int→Int) (n:Nat)
 | cell (v:Option SV)
 | rng (a b:Int)
 | edict
 | kdict (i:Int) (v:SV)
 | opq (P:Obj→Prop)
 | ro (o:SO)
noncomputable abbrev Hp:=List (Nat×SO)
noncomputable def aM (k:Nat):Hp→Option SO
 | []=>none
 | p::r=>match Nat.beq p.1 k with
  | true=>some p.2
  | false=>aM k r
noncomputable def dp (k:Nat)(o:SO):Hp→Hp
 | []=>[]
 | p::r=>match Nat.beq p.1 k with
  | true=>(k,o)::r
  | false=>p::dp k o r
section
noncomputable def OkO (ρ:Rho)(h:Heap)(p:Addr×Addr):SO→Prop
 | .inst C fs=>h.get? p.1=some (instObj C p.2)∧∃ es ep,h.get? p.2=some ⟨.type "dict",none,.dict es ep,#[]⟩∧StrKeys es∧es.size≤fs.length∧∀ x,az ρ (af x fs) (nsFind es x)
 | .list xs=>∃ vs n,h.get? p.1=some ⟨.type "list",none,.seq vs n,#[]⟩∧ag (SV.Is ρ) xs vs.toList
 | .slist xs=>∃ vs n,h.get? p.1=some ⟨.type "list",none,.seq vs n,#[]⟩∧ag (SV.Is ρ) xs vs.toList
 | .tup xs=>∃ vs n,h.get? p.1=some ⟨.type "tuple",none,.seq vs n,#[]⟩∧ag (SV.Is ρ) xs vs.toList
 | .ilist xs=>∃ vs n,h.get? p.1=some ⟨.type "list",none,.seq vs n,#[]⟩∧IntsAre vs.toList xs
 | .sdict es=>∃ kvs:List (Str×Value),h.DictOf (strKind prog w) p.1 kvs∧kvs.length≤es.length∧∀ x,az ρ (af x es) (valueAt kvs x)
 | .idict f n=>p.1≠sysModules∧∃ kvs:List (Int×Value),h.DictOf (intKind prog w) p.1 kvs∧kvs.length≤n∧∀ x,az ρ (f x) (valueAt kvs x)
 | .mem f n=>p.1≠sysModules∧∃ kvs:List (Int×Value),h.DictOf (intKind prog w) p.1 kvs∧kvs.length≤n∧Eh f (valueAt kvs)
 | .rng a b=>∃ t u v,IsRange h p.1 a b 1 t u v
 | .edict=>p.1≠sysModules∧∃ ep,h.get? p.1=some ⟨.type "dict",none,.dict #[] ep,#[]⟩
 | .kdict i v=>p.1≠sysModules∧∃ kvs:List (Int×Value),h.DictOf (intKind prog w) p.1 kvs∧az ρ (some v) (valueAt kvs i)
 | .cell v=>∃ o c,h.get? p.1=some o∧o.data=.cell c∧az ρ v c
 | .opq P=>∃ o,h.get? p.1=some o∧P o
 | .ro o=>OkO ρ h p o
noncomputable def aN (p:Addr×Addr):SO→List Addr
 | .inst ..=>[p.1,p.2]
 | .ro _=>[]
 | _=>[p.1]
noncomputable def jW (p:Addr×Addr):SO→List Addr
 | .inst ..=>[p.1,p.2]
 | .ro o=>jW p o
 | _=>[p.1]
end
section
noncomputable def A5 (P:SV→Bool)(o:SO):Bool:=match o with
 | .inst _ fs=>fs.all fun p=>P p.2
 | .list xs=>xs.all P
 | .slist xs=>xs.all P
 | .tup xs=>xs.all P
 | .sdict es=>es.all fun p=>P p.2
 | .idict _ _=>false
 | .kdict _ v=>P v
 | .cell v=>v.all P
 | .ro o=>A5 P o
 | _=>true
theorem OkO.imp {ρ ρ':Rho}{h:Heap}{p:Addr×Addr}{o:SO}{P:SV→Bool}(H:∀ sv v,P sv=true→sv.Is ρ v→sv.Is ρ' v)(O:OkO ρ h p o)(a:(∀ sv,P sv=true)∨A5 P o=true):OkO ρ' h p o:=by
 induction o with
 | inst C fs=>
  obtain ⟨z,es,ep,b,c,d,e⟩:=O
  exact ⟨z,es,ep,b,c,d,fun x=>(e x).imp H (pJ a)⟩
 | list xs=>obtain ⟨vs,n,z,b⟩:=O; exact ⟨vs,n,z,b.impP H a⟩
 | slist xs=>obtain ⟨vs,n,z,b⟩:=O; exact ⟨vs,n,z,b.impP H a⟩
 | tup xs=>obtain ⟨vs,n,z,b⟩:=O; exact ⟨vs,n,z,b.impP H a⟩
 | sdict es=>obtain ⟨g,z,b,c⟩:=O; exact ⟨g,z,b,fun x=>(c x).imp H (pJ a)⟩
 | idict f n=>obtain ⟨ne,g,z,b,c⟩:=O; exact ⟨ne,g,z,b,fun x=>(c x).imp H fun sv _=>a.elim (fun A=>A sv) eqT⟩
 | kdict i v=>obtain ⟨ne,g,z,b⟩:=O; exact ⟨ne,g,z,b.imp H fun sv e=>Option.some.inj e▸a.elim (fun A=>A v) id⟩
 | cell v=>obtain ⟨o,c,z,b,d⟩:=O; exact ⟨o,c,z,b,d.imp H fun sv e=>a.elim (fun A=>A sv) fun l=>by subst e; exact l⟩
 | ro o ih=>exact ih O a
 | _=>exact O
theorem OkO.mono {ρ τ:Rho}{h:Heap}{p:Addr×Addr}{o:SO}(O:OkO ρ h p o):OkO (ρ++τ) h p o:=O.imp (P:=fun _=>true) (fun _ _ _=>SV.Is.mono) (.inl fun _=>rfl)
theorem fS {K:Type} [DecidableEq K]{knd:KeyKind prog w K}{h:Heap}{a:Addr}{g:List (K×Value)}(x:h.DictOf knd a g):∃ o,h.get? a=some o∧∀ {h':Heap},h'.get? a=some o→h'.DictOf knd a g:=by
 obtain ⟨o,es,ep,ho,r⟩:=x
 exact ⟨o,ho,fun k=>⟨o,es,ep,k,r⟩⟩
theorem qh {K:Type} [DecidableEq K]{knd:KeyKind prog w K}{h h':Heap}{a:Addr}{g:List (K×Value)}(x:h.DictOf knd a g)(k:∀ o,h.get? a=some o→h'.get? a=some o):h'.DictOf knd a g:=by
 obtain ⟨o,ho,f⟩:=fS x
 exact f (k o ho)
noncomputable def yu (ρ:Rho)(h:Heap)(p:Addr×Addr)(o:SO):Prop:=(∀ b∈jW p o,∃ x,h.get? b=some x)∧∀ {h':Heap},(∀ b x,b∈jW p o→h.get? b=some x→h'.get? b=some x)→OkO ρ h' p o
theorem cm {ρ:Rho}{h:Heap}{p:Addr×Addr}{o:SO}{x:Obj}(e:jW p o=[p.1])(hx:h.get? p.1=some x)(f:∀ {h':Heap},h'.get? p.1=some x→OkO ρ h' p o):yu ρ h p o:=by
 unfold yu
 rw [e]
 exact ⟨fun b hb=>⟨x,List.mem_singleton.mp hb▸hx⟩,fun k=>f (k _ _ (.head _) hx)⟩
theorem OkO.kept {ρ:Rho}{h:Heap}{p:Addr×Addr}{o:SO}(O:OkO ρ h p o):yu ρ h p o:=by
 induction o with
 | inst C fs=>
  obtain ⟨a,es,ep,b,r⟩:=O
  exact ⟨fun x hx=>(List.mem_cons.mp hx).elim (fun e=>⟨_,e▸a⟩) fun hx=>⟨_,List.mem_singleton.mp hx▸b⟩,fun k=>⟨k _ _ (.head _) a,es,ep,k _ _ (.tail _ (.head _)) b,r⟩⟩
 | list xs=>obtain ⟨vs,n,a,b⟩:=O; exact cm rfl a fun a=>⟨vs,n,a,b⟩
 | slist xs=>obtain ⟨vs,n,a,b⟩:=O; exact cm rfl a fun a=>⟨vs,n,a,b⟩
 | tup xs=>obtain ⟨vs,n,a,b⟩:=O; exact cm rfl a fun a=>⟨vs,n,a,b⟩
 | ilist xs=>obtain ⟨vs,n,a,b⟩:=O; exact cm rfl a fun a=>⟨vs,n,a,b⟩
 | sdict es=>obtain ⟨g,a,b⟩:=O; obtain ⟨o,ho,f⟩:=fS a; exact cm rfl ho fun k=>⟨g,f k,b⟩
 | idict f n=>obtain ⟨ne,g,a,b⟩:=O; obtain ⟨o,ho,f⟩:=fS a; exact cm rfl ho fun k=>⟨ne,g,f k,b⟩
 | mem f n=>obtain ⟨ne,g,a,b⟩:=O; obtain ⟨o,ho,f⟩:=fS a; exact cm rfl ho fun k=>⟨ne,g,f k,b⟩
 | rng a b=>obtain ⟨t,u,v,x⟩:=O; exact cm rfl x fun x=>⟨t,u,v,x⟩
 | edict=>obtain ⟨ne,ep,x⟩:=O; exact cm rfl x fun x=>⟨ne,ep,x⟩
 | kdict i v=>obtain ⟨ne,g,a,b⟩:=O; obtain ⟨o,ho,f⟩:=fS a; exact cm rfl ho fun k=>⟨ne,g,f k,b⟩
 | cell v=>obtain ⟨o,c,a,b⟩:=O; exact cm rfl a fun a=>⟨o,c,a,b⟩
 | opq P=>obtain ⟨o,a,b⟩:=O; exact cm rfl a fun a=>⟨o,a,b⟩
 | ro o ih=>exact ih O
theorem OkO.keep {ρ:Rho}{h h':Heap}{p:Addr×Addr}{o:SO}(O:OkO ρ h p o)(k:∀ b x,b∈jW p o→h.get? b=some x→h'.get? b=some x):OkO ρ h' p o:=O.kept.2 k
theorem OkO.alive {ρ:Rho}{h:Heap}{p:Addr×Addr}{o:SO}(O:OkO ρ h p o):∀ b∈jW p o,∃ x,h.get? b=some x:=O.kept.1
theorem jE {p:Addr×Addr}{o:SO}{b:Addr}(h:b∈aN p o):b∈jW p o:=by
 cases o<;>first | exact h | exact (List.not_mem_nil h).elim
noncomputable abbrev Fz:=Addr→Option Obj
noncomputable def Fz.le (F:Fz)(h:Heap):Prop:=∀ a o,F a=some o→h.get? a=some o
structure Wd (K:Frag)(h:Heap):Prop where
 inK:K.In h
 g:∃ mg,h.Ns mainGlobals mg∧∀ x r,nsIn K mainGlobals x=some r→mg x=r
 b:∃ mb,h.Ns builtinsNs mb∧∀ x:Str,x≠"__name__"→mb x=bootBuiltins x
 lim:h.NoLimit
noncomputable def ae (ρ:Rho):Hp→List Addr
 | []=>[]
 | e::r=>(match ρ[e.1]? with | some p=>aN p e.2 | none=>[])++ae ρ r
structure Rep (F:Fz)(ρ:Rho)(σ:Hp)(h:Heap):Prop where
 le:F.le h
 wd:∀ h',F.le h'→Wd K h'
 ok:∀ e∈σ,∃ p,ρ[e.1]?=some p∧OkO ρ h p e.2
 ro:∀ e∈σ,∀ o,e.2=.ro o→∀ p,ρ[e.1]?=some p→∀ h',F.le h'→OkO ρ h' p o
 nodup:(ae ρ σ).Nodup
 free:∀ a∈ae ρ σ,F a=none
theorem aw {ρ:Rho}{σ:Hp}{a:Addr}:a∈ae ρ σ↔∃ e∈σ,∃ p,ρ[e.1]?=some p∧a∈aN p e.2:=by
 induction σ with
 | nil=>exact ⟨fun h=>(List.not_mem_nil h).elim,fun ⟨_,h,_⟩=>(List.not_mem_nil h).elim⟩
 | cons e r ih=>
  unfold ae
  rw [List.mem_append,ih]
  have one:(a∈match ρ[e.1]? with | some p=>aN p e.2 | none=>[])↔∃ p,ρ[e.1]?=some p∧a∈aN p e.2:=by
   cases ρ[e.1]? with
   | none=>exact ⟨fun h=>(List.not_mem_nil h).elim,fun h=>h.elim fun _ h=>nos h.1⟩
   | some p=>exact ⟨fun h=>⟨p,rfl,h⟩,fun h=>h.elim fun _ h=>Option.some.inj h.1▸h.2⟩
  exact ⟨fun h=>h.elim (fun h=>⟨e,.head _,one.mp h⟩) fun h=>h.elim fun x h=>⟨x,.tail _ h.1,h.2⟩,fun h=>h.elim fun x h=>(List.mem_cons.mp h.1).elim (fun z=>.inl (one.mpr (z▸h.2))) fun hx=>.inr ⟨x,hx,h.2⟩⟩
theorem aL {k:Nat}{σ:Hp}{o:SO}(h:aM k σ=some o):(k,o)∈σ:=by
 induction σ with
 | nil=>exact nos h
 | cons p r ih=>
  unfold aM at h
  cases q:Nat.beq p.1 k with
  | true=>rw [q] at h; rw [←Nat.eq_of_beq_eq_true q,←Option.some.inj h]; exact .head _
  | false=>rw [q] at h; exact .tail _ (ih h)
structure Ext (X:List Addr)(F:Fz)(ρ:Rho)(σ:Hp)(h:Heap)(F':Fz)(ρ':Rho)(σ':Hp)(h':Heap):Prop where
 pre:∃ τ,ρ'=ρ++τ
 keep:∀ b o,h.get? b=some o→b∉ae ρ σ→b∉X→h'.get? b=some o
 new:∀ a∈ae ρ' σ',a∈ae ρ σ∨h.get? a=none
 fz:∀ a o,F a=some o→F' a=some o
 fznew:∀ a o,F' a=some o→F a=some o∨h.get? a=none
 live:∀ b o,h.get? b=some o→∃ o',h'.get? b=some o'
theorem Ext.refl {X:List Addr}{F:Fz}{ρ:Rho}{σ:Hp}{h:Heap}:Ext X F ρ σ h F ρ σ h:=⟨⟨[],by simp⟩,fun _ _ e _ _=>e,fun _ h=>.inl h,fun _ _ e=>e,fun _ _ e=>.inl e,fun _ o e=>⟨o,e⟩⟩
theorem Ext.trans {X:List Addr}{F F' F'':Fz}{ρ ρ' ρ'':Rho}{σ σ' σ'':Hp}{h h' h'':Heap}(x:Ext X F ρ σ h F' ρ' σ' h')(y:Ext X F' ρ' σ' h' F'' ρ'' σ'' h''):Ext X F ρ σ h F'' ρ'' σ'' h'':=by
 refine ⟨?_,?_,?_,fun a o e=>y.fz a o (x.fz a o e),?_,fun b o e=>let ⟨o',e'⟩:=x.live b o e; y.live b o' e'⟩
 ·obtain ⟨τ,rfl⟩:=x.pre; obtain ⟨τ',rfl⟩:=y.pre; exact ⟨τ++τ',by simp⟩
 ·intro b o e nb nx
  refine y.keep b o (x.keep b o e nb nx) (fun q=>?_) nx
  rcases x.new b q with z | z
  ·exact nb z
  ·rw [z] at e; cases e
 ·intro a ha
  rcases y.new a ha with z | z
  ·exact x.new a z
  ·right
   cases e:h.get? a with
   | none=>rfl
   | some o=>obtain ⟨o',e'⟩:=x.live a o e; rw [e'] at z; cases z
 ·intro a o e
  rcases y.fznew a o e with z | z
  ·exact x.fznew a o z
  ·right
   cases e':h.get? a with
   | none=>rfl
   | some o'=>
    obtain ⟨o'',e''⟩:=x.live a o' e'
    rw [e''] at z; cases z
theorem Ext.weaken {X Y:List Addr}{F F':Fz}{ρ ρ':Rho}{σ σ':Hp}{h h':Heap}(x:Ext X F ρ σ h F' ρ' σ' h')(s:∀ a∈X,a∈Y):Ext Y F ρ σ h F' ρ' σ' h':=
 ⟨x.pre,fun b o e nb ny=>x.keep b o e nb fun q=>ny (s b q),x.new,x.fz,x.fznew,x.live⟩
theorem Ext.drop {X Y:List Addr}{F F':Fz}{ρ ρ':Rho}{σ σ':Hp}{h h':Heap}(x:Ext X F ρ σ h F' ρ' σ' h')(s:∀ a∈X,a∈Y∨h.get? a=none):Ext Y F ρ σ h F' ρ' σ' h':=
 ⟨x.pre,fun b o e nb ny=>x.keep b o e nb fun q=>(s b q).elim ny fun z=>(by rw [z] at e; cases e),x.new,x.fz,x.fznew,x.live⟩
variable {F:Fz}{ρ:Rho}{σ:Hp}{h:Heap}
theorem Rep.world (R:Rep F ρ σ h):Wd K h:=R.wd _ R.le
theorem Rep.get (R:Rep F ρ σ h){k:Nat}{o:SO}(e:aM k σ=some o):∃ p,ρ[k]?=some p∧OkO ρ h p o:=R.ok _ (aL e)
theorem Rep.lt (R:Rep F ρ σ h){a:Addr}(ha:a∈ae ρ σ):∃ x,h.get? a=some x:=by
 obtain ⟨e,he,p,hp,q⟩:=aw.mp ha
 obtain ⟨p',hp',O⟩:=R.ok e he
 rw [hp] at hp'; cases hp'
 exact O.alive _ (jE q)
theorem bU {ρ τ:Rho}{σ:Hp}(H:∀ e∈σ,∃ p,ρ[e.1]?=some p):ae (ρ++τ) σ=ae ρ σ:=by
 induction σ with
 | nil=>rfl
 | cons e r ih=>
  unfold ae
  obtain ⟨p,hp⟩:=H e (.head _)
  rw [ih fun x hx=>H x (.tail _ hx),bx hp,hp]
theorem Rep.names (R:Rep F ρ σ h):∀ e∈σ,∃ p,ρ[e.1]?=some p:=fun e he=>let ⟨p,hp,_⟩:=R.ok e he; ⟨p,hp⟩
theorem Rep.grow (R:Rep F ρ σ h){h':Heap}(k:∀ b o,h.get? b=some o→h'.get? b=some o):Rep F ρ σ h'∧Ext [] F ρ σ h F ρ σ h':=
 ⟨⟨fun a o e=>k a o (R.le a o e),R.wd,fun e he=>let ⟨p,hp,O⟩:=R.ok e he; ⟨p,hp,O.keep fun b x _=>k b x⟩,R.ro,R.nodup,R.free⟩,
  ⟨⟨[],by simp⟩,fun b o e _ _=>k b o e,fun _ h=>.inl h,fun _ _ e=>e,fun _ _ e=>.inl e,fun b o e=>⟨o,k b o e⟩⟩⟩
theorem Rep.pad (R:Rep F ρ σ h)(τ:Rho):Rep F (ρ++τ) σ h:=by
 refine ⟨R.le,R.wd,fun e he=>let ⟨p,hp,O⟩:=R.ok e he; ⟨p,bx hp,O.mono⟩,?_,?_,?_⟩
 ·intro e he o eo p hp h1 hh
  obtain ⟨q,hq⟩:=R.names e he
  have z:=R.ro e he o eo q hq h1 hh
  rw [bx hq] at hp
  cases hp
  exact z.mono
 ·rw [bU R.names]; exact R.nodup
 ·rw [bU R.names]; exact R.free
theorem Rep.add (R:Rep F ρ σ h){h':Heap}{p:Addr×Addr}{o:SO}(k:∀ b x,h.get? b=some x→h'.get? b=some x)(hn:∀ b∈aN p o,h.get? b=none)(hd:(aN p o).Nodup)(hr:∀ x,o≠.ro x)
  (O:OkO (ρ++[p]) h' p o):Rep F (ρ++[p]) ((ρ.length,o)::σ) h'∧Ext [] F ρ σ h F (ρ++[p]) ((ρ.length,o)::σ) h':=by
 have R':=(R.grow k).1.pad [p]
 have hp:(ρ++[p])[ρ.length]?=some p:=by simp
 have hf:ae (ρ++[p]) ((ρ.length,o)::σ)=aN p o++ae ρ σ:=by
  show (match (ρ++[p])[ρ.length]? with | some p=>aN p o | none=>[])++ae (ρ++[p]) σ=_
  rw [hp,bU R.names]
 refine ⟨⟨R'.le,R.wd,?_,?_,?_,?_⟩,⟨⟨[p],rfl⟩,fun b x e _ _=>k b x e,?_,fun _ _ e=>e,fun _ _ e=>.inl e,fun b x e=>⟨x,k b x e⟩⟩⟩
 ·intro e he
  cases he with
  | head=>exact ⟨p,hp,O⟩
  | tail _ he=>exact R'.ok e he
 ·intro e he
  cases he with
  | head=>intro o' eo; exact absurd eo (hr o')
  | tail _ he=>exact R'.ro e he
 ·rw [hf]
  refine List.nodup_append.mpr ⟨hd,R.nodup,fun a ha b hb e=>?_⟩
  subst e
  obtain ⟨x,hx⟩:=R.lt hb
  rw [hn _ ha] at hx; cases hx
 ·intro a ha
  rw [hf] at ha
  rcases List.mem_append.mp ha with q | q
  ·cases e:F a with
   | none=>rfl
   | some x=>have:=R.le _ _ e; rw [hn _ q] at this; cases this
  ·exact R.free a q
 ·intro a ha
  rw [hf] at ha
  rcases List.mem_append.mp ha with q | q
  ·exact .inr (hn _ q)
  ·exact .inl q
theorem mt {k:Nat}{o o':SO}(hs:∀ p,aN p o'=aN p o){σ:Hp}(h:aM k σ=some o):ae ρ (dp k o' σ)=ae ρ σ:=by
 induction σ with
 | nil=>exact nos h
 | cons e r ih=>
  unfold aM at h
  unfold dp
  cases q:Nat.beq e.1 k with
  | true=>
   rw [q] at h
   have ho:=Option.some.inj h
   have:=Nat.eq_of_beq_eq_true q
   subst this ho
   show (match ρ[e.1]? with | some p=>aN p o' | none=>[])++_=(match ρ[e.1]? with | some p=>aN p e.2 | none=>[])++_
   cases ρ[e.1]? with
   | none=>rfl
   | some p=>exact congrArg (·++ae ρ r) (hs p)
  | false=>
   rw [q] at h
   exact congrArg (_++·) (ih h)
theorem v8 {k:Nat}{o':SO}{e:Nat×SO}{σ:Hp}(h:e∈dp k o' σ):e=(k,o')∨e∈σ:=by
 induction σ with
 | nil=>exact .inr h
 | cons p r ih=>
  unfold dp at h
  cases q:Nat.beq p.1 k with
  | true=>rw [q] at h; exact (List.mem_cons.mp h).imp id (.tail _)
  | false=>rw [q] at h; exact (List.mem_cons.mp h).elim (fun e=>.inr (e▸.head _)) fun h=>(ih h).imp id (.tail _)
theorem jP {k:Nat}{o o':SO}{σ:Hp}(h:aM k σ=some o)(nd:(ae ρ σ).Nodup){p:Addr×Addr}(hp:ρ[k]?=some p) (e)(he:e∈dp k o' σ):e=(k,o')∨(e∈σ∧∀ pe,ρ[e.1]?=some pe→∀ b∈aN pe e.2,b∉aN p o):=by
 induction σ with
 | nil=>exact nos h
 | cons x r ih=>
  have mem:∀ {e pe b},e∈r→ρ[e.1]?=some pe→b∈aN pe e.2→b∈ae ρ r:=fun he hpe hb=>aw.mpr ⟨_,he,_,hpe,hb⟩
  unfold aM at h
  unfold dp at he
  unfold ae at nd
  obtain ⟨n1,n2,n3⟩:=List.nodup_append.mp nd
  cases q:Nat.beq x.1 k with
  | true=>
   rw [q] at h he
   rw [Nat.eq_of_beq_eq_true q,hp,Option.some.inj h] at n3
   exact (List.mem_cons.mp he).imp id fun he=>⟨.tail _ he,fun pe hpe b hb hb'=>n3 b hb' b (mem he hpe hb) rfl⟩
  | false=>
   rw [q] at h he
   refine (List.mem_cons.mp he).elim (fun z=>.inr ⟨z▸.head _,fun pe hpe b hb hb'=>?_⟩) fun he=>(ih h n2 he).imp id fun z=>⟨.tail _ z.1,z.2⟩
   rw [←z,hpe] at n3
   exact n3 b hb b (mem (aL h) hp hb') rfl
theorem Rep.put (R:Rep F ρ σ h){h':Heap}{k:Nat}{p:Addr×Addr}{o o':SO}(e:aM k σ=some o)(hp:ρ[k]?=some p)(hs:∀ p,aN p o'=aN p o)(hr:∀ x,o'≠.ro x)
  (hk:∀ b x,b∉aN p o→h.get? b=some x→h'.get? b=some x) (hl:∀ b x,h.get? b=some x→∃ y,h'.get? b=some y) (O:OkO ρ h' p o') :
  Rep F ρ (dp k o' σ) h'∧Ext [] F ρ σ h F ρ (dp k o' σ) h':=by
 have hf:=mt (ρ:=ρ) hs e
 have hmem:∀ b∈aN p o,b∈ae ρ σ:=fun b hb=>aw.mpr ⟨_,aL e,p,hp,hb⟩
 have hle:F.le h':=fun a x q=>hk a x (fun z=>by rw [R.free a (hmem a z)] at q; cases q) (R.le a x q)
 refine ⟨⟨hle,R.wd,fun x hx=>?_,fun x hx y ey py hpy hh hhle=>?_,by rw [hf]; exact R.nodup,by rw [hf]; exact R.free⟩,
  ⟨⟨[],by simp⟩,fun b x q nb _=>hk b x (fun z=>nb (hmem b z)) q,fun a ha=>.inl (by rw [hf] at ha; exact ha),fun _ _ q=>q,fun _ _ q=>.inl q,hl⟩⟩
 ·rcases jP (o':=o') e R.nodup hp x hx with rfl | ⟨hx',hno⟩
  ·exact ⟨p,hp,O⟩
  ·obtain ⟨px,hpx,Ox⟩:=R.ok x hx'
   refine ⟨px,hpx,?_⟩
   obtain ⟨kx,ox⟩:=x
   cases ox with
   | ro y=>exact R.ro _ hx' y rfl px hpx h' hle
   | _=>exact Ox.keep fun b z hb=>hk b z (hno px hpx b hb)
 ·rcases v8 hx with rfl | hx'
  ·exact absurd ey (hr y)
  ·exact R.ro x hx' y ey py hpy hh hhle
end
end
section
noncomputable abbrev gp8:List SV:=[.str "rax",.str "rcx",.str "rdx",.str "rbx",.str "rsp",.str "rbp",.str "rsi",.str "rdi"]
noncomputable abbrev gpO (n:Str)(i:Int):SO:=.inst 279 [("name",.str n),("kind",.str "gpr"),("number",.int i),("size",.int 64)]
noncomputable abbrev rgO (k:Nat):SO:=.inst 658 [("kind",.str "reg"),("register",.ref k)]
noncomputable abbrev inO (n:Str)(k:Nat):SO:=.inst 839 [("name",.str n),("operands",.ref k),("prefix",.str "")]
theorem ak {α:Type u}{a b:α}(h:a∈[b]):a=b:=List.mem_singleton.mp h
theorem aJ {α:Type u}{a b:α}{l:List α}(h:a∈b::l):a=b∨a∈l:=List.mem_cons.mp h
theorem fD {α:Type u}{a:α}{l l':List α}(h:a∈l++l'):a∈l∨a∈l':=List.mem_append.mp h
theorem bD {α:Type u}{β:Type v}{o:Option α}{f:α→Option β}{b:β}(h:o.bind f=some b):∃ a,o=some a∧f a=some b:=Option.bind_eq_some_iff.mp h
theorem dU {α:Type u}{β:Type v}{o:Option α}{f:α→β}{b:β}(h:o.map f=some b):∃ a,o=some a∧f a=b:=Option.map_eq_some_iff.mp h
theorem dw {a b:Bool}(h:(a&&b)=true):a=true∧b=true:=Bool.and_eq_true_iff.mp h
theorem cC {a b:Nat}(h:Nat.ble a b=true):a≤b:=Nat.le_of_ble_eq_true h
theorem iY {a b:Nat}(h:Nat.beq a b=true):a=b:=Nat.eq_of_beq_eq_true h
theorem dQ {α:Type u}{p:α→Bool}{l:List α}(h:l.all p=true):∀ x∈l,p x=true:=List.all_eq_true.mp h
theorem noP (P:Prop)(h:P∈([]:List Prop)):P:=(List.not_mem_nil h).elim
theorem noA {a:Addr}:a∉([]:List Addr):=List.not_mem_nil
end
section
structure St where
 σ:Hp
 nx:Nat
structure Cx where
 sc:Scope
 cells:List (Str×Nat)
 d:Nat
noncomputable abbrev Loc:=List (Str×SV)
inductive Res (α:Type) where
 | ok (a:α)
 | fork (b:Bool) (t f:Res α)
 | need (P:Prop) (r:Res α)
 | stuck (why:Nat)
noncomputable def Res.bind {α β:Type}:Res α→(α→Res β)→Res β
 | .ok a,f=>f a
 | .fork b t e,f=>.fork b (t.bind f) (e.bind f)
 | .need P r,f=>.need P (r.bind f)
 | .stuck n,_=>.stuck n
noncomputable def Res.Ok {α:Type}(P:α→Prop):Res α→Prop
 | .ok a=>P a
 | .fork b t e=>(b=true→t.Ok P)∧(b=false→e.Ok P)
 | .need N r=>N∧r.Ok P
 | .stuck _=>False
theorem Res.Ok.mono {α:Type}{P Q:α→Prop}:∀ {r:Res α},r.Ok P→(∀ a,P a→Q a)→r.Ok Q
 | .ok a,h,k=>k a h
 | .fork b t e,h,k=>⟨fun x=>(h.1 x).mono k,fun x=>(h.2 x).mono k⟩
 | .need N r,h,k=>⟨h.1,h.2.mono k⟩
 | .stuck _,h,_=>h
theorem Res.ok_bind {α β:Type}{f:α→Res β}{P:β→Prop}:∀ {r:Res α},(r.bind f).Ok P→r.Ok fun a=>(f a).Ok P
 | .ok a,h=>h
 | .fork b t e,h=>⟨fun x=>Res.ok_bind (h.1 x),fun x=>Res.ok_bind (h.2 x)⟩
 | .need N r,h=>⟨h.1,Res.ok_bind h.2⟩
 | .stuck _,h=>h
section
structure At (F:Fz)(ρ:Rho)(st:St)(s:Shared):Prop where
 rep:Rep F ρ st.σ s.heap
 len:ρ.length=st.nx
structure To (X:List Addr)(F:Fz)(ρ:Rho)(st:St)(s:Shared)(F':Fz)(ρ':Rho)(st':St)(s':Shared):Prop where
 at':At F' ρ' st' s'
 ext:Ext X F ρ st.σ s.heap F' ρ' st'.σ s'.heap
 sh:s'={ s with heap:=s'.heap,toks:=s'.toks }
end
structure gu (ρ:Rho)(cx:Cx)(env:Env):Prop where
 sc:env.scope=cx.sc
 gl:env.globals=mainGlobals
 bu:env.builtins=builtinsNs
 kd:cx.sc.kind=.function
 cel:∀ x k,af x cx.cells=some k→∃ p,ρ[k]?=some p∧env.cells.lookup x=some p.1
noncomputable def jM (ρ:Rho)(m:Loc)(m':Str→Option Value):Prop:=∀ x sv,af x m=some sv→∃ v,m' x=some v∧sv.Is ρ v
structure Fm (F:Fz)(ρ:Rho)(σ:Hp)(cx:Cx)(env:Env)(m:Loc)(h:Heap):Prop where
 eok:gu ρ cx env
 ns:∃ m',h.Ns env.locals m'∧jM ρ m m'
 out:env.locals∉ae ρ σ
 free:F env.locals=none
structure aj (d:Nat)(A:Around):Prop where
 dep:A.depth+8*d<recursionLimit
 uni:A.units+40*d+80<cLine
 hand:A.handled=none
section
variable {F F' F'':Fz}{ρ ρ' ρ'':Rho}{st st' st'':St}{s s' s'':Shared}{X:List Addr}
theorem To.refl (a:At F ρ st s):To X F ρ st s F ρ st s:=⟨a,.refl,rfl⟩
theorem To.trans (x:To X F ρ st s F' ρ' st' s')(y:To X F' ρ' st' s' F'' ρ'' st'' s''):To X F ρ st s F'' ρ'' st'' s'':=
 ⟨y.at',x.ext.trans y.ext,by rw [y.sh,x.sh]⟩
theorem To.weaken {Y:List Addr}(x:To X F ρ st s F' ρ' st' s')(h:∀ a∈X,a∈Y):To Y F ρ st s F' ρ' st' s':=⟨x.at',x.ext.weaken h,x.sh⟩
theorem To.nil (x:To [] F ρ st s F' ρ' st' s'):To X F ρ st s F' ρ' st' s':=x.weaken fun _ h=>nomatch h
theorem SV.Is.ext {σ σ':Hp}{h h':Heap}{sv:SV}{v:Value}(i:sv.Is ρ v)(x:Ext X F ρ σ h F' ρ' σ' h'):sv.Is ρ' v:=by
 obtain ⟨τ,rfl⟩:=x.pre; exact i.mono
theorem gu.mono {cx:Cx}{env:Env}{τ:Rho}(h:gu ρ cx env):gu (ρ++τ) cx env:=
 ⟨h.sc,h.gl,h.bu,h.kd,fun x n y=>let ⟨p,hp,hl⟩:=h.cel x n y; ⟨p,bx hp,hl⟩⟩
theorem jM.mono {m:Loc}{m':Str→Option Value}{τ:Rho}(h:jM ρ m m'):jM (ρ++τ) m m':=fun x sv e=>let ⟨v,a,b⟩:=h x sv e; ⟨v,a,b.mono⟩
theorem Fm.ext {σ σ':Hp}{h h':Heap}{cx:Cx}{env:Env}{m:Loc}(f:Fm F ρ σ cx env m h)(x:Ext X F ρ σ h F' ρ' σ' h')(hX:env.locals∉X):Fm F' ρ' σ' cx env m h':=by
 obtain ⟨m',hns,hl⟩:=f.ns
 have al:∃ o,h.get? env.locals=some o:=let ⟨o,_,_,ho,_⟩:=hns; ⟨o,ho⟩
 obtain ⟨o,ho⟩:=al
 obtain ⟨τ,rfl⟩:=x.pre
 refine ⟨f.eok.mono,⟨m',?_,hl.mono⟩,fun q=>?_,?_⟩
 ·obtain ⟨o',es,ep,ho',r⟩:=hns
  exact ⟨o',es,ep,x.keep _ _ ho' f.out hX,r⟩
 ·rcases x.new _ q with z | z
  ·exact f.out z
  ·rw [z] at ho; cases ho
 ·cases e:F' env.locals with
  | none=>rfl
  | some y=>
   rcases x.fznew _ _ e with z | z
   ·rw [f.free] at z; cases z
   ·rw [z] at ho; cases ho
theorem Fm.to {cx:Cx}{env:Env}{m:Loc}(f:Fm F ρ st.σ cx env m s.heap)(x:To X F ρ st s F' ρ' st' s')(hX:env.locals∉X):Fm F' ρ' st'.σ cx env m s'.heap:=f.ext x.ext hX
theorem Fm.go {cx:Cx}{env:Env}{m:Loc}(f:Fm F ρ st.σ cx env m s.heap)(x:To [] F ρ st s F' ρ' st' s'):Fm F' ρ' st'.σ cx env m s'.heap:=f.ext x.ext List.not_mem_nil
theorem At.tok (a:At F ρ st s)(t:Nat):At F ρ st { s with toks:=t }:=⟨a.rep,a.len⟩
theorem To.tok (a:At F ρ st s)(t:Nat):To X F ρ st s F ρ st { s with toks:=t }:=⟨a.tok t,.refl,rfl⟩
theorem aj.le {d:Nat}{A:Around}(r:aj (d+1) A):aj d A:=⟨by have:=r.dep; omega,by have:=r.uni; omega,r.hand⟩
theorem aj.deeper {d:Nat}{A:Around}{env:Env}(r:aj (d+1) A):aj d (A.deeper env):=⟨by have:=r.dep; show A.depth+1+8*d<_; omega,by have:=r.uni; show A.units+3+40*d+80<_; omega,r.hand⟩
theorem aj.under {d:Nat}{A:Around}{C:Addr}{vals:List Value}{kw:List (Str×Value)}(r:aj (d+1) A):aj d (A.under (.builtin "type.__call__" ⟨.ref C::vals,kw⟩)):=
 ⟨by have:=r.dep; show A.depth+1+8*d<_; omega,by have:=r.uni; show A.units+1+40*d+80<_; omega,r.hand⟩
theorem aj.depth {d:Nat}{A:Around}(r:aj d A):A.depth<recursionLimit:=by have:=r.dep; omega
theorem aj.units {d:Nat}{A:Around}(r:aj d A):A.units<cLine:=by have:=r.uni; omega
theorem aj.units64 {d:Nat}{A:Around}(r:aj d A):A.units+64<cLine:=by have:=r.uni; omega
noncomputable def PE (X:List Addr)(F:Fz)(ρ:Rho)(st:St)(s:Shared)(Q:Value→Shared→Prop)(r:SV×St):Prop:=
 ∀ F' ρ' s' v,To X F ρ st s F' ρ' r.2 s'→r.1.Is ρ' v→Q v s'
noncomputable def PEs (X:List Addr)(F:Fz)(ρ:Rho)(st:St)(s:Shared)(Q:List Value→Shared→Prop)(r:List SV×St):Prop:=
 ∀ F' ρ' s' vs,To X F ρ st s F' ρ' r.2 s'→ag (SV.Is ρ') r.1 vs→Q vs s'
noncomputable def PT (X:List Addr)(F:Fz)(ρ:Rho)(st:St)(s:Shared)(Q:Bool→Shared→Prop)(r:Bool×St):Prop:=
 ∀ F' ρ' s',To X F ρ st s F' ρ' r.2 s'→Q r.1 s'
theorem PE.from {Q:Value→Shared→Prop}{r:SV×St}(h:PE X F ρ st s Q r)(t:To X F ρ st s F' ρ' st' s'):PE X F' ρ' st' s' Q r:=
 fun F'' ρ'' s'' v t' i=>h F'' ρ'' s'' v (t.trans t') i
theorem PEs.from {Q:List Value→Shared→Prop}{r:List SV×St}(h:PEs X F ρ st s Q r)(t:To X F ρ st s F' ρ' st' s'):PEs X F' ρ' st' s' Q r:=
 fun F'' ρ'' s'' v t' i=>h F'' ρ'' s'' v (t.trans t') i
theorem PT.from {Q:Bool→Shared→Prop}{r:Bool×St}(h:PT X F ρ st s Q r)(t:To X F ρ st s F' ρ' st' s'):PT X F' ρ' st' s' Q r:=
 fun F'' ρ'' s'' t'=>h F'' ρ'' s'' (t.trans t')
theorem ag.ext {σ σ':Hp}{h h':Heap}{svs:List SV}{vs:List Value}(i:ag (SV.Is ρ) svs vs)(x:Ext X F ρ σ h F' ρ' σ' h'):ag (SV.Is ρ') svs vs:=i.imp fun _ _ z=>z.ext x
end
noncomputable abbrev Sp {α β:Type}(A:Around)(s:Shared)(PP:(β→Shared→Prop)→α→Prop)(c:Sem β)(r:Res α):Prop:=∀ ⦃Q E⦄,r.Ok (PP Q)→wpAny (model prog w) A c Q E s
noncomputable def opt {α β:Type}(x:Option α)(f:α→Res β):Res β:=match x with
 | some a=>f a
 | none=>.stuck 0
noncomputable def chk {β:Type}(b:Bool)(r:Res β):Res β:=match b with
 | true=>r
 | false=>.stuck 0
noncomputable def alt {α β:Type}(x:Option α)(f:α→Res β)(r:Res β):Res β:=match x with
 | some a=>f a
 | none=>r
noncomputable def ask {β:Type}(b:Bool)(P:Prop)(r:Res β):Res β:=match b with
 | true=>r
 | false=>.need P r
theorem dg {α β:Type}{x:Option α}{f:α→Res β}{P:β→Prop}{G:Prop}(h:(opt x f).Ok P)(k:∀ a,x=some a→(f a).Ok P→G):G:=match x,h,k with
 | some a,h,k=>k a rfl h
theorem gi {β:Type}{b:Bool}{r:Res β}{P:β→Prop}{G:Prop}(h:(chk b r).Ok P)(k:b=true→r.Ok P→G):G:=match b,h,k with
 | true,h,k=>k rfl h
section
variable {α β γ:Type}{A:Around}{s:Shared}{PP:(β→Shared→Prop)→α→Prop}{c:Sem β}{r:Res α}{b:Bool}{P:Prop}{x:Option γ}{f:γ→Res α}
theorem Sp.opt (h:∀ a,x=some a→Sp A s PP c (f a)):Sp A s PP c (opt x f):=fun _ _ z=>dg z fun a e z=>h a e z
theorem Sp.alt {r:Res α}(h:∀ a,x=some a→Sp A s PP c (f a))(h':Sp A s PP c r):Sp A s PP c (alt x f r):=match x,h with
 | some a,h=>h a rfl
 | none,_=>h'
theorem Sp.chk (h:b=true→Sp A s PP c r):Sp A s PP c (chk b r):=fun _ _ z=>gi z fun e z=>h e z
theorem Sp.need (h:P→Sp A s PP c r):Sp A s PP c (.need P r):=fun _ _ z=>h z.1 z.2
theorem Sp.ask (e:b=true→P)(h:P→Sp A s PP c r):Sp A s PP c (ask b P r):=match b,e with
 | true,e=>h (e rfl)
 | false,_=>.need h
theorem Sp.stuck {n:Nat}:Sp A s PP c (.stuck n):=fun _ _ z=>z.elim
end
theorem Sp.bind {α β γ:Type}{A:Around}{s:Shared}{PP:(β→Shared→Prop)→α→Prop}{c:Sem β}{r:Res α}{f:α→Res γ}{P:γ→Prop}{Q:β→Shared→Prop}{E:Value→Shared→Prop}(sp:Sp A s PP c r)(h:(r.bind f).Ok P)(k:∀ a,(f a).Ok P→PP Q a):wpAny (model prog w) A c Q E s:=sp ((Res.ok_bind h).mono k)
inductive Fl where
 | next
 | brk
 | cont
 | ret (v:SV)
noncomputable def Fl.Is (ρ:Rho):Fl→Flow→Prop
 | .next,f=>f=.next
 | .brk,f=>f=.brk
 | .cont,f=>f=.cont
 | .ret sv,f=>∃ v,f=.ret v∧sv.Is ρ v
structure Ev where
 e:Cx→Loc→Expr→St→Res (SV×St)
 es:Cx→Loc→List Expr→St→Res (List SV×St)
 t:Cx→Loc→Expr→St→Res (Bool×St)
 ts:Cx→Loc→BoolOp→List Expr→St→Res (Bool×St)
 s:Cx→Loc→Stmt→St→Res (Fl×Loc×St)
 ss:Cx→Loc→List Stmt→St→Res (Fl×Loc×St)
 c:Nat→SV→List SV→St→Res (SV×St)
 i:Nat→Addr→List SV→St→Res (SV×St)
section
noncomputable def PS (X:List Addr)(F:Fz)(ρ:Rho)(st:St)(s:Shared)(cx:Cx)(env:Env)(Q:Flow→Shared→Prop)(r:Fl×Loc×St):Prop:=
 ∀ F' ρ' s' f,To X F ρ st s F' ρ' r.2.2 s'→Fm F' ρ' r.2.2.σ cx env r.2.1 s'.heap→r.1.Is ρ' f→Q f s'
noncomputable abbrev BL (Q:Value→Shared→Prop)(E:Value→Shared→Prop):Result→Shared→Prop:=fun r s'=>match r with
 | .ok (.ret v)=>Q v s'
 | .ok _=>False
 | .error e=>E e s'
noncomputable abbrev SpC (F:Fz)(ρ:Rho)(st:St)(A:Around)(s:Shared)(a:Addr)(vs:List Value)(r:Res (SV×St)):Prop:=∀ ⦃Q E⦄,r.Ok (PE [] F ρ st s Q)→codeAny (model prog w) A (.call (.ref a) ⟨vs,[]⟩) (BL Q E) s
structure aG (v:Ev):Prop where
 e:∀ {cx m e st A s F ρ env},aj cx.d A→At F ρ st s→Fm F ρ st.σ cx env m s.heap→Sp A s (PE [] F ρ st s) (eval e env) (v.e cx m e st)
 es:∀ {cx m es st A s F ρ env pos},aj cx.d A→At F ρ st s→Fm F ρ st.σ cx env m s.heap→Sp A s (PEs [] F ρ st s) (spliced (backTo pos (starEach es env))) (v.es cx m es st)
 t:∀ {cx m e st A s F ρ env},aj cx.d A→At F ρ st s→Fm F ρ st.σ cx env m s.heap→Sp A s (PT [] F ρ st s) (isTrue e env (eval e env)) (v.t cx m e st)
 ts:∀ {cx m op es st A s F ρ env},aj cx.d A→At F ρ st s→Fm F ρ st.σ cx env m s.heap→Sp A s (PT [] F ρ st s) (allTrue op es env) (v.ts cx m op es st)
 s:∀ {cx m stm st A s F ρ env},aj cx.d A→At F ρ st s→Fm F ρ st.σ cx env m s.heap→Sp A s (PS [env.locals] F ρ st s cx env) (exec stm env) (v.s cx m stm st)
 ss:∀ {cx m sts st A s F ρ env},aj cx.d A→At F ρ st s→Fm F ρ st.σ cx env m s.heap→Sp A s (PS [env.locals] F ρ st s cx env) (execs sts env) (v.ss cx m sts st)
 c:∀ {d f args st A s F ρ fv vs},aj d A→At F ρ st s→f.Is ρ fv→ag (SV.Is ρ) args vs→Sp A s (PE [] F ρ st s) (call fv vs) (v.c d f args st)
 i:∀ {d a args st A s F ρ vs},aj d A→At F ρ st s→ag (SV.Is ρ) args vs→SpC F ρ st A s a vs (v.i d a args st)
section
variable {F F':Fz}{ρ ρ':Rho}{st st':St}{s s':Shared}{X:List Addr}{cx:Cx}{env:Env}
theorem Res.Ok.from {Q:Value→Shared→Prop}{r:Res (SV×St)}(h:r.Ok (PE X F ρ st s Q))(t:To X F ρ st s F' ρ' st' s'):r.Ok (PE X F' ρ' st' s' Q):=h.mono fun _ z=>z.from t
theorem Res.Ok.fromT {Q:Bool→Shared→Prop}{r:Res (Bool×St)}(h:r.Ok (PT X F ρ st s Q))(t:To X F ρ st s F' ρ' st' s'):r.Ok (PT X F' ρ' st' s' Q):=h.mono fun _ z=>z.from t
theorem Res.Ok.fromS {Q:Flow→Shared→Prop}{r:Res (Fl×Loc×St)}(h:r.Ok (PS X F ρ st s cx env Q))(t:To X F ρ st s F' ρ' st' s'):r.Ok (PS X F' ρ' st' s' cx env Q):=h.mono fun _ z _ _ _ _ t'=>z _ _ _ _ (t.trans t')
end
theorem Sp.same {X:List Addr}{F:Fz}{ρ:Rho}{st:St}{A:Around}{s:Shared}{c:Sem Value}{sv:SV}{v:Value}(at':At F ρ st s)(i:sv.Is ρ v)(h:∀ {Q E},Q v s→wpAny (model prog w) A c Q E s):Sp A s (PE X F ρ st s) c (.ok (sv,st)):=fun _ _ z=>h (z _ _ _ _ (.refl at') i)
end
end
variable {F F' F₀ F'' F₁:Fz}{ρ ρ' ρ₀ τ τ':Rho}{st st' st₀ st₁:St}{A:Around}{s s' s₀ s₁:Shared}{X as:List Addr}{k i n N:Nat}{E:Value→Shared→Prop}{a b C pa aa da ga ra:Addr}{v:Value}{vs L xs ys:List Int}{h:Heap}{ih:Ev}{cx:Cx}{m m':Loc}{env:Env}{pos:Pos}{t T sc far d0 d1 d2 c seed cnt so sp fa c₀ bg wd fi ke mn:Int}{σ σ' σ₁:Hp}{nm q:Str}{bs bm bmB:List Value}{hdct ab:Bool}{sn:List Str}{m0:M}{q0 q1 q2 q3:Addr×Addr}
section
noncomputable def cE:SV→Option (Bool×Int)
 | .int i=>some (true,i)
 | .uint i=>some (false,i)
 | _=>none
noncomputable def mkI (k:Bool)(i:Int):SV:=match k with
 | true=>.int i
 | false=>.uint i
noncomputable def mkB (k:Bool)(b:Bool):SV:=match k with
 | true=>.bool b
 | false=>.ubool b
noncomputable def kH (k:Bool)(i:Int):Bool:=k&&Nat.blt i.natAbs 18446744073709551616
noncomputable def CH:Int→Option Nat
 | .ofNat n=>some n
 | _=>none
noncomputable def Cf:Int→Option Nat
 | .ofNat (n+1)=>some n
 | _=>none
noncomputable def yj (op:Operator)(ka:Bool)(a:Int)(kb:Bool)(b:Int)(st:St):Res (SV×St):=match op with
 | .Add=>.ok (mkI (ka&&kb) (a+b),st)
 | .Sub=>.ok (mkI (ka&&kb) (a - b),st)
 | .Mult=>ask (kH ka a||kH kb b) (IntMulOk a b) (.ok (mkI (ka&&kb) (a*b),st))
 | .BitAnd=>.ok (mkI (ka&&kb) (Builtin.bitAnd a b),st)
 | .BitOr=>.ok (mkI (ka&&kb) (Builtin.bitOr a b),st)
 | .BitXor=>.ok (mkI (ka&&kb) (Builtin.bitXor a b),st)
 | .RShift=>chk kb (opt (CH b) fun n=>.ok (mkI ka (a.fdiv (2 ^ n)),st))
 | .LShift=>chk kb (opt (CH b) fun n=>chk (Nat.ble n 1000000) (ask (kH ka a) (a.natAbs<2 ^ 64) (.ok (mkI ka (a*2 ^ n),st))))
 | .FloorDiv=>chk kb (opt (Cf b) fun n=>ask (ka&&!Builtin.divisionGoesByPylong a (.ofNat (n+1))) (Builtin.divisionGoesByPylong a (.ofNat (n+1))=false) (.ok (mkI ka (a.fdiv (.ofNat (n+1))),st)))
 | .Mod=>match kb with
  | true=>opt (Cf b) fun n=>.ok (mkI ka (a.fmod (.ofNat (n+1))),st)
  | false=>.need (b≠0) (.ok (.uint (a.fmod b),st))
 | _=>.stuck 110
theorem pZ {ρ:Rho}{sv:SV}{v:Value}{q:Bool×Int}(h:cE sv=some q)(x:sv.Is ρ v):∃ t,v=.int q.2 t:=by
 cases sv<;>first | exact nos h | exact Option.some.inj h▸x
@[elab_as_elim] theorem gy {ρ:Rho}{sv:SV}{v:Value}{q:Bool×Int}{G:Value→Prop}(h:cE sv=some q)(x:sv.Is ρ v)(k:∀ t,G (.int q.2 t)):G v:=
 (pZ h x).elim fun t e=>e▸k t
theorem CJ {ρ:Rho}{k:Bool}{i:Int}{t:Tok}:(mkI k i).Is ρ (.int i t):=by cases k<;>exact ⟨t,rfl⟩
theorem CK {ρ:Rho}{k:Bool}{b:Bool}:(mkB k b).Is ρ (.bool b):=by cases k<;>rfl
theorem kE {k:Bool}{a:Int}(h:kH k a=true):a.natAbs<2 ^ 64:=cC (dw h).2
theorem yr {a:Int}{n:Nat}(h:a.natAbs<n):-(n:Int)<a∧a<n:=
 ⟨Int.neg_lt_of_neg_lt (Int.lt_of_le_of_lt Int.le_natAbs (by rw [Int.natAbs_neg]; exact Int.ofNat_lt.mpr h)),Int.lt_of_le_of_lt Int.le_natAbs (Int.ofNat_lt.mpr h)⟩
theorem kG {k:Bool}{a:Int}(h:kH k a=true):Builtin.Int.intBits a≤64:=PySem.intBits_le_64 (yr (kE h)).1 (yr (kE h)).2
theorem wG {ka kb:Bool}{a b:Int}(h:(kH ka a||kH kb b)=true):IntMulOk a b:=
 (Bool.or_eq_true_iff.mp h).elim (fun q=>PySem.IntMulOk.of_left (kG q)) fun q=>PySem.IntMulOk.of_right (kG q)
@[elab_as_elim] theorem tn {b:Int}{n:Nat}{G:Int→Prop}(h:CH b=some n)(k:G (Int.ofNat n)):G b:=by
 cases b<;>cases h; exact k
@[elab_as_elim] theorem td {b:Int}{n:Nat}{G:Int→Prop}(h:Cf b=some n)(k:G (Int.ofNat (n+1))):G b:=by
 cases b with
 | ofNat m=>cases m<;>cases h; exact k
 | negSucc _=>cases h
section
variable {c:Sem Value}{k:Bool}{i:Int}
theorem Sp.int (at':At F ρ st s)(h:∀ {Q E},Q (.int i s.toks) { s with toks:=s.toks+1 }→wpAny (model prog w) A c Q E s):Sp A s (PE X F ρ st s) c (.ok (mkI k i,st)):=fun _ _ z=>h (z _ _ _ _ (To.tok at' _) CJ)
theorem oq {op:Operator}{ka kb:Bool}{a b:Int}{t u:Tok}(at':At F ρ st s):Sp A s (PE [] F ρ st s) (binaryOp op (.int a t) (.int b u)) (yj op ka a kb b st):=by
 cases op
 case Add=>exact .int at' fun h=>add_int h
 case Sub=>exact .int at' fun h=>sub_int h
 case Mult=>exact .ask wG fun hm=>.int at' fun h=>mul_int h hm
 case BitAnd=>exact .int at' fun h=>and_int h
 case BitOr=>exact .int at' fun h=>or_int h
 case BitXor=>exact .int at' fun h=>xor_int h
 case RShift=>exact .chk fun _=>.opt fun n e=>tn e (.int at' fun h=>rshift_int (Int.natCast_nonneg _) h)
 case LShift=>exact .chk fun _=>.opt fun n e=>.chk fun q=>.ask kE fun hs=>tn e (.int at' fun h=>lshift_int_small (Int.natCast_nonneg _) (Int.ofNat_le.mpr (cC q)) hs h)
 case FloorDiv=>exact .chk fun _=>.opt fun n e=>td e (.ask (fun q=>by simpa using (dw q).2) fun hd=>.int at' fun h=>floordiv_int (by intro e; cases e) h (.inl hd))
 case Mod=>
  cases kb with
  | true=>exact .opt fun n e=>td e (.int at' fun h=>mod_int' (by intro e; cases e) h)
  | false=>exact .need fun hb=>.int (k:=false) at' fun h=>mod_int' hb h
 all_goals exact .stuck
end
end
section
noncomputable def IR:SO→SO
 | .ro o=>o
 | o=>o
noncomputable def getH (k:Nat)(σ:Hp):Option SO:=(aM k σ).map IR
noncomputable def gF:SV→Option Nat
 | .ref k=>some k
 | _=>none
noncomputable def ff:SV→Option Str
 | .str x=>some x
 | _=>none
noncomputable def bf (σ:Hp)(a:SV):Option SO:=(gF a).bind fun k=>getH k σ
noncomputable def asL:Option SO→Option (List SV)
 | some (.list xs)=>some xs
 | _=>none
noncomputable def asI:Option SO→Option (List Int)
 | some (.ilist xs)=>some xs
 | _=>none
noncomputable def asK:Option SO→Option (Int×SV)
 | some (.kdict i v)=>some (i,v)
 | _=>none
noncomputable def isNone:SV→Bool
 | .none=>true
 | _=>false
noncomputable def qU:List SV→Option (List Str)
 | []=>some []
 | a::r=>(ff a).bind fun x=>(qU r).map (x::·)
noncomputable def lm:List SV→Option (List Int)
 | []=>some []
 | a::r=>(cE a).bind fun x=>(lm r).map (x.2::·)
noncomputable def ow (x:Str):List Str→Bool
 | []=>false
 | y::r=>match sEq y x with
  | true=>true
  | false=>ow x r
noncomputable def kh (σ:Hp)(a:SV):Option Nat:=(asL (bf σ a)).elim ((asI (bf σ a)).map (·.length)) fun xs=>some xs.length
noncomputable def si (a b:SV)(f:Int→Int→Bool)(st:St):Res (SV×St):=opt (cE a) fun x=>opt (cE b) fun y=>.ok (mkB (x.1&&y.1) (f x.2 y.2),st)
noncomputable def inL (b:SV)(st:St)(i:Int)(f:Bool→Bool):Res (SV×St):=opt (asL (bf st.σ b)) fun xs=>opt (lm xs) fun l=>.ok (.ubool (f (l.any (· == i))),st)
noncomputable def xR (op:CmpOp)(a b:SV)(st:St):Res (SV×St):=match op with
 | .Lt=>si a b (fun x y=>decide (x<y)) st
 | .LtE=>si a b (fun x y=>decide (x≤y)) st
 | .Gt=>si a b (fun x y=>decide (y<x)) st
 | .GtE=>si a b (fun x y=>decide (y≤x)) st
 | .Is=>chk (isNone b) (.ok (.bool (isNone a),st))
 | .IsNot=>chk (isNone b) (.ok (.bool (!isNone a),st))
 | .Eq=>alt (cE a) (fun _=>si a b (fun x y=>x == y) st) (alt (ff a) (fun x=>opt (ff b) fun y=>.ok (.bool (sEq x y),st)) (opt (kh st.σ a) fun n=>opt (kh st.σ b) fun m=>chk (!Nat.beq n m) (.ok (.bool false,st))))
 | .NotEq=>alt (cE a) (fun _=>si a b (fun x y=>x != y) st) (opt (ff a) fun x=>opt (ff b) fun y=>.ok (.bool (!sEq x y),st))
 | .In=>alt (ff a) (fun x=>opt (asL (bf st.σ b)) fun xs=>opt (qU xs) fun l=>.ok (.bool (ow x l),st)) (opt (cE a) fun q=>inL b st q.2 fun x=>x)
 | .NotIn=>opt (cE a) fun q=>alt (asK (bf st.σ b)) (fun r=>.need (r.1=q.2) (.ok (.bool false,st))) (inL b st q.2 fun x=>!x)
theorem fU (x y:Str):sEq x y=(x == y):=by
 cases h:sEq x y with
 | true=>rw [aQ] at h; subst h; simp
 | false=>rw [cn] at h; simp [h]
theorem vc (x:Str)(l:List Str):ow x l=l.any (· == x):=by
 induction l with
 | nil=>rfl
 | cons y r ih=>
  rw [ow,List.any_cons,←fU,ih]
  cases sEq y x<;>rfl
theorem dL {a:SV}{k:Nat}(h:gF a=some k):a=.ref k:=by
 cases a<;>first | exact nos h | exact congrArg SV.ref (Option.some.inj h)
theorem vD {a:SV}{x:Str}(h:ff a=some x):a=.str x:=by
 cases a<;>first | exact nos h | exact congrArg SV.str (Option.some.inj h)
theorem gU {o:Option SO}{xs:List SV}(h:asL o=some xs):o=some (.list xs):=by
 cases o with
 | none=>exact nos h
 | some o=>cases o<;>first | exact nos h | exact congrArg (fun x=>some (SO.list x)) (Option.some.inj h)
theorem jL {o:Option SO}{xs:List Int}(h:asI o=some xs):o=some (.ilist xs):=by
 cases o with
 | none=>exact nos h
 | some o=>cases o<;>first | exact nos h | exact congrArg (fun x=>some (SO.ilist x)) (Option.some.inj h)
theorem Ec {o:Option SO}{q:Int×SV}(h:asK o=some q):o=some (.kdict q.1 q.2):=by
 cases o with
 | none=>exact nos h
 | some o=>cases o<;>first | exact nos h | exact congrArg (fun x:Int×SV=>some (SO.kdict x.1 x.2)) (Option.some.inj h)
section
variable {a b:SV}{G:Value→Prop}
@[elab_as_elim] theorem j0 {x:Str}(h:ff a=some x)(i:a.Is ρ v)(k:∀ t,G (.str x t)):G v:=by
 rw [vD h] at i
 exact i.elim fun t e=>e▸k t
theorem At.getH (at':At F ρ st s){k:Nat}{o:SO}(e:getH k st.σ=some o):∃ p,ρ[k]?=some p∧OkO ρ s.heap p o:=by
 obtain ⟨o',q,rfl⟩:=dU e
 obtain ⟨p,hp,O⟩:=at'.rep.get q
 refine ⟨p,hp,?_⟩
 cases o'<;>exact O
theorem At.ref (at':At F ρ st s){k:Nat}{v:Value}{p:Addr×Addr}(i:(SV.ref k).Is ρ v)(hp:ρ[k]?=some p):v=.ref p.1:=by
 obtain ⟨q,hq,e⟩:=i
 rw [hp] at hq; cases hq; exact e
@[elab_as_elim] theorem At.objK (at':At F ρ st s){o:SO}(e:bf st.σ a=some o)(i:a.Is ρ v)(k:∀ p,OkO ρ s.heap p o→G (.ref p.1)):G v:=by
 obtain ⟨j,e1,e2⟩:=bD e
 rw [dL e1] at i
 obtain ⟨p,hp,O⟩:=at'.getH e2
 rw [at'.ref i hp]
 exact k p O
theorem au {h:Heap}{a:Addr}{vs:Array Value}{n:Nat}(e:h.get? a=some ⟨.type "list",none,.seq vs n,#[]⟩):h.IsList a vs:=⟨_,e,rfl,n,rfl⟩
theorem cD {h:Heap}{a:Addr}{vs:Array Value}{n:Nat}(e:h.get? a=some ⟨.type "tuple",none,.seq vs n,#[]⟩):IsTup h a vs:=⟨_,e,rfl,n,rfl⟩
@[elab_as_elim] theorem At.listK (at':At F ρ st s){xs:List SV}(e:asL (bf st.σ a)=some xs)(i:a.Is ρ v)(k:∀ l vs n,s.heap.get? l=some ⟨.type "list",none,.seq vs n,#[]⟩→ag (SV.Is ρ) xs vs.toList→G (.ref l)):G v:=
 at'.objK (gU e) i fun p O=>O.elim fun vs O=>O.elim fun n O=>k p.1 vs n O.1 O.2
@[elab_as_elim] theorem At.ilistK (at':At F ρ st s){xs:List Int}(e:asI (bf st.σ a)=some xs)(i:a.Is ρ v)(k:∀ l vs n,s.heap.get? l=some ⟨.type "list",none,.seq vs n,#[]⟩→IntsAre vs.toList xs→G (.ref l)):G v:=
 at'.objK (jL e) i fun p O=>O.elim fun vs O=>O.elim fun n O=>k p.1 vs n O.1 O.2
@[elab_as_elim] theorem At.kdictK (at':At F ρ st s){q:Int×SV}(e:asK (bf st.σ a)=some q)(i:a.Is ρ v)(k:∀ l kvs x,(l == sysModules)=false→s.heap.DictOf (intKind prog w) l kvs→valueAt kvs q.1=some x→q.2.Is ρ x→G (.ref l)):G v:=
 at'.objK (Ec e) i fun p O=>by
  obtain ⟨ne,kvs,hd,hv⟩:=O
  cases hg:valueAt kvs q.1 with
  | none=>rw [hg] at hv; exact hv.elim
  | some x=>rw [hg] at hv; exact k p.1 kvs x (by simpa using ne) hd hg hv
theorem qT {xs:List SV}{l:List Str}{vs:List Value}(e:qU xs=some l)(h:ag (SV.Is ρ) xs vs):StrsAre vs l:=by
 induction h generalizing l with
 | nil=>cases e; exact .nil
 | cons i _ ih=>
  obtain ⟨x,e1,e2⟩:=bD e
  obtain ⟨l',e3,rfl⟩:=dU e2
  exact j0 e1 i fun t=>.cons _ _ (ih e3)
theorem f9 {xs:List SV}{l:List Int}{vs:List Value}(e:lm xs=some l)(h:ag (SV.Is ρ) xs vs):IntsAre vs l:=by
 induction h generalizing l with
 | nil=>cases e; exact .nil
 | cons i _ ih=>
  obtain ⟨x,e1,e2⟩:=bD e
  obtain ⟨l',e3,rfl⟩:=dU e2
  exact gy e1 i fun t=>.cons _ _ (ih e3)
theorem cU {vs:Array Value}{xs:List SV}{ρ:Rho}(h:ag (SV.Is ρ) xs vs.toList):vs.size=xs.length:=Array.length_toList.symm.trans h.length.symm
theorem dK {vs:Array Value}{xs:List Int}(h:IntsAre vs.toList xs):vs.size=xs.length:=Array.length_toList.symm.trans h.length
@[elab_as_elim] theorem Gr (at':At F ρ st s){n:Nat}(e:kh st.σ a=some n)(i:a.Is ρ v)(k:∀ l its,s.heap.IsList l its→its.size=n→G (.ref l)):G v:=by
 unfold kh at e
 cases q:asL (bf st.σ a) with
 | some xs=>rw [q] at e; exact at'.listK q i fun l vs _ ho hv=>k l vs (au ho) ((cU hv).trans (Option.some.inj e))
 | none=>
  rw [q] at e
  obtain ⟨xs,q2,e⟩:=dU e
  exact at'.ilistK q2 i fun l vs _ ho hv=>k l vs (au ho) ((dK hv).trans e)
theorem jC (i:a.Is ρ v):(v == .none)=isNone a:=by
 cases a<;>first | (cases i; rfl) | exact i.elim fun t e=>e▸rfl | exact i.elim fun p e=>e.2▸rfl
theorem wD (e:isNone a=true)(i:a.Is ρ v):.none=v:=(eq_of_beq ((jC i).trans e)).symm
theorem CE {l l' n m:Nat}(q:(!Nat.beq n m)=true)(h1:l=n)(h2:l'=m):(l != l')=true:=by
 subst h1 h2
 have:=Nat.ne_of_beq_eq_false ((Bool.not_eq_true' _).mp q)
 simpa using this
theorem dI {op:CmpOp}{va:Value}{f:Int→Int→Bool}(at':At F ρ st s)(ia:a.Is ρ va)(ib:b.Is ρ v)(h:∀ {x y:Int}{t u:Tok}{Q:Value→Shared→Prop}{E:Value→Shared→Prop},Q (.bool (f x y)) s→wpAny (model prog w) A (compareOp op (.int x t) (.int y u)) Q E s):Sp A s (PE X F ρ st s) (compareOp op va v) (si a b f st):=
 .opt fun x e=>.opt fun y e'=>gy e ia fun t=>gy e' ib fun u=>.same at' CK h
theorem gh {op:CmpOp}{va vb:Value}{d:Nat}(rm:aj d A)(at':At F ρ st s)(ia:a.Is ρ va)(ib:b.Is ρ vb):Sp A s (PE [] F ρ st s) (compareOp op va vb) (xR op a b st):=by
 cases op
 case Lt=>exact dI at' ia ib fun h=>lt_int h
 case LtE=>exact dI at' ia ib fun h=>le_int h
 case Gt=>exact dI at' ia ib fun h=>gt_int h
 case GtE=>exact dI at' ia ib fun h=>ge_int h
 case Is=>exact .chk fun e=>wD e ib▸.same at' rfl fun h=>is_none (jC ia▸h)
 case IsNot=>exact .chk fun e=>wD e ib▸.same at' rfl fun h=>isNot_none (jC ia▸h)
 case Eq=>exact .alt (fun _ _=>dI at' ia ib fun h=>eq_int h) (.alt (fun x e=>.opt fun y e'=>j0 e ia fun t=>j0 e' ib fun u=>.same at' (fU x y▸rfl) fun h=>eq_str h) (.opt fun n e=>.opt fun m e'=>.chk fun q=>Gr at' e ia fun l its hl h1=>Gr at' e' ib fun l' its' hl' h2=>.same at' rfl fun h=>SeqAt.eq_list_lengthsAt hl hl' (CE q h1 h2) rm.units h))
 case NotEq=>exact .alt (fun _ _=>dI at' ia ib fun h=>ne_int h) (.opt fun x e=>.opt fun y e'=>j0 e ia fun t=>j0 e' ib fun u=>.same at' (fU x y▸rfl) fun h=>ne_str h)
 case In=>exact .alt (fun x e=>.opt fun xs e'=>.opt fun l q=>j0 e ia fun t=>at'.listK e' ib fun a vs n ho hv=>.same at' (by rw [vc]; rfl) fun h=>in_list_strs (vs:=vs.toList) (show s.heap.IsList a vs from au ho) (qT q hv) h) (.opt fun q e=>.opt fun xs e'=>.opt fun l z=>gy e ia fun t=>at'.listK e' ib fun a vs n ho hv=>.same at' rfl fun h=>in_list_ints (vs:=vs.toList) (show s.heap.IsList a vs from au ho) (f9 z hv) h)
 case NotIn=>exact .opt fun q e=>gy e ia fun t=>.alt (fun r e'=>.need fun hr=>at'.kdictK e' ib fun l kvs x ne hd hg _=>fun _ _ z=>wpAny_notIn_of (knd:=intKind prog w) (intKind_is prog w _ t) ne hd.mapOf (by rw [←hr,hg]; exact z _ _ _ _ (To.tok at' _) rfl)) (.opt fun xs e'=>.opt fun l z=>at'.listK e' ib fun a vs n ho hv=>.same at' rfl fun h=>notin_list_ints (vs:=vs.toList) (show s.heap.IsList a vs from au ho) (f9 z hv) h)
end
end
end Mine
end
section
open PySem PySem.W PySem.Calls PyProof.Rows Builtin Builtin.ObjectAttr
namespace Mine
variable {F F' F₀ F'' F₁:Fz}{ρ ρ' ρ₀ τ τ':Rho}{st st' st₀ st₁:St}{A:Around}{s s' s₀ s₁:Shared}{X as:List Addr}{k i n N:Nat}{E:Value→Shared→Prop}{a b C pa aa da ga ra:Addr}{v:Value}{vs L xs ys:List Int}{h:Heap}{ih:Ev}{cx:Cx}{m m':Loc}{env:Env}{pos:Pos}{t T sc far d0 d1 d2 c seed cnt so sp fa c₀ bg wd fi ke mn:Int}{σ σ' σ₁:Hp}{nm q:Str}{bs bm bmB:List Value}{hdct ab:Bool}{sn:List Str}{m0:M}{q0 q1 q2 q3:Addr×Addr}
section
theorem ik {es:Array DictEntry}(hk:StrKeys es):es.any (·.refKey)=false:=by
 rw [Array.any_eq_false']
 intro e he
 obtain ⟨n,t,h⟩:=hk e he
 simp [DictEntry.refKey,h]
noncomputable abbrev AI (es:Array DictEntry)(ep:Nat):Obj:=⟨.type "dict",none,.dict es ep,#[]⟩
theorem o6 {es:Array DictEntry}{ep:Nat}{name:Str}{v:Value}{k:Int}{t:Tok}(hk:StrKeys es):∃ es' ep',Obj.putName name k (.str name t) v (AI es ep)=AI es' ep'∧StrKeys es'∧es'.size=(if (nsFind es name).isSome then es.size else es.size+1)∧∀ x,nsFind es' x=if x=name then some v else nsFind es x:=by
 have hs:(nsFind es name).isSome=(es.findIdx? (·.key.isStr name)).isSome:=by
  show (findBy (fun n v=>v.isStr n) es name).isSome=_
  rw [findBy_of_findIdx?]
  cases hi:es.findIdx? (·.key.isStr name) with
  | none=>rfl
  | some i=>
   obtain ⟨hlt,_⟩:=Array.findIdx?_eq_some_iff_getElem.mp hi
   dsimp only
   rw [Array.getElem?_eq_getElem hlt]; rfl
 rw [hs,Obj.putName_eq]
 unfold Obj.putNameByArray
 dsimp only
 cases hi:es.findIdx? (·.key.isStr name) with
 | some i=>exact ⟨_,ep,rfl,hk.modify _ _,Array.size_modify ..,fun x=>findBy_modify (fun n v=>v.isStr n) Value.isStr_inj es name x v i hi⟩
 | none=>exact ⟨_,ep+1,rfl,hk.push _ _ _ _,Array.size_push ..,fun x=>findBy_push (fun n v=>v.isStr n) es name x _ _ v (fun y=>Bool.eq_iff_iff.mpr ⟨fun e=>decide_eq_true (eq_of_beq e).symm,fun e=>beq_iff_eq.mpr (of_decide_eq_true e).symm⟩) hi⟩
theorem jq {M:Model}{A:Around}{E:Value→Shared→Prop}{s:Shared}{Q:Unit→Shared→Prop}{a:Addr}{es:Array DictEntry}{ep:Nat}{name:Str}{v:Value}(ho:s.heap.get? a=some (AI es ep))(hk:StrKeys es)
  (h:∀ h' es' ep',h'.get? a=some (AI es' ep')→StrKeys es'→es'.size=(if (nsFind es name).isSome then es.size else es.size+1)→(∀ x,nsFind es' x=if x=name then some v else nsFind es x)→
   Heap.SameBut a s.heap h'→Q () { s with heap:=h',toks:=s.toks+1 }):wpAny M A (nsSet a name v) Q E s:=by
 have c:aRefKeyMayBeTheName name es=false:=by rw [aRefKeyMayBeTheName_eq]; unfold aRefKeyMayBeTheNameByArray; rw [ik hk,Bool.and_false]
 unfold nsSet
 refine wpAny_bind (wpAny_bind (wpAny_askSetting (wpAny_pure (wpAny_bind (wpAny_mkText (wpAny_bind (wpAny_loadPart ho ?_)))))))
 dsimp only
 rw [c]
 obtain ⟨es',ep',e,h1,h2,h3⟩:=o6 (ep:=ep) (name:=name) (v:=v) (k:=if name.cps.isEmpty then 0 else reduceHash (M.w.params.strHash name.cps)) (t:=s.toks) hk
 exact wpAny_updatePart ho (h _ es' ep' (e▸Heap.get?_update_self _ ho (by rw [e]; rfl)) h1 h2 h3 (Heap.SameBut.update ..))
theorem mE {es:Array DictEntry}{ep:Nat}(hk:StrKeys es)(name:Str):lookIn name ⟨.type "dict",none,.dict es ep,#[]⟩=some (nsFind es name):=by
 unfold lookIn nsFind findBy
 dsimp only
 rw [←Array.find?_toList]
 cases h:es.toList.find? (fun x=>x.key.isStr name) with
 | some e=>rfl
 | none=>
  have:=ik hk
  rw [←Array.any_toList] at this
  simp [this]
noncomputable def p4:SV→Bool
 | .bi _=>false
 | _=>true
noncomputable def xq (i:String):Option (Option Value)→Bool
 | some (some (.builtin j))=>j == i
 | _=>false
noncomputable def DI {α:Type}:Option (Option α)→Bool
 | some none=>true
 | _=>false
noncomputable def asN:Option SO→Option (Addr×List (Str×SV))
 | some (.inst C fs)=>some (C,fs)
 | _=>none
noncomputable def p7 (K:Frag)(name:Str)(o:SV)(st:St):Res (SV×St):=opt (asN (bf st.σ o)) fun q=>opt (af name q.2) fun v=>
 chk (plainGet K q.1 name) (chk (hasDictIn K q.1) (chk (DI (findIn K (.ref q.1) name)) (chk (p4 v) (.ok (v,st)))))
noncomputable def oW (K:Frag)(name:Str)(o v:SV)(st:St):Res (Unit×St):=opt (gF o) fun k=>opt (asN (aM k st.σ)) fun q=>
 chk (xq "object.__setattr__" (findIn K (.ref q.1) "__setattr__")) (chk (plainOver K q.1) (chk (DI (takerIn K q.1 name)) (chk (hasDictIn K q.1) (chk (Nat.ble q.2.length 500) (.ok ((),⟨dp k (.inst q.1 (dD name v q.2)) st.σ,st.nx⟩))))))
theorem km {i:String}{o:Option (Option Value)}(h:xq i o=true):o=some (some (.builtin i)):=by
 cases o with
 | none=>exact eqT h
 | some o=>cases o with
  | none=>exact eqT h
  | some v=>cases v<;>first | exact eqT h | exact congrArg (fun j=>some (some (Value.builtin j))) (eq_of_beq h)
theorem tG {α:Type}{o:Option (Option α)}(h:DI o=true):o=some none:=by
 cases o with
 | none=>exact eqT h
 | some x=>cases x with
  | none=>rfl
  | some _=>exact eqT h
theorem jK {o:Option SO}{q:Addr×List (Str×SV)}(h:asN o=some q):o=some (.inst q.1 q.2):=by
 cases o with
 | none=>exact nos h
 | some o=>cases o<;>first | exact nos h | exact congrArg (fun x:Addr×List (Str×SV)=>some (SO.inst x.1 x.2)) (Option.some.inj h)
noncomputable def PU (F:Fz)(ρ:Rho)(st:St)(s:Shared)(Q:Unit→Shared→Prop)(r:Unit×St):Prop:=∀ F' ρ' s',To [] F ρ st s F' ρ' r.2 s'→Q () s'
section
theorem uJ {sv:SV}{v:Value}(h:p4 sv=true)(i:sv.Is ρ v):handedIn v=true:=by
 cases sv<;>first | exact eqT h | exact i▸rfl | exact i.elim fun t e=>e▸rfl | exact i.elim fun p e=>e.2▸rfl
theorem kn {h:Heap}{p:Addr×Addr}{C:Addr}{fs:List (Str×SV)}(O:OkO ρ h p (.inst C fs)):∃ es ep,InstAt h p.1 (instObj C p.2) C (some ⟨.type "dict",none,.dict es ep,#[]⟩)∧StrKeys es∧es.size≤fs.length∧∀ x,az ρ (af x fs) (nsFind es x):=by
 obtain ⟨a,es,ep,b,c,d,e⟩:=O
 exact ⟨es,ep,⟨a,rfl,rfl,b⟩,c,d,e⟩
theorem DU {G:Prop}{fs:List (Str×SV)}{es:Array DictEntry}{x:Str}{sv:SV}(h:∀ x,az ρ (af x fs) (nsFind es x))(e:af x fs=some sv)(k:∀ v,nsFind es x=some v→sv.Is ρ v→G):G:=by
 have:=h x
 rw [e] at this
 cases q:nsFind es x with
 | none=>rw [q] at this; exact this.elim
 | some v=>rw [q] at this; exact k v q this
theorem lu {name:Str}{o:SV}{vo:Value}{ex:Bool}(at':At F ρ st s)(io:o.Is ρ vo):Sp A s (PE [] F ρ st s) (getAttr vo name ex) (p7 K name o st):=
 .opt fun q e=>.opt fun sv e2=>.chk fun g1=>.chk fun g2=>.chk fun g3=>.chk fun g4=>at'.objK (jK e) io fun p O Q E z=>by
  obtain ⟨es,ep,I,hk,hsz,hf⟩:=kn O
  exact DU hf e2 fun v hn hv=>get_value at'.rep.world.inK I (plainGet_of g1).1 (findObj_own g2 (tG g3) rfl (by rw [mE hk,hn])) (uJ g4 hv) (z _ _ _ _ (To.tok at' _) hv)
@[elab_as_elim] theorem At.ownK {G:Value→Prop}{a:SV}{v:Value}(at':At F ρ st s){k:Nat}{o:SO}(e:gF a=some k)(e2:aM k st.σ=some o)(i:a.Is ρ v)(h:∀ p,ρ[k]?=some p→OkO ρ s.heap p o→G (.ref p.1)):G v:=by
 rw [dL e] at i
 obtain ⟨p,hp,O⟩:=at'.rep.get e2
 rw [at'.ref i hp]
 exact h p hp O
theorem az.isSome {a:Option SV}{b:Option Value}(h:az ρ a b):b.isSome=a.isSome:=by
 cases a<;>cases b<;>first | rfl | exact h.elim
theorem sV {n k:Nat}{b:Bool}(e:k=if b then n else n+1){m:Nat}(h:n≤m){c:Bool}(hb:b=c):k≤if c then m else m+1:=by
 subst hb e
 cases b
 ·exact Nat.succ_le_succ h
 ·exact h
theorem xu {es es':Array DictEntry}{ep':Nat}{h':Heap}{p:Addr×Addr}{C:Addr}{fs:List (Str×SV)}{name:Str}{sv:SV}{v:Value}(hf:∀ x,az ρ (af x fs) (nsFind es x))(hsz:es.size≤fs.length)(iv:sv.Is ρ v)(e0:h'.get? p.1=some (instObj C p.2))(e1:h'.get? p.2=some ⟨.type "dict",none,.dict es' ep',#[]⟩)(e2:StrKeys es')
  (e3:es'.size=if (nsFind es name).isSome then es.size else es.size+1) (e4:∀ x,nsFind es' x=if x=name then some v else nsFind es x):OkO ρ h' p (.inst C (dD name sv fs)):=by
 refine ⟨e0,es',ep',e1,e2,?_,fun x=>?_⟩
 ·rw [oV]
  exact sV e3 hsz (hf name).isSome
 ·rw [mB,e4]
  by_cases z:x=name
  ·rw [if_pos z,if_pos z]; exact iv
  ·rw [if_neg z,if_neg z]; exact hf x
theorem kJ {name:Str}{o sv:SV}{vo v:Value}(at':At F ρ st s)(io:o.Is ρ vo)(iv:sv.Is ρ v):Sp A s (PU F ρ st s) (setAttr vo name v) (oW K name o sv st):=
 .opt fun k ek=>.opt fun q eq=>.chk fun g1=>.chk fun g2=>.chk fun g3=>.chk fun g4=>.chk fun g5=>at'.ownK ek (jK eq) io fun p hp O Q E z=>by
  have hlen:=cC g5
  obtain ⟨es,ep,I,hk,hsz,hf⟩:=kn O
  have X:=at'.rep.world.inK
  refine set_plain X I (km g1) (osa_open (s:={ s with toks:=s.toks+1 }) X I g2 (tG g3) fun b=>?_)
  obtain ⟨cd,hc,hd'⟩:=any_some g4
  obtain ⟨hx,hcl,hn,hdd⟩:=I
  have hdd:s.heap.get? p.2=some ⟨.type "dict",none,.dict es ep,#[]⟩:=hdd
  refine wpAny_bind (wpAny_pure (wpAny_bind (wpAny_bind (wpAny_loadPart hx (wpAny_bind (looks_clsIn X hc _ _ _ _ (fun _ _ e=>e) ?_))))))
  rw [hd']
  refine wpAny_pure (a:=some p.2) (wpAny_bind (wpAny_pure (wpAny_bind ?_)))
  refine jq (s:={ s with toks:=s.toks+1 }) hdd hk fun h' es' ep' e1 e2 e3 e4 sb=>?_
  have e5:=sV e3 hsz rfl
  refine wpAny_bind (wpAny_lookBehind (o:=⟨.type "dict",none,.dict es' ep',#[]⟩) e1 (pastItsLine_dict (by rw [sizeLine_eq]; split at e5<;>omega)) (wpAny_pure ?_))
  have ne:p.1≠p.2:=fun z=>by rw [z,hdd] at hx; cases hx
  obtain ⟨R',X'⟩:=at'.rep.put (o':=.inst q.1 (dD name sv q.2)) (jK eq) hp (fun _=>rfl) (by intro x h; cases h) (fun b x nb e=>(sb.2 b fun z=>nb (z▸.tail _ (.head _))).trans e)
   (fun b x e=>by
    by_cases z:b=p.2
    ·subst z; exact ⟨_,e1⟩
    ·exact ⟨x,(sb.2 b z).trans e⟩) (xu hf hsz iv ((sb.2 _ ne).trans hx) e1 e2 e3 e4)
  exact z _ _ _ ⟨⟨R',at'.len⟩,X',rfl⟩
end
end
section
theorem ba {α:Type}(x:Str)(l:List (Str×α)):af x l=l.lookup x:=by
 induction l with
 | nil=>rfl
 | cons p r ih=>
  rw [af,List.lookup_cons,ih,fU]
  have:(p.1 == x)=(x == p.1):=Bool.eq_iff_iff.mpr ⟨fun e=>beq_iff_eq.mpr (eq_of_beq e).symm,fun e=>beq_iff_eq.mpr (eq_of_beq e).symm⟩
  rw [this]
  cases x == p.1<;>rfl
theorem w4 {α:Type}{x:Str}{a b:List (Str×α)}:af x (a++b)=(af x a).or (af x b):=by
 rw [ba,ba,ba,List.lookup_append]
theorem pI {α:Type}{x:Str}{v:α}{l:List (Str×α)}(h:af x l=some v):x∈l.map (·.1):=by
 induction l with
 | nil=>exact nos h
 | cons p r ih=>
  rw [af] at h
  cases q:sEq p.1 x with
  | true=>exact aQ.mp q▸.head _
  | false=>rw [q] at h; exact .tail _ (ih h)
theorem az.or {ρ:Rho}{a b:Option SV}{c d:Option Value}(h:az ρ a c)(h':az ρ b d):az ρ (a.or b) (c.or d):=by
 cases a<;>cases c<;>first | exact h' | exact h | exact h.elim
theorem iN {ρ:Rho}{names:List Str}{svs:List SV}{vs:List Value}(h:ag (SV.Is ρ) svs vs)(x:Str):az ρ (af x (names.zip svs)) ((names.zip vs).lookup x):=by
 induction h generalizing names with
 | nil=>rw [List.zip_nil_right,List.zip_nil_right]; exact True.intro
 | cons i _ ih=>
  cases names with
  | nil=>exact True.intro
  | cons n r=>
   rw [List.zip_cons_cons,List.zip_cons_cons,ba,List.lookup_cons,List.lookup_cons]
   cases x == n
   ·rw [←ba]; exact ih
   ·exact i
noncomputable def gn (sl:List (Str×Value))(p:Str×Value):List (Str×Value):=if (sl.lookup p.1).isNone then sl++[p] else sl
theorem qc {x:Str}{l sl:List (Str×Value)}:(l.foldl gn sl).lookup x=(sl.lookup x).or (l.lookup x):=by
 induction l generalizing sl with
 | nil=>exact Option.or_none.symm
 | cons p r ih=>
  rw [List.foldl_cons,ih,gn,List.lookup_cons]
  cases q:sl.lookup p.1 with
  | none=>
   rw [show (if (none:Option Value).isNone=true then sl++[p] else sl)=sl++[p] from rfl,List.lookup_append,Option.or_assoc,List.lookup_cons]
   cases x == p.1<;>rfl
  | some v=>
   rw [show (if (some v).isNone=true then sl++[p] else sl)=sl from rfl]
   cases e:x == p.1 with
   | false=>rfl
   | true=>rw [eq_of_beq e,q]; rfl
noncomputable def jQ {α:Type}(g:Str→Option α)(names:List Str):List (Str×α):=names.filterMap fun n=>(g n).map (n,·)
noncomputable def je {α:Type}(names:List Str)(ds:List α):List (Str×α):=(names.drop (names.length - (ds.drop (ds.length - names.length)).length)).zip (ds.drop (ds.length - names.length))
noncomputable def qF (names:List Str)(vs ds:List Value):List (Str×Value):=jQ (fun n=>((je names ds).foldl gn (names.zip vs)).lookup n) names
theorem rk {α:Type}{g:Str→Option α}{names:List Str}:((jQ g names).map (·.1)).Sublist names:=by
 induction names with
 | nil=>exact .slnil
 | cons n r ih=>
  unfold jQ at ih ⊢
  rw [List.filterMap_cons]
  cases g n with
  | none=>exact ih.cons n
  | some v=>exact ih.cons_cons n
theorem nq {α:Type}{g:Str→Option α}{names:List Str}{x:Str}{v:α}(hx:x∈names)(e:g x=some v):(jQ g names).lookup x=some v:=by
 induction names with
 | nil=>cases hx
 | cons n r ih=>
  unfold jQ at ih ⊢
  rw [List.filterMap_cons]
  by_cases q:x=n
  ·subst q
   rw [e]
   exact (List.lookup_cons ..).trans (by rw [beq_self_eq_true])
  ·have hr:=ih ((aJ hx).resolve_left q)
   cases g n with
   | none=>exact hr
   | some y=>exact (List.lookup_cons ..).trans (by rw [beq_false_of_ne q]; exact hr)
theorem lg {β:Type}{x:Str}{l:List (Str×β)}(h:x∉l.map (·.1)):l.lookup x=none:=by
 rw [←ba]
 cases q:af x l with
 | none=>rfl
 | some v=>exact absurd (pI q) h
theorem lf {β:Type}{x:Str}{l:List (Str×β)}(h:(l.map (·.1)).Nodup):l.reverse.lookup x=l.lookup x:=by
 induction l with
 | nil=>rfl
 | cons p r ih=>
  obtain ⟨h1,h2⟩:=List.nodup_cons.mp h
  rw [List.reverse_cons,List.lookup_append,ih h2,List.lookup_cons,List.lookup_cons]
  cases q:x == p.1 with
  | false=>exact Option.or_none
  | true=>rw [eq_of_beq q,lg h1]; rfl
theorem p8 {α β:Type}{f:α→β→Sem (ForInStep β)}{g:β→α→β}(l:List α)(b:β)(h:∀ x b,f x b=pure (.yield (g b x))):forIn l b f=pure (l.foldl g b):=by
 induction l generalizing b with
 | nil=>rfl
 | cons x r ih=>
  rw [List.forIn_cons,h x]
  exact ih _
structure FnC (h:Heap)(a:Addr)(fd:FuncData)(names:List Str)(body:List Stmt)(ds:List Value):Prop where
 obj:∃ o,h.get? a=some o∧o.data=.func fd
 par:∃ as kd df,fd.params=⟨[],as,none,[],kd,none,df⟩∧as.map (·.arg)=names
 dfl:∃ r,(∀ M,Looks M h (seqItems? fd.defaults) r)∧(r.getD #[]).toList=ds
 bod:fd.body=.stmts body
 glob:fd.globals=mainGlobals
 bui:fd.builtins=builtinsNs
 code:h.CodeRec fd.code fd.qualname
 kind:fd.scope.kind=.function
 co:fd.scope.isCoroutine=false
 gen:fd.scope.isGenerator=false
 nod:names.Nodup
theorem yg {fd:FuncData}{args:Args}{binds:List (Str×Value)}{s:Shared}{r:Option (Array Value)}{k:Option (Array Value)→Sem (List (Str×Value))}(h₁:bindArgs fd args=seqItems? fd.defaults >>= k)(hr:∀ M,Looks M s.heap (seqItems? fd.defaults) r)(h₂:k r=pure binds):BindsTo s fd args binds:=fun M A E Q hq=>by
 rw [h₁]
 exact wpAny_bind (hr _ A _ E s (fun _ _ e=>e) (h₂▸wpAny_pure hq))
theorem zA {α:Type}{f:Str→Option α}{L:List Str}(h:∀ n∈L,(f n).isSome=true):¬ (!(L.filter fun n=>(f n).isNone).isEmpty)=true:=by
 rw [List.filter_eq_nil_iff.mpr fun n hn=>by rw [←Option.not_isSome,h n hn]; exact Bool.false_ne_true]
 exact Bool.false_ne_true
theorem qE {fd:FuncData}{names:List Str}{vs ds:List Value}{s:Shared}{a:Addr}{body:List Stmt}(P:FnC s.heap a fd names body ds)(h1:vs.length≤names.length)(hm:∀ n∈names.take (names.length - (ds.drop (ds.length - names.length)).length),((names.zip vs).lookup n).isSome=true):BindsTo s fd ⟨vs,[]⟩ (qF names vs ds):=by
 obtain ⟨as,kd,df,hp,rfl⟩:=P.par
 obtain ⟨r,hr,rfl⟩:=P.dfl
 clear P
 cases fd
 cases hp
 refine yg rfl hr ((if_neg fun e=>absurd (of_decide_eq_true (dw e).1) (Nat.not_lt.mpr h1)).trans ((if_neg (zA hm)).trans ((congrArg (· >>= _) (p8 (g:=gn) _ _ ?_)).trans ?_)))
 ·intro x b
  unfold gn
  dsimp only
  split<;>rfl
 ·show (pure (jQ (fun n=>((je (as.map (·.arg)) (r.getD #[]).toList).foldl gn ((as.map (·.arg)).zip vs)).lookup n) (as.map (·.arg)++[])):Sem _)=_
  rw [List.append_nil]; rfl
noncomputable def jY (names:List Str)(args sds:List SV):Option (List (Str×SV)):=match Nat.ble args.length names.length&&(names.take (names.length - (sds.drop (sds.length - names.length)).length)).all fun n=>(af n (names.zip args)).isSome with
 | true=>some (names.zip args++je names sds)
 | false=>none
theorem qG {names:List Str}{args sds:List SV}{m:List (Str×SV)}(h:jY names args sds=some m):args.length≤names.length∧(∀ n∈names.take (names.length - (sds.drop (sds.length - names.length)).length),(af n (names.zip args)).isSome=true)∧m=names.zip args++je names sds:=by
 unfold jY at h
 split at h
 ·rename_i q
  obtain ⟨q1,q2⟩:=dw q
  exact ⟨cC q1,dQ q2,(Option.some.inj h).symm⟩
 ·cases h
section
variable {names:List Str}{args sds:List SV}{vs ds:List Value}{m:List (Str×SV)}
theorem ag.drop {α β:Type}{R:α→β→Prop}{as:List α}{bs:List β}(h:ag R as bs)(n:Nat):ag R (as.drop n) (bs.drop n):=by
 induction h generalizing n with
 | nil=>rw [List.drop_nil,List.drop_nil]; exact .nil
 | cons r t ih=>cases n with
  | zero=>exact .cons r t
  | succ n=>exact ih n
theorem uO (hd:ag (SV.Is ρ) sds ds)(x:Str):az ρ (af x (je names sds)) ((je names ds).lookup x):=by
 have h:=hd.drop (sds.length - names.length)
 unfold je
 rw [←hd.length,←h.length]
 exact iN h x
theorem yh (ha:ag (SV.Is ρ) args vs)(hd:ag (SV.Is ρ) sds ds)(e:jY names args sds=some m){x:Str}{sv:SV}(h:af x m=some sv):∃ v,(qF names vs ds).lookup x=some v∧sv.Is ρ v:=by
 obtain ⟨_,_,rfl⟩:=qG e
 have:=(iN (names:=names) ha x).or (uO (names:=names) hd x)
 rw [←w4,h,←qc] at this
 cases q:List.lookup x ((je names ds).foldl gn (names.zip vs)) with
 | none=>rw [q] at this; exact this.elim
 | some v=>
  rw [q] at this
  refine ⟨v,nq ?_ q,this⟩
  have hk:=pI h
  rw [List.map_append] at hk
  rcases fD hk with z | z
  ·obtain ⟨y,hy,rfl⟩:=List.mem_map.mp z
   exact (List.of_mem_zip hy).1
  ·obtain ⟨y,hy,rfl⟩:=List.mem_map.mp z
   exact List.mem_of_mem_drop (List.of_mem_zip hy).1
theorem qH {fd:FuncData}{s:Shared}{a:Addr}{body:List Stmt}(P:FnC s.heap a fd names body ds)(ha:ag (SV.Is ρ) args vs)(hd:ag (SV.Is ρ) sds ds)(e:jY names args sds=some m):BindsTo s fd ⟨vs,[]⟩ (qF names vs ds):=by
 obtain ⟨h1,h2,_⟩:=qG e
 have h:=hd.drop (sds.length - names.length)
 refine qE P (ha.length▸h1) fun n hn=>?_
 rw [←hd.length,←h.length] at hn
 rw [(iN ha n).isSome]
 exact h2 n hn
end
end
section
noncomputable def oh:Value→Option SV
 | .none=>some .none
 | .bool b=>some (.bool b)
 | .int i _=>some (.int i)
 | .str x _=>some (.str x)
 | _=>none
noncomputable def lC:List Value→Option (List SV)
 | []=>some []
 | v::r=>(oh v).bind fun a=>(lC r).map (a::·)
theorem lD {ρ:Rho}{v:Value}{sv:SV}(h:oh v=some sv):sv.Is ρ v:=by
 cases v<;>first | exact nos h | exact Option.some.inj h▸rfl | exact Option.some.inj h▸⟨_,rfl⟩
theorem og {ρ:Rho}{vs:List Value}{l:List SV}(h:lC vs=some l):ag (SV.Is ρ) l vs:=by
 induction vs generalizing l with
 | nil=>cases h; exact .nil
 | cons v r ih=>
  obtain ⟨a,e1,e2⟩:=bD h
  obtain ⟨l',e3,rfl⟩:=dU e2
  exact .cons (lD e1) (ih e3)
noncomputable def pp {α:Type}:Option α→Bool
 | none=>true
 | some _=>false
noncomputable def fL (q:Arguments):Bool:=q.posonlyargs.isEmpty&&pp q.vararg&&q.kwonlyargs.isEmpty&&pp q.kwarg
noncomputable def dN (fd:FuncData):Option (List Str):=match fL fd.params with
 | true=>some (fd.params.args.map (·.arg))
 | false=>none
theorem cN {a b:Bool}{G:Prop}(h:(a&&b)=true)(k:a=true→b=true→G):G:=k (dw h).1 (dw h).2
theorem js {a:Bool}(h:(!a)=true):a=false:=(Bool.not_eq_true' _).mp h
theorem iX {α:Type}{o:Option α}(h:pp o=true):o=none:=by
 cases o<;>first | rfl | exact eqT h
theorem A3 {po as ko:List Arg}{va kw:Option Arg}{kd:List (Option Expr)}{df:List Expr}(h1:po=[])(h2:va=none)(h3:ko=[])(h4:kw=none):Arguments.mk po as va ko kd kw df=⟨[],as,none,[],kd,none,df⟩:=by rw [h1,h2,h3,h4]
theorem o8 {q:Arguments}(h:fL q=true):q=⟨[],q.args,none,[],q.kw_defaults,none,q.defaults⟩:=
 cN h fun h h4=>cN h fun h h3=>cN h fun h1 h2=>match q,h1,h2,h3,h4 with | .mk ..,h1,h2,h3,h4=>A3 (List.isEmpty_iff.mp h1) (iX h2) (List.isEmpty_iff.mp h3) (iX h4)
theorem pg {fd:FuncData}{names:List Str}(h:dN fd=some names):∃ as kd df,fd.params=⟨[],as,none,[],kd,none,df⟩∧as.map (·.arg)=names:=by
 unfold dN at h
 cases e:fL fd.params with
 | true=>rw [e] at h; exact ⟨_,_,_,o8 e,Option.some.inj h⟩
 | false=>rw [e] at h; exact nos h
noncomputable def vR:Option Obj→Option (List Value)
 | some ⟨_,_,.seq its _,_⟩=>some its.toList
 | _=>none
noncomputable def dOf:Value→Option (Option Addr)
 | .none=>some none
 | .ref T=>some (some T)
 | _=>none
noncomputable def Hh (K:Frag):Option Addr→Option (List Value)
 | none=>some []
 | some T=>vR (K.lookup T)
noncomputable def eU (K:Frag)(fd:FuncData):Option (List Value):=(dOf fd.defaults).bind (Hh K)
theorem DX {v:Value}{o:Option Addr}(h:dOf v=some o):v=o.elim .none .ref:=by
 cases v<;>first | exact nos h | exact Option.some.inj h▸rfl
theorem ub {o:Option Obj}{l:List Value}(h:vR o=some l):∃ o' its n,o=some o'∧o'.data=.seq its n∧its.toList=l:=by
 cases o with
 | none=>exact nos h
 | some o=>
  obtain ⟨c,d,dt,sl⟩:=o
  cases dt<;>first | exact nos h | exact ⟨_,_,_,rfl,rfl,Option.some.inj h⟩
theorem qr {fd:FuncData}{ds:List Value}{h:Heap}(X:K.In h)(e:eU K fd=some ds):∃ r:Option (Array Value),(∀ M,Looks M h (seqItems? fd.defaults) r)∧(r.getD #[]).toList=ds:=by
 obtain ⟨o,e1,e2⟩:=bD e
 rw [DX e1]
 cases o with
 | none=>exact ⟨none,fun M=>Looks.of_pure (by rfl),Option.some.inj e2⟩
 | some T=>
  obtain ⟨⟨c,d,dt,sl⟩,its,n,e1,e2,e3⟩:=ub e2
  cases e2
  exact ⟨some its,fun M=>(Looks.ld (part:=none) (X _ _ e1)).andThen .now,e3⟩
noncomputable def wI (x:Str):List Str→Bool
 | []=>false
 | y::r=>match sEq y x with
  | true=>true
  | false=>wI x r
noncomputable def kU:List Str→Bool
 | []=>true
 | x::r=>match wI x r with
  | true=>false
  | false=>kU r
theorem wH {x:Str}{l:List Str}:x∈l→wI x l=true:=by
 induction l with
 | nil=>exact fun h=>nomatch h
 | cons y r ih=>
  intro h
  rw [wI]
  cases q:sEq y x with
  | true=>rfl
  | false=>exact ih ((aJ h).resolve_left (Ne.symm (cn.mp q)))
theorem kT {l:List Str}(h:kU l=true):l.Nodup:=by
 induction l with
 | nil=>exact .nil
 | cons x r ih=>
  rw [kU] at h
  cases q:wI x r with
  | true=>rw [q] at h; exact eqT h
  | false=>rw [q] at h; exact List.nodup_cons.mpr ⟨fun m=>eqT (q.symm.trans (wH m)),ih h⟩
noncomputable def aD (sc:Scope)(x:Str):Bool:=match af x sc.names with
 | some .local=>true
 | _=>false
theorem f8 {sc:Scope}{x:Str}(h:aD sc x=true):af x sc.names=some .local:=by
 unfold aD at h
 cases q:af x sc.names with
 | none=>rw [q] at h; exact eqT h
 | some k=>rw [q] at h; cases k<;>first | rfl | exact eqT h
noncomputable def zz:NameKind→Bool
 | .cell=>false
 | _=>true
noncomputable def nA (l:List (Str×NameKind)):Bool:=l.all fun q=>zz q.2
theorem kZ {l:List (Str×NameKind)}(h:nA l=true) (x)(hx:x∈l):x.2≠.cell:=fun e=>by
 have:=dQ h x hx
 rw [e] at this
 cases this
noncomputable def By:ScopeKind→Bool
 | .function=>true
 | _=>false
theorem xo {k:ScopeKind}(h:By k=true):k=.function:=by
 cases k<;>first | rfl | cases h
noncomputable def kO (K:Frag)(fd:FuncData)(names:List Str):Bool:=
 Nat.beq fd.globals mainGlobals&&Nat.beq fd.builtins builtinsNs&&codeIn K fd.code fd.qualname&&By fd.scope.kind&&!fd.scope.isCoroutine&&!fd.scope.isGenerator&&kU names&&fd.closure.isEmpty
noncomputable def kg (K:Frag)(fd:FuncData)(names:List Str):Bool:=kO K fd names&&nA fd.scope.names&&names.all (aD fd.scope)
noncomputable def cG:Option Obj→Option FuncData
 | some ⟨_,_,.func fd,_⟩=>some fd
 | _=>none
theorem uS {o:Option Obj}{fd:FuncData}(h:cG o=some fd):∃ o',o=some o'∧o'.data=.func fd:=by
 cases o with
 | none=>exact nos h
 | some o=>
  obtain ⟨c,d,dt,sl⟩:=o
  cases dt<;>first | exact nos h | exact ⟨_,rfl,congrArg Data.func (Option.some.inj h)⟩
noncomputable def fg:FuncBody→Option (List Stmt)
 | .stmts b=>some b
 | _=>none
theorem qY {b:FuncBody}{l:List Stmt}(h:fg b=some l):b=.stmts l:=by
 cases b<;>first | exact nos h | exact congrArg FuncBody.stmts (Option.some.inj h)
structure FnD (h:Heap)(a:Addr)(fd:FuncData)(names:List Str)(body:List Stmt)(ds:List Value):Prop where
 fn:FnC h a fd names body ds
 cells:∀ x∈fd.scope.names,x.2≠.cell
 loc:names.all (aD fd.scope)=true
section
variable {fd:FuncData}{names:List Str}{body:List Stmt}{ds:List Value}
theorem xG (X:K.In h)(e:cG (K.lookup a)=some fd)(e1:dN fd=some names)(e2:eU K fd=some ds)(e3:fg fd.body=some body)(p:kO K fd names=true):FnC h a fd names body ds∧fd.closure=[]:=
 cN p fun p g8=>cN p fun p g7=>cN p fun p g6=>cN p fun p g5=>cN p fun p g4=>cN p fun p g3=>cN p fun g1 g2=>⟨⟨(uS e).elim fun o h=>⟨o,X _ _ h.1,h.2⟩,pg e1,qr X e2,qY e3,iY g1,iY g2,codeRec_of X g3,xo g4,js g5,js g6,kT g7⟩,List.isEmpty_iff.mp g8⟩
theorem rY (X:K.In h)(e:cG (K.lookup a)=some fd)(e1:dN fd=some names)(e2:eU K fd=some ds)(e3:fg fd.body=some body)(p:kg K fd names=true):FnD h a fd names body ds∧fd.closure=[]:=
 cN p fun p g10=>cN p fun p g9=>have z:=xG X e e1 e2 e3 p; ⟨⟨z.1,kZ g9,g10⟩,z.2⟩
end
noncomputable def iS:Flow→Value
 | .ret v=>v
 | _=>.none
noncomputable abbrev pi (A:Around)(env:Env)(E:Value→Shared→Prop):Value→Shared→Prop:=
 fun e s'=>wpAny (model prog w) (A.deeper env) (leaving env e) (fun _ s''=>E e s'') (fun e' s''=>E e' s'') s'
section
variable {Q:Value→Shared→Prop}
theorem At.new (at':At F ρ st s){a:Addr}(h:s.heap.get? a=none):a∉ae ρ st.σ∧F a=none:=by
 refine ⟨fun z=>?_,?_⟩
 ·obtain ⟨x,hx⟩:=at'.rep.lt z
  rw [h] at hx; cases hx
 ·cases q:F a with
  | none=>rfl
  | some o=>have:=at'.rep.le _ _ q; rw [h] at this; cases this
theorem aT (h:Heap):h.get? h.objs.size=none:=by
 cases q:h.get? h.objs.size with
 | none=>rfl
 | some o=>exact absurd (Heap.lt_size q) (Nat.lt_irrefl _)
theorem To.grow {X:List Addr}(at':At F ρ st s){h':Heap}{tk:Nat}(k:∀ b o,s.heap.get? b=some o→h'.get? b=some o):To X F ρ st s F ρ st { s with heap:=h',toks:=tk }:=
 ⟨⟨(at'.rep.grow k).1,at'.len⟩,(at'.rep.grow k).2.weaken (fun _ h=>nomatch h),rfl⟩
theorem om {d:Nat}{fd:FuncData}{names:List Str}{body:List Stmt}{ds:List Value}{sds:List SV}{a:Addr}{args:List SV}{vs:List Value}{m:Loc}(rm:aj (d+1) A)(at':At F ρ st s)(fn:FnD s.heap a fd names body ds)
  {cells:List (Str×Nat)} (hcl:∀ x k,af x cells=some k→∃ p,ρ[k]?=some p∧fd.closure.lookup x=some p.1) (ha:ag (SV.Is ρ) args vs) (hd:ag (SV.Is ρ) sds ds) (e:jY names args sds=some m)
  (h:∀ env s₀,To [] F ρ st s F ρ st s₀→Fm F ρ st.σ ⟨fd.scope,cells,d⟩ env m s₀.heap→s.heap.get? env.locals=none→aj d (A.deeper env)→env=envX fd.qualname fd.scope s.heap.objs.size a fd.code fd.closure→(∀ b o,s.heap.get? b=some o→s₀.heap.get? b=some o)→
   wpAny (model prog w) (A.deeper env) (execs body env) (fun fl s'=>Q (iS fl) s') (pi A env E) s₀):codeAny (model prog w) A (.call (.ref a) ⟨vs,[]⟩) (BL Q E) s:=by
 obtain ⟨o,ho,hdt⟩:=fn.fn.obj
 have hb:=qH fn.fn ha hd e
 have hk:((qF names vs ds).map (·.1)).Sublist names:=rk
 refine codeAny_call_def rm.depth ho hdt at'.rep.world.lim fn.fn.code fn.fn.bod hb fn.cells (fun x hx=>?_) (fun h₀ hns hk₀=>?_) fn.fn.co fn.fn.gen fn.fn.kind
 ·rw [←ba]
  exact f8 (dQ fn.loc x.1 (hk.subset (List.mem_map_of_mem hx)))
 ·have he:callEnv fd s.heap.objs.size a=envX fd.qualname fd.scope s.heap.objs.size a fd.code fd.closure:=by
   unfold callEnv newEnv
   rw [fn.fn.glob,fn.fn.bui]
  rw [he]
  have nw:=aT s.heap
  exact wpAny_mono (h _ _ (.grow at' hk₀) ⟨⟨rfl,rfl,rfl,fn.fn.kind,hcl⟩,⟨_,hns,fun x sv z=>by rw [lf (hk.nodup fn.fn.nod)]; exact yh ha hd e z⟩,(at'.new nw).1,(at'.new nw).2⟩ nw rm.deeper rfl hk₀) (fun fl s' z=>by cases fl<;>exact z) fun _ _ z=>z
theorem To.leave {F':Fz}{ρ':Rho}{st':St}{s':Shared}{L:Addr}(t:To [L] F ρ st s F' ρ' st' s')(nw:s.heap.get? L=none):To [] F ρ st s F' ρ' st' s':=
 ⟨t.at',t.ext.drop fun a ha=>.inr (ak ha▸nw),t.sh⟩
end
noncomputable def HW (r:Fl×Loc×St):Res (SV×St):=match r.1 with
 | .ret v=>.ok (v,r.2.2)
 | .next=>.ok (.none,r.2.2)
 | _=>.stuck 401
noncomputable def Fy (k:Nat)(r:SV×St):Res (SV×St):=chk (isNone r.1) (.ok (.ref k,r.2))
noncomputable def Cc:Option (Option Value)→Option Addr
 | some (some (.ref f))=>some f
 | _=>none
noncomputable def wf:Nat→Option Nat
 | 0=>none
 | n+1=>some n
theorem s8 {o:Option (Option Value)}{f:Addr}(h:Cc o=some f):o=some (some (.ref f)):=by
 cases o with
 | none=>exact nos h
 | some o=>cases o with
  | none=>exact nos h
  | some v=>cases v<;>first | exact nos h | exact congrArg (fun x=>some (some (Value.ref x))) (Option.some.inj h)
theorem o7 {d n:Nat}(h:wf d=some n):d=n+1:=by
 cases d with
 | zero=>exact nos h
 | succ d=>exact congrArg (· + 1) (Option.some.inj h)
noncomputable def BG (K:Frag)(ih:Ev)(d:Nat)(args:List SV)(st:St)(fd:FuncData):Res (SV×St):=opt (dN fd) fun names=>opt (eU K fd) fun ds=>opt (fg fd.body) fun body=>opt (lC ds) fun sds=>
 chk (kg K fd names) (opt (jY names args sds) fun m=>opt (wf d) fun d'=>(ih.ss ⟨fd.scope,[],d'⟩ m body st).bind HW)
noncomputable def sR (K:Frag)(ih:Ev)(d:Nat)(a:Addr)(args:List SV)(st:St):Res (SV×St):=alt (cG (K.lookup a)) (BG K ih d args st)
 (opt (Cc (findIn K (.ref a) "__init__")) fun fI=>chk (makesIn K a&&isFn K (.ref fI)) (opt (wf d) fun d'=>(ih.i d' fI (.ref st.nx::args) ⟨(st.nx,.inst a [])::st.σ,st.nx+1⟩).bind (Fy st.nx)))
section
variable {args:List SV}{vs:List Value}{d:Nat}
theorem qA (S:aG ih)(rm:aj d A)(at':At F ρ st s)(ha:ag (SV.Is ρ) args vs){fd:FuncData}(e:cG (K.lookup a)=some fd):SpC F ρ st A s a vs (BG K ih d args st fd):=fun Q E h=>
 dg h fun names e1 h=>dg h fun ds e2 h=>dg h fun body e3 h=>dg h fun sds e4 h=>gi h fun p h=>dg h fun m e5 h=>dg h fun d' e6 h=>by
  obtain ⟨fn,hcl⟩:=rY at'.rep.world.inK e e1 e2 e3 p
  cases o7 e6
  refine om rm at' fn (cells:=[]) (fun _ _ z=>nos z) ha (og e4) e5 fun env s₀ T₀ fm nw rm' _ _=>S.ss rm' T₀.at' fm ((Res.ok_bind h).mono fun r hr F' ρ' s' fl T _ hfl=>?_)
  have T':=(T₀.nil.trans T).leave nw
  obtain ⟨rf,rl,rs⟩:=r
  cases rf with
  | next=>cases hfl; exact hr _ _ _ _ T' rfl
  | ret sv=>obtain ⟨v,rfl,i⟩:=hfl; exact hr _ _ _ _ T' i
  | _=>exact hr.elim
theorem xw (at':At F ρ st s):To [] F ρ st s F (ρ++[(s.heap.objs.size+1,s.heap.objs.size)]) ⟨(st.nx,.inst a [])::st.σ,st.nx+1⟩ { s with heap:=(s.heap.push emptyDict).push (instObj a s.heap.objs.size) }∧(ρ++[(s.heap.objs.size+1,s.heap.objs.size)])[st.nx]?=some (s.heap.objs.size+1,s.heap.objs.size):=by
 obtain ⟨hh,g,dr,t,os⟩:=s
 have nw2:hh.get? (hh.objs.size+1)=none:=by
  cases q:hh.get? (hh.objs.size+1) with
  | none=>rfl
  | some o=>exact absurd (Heap.lt_size q) (Nat.not_lt.mpr (Nat.le_succ _))
 have hx:((hh.push emptyDict).push (instObj a hh.objs.size)).get? (hh.objs.size+1)=some (instObj a hh.objs.size):=by heap_get
 have hd:((hh.push emptyDict).push (instObj a hh.objs.size)).get? hh.objs.size=some emptyDict:=by heap_get
 obtain ⟨R',X'⟩:=at'.rep.add (h':=(hh.push emptyDict).push (instObj a hh.objs.size)) (p:=(hh.objs.size+1,hh.objs.size)) (o:=.inst a []) (fun b x e=>Heap.get?_push_of_some _ (Heap.get?_push_of_some _ e))
  (fun b hb=>by rcases aJ hb with rfl | hb; exact nw2; exact ak hb▸aT hh) (List.nodup_cons.mpr ⟨fun h=>Nat.succ_ne_self _ (ak h),List.nodup_cons.mpr ⟨List.not_mem_nil,List.nodup_nil⟩⟩) (by intro x h; cases h)
  ⟨hx,#[],0,hd,fun e he=>by simp at he,Nat.le_refl _,fun x=>by simp [af,nsFind,findBy,az]⟩
 obtain ⟨σ,n⟩:=st
 cases at'.len
 exact ⟨⟨⟨R',by simp⟩,X',rfl⟩,by simp⟩
theorem jN (S:aG ih)(rm:aj d A)(at':At F ρ st s)(ha:ag (SV.Is ρ) args vs):SpC F ρ st A s a vs (sR K ih d a args st):=fun Q E h=>by
 unfold sR at h
 cases e:cG (K.lookup a) with
 | some fd=>rw [e] at h; exact qA S rm at' ha e h
 | none=>
  rw [e] at h
  refine dg h fun fI e1 h=>gi h fun p h=>dg h fun d' e6 h=>cN p fun p1 p2=>?_
  cases o7 e6
  have X:=at'.rep.world.inK
  obtain ⟨T₁,hp⟩:=xw (a:=a) at'
  obtain ⟨hh,g,dr,t,os⟩:=s
  refine make_core (makes_of X p1) (looks_findIn X (s8 e1)) (fun self=>bind_fn X self (beq_iff_eq.mp p2)) (.inl rfl) ?_
  refine codeAny_mono (S.i (a:=fI) (args:=.ref st.nx::args) rm.under T₁.at' (.cons ⟨_,hp,rfl⟩ (ha.imp fun _ _ z=>z.mono)) (Q:=fun v s'=>v=.none∧Q (.ref (hh.objs.size+1)) s') (E:=E) ((Res.ok_bind h).mono fun r hr F' ρ' s' v T i=>gi hr fun e hr=>?_)) (fun r s' z=>?_)
  ·refine ⟨(wD e i).symm,hr F' ρ' s' _ (T₁.trans T) ⟨(hh.objs.size+1,hh.objs.size),?_,rfl⟩⟩
   obtain ⟨τ,e⟩:=T.ext.pre
   rw [e]; exact bx hp
  ·rcases r with e | (v | _ | _ | _)<;>exact z
end
end
end Mine
end
section
open PySem PySem.W PySem.Calls PyProof.Rows
namespace Mine
variable {F F' F₀ F'' F₁:Fz}{ρ ρ' ρ₀ τ τ':Rho}{st st' st₀ st₁:St}{A:Around}{s s' s₀ s₁:Shared}{X as:List Addr}{k i n N:Nat}{E:Value→Shared→Prop}{a b C pa aa da ga ra:Addr}{v:Value}{vs L xs ys:List Int}{h:Heap}{ih:Ev}{cx:Cx}{m m':Loc}{env:Env}{pos:Pos}{t T sc far d0 d1 d2 c seed cnt so sp fa c₀ bg wd fi ke mn:Int}{σ σ' σ₁:Hp}{nm q:Str}{bs bm bmB:List Value}{hdct ab:Bool}{sn:List Str}{m0:M}{q0 q1 q2 q3:Addr×Addr}
section
noncomputable def A9:Value→Option SV
 | .ref a=>some (.sta a)
 | .builtin n=>some (.bi n)
 | .type n=>some (.ty n)
 | v=>oh v
theorem vz {ρ:Rho}{v:Value}{sv:SV}(h:A9 v=some sv):sv.Is ρ v:=by
 cases v<;>first | exact lD h | exact Option.some.inj h▸rfl
noncomputable def BJ:List (Str×SV):=[("len",.bi "len"),("int",.ty "int"),("list",.ty "list"),("tuple",.ty "tuple"),("range",.ty "range"),("isinstance",.bi "isinstance"),("zip",.ty "zip"),("enumerate",.ty "enumerate"),("bytes",.ty "bytes"),("sum",.bi "sum"),("str",.ty "str")]
noncomputable def mS (x:Str):Option SV:=af x BJ
noncomputable def JZ (e:Str×SV):Bool:=(match e.2 with
 | .bi n=>bootBuiltins e.1 == some (.builtin n)
 | .ty n=>bootBuiltins e.1 == some (.type n)
 | _=>false)&&!sEq e.1 "__name__"
theorem yk:BJ.all JZ=true:=by rfl'
theorem mC {α:Type}{x:Str}{v:α}{l:List (Str×α)}(h:af x l=some v):(x,v)∈l:=by
 induction l with
 | nil=>exact nos h
 | cons p r ih=>
  rw [af] at h
  cases q:sEq p.1 x with
  | true=>rw [q] at h; obtain ⟨y,z⟩:=p; cases aQ.mp q; cases h; exact .head _
  | false=>rw [q] at h; exact .tail _ (ih h)
theorem on {ρ:Rho}{x:Str}{sv:SV}(h:mS x=some sv):∃ v,bootBuiltins x=some v∧sv.Is ρ v∧x≠"__name__":=
 cN (dQ yk _ (mC h)) fun a b=>by
  have ne:x≠"__name__":=cn.mp (js b)
  cases sv<;>first | exact eqT a | exact ⟨_,beq_iff_eq.mp a,rfl,ne⟩
noncomputable def asC:Option SO→Option SV
 | some (.cell v)=>v
 | _=>none
noncomputable def xS (cx:Cx)(x:Str)(st:St):Res (SV×St):=opt (af x cx.cells) fun k=>opt (asC (getH k st.σ)) fun v=>.ok (v,st)
noncomputable def EF (x:Str)(st:St):Option Value→Res (SV×St)
 | some v=>opt (A9 v) fun sv=>.ok (sv,st)
 | none=>opt (mS x) fun sv=>.ok (sv,st)
noncomputable def FA (K:Frag)(cx:Cx)(m:Loc)(x:Str)(st:St):NameKind→Res (SV×St)
 | .local=>opt (af x m) fun v=>.ok (v,st)
 | .globalImplicit=>opt (nsIn K mainGlobals x) (EF x st)
 | .cell=>xS cx x st
 | .free=>chk (!sEq x "__classdict__") (xS cx x st)
 | _=>.stuck 611
noncomputable def wF (K:Frag)(cx:Cx)(m:Loc)(x:Str)(st:St):Res (SV×St):=chk (!sEq x "__debug__") (opt (af x cx.sc.names) (FA K cx m x st))
theorem Ee {o:Option SO}{v:SV}(h:asC o=some v):o=some (.cell (some v)):=by
 cases o with
 | none=>exact nos h
 | some o=>cases o<;>first | exact nos h | exact congrArg (fun x=>some (SO.cell x)) h
section
variable {x:Str}
theorem f5 (e:gu ρ cx env)(x:Str):env.kindOf x=af x cx.sc.names:=by
 rw [ba,←e.sc]; rfl
theorem cL (e:gu ρ cx env):env.scope.kind=.function:=by
 rw [e.sc]; exact e.kd
theorem sne {x y:Str}(h:(!sEq x y)=true):(x == y)=false:=fU x y▸js h
theorem jX (at':At F ρ st s)(fm:Fm F ρ st.σ cx env m s.heap){c:Sem Value}(h:∀ {Q:Value→Shared→Prop}{E:Value→Shared→Prop} {a v},env.cells.lookup x=some a→(∃ o,s.heap.get? a=some o∧o.data=.cell (some v))→Q v s→wpAny (model prog w) A c Q E s):Sp A s (PE X F ρ st s) c (xS cx x st):=
 .opt fun k e=>.opt fun sv e2 Q E z=>by
  obtain ⟨p,hp,hl⟩:=fm.eok.cel _ _ e
  obtain ⟨p',hp',o,cv,ho,hd,hr⟩:=at'.getH (Ee e2)
  cases hp.symm.trans hp'
  cases cv with
  | none=>exact hr.elim
  | some v=>exact h hl ⟨o,ho,hd⟩ (z _ _ _ _ (.refl at') hr)
theorem qP (at':At F ρ st s)(fm:Fm F ρ st.σ cx env m s.heap)(hk:env.kindOf x=some .globalImplicit)(nd:(x == ("__debug__" : Str))=false){r:Option Value}(e:nsIn K mainGlobals x=some r):Sp A s (PE X F ρ st s) (eval (.Name x pos) env) (EF x st r):=by
 have hf:=cL fm.eok
 obtain ⟨mg,hg,hgl⟩:=at'.rep.world.g
 rw [←fm.eok.gl] at hg
 cases r with
 | some v=>exact .opt fun sv e'=>.same at' (vz e') fun h=>Name_function_global hf hk (loadGlobal_global hg (hgl _ _ e) h) nd
 | none=>
  refine .opt fun sv e' Q E z=>?_
  obtain ⟨v,hb,i,hne⟩:=on (ρ:=ρ) e'
  obtain ⟨mb,hbn,hbl⟩:=at'.rep.world.b
  rw [←fm.eok.bu] at hbn
  exact Name_function_global hf hk (loadGlobal_builtin hg (hgl _ _ e) hbn ((hbl x hne).trans hb) (z _ _ _ _ (.refl at') i)) nd
theorem pt (at':At F ρ st s)(fm:Fm F ρ st.σ cx env m s.heap):Sp A s (PE X F ρ st s) (eval (.Name x pos) env) (wF K cx m x st):=.chk fun nd=>.opt fun k e=>by
 have nd:=sne nd
 have hk:=f5 fm.eok x
 have hf:=cL fm.eok
 rw [e] at hk
 cases k
 case «local»=>
  refine .opt fun sv e Q E z=>?_
  obtain ⟨m',hns,hl⟩:=fm.ns
  obtain ⟨v,hv,i⟩:=hl _ _ e
  exact wpAny_Name (wpAny_loadName_local hf hk hns hv (z _ _ _ _ (.refl at') i)) nd
 case globalImplicit=>exact .opt fun r e=>qP at' fm hk nd e
 case cell=>exact jX at' fm fun hl ho h=>wpAny_Name (wpAny_loadName_cell hf hk hl ho h) nd
 case free=>exact .chk fun nc=>jX at' fm fun hl ho h=>wpAny_Name (wpAny_loadName_free hf hk hl ho h (sne nc)) nd
 all_goals exact .stuck
end
noncomputable def Bx:Option SO→Bool
 | some (.list _)=>true
 | some (.slist _)=>true
 | some (.ilist _)=>true
 | _=>false
noncomputable def asM:Option SO→Option ((Int→Int)×Nat)
 | some (.mem f n)=>some (f,n)
 | _=>none
noncomputable def Bf:SV→Option Addr
 | .sta a=>some a
 | _=>none
noncomputable def ES:Option CFound→Option Addr
 | some (.val (.ref f))=>some f
 | _=>none
noncomputable def FB (K:Frag)(x:Str)(o:SV)(q:Addr×List (Str×SV)):Res (SV×List SV):=chk (plainGet K q.1 x) (opt (Cc (findIn K (.ref q.1) x)) fun f=>chk (pp (af x q.2)) (chk (isFn K (.ref f)) (.ok (.sta f,[o]))))
noncomputable def Bk (K:Frag)(x:Str)(o:SV)(st:St):Res (SV×List SV):=alt (asN (bf st.σ o)) (FB K x o) (alt (Bf o)
 (fun C=>opt (typeIn K (.ref C)) fun mc=>chk (readsIn K C mc) (opt (ES (findCls K (.ref C) mc x)) fun f=>chk (xq "type.__getattribute__" (specialIn K (.ref C) "__getattribute__")) (.ok (.sta f,[]))))
 (alt (ff o) (fun y=>chk (sEq x "split") (.ok (.bi "str.split",[o])))
 (alt (asM (bf st.σ o)) (fun _=>chk (sEq x "get") (.ok (.bi "dict.get",[o]))) (chk (Bx (bf st.σ o)&&sEq x "append") (.ok (.bi "list.append",[o]))))))
theorem y5 {o:Option CFound}{f:Addr}(h:ES o=some f):o=some (.val (.ref f)):=by
 cases o with
 | none=>exact nos h
 | some o=>cases o with
  | val v=>cases v<;>first | exact nos h | exact congrArg (fun x=>some (CFound.val (.ref x))) (Option.some.inj h)
  | _=>exact nos h
theorem vH {a:SV}{k:Addr}(h:Bf a=some k):a=.sta k:=by
 cases a<;>first | exact nos h | exact congrArg SV.sta (Option.some.inj h)
theorem lG {o:Option SO}{q:(Int→Int)×Nat}(h:asM o=some q):o=some (.mem q.1 q.2):=by
 cases o with
 | none=>exact nos h
 | some o=>cases o<;>first | exact nos h | exact congrArg (fun x:(Int→Int)×Nat=>some (SO.mem x.1 x.2)) (Option.some.inj h)
noncomputable def PM (F:Fz)(ρ:Rho)(st:St)(s:Shared)(Q:Value×List Value→Shared→Prop)(r:SV×List SV):Prop:=∀ fv vs s',To [] F ρ st s F ρ st s'→r.1.Is ρ fv→ag (SV.Is ρ) r.2 vs→Q (fv,vs) s'
section
variable {x:Str}{o:SV}{vo:Value}{pl:Sem Bool}
theorem xm {h:Heap}{p:Addr×Addr}{so:SO}(e:Bx (some so)=true)(O:OkO ρ h p so):∃ vs n,h.get? p.1=some ⟨.type "list",none,.seq vs n,#[]⟩:=by
 cases so<;>first | exact eqT e | exact O.elim fun vs O=>O.elim fun n O=>⟨vs,n,O.1⟩
theorem pu (at':At F ρ st s)(io:o.Is ρ vo):Sp A s (PM F ρ st s) (getMethod vo x pl) (Bk K x o st):=
 .alt (fun q e=>.chk fun g1=>.opt fun f g2=>.chk fun g3=>.chk fun g4=>fun Q E z=>by
  refine at'.objK (jK e) io (fun p O io=>?_) io
  obtain ⟨es,ep,I,hk,hsz,hf⟩:=kn O
  have hn:nsFind es x=none:=by
   have hv:=hf x
   rw [iX g3] at hv
   cases hn:nsFind es x with
   | none=>rfl
   | some v=>rw [hn] at hv; exact hv.elim
  exact method_fn at'.rep.world.inK I (plainGet_of g1).1 (plainGet_of g1).2 (s8 g2) (beq_iff_eq.mp g4) (by show (lookIn x _).map _=_; rw [mE hk,hn]; rfl) (z _ _ _ (To.refl at') rfl (.cons io .nil)))
 (.alt (fun C e=>.opt fun mc e0=>.chk fun e1=>.opt fun f e2=>.chk fun e3=>fun Q E z=>by
  cases vH e
  cases io
  have X:=at'.rep.world.inK
  exact method_cls X (km e3) (cls_value X e1 (y5 e2) rfl (z _ _ _ (To.tok at' _) rfl .nil)))
 (.alt (fun y e=>.chk fun e1=>fun Q E z=>by
  cases aQ.mp e1
  refine j0 e io (fun t io=>?_) io
  have nr:∀ a,Value.str y t=.ref a→∃ o,s.heap.get? a=some o∧o.dict=none:=fun a e=>by cases e
  have z:=z (.builtin "str.split") [.str y t] _ (To.refl at') rfl (.cons io .nil)
  with_reducible exact getMethod_builtin (typeIs_str s y t) PySem.F.plainAttrs_str PySem.F.slot_str_split PySem.F.type_str_split nr z)
 (.alt (fun q e=>.chk fun e1=>fun Q E z=>by
  cases aQ.mp e1
  refine at'.objK (lG e) io (fun p O io=>?_) io
  obtain ⟨ne,g,hm,hle,hr⟩:=O
  exact getMethod_builtin (T:="dict") hm.typeIs PySem.F.plainAttrs_dict PySem.F.slot_dict_get PySem.F.type_dict_get hm.mapOf.noDict (z _ _ _ (To.refl at') rfl (.cons io .nil)))
 (.chk fun e1=>cN e1 fun e e1=>fun Q E z=>by
  cases aQ.mp e1
  cases e2:bf st.σ o with
  | none=>rw [e2] at e; exact eqT e
  | some so=>
   rw [e2] at e
   refine at'.objK e2 io (fun p O io=>?_) io
   obtain ⟨vs,n,ho⟩:=xm e O
   exact getMethod_builtin (T:="list") ⟨_,ho,rfl⟩ PySem.F.plainAttrs_list PySem.F.slot_list_append PySem.F.type_list_append (fun a e=>by cases e; exact ⟨_,ho,rfl⟩) (z _ _ _ (To.refl at') rfl (.cons io .nil))))))
end
end
section
noncomputable def rQ (e:Expr):Bool:=Nat.beq e.ctorIdx 22
noncomputable def noStar:List Expr→Bool
 | []=>true
 | e::r=>!rQ e&&noStar r
theorem oR {e:Expr}(h:rQ e=false):(fun r=>starEach (e::r))=fun r env=>(false,eval e env)::starEach r env:=by
 cases e<;>first | rfl | exact eqT h.symm
theorem lK {e:Expr}(h:rQ e=false)(r:List Expr)(env:Env):starEach (e::r) env=(false,eval e env)::starEach r env:=congrFun (congrFun (oR h) r) env
theorem bz {e:Expr}{r:List Expr}(h:noStar (e::r)=true)(env:Env):starEach (e::r) env=(false,eval e env)::starEach r env∧noStar r=true:=
 cN h fun a b=>⟨lK (js a) r env,b⟩
noncomputable def lF (e:Expr):Bool:=!Nat.beq e.ctorIdx 16
noncomputable def BK:Str→Env→Sem Value→Sem Value:=fun _ _ x=>x
theorem u7 {o:Expr}(h:lF o=true):attributeBase o=BK:=by
 cases o<;>first | exact @rfl _ BK | exact eqT h
theorem jJ {o:Expr}{attr:Str}{env:Env}(h:lF o=true):attributeBase o attr env (eval o env)=eval o env:=congrFun (congrFun (congrFun (u7 h) attr) env) _
theorem aY {es:List Expr}(h:noStar es=true)(env:Env)(pos:Pos):(backTo pos (starEach es env)).any (·.1)=false:=by
 induction es with
 | nil=>rfl
 | cons e r ih=>
  obtain ⟨a,b⟩:=bz h env
  rw [a]
  exact ih b
theorem ch {M:Model}{A:Around}{E:Value→Shared→Prop}{s:Shared}{f:Value}{es:List Expr}{env:Env}{pos:Pos}{Q:Args→Shared→Prop}(hn:noStar es=true)
  (h:wpAny M A (spliced (backTo pos (starEach es env))) (fun vs s'=>Q ⟨vs,[]⟩ s') E s):wpAny M A (evalArgs f true (backTo pos (starEach es env)) []) Q E s:=by
 cases es with
 | nil=>
  unfold evalArgs
  show wpAny M A (spliced [] >>= _) Q E s
  refine wpAny_bind (wpAny_mono h (fun vs s₁ hq=>wpAny_bind (wpAny_pure (wpAny_holding (wpAny_bind (wpAny_pure (wpAny_bind (wpAny_pure (wpAny_pure hq)))))))) fun _ _ x=>x)
 | cons e r=>
  obtain ⟨a,_⟩:=bz hn env
  rw [a] at h ⊢
  exact evalArgs_plain h
noncomputable def d7 (e:Expr):Bool:=Nat.beq e.ctorIdx 7
theorem eS {op:CmpOp}{r:Expr}(h:d7 r=false):behindInMarks op r=false:=by
 cases r<;>first | exact @rfl _ false | exact eqT h.symm
noncomputable def cS (e:Expr):Bool:=Nat.beq e.ctorIdx 26
noncomputable def xP:Const→Option SV
 | .none=>some .none
 | .bool b=>some (.bool b)
 | .int i=>some (.int i)
 | .str x=>some (.str x)
 | _=>none
noncomputable def jS:SV→Option Nat
 | .int (.ofNat n)=>some n
 | _=>none
noncomputable def jj:SV→Option Int
 | .uint i=>some i
 | _=>none
noncomputable def Ai (a:SV):Option Nat:=(jS a).bind fun n=>match Nat.ble n 1000000 with
 | true=>some n
 | false=>none
noncomputable def asS:Option SO→Option (List SV)
 | some (.slist xs)=>some xs
 | _=>none
noncomputable def asT:Option SO→Option (List SV)
 | some (.tup xs)=>some xs
 | _=>none
noncomputable def asD:Option SO→Option (List (Str×SV))
 | some (.sdict es)=>some es
 | _=>none
noncomputable def one {α:Type}:List α→Option α
 | [x]=>some x
 | _=>none
noncomputable def unV (op:UnaryOp)(a:SV)(st:St):Res (SV×St):=match op with
 | .USub=>opt (cE a) fun q=>.ok (mkI q.1 (-q.2),st)
 | _=>.stuck 702
noncomputable def boolR (b:Bool)(st:St):Res (Bool×St):=.fork b (.ok (true,st)) (.ok (false,st))
noncomputable def kz (a:SV)(st:St):Res (Bool×St):=match a with
 | .bool b=>.ok (b,st)
 | .ubool b=>boolR b st
 | .none=>.ok (false,st)
 | .int i=>.ok (i != 0,st)
 | .uint i=>boolR (i != 0) st
 | _=>.stuck 703
noncomputable def cR (o:SO)(st:St):Res (SV×St):=.ok (.ref st.nx,⟨(st.nx,o)::st.σ,st.nx+1⟩)
noncomputable def J1 (a b:SV)(st:St):Res (SV×St):=opt (asL (bf st.σ b)) fun ys=>alt (asL (bf st.σ a)) (fun xs=>chk (Nat.ble (xs.length+ys.length) 1000) (cR (.list (xs++ys)) st))
 (opt (asS (bf st.σ a)) fun xs=>.need (xs.length+ys.length≤1000) (cR (.slist (xs++ys)) st))
noncomputable def JY (op:Operator)(a b:SV)(st:St):Res (SV×St):=match op with
 | .Add=>alt (ff a) (fun x=>opt (ff b) fun y=>chk (Nat.ble (x.length+y.length) 1000) (.ok (.str (x++y),st))) (J1 a b st)
 | .Mult=>opt (asL (bf st.σ a)) fun xs=>opt (one xs) fun v=>opt (jS b) fun n=>chk (Nat.ble n 1000) (cR (.list (List.replicate n v)) st)
 | _=>.stuck 716
noncomputable def HV (op:Operator)(a b:SV)(st:St):Res (SV×St):=alt (cE a) (fun x=>opt (cE b) fun y=>yj op x.1 x.2 y.1 y.2 st) (JY op a b st)
noncomputable def Bu (i:SV)(st:St)(xs:List SV):Res (SV×St):=alt (Ai i) (fun n=>opt xs[n]? fun v=>.ok (v,st)) (opt (jj i) fun j=>opt (lm xs) fun l=>.need (0≤j∧j<l.length) (chk (Nat.ble l.length 1000) (.ok (.uint (l.getD j.toNat 0),st))))
noncomputable def Bs (i:SV)(st:St)(xs:List SV):Res (SV×St):=opt (Ai i) fun n=>opt xs[n]? fun v=>.ok (v,st)
noncomputable def Bv (i:SV)(st:St)(xs:List Int):Res (SV×St):=opt (cE i) fun q=>.need (0≤q.2∧q.2<xs.length∧xs.length<2 ^ 62) (.ok (.uint (xs.getD q.2.toNat 0),st))
noncomputable def Bw (i:SV)(st:St)(es:List (Str×SV)):Res (SV×St):=opt (ff i) fun x=>opt (af x es) fun v=>.ok (v,st)
noncomputable def Gx (i:SV)(st:St)(q:Int×SV):Res (SV×St):=opt (cE i) fun x=>.need (q.1=x.2) (.ok (q.2,st))
noncomputable def Bt (i:SV)(st:St)(x:Str):Res (SV×St):=opt (Ai i) fun n=>opt x.cps.toList[n]? fun c=>.ok (.str ⟨#[c]⟩,st)
noncomputable def p6 (o i:SV)(st:St):Res (SV×St):=alt (asL (bf st.σ o)) (Bu i st) (alt (asT (bf st.σ o)) (Bs i st) (alt (asI (bf st.σ o)) (Bv i st) (alt (asD (bf st.σ o)) (Bw i st) (alt (asK (bf st.σ o)) (Gx i st) (opt (ff o) (Bt i st))))))
end
section
theorem k7 {a:SV}{n:Nat}(h:jS a=some n):a=.int n:=by
 cases a with
 | int i=>cases i<;>first | exact nos h | exact congrArg (fun n:Nat=>SV.int n) (Option.some.inj h)
 | _=>exact nos h
theorem gW {a:SV}{i:Int}(h:jj a=some i):a=.uint i:=by
 cases a<;>first | exact nos h | exact congrArg SV.uint (Option.some.inj h)
theorem sC {o:Option SO}{xs:List SV}(h:asS o=some xs):o=some (.slist xs):=by
 cases o with
 | none=>exact nos h
 | some o=>cases o<;>first | exact nos h | exact congrArg (fun x=>some (SO.slist x)) (Option.some.inj h)
theorem Ea {o:Option SO}{xs:List SV}(h:asT o=some xs):o=some (.tup xs):=by
 cases o with
 | none=>exact nos h
 | some o=>cases o<;>first | exact nos h | exact congrArg (fun x=>some (SO.tup x)) (Option.some.inj h)
theorem Ed {o:Option SO}{es:List (Str×SV)}(h:asD o=some es):o=some (.sdict es):=by
 cases o with
 | none=>exact nos h
 | some o=>cases o<;>first | exact nos h | exact congrArg (fun x=>some (SO.sdict x)) (Option.some.inj h)
theorem dT {α:Type}{l:List α}{x:α}(h:one l=some x):l=[x]:=by
 cases l with
 | nil=>exact nos h
 | cons a r=>cases r with
  | nil=>exact congrArg (· :: []) (Option.some.inj h)
  | cons _ _=>exact nos h
noncomputable def cB:SO→Bool
 | .inst ..=>false
 | .ro _=>false
 | _=>true
theorem cW {o:SO}(h:cB o=true)(p:Addr×Addr):aN p o=[p.1]:=by
 cases o<;>first | rfl | cases h
theorem jp {o:SO}(h:cB o=true)(x:SO):o≠.ro x:=fun e=>by rw [e] at h; cases h
section
variable {a b:SV}{va vb:Value}{G:Value→Prop}
@[elab_as_elim] theorem CG {n:Nat}(h:jS a=some n)(i:a.Is ρ v)(k:∀ t,G (.int n t)):G v:=by
 rw [k7 h] at i
 exact i.elim fun t e=>e▸k t
@[elab_as_elim] theorem ixK {n:Nat}(h:Ai a=some n)(i:a.Is ρ v)(k:n<2 ^ 62→∀ t,G (.int n t)):G v:=by
 obtain ⟨m,e,h⟩:=bD h
 cases q:Nat.ble m 1000000 with
 | false=>rw [q] at h; exact nos h
 | true=>
  rw [q] at h
  cases Option.some.inj h
  exact CG e i (k (Nat.lt_of_le_of_lt (cC q) (by decide)))
@[elab_as_elim] theorem ED {j:Int}(h:jj a=some j)(i:a.Is ρ v)(k:∀ t,G (.int j t)):G v:=by
 rw [gW h] at i
 exact i.elim fun t e=>e▸k t
@[elab_as_elim] theorem At.slistK (at':At F ρ st s){xs:List SV}(e:asS (bf st.σ a)=some xs)(i:a.Is ρ v)(k:∀ l vs n,s.heap.get? l=some ⟨.type "list",none,.seq vs n,#[]⟩→ag (SV.Is ρ) xs vs.toList→G (.ref l)):G v:=
 at'.objK (sC e) i fun p O=>O.elim fun vs O=>O.elim fun n O=>k p.1 vs n O.1 O.2
@[elab_as_elim] theorem At.tupK (at':At F ρ st s){xs:List SV}(e:asT (bf st.σ a)=some xs)(i:a.Is ρ v)(k:∀ l vs n,s.heap.get? l=some ⟨.type "tuple",none,.seq vs n,#[]⟩→ag (SV.Is ρ) xs vs.toList→G (.ref l)):G v:=
 at'.objK (Ea e) i fun p O=>O.elim fun vs O=>O.elim fun n O=>k p.1 vs n O.1 O.2
theorem To.alloc (at':At F ρ st s){h':Heap}{tk:Nat}{so:SO}(hp:cB so=true)(hk:∀ b x,s.heap.get? b=some x→h'.get? b=some x)(O:OkO (ρ++[(s.heap.objs.size,0)]) h' (s.heap.objs.size,0) so) :
  To [] F ρ st s F (ρ++[(s.heap.objs.size,0)]) ⟨(st.nx,so)::st.σ,st.nx+1⟩ { s with heap:=h',toks:=tk }∧(SV.ref st.nx).Is (ρ++[(s.heap.objs.size,0)]) (.ref s.heap.objs.size):=by
 obtain ⟨R',X'⟩:=at'.rep.add (p:=(s.heap.objs.size,0)) (o:=so) hk (fun b hb=>by rw [cW hp] at hb; exact ak hb▸aT _) (by rw [cW hp]; exact List.nodup_cons.mpr ⟨fun h=>(List.not_mem_nil h).elim,.nil⟩) (jp hp) O
 obtain ⟨σ,n⟩:=st
 cases at'.len
 exact ⟨⟨⟨R',by simp⟩,X',rfl⟩,⟨(s.heap.objs.size,0),by simp,rfl⟩⟩
theorem Sp.alloc {so:SO}{h':Heap}{tk:Nat}{c:Sem Value}(at':At F ρ st s)(hp:cB so=true)(hk:∀ b x,s.heap.get? b=some x→h'.get? b=some x)(O:OkO (ρ++[(s.heap.objs.size,0)]) h' (s.heap.objs.size,0) so)
  (h:∀ {Q E},Q (.ref s.heap.objs.size) { s with heap:=h',toks:=tk }→wpAny (model prog w) A c Q E s):Sp A s (PE [] F ρ st s) c (cR so st):=fun _ _ z=>
 have T:=To.alloc (tk:=tk) at' hp hk O
 h (z _ _ _ _ T.1 T.2)
theorem fT {so:SO}{h':Heap}{tk:Nat}{Q:Value→Shared→Prop}(at':At F ρ st s)(hp:cB so=true)(hk:∀ b x,s.heap.get? b=some x→h'.get? b=some x)(O:OkO (ρ++[(s.heap.objs.size,0)]) h' (s.heap.objs.size,0) so)(h:(cR so st).Ok (PE [] F ρ st s Q)):Q (.ref s.heap.objs.size) { s with heap:=h',toks:=tk }:=
 have T:=To.alloc (tk:=tk) at' hp hk O
 h _ _ _ _ T.1 T.2
theorem bN {h:Heap}{o:Obj}(b:Addr)(x:Obj)(e:h.get? b=some x):(h.push o).get? b=some x:=Heap.get?_push_of_some _ e
theorem ag.mono {ρ τ:Rho}{xs:List SV}{vs:List Value}(h:ag (SV.Is ρ) xs vs):ag (SV.Is (ρ++τ)) xs vs:=h.imp fun _ _ z=>z.mono
theorem nO {ρ:Rho}{h:Heap}{xs:List SV}{vs:Array Value}(hv:ag (SV.Is ρ) xs vs.toList){p:Addr×Addr}:OkO (ρ++[p]) (h.push { cls:=.type "list",data:=.seq vs }) (h.objs.size,0) (.list xs):=
 ⟨vs,0,Heap.get?_push_size _ rfl,hv.mono⟩
theorem qO {ρ:Rho}{h:Heap}{xs:List SV}{vs:Array Value}(hv:ag (SV.Is ρ) xs vs.toList){p:Addr×Addr}:OkO (ρ++[p]) (h.push { cls:=.type "tuple",data:=.seq vs }) (h.objs.size,0) (.tup xs):=
 ⟨vs,0,Heap.get?_push_size _ rfl,hv.mono⟩
theorem mT {xs ys:List SV}{so:SO}{l l':Addr}{vs vs':Array Value}{n n':Nat}(at':At F ρ st s)(hp:cB so=true)(hso:∀ ρ h p,OkO ρ h p (.list (xs++ys))→OkO ρ h p so)(ho:s.heap.get? l=some ⟨.type "list",none,.seq vs n,#[]⟩)(hv:ag (SV.Is ρ) xs vs.toList)(ho':s.heap.get? l'=some ⟨.type "list",none,.seq vs' n',#[]⟩)(hv':ag (SV.Is ρ) ys vs'.toList)
  (hle:xs.length+ys.length≤1000):Sp A s (PE [] F ρ st s) (binaryOp .Add (.ref l) (.ref l')) (cR so st):=
 .alloc (tk:=s.toks) at' hp bN (hso _ _ _ (nO (by rw [Array.toList_append]; exact hv.append hv'))) fun h=>PySem.P.add_list (items:=vs) (items2:=vs') ho ho' h (by
  rw [sizeLine_eq,cU hv,cU hv']
  omega)
theorem zB {l:Addr}{items:Array Value}{k:Nat}{x:Int}{u:Tok}{Q:Value→Shared→Prop}(hlo:0≤x)(hhi:x<2 ^ 62)
  (hl:s.heap.get? l=some { cls:=.type "list",dict:=none,data:=.seq items k,slots:=#[] }) (hsz:items.size*x.toNat≤2 ^ 24)
  (h:Q (.ref s.heap.objs.size) { s with heap:=s.heap.push { cls:=.type "list",data:=.seq (List.foldl (fun x1 x2=>x1++x2) #[] (List.replicate (if items.isEmpty=true then 0 else x.toNat) items)) } }) :
  wpAny (model prog w) A (binaryOp .Mult (.ref l) (.int x u)) Q E s:=
 wpAny_binaryOp_repeat_ref (T:="list") (U:="int") (by decide) ⟨_,hl,rfl⟩ (fun s'=>typeIs_int s' x u) noFill_list_mul PySem.F.fills_int_mul PySem.F.slot_int_rmul repeat_list PySem.F.slot_int_index.lookup
  (call_meets PySem.F.slot_int_rmul (typeIs_int s x u) PySem.F.entry_int_rmul (PySem.F.args_int_rmul_2 _ _) (int___rmul___int_list x u l items k)
   ⟨hl,rfl,⟨_,hl,rfl⟩,call_meets PySem.F.slot_list_mul ⟨_,hl,rfl⟩ PySem.F.entry_list_mul (PySem.F.args_list_mul_2 _ _)
    (AutoListH.list___mul___list_int_3 l items k x u (by simp [Builtin.List.listFitsIndex]; omega) (by omega) (by simp [Builtin.List.listTooLong,sizeLine]; omega))
    ⟨hl,h⟩⟩)
theorem xD (v:Value)(n:Nat)(acc:Array Value):(List.foldl (fun x1 x2=>x1++x2) acc (List.replicate n #[v])).toList=acc.toList++List.replicate n v:=by
 induction n generalizing acc with
 | zero=>exact (List.append_nil _).symm
 | succ n ih=>
  rw [List.replicate_succ,List.foldl_cons,ih,List.replicate_succ,Array.toList_append,List.append_assoc]
  rfl
theorem yZ {x:SV}(i:x.Is ρ v)(n:Nat):ag (SV.Is ρ) (List.replicate n x) (List.replicate n v):=by
 induction n with
 | zero=>exact .nil
 | succ n ih=>exact .cons i ih
theorem sy {op:Operator}(at':At F ρ st s)(ia:a.Is ρ va)(ib:b.Is ρ vb):Sp A s (PE [] F ρ st s) (binaryOp op va vb) (HV op a b st):=
 .alt (fun x e=>.opt fun y e'=>gy e ia fun t=>gy e' ib fun u=>oq at') (by
  cases op
  case Add=>
   exact .alt (fun x e=>.opt fun y e'=>.chk fun q=>j0 e ia fun t=>j0 e' ib fun u=>fun _ _ z=>add_str (fun t' tk=>z _ _ _ _ (To.tok at' _) ⟨t',rfl⟩) (Nat.le_trans (cC q) (by rw [sizeLine_eq]; decide)))
    (.opt fun ys e'=>at'.listK e' ib fun l' vs' n' ho' hv'=>.alt (fun xs e=>at'.listK e ia fun l vs n ho hv=>.chk fun q=>mT at' rfl (fun _ _ _ h=>h) ho hv ho' hv' (cC q)) (.opt fun xs e=>at'.slistK e ia fun l vs n ho hv=>.need fun q=>mT at' rfl (fun _ _ _ h=>h) ho hv ho' hv' q))
  case Mult=>
   refine .opt fun xs e=>.opt fun x e1=>.opt fun n e2=>.chk fun q=>at'.listK e ia fun l vs m ho hv=>CG e2 ib fun t=>?_
   cases dT e1
   obtain ⟨v,hv,iv⟩:=hv.inv1
   obtain ⟨vl⟩:=vs
   cases hv
   have q:=cC q
   exact .alloc (tk:=s.toks) at' rfl bN (nO ((xD v n #[]).symm▸yZ iv n)) fun h=>zB (Int.natCast_nonneg _) (Int.ofNat_lt.mpr (Nat.lt_of_le_of_lt q (by decide))) ho (Nat.le_trans (Nat.le_of_eq (Nat.one_mul n)) (Nat.le_trans q (by decide))) h
  all_goals exact .stuck)
theorem tY {op:UnaryOp}(at':At F ρ st s)(ia:a.Is ρ va):Sp A s (PE [] F ρ st s) (unaryOp op va) (unV op a st):=by
 cases op
 case USub=>exact .opt fun q e=>gy e ia fun t=>.int at' fun h=>neg_int h
 all_goals exact .stuck
theorem Sp.truth {c:Sem Bool}{b:Bool}(at':At F ρ st s)(h:∀ {Q E},Q b s→wpAny (model prog w) A c Q E s):Sp A s (PT X F ρ st s) c (.ok (b,st)):=fun _ _ z=>h (z _ _ _ (.refl at'))
theorem Sp.boolR {c:Sem Bool}{b:Bool}(at':At F ρ st s)(h:∀ {Q E},Q b s→wpAny (model prog w) A c Q E s):Sp A s (PT X F ρ st s) c (boolR b st):=fun Q E z=>h (by
 cases b
 ·exact z.2 rfl _ _ _ (.refl at')
 ·exact z.1 rfl _ _ _ (.refl at'))
theorem eh (at':At F ρ st s)(ia:a.Is ρ va):Sp A s (PT X F ρ st s) (truthy va) (kz a st):=by
 cases a
 case none=>cases ia; exact .truth at' fun h=>wpAny_pure h
 case bool=>cases ia; exact .truth at' fun h=>wpAny_truthy_bool h
 case ubool=>cases ia; exact .boolR at' fun h=>wpAny_truthy_bool h
 case int=>exact ia.elim fun t e=>e▸.truth at' fun h=>truthy_int h
 case uint=>exact ia.elim fun t e=>e▸.boolR at' fun h=>truthy_int h
 all_goals exact .stuck
noncomputable def EH:Value→Value→Sem Value:=fun o i=>operate [o,i] (getItem o i)
theorem kC {slice:Expr}(h:cS slice=false):subscripted slice false=EH:=by
 cases slice<;>first | exact @rfl _ EH | exact eqT h.symm
theorem bZ {slice:Expr}{o i:Value}(h:cS slice=false):subscripted slice false o i=operate [o,i] (getItem o i):=congrFun (congrFun (kC h) o) i
theorem jU {vs:List Value}{xs:List Int}(h:IntsAre vs xs){i:Nat}(hi:i<xs.length):∃ t,vs[i]?=some (.int (xs.getD i 0) t):=by
 induction h generalizing i with
 | nil=>cases hi
 | cons n t r ih=>
  cases i with
  | zero=>exact ⟨t,rfl⟩
  | succ i=>exact ih (Nat.lt_of_succ_lt_succ hi)
variable {value slice:Expr}{i:SV}{vi:Value}{l:Addr}
theorem jB {vs:Array Value}{n:Nat}{x:Value}{j:Int}{t:Tok}{Q:Value→Shared→Prop}(hs:cS slice=false)(ho:s.heap.get? l=some ⟨.type "list",none,.seq vs n,#[]⟩)(h0:0≤j)(h1:j<2 ^ 63)(hx:vs.toList[j.toNat]?=some x)(h:Q x s):wpAny (model prog w) A (subscriptTail value slice (.ref l) (.int j t)) Q E s:=
 tail_any (T:="list") ⟨_,ho,rfl⟩ slot_list_getitem.lookup (wpAny_getItem_list (au ho) h0 h1 (by rw [←Array.getElem?_toList]; exact hx) h) (bZ hs)
theorem dG {n:Nat}(h:n<2 ^ 62):(n:Int)<2 ^ 63:=Int.ofNat_lt.mpr (Nat.lt_trans h (by decide))
theorem toNat_lt {j:Int}{n:Nat}(h0:0≤j)(h1:j<n):j.toNat<n:=(Int.toNat_lt h0).mpr h1
theorem Bg {n m:Nat}(h:n<m):seqIndex? (n:Int) m=some n:=by
 unfold seqIndex?
 rw [if_neg (Int.not_lt.mpr (Int.natCast_nonneg n))]
 exact if_pos (by show (0≤(n:Int)&&decide ((n:Int)<m))=true; rw [decide_eq_true (Int.natCast_nonneg n),decide_eq_true (Int.ofNat_lt.mpr h)]; rfl)
theorem pU {vs:Array Value}{n:Nat}{xs:List SV}(at':At F ρ st s)(hs:cS slice=false)(ii:i.Is ρ vi)(ho:s.heap.get? l=some ⟨.type "list",none,.seq vs n,#[]⟩)(hv:ag (SV.Is ρ) xs vs.toList):Sp A s (PE [] F ρ st s) (subscriptTail value slice (.ref l) vi) (Bu i st xs):=
 .alt (fun n e=>.opt fun sv e2=>ixK e ii fun hn t=>(hv.get e2).elim fun v hx=>.same at' hx.2 fun h=>jB hs ho (Int.natCast_nonneg _) (dG hn) hx.1 h)
  (.opt fun j e=>.opt fun l e2=>.need fun hj=>.chk fun q=>ED e ii fun t=>(jU (f9 e2 hv) (toNat_lt hj.1 hj.2)).elim fun t' ht=>.same (sv:=.uint _) at' ⟨t',rfl⟩ fun h=>jB hs ho hj.1 (Int.lt_trans hj.2 (Int.ofNat_lt.mpr (Nat.lt_of_le_of_lt (cC q) (by decide)))) ht h)
theorem pS {vs:Array Value}{n:Nat}{xs:List SV}(at':At F ρ st s)(hs:cS slice=false)(ii:i.Is ρ vi)(ho:s.heap.get? l=some ⟨.type "tuple",none,.seq vs n,#[]⟩)(hv:ag (SV.Is ρ) xs vs.toList):Sp A s (PE [] F ρ st s) (subscriptTail value slice (.ref l) vi) (Bs i st xs):=
 .opt fun n e=>.opt fun sv e2=>ixK e ii fun hn t=>(hv.get e2).elim fun v hx=>.same at' hx.2 fun h=>tail_any (T:="tuple") ⟨_,ho,rfl⟩ slot_tuple_getitem.lookup (PyProof.Rows.getItem_tuple (cD ho) (Int.le_trans (by decide) (Int.natCast_nonneg n)) (dG hn) (j:=n) (x:=v) (Bg (Array.length_toList▸(List.getElem?_eq_some_iff.mp hx.1).1)) (by rw [←Array.getElem?_toList]; exact hx.1) h) (bZ hs)
theorem pV {vs:Array Value}{n:Nat}{xs:List Int}(at':At F ρ st s)(hs:cS slice=false)(ii:i.Is ρ vi)(ho:s.heap.get? l=some ⟨.type "list",none,.seq vs n,#[]⟩)(hv:IntsAre vs.toList xs):Sp A s (PE [] F ρ st s) (subscriptTail value slice (.ref l) vi) (Bv i st xs):=
 .opt fun q e=>.need fun hj=>gy e ii fun t=>(jU hv (toNat_lt hj.1 hj.2.1)).elim fun t' ht=>.same (sv:=.uint _) at' ⟨t',rfl⟩ fun h=>jB hs ho hj.1 (Int.lt_trans hj.2.1 (dG hj.2.2)) ht h
theorem pW {es:List (Str×SV)}{p:Addr×Addr}(at':At F ρ st s)(hs:cS slice=false)(ii:i.Is ρ vi)(O:OkO ρ s.heap p (.sdict es)):Sp A s (PE [] F ρ st s) (subscriptTail value slice (.ref p.1) vi) (Bw i st es):=
 .opt fun x e=>.opt fun sv e2=>j0 e ii fun t=>fun Q E z=>by
  obtain ⟨g,hm,hle,hr⟩:=O
  have hx:=hr x
  rw [e2] at hx
  cases hg:valueAt g x with
  | none=>rw [hg] at hx; exact hx.elim
  | some v=>
   rw [hg] at hx
   exact tail_any (T:="dict") hm.typeIs slot_dict_getitem.lookup (wpAny_getItem_of (strKind_is prog w x t) hm.mapOf hg (z _ _ _ _ (To.tok at' _) hx)) (bZ hs)
theorem pT {x:Str}{u:Tok}(at':At F ρ st s)(hs:cS slice=false)(ii:i.Is ρ vi):Sp A s (PE [] F ρ st s) (subscriptTail value slice (.str x u) vi) (Bt i st x):=
 .opt fun n e=>.opt fun c e2=>ixK e ii fun hn t=>fun Q E z=>by
  have hlt:n<x.length:=by
   have:=(List.getElem?_eq_some_iff.mp e2).1
   rwa [Array.length_toList] at this
  have z:=z _ _ _ (.str ⟨#[c]⟩ s.toks) (To.tok at' (s.toks+1)) ⟨_,rfl⟩
  have hr:(decide ((n:Int) < -(2 ^ 63:Int))||decide ((n:Int) ≥ 2 ^ 63))=false:=by
   rw [Bool.or_eq_false_iff]
   constructor<;>(rw [decide_eq_false_iff_not]; omega)
  have g:=PySem.P.getItem_str (prog:=prog) (w:=w) (A:=A) (E:=E) (s:=s) (x:=x) (t:=u) (u:=t) hr (show (seqIndex? (n:Int) x.length).bind (x.cps[·]?)=some c by rw [Bg hlt]; exact (Array.getElem?_toList ..).symm.trans e2) z
  have ty:=typeIs_str s x u
  with_reducible exact tail_any ty slot_str_getitem.lookup g (bZ hs)
theorem ls {o:SV}{vo:Value}(at':At F ρ st s)(io:o.Is ρ vo)(ii:i.Is ρ vi)(hs:cS slice=false):Sp A s (PE [] F ρ st s) (subscriptTail value slice vo vi) (p6 o i st):=
 .alt (fun xs e=>at'.listK e io fun l vs n ho hv=>pU at' hs ii ho hv) (.alt (fun xs e=>at'.tupK e io fun l vs n ho hv=>pS at' hs ii ho hv) (.alt (fun xs e=>at'.ilistK e io fun l vs n ho hv=>pV at' hs ii ho hv)
  (.alt (fun es e=>at'.objK (Ed e) io fun p O=>pW at' hs ii O) (.alt (fun q e=>.opt fun x e2=>.need fun hq=>gy e2 ii fun t=>at'.kdictK e io fun l kvs x ne hd hg i=>fun Q E z=>tail_any (T:="dict") hd.typeIs slot_dict_getitem.lookup (wpAny_getItem_of (knd:=intKind prog w) (intKind_is prog w _ t) hd.mapOf (hq▸hg) (z _ _ _ _ (To.tok at' _) i)) (bZ hs))
  (.opt fun x e=>j0 e io fun u=>pT at' hs ii)))))
end
end
section
noncomputable def cr (K:Frag):SV→Bool
 | .sta a=>keepIn K (.ref a)
 | .bi _=>true
 | .ty _=>true
 | _=>false
noncomputable def ot (e:Expr):Option (Expr×Str×Pos):=if h:e.ctorIdx=20 then Expr.Attribute.elim e h fun o x p=>some (o,x,p) else none
theorem u9 {f:Expr}{q:Expr×Str×Pos}(h:ot f=some q):f=.Attribute q.1 q.2.1 q.2.2:=by
 cases f<;>first | exact nos h | exact congrArg (fun q:Expr×Str×Pos=>Expr.Attribute q.1 q.2.1 q.2.2) (Option.some.inj h)
theorem u8 {f:Expr}(h:ot f=none)(o:Expr)(x:Str)(p:Pos):f≠.Attribute o x p:=fun e=>by rw [e] at h; exact nos h.symm
noncomputable def HN (ih:Ev)(cx:Cx)(m:Loc)(l:Expr)(ops:List CmpOp)(rs:List Expr)(st:St):Res (SV×St):=opt (one ops) fun op=>opt (one rs) fun r=>chk (!d7 r) ((ih.e cx m l st).bind fun a=>(ih.e cx m r a.2).bind fun b=>xR op a.1 b.1 b.2)
noncomputable def BI (K:Frag)(ih:Ev)(cx:Cx)(m:Loc)(args:List Expr)(pos:Pos)(st:St)(q:Expr×Str×Pos):Res (SV×St):=chk (lF q.1) (chk (noStar args) (chk (Nat.blt args.length 20) (chk (Nat.beq q.2.2.endLine pos.line)
 ((ih.e cx m q.1 st).bind fun a=>(Bk K q.2.1 a.1 a.2).bind fun f=>chk (cr K f.1) ((ih.es cx m args a.2).bind fun r=>ih.c cx.d f.1 (f.2++r.1) r.2)))))
noncomputable def BF (K:Frag)(ih:Ev)(cx:Cx)(m:Loc)(f:Expr)(args:List Expr)(pos:Pos)(st:St):Res (SV×St):=chk (noStar args) ((ih.e cx m f st).bind fun a=>chk (cr K a.1) ((ih.es cx m args a.2).bind fun r=>ih.c cx.d a.1 r.1 r.2))
noncomputable def BH (K:Frag)(ih:Ev)(cx:Cx)(m:Loc)(f:Expr)(args:List Expr)(kw:List Keyword)(pos:Pos)(st:St):Res (SV×St):=chk kw.isEmpty (alt (ot f) (BI K ih cx m args pos st) (chk (pp (ot f)) (BF K ih cx m f args pos st)))
noncomputable def B1 (ih:Ev)(cx:Cx)(m:Loc)(mk:List SV→SO)(es:List Expr)(st:St):Res (SV×St):=chk (noStar es) ((ih.es cx m es st).bind fun r=>chk (Nat.ble r.1.length 1000) (cR (mk r.1) r.2))
noncomputable def EI (ih:Ev)(cx:Cx)(m:Loc)(o i:Expr)(st:St):Res (SV×St):=chk (!cS i) ((ih.e cx m o st).bind fun a=>(ih.e cx m i a.2).bind fun b=>p6 a.1 b.1 b.2)
noncomputable def ifE (ih:Ev)(cx:Cx)(m:Loc)(a b:Expr)(c:Bool×St):Res (SV×St):=match c.1 with
 | true=>ih.e cx m a c.2
 | false=>ih.e cx m b c.2
noncomputable def vG (ih:Ev)(cx:Cx)(m:Loc)(es:List Expr)(st:St):Res (List SV×St):=match es with
 | []=>.ok ([],st)
 | e::r=>chk (noStar (e::r)) ((ih.e cx m e st).bind fun a=>(ih.es cx m r a.2).bind fun b=>.ok (a.1::b.1,b.2))
noncomputable def two {α:Type}:List α→Option (α×α)
 | [x,y]=>some (x,y)
 | _=>none
theorem jk {α:Type}{l:List α}{x:α×α}(h:two l=some x):l=[x.1,x.2]:=by
 cases l with
 | nil=>exact nos h
 | cons a r=>cases r with
  | nil=>exact nos h
  | cons b r=>cases r with
   | nil=>exact congrArg (fun x:α×α=>[x.1,x.2]) (Option.some.inj h)
   | cons _ _=>exact nos h
noncomputable def HL (ih:Ev)(cx:Cx)(m:Loc)(l:Expr)(op:CmpOp)(r:Expr)(st:St):Res (Bool×St):=chk (!d7 r) ((ih.e cx m l st).bind fun a=>(ih.e cx m r a.2).bind fun b=>(xR op a.1 b.1 b.2).bind fun c=>kz c.1 c.2)
noncomputable def BE (ih:Ev)(cx:Cx)(m:Loc)(op2:CmpOp)(r2:Expr)(b:SV)(t:Bool×St):Res (Bool×St):=match t.1 with
 | true=>(ih.e cx m r2 t.2).bind fun b2=>(xR op2 b b2.1 b2.2).bind fun c2=>kz c2.1 c2.2
 | false=>.ok (false,t.2)
noncomputable def HK (ih:Ev)(cx:Cx)(m:Loc)(l:Expr)(op1 op2:CmpOp)(r1 r2:Expr)(st:St):Res (Bool×St):=chk (!d7 r2) ((ih.e cx m l st).bind fun a=>(ih.e cx m r1 a.2).bind fun b=>(xR op1 a.1 b.1 b.2).bind fun c=>(kz c.1 c.2).bind (BE ih cx m op2 r2 b.1))
noncomputable def HM (ih:Ev)(cx:Cx)(m:Loc)(l:Expr)(ops:List CmpOp)(rs:List Expr)(st:St):Res (Bool×St):=alt (one ops) (fun op=>opt (one rs) fun r=>HL ih cx m l op r st) (opt (two ops) fun o2=>opt (two rs) fun r2=>HK ih cx m l o2.1 o2.2 r2.1 r2.2 st)
noncomputable def uP (ih:Ev)(cx:Cx)(m:Loc)(e:Expr)(st:St):Res (Bool×St):=(ih.e cx m e st).bind fun a=>kz a.1 a.2
noncomputable def IQ (ih:Ev)(cx:Cx)(m:Loc)(op:UnaryOp)(x:Expr)(st:St):Res (Bool×St):=match op with
 | .Not=>(ih.t cx m x st).bind fun r=>.ok (!r.1,r.2)
 | _=>.stuck 830
noncomputable def Bb (ih:Ev)(cx:Cx)(m:Loc)(e:Expr)(st:St):Res (Bool×St):=e.casesOn
 (fun op es _=>ih.ts cx m op es st) (fun _ _ _=>.stuck 834) (fun _ _ _ _=>.stuck 834)
 (fun op x _=>IQ ih cx m op x st) (fun _ _ _ _=>.stuck 834) (fun _ _ _ _=>.stuck 834) (fun _ _ _=>.stuck 834) (fun _ _ _=>.stuck 834) (fun _ _ _ _=>.stuck 834) (fun _ _ _ _=>.stuck 834) (fun _ _ _ _ _=>.stuck 834) (fun _ _ _ _=>.stuck 834) (fun _ _=>.stuck 834) (fun _ _=>.stuck 834) (fun _ _=>.stuck 834)
 (fun l ops rs _=>HM ih cx m l ops rs st)
 (fun f a k p=>uP ih cx m (.Call f a k p) st) (fun _ _ _ _=>.stuck 834) (fun _ _=>.stuck 834)
 (fun c k p=>uP ih cx m (.Constant c k p) st)
 (fun o x p=>uP ih cx m (.Attribute o x p) st)
 (fun o i p=>uP ih cx m (.Subscript o i p) st) (fun _ _=>.stuck 834)
 (fun x p=>uP ih cx m (.Name x p) st) (fun _ _=>.stuck 834) (fun _ _ _=>.stuck 834) (fun _ _ _ _=>.stuck 834)
noncomputable def tsA (ih:Ev)(cx:Cx)(m:Loc)(r:List Expr)(a:Bool×St):Res (Bool×St):=match a.1 with
 | true=>ih.ts cx m .And r a.2
 | false=>.ok (false,a.2)
noncomputable def tsO (ih:Ev)(cx:Cx)(m:Loc)(r:List Expr)(a:Bool×St):Res (Bool×St):=match a.1 with
 | true=>.ok (true,a.2)
 | false=>ih.ts cx m .Or r a.2
noncomputable def tsC (ih:Ev)(cx:Cx)(m:Loc)(r:List Expr):BoolOp→Bool×St→Res (Bool×St)
 | .And=>tsA ih cx m r
 | .Or=>tsO ih cx m r
noncomputable def vE (ih:Ev)(cx:Cx)(m:Loc)(op:BoolOp)(es:List Expr)(st:St):Res (Bool×St):=match es with
 | []=>match op with
  | .And=>.ok (true,st)
  | .Or=>.ok (false,st)
 | e::r=>(ih.t cx m e st).bind (tsC ih cx m r op)
section
theorem n9 {c:Const}{k:Nat}(at':At F ρ st s):Sp A s (PE [] F ρ st s) (eval (.Constant c k pos) env) (opt (xP c) fun v=>.ok (v,st)):=.opt fun sv e Q E z=>by
 cases c<;>first | exact nos e | cases e
 ·exact wpAny_Constant_none (z _ _ _ _ (To.refl at') rfl)
 ·exact wpAny_Constant_bool (z _ _ _ _ (To.refl at') rfl)
 ·exact wpAny_Constant_int (z _ _ _ _ (To.tok at' _) ⟨_,rfl⟩)
 ·exact wpAny_Constant_str (z _ _ _ _ (To.tok at' _) ⟨_,rfl⟩)
theorem cM {f:SV}{fv:Value}(h:cr K f=true)(i:f.Is ρ fv):∀ hp,K.In hp→∃ k,(k=Keeper.frame∨k=Keeper.machine∨k=Keeper.boundFrame)∧Looks (model prog w) hp (keeperOf fv) k:=by
 cases f<;>first | exact eqT h | exact i▸keeps_K h | exact i▸fun _ _=>⟨.machine,.inr (.inl rfl),Looks.of_pure rfl⟩
theorem sk (S:aG ih){l:Expr}{ops:List CmpOp}{rs:List Expr}(rm:aj cx.d A)(at':At F ρ st s)(fm:Fm F ρ st.σ cx env m s.heap):Sp A s (PE [] F ρ st s) (eval (.Compare l ops rs pos) env) (HN ih cx m l ops rs st):=
 .opt fun op q1=>.opt fun r q2=>.chk fun q Q E h=>by
  rw [dT q1,dT q2]
  exact wpAny_Compare1 ((S.e rm at' fm).bind h fun a h F₁ ρ₁ s₁ v₁ T₁ i₁=>(S.e rm T₁.at' (fm.go T₁)).bind h fun b h F₂ ρ₂ s₂ v₂ T₂ i₂=>gh rm T₂.at' (i₁.ext T₂.ext) i₂ (h.from (T₁.trans T₂))) (eS (js q))
theorem qS (S:aG ih){o i:Expr}(rm:aj cx.d A)(at':At F ρ st s)(fm:Fm F ρ st.σ cx env m s.heap):Sp A s (PE [] F ρ st s) (eval (.Subscript o i pos) env) (EI ih cx m o i st):=
 .chk fun q Q E h=>Subscript_ ((S.e rm at' fm).bind h fun a h F₁ ρ₁ s₁ v₁ T₁ i₁=>(S.e rm T₁.at' (fm.go T₁)).bind h fun b h F₂ ρ₂ s₂ v₂ T₂ i₂=>ls T₂.at' (i₁.ext T₂.ext) i₂ (js q) (h.from (T₁.trans T₂)))
theorem xH {args:List Expr}(q2:noStar args=true)(q3:args.length<20):methodCallForm (args.length+([]:List Keyword).length) (backTo pos (starEach args env)) (backToKw pos (keywordEach [] env))=true:=by
 have:(backTo pos (starEach args env)).all (fun x=>!x.1)=true:=by
  have:=aY q2 env pos
  rw [List.any_eq_false] at this
  exact List.all_eq_true.mpr fun x hx=>by simpa using this x hx
 unfold methodCallForm
 rw [this]
 show (true&&true&&decide (args.length+0+0<30))=true
 exact decide_eq_true (Nat.lt_trans q3 (by decide))
theorem nE {o:Expr}{apos:Pos}(q:apos.endLine=pos.line):methodCallPos true o env apos pos=pure pos:=by
 unfold methodCallPos
 rw [q]; simp
theorem Bh {args:List Expr}(q:noStar args=true):((backTo pos (starEach args env)).any (·.1)||([]:List (Option Str×Sem Value)).any (fun _=>true))=false:=by
 rw [aY q]; rfl
theorem qC (S:aG ih){q:Expr×Str×Pos}{args:List Expr}(rm:aj cx.d A)(at':At F ρ st s)(fm:Fm F ρ st.σ cx env m s.heap):Sp A s (PE [] F ρ st s) (eval (.Call (.Attribute q.1 q.2.1 q.2.2) args [] pos) env) (BI K ih cx m args pos st q):=
 .chk fun q1=>.chk fun q2=>.chk fun q3=>.chk fun q4 Q E h=>by
  rw [arm_eval_Call,jJ q1]
  refine wpAny_bind ((S.e rm at' fm).bind h fun a h F₁ ρ₁ s₁ v₁ T₁ i₁=>wpAny_bind (wpAny_standAt ?_))
  unfold methodCall
  rw [xH q2 (cC q3)]
  refine wpAny_bind (wpAny_holding ((pu (x:=q.2.1) T₁.at' i₁).bind h fun f h fv fvs s₂ T₂ ifv ifs=>?_))
  refine gi h fun q6 h=>?_
  dsimp only
  rw [nE (iY q4)]
  refine wpAny_bind (wpAny_pure (callWith_of (P:=fun h=>K.In h) ?_ (cM q6 ifv) (ch q2 ?_)))
  ·rw [aY q2]; rfl
  ·exact (S.es rm T₂.at' ((fm.go T₁).go T₂)).bind h fun r h F₃ ρ₃ s₃ vs₃ T₃ i₃=>⟨T₃.at'.rep.world.inK,S.c rm T₃.at' (ifv.ext T₃.ext) ((ag.ext ifs T₃.ext).append i₃) (h.from ((T₁.trans T₂).trans T₃))⟩
theorem qz (S:aG ih){f:Expr}{args:List Expr}(hna:∀ o x p,f≠.Attribute o x p)(rm:aj cx.d A)(at':At F ρ st s)(fm:Fm F ρ st.σ cx env m s.heap):Sp A s (PE [] F ρ st s) (eval (.Call f args [] pos) env) (BF K ih cx m f args pos st):=
 .chk fun q Q E h=>by
  have e0:eval (.Call f args [] pos) env=(do callWith pos (←eval f env) [] (backTo pos (starEach args env)) (backToKw pos (keywordEach [] env))):=by
   cases f<;>first | rfl | exact absurd rfl (hna _ _ _)
  rw [e0]
  refine wpAny_bind ((S.e rm at' fm).bind h fun a h F₁ ρ₁ s₁ v₁ T₁ i₁=>gi h fun q6 h=>callWith_of (P:=fun h=>K.In h) ?_ (cM q6 i₁) (ch q ?_))
  ·rw [aY q]; rfl
  ·exact (S.es rm T₁.at' (fm.go T₁)).bind h fun r h F₃ ρ₃ s₃ vs₃ T₃ i₃=>⟨T₃.at'.rep.world.inK,S.c rm T₃.at' (i₁.ext T₃.ext) i₃ (h.from (T₁.trans T₃))⟩
theorem qB (S:aG ih){f:Expr}{args:List Expr}{kw:List Keyword}(rm:aj cx.d A)(at':At F ρ st s)(fm:Fm F ρ st.σ cx env m s.heap):Sp A s (PE [] F ρ st s) (eval (.Call f args kw pos) env) (BH K ih cx m f args kw pos st):=
 .chk fun q=>by
  cases List.isEmpty_iff.mp q
  exact .alt (fun y e=>by rw [u9 e]; exact qC S rm at' fm) (.chk fun e=>qz S (u8 (iX e)) rm at' fm)
theorem kK (S:aG ih){mk:List SV→SO}{T:String}{es:List Expr}{e:Expr}(rm:aj cx.d A)(at':At F ρ st s)(fm:Fm F ρ st.σ cx env m s.heap)(hp:∀ l,cB (mk l)=true)(O:∀ {ρ:Rho}{h:Heap}{xs:List SV}{vs:Array Value} {p},ag (SV.Is ρ) xs vs.toList→OkO (ρ++[p]) (h.push { cls:=.type T,data:=.seq vs }) (h.objs.size,0) (mk xs))
  (h:∀ {Q E},wpAny (model prog w) A (spliced (backTo pos (starEach es env))) (fun vs s'=>vs.length≤sizeLine∧Q (.ref s'.heap.objs.size) { s' with heap:=s'.heap.push { cls:=.type T,data:=.seq vs.toArray } }) E s→wpAny (model prog w) A (eval e env) Q E s):Sp A s (PE [] F ρ st s) (eval e env) (B1 ih cx m mk es st):=
 .chk fun q Q E z=>h ((S.es rm at' fm).bind z fun r z F₁ ρ₁ s₁ vs₁ T₁ i₁=>gi z fun q z=>by
  have T:=To.alloc (tk:=s₁.toks) T₁.at' (hp r.1) bN (O (vs:=vs₁.toArray) i₁)
  exact ⟨i₁.length▸Nat.le_trans (cC q) (by rw [sizeLine_eq]; decide),z _ _ _ _ (T₁.trans T.1) T.2⟩)
theorem uI (S:aG ih){a b:Expr}{c:Bool×St}{Q:Value→Shared→Prop}{E:Value→Shared→Prop}(rm:aj cx.d A)(at':At F ρ c.2 s)(fm:Fm F ρ c.2.σ cx env m s.heap)(h:(ifE ih cx m a b c).Ok (PE [] F ρ c.2 s Q)):if c.1 then wpAny (model prog w) A (eval a env) Q E s else wpAny (model prog w) A (eval b env) Q E s:=by
 obtain ⟨c,st⟩:=c
 cases c with
 | true=>exact S.e rm at' fm h
 | false=>exact S.e rm at' fm h
theorem m6 (S:aG ih){es:List Expr}(rm:aj cx.d A)(at':At F ρ st s)(fm:Fm F ρ st.σ cx env m s.heap):Sp A s (PEs [] F ρ st s) (spliced (backTo pos (starEach es env))) (vG ih cx m es st):=by
 cases es with
 | nil=>exact fun Q E h=>wpAny_items_nil (h _ _ _ _ (To.refl at') .nil)
 | cons e r=>exact .chk fun q Q E h=>wpAny_items_cons ((S.e rm at' fm).bind h fun a h F₁ ρ₁ s₁ v₁ T₁ i₁=>(S.es rm T₁.at' (fm.go T₁)).bind h fun b h F₂ ρ₂ s₂ vs₂ T₂ i₂=>h _ _ _ _ (T₁.trans T₂) (.cons (i₁.ext T₂.ext) i₂)) (bz q env).1
theorem m4 (S:aG ih){op:BoolOp}{es:List Expr}(rm:aj cx.d A)(at':At F ρ st s)(fm:Fm F ρ st.σ cx env m s.heap):Sp A s (PT [] F ρ st s) (allTrue op es env) (vE ih cx m op es st):=by
 cases es with
 | nil=>cases op; exact fun Q E h=>wpAny_allTrue_And_nil (h _ _ _ (To.refl at')); exact fun Q E h=>wpAny_allTrue_Or_nil (h _ _ _ (To.refl at'))
 | cons e r=>
  cases op
  ·refine fun Q E h=>wpAny_allTrue_And_cons ((S.t rm at' fm).bind h fun a h F₁ ρ₁ s₁ T₁=>?_)
   obtain ⟨a,st₁⟩:=a
   cases a with
   | false=>exact h _ _ _ T₁
   | true=>exact S.ts rm T₁.at' (fm.go T₁) (h.fromT T₁)
  ·refine fun Q E h=>wpAny_allTrue_Or_cons ((S.t rm at' fm).bind h fun a h F₁ ρ₁ s₁ T₁=>?_)
   obtain ⟨a,st₁⟩:=a
   cases a with
   | true=>exact h _ _ _ T₁
   | false=>exact S.ts rm T₁.at' (fm.go T₁) (h.fromT T₁)
theorem qQ {M:Model}{pos:Pos}{a:Value}{op1 op2:CmpOp}{x y:Sem Value}{Q:Bool→Shared→Prop}
  (h:wpAny M A x (fun b s₁=>wpAny M A (compareOp op1 a b) (fun c s₂=>wpAny M A (truthy c) (fun t s₃=>if t then wpAny M A y (fun b2 s₄=>wpAny M A (compareOp op2 b b2) (fun c2 s₅=>wpAny M A (truthy c2) Q E s₅) E s₄) E s₃ else Q false s₃) E s₂) E s₁) E s) :
  wpAny M A (testChain pos a [op1,op2] [x,y]) Q E s:=by
 show wpAny M A (do
  let rv←holding [a] x
  standAt pos
  let c←holding [a,rv] (compareOp op1 a rv)
  release [a,rv] [c]
  if←holding [c,rv] (truthy c) then testChain pos rv [op2] [y] else pure false) Q E s
 refine wpAny_bind (wpAny_holding (wpAny_mono h (fun b s₁ h₁=>wpAny_bind (wpAny_standAt (wpAny_bind (wpAny_holding (wpAny_mono h₁ (fun c s₂ h₂=>wpAny_bind (wpAny_release (wpAny_bind (wpAny_holding (wpAny_mono h₂ (fun t s₃ h₃=>?_) fun _ _ e=>e))))) fun _ _ e=>e))))) fun _ _ e=>e))
 cases t with
 | false=>exact wpAny_pure h₃
 | true=>
  rw [if_pos rfl] at h₃ ⊢
  show wpAny M A (do
   let rv←holding [b] y
   standAt pos
   let c←operate [b,rv] (compareOp op2 b rv)
   holding [c] (truthy c)) Q E s₃
  exact wpAny_bind (wpAny_holding (wpAny_mono h₃ (fun b2 s₄ h₄=>wpAny_bind (wpAny_standAt (wpAny_bind (wpAny_operateT (wpAny_mono h₄ (fun c2 s₅ h₅=>wpAny_holding h₅) fun _ _ e=>e))))) fun _ _ e=>e))
theorem zO {ops:List CmpOp}{op1 op2:CmpOp}{r1 r2:Expr}{x y:Sem Value}(h2:d7 r2=false):markedEach [op1,op2] [r1,r2] [x,y]=[x,y]:=by
 show x::[markedBehindIn op2 r2 y]=_
 rw [markedBehindIn_of_false (eS h2)]
theorem qv (S:aG ih){op2:CmpOp}{r2:Expr}{b:SV}{v:Value}{t:Bool×St}{Q:Bool→Shared→Prop}{E:Value→Shared→Prop}(rm:aj cx.d A)(at':At F ρ t.2 s)(fm:Fm F ρ t.2.σ cx env m s.heap)(ib:b.Is ρ v)(h:(BE ih cx m op2 r2 b t).Ok (PT [] F ρ t.2 s Q)) :
  if t.1 then wpAny (model prog w) A (eval r2 env) (fun b2 s₄=>wpAny (model prog w) A (compareOp op2 v b2) (fun c2 s₅=>wpAny (model prog w) A (truthy c2) Q E s₅) E s₄) E s else Q false s:=by
 obtain ⟨t,st⟩:=t
 cases t with
 | false=>exact h _ _ _ (.refl at')
 | true=>exact (S.e rm at' fm).bind h fun b2 h F₅ ρ₅ s₅ v₅ T₅ i₅=>(gh rm T₅.at' (ib.ext T₅.ext) i₅).bind h fun c2 h F₆ ρ₆ s₆ v₆ T₆ i₆=>eh T₆.at' i₆ (h.fromT (T₅.trans T₆))
theorem sf (S:aG ih){l:Expr}{ops:List CmpOp}{rs:List Expr}(rm:aj cx.d A)(at':At F ρ st s)(fm:Fm F ρ st.σ cx env m s.heap):Sp A s (PT [] F ρ st s) (isTrue (.Compare l ops rs pos) env (eval (.Compare l ops rs pos) env)) (HM ih cx m l ops rs st):=
 .alt (fun op q1=>.opt fun r q2=>.chk fun q Q E h=>by
  rw [dT q1,dT q2]
  exact wpAny_isTrue_Compare1 ((S.e rm at' fm).bind h fun a h F₁ ρ₁ s₁ v₁ T₁ i₁=>(S.e rm T₁.at' (fm.go T₁)).bind h fun b h F₂ ρ₂ s₂ v₂ T₂ i₂=>(gh rm T₂.at' (i₁.ext T₂.ext) i₂).bind h fun c h F₃ ρ₃ s₃ v₃ T₃ i₃=>eh T₃.at' i₃ (h.fromT ((T₁.trans T₂).trans T₃))) (eS (js q)))
 (.opt fun o2 q1=>.opt fun r2 q2=>.chk fun q Q E h=>by
  rw [jk q1,jk q2,arm_isTrue_Compare]
  refine wpAny_bind ((S.e rm at' fm).bind h fun a h F₁ ρ₁ s₁ v₁ T₁ i₁=>?_)
  show wpAny _ _ (testChain _ v₁ _ (markedEach _ _ [eval _ env,eval _ env])) _ _ _
  rw [zO (ops:=[]) (js q)]
  exact qQ ((S.e rm T₁.at' (fm.go T₁)).bind h fun b h F₂ ρ₂ s₂ v₂ T₂ i₂=>(gh rm T₂.at' (i₁.ext T₂.ext) i₂).bind h fun c h F₃ ρ₃ s₃ v₃ T₃ i₃=>(eh (X:=[]) T₃.at' i₃).bind h fun t h F₄ ρ₄ s₄ T₄=>qv S rm T₄.at' (((fm.go T₁).go T₂).go (T₃.trans T₄)) (i₂.ext (T₃.trans T₄).ext) (h.fromT ((T₁.trans T₂).trans (T₃.trans T₄)))))
theorem eV (S:aG ih){e:Expr}(rm:aj cx.d A)(at':At F ρ st s)(fm:Fm F ρ st.σ cx env m s.heap)(he:isTrue e env (eval e env)=(do let v←eval e env; standAt e.pos; holding [v] (truthy v))):Sp A s (PT [] F ρ st s) (isTrue e env (eval e env)) (uP ih cx m e st):=
 fun Q E h=>wpAny_isTrue_value ((S.e rm at' fm).bind h fun a h F₁ ρ₁ s₁ v₁ T₁ i₁=>eh T₁.at' i₁ (h.fromT T₁)) he
theorem oN (S:aG ih){e:Expr}(rm:aj cx.d A)(at':At F ρ st s)(fm:Fm F ρ st.σ cx env m s.heap):Sp A s (PT [] F ρ st s) (isTrue e env (eval e env)) (Bb ih cx m e st):=by
 cases e
 case UnaryOp op _ _=>
  cases op
  case Not=>exact fun Q E h=>wpAny_isTrue_Not ((S.t rm at' fm).bind (f:=fun r:Bool×St=>.ok (!r.1,r.2)) (P:=PT [] F ρ st s Q) h fun a h F₁ ρ₁ s₁ T₁=>h _ _ _ T₁)
  all_goals exact .stuck
 case BoolOp=>exact fun Q E h=>wpAny_isTrue_BoolOp (S.ts rm at' fm h)
 case Compare=>exact sf S rm at' fm
 case Name=>exact eV S rm at' fm rfl
 case Call=>exact eV S rm at' fm rfl
 case Attribute=>exact eV S rm at' fm rfl
 case Subscript=>exact eV S rm at' fm rfl
 case Constant=>exact eV S rm at' fm rfl
 all_goals exact .stuck
end
end
section
noncomputable def ifB {β:Type}(b:Bool)(r r':Res β):Res β:=match b with
 | true=>r
 | false=>r'
theorem Sp.ifB {α β:Type}{A:Around}{s:Shared}{PP:(β→Shared→Prop)→α→Prop}{c:Sem β}{r r':Res α}{b:Bool}(h:b=true→Sp A s PP c r)(h':Sp A s PP c r'):Sp A s PP c (ifB b r r'):=match b,h with
 | true,h=>h rfl
 | false,_=>h'
noncomputable def sO {α:Type}:List α→Option (α×α×α)
 | [x,y,z]=>some (x,y,z)
 | _=>none
noncomputable def vC (l:List Str):List SV:=l.map .str
noncomputable def vA:List Str:=["rax","rcx","rdx","rbx","rsp","rbp","rsi","rdi"]
noncomputable def vB:List Str:=["ud2","int","int3","syscall","cpuid"]
noncomputable def vI:List (Str×List Str):=[("rax rcx rdx rbx rsp rbp rsi rdi",vA),("ud2 int int3 syscall cpuid",vB)]
noncomputable def yQ (e:Str×List Str):Bool:=(!(Builtin.Str.spaceWords e.1 (e.1.length+1) == [(0,e.1.length)]))&&(PySem.wordsOf e.1 == e.2)&&Nat.ble e.1.length 1000&&Nat.ble (Builtin.Str.spaceWords e.1 (e.1.length+1)).length 1000
theorem t9:vI.all yQ=true:=by decide +kernel
theorem ki {n:Nat}(h:n≤1000):n≤sizeLine:=Nat.le_trans h (by rw [sizeLine_eq]; decide)
theorem J8 {n:Nat}(h:n≤1000):(n:Int)<2 ^ 63:=Int.ofNat_lt.mpr (Nat.lt_of_le_of_lt h (by decide))
section
variable {a:SV}
noncomputable def Gq (args:List SV)(st:St):Res (SV×St):=opt (one args) fun a=>alt (asL (bf st.σ a)) (fun xs=>chk (Nat.ble xs.length 1000) (.ok (.int xs.length,st))) (alt (asS (bf st.σ a)) (fun xs=>.need (xs.length<2 ^ 62) (.ok (.uint xs.length,st)))
 (alt (asI (bf st.σ a)) (fun xs=>.need (xs.length<2 ^ 62) (.ok (.uint xs.length,st))) (opt (asT (bf st.σ a)) fun xs=>chk (Nat.ble xs.length 1000) (.ok (.int xs.length,st)))))
theorem li {l:Addr}{vs:Array Value}{n k:Nat}{sv:SV}(at':At F ρ st s)(ho:s.heap.get? l=some ⟨.type "list",none,.seq vs n,#[]⟩)(hz:vs.size=k)(hk:k<2 ^ 62)(i:∀ t,sv.Is ρ (.int k t)):Sp A s (PE [] F ρ st s) (call (.builtin "len") [.ref l]) (.ok (sv,st)):=
 fun Q E z=>call_len_list (au ho) (hz▸dG hk) (hz▸z _ _ _ _ (To.tok at' _) (i _))
theorem Gp {n:Nat}(h:Nat.ble n 1000=true):n<2 ^ 62:=Nat.lt_of_le_of_lt (cC h) (by decide)
theorem rI {args:List SV}{vs:List Value}(at':At F ρ st s)(ha:ag (SV.Is ρ) args vs):Sp A s (PE [] F ρ st s) (call (.builtin "len") vs) (Gq args st):=.opt fun a e=>by
 cases dT e
 obtain ⟨v,rfl,i⟩:=ha.inv1
 exact .alt (fun xs e=>.chk fun q=>at'.listK e i fun l vs n ho hv=>li at' ho (cU hv) (Gp q) fun t=>⟨t,rfl⟩) (.alt (fun xs e=>.need fun q=>at'.slistK e i fun l vs n ho hv=>li at' ho (cU hv) q fun t=>⟨t,rfl⟩)
  (.alt (fun xs e=>.need fun q=>at'.ilistK e i fun l vs n ho hv=>li at' ho (dK hv) q fun t=>⟨t,rfl⟩) (.opt fun xs e=>.chk fun q=>at'.tupK e i fun l vs n ho hv=>fun Q E z=>PyProof.Rows.len_tuple (cD ho) (cU hv▸dG (Gp q)) (cU hv▸z _ _ _ _ (To.tok at' _) ⟨_,rfl⟩))))
theorem kA {α:Type}{l:List α}{q:α×α×α}(h:sO l=some q):l=[q.1,q.2.1,q.2.2]:=by
 obtain _ | ⟨a,_ | ⟨b,_ | ⟨c,_ | _⟩⟩⟩:=l<;>first | exact nos h | exact congrArg (fun q:α×α×α=>[q.1,q.2.1,q.2.2]) (Option.some.inj h)
noncomputable def isZ (a:SV):Bool:=match jS a with
 | some 0=>true
 | _=>false
theorem DG (h:isZ a=true):a=.int 0:=by
 unfold isZ at h
 cases q:jS a with
 | none=>rw [q] at h; exact eqT h
 | some n=>
  rw [q] at h
  cases n with
  | zero=>exact k7 q
  | succ _=>exact eqT h
noncomputable def GC (args:List SV)(st:St):Res (SV×St):=opt (sO args) fun q=>opt (asM (bf st.σ q.1)) fun f=>opt (cE q.2.1) fun j=>chk (isZ q.2.2) (.ok (.uint (f.1 j.2),st))
theorem rV {args:List SV}{vs:List Value}(at':At F ρ st s)(ha:ag (SV.Is ρ) args vs):Sp A s (PE [] F ρ st s) (call (.builtin "dict.get") vs) (GC args st):=.opt fun q e=>.opt fun f e1=>.opt fun j e2=>.chk fun e3 Q E z=>by
 cases kA e
 obtain ⟨v1,v2,v3,rfl,i1,i2,i3⟩:=ha.inv3
 rw [DG e3] at i3
 obtain ⟨t3,rfl⟩:=i3
 obtain ⟨t2,rfl⟩:=pZ e2 i2
 refine at'.objK (lG e1) i1 fun p O=>?_
 obtain ⟨ne,g,hm,hle,hr⟩:=O
 refine call_meetsIn PySem.F.slot_dict_get hm.typeIs PySem.F.entry_dict_get (PySem.F.args_dict_get_3 _ _ _) (meets_dict_get_default (intKind prog w) p.1 (intKind_is prog w j.2 t2) (by simpa using ne) _) ⟨_,hm.mapOf,?_⟩
 have hj:=hr j.2
 show Q _ _
 cases hg:valueAt g j.2 with
 | none=>rw [hg] at hj; exact z _ _ _ _ (To.tok at' _) ⟨t3,by rw [show f.1 j.2=0 from hj]; rfl⟩
 | some v=>rw [hg] at hj; exact z _ _ _ _ (To.tok at' _) hj
theorem ln {vs ws:List Value}{xs ys:List Int}(h:IntsAre vs xs)(k:IntsAre ws ys):IntsAre (vs++ws) (xs++ys):=by
 induction h with
 | nil=>exact k
 | cons n t _ ih=>exact .cons n t ih
theorem aB {a:Addr}{h h':Heap}(sb:Heap.SameBut a h h'){b:Addr}{x:Obj}(ne:b≠a)(e:h.get? b=some x):h'.get? b=some x:=(sb.2 b ne).trans e
theorem mi {a:Addr}{h h':Heap}{y:Obj}(sb:Heap.SameBut a h h')(e':h'.get? a=some y){b:Addr}{x:Obj}(e:h.get? b=some x):∃ y,h'.get? b=some y:=by
 by_cases z:b=a
 ·subst z; exact ⟨_,e'⟩
 ·exact ⟨x,(sb.2 b z).trans e⟩
theorem kf {k:Nat}{p:Addr×Addr}{o o':SO}{h':Heap}{y:Obj}{tk:Nat}(at':At F ρ st s)(e:aM k st.σ=some o)(hp:ρ[k]?=some p)(hf:cB o=true)(hf':cB o'=true)
  (sb:Heap.SameBut p.1 s.heap h') (ey:h'.get? p.1=some y) (O:OkO ρ h' p o'):To [] F ρ st s F ρ ⟨dp k o' st.σ,st.nx⟩ { s with heap:=h',toks:=tk }:=by
 obtain ⟨R',X'⟩:=at'.rep.put (o':=o') e hp (fun p=>by rw [cW hf,cW hf']) (jp hf') (fun b x nb q=>aB sb (fun z=>nb (by rw [cW hf,z]; exact .head _)) q) (fun b x q=>mi sb ey q) O
 exact ⟨⟨R',at'.len⟩,X',rfl⟩
noncomputable def J0 (k:Nat)(v:SV)(st:St)(o:Option SO):Res (SV×St):=alt (asL o) (fun xs=>chk (Nat.ble xs.length 1000) (.ok (.none,⟨dp k (.list (xs++[v])) st.σ,st.nx⟩))) (alt (asS o) (fun xs=>.need (xs.length≤1000) (.ok (.none,⟨dp k (.slist (xs++[v])) st.σ,st.nx⟩)))
 (opt (asI o) fun xs=>opt (cE v) fun i=>.need (xs.length≤1000) (.ok (.none,⟨dp k (.ilist (xs++[i.2])) st.σ,st.nx⟩))))
noncomputable def HX (args:List SV)(st:St):Res (SV×St):=opt (two args) fun q=>opt (gF q.1) fun k=>J0 k q.2 st (aM k st.σ)
theorem iK {k:Nat}{o o':SO}{vs:Array Value}{n:Nat}{p:Addr×Addr}{v:Value}(at':At F ρ st s)(e:aM k st.σ=some o)(hp:ρ[k]?=some p)(hf:cB o=true)(hf':cB o'=true)(ho:s.heap.get? p.1=some ⟨.type "list",none,.seq vs n,#[]⟩)(hz:vs.size≤1000)
  (O:∀ {h':Heap} {n'},h'.get? p.1=some ⟨.type "list",none,.seq (vs.push v) n',#[]⟩→OkO ρ h' p o'):Sp A s (PE [] F ρ st s) (call (.builtin "list.append") [.ref p.1,v]) (.ok (.none,⟨dp k o' st.σ,st.nx⟩)):=
 fun Q E z=>append_at ho (fun h' sb ho'=>z _ _ _ _ (kf at' e hp hf hf' sb ho' (O ho')) rfl) (ki hz)
theorem sF {args:List SV}{vs:List Value}(at':At F ρ st s)(ha:ag (SV.Is ρ) args vs):Sp A s (PE [] F ρ st s) (call (.builtin "list.append") vs) (HX args st):=.opt fun q e=>.opt fun k e1=>by
 cases jk e
 obtain ⟨v1,v2,rfl,i1,i2⟩:=ha.inv2
 exact .alt (fun xs e=>.chk fun q=>at'.ownK e1 (gU e) i1 fun p hp O=>O.elim fun vs O=>O.elim fun n O=>iK at' (gU e) hp rfl rfl O.1 (cU O.2▸cC q) fun ho'=>⟨_,_,ho',by rw [Array.toList_push]; exact O.2.append (.cons i2 .nil)⟩)
  (.alt (fun xs e=>.need fun q=>at'.ownK e1 (sC e) i1 fun p hp O=>O.elim fun vs O=>O.elim fun n O=>iK at' (sC e) hp rfl rfl O.1 (cU O.2▸q) fun ho'=>⟨_,_,ho',by rw [Array.toList_push]; exact O.2.append (.cons i2 .nil)⟩)
  (.opt fun xs e=>.opt fun i e2=>.need fun q=>gy e2 i2 fun t=>at'.ownK e1 (jL e) i1 fun p hp O=>O.elim fun vs O=>O.elim fun n O=>iK at' (jL e) hp rfl rfl O.1 (dK O.2▸q) fun ho'=>⟨_,_,ho',by rw [Array.toList_push]; exact ln O.2 (.cons _ _ .nil)⟩))
theorem qV {ρ:Rho}{l:List Str}{n:Nat}:ag (SV.Is ρ) (vC l) (strsFrom n l):=by
 induction l generalizing n with
 | nil=>exact .nil
 | cons x r ih=>exact .cons ⟨_,rfl⟩ ih
noncomputable def vJ (args:List SV)(st:St):Res (SV×St):=opt (one args) fun a=>opt (ff a) fun x=>opt (af x vI) fun l=>cR (.list (vC l)) st
theorem m7 {args:List SV}{vs:List Value}(at':At F ρ st s)(ha:ag (SV.Is ρ) args vs):Sp A s (PE [] F ρ st s) (call (.builtin "str.split") vs) (vJ args st):=.opt fun a e=>.opt fun x e1=>.opt fun l e2=>by
 cases dT e
 obtain ⟨v,rfl,i⟩:=ha.inv1
 refine j0 e1 i fun t=>cN (dQ t9 _ (mC e2)) fun q q4=>cN q fun q q3=>cN q fun q1 q2=>?_
 have q1:(Builtin.Str.spaceWords x (x.length+1) == [(0,x.length)])=false:=js q1
 have q2:PySem.wordsOf x=l:=eq_of_beq q2
 intro Q E z
 refine call_meets PySem.F.slot_str_split (typeIs_str s x t) PySem.F.entry_str_split (PySem.F.args_str_split_1 _) (meets_str_split_space x t (ki (cC q3)) (ki (cC q4))) ?_
 rw [q1,if_neg Bool.false_ne_true,q2]
 exact fT (so:=.list _) at' rfl bN ⟨_,0,Heap.get?_push_size _ rfl,qV⟩ z
theorem oM {l:Addr}{vs:Array Value}{xs:List Int}{Q:Value→Shared→Prop}{E:Value→Shared→Prop}(hh:A.handled=none)(hl:s.heap.IsList l vs)(hi:IntsAre vs.toList xs)
  (h:∀ h' tk t',(∀ b o,s.heap.get? b=some o→h'.get? b=some o)→Q (.int xs.sum t') { s with heap:=h',toks:=tk }):wpAny (model prog w) A (call (.builtin "sum") [.ref l]) Q E s:=by
 obtain ⟨ys,e⟩:=hi.allInts.items
 have e:vs=intItems ys:=by simpa using e
 subst e
 refine sum_intListG hh hl fun h' tk t' hk=>?_
 have:=h h' tk t' hk
 rw [←hi.numsOf,nums_intItems] at this
 rw [preSum_eq,List.take_of_length_le (by simp)]; exact this
noncomputable def EG (args:List SV)(st:St):Res (SV×St):=opt (one args) fun a=>opt (asI (bf st.σ a)) fun xs=>.ok (.uint xs.sum,st)
theorem qR {args:List SV}{vs:List Value}(rm:A.handled=none)(at':At F ρ st s)(ha:ag (SV.Is ρ) args vs):Sp A s (PE [] F ρ st s) (call (.builtin "sum") vs) (EG args st):=.opt fun a e=>.opt fun xs e1=>by
 cases dT e
 obtain ⟨v,rfl,i⟩:=ha.inv1
 exact at'.ilistK e1 i fun l vs n ho hv=>fun Q E z=>oM rm (au ho) hv fun h' tk t' hk=>z _ _ _ _ (.grow at' hk) ⟨_,rfl⟩
noncomputable def biV (nm:String)(args:List SV)(st:St):Res (SV×St):=ifB (nm == "len") (Gq args st) (ifB (nm == "dict.get") (GC args st) (ifB (nm == "list.append") (HX args st) (ifB (nm == "str.split") (vJ args st) (chk (nm == "sum") (EG args st)))))
theorem u6 {nm:String}{args:List SV}{vs:List Value}(rm:A.handled=none)(at':At F ρ st s)(ha:ag (SV.Is ρ) args vs):Sp A s (PE [] F ρ st s) (call (.builtin nm) vs) (biV nm args st):=
 .ifB (fun e=>eq_of_beq e▸rI at' ha) (.ifB (fun e=>eq_of_beq e▸rV at' ha) (.ifB (fun e=>eq_of_beq e▸sF at' ha) (.ifB (fun e=>eq_of_beq e▸m7 at' ha) (.chk fun e=>eq_of_beq e▸qR rm at' ha))))
noncomputable def Iv (a:SV)(st:St):Res (SV×St):=opt (cE a) fun q=>cR (.rng 0 q.2) st
noncomputable def Jf (a:SV)(st:St):Res (SV×St):=alt (asL (bf st.σ a)) (fun xs=>chk (Nat.ble xs.length 1000) (cR (.list xs) st)) (alt (asT (bf st.σ a)) (fun xs=>chk (Nat.ble xs.length 1000) (cR (.list xs) st)) (opt (asI (bf st.σ a)) fun xs=>.need (xs.length≤1000) (cR (.ilist xs) st)))
noncomputable def yf:SV→Option Bool
 | .bool b=>some b
 | .ubool b=>some b
 | _=>none
noncomputable def Jj (a:SV)(st:St):Res (SV×St):=alt (cE a) (fun _=>.ok (a,st)) (opt (yf a) fun b=>.ok (.uint (if b then 1 else 0),st))
noncomputable def mV:SV→Option Int
 | .int i=>some i
 | _=>none
noncomputable def Io (a:SV)(st:St):Res (SV×St):=opt (mV a) fun i=>chk (Nat.blt i.natAbs 100000) (.ok (.str (Str.ofString (toString i)),st))
noncomputable def tyV (nm:String)(args:List SV)(st:St):Res (SV×St):=opt (one args) fun a=>ifB (nm == "range") (Iv a st) (ifB (nm == "list") (Jf a st) (ifB (nm == "tuple") (opt (asT (bf st.σ a)) fun _=>.ok (a,st)) (ifB (nm == "int") (Jj a st) (chk (nm == "str") (Io a st)))))
theorem jx {l:Addr}{T:String}{vs:Array Value}{n:Nat}{so:SO}(at':At F ρ st s)(hT:T = "list"∨T = "tuple")(ho:s.heap.get? l=some ⟨.type T,none,.seq vs n,#[]⟩)(hp:cB so=true)(hz:vs.size≤1000)(O:∀ {h':Heap} {c' p},h'.get? s.heap.objs.size=some { cls:=.type "list",dict:=none,data:=.seq vs c',slots:=#[] }→OkO (ρ++[p]) h' (s.heap.objs.size,0) so):Sp A s (PE [] F ρ st s) (call (.type "list") [.ref l]) (cR so st):=
 fun Q E z=>call_list_seq l hT ho rfl rfl (fun h' c' hk hn=>fT (tk:=s.toks) at' hp hk (O hn) z) (ki hz)
theorem uZ {b:Bool}(h:yf a=some b)(i:a.Is ρ v):v=.bool b:=by
 cases a<;>first | exact nos h | exact Option.some.inj h▸i
theorem ma {i:Int}(h:mV a=some i):a=.int i:=by
 cases a<;>first | exact nos h | exact congrArg SV.int (Option.some.inj h)
theorem uy {n:Nat}(h:n<100000):n.log2<1920:=by
 rcases Nat.eq_zero_or_pos n with z | z
 ·rw [z]; decide
 ·exact (Nat.log2_lt (Nat.ne_of_gt z)).mpr (Nat.lt_of_lt_of_le h (by decide))
theorem tZ {nm:String}{args:List SV}{vs:List Value}(at':At F ρ st s)(ha:ag (SV.Is ρ) args vs):Sp A s (PE [] F ρ st s) (call (.type nm) vs) (tyV nm args st):=.opt fun a e=>by
 cases dT e
 obtain ⟨v,rfl,i⟩:=ha.inv1
 exact .ifB (fun e=>eq_of_beq e▸.opt fun q e=>gy e i fun t=>fun Q E z=>call_range_1 (fT (so:=.rng _ _) at' rfl bN ⟨_,_,_,IsRange.new ..⟩ z))
  (.ifB (fun e=>eq_of_beq e▸.alt (fun xs e=>.chk fun q=>at'.listK e i fun l vs n ho hv=>jx at' (.inl rfl) ho rfl (cU hv▸cC q) fun hn=>⟨_,_,hn,hv.mono⟩) (.alt (fun xs e=>.chk fun q=>at'.tupK e i fun l vs n ho hv=>jx at' (.inr rfl) ho rfl (cU hv▸cC q) fun hn=>⟨_,_,hn,hv.mono⟩)
   (.opt fun xs e=>.need fun q=>at'.ilistK e i fun l vs n ho hv=>jx at' (.inl rfl) ho rfl (dK hv▸q) fun hn=>⟨_,_,hn,hv⟩)))
  (.ifB (fun e=>eq_of_beq e▸.opt fun xs e=>fun Q E z=>at'.tupK e i (fun l vs n ho hv i=>call_tuple_tup (cD ho) (z _ _ _ _ (To.refl at') i)) i)
  (.ifB (fun e=>eq_of_beq e▸.alt (fun q e=>fun Q E z=>gy e i (fun t i=>call_int_int (z _ _ _ _ (To.refl at') i)) i) (.opt fun b e=>fun Q E z=>by
   cases uZ e i
   exact call_int_bool (z _ _ _ _ (To.tok at' _) ⟨_,rfl⟩)))
  (.chk fun e=>eq_of_beq e▸.opt fun j e=>.chk fun q=>fun Q E z=>by
   rw [ma e] at i
   obtain ⟨t,rfl⟩:=i
   exact P.str_of_int (uy (cC q)) (z _ _ _ _ (To.tok at' _) ⟨_,rfl⟩)))))
end
end
section
noncomputable abbrev Orc:=Nat→Addr→List SV→St→Option (Res (SV×St))
noncomputable def nQ:Option Bool→Bool
 | some true=>true
 | _=>false
theorem lk {o:Option Bool}(h:nQ o=true):o=some true:=by
 cases o with
 | none=>exact eqT h
 | some b=>cases b with
  | true=>rfl
  | false=>exact eqT h
noncomputable def CC (K:Frag)(C:Addr):Bool:=kin_notT K C "tuple"&&plainGet K C "__class__"&&hasDictIn K C&&xq "object.__class__" (findIn K (.ref C) "__class__")&&xq "getset_descriptor.__get__" (specialIn K (.builtin "object.__class__") "__get__")&&
 nQ (takesIn K (.builtin "object.__class__"))&&nQ (mroIn K C (.type "object"))
noncomputable def EE:SV→Option String
 | .ty n=>some n
 | _=>none
noncomputable def Gy (K:Frag)(args:List SV)(st:St):Res (SV×St):=opt (two args) fun q=>opt (EE q.2) fun T=>chk (T == "tuple") (alt (asT (bf st.σ q.1)) (fun _=>.ok (.bool true,st)) (opt (asN (bf st.σ q.1)) fun x=>chk (CC K x.1) (.ok (.bool false,st))))
noncomputable def Be (K:Frag)(X:Orc)(ih:Ev)(d:Nat)(f:SV)(args:List SV)(st:St):Res (SV×St):=match f with
 | .sta a=>alt (X d a args st) (fun r=>r) (sR K ih d a args st)
 | .bi nm=>ifB (nm == "isinstance") (Gy K args st) (biV nm args st)
 | .ty nm=>tyV nm args st
 | _=>.stuck 950
noncomputable def iq (xs:List Int)(lo hi st:Option Int):List Int:=
 (sliceRange (sliceBounds lo hi st xs.length).1 (sliceBounds lo hi st xs.length).2.1 (sliceBounds lo hi st xs.length).2.2).filterMap (xs[·]?)
noncomputable def tj (ih:Ev)(cx:Cx)(m:Loc)(e:Option Expr)(st:St):Res (Option Int×St):=match e with
 | none=>.ok (none,st)
 | some e=>(ih.e cx m e st).bind fun r=>opt (mV r.1) fun i=>.ok (some i,r.2)
noncomputable def xl:Option Int→Bool
 | some i=>i == 0
 | none=>false
noncomputable def vM (o:SV)(lo hi sp:Option Int)(st:St):Res (SV×St):=opt (asI (bf st.σ o)) fun xs=>chk (!xl sp) (.need (xs.length≤100000) (cR (.ilist (iq xs lo hi sp)) st))
noncomputable def tQ (e:Expr):Option Const:=if h:e.ctorIdx=19 then Expr.Constant.elim e h fun c _ _=>some c else none
noncomputable def xK:Const→Option Str
 | .str a=>some a
 | _=>none
noncomputable def qW (o:Option Expr):Option Str:=o.bind fun e=>(tQ e).bind xK
theorem se {e:Expr}{c:Const}(h:tQ e=some c):∃ k p,e=.Constant c k p:=by
 cases e<;>first | exact nos h | (cases h; exact ⟨_,_,rfl⟩)
theorem uU {c:Const}{a:Str}(h:xK c=some a):c=.str a:=by
 cases c<;>first | exact nos h | exact congrArg Const.str (Option.some.inj h)
theorem mf {o:Option Expr}{a:Str}(h:qW o=some a):∃ k p,o=some (.Constant (.str a) k p):=by
 obtain ⟨e,e0,h0⟩:=bD h
 obtain ⟨c,h1,h2⟩:=bD h0
 obtain ⟨k,p,e1⟩:=se h1
 exact ⟨k,p,by rw [e0,e1,uU h2]⟩
noncomputable abbrev Sl:=Option Expr×Option Expr×Option Expr
noncomputable def sT (e:Expr):Option Sl:=if h:e.ctorIdx=26 then Expr.Slice.elim e h fun lo hi sp _=>some (lo,hi,sp) else none
theorem qZ {e:Expr}{q:Sl}(h:sT e=some q):∃ p,e=.Slice q.1 q.2.1 q.2.2 p:=by
 cases e<;>first | exact nos h | (cases h; exact ⟨_,rfl⟩)
noncomputable def vO (ih:Ev)(cx:Cx)(m:Loc)(o:Expr)(st:St)(q:Sl):Res (SV×St):=(ih.e cx m o st).bind fun a=>(tj ih cx m q.1 a.2).bind fun l=>(tj ih cx m q.2.1 l.2).bind fun u=>(tj ih cx m q.2.2 u.2).bind fun t=>vM a.1 l.1 u.1 t.1 t.2
noncomputable def BC (ih:Ev)(cx:Cx)(m:Loc)(a b:Str)(e1 e2:Expr)(st:St):Res (SV×St):=chk (!sEq a b) ((ih.e cx m e1 st).bind fun x=>(ih.e cx m e2 x.2).bind fun y=>cR (.sdict [(a,x.1),(b,y.1)]) y.2)
noncomputable def Hf (ih:Ev)(cx:Cx)(m:Loc)(ks:List (Option Expr))(vs:List Expr)(st:St):Res (SV×St):=opt (two ks) fun k=>opt (qW k.1) fun a=>opt (qW k.2) fun b=>opt (two vs) fun v=>BC ih cx m a b v.1 v.2 st
noncomputable def BB (ih:Ev)(cx:Cx)(m:Loc)(ks:List (Option Expr))(vs:List Expr)(st:St):Res (SV×St):=ifB (ks.isEmpty&&vs.isEmpty) (cR .edict st) (Hf ih cx m ks vs st)
noncomputable def Bd (K:Frag)(ih:Ev)(cx:Cx)(m:Loc)(e:Expr)(st:St):Res (SV×St):=e.casesOn (fun _ _ _=>.stuck 815) (fun _ _ _=>.stuck 815)
 (fun l op r _=>(ih.e cx m l st).bind fun a=>(ih.e cx m r a.2).bind fun b=>HV op a.1 b.1 b.2)
 (fun op x _=>(ih.e cx m x st).bind fun a=>unV op a.1 a.2) (fun _ _ _ _=>.stuck 815)
 (fun t a b _=>(ih.t cx m t st).bind (ifE ih cx m a b))
 (fun ks vs _=>BB ih cx m ks vs st) (fun _ _ _=>.stuck 815) (fun _ _ _ _=>.stuck 815) (fun _ _ _ _=>.stuck 815) (fun _ _ _ _ _=>.stuck 815) (fun _ _ _ _=>.stuck 815) (fun _ _=>.stuck 815) (fun _ _=>.stuck 815) (fun _ _=>.stuck 815)
 (fun l ops rs _=>HN ih cx m l ops rs st)
 (fun f args kw pos=>BH K ih cx m f args kw pos st) (fun _ _ _ _=>.stuck 815) (fun _ _=>.stuck 815)
 (fun c _ _=>opt (xP c) fun v=>.ok (v,st))
 (fun o x _=>chk (lF o) ((ih.e cx m o st).bind fun a=>p7 K x a.1 a.2))
 (fun o i _=>alt (sT i) (vO ih cx m o st) (EI ih cx m o i st)) (fun _ _=>.stuck 815)
 (fun x _=>wF K cx m x st)
 (fun es _=>B1 ih cx m .list es st)
 (fun es _ _=>B1 ih cx m .tup es st) (fun _ _ _ _=>.stuck 815)
section
noncomputable def iL (X:Orc):Prop:=∀ {d a args st r A s F ρ vs Q E},aj d A→At F ρ st s→ag (SV.Is ρ) args vs→X d a args st=some r→r.Ok (PE [] F ρ st s Q)→wpAny (model prog w) A (call (.ref a) vs) Q E s
end
section
theorem yH {a:SV}{n:String}(h:EE a=some n):a=.ty n:=by
 cases a<;>first | exact nos h | exact congrArg SV.ty (Option.some.inj h)
theorem rP {args:List SV}{vs:List Value}(at':At F ρ st s)(ha:ag (SV.Is ρ) args vs):Sp A s (PE [] F ρ st s) (call (.builtin "isinstance") vs) (Gy K args st):=.opt fun q e=>.opt fun T e1=>.chk fun e2=>by
 cases jk e
 obtain ⟨v1,v2,rfl,i1,i2⟩:=ha.inv2
 rw [yH e1,eq_of_beq e2] at i2
 cases i2
 exact .alt (fun xs e=>at'.tupK e i1 fun l vs n ho hv=>.same at' rfl fun h=>PySem.IsiPair.tuple_tuple ho rfl h)
  (.opt fun x e=>.chk fun g=>cN g fun g g7=>cN g fun g g6=>cN g fun g g5=>cN g fun g g4=>cN g fun g g3=>cN g fun g1 g2=>at'.objK (jK e) i1 fun p O Q E z=>by
   obtain ⟨es,ep,I,hk,hsz,hf⟩:=kn O
   exact kin_callT at'.rep.world.inK I g1 (by rfl') g2 g3 (km g4) (km g5) (lk g6) (lk g7) (z _ _ _ _ (To.tok at' _) rfl))
theorem oQ {X:Orc}(XS:iL X)(S:aG ih){d:Nat}{f:SV}{args:List SV}{fv:Value}{vs:List Value}(rm:aj d A)(at':At F ρ st s)(hf:f.Is ρ fv)(ha:ag (SV.Is ρ) args vs):Sp A s (PE [] F ρ st s) (call fv vs) (Be K X ih d f args st):=by
 cases f
 case sta=>cases hf; exact .alt (fun r e=>fun Q E h=>XS rm at' ha e h) fun Q E h=>wpAny_call (jN S rm at' ha h)
 case bi=>cases hf; exact .ifB (fun e=>eq_of_beq e▸rP at' ha) (u6 rm.hand at' ha)
 case ty=>cases hf; exact tZ at' ha
 all_goals exact .stuck
theorem rx (at':At F ρ st s):s.heap.objs.size≠sysModules:=Nat.ne_of_gt (modules_low at'.rep.world.lim)
theorem Aj {vs:List Value}{xs:List Int}(h:IntsAre vs xs)(i:Nat):(∃ n t,vs[i]?=some (.int n t)∧xs[i]?=some n)∨(vs[i]?=none∧xs[i]?=none):=by
 induction h generalizing i with
 | nil=>exact .inr ⟨rfl,rfl⟩
 | cons n t r ih=>
  cases i with
  | zero=>exact .inl ⟨n,t,rfl,rfl⟩
  | succ i=>exact ih i
theorem wj {vs:List Value}{xs:List Int}(h:IntsAre vs xs)(l:List Nat):IntsAre (l.filterMap (vs.toArray[·]?)) (l.filterMap (xs[·]?)):=by
 induction l with
 | nil=>exact .nil
 | cons i l ih=>
  rw [List.filterMap_cons,List.filterMap_cons,show vs.toArray[i]?=vs[i]? by simp]
  rcases Aj h i with ⟨n,t,e1,e2⟩ | ⟨e1,e2⟩
  ·rw [e1,e2]; exact .cons n t ih
  ·rw [e1,e2]; exact ih
noncomputable def PQ (F:Fz)(ρ:Rho)(st:St)(s:Shared)(Q:Value→Shared→Prop)(r:Option Int×St):Prop:=∀ F' ρ' s' v,To [] F ρ st s F' ρ' r.2 s'→IsPart v r.1→Q v s'
theorem gG (S:aG ih){e:Option Expr}(rm:aj cx.d A)(at':At F ρ st s)(fm:Fm F ρ st.σ cx env m s.heap):Sp A s (PQ F ρ st s) (evalPart e env) (tj ih cx m e st):=by
 intro Q E h
 cases e with
 | none=>exact wpAny_pure (h _ _ _ _ (To.refl at') .none)
 | some e=>
  refine (S.e rm at' fm).bind (f:=fun r:SV×St=>opt (mV r.1) fun i=>.ok (some i,r.2)) (P:=PQ F ρ st s Q) h fun r h F₁ ρ₁ s₁ v₁ T₁ i₁=>dg h fun i e h=>?_
  rw [ma e] at i₁
  obtain ⟨t,rfl⟩:=i₁
  exact h _ _ _ _ T₁ (.int _ _)
theorem ua {lo hi sp:Option Expr}{p:Pos}{o i:Value}:∃ ops,subscripted (.Slice lo hi sp p) false o i=operate ops (getItem o i):=by
 cases sp with
 | none=>exact ⟨[i,o],rfl⟩
 | some e=>exact ⟨[o,i],rfl⟩
theorem uE {t:Option Int}(h:(!xl t)=true):t≠some 0:=fun e=>by rw [e] at h; cases h
noncomputable def dm (W:List Addr)(h h':Heap):Prop:=∀ c o,c∉W→h.get? c=some o→h'.get? c=some o
theorem uR {p:Addr×Addr}{o:SO}(h:∀ x,o≠.ro x):jW p o=aN p o:=by
 cases o<;>first | rfl | exact absurd rfl (h _)
theorem At.beside (at':At F ρ st s){W:List Addr}{h':Heap}{tk:Nat}(out:∀ c∈W,c∉ae ρ st.σ)(fr:∀ c∈W,F c=none)(kb:dm W s.heap h'):At F ρ st { s with heap:=h',toks:=tk }:=by
 have hle:F.le h':=fun c x q=>kb c x (fun z=>nos ((fr c z).symm.trans q)) (at'.rep.le c x q)
 refine ⟨⟨hle,at'.rep.wd,fun e he=>?_,at'.rep.ro,at'.rep.nodup,at'.rep.free⟩,at'.len⟩
 obtain ⟨p,hp,O⟩:=at'.rep.ok e he
 refine ⟨p,hp,?_⟩
 by_cases hro:∃ o,e.2=.ro o
 ·obtain ⟨o,eo⟩:=hro
  have:=at'.rep.ro _ he o eo p hp h' hle
  rw [eo]; exact this
 ·exact O.keep fun c x hc=>kb c x fun z=>out c z (aw.mpr ⟨_,he,p,hp,uR (fun x e=>hro ⟨x,e⟩)▸hc⟩)
theorem Fm.beside {h h':Heap}{σ:Hp}(fm:Fm F ρ σ cx env m h){W:List Addr}(kb:dm W h h')(ne:env.locals∉W):Fm F ρ σ cx env m h':=by
 obtain ⟨g,⟨o,es,ep,ho,r⟩,hr⟩:=fm.ns
 exact ⟨fm.eok,⟨g,⟨o,es,ep,kb _ _ ne ho,r⟩,hr⟩,fm.out,fm.free⟩
theorem To.beside (at':At F ρ st s){W:List Addr}{h':Heap}{tk:Nat}(out:∀ c∈W,c∉ae ρ st.σ)(fr:∀ c∈W,F c=none)(kb:dm W s.heap h')(lv:∀ c o,c∈W→s.heap.get? c=some o→∃ o',h'.get? c=some o') :
  To W F ρ st s F ρ st { s with heap:=h',toks:=tk }:=
 ⟨at'.beside out fr kb,⟨⟨[],(List.append_nil ρ).symm⟩,fun b o e _ nx=>kb b o nx e,fun _ z=>.inl z,fun _ _ z=>z,fun _ _ z=>.inl z,fun b o e=>by
  by_cases hb:b∈W
  ·exact lv b o hb e
  ·exact ⟨o,kb b o hb e⟩⟩,rfl⟩
theorem At.other (at':At F ρ st s){L:Addr}{h':Heap}{y:Obj}{tk:Nat}(out:L∉ae ρ st.σ)(fr:F L=none)(sb:Heap.SameBut L s.heap h')(ey:h'.get? L=some y) :
  To [L] F ρ st s F ρ st { s with heap:=h',toks:=tk }:=
 .beside at' (fun c hc=>ak hc▸out) (fun c hc=>ak hc▸fr) (fun c o hc e=>aB sb (fun z=>hc (z▸.head _)) e) fun c o hc _=>⟨y,ak hc▸ey⟩
theorem To.outside (T:To X F ρ st s F' ρ' st' s'){a:Addr}{o:Obj}(ho:s.heap.get? a=some o)(h:a∉ae ρ st.σ∧F a=none):a∉ae ρ' st'.σ∧F' a=none:=by
 refine ⟨fun z=>?_,?_⟩
 ·rcases T.ext.new a z with z | z
  ·exact h.1 z
  ·rw [z] at ho; cases ho
 ·cases q:F' a with
  | none=>rfl
  | some y=>
   rcases T.ext.fznew a y q with z | z
   ·rw [h.2] at z; cases z
   ·rw [z] at ho; cases ho
theorem To.adopt {F₀:Fz}{ρ₀:Rho}{st₀:St}{s₀:Shared}{D:Addr}{so:SO}(T:To X F₀ ρ₀ st₀ s₀ F ρ st s)(nD:s₀.heap.get? D=none)(hp:cB so=true)(out:D∉ae ρ st.σ∧F D=none)(O:OkO (ρ++[(D,0)]) s.heap (D,0) so) :
  To X F₀ ρ₀ st₀ s₀ F (ρ++[(D,0)]) ⟨(st.nx,so)::st.σ,st.nx+1⟩ s∧(SV.ref st.nx).Is (ρ++[(D,0)]) (.ref D):=by
 obtain ⟨σ,n⟩:=st
 cases T.at'.len
 have R:=T.at'.rep.pad [(D,0)]
 have hq:(ρ++[(D,0)])[ρ.length]?=some (D,0):=by simp
 have hf:ae (ρ++[(D,0)]) ((ρ.length,so)::σ)=D::ae ρ σ:=by
  show (match (ρ++[(D,0)])[ρ.length]? with | some p=>aN p so | none=>[])++ae (ρ++[(D,0)]) σ=_
  rw [hq,bU T.at'.rep.names]
  show aN (D,0) so++ae ρ σ=_
  rw [cW hp]; rfl
 refine ⟨⟨⟨⟨R.le,R.wd,fun e he=>?_,fun e he=>?_,hf▸List.nodup_cons.mpr ⟨out.1,T.at'.rep.nodup⟩,fun c hc=>?_⟩,by simp⟩,⟨?_,T.ext.keep,fun c hc=>?_,T.ext.fz,T.ext.fznew,T.ext.live⟩,T.sh⟩,⟨_,hq,rfl⟩⟩
 ·rcases aJ he with rfl | he
  ·exact ⟨_,hq,O⟩
  ·exact R.ok e he
 ·rcases aJ he with rfl | he
  ·exact fun o' eo=>absurd eo (jp hp o')
  ·exact R.ro e he
 ·rw [hf] at hc
  rcases aJ hc with rfl | hc
  ·exact out.2
  ·exact T.at'.rep.free c hc
 ·obtain ⟨τ,e⟩:=T.ext.pre
  exact ⟨τ++[(D,0)],by rw [e,List.append_assoc]⟩
 ·rw [hf] at hc
  rcases aJ hc with rfl | hc
  ·exact .inr nD
  ·exact T.ext.new c hc
theorem m8 {lo hi sp:Option Expr}{p:Pos}{a:SV}{l u t:Option Int}{va v₂ v₃ v₄:Value}{e:Expr}{Q:Value→Shared→Prop}(at':At F ρ st s)(ia:a.Is ρ va)(p₂:IsPart v₂ l)(p₃:IsPart v₃ u)(p₄:IsPart v₄ t)(h:(vM a l u t st).Ok (PE [] F ρ st s Q)) :
  wpAny (model prog w) A (subscriptTail e (.Slice lo hi sp p) va (.ref s.heap.objs.size)) Q E { s with heap:=s.heap.push { cls:=.type "slice",data:=.fields #[v₂,v₃,v₄] } }:=
 dg h fun xs e1 h=>gi h fun z h=>at'.ilistK e1 ia fun L vs n ho hv=>by
  obtain ⟨hn,h⟩:=h
  obtain ⟨ops,hops⟩:=ua (lo:=lo) (hi:=hi) (sp:=sp) (p:=p) (o:=.ref L) (i:=.ref s.heap.objs.size)
  have T₅:=To.grow (X:=[]) (tk:=s.toks) at' (bN (o:={ cls:=.type "slice",data:=.fields #[v₂,v₃,v₄] }))
  have hl:(s.heap.push { cls:=.type "slice",data:=.fields #[v₂,v₃,v₄] }).IsList L vs:=(au ho).push _
  have hz:=dK hv
  refine tail_any (T:="list") hl.typeIs slot_list_getitem.lookup (wpAny_getItem_list_slice hl (Heap.IsSliceOf.new ..) p₂ p₃ p₄ (uE z) ?_ (by rw [sizeLine_eq,hz]; omega)) hops
  have pr:=wj hv (sliceRange (sliceBounds l u t vs.size).1 (sliceBounds l u t vs.size).2.1 (sliceBounds l u t vs.size).2.2)
  exact fT (so:=.ilist _) T₅.at' rfl bN ⟨_,0,Heap.get?_push_size _ rfl,by unfold slicePick iq; rw [←hz]; exact pr⟩ (h.from T₅)
theorem m9 (S:aG ih){o:Expr}{q:Sl}{p:Pos}(rm:aj cx.d A)(at':At F ρ st s)(fm:Fm F ρ st.σ cx env m s.heap):Sp A s (PE [] F ρ st s) (eval (.Subscript o (.Slice q.1 q.2.1 q.2.2 p) pos) env) (vO ih cx m o st q):=
 fun Q E h=>Subscript_ ((S.e rm at' fm).bind h fun a h F₁ ρ₁ s₁ v₁ T₁ i₁=>wpAny_Slice ((gG S rm T₁.at' (fm.go T₁)).bind h fun l h F₂ ρ₂ s₂ v₂ T₂ p₂=>(gG S rm T₂.at' ((fm.go T₁).go T₂)).bind h fun u h F₃ ρ₃ s₃ v₃ T₃ p₃=>(gG S rm T₃.at' (((fm.go T₁).go T₂).go T₃)).bind h fun t h F₄ ρ₄ s₄ v₄ T₄ p₄=>
  m8 T₄.at' (i₁.ext (T₂.trans (T₃.trans T₄)).ext) p₂ p₃ p₄ (h.from (T₁.trans (T₂.trans (T₃.trans T₄))))))
theorem vp {a b:Str}{x y:SV}{v₁ v₂:Value}(i₁:x.Is ρ v₁)(i₂:y.Is ρ v₂)(z:Str):az ρ (af z [(a,x),(b,y)]) (valueAt [(a,v₁),(b,v₂)] z):=by
 unfold valueAt
 rw [af,af,af,List.find?_cons,List.find?_cons,List.find?_nil]
 by_cases za:a=z
 ·rw [aQ.mpr za,decide_eq_true za]; exact i₁
 ·rw [cn.mpr za,decide_eq_false za]
  by_cases zb:b=z
  ·rw [aQ.mpr zb,decide_eq_true zb]; exact i₂
  ·rw [cn.mpr zb,decide_eq_false zb]; exact trivial
theorem qo (S:aG ih){a b:Str}{k1 k2:Nat}{p1 p2:Pos}{e1 e2:Expr}(rm:aj cx.d A)(at':At F ρ st s)(fm:Fm F ρ st.σ cx env m s.heap):Sp A s (PE [] F ρ st s) (eval (.Dict [some (.Constant (.str a) k1 p1),some (.Constant (.str b) k2 p2)] [e1,e2] pos) env) (BC ih cx m a b e1 e2 st):=
 .chk fun q Q E h=>by
  have hab:a≠b:=cn.mp (js q)
  have nD:=aT s.heap
  have T₀:=To.grow (X:=[]) (tk:=s.toks) at' (bN (o:={ cls:=.type "dict",data:=.dict #[] }))
  have hD:({ s with heap:=s.heap.push { cls:=.type "dict",data:=.dict #[] } }:Shared).heap.get? s.heap.objs.size=some { cls:=.type "dict",data:=.dict #[] }:=Heap.get?_push_size _ rfl
  refine wpAny_Dict_pairs (knd:=strKind prog w) (pairs:=[(eval (.Constant (.str a) k1 p1) env,do let x←eval e1 env; standAt pos; pure x),(eval (.Constant (.str b) k2 p2) env,do let x←eval e2 env; standAt pos; pure x)]) rfl (by simp) (by show 2≤15; decide) ?_
  show wpAny _ _ (do
   let kv←eval (.Constant (.str a) k1 p1) env
   let vv←holding [kv] (do let x←eval e1 env; standAt pos; pure x)
   return (kv,vv)::(←holding [kv,vv] (do
    let kv'←eval (.Constant (.str b) k2 p2) env
    let vv'←holding [kv'] (do let x←eval e2 env; standAt pos; pure x)
    return (kv',vv')::(←holding [kv',vv'] (pure []))))) _ _ _
  refine wpAny_bind (wpAny_Constant_str (wpAny_bind (wpAny_holding (wpAny_bind ?_))))
  generalize ({ s with heap:=s.heap.push { cls:=.type "dict",data:=.dict #[] } }:Shared)=s₀ at T₀ hD ⊢
  have T₁':=To.tok (X:=[]) T₀.at' (s₀.toks+1)
  refine (S.e rm T₁'.at' (fm.go (T₀.trans T₁'))).bind h fun x h F₁ ρ₁ s₁ v₁ T₁ i₁=>?_
  refine wpAny_bind (wpAny_standAt (wpAny_pure (wpAny_bind (wpAny_holding ?_))))
  refine wpAny_bind (wpAny_Constant_str (wpAny_bind (wpAny_holding (wpAny_bind ?_))))
  have T₂':=(T₁'.trans T₁).trans (To.tok (X:=[]) T₁.at' (s₁.toks+1))
  refine (S.e rm T₂'.at' (fm.go (T₀.trans T₂'))).bind h fun y h F₂ ρ₂ s₂ v₂ T₂ i₂=>?_
  refine wpAny_bind (wpAny_standAt (wpAny_pure (wpAny_bind (wpAny_holding (wpAny_pure (wpAny_pure (wpAny_pure ?_)))))))
  have T:=T₂'.trans T₂
  have o0:=at'.new nD
  have out:=T.outside hD o0
  refine ⟨[(a,v₁),(b,v₂)],⟨strKind_is prog w a _,rfl,strKind_is prog w b _,rfl,trivial⟩,⟨_,#[],0,T.ext.keep _ _ hD o0.1 List.not_mem_nil,⟨rfl,rfl,rfl⟩,rfl,(fun e he=>by simp at he),.nil,.nil⟩,fun h' hd sb=>?_⟩
  rw [show merged [] [(a,v₁),(b,v₂)]=[(a,v₁),(b,v₂)] by unfold merged stored; simp [hab,stored]] at hd
  obtain ⟨o',_,_,ho',_⟩:=id hd
  have TT:=To.adopt (so:=.sdict [(a,x.1),(b,y.1)]) (((T₀.trans T).nil.trans (T.at'.other (tk:=s₂.toks+2) out.1 out.2 sb ho')).leave nD) nD rfl out ⟨_,hd,Nat.le_refl _,vp (i₁.ext ((To.tok T₁.at' (s₁.toks+1) (X:=[])).trans T₂).ext).mono i₂.mono⟩
  exact h _ _ _ _ TT.1 TT.2
theorem qi (S:aG ih){ks:List (Option Expr)}{vs:List Expr}(rm:aj cx.d A)(at':At F ρ st s)(fm:Fm F ρ st.σ cx env m s.heap):Sp A s (PE [] F ρ st s) (eval (.Dict ks vs pos) env) (BB ih cx m ks vs st):=
 .ifB (fun e=>cN e fun e1 e2 Q E z=>by
  cases List.isEmpty_iff.mp e1
  cases List.isEmpty_iff.mp e2
  exact wpAny_Dict_empty (fT (so:=.edict) at' rfl bN ⟨rx at',0,Heap.get?_push_size _ rfl⟩ z))
 (.opt fun k q1=>.opt fun a q2=>.opt fun b q3=>.opt fun v q4=>by
  obtain ⟨k1,p1,e1⟩:=mf q2
  obtain ⟨k2,p2,e2⟩:=mf q3
  rw [jk q1,jk q4,e1,e2]
  exact qo S rm at' fm)
theorem oP (S:aG ih){e:Expr}(rm:aj cx.d A)(at':At F ρ st s)(fm:Fm F ρ st.σ cx env m s.heap):Sp A s (PE [] F ρ st s) (eval e env) (Bd K ih cx m e st):=by
 cases e
 case Constant=>exact n9 at'
 case Name=>exact pt at' fm
 case BinOp=>exact fun Q E h=>wpAny_BinOp ((S.e rm at' fm).bind h fun a h F₁ ρ₁ s₁ v₁ T₁ i₁=>(S.e rm T₁.at' (fm.go T₁)).bind h fun b h F₂ ρ₂ s₂ v₂ T₂ i₂=>sy T₂.at' (i₁.ext T₂.ext) i₂ (h.from (T₁.trans T₂)))
 case UnaryOp=>exact fun Q E h=>wpAny_UnaryOp ((S.e rm at' fm).bind h fun a h F₁ ρ₁ s₁ v₁ T₁ i₁=>tY T₁.at' i₁ (h.from T₁))
 case Compare=>exact sk S rm at' fm
 case IfExp=>exact fun Q E h=>wpAny_IfExp ((S.t rm at' fm).bind h fun c h F₁ ρ₁ s₁ T₁=>uI S rm T₁.at' (fm.go T₁) (h.from T₁))
 case Attribute=>
  refine .chk fun q Q E h=>?_
  rw [arm_eval_Attribute,jJ q]
  refine wpAny_bind ((S.e rm at' fm).bind h fun a h F₁ ρ₁ s₁ v₁ T₁ i₁=>?_)
  refine wpAny_bind (wpAny_standAt (wpAny_bind (wpAny_holding ?_)))
  exact lu T₁.at' i₁ (h.mono fun r z F₂ ρ₂ s₂ v₂ T₂ i₂=>wpAny_bind (wpAny_letTemporaryGo (wpAny_pure (z _ _ _ _ (T₁.trans T₂) i₂))))
 case Subscript=>exact .alt (fun q e=>(qZ e).elim fun p e=>e▸m9 S rm at' fm) (qS S rm at' fm)
 case Dict=>exact qi S rm at' fm
 case Tuple=>exact kK S rm at' fm (fun _=>rfl) (fun h=>qO h) fun h=>wpAny_Tuple h
 case List=>exact kK S rm at' fm (fun _=>rfl) (fun h=>nO h) fun h=>wpAny_List h
 case Call=>exact qB S rm at' fm
 all_goals exact .stuck
end
end
section
noncomputable def iP (f:Int→Int)(i x:Int):Int→Int:=fun j=>if j=i then x else f j
noncomputable def jZ (f:Int→Option SV)(i:Int)(x:SV):Int→Option SV:=fun j=>if j=i then some x else f j
noncomputable def asG:Option SO→Option ((Int→Option SV)×Nat)
 | some (.idict g n)=>some (g,n)
 | _=>none
noncomputable def siL (k:Nat)(i v:SV)(st:St)(xs:List SV):Res (Unit×St):=opt (jS i) fun n=>chk (Nat.blt n xs.length) (chk (Nat.ble n 100000) (.ok ((),⟨dp k (.list (xs.set n v)) st.σ,st.nx⟩)))
noncomputable def siI (k:Nat)(i v:SV)(st:St)(xs:List Int):Res (Unit×St):=opt (cE i) fun j=>opt (cE v) fun x=>.need (0≤j.2∧j.2<xs.length∧xs.length<2 ^ 62) (.ok ((),⟨dp k (.ilist (xs.set j.2.toNat x.2)) st.σ,st.nx⟩))
noncomputable def siM (k:Nat)(i v:SV)(st:St)(f:(Int→Int)×Nat):Res (Unit×St):=opt (cE i) fun j=>opt (cE v) fun x=>.need (f.2≤100000) (.ok ((),⟨dp k (.mem (iP f.1 j.2 x.2) (f.2+1)) st.σ,st.nx⟩))
noncomputable def siG (k:Nat)(i v:SV)(st:St)(g:(Int→Option SV)×Nat):Res (Unit×St):=opt (cE i) fun j=>.need (g.2≤100000) (.ok ((),⟨dp k (.idict (jZ g.1 j.2 v) (g.2+1)) st.σ,st.nx⟩))
noncomputable def siO (o:Option SO)(k:Nat)(i v:SV)(st:St):Res (Unit×St):=alt (asL o) (siL k i v st) (alt (asI o) (siI k i v st) (alt (asM o) (siM k i v st) (opt (asG o) (siG k i v st))))
noncomputable def oU (o i v:SV)(st:St):Res (Unit×St):=opt (gF o) fun k=>siO (aM k st.σ) k i v st
noncomputable def nC (e:Expr):Option (Str×Pos):=if h:e.ctorIdx=23 then Expr.Name.elim e h fun x p=>some (x,p) else none
noncomputable def bR (cx:Cx):List Expr→List SV→Loc→Option Loc
 | [],[],m=>some m
 | e::es,v::vs,m=>(nC e).bind fun x=>match aD cx.sc x.1 with
  | true=>bR cx es vs (dD x.1 v m)
  | false=>none
 | _,_,_=>none
noncomputable def tI:Option NameKind→Bool
 | some .cell=>true
 | _=>false
noncomputable def nR:Option SO→Bool
 | some (.cell _)=>true
 | _=>false
noncomputable def qX (cx:Cx)(m:Loc)(x:Str)(v:SV)(st:St):Res (Loc×St):=ifB (aD cx.sc x) (.ok (dD x v m,st)) (chk (tI (af x cx.sc.names)) (opt (af x cx.cells) fun k=>chk (nR (aM k st.σ)) (.ok (m,⟨dp k (.cell (some v)) st.σ,st.nx⟩))))
noncomputable def A2 (K:Frag)(ih:Ev)(cx:Cx)(m:Loc)(t:Expr)(v:SV)(st:St):Res (Loc×St):=t.casesOn (fun _ _ _=>.stuck 1016) (fun _ _ _=>.stuck 1016) (fun _ _ _ _=>.stuck 1016) (fun _ _ _=>.stuck 1016) (fun _ _ _ _=>.stuck 1016) (fun _ _ _ _=>.stuck 1016) (fun _ _ _=>.stuck 1016) (fun _ _ _=>.stuck 1016) (fun _ _ _ _=>.stuck 1016) (fun _ _ _ _=>.stuck 1016) (fun _ _ _ _ _=>.stuck 1016) (fun _ _ _ _=>.stuck 1016) (fun _ _=>.stuck 1016) (fun _ _=>.stuck 1016) (fun _ _=>.stuck 1016) (fun _ _ _ _=>.stuck 1016) (fun _ _ _ _=>.stuck 1016) (fun _ _ _ _=>.stuck 1016) (fun _ _=>.stuck 1016) (fun _ _ _=>.stuck 1016)
 (fun o x _=>(ih.e cx m o st).bind fun a=>(oW K x a.1 v a.2).bind fun r=>.ok (m,r.2))
 (fun o i _=>chk (!cS i) ((ih.e cx m o st).bind fun a=>(ih.e cx m i a.2).bind fun b=>(oU a.1 b.1 v b.2).bind fun r=>.ok (m,r.2))) (fun _ _=>.stuck 1016)
 (fun x _=>qX cx m x v st) (fun _ _=>.stuck 1016)
 (fun es _ _=>opt (asT (bf st.σ v)) fun xs=>opt (bR cx es xs m) fun m'=>.ok (m',st)) (fun _ _ _ _=>.stuck 1016)
noncomputable def fW (e:Expr):Bool:=!(Nat.beq e.ctorIdx 8||Nat.beq e.ctorIdx 9||Nat.beq e.ctorIdx 10)
noncomputable def vr (e:Expr):Nat:=if h:e.ctorIdx=25 then Expr.Tuple.elim e h fun ts _ _=>ts.length else 0
noncomputable def iW (e:Expr):Bool:=Nat.beq e.ctorIdx 23||Nat.beq e.ctorIdx 20||Nat.beq e.ctorIdx 21||(Nat.beq e.ctorIdx 25&&!(Nat.beq (vr e) 2)&&!(Nat.beq (vr e) 3))
noncomputable def dY (e:Expr):Bool:=Nat.beq e.ctorIdx 23
noncomputable def rO (k:Nat)(rg:Option (Int×Int))(i:Nat)(σ:Hp):Option (Option SV):=match rg with
 | some r=>some (match Nat.blt i (r.2 - r.1).toNat with
  | true=>some (.int (r.1+i))
  | false=>none)
 | none=>(asL (getH k σ)).map (·[i]?)
noncomputable abbrev LR:=Res (Fl×Loc×St)
noncomputable def Jq (next:Loc→St→LR)(q:Fl×Loc×St):LR:=match q.1 with
 | .next=>next q.2.1 q.2.2
 | .cont=>next q.2.1 q.2.2
 | .brk=>.ok (.next,q.2.1,q.2.2)
 | .ret v=>.ok (.ret v,q.2.1,q.2.2)
noncomputable def GD (K:Frag)(ih:Ev)(cx:Cx)(t:Expr)(body:List Stmt)(next:Loc→St→LR)(m:Loc)(st:St):Option SV→LR
 | none=>.ok (.next,m,st)
 | some v=>(A2 K ih cx m t v st).bind fun r=>(ih.ss cx r.1 body r.2).bind (Jq next)
noncomputable def uK (K:Frag)(ih:Ev)(cx:Cx)(t:Expr)(body:List Stmt)(k:Nat)(rg:Option (Int×Int)):Nat→Nat→Loc→St→LR
 | 0,_,_,_=>.stuck 1021
 | n+1,i,m,st=>opt (rO k rg i st.σ) (GD K ih cx t body (uK K ih cx t body k rg n (i+1)) m st)
noncomputable def BZ (a b:Int):Bool:=Nat.blt a.natAbs 1000000&&Nat.blt b.natAbs 1000000
noncomputable def asR:Option SO→Option (Int×Int)
 | some (.rng a b)=>some (a,b)
 | _=>none
noncomputable def GE (K:Frag)(ih:Ev)(cx:Cx)(m:Loc)(t:Expr)(b:List Stmt)(a:SV×St):LR:=opt (gF a.1) fun k=>alt (asL (getH k a.2.σ)) (fun _=>uK K ih cx t b k none 200 0 m a.2) (opt (asR (getH k a.2.σ)) fun r=>chk (BZ r.1 r.2) (uK K ih cx t b k (some r) 200 0 m a.2))
noncomputable def GF (K:Frag)(ih:Ev)(cx:Cx)(m:Loc)(t it:Expr)(b:List Stmt)(st:St):LR:=chk (dY t) (chk (!d7 it) ((ih.e cx m it st).bind (GE K ih cx m t b)))
noncomputable def wE (f:Loc→St→LR)(r:Fl×Loc×St):LR:=match r.1 with
 | .next=>f r.2.1 r.2.2
 | _=>.ok r
noncomputable def ifS (ih:Ev)(cx:Cx)(m:Loc)(b o:List Stmt)(c:Bool×St):LR:=match c.1 with
 | true=>ih.ss cx m b c.2
 | false=>ih.ss cx m o c.2
noncomputable def Iw (ih:Ev)(cx:Cx)(m:Loc)(st:St):Option Expr→LR
 | none=>.ok (.ret .none,m,st)
 | some e=>(ih.e cx m e st).bind fun r=>.ok (.ret r.1,m,r.2)
noncomputable def Bc (K:Frag)(ih:Ev)(cx:Cx)(m:Loc)(stm:Stmt)(st:St):LR:=stm.casesOn (fun _ _ _ _ _ _ _ _ _ _=>.stuck 1037) (fun _ _ _ _ _ _ _ _ _ _=>.stuck 1037) (fun _ _ _ _ _ _ _ _ _ _ _=>.stuck 1037)
 (fun e _=>Iw ih cx m st e) (fun _ _=>.stuck 1037)
 (fun ts v _=>opt (one ts) fun t=>chk (fW v) (chk (iW t) ((ih.e cx m v st).bind fun a=>(A2 K ih cx m t a.1 a.2).bind fun r=>.ok (.next,r.1,r.2)))) (fun _ _ _ _ _ _ _=>.stuck 1037) (fun _ _ _ _=>.stuck 1037) (fun _ _ _ _ _=>.stuck 1037)
 (fun t it b els _=>chk els.isEmpty (GF K ih cx m t it b st)) (fun _ _ _ _ _=>.stuck 1037) (fun _ _ _ _=>.stuck 1037)
 (fun t b o _=>(ih.t cx m t st).bind (ifS ih cx m b o)) (fun _ _ _=>.stuck 1037) (fun _ _ _=>.stuck 1037) (fun _ _ _=>.stuck 1037) (fun _ _ _=>.stuck 1037)
 (fun b hs o fin _=>chk (!hs.isEmpty) (chk fin.isEmpty ((ih.ss cx m b st).bind (wE fun m st=>ih.ss cx m o st)))) (fun _ _ _ _ _=>.stuck 1037) (fun _ _ _=>.stuck 1037) (fun _ _=>.stuck 1037) (fun _ _ _ _=>.stuck 1037) (fun _ _=>.stuck 1037) (fun _ _=>.stuck 1037)
 (fun e _=>chk (fW e) ((ih.e cx m e st).bind fun r=>.ok (.next,m,r.2)))
 (fun _=>.ok (.next,m,st))
 (fun _=>.ok (.brk,m,st))
 (fun _=>.ok (.cont,m,st))
noncomputable def vF (ih:Ev)(cx:Cx)(m:Loc)(sts:List Stmt)(st:St):LR:=match sts with
 | []=>.ok (.next,m,st)
 | x::r=>(ih.s cx m x st).bind (wE fun m st=>ih.ss cx m r st)
noncomputable def PL (F:Fz)(ρ:Rho)(st:St)(s:Shared)(cx:Cx)(env:Env)(Q:Unit→Shared→Prop)(r:Loc×St):Prop:=∀ F' ρ' s',To [env.locals] F ρ st s F' ρ' r.2 s'→Fm F' ρ' r.2.σ cx env r.1 s'.heap→Q () s'
section
theorem mz {e:Expr}{q:Str×Pos}(h:nC e=some q):e=.Name q.1 q.2:=by
 cases e<;>first | exact nos h | exact congrArg (fun q:Str×Pos=>Expr.Name q.1 q.2) (Option.some.inj h)
theorem a9 {x:Str}{sv:SV}{v:Value}{Q:Unit→Shared→Prop}(at':At F ρ st s)(fm:Fm F ρ st.σ cx env m s.heap)(hl:aD cx.sc x=true)(iv:sv.Is ρ v)
  (h:∀ s',To [env.locals] F ρ st s F ρ st s'→Fm F ρ st.σ cx env (dD x sv m) s'.heap→Q () s'):wpAny (model prog w) A (storeName env x v) Q E s:=by
 obtain ⟨m',hns,hrel⟩:=fm.ns
 have hk:env.kindOf x=some .local:=(f5 fm.eok x).trans (f8 hl)
 refine wpAny_storeName_local hk hns (fun h' hns' sb=>?_) (by rw [cL fm.eok]; rfl)
 obtain ⟨y,_,_,ey,_⟩:=id hns'
 refine h _ (at'.other fm.out fm.free sb ey) ⟨fm.eok,⟨_,hns',fun z sv' e=>?_⟩,fm.out,fm.free⟩
 rw [mB] at e
 by_cases q:z=x
 ·rw [if_pos q] at e; cases e; rw [if_pos q]; exact ⟨v,rfl,iv⟩
 ·rw [if_neg q] at e; rw [if_neg q]; exact hrel z sv' e
theorem rT {o:Option NameKind}(h:tI o=true):o=some .cell:=by
 cases o with
 | none=>exact eqT h
 | some k=>cases k<;>first | rfl | exact eqT h
theorem rS {o:Option SO}(h:nR o=true):∃ v,o=some (.cell v):=by
 cases o with
 | none=>exact eqT h
 | some k=>cases k<;>first | exact ⟨_,rfl⟩ | exact eqT h
theorem iR {x:Str}{sv:SV}{v:Value}(at':At F ρ st s)(fm:Fm F ρ st.σ cx env m s.heap)(iv:sv.Is ρ v):Sp A s (PL F ρ st s cx env) (storeName env x v) (qX cx m x sv st):=
 .ifB (fun q Q E h=>a9 at' fm q iv fun s' T fm'=>h _ _ _ T fm') (.chk fun q=>.opt fun k q2=>.chk fun q3 Q E h=>by
  obtain ⟨c,q3⟩:=rS q3
  obtain ⟨p,hp,hl⟩:=fm.eok.cel _ _ q2
  obtain ⟨p',hp',o,cv,ho,hd,hr⟩:=at'.rep.get q3
  cases hp.symm.trans hp'
  refine wpAny_storeName_cell (cL fm.eok) ((f5 fm.eok x).trans (rT q)) hl ⟨o,ho,hd⟩ fun h' hc sb=>?_
  obtain ⟨o',ho',hd'⟩:=hc
  have T:=kf (tk:=s.toks) at' q3 hp rfl rfl sb ho' (o':=.cell (some sv)) ⟨o',_,ho',hd',iv⟩
  exact h _ _ _ T.nil (fm.go T))
theorem jm {l:Addr}{items:Array Value}{n:Nat}{k:Int}{t:Tok}{v:Value}{Q:Unit→Shared→Prop}(ho:s.heap.get? l=some ⟨.type "list",none,.seq items n,#[]⟩)
  (h0:0≤k) (hfit:k<2 ^ 63) (hn:k<items.size)
  (hQ:∀ h' n',h'.get? l=some ⟨.type "list",none,.seq (items.setIfInBounds k.toNat v) n',#[]⟩→Heap.SameBut l s.heap h'→Q () { s with heap:=h' }) :
  wpAny (model prog w) A (setItem (.ref l) (.int k t) v) Q E s:=by
 have hl:s.heap.IsList l items:=au ho
 unfold setItem
 try with_reducible refine wpAny_holding ?_
 first | refine wpAny_bind (wpAny_pure ?_) | skip
 refine wpAny_bind (wpAny_sequenceKey hl.typeIs (by decide) ?_)
 refine wpAny_bind (wpAny_callSpecial?_slot (name:=Str.ofString "__setitem__") hl.typeIs slot_list_setitem
  (wpAny_call_entry slot_list_setitem hl.typeIs entry_list_setitem ?_ (args_list_setitem _ _ _)))
 show wpAny _ _ (Builtin.List.listSubscript? (.int k t) >>= _) _ _ s
 refine wpAny_bind (wpAny_listSubscript_int (fitsIndex_of h0 hfit) ?_)
 clear hfit
 obtain ⟨j,rfl⟩:=Int.eq_ofNat_of_zero_le h0
 have hj:j<items.size:=by omega
 have hx':items[j]?=some items[j]:=Array.getElem?_eq_getElem hj
 show wpAny _ _ ((seqItemAt l j >>= fun r=>pure (r.map (j,·))) >>= _) _ _ s
 refine wpAny_bind (wpAny_bind (wpAny_seqItemAt ho rfl (wpAny_pure ?_)))
 rw [hx']
 show wpAny _ _ (setSeqItemAt l j v >>= _) _ _ s
 have hfin:∃ n',(s.heap.update l (Obj.mapSeq (·.setIfInBounds j v))).get? l=some ⟨.type "list",none,.seq (items.setIfInBounds j v) n',#[]⟩:=by
  have e:=Heap.get?_update_self (Obj.mapSeq (·.setIfInBounds j v)) ho rfl
  exact ⟨_,e.trans (by simp [Obj.mapSeq]; rfl)⟩
 obtain ⟨n',hfin⟩:=hfin
 refine wpAny_bind (wpAny_setSeqItemAt ho rfl ?_)
 first
  | exact wpAny_bind (wpAny_pure (wpAny_pure ⟨.none,rfl,wpAny_pure (hQ _ n' hfin (Heap.SameBut.update ..))⟩))
  | exact wpAny_pure ⟨.none,rfl,wpAny_pure (hQ _ n' hfin (Heap.SameBut.update ..))⟩
theorem c8 {κ:Type} [DecidableEq κ](p:κ×Value)(r:List (κ×Value))(x:κ):valueAt (p::r) x=if p.1=x then some p.2 else valueAt r x:=by
 unfold valueAt
 rw [List.find?_cons]
 by_cases h:p.1=x
 ·rw [decide_eq_true h,if_pos h]; rfl
 ·rw [decide_eq_false h,if_neg h]
theorem oE {κ:Type} [DecidableEq κ](l:List (κ×Value))(k:κ)(v:Value)(x:κ):valueAt (l.map fun kv=>if kv.1=k then (kv.1,v) else kv) x=if x=k then (if l.any (fun kv=>kv.1=k) then some v else none) else valueAt l x:=by
 induction l with
 | nil=>by_cases h:x=k<;>simp [valueAt,h]
 | cons p r ih=>
  rw [List.map_cons,c8,c8,ih,List.any_cons]
  by_cases hp:p.1=k
  ·rw [if_pos hp,decide_eq_true hp,Bool.true_or]
   by_cases hx:x=k
   ·rw [if_pos (hp.trans hx.symm),if_pos hx]; rfl
   ·rw [if_neg fun e=>hx (e.symm.trans hp),if_neg hx,if_neg hx,if_neg fun e=>hx (e.symm.trans hp)]
  ·rw [if_neg hp,decide_eq_false hp,Bool.false_or]
   by_cases hx:x=k
   ·rw [if_neg fun e=>hp (e.trans hx),if_pos hx,if_pos hx]
   ·rw [if_neg hx,if_neg hx]
theorem oG {κ:Type} [DecidableEq κ](l:List (κ×Value))(k:κ)(v:Value)(x:κ)(h:¬ l.any (fun kv=>kv.1=k)=true):valueAt (l++[(k,v)]) x=if x=k then some v else valueAt l x:=by
 induction l with
 | nil=>
  rw [List.nil_append,c8]
  by_cases hx:x=k
  ·rw [if_pos hx.symm,if_pos hx]
  ·rw [if_neg fun e=>hx e.symm,if_neg hx]
 | cons p r ih=>
  rw [List.any_cons,Bool.or_eq_true,not_or] at h
  rw [List.cons_append,c8,c8,ih h.2]
  by_cases hx:x=k
  ·rw [if_pos hx,if_pos hx,if_neg fun e=>h.1 (decide_eq_true (e.trans hx))]
  ·rw [if_neg hx,if_neg hx]
theorem gB {κ:Type} [DecidableEq κ](kvs:List (κ×Value))(k:κ)(v:Value)(x:κ):valueAt (stored kvs k v) x=if x=k then some v else valueAt kvs x:=by
 unfold stored
 by_cases q:kvs.any (fun kv=>kv.1=k)=true
 ·rw [if_pos q,oE,if_pos q]
 ·rw [if_neg q,oG _ _ _ _ q]
theorem pY {vs:List Value}{xs:List Int}(h:IntsAre vs xs){i:Nat}{x:Int}{t:Tok}:IntsAre (vs.set i (.int x t)) (xs.set i x):=by
 induction h generalizing i with
 | nil=>exact .nil
 | cons n u r ih=>
  cases i with
  | zero=>exact .cons _ _ r
  | succ i=>exact .cons _ _ ih
theorem yl {o:Option SO}{q:(Int→Option SV)×Nat}(h:asG o=some q):o=some (.idict q.1 q.2):=by
 cases o with
 | none=>exact nos h
 | some o=>cases o<;>first | exact nos h | exact congrArg (fun x:(Int→Option SV)×Nat=>some (SO.idict x.1 x.2)) (Option.some.inj h)
theorem sW {k:Nat}{o o':SO}{p:Addr×Addr}{vs:Array Value}{c:Nat}{j:Int}{t:Tok}{v:Value}(at':At F ρ st s)(q:aM k st.σ=some o)(hp:ρ[k]?=some p)(h1:cB o=true)(h2:cB o'=true)(ho:s.heap.get? p.1=some ⟨.type "list",none,.seq vs c,#[]⟩)(h0:0≤j)(hf:j<2 ^ 63)(hn:j<vs.size)
  (O:∀ {h':Heap} {n'},h'.get? p.1=some ⟨.type "list",none,.seq (vs.setIfInBounds j.toNat v) n',#[]⟩→OkO ρ h' p o'):Sp A s (PU F ρ st s) (setItem (.ref p.1) (.int j t) v) (.ok ((),⟨dp k o' st.σ,st.nx⟩)):=fun Q E h=>
 jm ho h0 hf hn fun h' n' ho' sb=>h _ _ _ (kf (tk:=s.toks) at' q hp h1 h2 sb ho' (O ho'))
theorem sX {k:Nat}{o o':SO}{p:Addr×Addr}{kvs:List (Int×Value)}{n:Nat}{j:Int}{t:Tok}{v:Value}(at':At F ρ st s)(q:aM k st.σ=some o)(hp:ρ[k]?=some p)(h1:cB o=true)(h2:cB o'=true)(hd:s.heap.DictOf (intKind prog w) p.1 kvs)(hle:kvs.length≤n)(hn:n≤100000)
  (O:∀ {h':Heap},h'.DictOf (intKind prog w) p.1 (stored kvs j v)→(stored kvs j v).length≤n+1→OkO ρ h' p o'):Sp A s (PU F ρ st s) (setItem (.ref p.1) (.int j t) v) (.ok ((),⟨dp k o' st.σ,st.nx⟩)):=fun Q E h=>
 wpAny_setItem_pairs (knd:=intKind prog w) (intKind_is prog w j t) hd (fun h' hd' sb=>by
  obtain ⟨o',_,_,ho',_⟩:=id hd'
  exact h _ _ _ (kf at' q hp h1 h2 sb ho' (O hd' (Nat.le_trans (stored_length_le ..) (Nat.succ_le_succ hle))))) (by rw [sizeLine_eq]; omega)
theorem kI {o i sv:SV}{vo vi v:Value}(at':At F ρ st s)(io:o.Is ρ vo)(ii:i.Is ρ vi)(iv:sv.Is ρ v):Sp A s (PU F ρ st s) (setItem vo vi v) (oU o i sv st):=.opt fun k ek=>
 .alt (fun xs e=>.opt fun n e1=>.chk fun q2=>.chk fun q3=>CG e1 ii fun t=>at'.ownK ek (gU e) io fun p hp O=>O.elim fun vs O=>O.elim fun c O=>sW at' (gU e) hp rfl rfl O.1 (Int.natCast_nonneg _) (Int.ofNat_lt.mpr (Nat.lt_of_le_of_lt (cC q3) (by decide))) (Int.ofNat_lt.mpr (cU O.2▸cC q2)) fun ho'=>⟨_,_,ho',by rw [Array.toList_setIfInBounds]; exact O.2.set iv⟩)
 (.alt (fun xs e=>.opt fun j e1=>.opt fun x e2=>.need fun hj=>gy e1 ii fun t=>gy e2 iv fun u=>at'.ownK ek (jL e) io fun p hp O=>O.elim fun vs O=>O.elim fun c O=>sW at' (jL e) hp rfl rfl O.1 hj.1 (Int.lt_trans hj.2.1 (dG hj.2.2)) (dK O.2▸hj.2.1) fun ho'=>⟨_,_,ho',by rw [Array.toList_setIfInBounds]; exact pY O.2⟩)
 (.alt (fun f e=>.opt fun j e1=>.opt fun x e2=>.need fun hn=>gy e1 ii fun t=>gy e2 iv fun u=>at'.ownK ek (lG e) io fun p hp O=>O.elim fun ne O=>O.elim fun kvs O=>sX at' (lG e) hp rfl rfl O.1 O.2.1 hn fun hd hl=>⟨ne,_,hd,hl,fun z=>by
   rw [gB]
   unfold iP
   by_cases zj:z=j.2
   ·rw [if_pos zj,if_pos zj]; exact ⟨_,rfl⟩
   ·rw [if_neg zj,if_neg zj]; exact O.2.2 z⟩)
 (.opt fun g e=>.opt fun j e1=>.need fun hn=>gy e1 ii fun t=>at'.ownK ek (yl e) io fun p hp O=>O.elim fun ne O=>O.elim fun kvs O=>sX at' (yl e) hp rfl rfl O.1 O.2.1 hn fun hd hl=>⟨ne,_,hd,hl,fun z=>by
   rw [gB]
   unfold jZ
   by_cases zj:z=j.2
   ·rw [if_pos zj,if_pos zj]; exact iv
   ·rw [if_neg zj,if_neg zj]; exact O.2.2 z⟩)))
theorem qJ {x:Str}{p:Pos}{es:List Expr}:assignEach (.Name x p::es) env=(false,assign (.Name x p) env)::assignEach es env:=rfl
theorem gD {es:List Expr}{xs:List SV}{vs:List Value}{m m':Loc}{s:Shared}{Q:Unit→Shared→Prop}(at':At F ρ st s)(fm:Fm F ρ st.σ cx env m s.heap)(e:bR cx es xs m=some m')(ha:ag (SV.Is ρ) xs vs)
  (h:∀ s',To [env.locals] F ρ st s F ρ st s'→Fm F ρ st.σ cx env m' s'.heap→Q () s'):wpAny (model prog w) A (assignInOrder ((assignEach es env).map (·.2)) vs) Q E s:=by
 induction es generalizing xs vs m s with
 | nil=>
  cases ha with
  | nil=>rw [←Option.some.inj e] at h; exact wpAny_pure (h s (To.refl at') fm)
  | cons _ _=>exact nos e
 | cons t es ih=>
  cases ha with
  | nil=>exact nos e
  | cons i ht=>
   obtain ⟨q,e1,e2⟩:=bD (show (nC t).bind _=_ from e)
   cases mz e1
   cases hl:aD cx.sc q.1 with
   | false=>rw [hl] at e2; exact nos e2
   | true=>
    rw [hl] at e2
    show wpAny _ _ (do holding _ (assign (.Name q.1 q.2) env _); assignInOrder ((assignEach es env).map (·.2)) _) _ _ _
    exact wpAny_bind (wpAny_holding (PySem.wpAny_assign_Name (a9 at' fm hl i fun s₁ T₁ fm₁=>ih T₁.at' fm₁ e2 ht fun s' T' fm'=>h s' (T₁.trans T') fm')))
theorem gT {es:List Expr}{xs:List SV}{m m':Loc}(e:bR cx es xs m=some m'):(assignEach es env).length=xs.length∧(assignEach es env).findIdx? (·.1)=none:=by
 induction es generalizing xs m with
 | nil=>
  cases xs with
  | nil=>exact ⟨rfl,rfl⟩
  | cons _ _=>exact nos e
 | cons t es ih=>
  cases xs with
  | nil=>exact nos e
  | cons x xs=>
   obtain ⟨q,e1,e2⟩:=bD (show (nC t).bind _=_ from e)
   cases mz e1
   cases hl:aD cx.sc q.1 with
   | false=>rw [hl] at e2; exact nos e2
   | true=>
    rw [hl] at e2
    obtain ⟨a,b⟩:=ih e2
    rw [qJ,List.length_cons,a,List.findIdx?_cons,b]
    exact ⟨rfl,rfl⟩
end
end
section
section
theorem ou {es:List Expr}{k:Nat}{p:Pos}{sv:SV}{v:Value}{xs:List SV}{m':Loc}(rm:A.handled=none)(at':At F ρ st s)(fm:Fm F ρ st.σ cx env m s.heap)(iv:sv.Is ρ v)(e1:asT (bf st.σ sv)=some xs)(e:bR cx es xs m=some m'):Sp A s (PL F ρ st s cx env) (assign (.Tuple es k p) env v) (.ok (m',st)):=fun Q E h=>by
 refine at'.tupK e1 iv fun l vs n ho hv=>?_
 obtain ⟨l1,l2⟩:=gT (env:=env) e
 refine assign_Tuple_tuple rm (cD ho) (by rw [l1,cU hv]) l2 fun h' hx=>?_
 have T':=To.grow (X:=[env.locals]) (tk:=s.toks) at' fun b o e=>hx b o (Nat.ne_of_lt (Heap.lt_size e)) e
 exact gD (s:={ s with heap:=h' }) T'.at' (fm.go (To.grow at' fun b o e=>hx b o (Nat.ne_of_lt (Heap.lt_size e)) e)) e hv fun s'' T'' fm''=>h _ _ _ (T'.trans T'') fm''
theorem iJ (S:aG ih){t:Expr}{sv:SV}{v:Value}(rm:aj cx.d A)(at':At F ρ st s)(fm:Fm F ρ st.σ cx env m s.heap)(iv:sv.Is ρ v):Sp A s (PL F ρ st s cx env) (assign t env v) (A2 K ih cx m t sv st):=by
 cases t
 case Name=>exact fun Q E h=>PySem.wpAny_assign_Name (iR at' fm iv h)
 case Attribute=>
  intro Q E h
  rw [arm_assign_Attribute]
  refine wpAny_bind (wpAny_holding ((S.e rm at' fm).bind h fun a h F₁ ρ₁ s₁ v₁ T₁ i₁=>?_))
  exact wpAny_bind (wpAny_standAt (wpAny_bind (wpAny_holding ((kJ T₁.at' i₁ (iv.ext T₁.ext)).bind h fun r z F₂ ρ₂ s₂ T₂=>wpAny_release (z _ _ _ (T₁.trans T₂).nil (fm.go (T₁.trans T₂)))))))
 case Subscript=>
  refine .chk fun q Q E h=>?_
  rw [arm_assign_Subscript]
  refine wpAny_bind (wpAny_holding ((S.e rm at' fm).bind h fun a h F₁ ρ₁ s₁ v₁ T₁ i₁=>?_))
  refine wpAny_bind (wpAny_holding ((S.e rm T₁.at' (fm.go T₁)).bind h fun b h F₂ ρ₂ s₂ v₂ T₂ i₂=>?_))
  have T:=T₁.trans T₂
  exact wpAny_bind (wpAny_standAt (wpAny_bind (wpAny_holding ((kI T₂.at' (i₁.ext T₂.ext) i₂ (iv.ext T.ext)).bind h fun r z F₃ ρ₃ s₃ T₃=>wpAny_release (z _ _ _ (T.trans T₃).nil (fm.go (T.trans T₃)))))))
 case Tuple=>exact .opt fun xs e1=>.opt fun m' e=>ou rm.hand at' fm iv e1 e
 all_goals exact .stuck
noncomputable def lI (h:Heap)(it l:Addr)(i:Nat):Option (Int×Int)→Prop
 | none=>h.IsListIter it l i
 | some r=>IsRangeIter h it (r.1+i) ((r.2 - r.1).toNat - i) 1
theorem lI.alive {h:Heap}{it l:Addr}{i:Nat}{rg:Option (Int×Int)}(x:lI h it l i rg):∃ o,h.get? it=some o:=by
 cases rg with
 | none=>obtain ⟨o,ho,_⟩:=x; exact ⟨o,ho⟩
 | some r=>exact ⟨_,x⟩
theorem lI.keep {h h':Heap}{it l:Addr}{i:Nat}{rg:Option (Int×Int)}(x:lI h it l i rg)(k:∀ o,h.get? it=some o→h'.get? it=some o):lI h' it l i rg:=by
 cases rg with
 | none=>exact Heap.IsListIter.at x k
 | some r=>exact k _ x
theorem bV {t:Expr}(h:dY t=true)(it v:Value):letOwnedTupleGo t it v=pure ():=by
 cases t<;>first | exact eqT h | rfl
structure oB (ih:Ev)(cx:Cx)(env:Env)(t:Expr)(body:List Stmt)(k:Nat)(rg:Option (Int×Int))(it l:Addr)(Q:Flow→Shared→Prop)(F₀:Fz)(ρ₀:Rho)(st₀:St)(s₀:Shared)(n i:Nat)(m:Loc)(st:St)(F:Fz)(ρ:Rho)(s:Shared):Prop where
 fm:Fm F ρ st.σ cx env m s.heap
 T:To [env.locals,it] F₀ ρ₀ st₀ s₀ F ρ st s
 hit:lI s.heap it l i rg
 out:it∉ae ρ st.σ∧F it=none
 ok:(uK K ih cx t body k rg n i m st).Ok (PS [env.locals] F₀ ρ₀ st₀ s₀ cx env Q)
variable {t:Expr}{body:List Stmt}{rg:Option (Int×Int)}{it l d:Addr}{Q:Flow→Shared→Prop}
noncomputable abbrev foE (A:Around)(env:Env)(E:Value→Shared→Prop):Value→Shared→Prop:=notedBy (model prog w) A env fun e s'=>cameBackBy (model prog w) A env E e s'
theorem oB.fin {F':Fz}{ρ':Rho}{st':St}{s':Shared}(nit:s₀.heap.get? it=none)(T:To [env.locals,it] F₀ ρ₀ st₀ s₀ F' ρ' st' s'):To [env.locals] F₀ ρ₀ st₀ s₀ F' ρ' st' s':=
 ⟨T.at',T.ext.drop fun a ha=>(aJ ha).elim (fun e=>.inl (e▸.head _)) fun e=>.inr (ak e▸nit),T.sh⟩
theorem nV (I:oB ih cx env t body k rg it l Q F₀ ρ₀ st₀ s₀ n i m st F ρ s)(nit:s₀.heap.get? it=none)(al:∃ o,s₀.heap.get? env.locals=some o):env.locals∉[it]:=fun e=>al.elim fun o ho=>nos (nit.symm.trans (ak e▸ho))
theorem uM (I:oB ih cx env t body k rg it l Q F₀ ρ₀ st₀ s₀ n i m st F ρ s)(nit:s₀.heap.get? it=none)(al:∃ o,s₀.heap.get? env.locals=some o)(ok:(Res.ok (.next,m,st):LR).Ok (PS [env.locals] F₀ ρ₀ st₀ s₀ cx env Q)){h':Heap}(hx:Heap.ExtBut it s.heap h'):Q .next { s with heap:=h' }:=by
 have kb:dm [it] s.heap h':=fun c o hc e=>hx c o (fun z=>hc (z▸.head _)) e
 have ne0:∀ {b o},s₀.heap.get? b=some o→b∉[it]:=fun e z=>nos (nit.symm.trans (ak z▸e))
 have a1:=I.T.at'.beside (tk:=s.toks) (fun c hc=>ak hc▸I.out.1) (fun c hc=>ak hc▸I.out.2) kb
 refine ok _ _ _ _ ⟨a1,⟨I.T.ext.pre,fun b o e nb nx=>kb b o (ne0 e) (I.T.ext.keep b o e nb fun z=>(aJ z).elim (fun z=>nx (z▸.head _)) (ne0 e)),I.T.ext.new,I.T.ext.fz,I.T.ext.fznew,fun b o e=>?_⟩,by rw [I.T.sh]⟩ (I.fm.beside kb (nV I nit al)) rfl
 obtain ⟨o',e'⟩:=I.T.ext.live b o e
 exact ⟨o',kb b o' (ne0 e) e'⟩
theorem Ar (S:aG ih)(ht:dY t=true)(rm:aj cx.d A){sv:SV}{v:Value}{h':Heap}{tk:Nat}(I:oB ih cx env t body k rg it l Q F₀ ρ₀ st₀ s₀ (n+1) i m st F ρ s)(nit:s₀.heap.get? it=none)(al:∃ o,s₀.heap.get? env.locals=some o)(ok:(GD K ih cx t body (uK K ih cx t body k rg n (i+1)) m st (some sv)).Ok (PS [env.locals] F₀ ρ₀ st₀ s₀ cx env Q))(sb:Heap.SameBut it s.heap h')(hit:lI h' it l (i+1) rg)(iv:sv.Is ρ v) :
  wpAny (model prog w) A (letOwnedTupleGo t (.ref it) v) (fun _ s₁'=>wpAny (model prog w) A (assign t env v) (fun _ s₂=>wpAny (model prog w) A (execs body env) (fun f s₃=>match f with
   | .next | .cont=>∃ j,j<n+1∧∃ i m st F ρ,oB ih cx env t body k rg it l Q F₀ ρ₀ st₀ s₀ j i m st F ρ s₃
   | .brk=>Q .next s₃
   | .ret v=>Q (.ret v) s₃) (foE A env E) s₂) (foE A env E) s₁') (foE A env E) { s with heap:=h',toks:=tk }:=by
 obtain ⟨y,ey⟩:=hit.alive
 have T₁:=I.T.at'.other (tk:=tk) I.out.1 I.out.2 sb ey
 have T₀₁:=I.T.trans (T₁.weaken (Y:=[env.locals,it]) fun a ha=>.tail _ ha)
 have fm₁:=I.fm.to T₁ (nV I nit al)
 have o1:=I.out
 have hit₁:lI ({ s with heap:=h',toks:=tk }:Shared).heap it l (i+1) rg:=hit
 have ey:({ s with heap:=h',toks:=tk }:Shared).heap.get? it=some y:=ey
 generalize ({ s with heap:=h',toks:=tk }:Shared)=s₁ at T₁ T₀₁ fm₁ hit₁ ey ⊢
 refine wpAny_of_eq (bV ht _ _) ((iJ S rm T₁.at' fm₁ iv).bind ok fun r h F₂ ρ₂ s₂ T₂ fm₂=>(S.ss rm T₂.at' fm₂).bind h fun q h F₃ ρ₃ s₃ f T₃ fm₃ hf=>?_)
 have T₂₃:=T₂.trans T₃
 have TT:=T₀₁.trans (T₂₃.weaken (Y:=[env.locals,it]) fun a ha=>ak ha▸.head _)
 have out:=T₂₃.outside ey o1
 have hit₃:=hit₁.keep fun o e=>T₂₃.ext.keep _ _ e o1.1 fun z=>nV I nit al (ak z▸.head _)
 obtain ⟨fl,m₃,st₃⟩:=q
 cases fl with
 | next=>cases hf; exact ⟨n,Nat.lt_succ_self _,i+1,m₃,st₃,F₃,ρ₃,fm₃,TT,hit₃,out,h⟩
 | cont=>cases hf; exact ⟨n,Nat.lt_succ_self _,i+1,m₃,st₃,F₃,ρ₃,fm₃,TT,hit₃,out,h⟩
 | brk=>cases hf; exact h _ _ _ _ (oB.fin nit TT) fm₃ rfl
 | ret sv=>obtain ⟨v,rfl,iv⟩:=hf; exact h _ _ _ _ (oB.fin nit TT) fm₃ ⟨v,rfl,iv⟩
theorem uL {R:Option Value→Shared→Prop}{r:Option SV}(rm:A.handled=none)(at':At F ρ st s)(hit:lI s.heap it l i rg)(hl:rg=none→ρ[k]?=some (l,d))(q:rO k rg i st.σ=some r)
  (h0:r=none→∀ h',Heap.ExtBut it s.heap h'→R none { s with heap:=h' }) (h1:∀ sv v h' tk,r=some sv→Heap.SameBut it s.heap h'→lI h' it l (i+1) rg→sv.Is ρ v→R (some v) { s with heap:=h',toks:=tk }):wpAny (model prog w) A (pyNext (.ref it)) R E s:=by
 cases rg with
 | some rg=>
  cases Option.some.inj q
  cases q2:Nat.blt i (rg.2 - rg.1).toNat with
  | true=>
   have q3:i<(rg.2 - rg.1).toNat:=cC q2
   refine wpAny_pyNext_range_item (x:=rg.1+i) (left:=(rg.2 - rg.1).toNat - i) (step:=1) hit (by omega) fun h' hit' sb=>h1 (.int (rg.1+i)) _ h' _ (by rw [q2]) sb ?_ ⟨_,rfl⟩
   have e1:rg.1+(i:Int)+1=rg.1+((i+1:Nat):Int):=by omega
   have e2:(((rg.2 - rg.1).toNat:Nat):Int) - (i:Int) - 1=((rg.2 - rg.1).toNat:Nat) - ((i+1:Nat):Int):=by omega
   rw [e1,e2] at hit'
   exact hit'
  | false=>
   have q3:¬ i<(rg.2 - rg.1).toNat:=fun z=>by rw [show Nat.blt i (rg.2 - rg.1).toNat=true from Nat.ble_eq_true_of_le z] at q2; cases q2
   exact wpAny_pyNext_range_end rm (x:=rg.1+i) (left:=(rg.2 - rg.1).toNat - i) (step:=1) hit (by omega) fun h' hx=>h0 (by rw [q2]) h' hx
 | none=>
  obtain ⟨xs,q2,rfl⟩:=dU q
  obtain ⟨p,hp,vs,c,ho,hv⟩:=at'.getH (gU q2)
  cases hp.symm.trans (hl rfl)
  cases q:xs[i]? with
  | none=>exact wpAny_pyNext_list_end rm hit (au ho) (i:=i) (by rw [←Array.getElem?_toList,List.getElem?_eq_none_iff,←hv.length]; exact List.getElem?_eq_none_iff.mp q) (h0 q)
  | some sv=>
   obtain ⟨v,hx,iv⟩:=hv.get q
   exact wpAny_pyNext_list_item hit (au ho) (by rw [←Array.getElem?_toList]; exact hx) fun h' hit' sb=>h1 sv v h' s.toks q sb hit' iv
theorem rX (S:aG ih)(ht:dY t=true)(rm:aj cx.d A)(nit:s₀.heap.get? it=none)(hl:rg=none→ρ₀[k]?=some (l,d))(al:∃ o,s₀.heap.get? env.locals=some o)
  (hI:oB ih cx env t body k rg it l Q F₀ ρ₀ st₀ s₀ n i m st F ρ s):codeAny (model prog w) A (.forLoop t (.ref it) body [] env) (fun r s'=>match r with | .ok f=>Q f s' | .error e=>cameBackBy (model prog w) A env E e s') s:=by
 refine codeAny_forLoop_any (fun n s=>∃ i m st F ρ,oB ih cx env t body k rg it l Q F₀ ρ₀ st₀ s₀ n i m st F ρ s) (fun n s hI=>?_) n ⟨i,m,st,F,ρ,hI⟩
 obtain ⟨i,m,st,F,ρ,I⟩:=hI
 cases n with
 | zero=>exact I.ok.elim
 | succ n=>
  refine dg (show (opt (rO k rg i st.σ) _).Ok _ from I.ok) fun r q ok=>?_
  refine uL (d:=d) rm.hand I.T.at' I.hit (fun e=>?_) q (fun e h' hx=>?_) fun sv v h' tk e sb hit iv=>?_
  ·obtain ⟨τ,e'⟩:=I.T.ext.pre
   rw [e']; exact bx (hl e)
  ·subst e; exact wpAny_execs_nil (uM I nit al ok hx)
  ·subst e; exact Ar S ht rm I nit al ok sb hit iv
theorem eu {M:Model}{t value:Expr}{pos:Pos}{Q:Flow→Shared→Prop}
  (h:wpAny M A (eval value env) (fun v s₁=>wpAny M A (assign t env v) (fun _=>Q .next) E s₁) E s)
  (hs:swapsWith value (some t) pos.line env=pure false) (hw:swappedStores [t] value env=pure none) (hst:∀ x p,t≠.Starred x p) :
  wpAny M A (exec (.Assign [t] value pos) env) Q E s:=by
 rw [arm_exec_Assign]
 refine wpAny_bind (wpAny_standAt ?_)
 rw [show swapsWithSole [t] value pos.line env=swapsWith value (some t) pos.line env from rfl,hs]
 refine wpAny_bind (wpAny_pure ?_)
 rw [if_neg (by decide)]
 refine wpAny_bind (wpAny_mono h (fun v s₁ h₁=>?_) fun _ _ x=>x)
 rw [hw]
 refine wpAny_bind (wpAny_pure ?_)
 have e:(assignEach [t] env).map (·.2)=[assign t env]:=by
  cases t<;>first | rfl | exact absurd rfl (hst _ _)
 rw [e]
 show wpAny M A (do assignAll v [assign t env]; pure .next) Q E s₁
 exact wpAny_bind (wpAny_mono h₁ (fun _ _ x=>wpAny_pure x) fun _ _ x=>x)
theorem uq {value:Expr}(h:fW value=true):swapsWith value=fun _ _ _=>pure false:=by
 cases value<;>first | rfl | exact eqT h
theorem dh {value:Expr}(h:fW value=true)(t:Option Expr)(l:Nat):swapsWith value t l env=pure false:=by rw [uq h]
theorem cK {t value:Expr}(h:iW t=true):swappedStores [t] value env=pure none:=by
 cases t<;>first | exact eqT h | rfl | skip
 rename_i ts k p
 have hl:¬ ts.length=2∧¬ ts.length=3:=cN (show (!(Nat.beq ts.length 2)&&!(Nat.beq ts.length 3))=true from h) fun a b=>⟨Nat.ne_of_beq_eq_false (js a),Nat.ne_of_beq_eq_false (js b)⟩
 cases value<;>first | rfl | skip
 unfold swappedStores
 simp [hl.1,hl.2]
theorem dJ {t:Expr}(h:iW t=true) (x p):t≠.Starred x p:=fun e=>by subst e; exact eqT h
noncomputable def Cv (G:Prop)(Q:Flow→Shared→Prop)(s:Shared):Flow→Prop
 | .next=>G
 | fl=>Q fl s
theorem jR {f:Loc→St→LR}{q:Fl×Loc×St}{F':Fz}{ρ':Rho}{s':Shared}{fl:Flow}{G:Prop}(h:(wE f q).Ok (PS [env.locals] F ρ st s cx env Q))(T:To [env.locals] F ρ st s F' ρ' q.2.2 s')(fm:Fm F' ρ' q.2.2.σ cx env q.2.1 s'.heap)(hf:q.1.Is ρ' fl)
  (h1:(f q.2.1 q.2.2).Ok (PS [env.locals] F ρ st s cx env Q)→G):Cv G Q s' fl:=by
 obtain ⟨qf,qm,qs⟩:=q
 cases qf with
 | next=>cases hf; exact h1 h
 | cont=>cases hf; exact h _ _ _ _ T fm rfl
 | brk=>cases hf; exact h _ _ _ _ T fm rfl
 | ret sv=>obtain ⟨v,rfl,iv⟩:=hf; exact h _ _ _ _ T fm ⟨v,rfl,iv⟩
theorem m5 (S:aG ih){sts:List Stmt}(rm:aj cx.d A)(at':At F ρ st s)(fm:Fm F ρ st.σ cx env m s.heap):Sp A s (PS [env.locals] F ρ st s cx env) (execs sts env) (vF ih cx m sts st):=by
 cases sts with
 | nil=>exact fun Q E h=>wpAny_execs_nil (h _ _ _ _ (To.refl at') fm rfl)
 | cons x r=>exact fun Q E h=>wpAny_execs_cons ((S.s rm at' fm).bind h fun q h F₁ ρ₁ s₁ f T₁ fm₁ hf=>jR h T₁ fm₁ hf fun h=>S.ss rm T₁.at' fm₁ (h.fromS T₁))
theorem Fm.keep0 {F':Fz}{ρ':Rho}{st':St}{s':Shared}(fm:Fm F ρ st.σ cx env m s.heap)(T:To [] F ρ st s F' ρ' st' s'):Fm F' ρ' st'.σ cx env m s'.heap:=fm.go T
theorem Eb {o:Option SO}{q:Int×Int}(h:asR o=some q):o=some (.rng q.1 q.2):=by
 cases o with
 | none=>exact nos h
 | some o=>cases o<;>first | exact nos h | exact congrArg (fun x:Int×Int=>some (SO.rng x.1 x.2)) (Option.some.inj h)
theorem mJ (S:aG ih){t:Expr}{b:List Stmt}{k:Nat}{l d:Addr}{rg:Option (Int×Int)}{o:Obj}{Q:Flow→Shared→Prop}(ht:dY t=true)(rm:aj cx.d A)(at':At F ρ st s)(fm:Fm F ρ st.σ cx env m s.heap)(hl:rg=none→ρ[k]?=some (l,d))(hit:lI (s.heap.push o) s.heap.objs.size l 0 rg)(h:(uK K ih cx t b k rg 200 0 m st).Ok (PS [env.locals] F ρ st s cx env Q)) :
  codeAny (model prog w) A (.forLoop t (.ref s.heap.objs.size) b [] env) (fun r s'=>match r with | .ok f=>Q f s' | .error e=>cameBackBy (model prog w) A env E e s') { s with heap:=s.heap.push o }:=by
 have al:∃ o,s.heap.get? env.locals=some o:=by
  obtain ⟨m',⟨o,_,_,ho,_⟩,_⟩:=fm.ns; exact ⟨o,ho⟩
 have nw:=aT s.heap
 exact rX S ht rm nw hl al ⟨fm.go (To.grow at' (bN (o:=o))),To.grow (tk:=s.toks) at' (bN (o:=o)),hit,at'.new nw,h⟩
theorem sm1 {x:Int}(h:x.natAbs<1000000):-2 ^ 62≤x∧x<2 ^ 62:=by omega
theorem rW (S:aG ih){t it:Expr}{b:List Stmt}{pos:Pos}(rm:aj cx.d A)(at':At F ρ st s)(fm:Fm F ρ st.σ cx env m s.heap):Sp A s (PS [env.locals] F ρ st s cx env) (exec (.For t it b [] pos) env) (GF K ih cx m t it b st):=
 .chk fun q1=>.chk fun q2 Q E h=>wpAny_For ((S.e rm at' fm).bind h fun a h F₁ ρ₁ s₁ v₁ T₁ i₁=>dg h fun k e h=>by
  have h:=h.fromS T₁.nil
  cases e2:asL (getH k a.2.σ) with
  | some xs=>
   rw [e2] at h
   obtain ⟨p,hp,vs,c,ho,hv⟩:=T₁.at'.getH (gU e2)
   rw [dL e] at i₁
   cases T₁.at'.ref i₁ hp
   exact wpAny_pyIter_list (au ho) (mJ S (rg:=none) q1 rm T₁.at' (fm.go T₁) (fun _=>hp) ⟨_,Heap.get?_push_size _ rfl,rfl,rfl⟩ h)
  | none=>
   rw [e2] at h
   refine dg h fun r e3 h=>gi h fun q4 h=>cN q4 fun q4 q5=>?_
   have q4:r.1.natAbs<1000000:=cC q4
   have q5:r.2.natAbs<1000000:=cC q5
   obtain ⟨p,hp,t1,t2,t3,ho⟩:=T₁.at'.getH (Eb e3)
   rw [dL e] at i₁
   cases T₁.at'.ref i₁ hp
   refine wpAny_pyIter_range ho (small_one (sm1 q4).1 (sm1 q4).2 (sm1 q5).1 (sm1 q5).2) (mJ S (rg:=some r) (l:=0) (d:=0) q1 rm T₁.at' (fm.go T₁) (fun z=>nos z.symm) ?_ h)
   show IsRangeIter _ _ (r.1+((0:Nat):Int)) ((((r.2 - r.1).toNat:Nat):Int) - ((0:Nat):Int)) 1
   rw [show r.1+((0:Nat):Int)=r.1 from Int.add_zero _,show (((r.2 - r.1).toNat:Nat):Int) - ((0:Nat):Int)=Builtin.Range.rangeSize r.1 r.2 1 by rw [rangeSize_one]; split; (· exact (Int.sub_zero _).trans (Int.toNat_of_nonneg (Int.sub_nonneg_of_le (Int.le_of_lt (by assumption))))); omega]
   exact Heap.get?_push_size _ rfl) (by
  intro x
  cases it<;>first | rfl | exact eqT q2)
theorem uH (S:aG ih){b o:List Stmt}{c:Bool×St}{Q:Flow→Shared→Prop}(rm:aj cx.d A)(at':At F ρ c.2 s)(fm:Fm F ρ c.2.σ cx env m s.heap)(h:(ifS ih cx m b o c).Ok (PS [env.locals] F ρ c.2 s cx env Q)):if c.1 then wpAny (model prog w) A (execs b env) Q E s else wpAny (model prog w) A (execs o env) Q E s:=by
 obtain ⟨c,st⟩:=c
 cases c with
 | true=>exact S.ss rm at' fm h
 | false=>exact S.ss rm at' fm h
theorem oO (S:aG ih){stm:Stmt}(rm:aj cx.d A)(at':At F ρ st s)(fm:Fm F ρ st.σ cx env m s.heap):Sp A s (PS [env.locals] F ρ st s cx env) (exec stm env) (Bc K ih cx m stm st):=by
 cases stm
 case Expr=>exact .chk fun q Q E h=>wpAny_Expr_any ((S.e rm at' fm).bind h fun r z F₁ ρ₁ s₁ v₁ T₁ i₁=>z _ _ _ _ T₁.nil (fm.go T₁) rfl) (by unfold interactive; rw [cL fm.eok]; rfl) (dh q _ _)
 case Assign=>
  refine .opt fun t e=>.chk fun q1=>.chk fun q2 Q E h=>?_
  rw [dT e]
  exact eu ((S.e rm at' fm).bind h fun a h F₁ ρ₁ s₁ v₁ T₁ i₁=>(iJ S rm T₁.at' (fm.go T₁) i₁).bind h fun r z F₂ ρ₂ s₂ T₂ fm₂=>z _ _ _ _ (T₁.nil.trans T₂) fm₂ rfl) (dh q1 _ _) (cK q2) (dJ q2)
 case If=>exact fun Q E h=>wpAny_If ((S.t rm at' fm).bind h fun c h F₁ ρ₁ s₁ T₁=>uH S rm T₁.at' (fm.go T₁) (h.fromS T₁.nil))
 case Return e _=>
  cases e with
  | none=>exact fun Q E h=>wpAny_Return_none (h _ _ _ _ (To.refl at') fm ⟨_,rfl,rfl⟩)
  | some e=>exact fun Q E h=>wpAny_Return_some ((S.e rm at' fm).bind (f:=fun r:SV×St=>(.ok (.ret r.1,m,r.2):LR)) (P:=PS [env.locals] F ρ st s cx env Q) h fun r z F₁ ρ₁ s₁ v₁ T₁ i₁=>z _ _ _ _ T₁.nil (fm.go T₁) ⟨_,rfl,i₁⟩)
 case Break=>exact fun Q E h=>wpAny_Break (h _ _ _ _ (To.refl at') fm rfl)
 case Continue=>exact fun Q E h=>wpAny_Continue (h _ _ _ _ (To.refl at') fm rfl)
 case Pass=>exact fun Q E h=>wpAny_Pass (h _ _ _ _ (To.refl at') fm rfl)
 case For=>exact .chk fun q=>by cases List.isEmpty_iff.mp q; exact rW S rm at' fm
 case Try _ hs _ _ _=>
  refine .chk fun q1=>.chk fun q2 Q E h=>?_
  cases List.isEmpty_iff.mp q2
  cases hs with
  | nil=>exact eqT q1
  | cons hd hs=>exact wpAny_Try_except ((S.ss rm at' fm).bind h fun q h F₁ ρ₁ s₁ f T₁ fm₁ hf=>jR h T₁ fm₁ hf fun h=>S.ss rm T₁.at' fm₁ (h.fromS T₁))
 all_goals exact .stuck
end
noncomputable def JF:Ev:=⟨fun _ _ _ _=>.stuck 0,fun _ _ _ _=>.stuck 0,fun _ _ _ _=>.stuck 0,fun _ _ _ _ _=>.stuck 0,fun _ _ _ _=>.stuck 0,fun _ _ _ _=>.stuck 0,fun _ _ _ _=>.stuck 0,fun _ _ _ _=>.stuck 0⟩
noncomputable def ev (K:Frag)(X:Orc):Nat→Ev
 | 0=>JF
 | n+1=>⟨Bd K (ev K X n),vG (ev K X n),Bb (ev K X n),vE (ev K X n),Bc K (ev K X n),vF (ev K X n),Be K X (ev K X n),sR K (ev K X n)⟩
theorem bW {X:Orc}(XS:iL X)(n:Nat):aG (ev K X n):=by
 induction n with
 | zero=>exact ⟨fun _ _ _=>.stuck,fun _ _ _=>.stuck,fun _ _ _=>.stuck,fun _ _ _=>.stuck,fun _ _ _=>.stuck,fun _ _ _=>.stuck,fun _ _ _ _=>.stuck,fun _ _ _ _ _ h=>h.elim⟩
 | succ n ih=>exact ⟨oP ih,m6 ih,oN ih,m4 ih,oO ih,m5 ih,oQ XS ih,jN ih⟩
end
section
noncomputable def trim (n:Nat):Hp→Hp
 | []=>[]
 | e::r=>match Nat.blt e.1 n with
  | true=>e::trim n r
  | false=>trim n r
noncomputable def jO (n:Nat):SV→Bool
 | .ref k=>Nat.blt k n
 | _=>true
noncomputable abbrev nk (n:Nat)(o:SO):Bool:=A5 (jO n) o
noncomputable def gt (n:Nat)(σ:Hp):Bool:=σ.all fun e=>nk n e.2
theorem eJ {n:Nat}{e:Nat×SO}{σ:Hp}(h:e∈trim n σ):e∈σ∧e.1<n:=by
 induction σ with
 | nil=>exact nomatch h
 | cons x r ih=>
  unfold trim at h
  have go:=fun h=>And.imp_left (List.mem_cons_of_mem x) (ih h)
  cases q:Nat.blt x.1 n with
  | true=>rw [q] at h; exact (aJ h).elim (fun e=>by subst e; exact ⟨.head _,cC q⟩) go
  | false=>rw [q] at h; exact go h
theorem SV.Is.cut {ρ τ:Rho}{sv:SV}{v:Value}(h:sv.Is (ρ++τ) v)(l:jO ρ.length sv=true):sv.Is ρ v:=by
 cases sv<;>try exact h
 rename_i k
 have l:k<ρ.length:=cC l
 obtain ⟨p,hp,e⟩:=h
 rw [List.getElem?_append_left l] at hp
 exact ⟨p,hp,e⟩
section
theorem OkO.cut {h:Heap}{p:Addr×Addr}{o:SO}(O:OkO (ρ++τ) h p o)(l:nk ρ.length o=true):OkO ρ h p o:=O.imp (fun _ _ a i=>i.cut a) (.inr l)
theorem i8 (hs:List.Sublist σ' σ)(hr:∀ e∈σ',ρ'[e.1]?=ρ[e.1]?):List.Sublist (ae ρ' σ') (ae ρ σ):=by
 induction hs with
 | slnil=>exact List.Sublist.slnil
 | cons a _ ih=>
  exact (ih hr).trans (List.sublist_append_right _ _)
 | @cons_cons l₁ l₂ a _ ih=>
  unfold ae
  rw [hr a (.head _)]
  exact List.Sublist.append (List.Sublist.refl _) (ih fun e he=>hr e (.tail _ he))
theorem iQ {n:Nat}{σ:Hp}:List.Sublist (trim n σ) σ:=by
 induction σ with
 | nil=>exact .slnil
 | cons e r ih=>
  unfold trim
  cases Nat.blt e.1 n with
  | true=>exact ih.cons_cons e
  | false=>exact ih.cons e
theorem At.trim (at':At F (ρ++τ) st s){n:Nat}(hn:ρ.length=n)(l:gt n (Mine.trim n st.σ)=true):At F ρ ⟨Mine.trim n st.σ,n⟩ s:=by
 subst hn
 have hl:∀ e∈Mine.trim ρ.length st.σ,nk ρ.length e.2=true:=fun e he=>dQ l e he
 have hr:∀ e∈Mine.trim ρ.length st.σ,ρ[e.1]?=(ρ++τ)[e.1]?:=fun e he=>by rw [List.getElem?_append_left (eJ he).2]
 have fs:List.Sublist (ae ρ (Mine.trim ρ.length st.σ)) (ae (ρ++τ) st.σ):=i8 iQ hr
 refine ⟨⟨at'.rep.le,at'.rep.wd,fun e he=>?_,fun e he o eo p hp h' hh=>?_,at'.rep.nodup.sublist fs,fun a ha=>at'.rep.free a (fs.subset ha)⟩,rfl⟩
 ·obtain ⟨p,hp,O⟩:=at'.rep.ok e (eJ he).1
  exact ⟨p,by rw [hr e he]; exact hp,O.cut (hl e he)⟩
 ·have:=at'.rep.ro e (eJ he).1 o eo p (by rw [←hr e he]; exact hp) h' hh
  have l':=hl e he
  rw [eo] at l'
  exact this.cut l'
theorem To.trim {ρ₀:Rho}{st₀:St}{s₀:Shared}{F₀:Fz}(t:To X F₀ ρ₀ st₀ s₀ F (ρ++τ) st s){n:Nat}(hn:ρ.length=n)(l:gt n (Mine.trim n st.σ)=true)(hp:∃ τ₀,ρ=ρ₀++τ₀):To X F₀ ρ₀ st₀ s₀ F ρ ⟨Mine.trim n st.σ,n⟩ s:=by
 have at':=t.at'.trim hn l
 subst hn
 have hr:∀ e∈Mine.trim ρ.length st.σ,ρ[e.1]?=(ρ++τ)[e.1]?:=fun e he=>by rw [List.getElem?_append_left (eJ he).2]
 have fs:List.Sublist (ae ρ (Mine.trim ρ.length st.σ)) (ae (ρ++τ) st.σ):=i8 iQ hr
 exact ⟨at',⟨hp,t.ext.keep,fun a ha=>t.ext.new a (fs.subset ha),t.ext.fz,t.ext.fznew,t.ext.live⟩,t.sh⟩
theorem At.ros (at':At F ρ st s)(τ:Rho){σr:Hp}{n:Nat}(hn:ρ.length+τ.length=n)(h:∀ e∈σr,∃ o,e.2=.ro o∧∃ p,(ρ++τ)[e.1]?=some p∧∀ h',F.le h'→OkO (ρ++τ) h' p o) :
  To X F ρ st s F (ρ++τ) ⟨st.σ++σr,n⟩ s:=by
 have R:=at'.rep.pad τ
 have hf:ae (ρ++τ) (st.σ++σr)=ae ρ st.σ:=by
  have h1:∀ (a b:Hp),ae (ρ++τ) (a++b)=ae (ρ++τ) a++ae (ρ++τ) b:=by
   intro a b
   induction a with
   | nil=>rfl
   | cons x r ih=>show _++ae (ρ++τ) (r++b)=_; rw [ih]; exact (List.append_assoc ..).symm
  have h2:∀ (b:Hp),(∀ e∈b,∃ o,e.2=.ro o)→ae (ρ++τ) b=[]:=by
   intro b hb
   induction b with
   | nil=>rfl
   | cons x r ih=>
    obtain ⟨o,eo⟩:=hb x (.head _)
    unfold ae
    rw [eo,ih fun e he=>hb e (.tail _ he)]
    cases (ρ++τ)[x.1]?<;>rfl
  rw [h1,h2 _ fun e he=>let ⟨o,eo,_⟩:=h e he; ⟨o,eo⟩,List.append_nil,bU at'.rep.names]
 refine ⟨⟨⟨R.le,R.wd,fun e he=>?_,fun e he o eo p hp h' hh=>?_,by rw [hf]; exact at'.rep.nodup,by rw [hf]; exact at'.rep.free⟩,by rw [List.length_append]; exact hn⟩,
  ⟨⟨τ,rfl⟩,fun _ _ e _ _=>e,fun a ha=>.inl (by rw [hf] at ha; exact ha),fun _ _ e=>e,fun _ _ e=>.inl e,fun _ o e=>⟨o,e⟩⟩,rfl⟩
 ·rcases fD he with he | he
  ·exact R.ok e he
  ·obtain ⟨o,eo,p,hp,O⟩:=h e he
   refine ⟨p,hp,?_⟩
   rw [eo]
   exact O _ R.le
 ·rcases fD he with he | he
  ·exact R.ro e he o eo p hp h' hh
  ·obtain ⟨o',eo',p',hp',O⟩:=h e he
   rw [eo] at eo'; cases eo'
   rw [hp] at hp'; cases hp'
   exact O h' hh
theorem At.sub (at':At F ρ st s){ρ₁:Rho}{σ₁:Hp}{n:Nat}(hn:ρ₁.length=n)(ok:∀ e∈σ₁,∃ p,ρ₁[e.1]?=some p∧OkO ρ₁ s.heap p e.2)(ro:∀ e∈σ₁,∀ o,e.2=.ro o→∀ p,ρ₁[e.1]?=some p→∀ h',F.le h'→OkO ρ₁ h' p o)
  (nd:(ae ρ₁ σ₁).Nodup) (sub:∀ a∈ae ρ₁ σ₁,a∈ae ρ st.σ):At F ρ₁ ⟨σ₁,n⟩ s:=
 ⟨⟨at'.rep.le,at'.rep.wd,ok,ro,nd,fun a ha=>at'.rep.free a (sub a ha)⟩,hn⟩
theorem At.back (at':At F ρ st s){ρ₁ ρ₁':Rho}{st₁ st₁':St}(sub:∀ a∈ae ρ₁ st₁.σ,a∈ae ρ st.σ)(hX:∀ a∈X,a∉ae ρ st.σ∧F a=none)
  (t:To X F ρ₁ st₁ s F' ρ₁' st₁' s') {σ':Hp} {τ:Rho} {n:Nat} (hn:ρ.length+τ.length=n) (hf:ae (ρ++τ) σ'=ae ρ st.σ)
  (ok:∀ e∈σ',(e∈st.σ∧∀ p,ρ[e.1]?=some p→∀ a∈aN p e.2,a∉ae ρ₁ st₁.σ)∨∃ p,(ρ++τ)[e.1]?=some p∧OkO (ρ++τ) s'.heap p e.2∧∀ o,e.2=.ro o→∀ h',F'.le h'→OkO (ρ++τ) h' p o) :
  To X F ρ st s F' (ρ++τ) ⟨σ',n⟩ s':=by
 have lt:∀ {a},a∈ae ρ st.σ→∃ x,s.heap.get? a=some x:=fun h=>at'.rep.lt h
 have fle:∀ {h'},F'.le h'→F.le h':=fun hh a o e=>hh a o (t.ext.fz a o e)
 have R:=at'.rep.pad τ
 refine ⟨⟨⟨t.at'.rep.le,t.at'.rep.wd,fun e he=>?_,fun e he o eo p hp h' hh=>?_,by rw [hf]; exact at'.rep.nodup,fun a ha=>?_⟩,by rw [List.length_append]; exact hn⟩,
  ⟨⟨τ,rfl⟩,fun b o e nb nx=>t.ext.keep b o e (fun z=>nb (sub b z)) nx,fun a ha=>.inl (by rw [hf] at ha; exact ha),t.ext.fz,t.ext.fznew,t.ext.live⟩,t.sh⟩
 ·rcases ok e he with ⟨he',hd⟩ | ⟨p,hp,O,_⟩
  ·obtain ⟨p,hp,O⟩:=R.ok e he'
   obtain ⟨p',hp'⟩:=at'.rep.names e he'
   have:p'=p:=by have:=bx (τ:=τ) hp'; rw [hp] at this; cases this; rfl
   subst this
   refine ⟨p',hp,?_⟩
   obtain ⟨ke,oe⟩:=e
   by_cases hro:∃ o,oe=.ro o
   ·obtain ⟨o,rfl⟩:=hro
    exact R.ro _ he' o rfl p' hp s'.heap (fle t.at'.rep.le)
   ·refine O.keep fun c x hc e'=>?_
    have hc':c∈aN p' oe:=by cases oe<;>first | exact hc | exact absurd ⟨_,rfl⟩ hro
    exact t.ext.keep c x e' (hd p' hp' c hc') fun z=>(hX c z).1 (aw.mpr ⟨_,he',p',hp',hc'⟩)
  ·exact ⟨p,hp,O⟩
 ·rcases ok e he with ⟨he',_⟩ | ⟨p',hp',O,H⟩
  ·exact R.ro e he' o eo p hp h' (fle hh)
  ·rw [hp] at hp'; cases hp'
   exact H o eo h' hh
 ·rw [hf] at ha
  have:=at'.rep.free a ha
  cases q:F' a with
  | none=>rfl
  | some o=>
   rcases t.ext.fznew a o q with z | z
   ·rw [this] at z; cases z
   ·obtain ⟨x,hx⟩:=lt ha; rw [z] at hx; cases hx
noncomputable def roO (o:SO):SO:=match o with
 | .ro o=>.ro o
 | o=>.ro o
theorem B7 (o:SO):(∃ y,o=.ro y∧roO o=.ro y)∨(roO o=.ro o∧∀ x,o≠.ro x):=by
 cases o<;>first | exact .inl ⟨_,rfl,rfl⟩ | exact .inr ⟨rfl,fun _=>SO.noConfusion⟩
noncomputable def aW (ids:List Nat):Hp→Hp
 | []=>[]
 | e::r=>(e.1,bif ids.any (Nat.beq e.1) then roO e.2 else e.2)::aW ids r
noncomputable def J9 (F:Fz)(h:Heap)(L:List Addr):Fz:=fun a=>if a∈L then h.get? a else F a
theorem gO {ids:List Nat}{e:Nat×SO}{σ:Hp}(h:e∈aW ids σ):e∈σ∨∃ o,(e.1,o)∈σ∧e.2=.ro o∧ids.any (Nat.beq e.1)=true∧∀ x,o≠.ro x:=by
 induction σ with
 | nil=>exact .inl h
 | cons x r ih=>
  rcases aJ h with z | z
  ·cases q:ids.any (Nat.beq x.1) with
   | false=>rw [q] at z; exact .inl (z▸.head _)
   | true=>
    rw [q] at z
    rcases B7 x.2 with ⟨y,y1,y2⟩ | ⟨y2,y3⟩
    ·exact .inl (z.trans (congrArg (Prod.mk x.1) (y2.trans y1.symm))▸.head _)
    ·exact .inr ⟨x.2,z▸.head _,z▸y2,z▸q,y3⟩
  ·exact (ih z).imp (.tail _) fun h=>h.imp fun o h=>⟨.tail _ h.1,h.2⟩
theorem sZ {p:Addr×Addr}(o:SO):aN p (roO o)=[]:=by cases o<;>rfl
theorem eF {ids:List Nat}{σ:Hp}:List.Sublist (ae ρ (aW ids σ)) (ae ρ σ):=by
 induction σ with
 | nil=>exact .slnil
 | cons x r ih=>
  refine List.Sublist.append ?_ ih
  show List.Sublist (match ρ[x.1]? with | some p=>aN p (bif ids.any (Nat.beq x.1) then roO x.2 else x.2) | none=>[]) _
  cases ids.any (Nat.beq x.1) with
  | false=>exact .refl _
  | true=>
   cases ρ[x.1]? with
   | none=>exact .refl _
   | some p=>exact (sZ x.2).symm▸List.nil_sublist _
theorem cV {σ:Hp}(nd:(ae ρ σ).Nodup){e e':Nat×SO}(he:e∈σ)(he':e'∈σ){q q':Addr×Addr}(hq:ρ[e.1]?=some q)(hq':ρ[e'.1]?=some q'){a:Addr}(ha:a∈aN q e.2)(ha':a∈aN q' e'.2):e=e':=by
 induction σ with
 | nil=>exact nomatch he
 | cons x r ih=>
  unfold ae at nd
  obtain ⟨n1,n2,n3⟩:=List.nodup_append.mp nd
  rcases aJ he with h1 | h1
  ·rcases aJ he' with h2 | h2
   ·exact h1.trans h2.symm
   ·rw [←h1,hq] at n3
    exact absurd rfl (n3 a ha a (aw.mpr ⟨_,h2,q',hq',ha'⟩))
  ·rcases aJ he' with h2 | h2
   ·rw [←h2,hq'] at n3
    exact absurd rfl (n3 a ha' a (aw.mpr ⟨_,h1,q,hq,ha⟩))
   ·exact ih n2 h1 h2
noncomputable def im:SO→Nat
 | .inst ..=>2
 | .ro _=>0
 | _=>1
noncomputable def GG (p:Addr×Addr):Nat→List Addr
 | 0=>[]
 | 1=>[p.1]
 | _=>[p.1,p.2]
theorem mM (o:SO)(p:Addr×Addr):aN p o=GG p (im o):=by cases o<;>rfl
theorem lj {o o':SO}(h:im o=im o')(p:Addr×Addr):aN p o=aN p o':=by rw [mM,mM,h]
noncomputable def be (ids:List Nat)(σ₀ σ:Hp):Bool:=σ₀.all fun e=>Nat.beq (im e.2) 0||(!ids.any (Nat.beq e.1)&&match aM e.1 σ with
 | some o=>Nat.beq (im o) (im e.2)
 | none=>false)
theorem i9 {ids:List Nat}{a:Addr}{σ:Hp}(nd:(ae ρ σ).Nodup)(h:a∈ae ρ (aW ids σ)) (e)(he:e∈σ)(q:ids.any (Nat.beq e.1)=true) (p)(hp:ρ[e.1]?=some p)(hap:a∈aN p e.2):False:=by
 obtain ⟨x,hx,p',hp',ha⟩:=aw.mp h
 rcases gO hx with z | ⟨o,_,z2,_⟩
 ·have e':=cV nd z he hp' hp ha hap
  subst e'
  obtain ⟨k,o⟩:=x
  have:∀ {σ:Hp},(k,o)∈aW ids σ→∃ y,o=roO y:=by
   intro σ
   induction σ with
   | nil=>exact fun h=>nomatch h
   | cons x r ih=>
    intro h
    rcases aJ h with z | z
    ·have z1:=congrArg Prod.fst z
     have z2:=congrArg Prod.snd z
     dsimp only at z1 z2 q
     rw [←z1,q] at z2
     exact ⟨_,z2⟩
    ·exact ih z
  obtain ⟨y,rfl⟩:=this hx
  exact List.not_mem_nil (sZ (p:=p') y▸ha)
 ·rw [z2] at ha; exact List.not_mem_nil ha
theorem To.freeze {ρ₀:Rho}{st₀:St}{s₀:Shared}{F₀:Fz}(t:To X F₀ ρ₀ st₀ s₀ F ρ st s)(a₀:At F₀ ρ₀ st₀ s₀)(ids:List Nat)(hk:be ids st₀.σ st.σ=true) :
  ∃ F',(∀ a o,F a=some o→F' a=some o)∧To X F₀ ρ₀ st₀ s₀ F' ρ ⟨aW ids st.σ,st.nx⟩ s:=by
 let L:Addr→Prop:=fun a=>∃ e∈st.σ,ids.any (Nat.beq e.1)=true∧∃ p,ρ[e.1]?=some p∧a∈aN p e.2
 have hLf:∀ {a},L a→a∈ae ρ st.σ:=fun ⟨e,he,_,p,hp,ha⟩=>aw.mpr ⟨e,he,p,hp,ha⟩
 classical
 let F':Fz:=fun a=>if L a then s.heap.get? a else F a
 have at':=t.at'
 have hFF:∀ a o,F a=some o→F' a=some o:=fun a o e=>by
  show (if L a then s.heap.get? a else F a)=some o
  split
  ·exact at'.rep.le a o e
  ·exact e
 have fle:∀ {h'},F'.le h'→F.le h':=fun hh a o e=>hh a o (hFF a o e)
 have sub:=eF (ρ:=ρ) (ids:=ids) (σ:=st.σ)
 have nL:∀ a∈ae ρ (aW ids st.σ),¬ L a:=fun a ha h=>h.elim fun e h=>h.2.2.elim fun p z=>i9 at'.rep.nodup ha e h.1 h.2.1 p z.1 z.2
 refine ⟨F',hFF,⟨⟨?_,fun h' hh=>at'.rep.wd h' (fle hh),fun e he=>?_,fun e he o eo p hp h' hh=>?_,at'.rep.nodup.sublist sub,fun a ha=>?_⟩,at'.len⟩,⟨t.ext.pre,t.ext.keep,fun a ha=>t.ext.new a (sub.subset ha),fun a o e=>hFF a o (t.ext.fz a o e),fun a o e=>?_,t.ext.live⟩,t.sh⟩
 ·intro a o e
  have e:(if L a then s.heap.get? a else F a)=some o:=e
  split at e
  ·exact e
  ·exact at'.rep.le a o e
 ·rcases gO he with z | ⟨o,z1,z2,_⟩
  ·exact at'.rep.ok e z
  ·obtain ⟨p,hp,O⟩:=at'.rep.ok _ z1
   exact ⟨p,hp,by rw [z2]; exact O⟩
 ·rcases gO he with z | ⟨o',z1,z2,z3,z4⟩
  ·exact at'.rep.ro e z o eo p hp h' (fle hh)
  ·rw [eo] at z2; cases z2
   obtain ⟨p',hp',O⟩:=at'.rep.ok _ z1
   rw [hp] at hp'; cases hp'
   refine O.keep fun b x hb e'=>hh b x ?_
   show (if L b then s.heap.get? b else F b)=some x
   have:L b:=⟨_,z1,z3,p,hp,by cases o<;>first | exact hb | exact absurd rfl (z4 _)⟩
   rw [if_pos this]; exact e'
 ·show (if L a then s.heap.get? a else F a)=none
  rw [if_neg (nL a ha)]
  exact at'.rep.free a (sub.subset ha)
 ·have e:(if L a then s.heap.get? a else F a)=some o:=e
  split at e
  ·rename_i hL
   right
   rcases t.ext.new a (hLf hL) with z | z
   ·exfalso
    obtain ⟨e₀,he₀,p₀,hp₀,ha₀⟩:=aw.mp z
    have:=dQ hk e₀ he₀
    rcases Bool.or_eq_true_iff.mp this with k | k
    ·have k:=iY k
     have:aN p₀ e₀.2=[]:=by
      obtain ⟨k0,o0⟩:=e₀
      cases o0<;>first | rfl | exact absurd k (Nat.succ_ne_zero _)
     rw [this] at ha₀; cases ha₀
    ·obtain ⟨k1,k2⟩:=dw k
     split at k2
     ·rename_i o' ho'
      have k2:=iY k2
      obtain ⟨τ,eτ⟩:=t.ext.pre
      have hp':ρ[e₀.1]?=some p₀:=by rw [eτ]; exact bx hp₀
      have ha':a∈aN p₀ o':=by rw [lj k2]; exact ha₀
      obtain ⟨e,he,q,p,hp,hap⟩:=hL
      have hm:=aL ho'
      have z':=cV at'.rep.nodup hm he hp' hp ha' hap
      rw [←z'] at q
      rw [q] at k1; cases k1
     ·cases k2
   ·exact z
  ·exact t.ext.fznew a o e
theorem DD {α:Type}{l:List α}{n:Nat}(h:l.length=n+1):∃ a t,l=a::t∧t.length=n:=by
 cases l with
 | nil=>exact absurd h (Nat.succ_ne_zero n).symm
 | cons a t=>exact ⟨a,t,rfl,Nat.succ.inj h⟩
theorem rJ {α:Type}{l:List α}(h:l.length=1):∃ a,l=[a]:=by
 obtain ⟨a,t,rfl,z⟩:=DD h
 exact ⟨a,List.eq_nil_of_length_eq_zero z▸rfl⟩
theorem w5 {α:Type}{l:List α}(h:l.length=2):∃ a b,l=[a,b]:=by
 obtain ⟨a,t,rfl,z⟩:=DD h
 obtain ⟨b,z⟩:=rJ z
 exact ⟨a,b,z▸rfl⟩
theorem Jg {α:Type}{l:List α}(h:l.length=3):∃ a b c,l=[a,b,c]:=by
 obtain ⟨a,t,rfl,z⟩:=DD h
 obtain ⟨b,c,z⟩:=w5 z
 exact ⟨a,b,c,z▸rfl⟩
theorem To.add (T:To X F ρ st s F' ρ' st' s'){n:Nat}(h:ρ.length+n=st'.nx):∃ τ,ρ'=ρ++τ∧τ.length=n:=by
 obtain ⟨τ,rfl⟩:=T.ext.pre
 exact ⟨τ,rfl,Nat.add_left_cancel ((List.length_append.symm.trans T.at'.len).trans h.symm)⟩
theorem To.new1 (T:To X F ρ st s F' ρ' st' s')(h:ρ.length+1=st'.nx):∃ a,ρ'=ρ++[a]:=by
 obtain ⟨τ,e,z⟩:=T.add h
 obtain ⟨a,z⟩:=rJ z
 exact ⟨a,z▸e⟩
theorem To.new2 (T:To X F ρ st s F' ρ' st' s')(h:ρ.length+2=st'.nx):∃ a b,ρ'=ρ++[a,b]:=by
 obtain ⟨τ,e,z⟩:=T.add h
 obtain ⟨a,b,z⟩:=w5 z
 exact ⟨a,b,z▸e⟩
theorem To.new3 (T:To X F ρ st s F' ρ' st' s')(h:ρ.length+3=st'.nx):∃ a b c,ρ'=ρ++[a,b,c]:=by
 obtain ⟨τ,e,z⟩:=T.add h
 obtain ⟨a,b,c,z⟩:=Jg z
 exact ⟨a,b,c,z▸e⟩
end
end
section
noncomputable abbrev sK (h:Heap)(a:Addr)(fd:FuncData)(names:List Str)(body:List Stmt):Prop:=FnD h a fd names body []
theorem w3 {names:List Str}{args:List SV}(hl:names.length≤args.length){x:Str}(h:x∈names):(af x (names.zip args)).isSome=true:=by
 induction names generalizing args with
 | nil=>cases h
 | cons n r ih=>
  cases args with
  | nil=>cases hl
  | cons a args=>
   rw [List.zip_cons_cons,af]
   cases q:sEq n x with
   | true=>rfl
   | false=>exact ih (Nat.le_of_succ_le_succ hl) ((aJ h).resolve_left fun e=>cn.mp q e.symm)
theorem u5 {names:List Str}{args:List SV}(hl:args.length=names.length):jY names args []=some (names.zip args):=by
 have h:(Nat.ble args.length names.length&&(names.take (names.length - (([]:List SV).drop (([]:List SV).length - names.length)).length)).all fun n=>(af n (names.zip args)).isSome)=true:=
  Bool.and_eq_true_iff.mpr ⟨Nat.ble_eq_true_of_le (Nat.le_of_eq hl),List.all_eq_true.mpr fun n hn=>w3 (Nat.le_of_eq hl.symm) (List.mem_of_mem_take hn)⟩
 unfold jY
 rw [h]
 show some (names.zip args++(names.drop _).zip (([]:List SV).drop _))=_
 rw [List.drop_nil,List.zip_nil_right,List.append_nil]
section
theorem gj {d:Nat}{fd:FuncData}{names:List Str}{body:List Stmt}{a:Addr}{args:List SV}{vs:List Value}{Q:Value→Shared→Prop}(rm:aj (d+1) A)(at':At F ρ st s)
  (fn:sK s.heap a fd names body) {cells:List (Str×Nat)} (hcl:∀ x k,af x cells=some k→∃ p,ρ[k]?=some p∧fd.closure.lookup x=some p.1) (ha:ag (SV.Is ρ) args vs) (hl:args.length=names.length)
  (h:∀ env s₀,To [] F ρ st s F ρ st s₀→Fm F ρ st.σ ⟨fd.scope,cells,d⟩ env (names.zip args) s₀.heap→s.heap.get? env.locals=none→aj d (A.deeper env)→env=envX fd.qualname fd.scope s.heap.objs.size a fd.code fd.closure→
   wpAny (model prog w) (A.deeper env) (execs body env) (fun fl s'=>Q (iS fl) s') (pi A env E) s₀):wpAny (model prog w) A (call (.ref a) vs) Q E s:=
 wpAny_call (om rm at' fn hcl ha .nil (u5 hl) fun env s₀ T fm nw rm' e _=>h env s₀ T fm nw rm' e)
noncomputable def bj (o:Option Obj):List Str:=match cG o with
 | some fd=>fd.params.args.map (·.arg)
 | none=>[]
noncomputable def kj:Value→Bool
 | .none=>true
 | _=>false
noncomputable def gm (o:Option Obj):List Stmt:=match cG o with
 | some fd=>(fg fd.body).getD []
 | none=>[]
noncomputable def db (o:Option Obj)(d:Scope):Scope:=match cG o with
 | some fd=>fd.scope
 | none=>d
noncomputable def nP (b:FuncBody):Bool:=(fg b).isSome
noncomputable def fQ (K:Frag)(a:Addr):Bool:=match cG (K.lookup a) with
 | some fd=>kg K fd (fd.params.args.map (·.arg))&&fL fd.params&&kj fd.defaults&&nP fd.body
 | none=>false
theorem rR {v:Value}(h:kj v=true):v=.none:=by
 cases v<;>first | rfl | exact eqT h
theorem pd {o:Option Obj}{fd:FuncData}(e:cG o=some fd)(h1:fL fd.params=true)(h2:kj fd.defaults=true)(h3:nP fd.body=true):dN fd=some (bj o)∧eU K fd=some []∧fg fd.body=some (gm o)∧fd.scope=db o default:=by
 unfold dN bj gm db eU
 rw [e,h1,rR h2]
 obtain ⟨b,hb⟩:=Option.isSome_iff_exists.mp h3
 exact ⟨rfl,rfl,by dsimp only; rw [hb]; rfl,rfl⟩
theorem lA {a:Addr}{h:Heap}(hc:fQ K a=true)(X:K.In h):∃ fd,sK h a fd (bj (K.lookup a)) (gm (K.lookup a))∧fd.scope=db (K.lookup a) default∧fd.closure=[]:=by
 unfold fQ at hc
 cases e:cG (K.lookup a) with
 | none=>rw [e] at hc; exact eqT hc
 | some fd=>
  rw [e] at hc
  refine cN hc fun hc h3=>cN hc fun hc h2=>cN hc fun p h1=>?_
  obtain ⟨e1,e2,e3,e4⟩:=pd e h1 h2 h3
  have hn:fd.params.args.map (·.arg)=bj (K.lookup a):=by unfold bj; rw [e]
  have z:=rY X e e1 e2 e3 (hn▸p)
  exact ⟨fd,z.1,e4,z.2⟩
theorem dR {d:Nat}{a:Addr}{args:List SV}{vs:List Value}{Q:Value→Shared→Prop}(hc:fQ K a=true)(rm:aj (d+1) A)(at':At F ρ st s)(ha:ag (SV.Is ρ) args vs)(hl:args.length=(bj (K.lookup a)).length)
  (h:∀ env s₀,To [] F ρ st s F ρ st s₀→Fm F ρ st.σ ⟨db (K.lookup a) default,[],d⟩ env ((bj (K.lookup a)).zip args) s₀.heap→s.heap.get? env.locals=none→aj d (A.deeper env)→
   wpAny (model prog w) (A.deeper env) (execs (gm (K.lookup a)) env) (fun fl s'=>Q (iS fl) s') (pi A env E) s₀):wpAny (model prog w) A (call (.ref a) vs) Q E s:=by
 obtain ⟨fd,fn,hs,hcl⟩:=lA hc at'.rep.world.inK
 exact gj rm at' fn (cells:=[]) (fun x k z=>nos z) ha hl fun env s₀ T fm nw rm' _=>h env s₀ T (hs▸fm) nw rm'
end
end
section
structure ee (A:Around)(F₀:Fz)(t:Expr)(it:Value)(W:List Addr)(n:Nat)(Items:Nat→Value→Heap→Prop)(It:Nat→Heap→Prop):Prop where
 next:∀ {i:Nat} {s:Shared} {Q:Value→Shared→Prop} {E:Value→Shared→Prop},i<n→It i s.heap→
  (∀ v h' tk,Items i v h'→It (i+1) h'→dm W s.heap h'→Q v { s with heap:=h',toks:=tk })→
  wpAny (model prog w) A (pyNext it) (fun r s'=>match r with
   | some v=>wpAny (model prog w) A (letOwnedTupleGo t it v) (fun _ s''=>Q v s'') E s'
   | none=>False) E s
 done:∀ {s:Shared} {Q:Shared→Prop} {E:Value→Shared→Prop},It n s.heap→(∀ h' tk,dm W s.heap h'→Q { s with heap:=h',toks:=tk })→wpAny (model prog w) A (pyNext it) (fun r s'=>r=none∧Q s') E s
 keep:∀ {i:Nat} {h h':Heap},It i h→(∀ c o,c∈W→h.get? c=some o→h'.get? c=some o)→F₀.le h'→It i h'
 alive:∀ {i:Nat} {h:Heap},It i h→∀ c∈W,∃ o,h.get? c=some o
section
structure yx (cx:Cx)(env:Env)(W:List Addr)(n:Nat)(It:Nat→Heap→Prop)(J:Nat→Fz→Rho→St→Loc→Prop)(F₀:Fz)(ρ₀:Rho)(st₀:St)(s₀:Shared)(k:Nat)(s:Shared):Prop where
 all:∃ i F ρ st m,i+k=n∧To (env.locals::W) F₀ ρ₀ st₀ s₀ F ρ st s∧Fm F ρ st.σ cx env m s.heap∧J i F ρ st m∧It i s.heap∧(∀ c∈W,c∉ae ρ st.σ)∧(∀ c∈W,F c=none)
theorem nU {t:Expr}{it:Value}{body:List Stmt}{W:List Addr}{n:Nat}{Items:Nat→Value→Heap→Prop}{It:Nat→Heap→Prop}{F₀:Fz}(P:ee A F₀ t it W n Items It){J:Nat→Fz→Rho→St→Loc→Prop}{Q:Flow→Shared→Prop}
  {ρ₀:Rho} {st₀:St} {s₀:Shared} (hW:∀ c∈W,s₀.heap.get? c=none) (al:∃ o,s₀.heap.get? env.locals=some o)
  (step:∀ {i F ρ st m s v E},i<n→At F ρ st s→Fm F ρ st.σ cx env m s.heap→J i F ρ st m→Items i v s.heap→(∀ a o,F₀ a=some o→F a=some o)→
   wpAny (model prog w) A (assign t env v) (fun _ s₂=>wpAny (model prog w) A (execs body env) (fun f s₃=>(f=.next∨f=.cont)∧∃ F' ρ' st' m',To [env.locals] F ρ st s F' ρ' st' s₃∧Fm F' ρ' st'.σ cx env m' s₃.heap∧J (i+1) F' ρ' st' m') E s₂) E s)
  (fin:∀ {F ρ st m s},To [env.locals] F₀ ρ₀ st₀ s₀ F ρ st s→Fm F ρ st.σ cx env m s.heap→J n F ρ st m→Q .next s)
  (T:To (env.locals::W) F₀ ρ₀ st₀ s₀ F ρ st s) (fm:Fm F ρ st.σ cx env m s.heap) (hJ:J 0 F ρ st m) (hI:It 0 s.heap) (hout:∀ c∈W,c∉ae ρ st.σ) (hfr:∀ c∈W,F c=none) :
  codeAny (model prog w) A (.forLoop t it body [] env) (fun r s'=>match r with | .ok f=>Q f s' | .error e=>cameBackBy (model prog w) A env E e s') s:=by
 have nel:env.locals∉W:=fun z=>by obtain ⟨o,ho⟩:=al; rw [hW _ z] at ho; cases ho
 have drop:∀ {F' ρ' st' s'},To (env.locals::W) F₀ ρ₀ st₀ s₀ F' ρ' st' s'→To [env.locals] F₀ ρ₀ st₀ s₀ F' ρ' st' s':=fun T=>
  ⟨T.at',T.ext.drop fun a ha=>by
   rcases aJ ha with rfl | z
   ·exact .inl (by simp)
   ·exact .inr (hW a z),T.sh⟩
 refine codeAny_forLoop_any (fun k s=>yx cx env W n It J F₀ ρ₀ st₀ s₀ k s) (fun k s hI=>?_) n ⟨0,F,ρ,st,m,by omega,T,fm,hJ,hI,hout,hfr⟩
 obtain ⟨i,F,ρ,st,m,hik,T,fm,hJ,hit,hout,hfr⟩:=hI.all
 cases k with
 | zero=>
  have hi:i=n:=by omega
  subst hi
  refine wpAny_mono (P.done hit (Q:=fun s'=>Q .next s') fun h' tk kb=>?_) (fun r s' hr=>?_) fun _ _ e=>e
  ·-- the end
   have at₁:=T.at'.beside (tk:=tk) hout hfr kb
   have ne0:∀ {b o},s₀.heap.get? b=some o→b∉W:=fun e z=>by rw [hW _ z] at e; cases e
   have T':To [env.locals] F₀ ρ₀ st₀ s₀ F ρ st { s with heap:=h',toks:=tk }:=⟨at₁,⟨T.ext.pre,fun b o e nb nx=>kb b o (ne0 e) (T.ext.keep b o e nb (by
     intro z; rcases aJ z with z | z
     ·exact nx (by simp [z])
     ·exact ne0 e z)),T.ext.new,T.ext.fz,T.ext.fznew,fun b o e=>by
    obtain ⟨o',e'⟩:=T.ext.live b o e
    exact ⟨o',kb b o' (ne0 e) e'⟩⟩,by rw [T.sh]⟩
   exact fin T' (fm.beside kb nel) hJ
  ·obtain ⟨rfl,hq⟩:=hr
   exact wpAny_execs_nil hq
 | succ k=>
  have hi:i<n:=by omega
  refine wpAny_mono (P.next hi hit (Q:=fun v s₁'=>wpAny (model prog w) A (assign t env v) (fun _ s₂=>wpAny (model prog w) A (execs body env) (fun f s₃=>match f with
      | .next | .cont=>∃ m,m<k+1∧yx cx env W n It J F₀ ρ₀ st₀ s₀ m s₃
      | .brk=>Q .next s₃
      | .ret v=>Q (.ret v) s₃) (notedBy (model prog w) A env fun e s'=>cameBackBy (model prog w) A env E e s') s₂) (notedBy (model prog w) A env fun e s'=>cameBackBy (model prog w) A env E e s') s₁') (E:=notedBy (model prog w) A env fun e s'=>cameBackBy (model prog w) A env E e s') fun v h' tk hv hit' kb=>?_) (fun r s' hr=>?_) fun _ _ e=>e
  ·have at₁:=T.at'.beside (tk:=tk) hout hfr kb
   have fm₁:=fm.beside kb nel
   have ne0:∀ {b o},s₀.heap.get? b=some o→b∉W:=fun e z=>by rw [hW _ z] at e; cases e
   have T₁:To (env.locals::W) F₀ ρ₀ st₀ s₀ F ρ st { s with heap:=h',toks:=tk }:=⟨at₁,⟨T.ext.pre,fun b o e nb nx=>kb b o (ne0 e) (T.ext.keep b o e nb nx),T.ext.new,T.ext.fz,T.ext.fznew,fun b o e=>by
    obtain ⟨o',e'⟩:=T.ext.live b o e
    exact ⟨o',kb b o' (ne0 e) e'⟩⟩,by rw [T.sh]⟩
   refine wpAny_mono (step hi at₁ fm₁ hJ hv T.ext.fz) (fun _ s₂ h₂=>wpAny_mono h₂ (fun f s₃ h₃=>?_) fun _ _ e=>e) fun _ _ e=>e
   obtain ⟨hf,F',ρ',st',m',T₂,fm₂,hJ₂⟩:=h₃
   have kW:∀ c o,c∈W→h'.get? c=some o→s₃.heap.get? c=some o:=fun c o hc e=>T₂.ext.keep c o e (hout c hc) (by
    intro z; rw [List.mem_singleton] at z; exact nel (z▸hc))
   have next:∃ m,m<k+1∧yx cx env W n It J F₀ ρ₀ st₀ s₀ m s₃:=by
    refine ⟨k,Nat.lt_succ_self _,⟨i+1,F',ρ',st',m',by omega,T₁.trans (T₂.weaken (by simp)),fm₂,hJ₂,P.keep hit' kW (fun c o e=>T₂.at'.rep.le c o (T₂.ext.fz c o (T.ext.fz c o e))),fun c hc z=>?_,fun c hc=>?_⟩⟩
    ·obtain ⟨o,ho⟩:=P.alive hit' c hc
     rcases T₂.ext.new c z with z | z
     ·exact hout c hc z
     ·have ho:({ s with heap:=h',toks:=tk }:Shared).heap.get? c=some o:=ho
      rw [z] at ho; cases ho
    ·obtain ⟨o,ho⟩:=P.alive hit' c hc
     cases q:F' c with
     | none=>rfl
     | some y=>
      rcases T₂.ext.fznew c y q with z | z
      ·rw [hfr c hc] at z; cases z
      ·have ho:({ s with heap:=h',toks:=tk }:Shared).heap.get? c=some o:=ho
       rw [z] at ho; cases ho
   rcases hf with rfl | rfl
   ·exact next
   ·exact next
  ·cases r with
   | none=>exact hr.elim
   | some v=>exact hr
theorem fO {t:Expr}{it:Value}{body:List Stmt}{W:List Addr}{n:Nat}{Items:Nat→Value→Heap→Prop}{It:Nat→Heap→Prop}{F₀:Fz}(P:ee A F₀ t it W n Items It){J:Nat→Fz→Rho→St→Loc→Prop}{Q:Flow→Shared→Prop}
  {ρ₀:Rho} {st₀:St} {s₀:Shared} {m₀:Loc} {h₁:Heap} {tk₁:Nat} (hW:∀ c∈W,s₀.heap.get? c=none)
  (step:∀ {i F ρ st m s v E},i<n→At F ρ st s→Fm F ρ st.σ cx env m s.heap→J i F ρ st m→Items i v s.heap→(∀ a o,F₀ a=some o→F a=some o)→
   wpAny (model prog w) A (assign t env v) (fun _ s₂=>wpAny (model prog w) A (execs body env) (fun f s₃=>(f=.next∨f=.cont)∧∃ F' ρ' st' m',To [env.locals] F ρ st s F' ρ' st' s₃∧Fm F' ρ' st'.σ cx env m' s₃.heap∧J (i+1) F' ρ' st' m') E s₂) E s)
  (fin:∀ {F ρ st m s},To [env.locals] F₀ ρ₀ st₀ s₀ F ρ st s→Fm F ρ st.σ cx env m s.heap→J n F ρ st m→Q .next s)
  (at₀:At F₀ ρ₀ st₀ s₀) (fm:Fm F₀ ρ₀ st₀.σ cx env m₀ s₀.heap) (hJ:J 0 F₀ ρ₀ st₀ m₀) (hk:∀ c o,s₀.heap.get? c=some o→h₁.get? c=some o) (hI:It 0 h₁) :
  codeAny (model prog w) A (.forLoop t it body [] env) (fun r s'=>match r with | .ok f=>Q f s' | .error e=>cameBackBy (model prog w) A env E e s') { s₀ with heap:=h₁,toks:=tk₁ }:=by
 have al:∃ o,s₀.heap.get? env.locals=some o:=by obtain ⟨g,⟨o,_,_,ho,_⟩,_⟩:=fm.ns; exact ⟨o,ho⟩
 obtain ⟨R₁,X₁⟩:=at₀.rep.grow hk
 have T:To (env.locals::W) F₀ ρ₀ st₀ s₀ F₀ ρ₀ st₀ { s₀ with heap:=h₁,toks:=tk₁ }:=⟨⟨R₁,at₀.len⟩,X₁.weaken (fun _ z=>nomatch z),rfl⟩
 have fm:Fm F₀ ρ₀ st₀.σ cx env m₀ h₁:=fm.ext X₁ (fun z=>nomatch z)
 have hout:∀ c∈W,c∉ae ρ₀ st₀.σ:=fun c hc z=>by obtain ⟨x,hx⟩:=at₀.rep.lt z; rw [hW c hc] at hx; cases hx
 have hfr:∀ c∈W,F₀ c=none:=fun c hc=>by
  cases q:F₀ c with
  | none=>rfl
  | some o=>have:=at₀.rep.le _ _ q; rw [hW c hc] at this; cases this
 exact nU P hW al step fin T fm hJ hI hout hfr
theorem uD {t:Expr}{I l:Addr}{vs:Array Value}{F₀:Fz}(ht:dY t=true)(hh:A.handled=none)(ne:I≠l):ee A F₀ t (.ref I) [I,l] vs.size (fun i v _=>vs[i]?=some v) (fun i h=>h.IsListIter I l i∧h.IsList l vs) where
 next:=fun {i s Q E} hi hI h=>by
  refine wpAny_pyNext_list_item hI.1 hI.2 (x:=vs[i]) (by simp [hi]) fun h' hit sb=>?_
  refine wpAny_of_eq (bV ht _ _) ?_
  exact h _ h' s.toks (by simp [hi]) ⟨hit,hI.2.at fun o e=>aB sb (Ne.symm ne) e⟩ fun c o hc e=>aB sb (fun z=>hc (by rw [z]; simp)) e
 done:=fun {s Q E} hI h=>wpAny_pyNext_list_end hh hI.1 hI.2 (by simp) fun h' hx=>⟨rfl,h h' s.toks fun c o hc e=>hx c o (fun z=>hc (by rw [z]; simp)) e⟩
 keep:=fun hI k _=>⟨hI.1.at fun o e=>k _ o (by simp) e,hI.2.at fun o e=>k _ o (by simp) e⟩
 alive:=fun hI c hc=>by
  simp at hc
  rcases hc with rfl | rfl
  ·obtain ⟨o,ho,_⟩:=hI.1; exact ⟨o,ho⟩
  ·obtain ⟨o,ho,_⟩:=hI.2; exact ⟨o,ho⟩
theorem iG {t:Expr}{I l:Addr}{vs:Array Value}{F₀:Fz}(ht:dY t=true)(hh:A.handled=none)(hF:∀ h,F₀.le h→h.IsList l vs):ee A F₀ t (.ref I) [I] vs.size (fun i v _=>vs[i]?=some v) (fun i h=>h.IsListIter I l i∧h.IsList l vs) where
 next:=fun {i s Q E} hi hI h=>by
  refine wpAny_pyNext_list_item hI.1 hI.2 (x:=vs[i]) (by simp [hi]) fun h' hit sb=>?_
  refine wpAny_of_eq (bV ht _ _) ?_
  have ne:l≠I:=fun e=>by
   obtain ⟨o,ho,hc,_⟩:=hI.2; obtain ⟨o',ho',hc',_⟩:=hI.1
   rw [e,ho'] at ho; cases ho; rw [hc] at hc'; simp at hc'
  exact h _ h' s.toks (by simp [hi]) ⟨hit,hI.2.at fun o e=>aB sb ne e⟩ fun c o hc e=>aB sb (fun z=>hc (by rw [z]; simp)) e
 done:=fun {s Q E} hI h=>wpAny_pyNext_list_end hh hI.1 hI.2 (by simp) fun h' hx=>⟨rfl,h h' s.toks fun c o hc e=>hx c o (fun z=>hc (by rw [z]; simp)) e⟩
 keep:=fun hI k hF'=>⟨hI.1.at fun o e=>k _ o (by simp) e,hF _ hF'⟩
 alive:=fun hI c hc=>by
  simp at hc; subst hc
  obtain ⟨o,ho,_⟩:=hI.1; exact ⟨o,ho⟩
theorem f6 {t:Expr}{I:Addr}{n:Nat}{F₀:Fz}(ht:dY t=true)(hh:A.handled=none):ee A F₀ t (.ref I) [I] n (fun i v _=>∃ tk,v=.int i tk) (fun i h=>IsRangeIter h I i ((n:Int) - i) 1) where
 next:=fun {i s Q E} hi hI h=>by
  refine wpAny_pyNext_range_item hI (by omega) fun h' hit sb=>?_
  refine wpAny_of_eq (bV ht _ _) ?_
  refine h _ h' _ ⟨_,rfl⟩ ?_ fun c o hc e=>aB sb (fun z=>hc (by rw [z]; simp)) e
  have e1:(i:Int)+1=((i+1:Nat):Int):=by omega
  have e2:(n:Int) - (i:Int) - 1=(n:Int) - ((i+1:Nat):Int):=by omega
  rw [e1,e2] at hit
  exact hit
 done:=fun {s Q E} hI h=>wpAny_pyNext_range_end hh hI (by omega) fun h' hx=>⟨rfl,h h' s.toks fun c o hc e=>hx c o (fun z=>hc (by rw [z]; simp)) e⟩
 keep:=fun hI k _=>k _ _ (by simp) hI
 alive:=fun hI c hc=>by simp at hc; subst hc; exact ⟨_,hI⟩
structure HY (z TI TO i1 i2 l1 l2:Addr)(xs ys:Array Value)(i:Nat)(h:Heap):Prop where
 zip:IsZip h z TI TO .none
 ti:IsPair h TI (.ref i1) (.ref i2)
 to:∃ a b,IsPair h TO a b
 it1:h.IsListIter i1 l1 i
 it2:h.IsListIter i2 l2 i
 li1:h.IsList l1 xs
 li2:h.IsList l2 ys
theorem xj {elts:List Expr}{x1:Nat}{pos:Pos}{z TI TO i1 i2 l1 l2:Addr}{xs ys:Array Value}{F₀:Fz}(hh:A.handled=none)(D:ZipApart z TI TO i1 i2 l1 l2)(hF:∀ h,F₀.le h→h.IsList l2 ys) :
  ee A F₀ (.Tuple elts x1 pos) (.ref z) [z,TI,TO,i1,i2,l1] (min xs.size ys.size) (fun i v h=>∃ T x y,v=.ref T∧IsPair h T x y∧xs[i]?=some x∧ys[i]?=some y) (HY z TI TO i1 i2 l1 l2 xs ys) where
 next:=fun {i s Q E} hi hI h=>by
  obtain ⟨a,b,hTO⟩:=hI.to
  have h1:i<xs.size:=by omega
  have h2:i<ys.size:=by omega
  refine wpAny_pyNext_zip_item D hI.zip hI.ti hTO hI.it1 hI.it2 hI.li1 hI.li2 (x:=xs[i]) (y:=ys[i]) (by simp [h1]) (by simp [h2]) fun h' a1 a2 a3 a4 a5 a6 a7=>?_
  refine wpAny_letOwnedTupleGo_zip a1 fun h'' b1 sb=>?_
  have zl:z<s.heap.objs.size:=Heap.lt_size hI.zip
  have nT:s.heap.objs.size≠z:=Nat.ne_of_gt zl
  have up:∀ c o,c≠z→c≠TO→c≠i1→c≠i2→s.heap.get? c=some o→h''.get? c=some o:=fun c o c1 c2 c3 c4 e=>aB sb c1 (a7 c o c1 c2 c3 c4 e)
  refine h _ h'' s.toks ⟨_,_,_,rfl,aB sb nT a5,by simp [h1],by simp [h2]⟩ ⟨b1,aB sb D.TIz (a7 _ _ D.TIz D.TITO D.TIi1 D.TIi2 hI.ti),⟨_,_,aB sb D.TOz a2⟩,a3.at fun o e=>aB sb D.i1z e,a4.at fun o e=>aB sb D.i2z e,
   hI.li1.at fun o e=>up _ o D.l1z D.l1TO D.l1i1 D.l1i2 e,hI.li2.at fun o e=>up _ o D.l2z D.l2TO D.l2i1 D.l2i2 e⟩ fun c o hc e=>?_
  simp only [List.mem_cons,List.not_mem_nil,or_false,not_or] at hc
  exact up c o hc.1 hc.2.2.1 hc.2.2.2.1 hc.2.2.2.2.1 e
 done:=fun {s Q E} hI h=>by
  obtain ⟨a,b,hTO⟩:=hI.to
  refine wpAny_pyNext_zip_end hh D hI.zip hI.ti hTO hI.it1 hI.it2 hI.li1 hI.li2 ?_ fun h' kb=>⟨rfl,h h' s.toks fun c o hc e=>?_⟩
  ·rcases Nat.le_total xs.size ys.size with q | q
   ·left; rw [Nat.min_eq_left q]; simp
   ·right; rw [Nat.min_eq_right q]; simp
  ·simp only [List.mem_cons,List.not_mem_nil,or_false,not_or] at hc
   exact kb c o hc.1 hc.2.2.1 hc.2.2.2.1 hc.2.2.2.2.1 e
 keep:=fun hI k hF'=>by
  obtain ⟨a,b,hTO⟩:=hI.to
  exact ⟨k _ _ (by simp) hI.zip,k _ _ (by simp) hI.ti,⟨a,b,k _ _ (by simp) hTO⟩,hI.it1.at fun o e=>k _ o (by simp) e,hI.it2.at fun o e=>k _ o (by simp) e,hI.li1.at fun o e=>k _ o (by simp) e,hF _ hF'⟩
 alive:=fun hI c hc=>by
  simp only [List.mem_cons,List.not_mem_nil,or_false] at hc
  obtain ⟨a,b,hTO⟩:=hI.to
  rcases hc with rfl | rfl | rfl | rfl | rfl | rfl
  ·exact ⟨_,hI.zip⟩
  ·exact ⟨_,hI.ti⟩
  ·exact ⟨_,hTO⟩
  ·obtain ⟨o,ho,_⟩:=hI.it1; exact ⟨o,ho⟩
  ·obtain ⟨o,ho,_⟩:=hI.it2; exact ⟨o,ho⟩
  ·obtain ⟨o,ho,_⟩:=hI.li1; exact ⟨o,ho⟩
end
end
section
noncomputable def noX:Orc:=fun _ _ _ _=>none
structure Eg (α:Type) where
 asm:List Prop
 nd:List Prop
 res:α
noncomputable def Res.paths {α:Type}(d:α):Res α→List (Eg α)
 | .ok a=>[⟨[],[],a⟩]
 | .need N r=>(r.paths d).map fun q=>⟨q.asm,N::q.nd,q.res⟩
 | .fork b t e=>((t.paths d).map fun q=>⟨(b=true)::q.asm,q.nd,q.res⟩)++((e.paths d).map fun q=>⟨(b=false)::q.asm,q.nd,q.res⟩)
 | .stuck _=>[⟨[],[False],d⟩]
theorem Res.ok_path {α:Type}{P:α→Prop}(d:α){r:Res α}(h:∀ q∈r.paths d,(∀ a∈q.asm,a)→(∀ n∈q.nd,n)∧P q.res):r.Ok P∧∃ q∈r.paths d,∀ a∈q.asm,a:=by
 induction r with
 | ok a=>exact ⟨(h ⟨[],[],a⟩ (.head _) (fun _ z=>nomatch z)).2,⟨[],[],a⟩,.head _,fun _ z=>nomatch z⟩
 | need N r ih=>
  obtain ⟨h1,q,hq,ha⟩:=ih fun q hq ha=>(h ⟨q.asm,N::q.nd,q.res⟩ (List.mem_map_of_mem hq) ha).imp (fun n x hx=>n x (.tail _ hx)) id
  exact ⟨⟨(h ⟨q.asm,N::q.nd,q.res⟩ (List.mem_map_of_mem hq) ha).1 _ (.head _),h1⟩,_,List.mem_map_of_mem hq,ha⟩
 | fork b t e iht ihe=>
  have key:∀ (c:Bool) (u:Res α),b=c→(∀ q∈u.paths d,(⟨(b=c)::q.asm,q.nd,q.res⟩:Eg α)∈(Res.fork b t e).paths d)→((∀ q∈u.paths d,(∀ a∈q.asm,a)→(∀ n∈q.nd,n)∧P q.res)→u.Ok P∧∃ q∈u.paths d,∀ a∈q.asm,a)→u.Ok P∧∃ q∈(Res.fork b t e).paths d,∀ a∈q.asm,a:=fun c u hb hm ih=>by
   have all:∀ q:Eg α,(∀ a∈q.asm,a)→∀ a∈(b=c)::q.asm,a:=fun q ha a z=>(aJ z).elim (fun z=>z▸hb) (ha a)
   obtain ⟨o,q,hq,ha⟩:=ih fun q hq ha=>h ⟨(b=c)::q.asm,q.nd,q.res⟩ (hm q hq) (all q ha)
   exact ⟨o,⟨(b=c)::q.asm,q.nd,q.res⟩,hm q hq,all q ha⟩
  have kt:=fun hb=>key true t hb (fun q hq=>List.mem_append_left _ (List.mem_map_of_mem hq)) iht
  have ke:=fun hb=>key false e hb (fun q hq=>List.mem_append_right _ (List.mem_map_of_mem hq)) ihe
  exact ⟨⟨fun hb=>(kt hb).1,fun hb=>(ke hb).1⟩,(Bool.eq_false_or_eq_true b).elim (fun hb=>(kt hb).2) fun hb=>(ke hb).2⟩
 | stuck k=>exact ((h ⟨[],[False],d⟩ (.head _) (fun _ z=>nomatch z)).1 False (.head _)).elim
theorem Res.ok_paths {α:Type}{P:α→Prop}(d:α){r:Res α}(h:∀ q∈r.paths d,(∀ a∈q.asm,a)→(∀ n∈q.nd,n)∧P q.res):r.Ok P:=(Res.ok_path d h).1
noncomputable def Res.tr (n:Nat)(r:Res (Fl×Loc×St)):List (List Prop×List Prop×Fl×Hp):=(r.paths (.next,[],⟨[],0⟩)).map fun q=>(q.asm,q.nd,q.res.1,trim n q.res.2.2.σ)
noncomputable def wr (a:Int):Int:=Builtin.bitAnd a (1*2 ^ 64 - 1)
noncomputable def rg (R:List Int)(i:Int):Int:=R.getD i.toNat 0
noncomputable def stF (rip begin:Int):List (Str×SV):=[("iset",.none),("regs",.ref 1),("xmm",.ref 2),("flags",.ref 3),("memory",.ref 4),("rip",.uint rip),("begin",.uint begin),("segments",.ref 6),("is_halted",.bool false)]
noncomputable def stH (R:List Int)(f:Int→Int)(n:Nat)(rip begin:Int):Hp:=[(0,.inst 511 (stF rip begin)),(1,.ilist R),(4,.inst 394 [("held",.ref 5)]),(5,.mem f n)]
noncomputable def j8 (len:Int)(nm:Str)(ops:List SV):Hp:=[(10,.ro (.inst 581 [("instruction",.ref 11),("length",.uint len),("form",.none),("prefixes",.none)])),(11,.ro (.inst 839 [("name",.str nm),("operands",.ref 12),("prefix",.str "")])),(12,.ro (.tup ops))]
noncomputable def Al (l:Nat)(num:Int)(nm:Str):Hp:=[(l,.ro (.inst 279 [("name",.str nm),("kind",.str "gpr"),("number",.uint num),("size",.int 64)]))]
noncomputable def o5 (k l:Nat)(num:Int)(nm:Str):Hp:=[(k,.ro (.inst 658 [("kind",.str "reg"),("register",.ref l)])),(l,.ro (.inst 279 [("name",.str nm),("kind",.str "gpr"),("number",.uint num),("size",.int 64)]))]
noncomputable def Gz (k:Nat)(i:Int):Hp:=[(k,.ro (.inst 692 [("kind",.str "imm"),("worth",.uint i),("name",.str "")]))]
noncomputable def ER (k:Nat)(i:Int):Hp:=[(k,.ro (.inst 733 [("kind",.str "rel"),("worth",.uint i),("name",.str "")]))]
noncomputable def CL (k:Nat)(base index:SV)(scale worth size:Int):Hp:=[(k,.ro (.inst 786 [("kind",.str "mem"),("base",base),("index",index),("scale",.uint scale),("worth",.uint worth),("size",.int size),("segment",.str ""),("name",.str "")]))]
noncomputable def wrN (f:Int→Int)(eN worth:Int):Nat→Int→Int
 | 0=>f
 | k+1=>iP (wrN f eN worth k) (wr (eN+(0+(k:Int)))) (Builtin.bitAnd (worth.fdiv (2 ^ (8*k))) 255)
noncomputable def rdN (f:Int→Int)(eN:Int):Nat→Int
 | 0=>0
 | k+1=>rdN f eN k+f (wr (eN+(0+(k:Int))))*2 ^ (8*k)
inductive Row where
 | push (k:Int)
 | pop (k:Int)
 | movR (d s:Int)
 | movI (d i:Int)
 | lea (d b i sc far:Int)
 | leaB (d b far:Int)
 | movM (d b far:Int)
 | call (rel:Int)
 | ret
 | retI (i:Int)
 | leave
 | jrcxz (rel:Int)
noncomputable def lM (len:Int)(nm:Nat→Str):Row→Hp
 | .push k=>j8 len "push" [.ref 13]++o5 13 14 k (nm 0)
 | .pop k=>j8 len "pop" [.ref 13]++o5 13 14 k (nm 0)
 | .movR d s=>j8 len "mov" [.ref 13,.ref 15]++(o5 13 14 d (nm 0)++o5 15 16 s (nm 1))
 | .movI d i=>j8 len "mov" [.ref 13,.ref 15]++(o5 13 14 d (nm 0)++Gz 15 i)
 | .lea d b i sc far=>j8 len "lea" [.ref 13,.ref 15]++(o5 13 14 d (nm 0)++(CL 15 (.ref 16) (.ref 17) sc far 0++(Al 16 b (nm 1)++Al 17 i (nm 2))))
 | .leaB d b far=>j8 len "lea" [.ref 13,.ref 15]++(o5 13 14 d (nm 0)++(CL 15 (.ref 16) .none 1 far 0++Al 16 b (nm 1)))
 | .movM d b far=>j8 len "mov" [.ref 13,.ref 15]++(o5 13 14 d (nm 0)++(CL 15 (.ref 16) .none 1 far 64++Al 16 b (nm 1)))
 | .call rel=>j8 len "call" [.ref 13]++ER 13 rel
 | .ret=>j8 len "ret" []
 | .retI i=>j8 len "ret" [.ref 13]++Gz 13 i
 | .leave=>j8 len "leave" []
 | .jrcxz rel=>j8 len "jrcxz" [.ref 13]++ER 13 rel
noncomputable def ad (n:Nat)(b:List Stmt):Stmt:=b.getD n (.Pass ⟨0,0,0,0⟩)
noncomputable def dq:Expr:=.Constant .none 0 ⟨0,0,0,0⟩
noncomputable def bc (n:Nat)(b:List Expr):Expr:=b.getD n dq
noncomputable def BN (s:Stmt):Expr:=if h:s.ctorIdx=11 then Stmt.While.elim s h fun t _ _ _=>t else dq
noncomputable def di (s:Stmt):Expr:=if h:s.ctorIdx=12 then Stmt.If.elim s h fun t _ _ _=>t else dq
noncomputable def ah (s:Stmt):List Stmt:=if h:s.ctorIdx=11 then Stmt.While.elim s h fun _ b _ _=>b else if h:s.ctorIdx=9 then Stmt.For.elim s h fun _ _ b _ _=>b else if h:s.ctorIdx=12 then Stmt.If.elim s h fun _ b _ _=>b else if h:s.ctorIdx=17 then Stmt.Try.elim s h fun b _ _ _ _=>b else if h:s.ctorIdx=0 then Stmt.FunctionDef.elim s h fun _ _ b _ _ _ _ _ _ _=>b else []
noncomputable def kD (s:Stmt):List Stmt:=if h:s.ctorIdx=12 then Stmt.If.elim s h fun _ _ o _=>o else []
noncomputable def aC (s:Stmt):Expr:=if h:s.ctorIdx=9 then Stmt.For.elim s h fun _ i _ _ _=>i else dq
noncomputable def aF (s:Stmt):Expr:=if h:s.ctorIdx=9 then Stmt.For.elim s h fun t _ _ _ _=>t else dq
noncomputable abbrev aS:=Stmt.pos
noncomputable def aI (s:Stmt):Expr:=if h:s.ctorIdx=24 then Stmt.Expr.elim s h fun e _=>e else if h:s.ctorIdx=5 then Stmt.Assign.elim s h fun _ e _=>e else if h:s.ctorIdx=3 then Stmt.Return.elim s h fun o _=>o.getD dq else dq
noncomputable def jl (s:Stmt):List Expr:=if h:s.ctorIdx=5 then Stmt.Assign.elim s h fun t _ _=>t else []
noncomputable def caF (e:Expr):Expr:=if h:e.ctorIdx=16 then Expr.Call.elim e h fun f _ _ _=>f else dq
noncomputable def caA (e:Expr):List Expr:=if h:e.ctorIdx=16 then Expr.Call.elim e h fun _ a _ _=>a else []
noncomputable abbrev ao:=Expr.pos
noncomputable def AE (d:Scope)(s:Stmt):Scope:=if h:s.ctorIdx=0 then Stmt.FunctionDef.elim s h fun _ _ _ _ _ _ c _ _ _=>c else d
noncomputable def iu (p:Params):List Stmt:=gm ((an p).lookup 1122)
noncomputable def cT (p:Params):List Stmt:=ah (ad 0 (iu p))
noncomputable def bh (p:Params):Scope:=AE (db ((an p).lookup 1122) default) (ad 0 (iu p))
noncomputable def cq (p:Params)(R:List Int)(f:Int→Int)(n:Nat)(rip begin len:Int)(nm:Nat→Str)(row:Row):Res (Fl×Loc×St):=
 (ev (an p) noX 200).ss ⟨bh p,[("program",9)],30⟩ [("some",.ref 0)] (cT p) ⟨stH R f n rip begin++((7,.list [.int 18446744073709551600])::(8,.ro (.kdict rip (.ref 10)))::(9,.ro (.cell (some (.ref 8))))::lM len nm row),21⟩
noncomputable def rpH:Hp:=[(7,.list [.int 18446744073709551600])]
structure M where
 R:List Int
 f:Int→Int
 n:Nat
 rip:Int
noncomputable def down (R:List Int):List Int:=R.set 4 (wr (rg R 4 - 8))
noncomputable def up (R:List Int):List Int:=R.set 4 (wr (rg R 4+8))
noncomputable def Row.go (len:Int)(m:M):Row→M
 | .push k=>⟨down m.R,wrN m.f (rg (down m.R) 4) (wr (wr (rg m.R k))) 8,m.n+8,wr (m.rip+len)⟩
 | .pop k=>⟨(up m.R).set k.toNat (wr (rdN m.f (rg m.R 4) 8)),m.f,m.n,wr (m.rip+len)⟩
 | .movR d s=>⟨m.R.set d.toNat (wr (wr (wr (rg m.R s)))),m.f,m.n,wr (m.rip+len)⟩
 | .movI d i=>⟨m.R.set d.toNat (wr (wr i)),m.f,m.n,wr (m.rip+len)⟩
 | .lea d b i sc far=>⟨m.R.set d.toNat (wr (wr (far+wr (rg m.R b)+wr (rg m.R i)*sc))),m.f,m.n,wr (m.rip+len)⟩
 | .leaB d b far=>⟨m.R.set d.toNat (wr (wr (far+wr (rg m.R b)))),m.f,m.n,wr (m.rip+len)⟩
 | .movM d b far=>⟨m.R.set d.toNat (wr (rdN m.f (wr (wr (far+wr (rg m.R b))+0)) 8)),m.f,m.n,wr (m.rip+len)⟩
 | .call rel=>⟨down m.R,wrN m.f (rg (down m.R) 4) (wr (m.rip+len)) 8,m.n+8,wr (wr (m.rip+len)+rel)⟩
 | .ret=>⟨up m.R,m.f,m.n,rdN m.f (rg m.R 4) 8⟩
 | .retI i=>⟨(up m.R).set 4 (wr (rg (up m.R) 4+i)),m.f,m.n,rdN m.f (rg m.R 4) 8⟩
 | .leave=>⟨(up (m.R.set 4 (rg m.R 5))).set 5 (rdN m.f (rg (m.R.set 4 (rg m.R 5)) 4) 8),m.f,m.n,wr (m.rip+len)⟩
 | .jrcxz rel=>⟨m.R,m.f,m.n,if rg m.R 1 == 0 then wr (wr (m.rip+len)+rel) else wr (m.rip+len)⟩
noncomputable def mH (m:M)(begin:Int):Hp:=stH m.R m.f m.n m.rip begin
noncomputable def nI (R:List Int)(i:Int):Prop:=0≤i∧i<(R.length:Int)∧R.length<2 ^ 62
noncomputable def nRd (f:Int→Int)(eN:Int):List Prop:=[0,1,2,3,4,5,6,7].map fun k:Nat=>(f (wr (eN+(0+(k:Int))))).natAbs<2 ^ 64
noncomputable def nWr (n:Nat):List Prop:=[n≤100000,n+1≤100000,n+2≤100000,n+3≤100000,n+4≤100000,n+5≤100000,n+6≤100000,n+7≤100000]
section
variable (p:Params)(R:List Int)(f:Int→Int)(n:Nat)(rip begin len:Int)(nm:Nat→Str)
noncomputable def Row.nds (R:List Int)(f:Int→Int)(n:Nat)(rip:Int):Row→List Prop
 | .push k=>nI R k::nI R 4::nI R 4::nI (down R) 4::nWr n
 | .pop k=>nI R 4::(nRd f (rg R 4)++[nI R 4,nI R 4,nI (up R) k,nI (up R) k])
 | .movR d s=>[nI R s,nI R d,nI R d]
 | .movI d i=>[nI R d,nI R d]
 | .lea d b i sc far=>[nI R b,nI R i,IntMulOk (wr (rg R i)) sc,nI R d,nI R d]
 | .leaB d b far=>[nI R b,nI R d,nI R d]
 | .movM d b far=>nI R b::(nRd f (wr (wr (far+wr (rg R b))+0))++[nI R d,nI R d])
 | .call rel=>nI R 4::nI R 4::nI (down R) 4::nWr n
 | .ret=>nI R 4::(nRd f (rg R 4)++[nI R 4,nI R 4])
 | .retI i=>nI R 4::(nRd f (rg R 4)++[nI R 4,nI R 4,nI (up R) 4,nI (up R) 4])
 | .leave=>nI R 5::nI R 4::nI (R.set 4 (rg R 5)) 4::(nRd f (rg (R.set 4 (rg R 5)) 4)++[nI (R.set 4 (rg R 5)) 4,nI (R.set 4 (rg R 5)) 4,nI (up (R.set 4 (rg R 5))) 5])
 | .jrcxz rel=>[nI R 1]
theorem yJ (k:Int):(cq p R f n rip begin len nm (.push k)).tr 8=[([],(rip=rip)::(rip=rip)::Row.nds R f n rip (.push k),.ret (.ref 10),mH (Row.go len ⟨R,f,n,rip⟩ (.push k)) rip++rpH)]:=by rfl'
theorem BW (k:Int):(cq p R f n rip begin len nm (.pop k)).tr 8=[([],(rip=rip)::(rip=rip)::Row.nds R f n rip (.pop k),.ret (.ref 10),mH (Row.go len ⟨R,f,n,rip⟩ (.pop k)) rip++rpH)]:=by rfl'
theorem yK (d s:Int):(cq p R f n rip begin len nm (.movR d s)).tr 8=[([],(rip=rip)::(rip=rip)::Row.nds R f n rip (.movR d s),.ret (.ref 10),mH (Row.go len ⟨R,f,n,rip⟩ (.movR d s)) rip++rpH)]:=by rfl'
theorem yM (d i:Int):(cq p R f n rip begin len nm (.movI d i)).tr 8=[([],(rip=rip)::(rip=rip)::Row.nds R f n rip (.movI d i),.ret (.ref 10),mH (Row.go len ⟨R,f,n,rip⟩ (.movI d i)) rip++rpH)]:=by rfl'
theorem BX (d b i sc far:Int):(cq p R f n rip begin len nm (.lea d b i sc far)).tr 8=[([],(rip=rip)::(rip=rip)::Row.nds R f n rip (.lea d b i sc far),.ret (.ref 10),mH (Row.go len ⟨R,f,n,rip⟩ (.lea d b i sc far)) rip++rpH)]:=by rfl'
theorem yN (d b far:Int):(cq p R f n rip begin len nm (.leaB d b far)).tr 8=[([],(rip=rip)::(rip=rip)::Row.nds R f n rip (.leaB d b far),.ret (.ref 10),mH (Row.go len ⟨R,f,n,rip⟩ (.leaB d b far)) rip++rpH)]:=by rfl'
theorem yL (d b far:Int):(cq p R f n rip begin len nm (.movM d b far)).tr 8=[([],(rip=rip)::(rip=rip)::Row.nds R f n rip (.movM d b far),.ret (.ref 10),mH (Row.go len ⟨R,f,n,rip⟩ (.movM d b far)) rip++rpH)]:=by rfl'
theorem yO (rel:Int):(cq p R f n rip begin len nm (.call rel)).tr 8=[([],(rip=rip)::(rip=rip)::Row.nds R f n rip (.call rel),.ret (.ref 10),mH (Row.go len ⟨R,f,n,rip⟩ (.call rel)) rip++rpH)]:=by rfl'
theorem BV  : (cq p R f n rip begin len nm (.ret)).tr 8=[([],(rip=rip)::(rip=rip)::Row.nds R f n rip (.ret),.ret (.ref 10),mH (Row.go len ⟨R,f,n,rip⟩ (.ret)) rip++rpH)]:=by rfl'
theorem yI (i:Int):(cq p R f n rip begin len nm (.retI i)).tr 8=[([],(rip=rip)::(rip=rip)::Row.nds R f n rip (.retI i),.ret (.ref 10),mH (Row.go len ⟨R,f,n,rip⟩ (.retI i)) rip++rpH)]:=by rfl'
theorem vt  : (cq p R f n rip begin len nm (.leave)).tr 8=[([],(rip=rip)::(rip=rip)::Row.nds R f n rip (.leave),.ret (.ref 10),mH (Row.go len ⟨R,f,n,rip⟩ (.leave)) rip++rpH)]:=by rfl'
theorem vu (rel:Int):(cq p R f n rip begin len nm (.jrcxz rel)).tr 8=[([(rg R 1 == 0)=true],[rip=rip,rip=rip,nI R 1],.ret (.ref 10),stH R f n (wr (wr (rip+len)+rel)) rip++rpH),([(rg R 1 == 0)=false],[rip=rip,rip=rip,nI R 1],.ret (.ref 10),stH R f n (wr (rip+len)) rip++rpH)]:=by rfl'
end
end
section
theorem cb:iL noX:=fun _ _ _ h=>nomatch h
noncomputable def bX (i:Int):Prop:=0≤i∧i<16
noncomputable def lH:Row→Prop
 | .push k=>bX k
 | .pop k=>bX k
 | .movR d s=>bX d∧bX s
 | .movI d _=>bX d
 | .lea d b i sc _=>bX d∧bX b∧bX i∧0≤sc∧sc<2 ^ 32
 | .leaB d b _=>bX d∧bX b
 | .movM d b _=>bX d∧bX b
 | .call _=>True
 | .ret=>True
 | .retI _=>True
 | .leave=>True
 | .jrcxz _=>True
structure MOk (m:M):Prop where
 len:m.R.length=16
 oct:∀ i,(m.f i).natAbs<2 ^ 64
 siz:m.n+8≤100000
theorem jt {f:Int→Int}(h:∀ i,(f i).natAbs<2 ^ 64)(p:Int):∀ P∈nRd f p,P:=by
 intro P hP
 unfold nRd at hP
 obtain ⟨k,_,rfl⟩:=List.mem_map.mp hP
 exact h _
theorem lb {n:Nat}(h:n+8≤100000):∀ P∈nWr n,P:=by
 intro P hP
 rcases FC hP with rfl | rfl | rfl | rfl | rfl | rfl | rfl | rfl<;>omega
theorem aR {R:List Int}(h:R.length=16){i:Int}(r:bX i):nI R i:=⟨r.1,by have:=r.2; omega,by omega⟩
theorem jd {R:List Int}(h:R.length=16):(down R).length=16:=by simp [down,h]
theorem ku {R:List Int}(h:R.length=16):(up R).length=16:=by simp [up,h]
theorem CF {m:M}(hm:MOk m):∀ {row:Row},lH row→∀ P∈Row.nds m.R m.f m.n m.rip row,P:=by
 have c4:bX 4:=⟨by decide,by decide⟩
 have c5:bX 5:=⟨by decide,by decide⟩
 have c1:bX 1:=⟨by decide,by decide⟩
 have l:=hm.len
 intro row hr P hP
 cases row with
 | push k=>
  simp only [Row.nds,List.mem_cons] at hP
  rcases hP with rfl | rfl | rfl | rfl | hP
  ·exact aR l hr
  ·exact aR l c4
  ·exact aR l c4
  ·exact aR (jd l) c4
  ·exact lb hm.siz P hP
 | pop k=>
  simp only [Row.nds,List.mem_cons,List.mem_append,List.not_mem_nil,or_false] at hP
  rcases hP with rfl | hP | rfl | rfl | rfl | rfl
  ·exact aR l c4
  ·exact jt hm.oct _ P hP
  ·exact aR l c4
  ·exact aR l c4
  ·exact aR (ku l) hr
  ·exact aR (ku l) hr
 | movR d s=>
  simp only [Row.nds,List.mem_cons,List.not_mem_nil,or_false] at hP
  rcases hP with rfl | rfl | rfl
  ·exact aR l hr.2
  ·exact aR l hr.1
  ·exact aR l hr.1
 | movI d i=>
  simp only [Row.nds,List.mem_cons,List.not_mem_nil,or_false] at hP
  rcases hP with rfl | rfl
  ·exact aR l hr
  ·exact aR l hr
 | lea d b i sc far=>
  simp only [Row.nds,List.mem_cons,List.not_mem_nil,or_false] at hP
  obtain ⟨h1,h2,h3,h4,h5⟩:=hr
  rcases hP with rfl | rfl | rfl | rfl | rfl
  ·exact aR l h2
  ·exact aR l h3
  ·exact PySem.IntMulOk.of_right (PySem.intBits_le_64 (by omega) (by omega))
  ·exact aR l h1
  ·exact aR l h1
 | leaB d b far=>
  simp only [Row.nds,List.mem_cons,List.not_mem_nil,or_false] at hP
  rcases hP with rfl | rfl | rfl
  ·exact aR l hr.2
  ·exact aR l hr.1
  ·exact aR l hr.1
 | movM d b far=>
  simp only [Row.nds,List.mem_cons,List.mem_append,List.not_mem_nil,or_false] at hP
  rcases hP with rfl | hP | rfl | rfl
  ·exact aR l hr.2
  ·exact jt hm.oct _ P hP
  ·exact aR l hr.1
  ·exact aR l hr.1
 | call rel=>
  simp only [Row.nds,List.mem_cons] at hP
  rcases hP with rfl | rfl | rfl | hP
  ·exact aR l c4
  ·exact aR l c4
  ·exact aR (jd l) c4
  ·exact lb hm.siz P hP
 | ret=>
  simp only [Row.nds,List.mem_cons,List.mem_append,List.not_mem_nil,or_false] at hP
  rcases hP with rfl | hP | rfl | rfl
  ·exact aR l c4
  ·exact jt hm.oct _ P hP
  ·exact aR l c4
  ·exact aR l c4
 | retI i=>
  simp only [Row.nds,List.mem_cons,List.mem_append,List.not_mem_nil,or_false] at hP
  rcases hP with rfl | hP | rfl | rfl | rfl | rfl
  ·exact aR l c4
  ·exact jt hm.oct _ P hP
  ·exact aR l c4
  ·exact aR l c4
  ·exact aR (ku l) c4
  ·exact aR (ku l) c4
 | leave=>
  simp only [Row.nds,List.mem_cons,List.mem_append,List.not_mem_nil,or_false] at hP
  have l2:(m.R.set 4 (rg m.R 5)).length=16:=by simp [l]
  rcases hP with rfl | rfl | rfl | hP | rfl | rfl | rfl
  ·exact aR l c5
  ·exact aR l c4
  ·exact aR l2 c4
  ·exact jt hm.oct _ P hP
  ·exact aR l2 c4
  ·exact aR l2 c4
  ·exact aR (ku l2) c5
 | jrcxz rel=>
  simp only [Row.nds,List.mem_cons,List.not_mem_nil,or_false] at hP
  subst hP; exact aR l c1
theorem uc (p:Params){m:M}(hm:MOk m)(begin len:Int)(nm:Nat→Str){row:Row}(hr:lH row) :
  ∀ q∈(cq p m.R m.f m.n m.rip begin len nm row).paths (.next,[],⟨[],0⟩),(∀ a∈q.asm,a)→(∀ x∈q.nd,x)∧q.res.1=.ret (.ref 10)∧trim 8 q.res.2.2.σ=mH (row.go len m) m.rip++rpH:=by
 intro q hq ha
 have key:(q.asm,q.nd,q.res.1,trim 8 q.res.2.2.σ)∈(cq p m.R m.f m.n m.rip begin len nm row).tr 8:=List.mem_map.mpr ⟨q,hq,rfl⟩
 have one:∀ {nds:List Prop},nds=(m.rip=m.rip)::(m.rip=m.rip)::Row.nds m.R m.f m.n m.rip row→∀ x∈nds,x:=by
  rintro nds rfl x hx
  rcases aJ hx with rfl | hx
  ·rfl
  ·rcases aJ hx with rfl | hx
   ·rfl
   ·exact CF hm hr x hx
 have std:(cq p m.R m.f m.n m.rip begin len nm row).tr 8=[([],(m.rip=m.rip)::(m.rip=m.rip)::Row.nds m.R m.f m.n m.rip row,.ret (.ref 10),mH (Row.go len ⟨m.R,m.f,m.n,m.rip⟩ row) m.rip++rpH)]→
   (∀ x∈q.nd,x)∧q.res.1=.ret (.ref 10)∧trim 8 q.res.2.2.σ=mH (row.go len m) m.rip++rpH:=by
  intro e
  rw [e,List.mem_singleton] at key
  obtain ⟨_,key⟩:=Prod.mk.inj key
  obtain ⟨k2,key⟩:=Prod.mk.inj key
  obtain ⟨k3,k4⟩:=Prod.mk.inj key
  exact ⟨one k2,k3,k4⟩
 cases row with
 | push k=>exact std (yJ ..)
 | pop k=>exact std (BW ..)
 | movR d s=>exact std (yK ..)
 | movI d i=>exact std (yM ..)
 | lea d b i sc far=>exact std (BX ..)
 | leaB d b far=>exact std (yN ..)
 | movM d b far=>exact std (yL ..)
 | call rel=>exact std (yO ..)
 | ret=>exact std (BV ..)
 | retI i=>exact std (yI ..)
 | leave=>exact std (vt ..)
 | jrcxz rel=>
  rw [vu] at key
  rcases aJ key with key | key
  ·obtain ⟨k1,key⟩:=Prod.mk.inj key
   obtain ⟨k2,key⟩:=Prod.mk.inj key
   obtain ⟨k3,k4⟩:=Prod.mk.inj key
   refine ⟨one k2,k3,?_⟩
   have c:(rg m.R 1 == 0)=true:=ha _ (by rw [k1]; exact .head _)
   rw [k4]
   simp only [Row.go,mH,c,if_true]
  ·obtain ⟨k1,key⟩:=Prod.mk.inj (ak key)
   obtain ⟨k2,key⟩:=Prod.mk.inj key
   obtain ⟨k3,k4⟩:=Prod.mk.inj key
   refine ⟨one k2,k3,?_⟩
   have c:(rg m.R 1 == 0)=false:=ha _ (by rw [k1]; exact .head _)
   rw [k4]
   simp only [Row.go,mH,c,Bool.false_eq_true,if_false]
section
noncomputable def sH (F:Fz)(a:Addr)(len:Int)(row:Row):Prop:=∃ (nm:Nat→Str) (τ:Rho),τ.length=8∧(∃ d,τ[0]?=some (a,d))∧∀ ρ₀:Rho,ρ₀.length=10→∀ e∈lM len nm row,∃ o,e.2=.ro o∧∃ q,(ρ₀++τ)[e.1]?=some q∧∀ h',F.le h'→OkO (ρ₀++τ) h' q o
noncomputable abbrev Prg:=Int→Option (Int×Row)
noncomputable def dB (F:Fz)(pa:Addr)(P:Prg):Prop:=pa≠sysModules∧∃ kvs:List (Int×Value),(∀ h,F.le h→h.DictOf (intKind prog w) pa kvs)∧∀ i len row,P i=some (len,row)→lH row∧∃ a,valueAt kvs i=some (.ref a)∧sH F a len row
noncomputable def iM (p:Params)(F:Fz)(av pa:Addr):Prop:=∃ fd cell,(∀ h,F.le h→sK h av fd ["some"] (cT p))∧fd.scope=bh p∧fd.closure.lookup ("program" : Str)=some cell∧∃ o,F cell=some o∧o.data=.cell (some (.ref pa))
end
section
theorem yn (m:M)(b:Int):gt 8 (mH m b++rpH)=true:=by rfl'
theorem ud (p:Params)(R:List Int)(f:Int→Int)(n:Nat)(rip begin len:Int)(nm:Nat→Str)(row:Row):cq p R f n rip begin len nm row =
 (ev (an p) noX 200).ss ⟨bh p,[("program",9)],30⟩ [("some",.ref 0)] (cT p) ⟨stH R f n rip begin++((7,.list [.int 18446744073709551600])::(8,.ro (.kdict rip (.ref 10)))::(9,.ro (.cell (some (.ref 8))))::lM len nm row),21⟩:=by unfold cq; rfl
theorem yp {m:M}{begin:Int}{av pa sa sd:Addr}{P:Prg}{len:Int}{row:Row}{Q:Value→Shared→Prop}(rm:aj 31 A)(at':At F ρ ⟨mH m begin++rpH,8⟩ s)(hm:MOk m)(adv:iM p F av pa)(pr:dB F pa P)(hrow:P m.rip=some (len,row))(hs:ρ[0]?=some (sa,sd))
  (h:∀ F' s' v,To [] F ρ ⟨mH m begin++rpH,8⟩ s F' ρ ⟨mH (row.go len m) m.rip++rpH,8⟩ s'→Q v s'):wpAny (model prog w) A (call (.ref av) [.ref sa]) Q E s:=by
 obtain ⟨hne,kvs,hkv,hP⟩:=pr
 obtain ⟨hok,ra,hra,nm,τ,hτ,⟨rd,hrd⟩,hro⟩:=hP _ _ _ hrow
 obtain ⟨fd,cell,hfn,hsc,hcl,oc,hoc,hdc⟩:=adv
 have hlen:ρ.length=8:=at'.len
 let τ₀:Rho:=(pa,0)::(cell,0)::(τ++[(0,0),(0,0),(0,0)])
 have e0:ρ++τ₀=(ρ++[(pa,0),(cell,0)]++τ)++[(0,0),(0,0),(0,0)]:=by simp [τ₀]
 have g8:(ρ++τ₀)[8]?=some (pa,0):=by rw [List.getElem?_append_right (by omega),hlen]; rfl
 have g9:(ρ++τ₀)[9]?=some (cell,0):=by rw [List.getElem?_append_right (by omega),hlen]; rfl
 have g10:(ρ++τ₀)[10]?=some (ra,rd):=by
  rw [List.getElem?_append_right (by omega),hlen]
  show (τ++_)[0]?=_
  rw [List.getElem?_append_left (by omega)]; exact hrd
 have T₁:To [] F ρ ⟨mH m begin++rpH,8⟩ s F (ρ++τ₀) ⟨(mH m begin++rpH)++((8,.ro (.kdict m.rip (.ref 10)))::(9,.ro (.cell (some (.ref 8))))::lM len nm row),21⟩ s:=by
  refine at'.ros τ₀ (by simp [τ₀,hτ,hlen]) fun e he=>?_
  rcases aJ he with rfl | he
  ·refine ⟨_,rfl,_,g8,fun h' hh=>⟨hne,kvs,hkv h' hh,?_⟩⟩
   rw [hra]; exact ⟨_,g10,rfl⟩
  ·rcases aJ he with rfl | he
   ·exact ⟨_,rfl,_,g9,fun h' hh=>⟨oc,_,hh _ _ hoc,hdc,⟨_,g8,rfl⟩⟩⟩
   ·obtain ⟨o,eo,q,hq,O⟩:=hro (ρ++[(pa,0),(cell,0)]) (by simp [hlen]) e he
    refine ⟨o,eo,q,?_,fun h' hh=>?_⟩
    ·rw [e0]; exact bx hq
    ·rw [e0]; exact (O h' hh).mono
 have e1:(mH m begin++rpH)++((8,SO.ro (.kdict m.rip (.ref 10)))::(9,.ro (.cell (some (.ref 8))))::lM len nm row)=stH m.R m.f m.n m.rip begin++((7,.list [.int 18446744073709551600])::(8,.ro (.kdict m.rip (.ref 10)))::(9,.ro (.cell (some (.ref 8))))::lM len nm row):=by
  simp [mH,rpH,List.append_assoc]
 rw [e1] at T₁
 have hcells:∀ x k,af x [(("program" : Str),9)]=some k→∃ q,(ρ++τ₀)[k]?=some q∧fd.closure.lookup x=some q.1:=by
  intro x k z
  unfold af at z
  split at z
  ·rename_i hx
   cases z
   rw [aQ] at hx; subst hx
   exact ⟨_,g9,hcl⟩
  ·cases z
 refine gj (d:=30) (args:=[.ref 0]) (cells:=[("program",9)]) rm T₁.at' (hfn _ T₁.at'.rep.le) hcells (.cons ⟨(sa,sd),bx hs,rfl⟩ .nil) rfl fun env s₀ T₂ fm nw rm' _=>?_
 rw [hsc] at fm
 have fm₁:Fm F (ρ++τ₀) (stH m.R m.f m.n m.rip begin++((7,.list [.int 18446744073709551600])::(8,.ro (.kdict m.rip (.ref 10)))::(9,.ro (.cell (some (.ref 8))))::lM len nm row)) ⟨bh p,[("program",9)],30⟩ env [("some",.ref 0)] s₀.heap:=fm
 obtain ⟨v,hv⟩:∃ v,v=ev (an p) noX 200:=⟨_,rfl⟩
 have S:aG v:=hv▸bW cb 200
 refine S.ss rm' T₂.at' fm₁ ?_
 have er:cq p m.R m.f m.n m.rip begin len nm row=v.ss ⟨bh p,[("program",9)],30⟩ [("some",.ref 0)] (cT p) ⟨stH m.R m.f m.n m.rip begin++((7,.list [.int 18446744073709551600])::(8,.ro (.kdict m.rip (.ref 10)))::(9,.ro (.cell (some (.ref 8))))::lM len nm row),21⟩:=by
  rw [hv]; exact ud ..
 have hp:=uc p hm begin len nm hok
 rw [er] at hp
 clear er
 refine Res.ok_paths (.next,[],⟨[],0⟩) fun q hq ha=>?_
 obtain ⟨h1,h2,h3⟩:=hp q hq ha
 refine ⟨h1,fun F' ρ' s' fl T₃ fm' hfl=>?_⟩
 have T:=((T₁.trans T₂).nil (X:=[env.locals])).trans T₃
 have T:=T.leave nw
 obtain ⟨τ',eτ⟩:=T.ext.pre
 rw [eτ] at T
 have T':=T.trim hlen (by rw [h3]; exact yn _ _) ⟨[],by simp⟩
 rw [h3] at T'
 exact h F' s' _ T'
end
end
section
noncomputable def bK (p:Params)(a:Addr):List Stmt:=gm ((an p).lookup a)
noncomputable def aK (p:Params)(a:Addr):Scope:=db ((an p).lookup a) default
noncomputable def goL (av:Addr)(N i:Int):Loc:=[("state",.ref 0),("most",.uint N),("places",.ref 7),("advance",.sta av),("count",.uint i)]
noncomputable def xB (p:Params):Expr:=BN (ad 1 (bK p 550))
noncomputable def dZ (p:Params):List Stmt:=ah (ad 1 (bK p 550))
noncomputable def kS (r:Res (Bool×St)):List (List Prop×List Prop×Bool×St):=(r.paths (true,⟨[],0⟩)).map fun q=>(q.asm,q.nd,q.res)
noncomputable def aq (r:Res (Fl×Loc×St)):List (List Prop×List Prop×Fl×Loc×St):=(r.paths (.next,[],⟨[],0⟩)).map fun q=>(q.asm,q.nd,q.res)
noncomputable def am (r:Res (SV×St)):List (List Prop×List Prop×SV×St):=(r.paths (.none,⟨[],0⟩)).map fun q=>(q.asm,q.nd,q.res)
end
section
theorem cX {α:Type}{P:α→Prop}(d:α){r:Res α}{L:List (List Prop×List Prop×α)}(e:((r.paths d).map fun q=>(q.asm,q.nd,q.res))=L)(h:∀ x∈L,(∀ a∈x.1,a)→(∀ n∈x.2.1,n)∧P x.2.2):r.Ok P:=
 Res.ok_paths d fun q hq ha=>h (q.asm,q.nd,q.res) (by rw [←e]; exact List.mem_map.mpr ⟨q,hq,rfl⟩) ha
theorem ac {α:Type}{P:α→Prop}(d:α){r:Res α}{nd:List Prop}{x:α}(e:((r.paths d).map fun q=>(q.asm,q.nd,q.res))=[([],nd,x)])(hn:∀ n∈nd,n)(h:P x):r.Ok P:=
 cX d e fun y hy _=>by rw [List.mem_singleton] at hy; subst hy; exact ⟨hn,h⟩
theorem fM {α:Type}{P:α→Prop}(d:α){r:Res α}{A B:Prop}{x y:α}(e:((r.paths d).map fun q=>(q.asm,q.nd,q.res))=[([A],[],x),([B],[],y)])(h:A→P x)(k:B→P y):r.Ok P:=
 cX d e fun z hz ha=>by
  rcases aJ hz with rfl | hz
  ·exact ⟨noP,h (ha _ (.head _))⟩
  ·rw [List.mem_singleton] at hz; subst hz
   exact ⟨noP,k (ha _ (.head _))⟩
section
variable {st₂:St}
noncomputable def tW (F:Fz)(a:Addr):Prop:=∀ h,F.le h→∃ k,(k=Keeper.frame∨k=Keeper.machine∨k=Keeper.boundFrame)∧Looks (model prog w) h (keeperOf (.ref a)) k
theorem Ei (at':At F ρ st s){a:Addr}(h:keepIn K (.ref a)=true):tW F a:=fun h' hh=>keeps_K h h' (at'.rep.wd h' hh).inK
theorem xg {a:Addr}{o:Obj}{fd:FuncData}(ho:F a=some o)(hd:o.data=.func fd):tW F a:=fun h hh=>⟨.frame,.inl rfl,(Looks.ld (part:=none) (hh _ _ ho)).andThen (by rw [hd]; exact .now)⟩
theorem mO {v:Ev}(S:aG v){f:Expr}{args:List Expr}{pos:Pos}{a:Addr}{svs:List SV}{Q:Value→Shared→Prop}(rm:aj cx.d A)(at':At F ρ st s)(fm:Fm F ρ st.σ cx env m s.heap)(hst:noStar args=true)(hna:∀ o x p,f≠.Attribute o x p)
  (hk:tW F a) (h1:(v.e cx m f st).Ok fun r=>r=(.sta a,st₁)) (h2:(v.es cx m args st₁).Ok fun r=>r=(svs,st₂))
  (h:∀ F' ρ' s' vs,To [] F ρ st s F' ρ' st₂ s'→ag (SV.Is ρ') svs vs→wpAny (model prog w) A (call (.ref a) vs) Q E s'):wpAny (model prog w) A (eval (.Call f args [] pos) env) Q E s:=by
 have nl:=@noA env.locals
 have e0:eval (.Call f args [] pos) env=(do callWith pos (←eval f env) [] (backTo pos (starEach args env)) (backToKw pos (keywordEach [] env))):=by
  cases f<;>first | rfl | exact absurd rfl (hna _ _ _)
 rw [e0]
 refine wpAny_bind (S.e rm at' fm (h1.mono fun r er F₁ ρ₁ s₁ v₁ T₁ i₁=>?_))
 subst er
 cases i₁
 refine callWith_of (P:=fun h=>F.le h) ?_ hk (ch hst ?_)
 ·rw [aY hst]; rfl
 ·refine S.es rm T₁.at' (fm.to T₁ nl) (h2.mono fun r er F₃ ρ₃ s₃ vs₃ T₃ i₃=>?_)
  subst er
  have T:=T₁.trans T₃
  exact ⟨fun c o e=>T.at'.rep.le c o (T.ext.fz c o e),h F₃ ρ₃ s₃ vs₃ T i₃⟩
theorem Fm.conv {m':Loc}{h:Heap}{σ:Hp}(fm:Fm F ρ σ cx env m h)(hc:∀ x sv',af x m'=some sv'→∃ sv,af x m=some sv∧∀ v,sv.Is ρ v→sv'.Is ρ v):Fm F ρ σ cx env m' h:=by
 obtain ⟨g,hg,hr⟩:=fm.ns
 exact ⟨fm.eok,⟨g,hg,fun x sv' e=>let ⟨sv,e',k⟩:=hc x sv' e; let ⟨v,hv,i⟩:=hr x sv e'; ⟨v,hv,k v i⟩⟩,fm.out,fm.free⟩
end
section
noncomputable def Fz.Sub (F F':Fz):Prop:=∀ a o,F a=some o→F' a=some o
theorem sH.mono {a:Addr}{len:Int}{row:Row}(h:sH F a len row)(k:F.Sub F'):sH F' a len row:=by
 obtain ⟨nm,τ,h1,h2,h3⟩:=h
 refine ⟨nm,τ,h1,h2,fun ρ₀ hρ e he=>?_⟩
 obtain ⟨o,eo,q,hq,O⟩:=h3 ρ₀ hρ e he
 exact ⟨o,eo,q,hq,fun h' hh=>O h' fun c x e=>hh c x (k c x e)⟩
theorem dB.mono {pa:Addr}{P:Prg}(h:dB F pa P)(k:F.Sub F'):dB F' pa P:=by
 obtain ⟨hn,kvs,h1,h2⟩:=h
 refine ⟨hn,kvs,fun h' hh=>h1 h' fun c x e=>hh c x (k c x e),fun i len row e=>?_⟩
 obtain ⟨ok,a,ha,hr⟩:=h2 i len row e
 exact ⟨ok,a,ha,hr.mono k⟩
theorem iM.mono {av pa:Addr}(h:iM p F av pa)(k:F.Sub F'):iM p F' av pa:=by
 obtain ⟨fd,cell,h1,h2,h3,o,h4,h5⟩:=h
 exact ⟨fd,cell,fun h' hh=>h1 h' fun c x e=>hh c x (k c x e),h2,h3,o,k _ _ h4,h5⟩
theorem iM.keeps {av pa:Addr}(h:iM p F av pa):tW F av:=fun h' hh=>by
 obtain ⟨fd,cell,h1,_⟩:=h
 obtain ⟨o,ho,hd⟩:=(h1 h' hh).fn.obj
 exact ⟨.frame,.inl rfl,(Looks.ld (part:=none) ho).andThen (by rw [hd]; exact .now)⟩
noncomputable def RP:Int:=18446744073709551600
inductive cZ (P:Prg):Nat→M→M→Prop
 | nil (m:M):cZ P 0 m m
 | cons {n:Nat} {m m':M} {len:Int} {row:Row}:MOk m→P m.rip=some (len,row)→(n=0∨(row.go len m).rip≠RP)→cZ P n (row.go len m) m'→cZ P (n+1) m m'
noncomputable abbrev LS:=List (List Prop×List Prop×Fl×Loc×St)
noncomputable abbrev LB:=List (List Prop×List Prop×Bool×St)
noncomputable abbrev LE:=List (List Prop×List Prop×SV×St)
noncomputable abbrev LEs:=List (List Prop×List Prop×List SV×St)
section
variable (p:Params)(m:M)(b:Int)(av:Addr)(N i:Int)
noncomputable abbrev lU (p:Params):Cx:=⟨aK p 550,[],32⟩
noncomputable abbrev d3 (m:M)(b:Int):St:=⟨mH m b++rpH,8⟩
theorem Ap:bK p 550=ad 0 (bK p 550)::.While (xB p) (dZ p) [] (aS (ad 1 (bK p 550)))::(bK p 550).drop 2:=by rfl'
theorem Am:dZ p=.Expr (.Call (caF (aI (ad 0 (dZ p)))) (caA (aI (ad 0 (dZ p)))) [] (ao (aI (ad 0 (dZ p))))) (aS (ad 0 (dZ p)))::(dZ p).drop 1:=by rfl'
theorem DL:fQ (an p) 550=true:=by rfl'
theorem p5:bj ((an p).lookup 550)=(["state","most","places","advance"]:List Str):=by rfl'
theorem An:noStar (caA (aI (ad 0 (dZ p))))=true:=by rfl'
noncomputable def bG (e:Expr):Bool:=Nat.beq e.ctorIdx 20
theorem a8 {f:Expr}(h:bG f=false):∀ o x q,f≠.Attribute o x q:=fun _ _ _ e=>by subst e; exact eqT h.symm
theorem Aq:bG (caF (aI (ad 0 (dZ p))))=false:=by rfl'
theorem Jp:∀ v:Ev,v=ev (an p) noX 50→aq (v.s (lU p) [("state",.ref 0),("most",.uint N),("places",.ref 7),("advance",.sta av)] (ad 0 (bK p 550)) (d3 m b))=([([],[],.next,[("state",.ref 0),("most",.uint N),("places",.ref 7),("advance",.sta av),("count",.int 0)],d3 m b)]:LS):=by rintro _ rfl; rfl'
theorem Jo:∀ v:Ev,v=ev (an p) noX 50→kS (v.t (lU p) (goL av N i) (xB p) (d3 m b))=([([decide (i<N)=true],[],true,d3 m b),([decide (i<N)=false],[],false,d3 m b)]:LB):=by rintro _ rfl; rfl'
theorem Jn:∀ v:Ev,v=ev (an p) noX 50→am (v.e (lU p) (goL av N i) (caF (aI (ad 0 (dZ p)))) (d3 m b))=([([],[],.sta av,d3 m b)]:LE):=by rintro _ rfl; rfl'
theorem Jm:∀ v:Ev,v=ev (an p) noX 50→((v.es (lU p) (goL av N i) (caA (aI (ad 0 (dZ p)))) (d3 m b)).paths ([],⟨[],0⟩)).map (fun q=>(q.asm,q.nd,q.res))=([([],[],[.ref 0],d3 m b)]:LEs):=by rintro _ rfl; rfl'
theorem Jl:∀ v:Ev,v=ev (an p) noX 50→aq (v.ss (lU p) (goL av N i) ((dZ p).drop 1) (d3 m b))=([([([RP].any fun x=>x == m.rip)=true],[],.brk,goL av N (i+1),d3 m b),([([RP].any fun x=>x == m.rip)=false],[],.next,goL av N (i+1),d3 m b)]:LS):=by rintro _ rfl; rfl'
theorem Jk:∀ v:Ev,v=ev (an p) noX 50→aq (v.ss (lU p) (goL av N i) ((bK p 550).drop 2) (d3 m b))=([([],[],.ret (.uint i),goL av N i,d3 m b)]:LS):=by rintro _ rfl; rfl'
end
noncomputable def GoI (P:Prg)(N:Nat)(m':M)(b:Int)(m:M)(env:Env)(av:Addr)(F:Fz)(ρ:Rho)(s₀:Shared)(k:Nat)(s:Shared):Prop:=
 ∃ (i:Nat) (c:M) (b':Int) (F':Fz),i+k=N∧Fm F' ρ (mH c b'++rpH) (lU p) env (goL av N (i:Nat)) s.heap∧To [env.locals] F ρ (d3 m b) s₀ F' ρ (d3 c b') s∧cZ P k c m'
theorem eM {X:List Addr}{F F':Fz}{ρ':Rho}{st:St}{c:M}{b:Int}{s':Shared}(T:To X F ρ st s F' ρ' (d3 c b) s')(hl:ρ.length=8):ρ=ρ':=by
 obtain ⟨τ,e⟩:=T.ext.pre
 have:ρ'.length=8:=T.at'.len
 rw [e,List.length_append,hl] at this
 have:τ=[]:=List.length_eq_zero_iff.mp (by omega)
 rw [e,this,List.append_nil]
theorem Ef {r:Int}(h:([RP].any fun x=>x == r)=true):r=RP:=by
 rw [List.any_cons,List.any_nil,Bool.or_false] at h
 exact (eq_of_beq h).symm
set_option maxHeartbeats 2000000 in
theorem Ao {m m':M}{b:Int}{av pa sa sd la ld:Addr}{P:Prg}{N:Nat}{t:Tok}{Q:Value→Shared→Prop}(rm:aj 33 A)(at':At F ρ (d3 m b) s)(adv:iM p F av pa)(pr:dB F pa P)(tr:cZ P N m m')(hs:ρ[0]?=some (sa,sd))(hl:ρ[7]?=some (la,ld))
  (h:∀ F' s' v b',To [] F ρ (d3 m b) s F' ρ (d3 m' b') s'→Q v s'):wpAny (model prog w) A (call (.ref 550) [.ref sa,.int N t,.ref la,.ref av]) Q E s:=by
 have hlen:ρ.length=8:=at'.len
 refine dR (d:=32) (args:=[.ref 0,.uint N,.ref 7,.sta av]) (DL p) rm at' (.cons ⟨_,hs,rfl⟩ (.cons ⟨t,rfl⟩ (.cons ⟨_,hl,rfl⟩ (.cons rfl .nil)))) (by rw [p5]; rfl) fun env s₀ T₀ fm₀ nw rm'=>?_
 obtain ⟨v,hv⟩:∃ v,v=ev (an p) noX 50:=⟨_,rfl⟩
 have S:aG v:=hv▸bW cb 50
 rw [p5] at fm₀
 have fm₁:Fm F ρ (mH m b++rpH) (lU p) env [("state",.ref 0),("most",.uint N),("places",.ref 7),("advance",.sta av)] s₀.heap:=fm₀
 have nl:=@noA env.locals
 show wpAny _ _ (execs (bK p 550) env) _ _ _
 rw [Ap]
 refine wpAny_execs_cons (S.s rm' T₀.at' fm₁ (ac _ (Jp p m b av N v hv) noP fun F₁ ρ₁ s₁ f₁ T₁ fm₁ hf=>?_))
 cases hf
 dsimp only at T₁ fm₁ ⊢
 have T₁:=(T₀.nil (X:=[env.locals])).trans T₁
 have e1:=eM T₁ hlen
 subst e1
 have fm₁:Fm F₁ ρ (mH m b++rpH) (lU p) env (goL av N ((0:Nat):Int)) s₁.heap:=fm₁.conv fun x sv' e=>by
  unfold goL at e
  simp only [af] at e ⊢
  split at e
  ·exact ⟨_,e,fun _ z=>z⟩
  ·split at e
   ·exact ⟨_,e,fun _ z=>z⟩
   ·split at e
    ·exact ⟨_,e,fun _ z=>z⟩
    ·split at e
     ·exact ⟨_,e,fun _ z=>z⟩
     ·split at e
      ·cases e; exact ⟨_,rfl,fun _ z=>z⟩
      ·cases e
 refine wpAny_execs_cons (wpAny_While ?_)
 have last:∀ {i:Int} {b':Int} {F':Fz} {s':Shared},Fm F' ρ (mH m' b'++rpH) (lU p) env (goL av N i) s'.heap→To [env.locals] F ρ (d3 m b) s F' ρ (d3 m' b') s'→
   wpAny (model prog w) (A.deeper env) (execs ((bK p 550).drop 2) env) (fun fl s'=>Q (iS fl) s') (pi A env E) s':=by
  intro i b' F' s' fm' T'
  refine S.ss rm' T'.at' fm' (ac _ (Jk p m' b' av N i v hv) noP fun F₁ ρ₁ s₁ f₁ T₁ fm₁ hf=>?_)
  have e1:=eM T₁ hlen
  subst e1
  exact h _ _ _ _ ((T'.trans T₁).leave nw)
 refine codeAny_whileLoop (GoI P N m' b m env av F ρ s) (fun k s₂ hI=>?_) N ⟨0,m,b,F₁,by omega,fm₁,T₁,tr⟩
 obtain ⟨i,c,b₂,F₂,hik,fm₂,T₂,tr₂⟩:=hI
 have tr₂':=tr₂
 refine S.t rm' T₂.at' fm₂ (fM _ (Jo p c b₂ av N i v hv) (fun hlt=>?_) fun hge=>?_)
 ·-- a turn
  intro F₃ ρ₃ s₃ T₃
  dsimp only at T₃ ⊢
  rw [if_pos rfl]
  cases tr₂ with
  | nil=>exact absurd (Int.ofNat_lt.mp (of_decide_eq_true hlt)) (Nat.not_lt_of_le (Nat.le_of_eq (Eq.symm (by assumption))))
  | @cons k _ _ len row hm hrow hne htr=>
   have e3:=eM T₃ hlen
   subst e3
   have T₂₃:=T₂.trans T₃.nil
   have fm₃:=fm₂.to T₃ nl
   rw [Am]
   refine wpAny_execs_cons (wpAny_Expr_any ?_ (by unfold interactive; rw [cL fm₃.eok]; rfl) rfl)
   refine mO S rm' T₃.at' fm₃ (An p) (a8 (Aq p)) ((adv.mono (T₂₃.ext.fz)).keeps) (ac _ (Jn p c b₂ av N i v hv) noP rfl) (ac _ (Jm p c b₂ av N i v hv) noP rfl) fun F₄ ρ₄ s₄ vs T₄ ivs=>?_
   have e4:=eM T₄ hlen
   subst e4
   obtain ⟨v0,rfl,i0⟩:=ag.inv1 ivs
   cases T₄.at'.ref i0 hs
   have T₂₄:=T₂₃.trans T₄.nil
   refine yp (rm'.le) T₄.at' hm (adv.mono T₂₄.ext.fz) (pr.mono T₂₄.ext.fz) hrow hs fun F₅ s₅ _ T₅=>?_
   have T₂₅:=T₂₄.trans T₅.nil
   have fm₅:=(fm₃.to T₄ nl).to T₅ nl
   refine S.ss rm' T₅.at' fm₅ (fM _ (Jl p (row.go len c) c.rip av N i v hv) (fun hb=>?_) fun hb=>?_)
   ·intro F₆ ρ₆ s₆ f₆ T₆ fm₆ hf₆
    cases hf₆
    have e6:=eM T₆ hlen
    subst e6
    have hR:(row.go len c).rip=RP:=Ef hb
    rcases hne with rfl | hne
    ·cases htr
     exact last fm₆ (T₂₅.trans T₆)
    ·exact absurd hR hne
   ·intro F₆ ρ₆ s₆ f₆ T₆ fm₆ hf₆
    cases hf₆
    have e6:=eM T₆ hlen
    subst e6
    exact ⟨k,Nat.lt_succ_self _,i+1,_,_,F₆,by omega,fm₆,T₂₅.trans T₆,htr⟩
 ·intro F₃ ρ₃ s₃ T₃
  dsimp only at T₃ ⊢
  rw [if_neg (by simp)]
  have e3:=eM T₃ hlen
  subst e3
  cases tr₂ with
  | cons=>exact absurd (Int.ofNat_lt.mpr (by omega)) (of_decide_eq_false hge)
  | nil=>
   refine wpAny_execs_nil ?_
   have fm₃:=fm₂.to T₃ nl
   exact last fm₃ (T₂.trans T₃.nil)
end
end
section
noncomputable def il (m:M)(x:Int):M:=⟨down m.R,wrN m.f (rg (down m.R) 4) x 8,m.n+8,m.rip⟩
noncomputable def oS (m:M)(k:Int)(x:Int):M:=⟨m.R.set k.toNat (wr x),m.f,m.n,m.rip⟩
noncomputable def cbH (m:M)(b:Int)(args:List Int):Hp:=mH m b++[(7,.ro (.ilist args))]
noncomputable def cbL (av:Addr)(eN N:Int)(top:Int):Loc:=[("state",.ref 0),("place",.uint eN),("arguments",.ref 7),("most",.uint N),("advance",.sta av),("top",.uint top)]
noncomputable def qw (av:Addr)(pl N tp wo:Int):Loc:=cbL av pl N tp++([("worth",.uint wo)]:Loc)
noncomputable def oj (av:Addr)(pl N tp nu wo:Int):Loc:=cbL av pl N tp++([("number",.uint nu),("worth",.uint wo)]:Loc)
noncomputable def ck (args:List Int):List Int:=iq args (some 6) none none
noncomputable def bF (args:List Int):List Int:=iq (ck args) none none (some (-1))
noncomputable abbrev du (p:Params):Cx:=⟨aK p 557,[],34⟩
noncomputable abbrev cbB (p:Params):List Stmt:=bK p 557
noncomputable abbrev bO (m:M)(b:Int)(args:List Int):St:=⟨cbH m b args,8⟩
noncomputable def trS (n:Nat)(r:Res (Fl×Loc×St)):List (List Prop×List Prop×Fl×Loc×Hp):=(r.paths (.next,[],⟨[],0⟩)).map fun q=>(q.asm,q.nd,q.res.1,q.res.2.1,trim n q.res.2.2.σ)
noncomputable abbrev LT:=List (List Prop×List Prop×Fl×Loc×Hp)
section
variable (p:Params)(m:M)(b:Int)(args:List Int)(av:Addr)(N pl tp wo nu:Int)
theorem D8:fQ (an p) 557=true:=by rfl'
theorem xZ:bj ((an p).lookup 557)=(["state","place","arguments","most","advance"]:List Str):=by rfl'
theorem A1:cbB p=ad 0 (cbB p)::.For (aF (ad 1 (cbB p))) (aC (ad 1 (cbB p))) (ah (ad 1 (cbB p))) [] (aS (ad 1 (cbB p))) ::
  .For (aF (ad 2 (cbB p))) (aC (ad 2 (cbB p))) (ah (ad 2 (cbB p))) [] (aS (ad 2 (cbB p)))::ad 3 (cbB p)::ad 4 (cbB p) ::
  .Expr (.Call (caF (aI (ad 5 (cbB p)))) (caA (aI (ad 5 (cbB p)))) [] (ao (aI (ad 5 (cbB p))))) (aS (ad 5 (cbB p))) ::
  .If (di (ad 6 (cbB p))) (ah (ad 6 (cbB p))) [] (aS (ad 6 (cbB p)))::(cbB p).drop 7:=by rfl'
theorem JW:∀ v:Ev,v=ev (an p) noX 70→trS 8 (v.s (du p) [("state",.ref 0),("place",.uint pl),("arguments",.ref 7),("most",.uint N),("advance",.sta av)] (ad 0 (cbB p)) (bO m b args))=([([],[nI m.R 4],.next,cbL av pl N (rg m.R 4),cbH m b args)]:LT):=by rintro _ rfl; rfl'
theorem JV:∀ v:Ev,v=ev (an p) noX 70→am (v.e (du p) (cbL av pl N tp) (aC (ad 1 (cbB p))) (bO m b args))=([([],[args.length≤100000,(ck args).length≤100000],.ref 9,⟨(9,.ilist (bF args))::(8,.ilist (ck args))::cbH m b args,10⟩)]:LE):=by rintro _ rfl; rfl'
theorem JU:∀ v:Ev,v=ev (an p) noX 70→trS 8 (v.ss (du p) (qw av pl N tp wo) (ah (ad 1 (cbB p))) (bO m b args))=([([],nI m.R 4::nI m.R 4::nI (down m.R) 4::nWr m.n,.next,qw av pl N tp wo,cbH (il m wo) b args)]:LT):=by rintro _ rfl; rfl'
theorem JT:∀ v:Ev,v=ev (an p) noX 70→trS 8 (v.ss (du p) (oj av pl N tp nu wo) (ah (ad 2 (cbB p))) (bO m b args))=([([],[nI m.R nu],.next,oj av pl N tp nu wo,cbH (oS m nu wo) b args)]:LT):=by rintro _ rfl; rfl'
theorem JS:∀ v:Ev,v=ev (an p) noX 70→trS 8 (v.s (du p) (cbL av pl N tp) (ad 3 (cbB p)) (bO m b args))=([([],nI m.R 4::nI m.R 4::nI (down m.R) 4::nWr m.n,.next,cbL av pl N tp,cbH (il m RP) b args)]:LT):=by rintro _ rfl; rfl'
theorem HU:∀ v:Ev,v=ev (an p) noX 70→trS 8 (v.s (du p) (cbL av pl N tp) (ad 4 (cbB p)) (bO m b args))=([([],[],.next,cbL av pl N tp,cbH ⟨m.R,m.f,m.n,wr pl⟩ b args)]:LT):=by rintro _ rfl; rfl'
theorem JR:∀ v:Ev,v=ev (an p) noX 70→am (v.e (du p) (cbL av pl N tp) (caF (aI (ad 5 (cbB p)))) (bO m b args))=([([],[],.sta 550,bO m b args)]:LE):=by rintro _ rfl; rfl'
theorem JQ:∀ v:Ev,v=ev (an p) noX 70→((v.es (du p) (cbL av pl N tp) (caA (aI (ad 5 (cbB p)))) (bO m b args)).paths ([],⟨[],0⟩)).map (fun q=>(q.asm,q.nd,q.res))=([([],[],[.ref 0,.uint N,.ref 8,.sta av],⟨(8,.list [.int RP])::cbH m b args,9⟩)]:LEs):=by rintro _ rfl; rfl'
theorem HT:∀ v:Ev,v=ev (an p) noX 70→kS (v.t (du p) (cbL av pl N tp) (di (ad 6 (cbB p))) (bO m b args))=([([(m.rip != RP)=true],[],true,bO m b args),([(m.rip != RP)=false],[],false,bO m b args)]:LB):=by rintro _ rfl; rfl'
theorem JP:∀ v:Ev,v=ev (an p) noX 70→trS 8 (v.ss (du p) (cbL av pl N tp) ((cbB p).drop 7) (bO m b args))=([([],[nI m.R 4,nI (m.R.set 4 tp) 0],.ret (.uint (rg (m.R.set 4 tp) 0)),cbL av pl N tp,cbH ⟨m.R.set 4 tp,m.f,m.n,m.rip⟩ b args)]:LT):=by rintro _ rfl; rfl'
end
end
section
section
noncomputable def lh (n:Nat)(m:Loc):Bool:=m.all fun p=>jO n p.2
noncomputable def xT (n:Nat)(c:List (Str×Nat)):Bool:=c.all fun p=>Nat.blt p.2 n
theorem Fm.trim {h:Heap}{σ:Hp}(fm:Fm F (ρ++τ) σ cx env m h){n:Nat}(hn:ρ.length=n)(l:lh n m=true)(c:xT n cx.cells=true):Fm F ρ (Mine.trim n σ) cx env m h:=by
 subst hn
 obtain ⟨g,hg,hr⟩:=fm.ns
 refine ⟨?_,⟨g,hg,fun x sv e=>?_⟩,fun z=>?_,fm.free⟩
 ·refine ⟨fm.eok.sc,fm.eok.gl,fm.eok.bu,fm.eok.kd,fun x n y=>?_⟩
  obtain ⟨p,hp,hl⟩:=fm.eok.cel x n y
  obtain ⟨y',hy'⟩:=gH y
  have:=dQ c _ hy'
  have:n<ρ.length:=cC this
  rw [List.getElem?_append_left this] at hp
  exact ⟨p,hp,hl⟩
 ·obtain ⟨v,hv,i⟩:=hr x sv e
  obtain ⟨y',hy'⟩:=gH e
  exact ⟨v,hv,i.cut (dQ l _ hy')⟩
 ·refine fm.out ((i8 iQ fun e he=>?_).subset z)
  rw [List.getElem?_append_left (eJ he).2]
theorem my {P:Fl×Loc×St→Prop}{n:Nat}{r:Res (Fl×Loc×St)}{nd:List Prop}{fl:Fl}{L:Loc}{σ:Hp}(e:trS n r=[([],nd,fl,L,σ)])(hn:∀ x∈nd,x)(h:∀ st',Mine.trim n st'.σ=σ→P (fl,L,st')):r.Ok P:=by
 refine Res.ok_paths (.next,[],⟨[],0⟩) fun q hq ha=>?_
 have key:(q.asm,q.nd,q.res.1,q.res.2.1,Mine.trim n q.res.2.2.σ)∈trS n r:=List.mem_map.mpr ⟨q,hq,rfl⟩
 rw [e,List.mem_singleton] at key
 obtain ⟨_,key⟩:=Prod.mk.inj key
 obtain ⟨k2,key⟩:=Prod.mk.inj key
 obtain ⟨k3,key⟩:=Prod.mk.inj key
 obtain ⟨k4,k5⟩:=Prod.mk.inj key
 refine ⟨by rw [k2]; exact hn,?_⟩
 have:=h q.res.2.2 k5
 rw [←k3,←k4] at this
 exact this
theorem wi {v:Ev}(S:aG v){sts:List Stmt}{n:Nat}{nd:List Prop}{fl:Fl}{L:Loc}{σ σ':Hp}{Q:Flow→Shared→Prop}(rm:aj cx.d A)(at':At F ρ ⟨σ,n⟩ s)(fm:Fm F ρ σ cx env m s.heap)
  (e:trS n (v.ss cx m sts ⟨σ,n⟩)=[([],nd,fl,L,σ')]) (hn:∀ x∈nd,x) (hl:gt n σ'=true) (hL:lh n L=true) (hc:xT n cx.cells=true)
  (h:∀ F' ρ' s' f,To [env.locals] F ρ ⟨σ,n⟩ s F' ρ ⟨σ',n⟩ s'→Fm F' ρ σ' cx env L s'.heap→fl.Is (ρ++ρ') f→Q f s'):wpAny (model prog w) A (execs sts env) Q E s:=by
 have hlen:ρ.length=n:=at'.len
 refine S.ss rm at' fm (my e hn fun st' et F' ρ' s' f T fm' hf=>?_)
 obtain ⟨τ,eτ⟩:=T.ext.pre
 subst eτ
 have T':=T.trim hlen (by rw [et]; exact hl) ⟨[],by simp⟩
 rw [et] at T'
 have fm'':=fm'.trim hlen hL hc
 dsimp only at fm''
 rw [et] at fm''
 exact h F' τ s' f T' fm'' hf
theorem iB {v:Ev}(S:aG v){stm:Stmt}{n:Nat}{nd:List Prop}{fl:Fl}{L:Loc}{σ σ':Hp}{Q:Flow→Shared→Prop}(rm:aj cx.d A)(at':At F ρ ⟨σ,n⟩ s)(fm:Fm F ρ σ cx env m s.heap)
  (e:trS n (v.s cx m stm ⟨σ,n⟩)=[([],nd,fl,L,σ')]) (hn:∀ x∈nd,x) (hl:gt n σ'=true) (hL:lh n L=true) (hc:xT n cx.cells=true)
  (h:∀ F' ρ' s' f,To [env.locals] F ρ ⟨σ,n⟩ s F' ρ ⟨σ',n⟩ s'→Fm F' ρ σ' cx env L s'.heap→fl.Is (ρ++ρ') f→Q f s'):wpAny (model prog w) A (exec stm env) Q E s:=by
 have hlen:ρ.length=n:=at'.len
 refine S.s rm at' fm (my e hn fun st' et F' ρ' s' f T fm' hf=>?_)
 obtain ⟨τ,eτ⟩:=T.ext.pre
 subst eτ
 have T':=T.trim hlen (by rw [et]; exact hl) ⟨[],by simp⟩
 rw [et] at T'
 have fm'':=fm'.trim hlen hL hc
 dsimp only at fm''
 rw [et] at fm''
 exact h F' τ s' f T' fm'' hf
end
end
section
noncomputable def pushes (m:M):List Int→M
 | []=>m
 | x::r=>pushes (il m x) r
noncomputable def eK (m:M):List (Int×Int)→M
 | []=>m
 | x::r=>eK (oS m x.1 x.2) r
noncomputable def cw:List Int:=[7,6,2,1,8,9]
noncomputable def cY (m:M)(args:List Int)(pl:Int):M:=
 let c:=il (eK (pushes m (bF args)) (cw.zip args)) RP
 ⟨c.R,c.f,c.n,wr pl⟩
theorem lN (m:M):∀ (a b:List Int),pushes m (a++b)=pushes (pushes m a) b:=by
 intro a
 induction a generalizing m with
 | nil=>intro b; rfl
 | cons x r ih=>intro b; exact ih (il m x) b
theorem na (m:M):∀ (a b:List (Int×Int)),eK m (a++b)=eK (eK m a) b:=by
 intro a
 induction a generalizing m with
 | nil=>intro b; rfl
 | cons x r ih=>intro b; exact ih (oS m x.1 x.2) b
theorem iA {m:M}(h:m.R.length=16):∀ l,(pushes m l).R.length=16:=by
 intro l
 induction l generalizing m with
 | nil=>exact h
 | cons x r ih=>exact ih (m:=il m x) (jd h)
theorem kM {m:M}:∀ l,(pushes m l).n=m.n+8*l.length:=by
 intro l
 induction l generalizing m with
 | nil=>rfl
 | cons x r ih=>show (pushes (il m x) r).n=_; rw [ih]; show m.n+8+8*r.length=_; simp; omega
theorem mh {m:M}(h:m.R.length=16):∀ l,(eK m l).R.length=16:=by
 intro l
 induction l generalizing m with
 | nil=>exact h
 | cons x r ih=>exact ih (m:=oS m x.1 x.2) (by simp [oS,h])
theorem sU {m:M}:∀ l,(eK m l).n=m.n:=by
 intro l
 induction l generalizing m with
 | nil=>rfl
 | cons x r ih=>exact ih (m:=oS m x.1 x.2)
theorem ta {m:M}(hl:m.R.length=16)(hn:m.n+8≤100000):∀ P∈nI m.R 4::nI m.R 4::nI (down m.R) 4::nWr m.n,P:=by
 have c4:bX 4:=⟨by decide,by decide⟩
 intro P hP
 simp only [List.mem_cons] at hP
 rcases hP with rfl | rfl | rfl | hP
 ·exact aR hl c4
 ·exact aR hl c4
 ·exact aR (jd hl) c4
 ·exact lb hn P hP
theorem dl (m:M)(b:Int)(args:List Int):gt 8 (cbH m b args)=true:=by rfl'
theorem gJ (av:Addr)(pl N tp:Int):lh 8 (cbL av pl N tp)=true:=by rfl'
theorem uA (av:Addr)(pl N tp wo:Int):lh 8 (qw av pl N tp wo)=true:=by rfl'
theorem uz (av:Addr)(pl N tp nu wo:Int):lh 8 (oj av pl N tp nu wo)=true:=by rfl'
theorem vN (a b c:Int)(n:Nat)(h:sliceRange a b c=(List.range n).map (fun (k:Nat)=>(0:Nat))):True:=trivial
theorem gI {α:Type}{x:Str}{v:α}{l r:List (Str×α)}(h:af x l=some v):af x (l++r)=some v:=by
 induction l with
 | nil=>exact nos h
 | cons p l ih=>
  rw [List.cons_append,dH]
  rw [dH] at h
  by_cases c:p.1=x
  ·rw [if_pos c] at h ⊢; exact h
  ·rw [if_neg c] at h ⊢; exact ih h
theorem fV {it:Expr}(h:d7 it=false)(env:Env)(x:Value):foldedSetIterable it env x=pure x:=by
 cases it<;>first | rfl | cases h
theorem yc (p:Params):d7 (aC (ad 1 (cbB p)))=false:=by rfl'
theorem AV (p:Params):aF (ad 1 (cbB p))=.Name "worth" (ao (aF (ad 1 (cbB p)))):=by rfl'
theorem AZ (p:Params):aD (du p).sc "worth" = true:=by rfl'
theorem tT (m:M)(b:Int)(args:List Int)(x y:SO):trim 8 ((9,x)::(8,y)::cbH m b args)=cbH m b args:=by rfl'
theorem yS (av:Addr)(pl N tp wo:Int):dD "worth" (.uint wo) (cbL av pl N tp)=qw av pl N tp wo:=by rfl'
theorem vQ (av:Addr)(pl N tp wo x:Int):dD "worth" (.uint wo) (qw av pl N tp x)=qw av pl N tp wo:=by rfl'
section
theorem gb {vs:List Value}{xs:List Int}(h:IntsAre vs xs){i:Nat}{v:Value}(e:vs[i]?=some v):∃ n t,v=.int n t∧xs[i]?=some n:=by
 induction h generalizing i with
 | nil=>simp at e
 | cons n t r ih=>
  cases i with
  | zero=>simp at e; exact ⟨n,t,e.symm,rfl⟩
  | succ i=>exact ih (by simpa using e)
theorem To.apart {X:List Addr}{F':Fz}{ρ':Rho}{st st':St}{s':Shared}(T:To X F ρ st s F' ρ' st' s'){k:Nat}{o:SO}{σr:Hp}(hs:st'.σ=(k,o)::σr)(hsub:∀ a∈ae ρ st.σ,a∈ae ρ' σr){q:Addr×Addr}(hq:ρ'[k]?=some q){a:Addr}(ha:a∈aN q o) :
  s.heap.get? a=none∧a∉ae ρ st.σ∧F' a=none:=by
 have hm:a∈ae ρ' st'.σ:=by rw [hs]; exact aw.mpr ⟨_,.head _,q,hq,ha⟩
 have nd:=T.at'.rep.nodup
 rw [hs] at nd
 unfold ae at nd
 rw [hq] at nd
 have no:a∉ae ρ st.σ:=fun z=>(List.nodup_append.mp nd).2.2 a ha a (hsub a z) rfl
 refine ⟨(T.ext.new a hm).resolve_left no,no,T.at'.rep.free a hm⟩
theorem lV {ρ:Rho}{e:Nat×SO}{σ:Hp}:∀ a∈ae ρ σ,a∈ae ρ (e::σ):=fun a h=>by unfold ae; exact List.mem_append_right _ h
theorem ya {m:M}{b:Int}{args:List Int}{av:Addr}{N pl tp:Int}{Q:Flow→Shared→Prop}(rm:aj 34 A)(at':At F ρ (bO m b args) s)(fm:Fm F ρ (cbH m b args) (du p) env (cbL av pl N tp) s.heap)
  (hR:m.R.length=16) (hn:m.n+8*(bF args).length+8≤100000) (ha:args.length≤100000) (hb:(ck args).length≤100000)
  (h:∀ F' s',To [env.locals] F ρ (bO m b args) s F' ρ (bO (pushes m (bF args)) b args) s'→Fm F' ρ (cbH (pushes m (bF args)) b args) (du p) env (cbL av pl N tp) s'.heap→Q .next s') :
  wpAny (model prog w) A (exec (.For (aF (ad 1 (cbB p))) (aC (ad 1 (cbB p))) (ah (ad 1 (cbB p))) [] (aS (ad 1 (cbB p)))) env) Q E s:=by
 obtain ⟨v,hv⟩:∃ v,v=ev (an p) noX 70:=⟨_,rfl⟩
 have S:aG v:=hv▸bW cb 70
 have hlen:ρ.length=8:=at'.len
 have nl:=@noA env.locals
 refine wpAny_For (S.e rm at' fm (ac _ (JV p m b args av N pl tp v hv) (fun x hx=>by
  rcases fb hx with rfl | rfl
  ·exact ha
  ·exact hb) fun F₁ ρ₁ s₁ v₁ T₁ i₁=>?_)) (fV (yc p) env)
 obtain ⟨τ,eτ⟩:=T₁.ext.pre
 subst eτ
 dsimp only at T₁ i₁
 obtain ⟨q,hq,O⟩:=T₁.at'.rep.get (k:=9) (o:=.ilist (bF args)) rfl
 obtain ⟨vs,c,ho,hvs⟩:=O
 cases T₁.at'.ref i₁ hq
 refine wpAny_pyIter_list (au ho) ?_
 have ap:=T₁.apart (k:=9) (o:=.ilist (bF args)) rfl (fun a z=>lV a (by rw [bU at'.rep.names]; exact z)) hq (a:=q.1) (.head _)
 have T₁':=T₁.trim hlen (by rw [tT]; exact dl ..) ⟨[],by simp⟩
 dsimp only at T₁'
 rw [tT] at T₁'
 have fm₁:=fm.to T₁' nl
 have nI₁:=aT s₁.heap
 have neI:s₁.heap.objs.size≠q.1:=fun e=>by rw [←e,nI₁] at ho; cases ho
 have nI₀:s.heap.get? s₁.heap.objs.size=none:=by
  cases z:s.heap.get? s₁.heap.objs.size with
  | none=>rfl
  | some o=>obtain ⟨o',e'⟩:=T₁.ext.live _ _ z; rw [nI₁] at e'; cases e'
 have hk:∀ c o,s₁.heap.get? c=some o→(s₁.heap.push { cls:=.type "list_iterator",data:=.fields #[.ref q.1,.int 0 0] }).get? c=some o:=fun c o e=>Heap.get?_push_of_some _ e
 obtain ⟨R₂,X₂⟩:=T₁'.at'.rep.grow hk
 have T₂:To (env.locals::[s₁.heap.objs.size,q.1]) F ρ (bO m b args) s F₁ ρ (bO m b args) { s₁ with heap:=s₁.heap.push { cls:=.type "list_iterator",data:=.fields #[.ref q.1,.int 0 0] } }:=
  (T₁'.nil (X:=env.locals::[s₁.heap.objs.size,q.1])).trans ⟨⟨R₂,T₁'.at'.len⟩,X₂.weaken (fun _ z=>nomatch z),rfl⟩
 have sz:vs.size=(bF args).length:=dK hvs
 rw [AV]
 refine nU (uD (F₀:=F) (t:=.Name "worth" (ao (aF (ad 1 (cbB p))))) (I:=s₁.heap.objs.size) (l:=q.1) (vs:=vs) rfl rm.hand neI)
  (J:=fun i F' ρ' st' L=>ρ'=ρ∧st'=bO (pushes m ((bF args).take i)) b args∧(L=cbL av pl N tp∨∃ wo,L=qw av pl N tp wo)) ?_ ?_ ?_ ?_ T₂ (fm₁.ext X₂ nl) ⟨rfl,rfl,.inl rfl⟩ ⟨⟨_,Heap.get?_push_size _ rfl,rfl,rfl⟩,(au ho).push _⟩ ?_ ?_
 ·intro c hc
  rcases fb hc with rfl | rfl
  ·exact nI₀
  ·exact ap.1
 ·obtain ⟨g,⟨o,_,_,ho',_⟩,_⟩:=fm.ns; exact ⟨o,ho'⟩
 ·-- a turn
  rintro i F₃ ρ₃ st₃ L₃ s₃ v₃ E₃ hi at₃ fm₃ ⟨rfl,rfl,hL⟩ hvi hF
  obtain ⟨x,tk,rfl,hx⟩:=gb hvs (by rw [Array.getElem?_toList]; exact hvi)
  have hxl:(bF args).take (i+1)=(bF args).take i++[x]:=by
   rw [List.take_add_one,hx]; rfl
  refine PySem.wpAny_assign_Name (a9 (sv:=.uint x) at₃ fm₃ (AZ p) ⟨tk,rfl⟩ fun s₄ T₄ fm₄=>?_)
  have fm₄:Fm F₃ ρ₃ (cbH (pushes m ((bF args).take i)) b args) (du p) env (qw av pl N tp x) s₄.heap:=by
   rcases hL with rfl | ⟨wo,rfl⟩
   ·rw [yS] at fm₄; exact fm₄
   ·rw [vQ] at fm₄; exact fm₄
  have hle:((bF args).take i).length≤(bF args).length:=List.length_take_le' ..
  have hi':i<(bF args).length:=by omega
  have hle2:((bF args).take i).length=i:=List.length_take_of_le (by omega)
  refine wi S rm T₄.at' fm₄ (JU p _ b args av N pl tp x v hv) (ta (iA hR _) (by rw [kM]; omega)) (dl ..) (uA ..) rfl fun F₅ ρ₅ s₅ f₅ T₅ fm₅ hf₅=>?_
  refine ⟨.inl hf₅,F₅,ρ₃,_,_,T₄.trans T₅,fm₅,rfl,?_,.inr ⟨x,rfl⟩⟩
  rw [hxl,lN]; rfl
 ·rintro F₃ ρ₃ st₃ L₃ s₃ T₃ fm₃ ⟨rfl,rfl,hL⟩
  rw [sz,List.take_length] at T₃ fm₃
  refine h F₃ s₃ T₃ ?_
  rcases hL with rfl | ⟨wo,rfl⟩
  ·exact fm₃
  ·exact fm₃.conv fun x sv e=>⟨sv,gI e,fun _ z=>z⟩
 ·intro c hc
  rcases fb hc with rfl | rfl
  ·intro z; obtain ⟨x,hx⟩:=at'.rep.lt z; rw [nI₀] at hx; cases hx
  ·exact ap.2.1
 ·intro c hc
  rcases fb hc with rfl | rfl
  ·cases z:F₁ s₁.heap.objs.size with
   | none=>rfl
   | some o=>have:=T₁.at'.rep.le _ _ z; rw [nI₁] at this; cases this
  ·exact ap.2.2
end
end
section
section
variable {st₂:St}
theorem eG {h:Heap}(hle:F.le h){a:Addr}(hall:∀ h',F.le h'→∃ o,h'.get? a=some o):∃ o,F a=some o:=by
 cases e:F a with
 | some o=>exact ⟨o,rfl⟩
 | none=>
  exfalso
  have hn:(h.update a fun _=>{ cls:=.none,data:=.freed }).get? a=none:=by
   obtain ⟨o,ho⟩:=hall h hle
   have hlt:=Heap.lt_size ho
   unfold Heap.get? Heap.update
   rw [Array.getElem?_modify]
   simp only [if_true]
   have:h.objs[a]?=some h.objs[a]:=Array.getElem?_eq_getElem hlt
   rw [this]
   rfl
  obtain ⟨o,ho⟩:=hall _ (fun b x hb=>(Heap.get?_update_other h _ (show a≠b from fun z=>by subst z; rw [hb] at e; cases e)).trans (hle b x hb))
  rw [hn] at ho; cases ho
theorem At.roIlist (at':At F ρ st s){k:Nat}{xs:List Int}(hm:(k,SO.ro (.ilist xs))∈st.σ):∃ p vs n,ρ[k]?=some p∧F p.1=some ⟨.type "list",none,.seq vs n,#[]⟩∧IntsAre vs.toList xs:=by
 obtain ⟨p,hp,vs,n,ho,hv⟩:=at'.rep.ok _ hm
 obtain ⟨o,hF⟩:=eG at'.rep.le (a:=p.1) fun h' hh=>by
  obtain ⟨vs,n,ho,_⟩:=at'.rep.ro _ hm _ rfl p hp h' hh
  exact ⟨_,ho⟩
 have:=at'.rep.le _ _ hF
 rw [ho] at this; cases this
 exact ⟨p,vs,n,hp,hF,hv⟩
theorem br {v:Ev}(S:aG v){f:Expr}{args:List Expr}{pos:Pos}{f0:SV}{svs:List SV}{Q:Value→Shared→Prop}(rm:aj cx.d A)(at':At F ρ st s)(fm:Fm F ρ st.σ cx env m s.heap)(hst:noStar args=true)(hna:∀ o x p,f≠.Attribute o x p)
  (hk:cr K f0=true) (h1:(v.e cx m f st).Ok fun r=>r=(f0,st₁)) (h2:(v.es cx m args st₁).Ok fun r=>r=(svs,st₂))
  (h:∀ F' ρ' s' fv vs,To [] F ρ st s F' ρ' st₂ s'→f0.Is ρ' fv→ag (SV.Is ρ') svs vs→wpAny (model prog w) A (call fv vs) Q E s'):wpAny (model prog w) A (eval (.Call f args [] pos) env) Q E s:=by
 have nl:=@noA env.locals
 have e0:eval (.Call f args [] pos) env=(do callWith pos (←eval f env) [] (backTo pos (starEach args env)) (backToKw pos (keywordEach [] env))):=by
  cases f<;>first | rfl | exact absurd rfl (hna _ _ _)
 rw [e0]
 refine wpAny_bind (S.e rm at' fm (h1.mono fun r er F₁ ρ₁ s₁ v₁ T₁ i₁=>?_))
 subst er
 refine callWith_of (P:=fun h=>K.In h) ?_ (cM hk i₁) (ch hst ?_)
 ·rw [aY hst]; rfl
 ·refine S.es rm T₁.at' (fm.to T₁ nl) (h2.mono fun r er F₃ ρ₃ s₃ vs₃ T₃ i₃=>?_)
  subst er
  exact ⟨T₃.at'.rep.world.inK,h F₃ ρ₃ s₃ _ vs₃ (T₁.trans T₃) (i₁.ext T₃.ext) i₃⟩
theorem cg {es:List Expr}{xk:Nat}{pos:Pos}{T:Addr}{vs:Array Value}{svs:List SV}{m':Loc}{Q:Unit→Shared→Prop}(hh:A.handled=none)(at':At F ρ st s)(fm:Fm F ρ st.σ cx env m s.heap)
  (hT:IsTup s.heap T vs) (hv:ag (SV.Is ρ) svs vs.toList) (e:bR cx es svs m=some m')
  (h:∀ s',To [env.locals] F ρ st s F ρ st s'→Fm F ρ st.σ cx env m' s'.heap→Q () s'):wpAny (model prog w) A (assign (.Tuple es xk pos) env (.ref T)) Q E s:=by
 have nl:=@noA env.locals
 obtain ⟨l1,l2⟩:=gT (env:=env) e
 refine assign_Tuple_tuple hh hT (by rw [l1,cU hv]) l2 fun h' hx=>?_
 have hk:∀ b o,s.heap.get? b=some o→h'.get? b=some o:=fun b o e=>hx b o (Nat.ne_of_lt (Heap.lt_size e)) e
 obtain ⟨R',X'⟩:=at'.rep.grow hk
 have T':To [env.locals] F ρ st s F ρ st { s with heap:=h' }:=⟨⟨R',at'.len⟩,X'.weaken (fun _ z=>nomatch z),rfl⟩
 have fm':Fm F ρ st.σ cx env m h':=fm.ext X' nl
 exact gD (s:={ s with heap:=h' }) T'.at' fm' e hv fun s'' T'' fm''=>h _ (T'.trans T'') fm''
end
end
section
noncomputable def t8 (e:Expr):List Expr:=if h:e.ctorIdx=25 then Expr.Tuple.elim e h fun es _ _=>es else []
noncomputable def tupK (e:Expr):Nat:=if h:e.ctorIdx=25 then Expr.Tuple.elim e h fun _ k _=>k else 0
noncomputable abbrev bw (r:Res (List SV×St)):LEs:=(r.paths ([],⟨[],0⟩)).map fun q=>(q.asm,q.nd,q.res)
noncomputable def nj:List SV:=[.int 7,.int 6,.int 2,.int 1,.int 8,.int 9]
section
variable (p:Params)(m:M)(b:Int)(args:List Int)(av:Addr)(N pl tp wo nu:Int)
noncomputable abbrev l7 (p:Params):Expr:=aC (ad 2 (cbB p))
noncomputable abbrev l6 (p:Params):Expr:=aF (ad 2 (cbB p))
theorem AU:l6 p=.Tuple [.Name "number" (ao (bc 0 (t8 (l6 p)))),.Name "worth" (ao (bc 1 (t8 (l6 p))))] (tupK (l6 p)) (ao (l6 p)):=by rfl'
theorem yb:l7 p=.Call (caF (l7 p)) (caA (l7 p)) [] (ao (l7 p)):=by rfl'
theorem AW:d7 (l7 p)=false:=by rfl'
theorem xV:noStar (caA (l7 p))=true:=by rfl'
theorem ye:bG (caF (l7 p))=false:=by rfl'
theorem H4:aD (du p).sc "number" = true:=by rfl'
theorem HR:∀ v:Ev,v=ev (an p) noX 70→am (v.e (du p) (cbL av pl N tp) (caF (l7 p)) (bO m b args))=([([],[],.ty "zip",bO m b args)]:LE):=by rintro _ rfl; rfl'
theorem HS:∀ v:Ev,v=ev (an p) noX 70→bw (v.es (du p) (cbL av pl N tp) (caA (l7 p)) (bO m b args))=([([],[],[.ref 8,.ref 7],⟨(8,.list nj)::cbH m b args,9⟩)]:LEs):=by rintro _ rfl; rfl'
theorem lE (x:SO):trim 8 ((8,x)::cbH m b args)=cbH m b args:=by rfl'
theorem D7 (nu wo:Int):bR (du p) [.Name "number" (ao (bc 0 (t8 (l6 p)))),.Name "worth" (ao (bc 1 (t8 (l6 p))))] [.uint nu,.uint wo] (cbL av pl N tp)=some (oj av pl N tp nu wo):=by rfl'
theorem AX (nu wo x y:Int):bR (du p) [.Name "number" (ao (bc 0 (t8 (l6 p)))),.Name "worth" (ao (bc 1 (t8 (l6 p))))] [.uint nu,.uint wo] (oj av pl N tp x y)=some (oj av pl N tp nu wo):=by rfl'
theorem DC (nu wo:Int):lh 8 (oj av pl N tp nu wo)=true:=by rfl'
theorem AY:(7,SO.ro (.ilist args))∈(bO m b args).σ:=by
 show _∈mH m b++[(7,SO.ro (.ilist args))]
 simp
end
section
theorem lJ {xs ys:List Int}{i:Nat}{x y:Int}(hx:xs[i]?=some x)(hy:ys[i]?=some y):(xs.zip ys).take (i+1)=(xs.zip ys).take i++[(x,y)]:=by
 rw [List.take_add_one,List.getElem?_zip_eq_some (z:=(x,y)) |>.mpr ⟨hx,hy⟩]; rfl
theorem sE {vs:List Value}{ρ:Rho}(h:ag (SV.Is ρ) nj vs){i:Nat}{v:Value}(e:vs[i]?=some v):∃ n t,v=Value.int n t∧cw[i]?=some n:=by
 have key:∀ (l:List Int) (vs:List Value),ag (SV.Is ρ) (l.map SV.int) vs→∀ (i:Nat) (v:Value),vs[i]?=some v→∃ n t,v=Value.int n t∧l[i]?=some n:=by
  intro l
  induction l with
  | nil=>intro vs h i v e; cases h; simp at e
  | cons x r ih=>
   intro vs h i v e
   cases h with
   | cons a t=>
    cases i with
    | zero=>obtain ⟨u,rfl⟩:=a; simp at e; exact ⟨x,u,e.symm,rfl⟩
    | succ i=>exact ih _ t i v (by simpa using e)
 exact key cw vs h i v e
theorem sD {i:Nat}{n:Int}(h:cw[i]?=some n):bX n:=by
 have:n∈cw:=List.mem_of_getElem? h
 rcases zC this with rfl | rfl | rfl | rfl | rfl | rfl<;>exact ⟨by decide,by decide⟩
theorem x9 {m:M}{b:Int}{args:List Int}{av:Addr}{N pl tp:Int}{Q:Flow→Shared→Prop}(rm:aj 34 A)(at':At F ρ (bO m b args) s)(fm:Fm F ρ (cbH m b args) (du p) env (cbL av pl N tp) s.heap)
  (hR:m.R.length=16)
  (h:∀ F' s',To [env.locals] F ρ (bO m b args) s F' ρ (bO (eK m (cw.zip args)) b args) s'→Fm F' ρ (cbH (eK m (cw.zip args)) b args) (du p) env (cbL av pl N tp) s'.heap→Q .next s') :
  wpAny (model prog w) A (exec (.For (l6 p) (l7 p) (ah (ad 2 (cbB p))) [] (aS (ad 2 (cbB p)))) env) Q E s:=by
 obtain ⟨v,hv⟩:∃ v,v=ev (an p) noX 70:=⟨_,rfl⟩
 have S:aG v:=hv▸bW cb 70
 have hlen:ρ.length=8:=at'.len
 have nl:=@noA env.locals
 have hset:=fV (AW p) env
 rw [yb] at hset ⊢
 refine wpAny_For (br S rm at' fm (xV p) (a8 (ye p)) (f0:=.ty "zip") rfl (ac _ (HR p m b args av N pl tp v hv) noP rfl) (ac _ (HS p m b args av N pl tp v hv) noP rfl) fun F₁ ρ₁ s₁ fv vs T₁ ifv ivs=>?_) hset
 cases ifv
 obtain ⟨v1,v2,rfl,i1,i2⟩:=ag.inv2 ivs
 obtain ⟨τ,eτ⟩:=T₁.ext.pre
 subst eτ
 obtain ⟨q,hq,O⟩:=T₁.at'.rep.get (k:=8) (o:=.list nj) rfl
 obtain ⟨xs,c,ho,hxs⟩:=O
 cases T₁.at'.ref i1 hq
 have T₁':=T₁.trim hlen (by rw [lE]; exact dl ..) ⟨[],by simp⟩
 dsimp only at T₁'
 rw [lE] at T₁'
 obtain ⟨pa,ys,n7,hpa,hFa,hys⟩:=at'.roIlist (AY m b args)
 cases T₁.at'.ref i2 (bx hpa)
 have hl2:∀ h',F.le h'→h'.IsList pa.1 ys:=fun h' hh=>au (hh _ _ hFa)
 have fm₁:=fm.to T₁' nl
 refine call_zip_2 (xs:=xs) (ys:=ys) (au ho) (hl2 _ fun c o e=>T₁.at'.rep.le c o (T₁.ext.fz c o e)) fun h' a1 a2 a3 a4 a5 a6 a7=>?_
 have ap:=T₁.apart (k:=8) (o:=.list nj) rfl (fun a z=>by rw [bU at'.rep.names]; exact z) hq (a:=q.1) (.head _)
 refine wpAny_pyIter_zip a1 ?_
 generalize hz:s₁.heap.objs.size=z0 at *
 have new₁:∀ {k},z0≤k→s₁.heap.get? k=none:=fun {k} hk=>Heap.get?_none_of_le (by omega)
 have new₀:∀ {k},z0≤k→s.heap.get? k=none:=fun {k} hk=>by
  cases z:s.heap.get? k with
  | none=>rfl
  | some o=>obtain ⟨o',e'⟩:=T₁.ext.live _ _ z; rw [new₁ hk] at e'; cases e'
 have hq1:@LT.lt Nat _ q.1 z0:=hz▸Heap.lt_size ho
 have hpa1:@LT.lt Nat _ pa.1 z0:=hz▸Heap.lt_size (T₁.at'.rep.le _ _ (T₁.ext.fz _ _ hFa))
 obtain ⟨R₂,X₂⟩:=T₁'.at'.rep.grow a7
 have T₂:To (env.locals::[z0+4,z0+2,z0+3,z0,z0+1,q.1]) F ρ (bO m b args) s F₁ ρ (bO m b args) { s₁ with heap:=h' }:=
  (T₁'.nil (X:=env.locals::[z0+4,z0+2,z0+3,z0,z0+1,q.1])).trans ⟨⟨R₂,T₁'.at'.len⟩,X₂.weaken (fun _ z=>nomatch z),rfl⟩
 have sz:xs.size=6:=cU hxs
 have sz2:ys.size=args.length:=dK hys
 have szz:(cw.zip args).length=min xs.size ys.size:=by rw [List.length_zip,sz,sz2]; rfl
 have D:ZipApart (z0+4) (z0+2) (z0+3) z0 (z0+1) q.1 pa.1:=by constructor<;>(show @Ne Nat _ _)<;>omega
 have hnew:∀ c∈[z0+4,z0+2,z0+3,z0,z0+1,q.1],s.heap.get? c=none∧c∉ae ρ (bO m b args).σ∧F₁ c=none:=by
  intro c hc
  have big:∀ k,z0≤k→s.heap.get? k=none∧k∉ae ρ (bO m b args).σ∧F₁ k=none:=fun k hk=>by
   refine ⟨new₀ hk,fun z=>?_,?_⟩
   ·obtain ⟨x,hx⟩:=at'.rep.lt z; rw [new₀ hk] at hx; cases hx
   ·cases z:F₁ k with
    | none=>rfl
    | some o=>have:=T₁.at'.rep.le _ _ z; rw [new₁ hk] at this; cases this
  rcases zC hc with rfl | rfl | rfl | rfl | rfl | rfl
  ·exact big _ (by omega)
  ·exact big _ (by omega)
  ·exact big _ (by omega)
  ·exact big _ (by omega)
  ·exact big _ (by omega)
  ·exact ap
 rw [AU]
 refine nU (xj (F₀:=F) (z:=z0+4) (TI:=z0+2) (TO:=z0+3) (i1:=z0) (i2:=z0+1) (l1:=q.1) (l2:=pa.1) (xs:=xs) (ys:=ys) rm.hand D hl2)
  (J:=fun i F' ρ' st' L=>ρ'=ρ∧st'=bO (eK m ((cw.zip args).take i)) b args∧(L=cbL av pl N tp∨∃ nu wo,L=oj av pl N tp nu wo)) (fun c hc=>(hnew c hc).1) ?_ ?_ ?_ T₂ (fm₁.ext X₂ nl) ⟨rfl,rfl,.inl rfl⟩
  ⟨a1,a2,⟨_,_,a3⟩,a4,a5,au (a7 _ _ ho),hl2 _ fun c o e=>a7 _ _ (T₁.at'.rep.le c o (T₁.ext.fz c o e))⟩ (fun c hc=>(hnew c hc).2.1) (fun c hc=>(hnew c hc).2.2)
 ·obtain ⟨g,⟨o,_,_,ho',_⟩,_⟩:=fm.ns; exact ⟨o,ho'⟩
 ·-- a turn
  rintro i F₃ ρ₃ st₃ L₃ s₃ v₃ E₃ hi at₃ fm₃ ⟨rfl,rfl,hL⟩ ⟨T,x,y,rfl,hT,hx,hy⟩ hF
  obtain ⟨nu,t1,rfl,hnu⟩:=sE hxs (by rw [Array.getElem?_toList]; exact hx)
  obtain ⟨wo,t2,rfl,hwo⟩:=gb hys (by rw [Array.getElem?_toList]; exact hy)
  refine cg (svs:=[.uint nu,.uint wo]) (m':=oj av pl N tp nu wo) rm.hand at₃ fm₃ (cD hT) (.cons ⟨_,rfl⟩ (.cons ⟨_,rfl⟩ .nil)) ?_ fun s₄ T₄ fm₄=>?_
  ·rcases hL with rfl | ⟨a,b',rfl⟩
   ·exact D7 ..
   ·exact AX ..
  refine wi S rm T₄.at' fm₄ (JT p _ b args av N pl tp wo nu v hv) ?_ (dl ..) (uz ..) rfl fun F₅ ρ₅ s₅ f₅ T₅ fm₅ hf₅=>?_
  ·intro P hP
   obtain rfl:=ak hP
   exact aR (mh hR _) (sD hnu)
  refine ⟨.inl hf₅,F₅,ρ₃,_,_,T₄.trans T₅,fm₅,rfl,?_,.inr ⟨nu,wo,rfl⟩⟩
  rw [lJ hnu hwo,na]; rfl
 ·rintro F₃ ρ₃ st₃ L₃ s₃ T₃ fm₃ ⟨rfl,rfl,hL⟩
  rw [←szz,List.take_length] at T₃ fm₃
  refine h F₃ s₃ T₃ ?_
  rcases hL with rfl | ⟨nu,wo,rfl⟩
  ·exact fm₃
  ·exact fm₃.conv fun x sv e=>⟨sv,gI e,fun _ z=>z⟩
end
end
section
section
theorem OkO.shift {h:Heap}{q:Addr×Addr}{o:SO}(x:OkO (ρ++τ) h q o)(l:nk ρ.length o=true):OkO (ρ++τ') h q o:=(x.cut l).mono
theorem yo (m:M)(b:Int):gt 7 (mH m b)=true:=by rfl'
theorem tD (m:M)(b:Int):(mH m b).all (fun e=>Nat.blt e.1 7)=true:=by rfl'
theorem wO (m m':M)(b b':Int)(ρ:Rho):ae ρ (mH m b)=ae ρ (mH m' b'):=by
 unfold mH stH ae
 simp only [ae]
 cases ρ[0]?<;>cases ρ[1]?<;>cases ρ[4]?<;>cases ρ[5]?<;>rfl
theorem bA (ρ:Rho):∀ (a b:Hp),ae ρ (a++b)=ae ρ a++ae ρ b:=by
 intro a b
 induction a with
 | nil=>rfl
 | cons x r ih=>show _++ae ρ (r++b)=_; rw [ih]; exact (List.append_assoc ..).symm
theorem p9 {n:Nat}(hn:ρ.length=n):∀ {σ:Hp},σ.all (fun e=>Nat.blt e.1 n)=true→ae (ρ++τ) σ=ae (ρ++τ') σ:=by
 subst hn
 intro σ
 induction σ with
 | nil=>intro _; rfl
 | cons x r ih=>
  intro h
  rw [List.all_cons,Bool.and_eq_true] at h
  have:x.1<ρ.length:=cC h.1
  unfold ae
  rw [ih h.2,List.getElem?_append_left this,List.getElem?_append_left this]
theorem wN {m:M}{b:Int}{st:St}{ρ0:Rho}{x:Addr×Addr}{k:Nat}{σr:Hp}(h0:ρ0.length=7)(at':At F (ρ0++τ) ⟨(k,.list [.int RP])::(mH m b++σr),st.nx⟩ s)(hx:(ρ0++τ)[k]?=some x) :
  At F (ρ0++[x]) (d3 m b) s:=by
 have hm:∀ e∈mH m b,e∈(k,SO.list [.int RP])::(mH m b++σr):=fun e he=>.tail _ (List.mem_append_left _ he)
 have hk7:∀ e∈mH m b,e.1<7:=fun e he=>cC (dQ (tD m b) e he)
 have hx7:(ρ0++[x])[7]?=some x:=by rw [List.getElem?_append_right (by omega),h0]; rfl
 have f1:ae (ρ0++[x]) (mH m b++rpH)=ae (ρ0++[x]) (mH m b)++[x.1]:=by
  rw [bA]
  show _++((match (ρ0++[x])[7]? with | some p=>aN p _ | none=>[])++[])=_
  rw [hx7]; rfl
 have f2:ae (ρ0++τ) ((k,SO.list [.int RP])::(mH m b++σr))=x.1::(ae (ρ0++τ) (mH m b)++ae (ρ0++τ) σr):=by
  show (match (ρ0++τ)[k]? with | some p=>aN p (SO.list [SV.int RP]) | none=>[])++ae (ρ0++τ) (mH m b++σr)=_
  rw [hx,bA]; rfl
 have f3:=p9 (τ:=[x]) (τ':=τ) h0 (tD m b)
 have nd:=at'.rep.nodup
 rw [f2,List.nodup_cons] at nd
 refine at'.sub (by simp [h0]) (fun e he=>?_) (fun e he o eo=>?_) ?_ ?_
 ·rcases fD he with he | he
  ·obtain ⟨q,hq,O⟩:=at'.rep.ok e (hm e he)
   have:=hk7 e he
   rw [List.getElem?_append_left (by omega)] at hq
   exact ⟨q,by rw [List.getElem?_append_left (by omega)]; exact hq,O.shift (by rw [h0]; exact dQ (yo m b) e he)⟩
  ·simp only [rpH,List.mem_singleton] at he
   subst he
   obtain ⟨q,hq,O⟩:=at'.rep.ok _ (.head _)
   rw [hx] at hq; cases hq
   exact ⟨x,hx7,O.shift (by rw [h0]; rfl)⟩
 ·exfalso
  have key:(mH m b++rpH).all (fun e=>!(Nat.beq (im e.2) 0))=true:=by rfl'
  have:=dQ key e he
  rw [eo] at this; cases this
 ·rw [f1,f3]
  refine List.nodup_append.mpr ⟨(List.nodup_append.mp nd.2).1,by simp,fun a ha c hc e=>?_⟩
  obtain rfl:=ak hc; subst e
  exact nd.1 (List.mem_append_left _ ha)
 ·intro a ha
  rw [f1,f3] at ha
  rw [f2]
  rcases fD ha with z | z
  ·exact .tail _ (List.mem_append_left _ z)
  ·obtain rfl:=ak z; exact .head _
theorem us {m m':M}{b b':Int}{n:Nat}{ρ0:Rho}{x:Addr×Addr}{k:Nat}{σr:Hp}(h0:ρ0.length=7)(at':At F (ρ0++τ) ⟨(k,.list [.int RP])::(mH m b++σr),n⟩ s)(hx:(ρ0++τ)[k]?=some x)
  (hr:∀ e∈σr,∃ o,e.2=.ro o) (T:To [] F (ρ0++[x]) (d3 m b) s F' (ρ0++[x]) (d3 m' b') s') :
  To [] F (ρ0++τ) ⟨(k,.list [.int RP])::(mH m b++σr),n⟩ s F' (ρ0++τ) ⟨(k,.list [.int RP])::(mH m' b'++σr),n⟩ s':=by
 have hx7:(ρ0++[x])[7]?=some x:=by rw [List.getElem?_append_right (by omega),h0]; rfl
 have f1:ae (ρ0++[x]) (mH m b++rpH)=ae (ρ0++[x]) (mH m b)++[x.1]:=by
  rw [bA]
  show _++((match (ρ0++[x])[7]? with | some p=>aN p _ | none=>[])++[])=_
  rw [hx7]; rfl
 have f2:∀ (m:M) b,ae (ρ0++τ) ((k,SO.list [.int RP])::(mH m b++σr))=x.1::(ae (ρ0++τ) (mH m b)++ae (ρ0++τ) σr):=by
  intro m b
  show (match (ρ0++τ)[k]? with | some p=>aN p (SO.list [SV.int RP]) | none=>[])++ae (ρ0++τ) (mH m b++σr)=_
  rw [hx,bA]; rfl
 have f3:=p9 (τ:=[x]) (τ':=τ) h0 (tD m b)
 have hk7:∀ e∈mH m' b',e.1<7:=fun e he=>cC (dQ (tD m' b') e he)
 have key:(mH m' b').all (fun e=>!(Nat.beq (im e.2) 0))=true:=by rfl'
 have:=at'.back (X:=[]) (σ':=(k,.list [.int RP])::(mH m' b'++σr)) (τ:=[]) (n:=n) (fun a ha=>by
   rw [f1,f3] at ha
   rw [f2]
   rcases fD ha with z | z
   ·exact .tail _ (List.mem_append_left _ z)
   ·obtain rfl:=ak z; exact .head _) (fun a ha=>nomatch ha) T (by have z:(ρ0++τ).length=n:=at'.len; simpa using z) (by rw [List.append_nil,f2,f2,wO m' m b' b]) (fun e he=>?_)
 ·rw [List.append_nil] at this; exact this
 ·rw [List.append_nil]
  rcases aJ he with rfl | he
  ·right
   obtain ⟨q,hq,O⟩:=T.at'.rep.ok (7,.list [.int RP]) (List.mem_append_right _ (.head _))
   rw [hx7] at hq; cases hq
   exact ⟨x,hx,O.shift (by rw [h0]; rfl),fun o eo=>by cases eo⟩
  ·rcases fD he with he | he
   ·right
    obtain ⟨q,hq,O⟩:=T.at'.rep.ok e (List.mem_append_left _ he)
    have:=hk7 e he
    rw [List.getElem?_append_left (by omega)] at hq
    refine ⟨q,by rw [List.getElem?_append_left (by omega)]; exact hq,O.shift (by rw [h0]; exact dQ (yo m' b') e he),fun o eo=>?_⟩
    have:=dQ key e he
    rw [eo] at this; cases this
   ·left
    refine ⟨.tail _ (List.mem_append_right _ he),fun q hq a ha=>?_⟩
    obtain ⟨o,eo⟩:=hr e he
    rw [eo] at ha; cases ha
end
end
section
section
noncomputable abbrev JX (p:Params):Stmt:=.If (di (ad 6 (cbB p))) (ah (ad 6 (cbB p))) [] (aS (ad 6 (cbB p)))
theorem xU (p:Params):noStar (caA (aI (ad 5 (cbB p))))=true:=by rfl'
theorem yd (p:Params):bG (caF (aI (ad 5 (cbB p))))=false:=by rfl'
theorem Ah (p:Params):cr (an p) (.sta 550)=true:=by rfl'
theorem aU {X:List Addr}{F F':Fz}{ρ':Rho}{st st':St}{s':Shared}(T:To X F ρ st s F' ρ' st' s')(hl:ρ.length=st'.nx):ρ=ρ':=by
 obtain ⟨τ,e⟩:=T.ext.pre
 have:=T.at'.len
 rw [e,List.length_append,hl] at this
 have:τ=[]:=List.length_eq_zero_iff.mp (by omega)
 rw [e,this,List.append_nil]
theorem bS {X:List Addr}{st st':St}{α:Type}{I:Rho→α→Prop}{Q:α→Shared→Prop}(h:ρ.length=st'.nx)(k:∀ F' s' v,To X F ρ st s F' ρ st' s'→I ρ v→Q v s') (F' ρ' s' v)(T:To X F ρ st s F' ρ' st' s')(i:I ρ' v):Q v s':=by
 cases aU T h
 exact k _ _ _ T i
theorem dz {X:List Addr}{st st':St}{fl:Fl}{m:Loc}{cx:Cx}{env:Env}{Q:Flow→Shared→Prop}(h:ρ.length=st'.nx)(k:∀ F' s' f,To X F ρ st s F' ρ st' s'→Fm F' ρ st'.σ cx env m s'.heap→fl.Is ρ f→Q f s') (F' ρ' s' f)(T:To X F ρ st s F' ρ' st' s')(fm:Fm F' ρ' st'.σ cx env m s'.heap)(i:fl.Is ρ' f):Q f s':=by
 cases aU T h
 exact k _ _ _ T fm i
theorem BY {ρ:Rho}(h:ρ.length=8):∃ ρ0 x,ρ0.length=7∧ρ=ρ0++[x]:=by
 refine ⟨ρ.take 7,ρ[7],by simp [h],?_⟩
 have:ρ.drop 7=[ρ[7]]:=by
  rw [List.drop_eq_getElem_cons (by omega),List.drop_of_length_le (by omega)]
 rw [←this,List.take_append_drop]
theorem tS {m m':M}{b pl:Int}{args:List Int}{av pa sa sd la ld:Addr}{P:Prg}{N:Nat}{t1 t2:Tok}{Q:Value→Shared→Prop}(rm:aj 35 A)(at':At F ρ (bO m b args) s)(adv:iM p F av pa)(pr:dB F pa P)
  (hR:m.R.length=16) (hn:m.n+8*(bF args).length+16≤100000) (ha:args.length≤100000) (hb:(ck args).length≤100000)
  (tr:cZ P N (cY m args pl) m') (hs:ρ[0]?=some (sa,sd)) (hl:ρ[7]?=some (la,ld))
  (h:∀ env F' s' b',s.heap.get? env.locals=none→aj 34 (A.deeper env)→To [env.locals] F ρ (bO m b args) s F' ρ (bO m' b' args) s'→Fm F' ρ (cbH m' b' args) (du p) env (cbL av pl N (rg m.R 4)) s'.heap→
   env.frame=some env.locals→env.scope=(du p).sc→
   wpAny (model prog w) (A.deeper env) (execs (JX p::(cbB p).drop 7) env) (fun fl s'=>Q (iS fl) s') (pi A env E) s') :
  wpAny (model prog w) A (call (.ref 557) [.ref sa,.int pl t1,.ref la,.int N t2,.ref av]) Q E s:=by
 have hlen:ρ.length=8:=at'.len
 obtain ⟨fd,fn,hsc,hcl⟩:=lA (D8 p) at'.rep.world.inK
 have fn:sK s.heap 557 fd (["state","place","arguments","most","advance"]:List Str) (gm ((an p).lookup 557)):=by rw [←xZ p]; exact fn
 refine gj (d:=34) (args:=[.ref 0,.uint pl,.ref 7,.uint N,.sta av]) rm at' fn (cells:=[]) (fun x k z=>by simp [af] at z) (.cons ⟨_,hs,rfl⟩ (.cons ⟨t1,rfl⟩ (.cons ⟨_,hl,rfl⟩ (.cons ⟨t2,rfl⟩ (.cons rfl .nil))))) rfl fun env s₀ T₀ fm₀ nw rm' henv=>?_
 obtain ⟨v,hv⟩:∃ v,v=ev (an p) noX 70:=⟨_,rfl⟩
 have S:aG v:=hv▸bW cb 70
 rw [hsc] at fm₀
 have fm₀:Fm F ρ (cbH m b args) (du p) env ([("state",.ref 0),("place",.uint pl),("arguments",.ref 7),("most",.uint N),("advance",.sta av)]:Loc) s₀.heap:=fm₀
 have nl:=@noA env.locals
 show wpAny _ _ (execs (cbB p) env) _ _ _
 rw [A1]
 refine wpAny_execs_cons (iB S rm' T₀.at' fm₀ (JW p m b args av N pl v hv) (fun P hP=>by obtain rfl:=ak hP; exact aR hR ⟨by decide,by decide⟩) (dl ..) (gJ ..) rfl fun F₁ ρ₁ s₁ f₁ T₁ fm₁ hf=>?_)
 cases hf
 have T₁:=(T₀.nil (X:=[env.locals])).trans T₁
 refine wpAny_execs_cons (ya rm' T₁.at' fm₁ hR (by omega) ha hb fun F₂ s₂ T₂ fm₂=>?_)
 have T₂:=T₁.trans T₂
 refine wpAny_execs_cons (x9 rm' T₂.at' fm₂ (iA hR _) fun F₃ s₃ T₃ fm₃=>?_)
 have T₃:=T₂.trans T₃
 have hR₃:(eK (pushes m (bF args)) (cw.zip args)).R.length=16:=mh (iA hR _) _
 have hn₃:(eK (pushes m (bF args)) (cw.zip args)).n=m.n+8*(bF args).length:=by rw [sU,kM]
 refine wpAny_execs_cons (iB S rm' T₃.at' fm₃ (JS p _ b args av N pl (rg m.R 4) v hv) (ta hR₃ (by rw [hn₃]; omega)) (dl ..) (gJ ..) rfl fun F₄ ρ₄ s₄ f₄ T₄ fm₄ hf=>?_)
 cases hf
 have T₄:=T₃.trans T₄
 refine wpAny_execs_cons (iB S rm' T₄.at' fm₄ (HU p _ b args av N pl (rg m.R 4) v hv) noP (dl ..) (gJ ..) rfl fun F₅ ρ₅ s₅ f₅ T₅ fm₅ hf=>?_)
 cases hf
 have T₅:=T₄.trans T₅
 have fm₅:Fm F₅ ρ (cbH (cY m args pl) b args) (du p) env (cbL av pl N (rg m.R 4)) s₅.heap:=fm₅
 have T₅:To [env.locals] F ρ (bO m b args) s F₅ ρ (bO (cY m args pl) b args) s₅:=T₅
 refine wpAny_execs_cons (wpAny_Expr_any ?_ (by unfold interactive; rw [cL fm₅.eok]; rfl) rfl)
 refine br S rm' T₅.at' fm₅ (xU p) (a8 (yd p)) (Ah p) (ac _ (JR p _ b args av N pl (rg m.R 4) v hv) noP rfl) (ac _ (JQ p _ b args av N pl (rg m.R 4) v hv) noP rfl) fun F₆ ρ₆ s₆ fv vs T₆ ifv ivs=>?_
 cases ifv
 obtain ⟨τ,eτ⟩:=T₆.ext.pre
 subst eτ
 obtain ⟨ρ0,x7,h0,e7⟩:=BY hlen
 have hτ:=rJ (Nat.add_left_cancel (show _+τ.length=_+1 from (by have:=T₆.at'.len; rw [List.length_append,hlen] at this; exact this)))
 obtain ⟨x8,rfl⟩:=hτ
 have e9:ρ++[x8]=ρ0++[x7,x8]:=by rw [e7,List.append_assoc]; rfl
 have hx8:(ρ++[x8])[8]?=some x8:=by rw [List.getElem?_append_right (by omega),hlen]; rfl
 obtain ⟨v0,v1,v2,v3,rfl,i0,i1,i2,i3⟩:=ivs.inv4
 cases T₆.at'.ref i0 (bx hs)
 obtain ⟨t3,rfl⟩:=i1
 cases T₆.at'.ref i2 hx8
 cases i3
 have at₆:At F₆ (ρ0++[x7,x8]) ⟨(8,.list [.int RP])::(mH (cY m args pl) b++[(7,.ro (.ilist args))]),9⟩ s₆:=by rw [←e9]; exact T₆.at'
 have hx8':(ρ0++[x7,x8])[8]?=some x8:=by rw [←e9]; exact hx8
 have sub:=wN (st:=⟨[],9⟩) h0 at₆ hx8'
 have kF:∀ a o,F a=some o→F₆ a=some o:=fun a o e=>T₆.ext.fz a o (T₅.ext.fz a o e)
 refine Ao (rm'.le) sub (adv.mono kF) (pr.mono kF) tr (by rw [List.getElem?_append_left (by omega)]; rw [e7,List.getElem?_append_left (by omega)] at hs; exact hs) (by rw [List.getElem?_append_right (by omega),h0]; rfl) fun F₇ s₇ _ b' T₇=>?_
 have bk:=us h0 at₆ hx8' (fun e he=>by obtain rfl:=ak he; exact ⟨_,rfl⟩) T₇
 rw [←e9] at bk
 have T₅₇:=T₅.trans ((T₆.trans bk).nil (X:=[env.locals]))
 have fm₇:Fm F₇ (ρ++[x8]) ((8,.list [.int RP])::(mH m' b'++[(7,.ro (.ilist args))])) (du p) env (cbL av pl N (rg m.R 4)) s₇.heap:=(fm₅.to T₆ nl).to bk nl
 have eT:trim 8 ((8,SO.list [.int RP])::(mH m' b'++[(7,SO.ro (.ilist args))]))=cbH m' b' args:=lE m' b' args _
 have T₈:=T₅₇.trim hlen (by rw [eT]; exact dl ..) ⟨[],by simp⟩
 dsimp only at T₈
 rw [eT] at T₈
 have fm₈:=fm₇.trim hlen (gJ ..) rfl
 rw [eT] at fm₈
 exact h env F₇ s₇ b' nw rm' T₈ fm₈ (by rw [henv]) (fm₈.eok.sc)
theorem A0 {m m':M}{b pl:Int}{args:List Int}{av pa sa sd la ld:Addr}{P:Prg}{N:Nat}{t1 t2:Tok}{Q:Value→Shared→Prop}(rm:aj 35 A)(at':At F ρ (bO m b args) s)(adv:iM p F av pa)(pr:dB F pa P)
  (hR:m.R.length=16) (hn:m.n+8*(bF args).length+16≤100000) (ha:args.length≤100000) (hb:(ck args).length≤100000)
  (tr:cZ P N (cY m args pl) m') (hrip:m'.rip=RP) (hR':m'.R.length=16) (hs:ρ[0]?=some (sa,sd)) (hl:ρ[7]?=some (la,ld))
  (h:∀ F' s' v b',To [] F ρ (bO m b args) s F' ρ (bO ⟨m'.R.set 4 (rg m.R 4),m'.f,m'.n,m'.rip⟩ b' args) s'→(SV.uint (rg (m'.R.set 4 (rg m.R 4)) 0)).Is [] v→Q v s') :
  wpAny (model prog w) A (call (.ref 557) [.ref sa,.int pl t1,.ref la,.int N t2,.ref av]) Q E s:=by
 have hlen:ρ.length=8:=at'.len
 refine tS rm at' adv pr hR hn ha hb tr hs hl fun env F₁ s₁ b' nw rm' T₁ fm₁ _ _=>?_
 obtain ⟨v,hv⟩:∃ v,v=ev (an p) noX 70:=⟨_,rfl⟩
 have S:aG v:=hv▸bW cb 70
 have nl:=@noA env.locals
 refine wpAny_execs_cons (wpAny_If (S.t rm' T₁.at' fm₁ (fM _ (HT p m' b' args av N pl (rg m.R 4) v hv) (fun hb=>?_) fun hb=>?_)))
 ·exfalso; rw [hrip] at hb; simp at hb
 ·intro F₂ ρ₂ s₂ T₂
  dsimp only at T₂ ⊢
  have e2:=aU T₂ hlen
  subst e2
  rw [if_neg (by simp)]
  refine wpAny_execs_nil ?_
  have fm₂:=fm₁.to T₂ nl
  have T₂:=T₁.trans (T₂.nil (X:=[env.locals]))
  refine wi S rm' T₂.at' fm₂ (JP p m' b' args av N pl (rg m.R 4) v hv) ?_ (dl ..) (gJ ..) rfl fun F₃ ρ₃ s₃ f₃ T₃ fm₃ hf=>?_
  ·intro P hP
   exact bC hP (aR hR' ⟨by decide,by decide⟩) fun hP=>bC hP (aR (by simp [hR']) ⟨by decide,by decide⟩) fun hP=>nomatch hP
  ·obtain ⟨x,rfl,ix⟩:=hf
   exact h _ _ _ _ ((T₂.trans T₃).leave nw) ix
end
end
end Mine
end
section
open PySem PySem.W
namespace Mine
variable {F F' F₀ F'' F₁:Fz}{ρ ρ' ρ₀ τ τ':Rho}{st st' st₀ st₁:St}{A:Around}{s s' s₀ s₁:Shared}{X as:List Addr}{k i n N:Nat}{E:Value→Shared→Prop}{a b C pa aa da ga ra:Addr}{v:Value}{vs L xs ys:List Int}{h:Heap}{ih:Ev}{cx:Cx}{m m':Loc}{env:Env}{pos:Pos}{t T sc far d0 d1 d2 c seed cnt so sp fa c₀ bg wd fi ke mn:Int}{σ σ' σ₁:Hp}{nm q:Str}{bs bm bmB:List Value}{hdct ab:Bool}{sn:List Str}{m0:M}{q0 q1 q2 q3:Addr×Addr}
section
section
variable {M:Model}{g:Array GenState}{d:Drawn}{t:Nat}{os:OsState}
variable {N:Addr}{sub:List Value}{col:Option Bool}{dd:Option Addr}{k0 k1 k2 k3 k5:Option Value}{B newId initId:String}
theorem lZ (Fb:ExcBaseFacts B newId initId bmB)(hcont:(Value.ref C::bm).contains (.type B)=true){rest:List Value}{Q:Unit→Shared→Prop}(hC:h.get? C=some (excClassObj nm q C N bs bm hdct sn sub ab col dd k0 k1 k2 k3 k5 newId))
  (hq:Q () ⟨h,g,d,t,os⟩):wpAny M A (checkBuiltinCall newId ⟨.ref C::rest,[]⟩) Q E ⟨h,g,d,t,os⟩:=by
 have hstar:=Fb.noStar
 simp only [checkBuiltinCall,Fb.newKind,Fb.newSplit,Fb.newRow]
 repeat (first | refine wpAny_loadPart_at hC ?_ | (refine wpAny_isSubtype_exc hC ?_; rewrite [hcont]) | refine wpAny_staticBase_exc hC ?_ | refine wpAny_madeBy_exc hC ?_ | simp only [bne_self_eq_false,Bool.false_eq_true,if_false] | wp_step)
 exact hq
end
section
variable {R:Result→Shared→Prop}{g:Array GenState}{d:Drawn}{t:Nat}{os:OsState}
variable {N:Addr}{sub:List Value}{col:Option Bool}{dd:Option Addr}{k0 k1 k2 k3 k5:Option Value}{B newId initId:String}
theorem AF (Fb:ExcBaseFacts B newId initId bmB)(hcB:(Value.ref C::bm).contains (.type B)=true)(hcA:(Value.ref C::bm).contains (.type "AttributeError")=false)(hcN:(Value.ref C::bm).contains (.type "NameError")=false)
  {rest:List Value} (hC:h.get? C=some (excClassObj nm q C N bs bm hdct sn sub ab col dd k0 k1 k2 k3 k5 newId))
  (hq:R (.ok (.ret (.ref (h.objs.size+1)))) ⟨(h.push { cls:=.type "tuple",data:=.seq rest.toArray }).push
   { cls:=.ref C,data:=.fields #[.ref h.objs.size,.none,.none,.none,.bool false,.none] },g,d,t,os⟩) (hrest:rest.length≤sizeLine:=by size_fits) :
  codeAny (model prog w) A (.builtin newId ⟨.ref C::rest,[]⟩) R ⟨h,g,d,t,os⟩:=by
 have hends:=Fb.ends
 refine codeAny_builtinAt Fb.entry ?_
 unfold Builtin.«BaseException.__new__»
 refine wpAt_bind ?_
 show wpAt _ _ _ (stack >>= _) _ _ _
 refine wpAt_bind (wpAt_stack fun p below=>wpAt_of_wpAny ?_)
 wp_walk
 refine wpAt_of_wpAny ?_
 rw [Fb.owner]
 repeat (first | with_reducible refine wpAny_madeHere_exc Fb.canon hC ?_ | with_reducible refine wpAny_loadPart_at hC ?_ | (with_reducible refine wpAny_isSubtype_exc hC ?_; first | rewrite [hcB] | rewrite [hcA] | rewrite [hcN]) | wp_step)
 show R _ _
 rw [Heap.size_push]
 exact hq
theorem lW (Fb:ExcBaseFacts B newId initId bmB)(hcB:(Value.ref C::bm).contains (.type B)=true)(hcA:(Value.ref C::bm).contains (.type "AttributeError")=false)(hcN:(Value.ref C::bm).contains (.type "NameError")=false)
  {rest:List Value} {fI:Addr} {oI:Obj} {Q:Fin→Shared→Prop} (hC:h.get? C=some (excClassObj nm q C N bs bm hdct sn sub ab col dd k0 k1 k2 k3 k5 newId))
  (hi:∀ h':Heap,(∀ b o,h.get? b=some o→h'.get? b=some o)→∀ M,Looks M h' (typeLookup (.ref C) "__init__") (some (.ref fI))) (hfI:h.get? fI=some oI) (hfc:oI.cls=.type "function")
  (hq:∀ h' e,Heap.MadeExcOf h h' e (.ref C) rest→
   wpAny (model prog w) A (call (.ref fI) (.ref e::rest)) (fun r s'=>r=.none∧Q (.done (.ret (.ref e))) s') E ⟨h',g,d,t,os⟩) (hrest:rest.length≤sizeLine:=by size_fits) :
  wpAny (model prog w) A (Builtin.«type.__call__» ⟨.ref C::rest,[]⟩) Q E ⟨h,g,d,t,os⟩:=by
 repeat (first | with_reducible refine wpAny_loadPart_at hC ?_ | with_reducible refine wpAny_madeBy_exc hC ?_ | wp_step)
 refine codeAny_call_builtin_code (Code.quiet_builtin _ Fb.quiet) (lZ Fb hcB hC ?_)
 refine AF Fb hcB hcA hcN hC ?_ hrest
 show wpAny _ _ _ _ _ _
 have kp:∀ b o,h.get? b=some o→((h.push { cls:=.type "tuple",data:=.seq rest.toArray }).push { cls:=.ref C,data:=.fields #[.ref h.objs.size,.none,.none,.none,.bool false,.none] }).get? b=some o:=fun b o e=>Heap.get?_push_of_some _ (Heap.get?_push_of_some _ e)
 have hC₁:=kp _ _ hC
 have hfI₁:=kp _ _ hfI
 have hget:((h.push { cls:=.type "tuple",data:=.seq rest.toArray }).push
   { cls:=.ref C,data:=.fields #[.ref h.objs.size,.none,.none,.none,.bool false,.none] }).get? (h.objs.size+1)=some
   { cls:=.ref C,data:=.fields #[.ref h.objs.size,.none,.none,.none,.bool false,.none] }:=by heap_get
 have hcC:(Value.ref C::bm).contains (.ref C)=true:=by simp
 unfold isInstance
 repeat (first | with_reducible refine wpAny_loadPart_at hget ?_ | (with_reducible refine wpAny_isSubtype_exc hC₁ ?_; rw [hcC]) | wp_step)
 show wpAny _ _ (typeLookup (.ref C) _) _ _ _
 refine hi _ kp _ _ _ _ _ (fun _ _ e=>e) ?_
 refine wpAny_holding (wpAny_bind ?_)
 unfold bindSpecial
 refine wpAny_bind (wpAny_typeOf (T:="function") ⟨_,hfI₁,hfc⟩ ?_)
 rw [if_pos (by decide)]
 refine wpAny_pure (wpAny_bind (wpAny_mono (hq _ (h.objs.size+1) ⟨fun b o hb=>Heap.get?_push_of_some _ (Heap.get?_push_of_some _ hb),Heap.get?_none_of_le (Nat.le_succ _),h.objs.size,hget,Heap.get?_none_of_le (Nat.le_refl _),?_⟩) (fun r s' hr=>?_) fun _ _ x=>x))
 ·exact Heap.get?_push_of_some _ (Heap.get?_push_at rfl rfl)
 ·obtain ⟨rfl,hQ⟩:=hr
  wp_walk
  exact hQ
theorem xI (Fb:ExcBaseFacts B newId initId bmB)(hcB:(Value.ref C::bm).contains (.type B)=true)(hcA:(Value.ref C::bm).contains (.type "AttributeError")=false)(hcN:(Value.ref C::bm).contains (.type "NameError")=false)
  {rest:List Value} {fI:Addr} {oI:Obj} {Q:Value→Shared→Prop} (hC:h.get? C=some (excClassObj nm q C N bs bm hdct sn sub ab col dd k0 k1 k2 k3 k5 newId))
  (hi:∀ h':Heap,(∀ b o,h.get? b=some o→h'.get? b=some o)→∀ M,Looks M h' (typeLookup (.ref C) "__init__") (some (.ref fI))) (hfI:h.get? fI=some oI) (hfc:oI.cls=.type "function")
  (hq:∀ h' e,Heap.MadeExcOf h h' e (.ref C) rest→
   wpAny (model prog w) (A.under (.builtin "type.__call__" ⟨.ref C::rest,[]⟩)) (call (.ref fI) (.ref e::rest)) (fun r s'=>r=.none∧Q (.ref e) s') E ⟨h',g,d,t,os⟩) (hrest:rest.length≤sizeLine:=by size_fits) :
  wpAny (model prog w) A (call (.ref C) rest) Q E ⟨h,g,d,t,os⟩:=by
 have f1:=tc_lookup
 have f2:=tc_bind (.ref C)
 have hT:(⟨h,g,d,t,os⟩:Shared).TypeIs (.ref C) "type":=⟨_,hC,rfl⟩
 refine wpAny_call (codeAny_of_tree ?_)
 show wpAny _ _ (callAny (.ref C) _) _ _ _
 repeat (any_goals (first | assumption | with_reducible refine wpAny_loadPart_at hC ?_ | wp_step))
 refine ⟨rfl,?_⟩
 refine codeAny_call_builtin_at (Code.quiet_builtin _ (by decide +kernel)) entry_typeCall (wpAny_check_type_call_sub hC (lW (hrest:=hrest) Fb hcB hcA hcN hC hi hfI hfc fun h' e hm=>?_))
 exact hq h' e hm
end
end
end Mine
end
section
open PySem PySem.W PySem.Calls PyProof.Rows Builtin Builtin.ObjectAttr
namespace Mine
variable {F F' F₀ F'' F₁:Fz}{ρ ρ' ρ₀ τ τ':Rho}{st st' st₀ st₁:St}{A:Around}{s s' s₀ s₁:Shared}{X as:List Addr}{k i n N:Nat}{E:Value→Shared→Prop}{a b C pa aa da ga ra:Addr}{v:Value}{vs L xs ys:List Int}{h:Heap}{ih:Ev}{cx:Cx}{m m':Loc}{env:Env}{pos:Pos}{t T sc far d0 d1 d2 c seed cnt so sp fa c₀ bg wd fi ke mn:Int}{σ σ' σ₁:Hp}{nm q:Str}{bs bm bmB:List Value}{hdct ab:Bool}{sn:List Str}{m0:M}{q0 q1 q2 q3:Addr×Addr}
section
section
variable {x D:Addr}{ox:Obj}{od:Option Obj}{name:Str}{cd:ClassData}
noncomputable abbrev DV:List Value:=[.type "Exception",.type "BaseException",.type "object"]
theorem mw {tk:Tok}{R:Result→Shared→Prop}(X:K.In s.heap)(I:PySem.W.InstAt s.heap x ox C od)(hc:clsIn K C=some cd)(hm:cd.mro=.ref C::.ref D::DV)(hmo:mroIn K C (.type "object")=some true)(ht:takerIn K C name=some none)
  (h:∀ b,wpAny (model prog w) A.in1 (storeInOwnDict (.ref x) (.ref C) (.str name tk) name v b)
   (fun fin s'=>match fin with | .done f=>R (.ok f) s' | .again c'=>c'.quiet=true∧codeAny (model prog w) A c' R s') (fun e s'=>R (.error e) s') s) :
  codeAny (model prog w) A (.call (.builtin "object.__setattr__") ⟨[.ref x,.str name tk,v],[]⟩) R s:=by
 have SF:=PySem.F.store_object
 have SE:=PySem.F.store_Exception
 have sub:Looks (model prog w) s.heap (isInstance (.ref x) (.type "object")) true:=I.type.andThen (looks_mroIn X hmo)
 refine codeAny_call_builtin SF.slot.plain SF.entry (@check_slot (model prog w) _ _ s "object.__setattr__" "object" "__setattr__" (.ref x) [.str name tk,v] [] _ SF.kind SF.split sub (SF.args (.ref x) (.str name tk) v) ?_)
 obtain ⟨attr,ha,hr⟩:=bD ht
 have hmr:Looks (model prog w) s.heap (mroOf (.ref C)) cd.mro:=(looks_clsIn X hc).andThen .now
 have L3:Looks (model prog w) s.heap (storeTaker? attr) none:=by
  cases attr with
  | none=>exact .now
  | some a=>
   obtain ⟨b,hb,e⟩:=dU hr
   refine (looks_takesIn X hb).andThen ?_
   cases b with
   | true=>cases e
   | false=>exact .now
 rw [osa_eq,refuse_eq]
 refine wpAny_bind (wpAny_bind (I.type.here (wpAny_bind (hmr.here ?_))))
 rw [hm,refuseLoop_ref,refuseLoop_ref,SE.passes]
 refine wpAny_pure (wpAny_bind (I.type.here (wpAny_bind ((looks_findIn X ha).here (wpAny_bind (L3.here ?_))))))
 exact h _
theorem lX {vs:Array Value}{Q:Unit→Shared→Prop}(X:K.In s.heap)(hx:s.heap.get? x=some { cls:=.ref C,data:=.fields vs }) (hc:clsIn K C=some cd) (hm:cd.mro=.ref C::.ref D::DV) (hmo:mroIn K C (.type "object")=some true) (ht:takerIn K C name=some none) (hd:cd.hasDict=true)
  (hs:findIn K (.ref C) "__setattr__" = some (some (.builtin "object.__setattr__")))
  (h:∀ h' dx es ep tk,h'.get? x=some { cls:=.ref C,dict:=some dx,data:=.fields vs }→h'.get? dx=some ⟨.type "dict",none,.dict es ep,#[]⟩→StrKeys es→es.size≤1→s.heap.get? dx=none→(∀ b o,b≠x→s.heap.get? b=some o→h'.get? b=some o)→Q () { s with heap:=h',toks:=tk }) :
  wpAny (model prog w) A (setAttr (.ref x) name v) Q E s:=by
 have I:PySem.W.InstAt s.heap x { cls:=.ref C,data:=.fields vs } C none:=⟨hx,rfl,rfl,trivial⟩
 refine set_plain X I hs (mw (s:={ s with toks:=s.toks+1 }) X I hc hm hmo ht fun b=>?_)
 have e:∀ (h:Heap) (tk:Nat),({ s with heap:=h,toks:=tk }:Shared)=⟨h,s.gens,s.drawn,tk,s.os⟩:=fun _ _=>rfl
 have nx:x≠s.heap.objs.size:=Nat.ne_of_lt (Heap.lt_size hx)
 refine wpAny_bind (wpAny_pure (wpAny_bind (wpAny_bind (wpAny_loadPart hx (wpAny_bind ((looks_clsIn X hc) _ _ _ _ (fun _ _ e=>e) ?_))))))
 rw [hd]
 rw [if_neg (by decide)]
 show wpAny _ _ (do
  let d←alloc { cls:=Value.type "dict",data:=Data.dict #[] }
  update x fun o=>{ cls:=o.cls,dict:=some d,data:=o.data,slots:=o.slots }
  dictMade (.ref C) x d) _ _ _
 have hx₁:(s.heap.push { cls:=.type "dict",data:=.dict #[] }).get? x=some { cls:=.ref C,data:=.fields vs }:=Heap.get?_push_of_some _ hx
 refine wpAny_bind (wpAny_alloc (wpAny_bind (wpAny_update hx₁ (wpAny_pure ?_))))
 have hd₁:((s.heap.push { cls:=.type "dict",data:=.dict #[] }).update x fun o=>{ cls:=o.cls,dict:=some s.heap.objs.size,data:=o.data,slots:=o.slots }).get? s.heap.objs.size=some ⟨.type "dict",none,.dict #[] 0,#[]⟩:=
  (Heap.get?_update_other _ _ nx).trans (Heap.get?_push_size _ rfl)
 have hx₂:((s.heap.push { cls:=.type "dict",data:=.dict #[] }).update x fun o=>{ cls:=o.cls,dict:=some s.heap.objs.size,data:=o.data,slots:=o.slots }).get? x=some { cls:=.ref C,dict:=some s.heap.objs.size,data:=.fields vs }:=
  Heap.get?_update_self _ hx₁ rfl
 show wpAny _ _ (storeInDict s.heap.objs.size (.str name s.toks) name v) _ _ _
 unfold storeInDict newKeyGuard
 refine wpAny_bind (wpAny_pure (wpAny_bind ?_))
 refine jq hd₁ (fun e he=>by simp at he) fun h' es' ep' e1 e2 e3 e4 sb=>?_
 refine wpAny_bind (wpAny_lookBehind (o:=⟨.type "dict",none,.dict es' ep',#[]⟩) e1 (pastItsLine_dict (by rw [e3,sizeLine_eq]; split<;>simp)) ?_)
 refine wpAny_pure ?_
 refine h h' _ es' ep' _ ((sb.2 _ nx).trans hx₂) e1 e2 (by rw [e3]; split<;>simp) (Heap.get?_none_of_le (Nat.le_refl _)) fun b o nb eb=>?_
 exact (sb.2 b (Nat.ne_of_lt (Heap.lt_size eb))).trans ((Heap.get?_update_other _ _ (Ne.symm nb)).trans (Heap.get?_push_of_some _ eb))
theorem nW {vs:Array Value}{dx:Addr}{es:Array DictEntry}{ep:Nat}{Q:Unit→Shared→Prop}(X:K.In s.heap)(hx:s.heap.get? x=some { cls:=.ref C,dict:=some dx,data:=.fields vs }) (hdx:s.heap.get? dx=some ⟨.type "dict",none,.dict es ep,#[]⟩) (hk:StrKeys es) (hsz:es.size≤10)
  (hc:clsIn K C=some cd) (hm:cd.mro=.ref C::.ref D::DV) (hmo:mroIn K C (.type "object")=some true) (ht:takerIn K C name=some none) (hd:cd.hasDict=true)
  (hs:findIn K (.ref C) "__setattr__" = some (some (.builtin "object.__setattr__")))
  (h:∀ h' tk,h'.get? x=some { cls:=.ref C,dict:=some dx,data:=.fields vs }→(∃ o,h'.get? dx=some o)→(∀ b o,b≠dx→s.heap.get? b=some o→h'.get? b=some o)→Q () { s with heap:=h',toks:=tk }) :
  wpAny (model prog w) A (setAttr (.ref x) name v) Q E s:=by
 have I:PySem.W.InstAt s.heap x { cls:=.ref C,dict:=some dx,data:=.fields vs } C (some ⟨.type "dict",none,.dict es ep,#[]⟩):=⟨hx,rfl,rfl,hdx⟩
 refine set_plain X I hs (mw (s:={ s with toks:=s.toks+1 }) X I hc hm hmo ht fun b=>?_)
 refine wpAny_bind (wpAny_pure (wpAny_bind (wpAny_bind (wpAny_loadPart hx (wpAny_bind ((looks_clsIn X hc) _ _ _ _ (fun _ _ e=>e) ?_))))))
 rw [hd]
 rw [if_neg (by decide)]
 refine wpAny_pure (a:=some dx) (wpAny_bind (wpAny_pure (wpAny_bind ?_)))
 refine jq (s:={ s with toks:=s.toks+1 }) hdx hk fun h' es' ep' e1 e2 e3 e4 sb=>?_
 refine wpAny_bind (wpAny_lookBehind (o:=⟨.type "dict",none,.dict es' ep',#[]⟩) e1 (pastItsLine_dict (by rw [e3,sizeLine_eq]; split<;>omega)) ?_)
 refine wpAny_pure ?_
 have ne:x≠dx:=fun e=>by rw [e,hdx] at hx; cases hx
 exact h h' _ ((sb.2 _ ne).trans hx) ⟨_,e1⟩ fun b o nb eb=>(sb.2 b nb).trans eb
end
end
end Mine
end
section
open PySem PySem.W
namespace Mine
variable {F F' F₀ F'' F₁:Fz}{ρ ρ' ρ₀ τ τ':Rho}{st st' st₀ st₁:St}{A:Around}{s s' s₀ s₁:Shared}{X as:List Addr}{k i n N:Nat}{E:Value→Shared→Prop}{a b C pa aa da ga ra:Addr}{v:Value}{vs L xs ys:List Int}{h:Heap}{ih:Ev}{cx:Cx}{m m':Loc}{env:Env}{pos:Pos}{t T sc far d0 d1 d2 c seed cnt so sp fa c₀ bg wd fi ke mn:Int}{σ σ' σ₁:Hp}{nm q:Str}{bs bm bmB:List Value}{hdct ab:Bool}{sn:List Str}{m0:M}{q0 q1 q2 q3:Addr×Addr}
section
section
variable {g:Array GenState}{d:Drawn}{t:Nat}{os:OsState}
variable {N:Addr}{sub:List Value}{col:Option Bool}{dd:Option Addr}{k0 k1 k2 k3 k5:Option Value}{B newId nid initId:String}
theorem lB {M:Model}(Fb:ExcBaseFacts B nid initId bmB)(hcB:(Value.ref C::bm).contains (.type B)=true){e:Addr}{oe:Obj}{rest:List Value}{Q:Unit→Shared→Prop}
  (hC:h.get? C=some (excClassObj nm q C N bs bm hdct sn sub ab col dd k0 k1 k2 k3 k5 newId)) (he:h.get? e=some oe) (hcls:oe.cls=.ref C) (hq:Q () ⟨h,g,d,t,os⟩) :
  wpAny M A (checkBuiltinCall initId ⟨.ref e::rest,[]⟩) Q E ⟨h,g,d,t,os⟩:=by
 have hshort:=Fb.noStar
 simp only [checkBuiltinCall,Fb.initKind,Fb.initSplit,Fb.initRow]
 repeat (first | (with_reducible refine wpAny_loadPart_at he ?_; rw [hcls]) | with_reducible refine wpAny_loadPart_at hC ?_ | (with_reducible refine wpAny_isSubtype_exc hC ?_; rw [hcB]) | wp_step)
 refine wpAny_onRaise ?_
 rw [show ∀ (a b:String) (n:Nat),Bind.check ⟨.positional,"*",B,.self,[⟨"args",.varPos,false⟩]⟩ a b n (List.map (fun x=>x.fst) ({ pos:=Value.ref e::rest }:Args).kw)=pure () from
  fun a b n=>check_star_args _ _ _ _ _ _]
 exact wpAny_pure hq
theorem lY (Fb:ExcBaseFacts B nid initId bmB)(hcB:(Value.ref C::bm).contains (.type B)=true){e t0:Addr}{rest:List Value}{Q:Value→Shared→Prop}
  (hC:h.get? C=some (excClassObj nm q C N bs bm hdct sn sub ab col dd k0 k1 k2 k3 k5 newId)) (he:h.get? e=some { cls:=.ref C,data:=.fields #[.ref t0,.none,.none,.none,.bool false,.none] })
  (hQ:∀ h',h'.get? e=some { cls:=.ref C,data:=.fields #[.ref h.objs.size,.none,.none,.none,.bool false,.none] }→(∀ b o,b≠e→h.get? b=some o→h'.get? b=some o)→Q .none ⟨h',g,d,t,os⟩) (hrest:rest.length≤sizeLine:=by size_fits) :
  wpAny (model prog w) A (call (.builtin initId) (.ref e::rest)) Q E ⟨h,g,d,t,os⟩:=by
 refine wpAny_call (codeAny_call_builtin Fb.init.plain Fb.initEntry (lB Fb hcB hC he rfl ?_))
 unfold Builtin.«BaseException.__init__»
 dsimp only
 rw [if_neg (by simp)]
 unfold newTuple Builtin.BaseException.bexcPut
 have he₁:=Heap.get?_push_of_some (h:=h) { cls:=.type "tuple",data:=.seq rest.toArray } he
 refine wpAny_bind (wpAny_newObj_type (wpAny_bind (wpAny_bind (wpAny_field he₁ rfl rfl (wpAny_bind (wpAny_setField he₁ rfl (by show 0<6; decide) ?_))))) (by show rest.toArray.size≤sizeLine; rw [List.size_toArray]; exact hrest))
 refine wpAny_letGo (wpAny_pure ?_)
 refine hQ _ ?_ fun b o nb eb=>(Heap.get?_update_other _ _ (Ne.symm nb)).trans (Heap.get?_push_of_some _ eb)
 rw [Heap.get?_update_self _ he₁ rfl]
 rfl
end
end
end Mine
end
section
open PySem PySem.W PySem.Calls PyProof.Rows
namespace Mine
variable {F F' F₀ F'' F₁:Fz}{ρ ρ' ρ₀ τ τ':Rho}{st st' st₀ st₁:St}{A:Around}{s s' s₀ s₁:Shared}{X as:List Addr}{k i n N:Nat}{E:Value→Shared→Prop}{a b C pa aa da ga ra:Addr}{v:Value}{vs L xs ys:List Int}{h:Heap}{ih:Ev}{cx:Cx}{m m':Loc}{env:Env}{pos:Pos}{t T sc far d0 d1 d2 c seed cnt so sp fa c₀ bg wd fi ke mn:Int}{σ σ' σ₁:Hp}{nm q:Str}{bs bm bmB:List Value}{hdct ab:Bool}{sn:List Str}{m0:M}{q0 q1 q2 q3:Addr×Addr}
section
section
theorem lr {T:String}{x:Str}{i:String}{pl:Sem Bool}{Q:Value×List Value→Shared→Prop}(X:K.In s.heap)(ht:typeOf (.type T)=pure (.type "type"))(hs:Manifest.isStub T=false)
  (e:findCls K (.type T) (.type "type") x=some (.val (.builtin i))) (hh:handedIn (.builtin i)=true) (h:Q (.builtin i,[]) { s with toks:=s.toks+1 }):wpAny (model prog w) A (getMethod (.type T) x pl) Q E s:=by
 have hstub:opaqueClassAbove (.type T)=pure none:=by unfold opaqueClassAbove; dsimp only; rw [hs]; rfl
 have L0:Looks (model prog w) s.heap (typeOf (.type T)) (.type "type"):=Looks.of_pure ht
 have hg:findIn K (.type "type") "__getattribute__" = some (some (.builtin "type.__getattribute__")):=type_tga
 unfold getMethod specialOf
 refine wpAny_bind (wpAny_bind (L0.here ((looks_findIn X hg).here ?_)))
 dsimp only
 rw [if_pos canon_tga]
 refine wpAny_bind (wpAny_mono (Q:=fun v=>Q (v,[])) (E:=E) ?_ (fun _ _ z=>wpAny_pure z) fun _ _ z=>z)
 have LO:Looks (model prog w) s.heap (opaqueClassAbove (.type T)) none:=Looks.of_pure hstub
 refine cls_open X LO L0 hg (looks_hook X (r:=none) (by rfl)) (by show subIn K _ _=_; rfl) e
  (wpAny_pure (by show wpAny _ _ (handedOut _) _ _ _; rw [handedOut_of hh]; exact wpAny_pure h))
theorem r4 {v:Ev}(S:aG v){o:Expr}{x:Str}{apos pos:Pos}{args:List Expr}{svs:List SV}{vo:Value}{i:String}{Q:Value→Shared→Prop}(rm:aj cx.d A)(at':At F ρ st s)(fm:Fm F ρ st.σ cx env m s.heap)
  (q1:lF o=true) (q2:noStar args=true) (q3:args.length<20) (q4:apos.endLine=pos.line)
  (h1:wpAny (model prog w) A (eval o env) (fun v₁ s₁=>v₁=vo∧s₁=s) E s)
  (h2:∀ {Q:Value×List Value→Shared→Prop} {pl:Sem Bool},Q (.builtin i,[]) { s with toks:=s.toks+1 }→wpAny (model prog w) A (getMethod vo x pl) Q E s)
  (h3:(v.es cx m args st).Ok fun r=>r=(svs,st'))
  (h:∀ F' ρ' s' vs,To [] F ρ st s F' ρ' st' s'→ag (SV.Is ρ') svs vs→wpAny (model prog w) A (call (.builtin i) vs) Q E s'):wpAny (model prog w) A (eval (.Call (.Attribute o x apos) args [] pos) env) Q E s:=by
 rw [arm_eval_Call,jJ q1]
 refine wpAny_bind (wpAny_mono h1 (fun v₁ s₁ e=>?_) fun _ _ x=>x)
 obtain ⟨rfl,rfl⟩:=e
 refine wpAny_bind (wpAny_standAt ?_)
 have few:methodCallForm (args.length+0) (backTo pos (starEach args env)) (backToKw pos (keywordEach [] env))=true:=by
  unfold methodCallForm
  have:(backTo pos (starEach args env)).all (fun x=>!x.1)=true:=by
   have:=aY q2 env pos
   rw [List.any_eq_false] at this
   rw [List.all_eq_true]
   intro x hx
   simpa using this x hx
  rw [this]
  show (true&&true&&decide (args.length+0+0<30))=true
  simp; omega
 unfold methodCall
 rw [show args.length+([]:List Keyword).length=args.length+0 from rfl,few]
 refine wpAny_bind (wpAny_holding (show wpAny _ _ (getMethod v₁ x _) _ _ _ from h2 ?_))
 dsimp only
 have hpos:methodCallPos true o env apos pos=pure pos:=by
  unfold methodCallPos
  rw [q4]; simp
 rw [hpos]
 refine wpAny_bind (wpAny_pure ?_)
 refine callWith_of (P:=fun h=>True) ?_ (fun _ _=>⟨.machine,.inr (.inl rfl),Looks.of_pure rfl⟩) (ch q2 ?_)
 ·rw [aY q2]; rfl
 ·refine S.es rm (at'.tok (s₁.toks+1)) fm (h3.mono fun r er F₃ ρ₃ s₃ vs₃ T₃ i₃=>?_)
  subst er
  exact ⟨trivial,h F₃ ρ₃ s₃ vs₃ ((To.tok at' _).trans T₃) i₃⟩
theorem jG {x:Str}{pos:Pos}{bv:Value}(at':At F ρ st s)(fm:Fm F ρ st.σ cx env m s.heap)(nd:sEq x "__debug__" = false)(hl:af x cx.sc.names=some .globalImplicit)(hn:nsIn K mainGlobals x=some none)(hb:bootBuiltins x=some bv)(hne:x≠"__name__"){Q:Value→Shared→Prop}
  (h:Q bv s):wpAny (model prog w) A (eval (.Name x pos) env) Q E s:=by
 have hk:=f5 fm.eok x
 have hf:=cL fm.eok
 have nd:(x == ("__debug__" : Str))=false:=by rw [←fU]; exact nd
 rw [hl] at hk
 obtain ⟨mg,hg,hgl⟩:=at'.rep.world.g
 have hg':s.heap.Ns env.globals mg:=by rw [fm.eok.gl]; exact hg
 obtain ⟨mb,hbn,hbl⟩:=at'.rep.world.b
 have hb':s.heap.Ns env.builtins mb:=by rw [fm.eok.bu]; exact hbn
 exact Name_function_global hf hk (loadGlobal_builtin hg' (hgl _ _ hn) hb' ((hbl x hne).trans hb) h) nd
end
end
section
noncomputable def D9 (e:Expr):Expr:=if h:e.ctorIdx=20 then Expr.Attribute.elim e h fun o _ _=>o else dq
noncomputable abbrev meB (p:Params):List Stmt:=bK p 36
noncomputable abbrev meE (p:Params):Expr:=aI (ad 0 (meB p))
noncomputable abbrev meT (p:Params)(k:Nat):Expr:=bc 0 (jl (ad k (meB p)))
section
variable (p:Params)
theorem zI:meB p=.Expr (.Call (.Attribute (.Name "Exception" (ao (D9 (caF (meE p))))) "__init__" (ao (caF (meE p)))) (caA (meE p)) [] (ao (meE p))) (aS (ad 0 (meB p))) ::
  .Assign [.Attribute (.Name "self" (ao (D9 (meT p 1)))) "what" (ao (meT p 1))] (aI (ad 1 (meB p))) (aS (ad 1 (meB p))) ::
  .Assign [.Attribute (.Name "self" (ao (D9 (meT p 2)))) "at" (ao (meT p 2))] (aI (ad 2 (meB p))) (aS (ad 2 (meB p)))::[]:=by rfl'
theorem zD:noStar (caA (meE p))=true:=by rfl'
theorem CQ:Nat.blt (caA (meE p)).length 20=true:=by rfl'
theorem CP:Nat.beq (ao (caF (meE p))).endLine (ao (meE p)).line=true:=by rfl'
theorem rB:fW (aI (ad 1 (meB p)))=true:=by rfl'
theorem rz:fW (aI (ad 2 (meB p)))=true:=by rfl'
noncomputable abbrev rC (p:Params)(d:Nat):Cx:=⟨aK p 36,[],d⟩
noncomputable def meL (e:Addr)(x:Str):Loc:=[("self",.sta e),("what",.str x),("at",.none)]
theorem zG (d:Nat):af ("Exception" : Str) (rC p d).sc.names=some .globalImplicit:=by rfl'
theorem FF:nsIn (an p) mainGlobals ("Exception" : Str)=some none:=by rfl'
theorem zH:findCls (an p) (.type "Exception") (.type "type") ("__init__" : Str)=some (.val (.builtin "Exception.__init__")):=by rfl'
theorem zJ (d:Nat)(e:Addr)(x:Str)(σ:Hp)(n:Nat):∀ v:Ev,v=ev (an p) noX 20→bw (v.es (rC p d) (meL e x) (caA (meE p)) ⟨σ,n⟩)=([([],[],[.sta e,.str x],⟨σ,n⟩)]:LEs):=by rintro _ rfl; rfl'
theorem FE (d:Nat)(e:Addr)(x:Str)(σ:Hp)(n:Nat):∀ v:Ev,v=ev (an p) noX 20→am (v.e (rC p d) (meL e x) (aI (ad 1 (meB p))) ⟨σ,n⟩)=([([],[],.str x,⟨σ,n⟩)]:LE):=by rintro _ rfl; rfl'
theorem FD (d:Nat)(e:Addr)(x:Str)(σ:Hp)(n:Nat):∀ v:Ev,v=ev (an p) noX 20→am (v.e (rC p d) (meL e x) (aI (ad 2 (meB p))) ⟨σ,n⟩)=([([],[],.none,⟨σ,n⟩)]:LE):=by rintro _ rfl; rfl'
theorem tq (d:Nat)(e:Addr)(x:Str)(k:Nat)(σ:Hp)(n:Nat)(pos:Pos):∀ v:Ev,v=ev (an p) noX 20→am (v.e (rC p d) (meL e x) (.Name "self" pos) ⟨σ,n⟩)=([([],[],.sta e,⟨σ,n⟩)]:LE):=by rintro _ rfl; rfl'
noncomputable def rE:List Value:=[.ref 46,.type "Exception",.type "BaseException",.type "object"]
theorem nG:(an p).lookup 71=some (excClassObj "MachineError" "MachineError" 71 70 [.ref 46] rE true [] [] false none none (some (.ref 62)) none (some (.str "MachineError" 250)) (some (.str "MachineError" 258)) (some (.bool true)) "Exception.__new__"):=by rfl'
noncomputable def IU:ClassData:={ name:="MachineError",bases:=[.ref 46],mro:=.ref 71::rE,ns:=70,qualname:="MachineError",hasDict:=true,slotNames:=[],subclasses:=[],abstract:=false,collection:=none,hasDel:=false }
theorem pz:clsIn (an p) 71=some IU:=by rfl'
theorem Bm:(Value.ref 71::rE).contains (.type "Exception")=true:=by decide +kernel
theorem FH:(Value.ref 71::rE).contains (.type "AttributeError")=false:=by decide +kernel
theorem FG:(Value.ref 71::rE).contains (.type "NameError")=false:=by decide +kernel
theorem wK:mroIn (an p) 71 (.type "object")=some true:=by rfl'
theorem CO:takerIn (an p) 71 ("what" : Str)=some none:=by rfl'
theorem CN:takerIn (an p) 71 ("at" : Str)=some none:=by rfl'
theorem Bl:findIn (an p) (.ref 71) ("__setattr__" : Str)=some (some (.builtin "object.__setattr__")):=by rfl'
theorem zF:findIn (an p) (.ref 71) ("__init__" : Str)=some (some (.ref 36)):=by rfl'
end
end
section
theorem B0 (s:Shared):s=⟨s.heap,s.gens,s.drawn,s.toks,s.os⟩:=rfl
section
noncomputable def yz (h:Heap)(e:Addr)(od:Option Addr):Prop:=∃ t,h.get? e=some { cls:=.ref 71,dict:=od,data:=.fields #[.ref t,.none,.none,.none,.bool false,.none] }
theorem qN:typeOf (.type "Exception")=pure (.type "type"):=by rfl'
theorem To.beside1 (at':At F ρ st s){a:Addr}{h':Heap}{tk:Nat}(o:a∉ae ρ st.σ∧F a=none)(kb:∀ c o,c≠a→s.heap.get? c=some o→h'.get? c=some o)(lv:∃ o',h'.get? a=some o'):To [a] F ρ st s F ρ st { s with heap:=h',toks:=tk }:=
 .beside at' (fun c h=>ak h▸o.1) (fun c h=>ak h▸o.2) (fun c o h=>kb c o fun z=>h (z▸List.mem_singleton_self _)) fun c _ h _=>ak h▸lv
set_option maxHeartbeats 2000000 in
theorem pw {d:Nat}{e t0:Addr}{x:Str}{t:Tok}{Q:Value→Shared→Prop}(rm:aj (d+2) A)(at':At F ρ st s)(he:s.heap.get? e=some { cls:=.ref 71,data:=.fields #[.ref t0,.none,.none,.none,.bool false,.none] })
  (hout:e∉ae ρ st.σ∧F e=none) (h:∀ F' s' dx,To [e] F ρ st s F' ρ st s'→yz s'.heap e (some dx)→Q .none s'):wpAny (model prog w) A (call (.ref 36) [.ref e,.str x t]) Q E s:=by
 obtain ⟨v,hv⟩:∃ v,v=ev (an p) noX 20:=⟨_,rfl⟩
 have S:aG v:=hv▸bW cb 20
 have X:=at'.rep.world.inK
 have key:∃ fd,cG ((an p).lookup 36)=some fd∧dN fd=some (["self","what","at"]:List Str)∧eU (an p) fd=some [.none]∧fg fd.body=some (meB p)∧kg (an p) fd (["self","what","at"]:List Str)=true∧fd.scope=(rC p 0).sc:=by
  refine ⟨_,rfl,?_,?_,?_,?_,?_⟩<;>rfl'
 obtain ⟨fd,e0,e1,e2,e3,p1,esc⟩:=key
 have fn:=(rY X e0 e1 e2 e3 p1).1
 refine wpAny_call (om (cells:=[]) (args:=[.sta e,.str x]) (sds:=[.none]) rm at' fn (fun _ _ z=>nos z) (.cons rfl (.cons ⟨t,rfl⟩ .nil)) (.cons rfl .nil) rfl fun env s₀ T₀ fm₀ nw rm' _ kp=>?_)
 rw [esc] at fm₀
 have fm₀:Fm F ρ st.σ (rC p (d+1)) env (meL e x) s₀.heap:=fm₀
 obtain ⟨σ,n⟩:=st
 have hlen:ρ.length=n:=at'.len
 have nl:=@noA env.locals
 have nel:env.locals≠e:=fun z=>by rw [z,he] at nw; cases nw
 have nle:env.locals∉[e]:=by simpa using nel
 have cls:∀ {F' ρ' st' s'},At F' ρ' st' s'→s'.heap.get? 71=some _:=fun a=>a.rep.world.inK _ _ (nG p)
 have he₀:s₀.heap.get? e=some { cls:=.ref 71,data:=.fields #[.ref t0,.none,.none,.none,.bool false,.none] }:=kp _ _ he
 rw [zI]
 refine wpAny_execs_cons (wpAny_Expr_any ?_ (by unfold interactive; rw [cL fm₀.eok]; rfl) rfl)
 refine r4 S (vo:=.type "Exception") (i:="Exception.__init__") rm' T₀.at' fm₀ rfl (zD p) (cC (CQ p)) (iY (CP p)) (jG T₀.at' fm₀ rfl (zG p _) (FF p) (by decide +kernel) (by decide) ⟨rfl,rfl⟩)
  (fun h=>lr T₀.at'.rep.world.inK qN (by decide +kernel) (zH p) (by decide +kernel) h) (ac _ (zJ p _ e x σ n v hv) noP rfl) (bS hlen fun F₁ s₁ vs T₁ ivs=>?_)
 obtain ⟨v1,v2,rfl,i1,i2⟩:=ag.inv2 ivs
 cases i1
 have o₀:=T₀.outside he hout
 have o₁:=T₁.outside he₀ o₀
 have he₁:=T₁.ext.keep _ _ he₀ o₀.1 (fun z=>nomatch z)
 have fm₁:=fm₀.to T₁ nl
 refine lY PySem.F.excBase_Exception Bm (cls T₁.at') he₁ fun h₂ he₂ kb₂=>?_
 have T₂:To [e] F₁ ρ ⟨σ,n⟩ s₁ F₁ ρ ⟨σ,n⟩ { s₁ with heap:=h₂,toks:=s₁.toks }:=To.beside1 T₁.at' o₁ kb₂ ⟨_,he₂⟩
 have fm₂:=fm₁.to T₂ nle
 have o₂:=T₂.outside he₁ o₁
 have T₀₂:=(T₀.nil (X:=[e])).trans ((T₁.nil (X:=[e])).trans T₂)
 refine wpAny_execs_cons (eu (S.e rm' T₂.at' fm₂ (ac _ (FE p _ e x σ n v hv) noP (bS hlen fun F₃ s₃ v₃ T₃ i₃=>?_))) (dh (rB p) _ _) (cK rfl) (dJ rfl))
 show wpAny _ _ (assign (.Attribute (.Name "self" _) "what" _) env _) _ _ _
 rw [arm_assign_Attribute]
 have fm₃:=fm₂.to T₃ nl
 have he₃:=T₃.ext.keep _ _ he₂ o₂.1 (fun z=>nomatch z)
 have o₃:=T₃.outside (s:={ s₁ with heap:=h₂,toks:=s₁.toks }) he₂ o₂
 refine wpAny_bind (wpAny_holding (S.e rm' T₃.at' fm₃ (ac _ (tq p _ e x 0 σ n _ v hv) noP (bS hlen fun F₄ s₄ v₄ T₄ i₄=>?_))))
 cases i₄
 have he₄:=T₄.ext.keep _ _ he₃ o₃.1 (fun z=>nomatch z)
 have o₄:=T₄.outside he₃ o₃
 have fm₄:=fm₃.to T₄ nl
 refine wpAny_bind (wpAny_standAt (wpAny_bind (wpAny_holding ?_)))
 refine lX T₄.at'.rep.world.inK he₄ (pz p) rfl (wK p) (CO p) rfl (Bl p) fun h₅ dx es ep tk he₅ hdx₅ hes hsz hdx kb₅=>?_
 refine wpAny_release ?_
 have T₅:To [e] F₄ ρ ⟨σ,n⟩ s₄ F₄ ρ ⟨σ,n⟩ { s₄ with heap:=h₅,toks:=tk }:=To.beside1 T₄.at' o₄ kb₅ ⟨_,he₅⟩
 have fm₅:=fm₄.to T₅ nle
 have o₅:=T₅.outside he₄ o₄
 have T₀₅:=T₀₂.trans ((T₃.nil (X:=[e])).trans ((T₄.nil (X:=[e])).trans T₅))
 have dxout:=T₄.at'.new hdx
 have dxl:env.locals≠dx:=fun z=>by
  obtain ⟨_,⟨o,_,_,ho',_⟩,_⟩:=fm₄.ns
  rw [z,hdx] at ho'; cases ho'
 have dxs:s.heap.get? dx=none:=by
  cases q:s.heap.get? dx with
  | none=>rfl
  | some o=>
   obtain ⟨o',e'⟩:=(T₀₂.trans ((T₃.nil (X:=[e])).trans (T₄.nil (X:=[e])))).ext.live _ _ q
   rw [hdx] at e'; cases e'
 refine wpAny_execs_cons (eu (S.e rm' T₅.at' fm₅ (ac _ (FD p _ e x σ n v hv) noP (bS hlen fun F₆ s₆ v₆ T₆ i₆=>?_))) (dh (rz p) _ _) (cK rfl) (dJ rfl))
 show wpAny _ _ (assign (.Attribute (.Name "self" _) "at" _) env _) _ _ _
 rw [arm_assign_Attribute]
 have fm₆:=fm₅.to T₆ nl
 have he₆:=T₆.ext.keep _ _ he₅ o₅.1 (fun z=>nomatch z)
 have hdx₆:=T₆.ext.keep _ _ hdx₅ dxout.1 (fun z=>nomatch z)
 have o₆:=T₆.outside (s:={ s₄ with heap:=h₅,toks:=tk }) he₅ o₅
 have d₆:=T₆.outside (s:={ s₄ with heap:=h₅,toks:=tk }) hdx₅ dxout
 refine wpAny_bind (wpAny_holding (S.e rm' T₆.at' fm₆ (ac _ (tq p _ e x 0 σ n _ v hv) noP (bS hlen fun F₇ s₇ v₇ T₇ i₇=>?_))))
 cases i₇
 have he₇:=T₇.ext.keep _ _ he₆ o₆.1 (fun z=>nomatch z)
 have hdx₇:=T₇.ext.keep _ _ hdx₆ d₆.1 (fun z=>nomatch z)
 have o₇:=T₇.outside he₆ o₆
 have d₇:=T₇.outside hdx₆ d₆
 have fm₇:=fm₆.to T₇ nl
 refine wpAny_bind (wpAny_standAt (wpAny_bind (wpAny_holding ?_)))
 refine nW T₇.at'.rep.world.inK he₇ hdx₇ hes (by omega) (pz p) rfl (wK p) (CN p) rfl (Bl p) fun h₈ tk₈ he₈ hoy kb₈=>?_
 refine wpAny_release ?_
 refine wpAny_execs_nil ?_
 obtain ⟨oy,hoy⟩:=hoy
 have T₈:To [dx] F₇ ρ ⟨σ,n⟩ s₇ F₇ ρ ⟨σ,n⟩ { s₇ with heap:=h₈,toks:=tk₈ }:=To.beside1 T₇.at' d₇ kb₈ ⟨_,hoy⟩
 have TT:To [env.locals,dx,e] F ρ ⟨σ,n⟩ s F₇ ρ ⟨σ,n⟩ { s₇ with heap:=h₈,toks:=tk₈ }:=
  (T₀₅.weaken (by simp)).trans ((T₆.nil).trans ((T₇.nil).trans (T₈.weaken (by simp))))
 refine h _ _ dx ⟨TT.at',TT.ext.drop fun a ha=>?_,TT.sh⟩ ⟨_,he₈⟩
 rcases gx ha with rfl | rfl | rfl
 ·exact .inr nw
 ·exact .inr dxs
 ·exact .inl (by simp)
end
end
end Mine
end
section
open PySem PySem.W
namespace Mine
variable {F F' F₀ F'' F₁:Fz}{ρ ρ' ρ₀ τ τ':Rho}{st st' st₀ st₁:St}{A:Around}{s s' s₀ s₁:Shared}{X as:List Addr}{k i n N:Nat}{E:Value→Shared→Prop}{a b C pa aa da ga ra:Addr}{v:Value}{vs L xs ys:List Int}{h:Heap}{ih:Ev}{cx:Cx}{m m':Loc}{env:Env}{pos:Pos}{t T sc far d0 d1 d2 c seed cnt so sp fa c₀ bg wd fi ke mn:Int}{σ σ' σ₁:Hp}{nm q:Str}{bs bm bmB:List Value}{hdct ab:Bool}{sn:List Str}{m0:M}{q0 q1 q2 q3:Addr×Addr}
section
section
variable {M:Model}
variable {N:Addr}{sub:List Value}{col:Option Bool}{dd:Option Addr}{k0 k1 k2 k3 k5:Option Value}{newId:String}
theorem rj {s:Shared}{x:Sem Value}{Q:Flow→Shared→Prop}(hcB:(Value.ref C::bm).contains (.type "BaseException")=true)(hh:A.handled=none)
  (h:wpAny M A x (fun v s₁=>∃ e t od,v=.ref e∧s₁.heap.get? C=some (excClassObj nm q C N bs bm hdct sn sub ab col dd k0 k1 k2 k3 k5 newId)∧
   s₁.heap.get? e=some { cls:=.ref C,dict:=od,data:=.fields #[.ref t,.none,.none,.none,.bool false,.none] }∧E (.ref e) s₁) E s) :
  wpAny M A (raiseStmt env (some x) none) Q E s:=by
 unfold raiseStmt
 refine wpAny_bind (wpAny_mono h (fun v s₁ h₁=>?_) fun _ _ x=>x)
 obtain ⟨e,t,od,rfl,hC,he,hE⟩:=h₁
 obtain ⟨hp,g,d,tk,os⟩:=s₁
 repeat (first | with_reducible refine wpAny_loadPart_at he ?_ | with_reducible refine wpAny_loadPart_at hC ?_ | (with_reducible refine wpAny_isSubtype_exc hC ?_; rw [hcB]) | wp_step)
 exact wpAny_raiseNew_none hh hE
end
end
end Mine
end
section
open PySem PySem.W PySem.Calls PyProof.Rows
namespace Mine
variable {F F' F₀ F'' F₁:Fz}{ρ ρ' ρ₀ τ τ':Rho}{st st' st₀ st₁:St}{A:Around}{s s' s₀ s₁:Shared}{X as:List Addr}{k i n N:Nat}{E:Value→Shared→Prop}{a b C pa aa da ga ra:Addr}{v:Value}{vs L xs ys:List Int}{h:Heap}{ih:Ev}{cx:Cx}{m m':Loc}{env:Env}{pos:Pos}{t T sc far d0 d1 d2 c seed cnt so sp fa c₀ bg wd fi ke mn:Int}{σ σ' σ₁:Hp}{nm q:Str}{bs bm bmB:List Value}{hdct ab:Bool}{sn:List Str}{m0:M}{q0 q1 q2 q3:Addr×Addr}
section
section
variable {M:Model}
theorem CB {base:Heap}{env:Env}{outer:List Env}{L e:Addr}{oe:Obj}{vs:Array Value}{Q:Unit→Shared→Prop}
  (hfr:A.frames=some (env::outer)) (hl:s.heap.FunFrames base (env::outer)) (hf:env.frame=some L)
  (he:s.heap.get? e=some oe) (hkb:base.StaysIn s.heap) (hen:base.get? e=none) (hd:oe.data=.fields vs) (h1:vs[1]?=some .none)
  (h:∀ h',Heap.Left base (env::outer) e oe.cls s.heap h'→Q () { s with heap:=h' }):wpAny M A (noteFrame (.ref e) env) (fun _ s'=>wpAny M A (setFlight (.ref e) none) Q E s') E s:=by
 unfold noteFrame
 simp only [hf]
 refine wpAny_bind (wpAny_field he hd h1 ?_)
 rw [if_neg (by decide)]
 exact wpAny_newEntry hfr hl hf he hkb hen hd (Array.getElem?_eq_some_iff.mp h1).1 h
theorem uo {base:Heap}{env:Env}{outer:List Env}{L e:Addr}{cls:Value}{Q:Unit→Shared→Prop}
  (hfr:A.frames=some (env::outer)) (hl:s.heap.FunFrames base (env::outer)) (hf:env.frame=some L) (ht:s.heap.Traced base e cls) (hkb:base.StaysIn s.heap) (hen:base.get? e=none)
  (h:∀ h',Heap.Left base (env::outer) e cls s.heap h'→Q () { s with heap:=h' }):wpAny M A (noteFrame (.ref e) env) (fun _ s'=>wpAny M A (setFlight (.ref e) none) Q E s') E s:=by
 obtain ⟨oe,vs,T,oT,ts,he,hcls,hd,h1,hnT,hTe,hT,hdT,h3⟩:=ht
 subst hcls
 unfold noteFrame
 simp only [hf]
 refine wpAny_bind (wpAny_field he hd h1 ?_)
 rw [if_pos (show (Value.ref T != Value.none)=true from by simp)]
 refine wpAny_bind (wpAny_field hT hdT h3 ?_)
 rw [if_neg (show ¬ ((Value.none == rawInt L)=true) from by simp [rawInt])]
 refine wpAny_bind (wpAny_setField hT hdT (Array.getElem?_eq_some_iff.mp h3).1 ?_)
 have other:∀ b,b≠T→(s.heap.update T (Obj.mapFields (·.setIfInBounds 3 Value.none))).get? b=s.heap.get? b:=fun b hb=>Heap.get?_update_other _ _ (Ne.symm hb)
 have noRecord:∀ b o,s.heap.get? b=some o→(∀ vs,o.data≠.fields vs)→b≠T:=fun b o hb hnf q=>by
  rw [q,hT] at hb; injection hb with hb; subst hb; exact hnf ts hdT
 refine wpAny_newEntry hfr (hl.of_keeps fun b o hb hnf=>⟨o,(other b (noRecord b o hb hnf)).trans hb,rfl⟩) hf ((other e (Ne.symm hTe)).trans he)
  (fun b o hbo=>(other b fun q=>by rw [q,hnT] at hbo; cases hbo).trans (hkb b o hbo)) hen hd (Array.getElem?_eq_some_iff.mp h1).1
  fun h' ⟨x1,x2,x3,x4⟩=>h h' ⟨x1,x2,x3,fun b o hb hnf=>x4 b o ((other b (noRecord b o hb hnf)).trans hb) hnf⟩
end
section
noncomputable def frL (outer:List Env):List Addr:=outer.map (·.locals)
noncomputable def aH (outer:List Env)(F:Fz)(ρ:Rho)(σ:Hp)(h:Heap):Prop:=∀ env∈outer,env.scope.kind=.function∧env.frame=some env.locals∧env.locals∉ae ρ σ∧F env.locals=none∧∃ o es ep,h.get? env.locals=some o∧o.data=.dict es ep
theorem aH.to {outer:List Env}{X:List Addr}(f:aH outer F ρ st.σ s.heap)(T:To X F ρ st s F' ρ' st' s')(hX:∀ a∈frL outer,a∉X):aH outer F' ρ' st'.σ s'.heap:=by
 intro env he
 obtain ⟨h1,h2,h3,h4,o,es,ep,ho,hd⟩:=f env he
 obtain ⟨z1,z2⟩:=T.outside ho ⟨h3,h4⟩
 exact ⟨h1,h2,z1,z2,o,es,ep,T.ext.keep _ _ ho h3 (hX _ (List.mem_map_of_mem he)),hd⟩
theorem Fm.frame {m:Loc}(fm:Fm F ρ st.σ cx env m s.heap)(hf:env.frame=some env.locals){outer:List Env}(f:aH outer F ρ st.σ s.heap):aH (env::outer) F ρ st.σ s.heap:=by
 intro e he
 rcases aJ he with rfl | he
 ·obtain ⟨g,⟨o,es,ep,ho,hd,_⟩,_⟩:=fm.ns
  exact ⟨cL fm.eok,hf,fm.out,fm.free,o,es,ep,ho,hd⟩
 ·exact f e he
theorem aH.fun {outer:List Env}(f:aH outer F ρ st.σ s.heap){base:Heap}(hb:∀ a∈frL outer,base.get? a=none):s.heap.FunFrames base outer:=by
 induction outer with
 | nil=>trivial
 | cons env r ih=>
  obtain ⟨h1,h2,h3,h4,o,es,ep,ho,hd⟩:=f env (.head _)
  exact ⟨by rw [h1]; decide,⟨env.locals,o,h2,hb _ (.head _),ho,fun vs e=>by rw [hd] at e; cases e⟩,ih (fun e he=>f e (.tail _ he)) fun a ha=>hb a (.tail _ ha)⟩
noncomputable def Fly (W:List Addr)(s₂:Heap)(e:Addr)(l:List Env)(h':Heap):Prop:=
 Heap.Flying (hideAll s₂ W) l e (.ref 71) h'∧(∀ c o,c∈W→s₂.get? c=some o→(∀ vs,o.data≠.fields vs)→∃ sl,h'.get? c=some { o with slots:=sl })
theorem Fly.first {W:List Addr}{h₂ h':Heap}{e:Addr}{env:Env}{outer:List Env}(he:e∈W)(x:Heap.Left (hideAll h₂ W) (env::outer) e (.ref 71) h₂ h'):Fly W h₂ e outer h':=by
 obtain ⟨x1,⟨_,_,x2⟩,x3,x4⟩:=x
 exact ⟨⟨x1,hideAll_none _ he,x2,x3⟩,fun c o _ ho hd=>x4 c o ho hd⟩
theorem Fly.next {W:List Addr}{h₂ h₃ h':Heap}{e:Addr}{env:Env}{outer l:List Env}(f:Fly W h₂ e l h₃)(x:Heap.Left (hideAll h₂ W) (env::outer) e (.ref 71) h₃ h'):Fly W h₂ e outer h':=by
 obtain ⟨x1,⟨_,_,x2⟩,x3,x4⟩:=x
 refine ⟨⟨x1,f.1.2.1,x2,x3⟩,fun c o hc ho hd=>?_⟩
 obtain ⟨sl,e1⟩:=f.2 c o hc ho hd
 obtain ⟨sl',e2⟩:=x4 c _ e1 hd
 exact ⟨sl',e2⟩
theorem Fly.kept {W:List Addr}{h₂ h':Heap}{e:Addr}{l:List Env}(f:Fly W h₂ e l h'):dm W h₂ h':=fun c o hc ho=>f.1.1 c o (hideAll_get _ ho hc)
end
end
section
noncomputable def fw (s:Stmt):Expr:=if h:s.ctorIdx=16 then Stmt.Raise.elim s h fun o _ _=>o.getD dq else dq
noncomputable abbrev cbR (p:Params):Stmt:=ad 0 (ah (ad 6 (cbB p)))
section
variable (p:Params)(m:M)(b:Int)(args:List Int)(av:Addr)(N pl tp:Int)
theorem HP:ah (ad 6 (cbB p))=.Raise (some (.Call (caF (fw (cbR p))) (caA (fw (cbR p))) [] (ao (fw (cbR p))))) none (aS (cbR p))::[]:=by rfl'
theorem xX:noStar (caA (fw (cbR p)))=true:=by rfl'
theorem xY:bG (caF (fw (cbR p)))=false:=by rfl'
theorem DF:cr (an p) (.sta 71)=true:=by rfl'
theorem HO:∀ v:Ev,v=ev (an p) noX 70→am (v.e (du p) (cbL av pl N tp) (caF (fw (cbR p))) (bO m b args))=([([],[],.sta 71,bO m b args)]:LE):=by rintro _ rfl; rfl'
theorem HQ:∀ v:Ev,v=ev (an p) noX 70→bw (v.es (du p) (cbL av pl N tp) (caA (fw (cbR p))) (bO m b args))=([([],[],[.str "no return"],bO m b args)]:LEs):=by rintro _ rfl; rfl'
theorem Jx:((an p).lookup 36).map (·.cls)=some (.type "function"):=by rfl'
end
section
theorem zE {d:Nat}{x:Str}{t:Tok}{Q:Value→Shared→Prop}(rm:aj (d+3) A)(at':At F ρ st s)
  (h:∀ F' s' e dx,To [] F ρ st s F' ρ st s'→s.heap.get? e=none→e∉ae ρ st.σ→F' e=none→yz s'.heap e (some dx)→Q (.ref e) s'):wpAny (model prog w) A (call (.ref 71) [.str x t]) Q E s:=by
 have X:=at'.rep.world.inK
 have f36:=Jx p
 obtain ⟨oI,hoI,hcI⟩:=dU f36
 obtain ⟨hh,g,dr,tk,os⟩:=s
 refine xI (C:=71) PySem.F.excBase_Exception Bm FH FG (X _ _ (nG p)) (fun h' kp M=>looks_findIn (X.keeps kp) (zF p)) (X _ _ hoI) hcI fun h₁ e hm=>?_
 obtain ⟨t0,he,_,_⟩:=hm.there
 obtain ⟨R₁,X₁⟩:=at'.rep.grow hm.keeps
 have T₁:To [] F ρ st ⟨hh,g,dr,tk,os⟩ F ρ st ⟨h₁,g,dr,tk,os⟩:=⟨⟨R₁,at'.len⟩,X₁,rfl⟩
 have ho:e∉ae ρ st.σ:=fun z=>by obtain ⟨y,hy⟩:=at'.rep.lt z; rw [hm.new] at hy; cases hy
 have hF:F e=none:=by
  cases q:F e with
  | none=>rfl
  | some o=>have:=at'.rep.le _ _ q; rw [hm.new] at this; cases this
 refine pw (d:=d) (rm.under) T₁.at' he ⟨ho,hF⟩ fun F₂ s₂ dx T₂ ho₂=>⟨rfl,?_⟩
 have o2:=T₂.outside he ⟨ho,hF⟩
 have T:=(T₁.nil (X:=[e])).trans T₂
 exact h _ _ e dx ⟨T.at',T.ext.drop fun a ha=>by obtain rfl:=ak ha; exact .inr hm.new,T.sh⟩ hm.new o2.1 o2.2 ho₂
theorem xW {m m':M}{b pl:Int}{args:List Int}{av pa sa sd la ld:Addr}{P:Prg}{N:Nat}{t1 t2:Tok}{outer:List Env}{Q:Value→Shared→Prop}(rm:aj 35 A)(at':At F ρ (bO m b args) s)(adv:iM p F av pa)(pr:dB F pa P)
  (hR:m.R.length=16) (hn:m.n+8*(bF args).length+16≤100000) (ha:args.length≤100000) (hb:(ck args).length≤100000)
  (tr:cZ P N (cY m args pl) m') (hrip:m'.rip≠RP) (hs:ρ[0]?=some (sa,sd)) (hl:ρ[7]?=some (la,ld)) (hfr:A.frames=some outer) (hfo:aH outer F ρ (cbH m b args) s.heap)
  (h:∀ F' s' e b' Lc h',To [] F ρ (bO m b args) s F' ρ (bO m' b' args) s'→s.heap.get? e=none→s.heap.get? Lc=none→e∉ae ρ (cbH m' b' args)→F' e=none→Lc∉ae ρ (cbH m' b' args)→F' Lc=none→aH outer F' ρ (cbH m' b' args) s'.heap→
   (∃ o,s'.heap.get? e=some o)→(∃ o es ep,s'.heap.get? Lc=some o∧o.data=.dict es ep)→Fly (e::Lc::frL outer) s'.heap e outer h'→E (.ref e) { s' with heap:=h' }) :
  wpAny (model prog w) A (call (.ref 557) [.ref sa,.int pl t1,.ref la,.int N t2,.ref av]) Q E s:=by
 have hlen:ρ.length=8:=at'.len
 refine tS rm at' adv pr hR hn ha hb tr hs hl fun env F₁ s₁ b' nw rm' T₁ fm₁ hef hes=>?_
 obtain ⟨v,hv⟩:∃ v,v=ev (an p) noX 70:=⟨_,rfl⟩
 have S:aG v:=hv▸bW cb 70
 have nl:=@noA env.locals
 refine wpAny_execs_cons (wpAny_If (S.t rm' T₁.at' fm₁ (fM _ (HT p m' b' args av N pl (rg m.R 4) v hv) (fun hb=>?_) fun hb=>?_)))
 rotate_left
 ·exfalso
  have:(m'.rip != RP)=true:=by simpa using hrip
  rw [this] at hb; cases hb
 intro F₂ ρ₂ s₂ T₂
 dsimp only at T₂ ⊢
 have e2:=aU T₂ hlen
 subst e2
 rw [if_pos rfl,HP]
 have fm₂:=fm₁.to T₂ nl
 have T₂:=T₁.trans (T₂.nil (X:=[env.locals]))
 refine wpAny_execs_cons ?_
 rw [arm_exec_Raise]
 refine wpAny_bind (wpAny_standAt ?_)
 show wpAny _ _ (raiseStmt env (some (do let v←eval (.Call (caF (fw (cbR p))) (caA (fw (cbR p))) [] (ao (fw (cbR p)))) env; standAt (aS (cbR p)); pure v)) none) _ _ _
 refine rj (C:=71) (bm:=rE) (nm:="MachineError") (q:="MachineError") (N:=70) (bs:=[.ref 46]) (hdct:=true) (sn:=[]) (sub:=[]) (ab:=false) (col:=none) (dd:=none) (k0:=some (.ref 62)) (k1:=none) (k2:=some (.str "MachineError" 250)) (k3:=some (.str "MachineError" 258)) (k5:=some (.bool true)) (newId:="Exception.__new__") (by decide +kernel) rm'.hand (wpAny_bind ?_)
 refine br S rm' T₂.at' fm₂ (xX p) (a8 (xY p)) (DF p) (ac _ (HO p m' b' args av N pl (rg m.R 4) v hv) noP rfl) (ac _ (HQ p m' b' args av N pl (rg m.R 4) v hv) noP rfl) fun F₃ ρ₃ s₃ fv vs T₃ ifv ivs=>?_
 have e3:=aU T₃ hlen
 subst e3
 cases ifv
 obtain ⟨v0,rfl,i0⟩:=ag.inv1 ivs
 obtain ⟨t3,rfl⟩:=i0
 refine zE (d:=31) rm' T₃.at' fun F₄ s₄ e dx T₄ hen he1 he2 heo=>?_
 refine wpAny_bind (wpAny_standAt (wpAny_pure ?_))
 obtain ⟨t4,he4⟩:=heo
 refine ⟨e,t4,some dx,rfl,T₄.at'.rep.world.inK _ _ (nG p),he4,?_⟩
 have fm₄:=(fm₂.to T₃ nl).to T₄ nl
 have T₂₄:=(T₃.trans T₄)
 have T:=(T₂.trans (T₂₄.nil (X:=[env.locals]))).leave nw
 have hfo₄:aH outer F₄ ρ (cbH m' b' args) s₄.heap:=hfo.to T (fun _ _ z=>nomatch z)
 have hall:aH (env::outer) F₄ ρ (bO m' b' args).σ s₄.heap:=Fm.frame fm₄ hef hfo₄
 have hes:s.heap.get? e=none:=by
  cases q:s.heap.get? e with
  | none=>rfl
  | some o=>
   obtain ⟨o',e'⟩:=(T₂.trans (T₃.nil (X:=[env.locals]))).ext.live _ _ q
   rw [hen] at e'; cases e'
 let W:=e::env.locals::frL outer
 have hk:(hideAll s₄.heap W).StaysIn s₄.heap:=fun b o q=>of_hideAll _ q
 have hbase:∀ a∈frL (env::outer),(hideAll s₄.heap W).get? a=none:=fun a ha=>hideAll_none _ (.tail _ ha)
 refine wpAny_leaving_first (base:=hideAll s₄.heap W) (Around.frames_deeper hfr) (hall.fun hbase) hef he4 hk (hideAll_none _ (.head _)) rfl rfl fun h₅ x=>?_
 obtain ⟨_,_,_,l4,o,es,ep,ho,hd⟩:=hall env (.head _)
 exact h F₄ s₄ e b' env.locals h₅ T hes nw he1 he2 fm₄.out l4 hfo₄ ⟨_,he4⟩ ⟨o,es,ep,ho,hd⟩ (Fly.first (.head _) x)
end
end
section
section
variable {ρ0:Rho}
noncomputable def jA (n:Nat)(σ:Hp):Bool:=σ.all fun e=>Nat.blt e.1 n
theorem jz {n:Nat}{σ:Hp}(h:jA n σ=true):∀ e∈σ,e.1<n:=fun e he=>cC (dQ h e he)
theorem mI {σa σb:Hp}{n k:Nat}(h0:ρ0.length=k)(hk:jA k σa=true)(hl:gt k σa=true)(at':At F (ρ0++τ) ⟨σa++σb,n⟩ s):At F ρ0 ⟨σa,k⟩ s:=by
 subst h0
 have hfp:ae (ρ0++τ) σa=ae ρ0 σa:=bU fun e he=>⟨_,List.getElem?_eq_getElem (jz hk e he)⟩
 have hr:∀ e∈σa,ρ0[e.1]?=(ρ0++τ)[e.1]?:=fun e he=>by rw [List.getElem?_append_left (jz hk e he)]
 refine at'.sub rfl (fun e he=>?_) (fun e he o eo p hp h' hh=>?_) ?_ ?_
 ·obtain ⟨p,hp,O⟩:=at'.rep.ok e (List.mem_append_left _ he)
  exact ⟨p,by rw [hr e he]; exact hp,O.cut (dQ hl e he)⟩
 ·have:=at'.rep.ro e (List.mem_append_left _ he) o eo p (by rw [←hr e he]; exact hp) h' hh
  have l':=dQ hl e he
  rw [eo] at l'
  exact this.cut l'
 ·have:=at'.rep.nodup
  rw [bA,hfp] at this
  exact (List.nodup_append.mp this).1
 ·intro a ha
  rw [bA,hfp]
  exact List.mem_append_left _ ha
theorem iH {σa σa' σb:Hp}{n k:Nat}(h0:ρ0.length=k)(hk:jA k σa=true)(hk':jA k σa'=true)(at':At F (ρ0++τ) ⟨σa++σb,n⟩ s)(T:To X F ρ0 ⟨σa,k⟩ s F' ρ0 ⟨σa',k⟩ s')
  (hf:ae ρ0 σa'=ae ρ0 σa) (hX:∀ a∈X,a∉ae (ρ0++τ) (σa++σb)∧F a=none) :
  To X F (ρ0++τ) ⟨σa++σb,n⟩ s F' (ρ0++τ) ⟨σa'++σb,n⟩ s':=by
 subst h0
 have hfp:∀ {σ:Hp},jA ρ0.length σ=true→ae (ρ0++τ) σ=ae ρ0 σ:=fun hk=>bU fun e he=>⟨_,List.getElem?_eq_getElem (jz hk e he)⟩
 have nd:=at'.rep.nodup
 rw [bA,hfp hk] at nd
 have hsub:∀ a∈ae ρ0 σa,a∈ae (ρ0++τ) (σa++σb):=fun a ha=>by rw [bA,hfp hk]; exact List.mem_append_left _ ha
 have:=at'.back (X:=X) (ρ₁:=ρ0) (ρ₁':=ρ0) (st₁:=⟨σa,ρ0.length⟩) (st₁':=⟨σa',ρ0.length⟩) (σ':=σa'++σb) (τ:=[]) (n:=n) hsub hX T (by have z:(ρ0++τ).length=n:=at'.len; simpa using z)
  (by rw [List.append_nil,bA,bA,hfp hk,hfp hk',hf]) (fun e he=>?_)
 ·rw [List.append_nil] at this; exact this
 ·rw [List.append_nil]
  rcases fD he with he | he
  ·right
   obtain ⟨q,hq,O⟩:=T.at'.rep.ok e he
   refine ⟨q,bx hq,O.mono,fun o eo h' hh=>?_⟩
   exact (T.at'.rep.ro e he o eo q hq h' hh).mono
  ·left
   refine ⟨List.mem_append_right _ he,fun q hq a ha z=>?_⟩
   exact (List.nodup_append.mp nd).2.2 a z a (aw.mpr ⟨e,he,q,hq,ha⟩) rfl
theorem To.aside {ρ₁ ρ₁':Rho}{st₁ st₁':St}(at':At F ρ st s)(T:To X F ρ₁ st₁ s F' ρ₁' st₁' s')(hX:∀ a∈ae ρ st.σ,a∉ae ρ₁ st₁.σ∧a∉X)(hF:∀ a∈X,F a=none) :
  To (X++ae ρ₁ st₁.σ) F ρ st s F' ρ st s':=by
 have fle:∀ {h'},F'.le h'→F.le h':=fun hh a o e=>hh a o (T.ext.fz a o e)
 refine ⟨⟨⟨T.at'.rep.le,T.at'.rep.wd,fun e he=>?_,fun e he o eo p hp h' hh=>at'.rep.ro e he o eo p hp h' (fle hh),at'.rep.nodup,fun a ha=>?_⟩,at'.len⟩,
  ⟨⟨[],by simp⟩,fun b o e nb nx=>T.ext.keep b o e (fun z=>nx (List.mem_append_right _ z)) (fun z=>nx (List.mem_append_left _ z)),fun a ha=>.inl ha,T.ext.fz,T.ext.fznew,T.ext.live⟩,T.sh⟩
 ·obtain ⟨q,hq,O⟩:=at'.rep.ok e he
  refine ⟨q,hq,?_⟩
  obtain ⟨ke,oe⟩:=e
  by_cases hro:∃ o,oe=.ro o
  ·obtain ⟨o,rfl⟩:=hro
   exact at'.rep.ro _ he o rfl q hq s'.heap (fle T.at'.rep.le)
  ·refine O.keep fun c x hc e'=>?_
   have hc':c∈aN q oe:=by cases oe<;>first | exact hc | exact absurd ⟨_,rfl⟩ hro
   have:=hX c (aw.mpr ⟨_,he,q,hq,hc'⟩)
   exact T.ext.keep c x e' this.1 this.2
 ·cases q:F' a with
  | none=>rfl
  | some o=>
   rcases T.ext.fznew a o q with z | z
   ·rw [at'.rep.free a ha] at z; cases z
   ·obtain ⟨x,hx⟩:=at'.rep.lt ha; rw [z] at hx; cases hx
noncomputable def tc (k:Nat):List Nat→Nat→Option Nat
 | [],_=>none
 | x::r,i=>match Nat.beq x k with
  | true=>some i
  | false=>tc k r (i+1)
theorem wh {k:Nat}{l:List Nat}{i j:Nat}(h:tc k l i=some j):i≤j∧l[j - i]?=some k:=by
 induction l generalizing i with
 | nil=>exact nos h
 | cons x r ih=>
  unfold tc at h
  split at h
  ·rename_i q
   have:=iY q
   subst this
   rw [←Option.some.inj h,Nat.sub_self]
   exact ⟨Nat.le_refl _,rfl⟩
  ·obtain ⟨a,b⟩:=ih h
   rw [show j - i=(j - (i+1))+1 from (Nat.sub_add_cancel (Nat.sub_pos_of_lt a)).symm]
   exact ⟨Nat.le_of_lt a,b⟩
noncomputable def re (os:List Nat):SV→Option SV
 | .ref k=>(tc k os 0).map .ref
 | v=>some v
noncomputable def ni (os:List Nat):List (Str×SV)→Option (List (Str×SV))
 | []=>some []
 | p::r=>(re os p.2).bind fun v=>(ni os r).map ((p.1,v)::·)
noncomputable def y0 (os:List Nat):List SV→Option (List SV)
 | []=>some []
 | v::r=>(re os v).bind fun v=>(y0 os r).map (v::·)
noncomputable def oZ (os:List Nat):SO→Option SO
 | .inst C fs=>(ni os fs).map (.inst C)
 | .list xs=>(y0 os xs).map .list
 | .tup xs=>(y0 os xs).map .tup
 | .sdict es=>(ni os es).map .sdict
 | .ilist xs=>some (.ilist xs)
 | .mem f n=>some (.mem f n)
 | .edict=>some .edict
 | .ro o=>(oZ os o).map .ro
 | .cell v=>(v.elim (some none) fun v=>(re os v).map some).map .cell
 | _=>none
noncomputable def Ce (os:List Nat)(σ:Hp)(j:Nat):Option SO:=os[j]?.bind fun k=>(aM k σ).bind (oZ os)
noncomputable def dn (os:List Nat)(σ:Hp):List Nat→Hp
 | []=>[]
 | j::r=>match Ce os σ j with
  | some o=>(j,o)::dn os σ r
  | none=>dn os σ r
noncomputable def bY (ρ:Rho)(os:List Nat):Rho:=os.map fun k=>ρ.getD k (0,0)
theorem SV.Is.ren {os:List Nat}{sv sv':SV}{v:Value}(h:sv.Is ρ v)(e:re os sv=some sv'):sv'.Is (bY ρ os) v:=by
 cases sv
 case ref k=>
  obtain ⟨j,q,e⟩:=dU e
  subst e
  obtain ⟨_,hj⟩:=wh q
  obtain ⟨p,hp,rfl⟩:=h
  refine ⟨p,?_,rfl⟩
  unfold bY
  rw [Nat.sub_zero] at hj
  rw [List.getElem?_map,hj]
  show some (ρ.getD k (0,0))=_
  rw [List.getD,hp]; rfl
 all_goals exact Option.some.inj e▸h
theorem mr {os:List Nat}{p:Str×SV}{r fs':List (Str×SV)}(e:ni os (p::r)=some fs'):∃ v l,re os p.2=some v∧ni os r=some l∧fs'=(p.1,v)::l:=by
 obtain ⟨v,e1,e⟩:=bD e
 obtain ⟨l,e2,e⟩:=dU e
 exact ⟨v,l,e1,e2,e.symm⟩
theorem mq {os:List Nat}{x:Str}{fs fs':List (Str×SV)}(e:ni os fs=some fs'):(af x fs=none∧af x fs'=none)∨∃ a b,af x fs=some a∧af x fs'=some b∧re os a=some b:=by
 induction fs generalizing fs' with
 | nil=>cases e; exact .inl ⟨rfl,rfl⟩
 | cons p r ih=>
  obtain ⟨v,l,e1,e2,rfl⟩:=mr e
  rw [af,af]
  cases sEq p.1 x with
  | true=>exact .inr ⟨_,_,rfl,rfl,e1⟩
  | false=>exact ih e2
theorem o4 {os:List Nat}{fs fs':List (Str×SV)}(e:ni os fs=some fs'):fs'.length=fs.length:=by
 induction fs generalizing fs' with
 | nil=>cases e; rfl
 | cons p r ih=>
  obtain ⟨v,l,e1,e2,rfl⟩:=mr e
  exact congrArg (· + 1) (ih e2)
theorem az.ren {os:List Nat}{fs fs':List (Str×SV)}{x:Str}{b:Option Value}(h:az ρ (af x fs) b)(e:ni os fs=some fs'):az (bY ρ os) (af x fs') b:=by
 rcases mq (x:=x) e with ⟨e1,e2⟩ | ⟨a,c,e1,e2,e3⟩
 ·rw [e1] at h; rw [e2]; cases b<;>exact h
 ·rw [e1] at h; rw [e2]
  cases b with
  | none=>exact h
  | some v=>exact SV.Is.ren h e3
theorem ag.ren {os:List Nat}{xs xs':List SV}{vs:List Value}(h:ag (SV.Is ρ) xs vs)(e:y0 os xs=some xs'):ag (SV.Is (bY ρ os)) xs' vs:=by
 induction h generalizing xs' with
 | nil=>cases e; exact .nil
 | cons r _ ih=>
  obtain ⟨v,e1,e⟩:=bD e
  obtain ⟨l,e2,rfl⟩:=dU e
  exact .cons (r.ren e1) (ih e2)
theorem OkO.ren {os:List Nat}{h:Heap}{q:Addr×Addr}{o o':SO}(O:OkO ρ h q o)(r:oZ os o=some o'):OkO (bY ρ os) h q o':=by
 induction o generalizing o' with
 | inst C fs=>
  obtain ⟨a,es,ep,b,c,d,e⟩:=O
  obtain ⟨fs',e',rfl⟩:=dU r
  exact ⟨a,es,ep,b,c,o4 e'▸d,fun x=>(e x).ren e'⟩
 | list xs=>obtain ⟨vs,n,a,b⟩:=O; obtain ⟨_,e',rfl⟩:=dU r; exact ⟨vs,n,a,b.ren e'⟩
 | tup xs=>obtain ⟨vs,n,a,b⟩:=O; obtain ⟨_,e',rfl⟩:=dU r; exact ⟨vs,n,a,b.ren e'⟩
 | sdict es=>obtain ⟨g,a,b,c⟩:=O; obtain ⟨_,e',rfl⟩:=dU r; exact ⟨g,a,o4 e'▸b,fun x=>(c x).ren e'⟩
 | ilist _=>cases r; exact O
 | mem _ _=>cases r; exact O
 | edict=>cases r; exact O
 | ro o ih=>obtain ⟨z,e',rfl⟩:=dU r; exact (ih O e':OkO (bY ρ os) h q z)
 | cell v=>
  obtain ⟨o,c,a,b,d⟩:=O
  obtain ⟨v',e',rfl⟩:=dU r
  refine ⟨o,c,a,b,?_⟩
  cases v with
  | none=>cases e'; cases c<;>exact d
  | some v=>
   obtain ⟨_,e2,rfl⟩:=dU (e':(re os v).map some=_)
   cases c with
   | none=>exact d
   | some u=>exact SV.Is.ren d e2
 | _=>exact nos r
theorem fK {os:List Nat}{o o':SO}(e:oZ os o=some o')(q:Addr×Addr):aN q o'=aN q o:=by
 cases o<;>first | exact nos e | (obtain ⟨_,_,rfl⟩:=dU e; rfl) | (cases e; rfl)
theorem s7 {os:List Nat}{o z:SO}(h:oZ os o=some (.ro z)):∃ y,o=.ro y∧oZ os y=some z:=by
 cases o<;>first | exact nos h | (obtain ⟨y,e,h⟩:=dU h; first | exact ⟨_,rfl,e.trans (congrArg some (SO.ro.inj h))⟩ | exact SO.noConfusion h) | exact SO.noConfusion (Option.some.inj h)
theorem iU {os:List Nat}{σ:Hp}{e:Nat×SO}{l:List Nat}(h:e∈dn os σ l):e.1∈l∧∃ k o,os[e.1]?=some k∧aM k σ=some o∧oZ os o=some e.2:=by
 induction l with
 | nil=>exact nomatch h
 | cons j r ih=>
  unfold dn at h
  have go:=fun h=>And.imp_left (List.mem_cons_of_mem j) (ih h)
  cases q:Ce os σ j with
  | none=>rw [q] at h; exact go h
  | some o=>
   rw [q] at h
   rcases aJ h with rfl | h
   ·obtain ⟨k,hk,q⟩:=bD q
    obtain ⟨o,ho,hr⟩:=bD q
    exact ⟨.head _,k,o,hk,ho,hr⟩
   ·exact go h
noncomputable def kX:List Nat→Bool
 | []=>true
 | x::r=>match r.any (Nat.beq x) with
  | true=>false
  | false=>kX r
theorem iD:∀ {l:List Nat},kX l=true→l.Nodup
 | [],_=>.nil
 | x::r,h=>by
  unfold kX at h
  split at h
  ·cases h
  ·rename_i q
   refine List.nodup_cons.mpr ⟨fun m=>?_,iD h⟩
   have:r.any (Nat.beq x)=true:=List.any_eq_true.mpr ⟨x,m,Nat.beq_refl x⟩
   rw [q] at this; cases this
theorem jV {h:Heap}{q:Addr×Addr}{o:SO}(O:OkO ρ h q o):(aN q o).Nodup:=by
 cases o
 case inst C fs=>
  obtain ⟨a,es,ep,b,_⟩:=O
  have:q.1≠q.2:=fun e=>by rw [e,b] at a; cases a
  exact List.nodup_cons.mpr ⟨fun h=>this (ak h),List.nodup_cons.mpr ⟨List.not_mem_nil,List.nodup_nil⟩⟩
 all_goals first | exact List.nodup_nil | exact List.nodup_cons.mpr ⟨List.not_mem_nil,List.nodup_nil⟩
theorem At.reb {n:Nat}{σ:Hp}(at':At F ρ ⟨σ,n⟩ s){os ord:List Nat}(hos:kX os=true)(hord:kX ord=true)(hlt:os.all (fun k=>Nat.blt k n)=true):At F (bY ρ os) ⟨dn os σ ord,os.length⟩ s:=by
 have hlen:ρ.length=n:=at'.len
 have get:∀ {j k:Nat},os[j]?=some k→∀ {q},ρ[k]?=some q→(bY ρ os)[j]?=some q:=fun {j k} hj {q} hq=>by
  unfold bY
  rw [List.getElem?_map,hj]
  simp [List.getD,hq]
 have inj:∀ {i j k:Nat},os[i]?=some k→os[j]?=some k→i=j:=fun {i j k} hi hj=>by
  obtain ⟨i1,i2⟩:=List.getElem?_eq_some_iff.mp hi
  obtain ⟨j1,j2⟩:=List.getElem?_eq_some_iff.mp hj
  exact (List.getElem_inj (iD hos)).mp (i2.trans j2.symm)
 have src:∀ {e l},e∈dn os σ l→∃ k o q,os[e.1]?=some k∧(k,o)∈σ∧oZ os o=some e.2∧ρ[k]?=some q∧(bY ρ os)[e.1]?=some q∧OkO ρ s.heap q o:=fun {e l} he=>by
  obtain ⟨_,k,o,hk,ho,hr⟩:=iU he
  obtain ⟨q,hq,O⟩:=at'.rep.ok _ (aL ho)
  exact ⟨k,o,q,hk,aL ho,hr,hq,get hk hq,O⟩
 refine ⟨⟨at'.rep.le,at'.rep.wd,fun e he=>?_,fun e he o eo q hq h' hh=>?_,?_,fun a ha=>?_⟩,by simp [bY]⟩
 ·obtain ⟨k,o,q,hk,hm,hr,hq,hq',O⟩:=src he
  exact ⟨q,hq',O.ren hr⟩
 ·obtain ⟨k,o',q',hk,hm,hr,hq',hq'',O⟩:=src he
  rw [hq] at hq''; cases hq''
  rw [eo] at hr
  obtain ⟨z,rfl,hz⟩:=s7 hr
  exact (at'.rep.ro _ hm _ rfl _ hq' h' hh).ren hz
 ·have key:∀ l:List Nat,l.Nodup→(ae (bY ρ os) (dn os σ l)).Nodup:=by
   intro l
   induction l with
   | nil=>intro _; exact .nil
   | cons j r ih=>
    intro hnd
    obtain ⟨hj,hr⟩:=List.nodup_cons.mp hnd
    unfold dn
    cases hro:Ce os σ j with
    | none=>exact ih hr
    | some o'=>
     obtain ⟨k,hk,hro⟩:=bD hro
     obtain ⟨o,ho,hro⟩:=bD hro
     obtain ⟨q,hq,O⟩:=at'.rep.ok _ (aL ho)
     unfold ae
     rw [get hk hq]
     refine List.nodup_append.mpr ⟨((fK hro q).symm▸jV O:(aN q o').Nodup),ih hr,fun a ha b hb e=>?_⟩
     subst e
     obtain ⟨e',he',q',hq',ha'⟩:=aw.mp hb
     obtain ⟨k',o1,q1,hk',hm',hr',hq1,hq1',O'⟩:=src he'
     rw [hq'] at hq1'; cases hq1'
     have:=cV at'.rep.nodup (aL ho) hm' hq hq1 (fK hro q▸ha) (fK hr' q'▸ha')
     have hkk:k=k':=(Prod.mk.inj this).1
     subst hkk
     exact hj (inj hk hk'▸(iU he').1)
  exact key ord (iD hord)
 ·obtain ⟨e,he,q,hq,hq2⟩:=aw.mp ha
  obtain ⟨k,o,q',hk,hm,hr,hq',hq'',O⟩:=src he
  rw [hq] at hq''; cases hq''
  rw [fK hr] at hq2
  exact at'.rep.free a (aw.mpr ⟨_,hm,_,hq',hq2⟩)
theorem iT {n:Nat}{σ:Hp}(at':At F ρ ⟨σ,n⟩ s){os ord:List Nat}:∀ a∈ae (bY ρ os) (dn os σ ord),∃ k∈os,∃ o q,(k,o)∈σ∧ρ[k]?=some q∧a∈aN q o:=by
 intro a ha
 obtain ⟨e,he,q,hq,hq2⟩:=aw.mp ha
 obtain ⟨_,k,o,hk,ho,hr⟩:=iU he
 obtain ⟨q',hq',O⟩:=at'.rep.ok _ (aL ho)
 have:(bY ρ os)[e.1]?=some q':=by
  unfold bY
  rw [List.getElem?_map,hk]
  simp [List.getD,hq']
 rw [hq] at this; cases this
 rw [fK hr] at hq2
 exact ⟨k,List.mem_of_getElem? hk,o,q,aL ho,hq',hq2⟩
end
end
section
noncomputable def Ek:List SV:=[.int 0,.int 0,.int 0,.int 0,.int 0,.int 0,.int 0,.int 0,.int 0,.int 0,.int 0,.int 0,.int 0,.int 0,.int 0,.int 0]
noncomputable def H6:SO:=.list Ek
noncomputable def flO:SO:=.inst 188 [("cf",.int 0),("pf",.int 0),("af",.int 0),("zf",.int 0),("sf",.int 0),("of",.int 0),("df",.int 0)]
noncomputable def sgO:SO:=.sdict [("fs",.int 0),("gs",.int 0)]
noncomputable def roH:Hp:=[(2,.ro H6),(3,.ro flO),(6,.ro sgO)]
noncomputable def sq (bg mn:Int)(av pa:Addr):Hp:=[(8,.cell (some (.ref 0))),(9,.ro (.cell (some (.sta pa)))),(10,.cell (some (.uint bg))),(11,.cell (some (.ref 7))),(12,.cell (some (.uint mn))),(13,.cell (some (.sta av)))]
noncomputable def cwH (m:M)(b:Int)(args:List Int)(bg mn:Int)(av pa:Addr):Hp:=cbH m b args++(roH++sq bg mn av pa)
noncomputable abbrev J6 (p:Params):Cx:=⟨aK p 508,[],32⟩
noncomputable abbrev scB (p:Params):List Stmt:=bK p 508
end
section
noncomputable abbrev mcB (p:Params):List Stmt:=bK p 384
noncomputable abbrev j5 (p:Params)(d:Nat):Cx:=⟨aK p 384,[],d⟩
noncomputable abbrev mcA (p:Params):Stmt:=ad 0 (ah (ad 1 (mcB p)))
noncomputable def suO (e:Expr):Expr:=if h:e.ctorIdx=21 then Expr.Subscript.elim e h fun o _ _=>o else dq
noncomputable def suI (e:Expr):Expr:=if h:e.ctorIdx=21 then Expr.Subscript.elim e h fun _ i _=>i else dq
noncomputable def mc0 (f:Int→Int)(n:Nat):Hp:=[(0,.inst 394 [("held",.ref 1)]),(1,.mem f n)]
noncomputable def mc1 (f:Int→Int)(n:Nat):Hp:=[(3,.edict),(2,.inst 394 [("held",.ref 3)]),(0,.inst 394 [("held",.ref 1)]),(1,.mem f n)]
noncomputable def mc2 (g:Int→Int)(i:Nat):Hp:=[(3,.mem g i),(2,.inst 394 [("held",.ref 3)]),(0,.inst 394 [("held",.ref 1)])]
noncomputable def mcL:Loc:=[("self",.ref 0),("other",.ref 2)]
noncomputable def nH (k:Int):Loc:=[("self",.ref 0),("other",.ref 2),("place",.uint k)]
section
variable (p:Params)(f g:Int→Int)(n i d:Nat)(k x:Int)
theorem CU:fQ (an p) 384=true:=by rfl'
theorem pA:bj ((an p).lookup 384)=(["self"]:List Str):=by rfl'
theorem zN:mcB p=ad 0 (mcB p)::.For (aF (ad 1 (mcB p))) (aC (ad 1 (mcB p))) (ah (ad 1 (mcB p))) [] (aS (ad 1 (mcB p)))::(mcB p).drop 2:=by rfl'
theorem I3:∀ v:Ev,v=ev (an p) noX 40→aq (v.s (j5 p (d+5)) [("self",.ref 0)] (ad 0 (mcB p)) ⟨mc0 f n,2⟩)=([([],[],.next,mcL,⟨mc1 f n,4⟩)]:LS):=by rintro _ rfl; rfl'
theorem IZ:∀ v:Ev,v=ev (an p) noX 40→am (v.e (j5 p (d+5)) mcL (aC (ad 1 (mcB p))) ⟨mc1 f n,4⟩)=([([],[],.ref 1,⟨mc1 f n,4⟩)]:LE):=by rintro _ rfl; rfl'
theorem CS:d7 (aC (ad 1 (mcB p)))=false:=by rfl'
theorem CR:aF (ad 1 (mcB p))=.Name "place" (ao (aF (ad 1 (mcB p)))):=by rfl'
theorem zK:ah (ad 1 (mcB p))=.Assign [bc 0 (jl (mcA p))] (.Subscript (suO (aI (mcA p))) (suI (aI (mcA p))) (ao (aI (mcA p)))) (aS (mcA p))::[]:=by rfl'
theorem tt:iW (bc 0 (jl (mcA p)))=true:=by rfl'
theorem wL:cS (suI (aI (mcA p)))=false:=by rfl'
theorem IY:∀ v:Ev,v=ev (an p) noX 40→am (v.e (j5 p (d+5)) (nH k) (suO (aI (mcA p))) ⟨mc2 g i,4⟩)=([([],[],.ref 1,⟨mc2 g i,4⟩)]:LE):=by rintro _ rfl; rfl'
theorem IX:∀ v:Ev,v=ev (an p) noX 40→am (v.e (j5 p (d+5)) (nH k) (suI (aI (mcA p))) ⟨mc2 g i,4⟩)=([([],[],.uint k,⟨mc2 g i,4⟩)]:LE):=by rintro _ rfl; rfl'
noncomputable abbrev Cr (r:Res (Loc×St)):List (List Prop×List Prop×Loc×St):=(r.paths ([],⟨[],0⟩)).map fun q=>(q.asm,q.nd,q.res)
noncomputable abbrev LL:=List (List Prop×List Prop×Loc×St)
theorem IW:∀ v:Ev,v=ev (an p) noX 40→Cr (A2 (an p) v (j5 p (d+5)) (nH k) (bc 0 (jl (mcA p))) (.uint x) ⟨mc2 g i,4⟩)=([([],[i≤100000],nH k,⟨mc2 (iP g k x) (i+1),4⟩)]:LL):=by rintro _ rfl; rfl'
theorem IV:∀ v:Ev,v=ev (an p) noX 40→aq (v.ss (j5 p (d+5)) mcL ((mcB p).drop 2) ⟨mc2 g i,4⟩)=([([],[],.ret (.ref 2),mcL,⟨mc2 g i,4⟩)]:LS):=by rintro _ rfl; rfl'
theorem CT:aD (j5 p d).sc "place" = true:=by rfl'
theorem zL:dD "place" (.uint k) mcL=nH k:=by rfl'
theorem wM:dD "place" (.uint k) (nH x)=nH k:=by rfl'
end
noncomputable def pk (f:Int→Int)(ks:List Int)(i:Nat):Int→Int:=fun x=>if x∈ks.take i then f x else 0
theorem y9 {f:Int→Int}{ks:List Int}{i:Nat}{k:Int}(h:ks[i]?=some k):iP (pk f ks i) k (f k)=pk f ks (i+1):=by
 funext x
 unfold iP pk
 rw [List.take_add_one,h]
 simp only [Option.toList_some,List.mem_append,List.mem_singleton]
 by_cases hx:x=k
 ·subst hx; simp
 ·simp [hx]
section
theorem oF {κ:Type} [DecidableEq κ]{kvs:List (κ×Value)}(nd:(kvs.map (·.1)).Nodup){i:Nat}{k:κ}{v:Value}(h:kvs[i]?=some (k,v)):valueAt kvs k=some v:=by
 induction kvs generalizing i with
 | nil=>simp at h
 | cons q r ih=>
  rw [List.map_cons,List.nodup_cons] at nd
  unfold valueAt
  rw [List.find?_cons]
  cases i with
  | zero=>simp at h; subst h; simp
  | succ i=>
   have h:r[i]?=some (k,v):=by simpa using h
   have hm:k∈r.map (·.1):=List.mem_map.mpr ⟨_,List.mem_of_getElem? h,rfl⟩
   have:q.1≠k:=fun e=>nd.1 (e▸hm)
   simp only [this,decide_false]
   exact ih nd.2 h
theorem mW {κ:Type} [DecidableEq κ]{kvs:List (κ×Value)}{k:κ}(h:k∉kvs.map (·.1)):valueAt kvs k=none:=by
 unfold valueAt
 have:kvs.find? (fun kv=>decide (kv.1=k))=none:=by
  rw [List.find?_eq_none]
  intro q hq e
  exact h (List.mem_map.mpr ⟨q,hq,of_decide_eq_true e⟩)
 rw [this]; rfl
theorem Ej {t:Expr}{I d ep:Nat}{kvs:List (Int×Value)}{F₀:Fz}(ht:dY t=true)(hh:A.handled=none)(ne:d≠I) :
  ee A F₀ t (.ref I) [I,d] kvs.length (fun i v h=>∃ k x u,kvs[i]?=some (k,x)∧v=.int k u∧h.DictAt (intKind prog w) d kvs ep) (fun i h=>h.IsKeyIter I d i kvs.length ep∧h.DictAt (intKind prog w) d kvs ep) where
 next:=fun {i s Q E} hi hI h=>by
  obtain ⟨⟨k,x⟩,hx⟩:∃ kv,kvs[i]?=some kv:=⟨_,List.getElem?_eq_getElem hi⟩
  refine wpAny_pyNext_dict_item hI.1 hI.2 hx fun key h' hk hit sb=>?_
  obtain ⟨u,rfl⟩:=Value.isInt_shape hk
  refine wpAny_of_eq (bV ht _ _) ?_
  have hd:h'.DictAt (intKind prog w) d kvs ep:=hI.2.extBut sb.extBut ne
  exact h _ h' s.toks ⟨k,x,u,hx,rfl,hd⟩ ⟨hit,hd⟩ fun c o hc e=>aB sb (fun z=>hc (by rw [z]; simp)) e
 done:=fun {s Q E} hI h=>wpAny_pyNext_dict_end hh hI.1 hI.2 (by simp) fun h' hx=>⟨rfl,h h' s.toks fun c o hc e=>hx c o (fun z=>hc (by rw [z]; simp)) e⟩
 keep:=fun hI k _=>by
  obtain ⟨⟨o,ho,r⟩,⟨o',es,ho',r'⟩⟩:=hI
  exact ⟨⟨o,k _ o (by simp) ho,r⟩,⟨o',es,k _ o' (by simp) ho',r'⟩⟩
 alive:=fun hI c hc=>by
  obtain ⟨⟨o,ho,_⟩,⟨o',es,ho',_⟩⟩:=hI
  rcases fb hc with rfl | rfl
  ·exact ⟨o,ho⟩
  ·exact ⟨o',ho'⟩
end
end
section
section
theorem rM {t:Expr}{I d ep:Nat}{kvs:List (Int×Value)}{F₀:Fz}(ht:dY t=true)(hh:A.handled=none)(hF:∀ h,F₀.le h→h.DictAt (intKind prog w) d kvs ep)(ne:d≠I) :
  ee A F₀ t (.ref I) [I] kvs.length (fun i v h=>∃ k x u,kvs[i]?=some (k,x)∧v=.int k u) (fun i h=>h.IsKeyIter I d i kvs.length ep∧h.DictAt (intKind prog w) d kvs ep) where
 next:=fun {i s Q E} hi hI h=>by
  obtain ⟨⟨k,x⟩,hx⟩:∃ kv,kvs[i]?=some kv:=⟨_,List.getElem?_eq_getElem hi⟩
  refine wpAny_pyNext_dict_item hI.1 hI.2 hx fun key h' hk hit sb=>?_
  obtain ⟨u,rfl⟩:=Value.isInt_shape hk
  refine wpAny_of_eq (bV ht _ _) ?_
  exact h _ h' s.toks ⟨k,x,u,hx,rfl⟩ ⟨hit,hI.2.extBut sb.extBut ne⟩ fun c o hc e=>aB sb (fun z=>hc (by rw [z]; simp)) e
 done:=fun {s Q E} hI h=>wpAny_pyNext_dict_end hh hI.1 hI.2 (by simp) fun h' hx=>⟨rfl,h h' s.toks fun c o hc e=>hx c o (fun z=>hc (by rw [z]; simp)) e⟩
 keep:=fun hI k hh=>by
  obtain ⟨⟨o,ho,r⟩,_⟩:=hI
  exact ⟨⟨o,k _ o (by simp) ho,r⟩,hF _ hh⟩
 alive:=fun hI c hc=>by
  obtain ⟨⟨o,ho,_⟩,_⟩:=hI
  obtain rfl:=ak hc
  exact ⟨o,ho⟩
theorem jb {f:Int→Int}{n:Nat}{q0 q1 q2 q3:Addr×Addr}{τ:Rho}:ae (q0::q1::q2::q3::τ) (mc1 f n)=[q3.1,q2.1,q2.2,q0.1,q0.2,q1.1]:=rfl
theorem ja {g:Int→Int}{i:Nat}{q0 q1 q2 q3:Addr×Addr}{τ:Rho}:ae (q0::q1::q2::q3::τ) (mc2 g i)=[q3.1,q2.1,q2.2,q0.1,q0.2]:=rfl
noncomputable def mcR (f:Int→Int)(n:Nat):Hp:=[(3,.mem f n),(2,.inst 394 [("held",.ref 3)]),(0,.inst 394 [("held",.ref 1)]),(1,.mem f n)]
set_option maxHeartbeats 1000000 in
theorem zM {d n:Nat}{f:Int→Int}{q0 q1:Addr×Addr}{Q:Value→Shared→Prop}(rm:aj (d+6) A)(at':At F [q0,q1] ⟨mc0 f n,2⟩ s)(hn:n≤100000)
  (h:∀ F' s' x y,To [] F [q0,q1] ⟨mc0 f n,2⟩ s F' [q0,q1,x,y] ⟨mcR f n,4⟩ s'→Q (.ref x.1) s'):wpAny (model prog w) A (call (.ref 384) [.ref q0.1]) Q E s:=by
 obtain ⟨v,hv⟩:∃ v,v=ev (an p) noX 40:=⟨_,rfl⟩
 have S:aG v:=hv▸bW cb 40
 refine dR (d:=d+5) (args:=[.ref 0]) (CU p) rm at' (.cons ⟨q0,rfl,rfl⟩ .nil) (by rw [pA]; rfl) fun env s₀ T₀ fm₀ nw rm'=>?_
 rw [pA] at fm₀
 have fm₀:Fm F [q0,q1] (mc0 f n) (j5 p (d+5)) env ([("self",.ref 0)]:Loc) s₀.heap:=fm₀
 have nl:=@noA env.locals
 show wpAny _ _ (execs (mcB p) env) _ _ _
 rw [zN]
 refine wpAny_execs_cons (S.s rm' T₀.at' fm₀ (ac _ (I3 p f n d v hv) noP fun F₁ ρ₁ s₁ f₁ T₁ fm₁ hf=>?_))
 cases hf
 dsimp only at T₁ fm₁ ⊢
 obtain ⟨τ,eτ⟩:=T₁.ext.pre
 obtain ⟨q2,q3,rfl⟩:=w5 (Nat.add_left_cancel (show _+τ.length=_+2 from (by have:=T₁.at'.len; rw [eτ,List.length_append] at this; exact this)))
 subst eτ
 have T₁:To [env.locals] F [q0,q1] ⟨mc0 f n,2⟩ s₀ F₁ [q0,q1,q2,q3] ⟨mc1 f n,4⟩ s₁:=T₁
 have fm₁:Fm F₁ [q0,q1,q2,q3] (mc1 f n) (j5 p (d+5)) env mcL s₁.heap:=fm₁
 have T₀₁:=(T₀.nil (X:=[env.locals])).trans T₁
 refine wpAny_execs_cons (wpAny_For (S.e rm' T₁.at' fm₁ (ac _ (IZ p f n d v hv) noP (bS rfl fun F₂ s₂ v₂ T₂ i₂=>?_))) (fV (CS p) env))
 dsimp only at T₂ i₂
 have fm₂:=fm₁.to T₂ nl
 have T₀₂:=T₀₁.trans (T₂.nil (X:=[env.locals]))
 have at₂:=T₂.at'
 cases at₂.ref i₂ (show ([q0,q1,q2,q3]:Rho)[1]?=some q1 from rfl)
 obtain ⟨q1',hq1',nsys,kvs,hdo,hle,hmr⟩:=at₂.rep.ok (1,.mem f n) (by simp [mc1])
 cases hq1'
 obtain ⟨ep,hat⟩:=hdo.dictAt
 have hnd:=hat.nodup
 obtain ⟨oD,esD,hoD,rD⟩:=id hat
 have ndf:=at₂.rep.nodup
 rw [jb] at ndf
 have frf:=at₂.rep.free
 rw [jb] at frf
 have hD:q1.1∉[q3.1,q2.1,q2.2,q0.1,q0.2]:=by
  intro z
  have:=(List.nodup_append (l₁:=[q3.1,q2.1,q2.2,q0.1,q0.2]) (l₂:=[q1.1])).mp ndf
  exact this.2.2 _ z _ (by simp) rfl
 let Fp:Fz:=fun a=>if a=q1.1 then some oD else F₂ a
 have FpD:Fp q1.1=some oD:=if_pos rfl
 have Fpo:∀ {a},a≠q1.1→Fp a=F₂ a:=fun h=>if_neg h
 have Fple:∀ {h'},Fp.le h'→F₂.le h':=fun hh a o e=>hh a o ((Fpo (fun z=>by rw [z,frf q1.1 (by simp)] at e; cases e)).trans e)
 have at₃:At Fp [q0,q1,q2,q3] ⟨mc2 (fun _=>0) 0,4⟩ s₂:=by
  refine ⟨⟨fun a o e=>?_,fun h' hh=>at₂.rep.wd h' (Fple hh),fun e he=>?_,fun e he o eo=>?_,?_,fun a ha=>?_⟩,rfl⟩
  ·by_cases z:a=q1.1
   ·subst z; rw [FpD] at e; cases e; exact hoD
   ·rw [Fpo z] at e; exact at₂.rep.le a o e
  ·rcases gx he with rfl | rfl | rfl
   ·obtain ⟨q,hq,ns,ep',ho'⟩:=at₂.rep.ok (3,.edict) (by simp [mc1])
    exact ⟨q,hq,ns,[],⟨_,#[],ep',ho',⟨rfl,rfl,rfl⟩,rfl,(fun e he=>by simp at he),.nil,.nil⟩,Nat.le_refl _,fun i=>rfl⟩
   ·exact at₂.rep.ok (2,.inst 394 [("held",.ref 3)]) (by simp [mc1])
   ·exact at₂.rep.ok (0,.inst 394 [("held",.ref 1)]) (by simp [mc1])
  ·rcases gx he with rfl | rfl | rfl<;>cases eo
  ·rw [ja]
   exact (List.nodup_append (l₁:=[q3.1,q2.1,q2.2,q0.1,q0.2]) (l₂:=[q1.1])).mp ndf |>.1
  ·rw [ja] at ha
   have:a≠q1.1:=fun z=>hD (z▸ha)
   rw [Fpo this]
   exact frf a (by
    have:a∈[q3.1,q2.1,q2.2,q0.1,q0.2]++[q1.1]:=List.mem_append_left _ ha
    exact this)
 have fm₃:Fm Fp [q0,q1,q2,q3] (mc2 (fun _=>0) 0) (j5 p (d+5)) env mcL s₂.heap:=by
  have o:=fm₂.out
  rw [jb] at o
  have ne:env.locals≠q1.1:=fun z=>o (by rw [z]; simp)
  refine ⟨fm₂.eok,fm₂.ns,fun z=>o ?_,by rw [Fpo ne]; exact fm₂.free⟩
  rw [ja] at z
  have:env.locals∈[q3.1,q2.1,q2.2,q0.1,q0.2]++[q1.1]:=List.mem_append_left _ z
  exact this
 have hatF:∀ h',Fp.le h'→h'.DictAt (intKind prog w) q1.1 kvs ep:=fun h' hh=>⟨oD,esD,hh _ _ FpD,rD⟩
 refine wpAny_pyIter_dict (by simpa using nsys) hat ?_
 have nI:=aT s₂.heap
 have nDI:q1.1≠s₂.heap.objs.size:=Nat.ne_of_lt hat.lt_size
 rw [CR]
 refine fO (rM (F₀:=Fp) (t:=.Name "place" (ao (aF (ad 1 (mcB p))))) (I:=s₂.heap.objs.size) (d:=q1.1) (kvs:=kvs) (ep:=ep) rfl rm'.hand hatF nDI)
  (J:=fun i F' ρ' st' L=>ρ'=[q0,q1,q2,q3]∧st'=⟨mc2 (pk f (kvs.map (·.1)) i) i,4⟩∧(L=mcL∨∃ k,L=nH k)) (s₀:=s₂) ?_ ?_ ?_ at₃ fm₃ ⟨rfl,(by
   show _=(⟨mc2 (pk f (kvs.map (·.1)) 0) 0,4⟩:St)
   have:pk f (kvs.map (·.1)) 0=fun _=>0:=by funext x; simp [pk]
   rw [this]),.inl rfl⟩ (fun c o e=>Heap.get?_push_of_some _ e) ⟨⟨_,Heap.get?_push_size _ rfl,rfl,rfl⟩,hat.push _⟩
 ·intro c hc
  obtain rfl:=ak hc; exact nI
 ·-- a turn
  rintro i F₄ ρ₄ st₄ L₄ s₄ v₄ E₄ hi at₄ fm₄ ⟨rfl,rfl,hL⟩ ⟨k,x,u,hx,rfl⟩ hF
  have hvk:=oF hnd hx
  have hmk:=hmr k
  rw [hvk] at hmk
  obtain ⟨tx,rfl⟩:=hmk
  refine PySem.wpAny_assign_Name (a9 (sv:=.uint k) at₄ fm₄ (CT p (d+5)) ⟨u,rfl⟩ fun s₅ T₅ fm₅=>?_)
  have fm₅:Fm F₄ [q0,q1,q2,q3] (mc2 (pk f (kvs.map (·.1)) i) i) (j5 p (d+5)) env (nH k) s₅.heap:=by
   rcases hL with rfl | ⟨y,rfl⟩
   ·rw [zL] at fm₅; exact fm₅
   ·rw [wM] at fm₅; exact fm₅
  rw [zK]
  refine wpAny_execs_cons (eu (Subscript_ (S.e rm' T₅.at' fm₅ (ac _ (IY p _ i d k v hv) noP (bS rfl fun F₆ s₆ v₆ T₆ i₆=>?_)))) rfl (cK (tt p)) (dJ (tt p)))
  dsimp only at T₆ i₆
  have fm₆:=fm₅.to T₆ nl
  cases T₆.at'.ref i₆ (show ([q0,q1,q2,q3]:Rho)[1]?=some q1 from rfl)
  refine S.e rm' T₆.at' fm₆ (ac _ (IX p _ i d k v hv) noP (bS rfl fun F₇ s₇ v₇ T₇ i₇=>?_))
  dsimp only at T₇ i₇
  obtain ⟨tk,rfl⟩:=i₇
  have fm₇:=fm₆.to T₇ nl
  have T₅₇:=T₅.trans ((T₆.nil (X:=[env.locals])).trans (T₇.nil))
  have hFp:Fp.le s₇.heap:=fun c o e=>T₅₇.at'.rep.le c o (T₅₇.ext.fz c o (hF c o e))
  have hd₇:=(hatF _ hFp).dictOf
  refine tail_any (T:="dict") hd₇.typeIs slot_dict_getitem.lookup (wpAny_getItem_of (knd:=intKind prog w) (intKind_is prog w _ tk) hd₇.mapOf hvk ?_) (bZ (wL p))
  have T₈:=To.tok (X:=([]:List Addr)) T₇.at' (s₇.toks+1)
  have hik:i<kvs.length:=hi
  refine iJ S rm' T₈.at' (fm₇.to T₈ nl) (sv:=.uint (f k)) ⟨tx,rfl⟩ (ac _ (IW p _ i d k (f k) v hv) (fun P hP=>by obtain rfl:=ak hP; omega) fun F₉ ρ₉ s₉ T₉ fm₉=>?_)
  have eρ:=aU T₉ rfl
  subst eρ
  dsimp only at T₉ fm₉
  refine wpAny_execs_nil ?_
  have hkk:(kvs.map (·.1))[i]?=some k:=by rw [List.getElem?_map,hx]; rfl
  refine ⟨.inl rfl,F₉,[q0,q1,q2,q3],_,_,T₅₇.trans ((T₈.nil (X:=[env.locals])).trans T₉),fm₉,rfl,?_,.inr ⟨k,rfl⟩⟩
  show (⟨mc2 (iP (pk f (kvs.map (·.1)) i) k (f k)) (i+1),4⟩:St)=_
  rw [y9 hkk]
 ·-- the end
  rintro F₄ ρ₄ st₄ L₄ s₄ T₄ fm₄ ⟨rfl,rfl,hL⟩
  have hpk:pk f (kvs.map (·.1)) kvs.length=f:=by
   funext x
   unfold pk
   rw [show kvs.length=(kvs.map (·.1)).length by simp,List.take_length]
   split
   ·rfl
   ·rename_i hx
    have:=hmr x
    rw [mW hx] at this
    exact this.symm
  rw [hpk] at T₄ fm₄
  have fm₄:Fm F₄ [q0,q1,q2,q3] (mc2 f kvs.length) (j5 p (d+5)) env mcL s₄.heap:=by
   rcases hL with rfl | ⟨k,rfl⟩
   ·exact fm₄
   ·refine fm₄.conv fun x sv e=>⟨sv,?_,fun _ z=>z⟩
    show af x (mcL++([("place",.uint k)]:Loc))=some sv
    exact gI e
  refine S.ss rm' T₄.at' fm₄ (ac _ (IV p f kvs.length d v hv) noP (dz rfl fun F₅ s₅ f₅ T₅ fm₅ hf=>?_))
  dsimp only at T₅ fm₅ hf
  obtain ⟨xv,rfl,ix⟩:=hf
  cases T₅.at'.ref ix (show ([q0,q1,q2,q3]:Rho)[2]?=some q2 from rfl)
  have T₃₅:=T₄.trans T₅
  refine h F₂ s₅ q2 q3 ?_
  have hFp:Fp.le s₅.heap:=fun c o e=>T₃₅.at'.rep.le c o (T₃₅.ext.fz c o e)
  have fR:ae [q0,q1,q2,q3] (mcR f n)=ae [q0,q1,q2,q3] (mc1 f n):=rfl
  have TT:To [env.locals] F₂ [q0,q1,q2,q3] ⟨mc1 f n,4⟩ s₂ F₂ [q0,q1,q2,q3] ⟨mcR f n,4⟩ s₅:=by
   refine ⟨⟨⟨Fple hFp,at₂.rep.wd,fun e he=>?_,fun e he o eo=>?_,by rw [fR]; exact at₂.rep.nodup,by rw [fR]; exact at₂.rep.free⟩,rfl⟩,⟨⟨[],rfl⟩,fun b o e nb nx=>?_,fun a ha=>.inl (by rw [fR] at ha; exact ha),fun _ _ e=>e,fun _ _ e=>.inl e,T₃₅.ext.live⟩,T₃₅.sh⟩
   ·rcases pv he with rfl | rfl | rfl | rfl
    ·obtain ⟨q,hq,ns,kv,h1,h2,h3⟩:=T₃₅.at'.rep.ok (3,.mem f kvs.length) (by simp [mc2])
     exact ⟨q,hq,ns,kv,h1,Nat.le_trans h2 hle,h3⟩
    ·exact T₃₅.at'.rep.ok (2,.inst 394 [("held",.ref 3)]) (by simp [mc2])
    ·exact T₃₅.at'.rep.ok (0,.inst 394 [("held",.ref 1)]) (by simp [mc2])
    ·exact ⟨q1,rfl,nsys,kvs,(hatF _ hFp).dictOf,hle,hmr⟩
   ·rcases pv he with rfl | rfl | rfl | rfl<;>cases eo
   ·refine T₃₅.ext.keep b o e (fun z=>nb ?_) nx
    rw [ja] at z
    rw [jb]
    have:b∈[q3.1,q2.1,q2.2,q0.1,q0.2]++[q1.1]:=List.mem_append_left _ z
    exact this
  exact (T₀₂.trans TT).leave nw
end
end
section
noncomputable def Bz (o:Option SO):Option (Addr×Str×Nat):=(asN o).bind fun q=>(one q.2).bind fun p=>(gF p.2).map fun j=>(q.1,p.1,j)
noncomputable def xn (q:Addr×Str×Nat):Bool:=Nat.beq q.1 394&&sEq q.2.1 "held"
noncomputable def tL (k:Nat)(σ:Hp):Option (Nat×(Int→Int)×Nat):=(Bz (aM k σ)).bind fun q=>(asM (aM q.2.2 σ)).bind fun m=>bif xn q then some (q.2.2,m) else none
noncomputable def Cd (args:List SV):Option Nat:=(one args).bind gF
noncomputable def cpO (st:St)(q:Nat×(Int→Int)×Nat):Res (SV×St):=.need (q.2.2≤100000) (.ok (.ref st.nx,⟨(st.nx+1,.mem q.2.1 q.2.2)::(st.nx,.inst 394 [("held",.ref (st.nx+1))])::st.σ,st.nx+2⟩))
noncomputable def orc (f:Addr)(X:List SV→St→Option (Res (SV×St))):Orc:=fun d a args st=>bif Nat.beq a f&&Nat.ble 6 d then X args st else none
noncomputable def cpX:Orc:=orc 384 fun args st=>(Cd args).bind fun k=>(tL k st.σ).map (cpO st)
theorem xx {o:Option SO}{q:Addr×Str×Nat}(h:Bz o=some q):o=some (.inst q.1 [(q.2.1,.ref q.2.2)]):=by
 obtain ⟨i,e1,h⟩:=bD h
 obtain ⟨p,e2,h⟩:=bD h
 obtain ⟨j,e3,rfl⟩:=dU h
 rw [jK e1,dT e2,←dL e3]
theorem xA {k:Nat}{σ:Hp}{q:Nat×(Int→Int)×Nat}(h:tL k σ=some q):aM k σ=some (.inst 394 [("held",.ref q.1)])∧aM q.1 σ=some (.mem q.2.1 q.2.2):=by
 obtain ⟨i,e1,h⟩:=bD h
 obtain ⟨m,e2,h⟩:=bD h
 cases c:xn i with
 | false=>rw [c] at h; exact nos h
 | true=>
  rw [c] at h
  cases Option.some.inj h
  have e1:=xx e1
  rw [iY (dw c).1,aQ.mp (dw c).2] at e1
  exact ⟨e1,lG e2⟩
theorem s9 {args:List SV}{k:Nat}(h:Cd args=some k):args=[.ref k]:=by
 obtain ⟨a,e1,h⟩:=bD h
 rw [dT e1,dL h]
theorem rq {f d a:Addr}{X:List SV→St→Option (Res (SV×St))}{args:List SV}{st:St}{r:Res (SV×St)}(h:orc f X d a args st=some r):a=f∧(∃ d',d=d'+6)∧X args st=some r:=by
 unfold orc at h
 cases c:Nat.beq a f&&Nat.ble 6 d with
 | false=>rw [c] at h; exact nos h
 | true=>
  rw [c] at h
  obtain ⟨c1,c2⟩:=dw c
  exact ⟨iY c1,⟨d - 6,(Nat.sub_add_cancel (cC c2)).symm⟩,h⟩
section
theorem xy {h:Heap}{q:Addr×Addr}{C:Addr}{x:Str}{a b:Nat}{r:Addr×Addr}(O:OkO ρ h q (.inst C [(x,.ref a)]))(ha:ρ[a]?=some r)(hb:ρ'[b]?=some r):OkO ρ' h q (.inst C [(x,.ref b)]):=by
 obtain ⟨e1,es,ep,e2,e3,e4,e5⟩:=O
 refine ⟨e1,es,ep,e2,e3,e4,fun y=>?_⟩
 have:=e5 y
 have lo:∀ v:SV,af y [(x,v)]=bif sEq x y then some v else none:=fun v=>by
  rw [af]
  cases sEq x y<;>rfl
 revert this
 rw [lo,lo]
 generalize nsFind es y=w
 cases sEq x y with
 | false=>cases w<;>exact id
 | true=>
  cases w with
  | none=>exact id
  | some v=>
   intro i
   obtain ⟨r',hr',rfl⟩:=i
   cases ha.symm.trans hr'
   exact ⟨r,hb,rfl⟩
theorem To.join {X:List Addr}{F₀:Fz}{ρ₀:Rho}{st₀:St}{s₀:Shared}{σ σn:Hp}{n n':Nat}{τ:Rho}{L:List Addr}(T:To X F₀ ρ₀ st₀ s₀ F ρ ⟨σ,n⟩ s)(hn:n'=n+τ.length)(hL:ae (ρ++τ) σn=L)(nd:L.Nodup)(new:∀ a∈L,s₀.heap.get? a=none∧F a=none∧a∉ae ρ σ)
  (ok:∀ e∈σn,∃ q,(ρ++τ)[e.1]?=some q∧OkO (ρ++τ) s.heap q e.2∧∀ o,e.2≠.ro o):To X F₀ ρ₀ st₀ s₀ F (ρ++τ) ⟨σn++σ,n'⟩ s:=by
 have R:=T.at'.rep.pad τ
 have hlen:ρ.length=n:=T.at'.len
 have hf:ae (ρ++τ) (σn++σ)=L++ae ρ σ:=by rw [bA,bU T.at'.rep.names,hL]
 refine ⟨⟨⟨R.le,R.wd,fun e he=>?_,fun e he o eo=>?_,?_,fun a ha=>?_⟩,by rw [List.length_append,hn,hlen]⟩,⟨?_,T.ext.keep,fun a ha=>?_,T.ext.fz,T.ext.fznew,T.ext.live⟩,T.sh⟩
 ·exact (fD he).elim (fun he=>(ok e he).imp fun _ z=>⟨z.1,z.2.1⟩) (R.ok e)
 ·exact (fD he).elim (fun he=>(ok e he).elim fun _ z=>absurd eo (z.2.2 o)) fun he=>R.ro e he o eo
 ·rw [hf]
  exact List.nodup_append.mpr ⟨nd,T.at'.rep.nodup,fun a ha b hb e=>(new a ha).2.2 (e▸hb)⟩
 ·rw [hf] at ha
  exact (fD ha).elim (fun z=>(new a z).2.1) (T.at'.rep.free a)
 ·obtain ⟨z,e⟩:=T.ext.pre
  exact ⟨z++τ,e▸List.append_assoc ..⟩
 ·rw [hf] at ha
  exact (fD ha).elim (fun z=>.inr (new a z).1) (T.ext.new a)
theorem lq {k n:Nat}{σ:Hp}{q:Nat×(Int→Int)×Nat}{v:Value}(at':At F ρ ⟨σ,n⟩ s)(e:tL k σ=some q)(i:(SV.ref k).Is ρ v):∃ qk qj,v=.ref qk.1∧At F [qk,qj] ⟨mc0 q.2.1 q.2.2,2⟩ s∧(∀ a∈[qk.1,qk.2,qj.1],a∈ae ρ σ)∧
  ∀ {F' τ st' s'},To [] F [qk,qj] ⟨mc0 q.2.1 q.2.2,2⟩ s F' ([qk,qj]++τ) st' s'→(0,.inst 394 [("held",.ref 1)])∈st'.σ→(1,.mem q.2.1 q.2.2)∈st'.σ→To [] F ρ ⟨σ,n⟩ s F' ρ ⟨σ,n⟩ s':=by
 obtain ⟨hk,hj⟩:=xA e
 obtain ⟨qk,hqk,Ok⟩:=at'.rep.get hk
 obtain ⟨qj,hqj,Oj⟩:=at'.rep.get hj
 have mk:=aL hk
 have mj:=aL hj
 have hkj:k≠q.1:=fun z=>by rw [←z,hk] at hj; exact SO.noConfusion (Option.some.inj hj)
 have inf:∀ a∈[qk.1,qk.2,qj.1],a∈ae ρ σ:=fun a ha=>(fD (show a∈[qk.1,qk.2]++[qj.1] from ha)).elim (fun z=>aw.mpr ⟨_,mk,qk,hqk,z⟩) fun z=>aw.mpr ⟨_,mj,qj,hqj,z⟩
 refine ⟨qk,qj,at'.ref i hqk,at'.sub rfl (fun e he=>?_) (fun e he o eo=>?_) ?_ inf,inf,fun {F' τ st' s'} T m0 m1=>?_⟩
 ·rcases aJ he with rfl | he
  ·exact ⟨qk,rfl,xy Ok hqj rfl⟩
  ·cases ak he; exact ⟨qj,rfl,Oj⟩
 ·rcases aJ he with rfl | he
  ·exact SO.noConfusion eo
  ·cases ak he; exact SO.noConfusion eo
 ·show ([qk.1,qk.2]++[qj.1]).Nodup
  refine List.nodup_append.mpr ⟨jV Ok,List.nodup_cons.mpr ⟨List.not_mem_nil,.nil⟩,fun a ha b hb z=>hkj ?_⟩
  exact (Prod.mk.inj (cV at'.rep.nodup mk mj hqk hqj ha (z▸hb))).1
 ·have B:=at'.back (X:=[]) (ρ₁:=[qk,qj]) (st₁:=⟨mc0 q.2.1 q.2.2,2⟩) (σ':=σ) (τ:=[]) (n:=n) inf (fun _ z=>nomatch z) T at'.len (by rw [List.append_nil]) fun e he=>?_
  ·rw [List.append_nil] at B; exact B
  rw [List.append_nil]
  obtain ⟨p0,hp0,O0⟩:=T.at'.rep.ok _ m0
  obtain ⟨p1,hp1,O1⟩:=T.at'.rep.ok _ m1
  cases hp0
  cases hp1
  by_cases h1:e=(k,.inst 394 [("held",.ref q.1)])
  ·subst h1
   exact .inr ⟨qk,hqk,xy O0 rfl hqj,fun o eo=>SO.noConfusion eo⟩
  by_cases h2:e=(q.1,.mem q.2.1 q.2.2)
  ·subst h2
   exact .inr ⟨qj,hqj,O1,fun o eo=>SO.noConfusion eo⟩
  refine .inl ⟨he,fun pe hpe b hb z=>?_⟩
  exact (fD (show b∈[qk.1,qk.2]++[qj.1] from z)).elim (fun z=>h1 (cV at'.rep.nodup he mk hpe hqk hb z)) fun z=>h2 (cV at'.rep.nodup he mj hpe hqj hb z)
theorem jH:iL cpX:=by
 intro d a args st r A s F ρ vs Q E rm at' ha hX hr
 obtain ⟨rfl,⟨d',rfl⟩,hX⟩:=rq hX
 obtain ⟨k,ea,hX⟩:=bD hX
 obtain ⟨q,eq,rfl⟩:=dU hX
 cases s9 ea
 obtain ⟨hc,hr⟩:=hr
 obtain ⟨v1,rfl,i1⟩:=ag.inv1 ha
 obtain ⟨σ,n⟩:=st
 have hlen:ρ.length=n:=at'.len
 obtain ⟨qk,qj,rfl,sub,inf,back⟩:=lq at' eq i1
 refine zM rm sub hc fun F' s' x y T=>?_
 have hx:(ρ++[x,y])[n]?=some x:=by rw [List.getElem?_append_right (Nat.le_of_eq hlen),hlen,Nat.sub_self]; rfl
 have hy:(ρ++[x,y])[n+1]?=some y:=by rw [List.getElem?_append_right (hlen▸Nat.le_succ _),hlen,Nat.add_sub_cancel_left]; rfl
 have nd:([y.1,x.1,x.2]++[qk.1,qk.2,qj.1]).Nodup:=T.at'.rep.nodup
 obtain ⟨n1,n2,n3⟩:=List.nodup_append.mp nd
 have T₁:=back T (.tail _ (.tail _ (.head _))) (.tail _ (.tail _ (.tail _ (.head _))))
 obtain ⟨px,ex,Ox⟩:=T.at'.rep.ok (2,.inst 394 [("held",.ref 3)]) (.tail _ (.head _))
 obtain ⟨py,ey,Oy⟩:=T.at'.rep.ok (3,.mem q.2.1 q.2.2) (.head _)
 cases ex
 cases ey
 have inT:∀ a∈[y.1,x.1,x.2],a∈ae [qk,qj,x,y] (mcR q.2.1 q.2.2):=fun a ha=>(List.mem_append_left _ ha:a∈[y.1,x.1,x.2]++[qk.1,qk.2,qj.1])
 have new:∀ a∈[y.1,x.1,x.2],s.heap.get? a=none:=fun a ha=>(T.ext.new a (inT a ha)).resolve_left fun z=>n3 a ha a z rfl
 have T₂:=T₁.join (σn:=[(n+1,.mem q.2.1 q.2.2),(n,.inst 394 [("held",.ref (n+1))])]) (τ:=[x,y]) rfl (by rw [ae,ae,ae]; dsimp only; rw [hx,hy]; rfl) n1
  (fun a ha=>⟨new a ha,T.at'.rep.free a (inT a ha),(at'.new (new a ha)).1⟩) fun e he=>?_
 ·exact hr _ _ _ _ T₂ ⟨x,hx,rfl⟩
 ·rcases aJ he with rfl | he
  ·exact ⟨y,hy,Oy,fun o eo=>SO.noConfusion eo⟩
  ·cases ak he
   exact ⟨x,hx,xy Ox rfl hy,fun o eo=>SO.noConfusion eo⟩
end
end
section
noncomputable def oo (e:Expr):List Expr:=if h:e.ctorIdx=0 then Expr.BoolOp.elim e h fun _ es _=>es else []
noncomputable def unE (e:Expr):Expr:=if h:e.ctorIdx=3 then Expr.UnaryOp.elim e h fun _ e _=>e else dq
noncomputable def pQ (e:Expr):Arguments:=if h:e.ctorIdx=4 then Expr.Lambda.elim e h fun a _ _ _=>a else ⟨[],[],none,[],[],none,[]⟩
noncomputable def Ji (e:Expr):Expr:=if h:e.ctorIdx=4 then Expr.Lambda.elim e h fun _ b _ _=>b else dq
noncomputable def Jh (d:Scope)(e:Expr):Scope:=if h:e.ctorIdx=4 then Expr.Lambda.elim e h fun _ _ s _=>s else d
noncomputable def yP (s:Stmt):List ExceptHandler:=if h:s.ctorIdx=17 then Stmt.Try.elim s h fun _ h _ _ _=>h else []
noncomputable def ehT:List ExceptHandler→Expr
 | .ExceptHandler (some t) _ _ _::_=>t
 | _=>dq
noncomputable def ehB:List ExceptHandler→List Stmt
 | .ExceptHandler _ _ b _::_=>b
 | _=>[]
noncomputable def Hb:List ExceptHandler→Pos
 | .ExceptHandler _ _ _ q::_=>q
 | _=>⟨0,0,0,0⟩
noncomputable abbrev crB (p:Params):List Stmt:=bK p 1122
noncomputable abbrev n6 (p:Params):Expr:=di (ad 3 (crB p))
noncomputable abbrev xN (p:Params):Expr:=bc 1 (oo (n6 p))
noncomputable abbrev i6 (p:Params):Expr:=bc 0 (caA (unE (xN p)))
noncomputable abbrev jy (p:Params):Expr:=Ji (i6 p)
noncomputable abbrev j6 (p:Params):Scope:=Jh (aK p 1122) (i6 p)
noncomputable def i7:List (Str×Nat):=[("state",8),("begin",10),("arguments",11),("many",12),("_law_advance",13)]
noncomputable abbrev xf (p:Params)(d:Nat):Cx:=⟨j6 p,i7,d⟩
noncomputable def kpH (k3 k4 k5:Int):Hp:=[(14,.tup [.uint k3,.uint k4,.uint k5])]
noncomputable def cwK (m:M)(b:Int)(args:List Int)(bg mn:Int)(av pa:Addr)(k3 k4 k5:Int):Hp:=cwH m b args bg mn av pa++kpH k3 k4 k5
noncomputable def d6:List Nat:=[15,24,25,26,27,28,29,7]
section
variable (p:Params)(m:M)(b:Int)(args:List Int)(bg mn:Int)(av pa:Addr)(k3 k4 k5:Int)(d:Nat)
theorem xc:jy p=.Call (caF (jy p)) (caA (jy p)) [] (ao (jy p)):=by rfl'
theorem w9:noStar (caA (jy p))=true:=by rfl'
theorem xe:bG (caF (jy p))=false:=by rfl'
theorem tF:cr (an p) (.sta 557)=true:=by rfl'
theorem Gu:∀ v:Ev,v=ev (an p) cpX 60→am (v.e (xf p (d+20)) [] (caF (jy p)) ⟨cwK m b args bg mn av pa k3 k4 k5,15⟩)=([([],[],.sta 557,⟨cwK m b args bg mn av pa k3 k4 k5,15⟩)]:LE):=by rintro _ rfl; rfl'
theorem Gv:∀ v:Ev,v=ev (an p) cpX 60→((v.es (xf p (d+20)) [] (caA (jy p)) ⟨cwK m b args bg mn av pa k3 k4 k5,15⟩).paths ([],⟨[],0⟩)).map (fun q=>(q.asm,q.nd,q.res.1,dn d6 q.res.2.σ [0,1,4,5,7],trim 15 q.res.2.σ,q.res.2.nx)) =
  ([([],[m.R.length≤1000,m.n≤100000],[.ref 15,.uint bg,.ref 7,.uint (mn - 1),.sta av],cbH m b args,cwK m b args bg mn av pa k3 k4 k5,30)]:List (List Prop×List Prop×List SV×Hp×Hp×Nat)):=by rintro _ rfl; rfl'
noncomputable abbrev rfB (p:Params):List Stmt:=bK p 1115
noncomputable abbrev rfT (p:Params):Stmt:=ad 0 (rfB p)
noncomputable abbrev rfC (p:Params):Expr:=aI (ad 0 (ah (rfT p)))
theorem Ca:fQ (an p) 1115=true:=by rfl'
theorem vY:bj ((an p).lookup 1115)=(["ask"]:List Str):=by rfl'
theorem yY:rfB p=.Try (.Expr (.Call (.Name "ask" (ao (caF (rfC p)))) [] [] (ao (rfC p))) (aS (ad 0 (ah (rfT p))))::[]) (.ExceptHandler (some (.Name "MachineError" (ao (ehT (yP (rfT p)))))) none (.Return (some (.Constant (.bool true) 0 (ao (aI (ad 0 (ehB (yP (rfT p)))))))) (aS (ad 0 (ehB (yP (rfT p)))))::[]) (Hb (yP (rfT p)))::[]) [] [] (aS (rfT p))::(rfB p).drop 1:=by rfl'
noncomputable abbrev vZ (p:Params)(d:Nat):Cx:=⟨aK p 1115,[],d⟩
theorem Cb (fA:Addr)(σ:Hp)(n:Nat)(pos:Pos):∀ v:Ev,v=ev (an p) cpX 60→am (v.e (vZ p d) [("ask",.sta fA)] (.Name "ask" pos) ⟨σ,n⟩)=([([],[],.sta fA,⟨σ,n⟩)]:LE):=by rintro _ rfl; rfl'
theorem B9 (L:Loc)(cx:Cx)(σ:Hp)(n:Nat):∀ v:Ev,v=ev (an p) cpX 60→bw (v.es cx L [] ⟨σ,n⟩)=([([],[],[],⟨σ,n⟩)]:LEs):=by rintro _ rfl; rfl'
theorem H3:∀ (fA:Addr)(σ:Hp)(n:Nat),am (wF (an p) (vZ p d) [("ask",.sta fA)] "MachineError" ⟨σ,n⟩)=([([],[],.sta 71,⟨σ,n⟩)]:LE):=by intro fA σ n; rfl'
end
end
section
section
variable {M:Model}
theorem lL {W:List Addr}{h₂:Heap}{e:Addr}{l:List Env}{Q:Unit→Shared→Prop}(he:e∈W)(f:Fly W h₂ e l s.heap)(h:∀ h',Fly W h₂ e l h'→Q () { s with heap:=h' }):wpAny M A (setFlight (.ref e) none) Q E s:=by
 obtain ⟨⟨f1,f2,f3,oe,vs,T,oT,ts,g1,g2,g3,g4,g5,g6,g7,g8,g9⟩,f4⟩:=f
 unfold setFlight
 refine wpAny_bind (wpAny_field g1 g3 (x:=.ref T) g4 ?_)
 rw [if_pos (show (Value.ref T != Value.none)=true from by simp)]
 refine wpAny_setField g7 g8 (Array.getElem?_eq_some_iff.mp g9).1 ?_
 have other:∀ b,b≠T→(s.heap.update T (Obj.mapFields (·.setIfInBounds 3 ((none:Option Addr).elim Value.none fun f=>rawInt f)))).get? b=s.heap.get? b:=fun b hb=>Heap.get?_update_other _ _ (Ne.symm hb)
 have noRec:∀ b o,s.heap.get? b=some o→(∀ vs,o.data≠.fields vs)→b≠T:=fun b o hb hnf q=>by
  rw [q,g7] at hb; injection hb with hb; subst hb; exact hnf ts g8
 refine h _ ⟨⟨fun b o hb=>(other b fun q=>by rw [q,g5] at hb; cases hb).trans (f1 b o hb),f2,f3.of_keeps fun b o ho hnf=>⟨o,(other b (noRec b o ho hnf)).trans ho,rfl⟩,?_⟩,fun c o hc ho hd=>?_⟩
 ·have hd3:=Obj.data_mapFields g8 (·.setIfInBounds 3 ((none:Option Addr).elim Value.none fun f=>rawInt f))
  refine ⟨oe,vs,T,_,_,(other e (Ne.symm g6)).trans g1,g2,g3,g4,g5,g6,Heap.get?_update_self _ g7 (Obj.isFreed_of_fields hd3),hd3,?_⟩
  have:=(Array.getElem?_eq_some_iff.mp g9).1
  simp [this]
 ·obtain ⟨sl,e1⟩:=f4 c o hc ho hd
  exact ⟨sl,(other c (noRec c _ e1 hd)).trans e1⟩
end
section
noncomputable def bq (outer:List Env)(h h':Heap):Prop:=∀ env∈outer,∀ o,h.get? env.locals=some o→∃ sl,h'.get? env.locals=some { o with slots:=sl }
theorem Fm.slots {m:Loc}{σ:Hp}{h h':Heap}(fm:Fm F ρ σ cx env m h)(hk:∀ o,h.get? env.locals=some o→∃ sl,h'.get? env.locals=some { o with slots:=sl }) {F':Fz} {ρ':Rho} {σ':Hp} (hρ:gu ρ' cx env) (hm:∀ m',jM ρ m m'→jM ρ' m m') (ho:env.locals∉ae ρ' σ') (hf:F' env.locals=none):Fm F' ρ' σ' cx env m h':=by
 obtain ⟨m',⟨o,es,ep,e,hd,r⟩,hr⟩:=fm.ns
 obtain ⟨sl,e'⟩:=hk o e
 exact ⟨hρ,⟨m',⟨_,es,ep,e',hd,r⟩,hm _ hr⟩,ho,hf⟩
theorem r6 {v:Ev}(S:aG v){f:Expr}{args:List Expr}{pos:Pos}{f0:SV}{st₁:St}{m:Loc}{Pr:List SV×St→Prop}{Q:Value→Shared→Prop}(rm:aj cx.d A)(at':At F ρ st s)(fm:Fm F ρ st.σ cx env m s.heap)(hst:noStar args=true)(hna:∀ o x p,f≠.Attribute o x p)
  (hk:cr K f0=true) (h1:(v.e cx m f st).Ok fun r=>r=(f0,st₁)) (h2:(v.es cx m args st₁).Ok Pr)
  (h:∀ r,Pr r→∀ F' ρ' s' fv vs,To [] F ρ st s F' ρ' r.2 s'→f0.Is ρ' fv→ag (SV.Is ρ') r.1 vs→wpAny (model prog w) A (call fv vs) Q E s'):wpAny (model prog w) A (eval (.Call f args [] pos) env) Q E s:=by
 have nl:=@noA env.locals
 have e0:eval (.Call f args [] pos) env=(do callWith pos (←eval f env) [] (backTo pos (starEach args env)) (backToKw pos (keywordEach [] env))):=by
  cases f<;>first | rfl | exact absurd rfl (hna _ _ _)
 rw [e0]
 refine wpAny_bind (S.e rm at' fm (h1.mono fun r er F₁ ρ₁ s₁ v₁ T₁ i₁=>?_))
 subst er
 refine callWith_of (P:=fun h=>K.In h) ?_ (cM hk i₁) (ch hst ?_)
 ·rw [aY hst]; rfl
 ·refine S.es rm T₁.at' (fm.to T₁ nl) (h2.mono fun r er F₃ ρ₃ s₃ vs₃ T₃ i₃=>?_)
  exact ⟨T₃.at'.rep.world.inK,h r er F₃ ρ₃ s₃ _ vs₃ (T₁.trans T₃) (i₁.ext T₃.ext) i₃⟩
noncomputable def J3 (m:M)(b:Int)(args:List Int)(bg mn:Int)(av pa:Addr)(k3 k4 k5:Int)(r:List SV×St):Prop:=
 r.1=[.ref 15,.uint bg,.ref 7,.uint (mn - 1),.sta av]∧dn d6 r.2.σ [0,1,4,5,7]=cbH m b args∧trim 15 r.2.σ=cwK m b args bg mn av pa k3 k4 k5∧r.2.nx=30
theorem Gw {m:M}{b:Int}{args:List Int}{bg mn:Int}{av pa:Addr}{k3 k4 k5:Int}{r:Res (List SV×St)}{nd:List Prop}(e:(r.paths ([],⟨[],0⟩)).map (fun q=>(q.asm,q.nd,q.res.1,dn d6 q.res.2.σ [0,1,4,5,7],trim 15 q.res.2.σ,q.res.2.nx)) =
  ([([],nd,[.ref 15,.uint bg,.ref 7,.uint (mn - 1),.sta av],cbH m b args,cwK m b args bg mn av pa k3 k4 k5,30)]:List (List Prop×List Prop×List SV×Hp×Hp×Nat))) (hn:∀ x∈nd,x):r.Ok (J3 m b args bg mn av pa k3 k4 k5):=by
 refine Res.ok_paths ([],⟨[],0⟩) fun q hq ha=>?_
 have key:(q.asm,q.nd,q.res.1,dn d6 q.res.2.σ [0,1,4,5,7],trim 15 q.res.2.σ,q.res.2.nx)∈(r.paths ([],⟨[],0⟩)).map (fun q=>(q.asm,q.nd,q.res.1,dn d6 q.res.2.σ [0,1,4,5,7],trim 15 q.res.2.σ,q.res.2.nx)):=List.mem_map.mpr ⟨q,hq,rfl⟩
 rw [e,List.mem_singleton] at key
 obtain ⟨_,key⟩:=Prod.mk.inj key
 obtain ⟨k2,key⟩:=Prod.mk.inj key
 obtain ⟨k3,key⟩:=Prod.mk.inj key
 obtain ⟨k4,key⟩:=Prod.mk.inj key
 obtain ⟨k5,k6⟩:=Prod.mk.inj key
 exact ⟨by rw [k2]; exact hn,k3,k4,k5,k6⟩
noncomputable def A6 (p:Params)(F:Fz)(fA:Addr)(cl:List (Str×Addr)):Prop:=∃ fd,(∃ o,F fA=some o∧o.data=.func fd)∧fd.body=.expr (jy p)∧fd.scope=j6 p∧fd.globals=mainGlobals∧fd.builtins=builtinsNs∧fd.closure=cl∧
 bindArgs fd ⟨[],[]⟩=pure []∧∀ h,F.le h→h.CodeRec fd.code fd.qualname
theorem pP (p:Params):(j6 p).kind=.function:=by rfl'
theorem DE (p:Params):(j6 p).isCoroutine=false:=by rfl'
theorem Ag (p:Params):(j6 p).isGenerator=false:=by rfl'
theorem uC (p:Params):nA (j6 p).names=true:=by rfl'
theorem At.aside_ {ρ₁ ρ₁':Rho}{st₁ st₁':St}(at':At F ρ st s)(T:To [] F ρ₁ st₁ s F' ρ₁' st₁' s')(hX:∀ a∈ae ρ st.σ,a∉ae ρ₁ st₁.σ∧a∉([]:List Addr)) :
  To (ae ρ₁ st₁.σ) F ρ st s F' ρ st s':=To.aside at' T hX (fun a h=>nomatch h)
theorem xb {m m':M}{b bg mn k3 k4 k5:Int}{args:List Int}{av pa fA:Addr}{cl:List (Str×Addr)}{P:Prg}{N:Nat}{outer:List Env}{Q:Value→Shared→Prop}(rm:aj 37 A)(hfr:A.frames=some outer)(at':At F ρ ⟨cwK m b args bg mn av pa k3 k4 k5,15⟩ s)
  (hfo:aH outer F ρ (cwK m b args bg mn av pa k3 k4 k5) s.heap) (adv:iM p F av pa) (pr:dB F pa P) (hlam:A6 p F fA cl) (hcl:∀ x k,af x i7=some k→∃ q,ρ[k]?=some q∧cl.lookup x=some q.1)
  (hR:m.R.length=16) (hn:m.n+8*(bF args).length+16≤100000) (ha:args.length≤100000) (hb:(ck args).length≤100000) (tr:cZ P N (cY m args bg) m') (hN:mn - 1=(N:Int)) (hrip:m'.rip≠RP)
  (h:∀ F' s₂ e X W h',To X F ρ ⟨cwK m b args bg mn av pa k3 k4 k5,15⟩ s F' ρ ⟨cwK m b args bg mn av pa k3 k4 k5,15⟩ s₂→(∀ c∈X,s.heap.get? c=none)→(∀ c∈W,s.heap.get? c=none)→
   (∀ c∈W,c∉ae ρ (cwK m b args bg mn av pa k3 k4 k5)∧F' c=none)→aH outer F' ρ (cwK m b args bg mn av pa k3 k4 k5) s₂.heap→e∈W→(∀ c∈W,c=e∨∃ o es ep,s₂.heap.get? c=some o∧o.data=.dict es ep)→
   Fly (W++frL outer) s₂.heap e outer h'→E (.ref e) { s₂ with heap:=h' }) :
  wpAny (model prog w) A (call (.ref fA) []) Q E s:=by
 have hlen:ρ.length=15:=at'.len
 obtain ⟨v,hv⟩:∃ v,v=ev (an p) cpX 60:=⟨_,rfl⟩
 have S:aG v:=hv▸bW jH 60
 obtain ⟨fd,⟨o,hFo,hod⟩,hbd,hsc,hgl,hbu,hclo,hbind,hcode⟩:=hlam
 have ho:=at'.rep.le _ _ hFo
 refine wpAny_call (kla_callFunE rm.depth ho hod (by rw [hsc]; exact DE p) (by rw [hsc]; exact Ag p) hbd (hcode _ at'.rep.le) ?_)
 rw [hbind]
 refine wpAny_pure ?_
 refine wpAny_newFunctionEnv (by rw [hsc]; exact kZ (uC p)) (fun x hx=>nomatch hx) (fun h₁ hns sb=>?_) (by rw [hsc]; exact pP p)
 simp only [Option.isSome_none,Bool.false_eq_true,if_false] at sb
 have nw:=aT s.heap
 have kp:∀ b o,s.heap.get? b=some o→h₁.get? b=some o:=fun b o e=>aB sb (Nat.ne_of_lt (Heap.lt_size e)) (Heap.get?_push_of_some _ e)
 obtain ⟨R₁,X₁⟩:=at'.rep.grow kp
 generalize henv:newEnv fd.scope s.heap.objs.size fd.globals fd.closure (fd.qualname++".<locals>.") (some fA) fd.code none fd.builtins=env
 have hel:env.locals=s.heap.objs.size:=by rw [←henv]; rfl
 have hef:env.frame=some env.locals:=by rw [←henv]; rfl
 have T₁:To [] F ρ ⟨cwK m b args bg mn av pa k3 k4 k5,15⟩ s F ρ ⟨cwK m b args bg mn av pa k3 k4 k5,15⟩ { s with heap:=h₁,toks:=s.toks+([]:List (Str×Value)).length }:=⟨⟨R₁,at'.len⟩,X₁,rfl⟩
 refine ⟨T₁.at'.rep.world.lim,?_⟩
 have nwl:s.heap.get? env.locals=none:=by rw [hel]; exact nw
 have rm':aj 36 (A.deeper env):=rm.deeper
 have eo:env.locals∉ae ρ (cwK m b args bg mn av pa k3 k4 k5):=fun z=>by obtain ⟨y,hy⟩:=at'.rep.lt z; rw [nwl] at hy; cases hy
 have ef:F env.locals=none:=by
  cases q:F env.locals with
  | none=>rfl
  | some o=>have:=at'.rep.le _ _ q; rw [nwl] at this; cases this
 have fm₁:Fm F ρ (cwK m b args bg mn av pa k3 k4 k5) (xf p 36) env ([]:Loc) h₁:=by
  refine ⟨⟨by rw [←henv]; exact hsc,by rw [←henv]; exact hgl,by rw [←henv]; exact hbu,pP p,fun x k e=>?_⟩,⟨_,by rw [hel]; exact hns,fun x sv e=>by simp [af] at e⟩,eo,ef⟩
  obtain ⟨q,hq,hl⟩:=hcl x k e
  exact ⟨q,hq,by rw [←henv]; show fd.closure.lookup x=_; rw [hclo]; exact hl⟩
 refine kla_codeExpr ?_
 rw [xc]
 have nl:=@noA env.locals
 have hmn:m.n+16≤100000:=Nat.le_trans (Nat.add_le_add_right (Nat.le_add_right _ (8*(bF args).length)) 16) (by assumption)
 refine r6 S rm' T₁.at' fm₁ (w9 p) (a8 (xe p)) (tF p) (ac _ (Gu p m b args bg mn av pa k3 k4 k5 16 v hv) noP rfl) (Gw (Gv p m b args bg mn av pa k3 k4 k5 16 v hv) (fun P hP=>by
   exact bC hP (by rw [hR]; decide) fun hP=>bC hP (by omega) fun hP=>nomatch hP)) ?_
 rintro ⟨svs,σ5,n5⟩ ⟨e1,e2,e3,e4⟩ F₂ ρ₂ s₂ fv vs T₂ ifv ivs
 dsimp only at e1 e2 e3 e4 T₂ ivs
 subst e1 e4
 cases ifv
 have hlen2:ρ₂.length=30:=T₂.at'.len
 obtain ⟨τ,eτ⟩:=T₂.ext.pre
 obtain ⟨v0,v1,v2,v3,v4,rfl,i0,i1,i2,i3,i4⟩:=ivs.inv5
 obtain ⟨q15,h15,rfl⟩:=i0
 obtain ⟨t1,rfl⟩:=i1
 obtain ⟨q7,h7,rfl⟩:=i2
 obtain ⟨t2,rfl⟩:=i3
 cases i4
 rw [hN]
 have sub:At F₂ (bY ρ₂ d6) (bO m b args) s₂:=by
  have:=T₂.at'.reb (os:=d6) (ord:=[0,1,4,5,7]) (by decide) (by decide) (by decide)
  rw [e2] at this; exact this
 have r0:(bY ρ₂ d6)[0]?=some q15:=by
  show some (ρ₂.getD 15 (0,0))=some q15
  rw [List.getD,h15]; rfl
 have r7:(bY ρ₂ d6)[7]?=some q7:=by
  show some (ρ₂.getD 7 (0,0))=some q7
  rw [List.getD,h7]; rfl
 have kF:∀ a o,F a=some o→F₂ a=some o:=fun a o e=>T₂.ext.fz a o (T₁.ext.fz a o e)
 have T₀₂:To [] F ρ ⟨cwK m b args bg mn av pa k3 k4 k5,15⟩ s F₂ ρ₂ ⟨σ5,30⟩ s₂:=T₁.trans T₂
 have hfo₂:aH outer F₂ ρ₂ σ5 s₂.heap:=hfo.to T₀₂ (fun _ _ z=>nomatch z)
 have fm₂:=fm₁.to T₂ nl
 have hall₂:aH (env::outer) F₂ ρ₂ (⟨σ5,30⟩:St).σ s₂.heap:=Fm.frame fm₂ hef hfo₂
 have fsub:∀ a∈ae (bY ρ₂ d6) (cbH m b args),a∈ae ρ₂ σ5∧s.heap.get? a=none∧a∉ae ρ (cwK m b args bg mn av pa k3 k4 k5):=by
  intro a ha
  rw [←e2] at ha
  obtain ⟨k,hk,o,q,hm,hq,hao⟩:=iT T₂.at' a ha
  have h1:a∈ae ρ₂ σ5:=aw.mpr ⟨_,hm,q,hq,hao⟩
  have h2:a∉ae ρ (cwK m b args bg mn av pa k3 k4 k5):=by
   intro z
   obtain ⟨e0,he0,q0,hq0,ha0⟩:=aw.mp z
   rw [←e3] at he0
   obtain ⟨m0,l0⟩:=eJ he0
   have hq0':ρ₂[e0.1]?=some q0:=by rw [eτ]; exact bx hq0
   have:=cV T₂.at'.rep.nodup hm m0 hq hq0' hao ha0
   have hk0:k=e0.1:=by rw [←this]
   simp only [d6,List.mem_cons,List.not_mem_nil,or_false] at hk
   have:k=7:=(by decide:∀ k<15,(k=15∨k=24∨k=25∨k=26∨k=27∨k=28∨k=29∨k=7)→k=7) k (hk0▸l0) hk
   subst this
   have he7:(7,o)∈cwK m b args bg mn av pa k3 k4 k5:=by rw [←e3]; rw [‹(7,o)=e0›]; exact he0
   have key:(cwK m b args bg mn av pa k3 k4 k5).all (fun e=>!(Nat.beq e.1 7)||Nat.beq (im e.2) 0)=true:=by rfl'
   have:=dQ key _ he7
   have hk0:Nat.beq (im o) 0=true:=by simpa using this
   have hk0:=iY hk0
   have:aN q o=[]:=by cases o<;>first | rfl | exact absurd hk0 (Nat.succ_ne_zero _)
   rw [this] at hao; cases hao
  exact ⟨h1,(T₀₂.ext.new a h1).resolve_left h2,h2⟩
 have hallS:aH (env::outer) F₂ (bY ρ₂ d6) (cbH m b args) s₂.heap:=fun e he=>by
  obtain ⟨z1,z2,z3,z4,z5⟩:=hall₂ e he
  exact ⟨z1,z2,fun z=>z3 (fsub _ z).1,z4,z5⟩
 refine xW rm'.le sub (adv.mono kF) (pr.mono kF) hR hn ha hb tr hrip r0 r7 (Around.frames_deeper hfr) hallS fun F₃ s₃ e b' Lc h₃ T₃ ge gl oe fe ol fl fo₃ le ll fly=>?_
 have hne:∀ {c},s₂.heap.get? c=none→s.heap.get? c=none:=fun {c} hc=>by
  cases q:s.heap.get? c with
  | none=>rfl
  | some o=>obtain ⟨o',e'⟩:=T₀₂.ext.live _ _ q; rw [hc] at e'; cases e'
 refine wpAny_leaving_next (base:=hideAll s₃.heap (e::Lc::frL (env::outer))) (Around.frames_deeper hfr) fly.1.2.2.1 hef fly.1.2.2.2 fly.1.1 fly.1.2.1 fun h₄ x=>?_
 have fly₄:=fly.next x
 rw [eτ] at T₀₂
 have T₀₂':=T₀₂.trim hlen (by dsimp only; rw [e3]; rfl') ⟨[],by simp⟩
 dsimp only at T₀₂'
 rw [e3] at T₀₂'
 have TA:=T₀₂'.at'.aside_ T₃ (fun a ha=>⟨fun z=>(fsub a z).2.2 ha,fun z=>nomatch z⟩)
 have TT:=(T₀₂'.nil (X:=ae (bY ρ₂ d6) (cbH m b args))).trans TA
 have nX:∀ c∈ae (bY ρ₂ d6) (cbH m b args),s.heap.get? c=none:=fun c hc=>(fsub c hc).2.1
 have hfX:∀ a∈frL outer,a∉ae (bY ρ₂ d6) (cbH m b args):=fun a ha z=>by
  obtain ⟨en,hen,rfl⟩:=List.mem_map.mp ha
  obtain ⟨_,_,_,_,o,_,_,ho,_⟩:=hfo en hen
  rw [nX _ z] at ho; cases ho
 have hfo₃:aH outer F₃ ρ (cwK m b args bg mn av pa k3 k4 k5) s₃.heap:=hfo.to TT hfX
 obtain ⟨_,_,_,z4,oel,zs,zp,hoel,hdel⟩:=fo₃ env (.head _)
 have outA:∀ {c},s₂.heap.get? c=none→c∉ae ρ (cwK m b args bg mn av pa k3 k4 k5):=fun {c} hc z=>by
  obtain ⟨y,hy⟩:=T₀₂'.at'.rep.lt z; rw [hc] at hy; cases hy
 refine h F₃ s₃ e (ae (bY ρ₂ d6) (cbH m b args)) [e,Lc,env.locals] h₄ TT nX (fun c hc=>?_) (fun c hc=>?_) hfo₃ (.head _) (fun c hc=>?_) fly₄
 ·rcases gx hc with rfl | rfl | rfl
  ·exact hne ge
  ·exact hne gl
  ·exact nwl
 ·rcases gx hc with rfl | rfl | rfl
  ·exact ⟨outA ge,fe⟩
  ·exact ⟨outA gl,fl⟩
  ·exact ⟨eo,z4⟩
 ·rcases gx hc with rfl | rfl | rfl
  ·exact .inl rfl
  ·exact .inr ll
  ·exact .inr ⟨_,zs,zp,hoel,hdel⟩
end
end
section
section
theorem j7 {m:Loc}{x:Str}{pos:Pos}{v:Value}(at':At F ρ st s)(fm:Fm F ρ st.σ cx env m s.heap)(nd:sEq x "__debug__" = false)(hl:af x cx.sc.names=some .globalImplicit)(hn:nsIn K mainGlobals x=some (some v)){Q:Value→Shared→Prop}
  (h:Q v s):wpAny (model prog w) A (eval (.Name x pos) env) Q E s:=by
 have hk:=f5 fm.eok x
 have hf:=cL fm.eok
 have nd:(x == ("__debug__" : Str))=false:=by rw [←fU]; exact nd
 rw [hl] at hk
 obtain ⟨mg,hg,hgl⟩:=at'.rep.world.g
 have hg':s.heap.Ns env.globals mg:=by rw [fm.eok.gl]; exact hg
 exact Name_function_global hf hk (loadGlobal_global hg' (hgl _ _ hn) h) nd
theorem yW (p:Params)(d:Nat):af ("MachineError" : Str) (vZ p d).sc.names=some .globalImplicit:=by rfl'
theorem EQ (p:Params):nsIn (an p) mainGlobals ("MachineError" : Str)=some (some (.ref 71)):=by rfl'
theorem yX {m m':M}{b bg mn k3 k4 k5:Int}{args:List Int}{av pa fA:Addr}{cl:List (Str×Addr)}{P:Prg}{N:Nat}{outer:List Env}{Q:Value→Shared→Prop}(rm:aj 38 A)(hfr:A.frames=some outer)(at':At F ρ ⟨cwK m b args bg mn av pa k3 k4 k5,15⟩ s)
  (hfo:aH outer F ρ (cwK m b args bg mn av pa k3 k4 k5) s.heap) (adv:iM p F av pa) (pr:dB F pa P) (hlam:A6 p F fA cl) (hcl:∀ x k,af x i7=some k→∃ q,ρ[k]?=some q∧cl.lookup x=some q.1)
  (hR:m.R.length=16) (hn:m.n+8*(bF args).length+16≤100000) (ha:args.length≤100000) (hb:(ck args).length≤100000) (tr:cZ P N (cY m args bg) m') (hN:mn - 1=(N:Int)) (hrip:m'.rip≠RP)
  (h:∀ F' s',To (frL outer) F ρ ⟨cwK m b args bg mn av pa k3 k4 k5,15⟩ s F' ρ ⟨cwK m b args bg mn av pa k3 k4 k5,15⟩ s'→bq outer s.heap s'.heap→(∀ a∈frL outer,a∉ae ρ (cwK m b args bg mn av pa k3 k4 k5)∧F' a=none)→Q (.bool true) s') :
  wpAny (model prog w) A (call (.ref 1115) [.ref fA]) Q E s:=by
 have hlen:ρ.length=15:=at'.len
 obtain ⟨v,hv⟩:∃ v,v=ev (an p) cpX 60:=⟨_,rfl⟩
 have S:aG v:=hv▸bW jH 60
 obtain ⟨fd,fn,hsc,hcl0⟩:=lA (Ca p) at'.rep.world.inK
 have fn:sK s.heap 1115 fd (["ask"]:List Str) (gm ((an p).lookup 1115)):=by rw [←vY p]; exact fn
 refine gj (d:=37) (args:=[.sta fA]) rm at' fn (cells:=[]) (fun x k z=>by simp [af] at z) (.cons rfl .nil) rfl fun env s₀ T₀ fm₀ nw rm' henv=>?_
 rw [hsc] at fm₀
 have fm₀:Fm F ρ (cwK m b args bg mn av pa k3 k4 k5) (vZ p 37) env ([("ask",.sta fA)]:Loc) s₀.heap:=fm₀
 have hef:env.frame=some env.locals:=by rw [henv]
 have nl:=@noA env.locals
 show wpAny _ _ (execs (rfB p) env) _ _ _
 rw [yY]
 refine wpAny_execs_cons (wpAny_Try_except ?_)
 refine wpAny_execs_cons (wpAny_Expr_any ?_ (by unfold interactive; rw [cL fm₀.eok]; rfl) rfl)
 have hlam':=hlam
 obtain ⟨fdl,⟨o,hFo,hod⟩,_⟩:=hlam'
 have hall₀:aH (env::outer) F ρ (⟨cwK m b args bg mn av pa k3 k4 k5,15⟩:St).σ s₀.heap:=Fm.frame fm₀ hef (hfo.to T₀ (fun _ _ z=>nomatch z))
 refine mO S rm' T₀.at' fm₀ rfl (by intro o x q e; cases e) (xg hFo hod) (ac _ (Cb p 37 fA _ _ _ v hv) noP rfl) (ac _ (B9 p _ _ _ _ v hv) noP rfl) (bS hlen fun F₁ s₁ vs T₁ ivs=>?_)
 cases ivs
 have T₀₁:=T₀.trans T₁
 have fm₁:=fm₀.to T₁ nl
 have hall₁:=hall₀.to T₁ (fun _ _ z=>nomatch z)
 have hlam₁:A6 p F₁ fA cl:=by
  obtain ⟨fd,⟨o,h1,h2⟩,h3,h4,h5,h6,h7,h8,h9⟩:=hlam
  exact ⟨fd,⟨o,T₀₁.ext.fz _ _ h1,h2⟩,h3,h4,h5,h6,h7,h8,fun h' hh=>h9 h' fun c x e=>hh c x (T₀₁.ext.fz c x e)⟩
 refine xb rm' (Around.frames_deeper hfr) T₁.at' hall₁ (adv.mono T₀₁.ext.fz) (pr.mono T₀₁.ext.fz) hlam₁ hcl hR hn ha hb tr hN hrip fun F₂ s₂ e X W h₃ T₂ hX hW hWo fo₂ heW hlv fly=>?_
 refine uo (base:=hideAll s₂.heap (W++frL (env::outer))) (Around.frames_deeper hfr) fly.1.2.2.1 hef fly.1.2.2.2 fly.1.1 fly.1.2.1 fun h₄ x=>?_
 have fly₄:Fly (W++frL (env::outer)) s₂.heap e (env::outer) h₄:=by
  obtain ⟨x1,x2,x3,x4⟩:=x
  refine ⟨⟨x1,fly.1.2.1,x2,x3⟩,fun c o hc ho hd=>?_⟩
  obtain ⟨sl,e1⟩:=fly.2 c o hc ho hd
  obtain ⟨sl',e2⟩:=x4 c _ e1 hd
  exact ⟨sl',e2⟩
 have hWo':∀ c∈W++frL (env::outer),c∉ae ρ (cwK m b args bg mn av pa k3 k4 k5)∧F₂ c=none:=fun c hc=>by
  rcases fD hc with hc | hc
  ·exact hWo c hc
  ·obtain ⟨en,hen,rfl⟩:=List.mem_map.mp hc
   obtain ⟨_,_,z3,z4,_⟩:=fo₂ en hen
   exact ⟨z3,z4⟩
 have TB:∀ {h':Heap},Fly (W++frL (env::outer)) s₂.heap e (env::outer) h'→To (W++frL (env::outer)) F₂ ρ ⟨cwK m b args bg mn av pa k3 k4 k5,15⟩ s₂ F₂ ρ ⟨cwK m b args bg mn av pa k3 k4 k5,15⟩ { s₂ with heap:=h' }:=fun {h'} f=>
  To.beside (tk:=s₂.toks) T₂.at' (fun c hc=>(hWo' c hc).1) (fun c hc=>(hWo' c hc).2) f.kept (fun c o hc ho=>by
   by_cases hd:∀ vs,o.data≠.fields vs
   ·obtain ⟨sl,e1⟩:=f.2 c o hc ho hd
    exact ⟨_,e1⟩
   ·rcases fD hc with hc | hc
    ·rcases hlv c hc with rfl | ⟨o',_,_,ho',hd'⟩
     ·obtain ⟨ob,hob,_⟩:=f.1.there
      exact ⟨ob,hob⟩
     ·rw [ho] at ho'; cases ho'
      exact absurd (fun vs e=>by rw [hd'] at e; cases e) hd
    ·obtain ⟨en,hen,rfl⟩:=List.mem_map.mp hc
     obtain ⟨_,_,_,_,o',_,_,ho',hd'⟩:=fo₂ en hen
     rw [ho] at ho'; cases ho'
     exact absurd (fun vs e=>by rw [hd'] at e; cases e) hd)
 have T₄:=TB fly₄
 have fmK:∀ {h':Heap},Fly (W++frL (env::outer)) s₂.heap e (env::outer) h'→Fm F₂ ρ (cwK m b args bg mn av pa k3 k4 k5) (vZ p 37) env ([("ask",.sta fA)]:Loc) h':=fun {h'} f=>by
  obtain ⟨_,_,z3,z4,_⟩:=fo₂ env (.head _)
  have hX':env.locals∉X:=fun z=>by
   obtain ⟨_,⟨o,_,_,ho,_⟩,_⟩:=fm₁.ns
   rw [hX _ z] at ho; cases ho
  refine Fm.slots fm₁ (fun o ho=>?_) fm₁.eok (fun _ z=>z) z3 z4
  have e2:=T₂.ext.keep _ _ ho fm₁.out hX'
  have hd:∀ vs,o.data≠.fields vs:=by
   obtain ⟨_,_,_,_,o',_,_,ho',hd'⟩:=fo₂ env (.head _)
   rw [e2] at ho'; cases ho'
   intro vs q; rw [hd'] at q; cases q
  exact f.2 _ o (List.mem_append_right _ (.head _)) e2 hd
 have hm:e∈W++frL (env::outer):=List.mem_append_left _ heW
 refine wpAny_handleBy_cons (codeAny_handlers_test ?_) (by intro q; cases q)
 refine j7 T₄.at' (fmK fly₄) rfl (yW p 37) (EQ p) ?_
 obtain ⟨oe,hoe,hce⟩:=fly₄.1.there
 have hC:=T₄.at'.rep.world.inK _ _ (nG p)
 refine wpAny_excMatches_sub_self (C:=71) (bm:=rE) (nm:="MachineError") (q:="MachineError") (N:=70) (bs:=[.ref 46]) (hdct:=true) (sn:=[]) (sub:=[]) (ab:=false) (col:=none) (dd:=none) (k0:=some (.ref 62)) (k1:=none) (k2:=some (.str "MachineError" 250)) (k3:=some (.str "MachineError" 258)) (k5:=some (.bool true)) (newId:="Exception.__new__") hC hoe hce (by decide +kernel) ?_
 rw [if_pos rfl]
 refine codeAny_handlers_suite (lL (s:={ s₂ with heap:=h₄ }) hm fly₄ fun h₅ fly₅=>?_)
 refine wpAny_execs_cons (wpAny_Return_some (wpAny_Constant_bool ?_))
 have T₅:=TB fly₅
 have T₀₅:To (X++(W++frL (env::outer))) F ρ ⟨cwK m b args bg mn av pa k3 k4 k5,15⟩ s F₂ ρ ⟨cwK m b args bg mn av pa k3 k4 k5,15⟩ { s₂ with heap:=h₅ }:=
  (T₀₁.nil).trans ((T₂.weaken (fun a h=>List.mem_append_left _ h)).trans (T₅.weaken (fun a h=>List.mem_append_right _ h)))
 have hn₀:∀ {c},s₁.heap.get? c=none→s.heap.get? c=none:=fun {c} hc=>by
  cases q:s.heap.get? c with
  | none=>rfl
  | some o=>obtain ⟨o',e'⟩:=T₀₁.ext.live _ _ q; rw [hc] at e'; cases e'
 refine h F₂ { s₂ with heap:=h₅ } ⟨T₀₅.at',T₀₅.ext.drop fun a ha=>?_,T₀₅.sh⟩ (fun en hen o ho=>?_) fun a ha=>?_
 ·rcases fD ha with ha | ha
  ·exact .inr (hn₀ (hX a ha))
  ·rcases fD ha with ha | ha
   ·exact .inr (hn₀ (hW a ha))
   ·rcases aJ ha with rfl | ha
    ·exact .inr nw
    ·exact .inl ha
 ·obtain ⟨_,_,z3,_,o',_,_,ho',hd'⟩:=hfo en hen
  rw [ho] at ho'; cases ho'
  have hX':en.locals∉X:=fun z=>by
   have:=T₀₁.ext.keep _ _ ho z3 (fun z=>nomatch z)
   rw [hX _ z] at this; cases this
  have e2:=T₂.ext.keep _ _ (T₀₁.ext.keep _ _ ho z3 (fun z=>nomatch z)) z3 hX'
  exact fly₅.2 _ o (List.mem_append_right _ (.tail _ (List.mem_map_of_mem hen))) e2 (fun vs q=>by rw [hd'] at q; cases q)
 ·obtain ⟨en,hen,rfl⟩:=List.mem_map.mp ha
  obtain ⟨_,_,z3,z4,_⟩:=fo₂ en (.tail _ hen)
  exact ⟨z3,z4⟩
end
end
section
section
noncomputable def ft:Nat→List (Option SV)→Hp
 | _,[]=>[]
 | n,v::r=>(n,.cell v)::ft (n+1) r
noncomputable def dc (cs:List Addr):Rho:=cs.map fun c=>(c,0)
theorem sm {cs:List Addr}{svs:List (Option SV)}{ρ:Rho}(h:svs.length=cs.length):ae (ρ++dc cs) (ft ρ.length svs)=cs:=by
 induction svs generalizing cs ρ with
 | nil=>exact (List.eq_nil_of_length_eq_zero h.symm).symm
 | cons v r ih=>
  cases cs with
  | nil=>exact absurd h (Nat.succ_ne_zero _)
  | cons c cs=>
   have e:=ih (cs:=cs) (ρ:=ρ++[(c,0)]) (Nat.succ.inj h)
   rw [List.append_assoc,List.length_append] at e
   have hk:(ρ++dc (c::cs))[ρ.length]?=some (c,0):=by rw [List.getElem?_append_right (Nat.le_refl _),Nat.sub_self]; rfl
   show (match (ρ++dc (c::cs))[ρ.length]? with | some p=>aN p (SO.cell v) | none=>[])++ae (ρ++dc (c::cs)) (ft (ρ.length+1) r)=_
   rw [hk]
   exact congrArg (c::·) e
theorem gS {e:Nat×SO}:∀ {svs:List (Option SV)}{k:Nat},e∈ft k svs→∃ i sv,svs[i]?=some sv∧e=(k+i,.cell sv)
 | [],k,h=>nomatch h
 | v::r,k,h=>by
  rcases aJ h with rfl | h
  ·exact ⟨0,v,rfl,rfl⟩
  ·obtain ⟨i,sv,e1,e2⟩:=gS h
   exact ⟨i+1,sv,by simpa using e1,by rw [e2]; congr 1; omega⟩
theorem At.cells (at':At F ρ ⟨σ,n⟩ s){h':Heap}{tk:Nat}(kp:∀ b o,s.heap.get? b=some o→h'.get? b=some o){cs:List Addr}{svs:List (Option SV)}{vs:List (Option Value)}(hl:svs.length=cs.length)(hv:ag (az ρ) svs vs)
  (nd:cs.Nodup) (hnew:∀ c∈cs,s.heap.get? c=none) (hc:∀ (i:Nat) c v,cs[i]?=some c→vs[i]?=some v→h'.IsCell c v) :
  To [] F ρ ⟨σ,n⟩ s F (ρ++dc cs) ⟨ft n svs++σ,n+cs.length⟩ { s with heap:=h',toks:=tk }:=by
 have hlen:ρ.length=n:=at'.len
 subst hlen
 refine (To.grow at' kp).join (by unfold dc; rw [List.length_map]) (sm hl) nd (fun a ha=>⟨hnew a ha,(at'.new (hnew a ha)).2,(at'.new (hnew a ha)).1⟩) fun e he=>?_
 obtain ⟨i,sv,hi,rfl⟩:=gS he
 obtain ⟨v,hvi,hr⟩:=hv.get hi
 have hil:i<cs.length:=hl▸(List.getElem?_eq_some_iff.mp hi).1
 obtain ⟨o,ho,hd⟩:=hc i cs[i] v (List.getElem?_eq_getElem hil) hvi
 refine ⟨(cs[i],0),?_,⟨o,v,ho,hd,hr.mono⟩,fun o eo=>SO.noConfusion eo⟩
 rw [List.getElem?_append_right (Nat.le_add_right ..),Nat.add_sub_cancel_left]
 unfold dc
 rw [List.getElem?_map,List.getElem?_eq_getElem hil]
 rfl
structure yy (h:Heap)(a:Addr)(fd:FuncData)(names:List Str)(body:List Stmt):Prop where
 fn:FnC h a fd names body []
 clo:fd.closure=[]
noncomputable def oi (o:Option Obj):Value:=match cG o with
 | some fd=>fd.code
 | none=>.none
noncomputable def iV (o:Option Obj):Str:=match cG o with
 | some fd=>fd.qualname
 | none=>""
noncomputable def jF (K:Frag)(a:Addr):Bool:=match cG (K.lookup a) with
 | some fd=>kO K fd (fd.params.args.map (·.arg))&&fL fd.params&&kj fd.defaults&&nP fd.body
 | none=>false
theorem hM {a:Addr}{h:Heap}(hc:jF K a=true)(X:K.In h):∃ fd,yy h a fd (bj (K.lookup a)) (gm (K.lookup a))∧fd.scope=db (K.lookup a) default∧fd.code=oi (K.lookup a)∧fd.qualname=iV (K.lookup a):=by
 unfold jF at hc
 cases e:cG (K.lookup a) with
 | none=>rw [e] at hc; exact eqT hc
 | some fd=>
  rw [e] at hc
  refine cN hc fun hc h3=>cN hc fun hc h2=>cN hc fun p h1=>?_
  obtain ⟨e1,e2,e3,e4⟩:=pd e h1 h2 h3
  have hn:fd.params.args.map (·.arg)=bj (K.lookup a):=by unfold bj; rw [e]
  have z:=xG X e e1 e2 e3 (hn▸p)
  exact ⟨fd,⟨z.1,z.2⟩,e4,by unfold oi; rw [e],by unfold iV; rw [e]⟩
theorem ui {g:Str→Option Value}{names:List Str}{vs:List Value}(nd:names.Nodup)(hl:vs.length=names.length)(h:∀ n∈names,g n=(names.zip vs).lookup n):jQ g names=names.zip vs:=by
 induction names generalizing vs with
 | nil=>rfl
 | cons n r ih=>
  cases vs with
  | nil=>exact absurd hl (Nat.zero_ne_add_one _)
  | cons v vs=>
   obtain ⟨n1,n2⟩:=List.nodup_cons.mp nd
   have e:g n=some v:=(h n (.head _)).trans (by rw [List.zip_cons_cons,List.lookup_cons,beq_self_eq_true])
   have e2:=ih n2 (Nat.succ.inj hl) fun x hx=>(h x (.tail _ hx)).trans (by have q:(x == n)=false:=beq_false_of_ne fun z=>n1 (z.symm▸hx :); rw [List.zip_cons_cons,List.lookup_cons,q])
   unfold jQ at e2 ⊢
   rw [List.filterMap_cons,e,e2]
   rfl
theorem u4 {names:List Str}{vs:List Value}(nd:names.Nodup)(hl:vs.length=names.length):qF names vs []=names.zip vs:=
 ui nd hl fun n _=>by
  unfold je
  rw [List.drop_nil,List.zip_nil_right]
  rfl
theorem oC {names:List Str}{vs:List Value}(hl:vs.length=names.length):(names.zip vs).map (·.1)=names:=List.map_fst_zip (Nat.le_of_eq hl.symm)
theorem yA {names:List Str}{vs:List Value}(hl:vs.length=names.length){n:Str}(hn:n∈names):((names.zip vs).lookup n).isSome=true:=by
 rw [←ba]
 induction names generalizing vs with
 | nil=>cases hn
 | cons x r ih=>
  cases vs with
  | nil=>exact absurd hl (Nat.zero_ne_add_one _)
  | cons v vs=>
   rw [List.zip_cons_cons,af]
   cases q:sEq x n with
   | true=>rfl
   | false=>exact ih (Nat.succ.inj hl) ((aJ hn).resolve_left fun e=>cn.mp q e.symm)
theorem sr {fd:FuncData}{names:List Str}{body:List Stmt}{a:Addr}{vs:List Value}{Q:Value→Shared→Prop}(hdep:A.depth<recursionLimit)(hlim:s.heap.NoLimit)
  (fn:yy s.heap a fd names body) (hl:vs.length=names.length)
  (hkind:∀ x∈names,fd.scope.names.lookup x=some .local∨(fd.scope.names.lookup x=some .cell∧((cellsFrom (s.heap.objs.size+1) fd.scope.names []).lookup x).isSome=true))
  (h:∀ env s₁,env=newEnv fd.scope s.heap.objs.size mainGlobals (cellsFrom (s.heap.objs.size+1) fd.scope.names []) (fd.qualname++".<locals>.") (some a) fd.code none builtinsNs→InCallC s env.locals (bindL env.kindOf (names.zip vs) fun _=>none) env.cells (bindC env.kindOf (names.zip vs) fun _=>none) s₁→
   wpAny (model prog w) (A.deeper env) (execs body env) (fun fl s'=>Q (iS fl) s') (pi A env E) s₁):wpAny (model prog w) A (call (.ref a) vs) Q E s:=by
 have hb:BindsTo s fd ⟨vs,[]⟩ (names.zip vs):=u4 fn.fn.nod hl▸qE fn.fn (Nat.le_of_eq hl) fun n hn=>yA hl (List.mem_of_mem_take hn)
 obtain ⟨o,ho,hd⟩:=fn.fn.obj
 refine wpAny_call (codeAny_call_function hdep ho hd fn.fn.co fn.fn.gen fn.fn.bod fn.fn.code (hb _ _ _ _ ?_))
 rw [fn.clo]
 refine wpAny_newFunctionEnv_cells fn.fn.kind (fun x hx=>?_) fun env he s' x=>?_
 ·exact hkind _ (oC hl▸List.mem_map_of_mem hx)
 ·rw [fn.fn.glob,fn.fn.bui] at he
  refine ⟨hlim.keeps x.toInCall.keep,codeAny_func (wpAny_mono (h env s' he x) (fun fl s' z=>by cases fl<;>exact z) (fun _ _ z=>z))⟩
end
end
section
noncomputable def aV (xs:List Int)(spot seed:Int):Int:=if decide (spot<(xs.length:Int)) then xs.getD spot.toNat 0 else (((seed+7919*spot)*2654435761).fmod 4294967291).fdiv 16
noncomputable abbrev EO (p:Params)(d:Nat):Cx:=⟨aK p 1049,[],d⟩
noncomputable abbrev rwB (p:Params):List Stmt:=bK p 1049
noncomputable def rwH (spot seed:Int)(xs:List Int):Hp:=[(0,.list [.ref 1,.uint spot,.uint seed]),(1,.ro (.ilist xs))]
noncomputable def eP (l:Nat)(spot seed:Int):SO:=.list [.ref l,.uint spot,.uint seed]
section
variable (p:Params)(d:Nat)(spot seed:Int)(xs:List Int)
theorem B5:fQ (an p) 1049=true:=by rfl'
theorem oY:bj ((an p).lookup 1049)=(["pen"]:List Str):=by rfl'
theorem Iq:∀ v:Ev,v=ev (an p) noX 40→aq (v.ss (EO p (d+5)) [("pen",.ref 0)] (rwB p) ⟨rwH spot seed xs,2⟩) =
  ([([decide (spot<(xs.length:Int))=true],[xs.length<2 ^ 62,0≤spot∧spot<(xs.length:Int)∧xs.length<2 ^ 62],.ret (.uint (xs.getD spot.toNat 0)),[("pen",.ref 0),("spot",.uint spot)],⟨rwH (spot+1) seed xs,2⟩),
   ([decide (spot<(xs.length:Int))=false],[xs.length<2 ^ 62,Builtin.divisionGoesByPylong (((seed+7919*spot)*2654435761).fmod 4294967291) 16=false],.ret (.uint ((((seed+7919*spot)*2654435761).fmod 4294967291).fdiv 16)),[("pen",.ref 0),("spot",.uint spot)],⟨rwH (spot+1) seed xs,2⟩)]:LS):=by rintro _ rfl; rfl'
end
noncomputable def Fa (o:Option SO):Option (Nat×Int×Int):=(asL o).bind fun l=>(sO l).bind fun q=>(gF q.1).bind fun k=>(jj q.2.1).bind fun a=>(jj q.2.2).map fun b=>(k,a,b)
noncomputable def Iu:Option SO→Option SO
 | some (.ro o)=>some o
 | _=>none
noncomputable def roI (o:Option SO):Option (List Int):=asI (Iu o)
noncomputable def Ix (st:St)(k:Nat)(q:Nat×Int×Int)(xs:List Int):Res (SV×St):=.need (0≤q.2.1∧xs.length≤100000) (.ok (.uint (aV xs q.2.1 q.2.2),⟨dp k (eP q.1 (q.2.1+1) q.2.2) st.σ,st.nx⟩))
noncomputable def EW:Orc:=orc 1049 fun args st=>(Cd args).bind fun k=>(Fa (aM k st.σ)).bind fun q=>(roI (aM q.1 st.σ)).map (Ix st k q)
theorem zh {o:Option SO}{q:Nat×Int×Int}(h:Fa o=some q):o=some (eP q.1 q.2.1 q.2.2):=by
 obtain ⟨l,e1,h⟩:=bD h
 obtain ⟨r,e2,h⟩:=bD h
 obtain ⟨k,e3,h⟩:=bD h
 obtain ⟨a,e4,h⟩:=bD h
 obtain ⟨b,e5,rfl⟩:=dU h
 rw [gU e1,kA e2,dL e3,gW e4,gW e5]
 rfl
theorem B8 {o:Option SO}{xs:List Int}(h:roI o=some xs):o=some (.ro (.ilist xs)):=by
 have e:=jL h
 cases o with
 | none=>exact nos e
 | some o=>cases o<;>first | exact nos e | exact congrArg (fun o=>some (SO.ro o)) (Option.some.inj e)
section
theorem th {h:Heap}{q r:Addr×Addr}{l l':Nat}{a b:Int}(O:OkO ρ h q (eP l a b))(h1:ρ[l]?=some r)(h2:ρ'[l']?=some r):OkO ρ' h q (eP l' a b):=by
 obtain ⟨vs,n,e1,e2⟩:=O
 refine ⟨vs,n,e1,?_⟩
 obtain ⟨x,y,z,e,i,rr⟩:=e2.inv3
 obtain ⟨r',hr',rfl⟩:=i
 cases h1.symm.trans hr'
 exact e▸.cons ⟨r,h2,rfl⟩ (.cons rr.1 (.cons rr.2 .nil))
theorem uf {d:Nat}{spot seed:Int}{xs:List Int}{q0 q1:Addr×Addr}{Q:Value→Shared→Prop}(rm:aj (d+6) A)(at':At F [q0,q1] ⟨rwH spot seed xs,2⟩ s)(hx:xs.length≤100000)(h0:0≤spot)
  (h:∀ F' s' v,To [] F [q0,q1] ⟨rwH spot seed xs,2⟩ s F' [q0,q1] ⟨rwH (spot+1) seed xs,2⟩ s'→(SV.uint (aV xs spot seed)).Is [q0,q1] v→Q v s'):wpAny (model prog w) A (call (.ref 1049) [.ref q0.1]) Q E s:=by
 obtain ⟨v,hv⟩:∃ v,v=ev (an p) noX 40:=⟨_,rfl⟩
 have S:aG v:=hv▸bW cb 40
 refine dR (d:=d+5) (args:=[.ref 0]) (B5 p) rm at' (.cons ⟨q0,rfl,rfl⟩ .nil) (by rw [oY]; rfl) fun env s₀ T₀ fm₀ nw rm'=>?_
 rw [oY] at fm₀
 have fm₀:Fm F [q0,q1] (rwH spot seed xs) (EO p (d+5)) env ([("pen",.ref 0)]:Loc) s₀.heap:=fm₀
 show wpAny _ _ (execs (rwB p) env) _ _ _
 refine S.ss rm' T₀.at' fm₀ (cX _ (Iq p d spot seed xs v hv) fun x hx' ha=>?_)
 have fin:∀ {y:Int} {l:Loc} {F' ρ' s' f},y=aV xs spot seed→To [env.locals] F [q0,q1] ⟨rwH spot seed xs,2⟩ s₀ F' ρ' ⟨rwH (spot+1) seed xs,2⟩ s'→(Fl.ret (.uint y)).Is ρ' f→Q (iS f) s':=by
  intro y l F' ρ' s' f ey T hf
  have T:=((T₀.nil (X:=[env.locals])).trans T).leave nw
  have e:=aU T rfl
  subst e
  obtain ⟨z,rfl,i⟩:=hf
  subst ey
  exact h _ _ _ T i
 rcases aJ hx' with rfl | hx'
 ·have c:decide (spot<(xs.length:Int))=true:=ha _ (.head _)
  refine ⟨fun n hn=>?_,fun F' ρ' s' f T _ hf=>fin (l:=[]) (by unfold aV; rw [if_pos c]) T hf⟩
  rcases fb hn with rfl | rfl
  ·omega
  ·exact ⟨h0,of_decide_eq_true c,by omega⟩
 ·rw [List.mem_singleton] at hx'; subst hx'
  have c:decide (spot<(xs.length:Int))=false:=ha _ (.head _)
  refine ⟨fun n hn=>?_,fun F' ρ' s' f T _ hf=>fin (l:=[]) (by unfold aV; rw [if_neg (by rw [c]; simp)]) T hf⟩
  rcases fb hn with rfl | rfl
  ·omega
  ·exact PyProof.noPylong_small (by decide)
theorem rh:iL EW:=by
 intro d a args st r A s F ρ vs Q E rm at' ha hX hr
 obtain ⟨rfl,⟨d',rfl⟩,hX⟩:=rq hX
 obtain ⟨k,ea,hX⟩:=bD hX
 obtain ⟨⟨l,spot,seed⟩,ep,hX⟩:=bD hX
 obtain ⟨xs,ex,rfl⟩:=dU hX
 cases s9 ea
 have hk:=zh ep
 have hl:=B8 ex
 obtain ⟨⟨h0,hc⟩,hr⟩:=hr
 obtain ⟨v1,rfl,i1⟩:=ag.inv1 ha
 obtain ⟨qk,hqk,Ok⟩:=at'.rep.get hk
 obtain ⟨ql,hql,Ol⟩:=at'.rep.get hl
 cases at'.ref i1 hqk
 have mk:=aL hk
 have ml:=aL hl
 have sub:At F [qk,ql] ⟨rwH spot seed xs,2⟩ s:=by
  refine at'.sub rfl (fun e he=>?_) (fun e he o eo=>?_) ?_ ?_
  ·rcases fb he with rfl | rfl
   ·exact ⟨qk,rfl,th Ok hql rfl⟩
   ·exact ⟨ql,rfl,Ol⟩
  ·rcases fb he with rfl | rfl
   ·cases eo
   ·cases eo
    intro q hq h' hh
    cases hq
    exact at'.rep.ro _ ml _ rfl _ hql h' hh
  ·show [qk.1].Nodup
   simp
  ·intro a ha
   exact aw.mpr ⟨_,mk,qk,hqk,ha⟩
 refine uf rm sub hc h0 fun F' s' v T iv=>hr F' ρ s' v ?_ iv
 have B:=at'.back (X:=[]) (ρ₁:=[qk,ql]) (st₁:=⟨rwH spot seed xs,2⟩) (σ':=dp k (eP l (spot+1) seed) st.σ) (τ:=[]) (n:=st.nx) (fun a ha=>aw.mpr ⟨_,mk,qk,hqk,ha⟩) (fun _ z=>nomatch z) T (by rw [List.length_nil]; exact at'.len) (by rw [List.append_nil]; exact mt (o:=eP l spot seed) (o':=eP l (spot+1) seed) (fun _=>rfl) hk) (fun e he=>?_)
 ·rw [List.append_nil] at B; exact B
 ·rw [List.append_nil]
  rcases jP (o':=eP l (spot+1) seed) hk at'.rep.nodup hqk e he with rfl | ⟨he',hno⟩
  ·right
   obtain ⟨q,hq,O⟩:=T.at'.rep.ok (0,eP 1 (spot+1) seed) (.head _)
   cases hq
   exact ⟨qk,hqk,th O rfl hql,fun o eo=>by cases eo⟩
  ·exact .inl ⟨he',fun pe hpe b hb z=>hno pe hpe b hb z⟩
end
end
section
section
theorem ee.next' {t:Expr}{it:Value}{W:List Addr}{n:Nat}{Items:Nat→Value→Heap→Prop}{It:Nat→Heap→Prop}(P:ee A F₀ t it W n Items It)(ht:dY t=true){i:Nat}{Q:Value→Shared→Prop}(hi:i<n)(hI:It i s.heap)
  (h:∀ v h' tk,Items i v h'→It (i+1) h'→dm W s.heap h'→Q v { s with heap:=h',toks:=tk }):wpAny (model prog w) A (pyNext it) (fun r s'=>match r with
   | some v=>Q v s'
   | none=>False) E s:=fun Γ p hΓ=>Sem.wp_mono _ Γ _ (fun r p' s' hr=>by
  cases r with
  | none=>exact hr
  | some v=>
   have hr:wpAny (model prog w) A (letOwnedTupleGo t it v) (fun _ s''=>Q v s'') E s':=hr
   rw [bV ht] at hr
   exact hr Γ p' hΓ) (fun _ _ _ e=>e) p s (P.next hi hI h Γ p hΓ)
noncomputable abbrev sQ (ifs:List Expr)(env:Env):Sem Bool:=forIn ifs true fun c r=>if r=true then do let ok←isTrue c env (eval c env); pure (ForInStep.yield ok) else pure (ForInStep.yield r)
structure qM (W:List Addr)(n n0:Nat)(D C:Addr)(It:Nat→Heap→Prop)(Wh:Nat→Hp)(Y:Nat→List SV)(F₀:Fz)(ρ₀:Rho)(s₀:Shared)(k:Nat)(s:Shared):Prop where
 all:∃ i F,i+k=n∧To (C::W) F₀ ρ₀ ⟨Wh 0,n0⟩ s₀ F (ρ₀++[(D,0)]) ⟨(n0,.slist (Y i))::Wh i,n0+1⟩ s∧(∃ m,s.heap.Ns C m)∧It i s.heap∧∀ c∈C::W,c∉ae (ρ₀++[(D,0)]) ((n0,.slist (Y i))::Wh i)∧F c=none
set_option maxHeartbeats 2000000 in
theorem eH {elt iter:Expr}{x:Str}{px:Pos}{ifs:List Expr}{scope:Scope}{pos:Pos}{cl:List (Str×Addr)}{it:Value}{W:List Addr}{n n0:Nat}{Items:Nat→Value→Heap→Prop}{It:Nat→Heap→Prop}
  {Wh:Nat→Hp} {Y:Nat→List SV} {el:Nat→SV} {ccx:Cx} {h₁:Heap} {tk₁:Nat} {RR:Value→Addr→Result→Shared→Prop} (P:ee A F₀ (.Name x px) it W n Items It)
  (at₀:At F₀ ρ₀ ⟨Wh 0,n0⟩ s₀) (hk:∀ c o,s₀.heap.get? c=some o→h₁.get? c=some o) (hW:∀ c∈W,s₀.heap.get? c=none) (hI:It 0 h₁)
  (hself:∀ {s:Shared} {Q:Value→Shared→Prop} {E:Value→Shared→Prop},It 0 s.heap→Q it s→wpAny (model prog w) A (pyIter it) Q E s)
  (hY:Y 0=[]) (hYn:∀ i,i<n→(Y i).length≤100000) (hcell:∀ y∈scope.names,y.2≠.cell) (hkind:scope.kind=.function)
  (henv:∀ C,gu ρ₀ ccx (compEnvC scope cl C env)) (hx:aD ccx.sc x=true) (items:∀ {i v h ρ},i<n→Items i v h→(el i).Is ρ v)
  (turn:∀ {i F C D s E},i<n→(∀ a o,F₀ a=some o→F a=some o)→At F (ρ₀++[(D,0)]) ⟨(n0,.slist (Y i))::Wh i,n0+1⟩ s→Fm F (ρ₀++[(D,0)]) ((n0,.slist (Y i))::Wh i) ccx (compEnvC scope cl C env) [(x,el i)] s.heap→
   wpAny (model prog w) A (sQ ifs (compEnvC scope cl C env)) (fun ok s₃=>if ok=true then wpAny (model prog w) A (eval elt (compEnvC scope cl C env)) (fun y s₄=>∃ F' sv,To [] F (ρ₀++[(D,0)]) ⟨(n0,.slist (Y i))::Wh i,n0+1⟩ s F' (ρ₀++[(D,0)]) ⟨(n0,.slist (Y i))::Wh (i+1),n0+1⟩ s₄∧sv.Is (ρ₀++[(D,0)]) y∧Y (i+1)=Y i++[sv]) E s₃
    else ∃ F',To [] F (ρ₀++[(D,0)]) ⟨(n0,.slist (Y i))::Wh i,n0+1⟩ s F' (ρ₀++[(D,0)]) ⟨(n0,.slist (Y i))::Wh (i+1),n0+1⟩ s₃∧Y (i+1)=Y i) E s)
  (fin:∀ {F s C D},To [] F₀ ρ₀ ⟨Wh 0,n0⟩ s₀ F (ρ₀++[(D,0)]) ⟨(n0,.slist (Y n))::Wh n,n0+1⟩ s→(∃ m,s.heap.Ns C m)→C∉ae (ρ₀++[(D,0)]) ((n0,.slist (Y n))::Wh n)→F C=none→s₀.heap.get? C=none→RR (.ref D) C (.ok .next) s) :
  wpAny (model prog w) A (newList []) (fun acc s₃=>wpAny (model prog w) A (newFunctionEnv scope env.globals cl [] env.qual none .none (some env)) (fun cenv s₄=>
   codeAny (model prog w) A (.compStart (.ListComp elt [⟨.Name x px,iter,ifs,0⟩] scope pos) 0 it acc { cenv with scope:=relabel scope env }) (RR acc cenv.locals) s₄) E s₃) E { s₀ with heap:=h₁,toks:=tk₁ }:=by
 have hlen:ρ₀.length=n0:=at₀.len
 refine wpAny_newObj_type (wpAny_newFunctionEnv hcell (by intro y hy; simp at hy) (fun h₂ hns₂ hsb₂=>?_) hkind)
 dsimp only at hns₂ hsb₂ ⊢
 generalize hH2:h₁.push { cls:=.type "list",dict:=none,data:=.seq ([]:List Value).toArray }=H2 at hns₂ hsb₂ ⊢
 generalize hD:h₁.objs.size=D at *
 have hC:H2.objs.size=D+1:=by rw [←hH2,Heap.size_push,hD]
 generalize hCC:H2.objs.size=C at *
 have hDC:D≠C:=by rw [hC]; exact Nat.ne_of_lt (Nat.lt_succ_self _)
 have below:∀ b o,h₁.get? b=some o→b≠D∧b≠C:=fun b o e=>by
  have:@LT.lt Nat _ b D:=hD▸Heap.lt_size e
  exact ⟨Nat.ne_of_lt this,by rw [hC]; exact Nat.ne_of_lt (Nat.lt_succ_of_lt this)⟩
 have oldH:∀ b o,h₁.get? b=some o→h₂.get? b=some o:=fun b o e=>hsb₂.extBut b o (below b o e).2 (Heap.get?_push_of_some _ (hH2▸Heap.get?_push_of_some _ e))
 have hDh:h₂.get? D=some ⟨.type "list",none,.seq #[] 0,#[]⟩:=by
  refine hsb₂.extBut _ _ hDC (Heap.get?_push_of_some _ ?_)
  rw [←hH2,←hD]
  exact Heap.get?_push_size _ rfl
 have hD₀:s₀.heap.get? D=none:=by
  cases q:s₀.heap.get? D with
  | none=>rfl
  | some o=>exact absurd rfl (below _ _ (hk _ _ q)).1
 have hC₀:s₀.heap.get? C=none:=by
  cases q:s₀.heap.get? C with
  | none=>rfl
  | some o=>exact absurd rfl (below _ _ (hk _ _ q)).2
 have hCW:C∉W:=fun z=>by
  obtain ⟨o,ho⟩:=P.alive hI C z
  exact (below _ _ ho).2 rfl
 have hDW:D∉W:=fun z=>by
  obtain ⟨o,ho⟩:=P.alive hI D z
  exact (below _ _ ho).1 rfl
 have hW':∀ c∈C::W,s₀.heap.get? c=none:=fun c hc=>by
  rcases aJ hc with rfl | hc
  ·exact hC₀
  ·exact hW c hc
 obtain ⟨R₁,X₁⟩:=at₀.rep.add (h':=h₂) (p:=(D,0)) (o:=.slist []) (fun b o e=>oldH b o (hk b o e)) (by intro b hb; obtain rfl:=ak hb; exact hD₀) (by simp [aN]) (by intro x e; cases e) ⟨#[],0,hDh,.nil⟩
 rw [hlen] at R₁ X₁
 have T₁:To (C::W) F₀ ρ₀ ⟨Wh 0,n0⟩ s₀ F₀ (ρ₀++[(D,0)]) ⟨(n0,.slist (Y 0))::Wh 0,n0+1⟩ { s₀ with heap:=h₂,toks:=tk₁+0 }:=by
  rw [hY]
  exact ⟨⟨R₁,by simp [hlen]⟩,X₁.weaken (fun _ z=>nomatch z),rfl⟩
 have inv₀:qM W n n0 D C It Wh Y F₀ ρ₀ s₀ n { s₀ with heap:=h₂,toks:=tk₁+0 }:=by
  refine ⟨0,F₀,by omega,T₁,⟨_,hns₂⟩,P.keep hI (fun c o _ e=>oldH c o e) (fun c o e=>T₁.at'.rep.le c o e),fun c hc=>⟨fun z=>?_,?_⟩⟩
  ·rcases T₁.ext.new c z with z | z
   ·obtain ⟨o,ho⟩:=at₀.rep.lt z
    rw [hW' c hc] at ho; cases ho
   ·have z':c∈ae (ρ₀++[(D,0)]) ((n0,.slist (Y 0))::Wh 0):=by assumption
    have e:ae (ρ₀++[(D,0)]) ((n0,.slist (Y 0))::Wh 0)=D::ae ρ₀ (Wh 0):=by
     show (match (ρ₀++[(D,0)])[n0]? with | some p=>aN p (SO.slist (Y 0)) | none=>[])++ae (ρ₀++[(D,0)]) (Wh 0)=_
     rw [bU at₀.rep.names,←hlen,List.getElem?_concat_length]; rfl
    rw [e] at z'
    rcases aJ z' with rfl | z'
    ·rcases aJ hc with q | q
     ·exact hDC q
     ·exact hDW q
    ·obtain ⟨o,ho⟩:=at₀.rep.lt z'
     rw [hW' c hc] at ho; cases ho
  ·cases q:F₀ c with
   | none=>rfl
   | some o=>have:=at₀.rep.le _ _ q; rw [hW' c hc] at this; cases this
 have loop:codeAny (model prog w) A (.compLoop (.ListComp elt [⟨.Name x px,iter,ifs,0⟩] scope pos) 0 it (.ref D) (compEnvC scope cl C env)) (RR (.ref D) C) { s₀ with heap:=h₂,toks:=tk₁+0 }:=by
  refine codeAny_compLoop_tests (fun k s=>qM W n n0 D C It Wh Y F₀ ρ₀ s₀ k s) (fun k s hInv=>?_) n inv₀
  obtain ⟨i,F,hik,T,⟨m,hm⟩,hit,hout⟩:=hInv.all
  have nCW:(compEnvC scope cl C env).locals∉W:=hCW
  cases k with
  | zero=>
   have hi:i=n:=by omega
   subst hi
   refine wpAny_mono (P.done hit (Q:=fun s'=>RR (.ref D) C (.ok .next) s') fun h' tk kb=>?_) (fun r s' hr=>?_) fun _ _ e=>e
   ·have at₁:=T.at'.beside (tk:=tk) (fun c hc=>(hout c (.tail _ hc)).1) (fun c hc=>(hout c (.tail _ hc)).2) kb
    refine fin (F:=F) (C:=C) ⟨at₁,⟨T.ext.pre,fun b o e nb _=>?_,T.ext.new,T.ext.fz,T.ext.fznew,fun b o e=>?_⟩,by rw [T.sh]⟩ ⟨m,?_⟩ (hout C (.head _)).1 (hout C (.head _)).2 hC₀
    ·have nx:b∉C::W:=fun z=>by rw [hW' b z] at e; cases e
     exact kb b o (fun z=>nx (.tail _ z)) (T.ext.keep b o e nb nx)
    ·obtain ⟨o',e'⟩:=T.ext.live b o e
     exact ⟨o',kb b o' (fun z=>by rw [hW b z] at e; cases e) e'⟩
    ·obtain ⟨o,es,ep,ho,r⟩:=hm
     exact ⟨o,es,ep,kb _ _ hCW ho,r⟩
   ·obtain ⟨rfl,hq⟩:=hr
    exact hq
  | succ k=>
   have hi:i<n:=by omega
   refine wpAny_mono (P.next' rfl hi hit (E:=notedBy (model prog w) A (compEnvC scope cl C env) fun e s'=>RR (.ref D) C (.error e) s') (Q:=fun v s₁=>wpAny (model prog w) A (assign (.Name x px) (compEnvC scope cl C env) v) (fun _ s₂=>
     wpAny (model prog w) A (sQ ifs (compEnvC scope cl C env)) (fun ok s₃=>
      if ok=true then wpAny (model prog w) A (eval elt (compEnvC scope cl C env)) (fun y s₄=>
       wpAny (model prog w) A (call (.builtin "list.append") [.ref D,y]) (fun _ s₅=>∃ m,m<k+1∧qM W n n0 D C It Wh Y F₀ ρ₀ s₀ m s₅) (notedBy (model prog w) A (compEnvC scope cl C env) fun e s'=>RR (.ref D) C (.error e) s') s₄) (notedBy (model prog w) A (compEnvC scope cl C env) fun e s'=>RR (.ref D) C (.error e) s') s₃
      else ∃ m,m<k+1∧qM W n n0 D C It Wh Y F₀ ρ₀ s₀ m s₃) (notedBy (model prog w) A (compEnvC scope cl C env) fun e s'=>RR (.ref D) C (.error e) s') s₂) (notedBy (model prog w) A (compEnvC scope cl C env) fun e s'=>RR (.ref D) C (.error e) s') s₁) fun v h' tk hv hit' kb=>?_) (fun r s' hr=>?_) fun _ _ e=>e
   ·have at₁:=T.at'.beside (tk:=tk) (fun c hc=>(hout c (.tail _ hc)).1) (fun c hc=>(hout c (.tail _ hc)).2) kb
    have ne0:∀ {b o},s₀.heap.get? b=some o→b∉W:=fun e z=>by rw [hW _ z] at e; cases e
    have T₁:To (C::W) F₀ ρ₀ ⟨Wh 0,n0⟩ s₀ F (ρ₀++[(D,0)]) ⟨(n0,.slist (Y i))::Wh i,n0+1⟩ { s with heap:=h',toks:=tk }:=⟨at₁,⟨T.ext.pre,fun b o e nb nx=>kb b o (ne0 e) (T.ext.keep b o e nb nx),T.ext.new,T.ext.fz,T.ext.fznew,fun b o e=>by
     obtain ⟨o',e'⟩:=T.ext.live b o e
     exact ⟨o',kb b o' (ne0 e) e'⟩⟩,by rw [T.sh]⟩
    have fm₁:Fm F (ρ₀++[(D,0)]) ((n0,.slist (Y i))::Wh i) ccx (compEnvC scope cl C env) [] h':=by
     refine ⟨(henv C).mono,⟨m,?_,fun y sv e=>by simp [af] at e⟩,(hout C (.head _)).1,(hout C (.head _)).2⟩
     obtain ⟨o,es,ep,ho,r⟩:=hm
     exact ⟨o,es,ep,kb _ _ hCW ho,r⟩
    refine PySem.wpAny_assign_Name (a9 at₁ fm₁ hx (items hi hv) fun s₂ T₂ fm₂=>?_)
    have hx':dD x (el i) ([]:Loc)=[(x,el i)]:=rfl
    rw [hx'] at fm₂
    have aliveCW:∀ c∈C::W,∃ o,h'.get? c=some o:=fun c hc=>by
     rcases aJ hc with rfl | hc
     ·obtain ⟨_,⟨o,_,_,ho,_⟩,_⟩:=fm₁.ns; exact ⟨o,ho⟩
     ·exact P.alive hit' c hc
    have next:∀ {F':Fz} {s₅:Shared},To [C] F (ρ₀++[(D,0)]) ⟨(n0,.slist (Y i))::Wh i,n0+1⟩ { s with heap:=h',toks:=tk } F' (ρ₀++[(D,0)]) ⟨(n0,.slist (Y (i+1)))::Wh (i+1),n0+1⟩ s₅→(∃ m,s₅.heap.Ns C m)→
      ∃ m,m<k+1∧qM W n n0 D C It Wh Y F₀ ρ₀ s₀ m s₅:=fun {F' s₅} T₅ hn₅=>by
     refine ⟨k,Nat.lt_succ_self _,i+1,F',by omega,T₁.trans (T₅.weaken (by simp)),hn₅,P.keep hit' (fun c o hc e=>T₅.ext.keep c o e (hout c (.tail _ hc)).1 (by
      intro z; rw [List.mem_singleton] at z; exact hCW (z▸hc))) (fun c o e=>T₅.at'.rep.le c o (T₅.ext.fz c o (T.ext.fz c o e))),fun c hc=>⟨fun z=>?_,?_⟩⟩
     ·obtain ⟨o,ho⟩:=aliveCW c hc
      rcases T₅.ext.new c z with z | z
      ·exact (hout c hc).1 z
      ·have ho:({ s with heap:=h',toks:=tk }:Shared).heap.get? c=some o:=ho
       rw [z] at ho; cases ho
     ·obtain ⟨o,ho⟩:=aliveCW c hc
      cases q:F' c with
      | none=>rfl
      | some y=>
       rcases T₅.ext.fznew c y q with z | z
       ·rw [(hout c hc).2] at z; cases z
       ·have ho:({ s with heap:=h',toks:=tk }:Shared).heap.get? c=some o:=ho
        rw [z] at ho; cases ho
    have ns₂:∀ {F' ρ' st' s'},To [] F (ρ₀++[(D,0)]) ⟨(n0,.slist (Y i))::Wh i,n0+1⟩ s₂ F' ρ' st' s'→∃ m,s'.heap.Ns C m:=fun T'=>by
     obtain ⟨m',⟨o,es,ep,ho,r⟩,_⟩:=fm₂.ns
     exact ⟨m',o,es,ep,T'.ext.keep _ _ ho fm₂.out (fun z=>nomatch z),r⟩
    refine wpAny_mono (turn hi T.ext.fz T₂.at' fm₂) (fun ok s₃ h₃=>?_) fun _ _ e=>e
    cases ok with
    | false=>
     rw [if_neg (by simp)] at h₃ ⊢
     obtain ⟨F',T₃,eY⟩:=h₃
     rw [←eY] at T₃
     have T₃':To [] F (ρ₀++[(D,0)]) ⟨(n0,.slist (Y i))::Wh i,n0+1⟩ s₂ F' (ρ₀++[(D,0)]) ⟨(n0,.slist (Y (i+1)))::Wh (i+1),n0+1⟩ s₃:=by
      rw [eY] at T₃ ⊢; exact T₃
     exact next (T₂.trans T₃'.nil) (ns₂ T₃')
    | true=>
     rw [if_pos rfl] at h₃ ⊢
     refine wpAny_mono h₃ (fun y s₄ h₄=>?_) fun _ _ e=>e
     obtain ⟨F',sv,T₄,isv,eY⟩:=h₄
     obtain ⟨pD,hpD,vs,c,ho,hv⟩:=T₄.at'.rep.ok _ (List.mem_cons_self ..)
     have hpD':(ρ₀++[(D,0)])[n0]?=some (D,0):=by rw [List.getElem?_append_right (by omega),hlen]; simp
     have hpD:(ρ₀++[(D,0)])[n0]?=some pD:=hpD
     rw [hpD'] at hpD; cases hpD
     have hsz:vs.size≤sizeLine:=by
      have h1:=hv.length
      have h2:=hYn i hi
      have:vs.size=vs.toList.length:=by simp
      rw [this,←h1]
      exact Nat.le_trans h2 (by decide)
     refine wpAny_list_append_plain (items:=vs) ⟨c,ho⟩ (fun h₅ hpl sb=>?_) hsz
     obtain ⟨c',ho'⟩:=hpl
     have hll:aM n0 ((n0,SO.slist (Y i))::Wh (i+1))=some (.slist (Y i)):=by
      unfold aM; rw [Nat.beq_refl]
     have hpp:dp n0 (.slist (Y (i+1))) ((n0,SO.slist (Y i))::Wh (i+1))=(n0,.slist (Y (i+1)))::Wh (i+1):=by
      unfold dp; rw [Nat.beq_refl]
     obtain ⟨R₅,X₅⟩:=T₄.at'.rep.put (h':=h₅) (o':=.slist (Y (i+1))) hll hpD' (fun _=>rfl) (by intro x e; cases e) (fun b o nb e=>aB sb (by simpa [aN] using nb) e) (fun b o e=>mi sb ho' e)
      ⟨vs.push y,c',ho',by rw [eY,Array.toList_push]; exact hv.append (.cons isv .nil)⟩
     rw [hpp] at R₅ X₅
     have T₅:To [] F (ρ₀++[(D,0)]) ⟨(n0,.slist (Y i))::Wh i,n0+1⟩ s₂ F' (ρ₀++[(D,0)]) ⟨(n0,.slist (Y (i+1)))::Wh (i+1),n0+1⟩ { s₄ with heap:=h₅ }:=T₄.trans ⟨⟨R₅,T₄.at'.len⟩,X₅,rfl⟩
     exact next (T₂.trans T₅.nil) (ns₂ T₅)
   ·cases r with
    | none=>exact hr.elim
    | some v=>exact hr
 exact codeAny_compStart_list loop (hself (s:={ s₀ with heap:=h₂,toks:=tk₁+0 }) (P.keep hI (fun c o _ e=>oldH c o e) (fun c o e=>T₁.at'.rep.le c o e)) loop)
end
end
section
noncomputable def gM:NameKind→Bool
 | .cell=>true
 | _=>false
theorem rU (k:NameKind):(k == NameKind.cell)=gM k:=by cases k<;>rfl
noncomputable def aA:List (Str×NameKind)→List Str
 | []=>[]
 | (y,k)::r=>match gM k with
  | true=>y::aA r
  | false=>aA r
noncomputable def hV (n:Nat):List Str→List (Str×Nat)
 | []=>[]
 | y::r=>(y,n)::hV (n+1) r
noncomputable def gL (N:List (Str×NameKind))(x:Str):Bool:=match af x N with
 | some .local=>true
 | _=>false
noncomputable def tH (N:List (Str×NameKind))(x:Str):Bool:=match af x N with
 | some .cell=>true
 | _=>false
noncomputable def mF (N:List (Str×NameKind)):Loc→Loc
 | []=>[]
 | e::r=>match gL N e.1 with
  | true=>e::mF N r
  | false=>mF N r
theorem fE {x:Str}:∀ {N:List (Str×NameKind)}{m:Nat}{acc:List (Str×Addr)},x∉N.map (·.1)→(cellsFrom m N acc).lookup x=acc.lookup x
 | [],_,_,_=>rfl
 | (y,k)::r,m,acc,h=>by
  rw [List.map_cons,List.mem_cons,not_or] at h
  unfold cellsFrom
  split
  ·rw [fE h.2,List.lookup_cons]
   have:(x == y)=false:=by simpa using h.1
   rw [this]
  ·exact fE h.2
theorem dk {x:Str}:∀ {N:List (Str×NameKind)}{m i:Nat}{acc:List (Str×Addr)},(N.map (·.1)).Nodup→(aA N)[i]?=some x→(cellsFrom m N acc).lookup x=some (m+i)
 | [],_,i,_,_,h=>by simp [aA] at h
 | (y,k)::r,m,i,acc,nd,h=>by
  rw [List.map_cons,List.nodup_cons] at nd
  unfold cellsFrom
  rw [rU]
  unfold aA at h
  cases hk:gM k with
  | true=>
   rw [hk] at h
   rw [if_pos rfl]
   cases i with
   | zero=>
    simp at h; subst h
    rw [fE nd.1]
    simp [List.lookup_cons]
   | succ i=>
    have h:(aA r)[i]?=some x:=by simpa using h
    rw [dk nd.2 h]
    congr 1
    omega
  | false=>
   rw [hk] at h
   rw [if_neg (by simp)]
   exact dk nd.2 h
theorem iZ {x:Str}{k:Nat}:∀ {L:List Str}{n:Nat},af x (hV n L)=some k→∃ i,k=n+i∧L[i]?=some x
 | [],_,h=>by simp [hV,af] at h
 | y::r,n,h=>by
  unfold hV af at h
  split at h
  ·rename_i q
   rw [aQ] at q
   cases h
   exact ⟨0,rfl,by simpa using q⟩
  ·obtain ⟨i,h1,h2⟩:=iZ h
   exact ⟨i+1,by omega,by simpa using h2⟩
theorem fG {x:Str}:∀ {N:List (Str×NameKind)},x∈aA N→(x,NameKind.cell)∈N
 | [],h=>by simp [aA] at h
 | (y,k)::r,h=>by
  unfold aA at h
  cases hk:gM k with
  | true=>
   rw [hk] at h
   rcases aJ h with rfl | h
   ·cases k<;>first | exact eqT hk | exact .head _
   ·exact .tail _ (fG h)
  | false=>
   rw [hk] at h
   exact .tail _ (fG h)
theorem cQ {α:Type}{x:Str}{k:α}:∀ {N:List (Str×α)},(N.map (·.1)).Nodup→(x,k)∈N→N.lookup x=some k
 | [],_,h=>nomatch h
 | (y,j)::r,nd,h=>by
  rw [List.map_cons,List.nodup_cons] at nd
  rw [List.lookup_cons]
  rcases aJ h with e | h2
  ·cases e; simp
  ·have:(x == y)=false:=by
    simp only [beq_eq_false_iff_ne,ne_eq]
    intro e; subst e
    exact nd.1 (List.mem_map.mpr ⟨_,h2,rfl⟩)
   rw [this]
   exact cQ nd.2 h2
theorem fC {x:Str}:∀ {N:List (Str×NameKind)},(x,NameKind.cell)∈N→x∈aA N
 | [],h=>nomatch h
 | (y,k)::r,h=>by
  unfold aA
  rcases aJ h with e | h2
  ·cases e; exact .head _
  ·cases gM k with
   | true=>exact .tail _ (fC h2)
   | false=>exact fC h2
theorem qI {kindOf:Str→Option NameKind}{y:Str}(hy:kindOf y=some .local):∀ {binds:List (Str×Value)}{m:Str→Option Value},(binds.map (·.1)).Nodup→bindL kindOf binds m y=match binds.lookup y with
  | some v=>some v
  | none=>m y
 | [],m,_=>rfl
 | (n,v)::r,m,nd=>by
  rw [List.map_cons,List.nodup_cons] at nd
  unfold bindL
  rw [qI hy nd.2,List.lookup_cons]
  by_cases e:y=n
  ·subst e
   have:r.lookup y=none:=by
    cases q:r.lookup y with
    | none=>rfl
    | some z=>exact absurd (List.mem_map.mpr ⟨_,mem_of_lookup q,rfl⟩) nd.1
   rw [this,if_pos hy]
   simp
  ·have:(y == n)=false:=by simpa using e
   rw [this]
   cases r.lookup y with
   | some z=>rfl
   | none=>dsimp only; split<;>simp [e]
theorem yi {kindOf:Str→Option NameKind}{y:Str}(hy:kindOf y≠some .local){binds:List (Str×Value)}{m:Str→Option Value}(nd:(binds.map (·.1)).Nodup):bindC kindOf binds m y=match binds.lookup y with
  | some v=>some v
  | none=>m y:=by
 induction binds generalizing m with
 | nil=>rfl
 | cons b r ih=>
  rw [List.map_cons,List.nodup_cons] at nd
  unfold bindC
  rw [ih nd.2,List.lookup_cons]
  by_cases e:y=b.1
  ·subst e
   have:r.lookup b.1=none:=by
    cases q:r.lookup b.1 with
    | none=>rfl
    | some z=>exact absurd (List.mem_map.mpr ⟨_,mem_of_lookup q,rfl⟩) nd.1
   rw [this,if_neg hy]
   simp
  ·rw [show (y == b.1)=false from beq_false_of_ne e]
   cases r.lookup y with
   | some z=>rfl
   | none=>dsimp only; split<;>simp [e]
theorem rH {N:List (Str×NameKind)}{x:Str}{sv:SV}{m:Loc}(h:af x (mF N m)=some sv):af x N=some .local∧∃ y,(y,sv)∈m∧y=x:=by
 have up:∀ {p:Str×SV} {r:Loc},(af x N=some .local∧∃ y,(y,sv)∈r∧y=x)→af x N=some .local∧∃ y,(y,sv)∈p::r∧y=x:=fun h=>h.imp id fun h=>h.imp fun _ h=>h.imp (.tail _) id
 induction m with
 | nil=>exact nos h
 | cons p r ih=>
  unfold mF at h
  cases q:gL N p.1 with
  | false=>rw [q] at h; exact up (ih h)
  | true=>
   rw [q] at h
   replace h:af x (p::mF N r)=some sv:=h
   rw [dH] at h
   by_cases e:p.1=x
   ·rw [if_pos e] at h
    refine ⟨?_,p.1,Option.some.inj h▸.head _,e⟩
    rw [←e]
    unfold gL at q
    split at q
    ·assumption
    ·exact eqT q
   ·rw [if_neg e] at h; exact up (ih h)
theorem getElem?_map_range {α:Type}(f:Nat→α)(n i:Nat):((List.range n).map f)[i]?=if i<n then some (f i) else none:=by
 rw [List.getElem?_map]
 by_cases h:i<n
 ·simp [h]
 ·simp [h]
theorem ux {ρ:Rho}{a:Option SV}{b:Option Value}{sv:SV}(h:az ρ a b)(e:a=some sv):∃ v,b=some v∧sv.Is ρ v:=by
 cases b with
 | none=>rw [e] at h; exact h.elim
 | some v=>rw [e] at h; exact ⟨v,rfl,h⟩
section
theorem gk {d:Nat}{fd:FuncData}{names:List Str}{body:List Stmt}{a:Addr}{args:List SV}{vs:List Value}{Q:Value→Shared→Prop}(N:List (Str×NameKind))(rm:aj (d+1) A)(at':At F ρ ⟨σ,n⟩ s)
  (fn:yy s.heap a fd names body) (hN:fd.scope.names=N) (hnd:kU (N.map (·.1))=true) (hkn:names.all (fun x=>gL N x||tH N x)=true) (ha:ag (SV.Is ρ) args vs) (hl:args.length=names.length)
  (h:∀ env s₀ (cs:List Addr),cs.length=(aA N).length→To [] F ρ ⟨σ,n⟩ s F (ρ++dc cs) ⟨ft n ((aA N).map fun x=>af x (names.zip args))++σ,n+(aA N).length⟩ s₀→
   Fm F (ρ++dc cs) (ft n ((aA N).map fun x=>af x (names.zip args))++σ) ⟨fd.scope,hV n (aA N),d⟩ env (mF N (names.zip args)) s₀.heap→s.heap.get? env.locals=none→aj d (A.deeper env)→env.frame=some env.locals→env=newEnv fd.scope s.heap.objs.size mainGlobals (cellsFrom (s.heap.objs.size+1) fd.scope.names []) (fd.qualname++".<locals>.") (some a) fd.code none builtinsNs→
   wpAny (model prog w) (A.deeper env) (execs body env) (fun fl s'=>Q (iS fl) s') (pi A env E) s₀):wpAny (model prog w) A (call (.ref a) vs) Q E s:=by
 have hlen:ρ.length=n:=at'.len
 have hlv:vs.length=names.length:=by rw [←ha.length]; exact hl
 have hndN:=kT hnd
 have hzz:((names.zip vs).map (·.1)).Nodup:=(oC hlv).symm▸fn.fn.nod
 refine sr rm.depth at'.rep.world.lim fn hlv (fun x hx=>?_) fun env s₁ he ic=>?_
 ·rw [hN]
  have:=dQ hkn x hx
  rcases Bool.or_eq_true_iff.mp this with q | q
  ·left
   unfold gL at q
   split at q
   ·rename_i q'; rw [←ba]; exact q'
   ·cases q
  ·right
   have hx':af x N=some .cell:=by
    unfold tH at q
    split at q
    ·rename_i q'; exact q'
    ·cases q
   rw [ba] at hx'
   refine ⟨hx',?_⟩
   have hm:x∈aA N:=fC (mem_of_lookup hx')
   obtain ⟨i,hi⟩:=List.getElem?_of_mem hm
   rw [dk hndN hi]; rfl
 ·have hsc:env.scope=fd.scope:=by rw [he]; rfl
  have hcl:env.cells=cellsFrom (s.heap.objs.size+1) N []:=by rw [he,←hN]; rfl
  have hko:env.kindOf=fun x=>N.lookup x:=by
   funext x
   show env.scope.names.lookup x=_
   rw [hsc,hN]
  have hfr:env.frame=some env.locals:=by rw [he]; rfl
  have hloc:env.locals=s.heap.objs.size:=by rw [he]; rfl
  obtain ⟨h₁,tk,e₁⟩:=ic.toInCall.same
  subst e₁
  have nw:s.heap.get? env.locals=none:=by rw [hloc]; exact aT s.heap
  let cs:List Addr:=(List.range (aA N).length).map fun i=>s.heap.objs.size+1+i
  have hcs:cs.length=(aA N).length:=by simp [cs]
  have hcsi:∀ {i c},cs[i]?=some c→i<(aA N).length∧c=s.heap.objs.size+1+i:=fun {i c} e=>by
   rw [show cs[i]?=_ from getElem?_map_range _ _ _] at e
   split at e
   ·cases e; exact ⟨by assumption,rfl⟩
   ·cases e
  have hnotl:∀ x∈aA N,N.lookup x=some .cell:=fun x hx=>cQ hndN (fG hx)
  have T:=at'.cells (h':=h₁) (tk:=tk) ic.toInCall.keep (cs:=cs) (svs:=(aA N).map fun x=>af x (names.zip args)) (vs:=(aA N).map fun x=>(names.zip vs).lookup x) (by simp [cs])
   (by
    have:∀ L:List Str,ag (az ρ) (L.map fun x=>af x (names.zip args)) (L.map fun x=>(names.zip vs).lookup x):=by
     intro L
     induction L with
     | nil=>exact .nil
     | cons x r ih=>
      refine .cons ?_ ih
      show az ρ (af x (names.zip args)) ((names.zip vs).lookup x)
      exact iN ha x
    exact this _)
   (by
    refine List.pairwise_map.mpr (List.nodup_range.imp fun {a b} ne e=>?_)
    have e:@Eq Nat (s.heap.objs.size+1+a) (s.heap.objs.size+1+b):=e
    exact ne (Nat.add_left_cancel e))
   (fun c hc=>by
    obtain ⟨i,_,rfl⟩:=List.mem_map.mp hc
    cases q:s.heap.get? (s.heap.objs.size+1+i) with
    | none=>rfl
    | some o=>
     have:@LT.lt Nat _ (s.heap.objs.size+1+i) s.heap.objs.size:=Heap.lt_size q
     exact absurd this (Nat.not_lt.mpr (Nat.le_trans (Nat.le_add_right _ 1) (Nat.le_add_right _ i))))
   (fun i c v hi hv=>by
    obtain ⟨hlt,rfl⟩:=hcsi hi
    have hx:(aA N)[i]?=some (aA N)[i]:=List.getElem?_eq_getElem hlt
    rw [List.getElem?_map,hx] at hv
    cases hv
    have hlk:env.cells.lookup (aA N)[i]=some (s.heap.objs.size+1+i):=by rw [hcl]; exact dk hndN hx
    have:=ic.cell _ _ hlk
    rw [yi (by rw [hko]; show ¬ N.lookup _=_; rw [hnotl _ (List.mem_of_getElem? hx)]; simp) hzz] at this
    show h₁.IsCell _ ((names.zip vs).lookup _)
    cases q:(names.zip vs).lookup (aA N)[i] with
    | none=>rw [q] at this; exact this
    | some v=>rw [q] at this; exact this)
  rw [hcs] at T
  refine h env _ cs hcs T ⟨⟨hsc,by rw [he]; rfl,by rw [he]; rfl,fn.fn.kind,fun x k e=>?_⟩,⟨_,ic.toInCall.ns,fun x sv e=>?_⟩,fun z=>?_,?_⟩ nw rm.deeper hfr he
  ·obtain ⟨i,rfl,hx⟩:=iZ e
   have hlt:i<(aA N).length:=(List.getElem?_eq_some_iff.mp hx).1
   refine ⟨(s.heap.objs.size+1+i,0),?_,?_⟩
   ·rw [List.getElem?_append_right (by omega),hlen]
    show (dc cs)[n+i - n]?=_
    unfold dc
    rw [List.getElem?_map,show n+i - n=i by omega,show cs[i]?=_ from getElem?_map_range _ _ _,if_pos hlt]
    rfl
   ·rw [hcl]; exact dk hndN hx
  ·obtain ⟨hxl,y,hy,rfl⟩:=rH e
   have:af y (names.zip args)=some sv:=by
    rw [ba]
    exact cQ (by rw [List.map_fst_zip (Nat.le_of_eq hl.symm)]; exact fn.fn.nod) hy
   obtain ⟨v,e',i⟩:=ux (iN ha y) this
   refine ⟨v,?_,i.mono⟩
   rw [qI (by rw [hko]; show N.lookup _=_; rw [←ba]; exact hxl) hzz,e']
  ·rcases T.ext.new _ z with z | z
   ·obtain ⟨x,hx⟩:=at'.rep.lt z
    rw [nw] at hx; cases hx
   ·obtain ⟨e,he',q,hq,hqa⟩:=aw.mp (by assumption:env.locals∈ae (ρ++dc cs) (ft n ((aA N).map fun x=>af x (names.zip args))++σ))
    rcases fD he' with he' | he'
    ·obtain ⟨i,sv,hi,rfl⟩:=gS he'
     have hq':(ρ++dc cs)[n+i]?=some q:=hq
     rw [List.getElem?_append_right (by omega),hlen] at hq'
     unfold dc at hq'
     rw [List.getElem?_map,show n+i - n=i by omega,show cs[i]?=_ from getElem?_map_range _ _ _] at hq'
     split at hq'
     ·cases hq'
      have hqa:env.locals∈[s.heap.objs.size+1+i]:=hqa
      rw [List.mem_singleton,hloc] at hqa
      have hqa:@Eq Nat s.heap.objs.size (s.heap.objs.size+1+i):=hqa
      omega
     ·cases hq'
    ·have:env.locals∈ae ρ σ:=by
      obtain ⟨q',hq'⟩:=at'.rep.names e he'
      have:=bx (τ:=dc cs) hq'
      rw [hq] at this; cases this
      exact aw.mpr ⟨e,he',q,hq',hqa⟩
     obtain ⟨x,hx⟩:=at'.rep.lt this
     rw [nw] at hx; cases hx
  ·cases q:F env.locals with
   | none=>rfl
   | some o=>have:=at'.rep.le _ _ q; rw [nw] at this; cases this
end
end
section
noncomputable def fq:NameKind→Bool
 | .free=>true
 | _=>false
noncomputable def ir (cells:List (Str×Addr)):List (Str×NameKind)→List (Str×Addr)→List (Str×Addr)
 | [],acc=>acc
 | (y,k)::r,acc=>match fq k with
  | true=>ir cells r ((y,(cells.lookup y).getD 0)::acc)
  | false=>ir cells r acc
theorem pX (k:NameKind):(k == NameKind.free)=fq k:=by cases k<;>rfl
theorem cI {scope:Scope}{env:Env}(h:∀ x∈scope.names,x.2=.free→(env.cells.lookup x.1).isSome=true):closureFor scope env=pure (ir env.cells scope.names []):=by
 unfold closureFor
 have key:∀ (N:List (Str×NameKind)) (acc:List (Str×Addr)),(∀ x∈N,x.2=.free→(env.cells.lookup x.1).isSome=true)→
   (forIn N acc fun (x:Str×NameKind) cs=>match x with
    | (name,kind)=>if (kind == NameKind.free)=true then do let y←cellOf env name; pure (ForInStep.yield ((name,y)::cs)) else pure (ForInStep.yield cs):Sem (List (Str×Addr)))=pure (ir env.cells N acc):=by
  intro N
  induction N with
  | nil=>intro acc _; rfl
  | cons e r ih=>
   obtain ⟨y,k⟩:=e
   intro acc hN
   rw [List.forIn_cons]
   dsimp only
   rw [pX]
   unfold ir
   cases hk:fq k with
   | true=>
    have hk':k=.free:=by cases k<;>first | rfl | exact eqT hk
    have:=hN (y,k) (.head _) hk'
    obtain ⟨c,hc⟩:=Option.isSome_iff_exists.mp this
    have hc:env.cells.lookup y=some c:=hc
    rw [if_pos rfl]
    have e1:cellOf env y=pure c:=by unfold cellOf; rw [hc]
    rw [e1,hc]
    simp only [pure_bind,Option.getD_some]
    exact ih _ fun x hx=>hN x (.tail _ hx)
   | false=>
    rw [if_neg (by simp)]
    simp only [pure_bind]
    exact ih _ fun x hx=>hN x (.tail _ hx)
 have:=key scope.names [] h
 simp only [bind_pure] at this ⊢
 exact this
section
theorem To.letgo (T:To X F₀ ρ₀ st₀ s₀ F ρ st s){C:Addr}(hC:C∉ae ρ st.σ)(hF:F C=none)(h0:s₀.heap.get? C=none){h':Heap}(sb:Heap.SameBut C s.heap h'):To X F₀ ρ₀ st₀ s₀ F ρ st { s with heap:=h' }:=by
 have kb:dm [C] s.heap h':=fun c o hc e=>aB sb (by simpa using hc) e
 have a1:=T.at'.beside (tk:=s.toks) (W:=[C]) (fun c hc=>by obtain rfl:=ak hc; exact hC) (fun c hc=>by obtain rfl:=ak hc; exact hF) kb
 have ne:∀ {b o},s₀.heap.get? b=some o→b≠C:=fun e z=>by rw [z,h0] at e; cases e
 refine ⟨a1,⟨T.ext.pre,fun b o e nb nx=>aB sb (ne e) (T.ext.keep b o e nb nx),T.ext.new,T.ext.fz,T.ext.fznew,fun b o e=>?_⟩,by rw [T.sh]⟩
 obtain ⟨o',e'⟩:=T.ext.live b o e
 exact ⟨o',aB sb (ne e) e'⟩
noncomputable abbrev tR (A:Around)(E:Value→Shared→Prop)(env:Env)(e:Expr)(scope:Scope)(cl:List (Str×Addr))(RR:Value→Addr→Result→Shared→Prop)(it:Value)(s₂:Shared):Prop:=
 wpAny (model prog w) A (newList []) (fun acc s₃=>wpAny (model prog w) A (newFunctionEnv scope env.globals cl [] env.qual none .none (some env)) (fun cenv s₄=>
   codeAny (model prog w) A (.compStart e 0 it acc { cenv with scope:=relabel scope env }) (RR acc cenv.locals) s₄) E s₃) E s₂
theorem hU {elt target iter:Expr}{ifs:List Expr}{scope:Scope}{pos:Pos}{cl:List (Str×Addr)}{Q:Value→Shared→Prop}(hs:∀ x,foldedSetIterable iter env x=pure x)(hclos:closureFor scope env=pure cl)
  (hkind:scope.kind=.function) (hnames:∀ x∈scope.names,x.2=.local→scope.names.lookup x.1=some .local)
  (h:wpAny (model prog w) A (eval iter env) (fun xv s₁=>wpAny (model prog w) A (pyIter xv) (fun it s₂=>
   tR A E env (.ListComp elt [⟨target,iter,ifs,0⟩] scope pos) scope cl (fun acc C=>compPost (model prog w) A E none Q acc C) it s₂) E s₁) E s) :
  wpAny (model prog w) A (eval (.ListComp elt [⟨target,iter,ifs,0⟩] scope pos) env) Q E s:=by
 rw [eval_ListComp]
 exact wpAny_comprehension_free (use:=none) rfl hs hclos hkind hnames h
theorem mN {elt target iter:Expr}{ifs:List Expr}{scope:Scope}{pos spos py:Pos}{y:Str}{cl:List (Str×Addr)}{Q:Flow→Shared→Prop}
  (hsw:swapsWith (.ListComp elt [⟨target,iter,ifs,0⟩] scope pos) (some (.Name y py)) spos.line env=pure true)
  (hs:∀ x,foldedSetIterable iter env x=pure x) (hclos:closureFor scope env=pure cl)
  (hkind:scope.kind=.function) (hnames:∀ x∈scope.names,x.2=.local→scope.names.lookup x.1=some .local)
  (h:wpAny (model prog w) A (eval iter env) (fun xv s₁=>wpAny (model prog w) A (pyIter xv) (fun it s₂=>
   tR A E env (.ListComp elt [⟨target,iter,ifs,0⟩] scope pos) scope cl (fun acc C=>compPost (model prog w) A E (some (assign (.Name y py) env)) (fun _ s'=>Q .next s') acc C) it s₂) E s₁) E s) :
  wpAny (model prog w) A (exec (.Assign [.Name y py] (.ListComp elt [⟨target,iter,ifs,0⟩] scope pos) spos) env) Q E s:=by
 rw [exec_Assign_Name_used _ _ _ _ hsw]
 refine wpAny_bind (wpAny_standAt (wpAny_bind ?_))
 show wpAny _ A (do let _←comprehension (.ListComp elt [⟨target,iter,ifs,0⟩] scope pos) scope env _ (newList []) false (eval iter env) (some (assign (.Name y py) env))) _ _ s
 exact wpAny_bind (wpAny_mono (wpAny_comprehension_free (use:=some (assign (.Name y py) env)) (Q:=fun _ s'=>Q .next s') rfl hs hclos hkind hnames h) (fun _ s' hq=>wpAny_pure (wpAny_pure hq)) fun _ _ e=>e)
theorem kB {elt target iter:Expr}{ifs:List Expr}{scope:Scope}{pos py:Pos}{y:Str}{l:Nat}(eok:gu ρ cx env)(hy:aD cx.sc y=true)(hl:(py.line == pos.line)=true)(hn:(scope.names.any fun x=>x.1 == y&&(x.2 == .local||x.2 == .cell))=false) :
  swapsWith (.ListComp elt [⟨target,iter,ifs,0⟩] scope pos) (some (.Name y py)) l env=pure true:=by
 have hk:env.kindOf y=some .local:=by
  rw [f5 eok]
  exact f8 hy
 have hb:env.blockKind=.function:=by
  unfold Env.blockKind
  rw [cL eok]; rfl
 show (do return env.blockKind == .function&&env.kindOf y == some .local&&py.line == pos.line&&!(scope.names.any fun (n,k)=>n == y&&(k == .local||k == .cell)):Sem Bool)=pure true
 have hn':(scope.names.any fun (n,k)=>n == y&&(k == .local||k == .cell))=false:=hn
 rw [hb,hk,hl,hn']
 rfl
theorem iI {v:Ev}(S:aG v){f a:Expr}{pos:Pos}{f0:SV}{Q:Value→Shared→Prop}(rm:aj cx.d A)(at':At F ρ st s)(fm:Fm F ρ st.σ cx env m s.heap)(hst:noStar [a]=true)(hna:∀ o x p,f≠.Attribute o x p)
  (hk:cr K f0=true) (h1:(v.e cx m f st).Ok fun r=>r=(f0,st₁))
  (h:∀ F' ρ' s' fv,To [] F ρ st s F' ρ' st₁ s'→f0.Is ρ' fv→wpAny (model prog w) A (eval a env) (fun av s₂=>K.In s₂.heap∧wpAny (model prog w) A (call fv [av]) Q E s₂) E s'):wpAny (model prog w) A (eval (.Call f [a] [] pos) env) Q E s:=by
 have e0:eval (.Call f [a] [] pos) env=(do callWith pos (←eval f env) [] (backTo pos (starEach [a] env)) (backToKw pos (keywordEach [] env))):=by
  cases f<;>first | rfl | exact absurd rfl (hna _ _ _)
 rw [e0]
 refine wpAny_bind (S.e rm at' fm (h1.mono fun r er F₁ ρ₁ s₁ v₁ T₁ i₁=>?_))
 subst er
 refine callWith_of (P:=fun h=>K.In h) ?_ (cM hk i₁) (ch hst ?_)
 ·rw [aY hst]; rfl
 ·refine wpAny_items_cons (wpAny_mono (h F₁ ρ₁ s₁ v₁ T₁ i₁) (fun av s₂ h₂=>wpAny_items_nil h₂) fun _ _ e=>e) (bz hst env).1
theorem pR {t:Expr}{I:Addr}{a:Int}{n:Nat}{F₀:Fz}(ht:dY t=true)(hh:A.handled=none):ee A F₀ t (.ref I) [I] n (fun i v _=>∃ tk,v=.int (a+i) tk) (fun i h=>IsRangeIter h I (a+i) ((n:Int) - i) 1) where
 next:=fun {i s Q E} hi hI h=>by
  refine wpAny_pyNext_range_item hI (by omega) fun h' hit sb=>?_
  refine wpAny_of_eq (bV ht _ _) ?_
  refine h _ h' _ ⟨_,rfl⟩ ?_ fun c o hc e=>aB sb (fun z=>hc (by rw [z]; simp)) e
  have e1:a+(i:Int)+1=a+((i+1:Nat):Int):=by omega
  have e2:(n:Int) - (i:Int) - 1=(n:Int) - ((i+1:Nat):Int):=by omega
  rw [e1,e2] at hit
  exact hit
 done:=fun {s Q E} hI h=>wpAny_pyNext_range_end hh hI (by omega) fun h' hx=>⟨rfl,h h' s.toks fun c o hc e=>hx c o (fun z=>hc (by rw [z]; simp)) e⟩
 keep:=fun hI k _=>k _ _ (by simp) hI
 alive:=fun hI c hc=>by simp at hc; subst hc; exact ⟨_,hI⟩
end
end
section
noncomputable def rlS (scope sc:Scope):Scope:={ scope with names:=scope.names.map fun (n,k)=>if (k == .free&&sc.kind == .function&&sc.names.lookup n == some .cell) then (n,.cell) else (n,k) }
theorem dF {scope sc:Scope}{env:Env}(h:env.scope=sc):relabel scope env=rlS scope sc:=by subst h; rfl
noncomputable def dO (e:Expr):Expr:=if h:e.ctorIdx=8 then Expr.ListComp.elim e h fun e _ _ _=>e else dq
noncomputable def bl (e:Expr):Expr:=if h:e.ctorIdx=8 then Expr.ListComp.elim e h fun _ g _ _=>(g.head?.map (·.iter)).getD dq else dq
noncomputable def pM (e:Expr):List Expr:=if h:e.ctorIdx=8 then Expr.ListComp.elim e h fun _ g _ _=>(g.head?.map (·.ifs)).getD [] else []
noncomputable def gK (e:Expr):Expr:=if h:e.ctorIdx=8 then Expr.ListComp.elim e h fun _ g _ _=>(g.head?.map (·.target)).getD dq else dq
noncomputable def hH (d:Scope)(e:Expr):Scope:=if h:e.ctorIdx=8 then Expr.ListComp.elim e h fun _ _ s _=>s else d
noncomputable def EJ (s:Stmt):Expr:=if h:s.ctorIdx=3 then Stmt.Return.elim s h fun o _=>o.getD dq else dq
noncomputable def ei (e:Expr):Bool:=Nat.beq e.ctorIdx 16||Nat.beq e.ctorIdx 23||Nat.beq e.ctorIdx 21
theorem cz {e:Expr}{env:Env}(h:ei e=true):∀ x,foldedSetIterable e env x=pure x:=by
 cases e<;>first | (cases h; done) | (intro x; rfl)
noncomputable def fu (s:Scope):Bool:=match s.kind with
 | .function=>true
 | _=>false
theorem aZ {s:Scope}(h:fu s=true):s.kind=.function:=by
 unfold fu at h
 split at h
 ·assumption
 ·cases h
noncomputable def oX (s:Scope):Bool:=fu s&&s.names.all fun x=>!gM x.2&&(!(match x.2 with | .local=>true | _=>false)||aD s x.1)
theorem eE {s:Scope}(h:oX s=true):∀ y∈s.names,y.2≠.cell:=by
 intro y hy e
 have:=dQ (dw h).2 y hy
 rw [e] at this
 simp [gM] at this
theorem dE {s:Scope}(h:oX s=true):∀ x∈s.names,x.2=.local→s.names.lookup x.1=some .local:=by
 intro y hy e
 have:=dQ (dw h).2 y hy
 rw [e] at this
 simp only [gM,Bool.not_false,Bool.not_true,Bool.true_and,Bool.false_or] at this
 rw [←ba]; exact f8 this
noncomputable abbrev ocB (p:Params):List Stmt:=bK p 358
noncomputable abbrev ocR (p:Params):Expr:=EJ (ad 0 (ocB p))
noncomputable abbrev ocL (p:Params):Expr:=bc 0 (caA (ocR p))
noncomputable abbrev Cz (p:Params)(d:Nat):Cx:=⟨aK p 358,[("self",2),("place",3)],d⟩
noncomputable abbrev ocS (p:Params):Scope:=hH (aK p 358) (ocL p)
noncomputable abbrev wA (p:Params)(d:Nat):Cx:=⟨rlS (ocS p) (aK p 358),[("place",3),("self",2)],d⟩
noncomputable def ocH (f:Int→Int)(n:Nat)(pl:Int):Hp:=[(2,.cell (some (.ref 0))),(3,.cell (some (.uint pl))),(0,.inst 394 [("held",.ref 1)]),(1,.mem f n)]
noncomputable def ocV (f:Int→Int)(pl:Int):List Int:=(List.range 24).map fun i=>f (wr (pl+(i:Nat)))
section
variable (p:Params)(f:Int→Int)(n d:Nat)(pl i:Int)(ys:List SV)
theorem Cy:jF (an p) 358=true:=by rfl'
theorem wz:bj ((an p).lookup 358)=(["self","place","count"]:List Str):=by rfl'
theorem wx:(db ((an p).lookup 358) default).names=([("self",.cell),("place",.cell),("count",.local),("bytes",.globalImplicit),("range",.globalImplicit)]:List (Str×NameKind)):=by rfl'
theorem zw:ocB p=.Return (some (.Call (caF (ocR p)) [.ListComp (dO (ocL p)) [⟨.Name "at" (ao (gK (ocL p))),bl (ocL p),[],0⟩] (ocS p) (ao (ocL p))] [] (ao (ocR p)))) (aS (ad 0 (ocB p)))::[]:=by rfl'
theorem zx:bG (caF (ocR p))=false:=by rfl'
theorem IM:∀ v:Ev,v=ev (an p) noX 40→am (v.e (Cz p (d+5)) [("count",.int 24)] (caF (ocR p)) ⟨ocH f n pl,4⟩)=([([],[],.ty "bytes",⟨ocH f n pl,4⟩)]:LE):=by rintro _ rfl; rfl'
theorem Fw:ei (bl (ocL p))=true:=by rfl'
theorem tm:oX (ocS p)=true:=by rfl'
theorem wy:(ocS p).names=([(".0",.local),("at",.local),("place",.free),("self",.free)]:List (Str×NameKind)):=by rfl'
theorem Fx:aD (wA p d).sc "at" = true:=by rfl'
theorem Fv:fu (wA p d).sc=true:=by rfl'
theorem IP:∀ v:Ev,v=ev (an p) noX 40→am (v.e (Cz p (d+5)) [("count",.int 24)] (bl (ocL p)) ⟨ocH f n pl,4⟩)=([([],[],.ref 4,⟨(4,.rng 0 24)::ocH f n pl,5⟩)]:LE):=by rintro _ rfl; rfl'
theorem IN:∀ v:Ev,v=ev (an p) noX 40→am (v.e (wA p (d+5)) [("at",.uint i)] (dO (ocL p)) ⟨(5,.slist ys)::(4,.rng 0 24)::ocH f n pl,6⟩)=([([],[],.uint (f (wr (pl+i))),⟨(5,.slist ys)::(4,.rng 0 24)::ocH f n pl,6⟩)]:LE):=by rintro _ rfl; rfl'
end
section
theorem iz {ρ:Rho}{h:Heap}{q:Addr×Addr}{xs:List Int}(O:OkO ρ h q (.slist (xs.map .uint))):OkO ρ h q (.ilist xs):=by
 obtain ⟨vs,n,e1,e2⟩:=O
 refine ⟨vs,n,e1,?_⟩
 generalize vs.toList=zs at e2
 induction xs generalizing zs with
 | nil=>cases e2; exact .nil
 | cons x r ih=>
  cases e2 with
  | cons i t=>
   obtain ⟨tk,rfl⟩:=i
   exact .cons _ _ (ih _ t)
set_option maxHeartbeats 1000000 in
theorem ww {d n:Nat}{f:Int→Int}{pl:Int}{t1 t2:Tok}{q0 q1:Addr×Addr}{Q:Value→Shared→Prop}(rm:aj (d+6) A)(at':At F [q0,q1] ⟨mc0 f n,2⟩ s)(hf:∀ i,0≤f i∧f i<256)
  (h:∀ F' s' v,To [] F [q0,q1] ⟨mc0 f n,2⟩ s F' [q0,q1] ⟨mc0 f n,2⟩ s'→(SV.bytes (byteArr (ocV f pl))).Is [q0,q1] v→Q v s'):wpAny (model prog w) A (call (.ref 358) [.ref q0.1,.int pl t1,.int 24 t2]) Q E s:=by
 obtain ⟨v,hv⟩:∃ v,v=ev (an p) noX 40:=⟨_,rfl⟩
 have S:aG v:=hv▸bW cb 40
 obtain ⟨fd,fn,hsc,_⟩:=hM (Cy p) at'.rep.world.inK
 rw [wz] at fn
 refine gk (d:=d+5) (args:=[.ref 0,.uint pl,.int 24]) ([("self",.cell),("place",.cell),("count",.local),("bytes",.globalImplicit),("range",.globalImplicit)]:List (Str×NameKind)) rm at' fn (by rw [hsc]; exact wx p) (by rfl') (by rfl')
  (.cons ⟨q0,rfl,rfl⟩ (.cons ⟨t1,rfl⟩ (.cons ⟨t2,rfl⟩ .nil))) rfl fun env s₀ cs hcs T₀ fm₀ nw rm' hef hec=>?_
 obtain ⟨c0,c1,rfl⟩:=w5 hcs
 rw [hsc] at fm₀
 have T₀:To [] F [q0,q1] ⟨mc0 f n,2⟩ s F [q0,q1,(c0,0),(c1,0)] ⟨ocH f n pl,4⟩ s₀:=T₀
 have fm₀:Fm F [q0,q1,(c0,0),(c1,0)] (ocH f n pl) (Cz p (d+5)) env ([("count",.int 24)]:Loc) s₀.heap:=fm₀
 have nl:=@noA env.locals
 show wpAny _ _ (execs (ocB p) env) _ _ _
 rw [zw]
 refine wpAny_execs_cons (wpAny_Return_some ?_)
 refine iI S rm' T₀.at' fm₀ rfl (a8 (zx p)) rfl (ac _ (IM p f n d pl v hv) noP rfl) (bS rfl fun F₁ s₁ fv T₁ i₁=>?_)
 cases i₁
 have fm₁:=fm₀.to T₁ nl
 have hpl:env.cells.lookup ("place" : Str)=some c1:=by
  obtain ⟨q,hq,hl⟩:=fm₁.eok.cel "place" 3 (by rfl)
  cases hq; exact hl
 have hse:env.cells.lookup ("self" : Str)=some c0:=by
  obtain ⟨q,hq,hl⟩:=fm₁.eok.cel "self" 2 (by rfl)
  cases hq; exact hl
 have hclos:closureFor (ocS p) env=pure ([("self",c0),("place",c1)]:List (Str×Addr)):=by
  rw [cI (by
   rw [wy]
   intro x hx hk
   rcases pv hx with rfl | rfl | rfl | rfl
   ·cases hk
   ·cases hk
   ·rw [hpl]; rfl
   ·rw [hse]; rfl),wy]
  simp [ir,fq,hpl,hse]
 refine hU (cz (Fw p)) hclos (aZ (dw (tm p)).1) (dE (tm p)) ?_
 refine S.e rm' T₁.at' fm₁ (ac _ (IP p f n d pl v hv) noP fun F₂ ρ₂ s₂ xv T₂ i₂=>?_)
 dsimp only at T₂ i₂
 obtain ⟨τ,eτ⟩:=T₂.ext.pre
 obtain ⟨q4,rfl⟩:=rJ (Nat.add_left_cancel (show _+τ.length=_+1 from (by have:=T₂.at'.len; rw [eτ,List.length_append] at this; exact this)))
 have eτ:ρ₂=[q0,q1,(c0,0),(c1,0),q4]:=eτ
 subst eτ
 obtain ⟨_,hq,rfl⟩:=i₂
 cases hq
 obtain ⟨_,hq,r1,r2,r3,hr⟩:=T₂.at'.rep.ok (4,.rng 0 24) (.head _)
 cases hq
 refine wpAny_pyIter_range hr (by decide) ?_
 have fm₂:=fm₁.to T₂ nl
 have envc:∀ C,gu [q0,q1,(c0,0),(c1,0),q4] (wA p (d+5)) (compEnvC (ocS p) [("self",c0),("place",c1)] C env):=fun C=>by
  refine ⟨dF fm₁.eok.sc,fm₁.eok.gl,fm₁.eok.bu,aZ (Fv p _),fun x k e=>?_⟩
  unfold af at e
  split at e
  ·rename_i q; rw [aQ] at q; cases e; subst q; exact ⟨_,rfl,rfl⟩
  ·unfold af at e
   split at e
   ·rename_i q; rw [aQ] at q; cases e; subst q; exact ⟨_,rfl,rfl⟩
   ·cases e
 refine eH (W:=[s₂.heap.objs.size]) (n:=24) (n0:=5) (Wh:=fun _=>(4,.rng 0 24)::ocH f n pl) (Y:=fun i=>(List.range i).map fun k=>.uint (f (wr (pl+(k:Nat))))) (el:=fun i=>.uint (i:Nat)) (ccx:=wA p (d+5))
  (f6 rfl rm'.hand) T₂.at' (fun c o e=>Heap.get?_push_of_some _ e) (fun c hc=>by obtain rfl:=ak hc; exact aT _) (Heap.get?_push_size _ rfl) (fun hI hq=>wpAny_pyIter_rangeiter hI hq)
  rfl (fun i hi=>by simp; omega) (eE (tm p)) (aZ (dw (tm p)).1) envc (Fx p _) (fun hi hv=>hv) ?_ ?_
 ·intro i F C D s E hi hF a1 f1
  refine wpAny_tests_nil ?_
  rw [if_pos rfl]
  refine S.e rm' a1 f1 (ac _ (IN p f n d pl i _ v hv) noP (bS rfl fun F₅ s₅ y T₅ i₅=>?_))
  exact ⟨F₅,_,T₅,i₅,by rw [List.range_succ,List.map_append]; rfl⟩
 ·intro F s C D T₃ hns hC hFC hC0
  refine ⟨_,hns.choose_spec,fun h' sb=>?_⟩
  have T₄:=T₃.letgo hC hFC hC0 sb
  refine ⟨T₄.at'.rep.world.inK,?_⟩
  obtain ⟨qD,hqD,O⟩:=T₄.at'.rep.ok _ (List.mem_cons_self ..)
  cases hqD
  have O:OkO ([q0,q1,(c0,0),(c1,0),q4]++[(D,0)]) h' (D,0) (.slist ((ocV f pl).map .uint)):=by
   have e:(ocV f pl).map SV.uint=(List.range 24).map fun k=>SV.uint (f (wr (pl+(k:Nat)))):=by unfold ocV; rw [List.map_map]<;>rfl
   rw [e]; exact O
  obtain ⟨vs,c,ho,hi⟩:=iz O
  have hmem:∀ x∈ocV f pl,0≤x∧x<256:=fun x hx=>by
   obtain ⟨k,_,rfl⟩:=List.mem_map.mp hx
   exact hf _
  have hz:vs.toList.length≤sizeLine:=by
   rw [hi.length]
   show ((List.range 24).map _).length≤_
   rw [List.length_map,List.length_range]; decide
  refine call_bytes_ints (l:=D) (vs:=vs.toList) (ns:=ocV f pl) ⟨_,ho,rfl,c,rfl⟩ hi hmem hz rm'.hand fun h'' t k kk=>?_
  obtain ⟨R',X'⟩:=T₄.at'.rep.grow kk
  have T₅:=T₀.trans (T₁.trans (T₂.trans (T₄.trans (s'':={ s with heap:=h'',toks:=k }) ⟨⟨R',T₄.at'.len⟩,X',rfl⟩)))
  have T₆:=(T₅.trim (ρ:=[q0,q1]) (τ:=[(c0,0),(c1,0),q4,(D,0)]) (n:=2) rfl (by rfl) ⟨[],rfl⟩)
  exact h _ _ _ T₆ ⟨t,rfl⟩
end
end
section
noncomputable def oc3 (args:List SV):Option (Nat×Int):=(sO args).bind fun q=>(gF q.1).bind fun k=>(jj q.2.1).bind fun j=>(jS q.2.2).bind fun n=>bif Nat.beq n 24 then some (k,j) else none
noncomputable def ocQ (st:St)(pl:Int)(q:Nat×(Int→Int)×Nat):Res (SV×St):=.need (∀ i,0≤q.2.1 i∧q.2.1 i<256) (.ok (.bytes (byteArr (ocV q.2.1 pl)),st))
noncomputable def Fu:Orc:=orc 358 fun args st=>(oc3 args).bind fun a=>(tL a.1 st.σ).map (ocQ st a.2)
theorem CA {args:List SV}{a:Nat×Int}(h:oc3 args=some a):args=[.ref a.1,.uint a.2,.int 24]:=by
 obtain ⟨r,e2,h⟩:=bD h
 obtain ⟨k,e3,h⟩:=bD h
 obtain ⟨b,e4,h⟩:=bD h
 obtain ⟨n,e5,h⟩:=bD h
 cases c:Nat.beq n 24 with
 | false=>rw [c] at h; exact nos h
 | true=>
  rw [c] at h
  cases Option.some.inj h
  rw [kA e2,dL e3,gW e4,k7 e5,iY c]
  rfl
section
theorem ru:iL Fu:=by
 intro d a args st r A s F ρ vs Q E rm at' ha hX hr
 obtain ⟨rfl,⟨d',rfl⟩,hX⟩:=rq hX
 obtain ⟨k,ea,hX⟩:=bD hX
 obtain ⟨q,eq,rfl⟩:=dU hX
 cases CA ea
 obtain ⟨hc,hr⟩:=hr
 obtain ⟨v1,v2,v3,rfl,i1,⟨t2,rfl⟩,⟨t3,rfl⟩⟩:=ag.inv3 ha
 obtain ⟨σ,n⟩:=st
 obtain ⟨qk,qj,rfl,sub,inf,back⟩:=lq at' eq i1
 exact ww rm sub hc fun F' s' v T iv=>hr F' ρ s' v (back (τ:=[]) T (.head _) (.tail _ (.head _))) iv
noncomputable def pN:Orc:=fun d a args st=>(cpX d a args st).orElse fun _=>(Fu d a args st).orElse fun _=>EW d a args st
theorem mx {α:Type}{a:Option α}{b:Unit→Option α}{r:α}(h:a.orElse b=some r):a=some r∨b ()=some r:=by
 cases a with
 | none=>exact .inr h
 | some x=>exact .inl h
theorem rL:iL pN:=by
 intro d a args st r A s F ρ vs Q E rm at' ha hX hr
 exact (mx hX).elim (fun h=>jH rm at' ha h hr) fun h=>(mx h).elim (fun h=>ru rm at' ha h hr) fun h=>rh rm at' ha h hr
end
noncomputable abbrev E6 (v:Ev):Prop:=v=ev (an p) pN 60
theorem dj:∃ v,E6 v∧aG v:=⟨_,rfl,bW rL 60⟩
end
section
noncomputable def GI (s:Stmt):Arguments:=if h:s.ctorIdx=0 then Stmt.FunctionDef.elim s h fun _ a _ _ _ _ _ _ _ _=>a else ⟨[],[],none,[],[],none,[]⟩
noncomputable abbrev TB:Addr:=1117
noncomputable abbrev s0P (p:Params):Arguments:=GI (ad 0 (crB p))
noncomputable abbrev mo (p:Params):Pos:=aS (ad 0 (crB p))
noncomputable def s0Q (p:Params):Str:=(iV ((an p).lookup 1122)++".<locals>.")++"_law_advance"
section
variable (p:Params)
theorem EM:ad 0 (crB p)=.FunctionDef "_law_advance" (s0P p) (cT p) [] none [] (bh p) none "_law_advance" (mo p):=by rfl'
theorem nh:s0P p=⟨[],[⟨"some",none,(s0P p).args.head!.pos⟩],none,[],[],none,[]⟩:=by rfl'
theorem vU:(bh p).names=([("some",.local),("program",.free),("step_row",.globalImplicit),("transfer_deed",.globalImplicit)]:List (Str×NameKind)):=by rfl'
theorem EK:fu (bh p)=true:=by rfl'
theorem EN:(bh p).isCoroutine=false:=by rfl'
theorem B4:(bh p).isGenerator=false:=by rfl'
theorem B3:aD (bh p) "some" = true:=by rfl'
theorem D4:jF (an p) 1122=true:=by rfl'
theorem xM:bj ((an p).lookup 1122)=(["state","program","begin","arguments","due","many","is_short"]:List Str):=by rfl'
noncomputable def crN:List (Str×NameKind):=[("state",.cell),("program",.cell),("begin",.cell),("arguments",.cell),("due",.local),("many",.cell),("is_short",.local),("kept",.local),("top",.local),("above",.local),("at",.local),("worth",.local),("_law_advance",.cell),("_law_refused",.globalImplicit),("call_by",.globalImplicit),("enumerate",.globalImplicit),("len",.globalImplicit),("_law_all",.globalImplicit)]
theorem xL:(db ((an p).lookup 1122) default).names=crN:=by rfl'
theorem AN:oi ((an p).lookup 1122)=.ref 1121:=by rfl'
end
section
noncomputable def l9 (F:Fz):Prop:=∀ h,F.le h→CodeHd h 1121 TB∧∃ mg,h.Ns mainGlobals mg∧h.BuiltinsAt mg TB
theorem l9.mono (h:l9 F)(k:F.Sub F'):l9 F':=fun h' hh=>h h' fun c o e=>hh c o (k c o e)
theorem To.freezeL (t:To X F₀ ρ₀ st₀ s₀ F ρ st s)(L:List Addr)(hn:∀ a∈L,s₀.heap.get? a=none)(hf:∀ a∈L,a∉ae ρ st.σ) :
  ∃ F',F.Sub F'∧(∀ a∈L,F' a=s.heap.get? a)∧(∀ a,a∉L→F' a=F a)∧To X F₀ ρ₀ st₀ s₀ F' ρ st s:=by
 classical
 let F':Fz:=fun a=>if a∈L then s.heap.get? a else F a
 have hFF:F.Sub F':=fun a o e=>by
  show (if a∈L then s.heap.get? a else F a)=some o
  split
  ·exact t.at'.rep.le a o e
  ·exact e
 have fle:∀ {h'},F'.le h'→F.le h':=fun hh a o e=>hh a o (hFF a o e)
 refine ⟨F',hFF,fun a ha=>if_pos ha,fun a ha=>if_neg ha,⟨⟨⟨fun a o e=>?_,fun h' hh=>t.at'.rep.wd h' (fle hh),t.at'.rep.ok,fun e he o eo p hp h' hh=>t.at'.rep.ro e he o eo p hp h' (fle hh),t.at'.rep.nodup,fun a ha=>?_⟩,t.at'.len⟩,
  ⟨t.ext.pre,t.ext.keep,t.ext.new,fun a o e=>hFF a o (t.ext.fz a o e),fun a o e=>?_,t.ext.live⟩,t.sh⟩⟩
 ·have e:(if a∈L then s.heap.get? a else F a)=some o:=e
  split at e
  ·exact e
  ·exact t.at'.rep.le a o e
 ·show (if a∈L then s.heap.get? a else F a)=none
  rw [if_neg (fun z=>hf a z ha)]
  exact t.at'.rep.free a ha
 ·have e:(if a∈L then s.heap.get? a else F a)=some o:=e
  split at e
  ·rename_i hL; exact .inr (hn a hL)
  ·exact t.ext.fznew a o e
theorem Fm.known {h:Heap}{σ:Hp}(fm:Fm F ρ σ cx env m h)(hl:F' env.locals=none):Fm F' ρ σ cx env m h:=⟨fm.eok,fm.ns,fm.out,hl⟩
noncomputable def H0 (p:Params)(F:Fz)(av c9:Addr):Prop:=∃ fd,(∃ o,F av=some o∧o.data=.func fd)∧(∀ h,F.le h→sK h av fd ["some"] (cT p))∧fd.scope=bh p∧fd.closure.lookup ("program" : Str)=some c9
noncomputable def d5 (p:Params)(F:Fz)(ps:Array Value):Prop:=TriplesOk ps.toList∧∃ c',codeAmong (mo p) ps.toList=some (.ref c')∧∀ h,F.le h→h.CodeRec (.ref c') (s0Q p)
theorem EL {h:Heap}{av:Addr}{q:Str}{clos:List (Str×Addr)}{doc pm cv ctv:Value}{nm:Str}(ho:h.get? av=some { cls:=.type "function",data:=.func (fnX nm q (s0P p) (cT p) (bh p) clos .none .none doc pm none cv ctv) }) (hc:h.CodeRec cv q) :
  sK h av (fnX nm q (s0P p) (cT p) (bh p) clos .none .none doc pm none cv ctv) ["some"] (cT p):=by
 have hp:=nh p
 refine ⟨⟨⟨_,ho,rfl⟩,⟨_,_,_,hp,rfl⟩,⟨none,fun M=>Looks.of_pure (by rfl),rfl⟩,rfl,rfl,rfl,hc,aZ (EK p),EN p,B4 p,by simp⟩,?_,?_⟩
 ·show ∀ x∈(bh p).names,x.2≠.cell
  rw [vU]
  intro x hx
  rcases pv hx with rfl | rfl | rfl | rfl<;>(intro z; cases z)
 ·show (["some"]:List Str).all (aD (bh p))=true
  rw [List.all_cons,B3]; rfl
end
end
section
section
noncomputable def fh (p:Params)(c':Addr):Array Value:=#[rawInt (mo p).line,rawInt (mo p).col,.ref c']
set_option maxHeartbeats 1000000 in
theorem B2 {ps:Array Value}{k9 k13:Nat}{q9:Addr×Addr}{Q:Flow→Shared→Prop}(at':At F ρ ⟨σ,n⟩ s)(fm:Fm F ρ σ cx env m s.heap)(h9:af "program" cx.cells=some k9)(hk9:ρ[k9]?=some q9)
  (h13:af "_law_advance" cx.cells=some k13) (hs13:af "_law_advance" cx.sc.names=some .cell) (hσ:aM k13 σ=some (.cell none)) (hcode:env.code=.ref 1121) (hqual:env.qual=iV ((an p).lookup 1122)++".<locals>.") (tf:l9 F)
  (htab:s.heap.get? TB=some (tabObj ps)) (hT1:TB∉ae ρ σ) (hT2:F TB=none) (hps:ps=#[]∨d5 p F ps)
  (h:∀ F' s' av ps',To [TB,env.locals] F ρ ⟨σ,n⟩ s F' ρ ⟨dp k13 (.cell (some (.sta av))) σ,n⟩ s'→Fm F' ρ (dp k13 (.cell (some (.sta av))) σ) cx env m s'.heap→H0 p F' av q9.1→s'.heap.get? TB=some (tabObj ps')→F' TB=none→d5 p F' ps'→
   (ps=#[]→∃ c',ps'=fh p c')→Q .next s'):wpAny (model prog w) A (exec (ad 0 (crB p)) env) Q E s:=by
 have hlen:ρ.length=n:=at'.len
 rw [EM]
 refine nestDef_K (by rw [nh]) (by rw [nh]) (by rw [nh]; rfl) ?_
 have hpl:env.cells.lookup ("program" : Str)=some q9.1:=by
  obtain ⟨q,hq,hl⟩:=fm.eok.cel _ _ h9
  rw [hk9] at hq; cases hq; exact hl
 have hclos:closureFor (bh p) env=pure ([("program",q9.1)]:List (Str×Addr)):=by
  rw [cI (by
   rw [vU]
   intro x hx hk
   rcases pv hx with rfl | rfl | rfl | rfl
   ·cases hk
   ·rw [hpl]; rfl
   ·cases hk
   ·cases hk),vU]
  simp [ir,fq,hpl]
 have hqn:qualnameIn env "_law_advance" "_law_advance" = s0Q p:=by
  have hk:env.kindOf "_law_advance" = some .cell:=by rw [f5 fm.eok]; exact hs13
  unfold qualnameIn
  rw [hk,hqual]; rfl
 rw [hqn]
 obtain ⟨hC,mg,hmg,hba⟩:=tf _ at'.rep.le
 have hgP:mainGlobals≠TB:=by decide
 have fin:∀ {h':Heap} {tk:Tok} {c':Addr} {ctv doc:Value} {ps':Array Value},Heap.ExtBut TB s.heap h'→h'.CodeRec (.ref c') (s0Q p)→(s.heap.get? c'=none∨∀ g,F.le g→g.CodeRec (.ref c') (s0Q p))→h'.get? TB=some (tabObj ps')→s.heap.objs.size≤h'.objs.size→c'<h'.objs.size→
   TriplesOk ps'.toList→codeAmong (mo p) ps'.toList=some (.ref c')→(ps=#[]→∃ c',ps'=fh p c')→
   wpAny (model prog w) A (storeName env "_law_advance" (.ref h'.objs.size)) (fun _ s''=>Q .next s'') E { s with heap:=h'.push (fnMade "_law_advance" (s0Q p) (s0P p) (cT p) (bh p) [("program",q9.1)] doc ((mg "__name__").getD .none) c' ctv),toks:=tk }:=by
  intro h' tk c' ctv doc ps' hx hrec hcnew htb hsz hclt htri hca hps'
  generalize hfo:fnMade "_law_advance" (s0Q p) (s0P p) (cT p) (bh p) [("program",q9.1)] doc ((mg "__name__").getD .none) c' ctv=fo
  have kb:dm [TB] s.heap (h'.push fo):=fun c o hc e=>Heap.get?_push_of_some _ (hx c o (by simpa using hc) e)
  have T₁:=To.beside (tk:=tk) at' (W:=[TB]) (h':=h'.push fo) (fun c hc=>by obtain rfl:=ak hc; exact hT1) (fun c hc=>by obtain rfl:=ak hc; exact hT2) kb (fun c o hc e=>by
   obtain rfl:=ak hc
   exact ⟨_,Heap.get?_push_of_some _ htb⟩)
  have hav:(h'.push fo).get? h'.objs.size=some fo:=by subst hfo; exact Heap.get?_push_size _ rfl
  have nav:s.heap.get? h'.objs.size=none:=by
   cases q:s.heap.get? h'.objs.size with
   | none=>rfl
   | some o=>
    have:@LT.lt Nat _ h'.objs.size s.heap.objs.size:=Heap.lt_size q
    exact absurd this (Nat.not_lt.mpr hsz)
  have nfoot:∀ {a},s.heap.get? a=none→a∉ae ρ σ:=fun {a} ha z=>by obtain ⟨y,hy⟩:=at'.rep.lt z; rw [ha] at hy; cases hy
  have nF:∀ {a},s.heap.get? a=none→F a=none:=fun {a} ha=>by
   cases q:F a with
   | none=>rfl
   | some o=>have:=at'.rep.le _ _ q; rw [ha] at this; cases this
  classical
  obtain ⟨oc,hoc,hcr⟩:∃ oc,h'.get? c'=some oc∧∀ g:Heap,g.get? c'=some oc→g.CodeRec (.ref c') (s0Q p):=by
   obtain ⟨c2,oc,vs,t,e,ho,hd,hv⟩:=hrec
   cases e
   exact ⟨oc,ho,fun g hg=>⟨_,_,vs,t,rfl,hg,hd,hv⟩⟩
  have elTB:env.locals≠TB:=fun z=>by
   obtain ⟨_,⟨o,_,_,ho,hd,_⟩,_⟩:=fm.ns
   rw [z,htab] at ho; cases ho; cases hd
  have al:∃ o,s.heap.get? env.locals=some o:=by obtain ⟨_,⟨o,_,_,ho,_⟩,_⟩:=fm.ns; exact ⟨o,ho⟩
  have fm₁:=fm.to T₁ (by simpa using elTB)
  let L:List Addr:=if s.heap.get? c'=none then [h'.objs.size,c'] else [h'.objs.size]
  have hL:∀ a∈L,s.heap.get? a=none:=by
   intro a ha
   by_cases hcn:s.heap.get? c'=none
   ·have ha:a∈[h'.objs.size,c']:=by simpa [L,hcn] using ha
    rcases fb ha with rfl | rfl
    ·exact nav
    ·exact hcn
   ·have ha:a∈[h'.objs.size]:=by simpa [L,hcn] using ha
    obtain rfl:=ak ha; exact nav
  obtain ⟨F',hFF,hF1,hF2,T₂⟩:=T₁.freezeL L hL (fun a ha=>nfoot (hL a ha))
  have hTL:TB∉L:=fun z=>by rw [hL _ z] at htab; cases htab
  have hEL:env.locals∉L:=fun z=>by obtain ⟨o,ho⟩:=al; rw [hL _ z] at ho; cases ho
  have hF'av:F' h'.objs.size=some fo:=by
   rw [hF1 _ (by show _∈(if _ then _ else _); split<;>simp)]
   exact hav
  have hrecF:∀ g,F'.le g→g.CodeRec (.ref c') (s0Q p):=by
   intro g hg
   by_cases hcn:s.heap.get? c'=none
   ·refine hcr g (hg _ _ ?_)
    rw [hF1 _ (by show _∈(if _ then _ else _); rw [if_pos hcn]; simp)]
    exact Heap.get?_push_of_some _ hoc
   ·exact (hcnew.resolve_left hcn) g fun a o e=>hg a o (hFF a o e)
  have fm₂:Fm F' ρ σ cx env m (h'.push fo):=fm₁.known (by rw [hF2 _ hEL]; exact fm.free)
  have T₂:To [TB,env.locals] F ρ ⟨σ,n⟩ s F' ρ ⟨σ,n⟩ { s with heap:=h'.push fo,toks:=tk }:=T₂.weaken (by simp)
  refine iR (sv:=.sta h'.objs.size) T₂.at' fm₂ rfl ?_
  have hnl:aD cx.sc ("_law_advance" : Str)=false:=by unfold aD; rw [hs13]
  unfold qX
  rw [hnl,hs13,h13]
  show Res.Ok _ (chk (nR (aM k13 σ)) _)
  rw [hσ]
  intro F₃ ρ₃ s₃ T₃ fm₃
  have e₃:=aU T₃ hlen
  subst e₃
  have nl:TB∉[env.locals]:=by simpa using Ne.symm elTB
  have adv:H0 p F₃ h'.objs.size q9.1:=by
   refine ⟨fnX "_law_advance" (s0Q p) (s0P p) (cT p) (bh p) [("program",q9.1)] .none .none doc ((mg "__name__").getD .none) none (.ref c') ctv,⟨fo,T₃.ext.fz _ _ hF'av,by rw [←hfo]⟩,fun g hg=>?_,rfl,rfl⟩
   have hg':F'.le g:=fun a o e=>hg a o (T₃.ext.fz a o e)
   exact EL (by rw [hg' _ _ hF'av,←hfo]) (hrecF g hg')
  refine h F₃ s₃ h'.objs.size ps' (T₂.trans (T₃.weaken (by simp))) fm₃ adv (T₃.ext.keep _ _ (Heap.get?_push_of_some _ htb) hT1 nl) ?_ ⟨htri,c',hca,fun g hg=>hrecF g fun a o e=>hg a o (T₃.ext.fz a o e)⟩ hps'
  cases q:F₃ TB with
  | none=>rfl
  | some o=>
   rcases T₃.ext.fznew _ _ q with z | z
   ·rw [hF2 _ hTL,hT2] at z; cases z
   ·have:(h'.push fo).get? TB=some (tabObj ps'):=Heap.get?_push_of_some _ htb
    have z:(h'.push fo).get? TB=none:=z
    rw [this] at z; cases z
 rcases hps with rfl | ⟨htri,c0,hca,hcr⟩
 ·refine makeFunction_K (ps:=#[]) hclos fm.eok.gl hmg hcode hC htab trivial rfl hgP hba fun c' ctv doc h' tk hx hge hlt hrec htb=>?_
  have hcn:s.heap.get? c'=none:=by
   cases q:s.heap.get? c' with
   | none=>rfl
   | some o=>exact absurd (Heap.lt_size q) (Nat.not_lt.mpr hge)
  refine fin hx hrec (.inl hcn) htb (Nat.le_trans hge (Nat.le_of_lt hlt)) hlt (by simp [TriplesOk,rawInt]) ?_ (fun _=>⟨c',by simp [fh]⟩)
  exact codeAmong_snoc [] trivial rfl
 ·refine makeFunction_hit (ps:=ps) hclos fm.eok.gl hmg hcode hC htab htri hca hba fun ctv doc h' tk hk hsz=>?_
  have hrec:=(hcr _ at'.rep.le)
  obtain ⟨c2,oc,vs,t,e,ho,hd,hv⟩:=hrec
  cases e
  have hrec':h'.CodeRec (.ref c0) (s0Q p):=⟨_,_,vs,t,rfl,hk _ _ ho,hd,hv⟩
  refine fin (fun b o _ e=>hk b o e) hrec' (.inr hcr) (hk _ _ htab) hsz (Heap.lt_size (hk _ _ ho)) htri hca (fun e=>?_)
  subst e
  simp [codeAmong] at hca
end
end
section
noncomputable def uT (sc:Scope):Env:=newEnv sc 0 0 [] "" none .none none 0
theorem oL (ts:List Expr)(v:Expr)(env:Env):swappedStores ts v env=swappedStores ts v (uT env.scope):=rfl
noncomputable def jn:List Str→List SV→Loc→Loc
 | x::xs,v::vs,m=>jn xs vs (dD x v m)
 | _,_,m=>m
section
theorem ng {xs:List Str}{svs:List SV}{vs:List Value}{m:Loc}{s:Shared}{Q:Unit→Shared→Prop}(at':At F ρ st s)(fm:Fm F ρ st.σ cx env m s.heap)(hx:xs.all (aD cx.sc)=true)(hl:xs.length=svs.length)(hv:ag (SV.Is ρ) svs vs)
  (h:∀ s',To [env.locals] F ρ st s F ρ st s'→Fm F ρ st.σ cx env (jn xs svs m) s'.heap→Q () s'):wpAny (model prog w) A (assignInOrder (xs.map fun n=>bindName env n) vs) Q E s:=by
 induction xs generalizing svs vs m s with
 | nil=>induction hv with
  | nil=>exact wpAny_assignInOrder_none (h s (To.refl at') fm)
  | cons _ _=>exact (Nat.succ_ne_zero _ hl.symm).elim
 | cons x xs ih=>induction hv with
  | nil=>exact (Nat.succ_ne_zero _ hl).elim
  | cons i t _=>
   obtain ⟨h1,h2⟩:=dw hx
   exact wpAny_assignInOrder_more (wpAny_bindName (a9 at' fm h1 i fun s₁ T₁ fm₁=>ih T₁.at' fm₁ h2 (Nat.succ.inj hl) t fun s₂ T₂ fm₂=>h s₂ (T₁.trans T₂) fm₂))
theorem ag.reverse {α β:Type}{R:α→β→Prop}{as:List α}{bs:List β}(h:ag R as bs):ag R as.reverse bs.reverse:=by
 induction h with
 | nil=>exact .nil
 | cons r _ ih=>rw [List.reverse_cons,List.reverse_cons]; exact ih.append (.cons r .nil)
theorem hS {elts:List Expr}{tk:Nat}{tpos pos:Pos}{value:Expr}{names:List Str}{Q:Flow→Shared→Prop}(hh:A.handled=none)(hnc:fW value=true)(hsc:env.scope=cx.sc)(hw:swappedStores [.Tuple elts tk tpos] value (uT cx.sc)=pure (some names))(hl:names.all (aD cx.sc)=true)
  (h:wpAny (model prog w) A (eval value env) (fun v s₁=>∃ F₁ ρ₁ st₁ k svs,At F₁ ρ₁ st₁ s₁∧Fm F₁ ρ₁ st₁.σ cx env m s₁.heap∧(SV.ref k).Is ρ₁ v∧aM k st₁.σ=some (.tup svs)∧names.length=svs.length∧
   ∀ s₂,To [env.locals] F₁ ρ₁ st₁ s₁ F₁ ρ₁ st₁ s₂→Fm F₁ ρ₁ st₁.σ cx env (jn names.reverse svs.reverse m) s₂.heap→Q .next s₂) E s) :
  wpAny (model prog w) A (exec (.Assign [.Tuple elts tk tpos] value pos) env) Q E s:=by
 refine Assign_Tuple_swapped (names:=names) (wpAny_mono h (fun v s₁ h₁=>?_) fun _ _ e=>e) (show swapsWith value (some (.Tuple elts tk tpos)) pos.line env=pure false from dh hnc _ _) (by rw [oL,hsc]; exact hw)
 obtain ⟨F₁,ρ₁,st₁,k,svs,a1,f1,i1,hk,hlen,hq⟩:=h₁
 obtain ⟨q,hq',vs,c,ho,hv⟩:=a1.rep.get hk
 cases a1.ref i1 hq'
 have hsz:names.length=vs.size:=by
  have:=hv.length
  rw [←Array.length_toList,←this,hlen]
 rw [hsz]
 refine unpackItems_tuple hh (cD ho) fun h' hx=>?_
 have hk':∀ b o,s₁.heap.get? b=some o→h'.get? b=some o:=fun b o e=>hx b o (Nat.ne_of_lt (Heap.lt_size e)) e
 obtain ⟨R',X'⟩:=a1.rep.grow hk'
 have T':To [env.locals] F₁ ρ₁ st₁ s₁ F₁ ρ₁ st₁ { s₁ with heap:=h' }:=⟨⟨R',a1.len⟩,X'.weaken (fun _ z=>nomatch z),rfl⟩
 have fm':Fm F₁ ρ₁ st₁.σ cx env m h':=f1.ext X' (fun z=>nomatch z)
 refine ng (s:={ s₁ with heap:=h' }) T'.at' fm' (by rw [List.all_reverse]; exact hl) (by rw [List.length_reverse,List.length_reverse,hlen]) hv.reverse fun s₂ T₂ fm₂=>hq s₂ (T'.trans T₂) fm₂
theorem hK (h:σ.Perm σ'):(ae ρ σ).Perm (ae ρ σ'):=by
 induction h with
 | nil=>exact .refl _
 | cons x _ ih=>exact List.Perm.append_left _ ih
 | swap x y l=>
  show (_++(_++ae ρ l)).Perm (_++(_++ae ρ l))
  rw [←List.append_assoc,←List.append_assoc]
  exact List.Perm.append_right _ List.perm_append_comm
 | trans _ _ i j=>exact i.trans j
theorem At.perm (at':At F ρ ⟨σ,n⟩ s)(h:σ.Perm σ'):At F ρ ⟨σ',n⟩ s:=
 ⟨⟨at'.rep.le,at'.rep.wd,fun e he=>at'.rep.ok e (h.mem_iff.mpr he),fun e he=>at'.rep.ro e (h.mem_iff.mpr he),(hK h).nodup_iff.mp at'.rep.nodup,fun a ha=>at'.rep.free a ((hK h).mem_iff.mpr ha)⟩,at'.len⟩
theorem To.perm (T:To X F₀ ρ₀ st₀ s₀ F ρ ⟨σ,n⟩ s)(h:σ.Perm σ'):To X F₀ ρ₀ st₀ s₀ F ρ ⟨σ',n⟩ s:=
 ⟨T.at'.perm h,⟨T.ext.pre,T.ext.keep,fun a ha=>T.ext.new a ((hK h).mem_iff.mpr ha),T.ext.fz,T.ext.fznew,T.ext.live⟩,T.sh⟩
theorem Fm.perm {h':Heap}(fm:Fm F ρ σ cx env m h')(h:σ.Perm σ'):Fm F ρ σ' cx env m h':=⟨fm.eok,fm.ns,fun z=>fm.out ((hK h).mem_iff.mpr z),fm.free⟩
theorem Fm.sub {h':Heap}(fm:Fm F ρ σ cx env m h')(h:∀ a∈ae ρ σ',a∈ae ρ σ):Fm F ρ σ' cx env m h':=⟨fm.eok,fm.ns,fun z=>fm.out (h _ z),fm.free⟩
end
end
section
section
theorem mG {elts:List Expr}{x1:Nat}{pos:Pos}{e it l:Addr}{vs:Array Value}(hh:A.handled=none)(hF:∀ h,F₀.le h→h.IsList l vs)(hei:e≠it) :
  ee A F₀ (.Tuple elts x1 pos) (.ref e) [e,it] vs.size (fun i v h=>∃ T t x,v=.ref T∧IsTup h T #[.int (i:Nat) t,x]∧vs[i]?=some x) (fun i h=>(∃ old,IsEnum h e it ((i:Nat):Int) old)∧h.IsListIter it l i∧h.IsList l vs) where
 next:=fun {i s Q E} hi hI h=>by
  obtain ⟨⟨old,he⟩,hit,hl⟩:=hI
  refine wpAny_pyNext_enum_item he hit hl (x:=vs[i]) (by simp [hi]) hei fun h₁ heo hit₁ ht₁ hz₁ hk₁=>?_
  refine wpAny_letOwnedTupleGo_enum heo fun h₂ he₂ sb=>?_
  have heH:e≠s.heap.objs.size:=Nat.ne_of_lt (Heap.lt_size he)
  have hle:l≠e:=fun z=>by obtain ⟨o,ho,hc,_⟩:=hl; rw [z,he] at ho; cases ho; simp at hc
  have hli:l≠it:=fun z=>by obtain ⟨o,ho,hc,_⟩:=hl; obtain ⟨o',ho',hc',_⟩:=hit; rw [z,ho'] at ho; cases ho; rw [hc] at hc'; simp at hc'
  have e1:((i:Nat):Int)+1=((i+1:Nat):Int):=by omega
  rw [e1] at he₂
  refine h _ h₂ _ ⟨_,_,_,rfl,⟨_,aB sb (Ne.symm heH) ht₁,rfl,_,rfl⟩,by simp [hi]⟩ ⟨⟨_,he₂⟩,hit₁.at fun o e=>aB sb (Ne.symm hei) e,hl.at fun o e=>aB sb hle (hk₁ _ o hle hli e)⟩ fun c o hc e=>?_
  simp only [List.mem_cons,List.not_mem_nil,or_false,not_or] at hc
  exact aB sb hc.1 (hk₁ c o hc.1 hc.2 e)
 done:=fun {s Q E} hI h=>by
  obtain ⟨⟨old,he⟩,hit,hl⟩:=hI
  refine wpAny_pyNext_enum_end hh he hit hl (by simp) fun h' hx=>⟨rfl,h h' s.toks fun c o hc e=>hx c o (fun z=>hc (by rw [z]; simp)) e⟩
 keep:=fun hI k hF'=>by
  obtain ⟨⟨old,he⟩,hit,hl⟩:=hI
  exact ⟨⟨old,k _ _ (by simp) he⟩,hit.at fun o e=>k _ o (by simp) e,hF _ hF'⟩
 alive:=fun hI c hc=>by
  obtain ⟨⟨old,he⟩,hit,hl⟩:=hI
  rcases fb hc with rfl | rfl
  ·exact ⟨_,he⟩
  ·obtain ⟨o,ho,_⟩:=hit; exact ⟨o,ho⟩
theorem Fm.cut {h:Heap}(fm:Fm F (ρ++τ) σ cx env m h)(hc:cx.cells.all (fun e=>Nat.blt e.2 ρ.length)=true)(hm:m.all (fun e=>jO ρ.length e.2)=true)(hf:∀ a∈ae ρ σ',a∈ae (ρ++τ) σ):Fm F ρ σ' cx env m h:=by
 obtain ⟨g,hg,hr⟩:=fm.ns
 refine ⟨⟨fm.eok.sc,fm.eok.gl,fm.eok.bu,fm.eok.kd,fun x k e=>?_⟩,⟨g,hg,fun x sv e=>?_⟩,fun z=>fm.out (hf _ z),fm.free⟩
 ·obtain ⟨q,hq,hl⟩:=fm.eok.cel x k e
  obtain ⟨y,hy⟩:=gH e
  have:k<ρ.length:=cC (dQ hc _ hy)
  rw [List.getElem?_append_left this] at hq
  exact ⟨q,hq,hl⟩
 ·obtain ⟨v,hv,i⟩:=hr x sv e
  obtain ⟨y,hy⟩:=gH e
  exact ⟨v,hv,i.cut (dQ hm _ hy)⟩
theorem gY {k:Nat}(h0:ρ.length=k):∀ a∈ae ρ (trim k σ),a∈ae (ρ++τ) σ:=fun a ha=>by
 have hr:∀ e∈trim k σ,ρ[e.1]?=(ρ++τ)[e.1]?:=fun e he=>by rw [List.getElem?_append_left (by rw [h0]; exact (eJ he).2)]
 exact (i8 iQ hr).subset ha
end
noncomputable abbrev cH (p:Params)(d:Nat):Cx:=⟨aK p 1122,hV 8 (aA crN),d⟩
noncomputable def crL (due:Int)(sh:Bool):Loc:=[("due",.uint due),("is_short",.bool sh)]
noncomputable def AQ (due:Int)(sh:Bool)(k4:Int):Loc:=crL due sh++([("top",.uint k4),("kept",.ref 14)]:Loc)
noncomputable def d4 (due:Int)(sh:Bool)(k4:Int)(ab:Array UInt8):Loc:=AQ due sh k4++([("above",.bytes ab)]:Loc)
noncomputable def n8 (due:Int)(sh:Bool)(k4:Int)(ab:Array UInt8)(at_ wo:Int):Loc:=d4 due sh k4 ab++([("at",.uint at_),("worth",.uint wo)]:Loc)
noncomputable def cJ (e:Expr):List Expr:=if h:e.ctorIdx=25 then Expr.Tuple.elim e h fun es _ _=>es else []
noncomputable def tuK (e:Expr):Nat:=if h:e.ctorIdx=25 then Expr.Tuple.elim e h fun _ k _=>k else 0
noncomputable def kc (e:Expr):Expr:=if h:e.ctorIdx=15 then Expr.Compare.elim e h fun l _ _ _=>l else dq
noncomputable def jI (e:Expr):Expr:=if h:e.ctorIdx=15 then Expr.Compare.elim e h fun _ _ r _=>bc 0 r else dq
noncomputable abbrev uV (p:Params):Expr:=bc 0 (jl (ad 1 (crB p)))
noncomputable abbrev cr4 (p:Params):Expr:=di (ad 4 (crB p))
noncomputable abbrev cr5 (p:Params):Expr:=di (ad 5 (crB p))
noncomputable abbrev uX (p:Params):Expr:=bc 0 (oo (cr5 p))
noncomputable abbrev uW (p:Params):Expr:=bc 1 (oo (cr5 p))
section
variable (p:Params)(m:M)(b:Int)(args:List Int)(bg mn:Int)(av pa:Addr)(k3 k4 k5:Int)(d:Nat)(due:Int)(sh:Bool)(ab:Array UInt8)
theorem HC:ad 1 (crB p)=.Assign [.Tuple (cJ (uV p)) (tuK (uV p)) (Expr.pos (uV p))] (aI (ad 1 (crB p))) (aS (ad 1 (crB p))):=by rfl'
theorem D2:fW (aI (ad 1 (crB p)))=true:=by rfl'
theorem D1:swappedStores [.Tuple (cJ (uV p)) (tuK (uV p)) (Expr.pos (uV p))] (aI (ad 1 (crB p))) (uT (aK p 1122))=pure (some (["kept","top"]:List Str)):=by rfl'
theorem Ht:(["kept","top"]:List Str).all (aD (aK p 1122))=true:=by rfl'
theorem JO:∀ v,E6 v→am (v.e (cH p (d+20)) (crL due sh) (aI (ad 1 (crB p))) ⟨cwH m b args bg mn av pa,14⟩) =
  ([([],[nI m.R 3,nI m.R 4,nI m.R 5,nI m.R 4],.ref 15,⟨(15,.tup [.ref 14,.uint (rg m.R 4)])::(14,.tup [.uint (rg m.R 3),.uint (rg m.R 4),.uint (rg m.R 5)])::cwH m b args bg mn av pa,16⟩)]:LE):=by rintro _ rfl; rfl'
theorem JN:∀ v,E6 v→aq (v.s (cH p (d+20)) (AQ due sh k4) (ad 2 (crB p)) ⟨cwK m b args bg mn av pa k3 k4 k5,15⟩) =
  ([([],[∀ i,0≤m.f i∧m.f i<256],.next,d4 due sh k4 (byteArr (ocV m.f k4)),⟨cwK m b args bg mn av pa k3 k4 k5,15⟩)]:LS):=by rintro _ rfl; rfl'
theorem JM:∀ v,E6 v→aq (v.s (cH p (d+20)) (d4 due false k4 ab) (ad 3 (crB p)) ⟨cwK m b args bg mn av pa k3 k4 k5,15⟩) =
  ([([],[],.next,d4 due false k4 ab,⟨cwK m b args bg mn av pa k3 k4 k5,15⟩)]:LS):=by rintro _ rfl; rfl'
theorem HA:ad 4 (crB p)=.If (.Compare (.Call (caF (kc (cr4 p))) (caA (kc (cr4 p))) [] (Expr.pos (kc (cr4 p)))) [.NotEq] [jI (cr4 p)] (Expr.pos (cr4 p))) (ah (ad 4 (crB p))) [] (aS (ad 4 (crB p))):=by rfl'
theorem Hs:d7 (jI (cr4 p))=false:=by rfl'
theorem HE:bG (caF (kc (cr4 p)))=false:=by rfl'
theorem Ho:noStar (caA (kc (cr4 p)))=true:=by rfl'
theorem Hv:∀ v,E6 v→am (v.e (cH p (d+20)) (d4 due sh k4 ab) (caF (kc (cr4 p))) ⟨cwK m b args bg mn av pa k3 k4 k5,15⟩)=([([],[],.sta 557,⟨cwK m b args bg mn av pa k3 k4 k5,15⟩)]:LE):=by rintro _ rfl; rfl'
theorem Hk:∀ v,E6 v→bw (v.es (cH p (d+20)) (d4 due sh k4 ab) (caA (kc (cr4 p))) ⟨cwK m b args bg mn av pa k3 k4 k5,15⟩)=([([],[],[.ref 0,.uint bg,.ref 7,.uint mn,.sta av],⟨cwK m b args bg mn av pa k3 k4 k5,15⟩)]:LEs):=by rintro _ rfl; rfl'
theorem Hx:∀ v,E6 v→am (v.e (cH p (d+20)) (d4 due sh k4 ab) (jI (cr4 p)) ⟨cwK m b args bg mn av pa k3 k4 k5,15⟩)=([([],[],.uint due,⟨cwK m b args bg mn av pa k3 k4 k5,15⟩)]:LE):=by rintro _ rfl; rfl'
theorem Hz:ad 5 (crB p)=.If (.BoolOp .Or [.Compare (kc (uX p)) [.NotEq] [jI (uX p)] (Expr.pos (uX p)),.Compare (kc (uW p)) [.NotEq] [jI (uW p)] (Expr.pos (uW p))] (Expr.pos (cr5 p))) (ah (ad 5 (crB p))) [] (aS (ad 5 (crB p))):=by rfl'
theorem BD:d7 (jI (uX p))=false∧d7 (jI (uW p))=false:=⟨by rfl',by rfl'⟩
theorem HJ:∀ v,E6 v→am (v.e (cH p (d+20)) (d4 due sh k4 ab) (kc (uX p)) ⟨cwK m b args bg mn av pa k3 k4 k5,15⟩) =
  ([([],[nI m.R 3,nI m.R 4,nI m.R 5],.ref 15,⟨(15,.tup [.uint (rg m.R 3),.uint (rg m.R 4),.uint (rg m.R 5)])::cwK m b args bg mn av pa k3 k4 k5,16⟩)]:LE):=by rintro _ rfl; rfl'
noncomputable def j9 (m:M)(b:Int)(args:List Int)(bg mn:Int)(av pa:Addr)(k3 k4 k5:Int):Hp:=(15,.tup [.uint (rg m.R 3),.uint (rg m.R 4),.uint (rg m.R 5)])::cwK m b args bg mn av pa k3 k4 k5
theorem HG:∀ v,E6 v→am (v.e (cH p (d+20)) (d4 due sh k4 ab) (jI (uX p)) ⟨j9 m b args bg mn av pa k3 k4 k5,16⟩)=([([],[],.ref 14,⟨j9 m b args bg mn av pa k3 k4 k5,16⟩)]:LE):=by rintro _ rfl; rfl'
theorem HI:∀ v,E6 v→am (v.e (cH p (d+20)) (d4 due sh k4 ab) (kc (uW p)) ⟨j9 m b args bg mn av pa k3 k4 k5,16⟩) =
  ([([],[∀ i,0≤m.f i∧m.f i<256],.bytes (byteArr (ocV m.f k4)),⟨j9 m b args bg mn av pa k3 k4 k5,16⟩)]:LE):=by rintro _ rfl; rfl'
theorem HH:∀ v,E6 v→am (v.e (cH p (d+20)) (d4 due sh k4 ab) (jI (uW p)) ⟨j9 m b args bg mn av pa k3 k4 k5,16⟩)=([([],[],.bytes ab,⟨j9 m b args bg mn av pa k3 k4 k5,16⟩)]:LE):=by rintro _ rfl; rfl'
noncomputable abbrev cr6 (p:Params):Expr:=aC (ad 6 (crB p))
theorem Hy:ad 6 (crB p)=.For (.Tuple (cJ (aF (ad 6 (crB p)))) (tuK (aF (ad 6 (crB p)))) (Expr.pos (aF (ad 6 (crB p))))) (.Call (caF (cr6 p)) (caA (cr6 p)) [] (Expr.pos (cr6 p))) (ah (ad 6 (crB p))) [] (aS (ad 6 (crB p))):=by rfl'
theorem HD:bG (caF (cr6 p))=false:=by rfl'
theorem Hn:noStar (caA (cr6 p))=true:=by rfl'
theorem Hu:∀ v,E6 v→am (v.e (cH p (d+20)) (d4 due sh k4 ab) (caF (cr6 p)) ⟨cwK m b args bg mn av pa k3 k4 k5,15⟩)=([([],[],.ty "enumerate",⟨cwK m b args bg mn av pa k3 k4 k5,15⟩)]:LE):=by rintro _ rfl; rfl'
noncomputable def gp (args:List Int):List Int:=iq args (some 6) none none
theorem Hj:∀ v,E6 v→bw (v.es (cH p (d+20)) (d4 due sh k4 ab) (caA (cr6 p)) ⟨cwK m b args bg mn av pa k3 k4 k5,15⟩) =
  ([([],[args.length≤100000],[.ref 15],⟨(15,.ilist (gp args))::cwK m b args bg mn av pa k3 k4 k5,16⟩)]:LEs):=by rintro _ rfl; rfl'
noncomputable def ij (m:M)(b:Int)(args:List Int)(bg mn:Int)(av pa:Addr)(k3 k4 k5:Int):Hp:=(15,.ro (.ilist (gp args)))::cwK m b args bg mn av pa k3 k4 k5
theorem Hr (i wo:Int):bR (cH p d) (cJ (aF (ad 6 (crB p)))) [.uint i,.uint wo] (d4 due sh k4 ab)=some (n8 due sh k4 ab i wo):=by rfl'
theorem D3 (i wo i' wo':Int):bR (cH p d) (cJ (aF (ad 6 (crB p)))) [.uint i,.uint wo] (n8 due sh k4 ab i' wo')=some (n8 due sh k4 ab i wo):=by rfl'
noncomputable def al8 (f:Int→Int)(top:Int)(len i:Int):Int:=rdN f (top - 8*(len - 6)+8*i) 8
end
end
section
noncomputable def me:Int:=18446744073709551616
section
variable (p:Params)(m:M)(b:Int)(args:List Int)(bg mn:Int)(av pa:Addr)(k3 k4 k5:Int)(d:Nat)(due:Int)(sh:Bool)(ab:Array UInt8)(i wo:Int)
theorem Hl:∀ v,E6 v→aq (v.ss (cH p (d+20)) (n8 due sh k4 ab i wo) (ah (ad 6 (crB p))) ⟨ij m b args bg mn av pa k3 k4 k5,16⟩) =
  ([([(!(al8 m.f k4 args.length i == wo.fmod me))=true],(args.length<2 ^ 62)::nRd m.f (k4 - 8*((args.length:Int) - 6)+8*i),.ret (.bool false),n8 due sh k4 ab i wo,⟨(16,.rng 0 8)::ij m b args bg mn av pa k3 k4 k5,17⟩),
   ([(!(al8 m.f k4 args.length i == wo.fmod me))=false],(args.length<2 ^ 62)::nRd m.f (k4 - 8*((args.length:Int) - 6)+8*i),.next,n8 due sh k4 ab i wo,⟨(16,.rng 0 8)::ij m b args bg mn av pa k3 k4 k5,17⟩)]:LS):=by rintro _ rfl; rfl'
theorem JL (σ:Hp)(n:Nat)(L:Loc):∀ v,E6 v→aq (v.ss (cH p (d+20)) L ((crB p).drop 7) ⟨σ,n⟩)=([([],[],.ret (.bool true),L,⟨σ,n⟩)]:LS):=by rintro _ rfl; rfl'
end
end
section
theorem AP (p:Params):crB p=ad 0 (crB p)::ad 1 (crB p)::ad 2 (crB p)::ad 3 (crB p)::ad 4 (crB p)::ad 5 (crB p)::ad 6 (crB p)::(crB p).drop 7:=by rfl'
theorem qu (p:Params):(crB p).drop 4=ad 4 (crB p)::ad 5 (crB p)::ad 6 (crB p)::(crB p).drop 7:=by rfl'
section
theorem aj.down {a b:Nat}(h:aj a A)(le:b≤a):aj b A:=⟨by have:=h.dep; omega,by have:=h.uni; omega,h.hand⟩
theorem ur {l r:Addr}{vs ws:Array Value}{xs:List Int}{Q:Value→Shared→Prop}(hl:s.heap.get? l=some ⟨.type "tuple",none,.seq vs n,#[]⟩){n':Nat}(hr:s.heap.get? r=some ⟨.type "tuple",none,.seq ws n',#[]⟩)
  (h1:IntsAre vs.toList xs) (h2:IntsAre ws.toList xs) (hu:A.units<cLine) (h:Q (.bool false) s):wpAny (model prog w) A (compareOp .NotEq (.ref l) (.ref r)) Q E s:=by
 have e1:vs.size=xs.length:=by rw [←Array.length_toList,h1.length]
 have e2:ws.size=xs.length:=by rw [←Array.length_toList,h2.length]
 have key:=SeqAt.RcNeAt.tuples (A:=A) (s:=s) (l:=l) (b:=r) (items:=vs) (items2:=ws) (e:=fun _=>true) ⟨_,hl,rfl,n,rfl⟩ ⟨_,hr,rfl,n',rfl⟩ hu fun j a1 a2=>by
  have ej:∃ x,xs[j]?=some x:=⟨_,List.getElem?_eq_getElem (by omega)⟩
  obtain ⟨x1,t1,q1,p1⟩:=h1.at j vs[j] (by rw [Array.getElem?_toList]; simp)
  obtain ⟨x2,t2,q2,p2⟩:=h2.at j ws[j] (by rw [Array.getElem?_toList]; simp)
  rw [p1] at p2; cases p2
  rw [q1,q2]
  have:=SeqAt.EqAt.int_int (A:=A.in1) (s:=s) x1 t1 x1 t2
  simpa using this
 have:(!((List.range (min vs.size ws.size)).all (fun _=>true)&&vs.size == ws.size))=false:=by
  rw [e1,e2]; simp
 rw [this] at key
 exact key prog w E Q h
theorem J5 {q15:Addr×Addr}{mm:M}{b bg mn k3 k4 k5:Int}{args:List Int}{av pa:Addr}(hlen:ρ.length=15)(at':At F ρ ⟨cwK mm b args bg mn av pa k3 k4 k5,15⟩ s):ae (ρ++[q15]) (ij mm b args bg mn av pa k3 k4 k5)=ae ρ (cwK mm b args bg mn av pa k3 k4 k5):=by
 show (match (ρ++[q15])[15]? with | some p=>aN p (SO.ro (.ilist (gp args))) | none=>[])++ae (ρ++[q15]) (cwK mm b args bg mn av pa k3 k4 k5)=_
 rw [bU at'.rep.names]
 have:(ρ++[q15])[15]?=some q15:=by rw [List.getElem?_append_right (by omega),hlen]; rfl
 rw [this]; rfl
set_option maxHeartbeats 2000000 in
theorem AM {m m':M}{b bg mn due k3 k4 k5:Int}{sh:Bool}{ab:Array UInt8}{args:List Int}{av pa:Addr}{P:Prg}{N:Nat}{Q:Flow→Shared→Prop}(rm:aj 38 A)(at':At F ρ ⟨cwK m b args bg mn av pa k3 k4 k5,15⟩ s)
  (fm:Fm F ρ (cwK m b args bg mn av pa k3 k4 k5) (cH p 38) env (d4 due sh k4 ab) s.heap) (adv:iM p F av pa) (pr:dB F pa P)
  (hR:m.R.length=16) (hn:m.n+8*(bF args).length+16≤100000) (ha:args.length≤100000) (hb:(ck args).length≤100000) (hbA:(gp args).length≤100000)
  (tr:cZ P N (cY m args bg) m') (hmn:mn=(N:Int)) (hrip:m'.rip=RP) (hR':m'.R.length=16) (hdue:due=rg (m'.R.set 4 (rg m.R 4)) 0)
  (h3:rg (m'.R.set 4 (rg m.R 4)) 3=k3) (h4:rg (m'.R.set 4 (rg m.R 4)) 4=k4) (h5:rg (m'.R.set 4 (rg m.R 4)) 5=k5) (hf:∀ i,0≤m'.f i∧m'.f i<256) (hoct:byteArr (ocV m'.f k4)=ab)
  (hlate:∀ (i:Nat) wo,(gp args)[i]?=some wo→al8 m'.f k4 args.length (i:Nat)=wo.fmod me)
  (h:∀ F' s' b',To [env.locals] F ρ ⟨cwK m b args bg mn av pa k3 k4 k5,15⟩ s F' ρ ⟨cwK ⟨m'.R.set 4 (rg m.R 4),m'.f,m'.n,m'.rip⟩ b' args bg mn av pa k3 k4 k5,15⟩ s'→Q (.ret (.bool true)) s') :
  wpAny (model prog w) A (execs ((crB p).drop 4) env) Q E s:=by
 have hlen:ρ.length=15:=at'.len
 obtain ⟨v,hv,S⟩:=dj
 have nl:=@noA env.locals
 rw [qu]
 refine wpAny_execs_cons ?_
 rw [HA]
 refine wpAny_If (wpAny_isTrue_Compare1 ?_ (eS (Hs p)))
 refine br S rm at' fm (Ho p) (a8 (HE p)) (tF p) (ac _ (Hv p m b args bg mn av pa k3 k4 k5 18 due sh ab v hv) noP rfl) (ac _ (Hk p m b args bg mn av pa k3 k4 k5 18 due sh ab v hv) noP rfl) fun F₁ ρ₁ s₁ fv vs T₁ ifv ivs=>?_
 have e₁:=aU T₁ hlen
 subst e₁
 cases ifv
 obtain ⟨v0,v1,v2,v3,v4,rfl,i0,i1,i2,i3,i4⟩:=ivs.inv5
 obtain ⟨q0,h0,rfl⟩:=i0
 obtain ⟨t1,rfl⟩:=i1
 obtain ⟨q7,h7,rfl⟩:=i2
 obtain ⟨t2,rfl⟩:=i3
 cases i4
 rw [hmn]
 have fm₁:=fm.to T₁ nl
 obtain ⟨ρa,ρb,eρ,hla⟩:∃ ρa ρb,ρ=ρa++ρb∧ρa.length=8:=⟨ρ.take 8,ρ.drop 8,(List.take_append_drop 8 ρ).symm,by rw [List.length_take]; omega⟩
 have ecw:∀ (mm:M) (bb:Int),cwK mm bb args bg mn av pa k3 k4 k5=cbH mm bb args++(roH++sq bg mn av pa++kpH k3 k4 k5):=fun mm bb=>by
  unfold cwK cwH; rw [List.append_assoc]
 have kl:∀ (mm:M) (bb:Int),jA 8 (cbH mm bb args)=true:=fun mm bb=>by rfl'
 have al:∀ (mm:M) (bb:Int),gt 8 (cbH mm bb args)=true:=fun mm bb=>by rfl'
 have a1:=T₁.at'
 rw [ecw,eρ] at a1
 have sub:=mI hla (kl m b) (al m b) a1
 refine A0 (rm.down (by omega)) sub (adv.mono T₁.ext.fz) (pr.mono T₁.ext.fz) hR hn ha hb tr hrip hR' (sa:=q0.1) (sd:=q0.2) (by rw [eρ,List.getElem?_append_left (by omega)] at h0; exact h0) (la:=q7.1) (ld:=q7.2) (by rw [eρ,List.getElem?_append_left (by omega)] at h7; exact h7) fun F₂ s₂ rv b₂ T₂ irv=>?_
 generalize hm3:(⟨m'.R.set 4 (rg m.R 4),m'.f,m'.n,m'.rip⟩:M)=m3 at *
 have TB:=iH hla (kl m b) (kl m3 b₂) a1 T₂ (by rfl) (fun _ z=>nomatch z)
 rw [←ecw,←ecw,←eρ] at TB
 have T₀₂:=T₁.trans TB
 have fm₂:=fm₁.to TB nl
 refine S.e rm TB.at' fm₂ (ac _ (Hx p m3 b₂ args bg mn av pa k3 k4 k5 18 due sh ab v hv) noP (bS hlen fun F₃ s₃ dv T₃ idv=>?_))
 obtain ⟨t3,rfl⟩:=irv
 obtain ⟨t4,rfl⟩:=idv
 refine ne_int ?_
 refine wpAny_truthy_bool ?_
 have hd:(rg (m'.R.set 4 (rg m.R 4)) 0 != due)=false:=by rw [hdue]; simp
 rw [hd,if_neg (by simp)]
 refine wpAny_execs_nil ?_
 have T₀₃:=T₀₂.trans T₃
 have fm₃:=fm₂.to T₃ nl
 refine wpAny_execs_cons ?_
 rw [Hz]
 have hR3:m3.R.length=16:=by rw [←hm3]; simp [hR']
 have c3:bX 3:=⟨by decide,by decide⟩
 have c4:bX 4:=⟨by decide,by decide⟩
 have c5:bX 5:=⟨by decide,by decide⟩
 have hf3:∀ i,0≤m3.f i∧m3.f i<256:=by rw [←hm3]; exact hf
 have g3:rg m3.R 3=k3:=by rw [←hm3]; exact h3
 have g4:rg m3.R 4=k4:=by rw [←hm3]; exact h4
 have g5:rg m3.R 5=k5:=by rw [←hm3]; exact h5
 refine wpAny_If (wpAny_isTrue_BoolOp (wpAny_allTrue_Or_cons (wpAny_isTrue_Compare1 ?_ (eS (BD p).1))))
 refine S.e rm T₃.at' fm₃ (ac _ (HJ p m3 b₂ args bg mn av pa k3 k4 k5 18 due sh ab v hv) (fun P hP=>by
  exact bC hP (aR hR3 c3) fun hP=>bC hP (aR hR3 c4) fun hP=>bC hP (aR hR3 c5) fun hP=>nomatch hP) fun F₄ ρ₄ s₄ xv T₄ ixv=>?_)
 have T₄:To [] F₃ ρ ⟨cwK m3 b₂ args bg mn av pa k3 k4 k5,15⟩ s₃ F₄ ρ₄ ⟨j9 m3 b₂ args bg mn av pa k3 k4 k5,16⟩ s₄:=T₄
 have fm₄:=fm₃.to T₄ nl
 have hl4:ρ₄.length=16:=T₄.at'.len
 refine S.e rm T₄.at' fm₄ (ac _ (HG p m3 b₂ args bg mn av pa k3 k4 k5 18 due sh ab v hv) noP (bS hl4 fun F₅ s₅ yv T₅ iyv=>?_))
 have fm₅:=fm₄.to T₅ nl
 obtain ⟨qx,hqx,rfl⟩:=ixv.ext T₅.ext
 obtain ⟨qy,hqy,rfl⟩:=iyv
 have hmx:((15,.tup [.uint (rg m3.R 3),.uint (rg m3.R 4),.uint (rg m3.R 5)]):Nat×SO)∈j9 m3 b₂ args bg mn av pa k3 k4 k5:=.head _
 have hmy:((14,.tup [.uint k3,.uint k4,.uint k5]):Nat×SO)∈j9 m3 b₂ args bg mn av pa k3 k4 k5:=by
  refine .tail _ (List.mem_append_right _ (.head _))
 have intsOf3:∀ {ρ:Rho} {a b c:Int} {ws:List Value},ag (SV.Is ρ) [.uint a,.uint b,.uint c] ws→IntsAre ws [a,b,c]:=by
  intro ρ a b c ws hw
  obtain ⟨_,_,_,rfl,⟨r1,rfl⟩,⟨r2,rfl⟩,⟨r3,rfl⟩⟩:=hw.inv3
  exact .cons _ _ (.cons _ _ (.cons _ _ .nil))
 obtain ⟨qx',hqx',vx,nx,ox,ix⟩:=T₅.at'.rep.ok _ hmx
 have hqx':ρ₄[15]?=some qx':=hqx'
 rw [hqx'] at hqx; cases hqx
 obtain ⟨qy',hqy',vy,ny,oy,iy⟩:=T₅.at'.rep.ok _ hmy
 have hqy':ρ₄[14]?=some qy':=hqy'
 rw [hqy'] at hqy; cases hqy
 rw [g3,g4,g5] at ix
 refine ur ox oy (intsOf3 ix) (intsOf3 iy) rm.units (wpAny_truthy_bool ?_)
 rw [if_neg (by simp)]
 refine wpAny_allTrue_Or_cons (wpAny_isTrue_Compare1 ?_ (eS (BD p).2))
 refine S.e rm T₅.at' fm₅ (ac _ (HI p m3 b₂ args bg mn av pa k3 k4 k5 18 due sh ab v hv) (fun P hP=>by
  obtain rfl:=ak hP; exact hf3) (bS hl4 fun F₆ s₆ zv T₆ izv=>?_))
 have fm₆:=fm₅.to T₆ nl
 refine S.e rm T₆.at' fm₆ (ac _ (HH p m3 b₂ args bg mn av pa k3 k4 k5 18 due sh ab v hv) noP (bS hl4 fun F₇ s₇ uv T₇ iuv=>?_))
 have fm₇:=fm₆.to T₇ nl
 obtain ⟨t5,rfl⟩:=izv
 obtain ⟨t6,rfl⟩:=iuv
 have hof:byteArr (ocV m3.f k4)=ab:=by rw [←hm3]; exact hoct
 refine ne_bytes (wpAny_truthy_bool ?_)
 rw [hof]
 rw [show (ab.toList != ab.toList)=false by simp]
 rw [if_neg (by simp)]
 refine wpAny_allTrue_Or_nil ?_
 rw [if_neg (by simp)]
 refine wpAny_execs_nil ?_
 have T₃₇:To [] F₃ ρ ⟨cwK m3 b₂ args bg mn av pa k3 k4 k5,15⟩ s₃ F₇ ρ₄ ⟨j9 m3 b₂ args bg mn av pa k3 k4 k5,16⟩ s₇:=T₄.trans (T₅.trans (T₆.trans T₇))
 obtain ⟨τ₄,eτ₄⟩:=T₃₇.ext.pre
 rw [eτ₄] at T₃₇ fm₇
 have htr:trim 15 (j9 m3 b₂ args bg mn av pa k3 k4 k5)=cwK m3 b₂ args bg mn av pa k3 k4 k5:=by rfl'
 have hfm:∀ a∈ae ρ (cwK m3 b₂ args bg mn av pa k3 k4 k5),a∈ae (ρ++τ₄) (j9 m3 b₂ args bg mn av pa k3 k4 k5):=by rw [←htr]; exact gY hlen
 have T₃₈:=T₃₇.trim hlen (by dsimp only; rw [htr]; rfl') ⟨[],by simp⟩
 dsimp only at T₃₈
 rw [htr] at T₃₈
 have fm₈:Fm F₇ ρ (cwK m3 b₂ args bg mn av pa k3 k4 k5) (cH p 38) env (d4 due sh k4 ab) s₇.heap:=fm₇.cut (by rw [hlen]; rfl') (by rw [hlen]; rfl') hfm
 have T₀₈:=T₀₃.trans T₃₈
 refine wpAny_execs_cons ?_
 rw [Hy]
 refine wpAny_For ?_ (fun _=>rfl)
 refine br S rm T₃₈.at' fm₈ (Hn p) (a8 (HD p)) rfl (ac _ (Hu p m3 b₂ args bg mn av pa k3 k4 k5 18 due sh ab v hv) noP rfl) (ac _ (Hj p m3 b₂ args bg mn av pa k3 k4 k5 18 due sh ab v hv) (fun P hP=>by
  obtain rfl:=ak hP; exact ha) rfl) fun F₉ ρ₉ s₉ fv vs T₉ ifv ivs=>?_
 cases ifv
 obtain ⟨τ,eτ⟩:=T₉.ext.pre
 obtain ⟨q15,rfl⟩:=rJ (Nat.add_left_cancel (show _+τ.length=_+1 from (by have:=T₉.at'.len; rw [eτ,List.length_append,hlen] at this; exact this)))
 subst eτ
 have hq15:(ρ++[q15])[15]?=some q15:=by rw [List.getElem?_append_right (by omega),hlen]; rfl
 obtain ⟨F₁₀,hFF,T₁₀⟩:=T₉.freeze T₃₈.at' [15] (by rfl')
 have T₁₀:To [] F₇ ρ ⟨cwK m3 b₂ args bg mn av pa k3 k4 k5,15⟩ s₇ F₁₀ (ρ++[q15]) ⟨ij m3 b₂ args bg mn av pa k3 k4 k5,16⟩ s₉:=T₁₀
 have hl9:(ρ++[q15]).length=16:=T₁₀.at'.len
 obtain ⟨_,hq',va,ca,oa,ia⟩:=T₁₀.at'.rep.ok _ (List.mem_cons_self ..)
 have hq':(ρ++[q15])[15]?=some _:=hq'
 rw [hq15] at hq'; cases hq'
 have hall:∀ g,F₁₀.le g→g.IsList q15.1 va:=fun g hg=>by
  obtain ⟨o,hF⟩:=eG T₁₀.at'.rep.le (a:=q15.1) fun g hg=>by
   obtain ⟨vs,n,ho,_⟩:=T₁₀.at'.rep.ro _ (List.mem_cons_self ..) _ rfl _ hq15 g hg
   exact ⟨_,ho⟩
  have:=T₁₀.at'.rep.le _ _ hF
  rw [oa] at this; cases this
  exact au (hg _ _ hF)
 obtain ⟨w0,rfl,iw⟩:=ivs.inv1
 obtain ⟨_,hq'',rfl⟩:=iw
 rw [hq15] at hq''; cases hq''
 refine call_enumerate_list (au oa) fun h' he hit hsz hk=>?_
 refine wpAny_pyIter_enum he ?_
 have fm₁₀:Fm F₁₀ (ρ++[q15]) (ij m3 b₂ args bg mn av pa k3 k4 k5) (cH p 38) env (d4 due sh k4 ab) s₉.heap:=by
  have:=fm₈.to T₁₀ nl
  exact this
 have n1:s₉.heap.get? (s₉.heap.objs.size+1)=none:=by
  cases q:s₉.heap.get? (s₉.heap.objs.size+1) with
  | none=>rfl
  | some o=>
   have:@LT.lt Nat _ (s₉.heap.objs.size+1) s₉.heap.objs.size:=Heap.lt_size q
   omega
 have hva:va.size=(gp args).length:=by rw [←Array.length_toList,ia.length]
 refine fO (W:=[s₉.heap.objs.size+1,s₉.heap.objs.size]) (n:=va.size) (F₀:=F₁₀) (mG rm.hand hall (Nat.succ_ne_self _))
  (J:=fun i F ρ' st m=>ρ'=ρ++[q15]∧st=⟨ij m3 b₂ args bg mn av pa k3 k4 k5,16⟩∧(m=d4 due sh k4 ab∨∃ i wo,m=n8 due sh k4 ab i wo))
  (fun c hc=>by
   rcases fb hc with rfl | rfl
   ·exact n1
   ·exact aT _) ?_ ?_ T₁₀.at' fm₁₀ ⟨rfl,rfl,.inl rfl⟩ hk ⟨⟨_,he⟩,hit,(au oa).at fun o e=>hk _ o e⟩
 ·-- a turn
  intro i F ρ' st mm s x E hi a fmi hJ hit' hFi
  obtain ⟨rfl,rfl,hmm⟩:=hJ
  obtain ⟨T,t,y,rfl,hT,hy⟩:=hit'
  obtain ⟨wo,t',ey,hwo⟩:=ia.at i y (by rw [Array.getElem?_toList]; exact hy)
  subst ey
  have hset:bR (cH p 38) (cJ (aF (ad 6 (crB p)))) [.uint ((i:Nat):Int),.uint wo] mm=some (n8 due sh k4 ab ((i:Nat):Int) wo):=by
   rcases hmm with rfl | ⟨i',wo',rfl⟩
   ·exact Hr p k4 38 due sh ab _ _
   ·exact D3 p k4 38 due sh ab _ _ _ _
  refine cg (svs:=[.uint ((i:Nat):Int),.uint wo]) rm.hand a fmi hT (.cons ⟨t,rfl⟩ (.cons ⟨t',rfl⟩ .nil)) hset fun s₁ T₁ fm₁=>?_
  have T₁:To [env.locals] F (ρ++[q15]) ⟨ij m3 b₂ args bg mn av pa k3 k4 k5,16⟩ s F (ρ++[q15]) ⟨ij m3 b₂ args bg mn av pa k3 k4 k5,16⟩ s₁:=T₁
  have nds:∀ P∈(args.length<2 ^ 62)::nRd m3.f (k4 - 8*((args.length:Int) - 6)+8*((i:Nat):Int)),P:=by
   intro P hP
   rcases aJ hP with rfl | hP
   ·omega
   ·exact jt (fun j=>by have:=hf3 j; omega) _ P hP
  refine S.ss rm T₁.at' fm₁ (cX _ (Hl p m3 b₂ args bg mn av pa k3 k4 k5 18 due sh ab ((i:Nat):Int) wo v hv) fun z hz hasm=>⟨?_,?_⟩)
  ·rcases aJ hz with rfl | hz
   ·exact nds
   ·obtain rfl:=ak hz; exact nds
  ·have good:al8 m3.f k4 args.length ((i:Nat):Int)=wo.fmod me:=by rw [←hm3]; exact hlate i wo hwo
   rcases aJ hz with rfl | hz
   ·have:=hasm _ (.head _)
    rw [good] at this
    simp at this
   ·obtain rfl:=ak hz
    intro F' ρ' s' f T₂ fm₂ hf
    dsimp only at T₂ fm₂ hf ⊢
    have T₂:To [env.locals] F (ρ++[q15]) ⟨ij m3 b₂ args bg mn av pa k3 k4 k5,16⟩ s₁ F' ρ' ⟨(16,.rng 0 8)::ij m3 b₂ args bg mn av pa k3 k4 k5,17⟩ s':=T₂
    obtain ⟨τ,eτ⟩:=T₂.ext.pre
    subst eτ
    have htr6:trim 16 ((16,SO.rng 0 8)::ij m3 b₂ args bg mn av pa k3 k4 k5)=ij m3 b₂ args bg mn av pa k3 k4 k5:=by rfl'
    have T₃:=T₂.trim hl9 (by dsimp only; rw [htr6]; rfl') ⟨[],by simp⟩
    dsimp only at T₃
    rw [htr6] at T₃
    have fm₃:Fm F' (ρ++[q15]) (ij m3 b₂ args bg mn av pa k3 k4 k5) (cH p 38) env (n8 due sh k4 ab ((i:Nat):Int) wo) s'.heap:=fm₂.cut (by rw [hl9]; rfl') (by rw [hl9]; rfl') (by rw [←htr6]; exact gY hl9)
    exact ⟨.inl hf,F',_,_,_,T₁.trans T₃,fm₃,rfl,rfl,.inr ⟨_,_,rfl⟩⟩
 ·-- the end
  intro F ρ' st mm s T fmi hJ
  obtain ⟨rfl,rfl,hmm⟩:=hJ
  refine S.ss rm T.at' fmi (ac _ (JL p 18 (ij m3 b₂ args bg mn av pa k3 k4 k5) 16 mm v hv) noP (dz hl9 fun F' s' f T₂ fm₂ hf=>?_))
  obtain ⟨bv,rfl,hbv⟩:=hf
  cases hbv
  dsimp only at T₂
  have TT:=((T₁₀.nil (X:=[env.locals])).trans T).trans T₂
  have htr7:trim 15 (ij m3 b₂ args bg mn av pa k3 k4 k5)=cwK m3 b₂ args bg mn av pa k3 k4 k5:=by rfl'
  have T₃:=TT.trim hlen (by dsimp only; rw [htr7]; rfl') ⟨[],by simp⟩
  dsimp only at T₃
  rw [htr7] at T₃
  exact h F' s' b₂ (T₀₈.nil.trans T₃)
end
end
section
noncomputable abbrev r9 (p:Params):Expr:=unE (xN p)
section
variable (p:Params)(m:M)(b:Int)(args:List Int)(bg mn:Int)(av pa:Addr)(k3 k4 k5:Int)(d:Nat)(due:Int)(sh:Bool)(ab:Array UInt8)
theorem HB:ad 3 (crB p)=.If (.BoolOp .And [bc 0 (oo (n6 p)),.UnaryOp .Not (.Call (caF (r9 p)) [.Lambda (pQ (i6 p)) (jy p) (j6 p) (ao (i6 p))] [] (Expr.pos (r9 p))) (Expr.pos (xN p))] (Expr.pos (n6 p))) (ah (ad 3 (crB p))) [] (aS (ad 3 (crB p))):=by rfl'
theorem Hm:∀ v,E6 v→kS (v.t (cH p (d+20)) (d4 due true k4 ab) (bc 0 (oo (n6 p))) ⟨cwK m b args bg mn av pa k3 k4 k5,15⟩)=([([],[],true,⟨cwK m b args bg mn av pa k3 k4 k5,15⟩)]:LB):=by rintro _ rfl; rfl'
theorem Hw:∀ v,E6 v→am (v.e (cH p (d+20)) (d4 due true k4 ab) (caF (r9 p)) ⟨cwK m b args bg mn av pa k3 k4 k5,15⟩)=([([],[],.sta 1115,⟨cwK m b args bg mn av pa k3 k4 k5,15⟩)]:LE):=by rintro _ rfl; rfl'
theorem HF:bG (caF (r9 p))=false:=by rfl'
theorem xi:cr (an p) (.sta 1115)=true:=by rfl'
theorem tB:pQ (i6 p)=⟨[],[],none,[],[],none,[]⟩:=by rfl'
theorem tA:(j6 p).names=([("_law_advance",.free),("arguments",.free),("begin",.free),("many",.free),("state",.free),("call_by",.globalImplicit)]:List (Str×NameKind)):=by rfl'
theorem Af (c0:Addr):codeAmong (ao (i6 p)) (fh p c0).toList=none:=by rfl'
end
section
set_option maxHeartbeats 2000000 in
theorem Hq {m m':M}{b bg mn due k3 k4 k5:Int}{ab:Array UInt8}{args:List Int}{av pa c0:Addr}{P:Prg}{N:Nat}{outer:List Env}{Q:Flow→Shared→Prop}(rm:aj 38 A)(hfr:A.frames=some (env::outer))(hef:env.frame=some env.locals)(hcode:env.code=.ref 1121)
  (at':At F ρ ⟨cwK m b args bg mn av pa k3 k4 k5,15⟩ s) (fm:Fm F ρ (cwK m b args bg mn av pa k3 k4 k5) (cH p 38) env (d4 due true k4 ab) s.heap) (hfo:aH outer F ρ (cwK m b args bg mn av pa k3 k4 k5) s.heap)
  (tf:l9 F) (htab:s.heap.get? TB=some (tabObj (fh p c0))) (hT1:TB∉ae ρ (cwK m b args bg mn av pa k3 k4 k5)) (hT2:F TB=none) (hhit:d5 p F (fh p c0)) (adv:iM p F av pa) (pr:dB F pa P)
  (hR:m.R.length=16) (hn:m.n+8*(bF args).length+16≤100000) (ha:args.length≤100000) (hb:(ck args).length≤100000) (tr:cZ P N (cY m args bg) m') (hN:mn - 1=(N:Int)) (hrip:m'.rip≠RP)
  (h:∀ F' s' ps',To (TB::env.locals::frL outer) F ρ ⟨cwK m b args bg mn av pa k3 k4 k5,15⟩ s F' ρ ⟨cwK m b args bg mn av pa k3 k4 k5,15⟩ s'→Fm F' ρ (cwK m b args bg mn av pa k3 k4 k5) (cH p 38) env (d4 due true k4 ab) s'.heap→
   s'.heap.get? TB=some (tabObj ps')→F' TB=none→d5 p F' ps'→bq outer s.heap s'.heap→Q .next s'):wpAny (model prog w) A (exec (ad 3 (crB p)) env) Q E s:=by
 have hlen:ρ.length=15:=at'.len
 obtain ⟨v,hv,S⟩:=dj
 have nl:=@noA env.locals
 rw [HB]
 refine wpAny_If (wpAny_isTrue_BoolOp (wpAny_allTrue_And_cons (S.t rm at' fm (ac _ (Hm p m b args bg mn av pa k3 k4 k5 18 due ab v hv) noP fun F₁ ρ₁ s₁ T₁=>?_))))
 have e₁:=aU T₁ hlen
 subst e₁
 dsimp only at T₁ ⊢
 rw [if_pos rfl]
 have fm₁:=fm.to T₁ nl
 refine wpAny_allTrue_And_cons (wpAny_isTrue_Not ?_)
 show wpAny _ _ (do let v←eval (.Call (caF (r9 p)) [.Lambda (pQ (i6 p)) (jy p) (j6 p) (ao (i6 p))] [] (Expr.pos (r9 p))) env; standAt (Expr.pos (r9 p)); holding [v] (truthy v)) _ _ _
 refine wpAny_bind ?_
 refine iI S rm T₁.at' fm₁ rfl (a8 (HF p)) (xi p) (ac _ (Hw p m b args bg mn av pa k3 k4 k5 18 due ab v hv) noP rfl) (bS hlen fun F₂ s₂ fv T₂ ifv=>?_)
 cases ifv
 have T₂:=T₁.trans T₂
 have fm₂:=fm.to T₂ nl
 refine kla_eval (by rw [tB]; rfl) ?_
 have hcells:∀ {x:Str} {k:Nat},af x (cH p 38).cells=some k→∃ q,ρ[k]?=some q∧env.cells.lookup x=some q.1:=fun e=>fm₂.eok.cel _ _ e
 obtain ⟨q8,hq8,l8⟩:=hcells (x:="state") (k:=8) (by rfl)
 obtain ⟨q10,hq10,l10⟩:=hcells (x:="begin") (k:=10) (by rfl)
 obtain ⟨q11,hq11,l11⟩:=hcells (x:="arguments") (k:=11) (by rfl)
 obtain ⟨q12,hq12,l12⟩:=hcells (x:="many") (k:=12) (by rfl)
 obtain ⟨q13,hq13,l13⟩:=hcells (x:="_law_advance") (k:=13) (by rfl)
 have hclos:closureFor (j6 p) env=pure ([("state",q8.1),("many",q12.1),("begin",q10.1),("arguments",q11.1),("_law_advance",q13.1)]:List (Str×Addr)):=by
  rw [cI (by
   rw [tA]
   intro x hx hk
   rcases zC hx with rfl | rfl | rfl | rfl | rfl | rfl
   ·rw [l13]; rfl
   ·rw [l11]; rfl
   ·rw [l10]; rfl
   ·rw [l12]; rfl
   ·rw [l8]; rfl
   ·cases hk),tA]
  simp [ir,fq,l8,l10,l11,l12,l13]
 have htab₂:s₂.heap.get? TB=some (tabObj (fh p c0)):=T₂.ext.keep _ _ htab hT1 (fun z=>nomatch z)
 have hF₂:F₂ TB=none:=by
  cases q:F₂ TB with
  | none=>rfl
  | some o=>
   rcases T₂.ext.fznew _ _ q with z | z
   ·rw [hT2] at z; cases z
   ·rw [htab] at z; cases z
 have tf₂:=tf.mono T₂.ext.fz
 obtain ⟨hC,mg,hmg,hba⟩:=tf₂ _ T₂.at'.rep.le
 have hgP:mainGlobals≠TB:=by decide
 have htri:TriplesOk (fh p c0).toList:=hhit.1
 refine kla_makeFunction hclos fm₂.eok.gl hmg hcode hC htab₂ htri (Af p c0) hgP hba fun c' ctv h' tk hx hge hlt hrec htb=>?_
 generalize hfob:kla_obj "<lambda>" (env.qual++"<lambda>") (pQ (i6 p)) (jy p) (j6 p) _ _ c' ctv=fo
 have kb:dm [TB] s₂.heap (h'.push fo):=fun c o hc e=>Heap.get?_push_of_some _ (hx c o (by simpa using hc) e)
 have T₃:=To.beside (tk:=tk) T₂.at' (W:=[TB]) (h':=h'.push fo) (fun c hc=>by obtain rfl:=ak hc; exact hT1) (fun c hc=>by obtain rfl:=ak hc; exact hF₂) kb (fun c o hc e=>by
  obtain rfl:=ak hc
  exact ⟨_,Heap.get?_push_of_some _ htb⟩)
 have hav:(h'.push fo).get? h'.objs.size=some fo:=by subst hfob; exact Heap.get?_push_size _ rfl
 have hsz:s₂.heap.objs.size≤h'.objs.size:=Nat.le_trans hge (Nat.le_of_lt hlt)
 have nge:∀ {a:Addr},s₂.heap.objs.size≤a→s₂.heap.get? a=none:=fun {a} ha=>by
  cases q:s₂.heap.get? a with
  | none=>rfl
  | some o=>exact absurd (Heap.lt_size q) (Nat.not_lt.mpr ha)
 have nfoot:∀ {a},s₂.heap.get? a=none→a∉ae ρ (cwK m b args bg mn av pa k3 k4 k5):=fun {a} ha z=>by obtain ⟨y,hy⟩:=T₂.at'.rep.lt z; rw [ha] at hy; cases hy
 have elTB:env.locals≠TB:=fun z=>by
  obtain ⟨_,⟨o,_,_,ho,hd,_⟩,_⟩:=fm₂.ns
  rw [z,htab₂] at ho; cases ho; cases hd
 have fm₃:=fm₂.to T₃ (by simpa using elTB)
 obtain ⟨oc,hoc,hcr⟩:∃ oc,h'.get? c'=some oc∧∀ g:Heap,g.get? c'=some oc→g.CodeRec (.ref c') (env.qual++"<lambda>"):=by
  obtain ⟨c2,oc,vs,t,e,ho,hd,hvq⟩:=hrec
  cases e
  exact ⟨oc,ho,fun g hg=>⟨_,_,vs,t,rfl,hg,hd,hvq⟩⟩
 have hL:∀ a∈[h'.objs.size,c'],s₂.heap.get? a=none:=fun a ha=>by
  rcases fb ha with rfl | rfl
  ·exact nge hsz
  ·exact nge hge
 obtain ⟨F₄,hFF,hF1,hF2,T₄⟩:=T₃.freezeL [h'.objs.size,c'] hL (fun a ha=>nfoot (hL a ha))
 have hTL:TB∉[h'.objs.size,c']:=fun z=>by rw [hL _ z] at htab₂; cases htab₂
 have hEL:env.locals∉[h'.objs.size,c']:=fun z=>by
  obtain ⟨_,⟨o,_,_,ho,_⟩,_⟩:=fm₂.ns
  rw [hL _ z] at ho; cases ho
 have hF4av:F₄ h'.objs.size=some fo:=by rw [hF1 _ (by simp)]; exact hav
 have hF4c:F₄ c'=some oc:=by rw [hF1 _ (by simp)]; exact Heap.get?_push_of_some _ hoc
 have fm₄:Fm F₄ ρ (cwK m b args bg mn av pa k3 k4 k5) (cH p 38) env (d4 due true k4 ab) (h'.push fo):=fm₃.known (by rw [hF2 _ hEL]; exact fm₂.free)
 have hF4T:F₄ TB=none:=by rw [hF2 _ hTL]; exact hF₂
 refine ⟨T₄.at'.rep.world.inK,?_⟩
 have T₀₄:To [TB] F ρ ⟨cwK m b args bg mn av pa k3 k4 k5,15⟩ s F₄ ρ ⟨cwK m b args bg mn av pa k3 k4 k5,15⟩ { s₂ with heap:=h'.push fo,toks:=tk }:=(T₂.nil).trans T₄
 have hlam:A6 p F₄ h'.objs.size [("state",q8.1),("many",q12.1),("begin",q10.1),("arguments",q11.1),("_law_advance",q13.1)]:=by
  refine ⟨kla_fn "<lambda>" (env.qual++"<lambda>") (pQ (i6 p)) (jy p) (j6 p) _ _ (.ref c') ctv,⟨fo,hF4av,by rw [←hfob]⟩,rfl,rfl,rfl,rfl,rfl,?_,fun g hg=>hcr g (hg _ _ hF4c)⟩
  rw [tB]; rfl
 have hfo₄:aH outer F₄ ρ (cwK m b args bg mn av pa k3 k4 k5) (h'.push fo):=by
  refine hfo.to T₀₄ fun a ha z=>?_
  obtain rfl:=ak z
  obtain ⟨en,hen,he⟩:=List.mem_map.mp ha
  obtain ⟨_,_,_,_,o,es,ep,ho,hd⟩:=hfo en hen
  rw [he,htab] at ho; cases ho; cases hd
 have hall₄:aH (env::outer) F₄ ρ (⟨cwK m b args bg mn av pa k3 k4 k5,15⟩:St).σ (h'.push fo):=Fm.frame (st:=⟨cwK m b args bg mn av pa k3 k4 k5,15⟩) (s:={ s₂ with heap:=h'.push fo,toks:=tk }) fm₄ hef hfo₄
 refine yX rm hfr T₄.at' hall₄ (adv.mono fun a o e=>hFF a o (T₂.ext.fz a o e)) (pr.mono fun a o e=>hFF a o (T₂.ext.fz a o e)) hlam (fun x k e=>?_) hR hn ha hb tr hN hrip fun F₅ s₅ T₅ hsk hfx=>?_
 ·unfold i7 at e
  simp only [af] at e
  split at e
  ·rename_i q; rw [aQ] at q; subst q; cases e; exact ⟨q8,hq8,by simp⟩
  ·split at e
   ·rename_i q; rw [aQ] at q; subst q; cases e; exact ⟨q10,hq10,by rfl⟩
   ·split at e
    ·rename_i q; rw [aQ] at q; subst q; cases e; exact ⟨q11,hq11,by rfl⟩
    ·split at e
     ·rename_i q; rw [aQ] at q; subst q; cases e; exact ⟨q12,hq12,by rfl⟩
     ·split at e
      ·rename_i q; rw [aQ] at q; subst q; cases e; exact ⟨q13,hq13,by rfl⟩
      ·cases e
 ·refine wpAny_bind (wpAny_standAt (wpAny_holding (wpAny_truthy_bool ?_)))
  rw [if_neg (by simp)]
  rw [if_neg (by simp)]
  refine wpAny_execs_nil ?_
  have hel:env.locals∈frL (env::outer):=.head _
  have nTB:TB∉frL (env::outer):=fun z=>by
   obtain ⟨en,hen,he⟩:=List.mem_map.mp z
   obtain ⟨_,_,_,_,o,es,ep,ho,hd⟩:=hall₄ en hen
   have z2:(h'.push fo).get? TB=some (tabObj (fh p c0++#[rawInt (ao (i6 p)).line,rawInt (ao (i6 p)).col,.ref c'])):=Heap.get?_push_of_some _ htb
   rw [he,z2] at ho; cases ho; cases hd
  have fm₅:Fm F₅ ρ (cwK m b args bg mn av pa k3 k4 k5) (cH p 38) env (d4 due true k4 ab) s₅.heap:=
   Fm.slots fm₄ (fun o ho=>hsk env (.head _) o ho) fm₄.eok (fun _ z=>z) (hfx _ hel).1 (hfx _ hel).2
  have T₀₅:To (TB::env.locals::frL outer) F ρ ⟨cwK m b args bg mn av pa k3 k4 k5,15⟩ s F₅ ρ ⟨cwK m b args bg mn av pa k3 k4 k5,15⟩ s₅:=(T₀₄.weaken (by simp)).trans (T₅.weaken (fun a ha=>.tail _ ha))
  refine h F₅ s₅ _ T₀₅ fm₅ (T₅.ext.keep _ _ (Heap.get?_push_of_some _ htb) hT1 nTB) ?_ ⟨?_,c0,?_,fun g hg=>?_⟩ fun en hen o ho=>?_
  ·cases q:F₅ TB with
   | none=>rfl
   | some o=>
    rcases T₅.ext.fznew _ _ q with z | z
    ·rw [hF4T] at z; cases z
    ·have z2:(h'.push fo).get? TB=some (tabObj (fh p c0++#[rawInt (ao (i6 p)).line,rawInt (ao (i6 p)).col,.ref c'])):=Heap.get?_push_of_some _ htb
     have z:(h'.push fo).get? TB=none:=z
     rw [z2] at z; cases z
  ·simp [fh,TriplesOk,rawInt]
  ·simp [fh,codeAmong,rawInt]
  ·obtain ⟨_,c1,hc1,hr1⟩:=hhit
   have e:codeAmong (mo p) (fh p c0).toList=some (.ref c0):=by simp [fh,codeAmong,rawInt]
   rw [e] at hc1; cases hc1
   exact hr1 g fun a o e=>hg a o (T₀₅.ext.fz a o e)
  ·obtain ⟨_,_,z3,_,o',es,ep,ho',hd⟩:=hfo en hen
   rw [ho] at ho'; cases ho'
   have nt:en.locals∉[TB]:=fun z=>by
    rw [List.mem_singleton] at z
    rw [z,htab] at ho; cases ho; cases hd
   exact hsk en (.tail _ hen) o (T₀₄.ext.keep _ _ ho z3 nt)
end
end
section
section
theorem To.freezeX {ρ₀:Rho}{st₀:St}{s₀:Shared}{F₀:Fz}(t:To X F₀ ρ₀ st₀ s₀ F ρ st s)(a₀:At F₀ ρ₀ st₀ s₀)(ids:List Nat)(hk:be ids st₀.σ st.σ=true) :
  ∃ F',(∀ a o,F a=some o→F' a=some o)∧(∀ a,a∉ae ρ st.σ→F' a=F a)∧To X F₀ ρ₀ st₀ s₀ F' ρ ⟨aW ids st.σ,st.nx⟩ s:=by
 let L:Addr→Prop:=fun a=>∃ e∈st.σ,ids.any (Nat.beq e.1)=true∧∃ p,ρ[e.1]?=some p∧a∈aN p e.2
 have hLf:∀ {a},L a→a∈ae ρ st.σ:=fun ⟨e,he,_,p,hp,ha⟩=>aw.mpr ⟨e,he,p,hp,ha⟩
 classical
 let F':Fz:=fun a=>if L a then s.heap.get? a else F a
 have at':=t.at'
 have hFF:∀ a o,F a=some o→F' a=some o:=fun a o e=>by
  show (if L a then s.heap.get? a else F a)=some o
  split
  ·exact at'.rep.le a o e
  ·exact e
 have fle:∀ {h'},F'.le h'→F.le h':=fun hh a o e=>hh a o (hFF a o e)
 have sub:=eF (ρ:=ρ) (ids:=ids) (σ:=st.σ)
 have nL:∀ a∈ae ρ (aW ids st.σ),¬ L a:=fun a ha h=>h.elim fun e h=>h.2.2.elim fun p z=>i9 at'.rep.nodup ha e h.1 h.2.1 p z.1 z.2
 refine ⟨F',hFF,fun a ha=>if_neg (fun z=>ha (hLf z)),⟨⟨?_,fun h' hh=>at'.rep.wd h' (fle hh),fun e he=>?_,fun e he o eo p hp h' hh=>?_,at'.rep.nodup.sublist sub,fun a ha=>?_⟩,at'.len⟩,⟨t.ext.pre,t.ext.keep,fun a ha=>t.ext.new a (sub.subset ha),fun a o e=>hFF a o (t.ext.fz a o e),fun a o e=>?_,t.ext.live⟩,t.sh⟩
 ·intro a o e
  have e:(if L a then s.heap.get? a else F a)=some o:=e
  split at e
  ·exact e
  ·exact at'.rep.le a o e
 ·rcases gO he with z | ⟨o,z1,z2,_⟩
  ·exact at'.rep.ok e z
  ·obtain ⟨p,hp,O⟩:=at'.rep.ok _ z1
   exact ⟨p,hp,by rw [z2]; exact O⟩
 ·rcases gO he with z | ⟨o',z1,z2,z3,z4⟩
  ·exact at'.rep.ro e z o eo p hp h' (fle hh)
  ·rw [eo] at z2; cases z2
   obtain ⟨p',hp',O⟩:=at'.rep.ok _ z1
   rw [hp] at hp'; cases hp'
   refine O.keep fun b x hb e'=>hh b x ?_
   show (if L b then s.heap.get? b else F b)=some x
   have:L b:=⟨_,z1,z3,p,hp,by cases o<;>first | exact hb | exact absurd rfl (z4 _)⟩
   rw [if_pos this]; exact e'
 ·show (if L a then s.heap.get? a else F a)=none
  rw [if_neg (nL a ha)]
  exact at'.rep.free a (sub.subset ha)
 ·have e:(if L a then s.heap.get? a else F a)=some o:=e
  split at e
  ·rename_i hL
   right
   rcases t.ext.new a (hLf hL) with z | z
   ·exfalso
    obtain ⟨e₀,he₀,p₀,hp₀,ha₀⟩:=aw.mp z
    have:=dQ hk e₀ he₀
    rcases Bool.or_eq_true_iff.mp this with k | k
    ·have k:=iY k
     have:aN p₀ e₀.2=[]:=by
      obtain ⟨k0,o0⟩:=e₀
      cases o0<;>first | rfl | exact absurd k (Nat.succ_ne_zero _)
     rw [this] at ha₀; cases ha₀
    ·obtain ⟨k1,k2⟩:=dw k
     split at k2
     ·rename_i o' ho'
      have k2:=iY k2
      obtain ⟨τ,eτ⟩:=t.ext.pre
      have hp':ρ[e₀.1]?=some p₀:=by rw [eτ]; exact bx hp₀
      have ha':a∈aN p₀ o':=by rw [lj k2]; exact ha₀
      obtain ⟨e,he,q,p,hp,hap⟩:=hL
      have hm:=aL ho'
      have:∀ {σ:Hp},(ae ρ σ).Nodup→(e₀.1,o')∈σ→e∈σ→(e₀.1,o')=e∨False:=by
       intro σ
       induction σ with
       | nil=>intro _ h; cases h
       | cons x r ih=>
        intro nd h1 h2
        unfold ae at nd
        obtain ⟨n1,n2,n3⟩:=List.nodup_append.mp nd
        rcases aJ h1 with z1 | z1
        ·rcases aJ h2 with z2 | z2
         ·left; rw [z1,z2]
         ·right
          rw [←z1] at n3
          dsimp only at n3
          rw [hp'] at n3
          exact n3 a ha' a (aw.mpr ⟨e,z2,p,hp,hap⟩) rfl
        ·rcases aJ h2 with z2 | z2
         ·right
          rw [←z2,hp] at n3
          exact n3 a hap a (aw.mpr ⟨_,z1,p₀,hp',ha'⟩) rfl
         ·exact ih n2 z1 z2
      rcases this at'.rep.nodup hm he with z' | z'
      ·rw [←z'] at q
       rw [q] at k1; cases k1
      ·exact z'
     ·cases k2
   ·exact z
  ·exact t.ext.fznew a o e
end
end
section
noncomputable def mcW (m:M)(b:Int)(args:List Int):Hp:=cbH m b args++roH
noncomputable def D5 (m:M)(b:Int)(args:List Int)(bg mn:Int)(pa:Addr):Hp:=[(8,.cell (some (.ref 0))),(9,.cell (some (.sta pa))),(10,.cell (some (.uint bg))),(11,.cell (some (.ref 7))),(12,.cell (some (.uint mn))),(13,.cell none)]++mcW m b args
noncomputable def AR (m:M)(b:Int)(args:List Int)(bg mn:Int)(av pa:Addr):Hp:=[(8,.cell (some (.ref 0))),(9,.cell (some (.sta pa))),(10,.cell (some (.uint bg))),(11,.cell (some (.ref 7))),(12,.cell (some (.uint mn))),(13,.cell (some (.sta av)))]++mcW m b args
theorem tN (m:M)(b:Int)(args:List Int)(bg mn:Int)(av pa:Addr):(sq bg mn av pa++mcW m b args).Perm (cwH m b args bg mn av pa):=by
 unfold cwH mcW
 rw [show cbH m b args++(roH++sq bg mn av pa)=(cbH m b args++roH)++sq bg mn av pa from (List.append_assoc ..).symm]
 exact List.perm_append_comm
section
theorem bq.of {outer:List Env}{X:List Addr}{h':Heap}(f:aH outer F ρ st.σ s.heap)(T:To X F ρ st s F' ρ' st' s')(hX:∀ a∈frL outer,a∉X):bq outer s.heap s'.heap:=fun en hen o ho=>by
 obtain ⟨_,_,z3,_⟩:=f en hen
 exact ⟨o.slots,T.ext.keep _ _ ho z3 (hX _ (List.mem_map_of_mem hen))⟩
theorem bq.trans {outer:List Env}{h h' h'':Heap}(f:bq outer h h')(g:bq outer h' h''):bq outer h h'':=fun en hen o ho=>by
 obtain ⟨sl,e⟩:=f en hen o ho
 obtain ⟨sl',e'⟩:=g en hen _ e
 exact ⟨sl',e'⟩
set_option maxHeartbeats 4000000 in
theorem AO {sh:Bool}{m m':M}{b bg mn due:Int}{args:List Int}{pa:Addr}{ps:Array Value}{q0 q7:Addr×Addr}{P:Prg}{N:Nat}{outer:List Env}{t1 t2 t3:Tok}{Q:Value→Shared→Prop}(rm:aj 39 A)(hfr:A.frames=some outer)
  (at':At F ρ ⟨mcW m b args,8⟩ s) (hq0:ρ[0]?=some q0) (hq7:ρ[7]?=some q7) (hfo:aH outer F ρ (mcW m b args) s.heap)
  (tf:l9 F) (htab:s.heap.get? TB=some (tabObj ps)) (hT1:TB∉ae ρ (mcW m b args)) (hT2:F TB=none) (hps:ps=#[]∨d5 p F ps) (hsh:sh=true→ps=#[]) (pr:dB F pa P)
  (hR:m.R.length=16) (hf0:∀ i,0≤m.f i∧m.f i<256) (hn:m.n+8*(bF args).length+16≤100000) (ha:args.length≤100000) (hb:(ck args).length≤100000) (hbA:(gp args).length≤100000)
  (hshort:sh=true→∃ N₁ m₁,mn - 1=((N₁:Nat):Int)∧cZ P N₁ (cY m args bg) m₁∧m₁.rip≠RP)
  (tr:cZ P N (cY m args bg) m') (hmn:mn=(N:Int)) (hrip:m'.rip=RP) (hR':m'.R.length=16) (hdue:due=rg (m'.R.set 4 (rg m.R 4)) 0)
  (h3:rg (m'.R.set 4 (rg m.R 4)) 3=rg m.R 3) (h5:rg (m'.R.set 4 (rg m.R 4)) 5=rg m.R 5) (hf:∀ i,0≤m'.f i∧m'.f i<256) (hoct:ocV m'.f (rg m.R 4)=ocV m.f (rg m.R 4))
  (hlate:∀ (i:Nat) wo,(gp args)[i]?=some wo→al8 m'.f (rg m.R 4) args.length (i:Nat)=wo.fmod me)
  (h:∀ F' s' b' ps',To (TB::frL outer) F ρ ⟨mcW m b args,8⟩ s F' ρ ⟨mcW ⟨m'.R.set 4 (rg m.R 4),m'.f,m'.n,m'.rip⟩ b' args,8⟩ s'→s'.heap.get? TB=some (tabObj ps')→F' TB=none→d5 p F' ps'→bq outer s.heap s'.heap→Q (.bool true) s') :
  wpAny (model prog w) A (call (.ref 1122) [.ref q0.1,.ref pa,.int bg t1,.ref q7.1,.int due t2,.int mn t3,.bool sh]) Q E s:=by
 have hlen:ρ.length=8:=at'.len
 obtain ⟨v,hv,S⟩:=dj
 obtain ⟨fd,fn,hsc,hcd,hqu⟩:=hM (D4 p) at'.rep.world.inK
 rw [xM] at fn
 refine gk (d:=38) (args:=[.ref 0,.sta pa,.uint bg,.ref 7,.uint due,.uint mn,.bool sh]) crN rm at' fn (by rw [hsc]; exact xL p) (by rfl') (by rfl')
  (.cons ⟨q0,hq0,rfl⟩ (.cons rfl (.cons ⟨t1,rfl⟩ (.cons ⟨q7,hq7,rfl⟩ (.cons ⟨t2,rfl⟩ (.cons ⟨t3,rfl⟩ (.cons rfl .nil))))))) rfl fun env s₀ cs hcs T₀ fm₀ nw rm' hef he=>?_
 have hcs:cs.length=6:=hcs
 have hcode:env.code=.ref 1121:=by rw [he]; show fd.code=_; rw [hcd]; exact AN p
 have hqual:env.qual=iV ((an p).lookup 1122)++".<locals>.":=by rw [he]; show fd.qualname++_=_; rw [hqu]
 have hfr':(A.deeper env).frames=some (env::outer):=Around.frames_deeper hfr
 rw [hsc] at fm₀
 generalize hρ1:ρ++dc cs=ρ1 at T₀ fm₀
 have hl1:ρ1.length=14:=by rw [←hρ1,List.length_append,hlen]; simp [dc,hcs]
 have T₀:To [] F ρ ⟨mcW m b args,8⟩ s F ρ1 ⟨D5 m b args bg mn pa,14⟩ s₀:=T₀
 have fm₀:Fm F ρ1 (D5 m b args bg mn pa) (cH p 38) env (crL due sh) s₀.heap:=fm₀
 have nl:=@noA env.locals
 have htab₀:s₀.heap.get? TB=some (tabObj ps):=T₀.ext.keep _ _ htab hT1 (fun z=>nomatch z)
 have nTB:∀ {ρ':Rho} {st':St} {F':Fz} {s':Shared} {X:List Addr},To X F ρ ⟨mcW m b args,8⟩ s F' ρ' st' s'→TB∉ae ρ' st'.σ:=fun T z=>by
  rcases T.ext.new _ z with z | z
  ·exact hT1 z
  ·rw [htab] at z; cases z
 have nTF:∀ {ρ':Rho} {st':St} {F':Fz} {s':Shared} {X:List Addr},To X F ρ ⟨mcW m b args,8⟩ s F' ρ' st' s'→F' TB=none:=fun {ρ' st' F' s' X} T=>by
  cases q:F' TB with
  | none=>rfl
  | some o=>
   rcases T.ext.fznew _ _ q with z | z
   ·rw [hT2] at z; cases z
   ·rw [htab] at z; cases z
 show wpAny _ _ (execs (crB p) env) _ _ _
 rw [AP]
 obtain ⟨q9,hq9⟩:∃ q,ρ1[9]?=some q:=⟨_,List.getElem?_eq_getElem (by omega)⟩
 refine wpAny_execs_cons (B2 (k9:=9) (k13:=13) T₀.at' fm₀ (by rfl) hq9 (by rfl) (by rfl') (by rfl) hcode hqual tf htab₀ (nTB T₀) (nTF T₀) hps fun F₁ s₁ av ps' T₁ fm₁ adv htab₁ hF₁ hhit₁ hps'=>?_)
 have T₁:To [TB,env.locals] F ρ1 ⟨D5 m b args bg mn pa,14⟩ s₀ F₁ ρ1 ⟨AR m b args bg mn av pa,14⟩ s₁:=T₁
 have fm₁:Fm F₁ ρ1 (AR m b args bg mn av pa) (cH p 38) env (crL due sh) s₁.heap:=fm₁
 have T₀₁:=(T₀.nil (X:=[TB,env.locals])).trans T₁
 obtain ⟨F₂,hFF,hFout,T₂⟩:=T₀₁.freezeX at' [9] (by rfl')
 have T₂:To [TB,env.locals] F ρ ⟨mcW m b args,8⟩ s F₂ ρ1 ⟨sq bg mn av pa++mcW m b args,14⟩ s₁:=T₂
 have T₂:=T₂.perm (tN m b args bg mn av pa)
 have fm₂:Fm F₂ ρ1 (cwH m b args bg mn av pa) (cH p 38) env (crL due sh) s₁.heap:=by
  have hsub:∀ a∈ae ρ1 (sq bg mn av pa++mcW m b args),a∈ae ρ1 (AR m b args bg mn av pa):=fun a ha=>eF (ids:=[9]) (σ:=AR m b args bg mn av pa) |>.subset ha
  exact ((fm₁.known (by rw [hFout _ fm₁.out]; exact fm₁.free)).sub hsub).perm (tN m b args bg mn av pa)
 have adv₂:iM p F₂ av pa:=by
  obtain ⟨fdv,⟨ov,hov,hdv⟩,hfn,hscv,hclv⟩:=adv
  have hm9:((9,SO.ro (.cell (some (.sta pa)))):Nat×SO)∈cwH m b args bg mn av pa:=by
   unfold cwH
   refine List.mem_append_right _ (List.mem_append_right _ ?_)
   exact .tail _ (.head _)
  obtain ⟨q,hq,O⟩:=T₂.at'.rep.ok _ hm9
  have hq:ρ1[9]?=some q:=hq
  rw [hq9] at hq; cases hq
  obtain ⟨oc,cv,hoc,hdc,hcv⟩:=O
  obtain ⟨o9,hF9⟩:=eG T₂.at'.rep.le (a:=q9.1) fun g hg=>by
   obtain ⟨o,c,ho,_⟩:=T₂.at'.rep.ro _ hm9 _ rfl _ hq9 g hg
   exact ⟨o,ho⟩
  have:=T₂.at'.rep.le _ _ hF9
  rw [hoc] at this; cases this
  refine ⟨fdv,q9.1,fun g hg=>hfn g fun a o e=>hg a o (hFF a o e),hscv,hclv,oc,hF9,?_⟩
  rw [hdc]
  cases cv with
  | none=>exact hcv.elim
  | some x=>have:x=.ref pa:=hcv; rw [this]
 have tf₂:=tf.mono T₂.ext.fz
 have pr₂:=pr.mono T₂.ext.fz
 have hhit₂:d5 p F₂ ps':=by
  obtain ⟨a1,c',a2,a3⟩:=hhit₁
  exact ⟨a1,c',a2,fun g hg=>a3 g fun a o e=>hg a o (hFF a o e)⟩
 have c3:bX 3:=⟨by decide,by decide⟩
 have c4:bX 4:=⟨by decide,by decide⟩
 have c5:bX 5:=⟨by decide,by decide⟩
 refine wpAny_execs_cons ?_
 rw [HC]
 refine hS (m:=crL due sh) (cx:=cH p 38) (names:=["kept","top"]) rm'.hand (D2 p) fm₂.eok.sc (D1 p) (Ht p) ?_
 refine S.e rm' T₂.at' fm₂ (ac _ (JO p m b args bg mn av pa 18 due sh v hv) (fun P hP=>by
  exact bC hP (aR hR c3) fun hP=>bC hP (aR hR c4) fun hP=>bC hP (aR hR c5) fun hP=>bC hP (aR hR c4) fun hP=>nomatch hP) fun F₃ ρ₃ s₃ xv T₃ ixv=>?_)
 dsimp only at T₃ ixv
 have fm₃:=fm₂.to T₃ nl
 obtain ⟨τ₃,eτ₃⟩:=T₃.ext.pre
 obtain ⟨q14,q15,rfl⟩:=w5 (Nat.add_left_cancel (show _+τ₃.length=_+2 from (by have:=T₃.at'.len; rw [eτ₃,List.length_append,hl1] at this; exact this)))
 subst eτ₃
 refine ⟨F₃,_,_,15,[.ref 14,.uint (rg m.R 4)],T₃.at',fm₃,ixv,by rfl,rfl,fun s₄ T₄ fm₄=>?_⟩
 generalize hk3:rg m.R 3=k3 at *
 generalize hk4:rg m.R 4=k4 at *
 generalize hk5:rg m.R 5=k5 at *
 have fm₄:Fm F₃ (ρ1++[q14,q15]) ((15,.tup [.ref 14,.uint k4])::(14,.tup [.uint k3,.uint k4,.uint k5])::cwH m b args bg mn av pa) (cH p 38) env (AQ due sh k4) s₄.heap:=fm₄
 have T₀₄:=(T₂.trans (T₃.nil (X:=[TB,env.locals]))).trans (T₄.weaken (Y:=[TB,env.locals]) (by simp))
 have e2:ρ1++[q14,q15]=(ρ1++[q14])++[q15]:=by simp
 rw [e2] at T₀₄ fm₄
 have hl2:(ρ1++[q14]).length=15:=by simp [hl1]
 have htr:trim 15 ((15,SO.tup [.ref 14,.uint k4])::(14,.tup [.uint k3,.uint k4,.uint k5])::cwH m b args bg mn av pa)=(14,.tup [.uint k3,.uint k4,.uint k5])::cwH m b args bg mn av pa:=by rfl'
 have hpm:((14,SO.tup [.uint k3,.uint k4,.uint k5])::cwH m b args bg mn av pa).Perm (cwK m b args bg mn av pa k3 k4 k5):=by
  unfold cwK kpH
  exact (List.perm_append_comm (l₁:=[(14,SO.tup [.uint k3,.uint k4,.uint k5])]))
 have T₀₅:=T₀₄.trim hl2 (by dsimp only; rw [htr]; rfl') ⟨dc cs++[q14],by rw [←hρ1]; simp⟩
 dsimp only at T₀₅
 rw [htr] at T₀₅
 have T₀₅:=T₀₅.perm hpm
 have fm₅:Fm F₃ (ρ1++[q14]) (cwK m b args bg mn av pa k3 k4 k5) (cH p 38) env (AQ due sh k4) s₄.heap:=
  Fm.perm (fm₄.cut (σ':=(14,.tup [.uint k3,.uint k4,.uint k5])::cwH m b args bg mn av pa) (by rw [hl2]; rfl') (by rw [hl2]; rfl') (by rw [←htr]; exact gY hl2)) hpm
 have htab₅:s₄.heap.get? TB=some (tabObj ps'):=T₄.ext.keep _ _ (T₃.ext.keep _ _ htab₁ (nTB T₂) (fun z=>nomatch z)) (nTB (T₂.trans (T₃.nil (X:=[TB,env.locals])))) (by
  intro z
  rw [List.mem_singleton] at z
  obtain ⟨_,⟨o,_,_,ho,hd,_⟩,_⟩:=fm₂.ns
  rw [←z,htab₁] at ho; cases ho; cases hd)
 refine wpAny_execs_cons (S.s rm' T₀₅.at' fm₅ (ac _ (JN p m b args bg mn av pa k3 k4 k5 18 due sh v hv) (fun P hP=>by
  obtain rfl:=ak hP; exact hf0) (dz hl2 fun F₆ s₆ f T₆ fm₆ hfl=>?_)))
 cases hfl
 dsimp only at T₆ fm₆ ⊢
 have T₀₆:To [TB,env.locals] F ρ ⟨mcW m b args,8⟩ s F₆ (ρ1++[q14]) ⟨cwK m b args bg mn av pa k3 k4 k5,15⟩ s₆:=T₀₅.trans (T₆.weaken (by simp))
 have elTB:env.locals≠TB:=fun z=>by rw [z] at nw; rw [nw] at htab; cases htab
 have htab₆:s₆.heap.get? TB=some (tabObj ps'):=T₆.ext.keep _ _ htab₅ (nTB T₀₅) (by simpa using Ne.symm elTB)
 have kF:Fz.Sub F₂ F₆:=fun a o e=>T₆.ext.fz a o (T₃.ext.fz a o e)
 have hhit₆:d5 p F₆ ps':=by
  obtain ⟨a1,c',a2,a3⟩:=hhit₂
  exact ⟨a1,c',a2,fun g hg=>a3 g fun a o e=>hg a o (kF a o e)⟩
 have hfo₆:aH outer F₆ (ρ1++[q14]) (cwK m b args bg mn av pa k3 k4 k5) s₆.heap:=by
  refine hfo.to (T₀₆.weaken (Y:=[TB,env.locals]) (fun _ h=>h)) fun a ha z=>?_
  obtain ⟨en,hen,he'⟩:=List.mem_map.mp ha
  obtain ⟨_,_,_,_,o,es,ep,ho,hd⟩:=hfo en hen
  rw [he'] at ho
  rcases fb z with rfl | rfl
  ·rw [htab] at ho; cases ho; cases hd
  ·rw [nw] at ho; cases ho
 have hsk₆:bq outer s.heap s₆.heap:=bq.of (h':=s₆.heap) hfo T₀₆ fun a ha z=>by
  obtain ⟨en,hen,he'⟩:=List.mem_map.mp ha
  obtain ⟨_,_,_,_,o,es,ep,ho,hd⟩:=hfo en hen
  rw [he'] at ho
  rcases fb z with rfl | rfl
  ·rw [htab] at ho; cases ho; cases hd
  ·rw [nw] at ho; cases ho
 have rest:∀ {F₇:Fz} {s₇:Shared} {ps₇:Array Value},To (TB::env.locals::frL outer) F ρ ⟨mcW m b args,8⟩ s F₇ (ρ1++[q14]) ⟨cwK m b args bg mn av pa k3 k4 k5,15⟩ s₇→Fm F₇ (ρ1++[q14]) (cwK m b args bg mn av pa k3 k4 k5) (cH p 38) env (d4 due sh k4 (byteArr (ocV m.f k4))) s₇.heap→
   s₇.heap.get? TB=some (tabObj ps₇)→d5 p F₇ ps₇→Fz.Sub F₂ F₇→bq outer s.heap s₇.heap→aH outer F₇ (ρ1++[q14]) (cwK m b args bg mn av pa k3 k4 k5) s₇.heap→
   wpAny (model prog w) (A.deeper env) (execs (ad 4 (crB p)::ad 5 (crB p)::ad 6 (crB p)::(crB p).drop 7) env) (fun fl s'=>Q (iS fl) s') (pi A env E) s₇:=by
  intro F₇ s₇ ps₇ T₇ fm₇ htab₇ hhit₇ kF₇ hsk₇ hfo₇
  rw [←qu]
  refine AM rm' T₇.at' fm₇ (adv₂.mono kF₇) (pr₂.mono kF₇) hR hn ha hb hbA tr hmn hrip hR' (by rw [hdue,hk4]) (by rw [hk4]; exact h3) (by rw [hk4]; simp [rg,hR']) (by rw [hk4]; exact h5) hf (by rw [hoct]) hlate fun F₈ s₈ b₈ T₈=>?_
  rw [hk4] at T₈
  have TT:=T₇.trans (T₈.weaken (Y:=TB::env.locals::frL outer) (by simp))
  generalize hm3:(⟨m'.R.set 4 k4,m'.f,m'.n,m'.rip⟩:M)=m3 at *
  have htr8:trim 8 (cwK m3 b₈ args bg mn av pa k3 k4 k5)=mcW m3 b₈ args:=by rfl'
  have eρ8:ρ1++[q14]=ρ++(dc cs++[q14]):=by rw [←hρ1]; simp
  rw [eρ8] at TT
  have TU:=TT.trim hlen (by dsimp only; rw [htr8]; rfl') ⟨[],by simp⟩
  dsimp only at TU
  rw [htr8] at TU
  have TV:To (TB::frL outer) F ρ ⟨mcW m b args,8⟩ s F₈ ρ ⟨mcW m3 b₈ args,8⟩ s₈:=⟨TU.at',TU.ext.drop fun a ha=>by
   rcases aJ ha with rfl | ha
   ·exact .inl (.head _)
   ·rcases aJ ha with rfl | ha
    ·exact .inr nw
    ·exact .inl (.tail _ ha),TU.sh⟩
  have kF₈:Fz.Sub F₇ F₈:=T₈.ext.fz
  refine h F₈ s₈ b₈ ps₇ TV (T₈.ext.keep _ _ htab₇ (nTB T₇) (by simpa using Ne.symm elTB)) (nTF TV) ?_ (hsk₇.trans (bq.of (h':=s₈.heap) hfo₇ T₈ fun a ha z=>?_))
  ·obtain ⟨a1,c',a2,a3⟩:=hhit₇
   exact ⟨a1,c',a2,fun g hg=>a3 g fun a o e=>hg a o (kF₈ a o e)⟩
  ·obtain rfl:=ak z
   obtain ⟨en,hen,he'⟩:=List.mem_map.mp ha
   obtain ⟨_,_,_,_,o,es,ep,ho,hd⟩:=hfo en hen
   rw [he',nw] at ho; cases ho
 cases sh with
 | false=>
  refine wpAny_execs_cons (S.s rm' T₀₆.at' fm₆ (ac _ (JM p m b args bg mn av pa k3 k4 k5 18 due (byteArr (ocV m.f k4)) v hv) noP (dz hl2 fun F₇ s₇ f T₇ fm₇ hfl=>?_)))
  cases hfl
  dsimp only at T₇ fm₇ ⊢
  have nfr:∀ a∈frL outer,a∉[env.locals]:=fun a ha z=>by
   obtain rfl:=ak z
   obtain ⟨en,hen,he'⟩:=List.mem_map.mp ha
   obtain ⟨_,_,_,_,o,es,ep,ho,hd⟩:=hfo en hen
   rw [he',nw] at ho; cases ho
  refine rest ((T₀₆.weaken (by simp)).trans (T₇.weaken (by simp))) fm₇ (T₇.ext.keep _ _ htab₆ (nTB T₀₆) (by simpa using Ne.symm elTB)) ?_ (fun a o e=>T₇.ext.fz a o (kF a o e)) (hsk₆.trans (bq.of (h':=s₇.heap) hfo₆ T₇ nfr)) (hfo₆.to T₇ nfr)
  obtain ⟨a1,c',a2,a3⟩:=hhit₆
  exact ⟨a1,c',a2,fun g hg=>a3 g fun a o e=>hg a o (T₇.ext.fz a o e)⟩
 | true=>
  obtain ⟨N₁,m₁,hN₁,tr₁,hr₁⟩:=hshort rfl
  obtain ⟨c0,hc0⟩:=hps' (hsh rfl)
  subst hc0
  refine wpAny_execs_cons (Hq rm' hfr' hef hcode T₀₆.at' fm₆ hfo₆ (tf₂.mono kF) htab₆ (nTB T₀₆) (nTF T₀₆) hhit₆ (adv₂.mono kF) (pr₂.mono kF) hR hn ha hb tr₁ hN₁ hr₁ fun F₇ s₇ ps₇ T₇ fm₇ htab₇ hF₇ hhit₇ hsk₇=>?_)
  refine rest ((T₀₆.weaken (by simp)).trans T₇) fm₇ htab₇ hhit₇ (fun a o e=>T₇.ext.fz a o (kF a o e)) (hsk₆.trans hsk₇) fun en hen=>?_
  obtain ⟨z1,z2,z3,z4,o,es,ep,ho,hd⟩:=hfo₆ en hen
  obtain ⟨sl,e⟩:=hsk₇ en hen o ho
  obtain ⟨y3,y4⟩:=T₇.outside ho ⟨z3,z4⟩
  exact ⟨z1,z2,y3,y4,_,es,ep,e,hd⟩
end
end
section
section
structure ToU (X:List Addr)(F:Fz)(ρ:Rho)(st:St)(s:Shared)(F':Fz)(ρ':Rho)(st':St)(s':Shared):Prop where
 at':At F' ρ' st' s'
 keep:∀ b o,s.heap.get? b=some o→b∉ae ρ st.σ→b∉X→s'.heap.get? b=some o
 new:∀ a∈ae ρ' st'.σ,a∈ae ρ st.σ∨s.heap.get? a=none
 fz:∀ a o,F a=some o→F' a=some o
 fznew:∀ a o,F' a=some o→F a=some o∨s.heap.get? a=none
 live:∀ b o,s.heap.get? b=some o→∃ o',s'.heap.get? b=some o'
 sh:s'={ s with heap:=s'.heap,toks:=s'.toks }
end
section
variable {ρ'':Rho}{st'':St}{s'':Shared}{Y:List Addr}
theorem To.u (T:To X F ρ st s F' ρ' st' s'):ToU X F ρ st s F' ρ' st' s':=⟨T.at',T.ext.keep,T.ext.new,T.ext.fz,T.ext.fznew,T.ext.live,T.sh⟩
theorem ToU.to (T:ToU X F ρ st s F' (ρ++τ) st' s'):To X F ρ st s F' (ρ++τ) st' s':=⟨T.at',⟨⟨τ,rfl⟩,T.keep,T.new,T.fz,T.fznew,T.live⟩,T.sh⟩
theorem ToU.to0 (T:ToU X F ρ st s F' ρ st' s'):To X F ρ st s F' ρ st' s':=⟨T.at',⟨⟨[],by simp⟩,T.keep,T.new,T.fz,T.fznew,T.live⟩,T.sh⟩
theorem ToU.trans (x:ToU X F ρ st s F' ρ' st' s')(y:ToU X F' ρ' st' s' F'' ρ'' st'' s''):ToU X F ρ st s F'' ρ'' st'' s'':=by
 refine ⟨y.at',?_,?_,fun a o e=>y.fz a o (x.fz a o e),?_,fun b o e=>let ⟨o',e'⟩:=x.live b o e; y.live b o' e',by rw [y.sh,x.sh]⟩
 ·intro b o e nb nx
  refine y.keep b o (x.keep b o e nb nx) (fun q=>?_) nx
  rcases x.new b q with z | z
  ·exact nb z
  ·rw [z] at e; cases e
 ·intro a ha
  rcases y.new a ha with z | z
  ·exact x.new a z
  ·right
   cases e:s.heap.get? a with
   | none=>rfl
   | some o=>obtain ⟨o',e'⟩:=x.live a o e; rw [e'] at z; cases z
 ·intro a o e
  rcases y.fznew a o e with z | z
  ·exact x.fznew a o z
  ·right
   cases e':s.heap.get? a with
   | none=>rfl
   | some o'=>
    obtain ⟨o'',e''⟩:=x.live a o' e'
    rw [e''] at z; cases z
theorem ToU.weaken (x:ToU X F ρ st s F' ρ' st' s')(h:∀ a∈X,a∈Y):ToU Y F ρ st s F' ρ' st' s':=⟨x.at',fun b o e nb ny=>x.keep b o e nb fun q=>ny (h b q),x.new,x.fz,x.fznew,x.live,x.sh⟩
theorem ToU.nil (x:ToU [] F ρ st s F' ρ' st' s'):ToU X F ρ st s F' ρ' st' s':=x.weaken fun _ h=>nomatch h
theorem ToU.drop (x:ToU X F ρ st s F' ρ' st' s')(h:∀ a∈X,a∈Y∨s.heap.get? a=none):ToU Y F ρ st s F' ρ' st' s':=
 ⟨x.at',fun b o e nb ny=>x.keep b o e nb fun q=>(h b q).elim ny fun z=>(by rw [z] at e; cases e),x.new,x.fz,x.fznew,x.live,x.sh⟩
theorem ToU.sub (T:ToU X F ρ st s F' ρ' st' s')(a:At F' ρ'' st'' s')(h:∀ a∈ae ρ'' st''.σ,a∈ae ρ' st'.σ):ToU X F ρ st s F' ρ'' st'' s':=
 ⟨a,T.keep,fun b hb=>T.new b (h b hb),T.fz,T.fznew,T.live,T.sh⟩
theorem Fm.u {h:Heap}(fm:Fm F ρ st.σ cx env m s.heap)(T:ToU X F ρ st s F' ρ st' s')(hX:env.locals∉X):Fm F' ρ st'.σ cx env m s'.heap:=fm.to T.to0 hX
structure yw (cx:Cx)(env:Env)(W:List Addr)(n:Nat)(It:Nat→Heap→Prop)(J:Nat→Fz→Rho→St→Loc→Prop)(F₀:Fz)(ρ₀:Rho)(st₀:St)(s₀:Shared)(k:Nat)(s:Shared):Prop where
 all:∃ i F ρ st m,i+k=n∧ToU (env.locals::W) F₀ ρ₀ st₀ s₀ F ρ st s∧Fm F ρ st.σ cx env m s.heap∧J i F ρ st m∧It i s.heap∧(∀ c∈W,c∉ae ρ st.σ)∧(∀ c∈W,F c=none)
theorem xC {t:Expr}{it:Value}{body:List Stmt}{W:List Addr}{n:Nat}{Items:Nat→Value→Heap→Prop}{It:Nat→Heap→Prop}{F₀:Fz}(P:ee A F₀ t it W n Items It){J:Nat→Fz→Rho→St→Loc→Prop}{Q:Flow→Shared→Prop}
  {ρ₀:Rho} {st₀:St} {s₀:Shared} (hW:∀ c∈W,s₀.heap.get? c=none) (al:∃ o,s₀.heap.get? env.locals=some o)
  (step:∀ {i F ρ st m s v E},i<n→At F ρ st s→Fm F ρ st.σ cx env m s.heap→J i F ρ st m→Items i v s.heap→(∀ a o,F₀ a=some o→F a=some o)→
   wpAny (model prog w) A (assign t env v) (fun _ s₂=>wpAny (model prog w) A (execs body env) (fun f s₃=>(f=.next∨f=.cont)∧∃ F' ρ' st' m',ToU [env.locals] F ρ st s F' ρ' st' s₃∧Fm F' ρ' st'.σ cx env m' s₃.heap∧J (i+1) F' ρ' st' m') E s₂) E s)
  (fin:∀ {F ρ st m s},ToU [env.locals] F₀ ρ₀ st₀ s₀ F ρ st s→Fm F ρ st.σ cx env m s.heap→J n F ρ st m→Q .next s)
  (T:ToU (env.locals::W) F₀ ρ₀ st₀ s₀ F ρ st s) (fm:Fm F ρ st.σ cx env m s.heap) (hJ:J 0 F ρ st m) (hI:It 0 s.heap) (hout:∀ c∈W,c∉ae ρ st.σ) (hfr:∀ c∈W,F c=none) :
  codeAny (model prog w) A (.forLoop t it body [] env) (fun r s'=>match r with | .ok f=>Q f s' | .error e=>cameBackBy (model prog w) A env E e s') s:=by
 have nel:env.locals∉W:=fun z=>by obtain ⟨o,ho⟩:=al; rw [hW _ z] at ho; cases ho
 have drop:∀ {F' ρ' st' s'},ToU (env.locals::W) F₀ ρ₀ st₀ s₀ F' ρ' st' s'→ToU [env.locals] F₀ ρ₀ st₀ s₀ F' ρ' st' s':=fun T=>
  T.drop fun a ha=>by
   rcases aJ ha with rfl | z
   ·exact .inl (by simp)
   ·exact .inr (hW a z)
 refine codeAny_forLoop_any (fun k s=>yw cx env W n It J F₀ ρ₀ st₀ s₀ k s) (fun k s hI=>?_) n ⟨0,F,ρ,st,m,by omega,T,fm,hJ,hI,hout,hfr⟩
 obtain ⟨i,F,ρ,st,m,hik,T,fm,hJ,hit,hout,hfr⟩:=hI.all
 have ne0:∀ {b o},s₀.heap.get? b=some o→b∉W:=fun e z=>by rw [hW _ z] at e; cases e
 cases k with
 | zero=>
  have hi:i=n:=by omega
  subst hi
  refine wpAny_mono (P.done hit (Q:=fun s'=>Q .next s') fun h' tk kb=>?_) (fun r s' hr=>?_) fun _ _ e=>e
  ·have at₁:=T.at'.beside (tk:=tk) hout hfr kb
   have T':ToU [env.locals] F₀ ρ₀ st₀ s₀ F ρ st { s with heap:=h',toks:=tk }:=⟨at₁,fun b o e nb nx=>kb b o (ne0 e) (T.keep b o e nb (by
     intro z; rcases aJ z with z | z
     ·exact nx (by simp [z])
     ·exact ne0 e z)),T.new,T.fz,T.fznew,fun b o e=>by
    obtain ⟨o',e'⟩:=T.live b o e
    exact ⟨o',kb b o' (ne0 e) e'⟩,by rw [T.sh]⟩
   exact fin T' (fm.beside kb nel) hJ
  ·obtain ⟨rfl,hq⟩:=hr
   exact wpAny_execs_nil hq
 | succ k=>
  have hi:i<n:=by omega
  refine wpAny_mono (P.next hi hit (Q:=fun v s₁'=>wpAny (model prog w) A (assign t env v) (fun _ s₂=>wpAny (model prog w) A (execs body env) (fun f s₃=>match f with
      | .next | .cont=>∃ m,m<k+1∧yw cx env W n It J F₀ ρ₀ st₀ s₀ m s₃
      | .brk=>Q .next s₃
      | .ret v=>Q (.ret v) s₃) (notedBy (model prog w) A env fun e s'=>cameBackBy (model prog w) A env E e s') s₂) (notedBy (model prog w) A env fun e s'=>cameBackBy (model prog w) A env E e s') s₁') (E:=notedBy (model prog w) A env fun e s'=>cameBackBy (model prog w) A env E e s') fun v h' tk hv hit' kb=>?_) (fun r s' hr=>?_) fun _ _ e=>e
  ·have at₁:=T.at'.beside (tk:=tk) hout hfr kb
   have fm₁:=fm.beside kb nel
   have T₁:ToU (env.locals::W) F₀ ρ₀ st₀ s₀ F ρ st { s with heap:=h',toks:=tk }:=⟨at₁,fun b o e nb nx=>kb b o (ne0 e) (T.keep b o e nb nx),T.new,T.fz,T.fznew,fun b o e=>by
    obtain ⟨o',e'⟩:=T.live b o e
    exact ⟨o',kb b o' (ne0 e) e'⟩,by rw [T.sh]⟩
   refine wpAny_mono (step hi at₁ fm₁ hJ hv T.fz) (fun _ s₂ h₂=>wpAny_mono h₂ (fun f s₃ h₃=>?_) fun _ _ e=>e) fun _ _ e=>e
   obtain ⟨hf,F',ρ',st',m',T₂,fm₂,hJ₂⟩:=h₃
   have kW:∀ c o,c∈W→h'.get? c=some o→s₃.heap.get? c=some o:=fun c o hc e=>T₂.keep c o e (hout c hc) (by
    intro z; rw [List.mem_singleton] at z; exact nel (z▸hc))
   have next:∃ m,m<k+1∧yw cx env W n It J F₀ ρ₀ st₀ s₀ m s₃:=by
    refine ⟨k,Nat.lt_succ_self _,⟨i+1,F',ρ',st',m',by omega,T₁.trans (T₂.weaken (by simp)),fm₂,hJ₂,P.keep hit' kW (fun c o e=>T₂.at'.rep.le c o (T₂.fz c o (T.fz c o e))),fun c hc z=>?_,fun c hc=>?_⟩⟩
    ·obtain ⟨o,ho⟩:=P.alive hit' c hc
     rcases T₂.new c z with z | z
     ·exact hout c hc z
     ·have ho:({ s with heap:=h',toks:=tk }:Shared).heap.get? c=some o:=ho
      rw [z] at ho; cases ho
    ·obtain ⟨o,ho⟩:=P.alive hit' c hc
     cases q:F' c with
     | none=>rfl
     | some y=>
      rcases T₂.fznew c y q with z | z
      ·rw [hfr c hc] at z; cases z
      ·have ho:({ s with heap:=h',toks:=tk }:Shared).heap.get? c=some o:=ho
       rw [z] at ho; cases ho
   rcases hf with rfl | rfl
   ·exact next
   ·exact next
  ·cases r with
   | none=>exact hr.elim
   | some v=>exact hr
theorem mK {t:Expr}{it:Value}{body:List Stmt}{W:List Addr}{n:Nat}{Items:Nat→Value→Heap→Prop}{It:Nat→Heap→Prop}{F₀:Fz}(P:ee A F₀ t it W n Items It){J:Nat→Fz→Rho→St→Loc→Prop}{Q:Flow→Shared→Prop}
  {ρ₀:Rho} {st₀:St} {s₀:Shared} {m₀:Loc} {h₁:Heap} {tk₁:Nat} (hW:∀ c∈W,s₀.heap.get? c=none)
  (step:∀ {i F ρ st m s v E},i<n→At F ρ st s→Fm F ρ st.σ cx env m s.heap→J i F ρ st m→Items i v s.heap→(∀ a o,F₀ a=some o→F a=some o)→
   wpAny (model prog w) A (assign t env v) (fun _ s₂=>wpAny (model prog w) A (execs body env) (fun f s₃=>(f=.next∨f=.cont)∧∃ F' ρ' st' m',ToU [env.locals] F ρ st s F' ρ' st' s₃∧Fm F' ρ' st'.σ cx env m' s₃.heap∧J (i+1) F' ρ' st' m') E s₂) E s)
  (fin:∀ {F ρ st m s},ToU [env.locals] F₀ ρ₀ st₀ s₀ F ρ st s→Fm F ρ st.σ cx env m s.heap→J n F ρ st m→Q .next s)
  (at₀:At F₀ ρ₀ st₀ s₀) (fm:Fm F₀ ρ₀ st₀.σ cx env m₀ s₀.heap) (hJ:J 0 F₀ ρ₀ st₀ m₀) (hk:∀ c o,s₀.heap.get? c=some o→h₁.get? c=some o) (hI:It 0 h₁) :
  codeAny (model prog w) A (.forLoop t it body [] env) (fun r s'=>match r with | .ok f=>Q f s' | .error e=>cameBackBy (model prog w) A env E e s') { s₀ with heap:=h₁,toks:=tk₁ }:=by
 have al:∃ o,s₀.heap.get? env.locals=some o:=by obtain ⟨g,⟨o,_,_,ho,_⟩,_⟩:=fm.ns; exact ⟨o,ho⟩
 obtain ⟨R₁,X₁⟩:=at₀.rep.grow hk
 have T:To (env.locals::W) F₀ ρ₀ st₀ s₀ F₀ ρ₀ st₀ { s₀ with heap:=h₁,toks:=tk₁ }:=⟨⟨R₁,at₀.len⟩,X₁.weaken (fun _ z=>nomatch z),rfl⟩
 have fm:Fm F₀ ρ₀ st₀.σ cx env m₀ h₁:=fm.ext X₁ (fun z=>nomatch z)
 have hout:∀ c∈W,c∉ae ρ₀ st₀.σ:=fun c hc z=>by obtain ⟨x,hx⟩:=at₀.rep.lt z; rw [hW c hc] at hx; cases hx
 have hfr:∀ c∈W,F₀ c=none:=fun c hc=>by
  cases q:F₀ c with
  | none=>rfl
  | some o=>have:=at₀.rep.le _ _ q; rw [hW c hc] at this; cases this
 exact xC P hW al step fin T.u fm hJ hI hout hfr
theorem iF {elts:List Expr}{x1:Nat}{pos:Pos}{I l:Addr}{vs:Array Value}{F₀:Fz}(hh:A.handled=none)(hF:∀ h,F₀.le h→h.IsList l vs)(hT:∀ (i:Nat)(v:Value),vs[i]?=some v→∃ T,v=Value.ref T) :
  ee A F₀ (.Tuple elts x1 pos) (.ref I) [I] vs.size (fun i v _=>vs[i]?=some v) (fun i h=>h.IsListIter I l i∧h.IsList l vs) where
 next:=fun {i s Q E} hi hI h=>by
  refine wpAny_pyNext_list_item hI.1 hI.2 (x:=vs[i]) (by simp [hi]) fun h' hit sb=>?_
  obtain ⟨T,eT⟩:=hT i vs[i] (by simp [hi])
  rw [eT]
  refine wpAny_letOwnedTupleGo_listiter (s:={ s with heap:=h' }) hit ?_
  have ne:l≠I:=fun e=>by
   obtain ⟨o,ho,hc,_⟩:=hI.2; obtain ⟨o',ho',hc',_⟩:=hI.1
   rw [e,ho'] at ho; cases ho; rw [hc] at hc'; simp at hc'
  exact h _ h' s.toks (by rw [←eT]; simp [hi]) ⟨hit,hI.2.at fun o e=>aB sb ne e⟩ fun c o hc e=>aB sb (fun z=>hc (by rw [z]; simp)) e
 done:=fun {s Q E} hI h=>wpAny_pyNext_list_end hh hI.1 hI.2 (by simp) fun h' hx=>⟨rfl,h h' s.toks fun c o hc e=>hx c o (fun z=>hc (by rw [z]; simp)) e⟩
 keep:=fun hI k hF'=>⟨hI.1.at fun o e=>k _ o (by simp) e,hF _ hF'⟩
 alive:=fun hI c hc=>by
  simp at hc; subst hc
  obtain ⟨o,ho,_⟩:=hI.1; exact ⟨o,ho⟩
end
end
section
noncomputable def gv (ρ:Rho):SV→SV
 | .ref k=>.sta (ρ.getD k (0,0)).1
 | x=>x
noncomputable def nz:SV→SV
 | .int i=>.uint i
 | .bool b=>.ubool b
 | x=>x
noncomputable def wC (fs:List (Str×SV)):List (Str×SV):=fs.map fun p=>(p.1,nz p.2)
noncomputable def lP:SO→SO
 | .inst C fs=>.inst C (wC fs)
 | .tup xs=>.tup (xs.map nz)
 | .list xs=>.list (xs.map nz)
 | .ro o=>.ro (lP o)
 | o=>o
noncomputable def gw (e:Nat×SO):Nat×SO:=(e.1,lP e.2)
noncomputable def geS (n:Nat):SV→Bool
 | .ref k=>Nat.ble n k
 | _=>true
noncomputable abbrev geO (n:Nat)(o:SO):Bool:=A5 (geS n) o
noncomputable def DH:SO→Bool
 | .ro _=>true
 | _=>false
section
variable {ρa ρb:Rho}{q:Addr×Addr}
theorem sS {sv:SV}{v:Value}(i:sv.Is ρ v):(gv ρ sv).Is ρ' v:=by
 cases sv<;>try exact i
 obtain ⟨p,hp,rfl⟩:=i
 show _=Value.ref _
 rw [List.getD,hp]; rfl
theorem ag.sta {xs:List SV}{vs:List Value}(h:ag (SV.Is ρ) xs vs):ag (SV.Is ρ') (xs.map (gv ρ)) vs:=by
 induction h with
 | nil=>exact .nil
 | cons i _ ih=>exact .cons (sS i) ih
theorem gZ {sv:SV}{v:Value}:(nz sv).Is ρ v↔sv.Is ρ v:=by cases sv<;>exact Iff.rfl
theorem pG {x:Str}:∀ {fs:List (Str×SV)},af x (wC fs)=(af x fs).map nz
 | []=>rfl
 | p::r=>by
  show af x ((p.1,nz p.2)::wC r)=_
  unfold af
  cases sEq p.1 x with
  | true=>rfl
  | false=>exact pG
theorem pj {xs:List SV}:∀ {vs:List Value},ag (SV.Is ρ) (xs.map nz) vs↔ag (SV.Is ρ) xs vs:=by
 induction xs with
 | nil=>intro vs; exact Iff.rfl
 | cons x r ih=>
  intro vs
  constructor
  ·intro a
   cases a with
   | cons i t=>exact .cons (gZ.mp i) (ih.mp t)
  ·intro a
   cases a with
   | cons i t=>exact .cons (gZ.mpr i) (ih.mpr t)
theorem hG {o:SO}:OkO ρ h q (lP o)↔OkO ρ h q o:=by
 induction o with
 | inst C fs=>
  have key:∀ {x:Str} {v:Option Value},az ρ (af x (wC fs)) v↔az ρ (af x fs) v:=by
   intro x v
   rw [pG]
   cases af x fs with
   | none=>exact Iff.rfl
   | some sv=>
    cases v with
    | none=>exact Iff.rfl
    | some v=>exact gZ
  have len:(wC fs).length=fs.length:=List.length_map ..
  exact and_congr .rfl (exists_congr fun es=>exists_congr fun ep=>and_congr .rfl (and_congr .rfl (and_congr (len▸.rfl) (forall_congr' fun x=>key))))
 | tup xs=>exact exists_congr fun vs=>exists_congr fun n=>and_congr .rfl pj
 | list xs=>exact exists_congr fun vs=>exists_congr fun n=>and_congr .rfl pj
 | ro o ih=>exact ih
 | _=>exact Iff.rfl
theorem SV.Is.swap {sv:SV}{v:Value}(i:sv.Is (ρa++τ) v)(hg:geS ρa.length sv=true)(hl:ρb.length=ρa.length):sv.Is (ρb++τ) v:=by
 cases sv<;>try exact i
 rename_i k
 have hk:ρa.length≤k:=cC hg
 obtain ⟨p,hp,e⟩:=i
 refine ⟨p,?_,e⟩
 rw [List.getElem?_append_right hk] at hp
 rw [List.getElem?_append_right (by omega),hl]
 exact hp
theorem OkO.swap {o:SO}(O:OkO (ρa++τ) h q o)(hg:geO ρa.length o=true)(hl:ρb.length=ρa.length):OkO (ρb++τ) h q o:=O.imp (fun _ _ g i=>i.swap g hl) (.inr hg)
end
noncomputable def gq (nm:Nat→Str)(row:Row):Hp:=(lM 0 nm row).drop 1
theorem ue (len:Int)(nm:Nat→Str)(row:Row):lM len nm row=(10,.ro (.inst 581 [("instruction",.ref 11),("length",.uint len),("form",.none),("prefixes",.none)]))::gq nm row:=by cases row<;>rfl
theorem xr (nm:Nat→Str)(row:Row):(gq nm row).all (fun e=>Nat.ble 11 e.1&&(DH e.2&&geO 11 e.2))=true:=by cases row<;>rfl'
section
noncomputable def oz (F:Fz)(a:Addr)(row:Row):Prop:=∃ (nm:Nat→Str) (τ:Rho),τ.length=7∧(∃ d,τ[0]?=some (a,d))∧∀ ρ₀:Rho,ρ₀.length=11→∀ e∈gq nm row,∃ o,e.2=.ro o∧∃ q,(ρ₀++τ)[e.1]?=some q∧∀ h',F.le h'→OkO (ρ₀++τ) h' q o
end
noncomputable def dum:List Nat:=[100000,100001,100002,100003,100004,100005,100006,100007,100008,100009,100010]
noncomputable def nS:List Nat:=[11,12,13,14,15,16,17]
section
variable {ρa ρb:Rho}{q:Addr×Addr}
theorem oz.mono {a:Addr}{row:Row}(h:oz F a row)(k:F.Sub F'):oz F' a row:=by
 obtain ⟨nm,τ,h1,h2,h3⟩:=h
 refine ⟨nm,τ,h1,h2,fun ρ₀ hρ e he=>?_⟩
 obtain ⟨o,eo,q,hq,O⟩:=h3 ρ₀ hρ e he
 exact ⟨o,eo,q,hq,fun h' hh=>O h' fun c x e=>hh c x (k c x e)⟩
theorem zy {o z:SO}(h:lP o=.ro z):∃ y,o=.ro y∧lP y=z:=by
 have e:DH (lP o)=DH o:=by cases o<;>rfl
 rw [h] at e
 cases o<;>first | exact eqT e.symm | exact ⟨_,rfl,SO.ro.inj h⟩
theorem B6 (at':At F ρ ⟨σ,n⟩ s){os:List Nat}{k0:Nat}{os':List Nat}{q0:Addr×Addr}(nm:Nat→Str)(row:Row)(hos:os=k0::os')(hl:os.length=7)(hq0:ρ[k0]?=some q0)(hc:(dn (dum++os) σ nS).map gw=(gq nm row).map gw):oz F q0.1 row:=by
 have hτ:(bY ρ os).length=7:=by simp [bY,hl]
 refine ⟨nm,bY ρ os,hτ,⟨q0.2,?_⟩,fun ρ₀ hρ e he=>?_⟩
 ·subst hos
  show (some (ρ.getD k0 (0,0)):Option (Addr×Addr))=_
  rw [List.getD,hq0]; rfl
 ·have hchk:=dQ (xr nm row) e he
  obtain ⟨c1,c2⟩:=dw hchk
  obtain ⟨c2,c3⟩:=dw c2
  have c1:11≤e.1:=cC c1
  obtain ⟨o,eo⟩:∃ o,e.2=.ro o:=by
   cases h:e.2<;>rw [h] at c2<;>first | exact ⟨_,rfl⟩ | cases c2
  have hm:gw e∈(dn (dum++os) σ nS).map gw:=by rw [hc]; exact List.mem_map_of_mem he
  obtain ⟨e',he',hee⟩:=List.mem_map.mp hm
  obtain ⟨h1,h2⟩:=Prod.mk.inj hee
  obtain ⟨_,k,o',hk,ho',hr⟩:=iU he'
  rw [eo] at h2
  have h2:lP e'.2=.ro (lP o):=h2
  obtain ⟨o1,e1,n1⟩:=zy h2
  rw [e1] at hr
  obtain ⟨o2,e2,r2⟩:=s7 hr
  subst e2
  have h1:e'.1=e.1:=h1
  rw [h1] at hk
  obtain ⟨q,hq,_⟩:=at'.rep.get ho'
  have hdum:(bY ρ dum).length=11:=by simp [bY,dum]
  have hsplit:bY ρ (dum++os)=bY ρ dum++bY ρ os:=by simp [bY]
  have hqe:(bY ρ (dum++os))[e.1]?=some q:=by
   unfold bY
   rw [List.getElem?_map,hk]
   simp [List.getD,hq]
  refine ⟨o,eo,q,?_,fun h' hh=>?_⟩
  ·rw [hsplit,List.getElem?_append_right (by omega),hdum] at hqe
   rw [List.getElem?_append_right (by omega),hρ]; exact hqe
  ·have O:=(at'.rep.ro _ (aL ho') _ rfl q hq h' hh).ren r2
   rw [hsplit] at O
   have O2:OkO (bY ρ dum++bY ρ os) h' q o:=hG.mp (by rw [←n1]; exact hG.mpr O)
   rw [eo] at c3
   exact O2.swap (by rw [hdum]; exact c3) (by rw [hdum,hρ])
end
end
section
inductive PR where
 | ins (r:Row)
 | tu (nm:Str) (off:Int)
noncomputable def v7 (σ:Hp)(k:Nat):Nat:=match aM k σ with
 | some (.ro (.inst _ [_,(_,.ref r)]))=>r
 | _=>100020
noncomputable def wJ (σ:Hp)(k:Nat):Nat×Nat:=match aM k σ with
 | some (.ro (.inst _ [_,(_,.ref b),(_,.ref i),_,_,_,_,_]))=>(b,i)
 | some (.ro (.inst _ [_,(_,.ref b),(_,.none),_,_,_,_,_]))=>(b,100021)
 | some (.ro (.inst _ [_,(_,.ref r)]))=>(r,100021)
 | _=>(100022,100021)
noncomputable def eR (σ:Hp)(k:Nat):List Nat:=match aM k σ with
 | some (.ro (.inst _ [_,(_,.ref t),_]))=>match aM t σ with
  | some (.ro (.tup [.ref a]))=>[k,t,a,v7 σ a,100023,100024,100025]
  | some (.ro (.tup [.ref a,.ref b]))=>[k,t,a,v7 σ a,b,(wJ σ b).1,(wJ σ b).2]
  | _=>[k,t,100026,100027,100028,100029,100030]
 | _=>[k,100031,100026,100027,100028,100029,100030]
noncomputable def pq (l:List Str)(i:Nat):Str:=l.getD i ""
section
noncomputable def PrF (F:Fz)(a:Addr):PR→Prop
 | .ins r=>oz F a r
 | .tu nm off=>∀ h,F.le h→∃ n t1 t2,h.get? a=some ⟨.type "tuple",none,.seq #[.str nm t1,.int off t2] n,#[]⟩
noncomputable def d9 (F:Fz)(a:Addr)(L:List PR):Prop:=∃ as:List Addr,ag (fun x r=>PrF F x r) as L∧∀ h,F.le h→∃ n,h.get? a=some ⟨.type "list",none,.seq (as.map Value.ref).toArray n,#[]⟩
end
section
variable {q:Addr×Addr}
theorem PrF.mono {a:Addr}:∀ {r:PR},PrF F a r→F.Sub F'→PrF F' a r
 | .ins r,h,k=>oz.mono h k
 | .tu nm off,h,k=>fun g hg=>h g fun c o e=>hg c o (k c o e)
theorem d9.mono {a:Addr}{L:List PR}(h:d9 F a L)(k:F.Sub F'):d9 F' a L:=by
 obtain ⟨as,h1,h2⟩:=h
 exact ⟨as,h1.imp fun _ _ z=>z.mono k,fun g hg=>h2 g fun c o e=>hg c o (k c o e)⟩
theorem bM (at':At F ρ ⟨σ,n⟩ s){k:Nat}{q0:Addr×Addr}(nms:List Str)(row:Row)(hq0:ρ[k]?=some q0)(hk:(eR σ k).head?=some k∧(eR σ k).length=7)(hc:(dn (dum++eR σ k) σ nS).map gw=(gq (pq nms) row).map gw):PrF F q0.1 (.ins row):=by
 obtain ⟨h1,h2⟩:=hk
 obtain ⟨os',hos⟩:∃ os',eR σ k=k::os':=by
  cases e:eR σ k with
  | nil=>rw [e] at h1; cases h1
  | cons a r=>rw [e] at h1; cases h1; exact ⟨r,rfl⟩
 exact B6 at' (pq nms) row hos h2 hq0 hc
theorem wg (at':At F ρ ⟨σ,n⟩ s){k:Nat}{q0:Addr×Addr}{nm:Str}{off:Int}{sv:SV}(hq0:ρ[k]?=some q0)(hk:aM k σ=some (.ro (.tup [.str nm,sv])))(hsv:nz sv=.uint off):PrF F q0.1 (.tu nm off):=fun g hg=>by
 obtain ⟨vs,c,ho,hv⟩:=at'.rep.ro _ (aL hk) _ rfl q0 hq0 g hg
 generalize hz:vs.toList=zs at hv
 obtain ⟨_,_,rfl,⟨t1,rfl⟩,i2⟩:=hv.inv2
 have i2:=gZ.mpr i2
 rw [hsv] at i2
 obtain ⟨t2,rfl⟩:=i2
 have:vs=#[.str nm t1,.int off t2]:=by
  apply Array.toList_inj.mp
  rw [hz]
 rw [this] at ho
 exact ⟨c,t1,t2,ho⟩
theorem hZ:∀ {rs:List Nat}{vs:List Value},ag (SV.Is ρ) (rs.map SV.ref) vs→vs=(rs.map fun r=>(ρ.getD r (0,0)).1).map Value.ref
 | [],vs,h=>by cases h; rfl
 | r::rs,_,.cons i t=>by
  obtain ⟨p,hp,rfl⟩:=i
  rw [hZ t]
  simp [List.getD,hp]
theorem yT (at':At F ρ ⟨σ,n⟩ s){k:Nat}{q0:Addr×Addr}{rs:List Nat}{L:List PR}(hq0:ρ[k]?=some q0)(hk:aM k σ=some (.ro (.list (rs.map SV.ref))))(hL:ag (fun x r=>PrF F x r) (rs.map fun r=>(ρ.getD r (0,0)).1) L):d9 F q0.1 L:=by
 refine ⟨_,hL,fun g hg=>?_⟩
 obtain ⟨vs,c,ho,hv⟩:=at'.rep.ro _ (aL hk) _ rfl q0 hq0 g hg
 refine ⟨c,?_⟩
 rw [ho,←hZ hv]
theorem gN {ρ:Rho}{k:Nat}(h:k<ρ.length):ρ[k]?=some (ρ.getD k (0,0)):=by
 rw [List.getD,List.getElem?_eq_getElem h]; rfl
end
noncomputable abbrev dpB (p:Params):List Stmt:=bK p 1089
noncomputable abbrev He (p:Params)(d:Nat):Cx:=⟨aK p 1089,[],d⟩
noncomputable def dpL (base scale far:Int):Loc:=[("base",.uint base),("scale",.uint scale),("far",.uint far)]
noncomputable def bJ (base scale far:Int):List PR:=[.tu "jrcxz" (-2),.ins (.push 1),.ins (.leaB 1 1 (-1)),.tu "call" (-9),.ins (.pop 1),.ins (.lea 0 0 1 scale far),.ins .ret,.ins (.movI 0 base),.ins .ret]
end
section
noncomputable def JB:Res (Fl×Loc×St)→Hp
 | .ok r=>r.2.2.σ
 | .need _ r=>JB r
 | _=>[]
noncomputable def dpS (base scale far:Int):Hp:=[(54,(.list [(.ref 0),(.ref 6),(.ref 17),(.ref 18),(.ref 24),(.ref 39),(.ref 41),(.ref 50),(.ref 52)])),(53,(.list [(.ref 50),(.ref 52)])),(52,inO "ret" 51),(51,(.tup [])),(50,inO "mov" 49),(49,(.tup [(.ref 47),(.ref 48)])),(48,(.inst 692 [("kind",(.str "imm")),("worth",(.uint base)),("name",(.str ""))])),(47,rgO 46),(46,gpO "rax" 0),(45,(.list [])),(44,(.list gp8)),(43,(.list [(.ref 0),(.ref 6),(.ref 17),(.ref 18),(.ref 24),(.ref 39),(.ref 41)])),(42,(.list [(.ref 39),(.ref 41)])),(41,inO "ret" 40),(40,(.tup [])),(39,inO "lea" 38),(38,(.tup [(.ref 30),(.ref 37)])),(37,(.inst 786 [("kind",(.str "mem")),("base",(.ref 33)),("index",(.ref 36)),("scale",(.uint scale)),("worth",(.uint far)),("size",(.int 0)),("segment",(.str "")),("name",(.str ""))])),(36,gpO "rcx" 1),(35,(.list [])),(34,(.list gp8)),(33,gpO "rax" 0),(32,(.list [])),(31,(.list gp8)),(30,rgO 29),(29,gpO "rax" 0),(28,(.list [])),(27,(.list gp8)),(26,(.list [(.ref 0),(.ref 6),(.ref 17),(.ref 18),(.ref 24)])),(25,(.list [(.ref 17),(.ref 18),(.ref 24)])),(24,inO "pop" 23),(23,(.tup [(.ref 22)])),(22,rgO 21),(21,gpO "rcx" 1),(20,(.list [])),(19,(.list gp8)),(18,(.tup [(.str "call"),(.int (-9))])),(17,inO "lea" 16),(16,(.tup [(.ref 11),(.ref 15)])),(15,(.inst 786 [("kind",(.str "mem")),("base",(.ref 14)),("index",.none),("scale",(.int 1)),("worth",(.int (-1))),("size",(.int 0)),("segment",(.str "")),("name",(.str ""))])),(14,gpO "rcx" 1),(13,(.list [])),(12,(.list gp8)),(11,rgO 10),(10,gpO "rcx" 1),(9,(.list [])),(8,(.list gp8)),(7,(.list [(.ref 0),(.ref 6)])),(6,inO "push" 5),(5,(.tup [(.ref 4)])),(4,rgO 3),(3,gpO "rcx" 1),(2,(.list [])),(1,(.list gp8)),(0,(.tup [(.str "jrcxz"),(.int (-2))]))]
noncomputable def dpZ (base scale far:Int):Hp:=aW (List.range 55) (dpS base scale far)
section
variable (p:Params)(base scale far:Int)
theorem DW:fQ (an p) 1089=true:=by rfl'
theorem qg:bj ((an p).lookup 1089)=(["base","scale","far"]:List Str):=by rfl'
theorem JE:∀ v,E6 v→(aq (v.ss (He p 38) (dpL base scale far) (dpB p) ⟨[],0⟩)).map (fun q=>(q.1,q.2.1,q.2.2.1,q.2.2.2.2))=([([],[],.ret (.ref 54),⟨dpS base scale far,55⟩)]:List (List Prop×List Prop×Fl×St)):=by rintro _ rfl; rfl'
theorem JC:aW (List.range 55) (dpS base scale far)=dpZ base scale far:=rfl
theorem JD:aM 54 (dpZ base scale far)=some (.ro (.list ([0,6,17,18,24,39,41,50,52].map SV.ref))):=by rfl'
theorem Hd:trim 0 (dpZ base scale far)=[]:=by rfl'
end
theorem um {α β:Type}{P:α→Prop}(g:α→β)(d:α){r:Res α}{nd:List Prop}{y:β}(e:((r.paths d).map fun q=>(q.asm,q.nd,q.res)).map (fun q=>(q.1,q.2.1,g q.2.2))=[([],nd,y)])(hn:∀ n∈nd,n)(h:∀ x,g x=y→P x):r.Ok P:=
 Res.ok_paths d fun q hq ha=>by
  have:(q.asm,q.nd,g q.res)∈[(([]:List Prop),nd,y)]:=by
   rw [←e,List.map_map]
   exact List.mem_map.mpr ⟨q,hq,rfl⟩
  rw [List.mem_singleton] at this
  obtain ⟨_,h2⟩:=Prod.mk.inj this
  obtain ⟨h2,h3⟩:=Prod.mk.inj h2
  exact ⟨fun n hn'=>hn n (by rw [←h2]; exact hn'),h _ h3⟩
section
theorem AH {base scale far:Int}{t1 t2 t3:Tok}{Q:Value→Shared→Prop}(rm:aj 39 A)(at':At F [] ⟨[],0⟩ s)
  (h:∀ F' s' a,To [] F [] ⟨[],0⟩ s F' [] ⟨[],0⟩ s'→d9 F' a (bJ base scale far)→Q (.ref a) s'):wpAny (model prog w) A (call (.ref 1089) [.int base t1,.int scale t2,.int far t3]) Q E s:=by
 obtain ⟨v,hv,S⟩:=dj
 refine dR (d:=38) (args:=[.uint base,.uint scale,.uint far]) (DW p) rm at' (.cons ⟨t1,rfl⟩ (.cons ⟨t2,rfl⟩ (.cons ⟨t3,rfl⟩ .nil))) (by rw [qg]; rfl) fun env s₀ T₀ fm₀ nw rm'=>?_
 rw [qg] at fm₀
 have fm₀:Fm F [] [] (He p 38) env (dpL base scale far) s₀.heap:=fm₀
 show wpAny _ _ (execs (dpB p) env) _ _ _
 refine S.ss rm' T₀.at' fm₀ (um (fun r=>(r.1,r.2.2)) _ (JE p base scale far v hv) noP fun x hx F₁ ρ₁ s₁ f T₁ fm₁ hf=>?_)
 obtain ⟨fl,L,st₁⟩:=x
 obtain ⟨e1,e2⟩:=Prod.mk.inj hx
 dsimp only at e1 e2 T₁ hf
 subst e1 e2
 obtain ⟨_,rfl,q,hq,rfl⟩:=hf
 have T:=((T₀.nil (X:=[env.locals])).trans T₁).leave nw
 obtain ⟨F₂,hFF,_,T₂⟩:=T.freezeX at' (List.range 55) (by rfl)
 dsimp only at T₂
 rw [JC] at T₂
 have hl:ρ₁.length=55:=T₂.at'.len
 have g:∀ {k:Nat},k<55→ρ₁[k]?=some (ρ₁.getD k (0,0)):=fun hk=>gN (by rw [hl]; exact hk)
 have a2:=T₂.at'
 have R:d9 F₂ (ρ₁.getD 54 (0,0)).1 (bJ base scale far):=by
  refine yT a2 (g (by decide)) (JD base scale far) ?_
  refine .cons (wg a2 (g (by decide)) (k:=0) (sv:=.int (-2)) (by rfl') rfl) ?_
  refine .cons (bM a2 (k:=6) ["rcx"] (.push 1) (g (by decide)) ⟨by rfl',by rfl'⟩ (by rfl')) ?_
  refine .cons (bM a2 (k:=17) ["rcx","rcx"] (.leaB 1 1 (-1)) (g (by decide)) ⟨by rfl',by rfl'⟩ (by rfl')) ?_
  refine .cons (wg a2 (g (by decide)) (k:=18) (sv:=.int (-9)) (by rfl') rfl) ?_
  refine .cons (bM a2 (k:=24) ["rcx"] (.pop 1) (g (by decide)) ⟨by rfl',by rfl'⟩ (by rfl')) ?_
  refine .cons (bM a2 (k:=39) ["rax","rax","rcx"] (.lea 0 0 1 scale far) (g (by decide)) ⟨by rfl',by rfl'⟩ (by rfl')) ?_
  refine .cons (bM a2 (k:=41) [] .ret (g (by decide)) ⟨by rfl',by rfl'⟩ (by rfl')) ?_
  refine .cons (bM a2 (k:=50) ["rax"] (.movI 0 base) (g (by decide)) ⟨by rfl',by rfl'⟩ (by rfl')) ?_
  refine .cons (bM a2 (k:=52) [] .ret (g (by decide)) ⟨by rfl',by rfl'⟩ (by rfl')) .nil
 have hq':q=ρ₁.getD 54 (0,0):=by rw [g (by decide)] at hq; cases hq; rfl
 have T₃:=To.trim (ρ:=[]) (τ:=ρ₁) (n:=0) T₂ rfl (by dsimp only; rw [Hd]; rfl) ⟨[],rfl⟩
 dsimp only at T₃
 rw [Hd] at T₃
 rw [hq']
 exact h F₂ s₁ _ T₃ R
end
end
section
inductive bo where
 | deep (spot scale far:Int)
 | arg (j:Nat) (scale far:Int)
noncomputable def ct (j:Nat):Int:=([7,6,2,1,8,9,10,10,10]:List Int).getD j 0
noncomputable def aO:bo→List PR
 | .deep spot sc far=>[.ins (.push 0),.ins (.movI 1 spot),.tu "call" (-9),.ins (.pop 11),.ins (.lea 0 0 11 sc far)]
 | .arg j sc far=>if j≤5 then [.ins (.lea 0 0 (ct j) sc far)] else [.ins (.movM 10 5 (16+8*((j:Int) - 6))),.ins (.lea 0 0 10 sc far)]
noncomputable def gP (first kept:Int):List PR:=[.ins (.push 5),.ins (.movR 5 4),.ins (.push 3),.ins (.movI 3 kept),.ins (.movI 0 first)]
noncomputable def ly (gone:Int):List PR:=[.ins (.pop 3),.ins .leave,.ins (if decide (0<gone) then .retI gone else .ret)]
noncomputable def bH (ps:List bo)(first kept gone:Int):List PR:=(gP first kept++ps.flatMap aO)++ly gone
noncomputable def bn:bo→Str×Int×Int×Int
 | .deep spot sc far=>("deep",spot,sc,far)
 | .arg j sc far=>("arg",(j:Int),sc,far)
noncomputable def sI:bo→Prop
 | .deep spot _ _=>0≤spot∧spot<4
 | .arg j _ _=>j<9
noncomputable def ed (F:Fz)(a:Addr)(x:bo):Prop:=∀ h,F.le h→∃ n t0 t1 t2 t3,h.get? a=some ⟨.type "tuple",none,.seq #[.str (bn x).1 t0,.int (bn x).2.1 t1,.int (bn x).2.2.1 t2,.int (bn x).2.2.2 t3] n,#[]⟩
noncomputable def eX (F:Fz)(a:Addr)(ps:List bo):Prop:=∃ as:List Addr,ag (fun y x=>ed F y x) as ps∧∃ n,F a=some ⟨.type "list",none,.seq (as.map Value.ref).toArray n,#[]⟩
noncomputable abbrev fnB (p:Params):List Stmt:=bK p 1082
noncomputable abbrev c7 (p:Params)(d:Nat):Cx:=⟨aK p 1082,[],d⟩
noncomputable def fnL (gone:Int):Loc:=[("rows",.ref 0),("gone",.uint gone)]
noncomputable def fnT (gone:Int)(sort:Str)(sp:SV)(sc far:Int):Loc:=fnL gone++([("sort",.str sort),("spot",sp),("scale",.uint sc),("far",.uint far)]:Loc)
noncomputable def DT (sp sc far:Int)(xs:List SV):Hp:=[(38,inO "lea" 37),(37,(.tup [(.ref 29),(.ref 36)])),(36,(.inst 786 [("kind",(.str "mem")),("base",(.ref 32)),("index",(.ref 35)),("scale",(.uint sc)),("worth",(.uint far)),("size",(.int 0)),("segment",(.str "")),("name",(.str ""))])),(35,gpO "r11" 11),(34,(.list [])),(33,(.list gp8)),(32,gpO "rax" 0),(31,(.list [])),(30,(.list gp8)),(29,rgO 28),(28,gpO "rax" 0),(27,(.list [])),(26,(.list gp8)),(25,(.slist (((xs++[SV.ref 7,SV.ref 14])++[SV.ref 17,SV.ref 23])++[SV.ref 38]))),(24,(.list [(.ref 17),(.ref 23)])),(23,inO "pop" 22),(22,(.tup [(.ref 21)])),(21,rgO 20),(20,gpO "r11" 11),(19,(.list [])),(18,(.list gp8)),(17,(.tup [(.str "call"),(.int (-9))])),(16,(.slist (xs++[SV.ref 7,SV.ref 14]))),(15,(.list [(.ref 7),(.ref 14)])),(14,inO "mov" 13),(13,(.tup [(.ref 11),(.ref 12)])),(12,(.inst 692 [("kind",(.str "imm")),("worth",(.uint sp)),("name",(.str ""))])),(11,rgO 10),(10,gpO "rcx" 1),(9,(.list [])),(8,(.list gp8)),(7,inO "push" 6),(6,(.tup [(.ref 5)])),(5,rgO 4),(4,gpO "rax" 0),(3,(.list [])),(2,(.list gp8)),(1,(.list [(.int 7),(.int 6),(.int 2),(.int 1),(.int 8),(.int 9),(.int 10),(.int 10),(.int 10)])),(0,(.slist xs))]
noncomputable def AD (sc far:Int)(xs:List SV):Hp:=[(14,inO "lea" 13),(13,(.tup [(.ref 5),(.ref 12)])),(12,(.inst 786 [("kind",(.str "mem")),("base",(.ref 8)),("index",(.ref 11)),("scale",(.uint sc)),("worth",(.uint far)),("size",(.int 0)),("segment",(.str "")),("name",(.str ""))])),(11,gpO "rdi" 7),(10,(.list [])),(9,(.list gp8)),(8,gpO "rax" 0),(7,(.list [])),(6,(.list gp8)),(5,rgO 4),(4,gpO "rax" 0),(3,(.list [])),(2,(.list gp8)),(1,(.list [(.int 7),(.int 6),(.int 2),(.int 1),(.int 8),(.int 9),(.int 10),(.int 10),(.int 10)])),(0,(.slist (xs++[SV.ref 14])))]
noncomputable def AC (sc far:Int)(xs:List SV):Hp:=[(14,inO "lea" 13),(13,(.tup [(.ref 5),(.ref 12)])),(12,(.inst 786 [("kind",(.str "mem")),("base",(.ref 8)),("index",(.ref 11)),("scale",(.uint sc)),("worth",(.uint far)),("size",(.int 0)),("segment",(.str "")),("name",(.str ""))])),(11,gpO "rsi" 6),(10,(.list [])),(9,(.list gp8)),(8,gpO "rax" 0),(7,(.list [])),(6,(.list gp8)),(5,rgO 4),(4,gpO "rax" 0),(3,(.list [])),(2,(.list gp8)),(1,(.list [(.int 7),(.int 6),(.int 2),(.int 1),(.int 8),(.int 9),(.int 10),(.int 10),(.int 10)])),(0,(.slist (xs++[SV.ref 14])))]
noncomputable def AB (sc far:Int)(xs:List SV):Hp:=[(14,inO "lea" 13),(13,(.tup [(.ref 5),(.ref 12)])),(12,(.inst 786 [("kind",(.str "mem")),("base",(.ref 8)),("index",(.ref 11)),("scale",(.uint sc)),("worth",(.uint far)),("size",(.int 0)),("segment",(.str "")),("name",(.str ""))])),(11,gpO "rdx" 2),(10,(.list [])),(9,(.list gp8)),(8,gpO "rax" 0),(7,(.list [])),(6,(.list gp8)),(5,rgO 4),(4,gpO "rax" 0),(3,(.list [])),(2,(.list gp8)),(1,(.list [(.int 7),(.int 6),(.int 2),(.int 1),(.int 8),(.int 9),(.int 10),(.int 10),(.int 10)])),(0,(.slist (xs++[SV.ref 14])))]
noncomputable def AA (sc far:Int)(xs:List SV):Hp:=[(14,inO "lea" 13),(13,(.tup [(.ref 5),(.ref 12)])),(12,(.inst 786 [("kind",(.str "mem")),("base",(.ref 8)),("index",(.ref 11)),("scale",(.uint sc)),("worth",(.uint far)),("size",(.int 0)),("segment",(.str "")),("name",(.str ""))])),(11,gpO "rcx" 1),(10,(.list [])),(9,(.list gp8)),(8,gpO "rax" 0),(7,(.list [])),(6,(.list gp8)),(5,rgO 4),(4,gpO "rax" 0),(3,(.list [])),(2,(.list gp8)),(1,(.list [(.int 7),(.int 6),(.int 2),(.int 1),(.int 8),(.int 9),(.int 10),(.int 10),(.int 10)])),(0,(.slist (xs++[SV.ref 14])))]
noncomputable def Az (sc far:Int)(xs:List SV):Hp:=[(14,inO "lea" 13),(13,(.tup [(.ref 5),(.ref 12)])),(12,(.inst 786 [("kind",(.str "mem")),("base",(.ref 8)),("index",(.ref 11)),("scale",(.uint sc)),("worth",(.uint far)),("size",(.int 0)),("segment",(.str "")),("name",(.str ""))])),(11,gpO "r8" 8),(10,(.list [])),(9,(.list gp8)),(8,gpO "rax" 0),(7,(.list [])),(6,(.list gp8)),(5,rgO 4),(4,gpO "rax" 0),(3,(.list [])),(2,(.list gp8)),(1,(.list [(.int 7),(.int 6),(.int 2),(.int 1),(.int 8),(.int 9),(.int 10),(.int 10),(.int 10)])),(0,(.slist (xs++[SV.ref 14])))]
noncomputable def Ay (sc far:Int)(xs:List SV):Hp:=[(14,inO "lea" 13),(13,(.tup [(.ref 5),(.ref 12)])),(12,(.inst 786 [("kind",(.str "mem")),("base",(.ref 8)),("index",(.ref 11)),("scale",(.uint sc)),("worth",(.uint far)),("size",(.int 0)),("segment",(.str "")),("name",(.str ""))])),(11,gpO "r9" 9),(10,(.list [])),(9,(.list gp8)),(8,gpO "rax" 0),(7,(.list [])),(6,(.list gp8)),(5,rgO 4),(4,gpO "rax" 0),(3,(.list [])),(2,(.list gp8)),(1,(.list [(.int 7),(.int 6),(.int 2),(.int 1),(.int 8),(.int 9),(.int 10),(.int 10),(.int 10)])),(0,(.slist (xs++[SV.ref 14])))]
noncomputable def Ax (sc far:Int)(xs:List SV):Hp:=[(24,inO "lea" 23),(23,(.tup [(.ref 15),(.ref 22)])),(22,(.inst 786 [("kind",(.str "mem")),("base",(.ref 18)),("index",(.ref 21)),("scale",(.uint sc)),("worth",(.uint far)),("size",(.int 0)),("segment",(.str "")),("name",(.str ""))])),(21,gpO "r10" 10),(20,(.list [])),(19,(.list gp8)),(18,gpO "rax" 0),(17,(.list [])),(16,(.list gp8)),(15,rgO 14),(14,gpO "rax" 0),(13,(.list [])),(12,(.list gp8)),(11,inO "mov" 10),(10,(.tup [(.ref 5),(.ref 9)])),(9,(.inst 786 [("kind",(.str "mem")),("base",(.ref 8)),("index",.none),("scale",(.int 1)),("worth",(.int 16)),("size",(.int 64)),("segment",(.str "")),("name",(.str ""))])),(8,gpO "rbp" 5),(7,(.list [])),(6,(.list gp8)),(5,rgO 4),(4,gpO "r10" 10),(3,(.list [])),(2,(.list gp8)),(1,(.list [(.int 7),(.int 6),(.int 2),(.int 1),(.int 8),(.int 9),(.int 10),(.int 10),(.int 10)])),(0,(.slist ((xs++[SV.ref 11])++[SV.ref 24])))]
noncomputable def Aw (sc far:Int)(xs:List SV):Hp:=[(24,inO "lea" 23),(23,(.tup [(.ref 15),(.ref 22)])),(22,(.inst 786 [("kind",(.str "mem")),("base",(.ref 18)),("index",(.ref 21)),("scale",(.uint sc)),("worth",(.uint far)),("size",(.int 0)),("segment",(.str "")),("name",(.str ""))])),(21,gpO "r10" 10),(20,(.list [])),(19,(.list gp8)),(18,gpO "rax" 0),(17,(.list [])),(16,(.list gp8)),(15,rgO 14),(14,gpO "rax" 0),(13,(.list [])),(12,(.list gp8)),(11,inO "mov" 10),(10,(.tup [(.ref 5),(.ref 9)])),(9,(.inst 786 [("kind",(.str "mem")),("base",(.ref 8)),("index",.none),("scale",(.int 1)),("worth",(.int 24)),("size",(.int 64)),("segment",(.str "")),("name",(.str ""))])),(8,gpO "rbp" 5),(7,(.list [])),(6,(.list gp8)),(5,rgO 4),(4,gpO "r10" 10),(3,(.list [])),(2,(.list gp8)),(1,(.list [(.int 7),(.int 6),(.int 2),(.int 1),(.int 8),(.int 9),(.int 10),(.int 10),(.int 10)])),(0,(.slist ((xs++[SV.ref 11])++[SV.ref 24])))]
noncomputable def Av (sc far:Int)(xs:List SV):Hp:=[(24,inO "lea" 23),(23,(.tup [(.ref 15),(.ref 22)])),(22,(.inst 786 [("kind",(.str "mem")),("base",(.ref 18)),("index",(.ref 21)),("scale",(.uint sc)),("worth",(.uint far)),("size",(.int 0)),("segment",(.str "")),("name",(.str ""))])),(21,gpO "r10" 10),(20,(.list [])),(19,(.list gp8)),(18,gpO "rax" 0),(17,(.list [])),(16,(.list gp8)),(15,rgO 14),(14,gpO "rax" 0),(13,(.list [])),(12,(.list gp8)),(11,inO "mov" 10),(10,(.tup [(.ref 5),(.ref 9)])),(9,(.inst 786 [("kind",(.str "mem")),("base",(.ref 8)),("index",.none),("scale",(.int 1)),("worth",(.int 32)),("size",(.int 64)),("segment",(.str "")),("name",(.str ""))])),(8,gpO "rbp" 5),(7,(.list [])),(6,(.list gp8)),(5,rgO 4),(4,gpO "r10" 10),(3,(.list [])),(2,(.list gp8)),(1,(.list [(.int 7),(.int 6),(.int 2),(.int 1),(.int 8),(.int 9),(.int 10),(.int 10),(.int 10)])),(0,(.slist ((xs++[SV.ref 11])++[SV.ref 24])))]
noncomputable def xE (gone:Int)(xs:List SV):Hp:=[(15,(.slist ((xs++[SV.ref 6,SV.ref 8])++[SV.ref 13]))),(14,(.list [(.ref 13)])),(13,inO "ret" 12),(12,(.tup [(.ref 11)])),(11,(.inst 692 [("kind",(.str "imm")),("worth",(.uint gone)),("name",(.str ""))])),(10,(.slist (xs++[SV.ref 6,SV.ref 8]))),(9,(.list [(.ref 6),(.ref 8)])),(8,inO "leave" 7),(7,(.tup [])),(6,inO "pop" 5),(5,(.tup [(.ref 4)])),(4,rgO 3),(3,gpO "rbx" 3),(2,(.list [])),(1,(.list gp8)),(0,(.slist xs))]
noncomputable def xF (xs:List SV):Hp:=[(14,(.slist ((xs++[SV.ref 6,SV.ref 8])++[SV.ref 12]))),(13,(.list [(.ref 12)])),(12,inO "ret" 11),(11,(.tup [])),(10,(.slist (xs++[SV.ref 6,SV.ref 8]))),(9,(.list [(.ref 6),(.ref 8)])),(8,inO "leave" 7),(7,(.tup [])),(6,inO "pop" 5),(5,(.tup [(.ref 4)])),(4,rgO 3),(3,gpO "rbx" 3),(2,(.list [])),(1,(.list gp8)),(0,(.slist xs))]
noncomputable def tM (first kept:Int):Hp:=[(38,inO "mov" 37),(37,(.tup [(.ref 35),(.ref 36)])),(36,(.inst 692 [("kind",(.str "imm")),("worth",(.uint first)),("name",(.str ""))])),(35,rgO 34),(34,gpO "rax" 0),(33,(.list [])),(32,(.list gp8)),(31,(.list [(.ref 5),(.ref 15),(.ref 22),(.ref 29),(.ref 38)])),(30,(.list [(.ref 22),(.ref 29)])),(29,inO "mov" 28),(28,(.tup [(.ref 26),(.ref 27)])),(27,(.inst 692 [("kind",(.str "imm")),("worth",(.uint kept)),("name",(.str ""))])),(26,rgO 25),(25,gpO "rbx" 3),(24,(.list [])),(23,(.list gp8)),(22,inO "push" 21),(21,(.tup [(.ref 20)])),(20,rgO 19),(19,gpO "rbx" 3),(18,(.list [])),(17,(.list gp8)),(16,(.list [(.ref 5),(.ref 15)])),(15,inO "mov" 14),(14,(.tup [(.ref 9),(.ref 13)])),(13,rgO 12),(12,gpO "rsp" 4),(11,(.list [])),(10,(.list gp8)),(9,rgO 8),(8,gpO "rbp" 5),(7,(.list [])),(6,(.list gp8)),(5,inO "push" 4),(4,(.tup [(.ref 3)])),(3,rgO 2),(2,gpO "rbp" 5),(1,(.list [])),(0,(.list gp8))]
noncomputable def gz:List Nat:=[1,2,3,4,5,6,7,8,9,10,11,12,13,14]
noncomputable def ig:List Nat:=[1,2,3,4,5,6,7,8,9,10,11,12,13,14,15,16,17,18,19,20,21,22,23,24]
noncomputable def GA:List Nat:=[1,2,3,4,5,6,7,8,9,10,11,12,13,14,15,16,17,18,19,20,21,22,23,24,26,27,28,29,30,31,32,33,34,35,36,37,38]
noncomputable abbrev LF:=List (List Prop×List Prop×Fl×Option SV×Option SV×St)
noncomputable def eI (q:List Prop×List Prop×Fl×Loc×St):List Prop×List Prop×Fl×Option SV×Option SV×St:=(q.1,q.2.1,q.2.2.1,af "rows" q.2.2.2.1,af "gone" q.2.2.2.1,q.2.2.2.2)
section
variable (p:Params)(gone sp sc far:Int)(xs:List SV)
theorem JA:∀ v,E6 v→(aq (v.ss (c7 p 38) (fnT gone "deep" (.uint sp) sc far) (ah (ad 3 (fnB p))) ⟨[(0,.slist xs)],1⟩)).map eI =
  ([([],[0≤sp∧sp<9,xs.length+2≤1000,(xs++[SV.ref 7,SV.ref 14]).length+2≤1000,((xs++[SV.ref 7,SV.ref 14])++[SV.ref 17,SV.ref 23]).length≤1000],.next,some (.ref 25),some (.uint gone),⟨DT sp sc far xs,39⟩)]:LF):=by rintro _ rfl; rfl'
theorem Jz:be GA [(0,.slist xs)] (DT sp sc far xs)=true:=by rfl'
theorem Jy:aM 25 (aW GA (DT sp sc far xs))=some (.slist (((xs++[SV.ref 7,SV.ref 14])++[SV.ref 17,SV.ref 23])++[SV.ref 38])):=by rfl'
theorem Ha:∀ v,E6 v→(aq (v.ss (c7 p 38) (fnT gone "arg" (.int 0) sc far) (ah (ad 3 (fnB p))) ⟨[(0,.slist xs)],1⟩)).map eI =
  ([([],[xs.length≤1000],.next,some (.ref 0),some (.uint gone),⟨AD sc far xs,15⟩)]:LF):=by rintro _ rfl; rfl'
theorem G9:be gz [(0,.slist xs)] (AD sc far xs)=true:=by rfl'
theorem G8:aM 0 (aW gz (AD sc far xs))=some (.slist (xs++[SV.ref 14])):=by rfl'
theorem G7:∀ v,E6 v→(aq (v.ss (c7 p 38) (fnT gone "arg" (.int 1) sc far) (ah (ad 3 (fnB p))) ⟨[(0,.slist xs)],1⟩)).map eI =
  ([([],[xs.length≤1000],.next,some (.ref 0),some (.uint gone),⟨AC sc far xs,15⟩)]:LF):=by rintro _ rfl; rfl'
theorem G6:be gz [(0,.slist xs)] (AC sc far xs)=true:=by rfl'
theorem G5:aM 0 (aW gz (AC sc far xs))=some (.slist (xs++[SV.ref 14])):=by rfl'
theorem G4:∀ v,E6 v→(aq (v.ss (c7 p 38) (fnT gone "arg" (.int 2) sc far) (ah (ad 3 (fnB p))) ⟨[(0,.slist xs)],1⟩)).map eI =
  ([([],[xs.length≤1000],.next,some (.ref 0),some (.uint gone),⟨AB sc far xs,15⟩)]:LF):=by rintro _ rfl; rfl'
theorem G3:be gz [(0,.slist xs)] (AB sc far xs)=true:=by rfl'
theorem G2:aM 0 (aW gz (AB sc far xs))=some (.slist (xs++[SV.ref 14])):=by rfl'
theorem G1:∀ v,E6 v→(aq (v.ss (c7 p 38) (fnT gone "arg" (.int 3) sc far) (ah (ad 3 (fnB p))) ⟨[(0,.slist xs)],1⟩)).map eI =
  ([([],[xs.length≤1000],.next,some (.ref 0),some (.uint gone),⟨AA sc far xs,15⟩)]:LF):=by rintro _ rfl; rfl'
theorem G0:be gz [(0,.slist xs)] (AA sc far xs)=true:=by rfl'
theorem GZ:aM 0 (aW gz (AA sc far xs))=some (.slist (xs++[SV.ref 14])):=by rfl'
theorem GY:∀ v,E6 v→(aq (v.ss (c7 p 38) (fnT gone "arg" (.int 4) sc far) (ah (ad 3 (fnB p))) ⟨[(0,.slist xs)],1⟩)).map eI =
  ([([],[xs.length≤1000],.next,some (.ref 0),some (.uint gone),⟨Az sc far xs,15⟩)]:LF):=by rintro _ rfl; rfl'
theorem GX:be gz [(0,.slist xs)] (Az sc far xs)=true:=by rfl'
theorem GW:aM 0 (aW gz (Az sc far xs))=some (.slist (xs++[SV.ref 14])):=by rfl'
theorem GV:∀ v,E6 v→(aq (v.ss (c7 p 38) (fnT gone "arg" (.int 5) sc far) (ah (ad 3 (fnB p))) ⟨[(0,.slist xs)],1⟩)).map eI =
  ([([],[xs.length≤1000],.next,some (.ref 0),some (.uint gone),⟨Ay sc far xs,15⟩)]:LF):=by rintro _ rfl; rfl'
theorem GU:be gz [(0,.slist xs)] (Ay sc far xs)=true:=by rfl'
theorem GT:aM 0 (aW gz (Ay sc far xs))=some (.slist (xs++[SV.ref 14])):=by rfl'
theorem GS:∀ v,E6 v→(aq (v.ss (c7 p 38) (fnT gone "arg" (.int 6) sc far) (ah (ad 3 (fnB p))) ⟨[(0,.slist xs)],1⟩)).map eI =
  ([([],[xs.length≤1000,(xs++[SV.ref 11]).length≤1000],.next,some (.ref 0),some (.uint gone),⟨Ax sc far xs,25⟩)]:LF):=by rintro _ rfl; rfl'
theorem GR:be ig [(0,.slist xs)] (Ax sc far xs)=true:=by rfl'
theorem GQ:aM 0 (aW ig (Ax sc far xs))=some (.slist ((xs++[SV.ref 11])++[SV.ref 24])):=by rfl'
theorem GO:∀ v,E6 v→(aq (v.ss (c7 p 38) (fnT gone "arg" (.int 7) sc far) (ah (ad 3 (fnB p))) ⟨[(0,.slist xs)],1⟩)).map eI =
  ([([],[xs.length≤1000,(xs++[SV.ref 11]).length≤1000],.next,some (.ref 0),some (.uint gone),⟨Aw sc far xs,25⟩)]:LF):=by rintro _ rfl; rfl'
theorem GN:be ig [(0,.slist xs)] (Aw sc far xs)=true:=by rfl'
theorem GM:aM 0 (aW ig (Aw sc far xs))=some (.slist ((xs++[SV.ref 11])++[SV.ref 24])):=by rfl'
theorem GL:∀ v,E6 v→(aq (v.ss (c7 p 38) (fnT gone "arg" (.int 8) sc far) (ah (ad 3 (fnB p))) ⟨[(0,.slist xs)],1⟩)).map eI =
  ([([],[xs.length≤1000,(xs++[SV.ref 11]).length≤1000],.next,some (.ref 0),some (.uint gone),⟨Av sc far xs,25⟩)]:LF):=by rintro _ rfl; rfl'
theorem GK:be ig [(0,.slist xs)] (Av sc far xs)=true:=by rfl'
theorem GJ:aM 0 (aW ig (Av sc far xs))=some (.slist ((xs++[SV.ref 11])++[SV.ref 24])):=by rfl'
end
section
theorem qb {σ:Hp}{k:Nat}{o:SO}{q:Addr×Addr}(h:(k,o)∈σ)(hq:ρ[k]?=some q):∀ a∈aN q o,a∈ae ρ σ:=fun a ha=>aw.mpr ⟨_,h,q,hq,ha⟩
theorem ky {gone:Int}{xs ys:List SV}{ids:List Nat}{q:Addr×Addr}{kR:Nat}{L:Loc}(hcx:cx.cells=[])(T:To [env.locals] F [q] ⟨[(0,.slist xs)],1⟩ s F' ρ' ⟨σ',n⟩ s')(a₀:At F [q] ⟨[(0,.slist xs)],1⟩ s)(fm:Fm F' ρ' σ' cx env L s'.heap)
  (hk:be ids [(0,.slist xs)] σ'=true) (hl:aM kR (aW ids σ')=some (.slist ys)) (hkn:kR<n) (h1:af "rows" L=some (.ref kR)) (h2:af "gone" L=some (.uint gone)) :
  ∃ F'' q',ToU [env.locals] F [q] ⟨[(0,.slist xs)],1⟩ s F'' [q'] ⟨[(0,.slist (ys.map (gv ρ')))],1⟩ s'∧At F'' ρ' ⟨aW ids σ',n⟩ s'∧Fm F'' [q'] [(0,.slist (ys.map (gv ρ')))] cx env (fnL gone) s'.heap∧F.Sub F'':=by
 obtain ⟨F'',hFF,hout,T₂⟩:=T.freezeX a₀ ids hk
 dsimp only at T₂
 have hlen:ρ'.length=n:=T₂.at'.len
 obtain ⟨q',hq'⟩:∃ q',ρ'[kR]?=some q':=⟨_,List.getElem?_eq_getElem (by omega)⟩
 have hm:=aL hl
 obtain ⟨_,hq2,vs,c,ho,hv⟩:=T₂.at'.rep.ok _ hm
 have hq2:ρ'[kR]?=some _:=hq2
 rw [hq'] at hq2; cases hq2
 have fsub:∀ a∈ae [q'] [(0,SO.slist (ys.map (gv ρ')))],a∈ae ρ' (aW ids σ'):=fun a ha=>qb hm hq' a (by
  exact (show a∈[q'.1] from ha))
 have a1:At F'' [q'] ⟨[(0,.slist (ys.map (gv ρ')))],1⟩ s':=by
  refine T₂.at'.sub rfl (fun e he=>?_) (fun e he o eo=>?_) ?_ fsub
  ·obtain rfl:=ak he
   exact ⟨q',rfl,vs,c,ho,hv.sta⟩
  ·obtain rfl:=ak he; cases eo
  ·show ([q'.1]++[]:List Addr).Nodup
   simp
 have hfo:env.locals∉ae ρ' (aW ids σ'):=fun z=>fm.out (eF.subset z)
 refine ⟨F'',q',T₂.u.sub a1 fsub,T₂.at',?_,fun a o e=>hFF a o (T.ext.fz a o e)⟩
 obtain ⟨g,hg,hr⟩:=fm.ns
 refine ⟨⟨fm.eok.sc,fm.eok.gl,fm.eok.bu,fm.eok.kd,fun x k e=>by rw [hcx] at e; simp [af] at e⟩,⟨g,hg,fun x sv e=>?_⟩,fun z=>hfo (fsub _ z),by rw [hout _ fm.out]; exact fm.free⟩
 unfold fnL at e
 simp only [af] at e
 split at e
 ·rename_i ex; rw [aQ] at ex; subst ex; cases e
  obtain ⟨v,hv',i⟩:=hr _ _ h1
  obtain ⟨q2,hq2,rfl⟩:=i
  rw [hq'] at hq2; cases hq2
  exact ⟨_,hv',q',rfl,rfl⟩
 ·split at e
  ·rename_i ex; rw [aQ] at ex; subst ex; cases e
   obtain ⟨v,hv',i⟩:=hr _ _ h2
   exact ⟨_,hv',i⟩
  ·cases e
end
end
section
section
theorem iC {P:Fl×Loc×St→Prop}{r:Res (Fl×Loc×St)}{nd:List Prop}{fl:Fl}{o1 o2:Option SV}{st:St}(e:(aq r).map eI=[([],nd,fl,o1,o2,st)])(hn:∀ n∈nd,n)(h:∀ L,af "rows" L=o1→af "gone" L=o2→P (fl,L,st)):r.Ok P:=
 Res.ok_paths (.next,[],⟨[],0⟩) fun q hq ha=>by
  have hm:eI (q.asm,q.nd,q.res)∈[(([]:List Prop),nd,fl,o1,o2,st)]:=by
   rw [←e]
   exact List.mem_map_of_mem (List.mem_map.mpr ⟨q,hq,rfl⟩)
  rw [List.mem_singleton] at hm
  obtain ⟨qa,qn,qf,qL,qs⟩:=q
  unfold eI at hm
  obtain ⟨_,g2⟩:=Prod.mk.inj hm
  obtain ⟨k2,g3⟩:=Prod.mk.inj g2
  obtain ⟨k3,g4⟩:=Prod.mk.inj g3
  obtain ⟨k4,g5⟩:=Prod.mk.inj g4
  obtain ⟨k5,k6⟩:=Prod.mk.inj g5
  clear g2 g3 g4 g5 hm
  have k2:qn=nd:=k2
  have k3:qf=fl:=k3
  have k6:qs=st:=k6
  have k4:af "rows" qL=o1:=k4
  have k5:af "gone" qL=o2:=k5
  subst k2 k3 k6
  exact ⟨hn,h qL k4 k5⟩
theorem nJ (as:List Addr):(as.map SV.sta).map (gv ρ)=as.map SV.sta:=by rw [List.map_map]; rfl
noncomputable def ji (cx:Cx)(env:Env)(gone:Int)(F:Fz)(q:Addr×Addr)(as:List Addr)(L:List PR)(s s':Shared):Prop:=
 ∃ F' q' new,ToU [env.locals] F [q] ⟨[(0,.slist (as.map SV.sta))],1⟩ s F' [q'] ⟨[(0,.slist ((as++new).map SV.sta))],1⟩ s'∧Fm F' [q'] [(0,.slist ((as++new).map SV.sta))] cx env (fnL gone) s'.heap∧F.Sub F'∧ag (fun x r=>PrF F' x r) new L
theorem t7 {gone sp sc far:Int}{q:Addr×Addr}{as:List Addr}{sts:List Stmt}{Q:Flow→Shared→Prop}(hs:sts=ah (ad 3 (fnB p)))(rm:aj 38 A)(a₀:At F [q] ⟨[(0,.slist (as.map SV.sta))],1⟩ s)(fm:Fm F [q] [(0,.slist (as.map SV.sta))] (c7 p 38) env (fnT gone "deep" (.uint sp) sc far) s.heap)
  (h0:0≤sp∧sp<4) (hl:as.length≤100) (h:∀ s',ji (c7 p 38) env gone F q as (aO (.deep sp sc far)) s s'→Q .next s'):wpAny (model prog w) A (execs sts env) Q E s:=by
 obtain ⟨v,hv,S⟩:=dj
 have e1:=JA p gone sp sc far (as.map SV.sta) v hv
 rw [←hs] at e1
 refine S.ss rm a₀ fm (iC e1 (fun P hP=>by
  exact bC hP (by omega) fun hP=>bC hP (by simp; omega) fun hP=>bC hP (by simp; omega) fun hP=>bC hP (by simp; omega) fun hP=>nomatch hP) fun L e2 e3 F₁ ρ₁ s₁ f T₁ fm₁ hf=>?_)
 dsimp only at T₁ fm₁ hf
 cases hf
 obtain ⟨F₂,q',TU,a2,fm₂,hsub⟩:=ky rfl T₁ a₀ fm₁ (Jz sp sc far (as.map SV.sta)) (Jy sp sc far (as.map SV.sta)) (by decide) e2 e3
 have hlen:ρ₁.length=39:=a2.len
 have g:∀ {k:Nat},k<39→ρ₁[k]?=some (ρ₁.getD k (0,0)):=fun hk=>gN (by rw [hlen]; exact hk)
 have ey:((((as.map SV.sta++[SV.ref 7,SV.ref 14])++[SV.ref 17,SV.ref 23])++[SV.ref 38]).map (gv ρ₁))=(as++[(ρ₁.getD 7 (0,0)).1,(ρ₁.getD 14 (0,0)).1,(ρ₁.getD 17 (0,0)).1,(ρ₁.getD 23 (0,0)).1,(ρ₁.getD 38 (0,0)).1]).map SV.sta:=by
  simp only [List.map_append,nJ,List.append_assoc]
  rfl
 rw [ey] at TU fm₂
 refine h _ ⟨F₂,q',_,TU,fm₂,hsub,?_⟩
 refine .cons (bM a2 (k:=7) ["rax"] (.push 0) (g (by decide)) ⟨by rfl',by rfl'⟩ (by rfl')) ?_
 refine .cons (bM a2 (k:=14) ["rcx"] (.movI 1 sp) (g (by decide)) ⟨by rfl',by rfl'⟩ (by rfl')) ?_
 refine .cons (wg a2 (g (by decide)) (k:=17) (sv:=.int (-9)) (by rfl') rfl) ?_
 refine .cons (bM a2 (k:=23) ["r11"] (.pop 11) (g (by decide)) ⟨by rfl',by rfl'⟩ (by rfl')) ?_
 exact .cons (bM a2 (k:=38) ["rax","rax","r11"] (.lea 0 0 11 sc far) (g (by decide)) ⟨by rfl',by rfl'⟩ (by rfl')) .nil
theorem gX {gone sc far:Int}{q:Addr×Addr}{as:List Addr}{Q:Flow→Shared→Prop}{i:Int}{sts:List Stmt}{idx:Int}{nm:Str}{sg:List SV→Hp}(rm:aj 38 A)(a₀:At F [q] ⟨[(0,.slist (as.map SV.sta))],1⟩ s)(fm:Fm F [q] [(0,.slist (as.map SV.sta))] (c7 p 38) env (fnT gone "arg" (.int i) sc far) s.heap)
  (hl:as.length≤100) {v:Ev} (S:aG v)
  (f1:(aq (v.ss (c7 p 38) (fnT gone "arg" (.int i) sc far) sts ⟨[(0,.slist (as.map SV.sta))],1⟩)).map eI=([([],[(as.map SV.sta).length≤1000],.next,some (.ref 0),some (.uint gone),⟨sg (as.map SV.sta),15⟩)]:LF))
  (fk:be gz [(0,.slist (as.map SV.sta))] (sg (as.map SV.sta))=true) (fl:aM 0 (aW gz (sg (as.map SV.sta)))=some (.slist (as.map SV.sta++[SV.ref 14])))
  (fr:(eR (aW gz (sg (as.map SV.sta))) 14).head?=some 14∧(eR (aW gz (sg (as.map SV.sta))) 14).length=7) (fc:(dn (dum++eR (aW gz (sg (as.map SV.sta))) 14) (aW gz (sg (as.map SV.sta))) nS).map gw=(gq (pq ["rax","rax",nm]) (.lea 0 0 idx sc far)).map gw)
  (h:∀ s',ji (c7 p 38) env gone F q as [.ins (.lea 0 0 idx sc far)] s s'→Q .next s'):wpAny (model prog w) A (execs sts env) Q E s:=by
 refine S.ss rm a₀ fm (iC f1 (fun P hP=>by
  obtain rfl:=ak hP; simp; omega) fun L e2 e3 F₁ ρ₁ s₁ f T₁ fm₁ hf=>?_)
 dsimp only at T₁ fm₁ hf
 cases hf
 obtain ⟨F₂,q',TU,a2,fm₂,hsub⟩:=ky rfl T₁ a₀ fm₁ fk fl (by decide) e2 e3
 have hlen:ρ₁.length=15:=a2.len
 have ey:((as.map SV.sta++[SV.ref 14]).map (gv ρ₁))=(as++[(ρ₁.getD 14 (0,0)).1]).map SV.sta:=by
  simp only [List.map_append,nJ]
  rfl
 rw [ey] at TU fm₂
 exact h _ ⟨F₂,q',_,TU,fm₂,hsub,.cons (bM a2 (k:=14) ["rax","rax",nm] (.lea 0 0 idx sc far) (gN (by rw [hlen]; decide)) fr fc) .nil⟩
theorem mY {gone sc far:Int}{q:Addr×Addr}{as:List Addr}{Q:Flow→Shared→Prop}{i:Int}{sts:List Stmt}{off:Int}{sg:List SV→Hp}(rm:aj 38 A)(a₀:At F [q] ⟨[(0,.slist (as.map SV.sta))],1⟩ s)(fm:Fm F [q] [(0,.slist (as.map SV.sta))] (c7 p 38) env (fnT gone "arg" (.int i) sc far) s.heap)
  (hl:as.length≤100) {v:Ev} (S:aG v)
  (f1:(aq (v.ss (c7 p 38) (fnT gone "arg" (.int i) sc far) sts ⟨[(0,.slist (as.map SV.sta))],1⟩)).map eI=([([],[(as.map SV.sta).length≤1000,(as.map SV.sta++[SV.ref 11]).length≤1000],.next,some (.ref 0),some (.uint gone),⟨sg (as.map SV.sta),25⟩)]:LF))
  (fk:be ig [(0,.slist (as.map SV.sta))] (sg (as.map SV.sta))=true) (fl:aM 0 (aW ig (sg (as.map SV.sta)))=some (.slist ((as.map SV.sta++[SV.ref 11])++[SV.ref 24])))
  (fr:(eR (aW ig (sg (as.map SV.sta))) 11).head?=some 11∧(eR (aW ig (sg (as.map SV.sta))) 11).length=7) (fc:(dn (dum++eR (aW ig (sg (as.map SV.sta))) 11) (aW ig (sg (as.map SV.sta))) nS).map gw=(gq (pq ["r10","rbp"]) (.movM 10 5 off)).map gw)
  (gr:(eR (aW ig (sg (as.map SV.sta))) 24).head?=some 24∧(eR (aW ig (sg (as.map SV.sta))) 24).length=7) (gc:(dn (dum++eR (aW ig (sg (as.map SV.sta))) 24) (aW ig (sg (as.map SV.sta))) nS).map gw=(gq (pq ["rax","rax","r10"]) (.lea 0 0 10 sc far)).map gw)
  (h:∀ s',ji (c7 p 38) env gone F q as [.ins (.movM 10 5 off),.ins (.lea 0 0 10 sc far)] s s'→Q .next s'):wpAny (model prog w) A (execs sts env) Q E s:=by
 refine S.ss rm a₀ fm (iC f1 (fun P hP=>by
  exact bC hP (by simp; omega) fun hP=>bC hP (by simp; omega) fun hP=>nomatch hP) fun L e2 e3 F₁ ρ₁ s₁ f T₁ fm₁ hf=>?_)
 dsimp only at T₁ fm₁ hf
 cases hf
 obtain ⟨F₂,q',TU,a2,fm₂,hsub⟩:=ky rfl T₁ a₀ fm₁ fk fl (by decide) e2 e3
 have hlen:ρ₁.length=25:=a2.len
 have ey:(((as.map SV.sta++[SV.ref 11])++[SV.ref 24]).map (gv ρ₁))=(as++[(ρ₁.getD 11 (0,0)).1,(ρ₁.getD 24 (0,0)).1]).map SV.sta:=by
  simp only [List.map_append,nJ,List.append_assoc]
  rfl
 rw [ey] at TU fm₂
 exact h _ ⟨F₂,q',_,TU,fm₂,hsub,.cons (bM a2 (k:=11) ["r10","rbp"] (.movM 10 5 off) (gN (by rw [hlen]; decide)) fr fc) (.cons (bM a2 (k:=24) ["rax","rax","r10"] (.lea 0 0 10 sc far) (gN (by rw [hlen]; decide)) gr gc) .nil)⟩
theorem vq {gone sc far:Int}{q:Addr×Addr}{as:List Addr}{j:Nat}{sts:List Stmt}{Q:Flow→Shared→Prop}(hs:sts=ah (ad 3 (fnB p)))(rm:aj 38 A)(a₀:At F [q] ⟨[(0,.slist (as.map SV.sta))],1⟩ s)(fm:Fm F [q] [(0,.slist (as.map SV.sta))] (c7 p 38) env (fnT gone "arg" (.int (j:Nat)) sc far) s.heap)
  (hj:j<9) (hl:as.length≤100) (h:∀ s',ji (c7 p 38) env gone F q as (aO (.arg j sc far)) s s'→Q .next s'):wpAny (model prog w) A (execs sts env) Q E s:=by
 obtain ⟨v,hv,S⟩:=dj
 have g0:=fun xs=>Ha p gone sc far xs v hv
 have g1:=fun xs=>G7 p gone sc far xs v hv
 have g2:=fun xs=>G4 p gone sc far xs v hv
 have g3:=fun xs=>G1 p gone sc far xs v hv
 have g4:=fun xs=>GY p gone sc far xs v hv
 have g5:=fun xs=>GV p gone sc far xs v hv
 have g6:=fun xs=>GS p gone sc far xs v hv
 have g7:=fun xs=>GO p gone sc far xs v hv
 have g8:=fun xs=>GL p gone sc far xs v hv
 rw [←hs] at g0
 rw [←hs] at g1
 rw [←hs] at g2
 rw [←hs] at g3
 rw [←hs] at g4
 rw [←hs] at g5
 rw [←hs] at g6
 rw [←hs] at g7
 rw [←hs] at g8
 have hc:j=0∨j=1∨j=2∨j=3∨j=4∨j=5∨j=6∨j=7∨j=8:=(by decide:∀ j<9,j=0∨j=1∨j=2∨j=3∨j=4∨j=5∨j=6∨j=7∨j=8) j (by assumption)
 rcases hc with rfl | rfl | rfl | rfl | rfl | rfl | rfl | rfl | rfl
 ·have e:aO (.arg 0 sc far)=[.ins (.lea 0 0 7 sc far)]:=by simp [aO,ct]
  rw [e] at h
  exact gX (i:=0) (idx:=7) (nm:="rdi") (sg:=AD sc far) rm a₀ fm hl S (g0 _) (G9 sc far _) (G8 sc far _) ⟨by rfl',by rfl'⟩ (by rfl') h
 ·have e:aO (.arg 1 sc far)=[.ins (.lea 0 0 6 sc far)]:=by simp [aO,ct]
  rw [e] at h
  exact gX (i:=1) (idx:=6) (nm:="rsi") (sg:=AC sc far) rm a₀ fm hl S (g1 _) (G6 sc far _) (G5 sc far _) ⟨by rfl',by rfl'⟩ (by rfl') h
 ·have e:aO (.arg 2 sc far)=[.ins (.lea 0 0 2 sc far)]:=by simp [aO,ct]
  rw [e] at h
  exact gX (i:=2) (idx:=2) (nm:="rdx") (sg:=AB sc far) rm a₀ fm hl S (g2 _) (G3 sc far _) (G2 sc far _) ⟨by rfl',by rfl'⟩ (by rfl') h
 ·have e:aO (.arg 3 sc far)=[.ins (.lea 0 0 1 sc far)]:=by simp [aO,ct]
  rw [e] at h
  exact gX (i:=3) (idx:=1) (nm:="rcx") (sg:=AA sc far) rm a₀ fm hl S (g3 _) (G0 sc far _) (GZ sc far _) ⟨by rfl',by rfl'⟩ (by rfl') h
 ·have e:aO (.arg 4 sc far)=[.ins (.lea 0 0 8 sc far)]:=by simp [aO,ct]
  rw [e] at h
  exact gX (i:=4) (idx:=8) (nm:="r8") (sg:=Az sc far) rm a₀ fm hl S (g4 _) (GX sc far _) (GW sc far _) ⟨by rfl',by rfl'⟩ (by rfl') h
 ·have e:aO (.arg 5 sc far)=[.ins (.lea 0 0 9 sc far)]:=by simp [aO,ct]
  rw [e] at h
  exact gX (i:=5) (idx:=9) (nm:="r9") (sg:=Ay sc far) rm a₀ fm hl S (g5 _) (GU sc far _) (GT sc far _) ⟨by rfl',by rfl'⟩ (by rfl') h
 ·have e:aO (.arg 6 sc far)=[.ins (.movM 10 5 16),.ins (.lea 0 0 10 sc far)]:=by simp [aO,ct]
  rw [e] at h
  exact mY (i:=6) (off:=16) (sg:=Ax sc far) rm a₀ fm hl S (g6 _) (GR sc far _) (GQ sc far _) ⟨by rfl',by rfl'⟩ (by rfl') ⟨by rfl',by rfl'⟩ (by rfl') h
 ·have e:aO (.arg 7 sc far)=[.ins (.movM 10 5 24),.ins (.lea 0 0 10 sc far)]:=by simp [aO,ct]
  rw [e] at h
  exact mY (i:=7) (off:=24) (sg:=Aw sc far) rm a₀ fm hl S (g7 _) (GN sc far _) (GM sc far _) ⟨by rfl',by rfl'⟩ (by rfl') ⟨by rfl',by rfl'⟩ (by rfl') h
 ·have e:aO (.arg 8 sc far)=[.ins (.movM 10 5 32),.ins (.lea 0 0 10 sc far)]:=by simp [aO,ct]
  rw [e] at h
  exact mY (i:=8) (off:=32) (sg:=Av sc far) rm a₀ fm hl S (g8 _) (GK sc far _) (GJ sc far _) ⟨by rfl',by rfl'⟩ (by rfl') ⟨by rfl',by rfl'⟩ (by rfl') h
end
end
section
section
variable {M:Model}
theorem jc {Γ:Ctx}{b:List Stmt}{Q:Flow→Shared→Prop}(hΓ:Γ.In A):∀ (a:List Stmt)(p:Pos)(s:Shared),
  Sem.wp M Γ (execs a env) (fun f _ s'=>match f with | .next=>wpAny M A (execs b env) Q E s' | f=>Q f s') (fun e _ s'=>E e s') p s→Sem.wp M Γ (execs (a++b) env) (fun f _ s'=>Q f s') (fun e _ s'=>E e s') p s
 | [],p,s,h=>by
  have h:wpAny M A (execs b env) Q E s:=h
  exact h Γ p hΓ
 | x::r,p,s,h=>by
  rw [List.cons_append,execs_cons,Sem.wp_bind']
  rw [execs_cons,Sem.wp_bind'] at h
  refine Sem.wp_mono M Γ _ (fun f p' s' h'=>?_) (fun _ _ _ h'=>h') _ _ h
  cases f<;>first | exact jc hΓ r p' s' h' | exact h'
theorem uN {a b:List Stmt}{Q:Flow→Shared→Prop}(h:wpAny M A (execs a env) (fun f s'=>match f with | .next=>wpAny M A (execs b env) Q E s' | f=>Q f s') E s):wpAny M A (execs (a++b) env) Q E s:=
 fun Γ p hΓ=>jc hΓ a p s (h Γ p hΓ)
end
noncomputable def fnA (pa:Addr)(first kept gone:Int):Loc:=[("parts",.sta pa),("first",.uint first),("kept",.uint kept),("gone",.uint gone)]
noncomputable def Jw (pa:Addr)(first kept gone:Int):Loc:=fnA pa first kept gone++([("rows",.ref 31)]:Loc)
noncomputable def rZ (pa:Addr)(gone:Int):Loc:=fnL gone++([("parts",.sta pa)]:Loc)
noncomputable def Ak:List Nat:=[0,1,2,3,4,5,6,7,8,9,10,11,12,13,14,15,16,17,18,19,20,21,22,23,24,25,26,27,28,29,30,32,33,34,35,36,37,38]
noncomputable def gf:List Nat:=[1,2,3,4,5,6,7,8,9,10,11,12,13,14,15]
noncomputable abbrev gQ (p:Params):Stmt:=ad 3 (fnB p)
section
variable (p:Params)(pa:Addr)(first kept gone sp sc far:Int)(xs:List SV)
theorem DS:fQ (an p) 1082=true:=by rfl'
theorem qe:bj ((an p).lookup 1082)=(["parts","first","kept","gone"]:List Str):=by rfl'
theorem Au:fnB p=(fnB p).take 3++(gQ p::(fnB p).drop 4):=by rfl'
theorem DN:gQ p=.For (.Tuple (cJ (aF (gQ p))) (tuK (aF (gQ p))) (Expr.pos (aF (gQ p)))) (aC (gQ p)) (ah (ad 3 (fnB p))) [] (aS (gQ p)):=by rfl'
theorem DM:d7 (aC (gQ p))=false:=by rfl'
theorem Jv:∀ v,E6 v→aq (v.ss (c7 p 38) (fnA pa first kept gone) ((fnB p).take 3) ⟨[],0⟩)=([([],[],.next,Jw pa first kept gone,⟨tM first kept,39⟩)]:LS):=by rintro _ rfl; rfl'
theorem Jt:be Ak [] (tM first kept)=true:=rfl
theorem Js:aM 31 (aW Ak (tM first kept))=some (.list [.ref 5,.ref 15,.ref 22,.ref 29,.ref 38]):=by rfl'
theorem GH:∀ v,E6 v→am (v.e (c7 p 38) (rZ pa gone) (aC (gQ p)) ⟨[(0,.slist xs)],1⟩)=([([],[],.sta pa,⟨[(0,.slist xs)],1⟩)]:LE):=by rintro _ rfl; rfl'
theorem Jr (sort:Str)(sv:SV):bR (c7 p 38) (cJ (aF (gQ p))) [.str sort,sv,.uint sc,.uint far] (fnL gone)=some (fnT gone sort sv sc far):=by rfl'
theorem Ju:∀ v,E6 v→(aq (v.ss (c7 p 38) (fnL gone) ((fnB p).drop 4) ⟨[(0,.slist xs)],1⟩)).map (fun q=>(q.1,q.2.1,q.2.2.1,q.2.2.2.2)) =
  ([([decide (0<gone)=true],[xs.length+2≤1000,(xs++[SV.ref 6,SV.ref 8]).length+1≤1000],.ret (.ref 15),⟨xE gone xs,16⟩),([decide (0<gone)=false],[xs.length+2≤1000,(xs++[SV.ref 6,SV.ref 8]).length+1≤1000],.ret (.ref 14),⟨xF xs,15⟩)]:List (List Prop×List Prop×Fl×St)):=by rintro _ rfl; rfl'
theorem DO:aM 15 (aW gf (xE gone xs))=some (.ro (.slist ((xs++[SV.ref 6,SV.ref 8])++[SV.ref 13]))):=by rfl'
theorem DQ:aM 14 (aW gf (xF xs))=some (.ro (.slist ((xs++[SV.ref 6,SV.ref 8])++[SV.ref 12]))):=by rfl'
theorem DP:be gf [(0,.slist xs)] (xE gone xs)=true:=by rfl'
theorem DR:be gf [(0,.slist xs)] (xF xs)=true:=by rfl'
end
end
section
section
theorem ed.mono {a:Addr}{x:bo}(h:ed F a x)(k:F.Sub F'):ed F' a x:=fun g hg=>h g fun c o e=>hg c o (k c o e)
theorem eX.mono {a:Addr}{ps:List bo}(h:eX F a ps)(k:F.Sub F'):eX F' a ps:=by
 obtain ⟨as,h1,n,h2⟩:=h
 exact ⟨as,h1.imp fun _ _ z=>z.mono k,n,k _ _ h2⟩
theorem gC:∀ {as:List Addr}{vs:List Value},ag (SV.Is ρ) (as.map SV.sta) vs→vs=as.map Value.ref
 | [],vs,h=>by cases h; rfl
 | a::as,_,.cons i t=>by
  cases i
  rw [gC t]; rfl
theorem ag.split {α β:Type}{R:α→β→Prop}:∀ {a b:List α}{cs:List β},ag R (a++b) cs→∃ c d,cs=c++d∧ag R a c∧ag R b d
 | [],b,cs,h=>⟨[],cs,rfl,.nil,h⟩
 | x::a,b,_,.cons i t=>by
  obtain ⟨c,d,rfl,h1,h2⟩:=ag.split (a:=a) t
  exact ⟨_::c,d,rfl,.cons i h1,h2⟩
theorem vV (at':At F ρ ⟨σ,n⟩ s){k:Nat}{q0:Addr×Addr}{as:List Addr}{rs:List Nat}{L:List PR}(hq0:ρ[k]?=some q0)(hk:aM k σ=some (.ro (.slist (as.map SV.sta++rs.map SV.ref))))(hL:ag (fun x r=>PrF F x r) (as++rs.map fun r=>(ρ.getD r (0,0)).1) L):d9 F q0.1 L:=by
 refine ⟨_,hL,fun g hg=>?_⟩
 obtain ⟨vs,c,ho,hv⟩:=at'.rep.ro _ (aL hk) _ rfl q0 hq0 g hg
 refine ⟨c,?_⟩
 obtain ⟨c1,c2,e,h1,h2⟩:=ag.split hv
 have e1:=gC h1
 have e2:=hZ h2
 have:vs=((as++rs.map fun r=>(ρ.getD r (0,0)).1).map Value.ref).toArray:=by
  apply Array.toList_inj.mp
  rw [e,e1,e2]; simp
 rw [ho,this]
theorem At.bare (at':At F ρ st s):At F [] ⟨[],0⟩ s:=
 ⟨⟨at'.rep.le,at'.rep.wd,(fun _ h=>nomatch h),(fun _ h=>nomatch h),List.nodup_nil,(fun _ h=>nomatch h)⟩,rfl⟩
theorem lz (x:bo):(aO x).length≤5:=by
 cases x with
 | deep a b c=>simp [aO]
 | arg j b c=>by_cases h:j≤5<;>simp [aO,h]
theorem rt {α β:Type}{P:α→Prop}(g:α→β)(d:α){r:Res α}{L:List (List Prop×List Prop×β)}(e:((r.paths d).map fun q=>(q.asm,q.nd,q.res)).map (fun q=>(q.1,q.2.1,g q.2.2))=L)
  (h:∀ y∈L,(∀ a∈y.1,a)→(∀ n∈y.2.1,n)∧∀ x,g x=y.2.2→P x):r.Ok P:=
 Res.ok_paths d fun q hq ha=>by
  have:(q.asm,q.nd,g q.res)∈L:=by
   rw [←e,List.map_map]
   exact List.mem_map.mpr ⟨q,hq,rfl⟩
  obtain ⟨h1,h2⟩:=h _ this ha
  exact ⟨h1,h2 _ rfl⟩
set_option maxHeartbeats 2000000 in
theorem As {ps:List bo}{pa:Addr}{first kept gone:Int}{t1 t2 t3:Tok}{Q:Value→Shared→Prop}(rm:aj 39 A)(at':At F [] ⟨[],0⟩ s)(hps:eX F pa ps)(hok:∀ x∈ps,sI x)(hlen:ps.length≤5)
  (h:∀ F' s' a,To [] F [] ⟨[],0⟩ s F' [] ⟨[],0⟩ s'→d9 F' a (bH ps first kept gone)→Q (.ref a) s'):wpAny (model prog w) A (call (.ref 1082) [.ref pa,.int first t1,.int kept t2,.int gone t3]) Q E s:=by
 obtain ⟨v,hv,S⟩:=dj
 refine dR (d:=38) (args:=[.sta pa,.uint first,.uint kept,.uint gone]) (DS p) rm at' (.cons rfl (.cons ⟨t1,rfl⟩ (.cons ⟨t2,rfl⟩ (.cons ⟨t3,rfl⟩ .nil)))) (by rw [qe]; rfl) fun env s₀ T₀ fm₀ nw rm'=>?_
 rw [qe] at fm₀
 have fm₀:Fm F [] [] (c7 p 38) env (fnA pa first kept gone) s₀.heap:=fm₀
 have nl:=@noA env.locals
 show wpAny _ _ (execs (fnB p) env) _ _ _
 rw [Au]
 have e1:=Jv p pa first kept gone v hv
 have e2:=DN p
 have e3:=fun g xs=>GH p pa g xs v hv
 have e4:=fun g sc far sort sv=>Jr p g sc far sort sv
 have e5:=fun g xs=>Ju p g xs v hv
 have e6:=DM p
 generalize (fnB p).take 3=b0 at e1 ⊢
 generalize (fnB p).drop 4=b4 at e5 ⊢
 generalize hbT:ah (ad 3 (fnB p))=bT at e2
 generalize hFor:gQ p=fF at e2 e3 e4 e6 ⊢
 generalize aC fF=it at e2 e3 e6
 generalize cJ (aF fF)=tE at e2 e4
 generalize tuK (aF fF)=tK at e2
 generalize Expr.pos (aF fF)=tP at e2
 generalize aS fF=fP at e2
 subst e2
 refine uN (S.ss rm' T₀.at' fm₀ (ac _ e1 noP fun F₁ ρ₁ s₁ f T₁ fm₁ hf=>?_))
 cases hf
 dsimp only at T₁ fm₁ ⊢
 obtain ⟨F₂,hFF,hout,T₂⟩:=T₁.freezeX T₀.at' Ak (Jt first kept)
 dsimp only at T₂
 have hl1:ρ₁.length=39:=T₂.at'.len
 have g1:∀ {k:Nat},k<39→ρ₁[k]?=some (ρ₁.getD k (0,0)):=fun hk=>gN (by rw [hl1]; exact hk)
 have a2:=T₂.at'
 have hm:=aL (Js first kept)
 obtain ⟨q31,hq31,vs,c,ho,hvs⟩:=a2.rep.ok _ hm
 have hq31:ρ₁[31]?=some q31:=hq31
 let as0:List Addr:=[5,15,22,29,38].map fun r=>(ρ₁.getD r (0,0)).1
 have evs:vs.toList=as0.map Value.ref:=hZ (rs:=[5,15,22,29,38]) hvs
 have fsub:∀ a∈ae [q31] [(0,SO.slist (as0.map SV.sta))],a∈ae ρ₁ (aW Ak (tM first kept)):=fun a ha=>qb hm hq31 a (by
  exact (show a∈[q31.1] from ha))
 have a3:At F₂ [q31] ⟨[(0,.slist (as0.map SV.sta))],1⟩ s₁:=by
  refine a2.sub rfl (fun e he=>?_) (fun e he o eo=>?_) ?_ fsub
  ·obtain rfl:=ak he
   exact ⟨q31,rfl,vs,c,ho,ag.sta (xs:=[5,15,22,29,38].map SV.ref) hvs⟩
  ·obtain rfl:=ak he; cases eo
  ·show ([q31.1]++[]:List Addr).Nodup
   simp
 have TU₃:ToU [env.locals] F [] ⟨[],0⟩ s F₂ [q31] ⟨[(0,.slist (as0.map SV.sta))],1⟩ s₁:=((T₀.nil (X:=[env.locals])).trans T₂).u.sub a3 fsub
 have fm₃:Fm F₂ [q31] [(0,.slist (as0.map SV.sta))] (c7 p 38) env (rZ pa gone) s₁.heap:=by
  obtain ⟨g,hg,hr⟩:=fm₁.ns
  refine ⟨⟨fm₁.eok.sc,fm₁.eok.gl,fm₁.eok.bu,fm₁.eok.kd,fun x k e=>by simp [af] at e⟩,⟨g,hg,fun x sv e=>?_⟩,fun z=>fm₁.out (eF.subset (fsub _ z)),by rw [hout _ fm₁.out]; exact fm₁.free⟩
  unfold rZ fnL at e
  simp only [List.cons_append,List.nil_append,af] at e
  split at e
  ·rename_i ex; rw [aQ] at ex; subst ex; cases e
   obtain ⟨v',hv',i⟩:=hr "rows" (.ref 31) (by rfl)
   obtain ⟨q2,hq2,rfl⟩:=i
   rw [hq31] at hq2; cases hq2
   exact ⟨_,hv',q31,rfl,rfl⟩
  ·split at e
   ·rename_i ex; rw [aQ] at ex; subst ex; cases e
    obtain ⟨v',hv',i⟩:=hr "gone" (.uint gone) (by rfl)
    exact ⟨_,hv',i⟩
   ·split at e
    ·rename_i ex; rw [aQ] at ex; subst ex; cases e
     obtain ⟨v',hv',i⟩:=hr "parts" (.sta pa) (by rfl)
     exact ⟨_,hv',i⟩
    ·cases e
 have hhead:ag (fun x r=>PrF F₂ x r) as0 (gP first kept):=by
  refine .cons (bM a2 (k:=5) ["rbp"] (.push 5) (g1 (by decide)) ⟨by rfl',by rfl'⟩ (by rfl')) ?_
  refine .cons (bM a2 (k:=15) ["rbp","rsp"] (.movR 5 4) (g1 (by decide)) ⟨by rfl',by rfl'⟩ (by rfl')) ?_
  refine .cons (bM a2 (k:=22) ["rbx"] (.push 3) (g1 (by decide)) ⟨by rfl',by rfl'⟩ (by rfl')) ?_
  refine .cons (bM a2 (k:=29) ["rbx"] (.movI 3 kept) (g1 (by decide)) ⟨by rfl',by rfl'⟩ (by rfl')) ?_
  exact .cons (bM a2 (k:=38) ["rax"] (.movI 0 first) (g1 (by decide)) ⟨by rfl',by rfl'⟩ (by rfl')) .nil
 have las0:as0.length=5:=rfl
 clear_value as0
 have kF₂:F.Sub F₂:=fun a o e=>TU₃.fz a o e
 obtain ⟨pas,hpas,pn,hFpa⟩:=hps.mono kF₂
 refine wpAny_execs_cons (wpAny_For ?_ (by intro x; cases it<;>first | rfl | cases e6))
 refine S.e rm' a3 fm₃ (ac _ (e3 gone _) noP (bS rfl fun F₄ s₄ xv T₄ ixv=>?_))
 dsimp only at T₄ ixv
 cases ixv
 have TU₄:=TU₃.trans (T₄.nil (X:=[env.locals])).u
 have fm₄:=fm₃.to T₄ nl
 have hall:∀ g,F₄.le g→g.IsList pa (pas.map Value.ref).toArray:=fun g hg=>au (hg _ _ (T₄.ext.fz _ _ hFpa))
 refine wpAny_pyIter_list (hall _ T₄.at'.rep.le) ?_
 have hsz:(pas.map Value.ref).toArray.size=ps.length:=by simp [hpas.length]
 refine mK (W:=[s₄.heap.objs.size]) (F₀:=F₄) (iF rm'.hand hall (fun i v e=>by
   rw [←Array.getElem?_toList] at e
   simp only [List.getElem?_map] at e
   cases q:pas[i]? with
   | none=>rw [q] at e; cases e
   | some a=>rw [q] at e; cases e; exact ⟨a,rfl⟩))
  (J:=fun i F ρ' st m=>∃ q as,ρ'=[q]∧st=⟨[(0,.slist (as.map SV.sta))],1⟩∧(m=rZ pa gone∨m=fnL gone)∧ag (fun x r=>PrF F x r) as (gP first kept++(ps.take i).flatMap aO)∧as.length≤5+5*i)
  (fun c hc=>by obtain rfl:=ak hc; exact aT _) ?_ ?_ T₄.at' fm₄ ⟨q31,as0,rfl,rfl,.inl rfl,by simpa using hhead.imp fun _ _ z=>z.mono T₄.ext.fz,by omega⟩
  (fun c o e=>Heap.get?_push_of_some _ e) ⟨⟨_,Heap.get?_push_size _ rfl,rfl,rfl⟩,(hall _ T₄.at'.rep.le).at fun o e=>Heap.get?_push_of_some _ e⟩
 ·intro i F ρ' st mm s x E hi a fmi hJ hit hFi
  obtain ⟨q,as,rfl,rfl,hmm,hL,hal⟩:=hJ
  have hip:i<ps.length:=by rw [←hsz]; exact hi
  have hx:x=Value.ref (pas[i]'(by rw [hpas.length]; exact hip)):=by
   rw [←Array.getElem?_toList] at hit
   have z:(pas.map Value.ref)[i]?=some x:=hit
   rw [List.getElem?_map,List.getElem?_eq_getElem (by rw [hpas.length]; exact hip)] at z
   cases z; rfl
  obtain ⟨part,hpart,hPF⟩:=hpas.get (List.getElem?_eq_getElem (by rw [hpas.length]; exact hip))
  have hpm:part∈ps:=List.mem_of_getElem? hpart
  obtain ⟨pn',u0,u1,u2,u3,hob⟩:=hPF s.heap (fun c o e=>a.rep.le c o (hFi c o (T₄.ext.fz c o e)))
  subst hx
  have fmi:Fm F [q] [(0,.slist (as.map SV.sta))] (c7 p 38) env (fnL gone) s.heap:=fmi.conv fun y sv' e=>by
   rcases hmm with rfl | rfl
   ·refine ⟨sv',?_,fun _ z=>z⟩
    unfold fnL at e
    unfold rZ fnL
    simp only [af] at e
    simp only [List.cons_append,List.nil_append,af]
    split at e
    ·exact e
    ·split at e
     ·exact e
     ·cases e
   ·exact ⟨sv',e,fun _ z=>z⟩
  have hi5:as.length≤100:=by omega
  have fin:∀ {s₁ s':Shared} {L:List PR},L=aO part→To [env.locals] F [q] ⟨[(0,.slist (as.map SV.sta))],1⟩ s F [q] ⟨[(0,.slist (as.map SV.sta))],1⟩ s₁→L.length≤5→ji (c7 p 38) env gone F q as L s₁ s'→
    ((Flow.next=.next∨Flow.next=.cont)∧∃ F' ρ' st' m',ToU [env.locals] F [q] ⟨[(0,.slist (as.map SV.sta))],1⟩ s F' ρ' st' s'∧Fm F' ρ' st'.σ (c7 p 38) env m' s'.heap∧
     ∃ q as,ρ'=[q]∧st'=⟨[(0,.slist (as.map SV.sta))],1⟩∧(m'=rZ pa gone∨m'=fnL gone)∧ag (fun x r=>PrF F' x r) as (gP first kept++(ps.take (i+1)).flatMap aO)∧as.length≤5+5*(i+1)):=by
   rintro s₁ s' L hLe T₁ hL5 ⟨F',q',new,TU,fm',hsub,hnew⟩
   refine ⟨.inl rfl,F',[q'],_,fnL gone,T₁.u.trans TU,fm',q',as++new,rfl,rfl,.inr rfl,?_,?_⟩
   ·rw [List.take_add_one,hpart]
    simp only [Option.toList_some,List.flatMap_append,List.flatMap_cons,List.flatMap_nil,List.append_nil]
    rw [←List.append_assoc]
    exact (hL.imp fun _ _ z=>z.mono hsub).append (hLe▸hnew)
   ·have:=hnew.length
    rw [List.length_append]; omega
  cases hpt:part with
  | deep spot sc far=>
   rw [hpt] at hob
   have hob:s.heap.get? _=some ⟨.type "tuple",none,.seq #[.str "deep" u0,.int spot u1,.int sc u2,.int far u3] pn',#[]⟩:=hob
   refine cg (svs:=[.str "deep",.uint spot,.uint sc,.uint far]) rm'.hand a fmi (cD hob) (.cons ⟨u0,rfl⟩ (.cons ⟨u1,rfl⟩ (.cons ⟨u2,rfl⟩ (.cons ⟨u3,rfl⟩ .nil)))) (e4 gone sc far "deep" (.uint spot)) fun s₁ T₁ fm₁=>?_
   have ok:0≤spot∧spot<4:=by have:=hok _ hpm; rw [hpt] at this; exact this
   exact t7 hbT.symm rm' T₁.at' fm₁ ok hi5 fun s' te=>fin (by rw [hpt]) T₁ (lz _) te
  | arg j sc far=>
   rw [hpt] at hob
   have hob:s.heap.get? _=some ⟨.type "tuple",none,.seq #[.str "arg" u0,.int (j:Nat) u1,.int sc u2,.int far u3] pn',#[]⟩:=hob
   refine cg (svs:=[.str "arg",.int (j:Nat),.uint sc,.uint far]) rm'.hand a fmi (cD hob) (.cons ⟨u0,rfl⟩ (.cons ⟨u1,rfl⟩ (.cons ⟨u2,rfl⟩ (.cons ⟨u3,rfl⟩ .nil)))) (e4 gone sc far "arg" (.int (j:Nat))) fun s₁ T₁ fm₁=>?_
   have ok:j<9:=by have:=hok _ hpm; rw [hpt] at this; exact this
   exact vq hbT.symm rm' T₁.at' fm₁ ok hi5 fun s' te=>fin (by rw [hpt]) T₁ (lz _) te
 ·intro F ρ' st mm s T fmi hJ
  obtain ⟨q,as,rfl,rfl,hmm,hL,hal⟩:=hJ
  have fmi:Fm F [q] [(0,.slist (as.map SV.sta))] (c7 p 38) env (fnL gone) s.heap:=fmi.conv fun y sv' e=>by
   rcases hmm with rfl | rfl
   ·refine ⟨sv',?_,fun _ z=>z⟩
    unfold fnL at e
    unfold rZ fnL
    simp only [af] at e
    simp only [List.cons_append,List.nil_append,af]
    split at e
    ·exact e
    ·split at e
     ·exact e
     ·cases e
   ·exact ⟨sv',e,fun _ z=>z⟩
  have hps5:as.length≤100:=by omega
  have eL:gP first kept++(ps.take (pas.map Value.ref).toArray.size).flatMap aO=gP first kept++ps.flatMap aO:=by rw [hsz,List.take_length]
  rw [eL] at hL
  have TU₅:=TU₄.trans T
  have fin:∀ {F₅:Fz} {ρ₅:Rho} {σ₅:Hp} {n₅ k₅ r₃:Nat} {s₅:Shared} {last:Row} {q₅:Addr×Addr},To [env.locals] F [q] ⟨[(0,.slist (as.map SV.sta))],1⟩ s F₅ ρ₅ ⟨σ₅,n₅⟩ s₅→be gf [(0,.slist (as.map SV.sta))] σ₅=true→r₃<n₅→8<n₅→ρ₅[k₅]?=some q₅→
    aM k₅ (aW gf σ₅)=some (.ro (.slist ((as.map SV.sta++[SV.ref 6,SV.ref 8])++[SV.ref r₃])))→(eR (aW gf σ₅) 6).head?=some 6∧(eR (aW gf σ₅) 6).length=7→(dn (dum++eR (aW gf σ₅) 6) (aW gf σ₅) nS).map gw=(gq (pq ["rbx"]) (.pop 3)).map gw→
    (eR (aW gf σ₅) 8).head?=some 8∧(eR (aW gf σ₅) 8).length=7→(dn (dum++eR (aW gf σ₅) 8) (aW gf σ₅) nS).map gw=(gq (pq []) .leave).map gw→
    (eR (aW gf σ₅) r₃).head?=some r₃∧(eR (aW gf σ₅) r₃).length=7→(dn (dum++eR (aW gf σ₅) r₃) (aW gf σ₅) nS).map gw=(gq (pq []) last).map gw→ly gone=[.ins (.pop 3),.ins .leave,.ins last]→Q (.ref q₅.1) s₅:=by
   intro F₅ ρ₅ σ₅ n₅ k₅ r₃ s₅ last q₅ T₅ hk hr3 h8 hq5 hlk a1 a2 b1 b2 c1 c2 hT
   obtain ⟨F₆,hFF6,_,T₆⟩:=T₅.freezeX T.at' gf hk
   dsimp only at T₆
   have hl5:ρ₅.length=n₅:=T₆.at'.len
   have g:∀ {k:Nat},k<n₅→ρ₅[k]?=some (ρ₅.getD k (0,0)):=fun hk=>gN (by rw [hl5]; exact hk)
   have R:d9 F₆ q₅.1 (bH ps first kept gone):=by
    refine vV T₆.at' (as:=as) (rs:=[6,8,r₃]) hq5 (by rw [hlk,List.append_assoc]; rfl) ?_
    unfold bH
    rw [hT]
    refine (hL.imp fun _ _ z=>z.mono fun c o e=>T₆.ext.fz c o e).append ?_
    exact .cons (bM T₆.at' (k:=6) ["rbx"] (.pop 3) (g (by omega)) a1 a2) (.cons (bM T₆.at' (k:=8) [] .leave (g h8) b1 b2) (.cons (bM T₆.at' (k:=r₃) [] last (g hr3) c1 c2) .nil))
   have TU₆:=(TU₅.trans T₆.u).sub T₆.at'.bare (fun a h=>nomatch h)
   have TF:=(TU₆.drop (Y:=[]) fun a ha=>by obtain rfl:=ak ha; exact .inr nw).to0
   exact h F₆ s₅ q₅.1 TF R
  refine S.ss rm' T.at' fmi (rt (fun r=>(r.1,r.2.2)) _ (e5 gone (as.map SV.sta)) fun y hy hasm=>?_)
  have nds:∀ P∈[(as.map SV.sta).length+2≤1000,(as.map SV.sta++[SV.ref 6,SV.ref 8]).length+1≤1000],P:=by
   intro P hP
   exact bC hP (by simp; omega) fun hP=>bC hP (by simp; omega) fun hP=>nomatch hP
  rcases aJ hy with rfl | hy
  ·have c:decide (0<gone)=true:=hasm _ (.head _)
   refine ⟨nds,fun x hx F₅ ρ₅ s₅ f T₅ fm₅ hf=>?_⟩
   obtain ⟨fl,L5,st₅⟩:=x
   obtain ⟨x1,x2⟩:=Prod.mk.inj hx
   dsimp only at x1 x2 T₅ hf
   subst x1 x2
   obtain ⟨_,rfl,q₅,hq5,rfl⟩:=hf
   exact fin (last:=.retI gone) T₅ (DP gone _) (by decide) (by decide) hq5 (DO gone _) ⟨by rfl',by rfl'⟩ (by rfl') ⟨by rfl',by rfl'⟩ (by rfl') ⟨by rfl',by rfl'⟩ (by rfl') (by unfold ly; rw [c]; rfl)
  ·obtain rfl:=ak hy
   have c:decide (0<gone)=false:=hasm _ (.head _)
   refine ⟨nds,fun x hx F₅ ρ₅ s₅ f T₅ fm₅ hf=>?_⟩
   obtain ⟨fl,L5,st₅⟩:=x
   obtain ⟨x1,x2⟩:=Prod.mk.inj hx
   dsimp only at x1 x2 T₅ hf
   subst x1 x2
   obtain ⟨_,rfl,q₅,hq5,rfl⟩:=hf
   exact fin (last:=.ret) T₅ (DR _) (by decide) (by decide) hq5 (DQ _) ⟨by rfl',by rfl'⟩ (by rfl') ⟨by rfl',by rfl'⟩ (by rfl') ⟨by rfl',by rfl'⟩ (by rfl') (by unfold ly; rw [c]; rfl)
end
end
section
noncomputable abbrev ctB (p:Params):List Stmt:=bK p 1108
noncomputable abbrev nZ (p:Params)(d:Nat):Cx:=⟨aK p 1108,[],d⟩
noncomputable abbrev eW (p:Params):Stmt:=ad 1 (ctB p)
noncomputable def ctL (t:Int):Loc:=[("total",.uint t)]
noncomputable def ctT (t:Int)(sort:Str)(sp:SV)(sc far:Int):Loc:=ctL t++([("sort",.str sort),("spot",sp),("scale",.uint sc),("far",.uint far)]:Loc)
noncomputable def cu (t:Int):bo→Int
 | .deep spot _ _=>t+5+7*spot+3
 | .arg j _ _=>t+1+(if decide (5<((j:Nat):Int)) then 1 else 0)
noncomputable def gR (ps:List bo):Int:=ps.foldl cu 8
section
variable (p:Params)(pa:Addr)(t sp sc far:Int)
theorem D0:fQ (an p) 1108=true:=by rfl'
theorem qt:bj ((an p).lookup 1108)=(["parts"]:List Str):=by rfl'
theorem AL:ctB p=ad 0 (ctB p)::eW p::(ctB p).drop 2:=by rfl'
theorem DZ:eW p=.For (.Tuple (cJ (aF (eW p))) (tuK (aF (eW p))) (Expr.pos (aF (eW p)))) (aC (eW p)) (ah (eW p)) [] (aS (eW p)):=by rfl'
theorem DY:d7 (aC (eW p))=false:=by rfl'
theorem JK:∀ v,E6 v→aq (v.s (nZ p 38) [("parts",.sta pa)] (ad 0 (ctB p)) ⟨[],0⟩)=([([],[],.next,[("parts",.sta pa),("total",.int 8)],⟨[],0⟩)]:LS):=by rintro _ rfl; rfl'
theorem Hi:∀ v,E6 v→am (v.e (nZ p 38) [("parts",.sta pa),("total",.int 8)] (aC (eW p)) ⟨[],0⟩)=([([],[],.sta pa,⟨[],0⟩)]:LE):=by rintro _ rfl; rfl'
theorem JG (sort:Str)(sv:SV):bR (nZ p 38) (cJ (aF (eW p))) [.str sort,sv,.uint sc,.uint far] (ctL t)=some (ctT t sort sv sc far):=by rfl'
theorem JI:∀ v,E6 v→aq (v.ss (nZ p 38) (ctT t "deep" (.uint sp) sc far) (ah (eW p)) ⟨[],0⟩)=([([],[],.next,ctT (t+5+7*sp+3) "deep" (.uint sp) sc far,⟨[],0⟩)]:LS):=by rintro _ rfl; rfl'
theorem JJ:∀ v,E6 v→aq (v.ss (nZ p 38) (ctT t "arg" (.uint sp) sc far) (ah (eW p)) ⟨[],0⟩)=([([],[],.next,ctT (t+1+(if decide (5<sp) then 1 else 0)) "arg" (.uint sp) sc far,⟨[],0⟩)]:LS):=by rintro _ rfl; rfl'
theorem JH:∀ v,E6 v→aq (v.ss (nZ p 38) (ctL t) ((ctB p).drop 2) ⟨[],0⟩)=([([],[],.ret (.uint t),ctL t,⟨[],0⟩)]:LS):=by rintro _ rfl; rfl'
end
section
theorem AK {ps:List bo}{pa:Addr}{Q:Value→Shared→Prop}(rm:aj 39 A)(at':At F [] ⟨[],0⟩ s)(hps:eX F pa ps)
  (h:∀ F' s' t,To [] F [] ⟨[],0⟩ s F' [] ⟨[],0⟩ s'→Q (.int (gR ps) t) s'):wpAny (model prog w) A (call (.ref 1108) [.ref pa]) Q E s:=by
 obtain ⟨v,hv,S⟩:=dj
 refine dR (d:=38) (args:=[.sta pa]) (D0 p) rm at' (.cons rfl .nil) (by rw [qt]; rfl) fun env s₀ T₀ fm₀ nw rm'=>?_
 rw [qt] at fm₀
 have fm₀:Fm F [] [] (nZ p 38) env ([("parts",.sta pa)]:Loc) s₀.heap:=fm₀
 have nl:=@noA env.locals
 show wpAny _ _ (execs (ctB p) env) _ _ _
 rw [AL]
 have e0:=JK p pa v hv
 have e2:=DZ p
 have e3:=Hi p pa v hv
 have e4:=fun t sc far sort sv=>JG p t sc far sort sv
 have e5:=fun t sp sc far=>JI p t sp sc far v hv
 have e6:=fun t sp sc far=>JJ p t sp sc far v hv
 have e7:=fun t=>JH p t v hv
 have e8:=DY p
 generalize ad 0 (ctB p)=b0 at e0 ⊢
 generalize (ctB p).drop 2=b2 at e7 ⊢
 generalize ah (eW p)=bT at e2 e5 e6
 generalize hFor:eW p=fF at e2 e3 e4 e8 ⊢
 generalize aC fF=it at e2 e3 e8
 generalize cJ (aF fF)=tE at e2 e4
 generalize tuK (aF fF)=tK at e2
 generalize Expr.pos (aF fF)=tP at e2
 generalize aS fF=fP at e2
 subst e2
 refine wpAny_execs_cons (S.s rm' T₀.at' fm₀ (ac _ e0 noP (dz rfl fun F₁ s₁ f T₁ fm₁ hf=>?_)))
 cases hf
 dsimp only at T₁ fm₁ ⊢
 refine wpAny_execs_cons (wpAny_For ?_ (by intro x; cases it<;>first | rfl | cases e8))
 refine S.e rm' T₁.at' fm₁ (ac _ e3 noP (bS rfl fun F₄ s₄ xv T₄ ixv=>?_))
 dsimp only at T₄ ixv
 cases ixv
 have fm₄:=fm₁.to T₄ nl
 have T₀₄:=((T₀.nil (X:=[env.locals])).trans T₁).trans (T₄.nil (X:=[env.locals]))
 obtain ⟨pas,hpas,pn,hFpa⟩:=hps.mono (F':=F₄) T₀₄.ext.fz
 have hall:∀ g,F₄.le g→g.IsList pa (pas.map Value.ref).toArray:=fun g hg=>au (hg _ _ hFpa)
 refine wpAny_pyIter_list (hall _ T₄.at'.rep.le) ?_
 have hsz:(pas.map Value.ref).toArray.size=ps.length:=by simp [hpas.length]
 refine fO (W:=[s₄.heap.objs.size]) (F₀:=F₄) (iF rm'.hand hall (fun i v e=>by
   rw [←Array.getElem?_toList] at e
   simp only [List.getElem?_map] at e
   cases q:pas[i]? with
   | none=>rw [q] at e; cases e
   | some a=>rw [q] at e; cases e; exact ⟨a,rfl⟩))
  (J:=fun i F ρ' st m=>ρ'=[]∧st=⟨[],0⟩∧∃ sv,nz sv=.uint ((ps.take i).foldl cu 8)∧af "total" m=some sv)
  (fun c hc=>by obtain rfl:=ak hc; exact aT _) ?_ ?_ T₄.at' fm₄ ⟨rfl,rfl,.int 8,rfl,by rfl⟩
  (fun c o e=>Heap.get?_push_of_some _ e) ⟨⟨_,Heap.get?_push_size _ rfl,rfl,rfl⟩,(hall _ T₄.at'.rep.le).at fun o e=>Heap.get?_push_of_some _ e⟩
 ·intro i F ρ' st mm s x E hi a fmi hJ hit hFi
  obtain ⟨rfl,rfl,sv,hsv,hlk⟩:=hJ
  have hip:i<ps.length:=by rw [←hsz]; exact hi
  have hx:x=Value.ref (pas[i]'(by rw [hpas.length]; exact hip)):=by
   rw [←Array.getElem?_toList] at hit
   have z:(pas.map Value.ref)[i]?=some x:=hit
   rw [List.getElem?_map,List.getElem?_eq_getElem (by rw [hpas.length]; exact hip)] at z
   cases z; rfl
  obtain ⟨part,hpart,hPF⟩:=hpas.get (List.getElem?_eq_getElem (by rw [hpas.length]; exact hip))
  obtain ⟨pn',u0,u1,u2,u3,hob⟩:=hPF s.heap (fun c o e=>a.rep.le c o (hFi c o e))
  subst hx
  have fmi:Fm F [] [] (nZ p 38) env (ctL ((ps.take i).foldl cu 8)) s.heap:=fmi.conv fun y sv' e=>by
   unfold ctL at e
   simp only [af] at e
   split at e
   ·rename_i ex; rw [aQ] at ex; subst ex; cases e
    exact ⟨sv,hlk,fun v i=>by rw [←hsv]; exact gZ.mpr i⟩
   ·cases e
  have hstep:(ps.take (i+1)).foldl cu 8=cu ((ps.take i).foldl cu 8) part:=by
   rw [List.take_add_one,hpart]
   simp
  cases hpt:part with
  | deep spot sc far=>
   rw [hpt] at hob
   have hob:s.heap.get? _=some ⟨.type "tuple",none,.seq #[.str "deep" u0,.int spot u1,.int sc u2,.int far u3] pn',#[]⟩:=hob
   refine cg (svs:=[.str "deep",.uint spot,.uint sc,.uint far]) rm'.hand a fmi (cD hob) (.cons ⟨u0,rfl⟩ (.cons ⟨u1,rfl⟩ (.cons ⟨u2,rfl⟩ (.cons ⟨u3,rfl⟩ .nil)))) (e4 _ sc far "deep" (.uint spot)) fun s₁ T₁ fm₁=>?_
   refine S.ss rm' T₁.at' fm₁ (ac _ (e5 _ spot sc far) noP (dz rfl fun F₂ s₂ f T₂ fm₂ hf=>?_))
   dsimp only at T₂ fm₂
   exact ⟨.inl hf,F₂,[],_,_,T₁.trans T₂,fm₂,rfl,rfl,.uint (cu ((ps.take i).foldl cu 8) (.deep spot sc far)),by rw [hstep,hpt]; rfl,by rfl⟩
  | arg j sc far=>
   rw [hpt] at hob
   have hob:s.heap.get? _=some ⟨.type "tuple",none,.seq #[.str "arg" u0,.int (j:Nat) u1,.int sc u2,.int far u3] pn',#[]⟩:=hob
   refine cg (svs:=[.str "arg",.uint (j:Nat),.uint sc,.uint far]) rm'.hand a fmi (cD hob) (.cons ⟨u0,rfl⟩ (.cons ⟨u1,rfl⟩ (.cons ⟨u2,rfl⟩ (.cons ⟨u3,rfl⟩ .nil)))) (e4 _ sc far "arg" (.uint (j:Nat))) fun s₁ T₁ fm₁=>?_
   refine S.ss rm' T₁.at' fm₁ (ac _ (e6 _ (j:Nat) sc far) noP (dz rfl fun F₂ s₂ f T₂ fm₂ hf=>?_))
   dsimp only at T₂ fm₂
   exact ⟨.inl hf,F₂,[],_,_,T₁.trans T₂,fm₂,rfl,rfl,.uint (cu ((ps.take i).foldl cu 8) (.arg j sc far)),by rw [hstep,hpt]; rfl,by rfl⟩
 ·intro F ρ' st mm s T fmi hJ
  obtain ⟨rfl,rfl,sv,hsv,hlk⟩:=hJ
  rw [hsz,List.take_length] at hsv
  have fmi:Fm F [] [] (nZ p 38) env (ctL (gR ps)) s.heap:=fmi.conv fun y sv' e=>by
   unfold ctL at e
   simp only [af] at e
   split at e
   ·rename_i ex; rw [aQ] at ex; subst ex; cases e
    exact ⟨sv,hlk,fun v i=>by unfold gR; rw [←hsv]; exact gZ.mpr i⟩
   ·cases e
  refine S.ss rm' T.at' fmi (ac _ (e7 (gR ps)) noP (dz rfl fun F₂ s₂ f T₂ fm₂ hf=>?_))
  obtain ⟨_,rfl,t,rfl⟩:=hf
  dsimp only at T₂
  exact h F₂ s₂ t (((T₀₄.trans T).trans T₂).leave nw)
end
end
section
theorem gA (a:Int):wr a=a % 18446744073709551616:=by
 show Builtin.bitAnd a (1*2 ^ 64 - 1)=_
 rw [Int.one_mul]; exact kbt_mask a 64
theorem bL {a:Int}(h:0≤a)(h':a<18446744073709551616):wr a=a:=by rw [gA]; exact Int.emod_eq_of_lt h h'
theorem dy (a:Int):wr (wr a)=wr a:=by rw [gA,gA]; exact Int.emod_emod ..
theorem su (x b:Int)(hb:0<b):x % (b*256)=x % b+(x / b % 256)*b:=by
 have h1:x / b / 256=x / (b*256):=Int.ediv_ediv_of_nonneg (Int.le_of_lt hb)
 rw [Int.emod_def x (b*256),Int.emod_def x b,Int.emod_def (x / b) 256,←h1]
 grind
theorem tU (x:Int)(k:Nat):Builtin.bitAnd (x.fdiv (2 ^ (8*k))) 255=x / 2 ^ (8*k) % 256:=by
 rw [Int.fdiv_eq_ediv_of_nonneg _ (Int.le_of_lt (Int.pow_pos (by decide))),bitAnd_m8]
section
variable {f g:Int→Int}{p x:Int}
theorem sL {j:Int}(h0:0≤p)(h1:p+8≤18446744073709551616):∀ {n:Nat},n≤8→(j<p∨p+n≤j)→wrN f p x n j=f j
 | 0,_,_=>rfl
 | n+1,hn,hj=>by
  show iP (wrN f p x n) (wr (p+(0+(n:Int)))) _ j=f j
  unfold iP
  rw [bL (by omega) (by omega),if_neg (by omega)]
  exact sL h0 h1 (by omega) (by omega)
theorem ve (h0:0≤p)(h1:p+8≤18446744073709551616):∀ {n k:Nat},n≤8→k<n→wrN f p x n (p+k)=x / 2 ^ (8*k) % 256
 | n+1,k,hn,hk=>by
  show iP (wrN f p x n) (wr (p+(0+(n:Int)))) _ (p+k)=_
  unfold iP
  rw [bL (by omega) (by omega)]
  by_cases e:k=n
  ·subst e
   rw [if_pos (by omega),tU]
  ·rw [if_neg (by omega)]
   exact ve h0 h1 (by omega) (by omega)
theorem ms (h0:0≤p)(h1:p+8≤18446744073709551616):∀ {n:Nat},n≤8→(∀ j,p≤j→j<p+8→f j=g j)→rdN f p n=rdN g p n
 | 0,_,_=>rfl
 | n+1,hn,h=>by
  show rdN f p n+f (wr (p+(0+(n:Int))))*2 ^ (8*n)=rdN g p n+g (wr (p+(0+(n:Int))))*2 ^ (8*n)
  rw [ms h0 h1 (by omega) h,bL (by omega) (by omega),h _ (by omega) (by omega)]
theorem EU (h0:0≤p)(h1:p+8≤18446744073709551616):rdN (wrN f p x 8) p 8=wr x:=by
 have key:∀ n:Nat,n≤8→rdN (wrN f p x 8) p n=x % 2 ^ (8*n):=by
  intro n
  induction n with
  | zero=>intro _; show (0:Int)=x % 1; omega
  | succ n ih=>
   intro hn
   show rdN (wrN f p x 8) p n+wrN f p x 8 (wr (p+(0+(n:Int))))*2 ^ (8*n)=_
   rw [ih (by omega),bL (by omega) (by omega)]
   have e:=ve (f:=f) (x:=x) h0 h1 (n:=8) (k:=n) (by omega) (by omega)
   rw [show p+(0+(n:Int))=p+n by omega,e]
   have:(2:Int) ^ (8*(n+1))=2 ^ (8*n)*256:=by rw [Nat.mul_add,Int.pow_add]; rfl
   rw [this,su _ _ (Int.pow_pos (by decide))]
 rw [key 8 (by omega),gA]; rfl
theorem iO (h:∀ i,0≤f i∧f i<256):∀ (n:Nat)(i:Int),0≤wrN f p x n i∧wrN f p x n i<256
 | 0,i=>h i
 | n+1,i=>by
  show 0≤iP (wrN f p x n) _ _ i∧iP (wrN f p x n) _ _ i<256
  unfold iP
  split
  ·rw [tU]; omega
  ·exact iO h n i
theorem EV (h:∀ i,0≤f i∧f i<256):0≤rdN f p 8∧rdN f p 8<18446744073709551616:=by
 have key:∀ n:Nat,0≤rdN f p n∧rdN f p n<2 ^ (8*n):=by
  intro n
  induction n with
  | zero=>exact ⟨Int.le_refl _,by show (0:Int)<1; decide⟩
  | succ n ih=>
   show 0≤rdN f p n+f (wr (p+(0+(n:Int))))*2 ^ (8*n)∧rdN f p n+f (wr (p+(0+(n:Int))))*2 ^ (8*n)<2 ^ (8*(n+1))
   have e:(2:Int) ^ (8*(n+1))=2 ^ (8*n)*256:=by rw [Nat.mul_add,Int.pow_add]; rfl
   rw [e]
   have hb:(0:Int)<2 ^ (8*n):=Int.pow_pos (by decide)
   generalize (2:Int) ^ (8*n)=b at *
   obtain ⟨o1,o2⟩:=h (wr (p+(0+(n:Int))))
   generalize f (wr (p+(0+(n:Int))))=c at *
   have h1:0≤c*b:=Int.mul_nonneg o1 (Int.le_of_lt hb)
   have h2:c*b≤255*b:=Int.mul_le_mul_of_nonneg_right (by omega) (Int.le_of_lt hb)
   omega
 exact key 8
end
theorem gE {R:List Int}{k:Nat}{v i:Int}(h:R.length=16)(hk:k<16):rg (R.set k v) i=if i.toNat=k then v else rg R i:=by
 unfold rg
 rw [List.getD,List.getD,List.getElem?_set]
 by_cases e:k=i.toNat
 ·subst e
  rw [if_pos rfl,if_pos rfl,if_pos (by omega)]; rfl
 ·rw [if_neg e,if_neg (Ne.symm e)]
inductive dS (P:Prg):Nat→M→M→Prop
 | nil (m:M):dS P 0 m m
 | cons {n:Nat} {m m':M} {len:Int} {row:Row}:P m.rip=some (len,row)→(row.go len m).rip≠RP→dS P n (row.go len m) m'→dS P (n+1) m m'
structure MG (m:M):Prop where
 len:m.R.length=16
 oct:∀ i,0≤m.f i∧m.f i<256
theorem MG.go {m:M}(h:MG m)(len:Int)(row:Row):MG (row.go len m)∧(row.go len m).n≤m.n+8:=by
 obtain ⟨h1,h2⟩:=h
 cases row<;>refine ⟨⟨?_,?_⟩,?_⟩<;>first | (simp only [Row.go,down,up,List.length_set]; exact h1) | exact h2 | exact fun i=>iO h2 8 i | (show m.n≤m.n+8; omega) | exact Nat.le_refl _
theorem MG.mok {m:M}(h:MG m)(hn:m.n+8≤100000):MOk m:=⟨h.len,fun i=>nat64 (h.oct i),hn⟩
theorem dS.trans {P:Prg}{a b:Nat}{m m' m'':M}(h:dS P a m m')(g:dS P b m' m''):dS P (a+b) m m'':=by
 induction h with
 | nil=>rw [Nat.zero_add]; exact g
 | cons h1 h2 _ ih=>rw [Nat.add_right_comm]; exact .cons h1 h2 (ih g)
theorem dS.one {P:Prg}{m:M}{len:Int}{row:Row}(h:P m.rip=some (len,row))(hr:(row.go len m).rip≠RP):dS P 1 m (row.go len m):=.cons h hr (.nil _)
theorem dS.good {P:Prg}{N:Nat}{m m':M}(h:dS P N m m')(g:MG m):MG m'∧m'.n≤m.n+8*N:=by
 induction h with
 | nil=>exact ⟨g,Nat.le_refl _⟩
 | @cons n m m' len row h1 h2 _ ih=>
  obtain ⟨g1,g2⟩:=g.go len row
  obtain ⟨i1,i2⟩:=ih g1
  exact ⟨i1,by omega⟩
theorem dS.trace {P:Prg}{N:Nat}{m m':M}(h:dS P N m m')(g:MG m)(hn:m.n+8*N≤100000):cZ P N m m':=by
 induction h with
 | nil=>exact .nil _
 | @cons n m m' len row h1 h2 _ ih=>
  obtain ⟨g1,g2⟩:=g.go len row
  exact .cons (g.mok (by omega)) h1 (.inr h2) (ih g1 (by omega))
theorem dS.last {P:Prg}{N:Nat}{m m':M}{len:Int}{row:Row}(h:dS P N m m')(g:MG m)(hn:m.n+8*(N+1)≤100000)(hp:P m'.rip=some (len,row)):cZ P (N+1) m (row.go len m'):=by
 induction h with
 | nil=>exact .cons (g.mok (by omega)) hp (.inl rfl) (.nil _)
 | @cons n m m' len row h1 h2 _ ih=>
  obtain ⟨g1,g2⟩:=g.go len row
  exact .cons (g.mok (by omega)) h1 (.inr h2) (ih g1 (by omega) hp)
end
section
noncomputable def fJ (pl:Nat→Int)(n k:Nat):PR→Row
 | .ins r=>r
 | .tu nm off=>match sEq nm "call" with
  | true=>.call (pl ((n:Int)+off).toNat - pl (k+1))
  | false=>.jrcxz (pl ((n:Int)+off).toNat - pl (k+1))
structure Code (P:Prg)(pl:Nat→Int)(L:List PR):Prop where
 row:∀ k x,L[k]?=some x→P (pl k)=some (pl (k+1) - pl k,fJ pl L.length k x)
 lim:∀ k,k≤L.length→0≤pl k∧pl k<18446744073709551600
theorem sG (a b:Int):a+(b - a)=b:=(Int.add_comm ..).trans (Int.sub_add_cancel ..)
theorem uB {x:Int}(h:x<18446744073709551600):x<18446744073709551616∧x≠RP:=⟨Int.lt_trans h (by decide),Int.ne_of_lt h⟩
noncomputable def upN (r:Nat→Int)(k:Nat)(v:Int)(i:Nat):Int:=cond (Nat.beq i k) v (r i)
theorem cy {r:Nat→Int}{k i:Nat}{v:Int}(h:i≠k):upN r k v i=r i:=by
 unfold upN
 cases q:Nat.beq i k with
 | true=>exact (h (iY q)).elim
 | false=>rfl
theorem oK {r:Nat→Int}{k:Nat}{v:Int}:upN r k v k=v:=congrArg (cond · v (r k)) (Nat.beq_refl k)
theorem vX {R:List Int}{i:Int}(h:R.length=16):rg (up R) i=if i.toNat=4 then wr (rg R 4+8) else rg R i:=gE h (by decide)
theorem s6 {R:List Int}{i:Int}(h:R.length=16):rg (down R) i=if i.toNat=4 then wr (rg R 4 - 8) else rg R i:=gE h (by decide)
theorem yV {R:List Int}(h:R.length=16):R.set 4 (rg R 4)=R:=by
 refine List.ext_getElem? fun i=>?_
 rw [List.getElem?_set]
 by_cases e:4=i
 ·subst e
  rw [if_pos rfl,if_pos (by omega),List.getElem?_eq_getElem (by omega)]
  unfold rg
  rw [List.getD,List.getElem?_eq_getElem (show (4:Int).toNat<R.length by rw [h]; decide)]; rfl
 ·rw [if_neg e]
structure Vw (T:Int)(f0:Int→Int)(m:M)(r:Nat→Int)(L:List Int):Prop where
 b:500≤T∧T<4294967000
 lt:L.length<40
 len:m.R.length=16
 reg:∀ i:Int,i.toNat≠4→rg m.R i=r i.toNat
 sp:rg m.R 4=T - 8*(L.length:Int)
 stk:∀ (i:Nat) x,L[i]?=some x→rdN m.f (T - 8*((L.length:Int) - i)) 8=wr x
 mem:∀ a,T≤a→m.f a=f0 a
section
variable {P:Prg}{pl:Nat→Int}{R:List PR}{x y v:Int}{f0:Int→Int}{m:M}{r r':Nat→Int}{L':List Int}{d:Nat}{q:Int}
theorem Vw.set (h:Vw T f0 m r L)(h4:d≠4)(hd:d<16):Vw T f0 ⟨m.R.set d v,m.f,N,q⟩ (upN r d v) L:=by
 have g:∀ {i:Int},rg (m.R.set d v) i=if i.toNat=d then v else rg m.R i:=gE h.len hd
 refine ⟨h.b,h.lt,(List.length_set ..).trans h.len,fun i hi=>?_,((g (i:=4)).trans (if_neg (Ne.symm h4))).trans h.sp,h.stk,h.mem⟩
 by_cases e:i.toNat=d
 ·rw [g,if_pos e]
  subst e
  exact oK.symm
 ·rw [g,if_neg e,cy e]; exact h.reg i hi
theorem Ba (a b:Nat):((a+1:Nat):Int) - (b+1:Nat)=(a:Int) - b:=show (a:Int)+1 - ((b:Int)+1)=_ from Int.add_sub_add_right ..
theorem eN {T l:Int}(h:500≤T∧T<4294967000)(h0:-1≤l)(h1:l<40):0≤T - 8*l∧T - 8*l+8≤18446744073709551616:=by omega
theorem Vw.push (h:Vw T f0 m r L)(hl:L.length<39)(hy:wr y=wr x):Vw T f0 ⟨down m.R,wrN m.f (rg (down m.R) 4) y 8,N,q⟩ r (x::L):=by
 have hn:(0:Int)≤L.length:=Int.natCast_nonneg _
 have hl':(L.length:Int)<39:=Int.ofNat_lt.mpr hl
 obtain ⟨p0,p1⟩:=eN h.b (l:=L.length+1) (by omega) (by omega)
 have e:T - 8*(L.length:Int) - 8=T - 8*((L.length:Int)+1):=by omega
 have e4:rg (down m.R) 4=T - 8*((L.length:Int)+1):=by
  rw [s6 h.len,if_pos (by decide),h.sp,e]; exact bL p0 (Int.lt_of_lt_of_le (Int.lt_add_of_pos_right _ (by decide)) p1)
 have out:∀ a,T - 8*(L.length:Int)≤a→wrN m.f (rg (down m.R) 4) y 8 a=m.f a:=fun a ha=>by
  rw [e4]
  exact sL p0 p1 (by decide) (.inr (by rw [←e]; exact (Int.sub_add_cancel ..).symm▸ha))
 refine ⟨⟨h.b.1,h.b.2⟩,Nat.succ_lt_succ hl,(List.length_set ..).trans h.len,fun i hi=>((s6 h.len).trans (if_neg hi)).trans (h.reg i hi),e4,fun i z ez=>?_,fun a ha=>(out a (by omega)).trans (h.mem a ha)⟩
 cases i with
 | zero=>
  rw [←Option.some.inj ez,←hy]
  show rdN (wrN m.f (rg (down m.R) 4) y 8) (T - 8*((L.length:Int)+1 - 0)) 8=_
  rw [Int.sub_zero,e4]
  exact EU p0 p1
 | succ i=>
  have hi:=Int.ofNat_lt.mpr (List.getElem?_eq_some_iff.mp (show L[i]?=some z from ez)).1
  rw [←h.stk i z ez,show T - 8*(((x::L).length:Int) - (i+1:Nat))=T - 8*((L.length:Int) - i) from congrArg (fun n=>T - 8*n) (Ba ..)]
  obtain ⟨q0,q1⟩:=eN h.b (l:=(L.length:Int) - i) (by omega) (by omega)
  exact ms q0 q1 (by decide) fun a ha _=>out a (by omega)
theorem Vw.top (h:Vw T f0 m r (x::L)):rdN m.f (rg m.R 4) 8=wr x:=by
 rw [h.sp]
 exact (congrArg (fun z=>rdN m.f (T - 8*z) 8) (Int.sub_zero _).symm).trans (h.stk 0 x rfl)
theorem Vw.pop (h:Vw T f0 m r (x::L)):Vw T f0 ⟨up m.R,m.f,N,q⟩ r L:=by
 have hl:(L.length:Int)<39:=Int.ofNat_lt.mpr (Nat.lt_of_succ_lt_succ h.lt)
 obtain ⟨p0,p1⟩:=eN h.b (l:=L.length) (by omega) (by omega)
 have e4:rg (up m.R) 4=T - 8*(L.length:Int):=by
  rw [vX h.len,if_pos (by decide),h.sp,show T - 8*((x::L).length:Int)+8=T - 8*(L.length:Int) by rw [List.length_cons]; omega]
  exact bL p0 (Int.lt_of_lt_of_le (Int.lt_add_of_pos_right _ (by decide)) p1)
 refine ⟨h.b,Nat.lt_of_succ_lt h.lt,(List.length_set ..).trans h.len,fun i hi=>((vX h.len).trans (if_neg hi)).trans (h.reg i hi),e4,fun i z e=>?_,h.mem⟩
 rw [←h.stk (i+1) z e]
 exact congrArg (fun n=>rdN m.f (T - 8*n) 8) (Ba ..).symm
noncomputable def Run (P:Prg)(T:Int)(f0:Int→Int)(m0:M)(n:Nat)(q:Int)(r:Nat→Int)(L:List Int):Prop:=∃ m,dS P n m0 m∧m.rip=q∧Vw T f0 m r L
theorem Run.cast (h:Run P T f0 m0 n q r L)(e:∀ i,r i=r' i):Run P T f0 m0 n q r' L:=by
 rw [←show r=r' from funext e]; exact h
theorem Code.nx (C:Code P pl R){x:PR}(e:R[k]?=some x):wr (pl k+(pl (k+1) - pl k))=pl (k+1)∧wr (pl (k+1))=pl (k+1)∧pl (k+1)≠RP:=by
 obtain ⟨a,b⟩:=C.lim (k+1) (List.getElem?_eq_some_iff.mp e).1
 have z:wr (pl (k+1))=pl (k+1):=bL a (uB b).1
 exact ⟨by rw [show pl k+(pl (k+1) - pl k)=pl (k+1) from sG ..]; exact z,z,by exact (uB b).2⟩
theorem Run.one (C:Code P pl R){x:PR}(e:R[k]?=some x)(h:Run P T f0 m0 n (pl k) r L)(hv:v≠RP)
  (f:∀ m,m.rip=pl k→wr (m.rip+(pl (k+1) - pl k))=pl (k+1)→Vw T f0 m r L→((fJ pl R.length k x).go (pl (k+1) - pl k) m).rip=v∧Vw T f0 ((fJ pl R.length k x).go (pl (k+1) - pl k) m) r' L'):Run P T f0 m0 (n+1) v r' L':=by
 obtain ⟨m,S,er,w⟩:=h
 obtain ⟨e1,w'⟩:=f m er (by rw [er]; exact (C.nx e).1) w
 exact ⟨_,S.trans (.one (by rw [er]; exact C.row k _ e) (by rw [e1]; exact hv)),e1,w'⟩
theorem Run.push (C:Code P pl R){i:Int}(e:R[k]?=some (.ins (.push i)))(hi:i.toNat≠4)(hl:L.length<39)(h:Run P T f0 m0 n (pl k) r L):Run P T f0 m0 (n+1) (pl (k+1)) r (r i.toNat::L):=
 h.one C e (C.nx e).2.2 fun m _ h1 w=>⟨h1,w.push hl (by rw [w.reg i hi,dy,dy])⟩
theorem Run.set (C:Code P pl R){z:PR}(e:R[k]?=some z)(h4:d≠4)(hd:d<16)(h:Run P T f0 m0 n (pl k) r L)
  (f:∀ m N,Vw T f0 m r L→(fJ pl R.length k z).go N m=⟨m.R.set d v,m.f,m.n,wr (m.rip+N)⟩):Run P T f0 m0 (n+1) (pl (k+1)) (upN r d v) L:=
 h.one C e (C.nx e).2.2 fun m _ h1 w=>by rw [f m _ w]; exact ⟨h1,w.set h4 hd⟩
theorem Run.pop (C:Code P pl R){i:Int}(e:R[k]?=some (.ins (.pop i)))(hi:i.toNat≠4)(hd:i.toNat<16)(h:Run P T f0 m0 n (pl k) r (x::L)):Run P T f0 m0 (n+1) (pl (k+1)) (upN r i.toNat (wr x)) L:=
 h.one C e (C.nx e).2.2 fun m _ h1 w=>⟨h1,by rw [←dy x,←w.top]; exact (w.pop (N:=0) (q:=0)).set hi hd⟩
theorem Run.movI (C:Code P pl R){i j:Int}(e:R[k]?=some (.ins (.movI i j)))(hi:i.toNat≠4)(hd:i.toNat<16)(h:Run P T f0 m0 n (pl k) r L):Run P T f0 m0 (n+1) (pl (k+1)) (upN r i.toNat (wr j)) L:=
 h.set C e hi hd fun m N _=>by rw [←dy j]; rfl
theorem Run.leaB (C:Code P pl R){i j far:Int}(e:R[k]?=some (.ins (.leaB i j far)))(hi:i.toNat≠4)(hd:i.toNat<16)(hj:j.toNat≠4)(hv:wr (far+wr (r j.toNat))=v)(h:Run P T f0 m0 n (pl k) r L):Run P T f0 m0 (n+1) (pl (k+1)) (upN r i.toNat v) L:=
 h.set C e hi hd fun m N w=>by rw [←hv,←dy (far+wr (r j.toNat)),←w.reg j hj]; rfl
theorem Run.lea (C:Code P pl R){i j s sc far:Int}(e:R[k]?=some (.ins (.lea i j s sc far)))(hi:i.toNat≠4)(hd:i.toNat<16)(hj:j.toNat≠4)(hs:s.toNat≠4)(hv:wr (far+wr (r j.toNat)+wr (r s.toNat)*sc)=v)(h:Run P T f0 m0 n (pl k) r L):Run P T f0 m0 (n+1) (pl (k+1)) (upN r i.toNat v) L:=
 h.set C e hi hd fun m N w=>by rw [←hv,←dy (far+_+_),←w.reg j hj,←w.reg s hs]; rfl
theorem Run.call (C:Code P pl R){t:Nat}(hL:R.length=t+9)(e:R[k]?=some (.tu "call" (-9)))(h39:L.length<39)(h:Run P T f0 m0 n (pl k) r L):Run P T f0 m0 (n+1) (pl t) r (pl (k+1)::L):=by
 obtain ⟨a,b⟩:=C.lim t (hL▸Nat.le_add_right ..)
 have e3:fJ pl R.length k (.tu "call" (-9))=.call (pl t - pl (k+1)):=by simp only [fJ,vT,hL,show (((t+9:Nat):Int)+-9).toNat=t from congrArg Int.toNat (Int.add_neg_cancel_right (t:Int) 9)]
 refine h.one C e (by exact (uB b).2) fun m _ h1 w=>?_
 rw [e3]
 refine ⟨?_,w.push h39 (by rw [h1])⟩
 show wr (wr (m.rip+(pl (k+1) - pl k))+(pl t - pl (k+1)))=pl t
 rw [h1,show pl (k+1)+(pl t - pl (k+1))=pl t from sG ..]
 exact bL a (uB b).1
theorem Run.jr (C:Code P pl R){t:Nat}(hL:R.length=t+9)(e:R[k]?=some (.tu "jrcxz" (-2)))(h:Run P T f0 m0 n (pl k) r L):Run P T f0 m0 (n+1) (if r 1=0 then pl (t+7) else pl (k+1)) r L:=by
 obtain ⟨a,b⟩:=C.lim (t+7) (hL▸Nat.add_le_add_left (by decide) t)
 have e3:fJ pl R.length k (.tu "jrcxz" (-2))=.jrcxz (pl (t+7) - pl (k+1)):=by
  simp only [fJ,show sEq "jrcxz" "call" = false from rfl,hL,show (((t+9:Nat):Int)+-2).toNat=t+7 from congrArg Int.toNat (Int.add_neg_cancel_right ((t+7:Nat):Int) 2)]
 refine h.one C e (by split; (· exact (uB b).2); exact (C.nx e).2.2) fun m _ h1 w=>?_
 rw [e3]
 refine ⟨?_,w.b,w.lt,w.len,w.reg,w.sp,w.stk,w.mem⟩
 show (if rg m.R 1 == 0 then wr (wr (m.rip+(pl (k+1) - pl k))+(pl (t+7) - pl (k+1))) else wr (m.rip+(pl (k+1) - pl k)))=_
 rw [h1,show pl (k+1)+(pl (t+7) - pl (k+1))=pl (t+7) from sG ..,bL a (uB b).1,show rg m.R 1=r 1 from w.reg 1 (by decide)]
 by_cases z:r 1=0
 ·rw [if_pos z,if_pos (beq_iff_eq.mpr z)]
 ·rw [if_neg z,if_neg fun c=>z (beq_iff_eq.mp c)]
theorem Run.ret (C:Code P pl R)(e:R[k]?=some (.ins .ret))(hx:wr x=x∧x≠RP)(h:Run P T f0 m0 n (pl k) r (x::L)):Run P T f0 m0 (n+1) x r L:=
 h.one C e hx.2 fun m _ _ w=>⟨w.top.trans hx.1,w.pop⟩
end
noncomputable def dv (base sc far:Int):Nat→Int
 | 0=>wr base
 | j+1=>wr (far+dv base sc far j+((j+1:Nat):Int)*sc)
theorem BA (base sc far:Int)(j:Nat):wr (dv base sc far j)=dv base sc far j:=by
 induction j<;>exact dy _
section
variable {P:Prg}{pl:Nat→Int}{R:List PR}{base:Int}{f0:Int→Int}{r:Nat→Int}{D:Nat}{ret:Int}
theorem xJ (C:Code P pl R)(hD:∀ i x,(bJ base sc far)[i]?=some x→R[D+i]?=some x)(hL:R.length=D+9){j:Nat}(hl:L.length+2*j<36)(h1:r 1=(j:Int))(hr:wr ret=ret∧ret≠RP)(h:Run P T f0 m0 n (pl D) r (ret::L)):Run P T f0 m0 (n+(7*j+3)) ret (upN r 0 (dv base sc far j)) L:=by
 induction j generalizing n r L ret with
 | zero=>
  have h:=h.jr C hL (hD 0 _ rfl)
  rw [h1,if_pos (by rfl)] at h
  exact (h.movI C (hD 7 _ rfl) (by decide) (by decide)).ret C (hD 8 _ rfl) hr
 | succ j ih=>
  have h:=h.jr C hL (hD 0 _ rfl)
  rw [h1,if_neg (Int.natCast_ne_zero.mpr (Nat.succ_ne_zero j))] at h
  have e:∀ j:Nat,j<20→wr (j:Int)=j:=fun j hj=>bL (by omega) (by omega)
  have ej:=e (j+1) (by omega)
  have h:=((h.push C (hD 1 _ rfl) (by decide) (by show L.length+1<39; omega)).leaB C (hD 2 _ rfl) (v:=(j:Int)) (by decide) (by decide) (by decide)
   (by show wr (-1+wr (r 1))=_; rw [h1,ej,show -1+((j+1:Nat):Int)=(j:Int) by omega]; exact e j (by omega))).call C hL (hD 3 _ rfl) (by show L.length+1+1<39; omega)
  have h:=ih (L:=r 1::ret::L) (by show L.length+1+1+2*j<36; omega) (r:=upN r 1 j) rfl (C.nx (hD 3 _ rfl)).2 h
  have h:=((h.pop C (hD 4 _ rfl) (by decide) (by decide)).lea C (hD 5 _ rfl) (v:=dv base sc far (j+1)) (by decide) (by decide) (by decide) (by decide)
   (by show wr (far+wr (dv base sc far j)+wr (wr (r 1))*sc)=_; rw [h1,ej,ej,BA]; rfl)).ret C (hD 6 _ rfl) hr
  rw [show n+(7*(j+1)+3)=n+1+1+1+1+(7*j+3)+1+1+1 by omega]
  refine h.cast fun i=>?_
  by_cases z:i=0
  ·subst z; rfl
  ·show upN _ 0 _ i=upN _ 0 _ i
   rw [cy z,cy z]
   by_cases z1:i=1
   ·subst z1
    show wr (r 1)=r 1
    rw [h1]; exact ej
   ·show upN _ 1 _ i=_
    rw [cy z1,cy z,cy z1]
end
end
section
theorem kr (a b:Int):wr (a+wr b)=wr (a+b):=by rw [gA,gA,gA,Int.add_emod_emod]
theorem BM (x b sc:Int):wr (x+wr b*sc)=wr (x+b*sc):=by
 rw [←kr,←kr x (b*sc),gA (wr b*sc),gA b,Int.mul_emod,Int.emod_emod,←Int.mul_emod,←gA]
theorem vd (far a b sc:Int):wr (far+wr a+wr b*sc)=wr (a+b*sc+far):=by
 rw [BM,show far+wr a+b*sc=(far+b*sc)+wr a by omega,kr]
 congr 1; omega
noncomputable def inS (d1 d2:Int)(n:Nat):Int:=((List.range n).map fun k:Nat=>d1*(1+(k:Int))+d2).foldl (· + ·) 0
theorem p3 (d1 d2:Int)(n:Nat):inS d1 d2 (n+1)=inS d1 d2 n+(d1*(1+(n:Int))+d2):=by
 unfold inS
 rw [List.range_succ,List.map_append,List.foldl_append]; rfl
theorem Hc (d0 d1 d2:Int)(j:Nat):dv d0 d1 d2 j=wr (d0+inS d1 d2 j):=by
 induction j with
 | zero=>exact congrArg wr (Int.add_zero d0).symm
 | succ j ih=>
  show wr (d2+dv d0 d1 d2 j+((j+1:Nat):Int)*d1)=_
  rw [ih,p3,Int.add_right_comm,kr,Int.mul_comm,show ((j+1:Nat):Int)=1+j by omega]
  congr 1; omega
noncomputable def aX (d0 d1 d2:Int)(q:List Int×Int):bo→List Int×Int
 | .deep spot sc far=>(if 3<q.1.length then q.1.set 3 spot else q.1,(d0+inS d1 d2 spot.toNat)+q.2*sc+far)
 | .arg j sc far=>(q.1,q.2+q.1.getD j 0*sc+far)
noncomputable def l5:bo→Nat
 | .deep spot _ _=>8+7*spot.toNat
 | .arg j _ _=>if 5<j then 2 else 1
theorem mX {l:List Int}{x:Int}:(if 3<l.length then l.set 3 x else l)=l.set 3 x:=by
 split
 ·rfl
 ·rename_i h; exact (List.set_eq_of_length_le (Nat.le_of_not_lt h)).symm
structure Inv (T:Int)(ck:List Int)(r:Nat→Int)(q:List Int×Int):Prop where
 ax:r 0=wr q.2
 bp:r 5=T - 8*((ck.length:Int)+2)
 reg:∀ j,j<q.1.length→j≤5→r (ct j).toNat=wr (q.1.getD j 0)
 lat:∀ j,j+6<q.1.length→∃ y,ck[j]?=some y∧wr y=wr (q.1.getD (j+6) 0)
theorem jD:∀ j<6,(ct j).toNat≠0∧(ct j).toNat≠4∧(ct j).toNat≠11∧(ct j).toNat≠10∧(ct j).toNat≠5∧(ct j).toNat≠3∧(j≠3→(ct j).toNat≠1):=by decide
section
variable {P:Prg}{pl:Nat→Int}{R:List PR}{x3 x5 y:Int}{f0:Int→Int}{r:Nat→Int}{ck:List Int}{D:Nat}{q:List Int×Int}
theorem Run.movM (C:Code P pl R){far:Int}(e:R[k]?=some (.ins (.movM 10 5 far))){t:Nat}(ht:L[t]?=some y)(hv:far+r 5=T - 8*((L.length:Int) - t))(h:Run P T f0 m0 n (pl k) r L):Run P T f0 m0 (n+1) (pl (k+1)) (upN r 10 (wr y)) L:=
 h.set C e (by decide) (by decide) fun m N w=>by
  have h1:(t:Int)<L.length:=Int.ofNat_lt.mpr (List.getElem?_eq_some_iff.mp ht).1
  have h2:(L.length:Int)<40:=Int.ofNat_lt.mpr w.lt
  obtain ⟨p0,p1⟩:=eN w.b (l:=(L.length:Int) - t) (by omega) (by omega)
  show (⟨m.R.set 10 (wr (rdN m.f (wr (wr (far+wr (rg m.R 5))+0)) 8)),m.f,m.n,wr (m.rip+N)⟩:M)=_
  rw [w.reg 5 (by decide),kr,Int.add_zero,dy]
  show (⟨m.R.set 10 (wr (rdN m.f (wr (far+r 5)) 8)),m.f,m.n,wr (m.rip+N)⟩:M)=_
  rw [hv,bL p0 (Int.lt_of_lt_of_le (Int.lt_add_of_pos_right _ (by decide)) p1),w.stk t y ht,dy]
theorem A4 (C:Code P pl R){j:Nat}{sc far:Int}(hx:∀ i x,(aO (.arg j sc far))[i]?=some x→R[k+i]?=some x)(hj:j<q.1.length)(I:Inv T ck r q)(h:Run P T f0 m0 n (pl k) r (x3::x5::RP::ck)) :
  ∃ r',Inv T ck r' (aX d0 d1 d2 q (.arg j sc far))∧Run P T f0 m0 (n+l5 (.arg j sc far)) (pl (k+(aO (.arg j sc far)).length)) r' (x3::x5::RP::ck):=by
 have hv:∀ {s:Nat} {r:Nat→Int},r 0=wr q.2→r s=wr (q.1.getD j 0)→wr (far+wr (r 0)+wr (r s)*sc)=wr (q.2+q.1.getD j 0*sc+far):=fun a b=>by rw [a,b,dy,dy,vd]
 by_cases c:j≤5
 ·have e:aO (.arg j sc far)=[.ins (.lea 0 0 (ct j) sc far)]:=if_pos c
  rw [e] at hx ⊢
  rw [show l5 (.arg j sc far)=1 from if_neg (Nat.not_lt_of_le c)]
  exact ⟨upN r 0 (wr (q.2+q.1.getD j 0*sc+far)),⟨rfl,I.bp,fun i hi h5=>(cy (jD i (Nat.lt_succ_of_le h5)).1).trans (I.reg i hi h5),I.lat⟩,h.lea C (hx 0 _ rfl) (by decide) (by decide) (by decide) (jD j (Nat.lt_succ_of_le c)).2.1 (hv I.ax (I.reg j hj c))⟩
 ·have e:aO (.arg j sc far)=[.ins (.movM 10 5 (16+8*((j:Int) - 6))),.ins (.lea 0 0 10 sc far)]:=if_neg c
  rw [e] at hx ⊢
  obtain ⟨t,rfl⟩:∃ t,j=t+6:=⟨j - 6,(Nat.sub_add_cancel (Nat.lt_of_not_le c)).symm⟩
  obtain ⟨y,hy,ey⟩:=I.lat t hj
  rw [show l5 (.arg (t+6) sc far)=1+1 from if_pos (e:=1) (Nat.lt_of_not_le c)]
  have h:=h.movM C (hx 0 _ rfl) (t:=t+3) hy (by rw [I.bp]; show _=T - 8*((ck.length:Int)+1+1+1 - (t+3:Nat)); omega)
  exact ⟨upN (upN r 10 (wr y)) 0 (wr (q.2+q.1.getD (t+6) 0*sc+far)),⟨rfl,I.bp,fun i hi h5=>(cy (jD i (Nat.lt_succ_of_le h5)).1).trans ((cy (jD i (Nat.lt_succ_of_le h5)).2.2.2.1).trans (I.reg i hi h5)),I.lat⟩,h.lea C (hx 1 _ rfl) (by decide) (by decide) (by decide) (by decide) (hv (s:=10) (r:=upN r 10 (wr y)) I.ax ey)⟩
theorem uQ (C:Code P pl R)(hD:∀ i x,(bJ d0 d1 d2)[i]?=some x→R[D+i]?=some x)(hL:R.length=D+9)(hl:ck.length≤3){spot sc far:Int}(hx:∀ i x,(aO (.deep spot sc far))[i]?=some x→R[k+i]?=some x)(h0:0≤spot)(h4:spot<4)(I:Inv T ck r q)(h:Run P T f0 m0 n (pl k) r (x3::x5::RP::ck)) :
  ∃ r',Inv T ck r' (aX d0 d1 d2 q (.deep spot sc far))∧Run P T f0 m0 (n+l5 (.deep spot sc far)) (pl (k+(aO (.deep spot sc far)).length)) r' (x3::x5::RP::ck):=by
 obtain ⟨j,rfl⟩:=Int.eq_ofNat_of_zero_le h0
 have ej:wr (j:Int)=j:=bL h0 (by omega)
 have h:=((h.push C (hx 0 _ rfl) (by decide) (by show ck.length+3<39; omega)).movI C (hx 1 _ rfl) (by decide) (by decide)).call C hL (hx 2 _ rfl) (by show ck.length+4<39; omega)
 have h:=xJ C hD hL (j:=j) (by show ck.length+4+2*j<36; omega) ej (C.nx (hx 2 _ rfl)).2 h
 have h:=(h.pop C (hx 3 _ rfl) (by decide) (by decide)).lea C (hx 4 _ rfl) (v:=wr ((d0+inS d1 d2 j)+q.2*sc+far)) (by decide) (by decide) (by decide) (by decide)
  (by show wr (far+wr (dv d0 d1 d2 j)+wr (wr (r 0))*sc)=_; rw [I.ax,BA,Hc,dy,dy,vd])
 rw [show n+l5 (.deep j sc far)=n+1+1+1+(7*j+3)+1+1 by show n+(8+7*j)=_; omega]
 refine ⟨upN (upN (upN (upN r 1 j) 0 (dv d0 d1 d2 j)) 11 (wr (r 0))) 0 (wr ((d0+inS d1 d2 j)+q.2*sc+far)),⟨rfl,I.bp,fun i hi h5=>?_,fun i hi=>?_⟩,ej▸h⟩
 ·rw [show (aX d0 d1 d2 q (.deep j sc far)).1=_ from mX] at hi ⊢
  rw [List.length_set] at hi
  by_cases e:i=3
  ·subst e
   rw [List.getD,List.getElem?_set_self hi]; exact ej.symm
  ·obtain ⟨z0,z4,z11,_,_,_,z1⟩:=jD i (Nat.lt_succ_of_le h5)
   rw [cy z0,cy z11,cy z0,cy (z1 e),List.getD,List.getElem?_set_ne (Ne.symm e)]
   exact I.reg i hi h5
 ·rw [show (aX d0 d1 d2 q (.deep j sc far)).1=_ from mX] at hi ⊢
  rw [List.length_set] at hi
  rw [List.getD,List.getElem?_set_ne (by omega)]
  exact I.lat i hi
theorem oH (x:bo):(aX d0 d1 d2 q x).1.length=q.1.length:=by
 cases x with
 | deep a b c=>exact (congrArg List.length mX).trans (List.length_set ..)
 | arg j b c=>rfl
noncomputable def ew (n:Nat):bo→Prop
 | .deep spot _ _=>0≤spot∧spot<4
 | .arg j _ _=>j<n∧j<9
noncomputable def d8 (ps:List bo):Nat:=ps.foldr (fun x n=>l5 x+n) 0
theorem jh {A B:List PR}(hx:∀ i x,(A++B)[i]?=some x→R[k+i]?=some x)(i:Nat)(x:PR)(e:A[i]?=some x):R[k+i]?=some x:=hx i x ((List.getElem?_append_left (List.getElem?_eq_some_iff.mp e).1).trans e)
theorem jg {A B:List PR}(hx:∀ i x,(A++B)[i]?=some x→R[k+i]?=some x)(i:Nat)(x:PR)(e:B[i]?=some x):R[k+A.length+i]?=some x:=by
 rw [Nat.add_assoc]
 exact hx _ x (by rw [List.getElem?_append_right (Nat.le_add_right ..),Nat.add_sub_cancel_left]; exact e)
theorem uk (C:Code P pl R)(hD:∀ i x,(bJ d0 d1 d2)[i]?=some x→R[D+i]?=some x)(hL:R.length=D+9)(hl:ck.length≤3){ps:List bo}(hx:∀ i x,(ps.flatMap aO)[i]?=some x→R[k+i]?=some x)(hok:∀ x∈ps,ew q.1.length x)(I:Inv T ck r q)(h:Run P T f0 m0 n (pl k) r (x3::x5::RP::ck)) :
  ∃ r',Inv T ck r' (ps.foldl (aX d0 d1 d2) q)∧Run P T f0 m0 (n+d8 ps) (pl (k+(ps.flatMap aO).length)) r' (x3::x5::RP::ck):=by
 induction ps generalizing k n r q with
 | nil=>exact ⟨r,I,h⟩
 | cons x ps ih=>
  have hx:∀ i y,(aO x++ps.flatMap aO)[i]?=some y→R[k+i]?=some y:=hx
  have h1:=jh hx
  have ok:=hok x (.head _)
  obtain ⟨r1,I1,H1⟩:∃ r',Inv T ck r' (aX d0 d1 d2 q x)∧Run P T f0 m0 (n+l5 x) (pl (k+(aO x).length)) r' (x3::x5::RP::ck):=by
   cases x with
   | deep spot sc far=>exact uQ C hD hL hl h1 ok.1 ok.2 I h
   | arg j sc far=>exact A4 C h1 ok.1 I h
  obtain ⟨r2,I2,H2⟩:=ih (jg hx) (fun y hy=>by rw [oH]; exact hok y (.tail _ hy)) I1 H1
  refine ⟨r2,I2,?_⟩
  rw [Nat.add_assoc,Nat.add_assoc,←List.length_append] at H2
  exact H2
end
end
section
theorem kQ {xs:List Int}{k i:Nat}(h:i+k=xs.length):(List.range' i k).filterMap (xs[·]?)=xs.drop i:=by
 induction k generalizing i with
 | zero=>rw [List.drop_eq_nil_of_le (Nat.le_of_eq h.symm)]; rfl
 | succ k ih=>
  have hi:i<xs.length:=h▸Nat.lt_add_of_pos_right (Nat.succ_pos k)
  rw [List.range'_succ,List.filterMap_cons,List.getElem?_eq_getElem hi,ih ((Nat.add_right_comm ..).trans h),List.drop_eq_getElem_cons hi]
theorem tz {args:List Int}(h:args.length≤9):ck args=args.drop 6:=by
 have key:∀ n<10,sliceRange (sliceBounds (some 6) none none n).1 (sliceBounds (some 6) none none n).2.1 (sliceBounds (some 6) none none n).2.2=List.range' 6 (n - 6):=by decide +kernel
 unfold ck iq
 rw [key _ (Nat.lt_succ_of_le h)]
 by_cases q:6≤args.length
 ·exact kQ (Nat.add_sub_cancel' q)
 ·have q:=Nat.le_of_not_le q
  rw [Nat.sub_eq_zero_of_le q,List.drop_eq_nil_of_le q]; rfl
theorem pO {args:List Int}(h:args.length≤9):gp args=args.drop 6:=tz h
theorem rc {l:List Int}(h:l.length≤9):iq l none none (some (-1))=l.reverse:=by
 have key:∀ n<10,sliceRange (sliceBounds none none (some (-1)) n).1 (sliceBounds none none (some (-1)) n).2.1 (sliceBounds none none (some (-1)) n).2.2=(List.range' 0 n).reverse:=by decide +kernel
 unfold iq
 rw [key _ (Nat.lt_succ_of_le h),List.filterMap_reverse,kQ (Nat.zero_add _)]; rfl
theorem i5 {args:List Int}(h:args.length≤9):bF args=(args.drop 6).reverse:=by
 unfold bF
 rw [tz h,rc (by simp; omega)]
theorem y7 {m:M}(h:MG m)(x:Int):MG (il m x):=⟨by simp [il,down,h.len],fun i=>iO h.oct 8 i⟩
theorem v9 {xs:List Int}{m:M}(h:MG m):MG (pushes m xs):=by
 induction xs generalizing m with
 | nil=>exact h
 | cons x xs ih=>exact ih (y7 h x)
theorem yR (m:M)(l:List (Int×Int)):(eK m l).f=m.f:=by
 induction l generalizing m with
 | nil=>rfl
 | cons x r ih=>exact ih (m:=oS m x.1 x.2)
section
variable {f0:Int→Int}{m:M}{r:Nat→Int}
theorem Vw.pushes {xs:List Int}(h:Vw T f0 m r L)(hl:L.length+xs.length<39):Vw T f0 (pushes m xs) r (xs.reverse++L):=by
 induction xs generalizing m L with
 | nil=>exact h
 | cons x xs ih=>
  rw [List.reverse_cons,List.append_assoc]
  exact ih (m:=il m x) (h.push (Nat.lt_of_le_of_lt (Nat.le_add_right ..) hl) rfl) (Nat.add_right_comm L.length ..▸hl)
theorem Vw.sets {regs args:List Int}(hr:∀ x∈regs,x.toNat≠4∧x.toNat<16)(nd:(regs.map Int.toNat).Nodup)(h:Vw T f0 m r L):∃ r',Vw T f0 (eK m (regs.zip args)) r' L∧(∀ i,i∉regs.map Int.toNat→r' i=r i)∧∀ j,j<regs.length→j<args.length→r' (regs.getD j 0).toNat=wr (args.getD j 0):=by
 induction regs generalizing args m r with
 | nil=>exact ⟨r,h,fun _ _=>rfl,fun j h=>nomatch h⟩
 | cons x regs ih=>
  cases args with
  | nil=>exact ⟨r,h,fun _ _=>rfl,fun j _ h=>nomatch h⟩
  | cons a args=>
   obtain ⟨nx,nd⟩:=List.nodup_cons.mp nd
   have hx:=hr x (.head _)
   obtain ⟨r',h',o,g⟩:=ih (args:=args) (m:=oS m x a) (r:=upN r x.toNat (wr a)) (fun y hy=>hr y (.tail _ hy)) nd (h.set hx.1 hx.2)
   refine ⟨r',h',fun i hi=>(o i fun z=>hi (.tail _ z)).trans (cy fun e=>hi (e▸.head _)),fun j h1 h2=>?_⟩
   cases j with
   | zero=>exact (o _ nx).trans oK
   | succ j=>exact g j (Nat.lt_of_succ_lt_succ h1) (Nat.lt_of_succ_lt_succ h2)
end
end
section
noncomputable def fH (args:List Int):List Int:=args.map fun a=>a.fmod 18446744073709551616
theorem mU (a:Int):a.fmod 18446744073709551616=wr a:=by rw [gA,Int.fmod_eq_emod_of_nonneg _ (by decide)]
section
variable {P:Prg}{pl:Nat→Int}{R:List PR}{first kept gone x:Int}{f0:Int→Int}{m:M}{r:Nat→Int}{ps:List bo}{args:List Int}
theorem oJ {j:Nat}:wr ((fH args).getD j 0)=wr (args.getD j 0):=by
 unfold fH
 rw [List.getD,List.getD,List.getElem?_map]
 cases args[j]? with
 | none=>rfl
 | some a=>show wr (a.fmod _)=wr a; rw [mU,dy]
theorem Run.bp (C:Code P pl R)(e:R[k]?=some (.ins (.movR 5 4)))(h:Run P T f0 m0 n (pl k) r L):Run P T f0 m0 (n+1) (pl (k+1)) (upN r 5 (T - 8*(L.length:Int))) L:=
 h.set C e (by decide) (by decide) fun m N w=>by
  have h2:(L.length:Int)<40:=Int.ofNat_lt.mpr w.lt
  obtain ⟨p0,p1⟩:=eN w.b (l:=L.length) (Int.le_trans (by decide) (Int.natCast_nonneg _)) h2
  show (⟨m.R.set 5 (wr (wr (wr (rg m.R 4)))),m.f,m.n,wr (m.rip+N)⟩:M)=_
  rw [w.sp,dy,dy,bL p0 (Int.lt_of_lt_of_le (Int.lt_add_of_pos_right _ (by decide)) p1)]
theorem Run.leave (C:Code P pl R)(e:R[k]?=some (.ins .leave))(h5:r 5=T - 8*((L.length:Int)+1))(h:Run P T f0 m0 n (pl k) r (x::L)):Run P T f0 m0 (n+1) (pl (k+1)) (upN r 5 (wr x)) L:=
 h.one C e (C.nx e).2.2 fun m _ h1 w=>⟨h1,by
  show Vw T f0 ⟨(up (m.R.set 4 (rg m.R 5))).set 5 (rdN m.f (rg (m.R.set 4 (rg m.R 5)) 4) 8),m.f,m.n,_⟩ _ _
  rw [show rg m.R 5=rg m.R 4 from (w.reg 5 (by decide)).trans (h5.trans w.sp.symm),yV w.len,w.top]
  exact (w.pop (N:=0) (q:=0)).set (by decide) (by decide)⟩
theorem Ae {T:Int}{n i:Nat}(h:i<n - 6):T - 8*(((n - 6+1:Nat):Int) - (i+1:Nat))=T - 8*((n:Int) - 6)+8*(i:Int):=by omega
theorem CV {a b c d e:Nat}(h1:a+8*(c+12)≤100000)(h2:b≤a+32)(h3:d≤b+8*(c+7))(h4:e≤d+8):b+8*(c+7+1)≤100000∧e≤a+8*(c+12):=by omega
theorem I4 (C:Code P pl (bH ps first kept gone++bJ d0 d1 d2))(hok:∀ x∈ps,ew args.length x)(hl:args.length≤9)(g:MG m)(hT:500≤rg m.R 4∧rg m.R 4<4294967000)(h3:wr (rg m.R 3)=rg m.R 3)(h5:wr (rg m.R 5)=rg m.R 5)(hn:m.n+8*(d8 ps+12)≤100000) :
  ∃ m',cZ P (d8 ps+8) (cY m args (pl 0)) m'∧m'.rip=RP∧MG m'∧m'.n≤m.n+8*(d8 ps+12)∧rg m'.R 0=wr (ps.foldl (aX d0 d1 d2) (fH args,first)).2∧rg m'.R 3=rg m.R 3∧rg m'.R 5=rg m.R 5∧(∀ a,rg m.R 4≤a→m'.f a=m.f a)∧
   (∀ (i:Nat) wo,(args.drop 6)[i]?=some wo→rdN m'.f (rg m.R 4 - 8*((args.length:Int) - 6)+8*(i:Int)) 8=wr wo)∧∃ m₁,cZ P (d8 ps+7) (cY m args (pl 0)) m₁∧m₁.rip≠RP:=by
 have late3:(args.drop 6).length≤3:=by rw [List.length_drop]; exact Nat.sub_le_sub_right hl 6
 have V0:Vw (rg m.R 4) m.f m (fun i=>m.R.getD i 0) []:=⟨hT,by decide,g.len,fun _ _=>rfl,(Int.sub_zero _).symm,fun i x e=>(nomatch e),fun _ _=>rfl⟩
 have V1:=V0.pushes (xs:=bF args) (by rw [i5 hl,List.length_reverse]; exact Nat.lt_of_le_of_lt (Nat.le_of_eq (Nat.zero_add _)) (Nat.lt_of_le_of_lt late3 (by decide)))
 rw [show (bF args).reverse++[]=args.drop 6 by rw [List.append_nil,i5 hl,List.reverse_reverse]] at V1
 obtain ⟨rb,V2,ro,ra⟩:=V1.sets (regs:=cw) (args:=args) (by decide) (by decide)
 have V3:=V2.push (x:=RP) (y:=RP) (N:=0) (q:=0) (Nat.lt_of_le_of_lt late3 (by decide)) rfl
 have gd:MG (cY m args (pl 0)):=⟨V3.len,iO (fun i=>by rw [yR]; exact (v9 g).oct i) 8⟩
 have nd:(cY m args (pl 0)).n≤m.n+32:=by
  show (eK (pushes m (bF args)) (cw.zip args)).n+8≤_
  rw [sU,kM,i5 hl,List.length_reverse]
  exact Nat.add_le_add_left (Nat.mul_le_mul_left 8 (Nat.succ_le_succ late3)) _
 have pl0:=C.lim 0 (Nat.zero_le _)
 have H:Run P (rg m.R 4) m.f (cY m args (pl 0)) 0 (pl 0) rb (RP::args.drop 6):=⟨_,.nil _,bL pl0.1 (Int.lt_trans pl0.2 (by decide)),V3.b,V3.lt,V3.len,V3.reg,V3.sp,V3.stk,V3.mem⟩
 generalize cY m args (pl 0)=md at *
 have x0:∀ i x,(bH ps first kept gone++bJ d0 d1 d2)[i]?=some x→(bH ps first kept gone++bJ d0 d1 d2)[0+i]?=some x:=fun i x e=>(Nat.zero_add i).symm▸e
 have xd:=jg x0
 have xp:=jh (jh x0)
 have xt:=jg (jh x0)
 have hL:(bH ps first kept gone++bJ d0 d1 d2).length=0+(bH ps first kept gone).length+9:=by rw [List.length_append,Nat.zero_add]; rfl
 generalize bH ps first kept gone++bJ d0 d1 d2=R at *
 have xh:=jh xp
 have H1:=((((H.push C (xh 0 _ rfl) (by decide) (Nat.lt_of_le_of_lt (Nat.succ_le_succ late3) (by decide))).bp C (xh 1 _ rfl)).push C (xh 2 _ rfl) (by decide) (Nat.lt_of_le_of_lt (Nat.succ_le_succ (Nat.succ_le_succ late3)) (by decide))).movI C (xh 3 _ rfl) (by decide) (by decide)).movI C (xh 4 _ rfl) (by decide) (by decide)
 have I0:Inv (rg m.R 4) (args.drop 6) (upN (upN (upN rb 5 (rg m.R 4 - 8*((args.drop 6).length+1+1:Nat))) 3 (wr kept)) 0 (wr first)) (fH args,first):=by
  refine ⟨rfl,rfl,fun j hj h5=>?_,fun j hj=>⟨args.getD (j+6) 0,?_,oJ.symm⟩⟩
  ·obtain ⟨z0,_,_,_,z5,z3,_⟩:=jD j (Nat.lt_succ_of_le h5)
   have e:∀ j<6,ct j=cw.getD j 0:=by decide
   rw [cy z0,cy z3,cy z5,oJ,e j (Nat.lt_succ_of_le h5)]
   exact ra j (Nat.lt_succ_of_le h5) (List.length_map (as:=args) _▸hj)
  ·have hj:j+6<args.length:=List.length_map (as:=args) _▸hj
   rw [List.getElem?_drop,Nat.add_comm,List.getD,List.getElem?_eq_getElem hj]; rfl
 obtain ⟨r2,I2,H2⟩:=uk C xd hL late3 (jg xp) (fun x hx=>(List.length_map (as:=args) (f:=fun a=>a.fmod 18446744073709551616)).symm▸hok x hx) I0 H1
 rw [Nat.add_assoc 0 (gP first kept).length,←List.length_append] at H2
 obtain ⟨m3,S,er,w⟩:=(H2.pop C (xt 0 _ rfl) (by decide) (by decide)).leave C (xt 1 _ rfl) (L:=RP::args.drop 6) (show upN r2 3 (wr (rb 3)) 5=_ from I2.bp)
 rw [show 0+1+1+1+1+1+d8 ps=d8 ps+5 from Nat.add_comm ..] at S
 have S:dS P (d8 ps+7) md m3:=S
 have e2:=xt 2 _ rfl
 have hP:=C.row _ _ e2
 rw [←er] at hP
 obtain ⟨len,row,hP,f0,f1,f2⟩:∃ len row,P m3.rip=some (len,row)∧(row.go len m3).rip=RP∧(row.go len m3).f=m3.f∧∀ {i:Int},i.toNat≠4→rg (row.go len m3).R i=upN (upN r2 3 (wr (rb 3))) 5 (wr (rb 5)) i.toNat:=by
  refine ⟨_,_,hP,?_⟩
  show ((if decide (0<gone) then Row.retI gone else Row.ret).go _ m3).rip=RP∧((if decide (0<gone) then Row.retI gone else Row.ret).go _ m3).f=m3.f∧∀ {i:Int},i.toNat≠4→rg ((if decide (0<gone) then Row.retI gone else Row.ret).go _ m3).R i=_
  have u:∀ {i:Int},i.toNat≠4→rg (up m3.R) i=upN (upN r2 3 (wr (rb 3))) 5 (wr (rb 5)) i.toNat:=fun {i} hi=>((vX w.len).trans (if_neg hi)).trans (w.reg i hi)
  split
  ·exact ⟨w.top,rfl,fun {i} hi=>((gE (by exact (List.length_set ..).trans w.len) (by decide)).trans (if_neg hi)).trans (u hi)⟩
  ·exact ⟨w.top,rfl,u⟩
 have gg:=S.good gd
 have g4:=gg.1.go len row
 obtain ⟨n1,n2⟩:=CV hn nd gg.2 g4.2
 refine ⟨row.go len m3,S.last gd n1 hP,f0,g4.1,n2,(f2 (by decide)).trans I2.ax,(f2 (by decide)).trans ?_,(f2 (by decide)).trans ?_,fun a ha=>by rw [f1]; exact w.mem a ha,fun i wo e=>?_,m3,S.trace gd (Nat.le_trans (Nat.add_le_add_left (Nat.mul_le_mul_left 8 (Nat.le_succ _)) _) n1),by rw [er]; exact (C.nx (xt 1 _ rfl)).2.2⟩
 ·show wr (rb 3)=_
  rw [ro 3 (by decide)]; exact h3
 ·show wr (rb 5)=_
  rw [ro 5 (by decide)]; exact h5
 ·have hi:=(List.getElem?_eq_some_iff.mp e).1
  rw [f1,←w.stk (i+1) wo e]
  congr 1
  rw [List.length_cons]
  rw [List.length_drop] at hi ⊢
  exact (Ae hi).symm
theorem xQ {n:Nat}{x:bo}(h:ew n x)(t:Int):cu t x=t+(l5 x:Int):=by
 cases x with
 | deep a b c=>
  obtain ⟨k,rfl⟩:=Int.eq_ofNat_of_zero_le h.1
  show t+5+7*(k:Int)+3=t+((8+7*k:Nat):Int)
  omega
 | arg j b c=>
  show t+1+(if decide (5<((j:Nat):Int)) then 1 else 0)=t+((if 5<j then 2 else 1:Nat):Int)
  by_cases c:5<j
  ·rw [if_pos (decide_eq_true (Int.ofNat_lt.mpr c)),if_pos c]; exact Int.add_assoc t 1 1
  ·rw [if_neg fun z=>c (Int.ofNat_lt.mp (of_decide_eq_true z)),if_neg c]; exact Int.add_zero _
theorem uY (hok:∀ x∈ps,ew args.length x):gR ps=((d8 ps+8:Nat):Int):=by
 have key:∀ (ps:List bo) (t:Int),(∀ x∈ps,ew args.length x)→ps.foldl cu t=t+(d8 ps:Int):=by
  intro ps
  induction ps with
  | nil=>exact fun t _=>(Int.add_zero t).symm
  | cons x r ih=>
   intro t h
   show r.foldl cu (cu t x)=t+((l5 x:Int)+(d8 r:Int))
   rw [ih _ fun y hy=>h y (.tail _ hy),xQ (h x (.head _)),Int.add_assoc]
 unfold gR
 rw [key ps 8 hok]; exact Int.add_comm ..
end
end
section
noncomputable abbrev pgB (p:Params):List Stmt:=bK p 1096
noncomputable abbrev c6 (p:Params)(d:Nat):Cx:=⟨aK p 1096,[],d⟩
noncomputable abbrev uj (p:Params):Expr:=bc 0 (jl (ad 0 (pgB p)))
noncomputable abbrev j4 (p:Params):Stmt:=ad 1 (pgB p)
noncomputable abbrev eO (p:Params):Stmt:=ad 3 (pgB p)
noncomputable def pgA (begin wide:Int):Loc:=[("rows",.ref 0),("begin",.uint begin),("wide",.uint wide)]
section
variable (p:Params)(begin wide:Int)(xs:List SV)
theorem Cp:fQ (an p) 1096=true:=by rfl'
theorem pc:bj ((an p).lookup 1096)=(["rows","begin","wide"]:List Str):=by rfl'
theorem zg:pgB p=ad 0 (pgB p)::j4 p::ad 2 (pgB p)::eO p::(pgB p).drop 4:=by rfl'
theorem E4:ad 0 (pgB p)=.Assign [.Tuple (cJ (uj p)) (tuK (uj p)) (Expr.pos (uj p))] (aI (ad 0 (pgB p))) (aS (ad 0 (pgB p))):=by rfl'
theorem Cn:fW (aI (ad 0 (pgB p)))=true:=by rfl'
theorem Cj:swappedStores [.Tuple (cJ (uj p)) (tuK (uj p)) (Expr.pos (uj p))] (aI (ad 0 (pgB p))) (uT (aK p 1096))=pure (some (["places","spot","found"]:List Str)):=by rfl'
theorem EZ:(["places","spot","found"]:List Str).all (aD (aK p 1096))=true:=by rfl'
theorem ID:∀ v,E6 v→am (v.e (c6 p 38) (pgA begin wide) (aI (ad 0 (pgB p))) ⟨[(0,.ro (.slist xs))],1⟩) =
  ([([],[],.ref 3,⟨(3,.tup [.ref 1,.uint begin,.ref 2])::(2,.edict)::(1,.list [])::[(0,.ro (.slist xs))],4⟩)]:LE):=by rintro _ rfl; rfl'
theorem E3:j4 p=.For (.Name "at" (ao (aF (j4 p)))) (aC (j4 p)) (ah (j4 p)) [] (aS (j4 p)):=by rfl'
end
end
section
noncomputable def de (xs:List Str)(m:Loc):Loc:=xs.filterMap fun x=>(af x m).map (x,·)
theorem jw {m:Loc}{y:Str}{sv:SV}:∀ {xs:List Str},af y (de xs m)=some sv→af y m=some sv
 | [],h=>nomatch h
 | x::r,h=>by
  unfold de at h
  cases q:af x m with
  | none=>rw [List.filterMap_cons_none (by rw [q]; rfl)] at h; exact jw h
  | some v=>
   rw [List.filterMap_cons_some (b:=(x,v)) (by rw [q]; rfl)] at h
   unfold af at h
   cases e:sEq x y with
   | true=>rw [e] at h; rw [←aQ.mp e,q]; exact h
   | false=>rw [e] at h; exact jw h
section
theorem Fm.pick {h:Heap}(fm:Fm F ρ σ cx env m h)(xs:List Str)(e:de xs m=m'):Fm F ρ σ cx env m' h:=fm.conv fun x sv hx=>⟨sv,jw (xs:=xs) (by rw [e]; exact hx),fun _ i=>i⟩
theorem At.view (at':At F ρ ⟨σ,n⟩ s)(hf:ae ρ σ'=ae ρ σ)(ok:∀ e∈σ',e∈σ∨(∀ o,e.2≠.ro o)∧∃ q,ρ[e.1]?=some q∧OkO ρ s.heap q e.2):At F ρ ⟨σ',n⟩ s:=
 at'.sub at'.len (fun e he=>(ok e he).elim (fun z=>at'.rep.ok e z) fun z=>z.2) (fun e he o eo=>(ok e he).elim (fun z=>at'.rep.ro e z o eo) fun z=>absurd eo (z.1 o)) (by rw [hf]; exact at'.rep.nodup) (by rw [hf]; exact fun _ h=>h)
end
noncomputable def plA (begin wide:Int):Nat→Int
 | 0=>begin
 | k+1=>plA begin wide k+1+(wide+(k:Int)*(k:Int)).fmod 5
noncomputable def dM (L:List PR)(pl:Nat→Int):Nat→Prg
 | 0=>fun _=>none
 | k+1=>fun i=>if i=pl k then (L[k]?).map fun x=>(pl (k+1) - pl k,fJ pl L.length k x) else dM L pl k i
noncomputable def oA (n k:Nat):PR→Prop
 | .ins r=>lH r
 | .tu nm off=>(nm = "call"∨nm = "jrcxz")∧0≤(n:Int)+off∧(n:Int)+off≤n
noncomputable def j3 (wide sp:Int):Loc:=[("rows",.ref 0),("wide",.uint wide),("places",.ref 1),("spot",.uint sp),("found",.ref 2)]
noncomputable def tg (wide sp i:Int):Loc:=j3 wide sp++([("at",.uint i)]:Loc)
noncomputable def pgH (xs:List SV)(ps:List Int):Hp:=[(0,.ro (.slist xs)),(1,.ilist ps),(2,.edict)]
noncomputable def pgK (xs:List SV)(ps:List Int)(g:Int→Option SV)(n:Nat):Hp:=[(0,.ro (.slist xs)),(1,.ro (.ilist ps)),(2,.idict g n)]
noncomputable def fB:Loc:=[("rows",.ref 0),("places",.ref 1),("found",.ref 2)]
noncomputable def mu (i:Int):Loc:=fB++([("at",.uint i),("row",.ref 11)]:Loc)
noncomputable def pgE (ps:List Int)(i:Int)(k:Nat):SO:=.inst 581 [("instruction",.ref k),("length",.uint (ps.getD (i+1).toNat 0 - ps.getD i.toNat 0)),("form",.none),("prefixes",.none)]
noncomputable def pgT (nm:Str)(off i:Int)(xs:List SV)(ps:List Int)(g:Int→Option SV)(n:Nat):Hp:=
 (21,pgE ps i 20)::(20,.inst 839 [("name",.str nm),("operands",.ref 19),("prefix",.str "")])::(19,.tup [.ref 18])::(18,.inst 733 [("kind",.str "rel"),("worth",.uint (ps.getD ((xs.length:Int)+off).toNat 0 - ps.getD (i+1).toNat 0)),("name",.str "")]) ::
  (pgK xs ps (jZ g (ps.getD i.toNat 0) (.ref 21)) (n+1)++[(11,.ro (.tup [.str nm,.uint off]))])
noncomputable def pgI (nm:Str)(i:Int)(xs:List SV)(ps:List Int)(g:Int→Option SV)(n:Nat):Hp:=
 (18,pgE ps i 11)::(pgK xs ps (jZ g (ps.getD i.toNat 0) (.ref 18)) (n+1)++[(11,.ro (.inst 839 [("name",.str nm),("operands",.ref 12),("prefix",.str "")]))])
noncomputable def lO (i:Int)(m:Nat):Prop:=0≤i∧i<(m:Int)∧m<2 ^ 62
section
variable (p:Params)(wide sp i off:Int)(nm:Str)(xs:List SV)(ps:List Int)(g:Int→Option SV)(n:Nat)
theorem IC:∀ v,E6 v→am (v.e (c6 p 38) (j3 wide sp) (aC (j4 p)) ⟨pgH xs ps,3⟩)=([([],[xs.length<2 ^ 62],.ref 3,⟨(3,.rng 0 (xs.length:Int))::pgH xs ps,4⟩)]:LE):=by rintro _ rfl; rfl'
theorem E9:∀ v,E6 v→aq (v.ss (c6 p 38) (tg wide sp i) (ah (j4 p)) ⟨pgH xs ps,3⟩)=([([],[ps.length≤1000,IntMulOk i i],.next,tg wide (sp+1+(wide+i*i).fmod 5) i,⟨pgH xs (ps++[sp]),3⟩)]:LS):=by rintro _ rfl; rfl'
theorem IB:∀ v,E6 v→aq (v.s (c6 p 38) (j3 wide sp) (ad 2 (pgB p)) ⟨pgH xs ps,3⟩)=([([],[ps.length≤1000],.next,j3 wide sp,⟨pgH xs (ps++[sp]),3⟩)]:LS):=by rintro _ rfl; rfl'
theorem E2:eO p=.For (.Tuple (cJ (aF (eO p))) (tuK (aF (eO p))) (Expr.pos (aF (eO p)))) (.Call (caF (aC (eO p))) (caA (aC (eO p))) [] (Expr.pos (aC (eO p)))) (ah (eO p)) [] (aS (eO p)):=by rfl'
theorem E7:bG (caF (aC (eO p)))=false:=by rfl'
theorem EY:noStar (caA (aC (eO p)))=true:=by rfl'
theorem IA:∀ v,E6 v→am (v.e (c6 p 38) fB (caF (aC (eO p))) ⟨pgK xs ps g n,3⟩)=([([],[],.ty "enumerate",⟨pgK xs ps g n,3⟩)]:LE):=by rintro _ rfl; rfl'
theorem E8:∀ v,E6 v→bw (v.es (c6 p 38) fB (caA (aC (eO p))) ⟨pgK xs ps g n,3⟩)=([([],[],[.ref 0],⟨pgK xs ps g n,3⟩)]:LEs):=by rintro _ rfl; rfl'
theorem Iy (a:Addr):bR (c6 p 38) (cJ (aF (eO p))) [.uint i,.sta a] fB=some (fB++([("at",.uint i),("row",.sta a)]:Loc)):=by rfl'
theorem EX:∀ v,E6 v→aq (v.ss (c6 p 38) (mu i) (ah (eO p)) ⟨pgK xs ps g n++[(11,.ro (.tup [.str nm,.uint off]))],18⟩) =
  ([([],[xs.length<2 ^ 62,lO ((xs.length:Int)+off) ps.length,lO (i+1) ps.length,lO (i+1) ps.length,lO i ps.length,lO i ps.length,n≤100000],.next,mu i++([("line",.ref 20)]:Loc),⟨pgT nm off i xs ps g n,22⟩)]:LS):=by rintro _ rfl; rfl'
theorem E1:∀ v,E6 v→aq (v.ss (c6 p 38) (mu i) (ah (eO p)) ⟨pgK xs ps g n++[(11,.ro (.inst 839 [("name",.str nm),("operands",.ref 12),("prefix",.str "")]))],18⟩) =
  ([([],[lO (i+1) ps.length,lO i ps.length,lO i ps.length,n≤100000],.next,mu i++([("line",.ref 11)]:Loc),⟨pgI nm i xs ps g n,19⟩)]:LS):=by rintro _ rfl; rfl'
theorem Iz:∀ v,E6 v→aq (v.ss (c6 p 38) fB ((pgB p).drop 4) ⟨pgK xs ps g n,3⟩)=([([],[],.ret (.ref 2),fB,⟨pgK xs ps g n,3⟩)]:LS):=by rintro _ rfl; rfl'
end
end
section
section
variable {q d:Addr×Addr}
theorem az.sta {a:Option SV}{b:Option Value}(i:az ρ a b):az ρ' (a.map (gv ρ)) b:=by
 cases a<;>cases b<;>first | exact i | exact sS i
theorem pH (f:SV→SV)(x:Str):∀ fs:List (Str×SV),af x (fs.map fun e=>(e.1,f e.2))=(af x fs).map f
 | []=>rfl
 | e::r=>by
  show af x ((e.1,f e.2)::r.map _)=_
  unfold af
  cases sEq e.1 x with
  | true=>rfl
  | false=>exact pH f x r
theorem OkO.staI {C:Addr}{fs:List (Str×SV)}(O:OkO ρ h q (.inst C fs)):OkO ρ' h q (.inst C (fs.map fun e=>(e.1,gv ρ e.2))):=by
 obtain ⟨a,es,ep,b,c,e,f⟩:=O
 exact ⟨a,es,ep,b,c,by rw [List.length_map]; exact e,fun x=>by rw [pH]; exact (f x).sta⟩
theorem OkO.staD {g:Int→Option SV}(O:OkO ρ h q (.idict g n)):OkO ρ' h q (.idict (fun x=>(g x).map (gv ρ)) n):=by
 obtain ⟨a,kvs,b,c,f⟩:=O
 exact ⟨a,kvs,b,c,fun x=>(f x).sta⟩
noncomputable def Hg (a:Addr)(len:Int):SO:=.inst 581 [("instruction",.sta a),("length",.uint len),("form",.none),("prefixes",.none)]
theorem yU {a:Addr}{row:Row}{len:Int}(hI:oz F a row)(hD:∀ h',F.le h'→OkO [] h' d (Hg a len)):sH F d.1 len row:=by
 obtain ⟨nm,τ,h1,⟨d0,h2⟩,h3⟩:=hI
 refine ⟨nm,d::τ,by simp [h1],⟨d.2,rfl⟩,fun ρ₀ hρ e he=>?_⟩
 rw [ue] at he
 have e1:ρ₀++d::τ=(ρ₀++[d])++τ:=by simp
 rcases aJ he with rfl | he
 ·refine ⟨_,rfl,d,by rw [List.getElem?_append_right (by omega),hρ]; rfl,fun h' hh=>?_⟩
  obtain ⟨a1,es,ep,b,c,e,f⟩:=hD h' hh
  refine ⟨a1,es,ep,b,c,e,fun x=>?_⟩
  have:=f x
  simp only [af] at this ⊢
  cases hx:sEq "instruction" x with
  | false=>rw [hx] at this; exact this.mono (ρ:=[]) 
  | true=>
   rw [hx] at this
   cases hv:nsFind es x with
   | none=>rw [hv] at this; exact this
   | some v=>
    rw [hv] at this
    exact ⟨(a,d0),by rw [e1,List.getElem?_append_right (by simp [hρ]),List.length_append,hρ]; exact h2,this⟩
 ·rw [e1]
  exact h3 (ρ₀++[d]) (by simp [hρ]) e he
theorem Co {q0 q1 q2:Addr×Addr}{xs:List SV}{ps:List Int}{g:Int→Option SV}{y:Int}(T:To [env.locals] F [q0,q1,q2] ⟨pgK xs ps g n,3⟩ s F₁ ([q0,q1,q2]++τ) ⟨σ₁,N⟩ s₁)(a₀:At F [q0,q1,q2] ⟨pgK xs ps g n,3⟩ s)
  (fm:Fm F₁ ([q0,q1,q2]++τ) σ₁ cx env m s₁.heap) (hm:de ["rows","places","found"] m=fB) (hc:cx.cells=[]) (h2:(2,.idict (jZ g y (.ref k)) (n+1))∈σ₁) :
  ToU [env.locals] F [q0,q1,q2] ⟨pgK xs ps g n,3⟩ s F₁ [q0,q1,q2] ⟨pgK xs ps (fun x=>(jZ g y (.ref k) x).map (gv ([q0,q1,q2]++τ))) (n+1),3⟩ s₁∧
   Fm F₁ [q0,q1,q2] (pgK xs ps (fun x=>(jZ g y (.ref k) x).map (gv ([q0,q1,q2]++τ))) (n+1)) cx env fB s₁.heap:=by
 have hsub:∀ a∈ae [q0,q1,q2] (pgK xs ps (fun x=>(jZ g y (.ref k) x).map (gv ([q0,q1,q2]++τ))) (n+1)),a∈ae ([q0,q1,q2]++τ) σ₁:=fun a ha=>by
  have ha:a∈[q2.1]:=ha
  exact aw.mpr ⟨_,h2,q2,rfl,ha⟩
 have a1:=T.at'
 obtain ⟨z,hz,O2⟩:=a1.rep.ok _ h2
 have hz:some q2=some z:=hz
 cases hz
 have Fle:=T.ext.fz
 have ro0:∀ e∈pgK xs ps g n,∀ o,e.2=.ro o→∀ q,([q0,q1,q2]:Rho)[e.1]?=some q→∀ h',F₁.le h'→OkO [q0,q1,q2] h' q o:=fun e he o eo q hq h' hh=>a₀.rep.ro e he o eo q hq h' fun a b e=>hh a b (Fle a b e)
 have at2:At F₁ [q0,q1,q2] ⟨pgK xs ps (fun x=>(jZ g y (.ref k) x).map (gv ([q0,q1,q2]++τ))) (n+1),3⟩ s₁:=by
  refine a1.sub rfl (fun e he=>?_) (fun e he o eo q hq h' hh=>?_) ?_ hsub
  ·rcases gx he with rfl | rfl | rfl
   ·exact ⟨q0,rfl,ro0 (0,.ro (.slist xs)) (.head _) _ rfl q0 rfl _ a1.rep.le⟩
   ·exact ⟨q1,rfl,ro0 (1,.ro (.ilist ps)) (.tail _ (.head _)) _ rfl q1 rfl _ a1.rep.le⟩
   ·exact ⟨q2,rfl,O2.staD⟩
  ·rcases gx he with rfl | rfl | rfl
   ·exact ro0 (0,.ro (.slist xs)) (.head _) o eo q hq h' hh
   ·exact ro0 (1,.ro (.ilist ps)) (.tail _ (.head _)) o eo q hq h' hh
   ·cases eo
  ·show ([q2.1]:List Addr).Nodup
   simp
 exact ⟨T.u.sub at2 hsub,(fm.pick _ hm).cut (by rw [hc]; rfl) (by rfl) hsub⟩
end
end
section
noncomputable def GP (F:Fz)(P:Prg)(g:Int→Option SV):Prop:=∀ x len row,P x=some (len,row)→∃ a,g x=some (.sta a)∧sH F a len row
noncomputable def dmy:Rho:=[(0,0),(0,0),(0,0),(0,0),(0,0),(0,0),(0,0),(0,0)]
theorem uF (nm:Nat→Str)(row:Row):∃ x,((11,SO.ro (.inst 839 [("name",.str x),("operands",.ref 12),("prefix",.str "")])):Nat×SO)∈gq nm row:=by
 cases row<;>exact ⟨_,.head _⟩
noncomputable def pgo (σ:Hp):Hp:=aW [18,19,20,21] σ
section
variable {xs:List SV}{ps:List Int}{g:Int→Option SV}{L:List PR}{pl:Nat→Int}
theorem GP.upd {P:Prg}{τ:Rho}{y len:Int}{row:Row}{d:Addr×Addr}(h:GP F P g)(hs:F.Sub F')(hk:τ[k]?=some d)(hr:sH F' d.1 len row) :
  GP F' (fun x=>if x=y then some (len,row) else P x) fun x=>(jZ g y (.ref k) x).map (gv τ):=fun x l r e=>by
 dsimp only at e
 unfold jZ
 dsimp only
 by_cases c:x=y
 ·rw [if_pos c] at e ⊢
  cases e
  exact ⟨d.1,by show some (SV.sta (τ.getD k (0,0)).1)=_; rw [List.getD,hk]; rfl,hr⟩
 ·rw [if_neg c] at e ⊢
  obtain ⟨a,h1,h2⟩:=h x l r e
  exact ⟨a,by rw [h1]; rfl,h2.mono hs⟩
theorem mD {x y:Str}{sv sv' z:SV}:∀ {m:Loc},af y (m++[(x,sv')])=some z→af y (m++[(x,sv)])=some z∨(z=sv'∧af y (m++[(x,sv)])=some sv)
 | [],h=>by
  simp only [List.nil_append,af] at h ⊢
  cases q:sEq x y with
  | true=>rw [q] at h; cases h; exact .inr ⟨rfl,rfl⟩
  | false=>rw [q] at h; cases h
 | e::r,h=>by
  simp only [List.cons_append,af] at h ⊢
  cases q:sEq e.1 y with
  | true=>rw [q] at h; exact .inl h
  | false=>rw [q] at h; exact mD h
theorem Fm.last {h:Heap}{x:Str}{sv sv':SV}(fm:Fm F ρ σ cx env (m++[(x,sv)]) h)(i:∀ v,sv.Is ρ v→sv'.Is ρ v):Fm F ρ σ cx env (m++[(x,sv')]) h:=fm.conv fun y z hz=>by
 rcases mD (sv:=sv) hz with h1 | ⟨rfl,h1⟩
 ·exact ⟨z,h1,fun _ i=>i⟩
 ·exact ⟨sv,h1,i⟩
theorem Fm.frz {F₁:Fz}{h:Heap}{ids:List Nat}(fm:Fm F ρ σ cx env m h)(ho:∀ a,a∉ae ρ σ→F₁ a=F a):Fm F₁ ρ (aW ids σ) cx env m h:=
 (fm.known (by rw [ho _ fm.out]; exact fm.free)).sub eF.subset
noncomputable def tV (cx:Cx)(env:Env)(F:Fz)(ρ:Rho)(xs:List SV)(ps:List Int)(g:Int→Option SV)(n:Nat)(P:Prg)(s s':Shared):Prop:=
 ∃ F' g',ToU [env.locals] F ρ ⟨pgK xs ps g n,3⟩ s F' ρ ⟨pgK xs ps g' (n+1),3⟩ s'∧Fm F' ρ (pgK xs ps g' (n+1)) cx env fB s'.heap∧GP F' P g'
theorem wl {sts:List Stmt}{qa:Addr×Addr}{o:SO}{σ':Hp}{ids:List Nat}{L':Loc}{nds:List Prop}{len y:Int}{row:Row}{P:Prg}{c:Nat}{Q:Flow→Shared→Prop}{v:Ev}(S:aG v)(rm:aj 38 A)(hτ:τ.length=15)(a₀:At F [q0,q1,q2] ⟨pgK xs ps g n,3⟩ s)
  (fm:Fm F [q0,q1,q2] (pgK xs ps g n) (c6 p 38) env (fB++([("at",.uint (i:Int)),("row",.sta qa.1)]:Loc)) s.heap) (hq:τ[8]?=some qa) (ho:∀ h',F.le h'→OkO ([q0,q1,q2]++τ) h' qa o)
  (e:aq (v.ss (c6 p 38) (mu i) sts ⟨pgK xs ps g n++[(11,.ro o)],18⟩)=([([],nds,.next,L',⟨σ',N⟩)]:LS)) (hn:∀ P∈nds,P) (hL:de ["rows","places","found"] L'=fB)
  (hk:be ids (pgK xs ps g n) σ'=true) (h2:(2,.idict (jZ g y (.ref k)) (n+1))∈aW ids σ') (hd:(k,SO.ro (.inst 581 [("instruction",.ref c),("length",.uint len),("form",.none),("prefixes",.none)]))∈aW ids σ')
  (hr:∀ F' ρ' s',F.Sub F'→At F' ([q0,q1,q2]++(τ++ρ')) ⟨aW ids σ',N⟩ s'→oz F' (([q0,q1,q2]++(τ++ρ')).getD c (0,0)).1 row) (hg:GP F P g)
  (h:∀ s',tV (c6 p 38) env F [q0,q1,q2] xs ps g n (fun x=>if x=y then some (len,row) else P x) s s'→Q .next s'):wpAny (model prog w) A (execs sts env) Q E s:=by
 have nl:=@noA env.locals
 have g11:([q0,q1,q2]++τ)[11]?=some qa:=hq
 have T₁:To [] F [q0,q1,q2] ⟨pgK xs ps g n,3⟩ s F ([q0,q1,q2]++τ) ⟨pgK xs ps g n++[(11,.ro o)],18⟩ s:=a₀.ros τ (by rw [hτ]; rfl) fun e he=>by
  obtain rfl:=ak he
  exact ⟨o,rfl,qa,g11,ho⟩
 have fm₂:Fm F ([q0,q1,q2]++τ) (pgK xs ps g n++[(11,.ro o)]) (c6 p 38) env (mu i) s.heap:=
  Fm.last (m:=fB++([("at",.uint (i:Int))]:Loc)) (x:="row") (sv:=.sta qa.1) (sv':=.ref 11) (fm.to T₁ nl) fun v i=>⟨qa,g11,i⟩
 refine S.ss rm T₁.at' fm₂ (ac _ e hn fun F₂ ρ₂ s₂ f T₂ fm₃ hf=>?_)
 cases hf
 dsimp only at T₂ fm₃
 obtain ⟨τ₂,eτ⟩:=T₂.ext.pre
 rw [List.append_assoc] at eτ
 subst eτ
 obtain ⟨F₃,hFF,hout,T₃⟩:=((T₁.nil (X:=[env.locals])).trans T₂).freezeX a₀ ids hk
 dsimp only at T₃
 have fm₄:Fm F₃ ([q0,q1,q2]++(τ++τ₂)) (aW ids σ') (c6 p 38) env L' s₂.heap:=fm₃.frz hout
 obtain ⟨TU,fm₅⟩:=Co T₃ a₀ fm₄ hL rfl h2
 have a3:=T₃.at'
 obtain ⟨d,hd',_⟩:=a3.rep.ok _ hd
 have kF:F.Sub F₃:=T₃.ext.fz
 have hD:∀ h',F₃.le h'→OkO [] h' d (Hg (([q0,q1,q2]++(τ++τ₂)).getD c (0,0)).1 len):=fun h' hh=>(a3.rep.ro _ hd _ rfl d hd' h' hh).staI
 exact h s₂ ⟨F₃,_,TU,fm₅,hg.upd kF hd' (yU (hr F₃ τ₂ s₂ kF a3) hD)⟩
end
end
section
section
variable {xs:List SV}{ps:List Int}{g:Int→Option SV}{L:List PR}{pl:Nat→Int}
theorem ze {sts:List Stmt}{a:Addr}{row:Row}{P:Prg}{Q:Flow→Shared→Prop}(hs:sts=ah (eO p))(rm:aj 38 A)(a₀:At F [q0,q1,q2] ⟨pgK xs ps g n,3⟩ s)
  (fm:Fm F [q0,q1,q2] (pgK xs ps g n) (c6 p 38) env (fB++([("at",.uint (i:Int)),("row",.sta a)]:Loc)) s.heap) (hi:i+1<ps.length) (hp:ps.length<1000) (hn:n≤100000) (hI:oz F a row) (hg:GP F P g)
  (h:∀ s',tV (c6 p 38) env F [q0,q1,q2] xs ps g n (fun x=>if x=ps.getD (i:Int).toNat 0 then some (ps.getD ((i:Int)+1).toNat 0 - ps.getD (i:Int).toNat 0,row) else P x) s s'→Q .next s'):wpAny (model prog w) A (execs sts env) Q E s:=by
 obtain ⟨v,hv,S⟩:=dj
 obtain ⟨nm,τ,h1,⟨d0,h2⟩,h3⟩:=id hI
 obtain ⟨x,hx⟩:=uF nm row
 obtain ⟨o,eo,q,hq,O⟩:=h3 ([q0,q1,q2]++dmy) rfl _ hx
 cases eo
 rw [List.append_assoc] at O
 have hq:τ[0]?=some q:=hq
 rw [h2] at hq; cases hq
 have e:=E1 p i x xs ps g n v hv
 rw [←hs] at e
 refine wl (i:=i) (τ:=dmy++τ) (qa:=(a,d0)) (ids:=[18]) (k:=18) (c:=11) S rm (by simp [dmy,h1]) a₀ fm h2 O e (fun P hP=>?_) (by rfl) (by rfl') (aL (by rfl')) (aL (by rfl')) (fun F' ρ' s' k _=>?_) hg h
 ·simp only [List.mem_cons,List.not_mem_nil,or_false,lO] at hP
  rcases hP with rfl | rfl | rfl | rfl<;>first | exact (fun t h=>⟨Int.natCast_nonneg t,Int.ofNat_lt.mpr h,Nat.lt_trans (by assumption) (by decide)⟩:∀ t,t<ps.length→0≤(t:Int)∧(t:Int)<ps.length∧ps.length<2 ^ 62) (i+1) hi | exact ⟨Int.natCast_nonneg i,Int.ofNat_lt.mpr (Nat.lt_of_succ_lt hi),Nat.lt_trans (by assumption) (by decide)⟩ | exact ⟨by assumption,by assumption,Nat.lt_trans (by assumption) (by decide)⟩ | omega
 ·have e2:([q0,q1,q2]++(dmy++τ++ρ')).getD 11 (0,0)=(a,d0):=by
   show (τ++ρ').getD 0 (0,0)=_
   rw [List.getD,List.getElem?_append_left (by omega),h2]; rfl
  rw [e2]; exact hI.mono k
noncomputable def EP (nm:Str)(rel:Int):Row:=match sEq nm "call" with
 | true=>.call rel
 | false=>.jrcxz rel
theorem Ci {sts:List Stmt}{a:Addr}{nm:Str}{off:Int}{P:Prg}{Q:Flow→Shared→Prop}(hs:sts=ah (eO p))(rm:aj 38 A)(a₀:At F [q0,q1,q2] ⟨pgK xs ps g n,3⟩ s)
  (fm:Fm F [q0,q1,q2] (pgK xs ps g n) (c6 p 38) env (fB++([("at",.uint (i:Int)),("row",.sta a)]:Loc)) s.heap) (hi:i+1<ps.length) (hp:ps.length<1000) (hn:n≤100000) (hx:xs.length<ps.length) (hnm:nm = "call"∨nm = "jrcxz") (h0:0≤(xs.length:Int)+off) (h1:(xs.length:Int)+off<ps.length) (hF:PrF F a (.tu nm off)) (hg:GP F P g)
  (h:∀ s',tV (c6 p 38) env F [q0,q1,q2] xs ps g n (fun x=>if x=ps.getD (i:Int).toNat 0 then some (ps.getD ((i:Int)+1).toNat 0 - ps.getD (i:Int).toNat 0,EP nm (ps.getD ((xs.length:Int)+off).toNat 0 - ps.getD ((i:Int)+1).toNat 0)) else P x) s s'→Q .next s'):wpAny (model prog w) A (execs sts env) Q E s:=by
 obtain ⟨v,hv,S⟩:=dj
 have e:=EX p i off nm xs ps g n v hv
 rw [←hs] at e
 refine wl (i:=i) (τ:=dmy++((a,0)::dmy.drop 2)) (qa:=(a,0)) (ids:=[18,19,20,21]) (k:=21) (c:=20) (o:=.tup [.str nm,.uint off]) S rm rfl a₀ fm rfl (fun h' hh=>?_) e (fun P hP=>?_) (by rfl) (by rfl') (aL (by rfl')) (aL (by rfl')) (fun F' ρ' s' k a'=>?_) hg h
 ·obtain ⟨c,t1,t2,ho⟩:=hF h' hh
  exact ⟨_,c,ho,.cons ⟨t1,rfl⟩ (.cons ⟨t2,rfl⟩ .nil)⟩
 ·simp only [List.mem_cons,List.not_mem_nil,or_false,lO] at hP
  rcases hP with rfl | rfl | rfl | rfl | rfl | rfl | rfl<;>first | exact (fun t h=>⟨Int.natCast_nonneg t,Int.ofNat_lt.mpr h,Nat.lt_trans (by assumption) (by decide)⟩:∀ t,t<ps.length→0≤(t:Int)∧(t:Int)<ps.length∧ps.length<2 ^ 62) (i+1) hi | exact ⟨Int.natCast_nonneg i,Int.ofNat_lt.mpr (Nat.lt_of_succ_lt hi),Nat.lt_trans (by assumption) (by decide)⟩ | exact ⟨by assumption,by assumption,Nat.lt_trans (by assumption) (by decide)⟩ | omega
 ·have hl:=a'.len
  have g20:([q0,q1,q2]++((dmy++((a,0)::dmy.drop 2))++ρ'))[20]?=some (([q0,q1,q2]++((dmy++((a,0)::dmy.drop 2))++ρ')).getD 20 (0,0)):=gN (by rw [hl]; exact (by decide:20<22))
  rcases hnm with rfl | rfl
  ·exact bM a' (k:=20) [] (.call _) g20 ⟨by rfl',by rfl'⟩ (by rfl')
  ·exact bM a' (k:=20) [] (.jrcxz _) g20 ⟨by rfl',by rfl'⟩ (by rfl')
end
end
section
section
variable {L:List PR}{pl:Nat→Int}
noncomputable def plL (pl:Nat→Int)(n:Nat):List Int:=(List.range n).map pl
theorem fj:(plL pl n).length=n:=by simp [plL]
theorem nn {j:Int}(h0:0≤j)(h:j<n):(plL pl n).getD j.toNat 0=pl j.toNat:=by
 unfold plL
 rw [List.getD,List.getElem?_map,List.getElem?_range (by omega)]; rfl
theorem pb:plL pl (n+1)=plL pl n++[pl n]:=by unfold plL; rw [List.range_succ,List.map_append]; rfl
theorem kN {x:PR}(hx:L[i]?=some x){row:Row}(hr:row=fJ pl L.length i x):(fun y=>if y=(plL pl (L.length+1)).getD (i:Int).toNat 0 then some ((plL pl (L.length+1)).getD ((i:Int)+1).toNat 0 - (plL pl (L.length+1)).getD (i:Int).toNat 0,row) else dM L pl i y)=dM L pl (i+1):=by
 have hi:i<L.length:=(List.getElem?_eq_some_iff.mp hx).1
 funext y
 rw [nn (j:=(i:Int)) (by omega) (by omega),nn (j:=(i:Int)+1) (by omega) (by omega),show ((i:Int)).toNat=i by omega,show ((i:Int)+1).toNat=i+1 by omega,hr]
 show _=if y=pl i then (L[i]?).map _ else _
 rw [hx]; rfl
end
section
variable {g:Int→Option SV}{L:List PR}{pl:Nat→Int}
theorem zd {sts:List Stmt}{a:Addr}{x:PR}{Q:Flow→Shared→Prop}(hs:sts=ah (eO p))(rm:aj 38 A)(hl:as.length=L.length)(a₀:At F [q0,q1,q2] ⟨pgK (as.map SV.sta) (plL pl (L.length+1)) g i,3⟩ s)
  (fm:Fm F [q0,q1,q2] (pgK (as.map SV.sta) (plL pl (L.length+1)) g i) (c6 p 38) env (fB++([("at",.uint (i:Int)),("row",.sta a)]:Loc)) s.heap) (hx:L[i]?=some x) (hL:L.length≤100) (hok:oA L.length i x) (hF:PrF F a x) (hg:GP F (dM L pl i) g)
  (h:∀ s',tV (c6 p 38) env F [q0,q1,q2] (as.map SV.sta) (plL pl (L.length+1)) g i (dM L pl (i+1)) s s'→Q .next s'):wpAny (model prog w) A (execs sts env) Q E s:=by
 have hi:i<L.length:=(List.getElem?_eq_some_iff.mp hx).1
 cases x with
 | ins row=>
  refine ze hs rm a₀ fm (by rw [fj]; omega) (by rw [fj]; omega) (by omega) hF hg fun s' e=>h s' ?_
  rw [←kN hx (row:=row) rfl]; exact e
 | tu nm off=>
  obtain ⟨o1,o2,o3⟩:=hok
  have ex:((as.map SV.sta).length:Int)=L.length:=by rw [List.length_map,hl]
  refine Ci hs rm a₀ fm (by rw [fj]; omega) (by rw [fj]; omega) (by omega) (by rw [fj,List.length_map,hl]; omega) o1 (by rw [ex]; exact o2) (by rw [ex,fj]; omega) hF hg fun s' e=>h s' ?_
  have er:EP nm ((plL pl (L.length+1)).getD (((as.map SV.sta).length:Int)+off).toNat 0 - (plL pl (L.length+1)).getD ((i:Int)+1).toNat 0)=fJ pl L.length i (.tu nm off):=by
   rw [ex,nn (j:=(L.length:Int)+off) o2 (by omega),nn (j:=(i:Int)+1) (by omega) (by omega),show ((i:Int)+1).toNat=i+1 by omega]; rfl
  rw [←kN hx er.symm.symm]; exact e
theorem H5 {α β:Type}{R:α→β→Prop}{as:List α}{bs:List β}(h:ag R as bs){i:Nat}{a:α}(e:as[i]?=some a):∃ b,bs[i]?=some b∧R a b:=h.get e
theorem wm {Q:Flow→Shared→Prop}(rm:aj 38 A)(hrows:ag (fun x r=>PrF F x r) as L)(hall:∀ g,F.le g→g.IsList q0.1 (as.map Value.ref).toArray)(a₀:At F [q0,q1,q2] ⟨pgK (as.map SV.sta) (plL pl (L.length+1)) (fun _=>none) 0,3⟩ s)
  (fm:Fm F [q0,q1,q2] (pgK (as.map SV.sta) (plL pl (L.length+1)) (fun _=>none) 0) (c6 p 38) env fB s.heap) (hL:L.length≤100) (hok:∀ k x,L[k]?=some x→oA L.length k x)
  (h:∀ F' g s',ToU [env.locals] F [q0,q1,q2] ⟨pgK (as.map SV.sta) (plL pl (L.length+1)) (fun _=>none) 0,3⟩ s F' [q0,q1,q2] ⟨pgK (as.map SV.sta) (plL pl (L.length+1)) g L.length,3⟩ s'→Fm F' [q0,q1,q2] (pgK (as.map SV.sta) (plL pl (L.length+1)) g L.length) (c6 p 38) env fB s'.heap→GP F' (dM L pl L.length) g→Q .next s') :
  wpAny (model prog w) A (exec (eO p) env) Q E s:=by
 obtain ⟨v,hv,S⟩:=dj
 have hl:as.length=L.length:=hrows.length
 have hsz:(as.map Value.ref).toArray.size=L.length:=by simp [hl]
 have e1:=IA p (as.map SV.sta) (plL pl (L.length+1)) (fun _=>none) 0 v hv
 have e2:=E8 p (as.map SV.sta) (plL pl (L.length+1)) (fun _=>none) 0 v hv
 have e3:=fun i a=>Iy p i a
 have e4:=E2 p
 have e5:=E7 p
 have e6:=EY p
 generalize hB:ah (eO p)=bB at e4
 generalize eO p=fF at e1 e2 e3 e4 e5 e6 ⊢
 generalize cJ (aF fF)=tE at e3 e4
 generalize tuK (aF fF)=tK at e4
 generalize Expr.pos (aF fF)=tP at e4
 generalize aS fF=fP at e4
 generalize caF (aC fF)=cF at e1 e4 e5
 generalize caA (aC fF)=cA at e2 e4 e6
 generalize Expr.pos (aC fF)=cP at e4
 subst e4
 refine wpAny_For ?_ (fun _=>rfl)
 refine br S rm a₀ fm e6 (a8 e5) rfl (ac _ e1 noP rfl) (ac _ e2 noP rfl) fun F₁ ρ₁ s₁ fv vs T₁ ifv ivs=>?_
 cases ifv
 have q1':=aU T₁ rfl
 subst q1'
 obtain ⟨w0,rfl,iw⟩:=ag.inv1 ivs
 obtain ⟨_,hq,rfl⟩:=iw
 cases hq
 have hall₁:∀ g,F₁.le g→g.IsList q0.1 (as.map Value.ref).toArray:=fun g hg=>hall g fun a o e=>hg a o (T₁.ext.fz a o e)
 have hlist:=hall₁ _ T₁.at'.rep.le
 refine call_enumerate_list hlist fun h' he hit hsz' hk=>?_
 refine wpAny_pyIter_enum he ?_
 have n1:s₁.heap.get? (s₁.heap.objs.size+1)=none:=by
  cases q:s₁.heap.get? (s₁.heap.objs.size+1) with
  | none=>rfl
  | some o=>
   have:@LT.lt Nat _ (s₁.heap.objs.size+1) s₁.heap.objs.size:=Heap.lt_size q
   omega
 refine mK (W:=[s₁.heap.objs.size+1,s₁.heap.objs.size]) (F₀:=F₁) (mG rm.hand hall₁ (Nat.succ_ne_self _))
  (J:=fun i F ρ' st m=>∃ g,ρ'=[q0,q1,q2]∧st=⟨pgK (as.map SV.sta) (plL pl (L.length+1)) g i,3⟩∧m=fB∧GP F (dM L pl i) g) (fun c hc=>by
   rcases fb hc with rfl | rfl
   ·exact n1
   ·exact aT _) ?_ ?_ T₁.at' (fm.to T₁ (fun h=>nomatch h)) ⟨_,rfl,rfl,rfl,fun x len row e=>nomatch e⟩ hk ⟨⟨_,he⟩,hit,hlist.at fun o e=>hk _ o e⟩
 ·intro i F₂ ρ₂ st₂ m₂ s₂ x E₂ hi a fmi hJ hit' hFi
  obtain ⟨g,rfl,rfl,rfl,hg⟩:=hJ
  obtain ⟨T,t,y,rfl,hT,hy⟩:=hit'
  have hil:i<L.length:=by rw [←hsz]; exact hi
  have ha:as[i]?=some (as[i]'(by omega)):=List.getElem?_eq_getElem (by omega)
  generalize as[i]'(by omega)=ai at ha
  have hy':y=.ref ai:=by
   rw [←Array.getElem?_toList,List.getElem?_map,ha] at hy
   cases hy; rfl
  subst hy'
  obtain ⟨r,hr,hPF⟩:=hrows.get ha
  refine cg (svs:=[.uint ((i:Nat):Int),.sta ai]) rm.hand a fmi hT (.cons ⟨t,rfl⟩ (.cons rfl .nil)) (e3 _ _) fun s₃ T₃ fm₃=>?_
  refine zd (x:=r) hB.symm rm hl T₃.at' fm₃ hr hL (hok i r hr) (hPF.mono fun a o e=>hFi a o (T₁.ext.fz a o e)) hg fun s₄ he=>?_
  obtain ⟨F',g',TU,fm',hg'⟩:=he
  exact ⟨.inl rfl,F',_,_,_,T₃.u.trans TU,fm',g',rfl,rfl,rfl,hg'⟩
 ·intro F₂ ρ₂ st₂ m₂ s₂ T fmi hJ
  obtain ⟨g,rfl,rfl,rfl,hg⟩:=hJ
  rw [hsz] at T fmi hg
  exact h F₂ g s₂ ((T₁.nil (X:=[env.locals])).u.trans T) fmi hg
end
end
section
theorem E0 (p:Params):ei (aC (j4 p))=true:=by rfl'
theorem E5 (p:Params):aD (c6 p 38).sc "at" = true:=by rfl'
theorem wq (wide sp i:Int):dD "at" (.uint i) (j3 wide sp)=tg wide sp i:=by rfl'
theorem Cl (wide sp i:Int):de ["rows","wide","places","spot","found"] (tg wide sp i)=j3 wide sp:=by rfl'
noncomputable def J7 (xs:List SV)(ps:List SV):Hp:=[(2,.edict),(1,.list ps),(0,.ro (.slist xs))]
theorem kq (n:Nat):∀ as:List Addr,((as.map SV.sta).all (jO n))=true
 | []=>rfl
 | _::r=>kq n r
theorem Cq (as:List Addr)(ps:List Int):gt 3 (pgH (as.map SV.sta) ps)=true:=by
 show ((as.map SV.sta).all (jO 3)&&_)=true
 rw [kq]; rfl
theorem jo {h:Heap}{n:Nat}{r:Addr}{t u v:Tok}(_:IsRange h r 0 (n:Int) 1 t u v):IsRangeIter (h.push { cls:=.type "range_iterator",data:=.fields #[rawInt 0,rawInt (Builtin.Range.rangeSize 0 (n:Int) 1),rawInt 1] }) h.objs.size ((0:Nat):Int) ((n:Int) - ((0:Nat):Int)) 1:=by
 have e:Builtin.Range.rangeSize 0 (n:Int) 1=(n:Int) - ((0:Nat):Int):=by rw [rangeSize_nat]; omega
 rw [e]
 exact Heap.get?_push_size _ rfl
section
variable {g:Int→Option SV}{L:List PR}{pl:Nat→Int}
theorem wn {begin wide:Int}{Q:Flow→Shared→Prop}(rm:aj 38 A)(hn:as.length=n)(hn1:n≤100)(a₀:At F [q0,q1,q2] ⟨pgH (as.map SV.sta) [],3⟩ s)(fm:Fm F [q0,q1,q2] (pgH (as.map SV.sta) []) (c6 p 38) env (j3 wide begin) s.heap)
  (h:∀ F' s',To [env.locals] F [q0,q1,q2] ⟨pgH (as.map SV.sta) [],3⟩ s F' [q0,q1,q2] ⟨pgH (as.map SV.sta) (plL (plA begin wide) n),3⟩ s'→Fm F' [q0,q1,q2] (pgH (as.map SV.sta) (plL (plA begin wide) n)) (c6 p 38) env (j3 wide (plA begin wide n)) s'.heap→Q .next s'):wpAny (model prog w) A (exec (j4 p) env) Q E s:=by
 obtain ⟨v,hv,S⟩:=dj
 have e1:=IC p wide begin (as.map SV.sta) [] v hv
 have e2:=fun sp i ps=>E9 p wide sp i (as.map SV.sta) ps v hv
 have e3:=E3 p
 have e4:=E0 p
 generalize ah (j4 p)=bB at e2 e3
 generalize j4 p=fF at e1 e3 e4 ⊢
 generalize ao (aF fF)=tP at e3
 generalize aC fF=it at e1 e3 e4
 generalize aS fF=fP at e3
 subst e3
 refine wpAny_For ?_ (cz e4)
 refine S.e rm a₀ fm (ac _ e1 (fun P hP=>by obtain rfl:=ak hP; rw [List.length_map]; omega) fun F₁ ρ₁ s₁ xv T₁ ixv=>?_)
 dsimp only at T₁ ixv
 obtain ⟨τ,eτ⟩:=T₁.ext.pre
 subst eτ
 obtain ⟨q3,hq,rfl⟩:=ixv
 obtain ⟨_,hq',r1,r2,r3,hr⟩:=T₁.at'.rep.ok (3,.rng 0 ((as.map SV.sta).length:Int)) (.head _)
 rw [hq] at hq'; cases hq'
 rw [List.length_map,hn] at hr
 refine wpAny_pyIter_range hr (small_one (by decide) (by decide) (by omega) (by omega)) ?_
 have T₂:To [] F [q0,q1,q2] ⟨pgH (as.map SV.sta) [],3⟩ s F₁ [q0,q1,q2] ⟨pgH (as.map SV.sta) [],3⟩ s₁:=T₁.trim (ρ:=[q0,q1,q2]) (n:=3) rfl (Cq as []) ⟨[],rfl⟩
 refine fO (W:=[s₁.heap.objs.size]) (n:=n) (F₀:=F₁) (f6 rfl rm.hand) (J:=fun i F ρ' st m=>ρ'=[q0,q1,q2]∧st=⟨pgH (as.map SV.sta) (plL (plA begin wide) i),3⟩∧m=j3 wide (plA begin wide i)) (fun c hc=>by obtain rfl:=ak hc; exact aT _) ?_ ?_
  T₂.at' (fm.to T₂ (fun h=>nomatch h)) ⟨rfl,rfl,rfl⟩ (fun c o e=>Heap.get?_push_of_some _ e) (jo hr)
 ·rintro i F₂ ρ₂ st₂ m₂ s₂ x E₂ hi a fmi ⟨rfl,rfl,rfl⟩ hit hFi
  refine PySem.wpAny_assign_Name (a9 (sv:=.uint (i:Int)) a fmi (E5 p) hit fun s₃ T₃ fm₃=>?_)
  rw [wq] at fm₃
  refine S.ss rm T₃.at' fm₃ (ac _ (e2 _ _ _) (fun P hP=>?_) (dz rfl fun F₄ s₄ f T₄ fm₄ hf=>?_))
  ·exact bC hP (by rw [fj]; omega) fun hP=>bC hP (PySem.IntMulOk.of_left (PySem.intBits_le_64 (by omega) (by omega))) fun hP=>nomatch hP
  ·dsimp only at T₄ fm₄
   refine ⟨.inl hf,F₄,_,_,_,T₃.trans T₄,fm₄.pick _ (Cl _ _ _),rfl,?_,rfl⟩
   rw [pb]
 ·rintro F₂ ρ₂ st₂ m₂ s₂ T fmi ⟨rfl,rfl,rfl⟩
  exact h F₂ s₂ ((T₂.nil (X:=[env.locals])).trans T) fmi
end
end
section
theorem wb {L:List PR}{pl:Nat→Int}(hok:∀ k x,L[k]?=some x→oA L.length k x){x len:Int}{row:Row}{k:Nat}(e:dM L pl k x=some (len,row)):lH row:=by
 induction k with
 | zero=>exact nos e
 | succ k ih=>
  unfold dM at e
  by_cases c:x=pl k
  ·rw [if_pos c] at e
   cases hx:L[k]? with
   | none=>rw [hx] at e; exact nos e
   | some y=>
    rw [hx] at e
    have:=hok k y hx
    rw [←(Prod.mk.inj (Option.some.inj e)).2]
    cases y with
    | ins r=>exact this
    | tu nm off=>unfold fJ; dsimp only; split<;>trivial
  ·rw [if_neg c] at e; exact ih e
theorem Cm (begin wide:Int):de ["rows","wide","places","spot","found"] (jn (["places","spot","found"]:List Str).reverse [SV.ref 1,.uint begin,.ref 2].reverse (pgA begin wide))=j3 wide begin:=by rfl'
theorem Ck (wide sp:Int):de ["rows","places","found"] (j3 wide sp)=fB:=by rfl'
section
variable {g:Int→Option SV}{L:List PR}{pl:Nat→Int}
theorem we {q:Addr×Addr}{xs:List SV}{ps:List Int}{P:Prg}(a:At F [q0,q1,q] ⟨aW [2] (pgK xs ps g n),3⟩ s)(hg:GP F P g)(hok:∀ x len row,P x=some (len,row)→lH row):dB F q.1 P:=by
 have hm:(2,SO.ro (.idict g n))∈aW [2] (pgK xs ps g n):=.tail _ (.tail _ (.head _))
 obtain ⟨q',hq,ne,kvs,hd,hle,hf⟩:=a.rep.ok _ hm
 have hq:some q=some q':=hq
 cases hq
 obtain ⟨o,hFo⟩:=eG a.rep.le (a:=q.1) fun h hh=>by
  obtain ⟨_,kvs',⟨o,_,_,ho,_⟩,_⟩:=a.rep.ro _ hm _ rfl q rfl h hh
  exact ⟨o,ho⟩
 refine ⟨ne,kvs,fun h hh=>qh hd fun o' e=>?_,fun x len row e=>⟨hok _ _ _ e,?_⟩⟩
 ·rw [a.rep.le _ _ hFo] at e; cases e
  exact hh _ _ hFo
 ·obtain ⟨a1,h1,h2⟩:=hg x len row e
  have:=hf x
  rw [h1] at this
  cases hv:valueAt kvs x with
  | none=>rw [hv] at this; exact this.elim
  | some v=>rw [hv] at this; exact ⟨a1,by rw [show v=.ref a1 from this],h2⟩
set_option maxHeartbeats 1000000 in
theorem zf {ra:Addr}{begin wide:Int}{t1 t2:Tok}{Q:Value→Shared→Prop}(rm:aj 39 A)(at':At F [] ⟨[],0⟩ s)(hR:d9 F ra L)(hL:L.length≤99)(hok:∀ k x,L[k]?=some x→oA L.length k x)
  (h:∀ F' s' a,To [] F [] ⟨[],0⟩ s F' [] ⟨[],0⟩ s'→dB F' a (dM L (plA begin wide) L.length)→Q (.ref a) s'):wpAny (model prog w) A (call (.ref 1096) [.ref ra,.int begin t1,.int wide t2]) Q E s:=by
 obtain ⟨v,hv,S⟩:=dj
 obtain ⟨as,hrows,hlist⟩:=hR
 have hl:as.length=L.length:=hrows.length
 have hro:∀ ρ h',F.le h'→OkO ρ h' (ra,0) (.slist (as.map SV.sta)):=fun ρ h' hh=>by
  obtain ⟨c,ho⟩:=hlist h' hh
  refine ⟨_,c,ho,?_⟩
  have:∀ as:List Addr,ag (SV.Is ρ) (as.map SV.sta) (as.map Value.ref):=fun as=>by
   induction as with
   | nil=>exact .nil
   | cons a r ih=>exact .cons rfl ih
  exact this as
 have T_:To [] F [] ⟨[],0⟩ s F [(ra,0)] ⟨[(0,.ro (.slist (as.map SV.sta)))],1⟩ s:=at'.ros [(ra,0)] rfl fun e he=>by
  obtain rfl:=ak he
  exact ⟨_,rfl,(ra,0),rfl,hro _⟩
 refine dR (d:=38) (args:=[.ref 0,.uint begin,.uint wide]) (Cp p) rm T_.at' (.cons ⟨(ra,0),rfl,rfl⟩ (.cons ⟨t1,rfl⟩ (.cons ⟨t2,rfl⟩ .nil))) (by rw [pc]; rfl) fun env s₀ T₀ fm₀ nw rm'=>?_
 rw [pc] at fm₀
 have fm₀:Fm F [(ra,0)] [(0,.ro (.slist (as.map SV.sta)))] (c6 p 38) env (pgA begin wide) s₀.heap:=fm₀
 have nl:=@noA env.locals
 show wpAny _ _ (execs (pgB p) env) _ _ _
 rw [zg,E4]
 have e0:=ID p begin wide (as.map SV.sta) v hv
 have e1:=Cn p
 have e2:=Cj p
 have e3:=fun sp ps=>IB p wide sp (as.map SV.sta) ps v hv
 have e4:=fun ps g n=>Iz p (as.map SV.sta) ps g n v hv
 generalize aI (ad 0 (pgB p))=b0 at e0 e1 e2 ⊢
 generalize aS (ad 0 (pgB p))=b0p
 generalize ad 2 (pgB p)=b2 at e3 ⊢
 generalize (pgB p).drop 4=b4 at e4 ⊢
 refine wpAny_execs_cons (hS (m:=pgA begin wide) (cx:=c6 p 38) (names:=["places","spot","found"]) rm'.hand e1 fm₀.eok.sc e2 (EZ p) ?_)
 refine S.e rm' T₀.at' fm₀ (ac _ e0 noP fun F₁ ρ₁ s₁ xv T₁ ixv=>?_)
 dsimp only at T₁ ixv
 have fm₁:=fm₀.to T₁ nl
 obtain ⟨q1,q2,q3,eρ⟩:=T₁.new3 rfl
 subst eρ
 refine ⟨F₁,_,_,3,[.ref 1,.uint begin,.ref 2],T₁.at',fm₁,ixv,by rfl,rfl,fun s₂ T₂ fm₂=>?_⟩
 have hsub:∀ a∈ae [(ra,0),q1,q2] (pgH (as.map SV.sta) []),a∈ae [(ra,0),q1,q2,q3] ((3,.tup [.ref 1,.uint begin,.ref 2])::(2,.edict)::(1,.list [])::[(0,.ro (.slist (as.map SV.sta)))]):=fun a ha=>by
  have ha:a∈[q1.1,q2.1]:=ha
  show a∈[q3.1,q2.1,q1.1]
  simp only [List.mem_cons,List.not_mem_nil,or_false] at ha ⊢
  rcases ha with rfl | rfl<;>simp
 have a2:=T₂.at'
 have at2:At F₁ [(ra,0),q1,q2] ⟨pgH (as.map SV.sta) [],3⟩ s₂:=by
  have hF:F.Sub F₁:=T₁.ext.fz
  refine a2.sub rfl (fun e he=>?_) (fun e he o eo q hq h' hh=>?_) ?_ hsub
  ·rcases gx he with rfl | rfl | rfl
   ·exact ⟨_,rfl,hro _ _ fun a o e=>a2.rep.le a o (hF a o e)⟩
   ·obtain ⟨q,hq,vs,c,ho,hvs⟩:=a2.rep.ok (1,.list []) (.tail _ (.tail _ (.head _)))
    have hq:some q1=some q:=hq
    cases hq
    exact ⟨q1,rfl,vs,c,ho,by generalize vs.toList=zs at hvs; cases hvs; exact .nil⟩
   ·obtain ⟨q,hq,O⟩:=a2.rep.ok (2,.edict) (.tail _ (.head _))
    have hq:some q2=some q:=hq
    cases hq
    exact ⟨q2,rfl,O⟩
  ·rcases gx he with rfl | rfl | rfl<;>cases eo
   have hq:some (ra,0)=some q:=hq
   cases hq
   exact hro _ _ fun a o e=>hh a o (hF a o e)
  ·have nd:=a2.rep.nodup
   have nd:([q3.1,q2.1,q1.1]:List Addr).Nodup:=nd
   show ([q1.1,q2.1]:List Addr).Nodup
   simp only [List.nodup_cons,List.mem_cons,List.not_mem_nil,or_false,not_or] at nd ⊢
   exact ⟨fun z=>nd.2.1 z.symm,by simp⟩
 have Ta:To [env.locals] F [(ra,0)] ⟨[(0,.ro (.slist (as.map SV.sta)))],1⟩ s₀ F₁ ([(ra,0)]++[q1,q2]) ⟨pgH (as.map SV.sta) [],3⟩ s₂:=(((T₁.nil (X:=[env.locals])).trans T₂).u.sub at2 hsub).to
 have fm₃:Fm F₁ [(ra,0),q1,q2] (pgH (as.map SV.sta) []) (c6 p 38) env (j3 wide begin) s₂.heap:=Fm.cut (ρ:=[(ra,0),q1,q2]) (τ:=[q3]) (fm₂.pick _ (Cm begin wide)) (by rfl) (by rfl) hsub
 refine wpAny_execs_cons (wn rm' hl (by omega) at2 fm₃ fun F₄ s₄ T₄ fm₄=>?_)
 refine wpAny_execs_cons (S.s rm' T₄.at' fm₄ (ac _ (e3 _ _) (fun P hP=>by obtain rfl:=ak hP; rw [fj]; omega) (dz rfl fun F₅ s₅ f T₅ fm₅ hf=>?_)))
 cases hf
 dsimp only at T₅ fm₅ ⊢
 rw [←pb] at T₅ fm₅
 generalize hps:plL (plA begin wide) (L.length+1)=ps at *
 obtain ⟨F₆,_,hout,T₆⟩:=(Ta.trans (T₄.trans T₅)).freezeX T₀.at' [1] (by rfl)
 have at7:At F₆ [(ra,0),q1,q2] ⟨pgK (as.map SV.sta) ps (fun _=>none) 0,3⟩ s₅:=T₆.at'.view (by rfl) fun e he=>by
  rcases gx he with rfl | rfl | rfl
  ·exact .inl (.head _)
  ·exact .inl (.tail _ (.head _))
  ·obtain ⟨q,hq,ns,ep',ho'⟩:=T₆.at'.rep.ok (2,.edict) (.tail _ (.tail _ (.head _)))
   exact .inr ⟨fun o z=>(by cases z),q,hq,ns,[],⟨_,#[],ep',ho',⟨rfl,rfl,rfl⟩,rfl,(fun e he=>by simp at he),.nil,.nil⟩,Nat.le_refl _,fun i=>trivial⟩
 have T₇:To [env.locals] F [(ra,0)] ⟨[(0,.ro (.slist (as.map SV.sta)))],1⟩ s₀ F₆ ([(ra,0)]++[q1,q2]) ⟨pgK (as.map SV.sta) ps (fun _=>none) 0,3⟩ s₅:=(T₆.u.sub at7 (fun _ h=>h)).to
 have fm₇:Fm F₆ [(ra,0),q1,q2] (pgK (as.map SV.sta) ps (fun _=>none) 0) (c6 p 38) env fB s₅.heap:=((fm₅.frz (ids:=[1]) hout).pick _ (Ck _ _)).sub (fun _ h=>h)
 have kF:F.Sub F₆:=T₇.ext.fz
 rw [←hps] at at7 fm₇ T₇
 refine wpAny_execs_cons (wm rm' (hrows.imp fun _ _ z=>z.mono kF) (fun g hg=>by
  obtain ⟨c,ho⟩:=hlist g fun a o e=>hg a o (kF a o e)
  exact au ho) at7 fm₇ (by omega) hok fun F₈ g s₈ TU₈ fm₈ hg=>?_)
 refine S.ss rm' TU₈.at' fm₈ (ac _ (e4 _ _ _) noP (dz rfl fun F₉ s₉ f T₉ fm₉ hf=>?_))
 dsimp only at T₉ hf
 obtain ⟨_,rfl,q,hq,rfl⟩:=hf
 have hq:some q2=some q:=hq
 cases hq
 have T₁₀:=T₇.trans (TU₈.to0.trans T₉)
 obtain ⟨F₁₀,hFF,_,T₁₁⟩:=T₁₀.freezeX T₀.at' [2] (by rfl)
 have pf:=we T₁₁.at' (fun x len row e=>by
  obtain ⟨a,h1,h2⟩:=hg x len row e
  exact ⟨a,h1,h2.mono fun c o e=>hFF c o (T₉.ext.fz c o e)⟩) fun x len row e=>wb hok e
 have TE:=(((T_.trans T₀).nil (X:=[env.locals])).trans T₁₁).u.sub T₁₁.at'.bare (fun a h=>nomatch h)
 exact h F₁₀ s₉ q2.1 (TE.drop (Y:=[]) fun a ha=>by obtain rfl:=ak ha; exact .inr nw).to0 pf
end
end
section
noncomputable abbrev paB (p:Params):List Stmt:=bK p 1075
noncomputable abbrev em (p:Params)(d:Nat):Cx:=⟨aK p 1075,[],d⟩
noncomputable abbrev paF (p:Params):Stmt:=ad 1 (paB p)
noncomputable abbrev paI (p:Params):Stmt:=ad 1 (ah (paF p))
noncomputable abbrev paQ (p:Params):Expr:=bc 1 (oo (di (paI p)))
noncomputable abbrev paC (p:Params):Expr:=kc (paQ p)
noncomputable abbrev paS (p:Params):Scope:=hH (aK p 1075) (paC p)
noncomputable abbrev ul (p:Params)(d:Nat):Cx:=⟨rlS (paS p) (aK p 1075),[],d⟩
noncomputable def paH (c seed:Int)(xs:List Int)(as:List SV):Hp:=[(0,eP 1 c seed),(1,.ro (.ilist xs)),(2,.slist as)]
noncomputable def paL (cnt:Int):Loc:=[("pen",.ref 0),("count",.uint cnt),("found",.ref 2)]
noncomputable def paN (x:bo):Str:=(bn x).1
noncomputable def eQ (x:bo):SO:=.tup [.str (bn x).1,.uint (bn x).2.1,.uint (bn x).2.2.1,.uint (bn x).2.2.2]
section
variable (p:Params)(c seed cnt so sc sp fa:Int)(xs:List Int)(as ys:List SV)(x:bo)
theorem II:paC p=.ListComp (dO (paC p)) [⟨.Name "row" (ao (gK (paC p))),bl (paC p),pM (paC p),0⟩] (paS p) (ao (paC p)):=by rfl'
theorem Fo:ei (bl (paC p))=true:=by rfl'
theorem tl:oX (paS p)=true:=by rfl'
theorem Bj:(paS p).names=([(".0",.local),("row",.local)]:List (Str×NameKind)):=by rfl'
theorem Fk:aD (ul p 0).sc "row" = true:=by rfl'
theorem Fn:fu (ul p 0).sc=true:=by rfl'
theorem Fq:pM (paC p)=[bc 0 (pM (paC p))]:=by rfl'
theorem Fs:∀ v,E6 v→kS (v.t (ul p 38) [("row",.ref 1)] (bc 0 (pM (paC p))) ⟨[(0,.slist ys),(1,.ro (eQ x))],2⟩)=([([],[],sEq (paN x) "deep",⟨[(0,.slist ys),(1,.ro (eQ x))],2⟩)]:LB):=by rintro _ rfl; rfl'
theorem Fr:∀ v,E6 v→am (v.e (ul p 38) [("row",.ref 1)] (dO (paC p)) ⟨[(0,.slist ys),(1,.ro (eQ x))],2⟩)=([([],[],.ref 1,⟨[(0,.slist ys),(1,.ro (eQ x))],2⟩)]:LE):=by rintro _ rfl; rfl'
end
noncomputable def dA:List (Addr×bo)→List Addr
 | []=>[]
 | (a,x)::r=>match sEq (paN x) "deep" with
  | true=>a::dA r
  | false=>dA r
theorem jf:∀ (l r:List (Addr×bo)),dA (l++r)=dA l++dA r
 | [],_=>rfl
 | (a,x)::l,r=>by
  simp only [List.cons_append,dA,jf l r]
  cases sEq (paN x) "deep"<;>rfl
theorem mQ:∀ l:List (Addr×bo),(dA l).length≤l.length
 | []=>Nat.le_refl _
 | (a,x)::l=>by
  unfold dA
  have:=mQ l
  split
  ·exact Nat.succ_le_succ this
  ·exact Nat.le_succ_of_le this
section
variable {ps:List bo}
theorem At.know (at':At F ρ st s){l:Addr}{o:Obj}(ho:s.heap.get? l=some o):∃ F',F.Sub F'∧F' l=some o∧At F' [] ⟨[],0⟩ s∧∀ a,a≠l→F' a=F a:=by
 classical
 refine ⟨fun a=>if a=l then some o else F a,fun a y e=>?_,if_pos rfl,⟨⟨fun a y e=>?_,fun h' hh=>at'.rep.wd h' fun a y e=>hh a y ?_,(fun _ h=>nomatch h),(fun _ h=>nomatch h),List.nodup_nil,(fun _ h=>nomatch h)⟩,rfl⟩,fun a ne=>if_neg ne⟩
 ·show (if a=l then some o else F a)=some y
  split
  ·rename_i z; subst z; rw [←ho]; exact at'.rep.le _ _ e
  ·exact e
 ·have e:(if a=l then some o else F a)=some y:=e
  by_cases z:a=l
  ·subst z; rw [if_pos rfl] at e; rw [ho]; exact e
  ·rw [if_neg z] at e; exact at'.rep.le _ _ e
 ·show (if a=l then some o else F a)=some y
  split
  ·rename_i z; subst z; rw [←ho]; exact at'.rep.le _ _ e
  ·exact e
theorem At.grown (a:At F ρ st s)(hs:s'={ s with heap:=s'.heap,toks:=s'.toks }) (k:∀ b o,s.heap.get? b=some o→s'.heap.get? b=some o):To X F ρ st s F ρ st s':=
 ⟨⟨(a.rep.grow k).1,a.len⟩,(a.rep.grow k).2.weaken (fun _ h=>nomatch h),hs⟩
theorem vL {q:Addr×Addr}(O:OkO ρ h q (.slist (as.map SV.sta))):h.IsList q.1 (as.map Value.ref).toArray:=by
 obtain ⟨vs,c,ho,hv⟩:=O
 rw [←gC hv]
 exact au ho
theorem zn {v:Ev}(S:aG v)(hv:v=ev (an p) pN 60){Q:Value→Shared→Prop}(rm:aj 38 A)(at':At F ρ st s)(fm:Fm F ρ st.σ (em p 38) env m s.heap)(hm:(2,SO.slist (as.map SV.sta))∈st.σ)(hps:ag (fun y x=>ed F y x) as ps)(hn:as.length≤1000)
  (e0:am (v.e (em p 38) m (bl (paC p)) st)=([([],[],.ref 2,st)]:LE)) (h:∀ F' s' D,To [] F ρ st s F' ρ st s'→D∉ae ρ st.σ→s'.heap.IsList D ((dA (as.zip ps)).map Value.ref).toArray→Q (.ref D) s'):wpAny (model prog w) A (eval (paC p) env) Q E s:=by
 have e1:=fun ys x=>Fs p ys x v hv
 have e2:=fun ys x=>Fr p ys x v hv
 have c1:=II p
 have c2:=Fo p
 have c3:=Fq p
 rw [c1]
 generalize dO (paC p)=elt at e2 c1 ⊢
 generalize bl (paC p)=it at c2 e0 ⊢
 rw [c3]
 generalize bc 0 (pM (paC p))=tst at e1 ⊢
 generalize ao (gK (paC p))=np
 generalize ao (paC p)=lp
 have hclos:closureFor (paS p) env=pure ([]:List (Str×Addr)):=by
  rw [cI (by
   rw [Bj]
   intro x hx hk
   rcases fb hx with rfl | rfl<;>cases hk),Bj]
  rfl
 have hsz:(as.map Value.ref).toArray.size=as.length:=by simp
 have eok:=fm.eok
 refine hU (cz c2) hclos (aZ (dw (tl p)).1) (dE (tl p)) ?_
 refine S.e rm at' fm (ac _ e0 noP (bS at'.len fun F₀ s' xv T₀ ix=>?_))
 dsimp only at T₀ ix
 obtain ⟨q,hq,hO⟩:=T₀.at'.rep.ok _ hm
 cases T₀.at'.ref ix hq
 have hl:=vL hO
 generalize q.1=l at hl ⊢
 obtain ⟨o,ho,hcls,mm,hd⟩:=id hl
 obtain ⟨Fp,hsub,hFl,ap,_⟩:=T₀.at'.know ho
 have hall:∀ g,Fp.le g→g.IsList l (as.map Value.ref).toArray:=fun g hg=>⟨o,hg _ _ hFl,hcls,mm,hd⟩
 refine wpAny_pyIter_list hl ?_
 refine eH (F₀:=Fp) (ρ₀:=[]) (s₀:=s') (W:=[s'.heap.objs.size]) (n:=as.length) (n0:=0) (Wh:=fun _=>[]) (Y:=fun i=>(dA ((as.zip ps).take i)).map SV.sta) (el:=fun i=>.sta (as.getD i 0)) (ccx:=ul p 38)
  (hsz▸iG rfl rm.hand hall) ap (fun c o e=>Heap.get?_push_of_some _ e) (fun c hc=>by obtain rfl:=ak hc; exact aT _) ⟨⟨_,Heap.get?_push_size _ rfl,rfl,rfl⟩,hl.at fun o e=>Heap.get?_push_of_some _ e⟩ (fun hI hq=>wpAny_pyIter_listiter hI.1 hq)
  rfl (fun i hi=>by
   have:=mQ ((as.zip ps).take i)
   simp only [List.length_map,List.length_take,List.length_zip] at this ⊢; exact Nat.le_trans this (Nat.le_trans (Nat.min_le_right ..) (Nat.le_trans (Nat.min_le_left ..) (Nat.le_trans (by assumption) (by decide))))) (eE (tl p)) (aZ (dw (tl p)).1)
  (fun C=>⟨dF eok.sc,eok.gl,eok.bu,aZ (Fn p),fun x k e=>by simp [af] at e⟩) (Fk p) (fun {i v h ρ} hi hv=>?_) ?_ ?_
 ·rw [←Array.getElem?_toList] at hv
  have hv:(as.map Value.ref)[i]?=some v:=hv
  rw [List.getElem?_map,List.getElem?_eq_getElem hi] at hv
  cases hv
  show _=Value.ref (as.getD i 0)
  rw [List.getD,List.getElem?_eq_getElem hi]; rfl
 ·intro i F C D s E hi hF a1 f1
  have hai:as[i]?=some (as.getD i 0):=by rw [List.getD,List.getElem?_eq_getElem hi]; rfl
  obtain ⟨x,hx,hP⟩:=hps.get hai
  generalize as.getD i 0=a at hai hP f1 ⊢
  have htk:dA ((as.zip ps).take (i+1))=dA ((as.zip ps).take i)++dA [(a,x)]:=by
   have:(as.zip ps)[i]?=some (a,x):=by rw [List.getElem?_zip_eq_some]; exact ⟨hai,hx⟩
   rw [List.take_add_one,this,jf]; rfl
  rw [htk]
  rw [List.map_append]
  generalize dA ((as.zip ps).take i)=zs at a1 f1 ⊢
  have T₁:To [] F [(D,0)] ⟨[(0,.slist (zs.map SV.sta))],1⟩ s F [(D,0),(a,0)] ⟨[(0,.slist (zs.map SV.sta)),(1,.ro (eQ x))],2⟩ s:=a1.ros [(a,0)] rfl fun e he=>by
   obtain rfl:=ak he
   refine ⟨_,rfl,(a,0),rfl,fun h' hh=>?_⟩
   obtain ⟨c,t0,t1,t2,t3,hob⟩:=hP h' fun b y e=>hh b y (hF b y (hsub b y (T₀.ext.fz b y e)))
   exact ⟨_,c,hob,.cons ⟨t0,rfl⟩ (.cons ⟨t1,rfl⟩ (.cons ⟨t2,rfl⟩ (.cons ⟨t3,rfl⟩ .nil)))⟩
  have f2:Fm F [(D,0),(a,0)] [(0,.slist (zs.map SV.sta)),(1,.ro (eQ x))] (ul p 38) (compEnvC (paS p) [] C env) ([("row",.ref 1)]:Loc) s.heap:=Fm.last (m:=[]) (x:="row") (sv:=.sta a) (sv':=.ref 1) (f1.to T₁ (fun h=>nomatch h)) fun v i=>⟨(a,0),rfl,i⟩
  refine wpAny_tests_one (S.t rm T₁.at' f2 (ac _ (e1 (zs.map SV.sta) x) noP fun F₂ ρ₂ s₂ T₂=>?_))
  dsimp only at T₂ ⊢
  have q2:=aU T₂ rfl
  subst q2
  have lt:gt 1 (trim 1 [(0,.slist (zs.map SV.sta)),(1,.ro (eQ x))])=true:=by
   show ((zs.map SV.sta).all (jO 1)&&true)=true
   rw [kq]; rfl
  cases hb:sEq (paN x) "deep" with
  | false=>
   rw [if_neg (by simp)]
   exact ⟨F₂,(T₁.trans T₂).trim (ρ:=[(D,0)]) (τ:=[(a,0)]) (n:=1) rfl lt ⟨[],rfl⟩,by simp [dA,hb]⟩
  | true=>
   rw [if_pos rfl]
   refine S.e rm T₂.at' (f2.to T₂ (fun h=>nomatch h)) (ac _ (e2 _ x) noP (bS rfl fun F₃ s₃ y T₃ iy=>?_))
   dsimp only at T₃ iy
   obtain ⟨q,hq,rfl⟩:=iy
   have hq:some (a,0)=some q:=hq
   cases hq
   exact ⟨F₃,.sta a,((T₁.trans T₂).trans T₃).trim (ρ:=[(D,0)]) (τ:=[(a,0)]) (n:=1) rfl lt ⟨[],rfl⟩,rfl,by simp [dA,hb]⟩
 ·intro F s C D T hns hC hFC hC0
  obtain ⟨mm,hm⟩:=hns
  refine ⟨mm,hm,fun h' sb=>?_⟩
  have T₄:=T.letgo hC hFC hC0 sb
  obtain ⟨q,hq,vs,c,hoD,hvs⟩:=T₄.at'.rep.ok (0,.slist _) (.head _)
  have hq:some (D,0)=some q:=hq
  cases hq
  have hz:(as.zip ps).take as.length=as.zip ps:=List.take_of_length_le (by rw [List.length_zip]; exact Nat.min_le_left ..)
  rw [hz] at hvs
  have ev:=gC hvs
  refine h F₀ _ D (T₀.trans (T₀.at'.grown T₄.sh fun b o e=>T₄.ext.keep b o e (fun z=>nomatch z) (fun z=>nomatch z))) (fun z=>?_) ?_
  ·obtain ⟨en,hen,qq,hqq,ha⟩:=aw.mp z
   obtain ⟨qq',hqq',OO⟩:=T₀.at'.rep.ok en hen
   rw [hqq] at hqq'; cases hqq'
   obtain ⟨o,eo⟩:=OO.alive _ (jE ha)
   rcases T₄.ext.new D (.head _) with y | y
   ·cases y
   ·rw [eo] at y; cases y
  rw [←ev]
  exact au hoD
end
end
section
noncomputable def zt (cnt i:Int):Loc:=paL cnt++([("turn",.uint i)]:Loc)
noncomputable def paT (cnt so sc sp fa:Int):Loc:=paL cnt++([("sort",.uint so),("scale",.uint sc),("spot",.uint sp),("far",.uint fa)]:Loc)
noncomputable def paG (xs:List Int)(c seed i:Int)(cnt:Int):Loc:=zt cnt i++([("sort",.uint ((aV xs c seed).fmod 4)),("scale",.uint (([1,2,4,8]:List Int).getD ((aV xs (c+1) seed).fmod 4).toNat 0)),("spot",.uint (aV xs (c+1+1) seed)),("far",.uint ((aV xs (c+1+1+1) seed).fmod 4001 - 2000))]:Loc)
noncomputable def paW (xs:List Int)(c seed:Int)(as:List SV):Hp:=(4,.tup [.uint ((aV xs c seed).fmod 4),.uint (([1,2,4,8]:List Int).getD ((aV xs (c+1) seed).fmod 4).toNat 0),.uint (aV xs (c+1+1) seed),.uint ((aV xs (c+1+1+1) seed).fmod 4001 - 2000)])::(3,.list [.int 1,.int 2,.int 4,.int 8])::paH (c+1+1+1+1) seed xs as
noncomputable def nCx (c:Int)(xs:List Int):Prop:=0≤c∧xs.length≤100000
section
variable (p:Params)(c seed cnt so sc sp fa i:Int)(xs:List Int)(as:List SV)
theorem Cu:fQ (an p) 1075=true:=by rfl'
theorem ph:bj ((an p).lookup 1075)=(["pen","count"]:List Str):=by rfl'
theorem zq:paB p=ad 0 (paB p)::paF p::(paB p).drop 2:=by rfl'
theorem IG:paF p=.For (.Name "turn" (ao (aF (paF p)))) (aC (paF p)) (ad 0 (ah (paF p))::paI p::[]) [] (aS (paF p)):=by rfl'
theorem Fj:ei (aC (paF p))=true:=by rfl'
theorem IF:paI p=.If (.BoolOp .And [bc 0 (oo (di (paI p))),.Compare (paC p) [.Eq] [jI (paQ p)] (Expr.pos (paQ p))] (Expr.pos (di (paI p)))) (ah (paI p)) (kD (paI p)) (aS (paI p)):=by rfl'
theorem Fi:d7 (jI (paQ p))=false:=by rfl'
theorem IK:∀ v,E6 v→aq (v.s (em p 38) [("pen",.ref 0),("count",.uint cnt)] (ad 0 (paB p)) ⟨[(0,eP 1 c seed),(1,.ro (.ilist xs))],2⟩)=([([],[],.next,paL cnt,⟨(2,.list [])::[(0,eP 1 c seed),(1,.ro (.ilist xs))],3⟩)]:LS):=by rintro _ rfl; rfl'
theorem IJ:∀ v,E6 v→am (v.e (em p 38) (paL cnt) (aC (paF p)) ⟨paH c seed xs as,3⟩)=([([],[nCx c xs],.ref 3,⟨(3,.rng 0 ((aV xs c seed).fmod 6))::paH (c+1) seed xs as,4⟩)]:LE):=by rintro _ rfl; rfl'
theorem Fh:∀ v,E6 v→aq (v.s (em p 38) (zt cnt i) (ad 0 (ah (paF p))) ⟨paH c seed xs as,3⟩) =
  ([([],[nCx c xs,nCx (c+1) xs,0≤(aV xs (c+1) seed).fmod 4∧(aV xs (c+1) seed).fmod 4<(([1,2,4,8]:List Int).length:Int),nCx (c+1+1) xs,nCx (c+1+1+1) xs],.next,paG xs c seed i cnt,⟨paW xs c seed as,5⟩)]:LS):=by rintro _ rfl; rfl'
theorem Fg:∀ v,E6 v→kS (v.t (em p 38) (paT cnt so sc sp fa) (bc 0 (oo (di (paI p)))) ⟨paH c seed xs as,3⟩)=([([(so == 0)=true],[],true,⟨paH c seed xs as,3⟩),([(so == 0)=false],[],false,⟨paH c seed xs as,3⟩)]:LB):=by rintro _ rfl; rfl'
theorem Ff:∀ v,E6 v→am (v.e (em p 38) (paT cnt so sc sp fa) (bl (paC p)) ⟨paH c seed xs as,3⟩)=([([],[],.ref 2,⟨paH c seed xs as,3⟩)]:LE):=by rintro _ rfl; rfl'
theorem Fe:∀ v,E6 v→am (v.e (em p 38) (paT cnt so sc sp fa) (jI (paQ p)) ⟨paH c seed xs as,3⟩)=([([],[],.ref 3,⟨(3,.list [])::paH c seed xs as,4⟩)]:LE):=by rintro _ rfl; rfl'
theorem Fc:∀ v,E6 v→aq (v.ss (em p 38) (paT cnt so sc sp fa) (ah (paI p)) ⟨paH c seed xs as,3⟩) =
  ([([],[as.length≤1000],.next,paT cnt so sc sp fa,⟨(3,.tup [.str "deep",.uint (sp.fmod 4),.uint sc,.uint fa])::paH c seed xs (as++[SV.ref 3]),4⟩)]:LS):=by rintro _ rfl; rfl'
theorem Fd:∀ v,E6 v→aq (v.ss (em p 38) (paT cnt so sc sp fa) (kD (paI p)) ⟨paH c seed xs as,3⟩) =
  ([([decide (0<cnt)=true],[cnt≠0,as.length≤1000],.next,paT cnt so sc sp fa,⟨(3,.tup [.str "arg",.uint (sp.fmod cnt),.uint sc,.uint fa])::paH c seed xs (as++[SV.ref 3]),4⟩),([decide (0<cnt)=false],[],.next,paT cnt so sc sp fa,⟨paH c seed xs as,3⟩)]:LS):=by rintro _ rfl; rfl'
theorem IH:∀ v,E6 v→aq (v.ss (em p 38) (paL cnt) ((paB p).drop 2) ⟨paH c seed xs as,3⟩)=([([],[],.ret (.ref 2),paL cnt,⟨paH c seed xs as,3⟩)]:LS):=by rintro _ rfl; rfl'
theorem Ft:aD (em p 38).sc "turn" = true:=by rfl'
theorem zr:dD "turn" (.uint i) (paL cnt)=zt cnt i:=by rfl'
theorem Cs:de ["pen","count","found","sort","scale","spot","far"] (paG xs c seed i cnt)=paT cnt ((aV xs c seed).fmod 4) (([1,2,4,8]:List Int).getD ((aV xs (c+1) seed).fmod 4).toNat 0) (aV xs (c+1+1) seed) ((aV xs (c+1+1+1) seed).fmod 4001 - 2000):=by rfl'
theorem wu:de ["pen","count","found"] (paT cnt so sc sp fa)=paL cnt:=by rfl'
end
end
end Mine
end
section
open PySem PySem.W PySem.Calls PyProof.Rows PySem.SeqAt
namespace Mine
variable {F F' F₀ F'' F₁:Fz}{ρ ρ' ρ₀ τ τ':Rho}{st st' st₀ st₁:St}{A:Around}{s s' s₀ s₁:Shared}{X as:List Addr}{k i n N:Nat}{E:Value→Shared→Prop}{a b C pa aa da ga ra:Addr}{v:Value}{vs L xs ys:List Int}{h:Heap}{ih:Ev}{cx:Cx}{m m':Loc}{env:Env}{pos:Pos}{t T sc far d0 d1 d2 c seed cnt so sp fa c₀ bg wd fi ke mn:Int}{σ σ' σ₁:Hp}{nm q:Str}{bs bm bmB:List Value}{hdct ab:Bool}{sn:List Str}{m0:M}{q0 q1 q2 q3:Addr×Addr}
section
theorem nv (c seed:Int)(xs:List Int)(as:List Addr):gt 3 (paH c seed xs (as.map SV.sta))=true:=by
 show (true&&(true&&((as.map SV.sta).all (jO 3)&&true)))=true
 rw [kq]; rfl
section
variable {ps:List bo}
theorem zk {v:Ev}(S:aG v)(hv:v=ev (an p) pN 60){Q:Flow→Shared→Prop}(rm:aj 38 A)(at':At F [q0,q1,q2] ⟨paH c seed xs (as.map SV.sta),3⟩ s)(fm:Fm F [q0,q1,q2] (paH c seed xs (as.map SV.sta)) (em p 38) env (paT cnt so sc sp fa) s.heap)
  (hps:ag (fun y x=>ed F y x) as ps) (hn:as.length≤1000)
  (h:∀ F' s' (b:Bool),To [] F [q0,q1,q2] ⟨paH c seed xs (as.map SV.sta),3⟩ s F' [q0,q1,q2] ⟨paH c seed xs (as.map SV.sta),3⟩ s'→if b then wpAny (model prog w) A (execs (ah (paI p)) env) Q E s' else wpAny (model prog w) A (execs (kD (paI p)) env) Q E s'):wpAny (model prog w) A (exec (paI p) env) Q E s:=by
 have nl:=@noA env.locals
 have e1:=Fg p c seed cnt so sc sp fa xs (as.map SV.sta) v hv
 have e2:=Ff p c seed cnt so sc sp fa xs (as.map SV.sta) v hv
 have e3:=Fe p c seed cnt so sc sp fa xs (as.map SV.sta) v hv
 have e4:=Fi p
 have e5:=IF p
 generalize bc 0 (oo (di (paI p)))=t0 at e1 e5
 generalize jI (paQ p)=tr at e3 e4 e5
 generalize Expr.pos (paQ p)=qp at e5
 generalize Expr.pos (di (paI p))=ip at e5
 generalize aS (paI p)=sp' at e5
 generalize ah (paI p)=bT at e5 h
 generalize kD (paI p)=bE at e5 h
 rw [e5]
 refine wpAny_If (wpAny_isTrue_BoolOp (wpAny_allTrue_And_cons (S.t rm at' fm (fM _ e1 (fun _=>?_) (fun _=>?_)))))
 ·intro F₁ ρ₁ s₁ T₁
  dsimp only at T₁
  have q1':=aU T₁ at'.len
  subst q1'
  rw [if_pos rfl]
  have fm₁:=fm.to T₁ nl
  refine wpAny_allTrue_And_cons (wpAny_isTrue_Compare1 ?_ (eS e4))
  refine zn S hv rm T₁.at' fm₁ (.tail _ (.tail _ (.head _))) (hps.imp fun _ _ z=>z.mono T₁.ext.fz) hn e2 fun F₂ s₂ D T₂ hDn hD=>?_
  have T₁₂:=T₁.trans T₂
  refine S.e rm T₁₂.at' (fm.to T₁₂ nl) (ac _ e3 noP fun F₃ ρ₃ s₃ xv T₃ ix=>?_)
  dsimp only at T₃ ix
  obtain ⟨τ,eτ⟩:=T₃.ext.pre
  subst eτ
  obtain ⟨q,hq,rfl⟩:=ix
  obtain ⟨_,hq',O⟩:=T₃.at'.rep.ok (3,.list []) (.head _)
  rw [hq] at hq'; cases hq'
  obtain ⟨vs,cc,ho,hvs⟩:=O
  have T₄:To [] F [q0,q1,q2] ⟨paH c seed xs (as.map SV.sta),3⟩ s F₃ [q0,q1,q2] ⟨paH c seed xs (as.map SV.sta),3⟩ s₃:=(T₁₂.trans T₃).trim (ρ:=[q0,q1,q2]) (n:=3) rfl (nv c seed xs as) ⟨[],rfl⟩
  have hl1:s₃.heap.IsList q.1 vs:=au ho
  have hz:vs.size=0:=by
   have:=hvs.length
   simpa using this.symm
  have hl2:s₃.heap.IsList D ((dA (as.zip ps)).map Value.ref).toArray:=by
   obtain ⟨o,ho1,ho2⟩:=hD
   exact ⟨o,T₃.ext.keep D o ho1 (fun z=>hDn z) (fun z=>nomatch z),ho2⟩
  have fin:∀ b:Bool,wpAny (model prog w) A (truthy (.bool b)) (fun b s₁=>if b then wpAny (model prog w) A (allTrue .And [] env) (fun b s₂=>if b then wpAny (model prog w) A (execs bT env) Q E s₂ else wpAny (model prog w) A (execs bE env) Q E s₂) E s₁ else (fun b s₂=>if b then wpAny (model prog w) A (execs bT env) Q E s₂ else wpAny (model prog w) A (execs bE env) Q E s₂) false s₁) E s₃:=fun b=>by
   refine wpAny_truthy_bool ?_
   cases b
   ·exact h F₃ s₃ false T₄
   ·exact wpAny_allTrue_And_nil (h F₃ s₃ true T₄)
  by_cases hs:((dA (as.zip ps)).map Value.ref).toArray.size=vs.size
  ·exact eq_listAt (e:=fun _=>true) hl2 hl1 hs rm.units (fun j h1 h2=>absurd h2 (by omega)) (fin _)
  ·exact eq_list_lengthsAt hl2 hl1 (by rw [bne_iff_ne]; exact hs) rm.units (fin _)
 ·intro F₁ ρ₁ s₁ T₁
  dsimp only at T₁
  have q1':=aU T₁ at'.len
  subst q1'
  exact h F₁ s₁ false T₁
end
end
end Mine
end
section
open PySem PySem.W PySem.Calls PyProof.Rows
namespace Mine
variable {F F' F₀ F'' F₁:Fz}{ρ ρ' ρ₀ τ τ':Rho}{st st' st₀ st₁:St}{A:Around}{s s' s₀ s₁:Shared}{X as:List Addr}{k i n N:Nat}{E:Value→Shared→Prop}{a b C pa aa da ga ra:Addr}{v:Value}{vs L xs ys:List Int}{h:Heap}{ih:Ev}{cx:Cx}{m m':Loc}{env:Env}{pos:Pos}{t T sc far d0 d1 d2 c seed cnt so sp fa c₀ bg wd fi ke mn:Int}{σ σ' σ₁:Hp}{nm q:Str}{bs bm bmB:List Value}{hdct ab:Bool}{sn:List Str}{m0:M}{q0 q1 q2 q3:Addr×Addr}
section
noncomputable def paR (i:Int):Int:=([1,2,4,8]:List Int).getD i.toNat 0
section
variable {ps:List bo}{x:bo}
theorem Ct (T:To [env.locals] F [q0,q1,q2] ⟨paH c₀ seed xs (as.map SV.sta),3⟩ s F₁ [q0,q1,q2,q3] ⟨(3,eQ x)::paH c seed xs (as.map SV.sta++[SV.ref 3]),4⟩ s₁)(a₀:At F [q0,q1,q2] ⟨paH c₀ seed xs (as.map SV.sta),3⟩ s)
  (fm:Fm F₁ [q0,q1,q2,q3] ((3,eQ x)::paH c seed xs (as.map SV.sta++[SV.ref 3])) (em p 38) env (paT cnt so sc sp fa) s₁.heap) :
  ∃ F',To [env.locals] F [q0,q1,q2] ⟨paH c₀ seed xs (as.map SV.sta),3⟩ s F' [q0,q1,q2] ⟨paH c seed xs ((as++[q3.1]).map SV.sta),3⟩ s₁∧Fm F' [q0,q1,q2] (paH c seed xs ((as++[q3.1]).map SV.sta)) (em p 38) env (paL cnt) s₁.heap∧ed F' q3.1 x:=by
 obtain ⟨F₂,_,hout,T₂⟩:=T.freezeX a₀ [3] (by rfl)
 have at₃:At F₂ [q0,q1,q2,q3] ⟨(3,.ro (eQ x))::paH c seed xs ((as++[q3.1]).map SV.sta),4⟩ s₁:=T₂.at'.view (by rfl) fun e he=>by
  rcases pv he with rfl | rfl | rfl | rfl
  ·exact .inl (.head _)
  ·exact .inl (.tail _ (.head _))
  ·exact .inl (.tail _ (.tail _ (.head _)))
  ·obtain ⟨q,hq,vs,cc,ho,hvs⟩:=T₂.at'.rep.ok (2,.slist (as.map SV.sta++[SV.ref 3])) (.tail _ (.tail _ (.tail _ (.head _))))
   refine .inr ⟨fun o z=>(by cases z),q,hq,vs,cc,ho,?_⟩
   generalize vs.toList=zs at hvs
   rw [List.map_append]
   have key:∀ (l:List Addr) (zs:List Value),ag (SV.Is [q0,q1,q2,q3]) (l.map SV.sta++[SV.ref 3]) zs→ag (SV.Is [q0,q1,q2,q3]) (l.map SV.sta++[SV.sta q3.1]) zs:=fun l=>by
    induction l with
    | nil=>
     intro zs hz
     obtain ⟨v,rfl,qq,hqq,rfl⟩:=ag.inv1 hz
     have hqq:some q3=some qq:=hqq
     cases hqq
     exact .cons rfl .nil
    | cons a l ih=>
     intro zs hz
     cases hz with
     | cons h1 h2=>exact .cons h1 (ih _ h2)
   exact key as zs hvs
 have T₃:To [env.locals] F [q0,q1,q2] ⟨paH c₀ seed xs (as.map SV.sta),3⟩ s F₂ ([q0,q1,q2]++[q3]) ⟨(3,.ro (eQ x))::paH c seed xs ((as++[q3.1]).map SV.sta),4⟩ s₁:=(T₂.u.sub at₃ (fun _ h=>h)).to
 have fm₃:Fm F₂ ([q0,q1,q2]++[q3]) ((3,.ro (eQ x))::paH c seed xs ((as++[q3.1]).map SV.sta)) (em p 38) env (paL cnt) s₁.heap:=((fm.frz (ids:=[3]) hout).pick _ (wu cnt so sc sp fa)).sub (by exact fun _ h=>h)
 refine ⟨F₂,T₃.trim (n:=3) rfl (nv c seed xs _) ⟨[],rfl⟩,fm₃.trim (n:=3) rfl (by rfl) (by rfl),fun h' hh=>?_⟩
 obtain ⟨vs,cc,ho,hvs⟩:=at₃.rep.ro (3,.ro (eQ x)) (.head _) _ rfl q3 rfl h' hh
 obtain ⟨vs⟩:=vs
 obtain ⟨_,_,_,_,rfl,⟨t0,rfl⟩,⟨t1,rfl⟩,⟨t2,rfl⟩,⟨t3,rfl⟩⟩:=ag.inv4 (vs:=vs) hvs
 exact ⟨cc,t0,t1,t2,t3,ho⟩
end
end
section
noncomputable def ec (n:Nat)(x:bo):Prop:=ew n x∧0≤(bn x).2.2.1∧(bn x).2.2.1≤8
theorem vS {j:Int}(h0:0≤j)(h:j<4):0≤([1,2,4,8]:List Int).getD j.toNat 0∧([1,2,4,8]:List Int).getD j.toNat 0≤8:=by
 obtain ⟨k,rfl⟩:∃ k:Nat,j=k:=⟨j.toNat,by omega⟩
 have:k<4:=by omega
 exact (by decide:∀ k:Nat,k<4→0≤([1,2,4,8]:List Int).getD k 0∧([1,2,4,8]:List Int).getD k 0≤8) k this
section
variable {ps:List bo}{i:Int}{x:bo}
noncomputable def HZ (env:Env)(F:Fz)(ρ:Rho)(c₀ seed:Int)(xs:List Int)(as:List Addr)(cnt:Int)(n:Nat)(s s':Shared):Prop:=
 ∃ F' c as' ps',0≤c∧To [env.locals] F ρ ⟨paH c₀ seed xs (as.map SV.sta),3⟩ s F' ρ ⟨paH c seed xs (as'.map SV.sta),3⟩ s'∧Fm F' ρ (paH c seed xs (as'.map SV.sta)) (em p 38) env (paL cnt) s'.heap∧ag (fun y x=>ed F' y x) as' ps'∧(∀ x∈ps',ec n x)∧as'.length≤as.length+1
theorem zi {sts:List Stmt}{Q:Flow→Shared→Prop}(hs:sts=ad 0 (ah (paF p))::paI p::[])(rm:aj 38 A)(at':At F [q0,q1,q2] ⟨paH c₀ seed xs (as.map SV.sta),3⟩ s)(fm:Fm F [q0,q1,q2] (paH c₀ seed xs (as.map SV.sta)) (em p 38) env (zt (n:Int) i) s.heap)
  (hps:ag (fun y x=>ed F y x) as ps) (hn:as.length≤100) (hc:0≤c₀) (hx:xs.length≤63) (h9:n≤9) (hg:∀ x∈ps,ec n x)
  (h:∀ s',HZ env F [q0,q1,q2] c₀ seed xs as (n:Int) n s s'→Q .next s'):wpAny (model prog w) A (execs sts env) Q E s:=by
 obtain ⟨v,hv,S⟩:=dj
 have nl:=@noA env.locals
 have e0:=Fh p c₀ seed (n:Int) i xs (as.map SV.sta) v hv
 have e1:=fun so sc sp fa=>Fc p (c₀+1+1+1+1) seed (n:Int) so sc sp fa xs (as.map SV.sta) v hv
 have e2:=fun so sc sp fa=>Fd p (c₀+1+1+1+1) seed (n:Int) so sc sp fa xs (as.map SV.sta) v hv
 have e3:=Cs c₀ seed (n:Int) i xs
 have e4:=fun {Q:Flow→Shared→Prop} {F:Fz} {s:Shared} (so sc sp fa:Int)=>zk (env:=env) (E:=E) (A:=A) (F:=F) (s:=s) (q0:=q0) (q1:=q1) (q2:=q2) (c:=c₀+1+1+1+1) (seed:=seed) (xs:=xs) (cnt:=(n:Int)) (as:=as) (ps:=ps) (so:=so) (sc:=sc) (sp:=sp) (fa:=fa) S hv (Q:=Q) rm
 generalize ad 0 (ah (paF p))=b0 at e0 hs
 generalize ah (paI p)=bT at e1 e4
 generalize kD (paI p)=bE at e2 e4
 generalize paI p=bI at e4 hs
 subst hs
 obtain ⟨k0,k1⟩:0≤(aV xs (c₀+1) seed).fmod 4∧(aV xs (c₀+1) seed).fmod 4<4:=⟨Int.fmod_nonneg_of_pos _ (by decide),Int.fmod_lt_of_pos _ (by decide)⟩
 have k8:=vS k0 k1
 have nd:∀ P∈([nCx c₀ xs,nCx (c₀+1) xs,0≤(aV xs (c₀+1) seed).fmod 4∧(aV xs (c₀+1) seed).fmod 4<(([1,2,4,8]:List Int).length:Int),nCx (c₀+1+1) xs,nCx (c₀+1+1+1) xs]:List Prop),P:=fun P hP=>by
  exact bC hP (⟨by omega,by omega⟩) fun hP=>bC hP (⟨by omega,by omega⟩) fun hP=>bC hP (⟨k0,k1⟩) fun hP=>bC hP (⟨by omega,by omega⟩) fun hP=>bC hP (⟨by omega,by omega⟩) fun hP=>nomatch hP
 refine wpAny_execs_cons (S.s rm at' fm (ac _ e0 nd fun F₁ ρ₁ s₁ f T₁ fm₁ hf=>?_))
 cases hf
 dsimp only at T₁ fm₁ ⊢
 obtain ⟨τ,eτ⟩:=T₁.ext.pre
 subst eτ
 have T₂:To [env.locals] F [q0,q1,q2] ⟨paH c₀ seed xs (as.map SV.sta),3⟩ s F₁ [q0,q1,q2] ⟨paH (c₀+1+1+1+1) seed xs (as.map SV.sta),3⟩ s₁:=T₁.trim (ρ:=[q0,q1,q2]) (n:=3) rfl (nv _ seed xs as) ⟨[],rfl⟩
 have fm₂:=fm₁.pick _ e3
 generalize (aV xs c₀ seed).fmod 4=so at *
 generalize ([1,2,4,8]:List Int).getD ((aV xs (c₀+1) seed).fmod 4).toNat 0=sc at *
 generalize aV xs (c₀+1+1) seed=sp at *
 generalize (aV xs (c₀+1+1+1) seed).fmod 4001 - 2000=fa at *
 have fm₃:Fm F₁ [q0,q1,q2] (paH (c₀+1+1+1+1) seed xs (as.map SV.sta)) (em p 38) env (paT (n:Int) so sc sp fa) s₁.heap:=fm₂.trim (n:=3) rfl (by rfl) (by rfl)
 have hc':0≤c₀+1+1+1+1:=by omega
 generalize c₀+1+1+1+1=c at *
 have hps₁:=hps.imp fun _ _ z=>ed.mono z T₂.ext.fz
 refine wpAny_execs_cons (e4 so sc sp fa T₂.at' fm₃ hps₁ (by omega) fun F₄ s₄ b T₄=>?_)
 have fm₄:=fm₃.to T₄ nl
 have T₅:=T₂.trans (T₄.nil (X:=[env.locals]))
 have hps₄:=hps.imp fun _ _ z=>ed.mono z T₅.ext.fz
 have nd2:as.length≤100→(as.map SV.sta).length≤1000:=fun z=>by rw [List.length_map]; omega
 have fin:∀ {x:bo} {F₅:Fz} {ρ₅:Rho} {s₅:Shared} {m:Loc},m=paT (n:Int) so sc sp fa→ec n x→To [env.locals] F₄ [q0,q1,q2] ⟨paH c seed xs (as.map SV.sta),3⟩ s₄ F₅ ρ₅ ⟨(3,eQ x)::paH c seed xs (as.map SV.sta++[SV.ref 3]),4⟩ s₅→Fm F₅ ρ₅ ((3,eQ x)::paH c seed xs (as.map SV.sta++[SV.ref 3])) (em p 38) env m s₅.heap→wpAny (model prog w) A (execs [] env) Q E s₅:=fun {x F₅ ρ₅ s₅ m} hm hP T₆ fm₆=>by
  subst hm
  obtain ⟨q3,eρ⟩:=T₆.new1 rfl
  subst eρ
  obtain ⟨F',T₇,fm₇,hF⟩:=Ct (T₅.trans T₆) at' fm₆
  exact wpAny_execs_nil (h s₅ ⟨F',c,_,ps++[x],hc',T₇,fm₇,(hps.imp fun _ _ z=>ed.mono z T₇.ext.fz).append (.cons hF .nil),fun y hy=>by
   rcases fD hy with z | z
   ·exact hg y z
   ·obtain rfl:=ak z; exact hP,by simp⟩)
 cases b with
 | true=>
  refine S.ss rm T₄.at' fm₄ (ac _ (e1 so sc sp fa) (fun P hP=>by obtain rfl:=ak hP; exact nd2 hn) fun F₅ ρ₅ s₅ f T₆ fm₆ hf=>?_)
  cases hf
  exact fin (x:=.deep (sp.fmod 4) sc fa) rfl ⟨⟨Int.fmod_nonneg_of_pos _ (by decide),Int.fmod_lt_of_pos _ (by decide)⟩,k8.1,k8.2⟩ T₆ fm₆
 | false=>
  refine S.ss rm T₄.at' fm₄ (cX _ (e2 so sc sp fa) fun y hy ha=>?_)
  rcases aJ hy with rfl | hy
  ·have hpos:0<(n:Int):=of_decide_eq_true (ha _ (.head _))
   refine ⟨fun P hP=>?_,fun F₅ ρ₅ s₅ f T₆ fm₆ hf=>?_⟩
   ·exact bC hP (by omega) fun hP=>bC hP (nd2 hn) fun hP=>nomatch hP
   ·cases hf
    have b0:0≤sp.fmod (n:Int):=Int.fmod_nonneg_of_pos _ hpos
    have b1:sp.fmod (n:Int)<n:=Int.fmod_lt_of_pos _ hpos
    have ej:(((sp.fmod (n:Int)).toNat:Nat):Int)=sp.fmod (n:Int):=Int.toNat_of_nonneg b0
    dsimp only at T₆ fm₆
    rw [←ej] at T₆ fm₆
    exact fin (x:=.arg (sp.fmod (n:Int)).toNat sc fa) rfl ⟨⟨by omega,by omega⟩,k8.1,k8.2⟩ T₆ fm₆
  ·obtain rfl:=ak hy
   refine ⟨noP,(dz rfl fun F₅ s₅ f T₆ fm₆ hf=>?_)⟩
   cases hf
   dsimp only at T₆ fm₆
   have T₇:=T₅.trans T₆
   exact wpAny_execs_nil (h s₅ ⟨F₅,c,as,ps,hc',T₇,fm₆.pick _ (wu _ _ _ _ _),hps.imp fun _ _ z=>ed.mono z T₇.ext.fz,hg,by omega⟩)
end
end
section
section
variable {ps:List bo}{i:Int}{x:bo}
theorem zm {Q:Flow→Shared→Prop}(rm:aj 38 A)(at':At F [q0,q1,q2] ⟨paH c₀ seed xs [],3⟩ s)(fm:Fm F [q0,q1,q2] (paH c₀ seed xs []) (em p 38) env (paL (n:Int)) s.heap)
  (hc:0≤c₀) (hx:xs.length≤63) (h9:n≤9)
  (h:∀ F' s' c as ps,0≤c→To [env.locals] F [q0,q1,q2] ⟨paH c₀ seed xs [],3⟩ s F' [q0,q1,q2] ⟨paH c seed xs (as.map SV.sta),3⟩ s'→Fm F' [q0,q1,q2] (paH c seed xs (as.map SV.sta)) (em p 38) env (paL (n:Int)) s'.heap→ag (fun y x=>ed F' y x) as ps→(∀ x∈ps,ec n x)→as.length≤5→Q .next s'):wpAny (model prog w) A (exec (paF p) env) Q E s:=by
 obtain ⟨v,hv,S⟩:=dj
 have e1:=IJ p c₀ seed (n:Int) xs [] v hv
 have e3:=IG p
 have e4:=Fj p
 obtain ⟨bB,hB⟩:∃ bB,bB=ad 0 (ah (paF p))::paI p::[]:=⟨_,rfl⟩
 rw [←hB] at e3
 generalize paF p=fF at e1 e3 e4 ⊢
 generalize ao (aF fF)=tP at e3
 generalize aC fF=it at e1 e3 e4
 generalize aS fF=fP at e3
 subst e3
 refine wpAny_For ?_ (cz e4)
 refine S.e rm at' fm (ac _ e1 (fun P hP=>by obtain rfl:=ak hP; exact ⟨hc,by omega⟩) fun F₁ ρ₁ s₁ xv T₁ ixv=>?_)
 dsimp only at T₁ ixv
 obtain ⟨τ,eτ⟩:=T₁.ext.pre
 subst eτ
 obtain ⟨q3,hq,rfl⟩:=ixv
 obtain ⟨_,hq',r1,r2,r3,hr⟩:=T₁.at'.rep.ok (3,.rng 0 ((aV xs c₀ seed).fmod 6)) (.head _)
 rw [hq] at hq'; cases hq'
 obtain ⟨N,hN⟩:∃ N:Nat,(aV xs c₀ seed).fmod 6=N:=⟨_,(Int.toNat_of_nonneg (Int.fmod_nonneg_of_pos _ (by decide))).symm⟩
 have hN5:N≤5:=by
  have:=Int.fmod_lt_of_pos (aV xs c₀ seed) (b:=6) (by decide)
  omega
 rw [hN] at hr
 refine wpAny_pyIter_range hr (small_one (by decide) (by decide) (by omega) (by omega)) ?_
 have T₂:To [] F [q0,q1,q2] ⟨paH c₀ seed xs [],3⟩ s F₁ [q0,q1,q2] ⟨paH (c₀+1) seed xs [],3⟩ s₁:=T₁.trim (ρ:=[q0,q1,q2]) (n:=3) rfl (nv (c₀+1) seed xs []) ⟨[],rfl⟩
 refine fO (W:=[s₁.heap.objs.size]) (n:=N) (F₀:=F₁) (f6 rfl rm.hand) (J:=fun i F ρ' st m=>ρ'=[q0,q1,q2]∧m=paL (n:Int)∧∃ c as ps,st=⟨paH c seed xs (as.map SV.sta),3⟩∧0≤c∧ag (fun y x=>ed F y x) as ps∧(∀ x∈ps,ec n x)∧as.length≤i) (fun c hc=>by obtain rfl:=ak hc; exact aT _) ?_ ?_
  T₂.at' (fm.to T₂ (fun h=>nomatch h)) ⟨rfl,rfl,c₀+1,[],[],rfl,by omega,.nil,(fun x h=>nomatch h),Nat.le_refl _⟩ (fun c o e=>Heap.get?_push_of_some _ e) (jo hr)
 ·rintro i F₂ ρ₂ st₂ m₂ s₂ x E₂ hi a fmi ⟨rfl,rfl,c,as,ps,rfl,hc',hps,hg,hl⟩ hit hFi
  refine PySem.wpAny_assign_Name (a9 (sv:=.uint (i:Int)) a fmi (Ft p) hit fun s₃ T₃ fm₃=>?_)
  rw [zr] at fm₃
  refine zi hB rm T₃.at' fm₃ hps (by omega) hc' hx h9 hg fun s₄ he=>?_
  obtain ⟨F',c',as',ps',k0,T₄,fm₄,k1,k2,k3⟩:=he
  exact ⟨.inl rfl,F',_,_,_,T₃.trans T₄,fm₄,rfl,rfl,c',as',ps',rfl,k0,k1,k2,by omega⟩
 ·rintro F₂ ρ₂ st₂ m₂ s₂ T fmi ⟨rfl,rfl,c,as,ps,rfl,hc',hps,hg,hl⟩
  exact h F₂ s₂ c as ps hc' ((T₂.nil (X:=[env.locals])).trans T) fmi hps hg (by omega)
theorem zo {c seed:Int}{t1:Tok}{Q:Value→Shared→Prop}(rm:aj 39 A)(at':At F [q0,q1] ⟨[(0,eP 1 c seed),(1,.ro (.ilist xs))],2⟩ s)(hc:0≤c)(hx:xs.length≤63)(h9:n≤9)
  (h:∀ F' s' a c' ps,0≤c'→To [] F [q0,q1] ⟨[(0,eP 1 c seed),(1,.ro (.ilist xs))],2⟩ s F' [q0,q1] ⟨[(0,eP 1 c' seed),(1,.ro (.ilist xs))],2⟩ s'→eX F' a ps→ps.length≤5→(∀ x∈ps,ec n x)→Q (.ref a) s'):wpAny (model prog w) A (call (.ref 1075) [.ref q0.1,.int (n:Int) t1]) Q E s:=by
 obtain ⟨v,hv,S⟩:=dj
 refine dR (d:=38) (args:=[.ref 0,.uint (n:Int)]) (Cu p) rm at' (.cons ⟨q0,rfl,rfl⟩ (.cons ⟨t1,rfl⟩ .nil)) (by rw [ph]; rfl) fun env s₀ T₀ fm₀ nw rm'=>?_
 rw [ph] at fm₀
 have fm₀:Fm F [q0,q1] [(0,eP 1 c seed),(1,.ro (.ilist xs))] (em p 38) env ([("pen",.ref 0),("count",.uint (n:Int))]:Loc) s₀.heap:=fm₀
 have nl:=@noA env.locals
 show wpAny _ _ (execs (paB p) env) _ _ _
 rw [zq]
 have e0:=IK p c seed (n:Int) xs v hv
 have e4:=fun c as=>IH p c seed (n:Int) xs as v hv
 generalize ad 0 (paB p)=b0 at e0 ⊢
 generalize (paB p).drop 2=b2 at e4 ⊢
 refine wpAny_execs_cons (S.s rm' T₀.at' fm₀ (ac _ e0 noP fun F₁ ρ₁ s₁ f T₁ fm₁ hf=>?_))
 cases hf
 dsimp only at T₁ fm₁ ⊢
 obtain ⟨q2,eρ⟩:=T₁.new1 rfl
 subst eρ
 have hsub:∀ a∈ae [q0,q1,q2] (paH c seed xs []),a∈ae [q0,q1,q2] ((2,.list [])::[(0,eP 1 c seed),(1,.ro (.ilist xs))]):=fun a ha=>by
  have ha:a∈[q0.1,q2.1]:=ha
  show a∈[q2.1,q0.1]
  simp only [List.mem_cons,List.not_mem_nil,or_false] at ha ⊢
  exact ha.symm
 have a1:=T₁.at'
 have at₁:At F₁ [q0,q1,q2] ⟨paH c seed xs [],3⟩ s₁:=by
  refine a1.sub rfl (fun e he=>?_) (fun e he o eo q hq h' hh=>?_) ?_ hsub
  ·rcases gx he with rfl | rfl | rfl
   ·exact a1.rep.ok _ (.tail _ (.head _))
   ·exact a1.rep.ok _ (.tail _ (.tail _ (.head _)))
   ·obtain ⟨q,hq,vs,cc,ho,hvs⟩:=a1.rep.ok (2,.list []) (.head _)
    exact ⟨q,hq,vs,cc,ho,by generalize vs.toList=zs at hvs; cases hvs; exact .nil⟩
  ·rcases gx he with rfl | rfl | rfl
   ·cases eo
   ·exact a1.rep.ro (1,.ro (.ilist xs)) (.tail _ (.tail _ (.head _))) o eo q hq h' hh
   ·cases eo
  ·have nd:([q2.1,q0.1]:List Addr).Nodup:=a1.rep.nodup
   show ([q0.1,q2.1]:List Addr).Nodup
   simp only [List.nodup_cons,List.mem_cons,List.not_mem_nil,or_false,not_false_eq_true,List.nodup_nil,and_true] at nd ⊢
   exact fun z=>nd z.symm
 have Ta:To [env.locals] F [q0,q1] ⟨[(0,eP 1 c seed),(1,.ro (.ilist xs))],2⟩ s₀ F₁ ([q0,q1]++[q2]) ⟨paH c seed xs [],3⟩ s₁:=(T₁.u.sub at₁ hsub).to
 have fm₂:Fm F₁ [q0,q1,q2] (paH c seed xs []) (em p 38) env (paL (n:Int)) s₁.heap:=fm₁.sub hsub
 refine wpAny_execs_cons (zm rm' at₁ fm₂ hc hx h9 fun F₃ s₃ c' as ps k0 T₃ fm₃ hps hg hl=>?_)
 refine S.ss rm' T₃.at' fm₃ (ac _ (e4 c' _) noP (dz rfl fun F₄ s₄ f T₄ fm₄ hf=>?_))
 dsimp only at T₄ hf
 obtain ⟨_,rfl,q,hq,rfl⟩:=hf
 have hq:some q2=some q:=hq
 cases hq
 obtain ⟨F₅,hFF,_,T₅⟩:=(Ta.trans (T₃.trans T₄)).freezeX T₀.at' [2] (by rfl)
 have T₆:To [env.locals] F [q0,q1] ⟨[(0,eP 1 c seed),(1,.ro (.ilist xs))],2⟩ s₀ F₅ [q0,q1] ⟨[(0,eP 1 c' seed),(1,.ro (.ilist xs))],2⟩ s₄:=T₅.trim (ρ:=[q0,q1]) (n:=2) (by rfl) (by rfl) ⟨[],rfl⟩
 have key:∀ h',F₅.le h'→OkO [q0,q1,q2] h' q2 (.slist (as.map SV.sta)):=T₅.at'.rep.ro (2,.ro (.slist (as.map SV.sta))) (.tail _ (.tail _ (.head _))) _ rfl q2 rfl
 obtain ⟨o,hFo⟩:=eG T₅.at'.rep.le (a:=q2.1) fun h hh=>by
  obtain ⟨vs,cc,ho,_⟩:=key h hh
  exact ⟨_,ho⟩
 obtain ⟨vs,cc,ho,hvs⟩:=key _ T₅.at'.rep.le
 rw [T₅.at'.rep.le _ _ hFo] at ho
 cases ho
 have hve:=gC hvs
 refine h F₅ s₄ q2.1 c' ps k0 (((T₀.nil (X:=[env.locals])).trans T₆).leave nw) ⟨as,hps.imp fun _ _ z=>ed.mono z fun a o e=>hFF a o (T₄.ext.fz a o e),cc,?_⟩ (by rw [←hps.length]; exact hl) hg
 rw [hFo,←hve]
end
end
section
noncomputable abbrev vaB (p:Params):List Stmt:=bK p 1101
noncomputable abbrev dC (p:Params)(d:Nat):Cx:=⟨aK p 1101,[("deep",2)],d⟩
noncomputable abbrev vaF (p:Params):Stmt:=ad 1 (vaB p)
noncomputable abbrev vaT (p:Params):Expr:=aI (ad 0 (vaB p))
noncomputable abbrev vaC (p:Params):Expr:=bc 0 (cJ (vaT p))
noncomputable abbrev vaS (p:Params):Scope:=hH (aK p 1101) (vaC p)
noncomputable abbrev yG (p:Params)(d:Nat):Cx:=⟨rlS (vaS p) (aK p 1101),[],d⟩
noncomputable def ci (s:Stmt):Expr:=if h:s.ctorIdx=5 then Stmt.Assign.elim s h fun t _ _=>bc 0 t else dq
noncomputable def boL (e:Expr):Expr:=if h:e.ctorIdx=2 then Expr.BinOp.elim e h fun l _ _ _=>l else dq
noncomputable def boR (e:Expr):Expr:=if h:e.ctorIdx=2 then Expr.BinOp.elim e h fun _ _ r _=>r else dq
noncomputable abbrev vaI (p:Params):Expr:=aI (ad 1 (ah (vaF p)))
noncomputable abbrev vaK (p:Params):Expr:=bc 0 (caA (boR (vaI p)))
noncomputable abbrev tX (p:Params):Scope:=hH (aK p 1101) (vaK p)
noncomputable abbrev vn (p:Params)(d:Nat):Cx:=⟨rlS (tX p) (aK p 1101),[("deep",2)],d⟩
noncomputable def vaH (xs:List Int)(d0 d1 d2:Int):Hp:=[(2,.cell (some (.ref 1))),(0,.ro (.ilist xs)),(1,.ro (.tup [.uint d0,.uint d1,.uint d2]))]
noncomputable def bQ (vs xs:List Int)(d0 d1 d2:Int):Hp:=(3,.ilist vs)::vaH xs d0 d1 d2
noncomputable def vaA (pa:Addr)(first:Int):Loc:=[("parts",.sta pa),("first",.uint first),("arguments",.ref 0)]
noncomputable def vaP (pa:Addr)(t:Int):Loc:=[("parts",.sta pa),("args",.ref 3),("total",.uint t)]
noncomputable def vaL (t:Int):Loc:=[("args",.ref 3),("total",.uint t)]
noncomputable def ie (t:Int)(sort:Str)(sp:SV)(sc far:Int):Loc:=vaL t++([("sort",.str sort),("spot",sp),("scale",.uint sc),("far",.uint far)]:Loc)
noncomputable def vm (t sp sc far inn:Int):Loc:=ie t "deep" (.uint sp) sc far++([("inner",.uint inn)]:Loc)
noncomputable def vaN:List (Str×NameKind):=[("parts",.local),("first",.local),("arguments",.local),("deep",.cell),("args",.local),("total",.local),("sort",.local),("spot",.local),("scale",.local),("far",.local),("inner",.local),("sum",.globalImplicit),("range",.globalImplicit),("len",.globalImplicit),("_law_all",.globalImplicit)]
section
variable (p:Params)(first t sp sc far inn i d0 d1 d2:Int)(pa:Addr)(vs xs:List Int)(ys:List SV)
theorem BU:jF (an p) 1101=true:=by rfl'
theorem vj:bj ((an p).lookup 1101)=(["parts","first","arguments","deep"]:List Str):=by rfl'
theorem vg:(db ((an p).lookup 1101) default).names=vaN:=by rfl'
theorem yE:vaB p=.Assign [.Tuple (cJ (ci (ad 0 (vaB p)))) (tuK (ci (ad 0 (vaB p)))) (Expr.pos (ci (ad 0 (vaB p))))] (.Tuple [vaC p,bc 1 (cJ (vaT p))] (tuK (vaT p)) (Expr.pos (vaT p))) (aS (ad 0 (vaB p)))::vaF p::(vaB p).drop 2:=by rfl'
theorem El:swappedStores [.Tuple (cJ (ci (ad 0 (vaB p)))) (tuK (ci (ad 0 (vaB p)))) (Expr.pos (ci (ad 0 (vaB p))))] (.Tuple [vaC p,bc 1 (cJ (vaT p))] (tuK (vaT p)) (Expr.pos (vaT p))) (uT (dC p 38).sc)=pure (some (["args","total"]:List Str)):=by rfl'
theorem Em:(["args","total"]:List Str).all (aD (dC p 38).sc)=true:=by rfl'
theorem Ic:vaC p=.ListComp (dO (vaC p)) [⟨.Name "worth" (ao (gK (vaC p))),bl (vaC p),[],0⟩] (vaS p) (ao (vaC p)):=by rfl'
theorem Ex:ei (bl (vaC p))=true:=by rfl'
theorem sN:oX (vaS p)=true:=by rfl'
theorem A8:(vaS p).names=([(".0",.local),("worth",.local),("_law_all",.globalImplicit)]:List (Str×NameKind)):=by rfl'
theorem Eu:aD (yG p 38).sc "worth" = true:=by rfl'
theorem Ew:fu (yG p 38).sc=true:=by rfl'
theorem Im:∀ v,E6 v→am (v.e (dC p 38) (vaA pa first) (bl (vaC p)) ⟨vaH xs d0 d1 d2,3⟩)=([([],[],.ref 0,⟨vaH xs d0 d1 d2,3⟩)]:LE):=by rintro _ rfl; rfl'
theorem Il:∀ v,E6 v→am (v.e (yG p 38) [("worth",.uint i)] (dO (vaC p)) ⟨(3,.slist ys)::vaH xs d0 d1 d2,4⟩)=([([],[],.uint (i.fmod 18446744073709551616),⟨(3,.slist ys)::vaH xs d0 d1 d2,4⟩)]:LE):=by rintro _ rfl; rfl'
theorem Ik:∀ v,E6 v→am (v.e (dC p 38) (vaA pa first) (bc 1 (cJ (vaT p))) ⟨bQ vs xs d0 d1 d2,4⟩)=([([],[],.uint first,⟨bQ vs xs d0 d1 d2,4⟩)]:LE):=by rintro _ rfl; rfl'
theorem Ib:vaF p=.For (.Tuple (cJ (aF (vaF p))) (tuK (aF (vaF p))) (Expr.pos (aF (vaF p)))) (aC (vaF p)) (ad 0 (ah (vaF p))::.Assign [.Name "inner" (ao (ci (ad 1 (ah (vaF p)))))] (.BinOp (boL (vaI p)) .Add (.Call (caF (boR (vaI p))) [vaK p] [] (Expr.pos (boR (vaI p)))) (Expr.pos (vaI p))) (aS (ad 1 (ah (vaF p))))::(ah (vaF p)).drop 2) [] (aS (vaF p)):=by rfl'
theorem Et:ei (aC (vaF p))=true:=by rfl'
theorem Ij:∀ v,E6 v→am (v.e (dC p 38) (vaP pa t) (aC (vaF p)) ⟨bQ vs xs d0 d1 d2,4⟩)=([([],[],.sta pa,⟨bQ vs xs d0 d1 d2,4⟩)]:LE):=by rintro _ rfl; rfl'
theorem H9 (sort:Str)(sv:SV):bR (dC p 38) (cJ (aF (vaF p))) [.str sort,sv,.uint sc,.uint far] (vaL t)=some (ie t sort sv sc far):=by rfl'
theorem Ii:∀ v,E6 v→aq (v.s (dC p 38) (ie t "arg" (.uint sp) sc far) (ad 0 (ah (vaF p))) ⟨bQ vs xs d0 d1 d2,4⟩)=([([],[0≤sp∧sp<(vs.length:Int)∧vs.length<2 ^ 62,IntMulOk (vs.getD sp.toNat 0) sc],.cont,ie (t+vs.getD sp.toNat 0*sc+far) "arg" (.uint sp) sc far,⟨bQ vs xs d0 d1 d2,4⟩)]:LS):=by rintro _ rfl; rfl'
theorem Ih:∀ v,E6 v→aq (v.s (dC p 38) (ie t "deep" (.uint sp) sc far) (ad 0 (ah (vaF p))) ⟨bQ vs xs d0 d1 d2,4⟩)=([([],[],.next,ie t "deep" (.uint sp) sc far,⟨bQ vs xs d0 d1 d2,4⟩)]:LS):=by rintro _ rfl; rfl'
theorem Ig:∀ v,E6 v→am (v.e (dC p 38) (ie t "deep" (.uint sp) sc far) (boL (vaI p)) ⟨bQ vs xs d0 d1 d2,4⟩)=([([],[],.uint d0,⟨bQ vs xs d0 d1 d2,4⟩)]:LE):=by rintro _ rfl; rfl'
theorem Ie:∀ v,E6 v→am (v.e (dC p 38) (ie t "deep" (.uint sp) sc far) (caF (boR (vaI p))) ⟨bQ vs xs d0 d1 d2,4⟩)=([([],[],.bi "sum",⟨bQ vs xs d0 d1 d2,4⟩)]:LE):=by rintro _ rfl; rfl'
theorem Ez:bG (caF (boR (vaI p)))=false:=by rfl'
theorem Ia:vaK p=.ListComp (dO (vaK p)) [⟨.Name "turn" (ao (gK (vaK p))),.Call (caF (bl (vaK p))) (caA (bl (vaK p))) [] (Expr.pos (bl (vaK p))),[],0⟩] (tX p) (ao (vaK p)):=by rfl'
theorem sM:oX (tX p)=true:=by rfl'
theorem A7:(tX p).names=([(".0",.local),("turn",.local),("deep",.free)]:List (Str×NameKind)):=by rfl'
theorem Eo:aD (vn p 38).sc "turn" = true:=by rfl'
theorem Ep:fu (vn p 38).sc=true:=by rfl'
theorem En:noStar (caA (bl (vaK p)))=true:=by rfl'
theorem Er:bG (caF (bl (vaK p)))=false:=by rfl'
theorem Id:∀ v,E6 v→am (v.e (dC p 38) (ie t "deep" (.uint sp) sc far) (caF (bl (vaK p))) ⟨bQ vs xs d0 d1 d2,4⟩)=([([],[],.ty "range",⟨bQ vs xs d0 d1 d2,4⟩)]:LE):=by rintro _ rfl; rfl'
theorem Ey:∀ v,E6 v→bw (v.es (dC p 38) (ie t "deep" (.uint sp) sc far) (caA (bl (vaK p))) ⟨bQ vs xs d0 d1 d2,4⟩)=([([],[],[.int 1,.uint (sp+1)],⟨bQ vs xs d0 d1 d2,4⟩)]:LEs):=by rintro _ rfl; rfl'
theorem EC:∀ v,E6 v→am (v.e (vn p 38) [("turn",.uint i)] (dO (vaK p)) ⟨(4,.slist ys)::bQ vs xs d0 d1 d2,5⟩)=([([],[IntMulOk d1 i],.uint (d1*i+d2),⟨(4,.slist ys)::bQ vs xs d0 d1 d2,5⟩)]:LE):=by rintro _ rfl; rfl'
theorem EB:∀ v,E6 v→aq (v.ss (dC p 38) (vm t sp sc far inn) ((ah (vaF p)).drop 2) ⟨bQ vs xs d0 d1 d2,4⟩) =
  ([([decide (3<(vs.length:Int))=true],[IntMulOk t sc,vs.length<2 ^ 62,0≤(3:Int)∧(3:Int)<(vs.length:Int)∧vs.length<2 ^ 62],.next,vm (inn+t*sc+far) sp sc far inn,⟨bQ (vs.set 3 sp) xs d0 d1 d2,4⟩),([decide (3<(vs.length:Int))=false],[IntMulOk t sc,vs.length<2 ^ 62],.next,vm (inn+t*sc+far) sp sc far inn,⟨bQ vs xs d0 d1 d2,4⟩)]:LS):=by rintro _ rfl; rfl'
theorem EA:∀ v,E6 v→aq (v.ss (dC p 38) (vaL t) ((vaB p).drop 2) ⟨bQ vs xs d0 d1 d2,4⟩)=([([],[],.ret (.uint (t.fmod 18446744073709551616)),vaL t,⟨bQ vs xs d0 d1 d2,4⟩)]:LS):=by rintro _ rfl; rfl'
theorem Es:aD (dC p 38).sc "inner" = true:=by rfl'
theorem BS:de ["parts","args","total"] (jn (["args","total"]:List Str).reverse [SV.ref 3,.uint first].reverse (vaA pa first))=vaP pa first:=by rfl'
end
end
section
section
variable {ps:List bo}{first:Int}
theorem mR {s:Shared}{ys:List SV}{xs:List Int}{C D:Addr}{h':Heap}(T:To [] F ρ ⟨σ,n⟩ s₀ F' (ρ++[(D,0)]) ⟨(n,.slist ys)::σ',n+1⟩ s)(hl:ρ.length=n)(hC:C∉ae (ρ++[(D,0)]) ((n,.slist ys)::σ'))(hFC:F' C=none)(hC0:s₀.heap.get? C=none)(sb:Heap.SameBut C s.heap h')(e:ys=xs.map .uint) :
  To [] F ρ ⟨σ,n⟩ s₀ F' (ρ++[(D,0)]) ⟨(n,.ilist xs)::σ',n+1⟩ { s with heap:=h' }:=by
 have T₄:=T.letgo hC hFC hC0 sb
 subst e
 have at₅:At F' (ρ++[(D,0)]) ⟨(n,.ilist xs)::σ',n+1⟩ { s with heap:=h' }:=T₄.at'.view (by unfold ae; rfl) fun e he=>by
  rcases aJ he with rfl | he
  ·obtain ⟨q,hq,O⟩:=T₄.at'.rep.ok _ (List.mem_cons_self ..)
   exact .inr ⟨fun o z=>(by cases z),q,hq,iz O⟩
  ·exact .inl (.tail _ he)
 exact (T₄.u.sub at₅ (fun _ h=>h)).to
theorem vk {v:Ev}(S:aG v)(hv:v=ev (an p) pN 60){Q:Value→Shared→Prop}(rm:aj 38 A)(at':At F [q0,q1,q2] ⟨vaH xs d0 d1 d2,3⟩ s)(fm:Fm F [q0,q1,q2] (vaH xs d0 d1 d2) (dC p 38) env (vaA pa first) s.heap)(hn:xs.length≤1000)
  (h:∀ F' s' D,To [] F [q0,q1,q2] ⟨vaH xs d0 d1 d2,3⟩ s F' ([q0,q1,q2]++[(D,0)]) ⟨bQ (xs.map fun x=>x.fmod 18446744073709551616) xs d0 d1 d2,4⟩ s'→Q (.ref D) s'):wpAny (model prog w) A (eval (vaC p) env) Q E s:=by
 have e0:=Im p first d0 d1 d2 pa xs v hv
 have e2:=fun i ys=>Il p i d0 d1 d2 xs ys v hv
 have c1:=Ic p
 have c2:=Ex p
 rw [c1]
 generalize dO (vaC p)=elt at e2 c1 ⊢
 generalize bl (vaC p)=it at c2 e0 ⊢
 generalize ao (gK (vaC p))=np
 generalize ao (vaC p)=lp
 have hclos:closureFor (vaS p) env=pure ([]:List (Str×Addr)):=by
  rw [cI (by
   rw [A8]
   intro x hx hk
   rcases gx hx with rfl | rfl | rfl<;>cases hk),A8]
  rfl
 have eok:=fm.eok
 refine hU (cz c2) hclos (aZ (dw (sN p)).1) (dE (sN p)) ?_
 refine S.e rm at' fm (ac _ e0 noP (bS at'.len fun F₀ s' xv T₀ ix=>?_))
 dsimp only at T₀ ix
 obtain ⟨q,zs,c,hq,hFl,hi⟩:=T₀.at'.roIlist (k:=0) (xs:=xs) (.tail _ (.head _))
 have hq':some q0=some q:=hq
 cases hq'
 cases T₀.at'.ref ix hq
 have hall:∀ g,F₀.le g→g.IsList q0.1 zs:=fun g hg=>au (hg _ _ hFl)
 have hsz:zs.size=xs.length:=dK hi
 refine wpAny_pyIter_list (hall _ T₀.at'.rep.le) ?_
 refine eH (F₀:=F₀) (s₀:=s') (W:=[s'.heap.objs.size]) (n:=xs.length) (n0:=3) (Wh:=fun _=>vaH xs d0 d1 d2) (Y:=fun i=>((xs.take i).map fun x=>x.fmod 18446744073709551616).map .uint) (el:=fun i=>.uint (xs.getD i 0)) (ccx:=yG p 38)
  (hsz▸iG rfl rm.hand hall) T₀.at' (fun c o e=>Heap.get?_push_of_some _ e) (fun c hc=>by obtain rfl:=ak hc; exact aT _) ⟨⟨_,Heap.get?_push_size _ rfl,rfl,rfl⟩,(hall _ T₀.at'.rep.le).at fun o e=>Heap.get?_push_of_some _ e⟩ (fun hI hq=>wpAny_pyIter_listiter hI.1 hq)
  rfl (fun i hi=>by simp only [List.length_map,List.length_take]; omega) (eE (sN p)) (aZ (dw (sN p)).1)
  (fun C=>⟨dF eok.sc,eok.gl,eok.bu,aZ (Ew p),fun x k e=>by simp [af] at e⟩) (Eu p) (fun {i v h ρ} hi' hv=>?_) ?_ ?_
 ·rw [←Array.getElem?_toList] at hv
  obtain ⟨k,t,rfl,e⟩:=gb hi hv
  exact ⟨t,by rw [List.getD,e]; rfl⟩
 ·intro i F C D s E hi' hF a1 f1
  refine wpAny_tests_nil ?_
  rw [if_pos rfl]
  refine S.e rm a1 f1 (ac _ (e2 _ _) noP (bS rfl fun F₅ s₅ y T₅ i₅=>?_))
  refine ⟨F₅,_,T₅,i₅,?_⟩
  rw [List.take_add_one,List.getElem?_eq_getElem hi',List.map_append,List.map_append,List.getD,List.getElem?_eq_getElem hi']
  rfl
 ·intro F s C D T hns hC hFC hC0
  obtain ⟨mm,hm⟩:=hns
  refine ⟨mm,hm,fun h' sb=>?_⟩
  have T₄:=mR T rfl hC hFC hC0 sb (by rw [List.take_length])
  exact h F _ D (T₀.trans T₄)
end
end
section
noncomputable def uG (d1 d2:Int)(n:Nat):List Int:=(List.range n).map fun k:Nat=>d1*(1+(k:Int))+d2
theorem tJ (d1 d2:Int):∀ n:Nat,(uG d1 d2 n).sum=inS d1 d2 n
 | 0=>rfl
 | n+1=>by
  unfold uG
  rw [List.range_succ,List.map_append,List.sum_append,p3,←tJ d1 d2 n]
  unfold uG
  simp
section
variable {ps:List bo}{first:Int}
theorem ri {h:Heap}{n:Nat}{a:Int}:IsRangeIter (h.push { cls:=.type "range_iterator",data:=.fields #[rawInt a,rawInt (Builtin.Range.rangeSize a (a+(n:Int)) 1),rawInt 1] }) h.objs.size (a+((0:Nat):Int)) ((n:Int) - ((0:Nat):Int)) 1:=by
 have e:Builtin.Range.rangeSize a (a+(n:Int)) 1=(n:Int) - ((0:Nat):Int):=by rw [rangeSize_one]; split<;>omega
 rw [e,show a+((0:Nat):Int)=a by omega]
 exact Heap.get?_push_size _ rfl
theorem BP {v:Ev}(S:aG v)(hv:v=ev (an p) pN 60){pos:Pos}{fx:Expr}{Q:Value→Shared→Prop}(hfx:fx=caF (boR (vaI p)))(rm:aj 38 A)(at':At F [q0,q1,q2,q3] ⟨bQ vs xs d0 d1 d2,4⟩ s)(fm:Fm F [q0,q1,q2,q3] (bQ vs xs d0 d1 d2) (dC p 38) env (ie t "deep" (.uint ((n:Nat):Int)) sc far) s.heap)(hn:n≤4)
  (h:∀ F' s' tk,To [] F [q0,q1,q2,q3] ⟨bQ vs xs d0 d1 d2,4⟩ s F' [q0,q1,q2,q3] ⟨bQ vs xs d0 d1 d2,4⟩ s'→Q (.int (inS d1 d2 n) tk) s'):wpAny (model prog w) A (eval (.Call fx [vaK p] [] pos) env) Q E s:=by
 have e8:=Ie p t (n:Int) sc far d0 d1 d2 vs xs v hv
 have e8a:=Ez p
 rw [←hfx] at e8 e8a
 have e9:=Id p t (n:Int) sc far d0 d1 d2 vs xs v hv
 have e9a:=Ey p t (n:Int) sc far d0 d1 d2 vs xs v hv
 have e10:=fun i ys=>EC p i d0 d1 d2 vs xs ys v hv
 have c1:=Ia p
 have c2:=En p
 have c3:=Er p
 rw [c1]
 generalize caF (bl (vaK p))=rf at e9 c1 c3 ⊢
 generalize caA (bl (vaK p))=ra at e9a c1 c2 ⊢
 generalize Expr.pos (bl (vaK p))=rp at c1 ⊢
 generalize dO (vaK p)=elt at e10 c1 ⊢
 generalize ao (gK (vaK p))=np
 generalize ao (vaK p)=lp
 refine iI S rm at' fm rfl (a8 e8a) rfl (ac _ e8 noP rfl) (bS rfl fun F₁ s₁ fv T₁ i₁=>?_)
 cases i₁
 have nl:=@noA env.locals
 have fm₁:=fm.to T₁ nl
 have eok:=fm₁.eok
 have hde:env.cells.lookup ("deep" : Str)=some q2.1:=by
  obtain ⟨q,hq,hl⟩:=eok.cel "deep" 2 (by rfl)
  cases hq; exact hl
 have hclos:closureFor (tX p) env=pure ([("deep",q2.1)]:List (Str×Addr)):=by
  rw [cI (by
   rw [A7]
   intro x hx hk
   rcases gx hx with rfl | rfl | rfl
   ·cases hk
   ·cases hk
   ·rw [hde]; rfl),A7]
  simp [ir,fq,hde]
 refine hU (fun _=>rfl) hclos (aZ (dw (sM p)).1) (dE (sM p)) ?_
 refine br S rm T₁.at' fm₁ c2 (a8 c3) rfl (ac _ e9 noP rfl) (ac _ e9a noP rfl) fun F₂ ρ₂ s₂ fv vs' T₂ i₂ ivs=>?_
 have e₂:=aU T₂ rfl
 subst e₂
 cases i₂
 obtain ⟨v0,v1,rfl,⟨t0,rfl⟩,⟨t1,rfl⟩⟩:=ivs.inv2
 rw [show (n:Int)+1=1+(n:Int) by omega]
 refine call_range_2 ?_
 have T₃:=T₁.trans (T₂.trans (T₂.at'.grown (X:=[]) (s':={ s₂ with heap:=s₂.heap.push { cls:=.type "range",data:=.fields #[.int 1 t0,.int (1+(n:Int)) t1,.int 1 s₂.toks] },toks:=s₂.toks+1 }) rfl (fun b o e=>Heap.get?_push_of_some _ e)))
 refine wpAny_pyIter_range (IsRange.new ..) (small_one (by decide) (by decide) (by omega) (by omega)) ?_
 generalize ({ s₂ with heap:=s₂.heap.push { cls:=.type "range",data:=.fields #[.int 1 t0,.int (1+(n:Int)) t1,.int 1 s₂.toks] },toks:=s₂.toks+1 }:Shared)=s₃ at T₃ ⊢
 have envc:∀ C,gu [q0,q1,q2,q3] (vn p 38) (compEnvC (tX p) [("deep",q2.1)] C env):=fun C=>by
  refine ⟨dF eok.sc,eok.gl,eok.bu,aZ (Ep p),fun x k e=>?_⟩
  unfold af at e
  split at e
  ·rename_i q; rw [aQ] at q; cases e; subst q; exact ⟨_,rfl,rfl⟩
  ·cases e
 refine eH (F₀:=F₂) (s₀:=s₃) (W:=[s₃.heap.objs.size]) (n:=n) (n0:=4) (Wh:=fun _=>bQ vs xs d0 d1 d2) (Y:=fun i=>(uG d1 d2 i).map .uint) (el:=fun i=>.uint (1+(i:Nat))) (ccx:=vn p 38)
  (pR (a:=1) rfl rm.hand) T₃.at' (fun c o e=>Heap.get?_push_of_some _ e) (fun c hc=>by obtain rfl:=ak hc; exact aT _) ri (fun hI hq=>wpAny_pyIter_rangeiter hI hq)
  rfl (fun i hi=>by simp only [uG,List.length_map,List.length_range]; omega) (eE (sM p)) (aZ (dw (sM p)).1) envc (Eo p) (fun hi hv=>hv) ?_ ?_
 ·intro i F C D s E hi hF a1 f1
  refine wpAny_tests_nil ?_
  rw [if_pos rfl]
  refine S.e rm a1 f1 (ac _ (e10 _ _) (fun P hP=>by obtain rfl:=ak hP; exact PySem.IntMulOk.of_right (PySem.intBits_le_64 (by omega) (by omega))) (bS rfl fun F₅ s₅ y T₅ i₅=>?_))
  exact ⟨F₅,_,T₅,i₅,by unfold uG; rw [List.range_succ,List.map_append,List.map_append]; rfl⟩
 ·intro F s C D T hns hC hFC hC0
  obtain ⟨mm,hm⟩:=hns
  refine ⟨mm,hm,fun h' sb=>?_⟩
  have T₄:=mR T rfl hC hFC hC0 sb rfl
  refine ⟨T₄.at'.rep.world.inK,?_⟩
  obtain ⟨qD,hqD,vs,c,ho,hi⟩:=T₄.at'.rep.ok _ (List.mem_cons_self ..)
  cases hqD
  refine oM rm.hand (au ho) hi fun h'' tk t' kk=>?_
  rw [tJ]
  obtain ⟨R',X'⟩:=T₄.at'.rep.grow kk
  have T₅:=T₃.trans (T₄.trans (s'':={ s with heap:=h'',toks:=tk }) ⟨⟨R',T₄.at'.len⟩,X',rfl⟩)
  exact h _ _ _ (T₅.trim (ρ:=[q0,q1,q2,q3]) (τ:=[(D,0)]) (n:=4) rfl (by rfl) ⟨[],rfl⟩)
end
end
section
section
variable (p:Params)(t sp sc far inn i:Int)(sort:Str)
theorem yF:dD "inner" (.uint inn) (ie t "deep" (.uint sp) sc far)=vm t sp sc far inn:=by rfl'
theorem BQ:de ["args","total"] (ie t sort (.uint sp) sc far)=vaL t:=by rfl'
theorem vh:de ["args","total"] (vm t sp sc far inn)=vaL t:=by rfl'
theorem BR (pa:Addr):de ["args","total"] (vaP pa t)=vaL t:=by rfl'
end
section
variable {ps:List bo}{first:Int}
theorem H8 {n:Nat}{x:Int}(hl:vs.length=n):(if 3<vs.length then vs.set 3 x else vs).length=n:=by split<;>simp [hl]
theorem yB {x:bo}{sts:List Stmt}{b0:Stmt}{b2:List Stmt}{aP pos cP bP:Pos}{lx fx kx:Expr}{Q:Flow→Shared→Prop}(hs:sts=b0::.Assign [.Name "inner" aP] (.BinOp lx .Add (.Call fx [kx] [] cP) bP) pos::b2)(h0:b0=ad 0 (ah (vaF p)))(h1:lx=boL (vaI p))(h2:fx=caF (boR (vaI p)))(h3:kx=vaK p)(h4:b2=(ah (vaF p)).drop 2)
  (rm:aj 38 A) (at':At F [q0,q1,q2,q3] ⟨bQ vs xs d0 d1 d2,4⟩ s) (fm:Fm F [q0,q1,q2,q3] (bQ vs xs d0 d1 d2) (dC p 38) env (ie t (bn x).1 (.uint (bn x).2.1) (bn x).2.2.1 (bn x).2.2.2) s.heap) (hg:ec vs.length x) (h9:vs.length≤9)
  (h:∀ F' s' f,(f=.next∨f=.cont)→To [env.locals] F [q0,q1,q2,q3] ⟨bQ vs xs d0 d1 d2,4⟩ s F' [q0,q1,q2,q3] ⟨bQ (aX d0 d1 d2 (vs,t) x).1 xs d0 d1 d2,4⟩ s'→Fm F' [q0,q1,q2,q3] (bQ (aX d0 d1 d2 (vs,t) x).1 xs d0 d1 d2) (dC p 38) env (vaL (aX d0 d1 d2 (vs,t) x).2) s'.heap→Q f s'):wpAny (model prog w) A (execs sts env) Q E s:=by
 obtain ⟨v,hv,S⟩:=dj
 have nl:=@noA env.locals
 subst hs
 have hsm:∀ {y:Int},0≤y∧y≤8→∀ z,IntMulOk z y:=fun hy z=>PySem.IntMulOk.of_right (PySem.intBits_le_64 (by omega) (by omega))
 cases x with
 | arg j sc far=>
  obtain ⟨⟨hj,_⟩,hsc⟩:=hg
  have hsc:0≤sc∧sc≤8:=hsc
  have e5:=Ii p t (j:Int) sc far d0 d1 d2 vs xs v hv
  rw [←h0] at e5
  have fm:Fm F [q0,q1,q2,q3] (bQ vs xs d0 d1 d2) (dC p 38) env (ie t "arg" (.uint (j:Int)) sc far) s.heap:=fm
  refine wpAny_execs_cons (S.s rm at' fm (ac _ e5 (fun P hP=>?_) (dz rfl fun F₁ s₁ f T₁ fm₁ hf=>?_)))
  ·exact bC hP (⟨by omega,by omega,by omega⟩) fun hP=>bC hP (hsm hsc _) fun hP=>nomatch hP
  cases hf
  dsimp only at T₁ fm₁ ⊢
  exact h F₁ s₁ .cont (.inr rfl) T₁ (fm₁.pick _ (BQ _ _ _ _ _))
 | deep sp sc far=>
  obtain ⟨⟨hp0,hp4⟩,hsc⟩:=hg
  have hsc:0≤sc∧sc≤8:=hsc
  obtain ⟨n,rfl⟩:∃ n:Nat,sp=n:=⟨sp.toNat,by omega⟩
  have e6:=Ih p t (n:Int) sc far d0 d1 d2 vs xs v hv
  have e7:=Ig p t (n:Int) sc far d0 d1 d2 vs xs v hv
  have e11:=fun inn=>EB p t (n:Int) sc far inn d0 d1 d2 vs xs v hv
  rw [←h0] at e6
  rw [←h1] at e7
  rw [←h4] at e11
  have fm:Fm F [q0,q1,q2,q3] (bQ vs xs d0 d1 d2) (dC p 38) env (ie t "deep" (.uint (n:Int)) sc far) s.heap:=fm
  refine wpAny_execs_cons (S.s rm at' fm (ac _ e6 noP (dz rfl fun F₁ s₁ f T₁ fm₁ hf=>?_)))
  cases hf
  dsimp only at T₁ fm₁ ⊢
  refine wpAny_execs_cons (wpAny_Assign_Name (wpAny_BinOp (S.e rm T₁.at' fm₁ (ac _ e7 noP (bS rfl fun F₂ s₂ xv T₂ ix=>?_)))))
  dsimp only at T₂ ix
  obtain ⟨tx,rfl⟩:=ix
  rw [h3]
  refine BP S hv h2 rm T₂.at' (fm₁.to T₂ nl) (by omega) fun F₃ s₃ tk T₃=>PySem.wpAny_add_int ?_
  have fm₃:=(fm₁.to T₂ nl).to T₃ nl
  have T₄:To [] F₃ [q0,q1,q2,q3] ⟨bQ vs xs d0 d1 d2,4⟩ s₃ F₃ [q0,q1,q2,q3] ⟨bQ vs xs d0 d1 d2,4⟩ { s₃ with toks:=s₃.toks+1 }:=T₃.at'.grown rfl fun b o e=>e
  refine a9 (x:="inner") (sv:=.uint (d0+inS d1 d2 n)) T₄.at' (fm₃.to T₄ nl) (Es p) ⟨_,rfl⟩ fun s₅ T₅ fm₅=>?_
  rw [yF] at fm₅
  have T₆:=T₁.trans ((T₂.trans (T₃.trans T₄)).nil (X:=[env.locals])) |>.trans T₅
  refine S.ss rm T₅.at' fm₅ (cX _ (e11 _) fun y hy ha=>?_)
  have ev1:(aX d0 d1 d2 (vs,t) (.deep (n:Int) sc far)).2=d0+inS d1 d2 n+t*sc+far:=rfl
  have ev0:(aX d0 d1 d2 (vs,t) (.deep (n:Int) sc far)).1=if 3<vs.length then vs.set 3 (n:Int) else vs:=rfl
  rw [ev0,ev1] at h
  rcases aJ hy with rfl | hy
  ·have hlt:3<(vs.length:Int):=of_decide_eq_true (ha _ (.head _))
   rw [if_pos (by omega)] at h
   refine ⟨fun P hP=>?_,(dz rfl fun F₇ s₇ f T₇ fm₇ hf=>?_)⟩
   ·exact bC hP (hsm hsc _) fun hP=>bC hP (by omega) fun hP=>bC hP (⟨by omega,by omega,by omega⟩) fun hP=>nomatch hP
   ·dsimp only at T₇ fm₇
    exact h F₇ s₇ f (.inl hf) (T₆.trans T₇) (fm₇.pick _ (vh _ _ _ _ _))
  ·obtain rfl:=ak hy
   have hlt:¬ 3<(vs.length:Int):=of_decide_eq_false (ha _ (.head _))
   rw [if_neg (by omega)] at h
   refine ⟨fun P hP=>?_,(dz rfl fun F₇ s₇ f T₇ fm₇ hf=>?_)⟩
   ·exact bC hP (hsm hsc _) fun hP=>bC hP (by omega) fun hP=>nomatch hP
   ·dsimp only at T₇ fm₇
    exact h F₇ s₇ f (.inl hf) (T₆.trans T₇) (fm₇.pick _ (vh _ _ _ _ _))
end
end
section
noncomputable def eg (F:Fz)(a:Addr)(xs:List Int):Prop:=∃ vs n,F a=some ⟨.type "list",none,.seq vs n,#[]⟩∧IntsAre vs.toList xs
noncomputable def gV (F:Fz)(a:Addr)(d0 d1 d2:Int):Prop:=∃ n t0 t1 t2,F a=some ⟨.type "tuple",none,.seq #[.int d0 t0,.int d1 t1,.int d2 t2] n,#[]⟩
section
variable {ps:List bo}{first:Int}
theorem qd:∀ (ps:List bo){q:List Int×Int},(ps.foldl (aX d0 d1 d2) q).1.length=q.1.length
 | [],_=>rfl
 | x::r,q=>by
  rw [List.foldl_cons,qd r]
  cases x with
  | arg j sc far=>rfl
  | deep sp sc far=>
   show (if 3<q.1.length then q.1.set 3 sp else q.1).length=_
   split<;>simp
theorem yC {Q:Flow→Shared→Prop}(rm:aj 38 A)(hps:eX F pa ps)(a₀:At F [q0,q1,q2,q3] ⟨bQ vs xs d0 d1 d2,4⟩ s)(fm:Fm F [q0,q1,q2,q3] (bQ vs xs d0 d1 d2) (dC p 38) env (vaP pa t) s.heap)(hg:∀ x∈ps,ec vs.length x)(h9:vs.length≤9)
  (h:∀ F' s',To [env.locals] F [q0,q1,q2,q3] ⟨bQ vs xs d0 d1 d2,4⟩ s F' [q0,q1,q2,q3] ⟨bQ (ps.foldl (aX d0 d1 d2) (vs,t)).1 xs d0 d1 d2,4⟩ s'→Fm F' [q0,q1,q2,q3] (bQ (ps.foldl (aX d0 d1 d2) (vs,t)).1 xs d0 d1 d2) (dC p 38) env (vaL (ps.foldl (aX d0 d1 d2) (vs,t)).2) s'.heap→Q .next s'):wpAny (model prog w) A (exec (vaF p) env) Q E s:=by
 obtain ⟨v,hv,S⟩:=dj
 have nl:=@noA env.locals
 have e1:=Ij p t d0 d1 d2 pa vs xs v hv
 have e2:=fun t sc far sort sv=>H9 p t sc far sort sv
 have e3:=Ib p
 have e4:=Et p
 obtain ⟨b0,h0⟩:∃ b0,b0=ad 0 (ah (vaF p)):=⟨_,rfl⟩
 obtain ⟨b2,h2⟩:∃ b2,b2=(ah (vaF p)).drop 2:=⟨_,rfl⟩
 obtain ⟨lx,h3⟩:∃ lx,lx=boL (vaI p):=⟨_,rfl⟩
 obtain ⟨fx,h4⟩:∃ fx,fx=caF (boR (vaI p)):=⟨_,rfl⟩
 obtain ⟨kx,h5⟩:∃ kx,kx=vaK p:=⟨_,rfl⟩
 rw [←h0,←h2,←h3,←h4,←h5] at e3
 generalize ao (ci (ad 1 (ah (vaF p))))=aP at e3
 generalize Expr.pos (boR (vaI p))=cP at e3
 generalize Expr.pos (vaI p)=bP at e3
 generalize aS (ad 1 (ah (vaF p)))=sP at e3
 obtain ⟨bB,hB⟩:∃ bB,bB=b0::.Assign [.Name "inner" aP] (.BinOp lx .Add (.Call fx [kx] [] cP) bP) sP::b2:=⟨_,rfl⟩
 rw [←hB] at e3
 generalize vaF p=fF at e1 e2 e3 e4 ⊢
 generalize aC fF=it at e1 e3 e4
 generalize cJ (aF fF)=tE at e2 e3
 generalize tuK (aF fF)=tK at e3
 generalize Expr.pos (aF fF)=tP at e3
 generalize aS fF=fP at e3
 subst e3
 refine wpAny_For ?_ (cz e4)
 refine S.e rm a₀ fm (ac _ e1 noP (bS rfl fun F₁ s₁ xv T₁ ixv=>?_))
 dsimp only at T₁ ixv
 cases ixv
 have fm₁:=(fm.to T₁ nl).pick _ (BR t pa)
 obtain ⟨pas,hpas,pn,hFpa⟩:=hps.mono (F':=F₁) T₁.ext.fz
 have hall:∀ g,F₁.le g→g.IsList pa (pas.map Value.ref).toArray:=fun g hg=>au (hg _ _ hFpa)
 refine wpAny_pyIter_list (hall _ T₁.at'.rep.le) ?_
 have hsz:(pas.map Value.ref).toArray.size=ps.length:=by simp [hpas.length]
 refine fO (W:=[s₁.heap.objs.size]) (F₀:=F₁) (iF rm.hand hall (fun i v e=>by
   rw [←Array.getElem?_toList] at e
   simp only [List.getElem?_map] at e
   cases q:pas[i]? with
   | none=>rw [q] at e; cases e
   | some a=>rw [q] at e; cases e; exact ⟨a,rfl⟩))
  (J:=fun i F ρ' st m=>ρ'=[q0,q1,q2,q3]∧st=⟨bQ ((ps.take i).foldl (aX d0 d1 d2) (vs,t)).1 xs d0 d1 d2,4⟩∧m=vaL ((ps.take i).foldl (aX d0 d1 d2) (vs,t)).2)
  (fun c hc=>by obtain rfl:=ak hc; exact aT _) ?_ ?_ T₁.at' fm₁ ⟨rfl,rfl,rfl⟩
  (fun c o e=>Heap.get?_push_of_some _ e) ⟨⟨_,Heap.get?_push_size _ rfl,rfl,rfl⟩,(hall _ T₁.at'.rep.le).at fun o e=>Heap.get?_push_of_some _ e⟩
 ·rintro i F₂ ρ₂ st₂ m₂ s₂ x E₂ hi a fmi ⟨rfl,rfl,rfl⟩ hit hFi
  have hip:i<ps.length:=by rw [←hsz]; exact hi
  have ha:pas[i]?=some (pas[i]'(by rw [hpas.length]; exact hip)):=List.getElem?_eq_getElem _
  generalize pas[i]'(by rw [hpas.length]; exact hip)=ai at ha
  have hx:x=Value.ref ai:=by
   rw [←Array.getElem?_toList] at hit
   have z:(pas.map Value.ref)[i]?=some x:=hit
   rw [List.getElem?_map,ha] at z
   cases z; rfl
  subst hx
  obtain ⟨y,hy,hPF⟩:=hpas.get ha
  obtain ⟨pn',u0,u1,u2,u3,hob⟩:=hPF s₂.heap (fun c o e=>a.rep.le c o (hFi c o e))
  have hst:(ps.take (i+1)).foldl (aX d0 d1 d2) (vs,t)=aX d0 d1 d2 ((ps.take i).foldl (aX d0 d1 d2) (vs,t)) y:=by
   rw [List.take_add_one,hy]; simp
  have hl:((ps.take i).foldl (aX d0 d1 d2) (vs,t)).1.length=vs.length:=qd _
  rw [hst]
  generalize (ps.take i).foldl (aX d0 d1 d2) (vs,t)=q at *
  obtain ⟨vs',t'⟩:=q
  dsimp only at hl a fmi ⊢
  refine cg (svs:=[.str (bn y).1,.uint (bn y).2.1,.uint (bn y).2.2.1,.uint (bn y).2.2.2]) rm.hand a fmi (cD hob) (.cons ⟨u0,rfl⟩ (.cons ⟨u1,rfl⟩ (.cons ⟨u2,rfl⟩ (.cons ⟨u3,rfl⟩ .nil)))) (e2 _ _ _ _ _) fun s₃ T₃ fm₃=>?_
  refine yB hB h0 h3 h4 h5 h2 rm T₃.at' fm₃ (by rw [hl]; exact hg y (List.mem_of_getElem? hy)) (by omega) fun F₄ s₄ f hf T₄ fm₄=>?_
  exact ⟨hf,F₄,_,_,_,T₃.trans T₄,fm₄,rfl,rfl,rfl⟩
 ·rintro F₂ ρ₂ st₂ m₂ s₂ T fmi ⟨rfl,rfl,rfl⟩
  rw [hsz,List.take_length] at T fmi
  exact h F₂ s₂ ((T₁.nil (X:=[env.locals])).trans T) fmi
end
end
section
section
variable {ps:List bo}{first:Int}
theorem BO {v:Ev}(S:aG v)(hv:v=ev (an p) pN 60){e1:Expr}{kk:Nat}{pos:Pos}{Q:Value→Shared→Prop}(he1:e1=bc 1 (cJ (vaT p)))(rm:aj 38 A)(at':At F [q0,q1,q2] ⟨vaH xs d0 d1 d2,3⟩ s)(fm:Fm F [q0,q1,q2] (vaH xs d0 d1 d2) (dC p 38) env (vaA pa first) s.heap)(hn:xs.length≤1000)
  (h:∀ F' s' D C,To [] F [q0,q1,q2] ⟨vaH xs d0 d1 d2,3⟩ s F' ([q0,q1,q2]++[(D,0),(C,0)]) ⟨(4,.tup [.ref 3,.uint first])::bQ (fH xs) xs d0 d1 d2,5⟩ s'→Q (.ref C) s'):wpAny (model prog w) A (eval (.Tuple [vaC p,e1] kk pos) env) Q E s:=by
 have e3:=fun vs=>Ik p first d0 d1 d2 pa vs xs v hv
 have ns:noStar [vaC p,bc 1 (cJ (vaT p))]=true:=by rfl'
 rw [←he1] at e3 ns
 have n1:=bz ns env
 refine wpAny_Tuple (wpAny_items_cons (vk S hv rm at' fm hn fun F₁ s₁ D T₁=>wpAny_items_cons ?_ (bz n1.2 env).1) n1.1)
 have fm₁:=fm.to T₁ (fun z=>nomatch z)
 refine S.e rm T₁.at' fm₁ (ac _ (e3 _) noP fun F₂ ρ₂ s₂ xv T₂ ix=>wpAny_items_nil ?_)
 dsimp only at T₂ ix
 have q2':=aU T₂ rfl
 subst q2'
 obtain ⟨tx,rfl⟩:=ix
 refine ⟨(by show 2≤sizeLine; decide),?_⟩
 have T₃:=T₁.trans T₂
 have hvs:ag (SV.Is ([q0,q1,q2]++[(D,0)])) [.ref 3,.uint first] (#[.ref D,.int first tx]:Array Value).toList:=.cons ⟨(D,0),rfl,rfl⟩ (.cons ⟨tx,rfl⟩ .nil)
 have T₄:=(To.alloc (tk:=s₂.toks) T₃.at' (so:=.tup [.ref 3,.uint first]) rfl bN (qO hvs)).1
 exact h _ _ D _ (T₃.trans T₄)
set_option maxHeartbeats 1000000 in
theorem yD {t1:Tok}{Q:Value→Shared→Prop}(rm:aj 39 A)(at':At F [] ⟨[],0⟩ s)(hps:eX F pa ps)(hxs:eg F aa xs)(hd:gV F da d0 d1 d2)(hg:∀ x∈ps,ec xs.length x)(h9:xs.length≤9)
  (h:∀ F' s' t,To [] F [] ⟨[],0⟩ s F' [] ⟨[],0⟩ s'→Q (.int ((ps.foldl (aX d0 d1 d2) (fH xs,first)).2.fmod 18446744073709551616) t) s'):wpAny (model prog w) A (call (.ref 1101) [.ref pa,.int first t1,.ref aa,.ref da]) Q E s:=by
 obtain ⟨v,hv,S⟩:=dj
 obtain ⟨zs,c,hFa,hi⟩:=hxs
 obtain ⟨c',u0,u1,u2,hFd⟩:=hd
 have T_:To [] F [] ⟨[],0⟩ s F [(aa,0),(da,0)] ⟨[(0,.ro (.ilist xs)),(1,.ro (.tup [.uint d0,.uint d1,.uint d2]))],2⟩ s:=at'.ros [(aa,0),(da,0)] rfl fun e he=>by
  rcases fb he with rfl | rfl
  ·exact ⟨_,rfl,(aa,0),rfl,fun h' hh=>⟨zs,c,hh _ _ hFa,hi⟩⟩
  ·exact ⟨_,rfl,(da,0),rfl,fun h' hh=>⟨_,c',hh _ _ hFd,.cons ⟨u0,rfl⟩ (.cons ⟨u1,rfl⟩ (.cons ⟨u2,rfl⟩ .nil))⟩⟩
 obtain ⟨fd,fn,hsc,_⟩:=hM (BU p) at'.rep.world.inK
 rw [vj] at fn
 refine gk (d:=38) (args:=[.sta pa,.uint first,.ref 0,.ref 1]) vaN rm T_.at' fn (by rw [hsc]; exact vg p) (by rfl') (by rfl')
  (.cons rfl (.cons ⟨t1,rfl⟩ (.cons ⟨(aa,0),rfl,rfl⟩ (.cons ⟨(da,0),rfl,rfl⟩ .nil)))) rfl fun env s₀ cs hcs T₀ fm₀ nw rm' hef hec=>?_
 obtain ⟨c0,rfl⟩:=rJ hcs
 rw [hsc] at fm₀
 have T₀:To [] F [(aa,0),(da,0)] ⟨[(0,.ro (.ilist xs)),(1,.ro (.tup [.uint d0,.uint d1,.uint d2]))],2⟩ s F [(aa,0),(da,0),(c0,0)] ⟨vaH xs d0 d1 d2,3⟩ s₀:=T₀
 have fm₀:Fm F [(aa,0),(da,0),(c0,0)] (vaH xs d0 d1 d2) (dC p 38) env (vaA pa first) s₀.heap:=fm₀
 have nl:=@noA env.locals
 show wpAny _ _ (execs (vaB p) env) _ _ _
 have e1:=yE p
 have e2:=El p
 have e3:=fun t vs=>EA p t d0 d1 d2 vs xs v hv
 obtain ⟨x1,h1⟩:∃ e,e=bc 1 (cJ (vaT p)):=⟨_,rfl⟩
 rw [←h1] at e1 e2
 rw [e1]
 generalize cJ (ci (ad 0 (vaB p)))=tE at e2 ⊢
 generalize tuK (ci (ad 0 (vaB p)))=tK at e2 ⊢
 generalize Expr.pos (ci (ad 0 (vaB p)))=tP at e2 ⊢
 generalize tuK (vaT p)=vK at e2 ⊢
 generalize Expr.pos (vaT p)=vP at e2 ⊢
 generalize aS (ad 0 (vaB p))=sP
 generalize (vaB p).drop 2=b2 at e3 ⊢
 refine wpAny_execs_cons (hS (m:=vaA pa first) (cx:=dC p 38) (names:=["args","total"]) rm'.hand rfl fm₀.eok.sc e2 (Em p) ?_)
 refine BO S hv h1 rm' T₀.at' fm₀ (by omega) fun F₁ s₁ D C T₁=>?_
 have fm₁:=fm₀.to T₁ nl
 refine ⟨F₁,_,_,4,[.ref 3,.uint first],T₁.at',fm₁,⟨(C,0),rfl,rfl⟩,by rfl,rfl,fun s₂ T₂ fm₂=>?_⟩
 have T₃:To [env.locals] F [(aa,0),(da,0),(c0,0)] ⟨vaH xs d0 d1 d2,3⟩ s₀ F₁ [(aa,0),(da,0),(c0,0),(D,0)] ⟨bQ (fH xs) xs d0 d1 d2,4⟩ s₂:=((T₁.nil (X:=[env.locals])).trans T₂).trim (ρ:=[(aa,0),(da,0),(c0,0),(D,0)]) (τ:=[(C,0)]) (n:=4) rfl (by rfl) ⟨[(D,0)],rfl⟩
 have fm₃:Fm F₁ [(aa,0),(da,0),(c0,0),(D,0)] (bQ (fH xs) xs d0 d1 d2) (dC p 38) env (vaP pa first) s₂.heap:=Fm.trim (ρ:=[(aa,0),(da,0),(c0,0),(D,0)]) (τ:=[(C,0)]) (n:=4) (fm₂.pick _ (BS first pa)) rfl (by rfl) (by rfl)
 have hl:(fH xs).length=xs.length:=by simp [fH]
 refine wpAny_execs_cons (yC rm' (hps.mono T₃.ext.fz) T₃.at' fm₃ (by rw [hl]; exact hg) (by omega) fun F₄ s₄ T₄ fm₄=>?_)
 generalize ps.foldl (aX d0 d1 d2) (fH xs,first)=q at *
 refine S.ss rm' T₄.at' fm₄ (ac _ (e3 _ _) noP (dz rfl fun F₅ s₅ f T₅ fm₅ hf=>?_))
 dsimp only at T₅ hf
 obtain ⟨_,rfl,t,rfl⟩:=hf
 have T₆:=((T_.trans T₀).nil (X:=[env.locals])).trans (T₃.trans (T₄.trans T₅))
 have TE:=T₆.u.sub T₅.at'.bare (fun a h=>nomatch h)
 exact h F₅ s₅ t (TE.drop (Y:=[]) fun a ha=>by obtain rfl:=ak ha; exact .inr nw).to0
end
end
section
noncomputable abbrev lwB (p:Params):List Stmt:=bK p 1127
noncomputable abbrev pF (p:Params)(d:Nat):Cx:=⟨aK p 1127,[("pen",1)],d⟩
noncomputable abbrev cj (p:Params)(d:Nat):Cx:=⟨aK p 1127,[("pen",2)],d⟩
noncomputable def lwW (c seed:Int)(ys:List Int):Hp:=[(0,eP 1 c seed),(1,.ro (.ilist ys)),(2,.cell (some (.ref 0)))]
noncomputable def cpy (xs:List Int):List Int:=iq xs none (some 60) none
noncomputable def fX (xs:List Int):Int:=(cpy xs).sum.fmod 1000003
noncomputable def lwN:List (Str×NameKind):=[("script",.local),("pen",.cell),("begin",.local),("wide",.local),("first",.local),("kept",.local),("gone",.local),("count",.local),("arguments",.local),("parts",.local),("deep",.local),("rows",.local),("program",.local),("state",.local),("many",.local),("others",.local),("list",.globalImplicit),("int",.globalImplicit),("sum",.globalImplicit),("_law_raw",.globalImplicit),("_law_draw",.globalImplicit),("range",.globalImplicit),("_law_parts",.globalImplicit),("_law_function",.globalImplicit),("_law_deep",.globalImplicit),("_law_program",.globalImplicit),("State",.globalImplicit),("gpr",.globalImplicit),("_law_count",.globalImplicit),("_law_call_right",.globalImplicit),("_law_value",.globalImplicit)]
noncomputable def wZ (bg wd fi ke:Int):Loc:=[("begin",.uint bg),("wide",.uint wd),("first",.uint fi),("kept",.uint ke)]
noncomputable def uu (bg wd fi ke go:Int):Loc:=wZ bg wd fi ke++([("gone",.uint go)]:Loc)
noncomputable def ju (bg wd fi ke go co:Int):Loc:=uu bg wd fi ke go++([("count",.uint co)]:Loc)
section
variable (p:Params)(c seed bg wd fi ke go co:Int)(xs ys:List Int)
theorem C3:jF (an p) 1127=true:=by rfl'
theorem wU:bj ((an p).lookup 1127)=(["script"]:List Str):=by rfl'
theorem wS:(db ((an p).lookup 1127) default).names=lwN:=by rfl'
theorem Je:∀ v,E6 v→aq (v.s (pF p 38) [("script",.ref 0)] (ad 0 (lwB p)) ⟨[(1,.cell none),(0,.ro (.ilist xs))],2⟩) =
  ([([],[xs.length≤100000,(cpy xs).length≤1000,xs.length≤100000],.next,[("script",.ref 0)],⟨[(5,.list [.ref 3,.int 0,.uint (fX xs)]),(4,.ilist (cpy xs)),(3,.ilist (cpy xs)),(2,.ilist (cpy xs)),(1,.cell (some (.ref 5))),(0,.ro (.ilist xs))],6⟩)]:LS):=by rintro _ rfl; rfl'
theorem Jd:∀ v,E6 v→aq (v.s (cj p 38) [] (ad 1 (lwB p)) ⟨lwW c seed ys,3⟩) =
  ([([],[nCx c ys,nCx (c+1) ys,nCx (c+1+1) ys,nCx (c+1+1+1) ys],.next,wZ ((aV ys c seed).fmod 9223372036854775808) (aV ys (c+1) seed) (aV ys (c+1+1) seed) (aV ys (c+1+1+1) seed),
   ⟨(3,.tup [.uint ((aV ys c seed).fmod 9223372036854775808),.uint (aV ys (c+1) seed),.uint (aV ys (c+1+1) seed),.uint (aV ys (c+1+1+1) seed)])::lwW (c+1+1+1+1) seed ys,4⟩)]:LS):=by rintro _ rfl; rfl'
theorem Jc:∀ v,E6 v→aq (v.s (cj p 38) (wZ bg wd fi ke) (ad 2 (lwB p)) ⟨lwW c seed ys,3⟩)=([([],[nCx c ys],.next,uu bg wd fi ke (8*(aV ys c seed).fmod 3),⟨lwW (c+1) seed ys,3⟩)]:LS):=by rintro _ rfl; rfl'
theorem Jb:∀ v,E6 v→aq (v.s (cj p 38) (uu bg wd fi ke go) (ad 3 (lwB p)) ⟨lwW c seed ys,3⟩)=([([],[nCx c ys],.next,ju bg wd fi ke go ((aV ys c seed).fmod 10),⟨lwW (c+1) seed ys,3⟩)]:LS):=by rintro _ rfl; rfl'
end
end
section
noncomputable abbrev lwC (p:Params):Expr:=aI (ad 4 (lwB p))
noncomputable abbrev lwS (p:Params):Scope:=hH (aK p 1127) (lwC p)
noncomputable abbrev w2 (p:Params)(d:Nat):Cx:=⟨rlS (lwS p) (aK p 1127),[("pen",2)],d⟩
noncomputable def drawn (ys:List Int)(c seed:Int)(n:Nat):List Int:=(List.range n).map fun i:Nat=>aV ys (c+(i:Int)) seed
section
variable (p:Params)(c seed bg wd fi ke go co i:Int)(xs ys:List Int)(zs:List SV)
theorem Ja:ad 4 (lwB p)=.Assign [.Name "arguments" (ao (ci (ad 4 (lwB p))))] (.ListComp (dO (lwC p)) [⟨.Name "at" (ao (gK (lwC p))),bl (lwC p),[],0⟩] (lwS p) (ao (lwC p))) (aS (ad 4 (lwB p))):=by rfl'
theorem Gd:((ao (ci (ad 4 (lwB p)))).line == (ao (lwC p)).line)=true:=by rfl'
theorem Gc:((lwS p).names.any fun x=>x.1 == ("arguments" : Str)&&(x.2 == .local||x.2 == .cell))=false:=by rfl'
theorem Bp:aD (cj p 38).sc "arguments" = true:=by rfl'
theorem Gf:ei (bl (lwC p))=true:=by rfl'
theorem tv:oX (lwS p)=true:=by rfl'
theorem Bo:(lwS p).names=([(".0",.local),("at",.local),("_law_raw",.globalImplicit),("pen",.free)]:List (Str×NameKind)):=by rfl'
theorem Gb:aD (w2 p 38).sc "at" = true:=by rfl'
theorem Ge:fu (w2 p 38).sc=true:=by rfl'
theorem Gh:∀ v,E6 v→am (v.e (cj p 38) (ju bg wd fi ke go co) (bl (lwC p)) ⟨lwW c seed ys,3⟩)=([([],[],.ref 3,⟨(3,.rng 0 co)::lwW c seed ys,4⟩)]:LE):=by rintro _ rfl; rfl'
theorem Gg:∀ v,E6 v→am (v.e (w2 p 38) [("at",.uint i)] (dO (lwC p)) ⟨(4,.slist zs)::(3,.rng 0 co)::lwW c seed ys,5⟩)=([([],[nCx c ys],.uint (aV ys c seed),⟨(4,.slist zs)::(3,.rng 0 co)::lwW (c+1) seed ys,5⟩)]:LE):=by rintro _ rfl; rfl'
end
end
section
theorem zS (bg wd fi ke go co:Int):dD "arguments" (.ref 4) (ju bg wd fi ke go co)=ju bg wd fi ke go co++([("arguments",.ref 4)]:Loc):=by rfl'
section
variable {go:Int}
theorem At.ints {zs:List SV}{xs:List Int}(a:At F ρ ⟨(k,.slist zs)::σ,n⟩ s)(e:zs=xs.map .uint):At F ρ ⟨(k,.ilist xs)::σ,n⟩ s:=by
 subst e
 exact a.view (by unfold ae; rfl) fun e he=>by
  rcases aJ he with rfl | he
  ·obtain ⟨q,hq,O⟩:=a.rep.ok _ (List.mem_cons_self ..)
   exact .inr ⟨fun o z=>(by cases z),q,hq,iz O⟩
  ·exact .inl (.tail _ he)
theorem eg.of {q:Addr×Addr}{xs:List Int}(a:At F ρ st s)(hm:(k,SO.ro (.ilist xs))∈st.σ)(hq:ρ[k]?=some q):eg F q.1 xs:=by
 obtain ⟨q',zs,c,hq',hF,hi⟩:=a.roIlist hm
 rw [hq] at hq'; cases hq'
 exact ⟨zs,c,hF,hi⟩
set_option maxHeartbeats 1000000 in
theorem wV {Q:Flow→Shared→Prop}(rm:aj 38 A)(at':At F [q0,q1,q2] ⟨lwW c seed ys,3⟩ s)(fm:Fm F [q0,q1,q2] (lwW c seed ys) (cj p 38) env (ju bg wd fi ke go (n:Int)) s.heap)(hc:0≤c)(hy:ys.length≤1000)(hn:n≤9)
  (h:∀ F' s' a,To [env.locals] F [q0,q1,q2] ⟨lwW c seed ys,3⟩ s F' [q0,q1,q2] ⟨lwW (c+(n:Int)) seed ys,3⟩ s'→Fm F' [q0,q1,q2] (lwW (c+(n:Int)) seed ys) (cj p 38) env (ju bg wd fi ke go (n:Int)++([("arguments",.sta a)]:Loc)) s'.heap→eg F' a (drawn ys c seed n)→Q .next s'):wpAny (model prog w) A (exec (ad 4 (lwB p)) env) Q E s:=by
 obtain ⟨v,hv,S⟩:=dj
 have nl:=@noA env.locals
 have e1:=Gh p c seed bg wd fi ke go (n:Int) ys v hv
 have e2:=fun c i zs=>Gg p c seed (n:Int) i ys zs v hv
 have c1:=Ja p
 have c2:=Gf p
 have c3:=Gd p
 rw [c1]
 generalize dO (lwC p)=elt at e2 c1 ⊢
 generalize bl (lwC p)=it at c2 e1 ⊢
 generalize ao (gK (lwC p))=np
 generalize ao (ci (ad 4 (lwB p)))=ap at c3 ⊢
 generalize ao (lwC p)=lp at c3 ⊢
 generalize aS (ad 4 (lwB p))=sp
 have eok:=fm.eok
 have hde:env.cells.lookup ("pen" : Str)=some q2.1:=by
  obtain ⟨q,hq,hl⟩:=eok.cel "pen" 2 (by rfl)
  cases hq; exact hl
 have hclos:closureFor (lwS p) env=pure ([("pen",q2.1)]:List (Str×Addr)):=by
  rw [cI (by
   rw [Bo]
   intro x hx hk
   rcases pv hx with rfl | rfl | rfl | rfl
   ·cases hk
   ·cases hk
   ·cases hk
   ·rw [hde]; rfl),Bo]
  simp [ir,fq,hde]
 refine mN (kB eok (Bp p) c3 (Gc p)) (cz c2) hclos (aZ (dw (tv p)).1) (dE (tv p)) ?_
 refine S.e rm at' fm (ac _ e1 noP fun F₁ ρ₁ s₁ xv T₁ ix=>?_)
 dsimp only at T₁ ix
 obtain ⟨q3,eρ⟩:=T₁.new1 rfl
 subst eρ
 obtain ⟨_,hq,rfl⟩:=ix
 have hq:some q3=some _:=hq
 cases hq
 obtain ⟨_,hq,r1,r2,r3,hr⟩:=T₁.at'.rep.ok (3,.rng 0 (n:Int)) (.head _)
 have hq:some q3=some _:=hq
 cases hq
 refine wpAny_pyIter_range hr (small_one (by decide) (by decide) (by omega) (by omega)) ?_
 have fm₁:=fm.to T₁ nl
 have envc:∀ C,gu [q0,q1,q2,q3] (w2 p 38) (compEnvC (lwS p) [("pen",q2.1)] C env):=fun C=>by
  refine ⟨dF eok.sc,eok.gl,eok.bu,aZ (Ge p),fun x k e=>?_⟩
  unfold af at e
  split at e
  ·rename_i q; rw [aQ] at q; cases e; subst q; exact ⟨_,rfl,rfl⟩
  ·cases e
 refine eH (F₀:=F₁) (s₀:=s₁) (W:=[s₁.heap.objs.size]) (n:=n) (n0:=4) (Wh:=fun i=>(3,.rng 0 (n:Int))::lwW (c+(i:Nat)) seed ys) (Y:=fun i=>(drawn ys c seed i).map .uint) (el:=fun i=>.uint (i:Nat)) (ccx:=w2 p 38)
  (f6 rfl rm.hand) (by rw [show c+((0:Nat):Int)=c by omega]; exact T₁.at') (fun c o e=>Heap.get?_push_of_some _ e) (fun c hc=>by obtain rfl:=ak hc; exact aT _) (jo hr) (fun hI hq=>wpAny_pyIter_rangeiter hI hq)
  rfl (fun i hi=>by simp only [drawn,List.length_map,List.length_range]; omega) (eE (tv p)) (aZ (dw (tv p)).1) envc (Gb p) (fun hi hv=>hv) ?_ ?_
 ·intro i F C D s E hi hF a1 f1
  refine wpAny_tests_nil ?_
  rw [if_pos rfl]
  refine S.e rm a1 f1 (ac _ (e2 _ _ _) (fun P hP=>by obtain rfl:=ak hP; exact ⟨by omega,by omega⟩) (bS rfl fun F₅ s₅ y T₅ i₅=>?_))
  dsimp only at T₅ i₅
  rw [show c+(i:Int)+1=c+((i+1:Nat):Int) by omega] at T₅
  exact ⟨F₅,_,T₅,i₅,by unfold drawn; rw [List.range_succ,List.map_append,List.map_append]; rfl⟩
 ·intro F₂ s₂ C D T hns hC hFC hC0
  have hne:env.locals≠C:=fun z=>by
   obtain ⟨mm,hmm,_⟩:=fm₁.ns
   obtain ⟨o,_,_,ho,_⟩:=hmm
   rw [z,hC0] at ho; cases ho
  have T':To [] F₁ [q0,q1,q2,q3] ⟨(3,.rng 0 (n:Int))::lwW c seed ys,4⟩ s₁ F₂ ([q0,q1,q2,q3]++[(D,0)]) ⟨(4,.slist ((drawn ys c seed n).map .uint))::(3,.rng 0 (n:Int))::lwW (c+(n:Int)) seed ys,5⟩ s₂:=by
   have:=T
   rw [show c+((0:Nat):Int)=c by omega] at this
   exact this
  have fm₂:=fm₁.to T' nl
  refine PySem.wpAny_assign_Name (a9 (sv:=.ref 4) T'.at' fm₂ (Bp p) ⟨(D,0),rfl,rfl⟩ fun s₃ T₃ fm₃=>?_)
  obtain ⟨mm,o,es,ep,ho,hrest⟩:=hns
  refine ⟨mm,⟨o,es,ep,T₃.ext.keep C o ho hC (by simpa using fun z=>hne z.symm),hrest⟩,fun h' sb=>?_⟩
  have T₄:=((T'.nil (X:=[env.locals])).trans T₃).letgo hC hFC hC0 sb
  have fm₄:Fm F₂ ([q0,q1,q2,q3]++[(D,0)]) ((4,.slist ((drawn ys c seed n).map .uint))::(3,.rng 0 (n:Int))::lwW (c+(n:Int)) seed ys) (cj p 38) env (ju bg wd fi ke go (n:Int)++([("arguments",.ref 4)]:Loc)) h':=by
   have:=fm₃.beside (W:=[C]) (h':=h') (fun c o hc e=>aB sb (by simpa using hc) e) (by simpa using hne)
   rw [zS] at this
   exact this
  have T₅:=(((T₁.nil (X:=[env.locals])).trans T₄).u.sub (T₄.at'.ints rfl) (fun _ h=>h)).to (τ:=[q3,(D,0)]) (ρ:=[q0,q1,q2])
  obtain ⟨F₆,_,hout,T₆⟩:=T₅.freezeX at' [4] (by rfl)
  have hI:eg F₆ (D,0).1 (drawn ys c seed n):=eg.of T₆.at' (k:=4) (.head _) rfl
  have fm₅:Fm F₂ ([q0,q1,q2]++[q3,(D,0)]) ((4,.ilist (drawn ys c seed n))::(3,.rng 0 (n:Int))::lwW (c+(n:Int)) seed ys) (cj p 38) env (ju bg wd fi ke go (n:Int)++([("arguments",.ref 4)]:Loc)) h':=fm₄.sub (by exact fun _ h=>h)
  have fm₆:=Fm.last (m:=ju bg wd fi ke go (n:Int)) (x:="arguments") (sv:=.ref 4) (sv':=.sta D) (fm₅.frz (ids:=[4]) hout) fun v i=>by
   obtain ⟨q,hq,rfl⟩:=i
   have hq:some (D,0)=some q:=hq
   cases hq; rfl
  exact h F₆ _ D (T₆.trim (ρ:=[q0,q1,q2]) (τ:=[q3,(D,0)]) (n:=3) rfl (by rfl) ⟨[],rfl⟩) (fm₆.trim (n:=3) rfl (by rfl) (by rfl)) hI
end
end
section
noncomputable def Ac (bg wd fi ke go co:Int)(aa:Addr):Loc:=ju bg wd fi ke go co++([("arguments",.sta aa)]:Loc)
noncomputable def rG (bg wd fi ke go:Int)(aa pa:Addr):Loc:=uu bg wd fi ke go++([("arguments",.sta aa),("parts",.sta pa)]:Loc)
section
variable (p:Params)(c seed bg wd fi ke go co i:Int)(xs ys:List Int)(zs:List SV)(aa pa:Addr)
theorem I9:ad 5 (lwB p)=.Assign [.Name "parts" (ao (ci (ad 5 (lwB p))))] (.Call (caF (aI (ad 5 (lwB p)))) (caA (aI (ad 5 (lwB p)))) [] (Expr.pos (aI (ad 5 (lwB p))))) (aS (ad 5 (lwB p))):=by rfl'
theorem F8:cr (an p) (.sta 1075)=true:=by rfl'
theorem F6:noStar (caA (aI (ad 5 (lwB p))))=true:=by rfl'
theorem F5:bG (caF (aI (ad 5 (lwB p))))=false:=by rfl'
theorem F7:aD (cj p 38).sc "parts" = true:=by rfl'
theorem F9:∀ v,E6 v→am (v.e (cj p 38) (Ac bg wd fi ke go co aa) (caF (aI (ad 5 (lwB p)))) ⟨lwW c seed ys,3⟩)=([([],[],.sta 1075,⟨lwW c seed ys,3⟩)]:LE):=by rintro _ rfl; rfl'
theorem Ga:∀ v,E6 v→bw (v.es (cj p 38) (Ac bg wd fi ke go co aa) (caA (aI (ad 5 (lwB p)))) ⟨lwW c seed ys,3⟩)=([([],[],[.ref 0,.uint co],⟨lwW c seed ys,3⟩)]:LEs):=by rintro _ rfl; rfl'
theorem C0:de ["begin","wide","first","kept","gone","arguments","parts"] (dD "parts" (.sta pa) (Ac bg wd fi ke go co aa))=rG bg wd fi ke go aa pa:=by rfl'
end
section
variable {go:Int}
theorem wT {Q:Flow→Shared→Prop}(rm:aj 39 A)(at':At F [q0,q1,q2] ⟨lwW c seed ys,3⟩ s)(fm:Fm F [q0,q1,q2] (lwW c seed ys) (cj p 38) env (Ac bg wd fi ke go (n:Int) aa) s.heap)(hc:0≤c)(hy:ys.length≤63)(hn:n≤9)
  (h:∀ F' s' pa c' ps,0≤c'→To [env.locals] F [q0,q1,q2] ⟨lwW c seed ys,3⟩ s F' [q0,q1,q2] ⟨lwW c' seed ys,3⟩ s'→Fm F' [q0,q1,q2] (lwW c' seed ys) (cj p 38) env (rG bg wd fi ke go aa pa) s'.heap→eX F' pa ps→ps.length≤5→(∀ x∈ps,ec n x)→Q .next s'):wpAny (model prog w) A (exec (ad 5 (lwB p)) env) Q E s:=by
 obtain ⟨v,hv,S⟩:=dj
 have nl:=@noA env.locals
 have e1:=F9 p c seed bg wd fi ke go (n:Int) ys aa v hv
 have e2:=Ga p c seed bg wd fi ke go (n:Int) ys aa v hv
 have c1:=F6 p
 have c2:=F5 p
 rw [I9 p]
 generalize caF (aI (ad 5 (lwB p)))=fx at e1 c2 ⊢
 generalize caA (aI (ad 5 (lwB p)))=ax at e2 c1 ⊢
 refine wpAny_Assign_Name (br S (rm.down (by show 38≤39; omega)) at' fm c1 (a8 c2) (F8 p) (ac _ e1 noP rfl) (ac _ e2 noP rfl) fun F₁ ρ₁ s₁ fv vs T₁ ifv ivs=>?_)
 have q1':=aU T₁ rfl
 subst q1'
 cases ifv
 obtain ⟨v0,v1,rfl,⟨_,hq,rfl⟩,⟨t1,rfl⟩⟩:=ivs.inv2
 have hq:some q0=some _:=hq
 cases hq
 have fm₁:=fm.to T₁ nl
 have a1:At F₁ ([q0,q1]++[q2]) ⟨[(0,eP 1 c seed),(1,.ro (.ilist ys))]++[(2,.cell (some (.ref 0)))],3⟩ s₁:=T₁.at'
 refine zo rm (mI (k:=2) rfl (by rfl) (by rfl) a1) hc hy hn fun F₂ s₂ pa c' ps k0 T₂ hP hl hg=>?_
 have TB:To [] F₁ [q0,q1,q2] ⟨lwW c seed ys,3⟩ s₁ F₂ [q0,q1,q2] ⟨lwW c' seed ys,3⟩ s₂:=iH (k:=2) rfl (by rfl) (by rfl) a1 T₂ (by rfl) (fun _ z=>nomatch z)
 have fm₂:=fm₁.to TB nl
 refine a9 (sv:=.sta pa) TB.at' fm₂ (F7 p) rfl fun s₃ T₃ fm₃=>?_
 exact h F₂ s₃ pa c' ps k0 (((T₁.trans TB).nil (X:=[env.locals])).trans T₃) (fm₃.pick _ (C0 _ _ _ _ _ _ _ _)) hP hl hg
end
end
section
noncomputable def pE (bg wd fi ke go:Int)(aa pa:Addr)(sv:SV):Loc:=rG bg wd fi ke go aa pa++([("deep",sv)]:Loc)
section
variable (p:Params)(c seed bg wd fi ke go co i:Int)(xs ys:List Int)(zs:List SV)(aa pa:Addr)
theorem I8:∀ v,E6 v→aq (v.s (cj p 38) (rG bg wd fi ke go aa pa) (ad 6 (lwB p)) ⟨lwW c seed ys,3⟩) =
  ([([],[nCx c ys,nCx (c+1) ys,0≤(aV ys (c+1) seed).fmod 4∧(aV ys (c+1) seed).fmod 4<(([1,2,4,8]:List Int).length:Int),nCx (c+1+1) ys],.next,pE bg wd fi ke go aa pa (.ref 4),
   ⟨(4,.tup [.uint (aV ys c seed),.uint (([1,2,4,8]:List Int).getD ((aV ys (c+1) seed).fmod 4).toNat 0),.uint ((aV ys (c+1+1) seed).fmod 4001 - 2000)])::(3,.list [.int 1,.int 2,.int 4,.int 8])::lwW (c+1+1+1) seed ys,5⟩)]:LS):=by rintro _ rfl; rfl'
end
section
variable {go:Int}
theorem gV.of {q:Addr×Addr}{d0 d1 d2:Int}(a:At F ρ st s)(hm:(k,SO.ro (.tup [.uint d0,.uint d1,.uint d2]))∈st.σ)(hq:ρ[k]?=some q):gV F q.1 d0 d1 d2:=by
 have key:=a.rep.ro _ hm _ rfl q hq
 obtain ⟨o,hFo⟩:=eG a.rep.le (a:=q.1) fun h hh=>by
  obtain ⟨vs,cc,ho,_⟩:=key h hh
  exact ⟨_,ho⟩
 obtain ⟨⟨vs⟩,cc,ho,hvs⟩:=key _ a.rep.le
 rw [a.rep.le _ _ hFo] at ho
 cases ho
 obtain ⟨_,_,_,rfl,⟨t0,rfl⟩,⟨t1,rfl⟩,⟨t2,rfl⟩⟩:=ag.inv3 (vs:=vs) hvs
 exact ⟨cc,t0,t1,t2,hFo⟩
theorem zZ {Q:Flow→Shared→Prop}(rm:aj 38 A)(at':At F [q0,q1,q2] ⟨lwW c seed ys,3⟩ s)(fm:Fm F [q0,q1,q2] (lwW c seed ys) (cj p 38) env (rG bg wd fi ke go aa pa) s.heap)(hc:0≤c)(hy:ys.length≤63)
  (h:∀ F' s' da c' d0 d1 d2,0≤c'→0≤d1→d1≤8→To [env.locals] F [q0,q1,q2] ⟨lwW c seed ys,3⟩ s F' [q0,q1,q2] ⟨lwW c' seed ys,3⟩ s'→Fm F' [q0,q1,q2] (lwW c' seed ys) (cj p 38) env (pE bg wd fi ke go aa pa (.sta da)) s'.heap→gV F' da d0 d1 d2→Q .next s'):wpAny (model prog w) A (exec (ad 6 (lwB p)) env) Q E s:=by
 obtain ⟨v,hv,S⟩:=dj
 have e1:=I8 p c seed bg wd fi ke go ys aa pa v hv
 obtain ⟨k0,k1⟩:0≤(aV ys (c+1) seed).fmod 4∧(aV ys (c+1) seed).fmod 4<4:=⟨Int.fmod_nonneg_of_pos _ (by decide),Int.fmod_lt_of_pos _ (by decide)⟩
 have k8:=vS k0 k1
 generalize ad 6 (lwB p)=b at e1 ⊢
 refine S.s rm at' fm (ac _ e1 (fun P hP=>?_) fun F₁ ρ₁ s₁ f T₁ fm₁ hf=>?_)
 ·exact bC hP (⟨by omega,by omega⟩) fun hP=>bC hP (⟨by omega,by omega⟩) fun hP=>bC hP (⟨k0,k1⟩) fun hP=>bC hP (⟨by omega,by omega⟩) fun hP=>nomatch hP
 cases hf
 generalize ([1,2,4,8]:List Int).getD ((aV ys (c+1) seed).fmod 4).toNat 0=d1 at *
 generalize aV ys c seed=d0 at *
 generalize (aV ys (c+1+1) seed).fmod 4001 - 2000=d2 at *
 have hc':0≤c+1+1+1:=by omega
 generalize c+1+1+1=c' at *
 dsimp only at T₁ fm₁
 obtain ⟨q3,q4,eρ⟩:=T₁.new2 rfl
 subst eρ
 obtain ⟨F₂,_,hout,T₂⟩:=T₁.freezeX at' [4] (by rfl)
 have hI:gV F₂ q4.1 d0 d1 d2:=gV.of T₂.at' (k:=4) (.head _) rfl
 have fm₂:=Fm.last (m:=rG bg wd fi ke go aa pa) (x:="deep") (sv:=.ref 4) (sv':=.sta q4.1) (fm₁.frz (ids:=[4]) hout) fun v i=>by
  obtain ⟨q,hq,rfl⟩:=i
  have hq:some q4=some q:=hq
  cases hq; rfl
 exact h F₂ s₁ q4.1 c' d0 d1 d2 hc' k8.1 k8.2 (T₂.trim (ρ:=[q0,q1,q2]) (τ:=[q3,q4]) (n:=3) rfl (by rfl) ⟨[],rfl⟩) (Fm.trim (ρ:=[q0,q1,q2]) (τ:=[q3,q4]) (n:=3) fm₂ rfl (by rfl) (by rfl)) hI
end
end
section
noncomputable def lwX (c seed d0 d1 d2:Int)(ys:List Int):Hp:=lwW c seed ys++[(3,.ro (.tup [.uint d0,.uint d1,.uint d2]))]
noncomputable abbrev fZ (p:Params):Expr:=aI (ad 7 (lwB p))
noncomputable def lS (bg wd fi ke go:Int)(aa pa:Addr)(sv:SV)(ra:Addr):Loc:=[("begin",.uint bg),("wide",.uint wd),("first",.uint fi),("arguments",.sta aa),("parts",.sta pa),("rows",.sta ra),("deep",sv)]
section
variable (p:Params)(c seed bg wd fi ke go d0 d1 d2:Int)(xs ys:List Int)(zs:List SV)(aa pa ra:Addr)
theorem I7:ad 7 (lwB p)=.Assign [.Name "rows" (ao (ci (ad 7 (lwB p))))] (.BinOp (.Call (caF (boL (fZ p))) (caA (boL (fZ p))) [] (Expr.pos (boL (fZ p)))) .Add (.Call (caF (boR (fZ p))) (caA (boR (fZ p))) [] (Expr.pos (boR (fZ p)))) (Expr.pos (fZ p))) (aS (ad 7 (lwB p))):=by rfl'
theorem FX:cr (an p) (.sta 1082)=true:=by rfl'
theorem F2:cr (an p) (.sta 1089)=true:=by rfl'
theorem FV:noStar (caA (boL (fZ p)))=true:=by rfl'
theorem F1:noStar (caA (boR (fZ p)))=true:=by rfl'
theorem FU:bG (caF (boL (fZ p)))=false:=by rfl'
theorem F0:bG (caF (boR (fZ p)))=false:=by rfl'
theorem FW:aD (cj p 38).sc "rows" = true:=by rfl'
theorem FY:∀ v,E6 v→am (v.e (cj p 38) (pE bg wd fi ke go aa pa (.ref 3)) (caF (boL (fZ p))) ⟨lwX c seed d0 d1 d2 ys,4⟩)=([([],[],.sta 1082,⟨lwX c seed d0 d1 d2 ys,4⟩)]:LE):=by rintro _ rfl; rfl'
theorem FZ:∀ v,E6 v→bw (v.es (cj p 38) (pE bg wd fi ke go aa pa (.ref 3)) (caA (boL (fZ p))) ⟨lwX c seed d0 d1 d2 ys,4⟩)=([([],[],[.sta pa,.uint fi,.uint ke,.uint go],⟨lwX c seed d0 d1 d2 ys,4⟩)]:LEs):=by rintro _ rfl; rfl'
theorem F3:∀ v,E6 v→am (v.e (cj p 38) (pE bg wd fi ke go aa pa (.ref 3)) (caF (boR (fZ p))) ⟨lwX c seed d0 d1 d2 ys,4⟩)=([([],[],.sta 1089,⟨lwX c seed d0 d1 d2 ys,4⟩)]:LE):=by rintro _ rfl; rfl'
theorem F4:∀ v,E6 v→bw (v.es (cj p 38) (pE bg wd fi ke go aa pa (.ref 3)) (caA (boR (fZ p))) ⟨lwX c seed d0 d1 d2 ys,4⟩)=([([],[],[.uint d0,.uint d1,.uint d2],⟨lwX c seed d0 d1 d2 ys,4⟩)]:LEs):=by rintro _ rfl; rfl'
theorem CZ (sv:SV):de ["begin","wide","first","arguments","parts","rows","deep"] (dD "rows" (.sta ra) (pE bg wd fi ke go aa pa sv))=lS bg wd fi ke go aa pa sv ra:=by rfl'
end
section
variable {go:Int}{L L':List PR}
theorem To.lift (a:At F ρ ⟨σ,n⟩ s)(T:To [] F [] ⟨[],0⟩ s F' [] ⟨[],0⟩ s'):To [] F ρ ⟨σ,n⟩ s F' ρ ⟨σ,n⟩ s':=
 iH (ρ0:=[]) (τ:=ρ) (σa:=[]) (σa':=[]) (σb:=σ) (k:=0) rfl rfl rfl a T rfl (fun _ z=>nomatch z)
theorem yq {Q:Value→Shared→Prop}(at':At F ρ ⟨σ,n⟩ s)(h1:d9 F a L)(h2:d9 F b L')(hl:L.length+L'.length≤1000)
  (h:∀ F' s' d,To [] F ρ ⟨σ,n⟩ s F' ρ ⟨σ,n⟩ s'→d9 F' d (L++L')→Q (.ref d) s'):wpAny (model prog w) A (binaryOp .Add (.ref a) (.ref b)) Q E s:=by
 obtain ⟨as,r1,l1⟩:=h1
 obtain ⟨bs,r2,l2⟩:=h2
 obtain ⟨c1,ho⟩:=l1 _ at'.rep.le
 obtain ⟨c2,ho'⟩:=l2 _ at'.rep.le
 have z1:=r1.length
 have z2:=r2.length
 refine PySem.P.add_list (items:=(as.map Value.ref).toArray) (items2:=(bs.map Value.ref).toArray) ho ho' ?_ (by rw [sizeLine_eq]; simp only [List.size_toArray,List.length_map]; omega)
 have T₁:=at'.grown (X:=[]) (s':={ s with heap:=s.heap.push { cls:=.type "list",data:=.seq ((as.map Value.ref).toArray++(bs.map Value.ref).toArray) } }) rfl (fun b o e=>Heap.get?_push_of_some _ e)
 have hnew:s.heap.get? s.heap.objs.size=none:=aT _
 obtain ⟨F',hsub,hF,_,T₂⟩:=T₁.freezeL [s.heap.objs.size] (fun a ha=>by obtain rfl:=ak ha; exact hnew) (fun a ha z=>by
  obtain rfl:=ak ha
  obtain ⟨e,he,q,hq,hz⟩:=aw.mp z
  obtain ⟨q',hq',O⟩:=at'.rep.ok e he
  rw [hq] at hq'; cases hq'
  obtain ⟨o,eo⟩:=O.alive _ (jE hz)
  rw [hnew] at eo; cases eo)
 refine h F' _ s.heap.objs.size T₂ ⟨as++bs,(r1.imp fun _ _ z=>z.mono hsub).append (r2.imp fun _ _ z=>z.mono hsub),fun h' hh=>⟨0,?_⟩⟩
 rw [List.map_append]
 have e:=hF _ (.head _)
 have e2:(s.heap.push { cls:=.type "list",data:=.seq ((as.map Value.ref).toArray++(bs.map Value.ref).toArray) }).get? s.heap.objs.size=some { cls:=.type "list",data:=.seq ((as.map Value.ref).toArray++(bs.map Value.ref).toArray) }:=Heap.get?_push_size _ rfl
 have:=hh _ _ (e.trans e2)
 rw [this,List.append_toArray]
theorem zT {ps:List bo}{Q:Flow→Shared→Prop}(rm:aj 39 A)(at':At F [q0,q1,q2] ⟨lwW c seed ys,3⟩ s)(fm:Fm F [q0,q1,q2] (lwW c seed ys) (cj p 38) env (pE bg wd fi ke go aa pa (.sta da)) s.heap)(hd:gV F da d0 d1 d2)(hps:eX F pa ps)(hl:ps.length≤5)(hok:∀ x∈ps,sI x)(hr:(bH ps fi ke go).length+(bJ d0 d1 d2).length≤1000)
  (h:∀ F' s' ra,To [env.locals] F [q0,q1,q2] ⟨lwW c seed ys,3⟩ s F' [q0,q1,q2] ⟨lwW c seed ys,3⟩ s'→Fm F' [q0,q1,q2] (lwW c seed ys) (cj p 38) env (lS bg wd fi ke go aa pa (.sta da) ra) s'.heap→d9 F' ra (bH ps fi ke go++bJ d0 d1 d2)→Q .next s'):wpAny (model prog w) A (exec (ad 7 (lwB p)) env) Q E s:=by
 obtain ⟨v,hv,S⟩:=dj
 have nl:=@noA env.locals
 have e1:=FY p c seed bg wd fi ke go d0 d1 d2 ys aa pa v hv
 have e2:=FZ p c seed bg wd fi ke go d0 d1 d2 ys aa pa v hv
 have e3:=F3 p c seed bg wd fi ke go d0 d1 d2 ys aa pa v hv
 have e4:=F4 p c seed bg wd fi ke go d0 d1 d2 ys aa pa v hv
 have c1:=FV p
 have c2:=FU p
 have c3:=F1 p
 have c4:=F0 p
 have rm':aj 38 A:=rm.down (by omega)
 rw [I7 p]
 generalize caF (boL (fZ p))=fx at e1 c2 ⊢
 generalize caA (boL (fZ p))=ax at e2 c1 ⊢
 generalize caF (boR (fZ p))=fy at e3 c4 ⊢
 generalize caA (boR (fZ p))=ay at e4 c3 ⊢
 obtain ⟨c',u0,u1,u2,hFd⟩:=hd
 have T_:To [] F [q0,q1,q2] ⟨lwW c seed ys,3⟩ s F ([q0,q1,q2]++[(da,0)]) ⟨lwX c seed d0 d1 d2 ys,4⟩ s:=at'.ros [(da,0)] rfl fun e he=>by
  obtain rfl:=ak he
  exact ⟨_,rfl,(da,0),rfl,fun h' hh=>⟨_,c',hh _ _ hFd,.cons ⟨u0,rfl⟩ (.cons ⟨u1,rfl⟩ (.cons ⟨u2,rfl⟩ .nil))⟩⟩
 have fm_:=Fm.last (m:=rG bg wd fi ke go aa pa) (x:="deep") (sv:=.sta da) (sv':=.ref 3) (fm.to T_ nl) fun v i=>⟨(da,0),rfl,i⟩
 refine wpAny_Assign_Name (wpAny_BinOp (br S rm' T_.at' fm_ c1 (a8 c2) (FX p) (ac _ e1 noP rfl) (ac _ e2 noP rfl) fun F₁ ρ₁ s₁ fv vs T₁ ifv ivs=>?_))
 have q1':=aU T₁ rfl
 subst q1'
 cases ifv
 obtain ⟨v0,v1,v2,v3,rfl,rfl,⟨t1,rfl⟩,⟨t2,rfl⟩,⟨t3,rfl⟩⟩:=ivs.inv4
 refine As rm T₁.at'.bare (hps.mono T₁.ext.fz) hok hl fun F₂ s₂ a T₂ hA=>?_
 have T₃:=T₁.trans (T₂.lift T₁.at')
 refine br S rm' T₃.at' (fm_.to T₃ nl) c3 (a8 c4) (F2 p) (ac _ e3 noP rfl) (ac _ e4 noP rfl) fun F₄ ρ₄ s₄ fv vs T₄ ifv ivs=>?_
 have q4':=aU T₄ rfl
 subst q4'
 cases ifv
 obtain ⟨v0,v1,v2,rfl,⟨t4,rfl⟩,⟨t5,rfl⟩,⟨t6,rfl⟩⟩:=ivs.inv3
 refine AH rm T₄.at'.bare fun F₅ s₅ b T₅ hB=>?_
 have T₆:=T₅.lift T₄.at'
 refine yq T₆.at' (hA.mono fun x o e=>T₆.ext.fz x o (T₄.ext.fz x o e)) hB hr fun F₇ s₇ ra T₇ hC=>?_
 have T₈:=T_.trans (T₃.trans (T₄.trans (T₆.trans T₇)))
 have T₉:=T₃.trans (T₄.trans (T₆.trans T₇))
 refine a9 (sv:=.sta ra) T₉.at' (fm_.to T₉ nl) (FW p) rfl fun s₈ Ts fm₈=>?_
 have fm₉:Fm F₇ ([q0,q1,q2]++[(da,0)]) (lwX c seed d0 d1 d2 ys) (cj p 38) env (lS bg wd fi ke go aa pa (.ref 3) ra) s₈.heap:=fm₈.pick _ (CZ bg wd fi ke go aa pa ra (.ref 3))
 have fmA:=Fm.last (m:=[("begin",.uint bg),("wide",.uint wd),("first",.uint fi),("arguments",.sta aa),("parts",.sta pa),("rows",.sta ra)]) (x:="deep") (sv:=.ref 3) (sv':=.sta da) fm₉ fun v i=>by
  obtain ⟨q,hq,rfl⟩:=i
  have hq:some (da,0)=some q:=hq
  cases hq; rfl
 exact h F₇ s₈ ra (((T₈.nil (X:=[env.locals])).trans Ts).trim (ρ:=[q0,q1,q2]) (τ:=[(da,0)]) (n:=3) rfl (by rfl) ⟨[],rfl⟩) (fmA.trim (n:=3) rfl (by rfl) (by rfl)) hC
end
end
section
noncomputable abbrev uw (p:Params):Expr:=aI (ad 8 (lwB p))
noncomputable abbrev fY (p:Params):Expr:=bc 0 (cJ (uw p))
noncomputable abbrev rF (p:Params):Expr:=bc 1 (cJ (uw p))
noncomputable def zer:List SV:=[.int 0,.int 0,.int 0,.int 0,.int 0,.int 0,.int 0,.int 0,.int 0,.int 0,.int 0,.int 0,.int 0,.int 0,.int 0,.int 0]
noncomputable def jT (c seed:Int)(ys:List Int):Hp:=(11,sgO)::(10,.edict)::(9,.inst 394 [("held",.ref 10)])::(8,flO)::(7,.list zer)::(6,.list [.int 0])::(5,.list zer)::(4,.list [.int 0])::(3,.inst 511 [("iset",.none),("regs",.ref 5),("xmm",.ref 7),("flags",.ref 8),("memory",.ref 9),("rip",.int 0),("begin",.int 0),("segments",.ref 11),("is_halted",.bool false)])::lwW c seed ys
section
variable (p:Params)(c seed bg wd fi ke go:Int)(xs ys:List Int)(aa pa ra ga da:Addr)
theorem I6:ad 8 (lwB p)=.Assign [.Tuple (cJ (ci (ad 8 (lwB p)))) (tuK (ci (ad 8 (lwB p)))) (Expr.pos (ci (ad 8 (lwB p))))] (.Tuple [.Call (caF (fY p)) (caA (fY p)) [] (Expr.pos (fY p)),rF p] (tuK (uw p)) (Expr.pos (uw p))) (aS (ad 8 (lwB p))):=by rfl'
theorem FL:swappedStores [.Tuple (cJ (ci (ad 8 (lwB p)))) (tuK (ci (ad 8 (lwB p)))) (Expr.pos (ci (ad 8 (lwB p))))] (.Tuple [.Call (caF (fY p)) (caA (fY p)) [] (Expr.pos (fY p)),rF p] (tuK (uw p)) (Expr.pos (uw p))) (uT (cj p 38).sc)=pure (some (["program","state"]:List Str)):=by rfl'
theorem FP:(["program","state"]:List Str).all (aD (cj p 38).sc)=true:=by rfl'
theorem FQ:cr (an p) (.sta 1096)=true:=by rfl'
theorem FN:noStar (caA (fY p))=true:=by rfl'
theorem FM:bG (caF (fY p))=false:=by rfl'
theorem FO:noStar [.Call (caF (fY p)) (caA (fY p)) [] (Expr.pos (fY p)),rF p]=true:=by rfl'
theorem FR:∀ v,E6 v→am (v.e (cj p 38) (lS bg wd fi ke go aa pa (.sta da) ra) (caF (fY p)) ⟨lwW c seed ys,3⟩)=([([],[],.sta 1096,⟨lwW c seed ys,3⟩)]:LE):=by rintro _ rfl; rfl'
theorem FT:∀ v,E6 v→bw (v.es (cj p 38) (lS bg wd fi ke go aa pa (.sta da) ra) (caA (fY p)) ⟨lwW c seed ys,3⟩)=([([],[],[.sta ra,.uint bg,.uint wd],⟨lwW c seed ys,3⟩)]:LEs):=by rintro _ rfl; rfl'
theorem FS:∀ v,E6 v→am (v.e (cj p 38) (lS bg wd fi ke go aa pa (.sta da) ra) (rF p) ⟨lwW c seed ys,3⟩)=([([],[],.ref 3,⟨jT c seed ys,12⟩)]:LE):=by rintro _ rfl; rfl'
end
end
section
noncomputable abbrev jv (p:Params)(d:Nat):Cx:=⟨aK p 1127,[("pen",10)],d⟩
noncomputable def IE (c seed:Int)(ys:List Int):Hp:=[(8,eP 9 c seed),(9,.ro (.ilist ys)),(10,.cell (some (.ref 8)))]
noncomputable def lwZ (m:M)(c seed:Int)(ys:List Int):Hp:=mH m 0++(roH++IE c seed ys)
noncomputable def dX (bg fi:Int)(aa pa ga:Addr)(sv:SV):Loc:=[("begin",.uint bg),("first",.uint fi),("arguments",.sta aa),("parts",.sta pa),("deep",sv),("program",.sta ga),("state",.ref 0)]
noncomputable def mP (m:M)(k:Nat)(v:Int):M:=⟨m.R.set k (wr v),m.f,m.n,m.rip⟩
noncomputable def CD:SO:=.list gp8
noncomputable def DK (nm:Str)(k:Int):SO:=.inst 279 [("name",.str nm),("kind",.str "gpr"),("number",.int k),("size",.int 64)]
section
variable (p:Params)(m:M)(c seed bg fi:Int)(ys:List Int)(aa pa ga da:Addr)
theorem I5:∀ v,E6 v→aq (v.s (jv p 38) (dX bg fi aa pa ga (.sta da)) (ad 9 (lwB p)) ⟨lwZ m c seed ys,11⟩)=([([],[nCx c ys,nI m.R 3,nI m.R 3],.next,dX bg fi aa pa ga (.sta da),⟨(13,DK "rbx" 3)::(12,.list [])::(11,CD)::lwZ (mP m 3 (aV ys c seed)) (c+1) seed ys,14⟩)]:LS):=by rintro _ rfl; rfl'
theorem Go:∀ v,E6 v→aq (v.s (jv p 38) (dX bg fi aa pa ga (.sta da)) (ad 10 (lwB p)) ⟨lwZ m c seed ys,11⟩)=([([],[nCx c ys,nI m.R 5,nI m.R 5],.next,dX bg fi aa pa ga (.sta da),⟨(13,DK "rbp" 5)::(12,.list [])::(11,CD)::lwZ (mP m 5 (aV ys c seed)) (c+1) seed ys,14⟩)]:LS):=by rintro _ rfl; rfl'
theorem Gn:∀ v,E6 v→aq (v.s (jv p 38) (dX bg fi aa pa ga (.sta da)) (ad 11 (lwB p)) ⟨lwZ m c seed ys,11⟩)=([([],[nCx c ys,nI m.R 4,nI m.R 4],.next,dX bg fi aa pa ga (.sta da),⟨(13,DK "rsp" 4)::(12,.list [])::(11,CD)::lwZ (mP m 4 (32768+8*(aV ys c seed).fmod 4)) (c+1) seed ys,14⟩)]:LS):=by rintro _ rfl; rfl'
theorem Gm:∀ v,E6 v→aq (v.s (jv p 38) (dX bg fi aa pa ga (.sta da)) (ad 12 (lwB p)) ⟨lwZ m c seed ys,11⟩)=([([],nI m.R 4::nCx c ys::(nWr m.n++nWr (m.n+8)),.next,dX bg fi aa pa ga (.sta da),⟨(11,.rng 0 16)::lwZ ⟨m.R,wrN m.f (rg m.R 4) (aV ys c seed) 16,m.n+16,m.rip⟩ (c+1) seed ys,12⟩)]:LS):=by rintro _ rfl; rfl'
end
end
section
noncomputable def Bq (bg fi:Int)(aa pa ga:Addr)(sv:SV):Loc:=[("begin",.uint bg),("first",.uint fi),("arguments",.sta aa),("parts",.sta pa),("deep",sv),("program",.sta ga),("state",.ref 3)]
noncomputable def m00:M:=⟨[0,0,0,0,0,0,0,0,0,0,0,0,0,0,0,0],fun _=>0,0,0⟩
noncomputable def iE (c seed:Int)(ys:List Int):Hp:=(11,.ro sgO)::(10,.mem (fun _=>0) 0)::(9,.inst 394 [("held",.ref 10)])::(8,.ro flO)::(7,.ro (.list zer))::(6,.list [.int 0])::(5,.ilist m00.R)::(4,.list [.int 0])::(3,.inst 511 [("iset",.none),("regs",.ref 5),("xmm",.ref 7),("flags",.ref 8),("memory",.ref 9),("rip",.uint 0),("begin",.uint 0),("segments",.ref 11),("is_halted",.bool false)])::lwW c seed ys
noncomputable def osN:List Nat:=[3,5,7,8,9,10,11,4,0,1,2]
noncomputable def zu:List Nat:=[0,1,4,5,2,3,6,8,9,10]
theorem y6 (c seed:Int)(ys:List Int):dn osN (iE c seed ys) zu=lwZ m00 c seed ys:=by rfl'
theorem CY (bg wd fi ke go:Int)(aa pa ga da ra:Addr):de ["begin","first","arguments","parts","deep","program","state"] (jn (["program","state"]:List Str).reverse [SV.sta ga,.ref 3].reverse (lS bg wd fi ke go aa pa (.sta da) ra))=Bq bg fi aa pa ga (.sta da):=by rfl'
section
theorem xz {q:Addr×Addr}{zs:List SV}{l:List Int}(O:OkO ρ h q (.list zs))(e:lm zs=some l):OkO ρ h q (.ilist l):=by
 obtain ⟨vs,cc,ho,hv⟩:=O
 exact ⟨vs,cc,ho,f9 e hv⟩
theorem zQ (a:At F ρ ⟨aW [7,8,11] (jT c seed ys),n⟩ s):At F ρ ⟨iE c seed ys,n⟩ s:=by
 refine a.view (by rfl) fun e he=>?_
 have hm:∀ e∈aW [7,8,11] (jT c seed ys),∃ q,ρ[e.1]?=some q∧OkO ρ s.heap q e.2:=a.rep.ok
 simp only [iE,List.mem_cons] at he
 rcases he with rfl | rfl | rfl | rfl | rfl | rfl | rfl | rfl | rfl | he
 ·exact .inl (.head _)
 ·obtain ⟨q,hq,ns,ep',ho'⟩:=hm (10,.edict) (.tail _ (.head _))
  exact .inr ⟨fun o z=>(by cases z),q,hq,ns,[],⟨_,#[],ep',ho',⟨rfl,rfl,rfl⟩,rfl,(fun e he=>by simp at he),.nil,.nil⟩,Nat.le_refl _,fun i=>rfl⟩
 ·exact .inl (.tail _ (.tail _ (.head _)))
 ·exact .inl (.tail _ (.tail _ (.tail _ (.head _))))
 ·exact .inl (.tail _ (.tail _ (.tail _ (.tail _ (.head _)))))
 ·exact .inl (.tail _ (.tail _ (.tail _ (.tail _ (.tail _ (.head _))))))
 ·obtain ⟨q,hq,O⟩:=hm (5,.list zer) (.tail _ (.tail _ (.tail _ (.tail _ (.tail _ (.tail _ (.head _)))))))
  exact .inr ⟨fun o z=>(by cases z),q,hq,xz O (by rfl')⟩
 ·exact .inl (.tail _ (.tail _ (.tail _ (.tail _ (.tail _ (.tail _ (.tail _ (.head _))))))))
 ·obtain ⟨q,hq,O⟩:=hm (3,_) (.tail _ (.tail _ (.tail _ (.tail _ (.tail _ (.tail _ (.tail _ (.tail _ (.head _)))))))))
  have O2:=hG.mpr O
  exact .inr ⟨fun o z=>(by cases z),q,hq,hG.mp (show OkO ρ s.heap q (lP (.inst 511 [("iset",.none),("regs",.ref 5),("xmm",.ref 7),("flags",.ref 8),("memory",.ref 9),("rip",.uint 0),("begin",.uint 0),("segments",.ref 11),("is_halted",.bool false)])) from O2)⟩
 ·exact .inl (.tail _ (.tail _ (.tail _ (.tail _ (.tail _ (.tail _ (.tail _ (.tail _ (.tail _ he)))))))))
end
end
section
theorem kP {begin wide:Int}{j:Nat}:plA begin wide j<plA begin wide (j+1):=
 Int.lt_of_lt_of_le (Int.lt_succ _) (Int.le_add_of_nonneg_right (Int.fmod_nonneg_of_pos (wide+(j:Int)*(j:Int)) (b:=5) (by decide)))
theorem Cg {begin wide:Int}{k j:Nat}(h:k<j):plA begin wide k<plA begin wide j:=by
 induction j with
 | zero=>exact absurd h (Nat.not_lt_zero _)
 | succ j ih=>exact (Nat.lt_or_eq_of_le (Nat.le_of_lt_succ h)).elim (fun q=>Int.lt_trans (ih q) kP) fun e=>e▸kP
theorem Ch {begin wide:Int}(k:Nat):begin≤plA begin wide k∧plA begin wide k≤begin+5*(k:Int):=by
 induction k with
 | zero=>exact ⟨Int.le_refl _,Int.le_of_eq (Int.add_zero _).symm⟩
 | succ k ih=>
  refine ⟨Int.le_of_lt (Int.lt_of_le_of_lt ih.1 kP),?_⟩
  have h1:=Int.fmod_lt_of_pos (wide+(k:Int)*(k:Int)) (b:=5) (by decide)
  have h2:=ih.2
  show plA begin wide k+1+(wide+(k:Int)*(k:Int)).fmod 5≤begin+5*((k:Int)+1)
  clear ih
  generalize plA begin wide k=y at *
  generalize (wide+(k:Int)*(k:Int)).fmod 5=z at *
  omega
theorem wc {L:List PR}{begin wide:Int}{k:Nat}{x:PR}(hx:L[k]?=some x){n:Nat}(h:k<n):dM L (plA begin wide) n (plA begin wide k)=some (plA begin wide (k+1) - plA begin wide k,fJ (plA begin wide) L.length k x):=by
 induction n with
 | zero=>exact absurd h (Nat.not_lt_zero _)
 | succ n ih=>
  unfold dM
  rcases Nat.lt_or_eq_of_le (Nat.le_of_lt_succ h) with q | q
  ·rw [if_neg (Int.ne_of_lt (Cg q))]
   exact ih q
  ·subst q
   rw [if_pos rfl,hx]; rfl
theorem AT {L:List PR}{begin wide:Int}(h0:0≤begin)(h1:begin<9223372036854775808)(hl:L.length≤1000):Code (dM L (plA begin wide) L.length) (plA begin wide) L where
 row:=fun k x hx=>wc hx (List.getElem?_eq_some_iff.mp hx).1
 lim:=fun k hk=>by
  have:=Ch (begin:=begin) (wide:=wide) k
  exact ⟨Int.le_trans h0 this.1,Int.lt_of_le_of_lt this.2 (Int.lt_of_le_of_lt (Int.add_le_add_left (Int.mul_le_mul_of_nonneg_left (Int.ofNat_le.mpr (Nat.le_trans hk hl)) (by decide)) begin) (Int.lt_trans (Int.add_lt_add_right h1 _) (by decide)))⟩
end
section
theorem ug {n k m:Nat}(hn:9≤n){x:bo}(hg:ec m x):∀ r∈aO x,oA n k r:=by
 intro r hr
 cases x with
 | deep sp sc far=>
  obtain ⟨_,h1,h2⟩:=hg
  have h1:0≤sc:=h1
  have h2:sc≤8:=h2
  rcases CM hr with rfl | rfl | rfl | rfl | rfl
  ·exact (by decide:(0:Int)≤0∧(0:Int)<16)
  ·exact (by decide:(0:Int)≤1∧(1:Int)<16)
  ·exact ⟨.inl rfl,by omega,by omega⟩
  ·exact (by decide:(0:Int)≤11∧(11:Int)<16)
  ·exact ⟨(by decide:(0:Int)≤0∧(0:Int)<16),(by decide:(0:Int)≤0∧(0:Int)<16),(by decide:(0:Int)≤11∧(11:Int)<16),h1,by omega⟩
 | arg j sc far=>
  obtain ⟨⟨_,h9⟩,h1,h2⟩:=hg
  have h1:0≤sc:=h1
  have h2:sc≤8:=h2
  have hj:bX (ct j):=(by unfold bX; decide:∀ j,j<9→bX (ct j)) j (by omega)
  have hr:r∈(if j≤5 then [PR.ins (.lea 0 0 (ct j) sc far)] else [PR.ins (.movM 10 5 (16+8*((j:Int) - 6))),PR.ins (.lea 0 0 10 sc far)]):=hr
  split at hr
  ·simp only [List.mem_cons,List.not_mem_nil,or_false] at hr
   subst hr
   exact ⟨(by decide:(0:Int)≤0∧(0:Int)<16),(by decide:(0:Int)≤0∧(0:Int)<16),hj,h1,by omega⟩
  ·rcases fb hr with rfl | rfl
   ·exact ⟨(by decide:(0:Int)≤10∧(10:Int)<16),(by decide:(0:Int)≤5∧(5:Int)<16)⟩
   ·exact ⟨(by decide:(0:Int)≤0∧(0:Int)<16),(by decide:(0:Int)≤0∧(0:Int)<16),(by decide:(0:Int)≤10∧(10:Int)<16),h1,by omega⟩
theorem wa {n k m:Nat}{ps:List bo}{fi ke go d0 d1 d2:Int}(hn:9≤n)(hg:∀ x∈ps,ec m x)(h1:0≤d1)(h2:d1≤8):∀ r∈bH ps fi ke go++bJ d0 d1 d2,oA n k r:=by
 intro r hr
 unfold bH at hr
 rw [List.mem_append,List.mem_append,List.mem_append,List.mem_flatMap] at hr
 rcases hr with ((hr | ⟨x,hx,hr⟩) | hr) | hr
 ·rcases CM hr with rfl | rfl | rfl | rfl | rfl
  ·exact ⟨by decide,by decide⟩
  ·exact ⟨⟨by decide,by decide⟩,⟨by decide,by decide⟩⟩
  ·exact ⟨by decide,by decide⟩
  ·exact ⟨by decide,by decide⟩
  ·exact ⟨by decide,by decide⟩
 ·exact ug hn (hg x hx) r hr
 ·rcases gx hr with rfl | rfl | rfl
  ·exact ⟨by decide,by decide⟩
  ·trivial
  ·show lH (if decide (0<go) then .retI go else .ret)
   split<;>trivial
 ·rcases IS hr with rfl | rfl | rfl | rfl | rfl | rfl | rfl | rfl | rfl
  ·exact ⟨.inr rfl,by omega,by omega⟩
  ·exact ⟨by decide,by decide⟩
  ·exact ⟨⟨by decide,by decide⟩,⟨by decide,by decide⟩⟩
  ·exact ⟨.inl rfl,by omega,by omega⟩
  ·exact ⟨by decide,by decide⟩
  ·exact ⟨⟨by decide,by decide⟩,⟨by decide,by decide⟩,⟨by decide,by decide⟩,h1,by omega⟩
  ·trivial
  ·exact ⟨by decide,by decide⟩
  ·trivial
end
section
section
variable {go:Int}{L L':List PR}
theorem CX {Q:Value→Shared→Prop}{v:Ev}(S:aG v)(hv:v=ev (an p) pN 60){fx e2:Expr}{ax:List Expr}{cp tp:Pos}{kk:Nat}(h1:fx=caF (fY p))(h2:ax=caA (fY p))(h3:e2=rF p)(rm:aj 39 A)(at':At F [q0,q1,q2] ⟨lwW c seed ys,3⟩ s)(fm:Fm F [q0,q1,q2] (lwW c seed ys) (cj p 38) env (lS bg wd fi ke go aa pa (.sta da) ra) s.heap)(hR:d9 F ra L)(hL:L.length≤99)(hok:∀ k x,L[k]?=some x→oA L.length k x)
  (h:∀ F' s' ga C τ,To [] F [q0,q1,q2] ⟨lwW c seed ys,3⟩ s F' (([q0,q1,q2]++τ)++[(C,0)]) ⟨(12,.tup [.sta ga,.ref 3])::jT c seed ys,13⟩ s'→dB F' ga (dM L (plA bg wd) L.length)→Q (.ref C) s'):wpAny (model prog w) A (eval (.Tuple [.Call fx ax [] cp,e2] kk tp) env) Q E s:=by
 subst h1 h2 h3
 have nl:=@noA env.locals
 have e1:=FR p c seed bg wd fi ke go ys aa pa ra da v hv
 have e2:=FT p c seed bg wd fi ke go ys aa pa ra da v hv
 have e3:=FS p c seed bg wd fi ke go ys aa pa ra da v hv
 have ns:noStar [.Call (caF (fY p)) (caA (fY p)) [] cp,rF p]=true:=FO p
 have n1:=bz ns env
 have rm':aj 38 A:=rm.down (by omega)
 refine wpAny_Tuple (wpAny_items_cons (br S rm' at' fm (FN p) (a8 (FM p)) (FQ p) (ac _ e1 noP rfl) (ac _ e2 noP rfl) fun F₁ ρ₁ s₁ fv vs T₁ ifv ivs=>?_) n1.1)
 have q1':=aU T₁ rfl
 subst q1'
 cases ifv
 obtain ⟨v0,v1,v2,rfl,rfl,⟨t1,rfl⟩,⟨t2,rfl⟩⟩:=ivs.inv3
 refine zf rm T₁.at'.bare (hR.mono T₁.ext.fz) hL hok fun F₂ s₂ ga T₂ hP=>?_
 have T₃:=T₁.trans (T₂.lift T₁.at')
 refine wpAny_items_cons ?_ (bz n1.2 env).1
 refine S.e rm' T₃.at' (fm.to T₃ nl) (ac _ e3 noP fun F₄ ρ₄ s₄ xv T₄ ix=>wpAny_items_nil ?_)
 dsimp only at T₄ ix
 obtain ⟨τ,eτ⟩:=T₄.ext.pre
 subst eτ
 obtain ⟨q,hq,rfl⟩:=ix
 refine ⟨(by show 2≤sizeLine; decide),?_⟩
 have T₅:=T₃.trans T₄
 have hvs:ag (SV.Is ([q0,q1,q2]++τ)) [.sta ga,.ref 3] (#[.ref ga,.ref q.1]:Array Value).toList:=.cons rfl (.cons ⟨q,hq,rfl⟩ .nil)
 have T₆:=(To.alloc (tk:=s₄.toks) T₅.at' (so:=.tup [.sta ga,.ref 3]) rfl bN (qO hvs)).1
 exact h _ _ ga _ τ (T₅.trans T₆) (hP.mono T₄.ext.fz)
end
end
section
section
variable {go:Int}{L L':List PR}
theorem Fm.reb {cx':Cx}{os ord:List Nat}(at':At F ρ ⟨σ,n⟩ s)(fm:Fm F ρ σ cx env m h)(hs:cx'.sc=cx.sc)(hc:∀ x k',af x cx'.cells=some k'→∃ k,af x cx.cells=some k∧os[k']?=some k)(hm:ni os m=some m'):Fm F (bY ρ os) (dn os σ ord) cx' env m' h:=by
 obtain ⟨g,hg,hr⟩:=fm.ns
 refine ⟨⟨by rw [hs]; exact fm.eok.sc,fm.eok.gl,fm.eok.bu,by rw [hs]; exact fm.eok.kd,fun x k' e=>?_⟩,⟨g,hg,fun x sv' e=>?_⟩,fun z=>?_,fm.free⟩
 ·obtain ⟨k,e1,e2⟩:=hc x k' e
  obtain ⟨q,hq,hl⟩:=fm.eok.cel x k e1
  refine ⟨q,?_,hl⟩
  unfold bY
  rw [List.getElem?_map,e2]
  simp [List.getD,hq]
 ·rcases mq (x:=x) hm with ⟨_,e2⟩ | ⟨a,b,e1,e2,e3⟩
  ·rw [e] at e2; cases e2
  ·rw [e] at e2; cases e2
   obtain ⟨v,hv,i⟩:=hr x a e1
   exact ⟨v,hv,i.ren e3⟩
 ·obtain ⟨k,_,o,q,h1,h2,h3⟩:=iT at' _ z
  exact fm.out (aw.mpr ⟨_,h1,q,h2,h3⟩)
theorem mL {ρ:Rho}(c seed:Int)(ys:List Int):ae ρ (iE c seed ys)=ae ρ (aW [7,8,11] (jT c seed ys)):=by rfl
set_option maxHeartbeats 1000000 in
theorem C2 {Q:Flow→Shared→Prop}(rm:aj 39 A)(at':At F [q0,q1,q2] ⟨lwW c seed ys,3⟩ s)(fm:Fm F [q0,q1,q2] (lwW c seed ys) (cj p 38) env (lS bg wd fi ke go aa pa (.sta da) ra) s.heap)(hR:d9 F ra L)(hL:L.length≤99)(hok:∀ k x,L[k]?=some x→oA L.length k x)
  (h:∀ F' s' ga ρ',ToU [env.locals] F [q0,q1,q2] ⟨lwW c seed ys,3⟩ s F' ρ' ⟨lwZ m00 c seed ys,11⟩ s'→Fm F' ρ' (lwZ m00 c seed ys) (jv p 38) env (dX bg fi aa pa ga (.sta da)) s'.heap→dB F' ga (dM L (plA bg wd) L.length)→Q .next s'):wpAny (model prog w) A (exec (ad 8 (lwB p)) env) Q E s:=by
 obtain ⟨v,hv,S⟩:=dj
 have nl:=@noA env.locals
 have e2:=FL p
 rw [I6 p]
 obtain ⟨fx,h1⟩:∃ x,x=caF (fY p):=⟨_,rfl⟩
 obtain ⟨ax,h2⟩:∃ x,x=caA (fY p):=⟨_,rfl⟩
 obtain ⟨sx,h3⟩:∃ x,x=rF p:=⟨_,rfl⟩
 rw [←h1,←h2,←h3] at e2 ⊢
 refine hS (m:=lS bg wd fi ke go aa pa (.sta da) ra) (cx:=cj p 38) (names:=["program","state"]) rm.hand rfl fm.eok.sc e2 (FP p) ?_
 refine CX S hv h1 h2 h3 rm at' fm hR hL hok fun F₁ s₁ ga C τ T₁ hP=>?_
 have fm₁:=fm.to T₁ nl
 refine ⟨F₁,_,_,12,[.sta ga,.ref 3],T₁.at',fm₁,⟨(C,0),?_,rfl⟩,by rfl,rfl,fun s₂ T₂ fm₂=>?_⟩
 ·have:=T₁.at'.len
  rw [List.length_append] at this
  have hl:([q0,q1,q2]++τ).length=12:=by
   have z:([q0,q1,q2]++τ).length+1=13:=this
   omega
  rw [List.getElem?_append_right (by omega),hl]; rfl
 have hl:([q0,q1,q2]++τ).length=12:=by
  have:=T₁.at'.len
  rw [List.length_append] at this
  have z:([q0,q1,q2]++τ).length+1=13:=this
  omega
 have T₃:To [env.locals] F [q0,q1,q2] ⟨lwW c seed ys,3⟩ s F₁ ([q0,q1,q2]++τ) ⟨jT c seed ys,12⟩ s₂:=((T₁.nil (X:=[env.locals])).trans T₂).trim (ρ:=[q0,q1,q2]++τ) (τ:=[(C,0)]) (n:=12) hl (by rfl) ⟨τ,rfl⟩
 have fm₃:Fm F₁ ([q0,q1,q2]++τ) (jT c seed ys) (cj p 38) env (Bq bg fi aa pa ga (.sta da)) s₂.heap:=Fm.trim (ρ:=[q0,q1,q2]++τ) (τ:=[(C,0)]) (n:=12) (fm₂.pick _ (CY _ _ _ _ _ _ _ _ _ _)) hl (by rfl) (by rfl)
 obtain ⟨F₂,hsub,hout,T₄⟩:=T₃.freezeX at' [7,8,11] (by rfl)
 have fm₄:=(fm₃.frz (ids:=[7,8,11]) hout).sub (σ':=iE c seed ys) (by rw [mL]; exact fun _ z=>z)
 have a₅:At F₂ ([q0,q1,q2]++τ) ⟨iE c seed ys,12⟩ s₂:=zQ T₄.at'
 have a₆:=a₅.reb (os:=osN) (ord:=zu) (by rfl) (by rfl) (by rfl)
 have fm₆:=Fm.reb (os:=osN) (ord:=zu) (cx':=jv p 38) (m':=dX bg fi aa pa ga (.sta da)) a₅ fm₄ rfl (fun x k' e=>by
  unfold af at e
  split at e
  ·rename_i q; rw [aQ] at q; cases e; subst q; exact ⟨2,by rfl,rfl⟩
  ·cases e) (by rfl)
 have hfo:∀ a∈ae (bY ([q0,q1,q2]++τ) osN) (dn osN (iE c seed ys) zu),a∈ae ([q0,q1,q2]++τ) (aW [7,8,11] (jT c seed ys)):=fun a ha=>by
  obtain ⟨k,_,o,q,h1,h2,h3⟩:=iT a₅ _ ha
  rw [←mL]
  exact aw.mpr ⟨_,h1,q,h2,h3⟩
 have T₅:=T₄.u.sub a₆ hfo
 rw [y6] at T₅ fm₆
 exact h F₂ s₂ ga _ T₅ fm₆ (hP.mono hsub)
end
end
section
theorem mZ {n:Nat}{r:Res (Fl×Loc×St)}{as nd:List Prop}{fl:Fl}{L:Loc}{st:St}(e:aq r=[(as,nd,fl,L,st)]):trS n r=[(as,nd,fl,L,trim n st.σ)]:=by
 have:trS n r=(aq r).map fun q=>(q.1,q.2.1,q.2.2.1,q.2.2.2.1,trim n q.2.2.2.2.σ):=by
  unfold trS aq
  rw [List.map_map]; rfl
 rw [this,e]; rfl
noncomputable def lwM (a b d r:Int):M:=
 let m:=mP (mP (mP m00 3 a) 5 b) 4 (32768+8*d.fmod 4)
 ⟨m.R,wrN m.f (rg m.R 4) r 16,m.n+16,m.rip⟩
theorem DB (a b d r:Int):MG (lwM a b d r)∧(500≤rg (lwM a b d r).R 4∧rg (lwM a b d r).R 4<4294967000)∧wr (rg (lwM a b d r).R 3)=rg (lwM a b d r).R 3∧wr (rg (lwM a b d r).R 5)=rg (lwM a b d r).R 5∧(lwM a b d r).n=16:=by
 have h0:=Int.fmod_nonneg_of_pos d (b:=4) (by decide)
 have h1:=Int.fmod_lt_of_pos d (b:=4) (by decide)
 have e4:rg (lwM a b d r).R 4=32768+8*d.fmod 4:=by
  show wr (32768+8*d.fmod 4)=_
  exact bL (by omega) (by omega)
 refine ⟨⟨rfl,fun i=>iO (fun _=>(by decide:(0:Int)≤0∧(0:Int)<256)) 16 i⟩,by rw [e4]; omega,?_,?_,rfl⟩
 ·show wr (wr a)=wr a; exact dy a
 ·show wr (wr b)=wr b; exact dy b
section
variable {go:Int}{L L':List PR}
theorem nK {v:Ev}{mm mm':M}{c':Int}{σ':Hp}{stm:Stmt}{nd:List Prop}{n':Nat}{Q:Flow→Shared→Prop}(S:aG v)(rm:aj 38 A)(at':At F ρ ⟨lwZ mm c seed ys,11⟩ s)(fm:Fm F ρ (lwZ mm c seed ys) (jv p 38) env (dX bg fi aa pa ga (.sta da)) s.heap)
  (e:aq (v.s (jv p 38) (dX bg fi aa pa ga (.sta da)) stm ⟨lwZ mm c seed ys,11⟩)=([([],nd,.next,dX bg fi aa pa ga (.sta da),⟨σ',n'⟩)]:LS)) (hn:∀ P∈nd,P) (et:trim 11 σ'=lwZ mm' c' seed ys)
  (h:∀ F' s',To [env.locals] F ρ ⟨lwZ mm c seed ys,11⟩ s F' ρ ⟨lwZ mm' c' seed ys,11⟩ s'→Fm F' ρ (lwZ mm' c' seed ys) (jv p 38) env (dX bg fi aa pa ga (.sta da)) s'.heap→Q .next s'):wpAny (model prog w) A (exec stm env) Q E s:=by
 have e':=mZ (n:=11) e
 dsimp only at e'
 rw [et] at e'
 refine iB S rm at' fm e' hn (by rfl') (by rfl') (by rfl) fun F' ρ' s' f T fm' hf=>?_
 cases hf
 exact h F' s' T fm'
theorem zU {b9 b10 b11 b12:Stmt}{Q:Flow→Shared→Prop}{sts:List Stmt}(h9:b9=ad 9 (lwB p))(h10:b10=ad 10 (lwB p))(h11:b11=ad 11 (lwB p))(h12:b12=ad 12 (lwB p))(rm:aj 38 A)(at':At F ρ ⟨lwZ m00 c seed ys,11⟩ s)(fm:Fm F ρ (lwZ m00 c seed ys) (jv p 38) env (dX bg fi aa pa ga (.sta da)) s.heap)(hc:0≤c)(hy:ys.length≤63)
  (h:∀ F' s' c' x y d r,To [env.locals] F ρ ⟨lwZ m00 c seed ys,11⟩ s F' ρ ⟨lwZ (lwM x y d r) c' seed ys,11⟩ s'→Fm F' ρ (lwZ (lwM x y d r) c' seed ys) (jv p 38) env (dX bg fi aa pa ga (.sta da)) s'.heap→wpAny (model prog w) A (execs sts env) Q E s'):wpAny (model prog w) A (execs (b9::b10::b11::b12::sts) env) Q E s:=by
 obtain ⟨v,hv,S⟩:=dj
 have e9:=fun m c=>I5 p m c seed bg fi ys aa pa ga da v hv
 have e10:=fun m c=>Go p m c seed bg fi ys aa pa ga da v hv
 have e11:=fun m c=>Gn p m c seed bg fi ys aa pa ga da v hv
 have e12:=fun m c=>Gm p m c seed bg fi ys aa pa ga da v hv
 rw [←h9] at e9
 rw [←h10] at e10
 rw [←h11] at e11
 rw [←h12] at e12
 have hy':ys.length≤100000:=by omega
 have nI':∀ {R:List Int} {i:Int},R.length=16→bX i→nI R i:=fun l r=>aR l r
 refine wpAny_execs_cons (nK S rm at' fm (e9 _ _) (fun P hP=>?_) (mm':=mP m00 3 (aV ys c seed)) (c':=c+1) (by rfl') fun F₁ s₁ T₁ fm₁=>?_)
 ·exact bC hP (⟨hc,hy'⟩) fun hP=>bC hP (nI' rfl ⟨by decide,by decide⟩) fun hP=>bC hP (nI' rfl ⟨by decide,by decide⟩) fun hP=>nomatch hP
 generalize aV ys c seed=x at *
 have hc1:0≤c+1:=by omega
 generalize c+1=c1 at *
 refine wpAny_execs_cons (nK S rm T₁.at' fm₁ (e10 _ _) (fun P hP=>?_) (mm':=mP (mP m00 3 x) 5 (aV ys c1 seed)) (c':=c1+1) (by rfl') fun F₂ s₂ T₂ fm₂=>?_)
 ·exact bC hP (⟨hc1,hy'⟩) fun hP=>bC hP (nI' rfl ⟨by decide,by decide⟩) fun hP=>bC hP (nI' rfl ⟨by decide,by decide⟩) fun hP=>nomatch hP
 generalize aV ys c1 seed=y at *
 have hc2:0≤c1+1:=by omega
 generalize c1+1=c2 at *
 refine wpAny_execs_cons (nK S rm T₂.at' fm₂ (e11 _ _) (fun P hP=>?_) (mm':=mP (mP (mP m00 3 x) 5 y) 4 (32768+8*(aV ys c2 seed).fmod 4)) (c':=c2+1) (by rfl') fun F₃ s₃ T₃ fm₃=>?_)
 ·exact bC hP (⟨hc2,hy'⟩) fun hP=>bC hP (nI' rfl ⟨by decide,by decide⟩) fun hP=>bC hP (nI' rfl ⟨by decide,by decide⟩) fun hP=>nomatch hP
 generalize aV ys c2 seed=d at *
 have hc3:0≤c2+1:=by omega
 generalize c2+1=c3 at *
 refine wpAny_execs_cons (nK S rm T₃.at' fm₃ (e12 _ _) (fun P hP=>?_) (mm':=lwM x y d (aV ys c3 seed)) (c':=c3+1) (by rfl') fun F₄ s₄ T₄ fm₄=>?_)
 ·rcases aJ hP with rfl | hP
  ·exact nI' rfl ⟨by decide,by decide⟩
  ·rcases aJ hP with rfl | hP
   ·exact ⟨hc3,hy'⟩
   ·rcases fD hP with hP | hP
    ·exact lb (n:=0) (by decide) P hP
    ·exact lb (n:=8) (by decide) P hP
 exact h F₄ s₄ _ x y d _ (T₁.trans (T₂.trans (T₃.trans T₄))) fm₄
end
end
section
noncomputable abbrev cO (p:Params)(d:Nat):Cx:=⟨aK p 1127,[],d⟩
noncomputable def lwR (m:M)(b:Int):Hp:=mH m b++roH
noncomputable def lR (bg fi mn:Int)(aa pa ga da:Addr):Loc:=dX bg fi aa pa ga (.sta da)++([("many",.uint mn)]:Loc)
noncomputable def Ab (bg fi mn:Int)(pa ga da:Addr)(sv:SV):Loc:=[("begin",.uint bg),("first",.uint fi),("parts",.sta pa),("deep",.sta da),("program",.sta ga),("state",.ref 0),("many",.uint mn),("arguments",sv)]
noncomputable def pC (bg fi mn:Int)(pa ga da:Addr)(sv:SV):Loc:=[("begin",.uint bg),("first",.uint fi),("parts",.sta pa),("deep",.sta da),("program",.sta ga),("state",.ref 0),("many",.uint mn),("others",sv)]
noncomputable abbrev cf (p:Params):Expr:=unE (di (ad 14 (lwB p)))
noncomputable abbrev ce (p:Params):Expr:=aI (ad 16 (lwB p))
noncomputable abbrev fN (p:Params):Expr:=aI (ad 15 (lwB p))
noncomputable abbrev mA (p:Params):Scope:=hH (aK p 1127) (fN p)
noncomputable abbrev nN (p:Params)(d:Nat):Cx:=⟨rlS (mA p) (aK p 1127),[],d⟩
noncomputable def eZ (xs:List Int):List Int:=iq xs none none (some (-1))
section
variable (p:Params)(m:M)(b bg fi mn i:Int)(xs:List Int)(zs:List SV)(aa oa pa ga da:Addr)
theorem Gl:ad 13 (lwB p)=.Assign [.Name "many" (ao (ci (ad 13 (lwB p))))] (.Call (caF (aI (ad 13 (lwB p)))) (caA (aI (ad 13 (lwB p)))) [] (Expr.pos (aI (ad 13 (lwB p))))) (aS (ad 13 (lwB p))):=by rfl'
theorem Dy:cr (an p) (.sta 1108)=true:=by rfl'
theorem Dv:noStar (caA (aI (ad 13 (lwB p))))=true:=by rfl'
theorem Du:bG (caF (aI (ad 13 (lwB p))))=false:=by rfl'
theorem Dx:aD (cO p 38).sc "many" = true:=by rfl'
theorem Dz:∀ v,E6 v→am (v.e (cO p 38) (dX bg fi aa pa ga (.sta da)) (caF (aI (ad 13 (lwB p)))) ⟨lwR m b,7⟩)=([([],[],.sta 1108,⟨lwR m b,7⟩)]:LE):=by rintro _ rfl; rfl'
theorem DA:∀ v,E6 v→bw (v.es (cO p 38) (dX bg fi aa pa ga (.sta da)) (caA (aI (ad 13 (lwB p)))) ⟨lwR m b,7⟩)=([([],[],[.sta pa],⟨lwR m b,7⟩)]:LEs):=by rintro _ rfl; rfl'
theorem Dw:dD "many" (.uint mn) (dX bg fi aa pa ga (.sta da))=lR bg fi mn aa pa ga da:=by rfl'
theorem Gk:ad 14 (lwB p)=.If (.UnaryOp .Not (.Call (caF (cf p)) ((caA (cf p)).take 4++.Call (caF (bc 4 (caA (cf p)))) (caA (bc 4 (caA (cf p)))) [] (Expr.pos (bc 4 (caA (cf p))))::(caA (cf p)).drop 5) [] (Expr.pos (cf p))) (Expr.pos (di (ad 14 (lwB p))))) (ah (ad 14 (lwB p))) [] (aS (ad 14 (lwB p))):=by rfl'
theorem Gi:ad 16 (lwB p)=.Return (some (.Call (caF (ce p)) ((caA (ce p)).take 4++.Call (caF (bc 4 (caA (ce p)))) (caA (bc 4 (caA (ce p)))) [] (Expr.pos (bc 4 (caA (ce p))))::(caA (ce p)).drop 5) [] (Expr.pos (ce p)))) (aS (ad 16 (lwB p))):=by rfl'
theorem FK:cr (an p) (.sta 1122)=true:=by rfl'
theorem FI:cr (an p) (.sta 1101)=true:=by rfl'
theorem Dm:noStar ((caA (cf p)).take 4++.Call (caF (bc 4 (caA (cf p)))) (caA (bc 4 (caA (cf p)))) [] (Expr.pos (bc 4 (caA (cf p))))::(caA (cf p)).drop 5)=true:=by rfl'
theorem C6:noStar ((caA (ce p)).take 4++.Call (caF (bc 4 (caA (ce p)))) (caA (bc 4 (caA (ce p)))) [] (Expr.pos (bc 4 (caA (ce p))))::(caA (ce p)).drop 5)=true:=by rfl'
theorem Dl:bG (caF (cf p))=false:=by rfl'
theorem C5:bG (caF (ce p))=false:=by rfl'
theorem Dq:bG (caF (bc 4 (caA (cf p))))=false:=by rfl'
theorem Da:bG (caF (bc 4 (caA (ce p))))=false:=by rfl'
theorem Dr:noStar (caA (bc 4 (caA (cf p))))=true:=by rfl'
theorem Db:noStar (caA (bc 4 (caA (ce p))))=true:=by rfl'
theorem Dn:∀ v,E6 v→am (v.e (cO p 38) (lR bg fi mn aa pa ga da) (caF (cf p)) ⟨lwR m b,7⟩)=([([],[],.sta 1122,⟨lwR m b,7⟩)]:LE):=by rintro _ rfl; rfl'
theorem Dp:∀ v,E6 v→((caA (cf p)).take 4).map (fun e=>am (v.e (cO p 38) (lR bg fi mn aa pa ga da) e ⟨lwR m b,7⟩))=[SV.ref 0,.sta ga,.uint bg,.sta aa].map (fun sv=>([([],[],sv,⟨lwR m b,7⟩)]:LE)):=by rintro _ rfl; rfl'
theorem Do:∀ v,E6 v→bw (v.es (cO p 38) (lR bg fi mn aa pa ga da) ((caA (cf p)).drop 5) ⟨lwR m b,7⟩)=([([],[],[.uint mn,.bool true],⟨lwR m b,7⟩)]:LEs):=by rintro _ rfl; rfl'
theorem Ds:∀ v,E6 v→am (v.e (cO p 38) (lR bg fi mn aa pa ga da) (caF (bc 4 (caA (cf p)))) ⟨lwR m b,7⟩)=([([],[],.sta 1101,⟨lwR m b,7⟩)]:LE):=by rintro _ rfl; rfl'
theorem Dt:∀ v,E6 v→bw (v.es (cO p 38) (lR bg fi mn aa pa ga da) (caA (bc 4 (caA (cf p)))) ⟨lwR m b,7⟩)=([([],[],[.sta pa,.uint fi,.sta aa,.sta da],⟨lwR m b,7⟩)]:LEs):=by rintro _ rfl; rfl'
theorem C7:∀ v,E6 v→am (v.e (cO p 38) (pC bg fi mn pa ga da (.sta oa)) (caF (ce p)) ⟨lwR m b,7⟩)=([([],[],.sta 1122,⟨lwR m b,7⟩)]:LE):=by rintro _ rfl; rfl'
theorem C9:∀ v,E6 v→((caA (ce p)).take 4).map (fun e=>am (v.e (cO p 38) (pC bg fi mn pa ga da (.sta oa)) e ⟨lwR m b,7⟩))=[SV.ref 0,.sta ga,.uint bg,.sta oa].map (fun sv=>([([],[],sv,⟨lwR m b,7⟩)]:LE)):=by rintro _ rfl; rfl'
theorem C8:∀ v,E6 v→bw (v.es (cO p 38) (pC bg fi mn pa ga da (.sta oa)) ((caA (ce p)).drop 5) ⟨lwR m b,7⟩)=([([],[],[.uint mn,.bool false],⟨lwR m b,7⟩)]:LEs):=by rintro _ rfl; rfl'
theorem Dc:∀ v,E6 v→am (v.e (cO p 38) (pC bg fi mn pa ga da (.sta oa)) (caF (bc 4 (caA (ce p)))) ⟨lwR m b,7⟩)=([([],[],.sta 1101,⟨lwR m b,7⟩)]:LE):=by rintro _ rfl; rfl'
theorem Dd:∀ v,E6 v→bw (v.es (cO p 38) (pC bg fi mn pa ga da (.sta oa)) (caA (bc 4 (caA (ce p)))) ⟨lwR m b,7⟩)=([([],[],[.sta pa,.uint fi,.sta oa,.sta da],⟨lwR m b,7⟩)]:LEs):=by rintro _ rfl; rfl'
theorem Gj:ad 15 (lwB p)=.Assign [.Name "others" (ao (ci (ad 15 (lwB p))))] (.ListComp (dO (fN p)) [⟨.Name "worth" (ao (gK (fN p))),bl (fN p),[],0⟩] (mA p) (ao (fN p))) (aS (ad 15 (lwB p))):=by rfl'
theorem Dg:((ao (ci (ad 15 (lwB p)))).line == (ao (fN p)).line)=true:=by rfl'
theorem Df:((mA p).names.any fun x=>x.1 == ("others" : Str)&&(x.2 == .local||x.2 == .cell))=false:=by rfl'
theorem wX:aD (cO p 38).sc "others" = true:=by rfl'
theorem Di:ei (bl (fN p))=true:=by rfl'
theorem nM:oX (mA p)=true:=by rfl'
theorem wW:(mA p).names=([(".0",.local),("worth",.local)]:List (Str×NameKind)):=by rfl'
theorem De:aD (nN p 38).sc "worth" = true:=by rfl'
theorem Dh:fu (nN p 38).sc=true:=by rfl'
theorem zW:de ["begin","first","parts","deep","program","state","many","arguments"] (lR bg fi mn aa pa ga da)=Ab bg fi mn pa ga da (.sta aa):=by rfl'
theorem zV (sv sw:SV):de ["begin","first","parts","deep","program","state","many","others"] (dD "others" sw (Ab bg fi mn pa ga da sv))=pC bg fi mn pa ga da sw:=by rfl'
theorem Dk:∀ v,E6 v→am (v.e (cO p 38) (Ab bg fi mn pa ga da (.ref 7)) (bl (fN p)) ⟨lwR m b++[(7,.ro (.ilist xs))],8⟩)=([([],[xs.length≤100000],.ref 8,⟨(8,.ilist (eZ xs))::(lwR m b++[(7,.ro (.ilist xs))]),9⟩)]:LE):=by rintro _ rfl; rfl'
theorem Dj:∀ v,E6 v→am (v.e (nN p 38) [("worth",.uint i)] (dO (fN p)) ⟨(9,.slist zs)::(8,.ro (.ilist (eZ xs)))::(lwR m b++[(7,.ro (.ilist xs))]),10⟩)=([([],[],.uint (3*i+1),⟨(9,.slist zs)::(8,.ro (.ilist (eZ xs)))::(lwR m b++[(7,.ro (.ilist xs))]),10⟩)]:LE):=by rintro _ rfl; rfl'
end
end
section
structure qK (m:M)(B:Nat):Prop where
 g:MG m
 top:500≤rg m.R 4∧rg m.R 4<4294967000
 r3:wr (rg m.R 3)=rg m.R 3
 r5:wr (rg m.R 5)=rg m.R 5
 n:m.n≤B
theorem AS {n:Nat}{x:bo}(h:ew n x):l5 x≤29:=by
 cases x with
 | deep a b c=>exact Nat.add_le_add_left (Nat.mul_le_mul_left 7 (Nat.le_of_lt_succ ((Int.toNat_lt h.1).mpr h.2))) 8
 | arg j b c=>
  show (if 5<j then 2 else 1)≤29
  split<;>decide
theorem xO {n:Nat}{ps:List bo}(h:∀ x∈ps,ew n x):d8 ps≤29*ps.length:=by
 induction ps with
 | nil=>exact Nat.le_refl _
 | cons x r ih=>exact Nat.le_trans (Nat.add_le_add (AS (h x (.head _))) (ih fun y hy=>h y (.tail _ hy))) (Nat.le_of_eq (Nat.add_comm ..))
theorem zP {P:Prg}{pl:Nat→Int}{ps:List bo}{first kept gone d0 d1 d2:Int}{args:List Int}{m:M}{B:Nat}(C:Code P pl (bH ps first kept gone++bJ d0 d1 d2))(hg:∀ x∈ps,ec args.length x)(hp:ps.length≤5)(hl:args.length≤9)(G:qK m B)(hB:B≤10000) :
  ∃ m',cZ P (d8 ps+8) (cY m args (pl 0)) m'∧(∃ m₁,cZ P (d8 ps+7) (cY m args (pl 0)) m₁∧m₁.rip≠RP)∧gR ps=((d8 ps+8:Nat):Int)∧m'.rip=RP∧m'.R.length=16∧(ps.foldl (aX d0 d1 d2) (fH args,first)).2.fmod 18446744073709551616=rg (m'.R.set 4 (rg m.R 4)) 0∧
   rg (m'.R.set 4 (rg m.R 4)) 3=rg m.R 3∧rg (m'.R.set 4 (rg m.R 4)) 5=rg m.R 5∧(∀ i,0≤m'.f i∧m'.f i<256)∧ocV m'.f (rg m.R 4)=ocV m.f (rg m.R 4)∧(∀ (i:Nat) wo,(gp args)[i]?=some wo→al8 m'.f (rg m.R 4) args.length (i:Nat)=wo.fmod me)∧
   m.n+8*(bF args).length+16≤100000∧(ck args).length≤100000∧(gp args).length≤100000∧qK ⟨m'.R.set 4 (rg m.R 4),m'.f,m'.n,m'.rip⟩ (B+1300):=by
 obtain ⟨g,hT,h3,h5,hn⟩:=G
 have hok:∀ x∈ps,ew args.length x:=fun x hx=>(hg x hx).1
 have hc:=xO hok
 obtain ⟨m',t,r,g',n',r0,r3,r5,k,kl,ts⟩:=I4 C hok hl g hT h3 h5 (Nat.le_trans (Nat.add_le_add (Nat.le_trans hn hB) (Nat.mul_le_mul_left 8 (Nat.add_le_add_right (Nat.le_trans hc (Nat.mul_le_mul_left 29 hp)) 12))) (by decide))
 have l:=g'.len
 have s0:rg (m'.R.set 4 (rg m.R 4)) 0=rg m'.R 0:=by rw [gE l (by decide),if_neg (by decide)]
 have s3:rg (m'.R.set 4 (rg m.R 4)) 3=rg m'.R 3:=by rw [gE l (by decide),if_neg (by decide)]
 have s5:rg (m'.R.set 4 (rg m.R 4)) 5=rg m'.R 5:=by rw [gE l (by decide),if_neg (by decide)]
 have s4:rg (m'.R.set 4 (rg m.R 4)) 4=rg m.R 4:=by rw [gE l (by decide),if_pos (by decide)]
 have ll:(gp args).length≤3:=by rw [pO hl,List.length_drop]; exact Nat.sub_le_sub_right hl 6
 refine ⟨m',t,ts,uY hok,r,l,by rw [s0,r0,mU],by rw [s3,r3],by rw [s5,r5],g'.oct,?_,fun i wo e=>?_,?_,Nat.le_trans ll (by decide),Nat.le_trans ll (by decide),⟨⟨by simp [l],g'.oct⟩,by show 500≤rg (m'.R.set 4 (rg m.R 4)) 4∧rg (m'.R.set 4 (rg m.R 4)) 4<4294967000; rw [s4]; exact hT,?_,?_,Nat.le_trans n' (Nat.add_le_add hn (Nat.le_trans (Nat.mul_le_mul_left 8 (Nat.add_le_add_right (Nat.le_trans hc (Nat.mul_le_mul_left 29 hp)) 12)) (by decide)))⟩⟩
 ·unfold ocV
  refine List.map_congr_left fun i hi=>?_
  rw [List.mem_range] at hi
  rw [bL (Int.add_nonneg (Int.le_trans (by decide) hT.1) (Int.natCast_nonneg i)) (Int.lt_trans (Int.add_lt_add hT.2 (Int.ofNat_lt.mpr hi)) (by decide))]
  exact k _ (Int.le_add_of_nonneg_right (Int.natCast_nonneg i))
 ·rw [pO hl] at e
  have z:=kl i wo e
  unfold al8
  rw [z,←mU]; rfl
 ·rw [i5 hl,List.length_reverse,List.length_drop]
  exact Nat.le_trans (Nat.add_le_add_right (Nat.add_le_add (Nat.le_trans hn hB) (Nat.mul_le_mul_left 8 (Nat.sub_le_sub_right hl 6))) 16) (by decide)
 ·show wr (rg (m'.R.set 4 (rg m.R 4)) 3)=rg (m'.R.set 4 (rg m.R 4)) 3
  rw [s3,r3,h3]
 ·show wr (rg (m'.R.set 4 (rg m.R 4)) 5)=rg (m'.R.set 4 (rg m.R 4)) 5
  rw [s5,r5,h5]
end
section
theorem kY (env:Env):∀ {as bs:List Expr},noStar (as++bs)=true→noStar bs=true
 | [],_,h=>h
 | x::as,bs,h=>kY env (as:=as) (bz h env).2
section
theorem rN {v:Ev}(S:aG v){pos:Pos}{rest:List Expr}(rm:aj cx.d A)(hl:ρ.length=st.nx){as:List Expr}{svs:List SV}{F:Fz}{s:Shared}{Q:List Value→Shared→Prop}(a:At F ρ st s)(fm:Fm F ρ st.σ cx env m s.heap)(e:as.map (fun e=>am (v.e cx m e st))=svs.map (fun sv=>([([],[],sv,st)]:LE)))(hn:noStar (as++rest)=true)
  (h:∀ F' s' vs,To [] F ρ st s F' ρ st s'→ag (SV.Is ρ) svs vs→wpAny (model prog w) A (spliced (backTo pos (starEach rest env))) (fun ws s''=>Q (vs++ws) s'') E s'):wpAny (model prog w) A (spliced (backTo pos (starEach (as++rest) env))) Q E s:=by
 induction as generalizing svs F s Q with
 | nil=>cases svs with
  | nil=>exact h F s [] (To.refl a) .nil
  | cons _ _=>exact (List.cons_ne_nil _ _ e.symm).elim
 | cons x as ih=>cases svs with
  | nil=>exact (List.cons_ne_nil _ _ e).elim
  | cons sv svs=>
   obtain ⟨e1,e2⟩:=List.cons.inj e
   have n1:=bz hn env
   refine wpAny_items_cons (S.e rm a fm (ac _ e1 noP (bS hl fun F₁ s₁ x₁ T₁ i₁=>?_))) n1.1
   exact ih T₁.at' (fm.to T₁ (fun z=>nomatch z)) e2 n1.2 fun F' s' vs T iv=>h F' s' (x₁::vs) (T₁.trans T) (.cons i₁ iv)
theorem r8 {v:Ev}(S:aG v){f c:Expr}{as bs:List Expr}{pos:Pos}{f0:SV}{svs svs':List SV}{Q:Value→Shared→Prop}{V:Value→Prop}(rm:aj cx.d A)(at':At F ρ st s)(fm:Fm F ρ st.σ cx env m s.heap)(hst:noStar (as++c::bs)=true)(hna:∀ o x p,f≠.Attribute o x p)
  (hk:cr K f0=true) (h1:am (v.e cx m f st)=([([],[],f0,st)]:LE)) (h2:as.map (fun e=>am (v.e cx m e st))=svs.map (fun sv=>([([],[],sv,st)]:LE))) (h3:bw (v.es cx m bs st)=([([],[],svs',st)]:LEs))
  (hc:∀ F₁ s₁ (R:Value→Shared→Prop),To [] F ρ st s F₁ ρ st s₁→(∀ F' s' x,To [] F₁ ρ st s₁ F' ρ st s'→V x→R x s')→wpAny (model prog w) A (eval c env) R E s₁)
  (h:∀ F' s' fv vs x vs',To [] F ρ st s F' ρ st s'→f0.Is ρ fv→ag (SV.Is ρ) svs vs→V x→ag (SV.Is ρ) svs' vs'→wpAny (model prog w) A (call fv (vs++x::vs')) Q E s'):wpAny (model prog w) A (eval (.Call f (as++c::bs) [] pos) env) Q E s:=by
 have nl:=@noA env.locals
 have e0:eval (.Call f (as++c::bs) [] pos) env=(do callWith pos (←eval f env) [] (backTo pos (starEach (as++c::bs) env)) (backToKw pos (keywordEach [] env))):=by
  cases f<;>first | rfl | exact absurd rfl (hna _ _ _)
 rw [e0]
 refine wpAny_bind (S.e rm at' fm (ac _ h1 noP (bS at'.len fun F₁ s₁ v₁ T₁ i₁=>?_)))
 dsimp only at T₁ i₁
 refine callWith_of (P:=fun h=>K.In h) ?_ (cM hk i₁) (ch hst ?_)
 ·rw [aY hst]; rfl
 ·have fm₁:=fm.to T₁ nl
  refine rN S rm at'.len T₁.at' fm₁ h2 hst fun F₂ s₂ vs T₂ iv=>?_
  refine wpAny_items_cons (hc F₂ s₂ _ (T₁.trans T₂) fun F₃ s₃ x T₃ hx=>?_) (bz (kY env hst) env).1
  refine S.es rm T₃.at' ((fm₁.to T₂ nl).to T₃ nl) (ac _ h3 noP (bS at'.len fun F₄ s₄ vs' T₄ i₄=>?_))
  dsimp only at T₄ i₄
  exact ⟨T₄.at'.rep.world.inK,h F₄ s₄ _ vs x vs' (T₁.trans (T₂.trans (T₃.trans T₄))) i₁ iv hx i₄⟩
end
end
section
structure sJ (F:Fz)(ps:List bo)(pa da ga:Addr)(d0 d1 d2 fi ke go bg wd:Int)(n:Nat):Prop where
 tf:l9 F
 hps:eX F pa ps
 hd:gV F da d0 d1 d2
 pr:dB F ga (dM (bH ps fi ke go++bJ d0 d1 d2) (plA bg wd) (bH ps fi ke go++bJ d0 d1 d2).length)
 code:Code (dM (bH ps fi ke go++bJ d0 d1 d2) (plA bg wd) (bH ps fi ke go++bJ d0 d1 d2).length) (plA bg wd) (bH ps fi ke go++bJ d0 d1 d2)
 hg:∀ x∈ps,ec n x
 hl:ps.length≤5
theorem eg.mono {F F':Fz}{a:Addr}{xs:List Int}(h:eg F a xs)(k:F.Sub F'):eg F' a xs:=let ⟨vs,n,e,i⟩:=h; ⟨vs,n,k _ _ e,i⟩
theorem gV.mono {F F':Fz}{a:Addr}{x y z:Int}(h:gV F a x y z)(k:F.Sub F'):gV F' a x y z:=let ⟨n,t0,t1,t2,e⟩:=h; ⟨n,t0,t1,t2,k _ _ e⟩
section
variable {m m':M}{ps:List bo}{xa:Addr}{go b:Int}{L:Loc}
theorem sJ.mono (h:sJ F ps pa da ga d0 d1 d2 fi ke go bg wd n)(k:F.Sub F'):sJ F' ps pa da ga d0 d1 d2 fi ke go bg wd n:=⟨h.tf.mono k,h.hps.mono k,h.hd.mono k,h.pr.mono k,h.code,h.hg,h.hl⟩
theorem aH.after {outer:List Env}(f:aH outer F ρ st.σ s.heap)(T:To X F ρ st s F' ρ' st' s')(k:bq outer s.heap s'.heap):aH outer F' ρ' st'.σ s'.heap:=fun en hen=>by
 obtain ⟨z1,z2,z3,z4,o,es,ep,ho,hd⟩:=f en hen
 obtain ⟨sl,e⟩:=k en hen o ho
 obtain ⟨y3,y4⟩:=T.outside ho ⟨z3,z4⟩
 exact ⟨z1,z2,y3,y4,_,es,ep,e,hd⟩
theorem pB (m:M)(b:Int)(xs:List Int):(lwR m b++[(7,SO.ro (.ilist xs))]).Perm (mcW m b xs):=by
 unfold lwR mcW cbH
 rw [List.append_assoc,List.append_assoc]
 exact List.Perm.append_left _ List.perm_append_comm
theorem CW {v:Ev}(S:aG v){fx:Expr}{ax:List Expr}{cp:Pos}{R:Value→Shared→Prop}(rm:aj 39 A)(X:sJ F ps pa da ga d0 d1 d2 fi ke go bg wd n)(at':At F ρ ⟨lwR m b,7⟩ s)(fm:Fm F ρ (lwR m b) (cO p 38) env L s.heap)
  (h1:am (v.e (cO p 38) L fx ⟨lwR m b,7⟩)=([([],[],.sta 1101,⟨lwR m b,7⟩)]:LE)) (h2:bw (v.es (cO p 38) L ax ⟨lwR m b,7⟩)=([([],[],[.sta pa,.uint fi,.sta xa,.sta da],⟨lwR m b,7⟩)]:LEs)) (h3:noStar ax=true) (h4:bG fx=false) (hxs:eg F xa xs) (hn:xs.length=n) (h9:n≤9)
  (h:∀ F' s' x,To [] F ρ ⟨lwR m b,7⟩ s F' ρ ⟨lwR m b,7⟩ s'→(∃ t,x=.int ((ps.foldl (aX d0 d1 d2) (fH xs,fi)).2.fmod 18446744073709551616) t)→R x s'):wpAny (model prog w) A (eval (.Call fx ax [] cp) env) R E s:=by
 refine br S (rm.down (by show 38≤39; omega)) at' fm h3 (a8 h4) (FI p) (ac _ h1 noP rfl) (ac _ h2 noP rfl) fun F₁ ρ₁ s₁ fv vs T₁ ifv ivs=>?_
 have q1':=aU T₁ at'.len
 subst q1'
 cases ifv
 obtain ⟨v0,v1,v2,v3,rfl,rfl,⟨t1,rfl⟩,rfl,rfl⟩:=ivs.inv4
 exact yD rm T₁.at'.bare (X.hps.mono T₁.ext.fz) (hxs.mono T₁.ext.fz) (X.hd.mono T₁.ext.fz) (by rw [hn]; exact X.hg) (by omega) fun F₂ s₂ t T₂=>h F₂ s₂ _ (T₁.trans (T₂.lift T₁.at')) ⟨t,rfl⟩
set_option maxHeartbeats 1000000 in
theorem Bn {sh:Bool}{v:Ev}(S:aG v){f fx:Expr}{as ax bs:List Expr}{pos cp:Pos}{Q:Value→Shared→Prop}{outer:List Env}{B:Nat}{tps:Array Value}(rm:aj 39 A)(hfr:A.frames=some outer)(X:sJ F ps pa da ga d0 d1 d2 fi ke go bg wd n)
  (at':At F ρ ⟨lwR m b,7⟩ s) (fm:Fm F ρ (lwR m b) (cO p 38) env L s.heap) (hfo:aH outer F ρ (lwR m b) s.heap) (htab:s.heap.get? TB=some (tabObj tps)) (hT1:TB∉ae ρ (lwR m b)) (hT2:F TB=none) (htp:tps=#[]∨d5 p F tps) (hsh:sh=true→tps=#[])
  (hst:noStar (as++.Call fx ax [] cp::bs)=true) (hna:bG f=false) (hna':bG fx=false) (hst':noStar ax=true)
  (e1:am (v.e (cO p 38) L f ⟨lwR m b,7⟩)=([([],[],.sta 1122,⟨lwR m b,7⟩)]:LE)) (e2:as.map (fun e=>am (v.e (cO p 38) L e ⟨lwR m b,7⟩))=[SV.ref 0,.sta ga,.uint bg,.sta xa].map (fun sv=>([([],[],sv,⟨lwR m b,7⟩)]:LE))) (e3:bw (v.es (cO p 38) L bs ⟨lwR m b,7⟩)=([([],[],[.uint mn,.bool sh],⟨lwR m b,7⟩)]:LEs))
  (e4:am (v.e (cO p 38) L fx ⟨lwR m b,7⟩)=([([],[],.sta 1101,⟨lwR m b,7⟩)]:LE)) (e5:bw (v.es (cO p 38) L ax ⟨lwR m b,7⟩)=([([],[],[.sta pa,.uint fi,.sta xa,.sta da],⟨lwR m b,7⟩)]:LEs))
  (hxs:eg F xa xs) (hn:xs.length=n) (h9:n≤9) (hmn:mn=gR ps) (G:qK m B) (hB:B≤10000)
  (h:∀ F' s' b' m' tps',To (TB::frL outer) F ρ ⟨lwR m b,7⟩ s F' ρ ⟨lwR m' b',7⟩ s'→s'.heap.get? TB=some (tabObj tps')→F' TB=none→d5 p F' tps'→bq outer s.heap s'.heap→qK m' (B+1300)→Q (.bool true) s'):wpAny (model prog w) A (eval (.Call f (as++.Call fx ax [] cp::bs) [] pos) env) Q E s:=by
 have hlen:ρ.length=7:=at'.len
 obtain ⟨m',tr,⟨m₁,tr₁,r₁⟩,hc,hrip,hR',hdue,h3,h5,hf,ho,hlate,n1,n2,n3,G'⟩:=zP X.code (args:=xs) (by rw [hn]; exact X.hg) X.hl (by omega) G hB
 refine r8 S (rm.down (by show 38≤39; omega)) at' fm hst (a8 hna) (FK p) e1 e2 e3 (fun F₁ s₁ R T₁ k=>CW S rm (X.mono T₁.ext.fz) T₁.at' (fm.to T₁ (fun z=>nomatch z)) e4 e5 hst' hna' (hxs.mono T₁.ext.fz) hn h9 k) fun F₁ s₁ fv vs x vs' T₁ ifv iv hx iv'=>?_
 cases ifv
 obtain ⟨t2,rfl⟩:=hx
 obtain ⟨v0,v1,v2,v3,rfl,⟨q0,hq0,rfl⟩,rfl,⟨t1,rfl⟩,rfl⟩:=iv.inv4
 obtain ⟨v5,v6,rfl,⟨t3,rfl⟩,rfl⟩:=iv'.inv2
 have X₁:=X.mono T₁.ext.fz
 obtain ⟨zs,c,hFx,hi⟩:=hxs.mono T₁.ext.fz
 have T₂:To [] F₁ ρ ⟨lwR m b,7⟩ s₁ F₁ (ρ++[(xa,0)]) ⟨lwR m b++[(7,.ro (.ilist xs))],8⟩ s₁:=T₁.at'.ros [(xa,0)] (by rw [hlen]; rfl) fun e he=>by
  obtain rfl:=ak he
  exact ⟨_,rfl,(xa,0),by show (ρ++[(xa,0)])[7]?=_; rw [List.getElem?_append_right (by omega),hlen]; rfl,fun h' hh=>⟨zs,c,hh _ _ hFx,hi⟩⟩
 have T₂:=(T₁.trans T₂).perm (pB m b xs)
 have nTB:∀ {ρ':Rho} {st':St} {F':Fz} {s':Shared} {X:List Addr},To X F ρ ⟨lwR m b,7⟩ s F' ρ' st' s'→TB∉ae ρ' st'.σ∧F' TB=none:=fun T=>T.outside htab ⟨hT1,hT2⟩
 have hfo₂:=hfo.to T₂ fun _ _ z=>nomatch z
 refine AO (q7:=(xa,0)) rm hfr T₂.at' (by rw [List.getElem?_append_left (by omega)]; exact hq0) (by rw [List.getElem?_append_right (by omega),hlen]; rfl) hfo₂ X₁.tf (T₂.ext.keep _ _ htab hT1 (fun z=>nomatch z)) (nTB T₂).1 (nTB T₂).2 (htp.imp id fun z=>?_) hsh X₁.pr G.g.len G.g.oct n1 (by omega) n2 n3
  (fun _=>⟨d8 ps+7,m₁,by rw [hmn,hc]; omega,tr₁,r₁⟩) tr (by rw [hmn,hc]) hrip hR' hdue h3 h5 hf ho hlate fun F₃ s₃ b' tps' T₃ htab' hT' hit' hsk=>?_
 ·obtain ⟨a1,c',a2,a3⟩:=z
  exact ⟨a1,c',a2,fun g hg=>a3 g fun a o e=>hg a o (T₁.ext.fz a o e)⟩
 have T₄:=(T₂.nil.trans T₃).perm (pB _ b' xs).symm
 have T₅:=T₄.trim hlen (by rfl') ⟨[],by simp⟩
 refine h F₃ s₃ b' _ tps' T₅ htab' hT' hit' (fun en hen o ho=>?_) G'
 obtain ⟨_,_,z3,z4,_⟩:=hfo en hen
 exact hsk en hen o (T₂.ext.keep _ _ ho z3 (fun z=>nomatch z))
end
end
section
noncomputable def lc (m:M)(b:Int)(xs:List Int):Hp:=lwR m b++[(7,.ro (.ilist xs))]
noncomputable def rn (xs:List Int):List Int:=(eZ xs).map fun x=>3*x+1
section
variable {m m':M}{ps:List bo}{oa:Addr}{go b:Int}{L:Loc}
theorem wR (at':At F ρ ⟨lwZ m c seed ys,11⟩ s)(fm:Fm F ρ (lwZ m c seed ys) (jv p 38) env (dX bg fi aa pa ga (.sta da)) s.heap):∃ ρ',At F ρ' ⟨lwR m 0,7⟩ s∧Fm F ρ' (lwR m 0) (cO p 38) env (dX bg fi aa pa ga (.sta da)) s.heap∧∀ a∈ae ρ' (lwR m 0),a∈ae ρ (lwZ m c seed ys):=by
 obtain ⟨ρ7,τ,rfl,h7⟩:∃ a b,ρ=a++b∧a.length=7:=⟨ρ.take 7,ρ.drop 7,(List.take_append_drop ..).symm,by
  have z:ρ.length=11:=at'.len
  rw [List.length_take]; omega⟩
 have htr:trim 7 (lwZ m c seed ys)=lwR m 0:=by rfl'
 have a7:=at'.trim h7 (by dsimp only; rw [htr]; rfl')
 dsimp only at a7
 rw [htr] at a7
 have f:Fm F (ρ7++τ) (lwZ m c seed ys) (cO p 38) env (dX bg fi aa pa ga (.sta da)) s.heap:=⟨⟨fm.eok.sc,fm.eok.gl,fm.eok.bu,fm.eok.kd,fun x k e=>by simp [af] at e⟩,fm.ns,fm.out,fm.free⟩
 have f7:=f.trim h7 (by rfl') (by rfl)
 rw [htr] at f7
 exact ⟨ρ7,a7,f7,by rw [←htr]; exact gY h7⟩
theorem zY {b13:Stmt}{Q:Flow→Shared→Prop}(hb:b13=ad 13 (lwB p))(rm:aj 39 A)(X:sJ F ps pa da ga d0 d1 d2 fi ke go bg wd n)(at':At F ρ ⟨lwR m b,7⟩ s)(fm:Fm F ρ (lwR m b) (cO p 38) env (dX bg fi aa pa ga (.sta da)) s.heap)
  (h:∀ F' s',To [env.locals] F ρ ⟨lwR m b,7⟩ s F' ρ ⟨lwR m b,7⟩ s'→Fm F' ρ (lwR m b) (cO p 38) env (lR bg fi (gR ps) aa pa ga da) s'.heap→Q .next s'):wpAny (model prog w) A (exec b13 env) Q E s:=by
 subst hb
 obtain ⟨v,hv,S⟩:=dj
 have e1:=Dz p m b bg fi aa pa ga da v hv
 have e2:=DA p m b bg fi aa pa ga da v hv
 have c1:=Dv p
 have c2:=Du p
 rw [Gl p]
 generalize caF (aI (ad 13 (lwB p)))=fx at e1 c2 ⊢
 generalize caA (aI (ad 13 (lwB p)))=ax at e2 c1 ⊢
 refine wpAny_Assign_Name (br S (rm.down (by show 38≤39; omega)) at' fm c1 (a8 c2) (Dy p) (ac _ e1 noP rfl) (ac _ e2 noP rfl) fun F₁ ρ₁ s₁ fv vs T₁ ifv ivs=>?_)
 have q1':=aU T₁ at'.len
 subst q1'
 cases ifv
 obtain ⟨v0,rfl,rfl⟩:=ivs.inv1
 refine AK rm T₁.at'.bare (X.hps.mono T₁.ext.fz) fun F₂ s₂ t T₂=>?_
 have T₃:=T₁.trans (T₂.lift T₁.at')
 refine a9 (sv:=.uint (gR ps)) T₃.at' (fm.to T₃ (fun z=>nomatch z)) (Dx p) ⟨t,rfl⟩ fun s₃ T₄ fm₃=>?_
 rw [Dw] at fm₃
 exact h F₂ s₃ ((T₃.nil (X:=[env.locals])).trans T₄) fm₃
set_option maxHeartbeats 1000000 in
theorem C1 {b15:Stmt}{Q:Flow→Shared→Prop}(hb:b15=ad 15 (lwB p))(rm:aj 38 A)(at':At F ρ ⟨lwR m b,7⟩ s)(fm:Fm F ρ (lwR m b) (cO p 38) env (lR bg fi mn aa pa ga da) s.heap)(hxs:eg F aa xs)(hn:xs.length≤9)
  (h:∀ F' s' oa,To [env.locals] F ρ ⟨lwR m b,7⟩ s F' ρ ⟨lwR m b,7⟩ s'→Fm F' ρ (lwR m b) (cO p 38) env (pC bg fi mn pa ga da (.sta oa)) s'.heap→eg F' oa (rn xs)→Q .next s'):wpAny (model prog w) A (exec b15 env) Q E s:=by
 subst hb
 have hlen:ρ.length=7:=at'.len
 obtain ⟨v,hv,S⟩:=dj
 have nl:=@noA env.locals
 have e1:=Dk p m b bg fi mn xs pa ga da v hv
 have e2:=fun i zs=>Dj p m b i xs zs v hv
 have c1:=Gj p
 have c2:=Di p
 have c3:=Dg p
 rw [c1]
 generalize dO (fN p)=elt at e2 c1 ⊢
 generalize bl (fN p)=it at c2 e1 ⊢
 generalize ao (gK (fN p))=np
 generalize ao (ci (ad 15 (lwB p)))=ap at c3 ⊢
 generalize ao (fN p)=lp at c3 ⊢
 generalize aS (ad 15 (lwB p))=sp
 have eok:=fm.eok
 have hclos:closureFor (mA p) env=pure ([]:List (Str×Addr)):=by
  rw [cI (by
   rw [wW]
   intro x hx hk
   rcases fb hx with rfl | rfl<;>cases hk),wW]
  rfl
 obtain ⟨zs0,c0,hFa,hia⟩:=hxs
 have hq7:(ρ++[(aa,0)])[7]?=some (aa,0):=by rw [List.getElem?_append_right (by omega),hlen]; rfl
 have T_:To [] F ρ ⟨lwR m b,7⟩ s F (ρ++[(aa,0)]) ⟨lc m b xs,8⟩ s:=at'.ros [(aa,0)] (by rw [hlen]; rfl) fun e he=>by
  obtain rfl:=ak he
  exact ⟨_,rfl,(aa,0),hq7,fun h' hh=>⟨zs0,c0,hh _ _ hFa,hia⟩⟩
 have fm_:=Fm.last (m:=[("begin",.uint bg),("first",.uint fi),("parts",.sta pa),("deep",.sta da),("program",.sta ga),("state",.ref 0),("many",.uint mn)]) (x:="arguments") (sv:=.sta aa) (sv':=.ref 7) ((fm.to T_ nl).pick _ (zW bg fi mn aa pa ga da)) fun v i=>⟨(aa,0),hq7,i⟩
 have fm_:Fm F (ρ++[(aa,0)]) (lc m b xs) (cO p 38) env (Ab bg fi mn pa ga da (.ref 7)) s.heap:=fm_
 refine mN (kB eok (wX p) c3 (Df p)) (cz c2) hclos (aZ (dw (nM p)).1) (dE (nM p)) ?_
 refine S.e rm T_.at' fm_ (ac _ e1 (fun P hP=>by obtain rfl:=ak hP; omega) fun F₁ ρ₁ s₁ xv T₁ ix=>?_)
 dsimp only at T₁ ix
 have T₁:To [] F (ρ++[(aa,0)]) ⟨lc m b xs,8⟩ s F₁ ρ₁ ⟨(8,.ilist (eZ xs))::lc m b xs,9⟩ s₁:=T₁
 obtain ⟨q8,eρ⟩:=T₁.new1 (by rw [List.length_append,hlen]; rfl)
 subst eρ
 have hl9:((ρ++[(aa,0)])++[q8]).length=9:=T₁.at'.len
 have hq8:((ρ++[(aa,0)])++[q8])[8]?=some q8:=by
  rw [List.getElem?_append_right (by simp; omega)]
  simp [hlen]
 obtain ⟨_,hq,rfl⟩:=ix
 rw [hq8] at hq; cases hq
 obtain ⟨F₂,_,hout,T₂⟩:=T₁.freezeX T_.at' [8] (by rfl')
 have hfz:aW [8] ((8,SO.ilist (eZ xs))::lc m b xs)=(8,.ro (.ilist (eZ xs)))::lc m b xs:=by rfl'
 have fm₂:=(fm_.to T₁ nl).frz (ids:=[8]) hout
 dsimp only at T₂ fm₂
 rw [hfz] at T₂ fm₂
 obtain ⟨q,zs,c,hq,hFl,hi⟩:=T₂.at'.roIlist (k:=8) (xs:=eZ xs) (.head _)
 rw [hq8] at hq; cases hq
 have hall:∀ g,F₂.le g→g.IsList q8.1 zs:=fun g hg=>au (hg _ _ hFl)
 have hsz:zs.size=(eZ xs).length:=dK hi
 have hrl:(eZ xs).length=xs.length:=by unfold eZ; rw [rc (by omega),List.length_reverse]
 refine wpAny_pyIter_list (hall _ T₂.at'.rep.le) ?_
 refine eH (F₀:=F₂) (s₀:=s₁) (W:=[s₁.heap.objs.size]) (n:=(eZ xs).length) (n0:=9) (Wh:=fun _=>(8,.ro (.ilist (eZ xs)))::lc m b xs) (Y:=fun i=>(((eZ xs).take i).map fun x=>3*x+1).map .uint) (el:=fun i=>.uint ((eZ xs).getD i 0)) (ccx:=nN p 38)
  (hsz▸iG rfl rm.hand hall) T₂.at' (fun c o e=>Heap.get?_push_of_some _ e) (fun c hc=>by obtain rfl:=ak hc; exact aT _) ⟨⟨_,Heap.get?_push_size _ rfl,rfl,rfl⟩,(hall _ T₂.at'.rep.le).at fun o e=>Heap.get?_push_of_some _ e⟩ (fun hI hq=>wpAny_pyIter_listiter hI.1 hq)
  rfl (fun i hi=>by simp only [List.length_map,List.length_take]; omega) (eE (nM p)) (aZ (dw (nM p)).1)
  (fun C=>⟨dF eok.sc,eok.gl,eok.bu,aZ (Dh p),fun x k e=>by simp [af] at e⟩) (De p) (fun {i v h ρ} hi' hv=>?_) ?_ ?_
 ·rw [←Array.getElem?_toList] at hv
  obtain ⟨k,t,rfl,e⟩:=gb hi hv
  exact ⟨t,by rw [List.getD,e]; rfl⟩
 ·intro i F C D s E hi' hF a1 f1
  refine wpAny_tests_nil ?_
  rw [if_pos rfl]
  refine S.e rm a1 f1 (ac _ (e2 _ _) noP (bS (by rw [List.length_append,hl9]; rfl) fun F₅ s₅ y T₅ i₅=>?_))
  dsimp only at T₅ i₅
  exact ⟨F₅,_,T₅,i₅,by
   have e:(eZ xs)[i]?=some ((eZ xs).getD i 0):=by rw [List.getD,List.getElem?_eq_getElem hi']; rfl
   rw [List.take_add_one,e,List.map_append,List.map_append]; rfl⟩
 ·intro F₃ s₂ C D T hns hC hFC hC0
  have hne:env.locals≠C:=fun z=>by
   obtain ⟨mm,hmm,_⟩:=fm₂.ns
   obtain ⟨o,_,_,ho,_⟩:=hmm
   rw [z,hC0] at ho; cases ho
  have T':To [] F₂ ((ρ++[(aa,0)])++[q8]) ⟨(8,.ro (.ilist (eZ xs)))::lc m b xs,9⟩ s₁ F₃ (((ρ++[(aa,0)])++[q8])++[(D,0)]) ⟨(9,.slist ((rn xs).map .uint))::(8,.ro (.ilist (eZ xs)))::lc m b xs,10⟩ s₂:=by
   have:=T
   rw [List.take_length] at this
   exact this
  have hq9:(((ρ++[(aa,0)])++[q8])++[(D,0)])[9]?=some (D,0):=by rw [List.getElem?_append_right (by omega),hl9]; rfl
  have fm₃:=fm₂.to T' nl
  refine PySem.wpAny_assign_Name (a9 (sv:=.ref 9) T'.at' fm₃ (wX p) ⟨(D,0),hq9,rfl⟩ fun s₃ T₃ fm₃=>?_)
  obtain ⟨mm,o,es,ep,ho,hrest⟩:=hns
  refine ⟨mm,⟨o,es,ep,T₃.ext.keep C o ho hC (by simpa using fun z=>hne z.symm),hrest⟩,fun h' sb=>?_⟩
  have T₄:=((T'.nil (X:=[env.locals])).trans T₃).letgo hC hFC hC0 sb
  have fm₄:=(fm₃.pick _ (zV bg fi mn pa ga da (.ref 7) (.ref 9))).beside (W:=[C]) (h':=h') (fun c o hc e=>aB sb (by simpa using hc) e) (by simpa using hne)
  have T₅:=((((T_.trans T₂).nil (X:=[env.locals])).trans T₄).u.sub (T₄.at'.ints rfl) (fun _ h=>h))
  rw [show ((ρ++[(aa,0)])++[q8])++[(D,0)]=ρ++[(aa,0),q8,(D,0)] by simp] at T₅ fm₄ hq9
  obtain ⟨F₆,_,hout₆,T₆⟩:=T₅.to.freezeX at' [9] (by rfl')
  have hI:eg F₆ (D,0).1 (rn xs):=eg.of T₆.at' (k:=9) (.head _) hq9
  have fm₅:Fm F₃ (ρ++[(aa,0),q8,(D,0)]) ((9,.ilist (rn xs))::(8,.ro (.ilist (eZ xs)))::lc m b xs) (cO p 38) env (pC bg fi mn pa ga da (.ref 9)) h':=fm₄.sub (by exact fun _ h=>h)
  have fm₆:=Fm.last (m:=[("begin",.uint bg),("first",.uint fi),("parts",.sta pa),("deep",.sta da),("program",.sta ga),("state",.ref 0),("many",.uint mn)]) (x:="others") (sv:=.ref 9) (sv':=.sta D) (fm₅.frz (ids:=[9]) hout₆) fun v i=>by
   obtain ⟨q,hq,rfl⟩:=i
   rw [hq9] at hq
   cases hq; rfl
  have htr:trim 7 (aW [9] ((9,SO.ilist (rn xs))::(8,.ro (.ilist (eZ xs)))::lc m b xs))=lwR m b:=by rfl'
  have T₇:=T₆.trim hlen (by dsimp only; rw [htr]; rfl') ⟨[],by simp⟩
  dsimp only at T₇
  rw [htr] at T₇
  have fm₇:=fm₆.trim hlen (by rfl') (by rfl)
  rw [htr] at fm₇
  exact h F₆ _ D T₇ fm₇ hI
end
end
section
theorem wv {xs:List Int}(h:xs.length≤9):(rn xs).length=xs.length:=by
 unfold rn eZ
 rw [List.length_map,rc h,List.length_reverse]
section
variable {m m':M}{ps:List bo}{oa:Addr}{go b:Int}{L:Loc}
set_option maxHeartbeats 1000000 in
theorem zR {b13 b14 b15 b16:Stmt}{Q:Flow→Shared→Prop}(h13:b13=ad 13 (lwB p))(h14:b14=ad 14 (lwB p))(h15:b15=ad 15 (lwB p))(h16:b16=ad 16 (lwB p))(rm:aj 39 A)(hfr:A.frames=some [env])(hef:env.frame=some env.locals)
  (X:sJ F ps pa da ga d0 d1 d2 fi ke go bg wd n) (at':At F ρ ⟨lwZ m c seed ys,11⟩ s) (fm:Fm F ρ (lwZ m c seed ys) (jv p 38) env (dX bg fi aa pa ga (.sta da)) s.heap) (htab:s.heap.get? TB=some (tabObj #[])) (hT1:TB∉ae ρ (lwZ m c seed ys)) (hT2:F TB=none)
  (hxs:eg F aa xs) (hn:xs.length=n) (h9:n≤9) (G:qK m 16)
  (h:∀ F' s' ρ' st' tps,ToU [TB,env.locals] F ρ ⟨lwZ m c seed ys,11⟩ s F' ρ' st' s'→s'.heap.get? TB=some (tabObj tps)→Q (.ret (.bool true)) s'):wpAny (model prog w) A (execs (b13::b14::b15::b16::[]) env) Q E s:=by
 obtain ⟨v,hv,S⟩:=dj
 have nl:=@noA env.locals
 have rm':aj 38 A:=rm.down (by omega)
 obtain ⟨ρ',a7,f7,hsub⟩:=wR at' fm
 have T7:ToU [TB,env.locals] F ρ ⟨lwZ m c seed ys,11⟩ s F ρ' ⟨lwR m 0,7⟩ s:=(To.refl at').u.sub a7 hsub
 have hT7:TB∉ae ρ' (lwR m 0):=fun z=>hT1 (hsub _ z)
 have hlen:ρ'.length=7:=a7.len
 have elTB:TB≠env.locals:=fun z=>by
  obtain ⟨_,⟨o,_,_,ho,hd,_⟩,_⟩:=f7.ns
  rw [←z,htab] at ho; cases ho; cases hd
 refine wpAny_execs_cons (zY h13 rm X a7 f7 fun F₁ s₁ T₁ f₁=>?_)
 have htab₁:s₁.heap.get? TB=some (tabObj #[]):=T₁.ext.keep _ _ htab hT7 (by simpa using elTB)
 obtain ⟨hT11,hT12⟩:=T₁.outside htab ⟨hT7,hT2⟩
 have X₁:=X.mono T₁.ext.fz
 have hfo₁:aH [env] F₁ ρ' (lwR m 0) s₁.heap:=Fm.frame (st:=⟨lwR m 0,7⟩) f₁ hef (outer:=[]) fun _ h=>nomatch h
 have b1:=fun mn=>Dn p m 0 bg fi mn aa pa ga da v hv
 have b2:=fun mn=>Dp p m 0 bg fi mn aa pa ga da v hv
 have b3:=fun mn=>Do p m 0 bg fi mn aa pa ga da v hv
 have b4:=fun mn=>Ds p m 0 bg fi mn aa pa ga da v hv
 have b5:=fun mn=>Dt p m 0 bg fi mn aa pa ga da v hv
 have b6:=Dm p
 have b7:=Dl p
 have b8:=Dq p
 have b9:=Dr p
 rw [h14,Gk p]
 generalize (caA (cf p)).take 4=as at b2 b6 ⊢
 generalize (caA (cf p)).drop 5=bs at b3 b6 ⊢
 generalize caF (bc 4 (caA (cf p)))=fx at b4 b6 b8 ⊢
 generalize caA (bc 4 (caA (cf p)))=ax at b5 b6 b9 ⊢
 generalize Expr.pos (bc 4 (caA (cf p)))=cp at b6 ⊢
 generalize caF (cf p)=fc at b1 b7 ⊢
 generalize Expr.pos (cf p)=fp
 generalize ah (ad 14 (lwB p))=bT
 refine wpAny_execs_cons (wpAny_If (wpAny_isTrue_Not ?_))
 show wpAny _ _ (do let v←eval (.Call fc (as++.Call fx ax [] cp::bs) [] fp) env; standAt fp; holding [v] (truthy v)) _ _ _
 refine wpAny_bind ?_
 refine Bn (sh:=true) S rm hfr X₁ T₁.at' f₁ hfo₁ htab₁ hT11 hT12 (.inl rfl) (fun _=>rfl) b6 b7 b8 b9 (b1 _) (b2 _) (b3 _) (b4 _) (b5 _) (hxs.mono T₁.ext.fz) hn h9 rfl G (by decide) fun F₂ s₂ b' m₂ tps T₂ htab₂ hT₂ hit₂ hsk₂ G₂=>?_
 refine wpAny_bind (wpAny_standAt (wpAny_holding (wpAny_truthy_bool ?_)))
 rw [if_neg (by simp)]
 refine wpAny_execs_nil ?_
 have hel₁:∃ o,s₁.heap.get? env.locals=some o:=by obtain ⟨_,⟨o,_,_,ho,_⟩,_⟩:=f₁.ns; exact ⟨o,ho⟩
 obtain ⟨oe,hoe⟩:=hel₁
 obtain ⟨y1,y2⟩:=T₂.outside hoe ⟨f₁.out,f₁.free⟩
 have f₂:Fm F₂ ρ' (lwR m₂ b') (cO p 38) env (lR bg fi (gR ps) aa pa ga da) s₂.heap:=Fm.slots f₁ (fun o ho=>hsk₂ env (.head _) o ho) f₁.eok (fun _ z=>z) y1 y2
 have T₀₂:ToU [TB,env.locals] F ρ ⟨lwZ m c seed ys,11⟩ s F₂ ρ' ⟨lwR m₂ b',7⟩ s₂:=T7.trans ((T₁.u.weaken (by simp)).trans T₂.u)
 have k02:F.Sub F₂:=T₀₂.fz
 refine wpAny_execs_cons (C1 h15 rm' T₂.at' f₂ (hxs.mono k02) (by omega) fun F₃ s₃ oa T₃ f₃ hI=>?_)
 have hT21:=(T₂.outside htab₁ ⟨hT11,hT12⟩).1
 have htab₃:s₃.heap.get? TB=some (tabObj tps):=T₃.ext.keep _ _ htab₂ hT21 (by simpa using elTB)
 obtain ⟨hT31,hT32⟩:=T₃.outside htab₂ ⟨hT21,hT₂⟩
 have hfo₃:aH [env] F₃ ρ' (lwR m₂ b') s₃.heap:=Fm.frame (st:=⟨lwR m₂ b',7⟩) f₃ hef (outer:=[]) fun _ h=>nomatch h
 have T₀₃:ToU [TB,env.locals] F ρ ⟨lwZ m c seed ys,11⟩ s F₃ ρ' ⟨lwR m₂ b',7⟩ s₃:=T₀₂.trans (T₃.u.weaken (by simp))
 have hit₃:d5 p F₃ tps:=by
  obtain ⟨a1,c',a2,a3⟩:=hit₂
  exact ⟨a1,c',a2,fun g hg=>a3 g fun a o e=>hg a o (T₃.ext.fz a o e)⟩
 have b1:=fun mn=>C7 p m₂ b' bg fi mn oa pa ga da v hv
 have b2:=fun mn=>C9 p m₂ b' bg fi mn oa pa ga da v hv
 have b3:=fun mn=>C8 p m₂ b' bg fi mn oa pa ga da v hv
 have b4:=fun mn=>Dc p m₂ b' bg fi mn oa pa ga da v hv
 have b5:=fun mn=>Dd p m₂ b' bg fi mn oa pa ga da v hv
 have b6:=C6 p
 have b7:=C5 p
 have b8:=Da p
 have b9:=Db p
 rw [h16,Gi p]
 generalize (caA (ce p)).take 4=as at b2 b6 ⊢
 generalize (caA (ce p)).drop 5=bs at b3 b6 ⊢
 generalize caF (bc 4 (caA (ce p)))=fx at b4 b6 b8 ⊢
 generalize caA (bc 4 (caA (ce p)))=ax at b5 b6 b9 ⊢
 generalize Expr.pos (bc 4 (caA (ce p)))=cp at b6 ⊢
 generalize caF (ce p)=fc at b1 b7 ⊢
 generalize Expr.pos (ce p)=fp
 refine wpAny_execs_cons (wpAny_Return_some ?_)
 refine Bn (sh:=false) S rm hfr (X.mono T₀₃.fz) T₃.at' f₃ hfo₃ htab₃ hT31 hT32 (.inr hit₃) (fun z=>nomatch z) b6 b7 b8 b9 (b1 _) (b2 _) (b3 _) (b4 _) (b5 _) hI (by rw [wv (by omega),hn]) h9 rfl G₂ (by decide) fun F₄ s₄ b₄ m₄ tps₄ T₄ htab₄ hT₄ hit₄ hsk₄ G₄=>?_
 exact h F₄ s₄ _ _ tps₄ (T₀₃.trans T₄.u) htab₄
end
end
section
noncomputable def lQ (xs:List Int):Hp:=[(1,.cell none),(0,.ro (.ilist xs))]
noncomputable def wY (xs:List Int):Hp:=[(5,.list [.ref 3,.int 0,.uint (fX xs)]),(4,.ilist (cpy xs)),(3,.ilist (cpy xs)),(2,.ilist (cpy xs)),(1,.cell (some (.ref 5))),(0,.ro (.ilist xs))]
noncomputable def ut (xs:List Int):Hp:=[(5,.list [.ref 3,.uint 0,.uint (fX xs)]),(4,.ilist (cpy xs)),(3,.ro (.ilist (cpy xs))),(2,.ilist (cpy xs)),(1,.cell (some (.ref 5))),(0,.ro (.ilist xs))]
theorem ET (xs:List Int):dn [5,3,1] (ut xs) [0,1,2]=lwW 0 (fX xs) (cpy xs):=by rfl'
theorem lw {ρ:Rho}(xs:List Int):ae ρ (ut xs)=ae ρ (aW [3] (wY xs)):=by rfl
theorem AJ:∀ n<64,(sliceRange (sliceBounds none (some 60) none n).1 (sliceBounds none (some 60) none n).2.1 (sliceBounds none (some 60) none n).2.2).length≤63:=by decide +kernel
theorem tO {xs:List Int}(h:xs.length≤63):(cpy xs).length≤63:=Nat.le_trans (List.length_filterMap_le ..) (AJ _ (by omega))
theorem Aa (p:Params):lwB p=ad 0 (lwB p)::ad 1 (lwB p)::ad 2 (lwB p)::ad 3 (lwB p)::ad 4 (lwB p)::ad 5 (lwB p)::ad 6 (lwB p)::ad 7 (lwB p)::ad 8 (lwB p)::ad 9 (lwB p)::ad 10 (lwB p)::ad 11 (lwB p)::ad 12 (lwB p)::ad 13 (lwB p)::ad 14 (lwB p)::ad 15 (lwB p)::ad 16 (lwB p)::[]:=by rfl'
theorem wt (x:bo):(aO x).length≤5:=by
 cases x with
 | deep a b c=>exact Nat.le_refl _
 | arg j b c=>
  show (if j≤5 then [PR.ins (.lea 0 0 (ct j) b c)] else [PR.ins (.movM 10 5 (16+8*((j:Int) - 6))),PR.ins (.lea 0 0 10 b c)]).length≤5
  split
  ·exact (by decide:1≤5)
  ·exact (by decide:2≤5)
theorem mv:∀ ps:List bo,(ps.flatMap aO).length≤5*ps.length
 | []=>Nat.le_refl _
 | x::r=>by
  have:=mv r
  have:=wt x
  rw [List.flatMap_cons,List.length_append,List.length_cons]
  omega
theorem vW {ps:List bo}(h:ps.length≤5)(fi ke go d0 d1 d2:Int):9≤(bH ps fi ke go++bJ d0 d1 d2).length∧(bH ps fi ke go++bJ d0 d1 d2).length≤99:=by
 have:=mv ps
 have h1:(gP fi ke).length=5:=rfl
 have h2:(ly go).length=3:=rfl
 have h3:(bJ d0 d1 d2).length=9:=rfl
 unfold bH
 simp only [List.length_append,h1,h2,h3]
 omega
section
theorem wP (a:At F ρ ⟨aW [3] (wY xs),n⟩ s):At F ρ ⟨ut xs,n⟩ s:=by
 refine a.view (by rfl) fun e he=>?_
 rcases aJ he with rfl | he
 ·obtain ⟨q,hq,O⟩:=a.rep.ok _ (List.mem_cons_self ..)
  have O2:=hG.mpr O
  exact .inr ⟨fun o z=>(by cases z),q,hq,hG.mp (show OkO ρ s.heap q (lP (.list [.ref 3,.uint 0,.uint (fX xs)])) from O2)⟩
 ·exact .inl (.tail _ he)
theorem wQ {b0 b1 b2 b3:Stmt}{sts:List Stmt}{Q:Flow→Shared→Prop}(h0:b0=ad 0 (lwB p))(h1:b1=ad 1 (lwB p))(h2:b2=ad 2 (lwB p))(h3:b3=ad 3 (lwB p))(rm:aj 38 A)(at':At F [q0,q1] ⟨lQ xs,2⟩ s)(fm:Fm F [q0,q1] (lQ xs) (pF p 38) env [("script",.ref 0)] s.heap)(hx:xs.length≤63)
  (h:∀ F' s' r0 r1 r2 c bg wd fi ke go (n:Nat),0≤c→0≤bg→bg<9223372036854775808→n≤9→ToU [env.locals] F [q0,q1] ⟨lQ xs,2⟩ s F' [r0,r1,r2] ⟨lwW c (fX xs) (cpy xs),3⟩ s'→Fm F' [r0,r1,r2] (lwW c (fX xs) (cpy xs)) (cj p 38) env (ju bg wd fi ke go (n:Int)) s'.heap→wpAny (model prog w) A (execs sts env) Q E s'):wpAny (model prog w) A (execs (b0::b1::b2::b3::sts) env) Q E s:=by
 obtain ⟨v,hv,S⟩:=dj
 have nl:=@noA env.locals
 have e0:=Je p xs v hv
 have e1:=fun c seed ys=>mZ (n:=3) (Jd p c seed ys v hv)
 have e2:=fun c seed bg wd fi ke ys=>mZ (n:=3) (Jc p c seed bg wd fi ke ys v hv)
 have e3:=fun c seed bg wd fi ke go ys=>mZ (n:=3) (Jb p c seed bg wd fi ke go ys v hv)
 rw [←h0] at e0
 rw [←h1] at e1
 rw [←h2] at e2
 rw [←h3] at e3
 have hcl:(cpy xs).length≤63:=tO hx
 have hy:(cpy xs).length≤100000:=by omega
 refine wpAny_execs_cons (S.s rm at' fm (ac _ e0 (fun P hP=>?_) fun F₁ ρ₁ s₁ f T₁ fm₁ hf=>?_))
 ·rcases gx hP with rfl | rfl | rfl<;>omega
 cases hf
 dsimp only at T₁ fm₁ ⊢
 have T₁:To [env.locals] F [q0,q1] ⟨lQ xs,2⟩ s F₁ ρ₁ ⟨wY xs,6⟩ s₁:=T₁
 have fm₁:Fm F₁ ρ₁ (wY xs) (pF p 38) env [("script",.ref 0)] s₁.heap:=fm₁
 obtain ⟨F₂,_,hout,T₂⟩:=T₁.freezeX at' [3] (by rfl)
 have fm₂:=(fm₁.frz (ids:=[3]) hout).sub (σ':=ut xs) (by rw [lw]; exact fun _ z=>z)
 have a₃:At F₂ ρ₁ ⟨ut xs,6⟩ s₁:=wP T₂.at'
 have a₄:=a₃.reb (os:=[5,3,1]) (ord:=[0,1,2]) (by rfl) (by rfl) (by rfl)
 have fm₄:=Fm.reb (os:=[5,3,1]) (ord:=[0,1,2]) (cx':=cj p 38) (m':=[]) a₃ (fm₂.pick (m':=[]) [] rfl) rfl (fun x k' e=>by
  unfold af at e
  split at e
  ·rename_i q; rw [aQ] at q; cases e; subst q; exact ⟨1,by rfl,rfl⟩
  ·cases e) (by rfl)
 have hfo:∀ a∈ae (bY ρ₁ [5,3,1]) (dn [5,3,1] (ut xs) [0,1,2]),a∈ae ρ₁ (aW [3] (wY xs)):=fun a ha=>by
  obtain ⟨k,_,o,q,h1,h2,h3⟩:=iT a₃ _ ha
  rw [←lw]
  exact aw.mpr ⟨_,h1,q,h2,h3⟩
 have T₄:=T₂.u.sub a₄ hfo
 rw [ET] at T₄ fm₄
 obtain ⟨r0,r1,r2,er⟩:∃ a b c,bY ρ₁ [5,3,1]=[a,b,c]:=⟨_,_,_,rfl⟩
 rw [er] at T₄ fm₄
 generalize fX xs=seed at *
 generalize hys:cpy xs=ys at *
 have k0:∀ c:Int,0≤c→nCx c ys:=fun c hc=>⟨hc,hy⟩
 refine wpAny_execs_cons (iB (L:=wZ _ _ _ _) S rm T₄.at' fm₄ (e1 0 seed ys) (fun P hP=>?_) (by rfl) (by rfl) (by rfl) fun F₅ ρ₅ s₅ f T₅ fm₅ hf=>?_)
 ·exact bC hP (k0 _ (by decide)) fun hP=>bC hP (k0 _ (by decide)) fun hP=>bC hP (k0 _ (by decide)) fun hP=>bC hP (k0 _ (by decide)) fun hP=>nomatch hP
 cases hf
 have b0:0≤(aV ys 0 seed).fmod 9223372036854775808:=Int.fmod_nonneg_of_pos _ (by decide)
 have b1:(aV ys 0 seed).fmod 9223372036854775808<9223372036854775808:=Int.fmod_lt_of_pos _ (by decide)
 generalize (aV ys 0 seed).fmod 9223372036854775808=bg at *
 have T₅:To [env.locals] F₂ [r0,r1,r2] ⟨lwW 0 seed ys,3⟩ s₁ F₅ [r0,r1,r2] ⟨lwW (0+1+1+1+1) seed ys,3⟩ s₅:=T₅
 have fm₅:Fm F₅ [r0,r1,r2] (lwW (0+1+1+1+1) seed ys) (cj p 38) env (wZ bg (aV ys (0+1) seed) (aV ys (0+1+1) seed) (aV ys (0+1+1+1) seed)) s₅.heap:=fm₅
 generalize aV ys (0+1) seed=wd at *
 generalize aV ys (0+1+1) seed=fi at *
 generalize aV ys (0+1+1+1) seed=ke at *
 have c4:(0:Int)≤0+1+1+1+1:=by decide
 generalize (0:Int)+1+1+1+1=c at *
 refine wpAny_execs_cons (iB (L:=uu bg wd fi ke _) S rm T₅.at' fm₅ (e2 c seed bg wd fi ke ys) (fun P hP=>by obtain rfl:=ak hP; exact k0 _ c4) (by rfl) (by rfl) (by rfl) fun F₆ ρ₆ s₆ f T₆ fm₆ hf=>?_)
 cases hf
 have T₆:To [env.locals] F₅ [r0,r1,r2] ⟨lwW c seed ys,3⟩ s₅ F₆ [r0,r1,r2] ⟨lwW (c+1) seed ys,3⟩ s₆:=T₆
 have fm₆:Fm F₆ [r0,r1,r2] (lwW (c+1) seed ys) (cj p 38) env (uu bg wd fi ke (8*(aV ys c seed).fmod 3)) s₆.heap:=fm₆
 generalize 8*(aV ys c seed).fmod 3=go at *
 have c5:0≤c+1:=by omega
 generalize c+1=c1 at *
 refine wpAny_execs_cons (iB (L:=ju bg wd fi ke go _) S rm T₆.at' fm₆ (e3 c1 seed bg wd fi ke go ys) (fun P hP=>by obtain rfl:=ak hP; exact k0 _ c5) (by rfl) (by rfl) (by rfl) fun F₇ ρ₇ s₇ f T₇ fm₇ hf=>?_)
 cases hf
 have T₇:To [env.locals] F₆ [r0,r1,r2] ⟨lwW c1 seed ys,3⟩ s₆ F₇ [r0,r1,r2] ⟨lwW (c1+1) seed ys,3⟩ s₇:=T₇
 have fm₇:Fm F₇ [r0,r1,r2] (lwW (c1+1) seed ys) (cj p 38) env (ju bg wd fi ke go ((aV ys c1 seed).fmod 10)) s₇.heap:=fm₇
 have n0:0≤(aV ys c1 seed).fmod 10:=Int.fmod_nonneg_of_pos _ (by decide)
 have n1:(aV ys c1 seed).fmod 10<10:=Int.fmod_lt_of_pos _ (by decide)
 generalize (aV ys c1 seed).fmod 10=co at *
 obtain ⟨n,rfl⟩:∃ n:Nat,co=n:=⟨co.toNat,by omega⟩
 exact h F₇ s₇ r0 r1 r2 (c1+1) bg wd fi ke go n (by omega) b0 b1 (by omega) (T₄.trans (T₅.trans (T₆.trans T₇)).u) fm₇
end
end
section
theorem ec.ok {n:Nat}{x:bo}(h:ec n x):sI x:=by
 cases x with
 | deep a b c=>exact h.1
 | arg j b c=>exact h.1.2
section
variable {m m':M}
theorem ToU.outside (T:ToU X F ρ st s F' ρ' st' s'){a:Addr}{o:Obj}(ho:s.heap.get? a=some o)(h1:a∉ae ρ st.σ)(h2:F a=none):a∉ae ρ' st'.σ∧F' a=none:=by
 refine ⟨fun z=>?_,?_⟩
 ·rcases T.new a z with z | z
  ·exact h1 z
  ·rw [z] at ho; cases ho
 ·cases q:F' a with
  | none=>rfl
  | some x=>
   rcases T.fznew a x q with z | z
   ·rw [h2] at z; cases z
   ·rw [z] at ho; cases ho
theorem C4 {Q:Flow→Shared→Prop}(rm:aj 39 A)(hfr:A.frames=some [env])(hef:env.frame=some env.locals)(tf:l9 F)(at':At F [q0,q1] ⟨lQ xs,2⟩ s)(fm:Fm F [q0,q1] (lQ xs) (pF p 38) env [("script",.ref 0)] s.heap)(hx:xs.length≤63)
  (htab:s.heap.get? TB=some (tabObj #[])) (hT1:TB∉ae [q0,q1] (lQ xs)) (hT2:F TB=none)
  (h:∀ F' s' ρ' st' tps,ToU [TB,env.locals] F [q0,q1] ⟨lQ xs,2⟩ s F' ρ' st' s'→s'.heap.get? TB=some (tabObj tps)→Q (.ret (.bool true)) s'):wpAny (model prog w) A (execs (lwB p) env) Q E s:=by
 have rm':aj 38 A:=rm.down (by omega)
 have hy:=tO hx
 have elTB:TB≠env.locals:=fun z=>by
  obtain ⟨_,⟨o,_,_,ho,hd,_⟩,_⟩:=fm.ns
  rw [←z,htab] at ho; cases ho; cases hd
 rw [Aa p]
 refine wQ rfl rfl rfl rfl rm' at' fm hx fun F₁ s₁ r0 r1 r2 c bg wd fi ke go n c0 b0 b1 h9 T₁ fm₁=>?_
 generalize fX xs=seed at *
 generalize cpy xs=ys at *
 refine wpAny_execs_cons (wV rm' T₁.at' fm₁ c0 (by omega) h9 fun F₂ s₂ aa T₂ fm₂ hI=>?_)
 have hIl:(drawn ys c seed n).length=n:=by simp [drawn]
 generalize drawn ys c seed n=args at *
 have c2:0≤c+(n:Int):=by omega
 generalize c+(n:Int)=c' at *
 refine wpAny_execs_cons (wT rm T₂.at' fm₂ c2 hy h9 fun F₃ s₃ pa c₃ ps k3 T₃ fm₃ hP hl hg=>?_)
 refine wpAny_execs_cons (zZ rm' T₃.at' fm₃ k3 hy fun F₄ s₄ da c₄ d0 d1 d2 k4 e0 e1 T₄ fm₄ hD=>?_)
 obtain ⟨l1,l2⟩:=vW hl fi ke go d0 d1 d2
 refine wpAny_execs_cons (zT rm T₄.at' fm₄ hD (hP.mono T₄.ext.fz) hl (fun x hx=>(hg x hx).ok) (by rw [List.length_append] at l2; omega) fun F₅ s₅ ra T₅ fm₅ hR=>?_)
 have hcode:=AT (L:=bH ps fi ke go++bJ d0 d1 d2) (wide:=wd) b0 b1 (by omega)
 have hpk:∀ k x,(bH ps fi ke go++bJ d0 d1 d2)[k]?=some x→oA (bH ps fi ke go++bJ d0 d1 d2).length k x:=fun k x e=>wa l1 hg e0 e1 x (List.mem_of_getElem? e)
 refine wpAny_execs_cons (C2 rm T₅.at' fm₅ hR l2 hpk fun F₆ s₆ ga ρ₆ T₆ fm₆ hPr=>?_)
 refine zU rfl rfl rfl rfl rm' T₆.at' fm₆ k4 hy fun F₇ s₇ c₇ x y d r T₇ fm₇=>?_
 have TT:=T₁.trans (T₂.u.trans (T₃.u.trans (T₄.u.trans (T₅.u.trans (T₆.trans T₇.u)))))
 obtain ⟨t1,t2⟩:=TT.outside htab hT1 hT2
 have ht:=TT.keep _ _ htab hT1 (by simpa using elTB)
 have s3:F₃.Sub F₇:=(T₄.u.trans (T₅.u.trans (T₆.trans T₇.u))).fz
 have s4:F₄.Sub F₇:=(T₅.u.trans (T₆.trans T₇.u)).fz
 have s2:F₂.Sub F₇:=(T₃.u.trans (T₄.u.trans (T₅.u.trans (T₆.trans T₇.u)))).fz
 obtain ⟨g1,g2,g3,g4,g5⟩:=DB x y d r
 exact zR rfl rfl rfl rfl rm hfr hef ⟨tf.mono TT.fz,hP.mono s3,hD.mono s4,hPr.mono T₇.ext.fz,hcode,hg,hl⟩ T₇.at' fm₇ ht t1 t2 (hI.mono s2) hIl h9 ⟨g1,g2,g3,g4,Nat.le_of_eq g5⟩ fun F' s' ρ' st' tps T ht'=>h F' s' ρ' st' tps ((TT.weaken (by simp)).trans T) ht'
end
end
section
theorem tw (p:Params):codeHdIn (an p) 1121 TB=true:=by rfl'
theorem zX (p:Params):(an p).lookup TB=none:=by rfl'
theorem FJ (p:Params):nsIn (an p) mainGlobals nY.name=some (some (.ref 1127)):=by rfl'
section
variable {m m':M}{la:Addr}
theorem vf {h:Heap}{mg mb:Str→Option Value}(X:K.In h)(hg:h.Ns mainGlobals mg)(hb:h.Ns builtinsNs mb)(hbb:∀ x:Str,x≠"__name__"→mb x=bootBuiltins x)(hl:h.NoLimit):Wd K h:=
 ⟨X,⟨mg,hg,fun x r e=>by
  cases r with
  | none=>exact mg_none_of X hg e
  | some v=>exact mg_of X hg e⟩,⟨mb,hb,hbb⟩,hl⟩
theorem w7 {Q:Value→Shared→Prop}(rm:aj 40 A)(hfr:A.frames=some [])(tf:l9 F)(at':At F [(la,0)] ⟨[(0,.ro (.ilist xs))],1⟩ s)(hx:xs.length≤63)(htab:s.heap.get? TB=some (tabObj #[]))(hT2:F TB=none)
  (h:∀ s' tps,(∀ b o,s.heap.get? b=some o→b≠TB→s'.heap.get? b=some o)→(∀ b o,s.heap.get? b=some o→∃ o',s'.heap.get? b=some o')→s'={ s with heap:=s'.heap,toks:=s'.toks }→s'.heap.get? TB=some (tabObj tps)→Q (.bool true) s'):wpAny (model prog w) A (call (.ref 1127) [.ref la]) Q E s:=by
 obtain ⟨fd,fn,hsc,_⟩:=hM (C3 p) at'.rep.world.inK
 rw [wU] at fn
 refine gk (d:=39) (args:=[.ref 0]) lwN rm at' fn (by rw [hsc]; exact wS p) (by rfl') (by rfl') (.cons ⟨(la,0),rfl,rfl⟩ .nil) rfl fun env s₀ cs hcs T₀ fm₀ nw rm' hef hec=>?_
 obtain ⟨c1,rfl⟩:=rJ hcs
 rw [hsc] at fm₀
 have T₀:To [] F [(la,0)] ⟨[(0,.ro (.ilist xs))],1⟩ s F [(la,0),(c1,0)] ⟨lQ xs,2⟩ s₀:=T₀
 have fm₀:Fm F [(la,0),(c1,0)] (lQ xs) (pF p 38) env [("script",.ref 0)] s₀.heap:=⟨⟨fm₀.eok.sc,fm₀.eok.gl,fm₀.eok.bu,fm₀.eok.kd,fm₀.eok.cel⟩,fm₀.ns,fm₀.out,fm₀.free⟩
 have nf:∀ b,b∉ae [(la,0)] ([(0,.ro (.ilist xs))]:Hp):=fun b z=>nomatch z
 obtain ⟨t1,t2⟩:=T₀.outside htab ⟨nf _,hT2⟩
 have ht:=T₀.ext.keep _ _ htab (nf _) (fun z=>nomatch z)
 refine C4 rm' (Around.frames_deeper hfr) hef tf T₀.at' fm₀ hx ht t1 t2 fun F' s' ρ' st' tps T ht'=>?_
 have TT:=(T₀.u.nil (X:=[TB,env.locals])).trans T
 refine h s' tps (fun b o e ne=>TT.keep b o e (nf _) fun z=>?_) TT.live TT.sh ht'
 rcases fb z with z | z
 ·exact ne z
 ·subst z; rw [nw] at e; cases e
end
theorem w6 (ar:List WData):LW.row.toRowW.claim.post ar (.bool true) ar=true:=by rfl'
theorem rK (ar:List WData)(c:ExcName):LW.row.toRowW.claim.raises ar c=false:=by rfl'
theorem walk:PySem.Challenge.rw_nn0079_01.Holds:=Cw hd (by
 rw [H7]
 intro s₀ s₁ mg mb G y fa o pm cd doc dV kV ho hd hcd hD hmg hg args vals as hpre hlay hrd hwl hlo
 wrow_args hpre hlay hrd hwl hlo
 rename_i xs hs hlay0 hL1 hr1 hl2 ws4 ws3 la vals as' hL ra w1 r0 hI hr hc1 hc2
 obtain ⟨X,htab⟩:=y
 have pe:LW.row.toRowW.prog=prog:=y8
 rw [IL] at X
 rw [pe]
 have htab:s₁.heap.get? TB=some (tabObj #[]):=htab
 have T:=G.T
 have hfa:fa=1127:=by
  have:=mg_of X T.g (FJ p)
  rw [hmg] at this
  cases this; rfl
 subst hfa
 obtain ⟨F,hF⟩:∃ F:Fz,F=fun a=>if a=TB then none else s₁.heap.get? a:=⟨_,rfl⟩
 have hle:F.le s₁.heap:=fun a o e=>by
  rw [hF] at e
  dsimp only at e
  split at e
  ·cases e
  ·exact e
 have hget:∀ {a o},a≠TB→s₁.heap.get? a=some o→F a=some o:=fun ne e=>by rw [hF]; dsimp only; rw [if_neg ne]; exact e
 have hT2:F TB=none:=by rw [hF]; exact if_pos rfl
 have hwd:∀ h',F.le h'→Wd K h':=fun h' hh=>vf (fun a o e=>hh a o (hget (fun z=>by rw [z,zX] at e; cases e) (X a o e))) (T.g.at fun o e=>hh _ o (hget (by decide) e)) (T.b.at fun o e=>hh _ o (hget (by decide) e)) T.builtins (T.nolimit.at fun o e=>hh _ o (hget (by decide) e))
 have a0:At F [] ⟨[],0⟩ s₁:=⟨⟨hle,hwd,(fun e h=>nomatch h),(fun e h=>nomatch h),.nil,(fun a h=>nomatch h)⟩,rfl⟩
 have tf:l9 F:=fun h' hh=>by
  refine ⟨codeHd_of_K (hwd h' hh).inK (tw p),mg,T.g.at fun o e=>hh _ o (hget (by decide) e),?_⟩
  obtain ⟨bm,ob,e1,e2,e3,e4,e5,e6⟩:=T.bmain
  have n1:bm≠mainGlobals:=fun z=>by
   obtain ⟨o,es,ep,x1,x2,_⟩:=T.g
   rw [z,x1] at e3; cases e3
   rw [x2] at e6; cases e6
  have n2:bm≠TB:=fun z=>by
   rw [z,htab] at e3; cases e3; cases e6
  exact ⟨bm,ob,e1,e2,n1,n2,hh _ _ (hget n2 e3),e4,e5,e6⟩
 have hob:s₁.heap.get? la=some { cls:=.type "list",data:=.seq vals.toArray }:=by
  obtain ⟨o,e1,_,n,e2⟩:=hL
  cases w1 with
  | list e3 _=>
   rw [e1] at e3; cases e3
   cases e2
   exact e1
 have hl:la≠TB:=fun z=>by rw [z,htab] at hob; cases hob
 have a1:=a0.ros (X:=[]) [(la,0)] (σr:=[(0,.ro (.ilist xs))]) (n:=1) rfl fun e he=>by
  obtain rfl:=ak he
  exact ⟨_,rfl,(la,0),rfl,fun h' hh=>⟨_,_,hh _ _ (hget hl hob),by simpa using hI⟩⟩
 refine w7 ⟨by decide,by decide,rfl⟩ rfl tf a1.at' (by omega) htab hT2 fun s' tps k lv sh ht'=>?_
 refine ⟨.inl ⟨.bool true,.bool true,[],rfl,fun c=>rK _ c,.bool true,w6 _,fun _=>⟨.nil,fun a h=>nomatch h⟩⟩,⟨fun b o e=>?_,lv⟩,by rw [sh],.of_eq (by rw [sh]; exact hg)⟩
 by_cases hb:b=TB
 ·subst hb
  rw [htab] at e; cases e
  refine .inr (.inl ⟨?_,rfl,#[],tps,rfl,?_⟩)
  ·obtain ⟨o,vs,_,_,_,_,_,_,_,x1,x2,x3,x4,_⟩:=codeHd_of_K X (tw p)
   exact ⟨_,o,vs,x1,x2,x3,x4⟩
  ·rw [ht']; simp [tabObj]
 ·exact .inl (k b o e hb))
end
end Mine
end
end
theorem PySem.Challenge.cw_nn0079_01_holds : PySem.Challenge.rw_nn0079_01.Holds :=
  Mine.walk
